/- Part 3 of the walks: mirrors, plain laws and walks used by the last text of this claim. -/
import Derived.Test.YtbccjgpbflaibaaGreatW2
import Derived.Test.YtbccjgpbflaibaaGreatProg
set_option linter.unusedVariables false
set_option linter.unusedSimpArgs false
namespace Go.SL.G
open Go Go.SL Go.Proofs
set_option maxHeartbeats 20000000
set_option maxRecDepth 100000
theorem Qj8 (s:Qab) (h:Qag) (m:Int):∀ (r:Nat) (out:List Qag) (v:Int) (x:Qag),0<=v->(x∈Qa7 h m ((s.Transfers.getD m.toNat default).Kill).Width ((s.Transfers.getD m.toNat default).Kill).Words ((s.Transfers.getD m.toNat default).Copies) r out v↔x∈out\/(x.Node=m/\(v<=x.Bit/\x.Bit < v+r)/\Qat (Tr s m) x.Bit h.Bit=true))
 | 0,out,v,x,h0=>by
  rw [Qa7]
  exact ⟨.inl,fun h=>h.elim id fun h=>absurd h.2.1 (by omega)⟩
 | r+1,out,v,x,h0=>by
  have hf:Qat (Tr s m) v h.Bit=(bif (v == h.Bit) then (bif (!Qei ((s.Transfers.getD m.toNat default).Kill) v) then true else Qa2 ((s.Transfers.getD m.toNat default).Copies) (QaB.mk v h.Bit)) else Qa2 ((s.Transfers.getD m.toNat default).Copies) (QaB.mk v h.Bit)):=by
   rw [Bool.eq_iff_iff,QlN]
   have hcc:(∃ c∈(Tr s m).Copies,c.From=v/\c.To=h.Bit)↔Qa2 ((s.Transfers.getD m.toNat default).Copies) (QaB.mk v h.Bit)=true:=by
    rw [Qk5]
    constructor
    ·rintro ⟨⟨a,b⟩,hc,rfl,rfl⟩; exact hc
    ·exact fun hc=>⟨_,hc,rfl,rfl⟩
   rw [hcc]
   unfold Tr
   by_cases e:v=h.Bit
   ·have e':(v == h.Bit)=true:=by simpa using e
    rw [e',cond_true,Ql2]
    cases Qas (s.Transfers.getD m.toNat default).Kill v <;> simp [e]
   ·have e':(v == h.Bit)=false:=by simpa using e
    rw [e',cond_false]; simp [e]
  have key:∀ (o:List Qag),(x∈o↔x∈out\/(Qat (Tr s m) v h.Bit=true/\x=⟨m,v⟩))->(x∈Qa7 h m ((s.Transfers.getD m.toNat default).Kill).Width ((s.Transfers.getD m.toNat default).Kill).Words ((s.Transfers.getD m.toNat default).Copies) r o (v+1)↔x∈out\/(x.Node=m/\(v<=x.Bit/\x.Bit < v+((r+1:Nat):Int))/\Qat (Tr s m) x.Bit h.Bit=true)):=fun o ho=>by
   rw [Qj8 s h m r o (v+1) x (by omega),ho]
   obtain ⟨xn,xb⟩:=x
   constructor
   ·rintro ((h | ⟨h1,h2⟩) | ⟨h1,h2,h3⟩)
    ·exact .inl h
    ·cases h2; exact .inr ⟨rfl,⟨by dsimp only; omega,by dsimp only; omega⟩,h1⟩
    ·exact .inr ⟨h1,by dsimp only at h2 ⊢; omega,h3⟩
   ·rintro (h | ⟨h1,h2,h3⟩)
    ·exact .inl (.inl h)
    ·dsimp only at h1 h2 h3
     by_cases e:xb=v
     ·subst e; subst h1; exact .inl (.inr ⟨h3,rfl⟩)
     ·exact .inr ⟨h1,by dsimp only; omega,h3⟩
  rw [Qa7]
  have hy:Qat (Tr s m) v h.Bit=true->(x∈out++[Qag.mk m v]↔x∈out\/(Qat (Tr s m) v h.Bit=true/\x=⟨m,v⟩)):=fun e=>by simp [e]
  have hn:Qat (Tr s m) v h.Bit=false->(x∈out↔x∈out\/(Qat (Tr s m) v h.Bit=true/\x=⟨m,v⟩)):=fun e=>by simp [e]
  cases e1:(v == h.Bit) with
  | true=>
   rw [e1,cond_true] at hf
   simp only [cond_true]
   cases e2:Qei ((s.Transfers.getD m.toNat default).Kill) v with
   | false=>
    rw [e2] at hf
    have e2':Qei (Qaf.mk ((s.Transfers.getD m.toNat default).Kill).Width ((s.Transfers.getD m.toNat default).Kill).Words) v=false:=e2
    simp only [e2',Bool.not_false,cond_true]
    exact key _ (hy hf)
   | true=>
    rw [e2] at hf
    have e2':Qei (Qaf.mk ((s.Transfers.getD m.toNat default).Kill).Width ((s.Transfers.getD m.toNat default).Kill).Words) v=true:=e2
    simp only [e2',Bool.not_true,cond_false]
    simp only [Bool.not_true,cond_false] at hf
    cases e3:Qa2 ((s.Transfers.getD m.toNat default).Copies) (QaB.mk v h.Bit) with
    | true=>exact key _ (hy (hf.trans e3))
    | false=>exact key _ (hn (hf.trans e3))
  | false=>
   rw [e1,cond_false] at hf
   simp only [cond_false]
   cases e3:Qa2 ((s.Transfers.getD m.toNat default).Copies) (QaB.mk v h.Bit) with
   | true=>exact key _ (hy (hf.trans e3))
   | false=>exact key _ (hn (hf.trans e3))
theorem QjS (s:Qab) (h:Qag):∀ (r:Nat) (out:List Qag) (v:Int) (x:Qag),0<=v->(x∈Qdd s h r out v↔x∈out\/((∃ j:Int,v<=j/\j < v+r/\(deps s h.Node).getD j.toNat 0=x.Node)/\(0<=x.Bit/\x.Bit < s.Width)/\Qat (Tr s x.Node) x.Bit h.Bit=true))
 | 0,out,v,x,h0=>by
  rw [Qdd]
  exact ⟨.inl,fun h=>h.elim id fun ⟨⟨j,a,b,_⟩,_⟩=>absurd a (by omega)⟩
 | r+1,out,v,x,h0=>by
  rw [Qdd]
  have:=Qj8 s h ((s.Deps.getD (h.Node:Int).toNat []).getD (v:Int).toNat 0) (((s.Width:Int) - 0).toNat) out 0 x (by omega)
  try dsimp only
  rw [QjS s h r _ (v+1) x (by omega),this]
  unfold deps
  constructor
  ·rintro ((h | ⟨h1,h2,h3⟩) | ⟨⟨j,a,b,c⟩,h2⟩)
   ·exact .inl h
   ·exact .inr ⟨⟨v,by omega,by omega,h1.symm⟩,by omega,h1 ▸ h3⟩
   ·exact .inr ⟨⟨j,by omega,by omega,c⟩,h2⟩
  ·rintro (h | ⟨⟨j,a,b,c⟩,h2,h3⟩)
   ·exact .inl (.inl h)
   ·by_cases e:j=v
    ·subst e; exact .inl (.inr ⟨c.symm,by omega,c ▸ h3⟩)
    ·exact .inr ⟨⟨j,by omega,by omega,c⟩,h2,h3⟩
theorem Qqq (s:Qab) (h b:Qag):b∈Qen s h↔tfl s b h:=by
 unfold Qen
 have:=QjS s h ((((((s.Deps.getD (h.Node:Int).toNat []).length:Nat):Int):Int) - 0).toNat) [] 0 b (by omega)
 try dsimp only
 rw [this]
 unfold tfl
 rw [QfZ]
 constructor
 ·rintro (h | ⟨⟨j,a,b,c⟩,h2⟩)
  ·cases h
  ·exact ⟨⟨j,a,by unfold deps; omega,c⟩,h2⟩
 ·rintro ⟨⟨j,a,b,c⟩,h2⟩
  exact .inr ⟨⟨j,a,by unfold deps at b; omega,c⟩,h2⟩
theorem Ql6 {next:List (Qag×List Qag)} (h0 h1:Int) (v:List Qag):∀ (r:Nat) (found:List (Qag×List Qag)) (further:List Qag) (i:Int) (R:Qag->Qag->Prop),0<=i->i+r=(v.length:Int)->Qmt next R found further ->
  Qmt next (fun y z=>R y z\/(y=⟨h0,h1⟩/\∃ j:Int,i<=j/\j < i+r/\v.getD j.toNat default=z)) (Qb3 next h0 h1 v r found further i).1 (Qb3 next h0 h1 v r found further i).2
 | 0,found,further,i,R,i0,i1,h=>h.congr fun y z=>⟨.inl,fun h=>h.elim id fun ⟨_,j,a,b,_⟩=>absurd a (by omega)⟩
 | r+1,found,further,i,R,i0,i1,h=>by
  have fin:∀ f u,Qmt next (fun y z=>R y z\/(y=⟨h0,h1⟩/\z=v.getD i.toNat default)) f u->Qmt next (fun y z=>R y z\/(y=⟨h0,h1⟩/\∃ j:Int,i<=j/\j < i+((r+1:Nat):Int)/\v.getD j.toNat default=z)) (Qb3 next h0 h1 v r f u (i+1)).1 (Qb3 next h0 h1 v r f u (i+1)).2:=fun f u hf=>
   (Ql6 h0 h1 v r f u (i+1) _ (by omega) (by omega) hf).congr fun y z=>by
    constructor
    ·rintro ((a | ⟨a,b⟩) | ⟨a,j,b,c,d⟩)
     ·exact .inl a
     ·exact .inr ⟨a,i,by omega,by omega,b.symm⟩
     ·exact .inr ⟨a,j,by omega,by omega,d⟩
    ·rintro (a | ⟨a,j,b,c,d⟩)
     ·exact .inl (.inl a)
     ·by_cases e:j=i
      ·subst e; exact .inl (.inr ⟨a,d.symm⟩)
      ·exact .inr ⟨a,j,by omega,by omega,d⟩
  rw [Qb3]
  cases e1:(QbX next (v.getD (i:Int).toNat default)).isSome with
  | true=>exact fin _ _ (h.old e1)
  | false=>
   simp only [cond_false]
   cases e2:(QbX found (v.getD (i:Int).toNat default)).isSome with
   | true=>
    simp only [cond_true,Qix]
    exact fin _ _ (h.new e1 (fun z=>⟨.inl,fun q=>q.elim id fun q=>by rw [q,h.fur]; exact e2⟩) h.fnd)
   | false=>
    simp only [cond_false,Qix]
    refine fin _ _ (h.new e1 (fun z=>by simp) (List.nodup_append.2 ⟨h.fnd,by simp,fun a ha c hc e=>?_⟩))
    rw [List.mem_singleton] at hc
    have:=(h.fur a).1 ha
    rw [e,hc,e2] at this; cases this
theorem QvI {d:List (Qag×List Qag)} (h:(d.map (·.1)).Nodup) (n:List (Qag×List Qag)) (x:Qag):QbX (Qbg d n) x=(QbX d x).or (QbX n x):=QiX (f:=Qbg) (fun _=>rfl) (fun _ _ _=>rfl) h n x
theorem QtW:∀ (d n:List (Qag×List Qag)),n.length<=(Qbg d n).length
 | [],n=>Nat.le_refl _
 | e :: d,n=>by
  rw [Qbg]
  exact Nat.le_trans (QpE n e.1 e.2).1 (QtW d _)
theorem Qrq {d n:List (Qag×List Qag)} (h:d≠[]) (hk:∀ e∈d,e.1 ∉ n.map (·.1)):n.length+1<=(Qbg d n).length:=by
 cases d with
 | nil=>exact absurd rfl h
 | cons e d=>
  rw [Qbg]
  have:=(QpE n e.1 e.2).2 (hk e (by simp))
  have:=QtW d (mset n e.1 e.2)
  omega
theorem Qox {s:Qab} {last:Qag} {k:Nat} {next:List (Qag×List Qag)} {level:List Qag} (h:QkY s last k next level) {found:List (Qag×List Qag)} {further:List Qag} (hf:Qmt next (fun y z=>y∈level/\tfl s z y) found further) (hn:further≠[]) (ho:∀ x∈level,QaP s x=false):QkY s last (k+1) (Qbg found next) further:=by
 have hD:∀ x,(QbX found x).isSome=true↔Dst s last (k+1) x:=fun x=>by
  rw [hf.iso]
  constructor
  ·rintro ⟨⟨y,hy,ht⟩,hx⟩
   have hd:=(h.lev y).1 hy
   refine ⟨⟨y,hd.1,ht⟩,fun j hj hp=>?_⟩
   have:=(h.key x).2 ⟨j,by omega,hp⟩
   rw [hx] at this; cases this
  ·intro hd
   obtain ⟨y,a,b⟩:=QiK hd
   refine ⟨⟨y,(h.lev y).2 a,b⟩,?_⟩
   cases e:(QbX next x).isSome with
   | false=>rfl
   | true=>
    obtain ⟨j,hj,hp⟩:=(h.key x).1 e
    exact absurd hp (hd.2 j (by omega))
 have hget:=QvI hf.nd next
 have hold:∀ x,(∃ j,j<=k/\Pth s last j x)->QbX (Qbg found next) x=QbX next x:=fun x hx=>by
  rw [hget]
  cases e:QbX found x with
  | none=>simp
  | some v=>
   have:=(hD x).1 (by rw [e]; rfl)
   obtain ⟨j,hj,hp⟩:=hx
   exact absurd hp (this.2 j (by omega))
 refine ⟨fun x=>(hf.fur x).trans (hD x),fun x=>?_,?_,fun j x hj hd y=>?_,fun j x hj hd=>?_,(QjX (f:=Qbg) (fun _=>rfl) (fun _ _ _=>rfl) _ _).2 h.nd,?_,hf.fnd⟩
 ·rw [hget]
  constructor
  ·intro hs
   cases e:QbX found x with
   | some v=>exact ⟨k+1,Nat.le_refl _,((hD x).1 (by rw [e]; rfl)).1⟩
   | none=>
    rw [e,Option.none_or] at hs
    obtain ⟨j,a,b⟩:=(h.key x).1 hs
    exact ⟨j,by omega,b⟩
  ·rintro ⟨j,a,b⟩
   obtain ⟨i,c,d⟩:=QlG b
   by_cases c2:i=k+1
   ·subst c2
    have:=(hD x).2 d
    cases e:QbX found x with
    | some v=>rfl
    | none=>rw [e] at this; cases this
   ·have:=(h.key x).2 ⟨i,by omega,d.1⟩
    cases e:QbX found x with
    | some v=>rfl
    | none=>rw [Option.none_or]; exact this
 ·rw [hold last ⟨0,by omega,rfl⟩]; exact h.zero
 ·by_cases c:j+1<=k
  ·rw [hold x ⟨j+1,c,hd.1⟩]; exact h.val j x c hd y
  ·have:j=k:=by omega
   subst this
   have hs:=(hD x).2 hd
   have hv:=hf.val x y
   rw [hget]
   cases e:QbX found x with
   | none=>rw [e] at hs; cases hs
   | some v=>
    rw [e] at hv
    rw [Option.some_or,hv,h.lev]
    have hnx:=((hf.iso x).1 hs).2
    exact ⟨fun q=>q.1,fun q=>⟨q,hnx⟩⟩
 ·by_cases c:j < k
  ·exact h.noo j x c hd
  ·have:j=k:=by omega
   subst this
   exact ho x ((h.lev x).2 hd)
 ·have hfn:found≠[]:=by
   obtain ⟨x,hx⟩:=List.exists_mem_of_ne_nil _ hn
   have:=(hf.fur x).1 hx
   rintro rfl
   cases this
  have:=Qrq hfn fun e he hk=>by
   have h1:=Qhn.2 (List.mem_map_of_mem (f:=(·.1)) he)
   have h2:=((hf.iso e.1).1 h1).2
   rw [Qhn.2 hk] at h2; cases h2
  have:=h.cnt
  omega
theorem QsQ {s:Qab} {n b:Int} (h:Qap s n b≠0):QfO s n b=([],false,Qap s n b):=by
 have e':(Qap s n b != 0)=true:=by simpa using h
 unfold QfO
 simp only [e',cond_true]
theorem Ql1 {s:Qab} {next:List (Qag×List Qag)} (lv:List Qag):∀ (r:Nat) (found:List (Qag×List Qag)) (further:List Qag) (i:Int) (R:Qag->Qag->Prop),0<=i->i+r=(lv.length:Int)->Qmt next R found further ->
  Qmt next (fun y z=>R y z\/(tfl s z y/\∃ j:Int,i<=j/\j < i+r/\lv.getD j.toNat default=y)) (QcZ s next lv r found further i).1 (QcZ s next lv r found further i).2
 | 0,found,further,i,R,i0,i1,h=>h.congr fun y z=>⟨.inl,fun h=>h.elim id fun ⟨_,j,a,b,_⟩=>absurd a (by omega)⟩
 | r+1,found,further,i,R,i0,i1,h=>by
  have q:=Ql6 ((lv.getD (i:Int).toNat default).Node) ((lv.getD (i:Int).toNat default).Bit) (Qen s (lv.getD (i:Int).toNat default)) (((((Qen s (lv.getD (i:Int).toNat default)).length:Nat):Int) - 0).toNat) found further 0 R (by omega) (by omega) h
  rw [QcZ]
  refine (Ql1 lv r _ _ (i+1) _ (by omega) (by omega) q).congr fun y z=>?_
  have hb:(∃ j:Int,0<=j/\j < 0+((((((Qen s (lv.getD (i:Int).toNat default)).length:Nat):Int) - 0).toNat:Nat):Int)/\(Qen s (lv.getD (i:Int).toNat default)).getD j.toNat default=z)↔tfl s z (lv.getD (i:Int).toNat default):=by
   rw [<- Qqq,QdK (d:=default)]
   exact ⟨fun ⟨j,a,b,c⟩=>⟨j,a,by omega,c⟩,fun ⟨j,a,b,c⟩=>⟨j,a,by omega,c⟩⟩
  rw [hb]
  have he:(⟨(lv.getD (i:Int).toNat default).Node,(lv.getD (i:Int).toNat default).Bit⟩:Qag)=lv.getD (i:Int).toNat default:=rfl
  rw [he]
  constructor
  ·rintro ((a | ⟨a,b⟩) | ⟨a,j,b,c,d⟩)
   ·exact .inl a
   ·subst a; exact .inr ⟨b,i,by omega,by omega,rfl⟩
   ·exact .inr ⟨a,j,by omega,by omega,d⟩
  ·rintro (a | ⟨a,j,b,c,d⟩)
   ·exact .inl (.inl a)
   ·by_cases e:j=i
    ·subst e; subst d; exact .inl (.inr ⟨rfl,a⟩)
    ·exact .inr ⟨a,j,by omega,by omega,d⟩
theorem QmS {s:Qab} {next:List (Qag×List Qag)} {lv:List Qag} {o:List (Qag×List Qag)×List Qag} (e:QcZ s next lv (((((lv.length:Nat):Int):Int) - 0).toNat) [] [] 0=o):Qmt next (fun y z=>y∈lv/\tfl s z y) o.1 o.2:=by
 rw [<- e]
 refine (Ql1 lv _ [] [] 0 _ (by omega) (by omega) (Qmt.nil next)).congr fun y z=>?_
 rw [QdK (d:=default)]
 constructor
 ·rintro (a | ⟨a,j,b,c,d⟩)
  ·exact a.elim
  ·exact ⟨⟨j,b,by omega,d⟩,a⟩
 ·rintro ⟨⟨j,b,c,d⟩,a⟩
  exact .inr ⟨a,j,b,by omega,d⟩
theorem Qiy {s:Qab} (hv:QcT s) {last:Qag} (hl:Qfv s last):∀ (r k:Nat) (next:List (Qag×List Qag)) (level:List Qag),QkY s last k next level->(s.Deps.length:Int)*s.Width+1<=(next.length:Int)+r->∃ res,Qdt s r next level=.ret res/\Qz5 s last res
 | 0,k,next,level,h,hr=>by
  have:=QnF hv hl h
  omega
 | r+1,k,next,level,h,hr=>by
  have hst:=QiW s level
  have hmax:=QnF hv hl h
  have hcnt:=h.cnt
  rw [Qdt]
  dsimp only
  generalize Qa1 (Qcl level) (fun x=>Qd6 x s)=st at hst ⊢
  by_cases c:st=[]
  ·subst c
   have ho:∀ x∈level,QaP s x=false:=fun x hx=>by
    cases e:QaP s x with
    | false=>rfl
    | true=>cases (hst x).2 ⟨hx,e⟩
   have hf:=QmS (s:=s) (next:=next) (lv:=level) rfl
   rw [decide_eq_false (by simp),cond_false]
   generalize QcZ s next level (((((level.length:Nat):Int):Int) - 0).toNat) [] [] 0=o at hf ⊢
   obtain ⟨o1,o2⟩:=o
   dsimp only at hf ⊢
   by_cases d:o2=[]
   ·subst d
    exact ⟨_,rfl,.inr ⟨rfl,Qs2 h hf ho⟩⟩
   ·have e2:(((o2.length:Nat):Int) == 0)=false:=by
     have:=List.length_pos_iff.2 d
     simp; omega
    rw [e2,cond_false]
    have hs:=Qox h hf d ho
    have hn1:next.length+1<=(Qbg o1 next).length:=by
     have hfn:o1≠[]:=by
      obtain ⟨x,hx⟩:=List.exists_mem_of_ne_nil _ d
      have:=(hf.fur x).1 hx
      rintro rfl
      cases this
     exact Qrq hfn fun e he hk=>by
      have h1:=Qhn.2 (List.mem_map_of_mem (f:=(·.1)) he)
      have h2:=((hf.iso e.1).1 h1).2
      rw [Qhn.2 hk] at h2; cases h2
    exact Qiy hv hl r (k+1) _ _ hs (by omega)
  ·have hpos:=List.length_pos_iff.2 c
   obtain ⟨x0,hx0⟩:=List.exists_mem_of_ne_nil _ c
   have hx0':=(hst x0).1 hx0
   obtain ⟨p,e,g⟩:=Qkp h k (((next.length:Nat))+2) st [] (fun x=>Dst s last k x/\QaP s x=true) (by omega) (Nat.le_refl _) (fun x=>by rw [hst,h.lev]) (fun x hx=>hx.1) ⟨x0,(h.lev x0).1 hx0'.1,hx0'.2⟩
   rw [decide_eq_true (by omega),cond_true]
   unfold Qj9
   rw [e]
   exact ⟨_,rfl,.inl ⟨k,p,rfl,g,h.noo,⟨x0,(h.lev x0).1 hx0'.1,hx0'.2⟩,by omega⟩⟩
theorem Qq6 {s:Qab} {n b:Int} (h:Qap s n b=0):Qz5 s ⟨n,b⟩ (QfO s n b):=by
 obtain ⟨hv,hn,hb⟩:=(Qly s n b).1 h
 have hbw:((s.Deps.length*s.Width.toNat:Nat):Int)=(s.Deps.length:Int)*s.Width:=by
  have:=hv.w.1
  rw [Int.natCast_mul,Int.toNat_of_nonneg this]
 obtain ⟨res,e,hr⟩:=Qiy hv (last:=⟨n,b⟩) ⟨hn,hb⟩ ((s.Deps.length*s.Width.toNat:Nat)+2) 0 _ _ (QrM s ⟨n,b⟩) (by omega)
 have e':(Qap s n b != 0)=false:=by simpa using h
 unfold QfO
 simp only [e',cond_false]
 rw [e]
 exact hr
theorem Qwd {s:Qab} {n b:Int} (hv:QcT s) (hn:0<=n/\n < (s.Deps.length:Int)) (hb:0<=b/\b < s.Width):Qdt s ((s.Deps.length*s.Width.toNat:Nat)+2) (mset ([]:List (Qag×List Qag)) (Qag.mk n b) ([]:List Qag)) [(Qag.mk n b)]≠.oof:=by
 have hbw:((s.Deps.length*s.Width.toNat:Nat):Int)=(s.Deps.length:Int)*s.Width:=by
  have:=hv.w.1
  rw [Int.natCast_mul,Int.toNat_of_nonneg this]
 obtain ⟨res,e,hr⟩:=Qiy hv (last:=⟨n,b⟩) ⟨hn,hb⟩ ((s.Deps.length*s.Width.toNat:Nat)+2) 0 _ _ (QrM s ⟨n,b⟩) (by omega)
 rw [e]; intro h; cases h
theorem Qrr {s:Qab} {last:Qag} {next:List (Qag×List Qag)} {level cl st:List Qag} (h:∃ k,QkY s last k next level) (hc:Qcl level=cl) (hs:Qa1 cl (fun x=>Qd6 x s)=st) (hp:¬ 0 < ((st.length:Nat):Int)) {found:List (Qag×List Qag)} {further:List Qag}
  (hf:QcZ s next level (((((level.length:Nat):Int):Int) - 0).toNat) [] [] 0=(found,further)) (hn:¬ ((further.length:Nat):Int)=0) {nx:List (Qag×List Qag)} (h3:Qbg found next=nx):∃ k,QkY s last k nx further:=by
 subst hc
 obtain ⟨k,h⟩:=h
 have hst:=QiW s level
 rw [hs] at hst
 have hse:st=[]:=List.length_eq_zero_iff.1 (by omega)
 subst hse
 have ho:∀ x∈level,QaP s x=false:=fun x hx=>by
  cases e:QaP s x with
  | false=>rfl
  | true=>cases (hst x).2 ⟨hx,e⟩
 rw [<- h3]
 exact ⟨k+1,Qox h (QmS hf) (fun e=>hn (by rw [e]; rfl)) ho⟩
theorem QnI (s:Qab) (n b:Int):QbE s n b=Qap s n b:=by
 unfold QbE Qap
 rw [QsR]
 cases h:Qbi s with
 | false=>rfl
 | true=>
  have hb:=((QcD s).1 h).bl
  rw [hb]
theorem Qon (s:Qab) (n b:Int):QbE s n b=0↔QcT s/\(0<=n/\n < (s.Deps.length:Int))/\0<=b/\b < s.Width:=by
 unfold QbE
 cases e:Qbi s with
 | false=>
  exact ⟨fun h=>by simp at h,fun h=>by rw [(QcD s).2 h.1] at e; cases e⟩
 | true=>
  have hv:=(QcD s).1 e
  have hb:=hv.bl
  simp only [Bool.not_true,cond_false]
  by_cases h1:n < 0
  ·rw [decide_eq_true h1]; exact ⟨fun h=>by simp at h,fun h=>by omega⟩
  ·by_cases h2:(s.Boundary.length:Int)<=n
   ·rw [decide_eq_false h1,decide_eq_true h2]; exact ⟨fun h=>by simp at h,fun h=>by omega⟩
   ·by_cases h3:b < 0
    ·rw [decide_eq_false h1,decide_eq_false h2,decide_eq_true h3]; exact ⟨fun h=>by simp at h,fun h=>by omega⟩
    ·by_cases h4:s.Width<=b
     ·rw [decide_eq_false h1,decide_eq_false h2,decide_eq_false h3,decide_eq_true h4]; exact ⟨fun h=>by simp at h,fun h=>by omega⟩
     ·rw [decide_eq_false h1,decide_eq_false h2,decide_eq_false h3,decide_eq_false h4]; exact ⟨fun _=>⟨hv,⟨by omega,by omega⟩,by omega,by omega⟩,fun _=>rfl⟩
theorem Qr5 {s:Qab} {n b r:Int} (h:QbE s n b=r) (h0:(r != 0)=false):QcT s/\(0<=n/\n < (s.Deps.length:Int))/\0<=b/\b < s.Width:=(Qon s n b).1 (h.trans (by simpa using h0))
theorem QmO {s:Qab} (hv:QcT s) {m a c:Int} (m0:0<=m) (m1:m < (s.Deps.length:Int)) (a0:0<=a) (a1:a < s.Width) (c0:0<=c) (c1:c < s.Width):Qcm (s.Transfers.getD (m:Int).toNat default) a c=Qat (Tr s m) a c:=by
 have ht:=QnJ hv m0 m1
 have hw:=ht.2
 unfold Qcm Tr
 rw [ht.1,decide_eq_true a0,decide_eq_true (by omega),decide_eq_true c0,decide_eq_true (by omega)]
 rfl
theorem QrO {s:Qab} {level n m c:Int} (hl:0<=level) (m0:0<=m) (m1:m < (s.Boundary.length:Int)) (hw:0<=s.Width):∀ (r:Nat) (d:List Int) (more:Bool) (a:Int),0<=a->a<=s.Width->s.Width - a < r->(d.length:Int)=(s.Boundary.length:Int)*s.Width ->
  ∃ d' more',Qaq s level n m c r d more a=.brk (d',more')/\DQ d more d' more'
 | 0,d,more,a,h0,ha,h1,hd=>by omega
 | r+1,d,more,a,h0,ha,h1,hd=>by
  rw [Qaq]
  cases e1:((d.getD (((n*s.Width)+c):Int).toNat 0) == level) with
  | false=>exact ⟨d,more,rfl,DQ.refl _ _⟩
  | true=>
   by_cases e2:a < s.Width
   ·rw [decide_eq_true e2]
    have hi:=QoF m0 m1 hw
    cases e3:((d.getD (((m*s.Width)+a):Int).toNat 0) == 0) with
    | false=>
     simp only [cond_true,cond_false]
     exact QrO hl m0 m1 hw r d more (a+1) (by omega) (by omega) (by omega) hd
    | true=>
     simp only [cond_true]
     cases Qcm (s.Transfers.getD (m:Int).toNat default) a c with
     | false=>exact QrO hl m0 m1 hw r d more (a+1) (by omega) (by omega) (by omega) hd
     | true=>
      simp only [cond_true]
      obtain ⟨d',m',q1,q2⟩:=QrO (n:=n) (c:=c) hl m0 m1 hw r (d.set (((m*s.Width)+a):Int).toNat (level+1)) true (a+1) (by omega) (by omega) (by omega) (by rw [List.length_set]; exact hd)
      have hz:=Qxq (d:=d) (i:=(((m*s.Width)+a):Int).toNat) (v:=level+1) (by omega) (by simpa using e3) (by omega)
      exact ⟨d',m',q1,⟨by rw [q2.len,List.length_set],by have:=q2.le; omega,fun _=>.inr (by have:=q2.le; omega)⟩⟩
   ·rw [decide_eq_false e2]; exact ⟨d,more,rfl,DQ.refl _ _⟩
theorem QwO {s:Qab} {level n m:Int} (hl:0<=level) (m0:0<=m) (m1:m < (s.Boundary.length:Int)) (hw:0<=s.Width):∀ (r:Nat) (d:List Int) (more:Bool) (c:Int),(d.length:Int)=(s.Boundary.length:Int)*s.Width ->
  DQ d more (QaM s level n m r d more c).1 (QaM s level n m r d more c).2
 | 0,d,more,c,hd=>DQ.refl _ _
 | r+1,d,more,c,hd=>by
  obtain ⟨d',m',e,q⟩:=QrO (n:=n) (c:=c) hl m0 m1 hw (s.Width.toNat+1) d more 0 (by omega) (by omega) (by omega) hd
  rw [QaM,e]
  exact q.trans (QwO hl m0 m1 hw r d' m' (c+1) (by rw [q.len]; exact hd))
theorem Quk {s:Qab} {level n m c:Int} {d:List Int} {more:Bool} (hl:0<=level) (m0:0<=m) (m1:m < (s.Boundary.length:Int)) (hw:0<=s.Width) (hd:(d.length:Int)=(s.Boundary.length:Int)*s.Width):Qaq s level n m c (s.Width.toNat+1) d more 0≠.oof:=by
 obtain ⟨d',m',e,_⟩:=QrO (n:=n) (c:=c) hl m0 m1 hw (s.Width.toNat+1) d more 0 (by omega) (by omega) (by omega) hd
 rw [e]; intro h; cases h
theorem Qlp {s:Qab} {level n m c K:Int} (hK:level+1<=K):∀ (r:Nat) (d:List Int) (more:Bool) (a:Int),(∀ x∈d,x<=K)->∀ d' m',Qaq s level n m c r d more a=.brk (d',m')->∀ x∈d',x<=K
 | 0,d,more,a,hd,d',m',h=>by rw [Qaq] at h; cases h
 | r+1,d,more,a,hd,d',m',h=>by
  rw [Qaq] at h
  simp only [Bool.cond_eq_ite] at h
  split at h
  ·split at h
   ·split at h
    ·split at h
     ·exact Qlp hK r _ _ _ (fun x hx=>by rcases List.mem_or_eq_of_mem_set hx with h | rfl; exact hd x h; exact hK) d' m' h
     ·exact Qlp hK r _ _ _ hd d' m' h
    ·exact Qlp hK r _ _ _ hd d' m' h
   ·cases h; exact hd
  ·cases h; exact hd
theorem QpM {s:Qab} {level n m K:Int} (hK:level+1<=K):∀ (r:Nat) (d:List Int) (more:Bool) (c:Int),(∀ x∈d,x<=K)->∀ x∈(QaM s level n m r d more c).1,x<=K
 | 0,d,more,c,hd=>hd
 | r+1,d,more,c,hd=>by
  have h4:=Qlp (s:=s) (n:=n) (m:=m) (c:=c) hK (s.Width.toNat+1) d more 0 hd
  rw [QaM]
  generalize Qaq s level n m c (s.Width.toNat+1) d more 0=o at h4 ⊢
  cases o with
  | brk p=>obtain ⟨d',m'⟩:=p; exact QpM hK r d' m' (c+1) (h4 d' m' rfl)
  | ret _=>intro x hx; cases hx
  | oof=>intro x hx; cases hx
theorem QpH {s:Qab} {level n K:Int} (hK:level+1<=K):∀ (r:Nat) (d:List Int) (more:Bool) (i:Int),(∀ x∈d,x<=K)->∀ x∈(QaR s level n r d more i).1,x<=K
 | 0,d,more,c,hd=>hd
 | r+1,d,more,i,hd=>by
  rw [QaR]
  exact QpH hK r _ _ (i+1) (QpM hK _ d more 0 hd)
theorem QpU {s:Qab} {level K:Int} (hK:level+1<=K):∀ (r:Nat) (d:List Int) (more:Bool) (n:Int),(∀ x∈d,x<=K)->∀ x∈(Qay s level r d more n).1,x<=K
 | 0,d,more,c,hd=>hd
 | r+1,d,more,n,hd=>by
  rw [Qay]
  exact QpU hK r _ _ (n+1) (QpH hK _ d more 0 hd)
theorem QpW {s:Qab} {K:Int}:∀ (r:Nat) (d:List Int) (level:Int),level+r<=K->(∀ x∈d,x<=K)->∀ d',QaC s r d level=.ret d'->∀ x∈d',x<=K
 | 0,d,level,h1,hd,d',h=>by rw [QaC] at h; cases h
 | r+1,d,level,h1,hd,d',h=>by
  have q:=QpU (s:=s) (level:=level) (K:=K) (by omega) (((((s.Boundary.length:Nat):Int):Int) - 0).toNat) d false 0 hd
  rw [QaC] at h
  generalize Qay s level (((((s.Boundary.length:Nat):Int):Int) - 0).toNat) d false 0=o at q h
  obtain ⟨d2,m2⟩:=o
  cases m2 with
  | false=>cases h; exact q
  | true=>exact QpW r d2 (level+1) (by omega) q d' h
theorem Qwn {s:Qab} (hv:QcT s) {level n:Int} (hl:0<=level) (n0:0<=n) (n1:n < (s.Boundary.length:Int)):∀ (r:Nat) (d:List Int) (more:Bool) (i:Int),0<=i->i+r=((s.Deps.getD n.toNat []).length:Int)->(d.length:Int)=(s.Boundary.length:Int)*s.Width ->
  DQ d more (QaR s level n r d more i).1 (QaR s level n r d more i).2
 | 0,d,more,i,h0,h1,hd=>DQ.refl _ _
 | r+1,d,more,i,h0,h1,hd=>by
  have hb:=hv.bl
  have hm:=hv.dep_mem n0 (by omega) ((s.Deps.getD n.toNat []).getD i.toNat 0) (QaA (by omega))
  have q:=QwO (n:=n) (m:=(s.Deps.getD n.toNat []).getD i.toNat 0) hl hm.1 (by omega) hv.w.1 (((s.Width:Int) - 0).toNat) d more 0 hd
  rw [QaR]
  exact q.trans (Qwn hv hl n0 n1 r _ _ (i+1) (by omega) (by omega) (by rw [q.len]; exact hd))
theorem Qxj {s:Qab} (hv:QcT s) {level:Int} (hl:0<=level):∀ (r:Nat) (d:List Int) (more:Bool) (n:Int),0<=n->n+r=(s.Boundary.length:Int)->(d.length:Int)=(s.Boundary.length:Int)*s.Width ->
  DQ d more (Qay s level r d more n).1 (Qay s level r d more n).2
 | 0,d,more,n,h0,h1,hd=>DQ.refl _ _
 | r+1,d,more,n,h0,h1,hd=>by
  have q:=Qwn hv hl h0 (by omega) ((((((s.Deps.getD (n:Int).toNat []).length:Nat):Int):Int) - 0).toNat) d more 0 (by omega) (by omega) hd
  rw [Qay]
  exact q.trans (Qxj hv hl r _ _ (n+1) (by omega) (by omega) (by rw [q.len]; exact hd))
theorem Qwo {s:Qab} (hv:QcT s):∀ (r:Nat) (d:List Int) (level:Int),0<=level->zc d < r->(d.length:Int)=(s.Boundary.length:Int)*s.Width->∃ d',QaC s r d level=.ret d'/\d'.length=d.length
 | 0,d,level,h0,h1,hd=>by omega
 | r+1,d,level,h0,h1,hd=>by
  have q:=Qxj hv h0 (((((s.Boundary.length:Nat):Int):Int) - 0).toNat) d false 0 (by omega) (by omega) hd
  rw [QaC]
  generalize Qay s level (((((s.Boundary.length:Nat):Int):Int) - 0).toNat) d false 0=o at q ⊢
  obtain ⟨d',m'⟩:=o
  dsimp only at q ⊢
  cases m' with
  | false=>exact ⟨d',rfl,q.len⟩
  | true=>
   have:=q.more rfl
   obtain ⟨d2,e,hl⟩:=Qwo hv r d' (level+1) (by omega) (by rcases this with h | h; cases h; omega) (by rw [q.len]; exact hd)
   exact ⟨d2,e,by rw [hl,q.len]⟩
theorem QrK {s:Qab} (hv:QcT s) {d:List Int} (hd:(d.length:Int)=(s.Boundary.length:Int)*s.Width):∃ d',QaC s ((s.Boundary.length*s.Width.toNat:Nat)+2) d 1=.ret d'/\d'.length=d.length:=by
 refine Qwo hv _ _ _ (by omega) ?_ hd
 have h1:zc d<=d.length:=List.count_le_length
 have h2:((s.Boundary.length*s.Width.toNat:Nat):Int)=(s.Boundary.length:Int)*s.Width:=by
  have:=hv.w.1
  rw [Int.natCast_mul,Int.toNat_of_nonneg this]
 omega
theorem QpG {s:Qab} (hv:QcT s) {h:Qag} {r:List Int} (e:Qbp s h=r):(r.length:Int)=(s.Boundary.length:Int)*s.Width:=by
 have hb:((List.replicate ((((s.Boundary.length:Nat):Int)*s.Width):Int).toNat (0:Int)).set (((h.Node*s.Width)+h.Bit):Int).toNat 1).length=(((s.Boundary.length:Nat):Int)*s.Width).toNat:=by simp
 have hn:0<=((s.Boundary.length:Nat):Int)*s.Width:=Int.mul_nonneg (by omega) hv.w.1
 obtain ⟨d',e1,e2⟩:=QrK hv (d:=((List.replicate ((((s.Boundary.length:Nat):Int)*s.Width):Int).toNat (0:Int)).set (((h.Node*s.Width)+h.Bit):Int).toNat 1)) (by omega)
 rw [<- e]
 unfold Qbp
 rw [e1]
 dsimp only
 omega
theorem Quc {s:Qab} (hv:QcT s) {h:Qag} {r:List Int} (e:Qbp s h=r):∀ x∈r,x<=65540:=by
 have hb:=QwQ hv
 rw [<- e]
 unfold Qbp
 have q:=QpW (s:=s) (K:=65540) ((s.Boundary.length*s.Width.toNat:Nat)+2) ((List.replicate ((((s.Boundary.length:Nat):Int)*s.Width):Int).toNat (0:Int)).set (((h.Node*s.Width)+h.Bit):Int).toNat 1) 1 (by omega) (fun x hx=>by
  rcases List.mem_or_eq_of_mem_set hx with h | rfl
  ·rw [(List.mem_replicate.1 h).2]; decide
  ·decide)
 generalize QaC s ((s.Boundary.length*s.Width.toNat:Nat)+2) ((List.replicate ((((s.Boundary.length:Nat):Int)*s.Width):Int).toNat (0:Int)).set (((h.Node*s.Width)+h.Bit):Int).toNat 1) 1=o at q ⊢
 cases o with
 | brk _=>intro x hx; cases hx
 | ret d'=>exact q d' rfl
 | oof=>intro x hx; cases hx
theorem QrB {s:Qab} (hv:QcT s) {l n m c:Int} (hl:1<=l) (hn:Qfv s ⟨n,c⟩) (m0:0<=m) (m1:m < (s.Deps.length:Int)) {d0:List Int}:∀ (r:Nat) (P:Qag->Prop) (d:List Int) (more:Bool) (a:Int),0<=a->a<=s.Width->s.Width - a < r->RS s l d0 P d more ->
  ∃ d' more',Qaq s l n m c r d more a=.brk (d',more')/\RS s l d0 (fun x=>P x\/(dv s d0 ⟨n,c⟩=l/\x.Node=m/\a<=x.Bit/\Qat (Tr s m) x.Bit c=true)) d' more'
 | 0,P,d,more,a,h0,ha,h1,h=>by omega
 | r+1,P,d,more,a,h0,ha,h1,h=>by
  have hnc:d.getD (((n*s.Width)+c):Int).toNat 0=dv s d ⟨n,c⟩:=rfl
  have hval:=h.val _ hn
  have e1:(dv s d ⟨n,c⟩ == l)=decide (dv s d0 ⟨n,c⟩=l):=by
   rw [Bool.eq_iff_iff,decide_eq_true_eq,beq_iff_eq,hval]
   by_cases q:dv s d0 ⟨n,c⟩=0/\P ⟨n,c⟩
   ·rw [if_pos q]; omega
   ·rw [if_neg q]
  rw [Qaq,hnc,e1]
  by_cases q:dv s d0 ⟨n,c⟩=l
  ·rw [decide_eq_true q,cond_true]
   by_cases e2:a < s.Width
   ·rw [decide_eq_true e2,cond_true]
    have hma:Qfv s ⟨m,a⟩:=⟨⟨m0,m1⟩,h0,e2⟩
    have hmd:d.getD (((m*s.Width)+a):Int).toNat 0=dv s d ⟨m,a⟩:=rfl
    have fin:∀ (P':Qag->Prop) d1 m1',RS s l d0 P' d1 m1'->(∀ x,Qfv s x->((P' x\/(x.Node=m/\a+1<=x.Bit/\Qat (Tr s m) x.Bit c=true))↔(P x\/(x.Node=m/\a<=x.Bit/\Qat (Tr s m) x.Bit c=true))))->∃ d' more',Qaq s l n m c r d1 m1' (a+1)=.brk (d',more')/\RS s l d0 (fun x=>P x\/(dv s d0 ⟨n,c⟩=l/\x.Node=m/\a<=x.Bit/\Qat (Tr s m) x.Bit c=true)) d' more':=fun P' d1 m1' h1' he=>by
     obtain ⟨d',m',q1,q2⟩:=QrB hv hl hn m0 m1 r P' d1 m1' (a+1) (by omega) (by omega) (by omega) h1'
     refine ⟨d',m',q1,q2.congr fun x hx=>?_⟩
     simp only [q,true_and]
     exact he x hx
    have heq:∀ x:Qag,x.Node=m->a<=x.Bit->¬ a+1<=x.Bit->x=⟨m,a⟩:=fun x h1 h2 h3=>by
     obtain ⟨xn,xb⟩:=x
     dsimp only at h1 h2 h3
     subst h1
     have:xb=a:=by omega
     rw [this]
    rw [hmd]
    have hvm:=h.val _ hma
    by_cases z:dv s d ⟨m,a⟩=0
    ·have z0:dv s d0 ⟨m,a⟩=0/\¬ P ⟨m,a⟩:=by
      by_cases w:dv s d0 ⟨m,a⟩=0/\P ⟨m,a⟩
      ·rw [if_pos w] at hvm; omega
      ·rw [if_neg w] at hvm
       exact ⟨by omega,fun hp=>w ⟨by omega,hp⟩⟩
     have e3:(dv s d ⟨m,a⟩ == 0)=true:=by simpa using z
     rw [e3,cond_true]
     dsimp only
     rw [QmO hv m0 m1 h0 e2 hn.2.1 hn.2.2]
     cases e4:Qat (Tr s m) a c with
     | false=>
      rw [cond_false]
      refine fin P d more h fun x hx=>?_
      constructor
      ·rintro (p | ⟨p1,p2,p3⟩)
       ·exact .inl p
       ·exact .inr ⟨p1,by omega,p3⟩
      ·rintro (p | ⟨p1,p2,p3⟩)
       ·exact .inl p
       ·by_cases w:a+1<=x.Bit
        ·exact .inr ⟨p1,w,p3⟩
        ·rw [heq x p1 p2 w,e4] at p3; cases p3
     | true=>
      rw [cond_true]
      have hix':(((m*s.Width)+a):Int).toNat=(hix s ⟨m,a⟩).toNat:=rfl
      rw [hix']
      refine fin (fun x=>P x\/x=⟨m,a⟩) _ true ⟨by rw [List.length_set]; exact h.len,fun x hx=>?_,?_⟩ fun x hx=>?_
      ·rw [QtQ h.len hma hx,h.val x hx]
       by_cases w:(⟨m,a⟩:Qag)=x
       ·subst w
        rw [if_pos rfl,if_pos ⟨z0.1,.inr rfl⟩]
       ·rw [if_neg w]
        by_cases u:dv s d0 x=0/\P x
        ·rw [if_pos u,if_pos ⟨u.1,.inl u.2⟩]
        ·rw [if_neg u,if_neg]
         rintro ⟨u1,u2 | u2⟩
         ·exact u ⟨u1,u2⟩
         ·exact w u2.symm
      ·exact ⟨fun _=>⟨_,hma,z0.1,.inr rfl⟩,fun _=>rfl⟩
      ·constructor
       ·rintro ((p | p) | ⟨p1,p2,p3⟩)
        ·exact .inl p
        ·subst p; exact .inr ⟨rfl,Int.le_refl _,e4⟩
        ·exact .inr ⟨p1,by omega,p3⟩
       ·rintro (p | ⟨p1,p2,p3⟩)
        ·exact .inl (.inl p)
        ·by_cases w:a+1<=x.Bit
         ·exact .inr ⟨p1,w,p3⟩
         ·exact .inl (.inr (heq x p1 p2 w))
    ·have e3:(dv s d ⟨m,a⟩ == 0)=false:=by simpa using z
     rw [e3,cond_false]
     have hz:dv s d0 ⟨m,a⟩≠0\/P ⟨m,a⟩:=by
      by_cases w:dv s d0 ⟨m,a⟩=0
      ·by_cases w2:P ⟨m,a⟩
       ·exact .inr w2
       ·rw [if_neg (fun u=>w2 u.2)] at hvm; omega
      ·exact .inl w
     obtain ⟨d',m',q1,q2⟩:=QrB hv hl hn m0 m1 r P d more (a+1) (by omega) (by omega) (by omega) h
     refine ⟨d',m',q1,q2.len,fun x hx=>?_,q2.more.trans ?_⟩
     ·rw [q2.val x hx]
      have key:(dv s d0 x=0/\(P x\/(dv s d0 ⟨n,c⟩=l/\x.Node=m/\a+1<=x.Bit/\Qat (Tr s m) x.Bit c=true)))↔(dv s d0 x=0/\(P x\/(dv s d0 ⟨n,c⟩=l/\x.Node=m/\a<=x.Bit/\Qat (Tr s m) x.Bit c=true))):=by
       constructor
       ·rintro ⟨u,p | ⟨p0,p1,p2,p3⟩⟩
        ·exact ⟨u,.inl p⟩
        ·exact ⟨u,.inr ⟨p0,p1,by omega,p3⟩⟩
       ·rintro ⟨u,p | ⟨p0,p1,p2,p3⟩⟩
        ·exact ⟨u,.inl p⟩
        ·by_cases w:a+1<=x.Bit
         ·exact ⟨u,.inr ⟨p0,p1,w,p3⟩⟩
         ·have:=heq x p1 p2 w
          subst this
          exact ⟨u,.inl (hz.elim (fun y=>absurd u y) id)⟩
      by_cases y:dv s d0 x=0/\(P x\/(dv s d0 ⟨n,c⟩=l/\x.Node=m/\a+1<=x.Bit/\Qat (Tr s m) x.Bit c=true))
      ·rw [if_pos y,if_pos (key.1 y)]
      ·rw [if_neg y,if_neg (fun u=>y (key.2 u))]
     ·constructor
      ·rintro ⟨x,hx,u,p | ⟨p0,p1,p2,p3⟩⟩
       ·exact ⟨x,hx,u,.inl p⟩
       ·exact ⟨x,hx,u,.inr ⟨p0,p1,by omega,p3⟩⟩
      ·rintro ⟨x,hx,u,p | ⟨p0,p1,p2,p3⟩⟩
       ·exact ⟨x,hx,u,.inl p⟩
       ·by_cases w:a+1<=x.Bit
        ·exact ⟨x,hx,u,.inr ⟨p0,p1,w,p3⟩⟩
        ·have:=heq x p1 p2 w
         subst this
         exact ⟨_,hx,u,.inl (hz.elim (fun y=>absurd u y) id)⟩
   ·rw [decide_eq_false e2,cond_false]
    refine ⟨d,more,rfl,h.congr fun x hx=>⟨.inl,fun p=>p.elim id fun p=>?_⟩⟩
    have:=hx.2.2
    omega
  ·rw [decide_eq_false q,cond_false]
   exact ⟨d,more,rfl,h.congr fun x hx=>⟨.inl,fun p=>p.elim id fun p=>absurd p.1 q⟩⟩
theorem QtV {s:Qab} (hv:QcT s) {l n m:Int} (hl:1<=l) (n0:0<=n) (n1:n < (s.Deps.length:Int)) (m0:0<=m) (m1:m < (s.Deps.length:Int)) {d0:List Int}:∀ (r:Nat) (P:Qag->Prop) (d:List Int) (more:Bool) (c:Int),0<=c->c+r=s.Width->RS s l d0 P d more ->
  RS s l d0 (fun x=>P x\/∃ c',c<=c'/\c' < s.Width/\dv s d0 ⟨n,c'⟩=l/\x.Node=m/\Qat (Tr s m) x.Bit c'=true) (QaM s l n m r d more c).1 (QaM s l n m r d more c).2
 | 0,P,d,more,c,h0,h1,h=>h.congr fun x hx=>⟨.inl,fun p=>p.elim id fun ⟨c',a,b,_⟩=>by omega⟩
 | r+1,P,d,more,c,h0,h1,h=>by
  obtain ⟨d',m',e,q⟩:=QrB hv hl (n:=n) (c:=c) ⟨⟨n0,n1⟩,h0,by show c < s.Width; omega⟩ m0 m1 (s.Width.toNat+1) P d more 0 (by omega) (by omega) (by omega) h
  rw [QaM,e]
  refine (QtV hv hl n0 n1 m0 m1 r _ d' m' (c+1) (by omega) (by omega) q).congr fun x hx=>?_
  constructor
  ·rintro ((p | ⟨p0,p1,p2,p3⟩) | ⟨c',p0,p1,p2⟩)
   ·exact .inl p
   ·exact .inr ⟨c,Int.le_refl _,by omega,p0,p1,p3⟩
   ·exact .inr ⟨c',by omega,p1,p2⟩
  ·rintro (p | ⟨c',p0,p1,p2,p3,p4⟩)
   ·exact .inl (.inl p)
   ·by_cases w:c'=c
    ·subst w; exact .inl (.inr ⟨p2,p3,hx.2.1,p4⟩)
    ·exact .inr ⟨c',by omega,p1,p2,p3,p4⟩
theorem QtZ {s:Qab} (hv:QcT s) {l n:Int} (hl:1<=l) (n0:0<=n) (n1:n < (s.Deps.length:Int)) {d0:List Int}:∀ (r:Nat) (P:Qag->Prop) (d:List Int) (more:Bool) (i:Int),0<=i->i+r=((s.Deps.getD n.toNat []).length:Int)->RS s l d0 P d more ->
  RS s l d0 (fun x=>P x\/((∃ j:Int,i<=j/\j < i+r/\(deps s n).getD j.toNat 0=x.Node)/\∃ c',0<=c'/\c' < s.Width/\dv s d0 ⟨n,c'⟩=l/\Qat (Tr s x.Node) x.Bit c'=true)) (QaR s l n r d more i).1 (QaR s l n r d more i).2
 | 0,P,d,more,i,h0,h1,h=>h.congr fun x hx=>⟨.inl,fun p=>p.elim id fun ⟨⟨j,a,b,_⟩,_⟩=>by omega⟩
 | r+1,P,d,more,i,h0,h1,h=>by
  have hm:=hv.dep_mem n0 n1 ((s.Deps.getD n.toNat []).getD i.toNat 0) (QaA (by omega))
  have q:=QtV hv hl n0 n1 hm.1 hm.2 (((s.Width:Int) - 0).toNat) P d more 0 (by omega) (by have:=hv.w; omega) h
  rw [QaR]
  refine (QtZ hv hl n0 n1 r _ _ _ (i+1) (by omega) (by omega) q).congr fun x hx=>?_
  constructor
  ·rintro ((p | ⟨c',p0,p1,p2,p3,p4⟩) | ⟨⟨j,p0,p1,p2⟩,p3⟩)
   ·exact .inl p
   ·exact .inr ⟨⟨i,by omega,by omega,p3.symm⟩,c',p0,p1,p2,p3 ▸ p4⟩
   ·exact .inr ⟨⟨j,by omega,by omega,p2⟩,p3⟩
  ·rintro (p | ⟨⟨j,p0,p1,p2⟩,c',p3,p4,p5,p6⟩)
   ·exact .inl (.inl p)
   ·by_cases w:j=i
    ·subst w; exact .inl (.inr ⟨c',p3,p4,p5,p2.symm,(show (s.Deps.getD n.toNat []).getD j.toNat 0=x.Node from p2) ▸ p6⟩)
    ·exact .inr ⟨⟨j,by omega,by omega,p2⟩,c',p3,p4,p5,p6⟩
theorem QtL {s:Qab} (hv:QcT s) {l:Int} (hl:1<=l) {d0:List Int}:∀ (r:Nat) (P:Qag->Prop) (d:List Int) (more:Bool) (n:Int),0<=n->n+r=(s.Deps.length:Int)->RS s l d0 P d more ->
  RS s l d0 (fun x=>P x\/∃ y,Qfv s y/\n<=y.Node/\dv s d0 y=l/\tfl s x y) (Qay s l r d more n).1 (Qay s l r d more n).2
 | 0,P,d,more,n,h0,h1,h=>h.congr fun x hx=>⟨.inl,fun p=>p.elim id fun ⟨y,a,b,_⟩=>by have:=a.1.2; omega⟩
 | r+1,P,d,more,n,h0,h1,h=>by
  have q:=QtZ hv hl h0 (by omega) ((((((s.Deps.getD (n:Int).toNat []).length:Nat):Int):Int) - 0).toNat) P d more 0 (by omega) (by omega) h
  rw [Qay]
  refine (QtL hv hl r _ _ _ (n+1) (by omega) (by omega) q).congr fun x hx=>?_
  constructor
  ·rintro ((p | ⟨⟨j,p0,p1,p2⟩,c',p3,p4,p5,p6⟩) | ⟨y,p0,p1,p2⟩)
   ·exact .inl p
   ·exact .inr ⟨⟨n,c'⟩,⟨⟨h0,by show n < _; omega⟩,p3,p4⟩,Int.le_refl _,p5,(QfZ.2 ⟨j,p0,by have h2:j < ((s.Deps.getD n.toNat []).length:Int):=(by omega); exact h2,p2⟩),hx.2,p6⟩
   ·exact .inr ⟨y,p0,by omega,p2⟩
  ·rintro (p | ⟨y,p0,p1,p2,p3,p4,p5⟩)
   ·exact .inl (.inl p)
   ·by_cases w:y.Node=n
    ·obtain ⟨yn,yb⟩:=y
     dsimp only at w
     subst w
     obtain ⟨j,j0,j1,j2⟩:=QfZ.1 p3
     exact .inl (.inr ⟨⟨j,j0,by have h2:j < ((s.Deps.getD yn.toNat []).length:Int):=j1; omega,j2⟩,yb,p0.2.1,p0.2.2,p2,p5⟩)
    ·exact .inr ⟨y,p0,by omega,p2,p3,p4,p5⟩
theorem QwZ {s:Qab} (hv:QcT s) {last:Qag} (hl:Qfv s last) {l:Nat} {d:List Int} (h:DS s last ((l:Int)+1) d) {o:List Int×Bool} (e:Qay s ((l:Int)+1) (((((s.Boundary.length:Nat):Int):Int) - 0).toNat) d false 0=o) :
  (o.2=false->o.1.length=d.length/\(∀ x,Qfv s x->dv s o.1 x=dv s d x)/\∀ k x,l+1<=k->¬ Dst s last k x)/\DS s last ((l:Int)+2) o.1:=by
 have hb:=hv.bl
 have q:=QtL hv (l:=(l:Int)+1) (by omega) (((((s.Boundary.length:Nat):Int):Int) - 0).toNat) (fun _=>False) d false 0 (by omega) (by omega) (RS.nil h.len)
 rw [e] at q
 have q:RS s ((l:Int)+1) d (fun x=>∃ y,Qfv s y/\dv s d y=(l:Int)+1/\tfl s x y) o.1 o.2:=q.congr fun x hx=>⟨fun p=>p.elim (fun p=>p.elim) fun ⟨y,a,b,c⟩=>⟨y,a,c⟩,fun ⟨y,a,c⟩=>.inr ⟨y,a,a.1.1,c⟩⟩
 have hP:∀ x,Qfv s x->((dv s d x=0/\∃ y,Qfv s y/\dv s d y=(l:Int)+1/\tfl s x y)↔Dst s last (l+1) x):=fun x hx=>by
  constructor
  ·rintro ⟨z,y,hy,a,b⟩
   have hd:=(h.old y hy l (by omega)).1 a
   refine ⟨⟨y,hd.1,b⟩,fun j hj hp=>?_⟩
   obtain ⟨i,hi,hdi⟩:=QlG hp
   have:=(h.old x hx i (by omega)).2 hdi
   omega
  ·intro hd
   obtain ⟨y,a,b⟩:=QiK hd
   have hy:=Qfj hv hl a.1
   refine ⟨?_,y,hy,(h.old y hy l (by omega)).2 a,b⟩
   rcases h.zero x hx with z | ⟨j,j1,j2⟩
   ·exact z
   ·have:=QpK ((h.old x hx j j1).1 j2) hd
    omega
 refine ⟨fun hm=>⟨?_,fun x hx=>?_,fun k x hk hd=>?_⟩,q.len,fun x hx j hj=>?_,fun x hx=>?_⟩
 ·have:=q.len; have:=h.len; omega
 ·rw [q.val x hx,if_neg]
  intro c
  have:=q.more.2 ⟨x,hx,c.1,c.2⟩
  rw [hm] at this; cases this
 ·obtain ⟨y,hy⟩:=Qnm (k:=l+1) (k - (l+1)) (x:=x) (by rw [show l+1+(k - (l+1))=k by omega]; exact hd)
  have hyr:=Qfj hv hl hy.1
  have:=(hP y hyr).2 hy
  have:=q.more.2 ⟨y,hyr,this.1,this.2⟩
  rw [hm] at this; cases this
 ·rw [q.val x hx]
  by_cases c:dv s d x=0/\∃ y,Qfv s y/\dv s d y=(l:Int)+1/\tfl s x y
  ·rw [if_pos c]
   have hd:=(hP x hx).1 c
   constructor
   ·intro e2
    have:j=l+1:=by omega
    rw [this]; exact hd
   ·intro hj2
    have:=QpK hj2 hd
    omega
  ·rw [if_neg c]
   by_cases w:(j:Int)+1<=(l:Int)+1
   ·exact h.old x hx j w
   ·have hjl:j=l+1:=by omega
    constructor
    ·intro e2
     rcases h.zero x hx with z | ⟨i,i1,i2⟩
     ·omega
     ·omega
    ·intro hd
     rw [hjl] at hd
     exact absurd ((hP x hx).2 hd) c
 ·rw [q.val x hx]
  by_cases c:dv s d x=0/\∃ y,Qfv s y/\dv s d y=(l:Int)+1/\tfl s x y
  ·rw [if_pos c]
   exact .inr ⟨l+1,by omega,by omega⟩
  ·rw [if_neg c]
   rcases h.zero x hx with z | ⟨j,j1,j2⟩
   ·exact .inl z
   ·exact .inr ⟨j,by omega,j2⟩
theorem Qt3 {s:Qab} (hv:QcT s) {last:Qag} (hl:Qfv s last):∀ (r:Nat) (d:List Int) (l:Nat) (d':List Int),DS s last ((l:Int)+1) d->QaC s r d ((l:Int)+1)=.ret d'->DA s last d'
 | 0,d,l,d',h,e=>by rw [QaC] at e; cases e
 | r+1,d,l,d',h,e=>by
  have q:=QwZ hv hl h rfl
  rw [QaC] at e
  generalize Qay s ((l:Int)+1) (((((s.Boundary.length:Nat):Int):Int) - 0).toNat) d false 0=o at q e
  obtain ⟨o1,o2⟩:=o
  obtain ⟨q1,q2⟩:=q
  cases o2 with
  | true=>exact Qt3 hv hl r o1 (l+1) d' q2 e
  | false=>
   obtain ⟨_,_,a3⟩:=q1 rfl
   cases e
   refine ⟨q2.len,fun x hx j=>?_,fun x hx=>(q2.zero x hx).imp_right fun ⟨j,_,b⟩=>⟨j,b⟩⟩
   by_cases c:(j:Int)+1<=(l:Int)+2
   ·exact q2.old x hx j c
   ·constructor
    ·intro e2
     rcases q2.zero x hx with z | ⟨i,i1,i2⟩
     ·dsimp only at z; omega
     ·dsimp only at i2; omega
    ·intro hd
     exact absurd hd (a3 j x (by omega))
theorem Qqo {s:Qab} (hv:QcT s) {last:Qag} (hl:Qfv s last):DA s last (Qbp s last):=by
 have hb:=hv.bl
 have hix0:=Qiv hl
 have hlen:((((List.replicate ((((s.Boundary.length:Nat):Int)*s.Width):Int).toNat (0:Int)).set (((last.Node*s.Width)+last.Bit):Int).toNat 1).length:Nat):Int)=(s.Boundary.length:Int)*s.Width:=by
  rw [List.length_set,List.length_replicate,hb]; omega
 obtain ⟨d',e,_⟩:=QrK hv hlen
 unfold Qbp
 rw [e]
 have hlr:(((List.replicate ((((s.Boundary.length:Nat):Int)*s.Width):Int).toNat (0:Int)).length:Nat):Int)=(s.Deps.length:Int)*s.Width:=by
  rw [List.length_replicate,hb]; omega
 have hdv:∀ x,Qfv s x->dv s ((List.replicate ((((s.Boundary.length:Nat):Int)*s.Width):Int).toNat (0:Int)).set (((last.Node*s.Width)+last.Bit):Int).toNat 1) x=if last=x then 1 else 0:=fun x hx=>by
  have h1:=QtQ hlr hl hx 1
  have h2:dv s (List.replicate ((((s.Boundary.length:Nat):Int)*s.Width):Int).toNat (0:Int)) x=0:=by
   unfold dv
   rw [List.getD_eq_getElem?_getD,List.getElem?_replicate]
   split <;> rfl
  rw [h2] at h1
  exact h1
 refine Qt3 hv hl _ _ 0 d' ⟨by rw [hlen,hb],fun x hx j hj=>?_,fun x hx=>?_⟩ e
 ·have:j=0:=by omega
  subst this
  rw [hdv x hx]
  by_cases c:last=x
  ·rw [if_pos c]; exact ⟨fun _=>⟨c.symm,fun i hi=>by omega⟩,fun _=>by decide⟩
  ·rw [if_neg c]; exact ⟨fun h=>by omega,fun h=>absurd (show x=last from h.1).symm c⟩
 ·rw [hdv x hx]
  by_cases c:last=x
  ·rw [if_pos c]; exact .inr ⟨0,by omega,by decide⟩
  ·rw [if_neg c]; exact .inl rfl
theorem Qps (s:Qab) (h:Qag):Qbx s h=true↔Qas (Bd s h.Node) h.Bit=true\/∃ m∈deps s h.Node,Qas (Tr s m).Gen h.Bit=true:=by
 unfold Qbx Bd
 cases e:Qas (s.Boundary.getD h.Node.toNat default) h.Bit with
 | true=>simp
 | false=>
  simp only [cond_false,Bool.false_eq_true,false_or]
  rcases Qst (fun r i=>Qc1 s h r i) (fun i=>Qas ((s.Transfers.getD (((s.Deps.getD (h.Node:Int).toNat []).getD (i:Int).toNat 0):Int).toNat default).Gen) h.Bit) true () (fun _=>rfl) (fun _ _=>rfl) ((((((s.Deps.getD (h.Node:Int).toNat []).length:Nat):Int):Int) - 0).toNat) 0 with ⟨a,j,j0,j1,hj⟩ | ⟨a,hj⟩
  ·try dsimp only at a
   rw [a]
   exact ⟨fun _=>⟨(deps s h.Node).getD j.toNat 0,QaA (by unfold deps; omega),hj⟩,fun _=>rfl⟩
  ·try dsimp only at a
   rw [a]
   refine ⟨fun h=>(by cases h),?_⟩
   rintro ⟨m,hm,hf⟩
   obtain ⟨j,j0,j1,rfl⟩:=QfZ.1 hm
   have:=hj j j0 (by unfold deps at j1; omega)
   unfold deps Tr at hf
   rw [hf] at this; cases this
structure BI (s:Qab) (d:List Int) (i:Int) (a0 a1 best:Int):Prop where
 none:best=0->∀ j:Int,0<=j->j < i->0 < d.getD j.toNat 0->Qbx s (hop s j)=false
 some:best≠0->0 < best/\∃ k:Int,0<=k/\k < i/\d.getD k.toNat 0=best/\Qbx s (hop s k)=true/\(⟨a0,a1⟩:Qag)=hop s k/\∀ j:Int,0<=j->j < i->0 < d.getD j.toNat 0->Qbx s (hop s j)=true->best < d.getD j.toNat 0\/(best=d.getD j.toNat 0/\k<=j)
theorem BI.skip {s:Qab} {d:List Int} {i a0 a1 best:Int} (h:BI s d i a0 a1 best) (hs:¬ (0 < d.getD i.toNat 0/\Qbx s (hop s i)=true/\(best=0\/d.getD i.toNat 0 < best))) (hb:0<=i):BI s d (i+1) a0 a1 best:=by
 refine ⟨fun b j j0 j1 jp=>?_,fun b=>?_⟩
 ·by_cases c:j=i
  ·subst c
   cases e:Qbx s (hop s j) with
   | false=>rfl
   | true=>exact absurd ⟨jp,e,.inl b⟩ hs
  ·exact h.none b j j0 (by omega) jp
 ·obtain ⟨b0,k,k0,k1,k2,k3,k4,k5⟩:=h.some b
  refine ⟨b0,k,k0,by omega,k2,k3,k4,fun j j0 j1 jp jo=>?_⟩
  by_cases c:j=i
  ·subst c
   have:¬ d.getD j.toNat 0 < best:=fun q=>hs ⟨jp,jo,.inr q⟩
   omega
  ·exact k5 j j0 (by omega) jp jo
theorem BI.take {s:Qab} {d:List Int} {i a0 a1 best:Int} (h:BI s d i a0 a1 best) (hp:0 < d.getD i.toNat 0) (ho:Qbx s (hop s i)=true) (hc:best=0\/d.getD i.toNat 0 < best) (hb:0<=i):BI s d (i+1) (i / s.Width) (i % s.Width) (d.getD i.toNat 0):=by
 refine ⟨fun b=>by omega,fun b=>⟨hp,i,hb,by omega,rfl,ho,rfl,fun j j0 j1 jp jo=>?_⟩⟩
 by_cases c:j=i
 ·subst c; exact .inr ⟨rfl,Int.le_refl _⟩
 ·left
  by_cases b0:best=0
  ·have:=h.none b0 j j0 (by omega) jp
   rw [jo] at this; cases this
  ·obtain ⟨_,k,k0,k1,k2,k3,k4,k5⟩:=h.some b0
   have:=k5 j j0 (by omega) jp jo
   omega
theorem QiL (s:Qab) (h:Qag):QaP s h=Qbx s h:=by rw [Bool.eq_iff_iff,Qqa,Qps]
theorem QrP (l:List Int) (n:Int):QjJ l n=true↔n∈l:=by
 have:=Qst (fun r i=>QfE l n r i) (fun i=>l.getD i.toNat 0 == n) true () (fun _=>rfl) (fun _ _=>rfl) ((((l.length:Nat):Int) - 0).toNat) 0
 unfold QjJ
 rw [QfZ]
 rcases this with ⟨e,j,j1,j2,j3⟩ | ⟨e,h⟩
 ·rw [e]
  exact ⟨fun _=>⟨j,j1,by omega,by simpa using j3⟩,fun _=>rfl⟩
 ·rw [e]
  refine ⟨fun h=>by simp at h,?_⟩
  rintro ⟨j,j1,j2,j3⟩
  have:=h j j1 (by omega)
  simp [-List.getD_eq_getElem?_getD] at this; exact absurd j3 this
theorem QrY {l:List Int} {n:Int} (h:QjJ l n=false):n ∉ l:=fun e=>by
 rw [(QrP l n).2 e] at h; cases h
theorem QlX {s:Qab} (hv:QcT s) {a b:Qag} (ha:Qfv s a) (hb:Qfv s b):Qde s a b=true↔tfl s a b:=by
 unfold Qde tfl
 dsimp only
 rw [QmO hv ha.1.1 ha.1.2 ha.2.1 ha.2.2 hb.2.1 hb.2.2]
 cases e:QjJ (s.Deps.getD b.Node.toNat []) a.Node with
 | true=>
  rw [cond_true]
  exact ⟨fun h=>⟨(QrP _ _).1 e,ha.2,h⟩,fun h=>h.2.2⟩
 | false=>
  rw [cond_false]
  exact ⟨fun h=>(by cases h),fun h=>absurd h.1 (QrY e)⟩
theorem Qni {s:Qab} {d:List Int}:∀ (r:Nat) (a0 a1 best i:Int),0<=i->i+r=(d.length:Int)->BI s d i a0 a1 best->BI s d (d.length:Int) (QaY s d r a0 a1 best i).1 (QaY s d r a0 a1 best i).2.1 (QaY s d r a0 a1 best i).2.2
 | 0,a0,a1,best,i,h0,h1,h=>by
  rw [QaY]
  rw [show (d.length:Int)=i by omega]; exact h
 | r+1,a0,a1,best,i,h0,h1,h=>by
  have hh:(Qag.mk (i / s.Width) (i % s.Width))=hop s i:=rfl
  have skip:=fun hs=>Qni (s:=s) r a0 a1 best (i+1) (by omega) (by omega) (h.skip hs h0)
  have take_:=fun hp ho hc=>Qni (s:=s) r (i / s.Width) (i % s.Width) (d.getD i.toNat 0) (i+1) (by omega) (by omega) (h.take hp ho hc h0)
  rw [QaY,hh]
  by_cases c1:0 < d.getD i.toNat 0
  ·rw [decide_eq_true c1,cond_true]
   by_cases c2:best=0
   ·have e2:(best == 0)=true:=by simpa using c2
    rw [e2,cond_true]
    dsimp only
    cases c3:Qbx s (hop s i) with
    | true=>exact take_ c1 c3 (.inl c2)
    | false=>exact skip (fun q=>by rw [c3] at q; cases q.2.1)
   ·have e2:(best == 0)=false:=by simpa using c2
    rw [e2,cond_false]
    by_cases c4:d.getD i.toNat 0 < best
    ·rw [decide_eq_true c4,cond_true]
     dsimp only
     cases c3:Qbx s (hop s i) with
     | true=>exact take_ c1 c3 (.inr c4)
     | false=>exact skip (fun q=>by rw [c3] at q; cases q.2.1)
    ·rw [decide_eq_false c4,cond_false]
     exact skip (fun q=>by omega)
  ·rw [decide_eq_false c1,cond_false]
   exact skip (fun q=>c1 q.1)
theorem QpC {s:Qab} {d:List Int} {a0 a1 k:Int}:∀ (r:Nat) (i:Int),0<=i->i+r=(d.length:Int)->(∃ j:Int,i<=j/\j < (d.length:Int)/\d.getD j.toNat 0=k/\Qde s ⟨a0,a1⟩ (hop s j)=true) ->
  ∃ j:Int,i<=j/\j < (d.length:Int)/\d.getD j.toNat 0=k/\Qde s ⟨a0,a1⟩ (hop s j)=true/\(⟨(QbK s d a0 a1 k r i).1,(QbK s d a0 a1 k r i).2⟩:Qag)=hop s j/\∀ q:Int,i<=q->q < (d.length:Int)->d.getD q.toNat 0=k->Qde s ⟨a0,a1⟩ (hop s q)=true->j<=q
 | 0,i,h0,h1,⟨j,a,b,_⟩=>by omega
 | r+1,i,h0,h1,⟨j,a,b,c,e⟩=>by
  have hh:(Qag.mk (i / s.Width) (i % s.Width))=hop s i:=rfl
  have next:¬ (d.getD i.toNat 0=k/\Qde s ⟨a0,a1⟩ (hop s i)=true)->∃ j:Int,i<=j/\j < (d.length:Int)/\d.getD j.toNat 0=k/\Qde s ⟨a0,a1⟩ (hop s j)=true/\(⟨(QbK s d a0 a1 k r (i+1)).1,(QbK s d a0 a1 k r (i+1)).2⟩:Qag)=hop s j/\∀ q:Int,i<=q->q < (d.length:Int)->d.getD q.toNat 0=k->Qde s ⟨a0,a1⟩ (hop s q)=true->j<=q:=fun hn=>by
   have hij:i≠j:=fun e2=>hn ⟨e2 ▸ c,e2 ▸ e⟩
   obtain ⟨j',a',b',c',e',f',g'⟩:=QpC (s:=s) (d:=d) (a0:=a0) (a1:=a1) (k:=k) r (i+1) (by omega) (by omega) ⟨j,by omega,b,c,e⟩
   refine ⟨j',by omega,b',c',e',f',fun q q0 q1 q2 q3=>?_⟩
   by_cases z:q=i
   ·exact absurd ⟨z ▸ q2,z ▸ q3⟩ hn
   ·exact g' q (by omega) q1 q2 q3
  rw [QbK,hh]
  by_cases c1:d.getD i.toNat 0=k
  ·have e1:((d.getD i.toNat 0) == k)=true:=by simpa using c1
   rw [e1,cond_true]
   dsimp only
   cases c2:Qde s ⟨a0,a1⟩ (hop s i) with
   | true=>exact ⟨i,Int.le_refl _,by omega,c1,c2,rfl,fun q q0 _ _ _=>q0⟩
   | false=>
    rw [cond_false]
    exact next (fun q=>by rw [c2] at q; cases q.2)
  ·have e1:((d.getD i.toNat 0) == k)=false:=by simpa using c1
   rw [e1,cond_false]
   exact next (fun q=>c1 q.1)
theorem Qp1 {s:Qab} (hv:QcT s) {last:Qag} (hl:Qfv s last) {d:List Int} (hd:DA s last d):∀ (r:Nat) (a:Qag) (out:List Qag),Dst s last r a->∃ p,Qdj s d r a.Node a.Bit out (r:Int)=out++p/\(r=0->p=[])/\∀ k,r=k+1->GP s last k (fun y=>Dst s last k y/\tfl s a y) p
 | 0,a,out,ha=>⟨[],by rw [Qdj,List.append_nil],fun _=>rfl,fun k h=>by omega⟩
 | r+1,a,out,ha=>by
  have har:=Qfj hv hl ha.1
  have hw:0 < s.Width:=by have:=har.2; omega
  obtain ⟨y,hy,ht⟩:=QiK ha
  have hyr:=Qfj hv hl hy.1
  have hyi:=Qiv hyr
  have hlen:=hd.len
  obtain ⟨j,j0,j1,j2,j3,j4,j5⟩:=QpC (s:=s) (d:=d) (a0:=a.Node) (a1:=a.Bit) (k:=((r+1:Nat):Int)) (((((d.length:Nat):Int):Int) - 0).toNat) 0 (by omega) (by omega)
   ⟨hix s y,hyi.1,by omega,by have:=(hd.iff y hyr r).2 hy; unfold dv at this; omega,by rw [QnS hyr]; exact (QlX hv har hyr).2 ht⟩
  have hjr:=Qv3 hv hw j0 (by omega)
  have hjd:Dst s last r (hop s j):=(hd.iff _ hjr.1 r).1 (by unfold dv; rw [hjr.2]; omega)
  have hm:Mn (fun y=>Dst s last r y/\tfl s a y) (hop s j):=by
   refine ⟨⟨hjd,(QlX hv har hjr.1).1 j3⟩,fun x hx=>?_⟩
   have hxr:=Qfj hv hl hx.1.1
   have hxi:=Qiv hxr
   have:=j5 (hix s x) hxi.1 (by omega) (by have:=(hd.iff x hxr r).2 hx.1; unfold dv at this; omega) (by rw [QnS hxr]; exact (QlX hv har hxr).2 hx.2)
   have:=QtY hw this
   rwa [QnS hxr] at this
  rw [Qdj]
  generalize QbK s d a.Node a.Bit ((r+1:Nat):Int) (((((d.length:Nat):Int):Int) - 0).toNat) 0=o at j4 ⊢
  obtain ⟨o1,o2⟩:=o
  dsimp only at j4 ⊢
  have h1:o1=(hop s j).Node:=congrArg Qag.Node j4
  have h2:o2=(hop s j).Bit:=congrArg Qag.Bit j4
  obtain ⟨p,e,p0,pk⟩:=Qp1 hv hl hd r (hop s j) (out++[hop s j]) hjd
  rw [j4,h1,h2,show (((r+1:Nat):Int) - 1)=(r:Int) by omega,e]
  refine ⟨hop s j :: p,by simp,fun h=>by omega,fun k hk=>?_⟩
  have hk:k=r:=by omega
  subst hk
  cases k with
  | zero=>exact ⟨_,hm,by rw [p0 rfl]⟩
  | succ k=>exact ⟨_,_,hm,rfl,pk k rfl⟩
theorem QmT {s:Qab} {n b:Int} (h:QbE s n b=0):(∃ k p,QeR s n b=(p,true,0)/\GP s ⟨n,b⟩ k (fun x=>Dst s ⟨n,b⟩ k x/\QaP s x=true) p/\(∀ j x,j < k->Dst s ⟨n,b⟩ j x->QaP s x=false)/\(∃ x,Dst s ⟨n,b⟩ k x/\QaP s x=true)) \/
  (QeR s n b=([],false,0)/\∀ j x,Pth s ⟨n,b⟩ j x->QaP s x=false):=by
 obtain ⟨hv,hn,hb⟩:=(Qon s n b).1 h
 have hr:Qfv s ⟨n,b⟩:=⟨hn,hb⟩
 have hw:0 < s.Width:=by omega
 have e':(QbE s n b != 0)=false:=by simpa using h
 have hd:=Qqo hv hr
 have hlen:=hd.len
 unfold QeR
 simp only [e',cond_false]
 generalize Qbp s ⟨n,b⟩=d at hd hlen ⊢
 have q:=Qni (s:=s) (d:=d) (((((d.length:Nat):Int):Int) - 0).toNat) 0 0 0 0 (by omega) (by omega) ⟨fun _ j j0 j1=>by omega,fun h=>absurd rfl h⟩
 generalize QaY s d (((((d.length:Nat):Int):Int) - 0).toNat) 0 0 0 0=o at q ⊢
 obtain ⟨a0,a1,best⟩:=o
 dsimp only at q ⊢
 have key:∀ x,Qfv s x->∀ j,Dst s ⟨n,b⟩ j x->0<=hix s x/\hix s x < (d.length:Int)/\d.getD (hix s x).toNat 0=(j:Int)+1/\hop s (hix s x)=x:=fun x hx j hj=>by
  have:=Qiv hx
  have h2:=(hd.iff x hx j).2 hj
  unfold dv at h2
  exact ⟨this.1,by omega,h2,QnS hx⟩
 by_cases c:best=0
 ·have e2:(best == 0)=true:=by simpa using c
  rw [e2,cond_true]
  refine .inr ⟨rfl,fun j x hp=>?_⟩
  obtain ⟨i,_,hi⟩:=QlG hp
  have hx:=Qfj hv hr hp
  obtain ⟨k1,k2,k3,k4⟩:=key x hx i hi
  have:=q.none c (hix s x) k1 k2 (by omega)
  rw [k4] at this
  rw [QiL]; exact this
 ·have e2:(best == 0)=false:=by simpa using c
  rw [e2,cond_false]
  obtain ⟨b0,k,k0,k1,k2,k3,k4,k5⟩:=q.some c
  have hkr:=Qv3 hv hw k0 (by omega)
  have hkd:Dst s ⟨n,b⟩ (best - 1).toNat (hop s k):=(hd.iff _ hkr.1 _).1 (by unfold dv; rw [hkr.2]; omega)
  have hko:QaP s (hop s k)=true:=by rw [QiL]; exact k3
  have hm:Mn (fun x=>Dst s ⟨n,b⟩ (best - 1).toNat x/\QaP s x=true) (hop s k):=by
   refine ⟨⟨hkd,hko⟩,fun x hx=>?_⟩
   have hxr:=Qfj hv hr hx.1.1
   obtain ⟨q1,q2,q3,q4⟩:=key x hxr _ hx.1
   have:=k5 (hix s x) q1 q2 (by omega) (by rw [q4,<- QiL]; exact hx.2)
   have:=QtY hw (show k<=hix s x by omega)
   rwa [q4] at this
  have h1:a0=(hop s k).Node:=congrArg Qag.Node k4
  have h2:a1=(hop s k).Bit:=congrArg Qag.Bit k4
  obtain ⟨p,e,p0,pk⟩:=Qp1 hv hr hd (best - 1).toNat (hop s k) [hop s k] hkd
  rw [show (((best - 1).toNat:Nat):Int)=best - 1 by omega] at e
  refine .inl ⟨(best - 1).toNat,hop s k :: p,?_,?_,fun j x hj hx=>?_,⟨_,hkd,hko⟩⟩
  ·rw [k4,h1,h2,e]; rfl
  ·generalize (best - 1).toNat=z at *
   cases z with
   | zero=>exact ⟨_,hm,by rw [p0 rfl]⟩
   | succ z=>exact ⟨_,_,hm,rfl,pk z rfl⟩
  ·have hxr:=Qfj hv hr hx.1
   obtain ⟨q1,q2,q3,q4⟩:=key x hxr _ hx
   cases e3:QaP s x with
   | false=>rfl
   | true=>
    have:=k5 (hix s x) q1 q2 (by omega) (by rw [q4,<- QiL]; exact e3)
    omega
theorem QuB (s:Qab) (n b:Int):QfO s n b=QeR s n b:=by
 by_cases h:Qap s n b=0
 ·have h':QbE s n b=0:=(QnI s n b).trans h
  rcases Qq6 h with ⟨k,p,e,g,lo,⟨x,hx⟩,_⟩ | ⟨e,no⟩
  ·rcases QmT h' with ⟨k',p',e',g',lo',⟨x',hx'⟩⟩ | ⟨e',no'⟩
   ·have hk:k=k':=by
     rcases Nat.lt_trichotomy k k' with c | c | c
     ·have:=lo' k x c hx.1
      rw [hx.2] at this; cases this
     ·exact c
     ·have:=lo k' x' c hx'.1
      rw [hx'.2] at this; cases this
    subst hk
    rw [e,e',QqY g g']
   ·have:=no' k x hx.1.1
    rw [hx.2] at this; cases this
  ·rcases QmT h' with ⟨k',p',e',g',lo',⟨x',hx'⟩⟩ | ⟨e',no'⟩
   ·have:=no k' x' hx'.1.1
    rw [hx'.2] at this; cases this
   ·rw [e,e']
 ·have e':(Qap s n b != 0)=true:=by simpa using h
  rw [QsQ h]
  unfold QeR
  simp only [QnI,e',cond_true]
theorem Qus {s:Qab} {v:List Qaf} (h:QdU s v):QaN v (fun x=>QeH x)=false:=by
 cases e:QaN v (fun x=>QeH x) with
 | false=>rfl
 | true=>
  obtain ⟨x,hx,e⟩:=(Qjm _ _).1 e
  unfold QeH at e
  simp only [Qf3 (h.2 x hx)] at e; cases e
theorem QkR (a b:Qaf) (f:BitVec 64->BitVec 64->BitVec 64):∀ (m:Nat) (o:List (BitVec 64)) (i:Int),(QcJ a b f m o i).length=o.length
 | 0,o,i=>rfl
 | m+1,o,i=>by rw [QcJ,QkR a b f m]; simp
theorem QkT (a b:Qaf) (f:BitVec 64->BitVec 64->BitVec 64):∀ (m:Nat) (o:List (BitVec 64)) (i:Int),0<=i->i+m=(o.length:Int)->∀ j:Nat,j < o.length->(QcJ a b f m o i).getD j 0#64=if i<=(j:Int) then f (a.Words.getD j 0#64) (b.Words.getD j 0#64) else o.getD j 0#64
 | 0,o,i,h0,h1,j,hj=>by
  rw [if_neg (by omega)]; rfl
 | m+1,o,i,h0,h1,j,hj=>by
  rw [QcJ,QkT a b f m _ (i+1) (by omega) (by simp; omega) j (by simpa using hj)]
  rw [QpQ]
  by_cases e:i.toNat=j
  ·rw [if_neg (by omega),if_pos (by omega),if_pos (by omega),e]
  ·rw [if_neg (c:=_/\_) (fun h=>e h.1)]
   by_cases h2:i<=(j:Int)
   ·rw [if_pos (by omega),if_pos h2]
   ·rw [if_neg (by omega),if_neg h2]
theorem QmK {w:Int} {a b:Qaf} (f:BitVec 64->BitVec 64->BitVec 64) (g:Bool->Bool->Bool) (hf:∀ u v (j:Nat),(f u v).getLsbD j=g (u.getLsbD j) (v.getLsbD j)) (hg:g false false=false) (ha:VSt w a) (hb:VSt w b) :
  ∃ r,QdZ a b f=(r,0)/\VSt w r/\∀ x,Qas r x=g (Qas a x) (Qas b x):=by
 have a1:=Qi6 ha; have b1:=Qi6 hb
 let o:=QcJ a b f a.Words.length (List.replicate a.Words.length 0#64) 0
 have ol:o.length=a.Words.length:=by rw [QkR]; simp
 have hbit:∀ x:Int,0<=x->x < 64*(a.Words.length:Int)->Qho o x=g (Qho a.Words x) (Qho b.Words x):=by
  intro x x0 x1
  unfold Qho
  rw [QkT a b f a.Words.length (List.replicate a.Words.length 0#64) 0 (by omega) (by simp) (x / 64).toNat (by simp; omega),if_pos (by omega),hf]
 have hv:VSt w ⟨w,o⟩:=by
  refine ⟨⟨a1.1,a1.2.1,by show (o.length:Int)=_; rw [ol]; exact a1.2.2.2,fun x x0 x1=>?_⟩,rfl⟩
  have x0:w<=x:=x0
  have x1:x < 64*(o.length:Int):=x1
  show Qho o x=false
  rw [ol] at x1
  rw [hbit x (by omega) x1,ha.1.2.2.2 x (by omega) (by omega),hb.1.2.2.2 x (by omega) (by omega),hg]
 refine ⟨⟨w,o⟩,?_,hv,fun x=>?_⟩
 ·unfold QdZ
  have e:(a.Width != b.Width)=false:=by rw [a1.2.2.1,b1.2.2.1]; simp
  rw [a1.2.2.1] at e
  simp only [Qf3 ha,Qf3 hb,Bool.not_true,cond_false,List.length_replicate,a1.2.2.1,e]
  rw [show ((((a.Words.length:Nat):Int).toNat:Nat):Int) - 0=(a.Words.length:Int) by omega,Int.toNat_natCast]
 ·rw [Qjl hv,Qjl ha,Qjl hb]
  by_cases x0:0<=x
  ·by_cases x1:x < w
   ·simp only [decide_eq_true x0,decide_eq_true x1,Bool.true_and]
    exact hbit x x0 (by omega)
   ·simp [x1,hg]
  ·simp [x0,hg]
theorem QqB {w:Int} {a b:Qaf} (ha:VSt w a) (hb:VSt w b):∃ r,Qky a b=(r,0)/\VSt w r/\∀ x,Qas r x=(Qas a x && !Qas b x):=by
 obtain ⟨r,e,hr,hh⟩:=QmK (fun x0 x1=>Qgx x0 x1) (fun p q=>p && !q) (fun u v j=>by
  unfold Qgx
  rw [BitVec.getLsbD_and,BitVec.getLsbD_not]
  by_cases hj:j < 64
  ·simp [hj]
  ·simp [hj,BitVec.getLsbD_of_ge u j (by omega)]) rfl ha hb
 refine ⟨r,?_,hr,hh⟩
 unfold Qky; simp only [e]
theorem Qoh (a b:Qaf):QeX a b=Qfu a b:=by
 cases hva:QaX a with
 | false=>unfold QeX QdZ Qfu Qif; simp only [<- QeA,hva]; rfl
 | true=>
  cases hvb:QaX b with
  | false=>unfold QeX QdZ Qfu Qif; simp only [<- QeA,hva,hvb]; rfl
  | true=>
   by_cases hw:a.Width=b.Width
   ·have ha:VSt a.Width a:=⟨(Qfn a).1 hva,rfl⟩
    have hb:VSt a.Width b:=⟨(Qfn b).1 hvb,hw.symm⟩
    obtain ⟨r,e,hr,hh⟩:=QmK (fun x0 x1=>Qfm x0 x1) (· || ·) (fun u v j=>by simp [Qfm]) rfl ha hb
    obtain ⟨q,e',hq,hh'⟩:=Qi1 ha hb
    have:r=q:=Qpk hr hq fun x _ _=>by rw [hh,hh']
    unfold QeX
    simp only [e,e',this]
   ·have e1:(a.Width != b.Width)=true:=by simp [hw]
    unfold QeX QdZ Qfu Qif; simp only [<- QeA,hva,hvb,e1]; rfl
theorem Qqg {w:Int} {s:Qaf} (hs:VSt w s) {b:Int} (hb:0<=b/\b < w):∃ r,Qkz s b=(r,0)/\VSt w r/\∀ x,Qas r x=(Qas s x || x == b):=by
 have hw:=Qi6 hs
 let q:=s.Words.set (b / 64).toNat ((s.Words.getD (b / 64).toNat 0#64) &&& ~~~(1#64 <<< (b % 64).toNat))
 have ql:q.length=s.Words.length:=by simp [q]
 have e1:q.set (b / 64).toNat ((q.getD (b / 64).toNat 0#64) ||| (1#64 <<< (b % 64).toNat))=(QbC s b).Words:=by
  rw [QoL hs hb]
  simp only [q]
  rw [List.set_set]
  congr 1
  rw [List.getD_eq_getElem?_getD,List.getElem?_set,if_pos rfl,if_pos (by omega)]
  simp only [Option.getD_some]
  apply BitVec.eq_of_getLsbD_eq
  intro j hj
  simp only [BitVec.getLsbD_or,BitVec.getLsbD_and,BitVec.getLsbD_not,hj,decide_true,Bool.true_and]
  all_goals (cases (s.Words.getD (b / 64).toNat 0#64).getLsbD j <;> cases (1#64 <<< (b % 64).toNat).getLsbD j <;> rfl)
 refine ⟨QbC s b,?_,QoD hs hb,Qo4 hs hb⟩
 unfold Qkz QeJ QoA QcH
 simp only [Qf3 hs,QrQ (s:=s) (b:=b) (by omega),Bool.not_true,cond_false,cond_true]
 rw [Qt1 (by omega)]
 rw [e1]
 have:(QbC s b).Width=s.Width:=rfl
 rw [<- this]
theorem Qg4 {w:Int} {t:Qad} {s:Qaf} (hs:VSt w s) (hc:∀ c∈t.Copies,0<=c.To/\c.To < w):∀ (m:Nat) (o0:Int) (o1:List (BitVec 64)) (i:Int),0<=i->i+m=(t.Copies.length:Int)->VSt w ⟨o0,o1⟩ ->
  VSt w ⟨(Qb2 t s m o0 o1 i).1,(Qb2 t s m o0 o1 i).2⟩/\∀ x,Qas ⟨(Qb2 t s m o0 o1 i).1,(Qb2 t s m o0 o1 i).2⟩ x=true↔Qas ⟨o0,o1⟩ x=true\/∃ j:Int,i<=j/\j < i+m/\Qas s (t.Copies.getD j.toNat default).From=true/\(t.Copies.getD j.toNat default).To=x
 | 0,o0,o1,i,h0,h1,h=>⟨h,fun x=>by
   constructor
   ·intro h; exact .inl h
   ·rintro (h | ⟨c,c1,c2,_⟩)
    ·exact h
    ·omega⟩
 | m+1,o0,o1,i,h0,h1,h=>by
  rw [Qb2]
  simp only [Ql2]
  cases hh:Qas s (t.Copies.getD i.toNat default).From with
  | false=>
   simp only [cond_false]
   obtain ⟨i1,i2⟩:=Qg4 (t:=t) hs hc m o0 o1 (i+1) (by omega) (by omega) h
   refine ⟨i1,fun x=>(i2 x).trans ?_⟩
   constructor
   ·rintro (h | ⟨j,j1,j2,j3⟩)
    ·exact .inl h
    ·exact .inr ⟨j,by omega,by omega,j3⟩
   ·rintro (h | ⟨j,j1,j2,j3,j4⟩)
    ·exact .inl h
    ·by_cases e:j=i
     ·subst e; rw [hh] at j3; cases j3
     ·exact .inr ⟨j,by omega,by omega,j3,j4⟩
  | true=>
   simp only [cond_true]
   obtain ⟨r,e,hr,hrh⟩:=Qqg h (hc _ (QaA (xs:=t.Copies) (i:=i.toNat) (d:=default) (by omega)))
   rw [e]
   obtain ⟨i1,i2⟩:=Qg4 (t:=t) hs hc m r.Width r.Words (i+1) (by omega) (by omega) hr
   refine ⟨i1,fun x=>(i2 x).trans ?_⟩
   rw [show (⟨r.Width,r.Words⟩:Qaf)=r from rfl,hrh]
   simp only [Bool.or_eq_true,beq_iff_eq]
   constructor
   ·rintro ((h | h) | ⟨j,j1,j2,j3⟩)
    ·exact .inl h
    ·exact .inr ⟨i,by omega,by omega,hh,h.symm⟩
    ·exact .inr ⟨j,by omega,by omega,j3⟩
   ·rintro (h | ⟨j,j1,j2,j3,j4⟩)
    ·exact .inl (.inl h)
    ·by_cases e:j=i
     ·subst e; exact .inl (.inr j4.symm)
     ·exact .inr ⟨j,by omega,by omega,j3,j4⟩
theorem Qre (t:Qad) (s:Qaf):Qeu t s=Qd0 t s:=by
 cases ht:QcM t with
 | false=>unfold Qeu Qd0; simp only [<- QdN,ht]; rfl
 | true=>
  cases hs:QaX s with
  | false=>unfold Qeu Qd0; simp only [<- QdN,ht,<- QeA,hs]; rfl
  | true=>
   by_cases hw:t.Gen.Width=s.Width
   case neg=>
    have e1:(t.Gen.Width != s.Width)=true:=by simp [hw]
    unfold Qeu Qd0; simp only [<- QdN,ht,<- QeA,hs,e1]; rfl
   have hvt:Qal t=true:=by rw [<- QdN]; exact ht
   have hVs:VSt s.Width s:=⟨(Qfn s).1 hs,rfl⟩
   obtain ⟨q,e,hq,hh⟩:=QiP ⟨hvt,hw⟩ hVs
   have parts:=QdF hvt
   have hg:VSt s.Width t.Gen:=⟨parts.1,hw⟩
   have hk:VSt s.Width t.Kill:=⟨parts.2.1,by rw [<- parts.2.2.1]; exact hw⟩
   have hcp:=Qi7 hvt
   rw [hw] at hcp
   obtain ⟨d,e1,hd,hhd⟩:=QqB hVs hk
   obtain ⟨u,e2,hu,hhu⟩:=Qi1 hd hg
   obtain ⟨i1,i2⟩:=Qg4 (t:=t) hVs (fun c hc=>(hcp c hc).2) t.Copies.length u.Width u.Words 0 (by omega) (by omega) hu
   rw [e]
   unfold Qeu
   have e3:(t.Gen.Width != s.Width)=false:=by simp [hw]
   simp only [ht,hs,e3,Bool.not_true,cond_false]
   have e4:QiZ t s=q:=by
    unfold QiZ
    simp only [e1,Qoh,e2]
    rw [show ((((t.Copies.length:Nat):Int) - 0).toNat)=t.Copies.length by omega]
    refine Qpk i1 hq fun x x0 x1=>?_
    rw [Bool.eq_iff_iff,i2,hh,show (⟨u.Width,u.Words⟩:Qaf)=u from rfl,hhu,hhd]
    simp only [Bool.or_eq_true,Bool.and_eq_true,Bool.not_eq_true',QlN]
    constructor
    ·rintro ((⟨h1,h2⟩ | h) | ⟨j,j1,j2,j3,j4⟩)
     ·exact .inr ⟨x,h1,x0,x1,.inl ⟨rfl,h2⟩⟩
     ·exact .inl h
     ·exact .inr ⟨_,j3,x0,x1,.inr ⟨_,QaA (by omega),rfl,j4⟩⟩
    ·rintro (h | ⟨a,h1,_,_,h2 | ⟨c,hc,c1,c2⟩⟩)
     ·exact .inl (.inr h)
     ·obtain ⟨rfl,h2⟩:=h2; exact .inl (.inl ⟨h1,h2⟩)
     ·obtain ⟨j,j0,j1,rfl⟩:=(QdK (d:=default)).1 hc
      exact .inr ⟨j,j0,by omega,by rw [c1]; exact h1,c2⟩
   rw [e4]
theorem QoH (s:Qab) (v:List Qaf) (n:Int):∀ (m:Nat) (o0:Int) (o1:List (BitVec 64)) (i:Int),Qd9 s v n m o0 o1 i=QbM s v n m o0 o1 i
 | 0,o0,o1,i=>rfl
 | m+1,o0,o1,i=>by
  rw [Qd9,QbM]
  simp only [Qre,Qoh]
  exact QoH s v n m _ _ _
theorem QqV {s:Qab} (hv:QcT s) {v:List Qaf} (h:QdU s v) {n:Int} (n0:0<=n) (n1:n < (s.Deps.length:Int)):Qev s v n=(QcI s v n,0):=by
 have hb:=hv.bl
 have hl:=h.1
 have e1:Qca s=true:=(Qdw s).2 hv
 have e2:(((v.length:Nat):Int) != ((s.Deps.length:Nat):Int))=false:=by simp; omega
 unfold Qev QcI
 simp only [e1,e2,Bool.not_true,cond_false,decide_eq_false (show ¬ n < 0 by omega),decide_eq_false (show ¬ (s.Deps.length:Int)<=n by omega),Qus h,QuZ h,QoH]
 have hw:=(Qn1 hv n0 n1).2
 rw [<- hw]
 rfl
theorem Qp2 {s:Qab} (hv:QcT s) {v:List Qaf} (h:QdU s v):∀ (m:Nat) (o:List Qaf) (n:Int),0<=n->n+m=(s.Deps.length:Int)->QdQ s v m o n=.brk (o++(List.range' n.toNat m).map fun i:Nat=>QcI s v (i:Int))
 | 0,o,n,_,_=>by simp [QdQ]
 | m+1,o,n,h0,h1=>by
  rw [QdQ,QqV hv h h0 (by omega)]
  simp only [bne_self_eq_false,cond_false]
  rw [Qp2 hv h m _ (n+1) (by omega) (by omega),List.range'_succ,show (n+1).toNat=n.toNat+1 by omega]
  simp only [List.map_cons,List.append_assoc,List.singleton_append]
  rw [show ((n.toNat:Nat):Int)=n by omega]
theorem Qtl {s:Qab} (hv:QcT s) {v:List Qaf} (h:QdU s v):Qiu s v=(Fv s v,0):=by
 have hb:=hv.bl
 unfold Qiu
 simp only [(Qdw s).2 hv,Bool.not_true,cond_false]
 rw [Qp2 hv h _ _ _ (by omega) (by omega),show ((((s.Deps.length:Nat):Int) - 0).toNat)=s.Boundary.length by omega]
 unfold Fv
 simp [List.range_eq_range']
theorem QmN {s:Qab} (hv:QcT s) {v:List Qaf} (h:QdU s v):QcW v s=Fv s v:=by
 unfold QcW
 simp only [Qtl hv h]
theorem Qrk {w:Int} (h0:0<=w) (h1:w<=256):QhK w=(QaD w,0):=by
 have e:QdL w=true:=by unfold QdL; simp [Bool.cond_eq_ite]; omega
 unfold QhK QaD
 simp only [e,Bool.not_true,cond_false]
 rw [show QfW w=(w+63) / 64 by unfold QfW; omega]
theorem QoC {w:Int} (h0:0<=w) (h1:w<=256):∀ (m:Nat) (p q:List Qaf) (i:Int),p.length=i.toNat->0<=i->q.length=m->QdE w m (p++q) i=p++List.replicate m (QaD w)
 | 0,p,q,i,hp,hi,hq=>by have:q=[]:=List.length_eq_zero_iff.1 hq; subst this; rfl
 | m+1,p,[],i,hp,hi,hq=>by cases hq
 | m+1,p,x :: q,i,hp,hi,hq=>by
  rw [QdE,Qrk h0 h1,<- hp]
  have:(p++x :: q).set p.length (QaD w)=(p++[QaD w])++q:=by simp
  show QdE w m ((p++x :: q).set p.length (QaD w)) (i+1)=_
  rw [this,QoC h0 h1 m (p++[QaD w]) q (i+1) (by simp; omega) (by omega) (by simpa using hq),List.replicate_succ]
  simp
theorem QrL {w n:Int} (h0:0<=w) (h1:w<=256) (hn:0<=n):QeZ w n=List.replicate n.toNat (QaD w):=by
 unfold QeZ
 have:=QoC h0 h1 n.toNat [] (List.replicate n.toNat default) 0 rfl (by omega) (by simp)
 rw [List.nil_append] at this
 simp only [List.length_replicate]
 rw [show (((n.toNat:Nat):Int) - 0).toNat=n.toNat by omega,this]; rfl
theorem QoY (a b:List (BitVec 64)):Qce a b=QeC ⟨0,a⟩ ⟨0,b⟩:=by
 have h:∀ m i,Qbn a b m i=QdS ⟨0,a⟩ ⟨0,b⟩ m i:=by
  intro m
  induction m with
  | zero=>intro i; rfl
  | succ m ih=>intro i; rw [Qbn,QdS,ih]
 unfold Qce QeC
 rw [h]
 rfl
theorem QkX (a b:List Qaf):∀ (m:Nat) (i:Int),0<=i->i+m=(a.length:Int)->(Qa4 a b (fun x0 x1=>Qc7 x0 x1) m i=.brk ()/\∀ j:Int,i<=j->j < i+m->Qc7 (vat a j) (vat b j)=true) \/
  (Qa4 a b (fun x0 x1=>Qc7 x0 x1) m i=.ret false/\∃ j:Int,i<=j/\j < i+m/\Qc7 (vat a j) (vat b j)=false)
 | 0,i,h0,h1=>.inl ⟨rfl,fun j a b=>by omega⟩
 | m+1,i,h0,h1=>by
  rw [Qa4]
  show (_=_/\_)\/(_=_/\_)
  cases e:Qc7 (a.getD i.toNat default) (b.getD i.toNat default) with
  | false=>exact .inr ⟨rfl,i,by omega,by omega,e⟩
  | true=>
   simp only [Bool.not_true,cond_false]
   rcases QkX a b m (i+1) (by omega) (by omega) with ⟨e1,e2⟩ | ⟨e1,j,j1,j2,j3⟩
   ·refine .inl ⟨e1,fun j j1 j2=>?_⟩
    rcases Int.lt_or_eq_of_le j1 with hj | hj
    ·exact e2 j (by omega) (by omega)
    ·subst hj; exact e
   ·exact .inr ⟨e1,j,by omega,by omega,j3⟩
theorem Qrz {w:Int} {a b:Qaf} (ha:VSt w a) (hb:VSt w b):Qc7 a b=QeC a b:=by
 have a1:=Qi6 ha; have b1:=Qi6 hb
 unfold Qc7
 have e:(a.Width == b.Width)=true:=by rw [a1.2.2.1,b1.2.2.1]; simp
 simp only [Qf3 ha,Qf3 hb,e,cond_true]
 rw [QoY,Bool.eq_iff_iff,QjP,QjP]
 obtain ⟨wa,la⟩:=a; obtain ⟨wb,lb⟩:=b
 simp only at a1 b1
 rw [a1.2.2.1,b1.2.2.1]
 simp
theorem QmL {s:Qab} {a b:List Qaf} (ha:QdU s a) (hb:QdU s b):QhQ a b=true↔a=b:=by
 have hl:a.length=b.length:=ha.1.trans hb.1.symm
 have key:∀ j:Int,0<=j->j < (a.length:Int)->(Qc7 (vat a j) (vat b j)=true↔vat a j=vat b j):=fun j j0 j1=>by
  have va:=Qfr ha j0 (by have:=ha.1; omega)
  have vb:=Qfr hb j0 (by have:=ha.1; omega)
  rw [show Qc7 (vat a j) (vat b j)=QeC (vat a j) (vat b j) from Qrz va vb]
  exact QjP _ _
 unfold QhQ Qcq
 have e:(((a.length:Nat):Int) != ((b.length:Nat):Int))=false:=by simp [hl]
 simp only [e,cond_false]
 rcases QkX a b ((((a.length:Nat):Int) - 0).toNat) 0 (by omega) (by omega) with ⟨e1,e2⟩ | ⟨e1,j,j1,j2,j3⟩
 ·rw [e1]
  refine ⟨fun _=>?_,fun _=>rfl⟩
  refine List.ext_getElem hl fun i h1 h2=>?_
  have:=(key i (by omega) (by omega)).1 (e2 i (by omega) (by omega))
  unfold vat at this
  simpa [List.getD,h1,h2] using this
 ·rw [e1]
  refine ⟨fun h=>(by exact absurd h (by decide)),fun h=>?_⟩
  have:=(key j (by omega) (by omega)).2 (by rw [h])
  rw [this] at j3; cases j3
def Qle (w n:Int) (f:List Qaf->List Qaf):Prop:=QbV f (n.toNat*w.toNat+2) (QeZ w n) (f (QeZ w n)) 0≠LR.oof
theorem Qjg {s:Qab} (hv:QcT s) {f:List Qaf->List Qaf} (hf:∀ v,QdU s v->f v=Fv s v):∀ (m:Nat) (v:List Qaf) (round:Int),QdU s v->Le s v (Fv s v)->s.Boundary.length*s.Width.toNat < cnt s.Boundary.length s.Width.toNat v+m ->
  ∃ u r,QbV f m v (Fv s v) round=.brk (u,r)/\QdU s u/\Fv s u=u/\∀ z,QdU s z->Le s (Fv s z) z->Le s v z->Le s u z
 | 0,v,round,h1,h2,h3=>by have:=QrF s.Boundary.length s.Width.toNat v; omega
 | m+1,v,round,h1,h2,h3=>by
  have hF:=QAr hv h1
  rw [QbV]
  cases e:QhQ v (Fv s v) with
  | true=>
   have e:=(QmL h1 hF).1 e
   exact ⟨v,round,rfl,h1,e.symm,fun z _ _ h=>h⟩
  | false=>
   have hne:v≠Fv s v:=fun h=>by
    have:=(QmL h1 hF).2 h
    rw [this] at e; cases e
   have hlt:=QtG (n:=s.Boundary.length) (w:=s.Width.toNat) (fun i hi=>h2 i (by omega) (by omega)) (Qrs h1 hF h2 hne)
   obtain ⟨u,r,e1,e2,e3,e4⟩:=Qjg hv hf m (Fv s v) (round+1) hF (Qno hv h1 hF h2) (by omega)
   refine ⟨u,r,?_,e2,e3,fun z hz hz2 hz3=>e4 z hz hz2 (QpD (Qno hv h1 hz hz3) hz2)⟩
   simp only [Bool.not_false,cond_true]
   rw [hf _ hF]; exact e1
theorem QmW {s:Qab} (hv:QcT s):∃ u r,QbV (fun x0=>QcW x0 s) ((s.Deps.length:Int).toNat*s.Width.toNat+2) (QeZ s.Width (s.Deps.length:Int)) (QcW (QeZ s.Width (s.Deps.length:Int)) s) 0=.brk (u,r)/\QrU s u:=by
 have hb:=hv.bl
 have hw:=hv.w
 have e:QeZ s.Width (s.Deps.length:Int)=Qdr s:=by
  rw [QrL hw.1 hw.2 (by omega),Qnw,show ((s.Deps.length:Int).toNat)=s.Boundary.length by omega]
 rw [e,QmN hv (Qnn hv)]
 obtain ⟨u,r,e1,e2,e3,e4⟩:=Qjg hv (f:=fun x0=>QcW x0 s) (fun v h=>QmN hv h) ((s.Deps.length:Int).toNat*s.Width.toNat+2) (Qdr s) 0 (Qnn hv) (Qlm hv _) (by rw [show ((s.Deps.length:Int).toNat)=s.Boundary.length by omega]; omega)
 exact ⟨u,r,e1,e2,e3,fun z h1 h2=>e4 z h1 h2 (Qlm hv z)⟩
theorem QrE {s:Qab} (hv:QcT s):Qle s.Width (s.Deps.length:Int) (fun x0=>QcW x0 s):=by
 obtain ⟨u,r,e,_⟩:=QmW hv
 unfold Qle
 show QbV _ _ _ (QcW _ s) 0≠_
 rw [e]; intro h; cases h
theorem QlU {s:Qab} (hv:QcT s):∃ u r,Qf0 s=(u,r,0)/\QrU s u:=by
 obtain ⟨u,r,e,h⟩:=QmW hv
 refine ⟨u,r,?_,h⟩
 unfold Qf0 Qio
 simp only [(Qdw s).2 hv,Bool.not_true,cond_false,e]
theorem QqA {s:Qab} {r:List Qaf×Int×Int} (h:Qf0 s=r) (hv:QcT s):r.1.length=s.Deps.length:=by
 subst h
 obtain ⟨u,r,e,hu⟩:=QlU hv
 rw [e]
 have:=hu.v.1
 have:=hv.bl
 dsimp only; omega
theorem Qr8 (s:Qab) (n b:Int):QfF s n b=QeG s n b:=by
 unfold QfF QeG
 simp only [QnI,Ql2]
 by_cases h:Qap s n b=0
 ·obtain ⟨hv,_⟩:=(Qly s n b).1 h
  obtain ⟨u,k,e,hu⟩:=QlU hv
  obtain ⟨v,k',e',hv'⟩:=QmU hv
  rw [e,e',Qqc hu hv']
 ·have e':(Qap s n b != 0)=true:=by simpa using h
  simp only [e',cond_true]
theorem Qnv (a:List Qag):Qda a a=true:=by
 unfold Qda
 rw [bne_self_eq_false,cond_false]
 have:∀ (m:Nat) (i:Int),QbQ a a m i=.brk ():=fun m=>by
  induction m with
  | zero=>intro i; rfl
  | succ m ih=>
   intro i
   rw [QbQ,bne_self_eq_false,cond_false]
   exact ih _
 rw [this]
theorem Qkx (s:Qab) (n b:Int):Qcg s n b=true:=by
 unfold Qcg
 simp only [QuB,Qr8,beq_self_eq_true,cond_true,Qnv]
 exact (Qin _ _).2 rfl
theorem Qfz (l:List Int) (n:Int):Qa8 l n=true↔n∈l:=by
 have:=QqR (fun r i=>Qcj l n r i) (fun i=>n == l.getD i.toNat 0) () (fun _=>rfl) (fun _ _=>rfl) ((((l.length:Nat):Int) - 0).toNat) 0
 unfold Qa8 QeM
 rw [QfZ]
 rcases this with ⟨j,e,j1,j2,j3⟩ | ⟨e,h⟩
 ·rw [e]
  exact ⟨fun _=>⟨j,j1,by omega,(eq_of_beq j3).symm⟩,fun _=>by simpa using j1⟩
 ·rw [e]
  refine ⟨fun h=>by simp at h,?_⟩
  rintro ⟨j,j1,j2,j3⟩
  have:=h j j1 (by omega)
  simp only [j3] at this; simp at this
theorem QoJ (t:List Int) (x0:Int) (x1:List (List Int)) (x2:List Qad) (x3:List Qaf):∀ (m:Nat) (k i:Int),∃ o,Qbh t x0 x1 x2 x3 m k i=.brk o
 | 0,k,i=>⟨k,rfl⟩
 | m+1,k,i=>by
  rw [Qbh]
  simp only [Qkx,Bool.not_true,cond_false]
  exact QoJ t x0 x1 x2 x3 m _ _
theorem Qoo (t:List Int) (n b:Int):∀ (m:Nat) (k i:Int),QaV t n b m k i=.brk ()
 | 0,k,i=>rfl
 | m+1,k,i=>by
  rw [QaV]
  dsimp only
  obtain ⟨o,e⟩:=QoJ t (QbZ t k 5).1.Width (QbZ t k 5).1.Deps (QbZ t k 5).1.Transfers (QbZ t k 5).1.Boundary (((((QbZ t k 5).1.Deps.length:Nat):Int) - 0).toNat) (QbZ t k 5).2 0
  rw [e]
  simp only [Qkx,Bool.not_true,cond_false]
  exact Qoo t n b m _ _
theorem QkE (t:List Int) (s:Qab) (n b:Int):QbI t s n b=true:=by
 unfold QbI
 simp only [Qoo,Qkx,cond_true]
 all_goals (cases Qiq s <;> rfl)
theorem Qc8:Qbw Tryz.prog 27 3=some 3:=by kernel_rfl
theorem Qjc:Qau Tryz.prog 25=some (false,1):=by kernel_rfl
theorem Qd2:Qe5 Tryz.prog 25=some (42,2,32):=by kernel_rfl
theorem Qb7:Qbw Tryz.prog 27 0=some 0:=by kernel_rfl
theorem Qbt:Qbw Tryz.prog 27 1=some 1:=by kernel_rfl
theorem QfL:Qau Tryz.prog 23=some (false,1):=by kernel_rfl
theorem QeN:Qe5 Tryz.prog 23=some (22,1,24):=by kernel_rfl
theorem Qco:Qbw Tryz.prog 27 2=some 2:=by kernel_rfl
theorem QiS:Qau Tryz.prog 24=some (false,1):=by kernel_rfl
theorem Qhi:Qe5 Tryz.prog 24=some (65,5,88):=by kernel_rfl
theorem Qjs:Qau Tryz.prog 22=some (false,1):=by kernel_rfl
theorem Qxx:Qac Tryz.prog 67=true:=by kernel_rfl
theorem Qdm:Qau Tryz.prog 65=some (true,5):=by kernel_rfl
theorem Qvw:Qac Tryz.prog 68=true:=by kernel_rfl
theorem QcP:Qe5 Tryz.prog 22=some (3,1,8):=by kernel_rfl
theorem sh3:Qau Tryz.prog 3=some (false,1):=by kernel_rfl
theorem QcF:Tryz.prog.follows .mixedOrders=true:=by kernel_rfl
theorem Qdx:Qbw Tryz.prog 65 0=some 0:=by kernel_rfl
theorem Qaw:Qau Tryz.prog 42=some (true,2):=by kernel_rfl
theorem QtJ:Qac Tryz.prog 53=true:=by kernel_rfl
theorem QfD:Qbw Tryz.prog 65 1=some 2:=by kernel_rfl
theorem Qcw:Qbw Tryz.prog 65 2=some 4:=by kernel_rfl
theorem Qi5:Qau Tryz.prog 63=some (false,1):=by kernel_rfl
theorem Qhq:Qe5 Tryz.prog 63=some (105,2,16):=by kernel_rfl
theorem QiC:Qau Tryz.prog 105=some (true,2):=by kernel_rfl
theorem Quj:QdX Tryz.prog 105=some (.agg #[vi 0,vi 0]):=by kernel_rfl
theorem Qzr:Qac Tryz.prog 107=true:=by kernel_rfl
theorem Qzx:Qac Tryz.prog 170=true:=by kernel_rfl
theorem Qbj:Qbw Tryz.prog 42 0=some 0:=by kernel_rfl
theorem Qcv:Qbw Tryz.prog 42 1=some 1:=by kernel_rfl
theorem Qi4:Qau Tryz.prog 40=some (false,1):=by kernel_rfl
theorem QgP:Qe5 Tryz.prog 40=some (91,1,8):=by kernel_rfl
theorem Qn0:Qau Tryz.prog 91=some (false,1):=by kernel_rfl
theorem un3:Tryz.prog.underlying 3=some (.int .i64):=by kernel_rfl
theorem Qrp:Tryz.prog.underlying 92=some (.int .u64):=by kernel_rfl
theorem QwA:Qac Tryz.prog 113=true:=by kernel_rfl
theorem QwC:Qac Tryz.prog 114=true:=by kernel_rfl
theorem QxP:Qac Tryz.prog 115=true:=by kernel_rfl
theorem Qrw:Qac Tryz.prog 79=true:=by kernel_rfl
theorem QxR:Qac Tryz.prog 136=true:=by kernel_rfl
theorem QwB:Qac Tryz.prog 135=true:=by kernel_rfl
theorem QyN:Qac Tryz.prog 137=true:=by kernel_rfl
theorem Qxr:Qac Tryz.prog 174=true:=by kernel_rfl
theorem QcA:Qbw Tryz.prog 105 0=some 0:=by kernel_rfl
theorem Qd4:Qbw Tryz.prog 105 1=some 1:=by kernel_rfl
theorem Qw5:Qac Tryz.prog 147=true:=by kernel_rfl
theorem QxT:Qac Tryz.prog 146=true:=by kernel_rfl
theorem QmX:Qdk Tryz.prog 22=some [vi 0]:=by kernel_rfl
theorem ca9:Qac Tryz.prog 9=true:=by kernel_rfl
theorem Qtq:Qac Tryz.prog 76=true:=by kernel_rfl
theorem Qyi:Qac Tryz.prog 109=true:=by kernel_rfl
theorem QyZ:Qac Tryz.prog 75=true:=by kernel_rfl
theorem QA4:Qac Tryz.prog 98=true:=by kernel_rfl
theorem QCw:Qac Tryz.prog 93=true:=by kernel_rfl
theorem QB3:Qac Tryz.prog 94=true:=by kernel_rfl
theorem QAi:Qac Tryz.prog 95=true:=by kernel_rfl
theorem QB1:Qac Tryz.prog 97=true:=by kernel_rfl
theorem QBn:Qac Tryz.prog 96=true:=by kernel_rfl
theorem Qxz:Qac Tryz.prog 56=true:=by kernel_rfl
theorem Qeh:Qau Tryz.prog 27=some (true,4):=by kernel_rfl
theorem Qy1:Qac Tryz.prog 36=true:=by kernel_rfl
theorem QCq:Qac Tryz.prog 81=true:=by kernel_rfl
theorem QAU:Qac Tryz.prog 83=true:=by kernel_rfl
theorem QzW:Qac Tryz.prog 80=true:=by kernel_rfl
theorem QzA:Qac Tryz.prog 108=true:=by kernel_rfl
theorem Qe8:Qbw Tryz.prog 37 1=some 1:=by kernel_rfl
theorem QuD:Qac Tryz.prog 47=true:=by kernel_rfl
theorem Qdl:Qbw Tryz.prog 37 0=some 0:=by kernel_rfl
theorem QCx:Qac Tryz.prog 73=true:=by kernel_rfl
theorem QCk:Qac Tryz.prog 72=true:=by kernel_rfl
theorem QB9:Qac Tryz.prog 74=true:=by kernel_rfl
theorem Qzt:Qac Tryz.prog 175=true:=by kernel_rfl
theorem QtH:QjV Tryz.prog 105 2=true:=by kernel_rfl
theorem Qzd:Qac Tryz.prog 149=true:=by kernel_rfl
theorem QxL:Qac Tryz.prog 148=true:=by kernel_rfl
theorem QpZ:QdX Tryz.prog 65=some (.agg #[vi 0,.slice none 0 0,vi 0,.slice none 0 0,.slice none 0 0]):=by kernel_rfl
theorem QyS:Qok Tryz.prog 65=some ([(0,2),(2,2),(4,1)],[vi 0,.slice none 0 0,vi 0,.slice none 0 0,.slice none 0 0]):=by kernel_rfl
theorem Qpj:Qok Tryz.prog 105=some ([(0,1),(1,1)],[vi 0,vi 0]):=by kernel_rfl
theorem QsW:Qdk Tryz.prog 63=some [vi 0,vi 0]:=by kernel_rfl
theorem Qwj:Qac Tryz.prog 110=true:=by kernel_rfl
theorem QCe:Qac Tryz.prog 77=true:=by kernel_rfl
theorem QxG:Qac Tryz.prog 44=true:=by kernel_rfl
theorem QAc:Qac Tryz.prog 45=true:=by kernel_rfl
theorem QxC:Qac Tryz.prog 42=true:=by kernel_rfl
theorem QAH:Qac Tryz.prog 61=true:=by kernel_rfl
theorem QBb:Qac Tryz.prog 62=true:=by kernel_rfl
theorem QB0:Qac Tryz.prog 60=true:=by kernel_rfl
theorem QBm:Qac Tryz.prog 63=true:=by kernel_rfl
theorem QBO:Qac Tryz.prog 64=true:=by kernel_rfl
theorem Qws:QjV Tryz.prog 37 2=true:=by kernel_rfl
theorem Qyh:Qac Tryz.prog 102=true:=by kernel_rfl
theorem Qqu:QdX Tryz.prog 37=some (.agg #[vi 0,vi 0]):=by kernel_rfl
theorem QyW:Tryz.prog.underlying 28=some (.slice 37):=by kernel_rfl
theorem Qea:Qe5 Tryz.prog 28=some (37,2,16):=by kernel_rfl
theorem Qmk:Qdk Tryz.prog 28=some [vi 0,vi 0]:=by kernel_rfl
theorem Qe4:Qau Tryz.prog 37=some (true,2):=by kernel_rfl
theorem QAg:Qac Tryz.prog 43=true:=by kernel_rfl
theorem Qrg:Qok Tryz.prog 37=some ([(0,1),(1,1)],[vi 0,vi 0]):=by kernel_rfl
theorem Qxs:Qac Tryz.prog 105=true:=by kernel_rfl
theorem QCl:QlO Tryz.prog 37 2=true:=by kernel_rfl
theorem Qjp:KK Tryz.prog 37 Qfd Qey:=Quf (fun x:Qag=>[x.Node,x.Bit]) Qey QCl (fun x y h=>by cases x; cases y; simpa using h) (fun _=>rfl) (fun x hx y hy=>by simp only [List.mem_cons,List.not_mem_nil,or_false] at hy; obtain ⟨h0,h1⟩:=hx; rcases hy with rfl | rfl <;> assumption)
theorem QtR:Qsr Tryz.prog 97=some (37,28):=by kernel_rfl
theorem Qww:QdX Tryz.prog 28=some (.slice none 0 0):=by kernel_rfl
theorem Qzo:Qac Tryz.prog 104=true:=by kernel_rfl
theorem QzB:Qac Tryz.prog 103=true:=by kernel_rfl
theorem Qyp:Qac Tryz.prog 145=true:=by kernel_rfl
theorem Qrf:QdX Tryz.prog 142=some (.agg #[vi 0,vi 0,vi 0,vi 0]):=by kernel_rfl
theorem Qyd:Qac Tryz.prog 160=true:=by kernel_rfl
theorem QwR:Qac Tryz.prog 159=true:=by kernel_rfl
theorem Qyy:Qac Tryz.prog 162=true:=by kernel_rfl
theorem QxM:Qac Tryz.prog 163=true:=by kernel_rfl
theorem Qul:Qac Tryz.prog 126=true:=by kernel_rfl
theorem Qol:Qok Tryz.prog 142=some ([(0,1),(1,1),(2,1),(3,1)],[vi 0,vi 0,vi 0,vi 0]):=by kernel_rfl
theorem Qkr:Qau Tryz.prog 142=some (true,4):=by kernel_rfl
theorem un9:Tryz.prog.underlying 9=some .string:=by kernel_rfl
theorem QrN:Qok Tryz.prog 129=some ([(0,1),(1,1),(2,1),(3,1)],[vi 0,.string (bs (Str.mk [])),vi 0,vi 0]):=by kernel_rfl
theorem Qfk:Qe5 Tryz.prog 116=some (129,4,40):=by kernel_rfl
theorem Qmq:Qdk Tryz.prog 116=some [vi 0,.string (bs (Str.mk [])),vi 0,vi 0]:=by kernel_rfl
theorem QsH:Qac Tryz.prog 119=true:=by kernel_rfl
theorem Qu8:Qac Tryz.prog 120=true:=by kernel_rfl
theorem QkB:Qbw Tryz.prog 121 2=some 2:=by kernel_rfl
theorem Qvx:Qau Tryz.prog 33=some (false,1):=by kernel_rfl
theorem QcB:Qbw Tryz.prog 121 1=some 1:=by kernel_rfl
theorem Qf9:Qbw Tryz.prog 121 0=some 0:=by kernel_rfl
theorem QlD:Qau Tryz.prog 116=some (false,1):=by kernel_rfl
theorem QoV:Qbw Tryz.prog 129 0=some 0:=by kernel_rfl
theorem Qnu:Qbw Tryz.prog 129 1=some 1:=by kernel_rfl
theorem sh9:Qau Tryz.prog 9=some (false,1):=by kernel_rfl
theorem Qvt:Qac Tryz.prog 85=true:=by kernel_rfl
theorem Qcu:Qe5 Tryz.prog 138=some (9,1,16):=by kernel_rfl
theorem Qii:Qdk Tryz.prog 138=some [.string (bs (Str.mk []))]:=by kernel_rfl
theorem QyT:Qac Tryz.prog 182=true:=by kernel_rfl
theorem Qrt:Qac Tryz.prog 176=true:=by kernel_rfl
theorem Qsh:Qac Tryz.prog 154=true:=by kernel_rfl
theorem Qun:Qac Tryz.prog 155=true:=by kernel_rfl
theorem Qpt:Qac Tryz.prog 122=true:=by kernel_rfl
theorem Qqx:QdX Tryz.prog 140=some (.agg #[vi 0,.string (bs (Str.mk [])),.slice none 0 0,.slice none 0 0]):=by kernel_rfl
theorem QdV:Qbw Tryz.prog 140 0=some 0:=by kernel_rfl
theorem QfN:Qbw Tryz.prog 140 2=some 2:=by kernel_rfl
theorem Qjq:Qau Tryz.prog 138=some (false,1):=by kernel_rfl
theorem Qwc:Qac Tryz.prog 177=true:=by kernel_rfl
theorem Qnj:Qac Tryz.prog 123=true:=by kernel_rfl
theorem Qek:Qau Tryz.prog 140=some (true,4):=by kernel_rfl
theorem QhS:Qbw Tryz.prog 140 1=some 1:=by kernel_rfl
theorem QwX:Qac Tryz.prog 178=true:=by kernel_rfl
theorem QuS:QdX Tryz.prog 168=some (.agg #[.string (bs (Str.mk [])),.slice none 0 0]):=by kernel_rfl
theorem Quo:Qac Tryz.prog 121=true:=by kernel_rfl
theorem Qo3:Qbw Tryz.prog 168 0=some 0:=by kernel_rfl
theorem Qw0:Qac Tryz.prog 156=true:=by kernel_rfl
theorem Qff:Qbw Tryz.prog 168 1=some 1:=by kernel_rfl
theorem Qkn:Qau Tryz.prog 166=some (false,1):=by kernel_rfl
theorem QgQ:Qe5 Tryz.prog 166=some (140,4,72):=by kernel_rfl
theorem Qzl:Qac Tryz.prog 157=true:=by kernel_rfl
theorem Qv1:Qdk Tryz.prog 166=some [vi 0,.string (bs (Str.mk [])),.slice none 0 0,.slice none 0 0]:=by kernel_rfl
theorem Qrm:Qau Tryz.prog 168=some (true,2):=by kernel_rfl
theorem QsP:QdX Tryz.prog 126=some (.agg #[.string (bs (Str.mk [])),.slice none 0 0]):=by kernel_rfl
theorem Qo7:Qbw Tryz.prog 126 0=some 0:=by kernel_rfl
theorem QdH:Qbw Tryz.prog 126 1=some 1:=by kernel_rfl
theorem QhL:Qau Tryz.prog 124=some (false,1):=by kernel_rfl
theorem Qht:Qe5 Tryz.prog 124=some (168,2,40):=by kernel_rfl
theorem Qx9:Qac Tryz.prog 124=true:=by kernel_rfl
theorem Qwk:Qdk Tryz.prog 124=some [.string (bs (Str.mk [])),.slice none 0 0]:=by kernel_rfl
theorem Qmx:Qau Tryz.prog 126=some (true,2):=by kernel_rfl
theorem QyE:QdX Tryz.prog 84=some (.agg #[.slice none 0 0]):=by kernel_rfl
theorem QAK:Qac Tryz.prog 84=true:=by kernel_rfl
theorem Qx1:Qok Tryz.prog 121=some ([(0,1),(1,1),(2,1)],[.slice none 0 0,vi 0,vi 0]):=by kernel_rfl
theorem Qej:Qbw Tryz.prog 84 0=some 0:=by kernel_rfl
theorem Qmm:Qau Tryz.prog 82=some (false,1):=by kernel_rfl
theorem Ql3:Qe5 Tryz.prog 82=some (126,2,40):=by kernel_rfl
theorem QBt:Qac Tryz.prog 87=true:=by kernel_rfl
theorem QzZ:Qdk Tryz.prog 82=some [.string (bs (Str.mk [])),.slice none 0 0]:=by kernel_rfl
theorem Qkj:Qau Tryz.prog 84=some (true,1):=by kernel_rfl
theorem Qhj:QdX Tryz.prog 42=some (.agg #[vi 0,.slice none 0 0]):=by kernel_rfl
theorem Quy:Qdk Tryz.prog 40=some [u64 (0#64)]:=by kernel_rfl
theorem Qjw:Qok Tryz.prog 42=some ([(0,1),(1,1)],[vi 0,.slice none 0 0]):=by kernel_rfl
theorem Qo6:Qbw Tryz.prog 140 3=some 3:=by kernel_rfl
theorem QvF:Qac Tryz.prog 183=true:=by kernel_rfl
theorem Qzu:Qac Tryz.prog 179=true:=by kernel_rfl
theorem Qq4:Qac Tryz.prog 129=true:=by kernel_rfl
theorem QuP:Qac Tryz.prog 158=true:=by kernel_rfl
theorem Qyg:Qac Tryz.prog 180=true:=by kernel_rfl
theorem Qwv:Qac Tryz.prog 161=true:=by kernel_rfl
theorem QAl:Qac Tryz.prog 25=true:=by kernel_rfl
theorem QBS:Qac Tryz.prog 10=true:=by kernel_rfl
theorem QAC:Qac Tryz.prog 26=true:=by kernel_rfl
theorem QCu:Qac Tryz.prog 54=true:=by kernel_rfl
theorem un4:Tryz.prog.underlying 4=some .bool:=by kernel_rfl
theorem Qz6:Qac Tryz.prog 52=true:=by kernel_rfl
theorem Quh:Qac Tryz.prog 125=true:=by kernel_rfl
theorem Qgb:Qe5 Tryz.prog 133=some (142,4,32):=by kernel_rfl
theorem Qqp:Qdk Tryz.prog 133=some [vi 0,vi 0,vi 0,vi 0]:=by kernel_rfl
theorem Qwt:QjV Tryz.prog 142 4=true:=by kernel_rfl
theorem Qug:Qac Tryz.prog 127=true:=by kernel_rfl
theorem Qs1:Qac Tryz.prog 167=true:=by kernel_rfl
theorem QxV:Qac Tryz.prog 131=true:=by kernel_rfl
theorem Qjy:Qbw Tryz.prog 142 0=some 0:=by kernel_rfl
theorem QzC:Qok Tryz.prog 140=some ([(0,1),(1,1),(2,1),(3,1)],[vi 0,.string (bs (Str.mk [])),.slice none 0 0,.slice none 0 0]):=by kernel_rfl
theorem QlA:Qbw Tryz.prog 142 1=some 1:=by kernel_rfl
theorem Qo9:Qbw Tryz.prog 142 2=some 2:=by kernel_rfl
theorem Qpo:Qbw Tryz.prog 142 3=some 3:=by kernel_rfl
theorem Qz0:Qac Tryz.prog 90=true:=by kernel_rfl
theorem Qw8:Qac Tryz.prog 128=true:=by kernel_rfl
theorem Qyz:Qok Tryz.prog 174=some ([(0,1),(1,1)],[vi 0,vi 0]):=by kernel_rfl
theorem Qkq:Qe5 Tryz.prog 130=some (174,2,16):=by kernel_rfl
theorem Qv9:Qdk Tryz.prog 130=some [vi 0,vi 0]:=by kernel_rfl
theorem QwV:Qac Tryz.prog 164=true:=by kernel_rfl
theorem Qzg:Qac Tryz.prog 165=true:=by kernel_rfl
theorem QtF:QdX Tryz.prog 27=some (.agg #[vi 0,.slice none 0 0,.slice none 0 0,.slice none 0 0]):=by kernel_rfl
theorem QAL:Qac Tryz.prog 27=true:=by kernel_rfl
theorem QyA:Qok Tryz.prog 27=some ([(0,1),(1,1),(2,1),(3,1)],[vi 0,.slice none 0 0,.slice none 0 0,.slice none 0 0]):=by kernel_rfl
theorem Qzk:Qac Tryz.prog 28=true:=by kernel_rfl
theorem QBa:Qac Tryz.prog 13=true:=by kernel_rfl
theorem Qra:Qdk Tryz.prog 23=some [.slice none 0 0]:=by kernel_rfl
theorem QzU:Qac Tryz.prog 30=true:=by kernel_rfl
theorem Qsf:Qdk Tryz.prog 24=some [vi 0,.slice none 0 0,vi 0,.slice none 0 0,.slice none 0 0]:=by kernel_rfl
theorem Qux:QdX Tryz.prog 135=some (.agg #[.slice none 0 0,.slice none 0 0,.slice none 0 0]):=by kernel_rfl
theorem QyM:Qok Tryz.prog 135=some ([(0,1),(1,1),(2,1)],[.slice none 0 0,.slice none 0 0,.slice none 0 0]):=by kernel_rfl
theorem Qr4:Qau Tryz.prog 135=some (true,3):=by kernel_rfl
theorem Qzb:Qac Tryz.prog 130=true:=by kernel_rfl
theorem Qsc:Qbw Tryz.prog 135 1=some 1:=by kernel_rfl
theorem Qph:Qbw Tryz.prog 135 2=some 2:=by kernel_rfl
theorem Qp0:Qac Tryz.prog 29=true:=by kernel_rfl
theorem Qob:Qdk Tryz.prog 25=some [vi 0,.slice none 0 0]:=by kernel_rfl
theorem Qtc:Qac Tryz.prog 21=true:=by kernel_rfl
theorem Qwi:Qac Tryz.prog 106=true:=by kernel_rfl
theorem QqG:Qac Tryz.prog 41=true:=by kernel_rfl
theorem Qpl:Qbw Tryz.prog 210 0=some 0:=by kernel_rfl
theorem Qxm:QdX Tryz.prog 210=some (.agg #[vi 0,.slice none 0 0,.slice none 0 0]):=by kernel_rfl
theorem Qx8:Qok Tryz.prog 210=some ([(0,2),(2,1)],[vi 0,.slice none 0 0,.slice none 0 0]):=by kernel_rfl
theorem Qtv:Qau Tryz.prog 210=some (true,3):=by kernel_rfl
theorem QoZ:Qbw Tryz.prog 210 1=some 2:=by kernel_rfl
theorem Qxl:Qac Tryz.prog 153=true:=by kernel_rfl
theorem QxU:Qac Tryz.prog 169=true:=by kernel_rfl
theorem QxX:Qac Tryz.prog 168=true:=by kernel_rfl
theorem Qu6:Qbw Tryz.prog 174 1=some 1:=by kernel_rfl
theorem QzG:Qac Tryz.prog 132=true:=by kernel_rfl
theorem Qxk:Qac Tryz.prog 133=true:=by kernel_rfl
theorem QyX:Qac Tryz.prog 134=true:=by kernel_rfl
theorem Qu7:Qbw Tryz.prog 174 0=some 0:=by kernel_rfl
theorem QAV:Qac Tryz.prog 88=true:=by kernel_rfl
theorem QBI:Qac Tryz.prog 89=true:=by kernel_rfl
theorem Qpg:Qbw Tryz.prog 135 0=some 0:=by kernel_rfl
theorem QuR:Qau Tryz.prog 133=some (false,1):=by kernel_rfl
theorem QAa:Qac Tryz.prog 92=true:=by kernel_rfl
theorem QAM:Qac Tryz.prog 50=true:=by kernel_rfl
theorem QCp:Qac Tryz.prog 51=true:=by kernel_rfl
theorem QB8:Qac Tryz.prog 14=true:=by kernel_rfl
theorem QzQ:Qac Tryz.prog 65=true:=by kernel_rfl
theorem QzR:Qac Tryz.prog 66=true:=by kernel_rfl
theorem QAs:Qac Tryz.prog 32=true:=by kernel_rfl
theorem QBr:Qac Tryz.prog 33=true:=by kernel_rfl
theorem QAf:Qac Tryz.prog 34=true:=by kernel_rfl
theorem QAJ:Qac Tryz.prog 35=true:=by kernel_rfl
theorem Qyl:Qac Tryz.prog 171=true:=by kernel_rfl
theorem Qy7:Qac Tryz.prog 140=true:=by kernel_rfl
theorem QyY:Qac Tryz.prog 139=true:=by kernel_rfl
theorem Qy3:Qac Tryz.prog 138=true:=by kernel_rfl
theorem QBg:Qac Tryz.prog 99=true:=by kernel_rfl
theorem QyI:Qac Tryz.prog 100=true:=by kernel_rfl
theorem QBK:Tryz.prog.underlying 40=some (.slice 91):=by kernel_rfl
theorem QyD:Qac Tryz.prog 151=true:=by kernel_rfl
theorem QwM:Qac Tryz.prog 150=true:=by kernel_rfl
theorem Qx7:Qac Tryz.prog 173=true:=by kernel_rfl
theorem Qv0:Qac Tryz.prog 142=true:=by kernel_rfl
theorem QyU:Qac Tryz.prog 185=true:=by kernel_rfl
theorem Qyo:Qac Tryz.prog 184=true:=by kernel_rfl
theorem Qyv:Qac Tryz.prog 111=true:=by kernel_rfl
theorem Qw9:Qac Tryz.prog 144=true:=by kernel_rfl
theorem Qzq:Qac Tryz.prog 181=true:=by kernel_rfl
theorem Qza:Qac Tryz.prog 172=true:=by kernel_rfl
theorem Qzc:Qac Tryz.prog 141=true:=by kernel_rfl
theorem Qyj:Qac Tryz.prog 143=true:=by kernel_rfl
theorem Qy6:Qac Tryz.prog 101=true:=by kernel_rfl
theorem QCc:Qac Tryz.prog 59=true:=by kernel_rfl
theorem QA0:Qac Tryz.prog 58=true:=by kernel_rfl
theorem QAS:Qac Tryz.prog 57=true:=by kernel_rfl
theorem QBe:Qac Tryz.prog 24=true:=by kernel_rfl
theorem QBv:Qac Tryz.prog 70=true:=by kernel_rfl
theorem QBE:Qac Tryz.prog 71=true:=by kernel_rfl
theorem QBs:Qac Tryz.prog 40=true:=by kernel_rfl
theorem Qzp:Qac Tryz.prog 118=true:=by kernel_rfl
theorem QAW:Qac Tryz.prog 12=true:=by kernel_rfl
theorem QAD:Qac Tryz.prog 69=true:=by kernel_rfl
theorem QCg:Qac Tryz.prog 37=true:=by kernel_rfl
theorem QB7:Qac Tryz.prog 38=true:=by kernel_rfl
theorem QAu:Qac Tryz.prog 39=true:=by kernel_rfl
theorem QBd:Qac Tryz.prog 11=true:=by kernel_rfl
theorem Qp4:Qbw Tryz.prog 60 1=some 1:=by kernel_rfl
theorem QtB:Qbw Tryz.prog 60 0=some 0:=by kernel_rfl
theorem QBM:Qac Tryz.prog 31=true:=by kernel_rfl
theorem QCd:Tryz.prog.underlying 91=some (.int .u64):=by kernel_rfl
theorem Qzz:Qac Tryz.prog 49=true:=by kernel_rfl
theorem QBC:Qac Tryz.prog 55=true:=by kernel_rfl
theorem QAR:Qok Tryz.prog 60=some ([(0,1),(1,1)],[.slice none 0 0,vi 0]):=by kernel_rfl
theorem ca7:Qac Tryz.prog 7=true:=by kernel_rfl
theorem ca8:Qac Tryz.prog 8=true:=by kernel_rfl
theorem QxK:Qac Tryz.prog 22=true:=by kernel_rfl
theorem QAX:Qac Tryz.prog 23=true:=by kernel_rfl
theorem QCm:Qac Tryz.prog 19=true:=by kernel_rfl
theorem QAZ:Qac Tryz.prog 20=true:=by kernel_rfl
theorem QB5 (s:Qab) (sa1:Option Addr) (sk1:Nat) (sa2:Option Addr) (sk2:Nat) (sa3:Option Addr) (sk3:Nat) (QcL:Qaa s.Width) (rr:Bool) (hrr:Qiq s=rr):FT Tryz.prog 19 #[.agg #[vi s.Width,vl sa1 sk1 s.Deps,vl sa2 sk2 s.Transfers,vl sa3 sk3 s.Boundary]] [S sa1 sk1 s.Deps,S sa2 sk2 s.Transfers,S sa3 sk3 s.Boundary] (fun g:Unit=>True) (fun g=>vb rr) (fun g=>[]):=by
 refine FTi Tryz.func19 fun w0 M0 F0=>?_
 unfold Qaa at QcL
 refine Fb 24 0 fun _=>Fb 88 1 fun _=>Fb 32 2 fun _=>KS ?_
 refine Oa (Ab [vi s.Width,vl sa1 sk1 s.Deps,vl sa2 sk2 s.Transfers,vl sa3 sk3 s.Boundary]) fun p4=>Oq Va (KS ?_)
 refine Oq (Vfa Qbt 0) (Oq (Qai QfL 0) (Oq (Qbc QeN) (Oq QgZ (Oq Vm ?_))))
 refine Js 9 ?_ ?_
 ·intro h5
  have g6:=dt h5
  refine Osk (Osk (Osk (Osk (Oq Vpt (Oq Vm (Osk (Osk (Osk (Osk ?_)))))))))
  refine Oq Vpt (Oq Vm (Osk (Osk (Osk (Oq Vpt (KS ?_))))))
  refine Kt (KS ?_)
  refine Oq Va (KS ?_)
  have hq:=q4 hrr true (by simp only [Qiq,h5,cs4]); subst hq
  exact Kr () rfl (.tmp rfl .nil) [] trivial
 intro h5
 have g7:=df h5
 refine Oq (Vfa Qco 0) (Oq (Qai QiS 0) (Oq (Qbc Qhi) (Oq QgZ (Oq Vpf (Oq Vm ?_)))))
 refine Js 15 ?_ ?_
 ·intro h8
  have g9:=dt h8
  refine Osk (Osk (Osk (Osk (Oq Vpt (Oq Vm (Osk (Osk (Osk (Oq Vpt ?_)))))))))
  refine KS ?_
  refine Kt (KS ?_)
  refine Oq Va (KS ?_)
  have hq:=q4 hrr true (by simp only [Qiq,h5,h8,cs4]); subst hq
  exact Kr () rfl (.tmp rfl .nil) [] trivial
 intro h8
 have g10:=df h8
 refine Oq (Vfa Qc8 0) (Oq (Qai Qjc 0) (Oq (Qbc Qd2) (Oq QgZ (Oq Vpf (Oq Vm ?_)))))
 refine Js 21 ?_ ?_
 ·intro h11
  have g12:=dt h11
  refine Osk (Osk (Osk (Oq Vpt (KS ?_))))
  refine Kt (KS ?_)
  refine Oq Va (KS ?_)
  have hq:=q4 hrr true (by simp only [Qiq,h5,h8,h11,cs4]); subst hq
  exact Kr () rfl (.tmp rfl .nil) [] trivial
 intro h11
 have g13:=df h11
 refine Oq (Vfa Qb7 0) (Oq (Qai sh3 0) (Oq QgZ (Oq Vpf (KS ?_))))
 refine Kc ?_ ?_
 ·intro h14
  have g15:=dt h14
  refine KS ?_
  refine Oq Va (KS ?_)
  have hq:=q4 hrr true (by simp only [Qiq,h5,h8,h11,h14,cs4]); subst hq
  exact Kr () rfl (.tmp rfl .nil) [] trivial
 intro h14
 have g16:=df h14
 refine KS ?_
 refine Oq Va (KS ?_)
 refine Kl (γ:=Nat×Int) (fun (r17,Qi2)=>⟨[(1,p4),(3,vi Qi2)],[pv p4 [vi s.Width,vl sa1 sk1 s.Deps,vl sa2 sk2 s.Transfers,vl sa3 sk3 s.Boundary],S sa1 sk1 s.Deps,S sa2 sk2 s.Transfers,S sa3 sk3 s.Boundary],QgC s r17 Qi2=QgC s (((s.Deps.length:Int) - 0).toNat) 0/\r17=((s.Deps.length:Int) - Qi2).toNat/\(0:Int)<=Qi2/\Qi2<=(s.Deps.length:Int)/\(-9223372036854775808<=Qi2/\Qi2<=9223372036854775807),r17⟩) (((s.Deps.length:Int) - 0).toNat,0) [0,1,2,3] ⟨rfl,rfl,aM1,aM1,aM1⟩ ?_
 rintro ⟨r17,Qi2⟩ ⟨hM19,hr20,hi21,hi22,hk23⟩
 refine QaE fun _ _ hL hA=>?_; dsimp only at hL hA; subst hL hA
 refine Fb 24 1 fun _=>Fb 88 2 fun _=>Fb 32 3 fun _=>KS ?_
 refine Oq Vm (Oq (Vfa Qbt 0) (Oq (Qai QfL 0) (Oq (Qbc QeN) (Oq Qbo (KS ?_)))))
 refine Kc ?_ ?_
 ·intro h27
  have g28:=dt h27
  obtain ⟨r29,rfl⟩:=scc (n:=r17) aM1
  refine KS ?_
  refine Oq (Vfa Qbt 0) (Oq (Qai QfL 0) (Oq Vm (Oq (Vi QeN 1) ?_)))
  refine Qef Qi2.toNat 1 rfl rng fun a30 k31=>?_
  refine Fb 8 1 fun _=>Fo 1 fun ho33=>?_
  refine Oq (Vld Qjs 0) (Oq (Qbc QcP) (Oq QgZ (KS ?_)))
  refine Kc ?_ ?_
  ·intro h34
   have g35:=dt h34
   refine KS ?_
   refine Oq Va (KS ?_)
   have hR36:=q2 hM19 (.ret true) (by simp only [QgC,h27,h34,cs4])
   have hq:=q4 hrr true (by simp only [Qiq,h5,h8,h11,h14,h27,h34,hR36,cs4]); subst hq
   exact Kr () rfl (.tmp rfl .nil) [] trivial
  intro h34
  have g37:=df h34
  refine KS ?_
  refine Oq Vm (Oq QaS (Oq Va (KS ?_)))
  exact Kg (r29,(Qi2+1)) [2,3,4,5] ⟨(q3 hM19 (by simp only [QgC,h27,h34,cs4])),aM1,aM1,aM1,aM1⟩
 intro h27
 have g38:=df h27
 obtain rfl:r17=0:=by omega
 refine Ke ?_
 have hR39:=q2 hM19 (.brk ()) (by simp only [QgC,h27,cs4])
 refine KS ?_
 refine Oq Va (KS ?_)
 refine Kl (γ:=Nat×Int) (fun (r40,QmA)=>⟨[(1,p4),(4,vi QmA)],[pv p4 [vi s.Width,vl sa1 sk1 s.Deps,vl sa2 sk2 s.Transfers,vl sa3 sk3 s.Boundary],S sa1 sk1 s.Deps,S sa2 sk2 s.Transfers,S sa3 sk3 s.Boundary],Qgz s r40 QmA=Qgz s (((s.Transfers.length:Int) - 0).toNat) 0/\r40=((s.Transfers.length:Int) - QmA).toNat/\(0:Int)<=QmA/\QmA<=(s.Transfers.length:Int)/\(-9223372036854775808<=QmA/\QmA<=9223372036854775807),r40⟩) (((s.Transfers.length:Int) - 0).toNat,0) [0,1,2,3] ⟨rfl,rfl,aM1,aM1,aM1⟩ ?_
 rintro ⟨r40,QmA⟩ ⟨hM42,hr43,hi44,hi45,hk46⟩
 refine QaE fun _ _ hL hA=>?_; dsimp only at hL hA; subst hL hA
 refine Fb 24 1 fun _=>Fb 88 2 fun _=>Fb 32 3 fun _=>KS ?_
 refine Oq Vm (Oq (Vfa Qco 0) (Oq (Qai QiS 0) (Oq (Qbc Qhi) (Oq Qbo (KS ?_)))))
 refine Kc ?_ ?_
 ·intro h50
  have g51:=dt h50
  obtain ⟨r52,rfl⟩:=scc (n:=r40) aM1
  refine KS ?_
  refine Oq (Vfa Qco 0) (Oq (Qai QiS 0) (Oq Vm (Oq (Vi Qhi 2) ?_)))
  refine Qa0 QmA.toNat 2 rfl rng fun a53 k54 a55 k56 a57 k58 hb59 hb60=>?_
  unfold Qaa at hb59 hb60
  refine Fb 8 1 fun _=>Fb 8 2 fun _=>Fb 16 3 fun _=>?_
  refine Oq (Vfa Qcw 0) (Oq (Qai Qi5 0) (Oq (Qbc Qhq) (Oq QgZ (KS ?_))))
  refine Kc ?_ ?_
  ·intro h64
   have g65:=dt h64
   refine KS ?_
   refine Oq Va (KS ?_)
   have hR66:=q2 hM42 (.ret true) (by simp only [Qgz,h50,h64,cs4])
   have hq:=q4 hrr true (by simp only [Qiq,h5,h8,h11,h14,h27,h50,h64,hR39,hR66,cs4]); subst hq
   exact Kr () rfl (.tmp rfl .nil) [] trivial
  intro h64
  have g67:=df h64
  refine KS ?_
  refine Oq Vm (Oq QaS (Oq Va (KS ?_)))
  exact Kg (r52,(QmA+1)) [4,5,6,7] ⟨(q3 hM42 (by simp only [Qgz,h50,h64,cs4])),aM1,aM1,aM1,aM1⟩
 intro h50
 have g68:=df h50
 obtain rfl:r40=0:=by omega
 refine Ke ?_
 have hR69:=q2 hM42 (.brk ()) (by simp only [Qgz,h50,cs4])
 refine KS ?_
 refine Oq Va (KS ?_)
 have hq:=q4 hrr false (by simp only [Qiq,h5,h8,h11,h14,h27,h50,hR39,hR69,cs4]); subst hq
 exact Kr () rfl (.tmp rfl .nil) [] trivial
theorem QAv (width:Int) (n:Int) (QbJ:Qaa width) (Qf1:Qaa n) (rr:Bool) (hrr:Qg1 width n=rr):FT Tryz.prog 93 #[vi width,vi n] [] (fun g:Unit=>True) (fun g=>vb rr) (fun g=>[]):=by
 refine FTi Tryz.func93 fun w0 M0 F0=>?_
 unfold Qaa at QbJ Qf1
 refine KS ?_
 refine Oq Va (KS ?_)
 refine Oq Vm (Oq Qhv (Oq Vm ?_))
 refine Js 7 ?_ ?_
 ·intro h1
  have g2:=dt h1
  refine Oq Vm (Oq Qss (Oq Vpt (Oq Vm ?_)))
  refine Js 11 ?_ ?_
  ·intro h3
   have g4:=dt h3
   refine Oq Vm (Oq Qhv (Oq Vpt (Oq Vm ?_)))
   refine Js 15 ?_ ?_
   ·intro h5
    have g6:=dt h5
    refine Oq Vm (Oq Qss (Oq Vpt (Oq Va (KS ?_))))
    have hq:=q4 hrr (decide (n<=256)) (by simp only [Qg1,h1,h3,h5,cs4]); subst hq
    exact Kr () rfl (.tmp rfl .nil) [] trivial
   intro h5
   have g7:=df h5
   refine Osk (Osk (Oq Vpf (Oq Va (KS ?_))))
   have hq:=q4 hrr false (by simp only [Qg1,h1,h3,h5,cs4]); subst hq
   exact Kr () rfl (.tmp rfl .nil) [] trivial
  intro h3
  have g8:=df h3
  refine Osk (Osk (Oq Vpf (Oq Vm (Osk (Osk (Oq Vpf (Oq Va (KS ?_))))))))
  have hq:=q4 hrr false (by simp only [Qg1,h1,h3,cs4]); subst hq
  exact Kr () rfl (.tmp rfl .nil) [] trivial
 intro h1
 have g9:=df h1
 refine Osk (Osk (Oq Vpf (Oq Vm (Osk (Osk (Oq Vpf (Oq Vm (Osk (Osk ?_)))))))))
 refine Oq Vpf (Oq Va (KS ?_))
 have hq:=q4 hrr false (by simp only [Qg1,h1,cs4]); subst hq
 exact Kr () rfl (.tmp rfl .nil) [] trivial
theorem QBY (l:List Int) (la0:Option Addr) (lk0:Nat) (n:Int) (Qf1:Qaa n) (rr:Bool) (hrr:Qdg l n=rr):FT Tryz.prog 94 #[vl la0 lk0 l,vi n] [S la0 lk0 l] (fun g:Unit=>True) (fun g=>vb rr) (fun g=>[]):=by
 refine FTi Tryz.func94 fun w0 M0 F0=>?_
 unfold Qaa at Qf1
 refine Fb 8 0 fun _=>Fo 0 fun ho2=>KS ?_
 refine Oq Va (KS ?_)
 refine Oq Vm (Oq (Qbc QcP) (Oq Vm (KS ?_)))
 refine Kl (γ:=Nat×Int) (fun (r3,QqJ)=>⟨[(0,vl la0 lk0 l),(1,vi n),(7,vl la0 lk0 l),(8,vi (l.length:Int)),(9,vi QqJ)],[S la0 lk0 l],Qa9 l n r3 QqJ=Qa9 l n (((l.length:Int) - 0).toNat) 0/\r3=((l.length:Int) - QqJ).toNat/\(0:Int)<=QqJ/\QqJ<=(l.length:Int)/\(-9223372036854775808<=QqJ/\QqJ<=9223372036854775807),r3⟩) (((l.length:Int) - 0).toNat,0) [0] ⟨rfl,rfl,aM1,aM1,aM1⟩ ?_
 rintro ⟨r3,QqJ⟩ ⟨hM5,hr6,hi7,hi8,hk9⟩
 refine QaE fun _ _ hL hA=>?_; dsimp only at hL hA; subst hL hA
 refine Fb 8 0 fun _=>Fo 0 fun ho11=>KS ?_
 refine Oq Qbo (KS ?_)
 refine Kc ?_ ?_
 ·intro h12
  have g13:=dt h12
  obtain ⟨r14,rfl⟩:=scc (n:=r3) aM1
  refine KS ?_
  refine Oq Vm (Oq (Vi QcP 0) ?_)
  have hb15:=ok1 (i:=QqJ.toNat) ho11 rng
  refine Oq (QjF sh3 0) (Oq Va (Oq Va (KS ?_)))
  refine Oq Vm (Oq Qbo (Oq Vm ?_))
  refine Js 16 ?_ ?_
  ·intro h16
   have g17:=dt h16
   refine Osk (Osk (Osk (Oq Vpt (Oq Vm (Osk (Osk (Osk (Osk (Osk ?_)))))))))
   refine Osk (Osk (Osk (Osk (Osk (Osk (Oq Vpt (KS ?_)))))))
   refine Kt (KS ?_)
   refine Oq Va (KS ?_)
   have hR18:=q2 hM5 (.ret false) (by simp only [Qa9,h12,h16,cs4])
   have hq:=q4 hrr false (by simp only [Qdg,h12,h16,hR18,cs4]); subst hq
   exact Kr () rfl (.tmp rfl .nil) [] trivial
  intro h16
  have g19:=df h16
  refine Oq Vm (Oq Vm (Oq Qhv (Oq Vpf (Oq Vm ?_))))
  refine Js 21 ?_ ?_
  ·intro h20
   have g21:=dt h20
   refine Osk (Osk (Osk (Osk (Osk (Osk (Osk (Osk (Osk (Osk ?_)))))))))
   refine Osk (Oq Vpt (KS ?_))
   refine Kt (KS ?_)
   refine Oq Va (KS ?_)
   have hR22:=q2 hM5 (.ret false) (by simp only [Qa9,h12,h16,h20,cs4])
   have hq:=q4 hrr false (by simp only [Qdg,h12,h16,h20,hR22,cs4]); subst hq
   exact Kr () rfl (.tmp rfl .nil) [] trivial
  intro h20
  have g23:=df h20
  refine Oq Vm (Oq QgZ (Oq Vm ?_))
  refine Js 24 ?_ ?_
  ·intro h24
   have g25:=dt h24
   refine Oq Vm (Oq Vm (Oq Vm (Oq Qjf (Oq (Vi QcP 0) ?_))))
   have hb26:=ok1 (i:=((QqJ - 1):Int).toNat) ho11 rng
   refine Oq (QjF sh3 0) (Oq Qss (Oq Vpt (Oq Vpf (KS ?_))))
   refine Kc ?_ ?_
   ·intro h27
    have g28:=dt h27
    refine KS ?_
    refine Oq Va (KS ?_)
    have hR29:=q2 hM5 (.ret false) (by simp only [Qa9,h12,h16,h20,h24,h27,cs4])
    have hq:=q4 hrr false (by simp only [Qdg,h12,h16,h20,h24,h27,hR29,cs4]); subst hq
    exact Kr () rfl (.tmp rfl .nil) [] trivial
   intro h27
   have g30:=df h27
   refine KS ?_
   refine Oq QaS (Oq Vm (KS ?_))
   exact Kg (r14,(QqJ+1)) [0] ⟨(q3 hM5 (by simp only [Qa9,h12,h16,h20,h24,h27,cs4])),aM1,aM1,aM1,aM1⟩
  intro h24
  have g31:=df h24
  refine Osk (Osk (Osk (Osk (Osk (Osk (Osk (Oq Vpf (Oq Vpf (KS ?_)))))))))
  refine Kf (KS ?_)
  refine Oq QaS (Oq Vm (KS ?_))
  exact Kg (r14,(QqJ+1)) [0] ⟨(q3 hM5 (by simp only [Qa9,h12,h16,h20,h24,cs4])),aM1,aM1,aM1,aM1⟩
 intro h12
 have g32:=df h12
 obtain rfl:r3=0:=by omega
 refine Ke ?_
 have hR33:=q2 hM5 (.brk ()) (by simp only [Qa9,h12,cs4])
 refine KS ?_
 refine Oq Va (KS ?_)
 have hq:=q4 hrr true (by simp only [Qdg,h12,hR33,cs4]); subst hq
 exact Kr () rfl (.tmp rfl .nil) [] trivial
theorem Qym (s:List Qaf) (sa0:Option Addr) (sk0:Nat) (fF:FuncId) (fC:List Value) (fp:Qaf->Bool) (fA:List SP) (hfc:Qac Tryz.prog fF=true) (hfF:∀ x∈s,∀ (a1:Option Addr) (k1:Nat),Qaa x.Width->FT Tryz.prog fF ([(.agg #[vi x.Width,vl a1 k1 x.Words]:Value)]++fC).toArray ([S a1 k1 x.Words]++[Qgg fA]) (fun _:Unit=>True) (fun _=>.bool (fp x)) (fun _=>[])) (rr:Int) (hrr:Qc0 s fp=rr):FT Tryz.prog 170 #[vl sa0 sk0 s,.func (.func fF) #[] fC.toArray] [S sa0 sk0 s,Qgg fA] (fun g:Unit=>Qaa rr) (fun g=>vi rr) (fun g=>[]):=by
 refine FTi Tryz.func170 fun w0 M0 F0=>Fb 32 0 fun _=>?_
 refine KS ?_
 refine Oq Va (KS ?_)
 refine Oq Vm (Oq (Qbc Qd2) (Oq Vm (KS ?_)))
 refine Kl (γ:=Nat×Int) (fun (r2,Qel)=>⟨[(0,vl sa0 sk0 s),(1,.func (.func fF) #[] fC.toArray),(7,vi (s.length:Int)),(8,vi Qel)],[S sa0 sk0 s,Qgg fA],Qbq s fp r2 Qel=Qbq s fp (((s.length:Int) - 0).toNat) 0/\r2=((s.length:Int) - Qel).toNat/\(0:Int)<=Qel/\Qel<=(s.length:Int)/\(-9223372036854775808<=Qel/\Qel<=9223372036854775807),r2⟩) (((s.length:Int) - 0).toNat,0) [0,1] ⟨rfl,rfl,aM1,aM1,aM1⟩ ?_
 rintro ⟨r2,Qel⟩ ⟨hM4,hr5,hi6,hi7,hk8⟩
 refine QaE fun _ _ hL hA=>?_; dsimp only at hL hA; subst hL hA
 refine Fb 32 0 fun _=>KS ?_
 refine Oq Qbo (KS ?_)
 refine Kc ?_ ?_
 ·intro h10
  have g11:=dt h10
  obtain ⟨r12,rfl⟩:=scc (n:=r2) aM1
  refine KS ?_
  refine Oq Vm (Oq Va (KS ?_))
  refine Oq Vm (Oq Vm (Oq Vm (Oq (Vi Qd2 0) ?_)))
  refine Qbf Qel.toNat 0 rfl rng fun a13 k14 hb15=>?_
  unfold Qaa at hb15
  refine Fb 8 1 fun _=>Oq (Qar Qaw 0) ?_
  refine Qg7 [1,3] rfl rfl rfl (OpC.clo (asv:=[(.agg #[vi ((s.getD Qel.toNat default).Width),vl a13 k14 ((s.getD Qel.toNat default).Words)]:Value)]++fC) rfl rfl hfc rfl (by simp)) (hfF (s.getD Qel.toNat default) (QaA rng) a13 k14 pre) rfl fun _ _=>?_
  refine KS ?_
  refine Kc ?_ ?_
  ·intro h17
   refine KS ?_
   refine Oq Vm (Oq Va (KS ?_))
   have hR19:=q2 hM4 (.ret Qel) (by simp only [Qbq,h10,h17,cs4])
   have hq:=q4 hrr Qel (by simp only [Qc0,h10,h17,hR19,cs4]); subst hq
   exact Kr () rfl (.tmp rfl .nil) [] en
  intro h17
  refine KS ?_
  refine Oq QaS (Oq Vm (KS ?_))
  exact Kg (r12,(Qel+1)) [2,3] ⟨(q3 hM4 (by simp only [Qbq,h10,h17,cs4])),aM1,aM1,aM1,aM1⟩
 intro h10
 have g21:=df h10
 obtain rfl:r2=0:=by omega
 refine Ke ?_
 have hR22:=q2 hM4 (.brk ()) (by simp only [Qbq,h10,cs4])
 refine KS ?_
 refine Oq Va (KS ?_)
 have hq:=q4 hrr (-1) (by simp only [Qc0,h10,hR22,cs4]); subst hq
 exact Kr () rfl (.tmp rfl .nil) [] en
theorem Qxd (s:List Qaf) (sa0:Option Addr) (sk0:Nat) (fF:FuncId) (fC:List Value) (fp:Qaf->Bool) (fA:List SP) (hfc:Qac Tryz.prog fF=true) (hfF:∀ x∈s,∀ (a1:Option Addr) (k1:Nat),Qaa x.Width->FT Tryz.prog fF ([(.agg #[vi x.Width,vl a1 k1 x.Words]:Value)]++fC).toArray ([S a1 k1 x.Words]++[Qgg fA]) (fun _:Unit=>True) (fun _=>.bool (fp x)) (fun _=>[])) (rr:Bool) (hrr:QaN s fp=rr):FT Tryz.prog 135 #[vl sa0 sk0 s,.func (.func fF) #[] fC.toArray] [S sa0 sk0 s,Qgg fA] (fun g:Unit=>True) (fun g=>vb rr) (fun g=>[]):=by
 refine FTi Tryz.func135 fun w0 M0 F0=>Fb 32 0 fun _=>?_
 refine KS ?_
 refine Oq Va (KS ?_)
 refine Oq Vm (Oq Vm ?_)
 refine QaO (Qc0 s fp) fun rv2 hg3=>?_
 have hc4:=Qym s sa0 sk0 fF fC fp fA hfc hfF rv2 hg3
 refine Oc [0,1] Qzx hc4 ?_
 rintro - he5
 unfold Qaa at he5
 refine Oq Qhv (Oq Va (KS ?_))
 have hq:=q4 hrr (decide (0<=rv2)) (by simp only [QaN,hg3,cs4]); subst hq
 exact Kr () rfl (.tmp rfl .nil) [] trivial
theorem QvW (width:Int) (QbJ:Qaa width) (rr:Bool) (hrr:QdL width=rr):FT Tryz.prog 113 #[vi width] [] (fun g:Unit=>True) (fun g=>vb rr) (fun g=>[]):=by
 refine FTi Tryz.func113 fun w0 M0 F0=>?_
 unfold Qaa at QbJ
 refine KS ?_
 refine Oq Va (KS ?_)
 refine Oq Vm (Oq Qhv (Oq Vm ?_))
 refine Js 5 ?_ ?_
 ·intro h1
  have g2:=dt h1
  refine Oq Vm (Oq Qss (Oq Vpt (Oq Va (KS ?_))))
  have hq:=q4 hrr (decide (width<=256)) (by simp only [QdL,h1,cs4]); subst hq
  exact Kr () rfl (.tmp rfl .nil) [] trivial
 intro h1
 have g3:=df h1
 refine Osk (Osk (Oq Vpf (Oq Va (KS ?_))))
 have hq:=q4 hrr false (by simp only [QdL,h1,cs4]); subst hq
 exact Kr () rfl (.tmp rfl .nil) [] trivial
theorem QwF (width:Int) (QbJ:Qaa width) (hw0:0<=width/\width<=1000000) (rr:Int) (hrr:QfW width=rr):FT Tryz.prog 114 #[vi width] [] (fun g:Unit=>Qaa rr/\(rr=(width+63) / 64)) (fun g=>vi rr) (fun g=>[]):=by
 refine FTi Tryz.func114 fun w0 M0 F0=>?_
 unfold Qaa at QbJ
 refine KS ?_
 refine Oq Va (KS ?_)
 refine Oq Vm (Oq QaS (Oq Qjf (Oq Qq9 (Oq Va (KS ?_)))))
 have hq:=q4 hrr (((width+64) - 1) / 64) (by simp only [QfW,cs4]); subst hq
 exact Kr () rfl (.tmp rfl .nil) [] en
theorem QyJ (width:Int) (QbJ:Qaa width) (rr:BitVec 64) (hrr:QiM width=rr):FT Tryz.prog 115 #[vi width] [] (fun g:Unit=>True) (fun g=>u64 rr) (fun g=>[]):=by
 refine FTi Tryz.func115 fun w0 M0 F0=>?_
 unfold Qaa at QbJ
 refine KS ?_
 refine Oq Va (KS ?_)
 refine Oq Vm (Oq (VcU un3 Qrp) (Oq (QrH (b:=64#64) (by simp)) (Oq (QqZ (a:=18446744073709551615#64)) (Oq Va (KS ?_)))))
 have hq:=q4 hrr (18446744073709551615#64 <<< ((((BitVec.ofInt 64 width) % 64#64).toNat:Int)).toNat) (by simp only [QiM,cs4]); subst hq
 exact Kr () rfl (.tmp rfl .nil) [] trivial
theorem QrW (s:Qaf) (sa1:Option Addr) (sk1:Nat) (QcL:Qaa s.Width) (rr:Bool) (hrr:QaX s=rr):FT Tryz.prog 79 #[.agg #[vi s.Width,vl sa1 sk1 s.Words]] [S sa1 sk1 s.Words] (fun g:Unit=>True) (fun g=>vb rr) (fun g=>[]):=by
 refine FTi Tryz.func79 fun w0 M0 F0=>?_
 unfold Qaa at QcL
 refine Fb 8 0 fun _=>KS ?_
 refine Oa (Ab [vi s.Width,vl sa1 sk1 s.Words]) fun p2=>Oq Va (KS ?_)
 refine Qam [0,1,3,7,15,31,63,127,31,287,799,2047,4095] QcF ?_
 refine Dv [0] (Vfa Qbj 0) (Dv [0] (Qai sh3 0) ?_)
 refine QaO (QdL s.Width) fun rv3 hg4=>?_
 refine Dx [] [] [0] (fun G=>vb rv3) [fun G=>SP.fact (True)] (fun G=>xC [] QwA (QvW s.Width pre rv3 hg4)) (Dv [] QcN ?_)
 refine Qa5 (!rv3) ?_ ?_
 ·intro h5
  have h7:=not_true h5
  refine Db h5 [] Vm (Ds (Ds (Ds (Ds (Ds (Ds (Ds (Dv [] Vpt ?_))))))))
  refine Dn ⟨by kernel_rfl,fun G=>?_⟩
  refine Jw2 [(1,p2),(15,vb true)] [0,1] [SP.fact (True)] ?_
  refine Jk [0,1] (Kt ?_)
  refine KS ?_
  refine Oq Va (KS ?_)
  have hq:=q4 hrr false (by simp only [QaX,h5,h7,hg4,cs4]); subst hq
  exact Kr () rfl (.tmp rfl .nil) [] trivial
 intro h5
 have h10:=not_false h5
 try have hrg:=Qm0 (w:=s.Width) (by simp only [h5,h10,hg4])
 refine Db h5 [] Vm (Dv [0] (Vfa Qcv 0) (Dv [0] (Qai Qi4 0) (Dv [] (Qbc QgP) (Dv [0] (Vfa Qbj 0) (Dv [0] (Qai sh3 0) ?_)))))
 refine QaO (QfW s.Width) fun rv12 hg13=>?_
 refine Dx [] [] [0] (fun G=>vi rv12) [fun G=>SP.fact (Qaa rv12/\(rv12=(s.Width+63) / 64))] (fun G=>xC [] QwC (QwF s.Width pre pre rv12 hg13)) (Dv [] Qf4 (Dv [] Vpf ?_))
 refine Dn ⟨by kernel_rfl,fun G=>?_⟩
 refine Jw2 [(1,p2),(15,vb ((s.Words.length:Int) != rv12))] [0,1] [SP.fact (True),SP.fact (Qaa rv12/\(rv12=(s.Width+63) / 64))] ?_
 refine Jf 3 rfl ?_; rintro ⟨he14,he15⟩
 unfold Qaa at he14
 refine Jk [0,1] ?_
 refine Kc ?_ ?_
 ·intro h16
  have g17:=Qax h16
  refine KS ?_
  refine Oq Va (KS ?_)
  have hq:=q4 hrr false (by simp only [QaX,h5,h10,h16,hg4,hg13,cs4]); subst hq
  exact Kr () rfl (.tmp rfl .nil) [] trivial
 intro h16
 have g18:=Qae h16
 refine KS ?_
 refine Qam [0,1,3,7,15,31,63,31,159,415,927,2047,4095,31,8223,24607,65535,131071,262143,524287] QcF ?_
 refine Dv [0] (Vfa Qbj 0) (Dv [0] (Qai sh3 0) (Dv [] Qve (Dv [] Qcb ?_)))
 refine Qa5 ((s.Width % 64) == 0) ?_ ?_
 ·intro h19
  have g20:=eq_of_beq h19
  refine Db h19 [] Vm (Ds (Ds (Ds (Ds (Ds (Ds (Ds (Ds (Ds ?_)))))))))
  refine Ds (Ds (Ds (Ds (Dv [] Vpt (Dv [] Va ?_)))))
  refine Dn ⟨by kernel_rfl,fun G=>?_⟩
  refine Jw2 [(2,vb true)] [0,1] [] ?_
  have hq:=q4 hrr true (by simp only [QaX,h5,h10,h16,h19,hg4,hg13,cs4]); subst hq
  exact Kr () rfl (.tmp rfl .nil) [] trivial
 intro h19
 have g21:=ne_of_beq_false h19
 refine Db h19 [] Vm (Dv [0] (Vfa Qcv 0) (Dv [0] (Qai Qi4 0) (Dv [0] (Vfa Qcv 0) (Dv [0] (Qai Qi4 0) (Dv [] (Qbc QgP) (Dv [] Qjf (Dv [1] (Vi QgP 0) (Dv [1] (Qp3 Qn0 0) (Dv [0] (Vfa Qbj 0) ?_)))))))))
 refine Dv [0] (Qai sh3 0) ?_
 refine QaO (QiM s.Width) fun rv22 hg23=>?_
 refine Dx [] [] [0] (fun G=>u64 rv22) [fun G=>SP.fact (True)] (fun G=>xC [] QxP (QyJ s.Width pre rv22 hg23)) (Dv [] Qtf (Dv [] (Qtk (b:=0#64)) (Dv [] Vpf (Dv [] Va ?_))))
 refine Dn ⟨by kernel_rfl,fun G=>?_⟩
 refine Jw2 [(2,vb (((s.Words.getD (((s.Words.length:Int) - 1):Int).toNat 0#64) &&& rv22) == 0#64))] [0,1] [SP.fact (True)] ?_
 refine Jk [0,1] ?_
 have hq:=q4 hrr (((s.Words.getD (((s.Words.length:Int) - 1):Int).toNat 0#64) &&& rv22) == 0#64) (by simp only [QaX,h5,h10,h16,h19,hg4,hg13,hg23,cs4]); subst hq
 exact Kr () rfl (.tmp rfl .nil) [] trivial
theorem Qx0 (s:Qaf) (sa1:Option Addr) (sk1:Nat) (cap0P:Value) (cap0:Int) (QcL:Qaa s.Width) (QgH:Qaa cap0) (rr:Bool) (hrr:QdO s cap0=rr):FT Tryz.prog 136 #[.agg #[vi s.Width,vl sa1 sk1 s.Words],cap0P] [S sa1 sk1 s.Words,pv cap0P [vi cap0]] (fun g:Unit=>True) (fun g=>vb rr) (fun g=>[]):=by
 refine FTi Tryz.func136 fun w0 M0 F0=>?_
 unfold Qaa at QcL QgH
 refine Fb 8 0 fun _=>KS ?_
 refine Oa (Ab [vi s.Width,vl sa1 sk1 s.Words]) fun p2=>Oq Va (KS ?_)
 refine Oq (Qar Qaw 0) ?_
 refine QaO (QaX s) fun rv3 hg4=>?_
 have hc5:=QrW s sa1 sk1 pre rv3 hg4
 refine Oc [1] Qrw hc5 ?_
 rintro - -
 refine Oq QcN (Oq Vm ?_)
 refine Js 7 ?_ ?_
 ·intro h6
  have h8:=not_true h6
  refine Osk (Osk (Osk (Osk (Oq Vpt (Oq Va (KS ?_))))))
  have hq:=q4 hrr true (by simp only [QdO,h6,h8,hg4,cs4]); subst hq
  exact Kr () rfl (.tmp rfl .nil) [] trivial
 intro h6
 have h11:=not_false h6
 refine Oq (Vfa Qbj 0) (Oq (Qai sh3 0) (Oq (Vld sh3 2) (Oq Qf4 (Oq Vpf (Oq Va (KS ?_))))))
 have hq:=q4 hrr (s.Width != cap0) (by simp only [QdO,h6,h11,hg4,cs4]); subst hq
 exact Kr () rfl (.tmp rfl .nil) [] trivial
theorem QzY (width:Int) (l:List Qaf) (la0:Option Addr) (lk0:Nat) (QbJ:Qaa width) (rr:Bool) (hrr:Qg5 width l=rr):FT Tryz.prog 95 #[vi width,vl la0 lk0 l] [S la0 lk0 l] (fun g:Unit=>True) (fun g=>vb rr) (fun g=>[]):=by
 refine FTi Tryz.func95 fun w0 M0 F0=>?_
 unfold Qaa at QbJ
 refine Fb 32 0 fun _=>KS ?_
 refine Oa (Ab [vi width]) fun p2=>Oq Va (KS ?_)
 refine Oq Vm (Oq (Vf [p2]) ?_)
 refine Qic (Ent.pall [0] rfl rfl) ?_
 refine QaO (QaN l (fun x=>QdO x width)) fun rv3 hg4=>?_
 have hc5:=Qxd l la0 lk0 136 [p2] (fun x=>QdO x width) [pv p2 [vi width]] QxR (fun x hx a1 k1 hq0=>Qgc (A1:=_) (Qx0 x a1 k1 p2 width hq0 pre _ rfl)) rv3 hg4
 refine Oc [2,0] QwB hc5 ?_
 rintro - -
 refine Oq QcN (Oq Va (KS ?_))
 have hq:=q4 hrr (!rv3) (by simp only [Qg5,hg4,cs4]); subst hq
 exact Kr () rfl (.tmp rfl .nil) [] trivial
theorem Qzm (s:List Qad) (sa0:Option Addr) (sk0:Nat) (fF:FuncId) (fC:List Value) (fp:Qad->Bool) (fA:List SP) (hfc:Qac Tryz.prog fF=true) (hfF:∀ x∈s,∀ (a1:Option Addr) (k1:Nat) (a3:Option Addr) (k3:Nat) (a4:Option Addr) (k4:Nat),Qaa x.Gen.Width->Qaa x.Kill.Width->FT Tryz.prog fF ([(.agg #[vi x.Gen.Width,vl a1 k1 x.Gen.Words,vi x.Kill.Width,vl a3 k3 x.Kill.Words,vl a4 k4 x.Copies]:Value)]++fC).toArray ([S a1 k1 x.Gen.Words,S a3 k3 x.Kill.Words,S a4 k4 x.Copies]++[Qgg fA]) (fun _:Unit=>True) (fun _=>.bool (fp x)) (fun _=>[])) (rr:Int) (hrr:QbN s fp=rr):FT Tryz.prog 137 #[vl sa0 sk0 s,.func (.func fF) #[] fC.toArray] [S sa0 sk0 s,Qgg fA] (fun g:Unit=>Qaa rr) (fun g=>vi rr) (fun g=>[]):=by
 refine FTi Tryz.func137 fun w0 M0 F0=>Fb 88 0 fun _=>?_
 refine KS ?_
 refine Oq Va (KS ?_)
 refine Oq Vm (Oq (Qbc Qhi) (Oq Vm (KS ?_)))
 refine Kl (γ:=Nat×Int) (fun (r2,Qel)=>⟨[(0,vl sa0 sk0 s),(1,.func (.func fF) #[] fC.toArray),(7,vi (s.length:Int)),(8,vi Qel)],[S sa0 sk0 s,Qgg fA],QaW s fp r2 Qel=QaW s fp (((s.length:Int) - 0).toNat) 0/\r2=((s.length:Int) - Qel).toNat/\(0:Int)<=Qel/\Qel<=(s.length:Int)/\(-9223372036854775808<=Qel/\Qel<=9223372036854775807),r2⟩) (((s.length:Int) - 0).toNat,0) [0,1] ⟨rfl,rfl,aM1,aM1,aM1⟩ ?_
 rintro ⟨r2,Qel⟩ ⟨hM4,hr5,hi6,hi7,hk8⟩
 refine QaE fun _ _ hL hA=>?_; dsimp only at hL hA; subst hL hA
 refine Fb 88 0 fun _=>KS ?_
 refine Oq Qbo (KS ?_)
 refine Kc ?_ ?_
 ·intro h10
  have g11:=dt h10
  obtain ⟨r12,rfl⟩:=scc (n:=r2) aM1
  refine KS ?_
  refine Oq Vm (Oq Va (KS ?_))
  refine Oq Vm (Oq Vm (Oq Vm (Oq (Vi Qhi 0) ?_)))
  refine Qa0 Qel.toNat 0 rfl rng fun a13 k14 a15 k16 a17 k18 hb19 hb20=>?_
  unfold Qaa at hb19 hb20
  refine Fb 8 1 fun _=>Fb 8 2 fun _=>Fb 16 3 fun _=>Oq (Qar Qdm 0) ?_
  refine Qg7 [1,2,3,5] rfl rfl rfl (OpC.clo (asv:=[(.agg #[vi (((s.getD Qel.toNat default).Gen).Width),vl a13 k14 (((s.getD Qel.toNat default).Gen).Words),vi (((s.getD Qel.toNat default).Kill).Width),vl a15 k16 (((s.getD Qel.toNat default).Kill).Words),vl a17 k18 ((s.getD Qel.toNat default).Copies)]:Value)]++fC) rfl rfl hfc rfl (by simp)) (hfF (s.getD Qel.toNat default) (QaA rng) a13 k14 a15 k16 a17 k18 pre pre) rfl fun _ _=>?_
  refine KS ?_
  refine Kc ?_ ?_
  ·intro h24
   refine KS ?_
   refine Oq Vm (Oq Va (KS ?_))
   have hR26:=q2 hM4 (.ret Qel) (by simp only [QaW,h10,h24,cs4])
   have hq:=q4 hrr Qel (by simp only [QbN,h10,h24,hR26,cs4]); subst hq
   exact Kr () rfl (.tmp rfl .nil) [] en
  intro h24
  refine KS ?_
  refine Oq QaS (Oq Vm (KS ?_))
  exact Kg (r12,(Qel+1)) [4,5] ⟨(q3 hM4 (by simp only [QaW,h10,h24,cs4])),aM1,aM1,aM1,aM1⟩
 intro h10
 have g28:=df h10
 obtain rfl:r2=0:=by omega
 refine Ke ?_
 have hR29:=q2 hM4 (.brk ()) (by simp only [QaW,h10,cs4])
 refine KS ?_
 refine Oq Va (KS ?_)
 have hq:=q4 hrr (-1) (by simp only [QbN,h10,hR29,cs4]); subst hq
 exact Kr () rfl (.tmp rfl .nil) [] en
theorem QBH (s:List Qad) (sa0:Option Addr) (sk0:Nat) (fF:FuncId) (fC:List Value) (fp:Qad->Bool) (fA:List SP) (hfc:Qac Tryz.prog fF=true) (hfF:∀ x∈s,∀ (a1:Option Addr) (k1:Nat) (a3:Option Addr) (k3:Nat) (a4:Option Addr) (k4:Nat),Qaa x.Gen.Width->Qaa x.Kill.Width->FT Tryz.prog fF ([(.agg #[vi x.Gen.Width,vl a1 k1 x.Gen.Words,vi x.Kill.Width,vl a3 k3 x.Kill.Words,vl a4 k4 x.Copies]:Value)]++fC).toArray ([S a1 k1 x.Gen.Words,S a3 k3 x.Kill.Words,S a4 k4 x.Copies]++[Qgg fA]) (fun _:Unit=>True) (fun _=>.bool (fp x)) (fun _=>[])) (rr:Bool) (hrr:QaK s fp=rr):FT Tryz.prog 96 #[vl sa0 sk0 s,.func (.func fF) #[] fC.toArray] [S sa0 sk0 s,Qgg fA] (fun g:Unit=>True) (fun g=>vb rr) (fun g=>[]):=by
 refine FTi Tryz.func96 fun w0 M0 F0=>Fb 88 0 fun _=>?_
 refine KS ?_
 refine Oq Va (KS ?_)
 refine Oq Vm (Oq Vm ?_)
 refine QaO (QbN s fp) fun rv2 hg3=>?_
 have hc4:=Qzm s sa0 sk0 fF fC fp fA hfc hfF rv2 hg3
 refine Oc [0,1] QyN hc4 ?_
 rintro - he5
 unfold Qaa at he5
 refine Oq Qhv (Oq Va (KS ?_))
 have hq:=q4 hrr (decide (0<=rv2)) (by simp only [QaK,hg3,cs4]); subst hq
 exact Kr () rfl (.tmp rfl .nil) [] trivial
theorem Qy2 (vals:List Int) (valsa0:Option Addr) (valsk0:Nat) (rr:Int) (hrr:Qfh vals=rr):FT Tryz.prog 146 #[vl valsa0 valsk0 vals] [S valsa0 valsk0 vals] (fun g:Unit=>Qaa rr) (fun g=>vi rr) (fun g=>[]):=by
 refine FTi Tryz.func146 fun w0 M0 F0=>Fb 8 0 fun _=>Fo 0 fun ho2=>?_
 refine KS ?_
 refine Oq Va (KS ?_)
 refine Oq Va (KS ?_)
 refine Oq Vm (Oq (Qbc QcP) (Oq Vm (KS ?_)))
 refine Kl (γ:=Nat×Int) (fun (r3,Qfp)=>⟨[(3,vi 0),(6,vl valsa0 valsk0 vals),(7,vi (vals.length:Int)),(8,vi Qfp)],[S valsa0 valsk0 vals],Qcx vals r3 Qfp=Qcx vals (((vals.length:Int) - 0).toNat) 0/\r3=((vals.length:Int) - Qfp).toNat/\(0:Int)<=Qfp/\Qfp<=(vals.length:Int)/\(-9223372036854775808<=Qfp/\Qfp<=9223372036854775807),r3⟩) (((vals.length:Int) - 0).toNat,0) [0] ⟨rfl,rfl,aM1,aM1,aM1⟩ ?_
 rintro ⟨r3,Qfp⟩ ⟨hM5,hr6,hi7,hi8,hk9⟩
 refine QaE fun _ _ hL hA=>?_; dsimp only at hL hA; subst hL hA
 refine Fb 8 0 fun _=>Fo 0 fun ho11=>KS ?_
 refine Oq Qbo (KS ?_)
 refine Kc ?_ ?_
 ·intro h12
  have g13:=dt h12
  obtain ⟨r14,rfl⟩:=scc (n:=r3) aM1
  refine KS ?_
  refine Oq (Vi QcP 0) ?_
  have hb15:=ok1 (i:=Qfp.toNat) ho11 rng
  refine Oq (QjF sh3 0) (Oq Va (KS ?_))
  refine Oq Vm (Oq Vm (Oq Qf4 (KS ?_)))
  refine Kc ?_ ?_
  ·intro h16
   have g17:=Qax h16
   refine KS ?_
   refine Oq Vm (Oq Va (KS ?_))
   have hR18:=q2 hM5 (.ret (vals.getD Qfp.toNat 0)) (by simp only [Qcx,h12,h16,cs4])
   have hq:=q4 hrr (vals.getD Qfp.toNat 0) (by simp only [Qfh,h12,h16,hR18,cs4]); subst hq
   exact Kr () rfl (.tmp rfl .nil) [] en
  intro h16
  have g19:=Qae h16
  refine KS ?_
  refine Oq QaS (Oq Vm (KS ?_))
  exact Kg (r14,(Qfp+1)) [0] ⟨(q3 hM5 (by simp only [Qcx,h12,h16,cs4])),aM1,aM1,aM1,aM1⟩
 intro h12
 have g20:=df h12
 obtain rfl:r3=0:=by omega
 refine Ke ?_
 have hR21:=q2 hM5 (.brk ()) (by simp only [Qcx,h12,cs4])
 refine KS ?_
 refine Oq Vm (Oq Va (KS ?_))
 have hq:=q4 hrr 0 (by simp only [Qfh,h12,hR21,cs4]); subst hq
 exact Kr () rfl (.tmp rfl .nil) [] en
theorem QwK (x:Int) (Qvh:Qaa x) (rr:Bool) (hrr:QdD x=rr):FT Tryz.prog 174 #[vi x] [] (fun g:Unit=>True) (fun g=>vb rr) (fun g=>[]):=by
 refine FTi Tryz.func174 fun w0 M0 F0=>?_
 unfold Qaa at Qvh
 refine KS ?_
 refine Oq Va (KS ?_)
 refine Oq Vm (Oq Vm (Oq Qf4 (Oq Va (KS ?_))))
 have hq:=q4 hrr (x != x) (by simp only [QdD,cs4]); subst hq
 exact Kr () rfl (.tmp rfl .nil) [] trivial
theorem QvK (x:Int) (y:Int) (Qvh:Qaa x) (QCC:Qaa y) (rr:Int) (hrr:Qba x y=rr):FT Tryz.prog 147 #[vi x,vi y] [] (fun g:Unit=>Qaa rr) (fun g=>vi rr) (fun g=>[]):=by
 refine FTi Tryz.func147 fun w0 M0 F0=>?_
 unfold Qaa at Qvh QCC
 refine KS ?_
 refine Oq Va (KS ?_)
 refine Oq Vm ?_
 refine QaO (QdD x) fun rv1 hg2=>?_
 have hc3:=QwK x pre rv1 hg2
 refine Oc [] Qxr hc3 ?_
 rintro - -
 refine Oq Va (KS ?_)
 refine Oq Vm ?_
 refine QaO (QdD y) fun rv4 hg5=>?_
 have hc6:=QwK y pre rv4 hg5
 refine Oc [] Qxr hc6 ?_
 rintro - -
 refine Oq Va (KS ?_)
 refine Oq Vm (KS ?_)
 refine Kc ?_ ?_
 ·intro h7
  refine KS ?_
  refine Oq Vm (KS ?_)
  refine Kc ?_ ?_
  ·intro h9
   refine KS ?_
   refine Oq Va (KS ?_)
   have hq:=q4 hrr 0 (by simp only [Qba,h7,h9,hg2,hg5,cs4]); subst hq
   exact Kr () rfl (.tmp rfl .nil) [] en
  intro h9
  refine KS ?_
  refine Oq Va (KS ?_)
  have hq:=q4 hrr (-1) (by simp only [Qba,h7,h9,hg2,hg5,cs4]); subst hq
  exact Kr () rfl (.tmp rfl .nil) [] en
 intro h7
 refine KS ?_
 refine Oq Vm (KS ?_)
 refine Kc ?_ ?_
 ·intro h13
  refine KS ?_
  refine Oq Va (KS ?_)
  have hq:=q4 hrr 1 (by simp only [Qba,h7,h13,hg2,hg5,cs4]); subst hq
  exact Kr () rfl (.tmp rfl .nil) [] en
 intro h13
 refine KS ?_
 refine Oq Vm (Oq Vm (Oq Qbo (KS ?_)))
 refine Kc ?_ ?_
 ·intro h16
  have g17:=dt h16
  refine KS ?_
  refine Oq Va (KS ?_)
  have hq:=q4 hrr (-1) (by simp only [Qba,h7,h13,h16,hg2,hg5,cs4]); subst hq
  exact Kr () rfl (.tmp rfl .nil) [] en
 intro h16
 have g18:=df h16
 refine KS ?_
 refine Oq Vm (Oq Vm (Oq QgZ (KS ?_)))
 refine Kc ?_ ?_
 ·intro h19
  have g20:=dt h19
  refine KS ?_
  refine Oq Va (KS ?_)
  have hq:=q4 hrr 1 (by simp only [Qba,h7,h13,h16,h19,hg2,hg5,cs4]); subst hq
  exact Kr () rfl (.tmp rfl .nil) [] en
 intro h19
 have g21:=df h19
 refine KS ?_
 refine Oq Va (KS ?_)
 have hq:=q4 hrr 0 (by simp only [Qba,h7,h13,h16,h19,hg2,hg5,cs4]); subst hq
 exact Kr () rfl (.tmp rfl .nil) [] en
theorem QyG (a:QaB) (b:QaB) (Qke:Qaa a.From) (Qvi:Qaa a.To) (QgI:Qaa b.From) (Qvj:Qaa b.To) (rr:Int) (hrr:Qf7 a b=rr):FT Tryz.prog 109 #[.agg #[vi a.From,vi a.To],.agg #[vi b.From,vi b.To]] [] (fun g:Unit=>Qaa rr) (fun g=>vi rr) (fun g=>[]):=by
 refine FTi Tryz.func109 fun w0 M0 F0=>?_
 unfold Qaa at Qke Qvi QgI Qvj
 refine KS ?_
 refine Oa (Ab [vi a.From,vi a.To]) fun p1=>Oa (Ab [vi b.From,vi b.To]) fun p2=>Oq Va (KS ?_)
 refine Qam [0,1,0,4,15,0,32,0,128,511,1023,2047,4095] QcF ?_
 refine Dv [1] (Vfa QcA 0) (Dv [1] (Qai sh3 0) (Dv [0] (Vfa QcA 0) (Dv [0] (Qai sh3 0) ?_)))
 refine QaO (Qba a.From b.From) fun rv3 hg4=>?_
 refine Dx [] [] [0] (fun G=>vi rv3) [fun G=>SP.fact (Qaa rv3)] (fun G=>xC [] Qw5 (QvK a.From b.From pre pre rv3 hg4)) (Dv [1] (Vfa Qd4 0) (Dv [1] (Qai sh3 0) (Dv [0] (Vfa Qd4 0) (Dv [0] (Qai sh3 0) ?_))))
 refine QaO (Qba a.To b.To) fun rv5 hg6=>?_
 refine Dx [] [] [0] (fun G=>vi rv5) [fun G=>SP.fact (Qaa rv5)] (fun G=>xC [] Qw5 (QvK a.To b.To pre pre rv5 hg6)) (Dx [] [] [0] (fun G=>(G.g 10 0)) [fun G=>Cr (G.g 10 0) 2 [vi rv3,vi rv5]] (fun G=>xA (AsV QcP QmX [vi rv3,vi rv5] [vi rv3,vi rv5])) ?_)
 refine QaO (Qfh [rv3,rv5]) fun rv11 hg12=>?_
 refine Dx [2,3,4] [4] [2,3,1,0] (fun G=>vi rv11) [fun G=>sl (G.g 10 0) ([rv3,rv5]:List Int),fun G=>SP.fact (Qaa rv11)] (fun G=>by refine xf 0 rfl ?_; rintro he13; unfold Qaa at he13; refine xf 1 rfl ?_; rintro he14; unfold Qaa at he14; exact xp [2] rfl (Ent.crInt _ [rv3,rv5] _ _ rfl rfl (by intro x hx; simp only [List.mem_cons,List.not_mem_nil,or_false] at hx; rcases hx with rfl | rfl <;> (unfold Qaa; omega)) aB1) (xp [0] rfl (Ent.freeze _ _) (xD [0] QxT rfl rfl rfl (QlR (γ:=Unit) (I:=fun g=>Qaa rv11) (V:=fun g=>vi rv11) (B:=fun g=>[]) (R:=sl (G.g 10 0) ([rv3,rv5]:List Int)) QjT (fun aq8 kq9 eq10=>by rw [eq10]; exact Qe7 (Ent.take (is:=[0]) rfl) (Qy2 ([rv3,rv5]) aq8 kq9 rv11 hg12)))))) (Dv [] Va ?_)
 refine Dn ⟨by kernel_rfl,fun G=>?_⟩
 refine Jw2 [(4,vi rv11)] [0,1] [SP.fact (Qaa rv3),SP.fact (Qaa rv5),sl (G.g 10 0) ([rv3,rv5]:List Int),SP.fact (Qaa rv11)] ?_
 generalize G.g 10 0=c7
 refine Jf 2 rfl ?_; rintro he15
 unfold Qaa at he15
 refine Jf 3 rfl ?_; rintro he16
 unfold Qaa at he16
 refine Jf 5 rfl ?_; rintro he17
 unfold Qaa at he17
 refine Jk [0,1,4] ?_
 refine Jo 2 ?_; rintro a18 k19 rfl
 refine Fb 8 2 fun _=>Fo 2 fun ho21=>?_
 have hq:=q4 hrr rv11 (by simp only [Qf7,hg4,hg6,hg12,cs4]); subst hq
 exact Kr () rfl (.tmp rfl .nil) [] en
theorem Qti (t:Qad) (ta1:Option Addr) (tk1:Nat) (ta3:Option Addr) (tk3:Nat) (ta4:Option Addr) (tk4:Nat) (b:Int) (QkH:Qaa t.Gen.Width) (QkI:Qaa t.Kill.Width) (QgI:Qaa b) (rr:Bool) (hrr:Qie t b=rr):FT Tryz.prog 76 #[.agg #[vi t.Gen.Width,vl ta1 tk1 t.Gen.Words,vi t.Kill.Width,vl ta3 tk3 t.Kill.Words,vl ta4 tk4 t.Copies],vi b] [S ta1 tk1 t.Gen.Words,S ta3 tk3 t.Kill.Words,S ta4 tk4 t.Copies] (fun g:Unit=>True) (fun g=>vb rr) (fun g=>[]):=by
 refine FTi Tryz.func76 fun w0 M0 F0=>?_
 unfold Qaa at QkH QkI QgI
 refine Fb 8 0 fun _=>Fb 8 1 fun _=>Fb 16 2 fun _=>KS ?_
 refine Oa (Ab [vi t.Gen.Width,vl ta1 tk1 t.Gen.Words,vi t.Kill.Width,vl ta3 tk3 t.Kill.Words,vl ta4 tk4 t.Copies]) fun p4=>Oq Va (KS ?_)
 refine Oq Vm (Oq Qhv (Oq Vm ?_))
 refine Js 7 ?_ ?_
 ·intro h5
  have g6:=dt h5
  refine Oq Vm (Oq (Vfa Qdx 0) (Oq (Qoy Qbj 0) (Oq (Qai sh3 0) (Oq Qbo (Oq Vpt (Oq Va (KS ?_)))))))
  have hq:=q4 hrr (decide (b < t.Gen.Width)) (by simp only [Qie,h5,cs4]); subst hq
  exact Kr () rfl (.tmp rfl .nil) [] trivial
 intro h5
 have g7:=df h5
 refine Osk (Osk (Osk (Osk (Osk (Oq Vpf (Oq Va (KS ?_)))))))
 have hq:=q4 hrr false (by simp only [Qie,h5,cs4]); subst hq
 exact Kr () rfl (.tmp rfl .nil) [] trivial
theorem Qzn (t:Qad) (ta1:Option Addr) (tk1:Nat) (ta3:Option Addr) (tk3:Nat) (ta4:Option Addr) (tk4:Nat) (QkH:Qaa t.Gen.Width) (QkI:Qaa t.Kill.Width) (rr:Bool) (hrr:QcM t=rr):FT Tryz.prog 75 #[.agg #[vi t.Gen.Width,vl ta1 tk1 t.Gen.Words,vi t.Kill.Width,vl ta3 tk3 t.Kill.Words,vl ta4 tk4 t.Copies]] [S ta1 tk1 t.Gen.Words,S ta3 tk3 t.Kill.Words,S ta4 tk4 t.Copies] (fun g:Unit=>True) (fun g=>vb rr) (fun g=>[]):=by
 refine FTi Tryz.func75 fun w0 M0 F0=>?_
 unfold Qaa at QkH QkI
 refine Fb 8 0 fun _=>Fb 8 1 fun _=>Fb 16 2 fun _=>KS ?_
 refine Oa (Ab [vi t.Gen.Width,vl ta1 tk1 t.Gen.Words,vi t.Kill.Width,vl ta3 tk3 t.Kill.Words,vl ta4 tk4 t.Copies]) fun p4=>Oq Va (KS ?_)
 refine Oq (Vfa Qdx 0) (Oq (Qml Qaw 0 [vi t.Gen.Width,vl ta1 tk1 t.Gen.Words]) ?_)
 refine QaO (QaX t.Gen) fun rv5 hg6=>?_
 have hc7:=QrW t.Gen ta1 tk1 pre rv5 hg6
 refine Oc [1] Qrw hc7 ?_
 rintro - -
 refine Oq QcN (Oq Vm ?_)
 refine Js 9 ?_ ?_
 ·intro h8
  have h10:=not_true h8
  refine Osk (Osk (Osk (Osk (Oq Vpt (Oq Vm (Osk (Osk (Osk (Osk ?_)))))))))
  refine Osk (Osk (Osk (Oq Vpt (Oq Vm (Osk (Osk (Osk (Osk (Oq Vpt ?_)))))))))
  refine KS ?_
  refine Kt (KS ?_)
  refine Oq Va (KS ?_)
  have hq:=q4 hrr false (by simp only [QcM,h8,h10,hg6,cs4]); subst hq
  exact Kr () rfl (.tmp rfl .nil) [] trivial
 intro h8
 have h13:=not_false h8
 refine Oq (Vfa QfD 0) (Oq (Qml Qaw 0 [vi t.Kill.Width,vl ta3 tk3 t.Kill.Words]) ?_)
 refine QaO (QaX t.Kill) fun rv15 hg16=>?_
 have hc17:=QrW t.Kill ta3 tk3 pre rv15 hg16
 refine Oc [2] Qrw hc17 ?_
 rintro - -
 refine Oq QcN (Oq Vpf (Oq Vm ?_))
 refine Js 15 ?_ ?_
 ·intro h18
  have h20:=not_true h18
  refine Osk (Osk (Osk (Osk (Osk (Osk (Osk (Oq Vpt (Oq Vm (Osk ?_)))))))))
  refine Osk (Osk (Osk (Oq Vpt (KS ?_))))
  refine Kt (KS ?_)
  refine Oq Va (KS ?_)
  have hq:=q4 hrr false (by simp only [QcM,h8,h13,h18,h20,hg6,hg16,cs4]); subst hq
  exact Kr () rfl (.tmp rfl .nil) [] trivial
 intro h18
 have h23:=not_false h18
 refine Oq (Vfa Qdx 0) (Oq (Qoy Qbj 0) (Oq (Qai sh3 0) (Oq (Vfa QfD 0) (Oq (Qoy Qbj 0) (Oq (Qai sh3 0) (Oq Qf4 (Oq Vpf (Oq Vm ?_))))))))
 refine Js 24 ?_ ?_
 ·intro h25
  have g26:=Qax h25
  refine Osk (Osk (Osk (Osk (Oq Vpt (KS ?_)))))
  refine Kt (KS ?_)
  refine Oq Va (KS ?_)
  have hq:=q4 hrr false (by simp only [QcM,h8,h13,h18,h23,h25,hg6,hg16,cs4]); subst hq
  exact Kr () rfl (.tmp rfl .nil) [] trivial
 intro h25
 have g27:=Qae h25
 refine Oq (Vfa Qcw 0) (Oq (Qai Qi5 0) (Oq (Qbc Qhq) (Oq QgZ (Oq Vpf (KS ?_)))))
 refine Kc ?_ ?_
 ·intro h28
  have g29:=dt h28
  refine KS ?_
  refine Oq Va (KS ?_)
  have hq:=q4 hrr false (by simp only [QcM,h8,h13,h18,h23,h25,h28,hg6,hg16,cs4]); subst hq
  exact Kr () rfl (.tmp rfl .nil) [] trivial
 intro h28
 have g30:=df h28
 refine KS ?_
 refine Oq (Vfa Qcw 0) (Oq (Qai Qi5 0) (Oq (Qbc Qhq) (Oq Vm (KS ?_))))
 refine Kl (γ:=Nat×Int) (fun (r31,QcG)=>⟨[(1,p4),(31,vl ta4 tk4 t.Copies),(32,vi (t.Copies.length:Int)),(33,vi QcG)],[pv p4 [vi t.Gen.Width,vl ta1 tk1 t.Gen.Words,vi t.Kill.Width,vl ta3 tk3 t.Kill.Words,vl ta4 tk4 t.Copies],S ta1 tk1 t.Gen.Words,S ta3 tk3 t.Kill.Words,S ta4 tk4 t.Copies],Qb1 t r31 QcG=Qb1 t (((t.Copies.length:Int) - 0).toNat) 0/\r31=((t.Copies.length:Int) - QcG).toNat/\(0:Int)<=QcG/\QcG<=(t.Copies.length:Int)/\(-9223372036854775808<=QcG/\QcG<=9223372036854775807),r31⟩) (((t.Copies.length:Int) - 0).toNat,0) [0,1,2,3] ⟨rfl,rfl,aM1,aM1,aM1⟩ ?_
 rintro ⟨r31,QcG⟩ ⟨hM33,hr34,hi35,hi36,hk37⟩
 refine QaE fun _ _ hL hA=>?_; dsimp only at hL hA; subst hL hA
 refine Fb 8 1 fun _=>Fb 8 2 fun _=>Fb 16 3 fun _=>KS ?_
 refine Oq Qbo (KS ?_)
 refine Kc ?_ ?_
 ·intro h41
  have g42:=dt h41
  obtain ⟨r43,rfl⟩:=scc (n:=r31) aM1
  refine KS ?_
  refine Oq Vm (Oq (Vi Qhq 3) ?_)
  refine Qcz QcG.toNat 3 rfl rng fun hb44 hb45=>?_
  unfold Qaa at hb44 hb45
  refine Oq (Qar QiC 0) (Oa (Al Quj [vi 0,vi 0]) fun p46=>Oq Va (Ost (Scl [0] QiC [vi ((t.Copies.getD QcG.toNat default).From),vi ((t.Copies.getD QcG.toNat default).To)]) (KS ?_)))
  refine Jp 0 fun hp47=>?_
  refine QaO (Qie t ((t.Copies.getD QcG.toNat default).From)) fun rv48 hg49=>?_
  refine Qa5 (!rv48) ?_ ?_
  ·intro h50
   have h52:=not_true h50
   refine Qam [0,0,2,7,15,31,63,63,191,511,1023,2047,4095,8191,16383,32767,65535,131071,65535,327679,1048575,2097151,65535,8388607,16777215,33554431,67108863] QcF ?_
   refine Dv [3] (Qar Qdm 0) (Dv [0] (Vfa QcA 0) (Dv [1] (Qai sh3 0) (Dx [4,5,6] [] [1,2,3,0] (fun G=>vb rv48) [fun G=>SP.fact (True)] (fun G=>xC [0,1,2] Qtq (Qti t ta1 tk1 ta3 tk3 ta4 tk4 ((t.Copies.getD QcG.toNat default).From) pre pre pre rv48 hg49)) (Db h50 [] QcN (Dv [] Vm (Ds (Ds (Ds (Ds ?_)))))))))
   refine Ds (Dv [] Vpt (Dv [] Vm (Ds (Ds (Ds (Ds (Ds (Ds (Ds ?_)))))))))
   refine Ds (Ds (Ds (Ds (Ds (Ds (Dv [] Vpt ?_))))))
   refine Dn ⟨by kernel_rfl,fun G=>?_⟩
   refine Jw2 [(1,p4),(31,vl ta4 tk4 t.Copies),(32,vi (t.Copies.length:Int)),(33,vi QcG),(64,vb true)] [0,1,2,3,4,5,6] [SP.fact (True)] ?_
   refine Jk [1,1,2,3,4,5] (Kt ?_)
   refine KS ?_
   refine Oq Va (KS ?_)
   have hR54:=q2 hM33 (.ret false) (by simp only [Qb1,h41,h50,h52,hg49,cs4])
   have hq:=q4 hrr false (by simp only [QcM,h8,h13,h18,h23,h25,h28,h41,h50,h52,hg6,hg16,hg49,hR54,cs4]); subst hq
   exact Kr () rfl (.tmp rfl .nil) [] trivial
  intro h50
  have h56:=not_false h50
  refine QaO (Qie t ((t.Copies.getD QcG.toNat default).To)) fun rv58 hg59=>?_
  refine Qa5 (!rv58) ?_ ?_
  ·intro h60
   have h62:=not_true h60
   refine Qam [0,0,2,7,15,31,63,63,191,511,1023,2047,4095,8191,16383,32767,65535,131071,65535,327679,1048575,2097151,65535,8388607,16777215,33554431,67108863] QcF ?_
   refine Dv [3] (Qar Qdm 0) (Dv [0] (Vfa QcA 0) (Dv [1] (Qai sh3 0) (Dx [4,5,6] [] [1,2,3,0] (fun G=>vb rv48) [fun G=>SP.fact (True)] (fun G=>xC [0,1,2] Qtq (Qti t ta1 tk1 ta3 tk3 ta4 tk4 ((t.Copies.getD QcG.toNat default).From) pre pre pre rv48 hg49)) (Db h50 [] QcN (Dv [] Vm (Dv [3] (Qar Qdm 0) (Dv [0] (Vfa Qd4 0) (Dv [1] (Qai sh3 0) (Dx [4,5,6] [] [1,2,3,0] (fun G=>vb rv58) [fun G=>SP.fact (True)] (fun G=>xC [0,1,2] Qtq (Qti t ta1 tk1 ta3 tk3 ta4 tk4 ((t.Copies.getD QcG.toNat default).To) pre pre pre rv58 hg59)) ?_)))))))))
   refine Db h60 [] QcN (Dv [] Vpf (Dv [] Vm (Ds (Ds (Ds (Ds (Ds (Ds (Ds ?_)))))))))
   refine Ds (Ds (Ds (Ds (Ds (Ds (Dv [] Vpt ?_))))))
   refine Dn ⟨by kernel_rfl,fun G=>?_⟩
   refine Jw2 [(1,p4),(31,vl ta4 tk4 t.Copies),(32,vi (t.Copies.length:Int)),(33,vi QcG),(64,vb true)] [0,1,2,3,4,5,6] [SP.fact (True),SP.fact (True)] ?_
   refine Jk [1,1,2,3,4,5] (Kt ?_)
   refine KS ?_
   refine Oq Va (KS ?_)
   have hR64:=q2 hM33 (.ret false) (by simp only [Qb1,h41,h50,h56,h60,h62,hg49,hg59,cs4])
   have hq:=q4 hrr false (by simp only [QcM,h8,h13,h18,h23,h25,h28,h41,h50,h56,h60,h62,hg6,hg16,hg49,hg59,hR64,cs4]); subst hq
   exact Kr () rfl (.tmp rfl .nil) [] trivial
  intro h60
  have h66:=not_false h60
  refine Qa5 (decide (0 < QcG)) ?_ ?_
  ·intro h68
   have g69:=dt h68
   refine Qcz ((QcG - 1):Int).toNat 6 rfl rng fun hb70 hb71=>?_
   unfold Qaa at hb70 hb71
   refine Qam [0,0,2,7,15,31,63,63,191,511,1023,2047,4095,8191,16383,32767,65535,131071,65535,327679,1048575,2097151,65535,8388607,16777215,33554431,67108863] QcF ?_
   refine Dv [4] (Qar Qdm 0) (Dv [1] (Vfa QcA 0) (Dv [2] (Qai sh3 0) (Dx [5,6,7] [] [1,2,3,0] (fun G=>vb rv48) [fun G=>SP.fact (True)] (fun G=>xC [0,1,2] Qtq (Qti t ta1 tk1 ta3 tk3 ta4 tk4 ((t.Copies.getD QcG.toNat default).From) pre pre pre rv48 hg49)) (Db h50 [] QcN (Dv [] Vm (Dv [4] (Qar Qdm 0) (Dv [1] (Vfa Qd4 0) (Dv [2] (Qai sh3 0) (Dx [5,6,7] [] [1,2,3,0] (fun G=>vb rv58) [fun G=>SP.fact (True)] (fun G=>xC [0,1,2] Qtq (Qti t ta1 tk1 ta3 tk3 ta4 tk4 ((t.Copies.getD QcG.toNat default).To) pre pre pre rv58 hg59)) ?_)))))))))
   refine Db h60 [] QcN (Dv [] Vpf (Dv [] Vm (Dv [] Vm (Db h68 [] QgZ (Dv [] Vm (Dv [4] (Vfa Qcw 0) (Dv [4] (Qai Qi5 0) (Dv [] Vm (Dv [] Qjf ?_)))))))))
   refine Dv [7] (Vi Qhq 0) (Dv [0] (Qar QiC 0) (Dv [2] (Qar QiC 0) ?_))
   refine QaO (Qf7 (t.Copies.getD ((QcG - 1):Int).toNat default) (t.Copies.getD QcG.toNat default)) fun rv72 hg73=>?_
   refine Dx [] [] [0] (fun G=>vi rv72) [fun G=>SP.fact (Qaa rv72)] (fun G=>xC [] Qyi (QyG ((t.Copies.getD ((QcG - 1):Int).toNat default)) ((t.Copies.getD QcG.toNat default)) pre pre pre pre rv72 hg73)) (Dv [] Qhv (Dv [] Vpt (Dv [] Vpf ?_)))
   refine Dn ⟨by kernel_rfl,fun G=>?_⟩
   refine Jw2 [(1,p4),(31,vl ta4 tk4 t.Copies),(32,vi (t.Copies.length:Int)),(33,vi QcG),(64,vb (decide (0<=rv72)))] [0,1,2,3,4,5,6,7] [SP.fact (True),SP.fact (True),SP.fact (Qaa rv72)] ?_
   refine Jf 10 rfl ?_; rintro he74
   unfold Qaa at he74
   refine Jk [0,2,2,3,4,5,6] ?_
   refine Kc ?_ ?_
   ·intro h75
    have g76:=dt h75
    refine KS ?_
    refine Oq Va (KS ?_)
    have hR77:=q2 hM33 (.ret false) (by simp only [Qb1,h41,h50,h56,h60,h66,h68,h75,hg49,hg59,hg73,cs4])
    have hq:=q4 hrr false (by simp only [QcM,h8,h13,h18,h23,h25,h28,h41,h50,h56,h60,h66,h68,h75,hg6,hg16,hg49,hg59,hg73,hR77,cs4]); subst hq
    exact Kr () rfl (.tmp rfl .nil) [] trivial
   intro h75
   have g78:=df h75
   refine KS ?_
   refine Oq QaS (Oq Vm (KS ?_))
   exact Kg (r43,(QcG+1)) [3,4,5,6] ⟨(q3 hM33 (by simp only [Qb1,h41,h50,h56,h60,h66,h68,h75,hg49,hg59,hg73,cs4])),aM1,aM1,aM1,aM1⟩
  intro h68
  have g79:=df h68
  refine Qam [0,0,2,7,15,31,63,63,191,511,1023,2047,4095,8191,16383,32767,65535,131071,65535,327679,1048575,2097151,65535,8388607,16777215,33554431,67108863] QcF ?_
  refine Dv [3] (Qar Qdm 0) (Dv [0] (Vfa QcA 0) (Dv [1] (Qai sh3 0) (Dx [4,5,6] [] [1,2,3,0] (fun G=>vb rv48) [fun G=>SP.fact (True)] (fun G=>xC [0,1,2] Qtq (Qti t ta1 tk1 ta3 tk3 ta4 tk4 ((t.Copies.getD QcG.toNat default).From) pre pre pre rv48 hg49)) (Db h50 [] QcN (Dv [] Vm (Dv [3] (Qar Qdm 0) (Dv [0] (Vfa Qd4 0) (Dv [1] (Qai sh3 0) (Dx [4,5,6] [] [1,2,3,0] (fun G=>vb rv58) [fun G=>SP.fact (True)] (fun G=>xC [0,1,2] Qtq (Qti t ta1 tk1 ta3 tk3 ta4 tk4 ((t.Copies.getD QcG.toNat default).To) pre pre pre rv58 hg59)) ?_)))))))))
  refine Db h60 [] QcN (Dv [] Vpf (Dv [] Vm (Dv [] Vm (Db h68 [] QgZ (Dv [] Vm (Ds (Ds (Ds (Ds ?_)))))))))
  refine Ds (Ds (Ds (Ds (Ds (Dv [] Vpf (Dv [] Vpf ?_))))))
  refine Dn ⟨by kernel_rfl,fun G=>?_⟩
  refine Jw2 [(1,p4),(31,vl ta4 tk4 t.Copies),(32,vi (t.Copies.length:Int)),(33,vi QcG),(64,vb false)] [0,1,2,3,4,5,6] [SP.fact (True),SP.fact (True)] ?_
  refine Jk [1,1,2,3,4,5] (Kf ?_)
  refine KS ?_
  refine Oq QaS (Oq Vm (KS ?_))
  exact Kg (r43,(QcG+1)) [2,3,4,5] ⟨(q3 hM33 (by simp only [Qb1,h41,h50,h56,h60,h66,h68,hg49,hg59,cs4])),aM1,aM1,aM1,aM1⟩
 intro h41
 have g80:=df h41
 obtain rfl:r31=0:=by omega
 refine Ke ?_
 have hR81:=q2 hM33 (.brk ()) (by simp only [Qb1,h41,cs4])
 refine KS ?_
 refine Oq Va (KS ?_)
 have hq:=q4 hrr true (by simp only [QcM,h8,h13,h18,h23,h25,h28,h41,hg6,hg16,hR81,cs4]); subst hq
 exact Kr () rfl (.tmp rfl .nil) [] trivial
theorem QAI (width:Int) (f:Qad) (fa1:Option Addr) (fk1:Nat) (fa3:Option Addr) (fk3:Nat) (fa4:Option Addr) (fk4:Nat) (QbJ:Qaa width) (Qsi:Qaa f.Gen.Width) (Qxt:Qaa f.Kill.Width) (rr:Bool) (hrr:Qkv width f=rr):FT Tryz.prog 98 #[vi width,.agg #[vi f.Gen.Width,vl fa1 fk1 f.Gen.Words,vi f.Kill.Width,vl fa3 fk3 f.Kill.Words,vl fa4 fk4 f.Copies]] [S fa1 fk1 f.Gen.Words,S fa3 fk3 f.Kill.Words,S fa4 fk4 f.Copies] (fun g:Unit=>True) (fun g=>vb rr) (fun g=>[]):=by
 refine FTi Tryz.func98 fun w0 M0 F0=>?_
 unfold Qaa at QbJ Qsi Qxt
 refine Fb 8 0 fun _=>Fb 8 1 fun _=>Fb 16 2 fun _=>KS ?_
 refine Oa (Ab [vi f.Gen.Width,vl fa1 fk1 f.Gen.Words,vi f.Kill.Width,vl fa3 fk3 f.Kill.Words,vl fa4 fk4 f.Copies]) fun p4=>Oq Va (KS ?_)
 refine Oq (Qar Qdm 0) ?_
 refine QaO (QcM f) fun rv5 hg6=>?_
 have hc7:=Qzn f fa1 fk1 fa3 fk3 fa4 fk4 pre pre rv5 hg6
 refine Oc [1,2,3] QyZ hc7 ?_
 rintro - -
 refine Oq Vm ?_
 refine Js 7 ?_ ?_
 ·intro h8
  refine Oq (Vfa Qdx 0) (Oq (Qoy Qbj 0) (Oq (Qai sh3 0) (Oq Vm (Oq Qcb (Oq Vpt (Oq Va (KS ?_)))))))
  have hq:=q4 hrr (f.Gen.Width == width) (by simp only [Qkv,h8,hg6,cs4]); subst hq
  exact Kr () rfl (.tmp rfl .nil) [] trivial
 intro h8
 refine Osk (Osk (Osk (Osk (Osk (Oq Vpf (Oq Va (KS ?_)))))))
 have hq:=q4 hrr false (by simp only [Qkv,h8,hg6,cs4]); subst hq
 exact Kr () rfl (.tmp rfl .nil) [] trivial
theorem QA1 (f:Qad) (fa1:Option Addr) (fk1:Nat) (fa3:Option Addr) (fk3:Nat) (fa4:Option Addr) (fk4:Nat) (cap0P:Value) (cap0:Qab) (cap0a1:Option Addr) (cap0k1:Nat) (cap0a2:Option Addr) (cap0k2:Nat) (cap0a3:Option Addr) (cap0k3:Nat) (Qsi:Qaa f.Gen.Width) (Qxt:Qaa f.Kill.Width) (QgH:Qaa cap0.Width) (rr:Bool) (hrr:QcY f cap0=rr):FT Tryz.prog 97 #[.agg #[vi f.Gen.Width,vl fa1 fk1 f.Gen.Words,vi f.Kill.Width,vl fa3 fk3 f.Kill.Words,vl fa4 fk4 f.Copies],cap0P] [S fa1 fk1 f.Gen.Words,S fa3 fk3 f.Kill.Words,S fa4 fk4 f.Copies,pv cap0P [vi cap0.Width,vl cap0a1 cap0k1 cap0.Deps,vl cap0a2 cap0k2 cap0.Transfers,vl cap0a3 cap0k3 cap0.Boundary],S cap0a1 cap0k1 cap0.Deps,S cap0a2 cap0k2 cap0.Transfers,S cap0a3 cap0k3 cap0.Boundary] (fun g:Unit=>True) (fun g=>vb rr) (fun g=>[]):=by
 refine FTi Tryz.func97 fun w0 M0 F0=>?_
 unfold Qaa at Qsi Qxt QgH
 refine Fb 8 0 fun _=>Fb 8 1 fun _=>Fb 16 2 fun _=>Fb 24 4 fun _=>Fb 88 5 fun _=>Fb 32 6 fun _=>KS ?_
 refine Oa (Ab [vi f.Gen.Width,vl fa1 fk1 f.Gen.Words,vi f.Kill.Width,vl fa3 fk3 f.Kill.Words,vl fa4 fk4 f.Copies]) fun p7=>Oq Va (KS ?_)
 refine Oq (Vfa Qb7 4) (Oq (Qai sh3 4) (Oq (Qar Qdm 0) ?_))
 refine QaO (Qkv cap0.Width f) fun rv8 hg9=>?_
 have hc10:=QAI cap0.Width f fa1 fk1 fa3 fk3 fa4 fk4 pre pre pre rv8 hg9
 refine Oc [1,2,3] QA4 hc10 ?_
 rintro - -
 refine Oq QcN (Oq Va (KS ?_))
 have hq:=q4 hrr (!rv8) (by simp only [QcY,hg9,cs4]); subst hq
 exact Kr () rfl (.tmp rfl .nil) [] trivial
theorem QxJ (s:Qab) (sa1:Option Addr) (sk1:Nat) (sa2:Option Addr) (sk2:Nat) (sa3:Option Addr) (sk3:Nat) (QcL:Qaa s.Width) (rr:Bool) (hrr:Qca s=rr):FT Tryz.prog 56 #[.agg #[vi s.Width,vl sa1 sk1 s.Deps,vl sa2 sk2 s.Transfers,vl sa3 sk3 s.Boundary]] [S sa1 sk1 s.Deps,S sa2 sk2 s.Transfers,S sa3 sk3 s.Boundary] (fun g:Unit=>True) (fun g=>vb rr) (fun g=>[]):=by
 refine FTi Tryz.func56 fun w0 M0 F0=>?_
 unfold Qaa at QcL
 refine Fb 24 0 fun _=>Fb 88 1 fun _=>Fb 32 2 fun _=>KS ?_
 refine Oa (Ab [vi s.Width,vl sa1 sk1 s.Deps,vl sa2 sk2 s.Transfers,vl sa3 sk3 s.Boundary]) fun p4=>Oq Va (KS ?_)
 refine Oq (Vfa Qbt 0) (Oq (Qai QfL 0) (Oq (Qbc QeN) (Oq Va (KS ?_))))
 refine Oq (Vfa Qb7 0) (Oq (Qai sh3 0) (Oq Vm ?_))
 refine QaO (Qg1 s.Width (s.Deps.length:Int)) fun rv5 hg6=>?_
 have hc7:=QAv s.Width ((s.Deps.length:Int)) pre pre rv5 hg6
 refine Oc [] QCw hc7 ?_
 rintro - -
 refine Oq QcN (Oq Vm ?_)
 refine Js 15 ?_ ?_
 ·intro h8
  have h10:=not_true h8
  refine Osk (Osk (Osk (Osk (Osk (Oq Vpt (Oq Vm (Osk (Osk (Osk ?_)))))))))
  refine Osk (Osk (Oq Vpt (KS ?_)))
  refine Kt (KS ?_)
  refine Oq Va (KS ?_)
  have hq:=q4 hrr false (by simp only [Qca,h8,h10,hg6,cs4]); subst hq
  exact Kr () rfl (.tmp rfl .nil) [] trivial
 intro h8
 have h13:=not_false h8
 refine Oq (Vfa Qco 0) (Oq (Qai QiS 0) (Oq (Qbc Qhi) (Oq Vm (Oq Qf4 (Oq Vpf (Oq Vm ?_))))))
 refine Js 22 ?_ ?_
 ·intro h15
  have g16:=Qax h15
  refine Osk (Osk (Osk (Osk (Osk (Oq Vpt (KS ?_))))))
  refine Kt (KS ?_)
  refine Oq Va (KS ?_)
  have hq:=q4 hrr false (by simp only [Qca,h8,h13,h15,hg6,cs4]); subst hq
  exact Kr () rfl (.tmp rfl .nil) [] trivial
 intro h15
 have g17:=Qae h15
 refine Oq (Vfa Qc8 0) (Oq (Qai Qjc 0) (Oq (Qbc Qd2) (Oq Vm (Oq Qf4 (Oq Vpf (KS ?_))))))
 refine Kc ?_ ?_
 ·intro h18
  have g19:=Qax h18
  refine KS ?_
  refine Oq Va (KS ?_)
  have hq:=q4 hrr false (by simp only [Qca,h8,h13,h15,h18,hg6,cs4]); subst hq
  exact Kr () rfl (.tmp rfl .nil) [] trivial
 intro h18
 have g20:=Qae h18
 refine KS ?_
 refine Oq Va (KS ?_)
 refine Oq (Vfa Qbt 0) (Oq (Qai QfL 0) (Oq (Qbc QeN) (Oq Vm (KS ?_))))
 refine Kl (γ:=Nat×Int×Int) (fun (r21,Qg2,Qhy)=>⟨[(1,p4),(3,vi (s.Deps.length:Int)),(4,vi Qg2),(30,vl sa1 sk1 s.Deps),(31,vi (s.Deps.length:Int)),(32,vi Qhy)],[pv p4 [vi s.Width,vl sa1 sk1 s.Deps,vl sa2 sk2 s.Transfers,vl sa3 sk3 s.Boundary],S sa1 sk1 s.Deps,S sa2 sk2 s.Transfers,S sa3 sk3 s.Boundary],QcK s r21 Qg2 Qhy=QcK s (((s.Deps.length:Int) - 0).toNat) 0 0/\r21=((s.Deps.length:Int) - Qhy).toNat/\(0:Int)<=Qhy/\Qhy<=(s.Deps.length:Int)/\(-9223372036854775808<=Qg2/\Qg2<=9223372036854775807)/\(-9223372036854775808<=Qhy/\Qhy<=9223372036854775807)/\0<=Qg2/\Qg2<=1024,r21⟩) (((s.Deps.length:Int) - 0).toNat,0,0) [0,1,2,3] ⟨rfl,rfl,aM1,aM1,aM1,aM1,iv0⟩ ?_
 rintro ⟨r21,Qg2,Qhy⟩ ⟨hM24,hr25,hi26,hi27,hk28,hk29,hv30⟩
 refine QaE fun _ _ hL hA=>?_; dsimp only at hL hA; subst hL hA
 refine Fb 24 1 fun _=>Fb 88 2 fun _=>Fb 32 3 fun _=>KS ?_
 refine Oq Qbo (KS ?_)
 refine Kc ?_ ?_
 ·intro h34
  have g35:=dt h34
  obtain ⟨r36,rfl⟩:=scc (n:=r21) aM1
  refine KS ?_
  refine Oq (Vi QeN 1) ?_
  refine Qef Qhy.toNat 1 rfl rng fun a37 k38=>?_
  refine Fb 8 1 fun _=>Fo 1 fun ho40=>?_
  refine Oq (Vld Qjs 0) (Oq Va (KS ?_))
  refine Oq Vm (Oq Vm (Oq (Qbc QcP) (Oq QaS (Oq Va (KS ?_)))))
  refine Oq Vm (Oq QgZ (Oq Vm ?_))
  refine Js 42 ?_ ?_
  ·intro h41
   have g42:=dt h41
   refine Osk (Osk (Osk (Osk (Oq Vpt (KS ?_)))))
   refine Kt (KS ?_)
   refine Oq Va (KS ?_)
   have hR43:=q2 hM24 (.ret false) (by simp only [QcK,h34,h41,cs4])
   have hq:=q4 hrr false (by simp only [Qca,h8,h13,h15,h18,h34,h41,hg6,hR43,cs4]); subst hq
   exact Kr () rfl (.tmp rfl .nil) [] trivial
  intro h41
  have g44:=df h41
  refine Oq Vm (Oq Vm ?_)
  refine QaO (Qdg (s.Deps.getD Qhy.toNat []) (s.Deps.length:Int)) fun rv45 hg46=>?_
  have hc47:=QBY ((s.Deps.getD Qhy.toNat [])) a37 k38 ((s.Deps.length:Int)) pre rv45 hg46
  refine Oc [1] QB3 hc47 ?_
  rintro - -
  refine Oq QcN (Oq Vpf (KS ?_))
  refine Kc ?_ ?_
  ·intro h48
   have h50:=not_true h48
   refine KS ?_
   refine Oq Va (KS ?_)
   have hR52:=q2 hM24 (.ret false) (by simp only [QcK,h34,h41,h48,h50,hg46,cs4])
   have hq:=q4 hrr false (by simp only [Qca,h8,h13,h15,h18,h34,h41,h48,h50,hg6,hg46,hR52,cs4]); subst hq
   exact Kr () rfl (.tmp rfl .nil) [] trivial
  intro h48
  have h54:=not_false h48
  refine KS ?_
  refine Oq QaS (Oq Vm (KS ?_))
  exact Kg (r36,(Qg2+((s.Deps.getD Qhy.toNat []).length:Int)),(Qhy+1)) [2,3,4,5] ⟨(q3 hM24 (by simp only [QcK,h34,h41,h48,h54,hg46,cs4])),aM1,aM1,aM1,aM1,aM1,iv1⟩
 intro h34
 have g56:=df h34
 obtain rfl:r21=0:=by omega
 refine Ke ?_
 have hR57:=q2 hM24 (.brk ()) (by simp only [QcK,h34,cs4])
 refine KS ?_
 refine Oq (Vfa Qb7 0) (Oq (Qai sh3 0) (Oq (Vfa Qc8 0) (Oq (Qai Qjc 0) ?_)))
 refine QaO (Qg5 s.Width s.Boundary) fun rv58 hg59=>?_
 have hc60:=QzY s.Width s.Boundary sa3 sk3 pre rv58 hg59
 refine Oc [3] QAi hc60 ?_
 rintro - -
 refine Oq Vm ?_
 refine Js 54 ?_ ?_
 ·intro h61
  refine Oq (Vfa Qco 0) (Oq (Qai QiS 0) (Oq (Vf [p4]) ?_))
  refine Qic (Ent.pall [0,1,2,3] rfl rfl) ?_
  refine QaO (QaK s.Transfers (fun x=>QcY x s)) fun rv63 hg64=>?_
  have hc65:=QBH s.Transfers sa2 sk2 97 [p4] (fun x=>QcY x s) [pv p4 [vi s.Width,vl sa1 sk1 s.Deps,vl sa2 sk2 s.Transfers,vl sa3 sk3 s.Boundary],S sa1 sk1 s.Deps,S sa2 sk2 s.Transfers,S sa3 sk3 s.Boundary] QB1 (fun x hx a1 k1 a3 k3 a4 k4 hq0 hq2=>Qgc (A1:=_) (QA1 x a1 k1 a3 k3 a4 k4 p4 s sa1 sk1 sa2 sk2 sa3 sk3 hq0 hq2 pre _ rfl)) rv63 hg64
  refine Oc [3,0] QBn hc65 ?_
  rintro - -
  refine Oq QcN (Oq Vpt (Oq Va (KS ?_)))
  have hq:=q4 hrr (!rv63) (by simp only [Qca,h8,h13,h15,h18,h34,h61,hg6,hR57,hg59,hg64,cs4]); subst hq
  exact Kr () rfl (.tmp rfl .nil) [] trivial
 intro h61
 refine Osk (Osk (Osk (Osk (Osk (Oq Vpf (Oq Va (KS ?_)))))))
 have hq:=q4 hrr false (by simp only [Qca,h8,h13,h15,h18,h34,h61,hg6,hR57,hg59,cs4]); subst hq
 exact Kr () rfl (.tmp rfl .nil) [] trivial
theorem QxH (s:Qab) (sa1:Option Addr) (sk1:Nat) (sa2:Option Addr) (sk2:Nat) (sa3:Option Addr) (sk3:Nat) (n:Int) (bit:Int) (QcL:Qaa s.Width) (Qf1:Qaa n) (QfG:Qaa bit) (rr:Int) (hrr:Qap s n bit=rr):FT Tryz.prog 42 #[.agg #[vi s.Width,vl sa1 sk1 s.Deps,vl sa2 sk2 s.Transfers,vl sa3 sk3 s.Boundary],vi n,vi bit] [S sa1 sk1 s.Deps,S sa2 sk2 s.Transfers,S sa3 sk3 s.Boundary] (fun g:Unit=>Qaa rr) (fun g=>vi rr) (fun g=>[]):=by
 refine FTi Tryz.func42 fun w0 M0 F0=>?_
 unfold Qaa at QcL Qf1 QfG
 refine Fb 24 0 fun _=>Fb 88 1 fun _=>Fb 32 2 fun _=>KS ?_
 refine Oa (Ab [vi s.Width,vl sa1 sk1 s.Deps,vl sa2 sk2 s.Transfers,vl sa3 sk3 s.Boundary]) fun p4=>Oq Va (KS ?_)
 refine Oq (Qar Qeh 0) ?_
 refine QaO (Qca s) fun rv5 hg6=>?_
 have hc7:=QxJ s sa1 sk1 sa2 sk2 sa3 sk3 pre rv5 hg6
 refine Oc [1,2,3] Qxz hc7 ?_
 rintro - -
 refine Oq QcN (Oq Va (KS ?_))
 refine Kc ?_ ?_
 ·intro h8
  have h10:=not_true h8
  refine KS ?_
  refine Oq Va (KS ?_)
  have hq:=q4 hrr 1 (by simp only [Qap,h8,h10,hg6,cs4]); subst hq
  exact Kr () rfl (.tmp rfl .nil) [] en
 intro h8
 have h13:=not_false h8
 refine KS ?_
 refine Oq Vm (Oq Qbo (Oq Vm ?_))
 refine Js 14 ?_ ?_
 ·intro h15
  have g16:=dt h15
  refine Osk (Osk (Osk (Osk (Osk (Oq Vpt (Oq Va (KS ?_)))))))
  refine Kt (KS ?_)
  refine Oq Va (KS ?_)
  have hq:=q4 hrr 9 (by simp only [Qap,h8,h13,h15,hg6,cs4]); subst hq
  exact Kr () rfl (.tmp rfl .nil) [] en
 intro h15
 have g17:=df h15
 refine Oq Vm (Oq (Vfa Qbt 0) (Oq (Qai QfL 0) (Oq (Qbc QeN) (Oq Qhv (Oq Vpf (Oq Va (KS ?_)))))))
 refine Kc ?_ ?_
 ·intro h18
  have g19:=dt h18
  refine KS ?_
  refine Oq Va (KS ?_)
  have hq:=q4 hrr 9 (by simp only [Qap,h8,h13,h15,h18,hg6,cs4]); subst hq
  exact Kr () rfl (.tmp rfl .nil) [] en
 intro h18
 have g20:=df h18
 refine KS ?_
 refine Oq Vm (Oq Qbo (Oq Vm ?_))
 refine Js 24 ?_ ?_
 ·intro h21
  have g22:=dt h21
  refine Osk (Osk (Osk (Osk (Oq Vpt (Oq Va (KS ?_))))))
  refine Kt (KS ?_)
  refine Oq Va (KS ?_)
  have hq:=q4 hrr 3 (by simp only [Qap,h8,h13,h15,h18,h21,hg6,cs4]); subst hq
  exact Kr () rfl (.tmp rfl .nil) [] en
 intro h21
 have g23:=df h21
 refine Oq Vm (Oq (Vfa Qb7 0) (Oq (Qai sh3 0) (Oq Qhv (Oq Vpf (Oq Va (KS ?_))))))
 refine Kc ?_ ?_
 ·intro h24
  have g25:=dt h24
  refine KS ?_
  refine Oq Va (KS ?_)
  have hq:=q4 hrr 3 (by simp only [Qap,h8,h13,h15,h18,h21,h24,hg6,cs4]); subst hq
  exact Kr () rfl (.tmp rfl .nil) [] en
 intro h24
 have g26:=df h24
 refine KS ?_
 refine Oq Va (KS ?_)
 have hq:=q4 hrr 0 (by simp only [Qap,h8,h13,h15,h18,h21,h24,hg6,cs4]); subst hq
 exact Kr () rfl (.tmp rfl .nil) [] en
theorem QAo (s:Qaf) (sa1:Option Addr) (sk1:Nat) (b:Int) (QcL:Qaa s.Width) (QgI:Qaa b) (rr:Bool) (hrr:Qdv s b=rr):FT Tryz.prog 80 #[.agg #[vi s.Width,vl sa1 sk1 s.Words],vi b] [S sa1 sk1 s.Words] (fun g:Unit=>True) (fun g=>vb rr) (fun g=>[]):=by
 refine FTi Tryz.func80 fun w0 M0 F0=>?_
 unfold Qaa at QcL QgI
 refine Fb 8 0 fun _=>KS ?_
 refine Oa (Ab [vi s.Width,vl sa1 sk1 s.Words]) fun p2=>Oq Va (KS ?_)
 refine Oq Vm (Oq Qhv (Oq Vm ?_))
 refine Js 7 ?_ ?_
 ·intro h3
  have g4:=dt h3
  refine Oq Vm (Oq (Vfa Qbj 0) (Oq (Qai sh3 0) (Oq Qbo (Oq Vpt (Oq Va (KS ?_))))))
  have hq:=q4 hrr (decide (b < s.Width)) (by simp only [Qdv,h3,cs4]); subst hq
  exact Kr () rfl (.tmp rfl .nil) [] trivial
 intro h3
 have g5:=df h3
 refine Osk (Osk (Osk (Osk (Oq Vpf (Oq Va (KS ?_))))))
 have hq:=q4 hrr false (by simp only [Qdv,h3,cs4]); subst hq
 exact Kr () rfl (.tmp rfl .nil) [] trivial
theorem Qu9 (s:Qaf) (sa1:Option Addr) (sk1:Nat) (b:Int) (QcL:Qaa s.Width) (QgI:Qaa b) (rr:Bool) (hrr:Qei s b=rr):FT Tryz.prog 47 #[.agg #[vi s.Width,vl sa1 sk1 s.Words],vi b] [S sa1 sk1 s.Words] (fun g:Unit=>True) (fun g=>vb rr) (fun g=>[]):=by
 refine FTi Tryz.func47 fun w0 M0 F0=>?_
 unfold Qaa at QcL QgI
 refine Fb 8 0 fun _=>KS ?_
 refine Oa (Ab [vi s.Width,vl sa1 sk1 s.Words]) fun p2=>Oq Va (KS ?_)
 refine Oq (Qar Qaw 0) ?_
 refine QaO (QaX s) fun rv3 hg4=>?_
 have hc5:=QrW s sa1 sk1 pre rv3 hg4
 refine Oc [1] Qrw hc5 ?_
 rintro - -
 refine Oq Vm ?_
 refine Js 7 ?_ ?_
 ·intro h6
  try have hrg:=Qt2 (s:=s) (by simp only [h6,hg4])
  try have hwi:=Qhp (s:=s) (b:=b) (by simp only [h6,hg4])
  refine Oq (Qar Qaw 0) (Oq Vm ?_)
  refine QaO (Qdv s b) fun rv8 hg9=>?_
  have hc10:=QAo s sa1 sk1 b pre pre rv8 hg9
  refine Oc [1] QzW hc10 ?_
  rintro - -
  refine Oq Vpt (Oq Vm ?_)
  refine Js 12 ?_ ?_
  ·intro h11
   try have hrg:=Qt2 (s:=s) (by simp only [h6,h11,hg4,hg9])
   try have hwi:=Qhp (s:=s) (b:=b) (by simp only [h6,h11,hg4,hg9])
   refine Oq (Vfa Qcv 0) (Oq (Qai Qi4 0) (Oq Vm (Oq Qq9 (Oq (Vi QgP 1) (Oq (Qp3 Qn0 1) (Oq Vm (Oq (VcU un3 Qrp) (Oq (QrH (b:=64#64) (by simp)) (Oq QuH ?_)))))))))
   refine Oq (Qtf (b:=1#64)) (Oq (Qtk (b:=1#64)) (Oq Vpt (Oq Va (KS ?_))))
   have hq:=q4 hrr ((((s.Words.getD ((b / 64):Int).toNat 0#64) >>> ((((BitVec.ofInt 64 b) % 64#64).toNat:Int)).toNat) &&& 1#64) == 1#64) (by simp only [Qei,h6,h11,hg4,hg9,cs4]); subst hq
   exact Kr () rfl (.tmp rfl .nil) [] trivial
  intro h11
  refine Osk (Osk (Osk (Osk (Osk (Osk (Osk (Osk (Osk (Osk ?_)))))))))
  refine Osk (Osk (Oq Vpf (Oq Va (KS ?_))))
  have hq:=q4 hrr false (by simp only [Qei,h6,h11,hg4,hg9,cs4]); subst hq
  exact Kr () rfl (.tmp rfl .nil) [] trivial
 intro h6
 refine Osk (Osk (Osk (Oq Vpf (Oq Vm (Osk (Osk (Osk (Osk (Osk ?_)))))))))
 refine Osk (Osk (Osk (Osk (Osk (Osk (Osk (Oq Vpf (Oq Va (KS ?_)))))))))
 have hq:=q4 hrr false (by simp only [Qei,h6,hg4,cs4]); subst hq
 exact Kr () rfl (.tmp rfl .nil) [] trivial
theorem QzE (s:List Int) (sa0:Option Addr) (sk0:Nat) (fF:FuncId) (fC:List Value) (fp:Int->Bool) (fA:List SP) (hfc:Qac Tryz.prog fF=true) (hfF:∀ x∈s,Qaa x->FT Tryz.prog fF ([(vi x:Value)]++fC).toArray ([]++[Qgg fA]) (fun _:Unit=>True) (fun _=>.bool (fp x)) (fun _=>[])) (rr:Int) (hrr:QcV s fp=rr):FT Tryz.prog 108 #[vl sa0 sk0 s,.func (.func fF) #[] fC.toArray] [S sa0 sk0 s,Qgg fA] (fun g:Unit=>Qaa rr) (fun g=>vi rr) (fun g=>[]):=by
 refine FTi Tryz.func108 fun w0 M0 F0=>Fb 8 0 fun _=>Fo 0 fun ho2=>?_
 refine KS ?_
 refine Oq Va (KS ?_)
 refine Oq Vm (Oq (Qbc QcP) (Oq Vm (KS ?_)))
 refine Kl (γ:=Nat×Int) (fun (r3,Qfp)=>⟨[(0,vl sa0 sk0 s),(1,.func (.func fF) #[] fC.toArray),(7,vi (s.length:Int)),(8,vi Qfp)],[S sa0 sk0 s,Qgg fA],Qa3 s fp r3 Qfp=Qa3 s fp (((s.length:Int) - 0).toNat) 0/\r3=((s.length:Int) - Qfp).toNat/\(0:Int)<=Qfp/\Qfp<=(s.length:Int)/\(-9223372036854775808<=Qfp/\Qfp<=9223372036854775807),r3⟩) (((s.length:Int) - 0).toNat,0) [0,1] ⟨rfl,rfl,aM1,aM1,aM1⟩ ?_
 rintro ⟨r3,Qfp⟩ ⟨hM5,hr6,hi7,hi8,hk9⟩
 refine QaE fun _ _ hL hA=>?_; dsimp only at hL hA; subst hL hA
 refine Fb 8 0 fun _=>Fo 0 fun ho11=>KS ?_
 refine Oq Qbo (KS ?_)
 refine Kc ?_ ?_
 ·intro h12
  have g13:=dt h12
  obtain ⟨r14,rfl⟩:=scc (n:=r3) aM1
  refine KS ?_
  refine Oq Vm (Oq Va (KS ?_))
  refine Oq Vm (Oq Vm (Oq Vm (Oq (Vi QcP 0) ?_)))
  have hb15:=ok1 (i:=Qfp.toNat) ho11 rng
  refine Oq (QjF sh3 0) ?_
  refine Qg7 [1] rfl rfl rfl (OpC.clo (asv:=[(vi (s.getD Qfp.toNat 0):Value)]++fC) rfl rfl hfc rfl (by simp)) (hfF (s.getD Qfp.toNat 0) (QaA rng)  pre) rfl fun _ _=>?_
  refine KS ?_
  refine Kc ?_ ?_
  ·intro h16
   refine KS ?_
   refine Oq Vm (Oq Va (KS ?_))
   have hR18:=q2 hM5 (.ret Qfp) (by simp only [Qa3,h12,h16,cs4])
   have hq:=q4 hrr Qfp (by simp only [QcV,h12,h16,hR18,cs4]); subst hq
   exact Kr () rfl (.tmp rfl .nil) [] en
  intro h16
  refine KS ?_
  refine Oq QaS (Oq Vm (KS ?_))
  exact Kg (r14,(Qfp+1)) [0,1] ⟨(q3 hM5 (by simp only [Qa3,h12,h16,cs4])),aM1,aM1,aM1,aM1⟩
 intro h12
 have g20:=df h12
 obtain rfl:r3=0:=by omega
 refine Ke ?_
 have hR21:=q2 hM5 (.brk ()) (by simp only [Qa3,h12,cs4])
 refine KS ?_
 refine Oq Va (KS ?_)
 have hq:=q4 hrr (-1) (by simp only [QcV,h12,hR21,cs4]); subst hq
 exact Kr () rfl (.tmp rfl .nil) [] en
theorem QAO (s:List Int) (sa0:Option Addr) (sk0:Nat) (fF:FuncId) (fC:List Value) (fp:Int->Bool) (fA:List SP) (hfc:Qac Tryz.prog fF=true) (hfF:∀ x∈s,Qaa x->FT Tryz.prog fF ([(vi x:Value)]++fC).toArray ([]++[Qgg fA]) (fun _:Unit=>True) (fun _=>.bool (fp x)) (fun _=>[])) (rr:Bool) (hrr:Qb5 s fp=rr):FT Tryz.prog 72 #[vl sa0 sk0 s,.func (.func fF) #[] fC.toArray] [S sa0 sk0 s,Qgg fA] (fun g:Unit=>True) (fun g=>vb rr) (fun g=>[]):=by
 refine FTi Tryz.func72 fun w0 M0 F0=>Fb 8 0 fun _=>Fo 0 fun ho2=>?_
 refine KS ?_
 refine Oq Va (KS ?_)
 refine Oq Vm (Oq Vm ?_)
 refine QaO (QcV s fp) fun rv3 hg4=>?_
 have hc5:=QzE s sa0 sk0 fF fC fp fA hfc hfF rv3 hg4
 refine Oc [0,1] QzA hc5 ?_
 rintro - he6
 unfold Qaa at he6
 refine Oq Qhv (Oq Va (KS ?_))
 have hq:=q4 hrr (decide (0<=rv3)) (by simp only [Qb5,hg4,cs4]); subst hq
 exact Kr () rfl (.tmp rfl .nil) [] trivial
theorem QCf (k:Int) (cap0P:Value) (cap0:Qab) (cap0a1:Option Addr) (cap0k1:Nat) (cap0a2:Option Addr) (cap0k2:Nat) (cap0a3:Option Addr) (cap0k3:Nat) (cap1P:Value) (cap1:Qag) (QzK:Qaa k) (QgH:Qaa cap0.Width) (Qvk:Qaa cap1.Node) (Qvl:Qaa cap1.Bit) (hv0:QcT cap0) (hk0:0<=k/\k < (cap0.Deps.length:Int)) (rr:Bool) (hrr:QeB k cap0 cap1=rr):FT Tryz.prog 73 #[vi k,cap0P,cap1P] [pv cap0P [vi cap0.Width,vl cap0a1 cap0k1 cap0.Deps,vl cap0a2 cap0k2 cap0.Transfers,vl cap0a3 cap0k3 cap0.Boundary],S cap0a1 cap0k1 cap0.Deps,S cap0a2 cap0k2 cap0.Transfers,S cap0a3 cap0k3 cap0.Boundary,pv cap1P [vi cap1.Node,vi cap1.Bit]] (fun g:Unit=>True) (fun g=>vb rr) (fun g=>[]):=by
 refine FTi Tryz.func73 fun w0 M0 F0=>?_
 unfold Qaa at QzK QgH Qvk Qvl
 refine Fb 24 1 fun _=>Fb 88 2 fun _=>Fb 32 3 fun _=>?_
 have hv2:=hv0.tl
 have hv3:=hv0.bl
 refine KS ?_
 refine Oq Va (KS ?_)
 refine Qa0 k.toNat 2 rfl rng fun a4 k5 a6 k7 a8 k9 hb10 hb11=>?_
 unfold Qaa at hb10 hb11
 refine Fb 8 1 fun _=>Fb 8 2 fun _=>Fb 16 3 fun _=>?_
 refine Qam [0,1,0,7,15,31,0,64,255,511] QcF ?_
 refine Dv [4] (Vfa Qco 0) (Dv [4] (Qai QiS 0) (Dv [] Vm (Dv [6] (Vi Qhi 0) (Dv [0] (Vfa Qdx 0) (Dv [0] (Qml Qaw 0 [vi (((cap0.Transfers.getD k.toNat default).Gen).Width),vl a4 k5 (((cap0.Transfers.getD k.toNat default).Gen).Words)]) (Dv [8] (Vfa Qe8 0) (Dv [8] (Qai sh3 0) ?_)))))))
 refine QaO (Qei ((cap0.Transfers.getD k.toNat default).Gen) cap1.Bit) fun rv15 hg16=>?_
 refine Dx [1] [] [1,0] (fun G=>vb rv15) [fun G=>SP.fact (True)] (fun G=>xC [0] QuD (Qu9 (((cap0.Transfers.getD k.toNat default).Gen)) a4 k5 cap1.Bit pre pre rv15 hg16)) (Dv [] Va ?_)
 refine Dn ⟨by kernel_rfl,fun G=>?_⟩
 refine Jw2 [(4,vb rv15)] [0,1,2,3,4,5,6,7,8] [SP.fact (True)] ?_
 refine Jk [0,1,2,3,4,5,6,7,8] ?_
 have hq:=q4 hrr rv15 (by simp only [QeB,hg16,cs4]); subst hq
 exact Kr () rfl (.tmp rfl .nil) [] trivial
theorem QAn (s:Qab) (sa1:Option Addr) (sk1:Nat) (sa2:Option Addr) (sk2:Nat) (sa3:Option Addr) (sk3:Nat) (h:Qag) (QcL:Qaa s.Width) (Qvm:Qaa h.Node) (Qvn:Qaa h.Bit) (hv0:QcT s) (hn0:0<=h.Node/\h.Node < (s.Deps.length:Int)) (rr:Bool) (hrr:QaP s h=rr):FT Tryz.prog 43 #[.agg #[vi s.Width,vl sa1 sk1 s.Deps,vl sa2 sk2 s.Transfers,vl sa3 sk3 s.Boundary],.agg #[vi h.Node,vi h.Bit]] [S sa1 sk1 s.Deps,S sa2 sk2 s.Transfers,S sa3 sk3 s.Boundary] (fun g:Unit=>True) (fun g=>vb rr) (fun g=>[]):=by
 refine FTi Tryz.func43 fun w0 M0 F0=>?_
 unfold Qaa at QcL Qvm Qvn
 refine Fb 24 0 fun _=>Fb 88 1 fun _=>Fb 32 2 fun _=>?_
 have hv2:=hv0.tl
 have hv3:=hv0.bl
 refine KS ?_
 refine Oa (Ab [vi s.Width,vl sa1 sk1 s.Deps,vl sa2 sk2 s.Transfers,vl sa3 sk3 s.Boundary]) fun p4=>Oa (Ab [vi h.Node,vi h.Bit]) fun p5=>Oq Va (KS ?_)
 refine Qbf h.Node.toNat 4 rfl rng fun a6 k7 hb8=>?_
 unfold Qaa at hb8
 refine Fb 8 1 fun _=>?_
 refine QaO (Qei (s.Boundary.getD h.Node.toNat default) h.Bit) fun rv10 hg11=>?_
 refine Qa5 rv10 ?_ ?_
 ·intro h12
  refine Qam [0,1,0,4,15,31,0,64,255,511,1023,2047,1023,5119,16383,32767,1023,131071,262143,524287] QcF ?_
  refine Dv [3] (Vfa Qc8 0) (Dv [3] (Qai Qjc 0) (Dv [2] (Vfa Qdl 0) (Dv [2] (Qai sh3 0) (Dv [6] (Vi Qd2 0) (Dv [0] (Qar Qaw 0) (Dv [2] (Vfa Qe8 0) (Dv [2] (Qai sh3 0) ?_)))))))
  refine Dx [1] [] [1,0] (fun G=>vb true) [fun G=>SP.fact (True)] (fun G=>xC [0] QuD (Qu9 ((s.Boundary.getD h.Node.toNat default)) a6 k7 h.Bit pre pre rv10 hg11)) ?_ (hV:=fun _ _=>congrArg Value.bool h12)
  refine Dv [] Vm (Ds (Ds (Ds (Ds (Ds (Ds (Ds (Ds (Dv [] Vpt ?_)))))))))
  refine Dv [] Va ?_
  refine Dn ⟨by kernel_rfl,fun G=>?_⟩
  refine Jw2 [(4,vb true)] [0,1,2,3,4,5,6] [SP.fact (True)] ?_
  refine Jk [0,1,2,3,4,5,6] ?_
  have hq:=q4 hrr true (by simp only [QaP,h12,hg11,cs4]); subst hq
  exact Kr () rfl (.tmp rfl .nil) [] trivial
 intro h12
 refine Qef h.Node.toNat 4 rfl rng fun a15 k16=>?_
 refine Fb 8 1 fun _=>Fo 1 fun ho18=>?_
 refine Qam [0,1,0,4,15,31,0,64,255,511,1023,2047,1023,5119,16383,32767,1023,131071,262143,524287] QcF ?_
 refine Dv [5] (Vfa Qc8 0) (Dv [5] (Qai Qjc 0) (Dv [4] (Vfa Qdl 0) (Dv [4] (Qai sh3 0) (Dv [8] (Vi Qd2 0) (Dv [2] (Qar Qaw 0) (Dv [4] (Vfa Qe8 0) (Dv [4] (Qai sh3 0) ?_)))))))
 refine Dx [3] [] [1,0] (fun G=>vb false) [fun G=>SP.fact (True)] (fun G=>xC [0] QuD (Qu9 ((s.Boundary.getD h.Node.toNat default)) a6 k7 h.Bit pre pre rv10 hg11)) ?_ (hV:=fun _ _=>congrArg Value.bool h12)
 refine Dv [] Vm (Dv [5] (Vfa Qbt 0) (Dv [5] (Qai QfL 0) (Dv [4] (Vfa Qdl 0) (Dv [4] (Qai sh3 0) (Dv [6] (Vi QeN 0) (Dv [0] (Vld Qjs 0) (Dv [] (Vf [p4,p5]) ?_)))))))
 refine QaO (Qb5 (s.Deps.getD h.Node.toNat []) (fun x=>QeB x s h)) fun rv19 hg20=>?_
 refine Dx [1,4,5,6,7,8] [] [2,3,4,5,6,7,1,0] (fun G=>vb rv19) [fun G=>Qgg [pv p4 [vi s.Width,vl sa1 sk1 s.Deps,vl sa2 sk2 s.Transfers,vl sa3 sk3 s.Boundary],S sa1 sk1 s.Deps,S sa2 sk2 s.Transfers,S sa3 sk3 s.Boundary,pv p5 [vi h.Node,vi h.Bit]],fun G=>SP.fact (True)] (fun G=>xp [2,3,4,5,1] rfl (Ent.pallT rfl) (xC [1,0] QCk (QAO ((s.Deps.getD h.Node.toNat [])) a15 k16 73 [p4,p5] (fun x=>QeB x s h) [pv p4 [vi s.Width,vl sa1 sk1 s.Deps,vl sa2 sk2 s.Transfers,vl sa3 sk3 s.Boundary],S sa1 sk1 s.Deps,S sa2 sk2 s.Transfers,S sa3 sk3 s.Boundary,pv p5 [vi h.Node,vi h.Bit]] QCx (fun x hx hq0=>Qgc (A1:=_) (QCf x  p4 s sa1 sk1 sa2 sk2 sa3 sk3 p5 h hq0 pre pre pre hv0 (hv0.dep_mem hn0.1 hn0.2 _ hx) _ rfl)) rv19 hg20))) (Dv [] Vpf (Dv [] Va ?_))
 refine Dn ⟨by kernel_rfl,fun G=>?_⟩
 refine Jw2 [(4,vb rv19)] [0,1,2,3,4,5,6,7,8] [SP.fact (True),Qgg [pv p4 [vi s.Width,vl sa1 sk1 s.Deps,vl sa2 sk2 s.Transfers,vl sa3 sk3 s.Boundary],S sa1 sk1 s.Deps,S sa2 sk2 s.Transfers,S sa3 sk3 s.Boundary,pv p5 [vi h.Node,vi h.Bit]],SP.fact (True)] ?_
 refine Jk [0,1,2,3,4,5,6,7,8,10] ?_
 have hq:=q4 hrr rv19 (by simp only [QaP,h12,hg11,hg20,cs4]); subst hq
 exact Kr () rfl (.tmp rfl .nil) [] trivial
theorem QBZ (s:List Int) (sa0:Option Addr) (sk0:Nat) (v:Int) (QqD:Qaa v) (rr:Int) (hrr:QeM s v=rr):FT Tryz.prog 74 #[vl sa0 sk0 s,vi v] [S sa0 sk0 s] (fun g:Unit=>Qaa rr) (fun g=>vi rr) (fun g=>[]):=by
 refine FTi Tryz.func74 fun w0 M0 F0=>?_
 unfold Qaa at QqD
 refine Fb 8 0 fun _=>Fo 0 fun ho2=>KS ?_
 refine Oq Va (KS ?_)
 refine Oq Vm (Oq (Qbc QcP) (Oq Vm (KS ?_)))
 refine Kl (γ:=Nat×Int) (fun (r3,Qfp)=>⟨[(0,vl sa0 sk0 s),(1,vi v),(7,vi (s.length:Int)),(8,vi Qfp)],[S sa0 sk0 s],Qcj s v r3 Qfp=Qcj s v (((s.length:Int) - 0).toNat) 0/\r3=((s.length:Int) - Qfp).toNat/\(0:Int)<=Qfp/\Qfp<=(s.length:Int)/\(-9223372036854775808<=Qfp/\Qfp<=9223372036854775807),r3⟩) (((s.length:Int) - 0).toNat,0) [0] ⟨rfl,rfl,aM1,aM1,aM1⟩ ?_
 rintro ⟨r3,Qfp⟩ ⟨hM5,hr6,hi7,hi8,hk9⟩
 refine QaE fun _ _ hL hA=>?_; dsimp only at hL hA; subst hL hA
 refine Fb 8 0 fun _=>Fo 0 fun ho11=>KS ?_
 refine Oq Qbo (KS ?_)
 refine Kc ?_ ?_
 ·intro h12
  have g13:=dt h12
  obtain ⟨r14,rfl⟩:=scc (n:=r3) aM1
  refine KS ?_
  refine Oq Vm (Oq Va (KS ?_))
  refine Oq Vm (Oq Vm (Oq Vm (Oq (Vi QcP 0) ?_)))
  have hb15:=ok1 (i:=Qfp.toNat) ho11 rng
  refine Oq (QjF sh3 0) (Oq Qcb (KS ?_))
  refine Kc ?_ ?_
  ·intro h16
   have g17:=eq_of_beq h16
   refine KS ?_
   refine Oq Vm (Oq Va (KS ?_))
   have hR18:=q2 hM5 (.ret Qfp) (by simp only [Qcj,h12,h16,cs4])
   have hq:=q4 hrr Qfp (by simp only [QeM,h12,h16,hR18,cs4]); subst hq
   exact Kr () rfl (.tmp rfl .nil) [] en
  intro h16
  have g19:=ne_of_beq_false h16
  refine KS ?_
  refine Oq QaS (Oq Vm (KS ?_))
  exact Kg (r14,(Qfp+1)) [0] ⟨(q3 hM5 (by simp only [Qcj,h12,h16,cs4])),aM1,aM1,aM1,aM1⟩
 intro h12
 have g20:=df h12
 obtain rfl:r3=0:=by omega
 refine Ke ?_
 have hR21:=q2 hM5 (.brk ()) (by simp only [Qcj,h12,cs4])
 refine KS ?_
 refine Oq Va (KS ?_)
 have hq:=q4 hrr (-1) (by simp only [QeM,h12,hR21,cs4]); subst hq
 exact Kr () rfl (.tmp rfl .nil) [] en
theorem QxF (s:List Int) (sa0:Option Addr) (sk0:Nat) (v:Int) (QqD:Qaa v) (rr:Bool) (hrr:Qa8 s v=rr):FT Tryz.prog 44 #[vl sa0 sk0 s,vi v] [S sa0 sk0 s] (fun g:Unit=>True) (fun g=>vb rr) (fun g=>[]):=by
 refine FTi Tryz.func44 fun w0 M0 F0=>?_
 unfold Qaa at QqD
 refine Fb 8 0 fun _=>Fo 0 fun ho2=>KS ?_
 refine Oq Va (KS ?_)
 refine Oq Vm (Oq Vm ?_)
 refine QaO (QeM s v) fun rv3 hg4=>?_
 have hc5:=QBZ s sa0 sk0 v pre rv3 hg4
 refine Oc [0] QB9 hc5 ?_
 rintro - he6
 unfold Qaa at he6
 refine Oq Qhv (Oq Va (KS ?_))
 have hq:=q4 hrr (decide (0<=rv3)) (by simp only [Qa8,hg4,cs4]); subst hq
 exact Kr () rfl (.tmp rfl .nil) [] trivial
theorem Qy8 (s:List QaB) (sa0:Option Addr) (sk0:Nat) (fF:FuncId) (fC:List Value) (fp:QaB->Bool) (fA:List SP) (hfc:Qac Tryz.prog fF=true) (hfF:∀ x∈s,Qaa x.From->Qaa x.To->FT Tryz.prog fF ([(.agg #[vi x.From,vi x.To]:Value)]++fC).toArray ([]++[Qgg fA]) (fun _:Unit=>True) (fun _=>.bool (fp x)) (fun _=>[])) (rr:Int) (hrr:Qdu s fp=rr):FT Tryz.prog 175 #[vl sa0 sk0 s,.func (.func fF) #[] fC.toArray] [S sa0 sk0 s,Qgg fA] (fun g:Unit=>Qaa rr) (fun g=>vi rr) (fun g=>[]):=by
 refine FTi Tryz.func175 fun w0 M0 F0=>Fb 16 0 fun _=>?_
 refine KS ?_
 refine Oq Va (KS ?_)
 refine Oq Vm (Oq (Qbc Qhq) (Oq Vm (KS ?_)))
 refine Kl (γ:=Nat×Int) (fun (r2,Qel)=>⟨[(0,vl sa0 sk0 s),(1,.func (.func fF) #[] fC.toArray),(7,vi (s.length:Int)),(8,vi Qel)],[S sa0 sk0 s,Qgg fA],QbB s fp r2 Qel=QbB s fp (((s.length:Int) - 0).toNat) 0/\r2=((s.length:Int) - Qel).toNat/\(0:Int)<=Qel/\Qel<=(s.length:Int)/\(-9223372036854775808<=Qel/\Qel<=9223372036854775807),r2⟩) (((s.length:Int) - 0).toNat,0) [0,1] ⟨rfl,rfl,aM1,aM1,aM1⟩ ?_
 rintro ⟨r2,Qel⟩ ⟨hM4,hr5,hi6,hi7,hk8⟩
 refine QaE fun _ _ hL hA=>?_; dsimp only at hL hA; subst hL hA
 refine Fb 16 0 fun _=>KS ?_
 refine Oq Qbo (KS ?_)
 refine Kc ?_ ?_
 ·intro h10
  have g11:=dt h10
  obtain ⟨r12,rfl⟩:=scc (n:=r2) aM1
  refine KS ?_
  refine Oq Vm (Oq Va (KS ?_))
  refine Oq Vm (Oq Vm (Oq Vm (Oq (Vi Qhq 0) ?_)))
  refine Qcz Qel.toNat 0 rfl rng fun hb13 hb14=>?_
  unfold Qaa at hb13 hb14
  refine Oq (Qar QiC 0) ?_
  refine Qg7 [2] rfl rfl rfl (OpC.clo (asv:=[(.agg #[vi ((s.getD Qel.toNat default).From),vi ((s.getD Qel.toNat default).To)]:Value)]++fC) rfl rfl hfc rfl (by simp)) (hfF (s.getD Qel.toNat default) (QaA rng)  pre pre) rfl fun _ _=>?_
  refine KS ?_
  refine Kc ?_ ?_
  ·intro h15
   refine KS ?_
   refine Oq Vm (Oq Va (KS ?_))
   have hR17:=q2 hM4 (.ret Qel) (by simp only [QbB,h10,h15,cs4])
   have hq:=q4 hrr Qel (by simp only [Qdu,h10,h15,hR17,cs4]); subst hq
   exact Kr () rfl (.tmp rfl .nil) [] en
  intro h15
  refine KS ?_
  refine Oq QaS (Oq Vm (KS ?_))
  exact Kg (r12,(Qel+1)) [1,2] ⟨(q3 hM4 (by simp only [QbB,h10,h15,cs4])),aM1,aM1,aM1,aM1⟩
 intro h10
 have g19:=df h10
 obtain rfl:r2=0:=by omega
 refine Ke ?_
 have hR20:=q2 hM4 (.brk ()) (by simp only [QbB,h10,cs4])
 refine KS ?_
 refine Oq Va (KS ?_)
 have hq:=q4 hrr (-1) (by simp only [Qdu,h10,hR20,cs4]); subst hq
 exact Kr () rfl (.tmp rfl .nil) [] en
theorem QxS (s:List QaB) (sa0:Option Addr) (sk0:Nat) (fF:FuncId) (fC:List Value) (fp:QaB->Bool) (fA:List SP) (hfc:Qac Tryz.prog fF=true) (hfF:∀ x∈s,Qaa x.From->Qaa x.To->FT Tryz.prog fF ([(.agg #[vi x.From,vi x.To]:Value)]++fC).toArray ([]++[Qgg fA]) (fun _:Unit=>True) (fun _=>.bool (fp x)) (fun _=>[])) (rr:Bool) (hrr:Qdo s fp=rr):FT Tryz.prog 148 #[vl sa0 sk0 s,.func (.func fF) #[] fC.toArray] [S sa0 sk0 s,Qgg fA] (fun g:Unit=>True) (fun g=>vb rr) (fun g=>[]):=by
 refine FTi Tryz.func148 fun w0 M0 F0=>Fb 16 0 fun _=>?_
 refine KS ?_
 refine Oq Va (KS ?_)
 refine Oq Vm (Oq Vm ?_)
 refine QaO (Qdu s fp) fun rv2 hg3=>?_
 have hc4:=Qy8 s sa0 sk0 fF fC fp fA hfc hfF rv2 hg3
 refine Oc [0,1] Qzt hc4 ?_
 rintro - he5
 unfold Qaa at he5
 refine Oq Qhv (Oq Va (KS ?_))
 have hq:=q4 hrr (decide (0<=rv2)) (by simp only [Qdo,hg3,cs4]); subst hq
 exact Kr () rfl (.tmp rfl .nil) [] trivial
theorem Qx5 (x:QaB) (cap0P:Value) (cap0:QaB) (Qvh:Qaa x.From) (QCD:Qaa x.To) (QgH:Qaa cap0.From) (Qvo:Qaa cap0.To) (rr:Bool) (hrr:Qgh x cap0=rr):FT Tryz.prog 149 #[.agg #[vi x.From,vi x.To],cap0P] [pv cap0P [vi cap0.From,vi cap0.To]] (fun g:Unit=>True) (fun g=>vb rr) (fun g=>[]):=by
 refine FTi Tryz.func149 fun w0 M0 F0=>?_
 unfold Qaa at Qvh QCD QgH Qvo
 refine KS ?_
 refine Oa (Ab [vi x.From,vi x.To]) fun p1=>Oq Va (KS ?_)
 refine Oq (Qar QiC 0) (Oq (Qar QiC 1) (Oq (QyF QtH (l:=[x.From,x.To]) (m:=[cap0.From,cap0.To])) (Oq Va (KS ?_))))
 have hq:=q4 hrr ([x.From,x.To] == [cap0.From,cap0.To]) (by simp only [Qgh,cs4]); subst hq
 exact Kr () rfl (.tmp rfl .nil) [] trivial
theorem Qw2 (t:Qad) (ta1:Option Addr) (tk1:Nat) (ta3:Option Addr) (tk3:Nat) (ta4:Option Addr) (tk4:Nat) (c:QaB) (QkH:Qaa t.Gen.Width) (QkI:Qaa t.Kill.Width) (QzL:Qaa c.From) (QCE:Qaa c.To) (rr:Bool) (hrr:Qhl t c=rr):FT Tryz.prog 110 #[.agg #[vi t.Gen.Width,vl ta1 tk1 t.Gen.Words,vi t.Kill.Width,vl ta3 tk3 t.Kill.Words,vl ta4 tk4 t.Copies],.agg #[vi c.From,vi c.To]] [S ta1 tk1 t.Gen.Words,S ta3 tk3 t.Kill.Words,S ta4 tk4 t.Copies] (fun g:Unit=>True) (fun g=>vb rr) (fun g=>[]):=by
 refine FTi Tryz.func110 fun w0 M0 F0=>?_
 unfold Qaa at QkH QkI QzL QCE
 refine Fb 8 0 fun _=>Fb 8 1 fun _=>Fb 16 2 fun _=>KS ?_
 refine Oa (Ab [vi t.Gen.Width,vl ta1 tk1 t.Gen.Words,vi t.Kill.Width,vl ta3 tk3 t.Kill.Words,vl ta4 tk4 t.Copies]) fun p4=>Oa (Ab [vi c.From,vi c.To]) fun p5=>Oq Va (KS ?_)
 refine Oq (Vfa Qcw 1) (Oq (Qai Qi5 1) (Oq (Vf [p5]) ?_))
 refine Qic (Ent.pall [0] rfl rfl) ?_
 refine QaO (Qdo t.Copies (fun x=>Qgh x c)) fun rv6 hg7=>?_
 have hc8:=QxS t.Copies ta4 tk4 149 [p5] (fun x=>Qgh x c) [pv p5 [vi c.From,vi c.To]] Qzd (fun x hx hq0 hq1=>Qgc (A1:=_) (Qx5 x  p5 c hq0 hq1 pre pre _ rfl)) rv6 hg7
 refine Oc [5,0] QxL hc8 ?_
 rintro - -
 refine Oq Va (KS ?_)
 have hq:=q4 hrr rv6 (by simp only [Qhl,hg7,cs4]); subst hq
 exact Kr () rfl (.tmp rfl .nil) [] trivial
theorem QBx (t:Qad) (ta1:Option Addr) (tk1:Nat) (ta3:Option Addr) (tk3:Nat) (ta4:Option Addr) (tk4:Nat) (from_:Int) (to_:Int) (QkH:Qaa t.Gen.Width) (QkI:Qaa t.Kill.Width) (hfrom__0:Qaa from_) (hto__0:Qaa to_) (rr:Bool) (hrr:Qf5 t from_ to_=rr):FT Tryz.prog 77 #[.agg #[vi t.Gen.Width,vl ta1 tk1 t.Gen.Words,vi t.Kill.Width,vl ta3 tk3 t.Kill.Words,vl ta4 tk4 t.Copies],vi from_,vi to_] [S ta1 tk1 t.Gen.Words,S ta3 tk3 t.Kill.Words,S ta4 tk4 t.Copies] (fun g:Unit=>True) (fun g=>vb rr) (fun g=>[]):=by
 refine FTi Tryz.func77 fun w0 M0 F0=>?_
 unfold Qaa at QkH QkI hfrom__0 hto__0
 refine Fb 8 0 fun _=>Fb 8 1 fun _=>Fb 16 2 fun _=>KS ?_
 refine Oa (Ab [vi t.Gen.Width,vl ta1 tk1 t.Gen.Words,vi t.Kill.Width,vl ta3 tk3 t.Kill.Words,vl ta4 tk4 t.Copies]) fun p4=>Oq Va (KS ?_)
 refine Oq Vm (Oq Vm (Oq Qcb (Oq Vm ?_)))
 refine Js 10 ?_ ?_
 ·intro h5
  have g6:=eq_of_beq h5
  refine Oq (Vfa QfD 0) (Oq (Qml Qaw 0 [vi t.Kill.Width,vl ta3 tk3 t.Kill.Words]) (Oq Vm ?_))
  refine QaO (Qei t.Kill to_) fun rv7 hg8=>?_
  have hc9:=Qu9 t.Kill ta3 tk3 to_ pre pre rv7 hg8
  refine Oc [2] QuD hc9 ?_
  rintro - -
  refine Oq QcN (Oq Vpt (Oq Vm ?_))
  refine Js 17 ?_ ?_
  ·intro h10
   have h12:=not_true h10
   refine Osk (Osk (Osk (Osk (Osk (Oq Vpt (Oq Va (KS ?_)))))))
   have hq:=q4 hrr true (by simp only [Qf5,h5,h10,h12,hg8,cs4]); subst hq
   exact Kr () rfl (.tmp rfl .nil) [] trivial
  intro h10
  have h15:=not_false h10
  refine Oq (Qar Qdm 0) (Oq Vm (Oq Vm (Oq (Vbd Qpj [vi from_,vi to_]) ?_)))
  refine QaO (Qhl t (QaB.mk from_ to_)) fun rv17 hg18=>?_
  have hc19:=Qw2 t ta1 tk1 ta3 tk3 ta4 tk4 ((QaB.mk from_ to_)) pre pre pre pre rv17 hg18
  refine Oc [1,2,3] Qwj hc19 ?_
  rintro - -
  refine Oq Vpf (Oq Va (KS ?_))
  have hq:=q4 hrr rv17 (by simp only [Qf5,h5,h10,h15,hg8,hg18,cs4]); subst hq
  exact Kr () rfl (.tmp rfl .nil) [] trivial
 intro h5
 have g20:=ne_of_beq_false h5
 refine Osk (Osk (Osk (Osk (Osk (Oq Vpf (Oq Vm (Oq (Qar Qdm 0) (Oq Vm (Oq Vm ?_)))))))))
 refine Oq (Vbd Qpj [vi from_,vi to_]) ?_
 refine QaO (Qhl t (QaB.mk from_ to_)) fun rv21 hg22=>?_
 have hc23:=Qw2 t ta1 tk1 ta3 tk3 ta4 tk4 ((QaB.mk from_ to_)) pre pre pre pre rv21 hg22
 refine Oc [1,2,3] Qwj hc23 ?_
 rintro - -
 refine Oq Vpf (Oq Va (KS ?_))
 have hq:=q4 hrr rv21 (by simp only [Qf5,h5,hg22,cs4]); subst hq
 exact Kr () rfl (.tmp rfl .nil) [] trivial
theorem QAd (t:Qad) (ta1:Option Addr) (tk1:Nat) (ta3:Option Addr) (tk3:Nat) (ta4:Option Addr) (tk4:Nat) (from_:Int) (to_:Int) (QkH:Qaa t.Gen.Width) (QkI:Qaa t.Kill.Width) (hfrom__0:Qaa from_) (hto__0:Qaa to_) (rr:Bool) (hrr:Qee t from_ to_=rr):FT Tryz.prog 45 #[.agg #[vi t.Gen.Width,vl ta1 tk1 t.Gen.Words,vi t.Kill.Width,vl ta3 tk3 t.Kill.Words,vl ta4 tk4 t.Copies],vi from_,vi to_] [S ta1 tk1 t.Gen.Words,S ta3 tk3 t.Kill.Words,S ta4 tk4 t.Copies] (fun g:Unit=>True) (fun g=>vb rr) (fun g=>[]):=by
 refine FTi Tryz.func45 fun w0 M0 F0=>?_
 unfold Qaa at QkH QkI hfrom__0 hto__0
 refine Fb 8 0 fun _=>Fb 8 1 fun _=>Fb 16 2 fun _=>KS ?_
 refine Oa (Ab [vi t.Gen.Width,vl ta1 tk1 t.Gen.Words,vi t.Kill.Width,vl ta3 tk3 t.Kill.Words,vl ta4 tk4 t.Copies]) fun p4=>Oq Va (KS ?_)
 refine Oq (Qar Qdm 0) ?_
 refine QaO (QcM t) fun rv5 hg6=>?_
 have hc7:=Qzn t ta1 tk1 ta3 tk3 ta4 tk4 pre pre rv5 hg6
 refine Oc [1,2,3] QyZ hc7 ?_
 rintro - -
 refine Oq Vm ?_
 refine Js 9 ?_ ?_
 ·intro h8
  refine Oq (Qar Qdm 0) (Oq Vm ?_)
  refine QaO (Qie t from_) fun rv10 hg11=>?_
  have hc12:=Qti t ta1 tk1 ta3 tk3 ta4 tk4 from_ pre pre pre rv10 hg11
  refine Oc [1,2,3] Qtq hc12 ?_
  rintro - -
  refine Oq Vpt (Oq Vm ?_)
  refine Js 14 ?_ ?_
  ·intro h13
   refine Oq (Qar Qdm 0) (Oq Vm ?_)
   refine QaO (Qie t to_) fun rv15 hg16=>?_
   have hc17:=Qti t ta1 tk1 ta3 tk3 ta4 tk4 to_ pre pre pre rv15 hg16
   refine Oc [1,2,3] Qtq hc17 ?_
   rintro - -
   refine Oq Vpt (Oq Vm ?_)
   refine Js 19 ?_ ?_
   ·intro h18
    refine Oq (Qar Qdm 0) (Oq Vm (Oq Vm ?_))
    refine QaO (Qf5 t from_ to_) fun rv20 hg21=>?_
    have hc22:=QBx t ta1 tk1 ta3 tk3 ta4 tk4 from_ to_ pre pre pre pre rv20 hg21
    refine Oc [1,2,3] QCe hc22 ?_
    rintro - -
    refine Oq Vpt (Oq Va (KS ?_))
    have hq:=q4 hrr rv20 (by simp only [Qee,h8,h13,h18,hg6,hg11,hg16,hg21,cs4]); subst hq
    exact Kr () rfl (.tmp rfl .nil) [] trivial
   intro h18
   refine Osk (Osk (Osk (Osk (Oq Vpf (Oq Va (KS ?_))))))
   have hq:=q4 hrr false (by simp only [Qee,h8,h13,h18,hg6,hg11,hg16,cs4]); subst hq
   exact Kr () rfl (.tmp rfl .nil) [] trivial
  intro h13
  refine Osk (Osk (Osk (Oq Vpf (Oq Vm (Osk (Osk (Osk (Osk (Oq Vpf ?_)))))))))
  refine Oq Va (KS ?_)
  have hq:=q4 hrr false (by simp only [Qee,h8,h13,hg6,hg11,cs4]); subst hq
  exact Kr () rfl (.tmp rfl .nil) [] trivial
 intro h8
 refine Osk (Osk (Osk (Oq Vpf (Oq Vm (Osk (Osk (Osk (Oq Vpf (Oq Vm ?_)))))))))
 refine Osk (Osk (Osk (Osk (Oq Vpf (Oq Va (KS ?_))))))
 have hq:=q4 hrr false (by simp only [Qee,h8,hg6,cs4]); subst hq
 exact Kr () rfl (.tmp rfl .nil) [] trivial
theorem QCi (s:Qab) (sa1:Option Addr) (sk1:Nat) (sa2:Option Addr) (sk2:Nat) (sa3:Option Addr) (sk3:Nat) (n:Int) (bit:Int) (l:List Qag) (la0:Option Addr) (lk0:Nat) (QcL:Qaa s.Width) (Qf1:Qaa n) (QfG:Qaa bit) (rr:Bool) (hrr:Qes s n bit l=rr):FT Tryz.prog 14 #[.agg #[vi s.Width,vl sa1 sk1 s.Deps,vl sa2 sk2 s.Transfers,vl sa3 sk3 s.Boundary],vi n,vi bit,vl la0 lk0 l] [S sa1 sk1 s.Deps,S sa2 sk2 s.Transfers,S sa3 sk3 s.Boundary,S la0 lk0 l] (fun g:Unit=>True) (fun g=>vb rr) (fun g=>[]):=by
 refine FTi Tryz.func14 fun w0 M0 F0=>?_
 unfold Qaa at QcL Qf1 QfG
 refine Fb 24 0 fun _=>Fb 88 1 fun _=>Fb 32 2 fun _=>Fb 16 3 fun _=>KS ?_
 refine Oa (Ab [vi s.Width,vl sa1 sk1 s.Deps,vl sa2 sk2 s.Transfers,vl sa3 sk3 s.Boundary]) fun p5=>Oq Va (KS ?_)
 refine Oq (Qar Qeh 0) (Oq Vm (Oq Vm ?_))
 refine QaO (Qap s n bit) fun rv6 hg7=>?_
 have hc8:=QxH s sa1 sk1 sa2 sk2 sa3 sk3 n bit pre pre pre rv6 hg7
 refine Oc [1,2,3] QxC hc8 ?_
 rintro - he9
 unfold Qaa at he9
 refine Oq Qf4 (Oq Vm ?_)
 refine Js 16 ?_ ?_
 ·intro h10
  have g11:=Qax h10
  refine Osk (Osk (Osk (Oq Vpt (Oq Vm (Osk (Osk (Osk (Osk (Osk ?_)))))))))
  refine Osk (Osk (Osk (Osk (Osk (Oq Vpt (KS ?_))))))
  refine Kt (KS ?_)
  refine Oq Va (KS ?_)
  have hq:=q4 hrr false (by simp only [Qes,h10,hg7,cs4]); subst hq
  exact Kr () rfl (.tmp rfl .nil) [] trivial
 intro h10
 have g12:=Qae h10
 have hwa:=Qn4 (by assumption:Qap s _ _=rv6) h10; have hwt:=hwa.2.1; have hwb:=hwa.1.bl; have hwc:=hwa.1.tl
 refine Oq Vm (Oq (Qbc Qea) (Oq Qcb (Oq Vpf (Oq Vm ?_))))
 refine Js 21 ?_ ?_
 ·intro h13
  have g14:=eq_of_beq h13
  refine Osk (Osk (Osk (Osk (Osk (Osk (Osk (Osk (Osk (Osk ?_)))))))))
  refine Oq Vpt (KS ?_)
  refine Kt (KS ?_)
  refine Oq Va (KS ?_)
  have hq:=q4 hrr false (by simp only [Qes,h10,h13,hg7,cs4]); subst hq
  exact Kr () rfl (.tmp rfl .nil) [] trivial
 intro h13
 have g15:=ne_of_beq_false h13
 refine Oq Vm (Oq Vm (Oq (Qbc Qea) (Oq Qjf (Oq (Vi Qea 4) ?_))))
 refine Qci (((l.length:Int) - 1):Int).toNat 4 rfl rng fun hb16 hb17=>?_
 unfold Qaa at hb16 hb17
 refine Oq (Qar Qe4 0) (Oq Vm (Oq Vm (Oq (Vbd Qrg [vi n,vi bit]) (Oq (QAh Qws (l:=[(l.getD (((l.length:Int) - 1):Int).toNat default).Node,(l.getD (((l.length:Int) - 1):Int).toNat default).Bit]) (m:=[n,bit])) (Oq Vpf (KS ?_))))))
 refine Kc ?_ ?_
 ·intro h18
  have g19:=Qax h18
  refine KS ?_
  refine Oq Va (KS ?_)
  have hq:=q4 hrr false (by simp only [Qes,h10,h13,h18,hg7,cs4]); subst hq
  exact Kr () rfl (.tmp rfl .nil) [] trivial
 intro h18
 have g20:=Qae h18
 refine KS ?_
 refine Oq Vm (Oq (Qbc Qea) (Oq Vm (KS ?_)))
 refine Kl (γ:=Nat×Int) (fun (r21,Qa6)=>⟨[(3,vl la0 lk0 l),(4,p5),(33,vl la0 lk0 l),(34,vi (l.length:Int)),(35,vi Qa6)],[pv p5 [vi s.Width,vl sa1 sk1 s.Deps,vl sa2 sk2 s.Transfers,vl sa3 sk3 s.Boundary],S sa1 sk1 s.Deps,S sa2 sk2 s.Transfers,S sa3 sk3 s.Boundary,S la0 lk0 l],Qbk s l r21 Qa6=Qbk s l (((l.length:Int) - 0).toNat) 0/\r21=((l.length:Int) - Qa6).toNat/\(0:Int)<=Qa6/\Qa6<=(l.length:Int)/\(-9223372036854775808<=Qa6/\Qa6<=9223372036854775807),r21⟩) (((l.length:Int) - 0).toNat,0) [1,2,3,4,5] ⟨rfl,rfl,aM1,aM1,aM1⟩ ?_
 rintro ⟨r21,Qa6⟩ ⟨hM23,hr24,hi25,hi26,hk27⟩
 refine QaE fun _ _ hL hA=>?_; dsimp only at hL hA; subst hL hA
 refine Fb 24 1 fun _=>Fb 88 2 fun _=>Fb 32 3 fun _=>Fb 16 4 fun _=>KS ?_
 refine Oq Qbo (KS ?_)
 refine Kc ?_ ?_
 ·intro h32
  have g33:=dt h32
  obtain ⟨r34,rfl⟩:=scc (n:=r21) aM1
  refine KS ?_
  refine Oq Vm (Oq (Vi Qea 4) ?_)
  refine Qci Qa6.toNat 4 rfl rng fun hb35 hb36=>?_
  unfold Qaa at hb35 hb36
  refine Oq (Qar Qe4 0) (Oa (Al Qqu [vi 0,vi 0]) fun p37=>Oq Va (Ost (Scl [0] Qe4 [vi ((l.getD Qa6.toNat default).Node),vi ((l.getD Qa6.toNat default).Bit)]) (KS ?_)))
  refine Oq (Qar Qeh 2) (Oq (Vfa Qdl 0) (Oq (Qai sh3 0) (Oq (Vfa Qe8 0) (Oq (Qai sh3 0) ?_))))
  refine QaO (Qap s ((l.getD Qa6.toNat default).Node) ((l.getD Qa6.toNat default).Bit)) fun rv38 hg39=>?_
  have hc40:=QxH s sa1 sk1 sa2 sk2 sa3 sk3 ((l.getD Qa6.toNat default).Node) ((l.getD Qa6.toNat default).Bit) pre pre pre rv38 hg39
  refine Oc [3,4,5] QxC hc40 ?_
  rintro - he41
  unfold Qaa at he41
  refine Oq Qf4 (Oq Vm ?_)
  refine Js 47 ?_ ?_
  ·intro h42
   have g43:=Qax h42
   refine Osk (Osk (Osk (Osk (Osk (Osk (Osk (Osk (Oq Vpt (KS ?_)))))))))
   refine Kt (KS ?_)
   refine Oq Va (KS ?_)
   have hR44:=q2 hM23 (.ret false) (by simp only [Qbk,h32,h42,hg39,cs4])
   have hq:=q4 hrr false (by simp only [Qes,h10,h13,h18,h32,h42,hg7,hg39,hR44,cs4]); subst hq
   exact Kr () rfl (.tmp rfl .nil) [] trivial
  intro h42
  have g45:=Qae h42
  have hwa:=Qn4 (by assumption:Qap s _ _=rv38) h42; have hwt:=hwa.2.1; have hwb:=hwa.1.bl; have hwc:=hwa.1.tl
  refine Oq Vm (Oq Qcb (Oq Vm ?_))
  refine Js 50 ?_ ?_
  ·intro h46
   have g47:=eq_of_beq h46
   refine Oq (Qar Qeh 2) (Oq (Qar Qe4 0) ?_)
   refine QaO (QaP s (l.getD Qa6.toNat default)) fun rv48 hg49=>?_
   have hc50:=QAn s sa1 sk1 sa2 sk2 sa3 sk3 ((l.getD Qa6.toNat default)) pre pre pre hwa.1 hwa.2.1 rv48 hg49
   refine Oc [3,4,5] QAg hc50 ?_
   rintro - -
   refine Oq QcN (Oq Vpt (Oq Vpf (KS ?_)))
   refine Kc ?_ ?_
   ·intro h51
    have h53:=not_true h51
    refine KS ?_
    refine Oq Va (KS ?_)
    have hR55:=q2 hM23 (.ret false) (by simp only [Qbk,h32,h42,h46,h51,h53,hg39,hg49,cs4])
    have hq:=q4 hrr false (by simp only [Qes,h10,h13,h18,h32,h42,h46,h51,h53,hg7,hg39,hg49,hR55,cs4]); subst hq
    exact Kr () rfl (.tmp rfl .nil) [] trivial
   intro h51
   have h57:=not_false h51
   try (have hq:=hwa.1.dep_mem hwa.2.1.1 hwa.2.1.2 _ ((Qfz _ _).1 ((by assumption:Qa8 _ _=rv48).trans h57)))
   refine KS ?_
   refine Jp 0 fun hp59=>?_
   refine Qa5 (decide (0 < Qa6)) ?_ ?_
   ·intro h60
    have g61:=dt h60
    refine Qef ((l.getD Qa6.toNat default).Node:Int).toNat 4 rfl rng fun a62 k63=>?_
    refine Fb 8 1 fun _=>Fo 1 fun ho65=>?_
    refine Qci ((Qa6 - 1):Int).toNat 9 rfl rng fun hb66 hb67=>?_
    unfold Qaa at hb66 hb67
    refine QaO (Qa8 (s.Deps.getD ((l.getD Qa6.toNat default).Node:Int).toNat []) ((l.getD ((Qa6 - 1):Int).toNat default).Node)) fun rv68 hg69=>?_
    refine Qa5 rv68 ?_ ?_
    ·intro h70
     try (have hq:=hwa.1.dep_mem hwa.2.1.1 hwa.2.1.2 _ ((Qfz _ _).1 ((by assumption:Qa8 _ _=rv68).trans h70)))
     refine Qa0 ((l.getD ((Qa6 - 1):Int).toNat default).Node:Int).toNat 8 rfl rng fun a72 k73 a74 k75 a76 k77 hb78 hb79=>?_
     unfold Qaa at hb78 hb79
     refine Fb 8 1 fun _=>Fb 8 2 fun _=>Fb 16 3 fun _=>?_
     refine Qam [0,1,3,7,15,7,39,127,255,7,7,1031,3591,7687,15879,32767,65535,131071,262143,131071,131071,1179647,3801087,7995391,16383999,33554431,67108863,131071,131071,268566527,939655167,2013396991,4160880639,131071,8590065663,34359738367,68719476735,137438953471,274877906943] QcF ?_
     refine Dv [] Vm (Db h60 [] QgZ (Dv [] Vm (Dv [10] (Vfa Qbt 0) (Dv [10] (Qai QfL 0) (Dv [7] (Vfa Qdl 0) (Dv [8] (Qai sh3 0) (Dv [11] (Vi QeN 0) (Dv [5] (Vld Qjs 0) (Dv [] Vm ?_)))))))))
     refine Dv [] Vm (Dv [] Qjf (Dv [14] (Vi Qea 0) (Dv [4] (Vfa Qdl 0) (Dv [4] (Qai sh3 0) ?_))))
     refine Dx [6] [] [1,0] (fun G=>vb true) [fun G=>SP.fact (True)] (fun G=>xC [0] QxG (QxF ((s.Deps.getD ((l.getD Qa6.toNat default).Node:Int).toNat [])) a62 k63 ((l.getD ((Qa6 - 1):Int).toNat default).Node) pre rv68 hg69)) ?_ (hV:=fun _ _=>congrArg Value.bool h70)
     refine Dv [] Vm (Dv [10] (Vfa Qco 0) (Dv [10] (Qai QiS 0) (Dv [] Vm (Dv [] Vm (Dv [] Qjf (Dv [14] (Vi Qea 0) (Dv [4] (Vfa Qdl 0) (Dv [4] (Qai sh3 0) (Dv [12] (Vi Qhi 0) ?_)))))))))
     refine Dv [0] (Qar Qdm 0) (Dv [] Vm (Dv [] Vm (Dv [] Qjf (Dv [14] (Vi Qea 0) (Dv [4] (Vfa Qe8 0) (Dv [4] (Qai sh3 0) (Dv [7] (Vfa Qe8 0) (Dv [8] (Qai sh3 0) ?_))))))))
     refine QaO (Qee (s.Transfers.getD ((l.getD ((Qa6 - 1):Int).toNat default).Node:Int).toNat default) ((l.getD ((Qa6 - 1):Int).toNat default).Bit) ((l.getD Qa6.toNat default).Bit)) fun rv83 hg84=>?_
     refine Dx [1,2,3] [] [1,2,3,0] (fun G=>vb rv83) [fun G=>SP.fact (True)] (fun G=>xC [0,1,2] QAc (QAd ((s.Transfers.getD ((l.getD ((Qa6 - 1):Int).toNat default).Node:Int).toNat default)) a72 k73 a74 k75 a76 k77 ((l.getD ((Qa6 - 1):Int).toNat default).Bit) ((l.getD Qa6.toNat default).Bit) pre pre pre pre rv83 hg84)) (Dv [] Vpt (Dv [] QcN (Dv [] Vpt ?_)))
     refine Dn ⟨by kernel_rfl,fun G=>?_⟩
     refine Jw2 [(3,vl la0 lk0 l),(4,p5),(33,vl la0 lk0 l),(34,vi (l.length:Int)),(35,vi Qa6),(95,vb (!rv83))] [0,1,2,3,4,5,6,7,8,9,10,11,12,13,14] [SP.fact (True),SP.fact (True)] ?_
     refine Jk [0,1,2,3,4,5,6,8,8,9,10,11,12,13] ?_
     refine Kc ?_ ?_
     ·intro h85
      have h87:=not_true h85
      refine KS ?_
      refine Oq Va (KS ?_)
      have hR89:=q2 hM23 (.ret false) (by simp only [Qbk,h32,h42,h46,h51,h57,h60,h70,h85,h87,hg39,hg49,hg69,hg84,cs4])
      have hq:=q4 hrr false (by simp only [Qes,h10,h13,h18,h32,h42,h46,h51,h57,h60,h70,h85,h87,hg7,hg39,hg49,hg69,hg84,hR89,cs4]); subst hq
      exact Kr () rfl (.tmp rfl .nil) [] trivial
     intro h85
     have h91:=not_false h85
     try (have hq:=hwa.1.dep_mem hwa.2.1.1 hwa.2.1.2 _ ((Qfz _ _).1 ((by assumption:Qa8 _ _=rv83).trans h91)))
     refine KS ?_
     refine Oq QaS (Oq Vm (KS ?_))
     exact Kg (r34,(Qa6+1)) [9,10,11,12,13] ⟨(q3 hM23 (by simp only [Qbk,h32,h42,h46,h51,h57,h60,h70,h85,h91,hg39,hg49,hg69,hg84,cs4])),aM1,aM1,aM1,aM1⟩
    intro h70
    refine Qam [0,1,3,7,15,7,39,127,255,7,7,1031,3591,7687,15879,32767,65535,131071,262143,131071,131071,1179647,3801087,7995391,16383999,33554431,67108863,131071,131071,268566527,939655167,2013396991,4160880639,131071,8590065663,34359738367,68719476735,137438953471,274877906943] QcF ?_
    refine Dv [] Vm (Db h60 [] QgZ (Dv [] Vm (Dv [6] (Vfa Qbt 0) (Dv [6] (Qai QfL 0) (Dv [3] (Vfa Qdl 0) (Dv [4] (Qai sh3 0) (Dv [7] (Vi QeN 0) (Dv [1] (Vld Qjs 0) (Dv [] Vm ?_)))))))))
    refine Dv [] Vm (Dv [] Qjf (Dv [10] (Vi Qea 0) (Dv [0] (Vfa Qdl 0) (Dv [0] (Qai sh3 0) ?_))))
    refine Dx [2] [] [1,0] (fun G=>vb false) [fun G=>SP.fact (True)] (fun G=>xC [0] QxG (QxF ((s.Deps.getD ((l.getD Qa6.toNat default).Node:Int).toNat [])) a62 k63 ((l.getD ((Qa6 - 1):Int).toNat default).Node) pre rv68 hg69)) ?_ (hV:=fun _ _=>congrArg Value.bool h70)
    refine Dv [] Vm (Ds (Ds (Ds (Ds (Ds (Ds (Ds (Ds (Ds ?_)))))))))
    refine Ds (Ds (Ds (Ds (Ds (Ds (Ds (Ds (Ds (Ds ?_)))))))))
    refine Dv [] Vpf (Dv [] QcN (Dv [] Vpt ?_))
    refine Dn ⟨by kernel_rfl,fun G=>?_⟩
    refine Jw2 [(3,vl la0 lk0 l),(4,p5),(33,vl la0 lk0 l),(34,vi (l.length:Int)),(35,vi Qa6),(95,vb true)] [0,1,2,3,4,5,6,7,8,9,10] [SP.fact (True)] ?_
    refine Jk [0,1,2,4,4,5,6,7,8,9] (Kt ?_)
    refine KS ?_
    refine Oq Va (KS ?_)
    have hR94:=q2 hM23 (.ret false) (by simp only [Qbk,h32,h42,h46,h51,h57,h60,h70,hg39,hg49,hg69,cs4])
    have hq:=q4 hrr false (by simp only [Qes,h10,h13,h18,h32,h42,h46,h51,h57,h60,h70,hg7,hg39,hg49,hg69,hR94,cs4]); subst hq
    exact Kr () rfl (.tmp rfl .nil) [] trivial
   intro h60
   have g95:=df h60
   refine Kq [0,1,3,7,15,7,39,127,255,7,7,1031,3591,7687,15879,32767,65535,131071,262143,131071,131071,1179647,3801087,7995391,16383999,33554431,67108863,131071,131071,268566527,939655167,2013396991,4160880639,131071,8590065663,34359738367,68719476735,137438953471,274877906943] QcF ?_
   refine Qv [] Vm (Qb h60 [] QgZ (Qv [] Vm (Qs (Qs (Qs (Qs (Qs (Qs (Qs ?_)))))))))
   refine Qs (Qs (Qs (Qs (Qs (Qs (Qs (Qs (Qs (Qs ?_)))))))))
   refine Qs (Qs (Qs (Qs (Qs (Qs (Qs (Qs (Qs (Qs ?_)))))))))
   refine Qs (Qs (Qs (Qs (Qs (Qs (Qs (Qs (Qv [] Vpf ?_))))))))
   refine Qn ⟨by kernel_rfl,?_⟩
   refine Kf (KS ?_)
   refine Oq QaS (Oq Vm (KS ?_))
   exact Kg (r34,(Qa6+1)) [3,4,5,6,7] ⟨(q3 hM23 (by simp only [Qbk,h32,h42,h46,h51,h57,h60,hg39,hg49,cs4])),aM1,aM1,aM1,aM1⟩
  intro h46
  have g96:=ne_of_beq_false h46
  refine Osk (Osk (Osk (Osk (Oq Vpf (Oq Vpf (KS ?_))))))
  refine Kf (KS ?_)
  refine Jp 0 fun hp97=>?_
  refine Qa5 (decide (0 < Qa6)) ?_ ?_
  ·intro h98
   have g99:=dt h98
   refine Qef ((l.getD Qa6.toNat default).Node:Int).toNat 4 rfl rng fun a100 k101=>?_
   refine Fb 8 1 fun _=>Fo 1 fun ho103=>?_
   refine Qci ((Qa6 - 1):Int).toNat 9 rfl rng fun hb104 hb105=>?_
   unfold Qaa at hb104 hb105
   refine QaO (Qa8 (s.Deps.getD ((l.getD Qa6.toNat default).Node:Int).toNat []) ((l.getD ((Qa6 - 1):Int).toNat default).Node)) fun rv106 hg107=>?_
   refine Qa5 rv106 ?_ ?_
   ·intro h108
    try (have hq:=hwa.1.dep_mem hwa.2.1.1 hwa.2.1.2 _ ((Qfz _ _).1 ((by assumption:Qa8 _ _=rv106).trans h108)))
    refine Qa0 ((l.getD ((Qa6 - 1):Int).toNat default).Node:Int).toNat 8 rfl rng fun a110 k111 a112 k113 a114 k115 hb116 hb117=>?_
    unfold Qaa at hb116 hb117
    refine Fb 8 1 fun _=>Fb 8 2 fun _=>Fb 16 3 fun _=>?_
    refine Qam [0,1,3,7,15,7,39,127,255,7,7,1031,3591,7687,15879,32767,65535,131071,262143,131071,131071,1179647,3801087,7995391,16383999,33554431,67108863,131071,131071,268566527,939655167,2013396991,4160880639,131071,8590065663,34359738367,68719476735,137438953471,274877906943] QcF ?_
    refine Dv [] Vm (Db h98 [] QgZ (Dv [] Vm (Dv [10] (Vfa Qbt 0) (Dv [10] (Qai QfL 0) (Dv [7] (Vfa Qdl 0) (Dv [8] (Qai sh3 0) (Dv [11] (Vi QeN 0) (Dv [5] (Vld Qjs 0) (Dv [] Vm ?_)))))))))
    refine Dv [] Vm (Dv [] Qjf (Dv [14] (Vi Qea 0) (Dv [4] (Vfa Qdl 0) (Dv [4] (Qai sh3 0) ?_))))
    refine Dx [6] [] [1,0] (fun G=>vb true) [fun G=>SP.fact (True)] (fun G=>xC [0] QxG (QxF ((s.Deps.getD ((l.getD Qa6.toNat default).Node:Int).toNat [])) a100 k101 ((l.getD ((Qa6 - 1):Int).toNat default).Node) pre rv106 hg107)) ?_ (hV:=fun _ _=>congrArg Value.bool h108)
    refine Dv [] Vm (Dv [10] (Vfa Qco 0) (Dv [10] (Qai QiS 0) (Dv [] Vm (Dv [] Vm (Dv [] Qjf (Dv [14] (Vi Qea 0) (Dv [4] (Vfa Qdl 0) (Dv [4] (Qai sh3 0) (Dv [12] (Vi Qhi 0) ?_)))))))))
    refine Dv [0] (Qar Qdm 0) (Dv [] Vm (Dv [] Vm (Dv [] Qjf (Dv [14] (Vi Qea 0) (Dv [4] (Vfa Qe8 0) (Dv [4] (Qai sh3 0) (Dv [7] (Vfa Qe8 0) (Dv [8] (Qai sh3 0) ?_))))))))
    refine QaO (Qee (s.Transfers.getD ((l.getD ((Qa6 - 1):Int).toNat default).Node:Int).toNat default) ((l.getD ((Qa6 - 1):Int).toNat default).Bit) ((l.getD Qa6.toNat default).Bit)) fun rv121 hg122=>?_
    refine Dx [1,2,3] [] [1,2,3,0] (fun G=>vb rv121) [fun G=>SP.fact (True)] (fun G=>xC [0,1,2] QAc (QAd ((s.Transfers.getD ((l.getD ((Qa6 - 1):Int).toNat default).Node:Int).toNat default)) a110 k111 a112 k113 a114 k115 ((l.getD ((Qa6 - 1):Int).toNat default).Bit) ((l.getD Qa6.toNat default).Bit) pre pre pre pre rv121 hg122)) (Dv [] Vpt (Dv [] QcN (Dv [] Vpt ?_)))
    refine Dn ⟨by kernel_rfl,fun G=>?_⟩
    refine Jw2 [(3,vl la0 lk0 l),(4,p5),(33,vl la0 lk0 l),(34,vi (l.length:Int)),(35,vi Qa6),(95,vb (!rv121))] [0,1,2,3,4,5,6,7,8,9,10,11,12,13,14] [SP.fact (True),SP.fact (True)] ?_
    refine Jk [0,1,2,3,4,5,6,8,8,9,10,11,12,13] ?_
    refine Kc ?_ ?_
    ·intro h123
     have h125:=not_true h123
     refine KS ?_
     refine Oq Va (KS ?_)
     have hR127:=q2 hM23 (.ret false) (by simp only [Qbk,h32,h42,h46,h98,h108,h123,h125,hg39,hg107,hg122,cs4])
     have hq:=q4 hrr false (by simp only [Qes,h10,h13,h18,h32,h42,h46,h98,h108,h123,h125,hg7,hg39,hg107,hg122,hR127,cs4]); subst hq
     exact Kr () rfl (.tmp rfl .nil) [] trivial
    intro h123
    have h129:=not_false h123
    try (have hq:=hwa.1.dep_mem hwa.2.1.1 hwa.2.1.2 _ ((Qfz _ _).1 ((by assumption:Qa8 _ _=rv121).trans h129)))
    refine KS ?_
    refine Oq QaS (Oq Vm (KS ?_))
    exact Kg (r34,(Qa6+1)) [9,10,11,12,13] ⟨(q3 hM23 (by simp only [Qbk,h32,h42,h46,h98,h108,h123,h129,hg39,hg107,hg122,cs4])),aM1,aM1,aM1,aM1⟩
   intro h108
   refine Qam [0,1,3,7,15,7,39,127,255,7,7,1031,3591,7687,15879,32767,65535,131071,262143,131071,131071,1179647,3801087,7995391,16383999,33554431,67108863,131071,131071,268566527,939655167,2013396991,4160880639,131071,8590065663,34359738367,68719476735,137438953471,274877906943] QcF ?_
   refine Dv [] Vm (Db h98 [] QgZ (Dv [] Vm (Dv [6] (Vfa Qbt 0) (Dv [6] (Qai QfL 0) (Dv [3] (Vfa Qdl 0) (Dv [4] (Qai sh3 0) (Dv [7] (Vi QeN 0) (Dv [1] (Vld Qjs 0) (Dv [] Vm ?_)))))))))
   refine Dv [] Vm (Dv [] Qjf (Dv [10] (Vi Qea 0) (Dv [0] (Vfa Qdl 0) (Dv [0] (Qai sh3 0) ?_))))
   refine Dx [2] [] [1,0] (fun G=>vb false) [fun G=>SP.fact (True)] (fun G=>xC [0] QxG (QxF ((s.Deps.getD ((l.getD Qa6.toNat default).Node:Int).toNat [])) a100 k101 ((l.getD ((Qa6 - 1):Int).toNat default).Node) pre rv106 hg107)) ?_ (hV:=fun _ _=>congrArg Value.bool h108)
   refine Dv [] Vm (Ds (Ds (Ds (Ds (Ds (Ds (Ds (Ds (Ds ?_)))))))))
   refine Ds (Ds (Ds (Ds (Ds (Ds (Ds (Ds (Ds (Ds ?_)))))))))
   refine Dv [] Vpf (Dv [] QcN (Dv [] Vpt ?_))
   refine Dn ⟨by kernel_rfl,fun G=>?_⟩
   refine Jw2 [(3,vl la0 lk0 l),(4,p5),(33,vl la0 lk0 l),(34,vi (l.length:Int)),(35,vi Qa6),(95,vb true)] [0,1,2,3,4,5,6,7,8,9,10] [SP.fact (True)] ?_
   refine Jk [0,1,2,4,4,5,6,7,8,9] (Kt ?_)
   refine KS ?_
   refine Oq Va (KS ?_)
   have hR132:=q2 hM23 (.ret false) (by simp only [Qbk,h32,h42,h46,h98,h108,hg39,hg107,cs4])
   have hq:=q4 hrr false (by simp only [Qes,h10,h13,h18,h32,h42,h46,h98,h108,hg7,hg39,hg107,hR132,cs4]); subst hq
   exact Kr () rfl (.tmp rfl .nil) [] trivial
  intro h98
  have g133:=df h98
  refine Kq [0,1,3,7,15,7,39,127,255,7,7,1031,3591,7687,15879,32767,65535,131071,262143,131071,131071,1179647,3801087,7995391,16383999,33554431,67108863,131071,131071,268566527,939655167,2013396991,4160880639,131071,8590065663,34359738367,68719476735,137438953471,274877906943] QcF ?_
  refine Qv [] Vm (Qb h98 [] QgZ (Qv [] Vm (Qs (Qs (Qs (Qs (Qs (Qs (Qs ?_)))))))))
  refine Qs (Qs (Qs (Qs (Qs (Qs (Qs (Qs (Qs (Qs ?_)))))))))
  refine Qs (Qs (Qs (Qs (Qs (Qs (Qs (Qs (Qs (Qs ?_)))))))))
  refine Qs (Qs (Qs (Qs (Qs (Qs (Qs (Qs (Qv [] Vpf ?_))))))))
  refine Qn ⟨by kernel_rfl,?_⟩
  refine Kf (KS ?_)
  refine Oq QaS (Oq Vm (KS ?_))
  exact Kg (r34,(Qa6+1)) [3,4,5,6,7] ⟨(q3 hM23 (by simp only [Qbk,h32,h42,h46,h98,hg39,cs4])),aM1,aM1,aM1,aM1⟩
 intro h32
 have g134:=df h32
 obtain rfl:r21=0:=by omega
 refine Ke ?_
 have hR135:=q2 hM23 (.brk ()) (by simp only [Qbk,h32,cs4])
 refine KS ?_
 refine Oq Va (KS ?_)
 have hq:=q4 hrr true (by simp only [Qes,h10,h13,h18,h32,hg7,hR135,cs4]); subst hq
 exact Kr () rfl (.tmp rfl .nil) [] trivial
theorem Qzy (s:List Qag) (sa0:Option Addr) (sk0:Nat) (fF:FuncId) (fC:List Value) (fp:Qag->Bool) (fA:List SP) (hfc:Qac Tryz.prog fF=true) (hfF:∀ x∈s,Qaa x.Node->Qaa x.Bit->FT Tryz.prog fF ([(.agg #[vi x.Node,vi x.Bit]:Value)]++fC).toArray ([]++[Qgg fA]) (fun _:Unit=>True) (fun _=>.bool (fp x)) (fun _=>[])) (rr:Int) (hrr:QcU s fp=rr):FT Tryz.prog 102 #[vl sa0 sk0 s,.func (.func fF) #[] fC.toArray] [S sa0 sk0 s,Qgg fA] (fun g:Unit=>Qaa rr/\(-1<=rr/\rr < (s.length:Int))) (fun g=>vi rr) (fun g=>[]):=by
 refine FTi Tryz.func102 fun w0 M0 F0=>Fb 16 0 fun _=>?_
 refine KS ?_
 refine Oq Va (KS ?_)
 refine Oq Vm (Oq (Qbc Qea) (Oq Vm (KS ?_)))
 refine Kl (γ:=Nat×Int) (fun (r2,Qel)=>⟨[(0,vl sa0 sk0 s),(1,.func (.func fF) #[] fC.toArray),(7,vi (s.length:Int)),(8,vi Qel)],[S sa0 sk0 s,Qgg fA],Qbs s fp r2 Qel=Qbs s fp (((s.length:Int) - 0).toNat) 0/\r2=((s.length:Int) - Qel).toNat/\(0:Int)<=Qel/\Qel<=(s.length:Int)/\(-9223372036854775808<=Qel/\Qel<=9223372036854775807),r2⟩) (((s.length:Int) - 0).toNat,0) [0,1] ⟨rfl,rfl,aM1,aM1,aM1⟩ ?_
 rintro ⟨r2,Qel⟩ ⟨hM4,hr5,hi6,hi7,hk8⟩
 refine QaE fun _ _ hL hA=>?_; dsimp only at hL hA; subst hL hA
 refine Fb 16 0 fun _=>KS ?_
 refine Oq Qbo (KS ?_)
 refine Kc ?_ ?_
 ·intro h10
  have g11:=dt h10
  obtain ⟨r12,rfl⟩:=scc (n:=r2) aM1
  refine KS ?_
  refine Oq Vm (Oq Va (KS ?_))
  refine Oq Vm (Oq Vm (Oq Vm (Oq (Vi Qea 0) ?_)))
  refine Qci Qel.toNat 0 rfl rng fun hb13 hb14=>?_
  unfold Qaa at hb13 hb14
  refine Oq (Qar Qe4 0) ?_
  refine Qg7 [2] rfl rfl rfl (OpC.clo (asv:=[(.agg #[vi ((s.getD Qel.toNat default).Node),vi ((s.getD Qel.toNat default).Bit)]:Value)]++fC) rfl rfl hfc rfl (by simp)) (hfF (s.getD Qel.toNat default) (QaA rng)  pre pre) rfl fun _ _=>?_
  refine KS ?_
  refine Kc ?_ ?_
  ·intro h15
   refine KS ?_
   refine Oq Vm (Oq Va (KS ?_))
   have hR17:=q2 hM4 (.ret Qel) (by simp only [Qbs,h10,h15,cs4])
   have hq:=q4 hrr Qel (by simp only [QcU,h10,h15,hR17,cs4]); subst hq
   exact Kr () rfl (.tmp rfl .nil) [] en
  intro h15
  refine KS ?_
  refine Oq QaS (Oq Vm (KS ?_))
  exact Kg (r12,(Qel+1)) [1,2] ⟨(q3 hM4 (by simp only [Qbs,h10,h15,cs4])),aM1,aM1,aM1,aM1⟩
 intro h10
 have g19:=df h10
 obtain rfl:r2=0:=by omega
 refine Ke ?_
 have hR20:=q2 hM4 (.brk ()) (by simp only [Qbs,h10,cs4])
 refine KS ?_
 refine Oq Va (KS ?_)
 have hq:=q4 hrr (-1) (by simp only [QcU,h10,hR20,cs4]); subst hq
 exact Kr () rfl (.tmp rfl .nil) [] en
theorem QBW (s:List Qag) (sa0:Option Addr) (sk0:Nat) (delF:FuncId) (delC:List Value) (delp:Qag->Bool) (delA:List SP) (hdelc:Qac Tryz.prog delF=true) (hdelF:∀ x∈s,Qaa x.Node->Qaa x.Bit->FT Tryz.prog delF ([(.agg #[vi x.Node,vi x.Bit]:Value)]++delC).toArray ([]++[Qgg delA]) (fun _:Unit=>True) (fun _=>.bool (delp x)) (fun _=>[])) (rr:List Qag) (hrr:Qa1 s delp=rr):FT Tryz.prog 60 #[vl sa0 sk0 s,.func (.func delF) #[] delC.toArray] [O sa0 sk0 s,Qgg delA] (fun g:Value=>True) (fun g=>g) (fun g=>[os g rr]):=by
 refine FTi Tryz.func60 fun w0 M0 F0=>Fb 16 0 fun _=>?_
 refine KS ?_
 refine Oq Va (KS ?_)
 refine Oq Vm (Oq Vm ?_)
 refine QaO (QcU s delp) fun rv2 hg3=>?_
 refine Oc [0,0] Qyh (Qdp (A:=_) (fun _ _ h=>by cases h) (Qe7 (Ent.take (is:=[0,1]) rfl) (Qzy s sa0 sk0 delF delC delp delA hdelc hdelF rv2 hg3))) ?_ (ht:=rfl)
 rintro - ⟨he4,he5⟩
 unfold Qaa at he4
 refine Oq Va (KS ?_)
 refine Oq Vm (Oq Qcb (KS ?_))
 refine Kc ?_ ?_
 ·intro h6
  have g7:=eq_of_beq h6
  refine KS ?_
  refine Oq Vm (Oq Va (KS ?_))
  have hq:=q4 hrr s (by simp only [Qa1,h6,hg3,cs4]); subst hq
  exact Kr (vl sa0 sk0 s) rfl (.tmp rfl .nil) [0] trivial
 intro h6
 have g8:=ne_of_beq_false h6
 refine KS ?_
 refine Oq Vm (Oq QaS (Oq Va (KS ?_)))
 refine Kl (γ:=Nat×List Qag×Int×Int) (fun (r9,Qm6,Qk0,Qm7)=>⟨[(0,vl sa0 sk0 s),(1,.func (.func delF) #[] delC.toArray),(5,vi Qk0),(6,vi Qm7)],[os (vl sa0 sk0 s) Qm6,Qgg delA],QaH delp r9 Qm6 Qk0 Qm7=QaH delp (((s.length:Int) - (rv2+1)).toNat) s rv2 (rv2+1)/\r9=((s.length:Int) - Qm7).toNat/\((rv2+1):Int)<=Qm7/\(Qm7<=(s.length:Int)\/Qm7=(rv2+1))/\(-9223372036854775808<=Qk0/\Qk0<=9223372036854775807)/\(-9223372036854775808<=Qm7/\Qm7<=9223372036854775807)/\(∀ x∈Qm6,x∈s)/\(0<=Qk0/\Qk0 < Qm7)/\(Qm6.length=s.length),r9⟩) (((s.length:Int) - (rv2+1)).toNat,s,rv2,(rv2+1)) [0,0] ⟨rfl,rfl,aM1,(.inr rfl),aM1,aM1,(fun x h=>h),iv0,iv0⟩ ?_
 rintro ⟨r9,Qm6,Qk0,Qm7⟩ ⟨hM13,hr14,hi15,hi16,hk17,hk18,hv19,hv20,hv21⟩
 refine QaE fun _ _ hL hA=>?_; dsimp only at hL hA; subst hL hA
 refine Fb 16 0 fun _=>Fl 0 fun hn23=>?_
 refine KS ?_
 refine Oq Vm (Oq Vm (Oq (Qbc Qea) (Oq Qbo (KS ?_))))
 refine Kc ?_ ?_
 ·intro h24
  have g25:=dt h24
  obtain ⟨r26,rfl⟩:=scc (n:=r9) aM1
  refine KS ?_
  refine Oq Vm (Oq Vm (Oq (Vi Qea 0) ?_))
  refine QnO Qm7.toNat 0 rfl rng fun hb27 hb28=>?_
  unfold Qaa at hb27 hb28
  refine Oq (Qar Qe4 0) (Oa (Al Qqu [vi 0,vi 0]) fun p29=>Ost (Scl [0] Qe4 [vi ((Qm6.getD Qm7.toNat default).Node),vi ((Qm6.getD Qm7.toNat default).Bit)]) (KS ?_))
  refine Oq Vm (Oq (Qar Qe4 0) ?_)
  refine Qg7 [2] rfl rfl rfl (OpC.clo (asv:=[(.agg #[vi ((Qm6.getD Qm7.toNat default).Node),vi ((Qm6.getD Qm7.toNat default).Bit)]:Value)]++delC) rfl rfl hdelc rfl (by simp)) (hdelF (Qm6.getD Qm7.toNat default) ((by assumption:∀ x∈_,x∈s) _ (QaA rng))  pre pre) rfl fun _ _=>?_
  refine Oq QcN (KS ?_)
  refine Kc ?_ ?_
  ·intro h30
   have h32:=not_true h30
   refine KS ?_
   refine Oq Vm (Oq Vm (Oq (Qar Qe4 0) (Oq (Vi Qea 1) ?_)))
   refine Jl [1] (Ent.oread _ _ _ _) ?_
   refine Ost (So (Rs:=[]) [0] Qe4 (Qm6.getD Qm7.toNat default) (fun h=>⟨rfl,aL1,aL1⟩)) (KS ?_)
   refine Oq Vm (Oq QaS (Oq Va (KS ?_)))
   refine Oq Vm (Oq QaS (Oq Va (KS ?_)))
   exact Kg (r26,(Qm6.set Qk0.toNat (Qm6.getD Qm7.toNat default)),(Qk0+1),(Qm7+1)) [0,1] ⟨(q3 hM13 (by simp only [QaH,h24,h30,h32,cs4])),aM1,aM1,aM1,aM1,aM1,(by first | assumption | exact fun x h=>(List.mem_or_eq_of_mem_set h).elim ((by assumption:∀ x∈_,x∈s) x) (fun e=>e ▸ (by assumption:∀ x∈_,x∈s) _ (QaA rng))),iv1,iv1⟩
  intro h30
  have h35:=not_false h30
  refine KS ?_
  refine Oq Vm (Oq QaS (Oq Va (KS ?_)))
  refine Jl [1] (Ent.oread _ _ _ _) ?_
  exact Kg (r26,Qm6,Qk0,(Qm7+1)) [0,1] ⟨(q3 hM13 (by simp only [QaH,h24,h30,h35,cs4])),aM1,aM1,aM1,aM1,aM1,(by first | assumption | exact fun x h=>(List.mem_or_eq_of_mem_set h).elim ((by assumption:∀ x∈_,x∈s) x) (fun e=>e ▸ (by assumption:∀ x∈_,x∈s) _ (QaA rng))),iv1,iv1⟩
 intro h24
 have g37:=df h24
 obtain rfl:r9=0:=by omega
 refine Ke ?_
 have hR38:=q2 hM13 (Qm6,Qk0) (by simp only [QaH,h24,cs4])
 refine KS ?_
 refine Oq Vm (Oq Vm (Oq (QAz Qea 0 (Qk0.toNat)) ?_))
 refine Oan (OpA.frame [0] rfl (OpA.clearR (α:=Qag) (z:=(Qag.mk 0 0)) Qea (zv:=.agg #[vi 0,vi 0]) Qqu (fun _ _=>⟨rfl,(by unfold Qaa; decide),(by unfold Qaa; decide)⟩) (Qk0.toNat) rfl rfl aM1)) fun _=>?_
 have hn39:((Qm6.take (Qk0.toNat))++(List.replicate (s.length - Qk0.toNat) (Qag.mk 0 0))).length=Qm6.length:=by simp only [List.length_append,List.length_take,List.length_replicate]; omega
 refine KS ?_
 refine Oq Vm (Oq Vm (Oa (QAq [0] Qea 0 (Qk0.toNat)) fun c40=>?_))
 refine Jo 0 ?_; rintro a41 k42 rfl
 refine Fb 16 0 fun _=>?_
 have hn44:((((Qm6.take (Qk0.toNat))++(List.replicate (s.length - Qk0.toNat) (Qag.mk 0 0))).take (Qk0.toNat)).drop 0).length=(Qk0.toNat) - 0:=Qhu rng rng
 refine Oq Va (KS ?_)
 have hq:=q4 hrr ((((Qm6.take (Qk0.toNat))++(List.replicate (s.length - Qk0.toNat) (Qag.mk 0 0))).take (Qk0.toNat)).drop 0) (by simp only [Qa1,h6,h24,hg3,hR38,cs4]); subst hq
 exact Kr (.slice a41 (((((Qm6.take (Qk0.toNat))++(List.replicate (s.length - Qk0.toNat) (Qag.mk 0 0))).take (Qk0.toNat)).drop 0).length) k42) rfl (.tmp rfl .nil) [0] trivial
theorem QBj (s:List Qag) (sa0:Option Addr) (sk0:Nat) (rr:List Qag) (hrr:Qcl s=rr):FT Tryz.prog 61 #[vl sa0 sk0 s] [S sa0 sk0 s] (fun g:Value=>(rr.length=s.length)) (fun g=>g) (fun g=>[os g rr]):=by
 have hm:Qcl s=s:=rfl
 rw [hm] at hrr
 subst hrr
 refine FTi Tryz.func61 fun w0 M0 F0=>?_
 refine KS ?_
 refine Oq Va ?_
 refine KS ?_
 refine Oq Vm ?_
 refine Oq (QxB QyW) ?_
 refine KS ?_
 refine Kc ?_ ?_
 ·intro h
  refine QAp 0 h ?_
  intro h0
  subst h0
  refine KS ?_
  refine Oq Va ?_
  refine KS ?_
  refine Jl [] (Ent.osNil (α:=Qag)) ?_
  exact Kr (.slice none 0 0) rfl (.tmp rfl .nil) [0] rfl
 ·intro _
  refine KS ?_
  refine Oa (As0 Qea) fun c1=>?_
  refine Jo 0 ?_; rintro a2 k3 rfl
  refine Oq Vm ?_
  refine Fb 16 1 fun hl=>?_
  refine Jl [0] (Ent.crNil (α:=Qag) _) ?_
  refine Oa (Ap0 [0,0] Qea Qea Qmk) fun c4=>?_
  refine Oq Va ?_
  refine KS ?_
  exact Kr c4 rfl (.tmp rfl .nil) [0] rfl
theorem QCn (h:Qag) (cap0P:Value) (cap0:Qab) (cap0a1:Option Addr) (cap0k1:Nat) (cap0a2:Option Addr) (cap0k2:Nat) (cap0a3:Option Addr) (cap0k3:Nat) (Qvm:Qaa h.Node) (Qvn:Qaa h.Bit) (QgH:Qaa cap0.Width) (hv0:QcT cap0) (hn0:0<=h.Node/\h.Node < (cap0.Deps.length:Int)) (rr:Bool) (hrr:Qd6 h cap0=rr):FT Tryz.prog 62 #[.agg #[vi h.Node,vi h.Bit],cap0P] [pv cap0P [vi cap0.Width,vl cap0a1 cap0k1 cap0.Deps,vl cap0a2 cap0k2 cap0.Transfers,vl cap0a3 cap0k3 cap0.Boundary],S cap0a1 cap0k1 cap0.Deps,S cap0a2 cap0k2 cap0.Transfers,S cap0a3 cap0k3 cap0.Boundary] (fun g:Unit=>True) (fun g=>vb rr) (fun g=>[]):=by
 refine FTi Tryz.func62 fun w0 M0 F0=>?_
 unfold Qaa at Qvm Qvn QgH
 refine Fb 24 1 fun _=>Fb 88 2 fun _=>Fb 32 3 fun _=>KS ?_
 refine Oa (Ab [vi h.Node,vi h.Bit]) fun p4=>Oq Va (KS ?_)
 refine Oq (Qar Qeh 1) (Oq (Qar Qe4 0) ?_)
 refine QaO (QaP cap0 h) fun rv5 hg6=>?_
 have hc7:=QAn cap0 cap0a1 cap0k1 cap0a2 cap0k2 cap0a3 cap0k3 h pre pre pre hv0 hn0 rv5 hg6
 refine Oc [2,3,4] QAg hc7 ?_
 rintro - -
 refine Oq QcN (Oq Va (KS ?_))
 have hq:=q4 hrr (!rv5) (by simp only [Qd6,hg6,cs4]); subst hq
 exact Kr () rfl (.tmp rfl .nil) [] trivial
theorem QyQ (x:List Qag) (xa0:Option Addr) (xk0:Nat) (cmpF:FuncId) (cmpC:List Value) (cmpp:Qag->Qag->Int) (cmpA:List SP) (hcmpc:Qac Tryz.prog cmpF=true) (hcmpF:∀ x0 x1,Qaa x0.Node->Qaa x0.Bit->Qaa x1.Node->Qaa x1.Bit->x0∈x->x1∈x->FT Tryz.prog cmpF ([(.agg #[vi x0.Node,vi x0.Bit]:Value),(.agg #[vi x1.Node,vi x1.Bit]:Value)]++cmpC).toArray ([]++[Qgg cmpA]) (fun _:Unit=>Qaa (cmpp x0 x1)) (fun _=>vi (cmpp x0 x1)) (fun _=>[])) (hl0:1<=x.length) (rr:Qag) (hrr:QcC x cmpp=rr):FT Tryz.prog 103 #[vl xa0 xk0 x,.func (.func cmpF) #[] cmpC.toArray] [S xa0 xk0 x,Qgg cmpA] (fun g:Unit=>Qaa rr.Node/\Qaa rr.Bit) (fun g=>.agg #[vi rr.Node,vi rr.Bit]) (fun g=>[]):=by
 refine FTi Tryz.func103 fun w0 M0 F0=>Fb 16 0 fun _=>?_
 refine KS ?_
 refine Oa (Al Qqu [vi 0,vi 0]) fun p2=>KS ?_
 refine Oq Vm (Oq (Qbc Qea) (Oq Qbo (KS ?_)))
 refine Kc ?_ ?_
 ·intro h3
  have g4:=dt h3
  exfalso; omega
 intro h3
 have g5:=df h3
 refine KS ?_
 refine Oq Vm (Oq (Vi Qea 1) ?_)
 refine Qci (0:Int).toNat 1 rfl rng fun hb6 hb7=>?_
 unfold Qaa at hb6 hb7
 refine Oq (Qar Qe4 0) (Oa (Al Qqu [vi 0,vi 0]) fun p8=>Ost (Scl [0] Qe4 [vi ((x.getD (0:Int).toNat default).Node),vi ((x.getD (0:Int).toNat default).Bit)]) (KS ?_))
 refine Oq Va (KS ?_)
 refine Kl (γ:=Nat×Int×Int×Int) (fun (r9,Qi8,Qi9,Qb0)=>⟨[(0,vl xa0 xk0 x),(1,.func (.func cmpF) #[] cmpC.toArray),(4,p2),(5,p8),(6,vi Qb0)],[Cl p8 [vi Qi8,vi Qi9],Cl p2 [vi 0,vi 0],S xa0 xk0 x,Qgg cmpA],QaZ x cmpp r9 Qi8 Qi9 Qb0=QaZ x cmpp (((x.length:Int) - 1).toNat) ((x.getD (0:Int).toNat default).Node) ((x.getD (0:Int).toNat default).Bit) 1/\r9=((x.length:Int) - Qb0).toNat/\(1:Int)<=Qb0/\(Qb0<=(x.length:Int)\/Qb0=1)/\(-9223372036854775808<=Qi8/\Qi8<=9223372036854775807)/\(-9223372036854775808<=Qi9/\Qi9<=9223372036854775807)/\(-9223372036854775808<=Qb0/\Qb0<=9223372036854775807)/\((Qag.mk Qi8 Qi9)∈x),r9⟩) (((x.length:Int) - 1).toNat,(x.getD (0:Int).toNat default).Node,(x.getD (0:Int).toNat default).Bit,1) [0,1,1,2] ⟨rfl,rfl,aM1,(.inr rfl),aM1,aM1,aM1,(QaA rng)⟩ ?_
 rintro ⟨r9,Qi8,Qi9,Qb0⟩ ⟨hM13,hr14,hi15,hi16,hk17,hk18,hk19,hv20⟩
 refine QaE fun _ _ hL hA=>?_; dsimp only at hL hA; subst hL hA
 refine Fb 16 2 fun _=>KS ?_
 refine Oq Vm (Oq Vm (Oq (Qbc Qea) (Oq Qbo (KS ?_))))
 refine Kc ?_ ?_
 ·intro h22
  have g23:=dt h22
  obtain ⟨r24,rfl⟩:=scc (n:=r9) aM1
  refine KS ?_
  refine Qci Qb0.toNat 2 rfl rng fun hb25 hb26=>?_
  unfold Qaa at hb25 hb26
  refine Qam [0,0,0,6,14,0,63,127] QcF ?_
  refine Dv [] Vm (Dv [] Vm (Dv [] Vm (Dv [3] (Vi Qea 0) (Dv [0] (Qar Qe4 0) (Dv [1] (Qar Qe4 0) (Dx [4] [] [1,0] (fun G=>vi (cmpp (x.getD Qb0.toNat default) (Qag.mk Qi8 Qi9))) [fun G=>SP.fact (Qaa (cmpp (x.getD Qb0.toNat default) (Qag.mk Qi8 Qi9)))] (fun G=>xE (asv:=[(.agg #[vi ((x.getD Qb0.toNat default).Node),vi ((x.getD Qb0.toNat default).Bit)]:Value),(.agg #[vi Qi8,vi Qi9]:Value)]++cmpC) [0] hcmpc rfl rfl rfl (by simp) rfl (hcmpF (x.getD Qb0.toNat default) (Qag.mk Qi8 Qi9)  pre pre pre pre (by first | assumption | exact QaA rng) (by first | assumption | exact QaA rng))) (Dv [] Qbo ?_)))))))
  refine Dn ⟨by kernel_rfl,fun G=>?_⟩
  refine Jw2 [(0,vl xa0 xk0 x),(1,.func (.func cmpF) #[] cmpC.toArray),(4,p2),(5,p8),(6,vi Qb0),(27,vb (decide ((cmpp (x.getD Qb0.toNat default) (Qag.mk Qi8 Qi9)) < 0)))] [0,1,2,3,4] [SP.fact (Qaa (cmpp (x.getD Qb0.toNat default) (Qag.mk Qi8 Qi9)))] ?_
  refine Jf 5 rfl ?_; rintro he27
  unfold Qaa at he27
  refine Jk [0,1,1,1,2] ?_
  refine Kc ?_ ?_
  ·intro h28
   have g29:=dt h28
   refine KS ?_
   refine Oq Vm (Oq Vm (Oq (Vi Qea 3) (Oq (Qar Qe4 0) (Ost (Scl [1] Qe4 [vi ((x.getD Qb0.toNat default).Node),vi ((x.getD Qb0.toNat default).Bit)]) (KS ?_)))))
   refine Oq Vm (Oq QaS (Oq Va (KS ?_)))
   exact Kg (r24,(x.getD Qb0.toNat default).Node,(x.getD Qb0.toNat default).Bit,(Qb0+1)) [0,1,1,2] ⟨(q3 hM13 (by simp only [QaZ,h22,h28,cs4])),aM1,aM1,aM1,aM1,aM1,aM1,(by first | assumption | exact QaA rng)⟩
  intro h28
  have g30:=df h28
  refine KS ?_
  refine Oq Vm (Oq QaS (Oq Va (KS ?_)))
  exact Kg (r24,Qi8,Qi9,(Qb0+1)) [1,1,1,2] ⟨(q3 hM13 (by simp only [QaZ,h22,h28,cs4])),aM1,aM1,aM1,aM1,aM1,aM1,(by first | assumption | exact QaA rng)⟩
 intro h22
 have g31:=df h22
 obtain rfl:r9=0:=by omega
 refine Ke ?_
 have hR32:=q2 hM13 (Qi8,Qi9) (by simp only [QaZ,h22,cs4])
 refine KS ?_
 refine Oq (Qar Qe4 0) (Ost (Scl [1] Qe4 [vi Qi8,vi Qi9]) (KS ?_))
 have hq:=q4 hrr (Qag.mk Qi8 Qi9) (by simp only [QcC,h3,h22,hR32,cs4]); subst hq
 exact Kr () rfl (.cellN 0 rfl Qe4 rfl (Qak _ _) rfl .nil) [] en
theorem QzH (a:Qag) (b:Qag) (Qke:Qaa a.Node) (Qvi:Qaa a.Bit) (QgI:Qaa b.Node) (Qvj:Qaa b.Bit) (hb0:QrV a/\QrV b) (rr:Int) (hrr:Qb4 a b=rr):FT Tryz.prog 104 #[.agg #[vi a.Node,vi a.Bit],.agg #[vi b.Node,vi b.Bit]] [] (fun g:Unit=>Qaa rr) (fun g=>vi rr) (fun g=>[]):=by
 refine FTi Tryz.func104 fun w0 M0 F0=>?_
 unfold Qaa at Qke Qvi QgI Qvj
 unfold QrV at hb0
 refine KS ?_
 refine Oa (Ab [vi a.Node,vi a.Bit]) fun p1=>Oa (Ab [vi b.Node,vi b.Bit]) fun p2=>Oq Va (KS ?_)
 refine Oq (Vfa Qdl 1) (Oq (Qai sh3 1) (Oq (Vfa Qdl 0) (Oq (Qai sh3 0) (Oq Qf4 (KS ?_)))))
 refine Kc ?_ ?_
 ·intro h3
  have g4:=Qax h3
  refine KS ?_
  refine Oq (Vfa Qdl 1) (Oq (Qai sh3 1) (Oq (Vfa Qdl 0) (Oq (Qai sh3 0) (Oq Qjf (Oq Va (KS ?_))))))
  have hq:=q4 hrr (a.Node - b.Node) (by simp only [Qb4,h3,cs4]); subst hq
  exact Kr () rfl (.tmp rfl .nil) [] en
 intro h3
 have g5:=Qae h3
 refine KS ?_
 refine Oq (Vfa Qe8 1) (Oq (Qai sh3 1) (Oq (Vfa Qe8 0) (Oq (Qai sh3 0) (Oq Qjf (Oq Va (KS ?_))))))
 have hq:=q4 hrr (a.Bit - b.Bit) (by simp only [Qb4,h3,cs4]); subst hq
 exact Kr () rfl (.tmp rfl .nil) [] en
theorem QAB (l:List Qag) (la0:Option Addr) (lk0:Nat) (nextP:Value) (next:List (Qag×List Qag)) (hl0:∀ h∈l,QrV h) (hn0:∀ e∈next,∀ h∈e.2,QrV h) (hb0:next.length<=70000) (ht0:Qb6 next ((next.length:Nat)+2) l []≠LR.oof) (rr:List Qag) (hrr:Qj9 l next=rr):FT Tryz.prog 63 #[vl la0 lk0 l,nextP] [S la0 lk0 l,MS Qag Qfd Qey nextP next] (fun g:Value=>True) (fun g=>g) (fun g=>[sl g rr,MS Qag Qfd Qey nextP next]):=by
 refine FTi Tryz.func63 fun w0 M0 F0=>Fb 16 0 fun _=>?_
 refine KS ?_
 refine Oq Va (KS ?_)
 refine Oq Va (KS ?_)
 refine Jl [] (Ent.osNil (α:=Qag)) ?_
 have hterm12:Qb6 next ((next.length:Nat)+2) l []≠LR.oof:=ht0
 refine Kl (γ:=Nat×List Qag×List Qag×Option Addr×Nat×Option Addr×Nat) (fun (r2,l_3,QcO,a5,k6,a7,k8)=>⟨[(0,vl a5 k6 l_3),(1,nextP),(5,vl a7 k8 QcO)],[O a7 k8 QcO,S a5 k6 l_3,MS Qag Qfd Qey nextP next],Qb6 next r2 l_3 QcO=Qb6 next ((next.length:Nat)+2) l []/\(∀ h∈l_3,QrV h)/\((QcO.length:Int)+(r2:Int)<=(next.length:Int)+2),r2⟩) (((next.length:Nat)+2),l,[],la0,lk0,none,0) [0,0,1] ⟨rfl,hl0,iv0⟩ ?_
 rintro ⟨r2,l_3,QcO,a5,k6,a7,k8⟩ ⟨hM9,hv10,hv11⟩
 refine QaE fun _ _ hL hA=>?_; dsimp only at hL hA; subst hL hA
 refine Fb 16 0 fun _=>Fb 16 1 fun _=>?_
 rcases r2 with _ | r2
 ·exact absurd (hM9.symm.trans rfl) hterm12
 refine KS ?_
 refine Oq Vm (Oq (Qbc Qea) (Oq QgZ (KS ?_)))
 refine Kc ?_ ?_
 ·intro h15
  have g16:=dt h15
  refine KS ?_
  refine Oq Vm ?_
  refine Qic (Ent.pall [] rfl rfl) ?_
  refine QaO (QcC l_3 (fun x0 x1=>Qb4 x0 x1)) fun rv17 hg18=>?_
  have hc19:=QyQ l_3 a5 k6 104 [] (fun x0 x1=>Qb4 x0 x1) [] Qzo (fun x0 x1 hq0 hq1 hq2 hq3 hz0 hz1=>Qgc (A1:=[]) (QzH x0 x1  hq0 hq1 hq2 hq3 ⟨(by assumption:∀ h∈_,QrV h) _ hz0,(by assumption:∀ h∈_,QrV h) _ hz1⟩ _ rfl)) pre rv17 hg18
  refine Oc [2,0] QzB hc19 ?_
  rintro - ⟨he20,he21⟩
  unfold Qaa at he20 he21
  refine Oa (Al Qqu [vi 0,vi 0]) fun p22=>Ost (Scl [0] Qe4 [vi rv17.Node,vi rv17.Bit]) (KS ?_)
  refine Oq Vm (Oq (Qar Qe4 0) (Oa (AsV Qea Qmk [.agg #[vi rv17.Node,vi rv17.Bit]] [vi rv17.Node,vi rv17.Bit]) fun c23=>?_))
  refine Jo 0 ?_; rintro a24 k25 rfl
  refine Jl [0] (Ent.cr1 (α:=Qag) (A:=[]) _ rv17 _ aB1 (fun h=>⟨rfl,aL1,aL1⟩)) ?_
  refine Oa (ApO [3,0] Qea Qea Qmk) fun c26=>?_
  refine Jo 0 ?_; rintro a27 k28 rfl
  refine Fb 16 0 fun _=>?_
  have hn30:=la QcO ([rv17]:List Qag)
  refine Oq Va (KS ?_)
  refine Oq Vm (Oq (Qar Qe4 1) (Oa (QCs 4 QtR Qjp Qww (key:=rv17) Que) fun c31=>?_))
  refine Jo 0 ?_; rintro a32 k33 rfl
  refine Fb 16 0 fun _=>?_
  refine Oq Va (KS ?_)
  exact Kg (r2,((QbX next rv17).getD []),(QcO++[rv17]),a32,k33,a27,k28) [1,0,4] ⟨(q3 hM9 (by simp only [Qb6,h15,hg18,cs4])),(Qts hn0 _),iv1⟩
 intro h15
 have g35:=df h15
 refine Ke ?_
 have hR36:=q2 hM9 (.brk QcO) (by simp only [Qb6,h15,cs4])
 refine KS ?_
 refine Oq Vm (Oq Va (KS ?_))
 refine Jl [0] (Ent.freeze _ _) ?_
 have hq:=q4 hrr QcO (by simp only [Qj9,h15,hR36,cs4]); subst hq
 exact Kr (vl a7 k8 QcO) rfl (.tmp rfl .nil) [0,2] trivial
theorem Qzs (s:List QaB) (sa0:Option Addr) (sk0:Nat) (v:QaB) (QqD:Qaa v.From) (QzM:Qaa v.To) (rr:Int) (hrr:Qeg s v=rr):FT Tryz.prog 145 #[vl sa0 sk0 s,.agg #[vi v.From,vi v.To]] [S sa0 sk0 s] (fun g:Unit=>Qaa rr) (fun g=>vi rr) (fun g=>[]):=by
 refine FTi Tryz.func145 fun w0 M0 F0=>?_
 unfold Qaa at QqD QzM
 refine Fb 16 0 fun _=>KS ?_
 refine Oa (Ab [vi v.From,vi v.To]) fun p2=>Oq Va (KS ?_)
 refine Oq Vm (Oq (Qbc Qhq) (Oq Vm (KS ?_)))
 refine Kl (γ:=Nat×Int) (fun (r3,Qfp)=>⟨[(0,vl sa0 sk0 s),(3,p2),(7,vi (s.length:Int)),(8,vi Qfp)],[pv p2 [vi v.From,vi v.To],S sa0 sk0 s],QbU s v r3 Qfp=QbU s v (((s.length:Int) - 0).toNat) 0/\r3=((s.length:Int) - Qfp).toNat/\(0:Int)<=Qfp/\Qfp<=(s.length:Int)/\(-9223372036854775808<=Qfp/\Qfp<=9223372036854775807),r3⟩) (((s.length:Int) - 0).toNat,0) [0,1] ⟨rfl,rfl,aM1,aM1,aM1⟩ ?_
 rintro ⟨r3,Qfp⟩ ⟨hM5,hr6,hi7,hi8,hk9⟩
 refine QaE fun _ _ hL hA=>?_; dsimp only at hL hA; subst hL hA
 refine Fb 16 1 fun _=>KS ?_
 refine Oq Qbo (KS ?_)
 refine Kc ?_ ?_
 ·intro h11
  have g12:=dt h11
  obtain ⟨r13,rfl⟩:=scc (n:=r3) aM1
  refine KS ?_
  refine Oq Vm (Oq Va (KS ?_))
  refine Qcz Qfp.toNat 1 rfl rng fun hb14 hb15=>?_
  unfold Qaa at hb14 hb15
  refine Kq [0,0,0,6,14,31] QcF ?_
  refine Qv [1] (Qar QiC 0) (Qv [] Vm (Qv [] Vm (Qv [2] (Vi Qhq 0) (Qv [0] (Qar QiC 0) (Qv [] (QyF QtH (l:=[v.From,v.To]) (m:=[(s.getD Qfp.toNat default).From,(s.getD Qfp.toNat default).To])) ?_)))))
  refine Qn ⟨by kernel_rfl,?_⟩
  refine Kc ?_ ?_
  ·intro h16
   have g17:=eq_of_beq h16
   refine KS ?_
   refine Oq Vm (Oq Va (KS ?_))
   have hR18:=q2 hM5 (.ret Qfp) (by simp only [QbU,h11,h16,cs4])
   have hq:=q4 hrr Qfp (by simp only [Qeg,h11,h16,hR18,cs4]); subst hq
   exact Kr () rfl (.tmp rfl .nil) [] en
  intro h16
  have g19:=ne_of_beq_false h16
  refine KS ?_
  refine Oq QaS (Oq Vm (KS ?_))
  exact Kg (r13,(Qfp+1)) [1,2] ⟨(q3 hM5 (by simp only [QbU,h11,h16,cs4])),aM1,aM1,aM1,aM1⟩
 intro h11
 have g20:=df h11
 obtain rfl:r3=0:=by omega
 refine Ke ?_
 have hR21:=q2 hM5 (.brk ()) (by simp only [QbU,h11,cs4])
 refine KS ?_
 refine Oq Va (KS ?_)
 have hq:=q4 hrr (-1) (by simp only [Qeg,h11,hR21,cs4]); subst hq
 exact Kr () rfl (.tmp rfl .nil) [] en
theorem Qwe (s:List QaB) (sa0:Option Addr) (sk0:Nat) (v:QaB) (QqD:Qaa v.From) (QzM:Qaa v.To) (rr:Bool) (hrr:Qa2 s v=rr):FT Tryz.prog 105 #[vl sa0 sk0 s,.agg #[vi v.From,vi v.To]] [S sa0 sk0 s] (fun g:Unit=>True) (fun g=>vb rr) (fun g=>[]):=by
 refine FTi Tryz.func105 fun w0 M0 F0=>?_
 unfold Qaa at QqD QzM
 refine Fb 16 0 fun _=>KS ?_
 refine Oa (Ab [vi v.From,vi v.To]) fun p2=>Oq Va (KS ?_)
 refine Oq Vm (Oq (Qar QiC 0) ?_)
 refine QaO (Qeg s v) fun rv3 hg4=>?_
 have hc5:=Qzs s sa0 sk0 v pre pre rv3 hg4
 refine Oc [1] Qyp hc5 ?_
 rintro - he6
 unfold Qaa at he6
 refine Oq Qhv (Oq Va (KS ?_))
 have hq:=q4 hrr (decide (0<=rv3)) (by simp only [Qa2,hg4,cs4]); subst hq
 exact Kr () rfl (.tmp rfl .nil) [] trivial
theorem QBF (s:Qab) (sa1:Option Addr) (sk1:Nat) (sa2:Option Addr) (sk2:Nat) (sa3:Option Addr) (sk3:Nat) (h:Qag) (QcL:Qaa s.Width) (Qvm:Qaa h.Node) (Qvn:Qaa h.Bit) (hv0:QcT s) (hn0:0<=h.Node/\h.Node < (s.Deps.length:Int)) (rr:List Qag) (hrr:Qen s h=rr):FT Tryz.prog 64 #[.agg #[vi s.Width,vl sa1 sk1 s.Deps,vl sa2 sk2 s.Transfers,vl sa3 sk3 s.Boundary],.agg #[vi h.Node,vi h.Bit]] [S sa1 sk1 s.Deps,S sa2 sk2 s.Transfers,S sa3 sk3 s.Boundary] (fun g:Value=>((rr.length:Int)<=65536)) (fun g=>g) (fun g=>[sl g rr]):=by
 refine FTi Tryz.func64 fun w0 M0 F0=>?_
 unfold Qaa at QcL Qvm Qvn
 refine Fb 24 0 fun _=>Fb 88 1 fun _=>Fb 32 2 fun _=>?_
 have hv2:=hv0.tl
 have hv3:=hv0.bl
 have hv4:=hv0.w
 have hv1:=hv0.n
 have hv5:=hv0.dep_n hn0.1 hn0.2
 refine KS ?_
 refine Oa (Ab [vi s.Width,vl sa1 sk1 s.Deps,vl sa2 sk2 s.Transfers,vl sa3 sk3 s.Boundary]) fun p4=>Oa (Ab [vi h.Node,vi h.Bit]) fun p5=>Oq Va (KS ?_)
 refine Oq Va (KS ?_)
 refine Oq (Vfa Qbt 1) (Oq (Qai QfL 1) (Oq (Vfa Qdl 0) (Oq (Qai sh3 0) (Oq (Vi QeN 2) ?_))))
 refine Qef h.Node.toNat 2 rfl rng fun a6 k7=>?_
 refine Fb 8 1 fun _=>Fo 1 fun ho9=>?_
 refine Oq (Vld Qjs 0) (Oq (Qbc QcP) (Oq Vm (KS ?_)))
 refine Jl [] (Ent.osNil (α:=Qag)) ?_
 refine Kl (γ:=Nat×List Qag×Int×Option Addr×Nat) (fun (r10,QfH,QaU,a13,k14)=>⟨[(2,p4),(3,p5),(5,vl a13 k14 QfH),(15,vl a6 k7 (s.Deps.getD h.Node.toNat [])),(16,vi ((s.Deps.getD h.Node.toNat []).length:Int)),(17,vi QaU)],[O a13 k14 QfH,S a6 k7 ((s.Deps.getD h.Node.toNat []):List Int),pv p5 [vi h.Node,vi h.Bit],pv p4 [vi s.Width,vl sa1 sk1 s.Deps,vl sa2 sk2 s.Transfers,vl sa3 sk3 s.Boundary],S sa1 sk1 s.Deps,S sa2 sk2 s.Transfers,S sa3 sk3 s.Boundary],Qdd s h r10 QfH QaU=Qdd s h (((((s.Deps.getD h.Node.toNat []).length:Int):Int) - 0).toNat) [] 0/\r10=((((s.Deps.getD h.Node.toNat []).length:Int):Int) - QaU).toNat/\(0:Int)<=QaU/\(QaU<=((s.Deps.getD h.Node.toNat []).length:Int)\/QaU=0)/\(-9223372036854775808<=QaU/\QaU<=9223372036854775807)/\((QfH.length:Int)<=256*QaU),r10⟩) (((((s.Deps.getD h.Node.toNat []).length:Int):Int) - 0).toNat,[],0,none,0) [0,1,2,3,4,5,6] ⟨rfl,rfl,aM1,(.inr rfl),aM1,iv0⟩ ?_
 rintro ⟨r10,QfH,QaU,a13,k14⟩ ⟨hM15,hr16,hi17,hi18,hk19,hv20⟩
 refine QaE fun _ _ hL hA=>?_; dsimp only at hL hA; subst hL hA
 refine Fb 16 0 fun _=>Fb 8 1 fun _=>Fo 1 fun ho23=>Fb 24 4 fun _=>Fb 88 5 fun _=>Fb 32 6 fun _=>KS ?_
 refine Oq Qbo (KS ?_)
 refine Kc ?_ ?_
 ·intro h27
  have g28:=dt h27
  have hq:=hv0.dep_mem hn0.1 hn0.2 _ (QaA (xs:=s.Deps.getD h.Node.toNat []) (i:=QaU.toNat) (d:=0) aM1)
  obtain ⟨r29,rfl⟩:=scc (n:=r10) aM1
  refine KS ?_
  refine Oq (Vi QcP 1) ?_
  have hb30:=ok1 (i:=QaU.toNat) ho23 rng
  refine Oq (QjF sh3 1) (Oq Va (KS ?_))
  refine Oq (Vfa Qco 3) (Oq (Qai QiS 3) (Oq Vm (Oq (Vi Qhi 5) ?_)))
  refine Qa0 (((s.Deps.getD h.Node.toNat []).getD QaU.toNat 0):Int).toNat 5 rfl rng fun a31 k32 a33 k34 a35 k36 hb37 hb38=>?_
  unfold Qaa at hb37 hb38
  refine Fb 8 1 fun _=>Fb 8 2 fun _=>Fb 16 3 fun _=>?_
  refine Oq (Qar Qdm 0) (Oa (Al QpZ [vi 0,.slice none 0 0,vi 0,.slice none 0 0,.slice none 0 0]) fun p42=>Ost (Scl [0] Qdm [vi (((s.Transfers.getD (((s.Deps.getD h.Node.toNat []).getD QaU.toNat 0):Int).toNat default).Gen).Width),.slice a31 ((((s.Transfers.getD (((s.Deps.getD h.Node.toNat []).getD QaU.toNat 0):Int).toNat default).Gen).Words).length) k32,vi (((s.Transfers.getD (((s.Deps.getD h.Node.toNat []).getD QaU.toNat 0):Int).toNat default).Kill).Width),.slice a33 ((((s.Transfers.getD (((s.Deps.getD h.Node.toNat []).getD QaU.toNat 0):Int).toNat default).Kill).Words).length) k34,.slice a35 (((s.Transfers.getD (((s.Deps.getD h.Node.toNat []).getD QaU.toNat 0):Int).toNat default).Copies).length) k36]) (KS ?_))
  refine Oq (Vfa Qb7 8) (Oq (Qai sh3 8) (Oq Vm (KS ?_)))
  refine Kl (γ:=Nat×List Qag×Int×Option Addr×Nat) (fun (r43,QgJ,QbO,a46,k47)=>⟨[(2,p4),(3,p5),(5,vl a46 k47 QgJ),(15,vl a6 k7 (s.Deps.getD h.Node.toNat [])),(16,vi ((s.Deps.getD h.Node.toNat []).length:Int)),(17,vi QaU),(7,vi ((s.Deps.getD h.Node.toNat []).getD QaU.toNat 0)),(8,p42),(27,vi s.Width),(28,vi QbO)],[O a46 k47 QgJ,Cl p42 [vi (((s.Transfers.getD (((s.Deps.getD h.Node.toNat []).getD QaU.toNat 0):Int).toNat default).Gen).Width),.slice a31 ((((s.Transfers.getD (((s.Deps.getD h.Node.toNat []).getD QaU.toNat 0):Int).toNat default).Gen).Words).length) k32,vi (((s.Transfers.getD (((s.Deps.getD h.Node.toNat []).getD QaU.toNat 0):Int).toNat default).Kill).Width),.slice a33 ((((s.Transfers.getD (((s.Deps.getD h.Node.toNat []).getD QaU.toNat 0):Int).toNat default).Kill).Words).length) k34,.slice a35 (((s.Transfers.getD (((s.Deps.getD h.Node.toNat []).getD QaU.toNat 0):Int).toNat default).Copies).length) k36],S a31 k32 (((s.Transfers.getD (((s.Deps.getD h.Node.toNat []).getD QaU.toNat 0):Int).toNat default).Gen).Words:List (BitVec 64)),S a33 k34 (((s.Transfers.getD (((s.Deps.getD h.Node.toNat []).getD QaU.toNat 0):Int).toNat default).Kill).Words:List (BitVec 64)),S a35 k36 ((s.Transfers.getD (((s.Deps.getD h.Node.toNat []).getD QaU.toNat 0):Int).toNat default).Copies:List QaB),S a6 k7 ((s.Deps.getD h.Node.toNat []):List Int),pv p5 [vi h.Node,vi h.Bit],pv p4 [vi s.Width,vl sa1 sk1 s.Deps,vl sa2 sk2 s.Transfers,vl sa3 sk3 s.Boundary],S sa1 sk1 s.Deps,S sa2 sk2 s.Transfers,S sa3 sk3 s.Boundary],Qa7 h ((s.Deps.getD h.Node.toNat []).getD QaU.toNat 0) (((s.Transfers.getD (((s.Deps.getD h.Node.toNat []).getD QaU.toNat 0):Int).toNat default).Kill).Width) (((s.Transfers.getD (((s.Deps.getD h.Node.toNat []).getD QaU.toNat 0):Int).toNat default).Kill).Words) ((s.Transfers.getD (((s.Deps.getD h.Node.toNat []).getD QaU.toNat 0):Int).toNat default).Copies) r43 QgJ QbO=Qa7 h ((s.Deps.getD h.Node.toNat []).getD QaU.toNat 0) (((s.Transfers.getD (((s.Deps.getD h.Node.toNat []).getD QaU.toNat 0):Int).toNat default).Kill).Width) (((s.Transfers.getD (((s.Deps.getD h.Node.toNat []).getD QaU.toNat 0):Int).toNat default).Kill).Words) ((s.Transfers.getD (((s.Deps.getD h.Node.toNat []).getD QaU.toNat 0):Int).toNat default).Copies) (((s.Width:Int) - 0).toNat) QfH 0/\r43=((s.Width:Int) - QbO).toNat/\(0:Int)<=QbO/\(QbO<=s.Width\/QbO=0)/\(-9223372036854775808<=QbO/\QbO<=9223372036854775807)/\((QgJ.length:Int)<=256*QaU+QbO),r43⟩) (((s.Width:Int) - 0).toNat,QfH,0,a13,k14) [5,0,1,2,3,4,5,6,7,8,9] ⟨rfl,rfl,aM1,(.inr rfl),aM1,iv0⟩ ?_
  rintro ⟨r43,QgJ,QbO,a46,k47⟩ ⟨hM48,hr49,hi50,hi51,hk52,hv53⟩
  refine QaE fun _ _ hL hA=>?_; dsimp only at hL hA; subst hL hA
  refine Fb 16 0 fun _=>Fb 8 2 fun _=>Fb 8 3 fun _=>Fb 16 4 fun _=>Fb 8 5 fun _=>Fo 5 fun ho59=>Fb 24 8 fun _=>Fb 88 9 fun _=>?_
  refine Fb 32 10 fun _=>KS ?_
  refine Oq Qbo (KS ?_)
  refine Kc ?_ ?_
  ·intro h63
   have g64:=dt h63
   obtain ⟨r65,rfl⟩:=scc (n:=r43) aM1
   refine KS ?_
   refine Oq Vm (Oq Va (KS ?_))
   refine Oq Vm (Oq (Vfa Qe8 6) (Oq (Qai sh3 6) (Oq Qcb (Oq Vm ?_))))
   refine Js 35 ?_ ?_
   ·intro h66
    have g67:=eq_of_beq h66
    refine Oq (Vfa QfD 1) (Oq (Qml Qaw 1 [vi (((s.Transfers.getD (((s.Deps.getD h.Node.toNat []).getD QaU.toNat 0):Int).toNat default).Kill).Width),.slice a33 ((((s.Transfers.getD (((s.Deps.getD h.Node.toNat []).getD QaU.toNat 0):Int).toNat default).Kill).Words).length) k34]) (Oq Vm ?_))
    refine QaO (Qei ((s.Transfers.getD (((s.Deps.getD h.Node.toNat []).getD QaU.toNat 0):Int).toNat default).Kill) QbO) fun rv68 hg69=>?_
    have hc70:=Qu9 (((s.Transfers.getD (((s.Deps.getD h.Node.toNat []).getD QaU.toNat 0):Int).toNat default).Kill)) a33 k34 QbO pre pre rv68 hg69
    refine Oc [3] QuD hc70 ?_
    rintro - -
    refine Oq QcN (Oq Vpt (Oq Vm ?_))
    refine Js 42 ?_ ?_
    ·intro h71
     have h73:=not_true h71
     refine Osk (Osk (Osk (Osk (Osk (Osk (Osk (Oq Vpt (KS ?_))))))))
     refine Kt (KS ?_)
     refine Oq Vm (Oq Vm (Oq Vm (Oq (Vbd Qrg [vi ((s.Deps.getD h.Node.toNat []).getD QaU.toNat 0),vi QbO]) (Oa (AsV Qea Qmk [.agg #[vi ((s.Deps.getD h.Node.toNat []).getD QaU.toNat 0),vi QbO]] [vi ((s.Deps.getD h.Node.toNat []).getD QaU.toNat 0),vi QbO]) fun c75=>?_))))
     refine Jo 0 ?_; rintro a76 k77 rfl
     refine Jl [0] (Ent.cr1 (α:=Qag) (A:=[]) _ (Qag.mk ((s.Deps.getD h.Node.toNat []).getD QaU.toNat 0) QbO) _ aB1 (fun h=>⟨rfl,aL1,aL1⟩)) ?_
     refine Oa (ApO [1,0] Qea Qea Qmk) fun c78=>?_
     refine Jo 0 ?_; rintro a79 k80 rfl
     refine Fb 16 0 fun _=>?_
     have hn82:=la QgJ ([(Qag.mk ((s.Deps.getD h.Node.toNat []).getD QaU.toNat 0) QbO)]:List Qag)
     refine Oq Va (KS ?_)
     refine Oq QaS (Oq Vm (KS ?_))
     exact Kg (r65,(QgJ++[(Qag.mk ((s.Deps.getD h.Node.toNat []).getD QaU.toNat 0) QbO)]),(QbO+1),a79,k80) [0,0,0,1,2,3,4,5,6,7,8] ⟨(q3 hM48 (by simp only [Qa7,h63,h66,h71,h73,hg69,cs4])),aM1,aM1,aM1,aM1,iv1⟩
    intro h71
    have h84:=not_false h71
    refine Oq (Vfa Qcw 1) (Oq (Qai Qi5 1) (Oq Vm (Oq (Vfa Qe8 6) (Oq (Qai sh3 6) (Oq (Vbd Qpj [vi QbO,vi h.Bit]) ?_)))))
    refine QaO (Qa2 ((s.Transfers.getD (((s.Deps.getD h.Node.toNat []).getD QaU.toNat 0):Int).toNat default).Copies) (QaB.mk QbO h.Bit)) fun rv86 hg87=>?_
    have hc88:=Qwe ((s.Transfers.getD (((s.Deps.getD h.Node.toNat []).getD QaU.toNat 0):Int).toNat default).Copies) a35 k36 ((QaB.mk QbO h.Bit)) pre pre rv86 hg87
    refine Oc [4] Qxs hc88 ?_
    rintro - -
    refine Oq Vpf (KS ?_)
    refine Kc ?_ ?_
    ·intro h89
     refine KS ?_
     refine Oq Vm (Oq Vm (Oq Vm (Oq (Vbd Qrg [vi ((s.Deps.getD h.Node.toNat []).getD QaU.toNat 0),vi QbO]) (Oa (AsV Qea Qmk [.agg #[vi ((s.Deps.getD h.Node.toNat []).getD QaU.toNat 0),vi QbO]] [vi ((s.Deps.getD h.Node.toNat []).getD QaU.toNat 0),vi QbO]) fun c91=>?_))))
     refine Jo 0 ?_; rintro a92 k93 rfl
     refine Jl [0] (Ent.cr1 (α:=Qag) (A:=[]) _ (Qag.mk ((s.Deps.getD h.Node.toNat []).getD QaU.toNat 0) QbO) _ aB1 (fun h=>⟨rfl,aL1,aL1⟩)) ?_
     refine Oa (ApO [1,0] Qea Qea Qmk) fun c94=>?_
     refine Jo 0 ?_; rintro a95 k96 rfl
     refine Fb 16 0 fun _=>?_
     have hn98:=la QgJ ([(Qag.mk ((s.Deps.getD h.Node.toNat []).getD QaU.toNat 0) QbO)]:List Qag)
     refine Oq Va (KS ?_)
     refine Oq QaS (Oq Vm (KS ?_))
     exact Kg (r65,(QgJ++[(Qag.mk ((s.Deps.getD h.Node.toNat []).getD QaU.toNat 0) QbO)]),(QbO+1),a95,k96) [0,0,0,1,2,3,4,5,6,7,8] ⟨(q3 hM48 (by simp only [Qa7,h63,h66,h71,h84,h89,hg69,hg87,cs4])),aM1,aM1,aM1,aM1,iv1⟩
    intro h89
    refine KS ?_
    refine Oq QaS (Oq Vm (KS ?_))
    exact Kg (r65,QgJ,(QbO+1),a46,k47) [0,0,0,1,2,3,4,5,6,7,8] ⟨(q3 hM48 (by simp only [Qa7,h63,h66,h71,h84,h89,hg69,hg87,cs4])),aM1,aM1,aM1,aM1,iv1⟩
   intro h66
   have g100:=ne_of_beq_false h66
   refine Osk (Osk (Osk (Osk (Osk (Oq Vpf (Oq Vm (Oq (Vfa Qcw 1) (Oq (Qai Qi5 1) (Oq Vm ?_)))))))))
   refine Oq (Vfa Qe8 6) (Oq (Qai sh3 6) (Oq (Vbd Qpj [vi QbO,vi h.Bit]) ?_))
   refine QaO (Qa2 ((s.Transfers.getD (((s.Deps.getD h.Node.toNat []).getD QaU.toNat 0):Int).toNat default).Copies) (QaB.mk QbO h.Bit)) fun rv101 hg102=>?_
   have hc103:=Qwe ((s.Transfers.getD (((s.Deps.getD h.Node.toNat []).getD QaU.toNat 0):Int).toNat default).Copies) a35 k36 ((QaB.mk QbO h.Bit)) pre pre rv101 hg102
   refine Oc [4] Qxs hc103 ?_
   rintro - -
   refine Oq Vpf (KS ?_)
   refine Kc ?_ ?_
   ·intro h104
    refine KS ?_
    refine Oq Vm (Oq Vm (Oq Vm (Oq (Vbd Qrg [vi ((s.Deps.getD h.Node.toNat []).getD QaU.toNat 0),vi QbO]) (Oa (AsV Qea Qmk [.agg #[vi ((s.Deps.getD h.Node.toNat []).getD QaU.toNat 0),vi QbO]] [vi ((s.Deps.getD h.Node.toNat []).getD QaU.toNat 0),vi QbO]) fun c106=>?_))))
    refine Jo 0 ?_; rintro a107 k108 rfl
    refine Jl [0] (Ent.cr1 (α:=Qag) (A:=[]) _ (Qag.mk ((s.Deps.getD h.Node.toNat []).getD QaU.toNat 0) QbO) _ aB1 (fun h=>⟨rfl,aL1,aL1⟩)) ?_
    refine Oa (ApO [1,0] Qea Qea Qmk) fun c109=>?_
    refine Jo 0 ?_; rintro a110 k111 rfl
    refine Fb 16 0 fun _=>?_
    have hn113:=la QgJ ([(Qag.mk ((s.Deps.getD h.Node.toNat []).getD QaU.toNat 0) QbO)]:List Qag)
    refine Oq Va (KS ?_)
    refine Oq QaS (Oq Vm (KS ?_))
    exact Kg (r65,(QgJ++[(Qag.mk ((s.Deps.getD h.Node.toNat []).getD QaU.toNat 0) QbO)]),(QbO+1),a110,k111) [0,0,0,1,2,3,4,5,6,7,8] ⟨(q3 hM48 (by simp only [Qa7,h63,h66,h104,hg102,cs4])),aM1,aM1,aM1,aM1,iv1⟩
   intro h104
   refine KS ?_
   refine Oq QaS (Oq Vm (KS ?_))
   exact Kg (r65,QgJ,(QbO+1),a46,k47) [0,0,0,1,2,3,4,5,6,7,8] ⟨(q3 hM48 (by simp only [Qa7,h63,h66,h104,hg102,cs4])),aM1,aM1,aM1,aM1,iv1⟩
  intro h63
  have g115:=df h63
  obtain rfl:r43=0:=by omega
  refine Ke ?_
  have hR116:=q2 hM48 QgJ (by simp only [Qa7,h63,cs4])
  refine KS ?_
  refine Oq QaS (Oq Vm (KS ?_))
  exact Kg (r29,QgJ,(QaU+1),a46,k47) [0,4,5,6,7,8,9] ⟨(q3 hM15 (by simp only [Qdd,h27,h63,hR116,cs4])),aM1,aM1,aM1,aM1,iv1⟩
 intro h27
 have g117:=df h27
 obtain rfl:r10=0:=by omega
 refine Ke ?_
 have hR118:=q2 hM15 QfH (by simp only [Qdd,h27,cs4])
 refine KS ?_
 refine Oq Vm (Oq Va (KS ?_))
 refine Jl [0] (Ent.freeze _ _) ?_
 have hq:=q4 hrr QfH (by simp only [Qen,h27,hR118,cs4]); subst hq
 exact Kr (vl a13 k14 QfH) rfl (.tmp rfl .nil) [0] en
theorem QzT (s:Qab) (sa1:Option Addr) (sk1:Nat) (sa2:Option Addr) (sk2:Nat) (sa3:Option Addr) (sk3:Nat) (n:Int) (bit:Int) (QcL:Qaa s.Width) (Qf1:Qaa n) (QfG:Qaa bit) (rr:List Qag×Bool×Int) (hrr:QfO s n bit=rr):FT Tryz.prog 25 #[.agg #[vi s.Width,vl sa1 sk1 s.Deps,vl sa2 sk2 s.Transfers,vl sa3 sk3 s.Boundary],vi n,vi bit] [S sa1 sk1 s.Deps,S sa2 sk2 s.Transfers,S sa3 sk3 s.Boundary] (fun g:Value=>Qaa rr.2.2) (fun g=>.tuple #[g,vb rr.2.1,vi rr.2.2]) (fun g=>[sl g rr.1]):=by
 refine FTi Tryz.func25 fun w0 M0 F0=>?_
 unfold Qaa at QcL Qf1 QfG
 refine Fb 24 0 fun _=>Fb 88 1 fun _=>Fb 32 2 fun _=>KS ?_
 refine Oa (Ab [vi s.Width,vl sa1 sk1 s.Deps,vl sa2 sk2 s.Transfers,vl sa3 sk3 s.Boundary]) fun p4=>Oq Va (Oq Va (Oq Va (KS ?_)))
 refine Oq (Qar Qeh 0) (Oq Vm (Oq Vm ?_))
 refine QaO (Qap s n bit) fun rv5 hg6=>?_
 have hc7:=QxH s sa1 sk1 sa2 sk2 sa3 sk3 n bit pre pre pre rv5 hg6
 refine Oc [1,2,3] QxC hc7 ?_
 rintro - he8
 unfold Qaa at he8
 refine Oq Va (KS ?_)
 refine Oq Vm (Oq Qf4 (KS ?_))
 refine Kc ?_ ?_
 ·intro h9
  have g10:=Qax h9
  refine KS ?_
  refine Oq Vm (Oq Va (Oq Va (Oq Va (KS ?_))))
  refine Jl [] (Ent.slNil (α:=Qag)) ?_
  have hq:=q4 hrr (([]:List Qag),false,rv5) (by simp only [QfO,h9,hg6,cs4]); subst hq
  exact Kr (.slice none 0 0) rfl (.tmp rfl (.tmp rfl (.tmp rfl .nil))) [0] en
 intro h9
 have g11:=Qae h9
 have hwa:=Qn4 (by assumption:Qap s _ _=rv5) h9; have hwb:=hwa.1.bl; have hww:=hwa.1.w; have hwn:=hwa.1.n; have hwt:=hwa.1.tl; have hdw:=Qu5 hwa.1; have hwr:Qfv s (Qag.mk n bit):=hwa.2
 refine KS ?_
 refine Oq Vm (Oq Vm (Oq (Vbd Qrg [vi n,vi bit]) (Oa (Al Qqu [vi 0,vi 0]) fun p12=>Ost (Scl [0] Qe4 [vi n,vi bit]) (KS ?_))))
 refine Oa (QAx (κ:=Qag) (α:=Qag) (ek:=Qfd) (ok:=Qey)) fun p13=>?_
 refine QA2 (ks:=[]) 0 ?_; rintro b14 rfl
 refine Oq (Qar Qe4 1) ?_
 refine Jl [] (Ent.slNil (α:=Qag)) ?_
 refine Ost (QB2 [1,0] QtR Qjp ([]:List Qag) (key:=(Qag.mk n bit)) Que) (Oq Vm (Oq Va (KS ?_)))
 refine Oq (Qar Qe4 2) (Oa (AsV Qea Qmk [.agg #[vi n,vi bit]] [vi n,vi bit]) fun c15=>?_)
 refine Jo 0 ?_; rintro a16 k17 rfl
 refine Oq Va (KS ?_)
 refine Jl [0] (Ent.cr1 (α:=Qag) (A:=[]) _ (Qag.mk n bit) _ aB1 (fun h=>⟨rfl,aL1,aL1⟩)) ?_
 refine Fb 16 0 fun _=>?_
 have hterm26:Qdt s ((s.Deps.length*s.Width.toNat:Nat)+2) (mset ([]:List (Qag×List Qag)) (Qag.mk n bit) ([]:List Qag)) [(Qag.mk n bit)]≠LR.oof:=(Qwd hwa.1 hwa.2.1 hwa.2.2)
 refine Kl (γ:=Nat×(List (Qag×List Qag))×List Qag×Option Addr×Nat) (fun (r19,QeE,QaG,a22,k23)=>⟨[(3,p4),(11,(mv b14)),(12,vl a22 k23 QaG)],[O a22 k23 QaG,MS Qag Qfd Qey (mv b14) QeE,pv p4 [vi s.Width,vl sa1 sk1 s.Deps,vl sa2 sk2 s.Transfers,vl sa3 sk3 s.Boundary],S sa1 sk1 s.Deps,S sa2 sk2 s.Transfers,S sa3 sk3 s.Boundary],Qdt s r19 QeE QaG=Qdt s ((s.Deps.length*s.Width.toNat:Nat)+2) (mset ([]:List (Qag×List Qag)) (Qag.mk n bit) ([]:List Qag)) [(Qag.mk n bit)]/\(∃ k,QkY s (Qag.mk n bit) k QeE QaG),r19⟩) (((s.Deps.length*s.Width.toNat:Nat)+2),(mset ([]:List (Qag×List Qag)) (Qag.mk n bit) ([]:List Qag)),[(Qag.mk n bit)],a16,k17) [0,0,2,3,4,5] ⟨rfl,⟨0,QrM _ _⟩⟩ ?_
 rintro ⟨r19,QeE,QaG,a22,k23⟩ ⟨hM24,hv25⟩
 refine QaE fun _ _ hL hA=>?_; dsimp only at hL hA; subst hL hA
 refine Fb 16 0 fun _=>Fb 24 3 fun _=>Fb 88 4 fun _=>Fb 32 5 fun _=>?_
 rcases r19 with _ | r19
 ·exact absurd (hM24.symm.trans rfl) hterm26
 refine KS ?_
 refine Oq Vm ?_
 refine Jl [0] (Ent.freeze _ _) ?_
 refine QaO (Qcl QaG) fun rv32 hg33=>?_
 have hc34:=QBj QaG a22 k23 rv32 hg33
 refine Oc [0] QAH hc34 ?_
 rintro c31 he35
 refine Jo 0 ?_; rintro a36 k37 rfl
 refine Fb 16 0 fun _=>Oq (Vf [p4]) ?_
 refine Qic (Ent.pall [3,4,5,6] rfl rfl) ?_
 refine QaO (Qa1 rv32 (fun x=>Qd6 x s)) fun rv40 hg41=>?_
 have hc42:=QBW rv32 a36 k37 62 [p4] (fun x=>Qd6 x s) [pv p4 [vi s.Width,vl sa1 sk1 s.Deps,vl sa2 sk2 s.Transfers,vl sa3 sk3 s.Boundary],S sa1 sk1 s.Deps,S sa2 sk2 s.Transfers,S sa3 sk3 s.Boundary] QBb (fun x hx hq0 hq1=>Qgc (A1:=_) (QCn x  p4 s sa1 sk1 sa2 sk2 sa3 sk3 hq0 hq1 pre hwa.1 (QnN hwa.1 hwr (by assumption:∃ k,QkY s _ k _ _) _ (Qq5 (by assumption) hx)).1 _ rfl)) rv40 hg41
 refine Oc [1,0] QB0 hc42 ?_
 rintro c39 -
 refine Jo 0 ?_; rintro a43 k44 rfl
 refine Fb 16 0 fun _=>?_
 refine Oq Va (KS ?_)
 refine Oq Vm (Oq (Qbc Qea) (Oq QgZ (KS ?_)))
 refine Kc ?_ ?_
 ·intro h46
  have g47:=dt h46
  refine KS ?_
  refine Oq Vm (Oq Vm ?_)
  refine Jl [0] (Ent.freeze _ _) ?_
  refine QaO (Qj9 rv40 QeE) fun rv49 hg50=>?_
  have hc51:=QAB rv40 a43 k44 (mv b14) QeE (QsS hwa.1 hwr (by assumption:∃ k,QkY s _ k _ _) (by assumption) (by assumption)) (QvY hwa.1 hwr (by assumption:∃ k,QkY s _ k _ _)) (by have:=QsT hwa.1 hwr (by assumption:∃ k,QkY s _ k _ _); omega) (Quz (by assumption:∃ k,QkY s _ k _ _) (by assumption) (by assumption) aM1) rv49 hg50
  refine Oc [0,3] QBm hc51 ?_
  rintro c48 -
  refine Jo 0 ?_; rintro a52 k53 rfl
  refine Fb 16 0 fun _=>?_
  refine Oq Va (Oq Va (Oq Va (KS ?_)))
  have hR55:=q2 hM24 (.ret (rv49,true,0)) (by simp only [Qdt,h46,hg33,hg41,hg50,cs4])
  have hq:=q4 hrr (rv49,true,0) (by simp only [QfO,h9,h46,hg6,hg33,hg41,hg50,hR55,cs4]); subst hq
  exact Kr (vl a52 k53 rv49) rfl (.tmp rfl (.tmp rfl (.tmp rfl .nil))) [0] en
 intro h46
 have g56:=df h46
 refine KS ?_
 refine Oa (QAG (κ:=Qag) (α:=Qag) (ek:=Qfd) (ok:=Qey)) fun p57=>?_
 refine QBc 0 ?_; rintro b58 rfl
 refine Oq Va (KS ?_)
 refine Oq Va (KS ?_)
 refine Oq Vm (Oq (Qbc Qea) (Oq Vm (KS ?_)))
 refine Jl [] (Ent.osNil (α:=Qag)) ?_
 refine Kl (γ:=Nat×(List (Qag×List Qag))×List Qag×Int×Option Addr×Nat) (fun (r59,Qe0,Qdy,QbP,a63,k64)=>⟨[(3,p4),(11,(mv b14)),(14,(mv b58)),(15,vl a63 k64 Qdy),(50,vl a22 k23 QaG),(51,vi (QaG.length:Int)),(52,vi QbP)],[O a63 k64 Qdy,MO Qag Qfd Qey (mv b58) Qe0,Qgg [pv p4 [vi s.Width,vl sa1 sk1 s.Deps,vl sa2 sk2 s.Transfers,vl sa3 sk3 s.Boundary],S sa1 sk1 s.Deps,S sa2 sk2 s.Transfers,S sa3 sk3 s.Boundary],S a22 k23 QaG,MS Qag Qfd Qey (mv b14) QeE,pv p4 [vi s.Width,vl sa1 sk1 s.Deps,vl sa2 sk2 s.Transfers,vl sa3 sk3 s.Boundary],S sa1 sk1 s.Deps,S sa2 sk2 s.Transfers,S sa3 sk3 s.Boundary],QcZ s QeE QaG r59 Qe0 Qdy QbP=QcZ s QeE QaG (((QaG.length:Int) - 0).toNat) [] [] 0/\r59=((QaG.length:Int) - QbP).toNat/\(0:Int)<=QbP/\QbP<=(QaG.length:Int)/\(-9223372036854775808<=QbP/\QbP<=9223372036854775807)/\(∀ e∈Qe0,e.2≠[])/\(∀ e∈Qe0,(e.2.length:Int)<=70000*QbP)/\((Qdy.length:Int)<=70000*QbP),r59⟩) (((QaG.length:Int) - 0).toNat,[],[],0,none,0) [0,0,1,2,3,3,4,5,6] ⟨rfl,rfl,aM1,aM1,aM1,(fun e h=>(by cases h)),(fun e h=>(by cases h)),iv0⟩ ?_
 rintro ⟨r59,Qe0,Qdy,QbP,a63,k64⟩ ⟨hM65,hr66,hi67,hi68,hk69,hv70,hv71,hv72⟩
 refine QaE fun _ _ hL hA=>?_; dsimp only at hL hA; subst hL hA
 refine Fb 16 0 fun _=>Fb 16 3 fun _=>Fb 24 6 fun _=>Fb 88 7 fun _=>Fb 32 8 fun _=>KS ?_
 refine Oq Qbo (KS ?_)
 refine Kc ?_ ?_
 ·intro h78
  have g79:=dt h78
  have hlr:=QnN hwa.1 hwr (by assumption:∃ k,QkY s _ k _ _) _ (QaA (xs:=QaG) (i:=QbP.toNat) (d:=default) aM1)
  have hlq:=Qrc hwa.1 hwr (by assumption:∃ k,QkY s _ k _ _)
  obtain ⟨r80,rfl⟩:=scc (n:=r59) aM1
  refine KS ?_
  refine Oq (Vi Qea 3) ?_
  refine Qci QbP.toNat 3 rfl rng fun hb81 hb82=>?_
  unfold Qaa at hb81 hb82
  refine Oq (Qar Qe4 0) (Oa (Al Qqu [vi 0,vi 0]) fun p83=>Ost (Scl [0] Qe4 [vi ((QaG.getD QbP.toNat default).Node),vi ((QaG.getD QbP.toNat default).Bit)]) (KS ?_))
  refine Oq (Qar Qeh 7) (Oq (Qar Qe4 0) ?_)
  refine QaO (Qen s (QaG.getD QbP.toNat default)) fun rv85 hg86=>?_
  have hc87:=QBF s sa1 sk1 sa2 sk2 sa3 sk3 ((QaG.getD QbP.toNat default)) pre pre pre hwa.1 hlr.1 rv85 hg86
  refine Oc [8,9,10] QBO hc87 ?_
  rintro c84 he88
  refine Jo 0 ?_; rintro a89 k90 rfl
  refine Fb 16 0 fun _=>?_
  refine Oq (Qbc Qea) (Oq Vm (KS ?_))
  refine Kl (γ:=Nat×(List (Qag×List Qag))×List Qag×Int×Option Addr×Nat) (fun (r92,Qcp,Qdz,QbS,a96,k97)=>⟨[(3,p4),(11,(mv b14)),(14,(mv b58)),(15,vl a96 k97 Qdz),(50,vl a22 k23 QaG),(51,vi (QaG.length:Int)),(52,vi QbP),(17,p83),(58,vl a89 k90 rv85),(59,vi (rv85.length:Int)),(60,vi QbS)],[O a96 k97 Qdz,S a89 k90 rv85,Cl p83 [vi ((QaG.getD QbP.toNat default).Node),vi ((QaG.getD QbP.toNat default).Bit)],MO Qag Qfd Qey (mv b58) Qcp,Qgg [pv p4 [vi s.Width,vl sa1 sk1 s.Deps,vl sa2 sk2 s.Transfers,vl sa3 sk3 s.Boundary],S sa1 sk1 s.Deps,S sa2 sk2 s.Transfers,S sa3 sk3 s.Boundary],S a22 k23 QaG,MS Qag Qfd Qey (mv b14) QeE,pv p4 [vi s.Width,vl sa1 sk1 s.Deps,vl sa2 sk2 s.Transfers,vl sa3 sk3 s.Boundary],S sa1 sk1 s.Deps,S sa2 sk2 s.Transfers,S sa3 sk3 s.Boundary],Qb3 QeE ((QaG.getD QbP.toNat default).Node) ((QaG.getD QbP.toNat default).Bit) rv85 r92 Qcp Qdz QbS=Qb3 QeE ((QaG.getD QbP.toNat default).Node) ((QaG.getD QbP.toNat default).Bit) rv85 (((rv85.length:Int) - 0).toNat) Qe0 Qdy 0/\r92=((rv85.length:Int) - QbS).toNat/\(0:Int)<=QbS/\QbS<=(rv85.length:Int)/\(-9223372036854775808<=QbS/\QbS<=9223372036854775807)/\(∀ e∈Qcp,e.2≠[])/\(∀ e∈Qcp,(e.2.length:Int)<=70000*QbP+QbS)/\((Qdz.length:Int)<=70000*QbP+QbS),r92⟩) (((rv85.length:Int) - 0).toNat,Qe0,Qdy,0,a63,k64) [3,0,1,2,2,3,4,4,5,6,7] ⟨rfl,rfl,aM1,aM1,aM1,(by assumption),(fun e h=>Int.le_trans ((by assumption:∀ e∈_,(e.2.length:Int)<=_) e h) aM1),iv0⟩ ?_
  rintro ⟨r92,Qcp,Qdz,QbS,a96,k97⟩ ⟨hM98,hr99,hi100,hi101,hk102,hv103,hv104,hv105⟩
  refine QaE fun _ _ hL hA=>?_; dsimp only at hL hA; subst hL hA
  refine Fb 16 0 fun _=>Fb 16 1 fun _=>Fb 16 5 fun _=>Fb 24 8 fun _=>Fb 88 9 fun _=>Fb 32 10 fun _=>KS ?_
  refine Oq Qbo (KS ?_)
  refine Kc ?_ ?_
  ·intro h112
   have g113:=dt h112
   obtain ⟨r114,rfl⟩:=scc (n:=r92) aM1
   refine KS ?_
   refine Oq (Vi Qea 1) ?_
   refine Qci QbS.toNat 1 rfl rng fun hb115 hb116=>?_
   unfold Qaa at hb115 hb116
   refine Oq (Qar Qe4 0) (Oa (Al Qqu [vi 0,vi 0]) fun p117=>Ost (Scl [0] Qe4 [vi ((rv85.getD QbS.toNat default).Node),vi ((rv85.getD QbS.toNat default).Bit)]) (KS ?_))
   refine Oq Vm (Oq (Qar Qe4 0) (Oa (Qy5 8 QtR Qjp Qww (key:=(rv85.getD QbS.toNat default)) Que) fun c118=>?_))
   refine Jo 0 ?_; rintro a119 k120 rfl
   refine Fb 16 0 fun _=>?_
   refine Oq Vm (Oq Vx (Oq Vx (Oq Va (Oq Va (KS ?_)))))
   refine Oq Vm (KS ?_)
   refine Kc ?_ ?_
   ·intro h122
    refine Ke ?_
    refine KS ?_
    refine Oq QaS (Oq Vm (KS ?_))
    exact Kg (r114,Qcp,Qdz,(QbS+1),a96,k97) [3,3,4,4,4,5,6,6,7,8,9] ⟨(q3 hM98 (by simp only [Qb3,h112,h122,cs4])),aM1,aM1,aM1,aM1,(by first | assumption | exact Qns (by assumption)),(by first | exact Qlt (by assumption) aM1 aM1 | exact fun e h=>Int.le_trans ((by assumption:∀ e∈_,(e.2.length:Int)<=_) e h) aM1),iv1⟩
   intro h122
   refine KS ?_
   refine Oq Vm (Oq (Qar Qe4 1) ?_)
   refine Qwp (key:=(rv85.getD QbS.toNat default)) 6 QtR Qjp Qww Que (fun h=>QBh (by assumption) h) ?_ ?_
   ·intro h125
    refine Oq (QxB QyW) (KS ?_)
    refine Kt (KS ?_)
    refine Oq Vm (Oq (Qar Qe4 1) (Oa (AsV Qea Qmk [.agg #[vi ((rv85.getD QbS.toNat default).Node),vi ((rv85.getD QbS.toNat default).Bit)]] [vi ((rv85.getD QbS.toNat default).Node),vi ((rv85.getD QbS.toNat default).Bit)]) fun c130=>?_))
    refine Jo 0 ?_; rintro a131 k132 rfl
    refine Jl [0] (Ent.cr1 (α:=Qag) (A:=[]) _ (rv85.getD QbS.toNat default) _ aB1 (fun h=>⟨rfl,aL1,aL1⟩)) ?_
    refine Oa (ApO [4,0] Qea Qea Qmk) fun c133=>?_
    refine Jo 0 ?_; rintro a134 k135 rfl
    refine Fb 16 0 fun _=>?_
    have hn137:=la Qdz ([(rv85.getD QbS.toNat default)]:List Qag)
    refine Oq Va (KS ?_)
    refine Oq Vm (Oq (Qar Qe4 2) (Oq (Qar Qe4 5) (Oa (AsV Qea Qmk [.agg #[vi ((QaG.getD QbP.toNat default).Node),vi ((QaG.getD QbP.toNat default).Bit)]] [vi ((QaG.getD QbP.toNat default).Node),vi ((QaG.getD QbP.toNat default).Bit)]) fun c138=>?_)))
    refine Jo 0 ?_; rintro a139 k140 rfl
    refine Oa (Amo [7] QtR Qjp Qww (key:=(rv85.getD QbS.toNat default)) Que) fun ⟨c141,Qol⟩=>?_
    refine Jo 0 ?_; rintro a143 k144 rfl
    refine Fb 16 0 fun _=>?_
    have hml:=Qq0 (m:=Qcp) (by assumption:∀ e∈Qcp,(e.2.length:Int)<=_) aM1 (rv85.getD QbS.toNat default)
    refine Oq Vx ?_
    refine Jl [2] (Ent.cr1 (α:=Qag) (A:=[]) _ (QaG.getD QbP.toNat default) _ aB1 (fun h=>⟨rfl,aL1,aL1⟩)) ?_
    refine Oa (ApO [1,0] Qea Qea Qmk) fun c146=>?_
    refine Jo 0 ?_; rintro a147 k148 rfl
    refine Fb 16 0 fun _=>?_
    have hn150:=la (((QbX Qcp (rv85.getD QbS.toNat default)).getD []):List Qag) ([(QaG.getD QbP.toNat default)]:List Qag)
    refine Oq Vx (Ost (Seo [1,0]) (KS ?_))
    refine Oq QaS (Oq Vm (KS ?_))
    exact Kg (r114,(mset ((mset Qcp (rv85.getD QbS.toNat default) ((QbX Qcp (rv85.getD QbS.toNat default)).getD [])):List (Qag×List Qag)) (rv85.getD QbS.toNat default) ((((QbX Qcp (rv85.getD QbS.toNat default)).getD [])++[(QaG.getD QbP.toNat default)]):List Qag)),(Qdz++[(rv85.getD QbS.toNat default)]),(QbS+1),a134,k135) [1,4,5,0,4,5,6,6,7,8,9] ⟨(q3 hM98 (by simp only [Qb3,h112,h122,h125,cs4])),aM1,aM1,aM1,aM1,(by first | assumption | exact Qns (by assumption)),(by first | exact Qlt (by assumption) aM1 aM1 | exact fun e h=>Int.le_trans ((by assumption:∀ e∈_,(e.2.length:Int)<=_) e h) aM1),iv1⟩
   intro ad126 n127 k128 h125
   refine Oq (QxB QyW) (KS ?_)
   refine Kf (KS ?_)
   refine Oq Vm (Oq (Qar Qe4 1) (Oq (Qar Qe4 5) (Oa (AsV Qea Qmk [.agg #[vi ((QaG.getD QbP.toNat default).Node),vi ((QaG.getD QbP.toNat default).Bit)]] [vi ((QaG.getD QbP.toNat default).Node),vi ((QaG.getD QbP.toNat default).Bit)]) fun c152=>?_)))
   refine Jo 0 ?_; rintro a153 k154 rfl
   refine Oa (Amo [7] QtR Qjp Qww (key:=(rv85.getD QbS.toNat default)) Que) fun ⟨c155,st156⟩=>?_
   refine Jo 0 ?_; rintro a157 k158 rfl
   refine Fb 16 0 fun _=>?_
   have hml:=Qq0 (m:=Qcp) (by assumption:∀ e∈Qcp,(e.2.length:Int)<=_) aM1 (rv85.getD QbS.toNat default)
   refine Oq Vx ?_
   refine Jl [2] (Ent.cr1 (α:=Qag) (A:=[]) _ (QaG.getD QbP.toNat default) _ aB1 (fun h=>⟨rfl,aL1,aL1⟩)) ?_
   refine Oa (ApO [1,0] Qea Qea Qmk) fun c160=>?_
   refine Jo 0 ?_; rintro a161 k162 rfl
   refine Fb 16 0 fun _=>?_
   have hn164:=la (((QbX Qcp (rv85.getD QbS.toNat default)).getD []):List Qag) ([(QaG.getD QbP.toNat default)]:List Qag)
   refine Oq Vx (Ost (Seo [1,0]) (KS ?_))
   refine Oq QaS (Oq Vm (KS ?_))
   exact Kg (r114,(mset ((mset Qcp (rv85.getD QbS.toNat default) ((QbX Qcp (rv85.getD QbS.toNat default)).getD [])):List (Qag×List Qag)) (rv85.getD QbS.toNat default) ((((QbX Qcp (rv85.getD QbS.toNat default)).getD [])++[(QaG.getD QbP.toNat default)]):List Qag)),Qdz,(QbS+1),a96,k97) [4,4,5,0,4,5,6,6,7,8,9] ⟨(q3 hM98 (by simp only [Qb3,h112,h122,h125,cs4])),aM1,aM1,aM1,aM1,(by first | assumption | exact Qns (by assumption)),(by first | exact Qlt (by assumption) aM1 aM1 | exact fun e h=>Int.le_trans ((by assumption:∀ e∈_,(e.2.length:Int)<=_) e h) aM1),iv1⟩
  intro h112
  have g165:=df h112
  obtain rfl:r92=0:=by omega
  refine Ke ?_
  have hR166:=q2 hM98 (Qcp,Qdz) (by simp only [Qb3,h112,cs4])
  refine KS ?_
  refine Oq QaS (Oq Vm (KS ?_))
  exact Kg (r80,Qcp,Qdz,(QbP+1),a96,k97) [0,2,2,3,4,4,5,6,7] ⟨(q3 hM65 (by simp only [QcZ,h78,h112,hg86,hR166,cs4])),aM1,aM1,aM1,aM1,(by assumption),(fun e h=>Int.le_trans ((by assumption:∀ e∈_,(e.2.length:Int)<=_) e h) aM1),iv1⟩
 intro h78
 have g167:=df h78
 obtain rfl:r59=0:=by omega
 refine Ke ?_
 have hR168:=q2 hM65 (Qe0,Qdy) (by simp only [QcZ,h78,cs4])
 refine KS ?_
 refine Oq Vm (Oq (Qbc Qea) (Oq Qcb (KS ?_)))
 refine Kc ?_ ?_
 ·intro h169
  have g170:=eq_of_beq h169
  refine KS ?_
  refine Oq Va (Oq Va (Oq Va (KS ?_)))
  refine Jl [] (Ent.slNil (α:=Qag)) ?_
  have hR171:=q2 hM24 (.ret (([]:List Qag),false,0)) (by simp only [Qdt,h46,h78,h169,hg33,hg41,hR168,cs4])
  have hq:=q4 hrr (([]:List Qag),false,0) (by simp only [QfO,h9,h46,h78,h169,hg6,hg33,hg41,hR168,hR171,cs4]); subst hq
  exact Kr (.slice none 0 0) rfl (.tmp rfl (.tmp rfl (.tmp rfl .nil))) [0] en
 intro h169
 have g172:=ne_of_beq_false h169
 refine KS ?_
 refine Oq Vm ?_
 refine Jl [1] Ent.moF ?_
 refine Jl [0] Ent.msfacts ?_
 refine Jf 0 rfl ?_; intro hmf174
 refine Jk [1,1,1,2,3,3,4,5,6] ?_
 refine Oa (QB4 [0] QtR) fun p173=>KS ?_
 refine Kl (γ:=(List (Qag×List Qag))×(List (Qag×List Qag))×(List (Qag×List Qag))) (fun (dn177,rs178,Qlr)=>⟨[(3,p4),(11,(mv b14)),(15,vl a63 k64 Qdy),(93,p173)],[MSI Qag Qfd Qey (mv b58) p173 Qe0 (dn177:List (Qag×List Qag)) (rs178:List (Qag×List Qag)),O a63 k64 Qdy,Qgg [pv p4 [vi s.Width,vl sa1 sk1 s.Deps,vl sa2 sk2 s.Transfers,vl sa3 sk3 s.Boundary],S sa1 sk1 s.Deps,S sa2 sk2 s.Transfers,S sa3 sk3 s.Boundary],MS Qag Qfd Qey (mv b14) Qlr,pv p4 [vi s.Width,vl sa1 sk1 s.Deps,vl sa2 sk2 s.Transfers,vl sa3 sk3 s.Boundary],S sa1 sk1 s.Deps,S sa2 sk2 s.Transfers,S sa3 sk3 s.Boundary],Qbg dn177 QeE=Qlr/\(∀ e∈rs178,Qey e.1),rs178.length⟩) ([],Qe0,QeE) [0,0,0,2,2,3,4,5] ⟨rfl,hmf174.2⟩ ?_
 rintro ⟨dn177,rs178,Qlr⟩ ⟨hM179,hv180⟩
 refine QaE fun _ _ hL hA=>?_; dsimp only at hL hA; subst hL hA
 refine Fb 16 1 fun _=>Fb 24 5 fun _=>Fb 88 6 fun _=>Fb 32 7 fun _=>KS ?_
 refine QA5 [0] ?_ ?_
 ·intro hz185
  have hz185l:=congrArg List.length hz185
  refine Oq Vx (KS ?_)
  refine Kf ?_
  refine Ke ?_
  refine Jl [0] Ent.msdone ?_
  refine Jf 0 rfl ?_; intro hpm
  refine Jl [1] (Ent.msperm hpm) ?_
  refine Jk [0,1,1,2,2,3,4,5] ?_
  refine Jl [0] Ent.msfacts ?_
  refine Jf 0 rfl ?_; intro hmf
  refine Jk [1,1,1,2,2,3,4,5] ?_
  have hrn:=hM179
  refine Jl [3] Ent.msfacts ?_
  refine Jf 0 rfl ?_; intro hmg
  refine Jk [1,1,1,1,2,3,4,5] ?_
  refine QaO (Qbg Qe0 QeE) fun rv186 hg187=>?_
  refine Jl [0] (Ent.msperm (m':=rv186) (Qpp (f:=Qbg) (fun _=>rfl) (fun _ _ _=>rfl) hpm hmf.1 hmg.1 hrn hg187)) ?_
  refine KS ?_
  refine Oq Vm (Oq Va (KS ?_))
  exact Kg (r19,rv186,Qdy,a63,k64) [2,0,2,3,4,5] ⟨(q3 hM24 (by simp only [Qdt,h46,h78,h169,hg33,hg41,hR168,hg187,cs4])),(Qrr (by assumption:∃ k,QkY s _ k _ _) (by assumption) (by assumption) aM1 (by assumption) aM1 (by assumption))⟩
 intro en188 c192 r189 r190 hz191
 have hz191l:=nxe hz191
 refine Jo 0 ?_; rintro a193 k194 rfl
 refine Fb 16 0 fun _=>?_
 have hb196k:=hv180 en188 (by rw [hz191]; simp)
 obtain ⟨hb196,hb197⟩:=hb196k
 unfold Qaa at hb196 hb197
 refine Oq Vx (KS ?_)
 refine Kt (KS ?_)
 refine Oa (QBw 1) fun c198=>?_
 refine Jo 0 ?_; rintro a199 k200 rfl
 refine Oq Vx (Oq Vx (Oa (Al Qqu [vi 0,vi 0]) fun p201=>Ost (Scl [0] Qe4 [vi en188.1.Node,vi en188.1.Bit]) (Oq Va (KS ?_))))
 refine Oq Vm (Oq (Qar Qe4 0) (Oq Vm (Ost (QCv [6,1] QtR Qjp en188.2 (key:=en188.1) Que) (KS ?_))))
 exact Kg ((dn177++[en188]),(r189++r190),(mset Qlr en188.1 en188.2)) [4,4,4,0,4,5,6,7] ⟨(by (try show _=_); rw [Qjk,hM179]; simp only [Qbg,cs4]),(fun e he=>hv180 e (hz191.symm ▸ (List.mem_append.1 he).elim (List.mem_append_left _) (fun h=>List.mem_append_right _ (List.mem_cons_of_mem _ h))))⟩ (hm:=nxl hz191)
theorem Qtt (c:Int) (QzL:0<=c/\c<=255) (rr:Bool) (hrr:Qhk c=.ret rr):FT Tryz.prog 119 #[.int .u8 c] [] (fun g:Unit=>True) (fun g=>vb rr) (fun g=>[]):=by
 refine FTi Tryz.func119 fun w0 M0 F0=>?_
 have hx0:=lrn rr; have H:=hrr; unfold Qhk at H
 refine KS ?_
 refine Oq Va (KS ?_)
 refine Oq Vm (Oq Qhv (Oq Vm ?_))
 refine JsH 5 H ?_ ?_
 ·intro h1 H
  have g2:=dt h1
  refine Oq Vm (Oq Qss (Oq Vpt (Oq Vm ?_)))
  refine pT H hx0 fun h3 H=>?_
  refine JsT 9 h3 ?_
  have g4:=dt h3
  refine Osk (Osk (Osk (Osk (Osk (Osk (Oq Vpt (Oq Vm (Osk (Osk ?_)))))))))
  refine Oq Vpt (Oq Va (KS ?_))
  have hq:=rI H; subst hq
  exact Kr () rfl (.tmp rfl .nil) [] trivial
 intro h1 H
 have g5:=df h1
 refine Osk (Osk (Oq Vpf (Oq Vm (Oq Vm (Oq Qhv (Oq Vm ?_))))))
 refine pF H hx0 fun h6 H=>?_
 refine JsF 12 h6 ?_
 have g7:=df h6
 refine Osk (Osk (Oq Vpf (Oq Vpf (Oq Vm (Oq Vm (Oq Qcb (Oq Vpf (Oq Va (KS ?_)))))))))
 have hq:=rI H; subst hq
 exact Kr () rfl (.tmp rfl .nil) [] trivial
theorem QuJ (c:Int) (QzL:0<=c/\c<=255) (rr:Bool) (hrr:Qlj c=.ret rr):FT Tryz.prog 120 #[.int .u8 c] [] (fun g:Unit=>True) (fun g=>vb rr) (fun g=>[]):=by
 refine FTi Tryz.func120 fun w0 M0 F0=>?_
 have hx0:=lrn rr; have H:=hrr; unfold Qlj at H
 refine KS ?_
 refine Oq Va (KS ?_)
 refine Oq Vm (Oq Qhv (Oq Vm ?_))
 refine JsH 5 H ?_ ?_
 ·intro h1 H
  have g2:=dt h1
  refine Oq Vm (Oq Qss (Oq Vpt (Oq Va (KS ?_))))
  have hq:=rI H; subst hq
  exact Kr () rfl (.tmp rfl .nil) [] trivial
 intro h1 H
 have g3:=df h1
 refine Osk (Osk (Oq Vpf (Oq Va (KS ?_))))
 have hq:=rI H; subst hq
 exact Kr () rfl (.tmp rfl .nil) [] trivial
end Go.SL.G
