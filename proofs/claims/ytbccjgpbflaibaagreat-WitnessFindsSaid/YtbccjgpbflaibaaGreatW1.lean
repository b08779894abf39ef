/- Part 1 of the walks: the logic used by the last text of this claim. -/
import Derived.Test.YtbccjgpbflaibaaGreatW0
set_option linter.unusedVariables false
set_option linter.unusedSimpArgs false
namespace Go.SL
open Go
abbrev S {α:Type} [Rep α] (a:Option Addr) (k:Nat) (xs:List α):SP:=sl (.slice a xs.length k) xs
abbrev O {α:Type} [Rep α] (a:Option Addr) (k:Nat) (xs:List α):SP:=os (.slice a xs.length k) xs
abbrev vl {α:Type} (a:Option Addr) (k:Nat) (xs:List α):Value:=.slice a xs.length k
abbrev vi (n:Int):Value:=.int .i64 n
abbrev vb (b:Bool):Value:=.bool b
theorem QtO:(∀ {α:Type} (l:List α) (i:Nat) (a:α),(l.set i a).length=l.length)/\(∀ {α:Type} (a b:List α),(a++b).length=a.length+b.length)/\(∀ {α:Type} (a:α) (l:List α),(a :: l).length=l.length+1)/\(∀ {α:Type},([]:List α).length=0) /\
  (∀ {α:Type} (n:Nat) (a:α),(List.replicate n a).length=n)/\(∀ {α:Type} (n:Nat) (l:List α),(l.take n).length=min n l.length)/\(∀ {α:Type} (n:Nat) (l:List α),(l.drop n).length=l.length - n):=
 ⟨fun _ _ _=>List.length_set,fun _ _=>List.length_append,fun _ _=>List.length_cons,List.length_nil,fun _ _=>List.length_replicate,fun _ _=>List.length_take,fun _ _=>List.length_drop⟩
theorem cs4:(∀ {α:Type} (a b:α),cond true a b=a)/\(∀ {α:Type} (a b:α),cond false a b=b)/\(!true)=false/\(!false)=true:=⟨fun _ _=>rfl,fun _ _=>rfl,rfl,rfl⟩
theorem rng {p:Prop} (h:p:=by first | omega | (simp only [QtO]; omega) | (simp only [QtO] at *; omega)):p:=h
theorem pre {p:Prop} (h:p:=by (try dsimp only) <;> first | (unfold Qaa; omega) | omega | assumption | (simp only [QtO] <;> omega)):p:=h
theorem iv0 {p:Prop} (h:p:=by first | omega | (simp only [QtO]; omega) | simp):p:=h
theorem iv1 {p:Prop} (h:p:=by first | omega | (simp only [QtO]; omega) | assumption):p:=h
theorem q2 {α:Sort _} {a b:α} (h:a=b) (c:α) (k:a=c):b=c:=h.symm.trans k
theorem q4 {α:Sort _} {a b:α} (h:a=b) (c:α) (k:a=c):c=b:=k.symm.trans h
theorem q3 {α:Sort _} {a b c:α} (h:a=b) (k:a=c):c=b:=k.symm.trans h
theorem scc {n:Nat} (h:0 < n):∃ q,n=q+1:=⟨n - 1,by omega⟩
theorem aS1 {p:Prop} (h:p:=by first | omega | (simp; done) | (dsimp only; omega) | exact QeK rfl):p:=h
theorem aK1 {p:Prop} (h:p:=by unfold Qaa; omega):p:=h
theorem aM1 {p:Prop} (h:p:=by omega):p:=h
theorem aB1 {p:Prop} (h:p:=by exact Nat.le_of_ble_eq_true rfl):p:=h
theorem aL1 {p:Prop} (h:p:=by unfold Qaa; first | omega | (dsimp only; omega)):p:=h
theorem dt {p:Prop} [Decidable p] (h:decide p=true):p:=of_decide_eq_true h
theorem df {p:Prop} [Decidable p] (h:decide p=false):¬ p:=of_decide_eq_false h
theorem en {p:Prop} (h:p:=by (repeat' refine And.intro ?_ ?_) <;> (try dsimp only) <;> first | omega | (unfold Qaa; omega) | (simp only [QtO]; omega) | assumption | trivial):p:=h
theorem et {A Ac Ar:List SP} (is:List Nat) (h:SL.take A is=some (Ac,Ar):=by exact rfl):Ent A Ac:=Ent.take h
def Gok (C:Cx) (ops:Array Oper) (L:Env) (o:Oper):Prop:=o.guard=none\/∃ j dj b,o.guard=some (j,b)/\((ops[j]?).bind (·.dst))=some dj/\Nat.blt dj C.n=true/\L.get dj=some (.bool b)
theorem gn {C:Cx} {ops:Array Oper} {L:Env} {o:Oper} (h:o.guard=none):Gok C ops L o:=.inl h
theorem gt {C:Cx} {ops:Array Oper} {L:Env} {o:Oper} {j dj b} (h:o.guard=some (j,b)) (hj:((ops[j]?).bind (·.dst))=some dj) (hn:Nat.blt dj C.n=true) (hv:L.get dj=some (.bool b)):Gok C ops L o:=.inr ⟨j,dj,b,h,hj,hn,hv⟩
theorem KS {G G':Prop} (k:G') (m:G'->G:=by
 intro hk
 repeat first
  | with_reducible refine QwG ?_
  | with_reducible refine QvT ?_
  | with_reducible refine QqP ?_
  | with_reducible refine Qt6 ?_
  | with_reducible refine QsU ?_
  | with_reducible refine Qwq ?_
 exact hk):G:=m k
section
variable {C:Cx} {ks:List Kn} {L:Env} {A:List SP} {ops:Array Oper} {rest:List Oper} {o:Oper} {X:Act->World->Prop}
theorem Ogo (hg:Gok C ops L o) (h:JO C ops ({ o with guard:=none } :: rest) ks L A):JO C ops (o :: rest) ks L A:=by
 rcases hg with hg | ⟨j,dj,b,h1,h2,h3,h4⟩
 ·have e:({ o with guard:=none }:Oper)=o:=by obtain ⟨⟩:=o; simp_all
  rw [<- e]; exact h
 ·exact Qs9 h1 h2 h3 h4 h
theorem QA3 {d v} (hv:OpV C.P L A o v) (h:JO C ops rest ks ((d,v) :: L) A) (hg:Gok C ops L o:=by first | exact gn rfl | exact gt rfl rfl rfl rfl) (hd:o.dst=some d:=by exact rfl) (hn:Nat.blt d C.n=true:=by exact rfl):JO C ops (o :: rest) ks L A:=
 Ogo hg (QCh rfl hd hn hv h)
theorem Oq {d:Nat} {op:Op} {ty:TypeId} {pos:String} {af:Array Edge} {gd:Option (Nat×Bool)} {v:Value} (hv:OpV C.P L A ⟨some d,op,ty,pos,af,gd⟩ v) (h:JO C ops rest ks ((d,v) :: L) A) (hg:Gok C ops L ⟨some d,op,ty,pos,af,gd⟩:=by first | exact gn rfl | exact gt rfl rfl rfl rfl) (hn:Nat.blt d C.n=true:=by exact rfl):JO C ops (⟨some d,op,ty,pos,af,gd⟩ :: rest) ks L A:=QA3 hv h hg rfl hn
theorem QB6 {d} {γ:Type} {V:γ->Value} {B:γ->List SP} (hv:OpA C.P L A o V B) (h:∀ g,JO C ops rest ks ((d,V g) :: L) (B g)) (hg:Gok C ops L o:=by first | exact gn rfl | exact gt rfl rfl rfl rfl) (hd:o.dst=some d:=by exact rfl) (hn:Nat.blt d C.n=true:=by exact rfl):JO C ops (o :: rest) ks L A:=
 Ogo hg (QqW rfl hd hn hv h)
theorem Oa {d:Nat} {op:Op} {ty:TypeId} {pos:String} {af:Array Edge} {gd:Option (Nat×Bool)} {γ:Type} {V:γ->Value} {B:γ->List SP} (hv:OpA C.P L A ⟨some d,op,ty,pos,af,gd⟩ V B) (h:∀ g,JO C ops rest ks ((d,V g) :: L) (B g)) (hg:Gok C ops L ⟨some d,op,ty,pos,af,gd⟩:=by first | exact gn rfl | exact gt rfl rfl rfl rfl) (hn:Nat.blt d C.n=true:=by exact rfl):JO C ops (⟨some d,op,ty,pos,af,gd⟩ :: rest) ks L A:=QB6 hv h hg rfl hn
theorem Qy0 {B:List SP} (hv:OpS C.P L A o B) (h:JO C ops rest ks L B) (hg:Gok C ops L o:=by first | exact gn rfl | exact gt rfl rfl rfl rfl) (hd:o.dst=none:=by exact rfl):JO C ops (o :: rest) ks L A:=
 Ogo hg (Qs7 rfl hd hv h)
theorem Ost {op:Op} {ty:TypeId} {pos:String} {af:Array Edge} {gd:Option (Nat×Bool)} {B:List SP} (hv:OpS C.P L A ⟨none,op,ty,pos,af,gd⟩ B) (h:JO C ops rest ks L B) (hg:Gok C ops L ⟨none,op,ty,pos,af,gd⟩:=by first | exact gn rfl | exact gt rfl rfl rfl rfl):JO C ops (⟨none,op,ty,pos,af,gd⟩ :: rest) ks L A:=Qy0 hv h hg rfl
theorem Oc {d f args} {γ:Type} {I:γ->Prop} {V:γ->Value} {B:γ->List SP} {Ac Ar:List SP} {xs:Array Operand} {ts:Array TypeId} (is:List Nat) (hcal:Qac C.P f=true) (hf:FT C.P f args Ac I V B)
  (h:∀ g,I g->JO C ops rest ks ((d,V g) :: L) (B g++Ar))
  (hop:o.op=.call { callee:=.value (.func f),args:=xs,argTypes:=ts }:=by exact rfl) (hx:L.evs xs.toList=some args.toList:=by exact rfl) (ht:take A is=some (Ac,Ar):=by exact rfl)
  (hg:Gok C ops L o:=by first | exact gn rfl | exact gt rfl rfl rfl rfl) (hd:o.dst=some d:=by exact rfl) (hn:Nat.blt d C.n=true:=by exact rfl):JO C ops (o :: rest) ks L A:=
 Ogo hg (Qg7 (args:=args) is rfl hd hn (by have:=OpC.fn (o:={ o with guard:=none }) hop hcal hx; rwa [show args.toList.toArray=args from rfl] at this) hf ht h)
theorem Qyx {d:Nat} (h:JO C ops rest ks ((d,undef) :: L) A) (hs:(o.dst=some d/\Nat.blt d C.n=true)/\∃ j dj b,o.guard=some (j,b)/\((ops[j]?).bind (·.dst))=some dj/\Nat.blt dj C.n=true/\(L.get dj=some (.bool (!b))\/L.get dj=some undef):=by first | exact ⟨⟨rfl,rfl⟩,_,_,_,rfl,rfl,rfl,.inl rfl⟩ | exact ⟨⟨rfl,rfl⟩,_,_,_,rfl,rfl,rfl,.inr rfl⟩):JO C ops (o :: rest) ks L A:=by
 obtain ⟨⟨h1,h2⟩,j,dj,b,h3,h4,h5,h6 | h6⟩:=hs
 ·exact QuN h3 h1 h2 h4 h5 h6 h
 ·exact Qty h3 h1 h2 h4 h5 h6 h
theorem Osk {d:Nat} {op:Op} {ty:TypeId} {pos:String} {af:Array Edge} {gd:Option (Nat×Bool)} (h:JO C ops rest ks ((d,undef) :: L) A) (hs:Nat.blt d C.n=true/\∃ j dj b,gd=some (j,b)/\((ops[j]?).bind (·.dst))=some dj/\Nat.blt dj C.n=true/\(L.get dj=some (.bool (!b))\/L.get dj=some undef):=by first | exact ⟨rfl,_,_,_,rfl,rfl,rfl,.inl rfl⟩ | exact ⟨rfl,_,_,_,rfl,rfl,rfl,.inr rfl⟩):JO C ops (⟨some d,op,ty,pos,af,gd⟩ :: rest) ks L A:=Qyx h ⟨⟨rfl,hs.1⟩,hs.2⟩
theorem QaE (h:∀ L' A',L'=L->A'=A->JJ C X L' A'):JJ C X L A:=h L A rfl rfl
theorem Kc {c:Operand} {x y:Code} {b:Bool} (ht:b=true->JK C (.code x :: ks) L A) (hf:b=false->JK C (.code y :: ks) L A) (hc:L.ev c=some (.bool b):=by exact rfl):JK C (.code (.cond c x y) :: ks) L A:=Qpn hc ht hf
theorem Kt {c:Operand} {x y:Code} (h:JK C (.code x :: ks) L A) (hc:L.ev c=some (.bool true):=by exact rfl):JK C (.code (.cond c x y) :: ks) L A:=QpR hc h
theorem Kf {c:Operand} {x y:Code} (h:JK C (.code y :: ks) L A) (hc:L.ev c=some (.bool false):=by exact rfl):JK C (.code (.cond c x y) :: ks) L A:=QpY hc h
theorem Ke {id:Nat} {ks':List Kn} (h:JK C ks' L A) (hp:Qn5 id ks=some ks':=by exact rfl):JK C (.code (.exit id) :: ks) L A:=QuG hp h
theorem Js (t:Nat) {e:Bool} (hT:e=true->JJ C X ((t,.bool true) :: L) A) (hF:e=false->JJ C X ((t,.bool false) :: L) A) (he:L.get t=some (.bool e):=by exact rfl):JJ C X L A:=QnP t he hT hF
theorem Fb {α:Type} [Rep α] {c:Value} {xs:List α} (n i:Nat) (h:xs.length*n<=140737488355328->JJ C X L A) (hA:A[i]? = some (sl c xs)\/A[i]? = some (os c xs):=by first | exact .inl rfl | exact .inr rfl) (hn:Rep.bytes α=n:=by exact rfl):JJ C X L A:=by
 subst hn
 rcases hA with hA | hA
 ·exact Qe9 i hA (fun h=>Qtm h) h
 ·exact Qe9 i hA (fun h=>Qtp h) h
theorem Fo {c:Value} {xs:List Int} (i:Nat) (h:(∀ x∈xs,RepE.ok x)->JJ C X L A) (hA:A[i]? = some (sl c xs)\/A[i]? = some (os c xs):=by first | exact .inl rfl | exact .inr rfl):JJ C X L A:=by
 rcases hA with hA | hA
 ·exact Qe9 i hA QwJ h
 ·exact Qe9 i hA Qwl h
theorem Fl {α:Type} [Rep α] {a:Option Addr} {n k:Nat} {xs:List α} (i:Nat) (h:xs.length=n->JJ C X L A) (hA:A[i]? = some (sl (.slice a n k) xs)\/A[i]? = some (os (.slice a n k) xs):=by first | exact .inl rfl | exact .inr rfl):JJ C X L A:=by
 rcases hA with hA | hA
 ·exact Qe9 i hA (fun h=>Qw3 h) h
 ·exact Qe9 i hA (fun h=>QwE h) h
def IsO (R:SP) (c:Value) (n:Nat):Prop:=∀ {w M F},R.h w M F->∃ a k,c=.slice a n k
theorem Qxb {α:Type} [Rep α] (c:Value) (xs:List α):IsO (sl c xs) c xs.length:=fun h=>QjT h
theorem Qim {α:Type} [Rep α] (c:Value) (xs:List α):IsO (os c xs) c xs.length:=fun h=>QnY h
theorem Qw1 (c:Value) (n:Nat) (cs:List Value):IsO (Cr c n cs) c n:=fun h=>Qtr h
theorem Jo {R:SP} {c:Value} {n:Nat} (i:Nat) (h:∀ a k,c=.slice a n k->JJ C X L A) (hA:A[i]? = some R:=by exact rfl) (hR:IsO R c n:=by first | exact Qxb _ _ | exact Qim _ _ | exact Qw1 _ _ _ | exact QwD _ _):JJ C X L A:=QsE i hA (fun h=>hR h) h
theorem Jl {Ac Ar B:List SP} (is:List Nat) (e:Ent Ac B) (h:JJ C X L (B++Ar)) (ht:take A is=some (Ac,Ar):=by exact rfl):JJ C X L A:=QvZ is ht e h
theorem Jp {R:SP} {p:Value} (i:Nat) (h:isP p->JJ C X L (SP.fact (isP p) :: A)) (hA:A[i]? = some R:=by exact rfl) (hR:∀ {w M F},R.h w M F->isP p:=by first | exact Qxa | exact Qxo):JJ C X L A:=Qe9 i hA hR (fun hp=>Qqn hp (h hp))
def Qwy (A:List SP):List Nat->Option (List SP)
 | []=>some []
 | i :: is=>match A[i]?,Qwy A is with
  | some R,some l=>some (R :: l)
  | _,_=>none
theorem Jw2 {κ:Nat->Option Nat} {G:GV} {N:List TS} (L':Env) (is:List Nat) (new:List SP) {Ak:List SP} (h:JJ C X L' (Ak++new)) (hk:Qwy A is=some Ak:=by exact rfl) (hL:L'.map (fun p=>L.get p.1)=L'.map (fun p=>some p.2):=by kernel_rfl) (hA:lft κ G 0 (T0 A++N)=Ak++new:=by kernel_rfl):JJ C X L (lft κ G 0 (T0 A++N)):=Qis (Env.sub_all hL) (Ent.of_eq hA) h
theorem Jk (is:List Nat) {Ac Ar:List SP} (h:JJ C X L Ac) (ht:take A is=some (Ac,Ar):=by exact rfl):JJ C X L A:=Qut is ht h
theorem Jf {φ:Prop} (k:Nat) (hA:A[k]? = some (SP.fact φ)) (h:φ->JJ C X L A):JJ C X L A:=Qe9 k hA (fun h=>h) h
structure LI where
 L:Env
 A:List SP
 I:Prop
 n:Nat
theorem Kl {γ:Type} {c:Code} (F:γ->LI) (g0:γ) (is:List Nat) {Ar:List SP} (hI:(F g0).I)
  (round:∀ g,(F g).I->JK C (.code c :: .goal (fun a w=>∃ g' M F',(F g').I/\(F g').n < (F g).n/\St C (F g').L (F g').A a w M F') :: ks) (F g).L (F g).A)
  (hL:Env.sub (F g0).L L:=by exact Env.sub_all rfl) (hA:take A is=some ((F g0).A,Ar):=by exact rfl):JK C (.code (.loop c) :: ks) L A:=
 QuC (fun g=>(F g).L) (fun g=>(F g).A) (fun g=>(F g).I) (fun g=>(F g).n) g0 hI hL (Ent.take hA) round
theorem Kg {γ:Type} {F:γ->LI} {m:Nat} (g':γ) (is:List Nat) {Ar:List SP} (hI:(F g').I) (hm:(F g').n < m:=by exact Nat.lt_succ_self _) (hL:Env.sub (F g').L L:=by exact Env.sub_all rfl) (hA:take A is=some ((F g').A,Ar):=by exact rfl) :
  JK C (.goal (fun a w=>∃ g' M F',(F g').I/\(F g').n < m/\St C (F g').L (F g').A a w M F') :: ks) L A:=
 Qu4 (IL:=fun g=>(F g).L) (IA:=fun g=>(F g).A) (I:=fun g=>(F g).I) (m:=fun g=>(F g).n < m) g' hI hm hL (Ent.take hA)
end
theorem FTi {P:Program} {f:FuncId} {fn:Func} {c:Code} {args:List Value} {A:List SP} {γ:Type} {I:γ->Prop} {V:γ->Value} {B:γ->List SP} (hf:P.funcs[f]? = some fn) (h:∀ w0 M0 F0,JK (cx P fn w0 M0 F0 I V B) [.code c] (QmJ 0 args) A) (hb:fn.body=some c:=by exact rfl) (hn:Nat.ble args.length fn.ntmps=true:=by exact rfl):FT P f args.toArray A I V B:=QsJ hf hb hn h
section
variable {P:Program} {fn:Func} {w0:World} {M0 F0:Blk} {γ:Type} {I:γ->Prop} {V:γ->Value} {B:γ->List SP} {ks:List Kn} {L:Env} {A:List SP}
theorem Kr {rs vs} {Ar:List SP} (g:γ) (hr:fn.results=rs.toArray) (h:QoU P L A rs vs) (is:List Nat) (hI:I g) (hV:V g=Qvu vs:=by exact rfl) (hE:take A is=some (B g,Ar):=by exact rfl):JK (cx P fn w0 M0 F0 I V B) (.code .ret :: ks) L A:=Qr7 g hr h hV hI (Ent.take hE)
theorem Kz {rs vs} {Ar:List SP} (g:γ) (hr:fn.results=rs.toArray) (h:QoU P L A rs vs) (is:List Nat) (hI:I g) (hV:V g=Qvu vs:=by exact rfl) (hE:take A is=some (B g,Ar):=by exact rfl):JK (cx P fn w0 M0 F0 I V B) [] L A:=QuE g hr h hV hI (Ent.take hE)
end
section
variable {P:Program} {L:Env} {A:List SP} {o:Oper}
theorem Vm {x v} (hop:o.op=.move x:=by exact rfl) (hx:L.ev x=some v:=by exact rfl):OpV P L A o v:=OpV.move hop hx
theorem Va {x v} (hop:o.op=.assign x:=by exact rfl) (hx:L.ev x=some v:=by exact rfl):OpV P L A o v:=OpV.assign hop hx
theorem Vpt {c x y v} (hop:o.op=.pick c x y:=by exact rfl) (hc:L.ev c=some (.bool true):=by exact rfl) (hx:L.ev x=some v:=by exact rfl):OpV P L A o v:=OpV.pickT hop hc hx
theorem Vpf {c x y v} (hop:o.op=.pick c x y:=by exact rfl) (hc:L.ev c=some (.bool false):=by exact rfl) (hx:L.ev y=some v:=by exact rfl):OpV P L A o v:=OpV.pickF hop hc hx
theorem Qcb {T x y yt k a b} (hop:o.op=.binOp .eql T x y yt:=by exact rfl) (hx:L.ev x=some (.int k a):=by exact rfl) (hy:L.ev y=some (.int k b):=by exact rfl):OpV P L A o (.bool (a == b)):=OpV.eql hop hx hy
theorem Qf4 {T x y yt k a b} (hop:o.op=.binOp .neq T x y yt:=by exact rfl) (hx:L.ev x=some (.int k a):=by exact rfl) (hy:L.ev y=some (.int k b):=by exact rfl):OpV P L A o (.bool (a != b)):=OpV.neq hop hx hy
theorem Qbo {T x y yt k a b} (hop:o.op=.binOp .lss T x y yt:=by exact rfl) (hx:L.ev x=some (.int k a):=by exact rfl) (hy:L.ev y=some (.int k b):=by exact rfl):OpV P L A o (.bool (decide (a < b))):=OpV.lss hop hx hy
theorem Qss {T x y yt k a b} (hop:o.op=.binOp .leq T x y yt:=by exact rfl) (hx:L.ev x=some (.int k a):=by exact rfl) (hy:L.ev y=some (.int k b):=by exact rfl):OpV P L A o (.bool (decide (a<=b))):=OpV.leq hop hx hy
theorem QgZ {T x y yt k a b} (hop:o.op=.binOp .gtr T x y yt:=by exact rfl) (hx:L.ev x=some (.int k a):=by exact rfl) (hy:L.ev y=some (.int k b):=by exact rfl):OpV P L A o (.bool (decide (b < a))):=OpV.gtr hop hx hy
theorem Qhv {T x y yt k a b} (hop:o.op=.binOp .geq T x y yt:=by exact rfl) (hx:L.ev x=some (.int k a):=by exact rfl) (hy:L.ev y=some (.int k b):=by exact rfl):OpV P L A o (.bool (decide (b<=a))):=OpV.geq hop hx hy
theorem QaS {T x y yt a b} (hop:o.op=.binOp .add T x y yt:=by exact rfl) (hx:L.ev x=some (.int .i64 a):=by exact rfl) (hy:L.ev y=some (.int .i64 b):=by exact rfl) (h:Qaa (a+b):=by unfold Qaa; first | omega | (dsimp only; omega)):OpV P L A o (.int .i64 (a+b)):=OpV.add hop hx hy h
theorem Qjf {T x y yt a b} (hop:o.op=.binOp .sub T x y yt:=by exact rfl) (hx:L.ev x=some (.int .i64 a):=by exact rfl) (hy:L.ev y=some (.int .i64 b):=by exact rfl) (h:Qaa (a - b):=by unfold Qaa; first | omega | (dsimp only; omega)):OpV P L A o (.int .i64 (a - b)):=OpV.sub hop hx hy h
theorem Qub {T x y yt a b} (hop:o.op=.binOp .mul T x y yt:=by exact rfl) (hx:L.ev x=some (.int .i64 a):=by exact rfl) (hy:L.ev y=some (.int .i64 b):=by exact rfl) (h:Qaa (a*b):=by unfold Qaa; omega):OpV P L A o (.int .i64 (a*b)):=OpV.mul hop hx hy h
theorem Qq9 {T x y yt a b} (hop:o.op=.binOp .quo T x y yt:=by exact rfl) (hx:L.ev x=some (.int .i64 a):=by exact rfl) (hy:L.ev y=some (.int .i64 b):=by exact rfl) (h:0<=a/\a<=9223372036854775807/\1<=b:=by omega):OpV P L A o (.int .i64 (a / b)):=OpV.quo hop hx hy h
theorem Qve {T x y yt a b} (hop:o.op=.binOp .rem T x y yt:=by exact rfl) (hx:L.ev x=some (.int .i64 a):=by exact rfl) (hy:L.ev y=some (.int .i64 b):=by exact rfl) (h:0<=a/\1<=b:=by omega):OpV P L A o (.int .i64 (a % b)):=OpV.rem hop hx hy h
theorem Veb {T x y yt a b} (hT:P.underlying T=some .bool) (hop:o.op=.binOp .eql T x y yt:=by exact rfl) (hx:L.ev x=some (.bool a):=by exact rfl) (hy:L.ev y=some (.bool b):=by exact rfl):OpV P L A o (.bool (a == b)):=OpV.eqlB hop hT hx hy
theorem Vnb {T x y yt a b} (hT:P.underlying T=some .bool) (hop:o.op=.binOp .neq T x y yt:=by exact rfl) (hx:L.ev x=some (.bool a):=by exact rfl) (hy:L.ev y=some (.bool b):=by exact rfl):OpV P L A o (.bool (!(a == b))):=OpV.neqB hop hT hx hy
theorem Qtf {T x y yt} {a b:BitVec 64} (hop:o.op=.binOp .and T x y yt:=by exact rfl) (hx:L.ev x=some (u64 a):=by exact rfl) (hy:L.ev y=some (u64 b):=by exact rfl):OpV P L A o (u64 (a &&& b)):=OpV.andU hop hx hy
theorem Qxy {T x y yt} {a b:BitVec 64} (hop:o.op=.binOp .or T x y yt:=by exact rfl) (hx:L.ev x=some (u64 a):=by exact rfl) (hy:L.ev y=some (u64 b):=by exact rfl):OpV P L A o (u64 (a ||| b)):=OpV.orU hop hx hy
theorem Qp6 {T x y yt} {a b:BitVec 64} (hop:o.op=.binOp .andNot T x y yt:=by exact rfl) (hx:L.ev x=some (u64 a):=by exact rfl) (hy:L.ev y=some (u64 b):=by exact rfl):OpV P L A o (u64 (a &&& ~~~b)):=OpV.andNotU hop hx hy
theorem QrH {T x y yt} {a b:BitVec 64} (h:b≠0) (hop:o.op=.binOp .rem T x y yt:=by exact rfl) (hx:L.ev x=some (u64 a):=by exact rfl) (hy:L.ev y=some (u64 b):=by exact rfl):OpV P L A o (u64 (a % b)):=OpV.remU hop hx hy h
theorem Qtk {T x y yt} {a b:BitVec 64} (hop:o.op=.binOp .eql T x y yt:=by exact rfl) (hx:L.ev x=some (u64 a):=by exact rfl) (hy:L.ev y=some (u64 b):=by exact rfl):OpV P L A o (.bool (a == b)):=OpV.eqlU hop hx hy
theorem QvO {T x y yt} {a b:BitVec 64} (hop:o.op=.binOp .neq T x y yt:=by exact rfl) (hx:L.ev x=some (u64 a):=by exact rfl) (hy:L.ev y=some (u64 b):=by exact rfl):OpV P L A o (.bool (a != b)):=OpV.neqU hop hx hy
theorem QqZ {T x y yt} {k:IntKind} {a:BitVec 64} {n:Int} (hop:o.op=.binOp .shl T x y yt:=by exact rfl) (hx:L.ev x=some (u64 a):=by exact rfl) (hy:L.ev y=some (.int k n):=by exact rfl) (h:0<=n:=by omega):OpV P L A o (u64 (a <<< n.toNat)):=OpV.shlU hop hx hy h
theorem QuH {T x y yt} {k:IntKind} {a:BitVec 64} {n:Int} (hop:o.op=.binOp .shr T x y yt:=by exact rfl) (hx:L.ev x=some (u64 a):=by exact rfl) (hy:L.ev y=some (.int k n):=by exact rfl) (h:0<=n:=by omega):OpV P L A o (u64 (a >>> n.toNat)):=OpV.shrU hop hx hy h
theorem QcN {T x b} (hop:o.op=.unOp .not T x:=by exact rfl) (hx:L.ev x=some (.bool b):=by exact rfl):OpV P L A o (.bool (!b)):=OpV.not hop hx
theorem VcU {s d x n} (hs:P.underlying s=some (.int .i64)) (hd:P.underlying d=some (.int .u64)) (hop:o.op=.convert s d x:=by exact rfl) (hx:L.ev x=some (.int .i64 n):=by exact rfl):OpV P L A o (u64 (BitVec.ofInt 64 n)):=OpV.convU hop hs hd hx
theorem VcN {s d x b} (hs:P.underlying s=some (.int .u64)) (hd:P.underlying d=some (.int .i64)) (hop:o.op=.convert s d x:=by exact rfl) (hx:L.ev x=some (u64 b):=by exact rfl) (h:(b.toNat:Int)<=9223372036854775807:=by omega):OpV P L A o (.int .i64 (b.toNat:Int)):=OpV.convI hop hs hd hx h
theorem Vx {t i vs v} (hop:o.op=.extract t i:=by exact rfl) (hx:L.ev t=some (.tuple vs):=by exact rfl) (hv:vs[i]? = some v:=by exact rfl):OpV P L A o v:=OpV.extract hop hx hv
theorem Qbc {x T a n k} {e m by_} (hT:Qe5 P T=some (e,m,by_)) (hop:o.op=.call { callee:=.builtin .len,args:=#[x],argTypes:=#[T] }:=by exact rfl) (hx:L.ev x=some (.slice a n k):=by exact rfl):OpV P L A o (.int .i64 n):=OpV.len hop hx hT
theorem Vf {fn:Fn} {xs ys:Array Operand} (ws:List Value) (hop:o.op=.makeFunc fn xs ys:=by exact rfl) (hx:∀ ρ:Operand->Value,(∀ x u,L.ev x=some u->ρ x=u)->xs.map ρ=#[]/\ys.map ρ=ws.toArray:=by exact fun ρ hρ=>⟨by simp,Qu2 hρ rfl⟩):OpV P L A o (.func fn #[] ws.toArray):=OpV.makeFunc hop hx
theorem Vn {x p R} (i:Nat) (hop:o.op=.nilCheck x:=by exact rfl) (hx:L.ev x=some p:=by exact rfl) (hA:A[i]? = some R:=by exact rfl) (hp:QkG R p:=by first | exact QnX _ _ | exact QnB _ _ | exact QgF _ _ _ _ | exact QlW _ _ _ _ _ _ | exact QlJ _ _ _ _ _ _ | exact QkD _ | exact Qnc _ _ _ _):OpV P L A o p:=OpV.nilCheck hop hx hA hp
theorem Vfa {S_ x f p R off} (hS:Qbw P S_ f=some off) (i:Nat) (hop:o.op=.fieldAddr S_ x f:=by exact rfl) (hx:L.ev x=some p:=by exact rfl) (hA:A[i]? = some R:=by exact rfl) (hp:QkG R p:=by first | exact QnX _ _ | exact QnB _ _ | exact QgF _ _ _ _ | exact QlW _ _ _ _ _ _ | exact QlJ _ _ _ _ _ _ | exact QkD _ | exact Qnc _ _ _ _):OpV P L A o (QlI p off):=OpV.fieldAddr hop hx hS hA hp
theorem Qoy {S_ x f p n R off} (hS:Qbw P S_ f=some off) (i:Nat) (hop:o.op=.fieldAddr S_ x f:=by exact rfl) (hx:L.ev x=some (QlI p n):=by exact rfl) (hA:A[i]? = some R:=by exact rfl) (hp:QkG R p:=by first | exact QnX _ _ | exact QnB _ _ | exact QgF _ _ _ _ | exact QlW _ _ _ _ _ _ | exact QlJ _ _ _ _ _ _ | exact QkD _ | exact Qnc _ _ _ _):OpV P L A o (QlI p (n+off)):=OpV.fieldAddrF hop hx hS hA hp
theorem Vld {T x p n R cs v} (hT:Qau P T=some (false,n)) (i:Nat) (hop:o.op=.load T x:=by exact rfl) (hx:L.ev x=some p:=by exact rfl) (hA:A[i]? = some R:=by exact rfl) (hR:Qih R p cs:=by first | exact Qlb _ _ | exact Qak _ _ | exact Qfo _ _ _ _ | exact QjR _ _ _ _ _ _ | exact Qj4 _ _ _ _ _ _ | exact QjL _ _ _ _) (hv:cs[0]? = some v:=by exact rfl):OpV P L A o v:=OpV.load hop hx hT hA hR hv
theorem Qai {T x p m n R cs v} (hT:Qau P T=some (false,n)) (i:Nat) (hop:o.op=.load T x:=by exact rfl) (hx:L.ev x=some (QlI p m):=by exact rfl) (hA:A[i]? = some R:=by exact rfl) (hR:Qih R p cs:=by first | exact Qlb _ _ | exact Qak _ _ | exact Qfo _ _ _ _ | exact QjR _ _ _ _ _ _ | exact Qj4 _ _ _ _ _ _ | exact QjL _ _ _ _) (hv:cs[m]? = some v:=by exact rfl):OpV P L A o v:=OpV.loadF hop hx hT hA hR hv
theorem Qar {T x p n R cs} (hT:Qau P T=some (true,n)) (i:Nat) (hop:o.op=.load T x:=by exact rfl) (hx:L.ev x=some p:=by exact rfl) (hA:A[i]? = some R:=by exact rfl) (hR:Qih R p cs:=by first | exact Qlb _ _ | exact Qak _ _ | exact Qfo _ _ _ _ | exact QjR _ _ _ _ _ _ | exact Qj4 _ _ _ _ _ _ | exact QjL _ _ _ _) (hn:cs.length=n:=by exact rfl):OpV P L A o (.agg cs.toArray):=OpV.loadA hop hx hT hA hR hn
theorem Qml {T x p m n R cs} (hT:Qau P T=some (true,n)) (i:Nat) (ds:List Value) (hop:o.op=.load T x:=by exact rfl) (hx:L.ev x=some (QlI p m):=by exact rfl) (hA:A[i]? = some R:=by exact rfl) (hR:Qih R p cs:=by first | exact Qlb _ _ | exact Qak _ _ | exact Qfo _ _ _ _ | exact QjR _ _ _ _ _ _ | exact Qj4 _ _ _ _ _ _ | exact QjL _ _ _ _) (hn:ds.length=n:=by exact rfl) (hd:(cs.drop m).take n=ds:=by exact rfl):OpV P L A o (.agg ds.toArray):=OpV.loadAF ds hop hx hT hA hR hn hd
theorem QjF {T x n c j} {xs:List Int} (hT:Qau P T=some (false,n)) (i:Nat) (hop:o.op=.load T x:=by exact rfl) (hA:A[i]? = some (sl c xs)\/A[i]? = some (os c xs):=by first | exact .inl rfl | exact .inr rfl) (hx:L.ev x=some (QgV 1 c j):=by exact rfl) (hj:j < xs.length:=by exact rng):OpV P L A o (.int .i64 (xs.getD j 0)):=by
 rcases hA with hA | hA
 ·exact OpV.load hop hx hT hA (Qnp c xs j 0 hj) rfl
 ·exact OpV.load hop hx hT hA (QnC c xs j 0 hj) rfl
theorem Qp3 {T x n c j} {xs:List (BitVec 64)} (hT:Qau P T=some (false,n)) (i:Nat) (hop:o.op=.load T x:=by exact rfl) (hA:A[i]? = some (sl c xs)\/A[i]? = some (os c xs):=by first | exact .inl rfl | exact .inr rfl) (hx:L.ev x=some (QgV 1 c j):=by exact rfl) (hj:j < xs.length:=by exact rng):OpV P L A o (u64 (xs.getD j 0#64)):=by
 rcases hA with hA | hA
 ·exact OpV.load hop hx hT hA (Qnp c xs j 0#64 hj) rfl
 ·exact OpV.load hop hx hT hA (QnC c xs j 0#64 hj) rfl
theorem Vi {T x ix c k R len sz e by_} {i:Int} (hT:Qe5 P T=some (e,sz,by_)) (m:Nat) (hop:o.op=.indexAddr T x ix:=by exact rfl) (hx:L.ev x=some c:=by exact rfl) (hi:L.ev ix=some (.int k i):=by exact rfl) (hA:A[m]? = some R:=by exact rfl) (hR:QtC R c len sz:=by first | exact Qup _ _ | exact QnW _ _ | exact Qm5 _ _ _ _ | exact Quq _ _ _ _ _ _ | exact QuT _ _ | exact QuF _ _ _ _) (h:0<=i/\i < len:=by exact rng):OpV P L A o (QgV sz c i.toNat):=OpV.indexAddr hop hx hi hT hA hR h
theorem Vbd {T xs ps zs vs} (hT:Qok P T=some (ps,zs)) (rs:List Value) (hop:o.op=.build T xs:=by exact rfl) (hx:∀ ρ:Operand->Value,(∀ x u,L.ev x=some u->ρ x=u)->xs.map (fun (i,x)=>(i,ρ x))=vs:=by exact Env.evp_map rfl) (hr:Instr.fill (ps.toArray[·]?) zs.toArray vs.toList=some rs.toArray:=by exact rfl):OpV P L A o (.agg rs.toArray):=OpV.build hop hT hx hr
theorem Ab {T x v} (cs:List Value) (hop:o.op=.box T x:=by exact rfl) (hx:L.ev x=some v:=by exact rfl) (hc:v.cells.toList=cs:=by exact rfl):OpA P L A o (fun p:Value=>p) (fun p=>pv p cs :: A):=hc ▸ OpA.box hop hx
theorem AbO {T x v} (cs:List Value) (hop:o.op=.box T x:=by exact rfl) (hx:L.ev x=some v:=by exact rfl) (hc:v.cells.toList=cs:=by exact rfl):OpA P L A o (fun p:Value=>p) (fun p=>Cl p cs :: A):=hc ▸ OpA.boxOwn hop hx
theorem Al {T z} (hz:QdX P T=some z) (cs:List Value) (hop:o.op=.alloc T:=by exact rfl) (hc:z.cells.toList=cs:=by exact rfl):OpA P L A o (fun p:Value=>p) (fun p=>Cl p cs :: A):=hc ▸ OpA.alloc hop hz
theorem As0 {T e sz by_} (hT:Qe5 P T=some (e,sz,by_)) (hop:o.op=.buildSlice T 0 #[]:=by exact rfl):OpA P L A o (fun c:Value=>c) (fun c=>Cr c 0 [] :: A):=OpA.buildSlice0 hop hT
theorem AsV {T n xs e sz by_ zs ps} (hT:Qe5 P T=some (e,sz,by_)) (hz:Qdk P T=some zs) (vs cs:List Value) (hop:o.op=.buildSlice T n xs:=by exact rfl) (hn:Nat.ble (n*sz) 16777216=true:=by exact rfl)
  (hx:∀ ρ:Operand->Value,(∀ x u,L.ev x=some u->ρ x=u)->xs.map (fun (i,x)=>(i,ρ x))=ps:=by exact Env.evp_map rfl) (hp:ps=((vs.zipIdx 0).map (fun p=>(p.2,p.1))).toArray:=by exact rfl) (hl:vs.length=n:=by exact rfl) (hv:vs.all (fun v=>Nat.beq v.cells.size sz)=true:=by exact rfl) (hc:QhY vs=cs:=by exact rfl) :
  OpA P L A o (fun c:Value=>c) (fun c=>Cr c n cs :: A):=OpA.buildSliceV vs cs hop hT hz hn hx hp hl hv hc
theorem Amk {T l cp e sz by_ zs} {n:Int} {α:Type} [Rep α] (hT:Qe5 P T=some (e,sz,by_)) (hz:Qdk P T=some zs) (z0:α) (hzr:∀ w M,Rep.rd w M zs z0) (hop:o.op=.makeSlice T l cp:=by exact rfl) (hl:L.ev l=some (.int .i64 n):=by exact rfl) (hc:L.ev cp=some (.int .i64 n):=by exact rfl)
  (hs:Rep.sz α=sz:=by exact rfl) (hb:Rep.bytes α=by_:=by exact rfl) (h0:0<=n:=by omega) (h1:n*by_<=140737488355328:=by omega):OpA P L A o (fun c:Value=>c) (fun c=>os c (List.replicate n.toNat z0) :: A):=OpA.makeSlice z0 hop hl hc hT hz hs hb h0 h1 hzr
theorem Scl {T x y p v cs bb n} {Ar:List SP} (is:List Nat) (hT:Qau P T=some (bb,n)) (cs':List Value) (hop:o.op=.store T x y:=by exact rfl) (hx:L.ev x=some p:=by exact rfl) (hy:L.ev y=some v:=by exact rfl) (ht:take A is=some ([Cl p cs],Ar):=by exact rfl)
  (hn:v.cells.toList.length=n:=by exact rfl) (h1:v.cells.toList.all (·.oneCell')=true:=by exact rfl) (hl:Nat.ble n cs.length=true:=by exact rfl) (hc:v.cells.toList++cs.drop n=cs':=by exact rfl):OpS P L A o ([Cl p cs']++Ar):=OpS.frame is ht (OpS.storeCl _ cs' hop hx hy hT rfl hn h1 (Nat.le_of_ble_eq_true hl) hc)
theorem Qij {T x y p v cs bb n} {m:Nat} {Ar:List SP} (is:List Nat) (hT:Qau P T=some (bb,n)) (cs':List Value) (hop:o.op=.store T x y:=by exact rfl) (hx:L.ev x=some (QlI p m):=by exact rfl) (hy:L.ev y=some v:=by exact rfl) (ht:take A is=some ([Cl p cs],Ar):=by exact rfl)
  (hn:v.cells.toList.length=n:=by exact rfl) (h1:v.cells.toList.all (·.oneCell')=true:=by exact rfl) (hl:Nat.ble (m+n) cs.length=true:=by exact rfl) (hc:cs.take m++v.cells.toList++cs.drop (m+n)=cs':=by exact rfl):OpS P L A o ([Cl p cs']++Ar):=OpS.frame is ht (OpS.storeClF _ cs' hop hx hy hT rfl hn h1 (Nat.le_of_ble_eq_true hl) hc)
theorem SoU {T x y a n k i bb} {xs:List (BitVec 64)} {z:BitVec 64} {Ar:List SP} (is:List Nat) (hT:Qau P T=some (bb,1)) (hop:o.op=.store T x y:=by exact rfl) (hx:L.ev x=some (QgV 1 (.slice a n k) i):=by exact rfl) (hy:L.ev y=some (u64 z):=by exact rfl) (ht:take A is=some ([os (.slice a n k) xs],Ar):=by exact rfl) (hi:i < xs.length:=by exact rng):OpS P L A o ([os (.slice a n k) (xs.set i z)]++Ar):=OpS.frame is ht (OpS.storeOsU hop hx hy hT hi)
theorem SoI {T x y a n k i bb} {xs:List Int} {z:Int} {Ar:List SP} (is:List Nat) (hT:Qau P T=some (bb,1)) (hop:o.op=.store T x y:=by exact rfl) (hx:L.ev x=some (QgV 1 (.slice a n k) i):=by exact rfl) (hy:L.ev y=some (.int .i64 z):=by exact rfl) (ht:take A is=some ([os (.slice a n k) xs],Ar):=by exact rfl) (hok:Qaa z:=by unfold Qaa; omega) (hi:i < xs.length:=by exact rng):OpS P L A o ([os (.slice a n k) (xs.set i z)]++Ar):=OpS.frame is ht (OpS.storeOsI hop hx hy hT hok hi)
theorem So {α:Type} [Rep α] {T x y a n k i v bb m} {xs:List α} {Rs Ar:List SP} (is:List Nat) (hT:Qau P T=some (bb,m)) (z:α) (hr:∀ {w M F},QaI Rs w M F->Rep.rd w M v.cells.toList z) (hop:o.op=.store T x y:=by exact rfl) (hx:L.ev x=some (QgV (Rep.sz α) (.slice a n k) i):=by exact rfl) (hy:L.ev y=some v:=by exact rfl)
  (ht:take A is=some (os (.slice a n k) xs :: Rs,Ar):=by exact rfl) (hm:Rep.sz α=m:=by exact rfl) (hi:i < xs.length:=by exact rng):OpS P L A o ((os (.slice a n k) (xs.set i z) :: Rs)++Ar):=OpS.frame is ht (OpS.storeOs' z _ hop hx hy hT rfl hm hr hi)
theorem apb {p:Prop} (h:p:=by first | omega | (simp only [QtO]; omega) | (simp only [QtO] at *; omega)):p:=h
theorem la {α:Type} (xs ys:List α):(xs++ys).length=xs.length+ys.length:=List.length_append
theorem ok1 {xs:List Int} {i:Nat} (h:∀ x∈xs,RepE.ok x) (hi:i < xs.length) : -9223372036854775808<=xs.getD i 0/\xs.getD i 0<=9223372036854775807:=QuW h hi
section
variable {T T2:TypeId} {x y:Operand} {c d:Value} {e sz by_ e2 sz2 by2:Nat} {zs:List Value} {α:Type} [Rep α] {xs ys:List α}
theorem Ap {Ar:List SP} (is:List Nat) (hT:Qe5 P T=some (e,sz,by_)) (hT2:Qe5 P T2=some (e2,sz2,by2)) (hz:Qdk P T=some zs)
  (hop:o.op=.call { callee:=.builtin .append,args:=#[x,y],argTypes:=#[T,T2] }:=by exact rfl) (hx:L.ev x=some c:=by exact rfl) (hy:L.ev y=some d:=by exact rfl) (ht:take A is=some ([os c xs,sl d ys],Ar):=by exact rfl) (hzl:zs.length=sz:=by exact rfl) (hs:Rep.sz α=sz:=by exact rfl) (hb:Rep.bytes α=by_:=by exact rfl) (hlen:(xs.length+ys.length)*by_<=140737488355328:=by exact apb) :
  OpA P L A o (fun c:Value=>c) (fun c=>[os c (xs++ys)]++Ar):=OpA.frame is ht (OpA.app hop hx hy hT hT2 hz hzl hs hb (by rw [hb]; exact hlen))
theorem ApO {Ar:List SP} (is:List Nat) (hT:Qe5 P T=some (e,sz,by_)) (hT2:Qe5 P T2=some (e2,sz2,by2)) (hz:Qdk P T=some zs)
  (hop:o.op=.call { callee:=.builtin .append,args:=#[x,y],argTypes:=#[T,T2] }:=by exact rfl) (hx:L.ev x=some c:=by exact rfl) (hy:L.ev y=some d:=by exact rfl) (ht:take A is=some ([os c xs,os d ys],Ar):=by exact rfl) (hzl:zs.length=sz:=by exact rfl) (hs:Rep.sz α=sz:=by exact rfl) (hb:Rep.bytes α=by_:=by exact rfl) (hlen:(xs.length+ys.length)*by_<=140737488355328:=by exact apb) :
  OpA P L A o (fun c:Value=>c) (fun c=>[os c (xs++ys)]++Ar):=OpA.frame is ht (OpA.appO hop hx hy hT hT2 hz hzl hs hb (by rw [hb]; exact hlen))
theorem Ap0 {Ar:List SP} (is:List Nat) (hT:Qe5 P T=some (e,sz,by_)) (hT2:Qe5 P T2=some (e2,sz2,by2)) (hz:Qdk P T=some zs)
  (hop:o.op=.call { callee:=.builtin .append,args:=#[x,y],argTypes:=#[T,T2] }:=by exact rfl) (hx:L.ev x=some c:=by exact rfl) (hy:L.ev y=some d:=by exact rfl) (ht:take A is=some ([os (α:=α) c [],sl d ys],Ar):=by exact rfl) (hzl:zs.length=sz:=by exact rfl) (hs:Rep.sz α=sz:=by exact rfl) (hb:Rep.bytes α=by_:=by exact rfl) (hlen:ys.length*by_<=140737488355328:=by exact apb) :
  OpA P L A o (fun c:Value=>c) (fun c=>[os c ys]++Ar):=OpA.frame is ht (OpA.app0 hop hx hy hT hT2 hz hzl hs hb (by rw [hb]; exact hlen))
end
theorem Asl {T x a n k e sz by_} {α:Type} [Rep α] {xs:List α} {lo hi:Option Operand} {Ar:List SP} (is:List Nat) (hT:Qe5 P T=some (e,sz,by_)) (l h:Nat) (hop:o.op=.slice T x lo hi none:=by exact rfl) (hx:L.ev x=some (.slice a n k):=by exact rfl) (ht:take A is=some ([sl (.slice a n k) xs],Ar):=by exact rfl) (hs:Rep.sz α=sz:=by exact rfl)
  (hlo:bnd L lo 0 l:=by first | exact rfl | exact ⟨_,QvU rfl (by omega)⟩) (hhi:bnd L hi xs.length h:=by first | exact rfl | exact ⟨_,QvU rfl (by omega)⟩) (h1:l<=h:=by exact rng) (h2:h<=xs.length:=by exact rng):OpA P L A o (fun c:Value=>c) (fun c=>[sl c ((xs.take h).drop l)]++Ar):=OpA.frame is ht (OpA.sliceSl l h hop hx hT hs (by cases lo <;> exact hlo) (by cases hi <;> exact hhi) h1 h2)
theorem QAq {T x a n k e sz by_} {α:Type} [Rep α] {xs:List α} {lo hi:Option Operand} {Ar:List SP} (is:List Nat) (hT:Qe5 P T=some (e,sz,by_)) (l h:Nat) (hop:o.op=.slice T x lo hi none:=by exact rfl) (hx:L.ev x=some (.slice a n k):=by exact rfl) (ht:take A is=some ([os (.slice a n k) xs],Ar):=by exact rfl) (hs:Rep.sz α=sz:=by exact rfl)
  (hlo:bnd L lo 0 l:=by first | exact rfl | exact ⟨_,QvU rfl (by omega)⟩) (hhi:bnd L hi xs.length h:=by first | exact rfl | exact ⟨_,QvU rfl (by omega)⟩) (h1:l<=h:=by exact rng) (h2:h<=xs.length:=by exact rng):OpA P L A o (fun c:Value=>c) (fun c=>[os c ((xs.take h).drop l)]++Ar):=OpA.frame is ht (OpA.sliceOs l h hop hx hT hs hlo hhi h1 h2)
theorem Vo {R:SP} {c:Value} {n:Nat} {v:Value} (i:Nat) (hA:A[i]? = some R) (hR:IsO R c n) (h:∀ a k,c=.slice a n k->OpV P L A o v):OpV P L A o v:=fun ρ hρ w M F ok hs=>by
 obtain ⟨a,k,e⟩:=hR (Qaj hA hs)
 exact h a k e ρ hρ w M F ok hs
theorem xV {v} (h:OpV P L A o v) (hs:∀ cs b,o.op≠.select cs b:=by intro _ _ h; cases h):OpX P L A o (fun _=>v) (fun _=>A):=OpX.ofV hs h
theorem xA {V:Value->Value} {B:Value->List SP} (h:OpA P L A o V B) (hs:∀ cs b,o.op≠.select cs b:=by intro _ _ h; cases h):OpX P L A o (fun g=>V (g.getD 0 undef)) (fun g=>B (g.getD 0 undef)):=OpX.ofA hs h
theorem xS {B:List SP} (h:OpS P L A o B) (hs:∀ cs b,o.op≠.select cs b:=by intro _ _ h; cases h) (hd:o.dst=none:=by exact rfl):OpX P L A o (fun _=>undef) (fun _=>B):=OpX.ofS hs hd h
theorem xp {Ac Ar B':List SP} {V:List Value->Value} {B:List Value->List SP} (is:List Nat) (ht:take A is=some (Ac,Ar)) (e:Ent Ac B') (h:OpX P L (B'++Ar) o V B):OpX P L A o V B:=OpX.pre is ht e h
theorem xf {φ:Prop} {V:List Value->Value} {B:List Value->List SP} (k:Nat) (hA:A[k]? = some (SP.fact φ)) (h:φ->OpX P L A o V B):OpX P L A o V B:=OpX.fact k hA (fun h=>h) h
theorem x1 {R:SP} {φ:Prop} {V:List Value->Value} {B:List Value->List SP} (k:Nat) (hA:A[k]? = some R) (hR:∀ {w M F},R.h w M F->φ) (h:φ->OpX P L A o V B):OpX P L A o V B:=OpX.fact k hA hR h
class GEnc (γ:Type) where
 enc:γ->List Value
 dec:List Value->Nat->γ
 ed:∀ g l,dec (l++enc g) l.length=g
instance:GEnc Unit:=⟨fun _=>[],fun _ _=>(),fun _ _=>rfl⟩
instance:GEnc Value:=⟨fun v=>[v],fun l n=>l.getD n undef,fun g l=>by simp [List.getD]⟩
instance {γ:Type} [GEnc γ]:GEnc (Value×γ):=⟨fun p=>p.1 :: GEnc.enc p.2,fun l n=>(l.getD n undef,GEnc.dec l (n+1)),fun g l=>by
 have:=GEnc.ed g.2 (l++[g.1])
 simp only [List.append_assoc,List.singleton_append,List.length_append,List.length_singleton] at this
 rw [this]; simp [List.getD]⟩
theorem xC {f args} {γ:Type} [GEnc γ] {I:γ->Prop} {V:γ->Value} {B:γ->List SP} {Ac Ar:List SP} {xs:Array Operand} {ts:Array TypeId} (is:List Nat) (hcal:Qac P f=true) (hf:FT P f args Ac I V B)
  (hop:o.op=.call { callee:=.value (.func f),args:=xs,argTypes:=ts }:=by exact rfl) (hx:L.evs xs.toList=some args.toList:=by exact rfl) (ht:take A is=some (Ac,Ar):=by exact rfl) :
  OpX P L A o (fun g=>V (GEnc.dec g 0)) (fun g=>(SP.fact (I (GEnc.dec g 0)) :: B (GEnc.dec g 0))++Ar):=
 OpX.frame is ht (OpX.ofC GEnc.enc (fun l=>GEnc.dec l 0) (fun g=>GEnc.ed g []) (by intro _ _ h; rw [hop] at h; cases h) (by have:=OpC.fn hop hcal hx; rwa [show args.toList.toArray=args from rfl] at this) hf)
end
section
variable {P:Program} {L:Env} {A:List SP} {o:Oper}
theorem xD {f} {vs:List Value} {γ:Type} [GEnc γ] {I:γ->Prop} {V:γ->Value} {B:γ->List SP} {Ac Ar:List SP} {xs:Array Operand} {ts:Array TypeId} (is:List Nat) (hcal:Qac P f=true)
  (hop:o.op=.call { callee:=.value (.func f),args:=xs,argTypes:=ts }) (hx:L.evs xs.toList=some vs) (ht:take A is=some (Ac,Ar)) (hf:FT P f vs.toArray Ac I V B) :
  OpX P L A o (fun g=>V (GEnc.dec g 0)) (fun g=>(SP.fact (I (GEnc.dec g 0)) :: B (GEnc.dec g 0))++Ar):=
 OpX.frame is ht (OpX.ofC GEnc.enc (fun l=>GEnc.dec l 0) (fun g=>GEnc.ed g []) (by intro _ _ h; rw [hop] at h; cases h) (OpC.fn hop hcal hx) hf)
end
section
variable {C:Cx} {ops:Array Oper} {L:Env} {A:List SP} {i:Nat} {o:Oper} {os:List Oper} {X:List OpD->Env->Prop}
theorem Qn (h:X [] L):JQ C ops i [] L A X:=Qv8 h
theorem QBf {d:Nat} (h:JQ C ops (i+1) os ((d,undef) :: L) A (fun ds L'=>X (⟨[],fun _=>undef,[],false⟩ :: ds) L')) (hw:Wq C ops L o false:=by exact qs rfl rfl rfl _ rfl rfl) (hd:o.dst=some d:=by exact rfl):JQ C ops i (o :: os) L A X:=Qui hw hd h
theorem Qs {d:Nat} {op:Op} {ty:TypeId} {pos:String} {af:Array Edge} {gd:Option (Nat×Bool)} (h:JQ C ops (i+1) os ((d,undef) :: L) A (fun ds L'=>X (⟨[],fun _=>undef,[],false⟩ :: ds) L')) (hw:Wq C ops L ⟨some d,op,ty,pos,af,gd⟩ false:=by exact qs rfl rfl rfl _ rfl rfl):JQ C ops i (⟨some d,op,ty,pos,af,gd⟩ :: os) L A X:=QBf h hw rfl
theorem QBp (us:List Nat) {v:Value} {d:Nat} (hv:OpV C.P L (pkA A us) o v)
  (h:JQ C ops (i+1) os ((d,v) :: L) A (fun ds L'=>X (⟨[],fun _=>v,us,true⟩ :: ds) L')) (hw:Wq C ops L o true:=by first | exact qn rfl | exact qt rfl rfl rfl rfl) (hd:o.dst=some d:=by exact rfl) (hs:(match o.op with | .select ..=>true | _=>false)=false:=by exact rfl):JQ C ops i (o :: os) L A X:=QAt us hw hd hs hv h
theorem Qv {d:Nat} {op:Op} {ty:TypeId} {pos:String} {af:Array Edge} {gd:Option (Nat×Bool)} (us:List Nat) {v:Value} (hv:OpV C.P L (pkA A us) ⟨some d,op,ty,pos,af,gd⟩ v)
  (h:JQ C ops (i+1) os ((d,v) :: L) A (fun ds L'=>X (⟨[],fun _=>v,us,true⟩ :: ds) L')) (hw:Wq C ops L ⟨some d,op,ty,pos,af,gd⟩ true:=by first | exact qn rfl | exact qt rfl rfl rfl rfl) (hs:(match op with | .select ..=>true | _=>false)=false:=by exact rfl):JQ C ops i (⟨some d,op,ty,pos,af,gd⟩ :: os) L A X:=QBp us hv h hw rfl hs
theorem QA6 {e b:Bool} (he:e=b) (us:List Nat) {d:Nat} (hv:OpV C.P L (pkA A us) o (.bool e))
  (h:JQ C ops (i+1) os ((d,.bool b) :: L) A (fun ds L'=>X (⟨[],fun _=>.bool b,us,true⟩ :: ds) L')) (hw:Wq C ops L o true:=by first | exact qn rfl | exact qt rfl rfl rfl rfl) (hd:o.dst=some d:=by exact rfl) (hs:(match o.op with | .select ..=>true | _=>false)=false:=by exact rfl):JQ C ops i (o :: os) L A X:=QAw he us hw hd hs hv h
theorem Qb {d:Nat} {op:Op} {ty:TypeId} {pos:String} {af:Array Edge} {gd:Option (Nat×Bool)} {e b:Bool} (he:e=b) (us:List Nat) (hv:OpV C.P L (pkA A us) ⟨some d,op,ty,pos,af,gd⟩ (.bool e))
  (h:JQ C ops (i+1) os ((d,.bool b) :: L) A (fun ds L'=>X (⟨[],fun _=>.bool b,us,true⟩ :: ds) L')) (hw:Wq C ops L ⟨some d,op,ty,pos,af,gd⟩ true:=by first | exact qn rfl | exact qt rfl rfl rfl rfl) (hs:(match op with | .select ..=>true | _=>false)=false:=by exact rfl):JQ C ops i (⟨some d,op,ty,pos,af,gd⟩ :: os) L A X:=QA6 he us hv h hw rfl hs
theorem Kq {ks:List Kn} {id:Nat} {l:List Oper} (ms:List Nat) (hm:C.P.follows .mixedOrders=true) (h:JQ C l.toArray 0 l L A (fun ds L'=>QlH C.n l.toArray ds ms (QcQ A [])=true/\JK C ks L' A)):JK C (.code (.region id l.toArray true) :: ks) L A:=QsK ms hm h
end
end Go.SL
namespace Go.SL
open Go
section
variable {P:Program} {L:Env} {A:List SP} {o:Oper}
theorem QuQ (a b:Int):(if a < b then b else a)=max a b:=by split <;> omega
theorem QBT {x y t1 t2 a b} (hop:o.op=.call { callee:=.builtin .max,args:=#[x,y],argTypes:=#[t1,t2] }:=by exact rfl) (hx:L.ev x=some (.int .i64 a):=by exact rfl) (hy:L.ev y=some (.int .i64 b):=by exact rfl):OpV P L A o (.int .i64 (max a b)):=fun ρ hρ w M F ok hs=>
 Qjt hop rfl w fun cs=>by
  rw [<- QuQ]
  simp [builtin,Builtin.max_,Builtin.max2,hρ _ _ hx,hρ _ _ hy]
theorem Qt7 {T a n k e} (hT:P.underlying T=some (.slice e)) (w:World):(binOp .eql T (.slice a n k) (.slice none 0 0)).run P w=.ok (.bool a.isNone) w:=by
 have e1:binOp .eql T (.slice a n k) (.slice none 0 0)=(do pure (.bool (<- Op.equalIn (9999+1) T (.slice a n k) (.slice none 0 0)))):=rfl
 have e2:(Op.equalIn (9999+1) T (.slice a n k) (.slice none 0 0)).run P w=.ok a.isNone w:=by
  rw [Op.equalIn]; cases a <;> simp [run_underlying hT]
 rw [e1,Sem.run_bind,e2]; rfl
theorem QxB {T x y yt a n k e} (hT:P.underlying T=some (.slice e)) (hop:o.op=.binOp .eql T x y yt:=by exact rfl) (hx:L.ev x=some (.slice a n k):=by exact rfl) (hy:L.ev y=some (.slice none 0 0):=by exact rfl):OpV P L A o (.bool a.isNone):=fun ρ hρ w M F ok hs=>by
 have:(eqGuard .eql T x y (.slice a n k) (.slice none 0 0)).run P w=.ok () w:=by unfold eqGuard; simp
 have e:execOp ρ o=(do pure (.value (<- (do eqGuard .eql T x y (ρ x) (ρ y); binOp .eql T (ρ x) (ρ y))))):=by unfold execOp; rw [hop]
 rw [e,hρ _ _ hx,hρ _ _ hy]
 simp only [Sem.run_bind,this,Qt7 hT,Result.andThen_ok,Sem.run_pure]
end
section
variable {P:Program} {fn:Func} {w0:World} {M0 F0:Blk} {γ:Type} {I:γ->Prop} {V:γ->Value} {B:γ->List SP} {ks:List Kn} {L:Env} {A:List SP}
end
theorem xE {P:Program} {L:Env} {A:List SP} {o:Oper} {f:FuncId} {t:Nat} {xs:Array Operand} {ts:Array TypeId} {vs asv:List Value} {fs cs:Array Value} {γ:Type} [GEnc γ] {I:γ->Prop} {V:γ->Value} {B:γ->List SP} {Ac Ar:List SP} (is:List Nat) (hf0:Qac P f=true)
  (hop:o.op=.call { callee:=.value (.tmp t),args:=xs,argTypes:=ts }) (hv:L.ev (.tmp t)=some (.func (.func f) fs cs)) (hx:L.evs xs.toList=some vs) (ha:fs.toList++vs++cs.toList=asv) (ht:take A is=some (Ac,Ar)) (hf:FT P f asv.toArray Ac I V B) :
  OpX P L A o (fun g=>V (GEnc.dec g 0)) (fun g=>(SP.fact (I (GEnc.dec g 0)) :: B (GEnc.dec g 0))++Ar):=
 OpX.frame is ht (OpX.ofC GEnc.enc (fun l=>GEnc.dec l 0) (fun g=>GEnc.ed g []) (by intro _ _ h; rw [hop] at h; cases h) (OpC.clo hop hv hf0 hx ha) hf)
theorem lxI (c:Value) (xs:List Int):lax (os c xs):=Qsa (fun h=>h) c xs
theorem lxB (c:Value) (xs:List Bool):lax (os c xs):=Qsa (fun h=>h) c xs
theorem lxU (c:Value) (xs:List (BitVec 64)):lax (os c xs):=Qsa (fun h=>h) c xs
theorem Qwm {R:SP} {A:List SP} (h:lax R) (k:∀ S∈A,lax S):∀ S∈R :: A,lax S:=fun S hS=>by
 rcases List.mem_cons.1 hS with rfl | hS
 ·exact h
 ·exact k S hS
theorem hlx {γ:Type} {B:γ->List SP} (h:∀ g,∀ R∈B g,lax R:=by intro g; (try dsimp only); repeat' first | exact QvG _ _ | exact lxI _ _ | exact lxB _ _ | exact lxU _ _ | refine Qwm ?_ ?_ | exact (fun _ h=>by cases h)):∀ g,∀ R∈B g,lax R:=h
theorem QAp {C:Cx} {X:Act->World->Prop} {L:Env} {A:List SP} {α:Type} [Rep α] {a:Option Addr} {n k:Nat} {xs:List α} (i:Nat) (h:a.isNone=true) (g:xs=[]->JJ C X L A) (hA:A[i]? = some (sl (.slice a n k) xs):=by exact rfl):JJ C X L A:=by
 refine Qe9 i hA (φ:=xs=[]) ?_ g
 rintro w M F ⟨hb,ao,k',hc,hk,hh⟩
 cases a with
 | some ad=>cases h
 | none=>
  have e:ao=none:=by injection hc with h1 _ _; exact h1.symm
  subst e
  exact hh.1
def KLe (P:Program) (Q:Exit->Act->World->Prop) (k1 k2:List Kn):Prop:=∀ e a w,wpK P Q k1 e a w->wpK P Q k2 e a w
theorem KLe.code {P Q k1 k2} {c:Code} (h:KLe P Q k1 k2):KLe P Q (.code c :: k1) (.code c :: k2):=by
 intro e a w hq
 cases e with
 | normal=>simp only [wpK] at hq ⊢; exact wp_mono hq h
 | _=>simp only [wpK] at hq ⊢; exact h _ _ _ hq
theorem KLe.seq {P Q k} {x y:Code}:KLe P Q (.code x :: .code y :: k) (.code (.seq x y) :: k):=by
 intro e a w hq
 cases e with
 | normal=>
  simp only [wpK] at hq ⊢
  refine wp_seq (wp_mono hq ?_)
  intro e a w h
  cases e <;> simpa [wpK,Exit.then] using h
 | _=>simpa only [wpK] using hq
section
variable {C:Cx} {ks:List Kn} {L:Env} {A:List SP} {γ:Type} {F:γ->LI} {c x y:Code}
theorem KLe.goal (h:∀ g,(F g).I->JK C ks (F g).L (F g).A):KLe C.P C.Q (.goal (fun a w=>∃ g' M F',(F g').I/\(F g').n < 1/\St C (F g').L (F g').A a w M F') :: ks) ks:=by
 intro e a w hq
 cases e with
 | normal=>simp only [wpK] at hq; obtain ⟨g,M',F',hI,_,st'⟩:=hq; exact h g hI _ _ _ _ st'
 | _=>simpa only [wpK] using hq
theorem KLe.blk {P Q k1 k2} {id:Nat} (h:KLe P Q k1 k2):KLe P Q (.blk id :: k1) (.blk id :: k2):=by
 intro e a w hw
 cases e with
 | exit j=>
  simp only [wpK] at hw ⊢
  split at hw <;> rename_i e1
  ·rw [if_pos e1]; exact h _ _ _ hw
  ·rw [if_neg e1]; exact h _ _ _ hw
 | _=>simp only [wpK] at hw ⊢; exact h _ _ _ hw
end
end Go.SL
namespace Go.SL
open Go
section
variable {α β γ δ:Type}
def lb (x:LR Unit γ) (k:γ->LR α β):LR α β:=match x with
 | .ret r=>k r
 | _=>.oof
def ll (x:LR γ β) (k:γ->LR α β):LR α β:=match x with
 | .brk o=>k o
 | .ret r=>.ret r
 | .oof=>.oof
def lv (x:γ) (k:γ->δ):δ:=k x
theorem lrn (r:β):(LR.ret r:LR Unit β)≠.oof:=fun h=>by cases h
theorem rI {a b:β} (h:(LR.ret a:LR α β)=.ret b):a=b:=by cases h; rfl
theorem pT {c:Bool} {Y X:LR α β} {G:Prop} (H:(bif c then Y else .oof)=X) (hx:X≠.oof) (k:c=true->Y=X->G):G:=by
 cases c with
 | true=>exact k rfl H
 | false=>exact absurd H.symm hx
theorem pC {p:Prop} [Decidable p] {Y X:LR α β} {G:Prop} (H:(bif decide p then Y else .oof)=X) (hx:X≠.oof) (k:p->Y=X->G):G:=pT H hx fun h=>k (of_decide_eq_true h)
theorem pF {c:Bool} {Y X:LR α β} {G:Prop} (H:(bif c then .oof else Y)=X) (hx:X≠.oof) (k:c=false->Y=X->G):G:=by
 cases c with
 | false=>exact k rfl H
 | true=>exact absurd H.symm hx
theorem pS {c:Bool} {A B X:δ} {G:Prop} (H:(bif c then A else B)=X) (t:c=true->A=X->G) (f:c=false->B=X->G):G:=by
 cases c with
 | true=>exact t rfl H
 | false=>exact f rfl H
theorem lvH {x:γ} {k:γ->δ} {X:δ} {G:Prop} (H:lv x k=X) (g:∀ r,x=r->k r=X->G):G:=g x rfl H
theorem lbH {x:LR Unit γ} {k:γ->LR α β} {X:LR α β} {G:Prop} (H:lb x k=X) (hx:X≠.oof) (g:∀ r,x=.ret r->k r=X->G):G:=by
 cases x with
 | ret r=>exact g r rfl H
 | brk _=>exact absurd H.symm hx
 | oof=>exact absurd H.symm hx
theorem llH {x:LR γ β} {k:γ->LR α β} {X:LR α β} {G:Prop} (H:ll x k=X) (hx:X≠.oof) (g:∀ Y,x=Y->Y≠.oof->ll Y k=X->G):G:=
 g x rfl (fun e=>by rw [e] at H; exact hx H.symm) H
theorem llB {Y:LR γ β} {k:γ->LR α β} {X:LR α β} {o:γ} (h : .brk o=Y) (H:ll Y k=X):k o=X:=by subst h; exact H
theorem llR {Y:LR γ β} {k:γ->LR α β} {X:LR α β} {r:β} (h : .ret r=Y) (H:ll Y k=X) : .ret r=X:=by subst h; exact H
end
theorem Ent.pallT {A:List SP} (hp:A.all (·.p)=true):Ent A [Qgg A]:=by
 intro w M F ok hs
 refine ⟨M,F,Qew.refl ok,fun _=>False,F,fun _ h=>h.elim,fun _ h=>h,fun _ h _=>h,?_,trivial⟩
 have key:∀ (B:List SP) (F:Blk),B.all (·.p)=true->QaI B w M F->∀ R∈B,R.p=true/\R.h w M (fun _=>False):=by
  intro B
  induction B with
  | nil=>intro F _ _ R hR; cases hR
  | cons S B ih=>
   intro F hB hs R hR
   simp only [List.all_cons,Bool.and_eq_true] at hB
   obtain ⟨F1,F2,_,_,_,hS,hB2⟩:=hs
   rcases List.mem_cons.1 hR with rfl | hR
   ·exact ⟨hB.1,R.pers hB.1 hS⟩
   ·exact ih F2 hB.2 hB2 R hR
 exact key A F hp hs
section
variable {C:Cx} {ks:List Kn} {L:Env} {A:List SP} {X:Act->World->Prop}
theorem KcT {c:Operand} {x y:Code} {b:Bool} (h:b=true) (k:JK C (.code x :: ks) L A) (hc:L.ev c=some (.bool b):=by exact rfl):JK C (.code (.cond c x y) :: ks) L A:=QpR (by rw [hc,h]) k
theorem KcF {c:Operand} {x y:Code} {b:Bool} (h:b=false) (k:JK C (.code y :: ks) L A) (hc:L.ev c=some (.bool b):=by exact rfl):JK C (.code (.cond c x y) :: ks) L A:=QpY (by rw [hc,h]) k
theorem JsT (t:Nat) {e:Bool} (h:e=true) (k:JJ C X ((t,.bool true) :: L) A) (he:L.get t=some (.bool e):=by exact rfl):JJ C X L A:=QnP t he (fun _=>k) (fun h'=>by rw [h] at h'; cases h')
theorem JsF (t:Nat) {e:Bool} (h:e=false) (k:JJ C X ((t,.bool false) :: L) A) (he:L.get t=some (.bool e):=by exact rfl):JJ C X L A:=QnP t he (fun h'=>by rw [h] at h'; cases h') (fun _=>k)
theorem KcH {β:Type} {c:Operand} {x y:Code} {b:Bool} {U V W:β} (H:(bif b then U else V)=W) (ht:b=true->U=W->JK C (.code x :: ks) L A) (hf:b=false->V=W->JK C (.code y :: ks) L A) (hc:L.ev c=some (.bool b):=by exact rfl):JK C (.code (.cond c x y) :: ks) L A:=
 Kc (fun h=>ht h (by rw [h] at H; exact H)) (fun h=>hf h (by rw [h] at H; exact H)) hc
theorem JsH {β:Type} (t:Nat) {e:Bool} {U V W:β} (H:(bif e then U else V)=W) (hT:e=true->U=W->JJ C X ((t,.bool true) :: L) A) (hF:e=false->V=W->JJ C X ((t,.bool false) :: L) A) (he:L.get t=some (.bool e):=by exact rfl):JJ C X L A:=
 Js t (fun h=>hT h (by rw [h] at H; exact H)) (fun h=>hF h (by rw [h] at H; exact H)) he
end
end Go.SL
namespace Go.SL
open Go
structure Str where
 b:List UInt8
deriving DecidableEq,Inhabited
instance:Append Str:=⟨fun l m=>⟨l.b++m.b⟩⟩
theorem Str.app (l m:Str):(l++m).b=l.b++m.b:=rfl
def bs (l:Str):ByteArray:=⟨l.b.toArray⟩
theorem Qo2 (l:Str):(bs l).size=l.b.length:=by simp [bs,ByteArray.size]
theorem Qt8 (b:ByteArray):∀ (n i:Nat) (r:List UInt8),b.size - i=n->ByteArray.toList.loop b i r=r.reverse++b.data.toList.drop i:=by
 intro n
 induction n with
 | zero=>
  intro i r h
  unfold ByteArray.toList.loop
  have:¬ i < b.size:=by omega
  simp only [this,if_false]
  have e:b.data.toList.drop i=[]:=List.drop_eq_nil_of_le (by have:b.data.toList.length=b.size:=Array.length_toList; omega)
  rw [e,List.append_nil]
 | succ n ih=>
  intro i r h
  unfold ByteArray.toList.loop
  have hi:i < b.size:=by omega
  simp only [hi,if_true]
  rw [ih (i+1) _ (by omega)]
  have hi':i < b.data.toList.length:=by have:b.data.toList.length=b.size:=Array.length_toList; omega
  have hg:b.get! i=b.data.toList[i]:=by
   show b.data[i]! = _
   rw [getElem!_pos b.data i (by simpa using hi')]; simp
  rw [List.drop_eq_getElem_cons hi',hg,List.reverse_cons,List.append_assoc]; rfl
theorem QoB (l:Str):(bs l).toList=l.b:=by
 unfold ByteArray.toList
 rw [Qt8 _ _ 0 [] rfl]
 simp [bs]
def Str.sub (l:Str) (i j:Nat):Str:=⟨(l.b.take j).drop i⟩
theorem Qqe (l:Str) (i j:Nat):(bs l).extract i j=bs (l.sub i j):=by
 apply ByteArray.ext
 simp only [bs,ByteArray.data_extract,Str.sub]
 rw [<- Array.toList_inj]
 simp [List.drop_take]
theorem QrD (l m:Str):(l.b == m.b)=(l == m):=by
 rw [Bool.eq_iff_iff,beq_iff_eq,beq_iff_eq]
 cases l; cases m; simp
instance:RepE Str where
 sz:=1
 bytes:=16
 pos:=by decide
 bpos:=by decide
 rd _ _ cs x:=cs=[.string (bs x)]/\x.b.length<=140737488355328
 len:=by rintro w M cs x ⟨rfl,_⟩; rfl
 one:=by rintro w M cs x ⟨rfl,_⟩ v hv; simp at hv; subst hv; rfl
 st:=fun h _=>h
 ex x:=[.string (bs x)]
 ok x:=x.b.length<=140737488355328
 ex_eq:=fun h=>h
 rd_ex:=fun h=>⟨rfl,h⟩
section
variable {P:Program} {L:Env} {A:List SP} {o:Oper}
theorem Vix {x y T k} {l:Str} {n:Int} (hT:P.underlying T=some .string) (hop:o.op=.index T x y:=by exact rfl) (hx:L.ev x=some (.string (bs l)):=by exact rfl) (hy:L.ev y=some (.int k n):=by exact rfl) (h:0<=n/\n < (l.b.length:Int):=by omega):OpV P L A o (.int .u8 ((l.b.getD n.toNat 0).toNat:Int)):=fun ρ hρ w M F ok hs=>by
 have hn:n.toNat < l.b.length:=by omega
 have e:(bs l)[n.toNat]? = some (l.b.getD n.toNat 0):=by
  have h1:n.toNat < (bs l).size:=by rw [Qo2]; exact hn
  rw [getElem?_pos (bs l) n.toNat h1]
  simp [bs,ByteArray.getElem_eq_getElem_data,hn]
 simp [execOp,hop,hρ _ _ hx,hρ _ _ hy,Instr.index,asIntOf,run_underlying hT,h.1,e]
theorem VlS {x T} {l:Str} (hT:P.underlying T=some .string) (hop:o.op=.call { callee:=.builtin .len,args:=#[x],argTypes:=#[T] }:=by exact rfl) (hx:L.ev x=some (.string (bs l)):=by exact rfl):OpV P L A o (.int .i64 (l.b.length:Int)):=by
 have:=OpV.lenS (A:=A) hop hx hT
 rwa [Qo2] at this
theorem Qj6 {op T x y yt} {l m:Str} {v:Value} (hop:o.op=.binOp op T x y yt) (hx:L.ev x=some (.string (bs l))) (hy:L.ev y=some (.string (bs m))) (h:∀ w:World,(Op.stringOp op (bs l) (bs m)).run P w=.ok v w) (hs:op≠.shl/\op≠.shr:=by decide):OpV P L A o v:=fun ρ hρ w M F ok hs'=>by
 have g:(eqGuard op T x y (.string (bs l)) (.string (bs m))).run P w=.ok () w:=by cases op <;> simp [eqGuard]
 have e:binOp op T (.string (bs l)) (.string (bs m))=Op.stringOp op (bs l) (bs m):=by cases op <;> first | rfl | exact absurd rfl hs.1 | exact absurd rfl hs.2
 simp [execOp,hop,hρ _ _ hx,hρ _ _ hy,g,e,h]
theorem Qmv {T x y yt} {l m:Str} (hop:o.op=.binOp .eql T x y yt:=by exact rfl) (hx:L.ev x=some (.string (bs l)):=by exact rfl) (hy:L.ev y=some (.string (bs m)):=by exact rfl):OpV P L A o (.bool (l == m)):=
 Qj6 hop hx hy (fun w=>by simp only [Op.stringOp,QoB,QrD]; rfl) (by decide)
theorem QBA {T x y yt} {l m:Str} (hop:o.op=.binOp .neq T x y yt:=by exact rfl) (hx:L.ev x=some (.string (bs l)):=by exact rfl) (hy:L.ev y=some (.string (bs m)):=by exact rfl):OpV P L A o (.bool (l != m)):=
 Qj6 hop hx hy (fun w=>by simp only [Op.stringOp,QoB,QrD,bne]; rfl) (by decide)
theorem Qtu {T x n c j} {xs:List Str} (hT:Qau P T=some (false,n)) (i:Nat) (hop:o.op=.load T x:=by exact rfl) (hA:A[i]? = some (sl c xs)\/A[i]? = some (os c xs):=by first | exact .inl rfl | exact .inr rfl) (hx:L.ev x=some (QgV 1 c j):=by exact rfl) (hj:j < xs.length:=by exact rng):OpV P L A o (.string (bs (xs.getD j default))):=by
 rcases hA with hA | hA
 ·exact OpV.load hop hx hT hA (Qnp c xs j default hj) rfl
 ·exact OpV.load hop hx hT hA (QnC c xs j default hj) rfl
theorem Qz3 {T x lo hi k1 k2} {l:Str} {a b:Int} (hT:P.underlying T=some .string) (hop:o.op=.slice T x (some lo) (some hi) none:=by exact rfl) (hx:L.ev x=some (.string (bs l)):=by exact rfl) (ha:L.ev lo=some (.int k1 a):=by exact rfl) (hb:L.ev hi=some (.int k2 b):=by exact rfl) (h:0<=a/\a<=b/\b<=(l.b.length:Int):=by omega):OpV P L A o (.string (bs (l.sub a.toNat b.toNat))):=fun ρ hρ w M F ok hs=>by
 have h2:(b.toNat:Int)=b:=Int.toNat_of_nonneg (by omega)
 have h3:¬ ((b.toNat:Int) < a):=by omega
 simp [execOp,hop,hρ _ _ hx,hρ _ _ ha,hρ _ _ hb,Instr.sliceAt,Instr.slice,Instr.sliceBounds,Instr.sliceBound,asIntOf,run_underlying hT,Qo2,Qqe,h.1,h.2.2,show 0<=b by omega,h.2.1,h2]
end
theorem u8b (x:UInt8):0<=(x.toNat:Int)/\(x.toNat:Int)<=255:=by have:=x.toNat_lt; omega
def fl (n:Nat):Nat:=if h:n < 0 then fl (n - 1) else n
termination_by n
decreasing_by omega
def QpS (P : Program) (f : Field) (i : Nat) : Bool := decide (f.name ≠ "_") && (f.offset == i) && (match P.underlying f.type with | some (.int _) => true | _ => false) && (match Qau P f.type with | some (false, _) => true | _ => false)
def Qj2 (P:Program):List Field->Nat->Bool
 | [],_=>true
 | f :: fs,i=>QpS P f i && Qj2 P fs (i+1)
def QjV (P:Program) (T:TypeId) (n:Nat):Bool:=match P.underlying T with
 | some (.struct fs)=>(fs.size == n) && Qj2 P fs.toList 0 && !P.stoodInHeld T && !P.eqGuardType P.depth T
 | _=>false
theorem QpV {P:Program} {T:TypeId} {n:Nat} {cs:Array Value} {i:Nat} {v:Value} (h:Qau P T=some (false,n)) (hv:cs[i]? = some v) (w:World):(part T cs i).run P w=.ok v w:=by
 unfold part
 simp [Sem.run_bind,QiD h,hv]
theorem Qr1 {P:Program} {T:TypeId} {k j:IntKind} {d:Nat} {a b:Int} (h:P.underlying T=some (.int j)) (w:World):(Op.equalIn (d+1) T (.int k a) (.int k b)).run P w=.ok (a == b) w:=by
 rw [Op.equalIn]
 simp [Sem.run_bind,run_underlying h]
theorem QkW {P:Program} {d:Nat} {xs ys:Array Value} {w:World}:∀ (fs:List Field) (i:Nat) (l m:List Int),Qj2 P fs i=true->l.length=fs.length->m.length=fs.length->(∀ j,j < fs.length->xs[i+j]? = some (.int .i64 (l.getD j 0)))->(∀ j,j < fs.length->ys[i+j]? = some (.int .i64 (m.getD j 0))) ->
  (forIn (m:=Sem) fs ((none:Option Bool),()) fun f (_:Option Bool×Unit)=>
        if f.name ≠ "_" then do
         let __do_lift <- part f.type xs f.offset
         let __do_lift_1 <- part f.type ys f.offset
         let __do_lift <- Op.equalIn (d+1) f.type __do_lift __do_lift_1
         if (!__do_lift)=true then pure (ForInStep.done (some false,()))
          else pure (ForInStep.yield (none,()))
        else pure (ForInStep.yield (none,()))).run P w=.ok (if l=m then (none,()) else (some false,())) w
 | [],i,l,m,hf,hl,hm,hx,hy=>by
  have:l=[]:=List.length_eq_zero_iff.1 hl
  have:m=[]:=List.length_eq_zero_iff.1 hm
  subst l; subst m
  simp
 | f :: fs,i,[],m,hf,hl,hm,hx,hy=>by cases hl
 | f :: fs,i,a :: l,[],hf,hl,hm,hx,hy=>by cases hm
 | f :: fs,i,a :: l,b :: m,hf,hl,hm,hx,hy=>by
  simp only [Qj2,QpS,Bool.and_eq_true,decide_eq_true_eq,beq_iff_eq] at hf
  obtain ⟨⟨⟨⟨h1,h2⟩,h3⟩,h4⟩,h5⟩:=hf
  have hu:∃ k,P.underlying f.type=some (.int k):=by
   cases hh:P.underlying f.type with
   | none=>rw [hh] at h3; cases h3
   | some t=>cases t <;> first | exact ⟨_,rfl⟩ | (rw [hh] at h3; cases h3)
  obtain ⟨k,hu⟩:=hu
  have ht:∃ n,Qau P f.type=some (false,n):=by
   cases hh:Qau P f.type with
   | none=>rw [hh] at h4; cases h4
   | some t=>obtain ⟨b,n⟩:=t; cases b <;> first | exact ⟨_,rfl⟩ | (rw [hh] at h4; cases h4)
  obtain ⟨n,ht⟩:=ht
  have x0:=hx 0 (by simp)
  have y0:=hy 0 (by simp)
  simp only [Nat.add_zero,List.getD_cons_zero] at x0 y0
  have ih:=QkW (d:=d) fs (i+1) l m h5 (by simpa using hl) (by simpa using hm) (fun j hj=>by
   have:=hx (j+1) (by simp; omega)
   rw [show i+1+j=i+(j+1) by omega,this]; rfl) (fun j hj=>by
   have:=hy (j+1) (by simp; omega)
   rw [show i+1+j=i+(j+1) by omega,this]; rfl) (xs:=xs) (ys:=ys) (w:=w)
  rw [List.forIn_cons]
  simp only [ne_eq,h1,not_false_eq_true,if_true,Sem.run_bind,h2,QpV ht x0,QpV ht y0,Qr1 hu,Result.andThen_ok]
  by_cases e:a=b
  ·subst e
   simp only [beq_self_eq_true,Bool.not_true,Bool.false_eq_true,if_false,Sem.run_pure,Result.andThen_ok,ih,List.cons.injEq,true_and]
  ·have e2:(a == b)=false:=by simp [e]
   simp [e2,e]
theorem QkP {P:Program} {T:TypeId} {n:Nat} {l m:List Int} {d:Nat} (h:QjV P T n=true) (hl:l.length=n) (hm:m.length=n) (w:World):(Op.equalIn (d+2) T (.agg (l.map (Value.int .i64)).toArray) (.agg (m.map (Value.int .i64)).toArray)).run P w=.ok (l == m) w:=by
 unfold QjV at h
 cases hu:P.underlying T with
 | none=>rw [hu] at h; cases h
 | some t=>
  rw [hu] at h
  cases t with
  | struct fs=>
   simp only [Bool.and_eq_true,beq_iff_eq,Bool.not_eq_true'] at h
   obtain ⟨⟨⟨h1,h2⟩,h3⟩,h4⟩:=h
   have hs:fs.toList.length=n:=by simpa using h1
   have key:=QkW (d:=d) (xs:=(l.map (Value.int .i64)).toArray) (ys:=(m.map (Value.int .i64)).toArray) (w:=w) fs.toList 0 l m h2 (by omega) (by omega) (fun j hj=>by simp [show j < l.length by omega]) (fun j hj=>by simp [show j < m.length by omega])
   rw [Op.equalIn]
   simp only [Sem.run_bind,run_underlying hu,Result.andThen_ok,run_program,h3,Bool.false_eq_true,if_false]
   rw [<- Array.forIn_toList,key]
   by_cases e:l=m
   ·subst e; simp
   ·have e2:(l == m)=false:=by simp [e]
    simp [e,e2]
  | _=>cases h
section
variable {P:Program} {L:Env} {A:List SP} {o:Oper}
theorem QkZ {T x y xs ys n} {op:BinOp} (h:QjV P T n=true) (w:World):(eqGuard op T x y (.agg xs) (.agg ys)).run P w=.ok () w:=by
 have hg:P.eqGuardType P.depth T=false:=by
  unfold QjV at h
  cases hu:P.underlying T with
  | none=>rw [hu] at h; cases h
  | some t=>
   rw [hu] at h
   cases t with
   | struct fs=>simp only [Bool.and_eq_true,Bool.not_eq_true'] at h; exact h.2
   | _=>cases h
 cases op <;> simp [eqGuard,Sem.run_bind,run_program,hg]
theorem QyF {T x y yt n cx cy} {l m:List Int} (h:QjV P T n=true) (hop:o.op=.binOp .eql T x y yt:=by exact rfl) (hx:L.ev x=some (.agg cx):=by exact rfl) (hy:L.ev y=some (.agg cy):=by exact rfl) (ex:cx=(l.map (Value.int .i64)).toArray:=by exact rfl) (ey:cy=(m.map (Value.int .i64)).toArray:=by exact rfl) (hl:l.length=n:=by exact rfl) (hm:m.length=n:=by exact rfl):OpV P L A o (.bool (l == m)):=fun ρ hρ w M F ok hs=>by
 have e:=QkP (d:=9998) h hl hm w
 have e2:(Op.equal T (.agg cx) (.agg cy)).run P w=.ok (l == m) w:=by rw [ex,ey]; exact e
 have e1:binOp .eql T (.agg cx) (.agg cy)=(do pure (.bool (<- Op.equal T (.agg cx) (.agg cy)))):=rfl
 simp [execOp,hop,hρ _ _ hx,hρ _ _ hy,QkZ h,e1,Sem.run_bind,e2]
theorem QAh {T x y yt n cx cy} {l m:List Int} (h:QjV P T n=true) (hop:o.op=.binOp .neq T x y yt:=by exact rfl) (hx:L.ev x=some (.agg cx):=by exact rfl) (hy:L.ev y=some (.agg cy):=by exact rfl) (ex:cx=(l.map (Value.int .i64)).toArray:=by exact rfl) (ey:cy=(m.map (Value.int .i64)).toArray:=by exact rfl) (hl:l.length=n:=by exact rfl) (hm:m.length=n:=by exact rfl):OpV P L A o (.bool (l != m)):=fun ρ hρ w M F ok hs=>by
 have e:=QkP (d:=9998) h hl hm w
 have e2:(Op.equal T (.agg cx) (.agg cy)).run P w=.ok (l == m) w:=by rw [ex,ey]; exact e
 have e1:binOp .neq T (.agg cx) (.agg cy)=(do pure (.bool (!(<- Op.equal T (.agg cx) (.agg cy))))):=rfl
 simp [execOp,hop,hρ _ _ hx,hρ _ _ hy,QkZ h,e1,Sem.run_bind,e2,bne]
end
theorem okS {xs:List Str} {i:Nat} (h:∀ x∈xs,RepE.ok x) (hi:i < xs.length):(xs.getD i default).b.length<=140737488355328:=by
 have e:xs.getD i default=xs[i]:=by simp [List.getD,hi]
 rw [e]; exact h _ (List.getElem_mem hi)
theorem QpL (l:Str) (i j:Nat):(l.sub i j).b.length=min j l.b.length - i:=by
 simp only [Str.sub,List.length_drop,List.length_take]
theorem FoS {C:Cx} {X:Act->World->Prop} {L:Env} {A:List SP} {c:Value} {xs:List Str} (i:Nat) (h:(∀ x∈xs,RepE.ok x)->JJ C X L A) (hA:A[i]? = some (sl c xs)\/A[i]? = some (os c xs):=by first | exact .inl rfl | exact .inr rfl):JJ C X L A:=by
 rcases hA with hA | hA
 ·exact Qe9 i hA QwJ h
 ·exact Qe9 i hA Qwl h
end Go.SL
namespace Go.SL
open Go
def ixs {α:Type}:Nat->List α->List (Nat×α)
 | _,[]=>[]
 | n,a :: l=>(n,a) :: ixs (n+1) l
theorem QlV {α:Type}:∀ (n:Nat) (l:List α),(ixs n l).map (·.2)=l
 | _,[]=>rfl
 | n,a :: l=>by simp [ixs,QlV (n+1) l]
theorem Qq7 {α:Type}:∀ (l:List α) (n i:Nat),(ixs n l)[i]? = (l[i]?).map fun a=>(n+i,a)
 | [],n,i=>by simp [ixs]
 | a :: l,n,0=>by simp [ixs]
 | a :: l,n,i+1=>by simp [ixs,Qq7 l (n+1) i]; cases l[i]? <;> simp; omega
theorem Qnk {α:Type}:∀ (l:List α) (n:Nat),(ixs n l).map (·.1)=List.range' n l.length
 | [],n=>rfl
 | a :: l,n=>by simp [ixs,Qnk l (n+1),List.range'_succ]
theorem QmY {α:Type}:∀ (l m:List α) (n:Nat),ixs n (l++m)=ixs n l++ixs (n+l.length) m
 | [],m,n=>by simp [ixs]
 | a :: l,m,n=>by simp [ixs,QmY l m (n+1)]; congr 1; omega
def QbX {κ ν:Type} [DecidableEq κ]:List (κ×ν)->κ->Option ν
 | [],_=>none
 | (a,v) :: l,k=>if a=k then some v else QbX l k
def mset {κ ν:Type} [DecidableEq κ]:List (κ×ν)->κ->ν->List (κ×ν)
 | [],k,v=>[(k,v)]
 | (a,u) :: l,k,v=>if a=k then (a,v) :: l else (a,u) :: mset l k v
section
variable {κ ν:Type} [DecidableEq κ]
theorem Qex:∀ {l:List (κ×ν)} (_:(l.map (·.1)).Nodup) {k:κ} {v:ν},QbX l k=some v↔(k,v)∈l
 | [],_,k,v=>by simp [QbX]
 | (a,u) :: l,h,k,v=>by
  simp only [List.map_cons,List.nodup_cons] at h
  unfold QbX
  by_cases e:a=k
  ·subst e
   simp only [if_pos,Option.some.injEq,List.mem_cons,Prod.mk.injEq,true_and]
   constructor
   ·rintro rfl; exact .inl rfl
   ·rintro (h' | h')
    ·exact h'.symm
    ·exact absurd (List.mem_map_of_mem h') h.1
  ·rw [if_neg e,Qex h.2]
   simp only [List.mem_cons,Prod.mk.injEq]
   constructor
   ·exact .inr
   ·rintro (⟨h',_⟩ | h')
    ·exact absurd h'.symm e
    ·exact h'
theorem QlF {l l':List (κ×ν)} (hp:l.Perm l') (h:(l.map (·.1)).Nodup) (k:κ):QbX l k=QbX l' k:=by
 have h':(l'.map (·.1)).Nodup:=(hp.map _).nodup_iff.1 h
 cases e:QbX l k with
 | some v=>exact ((Qex h').2 (hp.mem_iff.1 ((Qex h).1 e))).symm
 | none=>
  cases e':QbX l' k with
  | none=>rfl
  | some v=>rw [(Qex h).2 (hp.mem_iff.2 ((Qex h').1 e'))] at e; cases e
theorem QeW:∀ {l:List (κ×ν)} {k:κ},QbX l k=none↔k ∉ l.map (·.1)
 | [],k=>by simp [QbX]
 | (a,u) :: l,k=>by
  unfold QbX
  by_cases e:a=k
  ·simp [e]
  ·rw [if_neg e,QeW]; simp [Ne.symm e]
theorem QiA:∀ {l:List (κ×ν)} {k:κ} {v:ν},(mset l k v).map (·.1)=if k∈l.map (·.1) then l.map (·.1) else l.map (·.1)++[k]
 | [],k,v=>by simp [mset]
 | (a,u) :: l,k,v=>by
  unfold mset
  by_cases e:a=k
  ·simp [e]
  ·rw [if_neg e,List.map_cons,QiA]
   simp only [List.map_cons,List.mem_cons,Ne.symm e,false_or]
   split <;> simp
theorem Qf8 {l:List (κ×ν)} (h:(l.map (·.1)).Nodup) (k:κ) (v:ν):((mset l k v).map (·.1)).Nodup:=by
 rw [QiA]
 split
 ·exact h
 ·rename_i hk
  rw [List.nodup_append]
  exact ⟨h,by simp,by rintro a ha b hb rfl; simp at hb; subst hb; exact hk ha⟩
theorem Qga:∀ (l:List (κ×ν)) (k:κ) (v:ν) (j:κ),QbX (mset l k v) j=if k=j then some v else QbX l j
 | [],k,v,j=>by simp [mset,QbX]
 | (a,u) :: l,k,v,j=>by
  unfold mset
  by_cases e:a=k
  ·subst e; simp only [if_pos,QbX]
   by_cases e':a=j <;> simp [e']
  ·rw [if_neg e]
   simp only [QbX,Qga l k v j]
   by_cases e1:a=j
   ·subst e1; simp [Ne.symm e]
   ·simp [e1]
theorem Qnq:∀ {l:List (κ×ν)} {k:κ} (v:ν),k ∉ l.map (·.1)->mset l k v=l++[(k,v)]
 | [],k,v,_=>rfl
 | (a,u) :: l,k,v,h=>by
  simp only [List.map_cons,List.mem_cons,not_or] at h
  simp [mset,Ne.symm h.1,Qnq v h.2]
theorem Qi0:∀ {l:List (κ×ν)} {k:κ} (v:ν) {i:Nat} {u:ν},(l.map (·.1)).Nodup->l[i]? = some (k,u)->mset l k v=l.set i (k,v)
 | [],k,v,i,u,_,h=>by simp at h
 | (a,x) :: l,k,v,0,u,hn,h=>by simp at h; obtain ⟨rfl,rfl⟩:=h; simp [mset]
 | (a,x) :: l,k,v,i+1,u,hn,h=>by
  simp only [List.map_cons,List.nodup_cons] at hn
  simp at h
  have:a≠k:=fun e=>hn.1 (e ▸ List.mem_map.2 ⟨(k,u),List.mem_of_getElem? h,rfl⟩)
  simp [mset,this,Qi0 v hn.2 h]
theorem QkQ {l l':List (κ×ν)} (h:(l.map (·.1)).Nodup) (h':(l'.map (·.1)).Nodup) (e:∀ k,QbX l k=QbX l' k):l.Perm l':=by
 have nd:∀ {m:List (κ×ν)},(m.map (·.1)).Nodup->m.Nodup:=fun {m} hm=>by
  induction m with
  | nil=>exact List.nodup_nil
  | cons a m ih=>
   simp only [List.map_cons,List.nodup_cons] at hm
   exact List.nodup_cons.2 ⟨fun ha=>hm.1 (List.mem_map_of_mem ha),ih hm.2⟩
 have hm:∀ a,a∈l↔a∈l':=fun ⟨k,v⟩=>by rw [<- Qex h,<- Qex h',e]
 have sub:∀ {m m':List (κ×ν)},m.Nodup->(∀ a,a∈m->a∈m')->∃ r,m'.Perm (m++r):=fun {m}=>by
  induction m with
  | nil=>intro m' _ _; exact ⟨m',List.Perm.refl _⟩
  | cons a m ih=>
   intro m' hn hs
   obtain ⟨x,y,rfl⟩:=List.append_of_mem (hs a (by simp))
   obtain ⟨r,hr⟩:=ih (m':=x++y) (List.nodup_cons.1 hn).2 (fun b hb=>by
    have:=hs b (by simp [hb])
    simp only [List.mem_append,List.mem_cons] at this ⊢
    rcases this with h | rfl | h
    ·exact .inl h
    ·exact absurd hb (List.nodup_cons.1 hn).1
    ·exact .inr h)
   exact ⟨r,(List.perm_middle).trans (hr.cons a)⟩
 obtain ⟨r,hr⟩:=sub (nd h) (fun a ha=>(hm a).1 ha)
 obtain ⟨r',hr'⟩:=sub (nd h') (fun a ha=>(hm a).2 ha)
 have h1:=hr.length_eq
 have h2:=hr'.length_eq
 simp only [List.length_append] at h1 h2
 have:r=[]:=List.length_eq_zero_iff.1 (by omega)
 subst this
 simpa using hr.symm
theorem Qot {l l':List (κ×ν)} (hp:l.Perm l') (h:(l.map (·.1)).Nodup) (k:κ) (v:ν):(mset l k v).Perm (mset l' k v):=by
 have h':(l'.map (·.1)).Nodup:=(hp.map _).nodup_iff.1 h
 refine QkQ (Qf8 h _ _) (Qf8 h' _ _) fun j=>?_
 rw [Qga,Qga,QlF hp h]
end
def mes {κ ν:Type} (ek:κ->Value) (ev:ν->Value) (o:List (κ×ν)):Array MapEntry:=((ixs 0 o).map fun x=>(⟨ek x.2.1,ev x.2.2,x.1⟩:MapEntry)).toArray
structure KK (P:Program) (k:TypeId) {κ:Type} (ek:κ->Value) (ok:κ->Prop):Prop where
 K:Maps.Keyed P k
 rd:∀ x,ok x->∃ l,keyOf P k (ek x)=some l
 inj:∀ x y,ek x=ek y->x=y
def Mp {κ ν:Type} (ek:κ->Value) (ev:ν->Value) (ok:κ->Prop) (p:Value) (l:List (κ×ν)):SP where
 h w M F:=∃ b o,F b/\p=.map (some b)/\o.Perm l/\(o.map (·.1)).Nodup/\(∀ e∈o,ok e.1)/\w.heap[b]? = some (.map (mes ek ev o) o.length)
 p:=false
 st:=by
  rintro w M F w' M' ⟨b,o,h1,h2,h3,h4,h5,h6⟩ e k
  exact ⟨b,o,h1,h2,h3,h4,h5,(k b h1).trans h6⟩
 up:=by
  rintro w M F F' ⟨b,o,h1,h2⟩ e
  exact ⟨b,o,e b h1,h2⟩
 pers:=by simp
def MpI {κ ν:Type} (ek:κ->Value) (ev:ν->Value) (ok:κ->Prop) (p q:Value) (l d r:List (κ×ν)):SP where
 h w M F:=∃ b i o,∃ d' r':List (Nat×(κ×ν)),F b/\F i/\p=.map (some b)/\q=.pointer (some ⟨i,0,none⟩)/\o.Perm l/\(o.map (·.1)).Nodup/\(∀ e∈o,ok e.1)/\w.heap[b]? = some (.map (mes ek ev o) o.length) /\
  w.heap[i]? = some (.mapIter (some b) o.length (d'.map (·.1)).toArray o.length)/\(d'++r').Perm (ixs 0 o)/\d=d'.map (·.2)/\r=r'.map (·.2)/\b≠i
 p:=false
 st:=by
  rintro w M F w' M' ⟨b,i,o,d',r',h1,h2,h3,h4,h5,h6,h7,h8,h9,h10⟩ e k
  exact ⟨b,i,o,d',r',h1,h2,h3,h4,h5,h6,h7,(k b h1).trans h8,(k i h2).trans h9,h10⟩
 up:=by
  rintro w M F F' ⟨b,i,o,d',r',h1,h2,h3⟩ e
  exact ⟨b,i,o,d',r',e b h1,e i h2,h3⟩
 pers:=by simp
section
variable {P:Program} {L:Env} {A:List SP} {o:Oper} {κ ν:Type} {ek:κ->Value} {ev:ν->Value} {ok:κ->Prop} {p:Value} {l:List (κ×ν)}
theorem Qfa (o:List (κ×ν)):(mes ek ev o).toList=(ixs 0 o).map fun x=>(⟨ek x.2.1,ev x.2.2,x.1⟩:MapEntry):=by simp [mes]
theorem Qg8 (o:List (κ×ν)) (i:Nat):(mes ek ev o)[i]? = (o[i]?).map fun a=>(⟨ek a.1,ev a.2,i⟩:MapEntry):=by
 simp only [mes,List.getElem?_toArray,List.getElem?_map,Qq7]; cases o[i]? <;> simp
theorem QsZ {k:TypeId} (hK:KK P k ek ok) {o:List (κ×ν)} (h:∀ e∈o,ok e.1):∀ e∈(mes ek ev o).toList,∃ l,keyOf P k e.key=some l:=by
 intro e he
 rw [Qfa,List.mem_map] at he
 obtain ⟨⟨i,a⟩,ha,rfl⟩:=he
 refine hK.rd _ (h a ?_)
 have:=List.mem_map_of_mem (f:=(·.2)) ha
 rwa [QlV] at this
theorem QnH [DecidableEq κ] {k:TypeId} (hK:KK P k ek ok) {o:List (κ×ν)} (hn:(o.map (·.1)).Nodup) (h:∀ e∈o,ok e.1) {x:κ} (hx:ok x) (w:World) :
  ((Instr.findKey k (ek x) (mes ek ev o).toList).run P w=.ok none w/\QbX o x=none)\/∃ i v,(Instr.findKey k (ek x) (mes ek ev o).toList).run P w=.ok (some (i,ev v)) w/\o[i]? = some (x,v):=by
 obtain ⟨lx,hl⟩:=hK.rd x hx
 rcases hK.K.find w hl (mes ek ev o).toList (QsZ hK h) with ⟨h1,h2⟩ | ⟨j,e,h1,h2,h3⟩
 ·refine .inl ⟨h1,QeW.2 fun hm=>?_⟩
  obtain ⟨a,ha,rfl⟩:=List.mem_map.1 hm
  obtain ⟨i,hi⟩:=List.getElem?_of_mem ha
  have:=Qg8 (ek:=ek) (ev:=ev) o i
  rw [hi] at this
  exact h2 _ (by rw [<- Array.getElem?_toList] at this; exact List.mem_of_getElem? this) rfl
 ·rw [Array.getElem?_toList,Qg8] at h2
  cases ho:o[j]? with
  | none=>simp [ho] at h2
  | some a=>
   simp [ho] at h2
   subst h2
   have:a.1=x:=hK.inj _ _ h3
   exact .inr ⟨j,a.2,h1,by rw [ho,<- this]⟩
theorem OpV.mlook [DecidableEq κ] {T x y kt et} {c:Bool} {key:κ} (z:ν) (i:Nat) (hA:A[i]? = some (Mp ek ev ok p l)) (hop:o.op=.lookup T x y c) (ht:P.underlying T=some (.map kt et)) (hK:KK P kt ek ok)
  (hx:L.ev x=some p) (hy:L.ev y=some (ek key)) (hk:ok key) (hz:QdX P et=some (ev z)) :
  OpV P L A o (bif c then .tuple #[ev ((QbX l key).getD z),.bool (QbX l key).isSome] else ev ((QbX l key).getD z)):=fun ρ hρ w M F okw hs=>by
 obtain ⟨b,q,h1,rfl,h3,h4,h5,h6⟩:=Qaj hA hs
 obtain ⟨lx,hl⟩:=hK.rd key hk
 have hc:=hK.K.check w (mes ek ev q).isEmpty hl
 have hg:=QlF h3 h4 key
 have ho:(getObj b).run P w=.ok (.map (mes ek ev q) q.length) w:=by simp [getObj,Sem.run,h6]
 rcases QnH (ev:=ev) hK h4 h5 hk w with ⟨e1,e2⟩ | ⟨j,v,e1,e2⟩
 ·rw [<- hg,e2]
  cases c <;> simp [execOp,hop,hρ _ _ hx,hρ _ _ hy,Instr.lookup,run_underlying ht,ho,hc,e1,Qgs hz]
 ·have:QbX q key=some v:=(Qex h4).2 (List.mem_of_getElem? e2)
  rw [<- hg,this]
  cases c <;> simp [execOp,hop,hρ _ _ hx,hρ _ _ hy,Instr.lookup,run_underlying ht,ho,hc,e1]
theorem QgE {w:World} {M F:Blk} (okw:Ok w M F) {b:Nat} (hb:F b) (ob:Obj):Qew w M F { w with heap:=w.heap.setIfInBounds b ob } M F:=by
 refine ⟨⟨rfl,rfl,rfl,by simp,fun c hc hm=>⟨hm,?_⟩⟩,⟨fun c hc=>by simpa using okw.bd c hc,okw.sub⟩,fun c hc hf=>⟨hc,hf,?_⟩⟩
 ·have:b≠c:=fun e=>hm (e ▸ okw.sub b hb)
  simp [Array.getElem?_setIfInBounds_ne this]
 ·have:b≠c:=fun e=>hf (e ▸ hb)
  simp [Array.getElem?_setIfInBounds_ne this]
theorem Qit {w:World} {b:Nat} {x:Obj} (h:w.heap[b]? = some x) (y:Obj):(w.heap.setIfInBounds b y)[b]? = some y:=by
 have:b < w.heap.size:=by
  rcases Nat.lt_or_ge b w.heap.size with h' | h'
  ·exact h'
  ·simp [Array.getElem?_eq_none h'] at h
 simp [Array.getElem?_setIfInBounds_self_of_lt,this]
theorem QpF (o:List (κ×ν)) (k:κ) (v:ν):(mes ek ev o).push { key:=ek k,val:=ev v,born:=o.length }=mes ek ev (o++[(k,v)]):=by
 simp [mes,QmY,ixs]
theorem QmZ {o:List (κ×ν)} {i:Nat} {k:κ} {u:ν} (v:ν) (h:o[i]? = some (k,u)):(mes ek ev o).modify i (fun e=>{ e with key:=ek k,val:=ev v })=mes ek ev (o.set i (k,v)):=by
 apply Array.ext_getElem?
 intro j
 rw [Array.getElem?_modify,Qg8,Qg8,List.getElem?_set]
 by_cases hj:i=j
 ·subst hj
  have hlt:i < o.length:=by
   rcases Nat.lt_or_ge i o.length with h' | h'
   ·exact h'
   ·simp [List.getElem?_eq_none h'] at h
  simp [h,hlt]
 ·simp [hj]
theorem OpS.mset [DecidableEq κ] {T x y z kt et} {key:κ} {v:ν} (hop:o.op=.mapUpdate T x y z) (ht:P.underlying T=some (.map kt et)) (hK:KK P kt ek ok)
  (hx:L.ev x=some p) (hy:L.ev y=some (ek key)) (hk:ok key) (hv:L.ev z=some (ev v)):OpS P L [Mp ek ev ok p l] o [Mp ek ev ok p (SL.mset l key v)]:=fun ρ hρ w M F okw hs=>by
 obtain ⟨F1,F2,k1,k2,kd,⟨b,q,h1,rfl,h3,h4,h5,h6⟩,_⟩:=hs
 obtain ⟨lx,hl⟩:=hK.rd key hk
 have hc:=hK.K.check w false hl
 have ho:(getObj b).run P w=.ok (.map (mes ek ev q) q.length) w:=by simp [getObj,Sem.run,h6]
 have hset:∀ ob,(setObj b ob).run P w=.ok () { w with heap:=w.heap.setIfInBounds b ob }:=fun ob=>by simp [setObj,Sem.run,h6]
 have hst:=hK.K.stays w hl
 have hp:=Qot h3 h4 key v
 have hnd:=Qf8 h4 key v
 have hok:∀ e∈SL.mset q key v,ok e.1:=fun e he=>by
  have:e.1∈(SL.mset q key v).map (·.1):=List.mem_map_of_mem he
  rw [QiA] at this
  split at this
  ·obtain ⟨a,ha,e'⟩:=List.mem_map.1 this; rw [<- e']; exact h5 a ha
  ·rcases List.mem_append.1 this with h | h
   ·obtain ⟨a,ha,e'⟩:=List.mem_map.1 h; rw [<- e']; exact h5 a ha
   ·rw [List.mem_singleton.1 h]; exact hk
 have fin:∀ ob,ob=Obj.map (mes ek ev (SL.mset q key v)) (SL.mset q key v).length->(execOp ρ o).run P w=.ok .skip { w with heap:=w.heap.setIfInBounds b ob } ->
   ∃ w' M' F',(execOp ρ o).run P w=.ok .skip w'/\Qew w M F w' M' F'/\QaI [Mp ek ev ok (.map (some b)) (SL.mset l key v)] w' M' F':=fun ob hob hr=>
  ⟨_,M,F,hr,QgE okw (k1 b h1) _,F,fun _=>False,fun _ h=>h,fun _ h=>h.elim,fun _ _ h=>h,⟨b,_,k1 b h1,rfl,hp,hnd,hok,by rw [<- hob]; exact Qit h6 _⟩,trivial⟩
 rcases QnH (ev:=ev) hK h4 h5 hk w with ⟨e1,e2⟩ | ⟨j,u,e1,e2⟩
 ·refine fin (.map ((mes ek ev q).push { key:=ek key,val:=ev v,born:=q.length }) (q.length+1)) ?_ ?_
  ·rw [QpF,Qnq v (QeW.1 e2)]; simp
  ·simp [execOp,hop,hρ _ _ hx,hρ _ _ hy,hρ _ _ hv,Instr.mapUpdate,run_underlying ht,ho,hc,e1,hset]
 ·refine fin (.map ((mes ek ev q).modify j fun e=>{ e with key:=ek key,val:=ev v }) q.length) ?_ ?_
  ·rw [QmZ v e2,Qi0 v h4 e2]; simp
  ·have hj:((mes ek ev q)[j]?).map (·.key)=some (ek key):=by rw [Qg8,e2]; rfl
   simp [execOp,hop,hρ _ _ hx,hρ _ _ hy,hρ _ _ hv,Instr.mapUpdate,run_underlying ht,ho,hc,e1,hset,hj,hst]
theorem QuM {w:World} {M F:Blk} (okw:Ok w M F) (hs:QaI A w M F) (ob:Obj) (R:SP)
  (hR:∀ F1:Blk,F1 w.heap.size->R.h { w with heap:=w.heap.push ob } (fun b=>M b\/b=w.heap.size) F1) :
  ∃ M' F',Qew w M F { w with heap:=w.heap.push ob } M' F'/\QaI (R :: A) { w with heap:=w.heap.push ob } M' F':=by
 have s:=QeP okw ob
 refine ⟨_,_,s,fun b=>b=w.heap.size,F,fun b h=>.inr h,fun b h=>.inl h,fun b h h'=>?_,hR _ rfl,QbG hs s.ext (fun b hb=>?_)⟩
 ·have:=okw.bd b (okw.sub b h'); omega
 ·have:=okw.bd b (okw.sub b hb); simp only [Array.getElem?_push]; rw [if_neg (by omega)]
theorem OpA.mmake {T} (hop:o.op=.makeMap T none):OpA P L A o (fun p:Value=>p) (fun p=>Mp ek ev ok p [] :: A):=fun ρ hρ w M F okw hs=>by
 obtain ⟨M',F',s,h⟩:=QuM okw hs (.map #[] 0) (Mp ek ev ok (.map (some w.heap.size)) []) (fun F1 h=>⟨w.heap.size,[],h,rfl,List.Perm.refl _,by simp,by simp,by simp [mes,ixs]⟩)
 refine ⟨.map (some w.heap.size),_,M',F',?_,s,h⟩
 simp [execOp,hop,Instr.makeMap]
theorem OpA.mrange {T x kt et} (hop:o.op=.range T x) (ht:P.underlying T=some (.map kt et)) (hx:L.ev x=some p):OpA P L [Mp ek ev ok p l] o (fun q:Value=>q) (fun q=>[MpI ek ev ok p q l [] l]):=fun ρ hρ w M F okw hs=>by
 obtain ⟨F1,F2,k1,k2,kd,⟨b,q,h1,rfl,h3,h4,h5,h6⟩,_⟩:=hs
 have ho:(getObj b).run P w=.ok (.map (mes ek ev q) q.length) w:=by simp [getObj,Sem.run,h6]
 have s:=QeP okw (.mapIter (some b) q.length #[] q.length)
 have hlt:b < w.heap.size:=okw.bd b (okw.sub b (k1 b h1))
 have hpl:∃ r':List (Nat×(κ×ν)),r'.Perm (ixs 0 q)/\l=r'.map (·.2):=by
  have:∀ {m n:List (κ×ν)} (_:m.Perm n) (m':List (Nat×(κ×ν))),m'.map (·.2)=m->∃ n':List (Nat×(κ×ν)),n'.Perm m'/\n=n'.map (·.2):=by
   intro m n hp
   induction hp with
   | nil=>intro m' h; exact ⟨[],by simp at h; subst h; exact List.Perm.refl _,rfl⟩
   | cons x _ ih=>
    intro m' h
    cases m' with
    | nil=>simp at h
    | cons y m'=>
     simp at h
     obtain ⟨n',a,b⟩:=ih m' h.2
     exact ⟨y :: n',a.cons y,by simp [<- b,h.1]⟩
   | swap x y l=>
    intro m' h
    match m',h with
    | a :: c :: m',h=>
     simp at h
     exact ⟨c :: a :: m',List.Perm.swap _ _ _,by simp [h.1,h.2.1,h.2.2]⟩
   | trans _ _ ih1 ih2=>
    intro m' h
    obtain ⟨n',a,b⟩:=ih1 m' h
    obtain ⟨n'',c,d⟩:=ih2 n' b.symm
    exact ⟨n'',c.trans a,d⟩
  exact this h3 (ixs 0 q) (QlV 0 q)
 obtain ⟨r',hr1,hr2⟩:=hpl
 refine ⟨.pointer (some ⟨w.heap.size,0,none⟩),_,_,_,?_,s,fun c=>F c\/c=w.heap.size,fun _=>False,fun _ h=>h,fun _ h=>h.elim,fun _ _ h=>h,?_,trivial⟩
 ·simp [execOp,hop,hρ _ _ hx,Instr.range,run_underlying ht,ho]
 ·refine ⟨b,w.heap.size,q,[],r',.inl (k1 b h1),.inr rfl,rfl,rfl,h3,h4,h5,?_,?_,by simpa using hr1,rfl,hr2,by omega⟩
  ·simp only [Array.getElem?_push]; rw [if_neg (by omega)]; exact h6
  ·simp
theorem OpA.mnext {d r:List (κ×ν)} {q:Value} {x} (hop:o.op=.next x false) (hx:L.ev x=some q) :
  OpA P L [MpI ek ev ok p q l d r] o (fun g:Option ((κ×ν)×List (κ×ν)×List (κ×ν))=>match g with | none=>.tuple #[.bool false] | some (e,_)=>.tuple #[.bool true,ek e.1,ev e.2])
   (fun g=>match g with | none=>[SP.fact (r=[]),MpI ek ev ok p q l d []] | some (e,r1,r2)=>[SP.fact (r=r1++e :: r2),MpI ek ev ok p q l (d++[e]) (r1++r2)]):=fun ρ hρ w M F okw hs=>by
 obtain ⟨F1,F2,k1,k2,kd,⟨b,i,s,d',r',h1,h2,h3,h4,h5,h6,h7,h8,h9,h10,h11,h12,h13⟩,_⟩:=hs
 have hmem:∀ y∈(mes ek ev s).toList,y.born < s.length:=fun y hy=>by
  rw [Qfa,List.mem_map] at hy
  obtain ⟨⟨j,a⟩,ha,rfl⟩:=hy
  have:=List.mem_map_of_mem (f:=(·.1)) ha
  rw [Qnk] at this
  have:=List.mem_range'_1.1 this
  simpa using this.2
 have hnd:((d'++r').map (·.1)).Nodup:=(h10.map _).nodup_iff.2 (by rw [Qnk]; exact List.nodup_range' ..)
 rcases run_next_at (P:=P) w o.type i b s.length s.length (d'.map (·.1)).toArray (mes ek ev s) s.length h9 h8 hmem (Nat.le_refl _) with ⟨e1,e2⟩ | ⟨e,he,w1,hw1,e2⟩
 ·have hr:r'=[]:=by
   cases r' with
   | nil=>rfl
   | cons a r'=>
    exfalso
    have ha:a∈ixs 0 s:=h10.mem_iff.1 (by simp)
    have:(⟨ek a.2.1,ev a.2.2,a.1⟩:MapEntry)∈leftOf (mes ek ev s) (d'.map (·.1)).toArray:=by
     unfold leftOf
     rw [Array.mem_filter]
     refine ⟨by rw [<- Array.mem_toList_iff,Qfa]; exact List.mem_map.2 ⟨a,ha,rfl⟩,?_⟩
     simp only [List.map_append,List.map_cons] at hnd
     have:=(List.nodup_append.1 hnd).2.2
     simp only [Bool.not_eq_true',List.contains_toArray]
     rw [<- Bool.not_eq_true,List.contains_iff_mem]
     exact fun hm=>this _ hm _ (by simp) rfl
    rw [Array.eq_empty_of_size_eq_zero e1] at this
    simp at this
  subst hr
  refine ⟨none,w,M,F,?_,Qew.refl okw,?_⟩
  ·simp [execOp,hop,hρ _ _ hx,h4,e2]
  ·refine ⟨fun _=>False,F,fun _ h=>h.elim,fun _ h=>h,fun _ h _=>h,(show r=_ by simpa using h12),F,fun _=>False,fun _ h=>h,fun _ h=>h.elim,fun _ _ h=>h,?_,trivial⟩
   exact ⟨b,i,s,d',[],k1 b h1,k1 i h2,h3,h4,h5,h6,h7,h8,h9,h10,h11,rfl,h13⟩
 ·unfold leftOf at he
  rw [Array.mem_toList_iff,Array.mem_filter] at he
  obtain ⟨he1,he2⟩:=he
  rw [<- Array.mem_toList_iff,Qfa,List.mem_map] at he1
  obtain ⟨a,ha,rfl⟩:=he1
  have hnd':a ∉ d':=fun hm=>by
   simp only [Bool.not_eq_true',List.contains_toArray] at he2
   rw [<- Bool.not_eq_true,List.contains_iff_mem] at he2
   exact he2 (List.mem_map_of_mem hm)
  have har:a∈r':=by
   have:=h10.mem_iff.2 ha
   rcases List.mem_append.1 this with h | h
   ·exact absurd h hnd'
   ·exact h
  obtain ⟨r1,r2,rfl⟩:=List.append_of_mem har
  have okw1:Ok w1 M F/\Qew w M F w1 M F/\w1.heap=w.heap:=by
   rcases hw1 with rfl | rfl
   ·exact ⟨okw,Qew.refl okw,rfl⟩
   ·exact ⟨⟨okw.bd,okw.sub⟩,QjY okw,rfl⟩
  obtain ⟨okw1,st1,hh1⟩:=okw1
  have st2:=QgE okw1 (k1 i h2) (.mapIter (some b) s.length ((d'.map (·.1)).toArray.push a.1) s.length)
  refine ⟨some (a.2,r1.map (·.2),r2.map (·.2)),_,M,F,?_,st1.trans st2,?_⟩
  ·simp [execOp,hop,hρ _ _ hx,h4,e2,ChangeMaps.setBlock]
  ·refine ⟨fun _=>False,F,fun _ h=>h.elim,fun _ h=>h,fun _ h _=>h,(show r=_ by simpa using h12),F,fun _=>False,fun _ h=>h,fun _ h=>h.elim,fun _ _ h=>h,?_,trivial⟩
   refine ⟨b,i,s,d'++[a],r1++r2,k1 b h1,k1 i h2,h3,h4,h5,h6,h7,?_,?_,?_,by simp [h11],by simp,h13⟩
   ·simp only [hh1]
    rw [Array.getElem?_setIfInBounds_ne (Ne.symm h13)]; exact h8
   ·have:=Qit (w:=w1) (b:=i) (by rw [hh1]; exact h9) (.mapIter (some b) s.length ((d'.map (·.1)).toArray.push a.1) s.length)
    simpa using this
   ·refine List.Perm.trans ?_ h10
    simp only [List.append_assoc]
    exact (List.Perm.append_left d' (by simpa using (List.perm_middle (a:=a) (l₁:=r1) (l₂:=r2)).symm))
theorem Ent.mdone {d:List (κ×ν)} {q:Value}:Ent [MpI ek ev ok p q l d []] [SP.fact (d.Perm l),Mp ek ev ok p d]:=fun w M F okw hs=>by
 obtain ⟨F1,F2,k1,k2,kd,⟨b,i,s,d',r',h1,h2,h3,h4,h5,h6,h7,h8,h9,h10,h11,h12,h13⟩,_⟩:=hs
 have:r'=[]:=by cases r' with | nil=>rfl | cons a r=>simp at h12
 subst this
 have hp:d.Perm s:=by
  have:=h10.map (·.2)
  rw [List.append_nil,QlV] at this
  rw [h11]; exact this
 refine ⟨M,F,Qew.refl okw,fun _=>False,F,fun _ h=>h.elim,fun _ h=>h,fun _ h _=>h,hp.trans h5,F,fun _=>False,fun _ h=>h,fun _ h=>h.elim,fun _ _ h=>h,?_,trivial⟩
 exact ⟨b,s,k1 b h1,h3,hp.symm,h6,h7,h8⟩
theorem Ent.mperm {l':List (κ×ν)} (hp:l.Perm l'):Ent [Mp ek ev ok p l] [Mp ek ev ok p l']:=fun w M F okw hs=>by
 obtain ⟨F1,F2,k1,k2,kd,⟨b,q,h1,h2,h3,h4⟩,_⟩:=hs
 exact ⟨M,F,Qew.refl okw,F,fun _=>False,fun _ h=>h,fun _ h=>h.elim,fun _ _ h=>h,⟨b,q,k1 b h1,h2,h3.trans hp,h4⟩,trivial⟩
theorem Ent.mfacts:Ent [Mp ek ev ok p l] [SP.fact ((l.map (·.1)).Nodup/\∀ e∈l,ok e.1),Mp ek ev ok p l]:=fun w M F okw hs=>by
 obtain ⟨F1,F2,k1,k2,kd,⟨b,q,h1,h2,h3,h4,h5,h6⟩,_⟩:=hs
 refine ⟨M,F,Qew.refl okw,fun _=>False,F,fun _ h=>h.elim,fun _ h=>h,fun _ h _=>h,⟨(h3.map _).nodup_iff.1 h4,fun e he=>h5 e (h3.mem_iff.2 he)⟩,F,fun _=>False,fun _ h=>h,fun _ h=>h.elim,fun _ _ h=>h,?_,trivial⟩
 exact ⟨b,q,k1 b h1,h2,h3,h4,h5,h6⟩
end
end Go.SL
namespace Go.SL
open Go
section
variable {P:Program} {L:Env} {A:List SP} {o:Oper} {κ ν:Type} {ek:κ->Value} {ev:ν->Value} {ok:κ->Prop} {p:Value} {l:List (κ×ν)}
def Qsr (P:Program) (T:TypeId):Option (TypeId×TypeId):=match P.underlying T with | some (.map k e)=>some (k,e) | _=>none
theorem QgY {T k e} (h:Qsr P T=some (k,e)):P.underlying T=some (.map k e):=by
 unfold Qsr at h
 split at h
 ·simp at h; obtain ⟨rfl,rfl⟩:=h; assumption
 ·cases h
theorem QyV {x:Int} (h:Qaa x):(Lit.int .i64 x).wf=true:=by
 unfold Qaa at h
 have h1:IntKind.i64.min = -9223372036854775808:=by rfl
 have h2:IntKind.i64.max=9223372036854775807:=by rfl
 simp only [Lit.wf,Bool.and_eq_true,decide_eq_true_eq]
 rw [h1,h2]; exact h
theorem Amp {T} (hop:o.op=.makeMap T none:=by exact rfl):OpA P L A o (fun p:Value=>p) (fun p=>Mp ek ev ok p [] :: A):=OpA.mmake hop
theorem nxl {α:Type} {e:α} {r r1 r2:List α} (h:r=r1++e :: r2):(r1++r2).length < r.length:=by subst h; simp
theorem nxe {α:Type} {e:α} {r r1 r2:List α} (h:r=r1++e :: r2):r.length=(r1++r2).length+1:=by subst h; simp; omega
theorem OpV.mentry {e:κ×ν} {d r:List (κ×ν)} {q:Value} {x} (i:Nat) (hA:A[i]? = some (MpI ek ev ok p q l (d++[e]) r)) (hop:o.op=.entry x) (hx:L.ev x=some q):OpV P L A o (.tuple #[ek e.1,ev e.2]):=fun ρ hρ w M F okw hs=>by
 obtain ⟨b,j,s,d',r',h1,h2,h3,h4,h5,h6,h7,h8,h9,h10,h11,h12,h13⟩:=Qaj hA hs
 have hd:∃ d0 a,d'=d0++[a]/\a.2=e:=by
  rcases List.eq_nil_or_concat d' with h | ⟨d0,a,h⟩
  ·subst h; simp at h11
  ·rw [List.concat_eq_append] at h
   subst h
   simp at h11
   exact ⟨d0,a,rfl,h11.2.symm⟩
 obtain ⟨d0,a,rfl,rfl⟩:=hd
 have ha:a∈ixs 0 s:=h10.mem_iff.1 (by simp)
 have hn:((mes ek ev s).toList.map (·.born)).Nodup:=by
  rw [Qfa,List.map_map]
  have:(((fun x:MapEntry=>x.born) ∘ fun x:Nat×(κ×ν)=>(⟨ek x.2.1,ev x.2.2,x.1⟩:MapEntry)))=(·.1):=rfl
  rw [this,Qnk]; exact List.nodup_range' ..
 have hs':w.heap[j]? = some (.mapIter (some b) s.length ((d0.map (·.1)).toArray.push a.1) s.length):=by rw [h9]; simp
 have:=run_entry_at (P:=P) w j b s.length (d0.map (·.1)).toArray (mes ek ev s) s.length ⟨ek a.2.1,ev a.2.2,a.1⟩ hs' h8 (by rw [Qfa]; exact List.mem_map.2 ⟨a,ha,rfl⟩) hn
 simp [execOp,hop,hρ _ _ hx,h4,this]
abbrev mv (b:Nat):Value:=.map (some b)
end
end Go.SL
namespace Go.SL
open Go
structure Raw (α:Type) [Rep α] where
 cells:List Value
instance {α:Type} [Rep α]:Inhabited (Raw α):=⟨⟨[]⟩⟩
instance Qya {α:Type} [Rep α]:Rep (Raw α) where
 sz:=Rep.sz α
 bytes:=Rep.bytes α
 pos:=Rep.pos
 bpos:=Rep.bpos
 rd _ _ cs x:=cs=x.cells/\cs.length=Rep.sz α/\∀ v∈cs,v.oneCell'=true
 len h:=h.2.1
 one h:=h.2.2
 st h _:=h
class RepD (α:Type) [Rep α] where
 inn:List Value->α->SP
 one:∀ {cs x w M F},(inn cs x).h w M F->cs.length=Rep.sz α/\∀ v∈cs,v.oneCell'=true
 frz:∀ {cs x w M G},(inn cs x).h w M G->Rep.rd w (fun b=>M b/\¬ G b) cs x
section
variable {α:Type} [Rep α] [RepD α]
def big:List (Raw α)->List α->World->Blk->Blk->Prop
 | [],[],_,_,_=>True
 | r :: rs,x :: xs,w,M,F=>∃ F1 F2:Blk,(∀ b,F1 b->F b)/\(∀ b,F2 b->F b)/\(∀ b,F1 b->F2 b->False)/\(RepD.inn r.cells x).h w M F1/\big rs xs w M F2
 | _,_,_,_,_=>False
theorem QtE:∀ {rs:List (Raw α)} {xs:List α} {w M F w' M'},big rs xs w M F->Ext w M w' M'->Qvz F w w'->big rs xs w' M' F
 | [],[],_,_,_,_,_,_,_,_=>trivial
 | r :: rs,x :: xs,w,M,F,w',M',⟨F1,F2,h1,h2,hd,hR,hA⟩,e,k=>⟨F1,F2,h1,h2,hd,(RepD.inn r.cells x).st hR e (fun b hb=>k b (h1 b hb)),QtE hA e (fun b hb=>k b (h2 b hb))⟩
 | [],_ :: _,_,_,_,_,_,h,_,_=>h.elim
 | _ :: _,[],_,_,_,_,_,h,_,_=>h.elim
theorem Qwg:∀ {rs:List (Raw α)} {xs:List α} {w M F F'},big rs xs w M F->(∀ b,F b->F' b)->big rs xs w M F'
 | [],[],_,_,_,_,_,_=>trivial
 | r :: rs,x :: xs,w,M,F,F',⟨F1,F2,h1,h2,hd,hR,hA⟩,e=>⟨F1,F2,fun b h=>e b (h1 b h),fun b h=>e b (h2 b h),hd,hR,hA⟩
 | [],_ :: _,_,_,_,_,h,_=>h.elim
 | _ :: _,[],_,_,_,_,h,_=>h.elim
theorem Qr2:∀ {rs:List (Raw α)} {xs:List α} {w M F},big rs xs w M F->rs.length=xs.length
 | [],[],_,_,_,_=>rfl
 | _ :: rs,_ :: xs,_,_,_,⟨_,_,_,_,_,_,hA⟩=>by rw [List.length_cons,List.length_cons,Qr2 hA]
 | [],_ :: _,_,_,_,h=>h.elim
 | _ :: _,[],_,_,_,h=>h.elim
def Big (rs:List (Raw α)) (xs:List α):SP where
 h:=big rs xs
 p:=false
 st:=QtE
 up:=Qwg
 pers:=by simp
def ds (c:Value) (xs:List α):SP where
 h w M F:=∃ rs:List (Raw α),QaI [os c rs,Big rs xs] w M F
 p:=false
 st:=fun ⟨rs,h⟩ e k=>⟨rs,QbG h e k⟩
 up:=fun ⟨rs,h⟩ e=>⟨rs,Qbz h e⟩
 pers:=by simp
theorem Qwb {c:Value} {xs:List α} {w M F} (h:(ds c xs).h w M F):∃ rs:List (Raw α),rs.length=xs.length/\(os c rs).h w M F:=by
 obtain ⟨rs,F1,F2,h1,h2,hd,ho,G1,G2,g1,g2,gd,hb,_⟩:=h
 exact ⟨rs,Qr2 hb,(os c rs).up ho h1⟩
theorem QsN {c:Value} {xs:List α} {w M F} (h:(ds c xs).h w M F):∃ a k,c=.slice a xs.length k:=by
 obtain ⟨rs,hl,ho⟩:=Qwb h
 rw [<- hl]; exact QnY ho
theorem QuT (c:Value) (xs:List α):QtC (ds c xs) c xs.length (Rep.sz α):=fun h=>by
 obtain ⟨rs,hl,ho⟩:=Qwb h
 rw [<- hl]; exact QnW c rs ho
theorem QwD (c:Value) (xs:List α):IsO (ds c xs) c xs.length:=fun h=>QsN h
theorem Qte {β:Type} [Rep β] {w:World} {M M':Blk} {c:Value} {xs:List β} (h:Qid w M c xs) (hm:∀ b,M' b->M b):Qid w M' c xs:=
 QbW h ⟨rfl,rfl,rfl,Nat.le_refl _,fun b _ hb=>⟨fun h=>hb (hm b h),rfl⟩⟩
theorem QtK {β:Type} [Rep β] {c:Value} {xs:List β} {w:World} {M G:Blk} (h:(os c xs).h w M G):Qid w (fun b=>M b/\¬ G b) c xs:=by
 obtain ⟨hb,a,k,hc,hk,h⟩:=h
 cases a with
 | none=>exact ⟨hb,none,k,hc,hk,h⟩
 | some ad=>
  obtain ⟨cells,T,q0,q1,q2,q3,q4⟩:=h
  exact ⟨hb,some ad,k,hc,hk,.inr ⟨cells,T,(0,0),q0,q2,fun h=>h.2 q1,Qet q4 ⟨rfl,rfl,rfl,Nat.le_refl _,fun b _ hb=>⟨fun h=>hb h.1,rfl⟩⟩⟩⟩
end
section
variable {α:Type} [Rep α] [RepD α]
theorem QoN {w:World} {M F:Blk} (ok:Ok w M F) (G:Blk) (hG:∀ b,G b->F b):Qew w M F w (fun x=>M x/\¬ G x) (fun x=>F x/\¬ G x):=by
 refine ⟨⟨rfl,rfl,rfl,Nat.le_refl _,fun x hx hm=>⟨fun h=>hm h.1,rfl⟩⟩,⟨fun x h=>ok.bd x h.1,fun x h=>⟨ok.sub x h.1,h.2⟩⟩,fun x hm hf=>⟨⟨hm,fun e=>hf (hG x e)⟩,fun h=>hf h.1,rfl⟩⟩
end
section
variable {α:Type} [Rep α] [RepD α]
def dh (c:Value) (xs:List α) (i:Nat) (cs:List Value):SP where
 h w M F:=∃ rs:List (Raw α),rs.length=xs.length/\i < xs.length/\rs.getD i default=⟨cs⟩/\QaI [os c rs,Big (rs.eraseIdx i) (xs.eraseIdx i)] w M F
 p:=false
 st:=fun ⟨rs,h1,h2,h3,h⟩ e k=>⟨rs,h1,h2,h3,QbG h e k⟩
 up:=fun ⟨rs,h1,h2,h3,h⟩ e=>⟨rs,h1,h2,h3,Qbz h e⟩
 pers:=by simp
theorem QvQ {c:Value} {xs:List α} {i:Nat} {cs:List Value} {w M F} (h:(dh c xs i cs).h w M F):∃ rs:List (Raw α),rs.length=xs.length/\i < xs.length/\rs.getD i default=⟨cs⟩/\(os c rs).h w M F:=by
 obtain ⟨rs,h1,h2,h3,F1,F2,k1,k2,kd,ho,_⟩:=h
 exact ⟨rs,h1,h2,h3,(os c rs).up ho k1⟩
theorem QuF (c:Value) (xs:List α) (i:Nat) (cs:List Value):QtC (dh c xs i cs) c xs.length (Rep.sz α):=fun h=>by
 obtain ⟨rs,hl,_,_,ho⟩:=QvQ h
 rw [<- hl]; exact QnW c rs ho
theorem QjL (c:Value) (xs:List α) (i:Nat) (cs:List Value):Qih (dh c xs i cs) (QgV (Rep.sz α) c i) cs:=fun h=>by
 obtain ⟨rs,hl,hi,hg,ho⟩:=QvQ h
 obtain ⟨hb,ao,k,hc,hk,hh⟩:=ho
 cases ao with
 | none=>have:=hh.1; subst this; simp at hl; omega
 | some ad=>
  obtain ⟨cells,T,h0,h1,h2,h3,h4⟩:=hh
  have hi':i < rs.length:=by omega
  obtain ⟨ecs,e1,e2,_⟩:=h4 i rs[i] (List.getElem?_eq_getElem hi')
  have e3:rs[i]=⟨cs⟩:=by rw [<- hg]; simp [List.getD,List.getElem?_eq_getElem hi']
  rw [e3] at e2
  obtain ⟨b,off,sp⟩:=ad
  simp at h0; subst h0
  refine ⟨b,off+i*Rep.sz α,by rw [hc]; simp [QgV,Qby],fun j u hu=>?_⟩
  have hx:=e1 j u (by rw [e2]; exact hu)
  have e4:off+i*Rep.sz α+j=off+i*Rep.sz (Raw α)+j:=rfl
  rw [e4]
  simp only [World.cell?,h2]
  exact hx
theorem Qnc (c:Value) (xs:List α) (i:Nat) (cs:List Value):QkG (dh c xs i cs) (QgV (Rep.sz α) c i):=fun h=>by
 obtain ⟨b,off,e,_⟩:=QjL c xs i cs h
 exact ⟨b,off,e⟩
end
section
variable {P:Program} {L:Env} {A:List SP} {o:Oper}
theorem OpA.post {γ:Type} {V:γ->Value} {B B':γ->List SP} (h:OpA P L A o V B) (e:∀ g,Ent (B g) (B' g)):OpA P L A o V B':=fun ρ hρ w M F ok hs=>by
 obtain ⟨g,w',M',F',hr,s,hB⟩:=h ρ hρ w M F ok hs
 obtain ⟨M2,F2,s2,hB2⟩:=e g w' M' F' s.ok hB
 exact ⟨g,w',M2,F2,hr,s.trans s2,hB2⟩
theorem OpS.post {B B':List SP} (h:OpS P L A o B) (e:Ent B B'):OpS P L A o B':=fun ρ hρ w M F ok hs=>by
 obtain ⟨w',M',F',hr,s,hB⟩:=h ρ hρ w M F ok hs
 obtain ⟨M2,F2,s2,hB2⟩:=e w' M' F' s.ok hB
 exact ⟨w',M2,F2,hr,s.trans s2,hB2⟩
variable {α:Type} [Rep α] [RepD α]
end
def exS (f:Value->SP):SP where
 h w M F:=∃ c,(f c).h w M F
 p:=false
 st:=fun ⟨c,h⟩ e k=>⟨c,(f c).st h e k⟩
 up:=fun ⟨c,h⟩ e=>⟨c,(f c).up h e⟩
 pers:=by simp
def seS (A:List SP):SP where
 h w M F:=QaI A w M F
 p:=false
 st:=QbG
 up:=Qbz
 pers:=by simp
abbrev D {α:Type} [Rep α] [RepD α] (a:Option Addr) (k:Nat) (xs:List α):SP:=ds (.slice a xs.length k) xs
theorem Qua {β:Type} [Rep β] {c:Value} {xs:List β} {w:World} {M G G':Blk} (h:(os c xs).h w M G) (hg:∀ b,G b->G' b):Qid w (fun b=>M b/\¬ G' b) c xs:=
 Qte (QtK h) (fun b hb=>⟨hb.1,fun h=>hb.2 (hg b h)⟩)
section
variable {C:Cx} {X:Act->World->Prop} {L:Env} {A Ar B:List SP} {R:SP}
end
theorem Qur {β:Type} [Rep β] {w:World} {M:Blk} {c:Value} {xs:List β} (h:Qid w M c xs):Rep.rd (α:=List β) w M [c] xs:=⟨c,rfl,h⟩
instance QvJ {β:Type} [Rep β]:RepD (List β) where
 inn cs x:=exS fun c=>seS [SP.fact (cs=[c]),os c x]
 one:=by
  rintro cs x w M F ⟨c,F1,F2,k1,k2,kd,rfl,G1,G2,g1,g2,gd,ho,_⟩
  exact ⟨rfl,fun v hv=>by simp at hv; subst hv; exact Qcn ho⟩
 frz:=by
  rintro cs x w M G ⟨c,F1,F2,k1,k2,kd,rfl,G1,G2,g1,g2,gd,ho,_⟩
  exact Qur (Qua ho (fun b h=>k2 b (g1 b h)))
section
variable {P:Program} {L:Env} {A:List SP} {o:Oper} {α:Type} [Rep α] [RepD α] {C:Cx} {X:Act->World->Prop}
end
theorem QeK {xs:List Str} {i:Nat} (h:xs.all (fun s=>Nat.ble s.b.length 1000)=true):(xs.getD i default).b.length<=140737488355328:=by
 rw [List.getD_eq_getElem?_getD]
 cases e:xs[i]? with
 | none=>exact Nat.zero_le _
 | some y=>exact Nat.le_trans (Nat.le_of_ble_eq_true (List.all_eq_true.1 h y (List.mem_of_getElem? e))) (by omega)
end Go.SL
namespace Go.SL
open Go
def QnV (P:Program):List Field->Nat->Bool
 | [],_=>true
 | f :: fs,i=>f.offset == i && P.cellsOf f.type == 1 && (match P.underlying f.type with | some (.int .i64)=>true | _=>false) && QnV P fs (i+1)
def QlO (P:Program) (k:TypeId) (n:Nat):Bool:=match P.underlying k with
 | some (.struct fs) => P.keyType k && P.cellsOf k == n && fs.size == n && fs.all (·.name != "_") && QnV P fs.toList 0 && decide (0 < P.types.size) && P.keyTypeAt 2 k && P.tiled 2 k
 | _=>false
theorem QkV {P:Program} {d:Nat} (xs:List Int) (hx:∀ x∈xs,Qaa x):∀ (fs:List Field) (i:Nat),QnV P fs i=true->i+fs.length=xs.length ->
  ∃ r,(fs.mapM fun f=>P.keyLits (d+1) f.type (((xs.map vi).drop f.offset).take (P.cellsOf f.type)))=some r
 | [],i,_,_=>⟨[],by simp⟩
 | f :: fs,i,h,hl=>by
  simp only [QnV,Bool.and_eq_true,beq_iff_eq] at h
  obtain ⟨⟨⟨h1,h2⟩,h3⟩,h4⟩:=h
  rw [List.length_cons] at hl
  obtain ⟨r,hr⟩:=QkV xs hx fs (i+1) h4 (by omega)
  have hi:i < xs.length:=by omega
  have hd:((xs.map vi).drop f.offset).take (P.cellsOf f.type)=[vi xs[i]]:=by
   rw [h1,h2,List.drop_eq_getElem_cons (by simpa using hi)]
   simp
  have hw:(Lit.int .i64 xs[i]).wf=true:=QyV (hx _ (List.getElem_mem hi))
  refine ⟨[Lit.int .i64 xs[i]] :: r,?_⟩
  rw [List.mapM_cons,hd]
  have e:P.keyLits (d+1) f.type [vi xs[i]]=some [Lit.int .i64 xs[i]]:=by
   cases hu:P.underlying f.type with
   | none=>rw [hu] at h3; cases h3
   | some t=>
    rw [hu] at h3
    cases t with
    | int q=>cases q <;> first | (cases h3; done) | (unfold Program.keyLits; simp [hu,vi,hw])
    | _=>cases h3
  rw [e,hr]; rfl
theorem Qqk {P:Program} {k:TypeId} {n:Nat} (h:QlO P k n=true) (xs:List Int) (hl:xs.length=n) (hx:∀ x∈xs,Qaa x):∃ l,keyOf P k (.agg (xs.map vi).toArray)=some l:=by
 unfold QlO at h
 cases hu:P.underlying k with
 | none=>rw [hu] at h; cases h
 | some t=>
  rw [hu] at h
  cases t with
  | struct fs=>
   simp only [Bool.and_eq_true,beq_iff_eq,decide_eq_true_eq] at h
   obtain ⟨⟨⟨⟨⟨⟨⟨h1,h2⟩,h3⟩,h4⟩,h5⟩,h6⟩,_⟩,_⟩:=h
   obtain ⟨d,hd⟩:∃ d,P.types.size=d+1:=⟨P.types.size - 1,by omega⟩
   obtain ⟨r,hr⟩:=QkV (P:=P) (d:=d) xs hx fs.toList 0 h5 (by simp [h3,hl])
   have e:P.keyLits (P.types.size+1) k (xs.map vi)=some r.flatten:=by
    unfold Program.keyLits
    rw [hu]
    simp only [List.length_map,hl,h2,h4,and_self,if_true,hd,hr,Option.map_some]
   refine ⟨.string (keyBytes r.flatten),?_⟩
   unfold keyOf
   rw [hu]
   simp [h1,Value.formed,hu,hl,h2,Value.cells,e]
  | _=>cases h
theorem Quf {P:Program} {k:TypeId} {n:Nat} {κ:Type} (f:κ->List Int) (ok:κ->Prop) (h:QlO P k n=true) (hi:∀ x y,f x=f y->x=y) (hl:∀ x,(f x).length=n) (ho:∀ x,ok x->∀ y∈f x,Qaa y) :
  KK P k (fun x=>.agg ((f x).map vi).toArray) ok:=by
 refine ⟨?_,fun x hx=>Qqk h (f x) (hl x) (ho x hx),fun x y e=>hi x y ?_⟩
 ·unfold QlO at h
  cases hu:P.underlying k with
  | none=>rw [hu] at h; cases h
  | some t=>
   rw [hu] at h
   cases t with
   | struct fs=>
    simp only [Bool.and_eq_true,beq_iff_eq,decide_eq_true_eq] at h
    exact Maps.Keyed.of_law (deep_law (m:=2) (by omega) h.1.2 h.2 (by rw [hu]))
   | _=>cases h
 ·have e':((f x).map vi)=((f y).map vi):=by simpa using e
  have inj:∀ a b:Int,vi a=vi b->a=b:=fun a b hab=>by simpa [vi] using hab
  clear hi
  generalize f x=a at e' ⊢; generalize f y=b at e' ⊢
  induction a generalizing b with
  | nil=>cases b with | nil=>rfl | cons _ _=>simp at e'
  | cons u a ih=>cases b with
   | nil=>simp at e'
   | cons v b=>simp only [List.map_cons,List.cons.injEq] at e'; rw [inj _ _ e'.1,ih _ e'.2]
theorem Que {p:Prop} (h:p:=by (repeat' apply And.intro) <;> first | omega | (dsimp only; omega) | (unfold Qaa; dsimp only; omega)):p:=h
end Go.SL
namespace Go.SL
open Go
section
variable {P:Program} {L:Env} {A:List SP} {o:Oper}
theorem QAz {T x a n k e sz by_} {α:Type} [Rep α] {xs:List α} {lo:Option Operand} (hT:Qe5 P T=some (e,sz,by_)) (m l:Nat) (hop:o.op=.slice T x lo none none:=by exact rfl) (hx:L.ev x=some (.slice a n k):=by exact rfl) (hA:A[m]? = some (os (.slice a n k) xs):=by exact rfl)
  (hlo:bnd L lo 0 l:=by first | exact rfl | exact ⟨_,QvU rfl (by omega)⟩) (hl:l < xs.length:=by exact rng):OpV P L A o (.slice (a.map (·.add (l*sz))) (n - l) (k - l)):=fun ρ hρ w M F ok hs=>by
 obtain ⟨hb,a',k',hc,hk,hh⟩:=Qaj hA hs
 injection hc with c1 c2 c3
 subst c1; subst c2; subst c3
 have:=Qoi (P:=P) l xs.length k hop hx hT hlo rfl rfl (by omega) (by omega) (Nat.le_refl _) (fun _=>rfl) ρ hρ w
 rw [if_neg (by omega)] at this
 exact this
end
section
variable {C:Cx} {ks:List Kn} {L:Env} {A:List SP} {o:Oper} {ops:Array Oper} {rest:List Oper}
theorem Qvd {γ:Type} {V:γ->Value} {B:γ->List SP} (hg:o.guard=none) (hd:o.dst=none) (hv:OpA C.P L A o V B)
  (h:∀ g,JO C ops rest ks L (B g)):JO C ops (o :: rest) ks L A:=by
 intro a w M F st
 refine wpList_plain hg fun K hK=>?_
 obtain ⟨g,w',M',F',hr,hs,hsp⟩:=hv a.eval (fun x u hx=>Env.sat_eval st.sat hx) w M F st.step.ok st.sp
 rw [Oper.wp,hr,Oper.upon_value,hd]
 exact hK _ _ (h g _ w' M' F' ⟨st.step.trans hs,st.sz,st.df,st.sat,hsp⟩)
theorem Oan {γ:Type} {V:γ->Value} {B:γ->List SP} (hv:OpA C.P L A o V B) (h:∀ g,JO C ops rest ks L (B g)) (hg:Gok C ops L o:=by first | exact gn rfl | exact gt rfl rfl rfl rfl) (hd:o.dst=none:=by exact rfl):JO C ops (o :: rest) ks L A:=
 Ogo hg (Qvd rfl hd hv h)
end
end Go.SL
namespace Go.SL
open Go
section
variable {κ α:Type}
abbrev ZL (κ α:Type):=List ((κ×Value)×List α)
def zr (z:ZL κ α):List (κ×Value):=z.map (·.1)
def zm (z:ZL κ α):List (κ×List α):=z.map fun x=>(x.1.1,x.2)
theorem Qn3 {z:ZL κ α} {r1 r2:List (κ×Value)} {e:κ×Value} (h:zr z=r1++e :: r2):∃ z1 x z2,z=z1++x :: z2/\r1=zr z1/\e=x.1/\r2=zr z2:=by
 obtain ⟨z1,z',e1,e2,e3⟩:=List.map_eq_append_iff.1 h
 cases z' with
 | nil=>cases e3
 | cons x z2=>
  simp only [List.map_cons,List.cons.injEq] at e3
  exact ⟨z1,x,z2,e1,e2.symm,e3.1.symm,e3.2.symm⟩
end
section
variable {P:Program} {L:Env} {A:List SP} {o:Oper} {κ α:Type} [Rep α] {ek:κ->Value} {ok:κ->Prop} {p:Value} {m:List (κ×List α)}
inductive Qjr (w:World) (M:Blk):List (κ×Value)->List (κ×List α)->Prop
 | nil:Qjr w M [] []
 | cons {r:κ×Value} {x:κ×List α} {raw m} (h:r.1=x.1/\Qid w M r.2 x.2) (t:Qjr w M raw m):Qjr w M (r :: raw) (x :: m)
theorem Qjr.st {w M w' M'} {raw:List (κ×Value)} {m:List (κ×List α)} (h:Qjr w M raw m) (e:Ext w M w' M'):Qjr w' M' raw m:=by
 induction h with
 | nil=>exact Qjr.nil
 | cons h _ ih=>exact Qjr.cons ⟨h.1,QbW h.2 e⟩ ih
theorem Qjr.get [DecidableEq κ] {w M} {raw:List (κ×Value)} {m:List (κ×List α)} (h:Qjr w M raw m) (k:κ):(QbX raw k).isSome=(QbX m k).isSome/\Qid w M ((QbX raw k).getD (.slice none 0 0)) ((QbX m k).getD []):=by
 induction h with
 | nil=>exact ⟨rfl,QjM⟩
 | @cons r x _ _ h _ ih=>
  obtain ⟨a,u⟩:=r; obtain ⟨b,xs⟩:=x
  obtain ⟨h1,h2⟩:=h
  dsimp only at h1 h2; subst h1
  simp only [QbX]
  by_cases e:a=k
  ·simp only [if_pos e,Option.isSome_some,Option.getD_some]; exact ⟨trivial,h2⟩
  ·simp only [if_neg e]; exact ih
theorem Qjr.set [DecidableEq κ] {w M} {raw:List (κ×Value)} {m:List (κ×List α)} (h:Qjr w M raw m) (k:κ) {c:Value} {xs:List α} (hc:Qid w M c xs):Qjr w M (SL.mset raw k c) (SL.mset m k xs):=by
 induction h with
 | nil=>exact Qjr.cons ⟨rfl,hc⟩ Qjr.nil
 | @cons r x _ _ h ht ih=>
  obtain ⟨a,u⟩:=r; obtain ⟨b,ys⟩:=x
  obtain ⟨h1,h2⟩:=h
  dsimp only at h1 h2; subst h1
  simp only [SL.mset]
  by_cases e:a=k
  ·rw [if_pos e,if_pos e]; exact Qjr.cons ⟨rfl,hc⟩ ht
  ·rw [if_neg e,if_neg e]; exact Qjr.cons ⟨rfl,h2⟩ ih
theorem Qjr.keys {w M} {raw:List (κ×Value)} {m:List (κ×List α)} (h:Qjr w M raw m):raw.map (·.1)=m.map (·.1):=by
 induction h with
 | nil=>rfl
 | cons h _ ih=>simp [h.1,ih]
def MS (α:Type) [Rep α] (ek:κ->Value) (ok:κ->Prop) (p:Value) (m:List (κ×List α)):SP where
 h w M F:=∃ raw,(Mp ek (id:Value->Value) ok p raw).h w M F/\Qjr w M raw m
 p:=false
 st:=by
  rintro w M F w' M' ⟨raw,h1,h2⟩ e k
  exact ⟨raw,(Mp ek id ok p raw).st h1 e k,h2.st e⟩
 up:=by
  rintro w M F F' ⟨raw,h1,h2⟩ e
  exact ⟨raw,(Mp ek id ok p raw).up h1 e,h2⟩
 pers:=by simp
theorem QcS {R:SP} {w:World} {M F:Blk} (h:R.h w M F):QaI [R] w M F:=⟨F,fun _=>False,fun _ h=>h,fun _ h=>h.elim,fun _ _ h=>h,h,trivial⟩
theorem QfU {R:SP} {w:World} {M F:Blk} (h:QaI [R] w M F):R.h w M F:=by
 obtain ⟨F1,F2,h1,h2,hd,hR,_⟩:=h
 exact R.up hR h1
theorem QAx {T} (hop:o.op=.makeMap T none:=by exact rfl):OpA P L A o (fun p:Value=>p) (fun p=>MS α ek ok p [] :: A):=fun ρ hρ w M F okw hs=>by
 obtain ⟨g,w',M',F',h1,h2,F1,F2,k1,k2,kd,hr,hA⟩:=(Amp (ek:=ek) (ev:=(id:Value->Value)) (ok:=ok) hop) ρ hρ w M F okw hs
 exact ⟨g,w',M',F',h1,h2,F1,F2,k1,k2,kd,⟨[],hr,Qjr.nil⟩,hA⟩
theorem QCs [DecidableEq κ] {T x y kt et} {key:κ} (i:Nat) (ht:Qsr P T=some (kt,et)) (hK:KK P kt ek ok) (hz:QdX P et=some (.slice none 0 0)) (hk:ok key) (hA:A[i]? = some (MS α ek ok p m):=by exact rfl) (hop:o.op=.lookup T x y false:=by exact rfl)
  (hx:L.ev x=some p:=by exact rfl) (hy:L.ev y=some (ek key):=by exact rfl):OpA P L A o (fun c:Value=>c) (fun c=>sl c ((QbX m key).getD []) :: A):=fun ρ hρ w M F okw hs=>by
 obtain ⟨raw,h1,h2⟩:=Qaj hA hs
 have hr:=(OpV.mlook (A:=[Mp ek id ok p raw]) (o:=o) (Value.slice none 0 0) 0 rfl hop (QgY ht) hK hx hy hk hz) ρ hρ w M F okw (QcS h1)
 exact ⟨_,w,M,F,hr,Qew.refl okw,fun _=>False,F,fun _ h=>h.elim,fun _ h=>h,fun _ h _=>h,(h2.get key).2,hs⟩
theorem Qy5 [DecidableEq κ] {T x y kt et} {key:κ} (i:Nat) (ht:Qsr P T=some (kt,et)) (hK:KK P kt ek ok) (hz:QdX P et=some (.slice none 0 0)) (hk:ok key) (hA:A[i]? = some (MS α ek ok p m):=by exact rfl) (hop:o.op=.lookup T x y true:=by exact rfl)
  (hx:L.ev x=some p:=by exact rfl) (hy:L.ev y=some (ek key):=by exact rfl):OpA P L A o (fun c:Value=>.tuple #[c,.bool (QbX m key).isSome]) (fun c=>sl c ((QbX m key).getD []) :: A):=fun ρ hρ w M F okw hs=>by
 obtain ⟨raw,h1,h2⟩:=Qaj hA hs
 have hr:=(OpV.mlook (A:=[Mp ek id ok p raw]) (o:=o) (Value.slice none 0 0) 0 rfl hop (QgY ht) hK hx hy hk hz) ρ hρ w M F okw (QcS h1)
 rw [(h2.get key).1] at hr
 exact ⟨_,w,M,F,hr,Qew.refl okw,fun _=>False,F,fun _ h=>h.elim,fun _ h=>h,fun _ h _=>h,(h2.get key).2,hs⟩
theorem OpS.msets [DecidableEq κ] {T x y z kt et} {key:κ} {c:Value} {xs:List α} (hop:o.op=.mapUpdate T x y z) (ht:P.underlying T=some (.map kt et)) (hK:KK P kt ek ok)
  (hx:L.ev x=some p) (hy:L.ev y=some (ek key)) (hk:ok key) (hv:L.ev z=some c):OpS P L [MS α ek ok p m,sl c xs] o [MS α ek ok p (SL.mset m key xs)]:=fun ρ hρ w M F okw hs=>by
 obtain ⟨F1,F2,k1,k2,kd,⟨raw,h1,h2⟩,hs2⟩:=hs
 have hc:Qid w M c xs:=QfU hs2
 obtain ⟨w',M',F',e1,e2,e3⟩:=(OpS.mset (ev:=(id:Value->Value)) (l:=raw) (v:=c) hop ht hK hx hy hk hv) ρ hρ w M F okw (QcS ((Mp ek id ok p raw).up h1 k1))
 exact ⟨w',M',F',e1,e2,QcS ⟨_,QfU e3,(h2.set key hc).st e2.ext⟩⟩
theorem OpS.insert {B:List SP} {T x y z} (hop:o.op=.insert T x y z) (h:OpS P L A { o with op:=.mapUpdate T x y z } B):OpS P L A o B:=fun ρ hρ w M F okw hs=>by
 obtain ⟨w',M',F',e1,e2,e3⟩:=h ρ hρ w M F okw hs
 refine ⟨w',M',F',?_,e2,e3⟩
 rw [<- e1]
 simp only [execOp,hop]
theorem QCv [DecidableEq κ] {T x y z kt et} {key:κ} {c:Value} {Ar:List SP} (is:List Nat) (ht:Qsr P T=some (kt,et)) (hK:KK P kt ek ok) (xs:List α) (hk:ok key) (hop:o.op=.mapUpdate T x y z:=by exact rfl) (hA:take A is=some ([MS α ek ok p m,sl c xs],Ar):=by exact rfl)
  (hx:L.ev x=some p:=by exact rfl) (hy:L.ev y=some (ek key):=by exact rfl) (hv:L.ev z=some c:=by exact rfl):OpS P L A o ([MS α ek ok p (SL.mset m key xs)]++Ar):=
 OpS.frame is hA (OpS.msets hop (QgY ht) hK hx hy hk hv)
theorem QB2 [DecidableEq κ] {T x y z kt et} {key:κ} {c:Value} {Ar:List SP} (is:List Nat) (ht:Qsr P T=some (kt,et)) (hK:KK P kt ek ok) (xs:List α) (hk:ok key) (hop:o.op=.insert T x y z:=by exact rfl) (hA:take A is=some ([MS α ek ok p m,sl c xs],Ar):=by exact rfl)
  (hx:L.ev x=some p:=by exact rfl) (hy:L.ev y=some (ek key):=by exact rfl) (hv:L.ev z=some c:=by exact rfl):OpS P L A o ([MS α ek ok p (SL.mset m key xs)]++Ar):=
 OpS.insert hop (OpS.frame is hA (OpS.msets rfl (QgY ht) hK hx hy hk hv))
theorem QA2 {C:Cx} {ks:List Kn} {X:Act->World->Prop} (i:Nat) (h:∀ b,p=mv b->JJ C X L A) (hA:A[i]? = some (MS α ek ok p m):=by exact rfl):JJ C X L A:=
 Qe9 (φ:=∃ b,p=mv b) i hA (fun hp=>by obtain ⟨raw,⟨b,_,_,h2,_⟩,_⟩:=hp; exact ⟨b,h2⟩) (fun ⟨b,hb⟩=>h b hb)
theorem QuK {ν:Type} {ev:ν->Value} {q:List (κ×ν)} {i:Nat} {k:κ} {u:ν} (h:q[i]? = some (k,u)):(mes ek ev q).modify i (fun e=>{ e with key:=ek k })=mes ek ev q:=by
 apply Array.ext_getElem?
 intro j
 rw [Array.getElem?_modify]
 by_cases hj:i=j
 ·subst hj; simp [Qg8,h]
 ·simp [hj]
theorem QuV {ν:Type} {ev:ν->Value} {q:List (κ×ν)} {i:Nat} {k:κ} {u:ν} (v:ν) (h:q[i]? = some (k,u)):(mes ek ev q).modify i (fun e=>{ e with val:=ev v })=mes ek ev (q.set i (k,v)):=by
 rw [<- QmZ v h]
 apply Array.ext_getElem?
 intro j
 rw [Array.getElem?_modify,Array.getElem?_modify]
 by_cases hj:i=j
 ·subst hj; simp [Qg8,h]
 ·simp [hj]
theorem Qom [DecidableEq κ] {ν:Type}:∀ {q:List (κ×ν)} {k:κ} {u:ν},QbX q k=some u->SL.mset q k u=q
 | [],k,u,h=>by cases h
 | (a,v) :: q,k,u,h=>by
  simp only [QbX] at h
  simp only [SL.mset]
  by_cases e:a=k
  ·rw [if_pos e] at h ⊢; cases h; rfl
  ·rw [if_neg e] at h ⊢; rw [Qom h]
theorem Qri {ν:Type} {ev:ν->Value} {q:List (κ×ν)} {i:Nat} (hi:i < q.length):(mes ek ev q).findIdx? (fun e=>(e.born:Int) == (i:Int))=some i:=by
 rw [Array.findIdx?_eq_some_iff_getElem]
 have hsz:(mes ek ev q).size=q.length:=by
  have:=congrArg List.length (Qfa (ek:=ek) (ev:=ev) q)
  simp only [Array.length_toList,List.length_map] at this
  rw [this]; have:=congrArg List.length (QlV 0 q); simpa using this
 have hb:∀ (j:Nat) (hj:j < (mes ek ev q).size),((mes ek ev q)[j]).born=j:=fun j hj=>by
  have h:=Qg8 (ek:=ek) (ev:=ev) q j
  rw [Array.getElem?_eq_getElem hj,List.getElem?_eq_getElem (by omega)] at h
  simp only [Option.map_some,Option.some.injEq] at h
  rw [h]
 refine ⟨by omega,by rw [hb]; simp,fun j hj=>?_⟩
 rw [hb]; simp; omega
theorem Qjr.zip {w M} {raw:List (κ×Value)} {m:List (κ×List α)} (h:Qjr w M raw m):∃ z:ZL κ α,raw=zr z/\m=zm z/\∀ x∈z,Qid w M x.1.2 x.2:=by
 induction h with
 | nil=>exact ⟨[],rfl,rfl,fun x h=>by cases h⟩
 | @cons r x _ _ h _ ih=>
  obtain ⟨z,e1,e2,e3⟩:=ih
  obtain ⟨a,u⟩:=r; obtain ⟨b,xs⟩:=x
  obtain ⟨h1,h2⟩:=h
  dsimp only at h1 h2; subst h1
  refine ⟨((a,u),xs) :: z,by rw [e1]; rfl,by rw [e2]; rfl,fun x hx=>?_⟩
  rcases List.mem_cons.1 hx with rfl | hx
  ·exact h2
  ·exact e3 x hx
theorem Qjr.of {w M}:∀ {z:ZL κ α},(∀ x∈z,Qid w M x.1.2 x.2)->Qjr w M (zr z) (zm z)
 | [],_=>.nil
 | x :: z,h=>.cons ⟨rfl,h x (by simp)⟩ (Qjr.of fun y hy=>h y (List.mem_cons_of_mem _ hy))
def MSI (α:Type) [Rep α] (ek:κ->Value) (ok:κ->Prop) (p q:Value) (m d r:List (κ×List α)):SP where
 h w M F:=∃ a b c:ZL κ α,(MpI ek (id:Value->Value) ok p q (zr a) (zr b) (zr c)).h w M F/\m=zm a/\d=zm b/\r=zm c/\(b++c).Perm a/\∀ x∈a,Qid w M x.1.2 x.2
 p:=false
 st:=by
  rintro w M F w' M' ⟨a,b,c,h1,h2,h3,h4,h5,h6⟩ e k
  exact ⟨a,b,c,(MpI ek id ok p q _ _ _).st h1 e k,h2,h3,h4,h5,fun x hx=>QbW (h6 x hx) e⟩
 up:=by
  rintro w M F F' ⟨a,b,c,h1,h2⟩ e
  exact ⟨a,b,c,(MpI ek id ok p q _ _ _).up h1 e,h2⟩
 pers:=by simp
theorem QB4 {T x kt et} {Ar:List SP} (is:List Nat) (ht:Qsr P T=some (kt,et)) (hop:o.op=.range T x:=by exact rfl) (hA:take A is=some ([MS α ek ok p m],Ar):=by exact rfl) (hx:L.ev x=some p:=by exact rfl) :
  OpA P L A o (fun q:Value=>q) (fun q=>[MSI α ek ok p q m [] m]++Ar):=OpA.frame is hA <| fun ρ hρ w M F okw hs=>by
 obtain ⟨raw,h1,h2⟩:=QfU hs
 obtain ⟨z,e1,e2,e3⟩:=h2.zip
 subst e1; subst e2
 obtain ⟨g,w',M',F',r1,r2,r3⟩:=(OpA.mrange (ev:=(id:Value->Value)) hop (QgY ht) hx) ρ hρ w M F okw (QcS h1)
 exact ⟨g,w',M',F',r1,r2,QcS ⟨z,[],z,QfU r3,rfl,rfl,rfl,List.Perm.refl _,fun x hx=>QbW (e3 x hx) r2.ext⟩⟩
theorem OpA.msnext {d r:List (κ×List α)} {q:Value} {x} (hop:o.op=.next x false) (hx:L.ev x=some q) :
  OpA P L [MSI α ek ok p q m d r] o (fun g:Option ((κ×List α)×Value×List (κ×List α)×List (κ×List α))=>match g with | none=>.tuple #[.bool false] | some (e,c,_)=>.tuple #[.bool true,ek e.1,c])
   (fun g=>match g with | none=>[SP.fact (r=[]),MSI α ek ok p q m d []] | some (e,c,r1,r2)=>[SP.fact (r=r1++e :: r2),sl c e.2,MSI α ek ok p q m (d++[e]) (r1++r2)]):=fun ρ hρ w M F okw hs=>by
 obtain ⟨za,zb,zc,h1,rfl,rfl,rfl,h5,h6⟩:=QfU hs
 obtain ⟨g,w',M',F',r1,r2,r3⟩:=(OpA.mnext (ev:=(id:Value->Value)) hop hx) ρ hρ w M F okw (QcS h1)
 rcases g with _ | ⟨e,s1,s2⟩
 ·obtain ⟨F1,F2,k1,k2,kd,hr,hA'⟩:=r3
  have hz:zc=[]:=by
   cases zc with
   | nil=>rfl
   | cons a b=>cases (hr:zr (a :: b)=[])
  subst hz
  refine ⟨none,w',M',F',r1,r2,fun _=>False,F',fun _ h=>h.elim,fun _ h=>h,fun _ h _=>h,rfl,QcS ⟨za,zb,[],?_,rfl,rfl,rfl,h5,fun x hx=>QbW (h6 x hx) r2.ext⟩⟩
  exact (MpI ek id ok p q _ _ _).up (QfU hA') k2
 ·obtain ⟨F1,F2,k1,k2,kd,hr,hA'⟩:=r3
  obtain ⟨z1,y,z2,e1,rfl,rfl,rfl⟩:=Qn3 hr
  subst e1
  have hy:y∈za:=h5.mem_iff.1 (by simp)
  refine ⟨some ((y.1.1,y.2),y.1.2,zm z1,zm z2),w',M',F',r1,r2,fun _=>False,F',fun _ h=>h.elim,fun _ h=>h,fun _ h _=>h,by simp [SP.fact,zm],fun _=>False,F',fun _ h=>h.elim,fun _ h=>h,fun _ h _=>h,QbW (h6 y hy) r2.ext,QcS ⟨za,zb++[y],z1++z2,?_,rfl,by simp [zm],by simp [zm],?_,fun x hx=>QbW (h6 x hx) r2.ext⟩⟩
  ·have:=(MpI ek id ok p q _ _ _).up (QfU hA') k2
   have e1:zr (zb++[y])=zr zb++[y.1]:=by simp [zr]
   have e2:zr (z1++z2)=zr z1++zr z2:=by simp [zr]
   rw [e1,e2]; exact this
  ·refine List.Perm.trans ?_ h5
   simp only [List.append_assoc]
   exact List.Perm.append_left zb (by simpa using (List.perm_middle (a:=y) (l₁:=z1) (l₂:=z2)).symm)
theorem QA5 {C:Cx} {ks:List Kn} {ops:Array Oper} {rest:List Oper} {dd r:List (κ×List α)} {q:Value} {d:Nat} {x:Operand} {ty:TypeId} {pos:String} {af:Array Edge} {Ar:List SP} (is:List Nat)
  (h0:r=[]->JO C ops rest ks ((d,.tuple #[.bool false]) :: L) (MSI α ek ok p q m dd [] :: Ar))
  (h1:∀ e c r1 r2,r=r1++e :: r2->JO C ops rest ks ((d,.tuple #[.bool true,ek e.1,c]) :: L) (sl c e.2 :: MSI α ek ok p q m (dd++[e]) (r1++r2) :: Ar))
  (hA:take A is=some ([MSI α ek ok p q m dd r],Ar):=by exact rfl) (hx:L.ev x=some q:=by exact rfl) (hn:Nat.blt d C.n=true:=by exact rfl) :
  JO C ops (⟨some d,.next x false,ty,pos,af,none⟩ :: rest) ks L A:=by
 have hop:OpA C.P L A ⟨some d,.next x false,ty,pos,af,none⟩ _ _:=OpA.frame is hA (OpA.msnext rfl hx)
 refine QqW rfl rfl hn hop fun g=>?_
 rcases g with _ | ⟨e,c,r1,r2⟩
 ·intro a w M F st
  obtain ⟨F1,F2,k1,k2,kd,hr,hA'⟩:=st.sp
  exact h0 hr a w M F ⟨st.step,st.sz,st.df,st.sat,Qbz hA' k2⟩
 ·intro a w M F st
  obtain ⟨F1,F2,k1,k2,kd,hr,hA'⟩:=st.sp
  exact h1 e c r1 r2 hr a w M F ⟨st.step,st.sz,st.df,st.sat,Qbz hA' k2⟩
theorem QBw {e:κ×List α} {d r:List (κ×List α)} {q:Value} {x} (i:Nat) (hA:A[i]? = some (MSI α ek ok p q m (d++[e]) r):=by exact rfl) (hop:o.op=.entry x:=by exact rfl) (hx:L.ev x=some q:=by exact rfl) :
  OpA P L A o (fun c:Value=>.tuple #[ek e.1,c]) (fun c=>sl c e.2 :: A):=fun ρ hρ w M F okw hs=>by
 obtain ⟨za,zb,zc,h1,h2,h3,h4,h5,h6⟩:=Qaj hA hs
 have hz:∃ zb' y,zb=zb'++[y]/\(y.1.1,y.2)=e:=by
  rcases List.eq_nil_or_concat zb with h | ⟨z0,a,h⟩
  ·subst h; simp [zm] at h3
  ·rw [List.concat_eq_append] at h
   subst h
   simp only [zm,List.map_append,List.map_cons,List.map_nil] at h3
   exact ⟨z0,a,rfl,(List.cons.inj (List.append_inj' h3 rfl).2).1.symm⟩
 obtain ⟨zb',y,rfl,rfl⟩:=hz
 have hy:y∈za:=h5.mem_iff.1 (by simp)
 have e1:zr (zb'++[y])=zr zb'++[y.1]:=by simp [zr]
 rw [e1] at h1
 have hr:=(OpV.mentry (P:=P) (A:=[MpI ek (id:Value->Value) ok p q (zr za) (zr zb'++[y.1]) (zr zc)]) (o:=o) 0 rfl hop hx) ρ hρ w M F okw (QcS h1)
 exact ⟨_,w,M,F,hr,Qew.refl okw,fun _=>False,F,fun _ h=>h.elim,fun _ h=>h,fun _ h _=>h,h6 y hy,hs⟩
theorem Ent.msdone {d:List (κ×List α)} {q:Value}:Ent [MSI α ek ok p q m d []] [SP.fact (d.Perm m),MS α ek ok p d]:=fun w M F okw hs=>by
 obtain ⟨za,zb,zc,h1,rfl,rfl,h4,h5,h6⟩:=QfU hs
 have hz:zc=[]:=by
  cases zc with
  | nil=>rfl
  | cons a b=>cases h4
 subst hz
 rw [List.append_nil] at h5
 obtain ⟨M',F',s,F1,F2,k1,k2,kd,hf,hm⟩:=(Ent.mdone (ev:=(id:Value->Value))) w M F okw (QcS h1)
 refine ⟨M',F',s,fun _=>False,F',fun _ h=>h.elim,fun _ h=>h,fun _ h _=>h,h5.map _,QcS ⟨zr zb,(Mp ek id ok p _).up (QfU hm) k2,Qjr.of fun x hx=>QbW (h6 x (h5.mem_iff.1 hx)) s.ext⟩⟩
theorem Qjr.perm {w M} {raw:List (κ×Value)} {m m':List (κ×List α)} (h:Qjr w M raw m) (hp:m.Perm m'):∃ raw',raw.Perm raw'/\Qjr w M raw' m':=by
 induction hp generalizing raw with
 | nil=>exact ⟨raw,List.Perm.refl _,h⟩
 | cons x _ ih=>
  cases h with
  | cons h1 h2=>
   obtain ⟨r',e1,e2⟩:=ih h2
   exact ⟨_ :: r',e1.cons _,.cons h1 e2⟩
 | swap x y l=>
  cases h with
  | cons h1 h2=>cases h2 with
   | cons h2 h3=>exact ⟨_ :: _ :: _,List.Perm.swap _ _ _,.cons h2 (.cons h1 h3)⟩
 | trans _ _ ih1 ih2=>
  obtain ⟨r1,a,b⟩:=ih1 h
  obtain ⟨r2,c,d⟩:=ih2 b
  exact ⟨r2,a.trans c,d⟩
theorem Ent.msperm {m':List (κ×List α)} (hp:m.Perm m'):Ent [MS α ek ok p m] [MS α ek ok p m']:=fun w M F okw hs=>by
 obtain ⟨raw,h1,h2⟩:=QfU hs
 obtain ⟨raw',h3,h4⟩:=h2.perm hp
 obtain ⟨M',F',s,hm⟩:=(Ent.mperm (ev:=(id:Value->Value)) h3) w M F okw (QcS h1)
 exact ⟨M',F',s,QcS ⟨raw',QfU hm,h4.st s.ext⟩⟩
theorem Ent.msfacts:Ent [MS α ek ok p m] [SP.fact ((m.map (·.1)).Nodup/\∀ e∈m,ok e.1),MS α ek ok p m]:=fun w M F okw hs=>by
 obtain ⟨raw,h1,h2⟩:=QfU hs
 obtain ⟨M',F',s,F1,F2,k1,k2,kd,hf,hm⟩:=(Ent.mfacts (ev:=(id:Value->Value))) w M F okw (QcS h1)
 have hk:=h2.keys
 refine ⟨M',F',s,fun _=>False,F',fun _ h=>h.elim,fun _ h=>h,fun _ h _=>h,⟨hk ▸ hf.1,fun e he=>?_⟩,QcS ⟨raw,(Mp ek id ok p _).up (QfU hm) k2,h2.st s.ext⟩⟩
 have:e.1∈raw.map (·.1):=hk ▸ List.mem_map_of_mem he
 obtain ⟨a,ha,e'⟩:=List.mem_map.1 this
 rw [<- e']; exact hf.2 a ha
end
end Go.SL
namespace Go.SL
open Go
section
variable {P:Program} {L:Env} {A:List SP} {o:Oper}
end
end Go.SL
namespace Go.SL
open Go
theorem QnG {α:Type} (zc:List α):∀ (n k j:Nat),k < n->j < zc.length->(List.replicate n zc).flatten[k*zc.length+j]? = zc[j]?
 | 0,k,j,h,_=>by omega
 | n+1,0,j,_,hj=>by
  rw [List.replicate_succ,List.flatten_cons,List.getElem?_append_left (by omega)]; simp
 | n+1,k+1,j,h,hj=>by
  rw [List.replicate_succ,List.flatten_cons,List.getElem?_append_right (by rw [Nat.succ_mul]; omega)]
  rw [show (k+1)*zc.length+j - zc.length=k*zc.length+j by rw [Nat.succ_mul]; omega]
  exact QnG zc n k j (by omega) hj
theorem QjH {α:Type} (zc:List α) (n:Nat):(List.replicate n zc).flatten.length=n*zc.length:=by simp
theorem Qor {α:Type} [Rep α] {zc:List Value} {z:α} {w:World} {M:Blk} (hz:Rep.rd w M zc z) {cells:Array Value} {off:Nat} {xs:List α} (h:Qd1 w M cells off xs) (l n2:Nat) (hn:l+n2=xs.length) (hf:off+xs.length*Rep.sz α<=cells.size) :
  Qd1 w M (cells.toList.take (off+l*Rep.sz α)++(List.replicate n2 zc).flatten++cells.toList.drop (off+l*Rep.sz α+n2*Rep.sz α)).toArray off (xs.take l++List.replicate n2 z):=by
 intro i y hy
 have hzl:zc.length=Rep.sz α:=Rep.len hz
 have hlen:(xs.take l++List.replicate n2 z).length=xs.length:=by simp; omega
 have hi:i < xs.length:=by
  have:=(List.getElem?_eq_some_iff.1 hy).1
  omega
 have hm:xs.length*Rep.sz α=l*Rep.sz α+n2*Rep.sz α:=by rw [<- hn,Nat.add_mul]
 have hcs:(cells.toList.take (off+l*Rep.sz α)).length=off+l*Rep.sz α:=by rw [List.length_take,Array.length_toList]; omega
 by_cases c:i < l
 ·rw [List.getElem?_append_left (by simp; omega),List.getElem?_take,if_pos c] at hy
  obtain ⟨ecs,h1,h2⟩:=h i y hy
  refine ⟨ecs,fun j u hu=>?_,h2⟩
  have hl:ecs.length=Rep.sz α:=Rep.len h2
  have hj:=(List.getElem?_eq_some_iff.1 hu).1
  have h3:=h1 j u hu
  have h4:i*Rep.sz α+Rep.sz α<=l*Rep.sz α:=by
   have:=Nat.mul_le_mul_right (Rep.sz α) (Nat.succ_le_of_lt c)
   rwa [Nat.succ_mul] at this
  rw [List.getElem?_toArray,List.append_assoc,List.getElem?_append_left (by omega),List.getElem?_take,if_pos (by omega)]
  simpa using h3
 ·rw [List.getElem?_append_right (by simp; omega),List.getElem?_replicate] at hy
  split at hy
  ·injection hy with hy
   subst hy
   refine ⟨zc,fun j u hu=>?_,hz⟩
   have hj:=(List.getElem?_eq_some_iff.1 hu).1
   obtain ⟨k,rfl⟩:∃ k,i=l+k:=⟨i - l,by omega⟩
   have hk:k < n2:=by omega
   have h4:k*Rep.sz α+Rep.sz α<=n2*Rep.sz α:=by
    have:=Nat.mul_le_mul_right (Rep.sz α) (Nat.succ_le_of_lt hk)
    rwa [Nat.succ_mul] at this
   have e:off+(l+k)*Rep.sz α+j=(off+l*Rep.sz α)+(k*Rep.sz α+j):=by rw [Nat.add_mul]; omega
   rw [List.getElem?_toArray,List.append_assoc,e,List.getElem?_append_right (by omega),hcs,Nat.add_sub_cancel_left,List.getElem?_append_left (by rw [QjH,hzl]; omega),<- hzl,QnG zc n2 k j hk hj]
   exact hu
  ·cases hy
theorem QwP {zs:Array Value} (n:Nat) (hp:0 < zs.size):(Builtin.zeroCells zs n).toList=(List.replicate n zs.toList).flatten:=by
 refine List.ext_getElem? fun i=>?_
 by_cases hi:i < n*zs.size
 ·have h1:i / zs.size < n:=(Nat.div_lt_iff_lt_mul hp).2 hi
  have h2:i % zs.size < zs.toList.length:=by rw [Array.length_toList]; exact Nat.mod_lt _ hp
  have:=QnG zs.toList n (i / zs.size) (i % zs.size) h1 h2
  rw [Array.length_toList,Nat.div_add_mod'] at this
  rw [this]
  unfold Builtin.zeroCells
  have h2':i % zs.size < zs.size:=Nat.mod_lt _ hp
  simp [hi,h2']
 ·rw [List.getElem?_eq_none (by simp [Builtin.zeroCells]; omega),List.getElem?_eq_none (by rw [QjH,Array.length_toList]; omega)]
section
variable {P:Program} {L:Env} {A:List SP} {o:Oper}
theorem OpA.clearR {α:Type} [Rep α] {z:α} {zv:Value} {T x a n k n2 k2 e by_} {xs:List α} (hT:Qe5 P T=some (e,Rep.sz α,by_)) (hz:QdX P e=some zv) (hzr:∀ w M,Rep.rd w M zv.cells.toList z) (l:Nat) (hop:o.op=.call { callee:=.builtin .clear,args:=#[x],argTypes:=#[T] }) (hx:L.ev x=some (.slice (a.map (·.add (l*Rep.sz α))) n2 k2)) (hn:l+n2=xs.length) :
  OpA P L [os (.slice a n k) xs] o (fun _:Unit=>.tuple #[]) (fun _=>[os (.slice a n k) (xs.take l++List.replicate n2 z)]):=fun ρ hρ w M F ok hs=>by
 obtain ⟨F1,F2,k1,k2',kd,⟨hb,a',k',hc,hk,hh⟩,hA⟩:=hs
 injection hc with c1 c2 c3
 subst c1; subst c2; subst c3
 have hlen:(xs.take l++List.replicate n2 z).length=xs.length:=by simp; omega
 have ex:∀ w',(builtin .clear #[T] o.type (#[x].map fun | .const _=>true | _=>false) (#[x].map ρ)).run P w=.ok (.value (.tuple #[])) w'->(execOp ρ o).run P w=.ok (.value (.tuple #[])) w':=fun w' h=>by
  have e:execOp ρ o=builtin .clear #[T] o.type (#[x].map fun | .const _=>true | _=>false) (#[x].map ρ):=by unfold execOp; rw [hop]; rfl
  rw [e]; exact h
 by_cases h0:n2=0
 ·subst h0
  refine ⟨(),w,M,F,ex w ?_,Qew.refl ok,F1,F2,k1,k2',kd,?_,hA⟩
  ·cases a <;> simp [builtin,Builtin.clear_,hρ _ _ hx,run_underlying (Qb8 hT)]
  ·have:xs.take l++List.replicate 0 z=xs:=by rw [List.take_of_length_le (by omega)]; simp
   rw [this]; exact ⟨hb,a,k,rfl,hk,hh⟩
 ·cases a with
  | none=>have:=hh.1; subst this; simp at hn; omega
  | some ad=>
   obtain ⟨cells,E,q0,q1,q2,q3,q4⟩:=hh
   obtain ⟨b,off,sp⟩:=ad
   have q0:sp=none:=q0
   subst q0
   have q3:off+k*Rep.sz α<=cells.size:=q3
   have hkm:xs.length*Rep.sz α<=k*Rep.sz α:=Nat.mul_le_mul_right _ hk
   have hm:xs.length*Rep.sz α=l*Rep.sz α+n2*Rep.sz α:=by rw [<- hn,Nat.add_mul]
   have hzl:zv.cells.toList.length=Rep.sz α:=Rep.len (hzr w M)
   have hst:=run_storeCells_at P b (off+l*Rep.sz α) E (List.replicate n2 zv.cells.toList).flatten 0 cells w q2 (by rw [QjH,hzl]; omega) (fun v hv=>by
    obtain ⟨ys,h1,h2⟩:=List.mem_flatten.1 hv
    rw [List.eq_of_mem_replicate h1] at h2
    exact Rep.one (hzr w M) v h2)
   simp only [Nat.add_zero,QjH,hzl] at hst
   have hzc:=QwP (zs:=zv.cells) n2 (by rw [<- Array.length_toList,hzl]; exact Rep.pos)
   have hstep:=QeD ok (k1 b q1) (cells.toList.take (off+l*Rep.sz α)++(List.replicate n2 zv.cells.toList).flatten++cells.toList.drop (off+l*Rep.sz α+n2*Rep.sz α)).toArray
   refine ⟨(),_,M,F,ex _ ?_,hstep,F1,F2,k1,k2',kd,⟨by rw [hlen]; exact hb,some ⟨b,off,none⟩,k,by rw [hlen],by rw [hlen]; exact hk,_,E,rfl,q1,setRow_heap w b _ _ E (0,0) q2,?_,?_⟩,QbG hA hstep.ext (fun b' hb'=>setRow_other w b b' _ (fun e=>kd b q1 (e ▸ hb')))⟩
   ·obtain ⟨m,rfl⟩:=Nat.exists_eq_succ_of_ne_zero h0
    simp [builtin,Builtin.clear_,hρ _ _ hx,run_underlying (Qb8 hT),Qgs hz,Qby,hzc,hst]
   ·simp only [List.size_toArray,List.length_append,List.length_take,List.length_drop,Array.length_toList,QjH,hzl]
    show off+k*Rep.sz α<=_
    omega
   ·exact Qet (Qor (hzr w M) q4 l n2 hn (show off+xs.length*Rep.sz α<=cells.size by omega)) hstep.ext
end
end Go.SL
namespace Go.SL
open Go
section
variable {κ α:Type}
theorem QwL (a b:ZL κ α):zr (a++b)=zr a++zr b:=by simp [zr]
theorem QBh [DecidableEq κ] {m:List (κ×List α)} {k:κ} (h:∀ e∈m,e.2≠[]) (hs:(QbX m k).isSome=true):(QbX m k).getD []≠[]:=by
 induction m with
 | nil=>cases hs
 | cons e m ih=>
  obtain ⟨a,v⟩:=e
  simp only [QbX] at hs ⊢
  by_cases c:a=k
  ·rw [if_pos c]; exact h (a,v) (by simp)
  ·rw [if_neg c] at hs ⊢; exact ih (fun e he=>h e (List.mem_cons_of_mem _ he)) hs
theorem zk (z:ZL κ α):(zm z).map (·.1)=(zr z).map (·.1):=by simp [zm,zr]
end
section
variable {P:Program} {L:Env} {A:List SP} {o:Oper} {κ α:Type} [Rep α] {ek:κ->Value} {ok:κ->Prop} {p:Value} {m:List (κ×List α)}
def mos (z:ZL κ α):List SP:=z.map fun x=>os x.1.2 x.2
theorem Qpm (a b:ZL κ α):mos (a++b)=mos a++mos b:=by simp [mos]
def MO (α:Type) [Rep α] (ek:κ->Value) (ok:κ->Prop) (p:Value) (m:List (κ×List α)):SP where
 h w M F:=∃ z:ZL κ α,m=zm z/\QaI (Mp ek (id:Value->Value) ok p (zr z) :: mos z) w M F
 p:=false
 st:=fun ⟨z,h1,h2⟩ e k=>⟨z,h1,QbG h2 e k⟩
 up:=fun ⟨z,h1,h2⟩ e=>⟨z,h1,Qbz h2 e⟩
 pers:=by simp
def MB (ek:κ->Value) (p:Value) (q:List (κ×Value)):SP where
 h w M F:=∃ b,F b/\p=.map (some b)/\w.heap[b]? = some (.map (mes ek (id:Value->Value) q) q.length)
 p:=false
 st:=by
  rintro w M F w' M' ⟨b,h1,h2,h3⟩ e k
  exact ⟨b,h1,h2,(k b h1).trans h3⟩
 up:=by
  rintro w M F F' ⟨b,h1,h2⟩ e
  exact ⟨b,e b h1,h2⟩
 pers:=by simp
def MOE (α:Type) [Rep α] (ek:κ->Value) (ok:κ->Prop) (p:Value) (m:List (κ×List α)) (k:κ) (st:Int):SP where
 h w M F:=∃ (z1 z2:ZL κ α) (v:Value) (x:List α) (q:List (κ×Value)) (i:Nat),m=zm z1++(k,x) :: zm z2/\q.Perm (zr z1++(k,v) :: zr z2)/\(q.map (·.1)).Nodup/\(∀ e∈q,ok e.1)/\q[i]? = some (k,v)/\st=(i:Int)/\QaI (MB ek p q :: mos (z1++z2)) w M F
 p:=false
 st:=fun ⟨z1,z2,v,x,q,i,h1,h2,h3,h4,h5,h6,h7⟩ e k=>⟨z1,z2,v,x,q,i,h1,h2,h3,h4,h5,h6,QbG h7 e k⟩
 up:=fun ⟨z1,z2,v,x,q,i,h1,h2,h3,h4,h5,h6,h7⟩ e=>⟨z1,z2,v,x,q,i,h1,h2,h3,h4,h5,h6,Qbz h7 e⟩
 pers:=by simp
theorem QAG {T} (hop:o.op=.makeMap T none:=by exact rfl):OpA P L A o (fun p:Value=>p) (fun p=>MO α ek ok p [] :: A):=fun ρ hρ w M F okw hs=>by
 obtain ⟨g,w',M',F',h1,h2,F1,F2,k1,k2,kd,hr,hA⟩:=(Amp (ek:=ek) (ev:=(id:Value->Value)) (ok:=ok) hop) ρ hρ w M F okw hs
 exact ⟨g,w',M',F',h1,h2,F1,F2,k1,k2,kd,⟨[],rfl,QcS hr⟩,hA⟩
theorem QBc {C:Cx} {X:Act->World->Prop} (i:Nat) (h:∀ b,p=mv b->JJ C X L A) (hA:A[i]? = some (MO α ek ok p m):=by exact rfl):JJ C X L A:=
 Qe9 (φ:=∃ b,p=mv b) i hA (fun hp=>by obtain ⟨z,_,F1,F2,_,_,_,⟨b,_,_,h2,_⟩,_⟩:=hp; exact ⟨b,h2⟩) (fun ⟨b,hb⟩=>h b hb)
theorem Ent.moF:Ent [MO α ek ok p m] [MS α ek ok p m]:=fun w M F okw hs=>by
 obtain ⟨z,rfl,F1,F2,k1,k2,kd,hm,ho⟩:=QfU hs
 have s:=QoN okw F2 k2
 refine ⟨_,_,s,QcS ⟨zr z,(Mp ek id ok p _).up ((Mp ek id ok p _).st hm s.ext (fun _ _=>rfl)) (fun b hb=>⟨k1 b hb,fun h=>kd b hb h⟩),Qjr.of fun x hx=>?_⟩⟩
 obtain ⟨i,hi⟩:=List.mem_iff_getElem?.1 hx
 have:(mos z)[i]? = some (os x.1.2 x.2):=by unfold mos; rw [List.getElem?_map,hi]; rfl
 exact QtK (Qaj this ho)
theorem Qou {w:World} {b j:Nat} {ob} (h:j≠b):({ w with heap:=w.heap.setIfInBounds b ob }:World).heap[j]? = w.heap[j]?:=by
 simp [Array.getElem?_setIfInBounds,Ne.symm h]
theorem Amo [DecidableEq κ] {T x y kt et} {key:κ} {Ar:List SP} (is:List Nat) (ht:Qsr P T=some (kt,et)) (hK:KK P kt ek ok) (hz:QdX P et=some (.slice none 0 0)) (hk:ok key) (hop:o.op=.mapEntry T x y:=by exact rfl) (hA:take A is=some ([MO α ek ok p m],Ar):=by exact rfl)
  (hx:L.ev x=some p:=by exact rfl) (hy:L.ev y=some (ek key):=by exact rfl) :
  OpA P L A o (fun g:Value×Int=>.tuple #[g.1,.int .i64 g.2]) (fun g=>[os g.1 ((QbX m key).getD []),MOE α ek ok p (SL.mset m key ((QbX m key).getD [])) key g.2]++Ar):=OpA.frame is hA <| fun ρ hρ w M F okw hs=>by
 obtain ⟨z,rfl,F1,F2,k1,k2,kd,⟨b,q,h1,rfl,h3,h4,h5,h6⟩,ho2⟩:=QfU hs
 obtain ⟨lx,hl⟩:=hK.rd key hk
 have hc:=hK.K.check w false hl
 have ho:(getObj b).run P w=.ok (.map (mes ek id q) q.length) w:=by simp [getObj,Sem.run,h6]
 have hset:∀ ob,(setObj b ob).run P w=.ok () { w with heap:=w.heap.setIfInBounds b ob }:=fun ob=>by simp [setObj,Sem.run,h6]
 have hst:=hK.K.stays w hl
 have hnr:((zr z).map (·.1)).Nodup:=(h3.map _).nodup_iff.1 h4
 have hnm:((zm z).map (·.1)).Nodup:=by rw [zk]; exact hnr
 have hkeep:∀ ob,Qvz F2 w { w with heap:=w.heap.setIfInBounds b ob }:=fun ob j hj=>Qou fun e=>kd b h1 (e ▸ hj)
 rcases QnH (ev:=(id:Value->Value)) hK h4 h5 hk w with ⟨e1,e2⟩ | ⟨j,u,e1,e2⟩
 ·have hk0:key ∉ q.map (·.1):=QeW.1 e2
  have hkz:key ∉ (zm z).map (·.1):=by rw [zk]; exact fun h=>hk0 ((h3.map _).mem_iff.2 h)
  have hg:QbX (zm z) key=none:=QeW.2 hkz
  have hs1:=QgE okw (k1 b h1) (.map (mes ek id (q++[(key,.slice none 0 0)])) (q.length+1))
  refine ⟨(.slice none 0 0,(q.length:Int)),_,M,F,?_,hs1,fun _=>False,F,fun _ h=>h.elim,fun _ h=>h,fun _ h _=>h,?_,?_⟩
  ·have hpush:(mes ek id q).push { key:=ek key,val:=Value.slice none 0 0,born:=q.length }=mes ek id (q++[(key,.slice none 0 0)]):=QpF q key (.slice none 0 0)
   simp [execOp,hop,hρ _ _ hx,hρ _ _ hy,Instr.mapEntry,run_underlying (QgY ht),ho,hc,e1,Qgs hz,hpush,hset,goInt]
  ·rw [hg]; exact ⟨by simp,none,0,rfl,by simp,rfl,rfl⟩
  ·rw [hg]
   refine QcS ⟨z,[],.slice none 0 0,[],q++[(key,.slice none 0 0)],q.length,?_,?_,?_,?_,by simp,rfl,F1,F2,k1,k2,kd,⟨b,h1,rfl,?_⟩,?_⟩
   ·exact Qnq _ hkz
   ·exact h3.append_right _
   ·rw [List.map_append,List.nodup_append]
    exact ⟨h4,by simp,fun a ha c hc' e=>by simp at hc'; subst hc'; exact hk0 (e ▸ ha)⟩
   ·intro e he
    rcases List.mem_append.1 he with he | he
    ·exact h5 e he
    ·rw [List.mem_singleton.1 he]; exact hk
   ·have:=Qit h6 (.map (mes ek id (q++[(key,.slice none 0 0)])) (q.length+1))
    simpa using this
   ·rw [List.append_nil]; exact QbG ho2 hs1.ext (hkeep _)
 ·have hmem:(key,u)∈zr z:=h3.mem_iff.1 (List.mem_of_getElem? e2)
  obtain ⟨r1,r2,hr⟩:=List.append_of_mem hmem
  obtain ⟨z1,y,z2,rfl,rfl,hy1,rfl⟩:=Qn3 hr
  obtain ⟨⟨a1,a2⟩,xs⟩:=y
  injection hy1 with q1 q2
  subst q1; subst q2
  have hmz:zm (z1++((key,u),xs) :: z2)=zm z1++(key,xs) :: zm z2:=by simp [zm]
  have hg:QbX (zm (z1++((key,u),xs) :: z2)) key=some xs:=(Qex hnm).2 (by rw [hmz]; simp)
  have hj:((mes ek id q)[j]?).map (·.key)=some (ek key):=by rw [Qg8,e2]; rfl
  have hb:((mes ek id q)[j]?).map (fun x=>(x.born:Int))=some (j:Int):=by rw [Qg8,e2]; rfl
  have hs1:=QgE okw (k1 b h1) (.map (mes ek id q) q.length)
  have hidx:(mos (z1++((key,u),xs) :: z2))[z1.length]? = some (os u xs):=by simp [mos]
  have hers:(mos (z1++((key,u),xs) :: z2)).eraseIdx z1.length=mos (z1++z2):=by
   rw [Qpm,Qpm,List.eraseIdx_append_of_length_le (by simp [mos])]
   simp [mos]
  obtain ⟨G1,G2,g1,g2,gd,gR,gA⟩:=Qjz hidx (QbG ho2 hs1.ext (hkeep _))
  rw [hers] at gA
  refine ⟨(u,(j:Int)),_,M,F,?_,hs1,G1,fun x=>F1 x\/G2 x,fun x h=>k2 x (g1 x h),fun x h=>h.elim (k1 x) (fun h=>k2 x (g2 x h)),fun x h h'=>h'.elim (fun h'=>kd x h' (g1 x h)) (fun h'=>gd x h h'),?_,?_⟩
  ·have hmod:=QuK (ek:=ek) (ev:=(id:Value->Value)) e2
   simp [execOp,hop,hρ _ _ hx,hρ _ _ hy,Instr.mapEntry,run_underlying (QgY ht),ho,hc,e1,hj,hb,hst,hmod,hset,goInt]
  ·rw [hg]; exact gR
  ·rw [hg,Option.getD_some,Qom hg]
   refine QcS ⟨z1,z2,u,xs,q,j,hmz,?_,h4,h5,e2,rfl,F1,G2,fun x h=>.inl h,fun x h=>.inr h,fun x h h'=>kd x h (g2 x h'),⟨b,h1,rfl,Qit h6 _⟩,gA⟩
   have:zr (z1++((key,u),xs) :: z2)=zr z1++(key,u) :: zr z2:=by simp [zr]
   rw [<- this]; exact h3
theorem QrX {β:Type} (l1:List β) (a b:β) (l2:List β):(l1++a :: l2).set l1.length b=l1++b :: l2:=by simp
theorem Seo [DecidableEq κ] {T x y z} {key:κ} {st:Int} {c:Value} {xs:List α} {Ar:List SP} (is:List Nat) (hop:o.op=.entryStore T x y z:=by exact rfl) (hA:take A is=some ([MOE α ek ok p m key st,os c xs],Ar):=by exact rfl)
  (hx:L.ev x=some p:=by exact rfl) (hy:L.ev y=some (.int .i64 st):=by exact rfl) (hv:L.ev z=some c:=by exact rfl):OpS P L A o ([MO α ek ok p (SL.mset m key xs)]++Ar):=
 OpS.frame is hA <| fun ρ hρ w M F okw hs=>by
 obtain ⟨F1,F2,k1,k2,kd,⟨z1,z2,v,x0,q,i,rfl,h3,h5,h6,h8,rfl,G1,G2,g1,g2,gd,⟨b,h1,rfl,h7⟩,ho2⟩,hs2⟩:=hs
 have hc:(os c xs).h w M F2:=QfU hs2
 have ho:(getObj b).run P w=.ok (.map (mes ek id q) q.length) w:=by simp [getObj,Sem.run,h7]
 have hset:∀ ob,(setObj b ob).run P w=.ok () { w with heap:=w.heap.setIfInBounds b ob }:=fun ob=>by simp [setObj,Sem.run,h7]
 have hi:i < q.length:=by
  rcases Nat.lt_or_ge i q.length with h | h
  ·exact h
  ·rw [List.getElem?_eq_none h] at h8; cases h8
 have hmv:=QuV (ek:=ek) (ev:=(id:Value->Value)) c h8
 have hs1:=QgE okw (k1 b (g1 b h1)) (.map (mes ek id (q.set i (key,c))) q.length)
 have hnr:((zr z1++(key,v) :: zr z2).map (·.1)).Nodup:=(h3.map _).nodup_iff.1 h5
 have hnm:((zm z1++(key,x0) :: zm z2).map (·.1)).Nodup:=by
  have e1:=zk z1; have e2:=zk z2
  simp only [List.map_append,List.map_cons] at hnr ⊢
  rw [e1,e2]; exact hnr
 have hmm:SL.mset (zm z1++(key,x0) :: zm z2) key xs=zm (z1++((key,c),xs) :: z2):=by
  rw [Qi0 xs hnm (i:=(zm z1).length) (u:=x0) (by simp),QrX]
  simp [zm]
 have hp:(q.set i (key,c)).Perm (zr (z1++((key,c),xs) :: z2)):=by
  have:=Qot h3 h5 key c
  rw [Qi0 c h5 h8,Qi0 c hnr (i:=(zr z1).length) (u:=v) (by simp),QrX] at this
  rw [QwL]; exact this
 have hnd:((q.set i (key,c)).map (·.1)).Nodup:=by
  have:=Qf8 h5 key c
  rwa [Qi0 c h5 h8] at this
 have hkeep:∀ ob (G:Blk),(∀ x,G x->x≠b)->Qvz G w { w with heap:=w.heap.setIfInBounds b ob }:=fun ob G hG j hj=>Qou (hG j hj)
 refine ⟨_,M,F,?_,hs1,QcS ⟨z1++((key,c),xs) :: z2,hmm,G1,fun x=>G2 x\/F2 x,fun x h=>k1 x (g1 x h),fun x h=>h.elim (fun h=>k1 x (g2 x h)) (k2 x),fun x h h'=>h'.elim (gd x h) (fun h'=>kd x (g1 x h) h'),⟨b,q.set i (key,c),h1,rfl,hp,hnd,fun e he=>?_,?_⟩,?_⟩⟩
 ·have hf:=Qri (ek:=ek) (ev:=(id:Value->Value)) hi
  have hai:(asInt (.int .i64 (i:Int))).run P w=.ok (i:Int) w:=by rfl
  have e9:(mes ek id q).modify i (fun e=>{ e with val:=c })=mes ek id (q.set i (key,c)):=hmv
  simp only [execOp,hop,hρ _ _ hx,hρ _ _ hy,hρ _ _ hv,Instr.entryStore,Sem.run_bind,ho,hai,Result.andThen_ok,hf,e9,hset,Sem.run_pure]
 ·rcases List.mem_or_eq_of_mem_set he with he | rfl
  ·exact h6 e he
  ·exact (h6 (key,v) (List.mem_of_getElem? h8):ok key)
 ·have:=Qit h7 (.map (mes ek id (q.set i (key,c))) q.length)
  simpa using this
 ·have ho3:=QbG ho2 hs1.ext (hkeep _ G2 fun x h e=>gd b h1 (e ▸ h))
  have hc3:=(os c xs).st hc hs1.ext (hkeep _ F2 fun x h e=>kd b (g1 b h1) (e ▸ h))
  rw [Qpm] at ho3 ⊢
  obtain ⟨B1,B2,b1,b2,bd,hB1,hB2⟩:=Qc5 ho3
  refine Qcr (F1:=B1) (F2:=fun x=>B2 x\/F2 x) (fun x h=>.inl (b1 x h)) (fun x h=>h.elim (fun h=>.inl (b2 x h)) .inr) (fun x h h'=>h'.elim (bd x h) (fun h'=>kd x (g2 x (b1 x h)) h')) hB1 ?_
  exact ⟨F2,B2,fun x h=>.inr h,fun x h=>.inl h,fun x h h'=>kd x (g2 x (b2 x h')) h,hc3,hB2⟩
theorem Qwp [DecidableEq κ] {C:Cx} {ks:List Kn} {ops:Array Oper} {rest:List Oper} {T x y kt et ty} {pos:String} {af:Array Edge} {key:κ} {d:Nat} (i:Nat) (hm:Qsr C.P T=some (kt,et)) (hK:KK C.P kt ek ok) (hz:QdX C.P et=some (.slice none 0 0)) (hk:ok key)
  (hne:(QbX m key).isSome=true->(QbX m key).getD []≠[])
  (h0:(QbX m key).isSome=false->JO C ops rest ks ((d,.slice none 0 0) :: L) A)
  (h1:∀ (ad:Addr) (n k:Nat),(QbX m key).isSome=true->JO C ops rest ks ((d,.slice (some ad) n k) :: L) A)
  (hA:A[i]? = some (MO α ek ok p m):=by exact rfl)
  (hx:L.ev x=some p:=by exact rfl) (hy:L.ev y=some (ek key):=by exact rfl) (hn:Nat.blt d C.n=true:=by exact rfl) :
  JO C ops (⟨some d,.lookup T x y false,ty,pos,af,none⟩ :: rest) ks L A:=by
 have hop:OpA C.P L A ⟨some d,.lookup T x y false,ty,pos,af,none⟩ (fun g:Option (Addr×Nat×Nat)=>match g with | none=>.slice none 0 0 | some g=>.slice (some g.1) g.2.1 g.2.2) (fun g=>SP.fact ((QbX m key).isSome=g.isSome) :: A):=fun ρ hρ w M F okw hs=>by
  obtain ⟨z,rfl,F1,F2,k1,k2,kd,hmp,ho2⟩:=Qaj hA hs
  have hr:=(OpV.mlook (P:=C.P) (A:=[Mp ek id ok p (zr z)]) (o:=⟨some d,.lookup T x y false,ty,pos,af,none⟩) (Value.slice none 0 0) 0 rfl rfl (QgY hm) hK hx hy hk hz) ρ hρ w M F okw (QcS ((Mp ek id ok p (zr z)).up hmp k1))
  have hnz:((zr z).map (·.1)).Nodup:=by
   obtain ⟨b,q,_,_,h3,h4,_⟩:=hmp
   exact (h3.map _).nodup_iff.1 h4
  have hnm:((zm z).map (·.1)).Nodup:=by rw [zk]; exact hnz
  cases eg:QbX (zr z) key with
  | none=>
   have:QbX (zm z) key=none:=QeW.2 (by rw [zk]; exact QeW.1 eg)
   rw [eg] at hr
   exact ⟨none,w,M,F,hr,Qew.refl okw,fun _=>False,F,fun _ h=>h.elim,fun _ h=>h,fun _ h _=>h,by rw [this]; rfl,hs⟩
  | some u=>
   have hu:=(Qex hnz).1 eg
   obtain ⟨r1,r2,hr'⟩:=List.append_of_mem hu
   obtain ⟨z1,yy,z2,rfl,rfl,hy1,rfl⟩:=Qn3 hr'
   obtain ⟨⟨a1,a2⟩,xs⟩:=yy
   injection hy1 with q1 q2
   subst q1; subst q2
   have hgm:QbX (zm (z1++((key,u),xs) :: z2)) key=some xs:=(Qex hnm).2 (by simp [zm])
   have hxs:xs≠[]:=by
    have:=hne (by rw [hgm]; rfl)
    rwa [hgm] at this
   have hidx:(mos (z1++((key,u),xs) :: z2))[z1.length]? = some (os u xs):=by simp [mos]
   obtain ⟨hb,a,k,hc,hkk,hh⟩:=Qaj hidx ho2
   cases a with
   | none=>exact absurd hh.1 hxs
   | some ad=>
    rw [eg] at hr
    subst hc
    exact ⟨some (ad,xs.length,k),w,M,F,hr,Qew.refl okw,fun _=>False,F,fun _ h=>h.elim,fun _ h=>h,fun _ h _=>h,by rw [hgm]; rfl,hs⟩
 refine QqW rfl rfl hn hop fun g=>?_
 rcases g with _ | ⟨ad,n,k⟩
 ·intro a w M F st
  obtain ⟨F1,F2,k1,k2,kd,hr,hA'⟩:=st.sp
  exact h0 hr a w M F ⟨st.step,st.sz,st.df,st.sat,Qbz hA' k2⟩
 ·intro a w M F st
  obtain ⟨F1,F2,k1,k2,kd,hr,hA'⟩:=st.sp
  exact h1 ad n k hr a w M F ⟨st.step,st.sz,st.df,st.sat,Qbz hA' k2⟩
end
end Go.SL
namespace Go.SL
open Go
section
variable {κ ν:Type} [DecidableEq κ]
theorem QuA {l:List (κ×ν)} {k:κ} {v:ν} (h:((mset l k v).map (·.1)).Nodup):(l.map (·.1)).Nodup:=by
 rw [QiA] at h
 split at h
 ·exact h
 ·exact (List.nodup_append.1 h).1
theorem QiX {f:List (κ×ν)->List (κ×ν)->List (κ×ν)} (h0:∀ n,f [] n=n) (h1:∀ e r n,f (e :: r) n=f r (mset n e.1 e.2)):∀ {d:List (κ×ν)},(d.map (·.1)).Nodup->∀ (n:List (κ×ν)) (k:κ),QbX (f d n) k=(QbX d k).or (QbX n k)
 | [],_,n,k=>by rw [h0]; simp [QbX]
 | (a,v) :: d,h,n,k=>by
  simp only [List.map_cons,List.nodup_cons] at h
  rw [h1,QiX h0 h1 h.2,Qga]
  simp only [QbX]
  by_cases c:a=k
  ·subst c
   rw [if_pos rfl,if_pos rfl,QeW.2 h.1]; simp
  ·rw [if_neg c,if_neg c]
theorem QjX {f:List (κ×ν)->List (κ×ν)->List (κ×ν)} (h0:∀ n,f [] n=n) (h1:∀ e r n,f (e :: r) n=f r (mset n e.1 e.2)):∀ (d n:List (κ×ν)),((f d n).map (·.1)).Nodup↔(n.map (·.1)).Nodup
 | [],n=>by rw [h0]
 | e :: d,n=>by
  rw [h1,QjX h0 h1]
  exact ⟨QuA,fun h=>Qf8 h _ _⟩
theorem Qpp {f:List (κ×ν)->List (κ×ν)->List (κ×ν)} (h0:∀ n,f [] n=n) (h1:∀ e r n,f (e :: r) n=f r (mset n e.1 e.2)) {dn m nx rs rv:List (κ×ν)} (hp:dn.Perm m) (hk:(m.map (·.1)).Nodup) (hn:(rs.map (·.1)).Nodup) (hr:f dn nx=rs) (hv:f m nx=rv):rs.Perm rv:=by
 subst hr; subst hv
 have hd:(dn.map (·.1)).Nodup:=(hp.map _).nodup_iff.2 hk
 refine QkQ hn ((QjX h0 h1 _ _).2 ((QjX h0 h1 _ _).1 hn)) fun k=>?_
 rw [QiX h0 h1 hd,QiX h0 h1 hk,QlF hp hd]
end
end Go.SL
namespace Go.SL
open Go
section
variable {P:Program} {L:Env} {A:List SP} {o:Oper}
def Qwz (a:Option Addr) (n k l sz:Nat):Value:=.slice (if k=l then a else a.map (·.add (l*sz))) (n - l) (k - l)
theorem OpA.cut {T T2 x y a n k e sz by_ e2 sz2 by2} {α:Type} [Rep α] {xs:List α} (l l1:Nat) (hop:o.op=.call { callee:=.builtin .append,args:=#[x,y],argTypes:=#[T,T2] })
  (hx:L.ev x=some (.slice a l k)) (hy:L.ev y=some (Qwz a n k l1 sz)) (hT:Qe5 P T=some (e,sz,by_)) (hT2:Qe5 P T2=some (e2,sz2,by2)) (hs:Rep.sz α=sz) (hl1:l1=l+1) (hl:l < xs.length) :
  OpA P L [os (.slice a n k) xs] o (fun c:Value=>c) (fun c=>[os c (xs.eraseIdx l)]):=fun ρ hρ w M F ok hsA=>by
 subst hl1
 obtain ⟨F1,F2,k1,k2,kd,⟨hb,a',k',hc,hk,hh⟩,hA⟩:=hsA
 injection hc with c1 c2 c3
 subst c1; subst c2; subst c3
 have hred:∀ (r:Value) (w':World),(Builtin.append_ #[T,T2] o.type #[.slice a l k,Qwz a xs.length k (l+1) sz]).run P w=.ok r w'->(execOp ρ o).run P w=.ok (.value r) w':=by
  intro r w' h
  have e:execOp ρ o=builtin .append #[T,T2] o.type (#[x,y].map fun | .const _=>true | _=>false) (#[x,y].map ρ):=by unfold execOp; rw [hop]; rfl
  rw [e]
  simp [builtin,hρ _ _ hx,hρ _ _ hy,h]
 cases a with
 | none=>have:=hh.1; subst this; simp at hl
 | some ad=>
  obtain ⟨cells,E,s0,s1,s2,s3,s4⟩:=hh
  obtain ⟨b,off,sp⟩:=ad
  simp at s0 s1 s2 s3 s4; subst s0
  have hbk:xs.length*sz<=k*sz:=Nat.mul_le_mul_right _ hk
  have hln:(l+1)*sz<=xs.length*sz:=Nat.mul_le_mul_right _ hl
  rw [hs] at s3
  let fl:List Value:=(cells.toList.drop (off+(l+1)*sz)).take ((xs.length - (l+1))*sz)
  have hfl:fl.length=(xs.length - (l+1))*sz:=by
   simp only [fl,List.length_take,List.length_drop,Array.length_toList,Nat.sub_mul]; omega
  have hflg:∀ (j:Nat) (u:Value),fl[j]? = some u->cells[off+(l+1)*sz+j]? = some u:=fun j u hu=>by
   have hj:j < fl.length:=(List.getElem?_eq_some_iff.1 hu).1
   simp only [fl] at hu
   rw [List.getElem?_take,if_pos (by omega),List.getElem?_drop,Array.getElem?_toList] at hu
   exact hu
  have hf1:∀ u∈fl,u.oneCell'=true:=fun u hu=>by
   obtain ⟨j,hj⟩:=List.mem_iff_getElem?.1 hu
   have hjl:j < fl.length:=(List.getElem?_eq_some_iff.1 hj).1
   have hg:=hflg j u hj
   have hsp:0 < sz:=hs ▸ Rep.pos (α:=α)
   have hq:l+1+j / sz < xs.length:=by
    have:j / sz < xs.length - (l+1):=(Nat.div_lt_iff_lt_mul hsp).2 (by omega)
    omega
   obtain ⟨ecs,e1,e2⟩:=s4 (l+1+j / sz) xs[l+1+j / sz] (List.getElem?_eq_getElem hq)
   have hlen:=Rep.len e2
   have hm:j % sz < sz:=Nat.mod_lt _ hsp
   have e3:=e1 (j % sz) (ecs[j % sz]'(by omega)) (List.getElem?_eq_getElem _)
   have hdm:off+(l+1+j / sz)*Rep.sz α+j % sz=off+(l+1)*sz+j:=by
    rw [hs,Nat.add_mul (l+1)]
    have:=Nat.div_add_mod j sz
    rw [Nat.mul_comm] at this
    omega
   rw [hdm,hg] at e3
   injection e3 with e3
   rw [e3]
   exact Rep.one e2 _ (List.getElem_mem _)
  have hnew:(Builtin.firstCells sz (xs.length - (l+1)) (Qwz (some ⟨b,off,none⟩) xs.length k (l+1) sz)).run P w=.ok fl.toArray w:=by
   unfold Qwz
   refine Qem fl hfl ?_ _
   by_cases c:xs.length - (l+1)=0
   ·exact .inl c
   ·refine .inr ⟨b,off+(l+1)*sz,by rw [if_neg (by omega)]; simp [Qby],fun j u hu=>?_⟩
    simp [World.cell?,s2,hflg j u hu]
  have hfit:off+l*sz+fl.length<=cells.size:=by
   rw [hfl,Nat.sub_mul]
   rw [Nat.add_mul] at hln ⊢; omega
  have hst:=run_storeCells_at P b (off+l*sz) E fl 0 cells w s2 (by simpa using hfit) hf1
  simp only [Nat.add_zero] at hst
  have hstep:=QeD ok (k1 b s1) (cells.toList.take (off+l*sz)++fl++cells.toList.drop (off+l*sz+fl.length)).toArray
  have hel:(xs.eraseIdx l).length=xs.length - 1:=by rw [List.length_eraseIdx,if_pos hl]
  refine ⟨.slice (some ⟨b,off,none⟩) (xs.length - 1) k,_,M,F,hred _ _ ?_,hstep,F1,F2,k1,k2,kd,?_,trivial⟩
  ·have hroom:l+(xs.length - (l+1))<=k:=by omega
   have hsum:l+(xs.length - (l+1))=xs.length - 1:=by omega
   have hlo:Builtin.lenOf (Qwz (some ⟨b,off,none⟩) xs.length k (l+1) sz)=pure (xs.length - (l+1)):=rfl
   simp [Builtin.append_,run_underlying (Qb8 hT),run_underlying (Qb8 hT2),Qc2 hT,hlo,hroom,hnew,Qby,hst,hsum]
   intro h9; omega
  ·refine ⟨?_,some ⟨b,off,none⟩,k,by rw [hel],by rw [hel]; omega,_,E,rfl,s1,setRow_heap w b _ _ E (0,0) s2,?_,?_⟩
   ·have:(xs.eraseIdx l).length*Rep.bytes α<=xs.length*Rep.bytes α:=Nat.mul_le_mul_right _ (by rw [hel]; omega)
    omega
   ·simp only [List.size_toArray,List.length_append,List.length_take,List.length_drop,Array.length_toList]
    rw [hs]; omega
   ·refine Qet (fun j u hu=>?_) hstep.ext
    have hj:j < xs.length - 1:=by
     have:=(List.getElem?_eq_some_iff.1 hu).1; omega
    rw [List.getElem?_eraseIdx] at hu
    by_cases c:j < l
    ·rw [if_pos c] at hu
     obtain ⟨ecs,e1,e2⟩:=s4 j u hu
     refine ⟨ecs,fun t v hv=>?_,e2⟩
     have ht:t < sz:=by
      have:=(List.getElem?_eq_some_iff.1 hv).1
      rw [Rep.len e2,hs] at this; exact this
     have hjl:(j+1)*sz<=l*sz:=Nat.mul_le_mul_right _ c
     rw [Nat.add_mul] at hjl
     have:=e1 t v hv
     rw [hs] at this ⊢
     simp only [List.getElem?_toArray,List.append_assoc]
     rw [List.getElem?_append_left (by simp; omega),List.getElem?_take,if_pos (by omega)]
     simpa using this
    ·rw [if_neg c] at hu
     obtain ⟨ecs,e1,e2⟩:=s4 (j+1) u hu
     refine ⟨ecs,fun t v hv=>?_,e2⟩
     have ht:t < sz:=by
      have:=(List.getElem?_eq_some_iff.1 hv).1
      rw [Rep.len e2,hs] at this; exact this
     have hg:=e1 t v hv
     rw [hs] at hg ⊢
     have hjl:l*sz<=j*sz:=Nat.mul_le_mul_right _ (by omega)
     have hjn:(j+1)*sz<=(xs.length - 1)*sz:=Nat.mul_le_mul_right _ (by omega)
     rw [Nat.sub_mul] at hjn
     rw [Nat.add_mul] at hjn hln hg
     have hfl2:fl.length=xs.length*sz - (l*sz+sz):=by rw [hfl,Nat.sub_mul,Nat.add_mul]; omega
     simp only [List.getElem?_toArray,List.append_assoc]
     rw [List.getElem?_append_right (by simp; omega)]
     simp only [List.length_take,Array.length_toList]
     rw [Nat.min_eq_left (by omega),List.getElem?_append_left (by omega)]
     have hfg:fl[off+j*sz+t - (off+l*sz)]? = cells[off+(l+1)*sz+(off+j*sz+t - (off+l*sz))]?:=by
      simp only [fl]
      rw [List.getElem?_take,if_pos (by rw [<- hfl]; omega),List.getElem?_drop,Array.getElem?_toList]
     rw [hfg,<- hg]
     congr 1
     rw [Nat.add_mul]; omega
end
end Go.SL
namespace Go.SL
open Go Go.WideShapes Go.ChangeShapes Go.RowKit
section
variable {H:Type} {enc:TypeId×Value->H} {P:Program} {w:World}
theorem Qll {α β:Type} {f:α->Option β}:∀ {l:List α} {r:List β},l.mapM f=some r->r.length=l.length/\∀ (i:Nat) (a:α),l[i]? = some a->∃ b,r[i]? = some b/\f a=some b
 | [],r,h=>by simp at h; subst h; simp
 | a :: l,r,h=>by
  simp only [List.mapM_cons] at h
  cases ha:f a with
  | none=>simp [ha] at h
  | some b=>
   simp only [ha] at h
   cases hl:l.mapM f with
   | none=>simp [hl] at h
   | some s=>
    simp [hl] at h
    subst h
    obtain ⟨h1,h2⟩:=Qll hl
    refine ⟨by simp [h1],fun i x hx=>?_⟩
    cases i with
    | zero=>simp at hx; subst hx; exact ⟨b,rfl,ha⟩
    | succ i=>simpa using h2 i x (by simpa using hx)
theorem Qmr {T e:TypeId} {n:Nat} {cs:List Value} {x:DataW H×List MemPlace} (hT:P.underlying T=some (.slice e)) (h:DataW.trod enc P w 0 (fun _=>true) true n T cs=some x) :
  (cs=[.slice none 0 0]/\x.1=.nil)\/∃ (a:Addr) (len cap m:Nat) (Qd1 rest:List (DataW H×List MemPlace)),cs=[.slice (some a) len cap]/\len<=cap/\Qd1.length=len /\
   (∀ i,i < len->∃ ecs y,Qd1[i]? = some y/\w.cells? 0 (a.add (i*P.cellsOf e)) (P.cellsOf e)=some ecs/\DataW.trod enc P w 0 (fun _=>true) true m e ecs=some y)/\x.1=.slice (Qd1.map (·.1)) (rest.map (·.1)):=by
 cases n with
 | zero=>simp [DataW.trod] at h
 | succ n=>
  unfold DataW.trod at h
  rw [hT] at h
  split at h <;> try (simp_all; done)
  ·rename_i ee heq heq2
   simp at h
   exact .inl ⟨rfl,by rw [<- h]⟩
  ·rename_i ee a len cap heq
   cases heq
   simp only at h
   split at h
   ·rename_i hc
    right
    simp only [Option.bind_eq_some_iff] at h
    obtain ⟨Qd1,h1,h2⟩:=h
    simp only [if_true,Option.map_eq_some_iff] at h2
    obtain ⟨rest,h3,rfl⟩:=h2
    obtain ⟨k1,k2⟩:=Qll h1
    refine ⟨a,len,cap,n,Qd1,rest,rfl,hc.2.1,by simpa using k1,fun i hi=>?_,rfl⟩
    obtain ⟨b,b1,b2⟩:=k2 i i (by simp [hi])
    simp only [Option.bind_eq_some_iff] at b2
    obtain ⟨ecs,b3,b4⟩:=b2
    exact ⟨ecs,b,b1,b3,b4⟩
   ·cases h
theorem QoI {a:Addr} {n:Nat} {cs:List Value} (h:w.cells? 0 a n=some cs):cs.length=n/\∀ (j:Nat) (u:Value),cs[j]? = some u->w.cell? (a.add j)=some u:=by
 unfold World.cells? at h
 rw [if_pos (Nat.zero_le _)] at h
 obtain ⟨h1,h2⟩:=Qll h
 refine ⟨by simpa using h1,fun j u hu=>?_⟩
 have hj:j < n:=by
  rcases Nat.lt_or_ge j n with h' | h'
  ·exact h'
  ·rw [List.getElem?_eq_none (by simp at h1; omega)] at hu; cases hu
 obtain ⟨b,b1,b2⟩:=h2 j j (by simp [hj])
 rw [b1] at hu; cases hu; exact b2
class RdT (P:Program) (T:TypeId) (α:Type) [Rep α]:Prop where
 rd:∀ {H:Type} {enc:TypeId×Value->H} {w:World} {n:Nat} {cs:List Value} {x:DataW H×List MemPlace},DataW.trod enc P w 0 (fun _=>true) true n T cs=some x ->
  (x.1.weights P T).all (· <= reachBytes)=true->∃ a:α,Rep.rd w (fun _=>False) cs a
theorem Qru {T:TypeId} (hT:P.underlying T=some (.int .i64)):RdT P T Int:=⟨by
 intro H enc w n cs x h _
 cases n with
 | zero=>simp [DataW.trod] at h
 | succ n=>
  unfold DataW.trod at h
  rw [hT] at h
  split at h <;> try (simp_all; done)
  rename_i k k' m heq
  cases heq
  split at h
  ·rename_i hc
   obtain ⟨rfl,hw⟩:=hc
   simp only [Lit.wf,Bool.and_eq_true,decide_eq_true_eq] at hw
   refine ⟨m,rfl,?_⟩
   unfold Qaa
   have h1:=hw
   simp [IntKind.min,IntKind.max,IntKind.bits,IntKind.signed] at h1
   omega
  ·cases h⟩
theorem Quv {T:TypeId} (hT:P.underlying T=some (.int .u64)):RdT P T (BitVec 64):=⟨by
 intro H enc w n cs x h _
 cases n with
 | zero=>simp [DataW.trod] at h
 | succ n=>
  unfold DataW.trod at h
  rw [hT] at h
  split at h <;> try (simp_all; done)
  rename_i k k' m heq
  cases heq
  split at h
  ·rename_i hc
   obtain ⟨rfl,hw⟩:=hc
   simp only [Lit.wf,Bool.and_eq_true,decide_eq_true_eq] at hw
   simp [IntKind.min,IntKind.max,IntKind.bits,IntKind.signed] at hw
   refine ⟨BitVec.ofInt 64 m,?_⟩
   show [Value.int .u64 m]=[u64 (BitVec.ofInt 64 m)]
   unfold u64
   rw [BitVec.toNat_ofInt]
   congr 2
   omega
  ·cases h⟩
theorem QnL {T e:TypeId} (hT:P.underlying T=some (.slice e)) (Qd1 rest:List (DataW H)) (hw:((DataW.slice Qd1 rest).weights P T).all (· <= reachBytes)=true) :
  (Qd1.length+rest.length)*P.bytesOf e<=reachBytes/\∀ d∈Qd1,(d.weights P e).all (· <= reachBytes)=true:=by
 simp only [DataW.weights,hT,List.all_cons,Bool.and_eq_true,decide_eq_true_eq,List.all_append] at hw
 obtain ⟨h1,h2,_⟩:=hw
 refine ⟨h1,?_⟩
 clear h1
 induction Qd1 with
 | nil=>intro d hd; cases hd
 | cons x xs ih=>
  simp only [DataW.weightsAll,List.all_append,Bool.and_eq_true] at h2
  intro d hd
  rcases List.mem_cons.1 hd with rfl | hd
  ·exact h2.1
  ·exact ih h2.2 d hd
theorem Qof {α:Type} [Rep α] {T e:TypeId} [R:RdT P e α] (hT:P.underlying T=some (.slice e)) (hs:P.cellsOf e=Rep.sz α) (hb:P.bytesOf e=Rep.bytes α) {n:Nat} {cs:List Value} {x:DataW H×List MemPlace}
  (h:DataW.trod enc P w 0 (fun _=>true) true n T cs=some x) (hw:(x.1.weights P T).all (· <= reachBytes)=true):∃ c xs,cs=[c]/\Qid (α:=α) w (fun _=>False) c xs:=by
 rcases Qmr hT h with ⟨rfl,hx⟩ | ⟨a,len,cap,m,Qd1,rest,rfl,hle,hel,hall,hx⟩
 ·exact ⟨_,[],rfl,QjM⟩
 ·rw [hx] at hw
  obtain ⟨h1,h2⟩:=QnL hT _ _ hw
  -- the data, one by one
  have key:∀ k,k<=len->∃ xs:List α,xs.length=k/\∀ (i:Nat) (y:α),xs[i]? = some y->∃ ecs,w.cells? 0 (a.add (i*P.cellsOf e)) (P.cellsOf e)=some ecs/\Rep.rd w (fun _=>False) ecs y:=by
   intro k
   induction k with
   | zero=>intro _; exact ⟨[],rfl,fun i y hy=>by simp at hy⟩
   | succ k ih=>
    intro hk
    obtain ⟨xs,l1,l2⟩:=ih (by omega)
    obtain ⟨ecs,y,e1,e2,e3⟩:=hall k (by omega)
    obtain ⟨z,hz⟩:=R.rd e3 (h2 y.1 (List.mem_map.2 ⟨y,List.mem_of_getElem? e1,rfl⟩))
    refine ⟨xs++[z],by simp [l1],fun i v hv=>?_⟩
    rcases Nat.lt_or_ge i xs.length with hi | hi
    ·rw [List.getElem?_append_left hi] at hv; exact l2 i v hv
    ·rw [List.getElem?_append_right hi] at hv
     have:i=k:=by
      rcases Nat.lt_or_ge i (k+1) with h' | h'
      ·omega
      ·rw [List.getElem?_eq_none (by simp; omega)] at hv; cases hv
     subst this
     rw [show i - xs.length=0 by omega] at hv
     simp at hv; subst hv
     exact ⟨ecs,e2,hz⟩
  obtain ⟨xs,l1,l2⟩:=key len (Nat.le_refl _)
  refine ⟨_,xs,rfl,?_,some a,cap,by rw [l1],by omega,?_⟩
  ·rw [l1,<- hb]
   simp only [List.length_map] at h1
   have:len*P.bytesOf e<=(Qd1.length+rest.length)*P.bytesOf e:=Nat.mul_le_mul_right _ (by omega)
   unfold Qdn
   unfold reachBytes at h1
   omega
  ·simp only
   cases xs with
   | nil=>exact .inl rfl
   | cons x0 xs=>
    right
    obtain ⟨ecs,c1,c2⟩:=l2 0 x0 rfl
    obtain ⟨d1,d2⟩:=QoI c1
    have hp:=Rep.pos (α:=α)
    have h0:∃ u,ecs[0]? = some u:=by rw [List.getElem?_eq_getElem (by omega)]; exact ⟨_,rfl⟩
    obtain ⟨u,hu⟩:=h0
    have hc:=d2 0 u hu
    obtain ⟨b,off,spot⟩:=a
    have hsp:spot=none:=by
     simpa [Addr.add] using World.cell?_spot hc
    subst hsp
    have hblk:∃ cells T' fz,w.heap[b]? = some (.cells cells T' fz):=by
     simp only [Qby,World.cell?] at hc
     cases hh:w.heap[b]? with
     | none=>simp [hh] at hc
     | some o=>
      cases o with
      | cells c t f=>exact ⟨c,t,f,rfl⟩
      | _=>simp [hh] at hc
    obtain ⟨cells,T',fz,hh⟩:=hblk
    refine ⟨cells,T',fz,rfl,hh,fun h=>h,fun i y hy=>?_⟩
    obtain ⟨ecs,c1,c2⟩:=l2 i y hy
    obtain ⟨d1,d2⟩:=QoI c1
    refine ⟨ecs,fun j u hu=>?_,c2⟩
    have:=d2 j u hu
    rw [Qby,Qby,hs] at this
    simpa [World.cell?,hh] using this
theorem Qhx {α:Type} [Rep α] {T e:TypeId} (R:RdT P e α) (hT:P.underlying T=some (.slice e)) (hs:P.cellsOf e=Rep.sz α) (hb:P.bytesOf e=Rep.bytes α):RdT P T (List α):=⟨by
 intro H enc w n cs x h hw
 obtain ⟨c,xs,h1,h2⟩:=Qof (R:=R) hT hs hb h hw
 exact ⟨xs,c,h1,h2⟩⟩
theorem QkU:∀ (l:List Field) (xs:List (DataW H×List MemPlace)),(DataW.weightsEach P (l.map (·.type)) (xs.map (·.1))).all (· <= reachBytes)=true->∀ (i:Nat) {f:Field} {y:DataW H×List MemPlace},l[i]? = some f->xs[i]? = some y->(y.1.weights P f.type).all (· <= reachBytes)=true
 | [],_,_,i,_,_,h,_=>by simp at h
 | _ :: _,[],_,i,_,_,_,h=>by simp at h
 | g :: l,z :: xs,hw,i,f,y,hf,hy=>by
  simp only [List.map_cons,DataW.weightsEach,List.all_append,Bool.and_eq_true] at hw
  cases i with
  | zero=>simp at hf hy; subst hf; subst hy; exact hw.1
  | succ i=>exact QkU l xs hw.2 i (by simpa using hf) (by simpa using hy)
theorem QdY {T:TypeId} {fs:Array Field} {n:Nat} {cs:List Value} {x:DataW H×List MemPlace} (hT:P.underlying T=some (.struct fs)) (h:DataW.trod enc P w 0 (fun _=>true) true n T cs=some x)
  (hw:(x.1.weights P T).all (· <= reachBytes)=true) :
  cs.length=P.cellsOf T/\∀ (i:Nat) (f:Field),fs[i]? = some f->∃ m y,DataW.trod enc P w 0 (fun _=>true) true m f.type ((cs.drop f.offset).take (P.cellsOf f.type))=some y/\(y.1.weights P f.type).all (· <= reachBytes)=true:=by
 obtain ⟨l⟩:=fs
 cases n with
 | zero=>simp [DataW.trod] at h
 | succ n=>
  unfold DataW.trod at h
  rw [hT] at h
  split at h <;> try (simp_all; done)
  rename_i fs' heq
  have e:fs'=⟨l⟩:=by simpa using heq.symm
  subst e
  split at h
  ·rename_i hc
   simp only [Option.map_eq_some_iff] at h
   obtain ⟨xs,h1,rfl⟩:=h
   obtain ⟨k1,k2⟩:=Qll h1
   refine ⟨hc,fun i f hf=>?_⟩
   have hfl:l[i]? = some f:=by simpa using hf
   obtain ⟨y,y1,y2⟩:=k2 i f hfl
   refine ⟨n,y,y2,?_⟩
   simp only [DataW.weights,hT] at hw
   exact QkU l xs hw i hfl y1
  ·cases h
theorem Qr3 {α:Type} [Rep α] {T e:TypeId} (R:RdT P T (List α)) (hT:P.underlying T=some (.slice e)) {v:Value} {d:DataW H} {p:List MemPlace} {base:Nat} (hok:Value.okWide P w .any base T v)
  (ht:DataW.Trod enc P w 0 (fun _=>true) true T v d p) (hw:(d.weights P T).all (· <= reachBytes)=true):∃ (x:List α) (a:Option Addr) (k:Nat),v=.slice a x.length k/\∀ F,(sl v x).h w (fun _=>False) F:=by
 obtain ⟨a,len,cap,rfl⟩:=okWide_slice hT hok
 obtain ⟨n,ht⟩:=ht
 obtain ⟨x,c,e,h⟩:=R.rd ht hw
 have e:c=.slice a len cap:=by simpa [Value.cells] using e.symm
 subst e
 have h':=h
 obtain ⟨_,a',k',e',_⟩:=h'
 refine ⟨x,a',k',e',fun F=>h⟩
theorem Qrv {T:TypeId} (hT:P.underlying T=some (.int .i64)) {v:Value} {d:DataW H} {p:List MemPlace} {base:Nat} (hok:Value.okWide P w .any base T v)
  (ht:DataW.Trod enc P w 0 (fun _=>true) true T v d p) (hw:(d.weights P T).all (· <= reachBytes)=true):∃ x:Int,v=.int .i64 x/\Qaa x:=by
 obtain ⟨m,rfl⟩:=okWide_int hT hok
 obtain ⟨n,ht⟩:=ht
 obtain ⟨x,e,h⟩:=(Qru hT).rd ht hw
 have e:m=x:=by simpa [Value.cells] using e
 subst e
 exact ⟨m,rfl,h⟩
theorem Qqs {α:Type} [Rep α] {T:TypeId} {fs:Array Field} (R:RdT P T α) (hT:P.underlying T=some (.struct fs)) {v:Value} {d:DataW H} {p:List MemPlace} {base:Nat} (hok:Value.okWide P w .any base T v)
  (ht:DataW.Trod enc P w 0 (fun _=>true) true T v d p) (hw:(d.weights P T).all (· <= reachBytes)=true):∃ (x:α) (cs:List Value),v=.agg cs.toArray/\Rep.rd w (fun _=>False) cs x:=by
 obtain ⟨cs,rfl,_⟩:=okWide_struct hT hok
 obtain ⟨n,ht⟩:=ht
 obtain ⟨x,h⟩:=R.rd ht hw
 exact ⟨x,cs.toList,by simp,by simpa [Value.cells] using h⟩
theorem Qlh {R:SP} {A:List SP} {M F:Blk} (hp:R.p=true) (h:∀ F,R.h w M F) (hA:QaI A w M F):QaI (R :: A) w M F:=
 ⟨fun _=>False,F,fun _ h=>h.elim,fun _ h=>h,fun _ h _=>h,h _,hA⟩
theorem Qtn {M F:Blk}:QaI [] w M F:=trivial
theorem Qlv {α:Type} [Rep α] {M:Blk} {c:Value} {x:List α} (h:Qid w M c x):∃ a k,c=.slice a x.length k/\∀ F,(sl c x).h w M F:=by
 have h':=h
 obtain ⟨_,a,k,e,_⟩:=h'
 exact ⟨a,k,e,fun F=>h⟩
theorem Qkb (hl:laidOutB P=true) {W W':World} (hb:Below W.heap.size W W') {sp:Nat->Bool}:∀ {ts:List TypeId} {vs:List Value} {ds:List (DataW H)} {ps:List MemPlace},ts.all (fun t=>P.readableRec t && decide (t < P.types.size))=true ->
  DataW.TrodAll enc P W 0 (fun _=>true) true ts vs ds ps->(∀ p∈ps,p.block < W.heap.size)->(∀ p∈ps,sp p.block=true)->DataW.TrodAll enc P W' 0 sp true ts vs ds ps
 | [],vs,ds,ps,_,h,_,_=>by
  obtain ⟨rfl,rfl,rfl⟩:=trodAll_nil h
  exact rfl
 | t :: ts,vs,ds,ps,hr,h,hlt,hsp=>by
  obtain ⟨v,vs1,d,ds1,p,q,rfl,rfl,rfl,h1,h2⟩:=trodAll_cons h
  simp only [List.all_cons,Bool.and_eq_true,decide_eq_true_eq] at hr
  exact ⟨p,q,WideElems.Trod_stays hl hr.1.1 hr.1.2 h1 (fun x hx=>hb.same (hlt x (by simp [hx]))) (fun x hx=>hsp x (by simp [hx])),
   Qkb hl hb (by simpa using hr.2) h2 (fun x hx=>hlt x (by simp [hx])) (fun x hx=>hsp x (by simp [hx])),rfl⟩
theorem Qnd {W W':World} {M' F':Blk} (h:Qew W (fun _=>False) (fun _=>False) W' M' F'):Below W.heap.size W W':=
 ⟨h.ext.os,h.ext.tape,h.ext.out,h.ext.size,fun k hk=>(h.ext.old k hk (fun h=>h)).2⟩
theorem QsX (w:World):Ok w (fun _=>False) (fun _=>False):=⟨fun _ h=>h.elim,fun _ h=>h⟩
structure Qr9 (s:ChangeSpec) (n:Nat):Prop where
 vars:s.vars=[]
 fn:∀ (H:Type) (ds:List (DataW H)),ds.length=n->s.fn H ds={ results:=[.lit (.bool true)],args:=ds }
theorem Qjh:∀ {ts:List TypeId} {vs:List Value} {ds:List (DataW H)} {ps:List MemPlace},DataW.TrodAll enc P w 0 (fun _=>true) true ts vs ds ps->ds.length=ts.length
 | [],vs,ds,ps,h=>by obtain ⟨rfl,rfl,rfl⟩:=trodAll_nil h; rfl
 | t :: ts,vs,ds,ps,h=>by
  obtain ⟨v,vs1,d,ds1,p,q,rfl,rfl,rfl,h1,h2⟩:=trodAll_cons h
  simp [Qjh h2]
theorem Qtw {f:Func} {s:ChangeSpec} {tb:TypeId} (hs:Qr9 s f.params.size) (hl:laidOutB P=true) (hr:f.params.toList.all (fun t=>P.readableRec t && decide (t < P.types.size))=true)
  (hres:f.resultTypes=#[tb]) (htb:P.underlying tb=some .bool) {apart fresh handsOn:Bool} {W W':World} {args:Array Value} {ds gs:List (DataW H)} {before:List MemPlace}
  (hW:DataW.Whole enc P f.params.toList s.vars apart W args.toList ds gs before) (hb:Below W.heap.size W W'):s.post enc P f apart fresh handsOn false W args (.bool true) W':=by
 have hlt:=hW.lt
 have hW0:=hW
 obtain ⟨p,q,hA,hV,rfl,hz,hn⟩:=hW0
 have hV0:=hV
 rw [hs.vars] at hV0
 obtain ⟨rfl,rfl⟩:=trodVars_none hV0
 have hfn:=hs.fn H ds (by rw [Qjh hA]; simp)
 have hlt':∀ x∈p,x.block < W.heap.size:=fun x hx=>hlt x (by simp [hx])
 refine ⟨ds,[],p++[],[],p,[],hW,?_,?_,?_,hb.frame _,fun h=>(by cases h)⟩
 ·rw [List.append_nil,hfn,hres]
  refine ⟨[],[],⟨1,?_⟩,rfl,rfl⟩
  simp [DataW.trod,htb,Value.cells]
 ·rw [List.append_nil,hfn]
  exact Qkb hl hb hr hA hlt' (fun x hx=>by simpa using hlt' x hx)
 ·rw [List.append_nil,hfn,hs.vars]
  rfl
theorem QvM {f:Func} {s:ChangeSpec} {c:OpenClaim} (hlaid:c.laid=[]) (hd:c.domain=[]):(fun (w:World) (args:Array Value)=>(s.pre enc P f [] c.apart w args/\True)/\sizedMet enc P f (OpenSpec.ofChange s) c.apart w args)=c.pre enc P f (OpenSpec.ofChange s):=by
 funext w args
 unfold OpenClaim.pre OpenClaim.preLaid
 rw [hlaid,hd,and_true]
 rfl
end
theorem QqQ {P:Program} {f:FuncId} {fn:Func} {s:ChangeSpec} {c:OpenClaim} (hwf:c.wf (OpenSpec.ofChange s)=true) (hlaid:laidOutB P=true) (hmaps:mapsRowed P=true)
  (hpar:(fn.params.all (P.readableRec ·) && namedTie P c.named s.vars)=true) (hst:((c.stops == []) && (P.stops == []) && (c.knobs == []) && (P.stopKnobs == []))=true)
  (hi:(c.inPlace == P.inPlace f)=true) (hu:(c.unfollowed == P.unfollowed f)=true) (hr:(c.recurses == P.recurses f)=true) (hn:(c.named == P.varsNamed f)=true)
  (hm:((c.maps == (fn.params.toList++s.plain.varTypes P).any (P.mapsRec ·)) && (c.ifaces == (fn.params.toList++s.plain.varTypes P).any (P.ifacesRec ·)) && (c.mapsOut == P.mapsAmong fn.resultTypes.toList) &&
   (c.loops == (fn.params.toList++s.plain.varTypes P).any (P.loopsFrom ·)) && (c.wideKeys == (fn.params.toList++s.plain.varTypes P++fn.resultTypes.toList).any (P.wideKeysFrom ·)))=true)
  (hv:(s.vars.all (P.varReadable ·) && fn.resultTypes.all (fun t=>P.readableRec t && decide (t < P.types.size)) && (c.ifacesOut == fn.resultTypes.toList.any (P.ifacesRec ·)) && (c.loopsOut == fn.resultTypes.toList.any (P.loopsFrom ·)))=true)
  (hp:(c.plainKeys == P.plainKeys)=true) (hs:c.shortTexts.isNone=true) (hh:P.stopsHeard=true) (hy:P.mayEnter=true) (hl:(c.lifted == P.liftsFinal)=true) (hk:(P.make == some c.make)=true)
  (hd:((c.kinds == (if c.domain.isEmpty then [] else fn.params.toList.map fun t=>match P.underlying t with | some (.int k)=>some k | _=>none)) && (c.pinned == c.pinnedBy) &&
   (c.veiled == (fn.params.toList++s.plain.varTypes P++fn.resultTypes.toList).any (P.veiledRec ·)) && c.veiledFits P fn.params.toList (fn.params.toList++s.plain.varTypes P++fn.resultTypes.toList))=true):joinedFacts P f fn s c=true:=by
 simp only [Bool.and_eq_true] at hpar hst hm hv hd
 unfold joinedFacts
 simp only [Bool.and_eq_true]
 repeat' refine And.intro ?_ ?_
 all_goals first | exact hwf | exact hlaid | exact hmaps | exact hpar.1 | exact hpar.2 | exact hst.1.1.1 | exact hst.1.1.2 | exact hst.1.2 | exact hst.2 | exact hi | exact hu | exact hr | exact hn | exact hm.1.1.1.1 | exact hm.1.1.1.2 | exact hm.1.1.2 | exact hm.1.2 | exact hm.2 | exact hv.1.1.1 | exact hv.1.1.2 | exact hv.1.2 | exact hv.2 | exact hp | exact hs | exact hh | exact hy | exact hl | exact hk | exact hd.1.1.1 | exact hd.1.1.2 | exact hd.1.2 | exact hd.2
theorem Qq1 {p:Pinned} {s:ChangeSpec} {c:OpenClaim} (f:FuncId) (fn:Func) {tb:TypeId}
  (hn:c.program=p.name) (hsm:c.sum=p.sum) (hsp:c.spec=s.name)
  (hstart:c.start=.entering) (hout:c.outside=[]) (hin:c.inits=[]) (hun:c.under=none) (hi4:c.initsInPlace=[]/\c.initsUnfollowed=false/\c.initsRecurse=false/\c.initsNamed=[]/\c.initsPassed=[]) (hnb:c.noBlocks=false) (hlv:c.leaving=false) (hfo:c.followed=none) (hnar:c.narrowed=false) (hstill:c.still=false)
  (hlaid:c.laid=[]) (hd:c.domain=[]) (hag:c.again=false) (hmod:c.assume={})
  (hfn:p.checked.prog.funcNamed c.func=some f) (hf:p.checked.prog.funcs[f]? = some fn)
  (closed:joinedFacts p.checked.prog f fn s c=true)
  (hinst:fn.isInstance p.checked.prog c.origin c.targs) (hwrap:fn.isWrapper p.checked.prog c.wrapper c.mainSum)
  (own:ownKnob p.checked.prog.godebug=none) (noInit:p.checked.prog.inits.idxOf? f=none)
  (hs:Qr9 s fn.params.size) (hl:laidOutB p.checked.prog=true) (hr:fn.params.toList.all (fun t=>p.checked.prog.readableRec t && decide (t < p.checked.prog.types.size))=true)
  (hres:fn.resultTypes=#[tb]) (htb:p.checked.prog.underlying tb=some .bool)
  (witness:∀ (os:Os),os.Started->∀ (H:Type) (enc:TypeId×Value->H),∃ (w:World) (tape:Tape) (i:Input),w.os=os/\(w.forCall tape i).Shaped p.checked.prog/\i.vars=[]/\Input.okWide p.checked.prog (w.forCall tape i) .any w.heap.size f i /\
   s.pre6 enc p.checked.prog fn [] c.apart (w.forCall tape i).memory i.args/\({}:Assume).holds p.checked.prog (lone (Frame.enter p.checked.prog f i.args .normal) [] (w.forCall tape i)))
  (walk:∀ (H:Type) (enc:TypeId×Value->H) (W:World) (base:Nat) (args:Array Value) (ds:List (DataW H)) (ps:List MemPlace),
   (∀ (j:Nat) t v,fn.params[j]? = some t->args[j]? = some v->Value.okWide p.checked.prog W .any base t v) ->
   DataW.TrodAll enc p.checked.prog W 0 (fun _=>true) true fn.params.toList args.toList ds ps ->
   (DataW.weightsEach p.checked.prog fn.params.toList ds).all (· <= reachBytes)=true ->
   ∃ (A:List SP) (γ:Type) (I:γ->Prop) (B:γ->List SP),QaI A W (fun _=>False) (fun _=>False)/\FT p.checked.prog f args A I (fun _=>.bool true) B):c.holds p (OpenSpec.ofChange s):=by
 refine OpenClaim.holds_of_wide f fn hn hsm hsp hstart hout hin hun hi4 hnb hlv hfo hnar hstill hfn hf closed hinst hwrap (fun os started H enc _=>?_)
 rw [<- QvM hlaid hd,hag,hmod]
 refine returnsInHanded_of_change_and (X:=fun _ _=>True) (conds:=[]) (fun _ _ _ _ h=>h) own started noInit hf ?_ ?_
 ·obtain ⟨w,tape,i,h1,h2,h3,h4,h5,h6⟩:=witness os started H enc
  exact ⟨w,tape,i,h1,h2,h3,h4,⟨⟨h5.1,trivial⟩,h5.2⟩,h6⟩
 ·intro W base args ds gs before hval hW hc hwt _ _
  have hW0:=hW
  obtain ⟨p',q,hA,hV,rfl,hz,hnd⟩:=hW0
  rw [hs.vars] at hV
  obtain ⟨rfl,rfl⟩:=trodVars_none hV
  have hvt:s.plain.varTypes p.checked.prog=[]:=by
   simp [DataSpec.varTypes,ChangeSpec.plain,hs.vars]
  rw [hvt,List.append_nil,List.append_nil] at hwt
  obtain ⟨A,γ,I,B,h1,h2⟩:=walk H enc W base args ds p' hval hA hwt
  refine (h2 W _ _ (QsX W) h1).mono fun e W' ⟨g,M',F',he,_,hst,_⟩=>?_
  exact ⟨_,he,Qtw hs hl hr hres htb hW (Qnd hst)⟩
end Go.SL
