/- Part 1 of the walks: the logic used by the last text of this claim. -/
import Derived.Test.YtkooljfbpbghhaaGreatDoorW0
set_option linter.unusedVariables false
set_option linter.unusedSimpArgs false
namespace Go.SL
open Go
abbrev S {α:Type} [Rep α] (a:Option Addr) (k:Nat) (xs:List α):SP:=sl (.slice a xs.length k) xs
abbrev O {α:Type} [Rep α] (a:Option Addr) (k:Nat) (xs:List α):SP:=os (.slice a xs.length k) xs
abbrev vl {α:Type} (a:Option Addr) (k:Nat) (xs:List α):Value:=.slice a xs.length k
abbrev vi (n:Int):Value:=.int .i64 n
abbrev vb (b:Bool):Value:=.bool b
theorem KW:(∀ {α:Type} (l:List α) (i:Nat) (a:α),(l.set i a).length=l.length)/\(∀ {α:Type} (a b:List α),(a++b).length=a.length+b.length)/\(∀ {α:Type} (a:α) (l:List α),(a :: l).length=l.length+1)/\(∀ {α:Type},([]:List α).length=0) /\
  (∀ {α:Type} (n:Nat) (a:α),(List.replicate n a).length=n)/\(∀ {α:Type} (n:Nat) (l:List α),(l.take n).length=min n l.length)/\(∀ {α:Type} (n:Nat) (l:List α),(l.drop n).length=l.length - n):=
 ⟨fun _ _ _=>List.length_set,fun _ _=>List.length_append,fun _ _=>List.length_cons,List.length_nil,fun _ _=>List.length_replicate,fun _ _=>List.length_take,fun _ _=>List.length_drop⟩
theorem Ag:(∀ {α:Type} (a b:α),cond true a b=a)/\(∀ {α:Type} (a b:α),cond false a b=b)/\(!true)=false/\(!false)=true:=⟨fun _ _=>rfl,fun _ _=>rfl,rfl,rfl⟩
theorem AD {p:Prop} (h:p:=by first | omega | (simp only [KW]; omega) | (simp only [KW] at *; omega)):p:=h
theorem pre {p:Prop} (h:p:=by (try dsimp only) <;> first | (unfold Af; omega) | omega | assumption | (simp only [KW] <;> omega)):p:=h
theorem Bi {p:Prop} (h:p:=by first | omega | (simp only [KW]; omega) | simp):p:=h
theorem AM {p:Prop} (h:p:=by first | omega | (simp only [KW]; omega) | assumption):p:=h
theorem q2 {α:Sort _} {a b:α} (h:a=b) (c:α) (k:a=c):b=c:=h.symm.trans k
theorem q4 {α:Sort _} {a b:α} (h:a=b) (c:α) (k:a=c):c=b:=k.symm.trans h
theorem q3 {α:Sort _} {a b c:α} (h:a=b) (k:a=c):c=b:=k.symm.trans h
theorem AP {n:Nat} (h:0 < n):∃ q,n=q+1:=⟨n - 1,by omega⟩
theorem Di {p:Prop} (h:p:=by first | omega | (simp; done) | (dsimp only; omega) | exact B0 rfl):p:=h
theorem Ad {p:Prop} (h:p:=by omega):p:=h
theorem AU {p:Prop} (h:p:=by exact Nat.le_of_ble_eq_true rfl):p:=h
theorem AR {p:Prop} (h:p:=by unfold Af; first | omega | (dsimp only; omega)):p:=h
theorem dt {p:Prop} [Decidable p] (h:decide p=true):p:=of_decide_eq_true h
theorem df {p:Prop} [Decidable p] (h:decide p=false):¬ p:=of_decide_eq_false h
theorem en {p:Prop} (h:p:=by (repeat' refine And.intro ?_ ?_) <;> (try dsimp only) <;> first | omega | (unfold Af; omega) | (simp only [KW]; omega) | assumption | trivial):p:=h
theorem et {A Ac Ar:List SP} (is:List Nat) (h:SL.take A is=some (Ac,Ar):=by exact rfl):Aj A Ac:=Aj.take h
def Jv (C:Cx) (ops:Array Oper) (L:At) (o:Oper):Prop:=o.guard=none\/∃ j dj b,o.guard=some (j,b)/\((ops[j]?).bind (·.dst))=some dj/\Nat.blt dj C.n=true/\L.get dj=some (.bool b)
theorem gn {C:Cx} {ops:Array Oper} {L:At} {o:Oper} (h:o.guard=none):Jv C ops L o:=.inl h
theorem gt {C:Cx} {ops:Array Oper} {L:At} {o:Oper} {j dj b} (h:o.guard=some (j,b)) (hj:((ops[j]?).bind (·.dst))=some dj) (hn:Nat.blt dj C.n=true) (hv:L.get dj=some (.bool b)):Jv C ops L o:=.inr ⟨j,dj,b,h,hj,hn,hv⟩
theorem KS {G G':Prop} (k:G') (m:G'->G:=by
 intro hk
 repeat first
  | with_reducible refine UD ?_
  | with_reducible refine VX ?_
  | with_reducible refine pN ?_
  | with_reducible refine U9 ?_
  | with_reducible refine Zj ?_
  | with_reducible refine Wb ?_
 exact hk):G:=m k
section
variable {C:Cx} {ks:List Kn} {L:At} {A:List SP} {ops:Array Oper} {rest:List Oper} {o:Oper} {X:Act->World->Prop}
theorem Qf (hg:Jv C ops L o) (h:JO C ops ({ o with guard:=none } :: rest) ks L A):JO C ops (o :: rest) ks L A:=by
 rcases hg with hg | ⟨j,dj,b,h1,h2,h3,h4⟩
 ·have e:({ o with guard:=none }:Oper)=o:=by obtain ⟨⟩:=o; simp_all
  rw [<- e]; exact h
 ·exact n7 h1 h2 h3 h4 h
theorem kI {d v} (hv:Ax C.P L A o v) (h:JO C ops rest ks ((d,v) :: L) A) (hg:Jv C ops L o:=by first | exact gn rfl | exact gt rfl rfl rfl rfl) (hd:o.dst=some d:=by exact rfl) (hn:Nat.blt d C.n=true:=by exact rfl):JO C ops (o :: rest) ks L A:=
 Qf hg (l4 rfl hd hn hv h)
theorem Oq {d:Nat} {op:Op} {ty:TypeId} {pos:String} {af:Array Edge} {gd:Option (Nat×Bool)} {v:Value} (hv:Ax C.P L A ⟨some d,op,ty,pos,af,gd⟩ v) (h:JO C ops rest ks ((d,v) :: L) A) (hg:Jv C ops L ⟨some d,op,ty,pos,af,gd⟩:=by first | exact gn rfl | exact gt rfl rfl rfl rfl) (hn:Nat.blt d C.n=true:=by exact rfl):JO C ops (⟨some d,op,ty,pos,af,gd⟩ :: rest) ks L A:=kI hv h hg rfl hn
theorem oP {d} {γ:Type} {V:γ->Value} {B:γ->List SP} (hv:AL C.P L A o V B) (h:∀ g,JO C ops rest ks ((d,V g) :: L) (B g)) (hg:Jv C ops L o:=by first | exact gn rfl | exact gt rfl rfl rfl rfl) (hd:o.dst=some d:=by exact rfl) (hn:Nat.blt d C.n=true:=by exact rfl):JO C ops (o :: rest) ks L A:=
 Qf hg (YC rfl hd hn hv h)
theorem Oa {d:Nat} {op:Op} {ty:TypeId} {pos:String} {af:Array Edge} {gd:Option (Nat×Bool)} {γ:Type} {V:γ->Value} {B:γ->List SP} (hv:AL C.P L A ⟨some d,op,ty,pos,af,gd⟩ V B) (h:∀ g,JO C ops rest ks ((d,V g) :: L) (B g)) (hg:Jv C ops L ⟨some d,op,ty,pos,af,gd⟩:=by first | exact gn rfl | exact gt rfl rfl rfl rfl) (hn:Nat.blt d C.n=true:=by exact rfl):JO C ops (⟨some d,op,ty,pos,af,gd⟩ :: rest) ks L A:=oP hv h hg rfl hn
theorem vW {B:List SP} (hv:AZ C.P L A o B) (h:JO C ops rest ks L B) (hg:Jv C ops L o:=by first | exact gn rfl | exact gt rfl rfl rfl rfl) (hd:o.dst=none:=by exact rfl):JO C ops (o :: rest) ks L A:=
 Qf hg (qB rfl hd hv h)
theorem AC {op:Op} {ty:TypeId} {pos:String} {af:Array Edge} {gd:Option (Nat×Bool)} {B:List SP} (hv:AZ C.P L A ⟨none,op,ty,pos,af,gd⟩ B) (h:JO C ops rest ks L B) (hg:Jv C ops L ⟨none,op,ty,pos,af,gd⟩:=by first | exact gn rfl | exact gt rfl rfl rfl rfl):JO C ops (⟨none,op,ty,pos,af,gd⟩ :: rest) ks L A:=vW hv h hg rfl
theorem Oc {d f args} {γ:Type} {I:γ->Prop} {V:γ->Value} {B:γ->List SP} {Ac Ar:List SP} {xs:Array Operand} {ts:Array TypeId} (is:List Nat) (hcal:AA C.P f=true) (hf:FT C.P f args Ac I V B)
  (h:∀ g,I g->JO C ops rest ks ((d,V g) :: L) (B g++Ar))
  (hop:o.op=.call { callee:=.value (.func f),args:=xs,argTypes:=ts }:=by exact rfl) (hx:L.evs xs.toList=some args.toList:=by exact rfl) (ht:take A is=some (Ac,Ar):=by exact rfl)
  (hg:Jv C ops L o:=by first | exact gn rfl | exact gt rfl rfl rfl rfl) (hd:o.dst=some d:=by exact rfl) (hn:Nat.blt d C.n=true:=by exact rfl):JO C ops (o :: rest) ks L A:=
 Qf hg (Fa (args:=args) is rfl hd hn (by have:=DI.fn (o:={ o with guard:=none }) hop hcal hx; rwa [show args.toList.toArray=args from rfl] at this) hf ht h)
theorem sU {d:Nat} (h:JO C ops rest ks ((d,undef) :: L) A) (hs:(o.dst=some d/\Nat.blt d C.n=true)/\∃ j dj b,o.guard=some (j,b)/\((ops[j]?).bind (·.dst))=some dj/\Nat.blt dj C.n=true/\(L.get dj=some (.bool (!b))\/L.get dj=some undef):=by first | exact ⟨⟨rfl,rfl⟩,_,_,_,rfl,rfl,rfl,.inl rfl⟩ | exact ⟨⟨rfl,rfl⟩,_,_,_,rfl,rfl,rfl,.inr rfl⟩):JO C ops (o :: rest) ks L A:=by
 obtain ⟨⟨h1,h2⟩,j,dj,b,h3,h4,h5,h6 | h6⟩:=hs
 ·exact fQ h3 h1 h2 h4 h5 h6 h
 ·exact rF h3 h1 h2 h4 h5 h6 h
theorem Ae {d:Nat} {op:Op} {ty:TypeId} {pos:String} {af:Array Edge} {gd:Option (Nat×Bool)} (h:JO C ops rest ks ((d,undef) :: L) A) (hs:Nat.blt d C.n=true/\∃ j dj b,gd=some (j,b)/\((ops[j]?).bind (·.dst))=some dj/\Nat.blt dj C.n=true/\(L.get dj=some (.bool (!b))\/L.get dj=some undef):=by first | exact ⟨rfl,_,_,_,rfl,rfl,rfl,.inl rfl⟩ | exact ⟨rfl,_,_,_,rfl,rfl,rfl,.inr rfl⟩):JO C ops (⟨some d,op,ty,pos,af,gd⟩ :: rest) ks L A:=sU h ⟨⟨rfl,hs.1⟩,hs.2⟩
theorem lC (h:∀ L' A',L'=L->A'=A->JJ C X L' A'):JJ C X L A:=h L A rfl rfl
theorem JX {G G':Prop} (k:G') (m:G'->G:=by
 intro hk;refine lC fun _ _ hL hA=>?_;dsimp only at hL hA;subst hL hA;exact hk):G:=m k
theorem Kc {c:Operand} {x y:Code} {b:Bool} (ht:b=true->JK C (.code x :: ks) L A) (hf:b=false->JK C (.code y :: ks) L A) (hc:L.ev c=some (.bool b):=by exact rfl):JK C (.code (.cond c x y) :: ks) L A:=V8 hc ht hf
theorem Kt {c:Operand} {x y:Code} (h:JK C (.code x :: ks) L A) (hc:L.ev c=some (.bool true):=by exact rfl):JK C (.code (.cond c x y) :: ks) L A:=cU hc h
theorem Kf {c:Operand} {x y:Code} (h:JK C (.code y :: ks) L A) (hc:L.ev c=some (.bool false):=by exact rfl):JK C (.code (.cond c x y) :: ks) L A:=Z9 hc h
theorem Ke {id:Nat} {ks':List Kn} (h:JK C ks' L A) (hp:LZ id ks=some ks':=by exact rfl):JK C (.code (.exit id) :: ks) L A:=fR hp h
theorem Js (t:Nat) {e:Bool} (hT:e=true->JJ C X ((t,.bool true) :: L) A) (hF:e=false->JJ C X ((t,.bool false) :: L) A) (he:L.get t=some (.bool e):=by exact rfl):JJ C X L A:=UK t he hT hF
theorem Fb {α:Type} [Rep α] {c:Value} {xs:List α} (n i:Nat) (h:xs.length*n<=140737488355328->JJ C X L A) (hA:A[i]? = some (sl c xs)\/A[i]? = some (os c xs):=by first | exact .inl rfl | exact .inr rfl) (hn:Rep.bytes α=n:=by exact rfl):JJ C X L A:=by
 subst hn;rcases hA with hA | hA
 ·exact HV i hA (fun h=>uN h) h
 ·exact HV i hA (fun h=>vO h) h
theorem Fo {c:Value} {xs:List Int} (i:Nat) (h:(∀ x∈xs,RepE.ok x)->JJ C X L A) (hA:A[i]? = some (sl c xs)\/A[i]? = some (os c xs):=by first | exact .inl rfl | exact .inr rfl):JJ C X L A:=by
 rcases hA with hA | hA
 ·exact HV i hA ZE h
 ·exact HV i hA bJ h
theorem Fl {α:Type} [Rep α] {a:Option Addr} {n k:Nat} {xs:List α} (i:Nat) (h:xs.length=n->JJ C X L A) (hA:A[i]? = some (sl (.slice a n k) xs)\/A[i]? = some (os (.slice a n k) xs):=by first | exact .inl rfl | exact .inr rfl):JJ C X L A:=by
 rcases hA with hA | hA
 ·exact HV i hA (fun h=>u7 h) h
 ·exact HV i hA (fun h=>vR h) h
def OO (R:SP) (c:Value) (n:Nat):Prop:=∀ {w M F},R.h w M F->∃ a k,c=.slice a n k
theorem d7 {α:Type} [Rep α] (c:Value) (xs:List α):OO (sl c xs) c xs.length:=fun h=>QQ h
theorem SX {α:Type} [Rep α] (c:Value) (xs:List α):OO (os c xs) c xs.length:=fun h=>VM h
theorem UR (c:Value) (n:Nat) (cs:List Value):OO (Cr c n cs) c n:=fun h=>u6 h
theorem Jo {R:SP} {c:Value} {n:Nat} (i:Nat) (h:∀ a k,c=.slice a n k->JJ C X L A) (hA:A[i]? = some R:=by exact rfl) (hR:OO R c n:=by first | exact d7 _ _ | exact SX _ _ | exact UR _ _ _ | exact kL _ _):JJ C X L A:=nL i hA (fun h=>hR h) h
theorem Jl {Ac Ar B:List SP} (is:List Nat) (e:Aj Ac B) (h:JJ C X L (B++Ar)) (ht:take A is=some (Ac,Ar):=by exact rfl):JJ C X L A:=jH is ht e h
theorem Jp {R:SP} {p:Value} (i:Nat) (h:OD p->JJ C X L (SP.fact (OD p) :: A)) (hA:A[i]? = some R:=by exact rfl) (hR:∀ {w M F},R.h w M F->OD p:=by first | exact kS | exact tU):JJ C X L A:=HV i hA hR (fun hp=>pQ hp (h hp))
def Zd (A:List SP):List Nat->Option (List SP)
 | []=>some []
 | i :: is=>match A[i]?,Zd A is with
  | some R,some l=>some (R :: l)
  | _,_=>none
theorem Bq {κ:Nat->Option Nat} {G:GV} {N:List TS} (L':At) (is:List Nat) (new:List SP) {Ak:List SP} (h:JJ C X L' (Ak++new)) (hk:Zd A is=some Ak:=by exact rfl) (hL:L'.map (fun p=>L.get p.1)=L'.map (fun p=>some p.2):=by kernel_rfl) (hA:N5 κ G 0 (T0 A++N)=Ak++new:=by kernel_rfl):JJ C X L (N5 κ G 0 (T0 A++N)):=QK (At.sub_all hL) (Aj.of_eq hA) h
theorem Jk (is:List Nat) {Ac Ar:List SP} (h:JJ C X L Ac) (ht:take A is=some (Ac,Ar):=by exact rfl):JJ C X L A:=d6 is ht h
theorem Jf {φ:Prop} (k:Nat) (hA:A[k]? = some (SP.fact φ)) (h:φ->JJ C X L A):JJ C X L A:=HV k hA (fun h=>h) h
structure LI where
 L:At
 A:List SP
 I:Prop
 n:Nat
theorem Kl {γ:Type} {c:Code} (F:γ->LI) (g0:γ) (is:List Nat) {Ar:List SP} (hI:(F g0).I)
  (round:∀ g,(F g).I->JK C (.code c :: .goal (fun a w=>∃ g' M F',(F g').I/\(F g').n < (F g).n/\St C (F g').L (F g').A a w M F') :: ks) (F g).L (F g).A)
  (hL:At.sub (F g0).L L:=by exact At.sub_all rfl) (hA:take A is=some ((F g0).A,Ar):=by exact rfl):JK C (.code (.loop c) :: ks) L A:=
 t8 (fun g=>(F g).L) (fun g=>(F g).A) (fun g=>(F g).I) (fun g=>(F g).n) g0 hI hL (Aj.take hA) round
theorem Kg {γ:Type} {F:γ->LI} {m:Nat} (g':γ) (is:List Nat) {Ar:List SP} (hI:(F g').I) (hm:(F g').n < m:=by exact Nat.lt_succ_self _) (hL:At.sub (F g').L L:=by exact At.sub_all rfl) (hA:take A is=some ((F g').A,Ar):=by exact rfl) :
  JK C (.goal (fun a w=>∃ g' M F',(F g').I/\(F g').n < m/\St C (F g').L (F g').A a w M F') :: ks) L A:=
 eZ (IL:=fun g=>(F g).L) (IA:=fun g=>(F g).A) (I:=fun g=>(F g).I) (m:=fun g=>(F g).n < m) g' hI hm hL (Aj.take hA)
end
theorem AG {P:Program} {f:FuncId} {fn:Func} {c:Code} {args:List Value} {A:List SP} {γ:Type} {I:γ->Prop} {V:γ->Value} {B:γ->List SP} (hf:P.funcs[f]? = some fn) (h:∀ w0 M0 F0,JK (cx P fn w0 M0 F0 I V B) [.code c] (Ph 0 args) A) (hb:fn.body=some c:=by exact rfl) (hn:Nat.ble args.length fn.ntmps=true:=by exact rfl):FT P f args.toArray A I V B:=vS hf hb hn h
section
variable {P:Program} {fn:Func} {w0:World} {M0 F0:Ba} {γ:Type} {I:γ->Prop} {V:γ->Value} {B:γ->List SP} {ks:List Kn} {L:At} {A:List SP}
theorem Kr {rs vs} {Ar:List SP} (g:γ) (hr:fn.results=rs.toArray) (h:G3 P L A rs vs) (is:List Nat) (hI:I g) (hV:V g=Nz vs:=by exact rfl) (hE:take A is=some (B g,Ar):=by exact rfl):JK (cx P fn w0 M0 F0 I V B) (.code .ret :: ks) L A:=sS g hr h hV hI (Aj.take hE)
theorem KU {I:Unit->Prop} {V:Unit->Value} {B:Unit->List SP} {t v} {Ar:List SP} (is:List Nat) (hI:I ()) (hr:fn.results=[ResultVar.tmp t].toArray:=by exact rfl) (h:L.get t=some v:=by exact rfl) (hV:V ()=Nz [v]:=by exact rfl) (hE:take A is=some (B (),Ar):=by exact rfl):JK (cx P fn w0 M0 F0 I V B) (.code .ret :: ks) L A:=Kr () hr (.tmp h .nil) is hI hV hE
theorem Kz {rs vs} {Ar:List SP} (g:γ) (hr:fn.results=rs.toArray) (h:G3 P L A rs vs) (is:List Nat) (hI:I g) (hV:V g=Nz vs:=by exact rfl) (hE:take A is=some (B g,Ar):=by exact rfl):JK (cx P fn w0 M0 F0 I V B) [] L A:=eC g hr h hV hI (Aj.take hE)
end
section
variable {P:Program} {L:At} {A:List SP} {o:Oper}
theorem Vm {x v} (hop:o.op=.move x:=by exact rfl) (hx:L.ev x=some v:=by exact rfl):Ax P L A o v:=Ax.move hop hx
theorem Va {x v} (hop:o.op=.assign x:=by exact rfl) (hx:L.ev x=some v:=by exact rfl):Ax P L A o v:=Ax.assign hop hx
theorem As {c x y v} (hop:o.op=.pick c x y:=by exact rfl) (hc:L.ev c=some (.bool true):=by exact rfl) (hx:L.ev x=some v:=by exact rfl):Ax P L A o v:=Ax.pickT hop hc hx
theorem Au {c x y v} (hop:o.op=.pick c x y:=by exact rfl) (hc:L.ev c=some (.bool false):=by exact rfl) (hx:L.ev y=some v:=by exact rfl):Ax P L A o v:=Ax.pickF hop hc hx
theorem AH {T x y yt k a b} (hop:o.op=.binOp .eql T x y yt:=by exact rfl) (hx:L.ev x=some (.int k a):=by exact rfl) (hy:L.ev y=some (.int k b):=by exact rfl):Ax P L A o (.bool (a == b)):=Ax.eql hop hx hy
theorem Cc {T x y yt k a b} (hop:o.op=.binOp .neq T x y yt:=by exact rfl) (hx:L.ev x=some (.int k a):=by exact rfl) (hy:L.ev y=some (.int k b):=by exact rfl):Ax P L A o (.bool (a != b)):=Ax.neq hop hx hy
theorem AF {T x y yt k a b} (hop:o.op=.binOp .lss T x y yt:=by exact rfl) (hx:L.ev x=some (.int k a):=by exact rfl) (hy:L.ev y=some (.int k b):=by exact rfl):Ax P L A o (.bool (decide (a < b))):=Ax.lss hop hx hy
theorem FC {T x y yt k a b} (hop:o.op=.binOp .leq T x y yt:=by exact rfl) (hx:L.ev x=some (.int k a):=by exact rfl) (hy:L.ev y=some (.int k b):=by exact rfl):Ax P L A o (.bool (decide (a<=b))):=Ax.leq hop hx hy
theorem B3 {T x y yt k a b} (hop:o.op=.binOp .gtr T x y yt:=by exact rfl) (hx:L.ev x=some (.int k a):=by exact rfl) (hy:L.ev y=some (.int k b):=by exact rfl):Ax P L A o (.bool (decide (b < a))):=Ax.gtr hop hx hy
theorem BA {T x y yt k a b} (hop:o.op=.binOp .geq T x y yt:=by exact rfl) (hx:L.ev x=some (.int k a):=by exact rfl) (hy:L.ev y=some (.int k b):=by exact rfl):Ax P L A o (.bool (decide (b<=a))):=Ax.geq hop hx hy
theorem Ay {T x y yt a b} (hop:o.op=.binOp .add T x y yt:=by exact rfl) (hx:L.ev x=some (.int .i64 a):=by exact rfl) (hy:L.ev y=some (.int .i64 b):=by exact rfl) (h:Af (a+b):=by unfold Af; first | omega | (dsimp only; omega)):Ax P L A o (.int .i64 (a+b)):=Ax.add hop hx hy h
theorem Et {T x y yt a b} (hop:o.op=.binOp .sub T x y yt:=by exact rfl) (hx:L.ev x=some (.int .i64 a):=by exact rfl) (hy:L.ev y=some (.int .i64 b):=by exact rfl) (h:Af (a - b):=by unfold Af; first | omega | (dsimp only; omega)):Ax P L A o (.int .i64 (a - b)):=Ax.sub hop hx hy h
theorem Lg {T x y yt a b} (hop:o.op=.binOp .mul T x y yt:=by exact rfl) (hx:L.ev x=some (.int .i64 a):=by exact rfl) (hy:L.ev y=some (.int .i64 b):=by exact rfl) (h:Af (a*b):=by unfold Af; omega):Ax P L A o (.int .i64 (a*b)):=Ax.mul hop hx hy h
theorem IH {T x y yt a b} (hop:o.op=.binOp .quo T x y yt:=by exact rfl) (hx:L.ev x=some (.int .i64 a):=by exact rfl) (hy:L.ev y=some (.int .i64 b):=by exact rfl) (h:0<=a/\a<=9223372036854775807/\1<=b:=by omega):Ax P L A o (.int .i64 (a / b)):=Ax.quo hop hx hy h
theorem K6 {T x y yt a b} (hop:o.op=.binOp .rem T x y yt:=by exact rfl) (hx:L.ev x=some (.int .i64 a):=by exact rfl) (hy:L.ev y=some (.int .i64 b):=by exact rfl) (h:0<=a/\1<=b:=by omega):Ax P L A o (.int .i64 (a % b)):=Ax.rem hop hx hy h
theorem XF {T x y yt a b} (hT:P.underlying T=some .bool) (hop:o.op=.binOp .neq T x y yt:=by exact rfl) (hx:L.ev x=some (.bool a):=by exact rfl) (hy:L.ev y=some (.bool b):=by exact rfl):Ax P L A o (.bool (!(a == b))):=Ax.neqB hop hT hx hy
theorem O8 {T x y yt} {a b:BitVec 64} (hop:o.op=.binOp .and T x y yt:=by exact rfl) (hx:L.ev x=some (u64 a):=by exact rfl) (hy:L.ev y=some (u64 b):=by exact rfl):Ax P L A o (u64 (a &&& b)):=Ax.andU hop hx hy
theorem Xv {T x y yt} {a b:BitVec 64} (hop:o.op=.binOp .or T x y yt:=by exact rfl) (hx:L.ev x=some (u64 a):=by exact rfl) (hy:L.ev y=some (u64 b):=by exact rfl):Ax P L A o (u64 (a ||| b)):=Ax.orU hop hx hy
theorem S2 {T x y yt} {a b:BitVec 64} (h:b≠0) (hop:o.op=.binOp .rem T x y yt:=by exact rfl) (hx:L.ev x=some (u64 a):=by exact rfl) (hy:L.ev y=some (u64 b):=by exact rfl):Ax P L A o (u64 (a % b)):=Ax.remU hop hx hy h
theorem Q4 {T x y yt} {a b:BitVec 64} (hop:o.op=.binOp .eql T x y yt:=by exact rfl) (hx:L.ev x=some (u64 a):=by exact rfl) (hy:L.ev y=some (u64 b):=by exact rfl):Ax P L A o (.bool (a == b)):=Ax.eqlU hop hx hy
theorem gD {T x y yt} {a b:BitVec 64} (hop:o.op=.binOp .neq T x y yt:=by exact rfl) (hx:L.ev x=some (u64 a):=by exact rfl) (hy:L.ev y=some (u64 b):=by exact rfl):Ax P L A o (.bool (a != b)):=Ax.neqU hop hx hy
theorem T7 {T x y yt} {k:IntKind} {a:BitVec 64} {n:Int} (hop:o.op=.binOp .shl T x y yt:=by exact rfl) (hx:L.ev x=some (u64 a):=by exact rfl) (hy:L.ev y=some (.int k n):=by exact rfl) (h:0<=n:=by omega):Ax P L A o (u64 (a <<< n.toNat)):=Ax.shlU hop hx hy h
theorem R3 {T x y yt} {k:IntKind} {a:BitVec 64} {n:Int} (hop:o.op=.binOp .shr T x y yt:=by exact rfl) (hx:L.ev x=some (u64 a):=by exact rfl) (hy:L.ev y=some (.int k n):=by exact rfl) (h:0<=n:=by omega):Ax P L A o (u64 (a >>> n.toNat)):=Ax.shrU hop hx hy h
theorem Bh {T x b} (hop:o.op=.unOp .not T x:=by exact rfl) (hx:L.ev x=some (.bool b):=by exact rfl):Ax P L A o (.bool (!b)):=Ax.not hop hx
theorem MW {s d x n} (hs:P.underlying s=some (.int .i64)) (hd:P.underlying d=some (.int .u64)) (hop:o.op=.convert s d x:=by exact rfl) (hx:L.ev x=some (.int .i64 n):=by exact rfl):Ax P L A o (u64 (BitVec.ofInt 64 n)):=Ax.convU hop hs hd hx
theorem kX {s d x b} (hs:P.underlying s=some (.int .u64)) (hd:P.underlying d=some (.int .i64)) (hop:o.op=.convert s d x:=by exact rfl) (hx:L.ev x=some (u64 b):=by exact rfl) (h:(b.toNat:Int)<=9223372036854775807:=by omega):Ax P L A o (.int .i64 (b.toNat:Int)):=Ax.convI hop hs hd hx h
theorem Vx {t i vs v} (hop:o.op=.extract t i:=by exact rfl) (hx:L.ev t=some (.tuple vs):=by exact rfl) (hv:vs[i]? = some v:=by exact rfl):Ax P L A o v:=Ax.extract hop hx hv
theorem AB {x T a n k} {e m by_} (hT:Bw P T=some (e,m,by_)) (hop:o.op=.call { callee:=.builtin .len,args:=#[x],argTypes:=#[T] }:=by exact rfl) (hx:L.ev x=some (.slice a n k):=by exact rfl):Ax P L A o (.int .i64 n):=Ax.len hop hx hT
theorem Vf {fn:Fn} {xs ys:Array Operand} (ws:List Value) (hop:o.op=.makeFunc fn xs ys:=by exact rfl) (hx:∀ ρ:Operand->Value,(∀ x u,L.ev x=some u->ρ x=u)->xs.map ρ=#[]/\ys.map ρ=ws.toArray:=by exact fun ρ hρ=>⟨by simp,i4 hρ rfl⟩):Ax P L A o (.func fn #[] ws.toArray):=Ax.makeFunc hop hx
theorem Vn {x p R} (i:Nat) (hop:o.op=.nilCheck x:=by exact rfl) (hx:L.ev x=some p:=by exact rfl) (hA:A[i]? = some R:=by exact rfl) (hp:H4 R p:=by first | exact Wn _ _ | exact V9 _ _ | exact PS _ _ _ _ | exact T6 _ _ _ _ _ _ | exact Vl _ _ _ _ _ _ | exact Ui _ | exact Ud _ _ _ _):Ax P L A o p:=Ax.nilCheck hop hx hA hp
theorem Ah {S_ x f p R off} (hS:B1 P S_ f=some off) (i:Nat) (hop:o.op=.fieldAddr S_ x f:=by exact rfl) (hx:L.ev x=some p:=by exact rfl) (hA:A[i]? = some R:=by exact rfl) (hp:H4 R p:=by first | exact Wn _ _ | exact V9 _ _ | exact PS _ _ _ _ | exact T6 _ _ _ _ _ _ | exact Vl _ _ _ _ _ _ | exact Ui _ | exact Ud _ _ _ _):Ax P L A o (DP p off):=Ax.fieldAddr hop hx hS hA hp
theorem Hi {S_ x f p n R off} (hS:B1 P S_ f=some off) (i:Nat) (hop:o.op=.fieldAddr S_ x f:=by exact rfl) (hx:L.ev x=some (DP p n):=by exact rfl) (hA:A[i]? = some R:=by exact rfl) (hp:H4 R p:=by first | exact Wn _ _ | exact V9 _ _ | exact PS _ _ _ _ | exact T6 _ _ _ _ _ _ | exact Vl _ _ _ _ _ _ | exact Ui _ | exact Ud _ _ _ _):Ax P L A o (DP p (n+off)):=Ax.fieldAddrF hop hx hS hA hp
theorem CN {T x p n R cs v} (hT:Bm P T=some (false,n)) (i:Nat) (hop:o.op=.load T x:=by exact rfl) (hx:L.ev x=some p:=by exact rfl) (hA:A[i]? = some R:=by exact rfl) (hR:Fy R p cs:=by first | exact Qw _ _ | exact Bl _ _ | exact Pv _ _ _ _ | exact RV _ _ _ _ _ _ | exact Sx _ _ _ _ _ _ | exact QM _ _ _ _) (hv:cs[0]? = some v:=by exact rfl):Ax P L A o v:=Ax.load hop hx hT hA hR hv
theorem Ai {T x p m n R cs v} (hT:Bm P T=some (false,n)) (i:Nat) (hop:o.op=.load T x:=by exact rfl) (hx:L.ev x=some (DP p m):=by exact rfl) (hA:A[i]? = some R:=by exact rfl) (hR:Fy R p cs:=by first | exact Qw _ _ | exact Bl _ _ | exact Pv _ _ _ _ | exact RV _ _ _ _ _ _ | exact Sx _ _ _ _ _ _ | exact QM _ _ _ _) (hv:cs[m]? = some v:=by exact rfl):Ax P L A o v:=Ax.loadF hop hx hT hA hR hv
theorem Aq {T x p n R cs} (hT:Bm P T=some (true,n)) (i:Nat) (hop:o.op=.load T x:=by exact rfl) (hx:L.ev x=some p:=by exact rfl) (hA:A[i]? = some R:=by exact rfl) (hR:Fy R p cs:=by first | exact Qw _ _ | exact Bl _ _ | exact Pv _ _ _ _ | exact RV _ _ _ _ _ _ | exact Sx _ _ _ _ _ _ | exact QM _ _ _ _) (hn:cs.length=n:=by exact rfl):Ax P L A o (.agg cs.toArray):=Ax.loadA hop hx hT hA hR hn
theorem FD {T x p m n R cs} (hT:Bm P T=some (true,n)) (i:Nat) (ds:List Value) (hop:o.op=.load T x:=by exact rfl) (hx:L.ev x=some (DP p m):=by exact rfl) (hA:A[i]? = some R:=by exact rfl) (hR:Fy R p cs:=by first | exact Qw _ _ | exact Bl _ _ | exact Pv _ _ _ _ | exact RV _ _ _ _ _ _ | exact Sx _ _ _ _ _ _ | exact QM _ _ _ _) (hn:ds.length=n:=by exact rfl) (hd:(cs.drop m).take n=ds:=by exact rfl):Ax P L A o (.agg ds.toArray):=Ax.loadAF ds hop hx hT hA hR hn hd
theorem DN {T x n c j} {xs:List Int} (hT:Bm P T=some (false,n)) (i:Nat) (hop:o.op=.load T x:=by exact rfl) (hA:A[i]? = some (sl c xs)\/A[i]? = some (os c xs):=by first | exact .inl rfl | exact .inr rfl) (hx:L.ev x=some (BZ 1 c j):=by exact rfl) (hj:j < xs.length:=by exact AD):Ax P L A o (.int .i64 (xs.getD j 0)):=by
 rcases hA with hA | hA
 ·exact Ax.load hop hx hT hA (RO c xs j 0 hj) rfl
 ·exact Ax.load hop hx hT hA (RR c xs j 0 hj) rfl
theorem Ny {T x n c j} {xs:List (BitVec 64)} (hT:Bm P T=some (false,n)) (i:Nat) (hop:o.op=.load T x:=by exact rfl) (hA:A[i]? = some (sl c xs)\/A[i]? = some (os c xs):=by first | exact .inl rfl | exact .inr rfl) (hx:L.ev x=some (BZ 1 c j):=by exact rfl) (hj:j < xs.length:=by exact AD):Ax P L A o (u64 (xs.getD j 0#64)):=by
 rcases hA with hA | hA
 ·exact Ax.load hop hx hT hA (RO c xs j 0#64 hj) rfl
 ·exact Ax.load hop hx hT hA (RR c xs j 0#64 hj) rfl
theorem Vi {T x ix c k R len sz e by_} {i:Int} (hT:Bw P T=some (e,sz,by_)) (m:Nat) (hop:o.op=.indexAddr T x ix:=by exact rfl) (hx:L.ev x=some c:=by exact rfl) (hi:L.ev ix=some (.int k i):=by exact rfl) (hA:A[m]? = some R:=by exact rfl) (hR:M5 R c len sz:=by first | exact gM _ _ | exact SK _ _ | exact dJ _ _ _ _ | exact oQ _ _ _ _ _ _ | exact oA _ _ | exact j8 _ _ _ _) (h:0<=i/\i < len:=by exact AD):Ax P L A o (BZ sz c i.toNat):=Ax.indexAddr hop hx hi hT hA hR h
theorem A0 {T xs ps zs vs} (hT:Fi P T=some (ps,zs)) (rs:List Value) (hop:o.op=.build T xs:=by exact rfl) (hx:∀ ρ:Operand->Value,(∀ x u,L.ev x=some u->ρ x=u)->xs.map (fun (i,x)=>(i,ρ x))=vs:=by exact At.evp_map rfl) (hr:Instr.fill (ps.toArray[·]?) zs.toArray vs.toList=some rs.toArray:=by exact rfl):Ax P L A o (.agg rs.toArray):=Ax.build hop hT hx hr
theorem Ab {T x v} (cs:List Value) (hop:o.op=.box T x:=by exact rfl) (hx:L.ev x=some v:=by exact rfl) (hc:v.cells.toList=cs:=by exact rfl):AL P L A o (fun p:Value=>p) (fun p=>pv p cs :: A):=hc ▸ AL.box hop hx
theorem Zo {T x v} (cs:List Value) (hop:o.op=.box T x:=by exact rfl) (hx:L.ev x=some v:=by exact rfl) (hc:v.cells.toList=cs:=by exact rfl):AL P L A o (fun p:Value=>p) (fun p=>Cl p cs :: A):=hc ▸ AL.boxOwn hop hx
theorem Al {T z} (hz:C6 P T=some z) (cs:List Value) (hop:o.op=.alloc T:=by exact rfl) (hc:z.cells.toList=cs:=by exact rfl):AL P L A o (fun p:Value=>p) (fun p=>Cl p cs :: A):=hc ▸ AL.alloc hop hz
theorem QY {T e sz by_} (hT:Bw P T=some (e,sz,by_)) (hop:o.op=.buildSlice T 0 #[]:=by exact rfl):AL P L A o (fun c:Value=>c) (fun c=>Cr c 0 [] :: A):=AL.buildSlice0 hop hT
theorem A5 {T n xs e sz by_ zs ps} (hT:Bw P T=some (e,sz,by_)) (hz:Dj P T=some zs) (vs cs:List Value) (hop:o.op=.buildSlice T n xs:=by exact rfl) (hn:Nat.ble (n*sz) 16777216=true:=by exact rfl)
  (hx:∀ ρ:Operand->Value,(∀ x u,L.ev x=some u->ρ x=u)->xs.map (fun (i,x)=>(i,ρ x))=ps:=by exact At.evp_map rfl) (hp:ps=((vs.zipIdx 0).map (fun p=>(p.2,p.1))).toArray:=by exact rfl) (hl:vs.length=n:=by exact rfl) (hv:vs.all (fun v=>Nat.beq v.cells.size sz)=true:=by exact rfl) (hc:NL vs=cs:=by exact rfl) :
  AL P L A o (fun c:Value=>c) (fun c=>Cr c n cs :: A):=AL.buildSliceV vs cs hop hT hz hn hx hp hl hv hc
theorem PX {T l cp e sz by_ zs} {n:Int} {α:Type} [Rep α] (hT:Bw P T=some (e,sz,by_)) (hz:Dj P T=some zs) (z0:α) (hzr:∀ w M,Rep.rd w M zs z0) (hop:o.op=.makeSlice T l cp:=by exact rfl) (hl:L.ev l=some (.int .i64 n):=by exact rfl) (hc:L.ev cp=some (.int .i64 n):=by exact rfl)
  (hs:Rep.sz α=sz:=by exact rfl) (hb:Rep.bytes α=by_:=by exact rfl) (h0:0<=n:=by omega) (h1:n*by_<=140737488355328:=by omega):AL P L A o (fun c:Value=>c) (fun c=>os c (List.replicate n.toNat z0) :: A):=AL.makeSlice z0 hop hl hc hT hz hs hb h0 h1 hzr
theorem AI {T x y p v cs bb n} {Ar:List SP} (is:List Nat) (hT:Bm P T=some (bb,n)) (cs':List Value) (hop:o.op=.store T x y:=by exact rfl) (hx:L.ev x=some p:=by exact rfl) (hy:L.ev y=some v:=by exact rfl) (ht:take A is=some ([Cl p cs],Ar):=by exact rfl)
  (hn:v.cells.toList.length=n:=by exact rfl) (h1:v.cells.toList.all (·.oneCell')=true:=by exact rfl) (hl:Nat.ble n cs.length=true:=by exact rfl) (hc:v.cells.toList++cs.drop n=cs':=by exact rfl):AZ P L A o ([Cl p cs']++Ar):=AZ.frame is ht (AZ.storeCl _ cs' hop hx hy hT rfl hn h1 (Nat.le_of_ble_eq_true hl) hc)
theorem CM {T x y p v cs bb n} {m:Nat} {Ar:List SP} (is:List Nat) (hT:Bm P T=some (bb,n)) (cs':List Value) (hop:o.op=.store T x y:=by exact rfl) (hx:L.ev x=some (DP p m):=by exact rfl) (hy:L.ev y=some v:=by exact rfl) (ht:take A is=some ([Cl p cs],Ar):=by exact rfl)
  (hn:v.cells.toList.length=n:=by exact rfl) (h1:v.cells.toList.all (·.oneCell')=true:=by exact rfl) (hl:Nat.ble (m+n) cs.length=true:=by exact rfl) (hc:cs.take m++v.cells.toList++cs.drop (m+n)=cs':=by exact rfl):AZ P L A o ([Cl p cs']++Ar):=AZ.frame is ht (AZ.storeClF _ cs' hop hx hy hT rfl hn h1 (Nat.le_of_ble_eq_true hl) hc)
theorem Xa {T x y a n k i bb} {xs:List (BitVec 64)} {z:BitVec 64} {Ar:List SP} (is:List Nat) (hT:Bm P T=some (bb,1)) (hop:o.op=.store T x y:=by exact rfl) (hx:L.ev x=some (BZ 1 (.slice a n k) i):=by exact rfl) (hy:L.ev y=some (u64 z):=by exact rfl) (ht:take A is=some ([os (.slice a n k) xs],Ar):=by exact rfl) (hi:i < xs.length:=by exact AD):AZ P L A o ([os (.slice a n k) (xs.set i z)]++Ar):=AZ.frame is ht (AZ.storeOsU hop hx hy hT hi)
theorem dM {T x y a n k i bb} {xs:List Int} {z:Int} {Ar:List SP} (is:List Nat) (hT:Bm P T=some (bb,1)) (hop:o.op=.store T x y:=by exact rfl) (hx:L.ev x=some (BZ 1 (.slice a n k) i):=by exact rfl) (hy:L.ev y=some (.int .i64 z):=by exact rfl) (ht:take A is=some ([os (.slice a n k) xs],Ar):=by exact rfl) (hok:Af z:=by unfold Af; omega) (hi:i < xs.length:=by exact AD):AZ P L A o ([os (.slice a n k) (xs.set i z)]++Ar):=AZ.frame is ht (AZ.storeOsI hop hx hy hT hok hi)
theorem SU {p:Prop} (h:p:=by first | omega | (simp only [KW]; omega) | (simp only [KW] at *; omega)):p:=h
theorem la {α:Type} (xs ys:List α):(xs++ys).length=xs.length+ys.length:=List.length_append
theorem G7 {xs:List Int} {i:Nat} (h:∀ x∈xs,RepE.ok x) (hi:i < xs.length) : -9223372036854775808<=xs.getD i 0/\xs.getD i 0<=9223372036854775807:=pI h hi
section
variable {T T2:TypeId} {x y:Operand} {c d:Value} {e sz by_ e2 Fs by2:Nat} {zs:List Value} {α:Type} [Rep α] {xs ys:List α}
theorem Ap {Ar:List SP} (is:List Nat) (hT:Bw P T=some (e,sz,by_)) (hT2:Bw P T2=some (e2,Fs,by2)) (hz:Dj P T=some zs)
  (hop:o.op=.call { callee:=.builtin .append,args:=#[x,y],argTypes:=#[T,T2] }:=by exact rfl) (hx:L.ev x=some c:=by exact rfl) (hy:L.ev y=some d:=by exact rfl) (ht:take A is=some ([os c xs,sl d ys],Ar):=by exact rfl) (hzl:zs.length=sz:=by exact rfl) (hs:Rep.sz α=sz:=by exact rfl) (hb:Rep.bytes α=by_:=by exact rfl) (hlen:(xs.length+ys.length)*by_<=140737488355328:=by exact SU) :
  AL P L A o (fun c:Value=>c) (fun c=>[os c (xs++ys)]++Ar):=AL.frame is ht (AL.app hop hx hy hT hT2 hz hzl hs hb (by rw [hb]; exact hlen))
theorem BH {Ar:List SP} (is:List Nat) (hT:Bw P T=some (e,sz,by_)) (hT2:Bw P T2=some (e2,Fs,by2)) (hz:Dj P T=some zs)
  (hop:o.op=.call { callee:=.builtin .append,args:=#[x,y],argTypes:=#[T,T2] }:=by exact rfl) (hx:L.ev x=some c:=by exact rfl) (hy:L.ev y=some d:=by exact rfl) (ht:take A is=some ([os c xs,os d ys],Ar):=by exact rfl) (hzl:zs.length=sz:=by exact rfl) (hs:Rep.sz α=sz:=by exact rfl) (hb:Rep.bytes α=by_:=by exact rfl) (hlen:(xs.length+ys.length)*by_<=140737488355328:=by exact SU) :
  AL P L A o (fun c:Value=>c) (fun c=>[os c (xs++ys)]++Ar):=AL.frame is ht (AL.appO hop hx hy hT hT2 hz hzl hs hb (by rw [hb]; exact hlen))
theorem PV {Ar:List SP} (is:List Nat) (hT:Bw P T=some (e,sz,by_)) (hT2:Bw P T2=some (e2,Fs,by2)) (hz:Dj P T=some zs)
  (hop:o.op=.call { callee:=.builtin .append,args:=#[x,y],argTypes:=#[T,T2] }:=by exact rfl) (hx:L.ev x=some c:=by exact rfl) (hy:L.ev y=some d:=by exact rfl) (ht:take A is=some ([os (α:=α) c [],sl d ys],Ar):=by exact rfl) (hzl:zs.length=sz:=by exact rfl) (hs:Rep.sz α=sz:=by exact rfl) (hb:Rep.bytes α=by_:=by exact rfl) (hlen:ys.length*by_<=140737488355328:=by exact SU) :
  AL P L A o (fun c:Value=>c) (fun c=>[os c ys]++Ar):=AL.frame is ht (AL.app0 hop hx hy hT hT2 hz hzl hs hb (by rw [hb]; exact hlen))
theorem wE {Ar:List SP} (is:List Nat) (hT:Bw P T=some (e,sz,by_)) (hT2:Bw P T2=some (e2,Fs,by2)) (hz:Dj P T=some zs)
  (hop:o.op=.call { callee:=.builtin .append,args:=#[x,y],argTypes:=#[T,T2] }:=by exact rfl) (hx:L.ev x=some c:=by exact rfl) (hy:L.ev y=some d:=by exact rfl) (ht:take A is=some ([os (α:=α) c [],os d ys],Ar):=by exact rfl) (hzl:zs.length=sz:=by exact rfl) (hs:Rep.sz α=sz:=by exact rfl) (hb:Rep.bytes α=by_:=by exact rfl) (hlen:ys.length*by_<=140737488355328:=by exact SU) :
  AL P L A o (fun c:Value=>c) (fun c=>[os c ys]++Ar):=AL.frame is ht (AL.appO0 hop hx hy hT hT2 hz hzl hs hb (by rw [hb]; exact hlen))
end
theorem P7 {T x a n k e sz by_} {α:Type} [Rep α] {xs:List α} {lo hi:Option Operand} {Ar:List SP} (is:List Nat) (hT:Bw P T=some (e,sz,by_)) (l h:Nat) (hop:o.op=.slice T x lo hi none:=by exact rfl) (hx:L.ev x=some (.slice a n k):=by exact rfl) (ht:take A is=some ([sl (.slice a n k) xs],Ar):=by exact rfl) (hs:Rep.sz α=sz:=by exact rfl)
  (hlo:Gm L lo 0 l:=by first | exact rfl | exact ⟨_,NQ rfl (by omega)⟩) (hhi:Gm L hi xs.length h:=by first | exact rfl | exact ⟨_,NQ rfl (by omega)⟩) (h1:l<=h:=by exact AD) (h2:h<=xs.length:=by exact AD):AL P L A o (fun c:Value=>c) (fun c=>[sl c ((xs.take h).drop l)]++Ar):=AL.frame is ht (AL.sliceSl l h hop hx hT hs (by cases lo <;> exact hlo) (by cases hi <;> exact hhi) h1 h2)
theorem UP {T x a n k e sz by_} {α:Type} [Rep α] {xs:List α} {lo hi:Option Operand} {Ar:List SP} (is:List Nat) (hT:Bw P T=some (e,sz,by_)) (l h:Nat) (hop:o.op=.slice T x lo hi none:=by exact rfl) (hx:L.ev x=some (.slice a n k):=by exact rfl) (ht:take A is=some ([os (.slice a n k) xs],Ar):=by exact rfl) (hs:Rep.sz α=sz:=by exact rfl)
  (hlo:Gm L lo 0 l:=by first | exact rfl | exact ⟨_,NQ rfl (by omega)⟩) (hhi:Gm L hi xs.length h:=by first | exact rfl | exact ⟨_,NQ rfl (by omega)⟩) (h1:l<=h:=by exact AD) (h2:h<=xs.length:=by exact AD):AL P L A o (fun c:Value=>c) (fun c=>[os c ((xs.take h).drop l)]++Ar):=AL.frame is ht (AL.sliceOs l h hop hx hT hs hlo hhi h1 h2)
theorem Vo {R:SP} {c:Value} {n:Nat} {v:Value} (i:Nat) (hA:A[i]? = some R) (hR:OO R c n) (h:∀ a k,c=.slice a n k->Ax P L A o v):Ax P L A o v:=fun ρ hρ w M F ok hs=>by
 obtain ⟨a,k,e⟩:=hR (Cb hA hs);exact h a k e ρ hρ w M F ok hs
theorem xV {v} (h:Ax P L A o v) (hs:∀ cs b,o.op≠.select cs b:=by intro _ _ h; cases h):Bt P L A o (fun _=>v) (fun _=>A):=Bt.ofV hs h
theorem xA {V:Value->Value} {B:Value->List SP} (h:AL P L A o V B) (hs:∀ cs b,o.op≠.select cs b:=by intro _ _ h; cases h):Bt P L A o (fun g=>V (g.getD 0 undef)) (fun g=>B (g.getD 0 undef)):=Bt.ofA hs h
theorem xS {B:List SP} (h:AZ P L A o B) (hs:∀ cs b,o.op≠.select cs b:=by intro _ _ h; cases h) (hd:o.dst=none:=by exact rfl):Bt P L A o (fun _=>undef) (fun _=>B):=Bt.ofS hs hd h
theorem xp {Ac Ar B':List SP} {V:List Value->Value} {B:List Value->List SP} (is:List Nat) (ht:take A is=some (Ac,Ar)) (e:Aj Ac B') (h:Bt P L (B'++Ar) o V B):Bt P L A o V B:=Bt.pre is ht e h
theorem xf {φ:Prop} {V:List Value->Value} {B:List Value->List SP} (k:Nat) (hA:A[k]? = some (SP.fact φ)) (h:φ->Bt P L A o V B):Bt P L A o V B:=Bt.fact k hA (fun h=>h) h
theorem x1 {R:SP} {φ:Prop} {V:List Value->Value} {B:List Value->List SP} (k:Nat) (hA:A[k]? = some R) (hR:∀ {w M F},R.h w M F->φ) (h:φ->Bt P L A o V B):Bt P L A o V B:=Bt.fact k hA hR h
class GEnc (γ:Type) where
 enc:γ->List Value
 dec:List Value->Nat->γ
 ed:∀ g l,dec (l++enc g) l.length=g
instance:GEnc Unit:=⟨fun _=>[],fun _ _=>(),fun _ _=>rfl⟩
instance:GEnc Value:=⟨fun v=>[v],fun l n=>l.getD n undef,fun g l=>by simp [List.getD]⟩
instance {γ:Type} [GEnc γ]:GEnc (Value×γ):=⟨fun p=>p.1 :: GEnc.enc p.2,fun l n=>(l.getD n undef,GEnc.dec l (n+1)),fun g l=>by
 have:=GEnc.ed g.2 (l++[g.1]);simp only [List.append_assoc,List.singleton_append,List.length_append,List.length_singleton] at this;rw [this]; simp [List.getD]⟩
theorem xC {f args} {γ:Type} [GEnc γ] {I:γ->Prop} {V:γ->Value} {B:γ->List SP} {Ac Ar:List SP} {xs:Array Operand} {ts:Array TypeId} (is:List Nat) (hcal:AA P f=true) (hf:FT P f args Ac I V B)
  (hop:o.op=.call { callee:=.value (.func f),args:=xs,argTypes:=ts }:=by exact rfl) (hx:L.evs xs.toList=some args.toList:=by exact rfl) (ht:take A is=some (Ac,Ar):=by exact rfl) :
  Bt P L A o (fun g=>V (GEnc.dec g 0)) (fun g=>(SP.fact (I (GEnc.dec g 0)) :: B (GEnc.dec g 0))++Ar):=
 Bt.frame is ht (Bt.ofC GEnc.enc (fun l=>GEnc.dec l 0) (fun g=>GEnc.ed g []) (by intro _ _ h; rw [hop] at h; cases h) (by have:=DI.fn hop hcal hx; rwa [show args.toList.toArray=args from rfl] at this) hf)
end
section
variable {P:Program} {L:At} {A:List SP} {o:Oper}
theorem xD {f} {vs:List Value} {γ:Type} [GEnc γ] {I:γ->Prop} {V:γ->Value} {B:γ->List SP} {Ac Ar:List SP} {xs:Array Operand} {ts:Array TypeId} (is:List Nat) (hcal:AA P f=true)
  (hop:o.op=.call { callee:=.value (.func f),args:=xs,argTypes:=ts }) (hx:L.evs xs.toList=some vs) (ht:take A is=some (Ac,Ar)) (hf:FT P f vs.toArray Ac I V B) :
  Bt P L A o (fun g=>V (GEnc.dec g 0)) (fun g=>(SP.fact (I (GEnc.dec g 0)) :: B (GEnc.dec g 0))++Ar):=
 Bt.frame is ht (Bt.ofC GEnc.enc (fun l=>GEnc.dec l 0) (fun g=>GEnc.ed g []) (by intro _ _ h; rw [hop] at h; cases h) (DI.fn hop hcal hx) hf)
end
section
variable {C:Cx} {ops:Array Oper} {L:At} {A:List SP} {i:Nat} {o:Oper} {os:List Oper} {X:List B7->At->Prop}
theorem Qn (h:X [] L):JQ C ops i [] L A X:=nE h
theorem jG {d:Nat} (h:JQ C ops (i+1) os ((d,undef) :: L) A (fun ds L'=>X (⟨[],fun _=>undef,[],false⟩ :: ds) L')) (hw:Wq C ops L o false:=by exact qs rfl rfl rfl _ rfl rfl) (hd:o.dst=some d:=by exact rfl):JQ C ops i (o :: os) L A X:=o9 hw hd h
theorem Qs {d:Nat} {op:Op} {ty:TypeId} {pos:String} {af:Array Edge} {gd:Option (Nat×Bool)} (h:JQ C ops (i+1) os ((d,undef) :: L) A (fun ds L'=>X (⟨[],fun _=>undef,[],false⟩ :: ds) L')) (hw:Wq C ops L ⟨some d,op,ty,pos,af,gd⟩ false:=by exact qs rfl rfl rfl _ rfl rfl):JQ C ops i (⟨some d,op,ty,pos,af,gd⟩ :: os) L A X:=jG h hw rfl
theorem mN (us:List Nat) {v:Value} {d:Nat} (hv:Ax C.P L (K0 A us) o v)
  (h:JQ C ops (i+1) os ((d,v) :: L) A (fun ds L'=>X (⟨[],fun _=>v,us,true⟩ :: ds) L')) (hw:Wq C ops L o true:=by first | exact qn rfl | exact qt rfl rfl rfl rfl) (hd:o.dst=some d:=by exact rfl) (hs:(match o.op with | .select ..=>true | _=>false)=false:=by exact rfl):JQ C ops i (o :: os) L A X:=aT us hw hd hs hv h
theorem Qv {d:Nat} {op:Op} {ty:TypeId} {pos:String} {af:Array Edge} {gd:Option (Nat×Bool)} (us:List Nat) {v:Value} (hv:Ax C.P L (K0 A us) ⟨some d,op,ty,pos,af,gd⟩ v)
  (h:JQ C ops (i+1) os ((d,v) :: L) A (fun ds L'=>X (⟨[],fun _=>v,us,true⟩ :: ds) L')) (hw:Wq C ops L ⟨some d,op,ty,pos,af,gd⟩ true:=by first | exact qn rfl | exact qt rfl rfl rfl rfl) (hs:(match op with | .select ..=>true | _=>false)=false:=by exact rfl):JQ C ops i (⟨some d,op,ty,pos,af,gd⟩ :: os) L A X:=mN us hv h hw rfl hs
theorem uB {e b:Bool} (he:e=b) (us:List Nat) {d:Nat} (hv:Ax C.P L (K0 A us) o (.bool e))
  (h:JQ C ops (i+1) os ((d,.bool b) :: L) A (fun ds L'=>X (⟨[],fun _=>.bool b,us,true⟩ :: ds) L')) (hw:Wq C ops L o true:=by first | exact qn rfl | exact qt rfl rfl rfl rfl) (hd:o.dst=some d:=by exact rfl) (hs:(match o.op with | .select ..=>true | _=>false)=false:=by exact rfl):JQ C ops i (o :: os) L A X:=tL he us hw hd hs hv h
theorem Qb {d:Nat} {op:Op} {ty:TypeId} {pos:String} {af:Array Edge} {gd:Option (Nat×Bool)} {e b:Bool} (he:e=b) (us:List Nat) (hv:Ax C.P L (K0 A us) ⟨some d,op,ty,pos,af,gd⟩ (.bool e))
  (h:JQ C ops (i+1) os ((d,.bool b) :: L) A (fun ds L'=>X (⟨[],fun _=>.bool b,us,true⟩ :: ds) L')) (hw:Wq C ops L ⟨some d,op,ty,pos,af,gd⟩ true:=by first | exact qn rfl | exact qt rfl rfl rfl rfl) (hs:(match op with | .select ..=>true | _=>false)=false:=by exact rfl):JQ C ops i (⟨some d,op,ty,pos,af,gd⟩ :: os) L A X:=uB he us hv h hw rfl hs
theorem Kq {ks:List Kn} {id:Nat} {l:List Oper} (ms:List Nat) (hm:C.P.follows .mixedOrders=true) (h:JQ C l.toArray 0 l L A (fun ds L'=>QG C.n l.toArray ds ms (Dk A [])=true/\JK C ks L' A)):JK C (.code (.region id l.toArray true) :: ks) L A:=hZ ms hm h
end
end Go.SL
namespace Go.SL
open Go
section
variable {P:Program} {L:At} {A:List SP} {o:Oper}
theorem gH (a b:Int):(if a < b then b else a)=max a b:=by split <;> omega
theorem vZ {x y t1 t2 a b} (hop:o.op=.call { callee:=.builtin .max,args:=#[x,y],argTypes:=#[t1,t2] }:=by exact rfl) (hx:L.ev x=some (.int .i64 a):=by exact rfl) (hy:L.ev y=some (.int .i64 b):=by exact rfl):Ax P L A o (.int .i64 (max a b)):=fun ρ hρ w M F ok hs=>
 Wy hop rfl w fun cs=>by
  rw [<- gH]
  simp [builtin,Builtin.max_,Builtin.max2,hρ _ _ hx,hρ _ _ hy]
theorem gR {T a n k e} (hT:P.underlying T=some (.slice e)) (w:World):(binOp .eql T (.slice a n k) (.slice none 0 0)).run P w=.ok (.bool a.isNone) w:=by
 have e1:binOp .eql T (.slice a n k) (.slice none 0 0)=(do pure (.bool (<- Op.equalIn (9999+1) T (.slice a n k) (.slice none 0 0)))):=rfl;have e2:(Op.equalIn (9999+1) T (.slice a n k) (.slice none 0 0)).run P w=.ok a.isNone w:=by
  rw [Op.equalIn]; cases a <;> simp [run_underlying hT]
 rw [e1,Sem.run_bind,e2]; rfl
theorem Ws {T x y yt a n k e} (hT:P.underlying T=some (.slice e)) (hop:o.op=.binOp .eql T x y yt:=by exact rfl) (hx:L.ev x=some (.slice a n k):=by exact rfl) (hy:L.ev y=some (.slice none 0 0):=by exact rfl):Ax P L A o (.bool a.isNone):=fun ρ hρ w M F ok hs=>by
 have:(eqGuard .eql T x y (.slice a n k) (.slice none 0 0)).run P w=.ok () w:=by unfold eqGuard; simp
 have e:execOp ρ o=(do pure (.value (<- (do eqGuard .eql T x y (ρ x) (ρ y); binOp .eql T (ρ x) (ρ y))))):=by unfold execOp; rw [hop]
 rw [e,hρ _ _ hx,hρ _ _ hy];simp only [Sem.run_bind,this,gR hT,Result.andThen_ok,Sem.run_pure]
theorem uV {s d x n} {k:IntKind} (hs:P.underlying s=some (.int k)) (hd:P.underlying d=some (.int .i64)) (hop:o.op=.convert s d x:=by exact rfl) (hx:L.ev x=some (.int k n):=by exact rfl) (h:Af n:=by unfold Af; omega):Ax P L A o (.int .i64 n):=fun ρ hρ w M F ok hs'=>by
 simp [execOp,hop,hρ _ _ hx,convert,run_underlying hs,run_underlying hd,Conv.intToInt,IntWalk.i64_in _ h]
end
section
variable {P:Program} {fn:Func} {w0:World} {M0 F0:Ba} {γ:Type} {I:γ->Prop} {V:γ->Value} {B:γ->List SP} {ks:List Kn} {L:At} {A:List SP}
end
theorem fM (c:Value) (xs:List Int):Ix (os c xs):=Wo (fun h=>h) c xs
theorem oN (c:Value) (xs:List Bool):Ix (os c xs):=Wo (fun h=>h) c xs
theorem qP (c:Value) (xs:List (BitVec 64)):Ix (os c xs):=Wo (fun h=>h) c xs
theorem oY {R:SP} {A:List SP} (h:Ix R) (k:∀ S∈A,Ix S):∀ S∈R :: A,Ix S:=fun S hS=>by
 rcases List.mem_cons.1 hS with rfl | hS
 ·exact h
 ·exact k S hS
theorem Pu {γ:Type} {B:γ->List SP} (h:∀ g,∀ R∈B g,Ix R:=by intro g; (try dsimp only); repeat' first | exact tD _ _ | exact fM _ _ | exact oN _ _ | exact qP _ _ | refine oY ?_ ?_ | exact (fun _ h=>by cases h)):∀ g,∀ R∈B g,Ix R:=h
theorem XH {C:Cx} {X:Act->World->Prop} {L:At} {A:List SP} {α:Type} [Rep α] {a:Option Addr} {n k:Nat} {xs:List α} (i:Nat) (h:a.isNone=true) (g:xs=[]->JJ C X L A) (hA:A[i]? = some (sl (.slice a n k) xs):=by exact rfl):JJ C X L A:=by
 refine HV i hA (φ:=xs=[]) ?_ g;rintro w M F ⟨hb,ao,k',hc,hk,hh⟩;cases a with
 | some ad=>cases h
 | none=>
  have e:ao=none:=by injection hc with h1 _ _; exact h1.symm
  subst e;exact hh.1
theorem KT {G G':Prop} (k:G') (m:G'->G:=by
 intro hk
 repeat first
  | with_reducible refine UD ?_
  | with_reducible refine VX ?_
  | with_reducible refine U9 ?_
  | with_reducible refine Zj ?_
  | with_reducible refine Wb ?_
 exact hk):G:=m k
theorem qW {G G':Prop} (k:G') (m:G'->G:=by
 intro hk
 repeat first
  | with_reducible refine UD ?_
  | with_reducible refine VX ?_
  | with_reducible refine U9 ?_
  | with_reducible refine Wb ?_
 exact hk):G:=m k
def J1 (P:Program) (Q:Exit->Act->World->Prop) (k1 k2:List Kn):Prop:=∀ e a w,CO P Q k1 e a w->CO P Q k2 e a w
theorem J1.code {P Q k1 k2} {c:Code} (h:J1 P Q k1 k2):J1 P Q (.code c :: k1) (.code c :: k2):=by
 intro e a w hq;cases e with
 | normal=>simp only [CO] at hq ⊢; exact wp_mono hq h
 | _=>simp only [CO] at hq ⊢; exact h _ _ _ hq
theorem J1.seq {P Q k} {x y:Code}:J1 P Q (.code x :: .code y :: k) (.code (.seq x y) :: k):=by
 intro e a w hq;cases e with
 | normal=>
  simp only [CO] at hq ⊢;refine wp_seq (wp_mono hq ?_);intro e a w h;cases e <;> simpa [CO,Exit.then] using h
 | _=>simpa only [CO] using hq
section
variable {C:Cx} {ks:List Kn} {L:At} {A:List SP} {γ:Type} {F:γ->LI} {c x y:Code}
theorem J1.goal (h:∀ g,(F g).I->JK C ks (F g).L (F g).A):J1 C.P C.Q (.goal (fun a w=>∃ g' M F',(F g').I/\(F g').n < 1/\St C (F g').L (F g').A a w M F') :: ks) ks:=by
 intro e a w hq;cases e with
 | normal=>simp only [CO] at hq; obtain ⟨g,M',F',hI,_,st'⟩:=hq; exact h g hI _ _ _ _ st'
 | _=>simpa only [CO] using hq
theorem Zu {k1 k2:List Kn} (h:JK C k1 L A) (hl:J1 C.P C.Q k1 k2):JK C k2 L A:=fun a w M F st=>hl _ _ _ (h a w M F st)
theorem Wf (F:γ->LI) (h1:JK C (.code c :: .goal (fun a w=>∃ g' M F',(F g').I/\(F g').n < 1/\St C (F g').L (F g').A a w M F') :: ks) L A) (h2:∀ g,(F g).I->JK C ks (F g).L (F g).A):JK C (.code c :: ks) L A:=
 Zu h1 (.code (.goal h2))
theorem J1.blk {P Q k1 k2} {id:Nat} (h:J1 P Q k1 k2):J1 P Q (.blk id :: k1) (.blk id :: k2):=by
 intro e a w hw;cases e with
 | exit j=>
  simp only [CO] at hw ⊢
  split at hw <;> rename_i e1
  ·rw [if_pos e1]; exact h _ _ _ hw
  ·rw [if_neg e1]; exact h _ _ _ hw
 | _=>simp only [CO] at hw ⊢; exact h _ _ _ hw
theorem LT (F:γ->LI) (h1:JK C (.code c :: .code x :: .goal (fun a w=>∃ g' M F',(F g').I/\(F g').n < 1/\St C (F g').L (F g').A a w M F') :: ks) L A) (h2:∀ g,(F g).I->JK C ks (F g).L (F g).A):JK C (.code c :: .code x :: ks) L A:=
 Zu h1 (.code (.code (.goal h2)))
end
end Go.SL
namespace Go.SL
open Go
section
variable {α β γ δ:Type}
def lb (x:LR Unit γ) (k:γ->LR α β):LR α β:=match x with
 | .ret r=>k r
 | _=>.oof
def ll (x:LR γ β) (k:γ->LR α β):LR α β:=match x with
 | .brk o=>k o
 | .ret r=>.ret r
 | .oof=>.oof
def lv (x:γ) (k:γ->δ):δ:=k x
theorem BT (r:β):(LR.ret r:LR Unit β)≠.oof:=fun h=>by cases h
theorem rI {a b:β} (h:(LR.ret a:LR α β)=.ret b):a=b:=by cases h; rfl
theorem pT {c:Bool} {Y X:LR α β} {G:Prop} (H:(bif c then Y else .oof)=X) (hx:X≠.oof) (k:c=true->Y=X->G):G:=by
 cases c with
 | true=>exact k rfl H
 | false=>exact absurd H.symm hx
theorem pC {p:Prop} [Decidable p] {Y X:LR α β} {G:Prop} (H:(bif decide p then Y else .oof)=X) (hx:X≠.oof) (k:p->Y=X->G):G:=pT H hx fun h=>k (of_decide_eq_true h)
theorem pF {c:Bool} {Y X:LR α β} {G:Prop} (H:(bif c then .oof else Y)=X) (hx:X≠.oof) (k:c=false->Y=X->G):G:=by
 cases c with
 | false=>exact k rfl H
 | true=>exact absurd H.symm hx
theorem pS {c:Bool} {A B X:δ} {G:Prop} (H:(bif c then A else B)=X) (t:c=true->A=X->G) (f:c=false->B=X->G):G:=by
 cases c with
 | true=>exact t rfl H
 | false=>exact f rfl H
theorem Is {x:γ} {k:γ->δ} {X:δ} {G:Prop} (H:lv x k=X) (g:∀ r,x=r->k r=X->G):G:=g x rfl H
theorem AW {x:LR Unit γ} {k:γ->LR α β} {X:LR α β} {G:Prop} (H:lb x k=X) (hx:X≠.oof) (g:∀ r,x=.ret r->k r=X->G):G:=by
 cases x with
 | ret r=>exact g r rfl H
 | brk _=>exact absurd H.symm hx
 | oof=>exact absurd H.symm hx
theorem DG {x:LR γ β} {k:γ->LR α β} {X:LR α β} {G:Prop} (H:ll x k=X) (hx:X≠.oof) (g:∀ Y,x=Y->Y≠.oof->ll Y k=X->G):G:=
 g x rfl (fun e=>by rw [e] at H; exact hx H.symm) H
theorem DL {Y:LR γ β} {k:γ->LR α β} {X:LR α β} {o:γ} (h : .brk o=Y) (H:ll Y k=X):k o=X:=by subst h; exact H
theorem Q2 {Y:LR γ β} {k:γ->LR α β} {X:LR α β} {r:β} (h : .ret r=Y) (H:ll Y k=X) : .ret r=X:=by subst h; exact H
end
theorem Aj.pallT {A:List SP} (hp:A.all (·.p)=true):Aj A [BK A]:=by
 intro w M F ok hs;refine ⟨M,F,Bo.refl ok,fun _=>False,F,fun _ h=>h.elim,fun _ h=>h,fun _ h _=>h,?_,trivial⟩;have key:∀ (B:List SP) (F:Ba),B.all (·.p)=true->Bb B w M F->∀ R∈B,R.p=true/\R.h w M (fun _=>False):=by
  intro B
  induction B with
  | nil=>intro F _ _ R hR; cases hR
  | cons S B ih=>
   intro F hB hs R hR;simp only [List.all_cons,Bool.and_eq_true] at hB;obtain ⟨F1,F2,_,_,_,hS,hB2⟩:=hs;rcases List.mem_cons.1 hR with rfl | hR
   ·exact ⟨hB.1,R.pers hB.1 hS⟩
   ·exact ih F2 hB.2 hB2 R hR
 exact key A F hp hs
section
variable {C:Cx} {ks:List Kn} {L:At} {A:List SP} {X:Act->World->Prop}
theorem Rn {c:Operand} {x y:Code} {b:Bool} (h:b=true) (k:JK C (.code x :: ks) L A) (hc:L.ev c=some (.bool b):=by exact rfl):JK C (.code (.cond c x y) :: ks) L A:=cU (by rw [hc,h]) k
theorem BB {c:Operand} {x y:Code} {b:Bool} (h:b=false) (k:JK C (.code y :: ks) L A) (hc:L.ev c=some (.bool b):=by exact rfl):JK C (.code (.cond c x y) :: ks) L A:=Z9 (by rw [hc,h]) k
theorem EA (t:Nat) {e:Bool} (h:e=true) (k:JJ C X ((t,.bool true) :: L) A) (he:L.get t=some (.bool e):=by exact rfl):JJ C X L A:=UK t he (fun _=>k) (fun h'=>by rw [h] at h'; cases h')
theorem FB (t:Nat) {e:Bool} (h:e=false) (k:JJ C X ((t,.bool false) :: L) A) (he:L.get t=some (.bool e):=by exact rfl):JJ C X L A:=UK t he (fun h'=>by rw [h] at h'; cases h') (fun _=>k)
theorem FO {β:Type} {c:Operand} {x y:Code} {b:Bool} {U V W:β} (H:(bif b then U else V)=W) (ht:b=true->U=W->JK C (.code x :: ks) L A) (hf:b=false->V=W->JK C (.code y :: ks) L A) (hc:L.ev c=some (.bool b):=by exact rfl):JK C (.code (.cond c x y) :: ks) L A:=
 Kc (fun h=>ht h (by rw [h] at H; exact H)) (fun h=>hf h (by rw [h] at H; exact H)) hc
theorem P0 {β:Type} (t:Nat) {e:Bool} {U V W:β} (H:(bif e then U else V)=W) (hT:e=true->U=W->JJ C X ((t,.bool true) :: L) A) (hF:e=false->V=W->JJ C X ((t,.bool false) :: L) A) (he:L.get t=some (.bool e):=by exact rfl):JJ C X L A:=
 Js t (fun h=>hT h (by rw [h] at H; exact H)) (fun h=>hF h (by rw [h] at H; exact H)) he
end
end Go.SL
namespace Go.SL
open Go
structure Aa where
 b:List UInt8
deriving DecidableEq,Inhabited
instance:Append Aa:=⟨fun l m=>⟨l.b++m.b⟩⟩
theorem Aa.app (l m:Aa):(l++m).b=l.b++m.b:=rfl
def bs (l:Aa):ByteArray:=⟨l.b.toArray⟩
theorem Jw (l:Aa):(bs l).size=l.b.length:=by simp [bs,ByteArray.size]
theorem pO (b:ByteArray):∀ (n i:Nat) (r:List UInt8),b.size - i=n->ByteArray.toList.loop b i r=r.reverse++b.data.toList.drop i:=by
 intro n
 induction n with
 | zero=>
  intro i r h;unfold ByteArray.toList.loop;have:¬ i < b.size:=by omega
  simp only [this,if_false];have e:b.data.toList.drop i=[]:=List.drop_eq_nil_of_le (by have:b.data.toList.length=b.size:=Array.length_toList; omega);rw [e,List.append_nil]
 | succ n ih=>
  intro i r h;unfold ByteArray.toList.loop;have hi:i < b.size:=by omega
  simp only [hi,if_true];rw [ih (i+1) _ (by omega)];have hi':i < b.data.toList.length:=by have:b.data.toList.length=b.size:=Array.length_toList; omega
  have hg:b.get! i=b.data.toList[i]:=by
   show b.data[i]! = _;rw [getElem!_pos b.data i (by simpa using hi')]; simp
  rw [List.drop_eq_getElem_cons hi',hg,List.reverse_cons,List.append_assoc]; rfl
theorem Tj (l:Aa):(bs l).toList=l.b:=by
 unfold ByteArray.toList;rw [pO _ _ 0 [] rfl]
 simp [bs]
theorem Y3 (b:ByteArray):bs ⟨b.data.toList⟩=b:=by cases b; simp [bs]
theorem vY {l m:Aa} (h:bs l=bs m):l=m:=by
 have:l.b=m.b:=by rw [<- Tj l,<- Tj m,h]
 cases l; cases m; simp at this; rw [this]
theorem uK (l m:Aa):bs l++bs m=bs (l++m):=by
 have:∀ a b:ByteArray,a++b=⟨a.data++b.data⟩:=fun a b=>by
  apply ByteArray.ext
  simp
 rw [this]; simp [bs,Aa.app]
def Aa.sub (l:Aa) (i j:Nat):Aa:=⟨(l.b.take j).drop i⟩
theorem kD (l:Aa) (i j:Nat):(bs l).extract i j=bs (l.sub i j):=by
 apply ByteArray.ext;simp only [bs,ByteArray.data_extract,Aa.sub];rw [<- Array.toList_inj]
 simp [List.drop_take]
theorem cB (l m:Aa):(l.b == m.b)=(l == m):=by
 rw [Bool.eq_iff_iff,beq_iff_eq,beq_iff_eq];cases l; cases m; simp
instance:RepE Aa where
 sz:=1
 bytes:=16
 pos:=by decide
 bpos:=by decide
 rd _ _ cs x:=cs=[.string (bs x)]/\x.b.length<=140737488355328
 len:=by rintro w M cs x ⟨rfl,_⟩; rfl
 one:=by rintro w M cs x ⟨rfl,_⟩ v hv; simp at hv; subst hv; rfl
 st:=fun h _=>h
 ex x:=[.string (bs x)]
 ok x:=x.b.length<=140737488355328
 ex_eq:=fun h=>h
 rd_ex:=fun h=>⟨rfl,h⟩
section
variable {P:Program} {L:At} {A:List SP} {o:Oper}
theorem Lo {x y T k} {l:Aa} {n:Int} (hT:P.underlying T=some .string) (hop:o.op=.index T x y:=by exact rfl) (hx:L.ev x=some (.string (bs l)):=by exact rfl) (hy:L.ev y=some (.int k n):=by exact rfl) (h:0<=n/\n < (l.b.length:Int):=by omega):Ax P L A o (.int .u8 ((l.b.getD n.toNat 0).toNat:Int)):=fun ρ hρ w M F ok hs=>by
 have hn:n.toNat < l.b.length:=by omega
 have e:(bs l)[n.toNat]? = some (l.b.getD n.toNat 0):=by
  have h1:n.toNat < (bs l).size:=by rw [Jw]; exact hn
  rw [getElem?_pos (bs l) n.toNat h1]
  simp [bs,ByteArray.getElem_eq_getElem_data,hn]
 simp [execOp,hop,hρ _ _ hx,hρ _ _ hy,Instr.index,asIntOf,run_underlying hT,h.1,e]
theorem K7 {x T} {l:Aa} (hT:P.underlying T=some .string) (hop:o.op=.call { callee:=.builtin .len,args:=#[x],argTypes:=#[T] }:=by exact rfl) (hx:L.ev x=some (.string (bs l)):=by exact rfl):Ax P L A o (.int .i64 (l.b.length:Int)):=by
 have:=Ax.lenS (A:=A) hop hx hT
 rwa [Jw] at this
theorem U2 {op T x y yt} {l m:Aa} {v:Value} (hop:o.op=.binOp op T x y yt) (hx:L.ev x=some (.string (bs l))) (hy:L.ev y=some (.string (bs m))) (h:∀ w:World,(Op.stringOp op (bs l) (bs m)).run P w=.ok v w) (hs:op≠.shl/\op≠.shr:=by decide):Ax P L A o v:=fun ρ hρ w M F ok hs'=>by
 have g:(eqGuard op T x y (.string (bs l)) (.string (bs m))).run P w=.ok () w:=by cases op <;> simp [eqGuard]
 have e:binOp op T (.string (bs l)) (.string (bs m))=Op.stringOp op (bs l) (bs m):=by cases op <;> first | rfl | exact absurd rfl hs.1 | exact absurd rfl hs.2
 simp [execOp,hop,hρ _ _ hx,hρ _ _ hy,g,e,h]
theorem De {T x y yt} {l m:Aa} (hop:o.op=.binOp .eql T x y yt:=by exact rfl) (hx:L.ev x=some (.string (bs l)):=by exact rfl) (hy:L.ev y=some (.string (bs m)):=by exact rfl):Ax P L A o (.bool (l == m)):=
 U2 hop hx hy (fun w=>by simp only [Op.stringOp,Tj,cB]; rfl) (by decide)
theorem RH {T x y yt} {l m:Aa} (hop:o.op=.binOp .neq T x y yt:=by exact rfl) (hx:L.ev x=some (.string (bs l)):=by exact rfl) (hy:L.ev y=some (.string (bs m)):=by exact rfl):Ax P L A o (.bool (l != m)):=
 U2 hop hx hy (fun w=>by simp only [Op.stringOp,Tj,cB,bne]; rfl) (by decide)
theorem Dl {T x y yt} {l m:Aa} (hop:o.op=.binOp .add T x y yt:=by exact rfl) (hx:L.ev x=some (.string (bs l)):=by exact rfl) (hy:L.ev y=some (.string (bs m)):=by exact rfl) (h:(l.b.length:Int)+(m.b.length:Int)<=9223372036854775807:=by omega):Ax P L A o (.string (bs (l++m))):=
 U2 hop hx hy (fun w=>by
  have:¬ (((bs l).size+(bs m).size:Nat):Int) > IntKind.i64.max:=by rw [Jw,Jw]; simp [IntKind.max,IntKind.bits]; omega
  simp only [Op.stringOp,this,if_false,uK]; rfl) (by decide)
theorem DD {T x n c j} {xs:List Aa} (hT:Bm P T=some (false,n)) (i:Nat) (hop:o.op=.load T x:=by exact rfl) (hA:A[i]? = some (sl c xs)\/A[i]? = some (os c xs):=by first | exact .inl rfl | exact .inr rfl) (hx:L.ev x=some (BZ 1 c j):=by exact rfl) (hj:j < xs.length:=by exact AD):Ax P L A o (.string (bs (xs.getD j default))):=by
 rcases hA with hA | hA
 ·exact Ax.load hop hx hT hA (RO c xs j default hj) rfl
 ·exact Ax.load hop hx hT hA (RR c xs j default hj) rfl
theorem Pg {T x lo hi k1 k2} {l:Aa} {a b:Int} (hT:P.underlying T=some .string) (hop:o.op=.slice T x (some lo) (some hi) none:=by exact rfl) (hx:L.ev x=some (.string (bs l)):=by exact rfl) (ha:L.ev lo=some (.int k1 a):=by exact rfl) (hb:L.ev hi=some (.int k2 b):=by exact rfl) (h:0<=a/\a<=b/\b<=(l.b.length:Int):=by omega):Ax P L A o (.string (bs (l.sub a.toNat b.toNat))):=fun ρ hρ w M F ok hs=>by
 have h2:(b.toNat:Int)=b:=Int.toNat_of_nonneg (by omega);have h3:¬ ((b.toNat:Int) < a):=by omega
 simp [execOp,hop,hρ _ _ hx,hρ _ _ ha,hρ _ _ hb,Instr.sliceAt,Instr.slice,Instr.sliceBounds,Instr.sliceBound,asIntOf,run_underlying hT,Jw,kD,h.1,h.2.2,show 0<=b by omega,h.2.1,h2]
end
theorem MB (x:UInt8):0<=(x.toNat:Int)/\(x.toNat:Int)<=255:=by have:=x.toNat_lt; omega
def fl (n:Nat):Nat:=if h:n < 0 then fl (n - 1) else n
termination_by n
decreasing_by omega
def cP (P : Program) (f : Field) (i : Nat) : Bool := decide (f.name ≠ "_") && (f.offset == i) && (match P.underlying f.type with | some (.int _) => true | _ => false) && (match Bm P f.type with | some (false, _) => true | _ => false)
def RT (P:Program):List Field->Nat->Bool
 | [],_=>true
 | f :: fs,i=>cP P f i && RT P fs (i+1)
def M6 (P:Program) (T:TypeId) (n:Nat):Bool:=match P.underlying T with
 | some (.struct fs)=>(fs.size == n) && RT P fs.toList 0 && !P.stoodInHeld T && !P.eqGuardType P.depth T
 | _=>false
theorem cF {P:Program} {T:TypeId} {n:Nat} {cs:Array Value} {i:Nat} {v:Value} (h:Bm P T=some (false,n)) (hv:cs[i]? = some v) (w:World):(part T cs i).run P w=.ok v w:=by
 unfold part
 simp [Sem.run_bind,T8 h,hv]
theorem pZ {P:Program} {T:TypeId} {k j:IntKind} {d:Nat} {a b:Int} (h:P.underlying T=some (.int j)) (w:World):(Op.equalIn (d+1) T (.int k a) (.int k b)).run P w=.ok (a == b) w:=by
 rw [Op.equalIn]
 simp [Sem.run_bind,run_underlying h]
theorem X8 {P:Program} {d:Nat} {xs ys:Array Value} {w:World}:∀ (fs:List Field) (i:Nat) (l m:List Int),RT P fs i=true->l.length=fs.length->m.length=fs.length->(∀ j,j < fs.length->xs[i+j]? = some (.int .i64 (l.getD j 0)))->(∀ j,j < fs.length->ys[i+j]? = some (.int .i64 (m.getD j 0))) ->
  (forIn (m:=Sem) fs ((none:Option Bool),()) fun f (_:Option Bool×Unit)=>
        if f.name ≠ "_" then do
         let __do_lift <- part f.type xs f.offset
         let __do_lift_1 <- part f.type ys f.offset
         let __do_lift <- Op.equalIn (d+1) f.type __do_lift __do_lift_1
         if (!__do_lift)=true then pure (ForInStep.done (some false,())) else pure (ForInStep.yield (none,())) else pure (ForInStep.yield (none,()))).run P w=.ok (if l=m then (none,()) else (some false,())) w
 | [],i,l,m,hf,hl,hm,hx,hy=>by
  have:l=[]:=List.length_eq_zero_iff.1 hl;have:m=[]:=List.length_eq_zero_iff.1 hm;subst l; subst m
  simp
 | f :: fs,i,[],m,hf,hl,hm,hx,hy=>by cases hl
 | f :: fs,i,a :: l,[],hf,hl,hm,hx,hy=>by cases hm
 | f :: fs,i,a :: l,b :: m,hf,hl,hm,hx,hy=>by
  simp only [RT,cP,Bool.and_eq_true,decide_eq_true_eq,beq_iff_eq] at hf;obtain ⟨⟨⟨⟨h1,h2⟩,h3⟩,h4⟩,h5⟩:=hf;have hu:∃ k,P.underlying f.type=some (.int k):=by
   cases hh:P.underlying f.type with
   | none=>rw [hh] at h3; cases h3
   | some t=>cases t <;> first | exact ⟨_,rfl⟩ | (rw [hh] at h3; cases h3)
  obtain ⟨k,hu⟩:=hu;have ht:∃ n,Bm P f.type=some (false,n):=by
   cases hh:Bm P f.type with
   | none=>rw [hh] at h4; cases h4
   | some t=>obtain ⟨b,n⟩:=t; cases b <;> first | exact ⟨_,rfl⟩ | (rw [hh] at h4; cases h4)
  obtain ⟨n,ht⟩:=ht;have x0:=hx 0 (by simp);have y0:=hy 0 (by simp);simp only [Nat.add_zero,List.getD_cons_zero] at x0 y0;have ih:=X8 (d:=d) fs (i+1) l m h5 (by simpa using hl) (by simpa using hm) (fun j hj=>by
   have:=hx (j+1) (by simp; omega);rw [show i+1+j=i+(j+1) by omega,this]; rfl) (fun j hj=>by
   have:=hy (j+1) (by simp; omega);rw [show i+1+j=i+(j+1) by omega,this]; rfl) (xs:=xs) (ys:=ys) (w:=w)
  rw [List.forIn_cons];simp only [ne_eq,h1,not_false_eq_true,if_true,Sem.run_bind,h2,cF ht x0,cF ht y0,pZ hu,Result.andThen_ok];by_cases e:a=b
  ·subst e;simp only [beq_self_eq_true,Bool.not_true,Bool.false_eq_true,if_false,Sem.run_pure,Result.andThen_ok,ih,List.cons.injEq,true_and]
  ·have e2:(a == b)=false:=by simp [e]
   simp [e2,e]
theorem aJ {P:Program} {T:TypeId} {n:Nat} {l m:List Int} {d:Nat} (h:M6 P T n=true) (hl:l.length=n) (hm:m.length=n) (w:World):(Op.equalIn (d+2) T (.agg (l.map (Value.int .i64)).toArray) (.agg (m.map (Value.int .i64)).toArray)).run P w=.ok (l == m) w:=by
 unfold M6 at h;cases hu:P.underlying T with
 | none=>rw [hu] at h; cases h
 | some t=>
  rw [hu] at h;cases t with
  | struct fs=>
   simp only [Bool.and_eq_true,beq_iff_eq,Bool.not_eq_true'] at h;obtain ⟨⟨⟨h1,h2⟩,h3⟩,h4⟩:=h;have hs:fs.toList.length=n:=by simpa using h1
   have key:=X8 (d:=d) (xs:=(l.map (Value.int .i64)).toArray) (ys:=(m.map (Value.int .i64)).toArray) (w:=w) fs.toList 0 l m h2 (by omega) (by omega) (fun j hj=>by simp [show j < l.length by omega]) (fun j hj=>by simp [show j < m.length by omega]);rw [Op.equalIn];simp only [Sem.run_bind,run_underlying hu,Result.andThen_ok,run_program,h3,Bool.false_eq_true,if_false];rw [<- Array.forIn_toList,key];by_cases e:l=m
   ·subst e; simp
   ·have e2:(l == m)=false:=by simp [e]
    simp [e,e2]
  | _=>cases h
section
variable {P:Program} {L:At} {A:List SP} {o:Oper}
theorem Z8 {T x y xs ys n} {op:BinOp} (h:M6 P T n=true) (w:World):(eqGuard op T x y (.agg xs) (.agg ys)).run P w=.ok () w:=by
 have hg:P.eqGuardType P.depth T=false:=by
  unfold M6 at h;cases hu:P.underlying T with
  | none=>rw [hu] at h; cases h
  | some t=>
   rw [hu] at h;cases t with
   | struct fs=>simp only [Bool.and_eq_true,Bool.not_eq_true'] at h; exact h.2
   | _=>cases h
 cases op <;> simp [eqGuard,Sem.run_bind,run_program,hg]
theorem Yb {T x y yt n cx cy} {l m:List Int} (h:M6 P T n=true) (hop:o.op=.binOp .eql T x y yt:=by exact rfl) (hx:L.ev x=some (.agg cx):=by exact rfl) (hy:L.ev y=some (.agg cy):=by exact rfl) (ex:cx=(l.map (Value.int .i64)).toArray:=by exact rfl) (ey:cy=(m.map (Value.int .i64)).toArray:=by exact rfl) (hl:l.length=n:=by exact rfl) (hm:m.length=n:=by exact rfl):Ax P L A o (.bool (l == m)):=fun ρ hρ w M F ok hs=>by
 have e:=aJ (d:=9998) h hl hm w;have e2:(Op.equal T (.agg cx) (.agg cy)).run P w=.ok (l == m) w:=by rw [ex,ey]; exact e
 have e1:binOp .eql T (.agg cx) (.agg cy)=(do pure (.bool (<- Op.equal T (.agg cx) (.agg cy)))):=rfl
 simp [execOp,hop,hρ _ _ hx,hρ _ _ hy,Z8 h,e1,Sem.run_bind,e2]
theorem b5 {T x y yt n cx cy} {l m:List Int} (h:M6 P T n=true) (hop:o.op=.binOp .neq T x y yt:=by exact rfl) (hx:L.ev x=some (.agg cx):=by exact rfl) (hy:L.ev y=some (.agg cy):=by exact rfl) (ex:cx=(l.map (Value.int .i64)).toArray:=by exact rfl) (ey:cy=(m.map (Value.int .i64)).toArray:=by exact rfl) (hl:l.length=n:=by exact rfl) (hm:m.length=n:=by exact rfl):Ax P L A o (.bool (l != m)):=fun ρ hρ w M F ok hs=>by
 have e:=aJ (d:=9998) h hl hm w;have e2:(Op.equal T (.agg cx) (.agg cy)).run P w=.ok (l == m) w:=by rw [ex,ey]; exact e
 have e1:binOp .neq T (.agg cx) (.agg cy)=(do pure (.bool (!(<- Op.equal T (.agg cx) (.agg cy))))):=rfl
 simp [execOp,hop,hρ _ _ hx,hρ _ _ hy,Z8 h,e1,Sem.run_bind,e2,bne]
theorem lT {T x y yt} {a b:BitVec 64} (hop:o.op=.binOp .mul T x y yt:=by exact rfl) (hx:L.ev x=some (u64 a):=by exact rfl) (hy:L.ev y=some (u64 b):=by exact rfl):Ax P L A o (u64 (a*b)):=
 Gr hop hx hy fun w=>by
  have:IntKind.wrap .u64 ((a.toNat:Int)*(b.toNat:Int))=((a*b).toNat:Int):=by
   simp [IntKind.wrap,IntKind.bits,IntKind.signed,BitVec.toNat_mul]
  simp [binOp,Op.intArith,this,u64]
theorem qH {T x y yt} {a b:BitVec 64} (hop:o.op=.binOp .sub T x y yt:=by exact rfl) (hx:L.ev x=some (u64 a):=by exact rfl) (hy:L.ev y=some (u64 b):=by exact rfl):Ax P L A o (u64 (a - b)):=
 Gr hop hx hy fun w=>by
  have:IntKind.wrap .u64 ((a.toNat:Int) - (b.toNat:Int))=((a - b).toNat:Int):=by
   have h1:=a.isLt; have h2:=b.isLt
   simp [IntKind.wrap,IntKind.bits,IntKind.signed,BitVec.toNat_sub]
   omega
  simp [binOp,Op.intArith,this,u64]
end
theorem Ei {xs:List Aa} {i:Nat} (h:∀ x∈xs,RepE.ok x) (hi:i < xs.length):(xs.getD i default).b.length<=140737488355328:=by
 have e:xs.getD i default=xs[i]:=by simp [List.getD,hi]
 rw [e]; exact h _ (List.getElem_mem hi)
theorem Dh (l m:Aa):(l++m).b.length=l.b.length+m.b.length:=by rw [Aa.app,List.length_append]
theorem MO (l:Aa) (i j:Nat):(l.sub i j).b.length=min j l.b.length - i:=by
 simp only [Aa.sub,List.length_drop,List.length_take]
theorem DM {C:Cx} {X:Act->World->Prop} {L:At} {A:List SP} {c:Value} {xs:List Aa} (i:Nat) (h:(∀ x∈xs,RepE.ok x)->JJ C X L A) (hA:A[i]? = some (sl c xs)\/A[i]? = some (os c xs):=by first | exact .inl rfl | exact .inr rfl):JJ C X L A:=by
 rcases hA with hA | hA
 ·exact HV i hA ZE h
 ·exact HV i hA bJ h
end Go.SL
namespace Go.SL
open Go
def Eh {α:Type}:Nat->List α->List (Nat×α)
 | _,[]=>[]
 | n,a :: l=>(n,a) :: Eh (n+1) l
theorem QO {α:Type}:∀ (n:Nat) (l:List α),(Eh n l).map (·.2)=l
 | _,[]=>rfl
 | n,a :: l=>by simp [Eh,QO (n+1) l]
theorem b7 {α:Type}:∀ (l:List α) (n i:Nat),(Eh n l)[i]? = (l[i]?).map fun a=>(n+i,a)
 | [],n,i=>by simp [Eh]
 | a :: l,n,0=>by simp [Eh]
 | a :: l,n,i+1=>by simp [Eh,b7 l (n+1) i]; cases l[i]? <;> simp; omega
theorem Sa {α:Type}:∀ (l:List α) (n:Nat),(Eh n l).map (·.1)=List.range' n l.length
 | [],n=>rfl
 | a :: l,n=>by simp [Eh,Sa l (n+1),List.range'_succ]
theorem bX {α:Type}:∀ (l m:List α) (n:Nat),Eh n (l++m)=Eh n l++Eh (n+l.length) m
 | [],m,n=>by simp [Eh]
 | a :: l,m,n=>by simp [Eh,bX l m (n+1)]; congr 1; omega
def Bx {κ ν:Type} [DecidableEq κ]:List (κ×ν)->κ->Option ν
 | [],_=>none
 | (a,v) :: l,k=>if a=k then some v else Bx l k
def mset {κ ν:Type} [DecidableEq κ]:List (κ×ν)->κ->ν->List (κ×ν)
 | [],k,v=>[(k,v)]
 | (a,u) :: l,k,v=>if a=k then (a,v) :: l else (a,u) :: mset l k v
section
variable {κ ν:Type} [DecidableEq κ]
theorem Mz:∀ {l:List (κ×ν)} (_:(l.map (·.1)).Nodup) {k:κ} {v:ν},Bx l k=some v↔(k,v)∈l
 | [],_,k,v=>by simp [Bx]
 | (a,u) :: l,h,k,v=>by
  simp only [List.map_cons,List.nodup_cons] at h;unfold Bx;by_cases e:a=k
  ·subst e;simp only [if_pos,Option.some.injEq,List.mem_cons,Prod.mk.injEq,true_and];constructor
   ·rintro rfl; exact .inl rfl
   ·rintro (h' | h')
    ·exact h'.symm
    ·exact absurd (List.mem_map_of_mem h') h.1
  ·rw [if_neg e,Mz h.2];simp only [List.mem_cons,Prod.mk.injEq];constructor
   ·exact .inr
   ·rintro (⟨h',_⟩ | h')
    ·exact absurd h'.symm e
    ·exact h'
theorem Tl {l l':List (κ×ν)} (hp:l.Perm l') (h:(l.map (·.1)).Nodup) (k:κ):Bx l k=Bx l' k:=by
 have h':(l'.map (·.1)).Nodup:=(hp.map _).nodup_iff.1 h;cases e:Bx l k with
 | some v=>exact ((Mz h').2 (hp.mem_iff.1 ((Mz h).1 e))).symm
 | none=>
  cases e':Bx l' k with
  | none=>rfl
  | some v=>rw [(Mz h).2 (hp.mem_iff.2 ((Mz h').1 e'))] at e; cases e
theorem O4:∀ {l:List (κ×ν)} {k:κ},Bx l k=none↔k ∉ l.map (·.1)
 | [],k=>by simp [Bx]
 | (a,u) :: l,k=>by
  unfold Bx;by_cases e:a=k
  ·simp [e]
  ·rw [if_neg e,O4]; simp [Ne.symm e]
theorem Tn:∀ {l:List (κ×ν)} {k:κ} {v:ν},(mset l k v).map (·.1)=if k∈l.map (·.1) then l.map (·.1) else l.map (·.1)++[k]
 | [],k,v=>by simp [mset]
 | (a,u) :: l,k,v=>by
  unfold mset;by_cases e:a=k
  ·simp [e]
  ·rw [if_neg e,List.map_cons,Tn];simp only [List.map_cons,List.mem_cons,Ne.symm e,false_or]
   split <;> simp
theorem Qy {l:List (κ×ν)} (h:(l.map (·.1)).Nodup) (k:κ) (v:ν):((mset l k v).map (·.1)).Nodup:=by
 rw [Tn]
 split
 ·exact h
 ·rename_i hk;rw [List.nodup_append];exact ⟨h,by simp,by rintro a ha b hb rfl; simp at hb; subst hb; exact hk ha⟩
theorem Q8:∀ (l:List (κ×ν)) (k:κ) (v:ν) (j:κ),Bx (mset l k v) j=if k=j then some v else Bx l j
 | [],k,v,j=>by simp [mset,Bx]
 | (a,u) :: l,k,v,j=>by
  unfold mset;by_cases e:a=k
  ·subst e; simp only [if_pos,Bx];by_cases e':a=j <;> simp [e']
  ·rw [if_neg e];simp only [Bx,Q8 l k v j];by_cases e1:a=j
   ·subst e1; simp [Ne.symm e]
   ·simp [e1]
theorem VA:∀ {l:List (κ×ν)} {k:κ} (v:ν),k ∉ l.map (·.1)->mset l k v=l++[(k,v)]
 | [],k,v,_=>rfl
 | (a,u) :: l,k,v,h=>by
  simp only [List.map_cons,List.mem_cons,not_or] at h
  simp [mset,Ne.symm h.1,VA v h.2]
theorem Sq:∀ {l:List (κ×ν)} {k:κ} (v:ν) {i:Nat} {u:ν},(l.map (·.1)).Nodup->l[i]? = some (k,u)->mset l k v=l.set i (k,v)
 | [],k,v,i,u,_,h=>by simp at h
 | (a,x) :: l,k,v,0,u,hn,h=>by simp at h; obtain ⟨rfl,rfl⟩:=h; simp [mset]
 | (a,x) :: l,k,v,i+1,u,hn,h=>by
  simp only [List.map_cons,List.nodup_cons] at hn
  simp at h
  have:a≠k:=fun e=>hn.1 (e ▸ List.mem_map.2 ⟨(k,u),List.mem_of_getElem? h,rfl⟩)
  simp [mset,this,Sq v hn.2 h]
theorem ZM {l l':List (κ×ν)} (h:(l.map (·.1)).Nodup) (h':(l'.map (·.1)).Nodup) (e:∀ k,Bx l k=Bx l' k):l.Perm l':=by
 have nd:∀ {m:List (κ×ν)},(m.map (·.1)).Nodup->m.Nodup:=fun {m} hm=>by
  induction m with
  | nil=>exact List.nodup_nil
  | cons a m ih=>
   simp only [List.map_cons,List.nodup_cons] at hm;exact List.nodup_cons.2 ⟨fun ha=>hm.1 (List.mem_map_of_mem ha),ih hm.2⟩
 have hm:∀ a,a∈l↔a∈l':=fun ⟨k,v⟩=>by rw [<- Mz h,<- Mz h',e]
 have sub:∀ {m m':List (κ×ν)},m.Nodup->(∀ a,a∈m->a∈m')->∃ r,m'.Perm (m++r):=fun {m}=>by
  induction m with
  | nil=>intro m' _ _; exact ⟨m',List.Perm.refl _⟩
  | cons a m ih=>
   intro m' hn hs;obtain ⟨x,y,rfl⟩:=List.append_of_mem (hs a (by simp));obtain ⟨r,hr⟩:=ih (m':=x++y) (List.nodup_cons.1 hn).2 (fun b hb=>by
    have:=hs b (by simp [hb]);simp only [List.mem_append,List.mem_cons] at this ⊢;rcases this with h | rfl | h
    ·exact .inl h
    ·exact absurd hb (List.nodup_cons.1 hn).1
    ·exact .inr h)
   exact ⟨r,(List.perm_middle).trans (hr.cons a)⟩
 obtain ⟨r,hr⟩:=sub (nd h) (fun a ha=>(hm a).1 ha);obtain ⟨r',hr'⟩:=sub (nd h') (fun a ha=>(hm a).2 ha);have h1:=hr.length_eq;have h2:=hr'.length_eq;simp only [List.length_append] at h1 h2;have:r=[]:=List.length_eq_zero_iff.1 (by omega);subst this
 simpa using hr.symm
theorem Z7 {l l':List (κ×ν)} (hp:l.Perm l') (h:(l.map (·.1)).Nodup) (k:κ) (v:ν):(mset l k v).Perm (mset l' k v):=by
 have h':(l'.map (·.1)).Nodup:=(hp.map _).nodup_iff.1 h;refine ZM (Qy h _ _) (Qy h' _ _) fun j=>?_;rw [Q8,Q8,Tl hp h]
end
def B4 {κ ν:Type} (ek:κ->Value) (ev:ν->Value) (o:List (κ×ν)):Array MapEntry:=((Eh 0 o).map fun x=>(⟨ek x.2.1,ev x.2.2,x.1⟩:MapEntry)).toArray
structure KK (P:Program) (k:TypeId) {κ:Type} (ek:κ->Value) (ok:κ->Prop):Prop where
 K:Maps.Keyed P k
 rd:∀ x,ok x->∃ l,keyOf P k (ek x)=some l
 inj:∀ x y,ek x=ek y->x=y
def Mp {κ ν:Type} (ek:κ->Value) (ev:ν->Value) (ok:κ->Prop) (p:Value) (l:List (κ×ν)):SP where
 h w M F:=∃ b o,F b/\p=.map (some b)/\o.Perm l/\(o.map (·.1)).Nodup/\(∀ e∈o,ok e.1)/\w.heap[b]? = some (.map (B4 ek ev o) o.length)
 p:=false
 st:=by
  rintro w M F w' M' ⟨b,o,h1,h2,h3,h4,h5,h6⟩ e k;exact ⟨b,o,h1,h2,h3,h4,h5,(k b h1).trans h6⟩
 up:=by
  rintro w M F F' ⟨b,o,h1,h2⟩ e;exact ⟨b,o,e b h1,h2⟩
 pers:=by simp
def Ir {κ ν:Type} (ek:κ->Value) (ev:ν->Value) (ok:κ->Prop) (p q:Value) (l d r:List (κ×ν)):SP where
 h w M F:=∃ b i o,∃ d' r':List (Nat×(κ×ν)),F b/\F i/\p=.map (some b)/\q=.pointer (some ⟨i,0,none⟩)/\o.Perm l/\(o.map (·.1)).Nodup/\(∀ e∈o,ok e.1)/\w.heap[b]? = some (.map (B4 ek ev o) o.length) /\
  w.heap[i]? = some (.mapIter (some b) o.length (d'.map (·.1)).toArray o.length)/\(d'++r').Perm (Eh 0 o)/\d=d'.map (·.2)/\r=r'.map (·.2)/\b≠i
 p:=false
 st:=by
  rintro w M F w' M' ⟨b,i,o,d',r',h1,h2,h3,h4,h5,h6,h7,h8,h9,h10⟩ e k;exact ⟨b,i,o,d',r',h1,h2,h3,h4,h5,h6,h7,(k b h1).trans h8,(k i h2).trans h9,h10⟩
 up:=by
  rintro w M F F' ⟨b,i,o,d',r',h1,h2,h3⟩ e;exact ⟨b,i,o,d',r',e b h1,e i h2,h3⟩
 pers:=by simp
section
variable {P:Program} {L:At} {A:List SP} {o:Oper} {κ ν:Type} {ek:κ->Value} {ev:ν->Value} {ok:κ->Prop} {p:Value} {l:List (κ×ν)}
theorem NT (o:List (κ×ν)):(B4 ek ev o).toList=(Eh 0 o).map fun x=>(⟨ek x.2.1,ev x.2.2,x.1⟩:MapEntry):=by simp [B4]
theorem NB (o:List (κ×ν)) (i:Nat):(B4 ek ev o)[i]? = (o[i]?).map fun a=>(⟨ek a.1,ev a.2,i⟩:MapEntry):=by
 simp only [B4,List.getElem?_toArray,List.getElem?_map,b7]; cases o[i]? <;> simp
theorem fK {k:TypeId} (hK:KK P k ek ok) {o:List (κ×ν)} (h:∀ e∈o,ok e.1):∀ e∈(B4 ek ev o).toList,∃ l,keyOf P k e.key=some l:=by
 intro e he;rw [NT,List.mem_map] at he;obtain ⟨⟨i,a⟩,ha,rfl⟩:=he;refine hK.rd _ (h a ?_);have:=List.mem_map_of_mem (f:=(·.2)) ha
 rwa [QO] at this
theorem Vs [DecidableEq κ] {k:TypeId} (hK:KK P k ek ok) {o:List (κ×ν)} (hn:(o.map (·.1)).Nodup) (h:∀ e∈o,ok e.1) {x:κ} (hx:ok x) (w:World) :
  ((Instr.findKey k (ek x) (B4 ek ev o).toList).run P w=.ok none w/\Bx o x=none)\/∃ i v,(Instr.findKey k (ek x) (B4 ek ev o).toList).run P w=.ok (some (i,ev v)) w/\o[i]? = some (x,v):=by
 obtain ⟨lx,hl⟩:=hK.rd x hx;rcases hK.K.find w hl (B4 ek ev o).toList (fK hK h) with ⟨h1,h2⟩ | ⟨j,e,h1,h2,h3⟩
 ·refine .inl ⟨h1,O4.2 fun hm=>?_⟩;obtain ⟨a,ha,rfl⟩:=List.mem_map.1 hm;obtain ⟨i,hi⟩:=List.getElem?_of_mem ha;have:=NB (ek:=ek) (ev:=ev) o i;rw [hi] at this;exact h2 _ (by rw [<- Array.getElem?_toList] at this; exact List.mem_of_getElem? this) rfl
 ·rw [Array.getElem?_toList,NB] at h2;cases ho:o[j]? with
  | none=>simp [ho] at h2
  | some a=>
   simp [ho] at h2
   subst h2;have:a.1=x:=hK.inj _ _ h3;exact .inr ⟨j,a.2,h1,by rw [ho,<- this]⟩
theorem Ax.mlook [DecidableEq κ] {T x y kt et} {c:Bool} {key:κ} (z:ν) (i:Nat) (hA:A[i]? = some (Mp ek ev ok p l)) (hop:o.op=.lookup T x y c) (ht:P.underlying T=some (.map kt et)) (hK:KK P kt ek ok)
  (hx:L.ev x=some p) (hy:L.ev y=some (ek key)) (hk:ok key) (hz:C6 P et=some (ev z)) :
  Ax P L A o (bif c then .tuple #[ev ((Bx l key).getD z),.bool (Bx l key).isSome] else ev ((Bx l key).getD z)):=fun ρ hρ w M F okw hs=>by
 obtain ⟨b,q,h1,rfl,h3,h4,h5,h6⟩:=Cb hA hs;obtain ⟨lx,hl⟩:=hK.rd key hk;have hc:=hK.K.check w (B4 ek ev q).isEmpty hl;have hg:=Tl h3 h4 key;have ho:(getObj b).run P w=.ok (.map (B4 ek ev q) q.length) w:=by simp [getObj,Sem.run,h6]
 rcases Vs (ev:=ev) hK h4 h5 hk w with ⟨e1,e2⟩ | ⟨j,v,e1,e2⟩
 ·rw [<- hg,e2];cases c <;> simp [execOp,hop,hρ _ _ hx,hρ _ _ hy,Instr.lookup,run_underlying ht,ho,hc,e1,OV hz]
 ·have:Bx q key=some v:=(Mz h4).2 (List.mem_of_getElem? e2);rw [<- hg,this];cases c <;> simp [execOp,hop,hρ _ _ hx,hρ _ _ hy,Instr.lookup,run_underlying ht,ho,hc,e1]
theorem SG {w:World} {M F:Ba} (okw:Ok w M F) {b:Nat} (hb:F b) (ob:Obj):Bo w M F { w with heap:=w.heap.setIfInBounds b ob } M F:=by
 refine ⟨⟨rfl,rfl,rfl,by simp,fun c hc hm=>⟨hm,?_⟩⟩,⟨fun c hc=>by simpa using okw.bd c hc,okw.sub⟩,fun c hc hf=>⟨hc,hf,?_⟩⟩
 ·have:b≠c:=fun e=>hm (e ▸ okw.sub b hb)
  simp [Array.getElem?_setIfInBounds_ne this]
 ·have:b≠c:=fun e=>hf (e ▸ hb)
  simp [Array.getElem?_setIfInBounds_ne this]
theorem Tf {w:World} {b:Nat} {x:Obj} (h:w.heap[b]? = some x) (y:Obj):(w.heap.setIfInBounds b y)[b]? = some y:=by
 have:b < w.heap.size:=by
  rcases Nat.lt_or_ge b w.heap.size with h' | h'
  ·exact h'
  ·simp [Array.getElem?_eq_none h'] at h
 simp [Array.getElem?_setIfInBounds_self_of_lt,this]
theorem YA (o:List (κ×ν)) (k:κ) (v:ν):(B4 ek ev o).push { key:=ek k,val:=ev v,born:=o.length }=B4 ek ev (o++[(k,v)]):=by
 simp [B4,bX,Eh]
theorem dB {o:List (κ×ν)} {i:Nat} {k:κ} {u:ν} (v:ν) (h:o[i]? = some (k,u)):(B4 ek ev o).modify i (fun e=>{ e with key:=ek k,val:=ev v })=B4 ek ev (o.set i (k,v)):=by
 apply Array.ext_getElem?;intro j;rw [Array.getElem?_modify,NB,NB,List.getElem?_set];by_cases hj:i=j
 ·subst hj;have hlt:i < o.length:=by
   rcases Nat.lt_or_ge i o.length with h' | h'
   ·exact h'
   ·simp [List.getElem?_eq_none h'] at h
  simp [h,hlt]
 ·simp [hj]
theorem AZ.mset [DecidableEq κ] {T x y z kt et} {key:κ} {v:ν} (hop:o.op=.mapUpdate T x y z) (ht:P.underlying T=some (.map kt et)) (hK:KK P kt ek ok)
  (hx:L.ev x=some p) (hy:L.ev y=some (ek key)) (hk:ok key) (hv:L.ev z=some (ev v)):AZ P L [Mp ek ev ok p l] o [Mp ek ev ok p (SL.mset l key v)]:=fun ρ hρ w M F okw hs=>by
 obtain ⟨F1,F2,k1,k2,kd,⟨b,q,h1,rfl,h3,h4,h5,h6⟩,_⟩:=hs;obtain ⟨lx,hl⟩:=hK.rd key hk;have hc:=hK.K.check w false hl;have ho:(getObj b).run P w=.ok (.map (B4 ek ev q) q.length) w:=by simp [getObj,Sem.run,h6]
 have hset:∀ ob,(setObj b ob).run P w=.ok () { w with heap:=w.heap.setIfInBounds b ob }:=fun ob=>by simp [setObj,Sem.run,h6]
 have hst:=hK.K.stays w hl;have hp:=Z7 h3 h4 key v;have hnd:=Qy h4 key v;have hok:∀ e∈SL.mset q key v,ok e.1:=fun e he=>by
  have:e.1∈(SL.mset q key v).map (·.1):=List.mem_map_of_mem he;rw [Tn] at this
  split at this
  ·obtain ⟨a,ha,e'⟩:=List.mem_map.1 this; rw [<- e']; exact h5 a ha
  ·rcases List.mem_append.1 this with h | h
   ·obtain ⟨a,ha,e'⟩:=List.mem_map.1 h; rw [<- e']; exact h5 a ha
   ·rw [List.mem_singleton.1 h]; exact hk
 have fin:∀ ob,ob=Obj.map (B4 ek ev (SL.mset q key v)) (SL.mset q key v).length->(execOp ρ o).run P w=.ok .skip { w with heap:=w.heap.setIfInBounds b ob } ->
   ∃ w' M' F',(execOp ρ o).run P w=.ok .skip w'/\Bo w M F w' M' F'/\Bb [Mp ek ev ok (.map (some b)) (SL.mset l key v)] w' M' F':=fun ob hob hr=>
  ⟨_,M,F,hr,SG okw (k1 b h1) _,F,fun _=>False,fun _ h=>h,fun _ h=>h.elim,fun _ _ h=>h,⟨b,_,k1 b h1,rfl,hp,hnd,hok,by rw [<- hob]; exact Tf h6 _⟩,trivial⟩
 rcases Vs (ev:=ev) hK h4 h5 hk w with ⟨e1,e2⟩ | ⟨j,u,e1,e2⟩
 ·refine fin (.map ((B4 ek ev q).push { key:=ek key,val:=ev v,born:=q.length }) (q.length+1)) ?_ ?_
  ·rw [YA,VA v (O4.1 e2)]; simp
  ·simp [execOp,hop,hρ _ _ hx,hρ _ _ hy,hρ _ _ hv,Instr.mapUpdate,run_underlying ht,ho,hc,e1,hset]
 ·refine fin (.map ((B4 ek ev q).modify j fun e=>{ e with key:=ek key,val:=ev v }) q.length) ?_ ?_
  ·rw [dB v e2,Sq v h4 e2]; simp
  ·have hj:((B4 ek ev q)[j]?).map (·.key)=some (ek key):=by rw [NB,e2]; rfl
   simp [execOp,hop,hρ _ _ hx,hρ _ _ hy,hρ _ _ hv,Instr.mapUpdate,run_underlying ht,ho,hc,e1,hset,hj,hst]
theorem qQ {w:World} {M F:Ba} (okw:Ok w M F) (hs:Bb A w M F) (ob:Obj) (R:SP)
  (hR:∀ F1:Ba,F1 w.heap.size->R.h { w with heap:=w.heap.push ob } (fun b=>M b\/b=w.heap.size) F1) :
  ∃ M' F',Bo w M F { w with heap:=w.heap.push ob } M' F'/\Bb (R :: A) { w with heap:=w.heap.push ob } M' F':=by
 have s:=Qd okw ob;refine ⟨_,_,s,fun b=>b=w.heap.size,F,fun b h=>.inr h,fun b h=>.inl h,fun b h h'=>?_,hR _ rfl,Gl hs s.ext (fun b hb=>?_)⟩
 ·have:=okw.bd b (okw.sub b h'); omega
 ·have:=okw.bd b (okw.sub b hb); simp only [Array.getElem?_push]; rw [if_neg (by omega)]
theorem AL.mmake {T} (hop:o.op=.makeMap T none):AL P L A o (fun p:Value=>p) (fun p=>Mp ek ev ok p [] :: A):=fun ρ hρ w M F okw hs=>by
 obtain ⟨M',F',s,h⟩:=qQ okw hs (.map #[] 0) (Mp ek ev ok (.map (some w.heap.size)) []) (fun F1 h=>⟨w.heap.size,[],h,rfl,List.Perm.refl _,by simp,by simp,by simp [B4,Eh]⟩);refine ⟨.map (some w.heap.size),_,M',F',?_,s,h⟩
 simp [execOp,hop,Instr.makeMap]
theorem AL.mrange {T x kt et} (hop:o.op=.range T x) (ht:P.underlying T=some (.map kt et)) (hx:L.ev x=some p):AL P L [Mp ek ev ok p l] o (fun q:Value=>q) (fun q=>[Ir ek ev ok p q l [] l]):=fun ρ hρ w M F okw hs=>by
 obtain ⟨F1,F2,k1,k2,kd,⟨b,q,h1,rfl,h3,h4,h5,h6⟩,_⟩:=hs;have ho:(getObj b).run P w=.ok (.map (B4 ek ev q) q.length) w:=by simp [getObj,Sem.run,h6]
 have s:=Qd okw (.mapIter (some b) q.length #[] q.length);have hlt:b < w.heap.size:=okw.bd b (okw.sub b (k1 b h1));have hpl:∃ r':List (Nat×(κ×ν)),r'.Perm (Eh 0 q)/\l=r'.map (·.2):=by
  have:∀ {m n:List (κ×ν)} (_:m.Perm n) (m':List (Nat×(κ×ν))),m'.map (·.2)=m->∃ n':List (Nat×(κ×ν)),n'.Perm m'/\n=n'.map (·.2):=by
   intro m n hp
   induction hp with
   | nil=>intro m' h; exact ⟨[],by simp at h; subst h; exact List.Perm.refl _,rfl⟩
   | cons x _ ih=>
    intro m' h;cases m' with
    | nil=>simp at h
    | cons y m'=>
     simp at h
     obtain ⟨n',a,b⟩:=ih m' h.2;exact ⟨y :: n',a.cons y,by simp [<- b,h.1]⟩
   | swap x y l=>
    intro m' h
    match m',h with
    | a :: c :: m',h=>
     simp at h
     exact ⟨c :: a :: m',List.Perm.swap _ _ _,by simp [h.1,h.2.1,h.2.2]⟩
   | trans _ _ ih1 ih2=>
    intro m' h;obtain ⟨n',a,b⟩:=ih1 m' h;obtain ⟨n'',c,d⟩:=ih2 n' b.symm;exact ⟨n'',c.trans a,d⟩
  exact this h3 (Eh 0 q) (QO 0 q)
 obtain ⟨r',hr1,hr2⟩:=hpl;refine ⟨.pointer (some ⟨w.heap.size,0,none⟩),_,_,_,?_,s,fun c=>F c\/c=w.heap.size,fun _=>False,fun _ h=>h,fun _ h=>h.elim,fun _ _ h=>h,?_,trivial⟩
 ·simp [execOp,hop,hρ _ _ hx,Instr.range,run_underlying ht,ho]
 ·refine ⟨b,w.heap.size,q,[],r',.inl (k1 b h1),.inr rfl,rfl,rfl,h3,h4,h5,?_,?_,by simpa using hr1,rfl,hr2,by omega⟩
  ·simp only [Array.getElem?_push]; rw [if_neg (by omega)]; exact h6
  ·simp
theorem AL.mnext {d r:List (κ×ν)} {q:Value} {x} (hop:o.op=.next x false) (hx:L.ev x=some q) :
  AL P L [Ir ek ev ok p q l d r] o (fun g:Option ((κ×ν)×List (κ×ν)×List (κ×ν))=>match g with | none=>.tuple #[.bool false] | some (e,_)=>.tuple #[.bool true,ek e.1,ev e.2])
   (fun g=>match g with | none=>[SP.fact (r=[]),Ir ek ev ok p q l d []] | some (e,r1,r2)=>[SP.fact (r=r1++e :: r2),Ir ek ev ok p q l (d++[e]) (r1++r2)]):=fun ρ hρ w M F okw hs=>by
 obtain ⟨F1,F2,k1,k2,kd,⟨b,i,s,d',r',h1,h2,h3,h4,h5,h6,h7,h8,h9,h10,h11,h12,h13⟩,_⟩:=hs;have hmem:∀ y∈(B4 ek ev s).toList,y.born < s.length:=fun y hy=>by
  rw [NT,List.mem_map] at hy;obtain ⟨⟨j,a⟩,ha,rfl⟩:=hy;have:=List.mem_map_of_mem (f:=(·.1)) ha;rw [Sa] at this;have:=List.mem_range'_1.1 this
  simpa using this.2
 have hnd:((d'++r').map (·.1)).Nodup:=(h10.map _).nodup_iff.2 (by rw [Sa]; exact List.nodup_range' ..);rcases run_next_at (P:=P) w o.type i b s.length s.length (d'.map (·.1)).toArray (B4 ek ev s) s.length h9 h8 hmem (Nat.le_refl _) with ⟨e1,e2⟩ | ⟨e,he,w1,hw1,e2⟩
 ·have hr:r'=[]:=by
   cases r' with
   | nil=>rfl
   | cons a r'=>
    exfalso;have ha:a∈Eh 0 s:=h10.mem_iff.1 (by simp);have:(⟨ek a.2.1,ev a.2.2,a.1⟩:MapEntry)∈leftOf (B4 ek ev s) (d'.map (·.1)).toArray:=by
     unfold leftOf;rw [Array.mem_filter];refine ⟨by rw [<- Array.mem_toList_iff,NT]; exact List.mem_map.2 ⟨a,ha,rfl⟩,?_⟩;simp only [List.map_append,List.map_cons] at hnd;have:=(List.nodup_append.1 hnd).2.2;simp only [Bool.not_eq_true',List.contains_toArray];rw [<- Bool.not_eq_true,List.contains_iff_mem];exact fun hm=>this _ hm _ (by simp) rfl
    rw [Array.eq_empty_of_size_eq_zero e1] at this
    simp at this
  subst hr;refine ⟨none,w,M,F,?_,Bo.refl okw,?_⟩
  ·simp [execOp,hop,hρ _ _ hx,h4,e2]
  ·refine ⟨fun _=>False,F,fun _ h=>h.elim,fun _ h=>h,fun _ h _=>h,(show r=_ by simpa using h12),F,fun _=>False,fun _ h=>h,fun _ h=>h.elim,fun _ _ h=>h,?_,trivial⟩;exact ⟨b,i,s,d',[],k1 b h1,k1 i h2,h3,h4,h5,h6,h7,h8,h9,h10,h11,rfl,h13⟩
 ·unfold leftOf at he;rw [Array.mem_toList_iff,Array.mem_filter] at he;obtain ⟨he1,he2⟩:=he;rw [<- Array.mem_toList_iff,NT,List.mem_map] at he1;obtain ⟨a,ha,rfl⟩:=he1;have hnd':a ∉ d':=fun hm=>by
   simp only [Bool.not_eq_true',List.contains_toArray] at he2;rw [<- Bool.not_eq_true,List.contains_iff_mem] at he2;exact he2 (List.mem_map_of_mem hm)
  have har:a∈r':=by
   have:=h10.mem_iff.2 ha;rcases List.mem_append.1 this with h | h
   ·exact absurd h hnd'
   ·exact h
  obtain ⟨r1,r2,rfl⟩:=List.append_of_mem har;have okw1:Ok w1 M F/\Bo w M F w1 M F/\w1.heap=w.heap:=by
   rcases hw1 with rfl | rfl
   ·exact ⟨okw,Bo.refl okw,rfl⟩
   ·exact ⟨⟨okw.bd,okw.sub⟩,Nq okw,rfl⟩
  obtain ⟨okw1,st1,hh1⟩:=okw1;have st2:=SG okw1 (k1 i h2) (.mapIter (some b) s.length ((d'.map (·.1)).toArray.push a.1) s.length);refine ⟨some (a.2,r1.map (·.2),r2.map (·.2)),_,M,F,?_,st1.trans st2,?_⟩
  ·simp [execOp,hop,hρ _ _ hx,h4,e2,ChangeMaps.setBlock]
  ·refine ⟨fun _=>False,F,fun _ h=>h.elim,fun _ h=>h,fun _ h _=>h,(show r=_ by simpa using h12),F,fun _=>False,fun _ h=>h,fun _ h=>h.elim,fun _ _ h=>h,?_,trivial⟩;refine ⟨b,i,s,d'++[a],r1++r2,k1 b h1,k1 i h2,h3,h4,h5,h6,h7,?_,?_,?_,by simp [h11],by simp,h13⟩
   ·simp only [hh1];rw [Array.getElem?_setIfInBounds_ne (Ne.symm h13)]; exact h8
   ·have:=Tf (w:=w1) (b:=i) (by rw [hh1]; exact h9) (.mapIter (some b) s.length ((d'.map (·.1)).toArray.push a.1) s.length)
    simpa using this
   ·refine List.Perm.trans ?_ h10;simp only [List.append_assoc];exact (List.Perm.append_left d' (by simpa using (List.perm_middle (a:=a) (l₁:=r1) (l₂:=r2)).symm))
theorem Aj.mdone {d:List (κ×ν)} {q:Value}:Aj [Ir ek ev ok p q l d []] [SP.fact (d.Perm l),Mp ek ev ok p d]:=fun w M F okw hs=>by
 obtain ⟨F1,F2,k1,k2,kd,⟨b,i,s,d',r',h1,h2,h3,h4,h5,h6,h7,h8,h9,h10,h11,h12,h13⟩,_⟩:=hs;have:r'=[]:=by cases r' with | nil=>rfl | cons a r=>simp at h12
 subst this;have hp:d.Perm s:=by
  have:=h10.map (·.2);rw [List.append_nil,QO] at this;rw [h11]; exact this
 refine ⟨M,F,Bo.refl okw,fun _=>False,F,fun _ h=>h.elim,fun _ h=>h,fun _ h _=>h,hp.trans h5,F,fun _=>False,fun _ h=>h,fun _ h=>h.elim,fun _ _ h=>h,?_,trivial⟩;exact ⟨b,s,k1 b h1,h3,hp.symm,h6,h7,h8⟩
theorem Aj.mperm {l':List (κ×ν)} (hp:l.Perm l'):Aj [Mp ek ev ok p l] [Mp ek ev ok p l']:=fun w M F okw hs=>by
 obtain ⟨F1,F2,k1,k2,kd,⟨b,q,h1,h2,h3,h4⟩,_⟩:=hs;exact ⟨M,F,Bo.refl okw,F,fun _=>False,fun _ h=>h,fun _ h=>h.elim,fun _ _ h=>h,⟨b,q,k1 b h1,h2,h3.trans hp,h4⟩,trivial⟩
theorem Aj.mfacts:Aj [Mp ek ev ok p l] [SP.fact ((l.map (·.1)).Nodup/\∀ e∈l,ok e.1),Mp ek ev ok p l]:=fun w M F okw hs=>by
 obtain ⟨F1,F2,k1,k2,kd,⟨b,q,h1,h2,h3,h4,h5,h6⟩,_⟩:=hs;refine ⟨M,F,Bo.refl okw,fun _=>False,F,fun _ h=>h.elim,fun _ h=>h,fun _ h _=>h,⟨(h3.map _).nodup_iff.1 h4,fun e he=>h5 e (h3.mem_iff.2 he)⟩,F,fun _=>False,fun _ h=>h,fun _ h=>h.elim,fun _ _ h=>h,?_,trivial⟩;exact ⟨b,q,k1 b h1,h2,h3,h4,h5,h6⟩
end
end Go.SL
namespace Go.SL
open Go
section
variable {P:Program} {L:At} {A:List SP} {o:Oper} {κ ν:Type} {ek:κ->Value} {ev:ν->Value} {ok:κ->Prop} {p:Value} {l:List (κ×ν)}
def HZ (P:Program) (T:TypeId):Option (TypeId×TypeId):=match P.underlying T with | some (.map k e)=>some (k,e) | _=>none
theorem L7 {T k e} (h:HZ P T=some (k,e)):P.underlying T=some (.map k e):=by
 unfold HZ at h
 split at h
 ·simp at h; obtain ⟨rfl,rfl⟩:=h; assumption
 ·cases h
theorem sP {x:Int} (h:Af x):(Lit.int .i64 x).wf=true:=by
 unfold Af at h;have h1:IntKind.i64.min = -9223372036854775808:=by rfl
 have h2:IntKind.i64.max=9223372036854775807:=by rfl
 simp only [Lit.wf,Bool.and_eq_true,decide_eq_true_eq];rw [h1,h2]; exact h
theorem Rh [DecidableEq κ] {T x y kt et} {key:κ} (i:Nat) (z:ν) (ht:HZ P T=some (kt,et)) (hK:KK P kt ek ok) (hz:C6 P et=some (ev z)) (hk:ok key) (hA:A[i]? = some (Mp ek ev ok p l):=by exact rfl) (hop:o.op=.lookup T x y false:=by exact rfl)
  (hx:L.ev x=some p:=by exact rfl) (hy:L.ev y=some (ek key):=by exact rfl):Ax P L A o (ev ((Bx l key).getD z)):=Ax.mlook z i hA hop (L7 ht) hK hx hy hk hz
theorem NH [DecidableEq κ] {T x y z kt et} {key:κ} {Ar:List SP} (is:List Nat) (ht:HZ P T=some (kt,et)) (hK:KK P kt ek ok) (v:ν) (hk:ok key) (hop:o.op=.mapUpdate T x y z:=by exact rfl) (hA:take A is=some ([Mp ek ev ok p l],Ar):=by exact rfl)
  (hx:L.ev x=some p:=by exact rfl) (hy:L.ev y=some (ek key):=by exact rfl) (hv:L.ev z=some (ev v):=by exact rfl):AZ P L A o ([Mp ek ev ok p (SL.mset l key v)]++Ar):=
 AZ.frame is hA (AZ.mset hop (L7 ht) hK hx hy hk hv)
theorem SY {T} (hop:o.op=.makeMap T none:=by exact rfl):AL P L A o (fun p:Value=>p) (fun p=>Mp ek ev ok p [] :: A):=AL.mmake hop
theorem sM {α:Type} {e:α} {r r1 r2:List α} (h:r=r1++e :: r2):(r1++r2).length < r.length:=by subst h; simp
theorem eV {α:Type} {e:α} {r r1 r2:List α} (h:r=r1++e :: r2):r.length=(r1++r2).length+1:=by subst h; simp; omega
theorem Ax.mentry {e:κ×ν} {d r:List (κ×ν)} {q:Value} {x} (i:Nat) (hA:A[i]? = some (Ir ek ev ok p q l (d++[e]) r)) (hop:o.op=.entry x) (hx:L.ev x=some q):Ax P L A o (.tuple #[ek e.1,ev e.2]):=fun ρ hρ w M F okw hs=>by
 obtain ⟨b,j,s,d',r',h1,h2,h3,h4,h5,h6,h7,h8,h9,h10,h11,h12,h13⟩:=Cb hA hs;have hd:∃ d0 a,d'=d0++[a]/\a.2=e:=by
  rcases List.eq_nil_or_concat d' with h | ⟨d0,a,h⟩
  ·subst h; simp at h11
  ·rw [List.concat_eq_append] at h;subst h
   simp at h11
   exact ⟨d0,a,rfl,h11.2.symm⟩
 obtain ⟨d0,a,rfl,rfl⟩:=hd;have ha:a∈Eh 0 s:=h10.mem_iff.1 (by simp);have hn:((B4 ek ev s).toList.map (·.born)).Nodup:=by
  rw [NT,List.map_map];have:(((fun x:MapEntry=>x.born) ∘ fun x:Nat×(κ×ν)=>(⟨ek x.2.1,ev x.2.2,x.1⟩:MapEntry)))=(·.1):=rfl;rw [this,Sa]; exact List.nodup_range' ..
 have hs':w.heap[j]? = some (.mapIter (some b) s.length ((d0.map (·.1)).toArray.push a.1) s.length):=by rw [h9]; simp
 have:=run_entry_at (P:=P) w j b s.length (d0.map (·.1)).toArray (B4 ek ev s) s.length ⟨ek a.2.1,ev a.2.2,a.1⟩ hs' h8 (by rw [NT]; exact List.mem_map.2 ⟨a,ha,rfl⟩) hn
 simp [execOp,hop,hρ _ _ hx,h4,this]
abbrev Cm (s:Aa):Value:=.string (bs s)
abbrev Cu (s:Aa):Prop:=s.b.length<=140737488355328
theorem Jz {P:Program} {k:TypeId} (h:P.underlying k=some .string):KK P k Cm Cu:=
 ⟨Maps.string_keyed h,fun x hx=>⟨_,WideMaps.keyOf_string_mk h (by rw [Jw]; have:x.b.length<=140737488355328:=hx; unfold maxLen; omega)⟩,fun x y h=>vY (by simpa [Cm] using h)⟩
abbrev gp (g:Nat):Value:=.pointer (some ⟨g,0,none⟩)
abbrev mv (b:Nat):Value:=.map (some b)
theorem Qm {C:Cx} {X:Act->World->Prop} (i:Nat) (h:∀ b,p=mv b->JJ C X L A) (hA:A[i]? = some (Mp ek ev ok p l):=by exact rfl):JJ C X L A:=
 HV (φ:=∃ b,p=mv b) i hA (fun hp=>by obtain ⟨b,_,_,h2,_⟩:=hp; exact ⟨b,h2⟩) (fun ⟨b,hb⟩=>h b hb)
end
end Go.SL
namespace Go.SL
open Go
structure In (α:Type) [Rep α] where
 cells:List Value
instance {α:Type} [Rep α]:Inhabited (In α):=⟨⟨[]⟩⟩
instance xE {α:Type} [Rep α]:Rep (In α) where
 sz:=Rep.sz α
 bytes:=Rep.bytes α
 pos:=Rep.pos
 bpos:=Rep.bpos
 rd _ _ cs x:=cs=x.cells/\cs.length=Rep.sz α/\∀ v∈cs,v.oneCell'=true
 len h:=h.2.1
 one h:=h.2.2
 st h _:=h
class RepD (α:Type) [Rep α] where
 inn:List Value->α->SP
 one:∀ {cs x w M F},(inn cs x).h w M F->cs.length=Rep.sz α/\∀ v∈cs,v.oneCell'=true
 frz:∀ {cs x w M G},(inn cs x).h w M G->Rep.rd w (fun b=>M b/\¬ G b) cs x
section
variable {α:Type} [Rep α] [RepD α]
def Lv:List (In α)->List α->World->Ba->Ba->Prop
 | [],[],_,_,_=>True
 | r :: rs,x :: xs,w,M,F=>∃ F1 F2:Ba,(∀ b,F1 b->F b)/\(∀ b,F2 b->F b)/\(∀ b,F1 b->F2 b->False)/\(RepD.inn r.cells x).h w M F1/\Lv rs xs w M F2
 | _,_,_,_,_=>False
theorem ZU:∀ {rs:List (In α)} {xs:List α} {w M F w' M'},Lv rs xs w M F->FZ w M w' M'->RY F w w'->Lv rs xs w' M' F
 | [],[],_,_,_,_,_,_,_,_=>trivial
 | r :: rs,x :: xs,w,M,F,w',M',⟨F1,F2,h1,h2,hd,hR,hA⟩,e,k=>⟨F1,F2,h1,h2,hd,(RepD.inn r.cells x).st hR e (fun b hb=>k b (h1 b hb)),ZU hA e (fun b hb=>k b (h2 b hb))⟩
 | [],_ :: _,_,_,_,_,_,h,_,_=>h.elim
 | _ :: _,[],_,_,_,_,_,h,_,_=>h.elim
theorem tW:∀ {rs:List (In α)} {xs:List α} {w M F F'},Lv rs xs w M F->(∀ b,F b->F' b)->Lv rs xs w M F'
 | [],[],_,_,_,_,_,_=>trivial
 | r :: rs,x :: xs,w,M,F,F',⟨F1,F2,h1,h2,hd,hR,hA⟩,e=>⟨F1,F2,fun b h=>e b (h1 b h),fun b h=>e b (h2 b h),hd,hR,hA⟩
 | [],_ :: _,_,_,_,_,h,_=>h.elim
 | _ :: _,[],_,_,_,_,h,_=>h.elim
theorem Zr:∀ {rs:List (In α)} {xs:List α} {w M F},Lv rs xs w M F->rs.length=xs.length
 | [],[],_,_,_,_=>rfl
 | _ :: rs,_ :: xs,_,_,_,⟨_,_,_,_,_,_,hA⟩=>by rw [List.length_cons,List.length_cons,Zr hA]
 | [],_ :: _,_,_,_,h=>h.elim
 | _ :: _,[],_,_,_,h=>h.elim
def Y5 (rs:List (In α)) (xs:List α):SP where
 h:=Lv rs xs
 p:=false
 st:=ZU
 up:=tW
 pers:=by simp
def ds (c:Value) (xs:List α):SP where
 h w M F:=∃ rs:List (In α),Bb [os c rs,Y5 rs xs] w M F
 p:=false
 st:=fun ⟨rs,h⟩ e k=>⟨rs,Gl h e k⟩
 up:=fun ⟨rs,h⟩ e=>⟨rs,Fg h e⟩
 pers:=by simp
theorem XB {c:Value} {xs:List α} {w M F} (h:(ds c xs).h w M F):∃ rs:List (In α),rs.length=xs.length/\(os c rs).h w M F:=by
 obtain ⟨rs,F1,F2,h1,h2,hd,ho,G1,G2,g1,g2,gd,hb,_⟩:=h;exact ⟨rs,Zr hb,(os c rs).up ho h1⟩
theorem iY {c:Value} {xs:List α} {w M F} (h:(ds c xs).h w M F):∃ a k,c=.slice a xs.length k:=by
 obtain ⟨rs,hl,ho⟩:=XB h;rw [<- hl]; exact VM ho
theorem oA (c:Value) (xs:List α):M5 (ds c xs) c xs.length (Rep.sz α):=fun h=>by
 obtain ⟨rs,hl,ho⟩:=XB h;rw [<- hl]; exact SK c rs ho
theorem kL (c:Value) (xs:List α):OO (ds c xs) c xs.length:=fun h=>iY h
theorem j7 {β:Type} [Rep β] {w:World} {M M':Ba} {c:Value} {xs:List β} (h:Cg w M c xs) (hm:∀ b,M' b->M b):Cg w M' c xs:=
 Dr h ⟨rfl,rfl,rfl,Nat.le_refl _,fun b _ hb=>⟨fun h=>hb (hm b h),rfl⟩⟩
theorem vX {β:Type} [Rep β] {c:Value} {xs:List β} {w:World} {M G:Ba} (h:(os c xs).h w M G):Cg w (fun b=>M b/\¬ G b) c xs:=by
 obtain ⟨hb,a,k,hc,hk,h⟩:=h;cases a with
 | none=>exact ⟨hb,none,k,hc,hk,h⟩
 | some ad=>
  obtain ⟨cells,T,q0,q1,q2,q3,q4⟩:=h;exact ⟨hb,some ad,k,hc,hk,.inr ⟨cells,T,(0,0),q0,q2,fun h=>h.2 q1,IJ q4 ⟨rfl,rfl,rfl,Nat.le_refl _,fun b _ hb=>⟨fun h=>hb h.1,rfl⟩⟩⟩⟩
end
section
variable {α:Type} [Rep α] [RepD α]
end
section
variable {α:Type} [Rep α] [RepD α]
def dh (c:Value) (xs:List α) (i:Nat) (cs:List Value):SP where
 h w M F:=∃ rs:List (In α),rs.length=xs.length/\i < xs.length/\rs.getD i default=⟨cs⟩/\Bb [os c rs,Y5 (rs.eraseIdx i) (xs.eraseIdx i)] w M F
 p:=false
 st:=fun ⟨rs,h1,h2,h3,h⟩ e k=>⟨rs,h1,h2,h3,Gl h e k⟩
 up:=fun ⟨rs,h1,h2,h3,h⟩ e=>⟨rs,h1,h2,h3,Fg h e⟩
 pers:=by simp
theorem WV {c:Value} {xs:List α} {i:Nat} {cs:List Value} {w M F} (h:(dh c xs i cs).h w M F):∃ rs:List (In α),rs.length=xs.length/\i < xs.length/\rs.getD i default=⟨cs⟩/\(os c rs).h w M F:=by
 obtain ⟨rs,h1,h2,h3,F1,F2,k1,k2,kd,ho,_⟩:=h;exact ⟨rs,h1,h2,h3,(os c rs).up ho k1⟩
theorem j8 (c:Value) (xs:List α) (i:Nat) (cs:List Value):M5 (dh c xs i cs) c xs.length (Rep.sz α):=fun h=>by
 obtain ⟨rs,hl,_,_,ho⟩:=WV h;rw [<- hl]; exact SK c rs ho
theorem QM (c:Value) (xs:List α) (i:Nat) (cs:List Value):Fy (dh c xs i cs) (BZ (Rep.sz α) c i) cs:=fun h=>by
 obtain ⟨rs,hl,hi,hg,ho⟩:=WV h;obtain ⟨hb,ao,k,hc,hk,hh⟩:=ho;cases ao with
 | none=>have:=hh.1; subst this; simp at hl; omega
 | some ad=>
  obtain ⟨cells,T,h0,h1,h2,h3,h4⟩:=hh;have hi':i < rs.length:=by omega
  obtain ⟨ecs,e1,e2,_⟩:=h4 i rs[i] (List.getElem?_eq_getElem hi');have e3:rs[i]=⟨cs⟩:=by rw [<- hg]; simp [List.getD,List.getElem?_eq_getElem hi']
  rw [e3] at e2;obtain ⟨b,off,sp⟩:=ad
  simp at h0; subst h0
  refine ⟨b,off+i*Rep.sz α,by rw [hc]; simp [BZ,CS],fun j u hu=>?_⟩;have hx:=e1 j u (by rw [e2]; exact hu);have e4:off+i*Rep.sz α+j=off+i*Rep.sz (In α)+j:=rfl;rw [e4];simp only [World.cell?,h2];exact hx
theorem Ud (c:Value) (xs:List α) (i:Nat) (cs:List Value):H4 (dh c xs i cs) (BZ (Rep.sz α) c i):=fun h=>by
 obtain ⟨b,off,e,_⟩:=QM c xs i cs h;exact ⟨b,off,e⟩
end
section
variable {P:Program} {L:At} {A:List SP} {o:Oper}
theorem AL.post {γ:Type} {V:γ->Value} {B B':γ->List SP} (h:AL P L A o V B) (e:∀ g,Aj (B g) (B' g)):AL P L A o V B':=fun ρ hρ w M F ok hs=>by
 obtain ⟨g,w',M',F',hr,s,hB⟩:=h ρ hρ w M F ok hs;obtain ⟨M2,F2,s2,hB2⟩:=e g w' M' F' s.ok hB;exact ⟨g,w',M2,F2,hr,s.trans s2,hB2⟩
theorem AZ.post {B B':List SP} (h:AZ P L A o B) (e:Aj B B'):AZ P L A o B':=fun ρ hρ w M F ok hs=>by
 obtain ⟨w',M',F',hr,s,hB⟩:=h ρ hρ w M F ok hs;obtain ⟨M2,F2,s2,hB2⟩:=e w' M' F' s.ok hB;exact ⟨w',M2,F2,hr,s.trans s2,hB2⟩
variable {α:Type} [Rep α] [RepD α]
end
def fT (f:Value->SP):SP where
 h w M F:=∃ c,(f c).h w M F
 p:=false
 st:=fun ⟨c,h⟩ e k=>⟨c,(f c).st h e k⟩
 up:=fun ⟨c,h⟩ e=>⟨c,(f c).up h e⟩
 pers:=by simp
def uC (A:List SP):SP where
 h w M F:=Bb A w M F
 p:=false
 st:=Gl
 up:=Fg
 pers:=by simp
abbrev D {α:Type} [Rep α] [RepD α] (a:Option Addr) (k:Nat) (xs:List α):SP:=ds (.slice a xs.length k) xs
theorem pR {β:Type} [Rep β] {c:Value} {xs:List β} {w:World} {M G G':Ba} (h:(os c xs).h w M G) (hg:∀ b,G b->G' b):Cg w (fun b=>M b/\¬ G' b) c xs:=
 j7 (vX h) (fun b hb=>⟨hb.1,fun h=>hb.2 (hg b h)⟩)
section
variable {C:Cx} {X:Act->World->Prop} {L:At} {A Ar B:List SP} {R:SP}
end
theorem iE {β:Type} [Rep β] {w:World} {M:Ba} {c:Value} {xs:List β} (h:Cg w M c xs):Rep.rd (α:=List β) w M [c] xs:=⟨c,rfl,h⟩
instance xG {β:Type} [Rep β]:RepD (List β) where
 inn cs x:=fT fun c=>uC [SP.fact (cs=[c]),os c x]
 one:=by
  rintro cs x w M F ⟨c,F1,F2,k1,k2,kd,rfl,G1,G2,g1,g2,gd,ho,_⟩;exact ⟨rfl,fun v hv=>by simp at hv; subst hv; exact Gn ho⟩
 frz:=by
  rintro cs x w M G ⟨c,F1,F2,k1,k2,kd,rfl,G1,G2,g1,g2,gd,ho,_⟩;exact iE (pR ho (fun b h=>k2 b (g1 b h)))
section
variable {P:Program} {L:At} {A:List SP} {o:Oper} {α:Type} [Rep α] [RepD α] {C:Cx} {X:Act->World->Prop}
end
theorem B0 {xs:List Aa} {i:Nat} (h:xs.all (fun s=>Nat.ble s.b.length 1000)=true):(xs.getD i default).b.length<=140737488355328:=by
 rw [List.getD_eq_getElem?_getD];cases e:xs[i]? with
 | none=>exact Nat.zero_le _
 | some y=>exact Nat.le_trans (Nat.le_of_ble_eq_true (List.all_eq_true.1 h y (List.mem_of_getElem? e))) (by omega)
end Go.SL
namespace Go.SL
open Go
def RX (P:Program):List Field->Nat->Bool
 | [],_=>true
 | f :: fs,i=>f.offset == i && P.cellsOf f.type == 1 && (match P.underlying f.type with | some (.int .i64)=>true | _=>false) && RX P fs (i+1)
def P3 (P:Program) (k:TypeId) (n:Nat):Bool:=match P.underlying k with
 | some (.struct fs) => P.keyType k && P.cellsOf k == n && fs.size == n && fs.all (·.name != "_") && RX P fs.toList 0 && decide (0 < P.types.size) && P.keyTypeAt 2 k && P.tiled 2 k
 | _=>false
theorem X3 {P:Program} {d:Nat} (xs:List Int) (hx:∀ x∈xs,Af x):∀ (fs:List Field) (i:Nat),RX P fs i=true->i+fs.length=xs.length ->
  ∃ r,(fs.mapM fun f=>P.keyLits (d+1) f.type (((xs.map vi).drop f.offset).take (P.cellsOf f.type)))=some r
 | [],i,_,_=>⟨[],by simp⟩
 | f :: fs,i,h,hl=>by
  simp only [RX,Bool.and_eq_true,beq_iff_eq] at h;obtain ⟨⟨⟨h1,h2⟩,h3⟩,h4⟩:=h;rw [List.length_cons] at hl;obtain ⟨r,hr⟩:=X3 xs hx fs (i+1) h4 (by omega);have hi:i < xs.length:=by omega
  have hd:((xs.map vi).drop f.offset).take (P.cellsOf f.type)=[vi xs[i]]:=by
   rw [h1,h2,List.drop_eq_getElem_cons (by simpa using hi)]
   simp
  have hw:(Lit.int .i64 xs[i]).wf=true:=sP (hx _ (List.getElem_mem hi));refine ⟨[Lit.int .i64 xs[i]] :: r,?_⟩;rw [List.mapM_cons,hd];have e:P.keyLits (d+1) f.type [vi xs[i]]=some [Lit.int .i64 xs[i]]:=by
   cases hu:P.underlying f.type with
   | none=>rw [hu] at h3; cases h3
   | some t=>
    rw [hu] at h3;cases t with
    | int q=>cases q <;> first | (cases h3; done) | (unfold Program.keyLits; simp [hu,vi,hw])
    | _=>cases h3
  rw [e,hr]; rfl
theorem kT {P:Program} {k:TypeId} {n:Nat} (h:P3 P k n=true) (xs:List Int) (hl:xs.length=n) (hx:∀ x∈xs,Af x):∃ l,keyOf P k (.agg (xs.map vi).toArray)=some l:=by
 unfold P3 at h;cases hu:P.underlying k with
 | none=>rw [hu] at h; cases h
 | some t=>
  rw [hu] at h;cases t with
  | struct fs=>
   simp only [Bool.and_eq_true,beq_iff_eq,decide_eq_true_eq] at h;obtain ⟨⟨⟨⟨⟨⟨⟨h1,h2⟩,h3⟩,h4⟩,h5⟩,h6⟩,_⟩,_⟩:=h;obtain ⟨d,hd⟩:∃ d,P.types.size=d+1:=⟨P.types.size - 1,by omega⟩;obtain ⟨r,hr⟩:=X3 (P:=P) (d:=d) xs hx fs.toList 0 h5 (by simp [h3,hl]);have e:P.keyLits (P.types.size+1) k (xs.map vi)=some r.flatten:=by
    unfold Program.keyLits;rw [hu];simp only [List.length_map,hl,h2,h4,and_self,if_true,hd,hr,Option.map_some]
   refine ⟨.string (keyBytes r.flatten),?_⟩;unfold keyOf;rw [hu]
   simp [h1,Value.formed,hu,hl,h2,Value.cells,e]
  | _=>cases h
theorem fG {P:Program} {k:TypeId} {n:Nat} {κ:Type} (f:κ->List Int) (ok:κ->Prop) (h:P3 P k n=true) (hi:∀ x y,f x=f y->x=y) (hl:∀ x,(f x).length=n) (ho:∀ x,ok x->∀ y∈f x,Af y) :
  KK P k (fun x=>.agg ((f x).map vi).toArray) ok:=by
 refine ⟨?_,fun x hx=>kT h (f x) (hl x) (ho x hx),fun x y e=>hi x y ?_⟩
 ·unfold P3 at h;cases hu:P.underlying k with
  | none=>rw [hu] at h; cases h
  | some t=>
   rw [hu] at h;cases t with
   | struct fs=>
    simp only [Bool.and_eq_true,beq_iff_eq,decide_eq_true_eq] at h;exact Maps.Keyed.of_law (deep_law (m:=2) (by omega) h.1.2 h.2 (by rw [hu]))
   | _=>cases h
 ·have e':((f x).map vi)=((f y).map vi):=by simpa using e
  have inj:∀ a b:Int,vi a=vi b->a=b:=fun a b hab=>by simpa [vi] using hab
  clear hi;generalize f x=a at e' ⊢; generalize f y=b at e' ⊢
  induction a generalizing b with
  | nil=>cases b with | nil=>rfl | cons _ _=>simp at e'
  | cons u a ih=>cases b with
   | nil=>simp at e'
   | cons v b=>simp only [List.map_cons,List.cons.injEq] at e'; rw [inj _ _ e'.1,ih _ e'.2]
theorem Pw {p:Prop} (h:p:=by (repeat' apply And.intro) <;> first | omega | (dsimp only; omega) | (unfold Af; dsimp only; omega)):p:=h
end Go.SL
namespace Go.SL
open Go
section
variable {P:Program} {L:At} {A:List SP} {o:Oper}
theorem iU {T x a n k e sz by_} {α:Type} [Rep α] {xs:List α} {lo:Option Operand} (hT:Bw P T=some (e,sz,by_)) (m l:Nat) (hop:o.op=.slice T x lo none none:=by exact rfl) (hx:L.ev x=some (.slice a n k):=by exact rfl) (hA:A[m]? = some (os (.slice a n k) xs):=by exact rfl)
  (hlo:Gm L lo 0 l:=by first | exact rfl | exact ⟨_,NQ rfl (by omega)⟩) (hl:l < xs.length:=by exact AD):Ax P L A o (.slice (a.map (·.add (l*sz))) (n - l) (k - l)):=fun ρ hρ w M F ok hs=>by
 obtain ⟨hb,a',k',hc,hk,hh⟩:=Cb hA hs;injection hc with c1 c2 c3
 subst c1; subst c2; subst c3;have:=UZ (P:=P) l xs.length k hop hx hT hlo rfl rfl (by omega) (by omega) (Nat.le_refl _) (fun _=>rfl) ρ hρ w;rw [if_neg (by omega)] at this;exact this
end
section
variable {C:Cx} {ks:List Kn} {L:At} {A:List SP} {o:Oper} {ops:Array Oper} {rest:List Oper}
theorem gK {γ:Type} {V:γ->Value} {B:γ->List SP} (hg:o.guard=none) (hd:o.dst=none) (hv:AL C.P L A o V B)
  (h:∀ g,JO C ops rest ks L (B g)):JO C ops (o :: rest) ks L A:=by
 intro a w M F st;refine wpList_plain hg fun K hK=>?_;obtain ⟨g,w',M',F',hr,hs,hsp⟩:=hv a.eval (fun x u hx=>At.sat_eval st.sat hx) w M F st.step.ok st.sp;rw [Oper.wp,hr,Oper.upon_value,hd];exact hK _ _ (h g _ w' M' F' ⟨st.step.trans hs,st.sz,st.df,st.sat,hsp⟩)
theorem uE {γ:Type} {V:γ->Value} {B:γ->List SP} (hv:AL C.P L A o V B) (h:∀ g,JO C ops rest ks L (B g)) (hg:Jv C ops L o:=by first | exact gn rfl | exact gt rfl rfl rfl rfl) (hd:o.dst=none:=by exact rfl):JO C ops (o :: rest) ks L A:=
 Qf hg (gK rfl hd hv h)
end
end Go.SL
namespace Go.SL
open Go
section
variable {κ α:Type}
abbrev ZL (κ α:Type):=List ((κ×Value)×List α)
def zr (z:ZL κ α):List (κ×Value):=z.map (·.1)
def zm (z:ZL κ α):List (κ×List α):=z.map fun x=>(x.1.1,x.2)
theorem qS {z:ZL κ α} {r1 r2:List (κ×Value)} {e:κ×Value} (h:zr z=r1++e :: r2):∃ z1 x z2,z=z1++x :: z2/\r1=zr z1/\e=x.1/\r2=zr z2:=by
 obtain ⟨z1,z',e1,e2,e3⟩:=List.map_eq_append_iff.1 h;cases z' with
 | nil=>cases e3
 | cons x z2=>
  simp only [List.map_cons,List.cons.injEq] at e3;exact ⟨z1,x,z2,e1,e2.symm,e3.1.symm,e3.2.symm⟩
end
section
variable {P:Program} {L:At} {A:List SP} {o:Oper} {κ α:Type} [Rep α] {ek:κ->Value} {ok:κ->Prop} {p:Value} {m:List (κ×List α)}
inductive C5 (w:World) (M:Ba):List (κ×Value)->List (κ×List α)->Prop
 | nil:C5 w M [] []
 | cons {r:κ×Value} {x:κ×List α} {raw m} (h:r.1=x.1/\Cg w M r.2 x.2) (t:C5 w M raw m):C5 w M (r :: raw) (x :: m)
theorem C5.st {w M w' M'} {raw:List (κ×Value)} {m:List (κ×List α)} (h:C5 w M raw m) (e:FZ w M w' M'):C5 w' M' raw m:=by
 induction h with
 | nil=>exact C5.nil
 | cons h _ ih=>exact C5.cons ⟨h.1,Dr h.2 e⟩ ih
theorem C5.get [DecidableEq κ] {w M} {raw:List (κ×Value)} {m:List (κ×List α)} (h:C5 w M raw m) (k:κ):(Bx raw k).isSome=(Bx m k).isSome/\Cg w M ((Bx raw k).getD (.slice none 0 0)) ((Bx m k).getD []):=by
 induction h with
 | nil=>exact ⟨rfl,NC⟩
 | @cons r x _ _ h _ ih=>
  obtain ⟨a,u⟩:=r; obtain ⟨b,xs⟩:=x;obtain ⟨h1,h2⟩:=h;dsimp only at h1 h2; subst h1;simp only [Bx];by_cases e:a=k
  ·simp only [if_pos e,Option.isSome_some,Option.getD_some]; exact ⟨trivial,h2⟩
  ·simp only [if_neg e]; exact ih
theorem C5.set [DecidableEq κ] {w M} {raw:List (κ×Value)} {m:List (κ×List α)} (h:C5 w M raw m) (k:κ) {c:Value} {xs:List α} (hc:Cg w M c xs):C5 w M (SL.mset raw k c) (SL.mset m k xs):=by
 induction h with
 | nil=>exact C5.cons ⟨rfl,hc⟩ C5.nil
 | @cons r x _ _ h ht ih=>
  obtain ⟨a,u⟩:=r; obtain ⟨b,ys⟩:=x;obtain ⟨h1,h2⟩:=h;dsimp only at h1 h2; subst h1;simp only [SL.mset];by_cases e:a=k
  ·rw [if_pos e,if_pos e]; exact C5.cons ⟨rfl,hc⟩ ht
  ·rw [if_neg e,if_neg e]; exact C5.cons ⟨rfl,h2⟩ ih
theorem C5.keys {w M} {raw:List (κ×Value)} {m:List (κ×List α)} (h:C5 w M raw m):raw.map (·.1)=m.map (·.1):=by
 induction h with
 | nil=>rfl
 | cons h _ ih=>simp [h.1,ih]
def MS (α:Type) [Rep α] (ek:κ->Value) (ok:κ->Prop) (p:Value) (m:List (κ×List α)):SP where
 h w M F:=∃ raw,(Mp ek (id:Value->Value) ok p raw).h w M F/\C5 w M raw m
 p:=false
 st:=by
  rintro w M F w' M' ⟨raw,h1,h2⟩ e k;exact ⟨raw,(Mp ek id ok p raw).st h1 e k,h2.st e⟩
 up:=by
  rintro w M F F' ⟨raw,h1,h2⟩ e;exact ⟨raw,(Mp ek id ok p raw).up h1 e,h2⟩
 pers:=by simp
theorem Fh {R:SP} {w:World} {M F:Ba} (h:R.h w M F):Bb [R] w M F:=⟨F,fun _=>False,fun _ h=>h,fun _ h=>h.elim,fun _ _ h=>h,h,trivial⟩
theorem GO {R:SP} {w:World} {M F:Ba} (h:Bb [R] w M F):R.h w M F:=by
 obtain ⟨F1,F2,h1,h2,hd,hR,_⟩:=h;exact R.up hR h1
theorem XG {T} (hop:o.op=.makeMap T none:=by exact rfl):AL P L A o (fun p:Value=>p) (fun p=>MS α ek ok p [] :: A):=fun ρ hρ w M F okw hs=>by
 obtain ⟨g,w',M',F',h1,h2,F1,F2,k1,k2,kd,hr,hA⟩:=(SY (ek:=ek) (ev:=(id:Value->Value)) (ok:=ok) hop) ρ hρ w M F okw hs;exact ⟨g,w',M',F',h1,h2,F1,F2,k1,k2,kd,⟨[],hr,C5.nil⟩,hA⟩
theorem tV [DecidableEq κ] {T x y kt et} {key:κ} (i:Nat) (ht:HZ P T=some (kt,et)) (hK:KK P kt ek ok) (hz:C6 P et=some (.slice none 0 0)) (hk:ok key) (hA:A[i]? = some (MS α ek ok p m):=by exact rfl) (hop:o.op=.lookup T x y false:=by exact rfl)
  (hx:L.ev x=some p:=by exact rfl) (hy:L.ev y=some (ek key):=by exact rfl):AL P L A o (fun c:Value=>c) (fun c=>sl c ((Bx m key).getD []) :: A):=fun ρ hρ w M F okw hs=>by
 obtain ⟨raw,h1,h2⟩:=Cb hA hs;have hr:=(Ax.mlook (A:=[Mp ek id ok p raw]) (o:=o) (Value.slice none 0 0) 0 rfl hop (L7 ht) hK hx hy hk hz) ρ hρ w M F okw (Fh h1);exact ⟨_,w,M,F,hr,Bo.refl okw,fun _=>False,F,fun _ h=>h.elim,fun _ h=>h,fun _ h _=>h,(h2.get key).2,hs⟩
theorem tB [DecidableEq κ] {T x y kt et} {key:κ} (i:Nat) (ht:HZ P T=some (kt,et)) (hK:KK P kt ek ok) (hz:C6 P et=some (.slice none 0 0)) (hk:ok key) (hA:A[i]? = some (MS α ek ok p m):=by exact rfl) (hop:o.op=.lookup T x y true:=by exact rfl)
  (hx:L.ev x=some p:=by exact rfl) (hy:L.ev y=some (ek key):=by exact rfl):AL P L A o (fun c:Value=>.tuple #[c,.bool (Bx m key).isSome]) (fun c=>sl c ((Bx m key).getD []) :: A):=fun ρ hρ w M F okw hs=>by
 obtain ⟨raw,h1,h2⟩:=Cb hA hs;have hr:=(Ax.mlook (A:=[Mp ek id ok p raw]) (o:=o) (Value.slice none 0 0) 0 rfl hop (L7 ht) hK hx hy hk hz) ρ hρ w M F okw (Fh h1);rw [(h2.get key).1] at hr;exact ⟨_,w,M,F,hr,Bo.refl okw,fun _=>False,F,fun _ h=>h.elim,fun _ h=>h,fun _ h _=>h,(h2.get key).2,hs⟩
theorem mG [DecidableEq κ] {T x y kt et} {key:κ} (i:Nat) (ht:HZ P T=some (kt,et)) (hK:KK P kt ek ok) (hz:C6 P et=some (.slice none 0 0)) (hk:ok key) (hab:(Bx m key).isSome=false) (hA:A[i]? = some (MS α ek ok p m):=by exact rfl) (hop:o.op=.lookup T x y false:=by exact rfl)
  (hx:L.ev x=some p:=by exact rfl) (hy:L.ev y=some (ek key):=by exact rfl):Ax P L A o (.slice none 0 0):=fun ρ hρ w M F okw hs=>by
 obtain ⟨raw,h1,h2⟩:=Cb hA hs;have hr:=(Ax.mlook (A:=[Mp ek id ok p raw]) (o:=o) (Value.slice none 0 0) 0 rfl hop (L7 ht) hK hx hy hk hz) ρ hρ w M F okw (Fh h1);have hn:Bx raw key=none:=by
  have:=(h2.get key).1;rw [hab] at this;cases e:Bx raw key with
  | none=>rfl
  | some v=>rw [e] at this; cases this
 rw [hn] at hr;exact hr
theorem AZ.msets [DecidableEq κ] {T x y z kt et} {key:κ} {c:Value} {xs:List α} (hop:o.op=.mapUpdate T x y z) (ht:P.underlying T=some (.map kt et)) (hK:KK P kt ek ok)
  (hx:L.ev x=some p) (hy:L.ev y=some (ek key)) (hk:ok key) (hv:L.ev z=some c):AZ P L [MS α ek ok p m,sl c xs] o [MS α ek ok p (SL.mset m key xs)]:=fun ρ hρ w M F okw hs=>by
 obtain ⟨F1,F2,k1,k2,kd,⟨raw,h1,h2⟩,hs2⟩:=hs;have hc:Cg w M c xs:=GO hs2;obtain ⟨w',M',F',e1,e2,e3⟩:=(AZ.mset (ev:=(id:Value->Value)) (l:=raw) (v:=c) hop ht hK hx hy hk hv) ρ hρ w M F okw (Fh ((Mp ek id ok p raw).up h1 k1));exact ⟨w',M',F',e1,e2,Fh ⟨_,GO e3,(h2.set key hc).st e2.ext⟩⟩
theorem AZ.insert {B:List SP} {T x y z} (hop:o.op=.insert T x y z) (h:AZ P L A { o with op:=.mapUpdate T x y z } B):AZ P L A o B:=fun ρ hρ w M F okw hs=>by
 obtain ⟨w',M',F',e1,e2,e3⟩:=h ρ hρ w M F okw hs;refine ⟨w',M',F',?_,e2,e3⟩;rw [<- e1];simp only [execOp,hop]
theorem hP [DecidableEq κ] {T x y z kt et} {key:κ} {c:Value} {Ar:List SP} (is:List Nat) (ht:HZ P T=some (kt,et)) (hK:KK P kt ek ok) (xs:List α) (hk:ok key) (hop:o.op=.mapUpdate T x y z:=by exact rfl) (hA:take A is=some ([MS α ek ok p m,sl c xs],Ar):=by exact rfl)
  (hx:L.ev x=some p:=by exact rfl) (hy:L.ev y=some (ek key):=by exact rfl) (hv:L.ev z=some c:=by exact rfl):AZ P L A o ([MS α ek ok p (SL.mset m key xs)]++Ar):=
 AZ.frame is hA (AZ.msets hop (L7 ht) hK hx hy hk hv)
theorem rA [DecidableEq κ] {T x y z kt et} {key:κ} {c:Value} {Ar:List SP} (is:List Nat) (ht:HZ P T=some (kt,et)) (hK:KK P kt ek ok) (xs:List α) (hk:ok key) (hop:o.op=.insert T x y z:=by exact rfl) (hA:take A is=some ([MS α ek ok p m,sl c xs],Ar):=by exact rfl)
  (hx:L.ev x=some p:=by exact rfl) (hy:L.ev y=some (ek key):=by exact rfl) (hv:L.ev z=some c:=by exact rfl):AZ P L A o ([MS α ek ok p (SL.mset m key xs)]++Ar):=
 AZ.insert hop (AZ.frame is hA (AZ.msets rfl (L7 ht) hK hx hy hk hv))
theorem WQ {C:Cx} {ks:List Kn} {X:Act->World->Prop} (i:Nat) (h:∀ b,p=mv b->JJ C X L A) (hA:A[i]? = some (MS α ek ok p m):=by exact rfl):JJ C X L A:=
 HV (φ:=∃ b,p=mv b) i hA (fun hp=>by obtain ⟨raw,⟨b,_,_,h2,_⟩,_⟩:=hp; exact ⟨b,h2⟩) (fun ⟨b,hb⟩=>h b hb)
def cR (α:Type) [Rep α] (ek:κ->Value) (ok:κ->Prop) (p:Value) (m:List (κ×List α)) (k:κ) (st:Int):SP where
 h w M F:=∃ b q,∃ raw:List (κ×Value),∃ (i:Nat) (v:Value),F b/\p=.map (some b)/\q.Perm raw/\C5 w M raw m/\(q.map (·.1)).Nodup/\(∀ e∈q,ok e.1)/\w.heap[b]? = some (.map (B4 ek id q) q.length)/\q[i]? = some (k,v)/\st=(i:Int)
 p:=false
 st:=by
  rintro w M F w' M' ⟨b,q,raw,i,v,h1,h2,h3,h4,h5,h6,h7,h8⟩ e k;exact ⟨b,q,raw,i,v,h1,h2,h3,h4.st e,h5,h6,(k b h1).trans h7,h8⟩
 up:=by
  rintro w M F F' ⟨b,q,raw,i,v,h1,h2⟩ e;exact ⟨b,q,raw,i,v,e b h1,h2⟩
 pers:=by simp
theorem uI {ν:Type} {ev:ν->Value} {q:List (κ×ν)} {i:Nat} {k:κ} {u:ν} (v:ν) (h:q[i]? = some (k,u)):(B4 ek ev q).modify i (fun e=>{ e with val:=ev v })=B4 ek ev (q.set i (k,v)):=by
 rw [<- dB v h];apply Array.ext_getElem?;intro j;rw [Array.getElem?_modify,Array.getElem?_modify];by_cases hj:i=j
 ·subst hj; simp [NB,h]
 ·simp [hj]
theorem nJ [DecidableEq κ] {T x y kt et} {key:κ} {Ar:List SP} (is:List Nat) (ht:HZ P T=some (kt,et)) (hK:KK P kt ek ok) (hz:C6 P et=some (.slice none 0 0)) (hk:ok key) (hab:(Bx m key).isSome=false) (hop:o.op=.mapEntry T x y:=by exact rfl) (hA:take A is=some ([MS α ek ok p m],Ar):=by exact rfl)
  (hx:L.ev x=some p:=by exact rfl) (hy:L.ev y=some (ek key):=by exact rfl) :
  AL P L A o (fun g:Int=>.tuple #[.slice none 0 0,.int .i64 g]) (fun g=>[cR α ek ok p (SL.mset m key ((Bx m key).getD [])) key g]++Ar):=AL.frame is hA <| fun ρ hρ w M F okw hs=>by
 obtain ⟨raw,⟨b,q,h1,rfl,h3,h4,h5,h6⟩,hr⟩:=GO hs;obtain ⟨lx,hl⟩:=hK.rd key hk;have hc:=hK.K.check w false hl;have ho:(getObj b).run P w=.ok (.map (B4 ek id q) q.length) w:=by simp [getObj,Sem.run,h6]
 have hset:∀ ob,(setObj b ob).run P w=.ok () { w with heap:=w.heap.setIfInBounds b ob }:=fun ob=>by simp [setObj,Sem.run,h6]
 have hg:=Tl h3 h4 key;have hgm:=hr.get key;have hkr:Bx raw key=none:=by
  have:=hgm.1;rw [hab] at this;cases e:Bx raw key with
  | none=>rfl
  | some v=>rw [e] at this; cases this
 rw [hkr] at hgm;have hk0:key ∉ q.map (·.1):=O4.1 (hg.trans hkr);rcases Vs (ev:=(id:Value->Value)) hK h4 h5 hk w with ⟨e1,e2⟩ | ⟨j,u,e1,e2⟩
 ·have hs1:=SG okw h1 (.map (B4 ek id (q++[(key,.slice none 0 0)])) (q.length+1));have hR:C5 w M (SL.mset raw key (.slice none 0 0)) (SL.mset m key ((Bx m key).getD [])):=hr.set key hgm.2;refine ⟨(q.length:Int),_,M,F,?_,hs1,?_⟩
  ·have hpush:(B4 ek id q).push { key:=ek key,val:=Value.slice none 0 0,born:=q.length }=B4 ek id (q++[(key,.slice none 0 0)]):=YA q key (.slice none 0 0)
   simp [execOp,hop,hρ _ _ hx,hρ _ _ hy,Instr.mapEntry,run_underlying (L7 ht),ho,hc,e1,OV hz,hpush,hset,goInt]
  ·refine Fh ⟨b,q++[(key,.slice none 0 0)],SL.mset raw key (.slice none 0 0),q.length,.slice none 0 0,h1,rfl,?_,hR.st hs1.ext,?_,?_,?_,by simp,rfl⟩
   ·rw [VA _ (O4.1 hkr)]; exact h3.append_right _
   ·rw [List.map_append,List.nodup_append];exact ⟨h4,by simp,fun a ha c hc' e=>by simp at hc'; subst hc'; exact hk0 (e ▸ ha)⟩
   ·intro e he;rcases List.mem_append.1 he with he | he
    ·exact h5 e he
    ·rw [List.mem_singleton.1 he]; exact hk
   ·have:=Tf h6 (.map (B4 ek id (q++[(key,.slice none 0 0)])) (q.length+1))
    simpa using this
 ·exact absurd (List.mem_map_of_mem (f:=(·.1)) (List.mem_of_getElem? e2)) hk0
theorem gW {ν:Type} {ev:ν->Value} {q:List (κ×ν)} {i:Nat} (hi:i < q.length):(B4 ek ev q).findIdx? (fun e=>(e.born:Int) == (i:Int))=some i:=by
 rw [Array.findIdx?_eq_some_iff_getElem];have hsz:(B4 ek ev q).size=q.length:=by
  have:=congrArg List.length (NT (ek:=ek) (ev:=ev) q);simp only [Array.length_toList,List.length_map] at this;rw [this]; have:=congrArg List.length (QO 0 q); simpa using this
 have hb:∀ (j:Nat) (hj:j < (B4 ek ev q).size),((B4 ek ev q)[j]).born=j:=fun j hj=>by
  have h:=NB (ek:=ek) (ev:=ev) q j;rw [Array.getElem?_eq_getElem hj,List.getElem?_eq_getElem (by omega)] at h;simp only [Option.map_some,Option.some.injEq] at h;rw [h]
 refine ⟨by omega,by rw [hb]; simp,fun j hj=>?_⟩;rw [hb]; simp; omega
theorem jV [DecidableEq κ] {T x y z} {key:κ} {st:Int} {c:Value} {xs:List α} {Ar:List SP} (is:List Nat) (hop:o.op=.entryStore T x y z:=by exact rfl) (hA:take A is=some ([cR α ek ok p m key st,sl c xs],Ar):=by exact rfl)
  (hx:L.ev x=some p:=by exact rfl) (hy:L.ev y=some (.int .i64 st):=by exact rfl) (hv:L.ev z=some c:=by exact rfl):AZ P L A o ([MS α ek ok p (SL.mset m key xs)]++Ar):=
 AZ.frame is hA <| fun ρ hρ w M F okw hs=>by
 obtain ⟨F1,F2,k1,k2,kd,⟨b,q,raw,i,v,h1,rfl,h3,h4,h5,h6,h7,h8,rfl⟩,hs2⟩:=hs;have hc:Cg w M c xs:=GO hs2;have ho:(getObj b).run P w=.ok (.map (B4 ek id q) q.length) w:=by simp [getObj,Sem.run,h7]
 have hset:∀ ob,(setObj b ob).run P w=.ok () { w with heap:=w.heap.setIfInBounds b ob }:=fun ob=>by simp [setObj,Sem.run,h7]
 have hi:i < q.length:=by
  rcases Nat.lt_or_ge i q.length with h | h
  ·exact h
  ·rw [List.getElem?_eq_none h] at h8; cases h8
 have hmv:=uI (ek:=ek) (ev:=(id:Value->Value)) c h8;have hs1:=SG okw (k1 b h1) (.map (B4 ek id (q.set i (key,c))) q.length);have hnr:(raw.map (·.1)).Nodup:=(h3.map _).nodup_iff.1 h5;have hp:(q.set i (key,c)).Perm (SL.mset raw key c):=by
  have:=Z7 h3 h5 key c
  rwa [Sq c h5 h8] at this
 have hnd:((q.set i (key,c)).map (·.1)).Nodup:=by
  have:=Qy h5 key c
  rwa [Sq c h5 h8] at this
 refine ⟨_,M,F,?_,hs1,Fh ⟨SL.mset raw key c,⟨b,q.set i (key,c),k1 b h1,rfl,hp,hnd,fun e he=>?_,?_⟩,(h4.set key hc).st hs1.ext⟩⟩
 ·have hf:=gW (ek:=ek) (ev:=(id:Value->Value)) hi;have hai:(asInt (.int .i64 (i:Int))).run P w=.ok (i:Int) w:=by rfl
  have e9:(B4 ek id q).modify i (fun e=>{ e with val:=c })=B4 ek id (q.set i (key,c)):=hmv;simp only [execOp,hop,hρ _ _ hx,hρ _ _ hy,hρ _ _ hv,Instr.entryStore,Sem.run_bind,ho,hai,Result.andThen_ok,hf,e9,hset,Sem.run_pure]
 ·rcases List.mem_or_eq_of_mem_set he with he | rfl
  ·exact h6 e he
  ·exact (h6 (key,v) (List.mem_of_getElem? h8):ok key)
 ·have:=Tf h7 (.map (B4 ek id (q.set i (key,c))) q.length)
  simpa using this
theorem C5.zip {w M} {raw:List (κ×Value)} {m:List (κ×List α)} (h:C5 w M raw m):∃ z:ZL κ α,raw=zr z/\m=zm z/\∀ x∈z,Cg w M x.1.2 x.2:=by
 induction h with
 | nil=>exact ⟨[],rfl,rfl,fun x h=>by cases h⟩
 | @cons r x _ _ h _ ih=>
  obtain ⟨z,e1,e2,e3⟩:=ih;obtain ⟨a,u⟩:=r; obtain ⟨b,xs⟩:=x;obtain ⟨h1,h2⟩:=h;dsimp only at h1 h2; subst h1;refine ⟨((a,u),xs) :: z,by rw [e1]; rfl,by rw [e2]; rfl,fun x hx=>?_⟩;rcases List.mem_cons.1 hx with rfl | hx
  ·exact h2
  ·exact e3 x hx
theorem C5.of {w M}:∀ {z:ZL κ α},(∀ x∈z,Cg w M x.1.2 x.2)->C5 w M (zr z) (zm z)
 | [],_=>.nil
 | x :: z,h=>.cons ⟨rfl,h x (by simp)⟩ (C5.of fun y hy=>h y (List.mem_cons_of_mem _ hy))
def Lh (α:Type) [Rep α] (ek:κ->Value) (ok:κ->Prop) (p q:Value) (m d r:List (κ×List α)):SP where
 h w M F:=∃ a b c:ZL κ α,(Ir ek (id:Value->Value) ok p q (zr a) (zr b) (zr c)).h w M F/\m=zm a/\d=zm b/\r=zm c/\(b++c).Perm a/\∀ x∈a,Cg w M x.1.2 x.2
 p:=false
 st:=by
  rintro w M F w' M' ⟨a,b,c,h1,h2,h3,h4,h5,h6⟩ e k;exact ⟨a,b,c,(Ir ek id ok p q _ _ _).st h1 e k,h2,h3,h4,h5,fun x hx=>Dr (h6 x hx) e⟩
 up:=by
  rintro w M F F' ⟨a,b,c,h1,h2⟩ e;exact ⟨a,b,c,(Ir ek id ok p q _ _ _).up h1 e,h2⟩
 pers:=by simp
theorem o7 {T x kt et} {Ar:List SP} (is:List Nat) (ht:HZ P T=some (kt,et)) (hop:o.op=.range T x:=by exact rfl) (hA:take A is=some ([MS α ek ok p m],Ar):=by exact rfl) (hx:L.ev x=some p:=by exact rfl) :
  AL P L A o (fun q:Value=>q) (fun q=>[Lh α ek ok p q m [] m]++Ar):=AL.frame is hA <| fun ρ hρ w M F okw hs=>by
 obtain ⟨raw,h1,h2⟩:=GO hs;obtain ⟨z,e1,e2,e3⟩:=h2.zip;subst e1; subst e2;obtain ⟨g,w',M',F',r1,r2,r3⟩:=(AL.mrange (ev:=(id:Value->Value)) hop (L7 ht) hx) ρ hρ w M F okw (Fh h1);exact ⟨g,w',M',F',r1,r2,Fh ⟨z,[],z,GO r3,rfl,rfl,rfl,List.Perm.refl _,fun x hx=>Dr (e3 x hx) r2.ext⟩⟩
theorem AL.msnext {d r:List (κ×List α)} {q:Value} {x} (hop:o.op=.next x false) (hx:L.ev x=some q) :
  AL P L [Lh α ek ok p q m d r] o (fun g:Option ((κ×List α)×Value×List (κ×List α)×List (κ×List α))=>match g with | none=>.tuple #[.bool false] | some (e,c,_)=>.tuple #[.bool true,ek e.1,c])
   (fun g=>match g with | none=>[SP.fact (r=[]),Lh α ek ok p q m d []] | some (e,c,r1,r2)=>[SP.fact (r=r1++e :: r2),sl c e.2,Lh α ek ok p q m (d++[e]) (r1++r2)]):=fun ρ hρ w M F okw hs=>by
 obtain ⟨za,zb,zc,h1,rfl,rfl,rfl,h5,h6⟩:=GO hs;obtain ⟨g,w',M',F',r1,r2,r3⟩:=(AL.mnext (ev:=(id:Value->Value)) hop hx) ρ hρ w M F okw (Fh h1);rcases g with _ | ⟨e,s1,s2⟩
 ·obtain ⟨F1,F2,k1,k2,kd,hr,hA'⟩:=r3;have hz:zc=[]:=by
   cases zc with
   | nil=>rfl
   | cons a b=>cases (hr:zr (a :: b)=[])
  subst hz;refine ⟨none,w',M',F',r1,r2,fun _=>False,F',fun _ h=>h.elim,fun _ h=>h,fun _ h _=>h,rfl,Fh ⟨za,zb,[],?_,rfl,rfl,rfl,h5,fun x hx=>Dr (h6 x hx) r2.ext⟩⟩;exact (Ir ek id ok p q _ _ _).up (GO hA') k2
 ·obtain ⟨F1,F2,k1,k2,kd,hr,hA'⟩:=r3;obtain ⟨z1,y,z2,e1,rfl,rfl,rfl⟩:=qS hr;subst e1;have hy:y∈za:=h5.mem_iff.1 (by simp);refine ⟨some ((y.1.1,y.2),y.1.2,zm z1,zm z2),w',M',F',r1,r2,fun _=>False,F',fun _ h=>h.elim,fun _ h=>h,fun _ h _=>h,by simp [SP.fact,zm],fun _=>False,F',fun _ h=>h.elim,fun _ h=>h,fun _ h _=>h,Dr (h6 y hy) r2.ext,Fh ⟨za,zb++[y],z1++z2,?_,rfl,by simp [zm],by simp [zm],?_,fun x hx=>Dr (h6 x hx) r2.ext⟩⟩
  ·have:=(Ir ek id ok p q _ _ _).up (GO hA') k2;have e1:zr (zb++[y])=zr zb++[y.1]:=by simp [zr]
   have e2:zr (z1++z2)=zr z1++zr z2:=by simp [zr]
   rw [e1,e2]; exact this
  ·refine List.Perm.trans ?_ h5;simp only [List.append_assoc];exact List.Perm.append_left zb (by simpa using (List.perm_middle (a:=y) (l₁:=z1) (l₂:=z2)).symm)
theorem pJ {C:Cx} {ks:List Kn} {ops:Array Oper} {rest:List Oper} {dd r:List (κ×List α)} {q:Value} {d:Nat} {x:Operand} {ty:TypeId} {pos:String} {af:Array Edge} {Ar:List SP} (is:List Nat)
  (h0:r=[]->JO C ops rest ks ((d,.tuple #[.bool false]) :: L) (Lh α ek ok p q m dd [] :: Ar))
  (h1:∀ e c r1 r2,r=r1++e :: r2->JO C ops rest ks ((d,.tuple #[.bool true,ek e.1,c]) :: L) (sl c e.2 :: Lh α ek ok p q m (dd++[e]) (r1++r2) :: Ar))
  (hA:take A is=some ([Lh α ek ok p q m dd r],Ar):=by exact rfl) (hx:L.ev x=some q:=by exact rfl) (hn:Nat.blt d C.n=true:=by exact rfl) :
  JO C ops (⟨some d,.next x false,ty,pos,af,none⟩ :: rest) ks L A:=by
 have hop:AL C.P L A ⟨some d,.next x false,ty,pos,af,none⟩ _ _:=AL.frame is hA (AL.msnext rfl hx);refine YC rfl rfl hn hop fun g=>?_;rcases g with _ | ⟨e,c,r1,r2⟩
 ·intro a w M F st;obtain ⟨F1,F2,k1,k2,kd,hr,hA'⟩:=st.sp;exact h0 hr a w M F ⟨st.step,st.sz,st.df,st.sat,Fg hA' k2⟩
 ·intro a w M F st;obtain ⟨F1,F2,k1,k2,kd,hr,hA'⟩:=st.sp;exact h1 e c r1 r2 hr a w M F ⟨st.step,st.sz,st.df,st.sat,Fg hA' k2⟩
theorem gU {e:κ×List α} {d r:List (κ×List α)} {q:Value} {x} (i:Nat) (hA:A[i]? = some (Lh α ek ok p q m (d++[e]) r):=by exact rfl) (hop:o.op=.entry x:=by exact rfl) (hx:L.ev x=some q:=by exact rfl) :
  AL P L A o (fun c:Value=>.tuple #[ek e.1,c]) (fun c=>sl c e.2 :: A):=fun ρ hρ w M F okw hs=>by
 obtain ⟨za,zb,zc,h1,h2,h3,h4,h5,h6⟩:=Cb hA hs;have hz:∃ zb' y,zb=zb'++[y]/\(y.1.1,y.2)=e:=by
  rcases List.eq_nil_or_concat zb with h | ⟨z0,a,h⟩
  ·subst h; simp [zm] at h3
  ·rw [List.concat_eq_append] at h;subst h;simp only [zm,List.map_append,List.map_cons,List.map_nil] at h3;exact ⟨z0,a,rfl,(List.cons.inj (List.append_inj' h3 rfl).2).1.symm⟩
 obtain ⟨zb',y,rfl,rfl⟩:=hz;have hy:y∈za:=h5.mem_iff.1 (by simp);have e1:zr (zb'++[y])=zr zb'++[y.1]:=by simp [zr]
 rw [e1] at h1;have hr:=(Ax.mentry (P:=P) (A:=[Ir ek (id:Value->Value) ok p q (zr za) (zr zb'++[y.1]) (zr zc)]) (o:=o) 0 rfl hop hx) ρ hρ w M F okw (Fh h1);exact ⟨_,w,M,F,hr,Bo.refl okw,fun _=>False,F,fun _ h=>h.elim,fun _ h=>h,fun _ h _=>h,h6 y hy,hs⟩
theorem Aj.msdone {d:List (κ×List α)} {q:Value}:Aj [Lh α ek ok p q m d []] [SP.fact (d.Perm m),MS α ek ok p d]:=fun w M F okw hs=>by
 obtain ⟨za,zb,zc,h1,rfl,rfl,h4,h5,h6⟩:=GO hs;have hz:zc=[]:=by
  cases zc with
  | nil=>rfl
  | cons a b=>cases h4
 subst hz;rw [List.append_nil] at h5;obtain ⟨M',F',s,F1,F2,k1,k2,kd,hf,hm⟩:=(Aj.mdone (ev:=(id:Value->Value))) w M F okw (Fh h1);refine ⟨M',F',s,fun _=>False,F',fun _ h=>h.elim,fun _ h=>h,fun _ h _=>h,h5.map _,Fh ⟨zr zb,(Mp ek id ok p _).up (GO hm) k2,C5.of fun x hx=>Dr (h6 x (h5.mem_iff.1 hx)) s.ext⟩⟩
theorem C5.perm {w M} {raw:List (κ×Value)} {m m':List (κ×List α)} (h:C5 w M raw m) (hp:m.Perm m'):∃ raw',raw.Perm raw'/\C5 w M raw' m':=by
 induction hp generalizing raw with
 | nil=>exact ⟨raw,List.Perm.refl _,h⟩
 | cons x _ ih=>
  cases h with
  | cons h1 h2=>
   obtain ⟨r',e1,e2⟩:=ih h2;exact ⟨_ :: r',e1.cons _,.cons h1 e2⟩
 | swap x y l=>
  cases h with
  | cons h1 h2=>cases h2 with
   | cons h2 h3=>exact ⟨_ :: _ :: _,List.Perm.swap _ _ _,.cons h2 (.cons h1 h3)⟩
 | trans _ _ ih1 ih2=>
  obtain ⟨r1,a,b⟩:=ih1 h;obtain ⟨r2,c,d⟩:=ih2 b;exact ⟨r2,a.trans c,d⟩
theorem Aj.msperm {m':List (κ×List α)} (hp:m.Perm m'):Aj [MS α ek ok p m] [MS α ek ok p m']:=fun w M F okw hs=>by
 obtain ⟨raw,h1,h2⟩:=GO hs;obtain ⟨raw',h3,h4⟩:=h2.perm hp;obtain ⟨M',F',s,hm⟩:=(Aj.mperm (ev:=(id:Value->Value)) h3) w M F okw (Fh h1);exact ⟨M',F',s,Fh ⟨raw',GO hm,h4.st s.ext⟩⟩
theorem Aj.msfacts:Aj [MS α ek ok p m] [SP.fact ((m.map (·.1)).Nodup/\∀ e∈m,ok e.1),MS α ek ok p m]:=fun w M F okw hs=>by
 obtain ⟨raw,h1,h2⟩:=GO hs;obtain ⟨M',F',s,F1,F2,k1,k2,kd,hf,hm⟩:=(Aj.mfacts (ev:=(id:Value->Value))) w M F okw (Fh h1);have hk:=h2.keys;refine ⟨M',F',s,fun _=>False,F',fun _ h=>h.elim,fun _ h=>h,fun _ h _=>h,⟨hk ▸ hf.1,fun e he=>?_⟩,Fh ⟨raw,(Mp ek id ok p _).up (GO hm) k2,h2.st s.ext⟩⟩;have:e.1∈raw.map (·.1):=hk ▸ List.mem_map_of_mem he;obtain ⟨a,ha,e'⟩:=List.mem_map.1 this;rw [<- e']; exact hf.2 a ha
end
end Go.SL
namespace Go.SL
open Go
section
variable {P:Program} {L:At} {A:List SP} {o:Oper}
end
end Go.SL
namespace Go.SL
open Go
theorem Vu {α:Type} (zc:List α):∀ (n k j:Nat),k < n->j < zc.length->(List.replicate n zc).flatten[k*zc.length+j]? = zc[j]?
 | 0,k,j,h,_=>by omega
 | n+1,0,j,_,hj=>by
  rw [List.replicate_succ,List.flatten_cons,List.getElem?_append_left (by omega)]; simp
 | n+1,k+1,j,h,hj=>by
  rw [List.replicate_succ,List.flatten_cons,List.getElem?_append_right (by rw [Nat.succ_mul]; omega)];rw [show (k+1)*zc.length+j - zc.length=k*zc.length+j by rw [Nat.succ_mul]; omega];exact Vu zc n k j (by omega) hj
theorem QN {α:Type} (zc:List α) (n:Nat):(List.replicate n zc).flatten.length=n*zc.length:=by simp
theorem mV {α:Type} [Rep α] {zc:List Value} {z:α} {w:World} {M:Ba} (hz:Rep.rd w M zc z) {cells:Array Value} {off:Nat} {xs:List α} (h:B2 w M cells off xs) (l n2:Nat) (hn:l+n2=xs.length) (hf:off+xs.length*Rep.sz α<=cells.size) :
  B2 w M (cells.toList.take (off+l*Rep.sz α)++(List.replicate n2 zc).flatten++cells.toList.drop (off+l*Rep.sz α+n2*Rep.sz α)).toArray off (xs.take l++List.replicate n2 z):=by
 intro i y hy;have hzl:zc.length=Rep.sz α:=Rep.len hz;have hlen:(xs.take l++List.replicate n2 z).length=xs.length:=by simp; omega
 have hi:i < xs.length:=by
  have:=(List.getElem?_eq_some_iff.1 hy).1;omega
 have hm:xs.length*Rep.sz α=l*Rep.sz α+n2*Rep.sz α:=by rw [<- hn,Nat.add_mul]
 have hcs:(cells.toList.take (off+l*Rep.sz α)).length=off+l*Rep.sz α:=by rw [List.length_take,Array.length_toList]; omega
 by_cases c:i < l
 ·rw [List.getElem?_append_left (by simp; omega),List.getElem?_take,if_pos c] at hy;obtain ⟨ecs,h1,h2⟩:=h i y hy;refine ⟨ecs,fun j u hu=>?_,h2⟩;have hl:ecs.length=Rep.sz α:=Rep.len h2;have hj:=(List.getElem?_eq_some_iff.1 hu).1;have h3:=h1 j u hu;have h4:i*Rep.sz α+Rep.sz α<=l*Rep.sz α:=by
   have:=Nat.mul_le_mul_right (Rep.sz α) (Nat.succ_le_of_lt c)
   rwa [Nat.succ_mul] at this
  rw [List.getElem?_toArray,List.append_assoc,List.getElem?_append_left (by omega),List.getElem?_take,if_pos (by omega)]
  simpa using h3
 ·rw [List.getElem?_append_right (by simp; omega),List.getElem?_replicate] at hy
  split at hy
  ·injection hy with hy
   subst hy;refine ⟨zc,fun j u hu=>?_,hz⟩;have hj:=(List.getElem?_eq_some_iff.1 hu).1;obtain ⟨k,rfl⟩:∃ k,i=l+k:=⟨i - l,by omega⟩;have hk:k < n2:=by omega
   have h4:k*Rep.sz α+Rep.sz α<=n2*Rep.sz α:=by
    have:=Nat.mul_le_mul_right (Rep.sz α) (Nat.succ_le_of_lt hk)
    rwa [Nat.succ_mul] at this
   have e:off+(l+k)*Rep.sz α+j=(off+l*Rep.sz α)+(k*Rep.sz α+j):=by rw [Nat.add_mul]; omega
   rw [List.getElem?_toArray,List.append_assoc,e,List.getElem?_append_right (by omega),hcs,Nat.add_sub_cancel_left,List.getElem?_append_left (by rw [QN,hzl]; omega),<- hzl,Vu zc n2 k j hk hj];exact hu
  ·cases hy
theorem oV {zs:Array Value} (n:Nat) (hp:0 < zs.size):(Builtin.zeroCells zs n).toList=(List.replicate n zs.toList).flatten:=by
 refine List.ext_getElem? fun i=>?_;by_cases hi:i < n*zs.size
 ·have h1:i / zs.size < n:=(Nat.div_lt_iff_lt_mul hp).2 hi;have h2:i % zs.size < zs.toList.length:=by rw [Array.length_toList]; exact Nat.mod_lt _ hp
  have:=Vu zs.toList n (i / zs.size) (i % zs.size) h1 h2;rw [Array.length_toList,Nat.div_add_mod'] at this;rw [this];unfold Builtin.zeroCells;have h2':i % zs.size < zs.size:=Nat.mod_lt _ hp
  simp [hi,h2']
 ·rw [List.getElem?_eq_none (by simp [Builtin.zeroCells]; omega),List.getElem?_eq_none (by rw [QN,Array.length_toList]; omega)]
section
variable {P:Program} {L:At} {A:List SP} {o:Oper}
theorem AL.clearR {α:Type} [Rep α] {z:α} {zv:Value} {T x a n k n2 k2 e by_} {xs:List α} (hT:Bw P T=some (e,Rep.sz α,by_)) (hz:C6 P e=some zv) (hzr:∀ w M,Rep.rd w M zv.cells.toList z) (l:Nat) (hop:o.op=.call { callee:=.builtin .clear,args:=#[x],argTypes:=#[T] }) (hx:L.ev x=some (.slice (a.map (·.add (l*Rep.sz α))) n2 k2)) (hn:l+n2=xs.length) :
  AL P L [os (.slice a n k) xs] o (fun _:Unit=>.tuple #[]) (fun _=>[os (.slice a n k) (xs.take l++List.replicate n2 z)]):=fun ρ hρ w M F ok hs=>by
 obtain ⟨F1,F2,k1,k2',kd,⟨hb,a',k',hc,hk,hh⟩,hA⟩:=hs;injection hc with c1 c2 c3
 subst c1; subst c2; subst c3;have hlen:(xs.take l++List.replicate n2 z).length=xs.length:=by simp; omega
 have ex:∀ w',(builtin .clear #[T] o.type (#[x].map fun | .const _=>true | _=>false) (#[x].map ρ)).run P w=.ok (.value (.tuple #[])) w'->(execOp ρ o).run P w=.ok (.value (.tuple #[])) w':=fun w' h=>by
  have e:execOp ρ o=builtin .clear #[T] o.type (#[x].map fun | .const _=>true | _=>false) (#[x].map ρ):=by unfold execOp; rw [hop]; rfl
  rw [e]; exact h
 by_cases h0:n2=0
 ·subst h0;refine ⟨(),w,M,F,ex w ?_,Bo.refl ok,F1,F2,k1,k2',kd,?_,hA⟩
  ·cases a <;> simp [builtin,Builtin.clear_,hρ _ _ hx,run_underlying (EP hT)]
  ·have:xs.take l++List.replicate 0 z=xs:=by rw [List.take_of_length_le (by omega)]; simp
   rw [this]; exact ⟨hb,a,k,rfl,hk,hh⟩
 ·cases a with
  | none=>have:=hh.1; subst this; simp at hn; omega
  | some ad=>
   obtain ⟨cells,E,q0,q1,q2,q3,q4⟩:=hh;obtain ⟨b,off,sp⟩:=ad;have q0:sp=none:=q0;subst q0;have q3:off+k*Rep.sz α<=cells.size:=q3;have hkm:xs.length*Rep.sz α<=k*Rep.sz α:=Nat.mul_le_mul_right _ hk;have hm:xs.length*Rep.sz α=l*Rep.sz α+n2*Rep.sz α:=by rw [<- hn,Nat.add_mul]
   have hzl:zv.cells.toList.length=Rep.sz α:=Rep.len (hzr w M);have hst:=run_storeCells_at P b (off+l*Rep.sz α) E (List.replicate n2 zv.cells.toList).flatten 0 cells w q2 (by rw [QN,hzl]; omega) (fun v hv=>by
    obtain ⟨ys,h1,h2⟩:=List.mem_flatten.1 hv;rw [List.eq_of_mem_replicate h1] at h2;exact Rep.one (hzr w M) v h2)
   simp only [Nat.add_zero,QN,hzl] at hst;have hzc:=oV (zs:=zv.cells) n2 (by rw [<- Array.length_toList,hzl]; exact Rep.pos);have hstep:=Nu ok (k1 b q1) (cells.toList.take (off+l*Rep.sz α)++(List.replicate n2 zv.cells.toList).flatten++cells.toList.drop (off+l*Rep.sz α+n2*Rep.sz α)).toArray;refine ⟨(),_,M,F,ex _ ?_,hstep,F1,F2,k1,k2',kd,⟨by rw [hlen]; exact hb,some ⟨b,off,none⟩,k,by rw [hlen],by rw [hlen]; exact hk,_,E,rfl,q1,setRow_heap w b _ _ E (0,0) q2,?_,?_⟩,Gl hA hstep.ext (fun b' hb'=>setRow_other w b b' _ (fun e=>kd b q1 (e ▸ hb')))⟩
   ·obtain ⟨m,rfl⟩:=Nat.exists_eq_succ_of_ne_zero h0
    simp [builtin,Builtin.clear_,hρ _ _ hx,run_underlying (EP hT),OV hz,CS,hzc,hst]
   ·simp only [List.size_toArray,List.length_append,List.length_take,List.length_drop,Array.length_toList,QN,hzl];show off+k*Rep.sz α<=_;omega
   ·exact IJ (mV (hzr w M) q4 l n2 hn (show off+xs.length*Rep.sz α<=cells.size by omega)) hstep.ext
end
end Go.SL
namespace Go.SL
open Go
section
variable {κ α:Type}
end
section
variable {P:Program} {L:At} {A:List SP} {o:Oper} {κ α:Type} [Rep α] {ek:κ->Value} {ok:κ->Prop} {p:Value} {m:List (κ×List α)}
end
end Go.SL
namespace Go.SL
open Go
section
variable {κ ν:Type} [DecidableEq κ]
theorem qG {l:List (κ×ν)} {k:κ} {v:ν} (h:((mset l k v).map (·.1)).Nodup):(l.map (·.1)).Nodup:=by
 rw [Tn] at h
 split at h
 ·exact h
 ·exact (List.nodup_append.1 h).1
theorem Wh {f:List (κ×ν)->List (κ×ν)->List (κ×ν)} (h0:∀ n,f [] n=n) (h1:∀ e r n,f (e :: r) n=f r (mset n e.1 e.2)):∀ {d:List (κ×ν)},(d.map (·.1)).Nodup->∀ (n:List (κ×ν)) (k:κ),Bx (f d n) k=(Bx d k).or (Bx n k)
 | [],_,n,k=>by rw [h0]; simp [Bx]
 | (a,v) :: d,h,n,k=>by
  simp only [List.map_cons,List.nodup_cons] at h;rw [h1,Wh h0 h1 h.2,Q8];simp only [Bx];by_cases c:a=k
  ·subst c;rw [if_pos rfl,if_pos rfl,O4.2 h.1]; simp
  ·rw [if_neg c,if_neg c]
theorem TF {f:List (κ×ν)->List (κ×ν)->List (κ×ν)} (h0:∀ n,f [] n=n) (h1:∀ e r n,f (e :: r) n=f r (mset n e.1 e.2)):∀ (d n:List (κ×ν)),((f d n).map (·.1)).Nodup↔(n.map (·.1)).Nodup
 | [],n=>by rw [h0]
 | e :: d,n=>by
  rw [h1,TF h0 h1];exact ⟨qG,fun h=>Qy h _ _⟩
theorem sA {f:List (κ×ν)->List (κ×ν)->List (κ×ν)} (h0:∀ n,f [] n=n) (h1:∀ e r n,f (e :: r) n=f r (mset n e.1 e.2)) {dn m nx rs rv:List (κ×ν)} (hp:dn.Perm m) (hk:(m.map (·.1)).Nodup) (hn:(rs.map (·.1)).Nodup) (hr:f dn nx=rs) (hv:f m nx=rv):rs.Perm rv:=by
 subst hr; subst hv;have hd:(dn.map (·.1)).Nodup:=(hp.map _).nodup_iff.2 hk;refine ZM hn ((TF h0 h1 _ _).2 ((TF h0 h1 _ _).1 hn)) fun k=>?_;rw [Wh h0 h1 hd,Wh h0 h1 hk,Tl hp hd]
end
end Go.SL
namespace Go.SL
open Go
section
variable {P:Program} {L:At} {A:List SP} {o:Oper}
def Ql (a:Option Addr) (n k l sz:Nat):Value:=.slice (if k=l then a else a.map (·.add (l*sz))) (n - l) (k - l)
theorem AL.cut {T T2 x y a n k e sz by_ e2 Fs by2} {α:Type} [Rep α] {xs:List α} (l l1:Nat) (hop:o.op=.call { callee:=.builtin .append,args:=#[x,y],argTypes:=#[T,T2] })
  (hx:L.ev x=some (.slice a l k)) (hy:L.ev y=some (Ql a n k l1 sz)) (hT:Bw P T=some (e,sz,by_)) (hT2:Bw P T2=some (e2,Fs,by2)) (hs:Rep.sz α=sz) (hl1:l1=l+1) (hl:l < xs.length) :
  AL P L [os (.slice a n k) xs] o (fun c:Value=>c) (fun c=>[os c (xs.eraseIdx l)]):=fun ρ hρ w M F ok hsA=>by
 subst hl1;obtain ⟨F1,F2,k1,k2,kd,⟨hb,a',k',hc,hk,hh⟩,hA⟩:=hsA;injection hc with c1 c2 c3
 subst c1; subst c2; subst c3;have hred:∀ (r:Value) (w':World),(Builtin.append_ #[T,T2] o.type #[.slice a l k,Ql a xs.length k (l+1) sz]).run P w=.ok r w'->(execOp ρ o).run P w=.ok (.value r) w':=by
  intro r w' h;have e:execOp ρ o=builtin .append #[T,T2] o.type (#[x,y].map fun | .const _=>true | _=>false) (#[x,y].map ρ):=by unfold execOp; rw [hop]; rfl
  rw [e]
  simp [builtin,hρ _ _ hx,hρ _ _ hy,h]
 cases a with
 | none=>have:=hh.1; subst this; simp at hl
 | some ad=>
  obtain ⟨cells,E,s0,s1,s2,s3,s4⟩:=hh;obtain ⟨b,off,sp⟩:=ad
  simp at s0 s1 s2 s3 s4; subst s0
  have hbk:xs.length*sz<=k*sz:=Nat.mul_le_mul_right _ hk;have hln:(l+1)*sz<=xs.length*sz:=Nat.mul_le_mul_right _ hl;rw [hs] at s3
  let fl:List Value:=(cells.toList.drop (off+(l+1)*sz)).take ((xs.length - (l+1))*sz)
  have hfl:fl.length=(xs.length - (l+1))*sz:=by
   simp only [fl,List.length_take,List.length_drop,Array.length_toList,Nat.sub_mul]; omega
  have hflg:∀ (j:Nat) (u:Value),fl[j]? = some u->cells[off+(l+1)*sz+j]? = some u:=fun j u hu=>by
   have hj:j < fl.length:=(List.getElem?_eq_some_iff.1 hu).1;simp only [fl] at hu;rw [List.getElem?_take,if_pos (by omega),List.getElem?_drop,Array.getElem?_toList] at hu;exact hu
  have hf1:∀ u∈fl,u.oneCell'=true:=fun u hu=>by
   obtain ⟨j,hj⟩:=List.mem_iff_getElem?.1 hu;have hjl:j < fl.length:=(List.getElem?_eq_some_iff.1 hj).1;have hg:=hflg j u hj;have hsp:0 < sz:=hs ▸ Rep.pos (α:=α);have hq:l+1+j / sz < xs.length:=by
    have:j / sz < xs.length - (l+1):=(Nat.div_lt_iff_lt_mul hsp).2 (by omega);omega
   obtain ⟨ecs,e1,e2⟩:=s4 (l+1+j / sz) xs[l+1+j / sz] (List.getElem?_eq_getElem hq);have hlen:=Rep.len e2;have hm:j % sz < sz:=Nat.mod_lt _ hsp;have e3:=e1 (j % sz) (ecs[j % sz]'(by omega)) (List.getElem?_eq_getElem _);have hdm:off+(l+1+j / sz)*Rep.sz α+j % sz=off+(l+1)*sz+j:=by
    rw [hs,Nat.add_mul (l+1)];have:=Nat.div_add_mod j sz;rw [Nat.mul_comm] at this;omega
   rw [hdm,hg] at e3;injection e3 with e3
   rw [e3];exact Rep.one e2 _ (List.getElem_mem _)
  have hnew:(Builtin.firstCells sz (xs.length - (l+1)) (Ql (some ⟨b,off,none⟩) xs.length k (l+1) sz)).run P w=.ok fl.toArray w:=by
   unfold Ql;refine QE fl hfl ?_ _;by_cases c:xs.length - (l+1)=0
   ·exact .inl c
   ·refine .inr ⟨b,off+(l+1)*sz,by rw [if_neg (by omega)]; simp [CS],fun j u hu=>?_⟩
    simp [World.cell?,s2,hflg j u hu]
  have hfit:off+l*sz+fl.length<=cells.size:=by
   rw [hfl,Nat.sub_mul];rw [Nat.add_mul] at hln ⊢; omega
  have hst:=run_storeCells_at P b (off+l*sz) E fl 0 cells w s2 (by simpa using hfit) hf1;simp only [Nat.add_zero] at hst;have hstep:=Nu ok (k1 b s1) (cells.toList.take (off+l*sz)++fl++cells.toList.drop (off+l*sz+fl.length)).toArray;have hel:(xs.eraseIdx l).length=xs.length - 1:=by rw [List.length_eraseIdx,if_pos hl]
  refine ⟨.slice (some ⟨b,off,none⟩) (xs.length - 1) k,_,M,F,hred _ _ ?_,hstep,F1,F2,k1,k2,kd,?_,trivial⟩
  ·have hroom:l+(xs.length - (l+1))<=k:=by omega
   have hsum:l+(xs.length - (l+1))=xs.length - 1:=by omega
   have hlo:Builtin.lenOf (Ql (some ⟨b,off,none⟩) xs.length k (l+1) sz)=pure (xs.length - (l+1)):=rfl
   simp [Builtin.append_,run_underlying (EP hT),run_underlying (EP hT2),Hk hT,hlo,hroom,hnew,CS,hst,hsum]
   intro h9; omega
  ·refine ⟨?_,some ⟨b,off,none⟩,k,by rw [hel],by rw [hel]; omega,_,E,rfl,s1,setRow_heap w b _ _ E (0,0) s2,?_,?_⟩
   ·have:(xs.eraseIdx l).length*Rep.bytes α<=xs.length*Rep.bytes α:=Nat.mul_le_mul_right _ (by rw [hel]; omega);omega
   ·simp only [List.size_toArray,List.length_append,List.length_take,List.length_drop,Array.length_toList];rw [hs]; omega
   ·refine IJ (fun j u hu=>?_) hstep.ext;have hj:j < xs.length - 1:=by
     have:=(List.getElem?_eq_some_iff.1 hu).1; omega
    rw [List.getElem?_eraseIdx] at hu;by_cases c:j < l
    ·rw [if_pos c] at hu;obtain ⟨ecs,e1,e2⟩:=s4 j u hu;refine ⟨ecs,fun t v hv=>?_,e2⟩;have ht:t < sz:=by
      have:=(List.getElem?_eq_some_iff.1 hv).1;rw [Rep.len e2,hs] at this; exact this
     have hjl:(j+1)*sz<=l*sz:=Nat.mul_le_mul_right _ c;rw [Nat.add_mul] at hjl;have:=e1 t v hv;rw [hs] at this ⊢;simp only [List.getElem?_toArray,List.append_assoc];rw [List.getElem?_append_left (by simp; omega),List.getElem?_take,if_pos (by omega)]
     simpa using this
    ·rw [if_neg c] at hu;obtain ⟨ecs,e1,e2⟩:=s4 (j+1) u hu;refine ⟨ecs,fun t v hv=>?_,e2⟩;have ht:t < sz:=by
      have:=(List.getElem?_eq_some_iff.1 hv).1;rw [Rep.len e2,hs] at this; exact this
     have hg:=e1 t v hv;rw [hs] at hg ⊢;have hjl:l*sz<=j*sz:=Nat.mul_le_mul_right _ (by omega);have hjn:(j+1)*sz<=(xs.length - 1)*sz:=Nat.mul_le_mul_right _ (by omega);rw [Nat.sub_mul] at hjn;rw [Nat.add_mul] at hjn hln hg;have hfl2:fl.length=xs.length*sz - (l*sz+sz):=by rw [hfl,Nat.sub_mul,Nat.add_mul]; omega
     simp only [List.getElem?_toArray,List.append_assoc];rw [List.getElem?_append_right (by simp; omega)];simp only [List.length_take,Array.length_toList];rw [Nat.min_eq_left (by omega),List.getElem?_append_left (by omega)];have hfg:fl[off+j*sz+t - (off+l*sz)]? = cells[off+(l+1)*sz+(off+j*sz+t - (off+l*sz))]?:=by
      simp only [fl];rw [List.getElem?_take,if_pos (by rw [<- hfl]; omega),List.getElem?_drop,Array.getElem?_toList]
     rw [hfg,<- hg]
     congr 1
     rw [Nat.add_mul]; omega
end
end Go.SL
namespace Go.SL
open Go Go.RowKit
def HN (xs:List Aa) (sep:Aa):Aa:=⟨Lib.join (xs.map (·.b)) sep.b⟩
theorem nR {w w':World} {M F:Ba} (ok:Ok w M F) (h:Below w.heap.size w w'):Bo w M F w' M F:=
 ⟨⟨h.os,h.tape,h.output,h.size,fun b hb hm=>⟨hm,h.block b hb⟩⟩,⟨fun b hb=>Nat.lt_of_lt_of_le (ok.bd b hb) h.size,ok.sub⟩,fun b hm hf=>⟨hm,hf,h.block b (ok.bd b hm)⟩⟩
theorem U8 (x:Aa):(bs x).data.toList=x.b:=by simp [bs]
theorem n4 {P:Program} {f:FuncId}
  (hJ:∀ (bk o c:Nat) (xs:List ByteArray) (sep:ByteArray) (w:World),(∀ (j:Nat) x,xs[j]? = some x->w.cell? ⟨bk,o+j,none⟩=some (.string x))->bk < w.heap.size->xs.length<=140737488355328->xs.length<=c->(Lib.join (xs.map (·.data.toList)) sep.data.toList).length<=140737488355328 ->
   Calls P f #[.slice (some ⟨bk,o,none⟩) xs.length c,.string sep] w fun e w'=>e=.returned (.string ⟨(Lib.join (xs.map (·.data.toList)) sep.data.toList).toArray⟩)/\Below w.heap.size w w')
  (hN:∀ (a:Option Addr) (c:Nat) (sep:ByteArray) (w:World),Calls P f #[.slice a 0 c,.string sep] w fun e w'=>e=.returned (.string ⟨#[]⟩)/\w'=w)
  (a:Option Addr) (k:Nat) (xs:List Aa) (sep:Aa) (hl:(HN xs sep).b.length<=140737488355328):FT P f #[.slice a xs.length k,.string (bs sep)] [sl (.slice a xs.length k) xs] (fun _:Unit=>(HN xs sep).b.length<=140737488355328) (fun _=>.string (bs (HN xs sep))) (fun _=>[]):=by
 rintro w M F ok ⟨F1,F2,h1,h2,hd,⟨hb,a',k',hc,hk,hh⟩,hA⟩;injection hc with c1 c2 c3
 subst c1; subst c3;have emp:xs=[]->Calls P f #[.slice a xs.length k,.string (bs sep)] w fun e w'=>∃ g:Unit,∃ M' F',e=.returned (.string (bs (HN xs sep)))/\(HN xs sep).b.length<=140737488355328/\Bo w M F w' M' F'/\Bb [] w' M' F':=fun e=>by
  subst e;refine (hN a k (bs sep) w).mono fun e w'=>?_;rintro ⟨rfl,rfl⟩;exact ⟨(),M,F,rfl,hl,Bo.refl ok,trivial⟩
 cases a with
 | none=>exact emp hh.1
 | some ad=>
  rcases hh with hh | ⟨cells,T,fz,h0,hheap,hm,hel⟩
  ·exact emp hh
  ·obtain ⟨b,off,sp⟩:=ad;simp only at h0 hheap;subst h0;have hbs:b < w.heap.size:=by
    rcases Nat.lt_or_ge b w.heap.size with h | h
    ·exact h
    ·rw [Array.getElem?_eq_none h] at hheap; cases hheap
   have e1:(xs.map bs).map (·.data.toList)=xs.map (·.b):=by
    rw [List.map_map]; exact List.map_congr_left fun x _=>U8 x
   have hlen:(xs.map bs).length=xs.length:=List.length_map ..;have hmax:xs.length<=140737488355328:=by
    have:Rep.bytes Aa=16:=rfl;rw [this] at hb; unfold FP at hb; omega
   have hj:=hJ b off k (xs.map bs) (bs sep) w (fun j x hx=>by
    rw [List.getElem?_map] at hx;cases ex:xs[j]? with
    | none=>rw [ex] at hx; cases hx
    | some y=>
     rw [ex] at hx;injection hx with hx
     subst hx;obtain ⟨ecs,q1,q2⟩:=hel j y ex;have:=q1 0 (.string (bs y)) (by rw [q2.1]; rfl);have hs:Rep.sz Aa=1:=rfl;rw [hs] at this;unfold World.cell?;simp only [hheap]
     simpa using this) hbs (by rw [hlen]; exact hmax) (by rw [hlen]; exact hk) (by rw [e1,U8]; exact hl)
   rw [hlen] at hj;refine hj.mono fun e w'=>?_;rintro ⟨rfl,hB⟩;refine ⟨(),M,F,?_,hl,nR ok hB,trivial⟩;rw [e1,U8]; rfl
end Go.SL
namespace Go.SL
open Go Go.WideShapes Go.ChangeShapes Go.RowKit
section
variable {H:Type} {enc:TypeId×Value->H} {P:Program} {w:World}
theorem Sy {α β:Type} {f:α->Option β}:∀ {l:List α} {r:List β},l.mapM f=some r->r.length=l.length/\∀ (i:Nat) (a:α),l[i]? = some a->∃ b,r[i]? = some b/\f a=some b
 | [],r,h=>by simp at h; subst h; simp
 | a :: l,r,h=>by
  simp only [List.mapM_cons] at h;cases ha:f a with
  | none=>simp [ha] at h
  | some b=>
   simp only [ha] at h;cases hl:l.mapM f with
   | none=>simp [hl] at h
   | some s=>
    simp [hl] at h
    subst h;obtain ⟨h1,h2⟩:=Sy hl;refine ⟨by simp [h1],fun i x hx=>?_⟩;cases i with
    | zero=>simp at hx; subst hx; exact ⟨b,rfl,ha⟩
    | succ i=>simpa using h2 i x (by simpa using hx)
theorem pL {T e:TypeId} {n:Nat} {cs:List Value} {x:DataW H×List MemPlace} (hT:P.underlying T=some (.slice e)) (h:DataW.trod enc P w 0 (fun _=>true) true n T cs=some x) :
  (cs=[.slice none 0 0]/\x.1=.nil)\/∃ (a:Addr) (len cap m:Nat) (B2 rest:List (DataW H×List MemPlace)),cs=[.slice (some a) len cap]/\len<=cap/\B2.length=len /\
   (∀ i,i < len->∃ ecs y,B2[i]? = some y/\w.cells? 0 (a.add (i*P.cellsOf e)) (P.cellsOf e)=some ecs/\DataW.trod enc P w 0 (fun _=>true) true m e ecs=some y)/\x.1=.slice (B2.map (·.1)) (rest.map (·.1)):=by
 cases n with
 | zero=>simp [DataW.trod] at h
 | succ n=>
  unfold DataW.trod at h;rw [hT] at h
  split at h <;> try (simp_all; done)
  ·rename_i ee heq heq2
   simp at h
   exact .inl ⟨rfl,by rw [<- h]⟩
  ·rename_i ee a len cap heq;cases heq;simp only at h
   split at h
   ·rename_i hc;right;simp only [Option.bind_eq_some_iff] at h;obtain ⟨B2,h1,h2⟩:=h;simp only [if_true,Option.map_eq_some_iff] at h2;obtain ⟨rest,h3,rfl⟩:=h2;obtain ⟨k1,k2⟩:=Sy h1;refine ⟨a,len,cap,n,B2,rest,rfl,hc.2.1,by simpa using k1,fun i hi=>?_,rfl⟩;obtain ⟨b,b1,b2⟩:=k2 i i (by simp [hi]);simp only [Option.bind_eq_some_iff] at b2;obtain ⟨ecs,b3,b4⟩:=b2;exact ⟨ecs,b,b1,b3,b4⟩
   ·cases h
theorem YM {a:Addr} {n:Nat} {cs:List Value} (h:w.cells? 0 a n=some cs):cs.length=n/\∀ (j:Nat) (u:Value),cs[j]? = some u->w.cell? (a.add j)=some u:=by
 unfold World.cells? at h;rw [if_pos (Nat.zero_le _)] at h;obtain ⟨h1,h2⟩:=Sy h;refine ⟨by simpa using h1,fun j u hu=>?_⟩;have hj:j < n:=by
  rcases Nat.lt_or_ge j n with h' | h'
  ·exact h'
  ·rw [List.getElem?_eq_none (by simp at h1; omega)] at hu; cases hu
 obtain ⟨b,b1,b2⟩:=h2 j j (by simp [hj]);rw [b1] at hu; cases hu; exact b2
class RdT (P:Program) (T:TypeId) (α:Type) [Rep α]:Prop where
 rd:∀ {H:Type} {enc:TypeId×Value->H} {w:World} {n:Nat} {cs:List Value} {x:DataW H×List MemPlace},DataW.trod enc P w 0 (fun _=>true) true n T cs=some x ->
  (x.1.weights P T).all (· <= reachBytes)=true->∃ a:α,Rep.rd w (fun _=>False) cs a
theorem cV {T:TypeId} (hT:P.underlying T=some (.int .i64)):RdT P T Int:=⟨by
 intro H enc w n cs x h _;cases n with
 | zero=>simp [DataW.trod] at h
 | succ n=>
  unfold DataW.trod at h;rw [hT] at h
  split at h <;> try (simp_all; done)
  rename_i k k' m heq;cases heq
  split at h
  ·rename_i hc;obtain ⟨rfl,hw⟩:=hc;simp only [Lit.wf,Bool.and_eq_true,decide_eq_true_eq] at hw;refine ⟨m,rfl,?_⟩;unfold Af;have h1:=hw
   simp [IntKind.min,IntKind.max,IntKind.bits,IntKind.signed] at h1
   omega
  ·cases h⟩
theorem nO {T:TypeId} (hT:P.underlying T=some (.int .i64)) {v:Value} {d:DataW H} {p:List MemPlace} {base:Nat} (hok:Value.okWide P w .any base T v)
  (ht:DataW.Trod enc P w 0 (fun _=>true) true T v d p) (hw:(d.weights P T).all (· <= reachBytes)=true):∃ x:Int,v=.int .i64 x/\Af x:=by
 obtain ⟨m,rfl⟩:=okWide_int hT hok;obtain ⟨n,ht⟩:=ht;obtain ⟨x,e,h⟩:=(cV hT).rd ht hw;have e:m=x:=by simpa [Value.cells] using e
 subst e;exact ⟨m,rfl,h⟩
theorem Ox {R:SP} {A:List SP} {M F:Ba} (hp:R.p=true) (h:∀ F,R.h w M F) (hA:Bb A w M F):Bb (R :: A) w M F:=
 ⟨fun _=>False,F,fun _ h=>h.elim,fun _ h=>h,fun _ h _=>h,h _,hA⟩
theorem ZX {M F:Ba}:Bb [] w M F:=trivial
theorem iN {α:Type} [Rep α] {M:Ba} {c:Value} {x:List α} (h:Cg w M c x):∃ a k,c=.slice a x.length k/\∀ F,(sl c x).h w M F:=by
 have h':=h;obtain ⟨_,a,k,e,_⟩:=h';exact ⟨a,k,e,fun F=>h⟩
theorem Xs (hl:laidOutB P=true) {W W':World} (hb:Below W.heap.size W W') {sp:Nat->Bool}:∀ {ts:List TypeId} {vs:List Value} {ds:List (DataW H)} {ps:List MemPlace},ts.all (fun t=>P.readableRec t && decide (t < P.types.size))=true ->
  DataW.TrodAll enc P W 0 (fun _=>true) true ts vs ds ps->(∀ p∈ps,p.block < W.heap.size)->(∀ p∈ps,sp p.block=true)->DataW.TrodAll enc P W' 0 sp true ts vs ds ps
 | [],vs,ds,ps,_,h,_,_=>by
  obtain ⟨rfl,rfl,rfl⟩:=trodAll_nil h;exact rfl
 | t :: ts,vs,ds,ps,hr,h,hlt,hsp=>by
  obtain ⟨v,vs1,d,ds1,p,q,rfl,rfl,rfl,h1,h2⟩:=trodAll_cons h;simp only [List.all_cons,Bool.and_eq_true,decide_eq_true_eq] at hr;exact ⟨p,q,WideElems.Trod_stays hl hr.1.1 hr.1.2 h1 (fun x hx=>hb.same (hlt x (by simp [hx]))) (fun x hx=>hsp x (by simp [hx])),
   Xs hl hb (by simpa using hr.2) h2 (fun x hx=>hlt x (by simp [hx])) (fun x hx=>hsp x (by simp [hx])),rfl⟩
theorem mI {W W':World} {M' F':Ba} (h:Bo W (fun _=>False) (fun _=>False) W' M' F'):Below W.heap.size W W':=
 ⟨h.ext.os,h.ext.tape,h.ext.out,h.ext.size,fun k hk=>(h.ext.old k hk (fun h=>h)).2⟩
theorem gZ (w:World):Ok w (fun _=>False) (fun _=>False):=⟨fun _ h=>h.elim,fun _ h=>h⟩
structure WX (s:ChangeSpec) (n:Nat):Prop where
 vars:s.vars=[]
 fn:∀ (H:Type) (ds:List (DataW H)),ds.length=n->s.fn H ds={ results:=[.lit (.bool true)],args:=ds }
theorem Xm:∀ {ts:List TypeId} {vs:List Value} {ds:List (DataW H)} {ps:List MemPlace},DataW.TrodAll enc P w 0 (fun _=>true) true ts vs ds ps->ds.length=ts.length
 | [],vs,ds,ps,h=>by obtain ⟨rfl,rfl,rfl⟩:=trodAll_nil h; rfl
 | t :: ts,vs,ds,ps,h=>by
  obtain ⟨v,vs1,d,ds1,p,q,rfl,rfl,rfl,h1,h2⟩:=trodAll_cons h
  simp [Xm h2]
theorem l5 {f:Func} {s:ChangeSpec} {tb:TypeId} (hs:WX s f.params.size) (hl:laidOutB P=true) (hr:f.params.toList.all (fun t=>P.readableRec t && decide (t < P.types.size))=true)
  (hres:f.resultTypes=#[tb]) (htb:P.underlying tb=some .bool) {apart fresh handsOn:Bool} {W W':World} {args:Array Value} {ds gs:List (DataW H)} {before:List MemPlace}
  (hW:DataW.Whole enc P f.params.toList s.vars apart W args.toList ds gs before) (hb:Below W.heap.size W W'):s.post enc P f apart fresh handsOn false W args (.bool true) W':=by
 have hlt:=hW.lt;have hW0:=hW;obtain ⟨p,q,hA,hV,rfl,hz,hn⟩:=hW0;have hV0:=hV;rw [hs.vars] at hV0;obtain ⟨rfl,rfl⟩:=trodVars_none hV0;have hfn:=hs.fn H ds (by rw [Xm hA]; simp);have hlt':∀ x∈p,x.block < W.heap.size:=fun x hx=>hlt x (by simp [hx]);refine ⟨ds,[],p++[],[],p,[],hW,?_,?_,?_,hb.frame _,fun h=>(by cases h)⟩
 ·rw [List.append_nil,hfn,hres];refine ⟨[],[],⟨1,?_⟩,rfl,rfl⟩
  simp [DataW.trod,htb,Value.cells]
 ·rw [List.append_nil,hfn];exact Xs hl hb hr hA hlt' (fun x hx=>by simpa using hlt' x hx)
 ·rw [List.append_nil,hfn,hs.vars]
  rfl
end
theorem mA {P:Program} {f:FuncId} {fn:Func} {s:ChangeSpec} {c:OpenClaim} (hwf:c.wf (OpenSpec.ofChange s)=true) (hlaid:laidOutB P=true) (hmaps:mapsRowed P=true)
  (hpar:(fn.params.all (P.readableRec ·) && namedTie P c.named s.vars)=true) (hst:((c.stops == []) && (P.stops == []) && (c.knobs == []) && (P.stopKnobs == []))=true)
  (hi:(c.inPlace == P.inPlace f)=true) (hu:(c.unfollowed == P.unfollowed f)=true) (hr:(c.recurses == P.recurses f)=true) (hn:(c.named == P.varsNamed f)=true)
  (hm:((c.maps == (fn.params.toList++s.plain.varTypes P).any (P.mapsRec ·)) && (c.ifaces == (fn.params.toList++s.plain.varTypes P).any (P.ifacesRec ·)) && (c.mapsOut == P.mapsAmong fn.resultTypes.toList) &&
   (c.loops == (fn.params.toList++s.plain.varTypes P).any (P.loopsFrom ·)) && (c.wideKeys == (fn.params.toList++s.plain.varTypes P++fn.resultTypes.toList).any (P.wideKeysFrom ·)))=true)
  (hv:(s.vars.all (P.varReadable ·) && fn.resultTypes.all (fun t=>P.readableRec t && decide (t < P.types.size)) && (c.ifacesOut == fn.resultTypes.toList.any (P.ifacesRec ·)) && (c.loopsOut == fn.resultTypes.toList.any (P.loopsFrom ·)))=true)
  (hp:(c.plainKeys == P.plainKeys)=true) (hs:c.shortTexts.isNone=true) (hh:P.stopsHeard=true) (hy:P.mayEnter=true) (hl:(c.lifted == P.liftsFinal)=true) (hk:(P.make == some c.make)=true)
  (hd:((c.kinds == (if c.domain.isEmpty then [] else fn.params.toList.map fun t=>match P.underlying t with | some (.int k)=>some k | _=>none)) && (c.pinned == c.pinnedBy) &&
   (c.veiled == (fn.params.toList++s.plain.varTypes P++fn.resultTypes.toList).any (P.veiledRec ·)) && c.veiledFits P fn.params.toList (fn.params.toList++s.plain.varTypes P++fn.resultTypes.toList))=true):joinedFacts P f fn s c=true:=by
 simp only [Bool.and_eq_true] at hpar hst hm hv hd;unfold joinedFacts;simp only [Bool.and_eq_true]
 repeat' refine And.intro ?_ ?_
 all_goals first | exact hwf | exact hlaid | exact hmaps | exact hpar.1 | exact hpar.2 | exact hst.1.1.1 | exact hst.1.1.2 | exact hst.1.2 | exact hst.2 | exact hi | exact hu | exact hr | exact hn | exact hm.1.1.1.1 | exact hm.1.1.1.2 | exact hm.1.1.2 | exact hm.1.2 | exact hm.2 | exact hv.1.1.1 | exact hv.1.1.2 | exact hv.1.2 | exact hv.2 | exact hp | exact hs | exact hh | exact hy | exact hl | exact hk | exact hd.1.1.1 | exact hd.1.1.2 | exact hd.1.2 | exact hd.2
end Go.SL
namespace Go.SL
open Go Go.WideShapes Go.ChangeShapes Go.RowKit
theorem Rf {P:Program} {x:String×DataW Unit} {r:List (String×DataW Unit)} {w:World} (hx:((x :: r).all fun x=>x.2.handleName?.isNone)=true) (h:laidMetH P (x :: r) w):laidMetH P r w:=by
 rw [MakeChecks.laidMetH_plain _ _ _ hx] at h;rw [MakeChecks.laidMetH_plain _ _ _ (by rw [List.all_cons,Bool.and_eq_true] at hx; exact hx.2)];obtain ⟨ps,hv,hn,hb⟩:=h;obtain ⟨n,d⟩:=x;obtain ⟨g,t,cs,fuel,p,q,_,_,_,_,hq,rfl⟩:=hv;exact ⟨q,hq,(List.nodup_append.1 hn).2.1,fun b off hm=>hb b off (List.mem_append_right _ hm)⟩
section
variable {H:Type} {enc:TypeId×Value->H} {P:Program} {w:World}
end
section
variable {P:Program} {w:World}
theorem kO {T e:TypeId} {g:Nat} {nm:String} {L:List Aa} (hT:P.underlying T=some (.slice e)) (hE:P.underlying e=some .string) (hcE:P.cellsOf e=1)
  (hg:P.globalNamed nm=some g) (ht:(P.globals[g]?).map (·.type)=some T) (hL:L≠[]) (hlen:L.length*16<=FP) (hs:∀ s∈L,s.b.length<=140737488355328)
  (h:laidMetH P [(nm,.slice (L.map fun s=>.lit (.string s.b)) [])] w):∃ a k,∀ F,Bb [pv (gp g) [vl a k L],S a k L] w (fun _=>False) F:=by
 rw [MakeChecks.laidMetH_plain _ _ _ rfl] at h;obtain ⟨ps,⟨g',t',cs,f,p,q,hg',ht',hv,hd,hq,_⟩,_,_⟩:=h;obtain rfl:=Option.some.inj (hg.symm.trans hg');obtain rfl:=Option.some.inj (ht.symm.trans ht');obtain ⟨a,cap,hcs,hle,hel⟩:=open_row hT hcE hd;rw [List.length_map] at hcs hle;have hcell:=World.var?_cell hg' hv 0;rw [Array.eq_one_of_toList hcs] at hcell;have hcell:w.cell? ⟨g,0,none⟩=some (.slice (some a) L.length cap):=by simpa using hcell
 have hblk:∀ {b off:Nat} {v:Value},w.cell? ⟨b,off,none⟩=some v->∃ cells T' fz,w.heap[b]? = some (.cells cells T' fz)/\cells[off]? = some v:=fun {b off v} hc=>by
  simp only [World.cell?] at hc;cases hh:w.heap[b]? with
  | none=>simp [hh] at hc
  | some o=>
   cases o with
   | cells c t f=>exact ⟨c,t,f,rfl,by simpa [hh] using hc⟩
   | _=>simp [hh] at hc
 have hstr:∀ (i:Nat) (s:Aa),L[i]? = some s->w.cell? (a.add i)=some (.string (bs s)):=fun i s hi=>by
  obtain ⟨v,n,q',hv',ht'⟩:=hel i (.lit (.string s.b)) (by rw [List.getElem?_map,hi]; rfl);cases n with
  | zero=>simp [DataW.trod] at ht'
  | succ n=>
   unfold DataW.trod at ht';rw [hE] at ht'
   split at ht' <;> try (simp_all; done)
   rename_i s' _ heq;have heq:v=.string s':=by simpa using heq
   subst heq
   split at ht'
   ·simp only [Option.some.injEq,Prod.mk.injEq,DataW.lit.injEq,Lit.string.injEq] at ht';rw [hv',<- Y3 s',ht'.1]
   ·cases ht'
 have hs0:∃ s0,L[0]? = some s0:=by
  cases L with
  | nil=>exact absurd rfl hL
  | cons x l=>exact ⟨x,rfl⟩
 obtain ⟨s0,h0⟩:=hs0;have hc0:=hstr 0 s0 h0;obtain ⟨b,off,spot⟩:=a;have hsp:spot=none:=by simpa [Addr.add] using World.cell?_spot hc0
 subst hsp;rw [CS] at hc0;obtain ⟨cells,T',fz,hh,_⟩:=hblk hc0;obtain ⟨gc,gT,gfz,gh,gx⟩:=hblk hcell;refine ⟨some ⟨b,off,none⟩,cap,fun F=>?_⟩;have hsl:Cg w (fun _=>False) (.slice (some ⟨b,off,none⟩) L.length cap) L:=by
  refine ⟨hlen,some ⟨b,off,none⟩,cap,rfl,hle,?_⟩;refine .inr ⟨cells,T',fz,rfl,hh,fun h=>h,fun i y hy=>?_⟩;refine ⟨[.string (bs y)],fun j u hu=>?_,rfl,hs y (List.mem_of_getElem? hy)⟩;have hc:=hstr i y hy;rw [CS] at hc;obtain ⟨c2,T2,f2,hh2,hx2⟩:=hblk hc;rw [hh] at hh2;cases hh2;cases j with
  | zero=>simp at hu; subst hu; simpa [show Rep.sz Aa=1 from rfl] using hx2
  | succ j=>simp at hu
 refine Ox rfl (fun F=>⟨g,0,gc,gT,gfz,rfl,gh,fun h=>h,fun j u hu=>?_⟩) (Ox rfl (fun F=>hsl) ZX);cases j with
 | zero=>simp at hu; subst hu; simpa using gx
 | succ j=>simp at hu
end
section
variable {H:Type} {enc:TypeId×Value->H} {P:Program}
end
end Go.SL
namespace Go.SL
open Go Go.WideShapes Go.ChangeShapes Go.RowKit
def Gu (k:IntKind) (t:List Int):List Value:=t.map fun z=>.int k z
theorem W3 {k:IntKind} {t:List Int} {i:Nat} (h:i < t.length):(Gu k t)[i]? = some (.int k (t.getD i 0)):=by
 unfold Gu;rw [List.getElem?_map,List.getElem?_eq_getElem h]
 simp [List.getD,List.getElem?_eq_getElem h]
theorem mU {t:List Int} {m:Int} (h:(t.all fun z=>decide (0<=z) && decide (z<=m))=true) (hm:0<=m) (i:Nat):0<=t.getD i 0/\t.getD i 0<=m:=by
 by_cases c:i < t.length
 ·have:=List.all_eq_true.1 h _ (List.getElem_mem c);rw [Bool.and_eq_true,decide_eq_true_eq,decide_eq_true_eq] at this
  simpa [List.getD,List.getElem?_eq_getElem c] using this
 ·have:t.getD i 0=0:=by simp [List.getD,List.getElem?_eq_none (Nat.le_of_not_lt c)]
  omega
theorem i6 (b:BitVec 64):(b >>> (((58#64).toNat:Int)).toNat).toNat < 64:=by
 have:=b.isLt;rw [show (((58#64).toNat:Int)).toNat=58 from rfl,BitVec.toNat_ushiftRight,Nat.shiftRight_eq_div_pow];omega
section
variable {P:Program} {L:At} {A:List SP} {o:Oper}
theorem qC {T x} {a:BitVec 64} (hop:o.op=.unOp .neg T x:=by exact rfl) (hx:L.ev x=some (u64 a):=by exact rfl):Ax P L A o (u64 (-a)):=fun ρ hρ w M F ok hs=>by
 have:IntKind.wrap .u64 (0 - (a.toNat:Int))=((-a).toNat:Int):=by
  have:=a.isLt;simp only [IntKind.wrap,IntKind.bits,IntKind.signed,BitVec.toNat_neg,Bool.false_and];rw [if_neg (by simp)];omega
 have e:Op.unary .neg (u64 a)=pure (u64 (-a)):=by
  show Op.intArith .sub .u64 0 (a.toNat:Int)=_;simp only [Op.intArith];rw [this]; rfl
 simp [execOp,hop,hρ _ _ hx,e]
theorem rT {T g ix n e} {b:BitVec 64} (hT:P.underlying T=some (.array n e)) (hE:Bw P T=none\/True:=.inr trivial) (hsz:∀ w:World,(sizeOf e).run P w=.ok 1 w:=by intro w; rfl) (hop:o.op=.indexAddr T (.global g) ix:=by exact rfl) (hi:L.ev ix=some (u64 b):=by exact rfl) (h:b.toNat < n:=by omega):Ax P L A o (DP (gp g) b.toNat):=fun ρ hρ w M F ok hs=>by
 have hx:ρ (.global g)=gp g:=hρ _ _ rfl;have h0:(0:Int)<=(b.toNat:Int)/\(b.toNat:Int) < (n:Int):=by omega
 simp [execOp,hop,hx,hρ _ _ hi,Instr.indexAt,asIntOf,run_underlying hT,hsz,h0,h,DP,u64,Instr.sureAddr,Addr.add]
theorem oW {T x p m n k} {t:List Int} (hT:Bm P T=some (false,n)) (i:Nat) (hop:o.op=.load T x:=by exact rfl) (hx:L.ev x=some (DP p m):=by exact rfl) (hA:A[i]? = some (pv p (Gu k t)):=by exact rfl) (hm:m < t.length:=by omega):Ax P L A o (.int k (t.getD m 0)):=Ax.loadF hop hx hT hA (Qw _ _) (W3 hm)
theorem gC {T x n c j} {β:Type} [RepE β] {xs:List β} {d:β} (hT:Bm P T=some (true,n)) (i:Nat) (cs:List Value) (hop:o.op=.load T x:=by exact rfl) (hA:A[i]? = some (sl c xs)\/A[i]? = some (os c xs):=by first | exact .inl rfl | exact .inr rfl) (hx:L.ev x=some (BZ (Rep.sz β) c j):=by exact rfl) (hc:RepE.ex (xs.getD j d)=cs:=by exact rfl) (hn:cs.length=n:=by exact rfl) (hj:j < xs.length:=by exact AD):Ax P L A o (.agg cs.toArray):=by
 rw [<- hc];rcases hA with hA | hA
 ·exact Ax.loadA hop hx hT hA (RO c xs j d hj) (by rw [hc]; exact hn)
 ·exact Ax.loadA hop hx hT hA (RR c xs j d hj) (by rw [hc]; exact hn)
end
section
variable {P:Program} {w:World}
theorem lL {T e:TypeId} {g n:Nat} {nm:String} {k:IntKind} {L:List Int} {r:List (String×DataW Unit)} (hT:P.underlying T=some (.array n e)) (hE:P.underlying e=some (.int k)) (hcE:P.cellsOf e=1) (hcT:P.cellsOf T=n)
  (hg:P.globalNamed nm=some g) (ht:(P.globals[g]?).map (·.type)=some T) (hL:0 < L.length) (hx:(((nm,Lib.tabData k L) :: r:List (String×DataW Unit)).all fun x=>x.2.handleName?.isNone)=true)
  (h:laidMetH P ((nm,Lib.tabData k L) :: r) w):∀ F,Bb [pv (gp g) (Gu k L)] w (fun _=>False) F:=by
 rw [MakeChecks.laidMetH_plain _ _ _ hx] at h;have ht:=Lib.tabIs_of_head hg ht hT hE hcE hcT h;have hc:=World.var?_cell hg ht;have h0:=hc 0;rw [show ((L.map fun z=>Value.int k z).toArray)[0]? = some (.int k (L.getD 0 0)) by
  have:=W3 (k:=k) hL
  simpa [Gu] using this] at h0
 simp only [World.cell?] at h0;cases hh:w.heap[g]? with
 | none=>simp [hh] at h0
 | some ob=>
  cases ob with
  | cells cs T' fz=>
   refine fun F=>Ox rfl (fun F=>⟨g,0,cs,T',fz,rfl,hh,fun h=>h,fun j u hu=>?_⟩) ZX;have hj:=hc j;simp only [World.cell?,hh] at hj;have hu':((L.map fun z=>Value.int k z).toArray)[j]? = some u:=by simpa [Gu] using hu
   rw [hu'] at hj
   simpa using hj
  | _=>simp [hh] at h0
theorem ZH {w:World} {M:Ba}:∀ {A B:List SP} {F:Ba},Bb A w M (fun _=>False)->Bb B w M F->Bb (A++B) w M F
 | [],_,_,_,hB=>hB
 | R :: A,B,F,hA,hB=>by
  obtain ⟨F1,F2,q1,q2,qd,hr,hs⟩:=hA;exact ⟨F1,F,fun b h=>(q1 b h).elim,fun _ h=>h,fun b h=>(q1 b h).elim,hr,ZH (Fg hs q2) hB⟩
end
end Go.SL
namespace Go.SL
open Go
instance:RepE UInt8 where
 sz:=1
 bytes:=1
 pos:=by decide
 bpos:=by decide
 rd _ _ cs x:=cs=[.int .u8 x.toNat]
 len:=by rintro w M cs x rfl; rfl
 one:=by rintro w M cs x rfl v hv; simp at hv; subst hv; rfl
 st:=fun h _=>h
 ex x:=[.int .u8 x.toNat]
 ok _:=True
 ex_eq:=fun h=>⟨h,trivial⟩
 rd_ex:=fun _=>rfl
section
variable {P:Program} {L:At} {A:List SP} {o:Oper}
end
end Go.SL
namespace Go.SL
open Go Go.RowKit Go.Shelf Go.Proofs
def BD (T E:TypeId) (p:Value) (l:List UInt8):SP where
 h w M F:=∃ b p0 v,p=.pointer (some ⟨b,0,none⟩)/\F b/\w.heap[b]? = some (.cells #[p0,v] T (0,0))/\(p0=.pointer none\/p0=.pointer (some ⟨b,0,none⟩))/\w.ownsRow 0 E 1 v l.length (Lib.byteCells l) /\
  (∀ g c,v=.slice (some g) l.length c->1<=c)/\(∀ g,v.ownBlock=some g->F g/\g≠b)
 p:=false
 st:=by
  rintro w M F w' M' ⟨b,p0,v,h1,h2,h3,h4,h5,h6,h7⟩ e k;refine ⟨b,p0,v,h1,h2,(k b h2).trans h3,h4,?_,h6,h7⟩;refine ⟨h5.1,?_⟩;rcases h5.2 with h | ⟨g,cap,cur,e1,e2,e3,e4⟩
  ·exact .inl h
  ·refine .inr ⟨g,cap,cur,e1,e2,?_,e4⟩;exact (k g (h7 g (by rw [e1]; rfl)).1).trans e3
 up:=fun ⟨b,p0,v,h1,h2,h3,h4,h5,h6,h7⟩ e=>⟨b,p0,v,h1,e b h2,h3,h4,h5,h6,fun g hg=>⟨e g (h7 g hg).1,(h7 g hg).2⟩⟩
 pers:=by simp
theorem rQ {w w':World} {M F:Ba} (ok:Ok w M F) (h1:w'.os=w.os) (h2:w'.tape=w.tape) (h3:w'.output=w.output) (h4:w.heap.size<=w'.heap.size) (h5:∀ b,b < w.heap.size->¬ F b->w'.heap[b]? = w.heap[b]?) :
  Bo w M F w' (fun b=>M b\/(w.heap.size<=b/\b < w'.heap.size)) (fun b=>F b\/(w.heap.size<=b/\b < w'.heap.size)):=
 ⟨⟨h1,h2,h3,h4,fun b hb hm=>⟨fun h=>h.elim hm (fun h=>by omega),h5 b hb fun hf=>hm (ok.sub b hf)⟩⟩,
  ⟨fun b h=>h.elim (fun h=>Nat.lt_of_lt_of_le (ok.bd b h) h4) fun h=>h.2,fun b h=>h.elim (fun h=>.inl (ok.sub b h)) .inr⟩,
  fun b hm hf=>⟨.inl hm,fun h=>h.elim hf (fun h=>by have:=ok.bd b hm; omega),h5 b (ok.bd b hm) hf⟩⟩
theorem iM {P:Program} (w:World) (t u ty e:TypeId) (i:TypeInfo) (ht:P.underlying t=some (.slice e)) (hu:P.underlying u=some .string) (hi:P.info? e=some i) (hz:i.zero=some (.int .u8 0))
  (hsize:i.size=1) (hby:i.bytes=1) (v:Value) (n:Nat) (xs:List Value) (hown:w.ownsRow 0 e 1 v n xs) (hc:∀ g c,v=.slice (some g) n c->1<=c) (s:ByteArray) (h63:n+s.size<=maxLen) (hbytes:n+s.size<=140737488355328) :
  ∃ v' w',(Builtin.append_ #[t,u] ty #[v,.string s]).run P w=.ok v' w'/\w'.ownsRow 0 e 1 v' (n+s.size) (xs++Lib.strCells s)/\w.grownBy w' v.ownBlock /\
   (∀ g,v'.ownBlock=some g->v.ownBlock=some g\/(w.heap.size<=g/\g < w'.heap.size))/\(∀ g c,v'=.slice (some g) (n+s.size) c->1<=c):=by
 obtain ⟨v',w',hr,h2,h3,h4⟩:=Lib.run_append_own_string w 0 t u ty e i ht hu hi hz hsize hby v n xs hown s h63 hbytes (Nat.zero_le _);refine ⟨v',w',hr,h2,h3,?_⟩;have Lv:1<=n+s.size->∀ g c,v'=.slice (some g) (n+s.size) c->1<=c:=fun h g c e=>by
  rcases h2.2 with ⟨e1,e2⟩ | ⟨g',cap,cur,e1,_,_,e2,_⟩
  ·omega
  ·rw [e1] at e; injection e with _ _ e3; omega
 rcases hown.2 with ⟨rfl,rfl⟩ | ⟨g,cap,cur,rfl,hbg,hg,hnc,hcm,hcs,htake⟩
 ·by_cases hm:s.size=0
  ·have e:v'=.slice none 0 0:=h4.2 ⟨rfl,hm⟩;subst e;exact ⟨fun g h=>by simp [Value.ownBlock] at h,fun g c h=>by injection h with h; cases h⟩
  ·have hr2:=run_append_nil_string (P:=P) w t u ty e i (.int .u8 0) ht hu hi hz s (by omega) (by omega) (by rw [hby]; omega);rw [hr] at hr2;injection hr2 with e1 e2
   refine ⟨fun g h=>.inr ?_,Lv (by omega)⟩;rw [e1] at h;have:w.heap.size=g:=by simpa [Value.ownBlock] using h
   rcases h2.lt g (by rw [e1]; exact h) with ⟨_,h⟩
   omega
 ·have hcap:1<=cap:=hc _ _ rfl;by_cases hroom:n+s.size<=cap
  ·have hcs':cur.size=cap:=by simpa using hcs
   have hr2:=Lib.run_append_room_string (P:=P) w t u ty e i ht hu hi hsize g n cap cur hg s hroom (by omega);rw [hr] at hr2;injection hr2 with e1 e2
   refine ⟨fun g' h=>.inl ?_,fun g' c h=>?_⟩
   ·rw [e1] at h; exact h
   ·rw [e1] at h; injection h with _ _ h; omega
  ·have hxl:xs.length=n:=by simpa using hown.1
   have holds:∀ j u,xs[j]? = some u->w.cell? ((⟨g,0,none⟩:Addr).add j)=some u:=hown.cells (g:=g) rfl;have hr2:=Lib.run_append_grow_string (P:=P) w t u ty e i (.int .u8 0) ht hu hi hz ⟨g,0,none⟩ n cap xs (by rw [hsize]; simpa using hxl) holds s (by omega) (by unfold maxLen at h63; omega) (by rw [hby]; exact growslice_fits (by omega) (by omega));rw [hr] at hr2;injection hr2 with e1 e2
   refine ⟨fun g' h=>.inr ?_,Lv (by omega)⟩;rw [e1] at h;have:w.heap.size=g':=by simpa [Value.ownBlock] using h
   rcases h2.lt g' (by rw [e1]; exact h) with ⟨_,h⟩
   omega
theorem uM {P:Program} {w:World} {ops:Array Oper} {rest:List Oper} {o:Oper} {a:Act} {Q:Exit->Act->World->Prop} (hgd:o.guard=none) (sl x:Operand) (t u:TypeId)
  (ho:o.op=.call { callee:=.builtin .append,args:=#[sl,x],argTypes:=#[t,u] })
  (e:TypeId) (i:TypeInfo) (ht:P.underlying t=some (.slice e)) (hu:P.underlying u=some .string) (hi:P.info? e=some i) (hz:i.zero=some (.int .u8 0))
  (hsize:i.size=1) (hby:i.bytes=1)
  (v:Value) (n:Nat) (xs:List Value) (hs:a.eval sl=v) (hown:w.ownsRow 0 e 1 v n xs) (hc:∀ g c,v=.slice (some g) n c->1<=c) (s:ByteArray) (hx:a.eval x=.string s)
  (h63:n+s.size<=maxLen) (hbytes:n+s.size<=140737488355328)
  (h:∀ v' w',w'.ownsRow 0 e 1 v' (n+s.size) (xs++Lib.strCells s)->w.grownBy w' v.ownBlock->(∀ g,v'.ownBlock=some g->v.ownBlock=some g\/(w.heap.size<=g/\g < w'.heap.size))->(∀ g c,v'=.slice (some g) (n+s.size) c->1<=c)->wpList P ops Q rest (a.put o.dst v') w'):wpList P ops Q (o :: rest) a w:=by
 refine wpList_plain hgd fun K hK=>?_;obtain ⟨v',w',hr,h2,h3,h4,h5⟩:=iM (P:=P) w t u o.type e i ht hu hi hz hsize hby v n xs hown hc s h63 hbytes;unfold Oper.wp execOp;simp only [ho,resolve,invoke,builtin,Sem.run_bind,Sem.run_pure,Result.andThen_ok,List.map_toArray,List.map_cons,List.map_nil,hs,hx,hr];exact hK _ _ (h v' w' h2 h3 h4 h5)
section
variable {P:Program} {ρ:Ren}
set_option maxHeartbeats 2000000 in
set_option maxRecDepth 100000 in
theorem oG (L:Lays.n240 P ρ) (X:Builder.X72 P ρ) {b:Nat} {p0 v:Value} {w:World} (hb:w.heap[b]? = some (.cells #[p0,v] (ρ.t 72) (0,0))) (hp:p0=.pointer none\/p0=.pointer (some ⟨b,0,none⟩)) :
  Calls P (ρ.f 240) #[.pointer (some ⟨b,0,none⟩)] w fun e w'=>e=.returned (.tuple #[])/\w'.heap[b]? = some (.cells #[.pointer (some ⟨b,0,none⟩),v] (ρ.t 72) (0,0))/\w'.os=w.os/\w'.tape=w.tape/\w'.output=w.output/\w'.heap.size=w.heap.size/\∀ k,k≠b->w'.heap[k]? = w.heap[k]?:=by
 have c0:w.cell? ⟨b,0,none⟩=some p0:=by rw [Lib.cell_of_heap hb]; rfl
 rcases hp with rfl | rfl
 ·refine (Any.Builder_copyCheck_fresh L X b w c0 (by simp [World.shape?,hb]) (Lib.frozen_of_heap hb 0)).mono ?_;rintro e w' ⟨rfl,rfl⟩;refine ⟨rfl,?_,rfl,rfl,rfl,by simp [World.setCell],fun k hk=>Below.heap_setCell _ _ _ _ (fun e=>hk (by simpa using e))⟩
  simp [World.setCell,Array.getElem?_modify,hb]
 ·refine (Any.Builder_copyCheck_used L X b w c0).mono ?_;rintro e w' ⟨rfl,rfl⟩;exact ⟨rfl,hb,rfl,rfl,rfl,rfl,fun _ _=>rfl⟩
theorem ZF {w w':World} {e:TypeId} {v:Value} {n:Nat} {xs:List Value} (h:w.ownsRow 0 e 1 v n xs) (k:∀ g,v.ownBlock=some g->w'.heap[g]? = w.heap[g]?):w'.ownsRow 0 e 1 v n xs:=by
 refine ⟨h.1,?_⟩;rcases h.2 with h | ⟨g,cap,cur,e1,e2,e3,e4⟩
 ·exact .inl h
 ·exact .inr ⟨g,cap,cur,e1,e2,(k g (by rw [e1]; rfl)).trans e3,e4⟩
set_option maxHeartbeats 2000000 in
set_option maxRecDepth 100000 in
theorem nT (L:Lays.n166 P ρ) (X:Builder.Extra P ρ) (p:Value) (l:List UInt8) (s:Aa) (hlen:l.length+s.b.length<=140737488355328) :
  FT P (ρ.f 166) #[p,.string (bs s)] [BD (ρ.t 72) (ρ.t 5) p l] (fun _:Unit=>True) (fun _=>.tuple #[.int .i64 s.b.length,.nilIface]) (fun _=>[BD (ρ.t 72) (ρ.t 5) p (l++s.b)]):=by
 rintro w M F ok ⟨F1,F2,k1,k2,kd,⟨b,p0,v,rfl,hFb,hbk0,hp0,hown0,hcap,hvb⟩,_⟩;obtain ⟨i0,hi,hz0,hz1,hz2⟩:=info_parts X.infoByte;have mixed:=L.mixed;have t72:=L.t72; have a72:=L.a72; have z72:=L.z72; have v72:=L.v72; have u72:=run_underlying L.t72
 have t70:=L.t70; have a70:=L.a70; have z70:=L.z70; have v70:=L.v70; have u70:=run_underlying L.t70
 have t37:=L.t37; have a37:=L.a37; have z37:=L.z37; have v37:=L.v37; have u37:=run_underlying L.t37
 have t3:=L.t3; have a3:=L.a3; have z3:=L.z3; have v3:=L.v3; have u3:=run_underlying L.t3
 have t9:=L.t9; have a9:=L.a9; have z9:=L.z9; have v9:=L.v9; have u9:=run_underlying L.t9
 have t4:=L.t4; have a4:=L.a4; have z4:=L.z4; have v4:=L.v4; have u4:=run_underlying L.t4
 have t164:=L.t164; have a164:=L.a164; have z164:=L.z164; have v164:=L.v164; have u164:=run_underlying L.t164
 have t5:=X.t5; have a5:=X.a5; have z5:=X.z5; have v5:=X.v5; have u5:=run_underlying X.t5
 have e240:∀ args w,(callFunc (ρ.f 240) args).run P w=.ok (.enter (ρ.f 240) args) w:=enters_of L.f240 (by kernel_rfl) rfl
 go_enter L.f166,Body.n166_ntmps ρ
 go_wp2_with (go_at_fn (ρ.f 240); refine (oG { L with } X.toX72 hbk0 hp0).mono ?_)
 rintro e w1 ⟨rfl,hbk,o1,o2,o3,o4,o5⟩;have hown:w1.ownsRow 0 (ρ.t 5) 1 v l.length (Lib.byteCells l):=ZF hown0 fun g hg=>o5 g (hvb g hg).2;have c0:w1.cell? ⟨b,0,none⟩=some (.pointer (some ⟨b,0,none⟩)):=by rw [Lib.cell_of_heap hbk]; rfl
 have c1:w1.cell? ⟨b,1,none⟩=some v:=by rw [Lib.cell_of_heap hbk]; rfl
 go_wp2_with (at_builtin; refine uM rfl _ _ (ρ.t 37) (ρ.t 9) rfl (ρ.t 5) i0 L.t37 L.t9 hi hz0 hz1 hz2 _ _ _ rfl hown hcap (bs s) rfl ?c3 ?c4 ?_)
 case c3=>unfold maxLen; rw [Jw]; omega
 case c4=>rw [Jw]; omega
 intro v' w2 hown' hgrow hblk hcap';have hlt:b < w1.heap.size:=by
  rcases Nat.lt_or_ge b w1.heap.size with h' | h'
  ·exact h'
  ·simp [Array.getElem?_eq_none h'] at hbk
 have hne:v.ownBlock≠some b:=fun h=>(hvb b h).2 rfl;have hb2:w2.heap[b]? = some (.cells #[.pointer (some ⟨b,0,none⟩),v] (ρ.t 72) (0,0)):=by
  rw [hgrow.block b hlt (fun e=>hne e.symm)];exact hbk
 have d0:w2.cell? ⟨b,0,none⟩=some (.pointer (some ⟨b,0,none⟩)):=by rw [Lib.cell_of_heap hb2]; rfl
 have d1:w2.cell? ⟨b,1,none⟩=some v:=by rw [Lib.cell_of_heap hb2]; rfl
 have f1:w2.frozen? ⟨b,1,none⟩=false:=Lib.frozen_of_heap hb2 1;obtain ⟨ao,n',cap,rfl⟩:∃ ao n' cap,v'=.slice ao n' cap:=by
  rcases hown'.2 with ⟨hv,_⟩ | ⟨g,cap,cur,hv,_⟩
  ·exact ⟨_,_,_,hv⟩
  ·exact ⟨_,_,_,hv⟩
 have hne':∀ g,Value.ownBlock (.slice ao n' cap)=some g->g≠b:=fun g hg=>by
  rcases hblk g hg with h | ⟨h,_⟩
  ·exact (hvb g h).2
  ·omega
 go_wp2
 go_ret2
 have hs1:w.heap.size<=w2.heap.size:=by have:=hgrow.size; omega
 refine ⟨(),(fun c=>M c\/(w.heap.size<=c/\c < w2.heap.size)),(fun c=>F c\/(w.heap.size<=c/\c < w2.heap.size)),by rw [Jw]; rfl,trivial,?_,?_⟩
 ·have:=rQ (w':=w2.setCell ⟨b,1,none⟩ (.slice ao n' cap)) ok (hgrow.os.trans o1) (hgrow.tape.trans o2) (hgrow.output.trans o3) (by simpa [World.setCell] using hs1) (fun c hc hf=>by
   have hcb:c≠b:=fun e=>hf (k1 b hFb |> (e ▸ ·));have hcv:some c≠v.ownBlock:=fun e=>hf (k1 c (hvb c e.symm).1);rw [Below.heap_setCell _ _ _ _ (fun e=>hcb (by simpa using e)),hgrow.block c (by omega) hcv,o5 c hcb])
  simpa [World.setCell] using this
 ·refine ⟨fun c=>F1 c\/(w.heap.size<=c/\c < w2.heap.size),fun _=>False,fun c h=>h.elim (fun h=>.inl (k1 c h)) .inr,fun c h=>h.elim,fun c _ h=>h,?_,trivial⟩;refine ⟨b,.pointer (some ⟨b,0,none⟩),.slice ao n' cap,rfl,.inl hFb,?_,.inr rfl,?_,?_,fun g hg=>⟨?_,hne' g hg⟩⟩
  ·simp [World.setCell,Array.getElem?_modify,hb2]
  ·have:(w2.setCell ⟨b,1,none⟩ (.slice ao n' cap)).ownsRow 0 (ρ.t 5) 1 (.slice ao n' cap) (l.length+(bs s).size) (Lib.byteCells l++Lib.strCells (bs s)):=ZF hown' fun g hg=>Below.heap_setCell _ _ _ _ (fun e=>hne' g hg (by simpa using e));rw [Jw] at this
   simpa [Lib.byteCells,Lib.strCells,bs] using this
  ·intro g c hg;rw [Jw] at hcap';exact hcap' g c (by simpa using hg)
  ·rcases hblk g hg with h | ⟨h,h2⟩
   ·exact .inl (hvb g h).1
   ·exact .inr ⟨by omega,h2⟩
theorem sO {w:World} {M F:Ba} (ok:Ok w M F) {g:Nat} (hg:F g) (n:Nat):Bo w M F (w.freeze ⟨g,0,none⟩ n) M F:=by
 unfold World.freeze
 split
 ·exact Bo.refl ok
 ·refine ⟨⟨rfl,rfl,rfl,by simp,fun b hb hm=>⟨hm,?_⟩⟩,⟨fun b hb=>by simpa using ok.bd b hb,ok.sub⟩,fun b hb hf=>⟨hb,hf,?_⟩⟩
  ·rw [Array.getElem?_modify,if_neg (fun e:g=b=>hm (e ▸ ok.sub g hg))]
  ·rw [Array.getElem?_modify,if_neg (fun e:g=b=>hf (e ▸ hg))]
set_option maxHeartbeats 2000000 in
set_option maxRecDepth 100000 in
theorem rP (L:Lays.n169 P ρ) (X:Builder.Extra P ρ) {b:Nat} {p:Value} {w:World} (hbk:w.heap[b]? = some (.cells #[p,.slice none 0 0] (ρ.t 72) (0,0))) :
  Calls P (ρ.f 169) #[.pointer (some ⟨b,0,none⟩)] w fun e w'=>e=.returned (.string ⟨#[]⟩)/\w'=w.drew:=by
 have hUS:=Any.unsafeString_none L X;have c1:w.drew.cell? ⟨b,1,none⟩=some (.slice none 0 0):=by
  have:w.drew.heap[b]? = some (.cells #[p,.slice none 0 0] (ρ.t 72) (0,0)):=hbk;rw [Lib.cell_of_heap this]; rfl
 have hSD:(Builtin.unsafeSliceData_ #[(ρ.t 37)] (ρ.t 127) #[.slice none 0 0]).run P w.drew=.ok (.pointer none) w.drew:=rfl;have mixed:=L.mixed;have t72:=L.t72; have a72:=L.a72; have z72:=L.z72; have v72:=L.v72; have u72:=run_underlying L.t72
 have t70:=L.t70; have a70:=L.a70; have z70:=L.z70; have v70:=L.v70; have u70:=run_underlying L.t70
 have t37:=L.t37; have a37:=L.a37; have z37:=L.z37; have v37:=L.v37; have u37:=run_underlying L.t37
 have t127:=L.t127; have a127:=L.a127; have z127:=L.z127; have v127:=L.v127; have u127:=run_underlying L.t127
 have t3:=L.t3; have a3:=L.a3; have z3:=L.z3; have v3:=L.v3; have u3:=run_underlying L.t3
 have t9:=L.t9; have a9:=L.a9; have z9:=L.z9; have v9:=L.v9; have u9:=run_underlying L.t9
 have t5:=X.t5; have a5:=X.a5; have z5:=X.z5; have v5:=X.v5; have u5:=run_underlying X.t5
 go_enter L.f169,Body.n169_ntmps ρ
 go_wp2
 go_region_o
 all_goals (go_wp2; go_ret; exact ⟨rfl,rfl⟩)
set_option maxHeartbeats 2000000 in
set_option maxRecDepth 100000 in
theorem kW (L:Lays.n169 P ρ) (X:Builder.Extra P ρ) {b g cap:Nat} {p:Value} {w:World} (hc0:cap≠0) (hbk:w.heap[b]? = some (.cells #[p,.slice (some ⟨g,0,none⟩) 0 cap] (ρ.t 72) (0,0))) :
  Calls P (ρ.f 169) #[.pointer (some ⟨b,0,none⟩)] w fun e w'=>e=.returned (.string ⟨#[]⟩)/\w'=w.drew:=by
 have hUS:=Any.unsafeString_none L X;have c1:w.drew.cell? ⟨b,1,none⟩=some (.slice (some ⟨g,0,none⟩) 0 cap):=by
  have:w.drew.heap[b]? = some (.cells #[p,.slice (some ⟨g,0,none⟩) 0 cap] (ρ.t 72) (0,0)):=hbk;rw [Lib.cell_of_heap this]; rfl
 have hSD:(Builtin.unsafeSliceData_ #[(ρ.t 37)] (ρ.t 127) #[.slice (some ⟨g,0,none⟩) 0 cap]).run P w.drew=.ok (.pointer (some ⟨g,0,none⟩)) w.drew:=
  Lib.run_unsafeSliceData_row _ _ _ _ _ _ hc0
 clear hc0;have mixed:=L.mixed;have t72:=L.t72; have a72:=L.a72; have z72:=L.z72; have v72:=L.v72; have u72:=run_underlying L.t72
 have t70:=L.t70; have a70:=L.a70; have z70:=L.z70; have v70:=L.v70; have u70:=run_underlying L.t70
 have t37:=L.t37; have a37:=L.a37; have z37:=L.z37; have v37:=L.v37; have u37:=run_underlying L.t37
 have t127:=L.t127; have a127:=L.a127; have z127:=L.z127; have v127:=L.v127; have u127:=run_underlying L.t127
 have t3:=L.t3; have a3:=L.a3; have z3:=L.z3; have v3:=L.v3; have u3:=run_underlying L.t3
 have t9:=L.t9; have a9:=L.a9; have z9:=L.z9; have v9:=L.v9; have u9:=run_underlying L.t9
 have t5:=X.t5; have a5:=X.a5; have z5:=X.z5; have v5:=X.v5; have u5:=run_underlying X.t5
 go_enter L.f169,Body.n169_ntmps ρ
 go_wp2
 go_region_o
 all_goals (go_wp2; go_ret; exact ⟨rfl,rfl⟩)
set_option maxHeartbeats 2000000 in
set_option maxRecDepth 100000 in
theorem rY (L:Lays.n169 P ρ) (X:Builder.Extra P ρ) {b g cap:Nat} {p:Value} {cur:Array Value} {l:List UInt8} {w:World} (h0:l≠[]) (hbk:w.heap[b]? = some (.cells #[p,.slice (some ⟨g,0,none⟩) l.length cap] (ρ.t 72) (0,0)))
  (hg:w.heap[g]? = some (.cells cur (ρ.t 5) (0,0))) (hnc:l.length<=cap) (hcm:cap<=maxLen) (hcs:cur.size=cap*1) (htake:cur.toList.take (l.length*1)=Lib.byteCells l) :
  Calls P (ρ.f 169) #[.pointer (some ⟨b,0,none⟩)] w fun e w'=>e=.returned (.string ⟨l.toArray⟩)/\w'=w.drew.freeze ⟨g,0,none⟩ l.length:=by
 have hl0:l.length≠0:=by simpa using h0
 have c1:w.drew.cell? ⟨b,1,none⟩=some (.slice (some ⟨g,0,none⟩) l.length cap):=by
  have:w.drew.heap[b]? = some (.cells #[p,.slice (some ⟨g,0,none⟩) l.length cap] (ρ.t 72) (0,0)):=hbk;rw [Lib.cell_of_heap this]; rfl
 have hSD:(Builtin.unsafeSliceData_ #[(ρ.t 37)] (ρ.t 127) #[.slice (some ⟨g,0,none⟩) l.length cap]).run P w.drew=.ok (.pointer (some ⟨g,0,none⟩)) w.drew:=
  Lib.run_unsafeSliceData_row _ _ _ _ _ _ (by omega)
 have hUS:(Builtin.unsafeString_ #[(ρ.t 127),(ρ.t 3)] (ρ.t 9) #[.pointer (some ⟨g,0,none⟩),.int .i64 l.length]).run P w.drew=.ok (.string ⟨l.toArray⟩) (w.drew.freeze ⟨g,0,none⟩ l.length):=by
  refine Lib.run_unsafeString_row w.drew (ρ.t 127) (ρ.t 3) (ρ.t 9) (ρ.t 5) L.t127 X.cellsByte g cur.size (by have hg':w.drew.heap[g]? = some (.cells cur (ρ.t 5) (0,0)):=hg; simp [World.shape?,hg']) l h0 (by omega) (by unfold maxLen at hcm; omega) ?_;intro j x hx;have h1:cur.toList[j]? = some (.int .u8 x.toNat):=by
   have h2:(cur.toList.take (l.length*1))[j]? = some (.int .u8 x.toNat):=by rw [htake]; simp [Lib.byteCells,hx]
   rw [List.getElem?_take] at h2
   split at h2
   ·exact h2
   ·cases h2
  have hg':w.drew.heap[g]? = some (.cells cur (ρ.t 5) (0,0)):=hg;rw [CS];simp only [World.cell?,hg']
  simpa using h1
 have mixed:=L.mixed;have t72:=L.t72; have a72:=L.a72; have z72:=L.z72; have v72:=L.v72; have u72:=run_underlying L.t72
 have t70:=L.t70; have a70:=L.a70; have z70:=L.z70; have v70:=L.v70; have u70:=run_underlying L.t70
 have t37:=L.t37; have a37:=L.a37; have z37:=L.z37; have v37:=L.v37; have u37:=run_underlying L.t37
 have t127:=L.t127; have a127:=L.a127; have z127:=L.z127; have v127:=L.v127; have u127:=run_underlying L.t127
 have t3:=L.t3; have a3:=L.a3; have z3:=L.z3; have v3:=L.v3; have u3:=run_underlying L.t3
 have t9:=L.t9; have a9:=L.a9; have z9:=L.z9; have v9:=L.v9; have u9:=run_underlying L.t9
 have t5:=X.t5; have a5:=X.a5; have z5:=X.z5; have v5:=X.v5; have u5:=run_underlying X.t5
 go_enter L.f169,Body.n169_ntmps ρ
 go_wp2
 go_region_o
 all_goals (go_wp2; go_ret; exact ⟨rfl,rfl⟩)
theorem d8 (L:Lays.n169 P ρ) (X:Builder.Extra P ρ) (p:Value) (l:List UInt8) (hl:l.length<=140737488355328):FT P (ρ.f 169) #[p] [BD (ρ.t 72) (ρ.t 5) p l] (fun _:Unit=>l.length<=140737488355328) (fun _=>.string (bs (Aa.mk l))) (fun _=>[]):=by
 rintro w M F ok ⟨F1,F2,k1,k2,kd,⟨b,p0,v,rfl,hFb,hbk,hp0,hown,hcap,hvb⟩,_⟩;rcases hown.2 with ⟨rfl,h0⟩ | ⟨g,cap,cur,rfl,_,hg,hnc,hcm,hcs,htake⟩
 ·have:l=[]:=List.eq_nil_of_length_eq_zero h0;subst this;refine (rP L X hbk).mono ?_;rintro e w' ⟨rfl,rfl⟩;exact ⟨(),M,F,rfl,hl,Nq ok,trivial⟩
 ·by_cases h0:l=[]
  ·subst h0;refine (kW L X (by have:=hcap _ _ rfl; omega) hbk).mono ?_;rintro e w' ⟨rfl,rfl⟩;exact ⟨(),M,F,rfl,hl,Nq ok,trivial⟩
  ·refine (rY L X h0 hbk hg hnc hcm hcs htake).mono ?_;rintro e w' ⟨rfl,rfl⟩;have s1:=Nq ok;exact ⟨(),M,F,rfl,hl,s1.trans (sO s1.ok (k1 g (hvb g rfl).1) _),trivial⟩
theorem sI {P:Program} {L:At} {A:List SP} {o:Oper} {T:TypeId} (E:TypeId) (hz:C6 P T=some (.agg #[.pointer none,.slice none 0 0])) (hop:o.op=.alloc T:=by exact rfl):AL P L A o (fun p:Value=>p) (fun p=>BD T E p [] :: A):=fun ρ hρ w M F ok hs=>by
 obtain ⟨M',F',s,h⟩:=OC ok hs #[.pointer none,.slice none 0 0] T (BD T E (.pointer (some ⟨w.heap.size,0,none⟩)) []) (fun F1 h=>⟨w.heap.size,.pointer none,.slice none 0 0,rfl,h,by simp,.inl rfl,World.ownsRow_nil _ _ _ _,fun g c e=>(by injection e with e; cases e),fun g e=>(by simp [Value.ownBlock] at e)⟩);refine ⟨.pointer (some ⟨w.heap.size,0,none⟩),_,M',F',?_,s,h⟩
 simp [execOp,hop,Instr.alloc,OV hz,newVar,newRow,Value.cells]
theorem nZ (L:Lays.n166 P ρ) (X:Builder.Extra P ρ) (p:Value) (l:List UInt8) (s:Aa) (hlen:l.length+s.b.length<=140737488355328) :
  FT P (ρ.f 166) #[p,.string (bs s)] [BD (ρ.t 72) (ρ.t 5) p l] (fun _:Unit=>(l++s.b).length=l.length+s.b.length) (fun _=>.tuple #[.int .i64 s.b.length,.nilIface]) (fun _=>[BD (ρ.t 72) (ρ.t 5) p (l++s.b)]):=fun w M F ok h=>
 (nT L X p l s hlen w M F ok h).mono fun e w' h=>by
  obtain ⟨g,M',F',h1,_,h2⟩:=h;exact ⟨g,M',F',h1,List.length_append,h2⟩
end
end Go.SL
namespace Go.SL
open Go
structure U4 where
 b:BitVec 64
structure Vh where
 re:BitVec 64
 im:BitVec 64
instance:Inhabited U4:=⟨⟨0#64⟩⟩
instance:Inhabited Vh:=⟨⟨0#64,0#64⟩⟩
def ZB (x:U4):Value:=.float .f64 x.b.toNat
def ZD (x:Vh):Value:=.complex .f64 x.re.toNat x.im.toNat
abbrev iZ:Ieee.Format:=FloatKind.f64.format
def aW (x:BitVec 64):Ieee.Datum:=iZ.read x.toNat
def lP (x y:BitVec 64):Option Ordering:=(aW x).order (aW y)
instance:RepE U4 where
 sz:=1
 bytes:=8
 pos:=by decide
 bpos:=by decide
 rd _ _ cs x:=cs=[ZB x]
 len:=by rintro w M cs x rfl; rfl
 one:=by rintro w M cs x rfl v hv; simp at hv; subst hv; rfl
 st:=fun h _=>h
 ex x:=[ZB x]
 ok _:=True
 ex_eq:=fun h=>⟨h,trivial⟩
 rd_ex:=fun _=>rfl
instance:RepE Vh where
 sz:=1
 bytes:=16
 pos:=by decide
 bpos:=by decide
 rd _ _ cs x:=cs=[ZD x]
 len:=by rintro w M cs x rfl; rfl
 one:=by rintro w M cs x rfl v hv; simp at hv; subst hv; rfl
 st:=fun h _=>h
 ex x:=[ZD x]
 ok _:=True
 ex_eq:=fun h=>⟨h,trivial⟩
 rd_ex:=fun _=>rfl
section
variable {P:Program} {L:At} {A:List SP} {o:Oper}
theorem Ts (x y:BitVec 64):Op.Complex.cmp .eql .f64 x.toNat y.toNat=pure (lP x y == some .eq):=rfl
end
end Go.SL
namespace Go.SL
open Go
section
variable {P:Program} {L:At} {A:List SP} {o:Oper}
end
end Go.SL
namespace Go.SL
open Go
end Go.SL
namespace Go.SL
open Go
section
variable {P:Program} {L:At} {A:List SP} {o:Oper}
end
end Go.SL
namespace Go.SL
open Go Go.WideShapes Go.ChangeShapes Go.RowKit
section
variable {P:Program} {L:At} {A:List SP} {o:Oper}
end
section
variable {P:Program} {w:World}
end
end Go.SL
namespace Go.SL
open Go Go.WideShapes Go.ChangeShapes Go.RowKit
class Lim (α:Type) where
 lim:Nat->α->Prop
instance:Lim Int:=⟨fun _ _=>True⟩
instance:Lim (BitVec 64):=⟨fun _ _=>True⟩
instance:Lim Bool:=⟨fun _ _=>True⟩
instance:Lim Aa:=⟨fun L s=>s.b.length<=L⟩
instance {α:Type} [Rep α] [Lim α]:Lim (List α):=⟨fun L xs=>xs.length*Rep.bytes α<=L/\∀ x∈xs,Lim.lim L x⟩
section
variable {H:Type} {enc:TypeId×Value->H} {P:Program} {w:World} {L:Nat}
class RdL (P:Program) (T:TypeId) (L:Nat) (α:Type) [Rep α] [Lim α]:Prop where
 rd:∀ {H:Type} {enc:TypeId×Value->H} {w:World} {n:Nat} {cs:List Value} {x:DataW H×List MemPlace},DataW.trod enc P w 0 (fun _=>true) true n T cs=some x ->
  (x.1.weights P T).all (· <= L)=true->∃ a:α,Rep.rd w (fun _=>False) cs a/\Lim.lim L a
theorem YJ {L L':Nat} (h:L<=L') {l:List Nat} (hl:l.all (· <= L)=true):l.all (· <= L')=true:=by
 simp only [List.all_eq_true,decide_eq_true_eq] at hl ⊢;intro x hx; exact Nat.le_trans (hl x hx) h
theorem fE {T:TypeId} (hL:L<=reachBytes) (hT:P.underlying T=some (.int .i64)):RdL P T L Int:=⟨fun h hw=>by
 obtain ⟨a,ha⟩:=(cV hT).rd h (YJ hL hw); exact ⟨a,ha,trivial⟩⟩
theorem lV {T:TypeId} (hL:L<=reachBytes) (hT:P.underlying T=some .string):RdL P T L Aa:=⟨by
 intro H enc w n cs x h hw;cases n with
 | zero=>simp [DataW.trod] at h
 | succ n=>
  unfold DataW.trod at h;rw [hT] at h
  split at h <;> try (simp_all; done)
  rename_i s _
  split at h
  ·simp only [Option.some.injEq] at h;subst h;simp only [DataW.weights,List.all_cons,List.all_nil,Bool.and_true,decide_eq_true_eq] at hw;refine ⟨⟨s.data.toList⟩,⟨by rw [Y3],?_⟩,hw⟩;unfold reachBytes at hL;show s.data.toList.length<=_;omega
  ·cases h⟩
theorem iA {T e:TypeId} (hT:P.underlying T=some (.slice e)) (B2 rest:List (DataW H)) (hw:((DataW.slice B2 rest).weights P T).all (· <= L)=true) :
  (B2.length+rest.length)*P.bytesOf e<=L/\∀ d∈B2,(d.weights P e).all (· <= L)=true:=by
 simp only [DataW.weights,hT,List.all_cons,Bool.and_eq_true,decide_eq_true_eq,List.all_append] at hw;obtain ⟨h1,h2,_⟩:=hw;refine ⟨h1,?_⟩;clear h1
 induction B2 with
 | nil=>intro d hd; cases hd
 | cons x xs ih=>
  simp only [DataW.weightsAll,List.all_append,Bool.and_eq_true] at h2;intro d hd;rcases List.mem_cons.1 hd with rfl | hd
  ·exact h2.1
  ·exact ih h2.2 d hd
theorem Pm {α:Type} [Rep α] [Lim α] {T e:TypeId} (hL:L<=reachBytes) (R:RdL P e L α) (hT:P.underlying T=some (.slice e)) (hs:P.cellsOf e=Rep.sz α) (hb:P.bytesOf e=Rep.bytes α):RdL P T L (List α):=⟨by
 intro H enc w n cs x h hw;rcases pL hT h with ⟨rfl,hx⟩ | ⟨a,len,cap,m,B2,rest,rfl,hle,hel,hall,hx⟩
 ·exact ⟨[],⟨_,rfl,NC⟩,by show 0*_<=_; omega,fun x hx=>by cases hx⟩
 ·rw [hx] at hw;obtain ⟨h1,h2⟩:=iA hT _ _ hw;have key:∀ k,k<=len->∃ xs:List α,xs.length=k/\(∀ (i:Nat) (y:α),xs[i]? = some y->∃ ecs,w.cells? 0 (a.add (i*P.cellsOf e)) (P.cellsOf e)=some ecs/\Rep.rd w (fun _=>False) ecs y)/\∀ y∈xs,Lim.lim L y:=by
   intro k
   induction k with
   | zero=>intro _; exact ⟨[],rfl,fun i y hy=>by simp at hy,fun y hy=>by cases hy⟩
   | succ k ih=>
    intro hk;obtain ⟨xs,l1,l2,l3⟩:=ih (by omega);obtain ⟨ecs,y,e1,e2,e3⟩:=hall k (by omega);obtain ⟨z,hz,hzl⟩:=R.rd e3 (h2 y.1 (List.mem_map.2 ⟨y,List.mem_of_getElem? e1,rfl⟩));refine ⟨xs++[z],by simp [l1],fun i v hv=>?_,fun v hv=>?_⟩
    ·rcases Nat.lt_or_ge i xs.length with hi | hi
     ·rw [List.getElem?_append_left hi] at hv; exact l2 i v hv
     ·rw [List.getElem?_append_right hi] at hv;have:i=k:=by
       rcases Nat.lt_or_ge i (k+1) with h' | h'
       ·omega
       ·rw [List.getElem?_eq_none (by simp; omega)] at hv; cases hv
      subst this;rw [show i - xs.length=0 by omega] at hv
      simp at hv; subst hv
      exact ⟨ecs,e2,hz⟩
    ·rcases List.mem_append.1 hv with hv | hv
     ·exact l3 v hv
     ·rw [List.mem_singleton] at hv; subst hv; exact hzl
  obtain ⟨xs,l1,l2,l3⟩:=key len (Nat.le_refl _);have hby:xs.length*Rep.bytes α<=L:=by
   rw [l1,<- hb];simp only [List.length_map] at h1;have:len*P.bytesOf e<=(B2.length+rest.length)*P.bytesOf e:=Nat.mul_le_mul_right _ (by omega);omega
  refine ⟨xs,⟨_,rfl,?_,some a,cap,by rw [l1],by omega,?_⟩,hby,l3⟩
  ·unfold FP;unfold reachBytes at hL;omega
  ·simp only;cases xs with
   | nil=>exact .inl rfl
   | cons x0 xs=>
    right;obtain ⟨ecs,c1,c2⟩:=l2 0 x0 rfl;obtain ⟨d1,d2⟩:=YM c1;have hp:=Rep.pos (α:=α);have h0:∃ u,ecs[0]? = some u:=by rw [List.getElem?_eq_getElem (by omega)]; exact ⟨_,rfl⟩
    obtain ⟨u,hu⟩:=h0;have hc:=d2 0 u hu;obtain ⟨b,off,spot⟩:=a;have hsp:spot=none:=by
     simpa [Addr.add] using World.cell?_spot hc
    subst hsp;have hblk:∃ cells T' fz,w.heap[b]? = some (.cells cells T' fz):=by
     simp only [CS,World.cell?] at hc;cases hh:w.heap[b]? with
     | none=>simp [hh] at hc
     | some o=>
      cases o with
      | cells c t f=>exact ⟨c,t,f,rfl⟩
      | _=>simp [hh] at hc
    obtain ⟨cells,T',fz,hh⟩:=hblk;refine ⟨cells,T',fz,rfl,hh,fun h=>h,fun i y hy=>?_⟩;obtain ⟨ecs,c1,c2⟩:=l2 i y hy;obtain ⟨d1,d2⟩:=YM c1;refine ⟨ecs,fun j u hu=>?_,c2⟩;have:=d2 j u hu;rw [CS,CS,hs] at this
    simpa [World.cell?,hh] using this⟩
theorem YW:∀ (l:List Field) (xs:List (DataW H×List MemPlace)),(DataW.weightsEach P (l.map (·.type)) (xs.map (·.1))).all (· <= L)=true->∀ (i:Nat) {f:Field} {y:DataW H×List MemPlace},l[i]? = some f->xs[i]? = some y->(y.1.weights P f.type).all (· <= L)=true
 | [],_,_,i,_,_,h,_=>by simp at h
 | _ :: _,[],_,i,_,_,_,h=>by simp at h
 | g :: l,z :: xs,hw,i,f,y,hf,hy=>by
  simp only [List.map_cons,DataW.weightsEach,List.all_append,Bool.and_eq_true] at hw;cases i with
  | zero=>simp at hf hy; subst hf; subst hy; exact hw.1
  | succ i=>exact YW l xs hw.2 i (by simpa using hf) (by simpa using hy)
theorem PY {T:TypeId} {fs:Array Field} {n:Nat} {cs:List Value} {x:DataW H×List MemPlace} (hT:P.underlying T=some (.struct fs)) (h:DataW.trod enc P w 0 (fun _=>true) true n T cs=some x)
  (hw:(x.1.weights P T).all (· <= L)=true) :
  cs.length=P.cellsOf T/\∀ (i:Nat) (f:Field),fs[i]? = some f->∃ m y,DataW.trod enc P w 0 (fun _=>true) true m f.type ((cs.drop f.offset).take (P.cellsOf f.type))=some y/\(y.1.weights P f.type).all (· <= L)=true:=by
 obtain ⟨l⟩:=fs;cases n with
 | zero=>simp [DataW.trod] at h
 | succ n=>
  unfold DataW.trod at h;rw [hT] at h
  split at h <;> try (simp_all; done)
  rename_i fs' heq;have e:fs'=⟨l⟩:=by simpa using heq.symm
  subst e
  split at h
  ·rename_i hc;simp only [Option.map_eq_some_iff] at h;obtain ⟨xs,h1,rfl⟩:=h;obtain ⟨k1,k2⟩:=Sy h1;refine ⟨hc,fun i f hf=>?_⟩;have hfl:l[i]? = some f:=by simpa using hf
   obtain ⟨y,y1,y2⟩:=k2 i f hfl;refine ⟨n,y,y2,?_⟩;simp only [DataW.weights,hT] at hw;exact YW l xs hw i hfl y1
  ·cases h
theorem m6 {α:Type} [Rep α] [Lim α] {T:TypeId} {fs:Array Field} (R:RdL P T L α) (hT:P.underlying T=some (.struct fs)) {v:Value} {d:DataW H} {p:List MemPlace} {base:Nat} (hok:Value.okWide P w .any base T v)
  (ht:DataW.Trod enc P w 0 (fun _=>true) true T v d p) (hw:(d.weights P T).all (· <= L)=true):∃ (x:α) (cs:List Value),v=.agg cs.toArray/\Rep.rd w (fun _=>False) cs x/\Lim.lim L x:=by
 obtain ⟨cs,rfl,_⟩:=okWide_struct hT hok;obtain ⟨n,ht⟩:=ht;obtain ⟨x,h⟩:=R.rd ht hw;exact ⟨x,cs.toList,by simp,by simpa [Value.cells] using h⟩
end
section
variable {P:Program}
structure Np (H:Type) (bk:DataW H->Nat) (bka:List (DataW H)->Nat) (bke:List (Lit×DataW H)->Nat) (bk1:Lit×DataW H->Nat):Prop where
 str:∀ b,bk (.lit (.string b))=b.length+1
 one:∀ d,1<=bk d
 ptr:∀ d,bk (.ptr d)=bk d+1
 sl:∀ e r,bk (.slice e r)=bka e+bka r+1
 agg:∀ l,bk (.agg l)=bka l+1
 map:∀ l,bk (.map l)=bke l+1
 nil:bka []=0
 cons:∀ d r,bka (d :: r)=bk d+bka r
 enil:bke []=0
 econs:∀ x r,bke (x :: r)=bk1 x+bke r
 estr:∀ b d,bk1 (.string b,d)=b.length+bk d+1
 eone:∀ l d,bk d+1<=bk1 (l,d)
variable {H:Type} {bk:DataW H->Nat} {bka:List (DataW H)->Nat} {bke:List (Lit×DataW H)->Nat} {bk1:Lit×DataW H->Nat}
theorem Uz (B:Np H bk bka bke bk1):∀ l:List (DataW H),l.length<=bka l
 | []=>by simp
 | d :: r=>by have:=Uz B r; have:=B.one d; rw [B.cons,List.length_cons]; omega
theorem Xg (B:Np H bk bka bke bk1):∀ l:List (Lit×DataW H),l.length<=bke l
 | []=>by simp
 | (k,d) :: r=>by have:=Xg B r; have:=B.eone k d; rw [B.econs,List.length_cons]; omega
def NJ (P:Program) (N:Nat):Bool:=(List.range N).all fun t=>decide (P.bytesOf t<=4096) && match P.underlying t with
 | some (.slice e)=>decide (e < N)
 | some (.pointer e)=>decide (e < N)
 | some (.struct fs)=>fs.toList.all fun f=>decide (f.type < N)
 | some (.array _ e)=>decide (e < N)
 | some (.map k e)=>decide (k < N) && decide (e < N)
 | _=>true
variable {N:Nat}
theorem UX (h:NJ P N=true) {t:Nat} (ht:t < N):P.bytesOf t<=4096:=by
 have:=List.all_eq_true.1 h t (List.mem_range.2 ht);rw [Bool.and_eq_true] at this;exact of_decide_eq_true this.1
theorem Sn (h:NJ P N=true) {t:Nat} (ht:t < N):(match P.underlying t with
 | some (.slice e)=>decide (e < N)
 | some (.pointer e)=>decide (e < N)
 | some (.struct fs)=>fs.toList.all fun f=>decide (f.type < N)
 | some (.array _ e)=>decide (e < N)
 | some (.map k e)=>decide (k < N) && decide (e < N)
 | _=>true)=true:=by
 have:=List.all_eq_true.1 h t (List.mem_range.2 ht);rw [Bool.and_eq_true] at this;exact this.2
theorem gN {b n m:Nat} (hb:b<=4096) (h:n<=m):n*b<=m*8192:=Nat.mul_le_mul h (Nat.le_trans hb (by decide))
mutual
theorem SM (B:Np H bk bka bke bk1) (hB:NJ P N=true):∀ (d:DataW H) (t:TypeId) (m:Nat),t < N->bk d<=m->(d.weights P t).all (· <= m*8192)=true
 | .lit (.string b),t,m,ht,h=>by
  rw [B.str] at h;simp only [DataW.weights,List.all_cons,List.all_nil,Bool.and_true,decide_eq_true_eq]; omega
 | .lit (.int ..),t,m,ht,h=>by simp [DataW.weights]
 | .lit (.bool ..),t,m,ht,h=>by simp [DataW.weights]
 | .lit (.float ..),t,m,ht,h=>by simp [DataW.weights]
 | .lit .nil,t,m,ht,h=>by simp [DataW.weights]
 | .nil,t,m,ht,h=>by simp [DataW.weights]
 | .ptr d,t,m,ht,h=>by
  rw [B.ptr] at h;have hm:=Sn hB ht;simp only [DataW.weights]
  split
  ·rename_i e he; rw [he] at hm; exact SM B hB d _ m (of_decide_eq_true hm) (by omega)
  ·rfl
 | .slice es sp,t,m,ht,h=>by
  rw [B.sl] at h;have hm:=Sn hB ht;simp only [DataW.weights]
  split
  ·rename_i e he; rw [he] at hm;have he:=of_decide_eq_true hm;have h1:=Uz B es; have h2:=Uz B sp
   simp only [List.all_cons,List.all_append,Bool.and_eq_true,decide_eq_true_eq];exact ⟨gN (UX hB he) (by omega),Rx B hB es _ m he (by omega),Rx B hB sp _ m he (by omega)⟩
  ·rfl
 | .agg ps,t,m,ht,h=>by
  rw [B.agg] at h;have hm:=Sn hB ht;simp only [DataW.weights]
  split
  ·rename_i fs he; rw [he] at hm;refine Up B hB ps _ m (fun x hx=>?_) (by omega);obtain ⟨f,hf,rfl⟩:=List.mem_map.1 hx;exact of_decide_eq_true (List.all_eq_true.1 hm f hf)
  ·rename_i e he; rw [he] at hm; exact Rx B hB ps _ m (of_decide_eq_true hm) (by omega)
  ·rfl
 | .iface a d,t,m,ht,h=>by simp [DataW.weights]
 | .map en,t,m,ht,h=>by
  rw [B.map] at h;have hm:=Sn hB ht;simp only [DataW.weights]
  split
  ·rename_i k e he; rw [he] at hm;simp only [Bool.and_eq_true,decide_eq_true_eq] at hm;have h1:=Xg B en;simp only [List.all_cons,Bool.and_eq_true,decide_eq_true_eq];refine ⟨?_,bR B hB en _ m hm.2 (by omega)⟩;refine Nat.mul_le_mul (by omega) ?_;have h3:=UX hB hm.1; have h4:=UX hB hm.2; omega
  ·rfl
 | .held a,t,m,ht,h=>by simp [DataW.weights]
theorem Rx (B:Np H bk bka bke bk1) (hB:NJ P N=true):∀ (l:List (DataW H)) (t:TypeId) (m:Nat),t < N->bka l<=m->(DataW.weightsAll P t l).all (· <= m*8192)=true
 | [],t,m,ht,h=>by simp [DataW.weightsAll]
 | d :: r,t,m,ht,h=>by
  rw [B.cons] at h;simp only [DataW.weightsAll,List.all_append,Bool.and_eq_true];exact ⟨SM B hB d t m ht (by omega),Rx B hB r t m ht (by omega)⟩
theorem Up (B:Np H bk bka bke bk1) (hB:NJ P N=true):∀ (l:List (DataW H)) (ts:List TypeId) (m:Nat),(∀ x∈ts,x < N)->bka l<=m->(DataW.weightsEach P ts l).all (· <= m*8192)=true
 | [],ts,m,ht,h=>by cases ts <;> simp [DataW.weightsEach]
 | d :: r,[],m,ht,h=>by simp [DataW.weightsEach]
 | d :: r,t :: ts,m,ht,h=>by
  rw [B.cons] at h;simp only [DataW.weightsEach,List.all_append,Bool.and_eq_true];exact ⟨SM B hB d t m (ht t (by simp)) (by omega),Up B hB r ts m (fun x hx=>ht x (by simp [hx])) (by omega)⟩
theorem bR (B:Np H bk bka bke bk1) (hB:NJ P N=true):∀ (l:List (Lit×DataW H)) (t:TypeId) (m:Nat),t < N->bke l<=m->(DataW.weightsEntries P t l).all (· <= m*8192)=true
 | [],t,m,ht,h=>by simp [DataW.weightsEntries]
 | (k,d) :: r,t,m,ht,h=>by
  rw [B.econs] at h;have h1:=B.eone k d;have h2:=SM B hB d t m ht (by omega);simp only [DataW.weightsEntries,List.all_append,Bool.and_eq_true];refine ⟨?_,bR B hB r t m ht (by omega)⟩;cases k with
  | string b=>
   have:=B.estr b d;simp only [DataW.weightsEntry,List.all_cons,Bool.and_eq_true,decide_eq_true_eq];exact ⟨by omega,h2⟩
  | _=>simpa only [DataW.weightsEntry] using h2
end
theorem Y0 {α:Type} [Rep α] [Lim α] {enc:TypeId×Value->H} {w:World} {L:Nat} {T e:TypeId} (R:RdL P T L (List α)) (hT:P.underlying T=some (.slice e)) {v:Value} {d:DataW H} {p:List MemPlace} {base:Nat} (hok:Value.okWide P w .any base T v)
  (ht:DataW.Trod enc P w 0 (fun _=>true) true T v d p) (hw:(d.weights P T).all (· <= L)=true):∃ (x:List α) (a:Option Addr) (k:Nat),v=.slice a x.length k/\(∀ F,(sl v x).h w (fun _=>False) F)/\Lim.lim L x:=by
 obtain ⟨a,len,cap,rfl⟩:=okWide_slice hT hok;obtain ⟨n,ht⟩:=ht;obtain ⟨x,⟨c,e,h⟩,hl⟩:=R.rd ht hw;have e:c=.slice a len cap:=by simpa [Value.cells] using e.symm
 subst e;have h':=h;obtain ⟨_,a',k',e',_⟩:=h';exact ⟨x,a',k',e',fun F=>h,hl⟩
end
theorem qF {H:Type} {enc:TypeId×Value->H} {C:Checked} {os:Os} {f:FuncId} {fn:Func} {s:ChangeSpec} {k:(H:Type)->List (DataW H)->Bool} {apart:Bool} {X:World->Array Value->Prop} (w0:World) (args:Array Value) (fuel:Nat) (hos:w0.os=os)
  (hsh:(w0.forCall (fun _ _=>0) ⟨#[],args,[]⟩).Shaped C.prog)
  (hok:Input.okWideB C.prog (w0.forCall (fun _ _=>0) ⟨#[],args,[]⟩) f ⟨#[],args,[]⟩=true)
  (hx0:(DataW.whole enc C.prog (w0.forCall (fun _ _=>0) ⟨#[],args,[]⟩).memory fn.params.toList s.vars apart args.toList fuel).any (fun x=>k H (x.1++x.2.1))=true)
  (hsz:s.sizedB enc C.prog fn apart (w0.forCall (fun _ _=>0) ⟨#[],args,[]⟩).memory args fuel=true)
  (hx:X (w0.forCall (fun _ _=>0) ⟨#[],args,[]⟩).memory args) :
  ∃ (w:World) (tape:Tape) (i:Input),w.os=os/\(w.forCall tape i).Shaped C.prog/\i.vars=[]/\Input.okWide C.prog (w.forCall tape i) .any w.heap.size f i /\
   ((OpenSpec.pre enc C.prog fn { OpenSpec.ofChange s with cond:=some k } [] apart (w.forCall tape i).memory i.args/\X (w.forCall tape i).memory i.args)/\sizedMet enc C.prog fn (OpenSpec.ofChange s) apart (w.forCall tape i).memory i.args)/\({}:Assume).holds C.prog (lone (Frame.enter C.prog f i.args .normal) [] (w.forCall tape i)):=by
 cases hw:DataW.whole enc C.prog (w0.forCall (fun _ _=>0) ⟨#[],args,[]⟩).memory fn.params.toList s.vars apart args.toList fuel with
 | none=>rw [hw] at hx0; cases hx0
 | some x=>
 rw [hw] at hx0;have hkk:k H (x.1++x.2.1)=true:=hx0;have hx0:=hw;exact ⟨w0,fun _ _=>0,⟨#[],args,[]⟩,hos,hsh,(Input.okWide_of_okWideB (base:=0) hok).1,(Input.okWide_of_okWideB hok).2,⟨⟨(OpenSpec.pre_some rfl [] apart _ _).2 ⟨x.1,x.2.1,x.2.2,DataW.Whole_of_whole hx0,rfl,hkk⟩,hx⟩,sizedMet_of_sizedB hsz⟩,by
  simp only [Assume.holds];exact ⟨by simp,by simp,fun h=>(by cases h),by simp,by simp⟩⟩
theorem kC {p:Pinned} {s:ChangeSpec} {k:(H:Type)->List (DataW H)->Bool} {c:OpenClaim} (f:FuncId) (fn:Func) {tb:TypeId} {lx:String×DataW Unit} {lr:List (String×DataW Unit)}
  (hn:c.program=p.name) (hsm:c.sum=p.sum) (hsp:c.spec=s.name)
  (hstart:c.start=.entering) (hout:c.outside=[]) (hin:c.inits=[]) (hun:c.under=none) (hi4:c.initsInPlace=[]/\c.initsUnfollowed=false/\c.initsRecurse=false/\c.initsNamed=[]/\c.initsPassed=[]) (hnb:c.noBlocks=false) (hlv:c.leaving=false) (hfo:c.followed=none) (hnar:c.narrowed=true) (hstill:c.still=false)
  (hlaid:c.laid=lx :: lr) (hd:c.domain=[]) (hag:c.again=false) (hmod:c.assume={})
  (hfn:p.checked.prog.funcNamed c.func=some f) (hf:p.checked.prog.funcs[f]? = some fn)
  (closed:joinedFacts p.checked.prog f fn s c=true)
  (hinst:fn.isInstance p.checked.prog c.origin c.targs) (hwrap:fn.isWrapper p.checked.prog c.wrapper c.mainSum)
  (own:ownKnob p.checked.prog.godebug=none) (noInit:p.checked.prog.inits.idxOf? f=none)
  (hs:WX s fn.params.size) (hl:laidOutB p.checked.prog=true) (hr:fn.params.toList.all (fun t=>p.checked.prog.readableRec t && decide (t < p.checked.prog.types.size))=true)
  (hres:fn.resultTypes=#[tb]) (htb:p.checked.prog.underlying tb=some .bool)
  (witness:∀ (os:Os),os.Started->∀ (H:Type) (enc:TypeId×Value->H),∃ (w:World) (tape:Tape) (i:Input),w.os=os/\(w.forCall tape i).Shaped p.checked.prog/\i.vars=[]/\Input.okWide p.checked.prog (w.forCall tape i) .any w.heap.size f i /\
   ((OpenSpec.pre enc p.checked.prog fn { OpenSpec.ofChange s with cond:=some k } [] c.apart (w.forCall tape i).memory i.args/\laidMetH p.checked.prog (lx :: lr) (w.forCall tape i).memory)/\sizedMet enc p.checked.prog fn (OpenSpec.ofChange s) c.apart (w.forCall tape i).memory i.args)/\({}:Assume).holds p.checked.prog (lone (Frame.enter p.checked.prog f i.args .normal) [] (w.forCall tape i)))
  (walk:∀ (H:Type) (enc:TypeId×Value->H) (W:World) (base:Nat) (args:Array Value) (ds:List (DataW H)) (ps:List MemPlace),
   (∀ (j:Nat) t v,fn.params[j]? = some t->args[j]? = some v->Value.okWide p.checked.prog W .any base t v) ->
   DataW.TrodAll enc p.checked.prog W 0 (fun _=>true) true fn.params.toList args.toList ds ps ->
   (DataW.weightsEach p.checked.prog fn.params.toList ds).all (· <= reachBytes)=true->k H ds=true->laidMetH p.checked.prog (lx :: lr) W ->
   ∃ (A:List SP) (γ:Type) (I:γ->Prop) (B:γ->List SP),Bb A W (fun _=>False) (fun _=>False)/\FT p.checked.prog f args A I (fun _=>.bool true) B):c.holds p { OpenSpec.ofChange s with cond:=some k }:=by
 refine OpenClaim.holds_of_cond f fn hn hsm hsp hstart hout hin hun hi4 hnb hlv hfo (by rw [hnar]; rfl) hstill hfn hf closed hinst hwrap (fun os started H enc _ F=>?_);have hpre:c.pre enc p.checked.prog fn { OpenSpec.ofChange s with cond:=some k }=fun w args=>(OpenSpec.pre enc p.checked.prog fn { OpenSpec.ofChange s with cond:=some k } [] c.apart w args/\laidMetH p.checked.prog (lx :: lr) w)/\sizedMet enc p.checked.prog fn (OpenSpec.ofChange s) c.apart w args:=by
  funext w args
  unfold OpenClaim.pre OpenClaim.preLaid;rw [hlaid,hd]
  rfl
 rw [hpre,hag,hmod];refine returnsInHanded_of_calls own started noInit (witness os started H enc) ?_;intro w tape i _ _ _ hok hp hholds;obtain ⟨_,_,_,fn',hfn',_,_,_,_,hval⟩:=hok;have e:fn'=fn:=Option.some.inj (hfn'.symm.trans hf);subst e;obtain ⟨⟨hp1,hx⟩,hz⟩:=hp;obtain ⟨ds,gs,before,hw,hc,hk⟩:=(OpenSpec.pre_some rfl [] c.apart _ _).1 hp1;have hW:=DataW.Whole.of_heap (w':=w.forCall tape i) (by rfl) hw;have hwt:=hz.weights hw;have hx':laidMetH p.checked.prog (lx :: lr) (w.forCall tape i):=hx.of_heap (by rfl);have hW0:=hW;obtain ⟨p',q,hA,hV,rfl,hz',hnd⟩:=hW0;rw [show ({ OpenSpec.ofChange s with cond:=some k }:OpenSpec).vars=s.vars from rfl,hs.vars] at hV;obtain ⟨rfl,rfl⟩:=trodVars_none hV;have hvt:s.plain.varTypes p.checked.prog=[]:=by
  simp [DataSpec.varTypes,ChangeSpec.plain,hs.vars]
 have hvt':(OpenSpec.ofChange s).bare.plain.varTypes p.checked.prog=[]:=by
  simp [DataSpec.varTypes,ChangeSpec.plain,OpenSpec.bare,OpenSpec.ofChange,hs.vars]
 rw [hvt',List.append_nil,List.append_nil] at hwt;rw [List.append_nil] at hk;obtain ⟨A,γ,I,B,h1,h2⟩:=walk H enc (w.forCall tape i) w.heap.size i.args ds p' hval hA hwt hk hx';refine (h2 _ _ _ (gZ _) h1).mono fun e W' ⟨g,M',F',he,_,hst,_⟩=>?_;subst he;exact ChangeSpec.post_blind (l5 hs hl hr hres htb hW (mI hst))
end Go.SL
