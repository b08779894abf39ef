/- Part 3 of the walks: mirrors, plain laws and walks used by the last text of this claim. -/
import Derived.Test.YtbccjgpbflaibaaGreatW2
import Derived.Test.YtbccjgpbflaibaaGreatProg
set_option linter.unusedVariables false
set_option linter.unusedSimpArgs false
namespace Go.SL.G
open Go Go.SL Go.Proofs
set_option maxHeartbeats 20000000
set_option maxRecDepth 100000
theorem Ql3 (s:List QbA) (fp:QbA -> Bool):QbL s fp = true ↔ ∃ x ∈ s,fp x = true:=by
 have:=Qq1 (fun r i=>Qbf s fp r i) (fun i=>fp (s.getD i.toNat default)) () (fun _=>rfl) (fun _ _=>rfl) ((((s.length:Nat):Int) - 0).toNat) 0
 unfold QbL Qcp
 rcases this with ⟨j,e,j1,j2,j3⟩ | ⟨e,h⟩
 ·rw [e]
  exact ⟨fun _=>⟨_,Qa4 (by omega),j3⟩,fun _=>by simpa using j1⟩
 ·rw [e]
  refine ⟨fun h=>by simp at h,?_⟩
  rintro ⟨x,hx,hf⟩
  obtain ⟨j,j1,j2,rfl⟩:=(Qey (d:=default)).1 hx
  rw [h j j1 (by omega)] at hf; cases hf
theorem QpX (t:Qad) (a b:Int):Qfa t (QbA.mk a b) = true ↔ ∃ c ∈ t.Copies,c.From = a /\ c.To = b:=by
 unfold Qfa
 rw [Ql3]
 simp [QeQ]
theorem QnU (t:Qad) (a b:Int):QdX t a b = true ↔ (a = b /\ Qap t.Kill a = false) \/ ∃ c ∈ t.Copies,c.From = a /\ c.To = b:=by
 unfold QdX
 rw [<- QpX]
 by_cases h:a = b
 ·subst h
  simp only [beq_self_eq_true,cond_true,QlB]
  cases e:Qap t.Kill a <;> simp
 ·have:(a == b) = false:=by simpa using h
  simp [this,h]
theorem QoN (t:Qad) (a b:Int):QdX t a b = Qbv t a b:=by
 rw [Bool.eq_iff_iff,QnU,Qlr]
def QsC (s:Qac) (l:List Qas) (j:Int):Prop:=Qar s (QeK l j).Node (QeK l j).Bit = 0 /\ (j = 0 -> QdP s (QeK l j) = true) /\
 (0 < j -> QaF (deps s (QeK l j).Node) (QeK l (j - 1)).Node = true /\ Qb8 (Tr s (QeK l (j - 1)).Node) (QeK l (j - 1)).Bit (QeK l j).Bit = true)
theorem QnZ (t:Qad) (a b:Int):Qb8 t a b = Qb7 t a b:=by
 unfold Qb8 Qb7
 simp only [QcG,Qg2,QoN]
 all_goals (cases Qai t <;> cases decide (0 <= a) <;> cases decide (a < t.Gen.Width) <;> cases decide (0 <= b) <;> cases decide (b < t.Gen.Width) <;> rfl)
theorem Qn2 (s:Qac) (a b:Qas):Qdq s a b = (QaF (deps s b.Node) a.Node && Qb8 (Tr s a.Node) a.Bit b.Bit):=by
 unfold Qdq
 rw [QoG,QnZ]
 unfold deps Tr
 all_goals (cases Qje (s.Deps.getD b.Node.toNat []) a.Node <;> rfl)
theorem QkB (s:Qac) (l:List Qas):∀ (m:Nat) (i:Int),0 <= i -> (QaM s l m i = .brk () /\ ∀ j,i <= j -> j < i + m -> QsC s l j) \/ (QaM s l m i = .ret false /\ ¬ (∀ j,i <= j -> j < i + m -> QsC s l j))
 | 0,i,_=>.inl ⟨rfl,fun j a b=>by omega⟩
 | m + 1,i,hi=>by
  by_cases hk:QsC s l i
  ·have e:QaM s l (m + 1) i = QaM s l m (i + 1):=by
    obtain ⟨k1,k2,k3⟩:=hk
    unfold QeK at k1 k2 k3
    rw [QaM]
    by_cases c:i = 0
    ·subst c
     have:=k2 rfl
     have k1':(Qar s (l.getD (0:Int).toNat default).Node (l.getD (0:Int).toNat default).Bit != 0) = false:=by rw [k1]; rfl
     simp only [k1',this,show decide ((0:Int) < 0) = false from rfl,cs4,beq_self_eq_true]
    ·have c1:(i == 0) = false:=by simpa using c
     have c2:0 < i:=by omega
     obtain ⟨a,b⟩:=k3 c2
     unfold deps at a
     unfold Tr at b
     have k1':(Qar s (l.getD i.toNat default).Node (l.getD i.toNat default).Bit != 0) = false:=by rw [k1]; rfl
     simp only [k1',c1,decide_eq_true c2,a,b,cs4,beq_self_eq_true]
   rw [e]
   rcases QkB s l m (i + 1) (by omega) with ⟨a,b⟩ | ⟨a,b⟩
   ·refine .inl ⟨a,fun j j1 j2=>?_⟩
    by_cases c:j = i
    ·subst c; exact hk
    ·exact b j (by omega) (by omega)
   ·exact .inr ⟨a,fun g=>b fun j j1 j2=>g j (by omega) (by omega)⟩
  ·refine .inr ⟨?_,fun g=>hk (g i (by omega) (by omega))⟩
   rw [QaM]
   by_cases e1:Qar s (l.getD i.toNat default).Node (l.getD i.toNat default).Bit = 0
   ·have k1':(Qar s (l.getD i.toNat default).Node (l.getD i.toNat default).Bit != 0) = false:=by rw [e1]; rfl
    by_cases c:i = 0
    ·subst c
     cases e2:QdP s (l.getD (0:Int).toNat default) with
     | false=>simp only [k1',e2,cs4,beq_self_eq_true]
     | true=>exact absurd ⟨e1,fun _=>e2,fun h=>by omega⟩ hk
    ·have c1:(i == 0) = false:=by simpa using c
     have c2:0 < i:=by omega
     cases e3:QaF (s.Deps.getD (l.getD i.toNat default).Node.toNat []) (l.getD (i - 1).toNat default).Node with
     | false=>simp only [k1',c1,decide_eq_true c2,e3,cs4,beq_self_eq_true]
     | true=>
      cases e4:Qb8 (s.Transfers.getD (l.getD (i - 1).toNat default).Node.toNat default) (l.getD (i - 1).toNat default).Bit (l.getD i.toNat default).Bit with
      | false=>simp only [k1',c1,decide_eq_true c2,e3,e4,cs4,beq_self_eq_true]
      | true=>exact absurd ⟨e1,fun h=>absurd h c,fun _=>⟨e3,e4⟩⟩ hk
   ·have:(Qar s (l.getD i.toNat default).Node (l.getD i.toNat default).Bit != 0) = true:=by simpa using e1
    simp only [this,cond_true]
theorem Qqj (s:Qac) (n b:Int) (l:List Qas):Qbe s n b l = true ↔ Qar s n b = 0 /\ l ≠ [] /\ (QeK l ((l.length:Int) - 1) = ⟨n,b⟩) /\ ∀ j,0 <= j -> j < (l.length:Int) -> QsC s l j:=by
 unfold Qbe
 by_cases e1:Qar s n b = 0
 ·have e1':(Qar s n b != 0) = false:=by simpa using e1
  simp only [e1',cond_false]
  by_cases e2:l = []
  ·subst e2; simp
  ·have e2':(((l.length:Nat):Int) == 0) = false:=by simpa using e2
   simp only [e2',cond_false]
   have e3:([(l.getD ((((l.length:Nat):Int) - 1):Int).toNat default).Node,(l.getD ((((l.length:Nat):Int) - 1):Int).toNat default).Bit] != [n,b]) = false ↔ QeK l ((l.length:Int) - 1) = ⟨n,b⟩:=by
    unfold QeK
    generalize l.getD ((((l.length:Nat):Int) - 1):Int).toNat default = h
    cases h; simp
   cases e4:([(l.getD ((((l.length:Nat):Int) - 1):Int).toNat default).Node,(l.getD ((((l.length:Nat):Int) - 1):Int).toNat default).Bit] != [n,b]) with
   | true=>rw [e4] at e3; simp at e3; simp [e3]
   | false=>
    have e5:=e3.1 e4
    simp only [cond_false]
    rcases QkB s l ((((l.length:Nat):Int) - 0).toNat) 0 (by omega) with ⟨a,h⟩ | ⟨a,h⟩
    ·rw [a]
     exact ⟨fun _=>⟨e1,e2,e5,fun j j0 j1=>h j j0 (by omega)⟩,fun _=>rfl⟩
    ·rw [a]
     exact ⟨fun g=>absurd g (by decide),fun g=>absurd (fun j j0 j1=>g.2.2.2 j j0 (by omega)) h⟩
 ·have e1':(Qar s n b != 0) = true:=by simpa using e1
  simp [e1',e1]
theorem QpV (s:Qac) (n b:Int) (l:List Qas):Qaq s n b l = true ↔ QaL s n b = 0 /\ l ≠ [] /\ (QeK l ((l.length:Int) - 1) = ⟨n,b⟩) /\ (∀ j,0 <= j -> j < (l.length:Int) -> QaL s (QeK l j).Node (QeK l j).Bit = 0) /\ (∀ j,1 <= j -> j < (l.length:Int) -> Qdq s (QeK l (j - 1)) (QeK l j) = true) /\ Qb6 s (QeK l 0) = true:=by
 unfold Qaq
 by_cases e1:QaL s n b = 0
 ·have e1':(QaL s n b != 0) = false:=by simpa using e1
  simp only [e1',cond_false]
  by_cases e2:l = []
  ·subst e2; simp
  ·have e2':(((l.length:Nat):Int) == 0) = false:=by simpa using e2
   simp only [e2',cond_false]
   have e3:([(l.getD ((((l.length:Nat):Int) - 1):Int).toNat default).Node,(l.getD ((((l.length:Nat):Int) - 1):Int).toNat default).Bit] != [n,b]) = false ↔ QeK l ((l.length:Int) - 1) = ⟨n,b⟩:=by
    unfold QeK
    generalize l.getD ((((l.length:Nat):Int) - 1):Int).toNat default = h
    cases h; simp
   cases e4:([(l.getD ((((l.length:Nat):Int) - 1):Int).toNat default).Node,(l.getD ((((l.length:Nat):Int) - 1):Int).toNat default).Bit] != [n,b]) with
   | true=>rw [e4] at e3; simp at e3; simp [e3]
   | false=>
    have e5:=e3.1 e4
    simp only [cond_false]
    rcases QnX (fun r i=>QaY s l r i) (fun i=>QaL s (QeK l i).Node (QeK l i).Bit != 0) false () (fun _=>rfl) (fun _ _=>rfl) ((((l.length:Nat):Int) - 0).toNat) 0 with ⟨a,j,j0,j1,hj⟩ | ⟨a,ha⟩
    ·try dsimp only at a
     rw [a]
     refine ⟨fun h=>(by cases h),fun h=>?_⟩
     rw [h.2.2.2.1 j j0 (by omega)] at hj; cases hj
    ·try dsimp only at a
     rw [a]
     have ha':∀ j,0 <= j -> j < (l.length:Int) -> QaL s (QeK l j).Node (QeK l j).Bit = 0:=fun j j0 j1=>by have:=ha j j0 (by omega); simpa using this
     dsimp only
     rcases QnX (fun r i=>Qbn s l r i) (fun i=>!Qdq s (QeK l (i - 1)) (QeK l i)) false () (fun _=>rfl) (fun _ _=>rfl) ((((l.length:Nat):Int) - 1).toNat) 1 with ⟨c,j,j0,j1,hj⟩ | ⟨c,hc⟩
     ·try dsimp only at c
      rw [c]
      refine ⟨fun h=>(by cases h),fun h=>?_⟩
      rw [h.2.2.2.2.1 j j0 (by omega)] at hj; cases hj
     ·try dsimp only at c
      rw [c]
      have hc':∀ j,1 <= j -> j < (l.length:Int) -> Qdq s (QeK l (j - 1)) (QeK l j) = true:=fun j j0 j1=>by have:=hc j j0 (by omega); simpa using this
      exact ⟨fun h=>⟨e1,e2,e5,ha',hc',h⟩,fun h=>h.2.2.2.2.2⟩
 ·have e1':(QaL s n b != 0) = true:=by simpa using e1
  simp [e1',e1]
theorem Qmw (s:Qac) (n b:Int) (l:List Qas):Qbe s n b l = Qaq s n b l:=by
 rw [Bool.eq_iff_iff,Qqj,QpV]
 simp only [Qpl]
 constructor
 ·rintro ⟨a,b,c,d⟩
  have hl:0 < l.length:=List.length_pos_iff.2 b
  refine ⟨a,b,c,fun j j0 j1=>(d j j0 j1).1,fun j j0 j1=>?_,?_⟩
  ·obtain ⟨q1,q2⟩:=(d j (by omega) j1).2.2 (by omega)
   rw [Qn2,q1,q2]; rfl
  ·rw [<- QmF]; exact (d 0 (by omega) (by omega)).2.1 rfl
 ·rintro ⟨a,b,c,d,e,f⟩
  refine ⟨a,b,c,fun j j0 j1=>⟨d j j0 j1,?_,fun h=>?_⟩⟩
  ·rintro rfl; rw [QmF]; exact f
  ·have:=e j (by omega) j1
   rw [Qn2,Bool.and_eq_true] at this; exact this
theorem Qn3 {s:Qac} {l:List Qas} (h:QaY s l (((((l.length:Nat):Int):Int) - 0).toNat) 0 = .brk ()) {j:Int} (h0:0 <= j) (h1:j < (l.length:Int)):0 <= (l.getD j.toNat default).Node /\ (l.getD j.toNat default).Node < (s.Deps.length:Int):=by
 rcases QnX (fun r i=>QaY s l r i) (fun i=>QaL s (l.getD i.toNat default).Node (l.getD i.toNat default).Bit != 0) false () (fun _=>rfl) (fun _ _=>rfl) ((((l.length:Nat):Int) - 0).toNat) 0 with ⟨a,_⟩ | ⟨a,ha⟩
 ·rw [h] at a; cases a
 ·exact (QnA rfl (ha j h0 (by omega))).2.1
theorem Quc {s:Qac} {v:List Qaf} (h:Qdw s v):QaC v (fun x=>QdW x) = false:=by
 cases e:QaC v (fun x=>QdW x) with
 | false=>rfl
 | true=>
  obtain ⟨x,hx,e⟩:=(QiL _ _).1 e
  unfold QdW at e
  simp only [QfJ (h.2 x hx)] at e; cases e
theorem QkF (a b:Qaf) (f:BitVec 64 -> BitVec 64 -> BitVec 64):∀ (m:Nat) (o:List (BitVec 64)) (i:Int),(Qct a b f m o i).length = o.length
 | 0,o,i=>rfl
 | m + 1,o,i=>by rw [Qct,QkF a b f m]; simp
theorem Qkt (a b:Qaf) (f:BitVec 64 -> BitVec 64 -> BitVec 64):∀ (m:Nat) (o:List (BitVec 64)) (i:Int),0 <= i -> i + m = (o.length:Int) -> ∀ j:Nat,j < o.length -> (Qct a b f m o i).getD j 0#64 = if i <= (j:Int) then f (a.Words.getD j 0#64) (b.Words.getD j 0#64) else o.getD j 0#64
 | 0,o,i,h0,h1,j,hj=>by
  rw [if_neg (by omega)]; rfl
 | m + 1,o,i,h0,h1,j,hj=>by
  rw [Qct,Qkt a b f m _ (i + 1) (by omega) (by simp; omega) j (by simpa using hj)]
  rw [QsF]
  by_cases e:i.toNat = j
  ·rw [if_neg (by omega),if_pos (by omega),if_pos (by omega),e]
  ·rw [if_neg (c:=_ /\ _) (fun h=>e h.1)]
   by_cases h2:i <= (j:Int)
   ·rw [if_pos (by omega),if_pos h2]
   ·rw [if_neg (by omega),if_neg h2]
theorem QmB {w:Int} {a b:Qaf} (f:BitVec 64 -> BitVec 64 -> BitVec 64) (g:Bool -> Bool -> Bool) (hf:∀ u v (j:Nat),(f u v).getLsbD j = g (u.getLsbD j) (v.getLsbD j)) (hg:g false false = false) (ha:VSt w a) (hb:VSt w b) :
  ∃ r,Qdz a b f = (r,0) /\ VSt w r /\ ∀ x,Qap r x = g (Qap a x) (Qap b x):=by
 have a1:=Qif ha; have b1:=Qif hb
 let o:=Qct a b f a.Words.length (List.replicate a.Words.length 0#64) 0
 have ol:o.length = a.Words.length:=by rw [QkF]; simp
 have hbit:∀ x:Int,0 <= x -> x < 64 * (a.Words.length:Int) -> Qgt o x = g (Qgt a.Words x) (Qgt b.Words x):=by
  intro x x0 x1
  unfold Qgt
  rw [Qkt a b f a.Words.length (List.replicate a.Words.length 0#64) 0 (by omega) (by simp) (x / 64).toNat (by simp; omega),if_pos (by omega),hf]
 have hv:VSt w ⟨w,o⟩:=by
  refine ⟨⟨a1.1,a1.2.1,by show (o.length:Int) = _; rw [ol]; exact a1.2.2.2,fun x x0 x1=>?_⟩,rfl⟩
  have x0:w <= x:=x0
  have x1:x < 64 * (o.length:Int):=x1
  show Qgt o x = false
  rw [ol] at x1
  rw [hbit x (by omega) x1,ha.1.2.2.2 x (by omega) (by omega),hb.1.2.2.2 x (by omega) (by omega),hg]
 refine ⟨⟨w,o⟩,?_,hv,fun x=>?_⟩
 ·unfold Qdz
  have e:(a.Width != b.Width) = false:=by rw [a1.2.2.1,b1.2.2.1]; simp
  rw [a1.2.2.1] at e
  simp only [QfJ ha,QfJ hb,Bool.not_true,cond_false,List.length_replicate,a1.2.2.1,e]
  rw [show ((((a.Words.length:Nat):Int).toNat:Nat):Int) - 0 = (a.Words.length:Int) by omega,Int.toNat_natCast]
 ·rw [Qh3 hv,Qh3 ha,Qh3 hb]
  by_cases x0:0 <= x
  ·by_cases x1:x < w
   ·simp only [decide_eq_true x0,decide_eq_true x1,Bool.true_and]
    exact hbit x x0 (by omega)
   ·simp [x1,hg]
  ·simp [x0,hg]
theorem Qkk {w:Int} {a b:Qaf} (ha:VSt w a) (hb:VSt w b):∃ r,Qh7 a b = (r,0) /\ VSt w r /\ ∀ x,Qap r x = (Qap a x && !Qap b x):=by
 obtain ⟨r,e,hr,hh⟩:=QmB (fun x0 x1=>Qf7 x0 x1) (fun p q=>p && !q) (fun u v j=>by
  unfold Qf7
  rw [BitVec.getLsbD_and,BitVec.getLsbD_not]
  by_cases hj:j < 64
  ·simp [hj]
  ·simp [hj,BitVec.getLsbD_of_ge u j (by omega)]) rfl ha hb
 refine ⟨r,?_,hr,hh⟩
 unfold Qh7; simp only [e]
theorem Qoa (a b:Qaf):QeE a b = Qe6 a b:=by
 cases hva:Qa0 a with
 | false=>unfold QeE Qdz Qe6 QgA; simp only [<- Qef,hva]; rfl
 | true=>
  cases hvb:Qa0 b with
  | false=>unfold QeE Qdz Qe6 QgA; simp only [<- Qef,hva,hvb]; rfl
  | true=>
   by_cases hw:a.Width = b.Width
   ·have ha:VSt a.Width a:=⟨(QeP a).1 hva,rfl⟩
    have hb:VSt a.Width b:=⟨(QeP b).1 hvb,hw.symm⟩
    obtain ⟨r,e,hr,hh⟩:=QmB (fun x0 x1=>QeT x0 x1) (· || ·) (fun u v j=>by simp [QeT]) rfl ha hb
    obtain ⟨q,e',hq,hh'⟩:=Qis ha hb
    have:r = q:=QmS hr hq fun x _ _=>by rw [hh,hh']
    unfold QeE
    simp only [e,e',this]
   ·have e1:(a.Width != b.Width) = true:=by simp [hw]
    unfold QeE Qdz Qe6 QgA; simp only [<- Qef,hva,hvb,e1]; rfl
theorem QpQ {w:Int} {s:Qaf} (hs:VSt w s) {b:Int} (hb:0 <= b /\ b < w):∃ r,Qkf s b = (r,0) /\ VSt w r /\ ∀ x,Qap r x = (Qap s x || x == b):=by
 have hw:=Qif hs
 let q:=s.Words.set (b / 64).toNat ((s.Words.getD (b / 64).toNat 0#64) &&& ~~~(1#64 <<< (b % 64).toNat))
 have ql:q.length = s.Words.length:=by simp [q]
 have e1:q.set (b / 64).toNat ((q.getD (b / 64).toNat 0#64) ||| (1#64 <<< (b % 64).toNat)) = (Qbx s b).Words:=by
  rw [Qn9 hs hb]
  simp only [q]
  rw [List.set_set]
  congr 1
  rw [List.getD_eq_getElem?_getD,List.getElem?_set,if_pos rfl,if_pos (by omega)]
  simp only [Option.getD_some]
  apply BitVec.eq_of_getLsbD_eq
  intro j hj
  simp only [BitVec.getLsbD_or,BitVec.getLsbD_and,BitVec.getLsbD_not,hj,decide_true,Bool.true_and]
  all_goals (cases (s.Words.getD (b / 64).toNat 0#64).getLsbD j <;> cases (1#64 <<< (b % 64).toNat).getLsbD j <;> rfl)
 refine ⟨Qbx s b,?_,QnR hs hb,QoI hs hb⟩
 unfold Qkf Qep Qn4 Qcr
 simp only [QfJ hs,Qqw (s:=s) (b:=b) (by omega),Bool.not_true,cond_false,cond_true]
 rw [QsY (by omega)]
 rw [e1]
 have:(Qbx s b).Width = s.Width:=rfl
 rw [<- this]
theorem QgK {w:Int} {t:Qad} {s:Qaf} (hs:VSt w s) (hc:∀ c ∈ t.Copies,0 <= c.To /\ c.To < w):∀ (m:Nat) (o0:Int) (o1:List (BitVec 64)) (i:Int),0 <= i -> i + m = (t.Copies.length:Int) -> VSt w ⟨o0,o1⟩ ->
  VSt w ⟨(QbT t s m o0 o1 i).1,(QbT t s m o0 o1 i).2⟩ /\ ∀ x,Qap ⟨(QbT t s m o0 o1 i).1,(QbT t s m o0 o1 i).2⟩ x = true ↔ Qap ⟨o0,o1⟩ x = true \/ ∃ j:Int,i <= j /\ j < i + m /\ Qap s (t.Copies.getD j.toNat default).From = true /\ (t.Copies.getD j.toNat default).To = x
 | 0,o0,o1,i,h0,h1,h=>⟨h,fun x=>by
   constructor
   ·intro h; exact .inl h
   ·rintro (h | ⟨c,c1,c2,_⟩)
    ·exact h
    ·omega⟩
 | m + 1,o0,o1,i,h0,h1,h=>by
  rw [QbT]
  simp only [QlB]
  cases hh:Qap s (t.Copies.getD i.toNat default).From with
  | false=>
   simp only [cond_false]
   obtain ⟨i1,i2⟩:=QgK (t:=t) hs hc m o0 o1 (i + 1) (by omega) (by omega) h
   refine ⟨i1,fun x=>(i2 x).trans ?_⟩
   constructor
   ·rintro (h | ⟨j,j1,j2,j3⟩)
    ·exact .inl h
    ·exact .inr ⟨j,by omega,by omega,j3⟩
   ·rintro (h | ⟨j,j1,j2,j3,j4⟩)
    ·exact .inl h
    ·by_cases e:j = i
     ·subst e; rw [hh] at j3; cases j3
     ·exact .inr ⟨j,by omega,by omega,j3,j4⟩
  | true=>
   simp only [cond_true]
   obtain ⟨r,e,hr,hrh⟩:=QpQ h (hc _ (Qa4 (xs:=t.Copies) (i:=i.toNat) (d:=default) (by omega)))
   rw [e]
   obtain ⟨i1,i2⟩:=QgK (t:=t) hs hc m r.Width r.Words (i + 1) (by omega) (by omega) hr
   refine ⟨i1,fun x=>(i2 x).trans ?_⟩
   rw [show (⟨r.Width,r.Words⟩:Qaf) = r from rfl,hrh]
   simp only [Bool.or_eq_true,beq_iff_eq]
   constructor
   ·rintro ((h | h) | ⟨j,j1,j2,j3⟩)
    ·exact .inl h
    ·exact .inr ⟨i,by omega,by omega,hh,h.symm⟩
    ·exact .inr ⟨j,by omega,by omega,j3⟩
   ·rintro (h | ⟨j,j1,j2,j3,j4⟩)
    ·exact .inl (.inl h)
    ·by_cases e:j = i
     ·subst e; exact .inl (.inr j4.symm)
     ·exact .inr ⟨j,by omega,by omega,j3,j4⟩
theorem QqJ (t:Qad) (s:Qaf):Qd9 t s = QdA t s:=by
 cases ht:Qcu t with
 | false=>unfold Qd9 QdA; simp only [<- QcG,ht]; rfl
 | true=>
  cases hs:Qa0 s with
  | false=>unfold Qd9 QdA; simp only [<- QcG,ht,<- Qef,hs]; rfl
  | true=>
   by_cases hw:t.Gen.Width = s.Width
   case neg=>
    have e1:(t.Gen.Width != s.Width) = true:=by simp [hw]
    unfold Qd9 QdA; simp only [<- QcG,ht,<- Qef,hs,e1]; rfl
   have hvt:Qai t = true:=by rw [<- QcG]; exact ht
   have hVs:VSt s.Width s:=⟨(QeP s).1 hs,rfl⟩
   obtain ⟨q,e,hq,hh⟩:=Qiz ⟨hvt,hw⟩ hVs
   have parts:=Qeb hvt
   have hg:VSt s.Width t.Gen:=⟨parts.1,hw⟩
   have hk:VSt s.Width t.Kill:=⟨parts.2.1,by rw [<- parts.2.2.1]; exact hw⟩
   have hcp:=QiH hvt
   rw [hw] at hcp
   obtain ⟨d,e1,hd,hhd⟩:=Qkk hVs hk
   obtain ⟨u,e2,hu,hhu⟩:=Qis hd hg
   obtain ⟨i1,i2⟩:=QgK (t:=t) hVs (fun c hc=>(hcp c hc).2) t.Copies.length u.Width u.Words 0 (by omega) (by omega) hu
   rw [e]
   unfold Qd9
   have e3:(t.Gen.Width != s.Width) = false:=by simp [hw]
   simp only [ht,hs,e3,Bool.not_true,cond_false]
   have e4:Qiu t s = q:=by
    unfold Qiu
    simp only [e1,Qoa,e2]
    rw [show ((((t.Copies.length:Nat):Int) - 0).toNat) = t.Copies.length by omega]
    refine QmS i1 hq fun x x0 x1=>?_
    rw [Bool.eq_iff_iff,i2,hh,show (⟨u.Width,u.Words⟩:Qaf) = u from rfl,hhu,hhd]
    simp only [Bool.or_eq_true,Bool.and_eq_true,Bool.not_eq_true',Qlr]
    constructor
    ·rintro ((⟨h1,h2⟩ | h) | ⟨j,j1,j2,j3,j4⟩)
     ·exact .inr ⟨x,h1,x0,x1,.inl ⟨rfl,h2⟩⟩
     ·exact .inl h
     ·exact .inr ⟨_,j3,x0,x1,.inr ⟨_,Qa4 (by omega),rfl,j4⟩⟩
    ·rintro (h | ⟨a,h1,_,_,h2 | ⟨c,hc,c1,c2⟩⟩)
     ·exact .inl (.inr h)
     ·obtain ⟨rfl,h2⟩:=h2; exact .inl (.inl ⟨h1,h2⟩)
     ·obtain ⟨j,j0,j1,rfl⟩:=(Qey (d:=default)).1 hc
      exact .inr ⟨j,j0,by omega,by rw [c1]; exact h1,c2⟩
   rw [e4]
theorem QnW (s:Qac) (v:List Qaf) (n:Int):∀ (m:Nat) (o0:Int) (o1:List (BitVec 64)) (i:Int),QdL s v n m o0 o1 i = QbC s v n m o0 o1 i
 | 0,o0,o1,i=>rfl
 | m + 1,o0,o1,i=>by
  rw [QdL,QbC]
  simp only [QqJ,Qoa]
  exact QnW s v n m _ _ _
theorem Qqy {s:Qac} (hv:Qfg s) {v:List Qaf} (h:Qdw s v) {n:Int} (n0:0 <= n) (n1:n < (s.Deps.length:Int)):Qdf s v n = (QbG s v n,0):=by
 have hb:=hv.bl
 have hl:=h.1
 have e1:QbZ s = true:=(QcC s).2 hv
 have e2:(((v.length:Nat):Int) != ((s.Deps.length:Nat):Int)) = false:=by simp; omega
 unfold Qdf QbG
 simp only [e1,e2,Bool.not_true,cond_false,decide_eq_false (show ¬ n < 0 by omega),decide_eq_false (show ¬ (s.Deps.length:Int) <= n by omega),Quc h,Qt6 h,QnW]
 have hw:=(QmQ hv n0 n1).2
 rw [<- hw]
 rfl
theorem Qrk {s:Qac} {v:List Qaf} {n:Int} (hv:Qfg s) (n0:0 <= n) (n1:n < (s.Deps.length:Int)) (h:(Qdf s v n).2 = 0):Qdw s v:=by
 unfold Qdf at h
 simp only [(QcC s).2 hv,Bool.not_true,cond_false,decide_eq_false (show ¬ n < 0 by omega),decide_eq_false (show ¬ (s.Deps.length:Int) <= n by omega)] at h
 have hb:=hv.bl
 cases e1:(((v.length:Nat):Int) != ((s.Deps.length:Nat):Int)) with
 | true=>simp [e1] at h
 | false=>
  rw [e1] at h
  have e1':((v.length:Nat):Int) = ((s.Deps.length:Nat):Int):=by simpa using e1
  cases e2:QaC v (fun x=>QdW x) with
  | true=>rw [e2] at h; simp at h
  | false=>
   rw [e2] at h
   cases e3:QfT s.Width v with
   | false=>rw [e3] at h; simp at h
   | true=>exact ⟨by omega,(QkT _ _).1 e3⟩
theorem Qpu {s:Qac} (hv:Qfg s) {v:List Qaf} (h:Qdw s v):∀ (m:Nat) (o:List Qaf) (n:Int),0 <= n -> n + m = (s.Deps.length:Int) -> QcY s v m o n = .brk (o ++ (List.range' n.toNat m).map fun i:Nat=>QbG s v (i:Int))
 | 0,o,n,_,_=>by simp [QcY]
 | m + 1,o,n,h0,h1=>by
  rw [QcY,Qqy hv h h0 (by omega)]
  simp only [bne_self_eq_false,cond_false]
  rw [Qpu hv h m _ (n + 1) (by omega) (by omega),List.range'_succ,show (n + 1).toNat = n.toNat + 1 by omega]
  simp only [List.map_cons,List.append_assoc,List.singleton_append]
  rw [show ((n.toNat:Nat):Int) = n by omega]
theorem QpH {s:Qac} (hv:Qfg s) {v:List Qaf} (h:Qdw s v):QdI s v = (Fv s v,0):=by
 have hb:=hv.bl
 unfold QdI
 simp only [(QcC s).2 hv,Bool.not_true,cond_false]
 rw [Qpu hv h _ _ _ (by omega) (by omega),show ((((s.Deps.length:Nat):Int) - 0).toNat) = s.Boundary.length by omega]
 unfold Fv
 simp [List.range_eq_range']
theorem Qnc {s:Qac} {v:List Qaf} {r:List Qaf × Int} (h:QdI s v = r) (h0:(r.2 != 0) = false):Qfg s /\ Qdw s v /\ r.1 = Fv s v:=by
 have h0:r.2 = 0:=by simpa using h0
 subst h
 cases e:QbZ s with
 | false=>unfold QdI at h0; simp only [e,Bool.not_false,cond_true] at h0; exact absurd h0 (by decide)
 | true=>
  have hv:=(QcC s).1 e
  have hn:=hv.n
  have hvv:Qdw s v:=by
   refine Qrk hv (n:=0) (by omega) (by omega) ?_
   unfold QdI at h0
   simp only [e,Bool.not_true,cond_false] at h0
   obtain ⟨m,hm⟩:∃ m,(((((s.Deps.length:Nat):Int):Int) - 0).toNat) = m + 1:=⟨_,(Nat.succ_pred_eq_of_pos (by omega)).symm⟩
   rw [hm,QcY] at h0
   cases e2:((Qdf s v 0).2 != 0) with
   | true=>simp only [e2,cond_true] at h0; simp [h0] at e2
   | false=>simpa using e2
  exact ⟨hv,hvv,by rw [QpH hv hvv]⟩
theorem Qs1 (x:BitVec 64):Qbz x = ((QoL (bl 64 x.toNat):Nat):Int):=by
 unfold Qbz
 dsimp only
 obtain ⟨h1,h2⟩:=Qoi (x:=x) rfl rfl rfl rfl rfl rfl
 rw [Qq8 h2,h1]
theorem Qpf (x:BitVec 64):Qbz x = 0 ↔ x = 0#64:=by
 rw [Qs1]
 have:=QkD 64 x.toNat x.isLt
 constructor
 ·intro h
  exact BitVec.eq_of_toNat_eq (this.1 (by omega))
 ·rintro rfl
  have h:=this.2 rfl
  omega
theorem QtP (x:BitVec 64):0 <= Qbz x /\ Qbz x <= 64:=by
 rw [Qs1]
 have:=QmE 64 x.toNat
 omega
theorem QjJ (s:Qaf):∀ (m:Nat) (n i:Int),0 <= n -> n <= QbU s m n i /\ (QbU s m n i = 0 -> n = 0 /\ ∀ j,i <= j -> j < i + m -> s.Words.getD j.toNat 0#64 = 0#64)
 | 0,n,i,hn=>⟨by rw [QbU]; omega,fun h=>⟨by rw [QbU] at h; exact h,fun j a b=>by omega⟩⟩
 | m + 1,n,i,hn=>by
  rw [QbU]
  have hr:=QtP (s.Words.getD i.toNat 0#64)
  obtain ⟨a,b⟩:=QjJ s m (n + Qbz (s.Words.getD i.toNat 0#64)) (i + 1) (by omega)
  refine ⟨by omega,fun h=>?_⟩
  obtain ⟨c,d⟩:=b h
  refine ⟨by omega,fun j j0 j1=>?_⟩
  by_cases e:j = i
  ·subst e; exact (Qpf _).1 (by omega)
  ·exact d j (by omega) (by omega)
theorem Qqi {w:Int} {s:Qaf} (hs:VSt w s) (h:QgH s = 0) (x:Int):Qap s x = false:=by
 unfold QgH at h
 simp only [QfJ hs,cond_true] at h
 have hz:=((QjJ s ((((s.Words.length:Nat):Int) - 0).toNat) 0 0 (by omega)).2 h).2
 rw [Qh3 hs]
 by_cases h0:0 <= x
 ·have:Qgt s.Words x = false:=by
   unfold Qgt
   have:s.Words.getD (x / 64).toNat 0#64 = 0#64:=by
    by_cases c:(x / 64).toNat < s.Words.length
    ·have:=hz (x / 64) (by omega) (by omega)
     exact this
    ·simp [List.getD,List.getElem?_eq_none (Nat.le_of_not_lt c)]
   rw [this]; simp
  simp [this]
 ·simp [h0]
theorem Qle (s:Qaf) (h:∀ j:Int,s.Words.getD j.toNat 0#64 = 0#64):∀ (m:Nat) (n i:Int),QbU s m n i = n
 | 0,n,i=>rfl
 | m + 1,n,i=>by
  rw [QbU,h i,(Qpf 0#64).2 rfl,Int.add_zero]
  exact Qle s h m n (i + 1)
theorem Qlm {w:Int} {a b:Qaf} (ha:VSt w a) (hb:VSt w b) (h:Qdp a b = true):QpA a b:=by
 obtain ⟨r,e,hr,hh⟩:=Qkk ha hb
 unfold Qdp at h
 simp only [e,beq_self_eq_true,cond_true,beq_iff_eq] at h
 intro x hx
 have:=Qqi hr h x
 rw [hh,hx] at this
 simpa using this
theorem QoZ {w:Int} {a b:Qaf} (ha:VSt w a) (hb:VSt w b):Qdp a b = true ↔ QpA a b:=by
 refine ⟨Qlm ha hb,fun h=>?_⟩
 obtain ⟨r,e,hr,hh⟩:=Qkk ha hb
 have hw:=Qif hr
 have hE:VSt w (QaK w):=Qi6 hw.1 hw.2.1
 have hre:r = QaK w:=QmS hr hE fun x _ _=>by
  rw [hh,QlD hw.1 hw.2.1]
  cases c:Qap a x with
  | false=>rfl
  | true=>rw [h x c]; rfl
 unfold Qdp
 simp only [e,beq_self_eq_true,cond_true,beq_iff_eq]
 unfold QgH
 simp only [QfJ hr,cond_true]
 refine Qle r (fun j=>?_) _ _ _
 rw [hre]
 unfold QaK
 simp [List.getD,List.getElem?_replicate]
 split <;> rfl
theorem QoQ {s:Qac} {v:List Qaf} (h:Qb5 s v = true):v.length = s.Boundary.length:=by
 unfold Qb5 at h
 cases e:((QdI s v).2 != 0) with
 | true=>simp only [e,cond_true] at h; cases h
 | false=>exact (Qnc rfl e).2.1.1
theorem Qmz (v nx:List Qaf):∀ (m:Nat) (i:Int),(QbH v nx m i = .brk () /\ ∀ j,i <= j -> j < i + m -> Qdp (vat nx j) (vat v j) = true) \/ QbH v nx m i = .ret false
 | 0,i=>.inl ⟨rfl,fun j a b=>by omega⟩
 | m + 1,i=>by
  rw [QbH]
  cases e:Qdp (nx.getD i.toNat default) (v.getD i.toNat default) with
  | false=>exact .inr rfl
  | true=>
   simp only [Bool.not_true,cond_false]
   rcases Qmz v nx m (i + 1) with ⟨a,b⟩ | a
   ·refine .inl ⟨a,fun j j1 j2=>?_⟩
    by_cases c:j = i
    ·subst c; exact e
    ·exact b j (by omega) (by omega)
   ·exact .inr a
theorem Qns {s:Qac} {v:List Qaf} (h:Qb5 s v = true):Qfg s /\ Qdw s v /\ Le s (Fv s v) v:=by
 unfold Qb5 at h
 cases e:((QdI s v).2 != 0) with
 | true=>simp only [e,cond_true] at h; cases h
 | false=>
  obtain ⟨hv,hvv,hx⟩:=Qnc rfl e
  simp only [e,cond_false] at h
  refine ⟨hv,hvv,fun n n0 n1=>?_⟩
  rcases Qmz v (QdI s v).1 (((((QdI s v).1.length:Nat):Int) - 0).toNat) 0 with ⟨a,b⟩ | a
  ·have hl:(QdI s v).1.length = s.Boundary.length:=by rw [hx,Qpx]
   have:=b n n0 (by omega)
   rw [hx] at this
   exact Qlm (QdC (QwN hv hvv) n0 n1) (QdC hvv n0 n1) this
  ·rw [a] at h; cases h
theorem QoM (s:Qac) (v:List Qaf):Qb5 s v = true ↔ Qfg s /\ Qdw s v /\ Le s (Fv s v) v:=by
 refine ⟨Qns,?_⟩
 rintro ⟨hv,hvv,hle⟩
 unfold Qb5
 simp only [QpH hv hvv,bne_self_eq_false,cond_false]
 have hl:=Qpx s v
 rcases QnX (fun r i=>QbH v (Fv s v) r i) (fun i=>!Qdp (vat (Fv s v) i) (vat v i)) false () (fun _=>rfl) (fun _ _=>rfl) (((((Fv s v).length:Nat):Int) - 0).toNat) 0 with ⟨a,j,j0,j1,hj⟩ | ⟨a,ha⟩
 ·have:=(QoZ (QdC (QwN hv hvv) j0 (by omega)) (QdC hvv j0 (by omega))).2 (hle j j0 (by omega))
  unfold vat at this hj
  rw [this] at hj; cases hj
 ·try dsimp only at a
  rw [a]
theorem QoJ {s:Qac} {n b:Int} {v:List Qaf} (h:Qat s n b v = true):b < s.Width:=by
 unfold Qat at h
 by_cases e1:Qar s n b = 0
 ·exact ((QlF _ _ _).1 e1).2.2.2
 ·have e1':(Qar s n b == 0) = false:=by simpa using e1
  simp only [e1',cond_false] at h; cases h
theorem QqR {w:Int} {a b:Qaf} (ha:VSt w a) (hb:VSt w b):∃ g,QjZ a b = (g,0) /\ VSt w g /\ ∀ x,Qap g x = (Qap a x && !Qap b x):=by
 obtain ⟨g,e,h1,h2⟩:=Qpq (one:=true) (two:=false) (both:=false) ha hb
 refine ⟨g,?_,h1,fun x=>?_⟩
 ·unfold QjZ; simp only [e]
 ·rw [h2]; unfold Qs5; cases Qap a x <;> cases Qap b x <;> rfl
theorem Qf8 (s:Qaf):∀ (m:Nat) (o:List Int) (b:Int),1 <= m -> s.Width < b + m -> Qbj s m o b ≠ .oof
 | 0,o,b,h0,h=>by omega
 | m + 1,o,b,h0,h=>by
  rw [Qbj]
  cases QaT s with
  | false=>intro h; cases h
  | true=>
   by_cases hb:b < s.Width
   ·simp only [cond_true,decide_eq_true hb]
    cases Qap s b with
    | false=>exact Qf8 s m _ (b + 1) (by omega) (by omega)
    | true=>exact Qf8 s m _ (b + 1) (by omega) (by omega)
   ·simp only [cond_true,decide_eq_false hb,cond_false]
    intro h; cases h
theorem QfW {w:Int} {s:Qaf} (hs:VSt w s):∀ (m:Nat) (o:List Int) (b:Int),0 <= b -> b <= w -> w < b + m -> ∃ r,Qbj s m o b = .brk r /\ ∀ x,x ∈ r ↔ x ∈ o \/ (b <= x /\ Qap s x = true)
 | 0,o,b,h0,h1,h2=>by omega
 | m + 1,o,b,h0,h1,h2=>by
  have hw:=Qif hs
  rw [Qbj,Qg0 hs]
  by_cases hb:b < s.Width
  ·simp only [cond_true,decide_eq_true hb]
   cases hh:Qap s b with
   | true=>
    obtain ⟨r,e,hr⟩:=QfW hs m (o ++ [b]) (b + 1) (by omega) (by omega) (by omega)
    refine ⟨r,e,fun x=>(hr x).trans ?_⟩
    simp only [List.mem_append,List.mem_singleton]
    constructor
    ·rintro ((h | h) | ⟨h,h'⟩)
     ·exact .inl h
     ·subst h; exact .inr ⟨by omega,hh⟩
     ·exact .inr ⟨by omega,h'⟩
    ·rintro (h | ⟨h,h'⟩)
     ·exact .inl (.inl h)
     ·by_cases e:x = b
      ·exact .inl (.inr e)
      ·exact .inr ⟨by omega,h'⟩
   | false=>
    obtain ⟨r,e,hr⟩:=QfW hs m o (b + 1) (by omega) (by omega) (by omega)
    refine ⟨r,e,fun x=>(hr x).trans ?_⟩
    constructor
    ·rintro (h | ⟨h,h'⟩)
     ·exact .inl h
     ·exact .inr ⟨by omega,h'⟩
    ·rintro (h | ⟨h,h'⟩)
     ·exact .inl h
     ·by_cases e:x = b
      ·subst e; rw [hh] at h'; cases h'
      ·exact .inr ⟨by omega,h'⟩
  ·simp only [cond_true,decide_eq_false hb,cond_false]
   refine ⟨o,rfl,fun x=>⟨fun h=>.inl h,?_⟩⟩
   rintro (h | ⟨h,h'⟩)
   ·exact h
   ·have:=Qlb hs h'; omega
theorem Qkv {w:Int} {s:Qaf} (hs:VSt w s) (x:Int):x ∈ Qei s ↔ Qap s x = true:=by
 have hw:=Qif hs
 obtain ⟨r,e,hr⟩:=QfW hs (s.Width.toNat + 1) [] 0 (by omega) (by omega) (by omega)
 unfold Qei
 rw [e]
 refine (hr x).trans ⟨?_,fun h=>.inr ⟨(Qlb hs h).1,h⟩⟩
 rintro (h | h)
 ·cases h
 ·exact h.2
theorem QoT {w:Int} {a b:Qaf} (ha:VSt w a) (hb:VSt w b):QeC a b = true ↔ QpA a b:=by
 obtain ⟨d,e,hd,hh⟩:=QqR ha hb
 unfold QeC
 simp only [e,beq_self_eq_true,cond_true]
 constructor
 ·intro h x hx
  cases hbx:Qap b x with
  | true=>rfl
  | false=>
   have hm:=(Qkv hd x).2 (by rw [hh,hx,hbx]; rfl)
   have:=List.length_pos_of_mem hm
   rw [beq_iff_eq] at h; omega
 ·intro h
  have:Qei d = []:=by
   rw [List.eq_nil_iff_forall_not_mem]
   intro x hx
   have:=(Qkv hd x).1 hx
   rw [hh,Bool.and_eq_true,Bool.not_eq_true'] at this
   rw [h x this.1] at this; cases this.2
  rw [this]; rfl
theorem Qkz (s:Qac) (v:List Qaf):Qb9 s v = true ↔ Qfg s /\ Qdw s v /\ Le s (Fv s v) v:=by
 unfold Qb9
 cases e:Qa1 s with
 | false=>
  refine ⟨fun h=>(by cases h),fun h=>?_⟩
  rw [(Qbu s).2 h.1] at e; cases e
 | true=>
  have hv:=(Qbu s).1 e
  simp only [Bool.not_true,cond_false]
  by_cases e2:Qbs s v = 0
  ·have hvv:=(Qmt s v).1 e2
   have e2':(Qbs s v != 0) = false:=by simpa using e2
   have hb:=hv.bl
   have hvl:=hvv.1
   simp only [e2',cond_false]
   have hat:∀ j:Int,0 <= j -> j < (v.length:Int) -> (QeC (QbG s v j) (vat v j) = true ↔ QpA (vat (Fv s v) j) (vat v j)):=fun j j0 j1=>by
    rw [<- Qt7 s v j0 (by omega)]
    exact QoT (QdC (QwN hv hvv) j0 (by omega)) (QdC hvv j0 (by omega))
   rcases QnX (fun r i=>Qck s v r i) (fun i=>!QeC (QbG s v i) (vat v i)) false () (fun _=>rfl) (fun _ _=>rfl) ((((v.length:Nat):Int) - 0).toNat) 0 with ⟨a,j,j0,j1,hj⟩ | ⟨a,ha⟩
   ·try dsimp only at a
    rw [a]
    refine ⟨fun h=>(by cases h),fun h=>?_⟩
    rw [(hat j j0 (by omega)).2 (h.2.2 j j0 (by omega))] at hj; cases hj
   ·try dsimp only at a
    rw [a]
    refine ⟨fun _=>⟨hv,hvv,fun n n0 n1=>?_⟩,fun _=>rfl⟩
    have:=ha n n0 (by omega)
    exact (hat n n0 (by omega)).1 (by simpa using this)
  ·have e2':(Qbs s v != 0) = true:=by simpa using e2
   simp only [e2',cond_true]
   exact ⟨fun h=>(by cases h),fun h=>absurd ((Qmt s v).2 h.2.1) e2⟩
theorem Qn6 {s:Qac} {v:List Qaf} (h:Qb9 s v = true):v.length = s.Boundary.length:=((Qkz s v).1 h).2.1.1
theorem Qli (s:Qac) (n b:Int) (v:List Qaf):Qat s n b v = QaQ s n b v:=by
 have e:Qb5 s v = Qb9 s v:=by rw [Bool.eq_iff_iff,QoM,Qkz]
 unfold Qat QaQ
 simp only [Qpl,e,QlB]
theorem Qmm (t:List Int):∀ (m:Nat) (k i:Int),Qak t m k i = .brk ()
 | 0,k,i=>rfl
 | m + 1,k,i=>by
  have hr:∀ (s:Qac) (n b:Int) (v:List Qaf) {α:Type} (x y:α),(bif Qat s n b v then (bif decide (s.Width <= b) then x else y) else y) = y:=fun s n b v α x y=>by
   cases e:Qat s n b v with
   | false=>rfl
   | true=>rw [decide_eq_false (by have:=QoJ e; omega)]; rfl
  rw [Qak]
  simp only [Qmw,beq_self_eq_true,Bool.not_true,cond_false]
  simp only [<- Qli,beq_self_eq_true,Bool.not_true,cond_false,hr,Qmm t m,Bool.cond_self]
theorem Qjy (t:List Int) (s:Qac) (n bit:Int) (l:List Qas) (v:List Qaf):QaN t s n bit l v = true:=by
 unfold QaN
 simp only [Qmm,Qmw,beq_self_eq_true,cond_true]
 simp only [<- Qli,beq_self_eq_true,cond_true,Bool.cond_self]
 rfl
theorem QgU:Qdy Tryz.prog 42 = some (.agg #[vi 0,.slice none 0 0]):=by kernel_rfl
theorem QgV:Qd2 Tryz.prog 40 = some (91,1,8):=by kernel_rfl
theorem QuM:Qcw Tryz.prog 40 = some [u64 (0#64)]:=by kernel_rfl
theorem Qju:QnS Tryz.prog 42 = some ([(0,1),(1,1)],[vi 0,.slice none 0 0]):=by kernel_rfl
theorem Qax:Qav Tryz.prog 42 = some (true,2):=by kernel_rfl
theorem un3:Tryz.prog.underlying 3 = some (.int .i64):=by kernel_rfl
theorem QqC:Tryz.prog.underlying 92 = some (.int .u64):=by kernel_rfl
theorem Qbi:Qbr Tryz.prog 42 0 = some 0:=by kernel_rfl
theorem QpB:Qab Tryz.prog 29 = true:=by kernel_rfl
theorem Qcm:Qbr Tryz.prog 42 1 = some 1:=by kernel_rfl
theorem QiV:Qav Tryz.prog 40 = some (false,1):=by kernel_rfl
theorem QnH:Qav Tryz.prog 91 = some (false,1):=by kernel_rfl
theorem Qpz:Qbr Tryz.prog 60 1 = some 1:=by kernel_rfl
theorem sh3:Qav Tryz.prog 3 = some (false,1):=by kernel_rfl
theorem QsW:Qbr Tryz.prog 60 0 = some 0:=by kernel_rfl
theorem QjI:Qav Tryz.prog 22 = some (false,1):=by kernel_rfl
theorem QcA:Qd2 Tryz.prog 22 = some (3,1,8):=by kernel_rfl
theorem QA6:Qab Tryz.prog 31 = true:=by kernel_rfl
theorem Qco:Tryz.prog.follows .mixedOrders = true:=by kernel_rfl
theorem Qci:Qbr Tryz.prog 105 0 = some 0:=by kernel_rfl
theorem QdH:Qbr Tryz.prog 105 1 = some 1:=by kernel_rfl
theorem Qqo:Qdy Tryz.prog 65 = some (.agg #[vi 0,.slice none 0 0,vi 0,.slice none 0 0,.slice none 0 0]):=by kernel_rfl
theorem Qya:QnS Tryz.prog 65 = some ([(0,2),(2,2),(4,1)],[vi 0,.slice none 0 0,vi 0,.slice none 0 0,.slice none 0 0]):=by kernel_rfl
theorem Qek:Qav Tryz.prog 65 = some (true,5):=by kernel_rfl
theorem QdB:Qbr Tryz.prog 65 0 = some 0:=by kernel_rfl
theorem Qgj:Qbr Tryz.prog 65 1 = some 2:=by kernel_rfl
theorem Qeo:Qbr Tryz.prog 65 2 = some 4:=by kernel_rfl
theorem Qmn:Qav Tryz.prog 63 = some (false,1):=by kernel_rfl
theorem QkQ:Qd2 Tryz.prog 63 = some (105,2,16):=by kernel_rfl
theorem Qt8:QnS Tryz.prog 105 = some ([(0,1),(1,1)],[vi 0,vi 0]):=by kernel_rfl
theorem Qza:Qcw Tryz.prog 63 = some [vi 0,vi 0]:=by kernel_rfl
theorem Qsy:Qab Tryz.prog 53 = true:=by kernel_rfl
theorem Qj9:Qav Tryz.prog 105 = some (true,2):=by kernel_rfl
theorem QtO:Qdy Tryz.prog 105 = some (.agg #[vi 0,vi 0]):=by kernel_rfl
theorem QxU:Qab Tryz.prog 107 = true:=by kernel_rfl
theorem Qwx:Qab Tryz.prog 67 = true:=by kernel_rfl
theorem QuD:Qab Tryz.prog 68 = true:=by kernel_rfl
theorem QuJ:Qdy Tryz.prog 27 = some (.agg #[vi 0,.slice none 0 0,.slice none 0 0,.slice none 0 0]):=by kernel_rfl
theorem QzP:Qab Tryz.prog 27 = true:=by kernel_rfl
theorem Qze:QnS Tryz.prog 27 = some ([(0,1),(1,1),(2,1),(3,1)],[vi 0,.slice none 0 0,.slice none 0 0,.slice none 0 0]):=by kernel_rfl
theorem Qen:Qav Tryz.prog 27 = some (true,4):=by kernel_rfl
theorem QxV:Qab Tryz.prog 28 = true:=by kernel_rfl
theorem QbR:Qbr Tryz.prog 27 0 = some 0:=by kernel_rfl
theorem Qwh:Qab Tryz.prog 13 = true:=by kernel_rfl
theorem QbI:Qbr Tryz.prog 27 1 = some 1:=by kernel_rfl
theorem QgG:Qav Tryz.prog 23 = some (false,1):=by kernel_rfl
theorem Qfr:Qd2 Tryz.prog 23 = some (22,1,24):=by kernel_rfl
theorem QrC:Qcw Tryz.prog 23 = some [.slice none 0 0]:=by kernel_rfl
theorem Qc4:Qbr Tryz.prog 27 3 = some 3:=by kernel_rfl
theorem Qjd:Qav Tryz.prog 25 = some (false,1):=by kernel_rfl
theorem Qc6:Qd2 Tryz.prog 25 = some (42,2,32):=by kernel_rfl
theorem Ql4:Qcw Tryz.prog 25 = some [vi 0,.slice none 0 0]:=by kernel_rfl
theorem QcW:Qbr Tryz.prog 27 2 = some 2:=by kernel_rfl
theorem QjR:Qav Tryz.prog 24 = some (false,1):=by kernel_rfl
theorem Qy7:Qab Tryz.prog 30 = true:=by kernel_rfl
theorem QiI:Qd2 Tryz.prog 24 = some (65,5,88):=by kernel_rfl
theorem QsT:Qcw Tryz.prog 24 = some [vi 0,.slice none 0 0,vi 0,.slice none 0 0,.slice none 0 0]:=by kernel_rfl
theorem QwF:Qab Tryz.prog 36 = true:=by kernel_rfl
theorem QrF:Qab Tryz.prog 21 = true:=by kernel_rfl
theorem QvM:Qab Tryz.prog 106 = true:=by kernel_rfl
theorem Qnk:Qcw Tryz.prog 22 = some [vi 0]:=by kernel_rfl
theorem ca9:Qab Tryz.prog 9 = true:=by kernel_rfl
theorem Qc8:Qbr Tryz.prog 37 0 = some 0:=by kernel_rfl
theorem QfA:Qbr Tryz.prog 37 1 = some 1:=by kernel_rfl
theorem Qy5:Qab Tryz.prog 65 = true:=by kernel_rfl
theorem Qy2:Qab Tryz.prog 66 = true:=by kernel_rfl
theorem QwP:Qab Tryz.prog 32 = true:=by kernel_rfl
theorem QrK:QnS Tryz.prog 37 = some ([(0,1),(1,1)],[vi 0,vi 0]):=by kernel_rfl
theorem QAt:Qab Tryz.prog 33 = true:=by kernel_rfl
theorem Qqp:Qdy Tryz.prog 37 = some (.agg #[vi 0,vi 0]):=by kernel_rfl
theorem Qfo:Qav Tryz.prog 37 = some (true,2):=by kernel_rfl
theorem Qyq:Qab Tryz.prog 34 = true:=by kernel_rfl
theorem QcX:Qd2 Tryz.prog 28 = some (37,2,16):=by kernel_rfl
theorem QmR:Qcw Tryz.prog 28 = some [vi 0,vi 0]:=by kernel_rfl
theorem Qzd:Qab Tryz.prog 35 = true:=by kernel_rfl
theorem Qqq:Qab Tryz.prog 41 = true:=by kernel_rfl
theorem QuW:Qab Tryz.prog 153 = true:=by kernel_rfl
theorem Qzf:Qab Tryz.prog 71 = true:=by kernel_rfl
theorem QBq:Qab Tryz.prog 40 = true:=by kernel_rfl
theorem QxS:Qab Tryz.prog 118 = true:=by kernel_rfl
theorem QzF:Qab Tryz.prog 12 = true:=by kernel_rfl
theorem Qy4:Qab Tryz.prog 81 = true:=by kernel_rfl
theorem Qy1:Qab Tryz.prog 83 = true:=by kernel_rfl
theorem QBc:Qab Tryz.prog 69 = true:=by kernel_rfl
theorem Qz2:Qab Tryz.prog 70 = true:=by kernel_rfl
theorem QA2:Qab Tryz.prog 37 = true:=by kernel_rfl
theorem QzO:Qab Tryz.prog 38 = true:=by kernel_rfl
theorem QzR:Qab Tryz.prog 39 = true:=by kernel_rfl
theorem Qyz:Qab Tryz.prog 170 = true:=by kernel_rfl
theorem Qyl:Qab Tryz.prog 113 = true:=by kernel_rfl
theorem QyD:Qab Tryz.prog 114 = true:=by kernel_rfl
theorem Qxu:Qab Tryz.prog 115 = true:=by kernel_rfl
theorem QrI:Qab Tryz.prog 79 = true:=by kernel_rfl
theorem Qxh:Qab Tryz.prog 136 = true:=by kernel_rfl
theorem QvR:Qab Tryz.prog 135 = true:=by kernel_rfl
theorem Qx2:Qab Tryz.prog 137 = true:=by kernel_rfl
theorem Qv8:Qab Tryz.prog 174 = true:=by kernel_rfl
theorem Qvs:Qab Tryz.prog 147 = true:=by kernel_rfl
theorem Qye:Qab Tryz.prog 146 = true:=by kernel_rfl
theorem Qsz:Qab Tryz.prog 76 = true:=by kernel_rfl
theorem Qxb:Qab Tryz.prog 109 = true:=by kernel_rfl
theorem Qx6:Qab Tryz.prog 75 = true:=by kernel_rfl
theorem QBk:Qab Tryz.prog 98 = true:=by kernel_rfl
theorem QAO:Qab Tryz.prog 93 = true:=by kernel_rfl
theorem QAX:Qab Tryz.prog 94 = true:=by kernel_rfl
theorem Qzs:Qab Tryz.prog 95 = true:=by kernel_rfl
theorem QAu:Qab Tryz.prog 97 = true:=by kernel_rfl
theorem QBx:Qab Tryz.prog 96 = true:=by kernel_rfl
theorem Qxa:Qab Tryz.prog 56 = true:=by kernel_rfl
theorem Qy8:Qab Tryz.prog 80 = true:=by kernel_rfl
theorem Qxx:Qab Tryz.prog 108 = true:=by kernel_rfl
theorem QtI:Qab Tryz.prog 47 = true:=by kernel_rfl
theorem QAv:Qab Tryz.prog 73 = true:=by kernel_rfl
theorem QAM:Qab Tryz.prog 72 = true:=by kernel_rfl
theorem QA3:Qab Tryz.prog 74 = true:=by kernel_rfl
theorem QxP:Qab Tryz.prog 175 = true:=by kernel_rfl
theorem QvP:Qjt Tryz.prog 105 2 = true:=by kernel_rfl
theorem Qxt:Qab Tryz.prog 149 = true:=by kernel_rfl
theorem Qx7:Qab Tryz.prog 148 = true:=by kernel_rfl
theorem Qvj:Qab Tryz.prog 110 = true:=by kernel_rfl
theorem QAB:Qab Tryz.prog 77 = true:=by kernel_rfl
theorem Qwy:Qab Tryz.prog 42 = true:=by kernel_rfl
theorem Qtw:Qjt Tryz.prog 37 2 = true:=by kernel_rfl
theorem QzD:Qab Tryz.prog 43 = true:=by kernel_rfl
theorem Qwz:Qab Tryz.prog 44 = true:=by kernel_rfl
theorem Qzx:Qab Tryz.prog 45 = true:=by kernel_rfl
theorem QAq:Tryz.prog.underlying 40 = some (.slice 91):=by kernel_rfl
theorem Qyf:Qab Tryz.prog 151 = true:=by kernel_rfl
theorem Qv4:Qab Tryz.prog 150 = true:=by kernel_rfl
theorem Qxl:Qab Tryz.prog 173 = true:=by kernel_rfl
theorem QvQ:Qab Tryz.prog 142 = true:=by kernel_rfl
theorem QwW:Qab Tryz.prog 185 = true:=by kernel_rfl
theorem Qys:Qab Tryz.prog 184 = true:=by kernel_rfl
theorem QvG:Qab Tryz.prog 111 = true:=by kernel_rfl
theorem QuV:Qab Tryz.prog 144 = true:=by kernel_rfl
theorem Qx0:Qab Tryz.prog 181 = true:=by kernel_rfl
theorem Qxf:Qab Tryz.prog 172 = true:=by kernel_rfl
theorem Qyk:Qab Tryz.prog 141 = true:=by kernel_rfl
theorem QyR:Qab Tryz.prog 143 = true:=by kernel_rfl
theorem QxM:Qab Tryz.prog 101 = true:=by kernel_rfl
theorem QzA:Tryz.prog.underlying 91 = some (.int .u64):=by kernel_rfl
theorem QwZ:Qab Tryz.prog 152 = true:=by kernel_rfl
theorem QxX:Qab Tryz.prog 112 = true:=by kernel_rfl
theorem QAT:Qab Tryz.prog 59 = true:=by kernel_rfl
theorem Qz9:Qab Tryz.prog 78 = true:=by kernel_rfl
theorem QzL:Qab Tryz.prog 46 = true:=by kernel_rfl
theorem QxO:Qab Tryz.prog 116 = true:=by kernel_rfl
theorem Qxc:Qab Tryz.prog 117 = true:=by kernel_rfl
theorem QAl:Qab Tryz.prog 82 = true:=by kernel_rfl
theorem QBC:Qab Tryz.prog 48 = true:=by kernel_rfl
theorem QAg:Qab Tryz.prog 49 = true:=by kernel_rfl
theorem QyK:Qab Tryz.prog 102 = true:=by kernel_rfl
theorem QzE:Tryz.prog.underlying 28 = some (.slice 37):=by kernel_rfl
theorem QAo:Qlk Tryz.prog 37 2 = true:=by kernel_rfl
theorem Qj3:KK Tryz.prog 37 QeY Qed:=Qtg (fun x:Qas=>[x.Node,x.Bit]) Qed QAo (fun x y h=>by cases x; cases y; simpa using h) (fun _=>rfl) (fun x hx y hy=>by simp only [List.mem_cons,List.not_mem_nil,or_false] at hy; obtain ⟨h0,h1⟩:=hx; rcases hy with rfl | rfl <;> assumption)
theorem QtF:QrG Tryz.prog 97 = some (37,28):=by kernel_rfl
theorem QwI:Qdy Tryz.prog 28 = some (.slice none 0 0):=by kernel_rfl
theorem Qxo:Qab Tryz.prog 104 = true:=by kernel_rfl
theorem Qw4:Qab Tryz.prog 103 = true:=by kernel_rfl
theorem QAI:Qab Tryz.prog 61 = true:=by kernel_rfl
theorem QAG:Qab Tryz.prog 62 = true:=by kernel_rfl
theorem QzU:Qab Tryz.prog 60 = true:=by kernel_rfl
theorem QBi:Qab Tryz.prog 63 = true:=by kernel_rfl
theorem QAh:Qab Tryz.prog 64 = true:=by kernel_rfl
theorem un9:Tryz.prog.underlying 9 = some .string:=by kernel_rfl
theorem Qq4:QnS Tryz.prog 129 = some ([(0,1),(1,1),(2,1),(3,1)],[vi 0,.string (bs (Str.mk [])),vi 0,vi 0]):=by kernel_rfl
theorem QeM:Qd2 Tryz.prog 116 = some (129,4,40):=by kernel_rfl
theorem Ql1:Qcw Tryz.prog 116 = some [vi 0,.string (bs (Str.mk [])),vi 0,vi 0]:=by kernel_rfl
theorem Qsj:Qab Tryz.prog 119 = true:=by kernel_rfl
theorem Quj:Qab Tryz.prog 120 = true:=by kernel_rfl
theorem QjY:Qbr Tryz.prog 121 2 = some 2:=by kernel_rfl
theorem QuO:Qav Tryz.prog 33 = some (false,1):=by kernel_rfl
theorem Qcg:Qbr Tryz.prog 121 1 = some 1:=by kernel_rfl
theorem QfS:Qbr Tryz.prog 121 0 = some 0:=by kernel_rfl
theorem Qlt:Qav Tryz.prog 116 = some (false,1):=by kernel_rfl
theorem Qo1:Qbr Tryz.prog 129 0 = some 0:=by kernel_rfl
theorem Qno:Qbr Tryz.prog 129 1 = some 1:=by kernel_rfl
theorem sh9:Qav Tryz.prog 9 = some (false,1):=by kernel_rfl
theorem QuN:Qab Tryz.prog 85 = true:=by kernel_rfl
theorem Qcb:Qd2 Tryz.prog 138 = some (9,1,16):=by kernel_rfl
theorem QhZ:Qcw Tryz.prog 138 = some [.string (bs (Str.mk []))]:=by kernel_rfl
theorem Qxj:Qab Tryz.prog 182 = true:=by kernel_rfl
theorem Qq9:Qab Tryz.prog 176 = true:=by kernel_rfl
theorem QqS:Qab Tryz.prog 154 = true:=by kernel_rfl
theorem Qtr:Qab Tryz.prog 155 = true:=by kernel_rfl
theorem QoY:Qab Tryz.prog 122 = true:=by kernel_rfl
theorem QpS:Qdy Tryz.prog 140 = some (.agg #[vi 0,.string (bs (Str.mk [])),.slice none 0 0,.slice none 0 0]):=by kernel_rfl
theorem Qdv:Qbr Tryz.prog 140 0 = some 0:=by kernel_rfl
theorem Qfu:Qbr Tryz.prog 140 2 = some 2:=by kernel_rfl
theorem Qi0:Qav Tryz.prog 138 = some (false,1):=by kernel_rfl
theorem Qve:Qab Tryz.prog 177 = true:=by kernel_rfl
theorem Qni:Qab Tryz.prog 123 = true:=by kernel_rfl
theorem Qd1:Qav Tryz.prog 140 = some (true,4):=by kernel_rfl
theorem Qhm:Qbr Tryz.prog 140 1 = some 1:=by kernel_rfl
theorem QvB:Qab Tryz.prog 178 = true:=by kernel_rfl
theorem QtC:Qdy Tryz.prog 168 = some (.agg #[.string (bs (Str.mk [])),.slice none 0 0]):=by kernel_rfl
theorem Qtn:Qab Tryz.prog 121 = true:=by kernel_rfl
theorem QoE:Qbr Tryz.prog 168 0 = some 0:=by kernel_rfl
theorem QvY:Qab Tryz.prog 156 = true:=by kernel_rfl
theorem QeN:Qbr Tryz.prog 168 1 = some 1:=by kernel_rfl
theorem Qkj:Qav Tryz.prog 166 = some (false,1):=by kernel_rfl
theorem Qgu:Qd2 Tryz.prog 166 = some (140,4,72):=by kernel_rfl
theorem Qw1:Qab Tryz.prog 157 = true:=by kernel_rfl
theorem QvU:Qcw Tryz.prog 166 = some [vi 0,.string (bs (Str.mk [])),.slice none 0 0,.slice none 0 0]:=by kernel_rfl
theorem Qrp:Qav Tryz.prog 168 = some (true,2):=by kernel_rfl
theorem QrZ:Qdy Tryz.prog 126 = some (.agg #[.string (bs (Str.mk [])),.slice none 0 0]):=by kernel_rfl
theorem Qo2:Qbr Tryz.prog 126 0 = some 0:=by kernel_rfl
theorem Qdd:Qbr Tryz.prog 126 1 = some 1:=by kernel_rfl
theorem QhC:Qav Tryz.prog 124 = some (false,1):=by kernel_rfl
theorem Qg1:Qd2 Tryz.prog 124 = some (168,2,40):=by kernel_rfl
theorem Qyb:Qab Tryz.prog 124 = true:=by kernel_rfl
theorem QvS:Qcw Tryz.prog 124 = some [.string (bs (Str.mk [])),.slice none 0 0]:=by kernel_rfl
theorem Ql8:Qav Tryz.prog 126 = some (true,2):=by kernel_rfl
theorem Qyw:Qdy Tryz.prog 84 = some (.agg #[.slice none 0 0]):=by kernel_rfl
theorem QAk:Qab Tryz.prog 84 = true:=by kernel_rfl
theorem Qxv:QnS Tryz.prog 121 = some ([(0,1),(1,1),(2,1)],[.slice none 0 0,vi 0,vi 0]):=by kernel_rfl
theorem QdZ:Qbr Tryz.prog 84 0 = some 0:=by kernel_rfl
theorem QlX:Qav Tryz.prog 82 = some (false,1):=by kernel_rfl
theorem Qly:Qd2 Tryz.prog 82 = some (126,2,40):=by kernel_rfl
theorem QA7:Qab Tryz.prog 87 = true:=by kernel_rfl
theorem QzI:Qcw Tryz.prog 82 = some [.string (bs (Str.mk [])),.slice none 0 0]:=by kernel_rfl
theorem QjT:Qav Tryz.prog 84 = some (true,1):=by kernel_rfl
theorem QoX:Qbr Tryz.prog 140 3 = some 3:=by kernel_rfl
theorem Qvf:Qab Tryz.prog 183 = true:=by kernel_rfl
theorem Qyj:Qab Tryz.prog 179 = true:=by kernel_rfl
theorem QqD:Qab Tryz.prog 129 = true:=by kernel_rfl
theorem Que:Qab Tryz.prog 158 = true:=by kernel_rfl
theorem Qyc:Qab Tryz.prog 180 = true:=by kernel_rfl
theorem un4:Tryz.prog.underlying 4 = some .bool:=by kernel_rfl
theorem Qwl:Qab Tryz.prog 161 = true:=by kernel_rfl
theorem Qrg:Qdy Tryz.prog 142 = some (.agg #[vi 0,vi 0,vi 0,vi 0]):=by kernel_rfl
theorem Qx3:Qab Tryz.prog 160 = true:=by kernel_rfl
theorem Qwp:Qab Tryz.prog 159 = true:=by kernel_rfl
theorem Qyd:Qab Tryz.prog 162 = true:=by kernel_rfl
theorem Qyy:Qab Tryz.prog 163 = true:=by kernel_rfl
theorem QtA:Qab Tryz.prog 126 = true:=by kernel_rfl
theorem Qor:QnS Tryz.prog 142 = some ([(0,1),(1,1),(2,1),(3,1)],[vi 0,vi 0,vi 0,vi 0]):=by kernel_rfl
theorem Qj2:Qav Tryz.prog 142 = some (true,4):=by kernel_rfl
theorem Qtx:Qab Tryz.prog 125 = true:=by kernel_rfl
theorem Qgf:Qd2 Tryz.prog 133 = some (142,4,32):=by kernel_rfl
theorem Qp9:Qcw Tryz.prog 133 = some [vi 0,vi 0,vi 0,vi 0]:=by kernel_rfl
theorem Qwm:Qjt Tryz.prog 142 4 = true:=by kernel_rfl
theorem QtV:Qab Tryz.prog 127 = true:=by kernel_rfl
theorem QrT:Qab Tryz.prog 167 = true:=by kernel_rfl
theorem Qyn:Qab Tryz.prog 131 = true:=by kernel_rfl
theorem Qi8:Qbr Tryz.prog 142 0 = some 0:=by kernel_rfl
theorem Qxk:QnS Tryz.prog 140 = some ([(0,1),(1,1),(2,1),(3,1)],[vi 0,.string (bs (Str.mk [])),.slice none 0 0,.slice none 0 0]):=by kernel_rfl
theorem QlE:Qbr Tryz.prog 142 1 = some 1:=by kernel_rfl
theorem Qov:Qbr Tryz.prog 142 2 = some 2:=by kernel_rfl
theorem QoA:Qbr Tryz.prog 142 3 = some 3:=by kernel_rfl
theorem Qy6:Qab Tryz.prog 90 = true:=by kernel_rfl
theorem QvD:Qab Tryz.prog 128 = true:=by kernel_rfl
theorem Qyr:QnS Tryz.prog 174 = some ([(0,1),(1,1)],[vi 0,vi 0]):=by kernel_rfl
theorem Qki:Qd2 Tryz.prog 130 = some (174,2,16):=by kernel_rfl
theorem Qwa:Qcw Tryz.prog 130 = some [vi 0,vi 0]:=by kernel_rfl
theorem QvE:Qab Tryz.prog 164 = true:=by kernel_rfl
theorem Qw9:Qab Tryz.prog 165 = true:=by kernel_rfl
theorem Quo:Qdy Tryz.prog 135 = some (.agg #[.slice none 0 0,.slice none 0 0,.slice none 0 0]):=by kernel_rfl
theorem QxW:QnS Tryz.prog 135 = some ([(0,1),(1,1),(2,1)],[.slice none 0 0,.slice none 0 0,.slice none 0 0]):=by kernel_rfl
theorem Qrq:Qav Tryz.prog 135 = some (true,3):=by kernel_rfl
theorem Qw2:Qab Tryz.prog 130 = true:=by kernel_rfl
theorem QqX:Qbr Tryz.prog 135 1 = some 1:=by kernel_rfl
theorem QoV:Qbr Tryz.prog 135 2 = some 2:=by kernel_rfl
theorem Qox:Qbr Tryz.prog 210 0 = some 0:=by kernel_rfl
theorem Qv2:Qdy Tryz.prog 210 = some (.agg #[vi 0,.slice none 0 0,.slice none 0 0]):=by kernel_rfl
theorem QxB:QnS Tryz.prog 210 = some ([(0,2),(2,1)],[vi 0,.slice none 0 0,.slice none 0 0]):=by kernel_rfl
theorem Qr9:Qav Tryz.prog 210 = some (true,3):=by kernel_rfl
theorem Qow:Qbr Tryz.prog 210 1 = some 2:=by kernel_rfl
theorem Qx4:Qab Tryz.prog 169 = true:=by kernel_rfl
theorem Qym:Qab Tryz.prog 168 = true:=by kernel_rfl
theorem QtT:Qbr Tryz.prog 174 1 = some 1:=by kernel_rfl
theorem Qx9:Qab Tryz.prog 132 = true:=by kernel_rfl
theorem Qvb:Qab Tryz.prog 133 = true:=by kernel_rfl
theorem QxL:Qab Tryz.prog 134 = true:=by kernel_rfl
theorem QtW:Qbr Tryz.prog 174 0 = some 0:=by kernel_rfl
theorem QAc:Qab Tryz.prog 88 = true:=by kernel_rfl
theorem QA4:Qab Tryz.prog 89 = true:=by kernel_rfl
theorem QoC:Qbr Tryz.prog 135 0 = some 0:=by kernel_rfl
theorem QtX:Qav Tryz.prog 133 = some (false,1):=by kernel_rfl
theorem Qzn:Qab Tryz.prog 92 = true:=by kernel_rfl
theorem QzK:Qab Tryz.prog 50 = true:=by kernel_rfl
theorem QzW:Qab Tryz.prog 51 = true:=by kernel_rfl
theorem QBr:Qab Tryz.prog 25 = true:=by kernel_rfl
theorem QzM:Qab Tryz.prog 52 = true:=by kernel_rfl
theorem QwC:Qab Tryz.prog 14 = true:=by kernel_rfl
theorem QAD:QnS Tryz.prog 60 = some ([(0,1),(1,1)],[.slice none 0 0,vi 0]):=by kernel_rfl
theorem ca7:Qab Tryz.prog 7 = true:=by kernel_rfl
theorem ca8:Qab Tryz.prog 8 = true:=by kernel_rfl
theorem QA5:Qab Tryz.prog 10 = true:=by kernel_rfl
theorem Qz5:Qab Tryz.prog 11 = true:=by kernel_rfl
theorem QyJ:Qab Tryz.prog 15 = true:=by kernel_rfl
theorem QwX:Qab Tryz.prog 16 = true:=by kernel_rfl
theorem Qzh:Qab Tryz.prog 17 = true:=by kernel_rfl
theorem QBn:Qab Tryz.prog 18 = true:=by kernel_rfl
theorem QBa:Qab Tryz.prog 19 = true:=by kernel_rfl
theorem QwG:Qab Tryz.prog 20 = true:=by kernel_rfl
theorem QsI (s:Qaf) (sa1:Option Addr) (sk1:Nat) (Qcc:Qaa s.Width) (rr:Bool) (hrr:QaT s = rr):FT Tryz.prog 53 #[.agg #[vi s.Width,vl sa1 sk1 s.Words]] [S sa1 sk1 s.Words] (fun g:Unit=>True) (fun g=>vb rr) (fun g=>[]):=by
 refine FTi Tryz.func53 fun w0 M0 F0=>?_
 unfold Qaa at Qcc
 refine Fb 8 0 fun _=>KS ?_
 refine Oa (Ab [vi s.Width,vl sa1 sk1 s.Words]) fun p2=>Oq Va (KS ?_)
 refine Oq (Vfa Qbi 0) (Oq (Qah sh3 0) (Oq Qbh (Oq Vm ?_)))
 refine Js 7 ?_ ?_
 ·intro h3
  have g4:=dt h3
  refine Osk (Osk (Osk (Oq Vpt (Oq Vm (Osk (Osk (Osk (Osk (Osk ?_)))))))))
  refine Osk (Osk (Osk (Oq Vpt (KS ?_))))
  refine Kt (KS ?_)
  refine Oq Va (KS ?_)
  have hq:=q4 hrr false (by simp only [QaT,h3,cs4]); subst hq
  exact Kr () rfl (.tmp rfl .nil) [] trivial
 intro h3
 have g5:=df h3
 refine Oq (Vfa Qbi 0) (Oq (Qah sh3 0) (Oq Qgr (Oq Vpf (Oq Vm ?_))))
 refine Js 12 ?_ ?_
 ·intro h6
  have g7:=dt h6
  refine Osk (Osk (Osk (Osk (Osk (Osk (Osk (Osk (Oq Vpt (KS ?_)))))))))
  refine Kt (KS ?_)
  refine Oq Va (KS ?_)
  have hq:=q4 hrr false (by simp only [QaT,h3,h6,cs4]); subst hq
  exact Kr () rfl (.tmp rfl .nil) [] trivial
 intro h6
 have g8:=df h6
 refine Oq (Vfa Qcm 0) (Oq (Qah QiV 0) (Oq (Qba QgV) (Oq (Vfa Qbi 0) (Oq (Qah sh3 0) (Oq QaS (Oq Qrl (Oq QfZ (Oq Vpf (KS ?_)))))))))
 refine Kc ?_ ?_
 ·intro h9
  have g10:=QaB h9
  refine KS ?_
  refine Oq Va (KS ?_)
  have hq:=q4 hrr false (by simp only [QaT,h3,h6,h9,cs4]); subst hq
  exact Kr () rfl (.tmp rfl .nil) [] trivial
 intro h9
 have g11:=Qae h9
 refine KS ?_
 refine Oq (Vfa Qbi 0) (Oq (Qah sh3 0) (Oq Va (KS ?_)))
 refine Kl (γ:=Nat × Int) (fun (r12,QrN)=>⟨[(1,p2),(3,vi QrN)],[pv p2 [vi s.Width,vl sa1 sk1 s.Words],S sa1 sk1 s.Words],QdU s r12 QrN = QdU s ((((64 * (s.Words.length:Int)):Int) - s.Width).toNat) s.Width /\ r12 = (((64 * (s.Words.length:Int)):Int) - QrN).toNat /\ (s.Width:Int) <= QrN /\ (QrN <= (64 * (s.Words.length:Int)) \/ QrN = s.Width) /\ (-9223372036854775808 <= QrN /\ QrN <= 9223372036854775807),r12⟩) ((((64 * (s.Words.length:Int)):Int) - s.Width).toNat,s.Width) [0,1] ⟨rfl,rfl,aM1,(.inr rfl),aM1⟩ ?_
 rintro ⟨r12,QrN⟩ ⟨hM14,hr15,hi16,hi17,hk18⟩
 refine QaA fun _ _ hL hA=>?_; dsimp only at hL hA; subst hL hA
 refine Fb 8 1 fun _=>KS ?_
 refine Oq Vm (Oq (Vfa Qcm 0) (Oq (Qah QiV 0) (Oq (Qba QgV) (Oq Qt9 (Oq Qbh (KS ?_))))))
 refine Kc ?_ ?_
 ·intro h20
  have g21:=dt h20
  obtain ⟨r22,rfl⟩:=scc (n:=r12) aM1
  refine KS ?_
  refine Oq (Vfa Qcm 0) (Oq (Qah QiV 0) (Oq Vm (Oq Qrl (Oq (Vi QgV 1) (Oq (QpT QnH 1) (Oq Vm (Oq QtG (Oq (VcU un3 QqC) (Oq Qnr ?_)))))))))
  refine Oq (QmX (b:=1#64)) (Oq (Qsx (b:=1#64)) (KS ?_))
  refine Kc ?_ ?_
  ·intro h23
   have g24:=eq_of_beq h23
   refine KS ?_
   refine Oq Va (KS ?_)
   have hR25:=q2 hM14 (.ret false) (by simp only [QdU,h20,h23,cs4])
   have hq:=q4 hrr false (by simp only [QaT,h3,h6,h9,h20,h23,hR25,cs4]); subst hq
   exact Kr () rfl (.tmp rfl .nil) [] trivial
  intro h23
  have g26:=ne_of_beq_false h23
  refine KS ?_
  refine Oq Vm (Oq QaS (Oq Va (KS ?_)))
  exact Kg (r22,(QrN + 1)) [0,1] ⟨(q3 hM14 (by simp only [QdU,h20,h23,cs4])),aM1,aM1,aM1,aM1⟩
 intro h20
 have g27:=df h20
 obtain rfl:r12 = 0:=by omega
 refine Ke ?_
 have hR28:=q2 hM14 (.brk ()) (by simp only [QdU,h20,cs4])
 refine KS ?_
 refine Oq Va (KS ?_)
 have hq:=q4 hrr true (by simp only [QaT,h3,h6,h9,h20,hR28,cs4]); subst hq
 exact Kr () rfl (.tmp rfl .nil) [] trivial
theorem QwQ (l:List Int) (la0:Option Addr) (lk0:Nat) (n:Int) (Qgv:Qaa n) (rr:Bool) (hrr:QbE l n = rr):FT Tryz.prog 67 #[vl la0 lk0 l,vi n] [S la0 lk0 l] (fun g:Unit=>True) (fun g=>vb rr) (fun g=>[]):=by
 refine FTi Tryz.func67 fun w0 M0 F0=>?_
 unfold Qaa at Qgv
 refine Fb 8 0 fun _=>Fo 0 fun ho2=>KS ?_
 refine Oq Va (KS ?_)
 refine Oq Va (KS ?_)
 refine Kl (γ:=Nat × Int) (fun (r3,i_4)=>⟨[(0,vl la0 lk0 l),(1,vi n),(5,vi i_4)],[S la0 lk0 l],QaW l n r3 i_4 = QaW l n (((l.length:Int) - 0).toNat) 0 /\ r3 = ((l.length:Int) - i_4).toNat /\ (0:Int) <= i_4 /\ i_4 <= (l.length:Int) /\ (-9223372036854775808 <= i_4 /\ i_4 <= 9223372036854775807),r3⟩) (((l.length:Int) - 0).toNat,0) [0] ⟨rfl,rfl,aM1,aM1,aM1⟩ ?_
 rintro ⟨r3,i_4⟩ ⟨hM5,hr6,hi7,hi8,hk9⟩
 refine QaA fun _ _ hL hA=>?_; dsimp only at hL hA; subst hL hA
 refine Fb 8 0 fun _=>Fo 0 fun ho11=>KS ?_
 refine Oq Vm (Oq Vm (Oq (Qba QcA) (Oq Qbh (KS ?_))))
 refine Kc ?_ ?_
 ·intro h12
  have g13:=dt h12
  obtain ⟨r14,rfl⟩:=scc (n:=r3) aM1
  refine KS ?_
  refine Kq [0,0,3,7,15,31,63,63,255,511,63,2047,4095,8191,16383,32767,65535,131071,131071,393215,1048575,2097151,131071,131071,12713983,29491199,67108863,134217727,268435455] Qco ?_
  refine Qv [] Vm (Qv [] Vm (Qv [0] (Vi QcA 0) ?_))
  have hb15:=ok1 (i:=i_4.toNat) ho11 rng
  refine Qv [0] (Qjc sh3 0) (Qv [] Qbh ?_)
  refine QaE (decide ((l.getD i_4.toNat 0) < 0)) ?_ ?_
  ·intro h16
   have g17:=dt h16
   refine Qb h16 [] Vm (Qs (Qs (Qs (Qs (Qs (Qs (Qv [] Vpt (Qv [] Vm (Qs ?_)))))))))
   refine Qs (Qs (Qs (Qs (Qs (Qs (Qs (Qs (Qs (Qs ?_)))))))))
   refine Qs (Qs (Qs (Qv [] Vpt ?_)))
   refine Qn ⟨by kernel_rfl,?_⟩
   refine Kt (KS ?_)
   refine Oq Va (KS ?_)
   have hR18:=q2 hM5 (.ret false) (by simp only [QaW,h12,h16,cs4])
   have hq:=q4 hrr false (by simp only [QbE,h12,h16,hR18,cs4]); subst hq
   exact Kr () rfl (.tmp rfl .nil) [] trivial
  intro h16
  have g19:=df h16
  refine Qb h16 [] Vm (Qv [] Vm (Qv [] Vm (Qv [0] (Vi QcA 0) ?_)))
  have hb20:=ok1 (i:=i_4.toNat) ho11 rng
  refine Qv [0] (Qjc sh3 0) (Qv [] Vm (Qv [] Qg8 (Qv [] Vpf ?_)))
  refine QaE (decide (n <= (l.getD i_4.toNat 0))) ?_ ?_
  ·intro h21
   have g22:=dt h21
   refine Qb h21 [] Vm (Qs (Qs (Qs (Qs (Qs (Qs (Qs (Qs (Qs ?_)))))))))
   refine Qs (Qs (Qs (Qs (Qs (Qv [] Vpt ?_)))))
   refine Qn ⟨by kernel_rfl,?_⟩
   refine Kt (KS ?_)
   refine Oq Va (KS ?_)
   have hR23:=q2 hM5 (.ret false) (by simp only [QaW,h12,h16,h21,cs4])
   have hq:=q4 hrr false (by simp only [QbE,h12,h16,h21,hR23,cs4]); subst hq
   exact Kr () rfl (.tmp rfl .nil) [] trivial
  intro h21
  have g24:=df h21
  refine Qb h21 [] Vm (Qv [] Vm (Qv [] Qgr ?_))
  refine QaE (decide (0 < i_4)) ?_ ?_
  ·intro h25
   have g26:=dt h25
   refine Qb h25 [] Vm (Qv [] Vm (Qv [] Vm (Qv [] QjU (Qv [0] (Vi QcA 0) ?_))))
   have hb27:=ok1 (i:=((i_4 - 1):Int).toNat) ho11 rng
   refine Qv [0] (Qjc sh3 0) (Qv [] Vm (Qv [] Vm (Qv [0] (Vi QcA 0) ?_)))
   have hb28:=ok1 (i:=i_4.toNat) ho11 rng
   refine Qv [0] (Qjc sh3 0) (Qv [] Qg8 (Qv [] Vpt (Qv [] Vpf ?_)))
   refine Qn ⟨by kernel_rfl,?_⟩
   refine Kc ?_ ?_
   ·intro h29
    have g30:=dt h29
    refine KS ?_
    refine Oq Va (KS ?_)
    have hR31:=q2 hM5 (.ret false) (by simp only [QaW,h12,h16,h21,h25,h29,cs4])
    have hq:=q4 hrr false (by simp only [QbE,h12,h16,h21,h25,h29,hR31,cs4]); subst hq
    exact Kr () rfl (.tmp rfl .nil) [] trivial
   intro h29
   have g32:=df h29
   refine KS ?_
   refine Oq Vm (Oq QaS (Oq Va (KS ?_)))
   exact Kg (r14,(i_4 + 1)) [0] ⟨(q3 hM5 (by simp only [QaW,h12,h16,h21,h25,h29,cs4])),aM1,aM1,aM1,aM1⟩
  intro h25
  have g33:=df h25
  refine Qb h25 [] Vm (Qs (Qs (Qs (Qs (Qs (Qs (Qs (Qs (Qs ?_)))))))))
  refine Qs (Qv [] Vpf (Qv [] Vpf ?_))
  refine Qn ⟨by kernel_rfl,?_⟩
  refine Kf (KS ?_)
  refine Oq Vm (Oq QaS (Oq Va (KS ?_)))
  exact Kg (r14,(i_4 + 1)) [0] ⟨(q3 hM5 (by simp only [QaW,h12,h16,h21,h25,cs4])),aM1,aM1,aM1,aM1⟩
 intro h12
 have g34:=df h12
 obtain rfl:r3 = 0:=by omega
 refine Ke ?_
 have hR35:=q2 hM5 (.brk ()) (by simp only [QaW,h12,cs4])
 refine KS ?_
 refine Oq Va (KS ?_)
 have hq:=q4 hrr true (by simp only [QbE,h12,hR35,cs4]); subst hq
 exact Kr () rfl (.tmp rfl .nil) [] trivial
theorem Qxy (a:QbA) (b:QbA) (Qja:Qaa a.From) (Qws:Qaa a.To) (QfG:Qaa b.From) (Qwt:Qaa b.To) (rr:Bool) (hrr:QcK a b = rr):FT Tryz.prog 107 #[.agg #[vi a.From,vi a.To],.agg #[vi b.From,vi b.To]] [] (fun g:Unit=>True) (fun g=>vb rr) (fun g=>[]):=by
 refine FTi Tryz.func107 fun w0 M0 F0=>?_
 unfold Qaa at Qja Qws QfG Qwt
 refine KS ?_
 refine Oa (Ab [vi a.From,vi a.To]) fun p1=>Oa (Ab [vi b.From,vi b.To]) fun p2=>Oq Va (KS ?_)
 refine Oq (Vfa Qci 1) (Oq (Qah sh3 1) (Oq (Vfa Qci 0) (Oq (Qah sh3 0) (Oq Qbh (Oq Vm ?_)))))
 refine Js 10 ?_ ?_
 ·intro h3
  have g4:=dt h3
  refine Osk (Osk (Osk (Osk (Osk (Osk (Osk (Osk (Osk (Osk ?_)))))))))
  refine Osk (Osk (Oq Vpt (Oq Va (KS ?_))))
  have hq:=q4 hrr true (by simp only [QcK,h3,cs4]); subst hq
  exact Kr () rfl (.tmp rfl .nil) [] trivial
 intro h3
 have g5:=df h3
 refine Oq (Vfa Qci 1) (Oq (Qah sh3 1) (Oq (Vfa Qci 0) (Oq (Qah sh3 0) (Oq QbW (Oq Vm ?_)))))
 refine Js 16 ?_ ?_
 ·intro h6
  have g7:=eq_of_beq h6
  refine Oq (Vfa QdH 1) (Oq (Qah sh3 1) (Oq (Vfa QdH 0) (Oq (Qah sh3 0) (Oq Qbh (Oq Vpt (Oq Vpf (Oq Va (KS ?_))))))))
  have hq:=q4 hrr (decide (a.To < b.To)) (by simp only [QcK,h3,h6,cs4]); subst hq
  exact Kr () rfl (.tmp rfl .nil) [] trivial
 intro h6
 have g8:=ne_of_beq_false h6
 refine Osk (Osk (Osk (Osk (Osk (Oq Vpf (Oq Vpf (Oq Va (KS ?_))))))))
 have hq:=q4 hrr false (by simp only [QcK,h3,h6,cs4]); subst hq
 exact Kr () rfl (.tmp rfl .nil) [] trivial
theorem QuI (t:Qad) (ta1:Option Addr) (tk1:Nat) (ta3:Option Addr) (tk3:Nat) (ta4:Option Addr) (tk4:Nat) (Qkl:Qaa t.Gen.Width) (Qkm:Qaa t.Kill.Width) (rr:Bool) (hrr:Qai t = rr):FT Tryz.prog 68 #[.agg #[vi t.Gen.Width,vl ta1 tk1 t.Gen.Words,vi t.Kill.Width,vl ta3 tk3 t.Kill.Words,vl ta4 tk4 t.Copies]] [S ta1 tk1 t.Gen.Words,S ta3 tk3 t.Kill.Words,S ta4 tk4 t.Copies] (fun g:Unit=>True) (fun g=>vb rr) (fun g=>[]):=by
 refine FTi Tryz.func68 fun w0 M0 F0=>?_
 unfold Qaa at Qkl Qkm
 refine Fb 8 0 fun _=>Fb 8 1 fun _=>Fb 16 2 fun _=>KS ?_
 refine Oa (Ab [vi t.Gen.Width,vl ta1 tk1 t.Gen.Words,vi t.Kill.Width,vl ta3 tk3 t.Kill.Words,vl ta4 tk4 t.Copies]) fun p4=>Oq Va (KS ?_)
 refine Oq (Vfa QdB 0) (Oq (Qmr Qax 0 [vi t.Gen.Width,vl ta1 tk1 t.Gen.Words]) ?_)
 refine QaJ (QaT t.Gen) fun rv5 hg6=>?_
 have hc7:=QsI t.Gen ta1 tk1 pre rv5 hg6
 refine Oc [1] Qsy hc7 ?_
 rintro - -
 refine Oq Qcy (Oq Vm ?_)
 refine Js 10 ?_ ?_
 ·intro h8
  have h10:=not_true h8
  refine Osk (Osk (Osk (Osk (Oq Vpt (Oq Vm (Osk (Osk (Osk (Osk ?_)))))))))
  refine Osk (Osk (Osk (Oq Vpt (Oq Vm (Osk (Osk (Osk (Osk (Oq Vpt ?_)))))))))
  refine KS ?_
  refine Kt (KS ?_)
  refine Oq Va (KS ?_)
  have hq:=q4 hrr false (by simp only [Qai,h8,h10,hg6,cs4]); subst hq
  exact Kr () rfl (.tmp rfl .nil) [] trivial
 intro h8
 have h13:=not_false h8
 refine Oq (Vfa Qgj 0) (Oq (Qmr Qax 0 [vi t.Kill.Width,vl ta3 tk3 t.Kill.Words]) ?_)
 refine QaJ (QaT t.Kill) fun rv15 hg16=>?_
 have hc17:=QsI t.Kill ta3 tk3 pre rv15 hg16
 refine Oc [2] Qsy hc17 ?_
 rintro - -
 refine Oq Qcy (Oq Vpf (Oq Vm ?_))
 refine Js 16 ?_ ?_
 ·intro h18
  have h20:=not_true h18
  refine Osk (Osk (Osk (Osk (Osk (Osk (Osk (Oq Vpt (Oq Vm (Osk ?_)))))))))
  refine Osk (Osk (Osk (Oq Vpt (KS ?_))))
  refine Kt (KS ?_)
  refine Oq Va (KS ?_)
  have hq:=q4 hrr false (by simp only [Qai,h8,h13,h18,h20,hg6,hg16,cs4]); subst hq
  exact Kr () rfl (.tmp rfl .nil) [] trivial
 intro h18
 have h23:=not_false h18
 refine Oq (Vfa QdB 0) (Oq (Qol Qbi 0) (Oq (Qah sh3 0) (Oq (Vfa Qgj 0) (Oq (Qol Qbi 0) (Oq (Qah sh3 0) (Oq QfZ (Oq Vpf (Oq Vm ?_))))))))
 refine Js 25 ?_ ?_
 ·intro h25
  have g26:=QaB h25
  refine Osk (Osk (Osk (Osk (Oq Vpt (KS ?_)))))
  refine Kt (KS ?_)
  refine Oq Va (KS ?_)
  have hq:=q4 hrr false (by simp only [Qai,h8,h13,h18,h23,h25,hg6,hg16,cs4]); subst hq
  exact Kr () rfl (.tmp rfl .nil) [] trivial
 intro h25
 have g27:=Qae h25
 refine Oq (Vfa Qeo 0) (Oq (Qah Qmn 0) (Oq (Qba QkQ) (Oq Qgr (Oq Vpf (KS ?_)))))
 refine Kc ?_ ?_
 ·intro h28
  have g29:=dt h28
  refine KS ?_
  refine Oq Va (KS ?_)
  have hq:=q4 hrr false (by simp only [Qai,h8,h13,h18,h23,h25,h28,hg6,hg16,cs4]); subst hq
  exact Kr () rfl (.tmp rfl .nil) [] trivial
 intro h28
 have g30:=df h28
 refine KS ?_
 refine Oq (Vfa QdB 0) (Oq (Qol Qbi 0) (Oq (Qah sh3 0) (Oq Va (KS ?_))))
 refine Oq Va (KS ?_)
 refine Kl (γ:=Nat × Int) (fun (r31,Qk4)=>⟨[(1,p4),(3,vi t.Gen.Width),(4,vi Qk4)],[pv p4 [vi t.Gen.Width,vl ta1 tk1 t.Gen.Words,vi t.Kill.Width,vl ta3 tk3 t.Kill.Words,vl ta4 tk4 t.Copies],S ta1 tk1 t.Gen.Words,S ta3 tk3 t.Kill.Words,S ta4 tk4 t.Copies],Qao t r31 Qk4 = Qao t (((t.Copies.length:Int) - 0).toNat) 0 /\ r31 = ((t.Copies.length:Int) - Qk4).toNat /\ (0:Int) <= Qk4 /\ Qk4 <= (t.Copies.length:Int) /\ (-9223372036854775808 <= Qk4 /\ Qk4 <= 9223372036854775807),r31⟩) (((t.Copies.length:Int) - 0).toNat,0) [0,1,2,3] ⟨rfl,rfl,aM1,aM1,aM1⟩ ?_
 rintro ⟨r31,Qk4⟩ ⟨hM33,hr34,hi35,hi36,hk37⟩
 refine QaA fun _ _ hL hA=>?_; dsimp only at hL hA; subst hL hA
 refine Fb 8 1 fun _=>Fb 8 2 fun _=>Fb 16 3 fun _=>KS ?_
 refine Oq Vm (Oq (Vfa Qeo 0) (Oq (Qah Qmn 0) (Oq (Qba QkQ) (Oq Qbh (KS ?_)))))
 refine Kc ?_ ?_
 ·intro h41
  have g42:=dt h41
  obtain ⟨r43,rfl⟩:=scc (n:=r31) aM1
  refine KS ?_
  refine Oq (Vfa Qeo 0) (Oq (Qah Qmn 0) (Oq Vm (Oq (Vi QkQ 3) ?_)))
  refine QcI Qk4.toNat 3 rfl rng fun hb44 hb45=>?_
  unfold Qaa at hb44 hb45
  refine Oq (Qau Qj9 0) (Oa (Al QtO [vi 0,vi 0]) fun p46=>Ost (Scl [0] Qj9 [vi ((t.Copies.getD Qk4.toNat default).From),vi ((t.Copies.getD Qk4.toNat default).To)]) (KS ?_))
  refine Jp 0 fun hp47=>?_
  refine QaE (decide ((t.Copies.getD Qk4.toNat default).From < 0)) ?_ ?_
  ·intro h48
   have g49:=dt h48
   refine Kq [0,1,3,7,15,31,15,127,255,511,1023,2047,4095,8191,16383,32767,65535,32767,262143,524287,1048575,2097151,4194303,8388607,16777215,33554431,16777215,83886079,268435455,536870911,16777215,2147483647,4294967295,8589934591,17179869183] Qco ?_
   refine Qv [0] (Vfa Qci 0) (Qv [1] (Qah sh3 0) (Qb h48 [] Qbh (Qv [] Vm (Qs (Qs (Qs (Qs (Qv [] Vpt (Qv [] Vm ?_)))))))))
   refine Qs (Qs (Qs (Qv [] Vpt (Qv [] Vm (Qs (Qs (Qs (Qs (Qv [] Vpt ?_)))))))))
   refine Qv [] Vm (Qs (Qs (Qs (Qs (Qs (Qs (Qs (Qs (Qs ?_)))))))))
   refine Qs (Qs (Qs (Qs (Qv [] Vpt ?_))))
   refine Qn ⟨by kernel_rfl,?_⟩
   refine Kt (KS ?_)
   refine Oq Va (KS ?_)
   have hR50:=q2 hM33 (.ret false) (by simp only [Qao,h41,h48,cs4])
   have hq:=q4 hrr false (by simp only [Qai,h8,h13,h18,h23,h25,h28,h41,h48,hg6,hg16,hR50,cs4]); subst hq
   exact Kr () rfl (.tmp rfl .nil) [] trivial
  intro h48
  have g51:=df h48
  refine QaE (decide (t.Gen.Width <= (t.Copies.getD Qk4.toNat default).From)) ?_ ?_
  ·intro h52
   have g53:=dt h52
   refine Kq [0,1,3,7,15,31,15,127,255,511,1023,2047,4095,8191,16383,32767,65535,32767,262143,524287,1048575,2097151,4194303,8388607,16777215,33554431,16777215,83886079,268435455,536870911,16777215,2147483647,4294967295,8589934591,17179869183] Qco ?_
   refine Qv [0] (Vfa Qci 0) (Qv [1] (Qah sh3 0) (Qb h48 [] Qbh (Qv [] Vm (Qv [0] (Vfa Qci 0) (Qv [1] (Qah sh3 0) (Qv [] Vm (Qb h52 [] Qg8 (Qv [] Vpf (Qv [] Vm ?_)))))))))
   refine Qs (Qs (Qs (Qv [] Vpt (Qv [] Vm (Qs (Qs (Qs (Qs (Qv [] Vpt ?_)))))))))
   refine Qv [] Vm (Qs (Qs (Qs (Qs (Qs (Qs (Qs (Qs (Qs ?_)))))))))
   refine Qs (Qs (Qs (Qs (Qv [] Vpt ?_))))
   refine Qn ⟨by kernel_rfl,?_⟩
   refine Kt (KS ?_)
   refine Oq Va (KS ?_)
   have hR54:=q2 hM33 (.ret false) (by simp only [Qao,h41,h48,h52,cs4])
   have hq:=q4 hrr false (by simp only [Qai,h8,h13,h18,h23,h25,h28,h41,h48,h52,hg6,hg16,hR54,cs4]); subst hq
   exact Kr () rfl (.tmp rfl .nil) [] trivial
  intro h52
  have g55:=df h52
  refine QaE (decide ((t.Copies.getD Qk4.toNat default).To < 0)) ?_ ?_
  ·intro h56
   have g57:=dt h56
   refine Kq [0,1,3,7,15,31,15,127,255,511,1023,2047,4095,8191,16383,32767,65535,32767,262143,524287,1048575,2097151,4194303,8388607,16777215,33554431,16777215,83886079,268435455,536870911,16777215,2147483647,4294967295,8589934591,17179869183] Qco ?_
   refine Qv [0] (Vfa Qci 0) (Qv [1] (Qah sh3 0) (Qb h48 [] Qbh (Qv [] Vm (Qv [0] (Vfa Qci 0) (Qv [1] (Qah sh3 0) (Qv [] Vm (Qb h52 [] Qg8 (Qv [] Vpf (Qv [] Vm ?_)))))))))
   refine Qv [0] (Vfa QdH 0) (Qv [1] (Qah sh3 0) (Qb h56 [] Qbh (Qv [] Vpf (Qv [] Vm (Qs (Qs (Qs (Qs (Qv [] Vpt ?_)))))))))
   refine Qv [] Vm (Qs (Qs (Qs (Qs (Qs (Qs (Qs (Qs (Qs ?_)))))))))
   refine Qs (Qs (Qs (Qs (Qv [] Vpt ?_))))
   refine Qn ⟨by kernel_rfl,?_⟩
   refine Kt (KS ?_)
   refine Oq Va (KS ?_)
   have hR58:=q2 hM33 (.ret false) (by simp only [Qao,h41,h48,h52,h56,cs4])
   have hq:=q4 hrr false (by simp only [Qai,h8,h13,h18,h23,h25,h28,h41,h48,h52,h56,hg6,hg16,hR58,cs4]); subst hq
   exact Kr () rfl (.tmp rfl .nil) [] trivial
  intro h56
  have g59:=df h56
  refine QaE (decide (t.Gen.Width <= (t.Copies.getD Qk4.toNat default).To)) ?_ ?_
  ·intro h60
   have g61:=dt h60
   refine Kq [0,1,3,7,15,31,15,127,255,511,1023,2047,4095,8191,16383,32767,65535,32767,262143,524287,1048575,2097151,4194303,8388607,16777215,33554431,16777215,83886079,268435455,536870911,16777215,2147483647,4294967295,8589934591,17179869183] Qco ?_
   refine Qv [0] (Vfa Qci 0) (Qv [1] (Qah sh3 0) (Qb h48 [] Qbh (Qv [] Vm (Qv [0] (Vfa Qci 0) (Qv [1] (Qah sh3 0) (Qv [] Vm (Qb h52 [] Qg8 (Qv [] Vpf (Qv [] Vm ?_)))))))))
   refine Qv [0] (Vfa QdH 0) (Qv [1] (Qah sh3 0) (Qb h56 [] Qbh (Qv [] Vpf (Qv [] Vm (Qv [0] (Vfa QdH 0) (Qv [1] (Qah sh3 0) (Qv [] Vm (Qb h60 [] Qg8 (Qv [] Vpf ?_)))))))))
   refine Qv [] Vm (Qs (Qs (Qs (Qs (Qs (Qs (Qs (Qs (Qs ?_)))))))))
   refine Qs (Qs (Qs (Qs (Qv [] Vpt ?_))))
   refine Qn ⟨by kernel_rfl,?_⟩
   refine Kt (KS ?_)
   refine Oq Va (KS ?_)
   have hR62:=q2 hM33 (.ret false) (by simp only [Qao,h41,h48,h52,h56,h60,cs4])
   have hq:=q4 hrr false (by simp only [Qai,h8,h13,h18,h23,h25,h28,h41,h48,h52,h56,h60,hg6,hg16,hR62,cs4]); subst hq
   exact Kr () rfl (.tmp rfl .nil) [] trivial
  intro h60
  have g63:=df h60
  refine QaE (decide (0 < Qk4)) ?_ ?_
  ·intro h64
   have g65:=dt h64
   refine QcI ((Qk4 - 1):Int).toNat 6 rfl rng fun hb66 hb67=>?_
   unfold Qaa at hb66 hb67
   refine Qam [0,1,3,7,15,31,15,127,255,511,1023,2047,4095,8191,16383,32767,65535,32767,262143,524287,1048575,2097151,4194303,8388607,16777215,33554431,16777215,83886079,268435455,536870911,16777215,2147483647,4294967295,8589934591,17179869183] Qco ?_
   refine Dv [1] (Vfa Qci 0) (Dv [2] (Qah sh3 0) (Db h48 [] Qbh (Dv [] Vm (Dv [1] (Vfa Qci 0) (Dv [2] (Qah sh3 0) (Dv [] Vm (Db h52 [] Qg8 (Dv [] Vpf (Dv [] Vm ?_)))))))))
   refine Dv [1] (Vfa QdH 0) (Dv [2] (Qah sh3 0) (Db h56 [] Qbh (Dv [] Vpf (Dv [] Vm (Dv [1] (Vfa QdH 0) (Dv [2] (Qah sh3 0) (Dv [] Vm (Db h60 [] Qg8 (Dv [] Vpf ?_)))))))))
   refine Dv [] Vm (Dv [] Vm (Db h64 [] Qgr (Dv [] Vm (Dv [4] (Vfa Qeo 0) (Dv [4] (Qah Qmn 0) (Dv [] Vm (Dv [] QjU (Dv [7] (Vi QkQ 0) (Dv [0] (Qau Qj9 0) ?_)))))))))
   refine Dv [2] (Qau Qj9 0) ?_
   refine QaJ (QcK (t.Copies.getD ((Qk4 - 1):Int).toNat default) (t.Copies.getD Qk4.toNat default)) fun rv68 hg69=>?_
   refine Dx [] [] [0] (fun G=>vb rv68) [fun G=>SP.fact (True)] (fun G=>xC [] QxU (Qxy ((t.Copies.getD ((Qk4 - 1):Int).toNat default)) ((t.Copies.getD Qk4.toNat default)) pre pre pre pre rv68 hg69)) (Dv [] Qcy (Dv [] Vpt (Dv [] Vpf ?_)))
   refine Dn ⟨by kernel_rfl,fun G=>?_⟩
   refine Jw2 [(1,p4),(3,vi t.Gen.Width),(4,vi Qk4),(80,vb (!rv68))] [0,1,2,3,4,5,6,7] [SP.fact (True)] ?_
   refine Jk [0,2,2,3,4,5,6] ?_
   refine Kc ?_ ?_
   ·intro h70
    have h72:=not_true h70
    refine KS ?_
    refine Oq Va (KS ?_)
    have hR74:=q2 hM33 (.ret false) (by simp only [Qao,h41,h48,h52,h56,h60,h64,h70,h72,hg69,cs4])
    have hq:=q4 hrr false (by simp only [Qai,h8,h13,h18,h23,h25,h28,h41,h48,h52,h56,h60,h64,h70,h72,hg6,hg16,hg69,hR74,cs4]); subst hq
    exact Kr () rfl (.tmp rfl .nil) [] trivial
   intro h70
   have h76:=not_false h70
   refine KS ?_
   refine Oq Vm (Oq QaS (Oq Va (KS ?_)))
   exact Kg (r43,(Qk4 + 1)) [3,4,5,6] ⟨(q3 hM33 (by simp only [Qao,h41,h48,h52,h56,h60,h64,h70,h76,hg69,cs4])),aM1,aM1,aM1,aM1⟩
  intro h64
  have g78:=df h64
  refine Kq [0,1,3,7,15,31,15,127,255,511,1023,2047,4095,8191,16383,32767,65535,32767,262143,524287,1048575,2097151,4194303,8388607,16777215,33554431,16777215,83886079,268435455,536870911,16777215,2147483647,4294967295,8589934591,17179869183] Qco ?_
  refine Qv [0] (Vfa Qci 0) (Qv [1] (Qah sh3 0) (Qb h48 [] Qbh (Qv [] Vm (Qv [0] (Vfa Qci 0) (Qv [1] (Qah sh3 0) (Qv [] Vm (Qb h52 [] Qg8 (Qv [] Vpf (Qv [] Vm ?_)))))))))
  refine Qv [0] (Vfa QdH 0) (Qv [1] (Qah sh3 0) (Qb h56 [] Qbh (Qv [] Vpf (Qv [] Vm (Qv [0] (Vfa QdH 0) (Qv [1] (Qah sh3 0) (Qv [] Vm (Qb h60 [] Qg8 (Qv [] Vpf ?_)))))))))
  refine Qv [] Vm (Qv [] Vm (Qb h64 [] Qgr (Qv [] Vm (Qs (Qs (Qs (Qs (Qs (Qs ?_)))))))))
  refine Qs (Qs (Qs (Qv [] Vpf (Qv [] Vpf ?_))))
  refine Qn ⟨by kernel_rfl,?_⟩
  refine Kf (KS ?_)
  refine Oq Vm (Oq QaS (Oq Va (KS ?_)))
  exact Kg (r43,(Qk4 + 1)) [3,4,5,6] ⟨(q3 hM33 (by simp only [Qao,h41,h48,h52,h56,h60,h64,cs4])),aM1,aM1,aM1,aM1⟩
 intro h41
 have g79:=df h41
 obtain rfl:r31 = 0:=by omega
 refine Ke ?_
 have hR80:=q2 hM33 (.brk ()) (by simp only [Qao,h41,cs4])
 refine KS ?_
 refine Oq Va (KS ?_)
 have hq:=q4 hrr true (by simp only [Qai,h8,h13,h18,h23,h25,h28,h41,hg6,hg16,hR80,cs4]); subst hq
 exact Kr () rfl (.tmp rfl .nil) [] trivial
theorem QwA (s:Qac) (sa1:Option Addr) (sk1:Nat) (sa2:Option Addr) (sk2:Nat) (sa3:Option Addr) (sk3:Nat) (Qcc:Qaa s.Width) (rr:Bool) (hrr:Qa1 s = rr):FT Tryz.prog 36 #[.agg #[vi s.Width,vl sa1 sk1 s.Deps,vl sa2 sk2 s.Transfers,vl sa3 sk3 s.Boundary]] [S sa1 sk1 s.Deps,S sa2 sk2 s.Transfers,S sa3 sk3 s.Boundary] (fun g:Unit=>True) (fun g=>vb rr) (fun g=>[]):=by
 refine FTi Tryz.func36 fun w0 M0 F0=>?_
 unfold Qaa at Qcc
 refine Fb 24 0 fun _=>Fb 88 1 fun _=>Fb 32 2 fun _=>KS ?_
 refine Oa (Ab [vi s.Width,vl sa1 sk1 s.Deps,vl sa2 sk2 s.Transfers,vl sa3 sk3 s.Boundary]) fun p4=>Oq Va (KS ?_)
 refine Oq (Vfa Qc4 0) (Oq (Qah Qjd 0) (Oq (Qba Qc6) (Oq Va (KS ?_))))
 refine Oq (Vfa QbR 0) (Oq (Qah sh3 0) (Oq Qbh (Oq Vm ?_)))
 refine Js 12 ?_ ?_
 ·intro h5
  have g6:=dt h5
  refine Osk (Osk (Osk (Oq Vpt (Oq Vm (Osk (Osk (Oq Vpt (Oq Vm (Osk ?_)))))))))
  refine Osk (Oq Vpt (Oq Vm (Osk (Osk (Osk (Osk (Osk (Oq Vpt (Oq Vm ?_)))))))))
  refine Osk (Osk (Osk (Osk (Osk (Oq Vpt (KS ?_))))))
  refine Kt (KS ?_)
  refine Oq Va (KS ?_)
  have hq:=q4 hrr false (by simp only [Qa1,h5,cs4]); subst hq
  exact Kr () rfl (.tmp rfl .nil) [] trivial
 intro h5
 have g7:=df h5
 refine Oq (Vfa QbR 0) (Oq (Qah sh3 0) (Oq Qgr (Oq Vpf (Oq Vm ?_))))
 refine Js 17 ?_ ?_
 ·intro h8
  have g9:=dt h8
  refine Osk (Osk (Oq Vpt (Oq Vm (Osk (Osk (Oq Vpt (Oq Vm (Osk (Osk ?_)))))))))
  refine Osk (Osk (Osk (Oq Vpt (Oq Vm (Osk (Osk (Osk (Osk (Osk ?_)))))))))
  refine Oq Vpt (KS ?_)
  refine Kt (KS ?_)
  refine Oq Va (KS ?_)
  have hq:=q4 hrr false (by simp only [Qa1,h5,h8,cs4]); subst hq
  exact Kr () rfl (.tmp rfl .nil) [] trivial
 intro h8
 have g10:=df h8
 refine Oq Vm (Oq Qbh (Oq Vpf (Oq Vm ?_)))
 refine Js 21 ?_ ?_
 ·intro h11
  have g12:=dt h11
  refine Osk (Osk (Oq Vpt (Oq Vm (Osk (Osk (Osk (Osk (Osk (Oq Vpt ?_)))))))))
  refine Oq Vm (Osk (Osk (Osk (Osk (Osk (Oq Vpt (KS ?_)))))))
  refine Kt (KS ?_)
  refine Oq Va (KS ?_)
  have hq:=q4 hrr false (by simp only [Qa1,h5,h8,h11,cs4]); subst hq
  exact Kr () rfl (.tmp rfl .nil) [] trivial
 intro h11
 have g13:=df h11
 refine Oq Vm (Oq Qgr (Oq Vpf (Oq Vm ?_)))
 refine Js 25 ?_ ?_
 ·intro h14
  have g15:=dt h14
  refine Osk (Osk (Osk (Osk (Osk (Oq Vpt (Oq Vm (Osk (Osk (Osk ?_)))))))))
  refine Osk (Osk (Oq Vpt (KS ?_)))
  refine Kt (KS ?_)
  refine Oq Va (KS ?_)
  have hq:=q4 hrr false (by simp only [Qa1,h5,h8,h11,h14,cs4]); subst hq
  exact Kr () rfl (.tmp rfl .nil) [] trivial
 intro h14
 have g16:=df h14
 refine Oq (Vfa QbI 0) (Oq (Qah QgG 0) (Oq (Qba Qfr) (Oq Vm (Oq QfZ (Oq Vpf (Oq Vm ?_))))))
 refine Js 32 ?_ ?_
 ·intro h17
  have g18:=QaB h17
  refine Osk (Osk (Osk (Osk (Osk (Oq Vpt (KS ?_))))))
  refine Kt (KS ?_)
  refine Oq Va (KS ?_)
  have hq:=q4 hrr false (by simp only [Qa1,h5,h8,h11,h14,h17,cs4]); subst hq
  exact Kr () rfl (.tmp rfl .nil) [] trivial
 intro h17
 have g19:=Qae h17
 refine Oq (Vfa QcW 0) (Oq (Qah QjR 0) (Oq (Qba QiI) (Oq Vm (Oq QfZ (Oq Vpf (KS ?_))))))
 refine Kc ?_ ?_
 ·intro h20
  have g21:=QaB h20
  refine KS ?_
  refine Oq Va (KS ?_)
  have hq:=q4 hrr false (by simp only [Qa1,h5,h8,h11,h14,h17,h20,cs4]); subst hq
  exact Kr () rfl (.tmp rfl .nil) [] trivial
 intro h20
 have g22:=Qae h20
 refine KS ?_
 refine Oq Va (KS ?_)
 refine Oq Va (KS ?_)
 refine Kl (γ:=Nat × Int × Int) (fun (r23,Qdj,Qcx)=>⟨[(1,p4),(3,vi (s.Boundary.length:Int)),(4,vi Qdj),(5,vi Qcx)],[pv p4 [vi s.Width,vl sa1 sk1 s.Deps,vl sa2 sk2 s.Transfers,vl sa3 sk3 s.Boundary],S sa1 sk1 s.Deps,S sa2 sk2 s.Transfers,S sa3 sk3 s.Boundary],Qbl s r23 Qdj Qcx = Qbl s (((s.Boundary.length:Int) - 0).toNat) 0 0 /\ r23 = ((s.Boundary.length:Int) - Qcx).toNat /\ (0:Int) <= Qcx /\ Qcx <= (s.Boundary.length:Int) /\ (-9223372036854775808 <= Qdj /\ Qdj <= 9223372036854775807) /\ (-9223372036854775808 <= Qcx /\ Qcx <= 9223372036854775807) /\ 0 <= Qdj /\ Qdj <= Qcx * 17592186044416,r23⟩) (((s.Boundary.length:Int) - 0).toNat,0,0) [0,1,2,3] ⟨rfl,rfl,aM1,aM1,aM1,aM1,iv0⟩ ?_
 rintro ⟨r23,Qdj,Qcx⟩ ⟨hM26,hr27,hi28,hi29,hk30,hk31,hv32⟩
 refine QaA fun _ _ hL hA=>?_; dsimp only at hL hA; subst hL hA
 refine Fb 24 1 fun _=>Fb 88 2 fun _=>Fb 32 3 fun _=>KS ?_
 refine Oq Vm (Oq Vm (Oq Qbh (KS ?_)))
 refine Kc ?_ ?_
 ·intro h36
  have g37:=dt h36
  obtain ⟨r38,rfl⟩:=scc (n:=r23) aM1
  refine KS ?_
  refine QdV Qcx.toNat 1 rfl rng fun a39 k40=>?_
  refine Fb 8 1 fun _=>Fo 1 fun ho42=>?_
  refine QaJ (QbE (s.Deps.getD Qcx.toNat []) (s.Boundary.length:Int)) fun rv43 hg44=>?_
  refine QaE (!rv43) ?_ ?_
  ·intro h45
   have h47:=not_true h45
   refine Qam [0,1,0,7,15,0,63,127,255,511,1023,511,4095,8191,16383,32767,65535,131071,262143,524287,262143,2097151,4194303,8388607,16777215,262143,33816575,134217727,268435455,536870911,1073741823,2147483647,1073741823,8589934591,17179869183,34359738367,68719476735,137438953471,274877906943,549755813887,1099511627775,549755813887,4398046511103,8796093022207,17592186044415,549755813887,35734127902719,140737488355327,281474976710655] Qco ?_
   refine Dv [2] (Vfa QbI 0) (Dv [2] (Qah QgG 0) (Dv [] Vm (Dv [3] (Vi Qfr 0) (Dv [0] (Vld QjI 0) (Dv [] Vm (Dx [1] [] [1,0] (fun G=>vb rv43) [fun G=>SP.fact (True)] (fun G=>xC [0] Qwx (QwQ ((s.Deps.getD Qcx.toNat [])) a39 k40 ((s.Boundary.length:Int)) pre rv43 hg44)) (Db h45 [] Qcy (Dv [] Vm (Ds ?_)))))))))
   refine Ds (Ds (Ds (Ds (Ds (Ds (Dv [] Vpt (Dv [] Vm (Ds (Ds ?_)))))))))
   refine Ds (Ds (Ds (Ds (Ds (Ds (Ds (Ds (Dv [] Vpt (Dv [] Vm ?_)))))))))
   refine Ds (Ds (Ds (Ds (Ds (Ds (Ds (Dv [] Vpt (Dv [] Vm (Ds ?_)))))))))
   refine Ds (Ds (Ds (Ds (Ds (Ds (Ds (Ds (Dv [] Vpt ?_))))))))
   refine Dn ⟨by kernel_rfl,fun G=>?_⟩
   refine Jw2 [(1,p4),(3,vi (s.Boundary.length:Int)),(4,vi Qdj),(5,vi Qcx),(92,vb true)] [0,1,2,3,4,5] [SP.fact (True)] ?_
   refine Jk [0,1,2,3,4,5] (Kt ?_)
   refine KS ?_
   refine Oq Va (KS ?_)
   have hR49:=q2 hM26 (.ret false) (by simp only [Qbl,h36,h45,h47,hg44,cs4])
   have hq:=q4 hrr false (by simp only [Qa1,h5,h8,h11,h14,h17,h20,h36,h45,h47,hg44,hR49,cs4]); subst hq
   exact Kr () rfl (.tmp rfl .nil) [] trivial
  intro h45
  have h51:=not_false h45
  refine QaU Qcx.toNat 4 rfl rng fun a53 k54 a55 k56 a57 k58 hb59 hb60=>?_
  unfold Qaa at hb59 hb60
  refine Fb 8 1 fun _=>Fb 8 2 fun _=>Fb 16 3 fun _=>?_
  refine QaJ (Qai (s.Transfers.getD Qcx.toNat default)) fun rv64 hg65=>?_
  refine QaE (!rv64) ?_ ?_
  ·intro h66
   have h68:=not_true h66
   refine Qam [0,1,0,7,15,0,63,127,255,511,1023,511,4095,8191,16383,32767,65535,131071,262143,524287,262143,2097151,4194303,8388607,16777215,262143,33816575,134217727,268435455,536870911,1073741823,2147483647,1073741823,8589934591,17179869183,34359738367,68719476735,137438953471,274877906943,549755813887,1099511627775,549755813887,4398046511103,8796093022207,17592186044415,549755813887,35734127902719,140737488355327,281474976710655] Qco ?_
   refine Dv [6] (Vfa QbI 0) (Dv [6] (Qah QgG 0) (Dv [] Vm (Dv [7] (Vi Qfr 0) (Dv [4] (Vld QjI 0) (Dv [] Vm (Dx [5] [] [1,0] (fun G=>vb rv43) [fun G=>SP.fact (True)] (fun G=>xC [0] Qwx (QwQ ((s.Deps.getD Qcx.toNat [])) a39 k40 ((s.Boundary.length:Int)) pre rv43 hg44)) (Db h45 [] Qcy (Dv [] Vm (Dv [6] (Vfa QcW 0) ?_)))))))))
   refine Dv [6] (Qah QjR 0) (Dv [] Vm (Dv [8] (Vi QiI 0) (Dv [0] (Qau Qek 0) (Dx [1,2,3] [] [1,2,3,0] (fun G=>vb rv64) [fun G=>SP.fact (True)] (fun G=>xC [0,1,2] QuD (QuI ((s.Transfers.getD Qcx.toNat default)) a53 k54 a55 k56 a57 k58 pre pre rv64 hg65)) (Db h66 [] Qcy (Dv [] Vpf (Dv [] Vm (Ds (Ds ?_)))))))))
   refine Ds (Ds (Ds (Ds (Ds (Ds (Ds (Ds (Dv [] Vpt (Dv [] Vm ?_)))))))))
   refine Ds (Ds (Ds (Ds (Ds (Ds (Ds (Dv [] Vpt (Dv [] Vm (Ds ?_)))))))))
   refine Ds (Ds (Ds (Ds (Ds (Ds (Ds (Ds (Dv [] Vpt ?_))))))))
   refine Dn ⟨by kernel_rfl,fun G=>?_⟩
   refine Jw2 [(1,p4),(3,vi (s.Boundary.length:Int)),(4,vi Qdj),(5,vi Qcx),(92,vb true)] [0,1,2,3,4,5,6,7,8,9] [SP.fact (True),SP.fact (True)] ?_
   refine Jk [0,1,2,3,4,5,6,7,8,9] (Kt ?_)
   refine KS ?_
   refine Oq Va (KS ?_)
   have hR70:=q2 hM26 (.ret false) (by simp only [Qbl,h36,h45,h51,h66,h68,hg44,hg65,cs4])
   have hq:=q4 hrr false (by simp only [Qa1,h5,h8,h11,h14,h17,h20,h36,h45,h51,h66,h68,hg44,hg65,hR70,cs4]); subst hq
   exact Kr () rfl (.tmp rfl .nil) [] trivial
  intro h66
  have h72:=not_false h66
  refine QaE (((s.Transfers.getD Qcx.toNat default).Gen).Width != s.Width) ?_ ?_
  ·intro h74
   have g75:=QaB h74
   refine Qam [0,1,0,7,15,0,63,127,255,511,1023,511,4095,8191,16383,32767,65535,131071,262143,524287,262143,2097151,4194303,8388607,16777215,262143,33816575,134217727,268435455,536870911,1073741823,2147483647,1073741823,8589934591,17179869183,34359738367,68719476735,137438953471,274877906943,549755813887,1099511627775,549755813887,4398046511103,8796093022207,17592186044415,549755813887,35734127902719,140737488355327,281474976710655] Qco ?_
   refine Dv [6] (Vfa QbI 0) (Dv [6] (Qah QgG 0) (Dv [] Vm (Dv [7] (Vi Qfr 0) (Dv [4] (Vld QjI 0) (Dv [] Vm (Dx [5] [] [1,0] (fun G=>vb rv43) [fun G=>SP.fact (True)] (fun G=>xC [0] Qwx (QwQ ((s.Deps.getD Qcx.toNat [])) a39 k40 ((s.Boundary.length:Int)) pre rv43 hg44)) (Db h45 [] Qcy (Dv [] Vm (Dv [6] (Vfa QcW 0) ?_)))))))))
   refine Dv [6] (Qah QjR 0) (Dv [] Vm (Dv [8] (Vi QiI 0) (Dv [0] (Qau Qek 0) (Dx [1,2,3] [] [1,2,3,0] (fun G=>vb rv64) [fun G=>SP.fact (True)] (fun G=>xC [0,1,2] QuD (QuI ((s.Transfers.getD Qcx.toNat default)) a53 k54 a55 k56 a57 k58 pre pre rv64 hg65)) (Db h66 [] Qcy (Dv [] Vpf (Dv [] Vm (Dv [6] (Vfa QcW 0) (Dv [6] (Qah QjR 0) ?_)))))))))
   refine Dv [] Vm (Dv [8] (Vi QiI 0) (Dv [0] (Vfa QdB 0) (Dv [0] (Qol Qbi 0) (Dv [0] (Qah sh3 0) (Dv [6] (Vfa QbR 0) (Dv [6] (Qah sh3 0) (Db h74 [] QfZ (Dv [] Vpf (Dv [] Vm ?_)))))))))
   refine Ds (Ds (Ds (Ds (Ds (Ds (Ds (Dv [] Vpt (Dv [] Vm (Ds ?_)))))))))
   refine Ds (Ds (Ds (Ds (Ds (Ds (Ds (Ds (Dv [] Vpt ?_))))))))
   refine Dn ⟨by kernel_rfl,fun G=>?_⟩
   refine Jw2 [(1,p4),(3,vi (s.Boundary.length:Int)),(4,vi Qdj),(5,vi Qcx),(92,vb true)] [0,1,2,3,4,5,6,7,8,9] [SP.fact (True),SP.fact (True)] ?_
   refine Jk [0,1,2,3,4,5,6,7,8,9] (Kt ?_)
   refine KS ?_
   refine Oq Va (KS ?_)
   have hR76:=q2 hM26 (.ret false) (by simp only [Qbl,h36,h45,h51,h66,h72,h74,hg44,hg65,cs4])
   have hq:=q4 hrr false (by simp only [Qa1,h5,h8,h11,h14,h17,h20,h36,h45,h51,h66,h72,h74,hg44,hg65,hR76,cs4]); subst hq
   exact Kr () rfl (.tmp rfl .nil) [] trivial
  intro h74
  have g77:=Qae h74
  refine Qa3 Qcx.toNat 9 rfl rng fun a78 k79 hb80=>?_
  unfold Qaa at hb80
  refine Fb 8 1 fun _=>?_
  refine Qam [0,1,0,7,15,0,63,127,255,511,1023,511,4095,8191,16383,32767,65535,131071,262143,524287,262143,2097151,4194303,8388607,16777215,262143,33816575,134217727,268435455,536870911,1073741823,2147483647,1073741823,8589934591,17179869183,34359738367,68719476735,137438953471,274877906943,549755813887,1099511627775,549755813887,4398046511103,8796093022207,17592186044415,549755813887,35734127902719,140737488355327,281474976710655] Qco ?_
  refine Dv [8] (Vfa QbI 0) (Dv [8] (Qah QgG 0) (Dv [] Vm (Dv [9] (Vi Qfr 0) (Dv [6] (Vld QjI 0) (Dv [] Vm (Dx [7] [] [1,0] (fun G=>vb rv43) [fun G=>SP.fact (True)] (fun G=>xC [0] Qwx (QwQ ((s.Deps.getD Qcx.toNat [])) a39 k40 ((s.Boundary.length:Int)) pre rv43 hg44)) (Db h45 [] Qcy (Dv [] Vm (Dv [8] (Vfa QcW 0) ?_)))))))))
  refine Dv [8] (Qah QjR 0) (Dv [] Vm (Dv [10] (Vi QiI 0) (Dv [2] (Qau Qek 0) (Dx [3,4,5] [] [1,2,3,0] (fun G=>vb rv64) [fun G=>SP.fact (True)] (fun G=>xC [0,1,2] QuD (QuI ((s.Transfers.getD Qcx.toNat default)) a53 k54 a55 k56 a57 k58 pre pre rv64 hg65)) (Db h66 [] Qcy (Dv [] Vpf (Dv [] Vm (Dv [8] (Vfa QcW 0) (Dv [8] (Qah QjR 0) ?_)))))))))
  refine Dv [] Vm (Dv [10] (Vi QiI 0) (Dv [2] (Vfa QdB 0) (Dv [2] (Qol Qbi 0) (Dv [2] (Qah sh3 0) (Dv [8] (Vfa QbR 0) (Dv [8] (Qah sh3 0) (Db h74 [] QfZ (Dv [] Vpf (Dv [] Vm ?_)))))))))
  refine Dv [8] (Vfa Qc4 0) (Dv [8] (Qah Qjd 0) (Dv [] Vm (Dv [11] (Vi Qc6 0) (Dv [0] (Qau Qax 0) ?_))))
  refine QaJ (QaT (s.Boundary.getD Qcx.toNat default)) fun rv82 hg83=>?_
  refine Dx [1] [] [1,0] (fun G=>vb rv82) [fun G=>SP.fact (True)] (fun G=>xC [0] Qsy (QsI ((s.Boundary.getD Qcx.toNat default)) a78 k79 pre rv82 hg83)) (Dv [] Qcy (Dv [] Vpf ?_))
  refine QaE (!rv82) ?_ ?_
  ·intro h84
   have h86:=not_true h84
   refine Db h84 [] Vm (Ds (Ds (Ds (Ds (Ds (Ds (Ds (Ds (Ds ?_)))))))))
   refine Dv [] Vpt ?_
   refine Dn ⟨by kernel_rfl,fun G=>?_⟩
   refine Jw2 [(1,p4),(3,vi (s.Boundary.length:Int)),(4,vi Qdj),(5,vi Qcx),(92,vb true)] [0,1,2,3,4,5,6,7,8,9,10,11] [SP.fact (True),SP.fact (True),SP.fact (True)] ?_
   refine Jk [0,1,2,3,4,5,6,7,8,9,10,11] (Kt ?_)
   refine KS ?_
   refine Oq Va (KS ?_)
   have hR88:=q2 hM26 (.ret false) (by simp only [Qbl,h36,h45,h51,h66,h72,h74,h84,h86,hg44,hg65,hg83,cs4])
   have hq:=q4 hrr false (by simp only [Qa1,h5,h8,h11,h14,h17,h20,h36,h45,h51,h66,h72,h74,h84,h86,hg44,hg65,hg83,hR88,cs4]); subst hq
   exact Kr () rfl (.tmp rfl .nil) [] trivial
  intro h84
  have h90:=not_false h84
  refine Db h84 [] Vm (Dv [8] (Vfa Qc4 0) (Dv [8] (Qah Qjd 0) (Dv [] Vm (Dv [11] (Vi Qc6 0) (Dv [0] (Vfa Qbi 0) (Dv [0] (Qah sh3 0) (Dv [8] (Vfa QbR 0) (Dv [8] (Qah sh3 0) (Dv [] QfZ ?_)))))))))
  refine Dv [] Vpf ?_
  refine Dn ⟨by kernel_rfl,fun G=>?_⟩
  refine Jw2 [(1,p4),(3,vi (s.Boundary.length:Int)),(4,vi Qdj),(5,vi Qcx),(92,vb ((s.Boundary.getD Qcx.toNat default).Width != s.Width))] [0,1,2,3,4,5,6,7,8,9,10,11] [SP.fact (True),SP.fact (True),SP.fact (True)] ?_
  refine Jk [0,1,2,3,4,5,6,7,8,9,10,11] ?_
  refine Kc ?_ ?_
  ·intro h92
   have g93:=QaB h92
   refine KS ?_
   refine Oq Va (KS ?_)
   have hR94:=q2 hM26 (.ret false) (by simp only [Qbl,h36,h45,h51,h66,h72,h74,h84,h90,h92,hg44,hg65,hg83,cs4])
   have hq:=q4 hrr false (by simp only [Qa1,h5,h8,h11,h14,h17,h20,h36,h45,h51,h66,h72,h74,h84,h90,h92,hg44,hg65,hg83,hR94,cs4]); subst hq
   exact Kr () rfl (.tmp rfl .nil) [] trivial
  intro h92
  have g95:=Qae h92
  refine KS ?_
  refine Oq Vm (Oq (Vfa QbI 8) (Oq (Qah QgG 8) (Oq Vm (Oq (Vi Qfr 9) (Oq (Vld QjI 6) (Oq (Qba QcA) (Oq QaS (Oq Va (KS ?_)))))))))
  refine Oq Vm (Oq QaS (Oq Va (KS ?_)))
  exact Kg (r38,(Qdj + ((s.Deps.getD Qcx.toNat []).length:Int)),(Qcx + 1)) [8,9,10,11] ⟨(q3 hM26 (by simp only [Qbl,h36,h45,h51,h66,h72,h74,h84,h90,h92,hg44,hg65,hg83,cs4])),aM1,aM1,aM1,aM1,aM1,iv1⟩
 intro h36
 have g96:=df h36
 obtain rfl:r23 = 0:=by omega
 refine Ke ?_
 have hR97:=q2 hM26 (.brk Qdj) (by simp only [Qbl,h36,cs4])
 refine KS ?_
 refine Oq Vm (Oq QrL (Oq Va (KS ?_)))
 have hq:=q4 hrr (decide (Qdj <= 1024)) (by simp only [Qa1,h5,h8,h11,h14,h17,h20,h36,hR97,cs4]); subst hq
 exact Kr () rfl (.tmp rfl .nil) [] trivial
theorem QwD (s:Qac) (sa1:Option Addr) (sk1:Nat) (sa2:Option Addr) (sk2:Nat) (sa3:Option Addr) (sk3:Nat) (n:Int) (bit:Int) (Qcc:Qaa s.Width) (Qgv:Qaa n) (Qfj:Qaa bit) (rr:Int) (hrr:QaL s n bit = rr):FT Tryz.prog 32 #[.agg #[vi s.Width,vl sa1 sk1 s.Deps,vl sa2 sk2 s.Transfers,vl sa3 sk3 s.Boundary],vi n,vi bit] [S sa1 sk1 s.Deps,S sa2 sk2 s.Transfers,S sa3 sk3 s.Boundary] (fun g:Unit=>Qaa rr) (fun g=>vi rr) (fun g=>[]):=by
 refine FTi Tryz.func32 fun w0 M0 F0=>?_
 unfold Qaa at Qcc Qgv Qfj
 refine Fb 24 0 fun _=>Fb 88 1 fun _=>Fb 32 2 fun _=>KS ?_
 refine Oa (Ab [vi s.Width,vl sa1 sk1 s.Deps,vl sa2 sk2 s.Transfers,vl sa3 sk3 s.Boundary]) fun p4=>Oq Va (KS ?_)
 refine Oq (Qau Qen 0) ?_
 refine QaJ (Qa1 s) fun rv5 hg6=>?_
 have hc7:=QwA s sa1 sk1 sa2 sk2 sa3 sk3 pre rv5 hg6
 refine Oc [1,2,3] QwF hc7 ?_
 rintro - -
 refine Oq Qcy (Oq Va (KS ?_))
 refine Kc ?_ ?_
 ·intro h8
  have h10:=not_true h8
  refine KS ?_
  refine Oq Va (KS ?_)
  have hq:=q4 hrr 1 (by simp only [QaL,h8,h10,hg6,cs4]); subst hq
  exact Kr () rfl (.tmp rfl .nil) [] en
 intro h8
 have h13:=not_false h8
 refine KS ?_
 refine Oq Vm (Oq Qbh (Oq Vm ?_))
 refine Js 14 ?_ ?_
 ·intro h15
  have g16:=dt h15
  refine Osk (Osk (Osk (Osk (Osk (Oq Vpt (Oq Va (KS ?_)))))))
  refine Kt (KS ?_)
  refine Oq Va (KS ?_)
  have hq:=q4 hrr 9 (by simp only [QaL,h8,h13,h15,hg6,cs4]); subst hq
  exact Kr () rfl (.tmp rfl .nil) [] en
 intro h15
 have g17:=df h15
 refine Oq Vm (Oq (Vfa Qc4 0) (Oq (Qah Qjd 0) (Oq (Qba Qc6) (Oq Qg8 (Oq Vpf (Oq Va (KS ?_)))))))
 refine Kc ?_ ?_
 ·intro h18
  have g19:=dt h18
  refine KS ?_
  refine Oq Va (KS ?_)
  have hq:=q4 hrr 9 (by simp only [QaL,h8,h13,h15,h18,hg6,cs4]); subst hq
  exact Kr () rfl (.tmp rfl .nil) [] en
 intro h18
 have g20:=df h18
 refine KS ?_
 refine Oq Vm (Oq Qbh (Oq Vm ?_))
 refine Js 24 ?_ ?_
 ·intro h21
  have g22:=dt h21
  refine Osk (Osk (Osk (Osk (Oq Vpt (Oq Va (KS ?_))))))
  refine Kt (KS ?_)
  refine Oq Va (KS ?_)
  have hq:=q4 hrr 3 (by simp only [QaL,h8,h13,h15,h18,h21,hg6,cs4]); subst hq
  exact Kr () rfl (.tmp rfl .nil) [] en
 intro h21
 have g23:=df h21
 refine Oq Vm (Oq (Vfa QbR 0) (Oq (Qah sh3 0) (Oq Qg8 (Oq Vpf (Oq Va (KS ?_))))))
 refine Kc ?_ ?_
 ·intro h24
  have g25:=dt h24
  refine KS ?_
  refine Oq Va (KS ?_)
  have hq:=q4 hrr 3 (by simp only [QaL,h8,h13,h15,h18,h21,h24,hg6,cs4]); subst hq
  exact Kr () rfl (.tmp rfl .nil) [] en
 intro h24
 have g26:=df h24
 refine KS ?_
 refine Oq Va (KS ?_)
 have hq:=q4 hrr 0 (by simp only [QaL,h8,h13,h15,h18,h21,h24,hg6,cs4]); subst hq
 exact Kr () rfl (.tmp rfl .nil) [] en
theorem QrH (s:Qaf) (sa1:Option Addr) (sk1:Nat) (b:Int) (Qcc:Qaa s.Width) (QfG:Qaa b) (rr:Bool) (hrr:Qap s b = rr):FT Tryz.prog 21 #[.agg #[vi s.Width,vl sa1 sk1 s.Words],vi b] [S sa1 sk1 s.Words] (fun g:Unit=>True) (fun g=>vb rr) (fun g=>[]):=by
 refine FTi Tryz.func21 fun w0 M0 F0=>?_
 unfold Qaa at Qcc QfG
 refine Fb 8 0 fun _=>KS ?_
 refine Oa (Ab [vi s.Width,vl sa1 sk1 s.Words]) fun p2=>Oq Va (KS ?_)
 refine Oq (Qau Qax 0) ?_
 refine QaJ (QaT s) fun rv3 hg4=>?_
 have hc5:=QsI s sa1 sk1 pre rv3 hg4
 refine Oc [1] Qsy hc5 ?_
 rintro - -
 refine Oq Vm ?_
 refine Js 7 ?_ ?_
 ·intro h6
  try have hrg:=Qqe (s:=s) (by simp only [h6,hg4])
  refine Oq Vm (Oq Qg8 (Oq Vpt (Oq Vm ?_)))
  refine Js 11 ?_ ?_
  ·intro h8
   have g9:=dt h8
   refine Oq Vm (Oq (Vfa Qbi 0) (Oq (Qah sh3 0) (Oq Qbh (Oq Vpt (Oq Vm ?_)))))
   refine Js 17 ?_ ?_
   ·intro h10
    have g11:=dt h10
    refine Oq (Vfa Qcm 0) (Oq (Qah QiV 0) (Oq Vm (Oq Qrl (Oq (Vi QgV 1) (Oq (QpT QnH 1) (Oq Vm (Oq QtG (Oq (VcU un3 QqC) (Oq Qnr ?_)))))))))
    refine Oq (QmX (b:=1#64)) (Oq (Qsx (b:=1#64)) (Oq Vpt (Oq Va (KS ?_))))
    have hq:=q4 hrr ((((s.Words.getD ((b / 64):Int).toNat 0#64) >>> (((BitVec.ofInt 64 (b % 64)).toNat:Int)).toNat) &&& 1#64) == 1#64) (by simp only [Qap,h6,h8,h10,hg4,cs4]); subst hq
    exact Kr () rfl (.tmp rfl .nil) [] trivial
   intro h10
   have g12:=df h10
   refine Osk (Osk (Osk (Osk (Osk (Osk (Osk (Osk (Osk (Osk ?_)))))))))
   refine Osk (Osk (Oq Vpf (Oq Va (KS ?_))))
   have hq:=q4 hrr false (by simp only [Qap,h6,h8,h10,hg4,cs4]); subst hq
   exact Kr () rfl (.tmp rfl .nil) [] trivial
  intro h8
  have g13:=df h8
  refine Osk (Osk (Osk (Osk (Oq Vpf (Oq Vm (Osk (Osk (Osk (Osk ?_)))))))))
  refine Osk (Osk (Osk (Osk (Osk (Osk (Osk (Osk (Oq Vpf (Oq Va ?_)))))))))
  refine KS ?_
  have hq:=q4 hrr false (by simp only [Qap,h6,h8,hg4,cs4]); subst hq
  exact Kr () rfl (.tmp rfl .nil) [] trivial
 intro h6
 refine Osk (Osk (Oq Vpf (Oq Vm (Osk (Osk (Osk (Osk (Oq Vpf (Oq Vm ?_)))))))))
 refine Osk (Osk (Osk (Osk (Osk (Osk (Osk (Osk (Osk (Osk ?_)))))))))
 refine Osk (Osk (Oq Vpf (Oq Va (KS ?_))))
 have hq:=q4 hrr false (by simp only [Qap,h6,hg4,cs4]); subst hq
 exact Kr () rfl (.tmp rfl .nil) [] trivial
theorem QvW (t:Qad) (ta1:Option Addr) (tk1:Nat) (ta3:Option Addr) (tk3:Nat) (ta4:Option Addr) (tk4:Nat) (a:Int) (b:Int) (Qkl:Qaa t.Gen.Width) (Qkm:Qaa t.Kill.Width) (Qja:Qaa a) (QfG:Qaa b) (rr:Bool) (hrr:Qbv t a b = rr):FT Tryz.prog 106 #[.agg #[vi t.Gen.Width,vl ta1 tk1 t.Gen.Words,vi t.Kill.Width,vl ta3 tk3 t.Kill.Words,vl ta4 tk4 t.Copies],vi a,vi b] [S ta1 tk1 t.Gen.Words,S ta3 tk3 t.Kill.Words,S ta4 tk4 t.Copies] (fun g:Unit=>True) (fun g=>vb rr) (fun g=>[]):=by
 refine FTi Tryz.func106 fun w0 M0 F0=>?_
 unfold Qaa at Qkl Qkm Qja QfG
 refine Fb 8 0 fun _=>Fb 8 1 fun _=>Fb 16 2 fun _=>KS ?_
 refine Oa (Ab [vi t.Gen.Width,vl ta1 tk1 t.Gen.Words,vi t.Kill.Width,vl ta3 tk3 t.Kill.Words,vl ta4 tk4 t.Copies]) fun p4=>Oq Va (KS ?_)
 refine Oq Vm (Oq Vm (Oq QbW (Oq Vm ?_)))
 refine Js 11 ?_ ?_
 ·intro h5
  have g6:=eq_of_beq h5
  refine Oq (Vfa Qgj 0) (Oq (Qmr Qax 0 [vi t.Kill.Width,vl ta3 tk3 t.Kill.Words]) (Oq Vm ?_))
  refine QaJ (Qap t.Kill a) fun rv7 hg8=>?_
  have hc9:=QrH t.Kill ta3 tk3 a pre pre rv7 hg8
  refine Oc [2] QrF hc9 ?_
  rintro - -
  refine Oq Qcy (Oq Vpt (KS ?_))
  refine Kc ?_ ?_
  ·intro h10
   have h12:=not_true h10
   refine KS ?_
   refine Oq Va (KS ?_)
   have hq:=q4 hrr true (by simp only [Qbv,h5,h10,h12,hg8,cs4]); subst hq
   exact Kr () rfl (.tmp rfl .nil) [] trivial
  intro h10
  have h15:=not_false h10
  refine KS ?_
  refine Oq Va (KS ?_)
  refine Kl (γ:=Nat × Int) (fun (r17,QiC)=>⟨[(1,vi a),(2,vi b),(3,p4),(7,vi QiC)],[pv p4 [vi t.Gen.Width,vl ta1 tk1 t.Gen.Words,vi t.Kill.Width,vl ta3 tk3 t.Kill.Words,vl ta4 tk4 t.Copies],S ta1 tk1 t.Gen.Words,S ta3 tk3 t.Kill.Words,S ta4 tk4 t.Copies],QaG t a b r17 QiC = QaG t a b (((t.Copies.length:Int) - 0).toNat) 0 /\ r17 = ((t.Copies.length:Int) - QiC).toNat /\ (0:Int) <= QiC /\ QiC <= (t.Copies.length:Int) /\ (-9223372036854775808 <= QiC /\ QiC <= 9223372036854775807),r17⟩) (((t.Copies.length:Int) - 0).toNat,0) [0,1,2,3] ⟨rfl,rfl,aM1,aM1,aM1⟩ ?_
  rintro ⟨r17,QiC⟩ ⟨hM19,hr20,hi21,hi22,hk23⟩
  refine QaA fun _ _ hL hA=>?_; dsimp only at hL hA; subst hL hA
  refine Fb 8 1 fun _=>Fb 8 2 fun _=>Fb 16 3 fun _=>KS ?_
  refine Oq Vm (Oq (Vfa Qeo 0) (Oq (Qah Qmn 0) (Oq (Qba QkQ) (Oq Qbh (KS ?_)))))
  refine Kc ?_ ?_
  ·intro h27
   have g28:=dt h27
   obtain ⟨r29,rfl⟩:=scc (n:=r17) aM1
   refine KS ?_
   refine Oq (Vfa Qeo 0) (Oq (Qah Qmn 0) (Oq Vm (Oq (Vi QkQ 3) ?_)))
   refine QcI QiC.toNat 3 rfl rng fun hb30 hb31=>?_
   unfold Qaa at hb30 hb31
   refine Oq (Vfa Qci 0) (Oq (Qah sh3 0) (Oq Vm (Oq QbW (Oq Vm ?_))))
   refine Js 33 ?_ ?_
   ·intro h32
    have g33:=eq_of_beq h32
    refine Oq (Vfa Qeo 1) (Oq (Qah Qmn 1) (Oq Vm (Oq (Vi QkQ 4) (Oq (Vfa QdH 0) (Oq (Qah sh3 0) (Oq Vm (Oq QbW (Oq Vpt (KS ?_)))))))))
    refine Kc ?_ ?_
    ·intro h34
     have g35:=eq_of_beq h34
     refine KS ?_
     refine Oq Va (KS ?_)
     have hR36:=q2 hM19 (.ret true) (by simp only [QaG,h27,h32,h34,cs4])
     have hq:=q4 hrr true (by simp only [Qbv,h5,h10,h15,h27,h32,h34,hg8,hR36,cs4]); subst hq
     exact Kr () rfl (.tmp rfl .nil) [] trivial
    intro h34
    have g37:=ne_of_beq_false h34
    refine KS ?_
    refine Oq Vm (Oq QaS (Oq Va (KS ?_)))
    exact Kg (r29,(QiC + 1)) [1,2,3,4] ⟨(q3 hM19 (by simp only [QaG,h27,h32,h34,cs4])),aM1,aM1,aM1,aM1⟩
   intro h32
   have g38:=ne_of_beq_false h32
   refine Osk (Osk (Osk (Osk (Osk (Osk (Osk (Osk (Oq Vpf (KS ?_)))))))))
   refine Kf (KS ?_)
   refine Oq Vm (Oq QaS (Oq Va (KS ?_)))
   exact Kg (r29,(QiC + 1)) [1,2,3,4] ⟨(q3 hM19 (by simp only [QaG,h27,h32,cs4])),aM1,aM1,aM1,aM1⟩
  intro h27
  have g39:=df h27
  obtain rfl:r17 = 0:=by omega
  refine Ke ?_
  have hR40:=q2 hM19 (.brk ()) (by simp only [QaG,h27,cs4])
  refine KS ?_
  refine Oq Va (KS ?_)
  have hq:=q4 hrr false (by simp only [Qbv,h5,h10,h15,h27,hg8,hR40,cs4]); subst hq
  exact Kr () rfl (.tmp rfl .nil) [] trivial
 intro h5
 have g41:=ne_of_beq_false h5
 refine Osk (Osk (Osk (Osk (Osk (Oq Vpf (KS ?_))))))
 refine Kf (KS ?_)
 refine Oq Va (KS ?_)
 refine Kl (γ:=Nat × Int) (fun (r42,Qrw)=>⟨[(1,vi a),(2,vi b),(3,p4),(7,vi Qrw)],[pv p4 [vi t.Gen.Width,vl ta1 tk1 t.Gen.Words,vi t.Kill.Width,vl ta3 tk3 t.Kill.Words,vl ta4 tk4 t.Copies],S ta1 tk1 t.Gen.Words,S ta3 tk3 t.Kill.Words,S ta4 tk4 t.Copies],QaG t a b r42 Qrw = QaG t a b (((t.Copies.length:Int) - 0).toNat) 0 /\ r42 = ((t.Copies.length:Int) - Qrw).toNat /\ (0:Int) <= Qrw /\ Qrw <= (t.Copies.length:Int) /\ (-9223372036854775808 <= Qrw /\ Qrw <= 9223372036854775807),r42⟩) (((t.Copies.length:Int) - 0).toNat,0) [0,1,2,3] ⟨rfl,rfl,aM1,aM1,aM1⟩ ?_
 rintro ⟨r42,Qrw⟩ ⟨hM44,hr45,hi46,hi47,hk48⟩
 refine QaA fun _ _ hL hA=>?_; dsimp only at hL hA; subst hL hA
 refine Fb 8 1 fun _=>Fb 8 2 fun _=>Fb 16 3 fun _=>KS ?_
 refine Oq Vm (Oq (Vfa Qeo 0) (Oq (Qah Qmn 0) (Oq (Qba QkQ) (Oq Qbh (KS ?_)))))
 refine Kc ?_ ?_
 ·intro h52
  have g53:=dt h52
  obtain ⟨r54,rfl⟩:=scc (n:=r42) aM1
  refine KS ?_
  refine Oq (Vfa Qeo 0) (Oq (Qah Qmn 0) (Oq Vm (Oq (Vi QkQ 3) ?_)))
  refine QcI Qrw.toNat 3 rfl rng fun hb55 hb56=>?_
  unfold Qaa at hb55 hb56
  refine Oq (Vfa Qci 0) (Oq (Qah sh3 0) (Oq Vm (Oq QbW (Oq Vm ?_))))
  refine Js 33 ?_ ?_
  ·intro h57
   have g58:=eq_of_beq h57
   refine Oq (Vfa Qeo 1) (Oq (Qah Qmn 1) (Oq Vm (Oq (Vi QkQ 4) (Oq (Vfa QdH 0) (Oq (Qah sh3 0) (Oq Vm (Oq QbW (Oq Vpt (KS ?_)))))))))
   refine Kc ?_ ?_
   ·intro h59
    have g60:=eq_of_beq h59
    refine KS ?_
    refine Oq Va (KS ?_)
    have hR61:=q2 hM44 (.ret true) (by simp only [QaG,h52,h57,h59,cs4])
    have hq:=q4 hrr true (by simp only [Qbv,h5,h52,h57,h59,hR61,cs4]); subst hq
    exact Kr () rfl (.tmp rfl .nil) [] trivial
   intro h59
   have g62:=ne_of_beq_false h59
   refine KS ?_
   refine Oq Vm (Oq QaS (Oq Va (KS ?_)))
   exact Kg (r54,(Qrw + 1)) [1,2,3,4] ⟨(q3 hM44 (by simp only [QaG,h52,h57,h59,cs4])),aM1,aM1,aM1,aM1⟩
  intro h57
  have g63:=ne_of_beq_false h57
  refine Osk (Osk (Osk (Osk (Osk (Osk (Osk (Osk (Oq Vpf (KS ?_)))))))))
  refine Kf (KS ?_)
  refine Oq Vm (Oq QaS (Oq Va (KS ?_)))
  exact Kg (r54,(Qrw + 1)) [1,2,3,4] ⟨(q3 hM44 (by simp only [QaG,h52,h57,cs4])),aM1,aM1,aM1,aM1⟩
 intro h52
 have g64:=df h52
 obtain rfl:r42 = 0:=by omega
 refine Ke ?_
 have hR65:=q2 hM44 (.brk ()) (by simp only [QaG,h52,cs4])
 refine KS ?_
 refine Oq Va (KS ?_)
 have hq:=q4 hrr false (by simp only [Qbv,h5,h52,hR65,cs4]); subst hq
 exact Kr () rfl (.tmp rfl .nil) [] trivial
theorem Qzu (t:Qad) (ta1:Option Addr) (tk1:Nat) (ta3:Option Addr) (tk3:Nat) (ta4:Option Addr) (tk4:Nat) (a:Int) (b:Int) (Qkl:Qaa t.Gen.Width) (Qkm:Qaa t.Kill.Width) (Qja:Qaa a) (QfG:Qaa b) (rr:Bool) (hrr:Qb7 t a b = rr):FT Tryz.prog 65 #[.agg #[vi t.Gen.Width,vl ta1 tk1 t.Gen.Words,vi t.Kill.Width,vl ta3 tk3 t.Kill.Words,vl ta4 tk4 t.Copies],vi a,vi b] [S ta1 tk1 t.Gen.Words,S ta3 tk3 t.Kill.Words,S ta4 tk4 t.Copies] (fun g:Unit=>True) (fun g=>vb rr) (fun g=>[]):=by
 refine FTi Tryz.func65 fun w0 M0 F0=>?_
 unfold Qaa at Qkl Qkm Qja QfG
 refine Fb 8 0 fun _=>Fb 8 1 fun _=>Fb 16 2 fun _=>KS ?_
 refine Oa (Ab [vi t.Gen.Width,vl ta1 tk1 t.Gen.Words,vi t.Kill.Width,vl ta3 tk3 t.Kill.Words,vl ta4 tk4 t.Copies]) fun p4=>Oq Va (KS ?_)
 refine Oq (Qau Qek 0) ?_
 refine QaJ (Qai t) fun rv5 hg6=>?_
 have hc7:=QuI t ta1 tk1 ta3 tk3 ta4 tk4 pre pre rv5 hg6
 refine Oc [1,2,3] QuD hc7 ?_
 rintro - -
 refine Oq Vm ?_
 refine Js 9 ?_ ?_
 ·intro h8
  refine Oq Vm (Oq Qg8 (Oq Vpt (Oq Vm ?_)))
  refine Js 13 ?_ ?_
  ·intro h10
   have g11:=dt h10
   refine Oq Vm (Oq (Vfa QdB 0) (Oq (Qol Qbi 0) (Oq (Qah sh3 0) (Oq Qbh (Oq Vpt (Oq Vm ?_))))))
   refine Js 20 ?_ ?_
   ·intro h12
    have g13:=dt h12
    refine Oq Vm (Oq Qg8 (Oq Vpt (Oq Vm ?_)))
    refine Js 24 ?_ ?_
    ·intro h14
     have g15:=dt h14
     refine Oq Vm (Oq (Vfa QdB 0) (Oq (Qol Qbi 0) (Oq (Qah sh3 0) (Oq Qbh (Oq Vpt (Oq Vm ?_))))))
     refine Js 31 ?_ ?_
     ·intro h16
      have g17:=dt h16
      refine Oq (Qau Qek 0) (Oq Vm (Oq Vm ?_))
      refine QaJ (Qbv t a b) fun rv18 hg19=>?_
      have hc20:=QvW t ta1 tk1 ta3 tk3 ta4 tk4 a b pre pre pre pre rv18 hg19
      refine Oc [1,2,3] QvM hc20 ?_
      rintro - -
      refine Oq Vpt (Oq Va (KS ?_))
      have hq:=q4 hrr rv18 (by simp only [Qb7,h8,h10,h12,h14,h16,hg6,hg19,cs4]); subst hq
      exact Kr () rfl (.tmp rfl .nil) [] trivial
     intro h16
     have g21:=df h16
     refine Osk (Osk (Osk (Osk (Oq Vpf (Oq Va (KS ?_))))))
     have hq:=q4 hrr false (by simp only [Qb7,h8,h10,h12,h14,h16,hg6,cs4]); subst hq
     exact Kr () rfl (.tmp rfl .nil) [] trivial
    intro h14
    have g22:=df h14
    refine Osk (Osk (Osk (Osk (Osk (Oq Vpf (Oq Vm (Osk (Osk (Osk ?_)))))))))
    refine Osk (Oq Vpf (Oq Va (KS ?_)))
    have hq:=q4 hrr false (by simp only [Qb7,h8,h10,h12,h14,hg6,cs4]); subst hq
    exact Kr () rfl (.tmp rfl .nil) [] trivial
   intro h12
   have g23:=df h12
   refine Osk (Osk (Oq Vpf (Oq Vm (Osk (Osk (Osk (Osk (Osk (Oq Vpf ?_)))))))))
   refine Oq Vm (Osk (Osk (Osk (Osk (Oq Vpf (Oq Va (KS ?_)))))))
   have hq:=q4 hrr false (by simp only [Qb7,h8,h10,h12,hg6,cs4]); subst hq
   exact Kr () rfl (.tmp rfl .nil) [] trivial
  intro h10
  have g24:=df h10
  refine Osk (Osk (Osk (Osk (Osk (Oq Vpf (Oq Vm (Osk (Osk (Oq Vpf ?_)))))))))
  refine Oq Vm (Osk (Osk (Osk (Osk (Osk (Oq Vpf (Oq Vm (Osk (Osk ?_)))))))))
  refine Osk (Osk (Oq Vpf (Oq Va (KS ?_))))
  have hq:=q4 hrr false (by simp only [Qb7,h8,h10,hg6,cs4]); subst hq
  exact Kr () rfl (.tmp rfl .nil) [] trivial
 intro h8
 refine Osk (Osk (Oq Vpf (Oq Vm (Osk (Osk (Osk (Osk (Osk (Oq Vpf ?_)))))))))
 refine Oq Vm (Osk (Osk (Oq Vpf (Oq Vm (Osk (Osk (Osk (Osk (Osk ?_)))))))))
 refine Oq Vpf (Oq Vm (Osk (Osk (Osk (Osk (Oq Vpf (Oq Va (KS ?_))))))))
 have hq:=q4 hrr false (by simp only [Qb7,h8,hg6,cs4]); subst hq
 exact Kr () rfl (.tmp rfl .nil) [] trivial
theorem QAd (s:Qac) (sa1:Option Addr) (sk1:Nat) (sa2:Option Addr) (sk2:Nat) (sa3:Option Addr) (sk3:Nat) (to_:Qas) (Qcc:Qaa s.Width) (hto__0:Qaa to_.Node) (hto__1:Qaa to_.Bit) (hv0:Qfg s) (ht0:(0 <= to_.Node /\ to_.Node < (s.Deps.length:Int)) /\ 0 <= to_.Bit /\ to_.Bit < s.Width) (rr:List Int) (hrr:QbF s to_ = rr):FT Tryz.prog 33 #[.agg #[vi s.Width,vl sa1 sk1 s.Deps,vl sa2 sk2 s.Transfers,vl sa3 sk3 s.Boundary],.agg #[vi to_.Node,vi to_.Bit]] [S sa1 sk1 s.Deps,S sa2 sk2 s.Transfers,S sa3 sk3 s.Boundary] (fun g:Value=>True) (fun g=>g) (fun g=>[os g rr]):=by
 refine FTi Tryz.func33 fun w0 M0 F0=>?_
 unfold Qaa at Qcc hto__0 hto__1
 refine Fb 24 0 fun _=>Fb 88 1 fun _=>Fb 32 2 fun _=>?_
 have hv2:=hv0.tl
 have hv3:=hv0.bl
 have hv4:=hv0.w
 have hv1:=hv0.n
 have hbw:=Qvz hv0
 have hbe:=QxR hv0
 have htx:=QpK (B:=(s.Boundary.length:Int)) (W:=s.Width) (m:=to_.Node) ht0.1.1 aM1 hv4.1
 refine KS ?_
 refine Oa (Ab [vi s.Width,vl sa1 sk1 s.Deps,vl sa2 sk2 s.Transfers,vl sa3 sk3 s.Boundary]) fun p4=>Oa (Ab [vi to_.Node,vi to_.Bit]) fun p5=>Oq Va (KS ?_)
 refine Oq (Vfa Qc4 1) (Oq (Qah Qjd 1) (Oq (Qba Qc6) (Oq (Vfa QbR 1) (Oq (Qah sh3 1) (Oq Qt9 ?_)))))
 refine Oa (Amk (α:=Int) QcA Qnk (0:Int) (fun _ _=>⟨rfl,by unfold Qaa; decide⟩)) fun c6=>?_
 refine Jo 0 ?_; rintro a7 k8 rfl
 refine Fb 8 0 fun _=>Fo 0 fun ho10=>?_
 have hn11:=List.length_replicate (n:=(((s.Boundary.length:Int) * s.Width):Int).toNat) (a:=((0:Int):Int))
 refine Oq Va (KS ?_)
 refine Oq Vm (Oq (Vfa Qc8 1) (Oq (Qah sh3 1) (Oq (Vfa QbR 2) (Oq (Qah sh3 2) (Oq Qt9 (Oq (Vfa QfA 1) (Oq (Qah sh3 1) (Oq QaS (Oq (Vi QcA 0) ?_)))))))))
 refine Ost (SoI [0] sh3) (KS ?_)
 refine Oq Va (KS ?_)
 have hterm19:QaP s ((s.Boundary.length * s.Width.toNat:Nat) + 2) ((List.replicate (((s.Boundary.length:Int) * s.Width):Int).toNat (0:Int)).set (((to_.Node * s.Width) + to_.Bit):Int).toNat 1) 1 ≠ LR.oof:=(by obtain ⟨d1,e1,_⟩:=Qs2 hv0 (d:=((List.replicate (((s.Boundary.length:Int) * s.Width):Int).toNat (0:Int)).set (((to_.Node * s.Width) + to_.Bit):Int).toNat 1)) (by simp only [List.length_set,List.length_replicate]; omega); rw [e1]; intro h; cases h)
 refine Kl (γ:=Nat × List Int × Int) (fun (r12,QuP,QbP)=>⟨[(2,p4),(5,.slice a7 ((List.replicate (((s.Boundary.length:Int) * s.Width):Int).toNat (0:Int)).length) k8),(6,vi QbP)],[os (.slice a7 ((List.replicate (((s.Boundary.length:Int) * s.Width):Int).toNat (0:Int)).length) k8) QuP,pv p4 [vi s.Width,vl sa1 sk1 s.Deps,vl sa2 sk2 s.Transfers,vl sa3 sk3 s.Boundary],S sa1 sk1 s.Deps,S sa2 sk2 s.Transfers,S sa3 sk3 s.Boundary],QaP s r12 QuP QbP = QaP s ((s.Boundary.length * s.Width.toNat:Nat) + 2) ((List.replicate (((s.Boundary.length:Int) * s.Width):Int).toNat (0:Int)).set (((to_.Node * s.Width) + to_.Bit):Int).toNat 1) 1 /\ (-9223372036854775808 <= QbP /\ QbP <= 9223372036854775807) /\ (QuP.length:Int) = (s.Boundary.length:Int) * s.Width /\ (1 <= QbP /\ QbP + (r12:Int) <= ((s.Boundary.length * s.Width.toNat:Nat):Int) + 3),r12⟩) (((s.Boundary.length * s.Width.toNat:Nat) + 2),((List.replicate (((s.Boundary.length:Int) * s.Width):Int).toNat (0:Int)).set (((to_.Node * s.Width) + to_.Bit):Int).toNat 1),1) [0,1,2,3,4] ⟨rfl,aM1,iv0,iv0⟩ ?_
 rintro ⟨r12,QuP,QbP⟩ ⟨hM15,hk16,hv17,hv18⟩
 refine QaA fun _ _ hL hA=>?_; dsimp only at hL hA; subst hL hA
 refine Fb 8 0 fun _=>Fo 0 fun ho21=>Fl 0 fun hn22=>?_
 refine Fb 24 2 fun _=>Fb 88 3 fun _=>Fb 32 4 fun _=>?_
 rcases r12 with _ | r12
 ·exact absurd (hM15.symm.trans rfl) hterm19
 refine KS ?_
 refine Oq Va (KS ?_)
 refine Oq Va (KS ?_)
 refine Kl (γ:=Nat × List Int × Bool × Int) (fun (r26,QrO,Qkn,Qhg)=>⟨[(2,p4),(5,.slice a7 ((List.replicate (((s.Boundary.length:Int) * s.Width):Int).toNat (0:Int)).length) k8),(6,vi QbP),(7,vb Qkn),(8,vi Qhg)],[os (.slice a7 ((List.replicate (((s.Boundary.length:Int) * s.Width):Int).toNat (0:Int)).length) k8) QrO,pv p4 [vi s.Width,vl sa1 sk1 s.Deps,vl sa2 sk2 s.Transfers,vl sa3 sk3 s.Boundary],S sa1 sk1 s.Deps,S sa2 sk2 s.Transfers,S sa3 sk3 s.Boundary],QaV s QbP r26 QrO Qkn Qhg = QaV s QbP (((s.Boundary.length:Int) - 0).toNat) QuP false 0 /\ r26 = ((s.Boundary.length:Int) - Qhg).toNat /\ (0:Int) <= Qhg /\ Qhg <= (s.Boundary.length:Int) /\ (-9223372036854775808 <= Qhg /\ Qhg <= 9223372036854775807) /\ (QrO.length:Int) = (s.Boundary.length:Int) * s.Width,r26⟩) (((s.Boundary.length:Int) - 0).toNat,QuP,false,0) [0,0,1,2,3] ⟨rfl,rfl,aM1,aM1,aM1,iv0⟩ ?_
 rintro ⟨r26,QrO,Qkn,Qhg⟩ ⟨hM30,hr31,hi32,hi33,hk34,hv35⟩
 refine QaA fun _ _ hL hA=>?_; dsimp only at hL hA; subst hL hA
 refine Fb 8 0 fun _=>Fo 0 fun ho37=>Fl 0 fun hn38=>?_
 refine Fb 24 2 fun _=>Fb 88 3 fun _=>Fb 32 4 fun _=>KS ?_
 refine Oq Vm (Oq (Vfa Qc4 1) (Oq (Qah Qjd 1) (Oq (Qba Qc6) (Oq Qbh (KS ?_)))))
 refine Kc ?_ ?_
 ·intro h42
  have g43:=dt h42
  have hnx:=QpK (B:=(s.Boundary.length:Int)) (W:=s.Width) (m:=Qhg) aM1 aM1 hv4.1
  obtain ⟨r44,rfl⟩:=scc (n:=r26) aM1
  refine KS ?_
  refine Oq Va (KS ?_)
  refine Kl (γ:=Nat × List Int × Bool × Int) (fun (r45,Qtc,Qjb,QkH)=>⟨[(2,p4),(5,.slice a7 ((List.replicate (((s.Boundary.length:Int) * s.Width):Int).toNat (0:Int)).length) k8),(6,vi QbP),(7,vb Qjb),(8,vi Qhg),(9,vi QkH)],[os (.slice a7 ((List.replicate (((s.Boundary.length:Int) * s.Width):Int).toNat (0:Int)).length) k8) Qtc,pv p4 [vi s.Width,vl sa1 sk1 s.Deps,vl sa2 sk2 s.Transfers,vl sa3 sk3 s.Boundary],S sa1 sk1 s.Deps,S sa2 sk2 s.Transfers,S sa3 sk3 s.Boundary],Qbc s QbP Qhg r45 Qtc Qjb QkH = Qbc s QbP Qhg (((((s.Deps.getD Qhg.toNat []).length:Int):Int) - 0).toNat) QrO Qkn 0 /\ r45 = ((((s.Deps.getD Qhg.toNat []).length:Int):Int) - QkH).toNat /\ (0:Int) <= QkH /\ (QkH <= ((s.Deps.getD Qhg.toNat []).length:Int) \/ QkH = 0) /\ (-9223372036854775808 <= QkH /\ QkH <= 9223372036854775807) /\ (Qtc.length:Int) = (s.Boundary.length:Int) * s.Width,r45⟩) (((((s.Deps.getD Qhg.toNat []).length:Int):Int) - 0).toNat,QrO,Qkn,0) [0,0,1,2,3] ⟨rfl,rfl,aM1,(.inr rfl),aM1,iv0⟩ ?_
  rintro ⟨r45,Qtc,Qjb,QkH⟩ ⟨hM49,hr50,hi51,hi52,hk53,hv54⟩
  refine QaA fun _ _ hL hA=>?_; dsimp only at hL hA; subst hL hA
  refine Fb 8 0 fun _=>Fo 0 fun ho56=>Fl 0 fun hn57=>?_
  refine Fb 24 2 fun _=>Fb 88 3 fun _=>Fb 32 4 fun _=>KS ?_
  refine Oq Vm (Oq (Vfa QbI 1) (Oq (Qah QgG 1) (Oq Vm (Oq (Vi Qfr 2) ?_))))
  refine QdV Qhg.toNat 2 rfl rng fun a61 k62=>?_
  refine Fb 8 1 fun _=>Fo 1 fun ho64=>?_
  refine Oq (Vld QjI 0) (Oq (Qba QcA) (Oq Qbh (KS ?_)))
  refine Kc ?_ ?_
  ·intro h65
   have g66:=dt h65
   have hdm:=hv0.dep_mem (j:=Qhg) aM1 aM1 _ (Qa4 (xs:=s.Deps.getD Qhg.toNat []) (i:=QkH.toNat) (d:=0) aM1); have hmx:=QpK (B:=(s.Boundary.length:Int)) (W:=s.Width) hdm.1 aM1 hv4.1
   obtain ⟨r67,rfl⟩:=scc (n:=r45) aM1
   refine KS ?_
   refine Oq (Vfa QbI 3) (Oq (Qah QgG 3) (Oq Vm (Oq (Vi Qfr 4) (Oq (Vld QjI 0) (Oq Vm (Oq (Vi QcA 1) ?_))))))
   have hb68:=ok1 (i:=QkH.toNat) ho64 rng
   refine Oq (Qjc sh3 1) (Oq Va (KS ?_))
   refine Oq Va (KS ?_)
   refine Kl (γ:=Nat × List Int × Bool × Int) (fun (r69,QsJ,Qii,QnI)=>⟨[(2,p4),(5,.slice a7 ((List.replicate (((s.Boundary.length:Int) * s.Width):Int).toNat (0:Int)).length) k8),(6,vi QbP),(7,vb Qii),(8,vi Qhg),(9,vi QkH),(10,vi ((s.Deps.getD Qhg.toNat []).getD QkH.toNat 0)),(11,vi QnI)],[os (.slice a7 ((List.replicate (((s.Boundary.length:Int) * s.Width):Int).toNat (0:Int)).length) k8) QsJ,pv p4 [vi s.Width,vl sa1 sk1 s.Deps,vl sa2 sk2 s.Transfers,vl sa3 sk3 s.Boundary],S sa1 sk1 s.Deps,S sa2 sk2 s.Transfers,S sa3 sk3 s.Boundary],Qa6 s QbP Qhg ((s.Deps.getD Qhg.toNat []).getD QkH.toNat 0) r69 QsJ Qii QnI = Qa6 s QbP Qhg ((s.Deps.getD Qhg.toNat []).getD QkH.toNat 0) (((s.Width:Int) - 0).toNat) Qtc Qjb 0 /\ r69 = ((s.Width:Int) - QnI).toNat /\ (0:Int) <= QnI /\ (QnI <= s.Width \/ QnI = 0) /\ (-9223372036854775808 <= QnI /\ QnI <= 9223372036854775807) /\ (QsJ.length:Int) = (s.Boundary.length:Int) * s.Width,r69⟩) (((s.Width:Int) - 0).toNat,Qtc,Qjb,0) [2,2,3,4,5] ⟨rfl,rfl,aM1,(.inr rfl),aM1,iv0⟩ ?_
   rintro ⟨r69,QsJ,Qii,QnI⟩ ⟨hM73,hr74,hi75,hi76,hk77,hv78⟩
   refine QaA fun _ _ hL hA=>?_; dsimp only at hL hA; subst hL hA
   refine Fb 8 0 fun _=>Fo 0 fun ho80=>Fl 0 fun hn81=>?_
   refine Fb 24 2 fun _=>Fb 88 3 fun _=>Fb 32 4 fun _=>KS ?_
   refine Oq Vm (Oq (Vfa QbR 1) (Oq (Qah sh3 1) (Oq Qbh (KS ?_))))
   refine Kc ?_ ?_
   ·intro h85
    have g86:=dt h85
    obtain ⟨r87,rfl⟩:=scc (n:=r69) aM1
    refine KS ?_
    refine Oq Va (KS ?_)
    have hterm96:Qaw s QbP Qhg ((s.Deps.getD Qhg.toNat []).getD QkH.toNat 0) QnI (s.Width.toNat + 1) QsJ Qii 0 ≠ LR.oof:=(Qt5 aM1 aM1 aM1 hv4.1 aM1)
    refine Kl (γ:=Nat × List Int × Bool × Int) (fun (r88,Qrx,QhK,QpM)=>⟨[(2,p4),(5,.slice a7 ((List.replicate (((s.Boundary.length:Int) * s.Width):Int).toNat (0:Int)).length) k8),(6,vi QbP),(7,vb QhK),(8,vi Qhg),(9,vi QkH),(10,vi ((s.Deps.getD Qhg.toNat []).getD QkH.toNat 0)),(11,vi QnI),(12,vi QpM)],[os (.slice a7 ((List.replicate (((s.Boundary.length:Int) * s.Width):Int).toNat (0:Int)).length) k8) Qrx,pv p4 [vi s.Width,vl sa1 sk1 s.Deps,vl sa2 sk2 s.Transfers,vl sa3 sk3 s.Boundary],S sa1 sk1 s.Deps,S sa2 sk2 s.Transfers,S sa3 sk3 s.Boundary],Qaw s QbP Qhg ((s.Deps.getD Qhg.toNat []).getD QkH.toNat 0) QnI r88 Qrx QhK QpM = Qaw s QbP Qhg ((s.Deps.getD Qhg.toNat []).getD QkH.toNat 0) QnI (s.Width.toNat + 1) QsJ Qii 0 /\ (-9223372036854775808 <= QpM /\ QpM <= 9223372036854775807) /\ (Qrx.length:Int) = (s.Boundary.length:Int) * s.Width /\ (0 <= QpM /\ QpM <= s.Width),r88⟩) ((s.Width.toNat + 1),QsJ,Qii,0) [0,0,1,2,3] ⟨rfl,aM1,iv0,iv0⟩ ?_
    rintro ⟨r88,Qrx,QhK,QpM⟩ ⟨hM92,hk93,hv94,hv95⟩
    refine QaA fun _ _ hL hA=>?_; dsimp only at hL hA; subst hL hA
    refine Fb 8 0 fun _=>Fo 0 fun ho98=>Fl 0 fun hn99=>?_
    refine Fb 24 2 fun _=>Fb 88 3 fun _=>Fb 32 4 fun _=>?_
    rcases r88 with _ | r88
    ·exact absurd (hM92.symm.trans rfl) hterm96
    refine KS ?_
    refine Oq Vm (Oq Vm (Oq (Vfa QbR 1) (Oq (Qah sh3 1) (Oq Qt9 (Oq Vm (Oq QaS (Oq (Vi QcA 0) ?_)))))))
    have hb103:=ok1 (i:=(((Qhg * s.Width) + QnI):Int).toNat) ho98 rng
    refine Oq (Qjc sh3 0) (Oq Vm (Oq QbW (Oq Vm ?_)))
    refine Js 74 ?_ ?_
    ·intro h104
     have g105:=eq_of_beq h104
     refine Oq Vm (Oq (Vfa QbR 1) (Oq (Qah sh3 1) (Oq Qbh (Oq Vpt (KS ?_)))))
     refine Kc ?_ ?_
     ·intro h106
      have g107:=dt h106
      refine KS ?_
      refine Oq Vm (Oq Vm (Oq (Vfa QbR 1) (Oq (Qah sh3 1) (Oq Qt9 (Oq Vm (Oq QaS (Oq (Vi QcA 0) ?_)))))))
      have hb108:=ok1 (i:=(((((s.Deps.getD Qhg.toNat []).getD QkH.toNat 0) * s.Width) + QpM):Int).toNat) ho98 rng
      refine Oq (Qjc sh3 0) (Oq QbW (Oq Vm ?_))
      refine Js 92 ?_ ?_
      ·intro h109
       have g110:=eq_of_beq h109
       refine Oq (Vfa QcW 1) (Oq (Qah QjR 1) (Oq Vm (Oq (Vi QiI 3) ?_)))
       refine QaU (((s.Deps.getD Qhg.toNat []).getD QkH.toNat 0):Int).toNat 3 rfl rng fun a111 k112 a113 k114 a115 k116 hb117 hb118=>?_
       unfold Qaa at hb117 hb118
       refine Fb 8 1 fun _=>Fb 8 2 fun _=>Fb 16 3 fun _=>?_
       refine Oq (Qau Qek 0) (Oq Vm (Oq Vm ?_))
       refine QaJ (Qb7 (s.Transfers.getD (((s.Deps.getD Qhg.toNat []).getD QkH.toNat 0):Int).toNat default) QpM QnI) fun rv122 hg123=>?_
       have hc124:=Qzu ((s.Transfers.getD (((s.Deps.getD Qhg.toNat []).getD QkH.toNat 0):Int).toNat default)) a111 k112 a113 k114 a115 k116 QpM QnI pre pre pre pre rv122 hg123
       refine Oc [1,2,3] Qy5 hc124 ?_
       rintro - -
       refine Oq Vpt (KS ?_)
       refine Kc ?_ ?_
       ·intro h125
        refine KS ?_
        refine Oq Vm (Oq Vm (Oq (Vfa QbR 5) (Oq (Qah sh3 5) (Oq Qt9 (Oq Vm (Oq QaS (Oq Vm (Oq QaS (Oq (Vi QcA 4) ?_)))))))))
        refine Ost (SoI [4] sh3) (Oq Va (KS ?_))
        refine Oq Vm (Oq QaS (Oq Va (KS ?_)))
        exact Kg (r88,(Qrx.set (((((s.Deps.getD Qhg.toNat []).getD QkH.toNat 0) * s.Width) + QpM):Int).toNat (QbP + 1)),true,(QpM + 1)) [0,4,5,6,7] ⟨(q3 hM92 (by simp only [Qaw,h104,h106,h109,h125,hg123,cs4])),aM1,iv1,iv1⟩
       intro h125
       refine KS ?_
       refine Oq Vm (Oq QaS (Oq Va (KS ?_)))
       exact Kg (r88,Qrx,QhK,(QpM + 1)) [4,4,5,6,7] ⟨(q3 hM92 (by simp only [Qaw,h104,h106,h109,h125,hg123,cs4])),aM1,iv1,iv1⟩
      intro h109
      have g128:=ne_of_beq_false h109
      refine Osk (Osk (Osk (Osk (Osk (Osk (Osk (Osk (Oq Vpf (KS ?_)))))))))
      refine Kf (KS ?_)
      refine Oq Vm (Oq QaS (Oq Va (KS ?_)))
      exact Kg (r88,Qrx,QhK,(QpM + 1)) [0,0,1,2,3] ⟨(q3 hM92 (by simp only [Qaw,h104,h106,h109,cs4])),aM1,iv1,iv1⟩
     intro h106
     have g129:=df h106
     refine Ke ?_
     have hR130:=q2 hM92 (.brk (Qrx,QhK)) (by simp only [Qaw,h104,h106,cs4])
     refine KS ?_
     refine Oq Vm (Oq QaS (Oq Va (KS ?_)))
     exact Kg (r87,Qrx,QhK,(QnI + 1)) [0,0,1,2,3] ⟨(q3 hM73 (by simp only [Qa6,h85,h104,h106,hR130,cs4])),aM1,aM1,aM1,aM1,iv1⟩
    intro h104
    have g131:=ne_of_beq_false h104
    refine Osk (Osk (Osk (Osk (Oq Vpf (KS ?_)))))
    refine Kf ?_
    refine Ke ?_
    have hR132:=q2 hM92 (.brk (Qrx,QhK)) (by simp only [Qaw,h104,cs4])
    refine KS ?_
    refine Oq Vm (Oq QaS (Oq Va (KS ?_)))
    exact Kg (r87,Qrx,QhK,(QnI + 1)) [0,0,1,2,3] ⟨(q3 hM73 (by simp only [Qa6,h85,h104,hR132,cs4])),aM1,aM1,aM1,aM1,iv1⟩
   intro h85
   have g133:=df h85
   obtain rfl:r69 = 0:=by omega
   refine Ke ?_
   have hR134:=q2 hM73 (QsJ,Qii) (by simp only [Qa6,h85,cs4])
   refine KS ?_
   refine Oq Vm (Oq QaS (Oq Va (KS ?_)))
   exact Kg (r67,QsJ,Qii,(QkH + 1)) [0,0,1,2,3] ⟨(q3 hM49 (by simp only [Qbc,h65,h85,hR134,cs4])),aM1,aM1,aM1,aM1,iv1⟩
  intro h65
  have g135:=df h65
  obtain rfl:r45 = 0:=by omega
  refine Ke ?_
  have hR136:=q2 hM49 (Qtc,Qjb) (by simp only [Qbc,h65,cs4])
  refine KS ?_
  refine Oq Vm (Oq QaS (Oq Va (KS ?_)))
  exact Kg (r44,Qtc,Qjb,(Qhg + 1)) [2,2,3,4,5] ⟨(q3 hM30 (by simp only [QaV,h42,h65,hR136,cs4])),aM1,aM1,aM1,aM1,iv1⟩
 intro h42
 have g137:=df h42
 obtain rfl:r26 = 0:=by omega
 refine Ke ?_
 have hR138:=q2 hM30 (QrO,Qkn) (by simp only [QaV,h42,cs4])
 refine KS ?_
 refine Oq Vm (Oq Qcy (KS ?_))
 refine Kc ?_ ?_
 ·intro h139
  have h141:=not_true h139
  refine KS ?_
  refine Oq Vm (Oq Va (KS ?_))
  have hR143:=q2 hM15 (.ret QrO) (by simp only [QaP,h42,h139,h141,hR138,cs4])
  have hq:=q4 hrr QrO (by simp only [QbF,h42,h139,h141,hR138,hR143,cs4]); subst hq
  exact Kr (.slice a7 ((List.replicate (((s.Boundary.length:Int) * s.Width):Int).toNat (0:Int)).length) k8) rfl (.tmp rfl .nil) [0] trivial
 intro h139
 have h145:=not_false h139
 refine KS ?_
 refine Oq Vm (Oq QaS (Oq Va (KS ?_)))
 exact Kg (r12,QrO,(QbP + 1)) [0,0,1,2,3] ⟨(q3 hM15 (by simp only [QaP,h42,h139,h145,hR138,cs4])),aM1,iv1,iv1⟩
theorem QwS (s:Qac) (sa1:Option Addr) (sk1:Nat) (sa2:Option Addr) (sk2:Nat) (sa3:Option Addr) (sk3:Nat) (h:Qas) (Qcc:Qaa s.Width) (Qus:Qaa h.Node) (Qut:Qaa h.Bit) (hv0:Qfg s) (hn0:0 <= h.Node /\ h.Node < (s.Deps.length:Int)) (rr:Bool) (hrr:Qb6 s h = rr):FT Tryz.prog 34 #[.agg #[vi s.Width,vl sa1 sk1 s.Deps,vl sa2 sk2 s.Transfers,vl sa3 sk3 s.Boundary],.agg #[vi h.Node,vi h.Bit]] [S sa1 sk1 s.Deps,S sa2 sk2 s.Transfers,S sa3 sk3 s.Boundary] (fun g:Unit=>True) (fun g=>vb rr) (fun g=>[]):=by
 refine FTi Tryz.func34 fun w0 M0 F0=>?_
 unfold Qaa at Qcc Qus Qut
 refine Fb 24 0 fun _=>Fb 88 1 fun _=>Fb 32 2 fun _=>?_
 have hv2:=hv0.tl
 have hv3:=hv0.bl
 refine KS ?_
 refine Oa (Ab [vi s.Width,vl sa1 sk1 s.Deps,vl sa2 sk2 s.Transfers,vl sa3 sk3 s.Boundary]) fun p4=>Oa (Ab [vi h.Node,vi h.Bit]) fun p5=>Oq Va (KS ?_)
 refine Qa3 h.Node.toNat 4 rfl rng fun a6 k7 hb8=>?_
 unfold Qaa at hb8
 refine Fb 8 1 fun _=>?_
 refine Qam [0,1,0,4,15,31,0,64,255] Qco ?_
 refine Dv [3] (Vfa Qc4 0) (Dv [3] (Qah Qjd 0) (Dv [2] (Vfa Qc8 0) (Dv [2] (Qah sh3 0) (Dv [6] (Vi Qc6 0) (Dv [0] (Qau Qax 0) (Dv [2] (Vfa QfA 0) (Dv [2] (Qah sh3 0) ?_)))))))
 refine QaJ (Qap (s.Boundary.getD h.Node.toNat default) h.Bit) fun rv10 hg11=>Dx [1] [] [1,0] (fun G=>vb rv10) [fun G=>SP.fact (True)] (fun G=>xC [0] QrF (QrH ((s.Boundary.getD h.Node.toNat default)) a6 k7 h.Bit pre pre rv10 hg11)) ?_
 refine Dn ⟨by kernel_rfl,fun G=>?_⟩
 refine Jw2 [(2,p4),(3,p5),(14,vb rv10)] [0,1,2,3,4,5,6] [SP.fact (True)] ?_
 refine Jk [0,1,2,3,4,5,6] ?_
 refine Kc ?_ ?_
 ·intro h12
  refine KS ?_
  refine Oq Va (KS ?_)
  have hq:=q4 hrr true (by simp only [Qb6,h12,hg11,cs4]); subst hq
  exact Kr () rfl (.tmp rfl .nil) [] trivial
 intro h12
 refine KS ?_
 refine Oq Va (KS ?_)
 refine Kl (γ:=Nat × Int) (fun (r15,QeL)=>⟨[(2,p4),(3,p5),(5,vi QeL)],[pv p5 [vi h.Node,vi h.Bit],pv p4 [vi s.Width,vl sa1 sk1 s.Deps,vl sa2 sk2 s.Transfers,vl sa3 sk3 s.Boundary],S sa1 sk1 s.Deps,S sa2 sk2 s.Transfers,S sa3 sk3 s.Boundary],QcS s h r15 QeL = QcS s h (((((s.Deps.getD h.Node.toNat []).length:Int):Int) - 0).toNat) 0 /\ r15 = ((((s.Deps.getD h.Node.toNat []).length:Int):Int) - QeL).toNat /\ (0:Int) <= QeL /\ (QeL <= ((s.Deps.getD h.Node.toNat []).length:Int) \/ QeL = 0) /\ (-9223372036854775808 <= QeL /\ QeL <= 9223372036854775807),r15⟩) (((((s.Deps.getD h.Node.toNat []).length:Int):Int) - 0).toNat,0) [2,3,4,5,6] ⟨rfl,rfl,aM1,(.inr rfl),aM1⟩ ?_
 rintro ⟨r15,QeL⟩ ⟨hM17,hr18,hi19,hi20,hk21⟩
 refine QaA fun _ _ hL hA=>?_; dsimp only at hL hA; subst hL hA
 refine Fb 24 2 fun _=>Fb 88 3 fun _=>Fb 32 4 fun _=>KS ?_
 refine Oq Vm (Oq (Vfa QbI 1) (Oq (Qah QgG 1) (Oq (Vfa Qc8 0) (Oq (Qah sh3 0) (Oq (Vi Qfr 2) ?_)))))
 refine QdV h.Node.toNat 2 rfl rng fun a25 k26=>?_
 refine Fb 8 1 fun _=>Fo 1 fun ho28=>?_
 refine Oq (Vld QjI 0) (Oq (Qba QcA) (Oq Qbh (KS ?_)))
 refine Kc ?_ ?_
 ·intro h29
  have g30:=dt h29
  have hq:=hv0.dep_mem hn0.1 hn0.2 _ (Qa4 (xs:=s.Deps.getD h.Node.toNat []) (i:=QeL.toNat) (d:=0) aM1)
  obtain ⟨r31,rfl⟩:=scc (n:=r15) aM1
  refine KS ?_
  refine QaU (((s.Deps.getD h.Node.toNat []).getD QeL.toNat 0):Int).toNat 5 rfl rng fun a32 k33 a34 k35 a36 k37 hb38 hb39=>?_
  unfold Qaa at hb38 hb39
  refine Fb 8 1 fun _=>Fb 8 2 fun _=>Fb 16 3 fun _=>?_
  refine Qam [0,1,0,4,0,16,60,124,0,508,1020,2047,4095,8191,0,16384,65535] Qco ?_
  refine Dv [7] (Vfa QcW 0) (Dv [7] (Qah QjR 0) (Dv [7] (Vfa QbI 0) (Dv [7] (Qah QgG 0) (Dv [6] (Vfa Qc8 0) (Dv [6] (Qah sh3 0) (Dv [8] (Vi Qfr 0) (Dv [4] (Vld QjI 0) (Dv [] Vm (Dv [5] (Vi QcA 0) ?_)))))))))
  have hb43:=ok1 (i:=QeL.toNat) ho28 rng
  refine Dv [5] (Qjc sh3 0) (Dv [9] (Vi QiI 0) (Dv [0] (Vfa QdB 0) (Dv [0] (Qmr Qax 0 [vi (((s.Transfers.getD (((s.Deps.getD h.Node.toNat []).getD QeL.toNat 0):Int).toNat default).Gen).Width),.slice a32 ((((s.Transfers.getD (((s.Deps.getD h.Node.toNat []).getD QeL.toNat 0):Int).toNat default).Gen).Words).length) k33]) (Dv [6] (Vfa QfA 0) (Dv [6] (Qah sh3 0) ?_)))))
  refine QaJ (Qap ((s.Transfers.getD (((s.Deps.getD h.Node.toNat []).getD QeL.toNat 0):Int).toNat default).Gen) h.Bit) fun rv44 hg45=>Dx [1] [] [1,0] (fun G=>vb rv44) [fun G=>SP.fact (True)] (fun G=>xC [0] QrF (QrH (((s.Transfers.getD (((s.Deps.getD h.Node.toNat []).getD QeL.toNat 0):Int).toNat default).Gen)) a32 k33 h.Bit pre pre rv44 hg45)) ?_
  refine Dn ⟨by kernel_rfl,fun G=>?_⟩
  refine Jw2 [(2,p4),(3,p5),(5,vi QeL),(42,vb rv44)] [0,1,2,3,4,5,6,7,8,9,10] [SP.fact (True)] ?_
  refine Jk [0,1,2,3,4,5,6,7,8,9,10] ?_
  refine Kc ?_ ?_
  ·intro h46
   refine KS ?_
   refine Oq Va (KS ?_)
   have hR48:=q2 hM17 (.ret true) (by simp only [QcS,h29,h46,hg45,cs4])
   have hq:=q4 hrr true (by simp only [Qb6,h12,h29,h46,hg11,hg45,hR48,cs4]); subst hq
   exact Kr () rfl (.tmp rfl .nil) [] trivial
  intro h46
  refine KS ?_
  refine Oq Vm (Oq QaS (Oq Va (KS ?_)))
  exact Kg (r31,(QeL + 1)) [6,7,8,9,10] ⟨(q3 hM17 (by simp only [QcS,h29,h46,hg45,cs4])),aM1,aM1,aM1,aM1⟩
 intro h29
 have g50:=df h29
 obtain rfl:r15 = 0:=by omega
 refine Ke ?_
 have hR51:=q2 hM17 (.brk ()) (by simp only [QcS,h29,cs4])
 refine KS ?_
 refine Oq Va (KS ?_)
 have hq:=q4 hrr false (by simp only [Qb6,h12,h29,hg11,hR51,cs4]); subst hq
 exact Kr () rfl (.tmp rfl .nil) [] trivial
theorem Qzt (l:List Int) (la0:Option Addr) (lk0:Nat) (n:Int) (Qgv:Qaa n) (rr:Bool) (hrr:Qje l n = rr):FT Tryz.prog 66 #[vl la0 lk0 l,vi n] [S la0 lk0 l] (fun g:Unit=>True) (fun g=>vb rr) (fun g=>[]):=by
 refine FTi Tryz.func66 fun w0 M0 F0=>?_
 unfold Qaa at Qgv
 refine Fb 8 0 fun _=>Fo 0 fun ho2=>KS ?_
 refine Oq Va (KS ?_)
 refine Oq Va (KS ?_)
 refine Kl (γ:=Nat × Int) (fun (r3,i_4)=>⟨[(0,vl la0 lk0 l),(1,vi n),(5,vi i_4)],[S la0 lk0 l],Qfc l n r3 i_4 = Qfc l n (((l.length:Int) - 0).toNat) 0 /\ r3 = ((l.length:Int) - i_4).toNat /\ (0:Int) <= i_4 /\ i_4 <= (l.length:Int) /\ (-9223372036854775808 <= i_4 /\ i_4 <= 9223372036854775807),r3⟩) (((l.length:Int) - 0).toNat,0) [0] ⟨rfl,rfl,aM1,aM1,aM1⟩ ?_
 rintro ⟨r3,i_4⟩ ⟨hM5,hr6,hi7,hi8,hk9⟩
 refine QaA fun _ _ hL hA=>?_; dsimp only at hL hA; subst hL hA
 refine Fb 8 0 fun _=>Fo 0 fun ho11=>KS ?_
 refine Oq Vm (Oq Vm (Oq (Qba QcA) (Oq Qbh (KS ?_))))
 refine Kc ?_ ?_
 ·intro h12
  have g13:=dt h12
  obtain ⟨r14,rfl⟩:=scc (n:=r3) aM1
  refine KS ?_
  refine Oq Vm (Oq Vm (Oq (Vi QcA 0) ?_))
  have hb15:=ok1 (i:=i_4.toNat) ho11 rng
  refine Oq (Qjc sh3 0) (Oq Vm (Oq QbW (KS ?_)))
  refine Kc ?_ ?_
  ·intro h16
   have g17:=eq_of_beq h16
   refine KS ?_
   refine Oq Va (KS ?_)
   have hR18:=q2 hM5 (.ret true) (by simp only [Qfc,h12,h16,cs4])
   have hq:=q4 hrr true (by simp only [Qje,h12,h16,hR18,cs4]); subst hq
   exact Kr () rfl (.tmp rfl .nil) [] trivial
  intro h16
  have g19:=ne_of_beq_false h16
  refine KS ?_
  refine Oq Vm (Oq QaS (Oq Va (KS ?_)))
  exact Kg (r14,(i_4 + 1)) [0] ⟨(q3 hM5 (by simp only [Qfc,h12,h16,cs4])),aM1,aM1,aM1,aM1⟩
 intro h12
 have g20:=df h12
 obtain rfl:r3 = 0:=by omega
 refine Ke ?_
 have hR21:=q2 hM5 (.brk ()) (by simp only [Qfc,h12,cs4])
 refine KS ?_
 refine Oq Va (KS ?_)
 have hq:=q4 hrr false (by simp only [Qje,h12,hR21,cs4]); subst hq
 exact Kr () rfl (.tmp rfl .nil) [] trivial
theorem QzG (s:Qac) (sa1:Option Addr) (sk1:Nat) (sa2:Option Addr) (sk2:Nat) (sa3:Option Addr) (sk3:Nat) (a:Qas) (b:Qas) (Qcc:Qaa s.Width) (Qja:Qaa a.Node) (Qws:Qaa a.Bit) (QfG:Qaa b.Node) (Qwt:Qaa b.Bit) (hv0:Qfg s) (ha0:0 <= a.Node /\ a.Node < (s.Deps.length:Int)) (hb0:0 <= b.Node /\ b.Node < (s.Deps.length:Int)) (rr:Bool) (hrr:Qdq s a b = rr):FT Tryz.prog 35 #[.agg #[vi s.Width,vl sa1 sk1 s.Deps,vl sa2 sk2 s.Transfers,vl sa3 sk3 s.Boundary],.agg #[vi a.Node,vi a.Bit],.agg #[vi b.Node,vi b.Bit]] [S sa1 sk1 s.Deps,S sa2 sk2 s.Transfers,S sa3 sk3 s.Boundary] (fun g:Unit=>True) (fun g=>vb rr) (fun g=>[]):=by
 refine FTi Tryz.func35 fun w0 M0 F0=>?_
 unfold Qaa at Qcc Qja Qws QfG Qwt
 refine Fb 24 0 fun _=>Fb 88 1 fun _=>Fb 32 2 fun _=>?_
 have hv2:=hv0.tl
 have hv3:=hv0.bl
 refine KS ?_
 refine Oa (Ab [vi s.Width,vl sa1 sk1 s.Deps,vl sa2 sk2 s.Transfers,vl sa3 sk3 s.Boundary]) fun p4=>Oa (Ab [vi a.Node,vi a.Bit]) fun p5=>Oa (Ab [vi b.Node,vi b.Bit]) fun p6=>Oq Va (KS ?_)
 refine QdV b.Node.toNat 3 rfl rng fun a7 k8=>?_
 refine Fb 8 1 fun _=>Fo 1 fun ho10=>?_
 refine QaJ (Qje (s.Deps.getD b.Node.toNat []) a.Node) fun rv11 hg12=>?_
 refine QaE rv11 ?_ ?_
 ·intro h13
  refine QaU a.Node.toNat 6 rfl rng fun a15 k16 a17 k18 a19 k20 hb21 hb22=>?_
  unfold Qaa at hb21 hb22
  refine Fb 8 1 fun _=>Fb 8 2 fun _=>Fb 16 3 fun _=>?_
  refine Qam [0,1,0,4,15,31,0,64,255,511,1023,2047,1023,5119,16383,32767,1023,66559,1023,263167,1048575,2097151,4194303] Qco ?_
  refine Dv [8] (Vfa QbI 0) (Dv [8] (Qah QgG 0) (Dv [6] (Vfa Qc8 0) (Dv [6] (Qah sh3 0) (Dv [9] (Vi Qfr 0) (Dv [4] (Vld QjI 0) (Dv [7] (Vfa Qc8 0) (Dv [7] (Qah sh3 0) ?_)))))))
  refine Dx [5] [] [1,0] (fun G=>vb true) [fun G=>SP.fact (True)] (fun G=>xC [0] Qy2 (Qzt ((s.Deps.getD b.Node.toNat [])) a7 k8 a.Node pre rv11 hg12)) ?_ (hV:=fun _ _=>congrArg Value.bool h13)
  refine Dv [] Vm (Dv [8] (Vfa QcW 0) (Dv [8] (Qah QjR 0) (Dv [7] (Vfa Qc8 0) (Dv [7] (Qah sh3 0) (Dv [10] (Vi QiI 0) (Dv [0] (Qau Qek 0) (Dv [7] (Vfa QfA 0) (Dv [7] (Qah sh3 0) (Dv [6] (Vfa QfA 0) ?_)))))))))
  refine Dv [6] (Qah sh3 0) ?_
  refine QaJ (Qb7 (s.Transfers.getD a.Node.toNat default) a.Bit b.Bit) fun rv26 hg27=>?_
  refine Dx [1,2,3] [] [1,2,3,0] (fun G=>vb rv26) [fun G=>SP.fact (True)] (fun G=>xC [0,1,2] Qy5 (Qzu ((s.Transfers.getD a.Node.toNat default)) a15 k16 a17 k18 a19 k20 a.Bit b.Bit pre pre pre pre rv26 hg27)) (Dv [] Vpt (Dv [] Va ?_))
  refine Dn ⟨by kernel_rfl,fun G=>?_⟩
  refine Jw2 [(6,vb rv26)] [0,1,2,3,4,5,6,7,8,9,10,11] [SP.fact (True),SP.fact (True)] ?_
  refine Jk [0,1,2,3,4,5,6,7,8,9,10,11] ?_
  have hq:=q4 hrr rv26 (by simp only [Qdq,h13,hg12,hg27,cs4]); subst hq
  exact Kr () rfl (.tmp rfl .nil) [] trivial
 intro h13
 refine Qam [0,1,0,4,15,31,0,64,255,511,1023,2047,1023,5119,16383,32767,1023,66559,1023,263167,1048575,2097151,4194303] Qco ?_
 refine Dv [4] (Vfa QbI 0) (Dv [4] (Qah QgG 0) (Dv [2] (Vfa Qc8 0) (Dv [2] (Qah sh3 0) (Dv [5] (Vi Qfr 0) (Dv [0] (Vld QjI 0) (Dv [3] (Vfa Qc8 0) (Dv [3] (Qah sh3 0) ?_)))))))
 refine Dx [1] [] [1,0] (fun G=>vb false) [fun G=>SP.fact (True)] (fun G=>xC [0] Qy2 (Qzt ((s.Deps.getD b.Node.toNat [])) a7 k8 a.Node pre rv11 hg12)) ?_ (hV:=fun _ _=>congrArg Value.bool h13)
 refine Dv [] Vm (Ds (Ds (Ds (Ds (Ds (Ds (Ds (Ds (Ds ?_)))))))))
 refine Ds (Ds (Dv [] Vpf (Dv [] Va ?_)))
 refine Dn ⟨by kernel_rfl,fun G=>?_⟩
 refine Jw2 [(6,vb false)] [0,1,2,3,4,5,6,7] [SP.fact (True)] ?_
 refine Jk [0,1,2,3,4,5,6,7] ?_
 have hq:=q4 hrr false (by simp only [Qdq,h13,hg12,cs4]); subst hq
 exact Kr () rfl (.tmp rfl .nil) [] trivial
theorem QAJ (s:Qac) (sa1:Option Addr) (sk1:Nat) (sa2:Option Addr) (sk2:Nat) (sa3:Option Addr) (sk3:Nat) (n:Int) (bit:Int) (Qcc:Qaa s.Width) (Qgv:Qaa n) (Qfj:Qaa bit) (rr:List Qas × Bool × Int) (hrr:Qiv s n bit = rr):FT Tryz.prog 10 #[.agg #[vi s.Width,vl sa1 sk1 s.Deps,vl sa2 sk2 s.Transfers,vl sa3 sk3 s.Boundary],vi n,vi bit] [S sa1 sk1 s.Deps,S sa2 sk2 s.Transfers,S sa3 sk3 s.Boundary] (fun g:Value=>Qaa rr.2.2 /\ ((rr.1.length:Int) <= 65541)) (fun g=>.tuple #[g,vb rr.2.1,vi rr.2.2]) (fun g=>[sl g rr.1]):=by
 refine FTi Tryz.func10 fun w0 M0 F0=>?_
 unfold Qaa at Qcc Qgv Qfj
 refine Fb 24 0 fun _=>Fb 88 1 fun _=>Fb 32 2 fun _=>KS ?_
 refine Oa (Ab [vi s.Width,vl sa1 sk1 s.Deps,vl sa2 sk2 s.Transfers,vl sa3 sk3 s.Boundary]) fun p4=>Oq Va (Oq Va (Oq Va (KS ?_)))
 refine Oq (Qau Qen 0) (Oq Vm (Oq Vm ?_))
 refine QaJ (QaL s n bit) fun rv5 hg6=>?_
 have hc7:=QwD s sa1 sk1 sa2 sk2 sa3 sk3 n bit pre pre pre rv5 hg6
 refine Oc [1,2,3] QwP hc7 ?_
 rintro - he8
 unfold Qaa at he8
 refine Oq Va (KS ?_)
 refine Oq Vm (Oq QfZ (KS ?_))
 refine Kc ?_ ?_
 ·intro h9
  have g10:=QaB h9
  refine KS ?_
  refine Oq Vm (Oq Va (Oq Va (Oq Va (KS ?_))))
  refine Jl [] (Ent.slNil (α:=Qas)) ?_
  have hq:=q4 hrr (([]:List Qas),false,rv5) (by simp only [Qiv,h9,hg6,cs4]); subst hq
  exact Kr (.slice none 0 0) rfl (.tmp rfl (.tmp rfl (.tmp rfl .nil))) [0] ⟨en,(by dsimp only; first | omega | (simp; done))⟩
 intro h9
 have g11:=Qae h9
 have hwa:=QnA (by assumption:QaL s _ _ = rv5) h9; have hwb:=hwa.1.bl; have hww:=hwa.1.w; have hwn:=hwa.1.n
 refine KS ?_
 refine Oq (Qau Qen 0) (Oq Vm (Oq Vm (Oq (Vbd QrK [vi n,vi bit]) ?_)))
 refine QaJ (QbF s (Qas.mk n bit)) fun rv13 hg14=>?_
 have hc15:=QAd s sa1 sk1 sa2 sk2 sa3 sk3 ((Qas.mk n bit)) pre pre pre hwa.1 hwa.2 rv13 hg14
 refine Oc [1,2,3] QAt hc15 ?_
 rintro c12 -
 refine Jo 0 ?_; rintro a16 k17 rfl
 refine Fb 8 0 fun _=>Fo 0 fun ho19=>?_
 refine Oq Va (KS ?_)
 refine Oq (Vbd QrK [vi 0,vi 0]) (Oa (Al Qqp [vi 0,vi 0]) fun p20=>Ost (Scl [0] Qfo [vi 0,vi 0]) (Oq Va (KS ?_)))
 refine Oq Va (KS ?_)
 refine Kl (γ:=Nat × Int × Int × Int × Int) (fun (r21,QeH,Qfk,Qdx,Qcx)=>⟨[(3,p4),(10,vl a16 k17 rv13),(11,p20),(12,vi Qdx),(13,vi Qcx)],[Cl p20 [vi QeH,vi Qfk],O a16 k17 rv13,pv p4 [vi s.Width,vl sa1 sk1 s.Deps,vl sa2 sk2 s.Transfers,vl sa3 sk3 s.Boundary],S sa1 sk1 s.Deps,S sa2 sk2 s.Transfers,S sa3 sk3 s.Boundary],Qbt s rv13 r21 QeH Qfk Qdx Qcx = Qbt s rv13 (((rv13.length:Int) - 0).toNat) 0 0 0 0 /\ r21 = ((rv13.length:Int) - Qcx).toNat /\ (0:Int) <= Qcx /\ Qcx <= (rv13.length:Int) /\ (-9223372036854775808 <= QeH /\ QeH <= 9223372036854775807) /\ (-9223372036854775808 <= Qfk /\ Qfk <= 9223372036854775807) /\ (-9223372036854775808 <= Qdx /\ Qdx <= 9223372036854775807) /\ (-9223372036854775808 <= Qcx /\ Qcx <= 9223372036854775807) /\ (0 <= QeH /\ QeH < (s.Deps.length:Int)) /\ (0 <= Qdx /\ Qdx <= 65540),r21⟩) (((rv13.length:Int) - 0).toNat,0,0,0,0) [0,0,0,1,2,3] ⟨rfl,rfl,aM1,aM1,aM1,aM1,aM1,aM1,iv0,iv0⟩ ?_
 rintro ⟨r21,QeH,Qfk,Qdx,Qcx⟩ ⟨hM26,hr27,hi28,hi29,hk30,hk31,hk32,hk33,hv34,hv35⟩
 refine QaA fun _ _ hL hA=>?_; dsimp only at hL hA; subst hL hA
 refine Fb 8 1 fun _=>Fo 1 fun ho37=>Fb 24 3 fun _=>Fb 88 4 fun _=>Fb 32 5 fun _=>KS ?_
 refine Oq Vm (Oq Vm (Oq (Qba QcA) (Oq Qbh (KS ?_))))
 refine Kc ?_ ?_
 ·intro h41
  have g42:=dt h41
  have hdl:=Qpg hwa.1 (by assumption:QbF s _ = rv13); have hhx:=QsR (B:=(s.Boundary.length:Int)) (W:=s.Width) (i:=Qcx) aM1 aM1 aM1
  obtain ⟨r43,rfl⟩:=scc (n:=r21) aM1
  refine KS ?_
  refine Qam [0,0,2,7,0,0,32,112,255,0,1023] Qco ?_
  refine Dv [] Vm (Dv [2] (Vfa QbR 0) (Dv [2] (Qah sh3 0) (Dv [] Qrl (Dv [] Vm (Dv [2] (Vfa QbR 0) (Dv [2] (Qah sh3 0) (Dv [] QtG (Dv [] (Vbd QrK [vi (Qcx / s.Width),vi (Qcx % s.Width)]) (Dx [] [] [0] (fun G=>(G.g 9 0)) [fun G=>Cl (G.g 9 0) [vi 0,vi 0]] (fun G=>xA (Al Qqp [vi 0,vi 0])) ?_)))))))))
  refine Dx0 [6] [6] [0] [fun G=>Cl (G.g 9 0) [vi (Qcx / s.Width),vi (Qcx % s.Width)]] (fun G=>xS (Scl [0] Qfo [vi (Qcx / s.Width),vi (Qcx % s.Width)])) ?_
  refine Dn ⟨by kernel_rfl,fun G=>?_⟩
  refine Jw2 [(3,p4),(10,vl a16 k17 rv13),(11,p20),(12,vi Qdx),(13,vi Qcx),(14,(G.g 9 0))] [0,1,2,3,4,5] [Cl (G.g 9 0) [vi (Qcx / s.Width),vi (Qcx % s.Width)]] ?_
  generalize G.g 9 0 = p44
  refine KS ?_
  refine Oq Vm (Oq Vm (Oq (Vi QcA 1) ?_))
  have hb45:=ok1 (i:=Qcx.toNat) ho37 rng
  refine Oq (Qjc sh3 1) (Oq Qgr (Oq Vm ?_))
  refine Js 52 ?_ ?_
  ·intro h46
   have g47:=dt h46
   have hdx:=Quf hwa.1 (by assumption:QbF s _ = rv13) _ (Qa4 (xs:=rv13) (i:=Qcx.toNat) (d:=0) aM1)
   refine Oq Vm (Oq QbW (Oq Vm ?_))
   refine Js 55 ?_ ?_
   ·intro h48
    have g49:=eq_of_beq h48
    refine Osk (Osk (Osk (Osk (Osk (Osk (Oq Vpt (Oq Vpt (Oq Vm (Oq (Qau Qen 2) ?_)))))))))
    refine Oq (Qau Qfo 6) ?_
    refine QaJ (Qb6 s (Qas.mk (Qcx / s.Width) (Qcx % s.Width))) fun rv50 hg51=>?_
    have hc52:=QwS s sa1 sk1 sa2 sk2 sa3 sk3 ((Qas.mk (Qcx / s.Width) (Qcx % s.Width))) pre pre pre hwa.1 pre rv50 hg51
    refine Oc [3,4,5] Qyq hc52 ?_
    rintro - -
    refine Oq Vpt (KS ?_)
    refine Kc ?_ ?_
    ·intro h53
     refine Qam [0,0,0,6,14,1,63] Qco ?_
     refine Dv [6] (Qau Qfo 0) (Dv [] Vm (Dv [] Vm (Dv [1] (Vi QcA 0) ?_)))
     have hb55:=ok1 (i:=Qcx.toNat) ho37 rng
     refine Dv [1] (Qjc sh3 0) (Dx0 [0] [0] [0] [fun G=>Cl p20 [vi (Qcx / s.Width),vi (Qcx % s.Width)]] (fun G=>xS (Scl [0] Qfo [vi (Qcx / s.Width),vi (Qcx % s.Width)])) (Dv [] Va ?_))
     refine Dn ⟨by kernel_rfl,fun G=>?_⟩
     refine Jw2 [(3,p4),(10,vl a16 k17 rv13),(11,p20),(13,vi Qcx),(12,vi (rv13.getD Qcx.toNat 0))] [1,2,3,4,5,6] [Cl p20 [vi (Qcx / s.Width),vi (Qcx % s.Width)]] ?_
     refine KS ?_
     refine Oq Vm (Oq QaS (Oq Va (KS ?_)))
     exact Kg (r43,(Qcx / s.Width),(Qcx % s.Width),(rv13.getD Qcx.toNat 0),(Qcx + 1)) [6,0,0,1,2,3] ⟨(q3 hM26 (by simp only [Qbt,h41,h46,h48,h53,hg51,cs4])),aM1,aM1,aM1,aM1,aM1,aM1,aM1,iv1,iv1⟩
    intro h53
    refine KS ?_
    refine Oq Vm (Oq QaS (Oq Va (KS ?_)))
    exact Kg (r43,QeH,Qfk,Qdx,(Qcx + 1)) [0,0,0,1,2,3] ⟨(q3 hM26 (by simp only [Qbt,h41,h46,h48,h53,hg51,cs4])),aM1,aM1,aM1,aM1,aM1,aM1,aM1,iv1,iv1⟩
   intro h48
   have g57:=ne_of_beq_false h48
   refine Oq Vm (Oq Vm (Oq (Vi QcA 1) ?_))
   have hb58:=ok1 (i:=Qcx.toNat) ho37 rng
   refine Oq (Qjc sh3 1) (Oq Vm (Oq Qbh (Oq Vpf (Oq Vpt (Oq Vm ?_)))))
   refine Js 64 ?_ ?_
   ·intro h59
    have g60:=dt h59
    refine Oq (Qau Qen 2) (Oq (Qau Qfo 6) ?_)
    refine QaJ (Qb6 s (Qas.mk (Qcx / s.Width) (Qcx % s.Width))) fun rv61 hg62=>?_
    have hc63:=QwS s sa1 sk1 sa2 sk2 sa3 sk3 ((Qas.mk (Qcx / s.Width) (Qcx % s.Width))) pre pre pre hwa.1 pre rv61 hg62
    refine Oc [3,4,5] Qyq hc63 ?_
    rintro - -
    refine Oq Vpt (KS ?_)
    refine Kc ?_ ?_
    ·intro h64
     refine Qam [0,0,0,6,14,1,63] Qco ?_
     refine Dv [6] (Qau Qfo 0) (Dv [] Vm (Dv [] Vm (Dv [1] (Vi QcA 0) ?_)))
     have hb66:=ok1 (i:=Qcx.toNat) ho37 rng
     refine Dv [1] (Qjc sh3 0) (Dx0 [0] [0] [0] [fun G=>Cl p20 [vi (Qcx / s.Width),vi (Qcx % s.Width)]] (fun G=>xS (Scl [0] Qfo [vi (Qcx / s.Width),vi (Qcx % s.Width)])) (Dv [] Va ?_))
     refine Dn ⟨by kernel_rfl,fun G=>?_⟩
     refine Jw2 [(3,p4),(10,vl a16 k17 rv13),(11,p20),(13,vi Qcx),(12,vi (rv13.getD Qcx.toNat 0))] [1,2,3,4,5,6] [Cl p20 [vi (Qcx / s.Width),vi (Qcx % s.Width)]] ?_
     refine KS ?_
     refine Oq Vm (Oq QaS (Oq Va (KS ?_)))
     exact Kg (r43,(Qcx / s.Width),(Qcx % s.Width),(rv13.getD Qcx.toNat 0),(Qcx + 1)) [6,0,0,1,2,3] ⟨(q3 hM26 (by simp only [Qbt,h41,h46,h48,h59,h64,hg62,cs4])),aM1,aM1,aM1,aM1,aM1,aM1,aM1,iv1,iv1⟩
    intro h64
    refine KS ?_
    refine Oq Vm (Oq QaS (Oq Va (KS ?_)))
    exact Kg (r43,QeH,Qfk,Qdx,(Qcx + 1)) [0,0,0,1,2,3] ⟨(q3 hM26 (by simp only [Qbt,h41,h46,h48,h59,h64,hg62,cs4])),aM1,aM1,aM1,aM1,aM1,aM1,aM1,iv1,iv1⟩
   intro h59
   have g68:=df h59
   refine Osk (Osk (Osk (Oq Vpf (KS ?_))))
   refine Kf (KS ?_)
   refine Oq Vm (Oq QaS (Oq Va (KS ?_)))
   exact Kg (r43,QeH,Qfk,Qdx,(Qcx + 1)) [0,0,0,1,2,3] ⟨(q3 hM26 (by simp only [Qbt,h41,h46,h48,h59,cs4])),aM1,aM1,aM1,aM1,aM1,aM1,aM1,iv1,iv1⟩
  intro h46
  have g69:=df h46
  refine Osk (Osk (Osk (Osk (Osk (Osk (Osk (Osk (Osk (Osk ?_)))))))))
  refine Oq Vpf (Oq Vm (Osk (Osk (Osk (Oq Vpf (KS ?_))))))
  refine Kf (KS ?_)
  refine Oq Vm (Oq QaS (Oq Va (KS ?_)))
  exact Kg (r43,QeH,Qfk,Qdx,(Qcx + 1)) [0,0,0,1,2,3] ⟨(q3 hM26 (by simp only [Qbt,h41,h46,cs4])),aM1,aM1,aM1,aM1,aM1,aM1,aM1,iv1,iv1⟩
 intro h41
 have g70:=df h41
 obtain rfl:r21 = 0:=by omega
 refine Ke ?_
 have hR71:=q2 hM26 (QeH,Qfk,Qdx) (by simp only [Qbt,h41,cs4])
 refine KS ?_
 refine Oq Vm (Oq QbW (KS ?_))
 refine Kc ?_ ?_
 ·intro h72
  have g73:=eq_of_beq h72
  refine KS ?_
  refine Oq Va (Oq Va (Oq Va (KS ?_)))
  refine Jl [] (Ent.slNil (α:=Qas)) ?_
  have hq:=q4 hrr (([]:List Qas),false,0) (by simp only [Qiv,h9,h41,h72,hg6,hg14,hR71,cs4]); subst hq
  exact Kr (.slice none 0 0) rfl (.tmp rfl (.tmp rfl (.tmp rfl .nil))) [0] ⟨en,(by dsimp only; first | omega | (simp; done))⟩
 intro h72
 have g74:=ne_of_beq_false h72
 refine KS ?_
 refine Oq (Qau Qfo 0) (Oa (AsV QcX QmR [.agg #[vi QeH,vi Qfk]] [vi QeH,vi Qfk]) fun c75=>?_)
 refine Jo 0 ?_; rintro a76 k77 rfl
 refine Oq Va (KS ?_)
 refine Oq Vm (Oq QjU (Oq Va (KS ?_)))
 refine Jl [0] (Ent.cr1 (α:=Qas) (A:=[]) _ (Qas.mk QeH Qfk) _ aB1 (fun h=>⟨rfl,aL1,aL1⟩)) ?_
 refine Fb 16 0 fun _=>?_
 refine Kl (γ:=Nat × Int × Int × List Qas × Int × Option Addr × Nat) (fun (r79,QeI,Qfl,QfC,Qo3,a84,k85)=>⟨[(3,p4),(10,vl a16 k17 rv13),(11,p20),(15,vl a84 k85 QfC),(16,vi Qo3)],[O a84 k85 QfC,Cl p20 [vi QeI,vi Qfl],O a16 k17 rv13,pv p4 [vi s.Width,vl sa1 sk1 s.Deps,vl sa2 sk2 s.Transfers,vl sa3 sk3 s.Boundary],S sa1 sk1 s.Deps,S sa2 sk2 s.Transfers,S sa3 sk3 s.Boundary],Qee s rv13 r79 QeI Qfl QfC Qo3 = Qee s rv13 (((Qdx - 1):Int).toNat) QeH Qfk [(Qas.mk QeH Qfk)] (Qdx - 1) /\ r79 = Qo3.toNat /\ Qo3 <= ((Qdx - 1):Int) /\ (-9223372036854775808 <= QeI /\ QeI <= 9223372036854775807) /\ (-9223372036854775808 <= Qfl /\ Qfl <= 9223372036854775807) /\ (-9223372036854775808 <= Qo3 /\ Qo3 <= 9223372036854775807) /\ (0 <= QeI /\ QeI < (s.Deps.length:Int)) /\ (1 <= (QfC.length:Int) /\ (QfC.length:Int) + Qo3 <= 65541 /\ 0 <= Qo3),r79⟩) (((Qdx - 1):Int).toNat,QeH,Qfk,[(Qas.mk QeH Qfk)],(Qdx - 1),a76,k77) [0,0,0,0,1,2,3] ⟨rfl,rfl,aM1,aM1,aM1,aM1,iv0,iv0⟩ ?_
 rintro ⟨r79,QeI,Qfl,QfC,Qo3,a84,k85⟩ ⟨hM86,hr87,hi88,hk89,hk90,hk91,hv92,hv93⟩
 refine QaA fun _ _ hL hA=>?_; dsimp only at hL hA; subst hL hA
 refine Fb 16 0 fun _=>Fb 8 2 fun _=>Fo 2 fun ho96=>Fb 24 4 fun _=>Fb 88 5 fun _=>Fb 32 6 fun _=>KS ?_
 refine Oq Vm (Oq Qgr (KS ?_))
 refine Kc ?_ ?_
 ·intro h100
  have g101:=dt h100
  obtain ⟨r102,rfl⟩:=scc (n:=r79) aM1
  refine KS ?_
  refine Oq Va (KS ?_)
  refine Kl (γ:=Nat × Int) (fun (r103,Qc5)=>⟨[(3,p4),(10,vl a16 k17 rv13),(11,p20),(15,vl a84 k85 QfC),(16,vi Qo3),(17,vi Qc5)],[O a84 k85 QfC,Cl p20 [vi QeI,vi Qfl],O a16 k17 rv13,pv p4 [vi s.Width,vl sa1 sk1 s.Deps,vl sa2 sk2 s.Transfers,vl sa3 sk3 s.Boundary],S sa1 sk1 s.Deps,S sa2 sk2 s.Transfers,S sa3 sk3 s.Boundary],Qdc s rv13 QeI Qfl Qo3 r103 Qc5 = Qdc s rv13 QeI Qfl Qo3 (((rv13.length:Int) - 0).toNat) 0 /\ r103 = ((rv13.length:Int) - Qc5).toNat /\ (0:Int) <= Qc5 /\ Qc5 <= (rv13.length:Int) /\ (-9223372036854775808 <= Qc5 /\ Qc5 <= 9223372036854775807),r103⟩) (((rv13.length:Int) - 0).toNat,0) [0,0,0,0,1,2,3] ⟨rfl,rfl,aM1,aM1,aM1⟩ ?_
  rintro ⟨r103,Qc5⟩ ⟨hM105,hr106,hi107,hi108,hk109⟩
  refine QaA fun _ _ hL hA=>?_; dsimp only at hL hA; subst hL hA
  refine Fb 16 0 fun _=>Fb 8 2 fun _=>Fo 2 fun ho112=>Fb 24 4 fun _=>Fb 88 5 fun _=>Fb 32 6 fun _=>KS ?_
  refine Oq Vm (Oq Vm (Oq (Qba QcA) (Oq Qbh (KS ?_))))
  refine Kc ?_ ?_
  ·intro h116
   have g117:=dt h116
   have hdl:=Qpg hwa.1 (by assumption:QbF s _ = rv13); have hhx:=QsR (B:=(s.Boundary.length:Int)) (W:=s.Width) (i:=Qc5) aM1 aM1 aM1
   obtain ⟨r118,rfl⟩:=scc (n:=r103) aM1
   refine KS ?_
   refine Qam [0,0,2,7,0,0,32,112,255,0,1023] Qco ?_
   refine Dv [] Vm (Dv [3] (Vfa QbR 0) (Dv [3] (Qah sh3 0) (Dv [] Qrl (Dv [] Vm (Dv [3] (Vfa QbR 0) (Dv [3] (Qah sh3 0) (Dv [] QtG (Dv [] (Vbd QrK [vi (Qc5 / s.Width),vi (Qc5 % s.Width)]) (Dx [] [] [0] (fun G=>(G.g 9 0)) [fun G=>Cl (G.g 9 0) [vi 0,vi 0]] (fun G=>xA (Al Qqp [vi 0,vi 0])) ?_)))))))))
   refine Dx0 [7] [7] [0] [fun G=>Cl (G.g 9 0) [vi (Qc5 / s.Width),vi (Qc5 % s.Width)]] (fun G=>xS (Scl [0] Qfo [vi (Qc5 / s.Width),vi (Qc5 % s.Width)])) ?_
   refine Dn ⟨by kernel_rfl,fun G=>?_⟩
   refine Jw2 [(3,p4),(10,vl a16 k17 rv13),(11,p20),(15,vl a84 k85 QfC),(16,vi Qo3),(17,vi Qc5),(18,(G.g 9 0))] [0,1,2,3,4,5,6] [Cl (G.g 9 0) [vi (Qc5 / s.Width),vi (Qc5 % s.Width)]] ?_
   generalize G.g 9 0 = p119
   refine KS ?_
   refine Oq Vm (Oq Vm (Oq (Vi QcA 2) ?_))
   have hb120:=ok1 (i:=Qc5.toNat) ho112 rng
   refine Oq (Qjc sh3 2) (Oq Vm (Oq QbW (Oq Vm ?_)))
   refine Js 105 ?_ ?_
   ·intro h121
    have g122:=eq_of_beq h121
    refine Oq (Qau Qen 3) (Oq (Qau Qfo 1) (Oq (Qau Qfo 7) ?_))
    refine QaJ (Qdq s (Qas.mk QeI Qfl) (Qas.mk (Qc5 / s.Width) (Qc5 % s.Width))) fun rv123 hg124=>?_
    have hc125:=QzG s sa1 sk1 sa2 sk2 sa3 sk3 ((Qas.mk QeI Qfl)) ((Qas.mk (Qc5 / s.Width) (Qc5 % s.Width))) pre pre pre pre pre hwa.1 pre pre rv123 hg124
    refine Oc [4,5,6] Qzd hc125 ?_
    rintro - -
    refine Oq Vpt (KS ?_)
    refine Kc ?_ ?_
    ·intro h126
     refine KS ?_
     refine Oq (Qau Qfo 7) (Ost (Scl [1] Qfo [vi (Qc5 / s.Width),vi (Qc5 % s.Width)]) (KS ?_))
     refine Ke ?_
     have hR128:=q2 hM105 ((Qc5 / s.Width),(Qc5 % s.Width)) (by simp only [Qdc,h116,h121,h126,hg124,cs4])
     refine KS ?_
     refine Oq Vm (Oq (Qau Qfo 0) (Oa (AsV QcX QmR [.agg #[vi (Qc5 / s.Width),vi (Qc5 % s.Width)]] [vi (Qc5 / s.Width),vi (Qc5 % s.Width)]) fun c129=>?_))
     refine Jo 0 ?_; rintro a130 k131 rfl
     refine Jl [0] (Ent.cr1 (α:=Qas) (A:=[]) _ (Qas.mk (Qc5 / s.Width) (Qc5 % s.Width)) _ aB1 (fun h=>⟨rfl,aL1,aL1⟩)) ?_
     refine Oa (ApO [2,0] QcX QcX QmR) fun c132=>?_
     refine Jo 0 ?_; rintro a133 k134 rfl
     refine Fb 16 0 fun _=>?_
     have hn136:=la QfC ([(Qas.mk (Qc5 / s.Width) (Qc5 % s.Width))]:List Qas)
     refine Oq Va (KS ?_)
     refine Oq Vm (Oq QjU (Oq Va (KS ?_)))
     exact Kg (r102,(Qc5 / s.Width),(Qc5 % s.Width),(QfC ++ [(Qas.mk (Qc5 / s.Width) (Qc5 % s.Width))]),(Qo3 - 1),a133,k134) [0,0,0,0,1,2,3] ⟨(q3 hM86 (by simp only [Qee,h100,h116,h121,h126,hg124,hR128,cs4])),aM1,aM1,aM1,aM1,aM1,iv1,iv1⟩
    intro h126
    refine KS ?_
    refine Oq Vm (Oq QaS (Oq Va (KS ?_)))
    exact Kg (r118,(Qc5 + 1)) [0,0,0,0,1,2,3] ⟨(q3 hM105 (by simp only [Qdc,h116,h121,h126,hg124,cs4])),aM1,aM1,aM1,aM1⟩
   intro h121
   have g138:=ne_of_beq_false h121
   refine Osk (Osk (Osk (Osk (Oq Vpf (KS ?_)))))
   refine Kf (KS ?_)
   refine Oq Vm (Oq QaS (Oq Va (KS ?_)))
   exact Kg (r118,(Qc5 + 1)) [0,0,0,0,1,2,3] ⟨(q3 hM105 (by simp only [Qdc,h116,h121,cs4])),aM1,aM1,aM1,aM1⟩
  intro h116
  have g139:=df h116
  obtain rfl:r103 = 0:=by omega
  refine Ke ?_
  have hR140:=q2 hM105 (QeI,Qfl) (by simp only [Qdc,h116,cs4])
  refine KS ?_
  refine Oq Vm (Oq (Qau Qfo 1) (Oa (AsV QcX QmR [.agg #[vi QeI,vi Qfl]] [vi QeI,vi Qfl]) fun c141=>?_))
  refine Jo 0 ?_; rintro a142 k143 rfl
  refine Jl [0] (Ent.cr1 (α:=Qas) (A:=[]) _ (Qas.mk QeI Qfl) _ aB1 (fun h=>⟨rfl,aL1,aL1⟩)) ?_
  refine Oa (ApO [1,0] QcX QcX QmR) fun c144=>?_
  refine Jo 0 ?_; rintro a145 k146 rfl
  refine Fb 16 0 fun _=>?_
  have hn148:=la QfC ([(Qas.mk QeI Qfl)]:List Qas)
  refine Oq Va (KS ?_)
  refine Oq Vm (Oq QjU (Oq Va (KS ?_)))
  exact Kg (r102,QeI,Qfl,(QfC ++ [(Qas.mk QeI Qfl)]),(Qo3 - 1),a145,k146) [0,0,0,0,1,2,3] ⟨(q3 hM86 (by simp only [Qee,h100,h116,hR140,cs4])),aM1,aM1,aM1,aM1,aM1,iv1,iv1⟩
 intro h100
 have g149:=df h100
 obtain rfl:r79 = 0:=by omega
 refine Ke ?_
 have hR150:=q2 hM86 QfC (by simp only [Qee,h100,cs4])
 refine KS ?_
 refine Oq Vm (Oq Va (Oq Va (Oq Va (KS ?_))))
 refine Jl [0] (Ent.freeze _ _) ?_
 have hq:=q4 hrr (QfC,true,0) (by simp only [Qiv,h9,h41,h72,h100,hg6,hg14,hR71,hR150,cs4]); subst hq
 exact Kr (vl a84 k85 QfC) rfl (.tmp rfl (.tmp rfl (.tmp rfl .nil))) [0] ⟨en,(by dsimp only; first | omega | (simp; done))⟩
theorem QpC (width:Int) (Qcj:Qaa width) (hw0:0 <= width /\ width <= 1000000) (rr:Qaf) (hrr:QaK width = rr):FT Tryz.prog 29 #[vi width] [] (fun g:Value=>Qaa rr.Width /\ (rr.Width = width) /\ (rr.Words.length = (((width:Int) + 63) / 64).toNat)) (fun g=>.agg #[vi rr.Width,g]) (fun g=>[os g rr.Words]):=by
 refine FTi Tryz.func29 fun w0 M0 F0=>?_
 unfold Qaa at Qcj
 refine KS ?_
 refine Oa (Al QgU [vi 0,.slice none 0 0]) fun p1=>KS ?_
 refine Oq Vm (Oq Vm (Oq QaS (Oq Qrl (Oa (Amk (α:=BitVec 64) QgV QuM 0#64 (fun _ _=>rfl)) fun c2=>?_))))
 refine Jo 0 ?_; rintro a3 k4 rfl
 refine Fb 8 0 fun _=>?_
 have hn6:=List.length_replicate (n:=(((width + 63) / 64):Int).toNat) (a:=(0#64:BitVec 64))
 refine Oq (Vbd Qju [vi width,vl a3 k4 (List.replicate (((width + 63) / 64):Int).toNat 0#64)]) (Ost (Scl [1] Qax [vi width,vl a3 k4 (List.replicate (((width + 63) / 64):Int).toNat 0#64)]) (KS ?_))
 have hq:=q4 hrr (Qaf.mk width (List.replicate (((width + 63) / 64):Int).toNat 0#64)) (by simp only [QaK,cs4]); subst hq
 exact Kr (vl a3 k4 (List.replicate (((width + 63) / 64):Int).toNat 0#64)) rfl (.cellN 0 rfl Qax rfl (Qal _ _) rfl .nil) [1] en
theorem QBt (s:Qac) (sa1:Option Addr) (sk1:Nat) (sa2:Option Addr) (sk2:Nat) (sa3:Option Addr) (sk3:Nat) (Qcc:Qaa s.Width) (hw0:0 <= s.Width /\ s.Width <= 1000) (rr:List Qaf) (hrr:QdM s = rr):FT Tryz.prog 37 #[.agg #[vi s.Width,vl sa1 sk1 s.Deps,vl sa2 sk2 s.Transfers,vl sa3 sk3 s.Boundary]] [S sa1 sk1 s.Deps,S sa2 sk2 s.Transfers,S sa3 sk3 s.Boundary] (fun g:Value=>(rr.length = s.Boundary.length)) (fun g=>g) (fun g=>[sl g rr]):=by
 refine FTi Tryz.func37 fun w0 M0 F0=>?_
 unfold Qaa at Qcc
 refine Fb 24 0 fun _=>Fb 88 1 fun _=>Fb 32 2 fun _=>KS ?_
 refine Oa (Ab [vi s.Width,vl sa1 sk1 s.Deps,vl sa2 sk2 s.Transfers,vl sa3 sk3 s.Boundary]) fun p4=>Oq Va (KS ?_)
 refine Oq Va (KS ?_)
 refine Oq Va (KS ?_)
 refine Jl [] (Ent.osNil (α:=Qaf)) ?_
 refine Kl (γ:=Nat × List Qaf × Int × Option Addr × Nat) (fun (r5,Qmb,n_7,a8,k9)=>⟨[(1,p4),(3,vl a8 k9 Qmb),(4,vi n_7)],[O a8 k9 Qmb,pv p4 [vi s.Width,vl sa1 sk1 s.Deps,vl sa2 sk2 s.Transfers,vl sa3 sk3 s.Boundary],S sa1 sk1 s.Deps,S sa2 sk2 s.Transfers,S sa3 sk3 s.Boundary],QcM s r5 Qmb n_7 = QcM s (((s.Boundary.length:Int) - 0).toNat) [] 0 /\ r5 = ((s.Boundary.length:Int) - n_7).toNat /\ (0:Int) <= n_7 /\ n_7 <= (s.Boundary.length:Int) /\ (-9223372036854775808 <= n_7 /\ n_7 <= 9223372036854775807) /\ (Qmb.length:Int) = n_7,r5⟩) (((s.Boundary.length:Int) - 0).toNat,[],0,none,0) [0,0,1,2,3] ⟨rfl,rfl,aM1,aM1,aM1,iv0⟩ ?_
 rintro ⟨r5,Qmb,n_7,a8,k9⟩ ⟨hM10,hr11,hi12,hi13,hk14,hv15⟩
 refine QaA fun _ _ hL hA=>?_; dsimp only at hL hA; subst hL hA
 refine Fb 32 0 fun _=>Fb 24 2 fun _=>Fb 88 3 fun _=>Fb 32 4 fun _=>KS ?_
 refine Oq Vm (Oq (Vfa Qc4 1) (Oq (Qah Qjd 1) (Oq (Qba Qc6) (Oq Qbh (KS ?_)))))
 refine Kc ?_ ?_
 ·intro h20
  have g21:=dt h20
  obtain ⟨r22,rfl⟩:=scc (n:=r5) aM1
  refine KS ?_
  refine Oq Vm (Oq (Vfa QbR 1) (Oq (Qah sh3 1) ?_))
  refine QaJ (QaK s.Width) fun rv24 hg25=>?_
  have hc26:=QpC s.Width pre pre rv24 hg25
  refine Oc [] QpB hc26 ?_
  rintro c23 ⟨he27,he28,he29⟩
  unfold Qaa at he27
  refine Jo 0 ?_; rintro a30 k31 rfl
  refine Fb 8 0 fun _=>Oa (AsV Qc6 Ql4 [.agg #[vi rv24.Width,vl a30 k31 rv24.Words]] [vi rv24.Width,vl a30 k31 rv24.Words]) fun c33=>?_
  refine Jo 0 ?_; rintro a34 k35 rfl
  refine Jl [1] (Ent.freeze _ _) ?_
  refine Jl [1,0] (Ent.cr1 (α:=Qaf) (A:=[S a30 k31 rv24.Words]) _ rv24 _ aB1 (fun h=>⟨_,rfl,aL1,Qaj (i:=0) rfl h⟩)) ?_
  refine Oa (ApO [3,0] Qc6 Qc6 Ql4) fun c36=>?_
  refine Jo 0 ?_; rintro a37 k38 rfl
  refine Fb 32 0 fun _=>?_
  have hn40:=la Qmb ([rv24]:List Qaf)
  refine Oq Va (KS ?_)
  refine Oq Vm (Oq QaS (Oq Va (KS ?_)))
  exact Kg (r22,(Qmb ++ [rv24]),(n_7 + 1),a37,k38) [0,2,3,4,5] ⟨(q3 hM10 (by simp only [QcM,h20,hg25,cs4])),aM1,aM1,aM1,aM1,iv1⟩
 intro h20
 have g41:=df h20
 obtain rfl:r5 = 0:=by omega
 refine Ke ?_
 have hR42:=q2 hM10 Qmb (by simp only [QcM,h20,cs4])
 refine KS ?_
 refine Oq Vm (Oq Va (KS ?_))
 refine Jl [0] (Ent.freeze _ _) ?_
 have hq:=q4 hrr Qmb (by simp only [QdM,h20,hR42,cs4]); subst hq
 exact Kr (vl a8 k9 Qmb) rfl (.tmp rfl .nil) [0] en
theorem Qzr (s:Qac) (sa1:Option Addr) (sk1:Nat) (sa2:Option Addr) (sk2:Nat) (sa3:Option Addr) (sk3:Nat) (v:List Qaf) (va0:Option Addr) (vk0:Nat) (Qcc:Qaa s.Width) (rr:Int) (hrr:Qbs s v = rr):FT Tryz.prog 81 #[.agg #[vi s.Width,vl sa1 sk1 s.Deps,vl sa2 sk2 s.Transfers,vl sa3 sk3 s.Boundary],vl va0 vk0 v] [S sa1 sk1 s.Deps,S sa2 sk2 s.Transfers,S sa3 sk3 s.Boundary,S va0 vk0 v] (fun g:Unit=>Qaa rr) (fun g=>vi rr) (fun g=>[]):=by
 refine FTi Tryz.func81 fun w0 M0 F0=>?_
 unfold Qaa at Qcc
 refine Fb 24 0 fun _=>Fb 88 1 fun _=>Fb 32 2 fun _=>Fb 32 3 fun _=>KS ?_
 refine Oa (Ab [vi s.Width,vl sa1 sk1 s.Deps,vl sa2 sk2 s.Transfers,vl sa3 sk3 s.Boundary]) fun p5=>Oq Va (KS ?_)
 refine Oq Vm (Oq (Qba Qc6) (Oq (Vfa Qc4 0) (Oq (Qah Qjd 0) (Oq (Qba Qc6) (Oq QfZ (KS ?_))))))
 refine Kc ?_ ?_
 ·intro h6
  have g7:=QaB h6
  refine KS ?_
  refine Oq Va (KS ?_)
  have hq:=q4 hrr 1 (by simp only [Qbs,h6,cs4]); subst hq
  exact Kr () rfl (.tmp rfl .nil) [] en
 intro h6
 have g8:=Qae h6
 refine KS ?_
 refine Oq Va (KS ?_)
 refine Kl (γ:=Nat × Int) (fun (r9,QlK)=>⟨[(1,vl va0 vk0 v),(2,p5),(5,vi QlK)],[pv p5 [vi s.Width,vl sa1 sk1 s.Deps,vl sa2 sk2 s.Transfers,vl sa3 sk3 s.Boundary],S sa1 sk1 s.Deps,S sa2 sk2 s.Transfers,S sa3 sk3 s.Boundary,S va0 vk0 v],Qcd v r9 QlK = Qcd v (((v.length:Int) - 0).toNat) 0 /\ r9 = ((v.length:Int) - QlK).toNat /\ (0:Int) <= QlK /\ QlK <= (v.length:Int) /\ (-9223372036854775808 <= QlK /\ QlK <= 9223372036854775807),r9⟩) (((v.length:Int) - 0).toNat,0) [0,1,2,3,4] ⟨rfl,rfl,aM1,aM1,aM1⟩ ?_
 rintro ⟨r9,QlK⟩ ⟨hM11,hr12,hi13,hi14,hk15⟩
 refine QaA fun _ _ hL hA=>?_; dsimp only at hL hA; subst hL hA
 refine Fb 24 1 fun _=>Fb 88 2 fun _=>Fb 32 3 fun _=>Fb 32 4 fun _=>KS ?_
 refine Oq Vm (Oq Vm (Oq (Qba Qc6) (Oq Qbh (KS ?_))))
 refine Kc ?_ ?_
 ·intro h20
  have g21:=dt h20
  obtain ⟨r22,rfl⟩:=scc (n:=r9) aM1
  refine KS ?_
  refine Oq Vm (Oq Vm (Oq (Vi Qc6 4) ?_))
  refine Qa3 QlK.toNat 4 rfl rng fun a23 k24 hb25=>?_
  unfold Qaa at hb25
  refine Fb 8 1 fun _=>Oq (Qau Qax 0) ?_
  refine QaJ (QaT (v.getD QlK.toNat default)) fun rv27 hg28=>?_
  have hc29:=QsI ((v.getD QlK.toNat default)) a23 k24 pre rv27 hg28
  refine Oc [1] Qsy hc29 ?_
  rintro - -
  refine Oq Qcy (KS ?_)
  refine Kc ?_ ?_
  ·intro h30
   have h32:=not_true h30
   refine KS ?_
   refine Oq Va (KS ?_)
   have hR34:=q2 hM11 (.ret 1) (by simp only [Qcd,h20,h30,h32,hg28,cs4])
   have hq:=q4 hrr 1 (by simp only [Qbs,h6,h20,h30,h32,hg28,hR34,cs4]); subst hq
   exact Kr () rfl (.tmp rfl .nil) [] en
  intro h30
  have h36:=not_false h30
  refine KS ?_
  refine Oq Vm (Oq QaS (Oq Va (KS ?_)))
  exact Kg (r22,(QlK + 1)) [2,3,4,5,6] ⟨(q3 hM11 (by simp only [Qcd,h20,h30,h36,hg28,cs4])),aM1,aM1,aM1,aM1⟩
 intro h20
 have g38:=df h20
 obtain rfl:r9 = 0:=by omega
 refine Ke ?_
 have hR39:=q2 hM11 (.brk ()) (by simp only [Qcd,h20,cs4])
 refine KS ?_
 refine Oq Va (KS ?_)
 refine Kl (γ:=Nat × Int) (fun (r40,Qmc)=>⟨[(1,vl va0 vk0 v),(2,p5),(6,vi Qmc)],[pv p5 [vi s.Width,vl sa1 sk1 s.Deps,vl sa2 sk2 s.Transfers,vl sa3 sk3 s.Boundary],S sa1 sk1 s.Deps,S sa2 sk2 s.Transfers,S sa3 sk3 s.Boundary,S va0 vk0 v],Qcf s v r40 Qmc = Qcf s v (((v.length:Int) - 0).toNat) 0 /\ r40 = ((v.length:Int) - Qmc).toNat /\ (0:Int) <= Qmc /\ Qmc <= (v.length:Int) /\ (-9223372036854775808 <= Qmc /\ Qmc <= 9223372036854775807),r40⟩) (((v.length:Int) - 0).toNat,0) [0,1,2,3,4] ⟨rfl,rfl,aM1,aM1,aM1⟩ ?_
 rintro ⟨r40,Qmc⟩ ⟨hM42,hr43,hi44,hi45,hk46⟩
 refine QaA fun _ _ hL hA=>?_; dsimp only at hL hA; subst hL hA
 refine Fb 24 1 fun _=>Fb 88 2 fun _=>Fb 32 3 fun _=>Fb 32 4 fun _=>KS ?_
 refine Oq Vm (Oq Vm (Oq (Qba Qc6) (Oq Qbh (KS ?_))))
 refine Kc ?_ ?_
 ·intro h51
  have g52:=dt h51
  obtain ⟨r53,rfl⟩:=scc (n:=r40) aM1
  refine KS ?_
  refine Qa3 Qmc.toNat 4 rfl rng fun a54 k55 hb56=>?_
  unfold Qaa at hb56
  refine Fb 8 1 fun _=>?_
  refine Kq [0,0,3,7,15,0,32,127] Qco ?_
  refine Qv [] Vm (Qv [] Vm (Qv [6] (Vi Qc6 0) (Qv [0] (Vfa Qbi 0) (Qv [0] (Qah sh3 0) (Qv [2] (Vfa QbR 0) (Qv [2] (Qah sh3 0) (Qv [] QfZ ?_)))))))
  refine Qn ⟨by kernel_rfl,?_⟩
  refine Kc ?_ ?_
  ·intro h58
   have g59:=QaB h58
   refine KS ?_
   refine Oq Va (KS ?_)
   have hR60:=q2 hM42 (.ret 2) (by simp only [Qcf,h51,h58,cs4])
   have hq:=q4 hrr 2 (by simp only [Qbs,h6,h20,h51,h58,hR39,hR60,cs4]); subst hq
   exact Kr () rfl (.tmp rfl .nil) [] en
  intro h58
  have g61:=Qae h58
  refine KS ?_
  refine Oq Vm (Oq QaS (Oq Va (KS ?_)))
  exact Kg (r53,(Qmc + 1)) [2,3,4,5,6] ⟨(q3 hM42 (by simp only [Qcf,h51,h58,cs4])),aM1,aM1,aM1,aM1⟩
 intro h51
 have g62:=df h51
 obtain rfl:r40 = 0:=by omega
 refine Ke ?_
 have hR63:=q2 hM42 (.brk ()) (by simp only [Qcf,h51,cs4])
 refine KS ?_
 refine Oq Va (KS ?_)
 have hq:=q4 hrr 0 (by simp only [Qbs,h6,h20,h51,hR39,hR63,cs4]); subst hq
 exact Kr () rfl (.tmp rfl .nil) [] en
theorem Qqn (s:Qaf) (sa1:Option Addr) (sk1:Nat) (b:Int) (Qcc:Qaa s.Width) (QfG:Qaa b) (hb0:0 <= b /\ b < s.Width) (hw0:s.Width <= 1000000) (rr:Qaf) (hrr:Qbx s b = rr):FT Tryz.prog 41 #[.agg #[vi s.Width,vl sa1 sk1 s.Words],vi b] [S sa1 sk1 s.Words] (fun g:Value=>Qaa rr.Width /\ (rr.Width = s.Width) /\ (rr.Words.length = ((s.Width + 63) / 64).toNat)) (fun g=>.agg #[vi rr.Width,g]) (fun g=>[os g rr.Words]):=by
 refine FTi Tryz.func41 fun w0 M0 F0=>?_
 unfold Qaa at Qcc QfG
 refine Fb 8 0 fun _=>KS ?_
 refine Oa (Ab [vi s.Width,vl sa1 sk1 s.Words]) fun p2=>Oa (Al QgU [vi 0,.slice none 0 0]) fun p3=>KS ?_
 refine Oq (Vfa Qbi 1) (Oq (Qah sh3 1) ?_)
 refine QaJ (QaK s.Width) fun rv5 hg6=>?_
 have hc7:=QpC s.Width pre pre rv5 hg6
 refine Oc [] QpB hc7 ?_
 rintro c4 ⟨he8,he9,he10⟩
 unfold Qaa at he8
 refine Jo 0 ?_; rintro a11 k12 rfl
 refine Fb 8 0 fun _=>?_
 refine Oa (Al QgU [vi 0,.slice none 0 0]) fun p14=>Ost (Scl [0] Qax [vi rv5.Width,vl a11 k12 rv5.Words]) (KS ?_)
 refine Oq (Vfa Qcm 0) (Oq (Qah QiV 0) (Oq (Vfa Qcm 3) (Oq (Qah QiV 3) (Oa (OpA.frame [1,3] rfl (OpA.copyS (α:=BitVec 64) rfl rfl rfl QgV rfl)) fun u15=>?_))))
 have hn16:(s.Words.take rv5.Words.length ++ rv5.Words.drop s.Words.length).length = rv5.Words.length:=Qsc _ _
 refine KS ?_
 refine Oq (Vfa Qcm 1) (Oq (Qah QiV 1) (Oq Vm (Oq Qrl (Oq (Vi QgV 0) (Oq (QpT QnH 0) (Oq Vm (Oq QtG (Oq (VcU un3 QqC) (Oq (Qrv (a:=1#64)) ?_)))))))))
 refine Oq QwK (Oq (Vi QgV 0) (Ost (SoU [0] QnH) (KS ?_)))
 refine Oq (Qau Qax 1) (Ost (Scl [2] Qax [vi rv5.Width,vl a11 k12 rv5.Words]) (KS ?_))
 have hq:=q4 hrr (Qaf.mk rv5.Width ((s.Words.take rv5.Words.length ++ rv5.Words.drop s.Words.length).set ((b / 64):Int).toNat (((s.Words.take rv5.Words.length ++ rv5.Words.drop s.Words.length).getD ((b / 64):Int).toNat 0#64) ||| (1#64 <<< (((BitVec.ofInt 64 (b % 64)).toNat:Int)).toNat)))) (by simp only [Qbx,hg6,cs4]); subst hq
 exact Kr (vl a11 k12 rv5.Words) rfl (.cellN 0 rfl Qax rfl (Qal _ _) rfl .nil) [1] en
theorem Qvh (t:Qad) (ta1:Option Addr) (tk1:Nat) (ta3:Option Addr) (tk3:Nat) (ta4:Option Addr) (tk4:Nat) (s:Qaf) (sa1:Option Addr) (sk1:Nat) (Qkl:Qaa t.Gen.Width) (Qkm:Qaa t.Kill.Width) (Qcc:Qaa s.Width) (ht:Qai t = true) (hw:t.Gen.Width = s.Width) (rr:Qaf) (hrr:Qit t s = rr):FT Tryz.prog 153 #[.agg #[vi t.Gen.Width,vl ta1 tk1 t.Gen.Words,vi t.Kill.Width,vl ta3 tk3 t.Kill.Words,vl ta4 tk4 t.Copies],.agg #[vi s.Width,vl sa1 sk1 s.Words]] [S ta1 tk1 t.Gen.Words,S ta3 tk3 t.Kill.Words,S ta4 tk4 t.Copies,S sa1 sk1 s.Words] (fun g:Value=>Qaa rr.Width) (fun g=>.agg #[vi rr.Width,g]) (fun g=>[sl g rr.Words]):=by
 refine FTi Tryz.func153 fun w0 M0 F0=>?_
 unfold Qaa at Qkl Qkm Qcc
 refine Fb 8 0 fun _=>Fb 8 1 fun _=>Fb 16 2 fun _=>Fb 8 3 fun _=>?_
 have hvt:=QAP ht
 refine KS ?_
 refine Oa (Ab [vi t.Gen.Width,vl ta1 tk1 t.Gen.Words,vi t.Kill.Width,vl ta3 tk3 t.Kill.Words,vl ta4 tk4 t.Copies]) fun p5=>Oa (Ab [vi s.Width,vl sa1 sk1 s.Words]) fun p6=>Oa (Al QgU [vi 0,.slice none 0 0]) fun p7=>KS ?_
 refine Oq (Vfa QdB 2) (Oq (Qmr Qax 2 [vi t.Gen.Width,vl ta1 tk1 t.Gen.Words]) (Oa (Al QgU [vi 0,.slice none 0 0]) fun p8=>Ost (Scl [0] Qax [vi t.Gen.Width,vl ta1 tk1 t.Gen.Words]) (KS ?_)))
 refine Oq Va (KS ?_)
 refine Kl (γ:=Nat × Int × List (BitVec 64) × Int × Option Addr × Nat) (fun (r9,Qfv,Qfw,QnB,a13,k14)=>⟨[(2,p5),(3,p6),(4,p7),(5,p8),(6,vi QnB)],[S a13 k14 Qfw,Cl p8 [vi Qfv,vl a13 k14 Qfw],Cl p7 [vi 0,.slice none 0 0],pv p6 [vi s.Width,vl sa1 sk1 s.Words],pv p5 [vi t.Gen.Width,vl ta1 tk1 t.Gen.Words,vi t.Kill.Width,vl ta3 tk3 t.Kill.Words,vl ta4 tk4 t.Copies],S ta1 tk1 t.Gen.Words,S ta3 tk3 t.Kill.Words,S ta4 tk4 t.Copies,S sa1 sk1 s.Words],Qca t s r9 Qfv Qfw QnB = Qca t s (((s.Width:Int) - 0).toNat) t.Gen.Width t.Gen.Words 0 /\ r9 = ((s.Width:Int) - QnB).toNat /\ (0:Int) <= QnB /\ (QnB <= s.Width \/ QnB = 0) /\ (-9223372036854775808 <= Qfv /\ Qfv <= 9223372036854775807) /\ (-9223372036854775808 <= QnB /\ QnB <= 9223372036854775807) /\ Qfv = s.Width /\ Qfw.length = ((s.Width + 63) / 64).toNat,r9⟩) (((s.Width:Int) - 0).toNat,t.Gen.Width,t.Gen.Words,0,ta1,tk1) [4,0,0,0,1,2,3,4,5] ⟨rfl,rfl,aM1,(.inr rfl),aM1,aM1,iv0,iv0⟩ ?_
 rintro ⟨r9,Qfv,Qfw,QnB,a13,k14⟩ ⟨hM15,hr16,hi17,hi18,hk19,hk20,hv21,hv22⟩
 refine QaA fun _ _ hL hA=>?_; dsimp only at hL hA; subst hL hA
 refine Fb 8 0 fun _=>Fb 8 5 fun _=>Fb 8 6 fun _=>Fb 16 7 fun _=>Fb 8 8 fun _=>KS ?_
 refine Oq Vm (Oq (Vfa Qbi 3) (Oq (Qah sh3 3) (Oq Qbh (KS ?_))))
 refine Kc ?_ ?_
 ·intro h28
  have g29:=dt h28
  obtain ⟨r30,rfl⟩:=scc (n:=r9) aM1
  refine KS ?_
  refine Oq Va (KS ?_)
  have hterm43:QbJ t s QnB (s.Width.toNat + 1) Qfv Qfw 0 ≠ LR.oof:=QhB _ _ _ _ _ _ _ aM1 aM1
  refine Kl (γ:=Nat × Int × List (BitVec 64) × Int × Option Addr × Nat) (fun (r31,Qeh,Qfx,Qqr,a35,k36)=>⟨[(2,p5),(3,p6),(4,p7),(5,p8),(6,vi QnB),(7,vi Qqr)],[S a35 k36 Qfx,Cl p8 [vi Qeh,vl a35 k36 Qfx],Cl p7 [vi 0,.slice none 0 0],pv p6 [vi s.Width,vl sa1 sk1 s.Words],pv p5 [vi t.Gen.Width,vl ta1 tk1 t.Gen.Words,vi t.Kill.Width,vl ta3 tk3 t.Kill.Words,vl ta4 tk4 t.Copies],S ta1 tk1 t.Gen.Words,S ta3 tk3 t.Kill.Words,S ta4 tk4 t.Copies,S sa1 sk1 s.Words],QbJ t s QnB r31 Qeh Qfx Qqr = QbJ t s QnB (s.Width.toNat + 1) Qfv Qfw 0 /\ (-9223372036854775808 <= Qeh /\ Qeh <= 9223372036854775807) /\ (-9223372036854775808 <= Qqr /\ Qqr <= 9223372036854775807) /\ Qeh = s.Width /\ Qfx.length = ((s.Width + 63) / 64).toNat /\ 0 <= Qqr,r31⟩) ((s.Width.toNat + 1),Qfv,Qfw,0,a13,k14) [0,1,1,1,2,3,4,5,6] ⟨rfl,aM1,aM1,iv0,iv0,iv0⟩ ?_
  rintro ⟨r31,Qeh,Qfx,Qqr,a35,k36⟩ ⟨hM37,hk38,hk39,hv40,hv41,hv42⟩
  refine QaA fun _ _ hL hA=>?_; dsimp only at hL hA; subst hL hA
  refine Fb 8 0 fun _=>Fb 8 5 fun _=>Fb 8 6 fun _=>Fb 16 7 fun _=>Fb 8 8 fun _=>?_
  rcases r31 with _ | r31
  ·exact absurd (hM37.symm.trans rfl) hterm43
  refine KS ?_
  refine Oq (Qau Qax 3) (Oq Vm ?_)
  refine QaJ (Qap s QnB) fun rv49 hg50=>?_
  have hc51:=QrH s sa1 sk1 QnB pre pre rv49 hg50
  refine Oc [8] QrF hc51 ?_
  rintro - -
  refine Oq Vm ?_
  refine Js 19 ?_ ?_
  ·intro h52
   refine Oq Vm (Oq (Vfa Qbi 3) (Oq (Qah sh3 3) (Oq Qbh (Oq Vpt (KS ?_)))))
   refine Kc ?_ ?_
   ·intro h54
    have g55:=dt h54
    refine KS ?_
    refine Oq (Qau Qek 4) (Oq Vm (Oq Vm ?_))
    refine QaJ (Qbv t QnB Qqr) fun rv56 hg57=>?_
    have hc58:=QvW t ta1 tk1 ta3 tk3 ta4 tk4 QnB Qqr pre pre pre pre rv56 hg57
    refine Oc [5,6,7] QvM hc58 ?_
    rintro - -
    refine KS ?_
    refine Kc ?_ ?_
    ·intro h59
     refine KS ?_
     refine Oq (Qau Qax 1) (Oq Vm ?_)
     refine QaJ (Qbx (Qaf.mk Qeh Qfx) Qqr) fun rv62 hg63=>?_
     have hc64:=Qqn ((Qaf.mk Qeh Qfx)) a35 k36 Qqr pre pre pre pre rv62 hg63
     refine Oc [0] Qqq hc64 ?_
     rintro c61 ⟨he65,he66,he67⟩
     unfold Qaa at he65
     have he66:(rv62.Width = Qeh):=he66
     have he67:(rv62.Words.length = ((Qeh + 63) / 64).toNat):=he67
     refine Jo 0 ?_; rintro a68 k69 rfl
     refine Fb 8 0 fun _=>?_
     refine Ost (Scl [2] Qax [vi rv62.Width,vl a68 k69 rv62.Words]) (KS ?_)
     refine Oq Vm (Oq QaS (Oq Va (KS ?_)))
     refine Jl [1] (Ent.freeze _ _) ?_
     exact Kg (r31,rv62.Width,rv62.Words,(Qqr + 1),a68,k69) [0,1,2,2,3,4,5,6,7] ⟨(q3 hM37 (by simp only [QbJ,h52,h54,h59,hg50,hg57,hg63,cs4])),aM1,aM1,iv1,iv1,iv1⟩
    intro h59
    refine KS ?_
    refine Oq Vm (Oq QaS (Oq Va (KS ?_)))
    exact Kg (r31,Qeh,Qfx,(Qqr + 1),a35,k36) [0,1,1,1,2,3,4,5,6] ⟨(q3 hM37 (by simp only [QbJ,h52,h54,h59,hg50,hg57,cs4])),aM1,aM1,iv1,iv1,iv1⟩
   intro h54
   have g72:=df h54
   refine Ke ?_
   have hR73:=q2 hM37 (.brk (Qeh,Qfx)) (by simp only [QbJ,h52,h54,hg50,cs4])
   refine KS ?_
   refine Oq Vm (Oq QaS (Oq Va (KS ?_)))
   exact Kg (r30,Qeh,Qfx,(QnB + 1),a35,k36) [0,1,1,1,2,3,4,5,6] ⟨(q3 hM15 (by simp only [Qca,h28,h52,h54,hg50,hR73,cs4])),aM1,aM1,aM1,aM1,aM1,iv1,iv1⟩
  intro h52
  refine Osk (Osk (Osk (Osk (Oq Vpf (KS ?_)))))
  refine Kf ?_
  refine Ke ?_
  have hR75:=q2 hM37 (.brk (Qeh,Qfx)) (by simp only [QbJ,h52,hg50,cs4])
  refine KS ?_
  refine Oq Vm (Oq QaS (Oq Va (KS ?_)))
  exact Kg (r30,Qeh,Qfx,(QnB + 1),a35,k36) [0,1,1,1,2,3,4,5,6] ⟨(q3 hM15 (by simp only [Qca,h28,h52,hg50,hR75,cs4])),aM1,aM1,aM1,aM1,aM1,iv1,iv1⟩
 intro h28
 have g76:=df h28
 obtain rfl:r9 = 0:=by omega
 refine Ke ?_
 have hR77:=q2 hM15 (Qfv,Qfw) (by simp only [Qca,h28,cs4])
 refine KS ?_
 refine Oq (Qau Qax 1) (Ost (Scl [2] Qax [vi Qfv,vl a13 k14 Qfw]) (KS ?_))
 have hq:=q4 hrr (Qaf.mk Qfv Qfw) (by simp only [Qit,h28,hR77,cs4]); subst hq
 exact Kr (vl a13 k14 Qfw) rfl (.cellN 0 rfl Qax rfl (Qal _ _) rfl .nil) [1] en
theorem Qxw (t:Qad) (ta1:Option Addr) (tk1:Nat) (ta3:Option Addr) (tk3:Nat) (ta4:Option Addr) (tk4:Nat) (s:Qaf) (sa1:Option Addr) (sk1:Nat) (Qkl:Qaa t.Gen.Width) (Qkm:Qaa t.Kill.Width) (Qcc:Qaa s.Width) (rr:Qaf × Int) (hrr:QdA t s = rr):FT Tryz.prog 118 #[.agg #[vi t.Gen.Width,vl ta1 tk1 t.Gen.Words,vi t.Kill.Width,vl ta3 tk3 t.Kill.Words,vl ta4 tk4 t.Copies],.agg #[vi s.Width,vl sa1 sk1 s.Words]] [S ta1 tk1 t.Gen.Words,S ta3 tk3 t.Kill.Words,S ta4 tk4 t.Copies,S sa1 sk1 s.Words] (fun g:Value=>Qaa rr.1.Width /\ Qaa rr.2) (fun g=>.tuple #[.agg #[vi rr.1.Width,g],vi rr.2]) (fun g=>[sl g rr.1.Words]):=by
 refine FTi Tryz.func118 fun w0 M0 F0=>?_
 unfold Qaa at Qkl Qkm Qcc
 refine Fb 8 0 fun _=>Fb 8 1 fun _=>Fb 16 2 fun _=>Fb 8 3 fun _=>KS ?_
 refine Oa (Ab [vi t.Gen.Width,vl ta1 tk1 t.Gen.Words,vi t.Kill.Width,vl ta3 tk3 t.Kill.Words,vl ta4 tk4 t.Copies]) fun p5=>Oa (Ab [vi s.Width,vl sa1 sk1 s.Words]) fun p6=>Oa (Al QgU [vi 0,.slice none 0 0]) fun p7=>Oq Va (KS ?_)
 refine Oq (Qau Qek 2) ?_
 refine QaJ (Qai t) fun rv8 hg9=>?_
 have hc10:=QuI t ta1 tk1 ta3 tk3 ta4 tk4 pre pre rv8 hg9
 refine Oc [3,4,5] QuD hc10 ?_
 rintro - -
 refine Oq Qcy (Oq Vm ?_)
 refine Js 9 ?_ ?_
 ·intro h11
  have h13:=not_true h11
  refine Osk (Osk (Osk (Oq Vpt (KS ?_))))
  refine Kt (KS ?_)
  refine Oq (Vbd Qju [vi 0,.slice none 0 0]) (Ost (Scl [0] Qax [vi 0,.slice none 0 0]) (Oq Va (KS ?_)))
  refine Jl [] (Ent.slNil (α:=BitVec 64)) ?_
  have hq:=q4 hrr ((Qaf.mk 0 []),1) (by simp only [QdA,h11,h13,hg9,cs4]); subst hq
  exact Kr (.slice none 0 0) rfl (.cellN 1 rfl Qax rfl (Qal _ _) rfl (.tmp rfl .nil)) [0] en
 intro h11
 have h16:=not_false h11
 refine Oq (Qau Qax 1) ?_
 refine QaJ (QaT s) fun rv18 hg19=>?_
 have hc20:=QsI s sa1 sk1 pre rv18 hg19
 refine Oc [6] Qsy hc20 ?_
 rintro - -
 refine Oq Qcy (Oq Vpf (KS ?_))
 refine Kc ?_ ?_
 ·intro h21
  have h23:=not_true h21
  refine KS ?_
  refine Oq (Vbd Qju [vi 0,.slice none 0 0]) (Ost (Scl [0] Qax [vi 0,.slice none 0 0]) (Oq Va (KS ?_)))
  refine Jl [] (Ent.slNil (α:=BitVec 64)) ?_
  have hq:=q4 hrr ((Qaf.mk 0 []),1) (by simp only [QdA,h11,h16,h21,h23,hg9,hg19,cs4]); subst hq
  exact Kr (.slice none 0 0) rfl (.cellN 1 rfl Qax rfl (Qal _ _) rfl (.tmp rfl .nil)) [0] en
 intro h21
 have h26:=not_false h21
 refine KS ?_
 refine Oq (Vfa QdB 2) (Oq (Qol Qbi 2) (Oq (Qah sh3 2) (Oq (Vfa Qbi 1) (Oq (Qah sh3 1) (Oq QfZ (KS ?_))))))
 refine Kc ?_ ?_
 ·intro h28
  have g29:=QaB h28
  refine KS ?_
  refine Oq (Vbd Qju [vi 0,.slice none 0 0]) (Ost (Scl [0] Qax [vi 0,.slice none 0 0]) (Oq Va (KS ?_)))
  refine Jl [] (Ent.slNil (α:=BitVec 64)) ?_
  have hq:=q4 hrr ((Qaf.mk 0 []),2) (by simp only [QdA,h11,h16,h21,h26,h28,hg9,hg19,cs4]); subst hq
  exact Kr (.slice none 0 0) rfl (.cellN 1 rfl Qax rfl (Qal _ _) rfl (.tmp rfl .nil)) [0] en
 intro h28
 have g30:=Qae h28
 refine KS ?_
 refine Oq (Qau Qek 2) (Oq (Qau Qax 1) ?_)
 refine QaJ (Qit t s) fun rv32 hg33=>?_
 have hc34:=Qvh t ta1 tk1 ta3 tk3 ta4 tk4 s sa1 sk1 pre pre pre (by simp only [h11,h16,h21,h26,h28,hg9,hg19]) pre rv32 hg33
 refine Oc [3,4,5,6] QuW hc34 ?_
 rintro c31 he35
 unfold Qaa at he35
 refine Jo 0 ?_; rintro a36 k37 rfl
 refine Fb 8 0 fun _=>?_
 refine Ost (Scl [1] Qax [vi rv32.Width,vl a36 k37 rv32.Words]) (Oq Va (KS ?_))
 have hq:=q4 hrr (rv32,0) (by simp only [QdA,h11,h16,h21,h26,h28,hg9,hg19,hg33,cs4]); subst hq
 exact Kr (vl a36 k37 rv32.Words) rfl (.cellN 0 rfl Qax rfl (Qal _ _) rfl (.tmp rfl .nil)) [1] en
theorem Qzc (a:Qaf) (aa1:Option Addr) (ak1:Nat) (b:Qaf) (ba1:Option Addr) (bk1:Nat) (one:Bool) (two:Bool) (both:Bool) (Qja:Qaa a.Width) (QfG:Qaa b.Width) (rr:Qaf × Int) (hrr:QgA a b one two both = rr):FT Tryz.prog 71 #[.agg #[vi a.Width,vl aa1 ak1 a.Words],.agg #[vi b.Width,vl ba1 bk1 b.Words],vb one,vb two,vb both] [S aa1 ak1 a.Words,S ba1 bk1 b.Words] (fun g:Value=>Qaa rr.1.Width /\ Qaa rr.2) (fun g=>.tuple #[.agg #[vi rr.1.Width,g],vi rr.2]) (fun g=>[sl g rr.1.Words]):=by
 refine FTi Tryz.func71 fun w0 M0 F0=>?_
 unfold Qaa at Qja QfG
 refine Fb 8 0 fun _=>Fb 8 1 fun _=>KS ?_
 refine Oa (Ab [vi a.Width,vl aa1 ak1 a.Words]) fun p3=>Oa (Ab [vi b.Width,vl ba1 bk1 b.Words]) fun p4=>Oa (Al QgU [vi 0,.slice none 0 0]) fun p5=>Oq Va (KS ?_)
 refine Oq (Qau Qax 2) ?_
 refine QaJ (QaT a) fun rv6 hg7=>?_
 have hc8:=QsI a aa1 ak1 pre rv6 hg7
 refine Oc [3] Qsy hc8 ?_
 rintro - -
 refine Oq Qcy (Oq Vm ?_)
 refine Js 19 ?_ ?_
 ·intro h9
  have h11:=not_true h9
  refine Osk (Osk (Osk (Oq Vpt (KS ?_))))
  refine Kt (KS ?_)
  refine Oq (Vbd Qju [vi 0,.slice none 0 0]) (Ost (Scl [0] Qax [vi 0,.slice none 0 0]) (Oq Va (KS ?_)))
  refine Jl [] (Ent.slNil (α:=BitVec 64)) ?_
  have hq:=q4 hrr ((Qaf.mk 0 []),1) (by simp only [QgA,h9,h11,hg7,cs4]); subst hq
  exact Kr (.slice none 0 0) rfl (.cellN 1 rfl Qax rfl (Qal _ _) rfl (.tmp rfl .nil)) [0] en
 intro h9
 have h14:=not_false h9
 try have hrg:=Qqe (s:=a) (by simp only [h9,h14,hg7])
 refine Oq (Qau Qax 1) ?_
 refine QaJ (QaT b) fun rv16 hg17=>?_
 have hc18:=QsI b ba1 bk1 pre rv16 hg17
 refine Oc [4] Qsy hc18 ?_
 rintro - -
 refine Oq Qcy (Oq Vpf (KS ?_))
 refine Kc ?_ ?_
 ·intro h19
  have h21:=not_true h19
  refine KS ?_
  refine Oq (Vbd Qju [vi 0,.slice none 0 0]) (Ost (Scl [0] Qax [vi 0,.slice none 0 0]) (Oq Va (KS ?_)))
  refine Jl [] (Ent.slNil (α:=BitVec 64)) ?_
  have hq:=q4 hrr ((Qaf.mk 0 []),1) (by simp only [QgA,h9,h14,h19,h21,hg7,hg17,cs4]); subst hq
  exact Kr (.slice none 0 0) rfl (.cellN 1 rfl Qax rfl (Qal _ _) rfl (.tmp rfl .nil)) [0] en
 intro h19
 have h24:=not_false h19
 try have hrg:=Qqe (s:=a) (by simp only [h9,h14,h19,h24,hg7,hg17])
 refine KS ?_
 refine Oq (Vfa Qbi 2) (Oq (Qah sh3 2) (Oq (Vfa Qbi 1) (Oq (Qah sh3 1) (Oq QfZ (KS ?_)))))
 refine Kc ?_ ?_
 ·intro h26
  have g27:=QaB h26
  refine KS ?_
  refine Oq (Vbd Qju [vi 0,.slice none 0 0]) (Ost (Scl [0] Qax [vi 0,.slice none 0 0]) (Oq Va (KS ?_)))
  refine Jl [] (Ent.slNil (α:=BitVec 64)) ?_
  have hq:=q4 hrr ((Qaf.mk 0 []),2) (by simp only [QgA,h9,h14,h19,h24,h26,hg7,hg17,cs4]); subst hq
  exact Kr (.slice none 0 0) rfl (.cellN 1 rfl Qax rfl (Qal _ _) rfl (.tmp rfl .nil)) [0] en
 intro h26
 have g28:=Qae h26
 refine KS ?_
 refine Oq (Vfa Qbi 2) (Oq (Qah sh3 2) ?_)
 refine QaJ (QaK a.Width) fun rv30 hg31=>?_
 have hc32:=QpC a.Width pre pre rv30 hg31
 refine Oc [] QpB hc32 ?_
 rintro c29 ⟨he33,he34,he35⟩
 unfold Qaa at he33
 refine Jo 0 ?_; rintro a36 k37 rfl
 refine Fb 8 0 fun _=>?_
 refine Oa (Al QgU [vi 0,.slice none 0 0]) fun p39=>Ost (Scl [0] Qax [vi rv30.Width,vl a36 k37 rv30.Words]) (KS ?_)
 refine Oq Va (KS ?_)
 refine Kl (γ:=Nat × Int × List (BitVec 64) × Int × Option Addr × Nat) (fun (r40,Qfy,QhL,Qko,a44,k45)=>⟨[(2,vb one),(3,vb two),(4,vb both),(5,p3),(6,p4),(10,p5),(12,p39),(13,vi Qko)],[O a44 k45 QhL,Cl p39 [vi Qfy,vl a44 k45 QhL],Cl p5 [vi 0,.slice none 0 0],pv p4 [vi b.Width,vl ba1 bk1 b.Words],pv p3 [vi a.Width,vl aa1 ak1 a.Words],S aa1 ak1 a.Words,S ba1 bk1 b.Words],Qa7 a b one two both r40 Qfy QhL Qko = Qa7 a b one two both (((a.Width:Int) - 0).toNat) rv30.Width rv30.Words 0 /\ r40 = ((a.Width:Int) - Qko).toNat /\ (0:Int) <= Qko /\ (Qko <= a.Width \/ Qko = 0) /\ (-9223372036854775808 <= Qfy /\ Qfy <= 9223372036854775807) /\ (-9223372036854775808 <= Qko /\ Qko <= 9223372036854775807) /\ Qfy = a.Width /\ QhL.length = ((a.Width + 63) / 64).toNat,r40⟩) (((a.Width:Int) - 0).toNat,rv30.Width,rv30.Words,0,a36,k37) [1,0,0,0,1,2,3] ⟨rfl,rfl,aM1,(.inr rfl),aM1,aM1,iv0,iv0⟩ ?_
 rintro ⟨r40,Qfy,QhL,Qko,a44,k45⟩ ⟨hM46,hr47,hi48,hi49,hk50,hk51,hv52,hv53⟩
 refine QaA fun _ _ hL hA=>?_; dsimp only at hL hA; subst hL hA
 refine Fb 8 0 fun _=>Fb 8 5 fun _=>Fb 8 6 fun _=>KS ?_
 refine Oq Vm (Oq (Vfa Qbi 4) (Oq (Qah sh3 4) (Oq Qbh (KS ?_))))
 refine Kc ?_ ?_
 ·intro h57
  have g58:=dt h57
  obtain ⟨r59,rfl⟩:=scc (n:=r40) aM1
  refine KS ?_
  refine Qam [0,0,3,0,0,31,63,127] Qco ?_
  refine Dv [4] (Qau Qax 0) (Dv [] Vm ?_)
  refine QaJ (Qap a Qko) fun rv60 hg61=>?_
  refine Dx [5] [] [1,0] (fun G=>vb rv60) [fun G=>SP.fact (True)] (fun G=>xC [0] QrF (QrH a aa1 ak1 Qko pre pre rv60 hg61)) (Dv [3] (Qau Qax 0) (Dv [] Vm ?_))
  refine QaJ (Qap b Qko) fun rv62 hg63=>?_
  refine Dx [6] [] [1,0] (fun G=>vb rv62) [fun G=>SP.fact (True)] (fun G=>xC [0] QrF (QrH b ba1 bk1 Qko pre pre rv62 hg63)) (Dv [] Va (Dv [] Va ?_))
  refine Dn ⟨by kernel_rfl,fun G=>?_⟩
  refine Jw2 [(2,vb one),(3,vb two),(4,vb both),(5,p3),(6,p4),(10,p5),(12,p39),(13,vi Qko),(14,vb rv60),(15,vb rv62)] [0,1,2,3,4,5,6] [SP.fact (True),SP.fact (True)] ?_
  refine Jk [0,0,0,0,1,2,3] ?_
  refine KS ?_
  refine Oq Vm (Oq Vm ?_)
  refine Js 47 ?_ ?_
  ·intro h64
   try have hrg:=Qqe (s:=a) (by simp only [h9,h14,h19,h24,h26,h57,h64,hg7,hg17,hg31,hg61,hg63])
   refine Oq Vm (Oq Vpt (Oq Vm ?_))
   refine Js 50 ?_ ?_
   ·intro h66
    try have hrg:=Qqe (s:=a) (by simp only [h9,h14,h19,h24,h26,h57,h64,h66,hg7,hg17,hg31,hg61,hg63])
    refine Oq Vm (Oq Vpt (Oq Vm ?_))
    refine Js 53 ?_ ?_
    ·intro h68
     refine Osk (Osk (Osk (Osk (Osk (Osk (Osk (Osk (Oq Vpt (Oq Vm ?_)))))))))
     refine Osk (Osk (Osk (Osk (Osk (Osk (Osk (Osk (Oq Vpt (KS ?_)))))))))
     refine Kt (KS ?_)
     refine Oq (Qau Qax 1) (Oq Vm ?_)
     refine QaJ (Qbx (Qaf.mk Qfy QhL) Qko) fun rv71 hg72=>?_
     refine Oc [0] Qqq (Qc2 (A:=_) hlx (Qd3 (Ent.take (is:=[0]) rfl) (Qqn ((Qaf.mk Qfy QhL)) a44 k45 Qko pre pre pre pre rv71 hg72))) ?_ (ht:=rfl)
     rintro c70 ⟨he73,he74,he75⟩
     unfold Qaa at he73
     have he74:(rv71.Width = Qfy):=he74
     have he75:(rv71.Words.length = ((Qfy + 63) / 64).toNat):=he75
     refine Jo 1 ?_; rintro a76 k77 rfl
     refine Fb 8 1 fun _=>?_
     refine Ost (Scl [2] Qax [vi rv71.Width,vl a76 k77 rv71.Words]) (KS ?_)
     refine Oq Vm (Oq QaS (Oq Va (KS ?_)))
     exact Kg (r59,rv71.Width,rv71.Words,(Qko + 1),a76,k77) [2,0,1,1,2,3,4] ⟨(q3 hM46 (by simp only [Qa7,h57,h64,h66,h68,hg61,hg63,hg72,cs4])),aM1,aM1,aM1,aM1,aM1,iv1,iv1⟩
    intro h68
    refine Oq Vm (Oq Vm ?_)
    refine Js 55 ?_ ?_
    ·intro h80
     try have hrg:=Qqe (s:=a) (by simp only [h9,h14,h19,h24,h26,h57,h64,h66,h68,h80,hg7,hg17,hg31,hg61,hg63])
     refine Oq Vm (Oq Qcy (Oq Vpt (Oq Vm ?_)))
     refine Js 59 ?_ ?_
     ·intro h82
      exact absurd h82 (by first | (simp [h66]; done) | (simp only [bne,h66]; decide) | (simp only [bne,h66,Bool.not_true,Bool.not_false]; decide) | (exfalso; omega) | (intro hq; simp only [bne,hq,Bool.not_false,Bool.not_true,reduceCtorEq] at h66))
     intro h82
     have h84:=not_false h82
     try have hrg:=Qqe (s:=a) (by simp only [h9,h14,h19,h24,h26,h57,h64,h66,h68,h80,h82,h84,hg7,hg17,hg31,hg61,hg63])
     refine Osk (Oq Vpf (Oq Vpf (Oq Vm (Oq Vm (Oq Qcy (Oq Vm ?_))))))
     refine Js 66 ?_ ?_
     ·intro h86
      exact absurd h86 (by first | (simp [h80]; done) | (simp only [bne,h80]; decide) | (simp only [bne,h80,Bool.not_true,Bool.not_false]; decide) | (exfalso; omega) | (intro hq; simp only [bne,hq,Bool.not_false,Bool.not_true,reduceCtorEq] at h80))
     intro h86
     have h88:=not_false h86
     try have hrg:=Qqe (s:=a) (by simp only [h9,h14,h19,h24,h26,h57,h64,h66,h68,h80,h82,h84,h86,h88,hg7,hg17,hg31,hg61,hg63])
     refine Osk (Oq Vpf (Oq Vm (Osk (Oq Vpf (Oq Vpf (KS ?_))))))
     refine Kf (KS ?_)
     refine Oq Vm (Oq QaS (Oq Va (KS ?_)))
     exact Kg (r59,Qfy,QhL,(Qko + 1),a44,k45) [0,0,0,0,1,2,3] ⟨(q3 hM46 (by simp only [Qa7,h57,h64,h66,h68,h80,h82,h84,h86,h88,hg61,hg63,cs4])),aM1,aM1,aM1,aM1,aM1,iv1,iv1⟩
    intro h80
    exact absurd h80 (by first | (simp [h64]; done) | (simp only [bne,h64]; decide) | (simp only [bne,h64,Bool.not_true,Bool.not_false]; decide) | (exfalso; omega) | (intro hq; simp only [bne,hq,Bool.not_false,Bool.not_true,reduceCtorEq] at h64))
   intro h66
   refine Osk (Oq Vpf (Oq Vm (Oq Vm (Oq Vm ?_))))
   refine Js 55 ?_ ?_
   ·intro h91
    try have hrg:=Qqe (s:=a) (by simp only [h9,h14,h19,h24,h26,h57,h64,h66,h91,hg7,hg17,hg31,hg61,hg63])
    refine Oq Vm (Oq Qcy (Oq Vpt (Oq Vm ?_)))
    refine Js 59 ?_ ?_
    ·intro h93
     have h95:=not_true h93
     refine Oq Vm (Oq Vpt (Oq Vpf (Oq Vm ?_)))
     refine Js 63 ?_ ?_
     ·intro h97
      refine Osk (Osk (Osk (Osk (Osk (Osk (Osk (Osk (Oq Vpt (KS ?_)))))))))
      refine Kt (KS ?_)
      refine Oq (Qau Qax 1) (Oq Vm ?_)
      refine QaJ (Qbx (Qaf.mk Qfy QhL) Qko) fun rv100 hg101=>?_
      refine Oc [0] Qqq (Qc2 (A:=_) hlx (Qd3 (Ent.take (is:=[0]) rfl) (Qqn ((Qaf.mk Qfy QhL)) a44 k45 Qko pre pre pre pre rv100 hg101))) ?_ (ht:=rfl)
      rintro c99 ⟨he102,he103,he104⟩
      unfold Qaa at he102
      have he103:(rv100.Width = Qfy):=he103
      have he104:(rv100.Words.length = ((Qfy + 63) / 64).toNat):=he104
      refine Jo 1 ?_; rintro a105 k106 rfl
      refine Fb 8 1 fun _=>?_
      refine Ost (Scl [2] Qax [vi rv100.Width,vl a105 k106 rv100.Words]) (KS ?_)
      refine Oq Vm (Oq QaS (Oq Va (KS ?_)))
      exact Kg (r59,rv100.Width,rv100.Words,(Qko + 1),a105,k106) [2,0,1,1,2,3,4] ⟨(q3 hM46 (by simp only [Qa7,h57,h64,h66,h91,h93,h95,h97,hg61,hg63,hg101,cs4])),aM1,aM1,aM1,aM1,aM1,iv1,iv1⟩
     intro h97
     refine Oq Vm (Oq Qcy (Oq Vm ?_))
     refine Js 66 ?_ ?_
     ·intro h109
      exact absurd h109 (by first | (simp [h91]; done) | (simp only [bne,h91]; decide) | (simp only [bne,h91,Bool.not_true,Bool.not_false]; decide) | (exfalso; omega) | (intro hq; simp only [bne,hq,Bool.not_false,Bool.not_true,reduceCtorEq] at h91))
     intro h109
     have h111:=not_false h109
     try have hrg:=Qqe (s:=a) (by simp only [h9,h14,h19,h24,h26,h57,h64,h66,h91,h93,h95,h97,h109,h111,hg7,hg17,hg31,hg61,hg63])
     refine Osk (Oq Vpf (Oq Vm (Osk (Oq Vpf (Oq Vpf (KS ?_))))))
     refine Kf (KS ?_)
     refine Oq Vm (Oq QaS (Oq Va (KS ?_)))
     exact Kg (r59,Qfy,QhL,(Qko + 1),a44,k45) [0,0,0,0,1,2,3] ⟨(q3 hM46 (by simp only [Qa7,h57,h64,h66,h91,h93,h95,h97,h109,h111,hg61,hg63,cs4])),aM1,aM1,aM1,aM1,aM1,iv1,iv1⟩
    intro h93
    exact absurd h93 (by first | (simp [h66]; done) | (simp only [bne,h66]; decide) | (simp only [bne,h66,Bool.not_true,Bool.not_false]; decide) | (exfalso; omega) | (intro hq; simp only [bne,hq,Bool.not_false,Bool.not_true,reduceCtorEq] at h66))
   intro h91
   exact absurd h91 (by first | (simp [h64]; done) | (simp only [bne,h64]; decide) | (simp only [bne,h64,Bool.not_true,Bool.not_false]; decide) | (exfalso; omega) | (intro hq; simp only [bne,hq,Bool.not_false,Bool.not_true,reduceCtorEq] at h64))
  intro h64
  refine Osk (Oq Vpf (Oq Vm (Osk (Oq Vpf (Oq Vm (Oq Vm (Oq Vm ?_)))))))
  refine Js 55 ?_ ?_
  ·intro h114
   exact absurd h114 (by first | (simp [h64]; done) | (simp only [bne,h64]; decide) | (simp only [bne,h64,Bool.not_true,Bool.not_false]; decide) | (exfalso; omega) | (intro hq; simp only [bne,hq,Bool.not_false,Bool.not_true,reduceCtorEq] at h64))
  intro h114
  refine Osk (Osk (Oq Vpf (Oq Vm (Osk (Oq Vpf (Oq Vpf (Oq Vm (Oq Vm (Oq Qcy ?_)))))))))
  refine Oq Vm ?_
  refine Js 66 ?_ ?_
  ·intro h116
   have h118:=not_true h116
   refine Oq Vm (Oq Vpt (Oq Vm ?_))
   refine Js 69 ?_ ?_
   ·intro h120
    try have hrg:=Qqe (s:=a) (by simp only [h9,h14,h19,h24,h26,h57,h64,h114,h116,h118,h120,hg7,hg17,hg31,hg61,hg63])
    refine Oq Vm (Oq Vpt (Oq Vpf (KS ?_)))
    refine Kc ?_ ?_
    ·intro h122
     refine KS ?_
     refine Oq (Qau Qax 1) (Oq Vm ?_)
     refine QaJ (Qbx (Qaf.mk Qfy QhL) Qko) fun rv125 hg126=>?_
     refine Oc [0] Qqq (Qc2 (A:=_) hlx (Qd3 (Ent.take (is:=[0]) rfl) (Qqn ((Qaf.mk Qfy QhL)) a44 k45 Qko pre pre pre pre rv125 hg126))) ?_ (ht:=rfl)
     rintro c124 ⟨he127,he128,he129⟩
     unfold Qaa at he127
     have he128:(rv125.Width = Qfy):=he128
     have he129:(rv125.Words.length = ((Qfy + 63) / 64).toNat):=he129
     refine Jo 1 ?_; rintro a130 k131 rfl
     refine Fb 8 1 fun _=>?_
     refine Ost (Scl [2] Qax [vi rv125.Width,vl a130 k131 rv125.Words]) (KS ?_)
     refine Oq Vm (Oq QaS (Oq Va (KS ?_)))
     exact Kg (r59,rv125.Width,rv125.Words,(Qko + 1),a130,k131) [2,0,1,1,2,3,4] ⟨(q3 hM46 (by simp only [Qa7,h57,h64,h114,h116,h118,h120,h122,hg61,hg63,hg126,cs4])),aM1,aM1,aM1,aM1,aM1,iv1,iv1⟩
    intro h122
    refine KS ?_
    refine Oq Vm (Oq QaS (Oq Va (KS ?_)))
    exact Kg (r59,Qfy,QhL,(Qko + 1),a44,k45) [0,0,0,0,1,2,3] ⟨(q3 hM46 (by simp only [Qa7,h57,h64,h114,h116,h118,h120,h122,hg61,hg63,cs4])),aM1,aM1,aM1,aM1,aM1,iv1,iv1⟩
   intro h120
   refine Osk (Oq Vpf (Oq Vpf (KS ?_)))
   refine Kf (KS ?_)
   refine Oq Vm (Oq QaS (Oq Va (KS ?_)))
   exact Kg (r59,Qfy,QhL,(Qko + 1),a44,k45) [0,0,0,0,1,2,3] ⟨(q3 hM46 (by simp only [Qa7,h57,h64,h114,h116,h118,h120,hg61,hg63,cs4])),aM1,aM1,aM1,aM1,aM1,iv1,iv1⟩
  intro h116
  exact absurd h116 (by first | (simp [h114]; done) | (simp only [bne,h114]; decide) | (simp only [bne,h114,Bool.not_true,Bool.not_false]; decide) | (exfalso; omega) | (intro hq; simp only [bne,hq,Bool.not_false,Bool.not_true,reduceCtorEq] at h114))
 intro h57
 have g135:=df h57
 obtain rfl:r40 = 0:=by omega
 refine Ke ?_
 have hR136:=q2 hM46 (Qfy,QhL) (by simp only [Qa7,h57,cs4])
 refine KS ?_
 refine Oq (Qau Qax 1) (Ost (Scl [2] Qax [vi Qfy,vl a44 k45 QhL]) (Oq Va (KS ?_)))
 refine Jl [1] (Ent.freeze _ _) ?_
 have hq:=q4 hrr ((Qaf.mk Qfy QhL),0) (by simp only [QgA,h9,h14,h19,h24,h26,h57,hg7,hg17,hg31,hR136,cs4]); subst hq
 exact Kr (vl a44 k45 QhL) rfl (.cellN 1 rfl Qax rfl (Qal _ _) rfl (.tmp rfl .nil)) [0] en
theorem QAN (a:Qaf) (aa1:Option Addr) (ak1:Nat) (b:Qaf) (ba1:Option Addr) (bk1:Nat) (Qja:Qaa a.Width) (QfG:Qaa b.Width) (rr:Qaf × Int) (hrr:Qe6 a b = rr):FT Tryz.prog 40 #[.agg #[vi a.Width,vl aa1 ak1 a.Words],.agg #[vi b.Width,vl ba1 bk1 b.Words]] [S aa1 ak1 a.Words,S ba1 bk1 b.Words] (fun g:Value=>Qaa rr.1.Width /\ Qaa rr.2) (fun g=>.tuple #[.agg #[vi rr.1.Width,g],vi rr.2]) (fun g=>[sl g rr.1.Words]):=by
 refine FTi Tryz.func40 fun w0 M0 F0=>?_
 unfold Qaa at Qja QfG
 refine Fb 8 0 fun _=>Fb 8 1 fun _=>KS ?_
 refine Oa (Ab [vi a.Width,vl aa1 ak1 a.Words]) fun p3=>Oa (Ab [vi b.Width,vl ba1 bk1 b.Words]) fun p4=>Oa (Al QgU [vi 0,.slice none 0 0]) fun p5=>Oq Va (KS ?_)
 refine Oq (Qau Qax 2) (Oq (Qau Qax 1) ?_)
 refine QaJ (QgA a b true true true) fun rv7 hg8=>?_
 have hc9:=Qzc a aa1 ak1 b ba1 bk1 true true true pre pre rv7 hg8
 refine Oc [3,4] Qzf hc9 ?_
 rintro c6 ⟨he10,he11⟩
 unfold Qaa at he10 he11
 refine Jo 0 ?_; rintro a12 k13 rfl
 refine Fb 8 0 fun _=>?_
 refine Oq Vx (Oq Vx (Ost (Scl [1] Qax [vi rv7.1.Width,vl a12 k13 rv7.1.Words]) (Oq Va (KS ?_))))
 have hq:=q4 hrr (rv7.1,rv7.2) (by simp only [Qe6,hg8,cs4]); subst hq
 exact Kr (vl a12 k13 rv7.1.Words) rfl (.cellN 0 rfl Qax rfl (Qal _ _) rfl (.tmp rfl .nil)) [1] en
theorem Qzq (a:Qaf) (aa1:Option Addr) (ak1:Nat) (b:Qaf) (ba1:Option Addr) (bk1:Nat) (Qja:Qaa a.Width) (QfG:Qaa b.Width) (rr:Qaf) (hrr:QdS a b = rr):FT Tryz.prog 12 #[.agg #[vi a.Width,vl aa1 ak1 a.Words],.agg #[vi b.Width,vl ba1 bk1 b.Words]] [S aa1 ak1 a.Words,S ba1 bk1 b.Words] (fun g:Value=>Qaa rr.Width) (fun g=>.agg #[vi rr.Width,g]) (fun g=>[sl g rr.Words]):=by
 refine FTi Tryz.func12 fun w0 M0 F0=>?_
 unfold Qaa at Qja QfG
 refine Fb 8 0 fun _=>Fb 8 1 fun _=>KS ?_
 refine Oa (Ab [vi a.Width,vl aa1 ak1 a.Words]) fun p3=>Oa (Ab [vi b.Width,vl ba1 bk1 b.Words]) fun p4=>Oa (Al QgU [vi 0,.slice none 0 0]) fun p5=>KS ?_
 refine Oq (Qau Qax 2) (Oq (Qau Qax 1) ?_)
 refine QaJ (Qe6 a b) fun rv7 hg8=>?_
 have hc9:=QAN a aa1 ak1 b ba1 bk1 pre pre rv7 hg8
 refine Oc [3,4] QBq hc9 ?_
 rintro c6 ⟨he10,he11⟩
 unfold Qaa at he10 he11
 refine Jo 0 ?_; rintro a12 k13 rfl
 refine Fb 8 0 fun _=>?_
 refine Oq Vm (Oq Vx (Oq Vx (Oa (Al QgU [vi 0,.slice none 0 0]) fun p15=>Ost (Scl [0] Qax [vi rv7.1.Width,vl a12 k13 rv7.1.Words]) (Oq Va (KS ?_)))))
 refine Oq (Qau Qax 0) (Ost (Scl [2] Qax [vi rv7.1.Width,vl a12 k13 rv7.1.Words]) (KS ?_))
 have hq:=q4 hrr rv7.1 (by simp only [QdS,hg8,cs4]); subst hq
 exact Kr (vl a12 k13 rv7.1.Words) rfl (.cellN 0 rfl Qax rfl (Qal _ _) rfl .nil) [2] en
theorem QzC (s:Qac) (sa1:Option Addr) (sk1:Nat) (sa2:Option Addr) (sk2:Nat) (sa3:Option Addr) (sk3:Nat) (v:List Qaf) (va0:Option Addr) (vk0:Nat) (n:Int) (Qcc:Qaa s.Width) (Qgv:Qaa n) (hv:Qfg s) (hl:v.length = s.Boundary.length) (hn:0 <= n /\ n < (s.Boundary.length:Int)) (rr:Qaf) (hrr:QbG s v n = rr):FT Tryz.prog 83 #[.agg #[vi s.Width,vl sa1 sk1 s.Deps,vl sa2 sk2 s.Transfers,vl sa3 sk3 s.Boundary],vl va0 vk0 v,vi n] [S sa1 sk1 s.Deps,S sa2 sk2 s.Transfers,S sa3 sk3 s.Boundary,S va0 vk0 v] (fun g:Value=>Qaa rr.Width) (fun g=>.agg #[vi rr.Width,g]) (fun g=>[sl g rr.Words]):=by
 refine FTi Tryz.func83 fun w0 M0 F0=>?_
 unfold Qaa at Qcc Qgv
 refine Fb 24 0 fun _=>Fb 88 1 fun _=>Fb 32 2 fun _=>Fb 32 3 fun _=>?_
 have hv1:=hv.n
 have hv2:=hv.tl
 have hv3:=hv.bl
 have hv4:=hv.w
 have hv5:=hv.dep_len
 refine KS ?_
 refine Oa (Ab [vi s.Width,vl sa1 sk1 s.Deps,vl sa2 sk2 s.Transfers,vl sa3 sk3 s.Boundary]) fun p5=>Oa (Al QgU [vi 0,.slice none 0 0]) fun p6=>KS ?_
 refine Oq (Vfa Qc4 1) (Oq (Qah Qjd 1) (Oq Vm (Oq (Vi Qc6 4) ?_)))
 refine Qa3 n.toNat 4 rfl rng fun a7 k8 hb9=>?_
 unfold Qaa at hb9
 refine Fb 8 1 fun _=>?_
 refine Oq (Qau Qax 0) (Oa (Al QgU [vi 0,.slice none 0 0]) fun p11=>Ost (Scl [0] Qax [vi ((s.Boundary.getD n.toNat default).Width),vl a7 k8 ((s.Boundary.getD n.toNat default).Words)]) (KS ?_))
 refine Oq Va (KS ?_)
 refine Kl (γ:=Nat × Int × List (BitVec 64) × Int × Option Addr × Nat) (fun (r12,QgN,QgO,Qhc,a16,k17)=>⟨[(1,vl va0 vk0 v),(2,vi n),(3,p5),(6,p6),(7,p11),(8,vi Qhc)],[S a16 k17 QgO,Cl p11 [vi QgN,vl a16 k17 QgO],Cl p6 [vi 0,.slice none 0 0],pv p5 [vi s.Width,vl sa1 sk1 s.Deps,vl sa2 sk2 s.Transfers,vl sa3 sk3 s.Boundary],S sa1 sk1 s.Deps,S sa2 sk2 s.Transfers,S sa3 sk3 s.Boundary,S va0 vk0 v],QbC s v n r12 QgN QgO Qhc = QbC s v n (((((s.Deps.getD n.toNat []).length:Int):Int) - 0).toNat) ((s.Boundary.getD n.toNat default).Width) ((s.Boundary.getD n.toNat default).Words) 0 /\ r12 = ((((s.Deps.getD n.toNat []).length:Int):Int) - Qhc).toNat /\ (0:Int) <= Qhc /\ (Qhc <= ((s.Deps.getD n.toNat []).length:Int) \/ Qhc = 0) /\ (-9223372036854775808 <= QgN /\ QgN <= 9223372036854775807) /\ (-9223372036854775808 <= Qhc /\ Qhc <= 9223372036854775807),r12⟩) (((((s.Deps.getD n.toNat []).length:Int):Int) - 0).toNat,(s.Boundary.getD n.toNat default).Width,(s.Boundary.getD n.toNat default).Words,0,a7,k8) [2,0,2,2,3,4,5,6] ⟨rfl,rfl,aM1,(.inr rfl),aM1,aM1⟩ ?_
 rintro ⟨r12,QgN,QgO,Qhc,a16,k17⟩ ⟨hM18,hr19,hi20,hi21,hk22,hk23⟩
 refine QaA fun _ _ hL hA=>?_; dsimp only at hL hA; subst hL hA
 refine Fb 8 0 fun _=>Fb 24 4 fun _=>Fb 88 5 fun _=>Fb 32 6 fun _=>Fb 32 7 fun _=>KS ?_
 refine Oq Vm (Oq (Vfa QbI 3) (Oq (Qah QgG 3) (Oq Vm (Oq (Vi Qfr 4) ?_))))
 refine QdV n.toNat 4 rfl rng fun a29 k30=>?_
 refine Fb 8 1 fun _=>Fo 1 fun ho32=>?_
 refine Oq (Vld QjI 0) (Oq (Qba QcA) (Oq Qbh (KS ?_)))
 refine Kc ?_ ?_
 ·intro h33
  have g34:=dt h33
  have hq:=hv.dep_mem (j:=n) aM1 aM1 _ (Qa4 (xs:=s.Deps.getD n.toNat []) (i:=Qhc.toNat) (d:=0) aM1)
  obtain ⟨r35,rfl⟩:=scc (n:=r12) aM1
  refine KS ?_
  refine Oq (Vfa QbI 5) (Oq (Qah QgG 5) (Oq Vm (Oq (Vi Qfr 6) (Oq (Vld QjI 0) (Oq Vm (Oq (Vi QcA 1) ?_))))))
  have hb36:=ok1 (i:=Qhc.toNat) ho32 rng
  refine Oq (Qjc sh3 1) (Oq Va (KS ?_))
  refine QaU (((s.Deps.getD n.toNat []).getD Qhc.toNat 0):Int).toNat 7 rfl rng fun a37 k38 a39 k40 a41 k42 hb43 hb44=>?_
  unfold Qaa at hb43 hb44
  refine Fb 8 1 fun _=>Fb 8 2 fun _=>Fb 16 3 fun _=>?_
  refine Qa3 (((s.Deps.getD n.toNat []).getD Qhc.toNat 0):Int).toNat 13 rfl rng fun a48 k49 hb50=>?_
  unfold Qaa at hb50
  refine Fb 8 1 fun _=>?_
  refine Qam [0,1,0,7,15,0,0,96,224,511,1023,2047,2047,0,12287,32767] Qco ?_
  refine Dv [11] (Vfa QcW 0) (Dv [11] (Qah QjR 0) (Dv [] Vm (Dv [13] (Vi QiI 0) (Dv [2] (Qau Qek 0) (Dv [] Vm (Dv [] Vm (Dv [15] (Vi Qc6 0) (Dv [0] (Qau Qax 0) ?_))))))))
  refine QaJ (QdA (s.Transfers.getD (((s.Deps.getD n.toNat []).getD Qhc.toNat 0):Int).toNat default) (v.getD (((s.Deps.getD n.toNat []).getD Qhc.toNat 0):Int).toNat default)) fun rv53 hg54=>?_
  refine Dx [1,3,4,5] [] [2,3,4,5,0,1] (fun G=>.tuple #[.agg #[vi rv53.1.Width,(G.g 9 0)],vi rv53.2]) [fun G=>SP.fact (Qaa rv53.1.Width /\ Qaa rv53.2),fun G=>sl (G.g 9 0) rv53.1.Words] (fun G=>xC [1,2,3,0] QxS (Qxw ((s.Transfers.getD (((s.Deps.getD n.toNat []).getD Qhc.toNat 0):Int).toNat default)) a37 k38 a39 k40 a41 k42 ((v.getD (((s.Deps.getD n.toNat []).getD Qhc.toNat 0):Int).toNat default)) a48 k49 pre pre pre rv53 hg54)) (Dg [] (fun G=>.tuple #[.agg #[vi rv53.1.Width,(G.g 9 0)],vi rv53.2]) (fun G=>Vm) (Dg [] (fun G=>.agg #[vi rv53.1.Width,(G.g 9 0)]) (fun G=>Vx) (Dv [] Vx (Dx [] [] [0] (fun G=>(G.g 13 0)) [fun G=>Cl (G.g 13 0) [vi 0,.slice none 0 0]] (fun G=>xA (Al QgU [vi 0,.slice none 0 0])) (Dx0 [17,18] [18] [1,0] [fun G=>Cl (G.g 13 0) [vi rv53.1.Width,(G.g 9 0)]] (fun G=>x1 0 rfl Qkx fun ho56=>(xS (Scl [1] Qax [vi rv53.1.Width,(G.g 9 0)] (v:=.agg #[vi rv53.1.Width,(G.g 9 0)]) (h1:=show [vi rv53.1.Width,(G.g 9 0)].all (·.oneCell') = true from (by simp only [List.all_cons,List.all_nil,ho56,Bool.and_true,Bool.true_and] <;> rfl))))) (Dv [] Va ?_))))))
  refine Dn ⟨by kernel_rfl,fun G=>?_⟩
  refine Jw2 [(1,vl va0 vk0 v),(2,vi n),(3,p5),(6,p6),(7,p11),(8,vi Qhc),(10,(G.g 13 0))] [0,1,2,3,4,5,6,7,8,9,10,11,12,13,14,15] [SP.fact (Qaa rv53.1.Width /\ Qaa rv53.2),sl (G.g 9 0) rv53.1.Words,Cl (G.g 13 0) [vi rv53.1.Width,(G.g 9 0)]] ?_
  generalize G.g 9 0 = c52,G.g 13 0 = p55
  refine Jf 16 rfl ?_; rintro ⟨he57,he58⟩
  unfold Qaa at he57 he58
  refine Jk [0,1,2,3,4,5,6,7,8,9,9,9,10,11,12,13,15,16] ?_
  refine Jo 16 ?_; rintro a59 k60 rfl
  refine Fb 8 16 fun _=>KS ?_
  refine Oq (Qau Qax 9) (Oq (Qau Qax 17) ?_)
  refine QaJ (QdS (Qaf.mk QgN QgO) rv53.1) fun rv63 hg64=>?_
  have hc65:=Qzq ((Qaf.mk QgN QgO)) a16 k17 rv53.1 a59 k60 pre pre rv63 hg64
  refine Oc [8,16] QzF hc65 ?_
  rintro c62 he66
  unfold Qaa at he66
  refine Jo 0 ?_; rintro a67 k68 rfl
  refine Fb 8 0 fun _=>?_
  refine Ost (Scl [10] Qax [vi rv63.Width,vl a67 k68 rv63.Words]) (KS ?_)
  refine Oq Vm (Oq QaS (Oq Va (KS ?_)))
  exact Kg (r35,rv63.Width,rv63.Words,(Qhc + 1),a67,k68) [1,0,10,10,11,12,13,14] ⟨(q3 hM18 (by simp only [QbC,h33,hg54,hg64,cs4])),aM1,aM1,aM1,aM1,aM1⟩
 intro h33
 have g70:=df h33
 obtain rfl:r12 = 0:=by omega
 refine Ke ?_
 have hR71:=q2 hM18 (QgN,QgO) (by simp only [QbC,h33,cs4])
 refine KS ?_
 refine Oq (Qau Qax 3) (Ost (Scl [4] Qax [vi QgN,vl a16 k17 QgO]) (KS ?_))
 have hq:=q4 hrr (Qaf.mk QgN QgO) (by simp only [QbG,h33,hR71,cs4]); subst hq
 exact Kr (vl a16 k17 QgO) rfl (.cellN 0 rfl Qax rfl (Qal _ _) rfl .nil) [3] en
theorem QA8 (s:Qac) (sa1:Option Addr) (sk1:Nat) (sa2:Option Addr) (sk2:Nat) (sa3:Option Addr) (sk3:Nat) (v:List Qaf) (va0:Option Addr) (vk0:Nat) (n:Int) (Qcc:Qaa s.Width) (Qgv:Qaa n) (rr:Qaf × Int) (hrr:Qd6 s v n = rr):FT Tryz.prog 69 #[.agg #[vi s.Width,vl sa1 sk1 s.Deps,vl sa2 sk2 s.Transfers,vl sa3 sk3 s.Boundary],vl va0 vk0 v,vi n] [S sa1 sk1 s.Deps,S sa2 sk2 s.Transfers,S sa3 sk3 s.Boundary,S va0 vk0 v] (fun g:Value=>Qaa rr.1.Width /\ Qaa rr.2) (fun g=>.tuple #[.agg #[vi rr.1.Width,g],vi rr.2]) (fun g=>[sl g rr.1.Words]):=by
 refine FTi Tryz.func69 fun w0 M0 F0=>?_
 unfold Qaa at Qcc Qgv
 refine Fb 24 0 fun _=>Fb 88 1 fun _=>Fb 32 2 fun _=>Fb 32 3 fun _=>KS ?_
 refine Oa (Ab [vi s.Width,vl sa1 sk1 s.Deps,vl sa2 sk2 s.Transfers,vl sa3 sk3 s.Boundary]) fun p5=>Oa (Al QgU [vi 0,.slice none 0 0]) fun p6=>Oq Va (KS ?_)
 refine Oq (Qau Qen 1) ?_
 refine QaJ (Qa1 s) fun rv7 hg8=>?_
 have hc9:=QwA s sa1 sk1 sa2 sk2 sa3 sk3 pre rv7 hg8
 refine Oc [2,3,4] QwF hc9 ?_
 rintro - -
 refine Oq Qcy (KS ?_)
 refine Kc ?_ ?_
 ·intro h10
  have h12:=not_true h10
  refine KS ?_
  refine Oq (Vbd Qju [vi 0,.slice none 0 0]) (Ost (Scl [0] Qax [vi 0,.slice none 0 0]) (Oq Va (KS ?_)))
  refine Jl [] (Ent.slNil (α:=BitVec 64)) ?_
  have hq:=q4 hrr ((Qaf.mk 0 []),1) (by simp only [Qd6,h10,h12,hg8,cs4]); subst hq
  exact Kr (.slice none 0 0) rfl (.cellN 1 rfl Qax rfl (Qal _ _) rfl (.tmp rfl .nil)) [0] en
 intro h10
 have h15:=not_false h10
 try (have hvs:=(Qbu s).1 (by simp only [h10,h15,hg8]); have hv1:=hvs.n; have hv2:=hvs.tl; have hv3:=hvs.bl; have hv4:=hvs.w)
 refine KS ?_
 refine Oq Vm (Oq Qbh (Oq Vm ?_))
 refine Js 15 ?_ ?_
 ·intro h17
  have g18:=dt h17
  refine Osk (Osk (Osk (Osk (Osk (Oq Vpt (KS ?_))))))
  refine Kt (KS ?_)
  refine Oq (Vbd Qju [vi 0,.slice none 0 0]) (Ost (Scl [0] Qax [vi 0,.slice none 0 0]) (Oq Va (KS ?_)))
  refine Jl [] (Ent.slNil (α:=BitVec 64)) ?_
  have hq:=q4 hrr ((Qaf.mk 0 []),9) (by simp only [Qd6,h10,h15,h17,hg8,cs4]); subst hq
  exact Kr (.slice none 0 0) rfl (.cellN 1 rfl Qax rfl (Qal _ _) rfl (.tmp rfl .nil)) [0] en
 intro h17
 have g19:=df h17
 refine Oq Vm (Oq (Vfa Qc4 1) (Oq (Qah Qjd 1) (Oq (Qba Qc6) (Oq Qg8 (Oq Vpf (KS ?_))))))
 refine Kc ?_ ?_
 ·intro h20
  have g21:=dt h20
  refine KS ?_
  refine Oq (Vbd Qju [vi 0,.slice none 0 0]) (Ost (Scl [0] Qax [vi 0,.slice none 0 0]) (Oq Va (KS ?_)))
  refine Jl [] (Ent.slNil (α:=BitVec 64)) ?_
  have hq:=q4 hrr ((Qaf.mk 0 []),9) (by simp only [Qd6,h10,h15,h17,h20,hg8,cs4]); subst hq
  exact Kr (.slice none 0 0) rfl (.cellN 1 rfl Qax rfl (Qal _ _) rfl (.tmp rfl .nil)) [0] en
 intro h20
 have g22:=df h20
 refine KS ?_
 refine Oq (Qau Qen 1) (Oq Vm ?_)
 refine QaJ (Qbs s v) fun rv23 hg24=>?_
 have hc25:=Qzr s sa1 sk1 sa2 sk2 sa3 sk3 v va0 vk0 pre rv23 hg24
 refine Oc [2,3,4,5] Qy4 hc25 ?_
 rintro - he26
 unfold Qaa at he26
 refine Oq Va (KS ?_)
 refine Oq Vm (Oq QfZ (KS ?_))
 refine Kc ?_ ?_
 ·intro h27
  have g28:=QaB h27
  refine KS ?_
  refine Oq (Vbd Qju [vi 0,.slice none 0 0]) (Oq Vm (Ost (Scl [0] Qax [vi 0,.slice none 0 0]) (Oq Va (KS ?_))))
  refine Jl [] (Ent.slNil (α:=BitVec 64)) ?_
  have hq:=q4 hrr ((Qaf.mk 0 []),rv23) (by simp only [Qd6,h10,h15,h17,h20,h27,hg8,hg24,cs4]); subst hq
  exact Kr (.slice none 0 0) rfl (.cellN 1 rfl Qax rfl (Qal _ _) rfl (.tmp rfl .nil)) [0] en
 intro h27
 have g29:=Qae h27
 refine KS ?_
 refine Oq (Qau Qen 1) (Oq Vm (Oq Vm ?_))
 refine QaJ (QbG s v n) fun rv31 hg32=>?_
 have hc33:=QzC s sa1 sk1 sa2 sk2 sa3 sk3 v va0 vk0 n pre pre hvs (QmD aM1) pre rv31 hg32
 refine Oc [2,3,4,5] Qy1 hc33 ?_
 rintro c30 he34
 unfold Qaa at he34
 refine Jo 0 ?_; rintro a35 k36 rfl
 refine Fb 8 0 fun _=>?_
 refine Ost (Scl [1] Qax [vi rv31.Width,vl a35 k36 rv31.Words]) (Oq Va (KS ?_))
 have hq:=q4 hrr (rv31,0) (by simp only [Qd6,h10,h15,h17,h20,h27,hg8,hg24,hg32,cs4]); subst hq
 exact Kr (vl a35 k36 rv31.Words) rfl (.cellN 0 rfl Qax rfl (Qal _ _) rfl (.tmp rfl .nil)) [1] en
theorem QBw (s:Qac) (sa1:Option Addr) (sk1:Nat) (sa2:Option Addr) (sk2:Nat) (sa3:Option Addr) (sk3:Nat) (v:List Qaf) (va0:Option Addr) (vk0:Nat) (Qcc:Qaa s.Width) (rr:List Qaf × Int) (hrr:Qhr s v = rr):FT Tryz.prog 38 #[.agg #[vi s.Width,vl sa1 sk1 s.Deps,vl sa2 sk2 s.Transfers,vl sa3 sk3 s.Boundary],vl va0 vk0 v] [S sa1 sk1 s.Deps,S sa2 sk2 s.Transfers,S sa3 sk3 s.Boundary,S va0 vk0 v] (fun g:Value=>Qaa rr.2 /\ (rr.1.length <= s.Boundary.length + 1)) (fun g=>.tuple #[g,vi rr.2]) (fun g=>[sl g rr.1]):=by
 refine FTi Tryz.func38 fun w0 M0 F0=>?_
 unfold Qaa at Qcc
 refine Fb 24 0 fun _=>Fb 88 1 fun _=>Fb 32 2 fun _=>Fb 32 3 fun _=>KS ?_
 refine Oa (Ab [vi s.Width,vl sa1 sk1 s.Deps,vl sa2 sk2 s.Transfers,vl sa3 sk3 s.Boundary]) fun p5=>Oq Va (Oq Va (KS ?_))
 refine Oq Va (KS ?_)
 refine Oq Va (KS ?_)
 refine Jl [] (Ent.osNil (α:=Qaf)) ?_
 refine Kl (γ:=Nat × List Qaf × Int × Option Addr × Nat) (fun (r6,Qmd,n_8,a9,k10)=>⟨[(1,vl va0 vk0 v),(2,p5),(6,vl a9 k10 Qmd),(7,vi n_8)],[O a9 k10 Qmd,pv p5 [vi s.Width,vl sa1 sk1 s.Deps,vl sa2 sk2 s.Transfers,vl sa3 sk3 s.Boundary],S sa1 sk1 s.Deps,S sa2 sk2 s.Transfers,S sa3 sk3 s.Boundary,S va0 vk0 v],QcU s v r6 Qmd n_8 = QcU s v ((((max (s.Boundary.length:Int) 1):Int) - 0).toNat) [] 0 /\ r6 = (((max (s.Boundary.length:Int) 1):Int) - n_8).toNat /\ (0:Int) <= n_8 /\ (n_8 <= (max (s.Boundary.length:Int) 1) \/ n_8 = 0) /\ (-9223372036854775808 <= n_8 /\ n_8 <= 9223372036854775807) /\ (Qmd.length:Int) = n_8,r6⟩) ((((max (s.Boundary.length:Int) 1):Int) - 0).toNat,[],0,none,0) [0,0,1,2,3,4] ⟨rfl,rfl,aM1,(.inr rfl),aM1,iv0⟩ ?_
 rintro ⟨r6,Qmd,n_8,a9,k10⟩ ⟨hM11,hr12,hi13,hi14,hk15,hv16⟩
 refine QaA fun _ _ hL hA=>?_; dsimp only at hL hA; subst hL hA
 refine Fb 32 0 fun _=>Fb 24 2 fun _=>Fb 88 3 fun _=>Fb 32 4 fun _=>Fb 32 5 fun _=>KS ?_
 refine Oq Vm (Oq (Vfa Qc4 1) (Oq (Qah Qjd 1) (Oq (Qba Qc6) (Oq QzQ (Oq Qbh (KS ?_))))))
 refine Kc ?_ ?_
 ·intro h22
  have g23:=dt h22
  obtain ⟨r24,rfl⟩:=scc (n:=r6) aM1
  refine KS ?_
  refine Oq (Qau Qen 1) (Oq Vm (Oq Vm ?_))
  refine QaJ (Qd6 s v n_8) fun rv26 hg27=>?_
  have hc28:=QA8 s sa1 sk1 sa2 sk2 sa3 sk3 v va0 vk0 n_8 pre pre rv26 hg27
  refine Oc [2,3,4,5] QBc hc28 ?_
  rintro c25 ⟨he29,he30⟩
  unfold Qaa at he29 he30
  refine Jo 0 ?_; rintro a31 k32 rfl
  refine Fb 8 0 fun _=>?_
  refine Oq Vm (Oq Vx (Oq Vx (Oa (Al QgU [vi 0,.slice none 0 0]) fun p34=>Ost (Scl [0] Qax [vi rv26.1.Width,vl a31 k32 rv26.1.Words]) (Oq Va (KS ?_)))))
  refine Oq Vm (Oq QfZ (KS ?_))
  refine Kc ?_ ?_
  ·intro h35
   have g36:=QaB h35
   refine KS ?_
   refine Oq Vm (Oq Va (Oq Va (KS ?_)))
   refine Jl [] (Ent.slNil (α:=Qaf)) ?_
   have hR37:=q2 hM11 (.ret (([]:List Qaf),rv26.2)) (by simp only [QcU,h22,h35,hg27,cs4])
   have hq:=q4 hrr (([]:List Qaf),rv26.2) (by simp only [Qhr,h22,h35,hg27,hR37,cs4]); subst hq
   exact Kr (.slice none 0 0) rfl (.tmp rfl (.tmp rfl .nil)) [0] en
  intro h35
  have g38:=Qae h35
  refine KS ?_
  refine Oq Vm (Oq (Qau Qax 0) (Oa (AsV Qc6 Ql4 [.agg #[vi rv26.1.Width,vl a31 k32 rv26.1.Words]] [vi rv26.1.Width,vl a31 k32 rv26.1.Words]) fun c39=>?_))
  refine Jo 0 ?_; rintro a40 k41 rfl
  refine Jl [0,1] (Ent.cr1 (α:=Qaf) (A:=[S a31 k32 rv26.1.Words]) _ rv26.1 _ aB1 (fun h=>⟨_,rfl,aL1,Qaj (i:=0) rfl h⟩)) ?_
  refine Oa (ApO [4,0] Qc6 Qc6 Ql4) fun c42=>?_
  refine Jo 0 ?_; rintro a43 k44 rfl
  refine Fb 32 0 fun _=>?_
  have hn46:=la Qmd ([rv26.1]:List Qaf)
  refine Oq Va (KS ?_)
  refine Oq Vm (Oq QaS (Oq Va (KS ?_)))
  exact Kg (r24,(Qmd ++ [rv26.1]),(n_8 + 1),a43,k44) [0,3,4,5,6,7] ⟨(q3 hM11 (by simp only [QcU,h22,h35,hg27,cs4])),aM1,aM1,aM1,aM1,iv1⟩
 intro h22
 have g47:=df h22
 obtain rfl:r6 = 0:=by omega
 refine Ke ?_
 have hR48:=q2 hM11 (.brk Qmd) (by simp only [QcU,h22,cs4])
 refine KS ?_
 refine Oq Vm (Oq Va (Oq Va (KS ?_)))
 refine Jl [0] (Ent.freeze _ _) ?_
 have hq:=q4 hrr (Qmd,0) (by simp only [Qhr,h22,hR48,cs4]); subst hq
 exact Kr (vl a9 k10 Qmd) rfl (.tmp rfl (.tmp rfl .nil)) [0] en
theorem QAH (a:Qaf) (aa1:Option Addr) (ak1:Nat) (b:Qaf) (ba1:Option Addr) (bk1:Nat) (Qja:Qaa a.Width) (QfG:Qaa b.Width) (rr:Bool) (hrr:Qgg a b = rr):FT Tryz.prog 70 #[.agg #[vi a.Width,vl aa1 ak1 a.Words],.agg #[vi b.Width,vl ba1 bk1 b.Words]] [S aa1 ak1 a.Words,S ba1 bk1 b.Words] (fun g:Unit=>True) (fun g=>vb rr) (fun g=>[]):=by
 refine FTi Tryz.func70 fun w0 M0 F0=>?_
 unfold Qaa at Qja QfG
 refine Fb 8 0 fun _=>Fb 8 1 fun _=>KS ?_
 refine Oa (Ab [vi a.Width,vl aa1 ak1 a.Words]) fun p3=>Oa (Ab [vi b.Width,vl ba1 bk1 b.Words]) fun p4=>Oq Va (KS ?_)
 refine Oq (Vfa Qbi 1) (Oq (Qah sh3 1) (Oq (Vfa Qbi 0) (Oq (Qah sh3 0) (Oq QfZ (Oq Vm ?_)))))
 refine Js 11 ?_ ?_
 ·intro h5
  have g6:=QaB h5
  refine Osk (Osk (Osk (Osk (Osk (Osk (Osk (Oq Vpt (KS ?_))))))))
  refine Kt (KS ?_)
  refine Oq Va (KS ?_)
  have hq:=q4 hrr false (by simp only [Qgg,h5,cs4]); subst hq
  exact Kr () rfl (.tmp rfl .nil) [] trivial
 intro h5
 have g7:=Qae h5
 refine Oq (Vfa Qcm 1) (Oq (Qah QiV 1) (Oq (Qba QgV) (Oq (Vfa Qcm 0) (Oq (Qah QiV 0) (Oq (Qba QgV) (Oq QfZ (Oq Vpf (KS ?_))))))))
 refine Kc ?_ ?_
 ·intro h8
  have g9:=QaB h8
  refine KS ?_
  refine Oq Va (KS ?_)
  have hq:=q4 hrr false (by simp only [Qgg,h5,h8,cs4]); subst hq
  exact Kr () rfl (.tmp rfl .nil) [] trivial
 intro h8
 have g10:=Qae h8
 refine KS ?_
 refine Oq Va (KS ?_)
 refine Kl (γ:=Nat × Int) (fun (r11,QcV)=>⟨[(2,p3),(3,p4),(5,vi QcV)],[pv p4 [vi b.Width,vl ba1 bk1 b.Words],pv p3 [vi a.Width,vl aa1 ak1 a.Words],S aa1 ak1 a.Words,S ba1 bk1 b.Words],Qem a b r11 QcV = Qem a b (((a.Words.length:Int) - 0).toNat) 0 /\ r11 = ((a.Words.length:Int) - QcV).toNat /\ (0:Int) <= QcV /\ QcV <= (a.Words.length:Int) /\ (-9223372036854775808 <= QcV /\ QcV <= 9223372036854775807),r11⟩) (((a.Words.length:Int) - 0).toNat,0) [0,1,2,3] ⟨rfl,rfl,aM1,aM1,aM1⟩ ?_
 rintro ⟨r11,QcV⟩ ⟨hM13,hr14,hi15,hi16,hk17⟩
 refine QaA fun _ _ hL hA=>?_; dsimp only at hL hA; subst hL hA
 refine Fb 8 2 fun _=>Fb 8 3 fun _=>KS ?_
 refine Oq Vm (Oq (Vfa Qcm 1) (Oq (Qah QiV 1) (Oq (Qba QgV) (Oq Qbh (KS ?_)))))
 refine Kc ?_ ?_
 ·intro h20
  have g21:=dt h20
  obtain ⟨r22,rfl⟩:=scc (n:=r11) aM1
  refine KS ?_
  refine Kq [0,1,0,7,15,0,32,0,224,480,1023] Qco ?_
  refine Qv [1] (Vfa Qcm 0) (Qv [1] (Qah QiV 0) (Qv [] Vm (Qv [2] (Vi QgV 0) (Qv [2] (QpT QnH 0) (Qv [0] (Vfa Qcm 0) (Qv [0] (Qah QiV 0) (Qv [] Vm (Qv [3] (Vi QgV 0) (Qv [3] (QpT QnH 0) ?_)))))))))
  refine Qv [] Qxr ?_
  refine Qn ⟨by kernel_rfl,?_⟩
  refine Kc ?_ ?_
  ·intro h23
   have g24:=QaB h23
   refine KS ?_
   refine Oq Va (KS ?_)
   have hR25:=q2 hM13 (.ret false) (by simp only [Qem,h20,h23,cs4])
   have hq:=q4 hrr false (by simp only [Qgg,h5,h8,h20,h23,hR25,cs4]); subst hq
   exact Kr () rfl (.tmp rfl .nil) [] trivial
  intro h23
  have g26:=Qae h23
  refine KS ?_
  refine Oq Vm (Oq QaS (Oq Va (KS ?_)))
  exact Kg (r22,(QcV + 1)) [0,1,2,3] ⟨(q3 hM13 (by simp only [Qem,h20,h23,cs4])),aM1,aM1,aM1,aM1⟩
 intro h20
 have g27:=df h20
 obtain rfl:r11 = 0:=by omega
 refine Ke ?_
 have hR28:=q2 hM13 (.brk ()) (by simp only [Qem,h20,cs4])
 refine KS ?_
 refine Oq Va (KS ?_)
 have hq:=q4 hrr true (by simp only [Qgg,h5,h8,h20,hR28,cs4]); subst hq
 exact Kr () rfl (.tmp rfl .nil) [] trivial
theorem QzX (a:List Qaf) (aa0:Option Addr) (ak0:Nat) (b:List Qaf) (ba0:Option Addr) (bk0:Nat) (rr:Bool) (hrr:QcH a b = rr):FT Tryz.prog 39 #[vl aa0 ak0 a,vl ba0 bk0 b] [S aa0 ak0 a,S ba0 bk0 b] (fun g:Unit=>True) (fun g=>vb rr) (fun g=>[]):=by
 refine FTi Tryz.func39 fun w0 M0 F0=>Fb 32 0 fun _=>Fb 32 1 fun _=>?_
 refine KS ?_
 refine Oq Va (KS ?_)
 refine Oq Vm (Oq (Qba Qc6) (Oq Vm (Oq (Qba Qc6) (Oq QfZ (KS ?_)))))
 refine Kc ?_ ?_
 ·intro h3
  have g4:=QaB h3
  refine KS ?_
  refine Oq Va (KS ?_)
  have hq:=q4 hrr false (by simp only [QcH,h3,cs4]); subst hq
  exact Kr () rfl (.tmp rfl .nil) [] trivial
 intro h3
 have g5:=Qae h3
 refine KS ?_
 refine Oq Va (KS ?_)
 refine Kl (γ:=Nat × Int) (fun (r6,i_7)=>⟨[(0,vl aa0 ak0 a),(1,vl ba0 bk0 b),(5,vi i_7)],[S aa0 ak0 a,S ba0 bk0 b],Qb2 a b r6 i_7 = Qb2 a b (((a.length:Int) - 0).toNat) 0 /\ r6 = ((a.length:Int) - i_7).toNat /\ (0:Int) <= i_7 /\ i_7 <= (a.length:Int) /\ (-9223372036854775808 <= i_7 /\ i_7 <= 9223372036854775807),r6⟩) (((a.length:Int) - 0).toNat,0) [0,1] ⟨rfl,rfl,aM1,aM1,aM1⟩ ?_
 rintro ⟨r6,i_7⟩ ⟨hM8,hr9,hi10,hi11,hk12⟩
 refine QaA fun _ _ hL hA=>?_; dsimp only at hL hA; subst hL hA
 refine Fb 32 0 fun _=>Fb 32 1 fun _=>KS ?_
 refine Oq Vm (Oq Vm (Oq (Qba Qc6) (Oq Qbh (KS ?_))))
 refine Kc ?_ ?_
 ·intro h15
  have g16:=dt h15
  obtain ⟨r17,rfl⟩:=scc (n:=r6) aM1
  refine KS ?_
  refine Qa3 i_7.toNat 0 rfl rng fun a18 k19 hb20=>?_
  unfold Qaa at hb20
  refine Fb 8 1 fun _=>?_
  refine Qa3 i_7.toNat 3 rfl rng fun a22 k23 hb24=>?_
  unfold Qaa at hb24
  refine Fb 8 1 fun _=>?_
  refine Qam [0,0,3,7,0,0,48,112,255,511] Qco ?_
  refine Dv [] Vm (Dv [] Vm (Dv [4] (Vi Qc6 0) (Dv [2] (Qau Qax 0) (Dv [] Vm (Dv [] Vm (Dv [5] (Vi Qc6 0) (Dv [0] (Qau Qax 0) ?_)))))))
  refine QaJ (Qgg (a.getD i_7.toNat default) (b.getD i_7.toNat default)) fun rv26 hg27=>?_
  refine Dx [1,3] [] [1,2,0] (fun G=>vb rv26) [fun G=>SP.fact (True)] (fun G=>xC [1,0] Qz2 (QAH ((a.getD i_7.toNat default)) a18 k19 ((b.getD i_7.toNat default)) a22 k23 pre pre rv26 hg27)) (Dv [] Qcy ?_)
  refine Dn ⟨by kernel_rfl,fun G=>?_⟩
  refine Jw2 [(0,vl aa0 ak0 a),(1,vl ba0 bk0 b),(5,vi i_7),(26,vb (!rv26))] [0,1,2,3,4,5] [SP.fact (True)] ?_
  refine Jk [0,1,2,3,4,5] ?_
  refine Kc ?_ ?_
  ·intro h28
   have h30:=not_true h28
   refine KS ?_
   refine Oq Va (KS ?_)
   have hR32:=q2 hM8 (.ret false) (by simp only [Qb2,h15,h28,h30,hg27,cs4])
   have hq:=q4 hrr false (by simp only [QcH,h3,h15,h28,h30,hg27,hR32,cs4]); subst hq
   exact Kr () rfl (.tmp rfl .nil) [] trivial
  intro h28
  have h34:=not_false h28
  refine KS ?_
  refine Oq Vm (Oq QaS (Oq Va (KS ?_)))
  exact Kg (r17,(i_7 + 1)) [4,5] ⟨(q3 hM8 (by simp only [Qb2,h15,h28,h34,hg27,cs4])),aM1,aM1,aM1,aM1⟩
 intro h15
 have g36:=df h15
 obtain rfl:r6 = 0:=by omega
 refine Ke ?_
 have hR37:=q2 hM8 (.brk ()) (by simp only [Qb2,h15,cs4])
 refine KS ?_
 refine Oq Va (KS ?_)
 have hq:=q4 hrr true (by simp only [QcH,h3,h15,hR37,cs4]); subst hq
 exact Kr () rfl (.tmp rfl .nil) [] trivial
theorem QBe (s:Qac) (sa1:Option Addr) (sk1:Nat) (sa2:Option Addr) (sk2:Nat) (sa3:Option Addr) (sk3:Nat) (Qcc:Qaa s.Width) (rr:List Qaf × Int × Int) (hrr:QcN s = rr):FT Tryz.prog 11 #[.agg #[vi s.Width,vl sa1 sk1 s.Deps,vl sa2 sk2 s.Transfers,vl sa3 sk3 s.Boundary]] [S sa1 sk1 s.Deps,S sa2 sk2 s.Transfers,S sa3 sk3 s.Boundary] (fun g:Value=>Qaa rr.2.1 /\ Qaa rr.2.2 /\ (rr.1.length <= 257)) (fun g=>.tuple #[g,vi rr.2.1,vi rr.2.2]) (fun g=>[sl g rr.1]):=by
 refine FTi Tryz.func11 fun w0 M0 F0=>?_
 unfold Qaa at Qcc
 refine Fb 24 0 fun _=>Fb 88 1 fun _=>Fb 32 2 fun _=>KS ?_
 refine Oa (Ab [vi s.Width,vl sa1 sk1 s.Deps,vl sa2 sk2 s.Transfers,vl sa3 sk3 s.Boundary]) fun p4=>Oq Va (Oq Va (Oq Va (KS ?_)))
 refine Oq (Qau Qen 0) ?_
 refine QaJ (Qa1 s) fun rv5 hg6=>?_
 have hc7:=QwA s sa1 sk1 sa2 sk2 sa3 sk3 pre rv5 hg6
 refine Oc [1,2,3] QwF hc7 ?_
 rintro - -
 refine Oq Qcy (KS ?_)
 refine Kc ?_ ?_
 ·intro h8
  have h10:=not_true h8
  refine KS ?_
  refine Oq Va (Oq Va (Oq Va (KS ?_)))
  refine Jl [] (Ent.slNil (α:=Qaf)) ?_
  have hq:=q4 hrr (([]:List Qaf),0,1) (by simp only [QcN,h8,h10,hg6,cs4]); subst hq
  exact Kr (.slice none 0 0) rfl (.tmp rfl (.tmp rfl (.tmp rfl .nil))) [0] en
 intro h8
 have h13:=not_false h8
 try (have hvs:=(Qbu s).1 (by simp only [h8,h13,hg6]); have hv1:=hvs.n; have hv3:=hvs.bl; have hv4:=hvs.w; have hbb:s.Boundary.length * s.Width.toNat <= 256 * 256:=Nat.mul_le_mul aM1 aM1)
 refine KS ?_
 refine Oq (Qau Qen 0) ?_
 refine QaJ (QdM s) fun rv16 hg17=>?_
 have hc18:=QBt s sa1 sk1 sa2 sk2 sa3 sk3 pre pre rv16 hg17
 refine Oc [1,2,3] QA2 hc18 ?_
 rintro c15 he19
 refine Jo 0 ?_; rintro a20 k21 rfl
 refine Fb 32 0 fun _=>?_
 refine Oq Va (KS ?_)
 refine Oq Va (KS ?_)
 have hterm32:Qb3 s (s.Boundary.length * s.Width.toNat + 2) rv16 0 ≠ LR.oof:=(Qqc (by simp only [h8,h13,hg6,hg17]) (by assumption))
 refine Kl (γ:=Nat × List Qaf × Int × Option Addr × Nat) (fun (r23,Qqs,Qe7,a26,k27)=>⟨[(1,p4),(5,vl a26 k27 Qqs),(6,vi Qe7)],[S a26 k27 Qqs,pv p4 [vi s.Width,vl sa1 sk1 s.Deps,vl sa2 sk2 s.Transfers,vl sa3 sk3 s.Boundary],S sa1 sk1 s.Deps,S sa2 sk2 s.Transfers,S sa3 sk3 s.Boundary],Qb3 s r23 Qqs Qe7 = Qb3 s (s.Boundary.length * s.Width.toNat + 2) rv16 0 /\ (-9223372036854775808 <= Qe7 /\ Qe7 <= 9223372036854775807) /\ 0 <= Qe7 /\ Qe7 + (r23:Int) = ((s.Boundary.length * s.Width.toNat + 2:Nat):Int) /\ Qqs.length <= s.Boundary.length + 1,r23⟩) ((s.Boundary.length * s.Width.toNat + 2),rv16,0,a20,k21) [0,1,2,3,4] ⟨rfl,aM1,iv0,iv0⟩ ?_
 rintro ⟨r23,Qqs,Qe7,a26,k27⟩ ⟨hM28,hk29,hv30,hv31⟩
 refine QaA fun _ _ hL hA=>?_; dsimp only at hL hA; subst hL hA
 refine Fb 32 0 fun _=>Fb 24 2 fun _=>Fb 88 3 fun _=>Fb 32 4 fun _=>?_
 rcases r23 with _ | r23
 ·exact absurd (hM28.symm.trans rfl) hterm32
 refine KS ?_
 refine Oq (Qau Qen 1) (Oq Vm ?_)
 refine QaJ (Qhr s Qqs) fun rv38 hg39=>?_
 have hc40:=QBw s sa1 sk1 sa2 sk2 sa3 sk3 Qqs a26 k27 pre rv38 hg39
 refine Oc [2,3,4,0] QzO hc40 ?_
 rintro c37 ⟨he41,he42⟩
 unfold Qaa at he41
 refine Jo 0 ?_; rintro a43 k44 rfl
 refine Fb 32 0 fun _=>?_
 refine Oq Vm (Oq Vx (Oq Vx (Oq Va (Oq Va (KS ?_)))))
 refine Oq Vm (Oq Vm ?_)
 refine QaJ (QcH rv38.1 Qqs) fun rv46 hg47=>?_
 have hc48:=QzX rv38.1 a43 k44 Qqs a26 k27 rv46 hg47
 refine Oc [0,1] QzR hc48 ?_
 rintro - -
 refine KS ?_
 refine Kc ?_ ?_
 ·intro h49
  try (have hvs:=(Qbu s).1 (by simp only [h8,h13,h49,hg6,hg17,hg39,hg47]); have hv1:=hvs.n; have hv3:=hvs.bl; have hv4:=hvs.w; have hbb:s.Boundary.length * s.Width.toNat <= 256 * 256:=Nat.mul_le_mul aM1 aM1)
  refine KS ?_
  refine Oq Vm (Oq Vm (Oq Va (Oq Va (Oq Va (KS ?_)))))
  have hR51:=q2 hM28 (.ret (Qqs,Qe7,0)) (by simp only [Qb3,h49,hg39,hg47,cs4])
  have hq:=q4 hrr (Qqs,Qe7,0) (by simp only [QcN,h8,h13,h49,hg6,hg17,hg39,hg47,hR51,cs4]); subst hq
  exact Kr (vl a26 k27 Qqs) rfl (.tmp rfl (.tmp rfl (.tmp rfl .nil))) [1] en
 intro h49
 refine KS ?_
 refine Oq Vm (Oq Va (KS ?_))
 refine Oq Vm (Oq QaS (Oq Va (KS ?_)))
 exact Kg (r23,rv38.1,(Qe7 + 1),a43,k44) [0,2,3,4,5] ⟨(q3 hM28 (by simp only [Qb3,h49,hg39,hg47,cs4])),aM1,iv1,iv1⟩
theorem QBD (v:Int) (n:Int) (QsK:Qaa v) (Qgv:Qaa n) (hn1:1 <= n) (rr:Int) (hrr:Qrc v n = rr):FT Tryz.prog 31 #[vi v,vi n] [] (fun g:Unit=>Qaa rr /\ (0 <= rr /\ rr < n)) (fun g=>vi rr) (fun g=>[]):=by
 refine FTi Tryz.func31 fun w0 M0 F0=>?_
 unfold Qaa at QsK Qgv
 have hm:=Qlg v n aM1
 refine KS ?_
 refine Oq Va (KS ?_)
 refine Oq Vm (Oq (VcU un3 QqC) (Oq Vm (Oq (VcU un3 QqC) (Oq (Qri (Qsg n aM1)) (Oq (VcN QqC un3 (h:=(QuQ v n aM1))) (Oq Va (KS ?_)))))))
 have hq:=q4 hrr (((BitVec.ofInt 64 v) % (BitVec.ofInt 64 n)).toNat:Int) (by simp only [Qrc,cs4]); subst hq
 exact Kr () rfl (.tmp rfl .nil) [] en
theorem fn9 (tP:Value) (ta:Option Addr) (tk:Nat) (tT:List Int) (tI:Int) (n:Int) (htI:0 <= tI /\ tI <= (tT.length:Int)) (Qgv:Qaa n) (rr:Int × Int) (hrr:Qan tT tI n = rr):FT Tryz.prog 9 #[tP,vi n] [Cl tP [vl ta tk tT,vi tI],S ta tk tT] (fun g:Unit=>Qaa rr.1 /\ (0 <= rr.2 /\ rr.2 <= (tT.length:Int)) /\ (0 <= rr.1 /\ (rr.1 < n \/ rr.1 = 0))) (fun g=>vi rr.1) (fun g=>[Cl tP [vl ta tk tT,vi rr.2]]):=by
 refine FTi Tryz.func9 fun w0 M0 F0=>?_
 unfold Qaa at Qgv
 refine Fb 8 1 fun _=>Fo 1 fun ho2=>KS ?_
 refine Oq Va (KS ?_)
 refine Jp 0 fun hp3=>?_
 refine Kq [0,1,3,7,15,31,63,7,135,391,903,1927,4095,8191] Qco ?_
 refine Qv [] Vm (Qv [] QrL ?_)
 refine QaE (decide (n <= 1)) ?_ ?_
 ·intro h4
  have g5:=dt h4
  refine Qb h4 [] Vm (Qs (Qs (Qs (Qs (Qs (Qs (Qs (Qs (Qs ?_)))))))))
  refine Qs (Qv [] Vpt ?_)
  refine Qn ⟨by kernel_rfl,?_⟩
  refine Kt (KS ?_)
  refine Oq Va (KS ?_)
  have hq:=q4 hrr (0,tI) (by simp only [Qan,h4,cs4]); subst hq
  exact Kr () rfl (.tmp rfl .nil) [1] en
 intro h4
 have g6:=df h4
 refine Qb h4 [] Vm (Qv [] Vm (Qv [0] (Vn 0) (Qv [0] (Vfa Qpz 0) (Qv [1] (Qah sh3 0) (Qv [] Vm (Qv [0] (Vn 0) (Qv [0] (Vfa QsW 0) (Qv [1] (Qah QjI 0) (Qv [] (Qba QcA) ?_)))))))))
 refine Qv [] Qg8 (Qv [] Vpf ?_)
 refine Qn ⟨by kernel_rfl,?_⟩
 refine Kc ?_ ?_
 ·intro h7
  have g8:=dt h7
  refine KS ?_
  refine Oq Va (KS ?_)
  have hq:=q4 hrr (0,tI) (by simp only [Qan,h4,h7,cs4]); subst hq
  exact Kr () rfl (.tmp rfl .nil) [1] en
 intro h7
 have g9:=df h7
 refine KS ?_
 refine Oq Vm (Oq (Vn 1) (Oq (Vfa Qpz 1) (Oq (Qah sh3 1) (Oq QaS (Oq (Vn 1) (Oq (Vfa Qpz 1) (Ost (QiP [1] sh3 [vl ta tk tT,vi (tI + 1)]) (KS ?_))))))))
 refine Qam [0,1,3,7,0,16,48,112,240,511,1023,0,4095,8191] Qco ?_
 refine Dv [] Vm (Dv [1] (Vn 0) (Dv [1] (Vfa QsW 0) (Dv [0] (Qah QjI 0) (Dv [] Vm (Dv [1] (Vn 0) (Dv [1] (Vfa Qpz 0) (Dv [0] (Qah sh3 0) (Dv [] QjU (Dv [2] (Vi QcA 0) ?_)))))))))
 have hb10:=ok1 (i:=(((tI + 1) - 1):Int).toNat) ho2 rng
 refine Dv [2] (Qjc sh3 0) (Dv [] Vm ?_)
 refine QaJ (Qrc (tT.getD (((tI + 1) - 1):Int).toNat 0) n) fun rv11 hg12=>?_
 refine Dx [] [] [0] (fun G=>vi rv11) [fun G=>SP.fact (Qaa rv11 /\ (0 <= rv11 /\ rv11 < n))] (fun G=>xC [] QA6 (QBD ((tT.getD (((tI + 1) - 1):Int).toNat 0)) n pre pre pre rv11 hg12)) (Dv [] Va ?_)
 refine Dn ⟨by kernel_rfl,fun G=>?_⟩
 refine Jw2 [(4,vi rv11)] [0,1,2] [SP.fact (Qaa rv11 /\ (0 <= rv11 /\ rv11 < n))] ?_
 refine Jf 3 rfl ?_; rintro ⟨he13,he14⟩
 unfold Qaa at he13
 refine Jk [0,1] ?_
 have hq:=q4 hrr (rv11,(tI + 1)) (by simp only [Qan,h4,h7,hg12,cs4]); subst hq
 exact Kr () rfl (.tmp rfl .nil) [0] en
theorem Qwq (tP:Value) (ta:Option Addr) (tk:Nat) (tT:List Int) (tI:Int) (width:Int) (htI:0 <= tI /\ tI <= (tT.length:Int)) (Qcj:Qaa width) (hw0:0 <= width /\ width <= 1000) (rr:Qaf × Int) (hrr:Qer tT tI width = rr):FT Tryz.prog 13 #[tP,vi width] [Cl tP [vl ta tk tT,vi tI],S ta tk tT] (fun g:Value=>Qaa rr.1.Width /\ (0 <= rr.2 /\ rr.2 <= (tT.length:Int)) /\ (rr.1.Width = width) /\ (rr.1.Words.length = (((width:Int) + 63) / 64).toNat)) (fun g=>.agg #[vi rr.1.Width,g]) (fun g=>[os g rr.1.Words,Cl tP [vl ta tk tT,vi rr.2]]):=by
 refine FTi Tryz.func13 fun w0 M0 F0=>?_
 unfold Qaa at Qcj
 refine Fb 8 1 fun _=>Fo 1 fun ho2=>KS ?_
 refine Oa (Al QgU [vi 0,.slice none 0 0]) fun p3=>KS ?_
 refine Oq Vm ?_
 refine QaJ (QaK width) fun rv5 hg6=>?_
 have hc7:=QpC width pre pre rv5 hg6
 refine Oc [] QpB hc7 ?_
 rintro c4 ⟨he8,he9,he10⟩
 unfold Qaa at he8
 refine Jo 0 ?_; rintro a11 k12 rfl
 refine Fb 8 0 fun _=>?_
 refine Oa (Al QgU [vi 0,.slice none 0 0]) fun p14=>Ost (Scl [0] Qax [vi rv5.Width,vl a11 k12 rv5.Words]) (KS ?_)
 refine Oq Va (KS ?_)
 refine Kl (γ:=Nat × Int × Int × List (BitVec 64) × Int × Option Addr × Nat) (fun (r15,QlL,QjP,QkL,Qqk,a20,k21)=>⟨[(0,tP),(1,vi width),(4,p3),(5,p14),(6,vi Qqk)],[O a20 k21 QkL,Cl p14 [vi QjP,vl a20 k21 QkL],Cl p3 [vi 0,.slice none 0 0],Cl tP [vl ta tk tT,vi QlL],S ta tk tT],QdN tT r15 QlL QjP QkL Qqk = QdN tT (((width:Int) - 0).toNat) tI rv5.Width rv5.Words 0 /\ r15 = ((width:Int) - Qqk).toNat /\ (0:Int) <= Qqk /\ (Qqk <= width \/ Qqk = 0) /\ (-9223372036854775808 <= QlL /\ QlL <= 9223372036854775807) /\ (0 <= QlL /\ QlL <= (tT.length:Int)) /\ (-9223372036854775808 <= QjP /\ QjP <= 9223372036854775807) /\ (-9223372036854775808 <= Qqk /\ Qqk <= 9223372036854775807) /\ QjP = width /\ QkL.length = (((width:Int) + 63) / 64).toNat,r15⟩) (((width:Int) - 0).toNat,tI,rv5.Width,rv5.Words,0,a11,k12) [1,0,0,0,0] ⟨rfl,rfl,aM1,(.inr rfl),aM1,aM1,aM1,aM1,iv0,iv0⟩ ?_
 rintro ⟨r15,QlL,QjP,QkL,Qqk,a20,k21⟩ ⟨hM22,hr23,hi24,hi25,hk26,ht27,hk28,hk29,hv30,hv31⟩
 refine QaA fun _ _ hL hA=>?_; dsimp only at hL hA; subst hL hA
 refine Fb 8 0 fun _=>Fb 8 4 fun _=>Fo 4 fun ho34=>KS ?_
 refine Oq Vm (Oq Vm (Oq Qbh (KS ?_)))
 refine Kc ?_ ?_
 ·intro h35
  have g36:=dt h35
  obtain ⟨r37,rfl⟩:=scc (n:=r15) aM1
  refine KS ?_
  refine Oq Vm ?_
  refine QaJ (Qan tT QlL 3) fun rv38 hg39=>?_
  have hc40:=fn9 tP ta tk tT QlL 3 pre pre rv38 hg39
  refine Oc [3,3] ca9 hc40 ?_
  rintro - ⟨he41,he42,he43⟩
  unfold Qaa at he41
  refine Oq QbW (KS ?_)
  refine Kc ?_ ?_
  ·intro h44
   have g45:=eq_of_beq h44
   refine KS ?_
   refine Oq (Qau Qax 2) (Oq Vm ?_)
   refine QaJ (Qbx (Qaf.mk QjP QkL) Qqk) fun rv47 hg48=>?_
   refine Oc [1] Qqq (Qc2 (A:=_) hlx (Qd3 (Ent.take (is:=[0]) rfl) (Qqn ((Qaf.mk QjP QkL)) a20 k21 Qqk pre pre pre pre rv47 hg48))) ?_ (ht:=rfl)
   rintro c46 ⟨he49,he50,he51⟩
   unfold Qaa at he49
   have he50:(rv47.Width = QjP):=he50
   have he51:(rv47.Words.length = ((QjP + 63) / 64).toNat):=he51
   refine Jo 1 ?_; rintro a52 k53 rfl
   refine Fb 8 1 fun _=>?_
   refine Ost (Scl [3] Qax [vi rv47.Width,vl a52 k53 rv47.Words]) (KS ?_)
   refine Oq Vm (Oq QaS (Oq Va (KS ?_)))
   exact Kg (r37,rv38.2,rv47.Width,rv47.Words,(Qqk + 1),a52,k53) [2,0,2,1,1] ⟨(q3 hM22 (by simp only [QdN,h35,h44,hg39,hg48,cs4])),aM1,aM1,aM1,aM1,aM1,aM1,aM1,iv1,iv1⟩
  intro h44
  have g55:=ne_of_beq_false h44
  refine KS ?_
  refine Oq Vm (Oq QaS (Oq Va (KS ?_)))
  exact Kg (r37,rv38.2,QjP,QkL,(Qqk + 1),a20,k21) [1,1,1,0,0] ⟨(q3 hM22 (by simp only [QdN,h35,h44,hg39,cs4])),aM1,aM1,aM1,aM1,aM1,aM1,aM1,iv1,iv1⟩
 intro h35
 have g56:=df h35
 obtain rfl:r15 = 0:=by omega
 refine Ke ?_
 have hR57:=q2 hM22 (QlL,QjP,QkL) (by simp only [QdN,h35,cs4])
 refine KS ?_
 refine Oq (Qau Qax 1) (Ost (Scl [2] Qax [vi QjP,vl a20 k21 QkL]) (KS ?_))
 have hq:=q4 hrr ((Qaf.mk QjP QkL),QlL) (by simp only [Qer,h35,hg6,hR57,cs4]); subst hq
 exact Kr (vl a20 k21 QkL) rfl (.cellN 0 rfl Qax rfl (Qal _ _) rfl .nil) [1,2] en
theorem Qz0 (width:Int) (n:Int) (Qcj:Qaa width) (Qgv:Qaa n) (rr:Bool) (hrr:QgD width n = rr):FT Tryz.prog 93 #[vi width,vi n] [] (fun g:Unit=>True) (fun g=>vb rr) (fun g=>[]):=by
 refine FTi Tryz.func93 fun w0 M0 F0=>?_
 unfold Qaa at Qcj Qgv
 refine KS ?_
 refine Oq Va (KS ?_)
 refine Oq Vm (Oq Qg8 (Oq Vm ?_))
 refine Js 7 ?_ ?_
 ·intro h1
  have g2:=dt h1
  refine Oq Vm (Oq QrL (Oq Vpt (Oq Vm ?_)))
  refine Js 11 ?_ ?_
  ·intro h3
   have g4:=dt h3
   refine Oq Vm (Oq Qg8 (Oq Vpt (Oq Vm ?_)))
   refine Js 15 ?_ ?_
   ·intro h5
    have g6:=dt h5
    refine Oq Vm (Oq QrL (Oq Vpt (Oq Va (KS ?_))))
    have hq:=q4 hrr (decide (n <= 256)) (by simp only [QgD,h1,h3,h5,cs4]); subst hq
    exact Kr () rfl (.tmp rfl .nil) [] trivial
   intro h5
   have g7:=df h5
   refine Osk (Osk (Oq Vpf (Oq Va (KS ?_))))
   have hq:=q4 hrr false (by simp only [QgD,h1,h3,h5,cs4]); subst hq
   exact Kr () rfl (.tmp rfl .nil) [] trivial
  intro h3
  have g8:=df h3
  refine Osk (Osk (Oq Vpf (Oq Vm (Osk (Osk (Oq Vpf (Oq Va (KS ?_))))))))
  have hq:=q4 hrr false (by simp only [QgD,h1,h3,cs4]); subst hq
  exact Kr () rfl (.tmp rfl .nil) [] trivial
 intro h1
 have g9:=df h1
 refine Osk (Osk (Oq Vpf (Oq Vm (Osk (Osk (Oq Vpf (Oq Vm (Osk (Osk ?_)))))))))
 refine Oq Vpf (Oq Va (KS ?_))
 have hq:=q4 hrr false (by simp only [QgD,h1,cs4]); subst hq
 exact Kr () rfl (.tmp rfl .nil) [] trivial
theorem QAb (l:List Int) (la0:Option Addr) (lk0:Nat) (n:Int) (Qgv:Qaa n) (rr:Bool) (hrr:QcP l n = rr):FT Tryz.prog 94 #[vl la0 lk0 l,vi n] [S la0 lk0 l] (fun g:Unit=>True) (fun g=>vb rr) (fun g=>[]):=by
 refine FTi Tryz.func94 fun w0 M0 F0=>?_
 unfold Qaa at Qgv
 refine Fb 8 0 fun _=>Fo 0 fun ho2=>KS ?_
 refine Oq Va (KS ?_)
 refine Oq Vm (Oq (Qba QcA) (Oq Vm (KS ?_)))
 refine Kl (γ:=Nat × Int) (fun (r3,Qqt)=>⟨[(0,vl la0 lk0 l),(1,vi n),(7,vl la0 lk0 l),(8,vi (l.length:Int)),(9,vi Qqt)],[S la0 lk0 l],Qa8 l n r3 Qqt = Qa8 l n (((l.length:Int) - 0).toNat) 0 /\ r3 = ((l.length:Int) - Qqt).toNat /\ (0:Int) <= Qqt /\ Qqt <= (l.length:Int) /\ (-9223372036854775808 <= Qqt /\ Qqt <= 9223372036854775807),r3⟩) (((l.length:Int) - 0).toNat,0) [0] ⟨rfl,rfl,aM1,aM1,aM1⟩ ?_
 rintro ⟨r3,Qqt⟩ ⟨hM5,hr6,hi7,hi8,hk9⟩
 refine QaA fun _ _ hL hA=>?_; dsimp only at hL hA; subst hL hA
 refine Fb 8 0 fun _=>Fo 0 fun ho11=>KS ?_
 refine Oq Qbh (KS ?_)
 refine Kc ?_ ?_
 ·intro h12
  have g13:=dt h12
  obtain ⟨r14,rfl⟩:=scc (n:=r3) aM1
  refine KS ?_
  refine Oq Vm (Oq (Vi QcA 0) ?_)
  have hb15:=ok1 (i:=Qqt.toNat) ho11 rng
  refine Oq (Qjc sh3 0) (Oq Va (Oq Va (KS ?_)))
  refine Oq Vm (Oq Qbh (Oq Vm ?_))
  refine Js 16 ?_ ?_
  ·intro h16
   have g17:=dt h16
   refine Osk (Osk (Osk (Oq Vpt (Oq Vm (Osk (Osk (Osk (Osk (Osk ?_)))))))))
   refine Osk (Osk (Osk (Osk (Osk (Osk (Oq Vpt (KS ?_)))))))
   refine Kt (KS ?_)
   refine Oq Va (KS ?_)
   have hR18:=q2 hM5 (.ret false) (by simp only [Qa8,h12,h16,cs4])
   have hq:=q4 hrr false (by simp only [QcP,h12,h16,hR18,cs4]); subst hq
   exact Kr () rfl (.tmp rfl .nil) [] trivial
  intro h16
  have g19:=df h16
  refine Oq Vm (Oq Vm (Oq Qg8 (Oq Vpf (Oq Vm ?_))))
  refine Js 21 ?_ ?_
  ·intro h20
   have g21:=dt h20
   refine Osk (Osk (Osk (Osk (Osk (Osk (Osk (Osk (Osk (Osk ?_)))))))))
   refine Osk (Oq Vpt (KS ?_))
   refine Kt (KS ?_)
   refine Oq Va (KS ?_)
   have hR22:=q2 hM5 (.ret false) (by simp only [Qa8,h12,h16,h20,cs4])
   have hq:=q4 hrr false (by simp only [QcP,h12,h16,h20,hR22,cs4]); subst hq
   exact Kr () rfl (.tmp rfl .nil) [] trivial
  intro h20
  have g23:=df h20
  refine Oq Vm (Oq Qgr (Oq Vm ?_))
  refine Js 24 ?_ ?_
  ·intro h24
   have g25:=dt h24
   refine Oq Vm (Oq Vm (Oq Vm (Oq QjU (Oq (Vi QcA 0) ?_))))
   have hb26:=ok1 (i:=((Qqt - 1):Int).toNat) ho11 rng
   refine Oq (Qjc sh3 0) (Oq QrL (Oq Vpt (Oq Vpf (KS ?_))))
   refine Kc ?_ ?_
   ·intro h27
    have g28:=dt h27
    refine KS ?_
    refine Oq Va (KS ?_)
    have hR29:=q2 hM5 (.ret false) (by simp only [Qa8,h12,h16,h20,h24,h27,cs4])
    have hq:=q4 hrr false (by simp only [QcP,h12,h16,h20,h24,h27,hR29,cs4]); subst hq
    exact Kr () rfl (.tmp rfl .nil) [] trivial
   intro h27
   have g30:=df h27
   refine KS ?_
   refine Oq QaS (Oq Vm (KS ?_))
   exact Kg (r14,(Qqt + 1)) [0] ⟨(q3 hM5 (by simp only [Qa8,h12,h16,h20,h24,h27,cs4])),aM1,aM1,aM1,aM1⟩
  intro h24
  have g31:=df h24
  refine Osk (Osk (Osk (Osk (Osk (Osk (Osk (Oq Vpf (Oq Vpf (KS ?_)))))))))
  refine Kf (KS ?_)
  refine Oq QaS (Oq Vm (KS ?_))
  exact Kg (r14,(Qqt + 1)) [0] ⟨(q3 hM5 (by simp only [Qa8,h12,h16,h20,h24,cs4])),aM1,aM1,aM1,aM1⟩
 intro h12
 have g32:=df h12
 obtain rfl:r3 = 0:=by omega
 refine Ke ?_
 have hR33:=q2 hM5 (.brk ()) (by simp only [Qa8,h12,cs4])
 refine KS ?_
 refine Oq Va (KS ?_)
 have hq:=q4 hrr true (by simp only [QcP,h12,hR33,cs4]); subst hq
 exact Kr () rfl (.tmp rfl .nil) [] trivial
theorem QyE (s:List Qaf) (sa0:Option Addr) (sk0:Nat) (fF:FuncId) (fC:List Value) (fp:Qaf -> Bool) (fA:List SP) (hfc:Qab Tryz.prog fF = true) (hfF:∀ x ∈ s,∀ (a1:Option Addr) (k1:Nat),Qaa x.Width -> FT Tryz.prog fF ([(.agg #[vi x.Width,vl a1 k1 x.Words]:Value)] ++ fC).toArray ([S a1 k1 x.Words] ++ [Qg5 fA]) (fun _:Unit=>True) (fun _=>.bool (fp x)) (fun _=>[])) (rr:Int) (hrr:QcB s fp = rr):FT Tryz.prog 170 #[vl sa0 sk0 s,.func (.func fF) #[] fC.toArray] [S sa0 sk0 s,Qg5 fA] (fun g:Unit=>Qaa rr) (fun g=>vi rr) (fun g=>[]):=by
 refine FTi Tryz.func170 fun w0 M0 F0=>Fb 32 0 fun _=>?_
 refine KS ?_
 refine Oq Va (KS ?_)
 refine Oq Vm (Oq (Qba Qc6) (Oq Vm (KS ?_)))
 refine Kl (γ:=Nat × Int) (fun (r2,Qea)=>⟨[(0,vl sa0 sk0 s),(1,.func (.func fF) #[] fC.toArray),(7,vi (s.length:Int)),(8,vi Qea)],[S sa0 sk0 s,Qg5 fA],Qbo s fp r2 Qea = Qbo s fp (((s.length:Int) - 0).toNat) 0 /\ r2 = ((s.length:Int) - Qea).toNat /\ (0:Int) <= Qea /\ Qea <= (s.length:Int) /\ (-9223372036854775808 <= Qea /\ Qea <= 9223372036854775807),r2⟩) (((s.length:Int) - 0).toNat,0) [0,1] ⟨rfl,rfl,aM1,aM1,aM1⟩ ?_
 rintro ⟨r2,Qea⟩ ⟨hM4,hr5,hi6,hi7,hk8⟩
 refine QaA fun _ _ hL hA=>?_; dsimp only at hL hA; subst hL hA
 refine Fb 32 0 fun _=>KS ?_
 refine Oq Qbh (KS ?_)
 refine Kc ?_ ?_
 ·intro h10
  have g11:=dt h10
  obtain ⟨r12,rfl⟩:=scc (n:=r2) aM1
  refine KS ?_
  refine Oq Vm (Oq Va (KS ?_))
  refine Oq Vm (Oq Vm (Oq Vm (Oq (Vi Qc6 0) ?_)))
  refine Qa3 Qea.toNat 0 rfl rng fun a13 k14 hb15=>?_
  unfold Qaa at hb15
  refine Fb 8 1 fun _=>Oq (Qau Qax 0) ?_
  refine Qj5 [1,3] rfl rfl rfl (OpC.clo (asv:=[(.agg #[vi ((s.getD Qea.toNat default).Width),vl a13 k14 ((s.getD Qea.toNat default).Words)]:Value)] ++ fC) rfl rfl hfc rfl (by simp)) (hfF (s.getD Qea.toNat default) (Qa4 rng) a13 k14 pre) rfl fun _ _=>?_
  refine KS ?_
  refine Kc ?_ ?_
  ·intro h17
   refine KS ?_
   refine Oq Vm (Oq Va (KS ?_))
   have hR19:=q2 hM4 (.ret Qea) (by simp only [Qbo,h10,h17,cs4])
   have hq:=q4 hrr Qea (by simp only [QcB,h10,h17,hR19,cs4]); subst hq
   exact Kr () rfl (.tmp rfl .nil) [] en
  intro h17
  refine KS ?_
  refine Oq QaS (Oq Vm (KS ?_))
  exact Kg (r12,(Qea + 1)) [2,3] ⟨(q3 hM4 (by simp only [Qbo,h10,h17,cs4])),aM1,aM1,aM1,aM1⟩
 intro h10
 have g21:=df h10
 obtain rfl:r2 = 0:=by omega
 refine Ke ?_
 have hR22:=q2 hM4 (.brk ()) (by simp only [Qbo,h10,cs4])
 refine KS ?_
 refine Oq Va (KS ?_)
 have hq:=q4 hrr (-1) (by simp only [QcB,h10,hR22,cs4]); subst hq
 exact Kr () rfl (.tmp rfl .nil) [] en
theorem Qwn (s:List Qaf) (sa0:Option Addr) (sk0:Nat) (fF:FuncId) (fC:List Value) (fp:Qaf -> Bool) (fA:List SP) (hfc:Qab Tryz.prog fF = true) (hfF:∀ x ∈ s,∀ (a1:Option Addr) (k1:Nat),Qaa x.Width -> FT Tryz.prog fF ([(.agg #[vi x.Width,vl a1 k1 x.Words]:Value)] ++ fC).toArray ([S a1 k1 x.Words] ++ [Qg5 fA]) (fun _:Unit=>True) (fun _=>.bool (fp x)) (fun _=>[])) (rr:Bool) (hrr:QaC s fp = rr):FT Tryz.prog 135 #[vl sa0 sk0 s,.func (.func fF) #[] fC.toArray] [S sa0 sk0 s,Qg5 fA] (fun g:Unit=>True) (fun g=>vb rr) (fun g=>[]):=by
 refine FTi Tryz.func135 fun w0 M0 F0=>Fb 32 0 fun _=>?_
 refine KS ?_
 refine Oq Va (KS ?_)
 refine Oq Vm (Oq Vm ?_)
 refine QaJ (QcB s fp) fun rv2 hg3=>?_
 have hc4:=QyE s sa0 sk0 fF fC fp fA hfc hfF rv2 hg3
 refine Oc [0,1] Qyz hc4 ?_
 rintro - he5
 unfold Qaa at he5
 refine Oq Qg8 (Oq Va (KS ?_))
 have hq:=q4 hrr (decide (0 <= rv2)) (by simp only [QaC,hg3,cs4]); subst hq
 exact Kr () rfl (.tmp rfl .nil) [] trivial
theorem Qw6 (width:Int) (Qcj:Qaa width) (rr:Bool) (hrr:Qfd width = rr):FT Tryz.prog 113 #[vi width] [] (fun g:Unit=>True) (fun g=>vb rr) (fun g=>[]):=by
 refine FTi Tryz.func113 fun w0 M0 F0=>?_
 unfold Qaa at Qcj
 refine KS ?_
 refine Oq Va (KS ?_)
 refine Oq Vm (Oq Qg8 (Oq Vm ?_))
 refine Js 5 ?_ ?_
 ·intro h1
  have g2:=dt h1
  refine Oq Vm (Oq QrL (Oq Vpt (Oq Va (KS ?_))))
  have hq:=q4 hrr (decide (width <= 256)) (by simp only [Qfd,h1,cs4]); subst hq
  exact Kr () rfl (.tmp rfl .nil) [] trivial
 intro h1
 have g3:=df h1
 refine Osk (Osk (Oq Vpf (Oq Va (KS ?_))))
 have hq:=q4 hrr false (by simp only [Qfd,h1,cs4]); subst hq
 exact Kr () rfl (.tmp rfl .nil) [] trivial
theorem Qw8 (width:Int) (Qcj:Qaa width) (hw0:0 <= width /\ width <= 1000000) (rr:Int) (hrr:QjD width = rr):FT Tryz.prog 114 #[vi width] [] (fun g:Unit=>Qaa rr /\ (rr = (width + 63) / 64)) (fun g=>vi rr) (fun g=>[]):=by
 refine FTi Tryz.func114 fun w0 M0 F0=>?_
 unfold Qaa at Qcj
 refine KS ?_
 refine Oq Va (KS ?_)
 refine Oq Vm (Oq QaS (Oq QjU (Oq Qrl (Oq Va (KS ?_)))))
 have hq:=q4 hrr (((width + 64) - 1) / 64) (by simp only [QjD,cs4]); subst hq
 exact Kr () rfl (.tmp rfl .nil) [] en
theorem QwU (width:Int) (Qcj:Qaa width) (rr:BitVec 64) (hrr:Qiq width = rr):FT Tryz.prog 115 #[vi width] [] (fun g:Unit=>True) (fun g=>u64 rr) (fun g=>[]):=by
 refine FTi Tryz.func115 fun w0 M0 F0=>?_
 unfold Qaa at Qcj
 refine KS ?_
 refine Oq Va (KS ?_)
 refine Oq Vm (Oq (VcU un3 QqC) (Oq (Qri (b:=64#64) (by simp)) (Oq (Qrv (a:=18446744073709551615#64)) (Oq Va (KS ?_)))))
 have hq:=q4 hrr (18446744073709551615#64 <<< ((((BitVec.ofInt 64 width) % 64#64).toNat:Int)).toNat) (by simp only [Qiq,cs4]); subst hq
 exact Kr () rfl (.tmp rfl .nil) [] trivial
theorem QrD (s:Qaf) (sa1:Option Addr) (sk1:Nat) (Qcc:Qaa s.Width) (rr:Bool) (hrr:Qa0 s = rr):FT Tryz.prog 79 #[.agg #[vi s.Width,vl sa1 sk1 s.Words]] [S sa1 sk1 s.Words] (fun g:Unit=>True) (fun g=>vb rr) (fun g=>[]):=by
 refine FTi Tryz.func79 fun w0 M0 F0=>?_
 unfold Qaa at Qcc
 refine Fb 8 0 fun _=>KS ?_
 refine Oa (Ab [vi s.Width,vl sa1 sk1 s.Words]) fun p2=>Oq Va (KS ?_)
 refine Qam [0,1,3,7,15,31,63,127,31,287,799,2047,4095] Qco ?_
 refine Dv [0] (Vfa Qbi 0) (Dv [0] (Qah sh3 0) ?_)
 refine QaJ (Qfd s.Width) fun rv3 hg4=>?_
 refine Dx [] [] [0] (fun G=>vb rv3) [fun G=>SP.fact (True)] (fun G=>xC [] Qyl (Qw6 s.Width pre rv3 hg4)) (Dv [] Qcy ?_)
 refine QaE (!rv3) ?_ ?_
 ·intro h5
  have h7:=not_true h5
  refine Db h5 [] Vm (Ds (Ds (Ds (Ds (Ds (Ds (Ds (Dv [] Vpt ?_))))))))
  refine Dn ⟨by kernel_rfl,fun G=>?_⟩
  refine Jw2 [(1,p2),(15,vb true)] [0,1] [SP.fact (True)] ?_
  refine Jk [0,1] (Kt ?_)
  refine KS ?_
  refine Oq Va (KS ?_)
  have hq:=q4 hrr false (by simp only [Qa0,h5,h7,hg4,cs4]); subst hq
  exact Kr () rfl (.tmp rfl .nil) [] trivial
 intro h5
 have h10:=not_false h5
 try have hrg:=Qqd (w:=s.Width) (by simp only [h5,h10,hg4])
 refine Db h5 [] Vm (Dv [0] (Vfa Qcm 0) (Dv [0] (Qah QiV 0) (Dv [] (Qba QgV) (Dv [0] (Vfa Qbi 0) (Dv [0] (Qah sh3 0) ?_)))))
 refine QaJ (QjD s.Width) fun rv12 hg13=>?_
 refine Dx [] [] [0] (fun G=>vi rv12) [fun G=>SP.fact (Qaa rv12 /\ (rv12 = (s.Width + 63) / 64))] (fun G=>xC [] QyD (Qw8 s.Width pre pre rv12 hg13)) (Dv [] QfZ (Dv [] Vpf ?_))
 refine Dn ⟨by kernel_rfl,fun G=>?_⟩
 refine Jw2 [(1,p2),(15,vb ((s.Words.length:Int) != rv12))] [0,1] [SP.fact (True),SP.fact (Qaa rv12 /\ (rv12 = (s.Width + 63) / 64))] ?_
 refine Jf 3 rfl ?_; rintro ⟨he14,he15⟩
 unfold Qaa at he14
 refine Jk [0,1] ?_
 refine Kc ?_ ?_
 ·intro h16
  have g17:=QaB h16
  refine KS ?_
  refine Oq Va (KS ?_)
  have hq:=q4 hrr false (by simp only [Qa0,h5,h10,h16,hg4,hg13,cs4]); subst hq
  exact Kr () rfl (.tmp rfl .nil) [] trivial
 intro h16
 have g18:=Qae h16
 refine KS ?_
 refine Qam [0,1,3,7,15,31,63,31,159,415,927,2047,4095,31,8223,24607,65535,131071,262143,524287] Qco ?_
 refine Dv [0] (Vfa Qbi 0) (Dv [0] (Qah sh3 0) (Dv [] QtG (Dv [] QbW ?_)))
 refine QaE ((s.Width % 64) == 0) ?_ ?_
 ·intro h19
  have g20:=eq_of_beq h19
  refine Db h19 [] Vm (Ds (Ds (Ds (Ds (Ds (Ds (Ds (Ds (Ds ?_)))))))))
  refine Ds (Ds (Ds (Ds (Dv [] Vpt (Dv [] Va ?_)))))
  refine Dn ⟨by kernel_rfl,fun G=>?_⟩
  refine Jw2 [(2,vb true)] [0,1] [] ?_
  have hq:=q4 hrr true (by simp only [Qa0,h5,h10,h16,h19,hg4,hg13,cs4]); subst hq
  exact Kr () rfl (.tmp rfl .nil) [] trivial
 intro h19
 have g21:=ne_of_beq_false h19
 refine Db h19 [] Vm (Dv [0] (Vfa Qcm 0) (Dv [0] (Qah QiV 0) (Dv [0] (Vfa Qcm 0) (Dv [0] (Qah QiV 0) (Dv [] (Qba QgV) (Dv [] QjU (Dv [1] (Vi QgV 0) (Dv [1] (QpT QnH 0) (Dv [0] (Vfa Qbi 0) ?_)))))))))
 refine Dv [0] (Qah sh3 0) ?_
 refine QaJ (Qiq s.Width) fun rv22 hg23=>?_
 refine Dx [] [] [0] (fun G=>u64 rv22) [fun G=>SP.fact (True)] (fun G=>xC [] Qxu (QwU s.Width pre rv22 hg23)) (Dv [] QmX (Dv [] (Qsx (b:=0#64)) (Dv [] Vpf (Dv [] Va ?_))))
 refine Dn ⟨by kernel_rfl,fun G=>?_⟩
 refine Jw2 [(2,vb (((s.Words.getD (((s.Words.length:Int) - 1):Int).toNat 0#64) &&& rv22) == 0#64))] [0,1] [SP.fact (True)] ?_
 refine Jk [0,1] ?_
 have hq:=q4 hrr (((s.Words.getD (((s.Words.length:Int) - 1):Int).toNat 0#64) &&& rv22) == 0#64) (by simp only [Qa0,h5,h10,h16,h19,hg4,hg13,hg23,cs4]); subst hq
 exact Kr () rfl (.tmp rfl .nil) [] trivial
theorem QxF (s:Qaf) (sa1:Option Addr) (sk1:Nat) (cap0P:Value) (cap0:Int) (Qcc:Qaa s.Width) (QhM:Qaa cap0) (rr:Bool) (hrr:Qdm s cap0 = rr):FT Tryz.prog 136 #[.agg #[vi s.Width,vl sa1 sk1 s.Words],cap0P] [S sa1 sk1 s.Words,pv cap0P [vi cap0]] (fun g:Unit=>True) (fun g=>vb rr) (fun g=>[]):=by
 refine FTi Tryz.func136 fun w0 M0 F0=>?_
 unfold Qaa at Qcc QhM
 refine Fb 8 0 fun _=>KS ?_
 refine Oa (Ab [vi s.Width,vl sa1 sk1 s.Words]) fun p2=>Oq Va (KS ?_)
 refine Oq (Qau Qax 0) ?_
 refine QaJ (Qa0 s) fun rv3 hg4=>?_
 have hc5:=QrD s sa1 sk1 pre rv3 hg4
 refine Oc [1] QrI hc5 ?_
 rintro - -
 refine Oq Qcy (Oq Vm ?_)
 refine Js 7 ?_ ?_
 ·intro h6
  have h8:=not_true h6
  refine Osk (Osk (Osk (Osk (Oq Vpt (Oq Va (KS ?_))))))
  have hq:=q4 hrr true (by simp only [Qdm,h6,h8,hg4,cs4]); subst hq
  exact Kr () rfl (.tmp rfl .nil) [] trivial
 intro h6
 have h11:=not_false h6
 refine Oq (Vfa Qbi 0) (Oq (Qah sh3 0) (Oq (Vld sh3 2) (Oq QfZ (Oq Vpf (Oq Va (KS ?_))))))
 have hq:=q4 hrr (s.Width != cap0) (by simp only [Qdm,h6,h11,hg4,cs4]); subst hq
 exact Kr () rfl (.tmp rfl .nil) [] trivial
theorem Qzk (width:Int) (l:List Qaf) (la0:Option Addr) (lk0:Nat) (Qcj:Qaa width) (rr:Bool) (hrr:QfT width l = rr):FT Tryz.prog 95 #[vi width,vl la0 lk0 l] [S la0 lk0 l] (fun g:Unit=>True) (fun g=>vb rr) (fun g=>[]):=by
 refine FTi Tryz.func95 fun w0 M0 F0=>?_
 unfold Qaa at Qcj
 refine Fb 32 0 fun _=>KS ?_
 refine Oa (Ab [vi width]) fun p2=>Oq Va (KS ?_)
 refine Oq Vm (Oq (Vf [p2]) ?_)
 refine QiW (Ent.pall [0] rfl rfl) ?_
 refine QaJ (QaC l (fun x=>Qdm x width)) fun rv3 hg4=>?_
 have hc5:=Qwn l la0 lk0 136 [p2] (fun x=>Qdm x width) [pv p2 [vi width]] Qxh (fun x hx a1 k1 hq0=>Qh9 (A1:=_) (QxF x a1 k1 p2 width hq0 pre _ rfl)) rv3 hg4
 refine Oc [2,0] QvR hc5 ?_
 rintro - -
 refine Oq Qcy (Oq Va (KS ?_))
 have hq:=q4 hrr (!rv3) (by simp only [QfT,hg4,cs4]); subst hq
 exact Kr () rfl (.tmp rfl .nil) [] trivial
theorem Qxn (s:List Qad) (sa0:Option Addr) (sk0:Nat) (fF:FuncId) (fC:List Value) (fp:Qad -> Bool) (fA:List SP) (hfc:Qab Tryz.prog fF = true) (hfF:∀ x ∈ s,∀ (a1:Option Addr) (k1:Nat) (a3:Option Addr) (k3:Nat) (a4:Option Addr) (k4:Nat),Qaa x.Gen.Width -> Qaa x.Kill.Width -> FT Tryz.prog fF ([(.agg #[vi x.Gen.Width,vl a1 k1 x.Gen.Words,vi x.Kill.Width,vl a3 k3 x.Kill.Words,vl a4 k4 x.Copies]:Value)] ++ fC).toArray ([S a1 k1 x.Gen.Words,S a3 k3 x.Kill.Words,S a4 k4 x.Copies] ++ [Qg5 fA]) (fun _:Unit=>True) (fun _=>.bool (fp x)) (fun _=>[])) (rr:Int) (hrr:QbB s fp = rr):FT Tryz.prog 137 #[vl sa0 sk0 s,.func (.func fF) #[] fC.toArray] [S sa0 sk0 s,Qg5 fA] (fun g:Unit=>Qaa rr) (fun g=>vi rr) (fun g=>[]):=by
 refine FTi Tryz.func137 fun w0 M0 F0=>Fb 88 0 fun _=>?_
 refine KS ?_
 refine Oq Va (KS ?_)
 refine Oq Vm (Oq (Qba QiI) (Oq Vm (KS ?_)))
 refine Kl (γ:=Nat × Int) (fun (r2,Qea)=>⟨[(0,vl sa0 sk0 s),(1,.func (.func fF) #[] fC.toArray),(7,vi (s.length:Int)),(8,vi Qea)],[S sa0 sk0 s,Qg5 fA],QaR s fp r2 Qea = QaR s fp (((s.length:Int) - 0).toNat) 0 /\ r2 = ((s.length:Int) - Qea).toNat /\ (0:Int) <= Qea /\ Qea <= (s.length:Int) /\ (-9223372036854775808 <= Qea /\ Qea <= 9223372036854775807),r2⟩) (((s.length:Int) - 0).toNat,0) [0,1] ⟨rfl,rfl,aM1,aM1,aM1⟩ ?_
 rintro ⟨r2,Qea⟩ ⟨hM4,hr5,hi6,hi7,hk8⟩
 refine QaA fun _ _ hL hA=>?_; dsimp only at hL hA; subst hL hA
 refine Fb 88 0 fun _=>KS ?_
 refine Oq Qbh (KS ?_)
 refine Kc ?_ ?_
 ·intro h10
  have g11:=dt h10
  obtain ⟨r12,rfl⟩:=scc (n:=r2) aM1
  refine KS ?_
  refine Oq Vm (Oq Va (KS ?_))
  refine Oq Vm (Oq Vm (Oq Vm (Oq (Vi QiI 0) ?_)))
  refine QaU Qea.toNat 0 rfl rng fun a13 k14 a15 k16 a17 k18 hb19 hb20=>?_
  unfold Qaa at hb19 hb20
  refine Fb 8 1 fun _=>Fb 8 2 fun _=>Fb 16 3 fun _=>Oq (Qau Qek 0) ?_
  refine Qj5 [1,2,3,5] rfl rfl rfl (OpC.clo (asv:=[(.agg #[vi (((s.getD Qea.toNat default).Gen).Width),vl a13 k14 (((s.getD Qea.toNat default).Gen).Words),vi (((s.getD Qea.toNat default).Kill).Width),vl a15 k16 (((s.getD Qea.toNat default).Kill).Words),vl a17 k18 ((s.getD Qea.toNat default).Copies)]:Value)] ++ fC) rfl rfl hfc rfl (by simp)) (hfF (s.getD Qea.toNat default) (Qa4 rng) a13 k14 a15 k16 a17 k18 pre pre) rfl fun _ _=>?_
  refine KS ?_
  refine Kc ?_ ?_
  ·intro h24
   refine KS ?_
   refine Oq Vm (Oq Va (KS ?_))
   have hR26:=q2 hM4 (.ret Qea) (by simp only [QaR,h10,h24,cs4])
   have hq:=q4 hrr Qea (by simp only [QbB,h10,h24,hR26,cs4]); subst hq
   exact Kr () rfl (.tmp rfl .nil) [] en
  intro h24
  refine KS ?_
  refine Oq QaS (Oq Vm (KS ?_))
  exact Kg (r12,(Qea + 1)) [4,5] ⟨(q3 hM4 (by simp only [QaR,h10,h24,cs4])),aM1,aM1,aM1,aM1⟩
 intro h10
 have g28:=df h10
 obtain rfl:r2 = 0:=by omega
 refine Ke ?_
 have hR29:=q2 hM4 (.brk ()) (by simp only [QaR,h10,cs4])
 refine KS ?_
 refine Oq Va (KS ?_)
 have hq:=q4 hrr (-1) (by simp only [QbB,h10,hR29,cs4]); subst hq
 exact Kr () rfl (.tmp rfl .nil) [] en
theorem QAw (s:List Qad) (sa0:Option Addr) (sk0:Nat) (fF:FuncId) (fC:List Value) (fp:Qad -> Bool) (fA:List SP) (hfc:Qab Tryz.prog fF = true) (hfF:∀ x ∈ s,∀ (a1:Option Addr) (k1:Nat) (a3:Option Addr) (k3:Nat) (a4:Option Addr) (k4:Nat),Qaa x.Gen.Width -> Qaa x.Kill.Width -> FT Tryz.prog fF ([(.agg #[vi x.Gen.Width,vl a1 k1 x.Gen.Words,vi x.Kill.Width,vl a3 k3 x.Kill.Words,vl a4 k4 x.Copies]:Value)] ++ fC).toArray ([S a1 k1 x.Gen.Words,S a3 k3 x.Kill.Words,S a4 k4 x.Copies] ++ [Qg5 fA]) (fun _:Unit=>True) (fun _=>.bool (fp x)) (fun _=>[])) (rr:Bool) (hrr:QaH s fp = rr):FT Tryz.prog 96 #[vl sa0 sk0 s,.func (.func fF) #[] fC.toArray] [S sa0 sk0 s,Qg5 fA] (fun g:Unit=>True) (fun g=>vb rr) (fun g=>[]):=by
 refine FTi Tryz.func96 fun w0 M0 F0=>Fb 88 0 fun _=>?_
 refine KS ?_
 refine Oq Va (KS ?_)
 refine Oq Vm (Oq Vm ?_)
 refine QaJ (QbB s fp) fun rv2 hg3=>?_
 have hc4:=Qxn s sa0 sk0 fF fC fp fA hfc hfF rv2 hg3
 refine Oc [0,1] Qx2 hc4 ?_
 rintro - he5
 unfold Qaa at he5
 refine Oq Qg8 (Oq Va (KS ?_))
 have hq:=q4 hrr (decide (0 <= rv2)) (by simp only [QaH,hg3,cs4]); subst hq
 exact Kr () rfl (.tmp rfl .nil) [] trivial
theorem QwT (vals:List Int) (valsa0:Option Addr) (valsk0:Nat) (rr:Int) (hrr:QeU vals = rr):FT Tryz.prog 146 #[vl valsa0 valsk0 vals] [S valsa0 valsk0 vals] (fun g:Unit=>Qaa rr) (fun g=>vi rr) (fun g=>[]):=by
 refine FTi Tryz.func146 fun w0 M0 F0=>Fb 8 0 fun _=>Fo 0 fun ho2=>?_
 refine KS ?_
 refine Oq Va (KS ?_)
 refine Oq Va (KS ?_)
 refine Oq Vm (Oq (Qba QcA) (Oq Vm (KS ?_)))
 refine Kl (γ:=Nat × Int) (fun (r3,Qhh)=>⟨[(3,vi 0),(6,vl valsa0 valsk0 vals),(7,vi (vals.length:Int)),(8,vi Qhh)],[S valsa0 valsk0 vals],Qch vals r3 Qhh = Qch vals (((vals.length:Int) - 0).toNat) 0 /\ r3 = ((vals.length:Int) - Qhh).toNat /\ (0:Int) <= Qhh /\ Qhh <= (vals.length:Int) /\ (-9223372036854775808 <= Qhh /\ Qhh <= 9223372036854775807),r3⟩) (((vals.length:Int) - 0).toNat,0) [0] ⟨rfl,rfl,aM1,aM1,aM1⟩ ?_
 rintro ⟨r3,Qhh⟩ ⟨hM5,hr6,hi7,hi8,hk9⟩
 refine QaA fun _ _ hL hA=>?_; dsimp only at hL hA; subst hL hA
 refine Fb 8 0 fun _=>Fo 0 fun ho11=>KS ?_
 refine Oq Qbh (KS ?_)
 refine Kc ?_ ?_
 ·intro h12
  have g13:=dt h12
  obtain ⟨r14,rfl⟩:=scc (n:=r3) aM1
  refine KS ?_
  refine Oq (Vi QcA 0) ?_
  have hb15:=ok1 (i:=Qhh.toNat) ho11 rng
  refine Oq (Qjc sh3 0) (Oq Va (KS ?_))
  refine Oq Vm (Oq Vm (Oq QfZ (KS ?_)))
  refine Kc ?_ ?_
  ·intro h16
   have g17:=QaB h16
   refine KS ?_
   refine Oq Vm (Oq Va (KS ?_))
   have hR18:=q2 hM5 (.ret (vals.getD Qhh.toNat 0)) (by simp only [Qch,h12,h16,cs4])
   have hq:=q4 hrr (vals.getD Qhh.toNat 0) (by simp only [QeU,h12,h16,hR18,cs4]); subst hq
   exact Kr () rfl (.tmp rfl .nil) [] en
  intro h16
  have g19:=Qae h16
  refine KS ?_
  refine Oq QaS (Oq Vm (KS ?_))
  exact Kg (r14,(Qhh + 1)) [0] ⟨(q3 hM5 (by simp only [Qch,h12,h16,cs4])),aM1,aM1,aM1,aM1⟩
 intro h12
 have g20:=df h12
 obtain rfl:r3 = 0:=by omega
 refine Ke ?_
 have hR21:=q2 hM5 (.brk ()) (by simp only [Qch,h12,cs4])
 refine KS ?_
 refine Oq Vm (Oq Va (KS ?_))
 have hq:=q4 hrr 0 (by simp only [QeU,h12,hR21,cs4]); subst hq
 exact Kr () rfl (.tmp rfl .nil) [] en
theorem Qvx (x:Int) (Quu:Qaa x) (rr:Bool) (hrr:Qda x = rr):FT Tryz.prog 174 #[vi x] [] (fun g:Unit=>True) (fun g=>vb rr) (fun g=>[]):=by
 refine FTi Tryz.func174 fun w0 M0 F0=>?_
 unfold Qaa at Quu
 refine KS ?_
 refine Oq Va (KS ?_)
 refine Oq Vm (Oq Vm (Oq QfZ (Oq Va (KS ?_))))
 have hq:=q4 hrr (x != x) (by simp only [Qda,cs4]); subst hq
 exact Kr () rfl (.tmp rfl .nil) [] trivial
theorem QuX (x:Int) (y:Int) (Quu:Qaa x) (QBI:Qaa y) (rr:Int) (hrr:Qa9 x y = rr):FT Tryz.prog 147 #[vi x,vi y] [] (fun g:Unit=>Qaa rr) (fun g=>vi rr) (fun g=>[]):=by
 refine FTi Tryz.func147 fun w0 M0 F0=>?_
 unfold Qaa at Quu QBI
 refine KS ?_
 refine Oq Va (KS ?_)
 refine Oq Vm ?_
 refine QaJ (Qda x) fun rv1 hg2=>?_
 have hc3:=Qvx x pre rv1 hg2
 refine Oc [] Qv8 hc3 ?_
 rintro - -
 refine Oq Va (KS ?_)
 refine Oq Vm ?_
 refine QaJ (Qda y) fun rv4 hg5=>?_
 have hc6:=Qvx y pre rv4 hg5
 refine Oc [] Qv8 hc6 ?_
 rintro - -
 refine Oq Va (KS ?_)
 refine Oq Vm (KS ?_)
 refine Kc ?_ ?_
 ·intro h7
  refine KS ?_
  refine Oq Vm (KS ?_)
  refine Kc ?_ ?_
  ·intro h9
   refine KS ?_
   refine Oq Va (KS ?_)
   have hq:=q4 hrr 0 (by simp only [Qa9,h7,h9,hg2,hg5,cs4]); subst hq
   exact Kr () rfl (.tmp rfl .nil) [] en
  intro h9
  refine KS ?_
  refine Oq Va (KS ?_)
  have hq:=q4 hrr (-1) (by simp only [Qa9,h7,h9,hg2,hg5,cs4]); subst hq
  exact Kr () rfl (.tmp rfl .nil) [] en
 intro h7
 refine KS ?_
 refine Oq Vm (KS ?_)
 refine Kc ?_ ?_
 ·intro h13
  refine KS ?_
  refine Oq Va (KS ?_)
  have hq:=q4 hrr 1 (by simp only [Qa9,h7,h13,hg2,hg5,cs4]); subst hq
  exact Kr () rfl (.tmp rfl .nil) [] en
 intro h13
 refine KS ?_
 refine Oq Vm (Oq Vm (Oq Qbh (KS ?_)))
 refine Kc ?_ ?_
 ·intro h16
  have g17:=dt h16
  refine KS ?_
  refine Oq Va (KS ?_)
  have hq:=q4 hrr (-1) (by simp only [Qa9,h7,h13,h16,hg2,hg5,cs4]); subst hq
  exact Kr () rfl (.tmp rfl .nil) [] en
 intro h16
 have g18:=df h16
 refine KS ?_
 refine Oq Vm (Oq Vm (Oq Qgr (KS ?_)))
 refine Kc ?_ ?_
 ·intro h19
  have g20:=dt h19
  refine KS ?_
  refine Oq Va (KS ?_)
  have hq:=q4 hrr 1 (by simp only [Qa9,h7,h13,h16,h19,hg2,hg5,cs4]); subst hq
  exact Kr () rfl (.tmp rfl .nil) [] en
 intro h19
 have g21:=df h19
 refine KS ?_
 refine Oq Va (KS ?_)
 have hq:=q4 hrr 0 (by simp only [Qa9,h7,h13,h16,h19,hg2,hg5,cs4]); subst hq
 exact Kr () rfl (.tmp rfl .nil) [] en
theorem Qyp (a:QbA) (b:QbA) (Qja:Qaa a.From) (Qws:Qaa a.To) (QfG:Qaa b.From) (Qwt:Qaa b.To) (rr:Int) (hrr:QfK a b = rr):FT Tryz.prog 109 #[.agg #[vi a.From,vi a.To],.agg #[vi b.From,vi b.To]] [] (fun g:Unit=>Qaa rr) (fun g=>vi rr) (fun g=>[]):=by
 refine FTi Tryz.func109 fun w0 M0 F0=>?_
 unfold Qaa at Qja Qws QfG Qwt
 refine KS ?_
 refine Oa (Ab [vi a.From,vi a.To]) fun p1=>Oa (Ab [vi b.From,vi b.To]) fun p2=>Oq Va (KS ?_)
 refine Qam [0,1,0,4,15,0,32,0,128,511,1023,2047,4095] Qco ?_
 refine Dv [1] (Vfa Qci 0) (Dv [1] (Qah sh3 0) (Dv [0] (Vfa Qci 0) (Dv [0] (Qah sh3 0) ?_)))
 refine QaJ (Qa9 a.From b.From) fun rv3 hg4=>?_
 refine Dx [] [] [0] (fun G=>vi rv3) [fun G=>SP.fact (Qaa rv3)] (fun G=>xC [] Qvs (QuX a.From b.From pre pre rv3 hg4)) (Dv [1] (Vfa QdH 0) (Dv [1] (Qah sh3 0) (Dv [0] (Vfa QdH 0) (Dv [0] (Qah sh3 0) ?_))))
 refine QaJ (Qa9 a.To b.To) fun rv5 hg6=>?_
 refine Dx [] [] [0] (fun G=>vi rv5) [fun G=>SP.fact (Qaa rv5)] (fun G=>xC [] Qvs (QuX a.To b.To pre pre rv5 hg6)) (Dx [] [] [0] (fun G=>(G.g 10 0)) [fun G=>Cr (G.g 10 0) 2 [vi rv3,vi rv5]] (fun G=>xA (AsV QcA Qnk [vi rv3,vi rv5] [vi rv3,vi rv5])) ?_)
 refine QaJ (QeU [rv3,rv5]) fun rv11 hg12=>?_
 refine Dx [2,3,4] [4] [2,3,1,0] (fun G=>vi rv11) [fun G=>sl (G.g 10 0) ([rv3,rv5]:List Int),fun G=>SP.fact (Qaa rv11)] (fun G=>by refine xf 0 rfl ?_; rintro he13; unfold Qaa at he13; refine xf 1 rfl ?_; rintro he14; unfold Qaa at he14; exact xp [2] rfl (Ent.crInt _ [rv3,rv5] _ _ rfl rfl (by intro x hx; simp only [List.mem_cons,List.not_mem_nil,or_false] at hx; rcases hx with rfl | rfl <;> (unfold Qaa; omega)) aB1) (xp [0] rfl (Ent.freeze _ _) (xD [0] Qye rfl rfl rfl (Qh1 (γ:=Unit) (I:=fun g=>Qaa rv11) (V:=fun g=>vi rv11) (B:=fun g=>[]) (R:=sl (G.g 10 0) ([rv3,rv5]:List Int)) QgC (fun aq8 kq9 eq10=>by rw [eq10]; exact Qd3 (Ent.take (is:=[0]) rfl) (QwT ([rv3,rv5]) aq8 kq9 rv11 hg12)))))) (Dv [] Va ?_)
 refine Dn ⟨by kernel_rfl,fun G=>?_⟩
 refine Jw2 [(4,vi rv11)] [0,1] [SP.fact (Qaa rv3),SP.fact (Qaa rv5),sl (G.g 10 0) ([rv3,rv5]:List Int),SP.fact (Qaa rv11)] ?_
 generalize G.g 10 0 = c7
 refine Jf 2 rfl ?_; rintro he15
 unfold Qaa at he15
 refine Jf 3 rfl ?_; rintro he16
 unfold Qaa at he16
 refine Jf 5 rfl ?_; rintro he17
 unfold Qaa at he17
 refine Jk [0,1,4] ?_
 refine Jo 2 ?_; rintro a18 k19 rfl
 refine Fb 8 2 fun _=>Fo 2 fun ho21=>?_
 have hq:=q4 hrr rv11 (by simp only [QfK,hg4,hg6,hg12,cs4]); subst hq
 exact Kr () rfl (.tmp rfl .nil) [] en
theorem Qr4 (t:Qad) (ta1:Option Addr) (tk1:Nat) (ta3:Option Addr) (tk3:Nat) (ta4:Option Addr) (tk4:Nat) (b:Int) (Qkl:Qaa t.Gen.Width) (Qkm:Qaa t.Kill.Width) (QfG:Qaa b) (rr:Bool) (hrr:Qg2 t b = rr):FT Tryz.prog 76 #[.agg #[vi t.Gen.Width,vl ta1 tk1 t.Gen.Words,vi t.Kill.Width,vl ta3 tk3 t.Kill.Words,vl ta4 tk4 t.Copies],vi b] [S ta1 tk1 t.Gen.Words,S ta3 tk3 t.Kill.Words,S ta4 tk4 t.Copies] (fun g:Unit=>True) (fun g=>vb rr) (fun g=>[]):=by
 refine FTi Tryz.func76 fun w0 M0 F0=>?_
 unfold Qaa at Qkl Qkm QfG
 refine Fb 8 0 fun _=>Fb 8 1 fun _=>Fb 16 2 fun _=>KS ?_
 refine Oa (Ab [vi t.Gen.Width,vl ta1 tk1 t.Gen.Words,vi t.Kill.Width,vl ta3 tk3 t.Kill.Words,vl ta4 tk4 t.Copies]) fun p4=>Oq Va (KS ?_)
 refine Oq Vm (Oq Qg8 (Oq Vm ?_))
 refine Js 7 ?_ ?_
 ·intro h5
  have g6:=dt h5
  refine Oq Vm (Oq (Vfa QdB 0) (Oq (Qol Qbi 0) (Oq (Qah sh3 0) (Oq Qbh (Oq Vpt (Oq Va (KS ?_)))))))
  have hq:=q4 hrr (decide (b < t.Gen.Width)) (by simp only [Qg2,h5,cs4]); subst hq
  exact Kr () rfl (.tmp rfl .nil) [] trivial
 intro h5
 have g7:=df h5
 refine Osk (Osk (Osk (Osk (Osk (Oq Vpf (Oq Va (KS ?_)))))))
 have hq:=q4 hrr false (by simp only [Qg2,h5,cs4]); subst hq
 exact Kr () rfl (.tmp rfl .nil) [] trivial
theorem QxG (t:Qad) (ta1:Option Addr) (tk1:Nat) (ta3:Option Addr) (tk3:Nat) (ta4:Option Addr) (tk4:Nat) (Qkl:Qaa t.Gen.Width) (Qkm:Qaa t.Kill.Width) (rr:Bool) (hrr:Qcu t = rr):FT Tryz.prog 75 #[.agg #[vi t.Gen.Width,vl ta1 tk1 t.Gen.Words,vi t.Kill.Width,vl ta3 tk3 t.Kill.Words,vl ta4 tk4 t.Copies]] [S ta1 tk1 t.Gen.Words,S ta3 tk3 t.Kill.Words,S ta4 tk4 t.Copies] (fun g:Unit=>True) (fun g=>vb rr) (fun g=>[]):=by
 refine FTi Tryz.func75 fun w0 M0 F0=>?_
 unfold Qaa at Qkl Qkm
 refine Fb 8 0 fun _=>Fb 8 1 fun _=>Fb 16 2 fun _=>KS ?_
 refine Oa (Ab [vi t.Gen.Width,vl ta1 tk1 t.Gen.Words,vi t.Kill.Width,vl ta3 tk3 t.Kill.Words,vl ta4 tk4 t.Copies]) fun p4=>Oq Va (KS ?_)
 refine Oq (Vfa QdB 0) (Oq (Qmr Qax 0 [vi t.Gen.Width,vl ta1 tk1 t.Gen.Words]) ?_)
 refine QaJ (Qa0 t.Gen) fun rv5 hg6=>?_
 have hc7:=QrD t.Gen ta1 tk1 pre rv5 hg6
 refine Oc [1] QrI hc7 ?_
 rintro - -
 refine Oq Qcy (Oq Vm ?_)
 refine Js 9 ?_ ?_
 ·intro h8
  have h10:=not_true h8
  refine Osk (Osk (Osk (Osk (Oq Vpt (Oq Vm (Osk (Osk (Osk (Osk ?_)))))))))
  refine Osk (Osk (Osk (Oq Vpt (Oq Vm (Osk (Osk (Osk (Osk (Oq Vpt ?_)))))))))
  refine KS ?_
  refine Kt (KS ?_)
  refine Oq Va (KS ?_)
  have hq:=q4 hrr false (by simp only [Qcu,h8,h10,hg6,cs4]); subst hq
  exact Kr () rfl (.tmp rfl .nil) [] trivial
 intro h8
 have h13:=not_false h8
 refine Oq (Vfa Qgj 0) (Oq (Qmr Qax 0 [vi t.Kill.Width,vl ta3 tk3 t.Kill.Words]) ?_)
 refine QaJ (Qa0 t.Kill) fun rv15 hg16=>?_
 have hc17:=QrD t.Kill ta3 tk3 pre rv15 hg16
 refine Oc [2] QrI hc17 ?_
 rintro - -
 refine Oq Qcy (Oq Vpf (Oq Vm ?_))
 refine Js 15 ?_ ?_
 ·intro h18
  have h20:=not_true h18
  refine Osk (Osk (Osk (Osk (Osk (Osk (Osk (Oq Vpt (Oq Vm (Osk ?_)))))))))
  refine Osk (Osk (Osk (Oq Vpt (KS ?_))))
  refine Kt (KS ?_)
  refine Oq Va (KS ?_)
  have hq:=q4 hrr false (by simp only [Qcu,h8,h13,h18,h20,hg6,hg16,cs4]); subst hq
  exact Kr () rfl (.tmp rfl .nil) [] trivial
 intro h18
 have h23:=not_false h18
 refine Oq (Vfa QdB 0) (Oq (Qol Qbi 0) (Oq (Qah sh3 0) (Oq (Vfa Qgj 0) (Oq (Qol Qbi 0) (Oq (Qah sh3 0) (Oq QfZ (Oq Vpf (Oq Vm ?_))))))))
 refine Js 24 ?_ ?_
 ·intro h25
  have g26:=QaB h25
  refine Osk (Osk (Osk (Osk (Oq Vpt (KS ?_)))))
  refine Kt (KS ?_)
  refine Oq Va (KS ?_)
  have hq:=q4 hrr false (by simp only [Qcu,h8,h13,h18,h23,h25,hg6,hg16,cs4]); subst hq
  exact Kr () rfl (.tmp rfl .nil) [] trivial
 intro h25
 have g27:=Qae h25
 refine Oq (Vfa Qeo 0) (Oq (Qah Qmn 0) (Oq (Qba QkQ) (Oq Qgr (Oq Vpf (KS ?_)))))
 refine Kc ?_ ?_
 ·intro h28
  have g29:=dt h28
  refine KS ?_
  refine Oq Va (KS ?_)
  have hq:=q4 hrr false (by simp only [Qcu,h8,h13,h18,h23,h25,h28,hg6,hg16,cs4]); subst hq
  exact Kr () rfl (.tmp rfl .nil) [] trivial
 intro h28
 have g30:=df h28
 refine KS ?_
 refine Oq (Vfa Qeo 0) (Oq (Qah Qmn 0) (Oq (Qba QkQ) (Oq Vm (KS ?_))))
 refine Kl (γ:=Nat × Int) (fun (r31,Qcn)=>⟨[(1,p4),(31,vl ta4 tk4 t.Copies),(32,vi (t.Copies.length:Int)),(33,vi Qcn)],[pv p4 [vi t.Gen.Width,vl ta1 tk1 t.Gen.Words,vi t.Kill.Width,vl ta3 tk3 t.Kill.Words,vl ta4 tk4 t.Copies],S ta1 tk1 t.Gen.Words,S ta3 tk3 t.Kill.Words,S ta4 tk4 t.Copies],QbV t r31 Qcn = QbV t (((t.Copies.length:Int) - 0).toNat) 0 /\ r31 = ((t.Copies.length:Int) - Qcn).toNat /\ (0:Int) <= Qcn /\ Qcn <= (t.Copies.length:Int) /\ (-9223372036854775808 <= Qcn /\ Qcn <= 9223372036854775807),r31⟩) (((t.Copies.length:Int) - 0).toNat,0) [0,1,2,3] ⟨rfl,rfl,aM1,aM1,aM1⟩ ?_
 rintro ⟨r31,Qcn⟩ ⟨hM33,hr34,hi35,hi36,hk37⟩
 refine QaA fun _ _ hL hA=>?_; dsimp only at hL hA; subst hL hA
 refine Fb 8 1 fun _=>Fb 8 2 fun _=>Fb 16 3 fun _=>KS ?_
 refine Oq Qbh (KS ?_)
 refine Kc ?_ ?_
 ·intro h41
  have g42:=dt h41
  obtain ⟨r43,rfl⟩:=scc (n:=r31) aM1
  refine KS ?_
  refine Oq Vm (Oq (Vi QkQ 3) ?_)
  refine QcI Qcn.toNat 3 rfl rng fun hb44 hb45=>?_
  unfold Qaa at hb44 hb45
  refine Oq (Qau Qj9 0) (Oa (Al QtO [vi 0,vi 0]) fun p46=>Oq Va (Ost (Scl [0] Qj9 [vi ((t.Copies.getD Qcn.toNat default).From),vi ((t.Copies.getD Qcn.toNat default).To)]) (KS ?_)))
  refine Jp 0 fun hp47=>?_
  refine QaJ (Qg2 t ((t.Copies.getD Qcn.toNat default).From)) fun rv48 hg49=>?_
  refine QaE (!rv48) ?_ ?_
  ·intro h50
   have h52:=not_true h50
   refine Qam [0,0,2,7,15,31,63,63,191,511,1023,2047,4095,8191,16383,32767,65535,131071,65535,327679,1048575,2097151,65535,8388607,16777215,33554431,67108863] Qco ?_
   refine Dv [3] (Qau Qek 0) (Dv [0] (Vfa Qci 0) (Dv [1] (Qah sh3 0) (Dx [4,5,6] [] [1,2,3,0] (fun G=>vb rv48) [fun G=>SP.fact (True)] (fun G=>xC [0,1,2] Qsz (Qr4 t ta1 tk1 ta3 tk3 ta4 tk4 ((t.Copies.getD Qcn.toNat default).From) pre pre pre rv48 hg49)) (Db h50 [] Qcy (Dv [] Vm (Ds (Ds (Ds (Ds ?_)))))))))
   refine Ds (Dv [] Vpt (Dv [] Vm (Ds (Ds (Ds (Ds (Ds (Ds (Ds ?_)))))))))
   refine Ds (Ds (Ds (Ds (Ds (Ds (Dv [] Vpt ?_))))))
   refine Dn ⟨by kernel_rfl,fun G=>?_⟩
   refine Jw2 [(1,p4),(31,vl ta4 tk4 t.Copies),(32,vi (t.Copies.length:Int)),(33,vi Qcn),(64,vb true)] [0,1,2,3,4,5,6] [SP.fact (True)] ?_
   refine Jk [1,1,2,3,4,5] (Kt ?_)
   refine KS ?_
   refine Oq Va (KS ?_)
   have hR54:=q2 hM33 (.ret false) (by simp only [QbV,h41,h50,h52,hg49,cs4])
   have hq:=q4 hrr false (by simp only [Qcu,h8,h13,h18,h23,h25,h28,h41,h50,h52,hg6,hg16,hg49,hR54,cs4]); subst hq
   exact Kr () rfl (.tmp rfl .nil) [] trivial
  intro h50
  have h56:=not_false h50
  refine QaJ (Qg2 t ((t.Copies.getD Qcn.toNat default).To)) fun rv58 hg59=>?_
  refine QaE (!rv58) ?_ ?_
  ·intro h60
   have h62:=not_true h60
   refine Qam [0,0,2,7,15,31,63,63,191,511,1023,2047,4095,8191,16383,32767,65535,131071,65535,327679,1048575,2097151,65535,8388607,16777215,33554431,67108863] Qco ?_
   refine Dv [3] (Qau Qek 0) (Dv [0] (Vfa Qci 0) (Dv [1] (Qah sh3 0) (Dx [4,5,6] [] [1,2,3,0] (fun G=>vb rv48) [fun G=>SP.fact (True)] (fun G=>xC [0,1,2] Qsz (Qr4 t ta1 tk1 ta3 tk3 ta4 tk4 ((t.Copies.getD Qcn.toNat default).From) pre pre pre rv48 hg49)) (Db h50 [] Qcy (Dv [] Vm (Dv [3] (Qau Qek 0) (Dv [0] (Vfa QdH 0) (Dv [1] (Qah sh3 0) (Dx [4,5,6] [] [1,2,3,0] (fun G=>vb rv58) [fun G=>SP.fact (True)] (fun G=>xC [0,1,2] Qsz (Qr4 t ta1 tk1 ta3 tk3 ta4 tk4 ((t.Copies.getD Qcn.toNat default).To) pre pre pre rv58 hg59)) ?_)))))))))
   refine Db h60 [] Qcy (Dv [] Vpf (Dv [] Vm (Ds (Ds (Ds (Ds (Ds (Ds (Ds ?_)))))))))
   refine Ds (Ds (Ds (Ds (Ds (Ds (Dv [] Vpt ?_))))))
   refine Dn ⟨by kernel_rfl,fun G=>?_⟩
   refine Jw2 [(1,p4),(31,vl ta4 tk4 t.Copies),(32,vi (t.Copies.length:Int)),(33,vi Qcn),(64,vb true)] [0,1,2,3,4,5,6] [SP.fact (True),SP.fact (True)] ?_
   refine Jk [1,1,2,3,4,5] (Kt ?_)
   refine KS ?_
   refine Oq Va (KS ?_)
   have hR64:=q2 hM33 (.ret false) (by simp only [QbV,h41,h50,h56,h60,h62,hg49,hg59,cs4])
   have hq:=q4 hrr false (by simp only [Qcu,h8,h13,h18,h23,h25,h28,h41,h50,h56,h60,h62,hg6,hg16,hg49,hg59,hR64,cs4]); subst hq
   exact Kr () rfl (.tmp rfl .nil) [] trivial
  intro h60
  have h66:=not_false h60
  refine QaE (decide (0 < Qcn)) ?_ ?_
  ·intro h68
   have g69:=dt h68
   refine QcI ((Qcn - 1):Int).toNat 6 rfl rng fun hb70 hb71=>?_
   unfold Qaa at hb70 hb71
   refine Qam [0,0,2,7,15,31,63,63,191,511,1023,2047,4095,8191,16383,32767,65535,131071,65535,327679,1048575,2097151,65535,8388607,16777215,33554431,67108863] Qco ?_
   refine Dv [4] (Qau Qek 0) (Dv [1] (Vfa Qci 0) (Dv [2] (Qah sh3 0) (Dx [5,6,7] [] [1,2,3,0] (fun G=>vb rv48) [fun G=>SP.fact (True)] (fun G=>xC [0,1,2] Qsz (Qr4 t ta1 tk1 ta3 tk3 ta4 tk4 ((t.Copies.getD Qcn.toNat default).From) pre pre pre rv48 hg49)) (Db h50 [] Qcy (Dv [] Vm (Dv [4] (Qau Qek 0) (Dv [1] (Vfa QdH 0) (Dv [2] (Qah sh3 0) (Dx [5,6,7] [] [1,2,3,0] (fun G=>vb rv58) [fun G=>SP.fact (True)] (fun G=>xC [0,1,2] Qsz (Qr4 t ta1 tk1 ta3 tk3 ta4 tk4 ((t.Copies.getD Qcn.toNat default).To) pre pre pre rv58 hg59)) ?_)))))))))
   refine Db h60 [] Qcy (Dv [] Vpf (Dv [] Vm (Dv [] Vm (Db h68 [] Qgr (Dv [] Vm (Dv [4] (Vfa Qeo 0) (Dv [4] (Qah Qmn 0) (Dv [] Vm (Dv [] QjU ?_)))))))))
   refine Dv [7] (Vi QkQ 0) (Dv [0] (Qau Qj9 0) (Dv [2] (Qau Qj9 0) ?_))
   refine QaJ (QfK (t.Copies.getD ((Qcn - 1):Int).toNat default) (t.Copies.getD Qcn.toNat default)) fun rv72 hg73=>?_
   refine Dx [] [] [0] (fun G=>vi rv72) [fun G=>SP.fact (Qaa rv72)] (fun G=>xC [] Qxb (Qyp ((t.Copies.getD ((Qcn - 1):Int).toNat default)) ((t.Copies.getD Qcn.toNat default)) pre pre pre pre rv72 hg73)) (Dv [] Qg8 (Dv [] Vpt (Dv [] Vpf ?_)))
   refine Dn ⟨by kernel_rfl,fun G=>?_⟩
   refine Jw2 [(1,p4),(31,vl ta4 tk4 t.Copies),(32,vi (t.Copies.length:Int)),(33,vi Qcn),(64,vb (decide (0 <= rv72)))] [0,1,2,3,4,5,6,7] [SP.fact (True),SP.fact (True),SP.fact (Qaa rv72)] ?_
   refine Jf 10 rfl ?_; rintro he74
   unfold Qaa at he74
   refine Jk [0,2,2,3,4,5,6] ?_
   refine Kc ?_ ?_
   ·intro h75
    have g76:=dt h75
    refine KS ?_
    refine Oq Va (KS ?_)
    have hR77:=q2 hM33 (.ret false) (by simp only [QbV,h41,h50,h56,h60,h66,h68,h75,hg49,hg59,hg73,cs4])
    have hq:=q4 hrr false (by simp only [Qcu,h8,h13,h18,h23,h25,h28,h41,h50,h56,h60,h66,h68,h75,hg6,hg16,hg49,hg59,hg73,hR77,cs4]); subst hq
    exact Kr () rfl (.tmp rfl .nil) [] trivial
   intro h75
   have g78:=df h75
   refine KS ?_
   refine Oq QaS (Oq Vm (KS ?_))
   exact Kg (r43,(Qcn + 1)) [3,4,5,6] ⟨(q3 hM33 (by simp only [QbV,h41,h50,h56,h60,h66,h68,h75,hg49,hg59,hg73,cs4])),aM1,aM1,aM1,aM1⟩
  intro h68
  have g79:=df h68
  refine Qam [0,0,2,7,15,31,63,63,191,511,1023,2047,4095,8191,16383,32767,65535,131071,65535,327679,1048575,2097151,65535,8388607,16777215,33554431,67108863] Qco ?_
  refine Dv [3] (Qau Qek 0) (Dv [0] (Vfa Qci 0) (Dv [1] (Qah sh3 0) (Dx [4,5,6] [] [1,2,3,0] (fun G=>vb rv48) [fun G=>SP.fact (True)] (fun G=>xC [0,1,2] Qsz (Qr4 t ta1 tk1 ta3 tk3 ta4 tk4 ((t.Copies.getD Qcn.toNat default).From) pre pre pre rv48 hg49)) (Db h50 [] Qcy (Dv [] Vm (Dv [3] (Qau Qek 0) (Dv [0] (Vfa QdH 0) (Dv [1] (Qah sh3 0) (Dx [4,5,6] [] [1,2,3,0] (fun G=>vb rv58) [fun G=>SP.fact (True)] (fun G=>xC [0,1,2] Qsz (Qr4 t ta1 tk1 ta3 tk3 ta4 tk4 ((t.Copies.getD Qcn.toNat default).To) pre pre pre rv58 hg59)) ?_)))))))))
  refine Db h60 [] Qcy (Dv [] Vpf (Dv [] Vm (Dv [] Vm (Db h68 [] Qgr (Dv [] Vm (Ds (Ds (Ds (Ds ?_)))))))))
  refine Ds (Ds (Ds (Ds (Ds (Dv [] Vpf (Dv [] Vpf ?_))))))
  refine Dn ⟨by kernel_rfl,fun G=>?_⟩
  refine Jw2 [(1,p4),(31,vl ta4 tk4 t.Copies),(32,vi (t.Copies.length:Int)),(33,vi Qcn),(64,vb false)] [0,1,2,3,4,5,6] [SP.fact (True),SP.fact (True)] ?_
  refine Jk [1,1,2,3,4,5] (Kf ?_)
  refine KS ?_
  refine Oq QaS (Oq Vm (KS ?_))
  exact Kg (r43,(Qcn + 1)) [2,3,4,5] ⟨(q3 hM33 (by simp only [QbV,h41,h50,h56,h60,h66,h68,hg49,hg59,cs4])),aM1,aM1,aM1,aM1⟩
 intro h41
 have g80:=df h41
 obtain rfl:r31 = 0:=by omega
 refine Ke ?_
 have hR81:=q2 hM33 (.brk ()) (by simp only [QbV,h41,cs4])
 refine KS ?_
 refine Oq Va (KS ?_)
 have hq:=q4 hrr true (by simp only [Qcu,h8,h13,h18,h23,h25,h28,h41,hg6,hg16,hR81,cs4]); subst hq
 exact Kr () rfl (.tmp rfl .nil) [] trivial
end Go.SL.G
