/- Part 2 of the walks: mirrors, plain laws and walks used by the last text of this claim. -/
import Derived.Test.YtbccjgpbflaibaaGreatW1
import Derived.Test.YtbccjgpbflaibaaGreatProg
set_option linter.unusedVariables false
set_option linter.unusedSimpArgs false
namespace Go.SL.G
open Go Go.SL Go.Proofs
structure Qaf where
 Width:Int
 Words:List (BitVec 64)
instance:Inhabited Qaf:=⟨⟨0,[]⟩⟩
structure QbA where
 From:Int
 To:Int
instance:Inhabited QbA:=⟨⟨0,0⟩⟩
structure Qad where
 Gen:Qaf
 Kill:Qaf
 Copies:List QbA
instance:Inhabited Qad:=⟨⟨⟨0,[]⟩,⟨0,[]⟩,[]⟩⟩
structure Qac where
 Width:Int
 Deps:List (List Int)
 Transfers:List Qad
 Boundary:List Qaf
instance:Inhabited Qac:=⟨⟨0,[],[],[]⟩⟩
structure Qas where
 Node:Int
 Bit:Int
instance:Inhabited Qas:=⟨⟨0,0⟩⟩
structure Qbb where
 Kind:Int
 Text:Str
 Line:Int
 Col:Int
instance:Inhabited Qbb:=⟨⟨0,⟨[]⟩,0,0⟩⟩
structure Qag where
 l:List Qbb
 at_:Int
 Err:Int
instance:Inhabited Qag:=⟨⟨[],0,0⟩⟩
structure Qc7 where
 Op:Int
 Def:Str
 Uses:List Str
 Targets:List Str
instance:Inhabited Qc7:=⟨⟨0,⟨[]⟩,[],[]⟩⟩
structure Qeq where
 Name:Str
 Stmts:List Qc7
instance:Inhabited Qeq:=⟨⟨⟨[]⟩,[]⟩⟩
structure QfU where
 Name:Str
 Blocks:List Qeq
instance:Inhabited QfU:=⟨⟨⟨[]⟩,[]⟩⟩
structure Qaz where
 Funcs:List QfU
instance:Inhabited Qaz:=⟨⟨[]⟩⟩
structure Qbg where
 Kind:Int
 Func:Int
 Block:Int
 Stmt:Int
instance:Inhabited Qbg:=⟨⟨0,0,0,0⟩⟩
structure Qft where
 Node:Int
 Var:Int
instance:Inhabited Qft:=⟨⟨0,0⟩⟩
structure Qk9 where
 Nodes:List Qbg
 Succ:List (List Int)
 Pred:List (List Int)
instance:Inhabited Qk9:=⟨⟨[],[],[]⟩⟩
structure Qjf where
 Zero:Qaf
 One:List Qaf
instance:Inhabited Qjf:=⟨⟨⟨0,[]⟩,[]⟩⟩
instance:DecidableEq Qas:=fun a b=>decidable_of_iff (a.Node = b.Node /\ a.Bit = b.Bit) (by cases a; cases b; simp)
abbrev Qed (x:Qas):Prop:=Qaa x.Node /\ Qaa x.Bit
abbrev QeY (x:Qas):Value:=.agg #[vi x.Node,vi x.Bit]
instance QwO:Rep Qaf where
 sz:=2
 bytes:=32
 pos:=by decide
 bpos:=by decide
 rd w M cs x:=∃ c1,cs = [.int .i64 x.Width,c1] /\ Qaa x.Width /\ QhA w M c1 x.Words
 len:=by rintro w M cs x ⟨c1,rfl,h0,h1⟩; rfl
 one:=by
  rintro w M cs x ⟨c1,rfl,h0,h1⟩ v hv
  simp only [List.mem_cons,List.not_mem_nil,or_false] at hv
  rcases hv with rfl | rfl
  all_goals first | rfl | exact Qce h1
 st:=by
  rintro w M cs x w' M' ⟨c1,rfl,h0,h1⟩ e
  exact ⟨c1,rfl,h0,QbO h1 e⟩
theorem Qa3 {C:Cx} {X:Act -> World -> Prop} {L:Env} {A:List SP} {c:Value} {xs:List Qaf} (i m:Nat) (hA:A[m]? = some (sl c xs)) (hi:i < xs.length)
  (h:∀ (a1:Option Addr) (k1:Nat),Qaa (xs.getD i default).Width -> JJ C X L (pv (QfB 2 c i) [.int .i64 (xs.getD i default).Width,.slice a1 (xs.getD i default).Words.length k1] :: sl (.slice a1 (xs.getD i default).Words.length k1) (xs.getD i default).Words :: A)):JJ C X L A:=by
 refine QfM i m hA hi default fun cs=>?_
 intro a w M F st
 obtain ⟨F1,F2,q1,q2,qd,hp,F3,F4,q3,q4,qd2,hr,hs⟩:=st.sp
 obtain ⟨c1,rfl,h0,h1⟩:=hr
 have g1:=h1
 obtain ⟨_,a1,k1,rfl,_⟩:=h1
 exact h a1 k1 h0 a w M F ⟨st.step,st.sz,st.df,st.sat,F1,F2,q1,q2,qd,hp,⟨fun _=>False,_,fun _ h=>h.elim,fun _ h=>h,fun _ h _=>h,g1,QbQ hs q4⟩⟩
theorem Qjv {C:Cx} {X:Act -> World -> Prop} {L:Env} {A Ar:List SP} {c:Value} {xs:List Qaf} (i m:Nat) (ht:take A [m] = some ([os c xs],Ar)) (hi:i < xs.length)
  (h:∀ (a1:Option Addr) (k1:Nat),Qaa (xs.getD i default).Width -> JJ C X L (oread c xs i [.int .i64 (xs.getD i default).Width,.slice a1 (xs.getD i default).Words.length k1] :: sl (.slice a1 (xs.getD i default).Words.length k1) (xs.getD i default).Words :: Ar)):JJ C X L A:=by
 refine Qnq (Ac:=A) i m ht hi default fun cs=>?_
 intro a w M F st
 obtain ⟨F1,F2,q1,q2,qd,hr,F3,F4,q3,q4,qd2,hp,hs⟩:=st.sp
 obtain ⟨c1,rfl,h0,h1⟩:=hr
 have g1:=h1
 obtain ⟨_,a1,k1,rfl,_⟩:=h1
 exact h a1 k1 h0 a w M F ⟨st.step,st.sz,st.df,st.sat,F3,F4,fun b h=>q2 b (q3 b h),fun b h=>q2 b (q4 b h),qd2,hp,⟨fun _=>False,F4,fun _ h=>h.elim,fun _ h=>h,fun _ h _=>h,g1,hs⟩⟩
instance Qu9:Rep QbA where
 sz:=2
 bytes:=16
 pos:=by decide
 bpos:=by decide
 rd w M cs x:=cs = [.int .i64 x.From,.int .i64 x.To] /\ Qaa x.From /\ Qaa x.To
 len:=by rintro w M cs x ⟨rfl,h0,h1⟩; rfl
 one:=by
  rintro w M cs x ⟨rfl,h0,h1⟩ v hv
  simp only [List.mem_cons,List.not_mem_nil,or_false] at hv
  rcases hv with rfl | rfl
  all_goals first | rfl
 st:=by
  rintro w M cs x w' M' ⟨rfl,h0,h1⟩ e
  exact ⟨rfl,h0,h1⟩
theorem QcI {C:Cx} {X:Act -> World -> Prop} {L:Env} {A:List SP} {c:Value} {xs:List QbA} (i m:Nat) (hA:A[m]? = some (sl c xs)) (hi:i < xs.length)
  (h:Qaa (xs.getD i default).From -> Qaa (xs.getD i default).To -> JJ C X L (pv (QfB 2 c i) [.int .i64 (xs.getD i default).From,.int .i64 (xs.getD i default).To] :: A)):JJ C X L A:=by
 refine QfM i m hA hi default fun cs=>?_
 intro a w M F st
 obtain ⟨F1,F2,q1,q2,qd,hp,F3,F4,q3,q4,qd2,hr,hs⟩:=st.sp
 obtain ⟨rfl,h0,h1⟩:=hr
 exact h h0 h1 a w M F ⟨st.step,st.sz,st.df,st.sat,F1,F2,q1,q2,qd,hp,QbQ hs q4⟩
instance Qsd:Rep Qad where
 sz:=5
 bytes:=88
 pos:=by decide
 bpos:=by decide
 rd w M cs x:=∃ c1 c3 c4,cs = [.int .i64 x.Gen.Width,c1,.int .i64 x.Kill.Width,c3,c4] /\ Qaa x.Gen.Width /\ QhA w M c1 x.Gen.Words /\ Qaa x.Kill.Width /\ QhA w M c3 x.Kill.Words /\ QhA w M c4 x.Copies
 len:=by rintro w M cs x ⟨c1,c3,c4,rfl,h0,h1,h2,h3,h4⟩; rfl
 one:=by
  rintro w M cs x ⟨c1,c3,c4,rfl,h0,h1,h2,h3,h4⟩ v hv
  simp only [List.mem_cons,List.not_mem_nil,or_false] at hv
  rcases hv with rfl | rfl | rfl | rfl | rfl
  all_goals first | rfl | exact Qce h1 | exact Qce h3 | exact Qce h4
 st:=by
  rintro w M cs x w' M' ⟨c1,c3,c4,rfl,h0,h1,h2,h3,h4⟩ e
  exact ⟨c1,c3,c4,rfl,h0,QbO h1 e,h2,QbO h3 e,QbO h4 e⟩
theorem QaU {C:Cx} {X:Act -> World -> Prop} {L:Env} {A:List SP} {c:Value} {xs:List Qad} (i m:Nat) (hA:A[m]? = some (sl c xs)) (hi:i < xs.length)
  (h:∀ (a1:Option Addr) (k1:Nat) (a3:Option Addr) (k3:Nat) (a4:Option Addr) (k4:Nat),Qaa ((xs.getD i default).Gen).Width -> Qaa ((xs.getD i default).Kill).Width -> JJ C X L (pv (QfB 5 c i) [.int .i64 ((xs.getD i default).Gen).Width,.slice a1 ((xs.getD i default).Gen).Words.length k1,.int .i64 ((xs.getD i default).Kill).Width,.slice a3 ((xs.getD i default).Kill).Words.length k3,.slice a4 (xs.getD i default).Copies.length k4] :: sl (.slice a1 ((xs.getD i default).Gen).Words.length k1) ((xs.getD i default).Gen).Words :: sl (.slice a3 ((xs.getD i default).Kill).Words.length k3) ((xs.getD i default).Kill).Words :: sl (.slice a4 (xs.getD i default).Copies.length k4) (xs.getD i default).Copies :: A)):JJ C X L A:=by
 refine QfM i m hA hi default fun cs=>?_
 intro a w M F st
 obtain ⟨F1,F2,q1,q2,qd,hp,F3,F4,q3,q4,qd2,hr,hs⟩:=st.sp
 obtain ⟨c1,c3,c4,rfl,h0,h1,h2,h3,h4⟩:=hr
 have g1:=h1
 obtain ⟨_,a1,k1,rfl,_⟩:=h1
 have g3:=h3
 obtain ⟨_,a3,k3,rfl,_⟩:=h3
 have g4:=h4
 obtain ⟨_,a4,k4,rfl,_⟩:=h4
 exact h a1 k1 a3 k3 a4 k4 h0 h2 a w M F ⟨st.step,st.sz,st.df,st.sat,F1,F2,q1,q2,qd,hp,⟨fun _=>False,_,fun _ h=>h.elim,fun _ h=>h,fun _ h _=>h,g1,⟨fun _=>False,_,fun _ h=>h.elim,fun _ h=>h,fun _ h _=>h,g3,⟨fun _=>False,_,fun _ h=>h.elim,fun _ h=>h,fun _ h _=>h,g4,QbQ hs q4⟩⟩⟩⟩
instance QtY:Rep Qac where
 sz:=4
 bytes:=80
 pos:=by decide
 bpos:=by decide
 rd w M cs x:=∃ c1 c2 c3,cs = [.int .i64 x.Width,c1,c2,c3] /\ Qaa x.Width /\ QhA w M c1 x.Deps /\ QhA w M c2 x.Transfers /\ QhA w M c3 x.Boundary
 len:=by rintro w M cs x ⟨c1,c2,c3,rfl,h0,h1,h2,h3⟩; rfl
 one:=by
  rintro w M cs x ⟨c1,c2,c3,rfl,h0,h1,h2,h3⟩ v hv
  simp only [List.mem_cons,List.not_mem_nil,or_false] at hv
  rcases hv with rfl | rfl | rfl | rfl
  all_goals first | rfl | exact Qce h1 | exact Qce h2 | exact Qce h3
 st:=by
  rintro w M cs x w' M' ⟨c1,c2,c3,rfl,h0,h1,h2,h3⟩ e
  exact ⟨c1,c2,c3,rfl,h0,QbO h1 e,QbO h2 e,QbO h3 e⟩
instance QwH:Rep Qas where
 sz:=2
 bytes:=16
 pos:=by decide
 bpos:=by decide
 rd w M cs x:=cs = [.int .i64 x.Node,.int .i64 x.Bit] /\ Qaa x.Node /\ Qaa x.Bit
 len:=by rintro w M cs x ⟨rfl,h0,h1⟩; rfl
 one:=by
  rintro w M cs x ⟨rfl,h0,h1⟩ v hv
  simp only [List.mem_cons,List.not_mem_nil,or_false] at hv
  rcases hv with rfl | rfl
  all_goals first | rfl
 st:=by
  rintro w M cs x w' M' ⟨rfl,h0,h1⟩ e
  exact ⟨rfl,h0,h1⟩
theorem Qbq {C:Cx} {X:Act -> World -> Prop} {L:Env} {A:List SP} {c:Value} {xs:List Qas} (i m:Nat) (hA:A[m]? = some (sl c xs)) (hi:i < xs.length)
  (h:Qaa (xs.getD i default).Node -> Qaa (xs.getD i default).Bit -> JJ C X L (pv (QfB 2 c i) [.int .i64 (xs.getD i default).Node,.int .i64 (xs.getD i default).Bit] :: A)):JJ C X L A:=by
 refine QfM i m hA hi default fun cs=>?_
 intro a w M F st
 obtain ⟨F1,F2,q1,q2,qd,hp,F3,F4,q3,q4,qd2,hr,hs⟩:=st.sp
 obtain ⟨rfl,h0,h1⟩:=hr
 exact h h0 h1 a w M F ⟨st.step,st.sz,st.df,st.sat,F1,F2,q1,q2,qd,hp,QbQ hs q4⟩
theorem Qhx {C:Cx} {X:Act -> World -> Prop} {L:Env} {A Ar:List SP} {c:Value} {xs:List Qas} (i m:Nat) (ht:take A [m] = some ([os c xs],Ar)) (hi:i < xs.length)
  (h:Qaa (xs.getD i default).Node -> Qaa (xs.getD i default).Bit -> JJ C X L (oread c xs i [.int .i64 (xs.getD i default).Node,.int .i64 (xs.getD i default).Bit] :: Ar)):JJ C X L A:=by
 refine Qnq (Ac:=A) i m ht hi default fun cs=>?_
 intro a w M F st
 obtain ⟨F1,F2,q1,q2,qd,hr,F3,F4,q3,q4,qd2,hp,hs⟩:=st.sp
 obtain ⟨rfl,h0,h1⟩:=hr
 exact h h0 h1 a w M F ⟨st.step,st.sz,st.df,st.sat,F3,F4,fun b h=>q2 b (q3 b h),fun b h=>q2 b (q4 b h),qd2,hp,hs⟩
instance QuH:Rep Qbb where
 sz:=4
 bytes:=40
 pos:=by decide
 bpos:=by decide
 rd w M cs x:=cs = [.int .i64 x.Kind,.string (bs x.Text),.int .i64 x.Line,.int .i64 x.Col] /\ Qaa x.Kind /\ x.Text.b.length <= 140737488355328 /\ Qaa x.Line /\ Qaa x.Col
 len:=by rintro w M cs x ⟨rfl,h0,h1,h2,h3⟩; rfl
 one:=by
  rintro w M cs x ⟨rfl,h0,h1,h2,h3⟩ v hv
  simp only [List.mem_cons,List.not_mem_nil,or_false] at hv
  rcases hv with rfl | rfl | rfl | rfl
  all_goals first | rfl
 st:=by
  rintro w M cs x w' M' ⟨rfl,h0,h1,h2,h3⟩ e
  exact ⟨rfl,h0,h1,h2,h3⟩
theorem Qd4 {C:Cx} {X:Act -> World -> Prop} {L:Env} {A:List SP} {c:Value} {xs:List Qbb} (i m:Nat) (hA:A[m]? = some (sl c xs)) (hi:i < xs.length)
  (h:Qaa (xs.getD i default).Kind -> ((xs.getD i default).Text).b.length <= 140737488355328 -> Qaa (xs.getD i default).Line -> Qaa (xs.getD i default).Col -> JJ C X L (pv (QfB 4 c i) [.int .i64 (xs.getD i default).Kind,.string (bs (xs.getD i default).Text),.int .i64 (xs.getD i default).Line,.int .i64 (xs.getD i default).Col] :: A)):JJ C X L A:=by
 refine QfM i m hA hi default fun cs=>?_
 intro a w M F st
 obtain ⟨F1,F2,q1,q2,qd,hp,F3,F4,q3,q4,qd2,hr,hs⟩:=st.sp
 obtain ⟨rfl,h0,h1,h2,h3⟩:=hr
 exact h h0 h1 h2 h3 a w M F ⟨st.step,st.sz,st.df,st.sat,F1,F2,q1,q2,qd,hp,QbQ hs q4⟩
instance Qua:Rep Qag where
 sz:=3
 bytes:=40
 pos:=by decide
 bpos:=by decide
 rd w M cs x:=∃ c0,cs = [c0,.int .i64 x.at_,.int .i64 x.Err] /\ QhA w M c0 x.l /\ Qaa x.at_ /\ Qaa x.Err
 len:=by rintro w M cs x ⟨c0,rfl,h0,h1,h2⟩; rfl
 one:=by
  rintro w M cs x ⟨c0,rfl,h0,h1,h2⟩ v hv
  simp only [List.mem_cons,List.not_mem_nil,or_false] at hv
  rcases hv with rfl | rfl | rfl
  all_goals first | rfl | exact Qce h0
 st:=by
  rintro w M cs x w' M' ⟨c0,rfl,h0,h1,h2⟩ e
  exact ⟨c0,rfl,QbO h0 e,h1,h2⟩
instance Qvw:Rep Qc7 where
 sz:=4
 bytes:=72
 pos:=by decide
 bpos:=by decide
 rd w M cs x:=∃ c2 c3,cs = [.int .i64 x.Op,.string (bs x.Def),c2,c3] /\ Qaa x.Op /\ x.Def.b.length <= 140737488355328 /\ QhA w M c2 x.Uses /\ QhA w M c3 x.Targets
 len:=by rintro w M cs x ⟨c2,c3,rfl,h0,h1,h2,h3⟩; rfl
 one:=by
  rintro w M cs x ⟨c2,c3,rfl,h0,h1,h2,h3⟩ v hv
  simp only [List.mem_cons,List.not_mem_nil,or_false] at hv
  rcases hv with rfl | rfl | rfl | rfl
  all_goals first | rfl | exact Qce h2 | exact Qce h3
 st:=by
  rintro w M cs x w' M' ⟨c2,c3,rfl,h0,h1,h2,h3⟩ e
  exact ⟨c2,c3,rfl,h0,h1,QbO h2 e,QbO h3 e⟩
theorem Qdi {C:Cx} {X:Act -> World -> Prop} {L:Env} {A:List SP} {c:Value} {xs:List Qc7} (i m:Nat) (hA:A[m]? = some (sl c xs)) (hi:i < xs.length)
  (h:∀ (a2:Option Addr) (k2:Nat) (a3:Option Addr) (k3:Nat),Qaa (xs.getD i default).Op -> ((xs.getD i default).Def).b.length <= 140737488355328 -> JJ C X L (pv (QfB 4 c i) [.int .i64 (xs.getD i default).Op,.string (bs (xs.getD i default).Def),.slice a2 (xs.getD i default).Uses.length k2,.slice a3 (xs.getD i default).Targets.length k3] :: sl (.slice a2 (xs.getD i default).Uses.length k2) (xs.getD i default).Uses :: sl (.slice a3 (xs.getD i default).Targets.length k3) (xs.getD i default).Targets :: A)):JJ C X L A:=by
 refine QfM i m hA hi default fun cs=>?_
 intro a w M F st
 obtain ⟨F1,F2,q1,q2,qd,hp,F3,F4,q3,q4,qd2,hr,hs⟩:=st.sp
 obtain ⟨c2,c3,rfl,h0,h1,h2,h3⟩:=hr
 have g2:=h2
 obtain ⟨_,a2,k2,rfl,_⟩:=h2
 have g3:=h3
 obtain ⟨_,a3,k3,rfl,_⟩:=h3
 exact h a2 k2 a3 k3 h0 h1 a w M F ⟨st.step,st.sz,st.df,st.sat,F1,F2,q1,q2,qd,hp,⟨fun _=>False,_,fun _ h=>h.elim,fun _ h=>h,fun _ h _=>h,g2,⟨fun _=>False,_,fun _ h=>h.elim,fun _ h=>h,fun _ h _=>h,g3,QbQ hs q4⟩⟩⟩
instance QuK:Rep Qeq where
 sz:=2
 bytes:=40
 pos:=by decide
 bpos:=by decide
 rd w M cs x:=∃ c1,cs = [.string (bs x.Name),c1] /\ x.Name.b.length <= 140737488355328 /\ QhA w M c1 x.Stmts
 len:=by rintro w M cs x ⟨c1,rfl,h0,h1⟩; rfl
 one:=by
  rintro w M cs x ⟨c1,rfl,h0,h1⟩ v hv
  simp only [List.mem_cons,List.not_mem_nil,or_false] at hv
  rcases hv with rfl | rfl
  all_goals first | rfl | exact Qce h1
 st:=by
  rintro w M cs x w' M' ⟨c1,rfl,h0,h1⟩ e
  exact ⟨c1,rfl,h0,QbO h1 e⟩
theorem Qcl {C:Cx} {X:Act -> World -> Prop} {L:Env} {A:List SP} {c:Value} {xs:List Qeq} (i m:Nat) (hA:A[m]? = some (sl c xs)) (hi:i < xs.length)
  (h:∀ (a1:Option Addr) (k1:Nat),((xs.getD i default).Name).b.length <= 140737488355328 -> JJ C X L (pv (QfB 2 c i) [.string (bs (xs.getD i default).Name),.slice a1 (xs.getD i default).Stmts.length k1] :: sl (.slice a1 (xs.getD i default).Stmts.length k1) (xs.getD i default).Stmts :: A)):JJ C X L A:=by
 refine QfM i m hA hi default fun cs=>?_
 intro a w M F st
 obtain ⟨F1,F2,q1,q2,qd,hp,F3,F4,q3,q4,qd2,hr,hs⟩:=st.sp
 obtain ⟨c1,rfl,h0,h1⟩:=hr
 have g1:=h1
 obtain ⟨_,a1,k1,rfl,_⟩:=h1
 exact h a1 k1 h0 a w M F ⟨st.step,st.sz,st.df,st.sat,F1,F2,q1,q2,qd,hp,⟨fun _=>False,_,fun _ h=>h.elim,fun _ h=>h,fun _ h _=>h,g1,QbQ hs q4⟩⟩
instance Qvp:Rep QfU where
 sz:=2
 bytes:=40
 pos:=by decide
 bpos:=by decide
 rd w M cs x:=∃ c1,cs = [.string (bs x.Name),c1] /\ x.Name.b.length <= 140737488355328 /\ QhA w M c1 x.Blocks
 len:=by rintro w M cs x ⟨c1,rfl,h0,h1⟩; rfl
 one:=by
  rintro w M cs x ⟨c1,rfl,h0,h1⟩ v hv
  simp only [List.mem_cons,List.not_mem_nil,or_false] at hv
  rcases hv with rfl | rfl
  all_goals first | rfl | exact Qce h1
 st:=by
  rintro w M cs x w' M' ⟨c1,rfl,h0,h1⟩ e
  exact ⟨c1,rfl,h0,QbO h1 e⟩
theorem QcR {C:Cx} {X:Act -> World -> Prop} {L:Env} {A:List SP} {c:Value} {xs:List QfU} (i m:Nat) (hA:A[m]? = some (sl c xs)) (hi:i < xs.length)
  (h:∀ (a1:Option Addr) (k1:Nat),((xs.getD i default).Name).b.length <= 140737488355328 -> JJ C X L (pv (QfB 2 c i) [.string (bs (xs.getD i default).Name),.slice a1 (xs.getD i default).Blocks.length k1] :: sl (.slice a1 (xs.getD i default).Blocks.length k1) (xs.getD i default).Blocks :: A)):JJ C X L A:=by
 refine QfM i m hA hi default fun cs=>?_
 intro a w M F st
 obtain ⟨F1,F2,q1,q2,qd,hp,F3,F4,q3,q4,qd2,hr,hs⟩:=st.sp
 obtain ⟨c1,rfl,h0,h1⟩:=hr
 have g1:=h1
 obtain ⟨_,a1,k1,rfl,_⟩:=h1
 exact h a1 k1 h0 a w M F ⟨st.step,st.sz,st.df,st.sat,F1,F2,q1,q2,qd,hp,⟨fun _=>False,_,fun _ h=>h.elim,fun _ h=>h,fun _ h _=>h,g1,QbQ hs q4⟩⟩
instance Qs8:Rep Qaz where
 sz:=1
 bytes:=24
 pos:=by decide
 bpos:=by decide
 rd w M cs x:=∃ c0,cs = [c0] /\ QhA w M c0 x.Funcs
 len:=by rintro w M cs x ⟨c0,rfl,h0⟩; rfl
 one:=by
  rintro w M cs x ⟨c0,rfl,h0⟩ v hv
  simp only [List.mem_cons,List.not_mem_nil,or_false] at hv
  rcases hv with rfl
  all_goals first | rfl | exact Qce h0
 st:=by
  rintro w M cs x w' M' ⟨c0,rfl,h0⟩ e
  exact ⟨c0,rfl,QbO h0 e⟩
instance QvO:Rep Qbg where
 sz:=4
 bytes:=32
 pos:=by decide
 bpos:=by decide
 rd w M cs x:=cs = [.int .i64 x.Kind,.int .i64 x.Func,.int .i64 x.Block,.int .i64 x.Stmt] /\ Qaa x.Kind /\ Qaa x.Func /\ Qaa x.Block /\ Qaa x.Stmt
 len:=by rintro w M cs x ⟨rfl,h0,h1,h2,h3⟩; rfl
 one:=by
  rintro w M cs x ⟨rfl,h0,h1,h2,h3⟩ v hv
  simp only [List.mem_cons,List.not_mem_nil,or_false] at hv
  rcases hv with rfl | rfl | rfl | rfl
  all_goals first | rfl
 st:=by
  rintro w M cs x w' M' ⟨rfl,h0,h1,h2,h3⟩ e
  exact ⟨rfl,h0,h1,h2,h3⟩
theorem QeF {C:Cx} {X:Act -> World -> Prop} {L:Env} {A:List SP} {c:Value} {xs:List Qbg} (i m:Nat) (hA:A[m]? = some (sl c xs)) (hi:i < xs.length)
  (h:Qaa (xs.getD i default).Kind -> Qaa (xs.getD i default).Func -> Qaa (xs.getD i default).Block -> Qaa (xs.getD i default).Stmt -> JJ C X L (pv (QfB 4 c i) [.int .i64 (xs.getD i default).Kind,.int .i64 (xs.getD i default).Func,.int .i64 (xs.getD i default).Block,.int .i64 (xs.getD i default).Stmt] :: A)):JJ C X L A:=by
 refine QfM i m hA hi default fun cs=>?_
 intro a w M F st
 obtain ⟨F1,F2,q1,q2,qd,hp,F3,F4,q3,q4,qd2,hr,hs⟩:=st.sp
 obtain ⟨rfl,h0,h1,h2,h3⟩:=hr
 exact h h0 h1 h2 h3 a w M F ⟨st.step,st.sz,st.df,st.sat,F1,F2,q1,q2,qd,hp,QbQ hs q4⟩
instance QuU:Rep Qft where
 sz:=2
 bytes:=16
 pos:=by decide
 bpos:=by decide
 rd w M cs x:=cs = [.int .i64 x.Node,.int .i64 x.Var] /\ Qaa x.Node /\ Qaa x.Var
 len:=by rintro w M cs x ⟨rfl,h0,h1⟩; rfl
 one:=by
  rintro w M cs x ⟨rfl,h0,h1⟩ v hv
  simp only [List.mem_cons,List.not_mem_nil,or_false] at hv
  rcases hv with rfl | rfl
  all_goals first | rfl
 st:=by
  rintro w M cs x w' M' ⟨rfl,h0,h1⟩ e
  exact ⟨rfl,h0,h1⟩
theorem Qjj {C:Cx} {X:Act -> World -> Prop} {L:Env} {A:List SP} {c:Value} {xs:List Qft} (i m:Nat) (hA:A[m]? = some (sl c xs)) (hi:i < xs.length)
  (h:Qaa (xs.getD i default).Node -> Qaa (xs.getD i default).Var -> JJ C X L (pv (QfB 2 c i) [.int .i64 (xs.getD i default).Node,.int .i64 (xs.getD i default).Var] :: A)):JJ C X L A:=by
 refine QfM i m hA hi default fun cs=>?_
 intro a w M F st
 obtain ⟨F1,F2,q1,q2,qd,hp,F3,F4,q3,q4,qd2,hr,hs⟩:=st.sp
 obtain ⟨rfl,h0,h1⟩:=hr
 exact h h0 h1 a w M F ⟨st.step,st.sz,st.df,st.sat,F1,F2,q1,q2,qd,hp,QbQ hs q4⟩
instance QuF:Rep Qk9 where
 sz:=3
 bytes:=72
 pos:=by decide
 bpos:=by decide
 rd w M cs x:=∃ c0 c1 c2,cs = [c0,c1,c2] /\ QhA w M c0 x.Nodes /\ QhA w M c1 x.Succ /\ QhA w M c2 x.Pred
 len:=by rintro w M cs x ⟨c0,c1,c2,rfl,h0,h1,h2⟩; rfl
 one:=by
  rintro w M cs x ⟨c0,c1,c2,rfl,h0,h1,h2⟩ v hv
  simp only [List.mem_cons,List.not_mem_nil,or_false] at hv
  rcases hv with rfl | rfl | rfl
  all_goals first | rfl | exact Qce h0 | exact Qce h1 | exact Qce h2
 st:=by
  rintro w M cs x w' M' ⟨c0,c1,c2,rfl,h0,h1,h2⟩ e
  exact ⟨c0,c1,c2,rfl,QbO h0 e,QbO h1 e,QbO h2 e⟩
instance QuE:Rep Qjf where
 sz:=3
 bytes:=56
 pos:=by decide
 bpos:=by decide
 rd w M cs x:=∃ c1 c2,cs = [.int .i64 x.Zero.Width,c1,c2] /\ Qaa x.Zero.Width /\ QhA w M c1 x.Zero.Words /\ QhA w M c2 x.One
 len:=by rintro w M cs x ⟨c1,c2,rfl,h0,h1,h2⟩; rfl
 one:=by
  rintro w M cs x ⟨c1,c2,rfl,h0,h1,h2⟩ v hv
  simp only [List.mem_cons,List.not_mem_nil,or_false] at hv
  rcases hv with rfl | rfl | rfl
  all_goals first | rfl | exact Qce h1 | exact Qce h2
 st:=by
  rintro w M cs x w' M' ⟨c1,c2,rfl,h0,h1,h2⟩ e
  exact ⟨c1,c2,rfl,h0,QbO h1 e,QbO h2 e⟩
theorem Qsg (n:Int) (h:1 <= n /\ n <= 9223372036854775807):BitVec.ofInt 64 n ≠ 0:=by
 intro e
 have:=congrArg BitVec.toNat e
 rw [BitVec.toNat_ofInt] at this
 simp at this
 omega
theorem Qlg (v n:Int) (h:1 <= n /\ n <= 9223372036854775807):0 <= (((BitVec.ofInt 64 v) % (BitVec.ofInt 64 n)).toNat:Int) /\ (((BitVec.ofInt 64 v) % (BitVec.ofInt 64 n)).toNat:Int) < n:=by
 rw [BitVec.toNat_umod,BitVec.toNat_ofInt,BitVec.toNat_ofInt]
 have e:(n % ((2 ^ 64:Nat):Int)).toNat = n.toNat:=by omega
 rw [e]
 have:(v % ((2 ^ 64:Nat):Int)).toNat % n.toNat < n.toNat:=Nat.mod_lt _ (by omega)
 omega
theorem QuQ (v n:Int) (h:1 <= n /\ n <= 9223372036854775807):(((BitVec.ofInt 64 v) % (BitVec.ofInt 64 n)).toNat:Int) <= 9223372036854775807:=by
 have:=Qlg v n h; omega
theorem Qin {α:Type} {p:α -> Prop} {xs:List α} {d:α} (h:∀ x ∈ xs,p x) (hd:p d) (i:Nat):p (xs.getD i d):=by
 rw [List.getD_eq_getElem?_getD]
 cases hx:xs[i]? with
 | none=>exact hd
 | some x=>exact h x (List.mem_of_getElem? hx)
def QdU (s:Qaf):Nat -> Int -> LR Unit Bool
 | 0,b=>
  .brk ()
 | r + 1,b=>
  bif ((((s.Words.getD ((b / 64):Int).toNat 0#64) >>> (((BitVec.ofInt 64 (b % 64)).toNat:Int)).toNat) &&& 1#64) == 1#64) then
   .ret false
  else
   QdU s r (b + 1)
def QaT (s:Qaf):Bool:=
 bif decide (s.Width < 0) then
  false
 else
  bif decide (256 < s.Width) then
   false
  else
   bif ((s.Words.length:Int) != ((s.Width + 63) / 64)) then
    false
   else
    match QdU s ((((64 * (s.Words.length:Int)):Int) - s.Width).toNat) s.Width with
    | .brk _=>
     true
    | .ret r=>r
    | .oof=>default
def QaW (l:List Int) (n:Int):Nat -> Int -> LR Unit Bool
 | 0,i=>
  .brk ()
 | r + 1,i=>
  bif decide ((l.getD i.toNat 0) < 0) then
   .ret false
  else
   bif decide (n <= (l.getD i.toNat 0)) then
    .ret false
   else
    bif decide (0 < i) then
     bif decide ((l.getD i.toNat 0) <= (l.getD ((i - 1):Int).toNat 0)) then
      .ret false
     else
      QaW l n r (i + 1)
    else
     QaW l n r (i + 1)
def QbE (l:List Int) (n:Int):Bool:=
 match QaW l n (((l.length:Int) - 0).toNat) 0 with
 | .brk _=>
  true
 | .ret r=>r
 | .oof=>default
def QcK (a:QbA) (b:QbA):Bool:=
 bif decide (a.From < b.From) then
  true
 else
  bif (a.From == b.From) then
   decide (a.To < b.To)
  else
   false
def Qao (t:Qad):Nat -> Int -> LR Unit Bool
 | 0,i=>
  .brk ()
 | r + 1,i=>
  bif decide ((t.Copies.getD i.toNat default).From < 0) then
   .ret false
  else
   bif decide (t.Gen.Width <= (t.Copies.getD i.toNat default).From) then
    .ret false
   else
    bif decide ((t.Copies.getD i.toNat default).To < 0) then
     .ret false
    else
     bif decide (t.Gen.Width <= (t.Copies.getD i.toNat default).To) then
      .ret false
     else
      bif decide (0 < i) then
       let rv49:=(QcK (t.Copies.getD ((i - 1):Int).toNat default) (t.Copies.getD i.toNat default))
       bif (!rv49) then
        .ret false
       else
        Qao t r (i + 1)
      else
       Qao t r (i + 1)
def Qai (t:Qad):Bool:=
 let rv2:=(QaT t.Gen)
 bif (!rv2) then
  false
 else
  let rv12:=(QaT t.Kill)
  bif (!rv12) then
   false
  else
   bif (t.Gen.Width != t.Kill.Width) then
    false
   else
    bif decide (64 < (t.Copies.length:Int)) then
     false
    else
     match Qao t (((t.Copies.length:Int) - 0).toNat) 0 with
     | .brk _=>
      true
     | .ret r=>r
     | .oof=>default
def Qbl (s:Qac):Nat -> Int -> Int -> LR Int Bool
 | 0,edges,i=>
  .brk edges
 | r + 1,edges,i=>
  let rv26:=(QbE (s.Deps.getD i.toNat []) (s.Boundary.length:Int))
  bif (!rv26) then
   .ret false
  else
   let rv47:=(Qai (s.Transfers.getD i.toNat default))
   bif (!rv47) then
    .ret false
   else
    bif (((s.Transfers.getD i.toNat default).Gen).Width != s.Width) then
     .ret false
    else
     let rv64:=(QaT (s.Boundary.getD i.toNat default))
     bif (!rv64) then
      .ret false
     else
      bif ((s.Boundary.getD i.toNat default).Width != s.Width) then
       .ret false
      else
       Qbl s r (edges + ((s.Deps.getD i.toNat []).length:Int)) (i + 1)
def Qa1 (s:Qac):Bool:=
 bif decide (s.Width < 0) then
  false
 else
  bif decide (256 < s.Width) then
   false
  else
   bif decide ((s.Boundary.length:Int) < 1) then
    false
   else
    bif decide (256 < (s.Boundary.length:Int)) then
     false
    else
     bif ((s.Deps.length:Int) != (s.Boundary.length:Int)) then
      false
     else
      bif ((s.Transfers.length:Int) != (s.Boundary.length:Int)) then
       false
      else
       match Qbl s (((s.Boundary.length:Int) - 0).toNat) 0 0 with
       | .brk Qdu=>
        decide (Qdu <= 1024)
       | .ret r=>r
       | .oof=>default
def QaL (s:Qac) (n:Int) (bit:Int):Int:=
 let rv2:=(Qa1 s)
 bif (!rv2) then
  1
 else
  bif decide (n < 0) then
   9
  else
   bif decide ((s.Boundary.length:Int) <= n) then
    9
   else
    bif decide (bit < 0) then
     3
    else
     bif decide (s.Width <= bit) then
      3
     else
      0
def Qap (s:Qaf) (b:Int):Bool:=
 let rv2:=(QaT s)
 bif rv2 then
  bif decide (0 <= b) then
   bif decide (b < s.Width) then
    ((((s.Words.getD ((b / 64):Int).toNat 0#64) >>> (((BitVec.ofInt 64 (b % 64)).toNat:Int)).toNat) &&& 1#64) == 1#64)
   else
    false
  else
   false
 else
  false
def QaG (t:Qad) (a:Int) (b:Int):Nat -> Int -> LR Unit Bool
 | 0,i=>
  .brk ()
 | r + 1,i=>
  bif ((t.Copies.getD i.toNat default).From == a) then
   bif ((t.Copies.getD i.toNat default).To == b) then
    .ret true
   else
    QaG t a b r (i + 1)
  else
   QaG t a b r (i + 1)
def Qbv (t:Qad) (a:Int) (b:Int):Bool:=
 bif (a == b) then
  let rv4:=(Qap t.Kill a)
  bif (!rv4) then
   true
  else
   match QaG t a b (((t.Copies.length:Int) - 0).toNat) 0 with
   | .brk _=>
    false
   | .ret r=>r
   | .oof=>default
 else
  match QaG t a b (((t.Copies.length:Int) - 0).toNat) 0 with
  | .brk _=>
   false
  | .ret r=>r
  | .oof=>default
def Qb7 (t:Qad) (a:Int) (b:Int):Bool:=
 let rv2:=(Qai t)
 bif rv2 then
  bif decide (0 <= a) then
   bif decide (a < t.Gen.Width) then
    bif decide (0 <= b) then
     bif decide (b < t.Gen.Width) then
      let rv15:=(Qbv t a b)
      rv15
     else
      false
    else
     false
   else
    false
  else
   false
 else
  false
def Qaw (s:Qac) (level:Int) (n:Int) (m:Int) (c:Int):Nat -> List Int -> Bool -> Int -> LR (List Int × Bool) (List Int)
 | 0,d,more,a=>
  .oof
 | r + 1,d,more,a=>
  bif ((d.getD (((n * s.Width) + c):Int).toNat 0) == level) then
   bif decide (a < s.Width) then
    bif ((d.getD (((m * s.Width) + a):Int).toNat 0) == 0) then
     let rv39:=(Qb7 (s.Transfers.getD m.toNat default) a c)
     bif rv39 then
      Qaw s level n m c r (d.set (((m * s.Width) + a):Int).toNat (level + 1)) true (a + 1)
     else
      Qaw s level n m c r d more (a + 1)
    else
     Qaw s level n m c r d more (a + 1)
   else
    .brk (d,more)
  else
   .brk (d,more)
def Qa6 (s:Qac) (level:Int) (n:Int) (m:Int):Nat -> List Int -> Bool -> Int -> List Int × Bool
 | 0,d,more,c=>
  (d,more)
 | r + 1,d,more,c=>
  match Qaw s level n m c (s.Width.toNat + 1) d more 0 with
  | .brk (QBE,QBF)=>
   Qa6 s level n m r QBE QBF (c + 1)
  | .ret _=>default
  | .oof=>default
def Qbc (s:Qac) (level:Int) (n:Int):Nat -> List Int -> Bool -> Int -> List Int × Bool
 | 0,d,more,i=>
  (d,more)
 | r + 1,d,more,i=>
  match Qa6 s level n ((s.Deps.getD n.toNat []).getD i.toNat 0) (((s.Width:Int) - 0).toNat) d more 0 with
  | (Qur,QBG)=>
   Qbc s level n r Qur QBG (i + 1)
def QaV (s:Qac) (level:Int):Nat -> List Int -> Bool -> Int -> List Int × Bool
 | 0,d,more,n=>
  (d,more)
 | r + 1,d,more,n=>
  match Qbc s level n (((((s.Deps.getD n.toNat []).length:Int):Int) - 0).toNat) d more 0 with
  | (QjV,QrM)=>
   QaV s level r QjV QrM (n + 1)
def QaP (s:Qac):Nat -> List Int -> Int -> LR Unit (List Int)
 | 0,d,level=>
  .oof
 | r + 1,d,level=>
  match QaV s level (((s.Boundary.length:Int) - 0).toNat) d false 0 with
  | (QjW,Qoj)=>
   bif (!Qoj) then
    .ret QjW
   else
    QaP s r QjW (level + 1)
def QbF (s:Qac) (to_:Qas):List Int:=
 match QaP s ((s.Boundary.length * s.Width.toNat:Nat) + 2) ((List.replicate (((s.Boundary.length:Int) * s.Width):Int).toNat (0:Int)).set (((to_.Node * s.Width) + to_.Bit):Int).toNat 1) 1 with
 | .brk _=>default
 | .ret r=>r
 | .oof=>default
def QcS (s:Qac) (h:Qas):Nat -> Int -> LR Unit Bool
 | 0,i=>
  .brk ()
 | r + 1,i=>
  let rv31:=(Qap ((s.Transfers.getD (((s.Deps.getD h.Node.toNat []).getD i.toNat 0):Int).toNat default).Gen) h.Bit)
  bif rv31 then
   .ret true
  else
   QcS s h r (i + 1)
def Qb6 (s:Qac) (h:Qas):Bool:=
 let rv7:=(Qap (s.Boundary.getD h.Node.toNat default) h.Bit)
 bif rv7 then
  true
 else
  match QcS s h (((((s.Deps.getD h.Node.toNat []).length:Int):Int) - 0).toNat) 0 with
  | .brk _=>
   false
  | .ret r=>r
  | .oof=>default
def Qfc (l:List Int) (n:Int):Nat -> Int -> LR Unit Bool
 | 0,i=>
  .brk ()
 | r + 1,i=>
  bif ((l.getD i.toNat 0) == n) then
   .ret true
  else
   Qfc l n r (i + 1)
def Qje (l:List Int) (n:Int):Bool:=
 match Qfc l n (((l.length:Int) - 0).toNat) 0 with
 | .brk _=>
  false
 | .ret r=>r
 | .oof=>default
def Qdq (s:Qac) (a:Qas) (b:Qas):Bool:=
 let rv8:=(Qje (s.Deps.getD b.Node.toNat []) a.Node)
 bif rv8 then
  let rv24:=(Qb7 (s.Transfers.getD a.Node.toNat default) a.Bit b.Bit)
  rv24
 else
  false
def Qbt (s:Qac) (d:List Int):Nat -> Int -> Int -> Int -> Int -> Int × Int × Int
 | 0,at0,at1,best,i=>
  (at0,at1,best)
 | r + 1,at0,at1,best,i=>
  bif decide (0 < (d.getD i.toNat 0)) then
   bif (best == 0) then
    let rv26:=(Qb6 s (Qas.mk (i / s.Width) (i % s.Width)))
    bif rv26 then
     Qbt s d r (i / s.Width) (i % s.Width) (d.getD i.toNat 0) (i + 1)
    else
     Qbt s d r at0 at1 best (i + 1)
   else
    bif decide ((d.getD i.toNat 0) < best) then
     let rv37:=(Qb6 s (Qas.mk (i / s.Width) (i % s.Width)))
     bif rv37 then
      Qbt s d r (i / s.Width) (i % s.Width) (d.getD i.toNat 0) (i + 1)
     else
      Qbt s d r at0 at1 best (i + 1)
    else
     Qbt s d r at0 at1 best (i + 1)
  else
   Qbt s d r at0 at1 best (i + 1)
def Qdc (s:Qac) (d:List Int) (at0:Int) (at1:Int) (k:Int):Nat -> Int -> Int × Int
 | 0,i=>
  (at0,at1)
 | r + 1,i=>
  bif ((d.getD i.toNat 0) == k) then
   let rv36:=(Qdq s (Qas.mk at0 at1) (Qas.mk (i / s.Width) (i % s.Width)))
   bif rv36 then
    ((i / s.Width),(i % s.Width))
   else
    Qdc s d at0 at1 k r (i + 1)
  else
   Qdc s d at0 at1 k r (i + 1)
def Qee (s:Qac) (d:List Int):Nat -> Int -> Int -> List Qas -> Int -> List Qas
 | 0,at0,at1,out,k=>
  out
 | r + 1,at0,at1,out,k=>
  match Qdc s d at0 at1 k (((d.length:Int) - 0).toNat) 0 with
  | (QjV,QrM)=>
   Qee s d r QjV QrM (out ++ [(Qas.mk QjV QrM)]) (k - 1)
def Qiv (s:Qac) (n:Int) (bit:Int):List Qas × Bool × Int:=
 let rv2:=(QaL s n bit)
 bif (rv2 != 0) then
  (([]:List Qas),false,rv2)
 else
  let rv10:=(QbF s (Qas.mk n bit))
  match Qbt s rv10 (((rv10.length:Int) - 0).toNat) 0 0 0 0 with
  | (Qdu,Qgs,Qma)=>
   bif (Qma == 0) then
    (([]:List Qas),false,0)
   else
    match Qee s rv10 (((Qma - 1):Int).toNat) Qdu Qgs [(Qas.mk Qdu Qgs)] (Qma - 1) with
    | QjW=>
     (QjW,true,0)
def QaK (width:Int):Qaf:=
 (Qaf.mk width (List.replicate (((width + 63) / 64):Int).toNat 0#64))
def QcM (s:Qac):Nat -> List Qaf -> Int -> List Qaf
 | 0,out,n=>
  out
 | r + 1,out,n=>
  let rv5:=(QaK s.Width)
  QcM s r (out ++ [rv5]) (n + 1)
def QdM (s:Qac):List Qaf:=
 match QcM s (((s.Boundary.length:Int) - 0).toNat) [] 0 with
 | Qdu=>
  Qdu
def Qcd (v:List Qaf):Nat -> Int -> LR Unit Int
 | 0,i=>
  .brk ()
 | r + 1,i=>
  let rv11:=(QaT (v.getD i.toNat default))
  bif (!rv11) then
   .ret 1
  else
   Qcd v r (i + 1)
def Qcf (s:Qac) (v:List Qaf):Nat -> Int -> LR Unit Int
 | 0,i=>
  .brk ()
 | r + 1,i=>
  bif ((v.getD i.toNat default).Width != s.Width) then
   .ret 2
  else
   Qcf s v r (i + 1)
def Qbs (s:Qac) (v:List Qaf):Int:=
 bif ((v.length:Int) != (s.Boundary.length:Int)) then
  1
 else
  match Qcd v (((v.length:Int) - 0).toNat) 0 with
  | .brk _=>
   match Qcf s v (((v.length:Int) - 0).toNat) 0 with
   | .brk _=>
    0
   | .ret r=>r
   | .oof=>default
  | .ret r=>r
  | .oof=>default
def Qbx (s:Qaf) (b:Int):Qaf:=
 let rv4:=(QaK s.Width)
 (Qaf.mk rv4.Width ((s.Words.take rv4.Words.length ++ rv4.Words.drop s.Words.length).set ((b / 64):Int).toNat (((s.Words.take rv4.Words.length ++ rv4.Words.drop s.Words.length).getD ((b / 64):Int).toNat 0#64) ||| (1#64 <<< (((BitVec.ofInt 64 (b % 64)).toNat:Int)).toNat))))
def QbJ (t:Qad) (s:Qaf) (a:Int):Nat -> Int -> List (BitVec 64) -> Int -> LR (Int × List (BitVec 64)) Qaf
 | 0,out0,out1,b=>
  .oof
 | r + 1,out0,out1,b=>
  let rv7:=(Qap s a)
  bif rv7 then
   bif decide (b < s.Width) then
    let rv14:=(Qbv t a b)
    bif rv14 then
     let rv20:=(Qbx (Qaf.mk out0 out1) b)
     QbJ t s a r rv20.Width rv20.Words (b + 1)
    else
     QbJ t s a r out0 out1 (b + 1)
   else
    .brk (out0,out1)
  else
   .brk (out0,out1)
def Qca (t:Qad) (s:Qaf):Nat -> Int -> List (BitVec 64) -> Int -> Int × List (BitVec 64)
 | 0,out0,out1,a=>
  (out0,out1)
 | r + 1,out0,out1,a=>
  match QbJ t s a (s.Width.toNat + 1) out0 out1 0 with
  | .brk (QjW,Qoj)=>
   Qca t s r QjW Qoj (a + 1)
  | .ret _=>default
  | .oof=>default
def Qit (t:Qad) (s:Qaf):Qaf:=
 match Qca t s (((s.Width:Int) - 0).toNat) t.Gen.Width t.Gen.Words 0 with
 | (Qdu,Qgs)=>
  (Qaf.mk Qdu Qgs)
def QdA (t:Qad) (s:Qaf):Qaf × Int:=
 let rv4:=(Qai t)
 bif (!rv4) then
  ((Qaf.mk 0 []),1)
 else
  let rv14:=(QaT s)
  bif (!rv14) then
   ((Qaf.mk 0 []),1)
  else
   bif (t.Gen.Width != s.Width) then
    ((Qaf.mk 0 []),2)
   else
    let rv28:=(Qit t s)
    (rv28,0)
def Qa7 (a:Qaf) (b:Qaf) (one:Bool) (two:Bool) (both:Bool):Nat -> Int -> List (BitVec 64) -> Int -> Int × List (BitVec 64)
 | 0,s0,s1,k=>
  (s0,s1)
 | r + 1,s0,s1,k=>
  let rv40:=(Qap a k)
  let rv43:=(Qap b k)
  bif rv40 then
   bif rv43 then
    bif both then
     let rv53:=(Qbx (Qaf.mk s0 s1) k)
     Qa7 a b one two both r rv53.Width rv53.Words (k + 1)
    else
     Qa7 a b one two both r s0 s1 (k + 1)
   else
    bif one then
     let rv82:=(Qbx (Qaf.mk s0 s1) k)
     Qa7 a b one two both r rv82.Width rv82.Words (k + 1)
    else
     Qa7 a b one two both r s0 s1 (k + 1)
  else
   bif rv43 then
    bif two then
     let rv107:=(Qbx (Qaf.mk s0 s1) k)
     Qa7 a b one two both r rv107.Width rv107.Words (k + 1)
    else
     Qa7 a b one two both r s0 s1 (k + 1)
   else
    Qa7 a b one two both r s0 s1 (k + 1)
def QgA (a:Qaf) (b:Qaf) (one:Bool) (two:Bool) (both:Bool):Qaf × Int:=
 let rv4:=(QaT a)
 bif (!rv4) then
  ((Qaf.mk 0 []),1)
 else
  let rv14:=(QaT b)
  bif (!rv14) then
   ((Qaf.mk 0 []),1)
  else
   bif (a.Width != b.Width) then
    ((Qaf.mk 0 []),2)
   else
    let rv28:=(QaK a.Width)
    match Qa7 a b one two both (((a.Width:Int) - 0).toNat) rv28.Width rv28.Words 0 with
    | (Qdu,Qgs)=>
     ((Qaf.mk Qdu Qgs),0)
def Qe6 (a:Qaf) (b:Qaf):Qaf × Int:=
 let rv5:=(QgA a b true true true)
 (rv5.1,rv5.2)
def QdS (a:Qaf) (b:Qaf):Qaf:=
 let rv5:=(Qe6 a b)
 rv5.1
def QbC (s:Qac) (v:List Qaf) (n:Int):Nat -> Int -> List (BitVec 64) -> Int -> Int × List (BitVec 64)
 | 0,out0,out1,i=>
  (out0,out1)
 | r + 1,out0,out1,i=>
  let rv31:=(QdA (s.Transfers.getD (((s.Deps.getD n.toNat []).getD i.toNat 0):Int).toNat default) (v.getD (((s.Deps.getD n.toNat []).getD i.toNat 0):Int).toNat default))
  let rv41:=(QdS (Qaf.mk out0 out1) rv31.1)
  QbC s v n r rv41.Width rv41.Words (i + 1)
def QbG (s:Qac) (v:List Qaf) (n:Int):Qaf:=
 match QbC s v n (((((s.Deps.getD n.toNat []).length:Int):Int) - 0).toNat) ((s.Boundary.getD n.toNat default).Width) ((s.Boundary.getD n.toNat default).Words) 0 with
 | (Qdu,Qgs)=>
  (Qaf.mk Qdu Qgs)
def Qd6 (s:Qac) (v:List Qaf) (n:Int):Qaf × Int:=
 let rv3:=(Qa1 s)
 bif (!rv3) then
  ((Qaf.mk 0 []),1)
 else
  bif decide (n < 0) then
   ((Qaf.mk 0 []),9)
  else
   bif decide ((s.Boundary.length:Int) <= n) then
    ((Qaf.mk 0 []),9)
   else
    let rv19:=(Qbs s v)
    bif (rv19 != 0) then
     ((Qaf.mk 0 []),rv19)
    else
     let rv27:=(QbG s v n)
     (rv27,0)
def QcU (s:Qac) (v:List Qaf):Nat -> List Qaf -> Int -> LR (List Qaf) (List Qaf × Int)
 | 0,out,n=>
  .brk out
 | r + 1,out,n=>
  let rv5:=(Qd6 s v n)
  bif (rv5.2 != 0) then
   .ret (([]:List Qaf),rv5.2)
  else
   QcU s v r (out ++ [rv5.1]) (n + 1)
def Qhr (s:Qac) (v:List Qaf):List Qaf × Int:=
 match QcU s v ((((max (s.Boundary.length:Int) 1):Int) - 0).toNat) [] 0 with
 | .brk Qdu=>
  (Qdu,0)
 | .ret r=>r
 | .oof=>default
def Qem (a:Qaf) (b:Qaf):Nat -> Int -> LR Unit Bool
 | 0,i=>
  .brk ()
 | r + 1,i=>
  bif ((a.Words.getD i.toNat 0#64) != (b.Words.getD i.toNat 0#64)) then
   .ret false
  else
   Qem a b r (i + 1)
def Qgg (a:Qaf) (b:Qaf):Bool:=
 bif (a.Width != b.Width) then
  false
 else
  bif ((a.Words.length:Int) != (b.Words.length:Int)) then
   false
  else
   match Qem a b (((a.Words.length:Int) - 0).toNat) 0 with
   | .brk _=>
    true
   | .ret r=>r
   | .oof=>default
def Qb2 (a:List Qaf) (b:List Qaf):Nat -> Int -> LR Unit Bool
 | 0,i=>
  .brk ()
 | r + 1,i=>
  let rv14:=(Qgg (a.getD i.toNat default) (b.getD i.toNat default))
  bif (!rv14) then
   .ret false
  else
   Qb2 a b r (i + 1)
def QcH (a:List Qaf) (b:List Qaf):Bool:=
 bif ((a.length:Int) != (b.length:Int)) then
  false
 else
  match Qb2 a b (((a.length:Int) - 0).toNat) 0 with
  | .brk _=>
   true
  | .ret r=>r
  | .oof=>default
def Qb3 (s:Qac):Nat -> List Qaf -> Int -> LR Unit (List Qaf × Int × Int)
 | 0,v,round=>
  .oof
 | r + 1,v,round=>
  let rv21:=(Qhr s v)
  let rv29:=(QcH rv21.1 v)
  bif rv29 then
   .ret (v,round,0)
  else
   Qb3 s r rv21.1 (round + 1)
def QcN (s:Qac):List Qaf × Int × Int:=
 let rv2:=(Qa1 s)
 bif (!rv2) then
  (([]:List Qaf),0,1)
 else
  let rv13:=(QdM s)
  match Qb3 s (s.Boundary.length * s.Width.toNat + 2) rv13 0 with
  | .brk _=>default
  | .ret r=>r
  | .oof=>default
def Qrc (v:Int) (n:Int):Int:=
 (((BitVec.ofInt 64 v) % (BitVec.ofInt 64 n)).toNat:Int)
def Qan (tT:List Int) (tI:Int) (n:Int):Int × Int:=
 bif decide (n <= 1) then
  (0,tI)
 else
  bif decide ((tT.length:Int) <= tI) then
   (0,tI)
  else
   let rv8:=(Qrc (tT.getD (((tI + 1) - 1):Int).toNat 0) n)
   (rv8,(tI + 1))
def QdN (tT:List Int):Nat -> Int -> Int -> List (BitVec 64) -> Int -> Int × Int × List (BitVec 64)
 | 0,ti',s0,s1,b=>
  (ti',s0,s1)
 | r + 1,ti',s0,s1,b=>
  let rv15:=(Qan tT ti' 3)
  bif (rv15.1 == 1) then
   let rv24:=(Qbx (Qaf.mk s0 s1) b)
   QdN tT r rv15.2 rv24.Width rv24.Words (b + 1)
  else
   QdN tT r rv15.2 s0 s1 (b + 1)
def Qer (tT:List Int) (tI:Int) (width:Int):Qaf × Int:=
 let rv3:=(QaK width)
 match QdN tT (((width:Int) - 0).toNat) tI rv3.Width rv3.Words 0 with
 | (Qdu,Qgs,Qma)=>
  ((Qaf.mk Qgs Qma),Qdu)
def QgD (width:Int) (n:Int):Bool:=
 bif decide (0 <= width) then
  bif decide (width <= 256) then
   bif decide (1 <= n) then
    decide (n <= 256)
   else
    false
  else
   false
 else
  false
def Qa8 (l:List Int) (n:Int):Nat -> Int -> LR Unit Bool
 | 0,v9=>
  .brk ()
 | r + 1,v9=>
  bif decide ((l.getD v9.toNat 0) < 0) then
   .ret false
  else
   bif decide (n <= (l.getD v9.toNat 0)) then
    .ret false
   else
    bif decide (0 < v9) then
     bif decide ((l.getD v9.toNat 0) <= (l.getD ((v9 - 1):Int).toNat 0)) then
      .ret false
     else
      Qa8 l n r (v9 + 1)
    else
     Qa8 l n r (v9 + 1)
def QcP (l:List Int) (n:Int):Bool:=
 match Qa8 l n (((l.length:Int) - 0).toNat) 0 with
 | .brk _=>
  true
 | .ret r=>r
 | .oof=>default
def Qbo (s:List Qaf) (fp:Qaf -> Bool):Nat -> Int -> LR Unit Int
 | 0,v8=>
  .brk ()
 | r + 1,v8=>
  bif (fp (s.getD v8.toNat default)) then
   .ret v8
  else
   Qbo s fp r (v8 + 1)
def QcB (s:List Qaf) (fp:Qaf -> Bool):Int:=
 match Qbo s fp (((s.length:Int) - 0).toNat) 0 with
 | .brk _=>
  -1
 | .ret r=>r
 | .oof=>default
def QaC (s:List Qaf) (fp:Qaf -> Bool):Bool:=
 let rv1:=(QcB s fp)
 decide (0 <= rv1)
def Qfd (width:Int):Bool:=
 bif decide (0 <= width) then
  decide (width <= 256)
 else
  false
def QjD (width:Int):Int:=
 (((width + 64) - 1) / 64)
def Qiq (width:Int):BitVec 64:=
 (18446744073709551615#64 <<< ((((BitVec.ofInt 64 width) % 64#64).toNat:Int)).toNat)
def Qa0 (s:Qaf):Bool:=
 let rv2:=(Qfd s.Width)
 bif (!rv2) then
  false
 else
  let rv12:=(QjD s.Width)
  bif ((s.Words.length:Int) != rv12) then
   false
  else
   bif ((s.Width % 64) == 0) then
    true
   else
    let rv23:=(Qiq s.Width)
    (((s.Words.getD (((s.Words.length:Int) - 1):Int).toNat 0#64) &&& rv23) == 0#64)
def Qdm (s:Qaf) (cap0:Int):Bool:=
 let rv2:=(Qa0 s)
 bif (!rv2) then
  true
 else
  (s.Width != cap0)
def QfT (width:Int) (l:List Qaf):Bool:=
 let rv2:=(QaC l (fun x=>Qdm x width))
 (!rv2)
def QaR (s:List Qad) (fp:Qad -> Bool):Nat -> Int -> LR Unit Int
 | 0,v8=>
  .brk ()
 | r + 1,v8=>
  bif (fp (s.getD v8.toNat default)) then
   .ret v8
  else
   QaR s fp r (v8 + 1)
def QbB (s:List Qad) (fp:Qad -> Bool):Int:=
 match QaR s fp (((s.length:Int) - 0).toNat) 0 with
 | .brk _=>
  -1
 | .ret r=>r
 | .oof=>default
def QaH (s:List Qad) (fp:Qad -> Bool):Bool:=
 let rv1:=(QbB s fp)
 decide (0 <= rv1)
def Qch (vals:List Int):Nat -> Int -> LR Unit Int
 | 0,v8=>
  .brk ()
 | r + 1,v8=>
  bif ((vals.getD v8.toNat 0) != 0) then
   .ret (vals.getD v8.toNat 0)
  else
   Qch vals r (v8 + 1)
def QeU (vals:List Int):Int:=
 match Qch vals (((vals.length:Int) - 0).toNat) 0 with
 | .brk _=>
  0
 | .ret r=>r
 | .oof=>default
def Qda (x:Int):Bool:=
 (x != x)
def Qa9 (x:Int) (y:Int):Int:=
 let rv1:=(Qda x)
 let rv4:=(Qda y)
 bif rv1 then
  bif rv4 then
   0
  else
   -1
 else
  bif rv4 then
   1
  else
   bif decide (x < y) then
    -1
   else
    bif decide (y < x) then
     1
    else
     0
def QfK (a:QbA) (b:QbA):Int:=
 let rv3:=(Qa9 a.From b.From)
 let rv7:=(Qa9 a.To b.To)
 let rv14:=(QeU [rv3,rv7])
 rv14
def Qg2 (t:Qad) (b:Int):Bool:=
 bif decide (0 <= b) then
  decide (b < t.Gen.Width)
 else
  false
def QbV (t:Qad):Nat -> Int -> LR Unit Bool
 | 0,v33=>
  .brk ()
 | r + 1,v33=>
  let rv33:=(Qg2 t ((t.Copies.getD v33.toNat default).From))
  bif (!rv33) then
   .ret false
  else
   let rv43:=(Qg2 t ((t.Copies.getD v33.toNat default).To))
   bif (!rv43) then
    .ret false
   else
    bif decide (0 < v33) then
     let rv57:=(QfK (t.Copies.getD ((v33 - 1):Int).toNat default) (t.Copies.getD v33.toNat default))
     bif decide (0 <= rv57) then
      .ret false
     else
      QbV t r (v33 + 1)
    else
     QbV t r (v33 + 1)
def Qcu (t:Qad):Bool:=
 let rv2:=(Qa0 t.Gen)
 bif (!rv2) then
  false
 else
  let rv12:=(Qa0 t.Kill)
  bif (!rv12) then
   false
  else
   bif (t.Gen.Width != t.Kill.Width) then
    false
   else
    bif decide (64 < (t.Copies.length:Int)) then
     false
    else
     match QbV t (((t.Copies.length:Int) - 0).toNat) 0 with
     | .brk _=>
      true
     | .ret r=>r
     | .oof=>default
def Qkh (width:Int) (f:Qad):Bool:=
 let rv2:=(Qcu f)
 bif rv2 then
  (f.Gen.Width == width)
 else
  false
def QcD (f:Qad) (cap0:Qac):Bool:=
 let rv2:=(Qkh cap0.Width f)
 (!rv2)
def Qcq (s:Qac):Nat -> Int -> Int -> LR Unit Bool
 | 0,edges,v32=>
  .brk ()
 | r + 1,edges,v32=>
  bif decide (1024 < (edges + ((s.Deps.getD v32.toNat []).length:Int))) then
   .ret false
  else
   let rv27:=(QcP (s.Deps.getD v32.toNat []) (s.Deps.length:Int))
   bif (!rv27) then
    .ret false
   else
    Qcq s r (edges + ((s.Deps.getD v32.toNat []).length:Int)) (v32 + 1)
def QbZ (s:Qac):Bool:=
 let rv2:=(QgD s.Width (s.Deps.length:Int))
 bif (!rv2) then
  false
 else
  bif ((s.Transfers.length:Int) != (s.Deps.length:Int)) then
   false
  else
   bif ((s.Boundary.length:Int) != (s.Deps.length:Int)) then
    false
   else
    match Qcq s (((s.Deps.length:Int) - 0).toNat) 0 0 with
    | .brk _=>
     let rv18:=(QfT s.Width s.Boundary)
     bif rv18 then
      let rv23:=(QaH s.Transfers (fun x=>QcD x s))
      (!rv23)
     else
      false
    | .ret r=>r
    | .oof=>default
def Qar (s:Qac) (n:Int) (bit:Int):Int:=
 let rv2:=(QbZ s)
 bif (!rv2) then
  1
 else
  bif decide (n < 0) then
   9
  else
   bif decide ((s.Deps.length:Int) <= n) then
    9
   else
    bif decide (bit < 0) then
     3
    else
     bif decide (s.Width <= bit) then
      3
     else
      0
def Qc3 (s:Qaf) (b:Int):Bool:=
 bif decide (0 <= b) then
  decide (b < s.Width)
 else
  false
def Qfe (s:Qaf) (b:Int):Bool:=
 let rv2:=(Qa0 s)
 bif rv2 then
  let rv7:=(Qc3 s b)
  bif rv7 then
   ((((s.Words.getD ((b / 64):Int).toNat 0#64) >>> ((((BitVec.ofInt 64 b) % 64#64).toNat:Int)).toNat) &&& 1#64) == 1#64)
  else
   false
 else
  false
def QaZ (s:List Int) (fp:Int -> Bool):Nat -> Int -> LR Unit Int
 | 0,v8=>
  .brk ()
 | r + 1,v8=>
  bif (fp (s.getD v8.toNat 0)) then
   .ret v8
  else
   QaZ s fp r (v8 + 1)
def QcE (s:List Int) (fp:Int -> Bool):Int:=
 match QaZ s fp (((s.length:Int) - 0).toNat) 0 with
 | .brk _=>
  -1
 | .ret r=>r
 | .oof=>default
def QbS (s:List Int) (fp:Int -> Bool):Bool:=
 let rv1:=(QcE s fp)
 decide (0 <= rv1)
def Qeg (k:Int) (cap0:Qac) (cap1:Qas):Bool:=
 let rv12:=(Qfe ((cap0.Transfers.getD k.toNat default).Gen) cap1.Bit)
 rv12
def QdP (s:Qac) (h:Qas):Bool:=
 let rv7:=(Qfe (s.Boundary.getD h.Node.toNat default) h.Bit)
 bif rv7 then
  true
 else
  let rv17:=(QbS (s.Deps.getD h.Node.toNat []) (fun x=>Qeg x s h))
  rv17
def Qb4 (s:List Int) (v:Int):Nat -> Int -> LR Unit Int
 | 0,v8=>
  .brk ()
 | r + 1,v8=>
  bif (v == (s.getD v8.toNat 0)) then
   .ret v8
  else
   Qb4 s v r (v8 + 1)
def Qet (s:List Int) (v:Int):Int:=
 match Qb4 s v (((s.length:Int) - 0).toNat) 0 with
 | .brk _=>
  -1
 | .ret r=>r
 | .oof=>default
def QaF (s:List Int) (v:Int):Bool:=
 let rv1:=(Qet s v)
 decide (0 <= rv1)
def Qbf (s:List QbA) (fp:QbA -> Bool):Nat -> Int -> LR Unit Int
 | 0,v8=>
  .brk ()
 | r + 1,v8=>
  bif (fp (s.getD v8.toNat default)) then
   .ret v8
  else
   Qbf s fp r (v8 + 1)
def Qcp (s:List QbA) (fp:QbA -> Bool):Int:=
 match Qbf s fp (((s.length:Int) - 0).toNat) 0 with
 | .brk _=>
  -1
 | .ret r=>r
 | .oof=>default
def QbL (s:List QbA) (fp:QbA -> Bool):Bool:=
 let rv1:=(Qcp s fp)
 decide (0 <= rv1)
def QeQ (x:QbA) (cap0:QbA):Bool:=
 ([x.From,x.To] == [cap0.From,cap0.To])
def Qfa (t:Qad) (c:QbA):Bool:=
 let rv3:=(QbL t.Copies (fun x=>QeQ x c))
 rv3
def QdX (t:Qad) (from_:Int) (to_:Int):Bool:=
 bif (from_ == to_) then
  let rv4:=(Qfe t.Kill to_)
  bif (!rv4) then
   true
  else
   let rv14:=(Qfa t (QbA.mk from_ to_))
   rv14
 else
  let rv18:=(Qfa t (QbA.mk from_ to_))
  rv18
def Qb8 (t:Qad) (from_:Int) (to_:Int):Bool:=
 let rv2:=(Qcu t)
 bif rv2 then
  let rv7:=(Qg2 t from_)
  bif rv7 then
   let rv12:=(Qg2 t to_)
   bif rv12 then
    let rv17:=(QdX t from_ to_)
    rv17
   else
    false
  else
   false
 else
  false
def QaM (s:Qac) (l:List Qas):Nat -> Int -> LR Unit Bool
 | 0,v35=>
  .brk ()
 | r + 1,v35=>
  let rv22:=(Qar s ((l.getD v35.toNat default).Node) ((l.getD v35.toNat default).Bit))
  bif (rv22 != 0) then
   .ret false
  else
   bif (v35 == 0) then
    let rv31:=(QdP s (l.getD v35.toNat default))
    bif (!rv31) then
     .ret false
    else
     bif decide (0 < v35) then
      let rv49:=(QaF (s.Deps.getD ((l.getD v35.toNat default).Node:Int).toNat []) ((l.getD ((v35 - 1):Int).toNat default).Node))
      bif rv49 then
       let rv65:=(Qb8 (s.Transfers.getD ((l.getD ((v35 - 1):Int).toNat default).Node:Int).toNat default) ((l.getD ((v35 - 1):Int).toNat default).Bit) ((l.getD v35.toNat default).Bit))
       bif (!rv65) then
        .ret false
       else
        QaM s l r (v35 + 1)
      else
       .ret false
     else
      QaM s l r (v35 + 1)
   else
    bif decide (0 < v35) then
     let rv86:=(QaF (s.Deps.getD ((l.getD v35.toNat default).Node:Int).toNat []) ((l.getD ((v35 - 1):Int).toNat default).Node))
     bif rv86 then
      let rv102:=(Qb8 (s.Transfers.getD ((l.getD ((v35 - 1):Int).toNat default).Node:Int).toNat default) ((l.getD ((v35 - 1):Int).toNat default).Bit) ((l.getD v35.toNat default).Bit))
      bif (!rv102) then
       .ret false
      else
       QaM s l r (v35 + 1)
     else
      .ret false
    else
     QaM s l r (v35 + 1)
def Qbe (s:Qac) (n:Int) (bit:Int) (l:List Qas):Bool:=
 let rv2:=(Qar s n bit)
 bif (rv2 != 0) then
  false
 else
  bif ((l.length:Int) == 0) then
   false
  else
   bif ([(l.getD (((l.length:Int) - 1):Int).toNat default).Node,(l.getD (((l.length:Int) - 1):Int).toNat default).Bit] != [n,bit]) then
    false
   else
    match QaM s l (((l.length:Int) - 0).toNat) 0 with
    | .brk _=>
     true
    | .ret r=>r
    | .oof=>default
def QaY (s:Qac) (l:List Qas):Nat -> Int -> LR Unit Bool
 | 0,i=>
  .brk ()
 | r + 1,i=>
  let rv21:=(QaL s ((l.getD i.toNat default).Node) ((l.getD i.toNat default).Bit))
  bif (rv21 != 0) then
   .ret false
  else
   QaY s l r (i + 1)
def Qbn (s:Qac) (l:List Qas):Nat -> Int -> LR Unit Bool
 | 0,i=>
  .brk ()
 | r + 1,i=>
  let rv23:=(Qdq s (l.getD ((i - 1):Int).toNat default) (l.getD i.toNat default))
  bif (!rv23) then
   .ret false
  else
   Qbn s l r (i + 1)
def Qaq (s:Qac) (n:Int) (bit:Int) (l:List Qas):Bool:=
 let rv2:=(QaL s n bit)
 bif (rv2 != 0) then
  false
 else
  bif ((l.length:Int) == 0) then
   false
  else
   bif ([(l.getD (((l.length:Int) - 1):Int).toNat default).Node,(l.getD (((l.length:Int) - 1):Int).toNat default).Bit] != [n,bit]) then
    false
   else
    match QaY s l (((l.length:Int) - 0).toNat) 0 with
    | .brk _=>
     match Qbn s l (((l.length:Int) - 1).toNat) 1 with
     | .brk _=>
      let rv19:=(Qb6 s (l.getD (0:Int).toNat default))
      rv19
     | .ret r=>r
     | .oof=>default
    | .ret r=>r
    | .oof=>default
def QdW (v:Qaf):Bool:=
 let rv2:=(Qa0 v)
 (!rv2)
def Qcr (s:List (BitVec 64)):List (BitVec 64):=s
def Qct (a:Qaf) (b:Qaf) (combinep:(BitVec 64) -> (BitVec 64) -> (BitVec 64)):Nat -> List (BitVec 64) -> Int -> List (BitVec 64)
 | 0,out1,v37=>
  out1
 | r + 1,out1,v37=>
  Qct a b combinep r (out1.set v37.toNat (combinep (a.Words.getD v37.toNat 0#64) (b.Words.getD v37.toNat 0#64))) (v37 + 1)
def Qdz (a:Qaf) (b:Qaf) (combinep:(BitVec 64) -> (BitVec 64) -> (BitVec 64)):Qaf × Int:=
 let rv4:=(Qa0 a)
 bif (!rv4) then
  ((Qaf.mk 0 []),1)
 else
  let rv14:=(Qa0 b)
  bif (!rv14) then
   ((Qaf.mk 0 []),1)
  else
   bif (a.Width != b.Width) then
    ((Qaf.mk 0 []),2)
   else
    match Qct a b combinep ((((((List.replicate (a.Words.length:Int).toNat 0#64).length:Nat):Int):Int) - 0).toNat) (List.replicate (a.Words.length:Int).toNat 0#64) 0 with
    | Qdu=>
     ((Qaf.mk a.Width Qdu),0)
def Qf7 (x:BitVec 64) (y:BitVec 64):BitVec 64:=
 (x &&& ~~~y)
def Qh7 (a:Qaf) (b:Qaf):Qaf × Int:=
 let rv5:=(Qdz a b (fun x0 x1=>Qf7 x0 x1))
 (rv5.1,rv5.2)
def QeT (x:BitVec 64) (y:BitVec 64):BitVec 64:=
 (x ||| y)
def QeE (a:Qaf) (b:Qaf):Qaf × Int:=
 let rv5:=(Qdz a b (fun x0 x1=>QeT x0 x1))
 (rv5.1,rv5.2)
def Qn4 (s:Qaf) (b:Int):List (BitVec 64):=
 (s.Words.set ((b / 64):Int).toNat ((s.Words.getD ((b / 64):Int).toNat 0#64) ||| (1#64 <<< ((((BitVec.ofInt 64 b) % 64#64).toNat:Int)).toNat)))
def Qep (s:Qaf) (b:Int) (member:Bool):Qaf × Int:=
 let rv3:=(Qa0 s)
 bif (!rv3) then
  ((Qaf.mk 0 []),1)
 else
  let rv13:=(Qc3 s b)
  bif (!rv13) then
   ((Qaf.mk 0 []),3)
  else
   let rv24:=(Qcr s.Words)
   bif member then
    let rv35:=(Qn4 (Qaf.mk s.Width (rv24.set ((b / 64):Int).toNat ((rv24.getD ((b / 64):Int).toNat 0#64) &&& ~~~(1#64 <<< ((((BitVec.ofInt 64 b) % 64#64).toNat:Int)).toNat)))) b)
    ((Qaf.mk s.Width rv35),0)
   else
    ((Qaf.mk s.Width (rv24.set ((b / 64):Int).toNat ((rv24.getD ((b / 64):Int).toNat 0#64) &&& ~~~(1#64 <<< ((((BitVec.ofInt 64 b) % 64#64).toNat:Int)).toNat)))),0)
def Qkf (s:Qaf) (b:Int):Qaf × Int:=
 let rv4:=(Qep s b true)
 (rv4.1,rv4.2)
def QbT (t:Qad) (s:Qaf):Nat -> Int -> List (BitVec 64) -> Int -> Int × List (BitVec 64)
 | 0,out0,out1,v26=>
  (out0,out1)
 | r + 1,out0,out1,v26=>
  let rv28:=(Qfe s ((t.Copies.getD v26.toNat default).From))
  bif rv28 then
   let rv34:=(Qkf (Qaf.mk out0 out1) ((t.Copies.getD v26.toNat default).To))
   QbT t s r rv34.1.Width rv34.1.Words (v26 + 1)
  else
   QbT t s r out0 out1 (v26 + 1)
def Qiu (t:Qad) (s:Qaf):Qaf:=
 let rv5:=(Qh7 s t.Kill)
 let rv15:=(QeE rv5.1 t.Gen)
 match QbT t s (((t.Copies.length:Int) - 0).toNat) rv15.1.Width rv15.1.Words 0 with
 | (Qdu,Qgs)=>
  (Qaf.mk Qdu Qgs)
def Qd9 (t:Qad) (s:Qaf):Qaf × Int:=
 let rv4:=(Qcu t)
 bif (!rv4) then
  ((Qaf.mk 0 []),1)
 else
  let rv14:=(Qa0 s)
  bif (!rv14) then
   ((Qaf.mk 0 []),1)
  else
   bif (t.Gen.Width != s.Width) then
    ((Qaf.mk 0 []),2)
   else
    let rv28:=(Qiu t s)
    (rv28,0)
def QdL (s:Qac) (values:List Qaf) (n:Int):Nat -> Int -> List (BitVec 64) -> Int -> Int × List (BitVec 64)
 | 0,out0,out1,v64=>
  (out0,out1)
 | r + 1,out0,out1,v64=>
  let rv74:=(Qd9 (s.Transfers.getD (((s.Deps.getD n.toNat []).getD v64.toNat 0):Int).toNat default) (values.getD (((s.Deps.getD n.toNat []).getD v64.toNat 0):Int).toNat default))
  let rv84:=(QeE (Qaf.mk out0 out1) rv74.1)
  QdL s values n r rv84.1.Width rv84.1.Words (v64 + 1)
def Qdf (s:Qac) (values:List Qaf) (n:Int):Qaf × Int:=
 let rv3:=(QbZ s)
 bif (!rv3) then
  ((Qaf.mk 0 []),1)
 else
  bif decide (n < 0) then
   ((Qaf.mk 0 []),9)
  else
   bif decide ((s.Deps.length:Int) <= n) then
    ((Qaf.mk 0 []),9)
   else
    bif ((values.length:Int) != (s.Deps.length:Int)) then
     ((Qaf.mk 0 []),1)
    else
     let rv22:=(QaC values (fun x=>QdW x))
     bif rv22 then
      ((Qaf.mk 0 []),1)
     else
      let rv28:=(QfT s.Width values)
      bif (!rv28) then
       ((Qaf.mk 0 []),2)
      else
       let rv43:=(Qcr ((s.Boundary.getD n.toNat default).Words))
       match QdL s values n (((((s.Deps.getD n.toNat []).length:Int):Int) - 0).toNat) s.Width rv43 0 with
       | (Qdu,Qgs)=>
        ((Qaf.mk Qdu Qgs),0)
def QcY (s:Qac) (values:List Qaf):Nat -> List Qaf -> Int -> LR (List Qaf) (List Qaf × Int)
 | 0,out,v16=>
  .brk out
 | r + 1,out,v16=>
  let rv15:=(Qdf s values v16)
  bif (rv15.2 != 0) then
   .ret (([]:List Qaf),rv15.2)
  else
   QcY s values r (out ++ [rv15.1]) (v16 + 1)
def QdI (s:Qac) (values:List Qaf):List Qaf × Int:=
 let rv2:=(QbZ s)
 bif (!rv2) then
  (([]:List Qaf),1)
 else
  match QcY s values (((s.Deps.length:Int) - 0).toNat) [] 0 with
  | .brk Qdu=>
   (Qdu,0)
  | .ret r=>r
  | .oof=>default
def Qbz (x:BitVec 64):Int:=
 let rv1:=(((x >>> (((1#64).toNat:Int)).toNat) &&& 6148914691236517205#64) + (x &&& 6148914691236517205#64))
 let rv3:=(((rv1 >>> (((2#64).toNat:Int)).toNat) &&& 3689348814741910323#64) + (rv1 &&& 3689348814741910323#64))
 let rv5:=(((rv3 >>> (((4#64).toNat:Int)).toNat) + rv3) &&& 1085102592571150095#64)
 let rv7:=(rv5 + (rv5 >>> (((8#64).toNat:Int)).toNat))
 let rv9:=(rv7 + (rv7 >>> (((16#64).toNat:Int)).toNat))
 let rv11:=(rv9 + (rv9 >>> (((32#64).toNat:Int)).toNat))
 (Qs6 (rv11.toNat:Int) 127)
def QbU (s:Qaf):Nat -> Int -> Int -> Int
 | 0,n,v11=>
  n
 | r + 1,n,v11=>
  let rv9:=(Qbz (s.Words.getD v11.toNat 0#64))
  QbU s r (n + rv9) (v11 + 1)
def QgH (s:Qaf):Int:=
 let rv2:=(Qa0 s)
 bif rv2 then
  match QbU s (((s.Words.length:Int) - 0).toNat) 0 0 with
  | Qdu=>
   Qdu
 else
  0
def Qdp (a:Qaf) (b:Qaf):Bool:=
 let rv4:=(Qh7 a b)
 bif (rv4.2 == 0) then
  let rv15:=(QgH rv4.1)
  (rv15 == 0)
 else
  false
def QbH (values:List Qaf) (next:List Qaf):Nat -> Int -> LR Unit Bool
 | 0,v18=>
  .brk ()
 | r + 1,v18=>
  let rv23:=(Qdp (next.getD v18.toNat default) (values.getD v18.toNat default))
  bif (!rv23) then
   .ret false
  else
   QbH values next r (v18 + 1)
def Qb5 (s:Qac) (values:List Qaf):Bool:=
 let rv3:=(QdI s values)
 bif (rv3.2 != 0) then
  false
 else
  match QbH values rv3.1 (((rv3.1.length:Int) - 0).toNat) 0 with
  | .brk _=>
   true
  | .ret r=>r
  | .oof=>default
def Qat (s:Qac) (n:Int) (bit:Int) (values:List Qaf):Bool:=
 let rv2:=(Qar s n bit)
 bif (rv2 == 0) then
  let rv8:=(Qb5 s values)
  bif rv8 then
   let rv17:=(Qfe (values.getD n.toNat default) bit)
   (!rv17)
  else
   false
 else
  false
def QjZ (a:Qaf) (b:Qaf):Qaf × Int:=
 let rv5:=(QgA a b true false false)
 (rv5.1,rv5.2)
def Qbj (s:Qaf):Nat -> List Int -> Int -> LR (List Int) (List Int)
 | 0,out,b=>
  .oof
 | r + 1,out,b=>
  let rv2:=(QaT s)
  bif rv2 then
   bif decide (b < s.Width) then
    let rv9:=(Qap s b)
    bif rv9 then
     Qbj s r (out ++ [b]) (b + 1)
    else
     Qbj s r out (b + 1)
   else
    .brk out
  else
   .brk out
def Qei (s:Qaf):List Int:=
 match Qbj s (s.Width.toNat + 1) [] 0 with
 | .brk Qdu=>
  Qdu
 | .ret _=>default
 | .oof=>default
def QeC (a:Qaf) (b:Qaf):Bool:=
 let rv4:=(QjZ a b)
 bif (rv4.2 == 0) then
  let rv16:=(Qei rv4.1)
  ((rv16.length:Int) == 0)
 else
  false
def Qck (s:Qac) (v:List Qaf):Nat -> Int -> LR Unit Bool
 | 0,n=>
  .brk ()
 | r + 1,n=>
  let rv22:=(QbG s v n)
  let rv33:=(QeC rv22 (v.getD n.toNat default))
  bif (!rv33) then
   .ret false
  else
   Qck s v r (n + 1)
def Qb9 (s:Qac) (v:List Qaf):Bool:=
 let rv2:=(Qa1 s)
 bif (!rv2) then
  false
 else
  let rv12:=(Qbs s v)
  bif (rv12 != 0) then
   false
  else
   match Qck s v (((v.length:Int) - 0).toNat) 0 with
   | .brk _=>
    true
   | .ret r=>r
   | .oof=>default
def QaQ (s:Qac) (n:Int) (bit:Int) (v:List Qaf):Bool:=
 let rv2:=(QaL s n bit)
 bif (rv2 == 0) then
  let rv8:=(Qb9 s v)
  bif rv8 then
   let rv17:=(Qap (v.getD n.toNat default) bit)
   (!rv17)
  else
   false
 else
  false
def QdO (tT:List Int) (tI:Int) (s:Qaf):Qaf × Int:=
 let rv11:=(Qan tT tI 4)
 bif (rv11.1 == 0) then
  let rv19:=(Qan tT rv11.2 5)
  ((Qaf.mk (s.Width + (rv19.1 - 2)) s.Words),rv19.2)
 else
  bif (rv11.1 == 1) then
   let rv28:=(Qan tT rv11.2 2)
   ((Qaf.mk s.Width (s.Words ++ [(BitVec.ofInt 64 rv28.1)])),rv28.2)
  else
   bif (rv11.1 == 2) then
    bif decide (0 < (s.Words.length:Int)) then
     let rv47:=(Qan tT rv11.2 64)
     ((Qaf.mk s.Width (s.Words.set (((s.Words.length:Int) - 1):Int).toNat ((s.Words.getD (((s.Words.length:Int) - 1):Int).toNat 0#64) ||| (1#64 <<< (((BitVec.ofInt 64 rv47.1).toNat:Int)).toNat)))),rv47.2)
    else
     (s,rv11.2)
   else
    let rv58:=(Qan tT rv11.2 4)
    ((Qaf.mk ([-1,257,320,0].getD rv58.1.toNat 0) s.Words),rv58.2)
def Qeu (tT:List Int) (s:Qac):Nat -> Int -> List Qaf -> Int -> Int × List Qaf
 | 0,ti',v,i=>
  (ti',v)
 | r + 1,ti',v,i=>
  let rv5:=(Qer tT ti' s.Width)
  Qeu tT s r rv5.2 (v ++ [rv5.1]) (i + 1)
def Qdo (tT:List Int) (tI:Int) (s:Qac):List Qaf × Int:=
 match Qeu tT s (((s.Boundary.length:Int) - 0).toNat) tI [] 0 with
 | (Qdu,Qgs)=>
  let rv6:=(Qan tT Qdu 8)
  bif (rv6.1 == 1) then
   let rv15:=(Qer tT rv6.2 s.Width)
   ((Qgs ++ [rv15.1]),rv15.2)
  else
   bif (rv6.1 == 2) then
    let rv36:=(Qan tT rv6.2 (Qgs.length:Int))
    let rv43:=(Qer tT rv36.2 (s.Width + 1))
    ((Qgs.set rv36.1.toNat rv43.1),rv43.2)
   else
    bif (rv6.1 == 3) then
     let rv61:=(QdO tT rv6.2 (Qgs.getD (0:Int).toNat default))
     ((Qgs.set (0:Int).toNat rv61.1),rv61.2)
    else
     (Qgs,rv6.2)
def QfX (s:Qac):Nat -> Int -> LR Unit Bool
 | 0,i=>
  .brk ()
 | r + 1,i=>
  bif decide (8 < ((s.Deps.getD i.toNat []).length:Int)) then
   .ret true
  else
   QfX s r (i + 1)
def Qf1 (s:Qac):Nat -> Int -> LR Unit Bool
 | 0,i=>
  .brk ()
 | r + 1,i=>
  bif decide (12 < (((s.Transfers.getD i.toNat default).Copies).length:Int)) then
   .ret true
  else
   Qf1 s r (i + 1)
def QiM (s:Qac):Bool:=
 bif decide (6 < (s.Deps.length:Int)) then
  true
 else
  bif decide (6 < (s.Transfers.length:Int)) then
   true
  else
   bif decide (6 < (s.Boundary.length:Int)) then
    true
   else
    bif decide (8 < s.Width) then
     true
    else
     match QfX s (((s.Deps.length:Int) - 0).toNat) 0 with
     | .brk _=>
      match Qf1 s (((s.Transfers.length:Int) - 0).toNat) 0 with
      | .brk _=>
       false
      | .ret r=>r
      | .oof=>default
     | .ret r=>r
     | .oof=>default
def Qcs (s:List Qas) (fp:Qas -> LR Unit Bool):Nat -> Int -> LR Unit Int
 | 0,v8=>
  .brk ()
 | r + 1,v8=>
  bif decide (0 <= v8 /\ v8 < (s.length:Int)) then
   bif decide (0 <= v8 /\ v8 < (s.length:Int)) then
    lb (fp (s.getD v8.toNat default)) fun rv5=>
    bif rv5 then
     .ret v8
    else
     bif decide (-9223372036854775808 <= (v8 + 1) /\ (v8 + 1) <= 9223372036854775807) then
      Qcs s fp r (v8 + 1)
     else
      .oof
   else
    .oof
  else
   .oof
def Qfp (s:List Qas) (fp:Qas -> LR Unit Bool):LR Unit Int:=
 ll (Qcs s fp (((s.length:Int) - 0).toNat) 0) fun _=>
 .ret (-1)
def Qd0 (s:List Qas) (j:Int):Nat -> LR Unit (List Qas)
 | 0=>
  .oof
 | r + 1=>
  bif decide (j < (s.length:Int)) then
   .oof
  else
   .brk ()
def QeR (s:List Qas) (delp:Qas -> LR Unit Bool):LR Unit (List Qas):=
 lb (Qfp s delp) fun rv1=>
 bif (rv1 == -1) then
  .ret s
 else
  bif decide (-9223372036854775808 <= (rv1 + 1) /\ (rv1 + 1) <= 9223372036854775807) then
   ll (Qd0 s (rv1 + 1) 1) fun _=>
   bif decide (0 <= rv1 /\ rv1 < (s.length:Int)) then
    bif decide ((rv1.toNat) + (s.length - rv1.toNat) = s.length) then
     bif decide (0 <= rv1 /\ rv1 <= ((((s.take (rv1.toNat)) ++ (List.replicate (s.length - rv1.toNat) (Qas.mk 0 0))):List Qas).length:Int)) then
      .ret ((((s.take (rv1.toNat)) ++ (List.replicate (s.length - rv1.toNat) (Qas.mk 0 0))).take (rv1.toNat)).drop 0)
     else
      .oof
    else
     .oof
   else
    .oof
  else
   .oof
def Qih (s:List Qas):LR Unit (List Qas):=.ret s
def Qjh (h:Qas) (cap0:Qac):LR Unit Bool:=
 bif decide (QbZ cap0 = true) then
  bif decide (0 <= h.Node /\ h.Node < (cap0.Deps.length:Int)) then
   lv (QdP cap0 h) fun rv2=>
   .ret (!rv2)
  else
   .oof
 else
  .oof
def Qe0 (x:List Qas):Nat -> LR Unit Qas
 | 0=>
  .oof
 | r + 1=>
  bif decide (1 < (x.length:Int)) then
   .oof
  else
   .brk ()
def QgM (x:List Qas) (cmpp:Qas -> Qas -> LR Unit Int):LR Unit Qas:=
 bif decide ((x.length:Int) < 1) then
  .oof
 else
  bif decide (0 <= 0 /\ 0 < (x.length:Int)) then
   bif decide (0 <= 0 /\ 0 < (x.length:Int)) then
    ll (Qe0 x 1) fun _=>
    .ret (x.getD (0:Int).toNat default)
   else
    .oof
  else
   .oof
def Qhs (next:List (Qas × List Qas)):Nat -> List Qas -> List Qas -> LR (List Qas) (List Qas)
 | 0,l',out=>
  .oof
 | r + 1,l',out=>
  bif decide (0 < (l'.length:Int)) then
   lb (QgM l' (fun x0 x1=>.oof)) fun rv3=>
   bif decide ((out.length + ([rv3]:List Qas).length) * 16 <= 140737488355328) then
    Qhs next r ((Qfs next rv3).getD []) (out ++ [rv3])
   else
    .oof
  else
   .brk out
def Qnb (l:List Qas) (next:List (Qas × List Qas)):LR Unit (List Qas):=
 ll (Qhs next 100000 l []) fun Qdu=>
 .ret Qdu
def Qfb (h:Qas) (m:Int) (f2:Int) (f3:List (BitVec 64)):Nat -> List Qas -> Int -> LR (List Qas) (List Qas)
 | 0,out,v28=>
  .brk out
 | r + 1,out,v28=>
  bif (v28 == h.Bit) then
   lv (Qfe (Qaf.mk f2 f3) v28) fun rv26=>
   bif (!rv26) then
    bif decide ((out.length + ([(Qas.mk m v28)]:List Qas).length) * 16 <= 140737488355328) then
     bif decide (-9223372036854775808 <= (v28 + 1) /\ (v28 + 1) <= 9223372036854775807) then
      Qfb h m f2 f3 r (out ++ [(Qas.mk m v28)]) (v28 + 1)
     else
      .oof
    else
     .oof
   else
    .oof
  else
   .oof
def Qe9 (s:Qac) (h:Qas):Nat -> List Qas -> Int -> LR (List Qas) (List Qas)
 | 0,out,v17=>
  .brk out
 | r + 1,out,v17=>
  bif decide (0 <= v17 /\ v17 < (((s.Deps.getD h.Node.toNat []):List Int).length:Int)) then
   bif decide (0 <= ((s.Deps.getD h.Node.toNat []).getD v17.toNat 0) /\ ((s.Deps.getD h.Node.toNat []).getD v17.toNat 0) < (s.Transfers.length:Int)) then
    bif decide (0 <= ((s.Deps.getD h.Node.toNat []).getD v17.toNat 0) /\ ((s.Deps.getD h.Node.toNat []).getD v17.toNat 0) < (s.Transfers.length:Int)) then
     ll (Qfb h ((s.Deps.getD h.Node.toNat []).getD v17.toNat 0) (((s.Transfers.getD (((s.Deps.getD h.Node.toNat []).getD v17.toNat 0):Int).toNat default).Kill).Width) (((s.Transfers.getD (((s.Deps.getD h.Node.toNat []).getD v17.toNat 0):Int).toNat default).Kill).Words) (((s.Width:Int) - 0).toNat) out 0) fun QjW=>
     bif decide (-9223372036854775808 <= (v17 + 1) /\ (v17 + 1) <= 9223372036854775807) then
      Qe9 s h r QjW (v17 + 1)
     else
      .oof
    else
     .oof
   else
    .oof
  else
   .oof
def Qlu (s:Qac) (h:Qas):LR Unit (List Qas):=
 bif decide (0 <= h.Node /\ h.Node < (s.Deps.length:Int)) then
  bif decide (0 <= h.Node /\ h.Node < (s.Deps.length:Int)) then
   ll (Qe9 s h (((((s.Deps.getD h.Node.toNat []).length:Int):Int) - 0).toNat) [] 0) fun Qdu=>
   .ret Qdu
  else
   .oof
 else
  .oof
def Qg7  (next:List (Qas × List Qas)) (h0:Int) (h1:Int) (v58:List Qas):Nat -> List (Qas × List Qas) -> List Qas -> Int -> LR ((List (Qas × List Qas)) × List Qas) (List Qas × Bool × Int)
 | 0,found,further,v60=>
  .brk (found,further)
 | r + 1,found,further,v60=>
  bif decide (0 <= v60 /\ v60 < (v58.length:Int)) then
   bif decide (0 <= v60 /\ v60 < (v58.length:Int)) then
    bif (Qfs next (v58.getD v60.toNat default)).isSome then
     .oof
    else
     bif decide ((Qfs found (v58.getD v60.toNat default)).isSome = false) then
      bif decide ((further.length + ([(v58.getD v60.toNat default)]:List Qas).length) * 16 <= 140737488355328) then
       bif decide ((Qfs found (v58.getD v60.toNat default)).isSome = false) then
        bif decide (-9223372036854775808 <= (v60 + 1) /\ (v60 + 1) <= 9223372036854775807) then
         Qg7 next h0 h1 v58 r (mset ((mset found (v58.getD v60.toNat default) ((Qfs found (v58.getD v60.toNat default)).getD [])):List (Qas × List Qas)) (v58.getD v60.toNat default) ([(Qas.mk h0 h1)]:List Qas)) (further ++ [(v58.getD v60.toNat default)]) (v60 + 1)
        else
         .oof
       else
        .oof
      else
       .oof
     else
      .oof
   else
    .oof
  else
   .oof
def Qha (s:Qac) (next:List (Qas × List Qas)) (v50:List Qas):Nat -> List (Qas × List Qas) -> List Qas -> Int -> LR ((List (Qas × List Qas)) × List Qas) (List Qas × Bool × Int)
 | 0,found,further,v52=>
  .brk (found,further)
 | r + 1,found,further,v52=>
  bif decide (0 <= v52 /\ v52 < (v50.length:Int)) then
   bif decide (0 <= v52 /\ v52 < (v50.length:Int)) then
    lb (Qlu s (v50.getD v52.toNat default)) fun rv47=>
    ll (Qg7 next ((v50.getD v52.toNat default).Node) ((v50.getD v52.toNat default).Bit) rv47 (((rv47.length:Int) - 0).toNat) found further 0) fun (QjV,QrM)=>
    bif decide (-9223372036854775808 <= (v52 + 1) /\ (v52 + 1) <= 9223372036854775807) then
     Qha s next v50 r QjV QrM (v52 + 1)
    else
     .oof
   else
    .oof
  else
   .oof
def Qdt  : List (Qas × List Qas) -> List (Qas × List Qas) -> (List (Qas × List Qas))
 | [],next=>
  next
 | en3 :: r,next=>
  Qdt r (mset next en3.1 en3.2)
theorem QiR  : ∀ (a b:List (Qas × List Qas)) (next:List (Qas × List Qas)),Qdt (a ++ b) next = Qdt b (Qdt a next)
 | [],b,next=>rfl
 | en3 :: a,b,next=>by
  rw [List.cons_append,Qdt,Qdt]
  try simp only [Bool.cond_eq_ite]
  repeat' split
  all_goals exact QiR  a b _
def Qil (s:Qac):Nat -> List (Qas × List Qas) -> List Qas -> LR Unit (List Qas × Bool × Int)
 | 0,next,level=>
  .oof
 | r + 1,next,level=>
  lb (Qih level) fun rv16=>
  lb (QeR rv16 (fun x=>Qjh x s)) fun rv23=>
  bif decide (0 < (rv23.length:Int)) then
   lb (Qnb rv23 next) fun rv32=>
   .ret (rv32,true,0)
  else
   ll (Qha s next level (((level.length:Int) - 0).toNat) [] [] 0) fun (QjW,Qoj)=>
   bif ((Qoj.length:Int) == 0) then
    .oof
   else
    lv (Qdt QjW next) fun Qur=>
    Qil s r Qur Qoj
def QoW (s:Qac) (n:Int) (bit:Int):LR Unit (List Qas × Bool × Int):=
 lv (Qar s n bit) fun rv2=>
 bif (rv2 != 0) then
  .oof
 else
  ll (Qil s 100000 (mset ([]:List (Qas × List Qas)) (Qas.mk n bit) ([]:List Qas)) [(Qas.mk n bit)]) fun _=>
  .oof
def Qg6 (c:Int):LR Unit Bool:=
 bif decide (97 <= c) then
  bif decide (c <= 122) then
   .ret true
  else
   .oof
 else
  bif decide (65 <= c) then
   .oof
  else
   .ret (c == 95)
def QkV (c:Int):LR Unit Bool:=
 bif decide (48 <= c) then
  .ret (decide (c <= 57))
 else
  .ret false
def Qj8  (c:Int):Nat -> LR Unit (List Qbb × Int × Int × Int)
 | 0=>
  .oof
 | r + 1=>
  bif (c == 35) then
   .oof
  else
   .brk ()
def QiB (text:Str) (i:Int):Nat -> Int -> LR Int (List Qbb × Int × Int × Int)
 | 0,n=>
  .oof
 | r + 1,n=>
  bif decide (-9223372036854775808 <= (i + n) /\ (i + n) <= 9223372036854775807) then
   bif decide ((i + n) < (text.b.length:Int)) then
    bif decide (-9223372036854775808 <= (i + n) /\ (i + n) <= 9223372036854775807) then
     bif decide (0 <= (i + n) /\ (i + n) < (text.b.length:Int)) then
      lb (Qg6 ((text.b.getD ((i + n):Int).toNat 0).toNat:Int)) fun rv54=>
      bif rv54 then
       bif decide (-9223372036854775808 <= (n + 1) /\ (n + 1) <= 9223372036854775807) then
        QiB text i r (n + 1)
       else
        .oof
      else
       bif decide (-9223372036854775808 <= (i + n) /\ (i + n) <= 9223372036854775807) then
        bif decide (0 <= (i + n) /\ (i + n) < (text.b.length:Int)) then
         lb (QkV ((text.b.getD ((i + n):Int).toNat 0).toNat:Int)) fun rv61=>
         bif rv61 then
          .oof
         else
          .brk n
        else
         .oof
       else
        .oof
     else
      .oof
    else
     .oof
   else
    .brk n
  else
   .oof
def QeW (text:Str):Nat -> List Qbb -> Int -> Bool -> Int -> LR (List Qbb × Int × Bool) (List Qbb × Int × Int × Int)
 | 0,out,col,open_,i=>
  .oof
 | r + 1,out,col,open_,i=>
  bif decide (i < (text.b.length:Int)) then
   bif decide (0 <= i /\ i < (text.b.length:Int)) then
    bif (((text.b.getD i.toNat 0).toNat:Int) == 32) then
     bif decide (-9223372036854775808 <= (i + 1) /\ (i + 1) <= 9223372036854775807) then
      bif decide (-9223372036854775808 <= (col + 1) /\ (col + 1) <= 9223372036854775807) then
       QeW text r out (col + 1) open_ (i + 1)
      else
       .oof
     else
      .oof
    else
     bif (((text.b.getD i.toNat 0).toNat:Int) == 9) then
      .oof
     else
      bif (((text.b.getD i.toNat 0).toNat:Int) == 10) then
       .oof
      else
       bif (((text.b.getD i.toNat 0).toNat:Int) == 59) then
        bif open_ then
         bif decide ((out.length + ([(Qbb.mk 3 (Str.mk []) 1 col)]:List Qbb).length) * 40 <= 140737488355328) then
          ll (Qj8 ((text.b.getD i.toNat 0).toNat:Int) 1) fun _=>
          bif decide (-9223372036854775808 <= (i + 1) /\ (i + 1) <= 9223372036854775807) then
           bif decide (-9223372036854775808 <= (col + 1) /\ (col + 1) <= 9223372036854775807) then
            bif decide ((i + 1) < (text.b.length:Int)) then
             bif decide (0 <= (i + 1) /\ (i + 1) < (text.b.length:Int)) then
              bif (((text.b.getD ((i + 1):Int).toNat 0).toNat:Int) == 10) then
               .oof
              else
               QeW text r (out ++ [(Qbb.mk 3 (Str.mk []) 1 col)]) (col + 1) false (i + 1)
             else
              .oof
            else
             .oof
           else
            .oof
          else
           .oof
         else
          .oof
        else
         .oof
       else
        bif (((text.b.getD i.toNat 0).toNat:Int) == 35) then
         .oof
        else
         bif (((text.b.getD i.toNat 0).toNat:Int) == 61) then
          bif decide ((out.length + ([(Qbb.mk 2 (Str.mk [61]) 1 col)]:List Qbb).length) * 40 <= 140737488355328) then
           bif decide (-9223372036854775808 <= (i + 1) /\ (i + 1) <= 9223372036854775807) then
            bif decide (-9223372036854775808 <= (col + 1) /\ (col + 1) <= 9223372036854775807) then
             QeW text r (out ++ [(Qbb.mk 2 (Str.mk [61]) 1 col)]) (col + 1) true (i + 1)
            else
             .oof
           else
            .oof
          else
           .oof
         else
          lb (Qg6 ((text.b.getD i.toNat 0).toNat:Int)) fun rv46=>
          bif rv46 then
           ll (QiB text i 100000 0) fun QjV=>
           lb (QkV ((text.b.getD i.toNat 0).toNat:Int)) fun rv52=>
           bif rv52 then
            .oof
           else
            bif decide (16 < QjV) then
             .oof
            else
             bif decide (-9223372036854775808 <= (i + QjV) /\ (i + QjV) <= 9223372036854775807) then
              bif decide (0 <= i /\ i <= (i + QjV) /\ (i + QjV) <= (text.b.length:Int)) then
               bif decide ((out.length + ([(Qbb.mk 1 (text.sub i.toNat ((i + QjV):Int).toNat) 1 col)]:List Qbb).length) * 40 <= 140737488355328) then
                bif decide (-9223372036854775808 <= (i + QjV) /\ (i + QjV) <= 9223372036854775807) then
                 bif decide (-9223372036854775808 <= (col + QjV) /\ (col + QjV) <= 9223372036854775807) then
                  QeW text r (out ++ [(Qbb.mk 1 (text.sub i.toNat ((i + QjV):Int).toNat) 1 col)]) (col + QjV) true (i + QjV)
                 else
                  .oof
                else
                 .oof
               else
                .oof
              else
               .oof
             else
              .oof
          else
           .oof
   else
    .oof
  else
   .brk (out,col,open_)
def Qoq (text:Str):LR Unit (List Qbb × Int × Int × Int):=
 bif decide (4096 < (text.b.length:Int)) then
  .oof
 else
  ll (QeW text 100000 [] 1 false 0) fun (Qdu,Qgs,Qma)=>
  bif Qma then
   bif decide ((Qdu.length + ([(Qbb.mk 3 (Str.mk []) 1 Qgs)]:List Qbb).length) * 40 <= 140737488355328) then
    .ret ((Qdu ++ [(Qbb.mk 3 (Str.mk []) 1 Qgs)]),0,0,0)
   else
    .oof
  else
   .oof
def Qod (p:Qag) (word:Str):LR Unit Bool:=
 bif (p.Err == 0) then
  bif decide (p.at_ < (p.l.length:Int)) then
   bif decide (0 <= p.at_ /\ p.at_ < (p.l.length:Int)) then
    bif decide (0 <= p.at_ /\ p.at_ < (p.l.length:Int)) then
     bif ((p.l.getD p.at_.toNat default).Kind == 1) then
      bif decide (0 <= p.at_ /\ p.at_ < (p.l.length:Int)) then
       .ret ((p.l.getD p.at_.toNat default).Text == word)
      else
       .oof
     else
      .oof
    else
     .oof
   else
    .oof
  else
   .ret false
 else
  .oof
def QlG (p:Qag) (w:Str):LR Unit Qag:=
 lb (Qod p w) fun rv1=>
 bif (!rv1) then
  .oof
 else
  bif decide (-9223372036854775808 <= (p.at_ + 1) /\ (p.at_ + 1) <= 9223372036854775807) then
   .ret (Qag.mk p.l (p.at_ + 1) p.Err)
  else
   .oof
def Qi1  : LR Unit (List Str):=
 .ret [(Str.mk [102,117,110,99]),(Str.mk [98,108,111,99,107]),(Str.mk [101,110,100]),(Str.mk [117,115,101]),(Str.mk [99,97,108,108]),(Str.mk [115,111,117,114,99,101]),(Str.mk [115,105,110,107]),(Str.mk [115,97,110,105,116,105,122,101]),(Str.mk [103,111,116,111]),(Str.mk [98,114,97,110,99,104]),(Str.mk [114,101,116,117,114,110])]
def Qe8 (s:Str):Nat -> Int -> LR Unit Bool
 | 0,i=>
  .brk ()
 | r + 1,i=>
  bif decide (0 <= i /\ i < (s.b.length:Int)) then
   lb (Qg6 ((s.b.getD i.toNat 0).toNat:Int)) fun rv20=>
   bif (!rv20) then
    .oof
   else
    bif decide (-9223372036854775808 <= (i + 1) /\ (i + 1) <= 9223372036854775807) then
     Qe8 s r (i + 1)
    else
     .oof
  else
   .oof
def Qff (s:Str) (k:List Str):Nat -> Int -> LR Unit Bool
 | 0,i=>
  .brk ()
 | r + 1,i=>
  bif decide (0 <= i /\ i < (k.length:Int)) then
   bif ((k.getD i.toNat default) == s) then
    .ret false
   else
    bif decide (-9223372036854775808 <= (i + 1) /\ (i + 1) <= 9223372036854775807) then
     Qff s k r (i + 1)
    else
     .oof
  else
   .oof
def QfV (s:Str):LR Unit Bool:=
 bif ((s.b.length:Int) == 0) then
  .ret false
 else
  bif decide (16 < (s.b.length:Int)) then
   .oof
  else
   bif decide (0 <= 0 /\ 0 < (s.b.length:Int)) then
    lb (Qg6 ((s.b.getD (0:Int).toNat 0).toNat:Int)) fun rv7=>
    bif (!rv7) then
     .oof
    else
     bif decide (0 <= 0 /\ 0 < (s.b.length:Int)) then
      bif (((s.b.getD (0:Int).toNat 0).toNat:Int) == 95) then
       .oof
      else
       ll (Qe8 s (((s.b.length:Int) - 0).toNat) 0) fun _=>
       lb Qi1 fun rv18=>
       ll (Qff s rv18 (((rv18.length:Int) - 0).toNat) 0) fun _=>
       .ret true
     else
      .oof
   else
    .oof
def Qf4 (p:Qag):LR Unit Bool:=
 bif (p.Err == 0) then
  bif decide (p.at_ < (p.l.length:Int)) then
   bif decide (0 <= p.at_ /\ p.at_ < (p.l.length:Int)) then
    bif decide (0 <= p.at_ /\ p.at_ < (p.l.length:Int)) then
     bif ((p.l.getD p.at_.toNat default).Kind == 1) then
      bif decide (0 <= p.at_ /\ p.at_ < (p.l.length:Int)) then
       lb (QfV ((p.l.getD p.at_.toNat default).Text)) fun rv11=>
       .ret rv11
      else
       .oof
     else
      .ret false
    else
     .oof
   else
    .oof
  else
   .oof
 else
  .oof
def Qhv (p:Qag):LR Unit (Str × Qag):=
 lb (Qf4 p) fun rv1=>
 bif (!rv1) then
  .oof
 else
  bif decide (-9223372036854775808 <= (p.at_ + 1) /\ (p.at_ + 1) <= 9223372036854775807) then
   bif decide (-9223372036854775808 <= ((p.at_ + 1) - 1) /\ ((p.at_ + 1) - 1) <= 9223372036854775807) then
    bif decide (0 <= ((p.at_ + 1) - 1) /\ ((p.at_ + 1) - 1) < (p.l.length:Int)) then
     bif decide (0 <= ((p.at_ + 1) - 1) /\ ((p.at_ + 1) - 1) < (p.l.length:Int)) then
      .ret ((p.l.getD (((p.at_ + 1) - 1):Int).toNat default).Text,(Qag.mk p.l (p.at_ + 1) p.Err))
     else
      .oof
    else
     .oof
   else
    .oof
  else
   .oof
def Qh6 (p:Qag) (k:Int):LR Unit Bool:=
 bif (p.Err == 0) then
  bif decide (p.at_ < (p.l.length:Int)) then
   bif decide (0 <= p.at_ /\ p.at_ < (p.l.length:Int)) then
    bif decide (0 <= p.at_ /\ p.at_ < (p.l.length:Int)) then
     .ret ((p.l.getD p.at_.toNat default).Kind == k)
    else
     .oof
   else
    .oof
  else
   .oof
 else
  .oof
def Qh8 (p:Qag):LR Unit Qag:=
 lb (Qh6 p 3) fun rv1=>
 bif (!rv1) then
  .oof
 else
  bif decide (-9223372036854775808 <= (p.at_ + 1) /\ (p.at_ + 1) <= 9223372036854775807) then
   .ret (Qag.mk p.l (p.at_ + 1) p.Err)
  else
   .oof
def Qfi (p:Qag):Nat -> Int -> LR Unit Bool
 | 0,i=>
  .brk ()
 | r + 1,i=>
  bif decide (0 <= i /\ i < (([(Str.mk [117,115,101]),(Str.mk [99,97,108,108]),(Str.mk [115,111,117,114,99,101]),(Str.mk [115,105,110,107]),(Str.mk [115,97,110,105,116,105,122,101]),(Str.mk [103,111,116,111]),(Str.mk [98,114,97,110,99,104]),(Str.mk [114,101,116,117,114,110])]:List Str).length:Int)) then
   lb (Qod p ([(Str.mk [117,115,101]),(Str.mk [99,97,108,108]),(Str.mk [115,111,117,114,99,101]),(Str.mk [115,105,110,107]),(Str.mk [115,97,110,105,116,105,122,101]),(Str.mk [103,111,116,111]),(Str.mk [98,114,97,110,99,104]),(Str.mk [114,101,116,117,114,110])].getD i.toNat default)) fun rv11=>
   bif rv11 then
    .ret true
   else
    bif decide (-9223372036854775808 <= (i + 1) /\ (i + 1) <= 9223372036854775807) then
     Qfi p r (i + 1)
    else
     .oof
  else
   .oof
def QjC (p:Qag):LR Unit Bool:=
 ll (Qfi p (((((8:Nat):Int):Int) - 0).toNat) 0) fun _=>
 lb (Qf4 p) fun rv6=>
 .ret rv6
def Qkg (p:Qag):Nat -> LR Unit (List Str × Qag)
 | 0=>
  .oof
 | r + 1=>
  lb (Qf4 p) fun rv1=>
  bif rv1 then
   .oof
  else
   .brk ()
def Qnp (p:Qag) (have_:Int):LR Unit (List Str × Qag):=
 ll (Qkg p 1) fun _=>
 .ret (([]:List Str),p)
def Qht (p:Qag):Nat -> Int -> Int -> List Str -> LR (Int × Int × List Str) (List Str × Qag)
 | 0,p1,p2,out=>
  .oof
 | r + 1,p1,p2,out=>
  lb (Qf4 (Qag.mk p.l p1 p2)) fun rv1=>
  bif rv1 then
   bif ((out.length:Int) == 4) then
    .oof
   else
    lb (Qhv (Qag.mk p.l p1 p2)) fun rv8=>
    bif decide ((out.length + ([rv8.1]:List Str).length) * 16 <= 140737488355328) then
     Qht p r rv8.2.at_ rv8.2.Err (out ++ [rv8.1])
    else
     .oof
  else
   .brk (p1,p2,out)
def QkZ (p:Qag):LR Unit (List Str × Qag):=
 ll (Qht p 100000 p.at_ p.Err []) fun (Qdu,Qgs,Qma)=>
 .ret (Qma,(Qag.mk p.l Qdu Qgs))
def QoP (p:Qag):LR Unit (Qc7 × Qag):=
 lb (Qf4 p) fun rv3=>
 bif (!rv3) then
  bif decide (0 <= p.at_ /\ p.at_ < (p.l.length:Int)) then
   bif decide (0 <= p.at_ /\ p.at_ < (p.l.length:Int)) then
    bif decide (-9223372036854775808 <= (p.at_ + 1) /\ (p.at_ + 1) <= 9223372036854775807) then
     bif ((p.l.getD p.at_.toNat default).Text == (Str.mk [117,115,101])) then
      lb (Qhv (Qag.mk p.l (p.at_ + 1) p.Err)) fun rv16=>
      lb (Qnp (Qag.mk p.l rv16.2.at_ rv16.2.Err) 1) fun rv26=>
      bif decide ((([rv16.1]:List Str).length + rv26.1.length) * 16 <= 140737488355328) then
       lb (Qh8 (Qag.mk p.l rv26.2.at_ rv26.2.Err)) fun rv41=>
       .ret ((Qc7.mk 2 (Str.mk []) ([rv16.1] ++ rv26.1) []),(Qag.mk p.l rv41.at_ rv41.Err))
      else
       .oof
     else
      bif ((p.l.getD p.at_.toNat default).Text == (Str.mk [99,97,108,108])) then
       .oof
      else
       bif ((p.l.getD p.at_.toNat default).Text == (Str.mk [115,111,117,114,99,101])) then
        .oof
       else
        bif ((p.l.getD p.at_.toNat default).Text == (Str.mk [115,105,110,107])) then
         .oof
        else
         bif ((p.l.getD p.at_.toNat default).Text == (Str.mk [115,97,110,105,116,105,122,101])) then
          .oof
         else
          bif ((p.l.getD p.at_.toNat default).Text == (Str.mk [103,111,116,111])) then
           .oof
          else
           bif ((p.l.getD p.at_.toNat default).Text == (Str.mk [98,114,97,110,99,104])) then
            .oof
           else
            bif ((p.l.getD p.at_.toNat default).Text == (Str.mk [114,101,116,117,114,110])) then
             lb (Qh8 (Qag.mk p.l (p.at_ + 1) p.Err)) fun rv61=>
             .ret ((Qc7.mk 9 (Str.mk []) [] []),(Qag.mk p.l rv61.at_ rv61.Err))
            else
             lb (Qhv (Qag.mk p.l (p.at_ + 1) p.Err)) fun rv67=>
             lb (Qh6 (Qag.mk p.l rv67.2.at_ rv67.2.Err) 2) fun rv73=>
             bif (!rv73) then
              .oof
             else
              bif decide (-9223372036854775808 <= (rv67.2.at_ + 1) /\ (rv67.2.at_ + 1) <= 9223372036854775807) then
               lb (QkZ (Qag.mk p.l (rv67.2.at_ + 1) rv67.2.Err)) fun rv81=>
               lb (Qh8 (Qag.mk p.l rv81.2.at_ rv81.2.Err)) fun rv90=>
               .ret ((Qc7.mk 1 rv67.1 rv81.1 []),(Qag.mk p.l rv90.at_ rv90.Err))
              else
               .oof
    else
     .oof
   else
    .oof
  else
   .oof
 else
  bif ((Str.mk []) == (Str.mk [117,115,101])) then
   lb (Qhv p) fun rv100=>
   lb (Qnp (Qag.mk p.l rv100.2.at_ rv100.2.Err) 1) fun rv110=>
   bif decide ((([rv100.1]:List Str).length + rv110.1.length) * 16 <= 140737488355328) then
    lb (Qh8 (Qag.mk p.l rv110.2.at_ rv110.2.Err)) fun rv125=>
    .ret ((Qc7.mk 2 (Str.mk []) ([rv100.1] ++ rv110.1) []),(Qag.mk p.l rv125.at_ rv125.Err))
   else
    .oof
  else
   bif ((Str.mk []) == (Str.mk [99,97,108,108])) then
    .oof
   else
    bif ((Str.mk []) == (Str.mk [115,111,117,114,99,101])) then
     .oof
    else
     bif ((Str.mk []) == (Str.mk [115,105,110,107])) then
      .oof
     else
      bif ((Str.mk []) == (Str.mk [115,97,110,105,116,105,122,101])) then
       .oof
      else
       bif ((Str.mk []) == (Str.mk [103,111,116,111])) then
        .oof
       else
        bif ((Str.mk []) == (Str.mk [98,114,97,110,99,104])) then
         .oof
        else
         bif ((Str.mk []) == (Str.mk [114,101,116,117,114,110])) then
          lb (Qh8 p) fun rv145=>
          .ret ((Qc7.mk 9 (Str.mk []) [] []),(Qag.mk p.l rv145.at_ rv145.Err))
         else
          lb (Qhv p) fun rv151=>
          lb (Qh6 (Qag.mk p.l rv151.2.at_ rv151.2.Err) 2) fun rv157=>
          bif (!rv157) then
           .oof
          else
           bif decide (-9223372036854775808 <= (rv151.2.at_ + 1) /\ (rv151.2.at_ + 1) <= 9223372036854775807) then
            lb (QkZ (Qag.mk p.l (rv151.2.at_ + 1) rv151.2.Err)) fun rv165=>
            lb (Qh8 (Qag.mk p.l rv165.2.at_ rv165.2.Err)) fun rv174=>
            .ret ((Qc7.mk 1 rv151.1 rv165.1 []),(Qag.mk p.l rv174.at_ rv174.Err))
           else
            .oof
def QhH (p:Qag):Nat -> Int -> Int -> List Qc7 -> LR (Int × Int × List Qc7) (Qeq × Qag)
 | 0,p1,p2,b1=>
  .oof
 | r + 1,p1,p2,b1=>
  lb (QjC (Qag.mk p.l p1 p2)) fun rv26=>
  bif rv26 then
   bif ((b1.length:Int) == 32) then
    .oof
   else
    lb (QoP (Qag.mk p.l p1 p2)) fun rv35=>
    bif decide ((b1.length + ([rv35.1]:List Qc7).length) * 72 <= 140737488355328) then
     QhH p r rv35.2.at_ rv35.2.Err (b1 ++ [rv35.1])
    else
     .oof
  else
   .brk (p1,p2,b1)
def Qnm (p:Qag):LR Unit (Qeq × Qag):=
 lb (QlG p (Str.mk [98,108,111,99,107])) fun rv3=>
 lb (Qhv (Qag.mk p.l rv3.at_ rv3.Err)) fun rv8=>
 lb (Qh8 (Qag.mk p.l rv8.2.at_ rv8.2.Err)) fun rv14=>
 lb (QjC (Qag.mk p.l rv14.at_ rv14.Err)) fun rv19=>
 bif (!rv19) then
  .oof
 else
  ll (QhH p 100000 rv14.at_ rv14.Err []) fun (Qdu,Qgs,Qma)=>
  .ret ((Qeq.mk rv8.1 Qma),(Qag.mk p.l Qdu Qgs))
def Qe4 (p:Qag):Nat -> Int -> Int -> List Qeq -> LR (Int × Int × List Qeq) (QfU × Qag)
 | 0,p1,p2,f1=>
  .oof
 | r + 1,p1,p2,f1=>
  lb (Qod (Qag.mk p.l p1 p2) (Str.mk [98,108,111,99,107])) fun rv26=>
  bif rv26 then
   bif ((f1.length:Int) == 16) then
    .oof
   else
    lb (Qnm (Qag.mk p.l p1 p2)) fun rv34=>
    bif decide ((f1.length + ([rv34.1]:List Qeq).length) * 40 <= 140737488355328) then
     Qe4 p r rv34.2.at_ rv34.2.Err (f1 ++ [rv34.1])
    else
     .oof
  else
   .brk (p1,p2,f1)
def Qi7 (p:Qag):LR Unit (QfU × Qag):=
 lb (QlG p (Str.mk [102,117,110,99])) fun rv3=>
 lb (Qhv (Qag.mk p.l rv3.at_ rv3.Err)) fun rv8=>
 lb (Qh8 (Qag.mk p.l rv8.2.at_ rv8.2.Err)) fun rv14=>
 lb (Qod (Qag.mk p.l rv14.at_ rv14.Err) (Str.mk [98,108,111,99,107])) fun rv19=>
 bif (!rv19) then
  .oof
 else
  ll (Qe4 p 100000 rv14.at_ rv14.Err []) fun (Qdu,Qgs,Qma)=>
  lb (QlG (Qag.mk p.l Qdu Qgs) (Str.mk [101,110,100])) fun rv31=>
  lb (Qh8 (Qag.mk p.l rv31.at_ rv31.Err)) fun rv36=>
  .ret ((QfU.mk rv8.1 Qma),(Qag.mk p.l rv36.at_ rv36.Err))
def Qhw  (p0:List Qbb):Nat -> Int -> Int -> List QfU -> LR (Int × Int × List QfU) (Qaz × Int × Int × Int)
 | 0,p1,p2,out0=>
  .oof
 | r + 1,p1,p2,out0=>
  lb (Qod (Qag.mk p0 p1 p2) (Str.mk [102,117,110,99])) fun rv23=>
  bif rv23 then
   bif ((out0.length:Int) == 8) then
    .oof
   else
    lb (Qi7 (Qag.mk p0 p1 p2)) fun rv31=>
    bif decide ((out0.length + ([rv31.1]:List QfU).length) * 40 <= 140737488355328) then
     Qhw p0 r rv31.2.at_ rv31.2.Err (out0 ++ [rv31.1])
    else
     .oof
  else
   .brk (p1,p2,out0)
def QmN (text:Str):LR Unit (Qaz × Int × Int × Int):=
 lb (Qoq text) fun rv3=>
 bif (rv3.2.2.2 != 0) then
  .oof
 else
  lb (Qod (Qag.mk rv3.1 0 0) (Str.mk [102,117,110,99])) fun rv16=>
  bif (!rv16) then
   .oof
  else
   ll (Qhw rv3.1 100000 0 0 []) fun (Qdu,Qgs,Qma)=>
   bif (Qgs == 0) then
    bif decide (Qdu < (rv3.1.length:Int)) then
     .oof
    else
     .ret ((Qaz.mk Qma),0,0,0)
   else
    .oof
def QfP (l:List Str) (s:Str):Nat -> Int -> LR Unit Int
 | 0,i=>
  .brk ()
 | r + 1,i=>
  bif decide (0 <= i /\ i < (l.length:Int)) then
   bif ((l.getD i.toNat default) == s) then
    .ret i
   else
    bif decide (-9223372036854775808 <= (i + 1) /\ (i + 1) <= 9223372036854775807) then
     QfP l s r (i + 1)
    else
     .oof
  else
   .oof
def Qiw (l:List Str) (s:Str):LR Unit Int:=
 ll (QfP l s (((l.length:Int) - 0).toNat) 0) fun _=>
 .ret (-1)
def QeD (l:List Str):Nat -> Int -> LR Unit Bool
 | 0,i=>
  .brk ()
 | r + 1,i=>
  bif decide (0 <= i /\ i < (l.length:Int)) then
   lb (QfV (l.getD i.toNat default)) fun rv6=>
   bif (!rv6) then
    .oof
   else
    bif decide (-9223372036854775808 <= (i + 1) /\ (i + 1) <= 9223372036854775807) then
     QeD l r (i + 1)
    else
     .oof
  else
   .oof
def Qiy (l:List Str) (a:Int) (b:Int):LR Unit Bool:=
 ll (QeD l (((l.length:Int) - 0).toNat) 0) fun _=>
 bif decide (a <= (l.length:Int)) then
  .ret (decide ((l.length:Int) <= b))
 else
  .oof
def QlI (s:Qc7):LR Unit Bool:=
 lb (QfV s.Def) fun rv2=>
 lb (Qiy s.Uses 0 4) fun rv5=>
 bif (!rv5) then
  .oof
 else
  lb (Qiy s.Targets 0 2) fun rv12=>
  bif (!rv12) then
   .oof
  else
   bif (s.Op == 1) then
    bif rv2 then
     .ret ((s.Targets.length:Int) == 0)
    else
     .oof
   else
    bif (s.Op == 2) then
     bif (s.Def == (Str.mk [])) then
      bif decide (1 <= (s.Uses.length:Int)) then
       .ret ((s.Targets.length:Int) == 0)
      else
       .oof
     else
      .oof
    else
     bif (s.Op == 5) then
      .oof
     else
      bif (s.Op == 3) then
       .oof
      else
       bif (s.Op == 7) then
        .oof
       else
        bif (s.Op == 4) then
         .oof
        else
         bif (s.Op == 6) then
          .oof
         else
          bif (s.Op == 8) then
           .oof
          else
           bif (s.Op == 9) then
            bif (s.Def == (Str.mk [])) then
             bif ((s.Uses.length:Int) == 0) then
              .ret ((s.Targets.length:Int) == 0)
             else
              .oof
            else
             .oof
           else
            .oof
def QfL  (b1:List Qc7):Nat -> Int -> LR Unit Bool
 | 0,j=>
  .brk ()
 | r + 1,j=>
  bif decide (0 <= j /\ j < (b1.length:Int)) then
   bif decide (0 <= j /\ j < (b1.length:Int)) then
    lb (QlI (b1.getD j.toNat default)) fun rv54=>
    bif (!rv54) then
     .oof
    else
     bif decide (-9223372036854775808 <= (j + 1) /\ (j + 1) <= 9223372036854775807) then
      QfL b1 r (j + 1)
     else
      .oof
   else
    .oof
  else
   .oof
def Qgk  (f1:List Qeq):Nat -> Int -> LR Unit Bool
 | 0,k=>
  .brk ()
 | r + 1,k=>
  bif decide (0 <= k /\ k < (f1.length:Int)) then
   bif decide (0 <= k /\ k < (f1.length:Int)) then
    lb (QfV ((f1.getD k.toNat default).Name)) fun rv31=>
    bif (!rv31) then
     .oof
    else
     bif decide ((((f1.getD k.toNat default).Stmts).length:Int) < 1) then
      .oof
     else
      bif decide (32 < (((f1.getD k.toNat default).Stmts).length:Int)) then
       .oof
      else
       ll (QfL ((f1.getD k.toNat default).Stmts) ((((((f1.getD k.toNat default).Stmts).length:Int):Int) - 0).toNat) 0) fun _=>
       bif decide (-9223372036854775808 <= (k + 1) /\ (k + 1) <= 9223372036854775807) then
        Qgk f1 r (k + 1)
       else
        .oof
   else
    .oof
  else
   .oof
def Qf0 (p:Qaz):Nat -> Int -> LR Unit Bool
 | 0,i=>
  .brk ()
 | r + 1,i=>
  bif decide (0 <= i /\ i < (p.Funcs.length:Int)) then
   bif decide (0 <= i /\ i < (p.Funcs.length:Int)) then
    lb (QfV ((p.Funcs.getD i.toNat default).Name)) fun rv13=>
    bif (!rv13) then
     .oof
    else
     bif decide ((((p.Funcs.getD i.toNat default).Blocks).length:Int) < 1) then
      .oof
     else
      bif decide (16 < (((p.Funcs.getD i.toNat default).Blocks).length:Int)) then
       .oof
      else
       ll (Qgk ((p.Funcs.getD i.toNat default).Blocks) ((((((p.Funcs.getD i.toNat default).Blocks).length:Int):Int) - 0).toNat) 0) fun _=>
       bif decide (-9223372036854775808 <= (i + 1) /\ (i + 1) <= 9223372036854775807) then
        Qf0 p r (i + 1)
       else
        .oof
   else
    .oof
  else
   .oof
def QjM (p:Qaz):LR Unit Bool:=
 bif decide ((p.Funcs.length:Int) < 1) then
  .oof
 else
  bif decide (8 < (p.Funcs.length:Int)) then
   .oof
  else
   ll (Qf0 p (((p.Funcs.length:Int) - 0).toNat) 0) fun _=>
   .ret true
def Qby  (names:List Str):Nat -> List Str -> Int -> LR (List Str) (List Str)
 | 0,out,n=>
  .brk out
 | r + 1,out,n=>
  bif decide (0 <= n /\ n < (names.length:Int)) then
   lb (Qiw out (names.getD n.toNat default)) fun rv49=>
   bif decide (rv49 < 0) then
    bif decide (0 <= n /\ n < (names.length:Int)) then
     bif decide ((out.length + ([(names.getD n.toNat default)]:List Str).length) * 16 <= 140737488355328) then
      bif decide (-9223372036854775808 <= (n + 1) /\ (n + 1) <= 9223372036854775807) then
       Qby names r (out ++ [(names.getD n.toNat default)]) (n + 1)
      else
       .oof
     else
      .oof
    else
     .oof
   else
    bif decide (-9223372036854775808 <= (n + 1) /\ (n + 1) <= 9223372036854775807) then
     Qby names r out (n + 1)
    else
     .oof
  else
   .oof
def Qc1  (l:List Qc7):Nat -> List Str -> Int -> LR (List Str) (List Str)
 | 0,out,j=>
  .brk out
 | r + 1,out,j=>
  bif decide (0 <= j /\ j < (l.length:Int)) then
   bif decide (0 <= j /\ j < (l.length:Int)) then
    bif decide (0 <= j /\ j < (l.length:Int)) then
     bif ((l.getD j.toNat default).Def != (Str.mk [])) then
      bif decide (0 <= j /\ j < (l.length:Int)) then
       bif decide (0 <= j /\ j < (l.length:Int)) then
        bif decide ((([(l.getD j.toNat default).Def]:List Str).length + ((l.getD j.toNat default).Uses).length) * 16 <= 140737488355328) then
         ll (Qby ([(l.getD j.toNat default).Def] ++ (l.getD j.toNat default).Uses) ((((([(l.getD j.toNat default).Def] ++ (l.getD j.toNat default).Uses).length:Int):Int) - 0).toNat) out 0) fun Qur=>
         bif decide (-9223372036854775808 <= (j + 1) /\ (j + 1) <= 9223372036854775807) then
          Qc1 l r Qur (j + 1)
         else
          .oof
        else
         .oof
       else
        .oof
      else
       .oof
     else
      ll (Qby ((l.getD j.toNat default).Uses) ((((((l.getD j.toNat default).Uses).length:Int):Int) - 0).toNat) out 0) fun Qur=>
      bif decide (-9223372036854775808 <= (j + 1) /\ (j + 1) <= 9223372036854775807) then
       Qc1 l r Qur (j + 1)
      else
       .oof
    else
     .oof
   else
    .oof
  else
   .oof
def QeA (p:Qaz) (i:Int):Nat -> List Str -> Int -> LR (List Str) (List Str)
 | 0,out,k=>
  .oof
 | r + 1,out,k=>
  bif decide (0 <= i /\ i < (p.Funcs.length:Int)) then
   bif decide (0 <= i /\ i < (p.Funcs.length:Int)) then
    bif decide (k < (((p.Funcs.getD i.toNat default).Blocks).length:Int)) then
     bif decide (0 <= i /\ i < (p.Funcs.length:Int)) then
      bif decide (0 <= k /\ k < (((p.Funcs.getD i.toNat default).Blocks).length:Int)) then
       bif decide (0 <= k /\ k < (((p.Funcs.getD i.toNat default).Blocks).length:Int)) then
        ll (Qc1 ((((p.Funcs.getD i.toNat default).Blocks).getD k.toNat default).Stmts) ((((((((p.Funcs.getD i.toNat default).Blocks).getD k.toNat default).Stmts).length:Int):Int) - 0).toNat) out 0) fun QjV=>
        bif decide (-9223372036854775808 <= (k + 1) /\ (k + 1) <= 9223372036854775807) then
         QeA p i r QjV (k + 1)
        else
         .oof
       else
        .oof
      else
       .oof
     else
      .oof
    else
     .brk out
   else
    .oof
  else
   .oof
def QdT (p:Qaz):Nat -> List Str -> Int -> LR (List Str) (List Str)
 | 0,out,i=>
  .brk out
 | r + 1,out,i=>
  ll (QeA p i 100000 out 0) fun QjW=>
  bif decide (-9223372036854775808 <= (i + 1) /\ (i + 1) <= 9223372036854775807) then
   QdT p r QjW (i + 1)
  else
   .oof
def Qfh (p:Qaz):LR Unit (List Str):=
 lb (QjM p) fun rv2=>
 bif (!rv2) then
  .oof
 else
  ll (QdT p (((p.Funcs.length:Int) - 0).toNat) [] 0) fun Qdu=>
  .ret Qdu
def Qd7 (l:List Str):Nat -> Int -> LR Unit Int
 | 0,i=>
  .brk ()
 | r + 1,i=>
  bif decide (0 <= i /\ i <= (l.length:Int)) then
   bif decide (0 <= i /\ i < (l.length:Int)) then
    lb (Qiw ((l.take (i.toNat)).drop 0) (l.getD i.toNat default)) fun rv12=>
    bif decide (0 <= rv12) then
     .oof
    else
     bif decide (-9223372036854775808 <= (i + 1) /\ (i + 1) <= 9223372036854775807) then
      Qd7 l r (i + 1)
     else
      .oof
   else
    .oof
  else
   .oof
def Qhl (l:List Str):LR Unit Int:=
 ll (Qd7 l (((l.length:Int) - 0).toNat) 0) fun _=>
 .ret (-1)
def QdQ (p:Qaz):Nat -> List Str -> Int -> LR (List Str) (List Str)
 | 0,out,i=>
  .brk out
 | r + 1,out,i=>
  bif decide (0 <= i /\ i < (p.Funcs.length:Int)) then
   bif decide (0 <= i /\ i < (p.Funcs.length:Int)) then
    bif decide ((out.length + ([(p.Funcs.getD i.toNat default).Name]:List Str).length) * 16 <= 140737488355328) then
     bif decide (-9223372036854775808 <= (i + 1) /\ (i + 1) <= 9223372036854775807) then
      QdQ p r (out ++ [(p.Funcs.getD i.toNat default).Name]) (i + 1)
     else
      .oof
    else
     .oof
   else
    .oof
  else
   .oof
def Qig (p:Qaz):LR Unit (List Str):=
 ll (QdQ p (((p.Funcs.length:Int) - 0).toNat) [] 0) fun Qdu=>
 .ret Qdu
def Qdn (f:QfU):Nat -> List Str -> Int -> LR (List Str) (List Str)
 | 0,out,k=>
  .brk out
 | r + 1,out,k=>
  bif decide (0 <= k /\ k < (f.Blocks.length:Int)) then
   bif decide (0 <= k /\ k < (f.Blocks.length:Int)) then
    bif decide ((out.length + ([(f.Blocks.getD k.toNat default).Name]:List Str).length) * 16 <= 140737488355328) then
     bif decide (-9223372036854775808 <= (k + 1) /\ (k + 1) <= 9223372036854775807) then
      Qdn f r (out ++ [(f.Blocks.getD k.toNat default).Name]) (k + 1)
     else
      .oof
    else
     .oof
   else
    .oof
  else
   .oof
def QfE (f:QfU):LR Unit (List Str):=
 ll (Qdn f (((f.Blocks.length:Int) - 0).toNat) [] 0) fun Qdu=>
 .ret Qdu
def Qhi (op:Int):LR Unit Bool:=
 bif (op == 7) then
  .oof
 else
  bif (op == 8) then
   .oof
  else
   .ret (op == 9)
def Qhy (s:Qc7):Nat -> LR Unit Int
 | 0=>
  .oof
 | r + 1=>
  bif decide (0 < (s.Targets.length:Int)) then
   .oof
  else
   .brk ()
def Qkc (p:Qaz) (f:QfU) (s:Qc7) (last:Bool):LR Unit Int:=
 lb (Qhi s.Op) fun rv4=>
 bif (!(rv4 == last)) then
  .oof
 else
  lb (QfE f) fun rv10=>
  bif (s.Op == 3) then
   .oof
  else
   ll (Qhy s 1) fun _=>
   .ret 0
def Qga  (l:List Qc7):Nat -> Int -> Int -> Int -> LR (Int × Int) (Int × Int)
 | 0,nodes,edges,j=>
  .brk (nodes,edges)
 | r + 1,nodes,edges,j=>
  bif decide (-9223372036854775808 <= (nodes + 1) /\ (nodes + 1) <= 9223372036854775807) then
   bif decide (0 <= j /\ j < (l.length:Int)) then
    bif decide (0 <= j /\ j < (l.length:Int)) then
     bif ((l.getD j.toNat default).Op == 3) then
      .oof
     else
      bif ((l.getD j.toNat default).Op == 8) then
       .oof
      else
       bif decide (-9223372036854775808 <= (edges + 1) /\ (edges + 1) <= 9223372036854775807) then
        bif decide (-9223372036854775808 <= (j + 1) /\ (j + 1) <= 9223372036854775807) then
         Qga l r (nodes + 1) (edges + 1) (j + 1)
        else
         .oof
       else
        .oof
    else
     .oof
   else
    .oof
  else
   .oof
def Qhz (p:Qaz) (i:Int):Nat -> Int -> Int -> Int -> LR (Int × Int) (Int × Int)
 | 0,nodes,edges,k=>
  .oof
 | r + 1,nodes,edges,k=>
  bif decide (0 <= i /\ i < (p.Funcs.length:Int)) then
   bif decide (0 <= i /\ i < (p.Funcs.length:Int)) then
    bif decide (k < (((p.Funcs.getD i.toNat default).Blocks).length:Int)) then
     bif decide (0 <= i /\ i < (p.Funcs.length:Int)) then
      bif decide (0 <= k /\ k < (((p.Funcs.getD i.toNat default).Blocks).length:Int)) then
       bif decide (0 <= k /\ k < (((p.Funcs.getD i.toNat default).Blocks).length:Int)) then
        ll (Qga ((((p.Funcs.getD i.toNat default).Blocks).getD k.toNat default).Stmts) ((((((((p.Funcs.getD i.toNat default).Blocks).getD k.toNat default).Stmts).length:Int):Int) - 0).toNat) nodes edges 0) fun (QjV,QrM)=>
        bif decide (-9223372036854775808 <= (k + 1) /\ (k + 1) <= 9223372036854775807) then
         Qhz p i r QjV QrM (k + 1)
        else
         .oof
       else
        .oof
      else
       .oof
     else
      .oof
    else
     .brk (nodes,edges)
   else
    .oof
  else
   .oof
def QfQ (p:Qaz):Nat -> Int -> Int -> Int -> LR (Int × Int) (Int × Int)
 | 0,nodes,edges,i=>
  .brk (nodes,edges)
 | r + 1,nodes,edges,i=>
  bif decide (-9223372036854775808 <= (nodes + 2) /\ (nodes + 2) <= 9223372036854775807) then
   bif decide (-9223372036854775808 <= (edges + 1) /\ (edges + 1) <= 9223372036854775807) then
    ll (Qhz p i 100000 (nodes + 2) (edges + 1) 0) fun (QjW,Qoj)=>
    bif decide (-9223372036854775808 <= (i + 1) /\ (i + 1) <= 9223372036854775807) then
     QfQ p r QjW Qoj (i + 1)
    else
     .oof
   else
    .oof
  else
   .oof
def QmP (p:Qaz):LR Unit (Int × Int):=
 lb (QjM p) fun rv2=>
 bif (!rv2) then
  .oof
 else
  ll (QfQ p (((p.Funcs.length:Int) - 0).toNat) 0 0 0) fun (Qdu,Qgs)=>
  .ret (Qdu,Qgs)
def Qf9 (p:Qaz) (f0:Str) (f1:List Qeq) (l:List Qc7):Nat -> Int -> LR Unit (Qbg × Int)
 | 0,j=>
  .brk ()
 | r + 1,j=>
  bif decide (0 <= j /\ j < (l.length:Int)) then
   bif decide (0 <= j /\ j < (l.length:Int)) then
    bif decide (-9223372036854775808 <= ((l.length:Int) - 1) /\ ((l.length:Int) - 1) <= 9223372036854775807) then
     lb (Qkc p (QfU.mk f0 f1) (l.getD j.toNat default) (j == ((l.length:Int) - 1))) fun rv63=>
     bif (rv63 != 0) then
      .oof
     else
      bif decide (-9223372036854775808 <= (j + 1) /\ (j + 1) <= 9223372036854775807) then
       Qf9 p f0 f1 l r (j + 1)
      else
       .oof
    else
     .oof
   else
    .oof
  else
   .oof
def Qgd (p:Qaz) (f0:Str) (f1:List Qeq):Nat -> Int -> LR Unit (Qbg × Int)
 | 0,k=>
  .brk ()
 | r + 1,k=>
  bif decide (0 <= k /\ k < (f1.length:Int)) then
   bif decide (0 <= k /\ k < (f1.length:Int)) then
    ll (Qf9 p f0 f1 ((f1.getD k.toNat default).Stmts) ((((((f1.getD k.toNat default).Stmts).length:Int):Int) - 0).toNat) 0) fun _=>
    bif decide (-9223372036854775808 <= (k + 1) /\ (k + 1) <= 9223372036854775807) then
     Qgd p f0 f1 r (k + 1)
    else
     .oof
   else
    .oof
  else
   .oof
def Qf3 (p:Qaz):Nat -> Int -> LR Unit (Qbg × Int)
 | 0,i=>
  .brk ()
 | r + 1,i=>
  bif decide (0 <= i /\ i < (p.Funcs.length:Int)) then
   bif decide (0 <= i /\ i < (p.Funcs.length:Int)) then
    lb (QfE (p.Funcs.getD i.toNat default)) fun rv32=>
    lb (Qhl rv32) fun rv39=>
    bif decide (0 <= rv39) then
     .oof
    else
     ll (Qgd p ((p.Funcs.getD i.toNat default).Name) ((p.Funcs.getD i.toNat default).Blocks) ((((((p.Funcs.getD i.toNat default).Blocks).length:Int):Int) - 0).toNat) 0) fun _=>
     bif decide (-9223372036854775808 <= (i + 1) /\ (i + 1) <= 9223372036854775807) then
      Qf3 p r (i + 1)
     else
      .oof
   else
    .oof
  else
   .oof
def Qjq (p:Qaz):LR Unit (Qbg × Int):=
 lb (QjM p) fun rv3=>
 bif (!rv3) then
  .oof
 else
  lb (Qig p) fun rv11=>
  lb (Qhl rv11) fun rv18=>
  bif decide (0 <= rv18) then
   .oof
  else
   ll (Qf3 p (((p.Funcs.length:Int) - 0).toNat) 0) fun _=>
   lb (QmP p) fun rv24=>
   lb (Qfh p) fun rv30=>
   bif decide (64 < (rv30.length:Int)) then
    .oof
   else
    bif decide (256 < rv24.1) then
     .oof
    else
     bif decide (1024 < rv24.2) then
      .oof
     else
      .ret ((Qbg.mk 0 0 0 0),0)
def Qg4  (i:Int) (k:Int) (l:List Qc7):Nat -> List Qbg -> Int -> LR (List Qbg) (List Qbg)
 | 0,out,j=>
  .brk out
 | r + 1,out,j=>
  bif decide ((out.length + ([(Qbg.mk 3 i k j)]:List Qbg).length) * 32 <= 140737488355328) then
   bif decide (0 <= j /\ j < (l.length:Int)) then
    bif decide (0 <= j /\ j < (l.length:Int)) then
     bif ((l.getD j.toNat default).Op == 3) then
      .oof
     else
      bif decide (-9223372036854775808 <= (j + 1) /\ (j + 1) <= 9223372036854775807) then
       Qg4 i k l r (out ++ [(Qbg.mk 3 i k j)]) (j + 1)
      else
       .oof
    else
     .oof
   else
    .oof
  else
   .oof
def Qim (p:Qaz) (i:Int):Nat -> List Qbg -> Int -> LR (List Qbg) (List Qbg)
 | 0,out,k=>
  .oof
 | r + 1,out,k=>
  bif decide (0 <= i /\ i < (p.Funcs.length:Int)) then
   bif decide (0 <= i /\ i < (p.Funcs.length:Int)) then
    bif decide (k < (((p.Funcs.getD i.toNat default).Blocks).length:Int)) then
     bif decide (0 <= i /\ i < (p.Funcs.length:Int)) then
      bif decide (0 <= k /\ k < (((p.Funcs.getD i.toNat default).Blocks).length:Int)) then
       bif decide (0 <= k /\ k < (((p.Funcs.getD i.toNat default).Blocks).length:Int)) then
        ll (Qg4 i k ((((p.Funcs.getD i.toNat default).Blocks).getD k.toNat default).Stmts) ((((((((p.Funcs.getD i.toNat default).Blocks).getD k.toNat default).Stmts).length:Int):Int) - 0).toNat) out 0) fun QjV=>
        bif decide (-9223372036854775808 <= (k + 1) /\ (k + 1) <= 9223372036854775807) then
         Qim p i r QjV (k + 1)
        else
         .oof
       else
        .oof
      else
       .oof
     else
      .oof
    else
     .brk out
   else
    .oof
  else
   .oof
def Qg9 (p:Qaz):Nat -> List Qbg -> Int -> LR (List Qbg) (List Qbg)
 | 0,out,i=>
  .brk out
 | r + 1,out,i=>
  bif decide ((out.length + ([(Qbg.mk 1 i (-1) (-1))]:List Qbg).length) * 32 <= 140737488355328) then
   ll (Qim p i 100000 (out ++ [(Qbg.mk 1 i (-1) (-1))]) 0) fun QjW=>
   bif decide ((QjW.length + ([(Qbg.mk 2 i (-1) (-1))]:List Qbg).length) * 32 <= 140737488355328) then
    bif decide (-9223372036854775808 <= (i + 1) /\ (i + 1) <= 9223372036854775807) then
     Qg9 p r (QjW ++ [(Qbg.mk 2 i (-1) (-1))]) (i + 1)
    else
     .oof
   else
    .oof
  else
   .oof
def Qld (p:Qaz):LR Unit (List Qbg):=
 lb (Qjq p) fun rv2=>
 bif (rv2.2 != 0) then
  .oof
 else
  ll (Qg9 p (((p.Funcs.length:Int) - 0).toNat) [] 0) fun Qdu=>
  .ret Qdu
def Qir (s:Qc7):LR Unit Bool:=
 bif (s.Op == 1) then
  .ret true
 else
  bif (s.Op == 4) then
   .oof
  else
   .ret (s.Op == 6)
def Qgi (l:List Qbg) (n:Qbg):Nat -> Int -> LR Unit Int
 | 0,i=>
  .oof
 | r + 1,i=>
  bif decide (0 <= i /\ i < (l.length:Int)) then
   bif decide (0 <= i /\ i < (l.length:Int)) then
    bif ([(l.getD i.toNat default).Kind,(l.getD i.toNat default).Func,(l.getD i.toNat default).Block,(l.getD i.toNat default).Stmt] == [n.Kind,n.Func,n.Block,n.Stmt]) then
     .ret i
    else
     bif decide (-9223372036854775808 <= (i + 1) /\ (i + 1) <= 9223372036854775807) then
      Qgi l n r (i + 1)
     else
      .oof
   else
    .oof
  else
   .oof
def Qip (l:List Qbg) (n:Qbg):LR Unit Int:=
 ll (Qgi l n (((l.length:Int) - 0).toNat) 0) fun _=>
 .oof
def QoK (p:Qaz) (n:Qbg):LR Unit Int:=
 lb (Qld p) fun rv4=>
 lb (Qip rv4 n) fun rv10=>
 .ret rv10
def QmY (p:Qaz) (n:Qbg):LR Unit (Qc7 × Bool):=
 lb (QoK p n) fun rv4=>
 bif decide (rv4 < 0) then
  .oof
 else
  bif (n.Kind != 3) then
   bif (n.Kind != 4) then
    .ret ((Qc7.mk 0 (Str.mk []) [] []),false)
   else
    .oof
  else
   bif decide (0 <= n.Func /\ n.Func < (p.Funcs.length:Int)) then
    bif decide (0 <= n.Func /\ n.Func < (p.Funcs.length:Int)) then
     bif decide (0 <= n.Block /\ n.Block < (((p.Funcs.getD n.Func.toNat default).Blocks).length:Int)) then
      bif decide (0 <= n.Block /\ n.Block < (((p.Funcs.getD n.Func.toNat default).Blocks).length:Int)) then
       bif decide (0 <= n.Stmt /\ n.Stmt < (((((p.Funcs.getD n.Func.toNat default).Blocks).getD n.Block.toNat default).Stmts).length:Int)) then
        bif decide (0 <= n.Stmt /\ n.Stmt < (((((p.Funcs.getD n.Func.toNat default).Blocks).getD n.Block.toNat default).Stmts).length:Int)) then
         .ret ((((((p.Funcs.getD n.Func.toNat default).Blocks).getD n.Block.toNat default).Stmts).getD n.Stmt.toNat default),true)
        else
         .oof
       else
        .oof
      else
       .oof
     else
      .oof
    else
     .oof
   else
    .oof
def Qec (p:Qaz) (vars:List Str) (l:List Qbg):Nat -> List Qft -> Int -> LR (List Qft) (List Qft × Int)
 | 0,out,i=>
  .brk out
 | r + 1,out,i=>
  bif decide (0 <= i /\ i < (l.length:Int)) then
   bif decide (0 <= i /\ i < (l.length:Int)) then
    lb (QmY p (l.getD i.toNat default)) fun rv42=>
    bif rv42.2 then
     bif decide (0 <= i /\ i < (l.length:Int)) then
      bif ((l.getD i.toNat default).Kind == 3) then
       lb (Qir rv42.1) fun rv60=>
       bif rv60 then
        lb (Qiw vars rv42.1.Def) fun rv65=>
        bif decide ((out.length + ([(Qft.mk i rv65)]:List Qft).length) * 16 <= 140737488355328) then
         bif decide (-9223372036854775808 <= (i + 1) /\ (i + 1) <= 9223372036854775807) then
          Qec p vars l r (out ++ [(Qft.mk i rv65)]) (i + 1)
         else
          .oof
        else
         .oof
       else
        bif decide (-9223372036854775808 <= (i + 1) /\ (i + 1) <= 9223372036854775807) then
         Qec p vars l r out (i + 1)
        else
         .oof
      else
       .oof
     else
      .oof
    else
     bif decide (-9223372036854775808 <= (i + 1) /\ (i + 1) <= 9223372036854775807) then
      Qec p vars l r out (i + 1)
     else
      .oof
   else
    .oof
  else
   .oof
def QmU (p:Qaz) (kind:Int):LR Unit (List Qft × Int):=
 lb (Qjq p) fun rv2=>
 bif (rv2.2 != 0) then
  .oof
 else
  bif decide (kind < 1) then
   .oof
  else
   bif decide (4 < kind) then
    .oof
   else
    lb (Qfh p) fun rv18=>
    bif (kind != 1) then
     .oof
    else
     lb (Qld p) fun rv28=>
     ll (Qec p rv18 rv28 (((rv28.length:Int) - 0).toNat) [] 0) fun QjW=>
     bif decide (256 < (QjW.length:Int)) then
      .oof
     else
      .ret (QjW,0)
def Qhn (l:List Qbg) (f:Int) (b:Int) (s:Int):LR Unit Int:=
 lb (Qip l (Qbg.mk 3 f b s)) fun rv1=>
 .ret rv1
def Qon (l:List Qbg) (f:Int):LR Unit (Int × Int):=
 lb (Qip l (Qbg.mk 1 f (-1) (-1))) fun rv1=>
 lb (Qip l (Qbg.mk 2 f (-1) (-1))) fun rv5=>
 .ret (rv1,rv5)
def Qdk (l:List Qbg):Nat -> Int -> LR Unit (List Int)
 | 0,k=>
  .brk ()
 | r + 1,k=>
  bif decide (0 <= k /\ k < (l.length:Int)) then
   bif decide (0 <= k /\ k < (l.length:Int)) then
    bif ((l.getD k.toNat default).Kind == 4) then
     .oof
    else
     bif decide (-9223372036854775808 <= (k + 1) /\ (k + 1) <= 9223372036854775807) then
      Qdk l r (k + 1)
     else
      .oof
   else
    .oof
  else
   .oof
def QhD (p:Qaz) (l:List Qbg) (i:Int):LR Unit (List Int):=
 bif decide (0 <= i /\ i < (l.length:Int)) then
  bif decide (0 <= i /\ i < (l.length:Int)) then
   bif ((l.getD i.toNat default).Kind == 1) then
    lb (Qhn l ((l.getD i.toNat default).Func) 0 0) fun rv9=>
    .ret [rv9]
   else
    bif ((l.getD i.toNat default).Kind == 2) then
     ll (Qdk l (((l.length:Int) - 0).toNat) 0) fun _=>
     .ret ([]:List Int)
    else
     bif decide (0 <= (l.getD i.toNat default).Func /\ (l.getD i.toNat default).Func < (p.Funcs.length:Int)) then
      bif decide (0 <= (l.getD i.toNat default).Func /\ (l.getD i.toNat default).Func < (p.Funcs.length:Int)) then
       bif decide (0 <= (l.getD i.toNat default).Block /\ (l.getD i.toNat default).Block < (((p.Funcs.getD ((l.getD i.toNat default).Func:Int).toNat default).Blocks).length:Int)) then
        bif decide (0 <= (l.getD i.toNat default).Block /\ (l.getD i.toNat default).Block < (((p.Funcs.getD ((l.getD i.toNat default).Func:Int).toNat default).Blocks).length:Int)) then
         bif decide (0 <= (l.getD i.toNat default).Stmt /\ (l.getD i.toNat default).Stmt < (((((p.Funcs.getD ((l.getD i.toNat default).Func:Int).toNat default).Blocks).getD ((l.getD i.toNat default).Block:Int).toNat default).Stmts).length:Int)) then
          bif decide (0 <= (l.getD i.toNat default).Stmt /\ (l.getD i.toNat default).Stmt < (((((p.Funcs.getD ((l.getD i.toNat default).Func:Int).toNat default).Blocks).getD ((l.getD i.toNat default).Block:Int).toNat default).Stmts).length:Int)) then
           lb (Qon l ((l.getD i.toNat default).Func)) fun rv39=>
           bif ((((((p.Funcs.getD ((l.getD i.toNat default).Func:Int).toNat default).Blocks).getD ((l.getD i.toNat default).Block:Int).toNat default).Stmts).getD ((l.getD i.toNat default).Stmt:Int).toNat default).Op == 9) then
            .ret [rv39.2]
           else
            bif ((((((p.Funcs.getD ((l.getD i.toNat default).Func:Int).toNat default).Blocks).getD ((l.getD i.toNat default).Block:Int).toNat default).Stmts).getD ((l.getD i.toNat default).Stmt:Int).toNat default).Op == 3) then
             .oof
            else
             bif ((((((p.Funcs.getD ((l.getD i.toNat default).Func:Int).toNat default).Blocks).getD ((l.getD i.toNat default).Block:Int).toNat default).Stmts).getD ((l.getD i.toNat default).Stmt:Int).toNat default).Op == 7) then
              .oof
             else
              bif ((((((p.Funcs.getD ((l.getD i.toNat default).Func:Int).toNat default).Blocks).getD ((l.getD i.toNat default).Block:Int).toNat default).Stmts).getD ((l.getD i.toNat default).Stmt:Int).toNat default).Op == 8) then
               .oof
              else
               bif decide (-9223372036854775808 <= ((l.getD i.toNat default).Stmt + 1) /\ ((l.getD i.toNat default).Stmt + 1) <= 9223372036854775807) then
                lb (Qhn l ((l.getD i.toNat default).Func) ((l.getD i.toNat default).Block) ((l.getD i.toNat default).Stmt + 1)) fun rv56=>
                .ret [rv56]
               else
                .oof
          else
           .oof
         else
          .oof
        else
         .oof
       else
        .oof
      else
       .oof
     else
      .oof
  else
   .oof
 else
  .oof
def Qbp (l:List Int) (n:Int):Nat -> Int -> Int
 | 0,i=>
  i
 | r + 1,i=>
  bif decide ((l.getD i.toNat 0) < n) then
   Qbp l n r (i + 1)
  else
   i
def QcO (l:List Int) (n:Int):List Int:=
 match Qbp l n (((l.length:Int) - 0).toNat) 0 with
 | Qdu=>
  bif decide (Qdu < (l.length:Int)) then
   bif ((l.getD Qdu.toNat 0) == n) then
    l
   else
    ((((l.take (Qdu.toNat)).drop 0) ++ [n]) ++ ((l.take l.length).drop (Qdu.toNat)))
  else
   ((((l.take (Qdu.toNat)).drop 0) ++ [n]) ++ ((l.take l.length).drop (Qdu.toNat)))
def QfR  (i:Int) (s:List Int):Nat -> List (List Int) -> List (List Int) -> Int -> LR (List (List Int) × List (List Int)) (Qk9 × Int)
 | 0,g1,g2,k=>
  .brk (g1,g2)
 | r + 1,g1,g2,k=>
  bif decide (0 <= i /\ i < (g1.length:Int)) then
   bif decide (0 <= i /\ i < (g1.length:Int)) then
    bif decide (0 <= k /\ k < (s.length:Int)) then
     bif decide ((g1.getD i.toNat []).length <= 1000000000) then
      lv (QcO (g1.getD i.toNat []) (s.getD k.toNat 0)) fun rv49=>
      bif decide (0 <= i /\ i < (g1.length:Int)) then
       bif decide (0 <= k /\ k < (s.length:Int)) then
        bif decide (0 <= k /\ k < (s.length:Int)) then
         bif decide (0 <= (s.getD k.toNat 0) /\ (s.getD k.toNat 0) < (g2.length:Int)) then
          bif decide (0 <= (s.getD k.toNat 0) /\ (s.getD k.toNat 0) < (g2.length:Int)) then
           bif decide ((g2.getD ((s.getD k.toNat 0):Int).toNat []).length <= 1000000000) then
            lv (QcO (g2.getD ((s.getD k.toNat 0):Int).toNat []) i) fun rv64=>
            bif decide (0 <= (s.getD k.toNat 0) /\ (s.getD k.toNat 0) < (g2.length:Int)) then
             bif decide (-9223372036854775808 <= (k + 1) /\ (k + 1) <= 9223372036854775807) then
              QfR i s r (g1.set i.toNat rv49) (g2.set ((s.getD k.toNat 0):Int).toNat rv64) (k + 1)
             else
              .oof
            else
             .oof
           else
            .oof
          else
           .oof
         else
          .oof
        else
         .oof
       else
        .oof
      else
       .oof
     else
      .oof
    else
     .oof
   else
    .oof
  else
   .oof
def Qgc (p:Qaz) (l:List Qbg):Nat -> List (List Int) -> List (List Int) -> Int -> LR (List (List Int) × List (List Int)) (Qk9 × Int)
 | 0,g1,g2,i=>
  .brk (g1,g2)
 | r + 1,g1,g2,i=>
  lb (QhD p l i) fun rv34=>
  ll (QfR i rv34 (((rv34.length:Int) - 0).toNat) g1 g2 0) fun (QjW,Qoj)=>
  bif decide (-9223372036854775808 <= (i + 1) /\ (i + 1) <= 9223372036854775807) then
   Qgc p l r QjW Qoj (i + 1)
  else
   .oof
def Qm6 (p:Qaz):LR Unit (Qk9 × Int):=
 lb (Qjq p) fun rv3=>
 bif (rv3.2 != 0) then
  .oof
 else
  lb (Qld p) fun rv15=>
  bif decide (0 <= (rv15.length:Int) /\ (rv15.length:Int) * 24 <= 140737488355328) then
   bif decide (0 <= (rv15.length:Int) /\ (rv15.length:Int) * 24 <= 140737488355328) then
    ll (Qgc p rv15 (((rv15.length:Int) - 0).toNat) (List.replicate (rv15.length:Int).toNat []) (List.replicate (rv15.length:Int).toNat []) 0) fun (Qdu,Qgs)=>
    .ret ((Qk9.mk rv15 Qdu Qgs),0)
   else
    .oof
  else
   .oof
def QiZ (width:Int):LR Unit Qad:=
 bif decide (0 <= width /\ width <= 1000000) then
  lv (QaK width) fun rv3=>
  bif decide (0 <= width /\ width <= 1000000) then
   .ret (Qad.mk rv3 rv3 [])
  else
   .oof
 else
  .oof
def QbX  (a:Int):Nat -> Int -> LR Unit (Qad × Bool)
 | 0,b=>
  .brk ()
 | r + 1,b=>
  bif (a != b) then
   .oof
  else
   bif decide (-9223372036854775808 <= (b + 1) /\ (b + 1) <= 9223372036854775807) then
    QbX a r (b + 1)
   else
    .oof
def Qds (x:Qjf):Nat -> Int -> List (BitVec 64) -> Int -> LR (Int × List (BitVec 64)) (Qad × Bool)
 | 0,t2,t3,a=>
  .brk (t2,t3)
 | r + 1,t2,t3,a=>
  bif decide (0 <= a /\ a < (x.One.length:Int)) then
   bif decide (0 <= a /\ a < (x.One.length:Int)) then
    lv (Qap (x.One.getD a.toNat default) a) fun rv20=>
    bif (!rv20) then
     .oof
    else
     lv (Qap x.Zero a) fun rv27=>
     bif rv27 then
      bif decide (0 <= a /\ a < (Qaf.mk t2 t3).Width) then
       bif decide ((Qaf.mk t2 t3).Width <= 1000000) then
        lv (Qbx (Qaf.mk t2 t3) a) fun rv33=>
        ll (QbX a (((x.Zero.Width:Int) - 0).toNat) 0) fun _=>
        bif decide (-9223372036854775808 <= (a + 1) /\ (a + 1) <= 9223372036854775807) then
         Qds x r rv33.Width rv33.Words (a + 1)
        else
         .oof
       else
        .oof
      else
       .oof
     else
      ll (QbX a (((x.Zero.Width:Int) - 0).toNat) 0) fun _=>
      bif decide (-9223372036854775808 <= (a + 1) /\ (a + 1) <= 9223372036854775807) then
       Qds x r t2 t3 (a + 1)
      else
       .oof
   else
    .oof
  else
   .oof
def Qi2 (x:Qjf):LR Unit (Qad × Bool):=
 bif decide (0 <= x.Zero.Width /\ x.Zero.Width <= 1000000) then
  lv (QaK x.Zero.Width) fun rv4=>
  ll (Qds x (((x.Zero.Width:Int) - 0).toNat) rv4.Width rv4.Words 0) fun (Qdu,Qgs)=>
  .ret ((Qad.mk x.Zero (Qaf.mk Qdu Qgs) []),decide (((0:Nat):Int) <= 64))
 else
  .oof
def Qf5 (t:Qad):Nat -> List Qaf -> Int -> LR (List Qaf) Qjf
 | 0,x2,b=>
  .brk x2
 | r + 1,x2,b=>
  bif decide (0 <= t.Gen.Width /\ t.Gen.Width <= 1000000) then
   lv (QaK t.Gen.Width) fun rv7=>
   bif decide (0 <= b /\ b < rv7.Width) then
    bif decide (rv7.Width <= 1000000) then
     lv (Qbx rv7 b) fun rv17=>
     bif decide (Qai t = true) then
      bif decide (t.Gen.Width = rv17.Width) then
       lv (Qit t rv17) fun rv26=>
       bif decide ((x2.length + ([rv26]:List Qaf).length) * 32 <= 140737488355328) then
        bif decide (-9223372036854775808 <= (b + 1) /\ (b + 1) <= 9223372036854775807) then
         Qf5 t r (x2 ++ [rv26]) (b + 1)
        else
         .oof
       else
        .oof
      else
       .oof
     else
      .oof
    else
     .oof
   else
    .oof
  else
   .oof
def QmM (t:Qad):LR Unit Qjf:=
 ll (Qf5 t (((t.Gen.Width:Int) - 0).toNat) [] 0) fun Qdu=>
 .ret (Qjf.mk t.Gen Qdu)
def QkS (t:Qad):LR Unit (Qad × Int):=
 lv (Qai t) fun rv3=>
 bif (!rv3) then
  .oof
 else
  lb (QmM t) fun rv12=>
  lb (Qi2 rv12) fun rv25=>
  .ret (rv25.1,0)
def QfN (l:List Qft) (v:Int):Nat -> Int -> List (BitVec 64) -> Int -> LR (Int × List (BitVec 64)) Qaf
 | 0,s0,s1,i=>
  .brk (s0,s1)
 | r + 1,s0,s1,i=>
  bif decide (0 <= i /\ i < (l.length:Int)) then
   bif decide (0 <= i /\ i < (l.length:Int)) then
    bif ((l.getD i.toNat default).Var == v) then
     bif decide (0 <= i /\ i < (Qaf.mk s0 s1).Width) then
      bif decide ((Qaf.mk s0 s1).Width <= 1000000) then
       lv (Qbx (Qaf.mk s0 s1) i) fun rv20=>
       bif decide (-9223372036854775808 <= (i + 1) /\ (i + 1) <= 9223372036854775807) then
        QfN l v r rv20.Width rv20.Words (i + 1)
       else
        .oof
      else
       .oof
     else
      .oof
    else
     .oof
   else
    .oof
  else
   .oof
def Qm9 (l:List Qft) (v:Int):LR Unit Qaf:=
 bif decide (0 <= (l.length:Int) /\ (l.length:Int) <= 1000000) then
  lv (QaK (l.length:Int)) fun rv3=>
  ll (QfN l v (((l.length:Int) - 0).toNat) rv3.Width rv3.Words 0) fun (Qdu,Qgs)=>
  .ret (Qaf.mk Qdu Qgs)
 else
  .oof
def QdG (l:List Qft) (node:Int):Nat -> Int -> List (BitVec 64) -> Int -> LR (Int × List (BitVec 64)) Qad
 | 0,t0,t1,i=>
  .brk (t0,t1)
 | r + 1,t0,t1,i=>
  bif decide (0 <= i /\ i < (l.length:Int)) then
   bif decide (0 <= i /\ i < (l.length:Int)) then
    bif ((l.getD i.toNat default).Node == node) then
     bif decide (0 <= i /\ i < (Qaf.mk t0 t1).Width) then
      bif decide ((Qaf.mk t0 t1).Width <= 1000000) then
       lv (Qbx (Qaf.mk t0 t1) i) fun rv82=>
       bif decide (-9223372036854775808 <= (i + 1) /\ (i + 1) <= 9223372036854775807) then
        QdG l node r rv82.Width rv82.Words (i + 1)
       else
        .oof
      else
       .oof
     else
      .oof
    else
     .oof
   else
    .oof
  else
   .oof
def QgE (p:Qaz) (kind:Int) (l:List Qft) (node:Int) (s:Qc7):LR Unit Qad:=
 lb (QiZ (l.length:Int)) fun rv7=>
 lb (Qfh p) fun rv23=>
 bif (kind == 2) then
  .oof
 else
  lb (Qir s) fun rv32=>
  bif (!rv32) then
   lb (QkS rv7) fun rv42=>
   .ret rv42.1
  else
   lb (Qiw rv23 s.Def) fun rv61=>
   lb (Qm9 l rv61) fun rv66=>
   bif (kind == 1) then
    ll (QdG l node (((l.length:Int) - 0).toNat) rv7.Gen.Width rv7.Gen.Words 0) fun (QjW,Qoj)=>
    lb (QkS (Qad.mk (Qaf.mk QjW Qoj) rv66 rv7.Copies)) fun rv82=>
    .ret rv82.1
   else
    .oof
def QgW (p:Qaz) (kind:Int) (l:List Qft) (g0:List Qbg) (g2:List (List Int)):Nat -> List (List Int) -> List Qad -> List Qaf -> Int -> LR (List (List Int) × List Qad × List Qaf) (Qac × Int)
 | 0,s1,s2,s3,i=>
  .brk (s1,s2,s3)
 | r + 1,s1,s2,s3,i=>
  bif decide (0 <= i /\ i < (g2.length:Int)) then
   bif decide (0 <= i /\ i < (g2.length:Int)) then
    bif (kind == 2) then
     .oof
    else
     bif decide (0 <= i /\ i < (g0.length:Int)) then
      bif decide (0 <= i /\ i < (g0.length:Int)) then
       bif ((g0.getD i.toNat default).Kind == 3) then
        bif decide (0 <= i /\ i < (g0.length:Int)) then
         lb (QmY p (g0.getD i.toNat default)) fun rv48=>
         bif decide (0 <= (l.length:Int) /\ (l.length:Int) <= 1000000) then
          lv (QaK (l.length:Int)) fun rv62=>
          bif (kind == 4) then
           .oof
          else
           bif decide ((s1.length + ([(g2.getD i.toNat [])]:List (List Int)).length) * 24 <= 140737488355328) then
            lb (QgE p kind l i rv48.1) fun rv91=>
            bif decide ((s2.length + ([rv91]:List Qad).length) * 88 <= 140737488355328) then
             bif decide ((s3.length + ([rv62]:List Qaf).length) * 32 <= 140737488355328) then
              bif decide (-9223372036854775808 <= (i + 1) /\ (i + 1) <= 9223372036854775807) then
               QgW p kind l g0 g2 r (s1 ++ [(g2.getD i.toNat [])]) (s2 ++ [rv91]) (s3 ++ [rv62]) (i + 1)
              else
               .oof
             else
              .oof
            else
             .oof
           else
            .oof
         else
          .oof
        else
         .oof
       else
        bif decide (0 <= (l.length:Int) /\ (l.length:Int) <= 1000000) then
         lv (QaK (l.length:Int)) fun rv123=>
         bif (kind == 4) then
          .oof
         else
          bif decide ((s1.length + ([(g2.getD i.toNat [])]:List (List Int)).length) * 24 <= 140737488355328) then
           lb (QgE p kind l i (Qc7.mk 0 (Str.mk []) [] [])) fun rv152=>
           bif decide ((s2.length + ([rv152]:List Qad).length) * 88 <= 140737488355328) then
            bif decide ((s3.length + ([rv123]:List Qaf).length) * 32 <= 140737488355328) then
             bif decide (-9223372036854775808 <= (i + 1) /\ (i + 1) <= 9223372036854775807) then
              QgW p kind l g0 g2 r (s1 ++ [(g2.getD i.toNat [])]) (s2 ++ [rv152]) (s3 ++ [rv123]) (i + 1)
             else
              .oof
            else
             .oof
           else
            .oof
          else
           .oof
        else
         .oof
      else
       .oof
     else
      .oof
   else
    .oof
  else
   .oof
def Qrb (p:Qaz) (kind:Int):LR Unit (Qac × Int):=
 lb (QmU p kind) fun rv4=>
 bif (rv4.2 != 0) then
  .oof
 else
  lb (Qm6 p) fun rv16=>
  ll (QgW p kind rv4.1 rv16.1.Nodes rv16.1.Pred (((rv16.1.Nodes.length:Int) - 0).toNat) [] [] [] 0) fun (Qdu,Qgs,Qma)=>
  .ret ((Qac.mk (rv4.1.length:Int) Qdu Qgs Qma),0)
def QdR (a:List Qas) (b:List Qas):Nat -> Int -> LR Unit Bool
 | 0,i=>
  .brk ()
 | r + 1,i=>
  bif decide (0 <= i /\ i < (a.length:Int)) then
   bif decide (0 <= i /\ i < (a.length:Int)) then
    bif decide (0 <= i /\ i < (b.length:Int)) then
     bif decide (0 <= i /\ i < (b.length:Int)) then
      bif ([(a.getD i.toNat default).Node,(a.getD i.toNat default).Bit] != [(b.getD i.toNat default).Node,(b.getD i.toNat default).Bit]) then
       .oof
      else
       bif decide (-9223372036854775808 <= (i + 1) /\ (i + 1) <= 9223372036854775807) then
        QdR a b r (i + 1)
       else
        .oof
     else
      .oof
    else
     .oof
   else
    .oof
  else
   .oof
def Qie (a:List Qas) (b:List Qas):LR Unit Bool:=
 bif ((a.length:Int) != (b.length:Int)) then
  .oof
 else
  ll (QdR a b (((a.length:Int) - 0).toNat) 0) fun _=>
  .ret true
def Qlq  : LR Unit Bool:=
 lb (QmN (Str.mk [102,117,110,99,32,109,59,32,98,108,111,99,107,32,98,59,32,120,32,61,32,121,59,32,117,115,101,32,120,59,32,114,101,116,117,114,110,59,32,101,110,100])) fun rv2=>
 lb (Qrb rv2.1 1) fun rv15=>
 lb (QoW rv15.1 3 0) fun rv31=>
 bif (rv31.2.2 == 0) then
  bif rv31.2.1 then
   lb (Qie rv31.1 [(Qas.mk 2 0),(Qas.mk 3 0)]) fun rv45=>
   bif rv45 then
    lv (Qbe rv15.1 3 0 [(Qas.mk 2 0),(Qas.mk 3 0)]) fun rv50=>
    .ret rv50
   else
    .oof
  else
   .oof
 else
  .oof
def Qdg:Bool:=true
def Qsl (l:List Int):Unit:=
 ()
def QaO (tT:List Int) (tI:Int):Int × Int:=
 let rv4:=(Qan tT tI 7)
 (([3,1,4,2,6,0,8].getD rv4.1.toNat 0),rv4.2)
def QaI (tT:List Int):Nat -> Int -> Int -> List (BitVec 64) -> Int -> List (BitVec 64) -> Int -> Int × Int × List (BitVec 64) × Int × List (BitVec 64)
 | 0,ti',f0,f1,f2,f3,b=>
  (ti',f0,f1,f2,f3)
 | r + 1,ti',f0,f1,f2,f3,b=>
  let rv22:=(Qan tT ti' 6)
  bif (rv22.1 == 1) then
   let rv31:=(Qbx (Qaf.mk f0 f1) b)
   QaI tT r rv22.2 rv31.Width rv31.Words f2 f3 (b + 1)
  else
   bif (rv22.1 == 2) then
    let rv45:=(Qbx (Qaf.mk f2 f3) b)
    QaI tT r rv22.2 f0 f1 rv45.Width rv45.Words (b + 1)
   else
    bif (rv22.1 == 3) then
     let rv57:=(Qbx (Qaf.mk f2 f3) b)
     QaI tT r rv22.2 f0 f1 rv57.Width rv57.Words (b + 1)
    else
     QaI tT r rv22.2 f0 f1 f2 f3 (b + 1)
def Qbw (tT:List Int) (width:Int) (a:Int):Nat -> Int -> List QbA -> Int -> Int × List QbA
 | 0,ti',f4,b=>
  (ti',f4)
 | r + 1,ti',f4,b=>
  bif decide ((f4.length:Int) < 12) then
   let rv35:=(Qan tT ti' (2 * width))
   bif (rv35.1 == 1) then
    Qbw tT width a r rv35.2 (f4 ++ [(QbA.mk a b)]) (b + 1)
   else
    Qbw tT width a r rv35.2 f4 (b + 1)
  else
   (ti',f4)
def Qb0 (tT:List Int) (width:Int):Nat -> Int -> List QbA -> Int -> Int × List QbA
 | 0,ti',f4,a=>
  (ti',f4)
 | r + 1,ti',f4,a=>
  match Qbw tT width a (((width:Int) - 0).toNat) ti' f4 0 with
  | (QjV,QrM)=>
   Qb0 tT width r QjV QrM (a + 1)
def QdJ (tT:List Int) (tI:Int) (width:Int):Qad × Int:=
 let rv3:=(QaK width)
 match QaI tT (((width:Int) - 0).toNat) tI rv3.Width rv3.Words rv3.Width rv3.Words 0 with
 | (Qdu,Qgs,Qma,QyT,QBH)=>
  match Qb0 tT width (((width:Int) - 0).toNat) Qdu [] 0 with
  | (QjW,Qoj)=>
   ((Qad.mk (Qaf.mk Qgs Qma) (Qaf.mk QyT QBH) Qoj),QjW)
def QbN (tT:List Int) (n':Int):Nat -> Int -> List Int -> Int -> Int × List Int
 | 0,ti',d,k=>
  (ti',d)
 | r + 1,ti',d,k=>
  let rv25:=(Qan tT ti' n')
  let rv32:=(QcO d rv25.1)
  QbN tT n' r rv25.2 rv32 (k - 1)
def Qbm (tT:List Int) (n':Int) (s0:Int):Nat -> Int -> List (List Int) -> List Qad -> List Qaf -> Int -> Int × List (List Int) × List Qad × List Qaf
 | 0,ti',s1,s2,s3,i=>
  (ti',s1,s2,s3)
 | r + 1,ti',s1,s2,s3,i=>
  let rv17:=(Qan tT ti' 4)
  match QbN tT n' (rv17.1.toNat) rv17.2 [] rv17.1 with
  | (QjW,Qoj)=>
   let rv28:=(QaK s0)
   let rv38:=(Qan tT QjW 3)
   bif (rv38.1 == 1) then
    let rv47:=(Qer tT rv38.2 s0)
    let rv76:=(QdJ tT rv47.2 s0)
    Qbm tT n' s0 r rv76.2 (s1 ++ [Qoj]) (s2 ++ [rv76.1]) (s3 ++ [rv47.1]) (i + 1)
   else
    let rv122:=(QdJ tT rv38.2 s0)
    Qbm tT n' s0 r rv122.2 (s1 ++ [Qoj]) (s2 ++ [rv122.1]) (s3 ++ [rv28]) (i + 1)
def Qdl (tT:List Int) (tI:Int) (n:Int):Qac × Int:=
 let rv2:=(QaO tT tI)
 let rv9:=(Qan tT rv2.2 n)
 match Qbm tT (1 + rv9.1) (rv2.1 % 5) ((((1 + rv9.1):Int) - 0).toNat) rv9.2 [] [] [] 0 with
 | (Qdu,Qgs,Qma,QyT)=>
  ((Qac.mk (rv2.1 % 5) Qgs Qma QyT),Qdu)
def Qak (t:List Int):Nat -> Int -> Int -> LR Unit Bool
 | 0,k1,i=>
  .brk ()
 | r + 1,k1,i=>
  let rv11:=(Qdl t k1 5)
  let rv27:=(Qan t rv11.2 (rv11.1.Deps.length:Int))
  let rv33:=(Qan t rv27.2 (rv11.1.Width + 1))
  let rv40:=(Qiv rv11.1 rv27.1 rv33.1)
  bif decide (0 < (rv40.1.length:Int)) then
   let rv56:=(Qan t rv33.2 (rv40.1.length:Int))
   let rv62:=(Qan t rv56.2 4)
   bif (rv62.1 == 0) then
    let rv70:=(Qan t rv62.2 7)
    let rv79:=(QcN rv11.1)
    let rv99:=(Qer t rv70.2 rv11.1.Width)
    let rv110:=(QdS (rv79.1.getD rv27.1.toNat default) rv99.1)
    let rv117:=(Qbe rv11.1 rv27.1 rv33.1 rv40.1)
    let rv120:=(Qaq rv11.1 rv27.1 rv33.1 rv40.1)
    bif (!(rv117 == rv120)) then
     .ret false
    else
     let rv127:=(Qbe rv11.1 rv27.1 rv33.1 (rv40.1.set rv56.1.toNat (Qas.mk (rv70.1 - 1) ((rv40.1.getD rv56.1.toNat default).Bit))))
     let rv130:=(Qaq rv11.1 rv27.1 rv33.1 (rv40.1.set rv56.1.toNat (Qas.mk (rv70.1 - 1) ((rv40.1.getD rv56.1.toNat default).Bit))))
     bif (!(rv127 == rv130)) then
      .ret false
     else
      let rv137:=(Qat rv11.1 rv27.1 rv33.1 (rv79.1.set rv27.1.toNat rv110))
      let rv140:=(QaQ rv11.1 rv27.1 rv33.1 (rv79.1.set rv27.1.toNat rv110))
      bif (!(rv137 == rv140)) then
       .ret false
      else
       let rv147:=(Qdo t rv99.2 rv11.1)
       let rv154:=(Qat rv11.1 rv27.1 rv33.1 rv147.1)
       bif rv154 then
        bif decide (rv11.1.Width <= rv33.1) then
         .ret false
        else
         Qak t r rv147.2 (i + 1)
       else
        Qak t r rv147.2 (i + 1)
   else
    bif (rv62.1 == 1) then
     let rv166:=(Qan t rv62.2 6)
     let rv175:=(QcN rv11.1)
     let rv195:=(Qer t rv166.2 rv11.1.Width)
     let rv206:=(QdS (rv175.1.getD rv27.1.toNat default) rv195.1)
     let rv213:=(Qbe rv11.1 rv27.1 rv33.1 rv40.1)
     let rv216:=(Qaq rv11.1 rv27.1 rv33.1 rv40.1)
     bif (!(rv213 == rv216)) then
      .ret false
     else
      let rv223:=(Qbe rv11.1 rv27.1 rv33.1 (rv40.1.set rv56.1.toNat (Qas.mk ((rv40.1.getD rv56.1.toNat default).Node) (rv166.1 - 1))))
      let rv226:=(Qaq rv11.1 rv27.1 rv33.1 (rv40.1.set rv56.1.toNat (Qas.mk ((rv40.1.getD rv56.1.toNat default).Node) (rv166.1 - 1))))
      bif (!(rv223 == rv226)) then
       .ret false
      else
       let rv233:=(Qat rv11.1 rv27.1 rv33.1 (rv175.1.set rv27.1.toNat rv206))
       let rv236:=(QaQ rv11.1 rv27.1 rv33.1 (rv175.1.set rv27.1.toNat rv206))
       bif (!(rv233 == rv236)) then
        .ret false
       else
        let rv243:=(Qdo t rv195.2 rv11.1)
        let rv250:=(Qat rv11.1 rv27.1 rv33.1 rv243.1)
        bif rv250 then
         bif decide (rv11.1.Width <= rv33.1) then
          .ret false
         else
          Qak t r rv243.2 (i + 1)
        else
         Qak t r rv243.2 (i + 1)
    else
     bif (rv62.1 == 2) then
      let rv268:=(QcN rv11.1)
      let rv288:=(Qer t rv62.2 rv11.1.Width)
      let rv299:=(QdS (rv268.1.getD rv27.1.toNat default) rv288.1)
      let rv306:=(Qbe rv11.1 rv27.1 rv33.1 rv40.1)
      let rv309:=(Qaq rv11.1 rv27.1 rv33.1 rv40.1)
      bif (!(rv306 == rv309)) then
       .ret false
      else
       let rv315:=(Qbe rv11.1 rv27.1 rv33.1 (rv40.1.eraseIdx (rv56.1.toNat)))
       let rv318:=(Qaq rv11.1 rv27.1 rv33.1 (rv40.1.eraseIdx (rv56.1.toNat)))
       bif (!(rv315 == rv318)) then
        .ret false
       else
        let rv325:=(Qat rv11.1 rv27.1 rv33.1 (rv268.1.set rv27.1.toNat rv299))
        let rv328:=(QaQ rv11.1 rv27.1 rv33.1 (rv268.1.set rv27.1.toNat rv299))
        bif (!(rv325 == rv328)) then
         .ret false
        else
         let rv335:=(Qdo t rv288.2 rv11.1)
         let rv342:=(Qat rv11.1 rv27.1 rv33.1 rv335.1)
         bif rv342 then
          bif decide (rv11.1.Width <= rv33.1) then
           .ret false
          else
           Qak t r rv335.2 (i + 1)
         else
          Qak t r rv335.2 (i + 1)
     else
      let rv363:=(QcN rv11.1)
      let rv383:=(Qer t rv62.2 rv11.1.Width)
      let rv394:=(QdS (rv363.1.getD rv27.1.toNat default) rv383.1)
      let rv401:=(Qbe rv11.1 rv27.1 rv33.1 rv40.1)
      let rv404:=(Qaq rv11.1 rv27.1 rv33.1 rv40.1)
      bif (!(rv401 == rv404)) then
       .ret false
      else
       let rv410:=(Qbe rv11.1 rv27.1 rv33.1 (rv40.1 ++ [(rv40.1.getD (0:Int).toNat default)]))
       let rv413:=(Qaq rv11.1 rv27.1 rv33.1 (rv40.1 ++ [(rv40.1.getD (0:Int).toNat default)]))
       bif (!(rv410 == rv413)) then
        .ret false
       else
        let rv420:=(Qat rv11.1 rv27.1 rv33.1 (rv363.1.set rv27.1.toNat rv394))
        let rv423:=(QaQ rv11.1 rv27.1 rv33.1 (rv363.1.set rv27.1.toNat rv394))
        bif (!(rv420 == rv423)) then
         .ret false
        else
         let rv430:=(Qdo t rv383.2 rv11.1)
         let rv437:=(Qat rv11.1 rv27.1 rv33.1 rv430.1)
         bif rv437 then
          bif decide (rv11.1.Width <= rv33.1) then
           .ret false
          else
           Qak t r rv430.2 (i + 1)
         else
          Qak t r rv430.2 (i + 1)
  else
   let rv448:=(QcN rv11.1)
   let rv468:=(Qer t rv33.2 rv11.1.Width)
   let rv479:=(QdS (rv448.1.getD rv27.1.toNat default) rv468.1)
   let rv486:=(Qbe rv11.1 rv27.1 rv33.1 rv40.1)
   let rv489:=(Qaq rv11.1 rv27.1 rv33.1 rv40.1)
   bif (!(rv486 == rv489)) then
    .ret false
   else
    let rv500:=(Qat rv11.1 rv27.1 rv33.1 (rv448.1.set rv27.1.toNat rv479))
    let rv503:=(QaQ rv11.1 rv27.1 rv33.1 (rv448.1.set rv27.1.toNat rv479))
    bif (!(rv500 == rv503)) then
     .ret false
    else
     let rv510:=(Qdo t rv468.2 rv11.1)
     let rv517:=(Qat rv11.1 rv27.1 rv33.1 rv510.1)
     bif rv517 then
      bif decide (rv11.1.Width <= rv33.1) then
       .ret false
      else
       Qak t r rv510.2 (i + 1)
     else
      Qak t r rv510.2 (i + 1)
def QaN (t:List Int) (s:Qac) (n:Int) (bit:Int) (l:List Qas) (v:List Qaf):Bool:=
 let rv3:=(Qsl t)
 match Qak t 4 0 0 with
 | .brk _=>
  let rv6:=(QiM s)
  bif rv6 then
   Qdg
  else
   bif decide (8 < (l.length:Int)) then
    Qdg
   else
    bif decide (8 < (v.length:Int)) then
     Qdg
    else
     let rv21:=(Qbe s n bit l)
     let rv24:=(Qaq s n bit l)
     bif (rv21 == rv24) then
      let rv29:=(Qat s n bit v)
      let rv32:=(QaQ s n bit v)
      bif (rv29 == rv32) then
       Qdg
      else
       false
     else
      false
 | .ret r=>r
 | .oof=>default
theorem QnX {σ ρ:Type} (f:Nat -> Int -> LR σ ρ) (p:Int -> Bool) (b:ρ) (c:σ) (h0:∀ i,f 0 i = .brk c) (h1:∀ r i,f (r + 1) i = bif p i then .ret b else f r (i + 1)) :
  ∀ (m:Nat) (i:Int),(f m i = .ret b /\ ∃ j,i <= j /\ j < i + m /\ p j = true) \/ (f m i = .brk c /\ ∀ j,i <= j -> j < i + m -> p j = false)
 | 0,i=>.inr ⟨h0 i,fun j h1 h2=>by omega⟩
 | m + 1,i=>by
  rw [h1]
  cases hp:p i with
  | true=>exact .inl ⟨rfl,i,by omega,by omega,hp⟩
  | false=>
   rcases QnX f p b c h0 h1 m (i + 1) with ⟨e,j,j1,j2,j3⟩ | ⟨e,h⟩
   ·exact .inl ⟨e,j,by omega,by omega,j3⟩
   ·refine .inr ⟨e,fun j j1 j2=>?_⟩
    rcases Int.lt_or_eq_of_le j1 with hlt | rfl
    ·exact h j (by omega) (by omega)
    ·exact hp
theorem QiA {l:List Int} {n:Int}:n ∈ l ↔ ∃ j:Int,0 <= j /\ j < (l.length:Int) /\ l.getD j.toNat 0 = n:=by
 constructor
 ·intro h
  obtain ⟨i,hi,e⟩:=List.getElem_of_mem h
  exact ⟨(i:Int),by omega,by omega,by simp [List.getD,hi,e]⟩
 ·rintro ⟨j,j1,j2,rfl⟩
  exact Qa4 (by omega)
theorem Qq1 {σ:Type} (f:Nat -> Int -> LR σ Int) (p:Int -> Bool) (c:σ) (h0:∀ i,f 0 i = .brk c) (h1:∀ r i,f (r + 1) i = bif p i then .ret i else f r (i + 1)) :
  ∀ (m:Nat) (i:Int),(∃ j,f m i = .ret j /\ i <= j /\ j < i + m /\ p j = true) \/ (f m i = .brk c /\ ∀ j,i <= j -> j < i + m -> p j = false)
 | 0,i=>.inr ⟨h0 i,fun j h1 h2=>by omega⟩
 | m + 1,i=>by
  rw [h1]
  cases hp:p i with
  | true=>exact .inl ⟨i,rfl,by omega,by omega,hp⟩
  | false=>
   rcases Qq1 f p c h0 h1 m (i + 1) with ⟨j,e,j1,j2,j3⟩ | ⟨e,h⟩
   ·exact .inl ⟨j,e,by omega,by omega,j3⟩
   ·refine .inr ⟨e,fun j j1 j2=>?_⟩
    rcases Int.lt_or_eq_of_le j1 with hlt | rfl
    ·exact h j (by omega) (by omega)
    ·exact hp
theorem Qey {α:Type} {l:List α} {n d:α}:n ∈ l ↔ ∃ j:Int,0 <= j /\ j < (l.length:Int) /\ l.getD j.toNat d = n:=by
 constructor
 ·intro h
  obtain ⟨i,hi,e⟩:=List.getElem_of_mem h
  exact ⟨(i:Int),by omega,by omega,by simp [List.getD,hi,e]⟩
 ·rintro ⟨j,j1,j2,rfl⟩
  exact Qa4 (by omega)
def Qgt (ws:List (BitVec 64)) (b:Int):Bool:=(ws.getD (b / 64).toNat 0#64).getLsbD (b % 64).toNat
def QpZ (s:Qaf):Prop:=0 <= s.Width /\ s.Width <= 256 /\ (s.Words.length:Int) = (s.Width + 63) / 64 /\ ∀ b:Int,s.Width <= b -> b < 64 * (s.Words.length:Int) -> Qgt s.Words b = false
theorem Qhp {n:Int} (h:0 <= n /\ n < 18446744073709551616):(((BitVec.ofInt 64 n).toNat:Int)).toNat = n.toNat:=by
 rw [BitVec.toNat_ofInt]; omega
theorem Qnt (w:BitVec 64) (k:Nat):(((w >>> k) &&& 1#64) == 1#64) = w.getLsbD k:=by
 rw [BitVec.and_one_eq_setWidth_ofBool_getLsbD,BitVec.getLsbD_ushiftRight,Nat.add_zero]
 all_goals (cases w.getLsbD k <;> rfl)
def VSt (w:Int) (b:Qaf):Prop:=QpZ b /\ b.Width = w
def tot (s:Qac):Nat -> Int -> Int
 | 0,_=>0
 | m + 1,i=>((s.Deps.getD i.toNat []).length:Int) + tot s m (i + 1)
theorem Qqx (s:Qac):∀ m i,0 <= tot s m i
 | 0,_=>Int.le_refl _
 | m + 1,i=>by have:=Qqx s m (i + 1); simp only [tot]; omega
theorem QsP (s:Qac):∀ (m:Nat) (i j:Int),i <= j -> j < i + m -> ((s.Deps.getD j.toNat []).length:Int) <= tot s m i
 | 0,i,j,h1,h2=>by omega
 | m + 1,i,j,h1,h2=>by
  simp only [tot]
  rcases Int.lt_or_eq_of_le h1 with h | rfl
  ·have:=QsP s m (i + 1) j (by omega) (by omega); omega
  ·have:=Qqx s m (i + 1); omega
theorem QpZ.words {s:Qaf} (h:QpZ s):0 <= s.Width /\ s.Width <= 256 /\ s.Words.length <= 4:=by
 obtain ⟨a,b,c,_⟩:=h
 omega
def Qop (s:Qaf):Prop:=-1000 <= s.Width /\ s.Width <= 1000 /\ s.Words.length <= 1000
theorem QpZ.ok {s:Qaf} (h:QpZ s):Qop s:=by have:=h.words; unfold Qop; omega
theorem Qic (n:Nat) (b:Int):Qgt (List.replicate n 0#64) b = false:=by
 unfold Qgt
 rw [List.getD_eq_getElem?_getD,List.getElem?_replicate]
 split <;> simp
theorem QgY {l:List Int} {j:Nat} (h:j < l.length):l.getD j 0 = l[j]:=by simp [List.getD,List.getElem?_eq_getElem h]
def Quh (l:List Int) (n:Int):Prop:=(∀ x ∈ l,0 <= x /\ x < n) /\ l.Pairwise (· < ·)
theorem QsS {s:Qac} {b:Nat} (h:∀ x ∈ s.Deps,x.length <= b):∀ (m:Nat) (i:Int),tot s m i <= (m:Int) * b
 | 0,i=>by simp [tot]
 | m + 1,i=>by
  simp only [tot]
  have ih:=QsS h m (i + 1)
  have:((s.Deps.getD i.toNat []).length:Int) <= b:=by
   rw [List.getD_eq_getElem?_getD]
   cases hx:s.Deps[i.toNat]? with
   | none=>simp
   | some x=>have:=h x (List.mem_of_getElem? hx); simp; omega
  have e:((m + 1:Nat):Int) * b = (m:Int) * b + b:=by rw [Int.natCast_add,Int.add_mul]; simp
  omega
def deps (s:Qac) (x:Int):List Int:=s.Deps.getD x.toNat []
theorem Qif {w:Int} {s:Qaf} (h:VSt w s):0 <= w /\ w <= 256 /\ s.Width = w /\ (s.Words.length:Int) = (w + 63) / 64:=by
 obtain ⟨⟨h0,h1,h2,h3⟩,rfl⟩:=h; exact ⟨h0,h1,rfl,h2⟩
theorem Qrm {ws:List (BitVec 64)} {b:Int} (hb:0 <= b) (hl:b / 64 < (ws.length:Int)) (x:Int) (hx:0 <= x):Qgt (ws.set (b / 64).toNat ((ws.getD (b / 64).toNat 0#64) ||| (1#64 <<< (b % 64).toNat))) x = (Qgt ws x || x == b):=by
 unfold Qgt
 simp only [List.getD_eq_getElem?_getD,List.getElem?_set]
 by_cases hq:(b / 64).toNat = (x / 64).toNat
 ·rw [if_pos hq,if_pos (by omega)]
  simp only [Option.getD_some,BitVec.getLsbD_or,BitVec.getLsbD_shiftLeft,BitVec.getLsbD_one,hq]
  congr 1
  rw [Bool.eq_iff_iff]
  simp
  omega
 ·rw [if_neg hq]
  have:(x == b) = false:=by rw [beq_eq_false_iff_ne]; intro e; subst e; exact hq rfl
  rw [this,Bool.or_false]
theorem QsF {α:Type} (l:List α) (i j:Nat) (v d:α):(l.set i v).getD j d = if i = j /\ i < l.length then v else l.getD j d:=by
 simp only [List.getD_eq_getElem?_getD,List.getElem?_set]
 by_cases h:i = j
 ·subst h
  by_cases h2:i < l.length
  ·simp [h2]
  ·simp [h2]
 ·simp [h]
theorem QsY {b:Int} (h:0 <= b /\ b < 18446744073709551616):((((BitVec.ofInt 64 b) % 64#64).toNat:Int)).toNat = (b % 64).toNat:=by
 rw [BitVec.toNat_umod,BitVec.toNat_ofInt]
 simp
 omega
def Qdw (s:Qac) (v:List Qaf):Prop:=v.length = s.Boundary.length /\ ∀ g ∈ v,VSt s.Width g
theorem QdC {s:Qac} {v:List Qaf} (h:Qdw s v) {n:Int} (h0:0 <= n) (h1:n < (s.Boundary.length:Int)):VSt s.Width (v.getD n.toNat default):=
 h.2 _ (Qa4 (by rw [h.1]; omega))
def Bd (s:Qac) (n:Int):Qaf:=s.Boundary.getD n.toNat default
def Tr (s:Qac) (n:Int):Qad:=s.Transfers.getD n.toNat default
def vat (v:List Qaf) (n:Int):Qaf:=v.getD n.toNat default
theorem QnO {α:Type} {p q:α -> Bool}:∀ {l:List α},(∀ x ∈ l,p x = true -> q x = true) -> l.countP p <= l.countP q
 | [],_=>by simp
 | a :: l,h=>by
  have:=QnO (l:=l) fun x hx=>h x (List.mem_cons_of_mem _ hx)
  rw [List.countP_cons,List.countP_cons]
  have:=h a (List.mem_cons_self ..)
  by_cases ha:p a = true
  ·rw [if_pos ha,if_pos (this ha)]; omega
  ·rw [if_neg ha]; split <;> omega
theorem Qn8 {α:Type} {p q:α -> Bool}:∀ {l:List α},(∀ x ∈ l,p x = true -> q x = true) -> (∃ x ∈ l,q x = true /\ p x = false) -> l.countP p < l.countP q
 | [],_,⟨x,hx,_⟩=>by cases hx
 | a :: l,h,⟨x,hx,h1,h2⟩=>by
  have hl:=QnO (l:=l) fun x hx=>h x (List.mem_cons_of_mem _ hx)
  rw [List.countP_cons,List.countP_cons]
  have ha:=h a (List.mem_cons_self ..)
  rcases List.mem_cons.1 hx with rfl | hx
  ·rw [if_pos h1,if_neg (by rw [h2]; simp)]; omega
  ·have:=Qn8 (l:=l) (fun x hx=>h x (List.mem_cons_of_mem _ hx)) ⟨x,hx,h1,h2⟩
   by_cases hp:p a = true
   ·rw [if_pos hp,if_pos (ha hp)]; omega
   ·rw [if_neg hp]; split <;> omega
def dgv (B:Nat):List Nat -> Nat
 | []=>0
 | a :: l=>a + B * dgv B l
def prs:List Nat -> List Nat
 | a :: b :: l=>(a + b) :: prs l
 | [a]=>[a]
 | []=>[]
def evs:List Nat -> List Nat
 | a :: b :: l=>a :: evs l
 | [a]=>[a]
 | []=>[]
def ods:List Nat -> List Nat
 | a :: b :: l=>b :: ods l
 | [a]=>[]
 | []=>[]
def adj:List Nat -> List Nat
 | a :: b :: l=>(b + a) :: adj (b :: l)
 | [a]=>[a]
 | []=>[]
def bl:Nat -> Nat -> List Nat
 | 0,_=>[]
 | n + 1,x=>x % 2 :: bl n (x / 2)
def QoL:List Nat -> Nat
 | []=>0
 | a :: l=>a + QoL l
theorem Qs0:∀ (n x:Nat),dgv 2 (bl n x) = x % 2 ^ n
 | 0,x=>by simp [bl,dgv,Nat.mod_one]
 | n + 1,x=>by
  rw [bl,dgv,Qs0 n,Nat.pow_succ,Nat.mul_comm (2 ^ n) 2,Nat.mod_mul]
theorem Qs9:∀ (n x:Nat),(bl n x).length = n
 | 0,x=>rfl
 | n + 1,x=>by rw [bl,List.length_cons,Qs9]
theorem Qvc:∀ (n x:Nat),∀ a ∈ bl n x,a <= 1
 | 0,x,a,h=>by cases h
 | n + 1,x,a,h=>by
  rw [bl] at h
  rcases List.mem_cons.1 h with rfl | h
  ·omega
  ·exact Qvc n _ a h
theorem Qof {B:Nat} (hB:0 < B):∀ (l:List Nat),(∀ a ∈ l,a < B) -> dgv B l < B ^ l.length
 | [],_=>by simp [dgv]
 | a :: l,h=>by
  have h1:=h a (by simp)
  have h2:=Qof hB l (fun b hb=>h b (List.mem_cons_of_mem _ hb))
  rw [dgv,List.length_cons,Nat.pow_succ,Nat.mul_comm (B ^ l.length) B]
  have:B * dgv B l + B <= B * B ^ l.length:=by
   have:=Nat.mul_le_mul_left B (Nat.succ_le_of_lt h2)
   rwa [Nat.mul_succ] at this
  omega
theorem Qre (k a b h1 h2:Nat) (ha:a < 2 ^ k) (hb:b < 2 ^ k):(a + 2 ^ k * h1) &&& (b + 2 ^ k * h2) = (a &&& b) + 2 ^ k * (h1 &&& h2):=by
 apply Nat.eq_of_testBit_eq
 intro i
 rw [Nat.testBit_and,Nat.add_comm a,Nat.add_comm b,Nat.add_comm (a &&& b),Nat.testBit_two_pow_mul_add _ ha,Nat.testBit_two_pow_mul_add _ hb,Nat.testBit_two_pow_mul_add _ (Nat.and_lt_two_pow _ hb)]
 split
 ·rw [Nat.testBit_and]
 ·rw [Nat.testBit_and]
def msk (w:Nat):Nat -> Nat
 | 0=>0
 | n + 1=>(2 ^ w - 1) + 2 ^ (2 * w) * msk w n
theorem Qnj {w:Nat}:∀ (n:Nat) (l:List Nat),(∀ a ∈ l,a < 2 ^ w) -> l.length <= 2 * n -> dgv (2 ^ w) l &&& msk w n = dgv (2 ^ (2 * w)) (evs l)
 | n,[],_,_=>by simp [dgv,evs]
 | 0,a :: l,_,h=>by simp at h
 | n + 1,[a],h,_=>by
  have ha:=h a (by simp)
  have hp:0 < 2 ^ w:=Nat.two_pow_pos w
  have hw:(2 ^ w:Nat) <= 2 ^ (2 * w):=Nat.pow_le_pow_right (by decide) (by omega)
  have h1:=Qre (2 * w) a (2 ^ w - 1) 0 (msk w n) (by omega) (by omega)
  rw [Nat.mul_zero,Nat.add_zero,Nat.zero_and,Nat.mul_zero,Nat.add_zero,Nat.and_two_pow_sub_one_eq_mod,Nat.mod_eq_of_lt ha] at h1
  simp only [dgv,evs,msk,Nat.mul_zero,Nat.add_zero]
  exact h1
 | n + 1,a :: b :: l,h,hl=>by
  have ha:=h a (by simp)
  have hb:=h b (by simp)
  have hp:0 < 2 ^ w:=Nat.two_pow_pos w
  have hw:(2 ^ (2 * w):Nat) = 2 ^ w * 2 ^ w:=by rw [Nat.two_mul,Nat.pow_add]
  have hab:a + 2 ^ w * b < 2 ^ (2 * w):=by
   have:2 ^ w * b + 2 ^ w <= 2 ^ w * 2 ^ w:=by
    have:=Nat.mul_le_mul_left (2 ^ w) (Nat.succ_le_of_lt hb)
    rwa [Nat.mul_succ] at this
   omega
  have hm:2 ^ w - 1 < 2 ^ (2 * w):=by
   have:=Nat.le_mul_of_pos_left (2 ^ w) hp
   omega
  have ih:=Qnj n l (fun x hx=>h x (by simp [hx])) (by simp at hl; omega)
  have h1:=Qre (2 * w) (a + 2 ^ w * b) (2 ^ w - 1) (dgv (2 ^ w) l) (msk w n) hab hm
  rw [ih,Nat.and_two_pow_sub_one_eq_mod,Nat.add_mul_mod_self_left,Nat.mod_eq_of_lt ha] at h1
  have e:dgv (2 ^ w) (a :: b :: l) = (a + 2 ^ w * b) + 2 ^ (2 * w) * dgv (2 ^ w) l:=by
   rw [dgv,dgv,hw,Nat.mul_add,Nat.mul_assoc]; omega
  rw [e,msk,h1,evs,dgv]
theorem QqV:∀ (l:List Nat) (a:Nat),evs (l) = ods (a :: l)
 | [],a=>rfl
 | [b],a=>rfl
 | b :: c :: l,a=>by rw [evs,ods,QqV l c]
theorem Qnz {B:Nat} (hB:0 < B):∀ (l:List Nat),(∀ a ∈ l,a < B) -> dgv B l / B = dgv B l.tail
 | [],_=>by simp [dgv]
 | a :: l,h=>by
  have ha:=h a (by simp)
  rw [dgv,Nat.add_mul_div_left _ _ hB,Nat.div_eq_of_lt ha,Nat.zero_add]; rfl
theorem Qrt (B:Nat):∀ (l:List Nat),dgv B (ods l) + dgv B (evs l) = dgv B (prs l)
 | []=>rfl
 | [a]=>by simp [ods,evs,prs,dgv]
 | a :: b :: l=>by
  have ih:=Qrt B l
  rw [ods,evs,prs,dgv,dgv,dgv,<- ih,Nat.mul_add]; omega
theorem Qv3 {w:Nat} (n:Nat) (l:List Nat) (h:∀ a ∈ l,a < 2 ^ w) (hl:l.length <= 2 * n):((dgv (2 ^ w) l / 2 ^ w) &&& msk w n) + (dgv (2 ^ w) l &&& msk w n) = dgv (2 ^ (2 * w)) (prs l):=by
 have hp:0 < 2 ^ w:=Nat.two_pow_pos w
 rw [Qnz hp l h,Qnj n l h hl,Qnj n l.tail (fun a ha=>h a (List.mem_of_mem_tail ha)) (by rw [List.length_tail]; omega)]
 cases l with
 | nil=>rfl
 | cons a l=>rw [List.tail_cons,QqV l a,Qrt]
theorem Qoy (B:Nat):∀ (l:List Nat),dgv B l.tail + dgv B l = dgv B (adj l)
 | []=>rfl
 | [a]=>by simp [adj,dgv]
 | a :: b :: l=>by
  have ih:=Qoy B (b :: l)
  have e1:adj (a :: b :: l) = (b + a) :: adj (b :: l):=rfl
  have e2:∀ (x:Nat) (r:List Nat),dgv B (x :: r) = x + B * dgv B r:=fun _ _=>rfl
  rw [e1,e2 (b + a),<- ih,e2 a,List.tail_cons,List.tail_cons,Nat.mul_add]
  rw [e2 b l,Nat.mul_add]
  omega
theorem QqA:∀ (l:List Nat),evs (adj l) = prs l
 | []=>rfl
 | [a]=>rfl
 | [a,b]=>by simp [adj,evs,prs,Nat.add_comm]
 | a :: b :: c :: l=>by
  have ih:=QqA (c :: l)
  rw [adj,adj,evs,prs,ih,Nat.add_comm]
theorem Qpm {k:Nat}:∀ (l:List Nat),(∀ a ∈ l,a <= k) -> ∀ a ∈ prs l,a <= 2 * k
 | [],_,a,h=>by cases h
 | [b],hl,a,h=>by simp [prs] at h; subst h; have:=hl a (by simp); omega
 | b :: c :: l,hl,a,h=>by
  rw [prs] at h
  rcases List.mem_cons.1 h with rfl | h
  ·have:=hl b (by simp); have:=hl c (by simp); omega
  ·exact Qpm l (fun x hx=>hl x (by simp [hx])) a h
theorem Qq3 {k:Nat}:∀ (l:List Nat),(∀ a ∈ l,a <= k) -> ∀ a ∈ adj l,a <= 2 * k
 | [],_,a,h=>by cases h
 | [b],hl,a,h=>by simp [adj] at h; subst h; have:=hl a (by simp); omega
 | b :: c :: l,hl,a,h=>by
  rw [adj] at h
  rcases List.mem_cons.1 h with rfl | h
  ·have:=hl b (by simp); have:=hl c (by simp); omega
  ·exact Qq3 (c :: l) (fun x hx=>hl x (List.mem_cons_of_mem _ hx)) a h
theorem QoF:∀ (l:List Nat),(adj l).length = l.length
 | []=>rfl
 | [a]=>rfl
 | a :: b :: l=>by rw [adj,List.length_cons,QoF (b :: l)]; rfl
theorem Qm5:∀ (l:List Nat),2 * (prs l).length = l.length + l.length % 2
 | []=>rfl
 | [a]=>rfl
 | a :: b :: l=>by
  have:=Qm5 l
  simp only [prs,List.length_cons]; omega
theorem Qne:∀ (l:List Nat),QoL (prs l) = QoL l
 | []=>rfl
 | [a]=>rfl
 | a :: b :: l=>by rw [prs,QoL,QoL,QoL,Qne l]; omega
theorem Qwc {w:Nat} (n:Nat) (l:List Nat) (k:Nat) (h:∀ a ∈ l,a <= k) (hk:2 * k < 2 ^ w) (hl:l.length <= 2 * n):((dgv (2 ^ w) l / 2 ^ w) + dgv (2 ^ w) l) &&& msk w n = dgv (2 ^ (2 * w)) (prs l):=by
 have hp:0 < 2 ^ w:=Nat.two_pow_pos w
 rw [Qnz hp l (fun a ha=>by have:=h a ha; omega),Qoy,Qnj n (adj l) (fun a ha=>by have:=Qq3 l h a ha; omega) (by rw [QoF]; exact hl),QqA]
theorem QoD {B x K q:Nat} (hx:x < B) (h:q = x + B * K):q / B = K:=by
 rw [h,Nat.add_mul_div_left _ _ (by omega),Nat.div_eq_of_lt hx,Nat.zero_add]
theorem Qvt (l:List Nat) (hl:l.length = 8) (h:∀ a ∈ l,a <= 8):∀ a b c d:Nat,a = dgv 256 l -> b = a + a / 256 -> c = b + b / 65536 -> d = c + c / 4294967296 -> d % 128 = QoL l /\ d < 9223372036854775808:=by
 match l,hl with
 | [x0,x1,x2,x3,x4,x5,x6,x7],_=>
  have h0:=h x0 (by simp); have h1:=h x1 (by simp); have h2:=h x2 (by simp); have h3:=h x3 (by simp)
  have h4:=h x4 (by simp); have h5:=h x5 (by simp); have h6:=h x6 (by simp); have h7:=h x7 (by simp)
  clear h
  intro a b c d ha hb hc hd
  simp only [dgv] at ha
  simp only [QoL]
  have a0:a = (x0) + 256 * (x1) + 65536 * (x2) + 16777216 * (x3) + 4294967296 * (x4) + 1099511627776 * (x5) + 281474976710656 * (x6) + 72057594037927936 * (x7):=by clear hb hc hd h0 h1 h2 h3 h4 h5 h6 h7; omega
  clear ha
  have a1:a / 256 = (x1) + 256 * (x2) + 65536 * (x3) + 16777216 * (x4) + 4294967296 * (x5) + 1099511627776 * (x6) + 281474976710656 * (x7):=QoD (x:=x0) (Nat.lt_of_le_of_lt h0 (by decide)) (by clear hb hc hd h0 h1 h2 h3 h4 h5 h6 h7; omega)
  have b0:b = (x0 + x1) + 256 * (x1 + x2) + 65536 * (x2 + x3) + 16777216 * (x3 + x4) + 4294967296 * (x4 + x5) + 1099511627776 * (x5 + x6) + 281474976710656 * (x6 + x7) + 72057594037927936 * (x7):=by rw [hb,a1,a0]; clear hb hc hd a1 a0 h0 h1 h2 h3 h4 h5 h6 h7; omega
  clear hb a1 a0
  have b1:b / 65536 = (x2 + x3) + 256 * (x3 + x4) + 65536 * (x4 + x5) + 16777216 * (x5 + x6) + 4294967296 * (x6 + x7) + 1099511627776 * (x7):=QoD (x:=(x0 + x1) + 256 * (x1 + x2)) (by clear b0 hc hd h3 h4 h5 h6 h7; omega) (by clear hc hd h0 h1 h2 h3 h4 h5 h6 h7; omega)
  have c0:c = (x0 + x1 + x2 + x3) + 256 * (x1 + x2 + x3 + x4) + 65536 * (x2 + x3 + x4 + x5) + 16777216 * (x3 + x4 + x5 + x6) + 4294967296 * (x4 + x5 + x6 + x7) + 1099511627776 * (x5 + x6 + x7) + 281474976710656 * (x6 + x7) + 72057594037927936 * (x7):=by rw [hc,b1,b0]; clear hc hd b1 b0 h0 h1 h2 h3 h4 h5 h6 h7; omega
  clear hc b1 b0
  have c1:c / 4294967296 = (x4 + x5 + x6 + x7) + 256 * (x5 + x6 + x7) + 65536 * (x6 + x7) + 16777216 * (x7):=QoD (x:=(x0 + x1 + x2 + x3) + 256 * (x1 + x2 + x3 + x4) + 65536 * (x2 + x3 + x4 + x5) + 16777216 * (x3 + x4 + x5 + x6)) (by clear c0 hd h7; omega) (by clear hd h0 h1 h2 h3 h4 h5 h6 h7; omega)
  have d0:d = (x0 + x1 + x2 + x3 + x4 + x5 + x6 + x7) + 256 * (x1 + x2 + x3 + x4 + x5 + x6 + x7) + 65536 * (x2 + x3 + x4 + x5 + x6 + x7) + 16777216 * (x3 + x4 + x5 + x6 + x7) + 4294967296 * (x4 + x5 + x6 + x7) + 1099511627776 * (x5 + x6 + x7) + 281474976710656 * (x6 + x7) + 72057594037927936 * (x7):=by rw [hd,c1,c0]; clear hd c1 c0 h0 h1 h2 h3 h4 h5 h6 h7; omega
  clear hd c1 c0
  refine ⟨?_,?_⟩
  ·have e:d = (x0 + x1 + x2 + x3 + x4 + x5 + x6 + x7) + 128 * (2 * ((x1 + x2 + x3 + x4 + x5 + x6 + x7) + 256 * (x2 + x3 + x4 + x5 + x6 + x7) + 65536 * (x3 + x4 + x5 + x6 + x7) + 16777216 * (x4 + x5 + x6 + x7) + 4294967296 * (x5 + x6 + x7) + 1099511627776 * (x6 + x7) + 281474976710656 * (x7))):=by clear h0 h1 h2 h3 h4 h5 h6 h7; omega
   have e2:(x0 + x1 + x2 + x3 + x4 + x5 + x6 + x7) < 128:=by clear d0 e; omega
   rw [e,Nat.add_mul_mod_self_left,Nat.mod_eq_of_lt e2]; clear d0 e e2 h0 h1 h2 h3 h4 h5 h6 h7; omega
  ·rw [d0]; clear d0; omega
theorem Qjl {a n b:Nat} (h:a < b):a + a / n < b + b:=by have:=Nat.div_le_self a n; omega
theorem sh1:(((1#64).toNat:Int)).toNat = 1:=by decide
theorem sh2:(((2#64).toNat:Int)).toNat = 2:=by decide
theorem sh4:(((4#64).toNat:Int)).toNat = 4:=by decide
theorem sh8:(((8#64).toNat:Int)).toNat = 8:=by decide
theorem QAK:(((16#64).toNat:Int)).toNat = 16:=by decide
theorem QAW:(((32#64).toNat:Int)).toNat = 32:=by decide
theorem QzZ:msk 1 32 = 6148914691236517205:=by decide +kernel
theorem QAQ:msk 2 16 = 3689348814741910323:=by decide +kernel
theorem QBy:msk 4 8 = 1085102592571150095:=by decide +kernel
theorem Qke (x:BitVec 64) (n:Nat):(x >>> n).toNat = x.toNat / 2 ^ n:=by rw [BitVec.toNat_ushiftRight,Nat.shiftRight_eq_div_pow]
theorem Qoi {x r1 r3 r5 r7 r9 r11:BitVec 64} (h1:((x >>> (((1#64).toNat:Int)).toNat) &&& 6148914691236517205#64) + (x &&& 6148914691236517205#64) = r1)
  (h3:((r1 >>> (((2#64).toNat:Int)).toNat) &&& 3689348814741910323#64) + (r1 &&& 3689348814741910323#64) = r3) (h5:((r3 >>> (((4#64).toNat:Int)).toNat) + r3) &&& 1085102592571150095#64 = r5)
  (h7:r5 + (r5 >>> (((8#64).toNat:Int)).toNat) = r7) (h9:r7 + (r7 >>> (((16#64).toNat:Int)).toNat) = r9) (h11:r9 + (r9 >>> (((32#64).toNat:Int)).toNat) = r11) :
  r11.toNat % 128 = QoL (bl 64 x.toNat) /\ r11.toNat < 9223372036854775808:=by
 rw [sh1] at h1; rw [sh2] at h3; rw [sh4] at h5; rw [sh8] at h7; rw [QAK] at h9; rw [QAW] at h11
 have hx:x.toNat = dgv (2 ^ 1) (bl 64 x.toNat):=by
  have:=Qs0 64 x.toNat
  rw [Nat.mod_eq_of_lt x.isLt] at this
  exact this.symm
 have d0:=Qvc 64 x.toNat
 have n0:=Qs9 64 x.toNat
 generalize bl 64 x.toNat = l0 at *
 have s1:=Qv3 (w:=1) 32 l0 (fun a ha=>by have:=d0 a ha; omega) (by omega)
 have d1:=Qpm l0 d0
 have n1:=Qm5 l0
 have m1:=Qne l0
 generalize prs l0 = l1 at *
 have b1:=Qof (B:=2 ^ (2 * 1)) (by decide) l1 (fun a ha=>by have:=d1 a ha; omega)
 have e1:r1.toNat = dgv (2 ^ 2) l1:=by
  rw [<- h1,BitVec.toNat_add,BitVec.toNat_and,BitVec.toNat_and,Qke,hx]
  have:(6148914691236517205#64).toNat = msk 1 32:=by rw [QzZ]; rfl
  rw [this,s1,Nat.mod_eq_of_lt]
  rw [show l1.length = 32 by omega] at b1
  exact b1
 have s2:=Qv3 (w:=2) 16 l1 (fun a ha=>by have:=d1 a ha; omega) (by omega)
 have d2:=Qpm l1 d1
 have n2:=Qm5 l1
 have m2:=Qne l1
 generalize prs l1 = l2 at *
 have b2:=Qof (B:=2 ^ (2 * 2)) (by decide) l2 (fun a ha=>by have:=d2 a ha; omega)
 have e3:r3.toNat = dgv (2 ^ 4) l2:=by
  rw [<- h3,BitVec.toNat_add,BitVec.toNat_and,BitVec.toNat_and,Qke,e1]
  have:(3689348814741910323#64).toNat = msk 2 16:=by rw [QAQ]; rfl
  rw [this,s2,Nat.mod_eq_of_lt]
  rw [show l2.length = 16 by omega] at b2
  exact b2
 have s3:=Qwc (w:=4) 8 l2 4 (fun a ha=>by have:=d2 a ha; omega) (by decide) (by omega)
 have d3:=Qpm l2 d2
 have n3:=Qm5 l2
 have m3:=Qne l2
 generalize prs l2 = l3 at *
 have b3:=Qof (B:=2 ^ (2 * 4)) (by decide) l3 (fun a ha=>by have:=d3 a ha; omega)
 have e5:r5.toNat = dgv 256 l3:=by
  rw [<- h5,BitVec.toNat_and,BitVec.toNat_add,Qke,e3]
  have:(1085102592571150095#64).toNat = msk 4 8:=by rw [QBy]; rfl
  have hno:dgv (2 ^ 4) l2 / 2 ^ 4 + dgv (2 ^ 4) l2 < 2 ^ 64:=by
   have:dgv (2 ^ 4) l2 / 2 ^ 4 + dgv (2 ^ 4) l2 = dgv (2 ^ 4) (adj l2):=by rw [Qnz (by decide) l2 (fun a ha=>by have:=d2 a ha; omega),Qoy]
   have h':=Qof (B:=2 ^ 4) (by decide) (adj l2) (fun a ha=>by have:=Qq3 l2 (k:=4) (fun a ha=>by have:=d2 a ha; omega) a ha; omega)
   rw [QoF,show l2.length = 16 by omega] at h'
   omega
  rw [Nat.mod_eq_of_lt hno,this,s3]
 have hl3:l3.length = 8:=by omega
 rw [hl3] at b3
 have b3:dgv 256 l3 < 2 ^ 64:=b3
 have e7:r7.toNat = (r5.toNat + r5.toNat / 256) % 2 ^ 64:=by rw [<- h7,BitVec.toNat_add,Qke]
 have e9:r9.toNat = (r7.toNat + r7.toNat / 65536) % 2 ^ 64:=by rw [<- h9,BitVec.toNat_add,Qke]
 have e11:r11.toNat = (r9.toNat + r9.toNat / 4294967296) % 2 ^ 64:=by rw [<- h11,BitVec.toNat_add,Qke]
 have hh:=Qvt l3 hl3 (fun a ha=>by have:=d3 a ha; omega) r5.toNat (r5.toNat + r5.toNat / 256) _ _ e5 rfl rfl rfl
 have hq:dgv 256 l3 < 2 ^ 60:=by
  match l3,hl3 with
  | [x0,x1,x2,x3,x4,x5,x6,x7],_=>
   have g0:=d3 x0 (by simp); have g1:=d3 x1 (by simp); have g2:=d3 x2 (by simp); have g3:=d3 x3 (by simp)
   have g4:=d3 x4 (by simp); have g5:=d3 x5 (by simp); have g6:=d3 x6 (by simp); have g7:=d3 x7 (by simp)
   simp only [dgv]; omega
 have q5:r5.toNat < 2 ^ 60:=by rw [e5]; exact hq
 have k7:r7.toNat = r5.toNat + r5.toNat / 256:=e7.trans (Nat.mod_eq_of_lt (Nat.lt_trans (Qjl q5) (by decide)))
 have q7:r7.toNat < 2 ^ 60 + 2 ^ 60:=by rw [k7]; exact Qjl q5
 have k9:r9.toNat = r7.toNat + r7.toNat / 65536:=e9.trans (Nat.mod_eq_of_lt (Nat.lt_trans (Qjl q7) (by decide)))
 have q9:r9.toNat < 2 ^ 60 + 2 ^ 60 + (2 ^ 60 + 2 ^ 60):=by rw [k9]; exact Qjl q7
 have k11:r11.toNat = r9.toNat + r9.toNat / 4294967296:=e11.trans (Nat.mod_eq_of_lt (Nat.lt_trans (Qjl q9) (by decide)))
 rw [k11,k9,k7]
 exact ⟨by rw [hh.1]; omega,hh.2⟩
theorem Qro {x r1 r3 r5 r7 r9 r11:BitVec 64} (h1:((x >>> (((1#64).toNat:Int)).toNat) &&& 6148914691236517205#64) + (x &&& 6148914691236517205#64) = r1)
  (h3:((r1 >>> (((2#64).toNat:Int)).toNat) &&& 3689348814741910323#64) + (r1 &&& 3689348814741910323#64) = r3) (h5:((r3 >>> (((4#64).toNat:Int)).toNat) + r3) &&& 1085102592571150095#64 = r5)
  (h7:r5 + (r5 >>> (((8#64).toNat:Int)).toNat) = r7) (h9:r7 + (r7 >>> (((16#64).toNat:Int)).toNat) = r9) (h11:r9 + (r9 >>> (((32#64).toNat:Int)).toNat) = r11):(r11.toNat:Int) <= 9223372036854775807:=by
 have:=(Qoi h1 h3 h5 h7 h9 h11).2; omega
theorem Qq8 {n:Nat} (h:n < 9223372036854775808):Qs6 (n:Int) 127 = ((n % 128:Nat):Int):=by
 unfold Qs6
 have e1:(BitVec.ofInt 64 (n:Int)).toNat = n:=by rw [BitVec.toNat_ofInt]; omega
 have e2:(BitVec.ofInt 64 (n:Int) &&& BitVec.ofInt 64 127).toNat = n % 128:=by
  rw [BitVec.toNat_and,e1]
  have:(BitVec.ofInt 64 127).toNat = 2 ^ 7 - 1:=by decide
  rw [this,Nat.and_two_pow_sub_one_eq_mod]
 rw [BitVec.toInt_eq_toNat_of_lt (by rw [e2]; omega),e2]
theorem QmE:∀ (n x:Nat),QoL (bl n x) <= n
 | 0,x=>Nat.le_refl _
 | n + 1,x=>by
  have:=QmE n (x / 2)
  rw [bl,QoL]; omega
theorem QkD:∀ (n x:Nat),x < 2 ^ n -> (QoL (bl n x) = 0 ↔ x = 0)
 | 0,x,h=>by simp [bl,QoL] at *; omega
 | n + 1,x,h=>by
  have ih:=QkD n (x / 2) (by rw [Nat.pow_succ] at h; omega)
  rw [bl,QoL]
  constructor
  ·intro h2
   have h3:=ih.1 (by omega)
   omega
  ·rintro rfl
   have:=ih.2 rfl
   simp at *; exact this
def QeK (l:List Qas) (j:Int):Qas:=l.getD j.toNat default
theorem QpK {B W m:Int} (h0:0 <= m) (h1:m < B) (hw:0 <= W):0 <= m * W /\ m * W + W <= B * W:=by
 refine ⟨Int.mul_nonneg h0 hw,?_⟩
 have:(m + 1) * W <= B * W:=Int.mul_le_mul_of_nonneg_right (by omega) hw
 rw [Int.add_mul,Int.one_mul] at this; exact this
theorem QsR {B W i:Int} (hw:0 < W) (h0:0 <= i) (h1:i < B * W):0 <= i / W /\ i / W < B /\ 0 <= i % W /\ i % W < W:=by
 refine ⟨Int.ediv_nonneg h0 (by omega),Int.ediv_lt_of_lt_mul hw h1,Int.emod_nonneg _ (by omega),Int.emod_lt_of_pos _ hw⟩
def zc (d:List Int):Nat:=d.count 0
theorem Qu4 {d:List Int} {i:Nat} {v:Int} (hi:i < d.length) (h0:d.getD i 0 = 0) (hv:v ≠ 0):zc (d.set i v) < zc d:=by
 unfold zc
 have e:d[i] = 0:=by simpa [List.getD,hi] using h0
 rw [List.count_set hi]
 have hp:0 < d.count 0:=List.count_pos_iff.2 (e ▸ List.getElem_mem hi)
 simp [e,hv]; omega
structure DQ (d:List Int) (more:Bool) (d':List Int) (more':Bool):Prop where
 len:d'.length = d.length
 le:zc d' <= zc d
 more:more' = true -> more = true \/ zc d' < zc d
theorem DQ.refl (d:List Int) (m:Bool):DQ d m d m:=⟨rfl,Nat.le_refl _,.inl⟩
theorem DQ.trans {a b c:List Int} {x y z:Bool} (h:DQ a x b y) (k:DQ b y c z):DQ a x c z:=
 ⟨k.len.trans h.len,Nat.le_trans k.le h.le,fun hz=>(k.more hz).elim (fun hy=>(h.more hy).imp_right fun q=>Nat.lt_of_le_of_lt k.le q) (fun q=>.inr (Nat.lt_of_lt_of_le q h.le))⟩
theorem Qm1 (t:List Int) (k n:Int) (hn:n <= 9223372036854775807):0 <= (Qan t k n).1 /\ ((Qan t k n).1 < n \/ (Qan t k n).1 = 0):=by
 unfold Qan
 by_cases h1:n <= 1
 ·simp [h1]
 ·by_cases h2:(t.length:Int) <= k
  ·simp [h1,h2]
  ·simp only [decide_eq_false h1,decide_eq_false h2,cond_false]
   have:=Qlg (t.getD (k + 1 - 1).toNat 0) n (by omega)
   unfold Qrc
   exact ⟨this.1,.inl this.2⟩
theorem QmW (t:List Int) (k n:Int) (h1:1 <= n) (hn:n <= 9223372036854775807):0 <= (Qan t k n).1 /\ (Qan t k n).1 < n:=by
 have:=Qm1 t k n hn; omega
theorem QjG (l:List Int) (i:Int):0 <= (QaO l i).1 /\ (QaO l i).1 <= 8:=by
 unfold QaO
 exact Qin (p:=fun x:Int=>0 <= x /\ x <= 8) (by decide) (by decide) _
theorem Qse (l:List Int) (i:Int):Qaa (QaO l i).1:=by
 have:=QjG l i; unfold Qaa; omega
theorem QiU (l:List Int) (n:Int):∀ (m:Nat) (i:Int),0 <= i -> i + m = (l.length:Int) -> (∀ j:Int,0 <= j -> j < i -> l.getD j.toNat 0 < n) ->
  i <= Qbp l n m i /\ Qbp l n m i <= (l.length:Int) /\ (∀ j:Int,0 <= j -> j < Qbp l n m i -> l.getD j.toNat 0 < n) /\ (Qbp l n m i < (l.length:Int) -> n <= l.getD (Qbp l n m i).toNat 0)
 | 0,i,hi,hm,h=>by
  simp only [Qbp]
  exact ⟨by omega,by omega,h,fun h'=>by omega⟩
 | m + 1,i,hi,hm,h=>by
  rw [Qbp]
  by_cases hlt:l.getD i.toNat 0 < n
  ·simp only [decide_eq_true hlt,cond_true]
   have:=QiU l n m (i + 1) (by omega) (by omega) (fun j j0 j1=>by
    rcases Int.lt_or_eq_of_le (show j <= i by omega) with h' | rfl
    ·exact h j j0 h'
    ·exact hlt)
   exact ⟨by omega,this.2.1,this.2.2⟩
  ·simp only [decide_eq_false hlt,cond_false]
   exact ⟨by omega,by omega,h,fun _=>by omega⟩
theorem Qi5 (l:List Int) (n:Int):QcO l n = l /\ n ∈ l \/ ∃ q:Nat,q <= l.length /\ QcO l n = l.take q ++ [n] ++ l.drop q /\ (∀ j:Nat,j < q -> l.getD j 0 < n) /\ (q < l.length -> n < l.getD q 0):=by
 have hs:=QiU l n ((((l.length:Nat):Int) - 0).toNat) 0 (by omega) (by omega) (fun j h1 h2=>by omega)
 unfold QcO
 simp only
 generalize Qbp l n ((((l.length:Nat):Int) - 0).toNat) 0 = q at hs
 obtain ⟨h0,h1,h2,h3⟩:=hs
 have e:((((l.take ((q:Int).toNat)).drop 0)) ++ [n]) ++ ((l.take l.length).drop ((q:Int).toNat)) = l.take q.toNat ++ [n] ++ l.drop q.toNat:=by simp
 rw [e]
 by_cases hq:q < (l.length:Int)
 ·simp only [decide_eq_true hq,cond_true]
  by_cases hn:l.getD q.toNat 0 = n
  ·have hb:(l.getD q.toNat 0 == n) = true:=by rw [hn]; simp
   rw [hb]
   exact .inl ⟨rfl,hn ▸ Qa4 (by omega)⟩
  ·have hb:(l.getD q.toNat 0 == n) = false:=by rw [beq_eq_false_iff_ne]; exact hn
   rw [hb]
   have:=h3 hq
   exact .inr ⟨q.toNat,by omega,rfl,fun j hj=>by have:=h2 (j:Int) (by omega) (by omega); simpa [-List.getD_eq_getElem?_getD] using this,fun _=>by omega⟩
 ·simp only [decide_eq_false hq,cond_false]
  exact .inr ⟨q.toNat,by omega,rfl,fun j hj=>by have:=h2 (j:Int) (by omega) (by omega); simpa [-List.getD_eq_getElem?_getD] using this,fun h=>by omega⟩
theorem Qp1 (l:List Int) (n x:Int):x ∈ QcO l n ↔ x ∈ l \/ x = n:=by
 rcases Qi5 l n with ⟨e,h⟩ | ⟨q,_,e,_,_⟩
 ·rw [e]
  exact ⟨.inl,fun h'=>h'.elim id (fun e=>e ▸ h)⟩
 ·rw [e]
  have hm:x ∈ l ↔ x ∈ l.take q \/ x ∈ l.drop q:=by
   have:=List.mem_append (a:=x) (s:=l.take q) (t:=l.drop q)
   rw [List.take_append_drop] at this; exact this
  rw [hm]
  simp only [List.mem_append,List.mem_singleton]
  constructor
  ·rintro ((h | h) | h)
   ·exact .inl (.inl h)
   ·exact .inr h
   ·exact .inl (.inr h)
  ·rintro ((h | h) | h)
   ·exact .inl (.inl h)
   ·exact .inr h
   ·exact .inl (.inr h)
theorem QoB {l:List Int} {n x:Int} (h:Quh l n) (hx:0 <= x /\ x < n):Quh (QcO l x) n /\ (QcO l x).length <= l.length + 1:=by
 refine ⟨⟨fun y hy=>?_,?_⟩,?_⟩
 ·rcases (Qp1 l x y).1 hy with h' | rfl
  ·exact h.1 y h'
  ·exact hx
 ·rcases Qi5 l x with ⟨e,_⟩ | ⟨q,hq,e,h1,h2⟩
  ·rw [e]; exact h.2
  ·rw [e,List.pairwise_append,List.pairwise_append]
   refine ⟨⟨h.2.sublist (List.take_sublist q l),by simp,fun a ha b hb=>?_⟩,h.2.sublist (List.drop_sublist q l),fun a ha b hb=>?_⟩
   ·rw [List.mem_singleton] at hb; subst hb
    obtain ⟨j,hj,rfl⟩:=List.mem_iff_getElem.1 ha
    rw [List.length_take] at hj
    have:=h1 j (by omega)
    rw [QgY (by omega)] at this
    simpa using this
   ·have hbx:x < b:=by
     obtain ⟨j,hj,rfl⟩:=List.mem_iff_getElem.1 hb
     simp at hj
     have h3:=h2 (by omega)
     rw [QgY (by omega)] at h3
     rw [List.getElem_drop]
     rcases Nat.eq_zero_or_pos j with rfl | hj0
     ·simpa using h3
     ·have:=List.pairwise_iff_getElem.1 h.2 q (q + j) (by omega) (by omega) (by omega)
      omega
    rcases List.mem_append.1 ha with ha | ha
    ·have hax:a < x:=by
      obtain ⟨j,hj,rfl⟩:=List.mem_iff_getElem.1 ha
      rw [List.length_take] at hj
      have:=h1 j (by omega)
      rw [QgY (by omega)] at this
      simpa using this
     omega
    ·simp at ha; omega
 ·rcases Qi5 l x with ⟨e,_⟩ | ⟨q,hq,e,_,_⟩
  ·rw [e]; omega
  ·rw [e]; simp; omega
theorem Qi6 {w:Int} (h0:0 <= w) (h1:w <= 256):VSt w (QaK w):=by
 refine ⟨⟨h0,h1,?_,fun b _ _=>Qic _ b⟩,rfl⟩
 simp [QaK]; omega
theorem QnR {w:Int} {s:Qaf} (h:VSt w s) {b:Int} (hb:0 <= b /\ b < w):VSt w (Qbx s b):=by
 obtain ⟨⟨h0,h1,h2,h3⟩,rfl⟩:=h
 have he:(List.replicate (((s.Width + 63) / 64):Int).toNat 0#64).length = s.Words.length:=by simp; omega
 have e:(Qbx s b).Words = s.Words.set (b / 64).toNat ((s.Words.getD (b / 64).toNat 0#64) ||| (1#64 <<< (b % 64).toNat)):=by
  unfold Qbx QaK
  simp only
  have e1:s.Words.take (List.replicate (((s.Width + 63) / 64):Int).toNat 0#64).length ++ (List.replicate (((s.Width + 63) / 64):Int).toNat 0#64).drop s.Words.length = s.Words:=by
   rw [he,List.take_length,<- he,List.drop_length,List.append_nil]
  rw [e1,Qhp (by omega)]
 refine ⟨⟨h0,h1,?_,fun c c1 c2=>?_⟩,rfl⟩
 ·rw [e,List.length_set]; exact h2
 ·rw [e,List.length_set] at c2
  have c1:s.Width <= c:=c1
  have:=h3 c c1 c2
  rw [e]
  unfold Qgt at this ⊢
  rw [List.getD_eq_getElem?_getD] at this ⊢
  rw [List.getElem?_set]
  by_cases hq:(b / 64).toNat = (c / 64).toNat
  ·rw [if_pos hq,if_pos (by clear e he; omega)]
   simp only [Option.getD_some,BitVec.getLsbD_or]
   rw [List.getD_eq_getElem?_getD,hq,this,Bool.false_or,BitVec.getLsbD_shiftLeft]
   have:¬ (c % 64).toNat = (b % 64).toNat:=by
    omega
   rw [BitVec.getLsbD_one]
   simp
   omega
  ·rw [if_neg hq]; exact this
theorem Qn9 {w:Int} {s:Qaf} (h:VSt w s) {b:Int} (hb:0 <= b /\ b < w):(Qbx s b).Words = s.Words.set (b / 64).toNat ((s.Words.getD (b / 64).toNat 0#64) ||| (1#64 <<< (b % 64).toNat)):=by
 have hw:=Qif h
 have he:(List.replicate (((s.Width + 63) / 64):Int).toNat 0#64).length = s.Words.length:=by simp; omega
 unfold Qbx QaK
 simp only
 have e1:s.Words.take (List.replicate (((s.Width + 63) / 64):Int).toNat 0#64).length ++ (List.replicate (((s.Width + 63) / 64):Int).toNat 0#64).drop s.Words.length = s.Words:=by
  rw [he,List.take_length,<- he,List.drop_length,List.append_nil]
 rw [e1,Qhp (by omega)]
theorem Qm3 {t:List Int} {w:Int}:∀ (m:Nat) (k:Int) (s0:Int) (s1:List (BitVec 64)) (b:Int),0 <= b -> b + m <= w -> VSt w ⟨s0,s1⟩ -> VSt w ⟨(QdN t m k s0 s1 b).2.1,(QdN t m k s0 s1 b).2.2⟩
 | 0,k,s0,s1,b,_,_,h=>h
 | m + 1,k,s0,s1,b,hb,hm,h=>by
  rw [QdN]
  cases (Qan t k 3).1 == 1 with
  | true=>exact Qm3 m _ _ _ (b + 1) (by omega) (by omega) (QnR h ⟨hb,by omega⟩)
  | false=>exact Qm3 m _ _ _ (b + 1) (by omega) (by omega) h
theorem Qwb (t:List Int) (k:Int) {w:Int} (h0:0 <= w) (h1:w <= 256):VSt w (Qer t k w).1:=by
 unfold Qer
 exact Qm3 _ _ _ _ _ (by omega) (by omega) (Qi6 h0 h1)
theorem QuT {t:List Int} {k w:Int} {r:Qaf × Int} (h:Qer t k w = r) (h0:0 <= w) (h1:w <= 256):Qop r.1:=by rw [<- h]; exact (Qwb t k h0 h1).1.ok
theorem QeG {t:List Int} {w:Int}:∀ (m:Nat) (k:Int) (f0:Int) (f1:List (BitVec 64)) (f2:Int) (f3:List (BitVec 64)) (b:Int),0 <= b -> b + m <= w -> VSt w ⟨f0,f1⟩ -> VSt w ⟨f2,f3⟩ ->
  VSt w ⟨(QaI t m k f0 f1 f2 f3 b).2.1,(QaI t m k f0 f1 f2 f3 b).2.2.1⟩ /\ VSt w ⟨(QaI t m k f0 f1 f2 f3 b).2.2.2.1,(QaI t m k f0 f1 f2 f3 b).2.2.2.2⟩
 | 0,k,f0,f1,f2,f3,b,_,_,h,h'=>⟨h,h'⟩
 | m + 1,k,f0,f1,f2,f3,b,hb,hm,h,h'=>by
  rw [QaI]
  cases (Qan t k 6).1 == 1 with
  | true=>exact QeG m _ _ _ _ _ (b + 1) (by omega) (by omega) (QnR h ⟨hb,by omega⟩) h'
  | false=>
   cases (Qan t k 6).1 == 2 with
   | true=>exact QeG m _ _ _ _ _ (b + 1) (by omega) (by omega) h (QnR h' ⟨hb,by omega⟩)
   | false=>
    cases (Qan t k 6).1 == 3 with
    | true=>exact QeG m _ _ _ _ _ (b + 1) (by omega) (by omega) h (QnR h' ⟨hb,by omega⟩)
    | false=>exact QeG m _ _ _ _ _ (b + 1) (by omega) (by omega) h h'
theorem Qk6 {t:List Int} {n:Int} (hn:1 <= n /\ n <= 9223372036854775807):∀ (m:Nat) (k:Int) (d:List Int) (q:Int),Quh d n -> Quh (QbN t n m k d q).2 n /\ (QbN t n m k d q).2.length <= d.length + m
 | 0,k,d,q,h=>⟨h,by simp [QbN]⟩
 | m + 1,k,d,q,h=>by
  rw [QbN]
  have hi:=QoB h (QmW t k n hn.1 hn.2)
  have:=Qk6 (t:=t) hn m (Qan t k n).2 _ (q - 1) hi.1
  exact ⟨this.1,by have:=this.2; have:=hi.2; omega⟩
theorem QpY {l:List Int} {n:Int} (hr:QbE l n = true):∀ x ∈ l,0 <= x /\ x < n:=by
 have:=QnX (fun r i=>QaW l n r i) (fun i=>bif decide (l.getD i.toNat 0 < 0) then true else bif decide (n <= l.getD i.toNat 0) then true else bif decide (0 < i) then decide (l.getD i.toNat 0 <= l.getD (i - 1).toNat 0) else false) false () (fun _=>rfl)
  (fun r i=>by
   show QaW l n (r + 1) i = _
   rw [QaW]
   cases decide (l.getD i.toNat 0 < 0) <;> cases decide (n <= l.getD i.toNat 0) <;> cases decide (0 < i) <;> rfl) ((((l.length:Nat):Int) - 0).toNat) 0
 unfold QbE at hr
 rcases this with ⟨e,j,j1,j2,j3⟩ | ⟨e,h⟩
 ·rw [e] at hr; simp at hr
 ·intro x hx
  obtain ⟨j,j1,j2,rfl⟩:=QiA.1 hx
  have:=h j j1 (by omega)
  simp [Bool.cond_eq_ite,-List.getD_eq_getElem?_getD] at this
  omega
theorem QqN {l:List Int} {n:Int} (h:Quh l n):QbE l n = true:=by
 have loop:∀ (m:Nat) (i:Int),0 <= i -> i + m <= (l.length:Int) -> QaW l n m i = .brk ():=by
  intro m
  induction m with
  | zero=>intro i _ _; rfl
  | succ m ih=>
   intro i hi hm
   rw [QaW]
   have:=h.1 _ (Qa4 (xs:=l) (i:=i.toNat) (d:=0) (by omega))
   rw [decide_eq_false (by omega),decide_eq_false (by omega)]
   simp only [cond_false]
   rw [ih (i + 1) (by omega) (by omega)]
   by_cases h0:0 < i
   ·have hp:=List.pairwise_iff_getElem.1 h.2 (i - 1).toNat i.toNat (by omega) (by omega) (by omega)
    have hb:¬ l.getD i.toNat 0 <= l.getD (i - 1).toNat 0:=by
     rw [QgY (show i.toNat < l.length by omega),QgY (show (i - 1).toNat < l.length by omega)]; omega
    simp only [decide_eq_true h0,cond_true,decide_eq_false hb,cond_false]
   ·simp only [decide_eq_false h0,cond_false]
 unfold QbE
 rw [loop _ 0 (by omega) (by omega)]
theorem QcZ (s:Qaf):QaT s = true ↔ QpZ s:=by
 have:=QnX (fun r i=>QdU s r i) (fun b=>(((s.Words.getD ((b / 64):Int).toNat 0#64) >>> (((BitVec.ofInt 64 (b % 64)).toNat:Int)).toNat) &&& 1#64) == 1#64) false () (fun _=>rfl) (fun _ _=>rfl)
  ((((64 * ((s.Words.length:Nat):Int)):Int) - s.Width).toNat) s.Width
 have hb:∀ b:Int,((((s.Words.getD ((b / 64):Int).toNat 0#64) >>> (((BitVec.ofInt 64 (b % 64)).toNat:Int)).toNat) &&& 1#64) == 1#64) = Qgt s.Words b:=by
  intro b
  rw [Qnt,Qhp (by omega)]; rfl
 simp only [hb] at this
 unfold QaT QpZ
 simp only [Bool.cond_eq_ite]
 by_cases h1:s.Width < 0
 ·simp [h1]; omega
 ·by_cases h2:256 < s.Width
  ·simp [h1,h2]; omega
  ·by_cases h3:(s.Words.length:Int) = (s.Width + 63) / 64
   ·rcases this with ⟨e,j,j1,j2,j3⟩ | ⟨e,h⟩
    ·rw [e]
     simp only [h1,h2,h3,decide_false,bne_self_eq_false,Bool.false_eq_true,if_false,false_iff]
     rintro ⟨_,_,_,h⟩
     rw [h j j1 (by omega)] at j3; cases j3
    ·rw [e]
     simp only [h1,h2,h3,decide_false,bne_self_eq_false,Bool.false_eq_true,if_false,true_iff]
     refine ⟨by omega,by omega,trivial,fun b b1 b2=>h b b1 (by omega)⟩
   ·simp [h1,h2,h3]
theorem Qqe {s:Qaf} (h:QaT s = true):0 <= s.Width /\ s.Width <= 256 /\ (s.Words.length:Int) = (s.Width + 63) / 64:=by
 have:=(QcZ s).1 h; exact ⟨this.1,this.2.1,this.2.2.1⟩
theorem Qg0 {w:Int} {s:Qaf} (h:VSt w s):QaT s = true:=(QcZ s).2 h.1
def QrE (w:Int) (l:List QbA) (a b:Int):Prop:=l.length <= 12 /\ (∀ c ∈ l,(0 <= c.From /\ c.From < w) /\ (0 <= c.To /\ c.To < w) /\ (c.From < a \/ (c.From = a /\ c.To < b))) /\ l.Pairwise (fun x y=>QcK x y = true)
theorem QpP (x y:QbA):QcK x y = true ↔ x.From < y.From \/ (x.From = y.From /\ x.To < y.To):=by
 unfold QcK
 by_cases h:x.From < y.From
 ·simp [h]
 ·by_cases h2:x.From = y.From
  ·simp [h2]
  ·simp [h,h2]
theorem QrE.next {w:Int} {l:List QbA} {a b a' b':Int} (h:QrE w l a b) (hab:a < a' \/ (a = a' /\ b <= b')):QrE w l a' b':=
 ⟨h.1,fun c hc=>⟨(h.2.1 c hc).1,(h.2.1 c hc).2.1,by have:=(h.2.1 c hc).2.2; omega⟩,h.2.2⟩
theorem QrE.push {w:Int} {l:List QbA} {a b:Int} (h:QrE w l a b) (hl:l.length < 12) (ha:0 <= a /\ a < w) (hb:0 <= b /\ b < w):QrE w (l ++ [⟨a,b⟩]) a (b + 1):=by
 refine ⟨by simp; omega,fun c hc=>?_,?_⟩
 ·rcases List.mem_append.1 hc with hc | hc
  ·have:=h.2.1 c hc; exact ⟨this.1,this.2.1,by omega⟩
  ·simp at hc; subst hc; exact ⟨ha,hb,.inr ⟨rfl,by show b < b + 1; omega⟩⟩
 ·rw [List.pairwise_append]
  refine ⟨h.2.2,by simp,fun x hx y hy=>?_⟩
  simp at hy; subst hy
  rw [QpP]
  exact (h.2.1 x hx).2.2
theorem QhE {t:List Int} {w a:Int} (ha:0 <= a /\ a < w):∀ (m:Nat) (k:Int) (l:List QbA) (b:Int),0 <= b -> b + m <= w -> QrE w l a b -> QrE w (Qbw t w a m k l b).2 (a + 1) 0
 | 0,k,l,b,_,_,h=>h.next (.inl (by omega))
 | m + 1,k,l,b,hb,hm,h=>by
  rw [Qbw]
  by_cases hl:(l.length:Int) < 12
  ·simp only [decide_eq_true hl,cond_true]
   cases (Qan t k (2 * w)).1 == 1 with
   | true=>exact QhE ha m _ _ (b + 1) (by omega) (by omega) (h.push (by omega) ha ⟨hb,by omega⟩)
   | false=>exact QhE ha m _ _ (b + 1) (by omega) (by omega) (h.next (.inr ⟨rfl,by omega⟩))
  ·simp only [decide_eq_false hl,cond_false]
   exact h.next (.inl (by omega))
theorem QjE {t:List Int} {w:Int}:∀ (m:Nat) (k:Int) (l:List QbA) (a:Int),0 <= a -> a + m <= w -> QrE w l a 0 -> ∃ a',QrE w (Qb0 t w m k l a).2 a' 0
 | 0,k,l,a,_,_,h=>⟨a,h⟩
 | m + 1,k,l,a,ha,hm,h=>by
  rw [Qb0]
  exact QjE m _ _ (a + 1) (by omega) (by omega) (QhE ⟨ha,by omega⟩ _ _ _ _ (by omega) (by omega) h)
def VTr (w:Int) (t:Qad):Prop:=Qai t = true /\ t.Gen.Width = w
structure Qfg (s:Qac):Prop where
 w:0 <= s.Width /\ s.Width <= 256
 n:1 <= s.Deps.length /\ s.Deps.length <= 256
 tl:s.Transfers.length = s.Deps.length
 bl:s.Boundary.length = s.Deps.length
 ris:∀ j:Int,0 <= j -> j < (s.Deps.length:Int) -> QbE (s.Deps.getD j.toNat []) (s.Deps.length:Int) = true
 edges:tot s s.Deps.length 0 <= 1024
 tr:∀ t ∈ s.Transfers,VTr s.Width t
 bd:∀ b ∈ s.Boundary,VSt s.Width b
theorem Qfg.dep_len {s:Qac} (h:Qfg s) (j:Int) (h0:0 <= j) (h1:j < (s.Deps.length:Int)):(s.Deps.getD j.toNat []).length <= 1024:=by
 have:=QsP s s.Deps.length 0 j h0 (by omega)
 have:=h.edges
 omega
theorem Qeb {t:Qad} (h:Qai t = true):QpZ t.Gen /\ QpZ t.Kill /\ t.Gen.Width = t.Kill.Width /\ t.Copies.length <= 64:=by
 unfold Qai at h
 cases h1:QaT t.Gen with
 | false=>simp [h1] at h
 | true=>
  cases h2:QaT t.Kill with
  | false=>simp [h1,h2] at h
  | true=>
   by_cases h3:t.Gen.Width = t.Kill.Width
   ·by_cases h4:64 < (t.Copies.length:Int)
    ·simp [h1,h2,h3,h4] at h
    ·exact ⟨(QcZ _).1 h1,(QcZ _).1 h2,h3,by omega⟩
   ·simp [h1,h2,h3] at h
def Qu2 (s:Qac) (j:Int):Prop:=QbE (s.Deps.getD j.toNat []) (s.Boundary.length:Int) = true /\ VTr s.Width (s.Transfers.getD j.toNat default) /\ VSt s.Width (s.Boundary.getD j.toNat default)
theorem Qsp {s:Qac} (hd:s.Deps.length = s.Boundary.length) (ht:s.Transfers.length = s.Boundary.length) :
  (∀ j:Int,0 <= j -> j < (s.Boundary.length:Int) -> Qu2 s j) ↔ (∀ j:Int,0 <= j -> j < (s.Deps.length:Int) -> QbE (s.Deps.getD j.toNat []) (s.Deps.length:Int) = true) /\ (∀ t ∈ s.Transfers,VTr s.Width t) /\ (∀ b ∈ s.Boundary,VSt s.Width b):=by
 constructor
 ·intro h
  refine ⟨fun j j1 j2=>?_,fun t ht'=>?_,fun b hb=>?_⟩
  ·have:=(h j j1 (by omega)).1; rw [hd]; exact this
  ·obtain ⟨j,j1,j2,rfl⟩:=(Qey (d:=default)).1 ht'
   exact (h j j1 (by omega)).2.1
  ·obtain ⟨j,j1,j2,rfl⟩:=(Qey (d:=default)).1 hb
   exact (h j j1 (by omega)).2.2
 ·rintro ⟨h1,h2,h3⟩ j j1 j2
  exact ⟨by rw [<- hd]; exact h1 j j1 (by omega),h2 _ (Qa4 (by omega)),h3 _ (Qa4 (by omega))⟩
theorem QkK {t:Qad} (hg:QpZ t.Gen) (hk:QpZ t.Kill) (he:t.Gen.Width = t.Kill.Width) (hl:t.Copies.length <= 64) (hc:∀ c ∈ t.Copies,(0 <= c.From /\ c.From < t.Gen.Width) /\ (0 <= c.To /\ c.To < t.Gen.Width)) (hs:t.Copies.Pairwise (fun x y=>QcK x y = true)) :
  Qai t = true:=by
 have loop:∀ (m:Nat) (i:Int),0 <= i -> i + m <= (t.Copies.length:Int) -> Qao t m i = .brk ():=by
  intro m
  induction m with
  | zero=>intro i _ _; rfl
  | succ m ih=>
   intro i hi hm
   rw [Qao]
   have:=hc _ (Qa4 (xs:=t.Copies) (i:=i.toNat) (d:=default) (by omega))
   rw [decide_eq_false (by omega),decide_eq_false (by omega),decide_eq_false (by omega),decide_eq_false (by omega)]
   simp only [cond_false]
   rw [ih (i + 1) (by omega) (by omega)]
   by_cases h0:0 < i
   ·simp only [decide_eq_true h0,cond_true]
    have hb:QcK (t.Copies.getD (i - 1).toNat default) (t.Copies.getD i.toNat default) = true:=by
     have hp:=List.pairwise_iff_getElem.1 hs (i - 1).toNat i.toNat (by omega) (by omega) (by omega)
     have g1:t.Copies.getD (i - 1).toNat default = t.Copies[(i - 1).toNat]'(by omega):=by rw [List.getD_eq_getElem?_getD,List.getElem?_eq_getElem (show (i - 1).toNat < t.Copies.length by omega)]; rfl
     have g2:t.Copies.getD i.toNat default = t.Copies[i.toNat]'(by omega):=by rw [List.getD_eq_getElem?_getD,List.getElem?_eq_getElem (show i.toNat < t.Copies.length by omega)]; rfl
     rw [g1,g2]; exact hp
    rw [hb]; rfl
   ·simp only [decide_eq_false h0,cond_false]
 unfold Qai
 rw [(QcZ _).2 hg,(QcZ _).2 hk]
 have e1:(t.Gen.Width != t.Kill.Width) = false:=by simp [he]
 have e2:decide (64 < ((t.Copies.length:Nat):Int)) = false:=decide_eq_false (by omega)
 simp only [Bool.not_true,cond_false,e1,e2]
 rw [loop _ 0 (by omega) (by omega)]
theorem Qmo (t:List Int) (k:Int) {w:Int} (h0:0 <= w) (h1:w <= 256):VTr w (QdJ t k w).1:=by
 unfold QdJ
 simp only
 have hE:=Qi6 h0 h1
 have a:=QeG (t:=t) (w:=w) ((w:Int) - 0).toNat k _ _ _ _ 0 (by omega) (by omega) hE hE
 obtain ⟨a',b⟩:=QjE (t:=t) (w:=w) ((w:Int) - 0).toNat (QaI t ((w:Int) - 0).toNat k (QaK w).Width (QaK w).Words (QaK w).Width (QaK w).Words 0).1 [] 0 (by omega) (by omega) ⟨by simp,by simp,by simp⟩
 refine ⟨QkK a.1.1 a.2.1 (a.1.2.trans a.2.2.symm) (by have:=b.1; simp only; omega) (fun c hc=>?_) b.2.2,a.1.2⟩
 have:=b.2.1 c hc
 have hw:=a.1.2.symm
 exact ⟨⟨this.1.1,hw ▸ this.1.2⟩,this.2.1.1,hw ▸ this.2.1.2⟩
structure Qyx (w n:Int) (s1:List (List Int)) (s2:List Qad) (s3:List Qaf) (i:Int):Prop where
 l1:(s1.length:Int) = i
 l2:(s2.length:Int) = i
 l3:(s3.length:Int) = i
 d:∀ x ∈ s1,Quh x n /\ x.length <= 3
 t:∀ x ∈ s2,VTr w x
 b:∀ x ∈ s3,VSt w x
theorem Qhu {t:List Int} {w n:Int} (hw:0 <= w /\ w <= 256) (hn:1 <= n /\ n <= 9223372036854775807):∀ (m:Nat) (k:Int) (s1:List (List Int)) (s2:List Qad) (s3:List Qaf) (i:Int),Qyx w n s1 s2 s3 i ->
  Qyx w n (Qbm t n w m k s1 s2 s3 i).2.1 (Qbm t n w m k s1 s2 s3 i).2.2.1 (Qbm t n w m k s1 s2 s3 i).2.2.2 (i + m)
 | 0,k,s1,s2,s3,i,h=>by simpa [Qbm] using h
 | m + 1,k,s1,s2,s3,i,h=>by
  rw [Qbm]
  simp only
  have h4:=QmW t k 4 (by omega) (by omega)
  have hd:=Qk6 hn (Qan t k 4).1.toNat (Qan t k 4).2 [] (Qan t k 4).1 ⟨by simp,by simp⟩ (t:=t)
  have add:∀ {x:List Int} {y:Qad} {z:Qaf},(Quh x n /\ x.length <= 3) -> VTr w y -> VSt w z -> Qyx w n (s1 ++ [x]) (s2 ++ [y]) (s3 ++ [z]) (i + 1):=fun {x y z} hx hy hz=>
   ⟨by have:=h.l1; simp; omega,by have:=h.l2; simp; omega,by have:=h.l3; simp; omega,
    fun a ha=>(List.mem_append.1 ha).elim (h.d a) (fun e=>by simp at e; subst e; exact hx),
    fun a ha=>(List.mem_append.1 ha).elim (h.t a) (fun e=>by simp at e; subst e; exact hy),
    fun a ha=>(List.mem_append.1 ha).elim (h.b a) (fun e=>by simp at e; subst e; exact hz)⟩
  have hd2:(QbN t n (Qan t k 4).1.toNat (Qan t k 4).2 [] (Qan t k 4).1).2.length <= 3:=by
   have:=hd.2
   simp only [List.length_nil] at this
   omega
  have e:(i + ((m + 1:Nat):Int)) = (i + 1) + m:=by omega
  rw [e]
  cases (Qan t (QbN t n (Qan t k 4).1.toNat (Qan t k 4).2 [] (Qan t k 4).1).1 3).1 == 1 with
  | true=>exact Qhu hw hn m _ _ _ _ (i + 1) (add ⟨hd.1,hd2⟩ (Qmo t _ hw.1 hw.2) (Qwb t _ hw.1 hw.2))
  | false=>exact Qhu hw hn m _ _ _ _ (i + 1) (add ⟨hd.1,hd2⟩ (Qmo t _ hw.1 hw.2) (Qi6 hw.1 hw.2))
theorem Qso (t:List Int) (k:Int) {n:Int} (hn:0 <= n /\ n <= 250):Qfg (Qdl t k n).1:=by
 unfold Qdl
 simp only
 have hw:=QmW t k 7 (by omega) (by omega)
 have hw2:=QjG t k
 have hr:=Qm1 t (QaO t k).2 n (by omega)
 have hN:1 <= 1 + (Qan t (QaO t k).2 n).1 /\ 1 + (Qan t (QaO t k).2 n).1 <= 251:=by omega
 have hW:0 <= (QaO t k).1 % 5 /\ (QaO t k).1 % 5 <= 4:=by omega
 have hL:=Qhu (t:=t) (w:=(QaO t k).1 % 5) (n:=1 + (Qan t (QaO t k).2 n).1) (by omega) (by omega) ((1 + (Qan t (QaO t k).2 n).1) - 0).toNat (Qan t (QaO t k).2 n).2 [] [] [] 0 ⟨by simp,by simp,by simp,by simp,by simp,by simp⟩
 have e:(0:Int) + (((1 + (Qan t (QaO t k).2 n).1) - 0).toNat:Int) = 1 + (Qan t (QaO t k).2 n).1:=by omega
 rw [e] at hL
 generalize Qbm t (1 + (Qan t (QaO t k).2 n).1) ((QaO t k).1 % 5) ((1 + (Qan t (QaO t k).2 n).1) - 0).toNat (Qan t (QaO t k).2 n).2 [] [] [] 0 = R at hL ⊢
 obtain ⟨r0,r1,r2,r3⟩:=R
 simp only at hL ⊢
 obtain ⟨l1,l2,l3,d,tr,b⟩:=hL
 refine ⟨by simp only; omega,by simp only; omega,by simp only; omega,by simp only; omega,fun j j0 j1=>?_,?_,tr,b⟩
 ·simp only at j1 ⊢
  rw [l1]
  exact QqN (d _ (Qa4 (by omega))).1
 ·refine Int.le_trans (QsS (b:=3) (fun x hx=>(d x hx).2) _ _) ?_
  simp only; omega
theorem QAP {t:Qad} (h:Qai t = true):0 <= t.Gen.Width /\ t.Gen.Width <= 256 /\ (t.Gen.Words.length:Int) = (t.Gen.Width + 63) / 64:=by
 have:=(Qeb h).1; exact ⟨this.1,this.2.1,this.2.2.1⟩
theorem Qfg.dep_mem {s:Qac} (h:Qfg s) {j:Int} (h0:0 <= j) (h1:j < (s.Deps.length:Int)):∀ x ∈ s.Deps.getD j.toNat [],0 <= x /\ x < (s.Deps.length:Int):=QpY (h.ris j h0 h1)
theorem QiH {t:Qad} (h:Qai t = true):∀ c ∈ t.Copies,(0 <= c.From /\ c.From < t.Gen.Width) /\ (0 <= c.To /\ c.To < t.Gen.Width):=by
 have sc:∀ (m:Nat) (i:Int),0 <= i -> i + m = (t.Copies.length:Int) -> (Qao t m i = .ret false) \/ ∀ j:Int,i <= j -> j < i + m -> (0 <= (t.Copies.getD j.toNat default).From /\ (t.Copies.getD j.toNat default).From < t.Gen.Width) /\ (0 <= (t.Copies.getD j.toNat default).To /\ (t.Copies.getD j.toNat default).To < t.Gen.Width):=by
  intro m
  induction m with
  | zero=>intro i _ _; exact .inr fun j a b=>by omega
  | succ m ih=>
   intro i h0 h1
   rw [Qao]
   by_cases a:(t.Copies.getD i.toNat default).From < 0
   ·exact .inl (by simp only [decide_eq_true a,cond_true])
   by_cases b:t.Gen.Width <= (t.Copies.getD i.toNat default).From
   ·exact .inl (by simp only [decide_eq_false a,decide_eq_true b,cond_true,cond_false])
   by_cases c:(t.Copies.getD i.toNat default).To < 0
   ·exact .inl (by simp only [decide_eq_false a,decide_eq_false b,decide_eq_true c,cond_true,cond_false])
   by_cases d:t.Gen.Width <= (t.Copies.getD i.toNat default).To
   ·exact .inl (by simp only [decide_eq_false a,decide_eq_false b,decide_eq_false c,decide_eq_true d,cond_true,cond_false])
   simp only [decide_eq_false a,decide_eq_false b,decide_eq_false c,decide_eq_false d,cond_false]
   have fin:(Qao t m (i + 1) = .ret false) \/ ∀ j:Int,i <= j -> j < i + ((m + 1:Nat):Int) -> (0 <= (t.Copies.getD j.toNat default).From /\ (t.Copies.getD j.toNat default).From < t.Gen.Width) /\ (0 <= (t.Copies.getD j.toNat default).To /\ (t.Copies.getD j.toNat default).To < t.Gen.Width):=by
    rcases ih (i + 1) (by omega) (by omega) with h | h
    ·exact .inl h
    ·refine .inr fun j j1 j2=>?_
     by_cases e:j = i
     ·subst e; exact ⟨⟨by omega,by omega⟩,by omega,by omega⟩
     ·exact h j (by omega) (by omega)
   by_cases e:0 < i
   ·simp only [decide_eq_true e,cond_true]
    cases QcK (t.Copies.getD (i - 1).toNat default) (t.Copies.getD i.toNat default) with
    | false=>exact .inl rfl
    | true=>exact fin
   ·simp only [decide_eq_false e,cond_false]; exact fin
 intro c hc
 unfold Qai at h
 simp only [Bool.cond_eq_ite] at h
 repeat' split at h
 all_goals first | (cases h; done) | skip
 all_goals
  obtain ⟨j,j0,j1,rfl⟩:=(Qey (d:=default)).1 hc
  rcases sc t.Copies.length 0 (by omega) (by omega) with q | q
  ·rename_i heq _
   first
    | (rw [show ((((t.Copies.length:Nat):Int) - 0).toNat) = t.Copies.length by omega] at *; simp_all)
  ·exact q j j0 (by omega)
theorem QpE {s:Qac} (h:Qfg s) {j:Int} (h0:0 <= j) (h1:j < (s.Deps.length:Int)):VTr s.Width (s.Transfers.getD j.toNat default):=h.tr _ (Qa4 (by have:=h.tl; omega))
theorem QmQ {s:Qac} (h:Qfg s) {j:Int} (h0:0 <= j) (h1:j < (s.Deps.length:Int)):VSt s.Width (s.Boundary.getD j.toNat default):=h.bd _ (Qa4 (by have:=h.bl; omega))
theorem QnN (t:List Int) (k:Int) {n:Int} (hn:0 <= n /\ n <= 250):((Qdl t k n).1.Deps.length:Int) <= max n 1 /\ (Qdl t k n).1.Width <= 4 /\ ∀ x ∈ (Qdl t k n).1.Deps,x.length <= 3:=by
 unfold Qdl
 simp only
 have hw:=QmW t k 7 (by omega) (by omega)
 have hw2:=QjG t k
 have hr:=Qm1 t (QaO t k).2 n (by omega)
 have hN:1 <= 1 + (Qan t (QaO t k).2 n).1 /\ 1 + (Qan t (QaO t k).2 n).1 <= 251:=by omega
 have hW:0 <= (QaO t k).1 % 5 /\ (QaO t k).1 % 5 <= 4:=by omega
 have hL:=Qhu (t:=t) (w:=(QaO t k).1 % 5) (n:=1 + (Qan t (QaO t k).2 n).1) (by omega) (by omega) ((1 + (Qan t (QaO t k).2 n).1) - 0).toNat (Qan t (QaO t k).2 n).2 [] [] [] 0 ⟨by simp,by simp,by simp,by simp,by simp,by simp⟩
 have e:(0:Int) + (((1 + (Qan t (QaO t k).2 n).1) - 0).toNat:Int) = 1 + (Qan t (QaO t k).2 n).1:=by omega
 rw [e] at hL
 generalize Qbm t (1 + (Qan t (QaO t k).2 n).1) ((QaO t k).1 % 5) ((1 + (Qan t (QaO t k).2 n).1) - 0).toNat (Qan t (QaO t k).2 n).2 [] [] [] 0 = R at hL ⊢
 obtain ⟨r0,r1,r2,r3⟩:=R
 simp only at hL ⊢
 obtain ⟨l1,l2,l3,d,tr,b⟩:=hL
 exact ⟨by omega,by omega,fun x hx=>(d x hx).2⟩
theorem Qn1 {t:List Int} {k n:Int} {r:Qac × Int} (h:Qdl t k n = r) (hn:1 <= n /\ n <= 12):Qfg r.1 /\ r.1.Deps.length <= 12 /\ r.1.Width <= 4:=by
 subst h
 have:=QnN t k (n:=n) (by omega)
 exact ⟨Qso t k (by omega),by omega,this.2.1⟩
theorem Qvz {s:Qac} (hv:Qfg s):s.Boundary.length * s.Width.toNat <= 65536:=by
 have h1:=hv.n; have h2:=hv.bl; have h3:=hv.w
 exact Nat.le_trans (Nat.mul_le_mul (show s.Boundary.length <= 256 by omega) (show s.Width.toNat <= 256 by omega)) (by decide)
theorem QxR {s:Qac} (hv:Qfg s):((s.Boundary.length * s.Width.toNat:Nat):Int) = (s.Boundary.length:Int) * s.Width:=by
 have:=hv.w.1
 rw [Int.natCast_mul,Int.toNat_of_nonneg this]
theorem Qy0 (s:Qac):∀ (m:Nat) (e i:Int),(Qbl s m e i = .brk (e + tot s m i) /\ (∀ j,i <= j -> j < i + m -> Qu2 s j)) \/ (Qbl s m e i = .ret false /\ ¬ (∀ j,i <= j -> j < i + m -> Qu2 s j))
 | 0,e,i=>.inl ⟨by simp [Qbl,tot],fun j h1 h2=>by omega⟩
 | m + 1,e,i=>by
  rw [Qbl]
  have ih:=Qy0 s m (e + (((s.Deps.getD (i:Int).toNat []).length:Nat):Int)) (i + 1)
  by_cases ho:Qu2 s i
  ·obtain ⟨h1,⟨h2,h3⟩,h4,h5⟩:=ho
   have h4':=(QcZ _).2 h4
   simp only [h1,h2,h3,h4',h5,Bool.not_true,bne_self_eq_false,cond_false]
   rcases ih with ⟨a,b⟩ | ⟨a,b⟩
   ·refine .inl ⟨?_,fun j j1 j2=>?_⟩
    ·rw [a]; simp only [tot]; congr 1; omega
    ·rcases Int.lt_or_eq_of_le j1 with hlt | rfl
     ·exact b j (by omega) (by omega)
     ·exact ⟨h1,⟨h2,h3⟩,h4,h5⟩
   ·exact .inr ⟨a,fun h=>b fun j j1 j2=>h j (by omega) (by omega)⟩
  ·refine .inr ⟨?_,fun h=>ho (h i (by omega) (by omega))⟩
   unfold Qu2 VTr VSt at ho
   rw [<- QcZ] at ho
   cases h1:QbE (s.Deps.getD i.toNat []) (s.Boundary.length:Int) with
   | false=>rfl
   | true=>
    cases h2:Qai (s.Transfers.getD i.toNat default) with
    | false=>rfl
    | true=>
     cases h3:((s.Transfers.getD i.toNat default).Gen.Width != s.Width) with
     | true=>simp only [h3]; rfl
     | false=>
      cases h4:QaT (s.Boundary.getD i.toNat default) with
      | false=>simp only [h3]; rfl
      | true=>
       cases h5:((s.Boundary.getD i.toNat default).Width != s.Width) with
       | true=>simp only [h3,h5]; rfl
       | false=>
        exfalso
        apply ho
        rw [h1,h2,h4]
        exact ⟨rfl,⟨rfl,by simpa [-List.getD_eq_getElem?_getD] using h3⟩,rfl,by simpa [-List.getD_eq_getElem?_getD] using h5⟩
theorem Qbu (s:Qac):Qa1 s = true ↔ Qfg s:=by
 unfold Qa1
 simp only [Bool.cond_eq_ite]
 by_cases h1:s.Width < 0
 ·simp only [h1,decide_true,if_true]; exact ⟨fun h=>(by cases h),fun h=>by have:=h.w; omega⟩
 by_cases h2:256 < s.Width
 ·simp only [h1,h2,decide_true,decide_false,if_true,if_false,Bool.false_eq_true]; exact ⟨fun h=>(by cases h),fun h=>by have:=h.w; omega⟩
 by_cases h3:(s.Boundary.length:Int) < 1
 ·simp only [h1,h2,h3,decide_true,decide_false,if_true,if_false,Bool.false_eq_true]; exact ⟨fun h=>(by cases h),fun h=>by have:=h.n; have:=h.bl; omega⟩
 by_cases h4:256 < (s.Boundary.length:Int)
 ·simp only [h1,h2,h3,h4,decide_true,decide_false,if_true,if_false,Bool.false_eq_true]; exact ⟨fun h=>(by cases h),fun h=>by have:=h.n; have:=h.bl; omega⟩
 by_cases h5:(s.Deps.length:Int) = (s.Boundary.length:Int)
 case neg=>
  have h5':((s.Deps.length:Int) != (s.Boundary.length:Int)) = true:=by simp [h5]
  simp only [h1,h2,h3,h4,h5',decide_true,decide_false,if_true,if_false,Bool.false_eq_true]; exact ⟨fun h=>(by cases h),fun h=>by have:=h.bl; omega⟩
 have h5':((s.Deps.length:Int) != (s.Boundary.length:Int)) = false:=by simp [h5]
 by_cases h6:(s.Transfers.length:Int) = (s.Boundary.length:Int)
 case neg=>
  have h6':((s.Transfers.length:Int) != (s.Boundary.length:Int)) = true:=by simp [h6]
  simp only [h1,h2,h3,h4,h5',h6',decide_true,decide_false,if_true,if_false,Bool.false_eq_true]; exact ⟨fun h=>(by cases h),fun h=>by have:=h.bl; have:=h.tl; omega⟩
 have h6':((s.Transfers.length:Int) != (s.Boundary.length:Int)) = false:=by simp [h6]
 simp only [h1,h2,h3,h4,h5',h6',decide_false,if_false,Bool.false_eq_true]
 have hm:((((s.Boundary.length:Nat):Int):Int) - 0).toNat = s.Boundary.length:=by omega
 rw [hm]
 have hall:=Qsp (s:=s) (by omega) (by omega)
 rcases Qy0 s s.Boundary.length 0 0 with ⟨e,p⟩ | ⟨e,p⟩
 ·rw [e]
  simp only [decide_eq_true_eq]
  have hp:=hall.1 (fun j j1 j2=>p j j1 (by omega))
  constructor
  ·intro h
   exact ⟨by omega,by omega,by omega,by omega,hp.1,by rw [show s.Deps.length = s.Boundary.length by omega]; omega,hp.2.1,hp.2.2⟩
  ·intro h
   have:=h.edges
   rw [show s.Deps.length = s.Boundary.length by omega] at this; omega
 ·rw [e]
  exact ⟨fun h=>(by cases h),fun h=>absurd (fun j j1 j2=>(hall.2 ⟨h.ris,h.tr,h.bd⟩) j j1 (by omega)) p⟩
theorem QnK (s:Qac) (n b:Int):QaL s n b = 0 ↔ Qfg s /\ (0 <= n /\ n < (s.Deps.length:Int)) /\ 0 <= b /\ b < s.Width:=by
 unfold QaL
 cases e:Qa1 s with
 | false=>
  exact ⟨fun h=>by simp at h,fun h=>by rw [(Qbu s).2 h.1] at e; cases e⟩
 | true=>
  have hv:=(Qbu s).1 e
  have hb:=hv.bl
  simp only [Bool.not_true,cond_false]
  by_cases h1:n < 0
  ·rw [decide_eq_true h1]; exact ⟨fun h=>by simp at h,fun h=>by omega⟩
  ·by_cases h2:(s.Boundary.length:Int) <= n
   ·rw [decide_eq_false h1,decide_eq_true h2]; exact ⟨fun h=>by simp at h,fun h=>by omega⟩
   ·by_cases h3:b < 0
    ·rw [decide_eq_false h1,decide_eq_false h2,decide_eq_true h3]; exact ⟨fun h=>by simp at h,fun h=>by omega⟩
    ·by_cases h4:s.Width <= b
     ·rw [decide_eq_false h1,decide_eq_false h2,decide_eq_false h3,decide_eq_true h4]; exact ⟨fun h=>by simp at h,fun h=>by omega⟩
     ·rw [decide_eq_false h1,decide_eq_false h2,decide_eq_false h3,decide_eq_false h4]; exact ⟨fun _=>⟨hv,⟨by omega,by omega⟩,by omega,by omega⟩,fun _=>rfl⟩
theorem QnA {s:Qac} {n b r:Int} (h:QaL s n b = r) (h0:(r != 0) = false):Qfg s /\ (0 <= n /\ n < (s.Deps.length:Int)) /\ 0 <= b /\ b < s.Width:=(QnK s n b).1 (h.trans (by simpa using h0))
theorem Qub {s:Qac} {n b r:Int} (h:QaL s n b = r) (h0:(r == 0) = true):Qfg s /\ (0 <= n /\ n < (s.Deps.length:Int)) /\ 0 <= b /\ b < s.Width:=(QnK s n b).1 (h.trans (by simpa using h0))
theorem Qh3 {w:Int} {s:Qaf} (h:VSt w s) (b:Int):Qap s b = (decide (0 <= b) && (decide (b < w) && Qgt s.Words b)):=by
 have hv:=Qg0 h
 have hw:=Qif h
 unfold Qap
 simp only [hv,cond_true]
 by_cases h0:0 <= b
 ·by_cases h1:b < s.Width
  ·rw [Qhp (by omega),Qnt]
   simp only [decide_eq_true h0,decide_eq_true h1,decide_eq_true (show b < w by omega),cond_true,Bool.true_and]
   rfl
  ·simp only [decide_eq_true h0,decide_eq_false h1,decide_eq_false (show ¬ b < w by omega),cond_true,cond_false,Bool.true_and,Bool.false_and]
 ·simp only [decide_eq_false h0,cond_false,Bool.false_and]
theorem Qlb {w:Int} {s:Qaf} (h:VSt w s) {b:Int} (hb:Qap s b = true):0 <= b /\ b < w:=by
 rw [Qh3 h] at hb; simp at hb; exact ⟨hb.1,hb.2.1⟩
theorem QqP {w:Int} {s:Qaf} (h:VSt w s) {b:Int} (hb:¬ (0 <= b /\ b < w)):Qap s b = false:=by
 cases e:Qap s b with
 | false=>rfl
 | true=>exact absurd (Qlb h e) hb
theorem QmS {w:Int} {a b:Qaf} (ha:VSt w a) (hb:VSt w b) (h:∀ x:Int,0 <= x -> x < w -> Qap a x = Qap b x):a = b:=by
 have a1:=Qif ha; have b1:=Qif hb
 obtain ⟨wa,la⟩:=a; obtain ⟨wb,lb⟩:=b
 simp only at a1 b1
 have:la = lb:=by
  apply List.ext_getElem (by omega)
  intro i h1 h2
  apply BitVec.eq_of_getLsbD_eq
  intro j hj
  have key:Qgt la (64 * (i:Int) + j) = Qgt lb (64 * (i:Int) + j):=by
   by_cases hx:(64 * (i:Int) + j) < w
   ·have:=h (64 * (i:Int) + j) (by omega) hx
    rw [Qh3 ha,Qh3 hb,decide_eq_true (show 0 <= (64 * (i:Int) + j) by omega),decide_eq_true hx] at this
    simpa using this
   ·rw [ha.1.2.2.2 _ (by show wa <= _; omega) (by show _ < 64 * (la.length:Int); omega),hb.1.2.2.2 _ (by show wb <= _; omega) (by show _ < 64 * (lb.length:Int); omega)]
  unfold Qgt at key
  rw [show ((64 * (i:Int) + j) / 64).toNat = i by omega,show ((64 * (i:Int) + j) % 64).toNat = j by omega] at key
  simpa [List.getD,List.getElem?_eq_getElem h1,List.getElem?_eq_getElem h2] using key
 rw [this,a1.2.2.1,b1.2.2.1]
theorem QlD {w:Int} (h0:0 <= w) (h1:w <= 256) (x:Int):Qap (QaK w) x = false:=by
 rw [Qh3 (Qi6 h0 h1)]
 have:Qgt (QaK w).Words x = false:=Qic _ _
 rw [this]; simp
theorem QoI {w:Int} {s:Qaf} (h:VSt w s) {b:Int} (hb:0 <= b /\ b < w) (x:Int):Qap (Qbx s b) x = (Qap s x || x == b):=by
 have hw:=Qif h
 rw [Qh3 (QnR h hb),Qh3 h,Qn9 h hb]
 by_cases hx:0 <= x
 ·rw [Qrm hb.1 (by omega) x hx]
  by_cases h1:x < w
  ·simp [hx,h1]
  ·have:(x == b) = false:=by rw [beq_eq_false_iff_ne]; omega
   simp [h1,this]
 ·have:(x == b) = false:=by rw [beq_eq_false_iff_ne]; omega
  simp [hx,this]
def Qs5 (a b:Qaf) (one two both:Bool) (x:Int):Bool:=bif Qap a x then bif Qap b x then both else one else bif Qap b x then two else false
def QpA (a b:Qaf):Prop:=∀ x,Qap a x = true -> Qap b x = true
theorem Qqf {a b c:Qaf} (h:QpA a b) (k:QpA b c):QpA a c:=fun x hx=>k x (h x hx)
theorem Qnn {w:Int} {a b:Qaf} (ha:VSt w a) (hb:VSt w b) (h:QpA a b) (k:QpA b a):a = b:=
 QmS ha hb fun x _ _=>by rw [Bool.eq_iff_iff]; exact ⟨h x,k x⟩
def Le (s:Qac) (v u:List Qaf):Prop:=∀ n:Int,0 <= n -> n < (s.Boundary.length:Int) -> QpA (vat v n) (vat u n)
theorem QsH {s:Qac} {a b c:List Qaf} (h:Le s a b) (k:Le s b c):Le s a c:=fun n a b=>Qqf (h n a b) (k n a b)
def cnt (n w:Nat) (v:List Qaf):Nat:=(List.range (n * w)).countP fun k=>Qap (vat v ((k / w:Nat):Int)) ((k % w:Nat):Int)
theorem Qtm (n w:Nat) (v:List Qaf):cnt n w v <= n * w:=by
 have:=List.countP_le_length (p:=fun k=>Qap (vat v ((k / w:Nat):Int)) ((k % w:Nat):Int)) (l:=List.range (n * w))
 rw [List.length_range] at this; exact this
theorem Qvg {n w:Nat} {v u:List Qaf} (h:∀ i:Nat,i < n -> QpA (vat v (i:Int)) (vat u (i:Int))) (hs:∃ (i:Nat) (x:Nat),i < n /\ x < w /\ Qap (vat u (i:Int)) (x:Int) = true /\ Qap (vat v (i:Int)) (x:Int) = false):cnt n w v < cnt n w u:=by
 obtain ⟨i,x,hi,hx,h1,h2⟩:=hs
 have hw:0 < w:=by omega
 refine Qn8 (fun k hk hp=>?_) ⟨i * w + x,?_,?_,?_⟩
 ·rw [List.mem_range] at hk
  exact h _ ((Nat.div_lt_iff_lt_mul hw).2 hk) _ hp
 ·rw [List.mem_range]
  calc i * w + x < i * w + w:=by omega
   _ = (i + 1) * w:=by rw [Nat.add_mul,Nat.one_mul]
   _ <= n * w:=Nat.mul_le_mul_right w hi
 ·rw [show (i * w + x) / w = i by rw [Nat.add_comm,Nat.add_mul_div_right _ _ hw,Nat.div_eq_of_lt hx,Nat.zero_add],show (i * w + x) % w = x by rw [Nat.add_comm,Nat.add_mul_mod_self_right,Nat.mod_eq_of_lt hx]]; exact h1
 ·rw [show (i * w + x) / w = i by rw [Nat.add_comm,Nat.add_mul_div_right _ _ hw,Nat.div_eq_of_lt hx,Nat.zero_add],show (i * w + x) % w = x by rw [Nat.add_comm,Nat.add_mul_mod_self_right,Nat.mod_eq_of_lt hx]]; exact h2
theorem Qss {s:Qac} {v u:List Qaf} (h1:Qdw s v) (h2:Qdw s u) (h:Le s v u) (k:Le s u v):v = u:=by
 have e1:=h1.1; have e2:=h2.1
 apply List.ext_getElem (by omega)
 intro i i1 i2
 have a:=QdC h1 (n:=(i:Int)) (by omega) (by omega)
 have b:=QdC h2 (n:=(i:Int)) (by omega) (by omega)
 have:=Qnn a b (h i (by omega) (by omega)) (k i (by omega) (by omega))
 simpa [List.getD,List.getElem?_eq_getElem i1,List.getElem?_eq_getElem i2] using this
theorem QtQ {s:Qac} {v u:List Qaf} (h1:Qdw s v) (h2:Qdw s u) (h:Le s v u) (hne:v ≠ u):∃ (i:Nat) (x:Nat),i < s.Boundary.length /\ x < s.Width.toNat /\ Qap (vat u (i:Int)) (x:Int) = true /\ Qap (vat v (i:Int)) (x:Int) = false:=by
 apply Classical.byContradiction
 intro hc
 refine hne (Qss h1 h2 h fun n n0 n1 x hx=>?_)
 cases hh:Qap (vat v n) x with
 | true=>rfl
 | false=>
  exfalso
  have r:=Qlb (QdC h2 n0 n1) hx
  refine hc ⟨n.toNat,x.toNat,by omega,by omega,?_,?_⟩
  ·rw [Int.toNat_of_nonneg n0,Int.toNat_of_nonneg r.1]; exact hx
  ·rw [Int.toNat_of_nonneg n0,Int.toNat_of_nonneg r.1]; exact hh
theorem Qlr (t:Qad) (a b:Int):Qbv t a b = true ↔ (a = b /\ Qap t.Kill a = false) \/ ∃ c ∈ t.Copies,c.From = a /\ c.To = b:=by
 have sc:=QnX (fun r i=>QaG t a b r i) (fun i=>(t.Copies.getD i.toNat default).From == a && (t.Copies.getD i.toNat default).To == b) true () (fun _=>rfl)
  (fun r i=>by
   rw [QaG]
   cases (t.Copies.getD i.toNat default).From == a <;> cases (t.Copies.getD i.toNat default).To == b <;> rfl) ((((t.Copies.length:Nat):Int) - 0).toNat) 0
 have key:(QaG t a b ((((t.Copies.length:Nat):Int) - 0).toNat) 0 = .ret true /\ ∃ c ∈ t.Copies,c.From = a /\ c.To = b) \/ (QaG t a b ((((t.Copies.length:Nat):Int) - 0).toNat) 0 = .brk () /\ ¬ ∃ c ∈ t.Copies,c.From = a /\ c.To = b):=by
  rcases sc with ⟨e,j,j1,j2,j3⟩ | ⟨e,h⟩
  ·refine .inl ⟨e,t.Copies.getD j.toNat default,Qa4 (by omega),?_⟩
   simpa using j3
  ·refine .inr ⟨e,?_⟩
   rintro ⟨c,hc,c1,c2⟩
   obtain ⟨j,j0,j1,rfl⟩:=(Qey (d:=default)).1 hc
   have:=h j j0 (by omega)
   rw [c1,c2] at this
   simp at this
 unfold Qbv
 by_cases h1:a = b
 ·have e1:(a == b) = true:=by simp [h1]
  simp only [e1,cond_true]
  cases hk:Qap t.Kill a with
  | false=>simp [h1]
  | true=>
   simp only [Bool.not_true,cond_false]
   rcases key with ⟨e,h⟩ | ⟨e,h⟩
   ·rw [e]; simp only [h,or_true]
   ·rw [e]; simp only [h,or_false]; simp
 ·have e1:(a == b) = false:=by simp [h1]
  simp only [e1,cond_false]
  rcases key with ⟨e,h⟩ | ⟨e,h⟩
  ·rw [e]; simp only [h,or_true]
  ·rw [e]; simp only [h,or_false]; simp [h1]
theorem Qrd {s:Qac} {level n m c:Int} (hl:0 <= level) (m0:0 <= m) (m1:m < (s.Boundary.length:Int)) (hw:0 <= s.Width):∀ (r:Nat) (d:List Int) (more:Bool) (a:Int),0 <= a -> a <= s.Width -> s.Width - a < r -> (d.length:Int) = (s.Boundary.length:Int) * s.Width ->
  ∃ d' more',Qaw s level n m c r d more a = .brk (d',more') /\ DQ d more d' more'
 | 0,d,more,a,h0,ha,h1,hd=>by omega
 | r + 1,d,more,a,h0,ha,h1,hd=>by
  rw [Qaw]
  cases e1:((d.getD (((n * s.Width) + c):Int).toNat 0) == level) with
  | false=>exact ⟨d,more,rfl,DQ.refl _ _⟩
  | true=>
   by_cases e2:a < s.Width
   ·rw [decide_eq_true e2]
    have hi:=QpK m0 m1 hw
    cases e3:((d.getD (((m * s.Width) + a):Int).toNat 0) == 0) with
    | false=>
     simp only [cond_true,cond_false]
     exact Qrd hl m0 m1 hw r d more (a + 1) (by omega) (by omega) (by omega) hd
    | true=>
     simp only [cond_true]
     cases Qb7 (s.Transfers.getD (m:Int).toNat default) a c with
     | false=>exact Qrd hl m0 m1 hw r d more (a + 1) (by omega) (by omega) (by omega) hd
     | true=>
      simp only [cond_true]
      obtain ⟨d',m',q1,q2⟩:=Qrd (n:=n) (c:=c) hl m0 m1 hw r (d.set (((m * s.Width) + a):Int).toNat (level + 1)) true (a + 1) (by omega) (by omega) (by omega) (by rw [List.length_set]; exact hd)
      have hz:=Qu4 (d:=d) (i:=(((m * s.Width) + a):Int).toNat) (v:=level + 1) (by omega) (by simpa using e3) (by omega)
      exact ⟨d',m',q1,⟨by rw [q2.len,List.length_set],by have:=q2.le; omega,fun _=>.inr (by have:=q2.le; omega)⟩⟩
   ·rw [decide_eq_false e2]; exact ⟨d,more,rfl,DQ.refl _ _⟩
theorem Qvn {s:Qac} {level n m:Int} (hl:0 <= level) (m0:0 <= m) (m1:m < (s.Boundary.length:Int)) (hw:0 <= s.Width):∀ (r:Nat) (d:List Int) (more:Bool) (c:Int),(d.length:Int) = (s.Boundary.length:Int) * s.Width ->
  DQ d more (Qa6 s level n m r d more c).1 (Qa6 s level n m r d more c).2
 | 0,d,more,c,hd=>DQ.refl _ _
 | r + 1,d,more,c,hd=>by
  obtain ⟨d',m',e,q⟩:=Qrd (n:=n) (c:=c) hl m0 m1 hw (s.Width.toNat + 1) d more 0 (by omega) (by omega) (by omega) hd
  rw [Qa6,e]
  exact q.trans (Qvn hl m0 m1 hw r d' m' (c + 1) (by rw [q.len]; exact hd))
theorem QvN {s:Qac} (hv:Qfg s) {level n:Int} (hl:0 <= level) (n0:0 <= n) (n1:n < (s.Boundary.length:Int)):∀ (r:Nat) (d:List Int) (more:Bool) (i:Int),0 <= i -> i + r = ((s.Deps.getD n.toNat []).length:Int) -> (d.length:Int) = (s.Boundary.length:Int) * s.Width ->
  DQ d more (Qbc s level n r d more i).1 (Qbc s level n r d more i).2
 | 0,d,more,i,h0,h1,hd=>DQ.refl _ _
 | r + 1,d,more,i,h0,h1,hd=>by
  have hb:=hv.bl
  have hm:=hv.dep_mem n0 (by omega) ((s.Deps.getD n.toNat []).getD i.toNat 0) (Qa4 (by omega))
  have q:=Qvn (n:=n) (m:=(s.Deps.getD n.toNat []).getD i.toNat 0) hl hm.1 (by omega) hv.w.1 (((s.Width:Int) - 0).toNat) d more 0 hd
  rw [Qbc]
  exact q.trans (QvN hv hl n0 n1 r _ _ (i + 1) (by omega) (by omega) (by rw [q.len]; exact hd))
theorem QvZ {s:Qac} (hv:Qfg s) {level:Int} (hl:0 <= level):∀ (r:Nat) (d:List Int) (more:Bool) (n:Int),0 <= n -> n + r = (s.Boundary.length:Int) -> (d.length:Int) = (s.Boundary.length:Int) * s.Width ->
  DQ d more (QaV s level r d more n).1 (QaV s level r d more n).2
 | 0,d,more,n,h0,h1,hd=>DQ.refl _ _
 | r + 1,d,more,n,h0,h1,hd=>by
  have q:=QvN hv hl h0 (by omega) ((((((s.Deps.getD (n:Int).toNat []).length:Nat):Int):Int) - 0).toNat) d more 0 (by omega) (by omega) hd
  rw [QaV]
  exact q.trans (QvZ hv hl r _ _ (n + 1) (by omega) (by omega) (by rw [q.len]; exact hd))
theorem QvC {s:Qac} (hv:Qfg s):∀ (r:Nat) (d:List Int) (level:Int),0 <= level -> zc d < r -> (d.length:Int) = (s.Boundary.length:Int) * s.Width -> ∃ d',QaP s r d level = .ret d' /\ d'.length = d.length
 | 0,d,level,h0,h1,hd=>by omega
 | r + 1,d,level,h0,h1,hd=>by
  have q:=QvZ hv h0 (((((s.Boundary.length:Nat):Int):Int) - 0).toNat) d false 0 (by omega) (by omega) hd
  rw [QaP]
  generalize QaV s level (((((s.Boundary.length:Nat):Int):Int) - 0).toNat) d false 0 = o at q ⊢
  obtain ⟨d',m'⟩:=o
  dsimp only at q ⊢
  cases m' with
  | false=>exact ⟨d',rfl,q.len⟩
  | true=>
   have:=q.more rfl
   obtain ⟨d2,e,hl⟩:=QvC hv r d' (level + 1) (by omega) (by rcases this with h | h; cases h; omega) (by rw [q.len]; exact hd)
   exact ⟨d2,e,by rw [hl,q.len]⟩
theorem Qs2 {s:Qac} (hv:Qfg s) {d:List Int} (hd:(d.length:Int) = (s.Boundary.length:Int) * s.Width):∃ d',QaP s ((s.Boundary.length * s.Width.toNat:Nat) + 2) d 1 = .ret d' /\ d'.length = d.length:=by
 refine QvC hv _ _ _ (by omega) ?_ hd
 have h1:zc d <= d.length:=List.count_le_length
 have h2:((s.Boundary.length * s.Width.toNat:Nat):Int) = (s.Boundary.length:Int) * s.Width:=by
  have:=hv.w.1
  rw [Int.natCast_mul,Int.toNat_of_nonneg this]
 omega
theorem Qt5 {s:Qac} {level n m c:Int} {d:List Int} {more:Bool} (hl:0 <= level) (m0:0 <= m) (m1:m < (s.Boundary.length:Int)) (hw:0 <= s.Width) (hd:(d.length:Int) = (s.Boundary.length:Int) * s.Width):Qaw s level n m c (s.Width.toNat + 1) d more 0 ≠ .oof:=by
 obtain ⟨d',m',e,_⟩:=Qrd (n:=n) (c:=c) hl m0 m1 hw (s.Width.toNat + 1) d more 0 (by omega) (by omega) (by omega) hd
 rw [e]; intro h; cases h
theorem Qpg {s:Qac} (hv:Qfg s) {h:Qas} {r:List Int} (e:QbF s h = r):(r.length:Int) = (s.Boundary.length:Int) * s.Width:=by
 have hb:((List.replicate ((((s.Boundary.length:Nat):Int) * s.Width):Int).toNat (0:Int)).set (((h.Node * s.Width) + h.Bit):Int).toNat 1).length = (((s.Boundary.length:Nat):Int) * s.Width).toNat:=by simp
 have hn:0 <= ((s.Boundary.length:Nat):Int) * s.Width:=Int.mul_nonneg (by omega) hv.w.1
 obtain ⟨d',e1,e2⟩:=Qs2 hv (d:=((List.replicate ((((s.Boundary.length:Nat):Int) * s.Width):Int).toNat (0:Int)).set (((h.Node * s.Width) + h.Bit):Int).toNat 1)) (by omega)
 rw [<- e]
 unfold QbF
 rw [e1]
 dsimp only
 omega
theorem QkX {s:Qac} {level n m c K:Int} (hK:level + 1 <= K):∀ (r:Nat) (d:List Int) (more:Bool) (a:Int),(∀ x ∈ d,x <= K) -> ∀ d' m',Qaw s level n m c r d more a = .brk (d',m') -> ∀ x ∈ d',x <= K
 | 0,d,more,a,hd,d',m',h=>by rw [Qaw] at h; cases h
 | r + 1,d,more,a,hd,d',m',h=>by
  rw [Qaw] at h
  simp only [Bool.cond_eq_ite] at h
  split at h
  ·split at h
   ·split at h
    ·split at h
     ·exact QkX hK r _ _ _ (fun x hx=>by rcases List.mem_or_eq_of_mem_set hx with h | rfl; exact hd x h; exact hK) d' m' h
     ·exact QkX hK r _ _ _ hd d' m' h
    ·exact QkX hK r _ _ _ hd d' m' h
   ·cases h; exact hd
  ·cases h; exact hd
theorem QpI {s:Qac} {level n m K:Int} (hK:level + 1 <= K):∀ (r:Nat) (d:List Int) (more:Bool) (c:Int),(∀ x ∈ d,x <= K) -> ∀ x ∈ (Qa6 s level n m r d more c).1,x <= K
 | 0,d,more,c,hd=>hd
 | r + 1,d,more,c,hd=>by
  have h4:=QkX (s:=s) (n:=n) (m:=m) (c:=c) hK (s.Width.toNat + 1) d more 0 hd
  rw [Qa6]
  generalize Qaw s level n m c (s.Width.toNat + 1) d more 0 = o at h4 ⊢
  cases o with
  | brk p=>obtain ⟨d',m'⟩:=p; exact QpI hK r d' m' (c + 1) (h4 d' m' rfl)
  | ret _=>intro x hx; cases hx
  | oof=>intro x hx; cases hx
theorem QpG {s:Qac} {level n K:Int} (hK:level + 1 <= K):∀ (r:Nat) (d:List Int) (more:Bool) (i:Int),(∀ x ∈ d,x <= K) -> ∀ x ∈ (Qbc s level n r d more i).1,x <= K
 | 0,d,more,c,hd=>hd
 | r + 1,d,more,i,hd=>by
  rw [Qbc]
  exact QpG hK r _ _ (i + 1) (QpI hK _ d more 0 hd)
theorem Qpn {s:Qac} {level K:Int} (hK:level + 1 <= K):∀ (r:Nat) (d:List Int) (more:Bool) (n:Int),(∀ x ∈ d,x <= K) -> ∀ x ∈ (QaV s level r d more n).1,x <= K
 | 0,d,more,c,hd=>hd
 | r + 1,d,more,n,hd=>by
  rw [QaV]
  exact Qpn hK r _ _ (n + 1) (QpG hK _ d more 0 hd)
theorem Qpd {s:Qac} {K:Int}:∀ (r:Nat) (d:List Int) (level:Int),level + r <= K -> (∀ x ∈ d,x <= K) -> ∀ d',QaP s r d level = .ret d' -> ∀ x ∈ d',x <= K
 | 0,d,level,h1,hd,d',h=>by rw [QaP] at h; cases h
 | r + 1,d,level,h1,hd,d',h=>by
  have q:=Qpn (s:=s) (level:=level) (K:=K) (by omega) (((((s.Boundary.length:Nat):Int):Int) - 0).toNat) d false 0 hd
  rw [QaP] at h
  generalize QaV s level (((((s.Boundary.length:Nat):Int):Int) - 0).toNat) d false 0 = o at q h
  obtain ⟨d2,m2⟩:=o
  cases m2 with
  | false=>cases h; exact q
  | true=>exact Qpd r d2 (level + 1) (by omega) q d' h
theorem Quf {s:Qac} (hv:Qfg s) {h:Qas} {r:List Int} (e:QbF s h = r):∀ x ∈ r,x <= 65540:=by
 have hb:=Qvz hv
 rw [<- e]
 unfold QbF
 have q:=Qpd (s:=s) (K:=65540) ((s.Boundary.length * s.Width.toNat:Nat) + 2) ((List.replicate ((((s.Boundary.length:Nat):Int) * s.Width):Int).toNat (0:Int)).set (((h.Node * s.Width) + h.Bit):Int).toNat 1) 1 (by omega) (fun x hx=>by
  rcases List.mem_or_eq_of_mem_set hx with h | rfl
  ·rw [(List.mem_replicate.1 h).2]; decide
  ·decide)
 generalize QaP s ((s.Boundary.length * s.Width.toNat:Nat) + 2) ((List.replicate ((((s.Boundary.length:Nat):Int) * s.Width):Int).toNat (0:Int)).set (((h.Node * s.Width) + h.Bit):Int).toNat 1) 1 = o at q ⊢
 cases o with
 | brk _=>intro x hx; cases hx
 | ret d'=>exact q d' rfl
 | oof=>intro x hx; cases hx
theorem Qo0 (s:Qac) (h:Qas):Qb6 s h = true ↔ Qap (Bd s h.Node) h.Bit = true \/ ∃ m ∈ deps s h.Node,Qap (Tr s m).Gen h.Bit = true:=by
 unfold Qb6 Bd
 cases e:Qap (s.Boundary.getD h.Node.toNat default) h.Bit with
 | true=>simp
 | false=>
  simp only [cond_false,Bool.false_eq_true,false_or]
  rcases QnX (fun r i=>QcS s h r i) (fun i=>Qap ((s.Transfers.getD (((s.Deps.getD (h.Node:Int).toNat []).getD (i:Int).toNat 0):Int).toNat default).Gen) h.Bit) true () (fun _=>rfl) (fun _ _=>rfl) ((((((s.Deps.getD (h.Node:Int).toNat []).length:Nat):Int):Int) - 0).toNat) 0 with ⟨a,j,j0,j1,hj⟩ | ⟨a,hj⟩
  ·try dsimp only at a
   rw [a]
   exact ⟨fun _=>⟨(deps s h.Node).getD j.toNat 0,Qa4 (by unfold deps; omega),hj⟩,fun _=>rfl⟩
  ·try dsimp only at a
   rw [a]
   refine ⟨fun h=>(by cases h),?_⟩
   rintro ⟨m,hm,hf⟩
   obtain ⟨j,j0,j1,rfl⟩:=QiA.1 hm
   have:=hj j j0 (by unfold deps at j1; omega)
   unfold deps Tr at hf
   rw [hf] at this; cases this
theorem QtD (l:List Int) (n:Int):Qje l n = true ↔ n ∈ l:=by
 have:=QnX (fun r i=>Qfc l n r i) (fun i=>l.getD i.toNat 0 == n) true () (fun _=>rfl) (fun _ _=>rfl) ((((l.length:Nat):Int) - 0).toNat) 0
 unfold Qje
 rw [QiA]
 rcases this with ⟨e,j,j1,j2,j3⟩ | ⟨e,h⟩
 ·rw [e]
  exact ⟨fun _=>⟨j,j1,by omega,by simpa using j3⟩,fun _=>rfl⟩
 ·rw [e]
  refine ⟨fun h=>by simp at h,?_⟩
  rintro ⟨j,j1,j2,j3⟩
  have:=h j j1 (by omega)
  simp [-List.getD_eq_getElem?_getD] at this; exact absurd j3 this
theorem Qlp (s:Qac):∀ (m:Nat) (o:List Qaf) (n:Int),QcM s m o n = o ++ List.replicate m (QaK s.Width)
 | 0,o,n=>by simp [QcM]
 | m + 1,o,n=>by rw [QcM,Qlp s m]; simp [List.replicate_succ]
theorem QpF (s:Qac):QdM s = List.replicate s.Boundary.length (QaK s.Width):=by
 unfold QdM
 rw [Qlp,show ((((s.Boundary.length:Nat):Int) - 0).toNat) = s.Boundary.length by omega]; rfl
theorem Qst {s:Qac} (hv:Qfg s):Qdw s (QdM s):=by
 have hw:=hv.w
 rw [QpF]
 refine ⟨by simp,fun g hg=>?_⟩
 rw [List.mem_replicate] at hg
 rw [hg.2]; exact Qi6 hw.1 hw.2
theorem Qpe {s:Qac} (hv:Qfg s) (z:List Qaf):Le s (QdM s) z:=fun n n0 n1 x hx=>by
 have hw:=hv.w
 rw [QpF] at hx
 unfold vat at hx
 rw [List.getD_eq_getElem?_getD,List.getElem?_replicate,if_pos (by omega)] at hx
 rw [Option.getD_some,QlD hw.1 hw.2] at hx; cases hx
theorem QmD {s:Qac} {v:List Qaf} (h:Qbs s v = 0):v.length = s.Boundary.length:=by
 unfold Qbs at h
 by_cases e:(v.length:Int) = (s.Boundary.length:Int)
 ·omega
 ·have:((v.length:Int) != (s.Boundary.length:Int)) = true:=by simp [e]
  simp only [this,cond_true] at h
  cases h
theorem Qpr {s:Qac} {v:List Qaf} (h:Qdw s v):Qbs s v = 0:=by
 have sc:=QnX (fun r i=>Qcd v r i) (fun i=>!(QaT (v.getD i.toNat default))) 1 () (fun _=>rfl) (fun _ _=>rfl) ((((v.length:Nat):Int) - 0).toNat) 0
 have sc2:=QnX (fun r i=>Qcf s v r i) (fun i=>(v.getD i.toNat default).Width != s.Width) 2 () (fun _=>rfl) (fun _ _=>rfl) ((((v.length:Nat):Int) - 0).toNat) 0
 unfold Qbs
 have e:(((v.length:Nat):Int) != ((s.Boundary.length:Nat):Int)) = false:=by rw [h.1]; simp
 simp only [e,cond_false]
 rcases sc with ⟨_,j,j1,j2,j3⟩ | ⟨e1,_⟩
 ·rw [Qg0 (QdC h j1 (by have:=h.1; omega))] at j3; cases j3
 ·rw [e1]
  rcases sc2 with ⟨_,j,j1,j2,j3⟩ | ⟨e2,_⟩
  ·rw [(QdC h j1 (by have:=h.1; omega)).2] at j3; simp at j3
  ·simp only [e2]
theorem Qmt (s:Qac) (v:List Qaf):Qbs s v = 0 ↔ Qdw s v:=by
 refine ⟨fun h=>?_,Qpr⟩
 unfold Qbs at h
 cases e1:(((v.length:Nat):Int) != ((s.Boundary.length:Nat):Int)) with
 | true=>rw [e1] at h; cases h
 | false=>
  have e1':((v.length:Nat):Int) = ((s.Boundary.length:Nat):Int):=by simpa using e1
  simp only [e1,cond_false] at h
  rcases QnX (fun r i=>Qcd v r i) (fun i=>!QaT (v.getD i.toNat default)) 1 () (fun _=>rfl) (fun _ _=>rfl) ((((v.length:Nat):Int) - 0).toNat) 0 with ⟨a,j,j0,j1,hj⟩ | ⟨a,ha⟩
  ·try dsimp only at a
   rw [a] at h; cases h
  ·try dsimp only at a
   rw [a] at h
   dsimp only at h
   rcases QnX (fun r i=>Qcf s v r i) (fun i=>(v.getD i.toNat default).Width != s.Width) 2 () (fun _=>rfl) (fun _ _=>rfl) ((((v.length:Nat):Int) - 0).toNat) 0 with ⟨c,j,j0,j1,hj⟩ | ⟨c,hc⟩
   ·try dsimp only at c
    rw [c] at h; cases h
   ·refine ⟨by omega,fun g hg=>?_⟩
    obtain ⟨j,j0,j1,rfl⟩:=(Qey (d:=default)).1 hg
    have h1:=ha j j0 (by omega)
    have h2:=hc j j0 (by omega)
    exact ⟨(QcZ _).1 (by simpa using h1),by simpa using h2⟩
theorem QhB (t:Qad) (s:Qaf) (a:Int):∀ (m:Nat) (o0:Int) (o1:List (BitVec 64)) (b:Int),1 <= m -> s.Width < b + m -> QbJ t s a m o0 o1 b ≠ .oof
 | 0,o0,o1,b,h0,h=>by omega
 | m + 1,o0,o1,b,h0,h=>by
  rw [QbJ]
  cases Qap s a with
  | false=>intro h; cases h
  | true=>
   by_cases hb:b < s.Width
   ·simp only [cond_true,decide_eq_true hb]
    cases Qbv t a b with
    | false=>exact QhB t s a m _ _ (b + 1) (by omega) (by omega)
    | true=>exact QhB t s a m _ _ (b + 1) (by omega) (by omega)
   ·simp only [cond_true,decide_eq_false hb,cond_false]
    intro h; cases h
theorem Qhk {w:Int} {t:Qad} {s:Qaf} (hs:VSt w s) {a:Int}:∀ (m:Nat) (o0:Int) (o1:List (BitVec 64)) (b:Int),0 <= b -> b <= w -> w < b + m -> VSt w ⟨o0,o1⟩ ->
  ∃ p0 p1,QbJ t s a m o0 o1 b = .brk (p0,p1) /\ VSt w ⟨p0,p1⟩ /\ ∀ x,Qap ⟨p0,p1⟩ x = (Qap ⟨o0,o1⟩ x || (Qap s a && (decide (b <= x) && decide (x < w) && Qbv t a x)))
 | 0,o0,o1,b,h0,h1,h2,h=>by omega
 | m + 1,o0,o1,b,h0,h1,h2,h=>by
  have hw:=Qif hs
  rw [QbJ]
  cases ha:Qap s a with
  | false=>exact ⟨o0,o1,rfl,h,fun x=>by simp⟩
  | true=>
   by_cases hb:b < s.Width
   ·have hbw:b < w:=by omega
    simp only [cond_true,decide_eq_true hb]
    have e2:∀ x,x ≠ b -> (decide (b + 1 <= x) && decide (x < w)) = (decide (b <= x) && decide (x < w)):=fun x hx=>by
     rw [Bool.eq_iff_iff]; simp; omega
    cases hf:Qbv t a b with
    | true=>
     obtain ⟨p0,p1,e,hv,hh⟩:=Qhk (t:=t) hs (a:=a) m (Qbx ⟨o0,o1⟩ b).Width (Qbx ⟨o0,o1⟩ b).Words (b + 1) (by omega) (by omega) (by omega) (QnR h ⟨h0,hbw⟩)
     refine ⟨p0,p1,e,hv,fun x=>?_⟩
     rw [hh x,ha,show (⟨(Qbx ⟨o0,o1⟩ b).Width,(Qbx ⟨o0,o1⟩ b).Words⟩:Qaf) = Qbx ⟨o0,o1⟩ b from rfl,QoI h ⟨h0,hbw⟩]
     by_cases ex:x = b
     ·subst ex; simp [hf,hbw]
     ·rw [e2 x ex]; simp [show (x == b) = false by rw [beq_eq_false_iff_ne]; exact ex]
    | false=>
     obtain ⟨p0,p1,e,hv,hh⟩:=Qhk hs m o0 o1 (b + 1) (by omega) (by omega) (by omega) h
     refine ⟨p0,p1,e,hv,fun x=>?_⟩
     rw [hh x,ha]
     by_cases ex:x = b
     ·subst ex; simp [hf]
     ·rw [e2 x ex]
   ·simp only [cond_true,decide_eq_false hb,cond_false]
    refine ⟨o0,o1,rfl,h,fun x=>?_⟩
    have:(decide (b <= x) && decide (x < w)) = false:=by rw [Bool.eq_false_iff]; simp; omega
    rw [this]; simp
theorem QjB {w:Int} {t:Qad} {s:Qaf} (hs:VSt w s):∀ (m:Nat) (o0:Int) (o1:List (BitVec 64)) (a:Int),VSt w ⟨o0,o1⟩ ->
  VSt w ⟨(Qca t s m o0 o1 a).1,(Qca t s m o0 o1 a).2⟩ /\ ∀ x,Qap ⟨(Qca t s m o0 o1 a).1,(Qca t s m o0 o1 a).2⟩ x = true ↔ (Qap ⟨o0,o1⟩ x = true \/ ∃ c,a <= c /\ c < a + m /\ Qap s c = true /\ 0 <= x /\ x < w /\ Qbv t c x = true)
 | 0,o0,o1,a,h=>⟨h,fun x=>by
   constructor
   ·intro h; exact .inl h
   ·rintro (h | ⟨c,c1,c2,_⟩)
    ·exact h
    ·omega⟩
 | m + 1,o0,o1,a,h=>by
  have hw:=Qif hs
  obtain ⟨p0,p1,e,hv,hh⟩:=Qhk (t:=t) hs (a:=a) (s.Width.toNat + 1) o0 o1 0 (by omega) (by omega) (by omega) h
  rw [Qca,e]
  obtain ⟨i1,i2⟩:=QjB (t:=t) hs m p0 p1 (a + 1) hv
  refine ⟨i1,fun x=>?_⟩
  simp only
  rw [i2 x,hh x]
  simp only [Bool.or_eq_true,Bool.and_eq_true,decide_eq_true_eq]
  constructor
  ·rintro ((h | ⟨h1,h2,h3⟩) | ⟨c,c1,c2,c3⟩)
   ·exact .inl h
   ·exact .inr ⟨a,by omega,by omega,h1,h2.1,h2.2,h3⟩
   ·exact .inr ⟨c,by omega,by omega,c3⟩
  ·rintro (h | ⟨c,c1,c2,c3,c4,c5,c6⟩)
   ·exact .inl (.inl h)
   ·by_cases hc:c = a
    ·subst hc; exact .inl (.inr ⟨c3,⟨c4,c5⟩,c6⟩)
    ·exact .inr ⟨c,by omega,by omega,c3,c4,c5,c6⟩
theorem Qiz {w:Int} {t:Qad} {s:Qaf} (ht:VTr w t) (hs:VSt w s):∃ g,QdA t s = (g,0) /\ VSt w g /\ ∀ x,Qap g x = true ↔ Qap t.Gen x = true \/ ∃ a,Qap s a = true /\ 0 <= x /\ x < w /\ Qbv t a x = true:=by
 have hw:=Qif hs
 have hg:VSt w t.Gen:=⟨(Qeb ht.1).1,ht.2⟩
 obtain ⟨i1,i2⟩:=QjB (t:=t) hs (((s.Width:Int) - 0).toNat) t.Gen.Width t.Gen.Words 0 hg
 refine ⟨Qit t s,?_,i1,fun x=>?_⟩
 ·unfold QdA
  have e:(t.Gen.Width != s.Width) = false:=by rw [ht.2,hw.2.2.1]; simp
  simp only [ht.1,Qg0 hs,e,Bool.not_true,cond_false]
 ·refine (i2 x).trans ?_
  rw [show (⟨t.Gen.Width,t.Gen.Words⟩:Qaf) = t.Gen from rfl]
  constructor
  ·rintro (h | ⟨c,c1,c2,c3⟩)
   ·exact .inl h
   ·exact .inr ⟨c,c3⟩
  ·rintro (h | ⟨c,c3,c4⟩)
   ·exact .inl h
   ·have:=Qlb hs c3
    exact .inr ⟨c,by omega,by omega,c3,c4⟩
def app (t:Qad) (g:Qaf):Qaf:=(QdA t g).1
theorem Qyg {w:Int} {t:Qad} {s:Qaf} (ht:VTr w t) (hs:VSt w s):VSt w (app t s):=by
 obtain ⟨g,e,h,_⟩:=Qiz ht hs; unfold app; rw [e]; exact h
theorem Qsq {w:Int} {t:Qad} {a b:Qaf} (ht:VTr w t) (ha:VSt w a) (hb:VSt w b) (h:QpA a b):QpA (app t a) (app t b):=by
 obtain ⟨g,e,_,hh⟩:=Qiz ht ha
 obtain ⟨g',e',_,hh'⟩:=Qiz ht hb
 unfold app; rw [e,e']
 intro x hx
 rcases (hh x).1 hx with h1 | ⟨c,c1,c2⟩
 ·exact (hh' x).2 (.inl h1)
 ·exact (hh' x).2 (.inr ⟨c,h c c1,c2⟩)
theorem Qoo (a b:Qaf) (one two both:Bool) (r:Nat) (s0:Int) (s1:List (BitVec 64)) (k:Int):Qa7 a b one two both (r + 1) s0 s1 k = bif Qs5 a b one two both k then Qa7 a b one two both r (Qbx ⟨s0,s1⟩ k).Width (Qbx ⟨s0,s1⟩ k).Words (k + 1) else Qa7 a b one two both r s0 s1 (k + 1):=by
 rw [Qa7]
 unfold Qs5
 all_goals (cases Qap a k <;> cases Qap b k <;> cases one <;> cases two <;> cases both <;> rfl)
theorem Qi9 {w:Int} {a b:Qaf} {one two both:Bool}:∀ (m:Nat) (s0:Int) (s1:List (BitVec 64)) (k:Int),0 <= k -> k + m <= w -> VSt w ⟨s0,s1⟩ ->
  VSt w ⟨(Qa7 a b one two both m s0 s1 k).1,(Qa7 a b one two both m s0 s1 k).2⟩ /\ ∀ x,Qap ⟨(Qa7 a b one two both m s0 s1 k).1,(Qa7 a b one two both m s0 s1 k).2⟩ x = (Qap ⟨s0,s1⟩ x || (decide (k <= x) && decide (x < k + m) && Qs5 a b one two both x))
 | 0,s0,s1,k,h0,h1,h=>⟨h,fun x=>by
   have:(decide (k <= x) && decide (x < k + ((0:Nat):Int))) = false:=by rw [Bool.eq_false_iff]; simp; try omega
   rw [this]; simp [Qa7]⟩
 | m + 1,s0,s1,k,h0,h1,h=>by
  rw [Qoo]
  cases hs:Qs5 a b one two both k with
  | true=>
   simp only [cond_true]
   have hp:=QnR h (b:=k) (by omega)
   obtain ⟨i1,i2⟩:=Qi9 (a:=a) (b:=b) (one:=one) (two:=two) (both:=both) m (Qbx ⟨s0,s1⟩ k).Width (Qbx ⟨s0,s1⟩ k).Words (k + 1) (by omega) (by omega) hp
   refine ⟨i1,fun x=>?_⟩
   rw [i2,show (⟨(Qbx ⟨s0,s1⟩ k).Width,(Qbx ⟨s0,s1⟩ k).Words⟩:Qaf) = Qbx ⟨s0,s1⟩ k from rfl,QoI h (by omega)]
   by_cases e:x = k
   ·subst e
    have q:(decide (x <= x) && decide (x < x + ((m + 1:Nat):Int))) = true:=by simp; omega
    rw [q,hs]; simp
   ·have e1:(x == k) = false:=by rw [beq_eq_false_iff_ne]; exact e
    have e2:(decide (k + 1 <= x) && decide (x < k + 1 + (m:Int))) = (decide (k <= x) && decide (x < k + ((m + 1:Nat):Int))):=by
     rw [Bool.eq_iff_iff]; simp; omega
    rw [e1,e2,Bool.or_false]
  | false=>
   simp only [cond_false]
   obtain ⟨i1,i2⟩:=Qi9 (a:=a) (b:=b) (one:=one) (two:=two) (both:=both) m s0 s1 (k + 1) (by omega) (by omega) h
   refine ⟨i1,fun x=>?_⟩
   rw [i2]
   by_cases e:x = k
   ·subst e
    simp [hs]
   ·have e2:(decide (k + 1 <= x) && decide (x < k + 1 + (m:Int))) = (decide (k <= x) && decide (x < k + ((m + 1:Nat):Int))):=by
     rw [Bool.eq_iff_iff]; simp; omega
    rw [e2]
theorem Qpq {w:Int} {a b:Qaf} {one two both:Bool} (ha:VSt w a) (hb:VSt w b):∃ g,QgA a b one two both = (g,0) /\ VSt w g /\ ∀ x,Qap g x = Qs5 a b one two both x:=by
 have a1:=Qif ha; have b1:=Qif hb
 have hs:=Qi9 (w:=w) (a:=a) (b:=b) (one:=one) (two:=two) (both:=both) w.toNat (QaK w).Width (QaK w).Words 0 (by omega) (by omega) (Qi6 a1.1 a1.2.1)
 refine ⟨_,?_,hs.1,fun x=>?_⟩
 ·unfold QgA
  have e:(a.Width != b.Width) = false:=by rw [a1.2.2.1,b1.2.2.1]; simp
  simp only [Qg0 ha,Qg0 hb,e,Bool.not_true,cond_false]
  rw [a1.2.2.1,show ((w:Int) - 0).toNat = w.toNat by omega]
 ·rw [hs.2,show (⟨(QaK w).Width,(QaK w).Words⟩:Qaf) = QaK w from rfl,QlD a1.1 a1.2.1]
  by_cases hx:0 <= x /\ x < w
  ·rw [decide_eq_true hx.1,decide_eq_true (show x < 0 + (w.toNat:Int) by omega)]; simp
  ·have:(decide (0 <= x) && decide (x < 0 + (w.toNat:Int))) = false:=by simp; omega
   rw [this]
   unfold Qs5
   rw [QqP ha hx,QqP hb hx]; rfl
theorem Qis {w:Int} {a b:Qaf} (ha:VSt w a) (hb:VSt w b):∃ g,Qe6 a b = (g,0) /\ VSt w g /\ ∀ x,Qap g x = (Qap a x || Qap b x):=by
 obtain ⟨g,e,h1,h2⟩:=Qpq (one:=true) (two:=true) (both:=true) ha hb
 refine ⟨g,?_,h1,fun x=>?_⟩
 ·unfold Qe6; simp only [e]
 ·rw [h2]; unfold Qs5; cases Qap a x <;> cases Qap b x <;> rfl
theorem QvK {w:Int} {a b:Qaf} (ha:VSt w a) (hb:VSt w b):VSt w (QdS a b):=by
 obtain ⟨g,e,h1,h2⟩:=Qis ha hb
 unfold QdS; simp only [e]; exact h1
theorem QsB {w:Int} {a b:Qaf} (ha:VSt w a) (hb:VSt w b) (x:Int):Qap (QdS a b) x = (Qap a x || Qap b x):=by
 obtain ⟨g,e,h1,h2⟩:=Qis ha hb
 unfold QdS; simp only [e]; exact h2 x
theorem QhG {s:Qac} (hv:Qfg s) {v:List Qaf} (hvv:Qdw s v) {n:Int} (h0:0 <= n) (h1:n < (s.Deps.length:Int)):∀ (m:Nat) (o0:Int) (o1:List (BitVec 64)) (i:Int),0 <= i -> i + m = ((deps s n).length:Int) -> VSt s.Width ⟨o0,o1⟩ ->
  VSt s.Width ⟨(QbC s v n m o0 o1 i).1,(QbC s v n m o0 o1 i).2⟩ /\ ∀ x,Qap ⟨(QbC s v n m o0 o1 i).1,(QbC s v n m o0 o1 i).2⟩ x = true ↔ Qap ⟨o0,o1⟩ x = true \/ ∃ j:Int,i <= j /\ j < i + m /\ Qap (app (s.Transfers.getD ((deps s n).getD j.toNat 0).toNat default) (v.getD ((deps s n).getD j.toNat 0).toNat default)) x = true
 | 0,o0,o1,i,a,b,h=>⟨h,fun x=>by
   constructor
   ·intro h; exact .inl h
   ·rintro (h | ⟨c,c1,c2,_⟩)
    ·exact h
    ·omega⟩
 | m + 1,o0,o1,i,a,b,h=>by
  rw [QbC]
  have hm:=hv.dep_mem h0 h1 _ (Qa4 (xs:=deps s n) (i:=i.toNat) (d:=0) (by omega))
  have hap:=Qyg (QpE hv hm.1 hm.2) (QdC hvv hm.1 (by have:=hv.bl; omega))
  have hj:=QvK h hap
  obtain ⟨i1,i2⟩:=QhG hv hvv h0 h1 m (QdS ⟨o0,o1⟩ (app (s.Transfers.getD ((deps s n).getD i.toNat 0).toNat default) (v.getD ((deps s n).getD i.toNat 0).toNat default))).Width (QdS ⟨o0,o1⟩ (app (s.Transfers.getD ((deps s n).getD i.toNat 0).toNat default) (v.getD ((deps s n).getD i.toNat 0).toNat default))).Words (i + 1) (by omega) (by omega) hj
  refine ⟨i1,fun x=>(i2 x).trans ?_⟩
  rw [show ∀ g:Qaf,(⟨g.Width,g.Words⟩:Qaf) = g from fun _=>rfl,QsB h hap,Bool.or_eq_true]
  constructor
  ·rintro ((h | h) | ⟨j,j1,j2,j3⟩)
   ·exact .inl h
   ·exact .inr ⟨i,by omega,by omega,h⟩
   ·exact .inr ⟨j,by omega,by omega,j3⟩
  ·rintro (h | ⟨j,j1,j2,j3⟩)
   ·exact .inl (.inl h)
   ·by_cases e:j = i
    ·subst e; exact .inl (.inr j3)
    ·exact .inr ⟨j,by omega,by omega,j3⟩
theorem QtE {s:Qac} (hv:Qfg s) {v:List Qaf} (hvv:Qdw s v) {n:Int} (h0:0 <= n) (h1:n < (s.Deps.length:Int)):VSt s.Width (QbG s v n):=
 (QhG hv hvv h0 h1 ((((((s.Deps.getD (n:Int).toNat []).length:Nat):Int):Int) - 0).toNat) ((s.Boundary.getD (n:Int).toNat default).Width) ((s.Boundary.getD (n:Int).toNat default).Words) 0 (by omega) (by unfold deps; omega) (QmQ hv h0 h1)).1
theorem Qk7 {s:Qac} (hv:Qfg s) {v:List Qaf} (hvv:Qdw s v) {n:Int} (h0:0 <= n) (h1:n < (s.Deps.length:Int)) (x:Int):Qap (QbG s v n) x = true ↔ Qap (Bd s n) x = true \/ ∃ m ∈ deps s n,Qap (app (Tr s m) (vat v m)) x = true:=by
 refine ((QhG hv hvv h0 h1 ((((((s.Deps.getD (n:Int).toNat []).length:Nat):Int):Int) - 0).toNat) ((s.Boundary.getD (n:Int).toNat default).Width) ((s.Boundary.getD (n:Int).toNat default).Words) 0 (by omega) (by unfold deps; omega) (QmQ hv h0 h1)).2 x).trans ?_
 rw [show ∀ g:Qaf,(⟨g.Width,g.Words⟩:Qaf) = g from fun _=>rfl]
 constructor
 ·rintro (h | ⟨j,j1,j2,j3⟩)
  ·exact .inl h
  ·exact .inr ⟨_,Qa4 (by unfold deps; omega),j3⟩
 ·rintro (h | ⟨m,hm,h⟩)
  ·exact .inl h
  ·obtain ⟨j,j0,j1,rfl⟩:=QiA.1 hm
   exact .inr ⟨j,j0,by unfold deps at j1; omega,h⟩
def Fv (s:Qac) (v:List Qaf):List Qaf:=(List.range s.Boundary.length).map fun i:Nat=>QbG s v (i:Int)
theorem Qpx (s:Qac) (v:List Qaf):(Fv s v).length = s.Boundary.length:=by simp [Fv]
theorem Qt7 (s:Qac) (v:List Qaf) {n:Int} (h0:0 <= n) (h1:n < (s.Boundary.length:Int)):vat (Fv s v) n = QbG s v n:=by
 unfold vat Fv
 rw [List.getD_eq_getElem?_getD,List.getElem?_map,List.getElem?_range (by omega)]
 simp only [Option.map_some,Option.getD_some]
 rw [Int.toNat_of_nonneg h0]
theorem QwN {s:Qac} (hv:Qfg s) {v:List Qaf} (hvv:Qdw s v):Qdw s (Fv s v):=by
 refine ⟨Qpx s v,fun g hg=>?_⟩
 unfold Fv at hg
 simp only [List.mem_map,List.mem_range] at hg
 obtain ⟨i,hi,rfl⟩:=hg
 exact QtE hv hvv (by omega) (by have:=hv.bl; omega)
theorem Qp4 {s:Qac} (hv:Qfg s) {v u:List Qaf} (h1:Qdw s v) (h2:Qdw s u) (h:Le s v u) {n:Int} (n0:0 <= n) (n1:n < (s.Deps.length:Int)):QpA (QbG s v n) (QbG s u n):=fun x hx=>by
 rcases (Qk7 hv h1 n0 n1 x).1 hx with hx | ⟨m,hm,hx⟩
 ·exact (Qk7 hv h2 n0 n1 x).2 (.inl hx)
 ·have md:=hv.dep_mem n0 n1 m hm
  have hb:=hv.bl
  exact (Qk7 hv h2 n0 n1 x).2 (.inr ⟨m,hm,Qsq (QpE hv md.1 md.2) (QdC h1 md.1 (by omega)) (QdC h2 md.1 (by omega)) (h m md.1 (by omega)) x hx⟩)
theorem Qra {s:Qac} (hv:Qfg s) {v u:List Qaf} (h1:Qdw s v) (h2:Qdw s u) (h:Le s v u):Le s (Fv s v) (Fv s u):=fun n n0 n1=>by
 rw [Qt7 s v n0 n1,Qt7 s u n0 n1]; exact Qp4 hv h1 h2 h n0 (by have:=hv.bl; omega)
structure QxA (s:Qac) (u:List Qaf):Prop where
 v:Qdw s u
 fix:Fv s u = u
 least:∀ z,Qdw s z -> Le s (Fv s z) z -> Le s u z
theorem Qkq {s:Qac} (hv:Qfg s) {v:List Qaf} (hvv:Qdw s v):∀ (m:Nat) (o:List Qaf) (n:Int),0 <= n -> n + m = (s.Boundary.length:Int) -> QcU s v m o n = .brk (o ++ (List.range' n.toNat m).map fun i:Nat=>QbG s v (i:Int))
 | 0,o,n,h0,h1=>by simp [QcU]
 | m + 1,o,n,h0,h1=>by
  rw [QcU]
  have e:Qd6 s v n = (QbG s v n,0):=by
   unfold Qd6
   simp only [(Qbu s).2 hv,Qpr hvv,decide_eq_false (show ¬ n < 0 by omega),decide_eq_false (show ¬ ((s.Boundary.length:Nat):Int) <= n by omega)]
   rfl
  rw [e]
  simp only [bne_self_eq_false,cond_false]
  rw [Qkq hv hvv m _ (n + 1) (by omega) (by omega),List.range'_succ,show (n + 1).toNat = n.toNat + 1 by omega]
  simp [Int.toNat_of_nonneg h0]
theorem Qt2 {s:Qac} (hv:Qfg s) {v:List Qaf} (hvv:Qdw s v):Qhr s v = (Fv s v,0):=by
 have hn:=hv.n; have hb:=hv.bl
 unfold Qhr
 rw [show ((((max ((s.Boundary.length:Nat):Int) 1):Int) - 0).toNat) = s.Boundary.length by omega,Qkq hv hvv _ _ _ (by omega) (by omega)]
 simp only [List.nil_append,Fv,List.range_eq_range',Int.toNat_zero]
theorem Qpo (a b:Qaf):Qgg a b = true ↔ a = b:=by
 obtain ⟨wa,la⟩:=a; obtain ⟨wb,lb⟩:=b
 have sc:=QnX (fun r i=>Qem ⟨wa,la⟩ ⟨wb,lb⟩ r i) (fun i=>la.getD i.toNat 0#64 != lb.getD i.toNat 0#64) false () (fun _=>rfl) (fun _ _=>rfl) ((((la.length:Nat):Int) - 0).toNat) 0
 unfold Qgg
 by_cases h1:wa = wb
 case neg=>simp [h1]
 by_cases h2:la.length = lb.length
 case neg=>
  have:(((la.length:Nat):Int) != ((lb.length:Nat):Int)) = true:=by simp; omega
  simp only [h1,bne_self_eq_false,this,cond_true,cond_false]
  constructor
  ·intro h; cases h
  ·intro h; exact absurd (by cases h; rfl) h2
 have e2:(((la.length:Nat):Int) != ((lb.length:Nat):Int)) = false:=by simp [h2]
 simp only [h1,bne_self_eq_false,e2,cond_false]
 subst h1
 rcases sc with ⟨e,j,j1,j2,j3⟩ | ⟨e,h⟩
 ·rw [e]
  constructor
  ·intro h; cases h
  ·intro h; cases h; simp at j3
 ·rw [e]
  constructor
  ·intro _
   have:la = lb:=by
    apply List.ext_getElem h2
    intro i i1 i2
    have:=h (i:Int) (by omega) (by omega)
    simpa [List.getD,List.getElem?_eq_getElem i1,List.getElem?_eq_getElem i2] using this
   rw [this]
  ·intro _; rfl
theorem Qq5 (a:Qaf):Qgg a a = true:=(Qpo a a).2 rfl
theorem Qky (a b:List Qaf):QcH a b = true ↔ a = b:=by
 have sc:=QnX (fun r i=>Qb2 a b r i) (fun i=>!(Qgg (a.getD i.toNat default) (b.getD i.toNat default))) false () (fun _=>rfl) (fun _ _=>rfl) ((((a.length:Nat):Int) - 0).toNat) 0
 unfold QcH
 by_cases h2:a.length = b.length
 case neg=>
  have:(((a.length:Nat):Int) != ((b.length:Nat):Int)) = true:=by simp; omega
  simp only [this,cond_true]
  constructor
  ·intro h; cases h
  ·intro h; exact absurd (by rw [h]) h2
 have e2:(((a.length:Nat):Int) != ((b.length:Nat):Int)) = false:=by simp [h2]
 simp only [e2,cond_false]
 rcases sc with ⟨e,j,j1,j2,j3⟩ | ⟨e,h⟩
 ·rw [e]
  constructor
  ·intro h; cases h
  ·intro h; subst h; rw [Qq5] at j3; cases j3
 ·rw [e]
  constructor
  ·intro _
   apply List.ext_getElem h2
   intro i i1 i2
   have:=h (i:Int) (by omega) (by omega)
   rw [Bool.not_eq_false',Qpo] at this
   simpa [List.getD,List.getElem?_eq_getElem i1,List.getElem?_eq_getElem i2] using this
  ·intro _; rfl
theorem QjL {s:Qac} (hv:Qfg s):∀ (m:Nat) (v:List Qaf) (round:Int),Qdw s v -> Le s v (Fv s v) -> s.Boundary.length * s.Width.toNat < cnt s.Boundary.length s.Width.toNat v + m ->
  ∃ u r,Qb3 s m v round = .ret (u,r,0) /\ Qdw s u /\ Fv s u = u /\ ∀ z,Qdw s z -> Le s (Fv s z) z -> Le s v z -> Le s u z
 | 0,v,round,h1,h2,h3=>by have:=Qtm s.Boundary.length s.Width.toNat v; omega
 | m + 1,v,round,h1,h2,h3=>by
  rw [Qb3,Qt2 hv h1]
  cases e:QcH (Fv s v) v with
  | true=>
   have e:=(Qky _ _).1 e
   exact ⟨v,round,rfl,h1,e,fun z _ _ h=>h⟩
  | false=>
   have hne:v ≠ Fv s v:=fun h=>by
    have:=(Qky (Fv s v) v).2 h.symm
    rw [this] at e; cases e
   have hF:=QwN hv h1
   have hlt:=Qvg (n:=s.Boundary.length) (w:=s.Width.toNat) (fun i hi=>h2 i (by omega) (by omega)) (QtQ h1 hF h2 hne)
   obtain ⟨u,r,e1,e2,e3,e4⟩:=QjL hv m (Fv s v) (round + 1) hF (Qra hv h1 hF h2) (by omega)
   exact ⟨u,r,e1,e2,e3,fun z hz hz2 hz3=>e4 z hz hz2 (QsH (Qra hv h1 hz hz3) hz2)⟩
theorem QlJ {s:Qac} (hv:Qfg s):∃ u r,Qb3 s (s.Boundary.length * s.Width.toNat + 2) (QdM s) 0 = .ret (u,r,0) /\ Qdw s u /\ Fv s u = u /\ ∀ z,Qdw s z -> Le s (Fv s z) z -> Le s u z:=by
 obtain ⟨u,r,e1,e2,e3,e4⟩:=QjL hv (s.Boundary.length * s.Width.toNat + 2) (QdM s) 0 (Qst hv) (Qpe hv _) (by omega)
 exact ⟨u,r,e1,e2,e3,fun z h1 h2=>e4 z h1 h2 (Qpe hv z)⟩
theorem Qqc {s:Qac} {r:List Qaf} (h:Qa1 s = true) (e:QdM s = r):Qb3 s (s.Boundary.length * s.Width.toNat + 2) r 0 ≠ .oof:=by
 subst e
 obtain ⟨u,r,e1,_⟩:=QlJ ((Qbu s).1 h)
 rw [e1]; intro h; cases h
theorem Qqa {s:Qac} (hv:Qfg s):∃ u r,QcN s = (u,r,0) /\ QxA s u:=by
 obtain ⟨u,r,e1,e2,e3,e4⟩:=QlJ hv
 refine ⟨u,r,?_,e2,e3,e4⟩
 unfold QcN
 simp only [(Qbu s).2 hv,Bool.not_true,cond_false,e1]
theorem Qp8 {s:Qac} {r:List Qaf × Int × Int} (h:QcN s = r) (hv:Qfg s):r.1.length = s.Deps.length:=by
 obtain ⟨u,k,e,hl⟩:=Qqa hv
 have:=hv.bl
 rw [<- h,e]
 have:=hl.1.1
 dsimp only
 omega
theorem QnJ (l:List Int) (n:Int):QcP l n = QbE l n:=by
 have:∀ m i,Qa8 l n m i = QaW l n m i:=by
  intro m
  induction m with
  | zero=>intro i; rfl
  | succ m ih=>intro i; rw [Qa8,QaW,ih]
 unfold QcP QbE
 rw [this]
 all_goals (generalize QaW l n (((l.length:Nat):Int) - 0).toNat 0 = r; cases r <;> rfl)
theorem Qqd {w:Int} (h:Qfd w = true):0 <= w /\ w <= 256:=by
 unfold Qfd at h
 simp [Bool.cond_eq_ite] at h; omega
theorem QnV {w:Int} (h:0 <= w /\ w <= 256) (k:Nat) (hk:k < 64):(Qiq w).getLsbD k = decide ((w % 64).toNat <= k):=by
 unfold Qiq
 have e:(((((BitVec.ofInt 64 w) % 64#64).toNat:Int)).toNat) = (w % 64).toNat:=by
  rw [BitVec.toNat_umod,BitVec.toNat_ofInt]
  simp; omega
 rw [e,BitVec.getLsbD_shiftLeft]
 have e2:(18446744073709551615#64) = BitVec.allOnes 64:=by decide
 rw [e2,BitVec.getLsbD_allOnes]
 rw [Bool.eq_iff_iff]
 simp [-Int.toNat_le]
 omega
theorem QeP (s:Qaf):Qa0 s = true ↔ QpZ s:=by
 unfold Qa0 QpZ
 simp only [Qfd,QjD,Bool.cond_eq_ite]
 by_cases h1:0 <= s.Width
 ·by_cases h2:s.Width <= 256
  ·by_cases h3:(s.Words.length:Int) = (s.Width + 64 - 1) / 64
   ·by_cases h4:s.Width % 64 = 0
    ·simp only [h1,h2,h3,h4]
     simp
     refine ⟨by omega,fun b b1 b2=>by omega⟩
    ·simp only [h1,h2,decide_true,if_true,Bool.not_true,Bool.false_eq_true,if_false]
     have h3':((s.Words.length:Int) != (s.Width + 64 - 1) / 64) = false:=by simp [h3]
     have h4':(s.Width % 64 == 0) = false:=by simp [h4]
     rw [h3',h4']
     simp only [Bool.false_eq_true,if_false]
     rw [beq_iff_eq]
     constructor
     ·intro h
      refine ⟨trivial,trivial,by omega,fun b b1 b2=>?_⟩
      have hq:(b / 64).toNat = ((s.Words.length:Int) - 1).toNat:=by omega
      unfold Qgt
      rw [hq]
      have:=congrArg (fun v:BitVec 64=>v.getLsbD (b % 64).toNat) h
      simp only [BitVec.getLsbD_and,BitVec.getLsbD_zero] at this
      rw [QnV ⟨h1,h2⟩ _ (by omega)] at this
      have hle:(s.Width % 64).toNat <= (b % 64).toNat:=by omega
      simpa [hle] using this
     ·rintro ⟨_,_,hl,h⟩
      apply BitVec.eq_of_getLsbD_eq
      intro k hk
      rw [BitVec.getLsbD_and,QnV ⟨h1,h2⟩ _ hk,BitVec.getLsbD_zero]
      by_cases hle:(s.Width % 64).toNat <= k
      ·have:=h (64 * ((s.Words.length:Int) - 1) + k) (by omega) (by omega)
       unfold Qgt at this
       rw [show ((64 * ((s.Words.length:Int) - 1) + k) / 64).toNat = ((s.Words.length:Int) - 1).toNat by omega,show ((64 * ((s.Words.length:Int) - 1) + k) % 64).toNat = k by omega] at this
       rw [this]; rfl
      ·simp [hle]
   ·have h3':((s.Words.length:Int) != (s.Width + 64 - 1) / 64) = true:=by simp [h3]
    simp only [h1,h2,decide_true,if_true,Bool.not_true,Bool.false_eq_true,if_false,h3']
    constructor
    ·intro h; cases h
    ·rintro ⟨_,_,h,_⟩; omega
  ·simp [h1,h2]
 ·simp [h1]
theorem Qef (s:Qaf):Qa0 s = QaT s:=by rw [Bool.eq_iff_iff,QeP,QcZ]
theorem Qr2 {s:Qaf} (h:Qa0 s = true):0 <= s.Width /\ s.Width <= 256 /\ (s.Words.length:Int) = (s.Width + 63) / 64:=by
 have:=(QeP s).1 h; exact ⟨this.1,this.2.1,this.2.2.1⟩
theorem QfJ {w:Int} {s:Qaf} (h:VSt w s):Qa0 s = true:=(QeP s).2 h.1
theorem QiL (s:List Qaf) (fp:Qaf -> Bool):QaC s fp = true ↔ ∃ x ∈ s,fp x = true:=by
 have:=Qq1 (fun r i=>Qbo s fp r i) (fun i=>fp (s.getD i.toNat default)) () (fun _=>rfl) (fun _ _=>rfl) ((((s.length:Nat):Int) - 0).toNat) 0
 unfold QaC QcB
 rcases this with ⟨j,e,j1,j2,j3⟩ | ⟨e,h⟩
 ·rw [e]
  exact ⟨fun _=>⟨_,Qa4 (by omega),j3⟩,fun _=>by simpa using j1⟩
 ·rw [e]
  refine ⟨fun h=>by simp at h,?_⟩
  rintro ⟨x,hx,hf⟩
  obtain ⟨j,j1,j2,rfl⟩:=(Qey (d:=default)).1 hx
  rw [h j j1 (by omega)] at hf; cases hf
theorem QkT (w:Int) (l:List Qaf):QfT w l = true ↔ ∀ b ∈ l,VSt w b:=by
 unfold QfT
 have h:=QiL l (fun x=>Qdm x w)
 have h1:∀ x,Qdm x w = false ↔ VSt w x:=by
  intro x
  unfold Qdm VSt
  rw [<- QeP]
  cases Qa0 x <;> simp
 constructor
 ·intro hh b hb
  cases hc:QaC l (fun x=>Qdm x w) with
  | true=>simp only [hc] at hh; cases hh
  | false=>
   refine (h1 b).1 ?_
   cases e:Qdm b w with
   | false=>rfl
   | true=>rw [h.2 ⟨b,hb,e⟩] at hc; cases hc
 ·intro hh
  cases hc:QaC l (fun x=>Qdm x w) with
  | false=>rfl
  | true=>
   obtain ⟨x,hx,e⟩:=h.1 hc
   rw [(h1 x).2 (hh x hx)] at e; cases e
theorem Qt6 {s:Qac} {v:List Qaf} (h:Qdw s v):QfT s.Width v = true:=(QkT _ _).2 h.2
theorem Qqg (x y:Int):Qa9 x y = if x < y then -1 else if y < x then 1 else 0:=by
 simp [Qa9,Qda,Bool.cond_eq_ite]
theorem Qwd (x y:Int):QeU [x,y] = if x ≠ 0 then x else y:=by
 have e:((((([x,y].length:Nat):Int):Int) - 0).toNat) = 2:=rfl
 unfold QeU
 rw [e]
 by_cases hx:x = 0
 ·by_cases hy:y = 0
  ·subst hx; subst hy; rfl
  ·subst hx
   have h:(y != 0) = true:=by simp [hy]
   simp [Qch,h]
 ·have h:(x != 0) = true:=by simp [hx]
  simp [Qch,h,hx]
theorem Qp5 (a b:QbA):decide (0 <= QfK a b) = !(QcK a b):=by
 unfold QfK QcK
 simp only [Qwd,Qqg,Bool.cond_eq_ite]
 rw [Bool.eq_iff_iff]
 by_cases h1:a.From < b.From
 ·simp [h1]
 ·by_cases h2:b.From < a.From
  ·have:¬ a.From = b.From:=by omega
   simp [h1,h2,this]
  ·have:a.From = b.From:=by omega
   by_cases h3:a.To < b.To
   ·simp [this,h3]
   ·by_cases h4:b.To < a.To
    ·simp [this,h3,h4]
    ·simp [this,h3,h4]
theorem QnM (t:Qad):∀ m i,QbV t m i = Qao t m i:=by
 intro m
 induction m with
 | zero=>intro i; rfl
 | succ m ih=>
  intro i
  rw [QbV,Qao]
  simp only [Qp5,ih,Qg2,Bool.cond_eq_ite]
  generalize (t.Copies.getD i.toNat default).From = x
  generalize (t.Copies.getD i.toNat default).To = y
  by_cases h1:x < 0
  ·have:¬ 0 <= x:=by omega
   simp [h1,this]
  ·by_cases h2:t.Gen.Width <= x
   ·have:¬ x < t.Gen.Width:=by omega
    simp [h1,h2,this]
   ·by_cases h3:y < 0
    ·have:¬ 0 <= y:=by omega
     have h5:x < t.Gen.Width:=by omega
     have h6:0 <= x:=by omega
     simp [h1,h2,h3,this,h5,h6]
    ·have h5:x < t.Gen.Width:=by omega
     have h6:0 <= x:=by omega
     have h7:0 <= y:=by omega
     by_cases h4:t.Gen.Width <= y
     ·have:¬ y < t.Gen.Width:=by omega
      simp [h1,h2,h3,h4,this,h5,h6,h7]
     ·have:y < t.Gen.Width:=by omega
      simp [h1,h2,h3,h4,this,h5,h6,h7]
theorem QcG (t:Qad):Qcu t = Qai t:=by
 unfold Qcu Qai
 simp only [Qef,QnM]
 all_goals (generalize Qao t (((((t.Copies.length:Nat):Int):Int) - 0).toNat) 0 = r; cases r <;> rfl)
theorem Ql0 (s:List Qad) (fp:Qad -> Bool):QaH s fp = true ↔ ∃ x ∈ s,fp x = true:=by
 have:=Qq1 (fun r i=>QaR s fp r i) (fun i=>fp (s.getD i.toNat default)) () (fun _=>rfl) (fun _ _=>rfl) ((((s.length:Nat):Int) - 0).toNat) 0
 unfold QaH QbB
 rcases this with ⟨j,e,j1,j2,j3⟩ | ⟨e,h⟩
 ·rw [e]
  exact ⟨fun _=>⟨_,Qa4 (by omega),j3⟩,fun _=>by simpa using j1⟩
 ·rw [e]
  refine ⟨fun h=>by simp at h,?_⟩
  rintro ⟨x,hx,hf⟩
  obtain ⟨j,j1,j2,rfl⟩:=(Qey (d:=default)).1 hx
  rw [h j j1 (by omega)] at hf; cases hf
theorem Qto (s:Qac) (l:List Qad):(!(QaH l (fun x=>QcD x s))) = true ↔ ∀ t ∈ l,VTr s.Width t:=by
 have h:=Ql0 l (fun x=>QcD x s)
 have h1:∀ x,QcD x s = false ↔ VTr s.Width x:=by
  intro x
  unfold QcD Qkh VTr
  rw [QcG]
  cases Qai x <;> simp
 constructor
 ·intro hh b hb
  cases hc:QaH l (fun x=>QcD x s) with
  | true=>simp only [hc] at hh; cases hh
  | false=>
   refine (h1 b).1 ?_
   cases e:QcD b s with
   | false=>rfl
   | true=>rw [h.2 ⟨b,hb,e⟩] at hc; cases hc
 ·intro hh
  cases hc:QaH l (fun x=>QcD x s) with
  | false=>rfl
  | true=>
   obtain ⟨x,hx,e⟩:=h.1 hc
   rw [(h1 x).2 (hh x hx)] at e; cases e
theorem Qzo (s:Qac):∀ (m:Nat) (e i:Int),(Qcq s m e i = .brk () /\ (∀ j,i <= j -> j < i + m -> QbE (s.Deps.getD j.toNat []) (s.Deps.length:Int) = true) /\ (m = 0 \/ e + tot s m i <= 1024)) \/
  (Qcq s m e i = .ret false /\ ¬ ((∀ j,i <= j -> j < i + m -> QbE (s.Deps.getD j.toNat []) (s.Deps.length:Int) = true) /\ (m = 0 \/ e + tot s m i <= 1024)))
 | 0,e,i=>.inl ⟨rfl,fun j h1 h2=>by omega,.inl rfl⟩
 | m + 1,e,i=>by
  rw [Qcq]
  simp only [Bool.cond_eq_ite,QnJ]
  have ht:=Qqx s m (i + 1)
  have hq:tot s (m + 1) i = ((s.Deps.getD i.toNat []).length:Int) + tot s m (i + 1):=rfl
  by_cases h1:1024 < e + ((s.Deps.getD i.toNat []).length:Int)
  ·refine .inr ⟨by rw [decide_eq_true h1]; rfl,?_⟩
   rintro ⟨_,h⟩; omega
  ·rw [decide_eq_false h1]
   cases h2:QbE (s.Deps.getD i.toNat []) (s.Deps.length:Int) with
   | false=>
    refine .inr ⟨rfl,?_⟩
    rintro ⟨h,_⟩
    have:=h i (by omega) (by omega); rw [h2] at this; cases this
   | true=>
    rcases Qzo s m (e + ((s.Deps.getD i.toNat []).length:Int)) (i + 1) with ⟨a,b,c⟩ | ⟨a,b⟩
    ·refine .inl ⟨a,fun j j1 j2=>?_,.inr ?_⟩
     ·rcases Int.lt_or_eq_of_le j1 with hlt | rfl
      ·exact b j (by omega) (by omega)
      ·exact h2
     ·rw [hq]
      rcases c with rfl | c
      ·simp only [tot]; omega
      ·omega
    ·refine .inr ⟨a,?_⟩
     rintro ⟨h,h'⟩
     exact b ⟨fun j j1 j2=>h j (by omega) (by omega),.inr (by omega)⟩
theorem QcC (s:Qac):QbZ s = true ↔ Qfg s:=by
 unfold QbZ
 simp only [QgD,Bool.cond_eq_ite]
 by_cases h0:(0 <= s.Width /\ s.Width <= 256) /\ (1 <= (s.Deps.length:Int) /\ (s.Deps.length:Int) <= 256)
 ·obtain ⟨⟨a,b⟩,c,d⟩:=h0
  simp only [a,b,c,d,decide_true,if_true,Bool.not_true,Bool.false_eq_true,if_false]
  by_cases h1:(s.Transfers.length:Int) = (s.Deps.length:Int)
  ·by_cases h2:(s.Boundary.length:Int) = (s.Deps.length:Int)
   ·have h1':((s.Transfers.length:Int) != (s.Deps.length:Int)) = false:=by simp [h1]
    have h2':((s.Boundary.length:Int) != (s.Deps.length:Int)) = false:=by simp [h2]
    simp only [h1',h2',Bool.false_eq_true,if_false]
    have hm:((((s.Deps.length:Nat):Int):Int) - 0).toNat = s.Deps.length:=by omega
    rw [hm]
    rcases Qzo s s.Deps.length 0 0 with ⟨e,p,q⟩ | ⟨e,p⟩
    ·rw [e]
     simp only
     by_cases h3:QfT s.Width s.Boundary = true
     ·rw [h3]
      simp only [if_true]
      rw [Qto]
      exact ⟨fun h=>⟨⟨a,b⟩,by omega,by omega,by omega,fun j j1 j2=>p j j1 (by omega),by omega,h,(QkT _ _).1 h3⟩,fun h=>h.tr⟩
     ·simp only [h3]
      exact ⟨fun h=>by simp at h,fun h=>absurd ((QkT _ _).2 h.bd) h3⟩
    ·rw [e]
     exact ⟨fun h=>(by cases h),fun h=>absurd ⟨fun j j1 j2=>h.ris j j1 (by omega),.inr (by have:=h.edges; omega)⟩ p⟩
   ·have h1':((s.Transfers.length:Int) != (s.Deps.length:Int)) = false:=by simp [h1]
    have h2':((s.Boundary.length:Int) != (s.Deps.length:Int)) = true:=by simp [h2]
    simp only [h1',h2',Bool.false_eq_true,if_false,if_true]
    exact ⟨fun h=>(by cases h),fun h=>absurd (by have:=h.bl; omega) h2⟩
  ·have h1':((s.Transfers.length:Int) != (s.Deps.length:Int)) = true:=by simp [h1]
   simp only [h1',if_true]
   exact ⟨fun h=>(by cases h),fun h=>absurd (by have:=h.tl; omega) h1⟩
 ·constructor
  ·intro h
   exfalso
   apply h0
   by_cases a:0 <= s.Width
   ·by_cases b:s.Width <= 256
    ·by_cases c:1 <= (s.Deps.length:Int)
     ·by_cases d:(s.Deps.length:Int) <= 256
      ·exact ⟨⟨a,b⟩,c,d⟩
      ·simp [a,b,c,d] at h
     ·simp [a,b,c] at h
    ·simp [a,b] at h
   ·simp [a] at h
  ·intro h
   exact absurd ⟨h.w,by have:=h.n; omega⟩ h0
theorem Qr3 (s:Qac):QbZ s = Qa1 s:=by rw [Bool.eq_iff_iff,QcC,Qbu]
theorem QlF (s:Qac) (n b:Int):Qar s n b = 0 ↔ Qfg s /\ (0 <= n /\ n < (s.Deps.length:Int)) /\ 0 <= b /\ b < s.Width:=by
 unfold Qar
 cases e:QbZ s with
 | false=>
  exact ⟨fun h=>by simp at h,fun h=>by rw [(QcC s).2 h.1] at e; cases e⟩
 | true=>
  have hv:=(QcC s).1 e
  simp only [Bool.not_true,cond_false]
  by_cases h1:n < 0
  ·rw [decide_eq_true h1]; exact ⟨fun h=>by simp at h,fun h=>by omega⟩
  ·by_cases h2:(s.Deps.length:Int) <= n
   ·rw [decide_eq_false h1,decide_eq_true h2]; exact ⟨fun h=>by simp at h,fun h=>by omega⟩
   ·by_cases h3:b < 0
    ·rw [decide_eq_false h1,decide_eq_false h2,decide_eq_true h3]; exact ⟨fun h=>by simp at h,fun h=>by omega⟩
    ·by_cases h4:s.Width <= b
     ·rw [decide_eq_false h1,decide_eq_false h2,decide_eq_false h3,decide_eq_true h4]; exact ⟨fun h=>by simp at h,fun h=>by omega⟩
     ·rw [decide_eq_false h1,decide_eq_false h2,decide_eq_false h3,decide_eq_false h4]; exact ⟨fun _=>⟨hv,⟨by omega,by omega⟩,by omega,by omega⟩,fun _=>rfl⟩
theorem Qqz {s:Qac} {n b r:Int} (h:Qar s n b = r) (h0:(r != 0) = false):Qfg s /\ (0 <= n /\ n < (s.Deps.length:Int)) /\ 0 <= b /\ b < s.Width:=
 (QlF s n b).1 (h.trans (by simpa using h0))
theorem Qt3 {s:Qac} {n b r:Int} (h:Qar s n b = r) (h0:(r == 0) = true):Qfg s /\ (0 <= n /\ n < (s.Deps.length:Int)) /\ 0 <= b /\ b < s.Width:=
 (QlF s n b).1 (h.trans (by simpa using h0))
theorem Qpl (s:Qac) (n b:Int):QaL s n b = Qar s n b:=by
 unfold QaL Qar
 rw [Qr3]
 cases h:Qa1 s with
 | false=>rfl
 | true=>
  have hb:=((Qbu s).1 h).bl
  rw [hb]
theorem Qg3 {s:Qaf} {b:Int} (h:Qc3 s b = true):0 <= b /\ b < s.Width:=by
 unfold Qc3 at h
 simp [Bool.cond_eq_ite] at h; omega
theorem Qqw {s:Qaf} {b:Int} (h:0 <= b /\ b < s.Width):Qc3 s b = true:=by
 unfold Qc3
 simp [Bool.cond_eq_ite]; omega
theorem QlB (s:Qaf) (b:Int):Qfe s b = Qap s b:=by
 unfold Qfe
 rw [Qef]
 cases hv:QaT s with
 | false=>unfold Qap; simp only [hv,cond_false]
 | true=>
  have h:VSt s.Width s:=⟨(QcZ s).1 hv,rfl⟩
  have hw:=Qif h
  rw [Qh3 h]
  simp only [cond_true]
  cases hb:Qc3 s b with
  | true=>
   have:=Qg3 hb
   simp only [cond_true,decide_eq_true this.1,decide_eq_true this.2,Bool.true_and]
   rw [QsY (by omega),Qnt]; rfl
  | false=>
   simp only [cond_false]
   unfold Qc3 at hb
   simp [Bool.cond_eq_ite] at hb
   symm
   rw [Bool.eq_false_iff]
   simp; intro h1 h2; omega
theorem Qm7 (s:List Int) (fp:Int -> Bool):QbS s fp = true ↔ ∃ x ∈ s,fp x = true:=by
 have key:∀ (m:Nat) (i:Int),0 <= i -> (∃ j,QaZ s fp m i = .ret j /\ i <= j /\ j < i + m /\ fp (s.getD j.toNat 0) = true) \/ (QaZ s fp m i = .brk () /\ ∀ j,i <= j -> j < i + m -> fp (s.getD j.toNat 0) = false):=by
  intro m
  induction m with
  | zero=>intro i _; exact .inr ⟨rfl,fun j h1 h2=>by omega⟩
  | succ m ih=>
   intro i hi
   rw [QaZ]
   cases hp:fp (s.getD i.toNat 0) with
   | true=>exact .inl ⟨i,rfl,by omega,by omega,hp⟩
   | false=>
    rcases ih (i + 1) (by omega) with ⟨j,e,j1,j2,j3⟩ | ⟨e,h⟩
    ·exact .inl ⟨j,e,by omega,by omega,j3⟩
    ·refine .inr ⟨e,fun j j1 j2=>?_⟩
     rcases Int.lt_or_eq_of_le j1 with hlt | rfl
     ·exact h j (by omega) (by omega)
     ·exact hp
 unfold QbS QcE
 rcases key ((((s.length:Nat):Int) - 0).toNat) 0 (by omega) with ⟨j,e,j1,j2,j3⟩ | ⟨e,h⟩
 ·rw [e]
  exact ⟨fun _=>⟨_,Qa4 (by omega),j3⟩,fun _=>by simpa using j1⟩
 ·rw [e]
  refine ⟨fun h=>by simp at h,?_⟩
  rintro ⟨x,hx,hf⟩
  obtain ⟨j,j1,j2,rfl⟩:=QiA.1 hx
  rw [h j j1 (by omega)] at hf; cases hf
theorem Qp3 (s:Qac) (h:Qas):QdP s h = true ↔ Qap (Bd s h.Node) h.Bit = true \/ ∃ m ∈ deps s h.Node,Qap (Tr s m).Gen h.Bit = true:=by
 unfold QdP Bd
 simp only [QlB]
 have h2:=Qm7 (s.Deps.getD h.Node.toNat []) (fun x=>Qeg x s h)
 cases e:Qap (s.Boundary.getD h.Node.toNat default) h.Bit with
 | true=>simp
 | false=>
  simp only [cond_false,Bool.false_eq_true,false_or]
  refine h2.trans ?_
  unfold Qeg deps Tr
  simp only [QlB]
theorem QmF (s:Qac) (h:Qas):QdP s h = Qb6 s h:=by rw [Bool.eq_iff_iff,Qp3,Qo0]
theorem Qel (l:List Int) (n:Int):QaF l n = true ↔ n ∈ l:=by
 have:=Qq1 (fun r i=>Qb4 l n r i) (fun i=>n == l.getD i.toNat 0) () (fun _=>rfl) (fun _ _=>rfl) ((((l.length:Nat):Int) - 0).toNat) 0
 unfold QaF Qet
 rw [QiA]
 rcases this with ⟨j,e,j1,j2,j3⟩ | ⟨e,h⟩
 ·rw [e]
  exact ⟨fun _=>⟨j,j1,by omega,(eq_of_beq j3).symm⟩,fun _=>by simpa using j1⟩
 ·rw [e]
  refine ⟨fun h=>by simp at h,?_⟩
  rintro ⟨j,j1,j2,j3⟩
  have:=h j j1 (by omega)
  simp only [j3] at this; simp at this
theorem QoG (l:List Int) (n:Int):QaF l n = Qje l n:=by
 rw [Bool.eq_iff_iff,Qel,QtD]
end Go.SL.G
