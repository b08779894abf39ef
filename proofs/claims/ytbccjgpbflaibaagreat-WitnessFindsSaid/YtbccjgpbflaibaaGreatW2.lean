/- Part 2 of the walks: mirrors, plain laws and walks used by the last text of this claim. -/
import Derived.Test.YtbccjgpbflaibaaGreatW1
import Derived.Test.YtbccjgpbflaibaaGreatProg
set_option linter.unusedVariables false
set_option linter.unusedSimpArgs false
namespace Go.SL.G
open Go Go.SL Go.Proofs
structure Qaf where
 Width:Int
 Words:List (BitVec 64)
instance:Inhabited Qaf:=⟨⟨0,[]⟩⟩
structure QaB where
 From:Int
 To:Int
instance:Inhabited QaB:=⟨⟨0,0⟩⟩
structure Qad where
 Gen:Qaf
 Kill:Qaf
 Copies:List QaB
instance:Inhabited Qad:=⟨⟨⟨0,[]⟩,⟨0,[]⟩,[]⟩⟩
structure Qab where
 Width:Int
 Deps:List (List Int)
 Transfers:List Qad
 Boundary:List Qaf
instance:Inhabited Qab:=⟨⟨0,[],[],[]⟩⟩
structure Qag where
 Node:Int
 Bit:Int
instance:Inhabited Qag:=⟨⟨0,0⟩⟩
structure Qbe where
 Kind:Int
 Text:Str
 Line:Int
 Col:Int
instance:Inhabited Qbe:=⟨⟨0,⟨[]⟩,0,0⟩⟩
structure Qah where
 l:List Qbe
 at_:Int
 Err:Int
instance:Inhabited Qah:=⟨⟨[],0,0⟩⟩
structure QdB where
 Op:Int
 Def:Str
 Uses:List Str
 Targets:List Str
instance:Inhabited QdB:=⟨⟨0,⟨[]⟩,[],[]⟩⟩
structure QeI where
 Name:Str
 Stmts:List QdB
instance:Inhabited QeI:=⟨⟨⟨[]⟩,[]⟩⟩
structure Qgy where
 Name:Str
 Blocks:List QeI
instance:Inhabited Qgy:=⟨⟨⟨[]⟩,[]⟩⟩
structure Qaz where
 Funcs:List Qgy
instance:Inhabited Qaz:=⟨⟨[]⟩⟩
structure Qbl where
 Kind:Int
 Func:Int
 Block:Int
 Stmt:Int
instance:Inhabited Qbl:=⟨⟨0,0,0,0⟩⟩
structure QfM where
 Node:Int
 Var:Int
instance:Inhabited QfM:=⟨⟨0,0⟩⟩
structure Ql4 where
 Nodes:List Qbl
 Succ:List (List Int)
 Pred:List (List Int)
instance:Inhabited Ql4:=⟨⟨[],[],[]⟩⟩
structure Qj3 where
 Zero:Qaf
 One:List Qaf
instance:Inhabited Qj3:=⟨⟨⟨0,[]⟩,[]⟩⟩
instance:DecidableEq Qag:=fun a b=>decidable_of_iff (a.Node=b.Node/\a.Bit=b.Bit) (by cases a; cases b; simp)
abbrev Qey (x:Qag):Prop:=Qaa x.Node/\Qaa x.Bit
abbrev Qfd (x:Qag):Value:=.agg #[vi x.Node,vi x.Bit]
instance QxD:Rep Qaf where
 sz:=2
 bytes:=32
 pos:=by decide
 bpos:=by decide
 rd w M cs x:=∃ c1,cs=[.int .i64 x.Width,c1]/\Qaa x.Width/\Qid w M c1 x.Words
 len:=by rintro w M cs x ⟨c1,rfl,h0,h1⟩; rfl
 one:=by
  rintro w M cs x ⟨c1,rfl,h0,h1⟩ v hv
  simp only [List.mem_cons,List.not_mem_nil,or_false] at hv
  rcases hv with rfl | rfl
  all_goals first | rfl | exact Qcy h1
 st:=by
  rintro w M cs x w' M' ⟨c1,rfl,h0,h1⟩ e
  exact ⟨c1,rfl,h0,QbW h1 e⟩
theorem QsG (w:World) (M:Blk):Rep.rd w M [vi 0,.slice none 0 0] (default:Qaf):=⟨_,rfl,by unfold Qaa; decide,QjM⟩
theorem Qbf {C:Cx} {X:Act->World->Prop} {L:Env} {A:List SP} {c:Value} {xs:List Qaf} (i m:Nat) (hA:A[m]? = some (sl c xs)) (hi:i < xs.length)
  (h:∀ (a1:Option Addr) (k1:Nat),Qaa (xs.getD i default).Width->JJ C X L (pv (QgV 2 c i) [.int .i64 (xs.getD i default).Width,.slice a1 (xs.getD i default).Words.length k1] :: sl (.slice a1 (xs.getD i default).Words.length k1) (xs.getD i default).Words :: A)):JJ C X L A:=by
 refine Qgf i m hA hi default fun cs=>?_
 intro a w M F st
 obtain ⟨F1,F2,q1,q2,qd,hp,F3,F4,q3,q4,qd2,hr,hs⟩:=st.sp
 obtain ⟨c1,rfl,h0,h1⟩:=hr
 have g1:=h1
 obtain ⟨_,a1,k1,rfl,_⟩:=h1
 exact h a1 k1 h0 a w M F ⟨st.step,st.sz,st.df,st.sat,F1,F2,q1,q2,qd,hp,⟨fun _=>False,_,fun _ h=>h.elim,fun _ h=>h,fun _ h _=>h,g1,Qbz hs q4⟩⟩
theorem Qny {C:Cx} {X:Act->World->Prop} {L:Env} {A Ar:List SP} {c:Value} {xs:List Qaf} (i m:Nat) (ht:take A [m]=some ([os c xs],Ar)) (hi:i < xs.length)
  (h:∀ (a1:Option Addr) (k1:Nat),Qaa (xs.getD i default).Width->JJ C X L (oread c xs i [.int .i64 (xs.getD i default).Width,.slice a1 (xs.getD i default).Words.length k1] :: sl (.slice a1 (xs.getD i default).Words.length k1) (xs.getD i default).Words :: Ar)):JJ C X L A:=by
 refine Qj0 (Ac:=A) i m ht hi default fun cs=>?_
 intro a w M F st
 obtain ⟨F1,F2,q1,q2,qd,hr,F3,F4,q3,q4,qd2,hp,hs⟩:=st.sp
 obtain ⟨c1,rfl,h0,h1⟩:=hr
 have g1:=h1
 obtain ⟨_,a1,k1,rfl,_⟩:=h1
 exact h a1 k1 h0 a w M F ⟨st.step,st.sz,st.df,st.sat,F3,F4,fun b h=>q2 b (q3 b h),fun b h=>q2 b (q4 b h),qd2,hp,⟨fun _=>False,F4,fun _ h=>h.elim,fun _ h=>h,fun _ h _=>h,g1,hs⟩⟩
instance Qxf:Rep QaB where
 sz:=2
 bytes:=16
 pos:=by decide
 bpos:=by decide
 rd w M cs x:=cs=[.int .i64 x.From,.int .i64 x.To]/\Qaa x.From/\Qaa x.To
 len:=by rintro w M cs x ⟨rfl,h0,h1⟩; rfl
 one:=by
  rintro w M cs x ⟨rfl,h0,h1⟩ v hv
  simp only [List.mem_cons,List.not_mem_nil,or_false] at hv
  rcases hv with rfl | rfl
  all_goals first | rfl
 st:=by
  rintro w M cs x w' M' ⟨rfl,h0,h1⟩ e
  exact ⟨rfl,h0,h1⟩
theorem Qcz {C:Cx} {X:Act->World->Prop} {L:Env} {A:List SP} {c:Value} {xs:List QaB} (i m:Nat) (hA:A[m]? = some (sl c xs)) (hi:i < xs.length)
  (h:Qaa (xs.getD i default).From->Qaa (xs.getD i default).To->JJ C X L (pv (QgV 2 c i) [.int .i64 (xs.getD i default).From,.int .i64 (xs.getD i default).To] :: A)):JJ C X L A:=by
 refine Qgf i m hA hi default fun cs=>?_
 intro a w M F st
 obtain ⟨F1,F2,q1,q2,qd,hp,F3,F4,q3,q4,qd2,hr,hs⟩:=st.sp
 obtain ⟨rfl,h0,h1⟩:=hr
 exact h h0 h1 a w M F ⟨st.step,st.sz,st.df,st.sat,F1,F2,q1,q2,qd,hp,Qbz hs q4⟩
theorem Qmu {C:Cx} {X:Act->World->Prop} {L:Env} {A Ar:List SP} {c:Value} {xs:List QaB} (i m:Nat) (ht:take A [m]=some ([os c xs],Ar)) (hi:i < xs.length)
  (h:Qaa (xs.getD i default).From->Qaa (xs.getD i default).To->JJ C X L (oread c xs i [.int .i64 (xs.getD i default).From,.int .i64 (xs.getD i default).To] :: Ar)):JJ C X L A:=by
 refine Qj0 (Ac:=A) i m ht hi default fun cs=>?_
 intro a w M F st
 obtain ⟨F1,F2,q1,q2,qd,hr,F3,F4,q3,q4,qd2,hp,hs⟩:=st.sp
 obtain ⟨rfl,h0,h1⟩:=hr
 exact h h0 h1 a w M F ⟨st.step,st.sz,st.df,st.sat,F3,F4,fun b h=>q2 b (q3 b h),fun b h=>q2 b (q4 b h),qd2,hp,hs⟩
instance Qtg:Rep Qad where
 sz:=5
 bytes:=88
 pos:=by decide
 bpos:=by decide
 rd w M cs x:=∃ c1 c3 c4,cs=[.int .i64 x.Gen.Width,c1,.int .i64 x.Kill.Width,c3,c4]/\Qaa x.Gen.Width/\Qid w M c1 x.Gen.Words/\Qaa x.Kill.Width/\Qid w M c3 x.Kill.Words/\Qid w M c4 x.Copies
 len:=by rintro w M cs x ⟨c1,c3,c4,rfl,h0,h1,h2,h3,h4⟩; rfl
 one:=by
  rintro w M cs x ⟨c1,c3,c4,rfl,h0,h1,h2,h3,h4⟩ v hv
  simp only [List.mem_cons,List.not_mem_nil,or_false] at hv
  rcases hv with rfl | rfl | rfl | rfl | rfl
  all_goals first | rfl | exact Qcy h1 | exact Qcy h3 | exact Qcy h4
 st:=by
  rintro w M cs x w' M' ⟨c1,c3,c4,rfl,h0,h1,h2,h3,h4⟩ e
  exact ⟨c1,c3,c4,rfl,h0,QbW h1 e,h2,QbW h3 e,QbW h4 e⟩
theorem Qa0 {C:Cx} {X:Act->World->Prop} {L:Env} {A:List SP} {c:Value} {xs:List Qad} (i m:Nat) (hA:A[m]? = some (sl c xs)) (hi:i < xs.length)
  (h:∀ (a1:Option Addr) (k1:Nat) (a3:Option Addr) (k3:Nat) (a4:Option Addr) (k4:Nat),Qaa ((xs.getD i default).Gen).Width->Qaa ((xs.getD i default).Kill).Width->JJ C X L (pv (QgV 5 c i) [.int .i64 ((xs.getD i default).Gen).Width,.slice a1 ((xs.getD i default).Gen).Words.length k1,.int .i64 ((xs.getD i default).Kill).Width,.slice a3 ((xs.getD i default).Kill).Words.length k3,.slice a4 (xs.getD i default).Copies.length k4] :: sl (.slice a1 ((xs.getD i default).Gen).Words.length k1) ((xs.getD i default).Gen).Words :: sl (.slice a3 ((xs.getD i default).Kill).Words.length k3) ((xs.getD i default).Kill).Words :: sl (.slice a4 (xs.getD i default).Copies.length k4) (xs.getD i default).Copies :: A)):JJ C X L A:=by
 refine Qgf i m hA hi default fun cs=>?_
 intro a w M F st
 obtain ⟨F1,F2,q1,q2,qd,hp,F3,F4,q3,q4,qd2,hr,hs⟩:=st.sp
 obtain ⟨c1,c3,c4,rfl,h0,h1,h2,h3,h4⟩:=hr
 have g1:=h1
 obtain ⟨_,a1,k1,rfl,_⟩:=h1
 have g3:=h3
 obtain ⟨_,a3,k3,rfl,_⟩:=h3
 have g4:=h4
 obtain ⟨_,a4,k4,rfl,_⟩:=h4
 exact h a1 k1 a3 k3 a4 k4 h0 h2 a w M F ⟨st.step,st.sz,st.df,st.sat,F1,F2,q1,q2,qd,hp,⟨fun _=>False,_,fun _ h=>h.elim,fun _ h=>h,fun _ h _=>h,g1,⟨fun _=>False,_,fun _ h=>h.elim,fun _ h=>h,fun _ h _=>h,g3,⟨fun _=>False,_,fun _ h=>h.elim,fun _ h=>h,fun _ h _=>h,g4,Qbz hs q4⟩⟩⟩⟩
theorem Qg0 {C:Cx} {X:Act->World->Prop} {L:Env} {A Ar:List SP} {c:Value} {xs:List Qad} (i m:Nat) (ht:take A [m]=some ([os c xs],Ar)) (hi:i < xs.length)
  (h:∀ (a1:Option Addr) (k1:Nat) (a3:Option Addr) (k3:Nat) (a4:Option Addr) (k4:Nat),Qaa ((xs.getD i default).Gen).Width->Qaa ((xs.getD i default).Kill).Width->JJ C X L (oread c xs i [.int .i64 ((xs.getD i default).Gen).Width,.slice a1 ((xs.getD i default).Gen).Words.length k1,.int .i64 ((xs.getD i default).Kill).Width,.slice a3 ((xs.getD i default).Kill).Words.length k3,.slice a4 (xs.getD i default).Copies.length k4] :: sl (.slice a1 ((xs.getD i default).Gen).Words.length k1) ((xs.getD i default).Gen).Words :: sl (.slice a3 ((xs.getD i default).Kill).Words.length k3) ((xs.getD i default).Kill).Words :: sl (.slice a4 (xs.getD i default).Copies.length k4) (xs.getD i default).Copies :: Ar)):JJ C X L A:=by
 refine Qj0 (Ac:=A) i m ht hi default fun cs=>?_
 intro a w M F st
 obtain ⟨F1,F2,q1,q2,qd,hr,F3,F4,q3,q4,qd2,hp,hs⟩:=st.sp
 obtain ⟨c1,c3,c4,rfl,h0,h1,h2,h3,h4⟩:=hr
 have g1:=h1
 obtain ⟨_,a1,k1,rfl,_⟩:=h1
 have g3:=h3
 obtain ⟨_,a3,k3,rfl,_⟩:=h3
 have g4:=h4
 obtain ⟨_,a4,k4,rfl,_⟩:=h4
 exact h a1 k1 a3 k3 a4 k4 h0 h2 a w M F ⟨st.step,st.sz,st.df,st.sat,F3,F4,fun b h=>q2 b (q3 b h),fun b h=>q2 b (q4 b h),qd2,hp,⟨fun _=>False,F4,fun _ h=>h.elim,fun _ h=>h,fun _ h _=>h,g1,⟨fun _=>False,F4,fun _ h=>h.elim,fun _ h=>h,fun _ h _=>h,g3,⟨fun _=>False,F4,fun _ h=>h.elim,fun _ h=>h,fun _ h _=>h,g4,hs⟩⟩⟩⟩
instance Qvc:Rep Qab where
 sz:=4
 bytes:=80
 pos:=by decide
 bpos:=by decide
 rd w M cs x:=∃ c1 c2 c3,cs=[.int .i64 x.Width,c1,c2,c3]/\Qaa x.Width/\Qid w M c1 x.Deps/\Qid w M c2 x.Transfers/\Qid w M c3 x.Boundary
 len:=by rintro w M cs x ⟨c1,c2,c3,rfl,h0,h1,h2,h3⟩; rfl
 one:=by
  rintro w M cs x ⟨c1,c2,c3,rfl,h0,h1,h2,h3⟩ v hv
  simp only [List.mem_cons,List.not_mem_nil,or_false] at hv
  rcases hv with rfl | rfl | rfl | rfl
  all_goals first | rfl | exact Qcy h1 | exact Qcy h2 | exact Qcy h3
 st:=by
  rintro w M cs x w' M' ⟨c1,c2,c3,rfl,h0,h1,h2,h3⟩ e
  exact ⟨c1,c2,c3,rfl,h0,QbW h1 e,QbW h2 e,QbW h3 e⟩
instance QxI:Rep Qag where
 sz:=2
 bytes:=16
 pos:=by decide
 bpos:=by decide
 rd w M cs x:=cs=[.int .i64 x.Node,.int .i64 x.Bit]/\Qaa x.Node/\Qaa x.Bit
 len:=by rintro w M cs x ⟨rfl,h0,h1⟩; rfl
 one:=by
  rintro w M cs x ⟨rfl,h0,h1⟩ v hv
  simp only [List.mem_cons,List.not_mem_nil,or_false] at hv
  rcases hv with rfl | rfl
  all_goals first | rfl
 st:=by
  rintro w M cs x w' M' ⟨rfl,h0,h1⟩ e
  exact ⟨rfl,h0,h1⟩
theorem Qci {C:Cx} {X:Act->World->Prop} {L:Env} {A:List SP} {c:Value} {xs:List Qag} (i m:Nat) (hA:A[m]? = some (sl c xs)) (hi:i < xs.length)
  (h:Qaa (xs.getD i default).Node->Qaa (xs.getD i default).Bit->JJ C X L (pv (QgV 2 c i) [.int .i64 (xs.getD i default).Node,.int .i64 (xs.getD i default).Bit] :: A)):JJ C X L A:=by
 refine Qgf i m hA hi default fun cs=>?_
 intro a w M F st
 obtain ⟨F1,F2,q1,q2,qd,hp,F3,F4,q3,q4,qd2,hr,hs⟩:=st.sp
 obtain ⟨rfl,h0,h1⟩:=hr
 exact h h0 h1 a w M F ⟨st.step,st.sz,st.df,st.sat,F1,F2,q1,q2,qd,hp,Qbz hs q4⟩
theorem QnO {C:Cx} {X:Act->World->Prop} {L:Env} {A Ar:List SP} {c:Value} {xs:List Qag} (i m:Nat) (ht:take A [m]=some ([os c xs],Ar)) (hi:i < xs.length)
  (h:Qaa (xs.getD i default).Node->Qaa (xs.getD i default).Bit->JJ C X L (oread c xs i [.int .i64 (xs.getD i default).Node,.int .i64 (xs.getD i default).Bit] :: Ar)):JJ C X L A:=by
 refine Qj0 (Ac:=A) i m ht hi default fun cs=>?_
 intro a w M F st
 obtain ⟨F1,F2,q1,q2,qd,hr,F3,F4,q3,q4,qd2,hp,hs⟩:=st.sp
 obtain ⟨rfl,h0,h1⟩:=hr
 exact h h0 h1 a w M F ⟨st.step,st.sz,st.df,st.sat,F3,F4,fun b h=>q2 b (q3 b h),fun b h=>q2 b (q4 b h),qd2,hp,hs⟩
instance Qvy:Rep Qbe where
 sz:=4
 bytes:=40
 pos:=by decide
 bpos:=by decide
 rd w M cs x:=cs=[.int .i64 x.Kind,.string (bs x.Text),.int .i64 x.Line,.int .i64 x.Col]/\Qaa x.Kind/\x.Text.b.length<=140737488355328/\Qaa x.Line/\Qaa x.Col
 len:=by rintro w M cs x ⟨rfl,h0,h1,h2,h3⟩; rfl
 one:=by
  rintro w M cs x ⟨rfl,h0,h1,h2,h3⟩ v hv
  simp only [List.mem_cons,List.not_mem_nil,or_false] at hv
  rcases hv with rfl | rfl | rfl | rfl
  all_goals first | rfl
 st:=by
  rintro w M cs x w' M' ⟨rfl,h0,h1,h2,h3⟩ e
  exact ⟨rfl,h0,h1,h2,h3⟩
theorem Qeo {C:Cx} {X:Act->World->Prop} {L:Env} {A:List SP} {c:Value} {xs:List Qbe} (i m:Nat) (hA:A[m]? = some (sl c xs)) (hi:i < xs.length)
  (h:Qaa (xs.getD i default).Kind->((xs.getD i default).Text).b.length<=140737488355328->Qaa (xs.getD i default).Line->Qaa (xs.getD i default).Col->JJ C X L (pv (QgV 4 c i) [.int .i64 (xs.getD i default).Kind,.string (bs (xs.getD i default).Text),.int .i64 (xs.getD i default).Line,.int .i64 (xs.getD i default).Col] :: A)):JJ C X L A:=by
 refine Qgf i m hA hi default fun cs=>?_
 intro a w M F st
 obtain ⟨F1,F2,q1,q2,qd,hp,F3,F4,q3,q4,qd2,hr,hs⟩:=st.sp
 obtain ⟨rfl,h0,h1,h2,h3⟩:=hr
 exact h h0 h1 h2 h3 a w M F ⟨st.step,st.sz,st.df,st.sat,F1,F2,q1,q2,qd,hp,Qbz hs q4⟩
instance Qu3:Rep Qah where
 sz:=3
 bytes:=40
 pos:=by decide
 bpos:=by decide
 rd w M cs x:=∃ c0,cs=[c0,.int .i64 x.at_,.int .i64 x.Err]/\Qid w M c0 x.l/\Qaa x.at_/\Qaa x.Err
 len:=by rintro w M cs x ⟨c0,rfl,h0,h1,h2⟩; rfl
 one:=by
  rintro w M cs x ⟨c0,rfl,h0,h1,h2⟩ v hv
  simp only [List.mem_cons,List.not_mem_nil,or_false] at hv
  rcases hv with rfl | rfl | rfl
  all_goals first | rfl | exact Qcy h0
 st:=by
  rintro w M cs x w' M' ⟨c0,rfl,h0,h1,h2⟩ e
  exact ⟨c0,rfl,QbW h0 e,h1,h2⟩
instance QwY:Rep QdB where
 sz:=4
 bytes:=72
 pos:=by decide
 bpos:=by decide
 rd w M cs x:=∃ c2 c3,cs=[.int .i64 x.Op,.string (bs x.Def),c2,c3]/\Qaa x.Op/\x.Def.b.length<=140737488355328/\Qid w M c2 x.Uses/\Qid w M c3 x.Targets
 len:=by rintro w M cs x ⟨c2,c3,rfl,h0,h1,h2,h3⟩; rfl
 one:=by
  rintro w M cs x ⟨c2,c3,rfl,h0,h1,h2,h3⟩ v hv
  simp only [List.mem_cons,List.not_mem_nil,or_false] at hv
  rcases hv with rfl | rfl | rfl | rfl
  all_goals first | rfl | exact Qcy h2 | exact Qcy h3
 st:=by
  rintro w M cs x w' M' ⟨c2,c3,rfl,h0,h1,h2,h3⟩ e
  exact ⟨c2,c3,rfl,h0,h1,QbW h2 e,QbW h3 e⟩
theorem QdG {C:Cx} {X:Act->World->Prop} {L:Env} {A:List SP} {c:Value} {xs:List QdB} (i m:Nat) (hA:A[m]? = some (sl c xs)) (hi:i < xs.length)
  (h:∀ (a2:Option Addr) (k2:Nat) (a3:Option Addr) (k3:Nat),Qaa (xs.getD i default).Op->((xs.getD i default).Def).b.length<=140737488355328->JJ C X L (pv (QgV 4 c i) [.int .i64 (xs.getD i default).Op,.string (bs (xs.getD i default).Def),.slice a2 (xs.getD i default).Uses.length k2,.slice a3 (xs.getD i default).Targets.length k3] :: sl (.slice a2 (xs.getD i default).Uses.length k2) (xs.getD i default).Uses :: sl (.slice a3 (xs.getD i default).Targets.length k3) (xs.getD i default).Targets :: A)):JJ C X L A:=by
 refine Qgf i m hA hi default fun cs=>?_
 intro a w M F st
 obtain ⟨F1,F2,q1,q2,qd,hp,F3,F4,q3,q4,qd2,hr,hs⟩:=st.sp
 obtain ⟨c2,c3,rfl,h0,h1,h2,h3⟩:=hr
 have g2:=h2
 obtain ⟨_,a2,k2,rfl,_⟩:=h2
 have g3:=h3
 obtain ⟨_,a3,k3,rfl,_⟩:=h3
 exact h a2 k2 a3 k3 h0 h1 a w M F ⟨st.step,st.sz,st.df,st.sat,F1,F2,q1,q2,qd,hp,⟨fun _=>False,_,fun _ h=>h.elim,fun _ h=>h,fun _ h _=>h,g2,⟨fun _=>False,_,fun _ h=>h.elim,fun _ h=>h,fun _ h _=>h,g3,Qbz hs q4⟩⟩⟩
instance QvB:Rep QeI where
 sz:=2
 bytes:=40
 pos:=by decide
 bpos:=by decide
 rd w M cs x:=∃ c1,cs=[.string (bs x.Name),c1]/\x.Name.b.length<=140737488355328/\Qid w M c1 x.Stmts
 len:=by rintro w M cs x ⟨c1,rfl,h0,h1⟩; rfl
 one:=by
  rintro w M cs x ⟨c1,rfl,h0,h1⟩ v hv
  simp only [List.mem_cons,List.not_mem_nil,or_false] at hv
  rcases hv with rfl | rfl
  all_goals first | rfl | exact Qcy h1
 st:=by
  rintro w M cs x w' M' ⟨c1,rfl,h0,h1⟩ e
  exact ⟨c1,rfl,h0,QbW h1 e⟩
theorem QcE {C:Cx} {X:Act->World->Prop} {L:Env} {A:List SP} {c:Value} {xs:List QeI} (i m:Nat) (hA:A[m]? = some (sl c xs)) (hi:i < xs.length)
  (h:∀ (a1:Option Addr) (k1:Nat),((xs.getD i default).Name).b.length<=140737488355328->JJ C X L (pv (QgV 2 c i) [.string (bs (xs.getD i default).Name),.slice a1 (xs.getD i default).Stmts.length k1] :: sl (.slice a1 (xs.getD i default).Stmts.length k1) (xs.getD i default).Stmts :: A)):JJ C X L A:=by
 refine Qgf i m hA hi default fun cs=>?_
 intro a w M F st
 obtain ⟨F1,F2,q1,q2,qd,hp,F3,F4,q3,q4,qd2,hr,hs⟩:=st.sp
 obtain ⟨c1,rfl,h0,h1⟩:=hr
 have g1:=h1
 obtain ⟨_,a1,k1,rfl,_⟩:=h1
 exact h a1 k1 h0 a w M F ⟨st.step,st.sz,st.df,st.sat,F1,F2,q1,q2,qd,hp,⟨fun _=>False,_,fun _ h=>h.elim,fun _ h=>h,fun _ h _=>h,g1,Qbz hs q4⟩⟩
instance Qxn:Rep Qgy where
 sz:=2
 bytes:=40
 pos:=by decide
 bpos:=by decide
 rd w M cs x:=∃ c1,cs=[.string (bs x.Name),c1]/\x.Name.b.length<=140737488355328/\Qid w M c1 x.Blocks
 len:=by rintro w M cs x ⟨c1,rfl,h0,h1⟩; rfl
 one:=by
  rintro w M cs x ⟨c1,rfl,h0,h1⟩ v hv
  simp only [List.mem_cons,List.not_mem_nil,or_false] at hv
  rcases hv with rfl | rfl
  all_goals first | rfl | exact Qcy h1
 st:=by
  rintro w M cs x w' M' ⟨c1,rfl,h0,h1⟩ e
  exact ⟨c1,rfl,h0,QbW h1 e⟩
theorem Qdb {C:Cx} {X:Act->World->Prop} {L:Env} {A:List SP} {c:Value} {xs:List Qgy} (i m:Nat) (hA:A[m]? = some (sl c xs)) (hi:i < xs.length)
  (h:∀ (a1:Option Addr) (k1:Nat),((xs.getD i default).Name).b.length<=140737488355328->JJ C X L (pv (QgV 2 c i) [.string (bs (xs.getD i default).Name),.slice a1 (xs.getD i default).Blocks.length k1] :: sl (.slice a1 (xs.getD i default).Blocks.length k1) (xs.getD i default).Blocks :: A)):JJ C X L A:=by
 refine Qgf i m hA hi default fun cs=>?_
 intro a w M F st
 obtain ⟨F1,F2,q1,q2,qd,hp,F3,F4,q3,q4,qd2,hr,hs⟩:=st.sp
 obtain ⟨c1,rfl,h0,h1⟩:=hr
 have g1:=h1
 obtain ⟨_,a1,k1,rfl,_⟩:=h1
 exact h a1 k1 h0 a w M F ⟨st.step,st.sz,st.df,st.sat,F1,F2,q1,q2,qd,hp,⟨fun _=>False,_,fun _ h=>h.elim,fun _ h=>h,fun _ h _=>h,g1,Qbz hs q4⟩⟩
instance QtU:Rep Qaz where
 sz:=1
 bytes:=24
 pos:=by decide
 bpos:=by decide
 rd w M cs x:=∃ c0,cs=[c0]/\Qid w M c0 x.Funcs
 len:=by rintro w M cs x ⟨c0,rfl,h0⟩; rfl
 one:=by
  rintro w M cs x ⟨c0,rfl,h0⟩ v hv
  simp only [List.mem_cons,List.not_mem_nil,or_false] at hv
  rcases hv with rfl
  all_goals first | rfl | exact Qcy h0
 st:=by
  rintro w M cs x w' M' ⟨c0,rfl,h0⟩ e
  exact ⟨c0,rfl,QbW h0 e⟩
instance QvH:Rep Qbl where
 sz:=4
 bytes:=32
 pos:=by decide
 bpos:=by decide
 rd w M cs x:=cs=[.int .i64 x.Kind,.int .i64 x.Func,.int .i64 x.Block,.int .i64 x.Stmt]/\Qaa x.Kind/\Qaa x.Func/\Qaa x.Block/\Qaa x.Stmt
 len:=by rintro w M cs x ⟨rfl,h0,h1,h2,h3⟩; rfl
 one:=by
  rintro w M cs x ⟨rfl,h0,h1,h2,h3⟩ v hv
  simp only [List.mem_cons,List.not_mem_nil,or_false] at hv
  rcases hv with rfl | rfl | rfl | rfl
  all_goals first | rfl
 st:=by
  rintro w M cs x w' M' ⟨rfl,h0,h1,h2,h3⟩ e
  exact ⟨rfl,h0,h1,h2,h3⟩
theorem QeU {C:Cx} {X:Act->World->Prop} {L:Env} {A:List SP} {c:Value} {xs:List Qbl} (i m:Nat) (hA:A[m]? = some (sl c xs)) (hi:i < xs.length)
  (h:Qaa (xs.getD i default).Kind->Qaa (xs.getD i default).Func->Qaa (xs.getD i default).Block->Qaa (xs.getD i default).Stmt->JJ C X L (pv (QgV 4 c i) [.int .i64 (xs.getD i default).Kind,.int .i64 (xs.getD i default).Func,.int .i64 (xs.getD i default).Block,.int .i64 (xs.getD i default).Stmt] :: A)):JJ C X L A:=by
 refine Qgf i m hA hi default fun cs=>?_
 intro a w M F st
 obtain ⟨F1,F2,q1,q2,qd,hp,F3,F4,q3,q4,qd2,hr,hs⟩:=st.sp
 obtain ⟨rfl,h0,h1,h2,h3⟩:=hr
 exact h h0 h1 h2 h3 a w M F ⟨st.step,st.sz,st.df,st.sat,F1,F2,q1,q2,qd,hp,Qbz hs q4⟩
instance Qv6:Rep QfM where
 sz:=2
 bytes:=16
 pos:=by decide
 bpos:=by decide
 rd w M cs x:=cs=[.int .i64 x.Node,.int .i64 x.Var]/\Qaa x.Node/\Qaa x.Var
 len:=by rintro w M cs x ⟨rfl,h0,h1⟩; rfl
 one:=by
  rintro w M cs x ⟨rfl,h0,h1⟩ v hv
  simp only [List.mem_cons,List.not_mem_nil,or_false] at hv
  rcases hv with rfl | rfl
  all_goals first | rfl
 st:=by
  rintro w M cs x w' M' ⟨rfl,h0,h1⟩ e
  exact ⟨rfl,h0,h1⟩
theorem QjW {C:Cx} {X:Act->World->Prop} {L:Env} {A:List SP} {c:Value} {xs:List QfM} (i m:Nat) (hA:A[m]? = some (sl c xs)) (hi:i < xs.length)
  (h:Qaa (xs.getD i default).Node->Qaa (xs.getD i default).Var->JJ C X L (pv (QgV 2 c i) [.int .i64 (xs.getD i default).Node,.int .i64 (xs.getD i default).Var] :: A)):JJ C X L A:=by
 refine Qgf i m hA hi default fun cs=>?_
 intro a w M F st
 obtain ⟨F1,F2,q1,q2,qd,hp,F3,F4,q3,q4,qd2,hr,hs⟩:=st.sp
 obtain ⟨rfl,h0,h1⟩:=hr
 exact h h0 h1 a w M F ⟨st.step,st.sz,st.df,st.sat,F1,F2,q1,q2,qd,hp,Qbz hs q4⟩
instance QvD:Rep Ql4 where
 sz:=3
 bytes:=72
 pos:=by decide
 bpos:=by decide
 rd w M cs x:=∃ c0 c1 c2,cs=[c0,c1,c2]/\Qid w M c0 x.Nodes/\Qid w M c1 x.Succ/\Qid w M c2 x.Pred
 len:=by rintro w M cs x ⟨c0,c1,c2,rfl,h0,h1,h2⟩; rfl
 one:=by
  rintro w M cs x ⟨c0,c1,c2,rfl,h0,h1,h2⟩ v hv
  simp only [List.mem_cons,List.not_mem_nil,or_false] at hv
  rcases hv with rfl | rfl | rfl
  all_goals first | rfl | exact Qcy h0 | exact Qcy h1 | exact Qcy h2
 st:=by
  rintro w M cs x w' M' ⟨c0,c1,c2,rfl,h0,h1,h2⟩ e
  exact ⟨c0,c1,c2,rfl,QbW h0 e,QbW h1 e,QbW h2 e⟩
instance QvA:Rep Qj3 where
 sz:=3
 bytes:=56
 pos:=by decide
 bpos:=by decide
 rd w M cs x:=∃ c1 c2,cs=[.int .i64 x.Zero.Width,c1,c2]/\Qaa x.Zero.Width/\Qid w M c1 x.Zero.Words/\Qid w M c2 x.One
 len:=by rintro w M cs x ⟨c1,c2,rfl,h0,h1,h2⟩; rfl
 one:=by
  rintro w M cs x ⟨c1,c2,rfl,h0,h1,h2⟩ v hv
  simp only [List.mem_cons,List.not_mem_nil,or_false] at hv
  rcases hv with rfl | rfl | rfl
  all_goals first | rfl | exact Qcy h1 | exact Qcy h2
 st:=by
  rintro w M cs x w' M' ⟨c1,c2,rfl,h0,h1,h2⟩ e
  exact ⟨c1,c2,rfl,h0,QbW h1 e,QbW h2 e⟩
theorem Qth (n:Int) (h:1<=n/\n<=9223372036854775807):BitVec.ofInt 64 n≠0:=by
 intro e
 have:=congrArg BitVec.toNat e
 rw [BitVec.toNat_ofInt] at this
 simp at this
 omega
theorem Qlw (v n:Int) (h:1<=n/\n<=9223372036854775807):0<=(((BitVec.ofInt 64 v) % (BitVec.ofInt 64 n)).toNat:Int)/\(((BitVec.ofInt 64 v) % (BitVec.ofInt 64 n)).toNat:Int) < n:=by
 rw [BitVec.toNat_umod,BitVec.toNat_ofInt,BitVec.toNat_ofInt]
 have e:(n % ((2 ^ 64:Nat):Int)).toNat=n.toNat:=by omega
 rw [e]
 have:(v % ((2 ^ 64:Nat):Int)).toNat % n.toNat < n.toNat:=Nat.mod_lt _ (by omega)
 omega
theorem QvR (v n:Int) (h:1<=n/\n<=9223372036854775807):(((BitVec.ofInt 64 v) % (BitVec.ofInt 64 n)).toNat:Int)<=9223372036854775807:=by
 have:=Qlw v n h; omega
theorem QiJ {α:Type} {p:α->Prop} {xs:List α} {d:α} (h:∀ x∈xs,p x) (hd:p d) (i:Nat):p (xs.getD i d):=by
 rw [List.getD_eq_getElem?_getD]
 cases hx:xs[i]? with
 | none=>exact hd
 | some x=>exact h x (List.mem_of_getElem? hx)
def QgC (s:Qab):Nat->Int->LR Unit Bool
 | 0,i=>
  .brk ()
 | r+1,i=>
  bif decide (8 < ((s.Deps.getD i.toNat []).length:Int)) then
   .ret true
  else
   QgC s r (i+1)
def Qgz (s:Qab):Nat->Int->LR Unit Bool
 | 0,i=>
  .brk ()
 | r+1,i=>
  bif decide (12 < (((s.Transfers.getD i.toNat default).Copies).length:Int)) then
   .ret true
  else
   Qgz s r (i+1)
def Qiq (s:Qab):Bool:=
 bif decide (6 < (s.Deps.length:Int)) then
  true
 else
  bif decide (6 < (s.Transfers.length:Int)) then
   true
  else
   bif decide (6 < (s.Boundary.length:Int)) then
    true
   else
    bif decide (8 < s.Width) then
     true
    else
     match QgC s (((s.Deps.length:Int) - 0).toNat) 0 with
     | .brk _=>
      match Qgz s (((s.Transfers.length:Int) - 0).toNat) 0 with
      | .brk _=>
       false
      | .ret r=>r
      | .oof=>default
     | .ret r=>r
     | .oof=>default
def Qg1 (width:Int) (n:Int):Bool:=
 bif decide (0<=width) then
  bif decide (width<=256) then
   bif decide (1<=n) then
    decide (n<=256)
   else
    false
  else
   false
 else
  false
def Qa9 (l:List Int) (n:Int):Nat->Int->LR Unit Bool
 | 0,v9=>
  .brk ()
 | r+1,v9=>
  bif decide ((l.getD v9.toNat 0) < 0) then
   .ret false
  else
   bif decide (n<=(l.getD v9.toNat 0)) then
    .ret false
   else
    bif decide (0 < v9) then
     bif decide ((l.getD v9.toNat 0)<=(l.getD ((v9 - 1):Int).toNat 0)) then
      .ret false
     else
      Qa9 l n r (v9+1)
    else
     Qa9 l n r (v9+1)
def Qdg (l:List Int) (n:Int):Bool:=
 match Qa9 l n (((l.length:Int) - 0).toNat) 0 with
 | .brk _=>
  true
 | .ret r=>r
 | .oof=>default
def Qbq (s:List Qaf) (fp:Qaf->Bool):Nat->Int->LR Unit Int
 | 0,v8=>
  .brk ()
 | r+1,v8=>
  bif (fp (s.getD v8.toNat default)) then
   .ret v8
  else
   Qbq s fp r (v8+1)
def Qc0 (s:List Qaf) (fp:Qaf->Bool):Int:=
 match Qbq s fp (((s.length:Int) - 0).toNat) 0 with
 | .brk _=>
  -1
 | .ret r=>r
 | .oof=>default
def QaN (s:List Qaf) (fp:Qaf->Bool):Bool:=
 let rv1:=(Qc0 s fp)
 decide (0<=rv1)
def QdL (width:Int):Bool:=
 bif decide (0<=width) then
  decide (width<=256)
 else
  false
def QfW (width:Int):Int:=
 (((width+64) - 1) / 64)
def QiM (width:Int):BitVec 64:=
 (18446744073709551615#64 <<< ((((BitVec.ofInt 64 width) % 64#64).toNat:Int)).toNat)
def QaX (s:Qaf):Bool:=
 let rv2:=(QdL s.Width)
 bif (!rv2) then
  false
 else
  let rv12:=(QfW s.Width)
  bif ((s.Words.length:Int) != rv12) then
   false
  else
   bif ((s.Width % 64) == 0) then
    true
   else
    let rv23:=(QiM s.Width)
    (((s.Words.getD (((s.Words.length:Int) - 1):Int).toNat 0#64) &&& rv23) == 0#64)
def QdO (s:Qaf) (cap0:Int):Bool:=
 let rv2:=(QaX s)
 bif (!rv2) then
  true
 else
  (s.Width != cap0)
def Qg5 (width:Int) (l:List Qaf):Bool:=
 let rv2:=(QaN l (fun x=>QdO x width))
 (!rv2)
def QaW (s:List Qad) (fp:Qad->Bool):Nat->Int->LR Unit Int
 | 0,v8=>
  .brk ()
 | r+1,v8=>
  bif (fp (s.getD v8.toNat default)) then
   .ret v8
  else
   QaW s fp r (v8+1)
def QbN (s:List Qad) (fp:Qad->Bool):Int:=
 match QaW s fp (((s.length:Int) - 0).toNat) 0 with
 | .brk _=>
  -1
 | .ret r=>r
 | .oof=>default
def QaK (s:List Qad) (fp:Qad->Bool):Bool:=
 let rv1:=(QbN s fp)
 decide (0<=rv1)
def Qcx (vals:List Int):Nat->Int->LR Unit Int
 | 0,v8=>
  .brk ()
 | r+1,v8=>
  bif ((vals.getD v8.toNat 0) != 0) then
   .ret (vals.getD v8.toNat 0)
  else
   Qcx vals r (v8+1)
def Qfh (vals:List Int):Int:=
 match Qcx vals (((vals.length:Int) - 0).toNat) 0 with
 | .brk _=>
  0
 | .ret r=>r
 | .oof=>default
def QdD (x:Int):Bool:=
 (x != x)
def Qba (x:Int) (y:Int):Int:=
 let rv1:=(QdD x)
 let rv4:=(QdD y)
 bif rv1 then
  bif rv4 then
   0
  else
   -1
 else
  bif rv4 then
   1
  else
   bif decide (x < y) then
    -1
   else
    bif decide (y < x) then
     1
    else
     0
def Qf7 (a:QaB) (b:QaB):Int:=
 let rv3:=(Qba a.From b.From)
 let rv7:=(Qba a.To b.To)
 let rv14:=(Qfh [rv3,rv7])
 rv14
def Qie (t:Qad) (b:Int):Bool:=
 bif decide (0<=b) then
  decide (b < t.Gen.Width)
 else
  false
def Qb1 (t:Qad):Nat->Int->LR Unit Bool
 | 0,v33=>
  .brk ()
 | r+1,v33=>
  let rv33:=(Qie t ((t.Copies.getD v33.toNat default).From))
  bif (!rv33) then
   .ret false
  else
   let rv43:=(Qie t ((t.Copies.getD v33.toNat default).To))
   bif (!rv43) then
    .ret false
   else
    bif decide (0 < v33) then
     let rv57:=(Qf7 (t.Copies.getD ((v33 - 1):Int).toNat default) (t.Copies.getD v33.toNat default))
     bif decide (0<=rv57) then
      .ret false
     else
      Qb1 t r (v33+1)
    else
     Qb1 t r (v33+1)
def QcM (t:Qad):Bool:=
 let rv2:=(QaX t.Gen)
 bif (!rv2) then
  false
 else
  let rv12:=(QaX t.Kill)
  bif (!rv12) then
   false
  else
   bif (t.Gen.Width != t.Kill.Width) then
    false
   else
    bif decide (64 < (t.Copies.length:Int)) then
     false
    else
     match Qb1 t (((t.Copies.length:Int) - 0).toNat) 0 with
     | .brk _=>
      true
     | .ret r=>r
     | .oof=>default
def Qkv (width:Int) (f:Qad):Bool:=
 let rv2:=(QcM f)
 bif rv2 then
  (f.Gen.Width == width)
 else
  false
def QcY (f:Qad) (cap0:Qab):Bool:=
 let rv2:=(Qkv cap0.Width f)
 (!rv2)
def QcK (s:Qab):Nat->Int->Int->LR Unit Bool
 | 0,edges,v32=>
  .brk ()
 | r+1,edges,v32=>
  bif decide (1024 < (edges+((s.Deps.getD v32.toNat []).length:Int))) then
   .ret false
  else
   let rv27:=(Qdg (s.Deps.getD v32.toNat []) (s.Deps.length:Int))
   bif (!rv27) then
    .ret false
   else
    QcK s r (edges+((s.Deps.getD v32.toNat []).length:Int)) (v32+1)
def Qca (s:Qab):Bool:=
 let rv2:=(Qg1 s.Width (s.Deps.length:Int))
 bif (!rv2) then
  false
 else
  bif ((s.Transfers.length:Int) != (s.Deps.length:Int)) then
   false
  else
   bif ((s.Boundary.length:Int) != (s.Deps.length:Int)) then
    false
   else
    match QcK s (((s.Deps.length:Int) - 0).toNat) 0 0 with
    | .brk _=>
     let rv18:=(Qg5 s.Width s.Boundary)
     bif rv18 then
      let rv23:=(QaK s.Transfers (fun x=>QcY x s))
      (!rv23)
     else
      false
    | .ret r=>r
    | .oof=>default
def Qap (s:Qab) (n:Int) (bit:Int):Int:=
 let rv2:=(Qca s)
 bif (!rv2) then
  1
 else
  bif decide (n < 0) then
   9
  else
   bif decide ((s.Deps.length:Int)<=n) then
    9
   else
    bif decide (bit < 0) then
     3
    else
     bif decide (s.Width<=bit) then
      3
     else
      0
def Qdv (s:Qaf) (b:Int):Bool:=
 bif decide (0<=b) then
  decide (b < s.Width)
 else
  false
def Qei (s:Qaf) (b:Int):Bool:=
 let rv2:=(QaX s)
 bif rv2 then
  let rv7:=(Qdv s b)
  bif rv7 then
   ((((s.Words.getD ((b / 64):Int).toNat 0#64) >>> ((((BitVec.ofInt 64 b) % 64#64).toNat:Int)).toNat) &&& 1#64) == 1#64)
  else
   false
 else
  false
def Qa3 (s:List Int) (fp:Int->Bool):Nat->Int->LR Unit Int
 | 0,v8=>
  .brk ()
 | r+1,v8=>
  bif (fp (s.getD v8.toNat 0)) then
   .ret v8
  else
   Qa3 s fp r (v8+1)
def QcV (s:List Int) (fp:Int->Bool):Int:=
 match Qa3 s fp (((s.length:Int) - 0).toNat) 0 with
 | .brk _=>
  -1
 | .ret r=>r
 | .oof=>default
def Qb5 (s:List Int) (fp:Int->Bool):Bool:=
 let rv1:=(QcV s fp)
 decide (0<=rv1)
def QeB (k:Int) (cap0:Qab) (cap1:Qag):Bool:=
 let rv12:=(Qei ((cap0.Transfers.getD k.toNat default).Gen) cap1.Bit)
 rv12
def QaP (s:Qab) (h:Qag):Bool:=
 let rv7:=(Qei (s.Boundary.getD h.Node.toNat default) h.Bit)
 bif rv7 then
  true
 else
  let rv17:=(Qb5 (s.Deps.getD h.Node.toNat []) (fun x=>QeB x s h))
  rv17
def Qcj (s:List Int) (v:Int):Nat->Int->LR Unit Int
 | 0,v8=>
  .brk ()
 | r+1,v8=>
  bif (v == (s.getD v8.toNat 0)) then
   .ret v8
  else
   Qcj s v r (v8+1)
def QeM (s:List Int) (v:Int):Int:=
 match Qcj s v (((s.length:Int) - 0).toNat) 0 with
 | .brk _=>
  -1
 | .ret r=>r
 | .oof=>default
def Qa8 (s:List Int) (v:Int):Bool:=
 let rv1:=(QeM s v)
 decide (0<=rv1)
def QbB (s:List QaB) (fp:QaB->Bool):Nat->Int->LR Unit Int
 | 0,v8=>
  .brk ()
 | r+1,v8=>
  bif (fp (s.getD v8.toNat default)) then
   .ret v8
  else
   QbB s fp r (v8+1)
def Qdu (s:List QaB) (fp:QaB->Bool):Int:=
 match QbB s fp (((s.length:Int) - 0).toNat) 0 with
 | .brk _=>
  -1
 | .ret r=>r
 | .oof=>default
def Qdo (s:List QaB) (fp:QaB->Bool):Bool:=
 let rv1:=(Qdu s fp)
 decide (0<=rv1)
def Qgh (x:QaB) (cap0:QaB):Bool:=
 ([x.From,x.To] == [cap0.From,cap0.To])
def Qhl (t:Qad) (c:QaB):Bool:=
 let rv3:=(Qdo t.Copies (fun x=>Qgh x c))
 rv3
def Qf5 (t:Qad) (from_:Int) (to_:Int):Bool:=
 bif (from_ == to_) then
  let rv4:=(Qei t.Kill to_)
  bif (!rv4) then
   true
  else
   let rv14:=(Qhl t (QaB.mk from_ to_))
   rv14
 else
  let rv18:=(Qhl t (QaB.mk from_ to_))
  rv18
def Qee (t:Qad) (from_:Int) (to_:Int):Bool:=
 let rv2:=(QcM t)
 bif rv2 then
  let rv7:=(Qie t from_)
  bif rv7 then
   let rv12:=(Qie t to_)
   bif rv12 then
    let rv17:=(Qf5 t from_ to_)
    rv17
   else
    false
  else
   false
 else
  false
def Qbk (s:Qab) (l:List Qag):Nat->Int->LR Unit Bool
 | 0,v35=>
  .brk ()
 | r+1,v35=>
  let rv22:=(Qap s ((l.getD v35.toNat default).Node) ((l.getD v35.toNat default).Bit))
  bif (rv22 != 0) then
   .ret false
  else
   bif (v35 == 0) then
    let rv31:=(QaP s (l.getD v35.toNat default))
    bif (!rv31) then
     .ret false
    else
     bif decide (0 < v35) then
      let rv49:=(Qa8 (s.Deps.getD ((l.getD v35.toNat default).Node:Int).toNat []) ((l.getD ((v35 - 1):Int).toNat default).Node))
      bif rv49 then
       let rv65:=(Qee (s.Transfers.getD ((l.getD ((v35 - 1):Int).toNat default).Node:Int).toNat default) ((l.getD ((v35 - 1):Int).toNat default).Bit) ((l.getD v35.toNat default).Bit))
       bif (!rv65) then
        .ret false
       else
        Qbk s l r (v35+1)
      else
       .ret false
     else
      Qbk s l r (v35+1)
   else
    bif decide (0 < v35) then
     let rv86:=(Qa8 (s.Deps.getD ((l.getD v35.toNat default).Node:Int).toNat []) ((l.getD ((v35 - 1):Int).toNat default).Node))
     bif rv86 then
      let rv102:=(Qee (s.Transfers.getD ((l.getD ((v35 - 1):Int).toNat default).Node:Int).toNat default) ((l.getD ((v35 - 1):Int).toNat default).Bit) ((l.getD v35.toNat default).Bit))
      bif (!rv102) then
       .ret false
      else
       Qbk s l r (v35+1)
     else
      .ret false
    else
     Qbk s l r (v35+1)
def Qes (s:Qab) (n:Int) (bit:Int) (l:List Qag):Bool:=
 let rv2:=(Qap s n bit)
 bif (rv2 != 0) then
  false
 else
  bif ((l.length:Int) == 0) then
   false
  else
   bif ([(l.getD (((l.length:Int) - 1):Int).toNat default).Node,(l.getD (((l.length:Int) - 1):Int).toNat default).Bit] != [n,bit]) then
    false
   else
    match Qbk s l (((l.length:Int) - 0).toNat) 0 with
    | .brk _=>
     true
    | .ret r=>r
    | .oof=>default
def Qbs (s:List Qag) (fp:Qag->Bool):Nat->Int->LR Unit Int
 | 0,v8=>
  .brk ()
 | r+1,v8=>
  bif (fp (s.getD v8.toNat default)) then
   .ret v8
  else
   Qbs s fp r (v8+1)
def QcU (s:List Qag) (fp:Qag->Bool):Int:=
 match Qbs s fp (((s.length:Int) - 0).toNat) 0 with
 | .brk _=>
  -1
 | .ret r=>r
 | .oof=>default
def QaH (delp:Qag->Bool):Nat->List Qag->Int->Int->List Qag×Int
 | 0,s',i,j=>
  (s',i)
 | r+1,s',i,j=>
  bif (!(delp (s'.getD j.toNat default))) then
   QaH delp r (s'.set i.toNat (s'.getD j.toNat default)) (i+1) (j+1)
  else
   QaH delp r s' i (j+1)
def Qa1 (s:List Qag) (delp:Qag->Bool):List Qag:=
 let rv1:=(QcU s delp)
 bif (rv1 == -1) then
  s
 else
  match QaH delp (((s.length:Int) - (rv1+1)).toNat) s rv1 (rv1+1) with
  | (QdJ,QgG)=>
   ((((QdJ.take (QgG.toNat))++(List.replicate (s.length - QgG.toNat) (Qag.mk 0 0))).take (QgG.toNat)).drop 0)
def Qcl (s:List Qag):List Qag:=s
def Qd6 (h:Qag) (cap0:Qab):Bool:=
 let rv2:=(QaP cap0 h)
 (!rv2)
def QaZ (x:List Qag) (cmpp:Qag->Qag->Int):Nat->Int->Int->Int->Int×Int
 | 0,m0,m1,i=>
  (m0,m1)
 | r+1,m0,m1,i=>
  bif decide ((cmpp (x.getD i.toNat default) (Qag.mk m0 m1)) < 0) then
   QaZ x cmpp r ((x.getD i.toNat default).Node) ((x.getD i.toNat default).Bit) (i+1)
  else
   QaZ x cmpp r m0 m1 (i+1)
def QcC (x:List Qag) (cmpp:Qag->Qag->Int):Qag:=
 match QaZ x cmpp (((x.length:Int) - 1).toNat) ((x.getD (0:Int).toNat default).Node) ((x.getD (0:Int).toNat default).Bit) 1 with
 | (QdJ,QgG)=>
  (Qag.mk QdJ QgG)
def Qb4 (a:Qag) (b:Qag):Int:=
 bif (a.Node != b.Node) then
  (a.Node - b.Node)
 else
  (a.Bit - b.Bit)
def Qb6 (next:List (Qag×List Qag)):Nat->List Qag->List Qag->LR (List Qag) (List Qag)
 | 0,l',out=>
  .oof
 | r+1,l',out=>
  bif decide (0 < (l'.length:Int)) then
   let rv3:=(QcC l' (fun x0 x1=>Qb4 x0 x1))
   Qb6 next r ((QbX next rv3).getD []) (out++[rv3])
  else
   .brk out
def Qj9 (l:List Qag) (next:List (Qag×List Qag)):List Qag:=
 match Qb6 next ((next.length:Nat)+2) l [] with
 | .brk QdJ=>
  QdJ
 | .ret _=>default
 | .oof=>default
def QbU (s:List QaB) (v:QaB):Nat->Int->LR Unit Int
 | 0,v8=>
  .brk ()
 | r+1,v8=>
  bif ([v.From,v.To] == [(s.getD v8.toNat default).From,(s.getD v8.toNat default).To]) then
   .ret v8
  else
   QbU s v r (v8+1)
def Qeg (s:List QaB) (v:QaB):Int:=
 match QbU s v (((s.length:Int) - 0).toNat) 0 with
 | .brk _=>
  -1
 | .ret r=>r
 | .oof=>default
def Qa2 (s:List QaB) (v:QaB):Bool:=
 let rv2:=(Qeg s v)
 decide (0<=rv2)
def Qa7 (h:Qag) (m:Int) (f2:Int) (f3:List (BitVec 64)) (f4:List QaB):Nat->List Qag->Int->List Qag
 | 0,out,v28=>
  out
 | r+1,out,v28=>
  bif (v28 == h.Bit) then
   let rv26:=(Qei (Qaf.mk f2 f3) v28)
   bif (!rv26) then
    Qa7 h m f2 f3 f4 r (out++[(Qag.mk m v28)]) (v28+1)
   else
    let rv44:=(Qa2 f4 (QaB.mk v28 h.Bit))
    bif rv44 then
     Qa7 h m f2 f3 f4 r (out++[(Qag.mk m v28)]) (v28+1)
    else
     Qa7 h m f2 f3 f4 r out (v28+1)
  else
   let rv59:=(Qa2 f4 (QaB.mk v28 h.Bit))
   bif rv59 then
    Qa7 h m f2 f3 f4 r (out++[(Qag.mk m v28)]) (v28+1)
   else
    Qa7 h m f2 f3 f4 r out (v28+1)
def Qdd (s:Qab) (h:Qag):Nat->List Qag->Int->List Qag
 | 0,out,v17=>
  out
 | r+1,out,v17=>
  match Qa7 h ((s.Deps.getD h.Node.toNat []).getD v17.toNat 0) (((s.Transfers.getD (((s.Deps.getD h.Node.toNat []).getD v17.toNat 0):Int).toNat default).Kill).Width) (((s.Transfers.getD (((s.Deps.getD h.Node.toNat []).getD v17.toNat 0):Int).toNat default).Kill).Words) ((s.Transfers.getD (((s.Deps.getD h.Node.toNat []).getD v17.toNat 0):Int).toNat default).Copies) (((s.Width:Int) - 0).toNat) out 0 with
  | QjG=>
   Qdd s h r QjG (v17+1)
def Qen (s:Qab) (h:Qag):List Qag:=
 match Qdd s h (((((s.Deps.getD h.Node.toNat []).length:Int):Int) - 0).toNat) [] 0 with
 | QdJ=>
  QdJ
def Qb3  (next:List (Qag×List Qag)) (h0:Int) (h1:Int) (v58:List Qag):Nat->List (Qag×List Qag)->List Qag->Int->(List (Qag×List Qag))×List Qag
 | 0,found,further,v60=>
  (found,further)
 | r+1,found,further,v60=>
  bif (QbX next (v58.getD v60.toNat default)).isSome then
   Qb3 next h0 h1 v58 r found further (v60+1)
  else
   bif (QbX found (v58.getD v60.toNat default)).isSome then
    Qb3 next h0 h1 v58 r (mset ((mset found (v58.getD v60.toNat default) ((QbX found (v58.getD v60.toNat default)).getD [])):List (Qag×List Qag)) (v58.getD v60.toNat default) ((((QbX found (v58.getD v60.toNat default)).getD [])++[(Qag.mk h0 h1)]):List Qag)) further (v60+1)
   else
    Qb3 next h0 h1 v58 r (mset ((mset found (v58.getD v60.toNat default) ((QbX found (v58.getD v60.toNat default)).getD [])):List (Qag×List Qag)) (v58.getD v60.toNat default) ((((QbX found (v58.getD v60.toNat default)).getD [])++[(Qag.mk h0 h1)]):List Qag)) (further++[(v58.getD v60.toNat default)]) (v60+1)
def QcZ (s:Qab) (next:List (Qag×List Qag)) (v50:List Qag):Nat->List (Qag×List Qag)->List Qag->Int->(List (Qag×List Qag))×List Qag
 | 0,found,further,v52=>
  (found,further)
 | r+1,found,further,v52=>
  let rv49:=(Qen s (v50.getD v52.toNat default))
  match Qb3 next ((v50.getD v52.toNat default).Node) ((v50.getD v52.toNat default).Bit) rv49 (((rv49.length:Int) - 0).toNat) found further 0 with
  | (Qkk,Qsu)=>
   QcZ s next v50 r Qkk Qsu (v52+1)
def Qbg  : List (Qag×List Qag)->List (Qag×List Qag)->(List (Qag×List Qag))
 | [],next=>
  next
 | en3 :: r,next=>
  Qbg r (mset next en3.1 en3.2)
theorem Qjk  : ∀ (a b:List (Qag×List Qag)) (next:List (Qag×List Qag)),Qbg (a++b) next=Qbg b (Qbg a next)
 | [],b,next=>rfl
 | en3 :: a,b,next=>by
  rw [List.cons_append,Qbg,Qbg]
  try simp only [Bool.cond_eq_ite]
  repeat' split
  all_goals exact Qjk  a b _
def Qdt (s:Qab):Nat->List (Qag×List Qag)->List Qag->LR Unit (List Qag×Bool×Int)
 | 0,next,level=>
  .oof
 | r+1,next,level=>
  let rv17:=(Qcl level)
  let rv25:=(Qa1 rv17 (fun x=>Qd6 x s))
  bif decide (0 < (rv25.length:Int)) then
   let rv34:=(Qj9 rv25 next)
   .ret (rv34,true,0)
  else
   match QcZ s next level (((level.length:Int) - 0).toNat) [] [] 0 with
   | (QjG,QoR)=>
    bif ((QoR.length:Int) == 0) then
     .ret (([]:List Qag),false,0)
    else
     match Qbg QjG next with
     | Qvg=>
      Qdt s r Qvg QoR
def QfO (s:Qab) (n:Int) (bit:Int):List Qag×Bool×Int:=
 let rv2:=(Qap s n bit)
 bif (rv2 != 0) then
  (([]:List Qag),false,rv2)
 else
  match Qdt s ((s.Deps.length*s.Width.toNat:Nat)+2) (mset ([]:List (Qag×List Qag)) (Qag.mk n bit) ([]:List Qag)) [(Qag.mk n bit)] with
  | .brk _=>default
  | .ret r=>r
  | .oof=>default
def Qhk (c:Int):LR Unit Bool:=
 bif decide (97<=c) then
  bif decide (c<=122) then
   .ret true
  else
   .oof
 else
  bif decide (65<=c) then
   .oof
  else
   .ret (c == 95)
def Qlj (c:Int):LR Unit Bool:=
 bif decide (48<=c) then
  .ret (decide (c<=57))
 else
  .ret false
def Qkt  (c:Int):Nat->LR Unit (List Qbe×Int×Int×Int)
 | 0=>
  .oof
 | r+1=>
  bif (c == 35) then
   .oof
  else
   .brk ()
def QiR (text:Str) (i:Int):Nat->Int->LR Int (List Qbe×Int×Int×Int)
 | 0,n=>
  .oof
 | r+1,n=>
  bif decide (-9223372036854775808<=(i+n)/\(i+n)<=9223372036854775807) then
   bif decide ((i+n) < (text.b.length:Int)) then
    bif decide (-9223372036854775808<=(i+n)/\(i+n)<=9223372036854775807) then
     bif decide (0<=(i+n)/\(i+n) < (text.b.length:Int)) then
      lb (Qhk ((text.b.getD ((i+n):Int).toNat 0).toNat:Int)) fun rv54=>
      bif rv54 then
       bif decide (-9223372036854775808<=(n+1)/\(n+1)<=9223372036854775807) then
        QiR text i r (n+1)
       else
        .oof
      else
       bif decide (-9223372036854775808<=(i+n)/\(i+n)<=9223372036854775807) then
        bif decide (0<=(i+n)/\(i+n) < (text.b.length:Int)) then
         lb (Qlj ((text.b.getD ((i+n):Int).toNat 0).toNat:Int)) fun rv61=>
         bif rv61 then
          .oof
         else
          .brk n
        else
         .oof
       else
        .oof
     else
      .oof
    else
     .oof
   else
    .brk n
  else
   .oof
def Qfc (text:Str):Nat->List Qbe->Int->Bool->Int->LR (List Qbe×Int×Bool) (List Qbe×Int×Int×Int)
 | 0,out,col,open_,i=>
  .oof
 | r+1,out,col,open_,i=>
  bif decide (i < (text.b.length:Int)) then
   bif decide (0<=i/\i < (text.b.length:Int)) then
    bif (((text.b.getD i.toNat 0).toNat:Int) == 32) then
     bif decide (-9223372036854775808<=(i+1)/\(i+1)<=9223372036854775807) then
      bif decide (-9223372036854775808<=(col+1)/\(col+1)<=9223372036854775807) then
       Qfc text r out (col+1) open_ (i+1)
      else
       .oof
     else
      .oof
    else
     bif (((text.b.getD i.toNat 0).toNat:Int) == 9) then
      .oof
     else
      bif (((text.b.getD i.toNat 0).toNat:Int) == 10) then
       .oof
      else
       bif (((text.b.getD i.toNat 0).toNat:Int) == 59) then
        bif open_ then
         bif decide ((out.length+([(Qbe.mk 3 (Str.mk []) 1 col)]:List Qbe).length)*40<=140737488355328) then
          ll (Qkt ((text.b.getD i.toNat 0).toNat:Int) 1) fun _=>
          bif decide (-9223372036854775808<=(i+1)/\(i+1)<=9223372036854775807) then
           bif decide (-9223372036854775808<=(col+1)/\(col+1)<=9223372036854775807) then
            bif decide ((i+1) < (text.b.length:Int)) then
             bif decide (0<=(i+1)/\(i+1) < (text.b.length:Int)) then
              bif (((text.b.getD ((i+1):Int).toNat 0).toNat:Int) == 10) then
               .oof
              else
               Qfc text r (out++[(Qbe.mk 3 (Str.mk []) 1 col)]) (col+1) false (i+1)
             else
              .oof
            else
             .oof
           else
            .oof
          else
           .oof
         else
          .oof
        else
         .oof
       else
        bif (((text.b.getD i.toNat 0).toNat:Int) == 35) then
         .oof
        else
         bif (((text.b.getD i.toNat 0).toNat:Int) == 61) then
          bif decide ((out.length+([(Qbe.mk 2 (Str.mk [61]) 1 col)]:List Qbe).length)*40<=140737488355328) then
           bif decide (-9223372036854775808<=(i+1)/\(i+1)<=9223372036854775807) then
            bif decide (-9223372036854775808<=(col+1)/\(col+1)<=9223372036854775807) then
             Qfc text r (out++[(Qbe.mk 2 (Str.mk [61]) 1 col)]) (col+1) true (i+1)
            else
             .oof
           else
            .oof
          else
           .oof
         else
          lb (Qhk ((text.b.getD i.toNat 0).toNat:Int)) fun rv46=>
          bif rv46 then
           ll (QiR text i 100000 0) fun Qkk=>
           lb (Qlj ((text.b.getD i.toNat 0).toNat:Int)) fun rv52=>
           bif rv52 then
            .oof
           else
            bif decide (16 < Qkk) then
             .oof
            else
             bif decide (-9223372036854775808<=(i+Qkk)/\(i+Qkk)<=9223372036854775807) then
              bif decide (0<=i/\i<=(i+Qkk)/\(i+Qkk)<=(text.b.length:Int)) then
               bif decide ((out.length+([(Qbe.mk 1 (text.sub i.toNat ((i+Qkk):Int).toNat) 1 col)]:List Qbe).length)*40<=140737488355328) then
                bif decide (-9223372036854775808<=(i+Qkk)/\(i+Qkk)<=9223372036854775807) then
                 bif decide (-9223372036854775808<=(col+Qkk)/\(col+Qkk)<=9223372036854775807) then
                  Qfc text r (out++[(Qbe.mk 1 (text.sub i.toNat ((i+Qkk):Int).toNat) 1 col)]) (col+Qkk) true (i+Qkk)
                 else
                  .oof
                else
                 .oof
               else
                .oof
              else
               .oof
             else
              .oof
          else
           .oof
   else
    .oof
  else
   .brk (out,col,open_)
def Qpb (text:Str):LR Unit (List Qbe×Int×Int×Int):=
 bif decide (4096 < (text.b.length:Int)) then
  .oof
 else
  ll (Qfc text 100000 [] 1 false 0) fun (QdJ,QgG,Qmz)=>
  bif Qmz then
   bif decide ((QdJ.length+([(Qbe.mk 3 (Str.mk []) 1 QgG)]:List Qbe).length)*40<=140737488355328) then
    .ret ((QdJ++[(Qbe.mk 3 (Str.mk []) 1 QgG)]),0,0,0)
   else
    .oof
  else
   .oof
def Qow (p:Qah) (word:Str):LR Unit Bool:=
 bif (p.Err == 0) then
  bif decide (p.at_ < (p.l.length:Int)) then
   bif decide (0<=p.at_/\p.at_ < (p.l.length:Int)) then
    bif decide (0<=p.at_/\p.at_ < (p.l.length:Int)) then
     bif ((p.l.getD p.at_.toNat default).Kind == 1) then
      bif decide (0<=p.at_/\p.at_ < (p.l.length:Int)) then
       .ret ((p.l.getD p.at_.toNat default).Text == word)
      else
       .oof
     else
      .oof
    else
     .oof
   else
    .oof
  else
   .ret false
 else
  .oof
def Qlx (p:Qah) (w:Str):LR Unit Qah:=
 lb (Qow p w) fun rv1=>
 bif (!rv1) then
  .oof
 else
  bif decide (-9223372036854775808<=(p.at_+1)/\(p.at_+1)<=9223372036854775807) then
   .ret (Qah.mk p.l (p.at_+1) p.Err)
  else
   .oof
def QjA  : LR Unit (List Str):=
 .ret [(Str.mk [102,117,110,99]),(Str.mk [98,108,111,99,107]),(Str.mk [101,110,100]),(Str.mk [117,115,101]),(Str.mk [99,97,108,108]),(Str.mk [115,111,117,114,99,101]),(Str.mk [115,105,110,107]),(Str.mk [115,97,110,105,116,105,122,101]),(Str.mk [103,111,116,111]),(Str.mk [98,114,97,110,99,104]),(Str.mk [114,101,116,117,114,110])]
def QfC (s:Str):Nat->Int->LR Unit Bool
 | 0,i=>
  .brk ()
 | r+1,i=>
  bif decide (0<=i/\i < (s.b.length:Int)) then
   lb (Qhk ((s.b.getD i.toNat 0).toNat:Int)) fun rv20=>
   bif (!rv20) then
    .oof
   else
    bif decide (-9223372036854775808<=(i+1)/\(i+1)<=9223372036854775807) then
     QfC s r (i+1)
    else
     .oof
  else
   .oof
def Qfy (s:Str) (k:List Str):Nat->Int->LR Unit Bool
 | 0,i=>
  .brk ()
 | r+1,i=>
  bif decide (0<=i/\i < (k.length:Int)) then
   bif ((k.getD i.toNat default) == s) then
    .ret false
   else
    bif decide (-9223372036854775808<=(i+1)/\(i+1)<=9223372036854775807) then
     Qfy s k r (i+1)
    else
     .oof
  else
   .oof
def QgB (s:Str):LR Unit Bool:=
 bif ((s.b.length:Int) == 0) then
  .ret false
 else
  bif decide (16 < (s.b.length:Int)) then
   .oof
  else
   bif decide (0<=0/\0 < (s.b.length:Int)) then
    lb (Qhk ((s.b.getD (0:Int).toNat 0).toNat:Int)) fun rv7=>
    bif (!rv7) then
     .oof
    else
     bif decide (0<=0/\0 < (s.b.length:Int)) then
      bif (((s.b.getD (0:Int).toNat 0).toNat:Int) == 95) then
       .oof
      else
       ll (QfC s (((s.b.length:Int) - 0).toNat) 0) fun _=>
       lb QjA fun rv18=>
       ll (Qfy s rv18 (((rv18.length:Int) - 0).toNat) 0) fun _=>
       .ret true
     else
      .oof
   else
    .oof
def Qgq (p:Qah):LR Unit Bool:=
 bif (p.Err == 0) then
  bif decide (p.at_ < (p.l.length:Int)) then
   bif decide (0<=p.at_/\p.at_ < (p.l.length:Int)) then
    bif decide (0<=p.at_/\p.at_ < (p.l.length:Int)) then
     bif ((p.l.getD p.at_.toNat default).Kind == 1) then
      bif decide (0<=p.at_/\p.at_ < (p.l.length:Int)) then
       lb (QgB ((p.l.getD p.at_.toNat default).Text)) fun rv11=>
       .ret rv11
      else
       .oof
     else
      .ret false
    else
     .oof
   else
    .oof
  else
   .oof
 else
  .oof
def QhW (p:Qah):LR Unit (Str×Qah):=
 lb (Qgq p) fun rv1=>
 bif (!rv1) then
  .oof
 else
  bif decide (-9223372036854775808<=(p.at_+1)/\(p.at_+1)<=9223372036854775807) then
   bif decide (-9223372036854775808<=((p.at_+1) - 1)/\((p.at_+1) - 1)<=9223372036854775807) then
    bif decide (0<=((p.at_+1) - 1)/\((p.at_+1) - 1) < (p.l.length:Int)) then
     bif decide (0<=((p.at_+1) - 1)/\((p.at_+1) - 1) < (p.l.length:Int)) then
      .ret ((p.l.getD (((p.at_+1) - 1):Int).toNat default).Text,(Qah.mk p.l (p.at_+1) p.Err))
     else
      .oof
    else
     .oof
   else
    .oof
  else
   .oof
def Qiw (p:Qah) (k:Int):LR Unit Bool:=
 bif (p.Err == 0) then
  bif decide (p.at_ < (p.l.length:Int)) then
   bif decide (0<=p.at_/\p.at_ < (p.l.length:Int)) then
    bif decide (0<=p.at_/\p.at_ < (p.l.length:Int)) then
     .ret ((p.l.getD p.at_.toNat default).Kind == k)
    else
     .oof
   else
    .oof
  else
   .oof
 else
  .oof
def QiB (p:Qah):LR Unit Qah:=
 lb (Qiw p 3) fun rv1=>
 bif (!rv1) then
  .oof
 else
  bif decide (-9223372036854775808<=(p.at_+1)/\(p.at_+1)<=9223372036854775807) then
   .ret (Qah.mk p.l (p.at_+1) p.Err)
  else
   .oof
def QfA (p:Qah):Nat->Int->LR Unit Bool
 | 0,i=>
  .brk ()
 | r+1,i=>
  bif decide (0<=i/\i < (([(Str.mk [117,115,101]),(Str.mk [99,97,108,108]),(Str.mk [115,111,117,114,99,101]),(Str.mk [115,105,110,107]),(Str.mk [115,97,110,105,116,105,122,101]),(Str.mk [103,111,116,111]),(Str.mk [98,114,97,110,99,104]),(Str.mk [114,101,116,117,114,110])]:List Str).length:Int)) then
   lb (Qow p ([(Str.mk [117,115,101]),(Str.mk [99,97,108,108]),(Str.mk [115,111,117,114,99,101]),(Str.mk [115,105,110,107]),(Str.mk [115,97,110,105,116,105,122,101]),(Str.mk [103,111,116,111]),(Str.mk [98,114,97,110,99,104]),(Str.mk [114,101,116,117,114,110])].getD i.toNat default)) fun rv11=>
   bif rv11 then
    .ret true
   else
    bif decide (-9223372036854775808<=(i+1)/\(i+1)<=9223372036854775807) then
     QfA p r (i+1)
    else
     .oof
  else
   .oof
def Qkc (p:Qah):LR Unit Bool:=
 ll (QfA p (((((8:Nat):Int):Int) - 0).toNat) 0) fun _=>
 lb (Qgq p) fun rv6=>
 .ret rv6
def Qkw (p:Qah):Nat->LR Unit (List Str×Qah)
 | 0=>
  .oof
 | r+1=>
  lb (Qgq p) fun rv1=>
  bif rv1 then
   .oof
  else
   .brk ()
def Qnt (p:Qah) (have_:Int):LR Unit (List Str×Qah):=
 ll (Qkw p 1) fun _=>
 .ret (([]:List Str),p)
def QhX (p:Qah):Nat->Int->Int->List Str->LR (Int×Int×List Str) (List Str×Qah)
 | 0,p1,p2,out=>
  .oof
 | r+1,p1,p2,out=>
  lb (Qgq (Qah.mk p.l p1 p2)) fun rv1=>
  bif rv1 then
   bif ((out.length:Int) == 4) then
    .oof
   else
    lb (QhW (Qah.mk p.l p1 p2)) fun rv8=>
    bif decide ((out.length+([rv8.1]:List Str).length)*16<=140737488355328) then
     QhX p r rv8.2.at_ rv8.2.Err (out++[rv8.1])
    else
     .oof
  else
   .brk (p1,p2,out)
def Qln (p:Qah):LR Unit (List Str×Qah):=
 ll (QhX p 100000 p.at_ p.Err []) fun (QdJ,QgG,Qmz)=>
 .ret (Qmz,(Qah.mk p.l QdJ QgG))
def Qpq (p:Qah):LR Unit (QdB×Qah):=
 lb (Qgq p) fun rv3=>
 bif (!rv3) then
  bif decide (0<=p.at_/\p.at_ < (p.l.length:Int)) then
   bif decide (0<=p.at_/\p.at_ < (p.l.length:Int)) then
    bif decide (-9223372036854775808<=(p.at_+1)/\(p.at_+1)<=9223372036854775807) then
     bif ((p.l.getD p.at_.toNat default).Text == (Str.mk [117,115,101])) then
      lb (QhW (Qah.mk p.l (p.at_+1) p.Err)) fun rv16=>
      lb (Qnt (Qah.mk p.l rv16.2.at_ rv16.2.Err) 1) fun rv26=>
      bif decide ((([rv16.1]:List Str).length+rv26.1.length)*16<=140737488355328) then
       lb (QiB (Qah.mk p.l rv26.2.at_ rv26.2.Err)) fun rv41=>
       .ret ((QdB.mk 2 (Str.mk []) ([rv16.1]++rv26.1) []),(Qah.mk p.l rv41.at_ rv41.Err))
      else
       .oof
     else
      bif ((p.l.getD p.at_.toNat default).Text == (Str.mk [99,97,108,108])) then
       .oof
      else
       bif ((p.l.getD p.at_.toNat default).Text == (Str.mk [115,111,117,114,99,101])) then
        .oof
       else
        bif ((p.l.getD p.at_.toNat default).Text == (Str.mk [115,105,110,107])) then
         .oof
        else
         bif ((p.l.getD p.at_.toNat default).Text == (Str.mk [115,97,110,105,116,105,122,101])) then
          .oof
         else
          bif ((p.l.getD p.at_.toNat default).Text == (Str.mk [103,111,116,111])) then
           .oof
          else
           bif ((p.l.getD p.at_.toNat default).Text == (Str.mk [98,114,97,110,99,104])) then
            .oof
           else
            bif ((p.l.getD p.at_.toNat default).Text == (Str.mk [114,101,116,117,114,110])) then
             lb (QiB (Qah.mk p.l (p.at_+1) p.Err)) fun rv61=>
             .ret ((QdB.mk 9 (Str.mk []) [] []),(Qah.mk p.l rv61.at_ rv61.Err))
            else
             lb (QhW (Qah.mk p.l (p.at_+1) p.Err)) fun rv67=>
             lb (Qiw (Qah.mk p.l rv67.2.at_ rv67.2.Err) 2) fun rv73=>
             bif (!rv73) then
              .oof
             else
              bif decide (-9223372036854775808<=(rv67.2.at_+1)/\(rv67.2.at_+1)<=9223372036854775807) then
               lb (Qln (Qah.mk p.l (rv67.2.at_+1) rv67.2.Err)) fun rv81=>
               lb (QiB (Qah.mk p.l rv81.2.at_ rv81.2.Err)) fun rv90=>
               .ret ((QdB.mk 1 rv67.1 rv81.1 []),(Qah.mk p.l rv90.at_ rv90.Err))
              else
               .oof
    else
     .oof
   else
    .oof
  else
   .oof
 else
  bif ((Str.mk []) == (Str.mk [117,115,101])) then
   lb (QhW p) fun rv100=>
   lb (Qnt (Qah.mk p.l rv100.2.at_ rv100.2.Err) 1) fun rv110=>
   bif decide ((([rv100.1]:List Str).length+rv110.1.length)*16<=140737488355328) then
    lb (QiB (Qah.mk p.l rv110.2.at_ rv110.2.Err)) fun rv125=>
    .ret ((QdB.mk 2 (Str.mk []) ([rv100.1]++rv110.1) []),(Qah.mk p.l rv125.at_ rv125.Err))
   else
    .oof
  else
   bif ((Str.mk []) == (Str.mk [99,97,108,108])) then
    .oof
   else
    bif ((Str.mk []) == (Str.mk [115,111,117,114,99,101])) then
     .oof
    else
     bif ((Str.mk []) == (Str.mk [115,105,110,107])) then
      .oof
     else
      bif ((Str.mk []) == (Str.mk [115,97,110,105,116,105,122,101])) then
       .oof
      else
       bif ((Str.mk []) == (Str.mk [103,111,116,111])) then
        .oof
       else
        bif ((Str.mk []) == (Str.mk [98,114,97,110,99,104])) then
         .oof
        else
         bif ((Str.mk []) == (Str.mk [114,101,116,117,114,110])) then
          lb (QiB p) fun rv145=>
          .ret ((QdB.mk 9 (Str.mk []) [] []),(Qah.mk p.l rv145.at_ rv145.Err))
         else
          lb (QhW p) fun rv151=>
          lb (Qiw (Qah.mk p.l rv151.2.at_ rv151.2.Err) 2) fun rv157=>
          bif (!rv157) then
           .oof
          else
           bif decide (-9223372036854775808<=(rv151.2.at_+1)/\(rv151.2.at_+1)<=9223372036854775807) then
            lb (Qln (Qah.mk p.l (rv151.2.at_+1) rv151.2.Err)) fun rv165=>
            lb (QiB (Qah.mk p.l rv165.2.at_ rv165.2.Err)) fun rv174=>
            .ret ((QdB.mk 1 rv151.1 rv165.1 []),(Qah.mk p.l rv174.at_ rv174.Err))
           else
            .oof
def QhF (p:Qah):Nat->Int->Int->List QdB->LR (Int×Int×List QdB) (QeI×Qah)
 | 0,p1,p2,b1=>
  .oof
 | r+1,p1,p2,b1=>
  lb (Qkc (Qah.mk p.l p1 p2)) fun rv26=>
  bif rv26 then
   bif ((b1.length:Int) == 32) then
    .oof
   else
    lb (Qpq (Qah.mk p.l p1 p2)) fun rv35=>
    bif decide ((b1.length+([rv35.1]:List QdB).length)*72<=140737488355328) then
     QhF p r rv35.2.at_ rv35.2.Err (b1++[rv35.1])
    else
     .oof
  else
   .brk (p1,p2,b1)
def Qnx (p:Qah):LR Unit (QeI×Qah):=
 lb (Qlx p (Str.mk [98,108,111,99,107])) fun rv3=>
 lb (QhW (Qah.mk p.l rv3.at_ rv3.Err)) fun rv8=>
 lb (QiB (Qah.mk p.l rv8.2.at_ rv8.2.Err)) fun rv14=>
 lb (Qkc (Qah.mk p.l rv14.at_ rv14.Err)) fun rv19=>
 bif (!rv19) then
  .oof
 else
  ll (QhF p 100000 rv14.at_ rv14.Err []) fun (QdJ,QgG,Qmz)=>
  .ret ((QeI.mk rv8.1 Qmz),(Qah.mk p.l QdJ QgG))
def Qft (p:Qah):Nat->Int->Int->List QeI->LR (Int×Int×List QeI) (Qgy×Qah)
 | 0,p1,p2,f1=>
  .oof
 | r+1,p1,p2,f1=>
  lb (Qow (Qah.mk p.l p1 p2) (Str.mk [98,108,111,99,107])) fun rv26=>
  bif rv26 then
   bif ((f1.length:Int) == 16) then
    .oof
   else
    lb (Qnx (Qah.mk p.l p1 p2)) fun rv34=>
    bif decide ((f1.length+([rv34.1]:List QeI).length)*40<=140737488355328) then
     Qft p r rv34.2.at_ rv34.2.Err (f1++[rv34.1])
    else
     .oof
  else
   .brk (p1,p2,f1)
def Qjv (p:Qah):LR Unit (Qgy×Qah):=
 lb (Qlx p (Str.mk [102,117,110,99])) fun rv3=>
 lb (QhW (Qah.mk p.l rv3.at_ rv3.Err)) fun rv8=>
 lb (QiB (Qah.mk p.l rv8.2.at_ rv8.2.Err)) fun rv14=>
 lb (Qow (Qah.mk p.l rv14.at_ rv14.Err) (Str.mk [98,108,111,99,107])) fun rv19=>
 bif (!rv19) then
  .oof
 else
  ll (Qft p 100000 rv14.at_ rv14.Err []) fun (QdJ,QgG,Qmz)=>
  lb (Qlx (Qah.mk p.l QdJ QgG) (Str.mk [101,110,100])) fun rv31=>
  lb (QiB (Qah.mk p.l rv31.at_ rv31.Err)) fun rv36=>
  .ret ((Qgy.mk rv8.1 Qmz),(Qah.mk p.l rv36.at_ rv36.Err))
def QhO  (p0:List Qbe):Nat->Int->Int->List Qgy->LR (Int×Int×List Qgy) (Qaz×Int×Int×Int)
 | 0,p1,p2,out0=>
  .oof
 | r+1,p1,p2,out0=>
  lb (Qow (Qah.mk p0 p1 p2) (Str.mk [102,117,110,99])) fun rv23=>
  bif rv23 then
   bif ((out0.length:Int) == 8) then
    .oof
   else
    lb (Qjv (Qah.mk p0 p1 p2)) fun rv31=>
    bif decide ((out0.length+([rv31.1]:List Qgy).length)*40<=140737488355328) then
     QhO p0 r rv31.2.at_ rv31.2.Err (out0++[rv31.1])
    else
     .oof
  else
   .brk (p1,p2,out0)
def Qng (text:Str):LR Unit (Qaz×Int×Int×Int):=
 lb (Qpb text) fun rv3=>
 bif (rv3.2.2.2 != 0) then
  .oof
 else
  lb (Qow (Qah.mk rv3.1 0 0) (Str.mk [102,117,110,99])) fun rv16=>
  bif (!rv16) then
   .oof
  else
   ll (QhO rv3.1 100000 0 0 []) fun (QdJ,QgG,Qmz)=>
   bif (QgG == 0) then
    bif decide (QdJ < (rv3.1.length:Int)) then
     .oof
    else
     .ret ((Qaz.mk Qmz),0,0,0)
   else
    .oof
def QaD (width:Int):Qaf:=
 (Qaf.mk width (List.replicate (((width+63) / 64):Int).toNat 0#64))
def Qgl (l:List Str) (s:Str):Nat->Int->LR Unit Int
 | 0,i=>
  .brk ()
 | r+1,i=>
  bif decide (0<=i/\i < (l.length:Int)) then
   bif ((l.getD i.toNat default) == s) then
    .ret i
   else
    bif decide (-9223372036854775808<=(i+1)/\(i+1)<=9223372036854775807) then
     Qgl l s r (i+1)
    else
     .oof
  else
   .oof
def QiN (l:List Str) (s:Str):LR Unit Int:=
 ll (Qgl l s (((l.length:Int) - 0).toNat) 0) fun _=>
 .ret (-1)
def QeY (l:List Str):Nat->Int->LR Unit Bool
 | 0,i=>
  .brk ()
 | r+1,i=>
  bif decide (0<=i/\i < (l.length:Int)) then
   lb (QgB (l.getD i.toNat default)) fun rv6=>
   bif (!rv6) then
    .oof
   else
    bif decide (-9223372036854775808<=(i+1)/\(i+1)<=9223372036854775807) then
     QeY l r (i+1)
    else
     .oof
  else
   .oof
def QiO (l:List Str) (a:Int) (b:Int):LR Unit Bool:=
 ll (QeY l (((l.length:Int) - 0).toNat) 0) fun _=>
 bif decide (a<=(l.length:Int)) then
  .ret (decide ((l.length:Int)<=b))
 else
  .oof
def Qlz (s:QdB):LR Unit Bool:=
 lb (QgB s.Def) fun rv2=>
 lb (QiO s.Uses 0 4) fun rv5=>
 bif (!rv5) then
  .oof
 else
  lb (QiO s.Targets 0 2) fun rv12=>
  bif (!rv12) then
   .oof
  else
   bif (s.Op == 1) then
    bif rv2 then
     .ret ((s.Targets.length:Int) == 0)
    else
     .oof
   else
    bif (s.Op == 2) then
     bif (s.Def == (Str.mk [])) then
      bif decide (1<=(s.Uses.length:Int)) then
       .ret ((s.Targets.length:Int) == 0)
      else
       .oof
     else
      .oof
    else
     bif (s.Op == 5) then
      .oof
     else
      bif (s.Op == 3) then
       .oof
      else
       bif (s.Op == 7) then
        .oof
       else
        bif (s.Op == 4) then
         .oof
        else
         bif (s.Op == 6) then
          .oof
         else
          bif (s.Op == 8) then
           .oof
          else
           bif (s.Op == 9) then
            bif (s.Def == (Str.mk [])) then
             bif ((s.Uses.length:Int) == 0) then
              .ret ((s.Targets.length:Int) == 0)
             else
              .oof
            else
             .oof
           else
            .oof
def Qgd  (b1:List QdB):Nat->Int->LR Unit Bool
 | 0,j=>
  .brk ()
 | r+1,j=>
  bif decide (0<=j/\j < (b1.length:Int)) then
   bif decide (0<=j/\j < (b1.length:Int)) then
    lb (Qlz (b1.getD j.toNat default)) fun rv54=>
    bif (!rv54) then
     .oof
    else
     bif decide (-9223372036854775808<=(j+1)/\(j+1)<=9223372036854775807) then
      Qgd b1 r (j+1)
     else
      .oof
   else
    .oof
  else
   .oof
def Qgw  (f1:List QeI):Nat->Int->LR Unit Bool
 | 0,k=>
  .brk ()
 | r+1,k=>
  bif decide (0<=k/\k < (f1.length:Int)) then
   bif decide (0<=k/\k < (f1.length:Int)) then
    lb (QgB ((f1.getD k.toNat default).Name)) fun rv31=>
    bif (!rv31) then
     .oof
    else
     bif decide ((((f1.getD k.toNat default).Stmts).length:Int) < 1) then
      .oof
     else
      bif decide (32 < (((f1.getD k.toNat default).Stmts).length:Int)) then
       .oof
      else
       ll (Qgd ((f1.getD k.toNat default).Stmts) ((((((f1.getD k.toNat default).Stmts).length:Int):Int) - 0).toNat) 0) fun _=>
       bif decide (-9223372036854775808<=(k+1)/\(k+1)<=9223372036854775807) then
        Qgw f1 r (k+1)
       else
        .oof
   else
    .oof
  else
   .oof
def Qgt (p:Qaz):Nat->Int->LR Unit Bool
 | 0,i=>
  .brk ()
 | r+1,i=>
  bif decide (0<=i/\i < (p.Funcs.length:Int)) then
   bif decide (0<=i/\i < (p.Funcs.length:Int)) then
    lb (QgB ((p.Funcs.getD i.toNat default).Name)) fun rv13=>
    bif (!rv13) then
     .oof
    else
     bif decide ((((p.Funcs.getD i.toNat default).Blocks).length:Int) < 1) then
      .oof
     else
      bif decide (16 < (((p.Funcs.getD i.toNat default).Blocks).length:Int)) then
       .oof
      else
       ll (Qgw ((p.Funcs.getD i.toNat default).Blocks) ((((((p.Funcs.getD i.toNat default).Blocks).length:Int):Int) - 0).toNat) 0) fun _=>
       bif decide (-9223372036854775808<=(i+1)/\(i+1)<=9223372036854775807) then
        Qgt p r (i+1)
       else
        .oof
   else
    .oof
  else
   .oof
def Qkd (p:Qaz):LR Unit Bool:=
 bif decide ((p.Funcs.length:Int) < 1) then
  .oof
 else
  bif decide (8 < (p.Funcs.length:Int)) then
   .oof
  else
   ll (Qgt p (((p.Funcs.length:Int) - 0).toNat) 0) fun _=>
   .ret true
def QbD  (names:List Str):Nat->List Str->Int->LR (List Str) (List Str)
 | 0,out,n=>
  .brk out
 | r+1,out,n=>
  bif decide (0<=n/\n < (names.length:Int)) then
   lb (QiN out (names.getD n.toNat default)) fun rv49=>
   bif decide (rv49 < 0) then
    bif decide (0<=n/\n < (names.length:Int)) then
     bif decide ((out.length+([(names.getD n.toNat default)]:List Str).length)*16<=140737488355328) then
      bif decide (-9223372036854775808<=(n+1)/\(n+1)<=9223372036854775807) then
       QbD names r (out++[(names.getD n.toNat default)]) (n+1)
      else
       .oof
     else
      .oof
    else
     .oof
   else
    bif decide (-9223372036854775808<=(n+1)/\(n+1)<=9223372036854775807) then
     QbD names r out (n+1)
    else
     .oof
  else
   .oof
def Qdq  (l:List QdB):Nat->List Str->Int->LR (List Str) (List Str)
 | 0,out,j=>
  .brk out
 | r+1,out,j=>
  bif decide (0<=j/\j < (l.length:Int)) then
   bif decide (0<=j/\j < (l.length:Int)) then
    bif decide (0<=j/\j < (l.length:Int)) then
     bif ((l.getD j.toNat default).Def != (Str.mk [])) then
      bif decide (0<=j/\j < (l.length:Int)) then
       bif decide (0<=j/\j < (l.length:Int)) then
        bif decide ((([(l.getD j.toNat default).Def]:List Str).length+((l.getD j.toNat default).Uses).length)*16<=140737488355328) then
         ll (QbD ([(l.getD j.toNat default).Def]++(l.getD j.toNat default).Uses) ((((([(l.getD j.toNat default).Def]++(l.getD j.toNat default).Uses).length:Int):Int) - 0).toNat) out 0) fun Qvg=>
         bif decide (-9223372036854775808<=(j+1)/\(j+1)<=9223372036854775807) then
          Qdq l r Qvg (j+1)
         else
          .oof
        else
         .oof
       else
        .oof
      else
       .oof
     else
      ll (QbD ((l.getD j.toNat default).Uses) ((((((l.getD j.toNat default).Uses).length:Int):Int) - 0).toNat) out 0) fun Qvg=>
      bif decide (-9223372036854775808<=(j+1)/\(j+1)<=9223372036854775807) then
       Qdq l r Qvg (j+1)
      else
       .oof
    else
     .oof
   else
    .oof
  else
   .oof
def QeV (p:Qaz) (i:Int):Nat->List Str->Int->LR (List Str) (List Str)
 | 0,out,k=>
  .oof
 | r+1,out,k=>
  bif decide (0<=i/\i < (p.Funcs.length:Int)) then
   bif decide (0<=i/\i < (p.Funcs.length:Int)) then
    bif decide (k < (((p.Funcs.getD i.toNat default).Blocks).length:Int)) then
     bif decide (0<=i/\i < (p.Funcs.length:Int)) then
      bif decide (0<=k/\k < (((p.Funcs.getD i.toNat default).Blocks).length:Int)) then
       bif decide (0<=k/\k < (((p.Funcs.getD i.toNat default).Blocks).length:Int)) then
        ll (Qdq ((((p.Funcs.getD i.toNat default).Blocks).getD k.toNat default).Stmts) ((((((((p.Funcs.getD i.toNat default).Blocks).getD k.toNat default).Stmts).length:Int):Int) - 0).toNat) out 0) fun Qkk=>
        bif decide (-9223372036854775808<=(k+1)/\(k+1)<=9223372036854775807) then
         QeV p i r Qkk (k+1)
        else
         .oof
       else
        .oof
      else
       .oof
     else
      .oof
    else
     .brk out
   else
    .oof
  else
   .oof
def Qeb (p:Qaz):Nat->List Str->Int->LR (List Str) (List Str)
 | 0,out,i=>
  .brk out
 | r+1,out,i=>
  ll (QeV p i 100000 out 0) fun QjG=>
  bif decide (-9223372036854775808<=(i+1)/\(i+1)<=9223372036854775807) then
   Qeb p r QjG (i+1)
  else
   .oof
def QfB (p:Qaz):LR Unit (List Str):=
 lb (Qkd p) fun rv2=>
 bif (!rv2) then
  .oof
 else
  ll (Qeb p (((p.Funcs.length:Int) - 0).toNat) [] 0) fun QdJ=>
  .ret QdJ
def Qep (l:List Str):Nat->Int->LR Unit Int
 | 0,i=>
  .brk ()
 | r+1,i=>
  bif decide (0<=i/\i<=(l.length:Int)) then
   bif decide (0<=i/\i < (l.length:Int)) then
    lb (QiN ((l.take (i.toNat)).drop 0) (l.getD i.toNat default)) fun rv12=>
    bif decide (0<=rv12) then
     .oof
    else
     bif decide (-9223372036854775808<=(i+1)/\(i+1)<=9223372036854775807) then
      Qep l r (i+1)
     else
      .oof
   else
    .oof
  else
   .oof
def QhN (l:List Str):LR Unit Int:=
 ll (Qep l (((l.length:Int) - 0).toNat) 0) fun _=>
 .ret (-1)
def Qd5 (p:Qaz):Nat->List Str->Int->LR (List Str) (List Str)
 | 0,out,i=>
  .brk out
 | r+1,out,i=>
  bif decide (0<=i/\i < (p.Funcs.length:Int)) then
   bif decide (0<=i/\i < (p.Funcs.length:Int)) then
    bif decide ((out.length+([(p.Funcs.getD i.toNat default).Name]:List Str).length)*16<=140737488355328) then
     bif decide (-9223372036854775808<=(i+1)/\(i+1)<=9223372036854775807) then
      Qd5 p r (out++[(p.Funcs.getD i.toNat default).Name]) (i+1)
     else
      .oof
    else
     .oof
   else
    .oof
  else
   .oof
def Qir (p:Qaz):LR Unit (List Str):=
 ll (Qd5 p (((p.Funcs.length:Int) - 0).toNat) [] 0) fun QdJ=>
 .ret QdJ
def QdP (f:Qgy):Nat->List Str->Int->LR (List Str) (List Str)
 | 0,out,k=>
  .brk out
 | r+1,out,k=>
  bif decide (0<=k/\k < (f.Blocks.length:Int)) then
   bif decide (0<=k/\k < (f.Blocks.length:Int)) then
    bif decide ((out.length+([(f.Blocks.getD k.toNat default).Name]:List Str).length)*16<=140737488355328) then
     bif decide (-9223372036854775808<=(k+1)/\(k+1)<=9223372036854775807) then
      QdP f r (out++[(f.Blocks.getD k.toNat default).Name]) (k+1)
     else
      .oof
    else
     .oof
   else
    .oof
  else
   .oof
def QfX (f:Qgy):LR Unit (List Str):=
 ll (QdP f (((f.Blocks.length:Int) - 0).toNat) [] 0) fun QdJ=>
 .ret QdJ
def QhI (op:Int):LR Unit Bool:=
 bif (op == 7) then
  .oof
 else
  bif (op == 8) then
   .oof
  else
   .ret (op == 9)
def QhR (s:QdB):Nat->LR Unit Int
 | 0=>
  .oof
 | r+1=>
  bif decide (0 < (s.Targets.length:Int)) then
   .oof
  else
   .brk ()
def QkA (p:Qaz) (f:Qgy) (s:QdB) (last:Bool):LR Unit Int:=
 lb (QhI s.Op) fun rv4=>
 bif (!(rv4 == last)) then
  .oof
 else
  lb (QfX f) fun rv10=>
  bif (s.Op == 3) then
   .oof
  else
   ll (QhR s 1) fun _=>
   .ret 0
def Qgi  (l:List QdB):Nat->Int->Int->Int->LR (Int×Int) (Int×Int)
 | 0,nodes,edges,j=>
  .brk (nodes,edges)
 | r+1,nodes,edges,j=>
  bif decide (-9223372036854775808<=(nodes+1)/\(nodes+1)<=9223372036854775807) then
   bif decide (0<=j/\j < (l.length:Int)) then
    bif decide (0<=j/\j < (l.length:Int)) then
     bif ((l.getD j.toNat default).Op == 3) then
      .oof
     else
      bif ((l.getD j.toNat default).Op == 8) then
       .oof
      else
       bif decide (-9223372036854775808<=(edges+1)/\(edges+1)<=9223372036854775807) then
        bif decide (-9223372036854775808<=(j+1)/\(j+1)<=9223372036854775807) then
         Qgi l r (nodes+1) (edges+1) (j+1)
        else
         .oof
       else
        .oof
    else
     .oof
   else
    .oof
  else
   .oof
def QhD (p:Qaz) (i:Int):Nat->Int->Int->Int->LR (Int×Int) (Int×Int)
 | 0,nodes,edges,k=>
  .oof
 | r+1,nodes,edges,k=>
  bif decide (0<=i/\i < (p.Funcs.length:Int)) then
   bif decide (0<=i/\i < (p.Funcs.length:Int)) then
    bif decide (k < (((p.Funcs.getD i.toNat default).Blocks).length:Int)) then
     bif decide (0<=i/\i < (p.Funcs.length:Int)) then
      bif decide (0<=k/\k < (((p.Funcs.getD i.toNat default).Blocks).length:Int)) then
       bif decide (0<=k/\k < (((p.Funcs.getD i.toNat default).Blocks).length:Int)) then
        ll (Qgi ((((p.Funcs.getD i.toNat default).Blocks).getD k.toNat default).Stmts) ((((((((p.Funcs.getD i.toNat default).Blocks).getD k.toNat default).Stmts).length:Int):Int) - 0).toNat) nodes edges 0) fun (Qkk,Qsu)=>
        bif decide (-9223372036854775808<=(k+1)/\(k+1)<=9223372036854775807) then
         QhD p i r Qkk Qsu (k+1)
        else
         .oof
       else
        .oof
      else
       .oof
     else
      .oof
    else
     .brk (nodes,edges)
   else
    .oof
  else
   .oof
def Qgk (p:Qaz):Nat->Int->Int->Int->LR (Int×Int) (Int×Int)
 | 0,nodes,edges,i=>
  .brk (nodes,edges)
 | r+1,nodes,edges,i=>
  bif decide (-9223372036854775808<=(nodes+2)/\(nodes+2)<=9223372036854775807) then
   bif decide (-9223372036854775808<=(edges+1)/\(edges+1)<=9223372036854775807) then
    ll (QhD p i 100000 (nodes+2) (edges+1) 0) fun (QjG,QoR)=>
    bif decide (-9223372036854775808<=(i+1)/\(i+1)<=9223372036854775807) then
     Qgk p r QjG QoR (i+1)
    else
     .oof
   else
    .oof
  else
   .oof
def Qnl (p:Qaz):LR Unit (Int×Int):=
 lb (Qkd p) fun rv2=>
 bif (!rv2) then
  .oof
 else
  ll (Qgk p (((p.Funcs.length:Int) - 0).toNat) 0 0 0) fun (QdJ,QgG)=>
  .ret (QdJ,QgG)
def Qgp (p:Qaz) (f0:Str) (f1:List QeI) (l:List QdB):Nat->Int->LR Unit (Qbl×Int)
 | 0,j=>
  .brk ()
 | r+1,j=>
  bif decide (0<=j/\j < (l.length:Int)) then
   bif decide (0<=j/\j < (l.length:Int)) then
    bif decide (-9223372036854775808<=((l.length:Int) - 1)/\((l.length:Int) - 1)<=9223372036854775807) then
     lb (QkA p (Qgy.mk f0 f1) (l.getD j.toNat default) (j == ((l.length:Int) - 1))) fun rv63=>
     bif (rv63 != 0) then
      .oof
     else
      bif decide (-9223372036854775808<=(j+1)/\(j+1)<=9223372036854775807) then
       Qgp p f0 f1 l r (j+1)
      else
       .oof
    else
     .oof
   else
    .oof
  else
   .oof
def QgD (p:Qaz) (f0:Str) (f1:List QeI):Nat->Int->LR Unit (Qbl×Int)
 | 0,k=>
  .brk ()
 | r+1,k=>
  bif decide (0<=k/\k < (f1.length:Int)) then
   bif decide (0<=k/\k < (f1.length:Int)) then
    ll (Qgp p f0 f1 ((f1.getD k.toNat default).Stmts) ((((((f1.getD k.toNat default).Stmts).length:Int):Int) - 0).toNat) 0) fun _=>
    bif decide (-9223372036854775808<=(k+1)/\(k+1)<=9223372036854775807) then
     QgD p f0 f1 r (k+1)
    else
     .oof
   else
    .oof
  else
   .oof
def Qge (p:Qaz):Nat->Int->LR Unit (Qbl×Int)
 | 0,i=>
  .brk ()
 | r+1,i=>
  bif decide (0<=i/\i < (p.Funcs.length:Int)) then
   bif decide (0<=i/\i < (p.Funcs.length:Int)) then
    lb (QfX (p.Funcs.getD i.toNat default)) fun rv32=>
    lb (QhN rv32) fun rv39=>
    bif decide (0<=rv39) then
     .oof
    else
     ll (QgD p ((p.Funcs.getD i.toNat default).Name) ((p.Funcs.getD i.toNat default).Blocks) ((((((p.Funcs.getD i.toNat default).Blocks).length:Int):Int) - 0).toNat) 0) fun _=>
     bif decide (-9223372036854775808<=(i+1)/\(i+1)<=9223372036854775807) then
      Qge p r (i+1)
     else
      .oof
   else
    .oof
  else
   .oof
def QjN (p:Qaz):LR Unit (Qbl×Int):=
 lb (Qkd p) fun rv3=>
 bif (!rv3) then
  .oof
 else
  lb (Qir p) fun rv11=>
  lb (QhN rv11) fun rv18=>
  bif decide (0<=rv18) then
   .oof
  else
   ll (Qge p (((p.Funcs.length:Int) - 0).toNat) 0) fun _=>
   lb (Qnl p) fun rv24=>
   lb (QfB p) fun rv30=>
   bif decide (64 < (rv30.length:Int)) then
    .oof
   else
    bif decide (256 < rv24.1) then
     .oof
    else
     bif decide (1024 < rv24.2) then
      .oof
     else
      .ret ((Qbl.mk 0 0 0 0),0)
def Qhr  (i:Int) (k:Int) (l:List QdB):Nat->List Qbl->Int->LR (List Qbl) (List Qbl)
 | 0,out,j=>
  .brk out
 | r+1,out,j=>
  bif decide ((out.length+([(Qbl.mk 3 i k j)]:List Qbl).length)*32<=140737488355328) then
   bif decide (0<=j/\j < (l.length:Int)) then
    bif decide (0<=j/\j < (l.length:Int)) then
     bif ((l.getD j.toNat default).Op == 3) then
      .oof
     else
      bif decide (-9223372036854775808<=(j+1)/\(j+1)<=9223372036854775807) then
       Qhr i k l r (out++[(Qbl.mk 3 i k j)]) (j+1)
      else
       .oof
    else
     .oof
   else
    .oof
  else
   .oof
def QiY (p:Qaz) (i:Int):Nat->List Qbl->Int->LR (List Qbl) (List Qbl)
 | 0,out,k=>
  .oof
 | r+1,out,k=>
  bif decide (0<=i/\i < (p.Funcs.length:Int)) then
   bif decide (0<=i/\i < (p.Funcs.length:Int)) then
    bif decide (k < (((p.Funcs.getD i.toNat default).Blocks).length:Int)) then
     bif decide (0<=i/\i < (p.Funcs.length:Int)) then
      bif decide (0<=k/\k < (((p.Funcs.getD i.toNat default).Blocks).length:Int)) then
       bif decide (0<=k/\k < (((p.Funcs.getD i.toNat default).Blocks).length:Int)) then
        ll (Qhr i k ((((p.Funcs.getD i.toNat default).Blocks).getD k.toNat default).Stmts) ((((((((p.Funcs.getD i.toNat default).Blocks).getD k.toNat default).Stmts).length:Int):Int) - 0).toNat) out 0) fun Qkk=>
        bif decide (-9223372036854775808<=(k+1)/\(k+1)<=9223372036854775807) then
         QiY p i r Qkk (k+1)
        else
         .oof
       else
        .oof
      else
       .oof
     else
      .oof
    else
     .brk out
   else
    .oof
  else
   .oof
def Qhm (p:Qaz):Nat->List Qbl->Int->LR (List Qbl) (List Qbl)
 | 0,out,i=>
  .brk out
 | r+1,out,i=>
  bif decide ((out.length+([(Qbl.mk 1 i (-1) (-1))]:List Qbl).length)*32<=140737488355328) then
   ll (QiY p i 100000 (out++[(Qbl.mk 1 i (-1) (-1))]) 0) fun QjG=>
   bif decide ((QjG.length+([(Qbl.mk 2 i (-1) (-1))]:List Qbl).length)*32<=140737488355328) then
    bif decide (-9223372036854775808<=(i+1)/\(i+1)<=9223372036854775807) then
     Qhm p r (QjG++[(Qbl.mk 2 i (-1) (-1))]) (i+1)
    else
     .oof
   else
    .oof
  else
   .oof
def QlS (p:Qaz):LR Unit (List Qbl):=
 lb (QjN p) fun rv2=>
 bif (rv2.2 != 0) then
  .oof
 else
  ll (Qhm p (((p.Funcs.length:Int) - 0).toNat) [] 0) fun QdJ=>
  .ret QdJ
def QiT (s:QdB):LR Unit Bool:=
 bif (s.Op == 1) then
  .ret true
 else
  bif (s.Op == 4) then
   .oof
  else
   .ret (s.Op == 6)
def Qgu (l:List Qbl) (n:Qbl):Nat->Int->LR Unit Int
 | 0,i=>
  .oof
 | r+1,i=>
  bif decide (0<=i/\i < (l.length:Int)) then
   bif decide (0<=i/\i < (l.length:Int)) then
    bif ([(l.getD i.toNat default).Kind,(l.getD i.toNat default).Func,(l.getD i.toNat default).Block,(l.getD i.toNat default).Stmt] == [n.Kind,n.Func,n.Block,n.Stmt]) then
     .ret i
    else
     bif decide (-9223372036854775808<=(i+1)/\(i+1)<=9223372036854775807) then
      Qgu l n r (i+1)
     else
      .oof
   else
    .oof
  else
   .oof
def QiQ (l:List Qbl) (n:Qbl):LR Unit Int:=
 ll (Qgu l n (((l.length:Int) - 0).toNat) 0) fun _=>
 .oof
def Qpf (p:Qaz) (n:Qbl):LR Unit Int:=
 lb (QlS p) fun rv4=>
 lb (QiQ rv4 n) fun rv10=>
 .ret rv10
def QnK (p:Qaz) (n:Qbl):LR Unit (QdB×Bool):=
 lb (Qpf p n) fun rv4=>
 bif decide (rv4 < 0) then
  .oof
 else
  bif (n.Kind != 3) then
   bif (n.Kind != 4) then
    .ret ((QdB.mk 0 (Str.mk []) [] []),false)
   else
    .oof
  else
   bif decide (0<=n.Func/\n.Func < (p.Funcs.length:Int)) then
    bif decide (0<=n.Func/\n.Func < (p.Funcs.length:Int)) then
     bif decide (0<=n.Block/\n.Block < (((p.Funcs.getD n.Func.toNat default).Blocks).length:Int)) then
      bif decide (0<=n.Block/\n.Block < (((p.Funcs.getD n.Func.toNat default).Blocks).length:Int)) then
       bif decide (0<=n.Stmt/\n.Stmt < (((((p.Funcs.getD n.Func.toNat default).Blocks).getD n.Block.toNat default).Stmts).length:Int)) then
        bif decide (0<=n.Stmt/\n.Stmt < (((((p.Funcs.getD n.Func.toNat default).Blocks).getD n.Block.toNat default).Stmts).length:Int)) then
         .ret ((((((p.Funcs.getD n.Func.toNat default).Blocks).getD n.Block.toNat default).Stmts).getD n.Stmt.toNat default),true)
        else
         .oof
       else
        .oof
      else
       .oof
     else
      .oof
    else
     .oof
   else
    .oof
def Qez (p:Qaz) (vars:List Str) (l:List Qbl):Nat->List QfM->Int->LR (List QfM) (List QfM×Int)
 | 0,out,i=>
  .brk out
 | r+1,out,i=>
  bif decide (0<=i/\i < (l.length:Int)) then
   bif decide (0<=i/\i < (l.length:Int)) then
    lb (QnK p (l.getD i.toNat default)) fun rv42=>
    bif rv42.2 then
     bif decide (0<=i/\i < (l.length:Int)) then
      bif ((l.getD i.toNat default).Kind == 3) then
       lb (QiT rv42.1) fun rv60=>
       bif rv60 then
        lb (QiN vars rv42.1.Def) fun rv65=>
        bif decide ((out.length+([(QfM.mk i rv65)]:List QfM).length)*16<=140737488355328) then
         bif decide (-9223372036854775808<=(i+1)/\(i+1)<=9223372036854775807) then
          Qez p vars l r (out++[(QfM.mk i rv65)]) (i+1)
         else
          .oof
        else
         .oof
       else
        bif decide (-9223372036854775808<=(i+1)/\(i+1)<=9223372036854775807) then
         Qez p vars l r out (i+1)
        else
         .oof
      else
       .oof
     else
      .oof
    else
     bif decide (-9223372036854775808<=(i+1)/\(i+1)<=9223372036854775807) then
      Qez p vars l r out (i+1)
     else
      .oof
   else
    .oof
  else
   .oof
def QnD (p:Qaz) (kind:Int):LR Unit (List QfM×Int):=
 lb (QjN p) fun rv2=>
 bif (rv2.2 != 0) then
  .oof
 else
  bif decide (kind < 1) then
   .oof
  else
   bif decide (4 < kind) then
    .oof
   else
    lb (QfB p) fun rv18=>
    bif (kind != 1) then
     .oof
    else
     lb (QlS p) fun rv28=>
     ll (Qez p rv18 rv28 (((rv28.length:Int) - 0).toNat) [] 0) fun QjG=>
     bif decide (256 < (QjG.length:Int)) then
      .oof
     else
      .ret (QjG,0)
def QhP (l:List Qbl) (f:Int) (b:Int) (s:Int):LR Unit Int:=
 lb (QiQ l (Qbl.mk 3 f b s)) fun rv1=>
 .ret rv1
def Qpr (l:List Qbl) (f:Int):LR Unit (Int×Int):=
 lb (QiQ l (Qbl.mk 1 f (-1) (-1))) fun rv1=>
 lb (QiQ l (Qbl.mk 2 f (-1) (-1))) fun rv5=>
 .ret (rv1,rv5)
def QdM (l:List Qbl):Nat->Int->LR Unit (List Int)
 | 0,k=>
  .brk ()
 | r+1,k=>
  bif decide (0<=k/\k < (l.length:Int)) then
   bif decide (0<=k/\k < (l.length:Int)) then
    bif ((l.getD k.toNat default).Kind == 4) then
     .oof
    else
     bif decide (-9223372036854775808<=(k+1)/\(k+1)<=9223372036854775807) then
      QdM l r (k+1)
     else
      .oof
   else
    .oof
  else
   .oof
def QhJ (p:Qaz) (l:List Qbl) (i:Int):LR Unit (List Int):=
 bif decide (0<=i/\i < (l.length:Int)) then
  bif decide (0<=i/\i < (l.length:Int)) then
   bif ((l.getD i.toNat default).Kind == 1) then
    lb (QhP l ((l.getD i.toNat default).Func) 0 0) fun rv9=>
    .ret [rv9]
   else
    bif ((l.getD i.toNat default).Kind == 2) then
     ll (QdM l (((l.length:Int) - 0).toNat) 0) fun _=>
     .ret ([]:List Int)
    else
     bif decide (0<=(l.getD i.toNat default).Func/\(l.getD i.toNat default).Func < (p.Funcs.length:Int)) then
      bif decide (0<=(l.getD i.toNat default).Func/\(l.getD i.toNat default).Func < (p.Funcs.length:Int)) then
       bif decide (0<=(l.getD i.toNat default).Block/\(l.getD i.toNat default).Block < (((p.Funcs.getD ((l.getD i.toNat default).Func:Int).toNat default).Blocks).length:Int)) then
        bif decide (0<=(l.getD i.toNat default).Block/\(l.getD i.toNat default).Block < (((p.Funcs.getD ((l.getD i.toNat default).Func:Int).toNat default).Blocks).length:Int)) then
         bif decide (0<=(l.getD i.toNat default).Stmt/\(l.getD i.toNat default).Stmt < (((((p.Funcs.getD ((l.getD i.toNat default).Func:Int).toNat default).Blocks).getD ((l.getD i.toNat default).Block:Int).toNat default).Stmts).length:Int)) then
          bif decide (0<=(l.getD i.toNat default).Stmt/\(l.getD i.toNat default).Stmt < (((((p.Funcs.getD ((l.getD i.toNat default).Func:Int).toNat default).Blocks).getD ((l.getD i.toNat default).Block:Int).toNat default).Stmts).length:Int)) then
           lb (Qpr l ((l.getD i.toNat default).Func)) fun rv39=>
           bif ((((((p.Funcs.getD ((l.getD i.toNat default).Func:Int).toNat default).Blocks).getD ((l.getD i.toNat default).Block:Int).toNat default).Stmts).getD ((l.getD i.toNat default).Stmt:Int).toNat default).Op == 9) then
            .ret [rv39.2]
           else
            bif ((((((p.Funcs.getD ((l.getD i.toNat default).Func:Int).toNat default).Blocks).getD ((l.getD i.toNat default).Block:Int).toNat default).Stmts).getD ((l.getD i.toNat default).Stmt:Int).toNat default).Op == 3) then
             .oof
            else
             bif ((((((p.Funcs.getD ((l.getD i.toNat default).Func:Int).toNat default).Blocks).getD ((l.getD i.toNat default).Block:Int).toNat default).Stmts).getD ((l.getD i.toNat default).Stmt:Int).toNat default).Op == 7) then
              .oof
             else
              bif ((((((p.Funcs.getD ((l.getD i.toNat default).Func:Int).toNat default).Blocks).getD ((l.getD i.toNat default).Block:Int).toNat default).Stmts).getD ((l.getD i.toNat default).Stmt:Int).toNat default).Op == 8) then
               .oof
              else
               bif decide (-9223372036854775808<=((l.getD i.toNat default).Stmt+1)/\((l.getD i.toNat default).Stmt+1)<=9223372036854775807) then
                lb (QhP l ((l.getD i.toNat default).Func) ((l.getD i.toNat default).Block) ((l.getD i.toNat default).Stmt+1)) fun rv56=>
                .ret [rv56]
               else
                .oof
          else
           .oof
         else
          .oof
        else
         .oof
       else
        .oof
      else
       .oof
     else
      .oof
  else
   .oof
 else
  .oof
def Qbv (l:List Int) (n:Int):Nat->Int->Int
 | 0,i=>
  i
 | r+1,i=>
  bif decide ((l.getD i.toNat 0) < n) then
   Qbv l n r (i+1)
  else
   i
def Qc9 (l:List Int) (n:Int):List Int:=
 match Qbv l n (((l.length:Int) - 0).toNat) 0 with
 | QdJ=>
  bif decide (QdJ < (l.length:Int)) then
   bif ((l.getD QdJ.toNat 0) == n) then
    l
   else
    ((((l.take (QdJ.toNat)).drop 0)++[n])++((l.take l.length).drop (QdJ.toNat)))
  else
   ((((l.take (QdJ.toNat)).drop 0)++[n])++((l.take l.length).drop (QdJ.toNat)))
def Qgn  (i:Int) (s:List Int):Nat->List (List Int)->List (List Int)->Int->LR (List (List Int)×List (List Int)) (Ql4×Int)
 | 0,g1,g2,k=>
  .brk (g1,g2)
 | r+1,g1,g2,k=>
  bif decide (0<=i/\i < (g1.length:Int)) then
   bif decide (0<=i/\i < (g1.length:Int)) then
    bif decide (0<=k/\k < (s.length:Int)) then
     bif decide ((g1.getD i.toNat []).length<=1000000000) then
      lv (Qc9 (g1.getD i.toNat []) (s.getD k.toNat 0)) fun rv49=>
      bif decide (0<=i/\i < (g1.length:Int)) then
       bif decide (0<=k/\k < (s.length:Int)) then
        bif decide (0<=k/\k < (s.length:Int)) then
         bif decide (0<=(s.getD k.toNat 0)/\(s.getD k.toNat 0) < (g2.length:Int)) then
          bif decide (0<=(s.getD k.toNat 0)/\(s.getD k.toNat 0) < (g2.length:Int)) then
           bif decide ((g2.getD ((s.getD k.toNat 0):Int).toNat []).length<=1000000000) then
            lv (Qc9 (g2.getD ((s.getD k.toNat 0):Int).toNat []) i) fun rv64=>
            bif decide (0<=(s.getD k.toNat 0)/\(s.getD k.toNat 0) < (g2.length:Int)) then
             bif decide (-9223372036854775808<=(k+1)/\(k+1)<=9223372036854775807) then
              Qgn i s r (g1.set i.toNat rv49) (g2.set ((s.getD k.toNat 0):Int).toNat rv64) (k+1)
             else
              .oof
            else
             .oof
           else
            .oof
          else
           .oof
         else
          .oof
        else
         .oof
       else
        .oof
      else
       .oof
     else
      .oof
    else
     .oof
   else
    .oof
  else
   .oof
def Qgr (p:Qaz) (l:List Qbl):Nat->List (List Int)->List (List Int)->Int->LR (List (List Int)×List (List Int)) (Ql4×Int)
 | 0,g1,g2,i=>
  .brk (g1,g2)
 | r+1,g1,g2,i=>
  lb (QhJ p l i) fun rv34=>
  ll (Qgn i rv34 (((rv34.length:Int) - 0).toNat) g1 g2 0) fun (QjG,QoR)=>
  bif decide (-9223372036854775808<=(i+1)/\(i+1)<=9223372036854775807) then
   Qgr p l r QjG QoR (i+1)
  else
   .oof
def Qnh (p:Qaz):LR Unit (Ql4×Int):=
 lb (QjN p) fun rv3=>
 bif (rv3.2 != 0) then
  .oof
 else
  lb (QlS p) fun rv15=>
  bif decide (0<=(rv15.length:Int)/\(rv15.length:Int)*24<=140737488355328) then
   bif decide (0<=(rv15.length:Int)/\(rv15.length:Int)*24<=140737488355328) then
    ll (Qgr p rv15 (((rv15.length:Int) - 0).toNat) (List.replicate (rv15.length:Int).toNat []) (List.replicate (rv15.length:Int).toNat []) 0) fun (QdJ,QgG)=>
    .ret ((Ql4.mk rv15 QdJ QgG),0)
   else
    .oof
  else
   .oof
def Qjx (width:Int):LR Unit Qad:=
 bif decide (0<=width/\width<=1000000) then
  lv (QaD width) fun rv3=>
  bif decide (0<=width/\width<=1000000) then
   .ret (Qad.mk rv3 rv3 [])
  else
   .oof
 else
  .oof
def Qd8 (s:Qaf):Nat->Int->LR Unit Bool
 | 0,b=>
  .brk ()
 | r+1,b=>
  bif ((((s.Words.getD ((b / 64):Int).toNat 0#64) >>> (((BitVec.ofInt 64 (b % 64)).toNat:Int)).toNat) &&& 1#64) == 1#64) then
   .ret false
  else
   Qd8 s r (b+1)
def Qbd (s:Qaf):Bool:=
 bif decide (s.Width < 0) then
  false
 else
  bif decide (256 < s.Width) then
   false
  else
   bif ((s.Words.length:Int) != ((s.Width+63) / 64)) then
    false
   else
    match Qd8 s ((((64*(s.Words.length:Int)):Int) - s.Width).toNat) s.Width with
    | .brk _=>
     true
    | .ret r=>r
    | .oof=>default
def Qas (s:Qaf) (b:Int):Bool:=
 let rv2:=(Qbd s)
 bif rv2 then
  bif decide (0<=b) then
   bif decide (b < s.Width) then
    ((((s.Words.getD ((b / 64):Int).toNat 0#64) >>> (((BitVec.ofInt 64 (b % 64)).toNat:Int)).toNat) &&& 1#64) == 1#64)
   else
    false
  else
   false
 else
  false
def QbC (s:Qaf) (b:Int):Qaf:=
 let rv4:=(QaD s.Width)
 (Qaf.mk rv4.Width ((s.Words.take rv4.Words.length++rv4.Words.drop s.Words.length).set ((b / 64):Int).toNat (((s.Words.take rv4.Words.length++rv4.Words.drop s.Words.length).getD ((b / 64):Int).toNat 0#64) ||| (1#64 <<< (((BitVec.ofInt 64 (b % 64)).toNat:Int)).toNat))))
def Qb9  (a:Int):Nat->Int->LR Unit (Qad×Bool)
 | 0,b=>
  .brk ()
 | r+1,b=>
  bif (a != b) then
   .oof
  else
   bif decide (-9223372036854775808<=(b+1)/\(b+1)<=9223372036854775807) then
    Qb9 a r (b+1)
   else
    .oof
def QdT (x:Qj3):Nat->Int->List (BitVec 64)->Int->LR (Int×List (BitVec 64)) (Qad×Bool)
 | 0,t2,t3,a=>
  .brk (t2,t3)
 | r+1,t2,t3,a=>
  bif decide (0<=a/\a < (x.One.length:Int)) then
   bif decide (0<=a/\a < (x.One.length:Int)) then
    lv (Qas (x.One.getD a.toNat default) a) fun rv20=>
    bif (!rv20) then
     .oof
    else
     lv (Qas x.Zero a) fun rv27=>
     bif rv27 then
      bif decide (0<=a/\a < (Qaf.mk t2 t3).Width) then
       bif decide ((Qaf.mk t2 t3).Width<=1000000) then
        lv (QbC (Qaf.mk t2 t3) a) fun rv33=>
        ll (Qb9 a (((x.Zero.Width:Int) - 0).toNat) 0) fun _=>
        bif decide (-9223372036854775808<=(a+1)/\(a+1)<=9223372036854775807) then
         QdT x r rv33.Width rv33.Words (a+1)
        else
         .oof
       else
        .oof
      else
       .oof
     else
      ll (Qb9 a (((x.Zero.Width:Int) - 0).toNat) 0) fun _=>
      bif decide (-9223372036854775808<=(a+1)/\(a+1)<=9223372036854775807) then
       QdT x r t2 t3 (a+1)
      else
       .oof
   else
    .oof
  else
   .oof
def QjC (x:Qj3):LR Unit (Qad×Bool):=
 bif decide (0<=x.Zero.Width/\x.Zero.Width<=1000000) then
  lv (QaD x.Zero.Width) fun rv4=>
  ll (QdT x (((x.Zero.Width:Int) - 0).toNat) rv4.Width rv4.Words 0) fun (QdJ,QgG)=>
  .ret ((Qad.mk x.Zero (Qaf.mk QdJ QgG) []),decide (((0:Nat):Int)<=64))
 else
  .oof
def QaJ (t:Qad) (a:Int) (b:Int):Nat->Int->LR Unit Bool
 | 0,i=>
  .brk ()
 | r+1,i=>
  bif ((t.Copies.getD i.toNat default).From == a) then
   bif ((t.Copies.getD i.toNat default).To == b) then
    .ret true
   else
    QaJ t a b r (i+1)
  else
   QaJ t a b r (i+1)
def Qat (t:Qad) (a:Int) (b:Int):Bool:=
 bif (a == b) then
  let rv4:=(Qas t.Kill a)
  bif (!rv4) then
   true
  else
   match QaJ t a b (((t.Copies.length:Int) - 0).toNat) 0 with
   | .brk _=>
    false
   | .ret r=>r
   | .oof=>default
 else
  match QaJ t a b (((t.Copies.length:Int) - 0).toNat) 0 with
  | .brk _=>
   false
  | .ret r=>r
  | .oof=>default
def QbR (t:Qad) (s:Qaf) (a:Int):Nat->Int->List (BitVec 64)->Int->LR (Int×List (BitVec 64)) Qaf
 | 0,out0,out1,b=>
  .oof
 | r+1,out0,out1,b=>
  let rv7:=(Qas s a)
  bif rv7 then
   bif decide (b < s.Width) then
    let rv14:=(Qat t a b)
    bif rv14 then
     let rv20:=(QbC (Qaf.mk out0 out1) b)
     QbR t s a r rv20.Width rv20.Words (b+1)
    else
     QbR t s a r out0 out1 (b+1)
   else
    .brk (out0,out1)
  else
   .brk (out0,out1)
def Qct (t:Qad) (s:Qaf):Nat->Int->List (BitVec 64)->Int->Int×List (BitVec 64)
 | 0,out0,out1,a=>
  (out0,out1)
 | r+1,out0,out1,a=>
  match QbR t s a (s.Width.toNat+1) out0 out1 0 with
  | .brk (QjG,QoR)=>
   Qct t s r QjG QoR (a+1)
  | .ret _=>default
  | .oof=>default
def QiV (t:Qad) (s:Qaf):Qaf:=
 match Qct t s (((s.Width:Int) - 0).toNat) t.Gen.Width t.Gen.Words 0 with
 | (QdJ,QgG)=>
  (Qaf.mk QdJ QgG)
def Qc4 (a:QaB) (b:QaB):Bool:=
 bif decide (a.From < b.From) then
  true
 else
  bif (a.From == b.From) then
   decide (a.To < b.To)
  else
   false
def Qao (t:Qad):Nat->Int->LR Unit Bool
 | 0,i=>
  .brk ()
 | r+1,i=>
  bif decide ((t.Copies.getD i.toNat default).From < 0) then
   .ret false
  else
   bif decide (t.Gen.Width<=(t.Copies.getD i.toNat default).From) then
    .ret false
   else
    bif decide ((t.Copies.getD i.toNat default).To < 0) then
     .ret false
    else
     bif decide (t.Gen.Width<=(t.Copies.getD i.toNat default).To) then
      .ret false
     else
      bif decide (0 < i) then
       let rv49:=(Qc4 (t.Copies.getD ((i - 1):Int).toNat default) (t.Copies.getD i.toNat default))
       bif (!rv49) then
        .ret false
       else
        Qao t r (i+1)
      else
       Qao t r (i+1)
def Qal (t:Qad):Bool:=
 let rv2:=(Qbd t.Gen)
 bif (!rv2) then
  false
 else
  let rv12:=(Qbd t.Kill)
  bif (!rv12) then
   false
  else
   bif (t.Gen.Width != t.Kill.Width) then
    false
   else
    bif decide (64 < (t.Copies.length:Int)) then
     false
    else
     match Qao t (((t.Copies.length:Int) - 0).toNat) 0 with
     | .brk _=>
      true
     | .ret r=>r
     | .oof=>default
def Qgm (t:Qad):Nat->List Qaf->Int->LR (List Qaf) Qj3
 | 0,x2,b=>
  .brk x2
 | r+1,x2,b=>
  bif decide (0<=t.Gen.Width/\t.Gen.Width<=1000000) then
   lv (QaD t.Gen.Width) fun rv7=>
   bif decide (0<=b/\b < rv7.Width) then
    bif decide (rv7.Width<=1000000) then
     lv (QbC rv7 b) fun rv17=>
     bif decide (Qal t=true) then
      bif decide (t.Gen.Width=rv17.Width) then
       lv (QiV t rv17) fun rv26=>
       bif decide ((x2.length+([rv26]:List Qaf).length)*32<=140737488355328) then
        bif decide (-9223372036854775808<=(b+1)/\(b+1)<=9223372036854775807) then
         Qgm t r (x2++[rv26]) (b+1)
        else
         .oof
       else
        .oof
      else
       .oof
     else
      .oof
    else
     .oof
   else
    .oof
  else
   .oof
def Qn2 (t:Qad):LR Unit Qj3:=
 ll (Qgm t (((t.Gen.Width:Int) - 0).toNat) [] 0) fun QdJ=>
 .ret (Qj3.mk t.Gen QdJ)
def Qlo (t:Qad):LR Unit (Qad×Int):=
 lv (Qal t) fun rv3=>
 bif (!rv3) then
  .oof
 else
  lb (Qn2 t) fun rv12=>
  lb (QjC rv12) fun rv25=>
  .ret (rv25.1,0)
def QgA (l:List QfM) (v:Int):Nat->Int->List (BitVec 64)->Int->LR (Int×List (BitVec 64)) Qaf
 | 0,s0,s1,i=>
  .brk (s0,s1)
 | r+1,s0,s1,i=>
  bif decide (0<=i/\i < (l.length:Int)) then
   bif decide (0<=i/\i < (l.length:Int)) then
    bif ((l.getD i.toNat default).Var == v) then
     bif decide (0<=i/\i < (Qaf.mk s0 s1).Width) then
      bif decide ((Qaf.mk s0 s1).Width<=1000000) then
       lv (QbC (Qaf.mk s0 s1) i) fun rv20=>
       bif decide (-9223372036854775808<=(i+1)/\(i+1)<=9223372036854775807) then
        QgA l v r rv20.Width rv20.Words (i+1)
       else
        .oof
      else
       .oof
     else
      .oof
    else
     .oof
   else
    .oof
  else
   .oof
def QnM (l:List QfM) (v:Int):LR Unit Qaf:=
 bif decide (0<=(l.length:Int)/\(l.length:Int)<=1000000) then
  lv (QaD (l.length:Int)) fun rv3=>
  ll (QgA l v (((l.length:Int) - 0).toNat) rv3.Width rv3.Words 0) fun (QdJ,QgG)=>
  .ret (Qaf.mk QdJ QgG)
 else
  .oof
def Qec (l:List QfM) (node:Int):Nat->Int->List (BitVec 64)->Int->LR (Int×List (BitVec 64)) Qad
 | 0,t0,t1,i=>
  .brk (t0,t1)
 | r+1,t0,t1,i=>
  bif decide (0<=i/\i < (l.length:Int)) then
   bif decide (0<=i/\i < (l.length:Int)) then
    bif ((l.getD i.toNat default).Node == node) then
     bif decide (0<=i/\i < (Qaf.mk t0 t1).Width) then
      bif decide ((Qaf.mk t0 t1).Width<=1000000) then
       lv (QbC (Qaf.mk t0 t1) i) fun rv82=>
       bif decide (-9223372036854775808<=(i+1)/\(i+1)<=9223372036854775807) then
        Qec l node r rv82.Width rv82.Words (i+1)
       else
        .oof
      else
       .oof
     else
      .oof
    else
     .oof
   else
    .oof
  else
   .oof
def QgX (p:Qaz) (kind:Int) (l:List QfM) (node:Int) (s:QdB):LR Unit Qad:=
 lb (Qjx (l.length:Int)) fun rv7=>
 lb (QfB p) fun rv23=>
 bif (kind == 2) then
  .oof
 else
  lb (QiT s) fun rv32=>
  bif (!rv32) then
   lb (Qlo rv7) fun rv42=>
   .ret rv42.1
  else
   lb (QiN rv23 s.Def) fun rv61=>
   lb (QnM l rv61) fun rv66=>
   bif (kind == 1) then
    ll (Qec l node (((l.length:Int) - 0).toNat) rv7.Gen.Width rv7.Gen.Words 0) fun (QjG,QoR)=>
    lb (Qlo (Qad.mk (Qaf.mk QjG QoR) rv66 rv7.Copies)) fun rv82=>
    .ret rv82.1
   else
    .oof
def Qhw (p:Qaz) (kind:Int) (l:List QfM) (g0:List Qbl) (g2:List (List Int)):Nat->List (List Int)->List Qad->List Qaf->Int->LR (List (List Int)×List Qad×List Qaf) (Qab×Int)
 | 0,s1,s2,s3,i=>
  .brk (s1,s2,s3)
 | r+1,s1,s2,s3,i=>
  bif decide (0<=i/\i < (g2.length:Int)) then
   bif decide (0<=i/\i < (g2.length:Int)) then
    bif (kind == 2) then
     .oof
    else
     bif decide (0<=i/\i < (g0.length:Int)) then
      bif decide (0<=i/\i < (g0.length:Int)) then
       bif ((g0.getD i.toNat default).Kind == 3) then
        bif decide (0<=i/\i < (g0.length:Int)) then
         lb (QnK p (g0.getD i.toNat default)) fun rv48=>
         bif decide (0<=(l.length:Int)/\(l.length:Int)<=1000000) then
          lv (QaD (l.length:Int)) fun rv62=>
          bif (kind == 4) then
           .oof
          else
           bif decide ((s1.length+([(g2.getD i.toNat [])]:List (List Int)).length)*24<=140737488355328) then
            lb (QgX p kind l i rv48.1) fun rv91=>
            bif decide ((s2.length+([rv91]:List Qad).length)*88<=140737488355328) then
             bif decide ((s3.length+([rv62]:List Qaf).length)*32<=140737488355328) then
              bif decide (-9223372036854775808<=(i+1)/\(i+1)<=9223372036854775807) then
               Qhw p kind l g0 g2 r (s1++[(g2.getD i.toNat [])]) (s2++[rv91]) (s3++[rv62]) (i+1)
              else
               .oof
             else
              .oof
            else
             .oof
           else
            .oof
         else
          .oof
        else
         .oof
       else
        bif decide (0<=(l.length:Int)/\(l.length:Int)<=1000000) then
         lv (QaD (l.length:Int)) fun rv123=>
         bif (kind == 4) then
          .oof
         else
          bif decide ((s1.length+([(g2.getD i.toNat [])]:List (List Int)).length)*24<=140737488355328) then
           lb (QgX p kind l i (QdB.mk 0 (Str.mk []) [] [])) fun rv152=>
           bif decide ((s2.length+([rv152]:List Qad).length)*88<=140737488355328) then
            bif decide ((s3.length+([rv123]:List Qaf).length)*32<=140737488355328) then
             bif decide (-9223372036854775808<=(i+1)/\(i+1)<=9223372036854775807) then
              Qhw p kind l g0 g2 r (s1++[(g2.getD i.toNat [])]) (s2++[rv152]) (s3++[rv123]) (i+1)
             else
              .oof
            else
             .oof
           else
            .oof
          else
           .oof
        else
         .oof
      else
       .oof
     else
      .oof
   else
    .oof
  else
   .oof
def Qq8 (p:Qaz) (kind:Int):LR Unit (Qab×Int):=
 lb (QnD p kind) fun rv4=>
 bif (rv4.2 != 0) then
  .oof
 else
  lb (Qnh p) fun rv16=>
  ll (Qhw p kind rv4.1 rv16.1.Nodes rv16.1.Pred (((rv16.1.Nodes.length:Int) - 0).toNat) [] [] [] 0) fun (QdJ,QgG,Qmz)=>
  .ret ((Qab.mk (rv4.1.length:Int) QdJ QgG Qmz),0)
def QbQ (a:List Qag) (b:List Qag):Nat->Int->LR Unit Bool
 | 0,i=>
  .brk ()
 | r+1,i=>
  bif ([(a.getD i.toNat default).Node,(a.getD i.toNat default).Bit] != [(b.getD i.toNat default).Node,(b.getD i.toNat default).Bit]) then
   .ret false
  else
   QbQ a b r (i+1)
def Qda (a:List Qag) (b:List Qag):Bool:=
 bif ((a.length:Int) != (b.length:Int)) then
  false
 else
  match QbQ a b (((a.length:Int) - 0).toNat) 0 with
  | .brk _=>
   true
  | .ret r=>r
  | .oof=>default
def QlE  : LR Unit Bool:=
 lb (Qng (Str.mk [102,117,110,99,32,109,59,32,98,108,111,99,107,32,98,59,32,120,32,61,32,121,59,32,117,115,101,32,120,59,32,114,101,116,117,114,110,59,32,101,110,100])) fun rv2=>
 lb (Qq8 rv2.1 1) fun rv15=>
 lv (QfO rv15.1 3 0) fun rv31=>
 bif (rv31.2.2 == 0) then
  bif rv31.2.1 then
   lv (Qda rv31.1 [(Qag.mk 2 0),(Qag.mk 3 0)]) fun rv45=>
   bif rv45 then
    lv (Qes rv15.1 3 0 [(Qag.mk 2 0),(Qag.mk 3 0)]) fun rv50=>
    .ret rv50
   else
    .oof
  else
   .oof
 else
  .oof
def Qlc:Bool:=true
def QaQ (l:List Int) (n:Int):Nat->Int->LR Unit Bool
 | 0,i=>
  .brk ()
 | r+1,i=>
  bif decide ((l.getD i.toNat 0) < 0) then
   .ret false
  else
   bif decide (n<=(l.getD i.toNat 0)) then
    .ret false
   else
    bif decide (0 < i) then
     bif decide ((l.getD i.toNat 0)<=(l.getD ((i - 1):Int).toNat 0)) then
      .ret false
     else
      QaQ l n r (i+1)
    else
     QaQ l n r (i+1)
def QbA (l:List Int) (n:Int):Bool:=
 match QaQ l n (((l.length:Int) - 0).toNat) 0 with
 | .brk _=>
  true
 | .ret r=>r
 | .oof=>default
def Qbu (s:Qab):Nat->Int->Int->LR Int Bool
 | 0,edges,i=>
  .brk edges
 | r+1,edges,i=>
  let rv26:=(QbA (s.Deps.getD i.toNat []) (s.Boundary.length:Int))
  bif (!rv26) then
   .ret false
  else
   let rv47:=(Qal (s.Transfers.getD i.toNat default))
   bif (!rv47) then
    .ret false
   else
    bif (((s.Transfers.getD i.toNat default).Gen).Width != s.Width) then
     .ret false
    else
     let rv64:=(Qbd (s.Boundary.getD i.toNat default))
     bif (!rv64) then
      .ret false
     else
      bif ((s.Boundary.getD i.toNat default).Width != s.Width) then
       .ret false
      else
       Qbu s r (edges+((s.Deps.getD i.toNat []).length:Int)) (i+1)
def Qbi (s:Qab):Bool:=
 bif decide (s.Width < 0) then
  false
 else
  bif decide (256 < s.Width) then
   false
  else
   bif decide ((s.Boundary.length:Int) < 1) then
    false
   else
    bif decide (256 < (s.Boundary.length:Int)) then
     false
    else
     bif ((s.Deps.length:Int) != (s.Boundary.length:Int)) then
      false
     else
      bif ((s.Transfers.length:Int) != (s.Boundary.length:Int)) then
       false
      else
       match Qbu s (((s.Boundary.length:Int) - 0).toNat) 0 0 with
       | .brk QdJ=>
        decide (QdJ<=1024)
       | .ret r=>r
       | .oof=>default
def QbE (s:Qab) (n:Int) (bit:Int):Int:=
 let rv2:=(Qbi s)
 bif (!rv2) then
  1
 else
  bif decide (n < 0) then
   9
  else
   bif decide ((s.Boundary.length:Int)<=n) then
    9
   else
    bif decide (bit < 0) then
     3
    else
     bif decide (s.Width<=bit) then
      3
     else
      0
def Qcm (t:Qad) (a:Int) (b:Int):Bool:=
 let rv2:=(Qal t)
 bif rv2 then
  bif decide (0<=a) then
   bif decide (a < t.Gen.Width) then
    bif decide (0<=b) then
     bif decide (b < t.Gen.Width) then
      let rv15:=(Qat t a b)
      rv15
     else
      false
    else
     false
   else
    false
  else
   false
 else
  false
def Qaq (s:Qab) (level:Int) (n:Int) (m:Int) (c:Int):Nat->List Int->Bool->Int->LR (List Int×Bool) (List Int)
 | 0,d,more,a=>
  .oof
 | r+1,d,more,a=>
  bif ((d.getD (((n*s.Width)+c):Int).toNat 0) == level) then
   bif decide (a < s.Width) then
    bif ((d.getD (((m*s.Width)+a):Int).toNat 0) == 0) then
     let rv39:=(Qcm (s.Transfers.getD m.toNat default) a c)
     bif rv39 then
      Qaq s level n m c r (d.set (((m*s.Width)+a):Int).toNat (level+1)) true (a+1)
     else
      Qaq s level n m c r d more (a+1)
    else
     Qaq s level n m c r d more (a+1)
   else
    .brk (d,more)
  else
   .brk (d,more)
def QaM (s:Qab) (level:Int) (n:Int) (m:Int):Nat->List Int->Bool->Int->List Int×Bool
 | 0,d,more,c=>
  (d,more)
 | r+1,d,more,c=>
  match Qaq s level n m c (s.Width.toNat+1) d more 0 with
  | .brk (QCy,QCz)=>
   QaM s level n m r QCy QCz (c+1)
  | .ret _=>default
  | .oof=>default
def QaR (s:Qab) (level:Int) (n:Int):Nat->List Int->Bool->Int->List Int×Bool
 | 0,d,more,i=>
  (d,more)
 | r+1,d,more,i=>
  match QaM s level n ((s.Deps.getD n.toNat []).getD i.toNat 0) (((s.Width:Int) - 0).toNat) d more 0 with
  | (Qvg,QCA)=>
   QaR s level n r Qvg QCA (i+1)
def Qay (s:Qab) (level:Int):Nat->List Int->Bool->Int->List Int×Bool
 | 0,d,more,n=>
  (d,more)
 | r+1,d,more,n=>
  match QaR s level n (((((s.Deps.getD n.toNat []).length:Int):Int) - 0).toNat) d more 0 with
  | (Qkk,Qsu)=>
   Qay s level r Qkk Qsu (n+1)
def QaC (s:Qab):Nat->List Int->Int->LR Unit (List Int)
 | 0,d,level=>
  .oof
 | r+1,d,level=>
  match Qay s level (((s.Boundary.length:Int) - 0).toNat) d false 0 with
  | (QjG,QoR)=>
   bif (!QoR) then
    .ret QjG
   else
    QaC s r QjG (level+1)
def Qbp (s:Qab) (to_:Qag):List Int:=
 match QaC s ((s.Boundary.length*s.Width.toNat:Nat)+2) ((List.replicate (((s.Boundary.length:Int)*s.Width):Int).toNat (0:Int)).set (((to_.Node*s.Width)+to_.Bit):Int).toNat 1) 1 with
 | .brk _=>default
 | .ret r=>r
 | .oof=>default
def Qc1 (s:Qab) (h:Qag):Nat->Int->LR Unit Bool
 | 0,i=>
  .brk ()
 | r+1,i=>
  let rv31:=(Qas ((s.Transfers.getD (((s.Deps.getD h.Node.toNat []).getD i.toNat 0):Int).toNat default).Gen) h.Bit)
  bif rv31 then
   .ret true
  else
   Qc1 s h r (i+1)
def Qbx (s:Qab) (h:Qag):Bool:=
 let rv7:=(Qas (s.Boundary.getD h.Node.toNat default) h.Bit)
 bif rv7 then
  true
 else
  match Qc1 s h (((((s.Deps.getD h.Node.toNat []).length:Int):Int) - 0).toNat) 0 with
  | .brk _=>
   false
  | .ret r=>r
  | .oof=>default
def QfE (l:List Int) (n:Int):Nat->Int->LR Unit Bool
 | 0,i=>
  .brk ()
 | r+1,i=>
  bif ((l.getD i.toNat 0) == n) then
   .ret true
  else
   QfE l n r (i+1)
def QjJ (l:List Int) (n:Int):Bool:=
 match QfE l n (((l.length:Int) - 0).toNat) 0 with
 | .brk _=>
  false
 | .ret r=>r
 | .oof=>default
def Qde (s:Qab) (a:Qag) (b:Qag):Bool:=
 let rv8:=(QjJ (s.Deps.getD b.Node.toNat []) a.Node)
 bif rv8 then
  let rv24:=(Qcm (s.Transfers.getD a.Node.toNat default) a.Bit b.Bit)
  rv24
 else
  false
def QaY (s:Qab) (d:List Int):Nat->Int->Int->Int->Int->Int×Int×Int
 | 0,at0,at1,best,i=>
  (at0,at1,best)
 | r+1,at0,at1,best,i=>
  bif decide (0 < (d.getD i.toNat 0)) then
   bif (best == 0) then
    let rv26:=(Qbx s (Qag.mk (i / s.Width) (i % s.Width)))
    bif rv26 then
     QaY s d r (i / s.Width) (i % s.Width) (d.getD i.toNat 0) (i+1)
    else
     QaY s d r at0 at1 best (i+1)
   else
    bif decide ((d.getD i.toNat 0) < best) then
     let rv37:=(Qbx s (Qag.mk (i / s.Width) (i % s.Width)))
     bif rv37 then
      QaY s d r (i / s.Width) (i % s.Width) (d.getD i.toNat 0) (i+1)
     else
      QaY s d r at0 at1 best (i+1)
    else
     QaY s d r at0 at1 best (i+1)
  else
   QaY s d r at0 at1 best (i+1)
def QbK (s:Qab) (d:List Int) (at0:Int) (at1:Int) (k:Int):Nat->Int->Int×Int
 | 0,i=>
  (at0,at1)
 | r+1,i=>
  bif ((d.getD i.toNat 0) == k) then
   let rv36:=(Qde s (Qag.mk at0 at1) (Qag.mk (i / s.Width) (i % s.Width)))
   bif rv36 then
    ((i / s.Width),(i % s.Width))
   else
    QbK s d at0 at1 k r (i+1)
  else
   QbK s d at0 at1 k r (i+1)
def Qdj (s:Qab) (d:List Int):Nat->Int->Int->List Qag->Int->List Qag
 | 0,at0,at1,out,k=>
  out
 | r+1,at0,at1,out,k=>
  match QbK s d at0 at1 k (((d.length:Int) - 0).toNat) 0 with
  | (Qkk,Qsu)=>
   Qdj s d r Qkk Qsu (out++[(Qag.mk Qkk Qsu)]) (k - 1)
def QeR (s:Qab) (n:Int) (bit:Int):List Qag×Bool×Int:=
 let rv2:=(QbE s n bit)
 bif (rv2 != 0) then
  (([]:List Qag),false,rv2)
 else
  let rv10:=(Qbp s (Qag.mk n bit))
  match QaY s rv10 (((rv10.length:Int) - 0).toNat) 0 0 0 0 with
  | (QdJ,QgG,Qmz)=>
   bif (Qmz == 0) then
    (([]:List Qag),false,0)
   else
    match Qdj s rv10 (((Qmz - 1):Int).toNat) QdJ QgG [(Qag.mk QdJ QgG)] (Qmz - 1) with
    | QjG=>
     (QjG,true,0)
def Qa4 (s1:List Qaf) (s2:List Qaf) (eqp:Qaf->Qaf->Bool):Nat->Int->LR Unit Bool
 | 0,v17=>
  .brk ()
 | r+1,v17=>
  bif (!(eqp (s1.getD v17.toNat default) (s2.getD v17.toNat default))) then
   .ret false
  else
   Qa4 s1 s2 eqp r (v17+1)
def Qcq (s1:List Qaf) (s2:List Qaf) (eqp:Qaf->Qaf->Bool):Bool:=
 bif ((s1.length:Int) != (s2.length:Int)) then
  false
 else
  match Qa4 s1 s2 eqp (((s1.length:Int) - 0).toNat) 0 with
  | .brk _=>
   true
  | .ret r=>r
  | .oof=>default
def Qbn (s1:List (BitVec 64)) (s2:List (BitVec 64)):Nat->Int->LR Unit Bool
 | 0,v13=>
  .brk ()
 | r+1,v13=>
  bif ((s1.getD v13.toNat 0#64) != (s2.getD v13.toNat 0#64)) then
   .ret false
  else
   Qbn s1 s2 r (v13+1)
def Qce (s1:List (BitVec 64)) (s2:List (BitVec 64)):Bool:=
 bif ((s1.length:Int) != (s2.length:Int)) then
  false
 else
  match Qbn s1 s2 (((s1.length:Int) - 0).toNat) 0 with
  | .brk _=>
   true
  | .ret r=>r
  | .oof=>default
def Qc7 (a:Qaf) (b:Qaf):Bool:=
 let rv3:=(QaX a)
 bif rv3 then
  let rv8:=(QaX b)
  bif rv8 then
   bif (a.Width == b.Width) then
    let rv15:=(Qce a.Words b.Words)
    rv15
   else
    false
  else
   false
 else
  false
def QhQ (a:List Qaf) (b:List Qaf):Bool:=
 let rv1:=(Qcq a b (fun x0 x1=>Qc7 x0 x1))
 rv1
def QhK (width:Int):Qaf×Int:=
 let rv2:=(QdL width)
 bif (!rv2) then
  ((Qaf.mk 0 []),3)
 else
  let rv12:=(QfW width)
  ((Qaf.mk width (List.replicate rv12.toNat 0#64)),0)
def QdE (width:Int):Nat->List Qaf->Int->List Qaf
 | 0,out,v11=>
  out
 | r+1,out,v11=>
  let rv9:=(QhK width)
  QdE width r (out.set v11.toNat rv9.1) (v11+1)
def QeZ (width:Int) (n:Int):List Qaf:=
 match QdE width (((((List.replicate n.toNat (default:Qaf)).length:Int):Int) - 0).toNat) (List.replicate n.toNat (default:Qaf)) 0 with
 | QdJ=>
  QdJ
def QbV (stepp:(List Qaf)->(List Qaf)):Nat->List Qaf->List Qaf->Int->LR (List Qaf×Int) (List Qaf×Int)
 | 0,now,next,round=>
  .oof
 | r+1,now,next,round=>
  let rv13:=(QhQ now next)
  bif (!rv13) then
   QbV stepp r next (stepp next) (round+1)
  else
   .brk (now,round)
def Qio (width:Int) (n:Int) (stepp:(List Qaf)->(List Qaf)):List Qaf×Int:=
 let rv2:=(QeZ width n)
 match QbV stepp (n.toNat*width.toNat+2) rv2 (stepp rv2) 0 with
 | .brk (QdJ,QgG)=>
  (QdJ,QgG)
 | .ret _=>default
 | .oof=>default
def QeH (v:Qaf):Bool:=
 let rv2:=(QaX v)
 (!rv2)
def QcH (s:List (BitVec 64)):List (BitVec 64):=s
def QcJ (a:Qaf) (b:Qaf) (combinep:(BitVec 64)->(BitVec 64)->(BitVec 64)):Nat->List (BitVec 64)->Int->List (BitVec 64)
 | 0,out1,v37=>
  out1
 | r+1,out1,v37=>
  QcJ a b combinep r (out1.set v37.toNat (combinep (a.Words.getD v37.toNat 0#64) (b.Words.getD v37.toNat 0#64))) (v37+1)
def QdZ (a:Qaf) (b:Qaf) (combinep:(BitVec 64)->(BitVec 64)->(BitVec 64)):Qaf×Int:=
 let rv4:=(QaX a)
 bif (!rv4) then
  ((Qaf.mk 0 []),1)
 else
  let rv14:=(QaX b)
  bif (!rv14) then
   ((Qaf.mk 0 []),1)
  else
   bif (a.Width != b.Width) then
    ((Qaf.mk 0 []),2)
   else
    match QcJ a b combinep ((((((List.replicate (a.Words.length:Int).toNat 0#64).length:Nat):Int):Int) - 0).toNat) (List.replicate (a.Words.length:Int).toNat 0#64) 0 with
    | QdJ=>
     ((Qaf.mk a.Width QdJ),0)
def Qgx (x:BitVec 64) (y:BitVec 64):BitVec 64:=
 (x &&& ~~~y)
def Qky (a:Qaf) (b:Qaf):Qaf×Int:=
 let rv5:=(QdZ a b (fun x0 x1=>Qgx x0 x1))
 (rv5.1,rv5.2)
def Qfm (x:BitVec 64) (y:BitVec 64):BitVec 64:=
 (x ||| y)
def QeX (a:Qaf) (b:Qaf):Qaf×Int:=
 let rv5:=(QdZ a b (fun x0 x1=>Qfm x0 x1))
 (rv5.1,rv5.2)
def QoA (s:Qaf) (b:Int):List (BitVec 64):=
 (s.Words.set ((b / 64):Int).toNat ((s.Words.getD ((b / 64):Int).toNat 0#64) ||| (1#64 <<< ((((BitVec.ofInt 64 b) % 64#64).toNat:Int)).toNat)))
def QeJ (s:Qaf) (b:Int) (member:Bool):Qaf×Int:=
 let rv3:=(QaX s)
 bif (!rv3) then
  ((Qaf.mk 0 []),1)
 else
  let rv13:=(Qdv s b)
  bif (!rv13) then
   ((Qaf.mk 0 []),3)
  else
   let rv24:=(QcH s.Words)
   bif member then
    let rv35:=(QoA (Qaf.mk s.Width (rv24.set ((b / 64):Int).toNat ((rv24.getD ((b / 64):Int).toNat 0#64) &&& ~~~(1#64 <<< ((((BitVec.ofInt 64 b) % 64#64).toNat:Int)).toNat)))) b)
    ((Qaf.mk s.Width rv35),0)
   else
    ((Qaf.mk s.Width (rv24.set ((b / 64):Int).toNat ((rv24.getD ((b / 64):Int).toNat 0#64) &&& ~~~(1#64 <<< ((((BitVec.ofInt 64 b) % 64#64).toNat:Int)).toNat)))),0)
def Qkz (s:Qaf) (b:Int):Qaf×Int:=
 let rv4:=(QeJ s b true)
 (rv4.1,rv4.2)
def Qb2 (t:Qad) (s:Qaf):Nat->Int->List (BitVec 64)->Int->Int×List (BitVec 64)
 | 0,out0,out1,v26=>
  (out0,out1)
 | r+1,out0,out1,v26=>
  let rv28:=(Qei s ((t.Copies.getD v26.toNat default).From))
  bif rv28 then
   let rv34:=(Qkz (Qaf.mk out0 out1) ((t.Copies.getD v26.toNat default).To))
   Qb2 t s r rv34.1.Width rv34.1.Words (v26+1)
  else
   Qb2 t s r out0 out1 (v26+1)
def QiZ (t:Qad) (s:Qaf):Qaf:=
 let rv5:=(Qky s t.Kill)
 let rv15:=(QeX rv5.1 t.Gen)
 match Qb2 t s (((t.Copies.length:Int) - 0).toNat) rv15.1.Width rv15.1.Words 0 with
 | (QdJ,QgG)=>
  (Qaf.mk QdJ QgG)
def Qeu (t:Qad) (s:Qaf):Qaf×Int:=
 let rv4:=(QcM t)
 bif (!rv4) then
  ((Qaf.mk 0 []),1)
 else
  let rv14:=(QaX s)
  bif (!rv14) then
   ((Qaf.mk 0 []),1)
  else
   bif (t.Gen.Width != s.Width) then
    ((Qaf.mk 0 []),2)
   else
    let rv28:=(QiZ t s)
    (rv28,0)
def Qd9 (s:Qab) (values:List Qaf) (n:Int):Nat->Int->List (BitVec 64)->Int->Int×List (BitVec 64)
 | 0,out0,out1,v64=>
  (out0,out1)
 | r+1,out0,out1,v64=>
  let rv74:=(Qeu (s.Transfers.getD (((s.Deps.getD n.toNat []).getD v64.toNat 0):Int).toNat default) (values.getD (((s.Deps.getD n.toNat []).getD v64.toNat 0):Int).toNat default))
  let rv84:=(QeX (Qaf.mk out0 out1) rv74.1)
  Qd9 s values n r rv84.1.Width rv84.1.Words (v64+1)
def Qev (s:Qab) (values:List Qaf) (n:Int):Qaf×Int:=
 let rv3:=(Qca s)
 bif (!rv3) then
  ((Qaf.mk 0 []),1)
 else
  bif decide (n < 0) then
   ((Qaf.mk 0 []),9)
  else
   bif decide ((s.Deps.length:Int)<=n) then
    ((Qaf.mk 0 []),9)
   else
    bif ((values.length:Int) != (s.Deps.length:Int)) then
     ((Qaf.mk 0 []),1)
    else
     let rv22:=(QaN values (fun x=>QeH x))
     bif rv22 then
      ((Qaf.mk 0 []),1)
     else
      let rv28:=(Qg5 s.Width values)
      bif (!rv28) then
       ((Qaf.mk 0 []),2)
      else
       let rv43:=(QcH ((s.Boundary.getD n.toNat default).Words))
       match Qd9 s values n (((((s.Deps.getD n.toNat []).length:Int):Int) - 0).toNat) s.Width rv43 0 with
       | (QdJ,QgG)=>
        ((Qaf.mk QdJ QgG),0)
def QdQ (s:Qab) (values:List Qaf):Nat->List Qaf->Int->LR (List Qaf) (List Qaf×Int)
 | 0,out,v16=>
  .brk out
 | r+1,out,v16=>
  let rv15:=(Qev s values v16)
  bif (rv15.2 != 0) then
   .ret (([]:List Qaf),rv15.2)
  else
   QdQ s values r (out++[rv15.1]) (v16+1)
def Qiu (s:Qab) (values:List Qaf):List Qaf×Int:=
 let rv2:=(Qca s)
 bif (!rv2) then
  (([]:List Qaf),1)
 else
  match QdQ s values (((s.Deps.length:Int) - 0).toNat) [] 0 with
  | .brk QdJ=>
   (QdJ,0)
  | .ret r=>r
  | .oof=>default
def QcW (now:List Qaf) (cap0:Qab):List Qaf:=
 let rv2:=(Qiu cap0 now)
 rv2.1
def Qf0 (s:Qab):List Qaf×Int×Int:=
 let rv2:=(Qca s)
 bif (!rv2) then
  (([]:List Qaf),0,1)
 else
  let rv13:=(Qio s.Width (s.Deps.length:Int) (fun x0=>QcW x0 s))
  (rv13.1,rv13.2,0)
def QfF (s:Qab) (n:Int) (bit:Int):List Qaf×Bool×Int:=
 let rv2:=(Qap s n bit)
 bif (rv2 != 0) then
  (([]:List Qaf),false,rv2)
 else
  let rv10:=(Qf0 s)
  let rv22:=(Qei (rv10.1.getD n.toNat default) bit)
  bif rv22 then
   (([]:List Qaf),false,0)
  else
   (rv10.1,true,0)
def QdS (a:Qaf) (b:Qaf):Nat->Int->LR Unit Bool
 | 0,i=>
  .brk ()
 | r+1,i=>
  bif ((a.Words.getD i.toNat 0#64) != (b.Words.getD i.toNat 0#64)) then
   .ret false
  else
   QdS a b r (i+1)
def QeC (a:Qaf) (b:Qaf):Bool:=
 bif (a.Width != b.Width) then
  false
 else
  bif ((a.Words.length:Int) != (b.Words.length:Int)) then
   false
  else
   match QdS a b (((a.Words.length:Int) - 0).toNat) 0 with
   | .brk _=>
    true
   | .ret r=>r
   | .oof=>default
def Qch (a:List Qaf) (b:List Qaf):Nat->Int->LR Unit Bool
 | 0,i=>
  .brk ()
 | r+1,i=>
  let rv14:=(QeC (a.getD i.toNat default) (b.getD i.toNat default))
  bif (!rv14) then
   .ret false
  else
   Qch a b r (i+1)
def Qck (a:List Qaf) (b:List Qaf):Bool:=
 bif ((a.length:Int) != (b.length:Int)) then
  false
 else
  match Qch a b (((a.length:Int) - 0).toNat) 0 with
  | .brk _=>
   true
  | .ret r=>r
  | .oof=>default
def Qdc (s:Qab):Nat->List Qaf->Int->List Qaf
 | 0,out,n=>
  out
 | r+1,out,n=>
  let rv5:=(QaD s.Width)
  Qdc s r (out++[rv5]) (n+1)
def Qdr (s:Qab):List Qaf:=
 match Qdc s (((s.Boundary.length:Int) - 0).toNat) [] 0 with
 | QdJ=>
  QdJ
def Qc3 (v:List Qaf):Nat->Int->LR Unit Int
 | 0,i=>
  .brk ()
 | r+1,i=>
  let rv11:=(Qbd (v.getD i.toNat default))
  bif (!rv11) then
   .ret 1
  else
   Qc3 v r (i+1)
def Qc6 (s:Qab) (v:List Qaf):Nat->Int->LR Unit Int
 | 0,i=>
  .brk ()
 | r+1,i=>
  bif ((v.getD i.toNat default).Width != s.Width) then
   .ret 2
  else
   Qc6 s v r (i+1)
def Qds (s:Qab) (v:List Qaf):Int:=
 bif ((v.length:Int) != (s.Boundary.length:Int)) then
  1
 else
  match Qc3 v (((v.length:Int) - 0).toNat) 0 with
  | .brk _=>
   match Qc6 s v (((v.length:Int) - 0).toNat) 0 with
   | .brk _=>
    0
   | .ret r=>r
   | .oof=>default
  | .ret r=>r
  | .oof=>default
def Qd0 (t:Qad) (s:Qaf):Qaf×Int:=
 let rv4:=(Qal t)
 bif (!rv4) then
  ((Qaf.mk 0 []),1)
 else
  let rv14:=(Qbd s)
  bif (!rv14) then
   ((Qaf.mk 0 []),1)
  else
   bif (t.Gen.Width != s.Width) then
    ((Qaf.mk 0 []),2)
   else
    let rv28:=(QiV t s)
    (rv28,0)
def Qbb (a:Qaf) (b:Qaf) (one:Bool) (two:Bool) (both:Bool):Nat->Int->List (BitVec 64)->Int->Int×List (BitVec 64)
 | 0,s0,s1,k=>
  (s0,s1)
 | r+1,s0,s1,k=>
  let rv40:=(Qas a k)
  let rv43:=(Qas b k)
  bif rv40 then
   bif rv43 then
    bif both then
     let rv53:=(QbC (Qaf.mk s0 s1) k)
     Qbb a b one two both r rv53.Width rv53.Words (k+1)
    else
     Qbb a b one two both r s0 s1 (k+1)
   else
    bif one then
     let rv82:=(QbC (Qaf.mk s0 s1) k)
     Qbb a b one two both r rv82.Width rv82.Words (k+1)
    else
     Qbb a b one two both r s0 s1 (k+1)
  else
   bif rv43 then
    bif two then
     let rv107:=(QbC (Qaf.mk s0 s1) k)
     Qbb a b one two both r rv107.Width rv107.Words (k+1)
    else
     Qbb a b one two both r s0 s1 (k+1)
   else
    Qbb a b one two both r s0 s1 (k+1)
def Qif (a:Qaf) (b:Qaf) (one:Bool) (two:Bool) (both:Bool):Qaf×Int:=
 let rv4:=(Qbd a)
 bif (!rv4) then
  ((Qaf.mk 0 []),1)
 else
  let rv14:=(Qbd b)
  bif (!rv14) then
   ((Qaf.mk 0 []),1)
  else
   bif (a.Width != b.Width) then
    ((Qaf.mk 0 []),2)
   else
    let rv28:=(QaD a.Width)
    match Qbb a b one two both (((a.Width:Int) - 0).toNat) rv28.Width rv28.Words 0 with
    | (QdJ,QgG)=>
     ((Qaf.mk QdJ QgG),0)
def Qfu (a:Qaf) (b:Qaf):Qaf×Int:=
 let rv5:=(Qif a b true true true)
 (rv5.1,rv5.2)
def Qg3 (a:Qaf) (b:Qaf):Qaf:=
 let rv5:=(Qfu a b)
 rv5.1
def QbM (s:Qab) (v:List Qaf) (n:Int):Nat->Int->List (BitVec 64)->Int->Int×List (BitVec 64)
 | 0,out0,out1,i=>
  (out0,out1)
 | r+1,out0,out1,i=>
  let rv31:=(Qd0 (s.Transfers.getD (((s.Deps.getD n.toNat []).getD i.toNat 0):Int).toNat default) (v.getD (((s.Deps.getD n.toNat []).getD i.toNat 0):Int).toNat default))
  let rv41:=(Qg3 (Qaf.mk out0 out1) rv31.1)
  QbM s v n r rv41.Width rv41.Words (i+1)
def QcI (s:Qab) (v:List Qaf) (n:Int):Qaf:=
 match QbM s v n (((((s.Deps.getD n.toNat []).length:Int):Int) - 0).toNat) ((s.Boundary.getD n.toNat default).Width) ((s.Boundary.getD n.toNat default).Words) 0 with
 | (QdJ,QgG)=>
  (Qaf.mk QdJ QgG)
def Qeq (s:Qab) (v:List Qaf) (n:Int):Qaf×Int:=
 let rv3:=(Qbi s)
 bif (!rv3) then
  ((Qaf.mk 0 []),1)
 else
  bif decide (n < 0) then
   ((Qaf.mk 0 []),9)
  else
   bif decide ((s.Boundary.length:Int)<=n) then
    ((Qaf.mk 0 []),9)
   else
    let rv19:=(Qds s v)
    bif (rv19 != 0) then
     ((Qaf.mk 0 []),rv19)
    else
     let rv27:=(QcI s v n)
     (rv27,0)
def Qdi (s:Qab) (v:List Qaf):Nat->List Qaf->Int->LR (List Qaf) (List Qaf×Int)
 | 0,out,n=>
  .brk out
 | r+1,out,n=>
  let rv5:=(Qeq s v n)
  bif (rv5.2 != 0) then
   .ret (([]:List Qaf),rv5.2)
  else
   Qdi s v r (out++[rv5.1]) (n+1)
def QhE (s:Qab) (v:List Qaf):List Qaf×Int:=
 match Qdi s v ((((max (s.Boundary.length:Int) 1):Int) - 0).toNat) [] 0 with
 | .brk QdJ=>
  (QdJ,0)
 | .ret r=>r
 | .oof=>default
def Qcf (s:Qab):Nat->List Qaf->Int->LR Unit (List Qaf×Int×Int)
 | 0,v,round=>
  .oof
 | r+1,v,round=>
  let rv21:=(QhE s v)
  let rv29:=(Qck rv21.1 v)
  bif rv29 then
   .ret (v,round,0)
  else
   Qcf s r rv21.1 (round+1)
def QeT (s:Qab):List Qaf×Int×Int:=
 let rv2:=(Qbi s)
 bif (!rv2) then
  (([]:List Qaf),0,1)
 else
  let rv13:=(Qdr s)
  match Qcf s (s.Boundary.length*s.Width.toNat+2) rv13 0 with
  | .brk _=>default
  | .ret r=>r
  | .oof=>default
def QeG (s:Qab) (n:Int) (bit:Int):List Qaf×Bool×Int:=
 let rv2:=(QbE s n bit)
 bif (rv2 != 0) then
  (([]:List Qaf),false,rv2)
 else
  let rv10:=(QeT s)
  let rv23:=(Qas (rv10.1.getD n.toNat default) bit)
  bif rv23 then
   (([]:List Qaf),false,0)
  else
   (rv10.1,true,0)
def Qcg (s:Qab) (n:Int) (bit:Int):Bool:=
 let rv3:=(QfO s n bit)
 let rv11:=(QeR s n bit)
 let rv20:=(QfF s n bit)
 let rv28:=(QeG s n bit)
 bif (rv3.2.2 == rv11.2.2) then
  bif (rv3.2.1 == rv11.2.1) then
   let rv39:=(Qda rv3.1 rv11.1)
   bif rv39 then
    bif (rv20.2.2 == rv28.2.2) then
     bif (rv20.2.1 == rv28.2.1) then
      let rv48:=(Qck rv20.1 rv28.1)
      rv48
     else
      false
    else
     false
   else
    false
  else
   false
 else
  false
def Qq3 (v:Int) (n:Int):Int:=
 (((BitVec.ofInt 64 v) % (BitVec.ofInt 64 n)).toNat:Int)
def Qan (tT:List Int) (tI:Int) (n:Int):Int×Int:=
 bif decide (n<=1) then
  (0,tI)
 else
  bif decide ((tT.length:Int)<=tI) then
   (0,tI)
  else
   let rv8:=(Qq3 (tT.getD (((tI+1) - 1):Int).toNat 0) n)
   (rv8,(tI+1))
def Qcs (tT:List Int) (tI:Int) (s:Qaf):Qaf×Int:=
 let rv11:=(Qan tT tI 4)
 bif (rv11.1 == 0) then
  let rv19:=(Qan tT rv11.2 5)
  ((Qaf.mk (s.Width+(rv19.1 - 2)) s.Words),rv19.2)
 else
  bif (rv11.1 == 1) then
   let rv28:=(Qan tT rv11.2 2)
   ((Qaf.mk s.Width (s.Words++[(BitVec.ofInt 64 rv28.1)])),rv28.2)
  else
   bif (rv11.1 == 2) then
    bif decide (0 < (s.Words.length:Int)) then
     let rv47:=(Qan tT rv11.2 64)
     ((Qaf.mk s.Width (s.Words.set (((s.Words.length:Int) - 1):Int).toNat ((s.Words.getD (((s.Words.length:Int) - 1):Int).toNat 0#64) ||| (1#64 <<< (((BitVec.ofInt 64 rv47.1).toNat:Int)).toNat)))),rv47.2)
    else
     (s,rv11.2)
   else
    let rv58:=(Qan tT rv11.2 4)
    ((Qaf.mk ([-1,257,320,0].getD rv58.1.toNat 0) s.Words),rv58.2)
def QbH (tT:List Int) (tI:Int) (f:Qad):Qad×Int:=
 let rv11:=(Qan tT tI 5)
 bif (rv11.1 == 0) then
  let rv20:=(Qcs tT rv11.2 f.Gen)
  ((Qad.mk rv20.1 f.Kill f.Copies),rv20.2)
 else
  bif (rv11.1 == 1) then
   let rv32:=(Qcs tT rv11.2 f.Kill)
   ((Qad.mk f.Gen rv32.1 f.Copies),rv32.2)
  else
   bif (rv11.1 == 2) then
    let rv43:=(Qan tT rv11.2 9)
    let rv49:=(Qan tT rv43.2 9)
    ((Qad.mk f.Gen f.Kill (f.Copies++[(QaB.mk (rv43.1 - 1) (rv49.1 - 1))])),rv49.2)
   else
    bif (rv11.1 == 3) then
     let rv66:=(Qan tT rv11.2 4)
     let rv72:=(Qan tT rv66.2 2)
     ((Qad.mk f.Gen f.Kill ([(QaB.mk rv66.1 (f.Gen.Width - rv72.1))]++f.Copies)),rv72.2)
    else
     bif decide (0 < (f.Copies.length:Int)) then
      ((Qad.mk f.Gen f.Kill (f.Copies++[(f.Copies.getD (((f.Copies.length:Int) - 1):Int).toNat default)])),rv11.2)
     else
      (f,rv11.2)
def Qcc (tT:List Int) (tI:Int) (s:Qab):Qab×Int:=
 let rv25:=(Qan tT tI (s.Deps.length:Int))
 let rv31:=(Qan tT rv25.2 6)
 bif (rv31.1 == 0) then
  ((Qab.mk (s.Width+1) s.Deps s.Transfers s.Boundary),rv31.2)
 else
  bif (rv31.1 == 1) then
   let rv52:=(Qan tT rv31.2 ((s.Deps.length:Int)+2))
   ((Qab.mk s.Width (s.Deps.set rv25.1.toNat ((s.Deps.getD rv25.1.toNat [])++[(rv52.1 - 1)])) s.Transfers s.Boundary),rv52.2)
  else
   bif (rv31.1 == 2) then
    let rv84:=(QbH tT rv31.2 (s.Transfers.getD rv25.1.toNat default))
    ((Qab.mk s.Width s.Deps (s.Transfers.set rv25.1.toNat rv84.1) s.Boundary),rv84.2)
   else
    bif (rv31.1 == 3) then
     let rv107:=(Qcs tT rv31.2 (s.Boundary.getD rv25.1.toNat default))
     ((Qab.mk s.Width s.Deps s.Transfers (s.Boundary.set rv25.1.toNat rv107.1)),rv107.2)
    else
     bif (rv31.1 == 4) then
      ((Qab.mk s.Width ((s.Deps.take s.Deps.length).drop ((1:Int).toNat)) s.Transfers s.Boundary),rv31.2)
     else
      ((Qab.mk s.Width s.Deps (s.Transfers++[(s.Transfers.getD (0:Int).toNat default)]) s.Boundary),rv31.2)
def QsM (l:List Int):Unit:=
 ()
def Qd7 (tT:List Int):Nat->Int->Int->List (BitVec 64)->Int->Int×Int×List (BitVec 64)
 | 0,ti',s0,s1,b=>
  (ti',s0,s1)
 | r+1,ti',s0,s1,b=>
  let rv15:=(Qan tT ti' 3)
  bif (rv15.1 == 1) then
   let rv24:=(QbC (Qaf.mk s0 s1) b)
   Qd7 tT r rv15.2 rv24.Width rv24.Words (b+1)
  else
   Qd7 tT r rv15.2 s0 s1 (b+1)
def QmP (tT:List Int) (tI:Int) (width:Int):Qaf×Int:=
 let rv3:=(QaD width)
 match Qd7 tT (((width:Int) - 0).toNat) tI rv3.Width rv3.Words 0 with
 | (QdJ,QgG,Qmz)=>
  ((Qaf.mk QgG Qmz),QdJ)
def QaT (tT:List Int) (tI:Int):Int×Int:=
 let rv4:=(Qan tT tI 7)
 (([3,1,4,2,6,0,8].getD rv4.1.toNat 0),rv4.2)
def QaL (tT:List Int):Nat->Int->Int->List (BitVec 64)->Int->List (BitVec 64)->Int->Int×Int×List (BitVec 64)×Int×List (BitVec 64)
 | 0,ti',f0,f1,f2,f3,b=>
  (ti',f0,f1,f2,f3)
 | r+1,ti',f0,f1,f2,f3,b=>
  let rv22:=(Qan tT ti' 6)
  bif (rv22.1 == 1) then
   let rv31:=(QbC (Qaf.mk f0 f1) b)
   QaL tT r rv22.2 rv31.Width rv31.Words f2 f3 (b+1)
  else
   bif (rv22.1 == 2) then
    let rv45:=(QbC (Qaf.mk f2 f3) b)
    QaL tT r rv22.2 f0 f1 rv45.Width rv45.Words (b+1)
   else
    bif (rv22.1 == 3) then
     let rv57:=(QbC (Qaf.mk f2 f3) b)
     QaL tT r rv22.2 f0 f1 rv57.Width rv57.Words (b+1)
    else
     QaL tT r rv22.2 f0 f1 f2 f3 (b+1)
def QbF (tT:List Int) (width:Int) (a:Int):Nat->Int->List QaB->Int->Int×List QaB
 | 0,ti',f4,b=>
  (ti',f4)
 | r+1,ti',f4,b=>
  bif decide ((f4.length:Int) < 12) then
   let rv35:=(Qan tT ti' (2*width))
   bif (rv35.1 == 1) then
    QbF tT width a r rv35.2 (f4++[(QaB.mk a b)]) (b+1)
   else
    QbF tT width a r rv35.2 f4 (b+1)
  else
   (ti',f4)
def Qcd (tT:List Int) (width:Int):Nat->Int->List QaB->Int->Int×List QaB
 | 0,ti',f4,a=>
  (ti',f4)
 | r+1,ti',f4,a=>
  match QbF tT width a (((width:Int) - 0).toNat) ti' f4 0 with
  | (Qkk,Qsu)=>
   Qcd tT width r Qkk Qsu (a+1)
def Qed (tT:List Int) (tI:Int) (width:Int):Qad×Int:=
 let rv3:=(QaD width)
 match QaL tT (((width:Int) - 0).toNat) tI rv3.Width rv3.Words rv3.Width rv3.Words 0 with
 | (QdJ,QgG,Qmz,QzJ,QCB)=>
  match Qcd tT width (((width:Int) - 0).toNat) QdJ [] 0 with
  | (QjG,QoR)=>
   ((Qad.mk (Qaf.mk QgG Qmz) (Qaf.mk QzJ QCB) QoR),QjG)
def QbT (tT:List Int) (n':Int):Nat->Int->List Int->Int->Int×List Int
 | 0,ti',d,k=>
  (ti',d)
 | r+1,ti',d,k=>
  let rv25:=(Qan tT ti' n')
  let rv32:=(Qc9 d rv25.1)
  QbT tT n' r rv25.2 rv32 (k - 1)
def Qbr (tT:List Int) (n':Int) (s0:Int):Nat->Int->List (List Int)->List Qad->List Qaf->Int->Int×List (List Int)×List Qad×List Qaf
 | 0,ti',s1,s2,s3,i=>
  (ti',s1,s2,s3)
 | r+1,ti',s1,s2,s3,i=>
  let rv17:=(Qan tT ti' 4)
  match QbT tT n' (rv17.1.toNat) rv17.2 [] rv17.1 with
  | (QjG,QoR)=>
   let rv28:=(QaD s0)
   let rv38:=(Qan tT QjG 3)
   bif (rv38.1 == 1) then
    let rv47:=(QmP tT rv38.2 s0)
    let rv76:=(Qed tT rv47.2 s0)
    Qbr tT n' s0 r rv76.2 (s1++[QoR]) (s2++[rv76.1]) (s3++[rv47.1]) (i+1)
   else
    let rv122:=(Qed tT rv38.2 s0)
    Qbr tT n' s0 r rv122.2 (s1++[QoR]) (s2++[rv122.1]) (s3++[rv28]) (i+1)
def QbZ (tT:List Int) (tI:Int) (n:Int):Qab×Int:=
 let rv2:=(QaT tT tI)
 let rv9:=(Qan tT rv2.2 n)
 match Qbr tT (1+rv9.1) (rv2.1 % 5) ((((1+rv9.1):Int) - 0).toNat) rv9.2 [] [] [] 0 with
 | (QdJ,QgG,Qmz,QzJ)=>
  ((Qab.mk (rv2.1 % 5) QgG Qmz QzJ),QdJ)
def Qbh (t:List Int) (x0:Int) (x1:List (List Int)) (x2:List Qad) (x3:List Qaf):Nat->Int->Int->LR Int Bool
 | 0,k1,m=>
  .brk k1
 | r+1,k1,m=>
  let rv29:=(Qan t k1 (x0+2))
  let rv35:=(Qcg (Qab.mk x0 x1 x2 x3) m (rv29.1 - 1))
  bif (!rv35) then
   .ret false
  else
   Qbh t x0 x1 x2 x3 r rv29.2 (m+1)
def QaV (t:List Int) (n:Int) (bit:Int):Nat->Int->Int->LR Unit Bool
 | 0,k1,i=>
  .brk ()
 | r+1,k1,i=>
  let rv11:=(QbZ t k1 5)
  match Qbh t rv11.1.Width rv11.1.Deps rv11.1.Transfers rv11.1.Boundary (((rv11.1.Deps.length:Int) - 0).toNat) rv11.2 0 with
  | .brk QjG=>
   let rv31:=(Qcc t QjG rv11.1)
   let rv45:=(Qcg rv31.1 0 0)
   bif (!rv45) then
    .ret false
   else
    let rv55:=(Qcg rv11.1 n bit)
    bif (!rv55) then
     .ret false
    else
     QaV t n bit r rv31.2 (i+1)
  | .ret r=>.ret r
  | .oof=>.oof
def QbI (t:List Int) (s:Qab) (n:Int) (bit:Int):Bool:=
 let rv3:=(QsM t)
 match QaV t n bit 4 0 0 with
 | .brk _=>
  let rv6:=(Qiq s)
  bif rv6 then
   true
  else
   let rv12:=(Qcg s n bit)
   bif rv12 then
    Qlc
   else
    false
 | .ret r=>r
 | .oof=>default
theorem Qst {σ ρ:Type} (f:Nat->Int->LR σ ρ) (p:Int->Bool) (b:ρ) (c:σ) (h0:∀ i,f 0 i=.brk c) (h1:∀ r i,f (r+1) i=bif p i then .ret b else f r (i+1)) :
  ∀ (m:Nat) (i:Int),(f m i=.ret b/\∃ j,i<=j/\j < i+m/\p j=true)\/(f m i=.brk c/\∀ j,i<=j->j < i+m->p j=false)
 | 0,i=>.inr ⟨h0 i,fun j h1 h2=>by omega⟩
 | m+1,i=>by
  rw [h1]
  cases hp:p i with
  | true=>exact .inl ⟨rfl,i,by omega,by omega,hp⟩
  | false=>
   rcases Qst f p b c h0 h1 m (i+1) with ⟨e,j,j1,j2,j3⟩ | ⟨e,h⟩
   ·exact .inl ⟨e,j,by omega,by omega,j3⟩
   ·refine .inr ⟨e,fun j j1 j2=>?_⟩
    rcases Int.lt_or_eq_of_le j1 with hlt | rfl
    ·exact h j (by omega) (by omega)
    ·exact hp
theorem QfZ {l:List Int} {n:Int}:n∈l↔∃ j:Int,0<=j/\j < (l.length:Int)/\l.getD j.toNat 0=n:=by
 constructor
 ·intro h
  obtain ⟨i,hi,e⟩:=List.getElem_of_mem h
  exact ⟨(i:Int),by omega,by omega,by simp [List.getD,hi,e]⟩
 ·rintro ⟨j,j1,j2,rfl⟩
  exact QaA (by omega)
theorem Qm2 {l:List Int} {n:Int} (hr:QbA l n=true):∀ x∈l,0<=x/\x < n:=by
 have:=Qst (fun r i=>QaQ l n r i) (fun i=>bif decide (l.getD i.toNat 0 < 0) then true else bif decide (n<=l.getD i.toNat 0) then true else bif decide (0 < i) then decide (l.getD i.toNat 0<=l.getD (i - 1).toNat 0) else false) false () (fun _=>rfl)
  (fun r i=>by
   show QaQ l n (r+1) i=_
   rw [QaQ]
   cases decide (l.getD i.toNat 0 < 0) <;> cases decide (n<=l.getD i.toNat 0) <;> cases decide (0 < i) <;> rfl) ((((l.length:Nat):Int) - 0).toNat) 0
 unfold QbA at hr
 rcases this with ⟨e,j,j1,j2,j3⟩ | ⟨e,h⟩
 ·rw [e] at hr; simp at hr
 ·intro x hx
  obtain ⟨j,j1,j2,rfl⟩:=QfZ.1 hx
  have:=h j j1 (by omega)
  simp [Bool.cond_eq_ite,-List.getD_eq_getElem?_getD] at this
  omega
def QwT (n:Int) (out:List Int):Prop:=out.Nodup/\∀ x∈out,0<=x/\x < n
theorem Qnr:∀ (n:Nat) (l:List Int),l.Nodup->(∀ x∈l,0<=x/\x < (n:Int))->l.length<=n
 | 0,[],_,_=>Nat.le_refl _
 | 0,x :: l,_,h=>by have:=h x (by simp); omega
 | n+1,l,hn,h=>by
  have h1:(l.erase (n:Int)).length<=n:=Qnr n (l.erase (n:Int)) (hn.erase _) (fun x hx=>by
   have h2:=(List.Nodup.mem_erase_iff hn).1 hx
   have h3:=h x h2.2
   have h4:=h2.1
   omega)
  by_cases hm:(n:Int)∈l
  ·rw [List.length_erase_of_mem hm] at h1; omega
  ·rw [List.erase_of_not_mem hm] at h1; omega
theorem QqS {n:Int} {out:List Int} (h:QwT n out) (hn:0<=n):(out.length:Int)<=n:=by
 have:=Qnr n.toNat out h.1 (fun x hx=>by have:=h.2 x hx; omega)
 omega
theorem QqR {σ:Type} (f:Nat->Int->LR σ Int) (p:Int->Bool) (c:σ) (h0:∀ i,f 0 i=.brk c) (h1:∀ r i,f (r+1) i=bif p i then .ret i else f r (i+1)) :
  ∀ (m:Nat) (i:Int),(∃ j,f m i=.ret j/\i<=j/\j < i+m/\p j=true)\/(f m i=.brk c/\∀ j,i<=j->j < i+m->p j=false)
 | 0,i=>.inr ⟨h0 i,fun j h1 h2=>by omega⟩
 | m+1,i=>by
  rw [h1]
  cases hp:p i with
  | true=>exact .inl ⟨i,rfl,by omega,by omega,hp⟩
  | false=>
   rcases QqR f p c h0 h1 m (i+1) with ⟨j,e,j1,j2,j3⟩ | ⟨e,h⟩
   ·exact .inl ⟨j,e,by omega,by omega,j3⟩
   ·refine .inr ⟨e,fun j j1 j2=>?_⟩
    rcases Int.lt_or_eq_of_le j1 with hlt | rfl
    ·exact h j (by omega) (by omega)
    ·exact hp
theorem QdK {α:Type} {l:List α} {n d:α}:n∈l↔∃ j:Int,0<=j/\j < (l.length:Int)/\l.getD j.toNat d=n:=by
 constructor
 ·intro h
  obtain ⟨i,hi,e⟩:=List.getElem_of_mem h
  exact ⟨(i:Int),by omega,by omega,by simp [List.getD,hi,e]⟩
 ·rintro ⟨j,j1,j2,rfl⟩
  exact QaA (by omega)
def Qho (ws:List (BitVec 64)) (b:Int):Bool:=(ws.getD (b / 64).toNat 0#64).getLsbD (b % 64).toNat
def Qqm (s:Qaf):Prop:=0<=s.Width/\s.Width<=256/\(s.Words.length:Int)=(s.Width+63) / 64/\∀ b:Int,s.Width<=b->b < 64*(s.Words.length:Int)->Qho s.Words b=false
theorem Qh0 {n:Int} (h:0<=n/\n < 18446744073709551616):(((BitVec.ofInt 64 n).toNat:Int)).toNat=n.toNat:=by
 rw [BitVec.toNat_ofInt]; omega
theorem QnU (w:BitVec 64) (k:Nat):(((w >>> k) &&& 1#64) == 1#64)=w.getLsbD k:=by
 rw [BitVec.and_one_eq_setWidth_ofBool_getLsbD,BitVec.getLsbD_ushiftRight,Nat.add_zero]
 all_goals (cases w.getLsbD k <;> rfl)
def VSt (w:Int) (b:Qaf):Prop:=Qqm b/\b.Width=w
def tot (s:Qab):Nat->Int->Int
 | 0,_=>0
 | m+1,i=>((s.Deps.getD i.toNat []).length:Int)+tot s m (i+1)
theorem Qrx (s:Qab):∀ m i,0<=tot s m i
 | 0,_=>Int.le_refl _
 | m+1,i=>by have:=Qrx s m (i+1); simp only [tot]; omega
theorem Qt4 (s:Qab):∀ (m:Nat) (i j:Int),i<=j->j < i+m->((s.Deps.getD j.toNat []).length:Int)<=tot s m i
 | 0,i,j,h1,h2=>by omega
 | m+1,i,j,h1,h2=>by
  simp only [tot]
  rcases Int.lt_or_eq_of_le h1 with h | rfl
  ·have:=Qt4 s m (i+1) j (by omega) (by omega); omega
  ·have:=Qrx s m (i+1); omega
theorem Qqm.words {s:Qaf} (h:Qqm s):0<=s.Width/\s.Width<=256/\s.Words.length<=4:=by
 obtain ⟨a,b,c,_⟩:=h
 omega
def Qqd (s:Qaf):Prop:=-1000<=s.Width/\s.Width<=1000/\s.Words.length<=1000
def Qz2 (t:Qad):Prop:=Qqd t.Gen/\Qqd t.Kill/\t.Copies.length<=1000
theorem Qqm.ok {s:Qaf} (h:Qqm s):Qqd s:=by have:=h.words; unfold Qqd; omega
theorem Qiz (n:Nat) (b:Int):Qho (List.replicate n 0#64) b=false:=by
 unfold Qho
 rw [List.getD_eq_getElem?_getD,List.getElem?_replicate]
 split <;> simp
theorem Qfl {l:List Int} {j:Nat} (h:j < l.length):l.getD j 0=l[j]:=by simp [List.getD,List.getElem?_eq_getElem h]
def QtX (l:List Int) (n:Int):Prop:=(∀ x∈l,0<=x/\x < n)/\l.Pairwise (· < ·)
theorem Qr0 {l:List Int} {n:Int} (h:QtX l n):QbA l n=true:=by
 have loop:∀ (m:Nat) (i:Int),0<=i->i+m<=(l.length:Int)->QaQ l n m i=.brk ():=by
  intro m
  induction m with
  | zero=>intro i _ _; rfl
  | succ m ih=>
   intro i hi hm
   rw [QaQ]
   have:=h.1 _ (QaA (xs:=l) (i:=i.toNat) (d:=0) (by omega))
   rw [decide_eq_false (by omega),decide_eq_false (by omega)]
   simp only [cond_false]
   rw [ih (i+1) (by omega) (by omega)]
   by_cases h0:0 < i
   ·have hp:=List.pairwise_iff_getElem.1 h.2 (i - 1).toNat i.toNat (by omega) (by omega) (by omega)
    have hb:¬ l.getD i.toNat 0<=l.getD (i - 1).toNat 0:=by
     rw [Qfl (show i.toNat < l.length by omega),Qfl (show (i - 1).toNat < l.length by omega)]; omega
    simp only [decide_eq_true h0,cond_true,decide_eq_false hb,cond_false]
   ·simp only [decide_eq_false h0,cond_false]
 unfold QbA
 rw [loop _ 0 (by omega) (by omega)]
theorem QtM {s:Qab} {b:Nat} (h:∀ x∈s.Deps,x.length<=b):∀ (m:Nat) (i:Int),tot s m i<=(m:Int)*b
 | 0,i=>by simp [tot]
 | m+1,i=>by
  simp only [tot]
  have ih:=QtM h m (i+1)
  have:((s.Deps.getD i.toNat []).length:Int)<=b:=by
   rw [List.getD_eq_getElem?_getD]
   cases hx:s.Deps[i.toNat]? with
   | none=>simp
   | some x=>have:=h x (List.mem_of_getElem? hx); simp; omega
  have e:((m+1:Nat):Int)*b=(m:Int)*b+b:=by rw [Int.natCast_add,Int.add_mul]; simp
  omega
def deps (s:Qab) (x:Int):List Int:=s.Deps.getD x.toNat []
theorem Qi6 {w:Int} {s:Qaf} (h:VSt w s):0<=w/\w<=256/\s.Width=w/\(s.Words.length:Int)=(w+63) / 64:=by
 obtain ⟨⟨h0,h1,h2,h3⟩,rfl⟩:=h; exact ⟨h0,h1,rfl,h2⟩
theorem Qr6 {ws:List (BitVec 64)} {b:Int} (hb:0<=b) (hl:b / 64 < (ws.length:Int)) (x:Int) (hx:0<=x):Qho (ws.set (b / 64).toNat ((ws.getD (b / 64).toNat 0#64) ||| (1#64 <<< (b % 64).toNat))) x=(Qho ws x || x == b):=by
 unfold Qho
 simp only [List.getD_eq_getElem?_getD,List.getElem?_set]
 by_cases hq:(b / 64).toNat=(x / 64).toNat
 ·rw [if_pos hq,if_pos (by omega)]
  simp only [Option.getD_some,BitVec.getLsbD_or,BitVec.getLsbD_shiftLeft,BitVec.getLsbD_one,hq]
  congr 1
  rw [Bool.eq_iff_iff]
  simp
  omega
 ·rw [if_neg hq]
  have:(x == b)=false:=by rw [beq_eq_false_iff_ne]; intro e; subst e; exact hq rfl
  rw [this,Bool.or_false]
theorem QpQ {α:Type} (l:List α) (i j:Nat) (v d:α):(l.set i v).getD j d=if i=j/\i < l.length then v else l.getD j d:=by
 simp only [List.getD_eq_getElem?_getD,List.getElem?_set]
 by_cases h:i=j
 ·subst h
  by_cases h2:i < l.length
  ·simp [h2]
  ·simp [h2]
 ·simp [h]
theorem Qt1 {b:Int} (h:0<=b/\b < 18446744073709551616):((((BitVec.ofInt 64 b) % 64#64).toNat:Int)).toNat=(b % 64).toNat:=by
 rw [BitVec.toNat_umod,BitVec.toNat_ofInt]
 simp
 omega
def QdU (s:Qab) (v:List Qaf):Prop:=v.length=s.Boundary.length/\∀ g∈v,VSt s.Width g
theorem Qfr {s:Qab} {v:List Qaf} (h:QdU s v) {n:Int} (h0:0<=n) (h1:n < (s.Boundary.length:Int)):VSt s.Width (v.getD n.toNat default):=
 h.2 _ (QaA (by rw [h.1]; omega))
def Bd (s:Qab) (n:Int):Qaf:=s.Boundary.getD n.toNat default
def Tr (s:Qab) (n:Int):Qad:=s.Transfers.getD n.toNat default
def vat (v:List Qaf) (n:Int):Qaf:=v.getD n.toNat default
theorem Qog {α:Type} {p q:α->Bool}:∀ {l:List α},(∀ x∈l,p x=true->q x=true)->l.countP p<=l.countP q
 | [],_=>by simp
 | a :: l,h=>by
  have:=Qog (l:=l) fun x hx=>h x (List.mem_cons_of_mem _ hx)
  rw [List.countP_cons,List.countP_cons]
  have:=h a (List.mem_cons_self ..)
  by_cases ha:p a=true
  ·rw [if_pos ha,if_pos (this ha)]; omega
  ·rw [if_neg ha]; split <;> omega
theorem QoO {α:Type} {p q:α->Bool}:∀ {l:List α},(∀ x∈l,p x=true->q x=true)->(∃ x∈l,q x=true/\p x=false)->l.countP p < l.countP q
 | [],_,⟨x,hx,_⟩=>by cases hx
 | a :: l,h,⟨x,hx,h1,h2⟩=>by
  have hl:=Qog (l:=l) fun x hx=>h x (List.mem_cons_of_mem _ hx)
  rw [List.countP_cons,List.countP_cons]
  have ha:=h a (List.mem_cons_self ..)
  rcases List.mem_cons.1 hx with rfl | hx
  ·rw [if_pos h1,if_neg (by rw [h2]; simp)]; omega
  ·have:=QoO (l:=l) (fun x hx=>h x (List.mem_cons_of_mem _ hx)) ⟨x,hx,h1,h2⟩
   by_cases hp:p a=true
   ·rw [if_pos hp,if_pos (ha hp)]; omega
   ·rw [if_neg hp]; split <;> omega
def bl:Nat->Nat->List Nat
 | 0,_=>[]
 | n+1,x=>x % 2 :: bl n (x / 2)
theorem Qto {l:List Int} {n:Int} (h:QbA l n=true):QtX l n:=by
 have key:∀ (m:Nat) (i:Int),0<=i->QaQ l n m i=.ret false\/∀ j:Int,i<=j->j < i+m->0 < j->l.getD (j - 1).toNat 0 < l.getD j.toNat 0:=by
  intro m
  induction m with
  | zero=>intro i _; exact .inr fun j a b=>by omega
  | succ m ih=>
   intro i h0
   rw [QaQ]
   by_cases a:l.getD i.toNat 0 < 0
   ·exact .inl (by simp only [decide_eq_true a,cond_true])
   by_cases b:n<=l.getD i.toNat 0
   ·exact .inl (by simp only [decide_eq_false a,decide_eq_true b,cond_true,cond_false])
   simp only [decide_eq_false a,decide_eq_false b,cond_false]
   by_cases c:0 < i
   ·simp only [decide_eq_true c,cond_true]
    by_cases d:l.getD i.toNat 0<=l.getD (i - 1).toNat 0
    ·exact .inl (by simp only [decide_eq_true d,cond_true])
    ·simp only [decide_eq_false d,cond_false]
     rcases ih (i+1) (by omega) with h | h
     ·exact .inl h
     ·refine .inr fun j j1 j2 j3=>?_
      by_cases e:j=i
      ·subst e; omega
      ·exact h j (by omega) (by omega) j3
   ·simp only [decide_eq_false c,cond_false]
    rcases ih (i+1) (by omega) with h | h
    ·exact .inl h
    ·exact .inr fun j j1 j2 j3=>h j (by omega) (by omega) j3
 refine ⟨Qm2 h,?_⟩
 unfold QbA at h
 rw [show ((((l.length:Nat):Int) - 0).toNat)=l.length by omega] at h
 rcases key l.length 0 (by omega) with e | e
 ·rw [e] at h; cases h
 ·rw [List.pairwise_iff_getElem]
  have step:∀ (d i:Nat) (hd:i+d+1 < l.length),l.getD i 0 < l.getD (i+d+1) 0:=by
   intro d
   induction d with
   | zero=>
    intro i hd
    have:=e ((i:Int)+1) (by omega) (by omega) (by omega)
    rw [show ((i:Int)+1 - 1).toNat=i by omega,show ((i:Int)+1).toNat=i+0+1 by omega] at this
    exact this
   | succ d ih=>
    intro i hd
    have h1:=ih i (by omega)
    have:=e ((i:Int)+d+2) (by omega) (by omega) (by omega)
    rw [show ((i:Int)+d+2 - 1).toNat=i+d+1 by omega,show ((i:Int)+d+2).toNat=i+(d+1)+1 by omega] at this
    omega
  intro i j hi hj hij
  have:=step (j - i - 1) i (by omega)
  rw [show i+(j - i - 1)+1=j by omega,Qfl hi,Qfl hj] at this
  exact this
theorem QoF {B W m:Int} (h0:0<=m) (h1:m < B) (hw:0<=W):0<=m*W/\m*W+W<=B*W:=by
 refine ⟨Int.mul_nonneg h0 hw,?_⟩
 have:(m+1)*W<=B*W:=Int.mul_le_mul_of_nonneg_right (by omega) hw
 rw [Int.add_mul,Int.one_mul] at this; exact this
theorem QrA {B W i:Int} (hw:0 < W) (h0:0<=i) (h1:i < B*W):0<=i / W/\i / W < B/\0<=i % W/\i % W < W:=by
 refine ⟨Int.ediv_nonneg h0 (by omega),Int.ediv_lt_of_lt_mul hw h1,Int.emod_nonneg _ (by omega),Int.emod_lt_of_pos _ hw⟩
def zc (d:List Int):Nat:=d.count 0
theorem Qxq {d:List Int} {i:Nat} {v:Int} (hi:i < d.length) (h0:d.getD i 0=0) (hv:v≠0):zc (d.set i v) < zc d:=by
 unfold zc
 have e:d[i]=0:=by simpa [List.getD,hi] using h0
 rw [List.count_set hi]
 have hp:0 < d.count 0:=List.count_pos_iff.2 (e ▸ List.getElem_mem hi)
 simp [e,hv]; omega
structure DQ (d:List Int) (more:Bool) (d':List Int) (more':Bool):Prop where
 len:d'.length=d.length
 le:zc d'<=zc d
 more:more'=true->more=true\/zc d' < zc d
theorem DQ.refl (d:List Int) (m:Bool):DQ d m d m:=⟨rfl,Nat.le_refl _,.inl⟩
theorem DQ.trans {a b c:List Int} {x y z:Bool} (h:DQ a x b y) (k:DQ b y c z):DQ a x c z:=
 ⟨k.len.trans h.len,Nat.le_trans k.le h.le,fun hz=>(k.more hz).elim (fun hy=>(h.more hy).imp_right fun q=>Nat.lt_of_le_of_lt k.le q) (fun q=>.inr (Nat.lt_of_lt_of_le q h.le))⟩
def Qfv (s:Qab) (x:Qag):Prop:=(0<=x.Node/\x.Node < (s.Deps.length:Int))/\0<=x.Bit/\x.Bit < s.Width
structure Qmt (next:List (Qag×List Qag)) (R:Qag->Qag->Prop) (found:List (Qag×List Qag)) (further:List Qag):Prop where
 iso:∀ x,(QbX found x).isSome=true↔(∃ y,R y x)/\(QbX next x).isSome=false
 val:∀ x y,y∈(QbX found x).getD []↔R y x/\(QbX next x).isSome=false
 fur:∀ x,x∈further↔(QbX found x).isSome=true
 nd:(found.map (·.1)).Nodup
 ne:∀ e∈found,e.2≠[]
 fnd:further.Nodup
theorem Qmt.nil (next:List (Qag×List Qag)):Qmt next (fun _ _=>False) [] []:=
 ⟨fun x=>by simp [QbX],fun x y=>by simp [QbX],fun x=>by simp [QbX],by simp,fun e h=>(by cases h),by simp⟩
theorem Qmt.congr {next:List (Qag×List Qag)} {R R':Qag->Qag->Prop} {found:List (Qag×List Qag)} {further:List Qag} (h:Qmt next R found further) (e:∀ y x,R y x↔R' y x):Qmt next R' found further:=by
 have:R=R':=funext fun y=>funext fun x=>propext (e y x)
 rw [<- this]; exact h
theorem Qix {κ ν:Type} [DecidableEq κ]:∀ (l:List (κ×ν)) (k:κ) (u v:ν),mset (mset l k u) k v=mset l k v
 | [],k,u,v=>by simp [mset]
 | (a,w) :: l,k,u,v=>by
  by_cases e:a=k
  ·simp [mset,e]
  ·simp [mset,e,Qix l k u v]
theorem Qld {κ ν:Type} [DecidableEq κ]:∀ {l:List (κ×ν)} {k:κ} {v:ν} {e:κ×ν},e∈mset l k v->e∈l\/e=(k,v)
 | [],k,v,e,h=>.inr (by simpa [mset] using h)
 | (a,w) :: l,k,v,e,h=>by
  unfold mset at h
  by_cases c:a=k
  ·rw [if_pos c] at h
   rcases List.mem_cons.1 h with h | h
   ·rw [c] at h; exact .inr h
   ·exact .inl (List.mem_cons_of_mem _ h)
  ·rw [if_neg c] at h
   rcases List.mem_cons.1 h with h | h
   ·exact .inl (h ▸ List.mem_cons_self ..)
   ·exact (Qld h).imp_left (List.mem_cons_of_mem _)
theorem Qmt.old {next:List (Qag×List Qag)} {R:Qag->Qag->Prop} {found:List (Qag×List Qag)} {further:List Qag} (h:Qmt next R found further) {hh x:Qag} (hx:(QbX next x).isSome=true):Qmt next (fun y z=>R y z\/(y=hh/\z=x)) found further:=by
 have hz:∀ z,(QbX next z).isSome=false->z≠x:=fun z hz e=>by rw [e,hx] at hz; cases hz
 refine ⟨fun z=>(h.iso z).trans ?_,fun z y=>(h.val z y).trans ?_,h.fur,h.nd,h.ne,h.fnd⟩
 ·exact ⟨fun ⟨⟨y,a⟩,b⟩=>⟨⟨y,.inl a⟩,b⟩,fun ⟨⟨y,a⟩,b⟩=>⟨⟨y,a.elim id fun c=>absurd c.2 (hz z b)⟩,b⟩⟩
 ·exact ⟨fun ⟨a,b⟩=>⟨.inl a,b⟩,fun ⟨a,b⟩=>⟨a.elim id fun c=>absurd c.2 (hz z b),b⟩⟩
theorem Qmt.new {next:List (Qag×List Qag)} {R:Qag->Qag->Prop} {found:List (Qag×List Qag)} {further:List Qag} (h:Qmt next R found further) {hh x:Qag} (hx:(QbX next x).isSome=false) {fu:List Qag} (hf:∀ z,z∈fu↔z∈further\/z=x) (hfn:fu.Nodup):Qmt next (fun y z=>R y z\/(y=hh/\z=x)) (mset found x ((QbX found x).getD []++[hh])) fu:=by
 refine ⟨fun z=>?_,fun z y=>?_,fun z=>?_,Qf8 h.nd _ _,fun e he=>?_,hfn⟩
 ·rw [Qga]
  by_cases c:x=z
  ·subst c; rw [if_pos rfl]; exact ⟨fun _=>⟨⟨hh,.inr ⟨rfl,rfl⟩⟩,hx⟩,fun _=>rfl⟩
  ·rw [if_neg c,h.iso]
   exact ⟨fun ⟨⟨y,a⟩,b⟩=>⟨⟨y,.inl a⟩,b⟩,fun ⟨⟨y,a⟩,b⟩=>⟨⟨y,a.elim id fun q=>absurd q.2.symm c⟩,b⟩⟩
 ·rw [Qga]
  by_cases c:x=z
  ·subst c
   rw [if_pos rfl,Option.getD_some,List.mem_append,List.mem_singleton,h.val]
   exact ⟨fun q=>q.elim (fun q=>⟨.inl q.1,q.2⟩) fun q=>⟨.inr ⟨q,rfl⟩,hx⟩,fun ⟨a,b⟩=>a.imp (fun a=>⟨a,b⟩) fun a=>a.1⟩
  ·rw [if_neg c,h.val]
   exact ⟨fun ⟨a,b⟩=>⟨.inl a,b⟩,fun ⟨a,b⟩=>⟨a.elim id fun q=>absurd q.2.symm c,b⟩⟩
 ·rw [hf,h.fur,Qga]
  by_cases c:x=z
  ·subst c; simp
  ·rw [if_neg c]; exact ⟨fun q=>q.elim id fun q=>absurd q.symm c,.inl⟩
 ·rcases Qld he with he | rfl
  ·exact h.ne e he
  ·simp
theorem Qns {m:List (Qag×List Qag)} {k:Qag} {u v:List Qag} {a:Qag} (h:∀ e∈m,e.2≠[]):∀ e∈mset (mset m k u) k (v++[a]),e.2≠[]:=fun e he=>by
 rw [Qix] at he
 rcases Qld he with he | rfl
 ·exact h e he
 ·simp
theorem Qlt {m:List (Qag×List Qag)} {k:Qag} {u:List Qag} {a:Qag} {B C:Int} (h:∀ e∈m,(e.2.length:Int)<=B) (h0:0<=B) (hc:B+1<=C):∀ e∈mset (mset m k u) k ((QbX m k).getD []++[a]),(e.2.length:Int)<=C:=fun e he=>by
 rw [Qix] at he
 rcases Qld he with he | rfl
 ·have:=h e he; omega
 ·dsimp only
  rw [List.length_append]
  have:(((QbX m k).getD []).length:Int)<=B:=by
   cases c:QbX m k with
   | none=>simpa using h0
   | some v=>
    have hm:∀ {l:List (Qag×List Qag)} {v:List Qag},QbX l k=some v->(k,v)∈l:=fun {l}=>by
     induction l with
     | nil=>intro v h; cases h
     | cons e l ih=>
      intro v h
      obtain ⟨a,w⟩:=e
      unfold QbX at h
      by_cases q:a=k
      ·rw [if_pos q] at h; cases h; rw [q]; simp
      ·rw [if_neg q] at h; exact List.mem_cons_of_mem _ (ih h)
    exact h _ (hm c)
  simp only [List.length_cons,List.length_nil]; omega
theorem Qts {κ ν:Type} [DecidableEq κ] {P:ν->Prop} {m:List (κ×List ν)} (h:∀ e∈m,∀ x∈e.2,P x) (k:κ):∀ x∈(QbX m k).getD [],P x:=by
 induction m with
 | nil=>intro x hx; cases hx
 | cons e m ih=>
  obtain ⟨a,w⟩:=e
  intro x hx
  unfold QbX at hx
  by_cases q:a=k
  ·rw [if_pos q] at hx; exact h (a,w) (by simp) x hx
  ·rw [if_neg q] at hx; exact ih (fun e he=>h e (List.mem_cons_of_mem _ he)) x hx
theorem Qq0 {m:List (Qag×List Qag)} {B:Int} (h:∀ e∈m,(e.2.length:Int)<=B) (h0:0<=B) (k:Qag):(((QbX m k).getD []).length:Int)<=B:=by
 induction m with
 | nil=>simpa [QbX] using h0
 | cons e m ih=>
  obtain ⟨a,w⟩:=e
  unfold QbX
  by_cases q:a=k
  ·rw [if_pos q]; exact h (a,w) (by simp)
  ·rw [if_neg q]; exact ih (fun e he=>h e (List.mem_cons_of_mem _ he))
def QrV (x:Qag):Prop:=(0<=x.Node/\x.Node<=65536)/\0<=x.Bit/\x.Bit<=65536
theorem QpE {κ ν:Type} [DecidableEq κ] (l:List (κ×ν)) (k:κ) (v:ν):l.length<=(mset l k v).length/\(k ∉ l.map (·.1)->(mset l k v).length=l.length+1):=by
 have h:=congrArg List.length (QiA (l:=l) (k:=k) (v:=v))
 rw [List.length_map] at h
 refine ⟨?_,fun hk=>?_⟩
 ·rw [h]; split <;> simp
 ·rw [h,if_neg hk]; simp
theorem Qhn {κ ν:Type} [DecidableEq κ] {l:List (κ×ν)} {k:κ}:(QbX l k).isSome=true↔k∈l.map (·.1):=by
 have:=QeW (l:=l) (k:=k)
 cases e:QbX l k with
 | none=>simp [this.1 e]
 | some v=>
  refine ⟨fun _=>?_,fun _=>rfl⟩
  apply Classical.byContradiction
  intro h
  rw [this.2 h] at e; cases e
def hix (s:Qab) (x:Qag):Int:=x.Node*s.Width+x.Bit
theorem Qpc {s:Qab} {x:Qag} (h:Qfv s x):hix s x / s.Width=x.Node/\hix s x % s.Width=x.Bit:=by
 have hw:s.Width≠0:=by have:=h.2; omega
 unfold hix
 rw [Int.add_comm,Int.add_mul_ediv_right _ _ hw,Int.add_mul_emod_self_right,Int.ediv_eq_zero_of_lt h.2.1 h.2.2,Int.emod_eq_of_lt h.2.1 h.2.2]
 simp
theorem Qry {s:Qab} {x y:Qag} (hx:Qfv s x) (hy:Qfv s y) (h:hix s x=hix s y):x=y:=by
 have a:=Qpc hx; have b:=Qpc hy
 rw [h] at a
 obtain ⟨xn,xb⟩:=x; obtain ⟨yn,yb⟩:=y
 rw [a.1] at b; rw [a.2] at b
 obtain ⟨rfl,rfl⟩:=b; rfl
theorem Qiv {s:Qab} {x:Qag} (hx:Qfv s x):0<=hix s x/\hix s x < (s.Deps.length:Int)*s.Width:=by
 have:=QoF hx.1.1 hx.1.2 (show 0<=s.Width by have:=hx.2; omega)
 have:=hx.2
 unfold hix; omega
theorem QrC {s:Qab} {l:List Qag} (hn:l.Nodup) (hr:∀ x∈l,Qfv s x):(l.length:Int)<=(s.Deps.length:Int)*s.Width\/l=[]:=by
 by_cases c:l=[]
 ·exact .inr c
 left
 obtain ⟨y,hy⟩:=List.exists_mem_of_ne_nil _ c
 have hy':=Qiv (hr y hy)
 have hok:QwT ((s.Deps.length:Int)*s.Width) (l.map (hix s)):=by
  refine ⟨?_,fun x hx=>?_⟩
  ·refine List.pairwise_map.2 (hn.imp_of_mem fun {a b} ha hb hab=>?_)
   exact fun e=>hab (Qry (hr a ha) (hr b hb) e)
  ·obtain ⟨z,hz,rfl⟩:=List.mem_map.1 hx
   exact Qiv (hr z hz)
 have:=QqS hok (by omega)
 rwa [List.length_map] at this
def hle (a b:Qag):Prop:=a.Node < b.Node\/(a.Node=b.Node/\a.Bit<=b.Bit)
def Mn (S:Qag->Prop) (m:Qag):Prop:=S m/\∀ x,S x->hle m x
theorem QoE {a b:Qag} (h:hle a b) (k:hle b a):a=b:=by
 obtain ⟨a1,a2⟩:=a; obtain ⟨b1,b2⟩:=b
 unfold hle at h k
 dsimp only at h k
 have h1:a1=b1:=by omega
 have h2:a2=b2:=by omega
 rw [h1,h2]
theorem QsL (a:Qag):hle a a:=.inr ⟨rfl,Int.le_refl _⟩
theorem Qov {a b c:Qag} (h:hle a b) (k:hle b c):hle a c:=by unfold hle at *; omega
theorem QrJ {S:Qag->Prop} {a b:Qag} (h:Mn S a) (k:Mn S b):a=b:=QoE (h.2 b k.1) (k.2 a h.1)
theorem Qxc {σ:Type} (f:Nat->Int->LR σ Int) (p:Int->Bool) (c:σ) (h0:∀ i,f 0 i=.brk c) (h1:∀ r i,f (r+1) i=bif p i then .ret i else f r (i+1)) :
  ∀ (m:Nat) (i:Int),(∃ j,f m i=.ret j/\i<=j/\j < i+m/\p j=true/\∀ q,i<=q->q < j->p q=false)\/(f m i=.brk c/\∀ j,i<=j->j < i+m->p j=false)
 | 0,i=>.inr ⟨h0 i,fun j h1 h2=>by omega⟩
 | m+1,i=>by
  rw [h1]
  cases e:p i with
  | true=>exact .inl ⟨i,rfl,by omega,by omega,e,fun q a b=>by omega⟩
  | false=>
   rw [cond_false]
   rcases Qxc f p c h0 h1 m (i+1) with ⟨j,a,b,d,g,k⟩ | ⟨a,b⟩
   ·refine .inl ⟨j,a,by omega,by omega,g,fun q q0 q1=>?_⟩
    by_cases z:q=i
    ·subst z; exact e
    ·exact k q (by omega) q1
   ·refine .inr ⟨a,fun j j0 j1=>?_⟩
    by_cases z:j=i
    ·subst z; exact e
    ·exact b j (by omega) (by omega)
def dv (s:Qab) (d:List Int) (x:Qag):Int:=d.getD (hix s x).toNat 0
open Classical in
structure RS (s:Qab) (l:Int) (d0:List Int) (P:Qag->Prop) (d:List Int) (more:Bool):Prop where
 len:(d.length:Int)=(s.Deps.length:Int)*s.Width
 val:∀ x,Qfv s x->dv s d x=if dv s d0 x=0/\P x then l+1 else dv s d0 x
 more:more=true↔∃ x,Qfv s x/\dv s d0 x=0/\P x
theorem RS.congr {s:Qab} {l:Int} {d0:List Int} {P P':Qag->Prop} {d:List Int} {more:Bool} (h:RS s l d0 P d more) (e:∀ x,Qfv s x->(P x↔P' x)):RS s l d0 P' d more:=by
 refine ⟨h.len,fun x hx=>?_,h.more.trans ?_⟩
 ·rw [h.val x hx]
  by_cases c:dv s d0 x=0/\P x
  ·rw [if_pos c,if_pos ⟨c.1,(e x hx).1 c.2⟩]
  ·rw [if_neg c,if_neg (fun q=>c ⟨q.1,(e x hx).2 q.2⟩)]
 ·exact ⟨fun ⟨x,a,b,c⟩=>⟨x,a,b,(e x a).1 c⟩,fun ⟨x,a,b,c⟩=>⟨x,a,b,(e x a).2 c⟩⟩
theorem QtQ {s:Qab} {d:List Int} (hl:(d.length:Int)=(s.Deps.length:Int)*s.Width) {x y:Qag} (hx:Qfv s x) (hy:Qfv s y) (v:Int):dv s (d.set (hix s x).toNat v) y=if x=y then v else dv s d y:=by
 have h1:=Qiv hx
 have h2:=Qiv hy
 unfold dv
 rw [QpQ]
 by_cases c:x=y
 ·subst c
  rw [if_pos ⟨rfl,by omega⟩,if_pos rfl]
 ·rw [if_neg c,if_neg]
  rintro ⟨e,_⟩
  exact c (Qry hx hy (by omega))
theorem RS.nil {s:Qab} {l:Int} {d:List Int} (h:(d.length:Int)=(s.Deps.length:Int)*s.Width):RS s l d (fun _=>False) d false:=by
 refine ⟨h,fun x _=>?_,⟨fun h=>(by cases h),fun ⟨x,_,_,h⟩=>h.elim⟩⟩
 rw [if_neg (fun h=>h.2)]
def hop (s:Qab) (i:Int):Qag:=⟨i / s.Width,i % s.Width⟩
theorem QtY {s:Qab} (hw:0 < s.Width) {i j:Int} (h:i<=j):hle (hop s i) (hop s j):=by
 unfold hle hop
 dsimp only
 have h1:=Int.ediv_le_ediv hw h
 have h2:=Int.mul_ediv_add_emod i s.Width
 have h3:=Int.mul_ediv_add_emod j s.Width
 by_cases c:i / s.Width=j / s.Width
 ·rw [c] at h2
  exact .inr ⟨c,by omega⟩
 ·exact .inl (by omega)
theorem QnS {s:Qab} {x:Qag} (hx:Qfv s x):hop s (hix s x)=x:=by
 have:=Qpc hx
 unfold hop
 rw [this.1,this.2]
theorem QdR (s:Qaf):Qbd s=true↔Qqm s:=by
 have:=Qst (fun r i=>Qd8 s r i) (fun b=>(((s.Words.getD ((b / 64):Int).toNat 0#64) >>> (((BitVec.ofInt 64 (b % 64)).toNat:Int)).toNat) &&& 1#64) == 1#64) false () (fun _=>rfl) (fun _ _=>rfl)
  ((((64*((s.Words.length:Nat):Int)):Int) - s.Width).toNat) s.Width
 have hb:∀ b:Int,((((s.Words.getD ((b / 64):Int).toNat 0#64) >>> (((BitVec.ofInt 64 (b % 64)).toNat:Int)).toNat) &&& 1#64) == 1#64)=Qho s.Words b:=by
  intro b
  rw [QnU,Qh0 (by omega)]; rfl
 simp only [hb] at this
 unfold Qbd Qqm
 simp only [Bool.cond_eq_ite]
 by_cases h1:s.Width < 0
 ·simp [h1]; omega
 ·by_cases h2:256 < s.Width
  ·simp [h1,h2]; omega
  ·by_cases h3:(s.Words.length:Int)=(s.Width+63) / 64
   ·rcases this with ⟨e,j,j1,j2,j3⟩ | ⟨e,h⟩
    ·rw [e]
     simp only [h1,h2,h3,decide_false,bne_self_eq_false,Bool.false_eq_true,if_false,false_iff]
     rintro ⟨_,_,_,h⟩
     rw [h j j1 (by omega)] at j3; cases j3
    ·rw [e]
     simp only [h1,h2,h3,decide_false,bne_self_eq_false,Bool.false_eq_true,if_false,true_iff]
     refine ⟨by omega,by omega,trivial,fun b b1 b2=>h b b1 (by omega)⟩
   ·simp [h1,h2,h3]
theorem Qsg {s:Qaf} (h:Qbd s=true):0<=s.Width/\s.Width<=256/\(s.Words.length:Int)=(s.Width+63) / 64:=by
 have:=(QdR s).1 h; exact ⟨this.1,this.2.1,this.2.2.1⟩
theorem Qip {w:Int} {s:Qaf} (h:VSt w s):Qbd s=true:=(QdR s).2 h.1
def Qsq (w:Int) (l:List QaB) (a b:Int):Prop:=l.length<=12/\(∀ c∈l,(0<=c.From/\c.From < w)/\(0<=c.To/\c.To < w)/\(c.From < a\/(c.From=a/\c.To < b)))/\l.Pairwise (fun x y=>Qc4 x y=true)
theorem Qqb (x y:QaB):Qc4 x y=true↔x.From < y.From\/(x.From=y.From/\x.To < y.To):=by
 unfold Qc4
 by_cases h:x.From < y.From
 ·simp [h]
 ·by_cases h2:x.From=y.From
  ·simp [h2]
  ·simp [h,h2]
theorem Qsq.next {w:Int} {l:List QaB} {a b a' b':Int} (h:Qsq w l a b) (hab:a < a'\/(a=a'/\b<=b')):Qsq w l a' b':=
 ⟨h.1,fun c hc=>⟨(h.2.1 c hc).1,(h.2.1 c hc).2.1,by have:=(h.2.1 c hc).2.2; omega⟩,h.2.2⟩
theorem Qsq.push {w:Int} {l:List QaB} {a b:Int} (h:Qsq w l a b) (hl:l.length < 12) (ha:0<=a/\a < w) (hb:0<=b/\b < w):Qsq w (l++[⟨a,b⟩]) a (b+1):=by
 refine ⟨by simp; omega,fun c hc=>?_,?_⟩
 ·rcases List.mem_append.1 hc with hc | hc
  ·have:=h.2.1 c hc; exact ⟨this.1,this.2.1,by omega⟩
  ·simp at hc; subst hc; exact ⟨ha,hb,.inr ⟨rfl,by show b < b+1; omega⟩⟩
 ·rw [List.pairwise_append]
  refine ⟨h.2.2,by simp,fun x hx y hy=>?_⟩
  simp at hy; subst hy
  rw [Qqb]
  exact (h.2.1 x hx).2.2
def VTr (w:Int) (t:Qad):Prop:=Qal t=true/\t.Gen.Width=w
theorem QdF {t:Qad} (h:Qal t=true):Qqm t.Gen/\Qqm t.Kill/\t.Gen.Width=t.Kill.Width/\t.Copies.length<=64:=by
 unfold Qal at h
 cases h1:Qbd t.Gen with
 | false=>simp [h1] at h
 | true=>
  cases h2:Qbd t.Kill with
  | false=>simp [h1,h2] at h
  | true=>
   by_cases h3:t.Gen.Width=t.Kill.Width
   ·by_cases h4:64 < (t.Copies.length:Int)
    ·simp [h1,h2,h3,h4] at h
    ·exact ⟨(QdR _).1 h1,(QdR _).1 h2,h3,by omega⟩
   ·simp [h1,h2,h3] at h
def QwU (s:Qab) (j:Int):Prop:=QbA (s.Deps.getD j.toNat []) (s.Boundary.length:Int)=true/\VTr s.Width (s.Transfers.getD j.toNat default)/\VSt s.Width (s.Boundary.getD j.toNat default)
theorem QsV {s:Qab} (hd:s.Deps.length=s.Boundary.length) (ht:s.Transfers.length=s.Boundary.length) :
  (∀ j:Int,0<=j->j < (s.Boundary.length:Int)->QwU s j)↔(∀ j:Int,0<=j->j < (s.Deps.length:Int)->QbA (s.Deps.getD j.toNat []) (s.Deps.length:Int)=true)/\(∀ t∈s.Transfers,VTr s.Width t)/\(∀ b∈s.Boundary,VSt s.Width b):=by
 constructor
 ·intro h
  refine ⟨fun j j1 j2=>?_,fun t ht'=>?_,fun b hb=>?_⟩
  ·have:=(h j j1 (by omega)).1; rw [hd]; exact this
  ·obtain ⟨j,j1,j2,rfl⟩:=(QdK (d:=default)).1 ht'
   exact (h j j1 (by omega)).2.1
  ·obtain ⟨j,j1,j2,rfl⟩:=(QdK (d:=default)).1 hb
   exact (h j j1 (by omega)).2.2
 ·rintro ⟨h1,h2,h3⟩ j j1 j2
  exact ⟨by rw [<- hd]; exact h1 j j1 (by omega),h2 _ (QaA (by omega)),h3 _ (QaA (by omega))⟩
theorem Qk4 {t:Qad} (hg:Qqm t.Gen) (hk:Qqm t.Kill) (he:t.Gen.Width=t.Kill.Width) (hl:t.Copies.length<=64) (hc:∀ c∈t.Copies,(0<=c.From/\c.From < t.Gen.Width)/\(0<=c.To/\c.To < t.Gen.Width)) (hs:t.Copies.Pairwise (fun x y=>Qc4 x y=true)) :
  Qal t=true:=by
 have loop:∀ (m:Nat) (i:Int),0<=i->i+m<=(t.Copies.length:Int)->Qao t m i=.brk ():=by
  intro m
  induction m with
  | zero=>intro i _ _; rfl
  | succ m ih=>
   intro i hi hm
   rw [Qao]
   have:=hc _ (QaA (xs:=t.Copies) (i:=i.toNat) (d:=default) (by omega))
   rw [decide_eq_false (by omega),decide_eq_false (by omega),decide_eq_false (by omega),decide_eq_false (by omega)]
   simp only [cond_false]
   rw [ih (i+1) (by omega) (by omega)]
   by_cases h0:0 < i
   ·simp only [decide_eq_true h0,cond_true]
    have hb:Qc4 (t.Copies.getD (i - 1).toNat default) (t.Copies.getD i.toNat default)=true:=by
     have hp:=List.pairwise_iff_getElem.1 hs (i - 1).toNat i.toNat (by omega) (by omega) (by omega)
     have g1:t.Copies.getD (i - 1).toNat default=t.Copies[(i - 1).toNat]'(by omega):=by rw [List.getD_eq_getElem?_getD,List.getElem?_eq_getElem (show (i - 1).toNat < t.Copies.length by omega)]; rfl
     have g2:t.Copies.getD i.toNat default=t.Copies[i.toNat]'(by omega):=by rw [List.getD_eq_getElem?_getD,List.getElem?_eq_getElem (show i.toNat < t.Copies.length by omega)]; rfl
     rw [g1,g2]; exact hp
    rw [hb]; rfl
   ·simp only [decide_eq_false h0,cond_false]
 unfold Qal
 rw [(QdR _).2 hg,(QdR _).2 hk]
 have e1:(t.Gen.Width != t.Kill.Width)=false:=by simp [he]
 have e2:decide (64 < ((t.Copies.length:Nat):Int))=false:=decide_eq_false (by omega)
 simp only [Bool.not_true,cond_false,e1,e2]
 rw [loop _ 0 (by omega) (by omega)]
structure QyK (w n:Int) (s1:List (List Int)) (s2:List Qad) (s3:List Qaf) (i:Int):Prop where
 l1:(s1.length:Int)=i
 l2:(s2.length:Int)=i
 l3:(s3.length:Int)=i
 d:∀ x∈s1,QtX x n/\x.length<=3
 t:∀ x∈s2,VTr w x
 b:∀ x∈s3,VSt w x
theorem QAP {t:Qad} (h:Qal t=true):0<=t.Gen.Width/\t.Gen.Width<=256/\(t.Gen.Words.length:Int)=(t.Gen.Width+63) / 64:=by
 have:=(QdF h).1; exact ⟨this.1,this.2.1,this.2.2.1⟩
theorem Qi7 {t:Qad} (h:Qal t=true):∀ c∈t.Copies,(0<=c.From/\c.From < t.Gen.Width)/\(0<=c.To/\c.To < t.Gen.Width):=by
 have sc:∀ (m:Nat) (i:Int),0<=i->i+m=(t.Copies.length:Int)->(Qao t m i=.ret false)\/∀ j:Int,i<=j->j < i+m->(0<=(t.Copies.getD j.toNat default).From/\(t.Copies.getD j.toNat default).From < t.Gen.Width)/\(0<=(t.Copies.getD j.toNat default).To/\(t.Copies.getD j.toNat default).To < t.Gen.Width):=by
  intro m
  induction m with
  | zero=>intro i _ _; exact .inr fun j a b=>by omega
  | succ m ih=>
   intro i h0 h1
   rw [Qao]
   by_cases a:(t.Copies.getD i.toNat default).From < 0
   ·exact .inl (by simp only [decide_eq_true a,cond_true])
   by_cases b:t.Gen.Width<=(t.Copies.getD i.toNat default).From
   ·exact .inl (by simp only [decide_eq_false a,decide_eq_true b,cond_true,cond_false])
   by_cases c:(t.Copies.getD i.toNat default).To < 0
   ·exact .inl (by simp only [decide_eq_false a,decide_eq_false b,decide_eq_true c,cond_true,cond_false])
   by_cases d:t.Gen.Width<=(t.Copies.getD i.toNat default).To
   ·exact .inl (by simp only [decide_eq_false a,decide_eq_false b,decide_eq_false c,decide_eq_true d,cond_true,cond_false])
   simp only [decide_eq_false a,decide_eq_false b,decide_eq_false c,decide_eq_false d,cond_false]
   have fin:(Qao t m (i+1)=.ret false)\/∀ j:Int,i<=j->j < i+((m+1:Nat):Int)->(0<=(t.Copies.getD j.toNat default).From/\(t.Copies.getD j.toNat default).From < t.Gen.Width)/\(0<=(t.Copies.getD j.toNat default).To/\(t.Copies.getD j.toNat default).To < t.Gen.Width):=by
    rcases ih (i+1) (by omega) (by omega) with h | h
    ·exact .inl h
    ·refine .inr fun j j1 j2=>?_
     by_cases e:j=i
     ·subst e; exact ⟨⟨by omega,by omega⟩,by omega,by omega⟩
     ·exact h j (by omega) (by omega)
   by_cases e:0 < i
   ·simp only [decide_eq_true e,cond_true]
    cases Qc4 (t.Copies.getD (i - 1).toNat default) (t.Copies.getD i.toNat default) with
    | false=>exact .inl rfl
    | true=>exact fin
   ·simp only [decide_eq_false e,cond_false]; exact fin
 intro c hc
 unfold Qal at h
 simp only [Bool.cond_eq_ite] at h
 repeat' split at h
 all_goals first | (cases h; done) | skip
 all_goals
  obtain ⟨j,j0,j1,rfl⟩:=(QdK (d:=default)).1 hc
  rcases sc t.Copies.length 0 (by omega) (by omega) with q | q
  ·rename_i heq _
   first
    | (rw [show ((((t.Copies.length:Nat):Int) - 0).toNat)=t.Copies.length by omega] at *; simp_all)
  ·exact q j j0 (by omega)
structure QcT (s:Qab):Prop where
 w:0<=s.Width/\s.Width<=256
 n:1<=s.Deps.length/\s.Deps.length<=256
 tl:s.Transfers.length=s.Deps.length
 bl:s.Boundary.length=s.Deps.length
 ris:∀ j:Int,0<=j->j < (s.Deps.length:Int)->QbA (s.Deps.getD j.toNat []) (s.Deps.length:Int)=true
 edges:tot s s.Deps.length 0<=1024
 tr:∀ t∈s.Transfers,VTr s.Width t
 bd:∀ b∈s.Boundary,VSt s.Width b
theorem QcT.dep_len {s:Qab} (h:QcT s) (j:Int) (h0:0<=j) (h1:j < (s.Deps.length:Int)):(s.Deps.getD j.toNat []).length<=1024:=by
 have:=Qt4 s s.Deps.length 0 j h0 (by omega)
 have:=h.edges
 omega
theorem QcT.tr_ok {s:Qab} (h:QcT s) {t:Qad} (ht:t∈s.Transfers):Qz2 t:=by
 obtain ⟨a,b,c,d⟩:=QdF (h.tr _ ht).1
 exact ⟨a.ok,b.ok,by omega⟩
theorem QcT.bd_ok {s:Qab} (h:QcT s) {b:Qaf} (hb:b∈s.Boundary):Qqd b:=(h.bd _ hb).1.ok
theorem QcT.dep_any {s:Qab} (h:QcT s) (i:Nat):(s.Deps.getD i []).length<=1024:=by
 rcases Nat.lt_or_ge i s.Deps.length with hi | hi
 ·have:=h.dep_len (i:Int) (by omega) (by omega)
  simpa using this
 ·rw [List.getD_eq_getElem?_getD,List.getElem?_eq_none hi]; simp
theorem QcT.app_bd {s:Qab} (h:QcT s) {i n:Nat} (hn:n<=1000):((s.Deps.getD i []).length+n)*Rep.bytes Int<=Qdn:=by
 have:=h.dep_any i
 show (_+_)*8<=140737488355328
 omega
theorem QcT.app_bd0 {s:Qab} (h:QcT s) {i:Nat}:(s.Deps.getD i []).length*Rep.bytes Int<=Qdn:=by
 have:=h.dep_any i
 show _*8<=140737488355328
 omega
theorem QcT.dep_mem {s:Qab} (h:QcT s) {j:Int} (h0:0<=j) (h1:j < (s.Deps.length:Int)):∀ x∈s.Deps.getD j.toNat [],0<=x/\x < (s.Deps.length:Int):=Qm2 (h.ris j h0 h1)
theorem QnJ {s:Qab} (h:QcT s) {j:Int} (h0:0<=j) (h1:j < (s.Deps.length:Int)):VTr s.Width (s.Transfers.getD j.toNat default):=h.tr _ (QaA (by have:=h.tl; omega))
theorem Qn1 {s:Qab} (h:QcT s) {j:Int} (h0:0<=j) (h1:j < (s.Deps.length:Int)):VSt s.Width (s.Boundary.getD j.toNat default):=h.bd _ (QaA (by have:=h.bl; omega))
theorem QcT.dep_n {s:Qab} (h:QcT s) {j:Int} (h0:0<=j) (h1:j < (s.Deps.length:Int)):(s.Deps.getD j.toNat []).length<=s.Deps.length:=by
 have hr:=Qto (h.ris j h0 h1)
 refine Qnr s.Deps.length _ ?_ hr.1
 exact hr.2.imp fun hab=>by omega
theorem QwQ {s:Qab} (hv:QcT s):s.Boundary.length*s.Width.toNat<=65536:=by
 have h1:=hv.n; have h2:=hv.bl; have h3:=hv.w
 exact Nat.le_trans (Nat.mul_le_mul (show s.Boundary.length<=256 by omega) (show s.Width.toNat<=256 by omega)) (by decide)
theorem QzF {s:Qab} (hv:QcT s):((s.Boundary.length*s.Width.toNat:Nat):Int)=(s.Boundary.length:Int)*s.Width:=by
 have:=hv.w.1
 rw [Int.natCast_mul,Int.toNat_of_nonneg this]
theorem QtT {s:Qab} (hv:QcT s) {x:Qag} (h:Qfv s x):QrV x:=by
 have h1:=hv.n; have h2:=hv.w
 obtain ⟨a,b⟩:=h
 exact ⟨by omega,by omega⟩
theorem Qu5 {s:Qab} (hv:QcT s):(s.Deps.length:Int)*s.Width<=65536:=by
 have h1:=hv.n; have h3:=hv.w
 have:=Int.mul_le_mul (show (s.Deps.length:Int)<=256 by omega) h3.2 h3.1 (by decide)
 omega
theorem Qv3 {s:Qab} (hv:QcT s) (hw:0 < s.Width) {i:Int} (h0:0<=i) (h1:i < (s.Deps.length:Int)*s.Width):Qfv s (hop s i)/\hix s (hop s i)=i:=by
 have:=QrA hw h0 h1
 refine ⟨⟨⟨this.1,this.2.1⟩,this.2.2⟩,?_⟩
 unfold hix hop
 dsimp only
 have:=Int.mul_ediv_add_emod i s.Width
 rw [Int.mul_comm] at this
 exact this
theorem QzX (s:Qab):∀ (m:Nat) (e i:Int),(Qbu s m e i=.brk (e+tot s m i)/\(∀ j,i<=j->j < i+m->QwU s j))\/(Qbu s m e i=.ret false/\¬ (∀ j,i<=j->j < i+m->QwU s j))
 | 0,e,i=>.inl ⟨by simp [Qbu,tot],fun j h1 h2=>by omega⟩
 | m+1,e,i=>by
  rw [Qbu]
  have ih:=QzX s m (e+(((s.Deps.getD (i:Int).toNat []).length:Nat):Int)) (i+1)
  by_cases ho:QwU s i
  ·obtain ⟨h1,⟨h2,h3⟩,h4,h5⟩:=ho
   have h4':=(QdR _).2 h4
   simp only [h1,h2,h3,h4',h5,Bool.not_true,bne_self_eq_false,cond_false]
   rcases ih with ⟨a,b⟩ | ⟨a,b⟩
   ·refine .inl ⟨?_,fun j j1 j2=>?_⟩
    ·rw [a]; simp only [tot]; congr 1; omega
    ·rcases Int.lt_or_eq_of_le j1 with hlt | rfl
     ·exact b j (by omega) (by omega)
     ·exact ⟨h1,⟨h2,h3⟩,h4,h5⟩
   ·exact .inr ⟨a,fun h=>b fun j j1 j2=>h j (by omega) (by omega)⟩
  ·refine .inr ⟨?_,fun h=>ho (h i (by omega) (by omega))⟩
   unfold QwU VTr VSt at ho
   rw [<- QdR] at ho
   cases h1:QbA (s.Deps.getD i.toNat []) (s.Boundary.length:Int) with
   | false=>rfl
   | true=>
    cases h2:Qal (s.Transfers.getD i.toNat default) with
    | false=>rfl
    | true=>
     cases h3:((s.Transfers.getD i.toNat default).Gen.Width != s.Width) with
     | true=>simp only [h3]; rfl
     | false=>
      cases h4:Qbd (s.Boundary.getD i.toNat default) with
      | false=>simp only [h3]; rfl
      | true=>
       cases h5:((s.Boundary.getD i.toNat default).Width != s.Width) with
       | true=>simp only [h3,h5]; rfl
       | false=>
        exfalso
        apply ho
        rw [h1,h2,h4]
        exact ⟨rfl,⟨rfl,by simpa [-List.getD_eq_getElem?_getD] using h3⟩,rfl,by simpa [-List.getD_eq_getElem?_getD] using h5⟩
theorem QcD (s:Qab):Qbi s=true↔QcT s:=by
 unfold Qbi
 simp only [Bool.cond_eq_ite]
 by_cases h1:s.Width < 0
 ·simp only [h1,decide_true,if_true]; exact ⟨fun h=>(by cases h),fun h=>by have:=h.w; omega⟩
 by_cases h2:256 < s.Width
 ·simp only [h1,h2,decide_true,decide_false,if_true,if_false,Bool.false_eq_true]; exact ⟨fun h=>(by cases h),fun h=>by have:=h.w; omega⟩
 by_cases h3:(s.Boundary.length:Int) < 1
 ·simp only [h1,h2,h3,decide_true,decide_false,if_true,if_false,Bool.false_eq_true]; exact ⟨fun h=>(by cases h),fun h=>by have:=h.n; have:=h.bl; omega⟩
 by_cases h4:256 < (s.Boundary.length:Int)
 ·simp only [h1,h2,h3,h4,decide_true,decide_false,if_true,if_false,Bool.false_eq_true]; exact ⟨fun h=>(by cases h),fun h=>by have:=h.n; have:=h.bl; omega⟩
 by_cases h5:(s.Deps.length:Int)=(s.Boundary.length:Int)
 case neg=>
  have h5':((s.Deps.length:Int) != (s.Boundary.length:Int))=true:=by simp [h5]
  simp only [h1,h2,h3,h4,h5',decide_true,decide_false,if_true,if_false,Bool.false_eq_true]; exact ⟨fun h=>(by cases h),fun h=>by have:=h.bl; omega⟩
 have h5':((s.Deps.length:Int) != (s.Boundary.length:Int))=false:=by simp [h5]
 by_cases h6:(s.Transfers.length:Int)=(s.Boundary.length:Int)
 case neg=>
  have h6':((s.Transfers.length:Int) != (s.Boundary.length:Int))=true:=by simp [h6]
  simp only [h1,h2,h3,h4,h5',h6',decide_true,decide_false,if_true,if_false,Bool.false_eq_true]; exact ⟨fun h=>(by cases h),fun h=>by have:=h.bl; have:=h.tl; omega⟩
 have h6':((s.Transfers.length:Int) != (s.Boundary.length:Int))=false:=by simp [h6]
 simp only [h1,h2,h3,h4,h5',h6',decide_false,if_false,Bool.false_eq_true]
 have hm:((((s.Boundary.length:Nat):Int):Int) - 0).toNat=s.Boundary.length:=by omega
 rw [hm]
 have hall:=QsV (s:=s) (by omega) (by omega)
 rcases QzX s s.Boundary.length 0 0 with ⟨e,p⟩ | ⟨e,p⟩
 ·rw [e]
  simp only [decide_eq_true_eq]
  have hp:=hall.1 (fun j j1 j2=>p j j1 (by omega))
  constructor
  ·intro h
   exact ⟨by omega,by omega,by omega,by omega,hp.1,by rw [show s.Deps.length=s.Boundary.length by omega]; omega,hp.2.1,hp.2.2⟩
  ·intro h
   have:=h.edges
   rw [show s.Deps.length=s.Boundary.length by omega] at this; omega
 ·rw [e]
  exact ⟨fun h=>(by cases h),fun h=>absurd (fun j j1 j2=>(hall.2 ⟨h.ris,h.tr,h.bd⟩) j j1 (by omega)) p⟩
theorem QkC {w:Int} (h0:0<=w) (h1:w<=256):VSt w (QaD w):=by
 refine ⟨⟨h0,h1,?_,fun b _ _=>Qiz _ b⟩,rfl⟩
 simp [QaD]; omega
theorem QlM (s:Qab):∀ (m:Nat) (o:List Qaf) (n:Int),Qdc s m o n=o++List.replicate m (QaD s.Width)
 | 0,o,n=>by simp [Qdc]
 | m+1,o,n=>by rw [Qdc,QlM s m]; simp [List.replicate_succ]
theorem Qnw (s:Qab):Qdr s=List.replicate s.Boundary.length (QaD s.Width):=by
 unfold Qdr
 rw [QlM,show ((((s.Boundary.length:Nat):Int) - 0).toNat)=s.Boundary.length by omega]; rfl
theorem Qnn {s:Qab} (hv:QcT s):QdU s (Qdr s):=by
 have hw:=hv.w
 rw [Qnw]
 refine ⟨by simp,fun g hg=>?_⟩
 rw [List.mem_replicate] at hg
 rw [hg.2]; exact QkC hw.1 hw.2
theorem Qqw {s:Qab} {v:List Qaf} (h:Qds s v=0):v.length=s.Boundary.length:=by
 unfold Qds at h
 by_cases e:(v.length:Int)=(s.Boundary.length:Int)
 ·omega
 ·have:((v.length:Int) != (s.Boundary.length:Int))=true:=by simp [e]
  simp only [this,cond_true] at h
  cases h
theorem QsB {s:Qab} {v:List Qaf} (h:QdU s v):Qds s v=0:=by
 have sc:=Qst (fun r i=>Qc3 v r i) (fun i=>!(Qbd (v.getD i.toNat default))) 1 () (fun _=>rfl) (fun _ _=>rfl) ((((v.length:Nat):Int) - 0).toNat) 0
 have sc2:=Qst (fun r i=>Qc6 s v r i) (fun i=>(v.getD i.toNat default).Width != s.Width) 2 () (fun _=>rfl) (fun _ _=>rfl) ((((v.length:Nat):Int) - 0).toNat) 0
 unfold Qds
 have e:(((v.length:Nat):Int) != ((s.Boundary.length:Nat):Int))=false:=by rw [h.1]; simp
 simp only [e,cond_false]
 rcases sc with ⟨_,j,j1,j2,j3⟩ | ⟨e1,_⟩
 ·rw [Qip (Qfr h j1 (by have:=h.1; omega))] at j3; cases j3
 ·rw [e1]
  rcases sc2 with ⟨_,j,j1,j2,j3⟩ | ⟨e2,_⟩
  ·rw [(Qfr h j1 (by have:=h.1; omega)).2] at j3; simp at j3
  ·simp only [e2]
theorem Qjl {w:Int} {s:Qaf} (h:VSt w s) (b:Int):Qas s b=(decide (0<=b) && (decide (b < w) && Qho s.Words b)):=by
 have hv:=Qip h
 have hw:=Qi6 h
 unfold Qas
 simp only [hv,cond_true]
 by_cases h0:0<=b
 ·by_cases h1:b < s.Width
  ·rw [Qh0 (by omega),QnU]
   simp only [decide_eq_true h0,decide_eq_true h1,decide_eq_true (show b < w by omega),cond_true,Bool.true_and]
   rfl
  ·simp only [decide_eq_true h0,decide_eq_false h1,decide_eq_false (show ¬ b < w by omega),cond_true,cond_false,Bool.true_and,Bool.false_and]
 ·simp only [decide_eq_false h0,cond_false,Bool.false_and]
theorem Qpa {w:Int} {s:Qaf} (h:VSt w s) {b:Int} (hb:Qas s b=true):0<=b/\b < w:=by
 rw [Qjl h] at hb; simp at hb; exact ⟨hb.1,hb.2.1⟩
theorem QrZ {w:Int} {s:Qaf} (h:VSt w s) {b:Int} (hb:¬ (0<=b/\b < w)):Qas s b=false:=by
 cases e:Qas s b with
 | false=>rfl
 | true=>exact absurd (Qpa h e) hb
theorem Qpk {w:Int} {a b:Qaf} (ha:VSt w a) (hb:VSt w b) (h:∀ x:Int,0<=x->x < w->Qas a x=Qas b x):a=b:=by
 have a1:=Qi6 ha; have b1:=Qi6 hb
 obtain ⟨wa,la⟩:=a; obtain ⟨wb,lb⟩:=b
 simp only at a1 b1
 have:la=lb:=by
  apply List.ext_getElem (by omega)
  intro i h1 h2
  apply BitVec.eq_of_getLsbD_eq
  intro j hj
  have key:Qho la (64*(i:Int)+j)=Qho lb (64*(i:Int)+j):=by
   by_cases hx:(64*(i:Int)+j) < w
   ·have:=h (64*(i:Int)+j) (by omega) hx
    rw [Qjl ha,Qjl hb,decide_eq_true (show 0<=(64*(i:Int)+j) by omega),decide_eq_true hx] at this
    simpa using this
   ·rw [ha.1.2.2.2 _ (by show wa<=_; omega) (by show _ < 64*(la.length:Int); omega),hb.1.2.2.2 _ (by show wb<=_; omega) (by show _ < 64*(lb.length:Int); omega)]
  unfold Qho at key
  rw [show ((64*(i:Int)+j) / 64).toNat=i by omega,show ((64*(i:Int)+j) % 64).toNat=j by omega] at key
  simpa [List.getD,List.getElem?_eq_getElem h1,List.getElem?_eq_getElem h2] using key
 rw [this,a1.2.2.1,b1.2.2.1]
theorem QoG {w:Int} (h0:0<=w) (h1:w<=256) (x:Int):Qas (QaD w) x=false:=by
 rw [Qjl (QkC h0 h1)]
 have:Qho (QaD w).Words x=false:=Qiz _ _
 rw [this]; simp
def QuI (a b:Qaf) (one two both:Bool) (x:Int):Bool:=bif Qas a x then bif Qas b x then both else one else bif Qas b x then two else false
def QqU (a b:Qaf):Prop:=∀ x,Qas a x=true->Qas b x=true
theorem Qtj (a:Qaf):QqU a a:=fun _ h=>h
theorem Qqr {a b c:Qaf} (h:QqU a b) (k:QqU b c):QqU a c:=fun x hx=>k x (h x hx)
theorem QnT {w:Int} {a b:Qaf} (ha:VSt w a) (hb:VSt w b) (h:QqU a b) (k:QqU b a):a=b:=
 Qpk ha hb fun x _ _=>by rw [Bool.eq_iff_iff]; exact ⟨h x,k x⟩
def Le (s:Qab) (v u:List Qaf):Prop:=∀ n:Int,0<=n->n < (s.Boundary.length:Int)->QqU (vat v n) (vat u n)
theorem Qrd (s:Qab) (v:List Qaf):Le s v v:=fun n _ _=>Qtj _
theorem QpD {s:Qab} {a b c:List Qaf} (h:Le s a b) (k:Le s b c):Le s a c:=fun n a b=>Qqr (h n a b) (k n a b)
def cnt (n w:Nat) (v:List Qaf):Nat:=(List.range (n*w)).countP fun k=>Qas (vat v ((k / w:Nat):Int)) ((k % w:Nat):Int)
theorem QrF (n w:Nat) (v:List Qaf):cnt n w v<=n*w:=by
 have:=List.countP_le_length (p:=fun k=>Qas (vat v ((k / w:Nat):Int)) ((k % w:Nat):Int)) (l:=List.range (n*w))
 rw [List.length_range] at this; exact this
theorem QtG {n w:Nat} {v u:List Qaf} (h:∀ i:Nat,i < n->QqU (vat v (i:Int)) (vat u (i:Int))) (hs:∃ (i:Nat) (x:Nat),i < n/\x < w/\Qas (vat u (i:Int)) (x:Int)=true/\Qas (vat v (i:Int)) (x:Int)=false):cnt n w v < cnt n w u:=by
 obtain ⟨i,x,hi,hx,h1,h2⟩:=hs
 have hw:0 < w:=by omega
 refine QoO (fun k hk hp=>?_) ⟨i*w+x,?_,?_,?_⟩
 ·rw [List.mem_range] at hk
  exact h _ ((Nat.div_lt_iff_lt_mul hw).2 hk) _ hp
 ·rw [List.mem_range]
  calc i*w+x < i*w+w:=by omega
   _=(i+1)*w:=by rw [Nat.add_mul,Nat.one_mul]
   _<=n*w:=Nat.mul_le_mul_right w hi
 ·rw [show (i*w+x) / w=i by rw [Nat.add_comm,Nat.add_mul_div_right _ _ hw,Nat.div_eq_of_lt hx,Nat.zero_add],show (i*w+x) % w=x by rw [Nat.add_comm,Nat.add_mul_mod_self_right,Nat.mod_eq_of_lt hx]]; exact h1
 ·rw [show (i*w+x) / w=i by rw [Nat.add_comm,Nat.add_mul_div_right _ _ hw,Nat.div_eq_of_lt hx,Nat.zero_add],show (i*w+x) % w=x by rw [Nat.add_comm,Nat.add_mul_mod_self_right,Nat.mod_eq_of_lt hx]]; exact h2
theorem QpI {s:Qab} {v u:List Qaf} (h1:QdU s v) (h2:QdU s u) (h:Le s v u) (k:Le s u v):v=u:=by
 have e1:=h1.1; have e2:=h2.1
 apply List.ext_getElem (by omega)
 intro i i1 i2
 have a:=Qfr h1 (n:=(i:Int)) (by omega) (by omega)
 have b:=Qfr h2 (n:=(i:Int)) (by omega) (by omega)
 have:=QnT a b (h i (by omega) (by omega)) (k i (by omega) (by omega))
 simpa [List.getD,List.getElem?_eq_getElem i1,List.getElem?_eq_getElem i2] using this
theorem Qrs {s:Qab} {v u:List Qaf} (h1:QdU s v) (h2:QdU s u) (h:Le s v u) (hne:v≠u):∃ (i:Nat) (x:Nat),i < s.Boundary.length/\x < s.Width.toNat/\Qas (vat u (i:Int)) (x:Int)=true/\Qas (vat v (i:Int)) (x:Int)=false:=by
 apply Classical.byContradiction
 intro hc
 refine hne (QpI h1 h2 h fun n n0 n1 x hx=>?_)
 cases hh:Qas (vat v n) x with
 | true=>rfl
 | false=>
  exfalso
  have r:=Qpa (Qfr h2 n0 n1) hx
  refine hc ⟨n.toNat,x.toNat,by omega,by omega,?_,?_⟩
  ·rw [Int.toNat_of_nonneg n0,Int.toNat_of_nonneg r.1]; exact hx
  ·rw [Int.toNat_of_nonneg n0,Int.toNat_of_nonneg r.1]; exact hh
theorem Qlm {s:Qab} (hv:QcT s) (z:List Qaf):Le s (Qdr s) z:=fun n n0 n1 x hx=>by
 have hw:=hv.w
 rw [Qnw] at hx
 unfold vat at hx
 rw [List.getD_eq_getElem?_getD,List.getElem?_replicate,if_pos (by omega)] at hx
 rw [Option.getD_some,QoG hw.1 hw.2] at hx; cases hx
theorem QlN (t:Qad) (a b:Int):Qat t a b=true↔(a=b/\Qas t.Kill a=false)\/∃ c∈t.Copies,c.From=a/\c.To=b:=by
 have sc:=Qst (fun r i=>QaJ t a b r i) (fun i=>(t.Copies.getD i.toNat default).From == a && (t.Copies.getD i.toNat default).To == b) true () (fun _=>rfl)
  (fun r i=>by
   rw [QaJ]
   cases (t.Copies.getD i.toNat default).From == a <;> cases (t.Copies.getD i.toNat default).To == b <;> rfl) ((((t.Copies.length:Nat):Int) - 0).toNat) 0
 have key:(QaJ t a b ((((t.Copies.length:Nat):Int) - 0).toNat) 0=.ret true/\∃ c∈t.Copies,c.From=a/\c.To=b)\/(QaJ t a b ((((t.Copies.length:Nat):Int) - 0).toNat) 0=.brk ()/\¬ ∃ c∈t.Copies,c.From=a/\c.To=b):=by
  rcases sc with ⟨e,j,j1,j2,j3⟩ | ⟨e,h⟩
  ·refine .inl ⟨e,t.Copies.getD j.toNat default,QaA (by omega),?_⟩
   simpa using j3
  ·refine .inr ⟨e,?_⟩
   rintro ⟨c,hc,c1,c2⟩
   obtain ⟨j,j0,j1,rfl⟩:=(QdK (d:=default)).1 hc
   have:=h j j0 (by omega)
   rw [c1,c2] at this
   simp at this
 unfold Qat
 by_cases h1:a=b
 ·have e1:(a == b)=true:=by simp [h1]
  simp only [e1,cond_true]
  cases hk:Qas t.Kill a with
  | false=>simp [h1]
  | true=>
   simp only [Bool.not_true,cond_false]
   rcases key with ⟨e,h⟩ | ⟨e,h⟩
   ·rw [e]; simp only [h,or_true]
   ·rw [e]; simp only [h,or_false]; simp
 ·have e1:(a == b)=false:=by simp [h1]
  simp only [e1,cond_false]
  rcases key with ⟨e,h⟩ | ⟨e,h⟩
  ·rw [e]; simp only [h,or_true]
  ·rw [e]; simp only [h,or_false]; simp [h1]
def tfl (s:Qab) (b h:Qag):Prop:=b.Node∈deps s h.Node/\(0<=b.Bit/\b.Bit < s.Width)/\Qat (Tr s b.Node) b.Bit h.Bit=true
def Pth (s:Qab) (last:Qag):Nat->Qag->Prop
 | 0,x=>x=last
 | k+1,x=>∃ h,Pth s last k h/\tfl s x h
def Dst (s:Qab) (last:Qag) (k:Nat) (x:Qag):Prop:=Pth s last k x/\∀ j,j < k->¬ Pth s last j x
theorem QlG {s:Qab} {last:Qag}:∀ {k:Nat} {x:Qag},Pth s last k x->∃ j,j<=k/\Dst s last j x:=by
 intro k
 induction k using Nat.strongRecOn with
 | ind k ih=>
  intro x h
  by_cases c:∃ j,j < k/\Pth s last j x
  ·obtain ⟨j,hj,hp⟩:=c
   obtain ⟨i,a,b⟩:=ih j hj hp
   exact ⟨i,by omega,b⟩
  ·exact ⟨k,Nat.le_refl _,h,fun j hj hp=>c ⟨j,hj,hp⟩⟩
theorem QiK {s:Qab} {last:Qag} {k:Nat} {x:Qag} (h:Dst s last (k+1) x):∃ y,Dst s last k y/\tfl s x y:=by
 obtain ⟨⟨y,a,b⟩,c⟩:=h
 exact ⟨y,⟨a,fun j hj hp=>c (j+1) (by omega) ⟨y,hp,b⟩⟩,b⟩
theorem Qnm {s:Qab} {last:Qag} {k:Nat}:∀ (i:Nat) {x:Qag},Dst s last (k+i) x->∃ y,Dst s last k y
 | 0,x,h=>⟨x,h⟩
 | i+1,x,h=>by
  obtain ⟨y,a,_⟩:=QiK (k:=k+i) h
  exact Qnm i a
theorem QpK {s:Qab} {last:Qag} {j k:Nat} {x:Qag} (h:Dst s last j x) (h':Dst s last k x):j=k:=by
 rcases Nat.lt_trichotomy j k with c | c | c
 ·exact absurd h.1 (h'.2 j c)
 ·exact c
 ·exact absurd h'.1 (h.2 k c)
def GP (s:Qab) (last:Qag):Nat->(Qag->Prop)->List Qag->Prop
 | 0,S,p=>∃ m,Mn S m/\p=[m]
 | k+1,S,p=>∃ m p',Mn S m/\p=m :: p'/\GP s last k (fun y=>Dst s last k y/\tfl s m y) p'
theorem QqY {s:Qab} {last:Qag}:∀ {k:Nat} {S:Qag->Prop} {p q:List Qag},GP s last k S p->GP s last k S q->p=q
 | 0,S,p,q,⟨m,a,b⟩,⟨m',a',b'⟩=>by rw [b,b',QrJ a a']
 | k+1,S,p,q,⟨m,p',a,b,c⟩,⟨m',q',a',b',c'⟩=>by
  have:=QrJ a a'
  subst this
  rw [b,b',QqY c c']
structure DS (s:Qab) (last:Qag) (l:Int) (d:List Int):Prop where
 len:(d.length:Int)=(s.Deps.length:Int)*s.Width
 old:∀ x,Qfv s x->∀ j:Nat,(j:Int)+1<=l->(dv s d x=(j:Int)+1↔Dst s last j x)
 zero:∀ x,Qfv s x->dv s d x=0\/∃ j:Nat,(j:Int)+1<=l/\dv s d x=(j:Int)+1
structure DA (s:Qab) (last:Qag) (d:List Int):Prop where
 len:(d.length:Int)=(s.Deps.length:Int)*s.Width
 iff:∀ x,Qfv s x->∀ j:Nat,(dv s d x=(j:Int)+1↔Dst s last j x)
 zero:∀ x,Qfv s x->dv s d x=0\/∃ j:Nat,dv s d x=(j:Int)+1
theorem QuU {s:Qab} (hv:QcT s) {b h:Qag} (hh:Qfv s h) (h1:tfl s b h):Qfv s b:=⟨hv.dep_mem hh.1.1 hh.1.2 _ h1.1,h1.2.1⟩
theorem Qfj {s:Qab} (hv:QcT s) {last:Qag} (hl:Qfv s last):∀ {k:Nat} {x:Qag},Pth s last k x->Qfv s x
 | 0,x,h=>by rw [show x=last from h]; exact hl
 | k+1,x,⟨h,a,b⟩=>QuU hv (Qfj hv hl a) b
theorem QoD {w:Int} {s:Qaf} (h:VSt w s) {b:Int} (hb:0<=b/\b < w):VSt w (QbC s b):=by
 obtain ⟨⟨h0,h1,h2,h3⟩,rfl⟩:=h
 have he:(List.replicate (((s.Width+63) / 64):Int).toNat 0#64).length=s.Words.length:=by simp; omega
 have e:(QbC s b).Words=s.Words.set (b / 64).toNat ((s.Words.getD (b / 64).toNat 0#64) ||| (1#64 <<< (b % 64).toNat)):=by
  unfold QbC QaD
  simp only
  have e1:s.Words.take (List.replicate (((s.Width+63) / 64):Int).toNat 0#64).length++(List.replicate (((s.Width+63) / 64):Int).toNat 0#64).drop s.Words.length=s.Words:=by
   rw [he,List.take_length,<- he,List.drop_length,List.append_nil]
  rw [e1,Qh0 (by omega)]
 refine ⟨⟨h0,h1,?_,fun c c1 c2=>?_⟩,rfl⟩
 ·rw [e,List.length_set]; exact h2
 ·rw [e,List.length_set] at c2
  have c1:s.Width<=c:=c1
  have:=h3 c c1 c2
  rw [e]
  unfold Qho at this ⊢
  rw [List.getD_eq_getElem?_getD] at this ⊢
  rw [List.getElem?_set]
  by_cases hq:(b / 64).toNat=(c / 64).toNat
  ·rw [if_pos hq,if_pos (by clear e he; omega)]
   simp only [Option.getD_some,BitVec.getLsbD_or]
   rw [List.getD_eq_getElem?_getD,hq,this,Bool.false_or,BitVec.getLsbD_shiftLeft]
   have:¬ (c % 64).toNat=(b % 64).toNat:=by
    omega
   rw [BitVec.getLsbD_one]
   simp
   omega
  ·rw [if_neg hq]; exact this
theorem QoL {w:Int} {s:Qaf} (h:VSt w s) {b:Int} (hb:0<=b/\b < w):(QbC s b).Words=s.Words.set (b / 64).toNat ((s.Words.getD (b / 64).toNat 0#64) ||| (1#64 <<< (b % 64).toNat)):=by
 have hw:=Qi6 h
 have he:(List.replicate (((s.Width+63) / 64):Int).toNat 0#64).length=s.Words.length:=by simp; omega
 unfold QbC QaD
 simp only
 have e1:s.Words.take (List.replicate (((s.Width+63) / 64):Int).toNat 0#64).length++(List.replicate (((s.Width+63) / 64):Int).toNat 0#64).drop s.Words.length=s.Words:=by
  rw [he,List.take_length,<- he,List.drop_length,List.append_nil]
 rw [e1,Qh0 (by omega)]
theorem Qo4 {w:Int} {s:Qaf} (h:VSt w s) {b:Int} (hb:0<=b/\b < w) (x:Int):Qas (QbC s b) x=(Qas s x || x == b):=by
 have hw:=Qi6 h
 rw [Qjl (QoD h hb),Qjl h,QoL h hb]
 by_cases hx:0<=x
 ·rw [Qr6 hb.1 (by omega) x hx]
  by_cases h1:x < w
  ·simp [hx,h1]
  ·have:(x == b)=false:=by rw [beq_eq_false_iff_ne]; omega
   simp [h1,this]
 ·have:(x == b)=false:=by rw [beq_eq_false_iff_ne]; omega
  simp [hx,this]
theorem QhC (t:Qad) (s:Qaf) (a:Int):∀ (m:Nat) (o0:Int) (o1:List (BitVec 64)) (b:Int),1<=m->s.Width < b+m->QbR t s a m o0 o1 b≠.oof
 | 0,o0,o1,b,h0,h=>by omega
 | m+1,o0,o1,b,h0,h=>by
  rw [QbR]
  cases Qas s a with
  | false=>intro h; cases h
  | true=>
   by_cases hb:b < s.Width
   ·simp only [cond_true,decide_eq_true hb]
    cases Qat t a b with
    | false=>exact QhC t s a m _ _ (b+1) (by omega) (by omega)
    | true=>exact QhC t s a m _ _ (b+1) (by omega) (by omega)
   ·simp only [cond_true,decide_eq_false hb,cond_false]
    intro h; cases h
theorem QhT {w:Int} {t:Qad} {s:Qaf} (hs:VSt w s) {a:Int}:∀ (m:Nat) (o0:Int) (o1:List (BitVec 64)) (b:Int),0<=b->b<=w->w < b+m->VSt w ⟨o0,o1⟩ ->
  ∃ p0 p1,QbR t s a m o0 o1 b=.brk (p0,p1)/\VSt w ⟨p0,p1⟩/\∀ x,Qas ⟨p0,p1⟩ x=(Qas ⟨o0,o1⟩ x || (Qas s a && (decide (b<=x) && decide (x < w) && Qat t a x)))
 | 0,o0,o1,b,h0,h1,h2,h=>by omega
 | m+1,o0,o1,b,h0,h1,h2,h=>by
  have hw:=Qi6 hs
  rw [QbR]
  cases ha:Qas s a with
  | false=>exact ⟨o0,o1,rfl,h,fun x=>by simp⟩
  | true=>
   by_cases hb:b < s.Width
   ·have hbw:b < w:=by omega
    simp only [cond_true,decide_eq_true hb]
    have e2:∀ x,x≠b->(decide (b+1<=x) && decide (x < w))=(decide (b<=x) && decide (x < w)):=fun x hx=>by
     rw [Bool.eq_iff_iff]; simp; omega
    cases hf:Qat t a b with
    | true=>
     obtain ⟨p0,p1,e,hv,hh⟩:=QhT (t:=t) hs (a:=a) m (QbC ⟨o0,o1⟩ b).Width (QbC ⟨o0,o1⟩ b).Words (b+1) (by omega) (by omega) (by omega) (QoD h ⟨h0,hbw⟩)
     refine ⟨p0,p1,e,hv,fun x=>?_⟩
     rw [hh x,ha,show (⟨(QbC ⟨o0,o1⟩ b).Width,(QbC ⟨o0,o1⟩ b).Words⟩:Qaf)=QbC ⟨o0,o1⟩ b from rfl,Qo4 h ⟨h0,hbw⟩]
     by_cases ex:x=b
     ·subst ex; simp [hf,hbw]
     ·rw [e2 x ex]; simp [show (x == b)=false by rw [beq_eq_false_iff_ne]; exact ex]
    | false=>
     obtain ⟨p0,p1,e,hv,hh⟩:=QhT hs m o0 o1 (b+1) (by omega) (by omega) (by omega) h
     refine ⟨p0,p1,e,hv,fun x=>?_⟩
     rw [hh x,ha]
     by_cases ex:x=b
     ·subst ex; simp [hf]
     ·rw [e2 x ex]
   ·simp only [cond_true,decide_eq_false hb,cond_false]
    refine ⟨o0,o1,rfl,h,fun x=>?_⟩
    have:(decide (b<=x) && decide (x < w))=false:=by rw [Bool.eq_false_iff]; simp; omega
    rw [this]; simp
theorem QjU {w:Int} {t:Qad} {s:Qaf} (hs:VSt w s):∀ (m:Nat) (o0:Int) (o1:List (BitVec 64)) (a:Int),VSt w ⟨o0,o1⟩ ->
  VSt w ⟨(Qct t s m o0 o1 a).1,(Qct t s m o0 o1 a).2⟩/\∀ x,Qas ⟨(Qct t s m o0 o1 a).1,(Qct t s m o0 o1 a).2⟩ x=true↔(Qas ⟨o0,o1⟩ x=true\/∃ c,a<=c/\c < a+m/\Qas s c=true/\0<=x/\x < w/\Qat t c x=true)
 | 0,o0,o1,a,h=>⟨h,fun x=>by
   constructor
   ·intro h; exact .inl h
   ·rintro (h | ⟨c,c1,c2,_⟩)
    ·exact h
    ·omega⟩
 | m+1,o0,o1,a,h=>by
  have hw:=Qi6 hs
  obtain ⟨p0,p1,e,hv,hh⟩:=QhT (t:=t) hs (a:=a) (s.Width.toNat+1) o0 o1 0 (by omega) (by omega) (by omega) h
  rw [Qct,e]
  obtain ⟨i1,i2⟩:=QjU (t:=t) hs m p0 p1 (a+1) hv
  refine ⟨i1,fun x=>?_⟩
  simp only
  rw [i2 x,hh x]
  simp only [Bool.or_eq_true,Bool.and_eq_true,decide_eq_true_eq]
  constructor
  ·rintro ((h | ⟨h1,h2,h3⟩) | ⟨c,c1,c2,c3⟩)
   ·exact .inl h
   ·exact .inr ⟨a,by omega,by omega,h1,h2.1,h2.2,h3⟩
   ·exact .inr ⟨c,by omega,by omega,c3⟩
  ·rintro (h | ⟨c,c1,c2,c3,c4,c5,c6⟩)
   ·exact .inl (.inl h)
   ·by_cases hc:c=a
    ·subst hc; exact .inl (.inr ⟨c3,⟨c4,c5⟩,c6⟩)
    ·exact .inr ⟨c,by omega,by omega,c3,c4,c5,c6⟩
theorem QiP {w:Int} {t:Qad} {s:Qaf} (ht:VTr w t) (hs:VSt w s):∃ g,Qd0 t s=(g,0)/\VSt w g/\∀ x,Qas g x=true↔Qas t.Gen x=true\/∃ a,Qas s a=true/\0<=x/\x < w/\Qat t a x=true:=by
 have hw:=Qi6 hs
 have hg:VSt w t.Gen:=⟨(QdF ht.1).1,ht.2⟩
 obtain ⟨i1,i2⟩:=QjU (t:=t) hs (((s.Width:Int) - 0).toNat) t.Gen.Width t.Gen.Words 0 hg
 refine ⟨QiV t s,?_,i1,fun x=>?_⟩
 ·unfold Qd0
  have e:(t.Gen.Width != s.Width)=false:=by rw [ht.2,hw.2.2.1]; simp
  simp only [ht.1,Qip hs,e,Bool.not_true,cond_false]
 ·refine (i2 x).trans ?_
  rw [show (⟨t.Gen.Width,t.Gen.Words⟩:Qaf)=t.Gen from rfl]
  constructor
  ·rintro (h | ⟨c,c1,c2,c3⟩)
   ·exact .inl h
   ·exact .inr ⟨c,c3⟩
  ·rintro (h | ⟨c,c3,c4⟩)
   ·exact .inl h
   ·have:=Qpa hs c3
    exact .inr ⟨c,by omega,by omega,c3,c4⟩
def app (t:Qad) (g:Qaf):Qaf:=(Qd0 t g).1
theorem QxZ {w:Int} {t:Qad} {s:Qaf} (ht:VTr w t) (hs:VSt w s):VSt w (app t s):=by
 obtain ⟨g,e,h,_⟩:=QiP ht hs; unfold app; rw [e]; exact h
theorem QsI {w:Int} {t:Qad} {a b:Qaf} (ht:VTr w t) (ha:VSt w a) (hb:VSt w b) (h:QqU a b):QqU (app t a) (app t b):=by
 obtain ⟨g,e,_,hh⟩:=QiP ht ha
 obtain ⟨g',e',_,hh'⟩:=QiP ht hb
 unfold app; rw [e,e']
 intro x hx
 rcases (hh x).1 hx with h1 | ⟨c,c1,c2⟩
 ·exact (hh' x).2 (.inl h1)
 ·exact (hh' x).2 (.inr ⟨c,h c c1,c2⟩)
theorem Qo1 (a b:Qaf) (one two both:Bool) (r:Nat) (s0:Int) (s1:List (BitVec 64)) (k:Int):Qbb a b one two both (r+1) s0 s1 k=bif QuI a b one two both k then Qbb a b one two both r (QbC ⟨s0,s1⟩ k).Width (QbC ⟨s0,s1⟩ k).Words (k+1) else Qbb a b one two both r s0 s1 (k+1):=by
 rw [Qbb]
 unfold QuI
 all_goals (cases Qas a k <;> cases Qas b k <;> cases one <;> cases two <;> cases both <;> rfl)
theorem Qju {w:Int} {a b:Qaf} {one two both:Bool}:∀ (m:Nat) (s0:Int) (s1:List (BitVec 64)) (k:Int),0<=k->k+m<=w->VSt w ⟨s0,s1⟩ ->
  VSt w ⟨(Qbb a b one two both m s0 s1 k).1,(Qbb a b one two both m s0 s1 k).2⟩/\∀ x,Qas ⟨(Qbb a b one two both m s0 s1 k).1,(Qbb a b one two both m s0 s1 k).2⟩ x=(Qas ⟨s0,s1⟩ x || (decide (k<=x) && decide (x < k+m) && QuI a b one two both x))
 | 0,s0,s1,k,h0,h1,h=>⟨h,fun x=>by
   have:(decide (k<=x) && decide (x < k+((0:Nat):Int)))=false:=by rw [Bool.eq_false_iff]; simp; try omega
   rw [this]; simp [Qbb]⟩
 | m+1,s0,s1,k,h0,h1,h=>by
  rw [Qo1]
  cases hs:QuI a b one two both k with
  | true=>
   simp only [cond_true]
   have hp:=QoD h (b:=k) (by omega)
   obtain ⟨i1,i2⟩:=Qju (a:=a) (b:=b) (one:=one) (two:=two) (both:=both) m (QbC ⟨s0,s1⟩ k).Width (QbC ⟨s0,s1⟩ k).Words (k+1) (by omega) (by omega) hp
   refine ⟨i1,fun x=>?_⟩
   rw [i2,show (⟨(QbC ⟨s0,s1⟩ k).Width,(QbC ⟨s0,s1⟩ k).Words⟩:Qaf)=QbC ⟨s0,s1⟩ k from rfl,Qo4 h (by omega)]
   by_cases e:x=k
   ·subst e
    have q:(decide (x<=x) && decide (x < x+((m+1:Nat):Int)))=true:=by simp; omega
    rw [q,hs]; simp
   ·have e1:(x == k)=false:=by rw [beq_eq_false_iff_ne]; exact e
    have e2:(decide (k+1<=x) && decide (x < k+1+(m:Int)))=(decide (k<=x) && decide (x < k+((m+1:Nat):Int))):=by
     rw [Bool.eq_iff_iff]; simp; omega
    rw [e1,e2,Bool.or_false]
  | false=>
   simp only [cond_false]
   obtain ⟨i1,i2⟩:=Qju (a:=a) (b:=b) (one:=one) (two:=two) (both:=both) m s0 s1 (k+1) (by omega) (by omega) h
   refine ⟨i1,fun x=>?_⟩
   rw [i2]
   by_cases e:x=k
   ·subst e
    simp [hs]
   ·have e2:(decide (k+1<=x) && decide (x < k+1+(m:Int)))=(decide (k<=x) && decide (x < k+((m+1:Nat):Int))):=by
     rw [Bool.eq_iff_iff]; simp; omega
    rw [e2]
theorem QsO {w:Int} {a b:Qaf} {one two both:Bool} (ha:VSt w a) (hb:VSt w b):∃ g,Qif a b one two both=(g,0)/\VSt w g/\∀ x,Qas g x=QuI a b one two both x:=by
 have a1:=Qi6 ha; have b1:=Qi6 hb
 have hs:=Qju (w:=w) (a:=a) (b:=b) (one:=one) (two:=two) (both:=both) w.toNat (QaD w).Width (QaD w).Words 0 (by omega) (by omega) (QkC a1.1 a1.2.1)
 refine ⟨_,?_,hs.1,fun x=>?_⟩
 ·unfold Qif
  have e:(a.Width != b.Width)=false:=by rw [a1.2.2.1,b1.2.2.1]; simp
  simp only [Qip ha,Qip hb,e,Bool.not_true,cond_false]
  rw [a1.2.2.1,show ((w:Int) - 0).toNat=w.toNat by omega]
 ·rw [hs.2,show (⟨(QaD w).Width,(QaD w).Words⟩:Qaf)=QaD w from rfl,QoG a1.1 a1.2.1]
  by_cases hx:0<=x/\x < w
  ·rw [decide_eq_true hx.1,decide_eq_true (show x < 0+(w.toNat:Int) by omega)]; simp
  ·have:(decide (0<=x) && decide (x < 0+(w.toNat:Int)))=false:=by simp; omega
   rw [this]
   unfold QuI
   rw [QrZ ha hx,QrZ hb hx]; rfl
theorem Qi1 {w:Int} {a b:Qaf} (ha:VSt w a) (hb:VSt w b):∃ g,Qfu a b=(g,0)/\VSt w g/\∀ x,Qas g x=(Qas a x || Qas b x):=by
 obtain ⟨g,e,h1,h2⟩:=QsO (one:=true) (two:=true) (both:=true) ha hb
 refine ⟨g,?_,h1,fun x=>?_⟩
 ·unfold Qfu; simp only [e]
 ·rw [h2]; unfold QuI; cases Qas a x <;> cases Qas b x <;> rfl
theorem QvS {w:Int} {a b:Qaf} (ha:VSt w a) (hb:VSt w b):VSt w (Qg3 a b):=by
 obtain ⟨g,e,h1,h2⟩:=Qi1 ha hb
 unfold Qg3; simp only [e]; exact h1
theorem QsC {w:Int} {a b:Qaf} (ha:VSt w a) (hb:VSt w b) (x:Int):Qas (Qg3 a b) x=(Qas a x || Qas b x):=by
 obtain ⟨g,e,h1,h2⟩:=Qi1 ha hb
 unfold Qg3; simp only [e]; exact h2 x
def Fv (s:Qab) (v:List Qaf):List Qaf:=(List.range s.Boundary.length).map fun i:Nat=>QcI s v (i:Int)
theorem Qwr (s:Qab) (v:List Qaf):(Fv s v).length=s.Boundary.length:=by simp [Fv]
theorem Qv4 (s:Qab) (v:List Qaf) {n:Int} (h0:0<=n) (h1:n < (s.Boundary.length:Int)):vat (Fv s v) n=QcI s v n:=by
 unfold vat Fv
 rw [List.getD_eq_getElem?_getD,List.getElem?_map,List.getElem?_range (by omega)]
 simp only [Option.map_some,Option.getD_some]
 rw [Int.toNat_of_nonneg h0]
structure QrU (s:Qab) (u:List Qaf):Prop where
 v:QdU s u
 fix:Fv s u=u
 least:∀ z,QdU s z->Le s (Fv s z) z->Le s u z
theorem Qqc {s:Qab} {u v:List Qaf} (hu:QrU s u) (hv:QrU s v):u=v:=
 QpI hu.v hv.v (hu.least v hv.v (by rw [hv.fix]; exact Qrd _ _)) (hv.least u hu.v (by rw [hu.fix]; exact Qrd _ _))
theorem QhZ {s:Qab} (hv:QcT s) {v:List Qaf} (hvv:QdU s v) {n:Int} (h0:0<=n) (h1:n < (s.Deps.length:Int)):∀ (m:Nat) (o0:Int) (o1:List (BitVec 64)) (i:Int),0<=i->i+m=((deps s n).length:Int)->VSt s.Width ⟨o0,o1⟩ ->
  VSt s.Width ⟨(QbM s v n m o0 o1 i).1,(QbM s v n m o0 o1 i).2⟩/\∀ x,Qas ⟨(QbM s v n m o0 o1 i).1,(QbM s v n m o0 o1 i).2⟩ x=true↔Qas ⟨o0,o1⟩ x=true\/∃ j:Int,i<=j/\j < i+m/\Qas (app (s.Transfers.getD ((deps s n).getD j.toNat 0).toNat default) (v.getD ((deps s n).getD j.toNat 0).toNat default)) x=true
 | 0,o0,o1,i,a,b,h=>⟨h,fun x=>by
   constructor
   ·intro h; exact .inl h
   ·rintro (h | ⟨c,c1,c2,_⟩)
    ·exact h
    ·omega⟩
 | m+1,o0,o1,i,a,b,h=>by
  rw [QbM]
  have hm:=hv.dep_mem h0 h1 _ (QaA (xs:=deps s n) (i:=i.toNat) (d:=0) (by omega))
  have hap:=QxZ (QnJ hv hm.1 hm.2) (Qfr hvv hm.1 (by have:=hv.bl; omega))
  have hj:=QvS h hap
  obtain ⟨i1,i2⟩:=QhZ hv hvv h0 h1 m (Qg3 ⟨o0,o1⟩ (app (s.Transfers.getD ((deps s n).getD i.toNat 0).toNat default) (v.getD ((deps s n).getD i.toNat 0).toNat default))).Width (Qg3 ⟨o0,o1⟩ (app (s.Transfers.getD ((deps s n).getD i.toNat 0).toNat default) (v.getD ((deps s n).getD i.toNat 0).toNat default))).Words (i+1) (by omega) (by omega) hj
  refine ⟨i1,fun x=>(i2 x).trans ?_⟩
  rw [show ∀ g:Qaf,(⟨g.Width,g.Words⟩:Qaf)=g from fun _=>rfl,QsC h hap,Bool.or_eq_true]
  constructor
  ·rintro ((h | h) | ⟨j,j1,j2,j3⟩)
   ·exact .inl h
   ·exact .inr ⟨i,by omega,by omega,h⟩
   ·exact .inr ⟨j,by omega,by omega,j3⟩
  ·rintro (h | ⟨j,j1,j2,j3⟩)
   ·exact .inl (.inl h)
   ·by_cases e:j=i
    ·subst e; exact .inl (.inr j3)
    ·exact .inr ⟨j,by omega,by omega,j3⟩
theorem QuO {s:Qab} (hv:QcT s) {v:List Qaf} (hvv:QdU s v) {n:Int} (h0:0<=n) (h1:n < (s.Deps.length:Int)):VSt s.Width (QcI s v n):=
 (QhZ hv hvv h0 h1 ((((((s.Deps.getD (n:Int).toNat []).length:Nat):Int):Int) - 0).toNat) ((s.Boundary.getD (n:Int).toNat default).Width) ((s.Boundary.getD (n:Int).toNat default).Words) 0 (by omega) (by unfold deps; omega) (Qn1 hv h0 h1)).1
theorem QlK {s:Qab} (hv:QcT s) {v:List Qaf} (hvv:QdU s v) {n:Int} (h0:0<=n) (h1:n < (s.Deps.length:Int)) (x:Int):Qas (QcI s v n) x=true↔Qas (Bd s n) x=true\/∃ m∈deps s n,Qas (app (Tr s m) (vat v m)) x=true:=by
 refine ((QhZ hv hvv h0 h1 ((((((s.Deps.getD (n:Int).toNat []).length:Nat):Int):Int) - 0).toNat) ((s.Boundary.getD (n:Int).toNat default).Width) ((s.Boundary.getD (n:Int).toNat default).Words) 0 (by omega) (by unfold deps; omega) (Qn1 hv h0 h1)).2 x).trans ?_
 rw [show ∀ g:Qaf,(⟨g.Width,g.Words⟩:Qaf)=g from fun _=>rfl]
 constructor
 ·rintro (h | ⟨j,j1,j2,j3⟩)
  ·exact .inl h
  ·exact .inr ⟨_,QaA (by unfold deps; omega),j3⟩
 ·rintro (h | ⟨m,hm,h⟩)
  ·exact .inl h
  ·obtain ⟨j,j0,j1,rfl⟩:=QfZ.1 hm
   exact .inr ⟨j,j0,by unfold deps at j1; omega,h⟩
theorem QAr {s:Qab} (hv:QcT s) {v:List Qaf} (hvv:QdU s v):QdU s (Fv s v):=by
 refine ⟨Qwr s v,fun g hg=>?_⟩
 unfold Fv at hg
 simp only [List.mem_map,List.mem_range] at hg
 obtain ⟨i,hi,rfl⟩:=hg
 exact QuO hv hvv (by omega) (by have:=hv.bl; omega)
theorem Qql {s:Qab} (hv:QcT s) {v u:List Qaf} (h1:QdU s v) (h2:QdU s u) (h:Le s v u) {n:Int} (n0:0<=n) (n1:n < (s.Deps.length:Int)):QqU (QcI s v n) (QcI s u n):=fun x hx=>by
 rcases (QlK hv h1 n0 n1 x).1 hx with hx | ⟨m,hm,hx⟩
 ·exact (QlK hv h2 n0 n1 x).2 (.inl hx)
 ·have md:=hv.dep_mem n0 n1 m hm
  have hb:=hv.bl
  exact (QlK hv h2 n0 n1 x).2 (.inr ⟨m,hm,QsI (QnJ hv md.1 md.2) (Qfr h1 md.1 (by omega)) (Qfr h2 md.1 (by omega)) (h m md.1 (by omega)) x hx⟩)
theorem Qno {s:Qab} (hv:QcT s) {v u:List Qaf} (h1:QdU s v) (h2:QdU s u) (h:Le s v u):Le s (Fv s v) (Fv s u):=fun n n0 n1=>by
 rw [Qv4 s v n0 n1,Qv4 s u n0 n1]; exact Qql hv h1 h2 h n0 (by have:=hv.bl; omega)
theorem QkN {s:Qab} (hv:QcT s) {v:List Qaf} (hvv:QdU s v):∀ (m:Nat) (o:List Qaf) (n:Int),0<=n->n+m=(s.Boundary.length:Int)->Qdi s v m o n=.brk (o++(List.range' n.toNat m).map fun i:Nat=>QcI s v (i:Int))
 | 0,o,n,h0,h1=>by simp [Qdi]
 | m+1,o,n,h0,h1=>by
  rw [Qdi]
  have e:Qeq s v n=(QcI s v n,0):=by
   unfold Qeq
   simp only [(QcD s).2 hv,QsB hvv,decide_eq_false (show ¬ n < 0 by omega),decide_eq_false (show ¬ ((s.Boundary.length:Nat):Int)<=n by omega)]
   rfl
  rw [e]
  simp only [bne_self_eq_false,cond_false]
  rw [QkN hv hvv m _ (n+1) (by omega) (by omega),List.range'_succ,show (n+1).toNat=n.toNat+1 by omega]
  simp [Int.toNat_of_nonneg h0]
theorem QuL {s:Qab} (hv:QcT s) {v:List Qaf} (hvv:QdU s v):QhE s v=(Fv s v,0):=by
 have hn:=hv.n; have hb:=hv.bl
 unfold QhE
 rw [show ((((max ((s.Boundary.length:Nat):Int) 1):Int) - 0).toNat)=s.Boundary.length by omega,QkN hv hvv _ _ _ (by omega) (by omega)]
 simp only [List.nil_append,Fv,List.range_eq_range',Int.toNat_zero]
theorem QjP (a b:Qaf):QeC a b=true↔a=b:=by
 obtain ⟨wa,la⟩:=a; obtain ⟨wb,lb⟩:=b
 have sc:=Qst (fun r i=>QdS ⟨wa,la⟩ ⟨wb,lb⟩ r i) (fun i=>la.getD i.toNat 0#64 != lb.getD i.toNat 0#64) false () (fun _=>rfl) (fun _ _=>rfl) ((((la.length:Nat):Int) - 0).toNat) 0
 unfold QeC
 by_cases h1:wa=wb
 case neg=>simp [h1]
 by_cases h2:la.length=lb.length
 case neg=>
  have:(((la.length:Nat):Int) != ((lb.length:Nat):Int))=true:=by simp; omega
  simp only [h1,bne_self_eq_false,this,cond_true,cond_false]
  constructor
  ·intro h; cases h
  ·intro h; exact absurd (by cases h; rfl) h2
 have e2:(((la.length:Nat):Int) != ((lb.length:Nat):Int))=false:=by simp [h2]
 simp only [h1,bne_self_eq_false,e2,cond_false]
 subst h1
 rcases sc with ⟨e,j,j1,j2,j3⟩ | ⟨e,h⟩
 ·rw [e]
  constructor
  ·intro h; cases h
  ·intro h; cases h; simp at j3
 ·rw [e]
  constructor
  ·intro _
   have:la=lb:=by
    apply List.ext_getElem h2
    intro i i1 i2
    have:=h (i:Int) (by omega) (by omega)
    simpa [List.getD,List.getElem?_eq_getElem i1,List.getElem?_eq_getElem i2] using this
   rw [this]
  ·intro _; rfl
theorem Qro (a:Qaf):QeC a a=true:=(QjP a a).2 rfl
theorem Qin (a b:List Qaf):Qck a b=true↔a=b:=by
 have sc:=Qst (fun r i=>Qch a b r i) (fun i=>!(QeC (a.getD i.toNat default) (b.getD i.toNat default))) false () (fun _=>rfl) (fun _ _=>rfl) ((((a.length:Nat):Int) - 0).toNat) 0
 unfold Qck
 by_cases h2:a.length=b.length
 case neg=>
  have:(((a.length:Nat):Int) != ((b.length:Nat):Int))=true:=by simp; omega
  simp only [this,cond_true]
  constructor
  ·intro h; cases h
  ·intro h; exact absurd (by rw [h]) h2
 have e2:(((a.length:Nat):Int) != ((b.length:Nat):Int))=false:=by simp [h2]
 simp only [e2,cond_false]
 rcases sc with ⟨e,j,j1,j2,j3⟩ | ⟨e,h⟩
 ·rw [e]
  constructor
  ·intro h; cases h
  ·intro h; subst h; rw [Qro] at j3; cases j3
 ·rw [e]
  constructor
  ·intro _
   apply List.ext_getElem h2
   intro i i1 i2
   have:=h (i:Int) (by omega) (by omega)
   rw [Bool.not_eq_false',QjP] at this
   simpa [List.getD,List.getElem?_eq_getElem i1,List.getElem?_eq_getElem i2] using this
  ·intro _; rfl
theorem QjI {s:Qab} (hv:QcT s):∀ (m:Nat) (v:List Qaf) (round:Int),QdU s v->Le s v (Fv s v)->s.Boundary.length*s.Width.toNat < cnt s.Boundary.length s.Width.toNat v+m ->
  ∃ u r,Qcf s m v round=.ret (u,r,0)/\QdU s u/\Fv s u=u/\∀ z,QdU s z->Le s (Fv s z) z->Le s v z->Le s u z
 | 0,v,round,h1,h2,h3=>by have:=QrF s.Boundary.length s.Width.toNat v; omega
 | m+1,v,round,h1,h2,h3=>by
  rw [Qcf,QuL hv h1]
  cases e:Qck (Fv s v) v with
  | true=>
   have e:=(Qin _ _).1 e
   exact ⟨v,round,rfl,h1,e,fun z _ _ h=>h⟩
  | false=>
   have hne:v≠Fv s v:=fun h=>by
    have:=(Qin (Fv s v) v).2 h.symm
    rw [this] at e; cases e
   have hF:=QAr hv h1
   have hlt:=QtG (n:=s.Boundary.length) (w:=s.Width.toNat) (fun i hi=>h2 i (by omega) (by omega)) (Qrs h1 hF h2 hne)
   obtain ⟨u,r,e1,e2,e3,e4⟩:=QjI hv m (Fv s v) (round+1) hF (Qno hv h1 hF h2) (by omega)
   exact ⟨u,r,e1,e2,e3,fun z hz hz2 hz3=>e4 z hz hz2 (QpD (Qno hv h1 hz hz3) hz2)⟩
theorem QlC {s:Qab} (hv:QcT s):∃ u r,Qcf s (s.Boundary.length*s.Width.toNat+2) (Qdr s) 0=.ret (u,r,0)/\QdU s u/\Fv s u=u/\∀ z,QdU s z->Le s (Fv s z) z->Le s u z:=by
 obtain ⟨u,r,e1,e2,e3,e4⟩:=QjI hv (s.Boundary.length*s.Width.toNat+2) (Qdr s) 0 (Qnn hv) (Qlm hv _) (by omega)
 exact ⟨u,r,e1,e2,e3,fun z h1 h2=>e4 z h1 h2 (Qlm hv z)⟩
theorem Qqy {s:Qab} {r:List Qaf} (h:Qbi s=true) (e:Qdr s=r):Qcf s (s.Boundary.length*s.Width.toNat+2) r 0≠.oof:=by
 subst e
 obtain ⟨u,r,e1,_⟩:=QlC ((QcD s).1 h)
 rw [e1]; intro h; cases h
theorem QmU {s:Qab} (hv:QcT s):∃ u r,QeT s=(u,r,0)/\QrU s u:=by
 obtain ⟨u,r,e1,e2,e3,e4⟩:=QlC hv
 refine ⟨u,r,?_,e2,e3,e4⟩
 unfold QeT
 simp only [(QcD s).2 hv,Bool.not_true,cond_false,e1]
theorem Qqj {s:Qab} {r:List Qaf×Int×Int} (h:QeT s=r) (hv:QcT s):r.1.length=s.Deps.length:=by
 obtain ⟨u,k,e,hl⟩:=QmU hv
 have:=hv.bl
 rw [<- h,e]
 have:=hl.1.1
 dsimp only
 omega
theorem Qnf (t:List Int) (k n:Int) (hn:n<=9223372036854775807):0<=(Qan t k n).1/\((Qan t k n).1 < n\/(Qan t k n).1=0):=by
 unfold Qan
 by_cases h1:n<=1
 ·simp [h1]
 ·by_cases h2:(t.length:Int)<=k
  ·simp [h1,h2]
  ·simp only [decide_eq_false h1,decide_eq_false h2,cond_false]
   have:=Qlw (t.getD (k+1 - 1).toNat 0) n (by omega)
   unfold Qq3
   exact ⟨this.1,.inl this.2⟩
theorem QnZ (t:List Int) (k n:Int) (h1:1<=n) (hn:n<=9223372036854775807):0<=(Qan t k n).1/\(Qan t k n).1 < n:=by
 have:=Qnf t k n hn; omega
theorem Qj7 (l:List Int) (i:Int):0<=(QaT l i).1/\(QaT l i).1<=8:=by
 unfold QaT
 exact QiJ (p:=fun x:Int=>0<=x/\x<=8) (by decide) (by decide) _
theorem QsF (l:List Int) (i:Int):Qaa (QaT l i).1:=by
 have:=Qj7 l i; unfold Qaa; omega
theorem Qje (l:List Int) (n:Int):∀ (m:Nat) (i:Int),0<=i->i+m=(l.length:Int)->(∀ j:Int,0<=j->j < i->l.getD j.toNat 0 < n) ->
  i<=Qbv l n m i/\Qbv l n m i<=(l.length:Int)/\(∀ j:Int,0<=j->j < Qbv l n m i->l.getD j.toNat 0 < n)/\(Qbv l n m i < (l.length:Int)->n<=l.getD (Qbv l n m i).toNat 0)
 | 0,i,hi,hm,h=>by
  simp only [Qbv]
  exact ⟨by omega,by omega,h,fun h'=>by omega⟩
 | m+1,i,hi,hm,h=>by
  rw [Qbv]
  by_cases hlt:l.getD i.toNat 0 < n
  ·simp only [decide_eq_true hlt,cond_true]
   have:=Qje l n m (i+1) (by omega) (by omega) (fun j j0 j1=>by
    rcases Int.lt_or_eq_of_le (show j<=i by omega) with h' | rfl
    ·exact h j j0 h'
    ·exact hlt)
   exact ⟨by omega,this.2.1,this.2.2⟩
  ·simp only [decide_eq_false hlt,cond_false]
   exact ⟨by omega,by omega,h,fun _=>by omega⟩
theorem QjB (l:List Int) (n:Int):Qc9 l n=l/\n∈l\/∃ q:Nat,q<=l.length/\Qc9 l n=l.take q++[n]++l.drop q/\(∀ j:Nat,j < q->l.getD j 0 < n)/\(q < l.length->n < l.getD q 0):=by
 have hs:=Qje l n ((((l.length:Nat):Int) - 0).toNat) 0 (by omega) (by omega) (fun j h1 h2=>by omega)
 unfold Qc9
 simp only
 generalize Qbv l n ((((l.length:Nat):Int) - 0).toNat) 0=q at hs
 obtain ⟨h0,h1,h2,h3⟩:=hs
 have e:((((l.take ((q:Int).toNat)).drop 0))++[n])++((l.take l.length).drop ((q:Int).toNat))=l.take q.toNat++[n]++l.drop q.toNat:=by simp
 rw [e]
 by_cases hq:q < (l.length:Int)
 ·simp only [decide_eq_true hq,cond_true]
  by_cases hn:l.getD q.toNat 0=n
  ·have hb:(l.getD q.toNat 0 == n)=true:=by rw [hn]; simp
   rw [hb]
   exact .inl ⟨rfl,hn ▸ QaA (by omega)⟩
  ·have hb:(l.getD q.toNat 0 == n)=false:=by rw [beq_eq_false_iff_ne]; exact hn
   rw [hb]
   have:=h3 hq
   exact .inr ⟨q.toNat,by omega,rfl,fun j hj=>by have:=h2 (j:Int) (by omega) (by omega); simpa [-List.getD_eq_getElem?_getD] using this,fun _=>by omega⟩
 ·simp only [decide_eq_false hq,cond_false]
  exact .inr ⟨q.toNat,by omega,rfl,fun j hj=>by have:=h2 (j:Int) (by omega) (by omega); simpa [-List.getD_eq_getElem?_getD] using this,fun h=>by omega⟩
theorem Qqt (l:List Int) (n x:Int):x∈Qc9 l n↔x∈l\/x=n:=by
 rcases QjB l n with ⟨e,h⟩ | ⟨q,_,e,_,_⟩
 ·rw [e]
  exact ⟨.inl,fun h'=>h'.elim id (fun e=>e ▸ h)⟩
 ·rw [e]
  have hm:x∈l↔x∈l.take q\/x∈l.drop q:=by
   have:=List.mem_append (a:=x) (s:=l.take q) (t:=l.drop q)
   rw [List.take_append_drop] at this; exact this
  rw [hm]
  simp only [List.mem_append,List.mem_singleton]
  constructor
  ·rintro ((h | h) | h)
   ·exact .inl (.inl h)
   ·exact .inr h
   ·exact .inl (.inr h)
  ·rintro ((h | h) | h)
   ·exact .inl (.inl h)
   ·exact .inr h
   ·exact .inl (.inr h)
theorem QoX {l:List Int} {n x:Int} (h:QtX l n) (hx:0<=x/\x < n):QtX (Qc9 l x) n/\(Qc9 l x).length<=l.length+1:=by
 refine ⟨⟨fun y hy=>?_,?_⟩,?_⟩
 ·rcases (Qqt l x y).1 hy with h' | rfl
  ·exact h.1 y h'
  ·exact hx
 ·rcases QjB l x with ⟨e,_⟩ | ⟨q,hq,e,h1,h2⟩
  ·rw [e]; exact h.2
  ·rw [e,List.pairwise_append,List.pairwise_append]
   refine ⟨⟨h.2.sublist (List.take_sublist q l),by simp,fun a ha b hb=>?_⟩,h.2.sublist (List.drop_sublist q l),fun a ha b hb=>?_⟩
   ·rw [List.mem_singleton] at hb; subst hb
    obtain ⟨j,hj,rfl⟩:=List.mem_iff_getElem.1 ha
    rw [List.length_take] at hj
    have:=h1 j (by omega)
    rw [Qfl (by omega)] at this
    simpa using this
   ·have hbx:x < b:=by
     obtain ⟨j,hj,rfl⟩:=List.mem_iff_getElem.1 hb
     simp at hj
     have h3:=h2 (by omega)
     rw [Qfl (by omega)] at h3
     rw [List.getElem_drop]
     rcases Nat.eq_zero_or_pos j with rfl | hj0
     ·simpa using h3
     ·have:=List.pairwise_iff_getElem.1 h.2 q (q+j) (by omega) (by omega) (by omega)
      omega
    rcases List.mem_append.1 ha with ha | ha
    ·have hax:a < x:=by
      obtain ⟨j,hj,rfl⟩:=List.mem_iff_getElem.1 ha
      rw [List.length_take] at hj
      have:=h1 j (by omega)
      rw [Qfl (by omega)] at this
      simpa using this
     omega
    ·simp at ha; omega
 ·rcases QjB l x with ⟨e,_⟩ | ⟨q,hq,e,_,_⟩
  ·rw [e]; omega
  ·rw [e]; simp; omega
theorem Qnb {t:List Int} {w:Int}:∀ (m:Nat) (k:Int) (s0:Int) (s1:List (BitVec 64)) (b:Int),0<=b->b+m<=w->VSt w ⟨s0,s1⟩->VSt w ⟨(Qd7 t m k s0 s1 b).2.1,(Qd7 t m k s0 s1 b).2.2⟩
 | 0,k,s0,s1,b,_,_,h=>h
 | m+1,k,s0,s1,b,hb,hm,h=>by
  rw [Qd7]
  cases (Qan t k 3).1 == 1 with
  | true=>exact Qnb m _ _ _ (b+1) (by omega) (by omega) (QoD h ⟨hb,by omega⟩)
  | false=>exact Qnb m _ _ _ (b+1) (by omega) (by omega) h
theorem QzD (t:List Int) (k:Int) {w:Int} (h0:0<=w) (h1:w<=256):VSt w (QmP t k w).1:=by
 unfold QmP
 exact Qnb _ _ _ _ _ (by omega) (by omega) (QkC h0 h1)
theorem QeS {t:List Int} {w:Int}:∀ (m:Nat) (k:Int) (f0:Int) (f1:List (BitVec 64)) (f2:Int) (f3:List (BitVec 64)) (b:Int),0<=b->b+m<=w->VSt w ⟨f0,f1⟩->VSt w ⟨f2,f3⟩ ->
  VSt w ⟨(QaL t m k f0 f1 f2 f3 b).2.1,(QaL t m k f0 f1 f2 f3 b).2.2.1⟩/\VSt w ⟨(QaL t m k f0 f1 f2 f3 b).2.2.2.1,(QaL t m k f0 f1 f2 f3 b).2.2.2.2⟩
 | 0,k,f0,f1,f2,f3,b,_,_,h,h'=>⟨h,h'⟩
 | m+1,k,f0,f1,f2,f3,b,hb,hm,h,h'=>by
  rw [QaL]
  cases (Qan t k 6).1 == 1 with
  | true=>exact QeS m _ _ _ _ _ (b+1) (by omega) (by omega) (QoD h ⟨hb,by omega⟩) h'
  | false=>
   cases (Qan t k 6).1 == 2 with
   | true=>exact QeS m _ _ _ _ _ (b+1) (by omega) (by omega) h (QoD h' ⟨hb,by omega⟩)
   | false=>
    cases (Qan t k 6).1 == 3 with
    | true=>exact QeS m _ _ _ _ _ (b+1) (by omega) (by omega) h (QoD h' ⟨hb,by omega⟩)
    | false=>exact QeS m _ _ _ _ _ (b+1) (by omega) (by omega) h h'
theorem QhM {t:List Int} {w a:Int} (ha:0<=a/\a < w):∀ (m:Nat) (k:Int) (l:List QaB) (b:Int),0<=b->b+m<=w->Qsq w l a b->Qsq w (QbF t w a m k l b).2 (a+1) 0
 | 0,k,l,b,_,_,h=>h.next (.inl (by omega))
 | m+1,k,l,b,hb,hm,h=>by
  rw [QbF]
  by_cases hl:(l.length:Int) < 12
  ·simp only [decide_eq_true hl,cond_true]
   cases (Qan t k (2*w)).1 == 1 with
   | true=>exact QhM ha m _ _ (b+1) (by omega) (by omega) (h.push (by omega) ha ⟨hb,by omega⟩)
   | false=>exact QhM ha m _ _ (b+1) (by omega) (by omega) (h.next (.inr ⟨rfl,by omega⟩))
  ·simp only [decide_eq_false hl,cond_false]
   exact h.next (.inl (by omega))
theorem QjK {t:List Int} {w:Int}:∀ (m:Nat) (k:Int) (l:List QaB) (a:Int),0<=a->a+m<=w->Qsq w l a 0->∃ a',Qsq w (Qcd t w m k l a).2 a' 0
 | 0,k,l,a,_,_,h=>⟨a,h⟩
 | m+1,k,l,a,ha,hm,h=>by
  rw [Qcd]
  exact QjK m _ _ (a+1) (by omega) (by omega) (QhM ⟨ha,by omega⟩ _ _ _ _ (by omega) (by omega) h)
theorem Qm3 (t:List Int) (k:Int) {w:Int} (h0:0<=w) (h1:w<=256):VTr w (Qed t k w).1:=by
 unfold Qed
 simp only
 have hE:=QkC h0 h1
 have a:=QeS (t:=t) (w:=w) ((w:Int) - 0).toNat k _ _ _ _ 0 (by omega) (by omega) hE hE
 obtain ⟨a',b⟩:=QjK (t:=t) (w:=w) ((w:Int) - 0).toNat (QaL t ((w:Int) - 0).toNat k (QaD w).Width (QaD w).Words (QaD w).Width (QaD w).Words 0).1 [] 0 (by omega) (by omega) ⟨by simp,by simp,by simp⟩
 refine ⟨Qk4 a.1.1 a.2.1 (a.1.2.trans a.2.2.symm) (by have:=b.1; simp only; omega) (fun c hc=>?_) b.2.2,a.1.2⟩
 have:=b.2.1 c hc
 have hw:=a.1.2.symm
 exact ⟨⟨this.1.1,hw ▸ this.1.2⟩,this.2.1.1,hw ▸ this.2.1.2⟩
theorem QlB {t:List Int} {n:Int} (hn:1<=n/\n<=9223372036854775807):∀ (m:Nat) (k:Int) (d:List Int) (q:Int),QtX d n->QtX (QbT t n m k d q).2 n/\(QbT t n m k d q).2.length<=d.length+m
 | 0,k,d,q,h=>⟨h,by simp [QbT]⟩
 | m+1,k,d,q,h=>by
  rw [QbT]
  have hi:=QoX h (QnZ t k n hn.1 hn.2)
  have:=QlB (t:=t) hn m (Qan t k n).2 _ (q - 1) hi.1
  exact ⟨this.1,by have:=this.2; have:=hi.2; omega⟩
theorem QhG {t:List Int} {w n:Int} (hw:0<=w/\w<=256) (hn:1<=n/\n<=9223372036854775807):∀ (m:Nat) (k:Int) (s1:List (List Int)) (s2:List Qad) (s3:List Qaf) (i:Int),QyK w n s1 s2 s3 i ->
  QyK w n (Qbr t n w m k s1 s2 s3 i).2.1 (Qbr t n w m k s1 s2 s3 i).2.2.1 (Qbr t n w m k s1 s2 s3 i).2.2.2 (i+m)
 | 0,k,s1,s2,s3,i,h=>by simpa [Qbr] using h
 | m+1,k,s1,s2,s3,i,h=>by
  rw [Qbr]
  simp only
  have h4:=QnZ t k 4 (by omega) (by omega)
  have hd:=QlB hn (Qan t k 4).1.toNat (Qan t k 4).2 [] (Qan t k 4).1 ⟨by simp,by simp⟩ (t:=t)
  have add:∀ {x:List Int} {y:Qad} {z:Qaf},(QtX x n/\x.length<=3)->VTr w y->VSt w z->QyK w n (s1++[x]) (s2++[y]) (s3++[z]) (i+1):=fun {x y z} hx hy hz=>
   ⟨by have:=h.l1; simp; omega,by have:=h.l2; simp; omega,by have:=h.l3; simp; omega,
    fun a ha=>(List.mem_append.1 ha).elim (h.d a) (fun e=>by simp at e; subst e; exact hx),
    fun a ha=>(List.mem_append.1 ha).elim (h.t a) (fun e=>by simp at e; subst e; exact hy),
    fun a ha=>(List.mem_append.1 ha).elim (h.b a) (fun e=>by simp at e; subst e; exact hz)⟩
  have hd2:(QbT t n (Qan t k 4).1.toNat (Qan t k 4).2 [] (Qan t k 4).1).2.length<=3:=by
   have:=hd.2
   simp only [List.length_nil] at this
   omega
  have e:(i+((m+1:Nat):Int))=(i+1)+m:=by omega
  rw [e]
  cases (Qan t (QbT t n (Qan t k 4).1.toNat (Qan t k 4).2 [] (Qan t k 4).1).1 3).1 == 1 with
  | true=>exact QhG hw hn m _ _ _ _ (i+1) (add ⟨hd.1,hd2⟩ (Qm3 t _ hw.1 hw.2) (QzD t _ hw.1 hw.2))
  | false=>exact QhG hw hn m _ _ _ _ (i+1) (add ⟨hd.1,hd2⟩ (Qm3 t _ hw.1 hw.2) (QkC hw.1 hw.2))
theorem QoK (t:List Int) (k:Int) {n:Int} (hn:0<=n/\n<=250):((QbZ t k n).1.Deps.length:Int)<=max n 1/\(QbZ t k n).1.Width<=4/\∀ x∈(QbZ t k n).1.Deps,x.length<=3:=by
 unfold QbZ
 simp only
 have hw:=QnZ t k 7 (by omega) (by omega)
 have hw2:=Qj7 t k
 have hr:=Qnf t (QaT t k).2 n (by omega)
 have hN:1<=1+(Qan t (QaT t k).2 n).1/\1+(Qan t (QaT t k).2 n).1<=251:=by omega
 have hW:0<=(QaT t k).1 % 5/\(QaT t k).1 % 5<=4:=by omega
 have hL:=QhG (t:=t) (w:=(QaT t k).1 % 5) (n:=1+(Qan t (QaT t k).2 n).1) (by omega) (by omega) ((1+(Qan t (QaT t k).2 n).1) - 0).toNat (Qan t (QaT t k).2 n).2 [] [] [] 0 ⟨by simp,by simp,by simp,by simp,by simp,by simp⟩
 have e:(0:Int)+(((1+(Qan t (QaT t k).2 n).1) - 0).toNat:Int)=1+(Qan t (QaT t k).2 n).1:=by omega
 rw [e] at hL
 generalize Qbr t (1+(Qan t (QaT t k).2 n).1) ((QaT t k).1 % 5) ((1+(Qan t (QaT t k).2 n).1) - 0).toNat (Qan t (QaT t k).2 n).2 [] [] [] 0=R at hL ⊢
 obtain ⟨r0,r1,r2,r3⟩:=R
 simp only at hL ⊢
 obtain ⟨l1,l2,l3,d,tr,b⟩:=hL
 exact ⟨by omega,by omega,fun x hx=>(d x hx).2⟩
theorem Qta (t:List Int) (k:Int) {n:Int} (hn:0<=n/\n<=250):QcT (QbZ t k n).1:=by
 unfold QbZ
 simp only
 have hw:=QnZ t k 7 (by omega) (by omega)
 have hw2:=Qj7 t k
 have hr:=Qnf t (QaT t k).2 n (by omega)
 have hN:1<=1+(Qan t (QaT t k).2 n).1/\1+(Qan t (QaT t k).2 n).1<=251:=by omega
 have hW:0<=(QaT t k).1 % 5/\(QaT t k).1 % 5<=4:=by omega
 have hL:=QhG (t:=t) (w:=(QaT t k).1 % 5) (n:=1+(Qan t (QaT t k).2 n).1) (by omega) (by omega) ((1+(Qan t (QaT t k).2 n).1) - 0).toNat (Qan t (QaT t k).2 n).2 [] [] [] 0 ⟨by simp,by simp,by simp,by simp,by simp,by simp⟩
 have e:(0:Int)+(((1+(Qan t (QaT t k).2 n).1) - 0).toNat:Int)=1+(Qan t (QaT t k).2 n).1:=by omega
 rw [e] at hL
 generalize Qbr t (1+(Qan t (QaT t k).2 n).1) ((QaT t k).1 % 5) ((1+(Qan t (QaT t k).2 n).1) - 0).toNat (Qan t (QaT t k).2 n).2 [] [] [] 0=R at hL ⊢
 obtain ⟨r0,r1,r2,r3⟩:=R
 simp only at hL ⊢
 obtain ⟨l1,l2,l3,d,tr,b⟩:=hL
 refine ⟨by simp only; omega,by simp only; omega,by simp only; omega,by simp only; omega,fun j j0 j1=>?_,?_,tr,b⟩
 ·simp only at j1 ⊢
  rw [l1]
  exact Qr0 (d _ (QaA (by omega))).1
 ·refine Int.le_trans (QtM (b:=3) (fun x hx=>(d x hx).2) _ _) ?_
  simp only; omega
theorem Qoq {t:List Int} {k n:Int} {r:Qab×Int} (h:QbZ t k n=r) (hn:1<=n/\n<=12):QcT r.1/\r.1.Deps.length<=12/\r.1.Width<=4:=by
 subst h
 have:=QoK t k (n:=n) (by omega)
 exact ⟨Qta t k (by omega),by omega,this.2.1⟩
theorem Qod (l:List Int) (n:Int):Qdg l n=QbA l n:=by
 have:∀ m i,Qa9 l n m i=QaQ l n m i:=by
  intro m
  induction m with
  | zero=>intro i; rfl
  | succ m ih=>intro i; rw [Qa9,QaQ,ih]
 unfold Qdg QbA
 rw [this]
 all_goals (generalize QaQ l n (((l.length:Nat):Int) - 0).toNat 0=r; cases r <;> rfl)
theorem Qm0 {w:Int} (h:QdL w=true):0<=w/\w<=256:=by
 unfold QdL at h
 simp [Bool.cond_eq_ite] at h; omega
theorem Qoe {w:Int} (h:0<=w/\w<=256) (k:Nat) (hk:k < 64):(QiM w).getLsbD k=decide ((w % 64).toNat<=k):=by
 unfold QiM
 have e:(((((BitVec.ofInt 64 w) % 64#64).toNat:Int)).toNat)=(w % 64).toNat:=by
  rw [BitVec.toNat_umod,BitVec.toNat_ofInt]
  simp; omega
 rw [e,BitVec.getLsbD_shiftLeft]
 have e2:(18446744073709551615#64)=BitVec.allOnes 64:=by decide
 rw [e2,BitVec.getLsbD_allOnes]
 rw [Bool.eq_iff_iff]
 simp [-Int.toNat_le]
 omega
theorem Qfn (s:Qaf):QaX s=true↔Qqm s:=by
 unfold QaX Qqm
 simp only [QdL,QfW,Bool.cond_eq_ite]
 by_cases h1:0<=s.Width
 ·by_cases h2:s.Width<=256
  ·by_cases h3:(s.Words.length:Int)=(s.Width+64 - 1) / 64
   ·by_cases h4:s.Width % 64=0
    ·simp only [h1,h2,h3,h4]
     simp
     refine ⟨by omega,fun b b1 b2=>by omega⟩
    ·simp only [h1,h2,decide_true,if_true,Bool.not_true,Bool.false_eq_true,if_false]
     have h3':((s.Words.length:Int) != (s.Width+64 - 1) / 64)=false:=by simp [h3]
     have h4':(s.Width % 64 == 0)=false:=by simp [h4]
     rw [h3',h4']
     simp only [Bool.false_eq_true,if_false]
     rw [beq_iff_eq]
     constructor
     ·intro h
      refine ⟨trivial,trivial,by omega,fun b b1 b2=>?_⟩
      have hq:(b / 64).toNat=((s.Words.length:Int) - 1).toNat:=by omega
      unfold Qho
      rw [hq]
      have:=congrArg (fun v:BitVec 64=>v.getLsbD (b % 64).toNat) h
      simp only [BitVec.getLsbD_and,BitVec.getLsbD_zero] at this
      rw [Qoe ⟨h1,h2⟩ _ (by omega)] at this
      have hle:(s.Width % 64).toNat<=(b % 64).toNat:=by omega
      simpa [hle] using this
     ·rintro ⟨_,_,hl,h⟩
      apply BitVec.eq_of_getLsbD_eq
      intro k hk
      rw [BitVec.getLsbD_and,Qoe ⟨h1,h2⟩ _ hk,BitVec.getLsbD_zero]
      by_cases hle:(s.Width % 64).toNat<=k
      ·have:=h (64*((s.Words.length:Int) - 1)+k) (by omega) (by omega)
       unfold Qho at this
       rw [show ((64*((s.Words.length:Int) - 1)+k) / 64).toNat=((s.Words.length:Int) - 1).toNat by omega,show ((64*((s.Words.length:Int) - 1)+k) % 64).toNat=k by omega] at this
       rw [this]; rfl
      ·simp [hle]
   ·have h3':((s.Words.length:Int) != (s.Width+64 - 1) / 64)=true:=by simp [h3]
    simp only [h1,h2,decide_true,if_true,Bool.not_true,Bool.false_eq_true,if_false,h3']
    constructor
    ·intro h; cases h
    ·rintro ⟨_,_,h,_⟩; omega
  ·simp [h1,h2]
 ·simp [h1]
theorem QeA (s:Qaf):QaX s=Qbd s:=by rw [Bool.eq_iff_iff,Qfn,QdR]
theorem Qt2 {s:Qaf} (h:QaX s=true):0<=s.Width/\s.Width<=256/\(s.Words.length:Int)=(s.Width+63) / 64:=by
 have:=(Qfn s).1 h; exact ⟨this.1,this.2.1,this.2.2.1⟩
theorem Qf3 {w:Int} {s:Qaf} (h:VSt w s):QaX s=true:=(Qfn s).2 h.1
theorem Qjm (s:List Qaf) (fp:Qaf->Bool):QaN s fp=true↔∃ x∈s,fp x=true:=by
 have:=QqR (fun r i=>Qbq s fp r i) (fun i=>fp (s.getD i.toNat default)) () (fun _=>rfl) (fun _ _=>rfl) ((((s.length:Nat):Int) - 0).toNat) 0
 unfold QaN Qc0
 rcases this with ⟨j,e,j1,j2,j3⟩ | ⟨e,h⟩
 ·rw [e]
  exact ⟨fun _=>⟨_,QaA (by omega),j3⟩,fun _=>by simpa using j1⟩
 ·rw [e]
  refine ⟨fun h=>by simp at h,?_⟩
  rintro ⟨x,hx,hf⟩
  obtain ⟨j,j1,j2,rfl⟩:=(QdK (d:=default)).1 hx
  rw [h j j1 (by omega)] at hf; cases hf
theorem Qne (w:Int) (l:List Qaf):Qg5 w l=true↔∀ b∈l,VSt w b:=by
 unfold Qg5
 have h:=Qjm l (fun x=>QdO x w)
 have h1:∀ x,QdO x w=false↔VSt w x:=by
  intro x
  unfold QdO VSt
  rw [<- Qfn]
  cases QaX x <;> simp
 constructor
 ·intro hh b hb
  cases hc:QaN l (fun x=>QdO x w) with
  | true=>simp only [hc] at hh; cases hh
  | false=>
   refine (h1 b).1 ?_
   cases e:QdO b w with
   | false=>rfl
   | true=>rw [h.2 ⟨b,hb,e⟩] at hc; cases hc
 ·intro hh
  cases hc:QaN l (fun x=>QdO x w) with
  | false=>rfl
  | true=>
   obtain ⟨x,hx,e⟩:=h.1 hc
   rw [(h1 x).2 (hh x hx)] at e; cases e
theorem QuZ {s:Qab} {v:List Qaf} (h:QdU s v):Qg5 s.Width v=true:=(Qne _ _).2 h.2
theorem Qqf (x y:Int):Qba x y=if x < y then -1 else if y < x then 1 else 0:=by
 simp [Qba,QdD,Bool.cond_eq_ite]
theorem Qwf (x y:Int):Qfh [x,y]=if x≠0 then x else y:=by
 have e:((((([x,y].length:Nat):Int):Int) - 0).toNat)=2:=rfl
 unfold Qfh
 rw [e]
 by_cases hx:x=0
 ·by_cases hy:y=0
  ·subst hx; subst hy; rfl
  ·subst hx
   have h:(y != 0)=true:=by simp [hy]
   simp [Qcx,h]
 ·have h:(x != 0)=true:=by simp [hx]
  simp [Qcx,h,hx]
theorem Qqz (a b:QaB):decide (0<=Qf7 a b) = !(Qc4 a b):=by
 unfold Qf7 Qc4
 simp only [Qwf,Qqf,Bool.cond_eq_ite]
 rw [Bool.eq_iff_iff]
 by_cases h1:a.From < b.From
 ·simp [h1]
 ·by_cases h2:b.From < a.From
  ·have:¬ a.From=b.From:=by omega
   simp [h1,h2,this]
  ·have:a.From=b.From:=by omega
   by_cases h3:a.To < b.To
   ·simp [this,h3]
   ·by_cases h4:b.To < a.To
    ·simp [this,h3,h4]
    ·simp [this,h3,h4]
theorem QoP (t:Qad):∀ m i,Qb1 t m i=Qao t m i:=by
 intro m
 induction m with
 | zero=>intro i; rfl
 | succ m ih=>
  intro i
  rw [Qb1,Qao]
  simp only [Qqz,ih,Qie,Bool.cond_eq_ite]
  generalize (t.Copies.getD i.toNat default).From=x
  generalize (t.Copies.getD i.toNat default).To=y
  by_cases h1:x < 0
  ·have:¬ 0<=x:=by omega
   simp [h1,this]
  ·by_cases h2:t.Gen.Width<=x
   ·have:¬ x < t.Gen.Width:=by omega
    simp [h1,h2,this]
   ·by_cases h3:y < 0
    ·have:¬ 0<=y:=by omega
     have h5:x < t.Gen.Width:=by omega
     have h6:0<=x:=by omega
     simp [h1,h2,h3,this,h5,h6]
    ·have h5:x < t.Gen.Width:=by omega
     have h6:0<=x:=by omega
     have h7:0<=y:=by omega
     by_cases h4:t.Gen.Width<=y
     ·have:¬ y < t.Gen.Width:=by omega
      simp [h1,h2,h3,h4,this,h5,h6,h7]
     ·have:y < t.Gen.Width:=by omega
      simp [h1,h2,h3,h4,this,h5,h6,h7]
theorem QdN (t:Qad):QcM t=Qal t:=by
 unfold QcM Qal
 simp only [QeA,QoP]
 all_goals (generalize Qao t (((((t.Copies.length:Nat):Int):Int) - 0).toNat) 0=r; cases r <;> rfl)
theorem Qms (s:List Qad) (fp:Qad->Bool):QaK s fp=true↔∃ x∈s,fp x=true:=by
 have:=QqR (fun r i=>QaW s fp r i) (fun i=>fp (s.getD i.toNat default)) () (fun _=>rfl) (fun _ _=>rfl) ((((s.length:Nat):Int) - 0).toNat) 0
 unfold QaK QbN
 rcases this with ⟨j,e,j1,j2,j3⟩ | ⟨e,h⟩
 ·rw [e]
  exact ⟨fun _=>⟨_,QaA (by omega),j3⟩,fun _=>by simpa using j1⟩
 ·rw [e]
  refine ⟨fun h=>by simp at h,?_⟩
  rintro ⟨x,hx,hf⟩
  obtain ⟨j,j1,j2,rfl⟩:=(QdK (d:=default)).1 hx
  rw [h j j1 (by omega)] at hf; cases hf
theorem Qu1 (s:Qab) (l:List Qad):(!(QaK l (fun x=>QcY x s)))=true↔∀ t∈l,VTr s.Width t:=by
 have h:=Qms l (fun x=>QcY x s)
 have h1:∀ x,QcY x s=false↔VTr s.Width x:=by
  intro x
  unfold QcY Qkv VTr
  rw [QdN]
  cases Qal x <;> simp
 constructor
 ·intro hh b hb
  cases hc:QaK l (fun x=>QcY x s) with
  | true=>simp only [hc] at hh; cases hh
  | false=>
   refine (h1 b).1 ?_
   cases e:QcY b s with
   | false=>rfl
   | true=>rw [h.2 ⟨b,hb,e⟩] at hc; cases hc
 ·intro hh
  cases hc:QaK l (fun x=>QcY x s) with
  | false=>rfl
  | true=>
   obtain ⟨x,hx,e⟩:=h.1 hc
   rw [(h1 x).2 (hh x hx)] at e; cases e
theorem QzS (s:Qab):∀ (m:Nat) (e i:Int),(QcK s m e i=.brk ()/\(∀ j,i<=j->j < i+m->QbA (s.Deps.getD j.toNat []) (s.Deps.length:Int)=true)/\(m=0\/e+tot s m i<=1024)) \/
  (QcK s m e i=.ret false/\¬ ((∀ j,i<=j->j < i+m->QbA (s.Deps.getD j.toNat []) (s.Deps.length:Int)=true)/\(m=0\/e+tot s m i<=1024)))
 | 0,e,i=>.inl ⟨rfl,fun j h1 h2=>by omega,.inl rfl⟩
 | m+1,e,i=>by
  rw [QcK]
  simp only [Bool.cond_eq_ite,Qod]
  have ht:=Qrx s m (i+1)
  have hq:tot s (m+1) i=((s.Deps.getD i.toNat []).length:Int)+tot s m (i+1):=rfl
  by_cases h1:1024 < e+((s.Deps.getD i.toNat []).length:Int)
  ·refine .inr ⟨by rw [decide_eq_true h1]; rfl,?_⟩
   rintro ⟨_,h⟩; omega
  ·rw [decide_eq_false h1]
   cases h2:QbA (s.Deps.getD i.toNat []) (s.Deps.length:Int) with
   | false=>
    refine .inr ⟨rfl,?_⟩
    rintro ⟨h,_⟩
    have:=h i (by omega) (by omega); rw [h2] at this; cases this
   | true=>
    rcases QzS s m (e+((s.Deps.getD i.toNat []).length:Int)) (i+1) with ⟨a,b,c⟩ | ⟨a,b⟩
    ·refine .inl ⟨a,fun j j1 j2=>?_,.inr ?_⟩
     ·rcases Int.lt_or_eq_of_le j1 with hlt | rfl
      ·exact b j (by omega) (by omega)
      ·exact h2
     ·rw [hq]
      rcases c with rfl | c
      ·simp only [tot]; omega
      ·omega
    ·refine .inr ⟨a,?_⟩
     rintro ⟨h,h'⟩
     exact b ⟨fun j j1 j2=>h j (by omega) (by omega),.inr (by omega)⟩
theorem Qdw (s:Qab):Qca s=true↔QcT s:=by
 unfold Qca
 simp only [Qg1,Bool.cond_eq_ite]
 by_cases h0:(0<=s.Width/\s.Width<=256)/\(1<=(s.Deps.length:Int)/\(s.Deps.length:Int)<=256)
 ·obtain ⟨⟨a,b⟩,c,d⟩:=h0
  simp only [a,b,c,d,decide_true,if_true,Bool.not_true,Bool.false_eq_true,if_false]
  by_cases h1:(s.Transfers.length:Int)=(s.Deps.length:Int)
  ·by_cases h2:(s.Boundary.length:Int)=(s.Deps.length:Int)
   ·have h1':((s.Transfers.length:Int) != (s.Deps.length:Int))=false:=by simp [h1]
    have h2':((s.Boundary.length:Int) != (s.Deps.length:Int))=false:=by simp [h2]
    simp only [h1',h2',Bool.false_eq_true,if_false]
    have hm:((((s.Deps.length:Nat):Int):Int) - 0).toNat=s.Deps.length:=by omega
    rw [hm]
    rcases QzS s s.Deps.length 0 0 with ⟨e,p,q⟩ | ⟨e,p⟩
    ·rw [e]
     simp only
     by_cases h3:Qg5 s.Width s.Boundary=true
     ·rw [h3]
      simp only [if_true]
      rw [Qu1]
      exact ⟨fun h=>⟨⟨a,b⟩,by omega,by omega,by omega,fun j j1 j2=>p j j1 (by omega),by omega,h,(Qne _ _).1 h3⟩,fun h=>h.tr⟩
     ·simp only [h3]
      exact ⟨fun h=>by simp at h,fun h=>absurd ((Qne _ _).2 h.bd) h3⟩
    ·rw [e]
     exact ⟨fun h=>(by cases h),fun h=>absurd ⟨fun j j1 j2=>h.ris j j1 (by omega),.inr (by have:=h.edges; omega)⟩ p⟩
   ·have h1':((s.Transfers.length:Int) != (s.Deps.length:Int))=false:=by simp [h1]
    have h2':((s.Boundary.length:Int) != (s.Deps.length:Int))=true:=by simp [h2]
    simp only [h1',h2',Bool.false_eq_true,if_false,if_true]
    exact ⟨fun h=>(by cases h),fun h=>absurd (by have:=h.bl; omega) h2⟩
  ·have h1':((s.Transfers.length:Int) != (s.Deps.length:Int))=true:=by simp [h1]
   simp only [h1',if_true]
   exact ⟨fun h=>(by cases h),fun h=>absurd (by have:=h.tl; omega) h1⟩
 ·constructor
  ·intro h
   exfalso
   apply h0
   by_cases a:0<=s.Width
   ·by_cases b:s.Width<=256
    ·by_cases c:1<=(s.Deps.length:Int)
     ·by_cases d:(s.Deps.length:Int)<=256
      ·exact ⟨⟨a,b⟩,c,d⟩
      ·simp [a,b,c,d] at h
     ·simp [a,b,c] at h
    ·simp [a,b] at h
   ·simp [a] at h
  ·intro h
   exact absurd ⟨h.w,by have:=h.n; omega⟩ h0
theorem QsR (s:Qab):Qca s=Qbi s:=by rw [Bool.eq_iff_iff,Qdw,QcD]
theorem Qly (s:Qab) (n b:Int):Qap s n b=0↔QcT s/\(0<=n/\n < (s.Deps.length:Int))/\0<=b/\b < s.Width:=by
 unfold Qap
 cases e:Qca s with
 | false=>
  exact ⟨fun h=>by simp at h,fun h=>by rw [(Qdw s).2 h.1] at e; cases e⟩
 | true=>
  have hv:=(Qdw s).1 e
  simp only [Bool.not_true,cond_false]
  by_cases h1:n < 0
  ·rw [decide_eq_true h1]; exact ⟨fun h=>by simp at h,fun h=>by omega⟩
  ·by_cases h2:(s.Deps.length:Int)<=n
   ·rw [decide_eq_false h1,decide_eq_true h2]; exact ⟨fun h=>by simp at h,fun h=>by omega⟩
   ·by_cases h3:b < 0
    ·rw [decide_eq_false h1,decide_eq_false h2,decide_eq_true h3]; exact ⟨fun h=>by simp at h,fun h=>by omega⟩
    ·by_cases h4:s.Width<=b
     ·rw [decide_eq_false h1,decide_eq_false h2,decide_eq_false h3,decide_eq_true h4]; exact ⟨fun h=>by simp at h,fun h=>by omega⟩
     ·rw [decide_eq_false h1,decide_eq_false h2,decide_eq_false h3,decide_eq_false h4]; exact ⟨fun _=>⟨hv,⟨by omega,by omega⟩,by omega,by omega⟩,fun _=>rfl⟩
theorem Qn4 {s:Qab} {n b r:Int} (h:Qap s n b=r) (h0:(r != 0)=false):QcT s/\(0<=n/\n < (s.Deps.length:Int))/\0<=b/\b < s.Width:=
 (Qly s n b).1 (h.trans (by simpa using h0))
theorem Qq5 {l r:List Qag} {x:Qag} (h:Qcl l=r) (hx:x∈r):x∈l:=by subst h; exact hx
theorem Qhp {s:Qaf} {b:Int} (h:Qdv s b=true):0<=b/\b < s.Width:=by
 unfold Qdv at h
 simp [Bool.cond_eq_ite] at h; omega
theorem QrQ {s:Qaf} {b:Int} (h:0<=b/\b < s.Width):Qdv s b=true:=by
 unfold Qdv
 simp [Bool.cond_eq_ite]; omega
theorem Ql2 (s:Qaf) (b:Int):Qei s b=Qas s b:=by
 unfold Qei
 rw [QeA]
 cases hv:Qbd s with
 | false=>unfold Qas; simp only [hv,cond_false]
 | true=>
  have h:VSt s.Width s:=⟨(QdR s).1 hv,rfl⟩
  have hw:=Qi6 h
  rw [Qjl h]
  simp only [cond_true]
  cases hb:Qdv s b with
  | true=>
   have:=Qhp hb
   simp only [cond_true,decide_eq_true this.1,decide_eq_true this.2,Bool.true_and]
   rw [Qt1 (by omega),QnU]; rfl
  | false=>
   simp only [cond_false]
   unfold Qdv at hb
   simp [Bool.cond_eq_ite] at hb
   symm
   rw [Bool.eq_false_iff]
   simp; intro h1 h2; omega
theorem QnQ (s:List Int) (fp:Int->Bool):Qb5 s fp=true↔∃ x∈s,fp x=true:=by
 have key:∀ (m:Nat) (i:Int),0<=i->(∃ j,Qa3 s fp m i=.ret j/\i<=j/\j < i+m/\fp (s.getD j.toNat 0)=true)\/(Qa3 s fp m i=.brk ()/\∀ j,i<=j->j < i+m->fp (s.getD j.toNat 0)=false):=by
  intro m
  induction m with
  | zero=>intro i _; exact .inr ⟨rfl,fun j h1 h2=>by omega⟩
  | succ m ih=>
   intro i hi
   rw [Qa3]
   cases hp:fp (s.getD i.toNat 0) with
   | true=>exact .inl ⟨i,rfl,by omega,by omega,hp⟩
   | false=>
    rcases ih (i+1) (by omega) with ⟨j,e,j1,j2,j3⟩ | ⟨e,h⟩
    ·exact .inl ⟨j,e,by omega,by omega,j3⟩
    ·refine .inr ⟨e,fun j j1 j2=>?_⟩
     rcases Int.lt_or_eq_of_le j1 with hlt | rfl
     ·exact h j (by omega) (by omega)
     ·exact hp
 unfold Qb5 QcV
 rcases key ((((s.length:Nat):Int) - 0).toNat) 0 (by omega) with ⟨j,e,j1,j2,j3⟩ | ⟨e,h⟩
 ·rw [e]
  exact ⟨fun _=>⟨_,QaA (by omega),j3⟩,fun _=>by simpa using j1⟩
 ·rw [e]
  refine ⟨fun h=>by simp at h,?_⟩
  rintro ⟨x,hx,hf⟩
  obtain ⟨j,j1,j2,rfl⟩:=QfZ.1 hx
  rw [h j j1 (by omega)] at hf; cases hf
structure QkY (s:Qab) (last:Qag) (k:Nat) (next:List (Qag×List Qag)) (level:List Qag):Prop where
 lev:∀ x,x∈level↔Dst s last k x
 key:∀ x,(QbX next x).isSome=true↔∃ j,j<=k/\Pth s last j x
 zero:QbX next last=some []
 val:∀ j x,j+1<=k->Dst s last (j+1) x->∀ y,y∈(QbX next x).getD []↔Dst s last j y/\tfl s x y
 noo:∀ j x,j < k->Dst s last j x->QaP s x=false
 nd:(next.map (·.1)).Nodup
 cnt:k+1<=next.length
 lnd:level.Nodup
theorem QrM (s:Qab) (last:Qag):QkY s last 0 (mset ([]:List (Qag×List Qag)) last []) [last]:=by
 refine ⟨fun x=>?_,fun x=>?_,by simp [mset,QbX],fun j x h=>by omega,fun j x h=>by omega,by simp [mset],by simp [mset],by simp⟩
 ·rw [List.mem_singleton]
  exact ⟨fun h=>⟨h,fun j hj=>by omega⟩,fun h=>h.1⟩
 ·simp only [mset,QbX]
  by_cases c:last=x
  ·subst c; simp only [if_pos,Option.isSome_some]; exact ⟨fun _=>⟨0,Nat.le_refl _,rfl⟩,fun _=>trivial⟩
  ·rw [if_neg c]
   refine ⟨fun h=>(by cases h),?_⟩
   rintro ⟨j,hj,hp⟩
   have:j=0:=by omega
   subst this
   exact absurd (show x=last from hp).symm c
theorem Qs2 {s:Qab} {last:Qag} {k:Nat} {next:List (Qag×List Qag)} {level:List Qag} (h:QkY s last k next level) {found:List (Qag×List Qag)} (hf:Qmt next (fun y z=>y∈level/\tfl s z y) found []) (ho:∀ x∈level,QaP s x=false):∀ j x,Pth s last j x->QaP s x=false:=by
 intro j x hp
 obtain ⟨i,_,hd⟩:=QlG hp
 rcases Nat.lt_trichotomy i k with c | c | c
 ·exact h.noo i x c hd
 ·subst c; exact ho x ((h.lev x).2 hd)
 ·exfalso
  obtain ⟨y,hy⟩:=Qnm (k:=k+1) (i - (k+1)) (x:=x) (by rw [show k+1+(i - (k+1))=i by omega]; exact hd)
  obtain ⟨z,a,b⟩:=QiK hy
  have hs:(QbX found y).isSome=true:=(hf.iso y).2 ⟨⟨z,(h.lev z).2 a,b⟩,by
   cases e:(QbX next y).isSome with
   | false=>rfl
   | true=>
    obtain ⟨q,hq,hp⟩:=(h.key y).1 e
    exact absurd hp (hy.2 q (by omega))⟩
  cases (hf.fur y).2 hs
def Qz5 (s:Qab) (last:Qag) (res:List Qag×Bool×Int):Prop:=
 (∃ k p,res=(p,true,0)/\GP s last k (fun x=>Dst s last k x/\QaP s x=true) p/\(∀ j x,j < k->Dst s last j x->QaP s x=false)/\(∃ x,Dst s last k x/\QaP s x=true)/\(k:Int)+1<=(s.Deps.length:Int)*s.Width) \/
 (res=([],false,0)/\∀ j x,Pth s last j x->QaP s x=false)
theorem Qqa (s:Qab) (h:Qag):QaP s h=true↔Qas (Bd s h.Node) h.Bit=true\/∃ m∈deps s h.Node,Qas (Tr s m).Gen h.Bit=true:=by
 unfold QaP Bd
 simp only [Ql2]
 have h2:=QnQ (s.Deps.getD h.Node.toNat []) (fun x=>QeB x s h)
 cases e:Qas (s.Boundary.getD h.Node.toNat default) h.Bit with
 | true=>simp
 | false=>
  simp only [cond_false,Bool.false_eq_true,false_or]
  refine h2.trans ?_
  unfold QeB deps Tr
  simp only [Ql2]
theorem QnF {s:Qab} (hv:QcT s) {last:Qag} (hl:Qfv s last) {k:Nat} {next:List (Qag×List Qag)} {level:List Qag} (h:QkY s last k next level):(next.length:Int)<=(s.Deps.length:Int)*s.Width:=by
 have hr:∀ x∈next.map (·.1),Qfv s x:=fun x hx=>by
  obtain ⟨j,_,hp⟩:=(h.key x).1 (Qhn.2 hx)
  exact Qfj hv hl hp
 rcases QrC h.nd hr with c | c
 ·rwa [List.length_map] at c
 ·have h0:next.length=0:=by
   have:=congrArg List.length c
   rwa [List.length_map] at this
  have:=h.cnt
  omega
theorem Qs0 {s:Qab} (hv:QcT s) {last:Qag} (hl:Qfv s last) {k:Nat} {next:List (Qag×List Qag)} {level:List Qag} (h:QkY s last k next level):(level.length:Int)<=65536:=by
 have:=Qu5 hv
 rcases QrC h.lnd (fun x hx=>Qfj hv hl ((h.lev x).1 hx).1) with c | c
 ·omega
 ·rw [c]; decide
theorem Qrh {s:Qab} (hv:QcT s) {last:Qag} (hl:Qfv s last) {k:Nat} {next:List (Qag×List Qag)} {level:List Qag} (h:QkY s last k next level):∀ e∈next,∀ x∈e.2,Qfv s x:=fun e he x hx=>by
 have hg:QbX next e.1=some e.2:=(Qex h.nd).2 he
 obtain ⟨j,hj,hp⟩:=(h.key e.1).1 (by rw [hg]; rfl)
 obtain ⟨i,hi,hd⟩:=QlG hp
 cases i with
 | zero=>
  have:e.1=last:=hd.1
  rw [this,h.zero] at hg
  rw [<- Option.some.inj hg] at hx
  cases hx
 | succ i=>
  have:=h.val i e.1 (by omega) hd x
  rw [hg] at this
  exact Qfj hv hl (this.1 hx).1.1
theorem QnN {s:Qab} (hv:QcT s) {last:Qag} (hl:Qfv s last) {next:List (Qag×List Qag)} {level:List Qag} (h:∃ k,QkY s last k next level):∀ x∈level,Qfv s x:=fun x hx=>by
 obtain ⟨k,h⟩:=h
 exact Qfj hv hl ((h.lev x).1 hx).1
theorem QsT {s:Qab} (hv:QcT s) {last:Qag} (hl:Qfv s last) {next:List (Qag×List Qag)} {level:List Qag} (h:∃ k,QkY s last k next level):(next.length:Int)<=(s.Deps.length:Int)*s.Width:=by
 obtain ⟨k,h⟩:=h
 exact QnF hv hl h
theorem Qrc {s:Qab} (hv:QcT s) {last:Qag} (hl:Qfv s last) {next:List (Qag×List Qag)} {level:List Qag} (h:∃ k,QkY s last k next level):(level.length:Int)<=65536:=by
 obtain ⟨k,h⟩:=h
 exact Qs0 hv hl h
theorem QvY {s:Qab} (hv:QcT s) {last:Qag} (hl:Qfv s last) {next:List (Qag×List Qag)} {level:List Qag} (h:∃ k,QkY s last k next level):∀ e∈next,∀ x∈e.2,QrV x:=fun e he x hx=>by
 obtain ⟨k,h⟩:=h
 exact QtT hv (Qrh hv hl h e he x hx)
open Classical in
theorem Qrn (p:Qag->Bool) (s0:List Qag):∀ (r:Nat) (s':List Qag) (i j:Int) (R:List Qag×Int),0<=i->i<=j->j+r=(s0.length:Int)->s'.length=s0.length->s'.take i.toNat=(s0.take j.toNat).filter (fun x=>!p x)->s'.drop j.toNat=s0.drop j.toNat ->
  QaH p r s' i j=R->R.1.length=s0.length/\(0<=R.2/\R.2<=(s0.length:Int))/\R.1.take R.2.toNat=s0.filter (fun x=>!p x)
 | 0,s',i,j,R,h0,h1,h2,hl,ht,hd,e=>by
  rw [QaH] at e
  subst e
  refine ⟨hl,⟨h0,by omega⟩,?_⟩
  rw [ht,List.take_of_length_le (by omega)]
 | r+1,s',i,j,R,h0,h1,h2,hl,ht,hd,e=>by
  have hj:j.toNat < s0.length:=by omega
  have hj':j.toNat < s'.length:=by omega
  have hx:s'.getD j.toNat default=s0[j.toNat]:=by
   have:=congrArg (fun l=>l[0]?) hd
   simp only [List.getElem?_drop,Nat.add_zero] at this
   simp [List.getD,this,hj]
  have htk:s0.take (j+1).toNat=s0.take j.toNat++[s0[j.toNat]]:=by
   rw [show (j+1).toNat=j.toNat+1 by omega,List.take_add_one,List.getElem?_eq_getElem hj]; rfl
  have hdj:s'.drop (j+1).toNat=s0.drop (j+1).toNat:=by
   have:=congrArg (List.drop 1) hd
   rw [List.drop_drop,List.drop_drop] at this
   rw [show (j+1).toNat=j.toNat+1 by omega]; exact this
  rw [QaH,hx] at e
  cases c:p s0[j.toNat] with
  | true=>
   rw [c] at e
   exact Qrn p s0 r s' i (j+1) R h0 (by omega) (by omega) hl (by rw [htk,List.filter_append,ht]; simp [c]) hdj e
  | false=>
   rw [c] at e
   refine Qrn p s0 r _ (i+1) (j+1) R (by omega) (by omega) (by omega) (by rw [List.length_set]; exact hl) ?_ ?_ e
   ·rw [htk,List.filter_append,<- ht,show (i+1).toNat=i.toNat+1 by omega,List.take_add_one,List.getElem?_set_self (by omega),List.take_set_of_le (by omega)]
    simp [c]
   ·rw [List.drop_set_of_lt (by omega)]; exact hdj
theorem QqX (s:List Qag) (p:Qag->Bool):Qa1 s p=s.filter (fun x=>!p x):=by
 unfold Qa1 QcU
 rcases Qxc (fun r i=>Qbs s p r i) (fun i=>p (s.getD i.toNat default)) () (fun _=>rfl) (fun _ _=>rfl) ((((s.length:Nat):Int) - 0).toNat) 0 with ⟨j,e,j1,j2,j3,j4⟩ | ⟨e,h⟩
 ·try dsimp only at e
  rw [e]
  have hne:(j == -1)=false:=by simp; omega
  have hj:j.toNat < s.length:=by omega
  dsimp only
  rw [hne,cond_false]
  have hpre:∀ x∈s.take j.toNat,(!p x)=true:=fun x hx=>by
   obtain ⟨i,hi,rfl⟩:=List.mem_iff_getElem.1 hx
   have hi':i < j.toNat:=by rw [List.length_take] at hi; omega
   rw [List.getElem_take]
   have:=j4 (i:Int) (by omega) (by omega)
   rw [Int.toNat_natCast] at this
   have hg:s.getD i default=s[i]:=by simp [List.getD,show i < s.length by omega]
   rw [hg] at this
   rw [this]; rfl
  have hg:s.getD j.toNat default=s[j.toNat]:=by simp [List.getD,hj]
  rw [hg] at j3
  obtain ⟨q1,q2,q3⟩:=Qrn p s (((((s.length:Nat):Int):Int) - (j+1)).toNat) s j (j+1) _ (by omega) (by omega) (by omega) rfl (by
   rw [show (j+1).toNat=j.toNat+1 by omega,List.take_add_one,List.getElem?_eq_getElem hj,List.filter_append,List.filter_eq_self.2 hpre]
   simp [j3]) rfl rfl
  generalize QaH p (((((s.length:Nat):Int):Int) - (j+1)).toNat) s j (j+1)=R at q1 q2 q3 ⊢
  obtain ⟨r0,r1⟩:=R
  dsimp only at q1 q2 q3 ⊢
  rw [List.drop_zero,List.take_append_of_le_length (by rw [List.length_take]; omega),List.take_take,Nat.min_self,q3]
 ·try dsimp only at e
  rw [e]
  dsimp only
  simp only [beq_self_eq_true,cond_true]
  symm
  refine List.filter_eq_self.2 fun x hx=>?_
  obtain ⟨j,j1,j2,e3⟩:=(QdK (d:=default)).1 hx
  have:=h j j1 (by omega)
  rw [e3] at this
  simp [this]
theorem QiW (s:Qab) (level:List Qag) (x:Qag):x∈Qa1 (Qcl level) (fun x=>Qd6 x s)↔x∈level/\QaP s x=true:=by
 rw [QqX]
 unfold Qcl Qd6
 rw [List.mem_filter]
 simp
theorem QsS {s:Qab} (hv:QcT s) {last:Qag} (hl:Qfv s last) {next:List (Qag×List Qag)} {level cl st:List Qag} (h:∃ k,QkY s last k next level) (hc:Qcl level=cl) (hs:Qa1 cl (fun x=>Qd6 x s)=st):∀ x∈st,QrV x:=fun x hx=>by
 subst hc
 subst hs
 exact QtT hv (QnN hv hl h x ((QiW s level x).1 hx).1)
theorem Qpi (a b:Qag):(decide (Qb4 a b < 0)=true->hle a b)/\(decide (Qb4 a b < 0)=false->hle b a):=by
 unfold Qb4 hle
 by_cases h:a.Node=b.Node
 ·have e:(a.Node != b.Node)=false:=by simp [h]
  rw [e,cond_false]
  exact ⟨fun q=>by have:=of_decide_eq_true q; omega,fun q=>by have:=of_decide_eq_false q; omega⟩
 ·have e:(a.Node != b.Node)=true:=by simp [h]
  rw [e,cond_true]
  exact ⟨fun q=>by have:=of_decide_eq_true q; omega,fun q=>by have:=of_decide_eq_false q; omega⟩
theorem Qko (x:List Qag):∀ (r:Nat) (m0 m1 i:Int) (R:Int×Int),0<=i->i+r=(x.length:Int)->QaZ x (fun a b=>Qb4 a b) r m0 m1 i=R ->
  ((⟨R.1,R.2⟩:Qag)=⟨m0,m1⟩\/(⟨R.1,R.2⟩:Qag)∈x)/\hle ⟨R.1,R.2⟩ ⟨m0,m1⟩/\∀ j:Int,i<=j->j < (x.length:Int)->hle ⟨R.1,R.2⟩ (x.getD j.toNat default)
 | 0,m0,m1,i,R,h0,h1,e=>by
  rw [QaZ] at e
  subst e
  exact ⟨.inl rfl,QsL _,fun j a b=>by omega⟩
 | r+1,m0,m1,i,R,h0,h1,e=>by
  rw [QaZ] at e
  have hc:=Qpi (x.getD i.toNat default) ⟨m0,m1⟩
  cases e1:decide (Qb4 (x.getD i.toNat default) (Qag.mk m0 m1) < 0) with
  | true=>
   rw [e1,cond_true] at e
   obtain ⟨a,b,c⟩:=Qko x r _ _ (i+1) R (by omega) (by omega) e
   have hb:hle ⟨R.1,R.2⟩ (x.getD i.toNat default):=b
   refine ⟨.inr ?_,Qov hb (hc.1 e1),fun j j0 j1=>?_⟩
   ·rcases a with a | a
    ·rw [a]; exact QaA (by omega)
    ·exact a
   ·by_cases q:j=i
    ·subst q; exact hb
    ·exact c j (by omega) j1
  | false=>
   rw [e1,cond_false] at e
   obtain ⟨a,b,c⟩:=Qko x r _ _ (i+1) R (by omega) (by omega) e
   refine ⟨a,b,fun j j0 j1=>?_⟩
   by_cases q:j=i
   ·subst q; exact Qov b (hc.2 e1)
   ·exact c j (by omega) j1
theorem QkS {x:List Qag} (hx:x≠[]):Mn (· ∈ x) (QcC x (fun a b=>Qb4 a b)):=by
 have hl:0 < x.length:=List.length_pos_iff.2 hx
 obtain ⟨a,b,c⟩:=Qko x (((((x.length:Nat):Int):Int) - 1).toNat) ((x.getD (0:Int).toNat default).Node) ((x.getD (0:Int).toNat default).Bit) 1 _ (by omega) (by omega) rfl
 unfold QcC
 generalize QaZ x (fun a b=>Qb4 a b) (((((x.length:Nat):Int):Int) - 1).toNat) ((x.getD (0:Int).toNat default).Node) ((x.getD (0:Int).toNat default).Bit) 1=R at a b c ⊢
 obtain ⟨r0,r1⟩:=R
 dsimp only at a b c ⊢
 have h0:x.getD (0:Int).toNat default∈x:=QaA (by omega)
 refine ⟨a.elim (fun a=>by rw [a]; exact h0) id,fun y hy=>?_⟩
 obtain ⟨j,j0,j1,rfl⟩:=(QdK (d:=default)).1 hy
 by_cases q:j=0
 ·subst q; exact b
 ·exact c j (by omega) j1
theorem Qkp {s:Qab} {last:Qag} {K:Nat} {next:List (Qag×List Qag)} {level:List Qag} (h:QkY s last K next level):∀ (k r:Nat) (l out:List Qag) (S:Qag->Prop),k+2<=r->k<=K->(∀ x,x∈l↔S x)->(∀ x,S x->Dst s last k x)->(∃ x,S x) ->
  ∃ p,Qb6 next r l out=.brk (out++p)/\GP s last k S p
 | k,0,l,out,S,hr,_,_,_,_=>by omega
 | k,1,l,out,S,hr,_,_,_,_=>by omega
 | 0,r+2,l,out,S,hr,hk,hl,hd,⟨x0,hx0⟩=>by
  have hne:l≠[]:=List.ne_nil_of_mem ((hl x0).2 hx0)
  have hm:=QkS hne
  have hlast:QcC l (fun a b=>Qb4 a b)=last:=(hd _ ((hl _).1 hm.1)).1
  have hpos:0 < l.length:=List.length_pos_iff.2 hne
  refine ⟨[last],?_,last,?_,rfl⟩
  ·rw [Qb6,decide_eq_true (by omega),cond_true]
   dsimp only
   rw [hlast,h.zero,Qb6]
   rfl
  ·rw [hlast] at hm
   exact ⟨(hl _).1 hm.1,fun x hx=>hm.2 x ((hl x).2 hx)⟩
 | k+1,r+2,l,out,S,hr,hk,hl,hd,⟨x0,hx0⟩=>by
  have hne:l≠[]:=List.ne_nil_of_mem ((hl x0).2 hx0)
  have hm:=QkS hne
  have hpos:0 < l.length:=List.length_pos_iff.2 hne
  generalize hmm:QcC l (fun a b=>Qb4 a b)=m at hm
  have hmd:=hd _ ((hl _).1 hm.1)
  obtain ⟨p,e,g⟩:=Qkp h k (r+1) ((QbX next m).getD []) (out++[m]) (fun y=>Dst s last k y/\tfl s m y) (by omega) (by omega) (h.val k m hk hmd) (fun x hx=>hx.1) (by obtain ⟨y,a,b⟩:=QiK hmd; exact ⟨y,a,b⟩)
  refine ⟨m :: p,?_,m,p,⟨(hl _).1 hm.1,fun x hx=>hm.2 x ((hl x).2 hx)⟩,rfl,g⟩
  rw [Qb6,decide_eq_true (by omega),cond_true]
  dsimp only
  rw [hmm,e]; simp
theorem Quz {s:Qab} {last:Qag} {next:List (Qag×List Qag)} {level cl st:List Qag} (h:∃ k,QkY s last k next level) (hc:Qcl level=cl) (hs:Qa1 cl (fun x=>Qd6 x s)=st) (hp:0 < ((st.length:Nat):Int)):Qb6 next ((next.length:Nat)+2) st []≠.oof:=by
 subst hc
 obtain ⟨k,h⟩:=h
 have hst:=QiW s level
 rw [hs] at hst
 have hcnt:=h.cnt
 obtain ⟨x0,hx0⟩:=List.exists_mem_of_length_pos (l:=st) (by omega)
 have hx0':=(hst x0).1 hx0
 obtain ⟨p,e,g⟩:=Qkp h k (((next.length:Nat))+2) st [] (fun x=>Dst s last k x/\QaP s x=true) (by omega) (Nat.le_refl _) (fun x=>by rw [hst,h.lev]) (fun x hx=>hx.1) ⟨x0,(h.lev x0).1 hx0'.1,hx0'.2⟩
 rw [e]; intro h; cases h
theorem Qk5 (l:List QaB) (v:QaB):Qa2 l v=true↔v∈l:=by
 have hc:∀ x:QaB,([v.From,v.To] == [x.From,x.To])=true↔x=v:=fun x=>by
  cases x; cases v; simp; exact ⟨fun h=>⟨h.1.symm,h.2.symm⟩,fun h=>⟨h.1.symm,h.2.symm⟩⟩
 unfold Qa2 Qeg
 rcases QqR (fun r i=>QbU l v r i) (fun i=>[v.From,v.To] == [(l.getD i.toNat default).From,(l.getD i.toNat default).To]) () (fun _=>rfl) (fun _ _=>rfl) ((((l.length:Nat):Int) - 0).toNat) 0 with ⟨j,e,j1,j2,j3⟩ | ⟨e,h⟩
 ·try dsimp only at e
  rw [e]
  have:=(hc _).1 j3
  exact ⟨fun _=>this ▸ QaA (by omega),fun _=>by simpa using j1⟩
 ·try dsimp only at e
  rw [e]
  refine ⟨fun h=>by simp at h,fun hm=>?_⟩
  obtain ⟨j,j1,j2,e3⟩:=(QdK (d:=default)).1 hm
  have:=h j j1 (by omega)
  rw [(hc _).2 e3] at this; cases this
end Go.SL.G
