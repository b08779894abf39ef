/- Part 2 of the walks: mirrors, plain laws and walks used by the last text of this claim. -/
import Derived.Test.YtkooljfbpbghhaaGreatDoorW1
import Derived.Test.YtkooljfbpbghhaaGreatDoorProg
set_option linter.unusedVariables false
set_option linter.unusedSimpArgs false
namespace Go.SL.G
open Go Go.SL Go.Proofs
structure AE where
 Width:Int
 Words:List (BitVec 64)
instance:Inhabited AE:=⟨⟨0,[]⟩⟩
structure BN where
 From:Int
 To:Int
instance:Inhabited BN:=⟨⟨0,0⟩⟩
structure A8 where
 Gen:AE
 Kill:AE
 Copies:List BN
instance:Inhabited A8:=⟨⟨⟨0,[]⟩,⟨0,[]⟩,[]⟩⟩
structure A6 where
 Width:Int
 Deps:List (List Int)
 Transfers:List A8
 Boundary:List AE
instance:Inhabited A6:=⟨⟨0,[],[],[]⟩⟩
structure Az where
 Op:Int
 Def:Aa
 Uses:List Aa
 Targets:List Aa
instance:Inhabited Az:=⟨⟨0,⟨[]⟩,[],[]⟩⟩
structure A3 where
 Name:Aa
 Stmts:List Az
instance:Inhabited A3:=⟨⟨⟨[]⟩,[]⟩⟩
structure A7 where
 Name:Aa
 Blocks:List A3
instance:Inhabited A7:=⟨⟨⟨[]⟩,[]⟩⟩
structure Aw where
 Funcs:List A7
instance:Inhabited Aw:=⟨⟨[]⟩⟩
structure Am where
 Kind:Int
 Func:Int
 Block:Int
 Stmt:Int
instance:Inhabited Am:=⟨⟨0,0,0,0⟩⟩
structure AO where
 Node:Int
 Var:Int
instance:Inhabited AO:=⟨⟨0,0⟩⟩
structure JE where
 Nodes:List Am
 Succ:List (List Int)
 Pred:List (List Int)
instance:Inhabited JE:=⟨⟨[],[],[]⟩⟩
structure Li where
 Zero:AE
 One:List AE
instance:Inhabited Li:=⟨⟨⟨0,[]⟩,[]⟩⟩
structure Ao where
 Node:Int
 Bit:Int
instance:Inhabited Ao:=⟨⟨0,0⟩⟩
structure B9 where
 Kind:Int
 Text:Aa
 Line:Int
 Col:Int
instance:Inhabited B9:=⟨⟨0,⟨[]⟩,0,0⟩⟩
structure AK where
 l:List B9
 at_:Int
 Err:Int
instance:Inhabited AK:=⟨⟨[],0,0⟩⟩
def Qa:Aa:=(Aa.mk [48,49,50,51,52,53,54,55,56,57,97,98,99,100,101,102,103,104,105,106,107,108,109,110,111,112,113,114,115,116,117,118,119,120,121,122])
def PM:Aa:=(Aa.mk [48,48,48,49,48,50,48,51,48,52,48,53,48,54,48,55,48,56,48,57,49,48,49,49,49,50,49,51,49,52,49,53,49,54,49,55,49,56,49,57,50,48,50,49,50,50,50,51,50,52,50,53,50,54,50,55,50,56,50,57,51,48,51,49,51,50,51,51,51,52,51,53,51,54,51,55,51,56,51,57,52,48,52,49,52,50,52,51,52,52,52,53,52,54,52,55,52,56,52,57,53,48,53,49,53,50,53,51,53,52,53,53,53,54,53,55,53,56,53,57,54,48,54,49,54,50,54,51,54,52,54,53,54,54,54,55,54,56,54,57,55,48,55,49,55,50,55,51,55,52,55,53,55,54,55,55,55,56,55,57,56,48,56,49,56,50,56,51,56,52,56,53,56,54,56,55,56,56,56,57,57,48,57,49,57,50,57,51,57,52,57,53,57,54,57,55,57,56,57,57])
def AQ:List Aa:=[⟨[102,117,110,99]⟩,⟨[98,108,111,99,107]⟩,⟨[101,110,100]⟩,⟨[117,115,101]⟩,⟨[99,97,108,108]⟩,⟨[115,111,117,114,99,101]⟩,⟨[115,105,110,107]⟩,⟨[115,97,110,105,116,105,122,101]⟩,⟨[103,111,116,111]⟩,⟨[98,114,97,110,99,104]⟩,⟨[114,101,116,117,114,110]⟩]
def Gs:List Int:=[0,1,56,2,57,49,28,3,61,58,42,50,38,29,17,4,62,47,59,36,45,43,51,22,53,39,33,30,24,18,12,5,63,55,48,27,60,41,37,16,46,35,44,21,52,32,23,11,54,26,40,15,34,20,31,10,25,14,19,9,13,8,7,6]
instance:DecidableEq Ao:=fun a b=>decidable_of_iff (a.Node=b.Node/\a.Bit=b.Bit) (by cases a; cases b; simp)
abbrev G6 (x:Ao):Prop:=Af x.Node/\Af x.Bit
abbrev H1 (x:Ao):Value:=.agg #[vi x.Node,vi x.Bit]
instance xJ:Rep AE where
 sz:=2
 bytes:=32
 pos:=by decide
 bpos:=by decide
 rd w M cs x:=∃ c1,cs=[.int .i64 x.Width,c1]/\Af x.Width/\Cg w M c1 x.Words
 len:=by rintro w M cs x ⟨c1,rfl,h0,h1⟩; rfl
 one:=by
  rintro w M cs x ⟨c1,rfl,h0,h1⟩ v hv;simp only [List.mem_cons,List.not_mem_nil,or_false] at hv;rcases hv with rfl | rfl
  all_goals first | rfl | exact Fe h1
 st:=by
  rintro w M cs x w' M' ⟨c1,rfl,h0,h1⟩ e;exact ⟨c1,rfl,h0,Dr h1 e⟩
theorem Pp {C:Cx} {X:Act->World->Prop} {L:At} {A:List SP} {c:Value} {xs:List AE} (i m:Nat) (hA:A[m]? = some (sl c xs)) (hi:i < xs.length)
  (h:∀ (a1:Option Addr) (k1:Nat),Af (xs.getD i default).Width->JJ C X L (pv (BZ 2 c i) [.int .i64 (xs.getD i default).Width,.slice a1 (xs.getD i default).Words.length k1] :: sl (.slice a1 (xs.getD i default).Words.length k1) (xs.getD i default).Words :: A)):JJ C X L A:=by
 refine Jx i m hA hi default fun cs=>?_;intro a w M F st;obtain ⟨F1,F2,q1,q2,qd,hp,F3,F4,q3,q4,qd2,hr,hs⟩:=st.sp;obtain ⟨c1,rfl,h0,h1⟩:=hr;have g1:=h1;obtain ⟨_,a1,k1,rfl,_⟩:=h1;exact h a1 k1 h0 a w M F ⟨st.step,st.sz,st.df,st.sat,F1,F2,q1,q2,qd,hp,⟨fun _=>False,_,fun _ h=>h.elim,fun _ h=>h,fun _ h _=>h,g1,Fg hs q4⟩⟩
instance w6:Rep BN where
 sz:=2
 bytes:=16
 pos:=by decide
 bpos:=by decide
 rd w M cs x:=cs=[.int .i64 x.From,.int .i64 x.To]/\Af x.From/\Af x.To
 len:=by rintro w M cs x ⟨rfl,h0,h1⟩; rfl
 one:=by
  rintro w M cs x ⟨rfl,h0,h1⟩ v hv;simp only [List.mem_cons,List.not_mem_nil,or_false] at hv;rcases hv with rfl | rfl
  all_goals first | rfl
 st:=by
  rintro w M cs x w' M' ⟨rfl,h0,h1⟩ e;exact ⟨rfl,h0,h1⟩
theorem Sf {C:Cx} {X:Act->World->Prop} {L:At} {A:List SP} {c:Value} {xs:List BN} (i m:Nat) (hA:A[m]? = some (sl c xs)) (hi:i < xs.length)
  (h:Af (xs.getD i default).From->Af (xs.getD i default).To->JJ C X L (pv (BZ 2 c i) [.int .i64 (xs.getD i default).From,.int .i64 (xs.getD i default).To] :: A)):JJ C X L A:=by
 refine Jx i m hA hi default fun cs=>?_;intro a w M F st;obtain ⟨F1,F2,q1,q2,qd,hp,F3,F4,q3,q4,qd2,hr,hs⟩:=st.sp;obtain ⟨rfl,h0,h1⟩:=hr;exact h h0 h1 a w M F ⟨st.step,st.sz,st.df,st.sat,F1,F2,q1,q2,qd,hp,Fg hs q4⟩
instance xH:Rep A8 where
 sz:=5
 bytes:=88
 pos:=by decide
 bpos:=by decide
 rd w M cs x:=∃ c1 c3 c4,cs=[.int .i64 x.Gen.Width,c1,.int .i64 x.Kill.Width,c3,c4]/\Af x.Gen.Width/\Cg w M c1 x.Gen.Words/\Af x.Kill.Width/\Cg w M c3 x.Kill.Words/\Cg w M c4 x.Copies
 len:=by rintro w M cs x ⟨c1,c3,c4,rfl,h0,h1,h2,h3,h4⟩; rfl
 one:=by
  rintro w M cs x ⟨c1,c3,c4,rfl,h0,h1,h2,h3,h4⟩ v hv;simp only [List.mem_cons,List.not_mem_nil,or_false] at hv;rcases hv with rfl | rfl | rfl | rfl | rfl
  all_goals first | rfl | exact Fe h1 | exact Fe h3 | exact Fe h4
 st:=by
  rintro w M cs x w' M' ⟨c1,c3,c4,rfl,h0,h1,h2,h3,h4⟩ e;exact ⟨c1,c3,c4,rfl,h0,Dr h1 e,h2,Dr h3 e,Dr h4 e⟩
theorem L8 {C:Cx} {X:Act->World->Prop} {L:At} {A:List SP} {c:Value} {xs:List A8} (i m:Nat) (hA:A[m]? = some (sl c xs)) (hi:i < xs.length)
  (h:∀ (a1:Option Addr) (k1:Nat) (a3:Option Addr) (k3:Nat) (a4:Option Addr) (k4:Nat),Af ((xs.getD i default).Gen).Width->Af ((xs.getD i default).Kill).Width->JJ C X L (pv (BZ 5 c i) [.int .i64 ((xs.getD i default).Gen).Width,.slice a1 ((xs.getD i default).Gen).Words.length k1,.int .i64 ((xs.getD i default).Kill).Width,.slice a3 ((xs.getD i default).Kill).Words.length k3,.slice a4 (xs.getD i default).Copies.length k4] :: sl (.slice a1 ((xs.getD i default).Gen).Words.length k1) ((xs.getD i default).Gen).Words :: sl (.slice a3 ((xs.getD i default).Kill).Words.length k3) ((xs.getD i default).Kill).Words :: sl (.slice a4 (xs.getD i default).Copies.length k4) (xs.getD i default).Copies :: A)):JJ C X L A:=by
 refine Jx i m hA hi default fun cs=>?_;intro a w M F st;obtain ⟨F1,F2,q1,q2,qd,hp,F3,F4,q3,q4,qd2,hr,hs⟩:=st.sp;obtain ⟨c1,c3,c4,rfl,h0,h1,h2,h3,h4⟩:=hr;have g1:=h1;obtain ⟨_,a1,k1,rfl,_⟩:=h1;have g3:=h3;obtain ⟨_,a3,k3,rfl,_⟩:=h3;have g4:=h4;obtain ⟨_,a4,k4,rfl,_⟩:=h4;exact h a1 k1 a3 k3 a4 k4 h0 h2 a w M F ⟨st.step,st.sz,st.df,st.sat,F1,F2,q1,q2,qd,hp,⟨fun _=>False,_,fun _ h=>h.elim,fun _ h=>h,fun _ h _=>h,g1,⟨fun _=>False,_,fun _ h=>h.elim,fun _ h=>h,fun _ h _=>h,g3,⟨fun _=>False,_,fun _ h=>h.elim,fun _ h=>h,fun _ h _=>h,g4,Fg hs q4⟩⟩⟩⟩
instance wY:Rep A6 where
 sz:=4
 bytes:=80
 pos:=by decide
 bpos:=by decide
 rd w M cs x:=∃ c1 c2 c3,cs=[.int .i64 x.Width,c1,c2,c3]/\Af x.Width/\Cg w M c1 x.Deps/\Cg w M c2 x.Transfers/\Cg w M c3 x.Boundary
 len:=by rintro w M cs x ⟨c1,c2,c3,rfl,h0,h1,h2,h3⟩; rfl
 one:=by
  rintro w M cs x ⟨c1,c2,c3,rfl,h0,h1,h2,h3⟩ v hv;simp only [List.mem_cons,List.not_mem_nil,or_false] at hv;rcases hv with rfl | rfl | rfl | rfl
  all_goals first | rfl | exact Fe h1 | exact Fe h2 | exact Fe h3
 st:=by
  rintro w M cs x w' M' ⟨c1,c2,c3,rfl,h0,h1,h2,h3⟩ e;exact ⟨c1,c2,c3,rfl,h0,Dr h1 e,Dr h2 e,Dr h3 e⟩
instance xB:Rep Az where
 sz:=4
 bytes:=72
 pos:=by decide
 bpos:=by decide
 rd w M cs x:=∃ c2 c3,cs=[.int .i64 x.Op,.string (bs x.Def),c2,c3]/\Af x.Op/\x.Def.b.length<=140737488355328/\Cg w M c2 x.Uses/\Cg w M c3 x.Targets
 len:=by rintro w M cs x ⟨c2,c3,rfl,h0,h1,h2,h3⟩; rfl
 one:=by
  rintro w M cs x ⟨c2,c3,rfl,h0,h1,h2,h3⟩ v hv;simp only [List.mem_cons,List.not_mem_nil,or_false] at hv;rcases hv with rfl | rfl | rfl | rfl
  all_goals first | rfl | exact Fe h2 | exact Fe h3
 st:=by
  rintro w M cs x w' M' ⟨c2,c3,rfl,h0,h1,h2,h3⟩ e;exact ⟨c2,c3,rfl,h0,h1,Dr h2 e,Dr h3 e⟩
theorem GW {C:Cx} {X:Act->World->Prop} {L:At} {A:List SP} {c:Value} {xs:List Az} (i m:Nat) (hA:A[m]? = some (sl c xs)) (hi:i < xs.length)
  (h:∀ (a2:Option Addr) (k2:Nat) (a3:Option Addr) (k3:Nat),Af (xs.getD i default).Op->((xs.getD i default).Def).b.length<=140737488355328->JJ C X L (pv (BZ 4 c i) [.int .i64 (xs.getD i default).Op,.string (bs (xs.getD i default).Def),.slice a2 (xs.getD i default).Uses.length k2,.slice a3 (xs.getD i default).Targets.length k3] :: sl (.slice a2 (xs.getD i default).Uses.length k2) (xs.getD i default).Uses :: sl (.slice a3 (xs.getD i default).Targets.length k3) (xs.getD i default).Targets :: A)):JJ C X L A:=by
 refine Jx i m hA hi default fun cs=>?_;intro a w M F st;obtain ⟨F1,F2,q1,q2,qd,hp,F3,F4,q3,q4,qd2,hr,hs⟩:=st.sp;obtain ⟨c2,c3,rfl,h0,h1,h2,h3⟩:=hr;have g2:=h2;obtain ⟨_,a2,k2,rfl,_⟩:=h2;have g3:=h3;obtain ⟨_,a3,k3,rfl,_⟩:=h3;exact h a2 k2 a3 k3 h0 h1 a w M F ⟨st.step,st.sz,st.df,st.sat,F1,F2,q1,q2,qd,hp,⟨fun _=>False,_,fun _ h=>h.elim,fun _ h=>h,fun _ h _=>h,g2,⟨fun _=>False,_,fun _ h=>h.elim,fun _ h=>h,fun _ h _=>h,g3,Fg hs q4⟩⟩⟩
instance w7:Rep A3 where
 sz:=2
 bytes:=40
 pos:=by decide
 bpos:=by decide
 rd w M cs x:=∃ c1,cs=[.string (bs x.Name),c1]/\x.Name.b.length<=140737488355328/\Cg w M c1 x.Stmts
 len:=by rintro w M cs x ⟨c1,rfl,h0,h1⟩; rfl
 one:=by
  rintro w M cs x ⟨c1,rfl,h0,h1⟩ v hv;simp only [List.mem_cons,List.not_mem_nil,or_false] at hv;rcases hv with rfl | rfl
  all_goals first | rfl | exact Fe h1
 st:=by
  rintro w M cs x w' M' ⟨c1,rfl,h0,h1⟩ e;exact ⟨c1,rfl,h0,Dr h1 e⟩
theorem EQ {C:Cx} {X:Act->World->Prop} {L:At} {A:List SP} {c:Value} {xs:List A3} (i m:Nat) (hA:A[m]? = some (sl c xs)) (hi:i < xs.length)
  (h:∀ (a1:Option Addr) (k1:Nat),((xs.getD i default).Name).b.length<=140737488355328->JJ C X L (pv (BZ 2 c i) [.string (bs (xs.getD i default).Name),.slice a1 (xs.getD i default).Stmts.length k1] :: sl (.slice a1 (xs.getD i default).Stmts.length k1) (xs.getD i default).Stmts :: A)):JJ C X L A:=by
 refine Jx i m hA hi default fun cs=>?_;intro a w M F st;obtain ⟨F1,F2,q1,q2,qd,hp,F3,F4,q3,q4,qd2,hr,hs⟩:=st.sp;obtain ⟨c1,rfl,h0,h1⟩:=hr;have g1:=h1;obtain ⟨_,a1,k1,rfl,_⟩:=h1;exact h a1 k1 h0 a w M F ⟨st.step,st.sz,st.df,st.sat,F1,F2,q1,q2,qd,hp,⟨fun _=>False,_,fun _ h=>h.elim,fun _ h=>h,fun _ h _=>h,g1,Fg hs q4⟩⟩
instance w8:Rep A7 where
 sz:=2
 bytes:=40
 pos:=by decide
 bpos:=by decide
 rd w M cs x:=∃ c1,cs=[.string (bs x.Name),c1]/\x.Name.b.length<=140737488355328/\Cg w M c1 x.Blocks
 len:=by rintro w M cs x ⟨c1,rfl,h0,h1⟩; rfl
 one:=by
  rintro w M cs x ⟨c1,rfl,h0,h1⟩ v hv;simp only [List.mem_cons,List.not_mem_nil,or_false] at hv;rcases hv with rfl | rfl
  all_goals first | rfl | exact Fe h1
 st:=by
  rintro w M cs x w' M' ⟨c1,rfl,h0,h1⟩ e;exact ⟨c1,rfl,h0,Dr h1 e⟩
theorem D1 {C:Cx} {X:Act->World->Prop} {L:At} {A:List SP} {c:Value} {xs:List A7} (i m:Nat) (hA:A[m]? = some (sl c xs)) (hi:i < xs.length)
  (h:∀ (a1:Option Addr) (k1:Nat),((xs.getD i default).Name).b.length<=140737488355328->JJ C X L (pv (BZ 2 c i) [.string (bs (xs.getD i default).Name),.slice a1 (xs.getD i default).Blocks.length k1] :: sl (.slice a1 (xs.getD i default).Blocks.length k1) (xs.getD i default).Blocks :: A)):JJ C X L A:=by
 refine Jx i m hA hi default fun cs=>?_;intro a w M F st;obtain ⟨F1,F2,q1,q2,qd,hp,F3,F4,q3,q4,qd2,hr,hs⟩:=st.sp;obtain ⟨c1,rfl,h0,h1⟩:=hr;have g1:=h1;obtain ⟨_,a1,k1,rfl,_⟩:=h1;exact h a1 k1 h0 a w M F ⟨st.step,st.sz,st.df,st.sat,F1,F2,q1,q2,qd,hp,⟨fun _=>False,_,fun _ h=>h.elim,fun _ h=>h,fun _ h _=>h,g1,Fg hs q4⟩⟩
instance w5:Rep Aw where
 sz:=1
 bytes:=24
 pos:=by decide
 bpos:=by decide
 rd w M cs x:=∃ c0,cs=[c0]/\Cg w M c0 x.Funcs
 len:=by rintro w M cs x ⟨c0,rfl,h0⟩; rfl
 one:=by
  rintro w M cs x ⟨c0,rfl,h0⟩ v hv;simp only [List.mem_cons,List.not_mem_nil,or_false] at hv;rcases hv with rfl
  all_goals first | rfl | exact Fe h0
 st:=by
  rintro w M cs x w' M' ⟨c0,rfl,h0⟩ e;exact ⟨c0,rfl,Dr h0 e⟩
instance pW:Rep Am where
 sz:=4
 bytes:=32
 pos:=by decide
 bpos:=by decide
 rd w M cs x:=cs=[.int .i64 x.Kind,.int .i64 x.Func,.int .i64 x.Block,.int .i64 x.Stmt]/\Af x.Kind/\Af x.Func/\Af x.Block/\Af x.Stmt
 len:=by rintro w M cs x ⟨rfl,h0,h1,h2,h3⟩; rfl
 one:=by
  rintro w M cs x ⟨rfl,h0,h1,h2,h3⟩ v hv;simp only [List.mem_cons,List.not_mem_nil,or_false] at hv;rcases hv with rfl | rfl | rfl | rfl
  all_goals first | rfl
 st:=by
  rintro w M cs x w' M' ⟨rfl,h0,h1,h2,h3⟩ e;exact ⟨rfl,h0,h1,h2,h3⟩
instance xI:RepE Am where
 toRep:=pW
 ex x:=[.int .i64 x.Kind,.int .i64 x.Func,.int .i64 x.Block,.int .i64 x.Stmt]
 ok x:=Af x.Kind/\Af x.Func/\Af x.Block/\Af x.Stmt
 ex_eq:=by rintro w M cs x ⟨rfl,h0,h1,h2,h3⟩; exact ⟨rfl,h0,h1,h2,h3⟩
 rd_ex:=by rintro w M x ⟨h0,h1,h2,h3⟩; exact ⟨rfl,h0,h1,h2,h3⟩
theorem KO {C:Cx} {X:Act->World->Prop} {L:At} {A:List SP} {c:Value} {xs:List Am} (i m:Nat) (hA:A[m]? = some (sl c xs)) (hi:i < xs.length)
  (h:Af (xs.getD i default).Kind->Af (xs.getD i default).Func->Af (xs.getD i default).Block->Af (xs.getD i default).Stmt->JJ C X L (pv (BZ 4 c i) [.int .i64 (xs.getD i default).Kind,.int .i64 (xs.getD i default).Func,.int .i64 (xs.getD i default).Block,.int .i64 (xs.getD i default).Stmt] :: A)):JJ C X L A:=by
 refine Jx i m hA hi default fun cs=>?_;intro a w M F st;obtain ⟨F1,F2,q1,q2,qd,hp,F3,F4,q3,q4,qd2,hr,hs⟩:=st.sp;obtain ⟨rfl,h0,h1,h2,h3⟩:=hr;exact h h0 h1 h2 h3 a w M F ⟨st.step,st.sz,st.df,st.sat,F1,F2,q1,q2,qd,hp,Fg hs q4⟩
instance w9:Rep AO where
 sz:=2
 bytes:=16
 pos:=by decide
 bpos:=by decide
 rd w M cs x:=cs=[.int .i64 x.Node,.int .i64 x.Var]/\Af x.Node/\Af x.Var
 len:=by rintro w M cs x ⟨rfl,h0,h1⟩; rfl
 one:=by
  rintro w M cs x ⟨rfl,h0,h1⟩ v hv;simp only [List.mem_cons,List.not_mem_nil,or_false] at hv;rcases hv with rfl | rfl
  all_goals first | rfl
 st:=by
  rintro w M cs x w' M' ⟨rfl,h0,h1⟩ e;exact ⟨rfl,h0,h1⟩
theorem Re {C:Cx} {X:Act->World->Prop} {L:At} {A:List SP} {c:Value} {xs:List AO} (i m:Nat) (hA:A[m]? = some (sl c xs)) (hi:i < xs.length)
  (h:Af (xs.getD i default).Node->Af (xs.getD i default).Var->JJ C X L (pv (BZ 2 c i) [.int .i64 (xs.getD i default).Node,.int .i64 (xs.getD i default).Var] :: A)):JJ C X L A:=by
 refine Jx i m hA hi default fun cs=>?_;intro a w M F st;obtain ⟨F1,F2,q1,q2,qd,hp,F3,F4,q3,q4,qd2,hr,hs⟩:=st.sp;obtain ⟨rfl,h0,h1⟩:=hr;exact h h0 h1 a w M F ⟨st.step,st.sz,st.df,st.sat,F1,F2,q1,q2,qd,hp,Fg hs q4⟩
instance wZ:Rep JE where
 sz:=3
 bytes:=72
 pos:=by decide
 bpos:=by decide
 rd w M cs x:=∃ c0 c1 c2,cs=[c0,c1,c2]/\Cg w M c0 x.Nodes/\Cg w M c1 x.Succ/\Cg w M c2 x.Pred
 len:=by rintro w M cs x ⟨c0,c1,c2,rfl,h0,h1,h2⟩; rfl
 one:=by
  rintro w M cs x ⟨c0,c1,c2,rfl,h0,h1,h2⟩ v hv;simp only [List.mem_cons,List.not_mem_nil,or_false] at hv;rcases hv with rfl | rfl | rfl
  all_goals first | rfl | exact Fe h0 | exact Fe h1 | exact Fe h2
 st:=by
  rintro w M cs x w' M' ⟨c0,c1,c2,rfl,h0,h1,h2⟩ e;exact ⟨c0,c1,c2,rfl,Dr h0 e,Dr h1 e,Dr h2 e⟩
instance xF:Rep Li where
 sz:=3
 bytes:=56
 pos:=by decide
 bpos:=by decide
 rd w M cs x:=∃ c1 c2,cs=[.int .i64 x.Zero.Width,c1,c2]/\Af x.Zero.Width/\Cg w M c1 x.Zero.Words/\Cg w M c2 x.One
 len:=by rintro w M cs x ⟨c1,c2,rfl,h0,h1,h2⟩; rfl
 one:=by
  rintro w M cs x ⟨c1,c2,rfl,h0,h1,h2⟩ v hv;simp only [List.mem_cons,List.not_mem_nil,or_false] at hv;rcases hv with rfl | rfl | rfl
  all_goals first | rfl | exact Fe h1 | exact Fe h2
 st:=by
  rintro w M cs x w' M' ⟨c1,c2,rfl,h0,h1,h2⟩ e;exact ⟨c1,c2,rfl,h0,Dr h1 e,Dr h2 e⟩
instance xL:Rep Ao where
 sz:=2
 bytes:=16
 pos:=by decide
 bpos:=by decide
 rd w M cs x:=cs=[.int .i64 x.Node,.int .i64 x.Bit]/\Af x.Node/\Af x.Bit
 len:=by rintro w M cs x ⟨rfl,h0,h1⟩; rfl
 one:=by
  rintro w M cs x ⟨rfl,h0,h1⟩ v hv;simp only [List.mem_cons,List.not_mem_nil,or_false] at hv;rcases hv with rfl | rfl
  all_goals first | rfl
 st:=by
  rintro w M cs x w' M' ⟨rfl,h0,h1⟩ e;exact ⟨rfl,h0,h1⟩
theorem IB {C:Cx} {X:Act->World->Prop} {L:At} {A:List SP} {c:Value} {xs:List Ao} (i m:Nat) (hA:A[m]? = some (sl c xs)) (hi:i < xs.length)
  (h:Af (xs.getD i default).Node->Af (xs.getD i default).Bit->JJ C X L (pv (BZ 2 c i) [.int .i64 (xs.getD i default).Node,.int .i64 (xs.getD i default).Bit] :: A)):JJ C X L A:=by
 refine Jx i m hA hi default fun cs=>?_;intro a w M F st;obtain ⟨F1,F2,q1,q2,qd,hp,F3,F4,q3,q4,qd2,hr,hs⟩:=st.sp;obtain ⟨rfl,h0,h1⟩:=hr;exact h h0 h1 a w M F ⟨st.step,st.sz,st.df,st.sat,F1,F2,q1,q2,qd,hp,Fg hs q4⟩
instance w4:Rep B9 where
 sz:=4
 bytes:=40
 pos:=by decide
 bpos:=by decide
 rd w M cs x:=cs=[.int .i64 x.Kind,.string (bs x.Text),.int .i64 x.Line,.int .i64 x.Col]/\Af x.Kind/\x.Text.b.length<=140737488355328/\Af x.Line/\Af x.Col
 len:=by rintro w M cs x ⟨rfl,h0,h1,h2,h3⟩; rfl
 one:=by
  rintro w M cs x ⟨rfl,h0,h1,h2,h3⟩ v hv;simp only [List.mem_cons,List.not_mem_nil,or_false] at hv;rcases hv with rfl | rfl | rfl | rfl
  all_goals first | rfl
 st:=by
  rintro w M cs x w' M' ⟨rfl,h0,h1,h2,h3⟩ e;exact ⟨rfl,h0,h1,h2,h3⟩
theorem Qi {C:Cx} {X:Act->World->Prop} {L:At} {A:List SP} {c:Value} {xs:List B9} (i m:Nat) (hA:A[m]? = some (sl c xs)) (hi:i < xs.length)
  (h:Af (xs.getD i default).Kind->((xs.getD i default).Text).b.length<=140737488355328->Af (xs.getD i default).Line->Af (xs.getD i default).Col->JJ C X L (pv (BZ 4 c i) [.int .i64 (xs.getD i default).Kind,.string (bs (xs.getD i default).Text),.int .i64 (xs.getD i default).Line,.int .i64 (xs.getD i default).Col] :: A)):JJ C X L A:=by
 refine Jx i m hA hi default fun cs=>?_;intro a w M F st;obtain ⟨F1,F2,q1,q2,qd,hp,F3,F4,q3,q4,qd2,hr,hs⟩:=st.sp;obtain ⟨rfl,h0,h1,h2,h3⟩:=hr;exact h h0 h1 h2 h3 a w M F ⟨st.step,st.sz,st.df,st.sat,F1,F2,q1,q2,qd,hp,Fg hs q4⟩
instance xK:Rep AK where
 sz:=3
 bytes:=40
 pos:=by decide
 bpos:=by decide
 rd w M cs x:=∃ c0,cs=[c0,.int .i64 x.at_,.int .i64 x.Err]/\Cg w M c0 x.l/\Af x.at_/\Af x.Err
 len:=by rintro w M cs x ⟨c0,rfl,h0,h1,h2⟩; rfl
 one:=by
  rintro w M cs x ⟨c0,rfl,h0,h1,h2⟩ v hv;simp only [List.mem_cons,List.not_mem_nil,or_false] at hv;rcases hv with rfl | rfl | rfl
  all_goals first | rfl | exact Fe h0
 st:=by
  rintro w M cs x w' M' ⟨c0,rfl,h0,h1,h2⟩ e;exact ⟨c0,rfl,Dr h0 e,h1,h2⟩
theorem qK (n:Int) (h:1<=n/\n<=9223372036854775807):BitVec.ofInt 64 n≠0:=by
 intro e;have:=congrArg BitVec.toNat e;rw [BitVec.toNat_ofInt] at this
 simp at this
 omega
theorem VE (v n:Int) (h:1<=n/\n<=9223372036854775807):0<=(((BitVec.ofInt 64 v) % (BitVec.ofInt 64 n)).toNat:Int)/\(((BitVec.ofInt 64 v) % (BitVec.ofInt 64 n)).toNat:Int) < n:=by
 rw [BitVec.toNat_umod,BitVec.toNat_ofInt,BitVec.toNat_ofInt];have e:(n % ((2 ^ 64:Nat):Int)).toNat=n.toNat:=by omega
 rw [e];have:(v % ((2 ^ 64:Nat):Int)).toNat % n.toNat < n.toNat:=Nat.mod_lt _ (by omega);omega
theorem vF (v n:Int) (h:1<=n/\n<=9223372036854775807):(((BitVec.ofInt 64 v) % (BitVec.ofInt 64 n)).toNat:Int)<=9223372036854775807:=by
 have:=VE v n h; omega
def Dt (l:List Aa) (s:Aa):Nat->Int->LR Unit Int
 | 0,i=>.brk ()
 | r+1,i=>bif ((l.getD i.toNat default) == s) then .ret i else Dt l s r (i+1)
def Br (l:List Aa) (s:Aa):Int:=
 match Dt l s (((l.length:Int) - 0).toNat) 0 with
 | .brk _=>
  -1
 | .ret r=>r
 | .oof=>default
def EB (c:Int):Bool:=
 bif decide (97<=c) then bif decide (c<=122) then true else bif decide (65<=c) then bif decide (c<=90) then true else (c == 95) else (c == 95) else bif decide (65<=c) then bif decide (c<=90) then true else (c == 95) else (c == 95)
def K2 (c:Int):Bool:=
 bif decide (48<=c) then decide (c<=57) else false
def Gj  : List Aa:=
 [(Aa.mk [102,117,110,99]),(Aa.mk [98,108,111,99,107]),(Aa.mk [101,110,100]),(Aa.mk [117,115,101]),(Aa.mk [99,97,108,108]),(Aa.mk [115,111,117,114,99,101]),(Aa.mk [115,105,110,107]),(Aa.mk [115,97,110,105,116,105,122,101]),(Aa.mk [103,111,116,111]),(Aa.mk [98,114,97,110,99,104]),(Aa.mk [114,101,116,117,114,110])]
def HU (s:Aa):Nat->Int->LR Unit Bool
 | 0,i=>.brk ()
 | r+1,i=>let rv25:=(EB ((s.b.getD i.toNat 0).toNat:Int));bif (!rv25) then let rv33:=(K2 ((s.b.getD i.toNat 0).toNat:Int));bif (!rv33) then .ret false else HU s r (i+1) else HU s r (i+1)
def JN (s:Aa):Nat->Int->LR Unit Bool
 | 0,i=>.brk ()
 | r+1,i=>bif ((Gj.getD i.toNat default) == s) then .ret false else JN s r (i+1)
def BY (s:Aa):Bool:=
 bif ((s.b.length:Int) == 0) then false else bif decide (16 < (s.b.length:Int)) then false else let rv8:=(EB ((s.b.getD (0:Int).toNat 0).toNat:Int));bif (!rv8) then false else bif (((s.b.getD (0:Int).toNat 0).toNat:Int) == 95) then false else match HU s (((s.b.length:Int) - 0).toNat) 0 with
     | .brk _=>
      match JN s (((Gj.length:Int) - 0).toNat) 0 with
      | .brk _=>
       true
      | .ret r=>r
      | .oof=>default
     | .ret r=>r
     | .oof=>default
def JI (l:List Aa):Nat->Int->LR Unit Bool
 | 0,i=>.brk ()
 | r+1,i=>let rv6:=(BY (l.getD i.toNat default));bif (!rv6) then .ret false else JI l r (i+1)
def Gp (l:List Aa) (a:Int) (b:Int):Bool:=
 match JI l (((l.length:Int) - 0).toNat) 0 with
 | .brk _=>bif decide (a<=(l.length:Int)) then decide ((l.length:Int)<=b) else false
 | .ret r=>r
 | .oof=>default
def BQ (s:Az):Bool:=
 let rv2:=(BY s.Def);let rv5:=(Gp s.Uses 0 4);bif (!rv5) then false else let rv15:=(Gp s.Targets 0 2);bif (!rv15) then false else bif (s.Op == 1) then bif rv2 then ((s.Targets.length:Int) == 0) else false else bif (s.Op == 2) then bif (s.Def == (Aa.mk [])) then bif decide (1<=(s.Uses.length:Int)) then ((s.Targets.length:Int) == 0) else false else false else bif (s.Op == 5) then bif (s.Def == (Aa.mk [])) then bif ((s.Uses.length:Int) == 1) then ((s.Targets.length:Int) == 0) else false else false else bif (s.Op == 3) then bif (s.Def == (Aa.mk [])) then bif ((s.Uses.length:Int) == 0) then ((s.Targets.length:Int) == 1) else false else false else bif (s.Op == 7) then bif (s.Def == (Aa.mk [])) then bif ((s.Uses.length:Int) == 0) then ((s.Targets.length:Int) == 1) else false else false else bif (s.Op == 4) then bif rv2 then bif ((s.Uses.length:Int) == 0) then ((s.Targets.length:Int) == 0) else false else false else bif (s.Op == 6) then bif rv2 then bif ((s.Uses.length:Int) == 0) then ((s.Targets.length:Int) == 0) else false else false else bif (s.Op == 8) then bif (s.Def == (Aa.mk [])) then bif ((s.Uses.length:Int) == 1) then ((s.Targets.length:Int) == 2) else false else false else bif (s.Op == 9) then bif (s.Def == (Aa.mk [])) then bif ((s.Uses.length:Int) == 0) then ((s.Targets.length:Int) == 0) else false else false else false
def JH  (b1:List Az):Nat->Int->LR Unit Bool
 | 0,j=>.brk ()
 | r+1,j=>let rv66:=(BQ (b1.getD j.toNat default));bif (!rv66) then .ret false else JH b1 r (j+1)
def Hu  (f1:List A3):Nat->Int->LR Unit Bool
 | 0,k=>.brk ()
 | r+1,k=>let rv38:=(BY ((f1.getD k.toNat default).Name));bif (!rv38) then .ret false else bif decide ((((f1.getD k.toNat default).Stmts).length:Int) < 1) then .ret false else bif decide (32 < (((f1.getD k.toNat default).Stmts).length:Int)) then .ret false else match JH ((f1.getD k.toNat default).Stmts) ((((((f1.getD k.toNat default).Stmts).length:Int):Int) - 0).toNat) 0 with
     | .brk _=>
      Hu f1 r (k+1)
     | .ret r=>.ret r
     | .oof=>.oof
def FY (p:Aw):Nat->Int->LR Unit Bool
 | 0,i=>.brk ()
 | r+1,i=>let rv15:=(BY ((p.Funcs.getD i.toNat default).Name));bif (!rv15) then .ret false else bif decide ((((p.Funcs.getD i.toNat default).Blocks).length:Int) < 1) then .ret false else bif decide (16 < (((p.Funcs.getD i.toNat default).Blocks).length:Int)) then .ret false else match Hu ((p.Funcs.getD i.toNat default).Blocks) ((((((p.Funcs.getD i.toNat default).Blocks).length:Int):Int) - 0).toNat) 0 with
     | .brk _=>
      FY p r (i+1)
     | .ret r=>.ret r
     | .oof=>.oof
def CG (p:Aw):Bool:=
 bif decide ((p.Funcs.length:Int) < 1) then false else bif decide (8 < (p.Funcs.length:Int)) then false else match FY p (((p.Funcs.length:Int) - 0).toNat) 0 with
   | .brk _=>
    true
   | .ret r=>r
   | .oof=>default
def Dc  (names:List Aa):Nat->List Aa->Int->List Aa
 | 0,out,n=>
  out
 | r+1,out,n=>let rv52:=(Br out (names.getD n.toNat default));bif decide (rv52 < 0) then Dc names r (out++[(names.getD n.toNat default)]) (n+1) else Dc names r out (n+1)
def ES  (l:List Az):Nat->List Aa->Int->List Aa
 | 0,out,j=>
  out
 | r+1,out,j=>bif ((l.getD j.toNat default).Def != (Aa.mk [])) then match Dc ([(l.getD j.toNat default).Def]++(l.getD j.toNat default).Uses) ((((([(l.getD j.toNat default).Def]++(l.getD j.toNat default).Uses).length:Int):Int) - 0).toNat) out 0 with
   | Mm=>
    ES l r Mm (j+1) else match Dc ((l.getD j.toNat default).Uses) ((((((l.getD j.toNat default).Uses).length:Int):Int) - 0).toNat) out 0 with
   | Mm=>
    ES l r Mm (j+1)
def GQ (p:Aw) (i:Int):Nat->List Aa->Int->List Aa
 | 0,out,k=>
  out
 | r+1,out,k=>
  match ES ((((p.Funcs.getD i.toNat default).Blocks).getD k.toNat default).Stmts) ((((((((p.Funcs.getD i.toNat default).Blocks).getD k.toNat default).Stmts).length:Int):Int) - 0).toNat) out 0 with
  | CC=>
   GQ p i r CC (k+1)
def Hr (p:Aw):Nat->List Aa->Int->List Aa
 | 0,out,i=>
  out
 | r+1,out,i=>
  match GQ p i ((((((p.Funcs.getD i.toNat default).Blocks).length:Int):Int) - 0).toNat) out 0 with
  | B8=>
   Hr p r B8 (i+1)
def Ca (p:Aw):List Aa:=
 let rv2:=(CG p);bif (!rv2) then ([]:List Aa) else match Hr p (((p.Funcs.length:Int) - 0).toNat) [] 0 with
  | AS=>
   AS
def Ex (l:List Aa):Nat->Int->LR Unit Int
 | 0,i=>.brk ()
 | r+1,i=>let rv12:=(Br ((l.take (i.toNat)).drop 0) (l.getD i.toNat default));bif decide (0<=rv12) then .ret i else Ex l r (i+1)
def Fu (l:List Aa):Int:=
 match Ex l (((l.length:Int) - 0).toNat) 0 with
 | .brk _=>
  -1
 | .ret r=>r
 | .oof=>default
def Mj (p:Aw):Nat->List Aa->Int->List Aa
 | 0,out,i=>
  out
 | r+1,out,i=>
  Mj p r (out++[(p.Funcs.getD i.toNat default).Name]) (i+1)
def EN (p:Aw):List Aa:=
 match Mj p (((p.Funcs.length:Int) - 0).toNat) [] 0 with
 | AS=>
  AS
def Mg (f:A7):Nat->List Aa->Int->List Aa
 | 0,out,k=>
  out
 | r+1,out,k=>
  Mg f r (out++[(f.Blocks.getD k.toNat default).Name]) (k+1)
def Ef (f:A7):List Aa:=
 match Mg f (((f.Blocks.length:Int) - 0).toNat) [] 0 with
 | AS=>
  AS
def Iz (op:Int):Bool:=
 bif (op == 7) then true else bif (op == 8) then true else (op == 9)
def EZ (s:Az) (names:List Aa):Nat->Int->LR Unit Int
 | 0,i=>.brk ()
 | r+1,i=>let rv33:=(Br names (s.Targets.getD i.toNat default));bif decide (rv33 < 0) then .ret 5 else EZ s names r (i+1)
def G4 (p:Aw) (f:A7) (s:Az) (last:Bool):Int:=
 let rv4:=(Iz s.Op);bif (!(rv4 == last)) then 4 else let rv11:=(Ef f);bif (s.Op == 3) then let rv21:=(EN p);match EZ s rv21 (((s.Targets.length:Int) - 0).toNat) 0 with
   | .brk _=>
    0
   | .ret r=>r
   | .oof=>default else match EZ s rv11 (((s.Targets.length:Int) - 0).toNat) 0 with
   | .brk _=>
    0
   | .ret r=>r
   | .oof=>default
def EM  (l:List Az):Nat->Int->Int->Int->Int×Int
 | 0,nodes,edges,j=>
  (nodes,edges)
 | r+1,nodes,edges,j=>bif ((l.getD j.toNat default).Op == 3) then EM l r ((nodes+1)+1) (edges+3) (j+1) else bif ((l.getD j.toNat default).Op == 8) then EM l r (nodes+1) (edges+2) (j+1) else EM l r (nodes+1) (edges+1) (j+1)
def Gi (p:Aw) (i:Int):Nat->Int->Int->Int->Int×Int
 | 0,nodes,edges,k=>
  (nodes,edges)
 | r+1,nodes,edges,k=>
  match EM ((((p.Funcs.getD i.toNat default).Blocks).getD k.toNat default).Stmts) ((((((((p.Funcs.getD i.toNat default).Blocks).getD k.toNat default).Stmts).length:Int):Int) - 0).toNat) nodes edges 0 with
  | (CC,GA)=>
   Gi p i r CC GA (k+1)
def Mh (p:Aw):Nat->Int->Int->Int->Int×Int
 | 0,nodes,edges,i=>
  (nodes,edges)
 | r+1,nodes,edges,i=>
  match Gi p i ((((((p.Funcs.getD i.toNat default).Blocks).length:Int):Int) - 0).toNat) (nodes+2) (edges+1) 0 with
  | (B8,FH)=>
   Mh p r B8 FH (i+1)
def N8 (p:Aw):Int×Int:=
 let rv2:=(CG p);bif (!rv2) then (0,0) else match Mh p (((p.Funcs.length:Int) - 0).toNat) 0 0 0 with
  | (AS,Ci)=>
   (AS,Ci)
def Ev (p:Aw) (i:Int) (f0:Aa) (f1:List A3) (k:Int) (l:List Az):Nat->Int->LR Unit (Am×Int)
 | 0,j=>.brk ()
 | r+1,j=>let rv68:=(G4 p (A7.mk f0 f1) (l.getD j.toNat default) (j == ((l.length:Int) - 1)));bif (rv68 != 0) then .ret ((Am.mk 3 i k j),rv68) else Ev p i f0 f1 k l r (j+1)
def Ey (p:Aw) (i:Int) (f0:Aa) (f1:List A3):Nat->Int->LR Unit (Am×Int)
 | 0,k=>.brk ()
 | r+1,k=>
  match Ev p i f0 f1 k ((f1.getD k.toNat default).Stmts) ((((((f1.getD k.toNat default).Stmts).length:Int):Int) - 0).toNat) 0 with
  | .brk _=>
   Ey p i f0 f1 r (k+1)
  | .ret r=>.ret r
  | .oof=>.oof
def EK (p:Aw):Nat->Int->LR Unit (Am×Int)
 | 0,i=>.brk ()
 | r+1,i=>let rv36:=(Ef (p.Funcs.getD i.toNat default));let rv43:=(Fu rv36);bif decide (0<=rv43) then .ret ((Am.mk 3 i rv43 (-1)),6) else match Ey p i ((p.Funcs.getD i.toNat default).Name) ((p.Funcs.getD i.toNat default).Blocks) ((((((p.Funcs.getD i.toNat default).Blocks).length:Int):Int) - 0).toNat) 0 with
   | .brk _=>
    EK p r (i+1)
   | .ret r=>.ret r
   | .oof=>.oof
def Dp (p:Aw):Am×Int:=
 let rv3:=(CG p);bif (!rv3) then ((Am.mk 0 0 0 0),1) else let rv14:=(EN p);let rv21:=(Fu rv14);bif decide (0<=rv21) then ((Am.mk 1 rv21 (-1) (-1)),6) else match EK p (((p.Funcs.length:Int) - 0).toNat) 0 with
   | .brk _=>let rv28:=(N8 p);let rv34:=(Ca p);bif decide (64 < (rv34.length:Int)) then ((Am.mk 0 0 0 0),7) else bif decide (256 < rv28.1) then ((Am.mk 0 0 0 0),7) else bif decide (1024 < rv28.2) then ((Am.mk 0 0 0 0),7) else ((Am.mk 0 0 0 0),0)
   | .ret r=>r
   | .oof=>default
def Jt  (i:Int) (k:Int) (l:List Az):Nat->List Am->Int->List Am
 | 0,out,j=>
  out
 | r+1,out,j=>bif ((l.getD j.toNat default).Op == 3) then Jt i k l r ((out++[(Am.mk 3 i k j)])++[(Am.mk 4 i k j)]) (j+1) else Jt i k l r (out++[(Am.mk 3 i k j)]) (j+1)
def Mk (p:Aw) (i:Int):Nat->List Am->Int->List Am
 | 0,out,k=>
  out
 | r+1,out,k=>
  match Jt i k ((((p.Funcs.getD i.toNat default).Blocks).getD k.toNat default).Stmts) ((((((((p.Funcs.getD i.toNat default).Blocks).getD k.toNat default).Stmts).length:Int):Int) - 0).toNat) out 0 with
  | CC=>
   Mk p i r CC (k+1)
def LQ (p:Aw):Nat->List Am->Int->List Am
 | 0,out,i=>
  out
 | r+1,out,i=>
  match Mk p i ((((((p.Funcs.getD i.toNat default).Blocks).length:Int):Int) - 0).toNat) (out++[(Am.mk 1 i (-1) (-1))]) 0 with
  | B8=>
   LQ p r (B8++[(Am.mk 2 i (-1) (-1))]) (i+1)
@[irreducible] def Cn (p:Aw):List Am:=
 let rv2:=(Dp p);bif (rv2.2 != 0) then ([]:List Am) else match LQ p (((p.Funcs.length:Int) - 0).toNat) [] 0 with
  | AS=>
   AS
def G9 (l:List Am) (n:Am):Nat->Int->LR Unit Int
 | 0,i=>.brk ()
 | r+1,i=>bif ([(l.getD i.toNat default).Kind,(l.getD i.toNat default).Func,(l.getD i.toNat default).Block,(l.getD i.toNat default).Stmt] == [n.Kind,n.Func,n.Block,n.Stmt]) then .ret i else G9 l n r (i+1)
def Ej (l:List Am) (n:Am):Int:=
 match G9 l n (((l.length:Int) - 0).toNat) 0 with
 | .brk _=>
  -1
 | .ret r=>r
 | .oof=>default
def J2 (p:Aw) (n:Am):Int:=
 let rv4:=(Cn p);let rv11:=(Ej rv4 n);rv11
def Eu (p:Aw) (n:Am):Az×Bool:=
 let rv4:=(J2 p n);bif decide (rv4 < 0) then ((Az.mk 0 (Aa.mk []) [] []),false) else bif (n.Kind != 3) then bif (n.Kind != 4) then ((Az.mk 0 (Aa.mk []) [] []),false) else ((((((p.Funcs.getD n.Func.toNat default).Blocks).getD n.Block.toNat default).Stmts).getD n.Stmt.toNat default),true) else ((((((p.Funcs.getD n.Func.toNat default).Blocks).getD n.Block.toNat default).Stmts).getD n.Stmt.toNat default),true)
def Hg (s:Az):Bool:=
 bif (s.Op == 1) then true else bif (s.Op == 4) then true else (s.Op == 6)
def Ft  : Nat->List AO->Int->List AO
 | 0,out,v=>
  out
 | r+1,out,v=>
  Ft r (out++[(AO.mk (-1) v)]) (v+1)
def E1 (p:Aw) (vars:List Aa) (l:List Am):Nat->List AO->Int->List AO
 | 0,out,i=>
  out
 | r+1,out,i=>let rv53:=(Eu p (l.getD i.toNat default));bif rv53.2 then bif ((l.getD i.toNat default).Kind == 3) then let rv71:=(Hg rv53.1);bif rv71 then let rv76:=(Br vars rv53.1.Def);E1 p vars l r (out++[(AO.mk i rv76)]) (i+1) else E1 p vars l r out (i+1) else E1 p vars l r out (i+1) else E1 p vars l r out (i+1)
def CI (p:Aw) (kind:Int):List AO×Int:=
 let rv2:=(Dp p);bif (rv2.2 != 0) then (([]:List AO),rv2.2) else bif decide (kind < 1) then (([]:List AO),3) else bif decide (4 < kind) then (([]:List AO),3) else let rv21:=(Ca p);bif (kind != 1) then match Ft (((rv21.length:Int) - 0).toNat) [] 0 with
     | AS=>bif decide (256 < (AS.length:Int)) then (([]:List AO),7) else (AS,0) else let rv38:=(Cn p);match E1 p rv21 rv38 (((rv38.length:Int) - 0).toNat) [] 0 with
     | B8=>bif decide (256 < (B8.length:Int)) then (([]:List AO),7) else (B8,0)
def LX  : Nat->Int->Aa->LR Aa Aa
 | 0,n',s=>.oof
 | r+1,n',s=>bif decide (0 < n') then LX r (n' / 10) (((Aa.mk [48,49,50,51,52,53,54,55,56,57]).sub ((n' % 10):Int).toNat (((n' % 10)+1):Int).toNat)++s) else .brk s
def JA (n:Int):Aa:=
 match LX ((n / 10).toNat+1) (n / 10) ((Aa.mk [48,49,50,51,52,53,54,55,56,57]).sub ((n % 10):Int).toNat (((n % 10)+1):Int).toNat) with
 | .brk AS=>
  AS
 | .ret _=>default
 | .oof=>default
def GR (p:Aw) (n:Am):Aa:=
 let rv3:=(J2 p n);bif decide (rv3 < 0) then (Aa.mk []) else bif (n.Kind == 1) then ((p.Funcs.getD n.Func.toNat default).Name++(Aa.mk [46,101,110,116,114,121])) else bif (n.Kind == 2) then ((p.Funcs.getD n.Func.toNat default).Name++(Aa.mk [46,101,120,105,116])) else bif (n.Kind == 4) then let rv37:=(JA n.Stmt);((((((p.Funcs.getD n.Func.toNat default).Name++(Aa.mk [46]))++(((p.Funcs.getD n.Func.toNat default).Blocks).getD n.Block.toNat default).Name)++(Aa.mk [46]))++rv37)++(Aa.mk [43])) else let rv55:=(JA n.Stmt);(((((p.Funcs.getD n.Func.toNat default).Name++(Aa.mk [46]))++(((p.Funcs.getD n.Func.toNat default).Blocks).getD n.Block.toNat default).Name)++(Aa.mk [46]))++rv55)
def J4 (p:Aw) (f:AO):Aa:=
 let rv4:=(Ca p);bif decide (0<=f.Node) then let rv15:=(Cn p);let rv26:=(GR p (rv15.getD f.Node.toNat default));((rv4.getD f.Var.toNat default)++((Aa.mk [64])++rv26)) else (rv4.getD f.Var.toNat default)
def Hn (p:Aw) (l:List Ao) (f:List AO) (nodes:List Am):Nat->Aa->Int->LR Aa (Aa×Int)
 | 0,out,i=>.brk out
 | r+1,out,i=>bif decide ((l.getD i.toNat default).Node < 0) then .ret ((Aa.mk []),9) else bif decide ((nodes.length:Int)<=(l.getD i.toNat default).Node) then .ret ((Aa.mk []),9) else bif decide ((l.getD i.toNat default).Bit < 0) then .ret ((Aa.mk []),9) else bif decide ((f.length:Int)<=(l.getD i.toNat default).Bit) then .ret ((Aa.mk []),9) else let rv42:=(GR p (nodes.getD ((l.getD i.toNat default).Node:Int).toNat default));let rv51:=(J4 p (f.getD ((l.getD i.toNat default).Bit:Int).toNat default));Hn p l f nodes r (out++(((rv42++(Aa.mk [32]))++rv51)++(Aa.mk [10]))) (i+1)
def GN (p:Aw) (kind:Int) (l:List Ao):Aa×Int:=
 let rv3:=(CI p kind);bif (rv3.2 != 0) then ((Aa.mk []),rv3.2) else let rv15:=(Cn p);match Hn p l rv3.1 rv15 (((l.length:Int) - 0).toNat) (Aa.mk []) 0 with
  | .brk AS=>
   (AS,0)
  | .ret r=>r
  | .oof=>default
def Nl (p:Aw) (i:Int):Nat->Int->Int->Int
 | 0,n,k=>
  n
 | r+1,n,k=>bif decide (n < 60) then Nl p i r (n+(((((p.Funcs.getD i.toNat default).Blocks).getD k.toNat default).Stmts).length:Int)) (k+1) else n
def ML (p:Aw):Nat->Int->Int->Int
 | 0,n,i=>
  n
 | r+1,n,i=>bif decide (n < 60) then match Nl p i ((((((p.Funcs.getD i.toNat default).Blocks).length:Int):Int) - 0).toNat) (n+(((p.Funcs.getD i.toNat default).Blocks).length:Int)) 0 with
   | B8=>
    ML p r B8 (i+1) else n
def OU (p:Aw):Bool:=
 match ML p (((p.Funcs.length:Int) - 0).toNat) (p.Funcs.length:Int) 0 with
 | AS=>
  decide (30 < AS)
def Vr  (c:Int):Nat->LR Unit (List B9×Int×Int×Int)
 | 0=>.oof
 | r+1=>bif (c == 35) then .oof else .brk ()
def SQ (text:Aa) (i:Int):Nat->Int->LR Int (List B9×Int×Int×Int)
 | 0,n=>.oof
 | r+1,n=>bif decide (-9223372036854775808<=(i+n)/\(i+n)<=9223372036854775807) then bif decide ((i+n) < (text.b.length:Int)) then bif decide (-9223372036854775808<=(i+n)/\(i+n)<=9223372036854775807) then bif decide (0<=(i+n)/\(i+n) < (text.b.length:Int)) then lv (EB ((text.b.getD ((i+n):Int).toNat 0).toNat:Int)) fun rv54=>
      bif rv54 then bif decide (-9223372036854775808<=(n+1)/\(n+1)<=9223372036854775807) then SQ text i r (n+1) else .oof else bif decide (-9223372036854775808<=(i+n)/\(i+n)<=9223372036854775807) then bif decide (0<=(i+n)/\(i+n) < (text.b.length:Int)) then lv (K2 ((text.b.getD ((i+n):Int).toNat 0).toNat:Int)) fun rv61=>
         bif rv61 then .oof else .brk n else .oof else .oof else .oof else .oof else .brk n else .oof
def N3 (text:Aa):Nat->List B9->Int->Bool->Int->LR (List B9×Int×Bool) (List B9×Int×Int×Int)
 | 0,out,col,open_,i=>.oof
 | r+1,out,col,open_,i=>bif decide (i < (text.b.length:Int)) then bif decide (0<=i/\i < (text.b.length:Int)) then bif (((text.b.getD i.toNat 0).toNat:Int) == 32) then bif decide (-9223372036854775808<=(i+1)/\(i+1)<=9223372036854775807) then bif decide (-9223372036854775808<=(col+1)/\(col+1)<=9223372036854775807) then N3 text r out (col+1) open_ (i+1) else .oof else .oof else bif (((text.b.getD i.toNat 0).toNat:Int) == 9) then .oof else bif (((text.b.getD i.toNat 0).toNat:Int) == 10) then .oof else bif (((text.b.getD i.toNat 0).toNat:Int) == 59) then bif open_ then bif decide ((out.length+([(B9.mk 3 (Aa.mk []) 1 col)]:List B9).length)*40<=140737488355328) then ll (Vr ((text.b.getD i.toNat 0).toNat:Int) 1) fun _=>
          bif decide (-9223372036854775808<=(i+1)/\(i+1)<=9223372036854775807) then bif decide (-9223372036854775808<=(col+1)/\(col+1)<=9223372036854775807) then bif decide ((i+1) < (text.b.length:Int)) then bif decide (0<=(i+1)/\(i+1) < (text.b.length:Int)) then bif (((text.b.getD ((i+1):Int).toNat 0).toNat:Int) == 10) then .oof else N3 text r (out++[(B9.mk 3 (Aa.mk []) 1 col)]) (col+1) false (i+1) else .oof else .oof else .oof else .oof else .oof else .oof else bif (((text.b.getD i.toNat 0).toNat:Int) == 35) then .oof else bif (((text.b.getD i.toNat 0).toNat:Int) == 61) then bif decide ((out.length+([(B9.mk 2 (Aa.mk [61]) 1 col)]:List B9).length)*40<=140737488355328) then bif decide (-9223372036854775808<=(i+1)/\(i+1)<=9223372036854775807) then bif decide (-9223372036854775808<=(col+1)/\(col+1)<=9223372036854775807) then N3 text r (out++[(B9.mk 2 (Aa.mk [61]) 1 col)]) (col+1) true (i+1) else .oof else .oof else .oof else lv (EB ((text.b.getD i.toNat 0).toNat:Int)) fun rv46=>
          bif rv46 then ll (SQ text i 100000 0) fun CC=>
           lv (K2 ((text.b.getD i.toNat 0).toNat:Int)) fun rv52=>
           bif rv52 then .oof else bif decide (16 < CC) then .oof else bif decide (-9223372036854775808<=(i+CC)/\(i+CC)<=9223372036854775807) then bif decide (0<=i/\i<=(i+CC)/\(i+CC)<=(text.b.length:Int)) then bif decide ((out.length+([(B9.mk 1 (text.sub i.toNat ((i+CC):Int).toNat) 1 col)]:List B9).length)*40<=140737488355328) then bif decide (-9223372036854775808<=(i+CC)/\(i+CC)<=9223372036854775807) then bif decide (-9223372036854775808<=(col+CC)/\(col+CC)<=9223372036854775807) then N3 text r (out++[(B9.mk 1 (text.sub i.toNat ((i+CC):Int).toNat) 1 col)]) (col+CC) true (i+CC) else .oof else .oof else .oof else .oof else .oof else .oof else .oof else .brk (out,col,open_)
def TA (text:Aa):LR Unit (List B9×Int×Int×Int):=
 bif decide (4096 < (text.b.length:Int)) then .oof else ll (N3 text 100000 [] 1 false 0) fun (AS,Ci,FI)=>
  bif FI then bif decide ((AS.length+([(B9.mk 3 (Aa.mk []) 1 Ci)]:List B9).length)*40<=140737488355328) then .ret ((AS++[(B9.mk 3 (Aa.mk []) 1 Ci)]),0,0,0) else .oof else .oof
def Mw (p:AK) (word:Aa):LR Unit Bool:=
 bif (p.Err == 0) then bif decide (p.at_ < (p.l.length:Int)) then bif decide (0<=p.at_/\p.at_ < (p.l.length:Int)) then bif decide (0<=p.at_/\p.at_ < (p.l.length:Int)) then bif ((p.l.getD p.at_.toNat default).Kind == 1) then bif decide (0<=p.at_/\p.at_ < (p.l.length:Int)) then .ret ((p.l.getD p.at_.toNat default).Text == word) else .oof else .oof else .oof else .oof else .ret false else .oof
def Qq (p:AK) (w:Aa):LR Unit AK:=
 lb (Mw p w) fun rv1=>
 bif (!rv1) then .oof else bif decide (-9223372036854775808<=(p.at_+1)/\(p.at_+1)<=9223372036854775807) then .ret (AK.mk p.l (p.at_+1) p.Err) else .oof
def N0 (p:AK):LR Unit Bool:=
 bif (p.Err == 0) then bif decide (p.at_ < (p.l.length:Int)) then bif decide (0<=p.at_/\p.at_ < (p.l.length:Int)) then bif decide (0<=p.at_/\p.at_ < (p.l.length:Int)) then bif ((p.l.getD p.at_.toNat default).Kind == 1) then bif decide (0<=p.at_/\p.at_ < (p.l.length:Int)) then lv (BY ((p.l.getD p.at_.toNat default).Text)) fun rv11=>
       .ret rv11 else .oof else .ret false else .oof else .oof else .oof else .oof
def LU (p:AK):LR Unit (Aa×AK):=
 lb (N0 p) fun rv1=>
 bif (!rv1) then .oof else bif decide (-9223372036854775808<=(p.at_+1)/\(p.at_+1)<=9223372036854775807) then bif decide (-9223372036854775808<=((p.at_+1) - 1)/\((p.at_+1) - 1)<=9223372036854775807) then bif decide (0<=((p.at_+1) - 1)/\((p.at_+1) - 1) < (p.l.length:Int)) then bif decide (0<=((p.at_+1) - 1)/\((p.at_+1) - 1) < (p.l.length:Int)) then .ret ((p.l.getD (((p.at_+1) - 1):Int).toNat default).Text,(AK.mk p.l (p.at_+1) p.Err)) else .oof else .oof else .oof else .oof
def P1 (p:AK) (k:Int):LR Unit Bool:=
 bif (p.Err == 0) then bif decide (p.at_ < (p.l.length:Int)) then bif decide (0<=p.at_/\p.at_ < (p.l.length:Int)) then bif decide (0<=p.at_/\p.at_ < (p.l.length:Int)) then .ret ((p.l.getD p.at_.toNat default).Kind == k) else .oof else .oof else .oof else .oof
def JM (p:AK):LR Unit AK:=
 lb (P1 p 3) fun rv1=>
 bif (!rv1) then .oof else bif decide (-9223372036854775808<=(p.at_+1)/\(p.at_+1)<=9223372036854775807) then .ret (AK.mk p.l (p.at_+1) p.Err) else .oof
def Qz (p:AK):Nat->Int->LR Unit Bool
 | 0,i=>.brk ()
 | r+1,i=>bif decide (0<=i/\i < (([(Aa.mk [117,115,101]),(Aa.mk [99,97,108,108]),(Aa.mk [115,111,117,114,99,101]),(Aa.mk [115,105,110,107]),(Aa.mk [115,97,110,105,116,105,122,101]),(Aa.mk [103,111,116,111]),(Aa.mk [98,114,97,110,99,104]),(Aa.mk [114,101,116,117,114,110])]:List Aa).length:Int)) then lb (Mw p ([(Aa.mk [117,115,101]),(Aa.mk [99,97,108,108]),(Aa.mk [115,111,117,114,99,101]),(Aa.mk [115,105,110,107]),(Aa.mk [115,97,110,105,116,105,122,101]),(Aa.mk [103,111,116,111]),(Aa.mk [98,114,97,110,99,104]),(Aa.mk [114,101,116,117,114,110])].getD i.toNat default)) fun rv11=>
   bif rv11 then .ret true else bif decide (-9223372036854775808<=(i+1)/\(i+1)<=9223372036854775807) then Qz p r (i+1) else .oof else .oof
def Sk (p:AK):LR Unit Bool:=
 ll (Qz p (((((8:Nat):Int):Int) - 0).toNat) 0) fun _=>
 lb (N0 p) fun rv6=>
 .ret rv6
def Wr (p:AK):Nat->LR Unit (List Aa×AK)
 | 0=>.oof
 | r+1=>
  lb (N0 p) fun rv1=>
  bif rv1 then .oof else .brk ()
def Rp (p:AK) (have_:Int):LR Unit (List Aa×AK):=
 ll (Wr p 1) fun _=>
 .ret (([]:List Aa),p)
def RL (p:AK):Nat->Int->Int->List Aa->LR (Int×Int×List Aa) (List Aa×AK)
 | 0,p1,p2,out=>.oof
 | r+1,p1,p2,out=>
  lb (N0 (AK.mk p.l p1 p2)) fun rv1=>
  bif rv1 then bif ((out.length:Int) == 4) then .oof else lb (LU (AK.mk p.l p1 p2)) fun rv8=>
    bif decide ((out.length+([rv8.1]:List Aa).length)*16<=140737488355328) then RL p r rv8.2.at_ rv8.2.Err (out++[rv8.1]) else .oof else .brk (p1,p2,out)
def RZ (p:AK):LR Unit (List Aa×AK):=
 ll (RL p 100000 p.at_ p.Err []) fun (AS,Ci,FI)=>
 .ret (FI,(AK.mk p.l AS Ci))
def UE (p:AK):LR Unit (Az×AK):=
 lb (N0 p) fun rv3=>
 bif (!rv3) then bif decide (0<=p.at_/\p.at_ < (p.l.length:Int)) then bif decide (0<=p.at_/\p.at_ < (p.l.length:Int)) then bif decide (-9223372036854775808<=(p.at_+1)/\(p.at_+1)<=9223372036854775807) then bif ((p.l.getD p.at_.toNat default).Text == (Aa.mk [117,115,101])) then lb (LU (AK.mk p.l (p.at_+1) p.Err)) fun rv16=>
      lb (Rp (AK.mk p.l rv16.2.at_ rv16.2.Err) 1) fun rv26=>
      bif decide ((([rv16.1]:List Aa).length+rv26.1.length)*16<=140737488355328) then lb (JM (AK.mk p.l rv26.2.at_ rv26.2.Err)) fun rv41=>
       .ret ((Az.mk 2 (Aa.mk []) ([rv16.1]++rv26.1) []),(AK.mk p.l rv41.at_ rv41.Err)) else .oof else bif ((p.l.getD p.at_.toNat default).Text == (Aa.mk [99,97,108,108])) then .oof else bif ((p.l.getD p.at_.toNat default).Text == (Aa.mk [115,111,117,114,99,101])) then .oof else bif ((p.l.getD p.at_.toNat default).Text == (Aa.mk [115,105,110,107])) then .oof else bif ((p.l.getD p.at_.toNat default).Text == (Aa.mk [115,97,110,105,116,105,122,101])) then .oof else bif ((p.l.getD p.at_.toNat default).Text == (Aa.mk [103,111,116,111])) then .oof else bif ((p.l.getD p.at_.toNat default).Text == (Aa.mk [98,114,97,110,99,104])) then .oof else bif ((p.l.getD p.at_.toNat default).Text == (Aa.mk [114,101,116,117,114,110])) then lb (JM (AK.mk p.l (p.at_+1) p.Err)) fun rv61=>
             .ret ((Az.mk 9 (Aa.mk []) [] []),(AK.mk p.l rv61.at_ rv61.Err)) else lb (LU (AK.mk p.l (p.at_+1) p.Err)) fun rv67=>
             lb (P1 (AK.mk p.l rv67.2.at_ rv67.2.Err) 2) fun rv73=>
             bif (!rv73) then .oof else bif decide (-9223372036854775808<=(rv67.2.at_+1)/\(rv67.2.at_+1)<=9223372036854775807) then lb (RZ (AK.mk p.l (rv67.2.at_+1) rv67.2.Err)) fun rv81=>
               lb (JM (AK.mk p.l rv81.2.at_ rv81.2.Err)) fun rv90=>
               .ret ((Az.mk 1 rv67.1 rv81.1 []),(AK.mk p.l rv90.at_ rv90.Err)) else .oof else .oof else .oof else .oof else bif ((Aa.mk []) == (Aa.mk [117,115,101])) then lb (LU p) fun rv100=>
   lb (Rp (AK.mk p.l rv100.2.at_ rv100.2.Err) 1) fun rv110=>
   bif decide ((([rv100.1]:List Aa).length+rv110.1.length)*16<=140737488355328) then lb (JM (AK.mk p.l rv110.2.at_ rv110.2.Err)) fun rv125=>
    .ret ((Az.mk 2 (Aa.mk []) ([rv100.1]++rv110.1) []),(AK.mk p.l rv125.at_ rv125.Err)) else .oof else bif ((Aa.mk []) == (Aa.mk [99,97,108,108])) then .oof else bif ((Aa.mk []) == (Aa.mk [115,111,117,114,99,101])) then .oof else bif ((Aa.mk []) == (Aa.mk [115,105,110,107])) then .oof else bif ((Aa.mk []) == (Aa.mk [115,97,110,105,116,105,122,101])) then .oof else bif ((Aa.mk []) == (Aa.mk [103,111,116,111])) then .oof else bif ((Aa.mk []) == (Aa.mk [98,114,97,110,99,104])) then .oof else bif ((Aa.mk []) == (Aa.mk [114,101,116,117,114,110])) then lb (JM p) fun rv145=>
          .ret ((Az.mk 9 (Aa.mk []) [] []),(AK.mk p.l rv145.at_ rv145.Err)) else lb (LU p) fun rv151=>
          lb (P1 (AK.mk p.l rv151.2.at_ rv151.2.Err) 2) fun rv157=>
          bif (!rv157) then .oof else bif decide (-9223372036854775808<=(rv151.2.at_+1)/\(rv151.2.at_+1)<=9223372036854775807) then lb (RZ (AK.mk p.l (rv151.2.at_+1) rv151.2.Err)) fun rv165=>
            lb (JM (AK.mk p.l rv165.2.at_ rv165.2.Err)) fun rv174=>
            .ret ((Az.mk 1 rv151.1 rv165.1 []),(AK.mk p.l rv174.at_ rv174.Err)) else .oof
def Tr (p:AK):Nat->Int->Int->List Az->LR (Int×Int×List Az) (A3×AK)
 | 0,p1,p2,b1=>.oof
 | r+1,p1,p2,b1=>
  lb (Sk (AK.mk p.l p1 p2)) fun rv26=>
  bif rv26 then bif ((b1.length:Int) == 32) then .oof else lb (UE (AK.mk p.l p1 p2)) fun rv35=>
    bif decide ((b1.length+([rv35.1]:List Az).length)*72<=140737488355328) then Tr p r rv35.2.at_ rv35.2.Err (b1++[rv35.1]) else .oof else .brk (p1,p2,b1)
def UN (p:AK):LR Unit (A3×AK):=
 lb (Qq p (Aa.mk [98,108,111,99,107])) fun rv3=>
 lb (LU (AK.mk p.l rv3.at_ rv3.Err)) fun rv8=>
 lb (JM (AK.mk p.l rv8.2.at_ rv8.2.Err)) fun rv14=>
 lb (Sk (AK.mk p.l rv14.at_ rv14.Err)) fun rv19=>
 bif (!rv19) then .oof else ll (Tr p 100000 rv14.at_ rv14.Err []) fun (AS,Ci,FI)=>
  .ret ((A3.mk rv8.1 FI),(AK.mk p.l AS Ci))
def Se (p:AK):Nat->Int->Int->List A3->LR (Int×Int×List A3) (A7×AK)
 | 0,p1,p2,f1=>.oof
 | r+1,p1,p2,f1=>
  lb (Mw (AK.mk p.l p1 p2) (Aa.mk [98,108,111,99,107])) fun rv26=>
  bif rv26 then bif ((f1.length:Int) == 16) then .oof else lb (UN (AK.mk p.l p1 p2)) fun rv34=>
    bif decide ((f1.length+([rv34.1]:List A3).length)*40<=140737488355328) then Se p r rv34.2.at_ rv34.2.Err (f1++[rv34.1]) else .oof else .brk (p1,p2,f1)
def Wt (p:AK):LR Unit (A7×AK):=
 lb (Qq p (Aa.mk [102,117,110,99])) fun rv3=>
 lb (LU (AK.mk p.l rv3.at_ rv3.Err)) fun rv8=>
 lb (JM (AK.mk p.l rv8.2.at_ rv8.2.Err)) fun rv14=>
 lb (Mw (AK.mk p.l rv14.at_ rv14.Err) (Aa.mk [98,108,111,99,107])) fun rv19=>
 bif (!rv19) then .oof else ll (Se p 100000 rv14.at_ rv14.Err []) fun (AS,Ci,FI)=>
  lb (Qq (AK.mk p.l AS Ci) (Aa.mk [101,110,100])) fun rv31=>
  lb (JM (AK.mk p.l rv31.at_ rv31.Err)) fun rv36=>
  .ret ((A7.mk rv8.1 FI),(AK.mk p.l rv36.at_ rv36.Err))
def SC  (p0:List B9):Nat->Int->Int->List A7->LR (Int×Int×List A7) (Aw×Int×Int×Int)
 | 0,p1,p2,out0=>.oof
 | r+1,p1,p2,out0=>
  lb (Mw (AK.mk p0 p1 p2) (Aa.mk [102,117,110,99])) fun rv23=>
  bif rv23 then bif ((out0.length:Int) == 8) then .oof else lb (Wt (AK.mk p0 p1 p2)) fun rv31=>
    bif decide ((out0.length+([rv31.1]:List A7).length)*40<=140737488355328) then SC p0 r rv31.2.at_ rv31.2.Err (out0++[rv31.1]) else .oof else .brk (p1,p2,out0)
def T1 (text:Aa):LR Unit (Aw×Int×Int×Int):=
 lb (TA text) fun rv3=>
 bif (rv3.2.2.2 != 0) then .oof else lb (Mw (AK.mk rv3.1 0 0) (Aa.mk [102,117,110,99])) fun rv16=>
  bif (!rv16) then .oof else ll (SC rv3.1 100000 0 0 []) fun (AS,Ci,FI)=>
   bif (Ci == 0) then bif decide (AS < (rv3.1.length:Int)) then .oof else .ret ((Aw.mk FI),0,0,0) else .oof
def V1 (width:Int) (n:Int):LR Unit Bool:=
 bif decide (0<=width) then bif decide (width<=256) then bif decide (1<=n) then .ret (decide (n<=256)) else .oof else .oof else .oof
def QU (l:List Int) (n:Int):Nat->Int->LR Unit Bool
 | 0,v9=>.brk ()
 | r+1,v9=>bif decide (0<=v9/\v9 < (l.length:Int)) then bif decide ((l.getD v9.toNat 0) < 0) then .oof else bif decide (n<=(l.getD v9.toNat 0)) then .oof else bif decide (0 < v9) then .oof else bif decide (-9223372036854775808<=(v9+1)/\(v9+1)<=9223372036854775807) then QU l n r (v9+1) else .oof else .oof
def Vk (l:List Int) (n:Int):LR Unit Bool:=
 ll (QU l n (((l.length:Int) - 0).toNat) 0) fun _=>
 .ret true
def Qc (s:List AE) (fp:AE->LR Unit Bool):Nat->Int->LR Unit Int
 | 0,v8=>.brk ()
 | r+1,v8=>bif decide (0<=v8/\v8 < (s.length:Int)) then bif decide (0<=v8/\v8 < (s.length:Int)) then lb (fp (s.getD v8.toNat default)) fun rv7=>
    bif rv7 then .oof else bif decide (-9223372036854775808<=(v8+1)/\(v8+1)<=9223372036854775807) then Qc s fp r (v8+1) else .oof else .oof else .oof
def UC (s:List AE) (fp:AE->LR Unit Bool):LR Unit Int:=
 ll (Qc s fp (((s.length:Int) - 0).toNat) 0) fun _=>
 .ret (-1)
def Ua (s:List AE) (fp:AE->LR Unit Bool):LR Unit Bool:=
 lb (UC s fp) fun rv1=>
 .ret (decide (0<=rv1))
def JF (width:Int):Bool:=
 bif decide (0<=width) then decide (width<=256) else false
def MH (width:Int):Int:=
 (((width+64) - 1) / 64)
def O9 (width:Int):BitVec 64:=
 (18446744073709551615#64 <<< ((((BitVec.ofInt 64 width) % 64#64).toNat:Int)).toNat)
def Fv (s:AE):Bool:=
 let rv2:=(JF s.Width);bif (!rv2) then false else let rv12:=(MH s.Width);bif ((s.Words.length:Int) != rv12) then false else bif ((s.Width % 64) == 0) then true else let rv23:=(O9 s.Width);(((s.Words.getD (((s.Words.length:Int) - 1):Int).toNat 0#64) &&& rv23) == 0#64)
def Tp (s:AE) (cap0:Int):LR Unit Bool:=
 lv (Fv s) fun rv2=>
 bif (!rv2) then .oof else .ret (s.Width != cap0)
def Wg (width:Int) (l:List AE):LR Unit Bool:=
 lb (Ua l (fun x=>Tp x width)) fun rv2=>
 .ret (!rv2)
def Qe (s:List A8) (fp:A8->LR Unit Bool):Nat->Int->LR Unit Int
 | 0,v8=>.brk ()
 | r+1,v8=>bif decide (0<=v8/\v8 < (s.length:Int)) then bif decide (0<=v8/\v8 < (s.length:Int)) then lb (fp (s.getD v8.toNat default)) fun rv14=>
    bif rv14 then .oof else bif decide (-9223372036854775808<=(v8+1)/\(v8+1)<=9223372036854775807) then Qe s fp r (v8+1) else .oof else .oof else .oof
def U6 (s:List A8) (fp:A8->LR Unit Bool):LR Unit Int:=
 ll (Qe s fp (((s.length:Int) - 0).toNat) 0) fun _=>
 .ret (-1)
def Wa (s:List A8) (fp:A8->LR Unit Bool):LR Unit Bool:=
 lb (U6 s fp) fun rv1=>
 .ret (decide (0<=rv1))
def Ug (t:A8):Nat->LR Unit Bool
 | 0=>.oof
 | r+1=>bif decide (0 < (t.Copies.length:Int)) then .oof else .brk ()
def Te (t:A8):LR Unit Bool:=
 lv (Fv t.Gen) fun rv2=>
 bif (!rv2) then .oof else lv (Fv t.Kill) fun rv9=>
  bif (!rv9) then .oof else bif (t.Gen.Width != t.Kill.Width) then .oof else bif decide (64 < (t.Copies.length:Int)) then .oof else ll (Ug t 1) fun _=>
     .ret true
def UJ (width:Int) (f:A8):LR Unit Bool:=
 lb (Te f) fun rv2=>
 bif rv2 then .ret (f.Gen.Width == width) else .oof
def Rm (f:A8) (cap0:A6):LR Unit Bool:=
 lb (UJ cap0.Width f) fun rv2=>
 .ret (!rv2)
def QV (s:A6):Nat->Int->Int->LR Unit Bool
 | 0,edges,v32=>.brk ()
 | r+1,edges,v32=>bif decide (0<=v32/\v32 < (s.Deps.length:Int)) then bif decide (0<=v32/\v32 < (s.Deps.length:Int)) then bif decide (-9223372036854775808<=(edges+((s.Deps.getD v32.toNat []).length:Int))/\(edges+((s.Deps.getD v32.toNat []).length:Int))<=9223372036854775807) then bif decide (1024 < (edges+((s.Deps.getD v32.toNat []).length:Int))) then .oof else lb (Vk (s.Deps.getD v32.toNat []) (s.Deps.length:Int)) fun rv21=>
      bif (!rv21) then .oof else bif decide (-9223372036854775808<=(v32+1)/\(v32+1)<=9223372036854775807) then QV s r (edges+((s.Deps.getD v32.toNat []).length:Int)) (v32+1) else .oof else .oof else .oof else .oof
def UH (s:A6):LR Unit Bool:=
 lb (V1 s.Width (s.Deps.length:Int)) fun rv2=>
 bif (!rv2) then .oof else bif ((s.Transfers.length:Int) != (s.Deps.length:Int)) then .oof else bif ((s.Boundary.length:Int) != (s.Deps.length:Int)) then .oof else ll (QV s (((s.Deps.length:Int) - 0).toNat) 0 0) fun _=>
    lb (Wg s.Width s.Boundary) fun rv13=>
    bif rv13 then lb (Wa s.Transfers (fun x=>Rm x s)) fun rv18=>
     .ret (!rv18) else .oof
def P6 (s:A6) (n:Int) (bit:Int):LR Unit Int:=
 lb (UH s) fun rv2=>
 bif (!rv2) then .oof else bif decide (n < 0) then .oof else bif decide ((s.Deps.length:Int)<=n) then .oof else bif decide (bit < 0) then .oof else bif decide (s.Width<=bit) then .oof else .ret 0
def Q1 (s:List Ao) (fp:Ao->LR Unit Bool):Nat->Int->LR Unit Int
 | 0,v8=>.brk ()
 | r+1,v8=>bif decide (0<=v8/\v8 < (s.length:Int)) then bif decide (0<=v8/\v8 < (s.length:Int)) then lb (fp (s.getD v8.toNat default)) fun rv5=>
    bif rv5 then .ret v8 else bif decide (-9223372036854775808<=(v8+1)/\(v8+1)<=9223372036854775807) then Q1 s fp r (v8+1) else .oof else .oof else .oof
def TU (s:List Ao) (fp:Ao->LR Unit Bool):LR Unit Int:=
 ll (Q1 s fp (((s.length:Int) - 0).toNat) 0) fun _=>
 .ret (-1)
def Ul (s:List Ao) (j:Int):Nat->LR Unit (List Ao)
 | 0=>.oof
 | r+1=>bif decide (j < (s.length:Int)) then .oof else .brk ()
def Wc (s:List Ao) (delp:Ao->LR Unit Bool):LR Unit (List Ao):=
 lb (TU s delp) fun rv1=>
 bif (rv1 == -1) then .ret s else bif decide (-9223372036854775808<=(rv1+1)/\(rv1+1)<=9223372036854775807) then ll (Ul s (rv1+1) 1) fun _=>
   bif decide (0<=rv1/\rv1 < (s.length:Int)) then bif decide ((rv1.toNat)+(s.length - rv1.toNat)=s.length) then bif decide (0<=rv1/\rv1<=((((s.take (rv1.toNat))++(List.replicate (s.length - rv1.toNat) (Ao.mk 0 0))):List Ao).length:Int)) then .ret ((((s.take (rv1.toNat))++(List.replicate (s.length - rv1.toNat) (Ao.mk 0 0))).take (rv1.toNat)).drop 0) else .oof else .oof else .oof else .oof
def UI (s:List Ao):LR Unit (List Ao):=.ret s
def TM (s:AE) (b:Int):LR Unit Bool:=
 bif decide (0<=b) then .ret (decide (b < s.Width)) else .oof
def Pj (s:AE) (b:Int):LR Unit Bool:=
 lv (Fv s) fun rv2=>
 bif rv2 then lb (TM s b) fun rv7=>
  bif rv7 then bif decide (0<=b) then bif decide (0<=(b / 64)/\(b / 64) < (s.Words.length:Int)) then .ret ((((s.Words.getD ((b / 64):Int).toNat 0#64) >>> ((((BitVec.ofInt 64 b) % 64#64).toNat:Int)).toNat) &&& 1#64) == 1#64) else .oof else .oof else .oof else .oof
def Q6 (s:List Int) (fp:Int->LR Unit Bool):Nat->Int->LR Unit Int
 | 0,v8=>.brk ()
 | r+1,v8=>bif decide (0<=v8/\v8 < (s.length:Int)) then lb (fp (s.getD v8.toNat 0)) fun rv4=>
   bif rv4 then .ret v8 else bif decide (-9223372036854775808<=(v8+1)/\(v8+1)<=9223372036854775807) then Q6 s fp r (v8+1) else .oof else .oof
def Vy (s:List Int) (fp:Int->LR Unit Bool):LR Unit Int:=
 ll (Q6 s fp (((s.length:Int) - 0).toNat) 0) fun _=>
 .ret (-1)
def Wv (s:List Int) (fp:Int->LR Unit Bool):LR Unit Bool:=
 lb (Vy s fp) fun rv1=>
 .ret (decide (0<=rv1))
def Tu (k:Int) (cap0:A6) (cap1:Ao):LR Unit Bool:=
 bif decide (0<=k/\k < (cap0.Transfers.length:Int)) then bif decide (0<=k/\k < (cap0.Transfers.length:Int)) then lb (Pj ((cap0.Transfers.getD k.toNat default).Gen) cap1.Bit) fun rv12=>
   .ret rv12 else .oof else .oof
def Tm (s:A6) (h:Ao):LR Unit Bool:=
 bif decide (0<=h.Node/\h.Node < (s.Boundary.length:Int)) then bif decide (0<=h.Node/\h.Node < (s.Boundary.length:Int)) then lb (Pj (s.Boundary.getD h.Node.toNat default) h.Bit) fun rv7=>
   bif rv7 then .oof else bif decide (0<=h.Node/\h.Node < (s.Deps.length:Int)) then bif decide (0<=h.Node/\h.Node < (s.Deps.length:Int)) then lb (Wv (s.Deps.getD h.Node.toNat []) (fun x=>Tu x s h)) fun rv16=>
      .ret rv16 else .oof else .oof else .oof else .oof
def SR (h:Ao) (cap0:A6):LR Unit Bool:=
 lb (Tm cap0 h) fun rv2=>
 .ret (!rv2)
def VD (x:List Ao):Nat->LR Unit Ao
 | 0=>.oof
 | r+1=>bif decide (1 < (x.length:Int)) then .oof else .brk ()
def Vj (x:List Ao) (cmpp:Ao->Ao->LR Unit Int):LR Unit Ao:=
 bif decide ((x.length:Int) < 1) then .oof else bif decide (0<=0/\0 < (x.length:Int)) then bif decide (0<=0/\0 < (x.length:Int)) then ll (VD x 1) fun _=>
    .ret (x.getD (0:Int).toNat default) else .oof else .oof
def Tt (next:List (Ao×List Ao)):Nat->List Ao->List Ao->LR (List Ao) (List Ao)
 | 0,l',out=>.oof
 | r+1,l',out=>bif decide (0 < (l'.length:Int)) then lb (Vj l' (fun x0 x1=>.oof)) fun rv3=>
   bif decide ((out.length+([rv3]:List Ao).length)*16<=140737488355328) then Tt next r ((Bx next rv3).getD []) (out++[rv3]) else .oof else .brk out
def VS (l:List Ao) (next:List (Ao×List Ao)):LR Unit (List Ao):=
 ll (Tt next 100000 l []) fun AS=>
 .ret AS
def Qp (h:Ao) (m:Int) (f2:Int) (f3:List (BitVec 64)):Nat->List Ao->Int->LR (List Ao) (List Ao)
 | 0,out,v28=>.brk out
 | r+1,out,v28=>bif (v28 == h.Bit) then lb (Pj (AE.mk f2 f3) v28) fun rv26=>
   bif (!rv26) then bif decide ((out.length+([(Ao.mk m v28)]:List Ao).length)*16<=140737488355328) then bif decide (-9223372036854775808<=(v28+1)/\(v28+1)<=9223372036854775807) then Qp h m f2 f3 r (out++[(Ao.mk m v28)]) (v28+1) else .oof else .oof else .oof else .oof
def QD (s:A6) (h:Ao):Nat->List Ao->Int->LR (List Ao) (List Ao)
 | 0,out,v17=>.brk out
 | r+1,out,v17=>bif decide (0<=v17/\v17 < (((s.Deps.getD h.Node.toNat []):List Int).length:Int)) then bif decide (0<=((s.Deps.getD h.Node.toNat []).getD v17.toNat 0)/\((s.Deps.getD h.Node.toNat []).getD v17.toNat 0) < (s.Transfers.length:Int)) then bif decide (0<=((s.Deps.getD h.Node.toNat []).getD v17.toNat 0)/\((s.Deps.getD h.Node.toNat []).getD v17.toNat 0) < (s.Transfers.length:Int)) then ll (Qp h ((s.Deps.getD h.Node.toNat []).getD v17.toNat 0) (((s.Transfers.getD (((s.Deps.getD h.Node.toNat []).getD v17.toNat 0):Int).toNat default).Kill).Width) (((s.Transfers.getD (((s.Deps.getD h.Node.toNat []).getD v17.toNat 0):Int).toNat default).Kill).Words) (((s.Width:Int) - 0).toNat) out 0) fun B8=>
     bif decide (-9223372036854775808<=(v17+1)/\(v17+1)<=9223372036854775807) then QD s h r B8 (v17+1) else .oof else .oof else .oof else .oof
def Vb (s:A6) (h:Ao):LR Unit (List Ao):=
 bif decide (0<=h.Node/\h.Node < (s.Deps.length:Int)) then bif decide (0<=h.Node/\h.Node < (s.Deps.length:Int)) then ll (QD s h (((((s.Deps.getD h.Node.toNat []).length:Int):Int) - 0).toNat) [] 0) fun AS=>
   .ret AS else .oof else .oof
def QW  (next:List (Ao×List Ao)) (h0:Int) (h1:Int) (v58:List Ao):Nat->List (Ao×List Ao)->List Ao->Int->LR ((List (Ao×List Ao))×List Ao) (List Ao×Bool×Int)
 | 0,found,further,v60=>.brk (found,further)
 | r+1,found,further,v60=>bif decide (0<=v60/\v60 < (v58.length:Int)) then bif decide (0<=v60/\v60 < (v58.length:Int)) then bif (Bx next (v58.getD v60.toNat default)).isSome then .oof else bif decide ((Bx found (v58.getD v60.toNat default)).isSome=false) then bif decide ((further.length+([(v58.getD v60.toNat default)]:List Ao).length)*16<=140737488355328) then bif decide ((Bx found (v58.getD v60.toNat default)).isSome=false) then bif decide (-9223372036854775808<=(v60+1)/\(v60+1)<=9223372036854775807) then QW next h0 h1 v58 r (mset ((mset found (v58.getD v60.toNat default) ((Bx found (v58.getD v60.toNat default)).getD [])):List (Ao×List Ao)) (v58.getD v60.toNat default) ([(Ao.mk h0 h1)]:List Ao)) (further++[(v58.getD v60.toNat default)]) (v60+1) else .oof else .oof else .oof else .oof else .oof else .oof
def Q3 (s:A6) (next:List (Ao×List Ao)) (v50:List Ao):Nat->List (Ao×List Ao)->List Ao->Int->LR ((List (Ao×List Ao))×List Ao) (List Ao×Bool×Int)
 | 0,found,further,v52=>.brk (found,further)
 | r+1,found,further,v52=>bif decide (0<=v52/\v52 < (v50.length:Int)) then bif decide (0<=v52/\v52 < (v50.length:Int)) then lb (Vb s (v50.getD v52.toNat default)) fun rv47=>
    ll (QW next ((v50.getD v52.toNat default).Node) ((v50.getD v52.toNat default).Bit) rv47 (((rv47.length:Int) - 0).toNat) found further 0) fun (CC,GA)=>
    bif decide (-9223372036854775808<=(v52+1)/\(v52+1)<=9223372036854775807) then Q3 s next v50 r CC GA (v52+1) else .oof else .oof else .oof
def Lw  : List (Ao×List Ao)->List (Ao×List Ao)->(List (Ao×List Ao))
 | [],next=>
  next
 | en3 :: r,next=>
  Lw r (mset next en3.1 en3.2)
theorem Yr  : ∀ (a b:List (Ao×List Ao)) (next:List (Ao×List Ao)),Lw (a++b) next=Lw b (Lw a next)
 | [],b,next=>rfl
 | en3 :: a,b,next=>by
  rw [List.cons_append,Lw,Lw]
  try simp only [Bool.cond_eq_ite]
  repeat' split
  all_goals exact Yr  a b _
def SF (s:A6):Nat->List (Ao×List Ao)->List Ao->LR Unit (List Ao×Bool×Int)
 | 0,next,level=>.oof
 | r+1,next,level=>
  lb (UI level) fun rv16=>
  lb (Wc rv16 (fun x=>SR x s)) fun rv23=>
  bif decide (0 < (rv23.length:Int)) then lb (VS rv23 next) fun rv32=>
   .ret (rv32,true,0) else ll (Q3 s next level (((level.length:Int) - 0).toNat) [] [] 0) fun (B8,FH)=>
   bif ((FH.length:Int) == 0) then .oof else lv (Lw B8 next) fun Mm=>
    SF s r Mm FH
def TJ (s:A6) (n:Int) (bit:Int):LR Unit (List Ao×Bool×Int):=
 lb (P6 s n bit) fun rv2=>
 bif (rv2 != 0) then .oof else ll (SF s 100000 (mset ([]:List (Ao×List Ao)) (Ao.mk n bit) ([]:List Ao)) [(Ao.mk n bit)]) fun _=>
  .oof
def Q5 (a:List Ao) (b:List Ao):Nat->Int->LR Unit Bool
 | 0,i=>.brk ()
 | r+1,i=>bif decide (0<=i/\i < (a.length:Int)) then bif decide (0<=i/\i < (a.length:Int)) then bif decide (0<=i/\i < (b.length:Int)) then bif decide (0<=i/\i < (b.length:Int)) then bif ([(a.getD i.toNat default).Node,(a.getD i.toNat default).Bit] != [(b.getD i.toNat default).Node,(b.getD i.toNat default).Bit]) then .oof else bif decide (-9223372036854775808<=(i+1)/\(i+1)<=9223372036854775807) then Q5 a b r (i+1) else .oof else .oof else .oof else .oof else .oof
def Uy (a:List Ao) (b:List Ao):LR Unit Bool:=
 bif ((a.length:Int) != (b.length:Int)) then .oof else ll (Q5 a b (((a.length:Int) - 0).toNat) 0) fun _=>
  .ret true
def TO (s:List Int) (v:Int):Nat->LR Unit Int
 | 0=>.oof
 | r+1=>bif decide (0 < (s.length:Int)) then bif decide (0<=0/\0 < (s.length:Int)) then bif (v == (s.getD (0:Int).toNat 0)) then .ret 0 else .oof else .oof else .oof
def UG (s:List Int) (v:Int):LR Unit Int:=
 ll (TO s v 1) fun _=>
 .oof
def R5 (s:List Int) (v:Int):LR Unit Bool:=
 lb (UG s v) fun rv1=>
 .ret (decide (0<=rv1))
def Sz (t:A8) (b:Int):LR Unit Bool:=
 bif decide (0<=b) then .ret (decide (b < t.Gen.Width)) else .oof
def VO (t:A8) (from_:Int) (to_:Int):LR Unit Bool:=
 bif (from_ == to_) then lb (Pj t.Kill to_) fun rv4=>
  bif (!rv4) then .ret true else .oof else .oof
def SS (t:A8) (from_:Int) (to_:Int):LR Unit Bool:=
 lb (Te t) fun rv2=>
 bif rv2 then lb (Sz t from_) fun rv7=>
  bif rv7 then lb (Sz t to_) fun rv12=>
   bif rv12 then lb (VO t from_ to_) fun rv17=>
    .ret rv17 else .oof else .oof else .oof
def MY (s:A6) (l:List Ao):Nat->Int->LR Unit Bool
 | 0,v35=>.brk ()
 | r+1,v35=>bif decide (0<=v35/\v35 < (l.length:Int)) then bif decide (0<=v35/\v35 < (l.length:Int)) then lb (P6 s ((l.getD v35.toNat default).Node) ((l.getD v35.toNat default).Bit)) fun rv19=>
    bif (rv19 != 0) then .oof else bif (v35 == 0) then lb (Tm s (l.getD v35.toNat default)) fun rv27=>
      bif (!rv27) then .oof else bif decide (0 < v35) then bif decide (0<=(l.getD v35.toNat default).Node/\(l.getD v35.toNat default).Node < (s.Deps.length:Int)) then bif decide (0<=(l.getD v35.toNat default).Node/\(l.getD v35.toNat default).Node < (s.Deps.length:Int)) then bif decide (-9223372036854775808<=(v35 - 1)/\(v35 - 1)<=9223372036854775807) then bif decide (0<=(v35 - 1)/\(v35 - 1) < (l.length:Int)) then bif decide (0<=(v35 - 1)/\(v35 - 1) < (l.length:Int)) then lb (R5 (s.Deps.getD ((l.getD v35.toNat default).Node:Int).toNat []) ((l.getD ((v35 - 1):Int).toNat default).Node)) fun rv42=>
             bif rv42 then bif decide (-9223372036854775808<=(v35 - 1)/\(v35 - 1)<=9223372036854775807) then bif decide (0<=(v35 - 1)/\(v35 - 1) < (l.length:Int)) then bif decide (0<=(l.getD ((v35 - 1):Int).toNat default).Node/\(l.getD ((v35 - 1):Int).toNat default).Node < (s.Transfers.length:Int)) then bif decide (0<=(l.getD ((v35 - 1):Int).toNat default).Node/\(l.getD ((v35 - 1):Int).toNat default).Node < (s.Transfers.length:Int)) then bif decide (-9223372036854775808<=(v35 - 1)/\(v35 - 1)<=9223372036854775807) then bif decide (0<=(v35 - 1)/\(v35 - 1) < (l.length:Int)) then lb (SS (s.Transfers.getD ((l.getD ((v35 - 1):Int).toNat default).Node:Int).toNat default) ((l.getD ((v35 - 1):Int).toNat default).Bit) ((l.getD v35.toNat default).Bit)) fun rv58=>
                    bif (!rv58) then .oof else bif decide (-9223372036854775808<=(v35+1)/\(v35+1)<=9223372036854775807) then MY s l r (v35+1) else .oof else .oof else .oof else .oof else .oof else .oof else .oof else .oof else .oof else .oof else .oof else .oof else .oof else bif decide (-9223372036854775808<=(v35+1)/\(v35+1)<=9223372036854775807) then MY s l r (v35+1) else .oof else bif decide (0 < v35) then bif decide (0<=(l.getD v35.toNat default).Node/\(l.getD v35.toNat default).Node < (s.Deps.length:Int)) then bif decide (0<=(l.getD v35.toNat default).Node/\(l.getD v35.toNat default).Node < (s.Deps.length:Int)) then bif decide (-9223372036854775808<=(v35 - 1)/\(v35 - 1)<=9223372036854775807) then bif decide (0<=(v35 - 1)/\(v35 - 1) < (l.length:Int)) then bif decide (0<=(v35 - 1)/\(v35 - 1) < (l.length:Int)) then lb (R5 (s.Deps.getD ((l.getD v35.toNat default).Node:Int).toNat []) ((l.getD ((v35 - 1):Int).toNat default).Node)) fun rv75=>
            bif rv75 then bif decide (-9223372036854775808<=(v35 - 1)/\(v35 - 1)<=9223372036854775807) then bif decide (0<=(v35 - 1)/\(v35 - 1) < (l.length:Int)) then bif decide (0<=(l.getD ((v35 - 1):Int).toNat default).Node/\(l.getD ((v35 - 1):Int).toNat default).Node < (s.Transfers.length:Int)) then bif decide (0<=(l.getD ((v35 - 1):Int).toNat default).Node/\(l.getD ((v35 - 1):Int).toNat default).Node < (s.Transfers.length:Int)) then bif decide (-9223372036854775808<=(v35 - 1)/\(v35 - 1)<=9223372036854775807) then bif decide (0<=(v35 - 1)/\(v35 - 1) < (l.length:Int)) then lb (SS (s.Transfers.getD ((l.getD ((v35 - 1):Int).toNat default).Node:Int).toNat default) ((l.getD ((v35 - 1):Int).toNat default).Bit) ((l.getD v35.toNat default).Bit)) fun rv91=>
                   bif (!rv91) then .oof else bif decide (-9223372036854775808<=(v35+1)/\(v35+1)<=9223372036854775807) then MY s l r (v35+1) else .oof else .oof else .oof else .oof else .oof else .oof else .oof else .oof else .oof else .oof else .oof else .oof else .oof else bif decide (-9223372036854775808<=(v35+1)/\(v35+1)<=9223372036854775807) then MY s l r (v35+1) else .oof else .oof else .oof
def VY (s:A6) (n:Int) (bit:Int) (l:List Ao):LR Unit Bool:=
 lb (P6 s n bit) fun rv2=>
 bif (rv2 != 0) then .oof else bif ((l.length:Int) == 0) then .oof else bif decide (-9223372036854775808<=((l.length:Int) - 1)/\((l.length:Int) - 1)<=9223372036854775807) then bif decide (0<=((l.length:Int) - 1)/\((l.length:Int) - 1) < (l.length:Int)) then bif decide (0<=((l.length:Int) - 1)/\((l.length:Int) - 1) < (l.length:Int)) then bif ([(l.getD (((l.length:Int) - 1):Int).toNat default).Node,(l.getD (((l.length:Int) - 1):Int).toNat default).Bit] != [n,bit]) then .oof else ll (MY s l (((l.length:Int) - 0).toNat) 0) fun _=>
       .ret true else .oof else .oof else .oof
def M4 (l:List Am) (f:Int) (b:Int) (s:Int):Int:=
 let rv1:=(Ej l (Am.mk 3 f b s));rv1
def MD (l:List Am) (f:Int):Int×Int:=
 let rv1:=(Ej l (Am.mk 1 f (-1) (-1)));let rv6:=(Ej l (Am.mk 2 f (-1) (-1)));(rv1,rv6)
def KR (p:Aw) (name:Aa):Nat->Int->LR Unit Int
 | 0,i=>.brk ()
 | r+1,i=>bif ((p.Funcs.getD i.toNat default).Name == name) then .ret i else KR p name r (i+1)
def MI (p:Aw) (name:Aa):Int:=
 match KR p name (((p.Funcs.length:Int) - 0).toNat) 0 with
 | .brk _=>
  -1
 | .ret r=>r
 | .oof=>default
def Hv (p:Aw) (l:List Am) (i:Int):Nat->List Int->Int->List Int
 | 0,out,k=>
  out
 | r+1,out,k=>bif ((l.getD k.toNat default).Kind == 4) then bif ((((((((p.Funcs.getD ((l.getD k.toNat default).Func:Int).toNat default).Blocks).getD ((l.getD k.toNat default).Block:Int).toNat default).Stmts).getD ((l.getD k.toNat default).Stmt:Int).toNat default).Targets).getD (0:Int).toNat default) == (p.Funcs.getD ((l.getD i.toNat default).Func:Int).toNat default).Name) then Hv p l i r (out++[k]) (k+1) else Hv p l i r out (k+1) else Hv p l i r out (k+1)
def L5 (p:Aw) (l:List Am) (i:Int):Nat->List Int->Int->List Int
 | 0,out,t=>
  out
 | r+1,out,t=>let rv82:=(Ef (p.Funcs.getD ((l.getD i.toNat default).Func:Int).toNat default));let rv92:=(Br rv82 (((((((p.Funcs.getD ((l.getD i.toNat default).Func:Int).toNat default).Blocks).getD ((l.getD i.toNat default).Block:Int).toNat default).Stmts).getD ((l.getD i.toNat default).Stmt:Int).toNat default).Targets).getD t.toNat default));let rv96:=(M4 l ((l.getD i.toNat default).Func) rv92 0);L5 p l i r (out++[rv96]) (t+1)
def L9 (p:Aw) (l:List Am) (i:Int) (v138:Bool):List Int:=
 bif v138 then match L5 p l i ((((((((((p.Funcs.getD ((l.getD i.toNat default).Func:Int).toNat default).Blocks).getD ((l.getD i.toNat default).Block:Int).toNat default).Stmts).getD ((l.getD i.toNat default).Stmt:Int).toNat default).Targets).length:Int):Int) - 0).toNat) [] 0 with
  | B8=>
   B8 else let rv79:=(M4 l ((l.getD i.toNat default).Func) ((l.getD i.toNat default).Block) ((l.getD i.toNat default).Stmt+1));[rv79]
def KJ (p:Aw) (l:List Am) (i:Int) (v116:Bool):List Int:=
 bif v116 then let rv59:=(MI p (((((((p.Funcs.getD ((l.getD i.toNat default).Func:Int).toNat default).Blocks).getD ((l.getD i.toNat default).Block:Int).toNat default).Stmts).getD ((l.getD i.toNat default).Stmt:Int).toNat default).Targets).getD (0:Int).toNat default));let rv63:=(MD l rv59);[rv63.1] else bif ((((((p.Funcs.getD ((l.getD i.toNat default).Func:Int).toNat default).Blocks).getD ((l.getD i.toNat default).Block:Int).toNat default).Stmts).getD ((l.getD i.toNat default).Stmt:Int).toNat default).Op == 7) then L9 p l i true else L9 p l i ((((((p.Funcs.getD ((l.getD i.toNat default).Func:Int).toNat default).Blocks).getD ((l.getD i.toNat default).Block:Int).toNat default).Stmts).getD ((l.getD i.toNat default).Stmt:Int).toNat default).Op == 8)
def F6 (p:Aw) (l:List Am) (i:Int):List Int:=
 bif ((l.getD i.toNat default).Kind == 1) then let rv9:=(M4 l ((l.getD i.toNat default).Func) 0 0);[rv9] else bif ((l.getD i.toNat default).Kind == 2) then match Hv p l i (((l.length:Int) - 0).toNat) [] 0 with
   | AS=>
    AS else let rv42:=(MD l ((l.getD i.toNat default).Func));bif ((((((p.Funcs.getD ((l.getD i.toNat default).Func:Int).toNat default).Blocks).getD ((l.getD i.toNat default).Block:Int).toNat default).Stmts).getD ((l.getD i.toNat default).Stmt:Int).toNat default).Op == 9) then [rv42.2] else bif ((((((p.Funcs.getD ((l.getD i.toNat default).Func:Int).toNat default).Blocks).getD ((l.getD i.toNat default).Block:Int).toNat default).Stmts).getD ((l.getD i.toNat default).Stmt:Int).toNat default).Op == 3) then KJ p l i ((l.getD i.toNat default).Kind == 3) else KJ p l i false
def Lx (l:List Int) (n:Int):Nat->Int->Int
 | 0,i=>
  i
 | r+1,i=>bif decide ((l.getD i.toNat 0) < n) then Lx l n r (i+1) else i
def GY (l:List Int) (n:Int):List Int:=
 match Lx l n (((l.length:Int) - 0).toNat) 0 with
 | AS=>bif decide (AS < (l.length:Int)) then bif ((l.getD AS.toNat 0) == n) then l else ((((l.take (AS.toNat)).drop 0)++[n])++((l.take l.length).drop (AS.toNat))) else ((((l.take (AS.toNat)).drop 0)++[n])++((l.take l.length).drop (AS.toNat)))
def OB  (i:Int) (s:List Int):Nat->List (List Int)->List (List Int)->Int->List (List Int)×List (List Int)
 | 0,g1,g2,k=>
  (g1,g2)
 | r+1,g1,g2,k=>let rv52:=(GY (g1.getD i.toNat []) (s.getD k.toNat 0));let rv67:=(GY (g2.getD ((s.getD k.toNat 0):Int).toNat []) i);OB i s r (g1.set i.toNat rv52) (g2.set ((s.getD k.toNat 0):Int).toNat rv67) (k+1)
def Pf (p:Aw) (l:List Am):Nat->List (List Int)->List (List Int)->Int->List (List Int)×List (List Int)
 | 0,g1,g2,i=>
  (g1,g2)
 | r+1,g1,g2,i=>let rv36:=(F6 p l i);match OB i rv36 (((rv36.length:Int) - 0).toNat) g1 g2 0 with
  | (B8,FH)=>
   Pf p l r B8 FH (i+1)
def Qh (p:Aw):JE×Int:=
 let rv3:=(Dp p);bif (rv3.2 != 0) then ((JE.mk [] [] []),rv3.2) else let rv16:=(Cn p);match Pf p rv16 (((rv16.length:Int) - 0).toNat) (List.replicate (rv16.length:Int).toNat []) (List.replicate (rv16.length:Int).toNat []) 0 with
  | (AS,Ci)=>
   ((JE.mk rv16 AS Ci),0)
def Cz (width:Int):AE:=
 (AE.mk width (List.replicate (((width+63) / 64):Int).toNat 0#64))
def DJ (s:AE) (b:Int):AE:=
 let rv4:=(Cz s.Width);(AE.mk rv4.Width ((s.Words.take rv4.Words.length++rv4.Words.drop s.Words.length).set ((b / 64):Int).toNat (((s.Words.take rv4.Words.length++rv4.Words.drop s.Words.length).getD ((b / 64):Int).toNat 0#64) ||| (1#64 <<< (((BitVec.ofInt 64 (b % 64)).toNat:Int)).toNat))))
def O6  : Nat->Int->List (BitVec 64)->Int->Int×List (BitVec 64)
 | 0,s0,s1,b=>
  (s0,s1)
 | r+1,s0,s1,b=>let rv16:=(DJ (AE.mk s0 s1) b);O6 r rv16.Width rv16.Words (b+1)
def Lj (width:Int):AE:=
 let rv3:=(Cz width);match O6 (((width:Int) - 0).toNat) rv3.Width rv3.Words 0 with
 | (AS,Ci)=>
  (AE.mk AS Ci)
def Rq (width:Int):A8:=
 let rv3:=(Cz width);(A8.mk rv3 rv3 [])
def Mb (a:BN) (b:BN):Bool:=
 bif decide (a.From < b.From) then true else bif (a.From == b.From) then decide (a.To < b.To) else false
def MG (s:AE):Nat->Int->LR Unit Bool
 | 0,b=>.brk ()
 | r+1,b=>bif ((((s.Words.getD ((b / 64):Int).toNat 0#64) >>> (((BitVec.ofInt 64 (b % 64)).toNat:Int)).toNat) &&& 1#64) == 1#64) then .ret false else MG s r (b+1)
def EO (s:AE):Bool:=
 bif decide (s.Width < 0) then false else bif decide (256 < s.Width) then false else bif ((s.Words.length:Int) != ((s.Width+63) / 64)) then false else match MG s ((((64*(s.Words.length:Int)):Int) - s.Width).toNat) s.Width with
    | .brk _=>
     true
    | .ret r=>r
    | .oof=>default
def Ia (t:A8):Nat->Int->LR Unit Bool
 | 0,i=>.brk ()
 | r+1,i=>bif decide ((t.Copies.getD i.toNat default).From < 0) then .ret false else bif decide (t.Gen.Width<=(t.Copies.getD i.toNat default).From) then .ret false else bif decide ((t.Copies.getD i.toNat default).To < 0) then .ret false else bif decide (t.Gen.Width<=(t.Copies.getD i.toNat default).To) then .ret false else bif decide (0 < i) then let rv49:=(Mb (t.Copies.getD ((i - 1):Int).toNat default) (t.Copies.getD i.toNat default));bif (!rv49) then .ret false else Ia t r (i+1) else Ia t r (i+1)
def D3 (t:A8):Bool:=
 let rv2:=(EO t.Gen);bif (!rv2) then false else let rv12:=(EO t.Kill);bif (!rv12) then false else bif (t.Gen.Width != t.Kill.Width) then false else bif decide (64 < (t.Copies.length:Int)) then false else match Ia t (((t.Copies.length:Int) - 0).toNat) 0 with
     | .brk _=>
      true
     | .ret r=>r
     | .oof=>default
def Da (s:AE) (b:Int):Bool:=
 let rv2:=(EO s);bif rv2 then bif decide (0<=b) then bif decide (b < s.Width) then ((((s.Words.getD ((b / 64):Int).toNat 0#64) >>> (((BitVec.ofInt 64 (b % 64)).toNat:Int)).toNat) &&& 1#64) == 1#64) else false else false else false
def GT (x:Li) (a:Int):Nat->List BN->Int->List BN
 | 0,t4,b=>
  t4
 | r+1,t4,b=>bif (a != b) then let rv40:=(Da (x.One.getD a.toNat default) b);bif rv40 then let rv45:=(Da x.Zero b);bif (!rv45) then GT x a r (t4++[(BN.mk a b)]) (b+1) else GT x a r t4 (b+1) else GT x a r t4 (b+1) else GT x a r t4 (b+1)
def ID (x:Li):Nat->Int->List (BitVec 64)->List BN->Int->Int×List (BitVec 64)×List BN
 | 0,t2,t3,t4,a=>
  (t2,t3,t4)
 | r+1,t2,t3,t4,a=>let rv20:=(Da (x.One.getD a.toNat default) a);bif (!rv20) then let rv28:=(DJ (AE.mk t2 t3) a);match GT x a (((x.Zero.Width:Int) - 0).toNat) t4 0 with
   | B8=>
    ID x r rv28.Width rv28.Words B8 (a+1) else let rv42:=(Da x.Zero a);bif rv42 then let rv48:=(DJ (AE.mk t2 t3) a);match GT x a (((x.Zero.Width:Int) - 0).toNat) t4 0 with
    | B8=>
     ID x r rv48.Width rv48.Words B8 (a+1) else match GT x a (((x.Zero.Width:Int) - 0).toNat) t4 0 with
    | B8=>
     ID x r t2 t3 B8 (a+1)
def Td (x:Li):A8×Bool:=
 let rv4:=(Cz x.Zero.Width);match ID x (((x.Zero.Width:Int) - 0).toNat) rv4.Width rv4.Words [] 0 with
 | (AS,Ci,FI)=>
  ((A8.mk x.Zero (AE.mk AS Ci) FI),decide ((FI.length:Int)<=64))
def Gq (t:A8) (a:Int) (b:Int):Nat->Int->LR Unit Bool
 | 0,i=>.brk ()
 | r+1,i=>bif ((t.Copies.getD i.toNat default).From == a) then bif ((t.Copies.getD i.toNat default).To == b) then .ret true else Gq t a b r (i+1) else Gq t a b r (i+1)
def JS (t:A8) (a:Int) (b:Int):Bool:=
 bif (a == b) then let rv4:=(Da t.Kill a);bif (!rv4) then true else match Gq t a b (((t.Copies.length:Int) - 0).toNat) 0 with
   | .brk _=>
    false
   | .ret r=>r
   | .oof=>default else match Gq t a b (((t.Copies.length:Int) - 0).toNat) 0 with
  | .brk _=>
   false
  | .ret r=>r
  | .oof=>default
def IF (t:A8) (s:AE) (a:Int):Nat->Int->List (BitVec 64)->Int->LR (Int×List (BitVec 64)) AE
 | 0,out0,out1,b=>.oof
 | r+1,out0,out1,b=>let rv7:=(Da s a);bif rv7 then bif decide (b < s.Width) then let rv14:=(JS t a b);bif rv14 then let rv20:=(DJ (AE.mk out0 out1) b);IF t s a r rv20.Width rv20.Words (b+1) else IF t s a r out0 out1 (b+1) else .brk (out0,out1) else .brk (out0,out1)
def NY (t:A8) (s:AE):Nat->Int->List (BitVec 64)->Int->Int×List (BitVec 64)
 | 0,out0,out1,a=>
  (out0,out1)
 | r+1,out0,out1,a=>
  match IF t s a (s.Width.toNat+1) out0 out1 0 with
  | .brk (B8,FH)=>
   NY t s r B8 FH (a+1)
  | .ret _=>default
  | .oof=>default
def Sp (t:A8) (s:AE):AE:=
 match NY t s (((s.Width:Int) - 0).toNat) t.Gen.Width t.Gen.Words 0 with
 | (AS,Ci)=>
  (AE.mk AS Ci)
def O2 (t:A8):Nat->List AE->Int->List AE
 | 0,x2,b=>
  x2
 | r+1,x2,b=>let rv7:=(Cz t.Gen.Width);let rv17:=(DJ rv7 b);let rv26:=(Sp t rv17);O2 t r (x2++[rv26]) (b+1)
def RF (t:A8):Li:=
 match O2 t (((t.Gen.Width:Int) - 0).toNat) [] 0 with
 | AS=>
  (Li.mk t.Gen AS)
def N4 (t:A8):A8×Int:=
 let rv3:=(D3 t);bif (!rv3) then ((A8.mk (AE.mk 0 []) (AE.mk 0 []) []),1) else let rv15:=(RF t);let rv30:=(Td rv15);(rv30.1,0)
def MU (l:List AO) (v:Int):Nat->Int->List (BitVec 64)->Int->Int×List (BitVec 64)
 | 0,s0,s1,i=>
  (s0,s1)
 | r+1,s0,s1,i=>bif ((l.getD i.toNat default).Var == v) then let rv20:=(DJ (AE.mk s0 s1) i);MU l v r rv20.Width rv20.Words (i+1) else MU l v r s0 s1 (i+1)
def Ro (l:List AO) (v:Int):AE:=
 let rv3:=(Cz (l.length:Int));match MU l v (((l.length:Int) - 0).toNat) rv3.Width rv3.Words 0 with
 | (AS,Ci)=>
  (AE.mk AS Ci)
def Lb  (t0:Int) (t1:List (BitVec 64)) (t2:Int) (t3:List (BitVec 64)) (t4:List BN):A8:=
 let rv78:=(N4 (A8.mk (AE.mk t0 t1) (AE.mk t2 t3) t4));rv78.1
def M9 (l:List AO) (node:Int):Nat->Int->List (BitVec 64)->Int->Int×List (BitVec 64)
 | 0,t0,t1,i=>
  (t0,t1)
 | r+1,t0,t1,i=>bif ((l.getD i.toNat default).Node == node) then let rv103:=(DJ (AE.mk t0 t1) i);M9 l node r rv103.Width rv103.Words (i+1) else M9 l node r t0 t1 (i+1)
def Hs (s:Az) (vars:List Aa) (x:Int):Nat->List BN->Int->List BN
 | 0,t4,u=>
  t4
 | r+1,t4,u=>let rv120:=(Br s.Uses (vars.getD u.toNat default));bif decide (0<=rv120) then Hs s vars x r (t4++[(BN.mk u x)]) (u+1) else Hs s vars x r t4 (u+1)
def IM (kind:Int) (l:List AO) (node:Int) (s:Az) (t0:Int) (t1:List (BitVec 64)) (t2:Int) (t3:List (BitVec 64)) (t4:List BN) (vars:List Aa):A8:=
 let rv33:=(Hg s);bif (!rv33) then let rv43:=(N4 (A8.mk (AE.mk t0 t1) (AE.mk t2 t3) t4));rv43.1 else let rv62:=(Br vars s.Def);let rv67:=(Ro l rv62);bif (kind == 1) then match M9 l node (((l.length:Int) - 0).toNat) t0 t1 0 with
   | (B8,FH)=>
    Lb B8 FH rv67.Width rv67.Words t4 else bif (kind == 3) then bif (s.Op == 4) then Lb rv67.Width rv67.Words rv67.Width rv67.Words t4 else bif (kind != 2) then bif (s.Op == 1) then match Hs s vars rv62 (((vars.length:Int) - 0).toNat) t4 0 with
       | CC=>
        Lb t0 t1 rv67.Width rv67.Words CC else Lb t0 t1 rv67.Width rv67.Words t4 else Lb t0 t1 rv67.Width rv67.Words t4 else bif (kind != 2) then bif (s.Op == 1) then match Hs s vars rv62 (((vars.length:Int) - 0).toNat) t4 0 with
      | CC=>
       Lb t0 t1 rv67.Width rv67.Words CC else Lb t0 t1 rv67.Width rv67.Words t4 else Lb t0 t1 rv67.Width rv67.Words t4
def OE (s:Az) (vars:List Aa):Nat->Int->List (BitVec 64)->Int->Int×List (BitVec 64)
 | 0,t0,t1,i=>
  (t0,t1)
 | r+1,t0,t1,i=>let rv137:=(Br vars (s.Uses.getD i.toNat default));let rv142:=(DJ (AE.mk t0 t1) rv137);OE s vars r rv142.Width rv142.Words (i+1)
def DO (p:Aw) (kind:Int) (l:List AO) (node:Int) (s:Az):A8:=
 let rv7:=(Rq (l.length:Int));let rv25:=(Ca p);bif (kind == 2) then match OE s rv25 (((s.Uses.length:Int) - 0).toNat) rv7.Gen.Width rv7.Gen.Words 0 with
  | (AS,Ci)=>
   IM kind l node s AS Ci rv7.Kill.Width rv7.Kill.Words rv7.Copies rv25 else IM kind l node s rv7.Gen.Width rv7.Gen.Words rv7.Kill.Width rv7.Kill.Words rv7.Copies rv25
def Dd (p:Aw) (kind:Int) (l:List AO) (g0:List Am) (g1:List (List Int)) (g2:List (List Int)):Nat->List (List Int)->List A8->List AE->Int->List (List Int)×List A8×List AE
 | 0,s1,s2,s3,i=>
  (s1,s2,s3)
 | r+1,s1,s2,s3,i=>bif (kind == 2) then bif ((g0.getD i.toNat default).Kind == 3) then let rv56:=(Eu p (g0.getD i.toNat default));let rv70:=(Cz (l.length:Int));bif (kind == 4) then bif (i == 0) then let rv85:=(Lj (l.length:Int));let rv109:=(DO p kind l i rv56.1);Dd p kind l g0 g1 g2 r (s1++[(g1.getD i.toNat [])]) (s2++[rv109]) (s3++[rv85]) (i+1) else let rv157:=(DO p kind l i rv56.1);Dd p kind l g0 g1 g2 r (s1++[(g1.getD i.toNat [])]) (s2++[rv157]) (s3++[rv70]) (i+1) else let rv205:=(DO p kind l i rv56.1);Dd p kind l g0 g1 g2 r (s1++[(g1.getD i.toNat [])]) (s2++[rv205]) (s3++[rv70]) (i+1) else let rv237:=(Cz (l.length:Int));bif (kind == 4) then bif (i == 0) then let rv252:=(Lj (l.length:Int));let rv276:=(DO p kind l i (Az.mk 0 (Aa.mk []) [] []));Dd p kind l g0 g1 g2 r (s1++[(g1.getD i.toNat [])]) (s2++[rv276]) (s3++[rv252]) (i+1) else let rv324:=(DO p kind l i (Az.mk 0 (Aa.mk []) [] []));Dd p kind l g0 g1 g2 r (s1++[(g1.getD i.toNat [])]) (s2++[rv324]) (s3++[rv237]) (i+1) else let rv372:=(DO p kind l i (Az.mk 0 (Aa.mk []) [] []));Dd p kind l g0 g1 g2 r (s1++[(g1.getD i.toNat [])]) (s2++[rv372]) (s3++[rv237]) (i+1) else bif ((g0.getD i.toNat default).Kind == 3) then let rv412:=(Eu p (g0.getD i.toNat default));let rv426:=(Cz (l.length:Int));bif (kind == 4) then bif (i == 0) then let rv441:=(Lj (l.length:Int));let rv465:=(DO p kind l i rv412.1);Dd p kind l g0 g1 g2 r (s1++[(g2.getD i.toNat [])]) (s2++[rv465]) (s3++[rv441]) (i+1) else let rv513:=(DO p kind l i rv412.1);Dd p kind l g0 g1 g2 r (s1++[(g2.getD i.toNat [])]) (s2++[rv513]) (s3++[rv426]) (i+1) else let rv561:=(DO p kind l i rv412.1);Dd p kind l g0 g1 g2 r (s1++[(g2.getD i.toNat [])]) (s2++[rv561]) (s3++[rv426]) (i+1) else let rv593:=(Cz (l.length:Int));bif (kind == 4) then bif (i == 0) then let rv608:=(Lj (l.length:Int));let rv632:=(DO p kind l i (Az.mk 0 (Aa.mk []) [] []));Dd p kind l g0 g1 g2 r (s1++[(g2.getD i.toNat [])]) (s2++[rv632]) (s3++[rv608]) (i+1) else let rv680:=(DO p kind l i (Az.mk 0 (Aa.mk []) [] []));Dd p kind l g0 g1 g2 r (s1++[(g2.getD i.toNat [])]) (s2++[rv680]) (s3++[rv593]) (i+1) else let rv728:=(DO p kind l i (Az.mk 0 (Aa.mk []) [] []));Dd p kind l g0 g1 g2 r (s1++[(g2.getD i.toNat [])]) (s2++[rv728]) (s3++[rv593]) (i+1)
def Pn (p:Aw) (kind:Int):A6×Int:=
 let rv4:=(CI p kind);bif (rv4.2 != 0) then ((A6.mk 0 [] [] []),rv4.2) else let rv18:=(Qh p);match Dd p kind rv4.1 rv18.1.Nodes rv18.1.Succ rv18.1.Pred (((rv18.1.Nodes.length:Int) - 0).toNat) [] [] [] 0 with
  | (AS,Ci,FI)=>
   ((A6.mk (rv4.1.length:Int) AS Ci FI),0)
def V0  : LR Unit Bool:=
 lb (T1 (Aa.mk [102,117,110,99,32,109,59,32,98,108,111,99,107,32,98,59,32,120,32,61,32,121,59,32,117,115,101,32,120,59,32,114,101,116,117,114,110,59,32,101,110,100])) fun rv2=>
 lv (Pn rv2.1 1) fun rv15=>
 lb (TJ rv15.1 3 0) fun rv32=>
 bif (rv32.2.2 == 0) then bif rv32.2.1 then lb (Uy rv32.1 [(Ao.mk 2 0),(Ao.mk 3 0)]) fun rv46=>
   bif rv46 then lb (VY rv15.1 3 0 [(Ao.mk 2 0),(Ao.mk 3 0)]) fun rv51=>
    .ret rv51 else .oof else .oof else .oof
def JW:Bool:=true
def R7 (l:List Int):Unit:=
 ()
def Qu (v:Int) (n:Int):Int:=
 (((BitVec.ofInt 64 v) % (BitVec.ofInt 64 n)).toNat:Int)
def Bs (tT:List Int) (tI:Int) (n:Int):Int×Int:=
 bif decide (n<=1) then (0,tI) else bif decide ((tT.length:Int)<=tI) then (0,tI) else let rv8:=(Qu (tT.getD (((tI+1) - 1):Int).toNat 0) n);(rv8,(tI+1))
def Es (tT:List Int) (tI:Int):Aa×Int:=
 let rv4:=(Bs tT tI 4);(([(Aa.mk [120]),(Aa.mk [121]),(Aa.mk [122]),(Aa.mk [119])].getD rv4.1.toNat default),rv4.2)
def Iq (tT:List Int) (tI:Int) (funcs:Int):Az×Int:=
 let rv2:=(Bs tT tI 9);bif (rv2.1 == 1) then let rv10:=(Es tT rv2.2);let rv15:=(Es tT rv10.2);let rv23:=(Bs tT rv15.2 2);((Az.mk 2 (Aa.mk []) (([rv10.1,rv15.1].take (((1+rv23.1):Int).toNat)).drop 0) []),rv23.2) else bif (rv2.1 == 2) then let rv38:=(Es tT rv2.2);((Az.mk 4 rv38.1 [] []),rv38.2) else bif (rv2.1 == 3) then let rv46:=(Es tT rv2.2);((Az.mk 5 (Aa.mk []) [rv46.1] []),rv46.2) else bif (rv2.1 == 4) then let rv57:=(Es tT rv2.2);((Az.mk 6 rv57.1 [] []),rv57.2) else bif (rv2.1 == 5) then let rv70:=(Bs tT rv2.2 funcs);((Az.mk 3 (Aa.mk []) [] [([(Aa.mk [109]),(Aa.mk [102]),(Aa.mk [103])].getD rv70.1.toNat default)]),rv70.2) else bif (rv2.1 == 6) then let rv88:=(Bs tT rv2.2 funcs);((Az.mk 3 (Aa.mk []) [] [([(Aa.mk [109]),(Aa.mk [102]),(Aa.mk [103])].getD rv88.1.toNat default)]),rv88.2) else let rv101:=(Es tT rv2.2);let rv106:=(Es tT rv101.2);let rv111:=(Es tT rv106.2);let rv116:=(Es tT rv111.2);let rv124:=(Bs tT rv116.2 4);((Az.mk 1 rv101.1 (([rv106.1,rv111.1,rv116.1].take (rv124.1.toNat)).drop 0) []),rv124.2)
def Pb (i:Int):Aa:=
 ([(Aa.mk [97]),(Aa.mk [98]),(Aa.mk [99])].getD i.toNat default)
def H3 (tT:List Int) (funcs:Int):Nat->Int->List Az->Int->Int×List Az
 | 0,ti',b1,n=>
  (ti',b1)
 | r+1,ti',b1,n=>let rv43:=(Iq tT ti' funcs);H3 tT funcs r rv43.2 (b1++[rv43.1]) (n - 1)
def EL (tT:List Int) (funcs:Int) (blocks:Int):Nat->Int->List A3->Int->Int×List A3
 | 0,ti',f1,k=>
  (ti',f1)
 | r+1,ti',f1,k=>let rv33:=(Bs tT ti' 4);match H3 tT funcs (rv33.1.toNat) rv33.2 [] rv33.1 with
  | (CC,GA)=>let rv43:=(Bs tT CC blocks);let rv49:=(Pb rv43.1);let rv53:=(Bs tT rv43.2 4);bif (rv53.1 == 0) then EL tT funcs blocks r rv53.2 (f1++[(A3.mk ([(Aa.mk [97]),(Aa.mk [98]),(Aa.mk [99])].getD k.toNat default) (GA++[(Az.mk 9 (Aa.mk []) [] [])]))]) (k+1) else bif (rv53.1 == 1) then EL tT funcs blocks r rv53.2 (f1++[(A3.mk ([(Aa.mk [97]),(Aa.mk [98]),(Aa.mk [99])].getD k.toNat default) (GA++[(Az.mk 7 (Aa.mk []) [] [rv49])]))]) (k+1) else let rv100:=(Es tT rv53.2);let rv108:=(Bs tT rv100.2 blocks);let rv114:=(Pb rv108.1);EL tT funcs blocks r rv108.2 (f1++[(A3.mk ([(Aa.mk [97]),(Aa.mk [98]),(Aa.mk [99])].getD k.toNat default) (GA++[(Az.mk 8 (Aa.mk []) [rv100.1] [rv49,rv114])]))]) (k+1)
def Iw (tT:List Int) (funcs:Int):Nat->Int->List A7->Int->Int×List A7
 | 0,ti',p0,i=>
  (ti',p0)
 | r+1,ti',p0,i=>let rv18:=(Bs tT ti' 3);match EL tT funcs (1+rv18.1) ((((1+rv18.1):Int) - 0).toNat) rv18.2 [] 0 with
  | (B8,FH)=>
   Iw tT funcs r B8 (p0++[(A7.mk ([(Aa.mk [109]),(Aa.mk [102]),(Aa.mk [103])].getD i.toNat default) FH)]) (i+1)
def Nt (tT:List Int) (tI:Int):Aw×Int:=
 let rv3:=(Bs tT tI 3);match Iw tT (1+rv3.1) ((((1+rv3.1):Int) - 0).toNat) rv3.2 [] 0 with
 | (AS,Ci)=>
  ((Aw.mk Ci),AS)
def Ht (l:List Int) (n:Int):Nat->Int->LR Unit Bool
 | 0,i=>.brk ()
 | r+1,i=>bif decide ((l.getD i.toNat 0) < 0) then .ret false else bif decide (n<=(l.getD i.toNat 0)) then .ret false else bif decide (0 < i) then bif decide ((l.getD i.toNat 0)<=(l.getD ((i - 1):Int).toNat 0)) then .ret false else Ht l n r (i+1) else Ht l n r (i+1)
def HQ (l:List Int) (n:Int):Bool:=
 match Ht l n (((l.length:Int) - 0).toNat) 0 with
 | .brk _=>
  true
 | .ret r=>r
 | .oof=>default
def GX (s:A6):Nat->Int->Int->LR Int Bool
 | 0,edges,i=>.brk edges
 | r+1,edges,i=>let rv26:=(HQ (s.Deps.getD i.toNat []) (s.Boundary.length:Int));bif (!rv26) then .ret false else let rv47:=(D3 (s.Transfers.getD i.toNat default));bif (!rv47) then .ret false else bif (((s.Transfers.getD i.toNat default).Gen).Width != s.Width) then .ret false else let rv64:=(EO (s.Boundary.getD i.toNat default));bif (!rv64) then .ret false else bif ((s.Boundary.getD i.toNat default).Width != s.Width) then .ret false else GX s r (edges+((s.Deps.getD i.toNat []).length:Int)) (i+1)
def Fx (s:A6):Bool:=
 bif decide (s.Width < 0) then false else bif decide (256 < s.Width) then false else bif decide ((s.Boundary.length:Int) < 1) then false else bif decide (256 < (s.Boundary.length:Int)) then false else bif ((s.Deps.length:Int) != (s.Boundary.length:Int)) then false else bif ((s.Transfers.length:Int) != (s.Boundary.length:Int)) then false else match GX s (((s.Boundary.length:Int) - 0).toNat) 0 0 with
       | .brk AS=>
        decide (AS<=1024)
       | .ret r=>r
       | .oof=>default
def HS (s:A6) (n:Int) (bit:Int):Int:=
 let rv2:=(Fx s);bif (!rv2) then 1 else bif decide (n < 0) then 9 else bif decide ((s.Boundary.length:Int)<=n) then 9 else bif decide (bit < 0) then 3 else bif decide (s.Width<=bit) then 3 else 0
def Ip (t:A8) (a:Int) (b:Int):Bool:=
 let rv2:=(D3 t);bif rv2 then bif decide (0<=a) then bif decide (a < t.Gen.Width) then bif decide (0<=b) then bif decide (b < t.Gen.Width) then let rv15:=(JS t a b);rv15 else false else false else false else false else false
def E7 (s:A6) (level:Int) (n:Int) (m:Int) (c:Int):Nat->List Int->Bool->Int->LR (List Int×Bool) (List Int)
 | 0,d,more,a=>.oof
 | r+1,d,more,a=>bif ((d.getD (((n*s.Width)+c):Int).toNat 0) == level) then bif decide (a < s.Width) then bif ((d.getD (((m*s.Width)+a):Int).toNat 0) == 0) then let rv39:=(Ip (s.Transfers.getD m.toNat default) a c);bif rv39 then E7 s level n m c r (d.set (((m*s.Width)+a):Int).toNat (level+1)) true (a+1) else E7 s level n m c r d more (a+1) else E7 s level n m c r d more (a+1) else .brk (d,more) else .brk (d,more)
def IG (s:A6) (level:Int) (n:Int) (m:Int):Nat->List Int->Bool->Int->List Int×Bool
 | 0,d,more,c=>
  (d,more)
 | r+1,d,more,c=>
  match E7 s level n m c (s.Width.toNat+1) d more 0 with
  | .brk (wK,wL)=>
   IG s level n m r wK wL (c+1)
  | .ret _=>default
  | .oof=>default
def Jn (s:A6) (level:Int) (n:Int):Nat->List Int->Bool->Int->List Int×Bool
 | 0,d,more,i=>
  (d,more)
 | r+1,d,more,i=>
  match IG s level n ((s.Deps.getD n.toNat []).getD i.toNat 0) (((s.Width:Int) - 0).toNat) d more 0 with
  | (Mm,wM)=>
   Jn s level n r Mm wM (i+1)
def HY (s:A6) (level:Int):Nat->List Int->Bool->Int->List Int×Bool
 | 0,d,more,n=>
  (d,more)
 | r+1,d,more,n=>
  match Jn s level n (((((s.Deps.getD n.toNat []).length:Int):Int) - 0).toNat) d more 0 with
  | (CC,GA)=>
   HY s level r CC GA (n+1)
def Hj (s:A6):Nat->List Int->Int->LR Unit (List Int)
 | 0,d,level=>.oof
 | r+1,d,level=>
  match HY s level (((s.Boundary.length:Int) - 0).toNat) d false 0 with
  | (B8,FH)=>bif (!FH) then .ret B8 else Hj s r B8 (level+1)
def JZ (s:A6) (to_:Ao):List Int:=
 match Hj s ((s.Boundary.length*s.Width.toNat:Nat)+2) ((List.replicate (((s.Boundary.length:Int)*s.Width):Int).toNat (0:Int)).set (((to_.Node*s.Width)+to_.Bit):Int).toNat 1) 1 with
 | .brk _=>default
 | .ret r=>r
 | .oof=>default
def Nx (s:A6) (h:Ao):Nat->Int->LR Unit Bool
 | 0,i=>.brk ()
 | r+1,i=>let rv31:=(Da ((s.Transfers.getD (((s.Deps.getD h.Node.toNat []).getD i.toNat 0):Int).toNat default).Gen) h.Bit);bif rv31 then .ret true else Nx s h r (i+1)
def MQ (s:A6) (h:Ao):Bool:=
 let rv7:=(Da (s.Boundary.getD h.Node.toNat default) h.Bit);bif rv7 then true else match Nx s h (((((s.Deps.getD h.Node.toNat []).length:Int):Int) - 0).toNat) 0 with
  | .brk _=>
   false
  | .ret r=>r
  | .oof=>default
def Nm (l:List Int) (n:Int):Nat->Int->LR Unit Bool
 | 0,i=>.brk ()
 | r+1,i=>bif ((l.getD i.toNat 0) == n) then .ret true else Nm l n r (i+1)
def PN (l:List Int) (n:Int):Bool:=
 match Nm l n (((l.length:Int) - 0).toNat) 0 with
 | .brk _=>
  false
 | .ret r=>r
 | .oof=>default
def P2 (s:A6) (a:Ao) (b:Ao):Bool:=
 let rv8:=(PN (s.Deps.getD b.Node.toNat []) a.Node);bif rv8 then let rv24:=(Ip (s.Transfers.getD a.Node.toNat default) a.Bit b.Bit);rv24 else false
def Gv (s:A6) (d:List Int):Nat->Int->Int->Int->Int->Int×Int×Int
 | 0,at0,at1,best,i=>
  (at0,at1,best)
 | r+1,at0,at1,best,i=>bif decide (0 < (d.getD i.toNat 0)) then bif (best == 0) then let rv26:=(MQ s (Ao.mk (i / s.Width) (i % s.Width)));bif rv26 then Gv s d r (i / s.Width) (i % s.Width) (d.getD i.toNat 0) (i+1) else Gv s d r at0 at1 best (i+1) else bif decide ((d.getD i.toNat 0) < best) then let rv37:=(MQ s (Ao.mk (i / s.Width) (i % s.Width)));bif rv37 then Gv s d r (i / s.Width) (i % s.Width) (d.getD i.toNat 0) (i+1) else Gv s d r at0 at1 best (i+1) else Gv s d r at0 at1 best (i+1) else Gv s d r at0 at1 best (i+1)
def L3 (s:A6) (d:List Int) (at0:Int) (at1:Int) (k:Int):Nat->Int->Int×Int
 | 0,i=>
  (at0,at1)
 | r+1,i=>bif ((d.getD i.toNat 0) == k) then let rv36:=(P2 s (Ao.mk at0 at1) (Ao.mk (i / s.Width) (i % s.Width)));bif rv36 then ((i / s.Width),(i % s.Width)) else L3 s d at0 at1 k r (i+1) else L3 s d at0 at1 k r (i+1)
def NA (s:A6) (d:List Int):Nat->Int->Int->List Ao->Int->List Ao
 | 0,at0,at1,out,k=>
  out
 | r+1,at0,at1,out,k=>
  match L3 s d at0 at1 k (((d.length:Int) - 0).toNat) 0 with
  | (CC,GA)=>
   NA s d r CC GA (out++[(Ao.mk CC GA)]) (k - 1)
def OW (s:A6) (n:Int) (bit:Int):List Ao×Bool×Int:=
 let rv2:=(HS s n bit);bif (rv2 != 0) then (([]:List Ao),false,rv2) else let rv10:=(JZ s (Ao.mk n bit));match Gv s rv10 (((rv10.length:Int) - 0).toNat) 0 0 0 0 with
  | (AS,Ci,FI)=>bif (FI == 0) then (([]:List Ao),false,0) else match NA s rv10 (((FI - 1):Int).toNat) AS Ci [(Ao.mk AS Ci)] (FI - 1) with
    | B8=>
     (B8,true,0)
def Hw (l:List A3) (namep:A3->Aa):Nat->List (Aa×Bool)->Int->Int->(List (Aa×Bool))×Int
 | 0,known,at_,v13=>
  (known,at_)
 | r+1,known,at_,v13=>bif ((Bx known (namep (l.getD v13.toNat default))).getD false) then bif decide (at_ < 0) then Hw l namep r (mset known (namep (l.getD v13.toNat default)) true) v13 (v13+1) else Hw l namep r (mset known (namep (l.getD v13.toNat default)) true) at_ (v13+1) else Hw l namep r (mset known (namep (l.getD v13.toNat default)) true) at_ (v13+1)
def Ns (l:List A3) (namep:A3->Aa):Int×(List (Aa×Bool)):=
 match Hw l namep (((l.length:Int) - 0).toNat) [] (-1) 0 with
 | (AS,Ci)=>
  (Ci,AS)
def MR (b:A3):Aa:=
 b.Name
def NI (s:Az):Bool:=
 bif (s.Op == 7) then true else bif (s.Op == 8) then true else (s.Op == 9)
def La (s:Az) (known:List (Aa×Bool)):Nat->Int->LR Unit Int
 | 0,v16=>.brk ()
 | r+1,v16=>bif (!((Bx known (s.Targets.getD v16.toNat default)).getD false)) then .ret 5 else La s known r (v16+1)
def Jr (s:Az) (last:Bool) (known:List (Aa×Bool)):Int:=
 let rv2:=(NI s);bif (!(rv2 == last)) then 4 else match La s known (((s.Targets.length:Int) - 0).toNat) 0 with
  | .brk _=>
   0
  | .ret r=>r
  | .oof=>default
def HO (i:Int) (funcs:List (Aa×Bool)) (blocks:List (Aa×Bool)) (k:Int) (b1:List Az) (v36:List Az):Nat->Int->LR Unit (Am×Int)
 | 0,v38=>.brk ()
 | r+1,v38=>bif ((v36.getD v38.toNat default).Op == 3) then let rv34:=(Jr (v36.getD v38.toNat default) (v38 == ((b1.length:Int) - 1)) funcs);bif (rv34 != 0) then .ret ((Am.mk 3 i k v38),rv34) else HO i funcs blocks k b1 v36 r (v38+1) else let rv42:=(Jr (v36.getD v38.toNat default) (v38 == ((b1.length:Int) - 1)) blocks);bif (rv42 != 0) then .ret ((Am.mk 3 i k v38),rv42) else HO i funcs blocks k b1 v36 r (v38+1)
def JY (f:A7) (i:Int) (funcs:List (Aa×Bool)) (blocks:List (Aa×Bool)):Nat->Int->LR Unit (Am×Int)
 | 0,v30=>.brk ()
 | r+1,v30=>
  match HO i funcs blocks v30 ((f.Blocks.getD v30.toNat default).Stmts) ((f.Blocks.getD v30.toNat default).Stmts) ((((((f.Blocks.getD v30.toNat default).Stmts).length:Int):Int) - 0).toNat) 0 with
  | .brk _=>
   JY f i funcs blocks r (v30+1)
  | .ret r=>.ret r
  | .oof=>.oof
def My (f:A7) (i:Int) (funcs:List (Aa×Bool)):Am×Int:=
 let rv4:=(Ns f.Blocks (fun x0=>MR x0));bif decide (0<=rv4.1) then ((Am.mk 3 i rv4.1 (-1)),6) else match JY f i funcs rv4.2 (((f.Blocks.length:Int) - 0).toNat) 0 with
  | .brk _=>
   ((Am.mk 0 0 0 0),0)
  | .ret r=>r
  | .oof=>default
def It (s:Az) (cap0:Int) (cap1:Int):Int×Int:=
 bif (s.Op == 3) then (((cap0+1)+1),(cap1+3)) else bif (s.Op == 8) then ((cap0+1),(cap1+2)) else ((cap0+1),(cap1+1))
def H2 (c:Int):Bool:=
 bif decide (97<=c) then bif decide (c<=122) then true else bif decide (65<=c) then decide (c<=90) else false else bif decide (65<=c) then decide (c<=90) else false
def J3 (s:List Aa) (v:Aa):Nat->Int->LR Unit Int
 | 0,v8=>.brk ()
 | r+1,v8=>bif (v == (s.getD v8.toNat default)) then .ret v8 else J3 s v r (v8+1)
def KX (s:List Aa) (v:Aa):Int:=
 match J3 s v (((s.length:Int) - 0).toNat) 0 with
 | .brk _=>
  -1
 | .ret r=>r
 | .oof=>default
def OI (s:List Aa) (v:Aa):Bool:=
 let rv1:=(KX s v);decide (0<=rv1)
def OY (c:Int):Bool:=
 bif decide (48<=c) then decide (c<=57) else false
def G8 (c:Int):Bool:=
 let rv1:=(H2 c);bif rv1 then true else let rv7:=(OY c);bif rv7 then true else (c == 95)
def Lp (s:Aa):Nat->Int->Int
 | 0,i'=>
  i'
 | r+1,i'=>let rv4:=(G8 ((s.b.getD i'.toNat 0).toNat:Int));bif rv4 then Lp s r (i'+1) else i'
def NG (s:Aa) (i:Int):Int:=
 match Lp s (((s.b.length:Int) - i).toNat) i with
 | AS=>
  AS
def Ew (s:Aa):Bool:=
 bif (s == (Aa.mk [])) then false else bif decide (16 < (s.b.length:Int)) then false else let rv8:=(H2 ((s.b.getD (0:Int).toNat 0).toNat:Int));bif (!rv8) then false else let rv18:=(OI AQ s);bif rv18 then false else let rv24:=(NG s 0);(rv24 == (s.b.length:Int))
def MJ (s:List Az) (fp:Az->Bool):Nat->Int->LR Unit Int
 | 0,v8=>.brk ()
 | r+1,v8=>bif (fp (s.getD v8.toNat default)) then .ret v8 else MJ s fp r (v8+1)
def O0 (s:List Az) (fp:Az->Bool):Int:=
 match MJ s fp (((s.length:Int) - 0).toNat) 0 with
 | .brk _=>
  -1
 | .ret r=>r
 | .oof=>default
def Nn (s:List Az) (fp:Az->Bool):Bool:=
 let rv1:=(O0 s fp);decide (0<=rv1)
def NX (s:List Aa):List Aa:=s
def MK (s:List Aa) (fp:Aa->Bool):Nat->Int->LR Unit Int
 | 0,v8=>.brk ()
 | r+1,v8=>bif (fp (s.getD v8.toNat default)) then .ret v8 else MK s fp r (v8+1)
def OR (s:List Aa) (fp:Aa->Bool):Int:=
 match MK s fp (((s.length:Int) - 0).toNat) 0 with
 | .brk _=>
  -1
 | .ret r=>r
 | .oof=>default
def JB (s:List Aa) (fp:Aa->Bool):Bool:=
 let rv1:=(OR s fp);decide (0<=rv1)
def Iv (n:Aa):Bool:=
 let rv1:=(Ew n);(!rv1)
def Hz (s:Az) (def_:Int) (uses:Int) (targets:Int) (names:List Aa):Bool:=
 bif (def_ == 1) then bif ((s.Uses.length:Int) == uses) then bif decide (uses<=4) then bif ((s.Targets.length:Int) == targets) then let rv27:=(JB names (fun x=>Iv x));(!rv27) else false else false else false else bif (s.Def == (Aa.mk [])) then bif ((s.Uses.length:Int) == uses) then bif decide (uses<=4) then bif ((s.Targets.length:Int) == targets) then let rv42:=(JB names (fun x=>Iv x));(!rv42) else false else false else false else false
def Hq (s:Az) (def_:Int) (uses:Int) (targets:Int):Bool:=
 let rv4:=(NX s.Uses);bif (def_ == 1) then Hz s def_ uses targets ((rv4++s.Targets)++[s.Def]) else Hz s def_ uses targets (rv4++s.Targets)
def Ee (s:Az):Bool:=
 bif (s.Op == 1) then Hq s 1 (s.Uses.length:Int) 0 else bif (s.Op == 2) then Hq s 0 (max (s.Uses.length:Int) 1) 0 else bif (s.Op == 5) then Hq s 0 1 0 else bif (s.Op == 4) then Hq s 1 0 0 else bif (s.Op == 6) then Hq s 1 0 0 else bif (s.Op == 8) then Hq s 0 1 ((0+1)+1) else bif (s.Op == 3) then Hq s 0 0 (0+1) else bif (s.Op == 7) then Hq s 0 0 (0+1) else bif (s.Op == 9) then Hq s 0 0 0 else false
def OZ (s:Az):Bool:=
 let rv2:=(Ee s);(!rv2)
def Hp  (v41:List A3):Nat->Int->LR Unit Bool
 | 0,v43=>.brk ()
 | r+1,v43=>let rv38:=(Ew ((v41.getD v43.toNat default).Name));bif (!rv38) then .ret false else bif decide ((((v41.getD v43.toNat default).Stmts).length:Int) < 1) then .ret false else bif decide (32 < (((v41.getD v43.toNat default).Stmts).length:Int)) then .ret false else let rv54:=(Nn ((v41.getD v43.toNat default).Stmts) (fun x=>OZ x));bif rv54 then .ret false else Hp v41 r (v43+1)
def FV (p:Aw):Nat->Int->LR Unit Bool
 | 0,v20=>.brk ()
 | r+1,v20=>let rv15:=(Ew ((p.Funcs.getD v20.toNat default).Name));bif (!rv15) then .ret false else bif decide ((((p.Funcs.getD v20.toNat default).Blocks).length:Int) < 1) then .ret false else bif decide (16 < (((p.Funcs.getD v20.toNat default).Blocks).length:Int)) then .ret false else match Hp ((p.Funcs.getD v20.toNat default).Blocks) ((((((p.Funcs.getD v20.toNat default).Blocks).length:Int):Int) - 0).toNat) 0 with
     | .brk _=>
      FV p r (v20+1)
     | .ret r=>.ret r
     | .oof=>.oof
def DV (p:Aw):Bool:=
 bif decide ((p.Funcs.length:Int) < 1) then false else bif decide (8 < (p.Funcs.length:Int)) then false else match FV p (((p.Funcs.length:Int) - 0).toNat) 0 with
   | .brk _=>
    true
   | .ret r=>r
   | .oof=>default
def HT  (v28:List Az):Nat->Int->Int->Int->Int×Int
 | 0,st00,st10,v30=>
  (st00,st10)
 | r+1,st00,st10,v30=>let rv39:=(It (v28.getD v30.toNat default) st00 st10);HT v28 r rv39.1 rv39.2 (v30+1)
def LY  (v21:List A3):Nat->Int->Int->Int->Int×Int
 | 0,st00,st10,v23=>
  (st00,st10)
 | r+1,st00,st10,v23=>
  match HT ((v21.getD v23.toNat default).Stmts) ((((((v21.getD v23.toNat default).Stmts).length:Int):Int) - 0).toNat) st00 st10 0 with
  | (CC,GA)=>
   LY v21 r CC GA (v23+1)
def Ma (p:Aw):Nat->Int->Int->Int->Int×Int
 | 0,st00,st10,v16=>
  (st00,st10)
 | r+1,st00,st10,v16=>
  match LY ((p.Funcs.getD v16.toNat default).Blocks) ((((((p.Funcs.getD v16.toNat default).Blocks).length:Int):Int) - 0).toNat) st00 st10 0 with
  | (B8,FH)=>
   Ma p r B8 FH (v16+1)
def Pl (p:Aw) (st0:Int) (st1:Int):Int×Int:=
 let rv2:=(DV p);bif (!rv2) then (st0,st1) else match Ma p (((p.Funcs.length:Int) - 0).toNat) st0 st1 0 with
  | (AS,Ci)=>
   (AS,Ci)
def JU (p:Aw):Int×Int:=
 let rv2:=(DV p);bif (!rv2) then (0,0) else let rv14:=(Pl p (2*(p.Funcs.length:Int)) (p.Funcs.length:Int));(rv14.1,rv14.2)
def HC (n:Aa) (cap0:List (Aa×Bool)) (cap1:List Aa):(List (Aa×Bool))×List Aa:=
 bif (n != (Aa.mk [])) then bif (!((Bx cap0 n).getD false)) then ((mset cap0 n true),(cap1++[n])) else (cap0,cap1) else (cap0,cap1)
def Kb (s:Az):Nat->List (Aa×Bool)->List Aa->Int->(List (Aa×Bool))×List Aa
 | 0,st00,st10,v12=>
  (st00,st10)
 | r+1,st00,st10,v12=>let rv17:=(HC (s.Uses.getD v12.toNat default) st00 st10);Kb s r rv17.1 rv17.2 (v12+1)
def Mx (s:Az) (st0:List (Aa×Bool)) (st1:List Aa):(List (Aa×Bool))×List Aa:=
 let rv3:=(HC s.Def st0 st1);match Kb s (((s.Uses.length:Int) - 0).toNat) rv3.1 rv3.2 0 with
 | (AS,Ci)=>
  (AS,Ci)
def Ka  (v28:List Az):Nat->List (Aa×Bool)->List Aa->Int->(List (Aa×Bool))×List Aa
 | 0,st10,st20,v30=>
  (st10,st20)
 | r+1,st10,st20,v30=>let rv40:=(Mx (v28.getD v30.toNat default) st10 st20);Ka v28 r rv40.1 rv40.2 (v30+1)
def J8  (v21:List A3):Nat->List (Aa×Bool)->List Aa->Int->(List (Aa×Bool))×List Aa
 | 0,st10,st20,v23=>
  (st10,st20)
 | r+1,st10,st20,v23=>
  match Ka ((v21.getD v23.toNat default).Stmts) ((((((v21.getD v23.toNat default).Stmts).length:Int):Int) - 0).toNat) st10 st20 0 with
  | (CC,GA)=>
   J8 v21 r CC GA (v23+1)
def Md (p:Aw):Nat->List (Aa×Bool)->List Aa->Int->(List (Aa×Bool))×List Aa
 | 0,st10,st20,v16=>
  (st10,st20)
 | r+1,st10,st20,v16=>
  match J8 ((p.Funcs.getD v16.toNat default).Blocks) ((((((p.Funcs.getD v16.toNat default).Blocks).length:Int):Int) - 0).toNat) st10 st20 0 with
  | (B8,FH)=>
   Md p r B8 FH (v16+1)
def ON (p:Aw) (st1:List (Aa×Bool)) (st2:List Aa):(List (Aa×Bool))×List Aa:=
 let rv2:=(DV p);bif (!rv2) then (st1,st2) else match Md p (((p.Funcs.length:Int) - 0).toNat) st1 st2 0 with
  | (AS,Ci)=>
   (AS,Ci)
def Gx (p:Aw):List Aa:=
 let rv8:=(ON p [] ([]:List Aa));rv8.2
def Hm (l:List A7) (namep:A7->Aa):Nat->List (Aa×Bool)->Int->Int->(List (Aa×Bool))×Int
 | 0,known,at_,v13=>
  (known,at_)
 | r+1,known,at_,v13=>bif ((Bx known (namep (l.getD v13.toNat default))).getD false) then bif decide (at_ < 0) then Hm l namep r (mset known (namep (l.getD v13.toNat default)) true) v13 (v13+1) else Hm l namep r (mset known (namep (l.getD v13.toNat default)) true) at_ (v13+1) else Hm l namep r (mset known (namep (l.getD v13.toNat default)) true) at_ (v13+1)
def NV (l:List A7) (namep:A7->Aa):Int×(List (Aa×Bool)):=
 match Hm l namep (((l.length:Int) - 0).toNat) [] (-1) 0 with
 | (AS,Ci)=>
  (Ci,AS)
def Nb (f:A7):Aa:=
 f.Name
def KP (p:Aw) (funcs:List (Aa×Bool)):Nat->Int->LR Unit (Am×Int)
 | 0,v29=>.brk ()
 | r+1,v29=>let rv29:=(My (p.Funcs.getD v29.toNat default) v29 funcs);bif (rv29.2 != 0) then .ret (rv29.1,rv29.2) else KP p funcs r (v29+1)
def E0 (p:Aw):Am×Int:=
 let rv3:=(DV p);bif (!rv3) then ((Am.mk 0 0 0 0),1) else let rv14:=(NV p.Funcs (fun x0=>Nb x0));bif decide (0<=rv14.1) then ((Am.mk 1 rv14.1 (-1) (-1)),6) else match KP p rv14.2 (((p.Funcs.length:Int) - 0).toNat) 0 with
   | .brk _=>let rv22:=(JU p);let rv29:=(Gx p);bif decide (64 < (rv29.length:Int)) then ((Am.mk 0 0 0 0),7) else bif decide (256 < rv22.1) then ((Am.mk 0 0 0 0),7) else bif decide (1024 < rv22.2) then ((Am.mk 0 0 0 0),7) else ((Am.mk 0 0 0 0),0)
   | .ret r=>r
   | .oof=>default
def Ln (n:Am):Bool:=
 bif (n.Kind == 3) then true else (n.Kind == 4)
def Ho  (i:Int) (k:Int) (v41:List Az):Nat->List Am->Int->List Am
 | 0,out,v43=>
  out
 | r+1,out,v43=>bif ((v41.getD v43.toNat default).Op == 3) then Ho i k v41 r ((out++[(Am.mk 3 i k v43)])++[(Am.mk 4 i k v43)]) (v43+1) else Ho i k v41 r (out++[(Am.mk 3 i k v43)]) (v43+1)
def IN  (i:Int) (v33:List A3):Nat->List Am->Int->List Am
 | 0,out,v35=>
  out
 | r+1,out,v35=>
  match Ho i v35 ((v33.getD v35.toNat default).Stmts) ((((((v33.getD v35.toNat default).Stmts).length:Int):Int) - 0).toNat) out 0 with
  | CC=>
   IN i v33 r CC (v35+1)
def IC (p:Aw):Nat->List Am->Int->List Am
 | 0,out,v22=>
  out
 | r+1,out,v22=>
  match IN v22 ((p.Funcs.getD v22.toNat default).Blocks) ((((((p.Funcs.getD v22.toNat default).Blocks).length:Int):Int) - 0).toNat) (out++[(Am.mk 1 v22 (-1) (-1))]) 0 with
  | B8=>
   IC p r (B8++[(Am.mk 2 v22 (-1) (-1))]) (v22+1)
def D5 (p:Aw):List Am:=
 let rv2:=(E0 p);bif (rv2.2 != 0) then ([]:List Am) else match IC p (((p.Funcs.length:Int) - 0).toNat) [] 0 with
  | AS=>
   AS
def Hl (n:Am) (v8:List Am):Nat->Int->LR Unit Int
 | 0,v10=>.brk ()
 | r+1,v10=>bif ([(v8.getD v10.toNat default).Kind,(v8.getD v10.toNat default).Func,(v8.getD v10.toNat default).Block,(v8.getD v10.toNat default).Stmt] == [n.Kind,n.Func,n.Block,n.Stmt]) then .ret v10 else Hl n v8 r (v10+1)
def Fd (p:Aw) (n:Am):Int:=
 let rv4:=(D5 p);match Hl n rv4 (((rv4.length:Int) - 0).toNat) 0 with
 | .brk _=>
  -1
 | .ret r=>r
 | .oof=>default
def HR (p:Aw) (n:Am):Az×Bool:=
 let rv4:=(Ln n);bif (!rv4) then ((Az.mk 0 (Aa.mk []) [] []),false) else let rv14:=(Fd p n);bif decide (rv14 < 0) then ((Az.mk 0 (Aa.mk []) [] []),false) else ((((((p.Funcs.getD n.Func.toNat default).Blocks).getD n.Block.toNat default).Stmts).getD n.Stmt.toNat default),true)
def Nw (s:Az):Bool:=
 bif (s.Op == 1) then true else bif (s.Op == 4) then true else (s.Op == 6)
def HX (p:Aw) (vars:List Aa) (v11:List Am):Nat->List AO->Int->List AO
 | 0,out,v13=>
  out
 | r+1,out,v13=>let rv19:=(HR p (v11.getD v13.toNat default));bif ((v11.getD v13.toNat default).Kind == 3) then let rv35:=(Nw rv19.1);bif rv35 then let rv40:=(KX vars rv19.1.Def);HX p vars v11 r (out++[(AO.mk v13 rv40)]) (v13+1) else HX p vars v11 r out (v13+1) else HX p vars v11 r out (v13+1)
def Qr (p:Aw) (vars:List Aa):List AO:=
 let rv3:=(D5 p);match HX p vars rv3 (((rv3.length:Int) - 0).toNat) [] 0 with
 | AS=>
  AS
def Mi  : Nat->List AO->Int->List AO
 | 0,out,v34=>
  out
 | r+1,out,v34=>
  Mi r (out++[(AO.mk (-1) v34)]) (v34+1)
def Gk (p:Aw) (kind:Int):List AO×Int:=
 let rv2:=(E0 p);bif (rv2.2 != 0) then (([]:List AO),rv2.2) else bif decide (kind < 1) then (([]:List AO),3) else bif decide (4 < kind) then (([]:List AO),3) else let rv21:=(Gx p);bif (kind == 1) then let rv32:=(Qr p rv21);bif decide (256 < (rv32.length:Int)) then (([]:List AO),7) else (rv32,0) else match Mi (((rv21.length:Int) - 0).toNat) [] 0 with
     | AS=>bif decide (256 < (AS.length:Int)) then (([]:List AO),7) else (AS,0)
def N7 (width:Int):AE×Int:=
 let rv2:=(JF width);bif (!rv2) then ((AE.mk 0 []),3) else let rv12:=(MH width);((AE.mk width (List.replicate rv12.toNat 0#64)),0)
def L4 (s:AE) (b:Int):List (BitVec 64):=
 (s.Words.set ((b / 64):Int).toNat ((s.Words.getD ((b / 64):Int).toNat 0#64) ||| (1#64 <<< ((((BitVec.ofInt 64 b) % 64#64).toNat:Int)).toNat)))
def JC (members:List Int) (s0:Int):Nat->List (BitVec 64)->Int->LR (List (BitVec 64)) (AE×Int)
 | 0,s1,v17=>.brk s1
 | r+1,s1,v17=>bif decide ((members.getD v17.toNat 0) < 0) then .ret ((AE.mk 0 []),3) else bif decide (s0<=(members.getD v17.toNat 0)) then .ret ((AE.mk 0 []),3) else let rv23:=(L4 (AE.mk s0 s1) (members.getD v17.toNat 0));JC members s0 r rv23 (v17+1)
def Lu (width:Int) (members:List Int):AE×Int:=
 let rv3:=(N7 width);match JC members rv3.1.Width (((members.length:Int) - 0).toNat) rv3.1.Words 0 with
 | .brk AS=>
  ((AE.mk rv3.1.Width AS),rv3.2)
 | .ret r=>r
 | .oof=>default
def O1 (i:Int):Aa:=
 bif decide (i < 10) then (Qa.sub i.toNat ((i+1):Int).toNat) else (PM.sub ((i*2):Int).toNat (((i*2)+2):Int).toNat)
def QA (i:Int) (base:Int):Aa:=
 let rv7:=(O1 i);rv7
def Q7 (i:Int):Aa:=
 let rv1:=(QA i 10);rv1
def ME (i:Int):Aa:=
 let rv1:=(Q7 i);rv1
def Ib (p:Aw) (n:Am):Aa:=
 let rv3:=(Fd p n);bif decide (rv3 < 0) then (Aa.mk []) else bif (n.Kind == 1) then ((p.Funcs.getD n.Func.toNat default).Name++(Aa.mk [46,101,110,116,114,121])) else bif (n.Kind == 2) then ((p.Funcs.getD n.Func.toNat default).Name++(Aa.mk [46,101,120,105,116])) else let rv35:=(ME n.Stmt);bif (n.Kind == 4) then ((((((p.Funcs.getD n.Func.toNat default).Name++(Aa.mk [46]))++(((p.Funcs.getD n.Func.toNat default).Blocks).getD n.Block.toNat default).Name)++(Aa.mk [46]))++rv35)++(Aa.mk [43])) else (((((p.Funcs.getD n.Func.toNat default).Name++(Aa.mk [46]))++(((p.Funcs.getD n.Func.toNat default).Blocks).getD n.Block.toNat default).Name)++(Aa.mk [46]))++rv35)
def N1 (x:BitVec 64):Int:=
 bif (x == 0#64) then 64 else (Gs.getD ((((x &&& (-x))*285870213051353865#64) >>> (((58#64).toNat:Int)).toNat).toNat) 0)
def NF (s:List Int):List Int:=
 ((s.take ((s.length:Int).toNat)).drop 0)
def Io  (i:Int):Nat->List Int->BitVec 64->LR (List Int) (List Int)
 | 0,out,w=>.oof
 | r+1,out,w=>bif (w != 0#64) then let rv16:=(N1 w);Io i r (out++[((i*64)+rv16)]) (w &&& (w - 1#64)) else .brk out
def Mc (s:AE):Nat->List Int->Int->List Int
 | 0,out,v12=>
  out
 | r+1,out,v12=>
  match Io v12 66 out (s.Words.getD v12.toNat 0#64) with
  | .brk B8=>
   Mc s r B8 (v12+1)
  | .ret _=>default
  | .oof=>default
def KM (s:AE):List Int:=
 let rv2:=(Fv s);bif (!rv2) then ([]:List Int) else match Mc s (((s.Words.length:Int) - 0).toNat) [] 0 with
  | AS=>let rv16:=(NF AS);rv16
def strings_Join (B2:List Aa) (sep:Aa):Aa:=HN B2 sep
def JR (p:Aw) (l:List AO) (vars:List Aa) (all:List Am) (v41:List Int):Nat->List Aa->Int->List Aa
 | 0,words,v43=>
  words
 | r+1,words,v43=>bif decide (0<=(l.getD ((v41.getD v43.toNat 0):Int).toNat default).Node) then let rv67:=(Ib p (all.getD ((l.getD ((v41.getD v43.toNat 0):Int).toNat default).Node:Int).toNat default));JR p l vars all v41 r (words++[((vars.getD ((l.getD ((v41.getD v43.toNat 0):Int).toNat default).Var:Int).toNat default)++((Aa.mk [64])++rv67))]) (v43+1) else JR p l vars all v41 r (words++[(vars.getD ((l.getD ((v41.getD v43.toNat 0):Int).toNat default).Var:Int).toNat default)]) (v43+1)
def Ls (p:Aw) (kind:Int) (s:AE):Aa×Int:=
 let rv4:=(Gk p kind);bif (rv4.2 != 0) then ((Aa.mk []),rv4.2) else let rv15:=(Fv s);bif (!rv15) then ((Aa.mk []),1) else bif (s.Width != (rv4.1.length:Int)) then ((Aa.mk []),2) else let rv29:=(Gx p);let rv38:=(D5 p);let rv46:=(KM s);match JR p rv4.1 rv29 rv38 rv46 (((rv46.length:Int) - 0).toNat) [] 0 with
    | AS=>let rv56:=(strings_Join AS (Aa.mk [32]));(rv56,0)
def Qx (b:List UInt8) (s:Aa):List UInt8:=b++s.b
def Tv (b:List UInt8):Aa:=Aa.mk b
def Hx (p:Aw) (kind:Int) (l:List Ao) (all:List AO) (places:List Am):Nat->List UInt8->Int->LR (List UInt8) (Aa×Int)
 | 0,b,v31=>.brk b
 | r+1,b,v31=>bif decide ((l.getD v31.toNat default).Node < 0) then .ret ((Aa.mk []),9) else bif decide ((places.length:Int)<=(l.getD v31.toNat default).Node) then .ret ((Aa.mk []),9) else bif decide ((l.getD v31.toNat default).Bit < 0) then .ret ((Aa.mk []),9) else bif decide ((all.length:Int)<=(l.getD v31.toNat default).Bit) then .ret ((Aa.mk []),9) else let rv44:=(Lu (all.length:Int) [(l.getD v31.toNat default).Bit]);let rv52:=(Ls p kind rv44.1);let rv60:=(Ib p (places.getD ((l.getD v31.toNat default).Node:Int).toNat default));let rv70:=(Qx b (((rv60++(Aa.mk [32]))++rv52.1)++(Aa.mk [10])));Hx p kind l all places r rv70 (v31+1)
def G5 (p:Aw) (kind:Int) (l:List Ao):Aa×Int:=
 let rv3:=(Gk p kind);bif (rv3.2 != 0) then ((Aa.mk []),rv3.2) else let rv15:=(D5 p);match Hx p kind l rv3.1 rv15 (((l.length:Int) - 0).toNat) [] 0 with
  | .brk AS=>let rv24:=(Tv AS);(rv24,0)
  | .ret r=>r
  | .oof=>default
def GU (t:List Int):Nat->Int->Int->LR Unit Bool
 | 0,k1,i=>.brk ()
 | r+1,k1,i=>let rv9:=(Nt t k1);let rv17:=(Bs t rv9.2 4);let rv26:=(Pn rv9.1 (1+rv17.1));let rv42:=(Bs t rv17.2 (rv26.1.Deps.length:Int));let rv48:=(Bs t rv42.2 (rv26.1.Width+1));let rv55:=(OW rv26.1 rv42.1 rv48.1);let rv63:=(Bs t rv48.2 4);bif (rv63.1 == 0) then let rv71:=(Bs t rv63.2 ((rv26.1.Deps.length:Int)+2));let rv77:=(Bs t rv71.2 (rv26.1.Width+2));let rv91:=(G5 rv9.1 (1+rv17.1) (rv55.1++[(Ao.mk (rv71.1 - 1) (rv77.1 - 1))]));let rv96:=(GN rv9.1 (1+rv17.1) (rv55.1++[(Ao.mk (rv71.1 - 1) (rv77.1 - 1))]));bif (rv91.1 != rv96.1) then .ret false else bif (rv91.2 != rv96.2) then .ret false else GU t r rv77.2 (i+1) else let rv108:=(G5 rv9.1 (1+rv17.1) rv55.1);let rv113:=(GN rv9.1 (1+rv17.1) rv55.1);bif (rv108.1 != rv113.1) then .ret false else bif (rv108.2 != rv113.2) then .ret false else GU t r rv63.2 (i+1)
def HP (t:List Int) (p:Aw) (kind:Int) (l:List Ao):Bool:=
 let rv3:=(R7 t);match GU t 4 0 0 with
 | .brk _=>let rv6:=(OU p);bif rv6 then JW else bif decide (20 < (l.length:Int)) then JW else let rv17:=(G5 p kind l);let rv22:=(GN p kind l);bif (rv17.1 == rv22.1) then bif (rv17.2 == rv22.2) then let rv32:=(Cn p);bif decide (0<=(rv32.length:Int)) then JW else false else false else false
 | .ret r=>r
 | .oof=>default
theorem U7 {σ ρ:Type} (f:Nat->Int->LR σ ρ) (p:Int->Bool) (b:ρ) (c:σ) (h0:∀ i,f 0 i=.brk c) (h1:∀ r i,f (r+1) i=bif p i then .ret b else f r (i+1)) :
  ∀ (m:Nat) (i:Int),(f m i=.ret b/\∃ j,i<=j/\j < i+m/\p j=true)\/(f m i=.brk c/\∀ j,i<=j->j < i+m->p j=false)
 | 0,i=>.inr ⟨h0 i,fun j h1 h2=>by omega⟩
 | m+1,i=>by
  rw [h1];cases hp:p i with
  | true=>exact .inl ⟨rfl,i,by omega,by omega,hp⟩
  | false=>
   rcases U7 f p b c h0 h1 m (i+1) with ⟨e,j,j1,j2,j3⟩ | ⟨e,h⟩
   ·exact .inl ⟨e,j,by omega,by omega,j3⟩
   ·refine .inr ⟨e,fun j j1 j2=>?_⟩;rcases Int.lt_or_eq_of_le j1 with hlt | rfl
    ·exact h j (by omega) (by omega)
    ·exact hp
theorem gF {l:List Int} {n:Int}:n∈l↔∃ j:Int,0<=j/\j < (l.length:Int)/\l.getD j.toNat 0=n:=by
 constructor
 ·intro h;obtain ⟨i,hi,e⟩:=List.getElem_of_mem h;exact ⟨(i:Int),by omega,by omega,by simp [List.getD,hi,e]⟩
 ·rintro ⟨j,j1,j2,rfl⟩;exact BF (by omega)
theorem SN {σ:Type} (f:Nat->Int->LR σ Int) (p:Int->Bool) (c:σ) (h0:∀ i,f 0 i=.brk c) (h1:∀ r i,f (r+1) i=bif p i then .ret i else f r (i+1)) :
  ∀ (m:Nat) (i:Int),(∃ j,f m i=.ret j/\i<=j/\j < i+m/\p j=true)\/(f m i=.brk c/\∀ j,i<=j->j < i+m->p j=false)
 | 0,i=>.inr ⟨h0 i,fun j h1 h2=>by omega⟩
 | m+1,i=>by
  rw [h1];cases hp:p i with
  | true=>exact .inl ⟨i,rfl,by omega,by omega,hp⟩
  | false=>
   rcases SN f p c h0 h1 m (i+1) with ⟨j,e,j1,j2,j3⟩ | ⟨e,h⟩
   ·exact .inl ⟨j,e,by omega,by omega,j3⟩
   ·refine .inr ⟨e,fun j j1 j2=>?_⟩;rcases Int.lt_or_eq_of_le j1 with hlt | rfl
    ·exact h j (by omega) (by omega)
    ·exact hp
theorem NK {α:Type} {l:List α} {n d:α}:n∈l↔∃ j:Int,0<=j/\j < (l.length:Int)/\l.getD j.toNat d=n:=by
 constructor
 ·intro h;obtain ⟨i,hi,e⟩:=List.getElem_of_mem h;exact ⟨(i:Int),by omega,by omega,by simp [List.getD,hi,e]⟩
 ·rintro ⟨j,j1,j2,rfl⟩;exact BF (by omega)
def Ep (ws:List (BitVec 64)) (b:Int):Bool:=(ws.getD (b / 64).toNat 0#64).getLsbD (b % 64).toNat
def Jq (s:AE):Prop:=0<=s.Width/\s.Width<=256/\(s.Words.length:Int)=(s.Width+63) / 64/\∀ b:Int,s.Width<=b->b < 64*(s.Words.length:Int)->Ep s.Words b=false
theorem S1 {n:Int} (h:0<=n/\n < 18446744073709551616):(((BitVec.ofInt 64 n).toNat:Int)).toNat=n.toNat:=by
 rw [BitVec.toNat_ofInt]; omega
theorem XQ (w:BitVec 64) (k:Nat):(((w >>> k) &&& 1#64) == 1#64)=w.getLsbD k:=by
 rw [BitVec.and_one_eq_setWidth_ofBool_getLsbD,BitVec.getLsbD_ushiftRight,Nat.add_zero]
 all_goals (cases w.getLsbD k <;> rfl)
def ET (w:Int) (b:AE):Prop:=Jq b/\b.Width=w
def QR (s:A6):Nat->Int->Int
 | 0,_=>0
 | m+1,i=>((s.Deps.getD i.toNat []).length:Int)+QR s m (i+1)
theorem Jq.words {s:AE} (h:Jq s):0<=s.Width/\s.Width<=256/\s.Words.length<=4:=by
 obtain ⟨a,b,c,_⟩:=h;omega
def Zt (s:AE):Prop:=-1000<=s.Width/\s.Width<=1000/\s.Words.length<=1000
theorem Jq.ok {s:AE} (h:Jq s):Zt s:=by have:=h.words; unfold Zt; omega
theorem Yl (n:Nat) (b:Int):Ep (List.replicate n 0#64) b=false:=by
 unfold Ep;rw [List.getD_eq_getElem?_getD,List.getElem?_replicate]
 split <;> simp
def deps (s:A6) (x:Int):List Int:=s.Deps.getD x.toNat []
theorem NN {w:Int} {s:AE} (h:ET w s):0<=w/\w<=256/\s.Width=w/\(s.Words.length:Int)=(w+63) / 64:=by
 obtain ⟨⟨h0,h1,h2,h3⟩,rfl⟩:=h; exact ⟨h0,h1,rfl,h2⟩
theorem fX {ws:List (BitVec 64)} {b:Int} (hb:0<=b) (hl:b / 64 < (ws.length:Int)) (x:Int) (hx:0<=x):Ep (ws.set (b / 64).toNat ((ws.getD (b / 64).toNat 0#64) ||| (1#64 <<< (b % 64).toNat))) x=(Ep ws x || x == b):=by
 unfold Ep;simp only [List.getD_eq_getElem?_getD,List.getElem?_set];by_cases hq:(b / 64).toNat=(x / 64).toNat
 ·rw [if_pos hq,if_pos (by omega)];simp only [Option.getD_some,BitVec.getLsbD_or,BitVec.getLsbD_shiftLeft,BitVec.getLsbD_one,hq]
  congr 1
  rw [Bool.eq_iff_iff]
  simp
  omega
 ·rw [if_neg hq];have:(x == b)=false:=by rw [beq_eq_false_iff_ne]; intro e; subst e; exact hq rfl
  rw [this,Bool.or_false]
theorem rK {b:Int} (h:0<=b/\b < 18446744073709551616):((((BitVec.ofInt 64 b) % 64#64).toNat:Int)).toNat=(b % 64).toNat:=by
 rw [BitVec.toNat_umod,BitVec.toNat_ofInt]
 simp
 omega
def OP (w:BitVec 64) (k:Nat):Prop:=w.getLsbD k=true/\∀ j,j < k->w.getLsbD j=false
theorem WT {w:BitVec 64} {k:Nat} (h:OP w k) {i:Nat} (hi:i < 64):(-w).getLsbD i=if i<=k then w.getLsbD i else !w.getLsbD i:=by
 rw [BitVec.getLsbD_neg];by_cases c:i<=k
 ·rw [if_pos c];have:¬ ∃ j,j < i/\w.getLsbD j=true:=by
   rintro ⟨j,j1,j2⟩;rw [h.2 j (by omega)] at j2; cases j2
  rw [decide_eq_false this]; simp
 ·rw [if_neg c];have:∃ j,j < i/\w.getLsbD j=true:=⟨k,by omega,h.1⟩
  simp [hi,this]
theorem gL {w:BitVec 64} {k:Nat} (h:OP w k) (hk:k < 64):w &&& -w=BitVec.twoPow 64 k:=by
 apply BitVec.eq_of_getLsbD_eq;intro i hi;rw [BitVec.getLsbD_and,WT h hi,BitVec.getLsbD_twoPow];by_cases c:i<=k
 ·rw [if_pos c];by_cases e:i=k
  ·subst e; simp [h.1,hi]
  ·rw [h.2 i (by omega)]; simp; omega
 ·rw [if_neg c];have:(k == i)=false:=by simp; omega
  cases w.getLsbD i <;> simp <;> omega
theorem Z5 {w:BitVec 64} {k:Nat} (h:OP w k) {i:Nat} (hi:i < 64):(w &&& (w - 1#64)).getLsbD i=(w.getLsbD i && decide (i≠k)):=by
 have e1:w - 1#64 = ~~~(-w):=by
  rw [BitVec.not_eq_neg_add,BitVec.neg_neg]
 rw [e1,BitVec.getLsbD_and,BitVec.getLsbD_not,WT h hi];by_cases c:i<=k
 ·rw [if_pos c];by_cases e:i=k
  ·subst e; simp [h.1]
  ·rw [h.2 i (by omega)]; simp
 ·rw [if_neg c];have:i≠k:=by omega
  cases w.getLsbD i <;> simp [hi,this]
theorem sK:∀ k,k < 64->Gs.getD (((BitVec.twoPow 64 k*0x03f79d71b4ca8b09#64) >>> 58).toNat) 0=(k:Int):=by decide +kernel
theorem tY {w:BitVec 64} {k:Nat} (h:OP w k) (hk:k < 64):Gs.getD ((((w &&& -w)*0x03f79d71b4ca8b09#64) >>> 58).toNat) 0=(k:Int):=by rw [gL h hk]; exact sK k hk
theorem M3 {α R:Type} [Inhabited α] {P:α->Bool} {l:List α} {no:R} (L:Nat->Int->LR Unit R) (h0:∀ i,L 0 i=.brk ()) (h1:∀ r (i:Int),0<=i->i < (l.length:Int)->L (r+1) i=if P (l.getD i.toNat default)=true then L r (i+1) else .ret no) :
  L ((l.length:Int) - 0).toNat 0=if l.all P=true then .brk () else .ret no:=by
 have key:∀ (suf pre:List α),l=pre++suf->L suf.length (pre.length:Int)=if suf.all P=true then .brk () else .ret no:=fun suf=>by
  induction suf with
  | nil=>intro pre _; exact h0 _
  | cons a suf ih=>
   intro pre hl;have hlen:l.length=pre.length+(suf.length+1):=by rw [hl]; simp
   have hg:l.getD ((pre.length:Int)).toNat default=a:=by rw [hl]; simp
   rw [List.length_cons,h1 _ _ (by omega) (by omega),hg,List.all_cons];have:=ih (pre++[a]) (by rw [hl]; simp);rw [List.length_append,List.length_cons,List.length_nil,Int.natCast_add] at this;rw [show ((pre.length:Int)+1)=(pre.length:Int)+((0+1:Nat):Int) from rfl,this];cases P a <;> simp
 have:=key l [] rfl;rw [show ((l.length:Int) - 0).toNat=l.length by omega];exact this
theorem XA {s:Aa} (h:(s == (Aa.mk []))=false):0 < s.b.length:=by
 obtain ⟨b⟩:=s;cases b with
 | nil=>simp at h
 | cons a b=>simp
def K3 (s:Az):Bool:=decide (s.Uses.length<=600000000) && decide (s.Targets.length<=600000000)
def PT (b:A3):Bool:=b.Stmts.all K3
def Qj (f:A7):Bool:=f.Blocks.all PT
def Ez (p:Aw):Bool:=p.Funcs.all Qj
theorem Xn {α:Type} [Inhabited α] {q:α->Bool} {l:List α} (h:l.all q=true) {i:Int} (hi:0<=i/\i < (l.length:Int)):q (l.getD i.toNat default)=true:=
 List.all_eq_true.1 h _ (BF (by omega))
theorem dD {p:Aw} (h:Ez p=true) {i:Int} (hi:0<=i/\i < (p.Funcs.length:Int)):Qj (p.Funcs.getD i.toNat default)=true:=Xn h hi
theorem Z4 {f:A7} (h:Qj f=true) {i:Int} (hi:0<=i/\i < (f.Blocks.length:Int)):PT (f.Blocks.getD i.toNat default)=true:=Xn h hi
theorem hH {b:A3} (h:PT b=true) {x:Az} (hx:x∈b.Stmts):K3 x=true:=List.all_eq_true.1 h x hx
theorem n5 {s:Az} (h:K3 s=true):s.Uses.length<=600000000/\s.Targets.length<=600000000:=by
 unfold K3 at h; simpa using h
theorem Xj {α β:Type} [Inhabited α] {xs:List α} {g:α->β} (L:Nat->List β->Int->List β) (h0:∀ b j,L 0 b j=b) (h1:∀ r b (j:Int),0<=j->j < (xs.length:Int)->L (r+1) b j=L r (b++[g (xs.getD j.toNat default)]) (j+1)) :
  L ((xs.length:Int) - 0).toNat [] 0=xs.map g:=by
 have key:∀ (suf pre:List α),xs=pre++suf->L suf.length (pre.map g) (pre.length:Int)=xs.map g:=fun suf=>by
  induction suf with
  | nil=>intro pre hx; rw [List.length_nil,h0,hx,List.append_nil]
  | cons a suf ih=>
   intro pre hx;have hlen:xs.length=pre.length+(suf.length+1):=by rw [hx]; simp
   have hg:xs.getD ((pre.length:Int)).toNat default=a:=by rw [hx]; simp
   rw [List.length_cons,h1 _ _ _ (by omega) (by omega),hg];have:=ih (pre++[a]) (by rw [hx]; simp);rw [List.length_append,List.length_cons,List.length_nil,Int.natCast_add,List.map_append] at this;exact this
 have:=key xs [] rfl;rw [show ((xs.length:Int) - 0).toNat=xs.length by omega];exact this
def QS (u v:Nat) (s:Az):Bool:=decide (s.Uses.length<=u) && decide (s.Targets.length<=v)
def QB (u v:Nat) (b:A3):Bool:=b.Stmts.all (QS u v)
def QF (u v:Nat) (f:A7):Bool:=f.Blocks.all (QB u v)
def QP (u v:Nat) (p:Aw):Bool:=p.Funcs.all (QF u v)
def QL (b:A3):Bool:=decide (b.Stmts.length<=4)
def Uh (f:A7):Prop:=(1<=f.Blocks.length/\f.Blocks.length<=3)/\f.Blocks.all QL=true
def YN (p:Aw):Prop:=(1<=p.Funcs.length/\p.Funcs.length<=3)/\(∀ f∈p.Funcs,Uh f)/\QP 3 2 p=true
theorem uO {u v:Nat} {p:Aw} (h:QP u v p=true) (hu:u<=1000000) (hv:v<=1000000):Ez p=true:=by
 unfold QP at h; unfold Ez;refine List.all_eq_true.2 fun f hf=>?_;have h1:=List.all_eq_true.1 h f hf;unfold QF at h1; unfold Qj;refine List.all_eq_true.2 fun b hb=>?_;have h2:=List.all_eq_true.1 h1 b hb;unfold QB at h2; unfold PT;refine List.all_eq_true.2 fun s hs=>?_;have h3:=List.all_eq_true.1 h2 s hs;unfold QS at h3; unfold K3;simp only [Bool.and_eq_true,decide_eq_true_eq] at h3 ⊢;omega
theorem R6 {p:Aw} (h:YN p):Ez p=true:=uO h.2.2 (by omega) (by omega)
def Nr {α:Type} [Inhabited α] (P:α->Prop) (xs:List α) (j:Int):Prop:=∀ m:Nat,j<=(m:Int)->P (xs.getD m default)
def Q0 (s:Aa):Prop:=s.b.length<=1000
def TY (s:Az):Prop:=s.Def.b.length<=1000/\Nr Q0 s.Uses 0/\Nr Q0 s.Targets 0
def ZC (b:A3):Prop:=b.Name.b.length<=1000/\Nr TY b.Stmts 0
def TN (f:A7):Prop:=f.Name.b.length<=1000/\Nr ZC f.Blocks 0
def dK (p:Aw):Prop:=Nr TN p.Funcs 0
theorem NE {α:Type} [Inhabited α] {P:α->Prop} {xs:List α} (h:∀ x∈xs,P x) (h0:P default):Nr P xs 0:=fun m _=>by
 rw [List.getD_eq_getElem?_getD];cases e:xs[m]? with
 | none=>exact h0
 | some y=>exact h _ (List.mem_of_getElem? e)
theorem SV {α:Type} [Inhabited α] {P:α->Prop} (h0:P default) (j:Int):Nr P ([]:List α) j:=fun m _=>by simpa using h0
theorem O3:Q0 default:=by show (default:Aa).b.length<=1000; decide
theorem Xp:TY default:=⟨by show (default:Az).Def.b.length<=1000; decide,SV O3 _,SV O3 _⟩
theorem Yj:ZC default:=⟨by show (default:A3).Name.b.length<=1000; decide,SV Xp _⟩
theorem sC:TN default:=⟨by show (default:A7).Name.b.length<=1000; decide,SV Yj _⟩
def nS (i k:Int):Int->List Az->List Am
 | _,[]=>[]
 | v,s :: S=>(bif s.Op == 3 then [Am.mk 3 i k v,Am.mk 4 i k v] else [Am.mk 3 i k v])++nS i k (v+1) S
def nB (i:Int):Int->List A3->List Am
 | _,[]=>[]
 | k,b :: B=>nS i k 0 b.Stmts++nB i (k+1) B
def nF:Int->List A7->List Am
 | _,[]=>[]
 | i,f :: F=>[Am.mk 1 i (-1) (-1)]++nB i 0 f.Blocks++[Am.mk 2 i (-1) (-1)]++nF (i+1) F
theorem QZ {α:Type} [Inhabited α] {l:List α} {v:Int} (h0:0<=v) (h:v < (l.length:Int)):l.drop v.toNat=l.getD v.toNat default :: l.drop (v+1).toNat:=by
 rw [List.drop_eq_getElem_cons (show v.toNat < l.length by omega),show (v+1).toNat=v.toNat+1 by omega,List.getD_eq_getElem?_getD,List.getElem?_eq_getElem (show v.toNat < l.length by omega)]; rfl
def R8 (p:Aw) (n:Am):Prop:=(0<=n.Func/\n.Func < (p.Funcs.length:Int))/\(n.Kind≠1->n.Kind≠2->(0<=n.Block/\n.Block < ((p.Funcs.getD n.Func.toNat default).Blocks.length:Int))/\(0<=n.Stmt/\n.Stmt < ((((p.Funcs.getD n.Func.toNat default).Blocks).getD n.Block.toNat default).Stmts.length:Int))/\n.Stmt < 100)
theorem Rk (i k:Int):∀ (S:List Az) (v:Int) (n:Am),n∈nS i k v S->n.Func=i/\n.Block=k/\(n.Kind=3\/n.Kind=4)/\v<=n.Stmt/\n.Stmt < v+(S.length:Int)
 | [],v,n,h=>by cases h
 | s :: S,v,n,h=>by
  rw [nS] at h;rcases List.mem_append.1 h with h' | h'
  ·cases e:s.Op == 3
   ·rw [e,cond_false,List.mem_singleton] at h';subst h';exact ⟨rfl,rfl,.inl rfl,by show v<=v; omega,by show v < v+_; rw [List.length_cons]; omega⟩
   ·rw [e,cond_true] at h';simp only [List.mem_cons,List.not_mem_nil,or_false] at h';rcases h' with e | e <;> subst e
    ·exact ⟨rfl,rfl,.inl rfl,by show v<=v; omega,by show v < v+_; rw [List.length_cons]; omega⟩
    ·exact ⟨rfl,rfl,.inr rfl,by show v<=v; omega,by show v < v+_; rw [List.length_cons]; omega⟩
  ·have:=Rk i k S (v+1) n h';rw [List.length_cons];omega
theorem QI (i:Int):∀ (S:List A3) (v:Int) (n:Am),n∈nB i v S->n.Func=i/\(n.Kind=3\/n.Kind=4)/\(v<=n.Block/\n.Block < v+(S.length:Int))/\0<=n.Stmt/\n.Stmt < ((S.getD (n.Block - v).toNat default).Stmts.length:Int)
 | [],v,n,h=>by cases h
 | s :: S,v,n,h=>by
  rw [nB] at h;rcases List.mem_append.1 h with h' | h'
  ·obtain ⟨a1,a2,a3,a4,a5⟩:=Rk i v s.Stmts 0 n h';refine ⟨a1,a3,by rw [List.length_cons]; omega,a4,?_⟩;rw [show (n.Block - v).toNat=0 by omega];show n.Stmt < (s.Stmts.length:Int);omega
  ·obtain ⟨a1,a2,a3,a4,a5⟩:=QI i S (v+1) n h';refine ⟨a1,a2,by rw [List.length_cons]; omega,a4,?_⟩;rw [show (n.Block - v).toNat=(n.Block - (v+1)).toNat+1 by omega];exact a5
theorem SH:∀ (S:List A7) (v:Int) (n:Am),n∈nF v S->(v<=n.Func/\n.Func < v+(S.length:Int))/\(n.Kind≠1->n.Kind≠2->(n.Kind=3\/n.Kind=4)/\(0<=n.Block/\n.Block < ((S.getD (n.Func - v).toNat default).Blocks.length:Int))/\0<=n.Stmt/\n.Stmt < ((((S.getD (n.Func - v).toNat default).Blocks).getD n.Block.toNat default).Stmts.length:Int))
 | [],v,n,h=>by cases h
 | s :: S,v,n,h=>by
  rw [nF] at h;rw [List.length_cons];rcases List.mem_append.1 h with h | h'
  ·rcases List.mem_append.1 h with h | h
   ·rcases List.mem_append.1 h with h | h
    ·rw [List.mem_singleton.1 h];exact ⟨by show v<=v/\v < v+_; omega,fun a=>absurd rfl a⟩
    ·obtain ⟨a1,a2,a3,a4,a5⟩:=QI v s.Blocks 0 n h;refine ⟨by omega,fun _ _=>?_⟩;rw [show (n.Func - v).toNat=0 by omega];rw [show (n.Block - 0).toNat=n.Block.toNat by omega] at a5;exact ⟨a2,by show 0<=n.Block/\n.Block < (s.Blocks.length:Int); omega,a4,a5⟩
   ·rw [List.mem_singleton.1 h];exact ⟨by show v<=v/\v < v+_; omega,fun _ a=>absurd rfl a⟩
  ·obtain ⟨a1,a2⟩:=SH S (v+1) n h';refine ⟨by omega,?_⟩;rw [show (n.Func - v).toNat=(n.Func - (v+1)).toNat+1 by omega];exact a2
theorem Pr {p:Aw} (h:dK p) (i:Nat):TN (p.Funcs.getD i default):=h i (by omega)
def key (n:Am):Int:=n.Func*100000+(bif n.Kind == 1 then 0 else bif n.Kind == 2 then 99999 else 1+n.Block*1000+n.Stmt*2+(bif n.Kind == 4 then 1 else 0))
theorem VV:∀ {S:List A7} {v:Int} {n:Am},n∈nF v S->((n.Kind=1\/n.Kind=2)/\n.Block = -1/\n.Stmt = -1)\/(n.Kind=3\/n.Kind=4)
 | [],v,n,h=>by cases h
 | s :: S,v,n,h=>by
  rw [nF] at h;rcases List.mem_append.1 h with h | h
  ·rcases List.mem_append.1 h with h | h
   ·rcases List.mem_append.1 h with h | h
    ·rw [List.mem_singleton.1 h]; exact .inl ⟨.inl rfl,rfl,rfl⟩
    ·exact .inr (QI v s.Blocks 0 n h).2.1
   ·rw [List.mem_singleton.1 h]; exact .inl ⟨.inr rfl,rfl,rfl⟩
  ·exact VV h
theorem Ps {α β:Type} {l:List α} {g:α->β} {n:Nat} {d:α} {e:β} (h:n < l.length):(l.map g).getD n e=g (l.getD n d):=by
 rw [List.getD_eq_getElem?_getD,List.getD_eq_getElem?_getD,List.getElem?_map,List.getElem?_eq_getElem h]; rfl
def KN (m:List (Aa×Bool)) (l:List Aa):Prop:=∀ s,(Bx m s).getD false=l.any (fun x=>x == s)
theorem VK {m:List (Aa×Bool)} {l:List Aa} (h:KN m l) (n:Aa):KN (mset m n true) (l++[n]):=fun s=>by
 rw [Q8,List.any_append,List.any_cons,List.any_nil,Bool.or_false,<- h s];by_cases e:n=s
 ·rw [if_pos e,beq_iff_eq.2 e,Bool.or_true]; rfl
 ·rw [if_neg e,beq_eq_false_iff_ne.2 e,Bool.or_false]
def K5 (l:List Int) (n:Int):Prop:=∀ k,0<=k->k < (l.length:Int)->0<=l.getD k.toNat 0/\l.getD k.toNat 0 < n/\(0 < k->l.getD (k - 1).toNat 0 < l.getD k.toNat 0)
structure VG (g:JE):Prop where
 n1:1<=g.Nodes.length/\g.Nodes.length<=256
 sl:g.Succ.length=g.Nodes.length
 pl:g.Pred.length=g.Nodes.length
 sa:∀ k:Int,0<=k->k < (g.Nodes.length:Int)->K5 (g.Succ.getD k.toNat []) (g.Nodes.length:Int)
theorem X7 {l:List Int} {n x:Int} (h:K5 l n) (hx:x∈l):0<=x/\x < n:=by
 obtain ⟨i,hi,e⟩:=List.mem_iff_getElem.1 hx;have:=h (i:Int) (by omega) (by omega);rw [show ((i:Int)).toNat=i by omega,List.getD_eq_getElem?_getD,List.getElem?_eq_getElem hi] at this;rw [<- e]; exact ⟨this.1,this.2.1⟩
theorem sL {l:List Int} {n:Int} (h:K5 l n):(l.length:Int)<=n\/l=[]:=by
 have key:∀ (m:Nat),m < l.length->(m:Int)<=l.getD m 0:=fun m=>by
  induction m with
  | zero=>intro hm; have:=(h 0 (by omega) (by omega)).1; simpa using this
  | succ m ih=>
   intro hm;have h1:=ih (by omega);have h2:=(h ((m+1:Nat):Int) (by omega) (by omega)).2.2 (by omega);rw [show (((m+1:Nat):Int) - 1).toNat=m by omega,show (((m+1:Nat):Int)).toNat=m+1 by omega] at h2;omega
 by_cases e:l.length=0
 ·exact .inr (List.length_eq_zero_iff.1 e)
 ·left;have h1:=key (l.length - 1) (by omega);have h2:=(h ((l.length - 1:Nat):Int) (by omega) (by omega)).2.1;rw [show (((l.length - 1:Nat):Int)).toNat=l.length - 1 by omega] at h2;omega
def Lq (S:List (List Int)) (sn:List Bool):Nat->Nat
 | 0=>0
 | n+1=>Lq S sn n+(if sn.getD n false=true then 0 else (S.getD n []).length)
theorem Un {sn:List Bool} {k i:Nat} (hk:k < sn.length):(sn.set k true).getD i false=if i=k then true else sn.getD i false:=by
 simp only [List.getD_eq_getElem?_getD,List.getElem?_set];by_cases e:i=k
 ·subst e; simp [hk]
 ·simp [e,Ne.symm e]
theorem bF {S:List (List Int)} {sn:List Bool} {k:Nat} (hk:k < sn.length):∀ n,n<=k->Lq S (sn.set k true) n=Lq S sn n
 | 0,_=>rfl
 | n+1,h=>by rw [Lq,Lq,bF hk n (by omega),Un hk,if_neg (show ¬ n=k by omega)]
theorem bO {S:List (List Int)} {sn:List Bool} {k:Nat} (hk:k < sn.length) (hs:sn.getD k false=false):∀ n,k < n->Lq S (sn.set k true) n+(S.getD k []).length=Lq S sn n
 | 0,h=>by omega
 | n+1,h=>by
  rw [Lq,Lq,Un hk];by_cases e:n=k
  ·subst e; rw [if_pos rfl,if_pos rfl,bF hk n (Nat.le_refl _),hs]; simp
  ·have:=bO (S:=S) hk hs n (by omega); rw [if_neg e]; omega
structure RI (g:JE) (f:List Int) (sn:List Bool) (td out:List Int):Prop where
 sl:sn.length=g.Nodes.length
 tm:∀ x∈td,0<=x/\x < (g.Nodes.length:Int)
 on:out.Nodup
 oi:∀ x∈out,0<=x/\x < (g.Nodes.length:Int)
 so:∀ x:Int,0<=x->x < (g.Nodes.length:Int)->(sn.getD x.toNat false=true↔x∈out)
 pt:td.length+Lq g.Succ sn g.Nodes.length<=f.length+65536
theorem TT {l:List Int} {n:Int} (h:K5 l n) (i:Nat):∀ d:Nat,i+d+1 < l.length->l.getD i 0 < l.getD (i+d+1) 0
 | 0,hd=>by
  have:=(h ((i+1:Nat):Int) (by omega) (by omega)).2.2 (by omega)
  rwa [show (((i+1:Nat):Int) - 1).toNat=i by omega,show (((i+1:Nat):Int)).toNat=i+1 by omega] at this
 | d+1,hd=>by
  have h1:=TT h i d (by omega);have h2:=(h ((i+d+1+1:Nat):Int) (by omega) (by omega)).2.2 (by omega);rw [show (((i+d+1+1:Nat):Int) - 1).toNat=i+d+1 by omega,show (((i+d+1+1:Nat):Int)).toNat=i+d+1+1 by omega] at h2;exact Int.lt_trans h1 h2
theorem bU (l:List Int) (n:Int):K5 l n↔l.Pairwise (· < ·)/\∀ x∈l,0<=x/\x < n:=by
 constructor
 ·intro h;refine ⟨List.pairwise_iff_getElem.2 fun i j hi hj hij=>?_,fun x hx=>X7 h hx⟩;have:=TT h i (j - i - 1) (by omega);rw [show i+(j - i - 1)+1=j by omega] at this
  simpa [List.getD_eq_getElem?_getD,List.getElem?_eq_getElem hi,List.getElem?_eq_getElem hj] using this
 ·rintro ⟨h1,h2⟩ k hk0 hk;have hk':k.toNat < l.length:=by omega
  have e1:l.getD k.toNat 0=l[k.toNat]:=by simp [List.getD_eq_getElem?_getD,List.getElem?_eq_getElem hk']
  rw [e1];refine ⟨(h2 _ (List.getElem_mem hk')).1,(h2 _ (List.getElem_mem hk')).2,fun h0=>?_⟩;have hk2:(k - 1).toNat < l.length:=by omega
  have e2:l.getD (k - 1).toNat 0=l[(k - 1).toNat]:=by rw [List.getD_eq_getElem?_getD,List.getElem?_eq_getElem hk2]; rfl
  rw [e2];exact List.pairwise_iff_getElem.1 h1 _ _ hk2 hk' (by omega)
structure VF (S P:List (List Int)) (n:Nat):Prop where
 sl:S.length=n
 pl:P.length=n
 sa:∀ k:Nat,k < n->K5 (S.getD k []) (n:Int)
 pa:∀ k:Nat,k < n->K5 (P.getD k []) (n:Int)
 mi:∀ i k:Nat,i < n->k < n->((k:Int)∈S.getD i []↔(i:Int)∈P.getD k [])
theorem VF.symm {S P:List (List Int)} {n:Nat} (h:VF S P n):VF P S n:=⟨h.pl,h.sl,h.pa,h.sa,fun i k hi hk=>(h.mi k i hk hi).symm⟩
theorem V6 {l:List Int} {k:Nat} (hk:k < l.length):l.getD k 0=l[k]:=by rw [List.getD_eq_getElem?_getD,List.getElem?_eq_getElem hk]; rfl
theorem RG {l:List (List Int)} {a k:Nat} {x:List Int} (ha:a < l.length):(l.set a x).getD k []=if k=a then x else l.getD k []:=by
 simp only [List.getD_eq_getElem?_getD,List.getElem?_set];by_cases e:k=a
 ·subst e; simp [ha]
 ·simp [e,Ne.symm e]
theorem VF.nil (n:Nat):VF (List.replicate n []) (List.replicate n []) n:=by
 have e:∀ k,(List.replicate n ([]:List Int)).getD k []=[]:=fun k=>by
  rw [List.getD_eq_getElem?_getD,List.getElem?_replicate]; split <;> rfl
 refine ⟨List.length_replicate,List.length_replicate,fun k _=>?_,fun k _=>?_,fun i k _ _=>?_⟩
 ·rw [e]; intro k h1 h2; simp at h2; omega
 ·rw [e]; intro k h1 h2; simp at h2; omega
 ·rw [e,e]; exact ⟨fun h=>(by cases h),fun h=>(by cases h)⟩
def Ck (p:Aw) (n:Am):Az:=(((((p.Funcs.getD (n.Func:Int).toNat default).Blocks).getD (n.Block:Int).toNat default).Stmts).getD (n.Stmt:Int).toNat default)
theorem Ye (i k:Int):∀ (S:List Az) (v:Int) (n:Am),n∈nS i k v S->n.Kind=4->(S.getD (n.Stmt - v).toNat default).Op=3/\Am.mk 3 i k n.Stmt∈nS i k v S
 | [],v,n,h,_=>by cases h
 | s :: S,v,n,h,h4=>by
  rw [nS] at h ⊢;rcases List.mem_append.1 h with h' | h'
  ·cases e:s.Op == 3
   ·rw [e,cond_false,List.mem_singleton] at h';rw [h'] at h4; cases h4
   ·rw [e,cond_true] at h';simp only [List.mem_cons,List.not_mem_nil,or_false] at h';rcases h' with e1 | e1
    ·rw [e1] at h4; cases h4
    ·rw [e1,cond_true];refine ⟨?_,List.mem_append.2 (.inl (by simp))⟩;rw [show ((Am.mk 4 i k v).Stmt - v).toNat=0 by show (v - v).toNat=0; omega];exact eq_of_beq e
  ·obtain ⟨a1,a2⟩:=Ye i k S (v+1) n h' h4;have hb:=(Rk i k S (v+1) n h').2.2.2;refine ⟨?_,List.mem_append.2 (.inr a2)⟩;rw [show (n.Stmt - v).toNat=(n.Stmt - (v+1)).toNat+1 by omega];exact a1
theorem Ym (i:Int):∀ (S:List A3) (v:Int) (n:Am),n∈nB i v S->n.Kind=4->(((S.getD (n.Block - v).toNat default).Stmts).getD n.Stmt.toNat default).Op=3/\Am.mk 3 i n.Block n.Stmt∈nB i v S
 | [],v,n,h,_=>by cases h
 | s :: S,v,n,h,h4=>by
  rw [nB] at h ⊢;rcases List.mem_append.1 h with h' | h'
  ·obtain ⟨a1,a2⟩:=Ye i v s.Stmts 0 n h' h4;have hb:=(Rk i v s.Stmts 0 n h').2.1;rw [hb];refine ⟨?_,List.mem_append.2 (.inl a2)⟩;rw [show (v - v).toNat=0 by omega]
   rwa [show n.Stmt - 0=n.Stmt by omega] at a1
  ·obtain ⟨a1,a2⟩:=Ym i S (v+1) n h' h4;have hb:=(QI i S (v+1) n h').2.2.1;refine ⟨?_,List.mem_append.2 (.inr a2)⟩;rw [show (n.Block - v).toNat=(n.Block - (v+1)).toNat+1 by omega];exact a1
theorem ZY:∀ (S:List A7) (v:Int) (n:Am),n∈nF v S->n.Kind=4->(((((S.getD (n.Func - v).toNat default).Blocks).getD n.Block.toNat default).Stmts).getD n.Stmt.toNat default).Op=3/\Am.mk 3 n.Func n.Block n.Stmt∈nF v S
 | [],v,n,h,_=>by cases h
 | s :: S,v,n,h,h4=>by
  rw [nF] at h ⊢;rcases List.mem_append.1 h with h | h'
  ·rcases List.mem_append.1 h with h | h
   ·rcases List.mem_append.1 h with h | h
    ·rw [List.mem_singleton.1 h] at h4; cases h4
    ·obtain ⟨a1,a2⟩:=Ym v s.Blocks 0 n h h4;have hb:=(QI v s.Blocks 0 n h).1;rw [hb];refine ⟨?_,List.mem_append.2 (.inl (List.mem_append.2 (.inl (List.mem_append.2 (.inr a2)))))⟩;rw [show (v - v).toNat=0 by omega]
     rwa [show n.Block - 0=n.Block by omega] at a1
   ·rw [List.mem_singleton.1 h] at h4; cases h4
  ·obtain ⟨a1,a2⟩:=ZY S (v+1) n h' h4;have hb:=(SH S (v+1) n h').1;refine ⟨?_,List.mem_append.2 (.inr a2)⟩;rw [show (n.Func - v).toNat=(n.Func - (v+1)).toNat+1 by omega];exact a1
theorem mS (i k:Int):∀ (S:List Az) (v s:Int),v<=s->s < v+(S.length:Int)->Am.mk 3 i k s∈nS i k v S/\((S.getD (s - v).toNat default).Op=3->Am.mk 4 i k s∈nS i k v S)
 | [],v,s,h0,h1=>by simp at h1; omega
 | x :: S,v,s,h0,h1=>by
  rw [nS];by_cases e:s=v
  ·subst e;rw [show (s - s).toNat=0 by omega];refine ⟨List.mem_append.2 (.inl ?_),fun h=>List.mem_append.2 (.inl ?_)⟩
   ·cases x.Op == 3 <;> simp
   ·rw [show (x.Op == 3)=true from beq_iff_eq.2 h]; simp
  ·rw [List.length_cons] at h1;obtain ⟨a1,a2⟩:=mS i k S (v+1) s (by omega) (by omega);rw [show (s - v).toNat=(s - (v+1)).toNat+1 by omega];exact ⟨List.mem_append.2 (.inr a1),fun h=>List.mem_append.2 (.inr (a2 h))⟩
theorem mB (i:Int):∀ (S:List A3) (v b s:Int),v<=b->b < v+(S.length:Int)->0<=s->s < ((S.getD (b - v).toNat default).Stmts.length:Int)->Am.mk 3 i b s∈nB i v S/\((((S.getD (b - v).toNat default).Stmts).getD s.toNat default).Op=3->Am.mk 4 i b s∈nB i v S)
 | [],v,b,s,h0,h1,_,_=>by simp at h1; omega
 | x :: S,v,b,s,h0,h1,s0,s1=>by
  rw [nB];by_cases e:b=v
  ·subst e;rw [show (b - b).toNat=0 by omega] at s1 ⊢;obtain ⟨a1,a2⟩:=mS i b x.Stmts 0 s s0 (by rw [Int.zero_add]; exact s1);rw [show s - 0=s by omega] at a2;exact ⟨List.mem_append.2 (.inl a1),fun h=>List.mem_append.2 (.inl (a2 h))⟩
  ·rw [List.length_cons] at h1;rw [show (b - v).toNat=(b - (v+1)).toNat+1 by omega] at s1 ⊢;obtain ⟨a1,a2⟩:=mB i S (v+1) b s (by omega) (by omega) s0 s1;exact ⟨List.mem_append.2 (.inr a1),fun h=>List.mem_append.2 (.inr (a2 h))⟩
theorem mF:∀ (S:List A7) (v f:Int),v<=f->f < v+(S.length:Int)->Am.mk 1 f (-1) (-1)∈nF v S/\Am.mk 2 f (-1) (-1)∈nF v S/\∀ b s:Int,0<=b->b < ((S.getD (f - v).toNat default).Blocks.length:Int)->0<=s->s < ((((S.getD (f - v).toNat default).Blocks).getD b.toNat default).Stmts.length:Int) ->
  Am.mk 3 f b s∈nF v S/\((((((S.getD (f - v).toNat default).Blocks).getD b.toNat default).Stmts).getD s.toNat default).Op=3->Am.mk 4 f b s∈nF v S)
 | [],v,f,h0,h1=>by simp at h1; omega
 | x :: S,v,f,h0,h1=>by
  rw [nF];by_cases e:f=v
  ·subst e;rw [show (f - f).toNat=0 by omega];refine ⟨by simp,by simp,fun b s b0 b1 s0 s1=>?_⟩;obtain ⟨a1,a2⟩:=mB f x.Blocks 0 b s b0 (by rw [Int.zero_add]; exact b1) s0 (by rw [show b - 0=b by omega]; exact s1);rw [show b - 0=b by omega] at a2;have up:∀ n,n∈nB f 0 x.Blocks->n∈[Am.mk 1 f (-1) (-1)]++nB f 0 x.Blocks++[Am.mk 2 f (-1) (-1)]++nF (f+1) S:=fun n h=>by simp [h]
   exact ⟨up _ a1,fun h=>up _ (a2 h)⟩
  ·rw [List.length_cons] at h1;rw [show (f - v).toNat=(f - (v+1)).toNat+1 by omega];obtain ⟨a1,a2,a3⟩:=mF S (v+1) f (by omega) (by omega);have up:∀ n,n∈nF (v+1) S->n∈[Am.mk 1 v (-1) (-1)]++nB v 0 x.Blocks++[Am.mk 2 v (-1) (-1)]++nF (v+1) S:=fun n h=>List.mem_append.2 (.inr h);refine ⟨up _ a1,up _ a2,fun b s b0 b1 s0 s1=>?_⟩;obtain ⟨c1,c2⟩:=a3 b s b0 b1 s0 s1;exact ⟨up _ c1,fun h=>up _ (c2 h)⟩
theorem Sd {p:Aw} {n:Am} (h:n∈nF 0 p.Funcs):(0<=n.Func/\n.Func < (p.Funcs.length:Int))/\(((n.Kind=1\/n.Kind=2)/\n.Block = -1/\n.Stmt = -1)\/((n.Kind=3\/n.Kind=4)/\(0<=n.Block/\n.Block < ((p.Funcs.getD n.Func.toNat default).Blocks.length:Int))/\0<=n.Stmt/\n.Stmt < ((((p.Funcs.getD n.Func.toNat default).Blocks).getD n.Block.toNat default).Stmts.length:Int))):=by
 obtain ⟨a1,a2⟩:=SH p.Funcs 0 n h;rw [show n.Func - 0=n.Func by omega] at a2;refine ⟨by omega,?_⟩;rcases VV h with h1 | h1
 ·exact .inl h1
 ·obtain ⟨b1,b2,b3,b4⟩:=a2 (by omega) (by omega);exact .inr ⟨h1,b2,b3,b4⟩
theorem NR {p:Aw} {f:Int} (hf:0<=f/\f < (p.Funcs.length:Int)):Am.mk 1 f (-1) (-1)∈nF 0 p.Funcs/\Am.mk 2 f (-1) (-1)∈nF 0 p.Funcs/\∀ b s:Int,(0<=b/\b < ((p.Funcs.getD f.toNat default).Blocks.length:Int))->(0<=s/\s < ((((p.Funcs.getD f.toNat default).Blocks).getD b.toNat default).Stmts.length:Int)) ->
  Am.mk 3 f b s∈nF 0 p.Funcs/\((Ck p (Am.mk 3 f b s)).Op=3->Am.mk 4 f b s∈nF 0 p.Funcs):=by
 obtain ⟨a1,a2,a3⟩:=mF p.Funcs 0 f (by omega) (by omega);rw [show f - 0=f by omega] at a3;exact ⟨a1,a2,fun b s hb hs=>a3 b s hb.1 hb.2 hs.1 hs.2⟩
theorem XZ {p:Aw} {n:Am} (hn:n∈nF 0 p.Funcs) (h4:n.Kind=4):(Ck p n).Op=3/\Am.mk 3 n.Func n.Block n.Stmt∈nF 0 p.Funcs:=by
 obtain ⟨a1,a2⟩:=ZY p.Funcs 0 n hn h4;rw [show n.Func - 0=n.Func by omega] at a1;exact ⟨a1,a2⟩
theorem Y8 {S P:List (List Int)} {n:Nat} (h:VF S P n) (hn:n<=20000) (i:Nat):(S.getD i []).length<=20000:=by
 by_cases hi:i < n
 ·rcases sL (h.sa i hi) with h1 | h1
  ·omega
  ·rw [h1]; simp
 ·have:=h.sl;rw [List.getD_eq_getElem?_getD,List.getElem?_eq_none (by omega)]; simp
theorem cO {S P:List (List Int)} {n:Nat} (h:VF S P n) (hn:n<=20000) (i:Nat):(S.getD i []).length<=1000000000:=Nat.le_trans (Y8 h hn i) (by decide)
theorem bL {S P:List (List Int)} {n:Nat} (h:VF S P n) (hn:n<=20000) (i:Nat):(P.getD i []).length<=1000000000:=Nat.le_trans (Y8 h.symm hn i) (by decide)
theorem lW (n:Nat):VF (List.replicate ((n:Nat):Int).toNat []) (List.replicate ((n:Nat):Int).toNat []) n:=by
 rw [Int.toNat_natCast]; exact VF.nil n
def wb (i:Int) (w:BitVec 64):Nat->Nat->List Int
 | 0,_=>[]
 | n+1,k=>if w.getLsbD k then (i*64+(k:Int)) :: wb i w n (k+1) else wb i w n (k+1)
def NS (ws:List (BitVec 64)):Nat->Int->List Int
 | 0,_=>[]
 | r+1,v=>wb v (ws.getD v.toNat 0#64) 64 0++NS ws r (v+1)
def cb (ws:List (BitVec 64)):Nat->Int->List Int
 | 0,_=>[]
 | n+1,b=>bif Ep ws b then b :: cb ws n (b+1) else cb ws n (b+1)
theorem XI (ws:List (BitVec 64)) {v:Int} (hv:0<=v):∀ (n k:Nat),k+n<=64->wb v (ws.getD v.toNat 0#64) n k=cb ws n (v*64+(k:Int))
 | 0,k,h=>by rw [wb,cb]
 | n+1,k,h=>by
  rw [wb,cb,XI ws hv n (k+1) (by omega),show v*64+((k+1:Nat):Int)=v*64+(k:Int)+1 by omega];have:Ep ws (v*64+(k:Int))=(ws.getD v.toNat 0#64).getLsbD k:=by
   unfold Ep;rw [show (v*64+(k:Int)) / 64=v by omega,show ((v*64+(k:Int)) % 64).toNat=k by omega]
  rw [this];cases (ws.getD v.toNat 0#64).getLsbD k <;> simp
theorem VB (ws:List (BitVec 64)):∀ (m n:Nat) (b:Int),cb ws (m+n) b=cb ws m b++cb ws n (b+(m:Int))
 | 0,n,b=>by rw [cb]; simp
 | m+1,n,b=>by
  rw [show m+1+n=(m+n)+1 by omega,cb,cb,VB ws m n,show b+1+(m:Int)=b+((m+1:Nat):Int) by omega];cases Ep ws b <;> simp
theorem XE (ws:List (BitVec 64)):∀ (r:Nat) (v:Int),0<=v->NS ws r v=cb ws (64*r) (v*64)
 | 0,v,_=>by rw [NS]; rfl
 | r+1,v,h=>by
  rw [NS,XI ws h 64 0 (by omega),XE ws r (v+1) (by omega),show 64*(r+1)=64+64*r by omega,VB];rw [show v*64+((0:Nat):Int)=v*64 by omega,show (v+1)*64=v*64+((64:Nat):Int) by omega]
theorem XX (ws:List (BitVec 64)):∀ (n:Nat) (b:Int),(∀ x,b<=x->x < b+(n:Int)->Ep ws x=false)->cb ws n b=[]
 | 0,b,_=>rfl
 | n+1,b,h=>by rw [cb,h b (by omega) (by omega),cond_false,XX ws n (b+1) fun x h1 h2=>h x (by omega) (by omega)]
theorem S4 (ws:List (BitVec 64)) {x:Int}:∀ (n:Nat) (b:Int),x∈cb ws n b->b<=x/\x < b+(n:Int)
 | 0,b,h=>by cases h
 | n+1,b,h=>by
  rw [cb] at h;cases e:Ep ws b
  ·rw [e,cond_false] at h;have:=S4 ws n (b+1) h; omega
  ·rw [e,cond_true] at h;rcases List.mem_cons.1 h with c | c
   ·subst c; omega
   ·have:=S4 ws n (b+1) c; omega
theorem YL (ws:List (BitVec 64)):∀ (n:Nat) (b:Int),(cb ws n b).length<=n
 | 0,b=>by simp [cb]
 | n+1,b=>by
  rw [cb];have:=YL ws n (b+1);cases Ep ws b <;> simp <;> omega
def sn (s:Az) (y:Aa):Prop:=y∈s.Uses\/(y=s.Def/\s.Def≠Aa.mk [])
theorem iP {l:List Aa} {x:Aa} (h:x∈l):∃ j:Int,0<=j/\j < 0+((((((l.length:Nat):Int):Int) - 0).toNat:Nat):Int)/\l.getD j.toNat default=x:=by
 obtain ⟨j,hj,e⟩:=List.getElem_of_mem h;refine ⟨(j:Int),by omega,by omega,?_⟩;rw [show ((j:Int)).toNat=j by omega,List.getD_eq_getElem?_getD,List.getElem?_eq_getElem hj]; exact e
theorem kZ {m:Nat} (sep:Aa) (hs:sep.b.length=1):∀ (xs:List Aa),(∀ x∈xs,x.b.length<=m)->(HN xs sep).b.length<=xs.length*(m+1)
 | [],_=>by simp [HN,Lib.join]
 | x :: xs,h=>by
  have h1:∀ (ys:List Aa),(∀ x∈ys,x.b.length<=m)->(Lib.joinTail sep.b (ys.map (·.b))).length<=ys.length*(m+1):=fun ys=>by
   induction ys with
   | nil=>intro _; simp [Lib.joinTail]
   | cons y ys ih=>
    intro hy;have:=ih fun x hx=>hy x (List.mem_cons_of_mem _ hx);have h2:=hy y List.mem_cons_self;simp only [Lib.joinTail,List.map_cons,List.flatten_cons,List.length_append,List.length_cons] at *;rw [Nat.add_mul];omega
  have h2:=h1 xs fun y hy=>h y (List.mem_cons_of_mem _ hy);have h3:=h x List.mem_cons_self;show (Lib.join (x.b :: xs.map (·.b)) sep.b).length<=_;rw [Lib.join_cons,List.length_append,List.length_cons,Nat.add_mul];omega
theorem gV {p:Aw} {n:Am} (h:R8 p n) (hk:(n.Kind=3\/n.Kind=4)\/((n.Kind=1\/n.Kind=2)/\n.Block = -1/\n.Stmt = -1)) (hl:p.Funcs.length<=8) (hb:∀ f∈p.Funcs,f.Blocks.length<=16/\∀ b∈f.Blocks,b.Stmts.length<=32):Af n.Kind/\Af n.Func/\Af n.Block/\Af n.Stmt:=by
 obtain ⟨h1,h2⟩:=h;unfold Af;rcases hk with c | ⟨c,d,e⟩
 ·obtain ⟨h3,h4⟩:=h2 (by omega) (by omega);have b1:=hb _ (BF (xs:=p.Funcs) (i:=n.Func.toNat) (d:=default) (by omega));have b2:=b1.2 _ (BF (i:=n.Block.toNat) (d:=default) (by omega));omega
 ·omega
theorem Q9 (a b:Aa):(a++b).b.length=a.b.length+b.b.length:=List.length_append
def tw (g:Int->Aa) (m:List Int):Nat->Int->List Aa
 | 0,_=>[]
 | r+1,v=>g (m.getD v.toNat 0) :: tw g m r (v+1)
theorem Tg {B W m:Int} (h0:0<=m) (h1:m < B) (hw:0<=W):0<=m*W/\m*W+W<=B*W:=by
 refine ⟨Int.mul_nonneg h0 hw,?_⟩;have:(m+1)*W<=B*W:=Int.mul_le_mul_of_nonneg_right (by omega) hw;rw [Int.add_mul,Int.one_mul] at this; exact this
theorem aV {B W i:Int} (hw:0 < W) (h0:0<=i) (h1:i < B*W):0<=i / W/\i / W < B/\0<=i % W/\i % W < W:=by
 refine ⟨Int.ediv_nonneg h0 (by omega),Int.ediv_lt_of_lt_mul hw h1,Int.emod_nonneg _ (by omega),Int.emod_lt_of_pos _ hw⟩
def zc (d:List Int):Nat:=d.count 0
theorem uT {d:List Int} {i:Nat} {v:Int} (hi:i < d.length) (h0:d.getD i 0=0) (hv:v≠0):zc (d.set i v) < zc d:=by
 unfold zc;have e:d[i]=0:=by simpa [List.getD,hi] using h0
 rw [List.count_set hi];have hp:0 < d.count 0:=List.count_pos_iff.2 (e ▸ List.getElem_mem hi)
 simp [e,hv]; omega
structure DQ (d:List Int) (more:Bool) (d':List Int) (more':Bool):Prop where
 len:d'.length=d.length
 le:zc d'<=zc d
 more:more'=true->more=true\/zc d' < zc d
theorem DQ.refl (d:List Int) (m:Bool):DQ d m d m:=⟨rfl,Nat.le_refl _,.inl⟩
theorem DQ.trans {a b c:List Int} {x y z:Bool} (h:DQ a x b y) (k:DQ b y c z):DQ a x c z:=
 ⟨k.len.trans h.len,Nat.le_trans k.le h.le,fun hz=>(k.more hz).elim (fun hy=>(h.more hy).imp_right fun q=>Nat.lt_of_le_of_lt k.le q) (fun q=>.inr (Nat.lt_of_lt_of_le q h.le))⟩
theorem T3 (ws:List (BitVec 64)):∀ (n:Nat) (b:Int),(cb ws n b).Pairwise (· < ·)
 | 0,b=>by rw [cb]; exact List.Pairwise.nil
 | n+1,b=>by
  rw [cb];cases Ep ws b
  ·exact T3 ws n (b+1)
  ·refine List.pairwise_cons.2 ⟨fun x hx=>?_,T3 ws n (b+1)⟩;have:=S4 ws n (b+1) hx; omega
theorem Wp (ws:List (BitVec 64)) {x:Int}:∀ (n:Nat) (b:Int),x∈cb ws n b↔(b<=x/\x < b+(n:Int))/\Ep ws x=true
 | 0,b=>by rw [cb]; constructor; intro h; cases h; rintro ⟨h,_⟩; omega
 | n+1,b=>by
  rw [cb];cases e:Ep ws b
  ·rw [cond_false,Wp ws n (b+1)];constructor
   ·rintro ⟨h1,h2⟩; exact ⟨by omega,h2⟩
   ·rintro ⟨h1,h2⟩;have:x≠b:=fun q=>by rw [q,e] at h2; cases h2
    exact ⟨by omega,h2⟩
  ·rw [cond_true,List.mem_cons,Wp ws n (b+1)];constructor
   ·rintro (h | ⟨h1,h2⟩)
    ·rw [h]; exact ⟨by omega,e⟩
    ·exact ⟨by omega,h2⟩
   ·rintro ⟨h1,h2⟩;by_cases q:x=b
    ·exact .inl q
    ·exact .inr ⟨by omega,h2⟩
theorem lI {a b:List Int} (ha:a.Pairwise (· < ·)) (hb:b.Pairwise (· < ·)) (h:∀ x,x∈a↔x∈b):a=b:=by
 have nd:∀ {l:List Int},l.Pairwise (· < ·)->l.Nodup:=fun h=>h.imp (fun {a b} q e=>by omega);exact ((List.perm_ext_iff_of_nodup (nd ha) (nd hb)).2 h).eq_of_pairwise (fun a b _ _ q1 q2=>by omega) ha hb
theorem pK (x sep:Aa):HN [x] sep=x:=by
 unfold HN; simp [Lib.join,Lib.joinTail]
theorem Ss (l:List Aa) (a b:Int):Gp l a b=(l.all BY && (decide (a<=(l.length:Int)) && decide ((l.length:Int)<=b))):=by
 have l0:JI l ((l.length:Int) - 0).toNat 0=if l.all BY=true then .brk () else .ret false:=
  M3 (JI l) (fun i=>by rw [JI]) fun r i h0 h1=>by
   rw [JI]; cases BY (l.getD i.toNat default) <;> rfl
 rw [Gp,l0];cases l.all BY
 ·rfl
 ·cases decide (a<=(l.length:Int)) <;> rfl
theorem YI {s:Az} (h:BQ s=true):s.Uses.length<=4/\s.Targets.length<=2:=by
 unfold BQ at h;cases h1:Gp s.Uses 0 4
 ·rw [h1] at h; exact absurd h (by intro h; cases h)
 cases h2:Gp s.Targets 0 2
 ·rw [h1,h2] at h; exact absurd h (by intro h; cases h)
 rw [Ss] at h1 h2;simp only [Bool.and_eq_true,decide_eq_true_eq] at h1 h2;omega
theorem Uq {s:Az} (h:BQ s=true):(s.Def=Aa.mk []\/BY s.Def=true)/\(∀ u∈s.Uses,BY u=true)/\(∀ u∈s.Targets,BY u=true):=by
 unfold BQ at h;dsimp only at h;cases h1:Gp s.Uses 0 4
 ·rw [h1] at h; exact absurd h (by intro h; cases h)
 cases h2:Gp s.Targets 0 2
 ·rw [h1,h2] at h; exact absurd h (by intro h; cases h)
 rw [h1,h2] at h;rw [Ss] at h1 h2;simp only [Bool.and_eq_true,List.all_eq_true] at h1 h2;refine ⟨?_,h1.1,h2.1⟩;cases hd:BY s.Def
 ·left;rw [hd] at h;cases hz:s.Def == Aa.mk []
  ·exfalso;rw [hz] at h;simp only [Bool.not_true,cond_false] at h
   repeat' (first | (rw [Bool.cond_eq_ite] at h; split at h))
   all_goals cases h
  ·exact beq_iff_eq.1 hz
 ·exact .inr rfl
theorem KY (p:Aw):CG p=(decide (1<=p.Funcs.length/\p.Funcs.length<=8) && p.Funcs.all fun f=>BY f.Name && (decide (1<=f.Blocks.length/\f.Blocks.length<=16) && f.Blocks.all fun b=>BY b.Name && (decide (1<=b.Stmts.length/\b.Stmts.length<=32) && b.Stmts.all BQ))):=by
 have l2:∀ (b:List Az),JH b ((b.length:Int) - 0).toNat 0=if b.all BQ=true then .brk () else .ret false:=fun b=>
  M3 (JH b) (fun i=>by rw [JH]) fun r i h0 h1=>by
   rw [JH]; cases BQ (b.getD i.toNat default) <;> rfl
 have l1:∀ (f:List A3),Hu f ((f.length:Int) - 0).toNat 0=if (f.all fun b=>BY b.Name && (decide (1<=b.Stmts.length/\b.Stmts.length<=32) && b.Stmts.all BQ))=true then .brk () else .ret false:=fun f=>
  M3 (Hu f) (fun i=>by rw [Hu]) fun r i h0 h1=>by
   rw [Hu];generalize hb:f.getD i.toNat default=b;have e:=l2 b.Stmts;simp only [Bool.cond_eq_ite];cases hN:BY b.Name
   ·simp
   by_cases h1:((b.Stmts.length:Nat):Int) < 1
   ·have:¬ (1<=b.Stmts.length/\b.Stmts.length<=32):=by omega
    simp [h1,this]
   by_cases h2:(32:Int) < ((b.Stmts.length:Nat):Int)
   ·have:¬ (1<=b.Stmts.length/\b.Stmts.length<=32):=by omega
    simp [h1,h2,this]
   have h3:(1<=b.Stmts.length/\b.Stmts.length<=32):=by omega
   rw [e];simp only [h1,h2,decide_false,h3,decide_true,Bool.not_true,Bool.true_and,and_self,reduceIte,Bool.false_eq_true]
   all_goals (cases b.Stmts.all BQ <;> rfl)
 have l0:FY p ((p.Funcs.length:Int) - 0).toNat 0=if (p.Funcs.all fun f=>BY f.Name && (decide (1<=f.Blocks.length/\f.Blocks.length<=16) && f.Blocks.all fun b=>BY b.Name && (decide (1<=b.Stmts.length/\b.Stmts.length<=32) && b.Stmts.all BQ)))=true then .brk () else .ret false:=
  M3 (FY p) (fun i=>by rw [FY]) fun r i h0 h1=>by
   rw [FY];generalize hb:p.Funcs.getD i.toNat default=f;have e:=l1 f.Blocks;simp only [Bool.cond_eq_ite];cases hN:BY f.Name
   ·simp
   by_cases h1:((f.Blocks.length:Nat):Int) < 1
   ·have:¬ (1<=f.Blocks.length/\f.Blocks.length<=16):=by omega
    simp [h1,this]
   by_cases h2:(16:Int) < ((f.Blocks.length:Nat):Int)
   ·have:¬ (1<=f.Blocks.length/\f.Blocks.length<=16):=by omega
    simp [h1,h2,this]
   have h3:(1<=f.Blocks.length/\f.Blocks.length<=16):=by omega
   rw [e];simp only [h1,h2,decide_false,h3,decide_true,Bool.not_true,Bool.true_and,and_self,reduceIte,Bool.false_eq_true]
   all_goals (generalize (f.Blocks.all _)=q; cases q <;> rfl)
 rw [CG];simp only [Bool.cond_eq_ite];by_cases h1:((p.Funcs.length:Nat):Int) < 1
 ·have:¬ (1<=p.Funcs.length/\p.Funcs.length<=8):=by omega
  simp [h1,this]
 by_cases h2:(8:Int) < ((p.Funcs.length:Nat):Int)
 ·have:¬ (1<=p.Funcs.length/\p.Funcs.length<=8):=by omega
  simp [h1,h2,this]
 have h3:(1<=p.Funcs.length/\p.Funcs.length<=8):=by omega
 rw [l0];simp only [h1,h2,decide_false,h3,decide_true,Bool.true_and,reduceIte,Bool.false_eq_true,and_self]
 all_goals (generalize (p.Funcs.all _)=q; cases q <;> rfl)
theorem U0 {p:Aw} (h:CG p=true):p.Funcs.length<=8/\∀ i:Nat,(p.Funcs.getD i default).Blocks.length<=16/\∀ k:Nat,((p.Funcs.getD i default).Blocks.getD k default).Stmts.length<=32/\∀ j:Nat,(((p.Funcs.getD i default).Blocks.getD k default).Stmts.getD j default).Uses.length<=4/\(((p.Funcs.getD i default).Blocks.getD k default).Stmts.getD j default).Targets.length<=2:=by
 rw [KY] at h;simp only [Bool.and_eq_true,decide_eq_true_eq,List.all_eq_true] at h;have gm:∀ {α:Type} [Inhabited α] (l:List α) (i:Nat),l.getD i default∈l\/l.getD i default=default:=fun l i=>by
  by_cases hi:i < l.length
  ·left; rw [List.getD_eq_getElem?_getD,List.getElem?_eq_getElem hi]; exact List.getElem_mem hi
  ·right; rw [List.getD_eq_getElem?_getD,List.getElem?_eq_none (by omega)]; rfl
 refine ⟨h.1.2,fun i=>?_⟩;rcases gm p.Funcs i with hf | hf
 ·have hF:=(h.2 _ hf).2;refine ⟨hF.1.2,fun k=>?_⟩;rcases gm (p.Funcs.getD i default).Blocks k with hb | hb
  ·have hB:=(hF.2 _ hb).2;refine ⟨hB.1.2,fun j=>?_⟩;rcases gm ((p.Funcs.getD i default).Blocks.getD k default).Stmts j with hs | hs
   ·exact YI (hB.2 _ hs)
   ·rw [hs]; decide
  ·rw [hb];exact ⟨by decide,fun j=>by rw [show (default:A3).Stmts=[] from rfl]; simp; decide⟩
 ·rw [hf];refine ⟨by decide,fun k=>?_⟩;rw [show (default:A7).Blocks=[] from rfl];exact ⟨by simp; decide,fun j=>by simp [show (default:A3).Stmts=[] from rfl]; decide⟩
theorem YP {p:Aw} (hv:CG p=true) (i k j:Nat):(((((p.Funcs.getD i default).Blocks).getD k default).Stmts).getD j default).Op=3->0 < (((((p.Funcs.getD i default).Blocks).getD k default).Stmts).getD j default).Targets.length:=by
 have gd:∀ {α:Type} [Inhabited α] (l:List α) (i:Nat),i < l.length\/l.getD i default=default:=fun l i=>by
  by_cases hi:i < l.length
  ·exact .inl hi
  ·right; rw [List.getD_eq_getElem?_getD,List.getElem?_eq_none (by omega)]; rfl
 have d0:(default:Az).Op=3->0 < (default:Az).Targets.length:=fun h=>by cases h
 rw [KY] at hv;simp only [Bool.and_eq_true,decide_eq_true_eq,List.all_eq_true] at hv;rcases gd p.Funcs i with hi | hi
 ·rcases gd (p.Funcs.getD i default).Blocks k with hk | hk
  ·rcases gd ((p.Funcs.getD i default).Blocks.getD k default).Stmts j with hj | hj
   ·have hs:=((hv.2 _ (BF (d:=default) hi)).2.2 _ (BF (d:=default) hk)).2.2 _ (BF (d:=default) hj);intro h3;generalize (((p.Funcs.getD i default).Blocks.getD k default).Stmts.getD j default)=s at *;unfold BQ at hs;rw [h3] at hs;cases ht:s.Targets with
    | nil=>rw [ht] at hs; revert hs; simp
    | cons a l=>simp
   ·rw [hj]; exact d0
  ·rw [hk]; simpa [show (default:A3).Stmts=[] from rfl] using d0
 ·rw [hi]; simpa [show (default:A7).Blocks=[] from rfl,show (default:A3).Stmts=[] from rfl] using d0
theorem lG {p:Aw} (hv:CG p=true) {f:Int} (hf:0<=f/\f < (p.Funcs.length:Int)):0 < (p.Funcs.getD f.toNat default).Blocks.length/\∀ b:Int,(0<=b/\b < ((p.Funcs.getD f.toNat default).Blocks.length:Int))->0 < (((p.Funcs.getD f.toNat default).Blocks).getD b.toNat default).Stmts.length:=by
 rw [KY] at hv;simp only [Bool.and_eq_true,decide_eq_true_eq,List.all_eq_true] at hv;have h1:=(hv.2 _ (BF (xs:=p.Funcs) (i:=f.toNat) (d:=default) (by omega))).2;refine ⟨by omega,fun b hb=>?_⟩;have:=(h1.2 _ (BF (i:=b.toNat) (d:=default) (by omega))).2.1;omega
theorem iQ {n:Am} {v:Bool} (h:Ln n=v) (hv:(!v)=false):n.Kind=3\/n.Kind=4:=by
 unfold Ln at h;cases e:n.Kind == 3
 ·rw [e,cond_false] at h;rw [<- h] at hv;right
  simpa using hv
 ·exact .inl (by simpa using e)
theorem lZ (c:Int):H2 c=(EB c && !(c == 95)):=by
 by_cases h:c=95
 ·subst h; decide
 ·have h7:(c == 95)=false:=by simpa using h
  unfold H2 EB;rw [h7];generalize decide (97<=c)=a1;generalize decide (c<=122)=a2;generalize decide (65<=c)=a3;generalize decide (c<=90)=a4
  all_goals (cases a1 <;> cases a2 <;> cases a3 <;> cases a4 <;> rfl)
theorem pY (s:List Aa) (v:Aa):OI s v=s.any (fun k=>k == v):=by
 have:=SN (fun r i=>J3 s v r i) (fun i=>v == (s.getD i.toNat default)) () (fun _=>rfl) (fun _ _=>rfl) ((((s.length:Nat):Int) - 0).toNat) 0;unfold OI KX;rw [Bool.eq_iff_iff,List.any_eq_true];rcases this with ⟨j,e,j1,j2,j3⟩ | ⟨e,h⟩
 ·rw [e]; exact ⟨fun _=>⟨s.getD j.toNat default,BF (by omega),by rw [beq_iff_eq] at j3 ⊢; exact j3.symm⟩,fun _=>by simpa using j1⟩
 ·rw [e];refine ⟨fun h=>by simp at h,?_⟩;rintro ⟨x,hx,hfx⟩;obtain ⟨j,j1,j2,j3⟩:=(NK (d:=default)).1 hx;have:=h j j1 (by omega);rw [j3] at this; rw [beq_iff_eq] at hfx; rw [hfx] at this; simp at this
theorem pH (c:Int):G8 c=(EB c || K2 c):=by
 unfold G8 H2 OY EB K2;dsimp only;generalize decide (97<=c)=a1;generalize decide (c<=122)=a2;generalize decide (65<=c)=a3;generalize decide (c<=90)=a4;generalize decide (48<=c)=a5;generalize decide (c<=57)=a6;generalize (c == 95)=a7
 all_goals (cases a1 <;> cases a2 <;> cases a3 <;> cases a4 <;> cases a5 <;> cases a6 <;> cases a7 <;> rfl)
theorem ZW (s:Aa):BY s=(decide (1<=s.b.length/\s.b.length<=16) && ((EB ((s.b.getD 0 0).toNat:Int) && !(((s.b.getD 0 0).toNat:Int) == 95)) && ((s.b.all fun c=>G8 (c.toNat:Int)) && !(AQ.any fun k=>k == s)))):=by
 have l0:HU s ((s.b.length:Int) - 0).toNat 0=if (s.b.all fun c=>G8 (c.toNat:Int))=true then .brk () else .ret false:=
  M3 (HU s) (fun i=>by rw [HU]) fun r i h0 h1=>by
   rw [HU,show (default:UInt8)=0 from rfl,pH];dsimp only
   all_goals (cases EB ((s.b.getD (i:Int).toNat 0).toNat:Int) <;> cases K2 ((s.b.getD (i:Int).toNat 0).toNat:Int) <;> rfl)
 have l1:JN s ((Gj.length:Int) - 0).toNat 0=if (Gj.all fun k=>!(k == s))=true then .brk () else .ret false:=
  M3 (JN s) (fun i=>by rw [JN]) fun r i h0 h1=>by
   rw [JN]
   all_goals (cases Gj.getD (i:Int).toNat default == s <;> rfl)
 have e:(Gj.all fun k=>!(k == s)) = !(AQ.any fun k=>k == s):=by
  rw [List.any_eq_not_all_not,Bool.not_not]; rfl
 unfold BY;dsimp only;rw [l0,l1,e,show (0:Int).toNat=0 from rfl];by_cases h0:((s.b.length:Nat):Int)=0
 ·have:¬ (1<=s.b.length/\s.b.length<=16):=by omega
  simp only [h0,this,decide_false,Bool.false_and]; rfl
 by_cases h1:16 < ((s.b.length:Nat):Int)
 ·have:¬ (1<=s.b.length/\s.b.length<=16):=by omega
  simp only [h1,this,decide_false,decide_true,Bool.false_and,cond_true]
  all_goals (cases ((s.b.length:Nat):Int) == 0 <;> rfl)
 have h2:(1<=s.b.length/\s.b.length<=16):=by omega
 have h3:(((s.b.length:Nat):Int) == 0)=false:=by simpa using h0
 simp only [h3,h1,h2,decide_true,decide_false,cond_false,Bool.true_and,and_self]
 all_goals (cases EB ((s.b.getD 0 0).toNat:Int) <;> cases (((s.b.getD 0 0).toNat:Int) == 95) <;> cases (s.b.all fun c=>G8 (c.toNat:Int)) <;> cases (AQ.any fun k=>k == s) <;> rfl)
theorem XL {s:Aa} (h:BY s=true):1<=s.b.length/\s.b.length<=16:=by
 rw [ZW,Bool.and_eq_true] at h;exact of_decide_eq_true h.1
theorem MT {s:Aa} (h:BY s=true):Q0 s:=by have:=XL h; unfold Q0; omega
theorem VJ {p:Aw} (h:CG p=true):dK p:=by
 rw [KY] at h;simp only [Bool.and_eq_true,List.all_eq_true] at h;refine NE (fun f hf=>?_) sC;have hF:=h.2 f hf;refine ⟨MT hF.1,NE (fun b hb=>?_) Yj⟩;have hB:=hF.2.2 b hb;refine ⟨MT hB.1,NE (fun s hs=>?_) Xp⟩;obtain ⟨a1,a2,a3⟩:=Uq (hB.2.2 s hs);refine ⟨?_,NE (fun u hu=>MT (a2 u hu)) O3,NE (fun u hu=>MT (a3 u hu)) O3⟩;rcases a1 with e | e
 ·rw [e]; decide
 ·exact MT e
theorem uQ {s:Az} (h:BQ s=true):TY s/\K3 s=true:=by
 obtain ⟨a1,a2,a3⟩:=Uq h;have hb:=YI h;refine ⟨⟨?_,NE (fun u hu=>MT (a2 u hu)) O3,NE (fun u hu=>MT (a3 u hu)) O3⟩,?_⟩
 ·rcases a1 with e | e
  ·rw [e]; decide
  ·exact MT e
 ·unfold K3; simp; omega
theorem fO {p:Aw} (hv:CG p=true):∀ f∈p.Funcs,∀ b∈f.Blocks,∀ s∈b.Stmts,∀ u∈s.Uses,u≠Aa.mk []:=fun f hf b hb s hs u hu=>by
 rw [KY] at hv;simp only [Bool.and_eq_true,List.all_eq_true] at hv;have:=XL ((Uq (((hv.2 f hf).2.2 b hb).2.2 s hs)).2.1 u hu);intro e;rw [e] at this
 simp at this
theorem sY (s:Aa):(NG s 0 == ((s.b.length:Nat):Int))=s.b.all (fun c=>G8 (c.toNat:Int)):=by
 have key:∀ (suf pre:List UInt8),s.b=pre++suf->(Lp s suf.length (pre.length:Int) == ((s.b.length:Nat):Int))=suf.all (fun c=>G8 (c.toNat:Int)):=fun suf=>by
  induction suf with
  | nil=>intro pre h; rw [List.length_nil,Lp,h,List.append_nil,List.all_nil]; simp
  | cons a suf ih=>
   intro pre h;have hg:s.b.getD ((pre.length:Int)).toNat 0=a:=by rw [h]; simp
   have hlen:s.b.length=pre.length+(suf.length+1):=by rw [h]; simp
   rw [List.length_cons,Lp,hg,List.all_cons]
   try dsimp only
   cases hp:G8 (a.toNat:Int)
   ·rw [cond_false,Bool.false_and,hlen]; simp; omega
   ·rw [cond_true,Bool.true_and];have:=ih (pre++[a]) (by rw [h]; simp);rw [List.length_append,List.length_cons,List.length_nil,Int.natCast_add] at this;exact this
 have:=key s.b [] rfl;unfold NG;rw [show (((s.b.length:Nat):Int) - 0).toNat=s.b.length by omega];exact this
theorem W6 (s:Aa):Ew s=BY s:=by
 rw [ZW];unfold Ew;dsimp only;rw [sY,lZ,pY,show (0:Int).toNat=0 from rfl];by_cases h0:s=Aa.mk []
 ·subst h0; rfl
 have hs:(s == Aa.mk [])=false:=by simpa using h0
 have hp:=XA hs;rw [hs,cond_false];by_cases h1:16 < ((s.b.length:Nat):Int)
 ·have:¬ (1<=s.b.length/\s.b.length<=16):=by omega
  simp only [h1,this,decide_false,decide_true,Bool.false_and,cond_true]
 have h2:(1<=s.b.length/\s.b.length<=16):=by omega
 simp only [h1,h2,decide_true,decide_false,cond_false,Bool.true_and,and_self]
 all_goals (cases EB ((s.b.getD 0 0).toNat:Int) <;> cases (((s.b.getD 0 0).toNat:Int) == 95) <;> cases (s.b.all fun c=>G8 (c.toNat:Int)) <;> cases (AQ.any fun k=>k == s) <;> rfl)
theorem oR:Ew=BY:=funext W6
theorem sG (s:List Az) (fp:Az->Bool):Nn s fp=s.any fp:=by
 have:=SN (fun r i=>MJ s fp r i) (fun i=>fp (s.getD i.toNat default)) () (fun _=>rfl) (fun _ _=>rfl) ((((s.length:Nat):Int) - 0).toNat) 0;unfold Nn O0;rw [Bool.eq_iff_iff,List.any_eq_true];rcases this with ⟨j,e,j1,j2,j3⟩ | ⟨e,h⟩
 ·rw [e]; exact ⟨fun _=>⟨_,BF (by omega),j3⟩,fun _=>by simpa using j1⟩
 ·rw [e];refine ⟨fun h=>by simp at h,?_⟩;rintro ⟨x,hx,hfx⟩;obtain ⟨j,j1,j2,j3⟩:=(NK (d:=default)).1 hx;have:=h j j1 (by omega);rw [j3] at this; rw [hfx] at this; cases this
theorem o8 (s:List Aa) (fp:Aa->Bool):JB s fp=s.any fp:=by
 have:=SN (fun r i=>MK s fp r i) (fun i=>fp (s.getD i.toNat default)) () (fun _=>rfl) (fun _ _=>rfl) ((((s.length:Nat):Int) - 0).toNat) 0;unfold JB OR;rw [Bool.eq_iff_iff,List.any_eq_true];rcases this with ⟨j,e,j1,j2,j3⟩ | ⟨e,h⟩
 ·rw [e]; exact ⟨fun _=>⟨_,BF (by omega),j3⟩,fun _=>by simpa using j1⟩
 ·rw [e];refine ⟨fun h=>by simp at h,?_⟩;rintro ⟨x,hx,hfx⟩;obtain ⟨j,j1,j2,j3⟩:=(NK (d:=default)).1 hx;have:=h j j1 (by omega);rw [j3] at this; rw [hfx] at this; cases this
theorem rJ (l:List Aa):(!(JB l (fun x=>Iv x)))=l.all BY:=by
 rw [o8,List.all_eq_not_any_not]
 congr 2
 funext x
 unfold Iv;dsimp only;rw [W6]
theorem q9 {s:Az} (h:Ee s=true):s.Uses.length<=4/\s.Targets.length<=2:=by
  unfold Ee at h
  (try unfold Hq Hz at h)
  dsimp only at h
  (try simp only [show ((1:Int) == 1)=true from rfl,show ((0:Int) == 1)=false from rfl,cond_true,cond_false] at h)
  generalize (JB (NX s.Uses++s.Targets++[s.Def]) fun x=>Iv x)=A at h;generalize (JB (NX s.Uses++s.Targets) fun x=>Iv x)=B at h;generalize s.Uses.length=U at *;generalize s.Targets.length=V at *;have kf:∀ (c x:Bool),(bif c then x else false)=(c && x):=fun c x=>by cases c <;> rfl
  simp only [kf] at h;have kt:∀ (c x y:Bool),(bif c then x else y)=true->(c=true/\x=true)\/(c=false/\y=true):=fun c x y h=>by
    cases c
    . exact .inr ⟨rfl,h⟩
    . exact .inl ⟨rfl,h⟩
  have kn:∀ {P:Prop} {c x y:Bool},(bif c then x else y)=true->(x=true->P)->(y=true->P)->P:=fun {P c x y} h k1 k2=>by
    cases c
    . exact k2 h
    . exact k1 h
  iterate 9
    first
    | (refine kn h (fun h=>?_) (fun h=>?_)
       . simp only [Bool.and_eq_true,beq_iff_eq,decide_eq_true_eq] at h; omega)
    | skip
  all_goals (simp only [Bool.and_eq_true,beq_iff_eq,decide_eq_true_eq] at h; omega)
theorem oF (s:Az):Ee s=BQ s:=by
 obtain ⟨o,d,us,ts⟩:=s;unfold Ee BQ
 (try unfold Hq Hz)
 unfold NX;dsimp only
 (try simp only [show ((1:Int) == 1)=true from rfl,show ((0:Int) == 1)=false from rfl,cond_true,cond_false])
 rw [Ss,Ss];simp only [rJ,List.all_append,List.all_cons,List.all_nil,Bool.and_true];generalize us.all BY=U;generalize ts.all BY=T;generalize BY d=D;generalize (d == Aa.mk [])=E;generalize us.length=u;generalize ts.length=t;have kf:∀ (c x:Bool),(bif c then x else false)=(c && x):=fun c x=>by cases c <;> rfl
 have kn:∀ (c x:Bool),(bif !c then false else x)=(c && x):=fun c x=>by cases c <;> rfl
 simp only [kf,kn];have fin:∀ {a b:Bool},(a=true↔b=true)->a=b:=fun h=>Bool.eq_iff_iff.2 h;by_cases h1:o=1
 ·subst h1;cases U <;> cases T <;> cases D <;> refine fin ?_ <;> simp <;> omega
 by_cases h2:o=2
 ·subst h2;cases U <;> cases T <;> cases E <;> refine fin ?_ <;> simp <;> omega
 by_cases h3:o=3
 ·subst h3;cases U <;> cases T <;> cases E <;> refine fin ?_ <;> simp <;> omega
 by_cases h4:o=4
 ·subst h4;cases U <;> cases T <;> cases D <;> refine fin ?_ <;> simp <;> omega
 by_cases h5:o=5
 ·subst h5;cases U <;> cases T <;> cases E <;> refine fin ?_ <;> simp <;> omega
 by_cases h6:o=6
 ·subst h6;cases U <;> cases T <;> cases D <;> refine fin ?_ <;> simp <;> omega
 by_cases h7:o=7
 ·subst h7;cases U <;> cases T <;> cases E <;> refine fin ?_ <;> simp <;> omega
 by_cases h8:o=8
 ·subst h8;cases U <;> cases T <;> cases E <;> refine fin ?_ <;> simp <;> omega
 by_cases h9:o=9
 ·subst h9;cases U <;> cases T <;> cases E <;> refine fin ?_ <;> simp <;> omega
 have f:∀ {k:Int},¬ o=k->(o == k)=false:=fun h=>by simpa using h
 simp only [f h1,f h2,f h3,f h4,f h5,f h6,f h7,f h8,f h9,cond_false,Bool.false_and,Bool.and_false]
theorem YD (p:Aw):DV p=(decide (1<=p.Funcs.length/\p.Funcs.length<=8) && p.Funcs.all fun f=>Ew f.Name && (decide (1<=f.Blocks.length/\f.Blocks.length<=16) && f.Blocks.all fun b=>Ew b.Name && (decide (1<=b.Stmts.length/\b.Stmts.length<=32) && b.Stmts.all Ee))):=by
 have l2:∀ (b:List Az),Nn b (fun x=>OZ x) = !(b.all Ee):=fun b=>by
  rw [sG,List.all_eq_not_any_not,Bool.not_not]
  congr 1
 have l1:∀ (f:List A3),Hp f ((f.length:Int) - 0).toNat 0=if (f.all fun b=>Ew b.Name && (decide (1<=b.Stmts.length/\b.Stmts.length<=32) && b.Stmts.all Ee))=true then .brk () else .ret false:=fun f=>
  M3 (Hp f) (fun i=>by rw [Hp]) fun r i h0 h1=>by
   rw [Hp];generalize hb:f.getD i.toNat default=b;have e:=l2 b.Stmts;simp only [Bool.cond_eq_ite];cases hN:Ew b.Name
   ·simp
   by_cases h1:((b.Stmts.length:Nat):Int) < 1
   ·have:¬ (1<=b.Stmts.length/\b.Stmts.length<=32):=by omega
    simp [h1,this]
   by_cases h2:(32:Int) < ((b.Stmts.length:Nat):Int)
   ·have:¬ (1<=b.Stmts.length/\b.Stmts.length<=32):=by omega
    simp [h1,h2,this]
   have h3:(1<=b.Stmts.length/\b.Stmts.length<=32):=by omega
   rw [e];simp only [h1,h2,decide_false,h3,decide_true,Bool.not_true,Bool.true_and,and_self,reduceIte,Bool.false_eq_true]
   all_goals (cases b.Stmts.all Ee <;> rfl)
 have l0:FV p ((p.Funcs.length:Int) - 0).toNat 0=if (p.Funcs.all fun f=>Ew f.Name && (decide (1<=f.Blocks.length/\f.Blocks.length<=16) && f.Blocks.all fun b=>Ew b.Name && (decide (1<=b.Stmts.length/\b.Stmts.length<=32) && b.Stmts.all Ee)))=true then .brk () else .ret false:=
  M3 (FV p) (fun i=>by rw [FV]) fun r i h0 h1=>by
   rw [FV];generalize hb:p.Funcs.getD i.toNat default=f;have e:=l1 f.Blocks;simp only [Bool.cond_eq_ite];cases hN:Ew f.Name
   ·simp
   by_cases h1:((f.Blocks.length:Nat):Int) < 1
   ·have:¬ (1<=f.Blocks.length/\f.Blocks.length<=16):=by omega
    simp [h1,this]
   by_cases h2:(16:Int) < ((f.Blocks.length:Nat):Int)
   ·have:¬ (1<=f.Blocks.length/\f.Blocks.length<=16):=by omega
    simp [h1,h2,this]
   have h3:(1<=f.Blocks.length/\f.Blocks.length<=16):=by omega
   rw [e];simp only [h1,h2,decide_false,h3,decide_true,Bool.not_true,Bool.true_and,and_self,reduceIte,Bool.false_eq_true]
   all_goals (generalize (f.Blocks.all _)=q; cases q <;> rfl)
 rw [DV];by_cases h1:((p.Funcs.length:Nat):Int) < 1
 ·have:¬ (1<=p.Funcs.length/\p.Funcs.length<=8):=by omega
  simp [h1,this]
 by_cases h2:(8:Int) < ((p.Funcs.length:Nat):Int)
 ·have:¬ (1<=p.Funcs.length/\p.Funcs.length<=8):=by omega
  simp [h1,h2,this]
 have h3:(1<=p.Funcs.length/\p.Funcs.length<=8):=by omega
 rw [l0];simp only [h1,h2,h3,decide_false,decide_true,cond_false,Bool.true_and,and_self]
 all_goals (generalize (p.Funcs.all _)=q; cases q <;> rfl)
theorem QJ {p:Aw} (h:DV p=true):p.Funcs.length<=8/\∀ i:Nat,(p.Funcs.getD i default).Blocks.length<=16/\∀ k:Nat,((p.Funcs.getD i default).Blocks.getD k default).Stmts.length<=32/\∀ j:Nat,(((p.Funcs.getD i default).Blocks.getD k default).Stmts.getD j default).Uses.length<=4/\(((p.Funcs.getD i default).Blocks.getD k default).Stmts.getD j default).Targets.length<=2:=by
 rw [YD] at h;simp only [Bool.and_eq_true,decide_eq_true_eq,List.all_eq_true] at h;have gm:∀ {α:Type} [Inhabited α] (l:List α) (i:Nat),l.getD i default∈l\/l.getD i default=default:=fun l i=>by
  by_cases hi:i < l.length
  ·left; rw [List.getD_eq_getElem?_getD,List.getElem?_eq_getElem hi]; exact List.getElem_mem hi
  ·right; rw [List.getD_eq_getElem?_getD,List.getElem?_eq_none (by omega)]; rfl
 refine ⟨h.1.2,fun i=>?_⟩;rcases gm p.Funcs i with hf | hf
 ·have hF:=(h.2 _ hf).2;refine ⟨hF.1.2,fun k=>?_⟩;rcases gm (p.Funcs.getD i default).Blocks k with hb | hb
  ·have hB:=(hF.2 _ hb).2;refine ⟨hB.1.2,fun j=>?_⟩;rcases gm ((p.Funcs.getD i default).Blocks.getD k default).Stmts j with hs | hs
   ·exact q9 (hB.2 _ hs)
   ·rw [hs]; decide
  ·rw [hb];exact ⟨by decide,fun j=>by rw [show (default:A3).Stmts=[] from rfl]; simp; decide⟩
 ·rw [hf];refine ⟨by decide,fun k=>?_⟩;rw [show (default:A7).Blocks=[] from rfl];exact ⟨by simp; decide,fun j=>by simp [show (default:A3).Stmts=[] from rfl]; decide⟩
theorem S0 (p:Aw):DV p=CG p:=by
 rw [YD,KY,oR,show Ee=BQ from funext oF]
theorem Fs (S:List Az):∀ (r:Nat) (a b v:Int),(HT S r a b v).1<=a+2*(r:Int)/\(HT S r a b v).2<=b+3*(r:Int)
 | 0,a,b,v=>by
  -- JU is behind
  rw [HT]; exact ⟨by simp,by simp⟩
 | r+1,a,b,v=>by
  rw [HT]
  try dsimp only
  have h:=Fs S r (It (S.getD v.toNat default) a b).1 (It (S.getD v.toNat default) a b).2 (v+1);have hs:(It (S.getD v.toNat default) a b).1<=a+2/\(It (S.getD v.toNat default) a b).2<=b+3:=by
   unfold It;cases (S.getD v.toNat default).Op == 3
   ·cases (S.getD v.toNat default).Op == 8 <;> (simp only [cond_false,cond_true]; omega)
   ·simp only [cond_true]; omega
  omega
theorem TI {p:Aw} {r:Am×Int} (h:E0 p=r) (h2:(r.2 != 0)=false):DV p=true:=by
 subst h;cases e:DV p
 ·unfold E0 at h2;rw [e] at h2;cases h2
 ·rfl
theorem TQ (i k:Int) (S:List Az):∀ (r:Nat) (o:List Am) (v:Int),0<=v->v+(r:Int)=(S.length:Int)->Ho i k S r o v=o++nS i k v (S.drop v.toNat)
 | 0,o,v,h0,h1=>by rw [Ho,List.drop_eq_nil_of_le (by omega),nS,List.append_nil]
 | r+1,o,v,h0,h1=>by
  rw [Ho,TQ i k S r _ _ (by omega) (by omega),TQ i k S r _ _ (by omega) (by omega),QZ h0 (by omega),nS];cases (S.getD v.toNat default).Op == 3 <;> simp
theorem bD (i:Int) (S:List A3):∀ (r:Nat) (o:List Am) (v:Int),0<=v->v+(r:Int)=(S.length:Int)->IN i S r o v=o++nB i v (S.drop v.toNat)
 | 0,o,v,h0,h1=>by rw [IN,List.drop_eq_nil_of_le (by omega),nB,List.append_nil]
 | r+1,o,v,h0,h1=>by
  rw [IN,TQ i v _ _ _ 0 (by omega) (by omega)]
  try dsimp only
  rw [bD i S r _ _ (by omega) (by omega),QZ h0 (by omega),nB]
  simp
theorem WE (p:Aw):∀ (r:Nat) (o:List Am) (v:Int),0<=v->v+(r:Int)=(p.Funcs.length:Int)->IC p r o v=o++nF v (p.Funcs.drop v.toNat)
 | 0,o,v,h0,h1=>by rw [IC,List.drop_eq_nil_of_le (by omega),nF,List.append_nil]
 | r+1,o,v,h0,h1=>by
  rw [IC,bD v _ _ _ 0 (by omega) (by omega)]
  try dsimp only
  rw [WE p r _ _ (by omega) (by omega),QZ h0 (by omega),nF]
  simp
theorem Ri (p:Aw):D5 p=bif (E0 p).2 != 0 then [] else nF 0 p.Funcs:=by
 unfold D5;dsimp only;rw [WE p _ [] 0 (by omega) (by omega)]
 rfl
theorem XS {p:Aw} {n:Am} (h:n∈D5 p):R8 p n:=by
 rw [Ri] at h;cases e:(E0 p).2 != 0
 ·have hv:=QJ (TI rfl e);rw [e,cond_false] at h;obtain ⟨a1,a2⟩:=SH p.Funcs 0 n h;rw [show (n.Func - 0)=n.Func by omega] at a2;refine ⟨by omega,fun h1 h2=>?_⟩;obtain ⟨_,b1,b2,b3⟩:=a2 h1 h2;have:=((hv.2 n.Func.toNat).2 n.Block.toNat).1;exact ⟨b1,⟨b2,b3⟩,by omega⟩
 ·rw [e] at h; cases h
theorem W4 {p:Aw} {n:Am} (h:n∈D5 p):CG p=true:=by
 rw [Ri] at h;cases e:(E0 p).2 != 0
 ·rw [<- S0]; exact TI rfl e
 ·rw [e] at h; cases h
theorem VQ (n:Am) (l:List Am):∀ (r:Nat) (v:Int),0<=v->v+(r:Int)=(l.length:Int)->(∃ j,v<=j/\j < (l.length:Int)/\Hl n l r v=.ret j/\l.getD j.toNat default=n/\∀ i,v<=i->i < j->l.getD i.toNat default≠n)\/(Hl n l r v=.brk ()/\∀ i,v<=i->i < (l.length:Int)->l.getD i.toNat default≠n)
 | 0,v,h0,h1=>.inr ⟨by rw [Hl],fun i a b=>by omega⟩
 | r+1,v,h0,h1=>by
  have ee:∀ m:Am,([m.Kind,m.Func,m.Block,m.Stmt] == [n.Kind,n.Func,n.Block,n.Stmt])=true↔m=n:=fun m=>by
   obtain ⟨a,b,c,d⟩:=m;obtain ⟨a',b',c',d'⟩:=n
   simp
  rw [Hl];cases e:[(l.getD (v:Int).toNat default).Kind,(l.getD (v:Int).toNat default).Func,(l.getD (v:Int).toNat default).Block,(l.getD (v:Int).toNat default).Stmt] == [n.Kind,n.Func,n.Block,n.Stmt]
  ·have hne:l.getD v.toNat default≠n:=fun h=>by rw [(ee _).2 h] at e; cases e
   rcases VQ n l r (v+1) (by omega) (by omega) with ⟨j,j1,j2,j3,j4,j5⟩ | ⟨j1,j2⟩
   ·refine .inl ⟨j,by omega,j2,j3,j4,fun i a b=>?_⟩;by_cases hi:i=v
    ·rw [hi]; exact hne
    ·exact j5 i (by omega) b
   ·refine .inr ⟨j1,fun i a b=>?_⟩;by_cases hi:i=v
    ·rw [hi]; exact hne
    ·exact j2 i (by omega) b
  ·exact .inl ⟨v,by omega,by omega,rfl,(ee _).1 e,fun i a b=>by omega⟩
theorem OH {p:Aw} {n:Am} {r:Int} (h:Fd p n=r) (hr:decide (r < 0)=false):R8 p n:=by
 have hr:=of_decide_eq_false hr;subst h;unfold Fd at hr;dsimp only at hr;rcases VQ n (D5 p) ((((D5 p).length:Nat):Int) - 0).toNat 0 (by omega) (by omega) with ⟨j,j1,j2,j3,j4,j5⟩ | ⟨j1,j2⟩
 ·rw [<- j4]; exact XS (BF (by omega))
 ·rw [j1] at hr; exact absurd (by decide) hr
theorem Rt {p:Aw} {n:Am} {r:Int} (h:Fd p n=r) (hr:decide (r < 0)=false):CG p=true:=by
 have hr:=of_decide_eq_false hr;subst h;unfold Fd at hr;dsimp only at hr;rcases VQ n (D5 p) ((((D5 p).length:Nat):Int) - 0).toNat 0 (by omega) (by omega) with ⟨j,j1,j2,j3,j4,j5⟩ | ⟨j1,j2⟩
 ·exact W4 (n:=n) (by rw [<- j4]; exact BF (by omega))
 ·rw [j1] at hr; exact absurd (by decide) hr
theorem nC {w:BitVec 64} {k:Nat} (h:OP w k) (hk:k < 64):N1 w=(k:Int):=by
 unfold N1;have hw:(w == 0#64)=false:=by
  cases e:w == 0#64 with
  | false=>rfl
  | true=>
   have:=eq_of_beq e;subst this;have:=h.1
   simp at this
 rw [hw,cond_false,show (((58#64).toNat:Int)).toNat=58 from rfl];exact tY h hk
theorem eL {n:Int} {r:Aa} (h:ME n=r) (hn:0<=n/\n < 100):r.b.length<=2:=by
 subst h;unfold ME Q7 QA;have e1:decide (0<=n)=true:=decide_eq_true hn.1;have e2:decide (n < 100)=true:=decide_eq_true hn.2;simp only [beq_self_eq_true,cond_true,e1,e2];unfold O1;cases decide (n < 10)
 ·rw [cond_false,MO]; omega
 ·rw [cond_true,MO]; omega
theorem MN (p:Aw):EN p=p.Funcs.map (fun x=>x.Name):=
 Xj (xs:=p.Funcs) (g:=fun x:A7=>x.Name) (Mj p) (fun _ _=>by rw [Mj]) (fun r b j _ _=>by rw [Mj])
theorem RD (l:List Aa) (s:Aa):decide (Br l s < 0) = !(l.any (fun x=>x == s)):=by
 have h0:Dt l s ((l.length:Int) - 0).toNat 0=.brk ()/\l.any (fun x=>x == s)=false\/∃ j,0<=j/\Dt l s ((l.length:Int) - 0).toNat 0=.ret j/\l.any (fun x=>x == s)=true:=by
  have key:∀ (r:Nat) (i:Int),0<=i->i+(r:Int)=(l.length:Int)->(Dt l s r i=.brk ()/\(l.drop i.toNat).any (fun x=>x == s)=false)\/∃ j,0<=j/\Dt l s r i=.ret j/\(l.drop i.toNat).any (fun x=>x == s)=true:=fun r=>by
   induction r with
   | zero=>intro i a b; rw [Dt,List.drop_eq_nil_of_le (by omega)]; exact .inl ⟨rfl,rfl⟩
   | succ r ih=>
    intro i a b;rw [Dt,QZ a (by omega),List.any_cons];cases e:(l.getD i.toNat default) == s
    ·rw [cond_false,Bool.false_or]; exact ih _ (by omega) (by omega)
    ·exact .inr ⟨i,a,rfl,rfl⟩
  have:=key ((l.length:Int) - 0).toNat 0 (by omega) (by omega);rw [show (0:Int).toNat=0 from rfl,List.drop_zero] at this;exact this
 unfold Br;rcases h0 with ⟨e1,e2⟩ | ⟨j,j0,e1,e2⟩
 ·rw [e1,e2]; rfl
 ·rw [e1,e2]; simp; omega
theorem VC (l:List Aa) (s:Aa):decide (0<=Br l s)=l.any (fun x=>x == s):=by
 have h:=RD l s;cases e:l.any (fun x=>x == s)
 ·rw [e] at h; have:=of_decide_eq_true h; exact decide_eq_false (by omega)
 ·rw [e] at h; have:=of_decide_eq_false h; exact decide_eq_true (by omega)
theorem Zv {n:Aa} {m:List (Aa×Bool)} {o:List Aa} (h:KN m o) (hn:n≠Aa.mk []):(HC n m o).2=(bif decide (Br o n < 0) then o++[n] else o)/\KN (HC n m o).1 (HC n m o).2:=by
 have e1:(n != Aa.mk [])=true:=by simpa using hn
 unfold HC;rw [e1,cond_true,RD,<- h n];cases (Bx m n).getD false
 ·exact ⟨rfl,VK h n⟩
 ·exact ⟨rfl,h⟩
theorem TK (l:List Aa) (s:Aa):∀ (r:Nat) (i:Int),0<=i->i+(r:Int)=(l.length:Int)->(∃ j,Dt l s r i=.ret j/\i<=j/\j < (l.length:Int)/\l.getD j.toNat default=s/\∀ k,i<=k->k < j->l.getD k.toNat default≠s)\/(Dt l s r i=.brk ()/\∀ k,i<=k->k < (l.length:Int)->l.getD k.toNat default≠s)
 | 0,i,h0,h1=>.inr ⟨by rw [Dt],fun k a b=>by omega⟩
 | r+1,i,h0,h1=>by
  rw [Dt];cases e:(l.getD (i:Int).toNat default) == s
  ·have hne:l.getD i.toNat default≠s:=fun h=>by rw [h] at e; simp at e
   rw [cond_false];rcases TK l s r (i+1) (by omega) (by omega) with ⟨j,j1,j2,j3,j4,j5⟩ | ⟨j1,j2⟩
   ·refine .inl ⟨j,j1,by omega,j3,j4,fun k a b=>?_⟩;by_cases hi:k=i
    ·rw [hi]; exact hne
    ·exact j5 k (by omega) b
   ·refine .inr ⟨j1,fun k a b=>?_⟩;by_cases hi:k=i
    ·rw [hi]; exact hne
    ·exact j2 k (by omega) b
  ·exact .inl ⟨i,rfl,by omega,by omega,eq_of_beq e,fun k a b=>by omega⟩
theorem ZZ {l:List Aa} {s:Aa} (h:0<=Br l s):Br l s < (l.length:Int)/\l.getD (Br l s).toNat default=s/\∀ k,0<=k->k < Br l s->l.getD k.toNat default≠s:=by
 unfold Br at h ⊢;rcases TK l s (((((l.length:Nat):Int):Int) - 0).toNat) 0 (by omega) (by omega) with ⟨j,j1,j2,j3,j4,j5⟩ | ⟨j1,j2⟩
 ·rw [j1] at h ⊢; exact ⟨j3,j4,j5⟩
 ·rw [j1] at h; exact absurd h (by decide)
theorem f9 {l:List Aa} {s:Aa} (h:Br l s < 0):∀ k,0<=k->k < (l.length:Int)->l.getD k.toNat default≠s:=by
 unfold Br at h;rcases TK l s (((((l.length:Nat):Int):Int) - 0).toNat) 0 (by omega) (by omega) with ⟨j,j1,j2,j3,j4,j5⟩ | ⟨j1,j2⟩
 ·rw [j1] at h; dsimp only at h; omega
 ·exact j2
def J5 (p:Aw) (s:Az):Int:=Br (EN p) (s.Targets.getD 0 default)
theorem sE {p:Aw} {s:Az} (h:0<=J5 p s):(0<=J5 p s/\J5 p s < (p.Funcs.length:Int))/\(p.Funcs.getD (J5 p s).toNat default).Name=s.Targets.getD 0 default:=by
 obtain ⟨a1,a2,-⟩:=ZZ h;rw [MN,List.length_map] at a1;refine ⟨⟨h,by show Br (EN p) _ < _; rw [MN]; exact a1⟩,?_⟩;have a2:(EN p).getD (J5 p s).toNat default=s.Targets.getD 0 default:=a2;rw [MN,Ps (d:=default) (by have h2:J5 p s < (p.Funcs.length:Int):=(by show Br (EN p) _ < _; rw [MN]; exact a1); omega)] at a2;exact a2
def LS (o:List Aa) (x:Aa):List Aa:=bif decide (Br o x < 0) then o++[x] else o
theorem pE (o:List Aa) (x:Aa):x∈LS o x:=by
 unfold LS;rw [RD];cases e:o.any (fun y=>y == x)
 ·simp
 ·obtain ⟨y,h1,h2⟩:=List.any_eq_true.1 e;rw [eq_of_beq h2] at h1
  simpa using h1
theorem sD {o:List Aa} {x y:Aa} (h:y∈o):y∈LS o x:=by
 unfold LS;cases decide (Br o x < 0)
 ·exact h
 ·exact List.mem_append_left _ h
theorem iR {Q:Aa->Prop} {o:List Aa} {x:Aa} (h:∀ y∈o,Q y) (hx:Q x):∀ y∈LS o x,Q y:=by
 unfold LS;cases decide (Br o x < 0)
 ·exact h
 ·exact fun y hy=>(List.mem_append.1 hy).elim (h y) fun e=>by rw [List.mem_singleton.1 e]; exact hx
theorem W0 (l:List Aa) (s:Aa) : -1<=Br l s/\Br l s < (l.length:Int):=by
 have h:∀ (r:Nat) (i:Int),0<=i->i+(r:Int)=(l.length:Int)->Dt l s r i=.brk ()\/∃ j,Dt l s r i=.ret j/\0<=j/\j < (l.length:Int):=fun r=>by
  induction r with
  | zero=>intro i h0 h1; rw [Dt]; exact .inl rfl
  | succ r ih=>
   intro i h0 h1;rw [Dt];cases (l.getD i.toNat default == s)
   ·exact ih (i+1) (by omega) (by omega)
   ·exact .inr ⟨i,rfl,h0,by omega⟩
 unfold Br;rcases h _ 0 (by omega) (show (0:Int)+(((((l.length:Nat):Int) - 0).toNat:Nat):Int)=(l.length:Int) by omega) with e | ⟨j,e,h1,h2⟩
 ·rw [e]; exact ⟨Int.le_refl _,by show (-1:Int) < _; omega⟩
 ·rw [e]; exact ⟨by show (-1:Int)<=j; omega,h2⟩
theorem Z6 {l:List Aa} {s:Aa} (h:s∈l):0<=Br l s:=by
 have:=VC l s;rw [List.any_eq_true.2 ⟨s,h,by simp⟩] at this;exact of_decide_eq_true this
theorem iV (l:List Aa) (v:Aa):KX l v=Br l v:=by
 have h:∀ (r:Nat) (i:Int),J3 l v r i=Dt l v r i:=fun r=>by
  induction r with
  | zero=>intro i; rw [J3,Dt]
  | succ r ih=>intro i; rw [J3,Dt,ih,show (v == l.getD i.toNat default)=(l.getD i.toNat default == v) from BEq.comm]
 unfold KX Br;rw [h]
 all_goals rfl
theorem SA (l:List A7) (nm:A7->Aa):∀ (r:Nat) (m:List (Aa×Bool)) (a v:Int),0<=v->v+(r:Int)=(l.length:Int)->KN m ((l.map nm).take v.toNat) ->
  (Hm l nm r m a v).2=(if 0<=a then a else match Ex (l.map nm) r v with | .ret j=>j | _=>a)/\KN (Hm l nm r m a v).1 (l.map nm)
 | 0,m,a,v,h0,h1,h=>by
  rw [Hm,Ex];rw [List.take_of_length_le (by rw [List.length_map]; omega)] at h;exact ⟨by simp,h⟩
 | r+1,m,a,v,h0,h1,h=>by
  have hk:KN (mset m (nm (l.getD v.toNat default)) true) ((l.map nm).take (v+1).toNat):=by
   have:=VK h (nm (l.getD v.toNat default));rw [show (v+1).toNat=v.toNat+1 by omega,List.take_add_one,List.getElem?_map,List.getElem?_eq_getElem (show v.toNat < l.length by omega)];have e:l.getD v.toNat default=l[v.toNat]'(by omega):=by rw [List.getD_eq_getElem?_getD,List.getElem?_eq_getElem (show v.toNat < l.length by omega)]; rfl
   rw [show ∀ x,(Option.map nm (some x)).toList=[nm x] from fun _=>rfl,<- e];exact this
  have hq:(Bx m (nm (l.getD v.toNat default))).getD false=decide (0<=Br (((l.map nm).take ((v:Int).toNat)).drop 0) ((l.map nm).getD v.toNat default)):=by
   rw [VC,List.drop_zero,<- h,Ps (d:=default) (by omega)]
  rw [Hm,Ex]
  try dsimp only
  rw [<- hq];cases (Bx m (nm (l.getD v.toNat default))).getD false
  ·simp only [cond_false];exact SA l nm r _ a (v+1) (by omega) (by omega) hk
  ·simp only [cond_true];by_cases ha:a < 0
   ·rw [decide_eq_true ha,cond_true];have:=SA l nm r (mset m (nm (l.getD v.toNat default)) true) v (v+1) (by omega) (by omega) hk;rw [if_pos h0] at this;rw [if_neg (by omega)];exact this
   ·rw [decide_eq_false ha,cond_false];have:=SA l nm r (mset m (nm (l.getD v.toNat default)) true) a (v+1) (by omega) (by omega) hk;rw [if_pos (by omega)] at this ⊢;exact this
theorem RC (l:List A3) (nm:A3->Aa):∀ (r:Nat) (m:List (Aa×Bool)) (a v:Int),0<=v->v+(r:Int)=(l.length:Int)->KN m ((l.map nm).take v.toNat) ->
  (Hw l nm r m a v).2=(if 0<=a then a else match Ex (l.map nm) r v with | .ret j=>j | _=>a)/\KN (Hw l nm r m a v).1 (l.map nm)
 | 0,m,a,v,h0,h1,h=>by
  rw [Hw,Ex];rw [List.take_of_length_le (by rw [List.length_map]; omega)] at h;exact ⟨by simp,h⟩
 | r+1,m,a,v,h0,h1,h=>by
  have hk:KN (mset m (nm (l.getD v.toNat default)) true) ((l.map nm).take (v+1).toNat):=by
   have:=VK h (nm (l.getD v.toNat default));rw [show (v+1).toNat=v.toNat+1 by omega,List.take_add_one,List.getElem?_map,List.getElem?_eq_getElem (show v.toNat < l.length by omega)];have e:l.getD v.toNat default=l[v.toNat]'(by omega):=by rw [List.getD_eq_getElem?_getD,List.getElem?_eq_getElem (show v.toNat < l.length by omega)]; rfl
   rw [show ∀ x,(Option.map nm (some x)).toList=[nm x] from fun _=>rfl,<- e];exact this
  have hq:(Bx m (nm (l.getD v.toNat default))).getD false=decide (0<=Br (((l.map nm).take ((v:Int).toNat)).drop 0) ((l.map nm).getD v.toNat default)):=by
   rw [VC,List.drop_zero,<- h,Ps (d:=default) (by omega)]
  rw [Hw,Ex]
  try dsimp only
  rw [<- hq];cases (Bx m (nm (l.getD v.toNat default))).getD false
  ·simp only [cond_false];exact RC l nm r _ a (v+1) (by omega) (by omega) hk
  ·simp only [cond_true];by_cases ha:a < 0
   ·rw [decide_eq_true ha,cond_true];have:=RC l nm r (mset m (nm (l.getD v.toNat default)) true) v (v+1) (by omega) (by omega) hk;rw [if_pos h0] at this;rw [if_neg (by omega)];exact this
   ·rw [decide_eq_false ha,cond_false];have:=RC l nm r (mset m (nm (l.getD v.toNat default)) true) a (v+1) (by omega) (by omega) hk;rw [if_pos (by omega)] at this ⊢;exact this
theorem Yz (l:List Aa):∀ (r:Nat) (v:Int),Ex l r v≠.oof
 | 0,v=>by rw [Ex]; exact fun h=>by cases h
 | r+1,v=>by
  rw [Ex]
  try dsimp only
  cases decide (0<=Br ((l.take ((v:Int).toNat)).drop 0) (l.getD (v:Int).toNat default))
  ·exact Yz l r (v+1)
  ·exact fun h=>by cases h
theorem WY (l:List Aa):Fu l=(match Ex l (((l.length:Nat):Int) - 0).toNat 0 with | .ret j=>j | _=>-1):=by
 have h:=Yz l (((l.length:Nat):Int) - 0).toNat 0;unfold Fu;cases e:Ex l (((l.length:Nat):Int) - 0).toNat 0 with
 | oof=>exact absurd e h
 | brk x=>rfl
 | ret x=>rfl
theorem d5 (p:Aw):(NV p.Funcs (fun x0=>Nb x0)).1=Fu (EN p)/\KN (NV p.Funcs (fun x0=>Nb x0)).2 (EN p):=by
 have h:=SA p.Funcs (fun x0=>Nb x0) (((p.Funcs.length:Nat):Int) - 0).toNat [] (-1) 0 (by omega) (by omega) (fun s=>by rw [show (0:Int).toNat=0 from rfl,List.take_zero]; rfl);rw [if_neg (by omega)] at h;rw [MN,WY,List.length_map];unfold NV;exact h
theorem W1 (l:List Aa):∀ (r:Nat) (i:Int),0<=i->i+(r:Int)=(l.length:Int)->(∃ j,Ex l r i=.ret j/\0<=j)\/(Ex l r i=.brk ()/\∀ k,i<=k->k < (l.length:Int)->∀ j,0<=j->j < k->l.getD j.toNat default≠l.getD k.toNat default)
 | 0,i,h0,h1=>.inr ⟨by rw [Ex],fun k a b=>by omega⟩
 | r+1,i,h0,h1=>by
  rw [Ex]
  try dsimp only
  by_cases c:0<=Br ((l.take ((i:Int).toNat)).drop 0) (l.getD (i:Int).toNat default)
  ·rw [decide_eq_true c]; exact .inl ⟨i,rfl,h0⟩
  ·rw [decide_eq_false c,cond_false];rcases W1 l r (i+1) (by omega) (by omega) with h | ⟨j1,j2⟩
   ·exact .inl h
   ·refine .inr ⟨j1,fun k a b j h2 h3=>?_⟩;by_cases e:k=i
    ·have:=f9 (l:=(l.take ((i:Int).toNat)).drop 0) (s:=l.getD (i:Int).toNat default) (by omega) j h2 (by rw [List.drop_zero,List.length_take]; omega);rw [List.drop_zero] at this;rw [e] at h3 ⊢
     rwa [show (l.take i.toNat).getD j.toNat default=l.getD j.toNat default by
      rw [List.getD_eq_getElem?_getD,List.getD_eq_getElem?_getD,List.getElem?_take,if_pos (by omega)]] at this
    ·exact j2 k (by omega) b j h2 h3
theorem s9 {l:List Aa} (h:¬ 0<=Fu l):∀ k,0<=k->k < (l.length:Int)->∀ j,0<=j->j < k->l.getD j.toNat default≠l.getD k.toNat default:=by
 unfold Fu at h;rcases W1 l (((((l.length:Nat):Int):Int) - 0).toNat) 0 (by omega) (by omega) with ⟨j,j1,j2⟩ | ⟨j1,j2⟩
 ·rw [j1] at h; exact absurd j2 h
 ·exact j2
theorem VR (f:A7):Ef f=f.Blocks.map (fun x=>x.Name):=
 Xj (xs:=f.Blocks) (g:=fun x:A3=>x.Name) (Mg f) (fun _ _=>by rw [Mg]) (fun r b j _ _=>by rw [Mg])
theorem rS (f:A7):(Ns f.Blocks (fun x0=>MR x0)).1=Fu (Ef f)/\KN (Ns f.Blocks (fun x0=>MR x0)).2 (Ef f):=by
 have h:=RC f.Blocks (fun x0=>MR x0) (((f.Blocks.length:Nat):Int) - 0).toNat [] (-1) 0 (by omega) (by omega) (fun s=>by rw [show (0:Int).toNat=0 from rfl,List.take_zero]; rfl);rw [if_neg (by omega)] at h;rw [VR,WY,List.length_map];unfold Ns;exact h
def F5 (p:Aw) (n:Am) (s:Az):List Am:=
 if s.Op=7\/s.Op=8 then s.Targets.map fun t=>Am.mk 3 n.Func (Br (Ef (p.Funcs.getD (n.Func:Int).toNat default)) t) 0 else if s.Op=9 then [Am.mk 2 n.Func (-1) (-1)] else if s.Op=3 then [Am.mk 1 (J5 p s) (-1) (-1)] else [Am.mk 3 n.Func n.Block (n.Stmt+1)]
def R1 (p:Aw) (n:Am) (s:Az):List (Am×Am):=
 (F5 p n s).map (fun b=>(n,b))++(if s.Op=3 then [(Am.mk 2 (J5 p s) (-1) (-1),Am.mk 4 n.Func n.Block n.Stmt),(Am.mk 4 n.Func n.Block n.Stmt,Am.mk 3 n.Func n.Block (n.Stmt+1))] else [])
def Na (p:Aw) (n:Am):List (Am×Am):=
 if n.Kind=1 then [(n,Am.mk 3 n.Func 0 0)] else if n.Kind=3 then R1 p n (Ck p n) else []
theorem nP {p:Aw} {n b:Am} (h3:n.Kind=3) (h:b∈F5 p n (Ck p n)):(n,b)∈Na p n:=by
 unfold Na R1;rw [if_neg (by omega),if_pos h3];exact List.mem_append.2 (.inl (List.mem_map.2 ⟨b,h,rfl⟩))
theorem jO {p:Aw} {n:Am} (h3:n.Kind=3) (ho:(Ck p n).Op=3):(Am.mk 2 (J5 p (Ck p n)) (-1) (-1),Am.mk 4 n.Func n.Block n.Stmt)∈Na p n/\(Am.mk 4 n.Func n.Block n.Stmt,Am.mk 3 n.Func n.Block (n.Stmt+1))∈Na p n:=by
 unfold Na R1;rw [if_neg (by omega),if_pos h3,if_pos ho];exact ⟨List.mem_append.2 (.inr (by simp)),List.mem_append.2 (.inr (by simp))⟩
def Nv (p:Aw) (f:A7) (s:Az) (last:Bool):Prop:=Iz s.Op=last/\∀ t∈s.Targets,0<=Br (if s.Op=3 then EN p else Ef f) t
structure Pc (p:Aw):Prop where
 val:CG p=true
 nm:∀ k,0<=k->k < (p.Funcs.length:Int)->∀ j,0<=j->j < k->(p.Funcs.getD j.toNat default).Name≠(p.Funcs.getD k.toNat default).Name
 st:∀ i,0<=i->i < (p.Funcs.length:Int)->∀ k,0<=k->k < ((p.Funcs.getD i.toNat default).Blocks.length:Int)->∀ j,0<=j->j < (((p.Funcs.getD i.toNat default).Blocks.getD k.toNat default).Stmts.length:Int)->Nv p (p.Funcs.getD i.toNat default) (((p.Funcs.getD i.toNat default).Blocks.getD k.toNat default).Stmts.getD j.toNat default) (j == (((((p.Funcs.getD i.toNat default).Blocks.getD k.toNat default).Stmts.length:Nat):Int) - 1))
theorem wC {s:Az} {b:Bool} (h:Iz s.Op=b) (h7:¬ (s.Op=7\/s.Op=8)) (h9:¬ s.Op=9):b=false:=by
 rw [<- h];unfold Iz;rw [beq_eq_false_iff_ne.2 (fun e=>h7 (.inl e)),beq_eq_false_iff_ne.2 (fun e=>h7 (.inr e)),beq_eq_false_iff_ne.2 h9]; rfl
theorem mP {p:Aw} (hc:Pc p) {n:Am} (hn:n∈nF 0 p.Funcs) (hk:n.Kind=3):Nv p (p.Funcs.getD n.Func.toNat default) (Ck p n) (n.Stmt == (((((p.Funcs.getD n.Func.toNat default).Blocks.getD n.Block.toNat default).Stmts.length:Nat):Int) - 1))/\((Ck p n).Op=3->0<=J5 p (Ck p n)) /\
  (¬ ((Ck p n).Op=7\/(Ck p n).Op=8)->¬ (Ck p n).Op=9->Am.mk 3 n.Func n.Block (n.Stmt+1)∈nF 0 p.Funcs):=by
 obtain ⟨h1,h2⟩:=Sd hn;rcases h2 with ⟨h2,-⟩ | ⟨-,h3,h4,h5⟩
 ·omega
 have h6:=hc.st n.Func h1.1 h1.2 n.Block h3.1 h3.2 n.Stmt h4 h5;have h6:Nv p (p.Funcs.getD n.Func.toNat default) (Ck p n) (n.Stmt == (((((p.Funcs.getD n.Func.toNat default).Blocks.getD n.Block.toNat default).Stmts.length:Nat):Int) - 1)):=h6;refine ⟨h6,fun c3=>?_,fun c7 c9=>?_⟩
 ·have h8:=YP hc.val n.Func.toNat n.Block.toNat n.Stmt.toNat c3;have h7:=h6.2 ((Ck p n).Targets.getD 0 default) (BF h8);rw [if_pos c3] at h7;exact h7
 ·have:=wC h6.1 c7 c9;exact ((NR h1).2.2 n.Block (n.Stmt+1) h3 ⟨by omega,by have:=beq_eq_false_iff_ne.1 this; omega⟩).1
theorem Uw {p:Aw} (hc:Pc p) {n:Am} (hn:n∈nF 0 p.Funcs):∀ e∈Na p n,e.1∈nF 0 p.Funcs/\e.2∈nF 0 p.Funcs:=by
 intro e he;obtain ⟨h1,h2⟩:=Sd hn;have hb:=lG hc.val h1;unfold Na at he;by_cases c1:n.Kind=1
 ·rw [if_pos c1,List.mem_singleton] at he;rw [he];exact ⟨hn,((NR h1).2.2 0 0 ⟨by omega,by omega⟩ ⟨by omega,by have:=hb.2 0 ⟨by omega,by omega⟩; omega⟩).1⟩
 rw [if_neg c1] at he;by_cases c3:n.Kind=3
 ·rw [if_pos c3] at he;obtain ⟨s1,s2,s3⟩:=mP hc hn c3;rcases h2 with ⟨h2,-⟩ | ⟨-,h3,h4,h5⟩
  ·omega
  unfold R1 F5 at he;generalize hs:Ck p n=s at *;by_cases c7:s.Op=7\/s.Op=8
  ·rw [if_pos c7,if_neg (by omega),List.append_nil,List.map_map] at he;obtain ⟨t,ht,rfl⟩:=List.mem_map.1 he;have h7:=s1.2 t ht;rw [if_neg (by omega)] at h7;have h8:=(ZZ h7).1;rw [VR,List.length_map] at h8;rw [<- VR] at h8;exact ⟨hn,((NR h1).2.2 _ 0 ⟨h7,h8⟩ ⟨by omega,by have:=hb.2 _ ⟨h7,h8⟩; omega⟩).1⟩
  rw [if_neg c7] at he;by_cases c9:s.Op=9
  ·rw [if_pos c9,if_neg (by omega)] at he;simp only [List.map_cons,List.map_nil,List.append_nil,List.mem_singleton] at he;rw [he]; exact ⟨hn,(NR h1).2.1⟩
  rw [if_neg c9] at he;by_cases c4:s.Op=3
  ·rw [if_pos c4,if_pos c4] at he;have hcal:=(sE (s2 c4)).1;have hr:Am.mk 4 n.Func n.Block n.Stmt∈nF 0 p.Funcs:=((NR h1).2.2 n.Block n.Stmt h3 ⟨h4,h5⟩).2 (by
    have:Ck p (Am.mk 3 n.Func n.Block n.Stmt)=Ck p n:=rfl;rw [this,hs]; exact c4)
   simp only [List.map_cons,List.map_nil,List.cons_append,List.nil_append,List.mem_cons,List.not_mem_nil,or_false] at he;rcases he with he | he | he <;> rw [he]
   ·exact ⟨hn,(NR hcal).1⟩
   ·exact ⟨(NR hcal).2.1,hr⟩
   ·exact ⟨hr,s3 c7 c9⟩
  ·rw [if_neg c4,if_neg c4] at he;simp only [List.map_cons,List.map_nil,List.append_nil,List.mem_singleton] at he;rw [he]; exact ⟨hn,s3 c7 c9⟩
 ·rw [if_neg c3] at he; cases he
theorem XP {p:Aw} {l:List Am} {i:Int} (hck:Pc p) (hl:l=nF 0 p.Funcs) (hi:0<=i/\i < (l.length:Int)):(0<=(l.getD i.toNat default).Func/\(l.getD i.toNat default).Func < (p.Funcs.length:Int))/\((l.getD i.toNat default).Kind≠1->(l.getD i.toNat default).Kind≠2->(0<=(l.getD i.toNat default).Block/\(l.getD i.toNat default).Block < ((p.Funcs.getD (l.getD i.toNat default).Func.toNat default).Blocks.length:Int))/\(0<=(l.getD i.toNat default).Stmt/\(l.getD i.toNat default).Stmt < ((((p.Funcs.getD (l.getD i.toNat default).Func.toNat default).Blocks).getD (l.getD i.toNat default).Block.toNat default).Stmts.length:Int))/\(l.getD i.toNat default).Stmt < 100) /\
  ((((((p.Funcs.getD (l.getD i.toNat default).Func.toNat default).Blocks).getD (l.getD i.toNat default).Block.toNat default).Stmts).getD (l.getD i.toNat default).Stmt.toNat default).Op=3->0 < (((((p.Funcs.getD (l.getD i.toNat default).Func.toNat default).Blocks).getD (l.getD i.toNat default).Block.toNat default).Stmts).getD (l.getD i.toNat default).Stmt.toNat default).Targets.length) /\
  ((l.getD i.toNat default).Kind=4->0 < (((((p.Funcs.getD (l.getD i.toNat default).Func.toNat default).Blocks).getD (l.getD i.toNat default).Block.toNat default).Stmts).getD (l.getD i.toNat default).Stmt.toNat default).Targets.length):=by
 subst hl;have hn:(nF 0 p.Funcs).getD i.toNat default∈nF 0 p.Funcs:=BF (by omega);generalize (nF 0 p.Funcs).getD i.toNat default=n at *;obtain ⟨h1,h2⟩:=Sd hn;have hct:=YP hck.val n.Func.toNat n.Block.toNat n.Stmt.toNat;refine ⟨h1,fun k1 k2=>?_,hct,fun k4=>hct (XZ hn k4).1⟩;rcases h2 with ⟨h2,-⟩ | ⟨-,h3,h4,h5⟩
 ·omega
 refine ⟨h3,⟨h4,h5⟩,?_⟩;have hv:=hck.val;rw [KY] at hv;simp only [Bool.and_eq_true,decide_eq_true_eq,List.all_eq_true] at hv;have:=((hv.2 _ (BF (xs:=p.Funcs) (i:=n.Func.toNat) (d:=default) (by omega))).2.2 _ (BF (i:=n.Block.toNat) (d:=default) (by omega))).2.1;omega
theorem TW (s:Az) (m:List (Aa×Bool)) (l:List Aa) (h:KN m l):∀ (r:Nat) (v:Int),La s m r v=EZ s l r v
 | 0,v=>by rw [La,EZ]
 | r+1,v=>by
  rw [La,EZ]
  try dsimp only
  rw [RD,h,TW s m l h r (v+1)]
theorem nH (p:Aw) (f:A7) (s:Az) (last:Bool) (F B:List (Aa×Bool)) (hF:KN F (EN p)) (hB:KN B (Ef f)):(bif s.Op == 3 then Jr s last F else Jr s last B)=G4 p f s last:=by
 have ht:NI s=Iz s.Op:=rfl;unfold Jr G4;rw [ht,TW s F _ hF,TW s B _ hB];dsimp only;cases Iz s.Op == last
 ·cases s.Op == 3 <;> rfl
 ·cases s.Op == 3 <;> rfl
theorem TX (s:Az) (names:List Aa):∀ (r:Nat) (i:Int),0<=i->i+(r:Int)=(s.Targets.length:Int)->(EZ s names r i=.brk ()/\∀ k,i<=k->k < (s.Targets.length:Int)->0<=Br names (s.Targets.getD k.toNat default))\/EZ s names r i=.ret 5
 | 0,i,h0,h1=>.inl ⟨by rw [EZ],fun k a b=>by omega⟩
 | r+1,i,h0,h1=>by
  rw [EZ]
  try dsimp only
  by_cases c:Br names (s.Targets.getD (i:Int).toNat default) < 0
  ·rw [decide_eq_true c]; exact .inr rfl
  ·rw [decide_eq_false c,cond_false];rcases TX s names r (i+1) (by omega) (by omega) with ⟨j1,j2⟩ | h
   ·refine .inl ⟨j1,fun k a b=>?_⟩;by_cases e:k=i
    ·rw [e]; omega
    ·exact j2 k (by omega) b
   ·exact .inr h
theorem uX {p:Aw} {f:A7} {s:Az} {last:Bool} (h:G4 p f s last=0):Nv p f s last:=by
 unfold G4 at h;dsimp only at h;cases c:Iz s.Op == last
 ·rw [c] at h; exact absurd (show (4:Int)=0 from h) (by decide)
 rw [c,Bool.not_true,cond_false] at h;refine ⟨eq_of_beq c,fun t ht=>?_⟩;obtain ⟨k,k0,k1,rfl⟩:=(NK (d:=default)).1 ht;by_cases c3:s.Op=3
 ·rw [if_pos c3];rw [beq_iff_eq.2 c3,cond_true] at h;rcases TX s (EN p) (((((s.Targets.length:Nat):Int):Int) - 0).toNat) 0 (by omega) (by omega) with ⟨j1,j2⟩ | j1
  ·exact j2 k k0 k1
  ·rw [j1] at h; exact absurd (show (5:Int)=0 from h) (by decide)
 ·rw [if_neg c3];rw [beq_eq_false_iff_ne.2 c3,cond_false] at h;rcases TX s (Ef f) (((((s.Targets.length:Nat):Int):Int) - 0).toNat) 0 (by omega) (by omega) with ⟨j1,j2⟩ | j1
  ·exact j2 k k0 k1
  ·rw [j1] at h; exact absurd h (by decide)
theorem Sr (S:List Az):∀ (r:Nat) (a b v:Int),HT S r a b v=EM S r a b v
 | 0,a,b,v=>by
  -- JU is behind
  rw [HT,EM]
 | r+1,a,b,v=>by
  rw [HT,EM]
  try dsimp only
  unfold It;cases (S.getD v.toNat default).Op == 3
  ·cases (S.getD v.toNat default).Op == 8
   ·simp only [cond_false]; exact Sr S r _ _ _
   ·simp only [cond_false,cond_true]; exact Sr S r _ _ _
  ·simp only [cond_true]; exact Sr S r _ _ _
theorem YQ (p:Aw) (i:Int):∀ (r:Nat) (a b v:Int),LY ((p.Funcs.getD i.toNat default).Blocks) r a b v=Gi p i r a b v
 | 0,a,b,v=>by
  -- JU is behind
  rw [LY,Gi]
 | r+1,a,b,v=>by
  rw [LY,Gi,Sr];generalize EM _ _ a b 0=R;exact YQ p i r R.1 R.2 (v+1)
theorem Tq (S:List Az):∀ (r:Nat) (a b v c d:Int),EM S r (a+c) (b+d) v=((EM S r a b v).1+c,(EM S r a b v).2+d)
 | 0,a,b,v,c,d=>by rw [EM,EM]
 | r+1,a,b,v,c,d=>by
  rw [EM,EM];cases (S.getD v.toNat default).Op == 3
  ·cases (S.getD v.toNat default).Op == 8
   ·simp only [cond_false]; rw [<- Tq S r,show a+c+1=a+1+c by omega,show b+d+1=b+1+d by omega]
   ·simp only [cond_false,cond_true]; rw [<- Tq S r,show a+c+1=a+1+c by omega,show b+d+2=b+2+d by omega]
  ·simp only [cond_true]; rw [<- Tq S r,show a+c+1+1=a+1+1+c by omega,show b+d+3=b+3+d by omega]
theorem aO (p:Aw) (i:Int):∀ (r:Nat) (a b v c d:Int),Gi p i r (a+c) (b+d) v=((Gi p i r a b v).1+c,(Gi p i r a b v).2+d)
 | 0,a,b,v,c,d=>by rw [Gi,Gi]
 | r+1,a,b,v,c,d=>by
  rw [Gi,Gi,Tq];exact aO p i r _ _ _ c d
theorem cS (p:Aw):∀ (r:Nat) (a b v:Int),Ma p r (a+2*(r:Int)) (b+(r:Int)) v=Mh p r a b v
 | 0,a,b,v=>by
  -- JU is behind
  rw [Ma,Mh]; simp
 | r+1,a,b,v=>by
  rw [Ma,Mh,YQ];have h:=aO p v ((((p.Funcs.getD v.toNat default).Blocks.length:Nat):Int) - 0).toNat (a+2) (b+1) 0 (2*(r:Int)) (r:Int);rw [show a+2*((r+1:Nat):Int)=a+2+2*(r:Int) by omega,show b+((r+1:Nat):Int)=b+1+(r:Int) by omega,h];exact cS p r _ _ (v+1)
theorem tN (p:Aw):JU p=N8 p:=by
 unfold JU N8 Pl;rw [S0];cases CG p
 ·rfl
 ·have h:=cS p ((((p.Funcs.length:Nat):Int) - 0).toNat) 0 0 0;rw [show (((((p.Funcs.length:Nat):Int) - 0).toNat:Nat):Int)=((p.Funcs.length:Nat):Int) by omega,Int.zero_add,Int.zero_add] at h;dsimp only;simp only [Bool.not_true,cond_false];rw [h]
theorem Vd (s:Az) (hu:∀ u∈s.Uses,u≠Aa.mk []):∀ (r:Nat) (m:List (Aa×Bool)) (o:List Aa) (v:Int),KN m o->0<=v->v+(r:Int)=(s.Uses.length:Int)->(Kb s r m o v).2=Dc s.Uses r o v/\KN (Kb s r m o v).1 (Kb s r m o v).2
 | 0,m,o,v,h,_,_=>by
  -- Gx is behind
  rw [Kb,Dc]; exact ⟨rfl,h⟩
 | r+1,m,o,v,h,h0,h1=>by
  have h2:=Zv h (hu _ (BF (xs:=s.Uses) (i:=v.toNat) (d:=default) (by omega)));rw [Kb,Dc]
  try dsimp only
  have:=Vd s hu r _ _ (v+1) h2.2 (by omega) (by omega);refine ⟨this.1.trans ?_,this.2⟩;rw [h2.1]
  all_goals (cases decide (Br o (s.Uses.getD v.toNat default) < 0) <;> rfl)
theorem Rd (d:Aa) (us:List Aa) (hd:d≠Aa.mk []):∀ (r:Nat) (o:List Aa) (v:Int),0<=v->Dc ([d]++us) r o (v+1)=Dc us r o v
 | 0,o,v,_=>by rw [Dc,Dc]
 | r+1,o,v,h=>by
  rw [Dc,Dc];have e:([d]++us).getD (v+1).toNat default=us.getD v.toNat default:=by
   rw [show (v+1).toNat=v.toNat+1 by omega]; rfl
  try dsimp only
  rw [e,Rd d us hd r _ (v+1) (by omega),Rd d us hd r _ (v+1) (by omega)]
theorem gP (s:Az) (hu:∀ u∈s.Uses,u≠Aa.mk []) {m:List (Aa×Bool)} {o:List Aa} (h:KN m o):(Mx s m o).2=(bif s.Def != Aa.mk [] then Dc ([s.Def]++s.Uses) (((((([s.Def]++s.Uses).length:Nat):Int):Int) - 0).toNat) o 0 else Dc s.Uses (((((s.Uses.length:Nat):Int):Int) - 0).toNat) o 0)/\KN (Mx s m o).1 (Mx s m o).2:=by
 -- Gx is behind
 unfold Mx;dsimp only;cases e:s.Def != Aa.mk []
 ·have e2:HC s.Def m o=(m,o):=by unfold HC; rw [e]; rfl
  rw [e2,cond_false];exact Vd s hu _ m o 0 h (by omega) (by omega)
 ·have hd:s.Def≠Aa.mk []:=by simpa using e
  have h2:=Zv h hd;have:=Vd s hu (((s.Uses.length:Nat):Int) - 0).toNat _ _ 0 h2.2 (by omega) (by omega);refine ⟨this.1.trans ?_,this.2⟩;rw [cond_true,show (((((([s.Def]++s.Uses).length:Nat):Int):Int) - 0).toNat)=(((s.Uses.length:Nat):Int) - 0).toNat+1 by simp,Dc]
  try dsimp only
  rw [show ([s.Def]++s.Uses).getD (0:Int).toNat default=s.Def from rfl,Rd s.Def s.Uses hd _ _ 0 (by omega),Rd s.Def s.Uses hd _ _ 0 (by omega),h2.1]
  all_goals (cases decide (Br o s.Def < 0) <;> rfl)
theorem YS (S:List Az) (hu:∀ s∈S,∀ u∈s.Uses,u≠Aa.mk []):∀ (r:Nat) (m:List (Aa×Bool)) (o:List Aa) (v:Int),KN m o->0<=v->v+(r:Int)=(S.length:Int)->(Ka S r m o v).2=ES S r o v/\KN (Ka S r m o v).1 (Ka S r m o v).2
 | 0,m,o,v,h,_,_=>by
  -- Gx is behind
  rw [Ka,ES]; exact ⟨rfl,h⟩
 | r+1,m,o,v,h,h0,h1=>by
  have h2:=gP _ (hu _ (BF (xs:=S) (i:=v.toNat) (d:=default) (by omega))) h;rw [Ka,ES];have:=YS S hu r _ _ (v+1) h2.2 (by omega) (by omega);refine ⟨this.1.trans ?_,this.2⟩;rw [h2.1]
  all_goals (cases (S.getD v.toNat default).Def != Aa.mk [] <;> rfl)
theorem Ya (p:Aw) (i:Int) (hu:∀ b∈(p.Funcs.getD i.toNat default).Blocks,∀ s∈b.Stmts,∀ u∈s.Uses,u≠Aa.mk []):∀ (r:Nat) (m:List (Aa×Bool)) (o:List Aa) (v:Int),KN m o->0<=v->v+(r:Int)=((p.Funcs.getD i.toNat default).Blocks.length:Int)->(J8 ((p.Funcs.getD i.toNat default).Blocks) r m o v).2=GQ p i r o v/\KN (J8 ((p.Funcs.getD i.toNat default).Blocks) r m o v).1 (J8 ((p.Funcs.getD i.toNat default).Blocks) r m o v).2
 | 0,m,o,v,h,_,_=>by
  -- Gx is behind
  rw [J8,GQ]; exact ⟨rfl,h⟩
 | r+1,m,o,v,h,h0,h1=>by
  have h2:=YS _ (hu _ (BF (xs:=(p.Funcs.getD i.toNat default).Blocks) (i:=v.toNat) (d:=default) (by omega))) (((((p.Funcs.getD i.toNat default).Blocks.getD v.toNat default).Stmts.length:Nat):Int) - 0).toNat m o 0 h (by omega) (by omega);rw [J8,GQ];have:=Ya p i hu r _ _ (v+1) h2.2 (by omega) (by omega);refine ⟨this.1.trans ?_,this.2⟩;rw [h2.1]
theorem Yi (p:Aw) (hu:∀ f∈p.Funcs,∀ b∈f.Blocks,∀ s∈b.Stmts,∀ u∈s.Uses,u≠Aa.mk []):∀ (r:Nat) (m:List (Aa×Bool)) (o:List Aa) (v:Int),KN m o->0<=v->v+(r:Int)=(p.Funcs.length:Int)->(Md p r m o v).2=Hr p r o v
 | 0,m,o,v,h,_,_=>by
  -- Gx is behind
  rw [Md,Hr]
 | r+1,m,o,v,h,h0,h1=>by
  have h2:=Ya p v (hu _ (BF (xs:=p.Funcs) (i:=v.toNat) (d:=default) (by omega))) ((((p.Funcs.getD v.toNat default).Blocks.length:Nat):Int) - 0).toNat m o 0 h (by omega) (by omega);rw [Md,Hr];have:=Yi p hu r _ _ (v+1) h2.2 (by omega) (by omega);refine this.trans ?_;rw [h2.1]
theorem Rv (p:Aw):Gx p=Ca p:=by
 unfold Gx ON Ca;rw [S0];cases hv:CG p
 ·rfl
 ·have h:=Yi p (fO hv) ((((p.Funcs.length:Nat):Int) - 0).toNat) [] [] 0 (fun s=>rfl) (by omega) (by omega);exact h
theorem mD (names:List Aa) (r:Nat) (o:List Aa) (n:Int):Dc names (r+1) o n=Dc names r (LS o (names.getD n.toNat default)) (n+1):=by
 rw [Dc,LS]
 all_goals (cases decide (Br o (names.getD n.toNat default) < 0) <;> rfl)
theorem Xu (names:List Aa):∀ (r:Nat) (o:List Aa) (n:Int),(∀ x∈o,x∈Dc names r o n)/\(∀ j,n<=j->j < n+(r:Int)->names.getD j.toNat default∈Dc names r o n) /\
  (∀ Q:Aa->Prop,(∀ x∈o,Q x)->(∀ j,n<=j->j < n+(r:Int)->Q (names.getD j.toNat default))->∀ x∈Dc names r o n,Q x)
 | 0,o,n=>by
  rw [Dc];exact ⟨fun x h=>h,fun j h1 h2=>by omega,fun Q h _=>h⟩
 | r+1,o,n=>by
  rw [mD];obtain ⟨a1,a2,a3⟩:=Xu names r (LS o (names.getD n.toNat default)) (n+1);refine ⟨fun x h=>a1 x (sD h),fun j h1 h2=>?_,fun Q h0 h1=>a3 Q (iR h0 (h1 n (Int.le_refl _) (by omega))) fun j h2 h3=>h1 j (by omega) (by omega)⟩;by_cases e:j=n
  ·subst e; exact a1 _ (pE _ _)
  ·exact a2 j (by omega) (by omega)
theorem qM (l:List Az) (r:Nat) (o:List Aa) (j:Int):∃ names,ES l (r+1) o j=ES l r (Dc names (((((names.length:Nat):Int):Int) - 0).toNat) o 0) (j+1) /\
  (∀ y,sn (l.getD j.toNat default) y->y∈names)/\(∀ x∈names,x∈(l.getD j.toNat default).Uses\/x=(l.getD j.toNat default).Def):=by
 rw [ES];cases e:((l.getD j.toNat default).Def != Aa.mk [])
 ·refine ⟨(l.getD j.toNat default).Uses,rfl,fun y h=>h.elim id fun h=>?_,fun x h=>.inl h⟩;have h:=h.2;rw [<- bne_iff_ne,e] at h; cases h
 ·exact ⟨[(l.getD j.toNat default).Def]++(l.getD j.toNat default).Uses,rfl,fun y h=>List.mem_append.2 (h.elim .inr fun h=>.inl (List.mem_singleton.2 h.1)),fun x h=>(List.mem_append.1 h).elim (fun h=>.inr (List.mem_singleton.1 h)) .inl⟩
theorem W9 (l:List Az):∀ (r:Nat) (o:List Aa) (j:Int),0<=j->j+(r:Int)<=(l.length:Int)->(∀ x∈o,x∈ES l r o j)/\(∀ i,j<=i->i < j+(r:Int)->∀ y,sn (l.getD i.toNat default) y->y∈ES l r o j) /\
  (∀ Q:Aa->Prop,(∀ x∈o,Q x)->(∀ s∈l,Q s.Def/\∀ u∈s.Uses,Q u)->∀ x∈ES l r o j,Q x)
 | 0,o,j,_,_=>by
  rw [ES];exact ⟨fun x h=>h,fun j h1 h2=>by omega,fun Q h _=>h⟩
 | r+1,o,j,hj,hl=>by
  obtain ⟨names,e,n1,n2⟩:=qM l r o j;rw [e];obtain ⟨b1,b2,b3⟩:=Xu names (((((names.length:Nat):Int):Int) - 0).toNat) o 0;obtain ⟨a1,a2,a3⟩:=W9 l r (Dc names (((((names.length:Nat):Int):Int) - 0).toNat) o 0) (j+1) (by omega) (by omega);refine ⟨fun x h=>a1 x (b1 x h),fun i h1 h2 y hd=>?_,fun Q h0 h1=>a3 Q (b3 Q h0 fun i h2 h3=>?_) h1⟩
  ·by_cases c:i=j
   ·subst c;obtain ⟨q,q1,q2,q3⟩:=iP (n1 y hd);have:=b2 q q1 q2;rw [q3] at this;exact a1 _ this
   ·exact a2 i (by omega) (by omega) y hd
  ·have hm:l.getD j.toNat default∈l:=BF (by omega);rcases n2 _ (BF (xs:=names) (i:=i.toNat) (d:=default) (by omega)) with h | h
   ·exact (h1 _ hm).2 _ h
   ·rw [h]; exact (h1 _ hm).1
theorem XV (p:Aw) (i:Int):∀ (r:Nat) (o:List Aa) (k:Int),0<=k->k+(r:Int)<=((p.Funcs.getD i.toNat default).Blocks.length:Int)->(∀ x∈o,x∈GQ p i r o k) /\
  (∀ m,k<=m->m < k+(r:Int)->∀ j:Int,0<=j->j < ((((p.Funcs.getD i.toNat default).Blocks).getD m.toNat default).Stmts.length:Int)->∀ y,sn ((((p.Funcs.getD i.toNat default).Blocks).getD m.toNat default).Stmts.getD j.toNat default) y->y∈GQ p i r o k) /\
  (∀ Q:Aa->Prop,(∀ x∈o,Q x)->(∀ b∈(p.Funcs.getD i.toNat default).Blocks,∀ s∈b.Stmts,Q s.Def/\∀ u∈s.Uses,Q u)->∀ x∈GQ p i r o k,Q x)
 | 0,o,j,_,_=>by
  rw [GQ];exact ⟨fun x h=>h,fun j h1 h2=>by omega,fun Q h _=>h⟩
 | r+1,o,k,hk,hl=>by
  rw [GQ];obtain ⟨b1,b2,b3⟩:=W9 (((p.Funcs.getD i.toNat default).Blocks).getD k.toNat default).Stmts (((((((((p.Funcs.getD i.toNat default).Blocks).getD k.toNat default).Stmts).length:Nat):Int):Int) - 0).toNat) o 0 (by omega) (by omega);obtain ⟨a1,a2,a3⟩:=XV p i r (ES (((p.Funcs.getD i.toNat default).Blocks).getD k.toNat default).Stmts (((((((((p.Funcs.getD i.toNat default).Blocks).getD k.toNat default).Stmts).length:Nat):Int):Int) - 0).toNat) o 0) (k+1) (by omega) (by omega);refine ⟨fun x h=>a1 x (b1 x h),fun m h1 h2 j j1 j2 y hd=>?_,fun Q h0 h1=>a3 Q (b3 Q h0 (h1 _ (BF (by omega)))) h1⟩;by_cases c:m=k
  ·subst c; exact a1 _ (b2 j j1 (by omega) y hd)
  ·exact a2 m (by omega) (by omega) j j1 j2 y hd
theorem Wk (p:Aw):∀ (r:Nat) (o:List Aa) (i:Int),0<=i->i+(r:Int)<=(p.Funcs.length:Int)->(∀ x∈o,x∈Hr p r o i) /\
  (∀ q,i<=q->q < i+(r:Int)->∀ m:Int,0<=m->m < ((p.Funcs.getD q.toNat default).Blocks.length:Int)->∀ j:Int,0<=j->j < ((((p.Funcs.getD q.toNat default).Blocks).getD m.toNat default).Stmts.length:Int)->∀ y,sn ((((p.Funcs.getD q.toNat default).Blocks).getD m.toNat default).Stmts.getD j.toNat default) y->y∈Hr p r o i) /\
  (∀ Q:Aa->Prop,(∀ x∈o,Q x)->(∀ f∈p.Funcs,∀ b∈f.Blocks,∀ s∈b.Stmts,Q s.Def/\∀ u∈s.Uses,Q u)->∀ x∈Hr p r o i,Q x)
 | 0,o,j,_,_=>by
  rw [Hr];exact ⟨fun x h=>h,fun j h1 h2=>by omega,fun Q h _=>h⟩
 | r+1,o,i,hk,hl=>by
  rw [Hr];obtain ⟨b1,b2,b3⟩:=XV p i (((((((p.Funcs.getD i.toNat default).Blocks).length:Nat):Int):Int) - 0).toNat) o 0 (by omega) (by omega);obtain ⟨a1,a2,a3⟩:=Wk p r (GQ p i (((((((p.Funcs.getD i.toNat default).Blocks).length:Nat):Int):Int) - 0).toNat) o 0) (i+1) (by omega) (by omega);refine ⟨fun x h=>a1 x (b1 x h),fun q h1 h2 m m1 m2 j j1 j2 y hd=>?_,fun Q h0 h1=>a3 Q (b3 Q h0 (h1 _ (BF (by omega)))) h1⟩;by_cases c:q=i
  ·subst c; exact a1 _ (b2 m m1 (by omega) j j1 j2 y hd)
  ·exact a2 q (by omega) (by omega) m m1 m2 j j1 j2 y hd
theorem WR {p:Aw} (hv:CG p=true) {q m j:Int} (hq:0<=q/\q < (p.Funcs.length:Int)) (hm:0<=m/\m < ((p.Funcs.getD q.toNat default).Blocks.length:Int)) (hj:0<=j/\j < ((((p.Funcs.getD q.toNat default).Blocks).getD m.toNat default).Stmts.length:Int)) {y:Aa} (hd:sn ((((p.Funcs.getD q.toNat default).Blocks).getD m.toNat default).Stmts.getD j.toNat default) y):y∈Ca p:=by
 unfold Ca;rw [hv];exact (Wk p _ [] 0 (by omega) (by omega)).2.1 q hq.1 (by omega) m hm.1 hm.2 j hj.1 hj.2 y hd
theorem qA {p:Aw} (hv:CG p=true) {q m j:Int} (hq:0<=q/\q < (p.Funcs.length:Int)) (hm:0<=m/\m < ((p.Funcs.getD q.toNat default).Blocks.length:Int)) (hj:0<=j/\j < ((((p.Funcs.getD q.toNat default).Blocks).getD m.toNat default).Stmts.length:Int))
  (hd:((((p.Funcs.getD q.toNat default).Blocks).getD m.toNat default).Stmts.getD j.toNat default).Def≠Aa.mk []):((((p.Funcs.getD q.toNat default).Blocks).getD m.toNat default).Stmts.getD j.toNat default).Def∈Ca p:=WR hv hq hm hj (.inr ⟨rfl,hd⟩)
theorem UQ {p:Aw} {r:List Aa} (h:Ca p=r):∀ x∈r,x.b.length<=1000:=by
 subst h;unfold Ca;cases hv:CG p
 ·exact fun x h=>(by cases h)
 ·refine (Wk p _ [] 0 (by omega) (by omega)).2.2 (fun x=>x.b.length<=1000) (fun x h=>(by cases h)) fun f hf b hb s hs=>?_;rw [KY] at hv;simp only [Bool.and_eq_true,decide_eq_true_eq,List.all_eq_true] at hv;obtain ⟨⟨a1,a2,_⟩,_⟩:=uQ (((hv.2 f hf).2.2 b hb).2.2 s hs);refine ⟨a1,fun u hu=>?_⟩;obtain ⟨j,hj,e⟩:=List.getElem_of_mem hu;have:=a2 j (by omega);rw [List.getD_eq_getElem?_getD,List.getElem?_eq_getElem hj] at this;rw [<- e]; exact this
theorem s6 {p:Aw} {r:List Aa} (h:Gx p=r):r.length=(Ca p).length/\∀ x∈r,x.b.length<=1000:=by
 rw [Rv] at h;exact ⟨by rw [h],UQ h⟩
end Go.SL.G
