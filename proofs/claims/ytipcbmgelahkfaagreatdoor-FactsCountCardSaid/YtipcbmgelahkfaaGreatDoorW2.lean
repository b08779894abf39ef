/- Part 2 of the walks: mirrors, plain laws and walks used by the last text of this claim. -/
import Derived.Test.YtipcbmgelahkfaaGreatDoorW1
import Derived.Test.YtipcbmgelahkfaaGreatDoorProg
set_option linter.unusedVariables false
set_option linter.unusedSimpArgs false
namespace Go.SL.G
open Go Go.SL Go.Proofs
set_option maxHeartbeats 20000000
set_option maxRecDepth 100000
structure GSet where
 Width : Int
 Words : List (BitVec 64)
instance : Inhabited GSet := ⟨⟨0, []⟩⟩
structure GStmt where
 Op : Int
 Def : Str
 Uses : List Str
 Targets : List Str
instance : Inhabited GStmt := ⟨⟨0, ⟨[]⟩, [], []⟩⟩
structure GBlock where
 Name : Str
 Stmts : List GStmt
instance : Inhabited GBlock := ⟨⟨⟨[]⟩, []⟩⟩
structure GFunc where
 Name : Str
 Blocks : List GBlock
instance : Inhabited GFunc := ⟨⟨⟨[]⟩, []⟩⟩
structure GProgram where
 Funcs : List GFunc
instance : Inhabited GProgram := ⟨⟨[]⟩⟩
structure GNode where
 Kind : Int
 Func : Int
 Block : Int
 Stmt : Int
instance : Inhabited GNode := ⟨⟨0, 0, 0, 0⟩⟩
structure GFact where
 Node : Int
 Var : Int
instance : Inhabited GFact := ⟨⟨0, 0⟩⟩
structure GToken where
 Kind : Int
 Text : Str
 Line : Int
 Col : Int
instance : Inhabited GToken := ⟨⟨0, ⟨[]⟩, 0, 0⟩⟩
structure Gparser where
 l : List GToken
 at_ : Int
 Err : Int
instance : Inhabited Gparser := ⟨⟨[], 0, 0⟩⟩
def tab0 : Str := (Str.mk [48, 49, 50, 51, 52, 53, 54, 55, 56, 57, 97, 98, 99, 100, 101, 102, 103, 104, 105, 106, 107, 108, 109, 110, 111, 112, 113, 114, 115, 116, 117, 118, 119, 120, 121, 122])
def kwL : List Str := [⟨[102, 117, 110, 99]⟩, ⟨[98, 108, 111, 99, 107]⟩, ⟨[101, 110, 100]⟩, ⟨[117, 115, 101]⟩, ⟨[99, 97, 108, 108]⟩, ⟨[115, 111, 117, 114, 99, 101]⟩, ⟨[115, 105, 110, 107]⟩, ⟨[115, 97, 110, 105, 116, 105, 122, 101]⟩, ⟨[103, 111, 116, 111]⟩, ⟨[98, 114, 97, 110, 99, 104]⟩, ⟨[114, 101, 116, 117, 114, 110]⟩]
def tzT : List Int := [0, 1, 56, 2, 57, 49, 28, 3, 61, 58, 42, 50, 38, 29, 17, 4, 62, 47, 59, 36, 45, 43, 51, 22, 53, 39, 33, 30, 24, 18, 12, 5, 63, 55, 48, 27, 60, 41, 37, 16, 46, 35, 44, 21, 52, 32, 23, 11, 54, 26, 40, 15, 34, 20, 31, 10, 25, 14, 19, 9, 13, 8, 7, 6]
instance rep_GSet : Rep GSet where
 sz := 2
 bytes := 32
 pos := by decide
 bpos := by decide
 rd w M cs x := ∃ c1, cs = [.int .i64 x.Width, c1] ∧ i64ok x.Width ∧ slrd w M c1 x.Words
 len := by rintro w M cs x ⟨c1, rfl, h0, h1⟩; rfl
 one := by
  rintro w M cs x ⟨c1, rfl, h0, h1⟩ v hv
  simp only [List.mem_cons, List.not_mem_nil, or_false] at hv
  rcases hv with rfl | rfl
  all_goals first | rfl | exact slrd_one h1
 st := by
  rintro w M cs x w' M' ⟨c1, rfl, h0, h1⟩ e
  exact ⟨c1, rfl, h0, slrd_st h1 e⟩
instance rep_GStmt : Rep GStmt where
 sz := 4
 bytes := 72
 pos := by decide
 bpos := by decide
 rd w M cs x := ∃ c2 c3, cs = [.int .i64 x.Op, .string (bs x.Def), c2, c3] ∧ i64ok x.Op ∧ x.Def.b.length ≤ 140737488355328 ∧ slrd w M c2 x.Uses ∧ slrd w M c3 x.Targets
 len := by rintro w M cs x ⟨c2, c3, rfl, h0, h1, h2, h3⟩; rfl
 one := by
  rintro w M cs x ⟨c2, c3, rfl, h0, h1, h2, h3⟩ v hv
  simp only [List.mem_cons, List.not_mem_nil, or_false] at hv
  rcases hv with rfl | rfl | rfl | rfl
  all_goals first | rfl | exact slrd_one h2 | exact slrd_one h3
 st := by
  rintro w M cs x w' M' ⟨c2, c3, rfl, h0, h1, h2, h3⟩ e
  exact ⟨c2, c3, rfl, h0, h1, slrd_st h2 e, slrd_st h3 e⟩
theorem JJ_peek_GStmt {C : Cx} {X : Act → World → Prop} {L : Env} {A : List SP} {c : Value} {xs : List GStmt} (i m : Nat) (hA : A[m]? = some (sl c xs)) (hi : i < xs.length)
  (h : ∀ (a2 : Option Addr) (k2 : Nat) (a3 : Option Addr) (k3 : Nat), i64ok (xs.getD i default).Op → ((xs.getD i default).Def).b.length ≤ 140737488355328 → JJ C X L (pv (eptr 4 c i) [.int .i64 (xs.getD i default).Op, .string (bs (xs.getD i default).Def), .slice a2 (xs.getD i default).Uses.length k2, .slice a3 (xs.getD i default).Targets.length k3] :: sl (.slice a2 (xs.getD i default).Uses.length k2) (xs.getD i default).Uses :: sl (.slice a3 (xs.getD i default).Targets.length k3) (xs.getD i default).Targets :: A)) : JJ C X L A := by
 refine JJ_peek i m hA hi default fun cs => ?_
 intro a w M F st
 obtain ⟨F1, F2, q1, q2, qd, hp, F3, F4, q3, q4, qd2, hr, hs⟩ := st.sp
 obtain ⟨c2, c3, rfl, h0, h1, h2, h3⟩ := hr
 have g2 := h2
 obtain ⟨_, a2, k2, rfl, _⟩ := h2
 have g3 := h3
 obtain ⟨_, a3, k3, rfl, _⟩ := h3
 exact h a2 k2 a3 k3 h0 h1 a w M F ⟨st.step, st.sz, st.df, st.sat, F1, F2, q1, q2, qd, hp, ⟨fun _ => False, _, fun _ h => h.elim, fun _ h => h, fun _ h _ => h, g2, ⟨fun _ => False, _, fun _ h => h.elim, fun _ h => h, fun _ h _ => h, g3, sepAll_up hs q4⟩⟩⟩
instance rep_GBlock : Rep GBlock where
 sz := 2
 bytes := 40
 pos := by decide
 bpos := by decide
 rd w M cs x := ∃ c1, cs = [.string (bs x.Name), c1] ∧ x.Name.b.length ≤ 140737488355328 ∧ slrd w M c1 x.Stmts
 len := by rintro w M cs x ⟨c1, rfl, h0, h1⟩; rfl
 one := by
  rintro w M cs x ⟨c1, rfl, h0, h1⟩ v hv
  simp only [List.mem_cons, List.not_mem_nil, or_false] at hv
  rcases hv with rfl | rfl
  all_goals first | rfl | exact slrd_one h1
 st := by
  rintro w M cs x w' M' ⟨c1, rfl, h0, h1⟩ e
  exact ⟨c1, rfl, h0, slrd_st h1 e⟩
theorem JJ_peek_GBlock {C : Cx} {X : Act → World → Prop} {L : Env} {A : List SP} {c : Value} {xs : List GBlock} (i m : Nat) (hA : A[m]? = some (sl c xs)) (hi : i < xs.length)
  (h : ∀ (a1 : Option Addr) (k1 : Nat), ((xs.getD i default).Name).b.length ≤ 140737488355328 → JJ C X L (pv (eptr 2 c i) [.string (bs (xs.getD i default).Name), .slice a1 (xs.getD i default).Stmts.length k1] :: sl (.slice a1 (xs.getD i default).Stmts.length k1) (xs.getD i default).Stmts :: A)) : JJ C X L A := by
 refine JJ_peek i m hA hi default fun cs => ?_
 intro a w M F st
 obtain ⟨F1, F2, q1, q2, qd, hp, F3, F4, q3, q4, qd2, hr, hs⟩ := st.sp
 obtain ⟨c1, rfl, h0, h1⟩ := hr
 have g1 := h1
 obtain ⟨_, a1, k1, rfl, _⟩ := h1
 exact h a1 k1 h0 a w M F ⟨st.step, st.sz, st.df, st.sat, F1, F2, q1, q2, qd, hp, ⟨fun _ => False, _, fun _ h => h.elim, fun _ h => h, fun _ h _ => h, g1, sepAll_up hs q4⟩⟩
instance rep_GFunc : Rep GFunc where
 sz := 2
 bytes := 40
 pos := by decide
 bpos := by decide
 rd w M cs x := ∃ c1, cs = [.string (bs x.Name), c1] ∧ x.Name.b.length ≤ 140737488355328 ∧ slrd w M c1 x.Blocks
 len := by rintro w M cs x ⟨c1, rfl, h0, h1⟩; rfl
 one := by
  rintro w M cs x ⟨c1, rfl, h0, h1⟩ v hv
  simp only [List.mem_cons, List.not_mem_nil, or_false] at hv
  rcases hv with rfl | rfl
  all_goals first | rfl | exact slrd_one h1
 st := by
  rintro w M cs x w' M' ⟨c1, rfl, h0, h1⟩ e
  exact ⟨c1, rfl, h0, slrd_st h1 e⟩
theorem JJ_peek_GFunc {C : Cx} {X : Act → World → Prop} {L : Env} {A : List SP} {c : Value} {xs : List GFunc} (i m : Nat) (hA : A[m]? = some (sl c xs)) (hi : i < xs.length)
  (h : ∀ (a1 : Option Addr) (k1 : Nat), ((xs.getD i default).Name).b.length ≤ 140737488355328 → JJ C X L (pv (eptr 2 c i) [.string (bs (xs.getD i default).Name), .slice a1 (xs.getD i default).Blocks.length k1] :: sl (.slice a1 (xs.getD i default).Blocks.length k1) (xs.getD i default).Blocks :: A)) : JJ C X L A := by
 refine JJ_peek i m hA hi default fun cs => ?_
 intro a w M F st
 obtain ⟨F1, F2, q1, q2, qd, hp, F3, F4, q3, q4, qd2, hr, hs⟩ := st.sp
 obtain ⟨c1, rfl, h0, h1⟩ := hr
 have g1 := h1
 obtain ⟨_, a1, k1, rfl, _⟩ := h1
 exact h a1 k1 h0 a w M F ⟨st.step, st.sz, st.df, st.sat, F1, F2, q1, q2, qd, hp, ⟨fun _ => False, _, fun _ h => h.elim, fun _ h => h, fun _ h _ => h, g1, sepAll_up hs q4⟩⟩
instance rep_GProgram : Rep GProgram where
 sz := 1
 bytes := 24
 pos := by decide
 bpos := by decide
 rd w M cs x := ∃ c0, cs = [c0] ∧ slrd w M c0 x.Funcs
 len := by rintro w M cs x ⟨c0, rfl, h0⟩; rfl
 one := by
  rintro w M cs x ⟨c0, rfl, h0⟩ v hv
  simp only [List.mem_cons, List.not_mem_nil, or_false] at hv
  rcases hv with rfl
  all_goals first | rfl | exact slrd_one h0
 st := by
  rintro w M cs x w' M' ⟨c0, rfl, h0⟩ e
  exact ⟨c0, rfl, slrd_st h0 e⟩
instance rep_GNode : Rep GNode where
 sz := 4
 bytes := 32
 pos := by decide
 bpos := by decide
 rd w M cs x := cs = [.int .i64 x.Kind, .int .i64 x.Func, .int .i64 x.Block, .int .i64 x.Stmt] ∧ i64ok x.Kind ∧ i64ok x.Func ∧ i64ok x.Block ∧ i64ok x.Stmt
 len := by rintro w M cs x ⟨rfl, h0, h1, h2, h3⟩; rfl
 one := by
  rintro w M cs x ⟨rfl, h0, h1, h2, h3⟩ v hv
  simp only [List.mem_cons, List.not_mem_nil, or_false] at hv
  rcases hv with rfl | rfl | rfl | rfl
  all_goals first | rfl
 st := by
  rintro w M cs x w' M' ⟨rfl, h0, h1, h2, h3⟩ e
  exact ⟨rfl, h0, h1, h2, h3⟩
theorem JJ_peek_GNode {C : Cx} {X : Act → World → Prop} {L : Env} {A : List SP} {c : Value} {xs : List GNode} (i m : Nat) (hA : A[m]? = some (sl c xs)) (hi : i < xs.length)
  (h : i64ok (xs.getD i default).Kind → i64ok (xs.getD i default).Func → i64ok (xs.getD i default).Block → i64ok (xs.getD i default).Stmt → JJ C X L (pv (eptr 4 c i) [.int .i64 (xs.getD i default).Kind, .int .i64 (xs.getD i default).Func, .int .i64 (xs.getD i default).Block, .int .i64 (xs.getD i default).Stmt] :: A)) : JJ C X L A := by
 refine JJ_peek i m hA hi default fun cs => ?_
 intro a w M F st
 obtain ⟨F1, F2, q1, q2, qd, hp, F3, F4, q3, q4, qd2, hr, hs⟩ := st.sp
 obtain ⟨rfl, h0, h1, h2, h3⟩ := hr
 exact h h0 h1 h2 h3 a w M F ⟨st.step, st.sz, st.df, st.sat, F1, F2, q1, q2, qd, hp, sepAll_up hs q4⟩
instance rep_GFact : Rep GFact where
 sz := 2
 bytes := 16
 pos := by decide
 bpos := by decide
 rd w M cs x := cs = [.int .i64 x.Node, .int .i64 x.Var] ∧ i64ok x.Node ∧ i64ok x.Var
 len := by rintro w M cs x ⟨rfl, h0, h1⟩; rfl
 one := by
  rintro w M cs x ⟨rfl, h0, h1⟩ v hv
  simp only [List.mem_cons, List.not_mem_nil, or_false] at hv
  rcases hv with rfl | rfl
  all_goals first | rfl
 st := by
  rintro w M cs x w' M' ⟨rfl, h0, h1⟩ e
  exact ⟨rfl, h0, h1⟩
theorem JJ_peek_GFact {C : Cx} {X : Act → World → Prop} {L : Env} {A : List SP} {c : Value} {xs : List GFact} (i m : Nat) (hA : A[m]? = some (sl c xs)) (hi : i < xs.length)
  (h : i64ok (xs.getD i default).Node → i64ok (xs.getD i default).Var → JJ C X L (pv (eptr 2 c i) [.int .i64 (xs.getD i default).Node, .int .i64 (xs.getD i default).Var] :: A)) : JJ C X L A := by
 refine JJ_peek i m hA hi default fun cs => ?_
 intro a w M F st
 obtain ⟨F1, F2, q1, q2, qd, hp, F3, F4, q3, q4, qd2, hr, hs⟩ := st.sp
 obtain ⟨rfl, h0, h1⟩ := hr
 exact h h0 h1 a w M F ⟨st.step, st.sz, st.df, st.sat, F1, F2, q1, q2, qd, hp, sepAll_up hs q4⟩
instance rep_GToken : Rep GToken where
 sz := 4
 bytes := 40
 pos := by decide
 bpos := by decide
 rd w M cs x := cs = [.int .i64 x.Kind, .string (bs x.Text), .int .i64 x.Line, .int .i64 x.Col] ∧ i64ok x.Kind ∧ x.Text.b.length ≤ 140737488355328 ∧ i64ok x.Line ∧ i64ok x.Col
 len := by rintro w M cs x ⟨rfl, h0, h1, h2, h3⟩; rfl
 one := by
  rintro w M cs x ⟨rfl, h0, h1, h2, h3⟩ v hv
  simp only [List.mem_cons, List.not_mem_nil, or_false] at hv
  rcases hv with rfl | rfl | rfl | rfl
  all_goals first | rfl
 st := by
  rintro w M cs x w' M' ⟨rfl, h0, h1, h2, h3⟩ e
  exact ⟨rfl, h0, h1, h2, h3⟩
theorem JJ_peek_GToken {C : Cx} {X : Act → World → Prop} {L : Env} {A : List SP} {c : Value} {xs : List GToken} (i m : Nat) (hA : A[m]? = some (sl c xs)) (hi : i < xs.length)
  (h : i64ok (xs.getD i default).Kind → ((xs.getD i default).Text).b.length ≤ 140737488355328 → i64ok (xs.getD i default).Line → i64ok (xs.getD i default).Col → JJ C X L (pv (eptr 4 c i) [.int .i64 (xs.getD i default).Kind, .string (bs (xs.getD i default).Text), .int .i64 (xs.getD i default).Line, .int .i64 (xs.getD i default).Col] :: A)) : JJ C X L A := by
 refine JJ_peek i m hA hi default fun cs => ?_
 intro a w M F st
 obtain ⟨F1, F2, q1, q2, qd, hp, F3, F4, q3, q4, qd2, hr, hs⟩ := st.sp
 obtain ⟨rfl, h0, h1, h2, h3⟩ := hr
 exact h h0 h1 h2 h3 a w M F ⟨st.step, st.sz, st.df, st.sat, F1, F2, q1, q2, qd, hp, sepAll_up hs q4⟩
instance rep_Gparser : Rep Gparser where
 sz := 3
 bytes := 40
 pos := by decide
 bpos := by decide
 rd w M cs x := ∃ c0, cs = [c0, .int .i64 x.at_, .int .i64 x.Err] ∧ slrd w M c0 x.l ∧ i64ok x.at_ ∧ i64ok x.Err
 len := by rintro w M cs x ⟨c0, rfl, h0, h1, h2⟩; rfl
 one := by
  rintro w M cs x ⟨c0, rfl, h0, h1, h2⟩ v hv
  simp only [List.mem_cons, List.not_mem_nil, or_false] at hv
  rcases hv with rfl | rfl | rfl
  all_goals first | rfl | exact slrd_one h0
 st := by
  rintro w M cs x w' M' ⟨c0, rfl, h0, h1, h2⟩ e
  exact ⟨c0, rfl, slrd_st h0 e, h1, h2⟩
theorem ofInt_ne (n : Int) (h : 1 ≤ n ∧ n ≤ 9223372036854775807) : BitVec.ofInt 64 n ≠ 0 := by
 intro e
 have := congrArg BitVec.toNat e
 rw [BitVec.toNat_ofInt] at this
 simp at this
 omega
theorem mod_range (v n : Int) (h : 1 ≤ n ∧ n ≤ 9223372036854775807) : 0 ≤ (((BitVec.ofInt 64 v) % (BitVec.ofInt 64 n)).toNat : Int) ∧ (((BitVec.ofInt 64 v) % (BitVec.ofInt 64 n)).toNat : Int) < n := by
 rw [BitVec.toNat_umod, BitVec.toNat_ofInt, BitVec.toNat_ofInt]
 have e : (n % ((2 ^ 64 : Nat) : Int)).toNat = n.toNat := by omega
 rw [e]
 have : (v % ((2 ^ 64 : Nat) : Int)).toNat % n.toNat < n.toNat := Nat.mod_lt _ (by omega)
 omega
theorem mod_le (v n : Int) (h : 1 ≤ n ∧ n ≤ 9223372036854775807) : (((BitVec.ofInt 64 v) % (BitVec.ofInt 64 n)).toNat : Int) ≤ 9223372036854775807 := by
 have := mod_range v n h; omega
def g_New (l : List Int) : Unit :=
 ()
def g_Mod (v : Int) (n : Int) : Int :=
 (((BitVec.ofInt 64 v) % (BitVec.ofInt 64 n)).toNat : Int)
def tp_Next (tT : List Int) (tI : Int) (n : Int) : Int × Int :=
 bif decide (n ≤ 1) then
  (0, tI)
 else
  bif decide ((tT.length : Int) ≤ tI) then
   (0, tI)
  else
   let rv8 := (g_Mod (tT.getD (((tI + 1) - 1) : Int).toNat 0) n)
   (rv8, (tI + 1))
def tp_name (tT : List Int) (tI : Int) : Str × Int :=
 let rv4 := (tp_Next tT tI 4)
 (([(Str.mk [120]), (Str.mk [121]), (Str.mk [122]), (Str.mk [119])].getD rv4.1.toNat default), rv4.2)
def tp_stmt (tT : List Int) (tI : Int) (funcs : Int) : GStmt × Int :=
 let rv2 := (tp_Next tT tI 9)
 bif (rv2.1 == 1) then
  let rv10 := (tp_name tT rv2.2)
  let rv15 := (tp_name tT rv10.2)
  let rv23 := (tp_Next tT rv15.2 2)
  ((GStmt.mk 2 (Str.mk []) (([rv10.1, rv15.1].take (((1 + rv23.1) : Int).toNat)).drop 0) []), rv23.2)
 else
  bif (rv2.1 == 2) then
   let rv38 := (tp_name tT rv2.2)
   ((GStmt.mk 4 rv38.1 [] []), rv38.2)
  else
   bif (rv2.1 == 3) then
    let rv46 := (tp_name tT rv2.2)
    ((GStmt.mk 5 (Str.mk []) [rv46.1] []), rv46.2)
   else
    bif (rv2.1 == 4) then
     let rv57 := (tp_name tT rv2.2)
     ((GStmt.mk 6 rv57.1 [] []), rv57.2)
    else
     bif (rv2.1 == 5) then
      let rv70 := (tp_Next tT rv2.2 funcs)
      ((GStmt.mk 3 (Str.mk []) [] [([(Str.mk [109]), (Str.mk [102]), (Str.mk [103])].getD rv70.1.toNat default)]), rv70.2)
     else
      bif (rv2.1 == 6) then
       let rv88 := (tp_Next tT rv2.2 funcs)
       ((GStmt.mk 3 (Str.mk []) [] [([(Str.mk [109]), (Str.mk [102]), (Str.mk [103])].getD rv88.1.toNat default)]), rv88.2)
      else
       let rv101 := (tp_name tT rv2.2)
       let rv106 := (tp_name tT rv101.2)
       let rv111 := (tp_name tT rv106.2)
       let rv116 := (tp_name tT rv111.2)
       let rv124 := (tp_Next tT rv116.2 4)
       ((GStmt.mk 1 rv101.1 (([rv106.1, rv111.1, rv116.1].take (rv124.1.toNat)).drop 0) []), rv124.2)
def g_func2 (i : Int) : Str :=
 ([(Str.mk [97]), (Str.mk [98]), (Str.mk [99])].getD i.toNat default)
def tp_Program_L2 (tT : List Int) (funcs : Int) : Nat → Int → List GStmt → Int → Int × List GStmt
 | 0, ti', b1, n =>
  (ti', b1)
 | r + 1, ti', b1, n =>
  let rv43 := (tp_stmt tT ti' funcs)
  tp_Program_L2 tT funcs r rv43.2 (b1 ++ [rv43.1]) (n - 1)
def tp_Program_L1 (tT : List Int) (funcs : Int) (blocks : Int) : Nat → Int → List GBlock → Int → Int × List GBlock
 | 0, ti', f1, k =>
  (ti', f1)
 | r + 1, ti', f1, k =>
  let rv33 := (tp_Next tT ti' 4)
  match tp_Program_L2 tT funcs (rv33.1.toNat) rv33.2 [] rv33.1 with
  | (o2_0, o2_1) =>
   let rv43 := (tp_Next tT o2_0 blocks)
   let rv49 := (g_func2 rv43.1)
   let rv53 := (tp_Next tT rv43.2 4)
   bif (rv53.1 == 0) then
    tp_Program_L1 tT funcs blocks r rv53.2 (f1 ++ [(GBlock.mk ([(Str.mk [97]), (Str.mk [98]), (Str.mk [99])].getD k.toNat default) (o2_1 ++ [(GStmt.mk 9 (Str.mk []) [] [])]))]) (k + 1)
   else
    bif (rv53.1 == 1) then
     tp_Program_L1 tT funcs blocks r rv53.2 (f1 ++ [(GBlock.mk ([(Str.mk [97]), (Str.mk [98]), (Str.mk [99])].getD k.toNat default) (o2_1 ++ [(GStmt.mk 7 (Str.mk []) [] [rv49])]))]) (k + 1)
    else
     let rv100 := (tp_name tT rv53.2)
     let rv108 := (tp_Next tT rv100.2 blocks)
     let rv114 := (g_func2 rv108.1)
     tp_Program_L1 tT funcs blocks r rv108.2 (f1 ++ [(GBlock.mk ([(Str.mk [97]), (Str.mk [98]), (Str.mk [99])].getD k.toNat default) (o2_1 ++ [(GStmt.mk 8 (Str.mk []) [rv100.1] [rv49, rv114])]))]) (k + 1)
def tp_Program_L0 (tT : List Int) (funcs : Int) : Nat → Int → List GFunc → Int → Int × List GFunc
 | 0, ti', p0, i =>
  (ti', p0)
 | r + 1, ti', p0, i =>
  let rv18 := (tp_Next tT ti' 3)
  match tp_Program_L1 tT funcs (1 + rv18.1) ((((1 + rv18.1) : Int) - 0).toNat) rv18.2 [] 0 with
  | (o1_0, o1_1) =>
   tp_Program_L0 tT funcs r o1_0 (p0 ++ [(GFunc.mk ([(Str.mk [109]), (Str.mk [102]), (Str.mk [103])].getD i.toNat default) o1_1)]) (i + 1)
def tp_Program (tT : List Int) (tI : Int) : GProgram × Int :=
 let rv3 := (tp_Next tT tI 3)
 match tp_Program_L0 tT (1 + rv3.1) ((((1 + rv3.1) : Int) - 0).toNat) rv3.2 [] 0 with
 | (o0_0, o0_1) =>
  ((GProgram.mk o0_1), o0_0)
def sc_Index_string_L0 (s : List Str) (v : Str) : Nat → Int → LR Unit Int
 | 0, v8 =>
  .brk ()
 | r + 1, v8 =>
  bif (v == (s.getD v8.toNat default)) then
   .ret v8
  else
   sc_Index_string_L0 s v r (v8 + 1)
def sc_Index_string (s : List Str) (v : Str) : Int :=
 match sc_Index_string_L0 s v (((s.length : Int) - 0).toNat) 0 with
 | .brk _ =>
  -1
 | .ret r => r
 | .oof => default
def sc_Contains_string (s : List Str) (v : Str) : Bool :=
 let rv1 := (sc_Index_string s v)
 decide (0 ≤ rv1)
def lx_digit (c : Int) : Bool :=
 bif decide (48 ≤ c) then
  decide (c ≤ 57)
 else
  false
def lx_letter (c : Int) : Bool :=
 bif decide (97 ≤ c) then
  bif decide (c ≤ 122) then
   true
  else
   bif decide (65 ≤ c) then
    decide (c ≤ 90)
   else
    false
 else
  bif decide (65 ≤ c) then
   decide (c ≤ 90)
  else
   false
def lx_part (c : Int) : Bool :=
 let rv1 := (lx_letter c)
 bif rv1 then
  true
 else
  let rv7 := (lx_digit c)
  bif rv7 then
   true
  else
   (c == 95)
def lx_wordEnd_L0 (s : Str) : Nat → Int → Int
 | 0, i' =>
  i'
 | r + 1, i' =>
  let rv4 := (lx_part ((s.b.getD i'.toNat 0).toNat : Int))
  bif rv4 then
   lx_wordEnd_L0 s r (i' + 1)
  else
   i'
def lx_wordEnd (s : Str) (i : Int) : Int :=
 match lx_wordEnd_L0 s (((s.b.length : Int) - i).toNat) i with
 | o0_0 =>
  o0_0
def lx_IsName (s : Str) : Bool :=
 bif (s == (Str.mk [])) then
  false
 else
  bif decide (16 < (s.b.length : Int)) then
   false
  else
   let rv8 := (lx_letter ((s.b.getD (0 : Int).toNat 0).toNat : Int))
   bif (!rv8) then
    false
   else
    let rv18 := (sc_Contains_string kwL s)
    bif rv18 then
     false
    else
     let rv24 := (lx_wordEnd s 0)
     (rv24 == (s.b.length : Int))
def sc_IndexFunc_Stmt_L0 (s : List GStmt) (fp : GStmt → Bool) : Nat → Int → LR Unit Int
 | 0, v8 =>
  .brk ()
 | r + 1, v8 =>
  bif (fp (s.getD v8.toNat default)) then
   .ret v8
  else
   sc_IndexFunc_Stmt_L0 s fp r (v8 + 1)
def sc_IndexFunc_Stmt (s : List GStmt) (fp : GStmt → Bool) : Int :=
 match sc_IndexFunc_Stmt_L0 s fp (((s.length : Int) - 0).toNat) 0 with
 | .brk _ =>
  -1
 | .ret r => r
 | .oof => default
def sc_ContainsFunc_Stmt (s : List GStmt) (fp : GStmt → Bool) : Bool :=
 let rv1 := (sc_IndexFunc_Stmt s fp)
 decide (0 ≤ rv1)
def sc_Clone_string (s : List Str) : List Str := s
def sc_IndexFunc_string_L0 (s : List Str) (fp : Str → Bool) : Nat → Int → LR Unit Int
 | 0, v8 =>
  .brk ()
 | r + 1, v8 =>
  bif (fp (s.getD v8.toNat default)) then
   .ret v8
  else
   sc_IndexFunc_string_L0 s fp r (v8 + 1)
def sc_IndexFunc_string (s : List Str) (fp : Str → Bool) : Int :=
 match sc_IndexFunc_string_L0 s fp (((s.length : Int) - 0).toNat) 0 with
 | .brk _ =>
  -1
 | .ret r => r
 | .oof => default
def sc_ContainsFunc_string (s : List Str) (fp : Str → Bool) : Bool :=
 let rv1 := (sc_IndexFunc_string s fp)
 decide (0 ≤ rv1)
def sx_valid_1 (n : Str) : Bool :=
 let rv1 := (lx_IsName n)
 (!rv1)
def sx_valid (s : GStmt) : Bool :=
 bif (s.Op == 1) then
  let rv5 := (sc_Clone_string s.Uses)
  bif ((s.Uses.length : Int) == (s.Uses.length : Int)) then
   bif decide ((s.Uses.length : Int) ≤ 4) then
    bif ((s.Targets.length : Int) == 0) then
     let rv34 := (sc_ContainsFunc_string ((rv5 ++ s.Targets) ++ [s.Def]) (fun x => sx_valid_1 x))
     (!rv34)
    else
     false
   else
    false
  else
   false
 else
  bif (s.Op == 2) then
   let rv44 := (sc_Clone_string s.Uses)
   bif (s.Def == (Str.mk [])) then
    bif ((s.Uses.length : Int) == (max (s.Uses.length : Int) 1)) then
     bif decide ((max (s.Uses.length : Int) 1) ≤ 4) then
      bif ((s.Targets.length : Int) == 0) then
       let rv66 := (sc_ContainsFunc_string (rv44 ++ s.Targets) (fun x => sx_valid_1 x))
       (!rv66)
      else
       false
     else
      false
    else
     false
   else
    false
  else
   bif (s.Op == 5) then
    let rv77 := (sc_Clone_string s.Uses)
    bif (s.Def == (Str.mk [])) then
     bif ((s.Uses.length : Int) == 1) then
      bif ((s.Targets.length : Int) == 0) then
       let rv97 := (sc_ContainsFunc_string (rv77 ++ s.Targets) (fun x => sx_valid_1 x))
       (!rv97)
      else
       false
     else
      false
    else
     false
   else
    bif (s.Op == 4) then
     let rv109 := (sc_Clone_string s.Uses)
     bif ((s.Uses.length : Int) == 0) then
      bif ((s.Targets.length : Int) == 0) then
       let rv136 := (sc_ContainsFunc_string ((rv109 ++ s.Targets) ++ [s.Def]) (fun x => sx_valid_1 x))
       (!rv136)
      else
       false
     else
      false
    else
     bif (s.Op == 6) then
      let rv145 := (sc_Clone_string s.Uses)
      bif ((s.Uses.length : Int) == 0) then
       bif ((s.Targets.length : Int) == 0) then
        let rv172 := (sc_ContainsFunc_string ((rv145 ++ s.Targets) ++ [s.Def]) (fun x => sx_valid_1 x))
        (!rv172)
       else
        false
      else
       false
     else
      bif (s.Op == 8) then
       let rv183 := (sc_Clone_string s.Uses)
       bif (s.Def == (Str.mk [])) then
        bif ((s.Uses.length : Int) == 1) then
         bif ((s.Targets.length : Int) == ((0 + 1) + 1)) then
          let rv203 := (sc_ContainsFunc_string (rv183 ++ s.Targets) (fun x => sx_valid_1 x))
          (!rv203)
         else
          false
        else
         false
       else
        false
      else
       bif (s.Op == 3) then
        let rv217 := (sc_Clone_string s.Uses)
        bif (s.Def == (Str.mk [])) then
         bif ((s.Uses.length : Int) == 0) then
          bif ((s.Targets.length : Int) == (0 + 1)) then
           let rv237 := (sc_ContainsFunc_string (rv217 ++ s.Targets) (fun x => sx_valid_1 x))
           (!rv237)
          else
           false
         else
          false
        else
         false
       else
        bif (s.Op == 7) then
         let rv249 := (sc_Clone_string s.Uses)
         bif (s.Def == (Str.mk [])) then
          bif ((s.Uses.length : Int) == 0) then
           bif ((s.Targets.length : Int) == (0 + 1)) then
            let rv269 := (sc_ContainsFunc_string (rv249 ++ s.Targets) (fun x => sx_valid_1 x))
            (!rv269)
           else
            false
          else
           false
         else
          false
        else
         bif (s.Op == 9) then
          let rv279 := (sc_Clone_string s.Uses)
          bif (s.Def == (Str.mk [])) then
           bif ((s.Uses.length : Int) == 0) then
            bif ((s.Targets.length : Int) == 0) then
             let rv299 := (sc_ContainsFunc_string (rv279 ++ s.Targets) (fun x => sx_valid_1 x))
             (!rv299)
            else
             false
           else
            false
          else
           false
         else
          false
def sx_Valid_1 (s : GStmt) : Bool :=
 let rv2 := (sx_valid s)
 (!rv2)
def sx_Valid_L1  (v41 : List GBlock) : Nat → Int → LR Unit Bool
 | 0, v43 =>
  .brk ()
 | r + 1, v43 =>
  let rv38 := (lx_IsName ((v41.getD v43.toNat default).Name))
  bif (!rv38) then
   .ret false
  else
   bif decide ((((v41.getD v43.toNat default).Stmts).length : Int) < 1) then
    .ret false
   else
    bif decide (32 < (((v41.getD v43.toNat default).Stmts).length : Int)) then
     .ret false
    else
     let rv54 := (sc_ContainsFunc_Stmt ((v41.getD v43.toNat default).Stmts) (fun x => sx_Valid_1 x))
     bif rv54 then
      .ret false
     else
      sx_Valid_L1 v41 r (v43 + 1)
def sx_Valid_L0 (p : GProgram) : Nat → Int → LR Unit Bool
 | 0, v20 =>
  .brk ()
 | r + 1, v20 =>
  let rv15 := (lx_IsName ((p.Funcs.getD v20.toNat default).Name))
  bif (!rv15) then
   .ret false
  else
   bif decide ((((p.Funcs.getD v20.toNat default).Blocks).length : Int) < 1) then
    .ret false
   else
    bif decide (16 < (((p.Funcs.getD v20.toNat default).Blocks).length : Int)) then
     .ret false
    else
     match sx_Valid_L1 ((p.Funcs.getD v20.toNat default).Blocks) ((((((p.Funcs.getD v20.toNat default).Blocks).length : Int) : Int) - 0).toNat) 0 with
     | .brk _ =>
      sx_Valid_L0 p r (v20 + 1)
     | .ret r => .ret r
     | .oof => .oof
def sx_Valid (p : GProgram) : Bool :=
 bif decide ((p.Funcs.length : Int) < 1) then
  false
 else
  bif decide (8 < (p.Funcs.length : Int)) then
   false
  else
   match sx_Valid_L0 p (((p.Funcs.length : Int) - 0).toNat) 0 with
   | .brk _ =>
    true
   | .ret r => r
   | .oof => default
def vd_Variables_1 (n : Str) (cap0 : List (Str × Bool)) (cap1 : List Str) : (List (Str × Bool)) × List Str :=
 bif (n != (Str.mk [])) then
  bif (!((mget cap0 n).getD false)) then
   ((mset cap0 n true), (cap1 ++ [n]))
  else
   (cap0, cap1)
 else
  (cap0, cap1)
def vd_Variables_2_Variables_1_L0 (s : GStmt) : Nat → List (Str × Bool) → List Str → Int → (List (Str × Bool)) × List Str
 | 0, st00, st10, v12 =>
  (st00, st10)
 | r + 1, st00, st10, v12 =>
  let rv17 := (vd_Variables_1 (s.Uses.getD v12.toNat default) st00 st10)
  vd_Variables_2_Variables_1_L0 s r rv17.1 rv17.2 (v12 + 1)
def vd_Variables_2_Variables_1 (s : GStmt) (st0 : List (Str × Bool)) (st1 : List Str) : (List (Str × Bool)) × List Str :=
 let rv3 := (vd_Variables_1 s.Def st0 st1)
 match vd_Variables_2_Variables_1_L0 s (((s.Uses.length : Int) - 0).toNat) rv3.1 rv3.2 0 with
 | (o0_0, o0_1) =>
  (o0_0, o0_1)
def vd_each_Variables_2_L2  (v28 : List GStmt) : Nat → List (Str × Bool) → List Str → Int → (List (Str × Bool)) × List Str
 | 0, st10, st20, v30 =>
  (st10, st20)
 | r + 1, st10, st20, v30 =>
  let rv40 := (vd_Variables_2_Variables_1 (v28.getD v30.toNat default) st10 st20)
  vd_each_Variables_2_L2 v28 r rv40.1 rv40.2 (v30 + 1)
def vd_each_Variables_2_L1  (v21 : List GBlock) : Nat → List (Str × Bool) → List Str → Int → (List (Str × Bool)) × List Str
 | 0, st10, st20, v23 =>
  (st10, st20)
 | r + 1, st10, st20, v23 =>
  match vd_each_Variables_2_L2 ((v21.getD v23.toNat default).Stmts) ((((((v21.getD v23.toNat default).Stmts).length : Int) : Int) - 0).toNat) st10 st20 0 with
  | (o2_0, o2_1) =>
   vd_each_Variables_2_L1 v21 r o2_0 o2_1 (v23 + 1)
def vd_each_Variables_2_L0 (p : GProgram) : Nat → List (Str × Bool) → List Str → Int → (List (Str × Bool)) × List Str
 | 0, st10, st20, v16 =>
  (st10, st20)
 | r + 1, st10, st20, v16 =>
  match vd_each_Variables_2_L1 ((p.Funcs.getD v16.toNat default).Blocks) ((((((p.Funcs.getD v16.toNat default).Blocks).length : Int) : Int) - 0).toNat) st10 st20 0 with
  | (o1_0, o1_1) =>
   vd_each_Variables_2_L0 p r o1_0 o1_1 (v16 + 1)
def vd_each_Variables_2 (p : GProgram) (st1 : List (Str × Bool)) (st2 : List Str) : (List (Str × Bool)) × List Str :=
 let rv2 := (sx_Valid p)
 bif (!rv2) then
  (st1, st2)
 else
  match vd_each_Variables_2_L0 p (((p.Funcs.length : Int) - 0).toNat) st1 st2 0 with
  | (o0_0, o0_1) =>
   (o0_0, o0_1)
def vd_Variables (p : GProgram) : List Str :=
 let rv8 := (vd_each_Variables_2 p [] ([] : List Str))
 rv8.2
def vd_duplicate_Func_L0 (l : List GFunc) (namep : GFunc → Str) : Nat → List (Str × Bool) → Int → Int → (List (Str × Bool)) × Int
 | 0, known, at_, v13 =>
  (known, at_)
 | r + 1, known, at_, v13 =>
  bif ((mget known (namep (l.getD v13.toNat default))).getD false) then
   bif decide (at_ < 0) then
    vd_duplicate_Func_L0 l namep r (mset known (namep (l.getD v13.toNat default)) true) v13 (v13 + 1)
   else
    vd_duplicate_Func_L0 l namep r (mset known (namep (l.getD v13.toNat default)) true) at_ (v13 + 1)
  else
   vd_duplicate_Func_L0 l namep r (mset known (namep (l.getD v13.toNat default)) true) at_ (v13 + 1)
def vd_duplicate_Func (l : List GFunc) (namep : GFunc → Str) : Int × (List (Str × Bool)) :=
 match vd_duplicate_Func_L0 l namep (((l.length : Int) - 0).toNat) [] (-1) 0 with
 | (o0_0, o0_1) =>
  (o0_1, o0_0)
def vd_Check_1 (f : GFunc) : Str :=
 f.Name
def vd_duplicate_Block_L0 (l : List GBlock) (namep : GBlock → Str) : Nat → List (Str × Bool) → Int → Int → (List (Str × Bool)) × Int
 | 0, known, at_, v13 =>
  (known, at_)
 | r + 1, known, at_, v13 =>
  bif ((mget known (namep (l.getD v13.toNat default))).getD false) then
   bif decide (at_ < 0) then
    vd_duplicate_Block_L0 l namep r (mset known (namep (l.getD v13.toNat default)) true) v13 (v13 + 1)
   else
    vd_duplicate_Block_L0 l namep r (mset known (namep (l.getD v13.toNat default)) true) at_ (v13 + 1)
  else
   vd_duplicate_Block_L0 l namep r (mset known (namep (l.getD v13.toNat default)) true) at_ (v13 + 1)
def vd_duplicate_Block (l : List GBlock) (namep : GBlock → Str) : Int × (List (Str × Bool)) :=
 match vd_duplicate_Block_L0 l namep (((l.length : Int) - 0).toNat) [] (-1) 0 with
 | (o0_0, o0_1) =>
  (o0_1, o0_0)
def vd_function_1 (b : GBlock) : Str :=
 b.Name
def vd_terminator (s : GStmt) : Bool :=
 bif (s.Op == 7) then
  true
 else
  bif (s.Op == 8) then
   true
  else
   (s.Op == 9)
def vd_statement_L0 (s : GStmt) (known : List (Str × Bool)) : Nat → Int → LR Unit Int
 | 0, v16 =>
  .brk ()
 | r + 1, v16 =>
  bif (!((mget known (s.Targets.getD v16.toNat default)).getD false)) then
   .ret 5
  else
   vd_statement_L0 s known r (v16 + 1)
def vd_statement (s : GStmt) (last : Bool) (known : List (Str × Bool)) : Int :=
 let rv2 := (vd_terminator s)
 bif (!(rv2 == last)) then
  4
 else
  match vd_statement_L0 s known (((s.Targets.length : Int) - 0).toNat) 0 with
  | .brk _ =>
   0
  | .ret r => r
  | .oof => default
def vd_function_L1 (i : Int) (funcs : List (Str × Bool)) (blocks : List (Str × Bool)) (k : Int) (b1 : List GStmt) (v36 : List GStmt) : Nat → Int → LR Unit (GNode × Int)
 | 0, v38 =>
  .brk ()
 | r + 1, v38 =>
  bif ((v36.getD v38.toNat default).Op == 3) then
   let rv34 := (vd_statement (v36.getD v38.toNat default) (v38 == ((b1.length : Int) - 1)) funcs)
   bif (rv34 != 0) then
    .ret ((GNode.mk 3 i k v38), rv34)
   else
    vd_function_L1 i funcs blocks k b1 v36 r (v38 + 1)
  else
   let rv42 := (vd_statement (v36.getD v38.toNat default) (v38 == ((b1.length : Int) - 1)) blocks)
   bif (rv42 != 0) then
    .ret ((GNode.mk 3 i k v38), rv42)
   else
    vd_function_L1 i funcs blocks k b1 v36 r (v38 + 1)
def vd_function_L0 (f : GFunc) (i : Int) (funcs : List (Str × Bool)) (blocks : List (Str × Bool)) : Nat → Int → LR Unit (GNode × Int)
 | 0, v30 =>
  .brk ()
 | r + 1, v30 =>
  match vd_function_L1 i funcs blocks v30 ((f.Blocks.getD v30.toNat default).Stmts) ((f.Blocks.getD v30.toNat default).Stmts) ((((((f.Blocks.getD v30.toNat default).Stmts).length : Int) : Int) - 0).toNat) 0 with
  | .brk _ =>
   vd_function_L0 f i funcs blocks r (v30 + 1)
  | .ret r => .ret r
  | .oof => .oof
def vd_function (f : GFunc) (i : Int) (funcs : List (Str × Bool)) : GNode × Int :=
 let rv4 := (vd_duplicate_Block f.Blocks (fun x0 => vd_function_1 x0))
 bif decide (0 ≤ rv4.1) then
  ((GNode.mk 3 i rv4.1 (-1)), 6)
 else
  match vd_function_L0 f i funcs rv4.2 (((f.Blocks.length : Int) - 0).toNat) 0 with
  | .brk _ =>
   ((GNode.mk 0 0 0 0), 0)
  | .ret r => r
  | .oof => default
def vd_Sizes_1 (s : GStmt) (cap0 : Int) (cap1 : Int) : Int × Int :=
 bif (s.Op == 3) then
  (((cap0 + 1) + 1), (cap1 + 3))
 else
  bif (s.Op == 8) then
   ((cap0 + 1), (cap1 + 2))
  else
   ((cap0 + 1), (cap1 + 1))
def vd_each_Sizes_1_L2  (v28 : List GStmt) : Nat → Int → Int → Int → Int × Int
 | 0, st00, st10, v30 =>
  (st00, st10)
 | r + 1, st00, st10, v30 =>
  let rv39 := (vd_Sizes_1 (v28.getD v30.toNat default) st00 st10)
  vd_each_Sizes_1_L2 v28 r rv39.1 rv39.2 (v30 + 1)
def vd_each_Sizes_1_L1  (v21 : List GBlock) : Nat → Int → Int → Int → Int × Int
 | 0, st00, st10, v23 =>
  (st00, st10)
 | r + 1, st00, st10, v23 =>
  match vd_each_Sizes_1_L2 ((v21.getD v23.toNat default).Stmts) ((((((v21.getD v23.toNat default).Stmts).length : Int) : Int) - 0).toNat) st00 st10 0 with
  | (o2_0, o2_1) =>
   vd_each_Sizes_1_L1 v21 r o2_0 o2_1 (v23 + 1)
def vd_each_Sizes_1_L0 (p : GProgram) : Nat → Int → Int → Int → Int × Int
 | 0, st00, st10, v16 =>
  (st00, st10)
 | r + 1, st00, st10, v16 =>
  match vd_each_Sizes_1_L1 ((p.Funcs.getD v16.toNat default).Blocks) ((((((p.Funcs.getD v16.toNat default).Blocks).length : Int) : Int) - 0).toNat) st00 st10 0 with
  | (o1_0, o1_1) =>
   vd_each_Sizes_1_L0 p r o1_0 o1_1 (v16 + 1)
def vd_each_Sizes_1 (p : GProgram) (st0 : Int) (st1 : Int) : Int × Int :=
 let rv2 := (sx_Valid p)
 bif (!rv2) then
  (st0, st1)
 else
  match vd_each_Sizes_1_L0 p (((p.Funcs.length : Int) - 0).toNat) st0 st1 0 with
  | (o0_0, o0_1) =>
   (o0_0, o0_1)
def vd_Sizes (p : GProgram) : Int × Int :=
 let rv2 := (sx_Valid p)
 bif (!rv2) then
  (0, 0)
 else
  let rv14 := (vd_each_Sizes_1 p (2 * (p.Funcs.length : Int)) (p.Funcs.length : Int))
  (rv14.1, rv14.2)
def vd_Check_L0 (p : GProgram) (funcs : List (Str × Bool)) : Nat → Int → LR Unit (GNode × Int)
 | 0, v29 =>
  .brk ()
 | r + 1, v29 =>
  let rv29 := (vd_function (p.Funcs.getD v29.toNat default) v29 funcs)
  bif (rv29.2 != 0) then
   .ret (rv29.1, rv29.2)
  else
   vd_Check_L0 p funcs r (v29 + 1)
def vd_Check (p : GProgram) : GNode × Int :=
 let rv3 := (sx_Valid p)
 bif (!rv3) then
  ((GNode.mk 0 0 0 0), 1)
 else
  let rv14 := (vd_duplicate_Func p.Funcs (fun x0 => vd_Check_1 x0))
  bif decide (0 ≤ rv14.1) then
   ((GNode.mk 1 rv14.1 (-1) (-1)), 6)
  else
   match vd_Check_L0 p rv14.2 (((p.Funcs.length : Int) - 0).toNat) 0 with
   | .brk _ =>
    let rv22 := (vd_Sizes p)
    let rv29 := (vd_Variables p)
    bif decide (64 < (rv29.length : Int)) then
     ((GNode.mk 0 0 0 0), 7)
    else
     bif decide (256 < rv22.1) then
      ((GNode.mk 0 0 0 0), 7)
     else
      bif decide (1024 < rv22.2) then
       ((GNode.mk 0 0 0 0), 7)
      else
       ((GNode.mk 0 0 0 0), 0)
   | .ret r => r
   | .oof => default
def nd_List_L2  (i : Int) (k : Int) (v41 : List GStmt) : Nat → List GNode → Int → List GNode
 | 0, out, v43 =>
  out
 | r + 1, out, v43 =>
  bif ((v41.getD v43.toNat default).Op == 3) then
   nd_List_L2 i k v41 r ((out ++ [(GNode.mk 3 i k v43)]) ++ [(GNode.mk 4 i k v43)]) (v43 + 1)
  else
   nd_List_L2 i k v41 r (out ++ [(GNode.mk 3 i k v43)]) (v43 + 1)
def nd_List_L1  (i : Int) (v33 : List GBlock) : Nat → List GNode → Int → List GNode
 | 0, out, v35 =>
  out
 | r + 1, out, v35 =>
  match nd_List_L2 i v35 ((v33.getD v35.toNat default).Stmts) ((((((v33.getD v35.toNat default).Stmts).length : Int) : Int) - 0).toNat) out 0 with
  | o2_0 =>
   nd_List_L1 i v33 r o2_0 (v35 + 1)
def nd_List_L0 (p : GProgram) : Nat → List GNode → Int → List GNode
 | 0, out, v22 =>
  out
 | r + 1, out, v22 =>
  match nd_List_L1 v22 ((p.Funcs.getD v22.toNat default).Blocks) ((((((p.Funcs.getD v22.toNat default).Blocks).length : Int) : Int) - 0).toNat) (out ++ [(GNode.mk 1 v22 (-1) (-1))]) 0 with
  | o1_0 =>
   nd_List_L0 p r (o1_0 ++ [(GNode.mk 2 v22 (-1) (-1))]) (v22 + 1)
def nd_List (p : GProgram) : List GNode :=
 let rv2 := (vd_Check p)
 bif (rv2.2 != 0) then
  ([] : List GNode)
 else
  match nd_List_L0 p (((p.Funcs.length : Int) - 0).toNat) [] 0 with
  | o0_0 =>
   o0_0
def nd_inside (n : GNode) : Bool :=
 bif (n.Kind == 3) then
  true
 else
  (n.Kind == 4)
def nd_Find_L0 (n : GNode) (v8 : List GNode) : Nat → Int → LR Unit Int
 | 0, v10 =>
  .brk ()
 | r + 1, v10 =>
  bif ([(v8.getD v10.toNat default).Kind, (v8.getD v10.toNat default).Func, (v8.getD v10.toNat default).Block, (v8.getD v10.toNat default).Stmt] == [n.Kind, n.Func, n.Block, n.Stmt]) then
   .ret v10
  else
   nd_Find_L0 n v8 r (v10 + 1)
def nd_Find (p : GProgram) (n : GNode) : Int :=
 let rv4 := (nd_List p)
 match nd_Find_L0 n rv4 (((rv4.length : Int) - 0).toNat) 0 with
 | .brk _ =>
  -1
 | .ret r => r
 | .oof => default
def nd_Stmt (p : GProgram) (n : GNode) : GStmt × Bool :=
 let rv4 := (nd_inside n)
 bif (!rv4) then
  ((GStmt.mk 0 (Str.mk []) [] []), false)
 else
  let rv14 := (nd_Find p n)
  bif decide (rv14 < 0) then
   ((GStmt.mk 0 (Str.mk []) [] []), false)
  else
   ((((((p.Funcs.getD n.Func.toNat default).Blocks).getD n.Block.toNat default).Stmts).getD n.Stmt.toNat default), true)
def vd_Defines (s : GStmt) : Bool :=
 bif (s.Op == 1) then
  true
 else
  bif (s.Op == 4) then
   true
  else
   (s.Op == 6)
def fc_definitions_L0 (p : GProgram) (vars : List Str) (v11 : List GNode) : Nat → List GFact → Int → List GFact
 | 0, out, v13 =>
  out
 | r + 1, out, v13 =>
  let rv19 := (nd_Stmt p (v11.getD v13.toNat default))
  bif ((v11.getD v13.toNat default).Kind == 3) then
   let rv35 := (vd_Defines rv19.1)
   bif rv35 then
    let rv40 := (sc_Index_string vars rv19.1.Def)
    fc_definitions_L0 p vars v11 r (out ++ [(GFact.mk v13 rv40)]) (v13 + 1)
   else
    fc_definitions_L0 p vars v11 r out (v13 + 1)
  else
   fc_definitions_L0 p vars v11 r out (v13 + 1)
def fc_definitions (p : GProgram) (vars : List Str) : List GFact :=
 let rv3 := (nd_List p)
 match fc_definitions_L0 p vars rv3 (((rv3.length : Int) - 0).toNat) [] 0 with
 | o0_0 =>
  o0_0
def fc_List_L0  : Nat → List GFact → Int → List GFact
 | 0, out, v34 =>
  out
 | r + 1, out, v34 =>
  fc_List_L0 r (out ++ [(GFact.mk (-1) v34)]) (v34 + 1)
def fc_List (p : GProgram) (kind : Int) : List GFact × Int :=
 let rv2 := (vd_Check p)
 bif (rv2.2 != 0) then
  (([] : List GFact), rv2.2)
 else
  bif decide (kind < 1) then
   (([] : List GFact), 3)
  else
   bif decide (4 < kind) then
    (([] : List GFact), 3)
   else
    let rv21 := (vd_Variables p)
    bif (kind == 1) then
     let rv32 := (fc_definitions p rv21)
     bif decide (256 < (rv32.length : Int)) then
      (([] : List GFact), 7)
     else
      (rv32, 0)
    else
     match fc_List_L0 (((rv21.length : Int) - 0).toNat) [] 0 with
     | o0_0 =>
      bif decide (256 < (o0_0.length : Int)) then
       (([] : List GFact), 7)
      else
       (o0_0, 0)
def r4_letter (c : Int) : Bool :=
 bif decide (97 ≤ c) then
  bif decide (c ≤ 122) then
   true
  else
   bif decide (65 ≤ c) then
    bif decide (c ≤ 90) then
     true
    else
     (c == 95)
   else
    (c == 95)
 else
  bif decide (65 ≤ c) then
   bif decide (c ≤ 90) then
    true
   else
    (c == 95)
  else
   (c == 95)
def r4_digit (c : Int) : Bool :=
 bif decide (48 ≤ c) then
  decide (c ≤ 57)
 else
  false
def r4_Keywords  : List Str :=
 [(Str.mk [102, 117, 110, 99]), (Str.mk [98, 108, 111, 99, 107]), (Str.mk [101, 110, 100]), (Str.mk [117, 115, 101]), (Str.mk [99, 97, 108, 108]), (Str.mk [115, 111, 117, 114, 99, 101]), (Str.mk [115, 105, 110, 107]), (Str.mk [115, 97, 110, 105, 116, 105, 122, 101]), (Str.mk [103, 111, 116, 111]), (Str.mk [98, 114, 97, 110, 99, 104]), (Str.mk [114, 101, 116, 117, 114, 110])]
def r4_IsName_L0 (s : Str) : Nat → Int → LR Unit Bool
 | 0, i =>
  .brk ()
 | r + 1, i =>
  let rv25 := (r4_letter ((s.b.getD i.toNat 0).toNat : Int))
  bif (!rv25) then
   let rv33 := (r4_digit ((s.b.getD i.toNat 0).toNat : Int))
   bif (!rv33) then
    .ret false
   else
    r4_IsName_L0 s r (i + 1)
  else
   r4_IsName_L0 s r (i + 1)
def r4_IsName_L1 (s : Str) : Nat → Int → LR Unit Bool
 | 0, i =>
  .brk ()
 | r + 1, i =>
  bif ((r4_Keywords.getD i.toNat default) == s) then
   .ret false
  else
   r4_IsName_L1 s r (i + 1)
def r4_IsName (s : Str) : Bool :=
 bif ((s.b.length : Int) == 0) then
  false
 else
  bif decide (16 < (s.b.length : Int)) then
   false
  else
   let rv8 := (r4_letter ((s.b.getD (0 : Int).toNat 0).toNat : Int))
   bif (!rv8) then
    false
   else
    bif (((s.b.getD (0 : Int).toNat 0).toNat : Int) == 95) then
     false
    else
     match r4_IsName_L0 s (((s.b.length : Int) - 0).toNat) 0 with
     | .brk _ =>
      match r4_IsName_L1 s (((r4_Keywords.length : Int) - 0).toNat) 0 with
      | .brk _ =>
       true
      | .ret r => r
      | .oof => default
     | .ret r => r
     | .oof => default
def r4_namesOK_L0 (l : List Str) : Nat → Int → LR Unit Bool
 | 0, i =>
  .brk ()
 | r + 1, i =>
  let rv6 := (r4_IsName (l.getD i.toNat default))
  bif (!rv6) then
   .ret false
  else
   r4_namesOK_L0 l r (i + 1)
def r4_namesOK (l : List Str) (a : Int) (b : Int) : Bool :=
 match r4_namesOK_L0 l (((l.length : Int) - 0).toNat) 0 with
 | .brk _ =>
  bif decide (a ≤ (l.length : Int)) then
   decide ((l.length : Int) ≤ b)
  else
   false
 | .ret r => r
 | .oof => default
def r4_stmtOK (s : GStmt) : Bool :=
 let rv2 := (r4_IsName s.Def)
 let rv5 := (r4_namesOK s.Uses 0 4)
 bif (!rv5) then
  false
 else
  let rv15 := (r4_namesOK s.Targets 0 2)
  bif (!rv15) then
   false
  else
   bif (s.Op == 1) then
    bif rv2 then
     ((s.Targets.length : Int) == 0)
    else
     false
   else
    bif (s.Op == 2) then
     bif (s.Def == (Str.mk [])) then
      bif decide (1 ≤ (s.Uses.length : Int)) then
       ((s.Targets.length : Int) == 0)
      else
       false
     else
      false
    else
     bif (s.Op == 5) then
      bif (s.Def == (Str.mk [])) then
       bif ((s.Uses.length : Int) == 1) then
        ((s.Targets.length : Int) == 0)
       else
        false
      else
       false
     else
      bif (s.Op == 3) then
       bif (s.Def == (Str.mk [])) then
        bif ((s.Uses.length : Int) == 0) then
         ((s.Targets.length : Int) == 1)
        else
         false
       else
        false
      else
       bif (s.Op == 7) then
        bif (s.Def == (Str.mk [])) then
         bif ((s.Uses.length : Int) == 0) then
          ((s.Targets.length : Int) == 1)
         else
          false
        else
         false
       else
        bif (s.Op == 4) then
         bif rv2 then
          bif ((s.Uses.length : Int) == 0) then
           ((s.Targets.length : Int) == 0)
          else
           false
         else
          false
        else
         bif (s.Op == 6) then
          bif rv2 then
           bif ((s.Uses.length : Int) == 0) then
            ((s.Targets.length : Int) == 0)
           else
            false
          else
           false
         else
          bif (s.Op == 8) then
           bif (s.Def == (Str.mk [])) then
            bif ((s.Uses.length : Int) == 1) then
             ((s.Targets.length : Int) == 2)
            else
             false
           else
            false
          else
           bif (s.Op == 9) then
            bif (s.Def == (Str.mk [])) then
             bif ((s.Uses.length : Int) == 0) then
              ((s.Targets.length : Int) == 0)
             else
              false
            else
             false
           else
            false
def r4_Valid_L2  (b1 : List GStmt) : Nat → Int → LR Unit Bool
 | 0, j =>
  .brk ()
 | r + 1, j =>
  let rv66 := (r4_stmtOK (b1.getD j.toNat default))
  bif (!rv66) then
   .ret false
  else
   r4_Valid_L2 b1 r (j + 1)
def r4_Valid_L1  (f1 : List GBlock) : Nat → Int → LR Unit Bool
 | 0, k =>
  .brk ()
 | r + 1, k =>
  let rv38 := (r4_IsName ((f1.getD k.toNat default).Name))
  bif (!rv38) then
   .ret false
  else
   bif decide ((((f1.getD k.toNat default).Stmts).length : Int) < 1) then
    .ret false
   else
    bif decide (32 < (((f1.getD k.toNat default).Stmts).length : Int)) then
     .ret false
    else
     match r4_Valid_L2 ((f1.getD k.toNat default).Stmts) ((((((f1.getD k.toNat default).Stmts).length : Int) : Int) - 0).toNat) 0 with
     | .brk _ =>
      r4_Valid_L1 f1 r (k + 1)
     | .ret r => .ret r
     | .oof => .oof
def r4_Valid_L0 (p : GProgram) : Nat → Int → LR Unit Bool
 | 0, i =>
  .brk ()
 | r + 1, i =>
  let rv15 := (r4_IsName ((p.Funcs.getD i.toNat default).Name))
  bif (!rv15) then
   .ret false
  else
   bif decide ((((p.Funcs.getD i.toNat default).Blocks).length : Int) < 1) then
    .ret false
   else
    bif decide (16 < (((p.Funcs.getD i.toNat default).Blocks).length : Int)) then
     .ret false
    else
     match r4_Valid_L1 ((p.Funcs.getD i.toNat default).Blocks) ((((((p.Funcs.getD i.toNat default).Blocks).length : Int) : Int) - 0).toNat) 0 with
     | .brk _ =>
      r4_Valid_L0 p r (i + 1)
     | .ret r => .ret r
     | .oof => .oof
def r4_Valid (p : GProgram) : Bool :=
 bif decide ((p.Funcs.length : Int) < 1) then
  false
 else
  bif decide (8 < (p.Funcs.length : Int)) then
   false
  else
   match r4_Valid_L0 p (((p.Funcs.length : Int) - 0).toNat) 0 with
   | .brk _ =>
    true
   | .ret r => r
   | .oof => default
def r4_Place_L0 (l : List Str) (s : Str) : Nat → Int → LR Unit Int
 | 0, i =>
  .brk ()
 | r + 1, i =>
  bif ((l.getD i.toNat default) == s) then
   .ret i
  else
   r4_Place_L0 l s r (i + 1)
def r4_Place (l : List Str) (s : Str) : Int :=
 match r4_Place_L0 l s (((l.length : Int) - 0).toNat) 0 with
 | .brk _ =>
  -1
 | .ret r => r
 | .oof => default
def r4_Variables_L3  (names : List Str) : Nat → List Str → Int → List Str
 | 0, out, n =>
  out
 | r + 1, out, n =>
  let rv52 := (r4_Place out (names.getD n.toNat default))
  bif decide (rv52 < 0) then
   r4_Variables_L3 names r (out ++ [(names.getD n.toNat default)]) (n + 1)
  else
   r4_Variables_L3 names r out (n + 1)
def r4_Variables_L2  (l : List GStmt) : Nat → List Str → Int → List Str
 | 0, out, j =>
  out
 | r + 1, out, j =>
  bif ((l.getD j.toNat default).Def != (Str.mk [])) then
   match r4_Variables_L3 ([(l.getD j.toNat default).Def] ++ (l.getD j.toNat default).Uses) ((((([(l.getD j.toNat default).Def] ++ (l.getD j.toNat default).Uses).length : Int) : Int) - 0).toNat) out 0 with
   | o3_0 =>
    r4_Variables_L2 l r o3_0 (j + 1)
  else
   match r4_Variables_L3 ((l.getD j.toNat default).Uses) ((((((l.getD j.toNat default).Uses).length : Int) : Int) - 0).toNat) out 0 with
   | o3_0 =>
    r4_Variables_L2 l r o3_0 (j + 1)
def r4_Variables_L1 (p : GProgram) (i : Int) : Nat → List Str → Int → List Str
 | 0, out, k =>
  out
 | r + 1, out, k =>
  match r4_Variables_L2 ((((p.Funcs.getD i.toNat default).Blocks).getD k.toNat default).Stmts) ((((((((p.Funcs.getD i.toNat default).Blocks).getD k.toNat default).Stmts).length : Int) : Int) - 0).toNat) out 0 with
  | o2_0 =>
   r4_Variables_L1 p i r o2_0 (k + 1)
def r4_Variables_L0 (p : GProgram) : Nat → List Str → Int → List Str
 | 0, out, i =>
  out
 | r + 1, out, i =>
  match r4_Variables_L1 p i ((((((p.Funcs.getD i.toNat default).Blocks).length : Int) : Int) - 0).toNat) out 0 with
  | o1_0 =>
   r4_Variables_L0 p r o1_0 (i + 1)
def r4_Variables (p : GProgram) : List Str :=
 let rv2 := (r4_Valid p)
 bif (!rv2) then
  ([] : List Str)
 else
  match r4_Variables_L0 p (((p.Funcs.length : Int) - 0).toNat) [] 0 with
  | o0_0 =>
   o0_0
def r4_Scan_L1  (c : Int) : Nat → LR Unit (List GToken × Int × Int × Int)
 | 0 =>
  .oof
 | r + 1 =>
  bif (c == 35) then
   .oof
  else
   .brk ()
def r4_Scan_L2 (text : Str) (i : Int) : Nat → Int → LR Int (List GToken × Int × Int × Int)
 | 0, n =>
  .oof
 | r + 1, n =>
  bif decide (-9223372036854775808 ≤ (i + n) ∧ (i + n) ≤ 9223372036854775807) then
   bif decide ((i + n) < (text.b.length : Int)) then
    bif decide (-9223372036854775808 ≤ (i + n) ∧ (i + n) ≤ 9223372036854775807) then
     bif decide (0 ≤ (i + n) ∧ (i + n) < (text.b.length : Int)) then
      lv (r4_letter ((text.b.getD ((i + n) : Int).toNat 0).toNat : Int)) fun rv54 =>
      bif rv54 then
       bif decide (-9223372036854775808 ≤ (n + 1) ∧ (n + 1) ≤ 9223372036854775807) then
        r4_Scan_L2 text i r (n + 1)
       else
        .oof
      else
       bif decide (-9223372036854775808 ≤ (i + n) ∧ (i + n) ≤ 9223372036854775807) then
        bif decide (0 ≤ (i + n) ∧ (i + n) < (text.b.length : Int)) then
         lv (r4_digit ((text.b.getD ((i + n) : Int).toNat 0).toNat : Int)) fun rv61 =>
         bif rv61 then
          .oof
         else
          .brk n
        else
         .oof
       else
        .oof
     else
      .oof
    else
     .oof
   else
    .brk n
  else
   .oof
def r4_Scan_L0 (text : Str) : Nat → List GToken → Int → Bool → Int → LR (List GToken × Int × Bool) (List GToken × Int × Int × Int)
 | 0, out, col, open_, i =>
  .oof
 | r + 1, out, col, open_, i =>
  bif decide (i < (text.b.length : Int)) then
   bif decide (0 ≤ i ∧ i < (text.b.length : Int)) then
    bif (((text.b.getD i.toNat 0).toNat : Int) == 32) then
     bif decide (-9223372036854775808 ≤ (i + 1) ∧ (i + 1) ≤ 9223372036854775807) then
      bif decide (-9223372036854775808 ≤ (col + 1) ∧ (col + 1) ≤ 9223372036854775807) then
       r4_Scan_L0 text r out (col + 1) open_ (i + 1)
      else
       .oof
     else
      .oof
    else
     bif (((text.b.getD i.toNat 0).toNat : Int) == 9) then
      .oof
     else
      bif (((text.b.getD i.toNat 0).toNat : Int) == 10) then
       .oof
      else
       bif (((text.b.getD i.toNat 0).toNat : Int) == 59) then
        bif open_ then
         bif decide ((out.length + ([(GToken.mk 3 (Str.mk []) 1 col)] : List GToken).length) * 40 ≤ 140737488355328) then
          ll (r4_Scan_L1 ((text.b.getD i.toNat 0).toNat : Int) 1) fun _ =>
          bif decide (-9223372036854775808 ≤ (i + 1) ∧ (i + 1) ≤ 9223372036854775807) then
           bif decide (-9223372036854775808 ≤ (col + 1) ∧ (col + 1) ≤ 9223372036854775807) then
            bif decide ((i + 1) < (text.b.length : Int)) then
             bif decide (0 ≤ (i + 1) ∧ (i + 1) < (text.b.length : Int)) then
              bif (((text.b.getD ((i + 1) : Int).toNat 0).toNat : Int) == 10) then
               .oof
              else
               r4_Scan_L0 text r (out ++ [(GToken.mk 3 (Str.mk []) 1 col)]) (col + 1) false (i + 1)
             else
              .oof
            else
             .oof
           else
            .oof
          else
           .oof
         else
          .oof
        else
         .oof
       else
        bif (((text.b.getD i.toNat 0).toNat : Int) == 35) then
         .oof
        else
         bif (((text.b.getD i.toNat 0).toNat : Int) == 61) then
          bif decide ((out.length + ([(GToken.mk 2 (Str.mk [61]) 1 col)] : List GToken).length) * 40 ≤ 140737488355328) then
           bif decide (-9223372036854775808 ≤ (i + 1) ∧ (i + 1) ≤ 9223372036854775807) then
            bif decide (-9223372036854775808 ≤ (col + 1) ∧ (col + 1) ≤ 9223372036854775807) then
             r4_Scan_L0 text r (out ++ [(GToken.mk 2 (Str.mk [61]) 1 col)]) (col + 1) true (i + 1)
            else
             .oof
           else
            .oof
          else
           .oof
         else
          lv (r4_letter ((text.b.getD i.toNat 0).toNat : Int)) fun rv46 =>
          bif rv46 then
           ll (r4_Scan_L2 text i 100000 0) fun o2_0 =>
           lv (r4_digit ((text.b.getD i.toNat 0).toNat : Int)) fun rv52 =>
           bif rv52 then
            .oof
           else
            bif decide (16 < o2_0) then
             .oof
            else
             bif decide (-9223372036854775808 ≤ (i + o2_0) ∧ (i + o2_0) ≤ 9223372036854775807) then
              bif decide (0 ≤ i ∧ i ≤ (i + o2_0) ∧ (i + o2_0) ≤ (text.b.length : Int)) then
               bif decide ((out.length + ([(GToken.mk 1 (text.sub i.toNat ((i + o2_0) : Int).toNat) 1 col)] : List GToken).length) * 40 ≤ 140737488355328) then
                bif decide (-9223372036854775808 ≤ (i + o2_0) ∧ (i + o2_0) ≤ 9223372036854775807) then
                 bif decide (-9223372036854775808 ≤ (col + o2_0) ∧ (col + o2_0) ≤ 9223372036854775807) then
                  r4_Scan_L0 text r (out ++ [(GToken.mk 1 (text.sub i.toNat ((i + o2_0) : Int).toNat) 1 col)]) (col + o2_0) true (i + o2_0)
                 else
                  .oof
                else
                 .oof
               else
                .oof
              else
               .oof
             else
              .oof
          else
           .oof
   else
    .oof
  else
   .brk (out, col, open_)
def r4_Scan (text : Str) : LR Unit (List GToken × Int × Int × Int) :=
 bif decide (4096 < (text.b.length : Int)) then
  .oof
 else
  ll (r4_Scan_L0 text 100000 [] 1 false 0) fun (o0_0, o0_1, o0_2) =>
  bif o0_2 then
   bif decide ((o0_0.length + ([(GToken.mk 3 (Str.mk []) 1 o0_1)] : List GToken).length) * 40 ≤ 140737488355328) then
    .ret ((o0_0 ++ [(GToken.mk 3 (Str.mk []) 1 o0_1)]), 0, 0, 0)
   else
    .oof
  else
   .oof
def pz_is (p : Gparser) (word : Str) : LR Unit Bool :=
 bif (p.Err == 0) then
  bif decide (p.at_ < (p.l.length : Int)) then
   bif decide (0 ≤ p.at_ ∧ p.at_ < (p.l.length : Int)) then
    bif decide (0 ≤ p.at_ ∧ p.at_ < (p.l.length : Int)) then
     bif ((p.l.getD p.at_.toNat default).Kind == 1) then
      bif decide (0 ≤ p.at_ ∧ p.at_ < (p.l.length : Int)) then
       .ret ((p.l.getD p.at_.toNat default).Text == word)
      else
       .oof
     else
      .oof
    else
     .oof
   else
    .oof
  else
   .ret false
 else
  .oof
def pz_word (p : Gparser) (w : Str) : LR Unit Gparser :=
 lb (pz_is p w) fun rv1 =>
 bif (!rv1) then
  .oof
 else
  bif decide (-9223372036854775808 ≤ (p.at_ + 1) ∧ (p.at_ + 1) ≤ 9223372036854775807) then
   .ret (Gparser.mk p.l (p.at_ + 1) p.Err)
  else
   .oof
def pz_isName (p : Gparser) : LR Unit Bool :=
 bif (p.Err == 0) then
  bif decide (p.at_ < (p.l.length : Int)) then
   bif decide (0 ≤ p.at_ ∧ p.at_ < (p.l.length : Int)) then
    bif decide (0 ≤ p.at_ ∧ p.at_ < (p.l.length : Int)) then
     bif ((p.l.getD p.at_.toNat default).Kind == 1) then
      bif decide (0 ≤ p.at_ ∧ p.at_ < (p.l.length : Int)) then
       lv (r4_IsName ((p.l.getD p.at_.toNat default).Text)) fun rv11 =>
       .ret rv11
      else
       .oof
     else
      .ret false
    else
     .oof
   else
    .oof
  else
   .oof
 else
  .oof
def pz_name (p : Gparser) : LR Unit (Str × Gparser) :=
 lb (pz_isName p) fun rv1 =>
 bif (!rv1) then
  .oof
 else
  bif decide (-9223372036854775808 ≤ (p.at_ + 1) ∧ (p.at_ + 1) ≤ 9223372036854775807) then
   bif decide (-9223372036854775808 ≤ ((p.at_ + 1) - 1) ∧ ((p.at_ + 1) - 1) ≤ 9223372036854775807) then
    bif decide (0 ≤ ((p.at_ + 1) - 1) ∧ ((p.at_ + 1) - 1) < (p.l.length : Int)) then
     bif decide (0 ≤ ((p.at_ + 1) - 1) ∧ ((p.at_ + 1) - 1) < (p.l.length : Int)) then
      .ret ((p.l.getD (((p.at_ + 1) - 1) : Int).toNat default).Text, (Gparser.mk p.l (p.at_ + 1) p.Err))
     else
      .oof
    else
     .oof
   else
    .oof
  else
   .oof
def pz_isKind (p : Gparser) (k : Int) : LR Unit Bool :=
 bif (p.Err == 0) then
  bif decide (p.at_ < (p.l.length : Int)) then
   bif decide (0 ≤ p.at_ ∧ p.at_ < (p.l.length : Int)) then
    bif decide (0 ≤ p.at_ ∧ p.at_ < (p.l.length : Int)) then
     .ret ((p.l.getD p.at_.toNat default).Kind == k)
    else
     .oof
   else
    .oof
  else
   .oof
 else
  .oof
def pz_end (p : Gparser) : LR Unit Gparser :=
 lb (pz_isKind p 3) fun rv1 =>
 bif (!rv1) then
  .oof
 else
  bif decide (-9223372036854775808 ≤ (p.at_ + 1) ∧ (p.at_ + 1) ≤ 9223372036854775807) then
   .ret (Gparser.mk p.l (p.at_ + 1) p.Err)
  else
   .oof
def pz_begins_L0 (p : Gparser) : Nat → Int → LR Unit Bool
 | 0, i =>
  .brk ()
 | r + 1, i =>
  bif decide (0 ≤ i ∧ i < (([(Str.mk [117, 115, 101]), (Str.mk [99, 97, 108, 108]), (Str.mk [115, 111, 117, 114, 99, 101]), (Str.mk [115, 105, 110, 107]), (Str.mk [115, 97, 110, 105, 116, 105, 122, 101]), (Str.mk [103, 111, 116, 111]), (Str.mk [98, 114, 97, 110, 99, 104]), (Str.mk [114, 101, 116, 117, 114, 110])] : List Str).length : Int)) then
   lb (pz_is p ([(Str.mk [117, 115, 101]), (Str.mk [99, 97, 108, 108]), (Str.mk [115, 111, 117, 114, 99, 101]), (Str.mk [115, 105, 110, 107]), (Str.mk [115, 97, 110, 105, 116, 105, 122, 101]), (Str.mk [103, 111, 116, 111]), (Str.mk [98, 114, 97, 110, 99, 104]), (Str.mk [114, 101, 116, 117, 114, 110])].getD i.toNat default)) fun rv11 =>
   bif rv11 then
    .ret true
   else
    bif decide (-9223372036854775808 ≤ (i + 1) ∧ (i + 1) ≤ 9223372036854775807) then
     pz_begins_L0 p r (i + 1)
    else
     .oof
  else
   .oof
def pz_begins (p : Gparser) : LR Unit Bool :=
 ll (pz_begins_L0 p (((((8 : Nat) : Int) : Int) - 0).toNat) 0) fun _ =>
 lb (pz_isName p) fun rv6 =>
 .ret rv6
def pz_names_L0 (p : Gparser) : Nat → Int → Int → List Str → LR (Int × Int × List Str) (List Str × Gparser)
 | 0, p1, p2, out =>
  .oof
 | r + 1, p1, p2, out =>
  lb (pz_isName (Gparser.mk p.l p1 p2)) fun rv1 =>
  bif rv1 then
   bif ((out.length : Int) == 4) then
    .oof
   else
    lb (pz_name (Gparser.mk p.l p1 p2)) fun rv8 =>
    bif decide ((out.length + ([rv8.1] : List Str).length) * 16 ≤ 140737488355328) then
     pz_names_L0 p r rv8.2.at_ rv8.2.Err (out ++ [rv8.1])
    else
     .oof
  else
   .brk (p1, p2, out)
def pz_names (p : Gparser) : LR Unit (List Str × Gparser) :=
 ll (pz_names_L0 p 100000 p.at_ p.Err []) fun (o0_0, o0_1, o0_2) =>
 .ret (o0_2, (Gparser.mk p.l o0_0 o0_1))
def pz_stmt (p : Gparser) : LR Unit (GStmt × Gparser) :=
 lb (pz_isName p) fun rv3 =>
 bif (!rv3) then
  bif decide (0 ≤ p.at_ ∧ p.at_ < (p.l.length : Int)) then
   bif decide (0 ≤ p.at_ ∧ p.at_ < (p.l.length : Int)) then
    bif decide (-9223372036854775808 ≤ (p.at_ + 1) ∧ (p.at_ + 1) ≤ 9223372036854775807) then
     bif ((p.l.getD p.at_.toNat default).Text == (Str.mk [117, 115, 101])) then
      .oof
     else
      bif ((p.l.getD p.at_.toNat default).Text == (Str.mk [99, 97, 108, 108])) then
       .oof
      else
       bif ((p.l.getD p.at_.toNat default).Text == (Str.mk [115, 111, 117, 114, 99, 101])) then
        .oof
       else
        bif ((p.l.getD p.at_.toNat default).Text == (Str.mk [115, 105, 110, 107])) then
         .oof
        else
         bif ((p.l.getD p.at_.toNat default).Text == (Str.mk [115, 97, 110, 105, 116, 105, 122, 101])) then
          lb (pz_name (Gparser.mk p.l (p.at_ + 1) p.Err)) fun rv24 =>
          lb (pz_end (Gparser.mk p.l rv24.2.at_ rv24.2.Err)) fun rv30 =>
          .ret ((GStmt.mk 6 rv24.1 [] []), (Gparser.mk p.l rv30.at_ rv30.Err))
         else
          bif ((p.l.getD p.at_.toNat default).Text == (Str.mk [103, 111, 116, 111])) then
           .oof
          else
           bif ((p.l.getD p.at_.toNat default).Text == (Str.mk [98, 114, 97, 110, 99, 104])) then
            .oof
           else
            bif ((p.l.getD p.at_.toNat default).Text == (Str.mk [114, 101, 116, 117, 114, 110])) then
             lb (pz_end (Gparser.mk p.l (p.at_ + 1) p.Err)) fun rv42 =>
             .ret ((GStmt.mk 9 (Str.mk []) [] []), (Gparser.mk p.l rv42.at_ rv42.Err))
            else
             lb (pz_name (Gparser.mk p.l (p.at_ + 1) p.Err)) fun rv48 =>
             lb (pz_isKind (Gparser.mk p.l rv48.2.at_ rv48.2.Err) 2) fun rv54 =>
             bif (!rv54) then
              .oof
             else
              bif decide (-9223372036854775808 ≤ (rv48.2.at_ + 1) ∧ (rv48.2.at_ + 1) ≤ 9223372036854775807) then
               lb (pz_names (Gparser.mk p.l (rv48.2.at_ + 1) rv48.2.Err)) fun rv62 =>
               lb (pz_end (Gparser.mk p.l rv62.2.at_ rv62.2.Err)) fun rv71 =>
               .ret ((GStmt.mk 1 rv48.1 rv62.1 []), (Gparser.mk p.l rv71.at_ rv71.Err))
              else
               .oof
    else
     .oof
   else
    .oof
  else
   .oof
 else
  bif ((Str.mk []) == (Str.mk [117, 115, 101])) then
   .oof
  else
   bif ((Str.mk []) == (Str.mk [99, 97, 108, 108])) then
    .oof
   else
    bif ((Str.mk []) == (Str.mk [115, 111, 117, 114, 99, 101])) then
     .oof
    else
     bif ((Str.mk []) == (Str.mk [115, 105, 110, 107])) then
      .oof
     else
      bif ((Str.mk []) == (Str.mk [115, 97, 110, 105, 116, 105, 122, 101])) then
       lb (pz_name p) fun rv89 =>
       lb (pz_end (Gparser.mk p.l rv89.2.at_ rv89.2.Err)) fun rv95 =>
       .ret ((GStmt.mk 6 rv89.1 [] []), (Gparser.mk p.l rv95.at_ rv95.Err))
      else
       bif ((Str.mk []) == (Str.mk [103, 111, 116, 111])) then
        .oof
       else
        bif ((Str.mk []) == (Str.mk [98, 114, 97, 110, 99, 104])) then
         .oof
        else
         bif ((Str.mk []) == (Str.mk [114, 101, 116, 117, 114, 110])) then
          lb (pz_end p) fun rv107 =>
          .ret ((GStmt.mk 9 (Str.mk []) [] []), (Gparser.mk p.l rv107.at_ rv107.Err))
         else
          lb (pz_name p) fun rv113 =>
          lb (pz_isKind (Gparser.mk p.l rv113.2.at_ rv113.2.Err) 2) fun rv119 =>
          bif (!rv119) then
           .oof
          else
           bif decide (-9223372036854775808 ≤ (rv113.2.at_ + 1) ∧ (rv113.2.at_ + 1) ≤ 9223372036854775807) then
            lb (pz_names (Gparser.mk p.l (rv113.2.at_ + 1) rv113.2.Err)) fun rv127 =>
            lb (pz_end (Gparser.mk p.l rv127.2.at_ rv127.2.Err)) fun rv136 =>
            .ret ((GStmt.mk 1 rv113.1 rv127.1 []), (Gparser.mk p.l rv136.at_ rv136.Err))
           else
            .oof
def pz_block_L0 (p : Gparser) : Nat → Int → Int → List GStmt → LR (Int × Int × List GStmt) (GBlock × Gparser)
 | 0, p1, p2, b1 =>
  .oof
 | r + 1, p1, p2, b1 =>
  lb (pz_begins (Gparser.mk p.l p1 p2)) fun rv26 =>
  bif rv26 then
   bif ((b1.length : Int) == 32) then
    .oof
   else
    lb (pz_stmt (Gparser.mk p.l p1 p2)) fun rv35 =>
    bif decide ((b1.length + ([rv35.1] : List GStmt).length) * 72 ≤ 140737488355328) then
     pz_block_L0 p r rv35.2.at_ rv35.2.Err (b1 ++ [rv35.1])
    else
     .oof
  else
   .brk (p1, p2, b1)
def pz_block (p : Gparser) : LR Unit (GBlock × Gparser) :=
 lb (pz_word p (Str.mk [98, 108, 111, 99, 107])) fun rv3 =>
 lb (pz_name (Gparser.mk p.l rv3.at_ rv3.Err)) fun rv8 =>
 lb (pz_end (Gparser.mk p.l rv8.2.at_ rv8.2.Err)) fun rv14 =>
 lb (pz_begins (Gparser.mk p.l rv14.at_ rv14.Err)) fun rv19 =>
 bif (!rv19) then
  .oof
 else
  ll (pz_block_L0 p 100000 rv14.at_ rv14.Err []) fun (o0_0, o0_1, o0_2) =>
  .ret ((GBlock.mk rv8.1 o0_2), (Gparser.mk p.l o0_0 o0_1))
def pz_function_L0 (p : Gparser) : Nat → Int → Int → List GBlock → LR (Int × Int × List GBlock) (GFunc × Gparser)
 | 0, p1, p2, f1 =>
  .oof
 | r + 1, p1, p2, f1 =>
  lb (pz_is (Gparser.mk p.l p1 p2) (Str.mk [98, 108, 111, 99, 107])) fun rv26 =>
  bif rv26 then
   bif ((f1.length : Int) == 16) then
    .oof
   else
    lb (pz_block (Gparser.mk p.l p1 p2)) fun rv34 =>
    bif decide ((f1.length + ([rv34.1] : List GBlock).length) * 40 ≤ 140737488355328) then
     pz_function_L0 p r rv34.2.at_ rv34.2.Err (f1 ++ [rv34.1])
    else
     .oof
  else
   .brk (p1, p2, f1)
def pz_function (p : Gparser) : LR Unit (GFunc × Gparser) :=
 lb (pz_word p (Str.mk [102, 117, 110, 99])) fun rv3 =>
 lb (pz_name (Gparser.mk p.l rv3.at_ rv3.Err)) fun rv8 =>
 lb (pz_end (Gparser.mk p.l rv8.2.at_ rv8.2.Err)) fun rv14 =>
 lb (pz_is (Gparser.mk p.l rv14.at_ rv14.Err) (Str.mk [98, 108, 111, 99, 107])) fun rv19 =>
 bif (!rv19) then
  .oof
 else
  ll (pz_function_L0 p 100000 rv14.at_ rv14.Err []) fun (o0_0, o0_1, o0_2) =>
  lb (pz_word (Gparser.mk p.l o0_0 o0_1) (Str.mk [101, 110, 100])) fun rv31 =>
  lb (pz_end (Gparser.mk p.l rv31.at_ rv31.Err)) fun rv36 =>
  .ret ((GFunc.mk rv8.1 o0_2), (Gparser.mk p.l rv36.at_ rv36.Err))
def r4_Parse_L0  (p0 : List GToken) : Nat → Int → Int → List GFunc → LR (Int × Int × List GFunc) (GProgram × Int × Int × Int)
 | 0, p1, p2, out0 =>
  .oof
 | r + 1, p1, p2, out0 =>
  lb (pz_is (Gparser.mk p0 p1 p2) (Str.mk [102, 117, 110, 99])) fun rv23 =>
  bif rv23 then
   bif ((out0.length : Int) == 8) then
    .oof
   else
    lb (pz_function (Gparser.mk p0 p1 p2)) fun rv31 =>
    bif decide ((out0.length + ([rv31.1] : List GFunc).length) * 40 ≤ 140737488355328) then
     r4_Parse_L0 p0 r rv31.2.at_ rv31.2.Err (out0 ++ [rv31.1])
    else
     .oof
  else
   .brk (p1, p2, out0)
def r4_Parse (text : Str) : LR Unit (GProgram × Int × Int × Int) :=
 lb (r4_Scan text) fun rv3 =>
 bif (rv3.2.2.2 != 0) then
  .oof
 else
  lb (pz_is (Gparser.mk rv3.1 0 0) (Str.mk [102, 117, 110, 99])) fun rv16 =>
  bif (!rv16) then
   .oof
  else
   ll (r4_Parse_L0 rv3.1 100000 0 0 []) fun (o0_0, o0_1, o0_2) =>
   bif (o0_1 == 0) then
    bif decide (o0_0 < (rv3.1.length : Int)) then
     .oof
    else
     .ret ((GProgram.mk o0_2), 0, 0, 0)
   else
    .oof
def w9_program  : LR Unit GProgram :=
 lb (r4_Parse (Str.mk [102, 117, 110, 99, 32, 109, 59, 32, 98, 108, 111, 99, 107, 32, 98, 59, 32, 120, 32, 61, 32, 121, 59, 32, 115, 97, 110, 105, 116, 105, 122, 101, 32, 120, 59, 32, 114, 101, 116, 117, 114, 110, 59, 32, 101, 110, 100])) fun rv3 =>
 .ret rv3.1
def bt_ranged (width : Int) : LR Unit Bool :=
 bif decide (0 ≤ width) then
  .ret (decide (width ≤ 256))
 else
  .oof
def bt_words (width : Int) : LR Unit Int :=
 bif decide (-9223372036854775808 ≤ (width + 64) ∧ (width + 64) ≤ 9223372036854775807) then
  bif decide (-9223372036854775808 ≤ ((width + 64) - 1) ∧ ((width + 64) - 1) ≤ 9223372036854775807) then
   bif decide (0 ≤ ((width + 64) - 1)) then
    .ret (((width + 64) - 1) / 64)
   else
    .oof
  else
   .oof
 else
  .oof
def bt_spare (width : Int) : LR Unit (BitVec 64) :=
 .ret (18446744073709551615#64 <<< ((((BitVec.ofInt 64 width) % 64#64).toNat : Int)).toNat)
def bt_Valid (s : GSet) : LR Unit Bool :=
 lb (bt_ranged s.Width) fun rv2 =>
 bif (!rv2) then
  .oof
 else
  lb (bt_words s.Width) fun rv9 =>
  bif ((s.Words.length : Int) != rv9) then
   .oof
  else
   bif decide (0 ≤ s.Width) then
    bif ((s.Width % 64) == 0) then
     .oof
    else
     bif decide (-9223372036854775808 ≤ ((s.Words.length : Int) - 1) ∧ ((s.Words.length : Int) - 1) ≤ 9223372036854775807) then
      bif decide (0 ≤ ((s.Words.length : Int) - 1) ∧ ((s.Words.length : Int) - 1) < (s.Words.length : Int)) then
       lb (bt_spare s.Width) fun rv17 =>
       .ret (((s.Words.getD (((s.Words.length : Int) - 1) : Int).toNat 0#64) &&& rv17) == 0#64)
      else
       .oof
     else
      .oof
   else
    .oof
def bits_TrailingZeros64 (x : BitVec 64) : LR Unit Int :=
 bif (x == 0#64) then
  .oof
 else
  bif decide ((((x &&& (-x)) * 285870213051353865#64) >>> (((58#64).toNat : Int)).toNat).toNat < 64) then
   .ret (tzT.getD ((((x &&& (-x)) * 285870213051353865#64) >>> (((58#64).toNat : Int)).toNat).toNat) 0)
  else
   .oof
def sc_Clip_int (s : List Int) : LR Unit (List Int) :=
 bif decide (0 ≤ (s.length : Int) ∧ (s.length : Int) ≤ (s.length : Int)) then
  .ret ((s.take ((s.length : Int).toNat)).drop 0)
 else
  .oof
def bt_Members_L1  (i : Int) : Nat → List Int → BitVec 64 → LR (List Int) (List Int)
 | 0, out, w =>
  .oof
 | r + 1, out, w =>
  bif (w != 0#64) then
   bif decide (-9223372036854775808 ≤ (i * 64) ∧ (i * 64) ≤ 9223372036854775807) then
    lb (bits_TrailingZeros64 w) fun rv13 =>
    bif decide (-9223372036854775808 ≤ ((i * 64) + rv13) ∧ ((i * 64) + rv13) ≤ 9223372036854775807) then
     bif decide ((out.length + ([((i * 64) + rv13)] : List Int).length) * 8 ≤ 140737488355328) then
      bt_Members_L1 i r (out ++ [((i * 64) + rv13)]) (w &&& (w - 1#64))
     else
      .oof
    else
     .oof
   else
    .oof
  else
   .brk out
def bt_Members_L0 (s : GSet) : Nat → List Int → Int → LR (List Int) (List Int)
 | 0, out, v12 =>
  .brk out
 | r + 1, out, v12 =>
  bif decide (0 ≤ v12 ∧ v12 < (s.Words.length : Int)) then
   ll (bt_Members_L1 v12 100000 out (s.Words.getD v12.toNat 0#64)) fun o1_0 =>
   bif decide (-9223372036854775808 ≤ (v12 + 1) ∧ (v12 + 1) ≤ 9223372036854775807) then
    bt_Members_L0 s r o1_0 (v12 + 1)
   else
    .oof
  else
   .oof
def bt_Members (s : GSet) : LR Unit (List Int) :=
 lb (bt_Valid s) fun rv2 =>
 bif (!rv2) then
  .oof
 else
  ll (bt_Members_L0 s (((s.Words.length : Int) - 0).toNat) [] 0) fun o0_0 =>
  lb (sc_Clip_int o0_0) fun rv13 =>
  .ret rv13
def ic_small (i : Int) : LR Unit Str :=
 bif decide (i < 10) then
  bif decide (-9223372036854775808 ≤ (i + 1) ∧ (i + 1) ≤ 9223372036854775807) then
   bif decide (0 ≤ i ∧ i ≤ (i + 1) ∧ (i + 1) ≤ (tab0.b.length : Int)) then
    .ret (tab0.sub i.toNat ((i + 1) : Int).toNat)
   else
    .oof
  else
   .oof
 else
  .oof
def ic_FormatInt (i : Int) (base : Int) : LR Unit Str :=
 bif (base == 10) then
  bif decide (0 ≤ i) then
   bif decide (i < 100) then
    lb (ic_small i) fun rv7 =>
    .ret rv7
   else
    .oof
  else
   .oof
 else
  .oof
def ic_Itoa (i : Int) : LR Unit Str :=
 lb (ic_FormatInt i 10) fun rv1 =>
 .ret rv1
def st_Itoa (i : Int) : LR Unit Str :=
 lb (ic_Itoa i) fun rv1 =>
 .ret rv1
def nd_Label (p : GProgram) (n : GNode) : LR Unit Str :=
 bif decide (p.Funcs.all (fun f => f.Blocks.all fun b => b.Stmts.all fun s => decide (s.Uses.length ≤ 600000000) && decide (s.Targets.length ≤ 600000000)) = true) then
  lv (nd_Find p n) fun rv3 =>
  bif decide (rv3 < 0) then
   .oof
  else
   bif decide (0 ≤ n.Func ∧ n.Func < (p.Funcs.length : Int)) then
    bif decide (0 ≤ n.Func ∧ n.Func < (p.Funcs.length : Int)) then
     bif (n.Kind == 1) then
      .oof
     else
      bif (n.Kind == 2) then
       .oof
      else
       bif decide (((p.Funcs.getD n.Func.toNat default).Name).b.length + (Str.mk [46]).b.length ≤ 140737488355328) then
        bif decide (0 ≤ n.Block ∧ n.Block < (((p.Funcs.getD n.Func.toNat default).Blocks).length : Int)) then
         bif decide (0 ≤ n.Block ∧ n.Block < (((p.Funcs.getD n.Func.toNat default).Blocks).length : Int)) then
          bif decide (((p.Funcs.getD n.Func.toNat default).Name ++ (Str.mk [46])).b.length + ((((p.Funcs.getD n.Func.toNat default).Blocks).getD n.Block.toNat default).Name).b.length ≤ 140737488355328) then
           bif decide ((((p.Funcs.getD n.Func.toNat default).Name ++ (Str.mk [46])) ++ (((p.Funcs.getD n.Func.toNat default).Blocks).getD n.Block.toNat default).Name).b.length + (Str.mk [46]).b.length ≤ 140737488355328) then
            lb (st_Itoa n.Stmt) fun rv28 =>
            bif decide (((((p.Funcs.getD n.Func.toNat default).Name ++ (Str.mk [46])) ++ (((p.Funcs.getD n.Func.toNat default).Blocks).getD n.Block.toNat default).Name) ++ (Str.mk [46])).b.length + rv28.b.length ≤ 140737488355328) then
             bif (n.Kind == 4) then
              .oof
             else
              .ret (((((p.Funcs.getD n.Func.toNat default).Name ++ (Str.mk [46])) ++ (((p.Funcs.getD n.Func.toNat default).Blocks).getD n.Block.toNat default).Name) ++ (Str.mk [46])) ++ rv28)
            else
             .oof
           else
            .oof
          else
           .oof
         else
          .oof
        else
         .oof
       else
        .oof
    else
     .oof
   else
    .oof
 else
  .oof
def strings_Join (elems : List Str) (sep : Str) : LR Unit Str := bif decide ((joinS elems sep).b.length ≤ 140737488355328) then .ret (joinS elems sep) else .oof
def fc_Text_L0 (p : GProgram) (l : List GFact) (vars : List Str) (all : List GNode) (v41 : List Int) : Nat → List Str → Int → LR (List Str) (Str × Int)
 | 0, words, v43 =>
  .brk words
 | r + 1, words, v43 =>
  bif decide (0 ≤ v43 ∧ v43 < (v41.length : Int)) then
   bif decide (0 ≤ (v41.getD v43.toNat 0) ∧ (v41.getD v43.toNat 0) < (l.length : Int)) then
    bif decide (0 ≤ (v41.getD v43.toNat 0) ∧ (v41.getD v43.toNat 0) < (l.length : Int)) then
     bif decide (0 ≤ (l.getD ((v41.getD v43.toNat 0) : Int).toNat default).Var ∧ (l.getD ((v41.getD v43.toNat 0) : Int).toNat default).Var < (vars.length : Int)) then
      bif decide (0 ≤ (v41.getD v43.toNat 0) ∧ (v41.getD v43.toNat 0) < (l.length : Int)) then
       bif decide (0 ≤ (l.getD ((v41.getD v43.toNat 0) : Int).toNat default).Node) then
        bif decide (0 ≤ (v41.getD v43.toNat 0) ∧ (v41.getD v43.toNat 0) < (l.length : Int)) then
         bif decide (0 ≤ (l.getD ((v41.getD v43.toNat 0) : Int).toNat default).Node ∧ (l.getD ((v41.getD v43.toNat 0) : Int).toNat default).Node < (all.length : Int)) then
          bif decide (0 ≤ (l.getD ((v41.getD v43.toNat 0) : Int).toNat default).Node ∧ (l.getD ((v41.getD v43.toNat 0) : Int).toNat default).Node < (all.length : Int)) then
           lb (nd_Label p (all.getD ((l.getD ((v41.getD v43.toNat 0) : Int).toNat default).Node : Int).toNat default)) fun rv62 =>
           bif decide ((Str.mk [64]).b.length + rv62.b.length ≤ 140737488355328) then
            bif decide ((vars.getD ((l.getD ((v41.getD v43.toNat 0) : Int).toNat default).Var : Int).toNat default).b.length + ((Str.mk [64]) ++ rv62).b.length ≤ 140737488355328) then
             bif decide ((words.length + ([((vars.getD ((l.getD ((v41.getD v43.toNat 0) : Int).toNat default).Var : Int).toNat default) ++ ((Str.mk [64]) ++ rv62))] : List Str).length) * 16 ≤ 140737488355328) then
              bif decide (-9223372036854775808 ≤ (v43 + 1) ∧ (v43 + 1) ≤ 9223372036854775807) then
               fc_Text_L0 p l vars all v41 r (words ++ [((vars.getD ((l.getD ((v41.getD v43.toNat 0) : Int).toNat default).Var : Int).toNat default) ++ ((Str.mk [64]) ++ rv62))]) (v43 + 1)
              else
               .oof
             else
              .oof
            else
             .oof
           else
            .oof
          else
           .oof
         else
          .oof
        else
         .oof
       else
        .oof
      else
       .oof
     else
      .oof
    else
     .oof
   else
    .oof
  else
   .oof
def fc_Text (p : GProgram) (kind : Int) (s : GSet) : LR Unit (Str × Int) :=
 bif decide (p.Funcs.all (fun f => f.Blocks.all fun b => b.Stmts.all fun s => decide (s.Uses.length ≤ 600000000) && decide (s.Targets.length ≤ 600000000)) = true) then
  lv (fc_List p kind) fun rv4 =>
  bif (rv4.2 != 0) then
   .oof
  else
   lb (bt_Valid s) fun rv14 =>
   bif (!rv14) then
    .oof
   else
    bif (s.Width != (rv4.1.length : Int)) then
     .oof
    else
     bif decide (p.Funcs.all (fun f => f.Blocks.all fun b => b.Stmts.all fun s => decide (s.Uses.length ≤ 600000000) && decide (s.Targets.length ≤ 600000000)) = true) then
      lv (vd_Variables p) fun rv24 =>
      bif decide (p.Funcs.all (fun f => f.Blocks.all fun b => b.Stmts.all fun s => decide (s.Uses.length ≤ 600000000) && decide (s.Targets.length ≤ 600000000)) = true) then
       lv (nd_List p) fun rv33 =>
       lb (bt_Members s) fun rv41 =>
       ll (fc_Text_L0 p rv4.1 rv24 rv33 rv41 (((rv41.length : Int) - 0).toNat) [] 0) fun o0_0 =>
       lb (strings_Join o0_0 (Str.mk [32])) fun rv51 =>
       .ret (rv51, 0)
      else
       .oof
     else
      .oof
 else
  .oof
def r1_Empty (width : Int) : LR Unit GSet :=
 bif decide (-9223372036854775808 ≤ (width + 63) ∧ (width + 63) ≤ 9223372036854775807) then
  bif decide (0 ≤ (width + 63)) then
   bif decide (0 ≤ ((width + 63) / 64) ∧ ((width + 63) / 64) * 8 ≤ 140737488355328) then
    .ret (GSet.mk width (List.replicate (((width + 63) / 64) : Int).toNat 0#64))
   else
    .oof
  else
   .oof
 else
  .oof
def r1_Put (s : GSet) (b : Int) : LR Unit GSet :=
 lb (r1_Empty s.Width) fun rv4 =>
 bif decide (0 ≤ b) then
  bif decide (0 ≤ (b / 64) ∧ (b / 64) < ((s.Words.take rv4.Words.length ++ rv4.Words.drop s.Words.length).length : Int)) then
   bif decide (0 ≤ b) then
    bif decide (0 ≤ (b / 64) ∧ (b / 64) < ((s.Words.take rv4.Words.length ++ rv4.Words.drop s.Words.length).length : Int)) then
     .ret (GSet.mk rv4.Width ((s.Words.take rv4.Words.length ++ rv4.Words.drop s.Words.length).set ((b / 64) : Int).toNat (((s.Words.take rv4.Words.length ++ rv4.Words.drop s.Words.length).getD ((b / 64) : Int).toNat 0#64) ||| (1#64 <<< (((BitVec.ofInt 64 (b % 64)).toNat : Int)).toNat))))
    else
     .oof
   else
    .oof
  else
   .oof
 else
  .oof
def r1_Full_L0  : Nat → Int → List (BitVec 64) → Int → LR (Int × List (BitVec 64)) GSet
 | 0, s0, s1, b =>
  .brk (s0, s1)
 | r + 1, s0, s1, b =>
  lb (r1_Put (GSet.mk s0 s1) b) fun rv14 =>
  bif decide (-9223372036854775808 ≤ (b + 1) ∧ (b + 1) ≤ 9223372036854775807) then
   r1_Full_L0 r rv14.Width rv14.Words (b + 1)
  else
   .oof
def r1_Full (width : Int) : LR Unit GSet :=
 lb (r1_Empty width) fun rv3 =>
 ll (r1_Full_L0 (((width : Int) - 0).toNat) rv3.Width rv3.Words 0) fun (o0_0, o0_1) =>
 .ret (GSet.mk o0_0 o0_1)
def r7_SameFacts_L0 (a : List GFact) (b : List GFact) : Nat → Int → LR Unit Bool
 | 0, i =>
  .brk ()
 | r + 1, i =>
  bif decide (0 ≤ i ∧ i < (a.length : Int)) then
   bif decide (0 ≤ i ∧ i < (a.length : Int)) then
    bif decide (0 ≤ i ∧ i < (b.length : Int)) then
     bif decide (0 ≤ i ∧ i < (b.length : Int)) then
      bif ([(a.getD i.toNat default).Node, (a.getD i.toNat default).Var] != [(b.getD i.toNat default).Node, (b.getD i.toNat default).Var]) then
       .oof
      else
       bif decide (-9223372036854775808 ≤ (i + 1) ∧ (i + 1) ≤ 9223372036854775807) then
        r7_SameFacts_L0 a b r (i + 1)
       else
        .oof
     else
      .oof
    else
     .oof
   else
    .oof
  else
   .oof
def r7_SameFacts (a : List GFact) (b : List GFact) : LR Unit Bool :=
 bif ((a.length : Int) != (b.length : Int)) then
  .oof
 else
  ll (r7_SameFacts_L0 a b (((a.length : Int) - 0).toNat) 0) fun _ =>
  .ret true
def w9_saneO  : LR Unit Bool :=
 lb w9_program fun rv2 =>
 bif decide (rv2.Funcs.all (fun f => f.Blocks.all fun b => b.Stmts.all fun s => decide (s.Uses.length ≤ 600000000) && decide (s.Targets.length ≤ 600000000)) = true) then
  lv (fc_List rv2 1) fun rv9 =>
  bif decide (rv2.Funcs.all (fun f => f.Blocks.all fun b => b.Stmts.all fun s => decide (s.Uses.length ≤ 600000000) && decide (s.Targets.length ≤ 600000000)) = true) then
   lv (fc_List rv2 2) fun rv22 =>
   bif decide (rv2.Funcs.all (fun f => f.Blocks.all fun b => b.Stmts.all fun s => decide (s.Uses.length ≤ 600000000) && decide (s.Targets.length ≤ 600000000)) = true) then
    lv (fc_List rv2 5) fun rv35 =>
    lb (r1_Full 2) fun rv48 =>
    lb (fc_Text rv2 1 rv48) fun rv55 =>
    bif (rv9.2 == 0) then
     bif (rv22.2 == 0) then
      bif (rv35.2 == 3) then
       bif (rv55.2 == 0) then
        lb (r7_SameFacts rv9.1 [(GFact.mk 1 0), (GFact.mk 2 0)]) fun rv71 =>
        bif rv71 then
         bif ((rv22.1.length : Int) == 2) then
          .ret (rv55.1 == (Str.mk [120, 64, 109, 46, 98, 46, 48, 32, 120, 64, 109, 46, 98, 46, 49]))
         else
          .oof
        else
         .oof
       else
        .oof
      else
       .oof
     else
      .oof
    else
     .oof
   else
    .oof
  else
   .oof
 else
  .oof
def w9_sane : Bool := true
def w9_FactsCount_L2  (p0 : List GFunc) (f : Int) (b : Int) : Nat → Int → Int → Int
 | 0, n, i =>
  n
 | r + 1, n, i =>
  bif ((((((p0.getD f.toNat default).Blocks).getD b.toNat default).Stmts).getD i.toNat default).Def != (Str.mk [])) then
   w9_FactsCount_L2 p0 f b r (n + 1) (i + 1)
  else
   w9_FactsCount_L2 p0 f b r n (i + 1)
def w9_FactsCount_L1  (p0 : List GFunc) (f : Int) : Nat → Int → Int → Int
 | 0, n, b =>
  n
 | r + 1, n, b =>
  match w9_FactsCount_L2 p0 f b ((((((((p0.getD f.toNat default).Blocks).getD b.toNat default).Stmts).length : Int) : Int) - 0).toNat) n 0 with
  | o2_0 =>
   w9_FactsCount_L1 p0 f r o2_0 (b + 1)
def w9_FactsCount_L0  (p0 : List GFunc) : Nat → Int → Int → Int
 | 0, n, f =>
  n
 | r + 1, n, f =>
  match w9_FactsCount_L1 p0 f ((((((p0.getD f.toNat default).Blocks).length : Int) : Int) - 0).toNat) n 0 with
  | o1_0 =>
   w9_FactsCount_L0 p0 r o1_0 (f + 1)
def w9_FactsCount_L3  (p0 : List GFunc) : Nat → Int → LR Unit Bool
 | 0, kind =>
  .oof
 | r + 1, kind =>
  bif decide (kind ≤ 4) then
   let rv33 := (fc_List (GProgram.mk p0) kind)
   bif (rv33.2 != 0) then
    .ret false
   else
    let rv45 := (r4_Variables (GProgram.mk p0))
    bif ((rv33.1.length : Int) != (rv45.length : Int)) then
     .ret false
    else
     w9_FactsCount_L3 p0 r (kind + 1)
  else
   .brk ()
def w9_FactsCount (t : List Int) : Bool :=
 let rv2 := (g_New t)
 let rv6 := (tp_Program t 0)
 match w9_FactsCount_L0 rv6.1.Funcs (((rv6.1.Funcs.length : Int) - 0).toNat) 0 0 with
 | o0_0 =>
  let rv16 := (fc_List rv6.1 1)
  bif (rv16.2 != 0) then
   false
  else
   bif ((rv16.1.length : Int) != o0_0) then
    false
   else
    match w9_FactsCount_L3 rv6.1.Funcs 5 2 with
    | .brk _ =>
     w9_sane
    | .ret r => r
    | .oof => default
def r4_funcNames_L0 (p : GProgram) : Nat → List Str → Int → List Str
 | 0, out, i =>
  out
 | r + 1, out, i =>
  r4_funcNames_L0 p r (out ++ [(p.Funcs.getD i.toNat default).Name]) (i + 1)
def r4_funcNames (p : GProgram) : List Str :=
 match r4_funcNames_L0 p (((p.Funcs.length : Int) - 0).toNat) [] 0 with
 | o0_0 =>
  o0_0
def r4_repeated_L0 (l : List Str) : Nat → Int → LR Unit Int
 | 0, i =>
  .brk ()
 | r + 1, i =>
  let rv12 := (r4_Place ((l.take (i.toNat)).drop 0) (l.getD i.toNat default))
  bif decide (0 ≤ rv12) then
   .ret i
  else
   r4_repeated_L0 l r (i + 1)
def r4_repeated (l : List Str) : Int :=
 match r4_repeated_L0 l (((l.length : Int) - 0).toNat) 0 with
 | .brk _ =>
  -1
 | .ret r => r
 | .oof => default
def r4_BlockNames_L0 (f : GFunc) : Nat → List Str → Int → List Str
 | 0, out, k =>
  out
 | r + 1, out, k =>
  r4_BlockNames_L0 f r (out ++ [(f.Blocks.getD k.toNat default).Name]) (k + 1)
def r4_BlockNames (f : GFunc) : List Str :=
 match r4_BlockNames_L0 f (((f.Blocks.length : Int) - 0).toNat) [] 0 with
 | o0_0 =>
  o0_0
def r4_Terminator (op : Int) : Bool :=
 bif (op == 7) then
  true
 else
  bif (op == 8) then
   true
  else
   (op == 9)
def r4_stmtErr_L0 (s : GStmt) (names : List Str) : Nat → Int → LR Unit Int
 | 0, i =>
  .brk ()
 | r + 1, i =>
  let rv33 := (r4_Place names (s.Targets.getD i.toNat default))
  bif decide (rv33 < 0) then
   .ret 5
  else
   r4_stmtErr_L0 s names r (i + 1)
def r4_stmtErr (p : GProgram) (f : GFunc) (s : GStmt) (last : Bool) : Int :=
 let rv4 := (r4_Terminator s.Op)
 bif (!(rv4 == last)) then
  4
 else
  let rv11 := (r4_BlockNames f)
  bif (s.Op == 3) then
   let rv21 := (r4_funcNames p)
   match r4_stmtErr_L0 s rv21 (((s.Targets.length : Int) - 0).toNat) 0 with
   | .brk _ =>
    0
   | .ret r => r
   | .oof => default
  else
   match r4_stmtErr_L0 s rv11 (((s.Targets.length : Int) - 0).toNat) 0 with
   | .brk _ =>
    0
   | .ret r => r
   | .oof => default
def r4_Sizes_L2  (l : List GStmt) : Nat → Int → Int → Int → Int × Int
 | 0, nodes, edges, j =>
  (nodes, edges)
 | r + 1, nodes, edges, j =>
  bif ((l.getD j.toNat default).Op == 3) then
   r4_Sizes_L2 l r ((nodes + 1) + 1) (edges + 3) (j + 1)
  else
   bif ((l.getD j.toNat default).Op == 8) then
    r4_Sizes_L2 l r (nodes + 1) (edges + 2) (j + 1)
   else
    r4_Sizes_L2 l r (nodes + 1) (edges + 1) (j + 1)
def r4_Sizes_L1 (p : GProgram) (i : Int) : Nat → Int → Int → Int → Int × Int
 | 0, nodes, edges, k =>
  (nodes, edges)
 | r + 1, nodes, edges, k =>
  match r4_Sizes_L2 ((((p.Funcs.getD i.toNat default).Blocks).getD k.toNat default).Stmts) ((((((((p.Funcs.getD i.toNat default).Blocks).getD k.toNat default).Stmts).length : Int) : Int) - 0).toNat) nodes edges 0 with
  | (o2_0, o2_1) =>
   r4_Sizes_L1 p i r o2_0 o2_1 (k + 1)
def r4_Sizes_L0 (p : GProgram) : Nat → Int → Int → Int → Int × Int
 | 0, nodes, edges, i =>
  (nodes, edges)
 | r + 1, nodes, edges, i =>
  match r4_Sizes_L1 p i ((((((p.Funcs.getD i.toNat default).Blocks).length : Int) : Int) - 0).toNat) (nodes + 2) (edges + 1) 0 with
  | (o1_0, o1_1) =>
   r4_Sizes_L0 p r o1_0 o1_1 (i + 1)
def r4_Sizes (p : GProgram) : Int × Int :=
 let rv2 := (r4_Valid p)
 bif (!rv2) then
  (0, 0)
 else
  match r4_Sizes_L0 p (((p.Funcs.length : Int) - 0).toNat) 0 0 0 with
  | (o0_0, o0_1) =>
   (o0_0, o0_1)
def r4_Check_L2 (p : GProgram) (i : Int) (f0 : Str) (f1 : List GBlock) (k : Int) (l : List GStmt) : Nat → Int → LR Unit (GNode × Int)
 | 0, j =>
  .brk ()
 | r + 1, j =>
  let rv68 := (r4_stmtErr p (GFunc.mk f0 f1) (l.getD j.toNat default) (j == ((l.length : Int) - 1)))
  bif (rv68 != 0) then
   .ret ((GNode.mk 3 i k j), rv68)
  else
   r4_Check_L2 p i f0 f1 k l r (j + 1)
def r4_Check_L1 (p : GProgram) (i : Int) (f0 : Str) (f1 : List GBlock) : Nat → Int → LR Unit (GNode × Int)
 | 0, k =>
  .brk ()
 | r + 1, k =>
  match r4_Check_L2 p i f0 f1 k ((f1.getD k.toNat default).Stmts) ((((((f1.getD k.toNat default).Stmts).length : Int) : Int) - 0).toNat) 0 with
  | .brk _ =>
   r4_Check_L1 p i f0 f1 r (k + 1)
  | .ret r => .ret r
  | .oof => .oof
def r4_Check_L0 (p : GProgram) : Nat → Int → LR Unit (GNode × Int)
 | 0, i =>
  .brk ()
 | r + 1, i =>
  let rv36 := (r4_BlockNames (p.Funcs.getD i.toNat default))
  let rv43 := (r4_repeated rv36)
  bif decide (0 ≤ rv43) then
   .ret ((GNode.mk 3 i rv43 (-1)), 6)
  else
   match r4_Check_L1 p i ((p.Funcs.getD i.toNat default).Name) ((p.Funcs.getD i.toNat default).Blocks) ((((((p.Funcs.getD i.toNat default).Blocks).length : Int) : Int) - 0).toNat) 0 with
   | .brk _ =>
    r4_Check_L0 p r (i + 1)
   | .ret r => .ret r
   | .oof => .oof
def r4_Check (p : GProgram) : GNode × Int :=
 let rv3 := (r4_Valid p)
 bif (!rv3) then
  ((GNode.mk 0 0 0 0), 1)
 else
  let rv14 := (r4_funcNames p)
  let rv21 := (r4_repeated rv14)
  bif decide (0 ≤ rv21) then
   ((GNode.mk 1 rv21 (-1) (-1)), 6)
  else
   match r4_Check_L0 p (((p.Funcs.length : Int) - 0).toNat) 0 with
   | .brk _ =>
    let rv28 := (r4_Sizes p)
    let rv34 := (r4_Variables p)
    bif decide (64 < (rv34.length : Int)) then
     ((GNode.mk 0 0 0 0), 7)
    else
     bif decide (256 < rv28.1) then
      ((GNode.mk 0 0 0 0), 7)
     else
      bif decide (1024 < rv28.2) then
       ((GNode.mk 0 0 0 0), 7)
      else
       ((GNode.mk 0 0 0 0), 0)
   | .ret r => r
   | .oof => default
def r7_List_L2  (i : Int) (k : Int) (l : List GStmt) : Nat → List GNode → Int → List GNode
 | 0, out, j =>
  out
 | r + 1, out, j =>
  bif ((l.getD j.toNat default).Op == 3) then
   r7_List_L2 i k l r ((out ++ [(GNode.mk 3 i k j)]) ++ [(GNode.mk 4 i k j)]) (j + 1)
  else
   r7_List_L2 i k l r (out ++ [(GNode.mk 3 i k j)]) (j + 1)
def r7_List_L1 (p : GProgram) (i : Int) : Nat → List GNode → Int → List GNode
 | 0, out, k =>
  out
 | r + 1, out, k =>
  match r7_List_L2 i k ((((p.Funcs.getD i.toNat default).Blocks).getD k.toNat default).Stmts) ((((((((p.Funcs.getD i.toNat default).Blocks).getD k.toNat default).Stmts).length : Int) : Int) - 0).toNat) out 0 with
  | o2_0 =>
   r7_List_L1 p i r o2_0 (k + 1)
def r7_List_L0 (p : GProgram) : Nat → List GNode → Int → List GNode
 | 0, out, i =>
  out
 | r + 1, out, i =>
  match r7_List_L1 p i ((((((p.Funcs.getD i.toNat default).Blocks).length : Int) : Int) - 0).toNat) (out ++ [(GNode.mk 1 i (-1) (-1))]) 0 with
  | o1_0 =>
   r7_List_L0 p r (o1_0 ++ [(GNode.mk 2 i (-1) (-1))]) (i + 1)
@[irreducible] def r7_List (p : GProgram) : List GNode :=
 let rv2 := (r4_Check p)
 bif (rv2.2 != 0) then
  ([] : List GNode)
 else
  match r7_List_L0 p (((p.Funcs.length : Int) - 0).toNat) [] 0 with
  | o0_0 =>
   o0_0
def r7_Index_L0 (l : List GNode) (n : GNode) : Nat → Int → LR Unit Int
 | 0, i =>
  .brk ()
 | r + 1, i =>
  bif ([(l.getD i.toNat default).Kind, (l.getD i.toNat default).Func, (l.getD i.toNat default).Block, (l.getD i.toNat default).Stmt] == [n.Kind, n.Func, n.Block, n.Stmt]) then
   .ret i
  else
   r7_Index_L0 l n r (i + 1)
def r7_Index (l : List GNode) (n : GNode) : Int :=
 match r7_Index_L0 l n (((l.length : Int) - 0).toNat) 0 with
 | .brk _ =>
  -1
 | .ret r => r
 | .oof => default
def r7_Find (p : GProgram) (n : GNode) : Int :=
 let rv4 := (r7_List p)
 let rv11 := (r7_Index rv4 n)
 rv11
def r7_Stmt (p : GProgram) (n : GNode) : GStmt × Bool :=
 let rv4 := (r7_Find p n)
 bif decide (rv4 < 0) then
  ((GStmt.mk 0 (Str.mk []) [] []), false)
 else
  bif (n.Kind != 3) then
   bif (n.Kind != 4) then
    ((GStmt.mk 0 (Str.mk []) [] []), false)
   else
    ((((((p.Funcs.getD n.Func.toNat default).Blocks).getD n.Block.toNat default).Stmts).getD n.Stmt.toNat default), true)
  else
   ((((((p.Funcs.getD n.Func.toNat default).Blocks).getD n.Block.toNat default).Stmts).getD n.Stmt.toNat default), true)
def r4_Defines (s : GStmt) : Bool :=
 bif (s.Op == 1) then
  true
 else
  bif (s.Op == 4) then
   true
  else
   (s.Op == 6)
def r7_Facts_L0  : Nat → List GFact → Int → List GFact
 | 0, out, v =>
  out
 | r + 1, out, v =>
  r7_Facts_L0 r (out ++ [(GFact.mk (-1) v)]) (v + 1)
def r7_Facts_L1 (p : GProgram) (vars : List Str) (l : List GNode) : Nat → List GFact → Int → List GFact
 | 0, out, i =>
  out
 | r + 1, out, i =>
  let rv53 := (r7_Stmt p (l.getD i.toNat default))
  bif rv53.2 then
   bif ((l.getD i.toNat default).Kind == 3) then
    let rv71 := (r4_Defines rv53.1)
    bif rv71 then
     let rv76 := (r4_Place vars rv53.1.Def)
     r7_Facts_L1 p vars l r (out ++ [(GFact.mk i rv76)]) (i + 1)
    else
     r7_Facts_L1 p vars l r out (i + 1)
   else
    r7_Facts_L1 p vars l r out (i + 1)
  else
   r7_Facts_L1 p vars l r out (i + 1)
def r7_Facts (p : GProgram) (kind : Int) : List GFact × Int :=
 let rv2 := (r4_Check p)
 bif (rv2.2 != 0) then
  (([] : List GFact), rv2.2)
 else
  bif decide (kind < 1) then
   (([] : List GFact), 3)
  else
   bif decide (4 < kind) then
    (([] : List GFact), 3)
   else
    let rv21 := (r4_Variables p)
    bif (kind != 1) then
     match r7_Facts_L0 (((rv21.length : Int) - 0).toNat) [] 0 with
     | o0_0 =>
      bif decide (256 < (o0_0.length : Int)) then
       (([] : List GFact), 7)
      else
       (o0_0, 0)
    else
     let rv38 := (r7_List p)
     match r7_Facts_L1 p rv21 rv38 (((rv38.length : Int) - 0).toNat) [] 0 with
     | o1_0 =>
      bif decide (256 < (o1_0.length : Int)) then
       (([] : List GFact), 7)
      else
       (o1_0, 0)
theorem scan' {σ : Type} (f : Nat → Int → LR σ Int) (p : Int → Bool) (c : σ) (h0 : ∀ i, f 0 i = .brk c) (h1 : ∀ r i, f (r + 1) i = bif p i then .ret i else f r (i + 1)) :
  ∀ (m : Nat) (i : Int), (∃ j, f m i = .ret j ∧ i ≤ j ∧ j < i + m ∧ p j = true) ∨ (f m i = .brk c ∧ ∀ j, i ≤ j → j < i + m → p j = false)
 | 0, i => .inr ⟨h0 i, fun j h1 h2 => by omega⟩
 | m + 1, i => by
  rw [h1]
  cases hp : p i with
  | true => exact .inl ⟨i, rfl, by omega, by omega, hp⟩
  | false =>
   rcases scan' f p c h0 h1 m (i + 1) with ⟨j, e, j1, j2, j3⟩ | ⟨e, h⟩
   ·exact .inl ⟨j, e, by omega, by omega, j3⟩
   ·refine .inr ⟨e, fun j j1 j2 => ?_⟩
    rcases Int.lt_or_eq_of_le j1 with hlt | rfl
    ·exact h j (by omega) (by omega)
    ·exact hp
theorem mem_getDg {α : Type} {l : List α} {n d : α} : n ∈ l ↔ ∃ j : Int, 0 ≤ j ∧ j < (l.length : Int) ∧ l.getD j.toNat d = n := by
 constructor
 ·intro h
  obtain ⟨i, hi, e⟩ := List.getElem_of_mem h
  exact ⟨(i : Int), by omega, by omega, by simp [List.getD, hi, e]⟩
 ·rintro ⟨j, j1, j2, rfl⟩
  exact getD_mem (by omega)
def bitAt (ws : List (BitVec 64)) (b : Int) : Bool := (ws.getD (b / 64).toNat 0#64).getLsbD (b % 64).toNat
def VSet (s : GSet) : Prop := 0 ≤ s.Width ∧ s.Width ≤ 256 ∧ (s.Words.length : Int) = (s.Width + 63) / 64 ∧ ∀ b : Int, s.Width ≤ b → b < 64 * (s.Words.length : Int) → bitAt s.Words b = false
theorem VSet.words {s : GSet} (h : VSet s) : 0 ≤ s.Width ∧ s.Width ≤ 256 ∧ s.Words.length ≤ 4 := by
 obtain ⟨a, b, c, _⟩ := h
 omega
def SetOk (s : GSet) : Prop := -1000 ≤ s.Width ∧ s.Width ≤ 1000 ∧ s.Words.length ≤ 1000
theorem VSet.ok {s : GSet} (h : VSet s) : SetOk s := by have := h.words; unfold SetOk; omega
theorem allL {α R : Type} [Inhabited α] {P : α → Bool} {l : List α} {no : R} (L : Nat → Int → LR Unit R) (h0 : ∀ i, L 0 i = .brk ()) (h1 : ∀ r (i : Int), 0 ≤ i → i < (l.length : Int) → L (r + 1) i = if P (l.getD i.toNat default) = true then L r (i + 1) else .ret no) :
  L ((l.length : Int) - 0).toNat 0 = if l.all P = true then .brk () else .ret no := by
 have key : ∀ (suf pre : List α), l = pre ++ suf → L suf.length (pre.length : Int) = if suf.all P = true then .brk () else .ret no := fun suf => by
  induction suf with
  | nil => intro pre _; exact h0 _
  | cons a suf ih =>
   intro pre hl
   have hlen : l.length = pre.length + (suf.length + 1) := by rw [hl]; simp
   have hg : l.getD ((pre.length : Int)).toNat default = a := by rw [hl]; simp
   rw [List.length_cons, h1 _ _ (by omega) (by omega), hg, List.all_cons]
   have := ih (pre ++ [a]) (by rw [hl]; simp)
   rw [List.length_append, List.length_cons, List.length_nil, Int.natCast_add] at this
   rw [show ((pre.length : Int) + 1) = (pre.length : Int) + ((0 + 1 : Nat) : Int) from rfl, this]
   cases P a <;> simp
 have := key l [] rfl
 rw [show ((l.length : Int) - 0).toNat = l.length by omega]
 exact this
theorem str_pos {s : Str} (h : (s == (Str.mk [])) = false) : 0 < s.b.length := by
 obtain ⟨b⟩ := s
 cases b with
 | nil => simp at h
 | cons a b => simp
def SSm (s : GStmt) : Bool := decide (s.Uses.length ≤ 600000000) && decide (s.Targets.length ≤ 600000000)
def BSm (b : GBlock) : Bool := b.Stmts.all SSm
def FSm (f : GFunc) : Bool := f.Blocks.all BSm
def PSm (p : GProgram) : Bool := p.Funcs.all FSm
theorem all_getD {α : Type} [Inhabited α] {q : α → Bool} {l : List α} (h : l.all q = true) {i : Int} (hi : 0 ≤ i ∧ i < (l.length : Int)) : q (l.getD i.toNat default) = true :=
 List.all_eq_true.1 h _ (getD_mem (by omega))
theorem PSm_f {p : GProgram} (h : PSm p = true) {i : Int} (hi : 0 ≤ i ∧ i < (p.Funcs.length : Int)) : FSm (p.Funcs.getD i.toNat default) = true := all_getD h hi
theorem FSm_b {f : GFunc} (h : FSm f = true) {i : Int} (hi : 0 ≤ i ∧ i < (f.Blocks.length : Int)) : BSm (f.Blocks.getD i.toNat default) = true := all_getD h hi
theorem BSm_m {b : GBlock} (h : BSm b = true) {x : GStmt} (hx : x ∈ b.Stmts) : SSm x = true := List.all_eq_true.1 h x hx
theorem SSm_l {s : GStmt} (h : SSm s = true) : s.Uses.length ≤ 600000000 ∧ s.Targets.length ≤ 600000000 := by
 unfold SSm at h; simpa using h
theorem appL {α β : Type} [Inhabited α] {xs : List α} {g : α → β} (L : Nat → List β → Int → List β) (h0 : ∀ b j, L 0 b j = b) (h1 : ∀ r b (j : Int), 0 ≤ j → j < (xs.length : Int) → L (r + 1) b j = L r (b ++ [g (xs.getD j.toNat default)]) (j + 1)) :
  L ((xs.length : Int) - 0).toNat [] 0 = xs.map g := by
 have key : ∀ (suf pre : List α), xs = pre ++ suf → L suf.length (pre.map g) (pre.length : Int) = xs.map g := fun suf => by
  induction suf with
  | nil => intro pre hx; rw [List.length_nil, h0, hx, List.append_nil]
  | cons a suf ih =>
   intro pre hx
   have hlen : xs.length = pre.length + (suf.length + 1) := by rw [hx]; simp
   have hg : xs.getD ((pre.length : Int)).toNat default = a := by rw [hx]; simp
   rw [List.length_cons, h1 _ _ _ (by omega) (by omega), hg]
   have := ih (pre ++ [a]) (by rw [hx]; simp)
   rw [List.length_append, List.length_cons, List.length_nil, Int.natCast_add, List.map_append] at this
   exact this
 have := key xs [] rfl
 rw [show ((xs.length : Int) - 0).toNat = xs.length by omega]
 exact this
def QS (u v : Nat) (s : GStmt) : Bool := decide (s.Uses.length ≤ u) && decide (s.Targets.length ≤ v)
def QB (u v : Nat) (b : GBlock) : Bool := b.Stmts.all (QS u v)
def QF (u v : Nat) (f : GFunc) : Bool := f.Blocks.all (QB u v)
def QP (u v : Nat) (p : GProgram) : Bool := p.Funcs.all (QF u v)
def QL (b : GBlock) : Bool := decide (b.Stmts.length ≤ 4)
def SpF (f : GFunc) : Prop := (1 ≤ f.Blocks.length ∧ f.Blocks.length ≤ 3) ∧ f.Blocks.all QL = true
def SpP (p : GProgram) : Prop := (1 ≤ p.Funcs.length ∧ p.Funcs.length ≤ 3) ∧ (∀ f ∈ p.Funcs, SpF f) ∧ QP 3 2 p = true
theorem QP_PSm {u v : Nat} {p : GProgram} (h : QP u v p = true) (hu : u ≤ 1000000) (hv : v ≤ 1000000) : PSm p = true := by
 unfold QP at h; unfold PSm
 refine List.all_eq_true.2 fun f hf => ?_
 have h1 := List.all_eq_true.1 h f hf
 unfold QF at h1; unfold FSm
 refine List.all_eq_true.2 fun b hb => ?_
 have h2 := List.all_eq_true.1 h1 b hb
 unfold QB at h2; unfold BSm
 refine List.all_eq_true.2 fun s hs => ?_
 have h3 := List.all_eq_true.1 h2 s hs
 unfold QS at h3; unfold SSm
 simp only [Bool.and_eq_true, decide_eq_true_eq] at h3 ⊢
 omega
theorem SpP_PSm {p : GProgram} (h : SpP p) : PSm p = true := QP_PSm h.2.2 (by omega) (by omega)
def fNm (i : Int) : Str := [(Str.mk [109]), (Str.mk [102]), (Str.mk [103])].getD i.toNat default
def bNm (i : Int) : Str := [(Str.mk [97]), (Str.mk [98]), (Str.mk [99])].getD i.toNat default
def N4 : List Str := [(Str.mk [120]), (Str.mk [121]), (Str.mk [122]), (Str.mk [119])]
def vS (s : GStmt) : Prop := (s.Def = Str.mk [] ∨ s.Def ∈ N4) ∧ (∀ u ∈ s.Uses, u ∈ N4) ∧ s.Uses.length ≤ 3
theorem all_of_getD {α : Type} [Inhabited α] {l : List α} {P : α → Prop} (h : ∀ j : Nat, j < l.length → P (l.getD j default)) : ∀ x ∈ l, P x := fun x hx => by
 obtain ⟨j, j1, e⟩ := List.getElem_of_mem hx
 have := h j j1
 rw [List.getD_eq_getElem?_getD, List.getElem?_eq_getElem j1] at this
 simp only [Option.getD_some] at this
 rw [e] at this; exact this
theorem fNm_inj {i j : Int} (hi : 0 ≤ i ∧ i < 3) (hj : 0 ≤ j ∧ j < 3) (h : fNm i = fNm j) : i = j := by
 have h1 : i = 0 ∨ i = 1 ∨ i = 2 := by omega
 have h2 : j = 0 ∨ j = 1 ∨ j = 2 := by omega
 rcases h1 with e | e | e <;> rcases h2 with e' | e' | e' <;> subst e <;> subst e' <;> first | rfl | exact absurd h (by decide)
theorem bNm_inj {i j : Int} (hi : 0 ≤ i ∧ i < 3) (hj : 0 ≤ j ∧ j < 3) (h : bNm i = bNm j) : i = j := by
 have h1 : i = 0 ∨ i = 1 ∨ i = 2 := by omega
 have h2 : j = 0 ∨ j = 1 ∨ j = 2 := by omega
 rcases h1 with e | e | e <;> rcases h2 with e' | e' | e' <;> subst e <;> subst e' <;> first | rfl | exact absurd h (by decide)
def VI (x : List (Str × Bool) × List Str) : Prop := (∀ s ∈ x.2, (mget x.1 s).getD false = true) ∧ x.2.Nodup ∧ ∀ s ∈ x.2, s ∈ N4
theorem nodupStr_le : ∀ (l N : List Str), l.Nodup → (∀ s ∈ l, s ∈ N) → l.length ≤ N.length
 | [], N, _, _ => Nat.zero_le _
 | a :: l, N, hn, h => by
  rw [List.nodup_cons] at hn
  have ha : a ∈ N := h a List.mem_cons_self
  have := nodupStr_le l (N.erase a) hn.2 fun s hs => (List.mem_erase_of_ne (fun e => hn.1 (by rw [← e]; exact hs))).2 (h s (List.mem_cons_of_mem _ hs))
  rw [List.length_erase_of_mem ha] at this
  have := List.length_pos_of_mem ha
  rw [List.length_cons]
  omega
theorem nodup_N4 (l : List Str) (hn : l.Nodup) (h : ∀ s ∈ l, s ∈ N4) : l.length ≤ 4 := nodupStr_le l N4 hn h
def nS (i k : Int) : Int → List GStmt → List GNode
 | _, [] => []
 | v, s :: S => (bif s.Op == 3 then [GNode.mk 3 i k v, GNode.mk 4 i k v] else [GNode.mk 3 i k v]) ++ nS i k (v + 1) S
def nB (i : Int) : Int → List GBlock → List GNode
 | _, [] => []
 | k, b :: B => nS i k 0 b.Stmts ++ nB i (k + 1) B
def nF : Int → List GFunc → List GNode
 | _, [] => []
 | i, f :: F => [GNode.mk 1 i (-1) (-1)] ++ nB i 0 f.Blocks ++ [GNode.mk 2 i (-1) (-1)] ++ nF (i + 1) F
theorem getD_dropz {α : Type} [Inhabited α] {l : List α} {v : Int} (h0 : 0 ≤ v) (h : v < (l.length : Int)) : l.drop v.toNat = l.getD v.toNat default :: l.drop (v + 1).toNat := by
 rw [List.drop_eq_getElem_cons (show v.toNat < l.length by omega), show (v + 1).toNat = v.toNat + 1 by omega, List.getD_eq_getElem?_getD, List.getElem?_eq_getElem (show v.toNat < l.length by omega)]; rfl
def NIn (p : GProgram) (n : GNode) : Prop := (0 ≤ n.Func ∧ n.Func < (p.Funcs.length : Int)) ∧ (n.Kind ≠ 1 → n.Kind ≠ 2 → (0 ≤ n.Block ∧ n.Block < ((p.Funcs.getD n.Func.toNat default).Blocks.length : Int)) ∧ (0 ≤ n.Stmt ∧ n.Stmt < ((((p.Funcs.getD n.Func.toNat default).Blocks).getD n.Block.toNat default).Stmts.length : Int)) ∧ n.Stmt < 100)
theorem nS_in (i k : Int) : ∀ (S : List GStmt) (v : Int) (n : GNode), n ∈ nS i k v S → n.Func = i ∧ n.Block = k ∧ (n.Kind = 3 ∨ n.Kind = 4) ∧ v ≤ n.Stmt ∧ n.Stmt < v + (S.length : Int)
 | [], v, n, h => by cases h
 | s :: S, v, n, h => by
  rw [nS] at h
  rcases List.mem_append.1 h with h' | h'
  ·cases e : s.Op == 3
   ·rw [e, cond_false, List.mem_singleton] at h'
    subst h'
    exact ⟨rfl, rfl, .inl rfl, by show v ≤ v; omega, by show v < v + _; rw [List.length_cons]; omega⟩
   ·rw [e, cond_true] at h'
    simp only [List.mem_cons, List.not_mem_nil, or_false] at h'
    rcases h' with e | e <;> subst e
    ·exact ⟨rfl, rfl, .inl rfl, by show v ≤ v; omega, by show v < v + _; rw [List.length_cons]; omega⟩
    ·exact ⟨rfl, rfl, .inr rfl, by show v ≤ v; omega, by show v < v + _; rw [List.length_cons]; omega⟩
  ·have := nS_in i k S (v + 1) n h'
   rw [List.length_cons]
   omega
theorem nB_in (i : Int) : ∀ (S : List GBlock) (v : Int) (n : GNode), n ∈ nB i v S → n.Func = i ∧ (n.Kind = 3 ∨ n.Kind = 4) ∧ (v ≤ n.Block ∧ n.Block < v + (S.length : Int)) ∧ 0 ≤ n.Stmt ∧ n.Stmt < ((S.getD (n.Block - v).toNat default).Stmts.length : Int)
 | [], v, n, h => by cases h
 | s :: S, v, n, h => by
  rw [nB] at h
  rcases List.mem_append.1 h with h' | h'
  ·obtain ⟨a1, a2, a3, a4, a5⟩ := nS_in i v s.Stmts 0 n h'
   refine ⟨a1, a3, by rw [List.length_cons]; omega, a4, ?_⟩
   rw [show (n.Block - v).toNat = 0 by omega]
   show n.Stmt < (s.Stmts.length : Int)
   omega
  ·obtain ⟨a1, a2, a3, a4, a5⟩ := nB_in i S (v + 1) n h'
   refine ⟨a1, a2, by rw [List.length_cons]; omega, a4, ?_⟩
   rw [show (n.Block - v).toNat = (n.Block - (v + 1)).toNat + 1 by omega]
   exact a5
theorem nF_in : ∀ (S : List GFunc) (v : Int) (n : GNode), n ∈ nF v S → (v ≤ n.Func ∧ n.Func < v + (S.length : Int)) ∧ (n.Kind ≠ 1 → n.Kind ≠ 2 → (n.Kind = 3 ∨ n.Kind = 4) ∧ (0 ≤ n.Block ∧ n.Block < ((S.getD (n.Func - v).toNat default).Blocks.length : Int)) ∧ 0 ≤ n.Stmt ∧ n.Stmt < ((((S.getD (n.Func - v).toNat default).Blocks).getD n.Block.toNat default).Stmts.length : Int))
 | [], v, n, h => by cases h
 | s :: S, v, n, h => by
  rw [nF] at h
  rw [List.length_cons]
  rcases List.mem_append.1 h with h | h'
  ·rcases List.mem_append.1 h with h | h
   ·rcases List.mem_append.1 h with h | h
    ·rw [List.mem_singleton.1 h]
     exact ⟨by show v ≤ v ∧ v < v + _; omega, fun a => absurd rfl a⟩
    ·obtain ⟨a1, a2, a3, a4, a5⟩ := nB_in v s.Blocks 0 n h
     refine ⟨by omega, fun _ _ => ?_⟩
     rw [show (n.Func - v).toNat = 0 by omega]
     rw [show (n.Block - 0).toNat = n.Block.toNat by omega] at a5
     exact ⟨a2, by show 0 ≤ n.Block ∧ n.Block < (s.Blocks.length : Int); omega, a4, a5⟩
   ·rw [List.mem_singleton.1 h]
    exact ⟨by show v ≤ v ∧ v < v + _; omega, fun _ a => absurd rfl a⟩
  ·obtain ⟨a1, a2⟩ := nF_in S (v + 1) n h'
   refine ⟨by omega, ?_⟩
   rw [show (n.Func - v).toNat = (n.Func - (v + 1)).toNat + 1 by omega]
   exact a2
def key (n : GNode) : Int := n.Func * 100000 + (bif n.Kind == 1 then 0 else bif n.Kind == 2 then 99999 else 1 + n.Block * 1000 + n.Stmt * 2 + (bif n.Kind == 4 then 1 else 0))
theorem pw_append {a b : List GNode} (ha : a.Pairwise (fun x y => key x < key y)) (hb : b.Pairwise (fun x y => key x < key y)) (h : ∀ x ∈ a, ∀ y ∈ b, key x < key y) : (a ++ b).Pairwise (fun x y => key x < key y) := List.pairwise_append.2 ⟨ha, hb, h⟩
theorem nS_key {i k v : Int} {S : List GStmt} {n : GNode} (h : n ∈ nS i k v S) : i * 100000 + (1 + k * 1000 + v * 2) ≤ key n ∧ key n < i * 100000 + (1 + k * 1000 + (v + (S.length : Int)) * 2) := by
 obtain ⟨a1, a2, a3, a4, a5⟩ := nS_in i k S v n h
 unfold key
 rw [a1, a2]
 rcases a3 with e | e <;> rw [e]
 ·rw [show ((3 : Int) == 1) = false from rfl, show ((3 : Int) == 2) = false from rfl, show ((3 : Int) == 4) = false from rfl]
  simp only [cond_false]; omega
 ·rw [show ((4 : Int) == 1) = false from rfl, show ((4 : Int) == 2) = false from rfl, show ((4 : Int) == 4) = true from rfl]
  simp only [cond_false, cond_true]; omega
theorem nS_pw (i k : Int) : ∀ (S : List GStmt) (v : Int), (nS i k v S).Pairwise (fun x y => key x < key y)
 | [], v => List.Pairwise.nil
 | s :: S, v => by
  rw [nS]
  refine pw_append ?_ (nS_pw i k S (v + 1)) fun x hx y hy => ?_
  ·cases s.Op == 3
   ·exact List.pairwise_singleton _ _
   ·refine List.Pairwise.cons (fun y hy => ?_) (List.pairwise_singleton _ _)
    rw [List.mem_singleton.1 hy]
    unfold key
    rw [show ((3 : Int) == 1) = false from rfl, show ((3 : Int) == 2) = false from rfl, show ((3 : Int) == 4) = false from rfl, show ((4 : Int) == 1) = false from rfl, show ((4 : Int) == 2) = false from rfl, show ((4 : Int) == 4) = true from rfl]
    simp only [cond_false, cond_true]; omega
  ·have h1 := nS_key hy
   have h2 : x ∈ nS i k v [s] := by rw [nS, nS, List.append_nil]; exact hx
   have h3 := nS_key h2
   simp only [List.length_singleton] at h3
   omega
theorem nB_key {i v : Int} {S : List GBlock} {n : GNode} (hs : ∀ b ∈ S, b.Stmts.length ≤ 4) (h : n ∈ nB i v S) : i * 100000 + (1 + v * 1000) ≤ key n ∧ key n < i * 100000 + (1 + (v + (S.length : Int)) * 1000) := by
 obtain ⟨a1, a3, ⟨a4, a5⟩, a6, a7⟩ := nB_in i S v n h
 have hl := hs _ (getD_mem (xs := S) (i := (n.Block - v).toNat) (d := default) (by omega))
 unfold key
 rw [a1]
 rcases a3 with e | e <;> rw [e]
 ·rw [show ((3 : Int) == 1) = false from rfl, show ((3 : Int) == 2) = false from rfl, show ((3 : Int) == 4) = false from rfl]
  simp only [cond_false]; omega
 ·rw [show ((4 : Int) == 1) = false from rfl, show ((4 : Int) == 2) = false from rfl, show ((4 : Int) == 4) = true from rfl]
  simp only [cond_false, cond_true]; omega
theorem nB_pw (i : Int) : ∀ (S : List GBlock) (v : Int), (∀ b ∈ S, b.Stmts.length ≤ 4) → (nB i v S).Pairwise (fun x y => key x < key y)
 | [], v, _ => List.Pairwise.nil
 | s :: S, v, h => by
  rw [nB]
  refine pw_append (nS_pw i v s.Stmts 0) (nB_pw i S (v + 1) fun b hb => h b (List.mem_cons_of_mem _ hb)) fun x hx y hy => ?_
  have h1 := nS_key hx
  have h2 := nB_key (fun b hb => h b (List.mem_cons_of_mem _ hb)) hy
  have h3 := h s List.mem_cons_self
  omega
def smF (f : GFunc) : Prop := f.Blocks.length ≤ 3 ∧ ∀ b ∈ f.Blocks, b.Stmts.length ≤ 4
theorem key1 (i : Int) : key (GNode.mk 1 i (-1) (-1)) = i * 100000 := by unfold key; simp
theorem key2 (i : Int) : key (GNode.mk 2 i (-1) (-1)) = i * 100000 + 99999 := by unfold key; simp
theorem nF_key : ∀ {S : List GFunc} {v : Int} {n : GNode}, (∀ f ∈ S, smF f) → n ∈ nF v S → v * 100000 ≤ key n
 | [], v, n, _, h => by cases h
 | s :: S, v, n, hs, h => by
  rw [nF] at h
  have hb := hs s List.mem_cons_self
  rcases List.mem_append.1 h with h | h
  ·rcases List.mem_append.1 h with h | h
   ·rcases List.mem_append.1 h with h | h
    ·rw [List.mem_singleton.1 h, key1]; omega
    ·have := nB_key hb.2 h; omega
   ·rw [List.mem_singleton.1 h, key2]; omega
  ·have := nF_key (fun f hf => hs f (List.mem_cons_of_mem _ hf)) h; omega
theorem nF_pw : ∀ (S : List GFunc) (v : Int), (∀ f ∈ S, smF f) → (nF v S).Pairwise (fun x y => key x < key y)
 | [], v, _ => List.Pairwise.nil
 | s :: S, v, hs => by
  rw [nF]
  have hb := hs s List.mem_cons_self
  refine pw_append (pw_append (pw_append (List.pairwise_singleton _ _) (nB_pw v s.Blocks 0 hb.2) fun x hx y hy => ?_) (List.pairwise_singleton _ _) fun x hx y hy => ?_) (nF_pw S (v + 1) fun f hf => hs f (List.mem_cons_of_mem _ hf)) fun x hx y hy => ?_
  ·rw [List.mem_singleton.1 hx, key1]
   have := nB_key hb.2 hy; omega
  ·rw [List.mem_singleton.1 hy, key2]
   rcases List.mem_append.1 hx with h | h
   ·rw [List.mem_singleton.1 h, key1]; omega
   ·have := nB_key hb.2 h; have := hb.1; omega
  ·have h1 := nF_key (fun f hf => hs f (List.mem_cons_of_mem _ hf)) hy
   rcases List.mem_append.1 hx with h | h
   ·rcases List.mem_append.1 h with h | h
    ·rw [List.mem_singleton.1 h, key1]; omega
    ·have := nB_key hb.2 h; have := hb.1; omega
   ·rw [List.mem_singleton.1 h, key2]; omega
theorem pw_getD {l : List GNode} (h : l.Pairwise (fun x y => key x < key y)) {i j : Nat} (hij : i < j) (hj : j < l.length) : key (l.getD i default) < key (l.getD j default) := by
 rw [List.getD_eq_getElem?_getD, List.getD_eq_getElem?_getD, List.getElem?_eq_getElem hj, List.getElem?_eq_getElem (Nat.lt_trans hij hj)]
 exact List.pairwise_iff_getElem.1 h i j _ _ hij
theorem mem_at {l : List GNode} {n : GNode} (h : n ∈ l) : ∃ i : Int, (0 ≤ i ∧ i < (l.length : Int)) ∧ l.getD i.toNat default = n := by
 obtain ⟨j, j1, e⟩ := List.getElem_of_mem h
 refine ⟨(j : Int), by omega, ?_⟩
 rw [show ((j : Int)).toNat = j by omega, List.getD_eq_getElem?_getD, List.getElem?_eq_getElem j1]
 exact e
theorem getD_mapz {α β : Type} {l : List α} {g : α → β} {n : Nat} {d : α} {e : β} (h : n < l.length) : (l.map g).getD n e = g (l.getD n d) := by
 rw [List.getD_eq_getElem?_getD, List.getD_eq_getElem?_getD, List.getElem?_map, List.getElem?_eq_getElem h]; rfl
def KN (m : List (Str × Bool)) (l : List Str) : Prop := ∀ s, (mget m s).getD false = l.any (fun x => x == s)
theorem KN_set {m : List (Str × Bool)} {l : List Str} (h : KN m l) (n : Str) : KN (mset m n true) (l ++ [n]) := fun s => by
 rw [mget_mset, List.any_append, List.any_cons, List.any_nil, Bool.or_false, ← h s]
 by_cases e : n = s
 ·rw [if_pos e, beq_iff_eq.2 e, Bool.or_true]; rfl
 ·rw [if_neg e, beq_eq_false_iff_ne.2 e, Bool.or_false]
def one (i k v : Int) (s : GStmt) : List GNode := bif s.Op == 3 then [GNode.mk 3 i k v, GNode.mk 4 i k v] else [GNode.mk 3 i k v]
def defAt (F : List GFunc) (n : GNode) : Bool := (n.Kind == 3) && (((((F.getD n.Func.toNat default).Blocks).getD n.Block.toNat default).Stmts.getD n.Stmt.toNat default).Def != Str.mk [])
theorem fNm_ok {x : Int} (h : 0 ≤ x ∧ x < 3) : r4_IsName (fNm x) = true := by
 have : x = 0 ∨ x = 1 ∨ x = 2 := by omega
 rcases this with h | h | h <;> subst h <;> decide +kernel
theorem bNm_ok {x : Int} (h : 0 ≤ x ∧ x < 3) : r4_IsName (bNm x) = true := by
 have : x = 0 ∨ x = 1 ∨ x = 2 := by omega
 rcases this with h | h | h <;> subst h <;> decide +kernel
theorem nmOK_eq (l : List Str) (a b : Int) : r4_namesOK l a b = (l.all r4_IsName && (decide (a ≤ (l.length : Int)) && decide ((l.length : Int) ≤ b))) := by
 have l0 : r4_namesOK_L0 l ((l.length : Int) - 0).toNat 0 = if l.all r4_IsName = true then .brk () else .ret false :=
  allL (r4_namesOK_L0 l) (fun i => by rw [r4_namesOK_L0]) fun r i h0 h1 => by
   rw [r4_namesOK_L0]; cases r4_IsName (l.getD i.toNat default) <;> rfl
 rw [r4_namesOK, l0]
 cases l.all r4_IsName
 ·rfl
 ·cases decide (a ≤ (l.length : Int)) <;> rfl
theorem stOK_b {s : GStmt} (h : r4_stmtOK s = true) : s.Uses.length ≤ 4 ∧ s.Targets.length ≤ 2 := by
 unfold r4_stmtOK at h
 cases h1 : r4_namesOK s.Uses 0 4
 ·rw [h1] at h; exact absurd h (by intro h; cases h)
 cases h2 : r4_namesOK s.Targets 0 2
 ·rw [h1, h2] at h; exact absurd h (by intro h; cases h)
 rw [nmOK_eq] at h1 h2
 simp only [Bool.and_eq_true, decide_eq_true_eq] at h1 h2
 omega
theorem stmtOK_n {s : GStmt} (h : r4_stmtOK s = true) : (s.Def = Str.mk [] ∨ r4_IsName s.Def = true) ∧ (∀ u ∈ s.Uses, r4_IsName u = true) ∧ (∀ u ∈ s.Targets, r4_IsName u = true) := by
 unfold r4_stmtOK at h
 dsimp only at h
 cases h1 : r4_namesOK s.Uses 0 4
 ·rw [h1] at h; exact absurd h (by intro h; cases h)
 cases h2 : r4_namesOK s.Targets 0 2
 ·rw [h1, h2] at h; exact absurd h (by intro h; cases h)
 rw [h1, h2] at h
 rw [nmOK_eq] at h1 h2
 simp only [Bool.and_eq_true, List.all_eq_true] at h1 h2
 refine ⟨?_, h1.1, h2.1⟩
 cases hd : r4_IsName s.Def
 ·left
  rw [hd] at h
  cases hz : s.Def == Str.mk []
  ·exfalso
   rw [hz] at h
   simp only [Bool.not_true, cond_false] at h
   repeat' (first | (rw [Bool.cond_eq_ite] at h; split at h))
   all_goals cases h
  ·exact beq_iff_eq.1 hz
 ·exact .inr rfl
theorem PVal_eq (p : GProgram) : r4_Valid p = (decide (1 ≤ p.Funcs.length ∧ p.Funcs.length ≤ 8) && p.Funcs.all fun f => r4_IsName f.Name && (decide (1 ≤ f.Blocks.length ∧ f.Blocks.length ≤ 16) && f.Blocks.all fun b => r4_IsName b.Name && (decide (1 ≤ b.Stmts.length ∧ b.Stmts.length ≤ 32) && b.Stmts.all r4_stmtOK))) := by
 have l2 : ∀ (b : List GStmt), r4_Valid_L2 b ((b.length : Int) - 0).toNat 0 = if b.all r4_stmtOK = true then .brk () else .ret false := fun b =>
  allL (r4_Valid_L2 b) (fun i => by rw [r4_Valid_L2]) fun r i h0 h1 => by
   rw [r4_Valid_L2]; cases r4_stmtOK (b.getD i.toNat default) <;> rfl
 have l1 : ∀ (f : List GBlock), r4_Valid_L1 f ((f.length : Int) - 0).toNat 0 = if (f.all fun b => r4_IsName b.Name && (decide (1 ≤ b.Stmts.length ∧ b.Stmts.length ≤ 32) && b.Stmts.all r4_stmtOK)) = true then .brk () else .ret false := fun f =>
  allL (r4_Valid_L1 f) (fun i => by rw [r4_Valid_L1]) fun r i h0 h1 => by
   rw [r4_Valid_L1]
   generalize hb : f.getD i.toNat default = b
   have e := l2 b.Stmts
   simp only [Bool.cond_eq_ite]
   cases hN : r4_IsName b.Name
   ·simp
   by_cases h1 : ((b.Stmts.length : Nat) : Int) < 1
   ·have : ¬ (1 ≤ b.Stmts.length ∧ b.Stmts.length ≤ 32) := by omega
    simp [h1, this]
   by_cases h2 : (32 : Int) < ((b.Stmts.length : Nat) : Int)
   ·have : ¬ (1 ≤ b.Stmts.length ∧ b.Stmts.length ≤ 32) := by omega
    simp [h1, h2, this]
   have h3 : (1 ≤ b.Stmts.length ∧ b.Stmts.length ≤ 32) := by omega
   rw [e]
   simp only [h1, h2, decide_false, h3, decide_true, Bool.not_true, Bool.true_and, and_self, reduceIte, Bool.false_eq_true]
   all_goals (cases b.Stmts.all r4_stmtOK <;> rfl)
 have l0 : r4_Valid_L0 p ((p.Funcs.length : Int) - 0).toNat 0 = if (p.Funcs.all fun f => r4_IsName f.Name && (decide (1 ≤ f.Blocks.length ∧ f.Blocks.length ≤ 16) && f.Blocks.all fun b => r4_IsName b.Name && (decide (1 ≤ b.Stmts.length ∧ b.Stmts.length ≤ 32) && b.Stmts.all r4_stmtOK))) = true then .brk () else .ret false :=
  allL (r4_Valid_L0 p) (fun i => by rw [r4_Valid_L0]) fun r i h0 h1 => by
   rw [r4_Valid_L0]
   generalize hb : p.Funcs.getD i.toNat default = f
   have e := l1 f.Blocks
   simp only [Bool.cond_eq_ite]
   cases hN : r4_IsName f.Name
   ·simp
   by_cases h1 : ((f.Blocks.length : Nat) : Int) < 1
   ·have : ¬ (1 ≤ f.Blocks.length ∧ f.Blocks.length ≤ 16) := by omega
    simp [h1, this]
   by_cases h2 : (16 : Int) < ((f.Blocks.length : Nat) : Int)
   ·have : ¬ (1 ≤ f.Blocks.length ∧ f.Blocks.length ≤ 16) := by omega
    simp [h1, h2, this]
   have h3 : (1 ≤ f.Blocks.length ∧ f.Blocks.length ≤ 16) := by omega
   rw [e]
   simp only [h1, h2, decide_false, h3, decide_true, Bool.not_true, Bool.true_and, and_self, reduceIte, Bool.false_eq_true]
   all_goals (generalize (f.Blocks.all _) = q; cases q <;> rfl)
 rw [r4_Valid]
 simp only [Bool.cond_eq_ite]
 by_cases h1 : ((p.Funcs.length : Nat) : Int) < 1
 ·have : ¬ (1 ≤ p.Funcs.length ∧ p.Funcs.length ≤ 8) := by omega
  simp [h1, this]
 by_cases h2 : (8 : Int) < ((p.Funcs.length : Nat) : Int)
 ·have : ¬ (1 ≤ p.Funcs.length ∧ p.Funcs.length ≤ 8) := by omega
  simp [h1, h2, this]
 have h3 : (1 ≤ p.Funcs.length ∧ p.Funcs.length ≤ 8) := by omega
 rw [l0]
 simp only [h1, h2, decide_false, h3, decide_true, Bool.true_and, reduceIte, Bool.false_eq_true, and_self]
 all_goals (generalize (p.Funcs.all _) = q; cases q <;> rfl)
theorem PVal_b {p : GProgram} (h : r4_Valid p = true) : p.Funcs.length ≤ 8 ∧ ∀ i : Nat, (p.Funcs.getD i default).Blocks.length ≤ 16 ∧ ∀ k : Nat, ((p.Funcs.getD i default).Blocks.getD k default).Stmts.length ≤ 32 ∧ ∀ j : Nat, (((p.Funcs.getD i default).Blocks.getD k default).Stmts.getD j default).Uses.length ≤ 4 ∧ (((p.Funcs.getD i default).Blocks.getD k default).Stmts.getD j default).Targets.length ≤ 2 := by
 rw [PVal_eq] at h
 simp only [Bool.and_eq_true, decide_eq_true_eq, List.all_eq_true] at h
 have gm : ∀ {α : Type} [Inhabited α] (l : List α) (i : Nat), l.getD i default ∈ l ∨ l.getD i default = default := fun l i => by
  by_cases hi : i < l.length
  ·left; rw [List.getD_eq_getElem?_getD, List.getElem?_eq_getElem hi]; exact List.getElem_mem hi
  ·right; rw [List.getD_eq_getElem?_getD, List.getElem?_eq_none (by omega)]; rfl
 refine ⟨h.1.2, fun i => ?_⟩
 rcases gm p.Funcs i with hf | hf
 ·have hF := (h.2 _ hf).2
  refine ⟨hF.1.2, fun k => ?_⟩
  rcases gm (p.Funcs.getD i default).Blocks k with hb | hb
  ·have hB := (hF.2 _ hb).2
   refine ⟨hB.1.2, fun j => ?_⟩
   rcases gm ((p.Funcs.getD i default).Blocks.getD k default).Stmts j with hs | hs
   ·exact stOK_b (hB.2 _ hs)
   ·rw [hs]; decide
  ·rw [hb]
   exact ⟨by decide, fun j => by rw [show (default : GBlock).Stmts = [] from rfl]; simp; decide⟩
 ·rw [hf]
  refine ⟨by decide, fun k => ?_⟩
  rw [show (default : GFunc).Blocks = [] from rfl]
  exact ⟨by simp; decide, fun j => by simp [show (default : GBlock).Stmts = [] from rfl]; decide⟩
theorem inside_k {n : GNode} {v : Bool} (h : nd_inside n = v) (hv : (!v) = false) : n.Kind = 3 ∨ n.Kind = 4 := by
 unfold nd_inside at h
 cases e : n.Kind == 3
 ·rw [e, cond_false] at h
  rw [← h] at hv
  right
  simpa using hv
 ·exact .inl (by simpa using e)
theorem letter_eq (c : Int) : lx_letter c = (r4_letter c && !(c == 95)) := by
 by_cases h : c = 95
 ·subst h; decide
 ·have h7 : (c == 95) = false := by simpa using h
  unfold lx_letter r4_letter
  rw [h7]
  generalize decide (97 ≤ c) = a1
  generalize decide (c ≤ 122) = a2
  generalize decide (65 ≤ c) = a3
  generalize decide (c ≤ 90) = a4
  all_goals (cases a1 <;> cases a2 <;> cases a3 <;> cases a4 <;> rfl)
theorem Cont_string (s : List Str) (v : Str) : sc_Contains_string s v = s.any (fun k => k == v) := by
 have := scan' (fun r i => sc_Index_string_L0 s v r i) (fun i => v == (s.getD i.toNat default)) () (fun _ => rfl) (fun _ _ => rfl) ((((s.length : Nat) : Int) - 0).toNat) 0
 unfold sc_Contains_string sc_Index_string
 rw [Bool.eq_iff_iff, List.any_eq_true]
 rcases this with ⟨j, e, j1, j2, j3⟩ | ⟨e, h⟩
 ·rw [e]; exact ⟨fun _ => ⟨s.getD j.toNat default, getD_mem (by omega), by rw [beq_iff_eq] at j3 ⊢; exact j3.symm⟩, fun _ => by simpa using j1⟩
 ·rw [e]
  refine ⟨fun h => by simp at h, ?_⟩
  rintro ⟨x, hx, hfx⟩
  obtain ⟨j, j1, j2, j3⟩ := (mem_getDg (d := default)).1 hx
  have := h j j1 (by omega)
  rw [j3] at this; rw [beq_iff_eq] at hfx; rw [hfx] at this; simp at this
theorem part_eq (c : Int) : lx_part c = (r4_letter c || r4_digit c) := by
 unfold lx_part lx_letter lx_digit r4_letter r4_digit
 dsimp only
 generalize decide (97 ≤ c) = a1
 generalize decide (c ≤ 122) = a2
 generalize decide (65 ≤ c) = a3
 generalize decide (c ≤ 90) = a4
 generalize decide (48 ≤ c) = a5
 generalize decide (c ≤ 57) = a6
 generalize (c == 95) = a7
 all_goals (cases a1 <;> cases a2 <;> cases a3 <;> cases a4 <;> cases a5 <;> cases a6 <;> cases a7 <;> rfl)
theorem IsName4 (s : Str) : r4_IsName s = (decide (1 ≤ s.b.length ∧ s.b.length ≤ 16) && ((r4_letter ((s.b.getD 0 0).toNat : Int) && !(((s.b.getD 0 0).toNat : Int) == 95)) && ((s.b.all fun c => lx_part (c.toNat : Int)) && !(kwL.any fun k => k == s)))) := by
 have l0 : r4_IsName_L0 s ((s.b.length : Int) - 0).toNat 0 = if (s.b.all fun c => lx_part (c.toNat : Int)) = true then .brk () else .ret false :=
  allL (r4_IsName_L0 s) (fun i => by rw [r4_IsName_L0]) fun r i h0 h1 => by
   rw [r4_IsName_L0, show (default : UInt8) = 0 from rfl, part_eq]
   dsimp only
   all_goals (cases r4_letter ((s.b.getD (i : Int).toNat 0).toNat : Int) <;> cases r4_digit ((s.b.getD (i : Int).toNat 0).toNat : Int) <;> rfl)
 have l1 : r4_IsName_L1 s ((r4_Keywords.length : Int) - 0).toNat 0 = if (r4_Keywords.all fun k => !(k == s)) = true then .brk () else .ret false :=
  allL (r4_IsName_L1 s) (fun i => by rw [r4_IsName_L1]) fun r i h0 h1 => by
   rw [r4_IsName_L1]
   all_goals (cases r4_Keywords.getD (i : Int).toNat default == s <;> rfl)
 have e : (r4_Keywords.all fun k => !(k == s)) = !(kwL.any fun k => k == s) := by
  rw [List.any_eq_not_all_not, Bool.not_not]; rfl
 unfold r4_IsName
 dsimp only
 rw [l0, l1, e, show (0 : Int).toNat = 0 from rfl]
 by_cases h0 : ((s.b.length : Nat) : Int) = 0
 ·have : ¬ (1 ≤ s.b.length ∧ s.b.length ≤ 16) := by omega
  simp only [h0, this, decide_false, Bool.false_and]; rfl
 by_cases h1 : 16 < ((s.b.length : Nat) : Int)
 ·have : ¬ (1 ≤ s.b.length ∧ s.b.length ≤ 16) := by omega
  simp only [h1, this, decide_false, decide_true, Bool.false_and, cond_true]
  all_goals (cases ((s.b.length : Nat) : Int) == 0 <;> rfl)
 have h2 : (1 ≤ s.b.length ∧ s.b.length ≤ 16) := by omega
 have h3 : (((s.b.length : Nat) : Int) == 0) = false := by simpa using h0
 simp only [h3, h1, h2, decide_true, decide_false, cond_false, Bool.true_and, and_self]
 all_goals (cases r4_letter ((s.b.getD 0 0).toNat : Int) <;> cases (((s.b.getD 0 0).toNat : Int) == 95) <;> cases (s.b.all fun c => lx_part (c.toNat : Int)) <;> cases (kwL.any fun k => k == s) <;> rfl)
theorem IsName_16 {s : Str} (h : r4_IsName s = true) : 1 ≤ s.b.length ∧ s.b.length ≤ 16 := by
 rw [IsName4, Bool.and_eq_true] at h
 exact of_decide_eq_true h.1
theorem Valid_uses {p : GProgram} (hv : r4_Valid p = true) : ∀ f ∈ p.Funcs, ∀ b ∈ f.Blocks, ∀ s ∈ b.Stmts, ∀ u ∈ s.Uses, u ≠ Str.mk [] := fun f hf b hb s hs u hu => by
 rw [PVal_eq] at hv
 simp only [Bool.and_eq_true, List.all_eq_true] at hv
 have := IsName_16 ((stmtOK_n (((hv.2 f hf).2.2 b hb).2.2 s hs)).2.1 u hu)
 intro e
 rw [e] at this
 simp at this
theorem wordEnd_all (s : Str) : (lx_wordEnd s 0 == ((s.b.length : Nat) : Int)) = s.b.all (fun c => lx_part (c.toNat : Int)) := by
 have key : ∀ (suf pre : List UInt8), s.b = pre ++ suf → (lx_wordEnd_L0 s suf.length (pre.length : Int) == ((s.b.length : Nat) : Int)) = suf.all (fun c => lx_part (c.toNat : Int)) := fun suf => by
  induction suf with
  | nil => intro pre h; rw [List.length_nil, lx_wordEnd_L0, h, List.append_nil, List.all_nil]; simp
  | cons a suf ih =>
   intro pre h
   have hg : s.b.getD ((pre.length : Int)).toNat 0 = a := by rw [h]; simp
   have hlen : s.b.length = pre.length + (suf.length + 1) := by rw [h]; simp
   rw [List.length_cons, lx_wordEnd_L0, hg, List.all_cons]
   try dsimp only
   cases hp : lx_part (a.toNat : Int)
   ·rw [cond_false, Bool.false_and, hlen]; simp; omega
   ·rw [cond_true, Bool.true_and]
    have := ih (pre ++ [a]) (by rw [h]; simp)
    rw [List.length_append, List.length_cons, List.length_nil, Int.natCast_add] at this
    exact this
 have := key s.b [] rfl
 unfold lx_wordEnd
 rw [show (((s.b.length : Nat) : Int) - 0).toNat = s.b.length by omega]
 exact this
theorem IsName_eq (s : Str) : lx_IsName s = r4_IsName s := by
 rw [IsName4]
 unfold lx_IsName
 dsimp only
 rw [wordEnd_all, letter_eq, Cont_string, show (0 : Int).toNat = 0 from rfl]
 by_cases h0 : s = Str.mk []
 ·subst h0; rfl
 have hs : (s == Str.mk []) = false := by simpa using h0
 have hp := str_pos hs
 rw [hs, cond_false]
 by_cases h1 : 16 < ((s.b.length : Nat) : Int)
 ·have : ¬ (1 ≤ s.b.length ∧ s.b.length ≤ 16) := by omega
  simp only [h1, this, decide_false, decide_true, Bool.false_and, cond_true]
 have h2 : (1 ≤ s.b.length ∧ s.b.length ≤ 16) := by omega
 simp only [h1, h2, decide_true, decide_false, cond_false, Bool.true_and, and_self]
 all_goals (cases r4_letter ((s.b.getD 0 0).toNat : Int) <;> cases (((s.b.getD 0 0).toNat : Int) == 95) <;> cases (s.b.all fun c => lx_part (c.toNat : Int)) <;> cases (kwL.any fun k => k == s) <;> rfl)
theorem IsName_fun : lx_IsName = r4_IsName := funext IsName_eq
theorem CF_Stmt (s : List GStmt) (fp : GStmt → Bool) : sc_ContainsFunc_Stmt s fp = s.any fp := by
 have := scan' (fun r i => sc_IndexFunc_Stmt_L0 s fp r i) (fun i => fp (s.getD i.toNat default)) () (fun _ => rfl) (fun _ _ => rfl) ((((s.length : Nat) : Int) - 0).toNat) 0
 unfold sc_ContainsFunc_Stmt sc_IndexFunc_Stmt
 rw [Bool.eq_iff_iff, List.any_eq_true]
 rcases this with ⟨j, e, j1, j2, j3⟩ | ⟨e, h⟩
 ·rw [e]; exact ⟨fun _ => ⟨_, getD_mem (by omega), j3⟩, fun _ => by simpa using j1⟩
 ·rw [e]
  refine ⟨fun h => by simp at h, ?_⟩
  rintro ⟨x, hx, hfx⟩
  obtain ⟨j, j1, j2, j3⟩ := (mem_getDg (d := default)).1 hx
  have := h j j1 (by omega)
  rw [j3] at this; rw [hfx] at this; cases this
theorem CF_string (s : List Str) (fp : Str → Bool) : sc_ContainsFunc_string s fp = s.any fp := by
 have := scan' (fun r i => sc_IndexFunc_string_L0 s fp r i) (fun i => fp (s.getD i.toNat default)) () (fun _ => rfl) (fun _ _ => rfl) ((((s.length : Nat) : Int) - 0).toNat) 0
 unfold sc_ContainsFunc_string sc_IndexFunc_string
 rw [Bool.eq_iff_iff, List.any_eq_true]
 rcases this with ⟨j, e, j1, j2, j3⟩ | ⟨e, h⟩
 ·rw [e]; exact ⟨fun _ => ⟨_, getD_mem (by omega), j3⟩, fun _ => by simpa using j1⟩
 ·rw [e]
  refine ⟨fun h => by simp at h, ?_⟩
  rintro ⟨x, hx, hfx⟩
  obtain ⟨j, j1, j2, j3⟩ := (mem_getDg (d := default)).1 hx
  have := h j j1 (by omega)
  rw [j3] at this; rw [hfx] at this; cases this
theorem words_eq (l : List Str) : (!(sc_ContainsFunc_string l (fun x => sx_valid_1 x))) = l.all r4_IsName := by
 rw [CF_string, List.all_eq_not_any_not]
 congr 2
 funext x
 unfold sx_valid_1
 dsimp only
 rw [IsName_eq]
theorem valid_b {s : GStmt} (h : sx_valid s = true) : s.Uses.length ≤ 4 ∧ s.Targets.length ≤ 2 := by
  unfold sx_valid at h
  dsimp only at h
  generalize (sc_ContainsFunc_string (sc_Clone_string s.Uses ++ s.Targets ++ [s.Def]) fun x => sx_valid_1 x) = A at h
  generalize (sc_ContainsFunc_string (sc_Clone_string s.Uses ++ s.Targets) fun x => sx_valid_1 x) = B at h
  generalize s.Uses.length = U at *
  generalize s.Targets.length = V at *
  have kf : ∀ (c x : Bool), (bif c then x else false) = (c && x) := fun c x => by cases c <;> rfl
  simp only [kf] at h
  have kt : ∀ (c x y : Bool), (bif c then x else y) = true → (c = true ∧ x = true) ∨ (c = false ∧ y = true) := fun c x y h => by
    cases c
    · exact .inr ⟨rfl, h⟩
    · exact .inl ⟨rfl, h⟩
  have kn : ∀ {P : Prop} {c x y : Bool}, (bif c then x else y) = true → (x = true → P) → (y = true → P) → P := fun {P c x y} h k1 k2 => by
    cases c
    · exact k2 h
    · exact k1 h
  iterate 9
    first
    | (refine kn h (fun h => ?_) (fun h => ?_)
       · simp only [Bool.and_eq_true, beq_iff_eq, decide_eq_true_eq] at h; omega)
    | skip
  all_goals (simp only [Bool.and_eq_true, beq_iff_eq, decide_eq_true_eq] at h; omega)
theorem valid_ok (s : GStmt) : sx_valid s = r4_stmtOK s := by
 obtain ⟨o, d, us, ts⟩ := s
 unfold sx_valid r4_stmtOK sc_Clone_string
 dsimp only
 rw [nmOK_eq, nmOK_eq]
 simp only [words_eq, List.all_append, List.all_cons, List.all_nil, Bool.and_true]
 generalize us.all r4_IsName = U
 generalize ts.all r4_IsName = T
 generalize r4_IsName d = D
 generalize (d == Str.mk []) = E
 generalize us.length = u
 generalize ts.length = t
 have kf : ∀ (c x : Bool), (bif c then x else false) = (c && x) := fun c x => by cases c <;> rfl
 have kn : ∀ (c x : Bool), (bif !c then false else x) = (c && x) := fun c x => by cases c <;> rfl
 simp only [kf, kn]
 have fin : ∀ {a b : Bool}, (a = true ↔ b = true) → a = b := fun h => Bool.eq_iff_iff.2 h
 by_cases h1 : o = 1
 ·subst h1
  cases U <;> cases T <;> cases D <;> refine fin ?_ <;> simp <;> omega
 by_cases h2 : o = 2
 ·subst h2
  cases U <;> cases T <;> cases E <;> refine fin ?_ <;> simp <;> omega
 by_cases h3 : o = 3
 ·subst h3
  cases U <;> cases T <;> cases E <;> refine fin ?_ <;> simp <;> omega
 by_cases h4 : o = 4
 ·subst h4
  cases U <;> cases T <;> cases D <;> refine fin ?_ <;> simp <;> omega
 by_cases h5 : o = 5
 ·subst h5
  cases U <;> cases T <;> cases E <;> refine fin ?_ <;> simp <;> omega
 by_cases h6 : o = 6
 ·subst h6
  cases U <;> cases T <;> cases D <;> refine fin ?_ <;> simp <;> omega
 by_cases h7 : o = 7
 ·subst h7
  cases U <;> cases T <;> cases E <;> refine fin ?_ <;> simp <;> omega
 by_cases h8 : o = 8
 ·subst h8
  cases U <;> cases T <;> cases E <;> refine fin ?_ <;> simp <;> omega
 by_cases h9 : o = 9
 ·subst h9
  cases U <;> cases T <;> cases E <;> refine fin ?_ <;> simp <;> omega
 have f : ∀ {k : Int}, ¬ o = k → (o == k) = false := fun h => by simpa using h
 simp only [f h1, f h2, f h3, f h4, f h5, f h6, f h7, f h8, f h9, cond_false, Bool.false_and, Bool.and_false]
theorem SVal_eq (p : GProgram) : sx_Valid p = (decide (1 ≤ p.Funcs.length ∧ p.Funcs.length ≤ 8) && p.Funcs.all fun f => lx_IsName f.Name && (decide (1 ≤ f.Blocks.length ∧ f.Blocks.length ≤ 16) && f.Blocks.all fun b => lx_IsName b.Name && (decide (1 ≤ b.Stmts.length ∧ b.Stmts.length ≤ 32) && b.Stmts.all sx_valid))) := by
 have l2 : ∀ (b : List GStmt), sc_ContainsFunc_Stmt b (fun x => sx_Valid_1 x) = !(b.all sx_valid) := fun b => by
  rw [CF_Stmt, List.all_eq_not_any_not, Bool.not_not]
  congr 1
 have l1 : ∀ (f : List GBlock), sx_Valid_L1 f ((f.length : Int) - 0).toNat 0 = if (f.all fun b => lx_IsName b.Name && (decide (1 ≤ b.Stmts.length ∧ b.Stmts.length ≤ 32) && b.Stmts.all sx_valid)) = true then .brk () else .ret false := fun f =>
  allL (sx_Valid_L1 f) (fun i => by rw [sx_Valid_L1]) fun r i h0 h1 => by
   rw [sx_Valid_L1]
   generalize hb : f.getD i.toNat default = b
   have e := l2 b.Stmts
   simp only [Bool.cond_eq_ite]
   cases hN : lx_IsName b.Name
   ·simp
   by_cases h1 : ((b.Stmts.length : Nat) : Int) < 1
   ·have : ¬ (1 ≤ b.Stmts.length ∧ b.Stmts.length ≤ 32) := by omega
    simp [h1, this]
   by_cases h2 : (32 : Int) < ((b.Stmts.length : Nat) : Int)
   ·have : ¬ (1 ≤ b.Stmts.length ∧ b.Stmts.length ≤ 32) := by omega
    simp [h1, h2, this]
   have h3 : (1 ≤ b.Stmts.length ∧ b.Stmts.length ≤ 32) := by omega
   rw [e]
   simp only [h1, h2, decide_false, h3, decide_true, Bool.not_true, Bool.true_and, and_self, reduceIte, Bool.false_eq_true]
   all_goals (cases b.Stmts.all sx_valid <;> rfl)
 have l0 : sx_Valid_L0 p ((p.Funcs.length : Int) - 0).toNat 0 = if (p.Funcs.all fun f => lx_IsName f.Name && (decide (1 ≤ f.Blocks.length ∧ f.Blocks.length ≤ 16) && f.Blocks.all fun b => lx_IsName b.Name && (decide (1 ≤ b.Stmts.length ∧ b.Stmts.length ≤ 32) && b.Stmts.all sx_valid))) = true then .brk () else .ret false :=
  allL (sx_Valid_L0 p) (fun i => by rw [sx_Valid_L0]) fun r i h0 h1 => by
   rw [sx_Valid_L0]
   generalize hb : p.Funcs.getD i.toNat default = f
   have e := l1 f.Blocks
   simp only [Bool.cond_eq_ite]
   cases hN : lx_IsName f.Name
   ·simp
   by_cases h1 : ((f.Blocks.length : Nat) : Int) < 1
   ·have : ¬ (1 ≤ f.Blocks.length ∧ f.Blocks.length ≤ 16) := by omega
    simp [h1, this]
   by_cases h2 : (16 : Int) < ((f.Blocks.length : Nat) : Int)
   ·have : ¬ (1 ≤ f.Blocks.length ∧ f.Blocks.length ≤ 16) := by omega
    simp [h1, h2, this]
   have h3 : (1 ≤ f.Blocks.length ∧ f.Blocks.length ≤ 16) := by omega
   rw [e]
   simp only [h1, h2, decide_false, h3, decide_true, Bool.not_true, Bool.true_and, and_self, reduceIte, Bool.false_eq_true]
   all_goals (generalize (f.Blocks.all _) = q; cases q <;> rfl)
 rw [sx_Valid]
 by_cases h1 : ((p.Funcs.length : Nat) : Int) < 1
 ·have : ¬ (1 ≤ p.Funcs.length ∧ p.Funcs.length ≤ 8) := by omega
  simp [h1, this]
 by_cases h2 : (8 : Int) < ((p.Funcs.length : Nat) : Int)
 ·have : ¬ (1 ≤ p.Funcs.length ∧ p.Funcs.length ≤ 8) := by omega
  simp [h1, h2, this]
 have h3 : (1 ≤ p.Funcs.length ∧ p.Funcs.length ≤ 8) := by omega
 rw [l0]
 simp only [h1, h2, h3, decide_false, decide_true, cond_false, Bool.true_and, and_self]
 all_goals (generalize (p.Funcs.all _) = q; cases q <;> rfl)
theorem SVal_b {p : GProgram} (h : sx_Valid p = true) : p.Funcs.length ≤ 8 ∧ ∀ i : Nat, (p.Funcs.getD i default).Blocks.length ≤ 16 ∧ ∀ k : Nat, ((p.Funcs.getD i default).Blocks.getD k default).Stmts.length ≤ 32 ∧ ∀ j : Nat, (((p.Funcs.getD i default).Blocks.getD k default).Stmts.getD j default).Uses.length ≤ 4 ∧ (((p.Funcs.getD i default).Blocks.getD k default).Stmts.getD j default).Targets.length ≤ 2 := by
 rw [SVal_eq] at h
 simp only [Bool.and_eq_true, decide_eq_true_eq, List.all_eq_true] at h
 have gm : ∀ {α : Type} [Inhabited α] (l : List α) (i : Nat), l.getD i default ∈ l ∨ l.getD i default = default := fun l i => by
  by_cases hi : i < l.length
  ·left; rw [List.getD_eq_getElem?_getD, List.getElem?_eq_getElem hi]; exact List.getElem_mem hi
  ·right; rw [List.getD_eq_getElem?_getD, List.getElem?_eq_none (by omega)]; rfl
 refine ⟨h.1.2, fun i => ?_⟩
 rcases gm p.Funcs i with hf | hf
 ·have hF := (h.2 _ hf).2
  refine ⟨hF.1.2, fun k => ?_⟩
  rcases gm (p.Funcs.getD i default).Blocks k with hb | hb
  ·have hB := (hF.2 _ hb).2
   refine ⟨hB.1.2, fun j => ?_⟩
   rcases gm ((p.Funcs.getD i default).Blocks.getD k default).Stmts j with hs | hs
   ·exact valid_b (hB.2 _ hs)
   ·rw [hs]; decide
  ·rw [hb]
   exact ⟨by decide, fun j => by rw [show (default : GBlock).Stmts = [] from rfl]; simp; decide⟩
 ·rw [hf]
  refine ⟨by decide, fun k => ?_⟩
  rw [show (default : GFunc).Blocks = [] from rfl]
  exact ⟨by simp; decide, fun j => by simp [show (default : GBlock).Stmts = [] from rfl]; decide⟩
theorem Valid_eq (p : GProgram) : sx_Valid p = r4_Valid p := by
 rw [SVal_eq, PVal_eq, IsName_fun, show sx_valid = r4_stmtOK from funext valid_ok]
theorem nodupF (l : List GFunc) (nm : GFunc → Str) (nn : Int → Str) (h3 : l.length ≤ 3) (hn : ∀ j : Nat, j < l.length → nm (l.getD j default) = nn (j : Int)) (inj : ∀ {i j : Int}, 0 ≤ i ∧ i < 3 → 0 ≤ j ∧ j < 3 → nn i = nn j → i = j) : ∀ (r : Nat) (m : List (Str × Bool)) (v : Int), 0 ≤ v → v + (r : Int) = (l.length : Int) → (∀ s, (mget m s).getD false = true ↔ ∃ j : Int, 0 ≤ j ∧ j < v ∧ s = nn j) →
  (vd_duplicate_Func_L0 l nm r m (-1) v).2 = -1 ∧ ∀ s, (mget (vd_duplicate_Func_L0 l nm r m (-1) v).1 s).getD false = true ↔ ∃ j : Int, 0 ≤ j ∧ j < (l.length : Int) ∧ s = nn j
 | 0, m, v, h0, h1, h => by
  rw [vd_duplicate_Func_L0]
  refine ⟨rfl, fun s => ?_⟩
  rw [h, show v = (l.length : Int) by omega]
 | r + 1, m, v, h0, h1, h => by
  rw [vd_duplicate_Func_L0]
  have e : nm (l.getD v.toNat default) = nn v := by rw [hn _ (by omega), show ((v.toNat : Nat) : Int) = v by omega]
  rw [e]
  have hf : (mget m (nn v)).getD false = false := by
   rw [Bool.eq_false_iff]
   intro hc
   obtain ⟨j, j1, j2, j3⟩ := (h _).1 hc
   have := inj (by omega) (by omega) j3
   omega
  rw [hf, cond_false]
  refine nodupF l nm nn h3 hn inj r _ _ (by omega) (by omega) fun s => ?_
  rw [mget_mset]
  by_cases es : nn v = s
  ·rw [if_pos es]
   exact ⟨fun _ => ⟨v, h0, by omega, es.symm⟩, fun _ => rfl⟩
  ·rw [if_neg es, h]
   constructor
   ·rintro ⟨j, j1, j2, j3⟩; exact ⟨j, j1, by omega, j3⟩
   ·rintro ⟨j, j1, j2, j3⟩
    refine ⟨j, j1, ?_, j3⟩
    rcases Int.lt_or_le j v with h' | h'
    ·exact h'
    ·exact absurd (by rw [show v = j by omega]; exact j3.symm) es
theorem nodupB (l : List GBlock) (nm : GBlock → Str) (nn : Int → Str) (h3 : l.length ≤ 3) (hn : ∀ j : Nat, j < l.length → nm (l.getD j default) = nn (j : Int)) (inj : ∀ {i j : Int}, 0 ≤ i ∧ i < 3 → 0 ≤ j ∧ j < 3 → nn i = nn j → i = j) : ∀ (r : Nat) (m : List (Str × Bool)) (v : Int), 0 ≤ v → v + (r : Int) = (l.length : Int) → (∀ s, (mget m s).getD false = true ↔ ∃ j : Int, 0 ≤ j ∧ j < v ∧ s = nn j) →
  (vd_duplicate_Block_L0 l nm r m (-1) v).2 = -1 ∧ ∀ s, (mget (vd_duplicate_Block_L0 l nm r m (-1) v).1 s).getD false = true ↔ ∃ j : Int, 0 ≤ j ∧ j < (l.length : Int) ∧ s = nn j
 | 0, m, v, h0, h1, h => by
  rw [vd_duplicate_Block_L0]
  refine ⟨rfl, fun s => ?_⟩
  rw [h, show v = (l.length : Int) by omega]
 | r + 1, m, v, h0, h1, h => by
  rw [vd_duplicate_Block_L0]
  have e : nm (l.getD v.toNat default) = nn v := by rw [hn _ (by omega), show ((v.toNat : Nat) : Int) = v by omega]
  rw [e]
  have hf : (mget m (nn v)).getD false = false := by
   rw [Bool.eq_false_iff]
   intro hc
   obtain ⟨j, j1, j2, j3⟩ := (h _).1 hc
   have := inj (by omega) (by omega) j3
   omega
  rw [hf, cond_false]
  refine nodupB l nm nn h3 hn inj r _ _ (by omega) (by omega) fun s => ?_
  rw [mget_mset]
  by_cases es : nn v = s
  ·rw [if_pos es]
   exact ⟨fun _ => ⟨v, h0, by omega, es.symm⟩, fun _ => rfl⟩
  ·rw [if_neg es, h]
   constructor
   ·rintro ⟨j, j1, j2, j3⟩; exact ⟨j, j1, by omega, j3⟩
   ·rintro ⟨j, j1, j2, j3⟩
    refine ⟨j, j1, ?_, j3⟩
    rcases Int.lt_or_le j v with h' | h'
    ·exact h'
    ·exact absurd (by rw [show v = j by omega]; exact j3.symm) es
def iS (nf : Int) (s : GStmt) : Prop := (r4_stmtOK s = true ∧ vS s) ∧ vd_terminator s = false ∧ (s.Op = 3 → ∃ j, 0 ≤ j ∧ j < nf ∧ s.Targets = [fNm j]) ∧ (s.Op ≠ 3 → s.Targets = [])
def lS (nb : Int) (s : GStmt) : Prop := (r4_stmtOK s = true ∧ vS s) ∧ vd_terminator s = true ∧ s.Op ≠ 3 ∧ ∀ t ∈ s.Targets, ∃ j, 0 ≤ j ∧ j < nb ∧ t = bNm j
def DrB (nf nb k : Int) (b : GBlock) : Prop := b.Name = bNm k ∧ ∃ a z, b.Stmts = a ++ [z] ∧ a.length ≤ 3 ∧ (∀ s ∈ a, iS nf s) ∧ lS nb z
def DrF (nf i : Int) (f : GFunc) : Prop := f.Name = fNm i ∧ (1 ≤ f.Blocks.length ∧ f.Blocks.length ≤ 3) ∧ ∀ k : Nat, k < f.Blocks.length → DrB nf (f.Blocks.length : Int) (k : Int) (f.Blocks.getD k default)
def DrP (p : GProgram) : Prop := (1 ≤ p.Funcs.length ∧ p.Funcs.length ≤ 3) ∧ ∀ i : Nat, i < p.Funcs.length → DrF (p.Funcs.length : Int) (i : Int) (p.Funcs.getD i default)
theorem DrF_B {nf i : Int} {f : GFunc} (h : DrF nf i f) {k : Int} (hk : 0 ≤ k ∧ k < (f.Blocks.length : Int)) : DrB nf (f.Blocks.length : Int) k (f.Blocks.getD k.toNat default) := by
 have := h.2.2 k.toNat (by omega)
 rw [show ((k.toNat : Nat) : Int) = k by omega] at this
 exact this
theorem DrP_F {p : GProgram} (h : DrP p) {k : Int} (hk : 0 ≤ k ∧ k < (p.Funcs.length : Int)) : DrF (p.Funcs.length : Int) k (p.Funcs.getD k.toNat default) := by
 have := h.2 k.toNat (by omega)
 rw [show ((k.toNat : Nat) : Int) = k by omega] at this
 exact this
theorem DrB_s {nf nb k : Int} {b : GBlock} (h : DrB nf nb k b) : (1 ≤ b.Stmts.length ∧ b.Stmts.length ≤ 4) ∧ ∀ s ∈ b.Stmts, r4_stmtOK s = true ∧ vS s := by
 obtain ⟨_, a, z, e, h1, h2, h3⟩ := h
 rw [e]
 refine ⟨by simp; omega, fun s hs => ?_⟩
 rcases List.mem_append.1 hs with h' | h'
 ·exact (h2 s h').1
 ·rw [List.mem_singleton.1 h']; exact h3.1
theorem DrP_Valid {p : GProgram} (h : DrP p) : r4_Valid p = true := by
 rw [PVal_eq]
 simp only [Bool.and_eq_true, decide_eq_true_eq, List.all_eq_true]
 refine ⟨by have := h.1; omega, ?_⟩
 have hn := h.1
 refine all_of_getD fun i hi => ?_
 have hF := h.2 i hi
 refine ⟨by rw [hF.1]; exact fNm_ok (by omega), by have := hF.2.1; omega, ?_⟩
 have hm := hF.2.1
 refine all_of_getD fun k hk => ?_
 have hB := hF.2.2 k hk
 have hs := DrB_s hB
 exact ⟨by rw [hB.1]; exact bNm_ok (by omega), by omega, fun s hh => (hs.2 s hh).1⟩
theorem DrP_v {p : GProgram} (hp : DrP p) : ∀ f ∈ p.Funcs, ∀ b ∈ f.Blocks, ∀ s ∈ b.Stmts, vS s :=
 all_of_getD fun i hi => all_of_getD fun k hk => fun s hs => ((DrB_s ((hp.2 i hi).2.2 k hk)).2 s hs).2
theorem DrP_smF {p : GProgram} (hp : DrP p) : ∀ f ∈ p.Funcs, smF f := all_of_getD fun i hi =>
 ⟨(hp.2 i hi).2.1.2, all_of_getD fun k hk => ((DrB_s ((hp.2 i hi).2.2 k hk)).1).2⟩
theorem st_ok {s : GStmt} {last : Bool} {m : List (Str × Bool)} (h1 : vd_terminator s = last) (h2 : ∀ t ∈ s.Targets, (mget m t).getD false = true) : vd_statement s last m = 0 := by
 have l0 : ∀ (r : Nat) (v : Int), 0 ≤ v → v + (r : Int) = (s.Targets.length : Int) → vd_statement_L0 s m r v = .brk () := fun r => by
  induction r with
  | zero => intro v _ _; rw [vd_statement_L0]
  | succ r ih =>
   intro v h0 h1
   rw [vd_statement_L0, h2 _ (getD_mem (by omega))]
   exact ih _ (by omega) (by omega)
 unfold vd_statement
 dsimp only
 rw [h1, l0 _ 0 (by omega) (by omega)]
 all_goals (cases last <;> rfl)
theorem fn_ok {nf i : Int} {f : GFunc} (h : DrF nf i f) (m : List (Str × Bool)) (hm : ∀ j : Int, 0 ≤ j → j < nf → (mget m (fNm j)).getD false = true) : (vd_function f i m).2 = 0 := by
 have hd := nodupB f.Blocks (fun x0 => vd_function_1 x0) bNm h.2.1.2 (fun j hj => (h.2.2 j hj).1) (fun a b c => bNm_inj a b c) (((f.Blocks.length : Nat) : Int) - 0).toNat [] 0 (by omega) (by omega) (fun s => ⟨fun h => (by cases h), fun ⟨j, a, b, _⟩ => (by omega)⟩)
 unfold vd_function vd_duplicate_Block
 dsimp only
 generalize vd_duplicate_Block_L0 f.Blocks (fun x0 => vd_function_1 x0) (((f.Blocks.length : Nat) : Int) - 0).toNat [] (-1) 0 = R at hd ⊢
 obtain ⟨mb, at_⟩ := R
 dsimp only at hd ⊢
 obtain ⟨rfl, hd⟩ := hd
 have l1 : ∀ (k : Int) (S : List GStmt), DrB nf (f.Blocks.length : Int) k (GBlock.mk (bNm k) S) → ∀ (r : Nat) (v : Int), 0 ≤ v → v + (r : Int) = (S.length : Int) → vd_function_L1 i m mb k S S r v = .brk () := fun k S hS r => by
  obtain ⟨_, a, z, e, h1, h2, h3⟩ := hS
  dsimp only at e
  induction r with
  | zero => intro v _ _; rw [vd_function_L1]
  | succ r ih =>
   intro v h0 hv
   rw [vd_function_L1]
   have hlen : S.length = a.length + 1 := by rw [e]; simp
   rw [ih (v + 1) (by omega) (by omega)]
   by_cases hz : v = (a.length : Int)
   ·have es : S.getD v.toNat default = z := by rw [e, hz]; simp
    have eb : (v == (((S.length : Nat) : Int) - 1)) = true := by rw [beq_iff_eq]; omega
    have eo : (z.Op == 3) = false := by simpa using h3.2.2.1
    rw [es, eb, eo]
    dsimp only [cond_false]
    rw [st_ok h3.2.1 (fun t ht => by obtain ⟨j, a1, a2, a3⟩ := h3.2.2.2 t ht; exact (hd t).2 ⟨j, a1, a2, a3⟩)]
    rfl
   ·have es : S.getD v.toNat default = a.getD v.toNat default := by
     rw [e, List.getD_eq_getElem?_getD, List.getElem?_append_left (by omega), List.getD_eq_getElem?_getD]
    have eb : (v == (((S.length : Nat) : Int) - 1)) = false := by rw [Bool.eq_false_iff]; intro hc; rw [beq_iff_eq] at hc; omega
    have hs := h2 _ (getD_mem (xs := a) (i := v.toNat) (d := default) (by omega))
    rw [es, eb]
    generalize a.getD v.toNat default = s at hs
    cases eo : s.Op == 3
    ·dsimp only [cond_false]
     rw [st_ok hs.2.1 (fun t ht => by rw [hs.2.2.2 (by simpa using eo)] at ht; cases ht)]
     rfl
    ·dsimp only [cond_true]
     obtain ⟨j, a1, a2, a3⟩ := hs.2.2.1 (by simpa using eo)
     rw [st_ok hs.2.1 (fun t ht => by rw [a3, List.mem_singleton] at ht; rw [ht]; exact hm j a1 a2)]
     rfl
 have l0 : ∀ (r : Nat) (v : Int), 0 ≤ v → v + (r : Int) = (f.Blocks.length : Int) → vd_function_L0 f i m mb r v = .brk () := fun r => by
  induction r with
  | zero => intro v _ _; rw [vd_function_L0]
  | succ r ih =>
   intro v h0 hv
   have hB := DrF_B h (k := v) (by omega)
   rw [vd_function_L0, l1 v _ (by obtain ⟨h1, h2⟩ := hB; exact ⟨rfl, h2⟩) _ 0 (by omega) (by omega)]
   exact ih _ (by omega) (by omega)
 rw [l0 _ 0 (by omega) (by omega)]
 rfl
theorem sz2 (S : List GStmt) : ∀ (r : Nat) (a b v : Int), (vd_each_Sizes_1_L2 S r a b v).1 ≤ a + 2 * (r : Int) ∧ (vd_each_Sizes_1_L2 S r a b v).2 ≤ b + 3 * (r : Int)
 | 0, a, b, v => by
  -- vd_Sizes is behind
  rw [vd_each_Sizes_1_L2]; exact ⟨by simp, by simp⟩
 | r + 1, a, b, v => by
  rw [vd_each_Sizes_1_L2]
  try dsimp only
  have h := sz2 S r (vd_Sizes_1 (S.getD v.toNat default) a b).1 (vd_Sizes_1 (S.getD v.toNat default) a b).2 (v + 1)
  have hs : (vd_Sizes_1 (S.getD v.toNat default) a b).1 ≤ a + 2 ∧ (vd_Sizes_1 (S.getD v.toNat default) a b).2 ≤ b + 3 := by
   unfold vd_Sizes_1
   cases (S.getD v.toNat default).Op == 3
   ·cases (S.getD v.toNat default).Op == 8 <;> (simp only [cond_false, cond_true]; omega)
   ·simp only [cond_true]; omega
  omega
theorem sz1 {nf i : Int} {f : GFunc} (hf : DrF nf i f) : ∀ (r : Nat) (a b v : Int), 0 ≤ v → v + (r : Int) = (f.Blocks.length : Int) → (vd_each_Sizes_1_L1 f.Blocks r a b v).1 ≤ a + 8 * (r : Int) ∧ (vd_each_Sizes_1_L1 f.Blocks r a b v).2 ≤ b + 12 * (r : Int)
 | 0, a, b, v, _, _ => by
  -- vd_Sizes is behind
  rw [vd_each_Sizes_1_L1]; exact ⟨by simp, by simp⟩
 | r + 1, a, b, v, h0, h1 => by
  rw [vd_each_Sizes_1_L1]
  have hb := (DrB_s (DrF_B hf (k := v) (by omega))).1
  have h2 := sz2 ((f.Blocks.getD v.toNat default).Stmts) ((((f.Blocks.getD v.toNat default).Stmts.length : Nat) : Int) - 0).toNat a b 0
  rcases e : vd_each_Sizes_1_L2 ((f.Blocks.getD v.toNat default).Stmts) ((((f.Blocks.getD v.toNat default).Stmts.length : Nat) : Int) - 0).toNat a b 0 with ⟨x, y⟩
  rw [e] at h2
  dsimp only at h2 ⊢
  have h := sz1 hf r x y (v + 1) (by omega) (by omega)
  omega
theorem sz0 {p : GProgram} (hp : DrP p) : ∀ (r : Nat) (a b v : Int), 0 ≤ v → v + (r : Int) = (p.Funcs.length : Int) → (vd_each_Sizes_1_L0 p r a b v).1 ≤ a + 24 * (r : Int) ∧ (vd_each_Sizes_1_L0 p r a b v).2 ≤ b + 36 * (r : Int)
 | 0, a, b, v, _, _ => by
  -- vd_Sizes is behind
  rw [vd_each_Sizes_1_L0]; exact ⟨by simp, by simp⟩
 | r + 1, a, b, v, h0, h1 => by
  rw [vd_each_Sizes_1_L0]
  have hF := DrP_F hp (k := v) (by omega)
  have hb := hF.2.1
  have h2 := sz1 hF ((((p.Funcs.getD v.toNat default).Blocks.length : Nat) : Int) - 0).toNat a b 0 (by omega) (by omega)
  rcases e : vd_each_Sizes_1_L1 ((p.Funcs.getD v.toNat default).Blocks) ((((p.Funcs.getD v.toNat default).Blocks.length : Nat) : Int) - 0).toNat a b 0 with ⟨x, y⟩
  rw [e] at h2
  dsimp only at h2 ⊢
  have h := sz0 hp r x y (v + 1) (by omega) (by omega)
  omega
theorem sizes_ok {p : GProgram} (hp : DrP p) : (vd_Sizes p).1 ≤ 100 ∧ (vd_Sizes p).2 ≤ 200 := by
 have h := sz0 hp ((((p.Funcs.length : Nat) : Int) - 0).toNat) (2 * ((p.Funcs.length : Nat) : Int)) ((p.Funcs.length : Nat) : Int) 0 (by omega) (by omega)
 have hl := hp.1
 unfold vd_Sizes vd_each_Sizes_1
 rw [(Valid_eq p).trans (DrP_Valid hp)]
 dsimp only
 simp only [Bool.not_true, cond_false]
 omega
theorem vi1 {n : Str} {m : List (Str × Bool)} {o : List Str} (h : VI (m, o)) (hn : n = Str.mk [] ∨ n ∈ N4) : VI (vd_Variables_1 n m o) := by
 obtain ⟨h1, h2, h3⟩ := h
 dsimp only at h1 h2 h3
 unfold vd_Variables_1
 cases e : n != Str.mk []
 ·exact ⟨h1, h2, h3⟩
 have hm : n ∈ N4 := by
  rcases hn with h | h
  ·rw [h] at e; simp at e
  ·exact h
 cases e2 : (mget m n).getD false
 ·refine ⟨fun s hs => ?_, ?_, fun s hs => ?_⟩
  ·show (mget (mset m n true) s).getD false = true
   rw [mget_mset]
   by_cases es : n = s
   ·rw [if_pos es]; rfl
   ·rw [if_neg es]
    rcases List.mem_append.1 hs with h' | h'
    ·exact h1 s h'
    ·exact absurd (List.mem_singleton.1 h').symm es
  ·refine List.nodup_append.2 ⟨h2, by simp, fun a ha b hb => ?_⟩
   rw [List.mem_singleton.1 hb]
   intro e3
   rw [e3] at ha
   rw [h1 n ha] at e2
   cases e2
  ·rcases List.mem_append.1 hs with h' | h'
   ·exact h3 s h'
   ·rw [List.mem_singleton.1 h']; exact hm
 ·exact ⟨h1, h2, h3⟩
theorem viS {s : GStmt} (hs : vS s) {m : List (Str × Bool)} {o : List Str} (h : VI (m, o)) : VI (vd_Variables_2_Variables_1 s m o) := by
 have l0 : ∀ (r : Nat) (m : List (Str × Bool)) (o : List Str) (v : Int), VI (m, o) → 0 ≤ v → v + (r : Int) = (s.Uses.length : Int) → VI (vd_Variables_2_Variables_1_L0 s r m o v) := fun r => by
  -- vd_Variables is behind
  induction r with
  | zero => intro m o v h _ _; rw [vd_Variables_2_Variables_1_L0]; exact h
  | succ r ih =>
   intro m o v h h0 h1
   rw [vd_Variables_2_Variables_1_L0]
   exact ih _ _ _ (vi1 h (.inr (hs.2.1 _ (getD_mem (by omega))))) (by omega) (by omega)
 unfold vd_Variables_2_Variables_1
 exact l0 _ _ _ 0 (vi1 h hs.1) (by omega) (by omega)
theorem vi2 (S : List GStmt) (hs : ∀ s ∈ S, vS s) : ∀ (r : Nat) (m : List (Str × Bool)) (o : List Str) (v : Int), VI (m, o) → 0 ≤ v → v + (r : Int) = (S.length : Int) → VI (vd_each_Variables_2_L2 S r m o v)
 | 0, m, o, v, h, _, _ => by
  -- vd_Variables is behind
  rw [vd_each_Variables_2_L2]; exact h
 | r + 1, m, o, v, h, h0, h1 => by
  rw [vd_each_Variables_2_L2]
  exact vi2 S hs r _ _ _ (viS (hs _ (getD_mem (by omega))) h) (by omega) (by omega)
theorem vi3 (S : List GBlock) (hs : ∀ b ∈ S, ∀ s ∈ b.Stmts, vS s) : ∀ (r : Nat) (m : List (Str × Bool)) (o : List Str) (v : Int), VI (m, o) → 0 ≤ v → v + (r : Int) = (S.length : Int) → VI (vd_each_Variables_2_L1 S r m o v)
 | 0, m, o, v, h, _, _ => by
  -- vd_Variables is behind
  rw [vd_each_Variables_2_L1]; exact h
 | r + 1, m, o, v, h, h0, h1 => by
  rw [vd_each_Variables_2_L1]
  exact vi3 S hs r _ _ _ (vi2 _ (hs _ (getD_mem (by omega))) _ _ _ 0 h (by omega) (by omega)) (by omega) (by omega)
theorem vi4 (p : GProgram) (hs : ∀ f ∈ p.Funcs, ∀ b ∈ f.Blocks, ∀ s ∈ b.Stmts, vS s) : ∀ (r : Nat) (m : List (Str × Bool)) (o : List Str) (v : Int), VI (m, o) → 0 ≤ v → v + (r : Int) = (p.Funcs.length : Int) → VI (vd_each_Variables_2_L0 p r m o v)
 | 0, m, o, v, h, _, _ => by
  -- vd_Variables is behind
  rw [vd_each_Variables_2_L0]; exact h
 | r + 1, m, o, v, h, h0, h1 => by
  rw [vd_each_Variables_2_L0]
  exact vi4 p hs r _ _ _ (vi3 _ (hs _ (getD_mem (by omega))) _ _ _ 0 h (by omega) (by omega)) (by omega) (by omega)
theorem vars_ok {p : GProgram} (hp : DrP p) : (vd_Variables p).length ≤ 4 := by
 have h := vi4 p (DrP_v hp) ((((p.Funcs.length : Nat) : Int) - 0).toNat) [] [] 0 ⟨fun s h => (by cases h), List.nodup_nil, fun s h => (by cases h)⟩ (by omega) (by omega)
 unfold vd_Variables vd_each_Variables_2
 rw [(Valid_eq p).trans (DrP_Valid hp)]
 dsimp only
 simp only [Bool.not_true, cond_false]
 exact nodup_N4 _ h.2.1 h.2.2
theorem check_ok {p : GProgram} (hp : DrP p) : (vd_Check p).2 = 0 := by
 have hd := nodupF p.Funcs (fun x0 => vd_Check_1 x0) fNm hp.1.2 (fun j hj => (hp.2 j hj).1) (fun a b c => fNm_inj a b c) (((p.Funcs.length : Nat) : Int) - 0).toNat [] 0 (by omega) (by omega) (fun s => ⟨fun h => (by cases h), fun ⟨j, a, b, _⟩ => (by omega)⟩)
 have hv := vars_ok hp
 have hs := sizes_ok hp
 unfold vd_Check vd_duplicate_Func
 dsimp only
 rw [(Valid_eq p).trans (DrP_Valid hp)]
 generalize vd_duplicate_Func_L0 p.Funcs (fun x0 => vd_Check_1 x0) (((p.Funcs.length : Nat) : Int) - 0).toNat [] (-1) 0 = R at hd ⊢
 obtain ⟨mb, at_⟩ := R
 dsimp only at hd ⊢
 obtain ⟨rfl, hd⟩ := hd
 have l0 : ∀ (r : Nat) (v : Int), 0 ≤ v → v + (r : Int) = (p.Funcs.length : Int) → vd_Check_L0 p mb r v = .brk () := fun r => by
  induction r with
  | zero => intro v _ _; rw [vd_Check_L0]
  | succ r ih =>
   intro v h0 h1
   rw [vd_Check_L0, fn_ok (DrP_F hp (k := v) (by omega)) mb (fun j j0 j1 => (hd _).2 ⟨j, j0, j1, rfl⟩)]
   exact ih _ (by omega) (by omega)
 rw [l0 _ 0 (by omega) (by omega)]
 have e1 : decide (64 < (((vd_Variables p).length : Nat) : Int)) = false := decide_eq_false (by omega)
 have e2 : decide (256 < (vd_Sizes p).1) = false := decide_eq_false (by omega)
 have e3 : decide (1024 < (vd_Sizes p).2) = false := decide_eq_false (by omega)
 dsimp only
 rw [e1, e2, e3]
 rfl
theorem Check_b {p : GProgram} {r : GNode × Int} (h : vd_Check p = r) (h2 : (r.2 != 0) = false) : sx_Valid p = true := by
 subst h
 cases e : sx_Valid p
 ·unfold vd_Check at h2
  rw [e] at h2
  cases h2
 ·rfl
theorem list2 (i k : Int) (S : List GStmt) : ∀ (r : Nat) (o : List GNode) (v : Int), 0 ≤ v → v + (r : Int) = (S.length : Int) → nd_List_L2 i k S r o v = o ++ nS i k v (S.drop v.toNat)
 | 0, o, v, h0, h1 => by rw [nd_List_L2, List.drop_eq_nil_of_le (by omega), nS, List.append_nil]
 | r + 1, o, v, h0, h1 => by
  rw [nd_List_L2, list2 i k S r _ _ (by omega) (by omega), list2 i k S r _ _ (by omega) (by omega), getD_dropz h0 (by omega), nS]
  cases (S.getD v.toNat default).Op == 3 <;> simp
theorem list1 (i : Int) (S : List GBlock) : ∀ (r : Nat) (o : List GNode) (v : Int), 0 ≤ v → v + (r : Int) = (S.length : Int) → nd_List_L1 i S r o v = o ++ nB i v (S.drop v.toNat)
 | 0, o, v, h0, h1 => by rw [nd_List_L1, List.drop_eq_nil_of_le (by omega), nB, List.append_nil]
 | r + 1, o, v, h0, h1 => by
  rw [nd_List_L1, list2 i v _ _ _ 0 (by omega) (by omega)]
  try dsimp only
  rw [list1 i S r _ _ (by omega) (by omega), getD_dropz h0 (by omega), nB]
  simp
theorem list0 (p : GProgram) : ∀ (r : Nat) (o : List GNode) (v : Int), 0 ≤ v → v + (r : Int) = (p.Funcs.length : Int) → nd_List_L0 p r o v = o ++ nF v (p.Funcs.drop v.toNat)
 | 0, o, v, h0, h1 => by rw [nd_List_L0, List.drop_eq_nil_of_le (by omega), nF, List.append_nil]
 | r + 1, o, v, h0, h1 => by
  rw [nd_List_L0, list1 v _ _ _ 0 (by omega) (by omega)]
  try dsimp only
  rw [list0 p r _ _ (by omega) (by omega), getD_dropz h0 (by omega), nF]
  simp
theorem List_eq (p : GProgram) : nd_List p = bif (vd_Check p).2 != 0 then [] else nF 0 p.Funcs := by
 unfold nd_List
 dsimp only
 rw [list0 p _ [] 0 (by omega) (by omega)]
 rfl
theorem List_in {p : GProgram} {n : GNode} (h : n ∈ nd_List p) : NIn p n := by
 rw [List_eq] at h
 cases e : (vd_Check p).2 != 0
 ·have hv := SVal_b (Check_b rfl e)
  rw [e, cond_false] at h
  obtain ⟨a1, a2⟩ := nF_in p.Funcs 0 n h
  rw [show (n.Func - 0) = n.Func by omega] at a2
  refine ⟨by omega, fun h1 h2 => ?_⟩
  obtain ⟨_, b1, b2, b3⟩ := a2 h1 h2
  have := ((hv.2 n.Func.toNat).2 n.Block.toNat).1
  exact ⟨b1, ⟨b2, b3⟩, by omega⟩
 ·rw [e] at h; cases h
theorem List_dr {p : GProgram} (hp : DrP p) : nd_List p = nF 0 p.Funcs := by
 rw [List_eq, check_ok hp]; rfl
theorem find0 (n : GNode) (l : List GNode) : ∀ (r : Nat) (v : Int), 0 ≤ v → v + (r : Int) = (l.length : Int) → (∃ j, v ≤ j ∧ j < (l.length : Int) ∧ nd_Find_L0 n l r v = .ret j ∧ l.getD j.toNat default = n ∧ ∀ i, v ≤ i → i < j → l.getD i.toNat default ≠ n) ∨ (nd_Find_L0 n l r v = .brk () ∧ ∀ i, v ≤ i → i < (l.length : Int) → l.getD i.toNat default ≠ n)
 | 0, v, h0, h1 => .inr ⟨by rw [nd_Find_L0], fun i a b => by omega⟩
 | r + 1, v, h0, h1 => by
  have ee : ∀ m : GNode, ([m.Kind, m.Func, m.Block, m.Stmt] == [n.Kind, n.Func, n.Block, n.Stmt]) = true ↔ m = n := fun m => by
   obtain ⟨a, b, c, d⟩ := m
   obtain ⟨a', b', c', d'⟩ := n
   simp
  rw [nd_Find_L0]
  cases e : [(l.getD (v : Int).toNat default).Kind, (l.getD (v : Int).toNat default).Func, (l.getD (v : Int).toNat default).Block, (l.getD (v : Int).toNat default).Stmt] == [n.Kind, n.Func, n.Block, n.Stmt]
  ·have hne : l.getD v.toNat default ≠ n := fun h => by rw [(ee _).2 h] at e; cases e
   rcases find0 n l r (v + 1) (by omega) (by omega) with ⟨j, j1, j2, j3, j4, j5⟩ | ⟨j1, j2⟩
   ·refine .inl ⟨j, by omega, j2, j3, j4, fun i a b => ?_⟩
    by_cases hi : i = v
    ·rw [hi]; exact hne
    ·exact j5 i (by omega) b
   ·refine .inr ⟨j1, fun i a b => ?_⟩
    by_cases hi : i = v
    ·rw [hi]; exact hne
    ·exact j2 i (by omega) b
  ·exact .inl ⟨v, by omega, by omega, rfl, (ee _).1 e, fun i a b => by omega⟩
theorem Find_in {p : GProgram} {n : GNode} {r : Int} (h : nd_Find p n = r) (hr : decide (r < 0) = false) : NIn p n := by
 have hr := of_decide_eq_false hr
 subst h
 unfold nd_Find at hr
 dsimp only at hr
 rcases find0 n (nd_List p) ((((nd_List p).length : Nat) : Int) - 0).toNat 0 (by omega) (by omega) with ⟨j, j1, j2, j3, j4, j5⟩ | ⟨j1, j2⟩
 ·rw [← j4]; exact List_in (getD_mem (by omega))
 ·rw [j1] at hr; exact absurd (by decide) hr
theorem Find_at {p : GProgram} (hp : DrP p) {i : Int} (hi : 0 ≤ i ∧ i < ((nd_List p).length : Int)) : nd_Find p ((nd_List p).getD i.toNat default) = i := by
 have hw : (nd_List p).Pairwise (fun x y => key x < key y) := by rw [List_dr hp]; exact nF_pw _ _ (DrP_smF hp)
 unfold nd_Find
 dsimp only
 rcases find0 ((nd_List p).getD i.toNat default) (nd_List p) ((((nd_List p).length : Nat) : Int) - 0).toNat 0 (by omega) (by omega) with ⟨j, j1, j2, j3, j4, j5⟩ | ⟨j1, j2⟩
 ·rw [j3]
  dsimp only
  rcases Int.lt_trichotomy i j with h | h | h
  ·exact absurd rfl (j5 i hi.1 h)
  ·exact h.symm
  ·have := pw_getD hw (i := j.toNat) (j := i.toNat) (by omega) (by omega)
   rw [j4] at this
   omega
 ·exact absurd rfl (j2 i hi.1 hi.2)
theorem Find_mem {p : GProgram} (hp : DrP p) {n : GNode} (h : n ∈ nd_List p) : decide (nd_Find p n < 0) = false := by
 obtain ⟨i, hi, e⟩ := mem_at h
 rw [← e, Find_at hp hi]
 exact decide_eq_false (by omega)
theorem Stmt_at {p : GProgram} (hp : DrP p) {n : GNode} (h : n ∈ nd_List p) (hk : n.Kind = 3 ∨ n.Kind = 4) : nd_Stmt p n = ((((p.Funcs.getD (n.Func : Int).toNat default).Blocks).getD (n.Block : Int).toNat default).Stmts.getD (n.Stmt : Int).toNat default, true) := by
 have hi : nd_inside n = true := by
  unfold nd_inside
  rcases hk with e | e <;> rw [e] <;> rfl
 unfold nd_Stmt
 dsimp only
 rw [hi, Find_mem hp h]
 rfl
theorem fnames_eq (p : GProgram) : r4_funcNames p = p.Funcs.map (fun x => x.Name) :=
 appL (xs := p.Funcs) (g := fun x : GFunc => x.Name) (r4_funcNames_L0 p) (fun _ _ => by rw [r4_funcNames_L0]) (fun r b j _ _ => by rw [r4_funcNames_L0])
theorem place_neg (l : List Str) (s : Str) : decide (r4_Place l s < 0) = !(l.any (fun x => x == s)) := by
 have h0 : r4_Place_L0 l s ((l.length : Int) - 0).toNat 0 = .brk () ∧ l.any (fun x => x == s) = false ∨ ∃ j, 0 ≤ j ∧ r4_Place_L0 l s ((l.length : Int) - 0).toNat 0 = .ret j ∧ l.any (fun x => x == s) = true := by
  have key : ∀ (r : Nat) (i : Int), 0 ≤ i → i + (r : Int) = (l.length : Int) → (r4_Place_L0 l s r i = .brk () ∧ (l.drop i.toNat).any (fun x => x == s) = false) ∨ ∃ j, 0 ≤ j ∧ r4_Place_L0 l s r i = .ret j ∧ (l.drop i.toNat).any (fun x => x == s) = true := fun r => by
   induction r with
   | zero => intro i a b; rw [r4_Place_L0, List.drop_eq_nil_of_le (by omega)]; exact .inl ⟨rfl, rfl⟩
   | succ r ih =>
    intro i a b
    rw [r4_Place_L0, getD_dropz a (by omega), List.any_cons]
    cases e : (l.getD i.toNat default) == s
    ·rw [cond_false, Bool.false_or]; exact ih _ (by omega) (by omega)
    ·exact .inr ⟨i, a, rfl, rfl⟩
  have := key ((l.length : Int) - 0).toNat 0 (by omega) (by omega)
  rw [show (0 : Int).toNat = 0 from rfl, List.drop_zero] at this
  exact this
 unfold r4_Place
 rcases h0 with ⟨e1, e2⟩ | ⟨j, j0, e1, e2⟩
 ·rw [e1, e2]; rfl
 ·rw [e1, e2]; simp; omega
theorem place_ge (l : List Str) (s : Str) : decide (0 ≤ r4_Place l s) = l.any (fun x => x == s) := by
 have h := place_neg l s
 cases e : l.any (fun x => x == s)
 ·rw [e] at h; have := of_decide_eq_true h; exact decide_eq_false (by omega)
 ·rw [e] at h; have := of_decide_eq_false h; exact decide_eq_true (by omega)
theorem v1_eq {n : Str} {m : List (Str × Bool)} {o : List Str} (h : KN m o) (hn : n ≠ Str.mk []) : (vd_Variables_1 n m o).2 = (bif decide (r4_Place o n < 0) then o ++ [n] else o) ∧ KN (vd_Variables_1 n m o).1 (vd_Variables_1 n m o).2 := by
 have e1 : (n != Str.mk []) = true := by simpa using hn
 unfold vd_Variables_1
 rw [e1, cond_true, place_neg, ← h n]
 cases (mget m n).getD false
 ·exact ⟨rfl, KN_set h n⟩
 ·exact ⟨rfl, h⟩
theorem ixS_eq (l : List Str) (v : Str) : sc_Index_string l v = r4_Place l v := by
 have h : ∀ (r : Nat) (i : Int), sc_Index_string_L0 l v r i = r4_Place_L0 l v r i := fun r => by
  induction r with
  | zero => intro i; rw [sc_Index_string_L0, r4_Place_L0]
  | succ r ih => intro i; rw [sc_Index_string_L0, r4_Place_L0, ih, show (v == l.getD i.toNat default) = (l.getD i.toNat default == v) from BEq.comm]
 unfold sc_Index_string r4_Place
 rw [h]
 all_goals rfl
theorem dupF_rep (l : List GFunc) (nm : GFunc → Str) : ∀ (r : Nat) (m : List (Str × Bool)) (a v : Int), 0 ≤ v → v + (r : Int) = (l.length : Int) → KN m ((l.map nm).take v.toNat) →
  (vd_duplicate_Func_L0 l nm r m a v).2 = (if 0 ≤ a then a else match r4_repeated_L0 (l.map nm) r v with | .ret j => j | _ => a) ∧ KN (vd_duplicate_Func_L0 l nm r m a v).1 (l.map nm)
 | 0, m, a, v, h0, h1, h => by
  rw [vd_duplicate_Func_L0, r4_repeated_L0]
  rw [List.take_of_length_le (by rw [List.length_map]; omega)] at h
  exact ⟨by simp, h⟩
 | r + 1, m, a, v, h0, h1, h => by
  have hk : KN (mset m (nm (l.getD v.toNat default)) true) ((l.map nm).take (v + 1).toNat) := by
   have := KN_set h (nm (l.getD v.toNat default))
   rw [show (v + 1).toNat = v.toNat + 1 by omega, List.take_add_one, List.getElem?_map, List.getElem?_eq_getElem (show v.toNat < l.length by omega)]
   have e : l.getD v.toNat default = l[v.toNat]'(by omega) := by rw [List.getD_eq_getElem?_getD, List.getElem?_eq_getElem (show v.toNat < l.length by omega)]; rfl
   rw [show ∀ x, (Option.map nm (some x)).toList = [nm x] from fun _ => rfl, ← e]
   exact this
  have hq : (mget m (nm (l.getD v.toNat default))).getD false = decide (0 ≤ r4_Place (((l.map nm).take ((v : Int).toNat)).drop 0) ((l.map nm).getD v.toNat default)) := by
   rw [place_ge, List.drop_zero, ← h, getD_mapz (d := default) (by omega)]
  rw [vd_duplicate_Func_L0, r4_repeated_L0]
  try dsimp only
  rw [← hq]
  cases (mget m (nm (l.getD v.toNat default))).getD false
  ·simp only [cond_false]
   exact dupF_rep l nm r _ a (v + 1) (by omega) (by omega) hk
  ·simp only [cond_true]
   by_cases ha : a < 0
   ·rw [decide_eq_true ha, cond_true]
    have := dupF_rep l nm r (mset m (nm (l.getD v.toNat default)) true) v (v + 1) (by omega) (by omega) hk
    rw [if_pos h0] at this
    rw [if_neg (by omega)]
    exact this
   ·rw [decide_eq_false ha, cond_false]
    have := dupF_rep l nm r (mset m (nm (l.getD v.toNat default)) true) a (v + 1) (by omega) (by omega) hk
    rw [if_pos (by omega)] at this ⊢
    exact this
theorem dupB_rep (l : List GBlock) (nm : GBlock → Str) : ∀ (r : Nat) (m : List (Str × Bool)) (a v : Int), 0 ≤ v → v + (r : Int) = (l.length : Int) → KN m ((l.map nm).take v.toNat) →
  (vd_duplicate_Block_L0 l nm r m a v).2 = (if 0 ≤ a then a else match r4_repeated_L0 (l.map nm) r v with | .ret j => j | _ => a) ∧ KN (vd_duplicate_Block_L0 l nm r m a v).1 (l.map nm)
 | 0, m, a, v, h0, h1, h => by
  rw [vd_duplicate_Block_L0, r4_repeated_L0]
  rw [List.take_of_length_le (by rw [List.length_map]; omega)] at h
  exact ⟨by simp, h⟩
 | r + 1, m, a, v, h0, h1, h => by
  have hk : KN (mset m (nm (l.getD v.toNat default)) true) ((l.map nm).take (v + 1).toNat) := by
   have := KN_set h (nm (l.getD v.toNat default))
   rw [show (v + 1).toNat = v.toNat + 1 by omega, List.take_add_one, List.getElem?_map, List.getElem?_eq_getElem (show v.toNat < l.length by omega)]
   have e : l.getD v.toNat default = l[v.toNat]'(by omega) := by rw [List.getD_eq_getElem?_getD, List.getElem?_eq_getElem (show v.toNat < l.length by omega)]; rfl
   rw [show ∀ x, (Option.map nm (some x)).toList = [nm x] from fun _ => rfl, ← e]
   exact this
  have hq : (mget m (nm (l.getD v.toNat default))).getD false = decide (0 ≤ r4_Place (((l.map nm).take ((v : Int).toNat)).drop 0) ((l.map nm).getD v.toNat default)) := by
   rw [place_ge, List.drop_zero, ← h, getD_mapz (d := default) (by omega)]
  rw [vd_duplicate_Block_L0, r4_repeated_L0]
  try dsimp only
  rw [← hq]
  cases (mget m (nm (l.getD v.toNat default))).getD false
  ·simp only [cond_false]
   exact dupB_rep l nm r _ a (v + 1) (by omega) (by omega) hk
  ·simp only [cond_true]
   by_cases ha : a < 0
   ·rw [decide_eq_true ha, cond_true]
    have := dupB_rep l nm r (mset m (nm (l.getD v.toNat default)) true) v (v + 1) (by omega) (by omega) hk
    rw [if_pos h0] at this
    rw [if_neg (by omega)]
    exact this
   ·rw [decide_eq_false ha, cond_false]
    have := dupB_rep l nm r (mset m (nm (l.getD v.toNat default)) true) a (v + 1) (by omega) (by omega) hk
    rw [if_pos (by omega)] at this ⊢
    exact this
theorem rep_noof (l : List Str) : ∀ (r : Nat) (v : Int), r4_repeated_L0 l r v ≠ .oof
 | 0, v => by rw [r4_repeated_L0]; exact fun h => by cases h
 | r + 1, v => by
  rw [r4_repeated_L0]
  try dsimp only
  cases decide (0 ≤ r4_Place ((l.take ((v : Int).toNat)).drop 0) (l.getD (v : Int).toNat default))
  ·exact rep_noof l r (v + 1)
  ·exact fun h => by cases h
theorem rep_of (l : List Str) : r4_repeated l = (match r4_repeated_L0 l (((l.length : Nat) : Int) - 0).toNat 0 with | .ret j => j | _ => -1) := by
 have h := rep_noof l (((l.length : Nat) : Int) - 0).toNat 0
 unfold r4_repeated
 cases e : r4_repeated_L0 l (((l.length : Nat) : Int) - 0).toNat 0 with
 | oof => exact absurd e h
 | brk x => rfl
 | ret x => rfl
theorem rep_F (p : GProgram) : (vd_duplicate_Func p.Funcs (fun x0 => vd_Check_1 x0)).1 = r4_repeated (r4_funcNames p) ∧ KN (vd_duplicate_Func p.Funcs (fun x0 => vd_Check_1 x0)).2 (r4_funcNames p) := by
 have h := dupF_rep p.Funcs (fun x0 => vd_Check_1 x0) (((p.Funcs.length : Nat) : Int) - 0).toNat [] (-1) 0 (by omega) (by omega) (fun s => by rw [show (0 : Int).toNat = 0 from rfl, List.take_zero]; rfl)
 rw [if_neg (by omega)] at h
 rw [fnames_eq, rep_of, List.length_map]
 unfold vd_duplicate_Func
 exact h
theorem bnames_eq (f : GFunc) : r4_BlockNames f = f.Blocks.map (fun x => x.Name) :=
 appL (xs := f.Blocks) (g := fun x : GBlock => x.Name) (r4_BlockNames_L0 f) (fun _ _ => by rw [r4_BlockNames_L0]) (fun r b j _ _ => by rw [r4_BlockNames_L0])
theorem rep_B (f : GFunc) : (vd_duplicate_Block f.Blocks (fun x0 => vd_function_1 x0)).1 = r4_repeated (r4_BlockNames f) ∧ KN (vd_duplicate_Block f.Blocks (fun x0 => vd_function_1 x0)).2 (r4_BlockNames f) := by
 have h := dupB_rep f.Blocks (fun x0 => vd_function_1 x0) (((f.Blocks.length : Nat) : Int) - 0).toNat [] (-1) 0 (by omega) (by omega) (fun s => by rw [show (0 : Int).toNat = 0 from rfl, List.take_zero]; rfl)
 rw [if_neg (by omega)] at h
 rw [bnames_eq, rep_of, List.length_map]
 unfold vd_duplicate_Block
 exact h
theorem stE (s : GStmt) (m : List (Str × Bool)) (l : List Str) (h : KN m l) : ∀ (r : Nat) (v : Int), vd_statement_L0 s m r v = r4_stmtErr_L0 s l r v
 | 0, v => by rw [vd_statement_L0, r4_stmtErr_L0]
 | r + 1, v => by
  rw [vd_statement_L0, r4_stmtErr_L0]
  try dsimp only
  rw [place_neg, h, stE s m l h r (v + 1)]
theorem stmt_eq (p : GProgram) (f : GFunc) (s : GStmt) (last : Bool) (F B : List (Str × Bool)) (hF : KN F (r4_funcNames p)) (hB : KN B (r4_BlockNames f)) : (bif s.Op == 3 then vd_statement s last F else vd_statement s last B) = r4_stmtErr p f s last := by
 have ht : vd_terminator s = r4_Terminator s.Op := rfl
 unfold vd_statement r4_stmtErr
 rw [ht, stE s F _ hF, stE s B _ hB]
 dsimp only
 cases r4_Terminator s.Op == last
 ·cases s.Op == 3 <;> rfl
 ·cases s.Op == 3 <;> rfl
theorem szn2 (i k : Int) (S : List GStmt) : ∀ (r : Nat) (a b v : Int), 0 ≤ v → v + (r : Int) = (S.length : Int) → (r4_Sizes_L2 S r a b v).1 = a + ((nS i k v (S.drop v.toNat)).length : Int)
 | 0, a, b, v, _, _ => by rw [r4_Sizes_L2, List.drop_eq_nil_of_le (by omega), nS]; simp
 | r + 1, a, b, v, h0, h1 => by
  rw [r4_Sizes_L2, getD_dropz h0 (by omega), nS, List.length_append]
  cases e : (S.getD v.toNat default).Op == 3
  ·cases (S.getD v.toNat default).Op == 8
   ·simp only [cond_false]; rw [szn2 i k S r _ _ _ (by omega) (by omega)]; simp; omega
   ·simp only [cond_true, cond_false]; rw [szn2 i k S r _ _ _ (by omega) (by omega)]; simp; omega
  ·simp only [cond_true]; rw [szn2 i k S r _ _ _ (by omega) (by omega)]; simp; omega
theorem szn1 (p : GProgram) (i : Int) : ∀ (r : Nat) (a b v : Int), 0 ≤ v → v + (r : Int) = ((p.Funcs.getD i.toNat default).Blocks.length : Int) → (r4_Sizes_L1 p i r a b v).1 = a + ((nB i v ((p.Funcs.getD i.toNat default).Blocks.drop v.toNat)).length : Int)
 | 0, a, b, v, _, _ => by rw [r4_Sizes_L1, List.drop_eq_nil_of_le (by omega), nB]; simp
 | r + 1, a, b, v, h0, h1 => by
  rw [r4_Sizes_L1, getD_dropz h0 (by omega), nB, List.length_append]
  have h2 := szn2 i v (((p.Funcs.getD i.toNat default).Blocks.getD v.toNat default).Stmts) ((((((p.Funcs.getD i.toNat default).Blocks.getD v.toNat default).Stmts.length : Nat) : Int) - 0).toNat) a b 0 (by omega) (by omega)
  rcases e : r4_Sizes_L2 (((p.Funcs.getD i.toNat default).Blocks.getD v.toNat default).Stmts) ((((((p.Funcs.getD i.toNat default).Blocks.getD v.toNat default).Stmts.length : Nat) : Int) - 0).toNat) a b 0 with ⟨x, y⟩
  rw [e] at h2
  dsimp only at h2 ⊢
  rw [szn1 p i r x y (v + 1) (by omega) (by omega), h2, show (0 : Int).toNat = 0 from rfl, List.drop_zero]
  omega
theorem szn0 (p : GProgram) : ∀ (r : Nat) (a b v : Int), 0 ≤ v → v + (r : Int) = (p.Funcs.length : Int) → (r4_Sizes_L0 p r a b v).1 = a + ((nF v (p.Funcs.drop v.toNat)).length : Int)
 | 0, a, b, v, _, _ => by rw [r4_Sizes_L0, List.drop_eq_nil_of_le (by omega), nF]; simp
 | r + 1, a, b, v, h0, h1 => by
  rw [r4_Sizes_L0, getD_dropz h0 (by omega), nF]
  have h2 := szn1 p v ((((p.Funcs.getD v.toNat default).Blocks.length : Nat) : Int) - 0).toNat (a + 2) (b + 1) 0 (by omega) (by omega)
  rcases e : r4_Sizes_L1 p v ((((p.Funcs.getD v.toNat default).Blocks.length : Nat) : Int) - 0).toNat (a + 2) (b + 1) 0 with ⟨x, y⟩
  rw [e] at h2
  dsimp only at h2 ⊢
  rw [szn0 p r x y (v + 1) (by omega) (by omega), h2, show (0 : Int).toNat = 0 from rfl, List.drop_zero]
  simp
  omega
theorem Sizes_dr {p : GProgram} (hp : DrP p) : (r4_Sizes p).1 = ((nd_List p).length : Int) := by
 have h := szn0 p (((p.Funcs.length : Nat) : Int) - 0).toNat 0 0 0 (by omega) (by omega)
 unfold r4_Sizes
 rw [DrP_Valid hp, List_dr hp]
 dsimp only
 simp only [Bool.not_true, cond_false]
 rw [h]
 simp
theorem zs2 (S : List GStmt) : ∀ (r : Nat) (a b v : Int), vd_each_Sizes_1_L2 S r a b v = r4_Sizes_L2 S r a b v
 | 0, a, b, v => by
  -- vd_Sizes is behind
  rw [vd_each_Sizes_1_L2, r4_Sizes_L2]
 | r + 1, a, b, v => by
  rw [vd_each_Sizes_1_L2, r4_Sizes_L2]
  try dsimp only
  unfold vd_Sizes_1
  cases (S.getD v.toNat default).Op == 3
  ·cases (S.getD v.toNat default).Op == 8
   ·simp only [cond_false]; exact zs2 S r _ _ _
   ·simp only [cond_false, cond_true]; exact zs2 S r _ _ _
  ·simp only [cond_true]; exact zs2 S r _ _ _
theorem zs1 (p : GProgram) (i : Int) : ∀ (r : Nat) (a b v : Int), vd_each_Sizes_1_L1 ((p.Funcs.getD i.toNat default).Blocks) r a b v = r4_Sizes_L1 p i r a b v
 | 0, a, b, v => by
  -- vd_Sizes is behind
  rw [vd_each_Sizes_1_L1, r4_Sizes_L1]
 | r + 1, a, b, v => by
  rw [vd_each_Sizes_1_L1, r4_Sizes_L1, zs2]
  generalize r4_Sizes_L2 _ _ a b 0 = R
  exact zs1 p i r R.1 R.2 (v + 1)
theorem sh2 (S : List GStmt) : ∀ (r : Nat) (a b v c d : Int), r4_Sizes_L2 S r (a + c) (b + d) v = ((r4_Sizes_L2 S r a b v).1 + c, (r4_Sizes_L2 S r a b v).2 + d)
 | 0, a, b, v, c, d => by rw [r4_Sizes_L2, r4_Sizes_L2]
 | r + 1, a, b, v, c, d => by
  rw [r4_Sizes_L2, r4_Sizes_L2]
  cases (S.getD v.toNat default).Op == 3
  ·cases (S.getD v.toNat default).Op == 8
   ·simp only [cond_false]; rw [← sh2 S r, show a + c + 1 = a + 1 + c by omega, show b + d + 1 = b + 1 + d by omega]
   ·simp only [cond_false, cond_true]; rw [← sh2 S r, show a + c + 1 = a + 1 + c by omega, show b + d + 2 = b + 2 + d by omega]
  ·simp only [cond_true]; rw [← sh2 S r, show a + c + 1 + 1 = a + 1 + 1 + c by omega, show b + d + 3 = b + 3 + d by omega]
theorem sh1 (p : GProgram) (i : Int) : ∀ (r : Nat) (a b v c d : Int), r4_Sizes_L1 p i r (a + c) (b + d) v = ((r4_Sizes_L1 p i r a b v).1 + c, (r4_Sizes_L1 p i r a b v).2 + d)
 | 0, a, b, v, c, d => by rw [r4_Sizes_L1, r4_Sizes_L1]
 | r + 1, a, b, v, c, d => by
  rw [r4_Sizes_L1, r4_Sizes_L1, sh2]
  exact sh1 p i r _ _ _ c d
theorem zs0 (p : GProgram) : ∀ (r : Nat) (a b v : Int), vd_each_Sizes_1_L0 p r (a + 2 * (r : Int)) (b + (r : Int)) v = r4_Sizes_L0 p r a b v
 | 0, a, b, v => by
  -- vd_Sizes is behind
  rw [vd_each_Sizes_1_L0, r4_Sizes_L0]; simp
 | r + 1, a, b, v => by
  rw [vd_each_Sizes_1_L0, r4_Sizes_L0, zs1]
  have h := sh1 p v ((((p.Funcs.getD v.toNat default).Blocks.length : Nat) : Int) - 0).toNat (a + 2) (b + 1) 0 (2 * (r : Int)) (r : Int)
  rw [show a + 2 * ((r + 1 : Nat) : Int) = a + 2 + 2 * (r : Int) by omega, show b + ((r + 1 : Nat) : Int) = b + 1 + (r : Int) by omega, h]
  exact zs0 p r _ _ (v + 1)
theorem Sizes_eq (p : GProgram) : vd_Sizes p = r4_Sizes p := by
 unfold vd_Sizes r4_Sizes vd_each_Sizes_1
 rw [Valid_eq]
 cases r4_Valid p
 ·rfl
 ·have h := zs0 p ((((p.Funcs.length : Nat) : Int) - 0).toNat) 0 0 0
  rw [show (((((p.Funcs.length : Nat) : Int) - 0).toNat : Nat) : Int) = ((p.Funcs.length : Nat) : Int) by omega, Int.zero_add, Int.zero_add] at h
  dsimp only
  simp only [Bool.not_true, cond_false]
  rw [h]
theorem nd_small {p : GProgram} (hp : DrP p) : (nd_List p).length ≤ 100 := by
 have h := Sizes_dr hp
 have h2 := sizes_ok hp
 rw [Sizes_eq] at h2
 omega
theorem vU_eq (s : GStmt) (hu : ∀ u ∈ s.Uses, u ≠ Str.mk []) : ∀ (r : Nat) (m : List (Str × Bool)) (o : List Str) (v : Int), KN m o → 0 ≤ v → v + (r : Int) = (s.Uses.length : Int) → (vd_Variables_2_Variables_1_L0 s r m o v).2 = r4_Variables_L3 s.Uses r o v ∧ KN (vd_Variables_2_Variables_1_L0 s r m o v).1 (vd_Variables_2_Variables_1_L0 s r m o v).2
 | 0, m, o, v, h, _, _ => by
  -- vd_Variables is behind
  rw [vd_Variables_2_Variables_1_L0, r4_Variables_L3]; exact ⟨rfl, h⟩
 | r + 1, m, o, v, h, h0, h1 => by
  have h2 := v1_eq h (hu _ (getD_mem (xs := s.Uses) (i := v.toNat) (d := default) (by omega)))
  rw [vd_Variables_2_Variables_1_L0, r4_Variables_L3]
  try dsimp only
  have := vU_eq s hu r _ _ (v + 1) h2.2 (by omega) (by omega)
  refine ⟨this.1.trans ?_, this.2⟩
  rw [h2.1]
  all_goals (cases decide (r4_Place o (s.Uses.getD v.toNat default) < 0) <;> rfl)
theorem l3_cons (d : Str) (us : List Str) (hd : d ≠ Str.mk []) : ∀ (r : Nat) (o : List Str) (v : Int), 0 ≤ v → r4_Variables_L3 ([d] ++ us) r o (v + 1) = r4_Variables_L3 us r o v
 | 0, o, v, _ => by rw [r4_Variables_L3, r4_Variables_L3]
 | r + 1, o, v, h => by
  rw [r4_Variables_L3, r4_Variables_L3]
  have e : ([d] ++ us).getD (v + 1).toNat default = us.getD v.toNat default := by
   rw [show (v + 1).toNat = v.toNat + 1 by omega]; rfl
  try dsimp only
  rw [e, l3_cons d us hd r _ (v + 1) (by omega), l3_cons d us hd r _ (v + 1) (by omega)]
theorem vS_eq (s : GStmt) (hu : ∀ u ∈ s.Uses, u ≠ Str.mk []) {m : List (Str × Bool)} {o : List Str} (h : KN m o) : (vd_Variables_2_Variables_1 s m o).2 = (bif s.Def != Str.mk [] then r4_Variables_L3 ([s.Def] ++ s.Uses) (((((([s.Def] ++ s.Uses).length : Nat) : Int) : Int) - 0).toNat) o 0 else r4_Variables_L3 s.Uses (((((s.Uses.length : Nat) : Int) : Int) - 0).toNat) o 0) ∧ KN (vd_Variables_2_Variables_1 s m o).1 (vd_Variables_2_Variables_1 s m o).2 := by
 -- vd_Variables is behind
 unfold vd_Variables_2_Variables_1
 dsimp only
 cases e : s.Def != Str.mk []
 ·have e2 : vd_Variables_1 s.Def m o = (m, o) := by unfold vd_Variables_1; rw [e]; rfl
  rw [e2, cond_false]
  exact vU_eq s hu _ m o 0 h (by omega) (by omega)
 ·have hd : s.Def ≠ Str.mk [] := by simpa using e
  have h2 := v1_eq h hd
  have := vU_eq s hu (((s.Uses.length : Nat) : Int) - 0).toNat _ _ 0 h2.2 (by omega) (by omega)
  refine ⟨this.1.trans ?_, this.2⟩
  rw [cond_true, show (((((([s.Def] ++ s.Uses).length : Nat) : Int) : Int) - 0).toNat) = (((s.Uses.length : Nat) : Int) - 0).toNat + 1 by simp, r4_Variables_L3]
  try dsimp only
  rw [show ([s.Def] ++ s.Uses).getD (0 : Int).toNat default = s.Def from rfl, l3_cons s.Def s.Uses hd _ _ 0 (by omega), l3_cons s.Def s.Uses hd _ _ 0 (by omega), h2.1]
  all_goals (cases decide (r4_Place o s.Def < 0) <;> rfl)
theorem w2_eq (S : List GStmt) (hu : ∀ s ∈ S, ∀ u ∈ s.Uses, u ≠ Str.mk []) : ∀ (r : Nat) (m : List (Str × Bool)) (o : List Str) (v : Int), KN m o → 0 ≤ v → v + (r : Int) = (S.length : Int) → (vd_each_Variables_2_L2 S r m o v).2 = r4_Variables_L2 S r o v ∧ KN (vd_each_Variables_2_L2 S r m o v).1 (vd_each_Variables_2_L2 S r m o v).2
 | 0, m, o, v, h, _, _ => by
  -- vd_Variables is behind
  rw [vd_each_Variables_2_L2, r4_Variables_L2]; exact ⟨rfl, h⟩
 | r + 1, m, o, v, h, h0, h1 => by
  have h2 := vS_eq _ (hu _ (getD_mem (xs := S) (i := v.toNat) (d := default) (by omega))) h
  rw [vd_each_Variables_2_L2, r4_Variables_L2]
  have := w2_eq S hu r _ _ (v + 1) h2.2 (by omega) (by omega)
  refine ⟨this.1.trans ?_, this.2⟩
  rw [h2.1]
  all_goals (cases (S.getD v.toNat default).Def != Str.mk [] <;> rfl)
theorem w1_eq (p : GProgram) (i : Int) (hu : ∀ b ∈ (p.Funcs.getD i.toNat default).Blocks, ∀ s ∈ b.Stmts, ∀ u ∈ s.Uses, u ≠ Str.mk []) : ∀ (r : Nat) (m : List (Str × Bool)) (o : List Str) (v : Int), KN m o → 0 ≤ v → v + (r : Int) = ((p.Funcs.getD i.toNat default).Blocks.length : Int) → (vd_each_Variables_2_L1 ((p.Funcs.getD i.toNat default).Blocks) r m o v).2 = r4_Variables_L1 p i r o v ∧ KN (vd_each_Variables_2_L1 ((p.Funcs.getD i.toNat default).Blocks) r m o v).1 (vd_each_Variables_2_L1 ((p.Funcs.getD i.toNat default).Blocks) r m o v).2
 | 0, m, o, v, h, _, _ => by
  -- vd_Variables is behind
  rw [vd_each_Variables_2_L1, r4_Variables_L1]; exact ⟨rfl, h⟩
 | r + 1, m, o, v, h, h0, h1 => by
  have h2 := w2_eq _ (hu _ (getD_mem (xs := (p.Funcs.getD i.toNat default).Blocks) (i := v.toNat) (d := default) (by omega))) (((((p.Funcs.getD i.toNat default).Blocks.getD v.toNat default).Stmts.length : Nat) : Int) - 0).toNat m o 0 h (by omega) (by omega)
  rw [vd_each_Variables_2_L1, r4_Variables_L1]
  have := w1_eq p i hu r _ _ (v + 1) h2.2 (by omega) (by omega)
  refine ⟨this.1.trans ?_, this.2⟩
  rw [h2.1]
theorem w0_eq (p : GProgram) (hu : ∀ f ∈ p.Funcs, ∀ b ∈ f.Blocks, ∀ s ∈ b.Stmts, ∀ u ∈ s.Uses, u ≠ Str.mk []) : ∀ (r : Nat) (m : List (Str × Bool)) (o : List Str) (v : Int), KN m o → 0 ≤ v → v + (r : Int) = (p.Funcs.length : Int) → (vd_each_Variables_2_L0 p r m o v).2 = r4_Variables_L0 p r o v
 | 0, m, o, v, h, _, _ => by
  -- vd_Variables is behind
  rw [vd_each_Variables_2_L0, r4_Variables_L0]
 | r + 1, m, o, v, h, h0, h1 => by
  have h2 := w1_eq p v (hu _ (getD_mem (xs := p.Funcs) (i := v.toNat) (d := default) (by omega))) ((((p.Funcs.getD v.toNat default).Blocks.length : Nat) : Int) - 0).toNat m o 0 h (by omega) (by omega)
  rw [vd_each_Variables_2_L0, r4_Variables_L0]
  have := w0_eq p hu r _ _ (v + 1) h2.2 (by omega) (by omega)
  refine this.trans ?_
  rw [h2.1]
theorem Vars_eq (p : GProgram) : vd_Variables p = r4_Variables p := by
 unfold vd_Variables vd_each_Variables_2 r4_Variables
 rw [Valid_eq]
 cases hv : r4_Valid p
 ·rfl
 ·have h := w0_eq p (Valid_uses hv) ((((p.Funcs.length : Nat) : Int) - 0).toNat) [] [] 0 (fun s => rfl) (by omega) (by omega)
  exact h
theorem ckL2 (p : GProgram) (f : GFunc) (i k : Int) (S : List GStmt) (F B : List (Str × Bool)) (hF : KN F (r4_funcNames p)) (hB : KN B (r4_BlockNames f)) : ∀ (r : Nat) (v : Int), vd_function_L1 i F B k S S r v = r4_Check_L2 p i f.Name f.Blocks k S r v
 | 0, v => by rw [vd_function_L1, r4_Check_L2]
 | r + 1, v => by
  rw [vd_function_L1, r4_Check_L2]
  try dsimp only
  rw [← stmt_eq p (GFunc.mk f.Name f.Blocks) _ _ F B hF hB, ckL2 p f i k S F B hF hB r (v + 1)]
  all_goals (cases (S.getD v.toNat default).Op == 3 <;> rfl)
theorem ckL1 (p : GProgram) (f : GFunc) (i : Int) (F B : List (Str × Bool)) (hF : KN F (r4_funcNames p)) (hB : KN B (r4_BlockNames f)) : ∀ (r : Nat) (v : Int), vd_function_L0 f i F B r v = r4_Check_L1 p i f.Name f.Blocks r v
 | 0, v => by rw [vd_function_L0, r4_Check_L1]
 | r + 1, v => by
  rw [vd_function_L0, r4_Check_L1, ckL2 p f i v _ F B hF hB, ckL1 p f i F B hF hB r (v + 1)]
  all_goals (generalize r4_Check_L2 p i f.Name f.Blocks v ((f.Blocks.getD v.toNat default).Stmts) (((((f.Blocks.getD v.toNat default).Stmts.length : Nat) : Int) - 0).toNat) 0 = R; cases R <;> rfl)
theorem ck_ret2 (p : GProgram) (i : Int) (a : Str) (b : List GBlock) (k : Int) (S : List GStmt) : ∀ (r : Nat) (v : Int) (x : GNode × Int), r4_Check_L2 p i a b k S r v = .ret x → (x.2 != 0) = true
 | 0, v, x, h => by rw [r4_Check_L2] at h; cases h
 | r + 1, v, x, h => by
  rw [r4_Check_L2] at h
  try dsimp only at h
  cases e : r4_stmtErr p (GFunc.mk a b) (S.getD v.toNat default) (v == (((S.length : Nat) : Int) - 1)) != 0
  ·rw [e] at h; exact ck_ret2 p i a b k S r _ x h
  ·rw [e] at h; cases h; exact e
theorem ck_noof2 (p : GProgram) (i : Int) (a : Str) (b : List GBlock) (k : Int) (S : List GStmt) : ∀ (r : Nat) (v : Int), r4_Check_L2 p i a b k S r v ≠ .oof
 | 0, v => by rw [r4_Check_L2]; exact fun h => by cases h
 | r + 1, v => by
  rw [r4_Check_L2]
  try dsimp only
  cases r4_stmtErr p (GFunc.mk a b) (S.getD v.toNat default) (v == (((S.length : Nat) : Int) - 1)) != 0
  ·exact ck_noof2 p i a b k S r _
  ·exact fun h => by cases h
theorem ck_ret1 (p : GProgram) (i : Int) (a : Str) (b : List GBlock) : ∀ (r : Nat) (v : Int) (x : GNode × Int), r4_Check_L1 p i a b r v = .ret x → (x.2 != 0) = true
 | 0, v, x, h => by rw [r4_Check_L1] at h; cases h
 | r + 1, v, x, h => by
  rw [r4_Check_L1] at h
  cases e : r4_Check_L2 p i a b v ((b.getD v.toNat default).Stmts) (((((b.getD v.toNat default).Stmts.length : Nat) : Int) - 0).toNat) 0 with
  | oof => rw [e] at h; cases h
  | brk y => rw [e] at h; exact ck_ret1 p i a b r _ x h
  | ret y => rw [e] at h; cases h; exact ck_ret2 _ _ _ _ _ _ _ _ _ e
theorem ck_noof1 (p : GProgram) (i : Int) (a : Str) (b : List GBlock) : ∀ (r : Nat) (v : Int), r4_Check_L1 p i a b r v ≠ .oof
 | 0, v => by rw [r4_Check_L1]; exact fun h => by cases h
 | r + 1, v => by
  rw [r4_Check_L1]
  cases e : r4_Check_L2 p i a b v ((b.getD v.toNat default).Stmts) (((((b.getD v.toNat default).Stmts.length : Nat) : Int) - 0).toNat) 0 with
  | oof => exact absurd e (ck_noof2 _ _ _ _ _ _ _ _)
  | brk y => exact ck_noof1 p i a b r _
  | ret y => exact fun h => by cases h
theorem ckL0' (p : GProgram) (F : List (Str × Bool)) (hF : KN F (r4_funcNames p)) : ∀ (r : Nat) (v : Int), vd_Check_L0 p F r v = r4_Check_L0 p r v
 | 0, v => by rw [vd_Check_L0, r4_Check_L0]
 | r + 1, v => by
  rw [vd_Check_L0, r4_Check_L0]
  try dsimp only
  generalize p.Funcs.getD v.toNat default = f
  have hb := rep_B f
  unfold vd_function
  try dsimp only
  rw [hb.1, ckL1 p f v F _ hF hb.2]
  cases decide (0 ≤ r4_repeated (r4_BlockNames f))
  ·simp only [cond_false]
   cases e : r4_Check_L1 p v f.Name f.Blocks (((f.Blocks.length : Nat) : Int) - 0).toNat 0 with
   | oof => exact absurd e (ck_noof1 _ _ _ _ _ _)
   | brk y => exact ckL0' p F hF r (v + 1)
   | ret y => simp only [ck_ret1 _ _ _ _ _ _ _ e, cond_true]
  ·rfl
theorem Check_eq (p : GProgram) : vd_Check p = r4_Check p := by
 have hr := rep_F p
 unfold vd_Check r4_Check
 rw [Valid_eq, Sizes_eq, Vars_eq]
 dsimp only
 rw [hr.1, ckL0' p _ hr.2]
 all_goals (generalize r4_Check_L0 p (((p.Funcs.length : Nat) : Int) - 0).toNat 0 = R; cases R <;> rfl)
theorem ll2 (i k : Int) (S : List GStmt) : ∀ (r : Nat) (o : List GNode) (v : Int), nd_List_L2 i k S r o v = r7_List_L2 i k S r o v
 | 0, o, v => by rw [nd_List_L2, r7_List_L2]
 | r + 1, o, v => by rw [nd_List_L2, r7_List_L2, ll2 i k S r, ll2 i k S r]
theorem ll1 (p : GProgram) (i : Int) : ∀ (r : Nat) (o : List GNode) (v : Int), nd_List_L1 i ((p.Funcs.getD i.toNat default).Blocks) r o v = r7_List_L1 p i r o v
 | 0, o, v => by rw [nd_List_L1, r7_List_L1]
 | r + 1, o, v => by
  rw [nd_List_L1, r7_List_L1, ll2]
  exact ll1 p i r _ _
theorem ll0 (p : GProgram) : ∀ (r : Nat) (o : List GNode) (v : Int), nd_List_L0 p r o v = r7_List_L0 p r o v
 | 0, o, v => by rw [nd_List_L0, r7_List_L0]
 | r + 1, o, v => by
  rw [nd_List_L0, r7_List_L0, ll1]
  exact ll0 p r _ _
theorem List7_eq (p : GProgram) : r7_List p = nd_List p := by
 unfold r7_List nd_List
 rw [Check_eq]
 dsimp only
 rw [ll0]
theorem ix_eq (n : GNode) (l : List GNode) : ∀ (r : Nat) (v : Int), nd_Find_L0 n l r v = r7_Index_L0 l n r v
 | 0, v => by rw [nd_Find_L0, r7_Index_L0]
 | r + 1, v => by rw [nd_Find_L0, r7_Index_L0, ix_eq n l r]
theorem Find7_eq (p : GProgram) (n : GNode) : r7_Find p n = nd_Find p n := by
 unfold r7_Find nd_Find r7_Index
 dsimp only
 rw [List7_eq, ix_eq]
 all_goals (generalize r7_Index_L0 (nd_List p) n _ 0 = R; cases R <;> rfl)
theorem Stmt7_eq (p : GProgram) (n : GNode) : r7_Stmt p n = nd_Stmt p n := by
 unfold r7_Stmt nd_Stmt nd_inside
 dsimp only
 rw [Find7_eq]
 by_cases h3 : n.Kind = 3
 ·have e3 : (n.Kind == 3) = true := by simpa using h3
  have e3' : (n.Kind != 3) = false := by simpa using h3
  rw [e3, e3']
  all_goals (cases decide (nd_Find p n < 0) <;> rfl)
 ·have e3 : (n.Kind == 3) = false := by simpa using h3
  have e3' : (n.Kind != 3) = true := by simpa using h3
  rw [e3, e3']
  by_cases h4 : n.Kind = 4
  ·have e4 : (n.Kind == 4) = true := by simpa using h4
   have e4' : (n.Kind != 4) = false := by simpa using h4
   rw [e4, e4']
   all_goals (cases decide (nd_Find p n < 0) <;> rfl)
  ·have e4 : (n.Kind == 4) = false := by simpa using h4
   have e4' : (n.Kind != 4) = true := by simpa using h4
   rw [e4, e4']
   all_goals (cases decide (nd_Find p n < 0) <;> rfl)
theorem Defines_def {s : GStmt} (h : r4_stmtOK s = true) : r4_Defines s = (s.Def != Str.mk []) := by
 have n0 : r4_IsName (Str.mk []) = false := by kernel_rfl
 have hn : r4_IsName s.Def = true → (s.Def != Str.mk []) = true := fun h => by
  rw [bne_iff_ne]; intro e; rw [e, n0] at h; cases h
 have hz : (s.Def == Str.mk []) = true → (s.Def != Str.mk []) = false := fun h => by simp [bne, h]
 unfold r4_stmtOK at h
 unfold r4_Defines
 dsimp only at h
 generalize r4_namesOK s.Uses 0 4 = a1 at h
 generalize r4_namesOK s.Targets 0 2 = a2 at h
 cases a1
 ·cases h
 cases a2
 ·cases h
 simp only [Bool.not_true, cond_false] at h
 cases e1 : (s.Op == 1) with
 | true =>
  rw [e1] at h; cases e : r4_IsName s.Def
  ·rw [e] at h; cases h
  ·rw [hn e]; rfl
 | false =>
 rw [e1, cond_false] at h
 cases e2 : (s.Op == 2) with
 | true =>
  have o := eq_of_beq e2
  rw [e2, cond_true] at h; cases e : (s.Def == Str.mk [])
  ·rw [e] at h; cases h
  ·rw [hz e, o]; rfl
 | false =>
 rw [e2, cond_false] at h
 cases e5 : (s.Op == 5) with
 | true =>
  have o := eq_of_beq e5
  rw [e5, cond_true] at h; cases e : (s.Def == Str.mk [])
  ·rw [e] at h; cases h
  ·rw [hz e, o]; rfl
 | false =>
 rw [e5, cond_false] at h
 cases e3 : (s.Op == 3) with
 | true =>
  have o := eq_of_beq e3
  rw [e3, cond_true] at h; cases e : (s.Def == Str.mk [])
  ·rw [e] at h; cases h
  ·rw [hz e, o]; rfl
 | false =>
 rw [e3, cond_false] at h
 cases e7 : (s.Op == 7) with
 | true =>
  have o := eq_of_beq e7
  rw [e7, cond_true] at h; cases e : (s.Def == Str.mk [])
  ·rw [e] at h; cases h
  ·rw [hz e, o]; rfl
 | false =>
 rw [e7, cond_false] at h
 cases e4 : (s.Op == 4) with
 | true =>
  rw [e4, cond_true] at h; cases e : r4_IsName s.Def
  ·rw [e] at h; cases h
  ·rw [hn e]; rfl
 | false =>
 rw [e4, cond_false] at h
 cases e6 : (s.Op == 6) with
 | true =>
  rw [e6, cond_true] at h; cases e : r4_IsName s.Def
  ·rw [e] at h; cases h
  ·rw [hn e]; rfl
 | false =>
 rw [e6, cond_false] at h
 simp only [cond_false]
 have : (s.Def == Str.mk []) = true := by
  cases e : (s.Def == Str.mk []) with
  | true => rfl
  | false =>
   rw [e] at h
   revert h
   generalize (s.Op == 8) = b
   generalize (s.Op == 9) = b'
   intro h
   cases b <;> (try cases b') <;> simp_all
 rw [hz this]
theorem Stmt_none {p : GProgram} {n : GNode} (h : (nd_Stmt p n).2 = false) : r4_Defines (nd_Stmt p n).1 = false := by
 unfold nd_Stmt at *
 dsimp only at *
 cases e : nd_inside n
 ·rfl
 ·rw [e] at h
  simp only [Bool.not_true, cond_false] at *
  cases e : decide (nd_Find p n < 0)
  ·rw [e] at h; cases h
  ·rfl
def isDef (p : GProgram) (n : GNode) : Bool := (r7_Stmt p n).2 && ((n.Kind == 3) && r4_Defines (r7_Stmt p n).1)
theorem isDef_eq {p : GProgram} (hp : DrP p) {n : GNode} (h : n ∈ nd_List p) : isDef p n = defAt p.Funcs n := by
 unfold isDef defAt
 rw [Stmt7_eq]
 cases e : (n.Kind == 3)
 ·simp
 ·have e := eq_of_beq e
  rw [Stmt_at hp h (.inl e)]
  have hN := (List_in h).2 (by omega) (by omega)
  have hF := (List_in h).1
  have h1 := DrP_F hp hF
  have h2 := DrF_B h1 hN.1
  rw [Defines_def ((DrB_s h2).2 _ (getD_mem (by omega))).1]
  simp
theorem fL1_len (p : GProgram) (vars : List Str) (l : List GNode) : ∀ (r : Nat) (out : List GFact) (i : Int), 0 ≤ i → i + (r : Int) = (l.length : Int) →
  (r7_Facts_L1 p vars l r out i).length = out.length + (l.drop i.toNat).countP (isDef p)
 | 0, out, i, h0, h1 => by rw [r7_Facts_L1, List.drop_eq_nil_of_le (by omega)]; simp
 | r + 1, out, i, h0, h1 => by
  rw [r7_Facts_L1]
  try dsimp only
  rw [getD_dropz h0 (by omega), List.countP_cons, isDef]
  cases (r7_Stmt p (l.getD i.toNat default)).2
  ·simp only [cond_false]; rw [fL1_len p vars l r _ _ (by omega) (by omega)]; simp
  ·simp only [cond_true]
   cases ((l.getD i.toNat default).Kind == 3)
   ·simp only [cond_false]; rw [fL1_len p vars l r _ _ (by omega) (by omega)]; simp
   ·simp only [cond_true]
    cases r4_Defines (r7_Stmt p (l.getD i.toNat default)).1
    ·simp only [cond_false]; rw [fL1_len p vars l r _ _ (by omega) (by omega)]; simp
    ·simp only [cond_true]; rw [fL1_len p vars l r _ _ (by omega) (by omega)]; simp; omega
theorem fL0_len : ∀ (r : Nat) (out : List GFact) (v : Int), (r7_Facts_L0 r out v).length = out.length + r
 | 0, out, v => by rw [r7_Facts_L0]; rfl
 | r + 1, out, v => by rw [r7_Facts_L0, fL0_len r]; simp; omega
theorem Next_rg (t : List Int) (k n : Int) (hn : n ≤ 9223372036854775807) : 0 ≤ (tp_Next t k n).1 ∧ ((tp_Next t k n).1 < n ∨ (tp_Next t k n).1 = 0) := by
 unfold tp_Next
 by_cases h1 : n ≤ 1
 ·simp [h1]
 ·by_cases h2 : (t.length : Int) ≤ k
  ·simp [h1, h2]
  ·simp only [decide_eq_false h1, decide_eq_false h2, cond_false]
   have := mod_range (t.getD (k + 1 - 1).toNat 0) n (by omega)
   unfold g_Mod
   exact ⟨this.1, .inl this.2⟩
theorem name_ok (t : List Int) (i : Int) : r4_IsName (tp_name t i).1 = true := by
 unfold tp_name
 have h := Next_rg t i 4 (by omega)
 dsimp only
 generalize (tp_Next t i 4).1 = x at h
 have : x = 0 ∨ x = 1 ∨ x = 2 ∨ x = 3 := by omega
 rcases this with h | h | h | h <;> subst h <;> decide +kernel
theorem name_in (t : List Int) (i : Int) : (tp_name t i).1 ∈ N4 := by
 unfold tp_name N4
 have h := Next_rg t i 4 (by omega)
 dsimp only
 generalize (tp_Next t i 4).1 = x at h
 have : x = 0 ∨ x = 1 ∨ x = 2 ∨ x = 3 := by omega
 rcases this with h | h | h | h <;> subst h <;> simp
theorem stmt_Q (t : List Int) (i n : Int) : QS 3 2 (tp_stmt t i n).1 = true := by
 unfold tp_stmt
 dsimp only
 simp only [Bool.cond_eq_ite]
 repeat' split
 all_goals (unfold QS; simp)
 all_goals omega
theorem stmt_iS (t : List Int) (i n : Int) (hn : 1 ≤ n ∧ n ≤ 3) : iS n (tp_stmt t i n).1 := by
 have nm := name_ok t
 have ni := name_in t
 have k0 : ∀ (o : Int) (d : Str) (us : List Str), vd_terminator (GStmt.mk o d us []) = false → o ≠ 3 → (r4_stmtOK (GStmt.mk o d us []) = true ∧ vS (GStmt.mk o d us [])) → iS n (GStmt.mk o d us []) := fun o d us h1 h2 h3 => ⟨h3, h1, fun h => absurd h h2, fun _ => rfl⟩
 have kc : ∀ i', iS n (GStmt.mk 3 (Str.mk []) [] [fNm (tp_Next t i' n).1]) := fun i' => by
  have h := Next_rg t i' n (by omega)
  have h3 : 0 ≤ (tp_Next t i' n).1 ∧ (tp_Next t i' n).1 < 3 := by omega
  refine ⟨⟨?_, .inl rfl, fun u hu => (by cases hu), by simp⟩, rfl, fun _ => ⟨_, h.1, by omega, rfl⟩, fun h => absurd rfl h⟩
  unfold r4_stmtOK
  dsimp only
  rw [nmOK_eq, nmOK_eq, List.all_cons, fNm_ok h3]
  rfl
 unfold tp_stmt
 dsimp only
 simp only [Bool.cond_eq_ite]
 have u2 : ∀ (i1 i2 : Int) (m : Nat), 1 ≤ m → r4_stmtOK (GStmt.mk 2 (Str.mk []) (([(tp_name t i1).1, (tp_name t i2).1].take m).drop 0) []) = true := fun i1 i2 m hm => by
  rcases m with _ | _ | m
  ·omega
  ·unfold r4_stmtOK; dsimp only; rw [nmOK_eq, nmOK_eq]; simp [nm]
  ·unfold r4_stmtOK; dsimp only; rw [nmOK_eq, nmOK_eq]; simp [nm]
 have u1 : ∀ (i0 i1 i2 i3 : Int) (m : Nat), r4_stmtOK (GStmt.mk 1 (tp_name t i0).1 (([(tp_name t i1).1, (tp_name t i2).1, (tp_name t i3).1].take m).drop 0) []) = true := fun i0 i1 i2 i3 m => by
  rcases m with _ | _ | _ | m <;> (unfold r4_stmtOK; dsimp only; rw [nmOK_eq, nmOK_eq]; simp [nm])
 repeat' split
 ·refine k0 _ _ _ rfl (by decide) ⟨u2 _ _ _ ?_, .inl rfl, fun u hu => ?_, by simp; omega⟩
  rotate_left
  ·rw [List.drop_zero] at hu
   have := List.mem_of_mem_take hu
   simp only [List.mem_cons, List.not_mem_nil, or_false] at this
   rcases this with e | e <;> rw [e] <;> exact ni _
  have := Next_rg t (tp_name t (tp_name t (tp_Next t i 9).2).2).2 2 (by omega)
  omega
 ·exact k0 _ _ _ rfl (by decide) ⟨by unfold r4_stmtOK; dsimp only; rw [nmOK_eq, nmOK_eq]; simp [nm], by first | exact .inl rfl | exact .inr (ni _), fun u hu => (by first | (cases hu; done) | (rw [List.mem_singleton.1 hu]; exact ni _)), by simp⟩
 ·exact k0 _ _ _ rfl (by decide) ⟨by unfold r4_stmtOK; dsimp only; rw [nmOK_eq, nmOK_eq]; simp [nm], by first | exact .inl rfl | exact .inr (ni _), fun u hu => (by first | (cases hu; done) | (rw [List.mem_singleton.1 hu]; exact ni _)), by simp⟩
 ·exact k0 _ _ _ rfl (by decide) ⟨by unfold r4_stmtOK; dsimp only; rw [nmOK_eq, nmOK_eq]; simp [nm], by first | exact .inl rfl | exact .inr (ni _), fun u hu => (by first | (cases hu; done) | (rw [List.mem_singleton.1 hu]; exact ni _)), by simp⟩
 ·exact kc _
 ·exact kc _
 ·refine k0 _ _ _ rfl (by decide) ⟨u1 _ _ _ _ _, .inr (ni _), fun u hu => ?_, by simp; omega⟩
  rw [List.drop_zero] at hu
  have := List.mem_of_mem_take hu
  simp only [List.mem_cons, List.not_mem_nil, or_false] at this
  rcases this with e | e | e <;> rw [e] <;> exact ni _
theorem func2_ok {x : Int} (h : 0 ≤ x ∧ x < 3) : r4_IsName (g_func2 x) = true ∧ g_func2 x = bNm x := by
 have : x = 0 ∨ x = 1 ∨ x = 2 := by omega
 rcases this with h | h | h <;> subst h <;> exact ⟨by decide +kernel, rfl⟩
theorem Program_L2_Q (t : List Int) (n : Int) : ∀ (r : Nat) (i : Int) (b : List GStmt) (k : Int), b.all (QS 3 2) = true → (tp_Program_L2 t n r i b k).2.all (QS 3 2) = true
 | 0, i, b, k, h => by rw [tp_Program_L2]; exact h
 | r + 1, i, b, k, h => by
  rw [tp_Program_L2]
  refine Program_L2_Q t n r _ _ _ ?_
  rw [List.all_append, h, List.all_cons, stmt_Q]; rfl
theorem Program_L2_len (t : List Int) (n : Int) : ∀ (r : Nat) (i : Int) (b : List GStmt) (k : Int), (tp_Program_L2 t n r i b k).2.length = b.length + r
 | 0, i, b, k => by rw [tp_Program_L2]; rfl
 | r + 1, i, b, k => by
  rw [tp_Program_L2]
  rw [Program_L2_len t n r, List.length_append]; simp; omega
theorem Program_L1_Q (t : List Int) (n m : Int) : ∀ (r : Nat) (i : Int) (b : List GBlock) (k : Int), b.all (QB 3 2) = true ∧ b.all QL = true → ((tp_Program_L1 t n m r i b k).2.all (QB 3 2) = true ∧ (tp_Program_L1 t n m r i b k).2.all QL = true) ∧ (tp_Program_L1 t n m r i b k).2.length = b.length + r
 | 0, i, b, k, h => by rw [tp_Program_L1]; exact ⟨h, rfl⟩
 | r + 1, i, b, k, h => by
  rw [tp_Program_L1]
  have h2 := Program_L2_Q t n (((tp_Next t i 4).1 : Int).toNat) (tp_Next t i 4).2 [] (tp_Next t i 4).1 rfl
  have h3 := Program_L2_len t n (((tp_Next t i 4).1 : Int).toNat) (tp_Next t i 4).2 [] (tp_Next t i 4).1
  have hn := Next_rg t i 4 (by omega)
  dsimp only
  generalize tp_Program_L2 t n (((tp_Next t i 4).1 : Int).toNat) (tp_Next t i 4).2 [] (tp_Next t i 4).1 = R at h2 h3
  obtain ⟨o0, o1⟩ := R
  dsimp only at h2 h3 ⊢
  have step : ∀ (i' : Int) (nm : Str) (s : GStmt), QS 3 2 s = true → ((tp_Program_L1 t n m r i' (b ++ [GBlock.mk nm (o1 ++ [s])]) (k + 1)).2.all (QB 3 2) = true ∧ (tp_Program_L1 t n m r i' (b ++ [GBlock.mk nm (o1 ++ [s])]) (k + 1)).2.all QL = true) ∧ (tp_Program_L1 t n m r i' (b ++ [GBlock.mk nm (o1 ++ [s])]) (k + 1)).2.length = b.length + (r + 1) := fun i' nm s hs => by
   obtain ⟨a1, a2⟩ := Program_L1_Q t n m r i' (b ++ [GBlock.mk nm (o1 ++ [s])]) (k + 1) ⟨by
    rw [List.all_append, h.1, List.all_cons]
    unfold QB
    dsimp only
    rw [List.all_append, h2, List.all_cons, hs]; rfl, by
    rw [List.all_append, h.2, List.all_cons]
    unfold QL
    dsimp only
    rw [List.length_append, h3, decide_eq_true (by simp; omega)]; rfl⟩
   exact ⟨a1, by rw [a2]; simp; omega⟩
  simp only [Bool.cond_eq_ite]
  repeat' split
  all_goals exact step _ _ _ (by unfold QS; simp)
theorem Program_L0_Q (t : List Int) (n : Int) : ∀ (r : Nat) (i : Int) (b : List GFunc) (k : Int), (b.all (QF 3 2) = true ∧ ∀ f ∈ b, SpF f) → ((tp_Program_L0 t n r i b k).2.all (QF 3 2) = true ∧ ∀ f ∈ (tp_Program_L0 t n r i b k).2, SpF f) ∧ (tp_Program_L0 t n r i b k).2.length = b.length + r
 | 0, i, b, k, h => by rw [tp_Program_L0]; exact ⟨h, rfl⟩
 | r + 1, i, b, k, h => by
  rw [tp_Program_L0]
  have hn := Next_rg t i 3 (by omega)
  have h2 := Program_L1_Q t n (1 + (tp_Next t i 3).1) ((((1 + (tp_Next t i 3).1) : Int) - 0).toNat) (tp_Next t i 3).2 [] 0 ⟨rfl, rfl⟩
  dsimp only
  generalize tp_Program_L1 t n (1 + (tp_Next t i 3).1) ((((1 + (tp_Next t i 3).1) : Int) - 0).toNat) (tp_Next t i 3).2 [] 0 = R at h2
  obtain ⟨o0, o1⟩ := R
  dsimp only at h2 ⊢
  obtain ⟨a1, a2⟩ := Program_L0_Q t n r o0 (b ++ [GFunc.mk ([(Str.mk [109]), (Str.mk [102]), (Str.mk [103])].getD (k : Int).toNat default) o1]) (k + 1) ⟨by
   rw [List.all_append, h.1, List.all_cons]; unfold QF; dsimp only; rw [h2.1.1]; rfl, fun f hf => by
   rcases List.mem_append.1 hf with h' | h'
   ·exact h.2 f h'
   ·rw [List.mem_singleton] at h'
    subst h'
    have := h2.2
    refine ⟨?_, h2.1.2⟩
    dsimp only
    rw [this]; simp; omega⟩
  exact ⟨a1, by rw [a2]; simp; omega⟩
theorem Program_SpP {t : List Int} {i : Int} {r : GProgram × Int} (h : tp_Program t i = r) : SpP r.1 := by
 subst h
 unfold tp_Program
 have hn := Next_rg t i 3 (by omega)
 have h2 := Program_L0_Q t (1 + (tp_Next t i 3).1) ((((1 + (tp_Next t i 3).1) : Int) - 0).toNat) (tp_Next t i 3).2 [] 0 ⟨rfl, fun f h => by cases h⟩
 dsimp only
 generalize tp_Program_L0 t (1 + (tp_Next t i 3).1) ((((1 + (tp_Next t i 3).1) : Int) - 0).toNat) (tp_Next t i 3).2 [] 0 = R at h2
 obtain ⟨o0, o1⟩ := R
 dsimp only at h2 ⊢
 exact ⟨by show 1 ≤ o1.length ∧ o1.length ≤ 3; rw [h2.2]; simp; omega, h2.1.2, h2.1.1⟩
theorem Dr_L2 (t : List Int) (n : Int) (hn : 1 ≤ n ∧ n ≤ 3) : ∀ (r : Nat) (i : Int) (b : List GStmt) (k : Int), (∀ s ∈ b, iS n s) → ∀ s ∈ (tp_Program_L2 t n r i b k).2, iS n s
 | 0, i, b, k, h => by rw [tp_Program_L2]; exact h
 | r + 1, i, b, k, h => by
  rw [tp_Program_L2]
  refine Dr_L2 t n hn r _ _ _ fun s hs => ?_
  rcases List.mem_append.1 hs with h' | h'
  ·exact h s h'
  ·rw [List.mem_singleton.1 h']; exact stmt_iS t i n hn
theorem Dr_L1 (t : List Int) (n m : Int) (hn : 1 ≤ n ∧ n ≤ 3) (hm : 1 ≤ m ∧ m ≤ 3) : ∀ (r : Nat) (i : Int) (b : List GBlock) (k : Int), (b.length : Int) = k → k + (r : Int) = m → (∀ j : Nat, j < b.length → DrB n m (j : Int) (b.getD j default)) → (∀ j : Nat, j < (tp_Program_L1 t n m r i b k).2.length → DrB n m (j : Int) ((tp_Program_L1 t n m r i b k).2.getD j default)) ∧ (tp_Program_L1 t n m r i b k).2.length = b.length + r
 | 0, i, b, k, hk, hr, h => by rw [tp_Program_L1]; exact ⟨h, rfl⟩
 | r + 1, i, b, k, hk, hr, h => by
  rw [tp_Program_L1]
  have h2 := Dr_L2 t n hn (((tp_Next t i 4).1 : Int).toNat) (tp_Next t i 4).2 [] (tp_Next t i 4).1 (fun s hs => by cases hs)
  have h3 := Program_L2_len t n (((tp_Next t i 4).1 : Int).toNat) (tp_Next t i 4).2 [] (tp_Next t i 4).1
  have hx := Next_rg t i 4 (by omega)
  dsimp only
  generalize tp_Program_L2 t n (((tp_Next t i 4).1 : Int).toNat) (tp_Next t i 4).2 [] (tp_Next t i 4).1 = R at h2 h3
  obtain ⟨o0, o1⟩ := R
  dsimp only at h2 h3 ⊢
  have step : ∀ (i' : Int) (s : GStmt), lS m s → (∀ j : Nat, j < (tp_Program_L1 t n m r i' (b ++ [GBlock.mk (bNm k) (o1 ++ [s])]) (k + 1)).2.length → DrB n m (j : Int) ((tp_Program_L1 t n m r i' (b ++ [GBlock.mk (bNm k) (o1 ++ [s])]) (k + 1)).2.getD j default)) ∧ (tp_Program_L1 t n m r i' (b ++ [GBlock.mk (bNm k) (o1 ++ [s])]) (k + 1)).2.length = b.length + (r + 1) := fun i' s hs => by
   obtain ⟨a1, a2⟩ := Dr_L1 t n m hn hm r i' (b ++ [GBlock.mk (bNm k) (o1 ++ [s])]) (k + 1) (by rw [List.length_append]; simp; omega) (by omega) (fun j hj => by
    rw [List.length_append] at hj
    by_cases hjb : j < b.length
    ·rw [show (b ++ [GBlock.mk (bNm k) (o1 ++ [s])]).getD j default = b.getD j default by rw [List.getD_eq_getElem?_getD, List.getElem?_append_left hjb, List.getD_eq_getElem?_getD]]
     exact h j hjb
    ·obtain rfl : j = b.length := by simp at hj; omega
     rw [show (b ++ [GBlock.mk (bNm k) (o1 ++ [s])]).getD b.length default = GBlock.mk (bNm k) (o1 ++ [s]) by simp, hk]
     exact ⟨rfl, o1, s, rfl, by rw [h3]; simp; omega, h2, hs⟩)
   exact ⟨a1, by rw [a2, List.length_append]; simp; omega⟩
  have fb : ∀ i', 0 ≤ (tp_Next t i' m).1 ∧ (tp_Next t i' m).1 < m ∧ r4_IsName (g_func2 (tp_Next t i' m).1) = true ∧ g_func2 (tp_Next t i' m).1 = bNm (tp_Next t i' m).1 := fun i' => by
   have h := Next_rg t i' m (by omega)
   have := func2_ok (x := (tp_Next t i' m).1) ⟨h.1, by omega⟩
   exact ⟨h.1, by omega, this⟩
  have nm := name_ok t
  simp only [Bool.cond_eq_ite]
  repeat' split
  ·exact step _ _ ⟨⟨by decide +kernel, .inl rfl, fun u hu => (by cases hu), by simp⟩, rfl, by decide, fun t h => by cases h⟩
  ·refine step _ _ ⟨⟨?_, .inl rfl, fun u hu => (by cases hu), by simp⟩, rfl, (by show (7 : Int) ≠ 3; decide), fun t h => ?_⟩
   ·unfold r4_stmtOK; dsimp only; rw [nmOK_eq, nmOK_eq]; simp [(fb _).2.2.1]
   ·rw [List.mem_singleton.1 h]; exact ⟨_, (fb _).1, (fb _).2.1, (fb _).2.2.2⟩
  ·refine step _ _ ⟨⟨?_, .inl rfl, fun u hu => (by rw [List.mem_singleton.1 hu]; exact name_in t _), by simp⟩, rfl, (by show (8 : Int) ≠ 3; decide), fun t h => ?_⟩
   ·unfold r4_stmtOK; dsimp only; rw [nmOK_eq, nmOK_eq]; simp [(fb _).2.2.1, nm]
   ·simp only [List.mem_cons, List.not_mem_nil, or_false] at h
    rcases h with e | e
    ·rw [e]; exact ⟨_, (fb _).1, (fb _).2.1, (fb _).2.2.2⟩
    ·rw [e]; exact ⟨_, (fb _).1, (fb _).2.1, (fb _).2.2.2⟩
theorem Dr_L0 (t : List Int) (n : Int) (hn : 1 ≤ n ∧ n ≤ 3) : ∀ (r : Nat) (i : Int) (b : List GFunc) (k : Int), (b.length : Int) = k → k + (r : Int) = n → (∀ j : Nat, j < b.length → DrF n (j : Int) (b.getD j default)) → (∀ j : Nat, j < (tp_Program_L0 t n r i b k).2.length → DrF n (j : Int) ((tp_Program_L0 t n r i b k).2.getD j default)) ∧ (tp_Program_L0 t n r i b k).2.length = b.length + r
 | 0, i, b, k, hk, hr, h => by rw [tp_Program_L0]; exact ⟨h, rfl⟩
 | r + 1, i, b, k, hk, hr, h => by
  rw [tp_Program_L0]
  have hx := Next_rg t i 3 (by omega)
  have h2 := Dr_L1 t n (1 + (tp_Next t i 3).1) hn (by omega) ((((1 + (tp_Next t i 3).1) : Int) - 0).toNat) (tp_Next t i 3).2 [] 0 rfl (by omega) (fun j hj => by cases hj)
  dsimp only
  generalize tp_Program_L1 t n (1 + (tp_Next t i 3).1) ((((1 + (tp_Next t i 3).1) : Int) - 0).toNat) (tp_Next t i 3).2 [] 0 = R at h2
  obtain ⟨o0, o1⟩ := R
  dsimp only at h2 ⊢
  have hl : (o1.length : Int) = 1 + (tp_Next t i 3).1 := by rw [h2.2]; simp; omega
  obtain ⟨a1, a2⟩ := Dr_L0 t n hn r o0 (b ++ [GFunc.mk (fNm k) o1]) (k + 1) (by rw [List.length_append]; simp; omega) (by omega) (fun j hj => by
   rw [List.length_append] at hj
   by_cases hjb : j < b.length
   ·rw [show (b ++ [GFunc.mk (fNm k) o1]).getD j default = b.getD j default by rw [List.getD_eq_getElem?_getD, List.getElem?_append_left hjb, List.getD_eq_getElem?_getD]]
    exact h j hjb
   ·obtain rfl : j = b.length := by simp at hj; omega
    rw [show (b ++ [GFunc.mk (fNm k) o1]).getD b.length default = GFunc.mk (fNm k) o1 by simp, hk]
    refine ⟨rfl, by dsimp only; omega, fun j hj => ?_⟩
    dsimp only
    rw [hl]
    exact h2.1 j hj)
  exact ⟨a1, by show _ = b.length + (r + 1); rw [show (tp_Program_L0 t n r o0 (b ++ [GFunc.mk ([(Str.mk [109]), (Str.mk [102]), (Str.mk [103])].getD (k : Int).toNat default) o1]) (k + 1)).2.length = _ from a2, List.length_append]; simp; omega⟩
theorem Program_Dr {t : List Int} {i : Int} {r : GProgram × Int} (h : tp_Program t i = r) : DrP r.1 := by
 subst h
 unfold tp_Program
 have hx := Next_rg t i 3 (by omega)
 have h2 := Dr_L0 t (1 + (tp_Next t i 3).1) (by omega) ((((1 + (tp_Next t i 3).1) : Int) - 0).toNat) (tp_Next t i 3).2 [] 0 rfl (by omega) (fun j hj => by cases hj)
 dsimp only
 generalize tp_Program_L0 t (1 + (tp_Next t i 3).1) ((((1 + (tp_Next t i 3).1) : Int) - 0).toNat) (tp_Next t i 3).2 [] 0 = R at h2
 obtain ⟨o0, o1⟩ := R
 dsimp only at h2 ⊢
 have hl : (o1.length : Int) = 1 + (tp_Next t i 3).1 := by rw [h2.2]; simp; omega
 refine ⟨by dsimp only; omega, fun j hj => ?_⟩
 dsimp only
 rw [hl]
 exact h2.1 j hj
theorem Program_PSm' {t : List Int} {i : Int} {r : GProgram × Int} (h : tp_Program t i = r) : PSm (GProgram.mk r.1.Funcs) = true := SpP_PSm (Program_SpP h)
theorem Defines_eq (s : GStmt) : vd_Defines s = r4_Defines s := rfl
theorem defs_eq (p : GProgram) (vars : List Str) (l : List GNode) : ∀ (r : Nat) (out : List GFact) (v : Int), fc_definitions_L0 p vars l r out v = r7_Facts_L1 p vars l r out v
 | 0, out, v => by rw [fc_definitions_L0, r7_Facts_L1]
 | r + 1, out, v => by
  rw [fc_definitions_L0, r7_Facts_L1]
  dsimp only
  rw [Stmt7_eq, Defines_eq, ixS_eq, defs_eq p vars l r, defs_eq p vars l r]
  cases e1 : (nd_Stmt p (l.getD v.toNat default)).2
  ·rw [Stmt_none e1]
   all_goals (cases (l.getD v.toNat default).Kind == 3 <;> rfl)
  ·simp only [cond_true]
theorem fl0_eq : ∀ (r : Nat) (out : List GFact) (v : Int), fc_List_L0 r out v = r7_Facts_L0 r out v
 | 0, out, v => by rw [fc_List_L0, r7_Facts_L0]
 | r + 1, out, v => by rw [fc_List_L0, r7_Facts_L0, fl0_eq r]
theorem List9_eq (p : GProgram) (kind : Int) : fc_List p kind = r7_Facts p kind := by
 unfold fc_List r7_Facts fc_definitions
 dsimp only
 rw [Check_eq, Vars_eq, List7_eq, defs_eq, fl0_eq]
 cases (r4_Check p).2 != 0
 ·cases decide (kind < 1)
  ·cases decide (4 < kind)
   ·cases e : kind == 1 <;> simp only [bne, e] <;> rfl
   ·rfl
  ·rfl
 ·rfl
theorem Vars_dr {p : GProgram} (hp : DrP p) {k : Int} (hk : k = 2 ∨ k = 3 ∨ k = 4) : (fc_List p k).2 = 0 ∧ (fc_List p k).1.length = (r4_Variables p).length := by
 have hv := vars_ok hp
 rw [Vars_eq] at hv
 rw [List9_eq]
 unfold r7_Facts
 dsimp only
 rw [← Check_eq, check_ok hp]
 have h1 : decide (k < 1) = false := by simp; omega
 have h2 : decide (4 < k) = false := by simp; omega
 have h3 : (k != 1) = true := by rw [bne_iff_ne]; omega
 rw [h1, h2, h3]
 simp only [show ((0 : Int) != 0) = false from rfl, cond_false, cond_true]
 have hl := fL0_len (((((r4_Variables p).length : Nat) : Int) - 0).toNat) [] 0
 generalize r7_Facts_L0 (((((r4_Variables p).length : Nat) : Int) - 0).toNat) [] 0 = o at *
 simp only [List.length_nil] at hl
 rw [show decide (256 < ((o.length : Nat) : Int)) = false by simp; omega]
 simp only [cond_false]
 exact ⟨trivial, by omega⟩
theorem fc_nS (F : List GFunc) (f b : Int) : ∀ (r : Nat) (n i : Int), 0 ≤ i → i + (r : Int) = ((((F.getD f.toNat default).Blocks).getD b.toNat default).Stmts.length : Int) →
  w9_FactsCount_L2 F f b r n i = n + (((nS f b i ((((F.getD f.toNat default).Blocks).getD b.toNat default).Stmts.drop i.toNat)).countP (defAt F) : Nat) : Int)
 | 0, n, i, h0, h1 => by
  rw [w9_FactsCount_L2, List.drop_eq_nil_of_le (by omega), nS]; simp
 | r + 1, n, i, h0, h1 => by
  rw [w9_FactsCount_L2, fc_nS F f b r _ _ (by omega) (by omega), fc_nS F f b r _ _ (by omega) (by omega), getD_dropz h0 (by omega), nS, List.countP_append]
  have h3 : defAt F (GNode.mk 3 f b i) = (((((F.getD f.toNat default).Blocks).getD b.toNat default).Stmts.getD i.toNat default).Def != Str.mk []) := rfl
  have h4 : defAt F (GNode.mk 4 f b i) = false := rfl
  cases e : (((((F.getD f.toNat default).Blocks).getD b.toNat default).Stmts.getD i.toNat default).Def != Str.mk []) <;> rw [e] at h3 <;>
   cases (((((F.getD f.toNat default).Blocks).getD b.toNat default).Stmts.getD i.toNat default).Op == 3) <;>
   simp only [cond_true, cond_false, List.countP_cons, List.countP_nil, h3, h4] <;> simp <;> omega
theorem fc_nB (F : List GFunc) (f : Int) : ∀ (r : Nat) (n b : Int), 0 ≤ b → b + (r : Int) = (((F.getD f.toNat default).Blocks).length : Int) →
  w9_FactsCount_L1 F f r n b = n + (((nB f b (((F.getD f.toNat default).Blocks).drop b.toNat)).countP (defAt F) : Nat) : Int)
 | 0, n, i, h0, h1 => by
  rw [w9_FactsCount_L1, List.drop_eq_nil_of_le (by omega), nB]; simp
 | r + 1, n, b, h0, h1 => by
  rw [w9_FactsCount_L1, fc_nS F f b _ n 0 (by omega) (by omega)]
  try dsimp only
  rw [fc_nB F f r _ _ (by omega) (by omega), getD_dropz h0 (by omega), nB, List.countP_append]
  simp only [Int.toNat_zero, List.drop_zero]
  omega
theorem fc_nF (F : List GFunc) : ∀ (r : Nat) (n f : Int), 0 ≤ f → f + (r : Int) = (F.length : Int) →
  w9_FactsCount_L0 F r n f = n + (((nF f (F.drop f.toNat)).countP (defAt F) : Nat) : Int)
 | 0, n, i, h0, h1 => by
  rw [w9_FactsCount_L0, List.drop_eq_nil_of_le (by omega), nF]; simp
 | r + 1, n, f, h0, h1 => by
  rw [w9_FactsCount_L0, fc_nB F f _ n 0 (by omega) (by omega)]
  try dsimp only
  rw [fc_nF F r _ _ (by omega) (by omega), getD_dropz h0 (by omega), nF, List.countP_append, List.countP_append, List.countP_append]
  have h1 : defAt F (GNode.mk 1 f (-1) (-1)) = false := rfl
  have h2 : defAt F (GNode.mk 2 f (-1) (-1)) = false := rfl
  simp only [Int.toNat_zero, List.drop_zero, List.countP_cons, List.countP_nil, h1, h2]
  simp
  omega
theorem Facts_dr {p : GProgram} (hp : DrP p) : (fc_List p 1).2 = 0 ∧ ((fc_List p 1).1.length : Int) = w9_FactsCount_L0 p.Funcs (((((p.Funcs.length : Nat) : Int) : Int) - 0).toNat) 0 0 := by
 have hl := fL1_len p (r4_Variables p) (nd_List p) (((((nd_List p).length : Nat) : Int) - 0).toNat) [] 0 (by omega) (by omega)
 have hs := nd_small hp
 have hc : (nd_List p).countP (isDef p) = (nd_List p).countP (defAt p.Funcs) := List.countP_congr fun n hn => by rw [isDef_eq hp hn]
 have hle : (nd_List p).countP (isDef p) ≤ (nd_List p).length := List.countP_le_length
 rw [fc_nF p.Funcs _ 0 0 (by omega) (by omega)]
 simp only [Int.toNat_zero, List.drop_zero, List.length_nil] at *
 rw [← List_dr hp, ← hc, List9_eq]
 unfold r7_Facts
 dsimp only
 rw [← Check_eq, check_ok hp, List7_eq]
 simp only [show ((0 : Int) != 0) = false from rfl, show ((1 : Int) != 1) = false from rfl, show decide ((1 : Int) < 1) = false from rfl, show decide ((4 : Int) < 1) = false from rfl, cond_false]
 generalize r7_Facts_L1 p (r4_Variables p) (nd_List p) (((((nd_List p).length : Nat) : Int) - 0).toNat) [] 0 = o at *
 rw [show decide (256 < ((o.length : Nat) : Int)) = false by simp; omega]
 simp only [cond_false]
 exact ⟨trivial, by omega⟩
theorem FC_term (F : List GFunc) : w9_FactsCount_L3 F 5 2 ≠ .oof := by
 have step : ∀ (r : Nat) (k : Int), w9_FactsCount_L3 F r (k + 1) ≠ .oof → w9_FactsCount_L3 F (r + 1) k ≠ .oof := fun r k h => by
  rw [w9_FactsCount_L3]
  cases decide (k ≤ 4)
  ·intro e; cases e
  ·dsimp only
   cases (fc_List (GProgram.mk F) k).2 != 0
   ·cases (((fc_List (GProgram.mk F) k).1.length : Nat) : Int) != (((r4_Variables (GProgram.mk F)).length : Nat) : Int)
    ·exact h
    ·intro e; cases e
   ·intro e; cases e
 refine step 4 2 (step 3 3 (step 2 4 ?_))
 rw [w9_FactsCount_L3]
 intro e; cases e
theorem FC_L3 {F : List GFunc} (hp : DrP (GProgram.mk F)) : w9_FactsCount_L3 F 5 2 = .brk () := by
 have step : ∀ (r : Nat) (k : Int), k = 2 ∨ k = 3 ∨ k = 4 → w9_FactsCount_L3 F (r + 1) k = w9_FactsCount_L3 F r (k + 1) := fun r k h => by
  rw [w9_FactsCount_L3]
  obtain ⟨h1, h2⟩ := Vars_dr hp h
  rw [show decide (k ≤ 4) = true by simp; omega]
  try dsimp only
  rw [h1, h2]
  simp
 rw [step 4 2 (by omega), step 3 _ (by omega), step 2 _ (by omega), w9_FactsCount_L3]
 rfl
theorem FactsCount_true (t : List Int) : w9_FactsCount t = true := by
 have hp := Program_Dr (t := t) (i := 0) rfl
 obtain ⟨h1, h2⟩ := Facts_dr hp
 unfold w9_FactsCount
 dsimp only
 rw [FC_L3 (F := (tp_Program t 0).1.Funcs) hp, h1, h2]
 simp
 rfl
theorem st58 : stTy Tryz.prog 58 = some ([(0, 1), (1, 1)], [.slice none 0 0, vi 0]) := by kernel_rfl
theorem un3 : Tryz.prog.underlying 3 = some (.int .i64) := by kernel_rfl
theorem un79 : Tryz.prog.underlying 79 = some (.int .u64) := by kernel_rfl
theorem fo58_1 : fldOff Tryz.prog 58 1 = some 1 := by kernel_rfl
theorem fo58_0 : fldOff Tryz.prog 58 0 = some 0 := by kernel_rfl
theorem sh22 : tyShape Tryz.prog 22 = some (false, 1) := by kernel_rfl
theorem sl22 : slTy Tryz.prog 22 = some (3, 1, 8) := by kernel_rfl
theorem ca38 : callable Tryz.prog 38 = true := by kernel_rfl
theorem fo37_1 : fldOff Tryz.prog 37 1 = some 1 := by kernel_rfl
theorem fo37_2 : fldOff Tryz.prog 37 2 = some 2 := by kernel_rfl
theorem sh35 : tyShape Tryz.prog 35 = some (false, 1) := by kernel_rfl
theorem fo37_3 : fldOff Tryz.prog 37 3 = some 3 := by kernel_rfl
theorem ca81 : callable Tryz.prog 81 = true := by kernel_rfl
theorem fo37_0 : fldOff Tryz.prog 37 0 = some 0 := by kernel_rfl
theorem sh3 : tyShape Tryz.prog 3 = some (false, 1) := by kernel_rfl
theorem fmix : Tryz.prog.follows .mixedOrders = true := by kernel_rfl
theorem ca15 : callable Tryz.prog 15 = true := by kernel_rfl
theorem un9 : Tryz.prog.underlying 9 = some .string := by kernel_rfl
theorem ca78 : callable Tryz.prog 78 = true := by kernel_rfl
theorem ca79 : callable Tryz.prog 79 = true := by kernel_rfl
theorem ca80 : callable Tryz.prog 80 = true := by kernel_rfl
theorem sh9 : tyShape Tryz.prog 9 = some (false, 1) := by kernel_rfl
theorem sl35 : slTy Tryz.prog 35 = some (9, 1, 16) := by kernel_rfl
theorem sz35 : slZero Tryz.prog 35 = some [.string (bs (Str.mk []))] := by kernel_rfl
theorem ca19 : callable Tryz.prog 19 = true := by kernel_rfl
theorem fo25_0 : fldOff Tryz.prog 25 0 = some 0 := by kernel_rfl
theorem sh23 : tyShape Tryz.prog 23 = some (false, 1) := by kernel_rfl
theorem sl23 : slTy Tryz.prog 23 = some (31, 2, 40) := by kernel_rfl
theorem sh31 : tyShape Tryz.prog 31 = some (true, 2) := by kernel_rfl
theorem ze31 : zeroOf Tryz.prog 31 = some (.agg #[.string (bs (Str.mk [])), .slice none 0 0]) := by kernel_rfl
theorem fo31_0 : fldOff Tryz.prog 31 0 = some 0 := by kernel_rfl
theorem fo31_1 : fldOff Tryz.prog 31 1 = some 1 := by kernel_rfl
theorem sh29 : tyShape Tryz.prog 29 = some (false, 1) := by kernel_rfl
theorem sl29 : slTy Tryz.prog 29 = some (34, 2, 40) := by kernel_rfl
theorem sh34 : tyShape Tryz.prog 34 = some (true, 2) := by kernel_rfl
theorem ze34 : zeroOf Tryz.prog 34 = some (.agg #[.string (bs (Str.mk [])), .slice none 0 0]) := by kernel_rfl
theorem fo34_0 : fldOff Tryz.prog 34 0 = some 0 := by kernel_rfl
theorem fo34_1 : fldOff Tryz.prog 34 1 = some 1 := by kernel_rfl
theorem sh32 : tyShape Tryz.prog 32 = some (false, 1) := by kernel_rfl
theorem sl32 : slTy Tryz.prog 32 = some (37, 4, 72) := by kernel_rfl
theorem sh37 : tyShape Tryz.prog 37 = some (true, 4) := by kernel_rfl
theorem ca52 : callable Tryz.prog 52 = true := by kernel_rfl
theorem ze63 : zeroOf Tryz.prog 63 = some (.agg #[vi 0, vi 0, vi 0, vi 0]) := by kernel_rfl
theorem ca73 : callable Tryz.prog 73 = true := by kernel_rfl
theorem ca72 : callable Tryz.prog 72 = true := by kernel_rfl
theorem st63 : stTy Tryz.prog 63 = some ([(0, 1), (1, 1), (2, 1), (3, 1)], [vi 0, vi 0, vi 0, vi 0]) := by kernel_rfl
theorem sh63 : tyShape Tryz.prog 63 = some (true, 4) := by kernel_rfl
theorem ze37 : zeroOf Tryz.prog 37 = some (.agg #[vi 0, .string (bs (Str.mk [])), .slice none 0 0, .slice none 0 0]) := by kernel_rfl
theorem ca74 : callable Tryz.prog 74 = true := by kernel_rfl
theorem ca76 : callable Tryz.prog 76 = true := by kernel_rfl
theorem st37 : stTy Tryz.prog 37 = some ([(0, 1), (1, 1), (2, 1), (3, 1)], [vi 0, .string (bs (Str.mk [])), .slice none 0 0, .slice none 0 0]) := by kernel_rfl
theorem ca77 : callable Tryz.prog 77 = true := by kernel_rfl
theorem fo63_1 : fldOff Tryz.prog 63 1 = some 1 := by kernel_rfl
theorem fo63_2 : fldOff Tryz.prog 63 2 = some 2 := by kernel_rfl
theorem fo63_3 : fldOff Tryz.prog 63 3 = some 3 := by kernel_rfl
theorem sh25 : tyShape Tryz.prog 25 = some (true, 1) := by kernel_rfl
theorem ca39 : callable Tryz.prog 39 = true := by kernel_rfl
theorem ze3 : zeroOf Tryz.prog 3 = some (vi 0) := by kernel_rfl
theorem ca45 : callable Tryz.prog 45 = true := by kernel_rfl
theorem ca75 : callable Tryz.prog 75 = true := by kernel_rfl
theorem ze25 : zeroOf Tryz.prog 25 = some (.agg #[.slice none 0 0]) := by kernel_rfl
theorem st31 : stTy Tryz.prog 31 = some ([(0, 1), (1, 1)], [.string (bs (Str.mk [])), .slice none 0 0]) := by kernel_rfl
theorem st34 : stTy Tryz.prog 34 = some ([(0, 1), (1, 1)], [.string (bs (Str.mk [])), .slice none 0 0]) := by kernel_rfl
theorem ca17 : callable Tryz.prog 17 = true := by kernel_rfl
theorem sz32 : slZero Tryz.prog 32 = some [vi 0, .string (bs (Str.mk [])), .slice none 0 0, .slice none 0 0] := by kernel_rfl
theorem ca18 : callable Tryz.prog 18 = true := by kernel_rfl
theorem sz29 : slZero Tryz.prog 29 = some [.string (bs (Str.mk [])), .slice none 0 0] := by kernel_rfl
theorem sz23 : slZero Tryz.prog 23 = some [.string (bs (Str.mk [])), .slice none 0 0] := by kernel_rfl
theorem ca50 : callable Tryz.prog 50 = true := by kernel_rfl
theorem ca99 : callable Tryz.prog 99 = true := by kernel_rfl
theorem ca124 : callable Tryz.prog 124 = true := by kernel_rfl
theorem ca115 : callable Tryz.prog 115 = true := by kernel_rfl
theorem ca100 : callable Tryz.prog 100 = true := by kernel_rfl
theorem ca101 : callable Tryz.prog 101 = true := by kernel_rfl
theorem ca102 : callable Tryz.prog 102 = true := by kernel_rfl
theorem un35 : Tryz.prog.underlying 35 = some (.slice 9) := by kernel_rfl
theorem ca116 : callable Tryz.prog 116 = true := by kernel_rfl
theorem ca68 : callable Tryz.prog 68 = true := by kernel_rfl
theorem ca103 : callable Tryz.prog 103 = true := by kernel_rfl
theorem ca105 : callable Tryz.prog 105 = true := by kernel_rfl
theorem ca104 : callable Tryz.prog 104 = true := by kernel_rfl
theorem ca71 : callable Tryz.prog 71 = true := by kernel_rfl
theorem ca70 : callable Tryz.prog 70 = true := by kernel_rfl
theorem ca69 : callable Tryz.prog 69 = true := by kernel_rfl
theorem mt84 : mpTy Tryz.prog 84 = some (9, 4) := by kernel_rfl
theorem ze4 : zeroOf Tryz.prog 4 = some (vb false) := by kernel_rfl
theorem sh84 : tyShape Tryz.prog 84 = some (false, 1) := by kernel_rfl
theorem ze84 : zeroOf Tryz.prog 84 = some (.map none) := by kernel_rfl
theorem ze35 : zeroOf Tryz.prog 35 = some (.slice none 0 0) := by kernel_rfl
theorem ze91 : zeroOf Tryz.prog 91 = some (.nilFunc) := by kernel_rfl
theorem sh91 : tyShape Tryz.prog 91 = some (false, 1) := by kernel_rfl
theorem ca46 : callable Tryz.prog 46 = true := by kernel_rfl
theorem ca44 : callable Tryz.prog 44 = true := by kernel_rfl
theorem ca106 : callable Tryz.prog 106 = true := by kernel_rfl
theorem un4 : Tryz.prog.underlying 4 = some .bool := by kernel_rfl
theorem ca41 : callable Tryz.prog 41 = true := by kernel_rfl
theorem ca40 : callable Tryz.prog 40 = true := by kernel_rfl
theorem ca42 : callable Tryz.prog 42 = true := by kernel_rfl
theorem ca43 : callable Tryz.prog 43 = true := by kernel_rfl
theorem ca21 : callable Tryz.prog 21 = true := by kernel_rfl
theorem ca20 : callable Tryz.prog 20 = true := by kernel_rfl
theorem sl71 : slTy Tryz.prog 71 = some (63, 4, 32) := by kernel_rfl
theorem sz71 : slZero Tryz.prog 71 = some [vi 0, vi 0, vi 0, vi 0] := by kernel_rfl
theorem fo63_0 : fldOff Tryz.prog 63 0 = some 0 := by kernel_rfl
theorem ca47 : callable Tryz.prog 47 = true := by kernel_rfl
theorem eqi63 : eqInts Tryz.prog 63 4 = true := by kernel_rfl
theorem st49 : stTy Tryz.prog 49 = some ([(0, 1), (1, 1)], [vi 0, vi 0]) := by kernel_rfl
theorem sl38 : slTy Tryz.prog 38 = some (49, 2, 16) := by kernel_rfl
theorem sz38 : slZero Tryz.prog 38 = some [vi 0, vi 0] := by kernel_rfl
theorem ca48 : callable Tryz.prog 48 = true := by kernel_rfl
theorem ca49 : callable Tryz.prog 49 = true := by kernel_rfl
theorem ca22 : callable Tryz.prog 22 = true := by kernel_rfl
theorem ca51 : callable Tryz.prog 51 = true := by kernel_rfl
theorem ca24 : callable Tryz.prog 24 = true := by kernel_rfl
theorem ca23 : callable Tryz.prog 23 = true := by kernel_rfl
theorem st123 : stTy Tryz.prog 123 = some ([(0, 1), (1, 1), (2, 1), (3, 1)], [vi 0, .string (bs (Str.mk [])), vi 0, vi 0]) := by kernel_rfl
theorem sl114 : slTy Tryz.prog 114 = some (123, 4, 40) := by kernel_rfl
theorem sz114 : slZero Tryz.prog 114 = some [vi 0, .string (bs (Str.mk [])), vi 0, vi 0] := by kernel_rfl
theorem fo119_2 : fldOff Tryz.prog 119 2 = some 2 := by kernel_rfl
theorem sh39 : tyShape Tryz.prog 39 = some (false, 1) := by kernel_rfl
theorem fo119_1 : fldOff Tryz.prog 119 1 = some 1 := by kernel_rfl
theorem fo119_0 : fldOff Tryz.prog 119 0 = some 0 := by kernel_rfl
theorem sh114 : tyShape Tryz.prog 114 = some (false, 1) := by kernel_rfl
theorem fo123_0 : fldOff Tryz.prog 123 0 = some 0 := by kernel_rfl
theorem fo123_1 : fldOff Tryz.prog 123 1 = some 1 := by kernel_rfl
theorem ca83 : callable Tryz.prog 83 = true := by kernel_rfl
theorem ca117 : callable Tryz.prog 117 = true := by kernel_rfl
theorem ca118 : callable Tryz.prog 118 = true := by kernel_rfl
theorem ca108 : callable Tryz.prog 108 = true := by kernel_rfl
theorem ca109 : callable Tryz.prog 109 = true := by kernel_rfl
theorem ca126 : callable Tryz.prog 126 = true := by kernel_rfl
theorem ca107 : callable Tryz.prog 107 = true := by kernel_rfl
theorem ca119 : callable Tryz.prog 119 = true := by kernel_rfl
theorem ca120 : callable Tryz.prog 120 = true := by kernel_rfl
theorem ca110 : callable Tryz.prog 110 = true := by kernel_rfl
theorem ca82 : callable Tryz.prog 82 = true := by kernel_rfl
theorem st119 : stTy Tryz.prog 119 = some ([(0, 1), (1, 1), (2, 1)], [.slice none 0 0, vi 0, vi 0]) := by kernel_rfl
theorem ca85 : callable Tryz.prog 85 = true := by kernel_rfl
theorem ca53 : callable Tryz.prog 53 = true := by kernel_rfl
theorem ze47 : zeroOf Tryz.prog 47 = some (.agg #[vi 0, .slice none 0 0]) := by kernel_rfl
theorem sl45 : slTy Tryz.prog 45 = some (78, 1, 8) := by kernel_rfl
theorem sz45 : slZero Tryz.prog 45 = some [u64 (0#64)] := by kernel_rfl
theorem st47 : stTy Tryz.prog 47 = some ([(0, 1), (1, 1)], [vi 0, .slice none 0 0]) := by kernel_rfl
theorem sh47 : tyShape Tryz.prog 47 = some (true, 2) := by kernel_rfl
theorem fo47_0 : fldOff Tryz.prog 47 0 = some 0 := by kernel_rfl
theorem ca35 : callable Tryz.prog 35 = true := by kernel_rfl
theorem fo47_1 : fldOff Tryz.prog 47 1 = some 1 := by kernel_rfl
theorem sh45 : tyShape Tryz.prog 45 = some (false, 1) := by kernel_rfl
theorem sh78 : tyShape Tryz.prog 78 = some (false, 1) := by kernel_rfl
theorem ca86 : callable Tryz.prog 86 = true := by kernel_rfl
theorem ca87 : callable Tryz.prog 87 = true := by kernel_rfl
theorem ca88 : callable Tryz.prog 88 = true := by kernel_rfl
theorem un145 : Tryz.prog.underlying 145 = some (.array 64 5) := by kernel_rfl
theorem sh5 : tyShape Tryz.prog 5 = some (false, 1) := by kernel_rfl
theorem un5 : Tryz.prog.underlying 5 = some (.int .u8) := by kernel_rfl
theorem ca54 : callable Tryz.prog 54 = true := by kernel_rfl
theorem ca89 : callable Tryz.prog 89 = true := by kernel_rfl
theorem sz22 : slZero Tryz.prog 22 = some [vi 0] := by kernel_rfl
theorem ca90 : callable Tryz.prog 90 = true := by kernel_rfl
theorem ca127 : callable Tryz.prog 127 = true := by kernel_rfl
theorem ca121 : callable Tryz.prog 121 = true := by kernel_rfl
theorem ca111 : callable Tryz.prog 111 = true := by kernel_rfl
theorem ca91 : callable Tryz.prog 91 = true := by kernel_rfl
theorem ca7 : callable Tryz.prog 7 = true := by kernel_rfl
theorem ca55 : callable Tryz.prog 55 = true := by kernel_rfl
theorem fo49_1 : fldOff Tryz.prog 49 1 = some 1 := by kernel_rfl
theorem fo49_0 : fldOff Tryz.prog 49 0 = some 0 := by kernel_rfl
theorem ca56 : callable Tryz.prog 56 = true := by kernel_rfl
theorem ca57 : callable Tryz.prog 57 = true := by kernel_rfl
theorem ca36 : callable Tryz.prog 36 = true := by kernel_rfl
theorem sh49 : tyShape Tryz.prog 49 = some (true, 2) := by kernel_rfl
theorem eqi49 : eqInts Tryz.prog 49 2 = true := by kernel_rfl
theorem ca25 : callable Tryz.prog 25 = true := by kernel_rfl
theorem ca27 : callable Tryz.prog 27 = true := by kernel_rfl
theorem ca26 : callable Tryz.prog 26 = true := by kernel_rfl
theorem ca28 : callable Tryz.prog 28 = true := by kernel_rfl
theorem ca8 : callable Tryz.prog 8 = true := by kernel_rfl
theorem ca5 : callable Tryz.prog 5 = true := by kernel_rfl
theorem ca6 : callable Tryz.prog 6 = true := by kernel_rfl
theorem ca9 : callable Tryz.prog 9 = true := by kernel_rfl
theorem fn5 (l : List Int) (la0 : Option Addr) (lk0 : Nat) (rr : Unit) (hrr : g_New l = rr) : FT Tryz.prog 5 #[vl la0 lk0 l] [S la0 lk0 l] (fun g : Value => True) (fun g => g) (fun g => [Cl g [vl la0 lk0 l, vi 0]]) := by
 refine FTi Tryz.func5 fun w0 M0 F0 => Fb 8 0 fun _ => Fo 0 fun ho2 => ?_
 refine KS ?_
 refine Oq Va (KS ?_)
 refine Oq Vm (Oq (Vbd st58 [vl la0 lk0 l, vi 0]) (Oa (AbO [vl la0 lk0 l, vi 0]) fun p3 => Oq Va (KS ?_)))
 have hq := q4 hrr () (by simp only [g_New, cs4]); subst hq
 exact Kr p3 rfl (.tmp rfl .nil) [0] trivial
theorem fn38 (v : Int) (n : Int) (hv_0 : i64ok v) (hn_0 : i64ok n) (hn1 : 1 ≤ n) (rr : Int) (hrr : g_Mod v n = rr) : FT Tryz.prog 38 #[vi v, vi n] [] (fun g : Unit => i64ok rr ∧ (0 ≤ rr ∧ rr < n)) (fun g => vi rr) (fun g => []) := by
 refine FTi Tryz.func38 fun w0 M0 F0 => ?_
 unfold i64ok at hv_0 hn_0
 have hm := mod_range v n aM1
 refine KS ?_
 refine Oq Va (KS ?_)
 refine Oq Vm (Oq (VcU un3 un79) (Oq Vm (Oq (VcU un3 un79) (Oq (VremU (ofInt_ne n aM1)) (Oq (VcN un79 un3 (h := (mod_le v n aM1))) (Oq Va (KS ?_)))))))
 have hq := q4 hrr (((BitVec.ofInt 64 v) % (BitVec.ofInt 64 n)).toNat : Int) (by simp only [g_Mod, cs4]); subst hq
 exact Kr () rfl (.tmp rfl .nil) [] en
theorem fn15 (tP : Value) (ta : Option Addr) (tk : Nat) (tT : List Int) (tI : Int) (n : Int) (htI : 0 ≤ tI ∧ tI ≤ (tT.length : Int)) (hn_0 : i64ok n) (rr : Int × Int) (hrr : tp_Next tT tI n = rr) : FT Tryz.prog 15 #[tP, vi n] [Cl tP [vl ta tk tT, vi tI], S ta tk tT] (fun g : Unit => i64ok rr.1 ∧ (0 ≤ rr.2 ∧ rr.2 ≤ (tT.length : Int)) ∧ (0 ≤ rr.1 ∧ (rr.1 < n ∨ rr.1 = 0))) (fun g => vi rr.1) (fun g => [Cl tP [vl ta tk tT, vi rr.2]]) := by
 refine FTi Tryz.func15 fun w0 M0 F0 => ?_
 unfold i64ok at hn_0
 refine Fb 8 1 fun _ => Fo 1 fun ho2 => KS ?_
 refine Oq Va (KS ?_)
 refine Jp 0 fun hp3 => ?_
 refine Kq [0, 1, 3, 7, 15, 31, 63, 7, 135, 391, 903, 1927, 4095, 8191] fmix ?_
 refine Qv [] Vm (Qv [] Vleq ?_)
 refine bool_split (decide (n ≤ 1)) ?_ ?_
 ·intro h4
  have g5 := dt h4
  refine Qb h4 [] Vm (Qs (Qs (Qs (Qs (Qs (Qs (Qs (Qs (Qs ?_)))))))))
  refine Qs (Qv [] Vpt ?_)
  refine Qn ⟨by kernel_rfl, ?_⟩
  refine Kt (KS ?_)
  refine Oq Va (KS ?_)
  have hq := q4 hrr (0, tI) (by simp only [tp_Next, h4, cs4]); subst hq
  exact Kr () rfl (.tmp rfl .nil) [1] en
 intro h4
 have g6 := df h4
 refine Qb h4 [] Vm (Qv [] Vm (Qv [0] (Vn 0) (Qv [0] (Vfa fo58_1 0) (Qv [1] (VldF sh3 0) (Qv [] Vm (Qv [0] (Vn 0) (Qv [0] (Vfa fo58_0 0) (Qv [1] (VldF sh22 0) (Qv [] (Vlen sl22) ?_)))))))))
 refine Qv [] Vgeq (Qv [] Vpf ?_)
 refine Qn ⟨by kernel_rfl, ?_⟩
 refine Kc ?_ ?_
 ·intro h7
  have g8 := dt h7
  refine KS ?_
  refine Oq Va (KS ?_)
  have hq := q4 hrr (0, tI) (by simp only [tp_Next, h4, h7, cs4]); subst hq
  exact Kr () rfl (.tmp rfl .nil) [1] en
 intro h7
 have g9 := df h7
 refine KS ?_
 refine Oq Vm (Oq (Vn 1) (Oq (Vfa fo58_1 1) (Oq (VldF sh3 1) (Oq Vadd (Oq (Vn 1) (Oq (Vfa fo58_1 1) (Ost (SclF [1] sh3 [vl ta tk tT, vi (tI + 1)]) (KS ?_))))))))
 refine JK_drawK [0, 1, 3, 7, 0, 16, 48, 112, 240, 511, 1023, 0, 4095, 8191] fmix ?_
 refine Dv [] Vm (Dv [1] (Vn 0) (Dv [1] (Vfa fo58_0 0) (Dv [0] (VldF sh22 0) (Dv [] Vm (Dv [1] (Vn 0) (Dv [1] (Vfa fo58_1 0) (Dv [0] (VldF sh3 0) (Dv [] Vsub (Dv [2] (Vi sl22 0) ?_)))))))))
 have hb10 := ok1 (i := (((tI + 1) - 1) : Int).toNat) ho2 rng
 refine Dv [2] (VldI sh3 0) (Dv [] Vm ?_)
 refine letv (g_Mod (tT.getD (((tI + 1) - 1) : Int).toNat 0) n) fun rv11 hg12 => ?_
 refine Dx [] [] [0] (fun G => vi rv11) [fun G => SP.fact (i64ok rv11 ∧ (0 ≤ rv11 ∧ rv11 < n))] (fun G => xC [] ca38 (fn38 ((tT.getD (((tI + 1) - 1) : Int).toNat 0)) n pre pre pre rv11 hg12)) (Dv [] Va ?_)
 refine Dn ⟨by kernel_rfl, fun G => ?_⟩
 refine Jw2 [(4, vi rv11)] [0, 1, 2] [SP.fact (i64ok rv11 ∧ (0 ≤ rv11 ∧ rv11 < n))] ?_
 refine Jf 3 rfl ?_; rintro ⟨he13, he14⟩
 unfold i64ok at he13
 refine Jk [0, 1] ?_
 have hq := q4 hrr (rv11, (tI + 1)) (by simp only [tp_Next, h4, h7, hg12, cs4]); subst hq
 exact Kr () rfl (.tmp rfl .nil) [0] en
theorem fn19 (tP : Value) (ta : Option Addr) (tk : Nat) (tT : List Int) (tI : Int) (htI : 0 ≤ tI ∧ tI ≤ (tT.length : Int)) (rr : Str × Int) (hrr : tp_name tT tI = rr) : FT Tryz.prog 19 #[tP] [Cl tP [vl ta tk tT, vi tI], S ta tk tT] (fun g : Unit => rr.1.b.length ≤ 140737488355328 ∧ (0 ≤ rr.2 ∧ rr.2 ≤ (tT.length : Int))) (fun g => .string (bs rr.1)) (fun g => [Cl tP [vl ta tk tT, vi rr.2]]) := by
 refine FTi Tryz.func19 fun w0 M0 F0 => Fb 8 1 fun _ => Fo 1 fun ho2 => ?_
 refine KS ?_
 refine Oq Va (KS ?_)
 refine Oa (AsV sl35 sz35 [.string (bs (Str.mk [120])), .string (bs (Str.mk [121])), .string (bs (Str.mk [122])), .string (bs (Str.mk [119]))] [.string (bs (Str.mk [120])), .string (bs (Str.mk [121])), .string (bs (Str.mk [122])), .string (bs (Str.mk [119]))]) fun c3 => ?_
 refine Jo 0 ?_; rintro a4 k5 rfl
 refine Oq Vm ?_
 refine letv (tp_Next tT tI 4) fun rv6 hg7 => ?_
 have hc8 := fn15 tP ta tk tT tI 4 pre pre rv6 hg7
 refine Oc [1, 1] ca15 hc8 ?_
 rintro - ⟨he9, he10, he11⟩
 unfold i64ok at he9
 refine Jl [1] (Ent.crOs (α := Str) (A := []) _ ([(Str.mk [120]), (Str.mk [121]), (Str.mk [122]), (Str.mk [119])] : List Str) _ aB1 (fun h => ⟨[.string (bs (Str.mk [120]))], [.string (bs (Str.mk [121])), .string (bs (Str.mk [122])), .string (bs (Str.mk [119]))], rfl, (fun _ => ⟨rfl, by first | omega | (simp; done) | (dsimp only; omega) | exact lit_bl rfl⟩) h, ⟨[.string (bs (Str.mk [121]))], [.string (bs (Str.mk [122])), .string (bs (Str.mk [119]))], rfl, (fun _ => ⟨rfl, by first | omega | (simp; done) | (dsimp only; omega) | exact lit_bl rfl⟩) h, ⟨[.string (bs (Str.mk [122]))], [.string (bs (Str.mk [119]))], rfl, (fun _ => ⟨rfl, by first | omega | (simp; done) | (dsimp only; omega) | exact lit_bl rfl⟩) h, ⟨[.string (bs (Str.mk [119]))], [], rfl, (fun _ => ⟨rfl, by first | omega | (simp; done) | (dsimp only; omega) | exact lit_bl rfl⟩) h, rfl⟩⟩⟩⟩)) ?_
 refine Oq (Vi sl35 0) ?_
 refine Fb 16 0 fun _ => ?_
 refine FoS 0 fun ho13 => ?_
 have hb14 := okS (i := rv6.1.toNat) ho13 rng
 refine Oq (VldS sh9 0) (Oq Va (KS ?_))
 have hq := q4 hrr (([(Str.mk [120]), (Str.mk [121]), (Str.mk [122]), (Str.mk [119])].getD rv6.1.toNat default), rv6.2) (by simp only [tp_name, hg7, cs4]); subst hq
 exact Kr () rfl (.tmp rfl .nil) [1] en
theorem fn17 (tP : Value) (ta : Option Addr) (tk : Nat) (tT : List Int) (tI : Int) (funcs : Int) (htI : 0 ≤ tI ∧ tI ≤ (tT.length : Int)) (hfuncs_0 : i64ok funcs) (hfu : funcs ≤ 3) (rr : GStmt × Int) (hrr : tp_stmt tT tI funcs = rr) : FT Tryz.prog 17 #[tP, vi funcs] [Cl tP [vl ta tk tT, vi tI], S ta tk tT] (fun g : Value × Value => i64ok rr.1.Op ∧ rr.1.Def.b.length ≤ 140737488355328 ∧ (0 ≤ rr.2 ∧ rr.2 ≤ (tT.length : Int))) (fun g => .agg #[vi rr.1.Op, .string (bs rr.1.Def), g.1, g.2]) (fun g => [os g.1 rr.1.Uses, os g.2 rr.1.Targets, Cl tP [vl ta tk tT, vi rr.2]]) := by
 refine FTi Tryz.func17 fun w0 M0 F0 => ?_
 unfold i64ok at hfuncs_0
 refine Fb 8 1 fun _ => Fo 1 fun ho2 => KS ?_
 refine Oa (Al ze37 [vi 0, .string (bs (Str.mk [])), .slice none 0 0, .slice none 0 0]) fun p3 => KS ?_
 refine Oq Vm ?_
 refine letv (tp_Next tT tI 9) fun rv4 hg5 => ?_
 have hc6 := fn15 tP ta tk tT tI 9 pre pre rv4 hg5
 refine Oc [1, 1] ca15 hc6 ?_
 rintro - ⟨he7, he8, he9⟩
 unfold i64ok at he7
 refine KS ?_
 refine Oq Veql (Oq Va (KS ?_))
 refine Kc ?_ ?_
 ·intro h10
  have g11 := eq_of_beq h10
  refine KS ?_
  refine Oq Vm ?_
  refine letv (tp_name tT rv4.2) fun rv12 hg13 => ?_
  have hc14 := fn19 tP ta tk tT rv4.2 pre rv12 hg13
  refine Oc [0, 1] ca19 hc14 ?_
  rintro - ⟨he15, he16⟩
  refine Oq Vm ?_
  refine letv (tp_name tT rv12.2) fun rv17 hg18 => ?_
  have hc19 := fn19 tP ta tk tT rv12.2 pre rv17 hg18
  refine Oc [0, 1] ca19 hc19 ?_
  rintro - ⟨he20, he21⟩
  refine Oa (AsV sl35 sz35 [.string (bs rv12.1), .string (bs rv17.1)] [.string (bs rv12.1), .string (bs rv17.1)]) fun c22 => ?_
  refine Jo 0 ?_; rintro a23 k24 rfl
  refine Oq Vm ?_
  refine letv (tp_Next tT rv17.2 2) fun rv25 hg26 => ?_
  have hc27 := fn15 tP ta tk tT rv17.2 2 pre pre rv25 hg26
  refine Oc [1, 2] ca15 hc27 ?_
  rintro - ⟨he28, he29, he30⟩
  unfold i64ok at he28
  refine Oq Vadd ?_
  refine Jl [1] (Ent.crOs (α := Str) (A := []) _ ([rv12.1, rv17.1] : List Str) _ aB1 (fun h => ⟨[.string (bs rv12.1)], [.string (bs rv17.1)], rfl, (fun _ => ⟨rfl, by first | omega | (simp; done) | (dsimp only; omega) | exact lit_bl rfl⟩) h, ⟨[.string (bs rv17.1)], [], rfl, (fun _ => ⟨rfl, by first | omega | (simp; done) | (dsimp only; omega) | exact lit_bl rfl⟩) h, rfl⟩⟩)) ?_
  refine Oa (AslO [0] sl35 0 (((1 + rv25.1) : Int).toNat)) fun c31 => ?_
  refine Jo 0 ?_; rintro a32 k33 rfl
  refine Fb 16 0 fun _ => ?_
  refine FoS 0 fun ho35 => ?_
  have hn36 : (([rv12.1, rv17.1].take (((1 + rv25.1) : Int).toNat)).drop 0).length = (((1 + rv25.1) : Int).toNat) - 0 := len_slice rng rng
  refine Oq (Vbd st37 [vi 2, .string (bs (Str.mk [])), .slice a32 ((([rv12.1, rv17.1].take (((1 + rv25.1) : Int).toNat)).drop 0).length) k33, .slice none 0 0]) (Ost (Scl [2] sh37 [vi 2, .string (bs (Str.mk [])), .slice a32 ((([rv12.1, rv17.1].take (((1 + rv25.1) : Int).toNat)).drop 0).length) k33, .slice none 0 0]) (KS ?_))
  refine Jl [] (Ent.osNil (α := Str)) ?_
  have hq := q4 hrr ((GStmt.mk 2 (Str.mk []) (([rv12.1, rv17.1].take (((1 + rv25.1) : Int).toNat)).drop 0) []), rv25.2) (by simp only [tp_stmt, h10, hg5, hg13, hg18, hg26, cs4]); subst hq
  exact Kr (.slice a32 ((([rv12.1, rv17.1].take (((1 + rv25.1) : Int).toNat)).drop 0).length) k33, .slice none 0 0) rfl (.cellN 1 rfl sh37 rfl (reads_Cl _ _) rfl .nil) [2, 0, 1] en
 intro h10
 have g37 := ne_of_beq_false h10
 refine KS ?_
 refine Oq Veql (Oq Va (KS ?_))
 refine Kc ?_ ?_
 ·intro h38
  have g39 := eq_of_beq h38
  refine KS ?_
  refine Oq Vm ?_
  refine letv (tp_name tT rv4.2) fun rv40 hg41 => ?_
  have hc42 := fn19 tP ta tk tT rv4.2 pre rv40 hg41
  refine Oc [0, 1] ca19 hc42 ?_
  rintro - ⟨he43, he44⟩
  refine Oq (Vbd st37 [vi 4, .string (bs rv40.1), .slice none 0 0, .slice none 0 0]) (Ost (Scl [1] sh37 [vi 4, .string (bs rv40.1), .slice none 0 0, .slice none 0 0]) (KS ?_))
  refine Jl [] (Ent.osNil (α := Str)) ?_
  refine Jl [] (Ent.osNil (α := Str)) ?_
  have hq := q4 hrr ((GStmt.mk 4 rv40.1 [] []), rv40.2) (by simp only [tp_stmt, h10, h38, hg5, hg41, cs4]); subst hq
  exact Kr (.slice none 0 0, .slice none 0 0) rfl (.cellN 2 rfl sh37 rfl (reads_Cl _ _) rfl .nil) [1, 0, 1] en
 intro h38
 have g45 := ne_of_beq_false h38
 refine KS ?_
 refine Oq Veql (Oq Va (KS ?_))
 refine Kc ?_ ?_
 ·intro h46
  have g47 := eq_of_beq h46
  refine KS ?_
  refine Oq Vm ?_
  refine letv (tp_name tT rv4.2) fun rv48 hg49 => ?_
  have hc50 := fn19 tP ta tk tT rv4.2 pre rv48 hg49
  refine Oc [0, 1] ca19 hc50 ?_
  rintro - ⟨he51, he52⟩
  refine Oa (AsV sl35 sz35 [.string (bs rv48.1)] [.string (bs rv48.1)]) fun c53 => ?_
  refine Jo 0 ?_; rintro a54 k55 rfl
  refine Oq (Vbd st37 [vi 5, .string (bs (Str.mk [])), .slice a54 1 k55, .slice none 0 0]) (Ost (Scl [2] sh37 [vi 5, .string (bs (Str.mk [])), .slice a54 1 k55, .slice none 0 0]) (KS ?_))
  refine Jl [1] (Ent.cr1 (α := Str) (A := []) _ rv48.1 _ aB1 (fun _ => ⟨rfl, aS1⟩)) ?_
  refine Jl [] (Ent.osNil (α := Str)) ?_
  have hq := q4 hrr ((GStmt.mk 5 (Str.mk []) [rv48.1] []), rv48.2) (by simp only [tp_stmt, h10, h38, h46, hg5, hg49, cs4]); subst hq
  exact Kr (.slice a54 1 k55, .slice none 0 0) rfl (.cellN 2 rfl sh37 rfl (reads_Cl _ _) rfl .nil) [1, 0, 1] en
 intro h46
 have g56 := ne_of_beq_false h46
 refine KS ?_
 refine Oq Veql (Oq Va (KS ?_))
 refine Kc ?_ ?_
 ·intro h57
  have g58 := eq_of_beq h57
  refine KS ?_
  refine Oq Vm ?_
  refine letv (tp_name tT rv4.2) fun rv59 hg60 => ?_
  have hc61 := fn19 tP ta tk tT rv4.2 pre rv59 hg60
  refine Oc [0, 1] ca19 hc61 ?_
  rintro - ⟨he62, he63⟩
  refine Oq (Vbd st37 [vi 6, .string (bs rv59.1), .slice none 0 0, .slice none 0 0]) (Ost (Scl [1] sh37 [vi 6, .string (bs rv59.1), .slice none 0 0, .slice none 0 0]) (KS ?_))
  refine Jl [] (Ent.osNil (α := Str)) ?_
  refine Jl [] (Ent.osNil (α := Str)) ?_
  have hq := q4 hrr ((GStmt.mk 6 rv59.1 [] []), rv59.2) (by simp only [tp_stmt, h10, h38, h46, h57, hg5, hg60, cs4]); subst hq
  exact Kr (.slice none 0 0, .slice none 0 0) rfl (.cellN 2 rfl sh37 rfl (reads_Cl _ _) rfl .nil) [1, 0, 1] en
 intro h57
 have g64 := ne_of_beq_false h57
 refine KS ?_
 refine Oq Veql (Oq Va (KS ?_))
 refine Kc ?_ ?_
 ·intro h65
  have g66 := eq_of_beq h65
  refine KS ?_
  refine Kc ?_ ?_
  ·intro h67
   have g68 := eq_of_beq h67
   refine KS ?_
   refine Oa (AsV sl35 sz35 [.string (bs (Str.mk [109])), .string (bs (Str.mk [102])), .string (bs (Str.mk [103]))] [.string (bs (Str.mk [109])), .string (bs (Str.mk [102])), .string (bs (Str.mk [103]))]) fun c69 => ?_
   refine Jo 0 ?_; rintro a70 k71 rfl
   refine Oq Vm (Oq Vm ?_)
   refine letv (tp_Next tT rv4.2 funcs) fun rv72 hg73 => ?_
   have hc74 := fn15 tP ta tk tT rv4.2 funcs pre pre rv72 hg73
   refine Oc [1, 2] ca15 hc74 ?_
   rintro - ⟨he75, he76, he77⟩
   unfold i64ok at he75
   refine Jl [1] (Ent.crOs (α := Str) (A := []) _ ([(Str.mk [109]), (Str.mk [102]), (Str.mk [103])] : List Str) _ aB1 (fun h => ⟨[.string (bs (Str.mk [109]))], [.string (bs (Str.mk [102])), .string (bs (Str.mk [103]))], rfl, (fun _ => ⟨rfl, by first | omega | (simp; done) | (dsimp only; omega) | exact lit_bl rfl⟩) h, ⟨[.string (bs (Str.mk [102]))], [.string (bs (Str.mk [103]))], rfl, (fun _ => ⟨rfl, by first | omega | (simp; done) | (dsimp only; omega) | exact lit_bl rfl⟩) h, ⟨[.string (bs (Str.mk [103]))], [], rfl, (fun _ => ⟨rfl, by first | omega | (simp; done) | (dsimp only; omega) | exact lit_bl rfl⟩) h, rfl⟩⟩⟩)) ?_
   refine Oq (Vi sl35 0) ?_
   refine Fb 16 0 fun _ => ?_
   refine FoS 0 fun ho79 => ?_
   have hb80 := okS (i := rv72.1.toNat) ho79 rng
   refine Oq (VldS sh9 0) (Oa (AsV sl35 sz35 [.string (bs ([(Str.mk [109]), (Str.mk [102]), (Str.mk [103])].getD rv72.1.toNat default))] [.string (bs ([(Str.mk [109]), (Str.mk [102]), (Str.mk [103])].getD rv72.1.toNat default))]) fun c81 => ?_)
   refine Jo 0 ?_; rintro a82 k83 rfl
   refine Oq (Vbd st37 [vi 3, .string (bs (Str.mk [])), .slice none 0 0, .slice a82 1 k83]) (Ost (Scl [3] sh37 [vi 3, .string (bs (Str.mk [])), .slice none 0 0, .slice a82 1 k83]) (KS ?_))
   refine Jl [] (Ent.osNil (α := Str)) ?_
   refine Jl [2] (Ent.cr1 (α := Str) (A := []) _ ([(Str.mk [109]), (Str.mk [102]), (Str.mk [103])].getD rv72.1.toNat default) _ aB1 (fun _ => ⟨rfl, aS1⟩)) ?_
   have hq := q4 hrr ((GStmt.mk 3 (Str.mk []) [] [([(Str.mk [109]), (Str.mk [102]), (Str.mk [103])].getD rv72.1.toNat default)]), rv72.2) (by simp only [tp_stmt, h10, h38, h46, h57, h65, h67, hg5, hg73, cs4]); subst hq
   exact Kr (.slice none 0 0, .slice a82 1 k83) rfl (.cellN 2 rfl sh37 rfl (reads_Cl _ _) rfl .nil) [1, 0, 2] en
  intro h67
  exact absurd h67 (by first | (simp [h65]; done) | (simp only [bne, h65]; decide) | (simp only [bne, h65, Bool.not_true, Bool.not_false]; decide) | (exfalso; omega) | (intro hq; simp only [bne, hq, Bool.not_false, Bool.not_true, reduceCtorEq] at h65))
 intro h65
 have g84 := ne_of_beq_false h65
 refine KS ?_
 refine Oq Veql (Oq Va (KS ?_))
 refine Kc ?_ ?_
 ·intro h85
  have g86 := eq_of_beq h85
  refine KS ?_
  refine Oa (AsV sl35 sz35 [.string (bs (Str.mk [109])), .string (bs (Str.mk [102])), .string (bs (Str.mk [103]))] [.string (bs (Str.mk [109])), .string (bs (Str.mk [102])), .string (bs (Str.mk [103]))]) fun c87 => ?_
  refine Jo 0 ?_; rintro a88 k89 rfl
  refine Oq Vm (Oq Vm ?_)
  refine letv (tp_Next tT rv4.2 funcs) fun rv90 hg91 => ?_
  have hc92 := fn15 tP ta tk tT rv4.2 funcs pre pre rv90 hg91
  refine Oc [1, 2] ca15 hc92 ?_
  rintro - ⟨he93, he94, he95⟩
  unfold i64ok at he93
  refine Jl [1] (Ent.crOs (α := Str) (A := []) _ ([(Str.mk [109]), (Str.mk [102]), (Str.mk [103])] : List Str) _ aB1 (fun h => ⟨[.string (bs (Str.mk [109]))], [.string (bs (Str.mk [102])), .string (bs (Str.mk [103]))], rfl, (fun _ => ⟨rfl, by first | omega | (simp; done) | (dsimp only; omega) | exact lit_bl rfl⟩) h, ⟨[.string (bs (Str.mk [102]))], [.string (bs (Str.mk [103]))], rfl, (fun _ => ⟨rfl, by first | omega | (simp; done) | (dsimp only; omega) | exact lit_bl rfl⟩) h, ⟨[.string (bs (Str.mk [103]))], [], rfl, (fun _ => ⟨rfl, by first | omega | (simp; done) | (dsimp only; omega) | exact lit_bl rfl⟩) h, rfl⟩⟩⟩)) ?_
  refine Oq (Vi sl35 0) ?_
  refine Fb 16 0 fun _ => ?_
  refine FoS 0 fun ho97 => ?_
  have hb98 := okS (i := rv90.1.toNat) ho97 rng
  refine Oq (VldS sh9 0) (Oa (AsV sl35 sz35 [.string (bs ([(Str.mk [109]), (Str.mk [102]), (Str.mk [103])].getD rv90.1.toNat default))] [.string (bs ([(Str.mk [109]), (Str.mk [102]), (Str.mk [103])].getD rv90.1.toNat default))]) fun c99 => ?_)
  refine Jo 0 ?_; rintro a100 k101 rfl
  refine Oq (Vbd st37 [vi 3, .string (bs (Str.mk [])), .slice none 0 0, .slice a100 1 k101]) (Ost (Scl [3] sh37 [vi 3, .string (bs (Str.mk [])), .slice none 0 0, .slice a100 1 k101]) (KS ?_))
  refine Jl [] (Ent.osNil (α := Str)) ?_
  refine Jl [2] (Ent.cr1 (α := Str) (A := []) _ ([(Str.mk [109]), (Str.mk [102]), (Str.mk [103])].getD rv90.1.toNat default) _ aB1 (fun _ => ⟨rfl, aS1⟩)) ?_
  have hq := q4 hrr ((GStmt.mk 3 (Str.mk []) [] [([(Str.mk [109]), (Str.mk [102]), (Str.mk [103])].getD rv90.1.toNat default)]), rv90.2) (by simp only [tp_stmt, h10, h38, h46, h57, h65, h85, hg5, hg91, cs4]); subst hq
  exact Kr (.slice none 0 0, .slice a100 1 k101) rfl (.cellN 2 rfl sh37 rfl (reads_Cl _ _) rfl .nil) [1, 0, 2] en
 intro h85
 have g102 := ne_of_beq_false h85
 refine KS ?_
 refine Oq Vm ?_
 refine letv (tp_name tT rv4.2) fun rv103 hg104 => ?_
 have hc105 := fn19 tP ta tk tT rv4.2 pre rv103 hg104
 refine Oc [0, 1] ca19 hc105 ?_
 rintro - ⟨he106, he107⟩
 refine Oq Vm ?_
 refine letv (tp_name tT rv103.2) fun rv108 hg109 => ?_
 have hc110 := fn19 tP ta tk tT rv103.2 pre rv108 hg109
 refine Oc [0, 1] ca19 hc110 ?_
 rintro - ⟨he111, he112⟩
 refine Oq Vm ?_
 refine letv (tp_name tT rv108.2) fun rv113 hg114 => ?_
 have hc115 := fn19 tP ta tk tT rv108.2 pre rv113 hg114
 refine Oc [0, 1] ca19 hc115 ?_
 rintro - ⟨he116, he117⟩
 refine Oq Vm ?_
 refine letv (tp_name tT rv113.2) fun rv118 hg119 => ?_
 have hc120 := fn19 tP ta tk tT rv113.2 pre rv118 hg119
 refine Oc [0, 1] ca19 hc120 ?_
 rintro - ⟨he121, he122⟩
 refine Oa (AsV sl35 sz35 [.string (bs rv108.1), .string (bs rv113.1), .string (bs rv118.1)] [.string (bs rv108.1), .string (bs rv113.1), .string (bs rv118.1)]) fun c123 => ?_
 refine Jo 0 ?_; rintro a124 k125 rfl
 refine Oq Vm ?_
 refine letv (tp_Next tT rv118.2 4) fun rv126 hg127 => ?_
 have hc128 := fn15 tP ta tk tT rv118.2 4 pre pre rv126 hg127
 refine Oc [1, 2] ca15 hc128 ?_
 rintro - ⟨he129, he130, he131⟩
 unfold i64ok at he129
 refine Jl [1] (Ent.crOs (α := Str) (A := []) _ ([rv108.1, rv113.1, rv118.1] : List Str) _ aB1 (fun h => ⟨[.string (bs rv108.1)], [.string (bs rv113.1), .string (bs rv118.1)], rfl, (fun _ => ⟨rfl, by first | omega | (simp; done) | (dsimp only; omega) | exact lit_bl rfl⟩) h, ⟨[.string (bs rv113.1)], [.string (bs rv118.1)], rfl, (fun _ => ⟨rfl, by first | omega | (simp; done) | (dsimp only; omega) | exact lit_bl rfl⟩) h, ⟨[.string (bs rv118.1)], [], rfl, (fun _ => ⟨rfl, by first | omega | (simp; done) | (dsimp only; omega) | exact lit_bl rfl⟩) h, rfl⟩⟩⟩)) ?_
 refine Oa (AslO [0] sl35 0 (rv126.1.toNat)) fun c132 => ?_
 refine Jo 0 ?_; rintro a133 k134 rfl
 refine Fb 16 0 fun _ => ?_
 refine FoS 0 fun ho136 => ?_
 have hn137 : (([rv108.1, rv113.1, rv118.1].take (rv126.1.toNat)).drop 0).length = (rv126.1.toNat) - 0 := len_slice rng rng
 refine Oq (Vbd st37 [vi 1, .string (bs rv103.1), vl a133 k134 (([rv108.1, rv113.1, rv118.1].take (rv126.1.toNat)).drop 0), .slice none 0 0]) (Ost (Scl [2] sh37 [vi 1, .string (bs rv103.1), vl a133 k134 (([rv108.1, rv113.1, rv118.1].take (rv126.1.toNat)).drop 0), .slice none 0 0]) (KS ?_))
 refine Jl [] (Ent.osNil (α := Str)) ?_
 have hq := q4 hrr ((GStmt.mk 1 rv103.1 (([rv108.1, rv113.1, rv118.1].take (rv126.1.toNat)).drop 0) []), rv126.2) (by simp only [tp_stmt, h10, h38, h46, h57, h65, h85, hg5, hg104, hg109, hg114, hg119, hg127, cs4]); subst hq
 exact Kr (vl a133 k134 (([rv108.1, rv113.1, rv118.1].take (rv126.1.toNat)).drop 0), .slice none 0 0) rfl (.cellN 1 rfl sh37 rfl (reads_Cl _ _) rfl .nil) [2, 0, 1] en
theorem fn18 (i : Int) (hi_0 : i64ok i) (hi2 : (0 ≤ i ∧ i < 3)) (rr : Str) (hrr : g_func2 i = rr) : FT Tryz.prog 18 #[vi i] [] (fun g : Unit => rr.b.length ≤ 140737488355328) (fun g => .string (bs rr)) (fun g => []) := by
 refine FTi Tryz.func18 fun w0 M0 F0 => ?_
 unfold i64ok at hi_0
 refine KS ?_
 refine Oq Va (KS ?_)
 refine Oa (AsV sl35 sz35 [.string (bs (Str.mk [97])), .string (bs (Str.mk [98])), .string (bs (Str.mk [99]))] [.string (bs (Str.mk [97])), .string (bs (Str.mk [98])), .string (bs (Str.mk [99]))]) fun c1 => ?_
 refine Jo 0 ?_; rintro a2 k3 rfl
 refine Oq Vm ?_
 refine Jl [0] (Ent.crOs (α := Str) (A := []) _ ([(Str.mk [97]), (Str.mk [98]), (Str.mk [99])] : List Str) _ aB1 (fun h => ⟨[.string (bs (Str.mk [97]))], [.string (bs (Str.mk [98])), .string (bs (Str.mk [99]))], rfl, (fun _ => ⟨rfl, by first | omega | (simp; done) | (dsimp only; omega) | exact lit_bl rfl⟩) h, ⟨[.string (bs (Str.mk [98]))], [.string (bs (Str.mk [99]))], rfl, (fun _ => ⟨rfl, by first | omega | (simp; done) | (dsimp only; omega) | exact lit_bl rfl⟩) h, ⟨[.string (bs (Str.mk [99]))], [], rfl, (fun _ => ⟨rfl, by first | omega | (simp; done) | (dsimp only; omega) | exact lit_bl rfl⟩) h, rfl⟩⟩⟩)) ?_
 refine Oq (Vi sl35 0) ?_
 refine Fb 16 0 fun _ => ?_
 refine FoS 0 fun ho5 => ?_
 have hb6 := okS (i := i.toNat) ho5 rng
 refine Oq (VldS sh9 0) (Oq Va (KS ?_))
 have hq := q4 hrr ([(Str.mk [97]), (Str.mk [98]), (Str.mk [99])].getD i.toNat default) (by simp only [g_func2, cs4]); subst hq
 exact Kr () rfl (.tmp rfl .nil) [] en
theorem fn6 (tP : Value) (ta : Option Addr) (tk : Nat) (tT : List Int) (tI : Int) (htI : 0 ≤ tI ∧ tI ≤ (tT.length : Int)) (rr : GProgram × Int) (hrr : tp_Program tT tI = rr) : FT Tryz.prog 6 #[tP] [Cl tP [vl ta tk tT, vi tI], S ta tk tT] (fun g : Value => (0 ≤ rr.2 ∧ rr.2 ≤ (tT.length : Int))) (fun g => .agg #[g]) (fun g => [sl g rr.1.Funcs, Cl tP [vl ta tk tT, vi rr.2]]) := by
 refine FTi Tryz.func6 fun w0 M0 F0 => Fb 8 1 fun _ => Fo 1 fun ho2 => ?_
 refine KS ?_
 refine Oa (Al ze25 [.slice none 0 0]) fun p3 => KS ?_
 refine Oa (Al ze25 [.slice none 0 0]) fun p4 => KS ?_
 refine Oq Vm ?_
 refine letv (tp_Next tT tI 3) fun rv5 hg6 => ?_
 have hc7 := fn15 tP ta tk tT tI 3 pre pre rv5 hg6
 refine Oc [2, 2] ca15 hc7 ?_
 rintro - ⟨he8, he9, he10⟩
 unfold i64ok at he8
 refine Oq Vadd (Oq Va (KS ?_))
 refine Oq Va (KS ?_)
 refine Jl [] (Ent.osNil (α := GFunc)) ?_
 refine Kl (γ := Nat × Int × List GFunc × Int × Option Addr × Nat) (fun (r11, ti_12, p0_13, i_14, a15, k16) => ⟨[(0, tP), (2, p3), (3, p4), (4, vi (1 + rv5.1)), (5, vi i_14)], [O a15 k16 p0_13, Cl tP [vl ta tk tT, vi ti_12], Cl p4 [vl a15 k16 p0_13], Cl p3 [.slice none 0 0], S ta tk tT], tp_Program_L0 tT (1 + rv5.1) r11 ti_12 p0_13 i_14 = tp_Program_L0 tT (1 + rv5.1) ((((1 + rv5.1) : Int) - 0).toNat) rv5.2 [] 0 ∧ r11 = (((1 + rv5.1) : Int) - i_14).toNat ∧ (0 : Int) ≤ i_14 ∧ (i_14 ≤ (1 + rv5.1) ∨ i_14 = 0) ∧ (-9223372036854775808 ≤ ti_12 ∧ ti_12 ≤ 9223372036854775807) ∧ (0 ≤ ti_12 ∧ ti_12 ≤ (tT.length : Int)) ∧ (-9223372036854775808 ≤ i_14 ∧ i_14 ≤ 9223372036854775807) ∧ ((p0_13.length : Int) = i_14), r11⟩) ((((1 + rv5.1) : Int) - 0).toNat, rv5.2, [], 0, none, 0) [0, 0, 0, 0, 0] ⟨rfl, rfl, aM1, (.inr rfl), aM1, aM1, aM1, iv0⟩ ?_
 rintro ⟨r11, ti_12, p0_13, i_14, a15, k16⟩ ⟨hM17, hr18, hi19, hi20, hk21, ht22, hk23, hv24⟩
 refine JJ_nx fun _ _ hL hA => ?_; dsimp only at hL hA; subst hL hA
 refine Fb 40 0 fun _ => Fb 8 4 fun _ => Fo 4 fun ho27 => KS ?_
 refine Oq Vm (Oq Vm (Oq Vlss (KS ?_)))
 refine Kc ?_ ?_
 ·intro h28
  have g29 := dt h28
  obtain ⟨r30, rfl⟩ := scc (n := r11) aM1
  refine KS ?_
  refine Oa (AsV sl35 sz35 [.string (bs (Str.mk [109])), .string (bs (Str.mk [102])), .string (bs (Str.mk [103]))] [.string (bs (Str.mk [109])), .string (bs (Str.mk [102])), .string (bs (Str.mk [103]))]) fun c31 => ?_
  refine Jo 0 ?_; rintro a32 k33 rfl
  refine Oq Vm ?_
  refine Jl [0] (Ent.crOs (α := Str) (A := []) _ ([(Str.mk [109]), (Str.mk [102]), (Str.mk [103])] : List Str) _ aB1 (fun h => ⟨[.string (bs (Str.mk [109]))], [.string (bs (Str.mk [102])), .string (bs (Str.mk [103]))], rfl, (fun _ => ⟨rfl, by first | omega | (simp; done) | (dsimp only; omega) | exact lit_bl rfl⟩) h, ⟨[.string (bs (Str.mk [102]))], [.string (bs (Str.mk [103]))], rfl, (fun _ => ⟨rfl, by first | omega | (simp; done) | (dsimp only; omega) | exact lit_bl rfl⟩) h, ⟨[.string (bs (Str.mk [103]))], [], rfl, (fun _ => ⟨rfl, by first | omega | (simp; done) | (dsimp only; omega) | exact lit_bl rfl⟩) h, rfl⟩⟩⟩)) ?_
  refine Oq (Vi sl35 0) ?_
  refine Fb 16 0 fun _ => ?_
  refine FoS 0 fun ho35 => ?_
  have hb36 := okS (i := i_14.toNat) ho35 rng
  refine Oq (VldS sh9 0) (Oq (Vbd st31 [.string (bs ([(Str.mk [109]), (Str.mk [102]), (Str.mk [103])].getD i_14.toNat default)), .slice none 0 0]) (Oa (Al ze31 [.string (bs (Str.mk [])), .slice none 0 0]) fun p37 => Ost (Scl [0] sh31 [.string (bs ([(Str.mk [109]), (Str.mk [102]), (Str.mk [103])].getD i_14.toNat default)), .slice none 0 0]) (KS ?_)))
  refine Oq Vm ?_
  refine letv (tp_Next tT ti_12 3) fun rv38 hg39 => ?_
  have hc40 := fn15 tP ta tk tT ti_12 3 pre pre rv38 hg39
  refine Oc [3, 5] ca15 hc40 ?_
  rintro - ⟨he41, he42, he43⟩
  unfold i64ok at he41
  refine Oq Vadd (Oq Va (KS ?_))
  refine Oq Va (KS ?_)
  refine Jl [] (Ent.osNil (α := GBlock)) ?_
  refine Kl (γ := Nat × Int × List GBlock × Int × Option Addr × Nat) (fun (r44, ti_45, f1_46, k_47, a48, k49) => ⟨[(0, tP), (2, p3), (3, p4), (4, vi (1 + rv5.1)), (5, vi i_14), (6, p37), (7, vi (1 + rv38.1)), (8, vi k_47)], [O a48 k49 f1_46, Cl tP [vl ta tk tT, vi ti_45], Cl p37 [.string (bs ([(Str.mk [109]), (Str.mk [102]), (Str.mk [103])].getD i_14.toNat default)), vl a48 k49 f1_46], O a15 k16 p0_13, Cl p4 [vl a15 k16 p0_13], Cl p3 [.slice none 0 0], S ta tk tT], tp_Program_L1 tT (1 + rv5.1) (1 + rv38.1) r44 ti_45 f1_46 k_47 = tp_Program_L1 tT (1 + rv5.1) (1 + rv38.1) ((((1 + rv38.1) : Int) - 0).toNat) rv38.2 [] 0 ∧ r44 = (((1 + rv38.1) : Int) - k_47).toNat ∧ (0 : Int) ≤ k_47 ∧ (k_47 ≤ (1 + rv38.1) ∨ k_47 = 0) ∧ (-9223372036854775808 ≤ ti_45 ∧ ti_45 ≤ 9223372036854775807) ∧ (0 ≤ ti_45 ∧ ti_45 ≤ (tT.length : Int)) ∧ (-9223372036854775808 ≤ k_47 ∧ k_47 ≤ 9223372036854775807) ∧ ((f1_46.length : Int) = k_47), r44⟩) ((((1 + rv38.1) : Int) - 0).toNat, rv38.2, [], 0, none, 0) [0, 0, 0, 1, 1, 1, 1] ⟨rfl, rfl, aM1, (.inr rfl), aM1, aM1, aM1, iv0⟩ ?_
  rintro ⟨r44, ti_45, f1_46, k_47, a48, k49⟩ ⟨hM50, hr51, hi52, hi53, hk54, ht55, hk56, hv57⟩
  refine JJ_nx fun _ _ hL hA => ?_; dsimp only at hL hA; subst hL hA
  refine Fb 40 0 fun _ => Fb 40 3 fun _ => Fb 8 6 fun _ => Fo 6 fun ho61 => KS ?_
  refine Oq Vm (Oq Vm (Oq Vlss (KS ?_)))
  refine Kc ?_ ?_
  ·intro h62
   have g63 := dt h62
   obtain ⟨r64, rfl⟩ := scc (n := r44) aM1
   refine KS ?_
   refine Oa (AsV sl35 sz35 [.string (bs (Str.mk [97])), .string (bs (Str.mk [98])), .string (bs (Str.mk [99]))] [.string (bs (Str.mk [97])), .string (bs (Str.mk [98])), .string (bs (Str.mk [99]))]) fun c65 => ?_
   refine Jo 0 ?_; rintro a66 k67 rfl
   refine Oq Vm ?_
   refine Jl [0] (Ent.crOs (α := Str) (A := []) _ ([(Str.mk [97]), (Str.mk [98]), (Str.mk [99])] : List Str) _ aB1 (fun h => ⟨[.string (bs (Str.mk [97]))], [.string (bs (Str.mk [98])), .string (bs (Str.mk [99]))], rfl, (fun _ => ⟨rfl, by first | omega | (simp; done) | (dsimp only; omega) | exact lit_bl rfl⟩) h, ⟨[.string (bs (Str.mk [98]))], [.string (bs (Str.mk [99]))], rfl, (fun _ => ⟨rfl, by first | omega | (simp; done) | (dsimp only; omega) | exact lit_bl rfl⟩) h, ⟨[.string (bs (Str.mk [99]))], [], rfl, (fun _ => ⟨rfl, by first | omega | (simp; done) | (dsimp only; omega) | exact lit_bl rfl⟩) h, rfl⟩⟩⟩)) ?_
   refine Oq (Vi sl35 0) ?_
   refine Fb 16 0 fun _ => ?_
   refine FoS 0 fun ho69 => ?_
   have hb70 := okS (i := k_47.toNat) ho69 rng
   refine Oq (VldS sh9 0) (Oq (Vbd st34 [.string (bs ([(Str.mk [97]), (Str.mk [98]), (Str.mk [99])].getD k_47.toNat default)), .slice none 0 0]) (Oa (Al ze34 [.string (bs (Str.mk [])), .slice none 0 0]) fun p71 => Ost (Scl [0] sh34 [.string (bs ([(Str.mk [97]), (Str.mk [98]), (Str.mk [99])].getD k_47.toNat default)), .slice none 0 0]) (KS ?_)))
   refine Oq Vm ?_
   refine letv (tp_Next tT ti_45 4) fun rv72 hg73 => ?_
   have hc74 := fn15 tP ta tk tT ti_45 4 pre pre rv72 hg73
   refine Oc [3, 7] ca15 hc74 ?_
   rintro - ⟨he75, he76, he77⟩
   unfold i64ok at he75
   refine Oq Va (KS ?_)
   refine Jl [] (Ent.osNil (α := GStmt)) ?_
   refine Kl (γ := Nat × Int × List GStmt × Int × Option Addr × Nat) (fun (r78, ti_79, b1_80, n_81, a82, k83) => ⟨[(0, tP), (2, p3), (3, p4), (4, vi (1 + rv5.1)), (5, vi i_14), (6, p37), (7, vi (1 + rv38.1)), (8, vi k_47), (9, p71), (10, vi n_81)], [O a82 k83 b1_80, Cl tP [vl ta tk tT, vi ti_79], Cl p71 [.string (bs ([(Str.mk [97]), (Str.mk [98]), (Str.mk [99])].getD k_47.toNat default)), vl a82 k83 b1_80], O a48 k49 f1_46, Cl p37 [.string (bs ([(Str.mk [109]), (Str.mk [102]), (Str.mk [103])].getD i_14.toNat default)), vl a48 k49 f1_46], O a15 k16 p0_13, Cl p4 [vl a15 k16 p0_13], Cl p3 [.slice none 0 0], S ta tk tT], tp_Program_L2 tT (1 + rv5.1) r78 ti_79 b1_80 n_81 = tp_Program_L2 tT (1 + rv5.1) (rv72.1.toNat) rv72.2 [] rv72.1 ∧ r78 = n_81.toNat ∧ n_81 ≤ (rv72.1 : Int) ∧ (-9223372036854775808 ≤ ti_79 ∧ ti_79 ≤ 9223372036854775807) ∧ (0 ≤ ti_79 ∧ ti_79 ≤ (tT.length : Int)) ∧ (-9223372036854775808 ≤ n_81 ∧ n_81 ≤ 9223372036854775807) ∧ ((b1_80.length : Int) + n_81 ≤ 3 ∧ 0 ≤ n_81), r78⟩) (rv72.1.toNat, rv72.2, [], rv72.1, none, 0) [0, 0, 0, 1, 1, 1, 1, 1, 1] ⟨rfl, rfl, aM1, aM1, aM1, aM1, iv0⟩ ?_
   rintro ⟨r78, ti_79, b1_80, n_81, a82, k83⟩ ⟨hM84, hr85, hi86, hk87, ht88, hk89, hv90⟩
   refine JJ_nx fun _ _ hL hA => ?_; dsimp only at hL hA; subst hL hA
   refine Fb 72 0 fun _ => Fb 40 3 fun _ => Fb 40 5 fun _ => Fb 8 8 fun _ => Fo 8 fun ho95 => KS ?_
   refine Oq Vm (Oq Vgtr (KS ?_))
   refine Kc ?_ ?_
   ·intro h96
    have g97 := dt h96
    obtain ⟨r98, rfl⟩ := scc (n := r78) aM1
    refine KS ?_
    refine Jp 2 fun hp99 => ?_
    refine JK_drawK [0, 1, 0, 0, 12, 28, 63, 127, 255] fmix ?_
    refine Dv [0] (Vfa fo34_1 0) (Dv [3] (VldF sh32 0) (Dv [] Vm (Dv [] Vm ?_)))
    refine letv (tp_stmt tT ti_79 (1 + rv5.1)) fun rv102 hg103 => ?_
    refine Dx [2, 9] [2] [4, 0, 1, 1, 1] (fun G => .agg #[vi rv102.1.Op, .string (bs rv102.1.Def), (G.g 4 0), (G.g 4 1)]) [fun G => SP.fact (i64ok rv102.1.Op ∧ rv102.1.Def.b.length ≤ 140737488355328 ∧ (0 ≤ rv102.2 ∧ rv102.2 ≤ (tT.length : Int))), fun G => os (G.g 4 0) rv102.1.Uses, fun G => os (G.g 4 1) rv102.1.Targets, fun G => Cl tP [vl ta tk tT, vi rv102.2]] (fun G => xC [0, 0] ca17 (fn17 tP ta tk tT ti_79 ((1 + rv5.1)) pre pre pre rv102 hg103)) (Dx [] [] [0] (fun G => (G.g 5 0)) [fun G => Cr (G.g 5 0) 1 [vi rv102.1.Op, .string (bs rv102.1.Def), (G.g 4 0), (G.g 4 1)]] (fun G => xA (AsV sl32 sz32 [.agg #[vi rv102.1.Op, .string (bs rv102.1.Def), (G.g 4 0), (G.g 4 1)]] [vi rv102.1.Op, .string (bs rv102.1.Def), (G.g 4 0), (G.g 4 1)])) ?_)
    have hn106 := la b1_80 ([rv102.1] : List GStmt)
    refine Dx [1, 10, 11, 12, 14] [1, 11, 12, 14] [5, 1, 2, 0] (fun G => (G.g 6 0)) [fun G => sl (G.g 4 0) rv102.1.Uses, fun G => sl (G.g 4 1) rv102.1.Targets, fun G => os (G.g 6 0) ((b1_80 ++ [rv102.1]) : List GStmt)] (fun G => by refine xf 1 rfl ?_; rintro ⟨he107, he108, he109⟩; unfold i64ok at he107; exact xp [2] rfl (Ent.freeze _ _) (xp [3] rfl (Ent.freeze _ _) (xp [4, 1, 0] rfl (Ent.cr1 (α := GStmt) (A := [sl (G.g 4 0) rv102.1.Uses, sl (G.g 4 1) rv102.1.Targets]) _ rv102.1 _ aB1 (fun h => ⟨_, _, rfl, aL1, aS1, sepAll_get (i := 0) rfl h, sepAll_get (i := 1) rfl h⟩)) (xA (ApO [5, 0] sl32 sl32 sz32))))) (Dv [0] (Vfa fo34_1 0) (Dx0 [3, 17] [3] [1, 0] [fun G => Cl p71 [.string (bs ([(Str.mk [97]), (Str.mk [98]), (Str.mk [99])].getD k_47.toNat default)), (G.g 6 0)]] (fun G => x1 1 rfl os_one fun ho110 => (xS (OpS.frame [0] rfl (OpS.storeClF [(G.g 6 0)] [.string (bs ([(Str.mk [97]), (Str.mk [98]), (Str.mk [99])].getD k_47.toNat default)), (G.g 6 0)] rfl rfl rfl sh32 (cells_of_one ho110) rfl (by simp only [List.all_cons, List.all_nil, ho110, Bool.and_true, Bool.true_and] <;> rfl) aB1 rfl)))) ?_))
    refine Dn ⟨by kernel_rfl, fun G => ?_⟩
    refine Jw2 [(0, tP), (2, p3), (3, p4), (4, vi (1 + rv5.1)), (5, vi i_14), (6, p37), (7, vi (1 + rv38.1)), (8, vi k_47), (9, p71), (10, vi n_81)] [0, 4, 5, 6, 7, 8, 9] [SP.fact (i64ok rv102.1.Op ∧ rv102.1.Def.b.length ≤ 140737488355328 ∧ (0 ≤ rv102.2 ∧ rv102.2 ≤ (tT.length : Int))), Cl tP [vl ta tk tT, vi rv102.2], sl (G.g 4 0) rv102.1.Uses, sl (G.g 4 1) rv102.1.Targets, os (G.g 6 0) ((b1_80 ++ [rv102.1]) : List GStmt), Cl p71 [.string (bs ([(Str.mk [97]), (Str.mk [98]), (Str.mk [99])].getD k_47.toNat default)), (G.g 6 0)]] ?_
    generalize G.g 4 0 = c100, G.g 4 1 = c101, G.g 6 0 = c105
    refine Jf 7 rfl ?_; rintro ⟨he111, he112, he113⟩
    unfold i64ok at he111
    refine Jk [1, 1, 1, 1, 1, 1, 3, 3, 4, 5, 5] ?_
    refine Jo 7 ?_; rintro a114 k115 rfl
    refine Fb 16 7 fun _ => ?_
    refine FoS 7 fun ho117 => ?_
    refine Jo 8 ?_; rintro a118 k119 rfl
    refine Fb 16 8 fun _ => ?_
    refine FoS 8 fun ho121 => ?_
    refine Jo 9 ?_; rintro a122 k123 rfl
    refine Fb 72 9 fun _ => KS ?_
    refine Oq Vm (Oq Vsub (Oq Va (KS ?_)))
    exact Kg (r98, rv102.2, (b1_80 ++ [rv102.1]), (n_81 - 1), a122, k123) [9, 6, 8, 0, 0, 0, 0, 0, 0] ⟨(q3 hM84 (by simp only [tp_Program_L2, h96, hg103, cs4])), aM1, aM1, aM1, aM1, aM1, iv1⟩
   intro h96
   have g125 := df h96
   obtain rfl : r78 = 0 := by omega
   refine Ke ?_
   have hR126 := q2 hM84 (ti_79, b1_80) (by simp only [tp_Program_L2, h96, cs4])
   refine KS ?_
   refine Oq Vm (Oq Vm ?_)
   refine letv (tp_Next tT ti_79 (1 + rv38.1)) fun rv127 hg128 => ?_
   have hc129 := fn15 tP ta tk tT ti_79 ((1 + rv38.1)) pre pre rv127 hg128
   refine Oc [1, 7] ca15 hc129 ?_
   rintro - ⟨he130, he131, he132⟩
   unfold i64ok at he130
   refine letv (g_func2 rv127.1) fun rv133 hg134 => ?_
   have hc135 := fn18 rv127.1 pre pre rv133 hg134
   refine Oc [] ca18 hc135 ?_
   rintro - he136
   refine Oq Va (KS ?_)
   refine Oq Vm ?_
   refine letv (tp_Next tT rv127.2 4) fun rv137 hg138 => ?_
   have hc139 := fn15 tP ta tk tT rv127.2 4 pre pre rv137 hg138
   refine Oc [0, 7] ca15 hc139 ?_
   rintro - ⟨he140, he141, he142⟩
   unfold i64ok at he140
   refine KS ?_
   refine Oq Veql (Oq Va (KS ?_))
   refine Kc ?_ ?_
   ·intro h143
    have g144 := eq_of_beq h143
    refine KS ?_
    refine Oq (Vfa fo34_1 2) (Oq (VldF sh32 2) (Oq (Vbd st37 [vi 9, .string (bs (Str.mk [])), .slice none 0 0, .slice none 0 0]) (Oa (AsV sl32 sz32 [.agg #[vi 9, .string (bs (Str.mk [])), .slice none 0 0, .slice none 0 0]] [vi 9, .string (bs (Str.mk [])), .slice none 0 0, .slice none 0 0]) fun c145 => ?_)))
    refine Jo 0 ?_; rintro a146 k147 rfl
    refine Jl [0] (Ent.cr1 (α := GStmt) (A := []) _ (GStmt.mk 9 (Str.mk []) [] []) _ aB1 (fun h => ⟨_, _, rfl, aL1, aS1, slrd_nil, slrd_nil⟩)) ?_
    refine Oa (ApO [2, 0] sl32 sl32 sz32) fun c148 => ?_
    refine Jo 0 ?_; rintro a149 k150 rfl
    refine Fb 72 0 fun _ => ?_
    have hn152 := la b1_80 ([(GStmt.mk 9 (Str.mk []) [] [])] : List GStmt)
    refine Oq (Vfa fo34_1 2) (Ost (SclF [2] sh32 [.string (bs ([(Str.mk [97]), (Str.mk [98]), (Str.mk [99])].getD k_47.toNat default)), vl a149 k150 (b1_80 ++ [(GStmt.mk 9 (Str.mk []) [] [])])]) (KS ?_))
    refine Oq (Vfa fo31_1 4) (Oq (VldF sh29 4) (Oq (VldA sh34 0) (Oa (AsV sl29 sz29 [.agg #[.string (bs ([(Str.mk [97]), (Str.mk [98]), (Str.mk [99])].getD k_47.toNat default)), vl a149 k150 (b1_80 ++ [(GStmt.mk 9 (Str.mk []) [] [])])]] [.string (bs ([(Str.mk [97]), (Str.mk [98]), (Str.mk [99])].getD k_47.toNat default)), vl a149 k150 (b1_80 ++ [(GStmt.mk 9 (Str.mk []) [] [])])]) fun c153 => ?_)))
    refine Jo 0 ?_; rintro a154 k155 rfl
    refine Jl [2] (Ent.freeze _ _) ?_
    refine Jl [1, 0] (Ent.cr1 (α := GBlock) (A := [S a149 k150 ((b1_80 ++ [(GStmt.mk 9 (Str.mk []) [] [])]) : List GStmt)]) _ (GBlock.mk ([(Str.mk [97]), (Str.mk [98]), (Str.mk [99])].getD k_47.toNat default) (b1_80 ++ [(GStmt.mk 9 (Str.mk []) [] [])])) _ aB1 (fun h => ⟨_, rfl, aS1, sepAll_get (i := 0) rfl h⟩)) ?_
    refine Oa (ApO [5, 0] sl29 sl29 sz29) fun c156 => ?_
    refine Jo 0 ?_; rintro a157 k158 rfl
    refine Fb 40 0 fun _ => ?_
    have hn160 := la f1_46 ([(GBlock.mk ([(Str.mk [97]), (Str.mk [98]), (Str.mk [99])].getD k_47.toNat default) (b1_80 ++ [(GStmt.mk 9 (Str.mk []) [] [])]))] : List GBlock)
    refine Oq (Vfa fo31_1 5) (Ost (SclF [5] sh29 [.string (bs ([(Str.mk [109]), (Str.mk [102]), (Str.mk [103])].getD i_14.toNat default)), .slice a157 ((f1_46 ++ [(GBlock.mk ([(Str.mk [97]), (Str.mk [98]), (Str.mk [99])].getD k_47.toNat default) (b1_80 ++ [(GStmt.mk 9 (Str.mk []) [] [])]))]).length) k158]) (KS ?_))
    refine Oq Vm (Oq Vadd (Oq Va (KS ?_)))
    exact Kg (r64, rv137.2, (f1_46 ++ [(GBlock.mk ([(Str.mk [97]), (Str.mk [98]), (Str.mk [99])].getD k_47.toNat default) (b1_80 ++ [(GStmt.mk 9 (Str.mk []) [] [])]))]), (k_47 + 1), a157, k158) [1, 4, 0, 3, 3, 3, 3] ⟨(q3 hM50 (by simp only [tp_Program_L1, h62, h96, h143, hg73, hR126, hg128, hg134, hg138, cs4])), aM1, aM1, aM1, aM1, aM1, aM1, iv1⟩
   intro h143
   have g161 := ne_of_beq_false h143
   refine KS ?_
   refine Oq Veql (Oq Va (KS ?_))
   refine Kc ?_ ?_
   ·intro h162
    have g163 := eq_of_beq h162
    refine KS ?_
    refine Oq (Vfa fo34_1 2) (Oq (VldF sh32 2) (Oq Vm (Oa (AsV sl35 sz35 [.string (bs rv133)] [.string (bs rv133)]) fun c164 => ?_)))
    refine Jo 0 ?_; rintro a165 k166 rfl
    refine Oq (Vbd st37 [vi 7, .string (bs (Str.mk [])), .slice none 0 0, .slice a165 1 k166]) (Oa (AsV sl32 sz32 [.agg #[vi 7, .string (bs (Str.mk [])), .slice none 0 0, .slice a165 1 k166]] [vi 7, .string (bs (Str.mk [])), .slice none 0 0, .slice a165 1 k166]) fun c167 => ?_)
    refine Jo 0 ?_; rintro a168 k169 rfl
    refine Jl [1] (Ent.cr1 (α := Str) (A := []) _ rv133 _ aB1 (fun _ => ⟨rfl, aS1⟩)) ?_
    refine Jl [0] (Ent.freeze _ _) ?_
    refine Jl [1, 0] (Ent.cr1 (α := GStmt) (A := [sl (.slice a165 1 k166) ([rv133] : List Str)]) _ (GStmt.mk 7 (Str.mk []) [] [rv133]) _ aB1 (fun h => ⟨_, _, rfl, aL1, aS1, slrd_nil, sepAll_get (i := 0) rfl h⟩)) ?_
    refine Oa (ApO [4, 0] sl32 sl32 sz32) fun c170 => ?_
    refine Jo 0 ?_; rintro a171 k172 rfl
    refine Fb 72 0 fun _ => ?_
    have hn174 := la b1_80 ([(GStmt.mk 7 (Str.mk []) [] [rv133])] : List GStmt)
    refine Oq (Vfa fo34_1 4) (Ost (SclF [4] sh32 [.string (bs ([(Str.mk [97]), (Str.mk [98]), (Str.mk [99])].getD k_47.toNat default)), vl a171 k172 (b1_80 ++ [(GStmt.mk 7 (Str.mk []) [] [rv133])])]) (KS ?_))
    refine Oq (Vfa fo31_1 6) (Oq (VldF sh29 6) (Oq (VldA sh34 0) (Oa (AsV sl29 sz29 [.agg #[.string (bs ([(Str.mk [97]), (Str.mk [98]), (Str.mk [99])].getD k_47.toNat default)), vl a171 k172 (b1_80 ++ [(GStmt.mk 7 (Str.mk []) [] [rv133])])]] [.string (bs ([(Str.mk [97]), (Str.mk [98]), (Str.mk [99])].getD k_47.toNat default)), vl a171 k172 (b1_80 ++ [(GStmt.mk 7 (Str.mk []) [] [rv133])])]) fun c175 => ?_)))
    refine Jo 0 ?_; rintro a176 k177 rfl
    refine Jl [2] (Ent.freeze _ _) ?_
    refine Jl [1, 0] (Ent.cr1 (α := GBlock) (A := [S a171 k172 ((b1_80 ++ [(GStmt.mk 7 (Str.mk []) [] [rv133])]) : List GStmt)]) _ (GBlock.mk ([(Str.mk [97]), (Str.mk [98]), (Str.mk [99])].getD k_47.toNat default) (b1_80 ++ [(GStmt.mk 7 (Str.mk []) [] [rv133])])) _ aB1 (fun h => ⟨_, rfl, aS1, sepAll_get (i := 0) rfl h⟩)) ?_
    refine Oa (ApO [7, 0] sl29 sl29 sz29) fun c178 => ?_
    refine Jo 0 ?_; rintro a179 k180 rfl
    refine Fb 40 0 fun _ => ?_
    have hn182 := la f1_46 ([(GBlock.mk ([(Str.mk [97]), (Str.mk [98]), (Str.mk [99])].getD k_47.toNat default) (b1_80 ++ [(GStmt.mk 7 (Str.mk []) [] [rv133])]))] : List GBlock)
    refine Oq (Vfa fo31_1 7) (Ost (SclF [7] sh29 [.string (bs ([(Str.mk [109]), (Str.mk [102]), (Str.mk [103])].getD i_14.toNat default)), .slice a179 ((f1_46 ++ [(GBlock.mk ([(Str.mk [97]), (Str.mk [98]), (Str.mk [99])].getD k_47.toNat default) (b1_80 ++ [(GStmt.mk 7 (Str.mk []) [] [rv133])]))]).length) k180]) (KS ?_))
    refine Oq Vm (Oq Vadd (Oq Va (KS ?_)))
    exact Kg (r64, rv137.2, (f1_46 ++ [(GBlock.mk ([(Str.mk [97]), (Str.mk [98]), (Str.mk [99])].getD k_47.toNat default) (b1_80 ++ [(GStmt.mk 7 (Str.mk []) [] [rv133])]))]), (k_47 + 1), a179, k180) [1, 6, 0, 5, 5, 5, 5] ⟨(q3 hM50 (by simp only [tp_Program_L1, h62, h96, h143, h162, hg73, hR126, hg128, hg134, hg138, cs4])), aM1, aM1, aM1, aM1, aM1, aM1, iv1⟩
   intro h162
   have g183 := ne_of_beq_false h162
   refine Jp 2 fun hp184 => ?_
   refine JK_drawK [0, 1, 0, 4, 12, 0, 0, 0, 204, 460, 1004, 2044, 4092, 8191, 16383, 32767] fmix ?_
   refine Dv [0] (Vfa fo34_1 0) (Dv [3] (VldF sh32 0) (Dv [] Vm ?_))
   refine letv (tp_name tT rv137.2) fun rv185 hg186 => ?_
   refine Dx [1, 9] [1] [2, 0, 1] (fun G => .string (bs rv185.1)) [fun G => SP.fact (rv185.1.b.length ≤ 140737488355328 ∧ (0 ≤ rv185.2 ∧ rv185.2 ≤ (tT.length : Int))), fun G => Cl tP [vl ta tk tT, vi rv185.2]] (fun G => xC [0, 0] ca19 (fn19 tP ta tk tT rv137.2 pre rv185 hg186)) (Dx [] [] [0] (fun G => (G.g 4 0)) [fun G => Cr (G.g 4 0) 1 [.string (bs rv185.1)]] (fun G => xA (AsV sl35 sz35 [.string (bs rv185.1)] [.string (bs rv185.1)])) (Dv [] Vm (Dv [] Vm (Dv [] Vm ?_))))
   refine letv (tp_Next tT rv185.2 (1 + rv38.1)) fun rv188 hg189 => ?_
   refine Dx [9, 10, 11] [11] [2, 3, 0, 1] (fun G => vi rv188.1) [fun G => SP.fact (i64ok rv188.1 ∧ (0 ≤ rv188.2 ∧ rv188.2 ≤ (tT.length : Int)) ∧ (0 ≤ rv188.1 ∧ (rv188.1 < (1 + rv38.1) ∨ rv188.1 = 0))), fun G => Cl tP [vl ta tk tT, vi rv188.2]] (fun G => by refine xf 1 rfl ?_; rintro ⟨he190, he191⟩; exact xC [2, 0] ca15 (fn15 tP ta tk tT rv185.2 ((1 + rv38.1)) pre pre rv188 hg189)) ?_
   refine letv (g_func2 rv188.1) fun rv192 hg193 => ?_
   refine Dx [13] [] [1, 0] (fun G => .string (bs rv192)) [fun G => SP.fact (rv192.b.length ≤ 140737488355328)] (fun G => by refine xf 0 rfl ?_; rintro ⟨he194, he195, he196⟩; unfold i64ok at he194; exact xC [] ca18 (fn18 rv188.1 pre pre rv192 hg193)) (Dx [] [] [0] (fun G => (G.g 10 0)) [fun G => Cr (G.g 10 0) 2 [.string (bs rv133), .string (bs rv192)]] (fun G => xA (AsV sl35 sz35 [.string (bs rv133), .string (bs rv192)] [.string (bs rv133), .string (bs rv192)])) ?_)
   refine Dx [12, 16] [] [0, 0] (fun G => .agg #[vi 8, .string (bs (Str.mk [])), (G.g 4 0), (G.g 10 0)]) [] (fun G => xV (v := .agg #[vi 8, .string (bs (Str.mk [])), (G.g 4 0), (G.g 10 0)]) (Vo 0 rfl (isO_Cr _ _ _) fun aq198 kq199 eq200 => (by rw [eq200]; exact Vo 1 rfl (isO_Cr _ _ _) fun aq201 kq202 eq203 => (by rw [eq203]; exact Vbd st37 [vi 8, .string (bs (Str.mk [])), .slice aq198 1 kq199, .slice aq201 2 kq202])))) (Dx [] [] [0] (fun G => (G.g 12 0)) [fun G => Cr (G.g 12 0) 1 [vi 8, .string (bs (Str.mk [])), (G.g 4 0), (G.g 10 0)]] (fun G => xA (AsV sl32 sz32 [.agg #[vi 8, .string (bs (Str.mk [])), (G.g 4 0), (G.g 10 0)]] [vi 8, .string (bs (Str.mk [])), (G.g 4 0), (G.g 10 0)])) ?_)
   have hn206 := la b1_80 ([(GStmt.mk 8 (Str.mk []) [rv185.1] [rv133, rv192])] : List GStmt)
   refine Dx [2, 10, 12, 15, 16, 17] [2, 12, 16, 17] [5, 6, 1, 2, 0] (fun G => (G.g 13 0)) [fun G => sl (G.g 4 0) ([rv185.1] : List Str), fun G => sl (G.g 10 0) ([rv133, rv192] : List Str), fun G => os (G.g 13 0) ((b1_80 ++ [(GStmt.mk 8 (Str.mk []) [rv185.1] [rv133, rv192])]) : List GStmt)] (fun G => by refine xf 1 rfl ?_; rintro ⟨he207, he208⟩; refine xf 3 rfl ?_; rintro he209; exact xp [2] rfl (Ent.cr1 (α := Str) (A := []) _ rv185.1 _ aB1 (fun _ => ⟨rfl, aS1⟩)) (xp [0] rfl (Ent.freeze _ _) (xp [4] rfl (Ent.crOs (α := Str) (A := []) _ ([rv133, rv192] : List Str) _ aB1 (fun h => ⟨[.string (bs rv133)], [.string (bs rv192)], rfl, (fun _ => ⟨rfl, by first | omega | (simp; done) | (dsimp only; omega) | exact lit_bl rfl⟩) h, ⟨[.string (bs rv192)], [], rfl, (fun _ => ⟨rfl, by first | omega | (simp; done) | (dsimp only; omega) | exact lit_bl rfl⟩) h, rfl⟩⟩)) (xp [0] rfl (Ent.freeze _ _) (xp [5, 1, 0] rfl (Ent.cr1 (α := GStmt) (A := [sl (G.g 4 0) ([rv185.1] : List Str), sl (G.g 10 0) ([rv133, rv192] : List Str)]) _ (GStmt.mk 8 (Str.mk []) [rv185.1] [rv133, rv192]) _ aB1 (fun h => ⟨_, _, rfl, aL1, aS1, sepAll_get (i := 0) rfl h, sepAll_get (i := 1) rfl h⟩)) (xA (ApO [5, 0] sl32 sl32 sz32))))))) (Dv [0] (Vfa fo34_1 0) (Dx0 [3, 20] [3] [1, 0] [fun G => Cl p71 [.string (bs ([(Str.mk [97]), (Str.mk [98]), (Str.mk [99])].getD k_47.toNat default)), (G.g 13 0)]] (fun G => x1 1 rfl os_one fun ho210 => (xS (OpS.frame [0] rfl (OpS.storeClF [(G.g 13 0)] [.string (bs ([(Str.mk [97]), (Str.mk [98]), (Str.mk [99])].getD k_47.toNat default)), (G.g 13 0)] rfl rfl rfl sh32 (cells_of_one ho210) rfl (by simp only [List.all_cons, List.all_nil, ho210, Bool.and_true, Bool.true_and] <;> rfl) aB1 rfl)))) ?_))
   refine Dn ⟨by kernel_rfl, fun G => ?_⟩
   refine Jw2 [(0, tP), (2, p3), (3, p4), (4, vi (1 + rv5.1)), (5, vi i_14), (6, p37), (7, vi (1 + rv38.1)), (8, vi k_47), (9, p71)] [0, 4, 5, 6, 7, 8, 9] [SP.fact (rv185.1.b.length ≤ 140737488355328 ∧ (0 ≤ rv185.2 ∧ rv185.2 ≤ (tT.length : Int))), SP.fact (i64ok rv188.1 ∧ (0 ≤ rv188.2 ∧ rv188.2 ≤ (tT.length : Int)) ∧ (0 ≤ rv188.1 ∧ (rv188.1 < (1 + rv38.1) ∨ rv188.1 = 0))), Cl tP [vl ta tk tT, vi rv188.2], SP.fact (rv192.b.length ≤ 140737488355328), sl (G.g 4 0) ([rv185.1] : List Str), sl (G.g 10 0) ([rv133, rv192] : List Str), os (G.g 13 0) ((b1_80 ++ [(GStmt.mk 8 (Str.mk []) [rv185.1] [rv133, rv192])]) : List GStmt), Cl p71 [.string (bs ([(Str.mk [97]), (Str.mk [98]), (Str.mk [99])].getD k_47.toNat default)), (G.g 13 0)]] ?_
   generalize G.g 4 0 = c187, G.g 10 0 = c197, G.g 13 0 = c205
   refine Jf 7 rfl ?_; rintro ⟨he211, he212⟩
   refine Jf 8 rfl ?_; rintro ⟨he213, he214, he215⟩
   unfold i64ok at he213
   refine Jf 10 rfl ?_; rintro he216
   refine Jk [1, 1, 1, 1, 1, 1, 4, 5, 6, 7, 7] ?_
   refine Jo 7 ?_; rintro a217 k218 rfl
   refine Fb 16 7 fun _ => ?_
   refine FoS 7 fun ho220 => ?_
   refine Jo 8 ?_; rintro a221 k222 rfl
   refine Fb 16 8 fun _ => ?_
   refine FoS 8 fun ho224 => ?_
   refine Jo 9 ?_; rintro a225 k226 rfl
   refine Fb 72 9 fun _ => KS ?_
   refine Oq (Vfa fo31_1 1) (Oq (VldF sh29 1) (Oq (VldA sh34 10) (Oa (AsV sl29 sz29 [.agg #[.string (bs ([(Str.mk [97]), (Str.mk [98]), (Str.mk [99])].getD k_47.toNat default)), vl a225 k226 (b1_80 ++ [(GStmt.mk 8 (Str.mk []) [rv185.1] [rv133, rv192])])]] [.string (bs ([(Str.mk [97]), (Str.mk [98]), (Str.mk [99])].getD k_47.toNat default)), vl a225 k226 (b1_80 ++ [(GStmt.mk 8 (Str.mk []) [rv185.1] [rv133, rv192])])]) fun c228 => ?_)))
   refine Jo 0 ?_; rintro a229 k230 rfl
   refine Jl [10] (Ent.freeze _ _) ?_
   refine Jl [1, 0] (Ent.cr1 (α := GBlock) (A := [S a225 k226 ((b1_80 ++ [(GStmt.mk 8 (Str.mk []) [rv185.1] [rv133, rv192])]) : List GStmt)]) _ (GBlock.mk ([(Str.mk [97]), (Str.mk [98]), (Str.mk [99])].getD k_47.toNat default) (b1_80 ++ [(GStmt.mk 8 (Str.mk []) [rv185.1] [rv133, rv192])])) _ aB1 (fun h => ⟨_, rfl, aS1, sepAll_get (i := 0) rfl h⟩)) ?_
   refine Oa (ApO [3, 0] sl29 sl29 sz29) fun c231 => ?_
   refine Jo 0 ?_; rintro a232 k233 rfl
   refine Fb 40 0 fun _ => ?_
   have hn235 := la f1_46 ([(GBlock.mk ([(Str.mk [97]), (Str.mk [98]), (Str.mk [99])].getD k_47.toNat default) (b1_80 ++ [(GStmt.mk 8 (Str.mk []) [rv185.1] [rv133, rv192])]))] : List GBlock)
   refine Oq (Vfa fo31_1 3) (Ost (SclF [3] sh29 [.string (bs ([(Str.mk [109]), (Str.mk [102]), (Str.mk [103])].getD i_14.toNat default)), .slice a232 ((f1_46 ++ [(GBlock.mk ([(Str.mk [97]), (Str.mk [98]), (Str.mk [99])].getD k_47.toNat default) (b1_80 ++ [(GStmt.mk 8 (Str.mk []) [rv185.1] [rv133, rv192])]))]).length) k233]) (KS ?_))
   refine Oq Vm (Oq Vadd (Oq Va (KS ?_)))
   exact Kg (r64, rv188.2, (f1_46 ++ [(GBlock.mk ([(Str.mk [97]), (Str.mk [98]), (Str.mk [99])].getD k_47.toNat default) (b1_80 ++ [(GStmt.mk 8 (Str.mk []) [rv185.1] [rv133, rv192])]))]), (k_47 + 1), a232, k233) [1, 7, 0, 2, 2, 2, 2] ⟨(q3 hM50 (by simp only [tp_Program_L1, h62, h96, h143, h162, hg73, hR126, hg128, hg134, hg138, hg186, hg189, hg193, cs4])), aM1, aM1, aM1, aM1, aM1, aM1, iv1⟩
  intro h62
  have g236 := df h62
  obtain rfl : r44 = 0 := by omega
  refine Ke ?_
  have hR237 := q2 hM50 (ti_45, f1_46) (by simp only [tp_Program_L1, h62, cs4])
  refine KS ?_
  refine Oq (Vfa fo25_0 4) (Oq (VldF sh23 4) (Oq (VldA sh31 2) (Oa (AsV sl23 sz23 [.agg #[.string (bs ([(Str.mk [109]), (Str.mk [102]), (Str.mk [103])].getD i_14.toNat default)), vl a48 k49 f1_46]] [.string (bs ([(Str.mk [109]), (Str.mk [102]), (Str.mk [103])].getD i_14.toNat default)), vl a48 k49 f1_46]) fun c238 => ?_)))
  refine Jo 0 ?_; rintro a239 k240 rfl
  refine Jl [1] (Ent.freeze _ _) ?_
  refine Jl [1, 0] (Ent.cr1 (α := GFunc) (A := [S a48 k49 f1_46]) _ (GFunc.mk ([(Str.mk [109]), (Str.mk [102]), (Str.mk [103])].getD i_14.toNat default) f1_46) _ aB1 (fun h => ⟨_, rfl, aS1, sepAll_get (i := 0) rfl h⟩)) ?_
  refine Oa (ApO [5, 0] sl23 sl23 sz23) fun c241 => ?_
  refine Jo 0 ?_; rintro a242 k243 rfl
  refine Fb 40 0 fun _ => ?_
  have hn245 := la p0_13 ([(GFunc.mk ([(Str.mk [109]), (Str.mk [102]), (Str.mk [103])].getD i_14.toNat default) f1_46)] : List GFunc)
  refine Oq (Vfa fo25_0 5) (Ost (SclF [5] sh23 [vl a242 k243 (p0_13 ++ [(GFunc.mk ([(Str.mk [109]), (Str.mk [102]), (Str.mk [103])].getD i_14.toNat default) f1_46)])]) (KS ?_))
  refine Oq Vm (Oq Vadd (Oq Va (KS ?_)))
  exact Kg (r30, ti_45, (p0_13 ++ [(GFunc.mk ([(Str.mk [109]), (Str.mk [102]), (Str.mk [103])].getD i_14.toNat default) f1_46)]), (i_14 + 1), a242, k243) [1, 3, 0, 3, 3] ⟨(q3 hM17 (by simp only [tp_Program_L0, h28, h62, hg39, hR237, cs4])), aM1, aM1, aM1, aM1, aM1, aM1, iv1⟩
 intro h28
 have g246 := df h28
 obtain rfl : r11 = 0 := by omega
 refine Ke ?_
 have hR247 := q2 hM17 (ti_12, p0_13) (by simp only [tp_Program_L0, h28, cs4])
 refine KS ?_
 refine Oq (VldA sh25 2) (Ost (Scl [3] sh25 [vl a15 k16 p0_13]) (KS ?_))
 refine Jl [1] (Ent.freeze _ _) ?_
 have hq := q4 hrr ((GProgram.mk p0_13), ti_12) (by simp only [tp_Program, h28, hg6, hR247, cs4]); subst hq
 exact Kr (vl a15 k16 p0_13) rfl (.cellN 1 rfl sh25 rfl (reads_Cl _ _) rfl .nil) [0, 2] en
theorem fn50 (s : List Str) (sa0 : Option Addr) (sk0 : Nat) (v : Str) (hv_0 : v.b.length ≤ 140737488355328) (rr : Int) (hrr : sc_Index_string s v = rr) : FT Tryz.prog 50 #[vl sa0 sk0 s, .string (bs v)] [S sa0 sk0 s] (fun g : Unit => i64ok rr) (fun g => vi rr) (fun g => []) := by
 refine FTi Tryz.func50 fun w0 M0 F0 => Fb 16 0 fun _ => ?_
 refine FoS 0 fun ho2 => ?_
 refine KS ?_
 refine Oq Va (KS ?_)
 refine Oq Vm (Oq (Vlen sl35) (Oq Vm (KS ?_)))
 refine Kl (γ := Nat × Int) (fun (r3, v8_4) => ⟨[(0, vl sa0 sk0 s), (1, .string (bs v)), (7, vi (s.length : Int)), (8, vi v8_4)], [S sa0 sk0 s], sc_Index_string_L0 s v r3 v8_4 = sc_Index_string_L0 s v (((s.length : Int) - 0).toNat) 0 ∧ r3 = ((s.length : Int) - v8_4).toNat ∧ (0 : Int) ≤ v8_4 ∧ v8_4 ≤ (s.length : Int) ∧ (-9223372036854775808 ≤ v8_4 ∧ v8_4 ≤ 9223372036854775807), r3⟩) (((s.length : Int) - 0).toNat, 0) [0] ⟨rfl, rfl, aM1, aM1, aM1⟩ ?_
 rintro ⟨r3, v8_4⟩ ⟨hM5, hr6, hi7, hi8, hk9⟩
 refine JJ_nx fun _ _ hL hA => ?_; dsimp only at hL hA; subst hL hA
 refine Fb 16 0 fun _ => ?_
 refine FoS 0 fun ho11 => ?_
 refine KS ?_
 refine Oq Vlss (KS ?_)
 refine Kc ?_ ?_
 ·intro h12
  have g13 := dt h12
  obtain ⟨r14, rfl⟩ := scc (n := r3) aM1
  refine KS ?_
  refine Oq Vm (Oq Va (KS ?_))
  refine Oq Vm (Oq Vm (Oq Vm (Oq (Vi sl35 0) ?_)))
  have hb15 := okS (i := v8_4.toNat) ho11 rng
  refine Oq (VldS sh9 0) (Oq (VeqS (l := v) (m := (s.getD v8_4.toNat default))) (KS ?_))
  refine Kc ?_ ?_
  ·intro h16
   have g17 := eq_of_beq h16
   refine KS ?_
   refine Oq Vm (Oq Va (KS ?_))
   have hR18 := q2 hM5 (.ret v8_4) (by simp only [sc_Index_string_L0, h12, h16, cs4])
   have hq := q4 hrr v8_4 (by simp only [sc_Index_string, h12, h16, hR18, cs4]); subst hq
   exact Kr () rfl (.tmp rfl .nil) [] en
  intro h16
  have g19 := ne_of_beq_false h16
  refine KS ?_
  refine Oq Vadd (Oq Vm (KS ?_))
  exact Kg (r14, (v8_4 + 1)) [0] ⟨(q3 hM5 (by simp only [sc_Index_string_L0, h12, h16, cs4])), aM1, aM1, aM1, aM1⟩
 intro h12
 have g20 := df h12
 obtain rfl : r3 = 0 := by omega
 refine Ke ?_
 have hR21 := q2 hM5 (.brk ()) (by simp only [sc_Index_string_L0, h12, cs4])
 refine KS ?_
 refine Oq Va (KS ?_)
 have hq := q4 hrr (-1) (by simp only [sc_Index_string, h12, hR21, cs4]); subst hq
 exact Kr () rfl (.tmp rfl .nil) [] en
end Go.SL.G
