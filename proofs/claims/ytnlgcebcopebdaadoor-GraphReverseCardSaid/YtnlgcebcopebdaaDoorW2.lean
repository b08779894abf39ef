/- Part 2 of the walks: mirrors, plain laws and walks used by the last text of this claim. -/
import Derived.Test.YtnlgcebcopebdaaDoorW1
import Derived.Test.YtnlgcebcopebdaaDoorProg
set_option linter.unusedVariables false
set_option linter.unusedSimpArgs false
namespace Go.SL.G
open Go Go.SL Go.Proofs
structure GStmt where
 Op : Int
 Def : Str
 Uses : List Str
 Targets : List Str
instance : Inhabited GStmt := ⟨⟨0, ⟨[]⟩, [], []⟩⟩
structure GBlock where
 Name : Str
 Stmts : List GStmt
instance : Inhabited GBlock := ⟨⟨⟨[]⟩, []⟩⟩
structure GFunc where
 Name : Str
 Blocks : List GBlock
instance : Inhabited GFunc := ⟨⟨⟨[]⟩, []⟩⟩
structure GProgram where
 Funcs : List GFunc
instance : Inhabited GProgram := ⟨⟨[]⟩⟩
structure GNode where
 Kind : Int
 Func : Int
 Block : Int
 Stmt : Int
instance : Inhabited GNode := ⟨⟨0, 0, 0, 0⟩⟩
structure GGraph where
 Nodes : List GNode
 Succ : List (List Int)
 Pred : List (List Int)
instance : Inhabited GGraph := ⟨⟨[], [], []⟩⟩
structure Gbuilder where
 g : GGraph
 number : List (GNode × Int)
instance : Inhabited Gbuilder := ⟨⟨⟨[], [], []⟩, []⟩⟩
structure GToken where
 Kind : Int
 Text : Str
 Line : Int
 Col : Int
instance : Inhabited GToken := ⟨⟨0, ⟨[]⟩, 0, 0⟩⟩
structure Gparser where
 l : List GToken
 at_ : Int
 Err : Int
instance : Inhabited Gparser := ⟨⟨[], 0, 0⟩⟩
def tab0 : Str := (Str.mk [0, 1, 2, 2, 3, 3, 3, 3, 4, 4, 4, 4, 4, 4, 4, 4, 5, 5, 5, 5, 5, 5, 5, 5, 5, 5, 5, 5, 5, 5, 5, 5, 6, 6, 6, 6, 6, 6, 6, 6, 6, 6, 6, 6, 6, 6, 6, 6, 6, 6, 6, 6, 6, 6, 6, 6, 6, 6, 6, 6, 6, 6, 6, 6, 7, 7, 7, 7, 7, 7, 7, 7, 7, 7, 7, 7, 7, 7, 7, 7, 7, 7, 7, 7, 7, 7, 7, 7, 7, 7, 7, 7, 7, 7, 7, 7, 7, 7, 7, 7, 7, 7, 7, 7, 7, 7, 7, 7, 7, 7, 7, 7, 7, 7, 7, 7, 7, 7, 7, 7, 7, 7, 7, 7, 7, 7, 7, 7, 8, 8, 8, 8, 8, 8, 8, 8, 8, 8, 8, 8, 8, 8, 8, 8, 8, 8, 8, 8, 8, 8, 8, 8, 8, 8, 8, 8, 8, 8, 8, 8, 8, 8, 8, 8, 8, 8, 8, 8, 8, 8, 8, 8, 8, 8, 8, 8, 8, 8, 8, 8, 8, 8, 8, 8, 8, 8, 8, 8, 8, 8, 8, 8, 8, 8, 8, 8, 8, 8, 8, 8, 8, 8, 8, 8, 8, 8, 8, 8, 8, 8, 8, 8, 8, 8, 8, 8, 8, 8, 8, 8, 8, 8, 8, 8, 8, 8, 8, 8, 8, 8, 8, 8, 8, 8, 8, 8, 8, 8, 8, 8, 8, 8, 8, 8, 8, 8, 8, 8, 8, 8, 8, 8, 8, 8, 8, 8])
def kwL : List Str := [⟨[102, 117, 110, 99]⟩, ⟨[98, 108, 111, 99, 107]⟩, ⟨[101, 110, 100]⟩, ⟨[117, 115, 101]⟩, ⟨[99, 97, 108, 108]⟩, ⟨[115, 111, 117, 114, 99, 101]⟩, ⟨[115, 105, 110, 107]⟩, ⟨[115, 97, 110, 105, 116, 105, 122, 101]⟩, ⟨[103, 111, 116, 111]⟩, ⟨[98, 114, 97, 110, 99, 104]⟩, ⟨[114, 101, 116, 117, 114, 110]⟩]
instance : DecidableEq GNode := fun a b => decidable_of_iff (a.Kind = b.Kind ∧ a.Func = b.Func ∧ a.Block = b.Block ∧ a.Stmt = b.Stmt) (by cases a; cases b; simp)
abbrev ok_GNode (x : GNode) : Prop := i64ok x.Kind ∧ i64ok x.Func ∧ i64ok x.Block ∧ i64ok x.Stmt
abbrev ev_GNode (x : GNode) : Value := .agg #[vi x.Kind, vi x.Func, vi x.Block, vi x.Stmt]
instance rep_GStmt : Rep GStmt where
 sz := 4
 bytes := 72
 pos := by decide
 bpos := by decide
 rd w M cs x := ∃ c2 c3, cs = [.int .i64 x.Op, .string (bs x.Def), c2, c3] ∧ i64ok x.Op ∧ x.Def.b.length ≤ 140737488355328 ∧ slrd w M c2 x.Uses ∧ slrd w M c3 x.Targets
 len := by rintro w M cs x ⟨c2, c3, rfl, h0, h1, h2, h3⟩; rfl
 one := by
  rintro w M cs x ⟨c2, c3, rfl, h0, h1, h2, h3⟩ v hv
  simp only [List.mem_cons, List.not_mem_nil, or_false] at hv
  rcases hv with rfl | rfl | rfl | rfl
  all_goals first | rfl | exact slrd_one h2 | exact slrd_one h3
 st := by
  rintro w M cs x w' M' ⟨c2, c3, rfl, h0, h1, h2, h3⟩ e
  exact ⟨c2, c3, rfl, h0, h1, slrd_st h2 e, slrd_st h3 e⟩
theorem JJ_peek_GStmt {C : Cx} {X : Act → World → Prop} {L : Env} {A : List SP} {c : Value} {xs : List GStmt} (i m : Nat) (hA : A[m]? = some (sl c xs)) (hi : i < xs.length)
  (h : ∀ (a2 : Option Addr) (k2 : Nat) (a3 : Option Addr) (k3 : Nat), i64ok (xs.getD i default).Op → ((xs.getD i default).Def).b.length ≤ 140737488355328 → JJ C X L (pv (eptr 4 c i) [.int .i64 (xs.getD i default).Op, .string (bs (xs.getD i default).Def), .slice a2 (xs.getD i default).Uses.length k2, .slice a3 (xs.getD i default).Targets.length k3] :: sl (.slice a2 (xs.getD i default).Uses.length k2) (xs.getD i default).Uses :: sl (.slice a3 (xs.getD i default).Targets.length k3) (xs.getD i default).Targets :: A)) : JJ C X L A := by
 refine JJ_peek i m hA hi default fun cs => ?_
 intro a w M F st
 obtain ⟨F1, F2, q1, q2, qd, hp, F3, F4, q3, q4, qd2, hr, hs⟩ := st.sp
 obtain ⟨c2, c3, rfl, h0, h1, h2, h3⟩ := hr
 have g2 := h2
 obtain ⟨_, a2, k2, rfl, _⟩ := h2
 have g3 := h3
 obtain ⟨_, a3, k3, rfl, _⟩ := h3
 exact h a2 k2 a3 k3 h0 h1 a w M F ⟨st.step, st.sz, st.df, st.sat, F1, F2, q1, q2, qd, hp, ⟨fun _ => False, _, fun _ h => h.elim, fun _ h => h, fun _ h _ => h, g2, ⟨fun _ => False, _, fun _ h => h.elim, fun _ h => h, fun _ h _ => h, g3, sepAll_up hs q4⟩⟩⟩
instance rep_GBlock : Rep GBlock where
 sz := 2
 bytes := 40
 pos := by decide
 bpos := by decide
 rd w M cs x := ∃ c1, cs = [.string (bs x.Name), c1] ∧ x.Name.b.length ≤ 140737488355328 ∧ slrd w M c1 x.Stmts
 len := by rintro w M cs x ⟨c1, rfl, h0, h1⟩; rfl
 one := by
  rintro w M cs x ⟨c1, rfl, h0, h1⟩ v hv
  simp only [List.mem_cons, List.not_mem_nil, or_false] at hv
  rcases hv with rfl | rfl
  all_goals first | rfl | exact slrd_one h1
 st := by
  rintro w M cs x w' M' ⟨c1, rfl, h0, h1⟩ e
  exact ⟨c1, rfl, h0, slrd_st h1 e⟩
theorem JJ_peek_GBlock {C : Cx} {X : Act → World → Prop} {L : Env} {A : List SP} {c : Value} {xs : List GBlock} (i m : Nat) (hA : A[m]? = some (sl c xs)) (hi : i < xs.length)
  (h : ∀ (a1 : Option Addr) (k1 : Nat), ((xs.getD i default).Name).b.length ≤ 140737488355328 → JJ C X L (pv (eptr 2 c i) [.string (bs (xs.getD i default).Name), .slice a1 (xs.getD i default).Stmts.length k1] :: sl (.slice a1 (xs.getD i default).Stmts.length k1) (xs.getD i default).Stmts :: A)) : JJ C X L A := by
 refine JJ_peek i m hA hi default fun cs => ?_
 intro a w M F st
 obtain ⟨F1, F2, q1, q2, qd, hp, F3, F4, q3, q4, qd2, hr, hs⟩ := st.sp
 obtain ⟨c1, rfl, h0, h1⟩ := hr
 have g1 := h1
 obtain ⟨_, a1, k1, rfl, _⟩ := h1
 exact h a1 k1 h0 a w M F ⟨st.step, st.sz, st.df, st.sat, F1, F2, q1, q2, qd, hp, ⟨fun _ => False, _, fun _ h => h.elim, fun _ h => h, fun _ h _ => h, g1, sepAll_up hs q4⟩⟩
instance rep_GFunc : Rep GFunc where
 sz := 2
 bytes := 40
 pos := by decide
 bpos := by decide
 rd w M cs x := ∃ c1, cs = [.string (bs x.Name), c1] ∧ x.Name.b.length ≤ 140737488355328 ∧ slrd w M c1 x.Blocks
 len := by rintro w M cs x ⟨c1, rfl, h0, h1⟩; rfl
 one := by
  rintro w M cs x ⟨c1, rfl, h0, h1⟩ v hv
  simp only [List.mem_cons, List.not_mem_nil, or_false] at hv
  rcases hv with rfl | rfl
  all_goals first | rfl | exact slrd_one h1
 st := by
  rintro w M cs x w' M' ⟨c1, rfl, h0, h1⟩ e
  exact ⟨c1, rfl, h0, slrd_st h1 e⟩
theorem JJ_peek_GFunc {C : Cx} {X : Act → World → Prop} {L : Env} {A : List SP} {c : Value} {xs : List GFunc} (i m : Nat) (hA : A[m]? = some (sl c xs)) (hi : i < xs.length)
  (h : ∀ (a1 : Option Addr) (k1 : Nat), ((xs.getD i default).Name).b.length ≤ 140737488355328 → JJ C X L (pv (eptr 2 c i) [.string (bs (xs.getD i default).Name), .slice a1 (xs.getD i default).Blocks.length k1] :: sl (.slice a1 (xs.getD i default).Blocks.length k1) (xs.getD i default).Blocks :: A)) : JJ C X L A := by
 refine JJ_peek i m hA hi default fun cs => ?_
 intro a w M F st
 obtain ⟨F1, F2, q1, q2, qd, hp, F3, F4, q3, q4, qd2, hr, hs⟩ := st.sp
 obtain ⟨c1, rfl, h0, h1⟩ := hr
 have g1 := h1
 obtain ⟨_, a1, k1, rfl, _⟩ := h1
 exact h a1 k1 h0 a w M F ⟨st.step, st.sz, st.df, st.sat, F1, F2, q1, q2, qd, hp, ⟨fun _ => False, _, fun _ h => h.elim, fun _ h => h, fun _ h _ => h, g1, sepAll_up hs q4⟩⟩
instance rep_GProgram : Rep GProgram where
 sz := 1
 bytes := 24
 pos := by decide
 bpos := by decide
 rd w M cs x := ∃ c0, cs = [c0] ∧ slrd w M c0 x.Funcs
 len := by rintro w M cs x ⟨c0, rfl, h0⟩; rfl
 one := by
  rintro w M cs x ⟨c0, rfl, h0⟩ v hv
  simp only [List.mem_cons, List.not_mem_nil, or_false] at hv
  rcases hv with rfl
  all_goals first | rfl | exact slrd_one h0
 st := by
  rintro w M cs x w' M' ⟨c0, rfl, h0⟩ e
  exact ⟨c0, rfl, slrd_st h0 e⟩
instance rep_GNode : Rep GNode where
 sz := 4
 bytes := 32
 pos := by decide
 bpos := by decide
 rd w M cs x := cs = [.int .i64 x.Kind, .int .i64 x.Func, .int .i64 x.Block, .int .i64 x.Stmt] ∧ i64ok x.Kind ∧ i64ok x.Func ∧ i64ok x.Block ∧ i64ok x.Stmt
 len := by rintro w M cs x ⟨rfl, h0, h1, h2, h3⟩; rfl
 one := by
  rintro w M cs x ⟨rfl, h0, h1, h2, h3⟩ v hv
  simp only [List.mem_cons, List.not_mem_nil, or_false] at hv
  rcases hv with rfl | rfl | rfl | rfl
  all_goals first | rfl
 st := by
  rintro w M cs x w' M' ⟨rfl, h0, h1, h2, h3⟩ e
  exact ⟨rfl, h0, h1, h2, h3⟩
theorem zrd_GNode (w : World) (M : Blk) : Rep.rd w M [vi 0, vi 0, vi 0, vi 0] (default : GNode) := ⟨rfl, by unfold i64ok; decide, by unfold i64ok; decide, by unfold i64ok; decide, by unfold i64ok; decide⟩
theorem JJ_peek_GNode {C : Cx} {X : Act → World → Prop} {L : Env} {A : List SP} {c : Value} {xs : List GNode} (i m : Nat) (hA : A[m]? = some (sl c xs)) (hi : i < xs.length)
  (h : i64ok (xs.getD i default).Kind → i64ok (xs.getD i default).Func → i64ok (xs.getD i default).Block → i64ok (xs.getD i default).Stmt → JJ C X L (pv (eptr 4 c i) [.int .i64 (xs.getD i default).Kind, .int .i64 (xs.getD i default).Func, .int .i64 (xs.getD i default).Block, .int .i64 (xs.getD i default).Stmt] :: A)) : JJ C X L A := by
 refine JJ_peek i m hA hi default fun cs => ?_
 intro a w M F st
 obtain ⟨F1, F2, q1, q2, qd, hp, F3, F4, q3, q4, qd2, hr, hs⟩ := st.sp
 obtain ⟨rfl, h0, h1, h2, h3⟩ := hr
 exact h h0 h1 h2 h3 a w M F ⟨st.step, st.sz, st.df, st.sat, F1, F2, q1, q2, qd, hp, sepAll_up hs q4⟩
instance rep_GGraph : Rep GGraph where
 sz := 3
 bytes := 72
 pos := by decide
 bpos := by decide
 rd w M cs x := ∃ c0 c1 c2, cs = [c0, c1, c2] ∧ slrd w M c0 x.Nodes ∧ slrd w M c1 x.Succ ∧ slrd w M c2 x.Pred
 len := by rintro w M cs x ⟨c0, c1, c2, rfl, h0, h1, h2⟩; rfl
 one := by
  rintro w M cs x ⟨c0, c1, c2, rfl, h0, h1, h2⟩ v hv
  simp only [List.mem_cons, List.not_mem_nil, or_false] at hv
  rcases hv with rfl | rfl | rfl
  all_goals first | rfl | exact slrd_one h0 | exact slrd_one h1 | exact slrd_one h2
 st := by
  rintro w M cs x w' M' ⟨c0, c1, c2, rfl, h0, h1, h2⟩ e
  exact ⟨c0, c1, c2, rfl, slrd_st h0 e, slrd_st h1 e, slrd_st h2 e⟩
instance rep_GToken : Rep GToken where
 sz := 4
 bytes := 40
 pos := by decide
 bpos := by decide
 rd w M cs x := cs = [.int .i64 x.Kind, .string (bs x.Text), .int .i64 x.Line, .int .i64 x.Col] ∧ i64ok x.Kind ∧ x.Text.b.length ≤ 140737488355328 ∧ i64ok x.Line ∧ i64ok x.Col
 len := by rintro w M cs x ⟨rfl, h0, h1, h2, h3⟩; rfl
 one := by
  rintro w M cs x ⟨rfl, h0, h1, h2, h3⟩ v hv
  simp only [List.mem_cons, List.not_mem_nil, or_false] at hv
  rcases hv with rfl | rfl | rfl | rfl
  all_goals first | rfl
 st := by
  rintro w M cs x w' M' ⟨rfl, h0, h1, h2, h3⟩ e
  exact ⟨rfl, h0, h1, h2, h3⟩
theorem JJ_peek_GToken {C : Cx} {X : Act → World → Prop} {L : Env} {A : List SP} {c : Value} {xs : List GToken} (i m : Nat) (hA : A[m]? = some (sl c xs)) (hi : i < xs.length)
  (h : i64ok (xs.getD i default).Kind → ((xs.getD i default).Text).b.length ≤ 140737488355328 → i64ok (xs.getD i default).Line → i64ok (xs.getD i default).Col → JJ C X L (pv (eptr 4 c i) [.int .i64 (xs.getD i default).Kind, .string (bs (xs.getD i default).Text), .int .i64 (xs.getD i default).Line, .int .i64 (xs.getD i default).Col] :: A)) : JJ C X L A := by
 refine JJ_peek i m hA hi default fun cs => ?_
 intro a w M F st
 obtain ⟨F1, F2, q1, q2, qd, hp, F3, F4, q3, q4, qd2, hr, hs⟩ := st.sp
 obtain ⟨rfl, h0, h1, h2, h3⟩ := hr
 exact h h0 h1 h2 h3 a w M F ⟨st.step, st.sz, st.df, st.sat, F1, F2, q1, q2, qd, hp, sepAll_up hs q4⟩
instance rep_Gparser : Rep Gparser where
 sz := 3
 bytes := 40
 pos := by decide
 bpos := by decide
 rd w M cs x := ∃ c0, cs = [c0, .int .i64 x.at_, .int .i64 x.Err] ∧ slrd w M c0 x.l ∧ i64ok x.at_ ∧ i64ok x.Err
 len := by rintro w M cs x ⟨c0, rfl, h0, h1, h2⟩; rfl
 one := by
  rintro w M cs x ⟨c0, rfl, h0, h1, h2⟩ v hv
  simp only [List.mem_cons, List.not_mem_nil, or_false] at hv
  rcases hv with rfl | rfl | rfl
  all_goals first | rfl | exact slrd_one h0
 st := by
  rintro w M cs x w' M' ⟨c0, rfl, h0, h1, h2⟩ e
  exact ⟨c0, rfl, slrd_st h0 e, h1, h2⟩
theorem ofInt_ne (n : Int) (h : 1 ≤ n ∧ n ≤ 9223372036854775807) : BitVec.ofInt 64 n ≠ 0 := by
 intro e
 have := congrArg BitVec.toNat e
 rw [BitVec.toNat_ofInt] at this
 simp at this
 omega
theorem mod_range (v n : Int) (h : 1 ≤ n ∧ n ≤ 9223372036854775807) : 0 ≤ (((BitVec.ofInt 64 v) % (BitVec.ofInt 64 n)).toNat : Int) ∧ (((BitVec.ofInt 64 v) % (BitVec.ofInt 64 n)).toNat : Int) < n := by
 rw [BitVec.toNat_umod, BitVec.toNat_ofInt, BitVec.toNat_ofInt]
 have e : (n % ((2 ^ 64 : Nat) : Int)).toNat = n.toNat := by omega
 rw [e]
 have : (v % ((2 ^ 64 : Nat) : Int)).toNat % n.toNat < n.toNat := Nat.mod_lt _ (by omega)
 omega
theorem mod_le (v n : Int) (h : 1 ≤ n ∧ n ≤ 9223372036854775807) : (((BitVec.ofInt 64 v) % (BitVec.ofInt 64 n)).toNat : Int) ≤ 9223372036854775807 := by
 have := mod_range v n h; omega
def gh_ascending_L0 (l : List Int) (n : Int) : Nat → Int → LR Unit Bool
 | 0, v9 =>
  .brk ()
 | r + 1, v9 =>
  bif decide ((l.getD v9.toNat 0) < 0) then
   .ret false
  else
   bif decide (n ≤ (l.getD v9.toNat 0)) then
    .ret false
   else
    bif decide (0 < v9) then
     bif decide ((l.getD v9.toNat 0) ≤ (l.getD ((v9 - 1) : Int).toNat 0)) then
      .ret false
     else
      gh_ascending_L0 l n r (v9 + 1)
    else
     gh_ascending_L0 l n r (v9 + 1)
def gh_ascending (l : List Int) (n : Int) : Bool :=
 match gh_ascending_L0 l n (((l.length : Int) - 0).toNat) 0 with
 | .brk _ =>
  true
 | .ret r => r
 | .oof => default
def gh_count_L0 (l : List (List Int)) : Nat → Int → Int → LR Int Int
 | 0, edges, v8 =>
  .brk edges
 | r + 1, edges, v8 =>
  bif decide (1024 < (edges + ((l.getD v8.toNat []).length : Int))) then
   .ret (-1)
  else
   let rv10 := (gh_ascending (l.getD v8.toNat []) (l.length : Int))
   bif (!rv10) then
    .ret (-1)
   else
    gh_count_L0 l r (edges + ((l.getD v8.toNat []).length : Int)) (v8 + 1)
def gh_count (l : List (List Int)) : Int :=
 match gh_count_L0 l (((l.length : Int) - 0).toNat) 0 0 with
 | .brk o0_0 =>
  o0_0
 | .ret r => r
 | .oof => default
def sc_Index_int_L0 (s : List Int) (v : Int) : Nat → Int → LR Unit Int
 | 0, v8 =>
  .brk ()
 | r + 1, v8 =>
  bif (v == (s.getD v8.toNat 0)) then
   .ret v8
  else
   sc_Index_int_L0 s v r (v8 + 1)
def sc_Index_int (s : List Int) (v : Int) : Int :=
 match sc_Index_int_L0 s v (((s.length : Int) - 0).toNat) 0 with
 | .brk _ =>
  -1
 | .ret r => r
 | .oof => default
def sc_Contains_int (s : List Int) (v : Int) : Bool :=
 let rv1 := (sc_Index_int s v)
 decide (0 ≤ rv1)
def gh_Valid_L1 (g : GGraph) (a : Int) (v52 : List Int) : Nat → Int → LR Unit Bool
 | 0, v54 =>
  .brk ()
 | r + 1, v54 =>
  let rv43 := (sc_Contains_int (g.Pred.getD ((v52.getD v54.toNat 0) : Int).toNat []) a)
  bif (!rv43) then
   .ret false
  else
   gh_Valid_L1 g a v52 r (v54 + 1)
def gh_Valid_L0 (g : GGraph) : Nat → Int → LR Unit Bool
 | 0, v47 =>
  .brk ()
 | r + 1, v47 =>
  match gh_Valid_L1 g v47 (g.Succ.getD v47.toNat []) (((((g.Succ.getD v47.toNat []).length : Int) : Int) - 0).toNat) 0 with
  | .brk _ =>
   gh_Valid_L0 g r (v47 + 1)
  | .ret r => .ret r
  | .oof => .oof
def gh_Valid (g : GGraph) : Bool :=
 bif decide ((g.Nodes.length : Int) < 1) then
  false
 else
  bif decide (256 < (g.Nodes.length : Int)) then
   false
  else
   bif ((g.Succ.length : Int) != (g.Nodes.length : Int)) then
    false
   else
    bif ((g.Pred.length : Int) != (g.Nodes.length : Int)) then
     false
    else
     let rv14 := (gh_count g.Succ)
     bif decide (rv14 < 0) then
      false
     else
      let rv22 := (gh_count g.Pred)
      bif (rv22 != rv14) then
       false
      else
       match gh_Valid_L0 g (((g.Succ.length : Int) - 0).toNat) 0 with
       | .brk _ =>
        true
       | .ret r => r
       | .oof => default
def gh_Edges (g : GGraph) : Int :=
 let rv2 := (gh_Valid g)
 bif (!rv2) then
  0
 else
  let rv12 := (gh_count g.Succ)
  rv12
def r4_letter (c : Int) : Bool :=
 bif decide (97 ≤ c) then
  bif decide (c ≤ 122) then
   true
  else
   bif decide (65 ≤ c) then
    bif decide (c ≤ 90) then
     true
    else
     (c == 95)
   else
    (c == 95)
 else
  bif decide (65 ≤ c) then
   bif decide (c ≤ 90) then
    true
   else
    (c == 95)
  else
   (c == 95)
def r4_digit (c : Int) : Bool :=
 bif decide (48 ≤ c) then
  decide (c ≤ 57)
 else
  false
def r4_Scan_L1 (text : Str) (c : Int) : Nat → Int → Int → LR (Int × Int) (List GToken × Int × Int × Int)
 | 0, col, i =>
  .oof
 | r + 1, col, i =>
  bif (c == 35) then
   bif decide (i < (text.b.length : Int)) then
    bif (((text.b.getD i.toNat 0).toNat : Int) != 10) then
     r4_Scan_L1 text c r (col + 1) (i + 1)
    else
     .brk (col, i)
   else
    .brk (col, i)
  else
   .brk (col, i)
def r4_Scan_L2 (text : Str) (i : Int) : Nat → Int → LR Int (List GToken × Int × Int × Int)
 | 0, n =>
  .oof
 | r + 1, n =>
  bif decide ((i + n) < (text.b.length : Int)) then
   let rv172 := (r4_letter ((text.b.getD ((i + n) : Int).toNat 0).toNat : Int))
   bif rv172 then
    r4_Scan_L2 text i r (n + 1)
   else
    let rv179 := (r4_digit ((text.b.getD ((i + n) : Int).toNat 0).toNat : Int))
    bif rv179 then
     r4_Scan_L2 text i r (n + 1)
    else
     .brk n
  else
   .brk n
def r4_Scan_L0 (text : Str) : Nat → List GToken → Int → Int → Bool → Int → LR (List GToken × Int × Int × Bool) (List GToken × Int × Int × Int)
 | 0, out, line, col, open_, i =>
  .oof
 | r + 1, out, line, col, open_, i =>
  bif decide (i < (text.b.length : Int)) then
   bif (((text.b.getD i.toNat 0).toNat : Int) == 32) then
    r4_Scan_L0 text r out line (col + 1) open_ (i + 1)
   else
    bif (((text.b.getD i.toNat 0).toNat : Int) == 9) then
     r4_Scan_L0 text r out line (col + 1) open_ (i + 1)
    else
     bif (((text.b.getD i.toNat 0).toNat : Int) == 10) then
      bif open_ then
       match r4_Scan_L1 text ((text.b.getD i.toNat 0).toNat : Int) (text.b.length + 1) col i with
       | .brk (o1_0, o1_1) =>
        bif (((text.b.getD i.toNat 0).toNat : Int) == 59) then
         bif decide ((o1_1 + 1) < (text.b.length : Int)) then
          bif (((text.b.getD ((o1_1 + 1) : Int).toNat 0).toNat : Int) == 10) then
           r4_Scan_L0 text r (out ++ [(GToken.mk 3 (Str.mk []) line col)]) line (o1_0 + 1) false (o1_1 + 1)
          else
           r4_Scan_L0 text r (out ++ [(GToken.mk 3 (Str.mk []) line col)]) line (o1_0 + 1) false (o1_1 + 1)
         else
          r4_Scan_L0 text r (out ++ [(GToken.mk 3 (Str.mk []) line col)]) line (o1_0 + 1) false (o1_1 + 1)
        else
         bif decide (o1_1 < (text.b.length : Int)) then
          bif (((text.b.getD o1_1.toNat 0).toNat : Int) == 10) then
           r4_Scan_L0 text r (out ++ [(GToken.mk 3 (Str.mk []) line col)]) (line + 1) 1 false (o1_1 + 1)
          else
           r4_Scan_L0 text r (out ++ [(GToken.mk 3 (Str.mk []) line col)]) line o1_0 false o1_1
         else
          r4_Scan_L0 text r (out ++ [(GToken.mk 3 (Str.mk []) line col)]) line o1_0 false o1_1
       | .ret _ => .oof
       | .oof => .oof
      else
       match r4_Scan_L1 text ((text.b.getD i.toNat 0).toNat : Int) (text.b.length + 1) col i with
       | .brk (o1_0, o1_1) =>
        bif (((text.b.getD i.toNat 0).toNat : Int) == 59) then
         bif decide ((o1_1 + 1) < (text.b.length : Int)) then
          bif (((text.b.getD ((o1_1 + 1) : Int).toNat 0).toNat : Int) == 10) then
           r4_Scan_L0 text r out line (o1_0 + 1) false (o1_1 + 1)
          else
           r4_Scan_L0 text r out line (o1_0 + 1) false (o1_1 + 1)
         else
          r4_Scan_L0 text r out line (o1_0 + 1) false (o1_1 + 1)
        else
         bif decide (o1_1 < (text.b.length : Int)) then
          bif (((text.b.getD o1_1.toNat 0).toNat : Int) == 10) then
           r4_Scan_L0 text r out (line + 1) 1 false (o1_1 + 1)
          else
           r4_Scan_L0 text r out line o1_0 false o1_1
         else
          r4_Scan_L0 text r out line o1_0 false o1_1
       | .ret _ => .oof
       | .oof => .oof
     else
      bif (((text.b.getD i.toNat 0).toNat : Int) == 59) then
       bif open_ then
        match r4_Scan_L1 text ((text.b.getD i.toNat 0).toNat : Int) (text.b.length + 1) col i with
        | .brk (o1_0, o1_1) =>
         bif decide ((o1_1 + 1) < (text.b.length : Int)) then
          bif (((text.b.getD ((o1_1 + 1) : Int).toNat 0).toNat : Int) == 10) then
           r4_Scan_L0 text r (out ++ [(GToken.mk 3 (Str.mk []) line col)]) line (o1_0 + 1) false (o1_1 + 1)
          else
           r4_Scan_L0 text r (out ++ [(GToken.mk 3 (Str.mk []) line col)]) line (o1_0 + 1) false (o1_1 + 1)
         else
          r4_Scan_L0 text r (out ++ [(GToken.mk 3 (Str.mk []) line col)]) line (o1_0 + 1) false (o1_1 + 1)
        | .ret _ => .oof
        | .oof => .oof
       else
        match r4_Scan_L1 text ((text.b.getD i.toNat 0).toNat : Int) (text.b.length + 1) col i with
        | .brk (o1_0, o1_1) =>
         bif decide ((o1_1 + 1) < (text.b.length : Int)) then
          bif (((text.b.getD ((o1_1 + 1) : Int).toNat 0).toNat : Int) == 10) then
           r4_Scan_L0 text r out line (o1_0 + 1) false (o1_1 + 1)
          else
           r4_Scan_L0 text r out line (o1_0 + 1) false (o1_1 + 1)
         else
          r4_Scan_L0 text r out line (o1_0 + 1) false (o1_1 + 1)
        | .ret _ => .oof
        | .oof => .oof
      else
       bif (((text.b.getD i.toNat 0).toNat : Int) == 35) then
        bif open_ then
         match r4_Scan_L1 text ((text.b.getD i.toNat 0).toNat : Int) (text.b.length + 1) col i with
         | .brk (o1_0, o1_1) =>
          bif decide (o1_1 < (text.b.length : Int)) then
           bif (((text.b.getD o1_1.toNat 0).toNat : Int) == 10) then
            r4_Scan_L0 text r (out ++ [(GToken.mk 3 (Str.mk []) line col)]) (line + 1) 1 false (o1_1 + 1)
           else
            r4_Scan_L0 text r (out ++ [(GToken.mk 3 (Str.mk []) line col)]) line o1_0 false o1_1
          else
           r4_Scan_L0 text r (out ++ [(GToken.mk 3 (Str.mk []) line col)]) line o1_0 false o1_1
         | .ret _ => .oof
         | .oof => .oof
        else
         match r4_Scan_L1 text ((text.b.getD i.toNat 0).toNat : Int) (text.b.length + 1) col i with
         | .brk (o1_0, o1_1) =>
          bif decide (o1_1 < (text.b.length : Int)) then
           bif (((text.b.getD o1_1.toNat 0).toNat : Int) == 10) then
            r4_Scan_L0 text r out (line + 1) 1 false (o1_1 + 1)
           else
            r4_Scan_L0 text r out line o1_0 false o1_1
          else
           r4_Scan_L0 text r out line o1_0 false o1_1
         | .ret _ => .oof
         | .oof => .oof
       else
        bif (((text.b.getD i.toNat 0).toNat : Int) == 61) then
         r4_Scan_L0 text r (out ++ [(GToken.mk 2 (Str.mk [61]) line col)]) line (col + 1) true (i + 1)
        else
         let rv164 := (r4_letter ((text.b.getD i.toNat 0).toNat : Int))
         bif rv164 then
          match r4_Scan_L2 text i (text.b.length + 1) 0 with
          | .brk o2_0 =>
           let rv170 := (r4_digit ((text.b.getD i.toNat 0).toNat : Int))
           bif rv170 then
            .ret ([], line, col, 4)
           else
            bif decide (16 < o2_0) then
             .ret ([], line, col, 7)
            else
             r4_Scan_L0 text r (out ++ [(GToken.mk 1 (text.sub i.toNat ((i + o2_0) : Int).toNat) line col)]) line (col + o2_0) true (i + o2_0)
          | .ret _ => .oof
          | .oof => .oof
         else
          let rv189 := (r4_digit ((text.b.getD i.toNat 0).toNat : Int))
          bif rv189 then
           match r4_Scan_L2 text i (text.b.length + 1) 0 with
           | .brk o2_0 =>
            .ret ([], line, col, 4)
           | .ret _ => .oof
           | .oof => .oof
          else
           .ret ([], line, col, 4)
  else
   .brk (out, line, col, open_)
def r4_Scan (text : Str) : List GToken × Int × Int × Int :=
 bif decide (4096 < (text.b.length : Int)) then
  ([], 0, 0, 7)
 else
  match r4_Scan_L0 text (text.b.length + 1) [] 1 1 false 0 with
  | .brk (o0_0, o0_1, o0_2, o0_3) =>
   bif o0_3 then
    ((o0_0 ++ [(GToken.mk 3 (Str.mk []) o0_1 o0_2)]), 0, 0, 0)
   else
    (o0_0, 0, 0, 0)
  | .ret r => r
  | .oof => default
def pz_is (p : Gparser) (word : Str) : Bool :=
 bif (p.Err == 0) then
  bif decide (p.at_ < (p.l.length : Int)) then
   bif ((p.l.getD p.at_.toNat default).Kind == 1) then
    ((p.l.getD p.at_.toNat default).Text == word)
   else
    false
  else
   false
 else
  false
def pz_fail (p : Gparser) (e : Int) : Gparser :=
 bif (p.Err == 0) then
  (Gparser.mk p.l p.at_ e)
 else
  p
def pz_word (p : Gparser) (w : Str) : Gparser :=
 let rv1 := (pz_is p w)
 bif (!rv1) then
  let rv8 := (pz_fail p 4)
  (Gparser.mk p.l rv8.at_ rv8.Err)
 else
  (Gparser.mk p.l (p.at_ + 1) p.Err)
def r4_Keywords  : List Str :=
 [(Str.mk [102, 117, 110, 99]), (Str.mk [98, 108, 111, 99, 107]), (Str.mk [101, 110, 100]), (Str.mk [117, 115, 101]), (Str.mk [99, 97, 108, 108]), (Str.mk [115, 111, 117, 114, 99, 101]), (Str.mk [115, 105, 110, 107]), (Str.mk [115, 97, 110, 105, 116, 105, 122, 101]), (Str.mk [103, 111, 116, 111]), (Str.mk [98, 114, 97, 110, 99, 104]), (Str.mk [114, 101, 116, 117, 114, 110])]
def r4_IsName_L0 (s : Str) : Nat → Int → LR Unit Bool
 | 0, i =>
  .brk ()
 | r + 1, i =>
  let rv25 := (r4_letter ((s.b.getD i.toNat 0).toNat : Int))
  bif (!rv25) then
   let rv33 := (r4_digit ((s.b.getD i.toNat 0).toNat : Int))
   bif (!rv33) then
    .ret false
   else
    r4_IsName_L0 s r (i + 1)
  else
   r4_IsName_L0 s r (i + 1)
def r4_IsName_L1 (s : Str) : Nat → Int → LR Unit Bool
 | 0, i =>
  .brk ()
 | r + 1, i =>
  bif ((r4_Keywords.getD i.toNat default) == s) then
   .ret false
  else
   r4_IsName_L1 s r (i + 1)
def r4_IsName (s : Str) : Bool :=
 bif ((s.b.length : Int) == 0) then
  false
 else
  bif decide (16 < (s.b.length : Int)) then
   false
  else
   let rv8 := (r4_letter ((s.b.getD (0 : Int).toNat 0).toNat : Int))
   bif (!rv8) then
    false
   else
    bif (((s.b.getD (0 : Int).toNat 0).toNat : Int) == 95) then
     false
    else
     match r4_IsName_L0 s (((s.b.length : Int) - 0).toNat) 0 with
     | .brk _ =>
      match r4_IsName_L1 s (((r4_Keywords.length : Int) - 0).toNat) 0 with
      | .brk _ =>
       true
      | .ret r => r
      | .oof => default
     | .ret r => r
     | .oof => default
def pz_isName (p : Gparser) : Bool :=
 bif (p.Err == 0) then
  bif decide (p.at_ < (p.l.length : Int)) then
   bif ((p.l.getD p.at_.toNat default).Kind == 1) then
    let rv11 := (r4_IsName ((p.l.getD p.at_.toNat default).Text))
    rv11
   else
    false
  else
   false
 else
  false
def pz_name (p : Gparser) : Str × Gparser :=
 let rv1 := (pz_isName p)
 bif (!rv1) then
  let rv8 := (pz_fail p 4)
  ((Str.mk []), (Gparser.mk p.l rv8.at_ rv8.Err))
 else
  ((p.l.getD (((p.at_ + 1) - 1) : Int).toNat default).Text, (Gparser.mk p.l (p.at_ + 1) p.Err))
def pz_isKind (p : Gparser) (k : Int) : Bool :=
 bif (p.Err == 0) then
  bif decide (p.at_ < (p.l.length : Int)) then
   ((p.l.getD p.at_.toNat default).Kind == k)
  else
   false
 else
  false
def pz_end (p : Gparser) : Gparser :=
 let rv1 := (pz_isKind p 3)
 bif (!rv1) then
  let rv8 := (pz_fail p 4)
  (Gparser.mk p.l rv8.at_ rv8.Err)
 else
  (Gparser.mk p.l (p.at_ + 1) p.Err)
def pz_begins_L0 (p : Gparser) : Nat → Int → LR Unit Bool
 | 0, i =>
  .brk ()
 | r + 1, i =>
  let rv11 := (pz_is p ([(Str.mk [117, 115, 101]), (Str.mk [99, 97, 108, 108]), (Str.mk [115, 111, 117, 114, 99, 101]), (Str.mk [115, 105, 110, 107]), (Str.mk [115, 97, 110, 105, 116, 105, 122, 101]), (Str.mk [103, 111, 116, 111]), (Str.mk [98, 114, 97, 110, 99, 104]), (Str.mk [114, 101, 116, 117, 114, 110])].getD i.toNat default))
  bif rv11 then
   .ret true
  else
   pz_begins_L0 p r (i + 1)
def pz_begins (p : Gparser) : Bool :=
 match pz_begins_L0 p (((((8 : Nat) : Int) : Int) - 0).toNat) 0 with
 | .brk _ =>
  let rv6 := (pz_isName p)
  rv6
 | .ret r => r
 | .oof => default
def pz_more_L0 (p : Gparser) (have_ : Int) : Nat → Int → Int → List Str → LR (Int × Int × List Str) (List Str × Gparser)
 | 0, p1, p2, out =>
  .oof
 | r + 1, p1, p2, out =>
  let rv1 := (pz_isName (Gparser.mk p.l p1 p2))
  bif rv1 then
   bif ((have_ + (out.length : Int)) == 4) then
    let rv8 := (pz_fail (Gparser.mk p.l p1 p2) 7)
    .ret ([], (Gparser.mk p.l rv8.at_ rv8.Err))
   else
    let rv15 := (pz_name (Gparser.mk p.l p1 p2))
    pz_more_L0 p have_ r rv15.2.at_ rv15.2.Err (out ++ [rv15.1])
  else
   .brk (p1, p2, out)
def pz_more (p : Gparser) (have_ : Int) : List Str × Gparser :=
 match pz_more_L0 p have_ (p.l.length + 1) p.at_ p.Err [] with
 | .brk (o0_0, o0_1, o0_2) =>
  (o0_2, (Gparser.mk p.l o0_0 o0_1))
 | .ret r => r
 | .oof => default
def pz_names_L0 (p : Gparser) : Nat → Int → Int → List Str → LR (Int × Int × List Str) (List Str × Gparser)
 | 0, p1, p2, out =>
  .oof
 | r + 1, p1, p2, out =>
  let rv1 := (pz_isName (Gparser.mk p.l p1 p2))
  bif rv1 then
   bif ((out.length : Int) == 4) then
    let rv8 := (pz_fail (Gparser.mk p.l p1 p2) 7)
    .ret ([], (Gparser.mk p.l rv8.at_ rv8.Err))
   else
    let rv15 := (pz_name (Gparser.mk p.l p1 p2))
    pz_names_L0 p r rv15.2.at_ rv15.2.Err (out ++ [rv15.1])
  else
   .brk (p1, p2, out)
def pz_names (p : Gparser) : List Str × Gparser :=
 match pz_names_L0 p (p.l.length + 1) p.at_ p.Err [] with
 | .brk (o0_0, o0_1, o0_2) =>
  (o0_2, (Gparser.mk p.l o0_0 o0_1))
 | .ret r => r
 | .oof => default
def pz_stmt (p : Gparser) : GStmt × Gparser :=
 let rv3 := (pz_isName p)
 bif (!rv3) then
  bif ((p.l.getD p.at_.toNat default).Text == (Str.mk [117, 115, 101])) then
   let rv16 := (pz_name (Gparser.mk p.l (p.at_ + 1) p.Err))
   let rv27 := (pz_more (Gparser.mk p.l rv16.2.at_ rv16.2.Err) 1)
   let rv44 := (pz_end (Gparser.mk p.l rv27.2.at_ rv27.2.Err))
   ((GStmt.mk 2 (Str.mk []) ([rv16.1] ++ rv27.1) []), (Gparser.mk p.l rv44.at_ rv44.Err))
  else
   bif ((p.l.getD p.at_.toNat default).Text == (Str.mk [99, 97, 108, 108])) then
    let rv53 := (pz_name (Gparser.mk p.l (p.at_ + 1) p.Err))
    let rv63 := (pz_end (Gparser.mk p.l rv53.2.at_ rv53.2.Err))
    ((GStmt.mk 3 (Str.mk []) [] [rv53.1]), (Gparser.mk p.l rv63.at_ rv63.Err))
   else
    bif ((p.l.getD p.at_.toNat default).Text == (Str.mk [115, 111, 117, 114, 99, 101])) then
     let rv72 := (pz_name (Gparser.mk p.l (p.at_ + 1) p.Err))
     let rv79 := (pz_end (Gparser.mk p.l rv72.2.at_ rv72.2.Err))
     ((GStmt.mk 4 rv72.1 [] []), (Gparser.mk p.l rv79.at_ rv79.Err))
    else
     bif ((p.l.getD p.at_.toNat default).Text == (Str.mk [115, 105, 110, 107])) then
      let rv88 := (pz_name (Gparser.mk p.l (p.at_ + 1) p.Err))
      let rv98 := (pz_end (Gparser.mk p.l rv88.2.at_ rv88.2.Err))
      ((GStmt.mk 5 (Str.mk []) [rv88.1] []), (Gparser.mk p.l rv98.at_ rv98.Err))
     else
      bif ((p.l.getD p.at_.toNat default).Text == (Str.mk [115, 97, 110, 105, 116, 105, 122, 101])) then
       let rv107 := (pz_name (Gparser.mk p.l (p.at_ + 1) p.Err))
       let rv114 := (pz_end (Gparser.mk p.l rv107.2.at_ rv107.2.Err))
       ((GStmt.mk 6 rv107.1 [] []), (Gparser.mk p.l rv114.at_ rv114.Err))
      else
       bif ((p.l.getD p.at_.toNat default).Text == (Str.mk [103, 111, 116, 111])) then
        let rv123 := (pz_name (Gparser.mk p.l (p.at_ + 1) p.Err))
        let rv133 := (pz_end (Gparser.mk p.l rv123.2.at_ rv123.2.Err))
        ((GStmt.mk 7 (Str.mk []) [] [rv123.1]), (Gparser.mk p.l rv133.at_ rv133.Err))
       else
        bif ((p.l.getD p.at_.toNat default).Text == (Str.mk [98, 114, 97, 110, 99, 104])) then
         let rv142 := (pz_name (Gparser.mk p.l (p.at_ + 1) p.Err))
         let rv152 := (pz_name (Gparser.mk p.l rv142.2.at_ rv142.2.Err))
         let rv162 := (pz_name (Gparser.mk p.l rv152.2.at_ rv152.2.Err))
         let rv178 := (pz_end (Gparser.mk p.l rv162.2.at_ rv162.2.Err))
         ((GStmt.mk 8 (Str.mk []) [rv142.1] ([rv152.1] ++ [rv162.1])), (Gparser.mk p.l rv178.at_ rv178.Err))
        else
         bif ((p.l.getD p.at_.toNat default).Text == (Str.mk [114, 101, 116, 117, 114, 110])) then
          let rv187 := (pz_end (Gparser.mk p.l (p.at_ + 1) p.Err))
          ((GStmt.mk 9 (Str.mk []) [] []), (Gparser.mk p.l rv187.at_ rv187.Err))
         else
          let rv194 := (pz_name (Gparser.mk p.l (p.at_ + 1) p.Err))
          let rv201 := (pz_isKind (Gparser.mk p.l rv194.2.at_ rv194.2.Err) 2)
          bif (!rv201) then
           let rv208 := (pz_fail (Gparser.mk p.l rv194.2.at_ rv194.2.Err) 4)
           ((GStmt.mk 1 rv194.1 [] []), (Gparser.mk p.l rv208.at_ rv208.Err))
          else
           let rv218 := (pz_names (Gparser.mk p.l (rv194.2.at_ + 1) rv194.2.Err))
           let rv229 := (pz_end (Gparser.mk p.l rv218.2.at_ rv218.2.Err))
           ((GStmt.mk 1 rv194.1 rv218.1 []), (Gparser.mk p.l rv229.at_ rv229.Err))
 else
  bif ((Str.mk []) == (Str.mk [117, 115, 101])) then
   let rv240 := (pz_name p)
   let rv251 := (pz_more (Gparser.mk p.l rv240.2.at_ rv240.2.Err) 1)
   let rv268 := (pz_end (Gparser.mk p.l rv251.2.at_ rv251.2.Err))
   ((GStmt.mk 2 (Str.mk []) ([rv240.1] ++ rv251.1) []), (Gparser.mk p.l rv268.at_ rv268.Err))
  else
   bif ((Str.mk []) == (Str.mk [99, 97, 108, 108])) then
    let rv277 := (pz_name p)
    let rv287 := (pz_end (Gparser.mk p.l rv277.2.at_ rv277.2.Err))
    ((GStmt.mk 3 (Str.mk []) [] [rv277.1]), (Gparser.mk p.l rv287.at_ rv287.Err))
   else
    bif ((Str.mk []) == (Str.mk [115, 111, 117, 114, 99, 101])) then
     let rv296 := (pz_name p)
     let rv303 := (pz_end (Gparser.mk p.l rv296.2.at_ rv296.2.Err))
     ((GStmt.mk 4 rv296.1 [] []), (Gparser.mk p.l rv303.at_ rv303.Err))
    else
     bif ((Str.mk []) == (Str.mk [115, 105, 110, 107])) then
      let rv312 := (pz_name p)
      let rv322 := (pz_end (Gparser.mk p.l rv312.2.at_ rv312.2.Err))
      ((GStmt.mk 5 (Str.mk []) [rv312.1] []), (Gparser.mk p.l rv322.at_ rv322.Err))
     else
      bif ((Str.mk []) == (Str.mk [115, 97, 110, 105, 116, 105, 122, 101])) then
       let rv331 := (pz_name p)
       let rv338 := (pz_end (Gparser.mk p.l rv331.2.at_ rv331.2.Err))
       ((GStmt.mk 6 rv331.1 [] []), (Gparser.mk p.l rv338.at_ rv338.Err))
      else
       bif ((Str.mk []) == (Str.mk [103, 111, 116, 111])) then
        let rv347 := (pz_name p)
        let rv357 := (pz_end (Gparser.mk p.l rv347.2.at_ rv347.2.Err))
        ((GStmt.mk 7 (Str.mk []) [] [rv347.1]), (Gparser.mk p.l rv357.at_ rv357.Err))
       else
        bif ((Str.mk []) == (Str.mk [98, 114, 97, 110, 99, 104])) then
         let rv366 := (pz_name p)
         let rv376 := (pz_name (Gparser.mk p.l rv366.2.at_ rv366.2.Err))
         let rv386 := (pz_name (Gparser.mk p.l rv376.2.at_ rv376.2.Err))
         let rv402 := (pz_end (Gparser.mk p.l rv386.2.at_ rv386.2.Err))
         ((GStmt.mk 8 (Str.mk []) [rv366.1] ([rv376.1] ++ [rv386.1])), (Gparser.mk p.l rv402.at_ rv402.Err))
        else
         bif ((Str.mk []) == (Str.mk [114, 101, 116, 117, 114, 110])) then
          let rv411 := (pz_end p)
          ((GStmt.mk 9 (Str.mk []) [] []), (Gparser.mk p.l rv411.at_ rv411.Err))
         else
          let rv418 := (pz_name p)
          let rv425 := (pz_isKind (Gparser.mk p.l rv418.2.at_ rv418.2.Err) 2)
          bif (!rv425) then
           let rv432 := (pz_fail (Gparser.mk p.l rv418.2.at_ rv418.2.Err) 4)
           ((GStmt.mk 1 rv418.1 [] []), (Gparser.mk p.l rv432.at_ rv432.Err))
          else
           let rv442 := (pz_names (Gparser.mk p.l (rv418.2.at_ + 1) rv418.2.Err))
           let rv453 := (pz_end (Gparser.mk p.l rv442.2.at_ rv442.2.Err))
           ((GStmt.mk 1 rv418.1 rv442.1 []), (Gparser.mk p.l rv453.at_ rv453.Err))
def pz_block_L0 (p : Gparser) (b0 : Str) : Nat → Int → Int → List GStmt → LR (Int × Int × List GStmt) (GBlock × Gparser)
 | 0, p1, p2, b1 =>
  .oof
 | r + 1, p1, p2, b1 =>
  let rv35 := (pz_begins (Gparser.mk p.l p1 p2))
  bif rv35 then
   bif ((b1.length : Int) == 32) then
    let rv42 := (pz_fail (Gparser.mk p.l p1 p2) 7)
    .ret ((GBlock.mk b0 b1), (Gparser.mk p.l rv42.at_ rv42.Err))
   else
    let rv51 := (pz_stmt (Gparser.mk p.l p1 p2))
    pz_block_L0 p b0 r rv51.2.at_ rv51.2.Err (b1 ++ [rv51.1])
  else
   .brk (p1, p2, b1)
def pz_block (p : Gparser) : GBlock × Gparser :=
 let rv3 := (pz_word p (Str.mk [98, 108, 111, 99, 107]))
 let rv9 := (pz_name (Gparser.mk p.l rv3.at_ rv3.Err))
 let rv16 := (pz_end (Gparser.mk p.l rv9.2.at_ rv9.2.Err))
 let rv22 := (pz_begins (Gparser.mk p.l rv16.at_ rv16.Err))
 bif (!rv22) then
  let rv29 := (pz_fail (Gparser.mk p.l rv16.at_ rv16.Err) 4)
  match pz_block_L0 p rv9.1 (p.l.length + 1) rv29.at_ rv29.Err [] with
  | .brk (o0_0, o0_1, o0_2) =>
   ((GBlock.mk rv9.1 o0_2), (Gparser.mk p.l o0_0 o0_1))
  | .ret r => r
  | .oof => default
 else
  match pz_block_L0 p rv9.1 (p.l.length + 1) rv16.at_ rv16.Err [] with
  | .brk (o0_0, o0_1, o0_2) =>
   ((GBlock.mk rv9.1 o0_2), (Gparser.mk p.l o0_0 o0_1))
  | .ret r => r
  | .oof => default
def pz_function_L0 (p : Gparser) (f0 : Str) : Nat → Int → Int → List GBlock → LR (Int × Int × List GBlock) (GFunc × Gparser)
 | 0, p1, p2, f1 =>
  .oof
 | r + 1, p1, p2, f1 =>
  let rv35 := (pz_is (Gparser.mk p.l p1 p2) (Str.mk [98, 108, 111, 99, 107]))
  bif rv35 then
   bif ((f1.length : Int) == 16) then
    let rv42 := (pz_fail (Gparser.mk p.l p1 p2) 7)
    .ret ((GFunc.mk f0 f1), (Gparser.mk p.l rv42.at_ rv42.Err))
   else
    let rv50 := (pz_block (Gparser.mk p.l p1 p2))
    pz_function_L0 p f0 r rv50.2.at_ rv50.2.Err (f1 ++ [rv50.1])
  else
   .brk (p1, p2, f1)
def pz_function (p : Gparser) : GFunc × Gparser :=
 let rv3 := (pz_word p (Str.mk [102, 117, 110, 99]))
 let rv9 := (pz_name (Gparser.mk p.l rv3.at_ rv3.Err))
 let rv16 := (pz_end (Gparser.mk p.l rv9.2.at_ rv9.2.Err))
 let rv22 := (pz_is (Gparser.mk p.l rv16.at_ rv16.Err) (Str.mk [98, 108, 111, 99, 107]))
 bif (!rv22) then
  let rv29 := (pz_fail (Gparser.mk p.l rv16.at_ rv16.Err) 4)
  match pz_function_L0 p rv9.1 (p.l.length + 1) rv29.at_ rv29.Err [] with
  | .brk (o0_0, o0_1, o0_2) =>
   let rv40 := (pz_word (Gparser.mk p.l o0_0 o0_1) (Str.mk [101, 110, 100]))
   let rv46 := (pz_end (Gparser.mk p.l rv40.at_ rv40.Err))
   ((GFunc.mk rv9.1 o0_2), (Gparser.mk p.l rv46.at_ rv46.Err))
  | .ret r => r
  | .oof => default
 else
  match pz_function_L0 p rv9.1 (p.l.length + 1) rv16.at_ rv16.Err [] with
  | .brk (o0_0, o0_1, o0_2) =>
   let rv60 := (pz_word (Gparser.mk p.l o0_0 o0_1) (Str.mk [101, 110, 100]))
   let rv66 := (pz_end (Gparser.mk p.l rv60.at_ rv60.Err))
   ((GFunc.mk rv9.1 o0_2), (Gparser.mk p.l rv66.at_ rv66.Err))
  | .ret r => r
  | .oof => default
def r4_Parse_L0  (p0 : List GToken) : Nat → Int → Int → List GFunc → LR (Int × Int × List GFunc) (GProgram × Int × Int × Int)
 | 0, p1, p2, out0 =>
  .oof
 | r + 1, p1, p2, out0 =>
  let rv30 := (pz_is (Gparser.mk p0 p1 p2) (Str.mk [102, 117, 110, 99]))
  bif rv30 then
   bif ((out0.length : Int) == 8) then
    let rv37 := (pz_fail (Gparser.mk p0 p1 p2) 7)
    .brk (rv37.at_, rv37.Err, out0)
   else
    let rv45 := (pz_function (Gparser.mk p0 p1 p2))
    r4_Parse_L0 p0 r rv45.2.at_ rv45.2.Err (out0 ++ [rv45.1])
  else
   .brk (p1, p2, out0)
def r4_Parse (text : Str) : GProgram × Int × Int × Int :=
 let rv3 := (r4_Scan text)
 bif (rv3.2.2.2 != 0) then
  ((GProgram.mk []), rv3.2.1, rv3.2.2.1, rv3.2.2.2)
 else
  let rv17 := (pz_is (Gparser.mk rv3.1 0 0) (Str.mk [102, 117, 110, 99]))
  bif (!rv17) then
   let rv24 := (pz_fail (Gparser.mk rv3.1 0 0) 4)
   match r4_Parse_L0 rv3.1 (rv3.1.length + 1) rv24.at_ rv24.Err [] with
   | .brk (o0_0, o0_1, o0_2) =>
    bif (o0_1 == 0) then
     bif decide (o0_0 < (rv3.1.length : Int)) then
      let rv39 := (pz_fail (Gparser.mk rv3.1 o0_0 o0_1) 4)
      bif (rv39.Err == 0) then
       ((GProgram.mk o0_2), 0, 0, 0)
      else
       bif decide (rv39.at_ < (rv3.1.length : Int)) then
        ((GProgram.mk []), (rv3.1.getD rv39.at_.toNat default).Line, (rv3.1.getD rv39.at_.toNat default).Col, rv39.Err)
       else
        ((GProgram.mk []), 0, 0, rv39.Err)
     else
      ((GProgram.mk o0_2), 0, 0, 0)
    else
     bif decide (o0_0 < (rv3.1.length : Int)) then
      ((GProgram.mk []), (rv3.1.getD o0_0.toNat default).Line, (rv3.1.getD o0_0.toNat default).Col, o0_1)
     else
      ((GProgram.mk []), 0, 0, o0_1)
   | .ret _ => default
   | .oof => default
  else
   match r4_Parse_L0 rv3.1 (rv3.1.length + 1) 0 0 [] with
   | .brk (o0_0, o0_1, o0_2) =>
    bif (o0_1 == 0) then
     bif decide (o0_0 < (rv3.1.length : Int)) then
      let rv80 := (pz_fail (Gparser.mk rv3.1 o0_0 o0_1) 4)
      bif (rv80.Err == 0) then
       ((GProgram.mk o0_2), 0, 0, 0)
      else
       bif decide (rv80.at_ < (rv3.1.length : Int)) then
        ((GProgram.mk []), (rv3.1.getD rv80.at_.toNat default).Line, (rv3.1.getD rv80.at_.toNat default).Col, rv80.Err)
       else
        ((GProgram.mk []), 0, 0, rv80.Err)
     else
      ((GProgram.mk o0_2), 0, 0, 0)
    else
     bif decide (o0_0 < (rv3.1.length : Int)) then
      ((GProgram.mk []), (rv3.1.getD o0_0.toNat default).Line, (rv3.1.getD o0_0.toNat default).Col, o0_1)
     else
      ((GProgram.mk []), 0, 0, o0_1)
   | .ret _ => default
   | .oof => default
def r7_Ints_L0 (a : List Int) (b : List Int) : Nat → Int → LR Unit Bool
 | 0, i =>
  .brk ()
 | r + 1, i =>
  bif ((a.getD i.toNat 0) != (b.getD i.toNat 0)) then
   .ret false
  else
   r7_Ints_L0 a b r (i + 1)
def r7_Ints (a : List Int) (b : List Int) : Bool :=
 bif ((a.length : Int) != (b.length : Int)) then
  false
 else
  match r7_Ints_L0 a b (((a.length : Int) - 0).toNat) 0 with
  | .brk _ =>
   true
  | .ret r => r
  | .oof => default
def lx_letter (c : Int) : Bool :=
 bif decide (97 ≤ c) then
  bif decide (c ≤ 122) then
   true
  else
   bif decide (65 ≤ c) then
    decide (c ≤ 90)
   else
    false
 else
  bif decide (65 ≤ c) then
   decide (c ≤ 90)
  else
   false
def sc_Index_string_L0 (s : List Str) (v : Str) : Nat → Int → LR Unit Int
 | 0, v8 =>
  .brk ()
 | r + 1, v8 =>
  bif (v == (s.getD v8.toNat default)) then
   .ret v8
  else
   sc_Index_string_L0 s v r (v8 + 1)
def sc_Index_string (s : List Str) (v : Str) : Int :=
 match sc_Index_string_L0 s v (((s.length : Int) - 0).toNat) 0 with
 | .brk _ =>
  -1
 | .ret r => r
 | .oof => default
def sc_Contains_string (s : List Str) (v : Str) : Bool :=
 let rv1 := (sc_Index_string s v)
 decide (0 ≤ rv1)
def lx_digit (c : Int) : Bool :=
 bif decide (48 ≤ c) then
  decide (c ≤ 57)
 else
  false
def lx_part (c : Int) : Bool :=
 let rv1 := (lx_letter c)
 bif rv1 then
  true
 else
  let rv7 := (lx_digit c)
  bif rv7 then
   true
  else
   (c == 95)
def lx_wordEnd_L0 (s : Str) : Nat → Int → Int
 | 0, i' =>
  i'
 | r + 1, i' =>
  let rv4 := (lx_part ((s.b.getD i'.toNat 0).toNat : Int))
  bif rv4 then
   lx_wordEnd_L0 s r (i' + 1)
  else
   i'
def lx_wordEnd (s : Str) (i : Int) : Int :=
 match lx_wordEnd_L0 s (((s.b.length : Int) - i).toNat) i with
 | o0_0 =>
  o0_0
def lx_IsName (s : Str) : Bool :=
 bif (s == (Str.mk [])) then
  false
 else
  bif decide (16 < (s.b.length : Int)) then
   false
  else
   let rv8 := (lx_letter ((s.b.getD (0 : Int).toNat 0).toNat : Int))
   bif (!rv8) then
    false
   else
    let rv18 := (sc_Contains_string kwL s)
    bif rv18 then
     false
    else
     let rv24 := (lx_wordEnd s 0)
     (rv24 == (s.b.length : Int))
def sc_IndexFunc_Stmt_L0 (s : List GStmt) (fp : GStmt → Bool) : Nat → Int → LR Unit Int
 | 0, v8 =>
  .brk ()
 | r + 1, v8 =>
  bif (fp (s.getD v8.toNat default)) then
   .ret v8
  else
   sc_IndexFunc_Stmt_L0 s fp r (v8 + 1)
def sc_IndexFunc_Stmt (s : List GStmt) (fp : GStmt → Bool) : Int :=
 match sc_IndexFunc_Stmt_L0 s fp (((s.length : Int) - 0).toNat) 0 with
 | .brk _ =>
  -1
 | .ret r => r
 | .oof => default
def sc_ContainsFunc_Stmt (s : List GStmt) (fp : GStmt → Bool) : Bool :=
 let rv1 := (sc_IndexFunc_Stmt s fp)
 decide (0 ≤ rv1)
def sc_Clone_string (s : List Str) : List Str := s
def sc_IndexFunc_string_L0 (s : List Str) (fp : Str → Bool) : Nat → Int → LR Unit Int
 | 0, v8 =>
  .brk ()
 | r + 1, v8 =>
  bif (fp (s.getD v8.toNat default)) then
   .ret v8
  else
   sc_IndexFunc_string_L0 s fp r (v8 + 1)
def sc_IndexFunc_string (s : List Str) (fp : Str → Bool) : Int :=
 match sc_IndexFunc_string_L0 s fp (((s.length : Int) - 0).toNat) 0 with
 | .brk _ =>
  -1
 | .ret r => r
 | .oof => default
def sc_ContainsFunc_string (s : List Str) (fp : Str → Bool) : Bool :=
 let rv1 := (sc_IndexFunc_string s fp)
 decide (0 ≤ rv1)
def sx_valid_1 (n : Str) : Bool :=
 let rv1 := (lx_IsName n)
 (!rv1)
def sx_valid (s : GStmt) : Bool :=
 bif (s.Op == 1) then
  let rv5 := (sc_Clone_string s.Uses)
  bif ((s.Uses.length : Int) == (s.Uses.length : Int)) then
   bif decide ((s.Uses.length : Int) ≤ 4) then
    bif ((s.Targets.length : Int) == 0) then
     let rv34 := (sc_ContainsFunc_string ((rv5 ++ s.Targets) ++ [s.Def]) (fun x => sx_valid_1 x))
     (!rv34)
    else
     false
   else
    false
  else
   false
 else
  bif (s.Op == 2) then
   let rv44 := (sc_Clone_string s.Uses)
   bif (s.Def == (Str.mk [])) then
    bif ((s.Uses.length : Int) == (max (s.Uses.length : Int) 1)) then
     bif decide ((max (s.Uses.length : Int) 1) ≤ 4) then
      bif ((s.Targets.length : Int) == 0) then
       let rv66 := (sc_ContainsFunc_string (rv44 ++ s.Targets) (fun x => sx_valid_1 x))
       (!rv66)
      else
       false
     else
      false
    else
     false
   else
    false
  else
   bif (s.Op == 5) then
    let rv77 := (sc_Clone_string s.Uses)
    bif (s.Def == (Str.mk [])) then
     bif ((s.Uses.length : Int) == 1) then
      bif ((s.Targets.length : Int) == 0) then
       let rv97 := (sc_ContainsFunc_string (rv77 ++ s.Targets) (fun x => sx_valid_1 x))
       (!rv97)
      else
       false
     else
      false
    else
     false
   else
    bif (s.Op == 4) then
     let rv109 := (sc_Clone_string s.Uses)
     bif ((s.Uses.length : Int) == 0) then
      bif ((s.Targets.length : Int) == 0) then
       let rv136 := (sc_ContainsFunc_string ((rv109 ++ s.Targets) ++ [s.Def]) (fun x => sx_valid_1 x))
       (!rv136)
      else
       false
     else
      false
    else
     bif (s.Op == 6) then
      let rv145 := (sc_Clone_string s.Uses)
      bif ((s.Uses.length : Int) == 0) then
       bif ((s.Targets.length : Int) == 0) then
        let rv172 := (sc_ContainsFunc_string ((rv145 ++ s.Targets) ++ [s.Def]) (fun x => sx_valid_1 x))
        (!rv172)
       else
        false
      else
       false
     else
      bif (s.Op == 8) then
       let rv183 := (sc_Clone_string s.Uses)
       bif (s.Def == (Str.mk [])) then
        bif ((s.Uses.length : Int) == 1) then
         bif ((s.Targets.length : Int) == ((0 + 1) + 1)) then
          let rv203 := (sc_ContainsFunc_string (rv183 ++ s.Targets) (fun x => sx_valid_1 x))
          (!rv203)
         else
          false
        else
         false
       else
        false
      else
       bif (s.Op == 3) then
        let rv217 := (sc_Clone_string s.Uses)
        bif (s.Def == (Str.mk [])) then
         bif ((s.Uses.length : Int) == 0) then
          bif ((s.Targets.length : Int) == (0 + 1)) then
           let rv237 := (sc_ContainsFunc_string (rv217 ++ s.Targets) (fun x => sx_valid_1 x))
           (!rv237)
          else
           false
         else
          false
        else
         false
       else
        bif (s.Op == 7) then
         let rv249 := (sc_Clone_string s.Uses)
         bif (s.Def == (Str.mk [])) then
          bif ((s.Uses.length : Int) == 0) then
           bif ((s.Targets.length : Int) == (0 + 1)) then
            let rv269 := (sc_ContainsFunc_string (rv249 ++ s.Targets) (fun x => sx_valid_1 x))
            (!rv269)
           else
            false
          else
           false
         else
          false
        else
         bif (s.Op == 9) then
          let rv279 := (sc_Clone_string s.Uses)
          bif (s.Def == (Str.mk [])) then
           bif ((s.Uses.length : Int) == 0) then
            bif ((s.Targets.length : Int) == 0) then
             let rv299 := (sc_ContainsFunc_string (rv279 ++ s.Targets) (fun x => sx_valid_1 x))
             (!rv299)
            else
             false
           else
            false
          else
           false
         else
          false
def sx_Valid_1 (s : GStmt) : Bool :=
 let rv2 := (sx_valid s)
 (!rv2)
def sx_Valid_L1  (v41 : List GBlock) : Nat → Int → LR Unit Bool
 | 0, v43 =>
  .brk ()
 | r + 1, v43 =>
  let rv38 := (lx_IsName ((v41.getD v43.toNat default).Name))
  bif (!rv38) then
   .ret false
  else
   bif decide ((((v41.getD v43.toNat default).Stmts).length : Int) < 1) then
    .ret false
   else
    bif decide (32 < (((v41.getD v43.toNat default).Stmts).length : Int)) then
     .ret false
    else
     let rv54 := (sc_ContainsFunc_Stmt ((v41.getD v43.toNat default).Stmts) (fun x => sx_Valid_1 x))
     bif rv54 then
      .ret false
     else
      sx_Valid_L1 v41 r (v43 + 1)
def sx_Valid_L0 (p : GProgram) : Nat → Int → LR Unit Bool
 | 0, v20 =>
  .brk ()
 | r + 1, v20 =>
  let rv15 := (lx_IsName ((p.Funcs.getD v20.toNat default).Name))
  bif (!rv15) then
   .ret false
  else
   bif decide ((((p.Funcs.getD v20.toNat default).Blocks).length : Int) < 1) then
    .ret false
   else
    bif decide (16 < (((p.Funcs.getD v20.toNat default).Blocks).length : Int)) then
     .ret false
    else
     match sx_Valid_L1 ((p.Funcs.getD v20.toNat default).Blocks) ((((((p.Funcs.getD v20.toNat default).Blocks).length : Int) : Int) - 0).toNat) 0 with
     | .brk _ =>
      sx_Valid_L0 p r (v20 + 1)
     | .ret r => .ret r
     | .oof => .oof
def sx_Valid (p : GProgram) : Bool :=
 bif decide ((p.Funcs.length : Int) < 1) then
  false
 else
  bif decide (8 < (p.Funcs.length : Int)) then
   false
  else
   match sx_Valid_L0 p (((p.Funcs.length : Int) - 0).toNat) 0 with
   | .brk _ =>
    true
   | .ret r => r
   | .oof => default
def vd_duplicate_Func_L0 (l : List GFunc) (namep : GFunc → Str) : Nat → List (Str × Bool) → Int → Int → (List (Str × Bool)) × Int
 | 0, known, at_, v13 =>
  (known, at_)
 | r + 1, known, at_, v13 =>
  bif ((mget known (namep (l.getD v13.toNat default))).getD false) then
   bif decide (at_ < 0) then
    vd_duplicate_Func_L0 l namep r (mset known (namep (l.getD v13.toNat default)) true) v13 (v13 + 1)
   else
    vd_duplicate_Func_L0 l namep r (mset known (namep (l.getD v13.toNat default)) true) at_ (v13 + 1)
  else
   vd_duplicate_Func_L0 l namep r (mset known (namep (l.getD v13.toNat default)) true) at_ (v13 + 1)
def vd_duplicate_Func (l : List GFunc) (namep : GFunc → Str) : Int × (List (Str × Bool)) :=
 match vd_duplicate_Func_L0 l namep (((l.length : Int) - 0).toNat) [] (-1) 0 with
 | (o0_0, o0_1) =>
  (o0_1, o0_0)
def vd_Check_1 (f : GFunc) : Str :=
 f.Name
def vd_duplicate_Block_L0 (l : List GBlock) (namep : GBlock → Str) : Nat → List (Str × Bool) → Int → Int → (List (Str × Bool)) × Int
 | 0, known, at_, v13 =>
  (known, at_)
 | r + 1, known, at_, v13 =>
  bif ((mget known (namep (l.getD v13.toNat default))).getD false) then
   bif decide (at_ < 0) then
    vd_duplicate_Block_L0 l namep r (mset known (namep (l.getD v13.toNat default)) true) v13 (v13 + 1)
   else
    vd_duplicate_Block_L0 l namep r (mset known (namep (l.getD v13.toNat default)) true) at_ (v13 + 1)
  else
   vd_duplicate_Block_L0 l namep r (mset known (namep (l.getD v13.toNat default)) true) at_ (v13 + 1)
def vd_duplicate_Block (l : List GBlock) (namep : GBlock → Str) : Int × (List (Str × Bool)) :=
 match vd_duplicate_Block_L0 l namep (((l.length : Int) - 0).toNat) [] (-1) 0 with
 | (o0_0, o0_1) =>
  (o0_1, o0_0)
def vd_function_1 (b : GBlock) : Str :=
 b.Name
def vd_terminator (s : GStmt) : Bool :=
 bif (s.Op == 7) then
  true
 else
  bif (s.Op == 8) then
   true
  else
   (s.Op == 9)
def vd_statement_L0 (s : GStmt) (known : List (Str × Bool)) : Nat → Int → LR Unit Int
 | 0, v16 =>
  .brk ()
 | r + 1, v16 =>
  bif (!((mget known (s.Targets.getD v16.toNat default)).getD false)) then
   .ret 5
  else
   vd_statement_L0 s known r (v16 + 1)
def vd_statement (s : GStmt) (last : Bool) (known : List (Str × Bool)) : Int :=
 let rv2 := (vd_terminator s)
 bif (!(rv2 == last)) then
  4
 else
  match vd_statement_L0 s known (((s.Targets.length : Int) - 0).toNat) 0 with
  | .brk _ =>
   0
  | .ret r => r
  | .oof => default
def vd_function_L1 (i : Int) (funcs : List (Str × Bool)) (blocks : List (Str × Bool)) (k : Int) (b1 : List GStmt) (v36 : List GStmt) : Nat → Int → LR Unit (GNode × Int)
 | 0, v38 =>
  .brk ()
 | r + 1, v38 =>
  bif ((v36.getD v38.toNat default).Op == 3) then
   let rv34 := (vd_statement (v36.getD v38.toNat default) (v38 == ((b1.length : Int) - 1)) funcs)
   bif (rv34 != 0) then
    .ret ((GNode.mk 3 i k v38), rv34)
   else
    vd_function_L1 i funcs blocks k b1 v36 r (v38 + 1)
  else
   let rv42 := (vd_statement (v36.getD v38.toNat default) (v38 == ((b1.length : Int) - 1)) blocks)
   bif (rv42 != 0) then
    .ret ((GNode.mk 3 i k v38), rv42)
   else
    vd_function_L1 i funcs blocks k b1 v36 r (v38 + 1)
def vd_function_L0 (f : GFunc) (i : Int) (funcs : List (Str × Bool)) (blocks : List (Str × Bool)) : Nat → Int → LR Unit (GNode × Int)
 | 0, v30 =>
  .brk ()
 | r + 1, v30 =>
  match vd_function_L1 i funcs blocks v30 ((f.Blocks.getD v30.toNat default).Stmts) ((f.Blocks.getD v30.toNat default).Stmts) ((((((f.Blocks.getD v30.toNat default).Stmts).length : Int) : Int) - 0).toNat) 0 with
  | .brk _ =>
   vd_function_L0 f i funcs blocks r (v30 + 1)
  | .ret r => .ret r
  | .oof => .oof
def vd_function (f : GFunc) (i : Int) (funcs : List (Str × Bool)) : GNode × Int :=
 let rv4 := (vd_duplicate_Block f.Blocks (fun x0 => vd_function_1 x0))
 bif decide (0 ≤ rv4.1) then
  ((GNode.mk 3 i rv4.1 (-1)), 6)
 else
  match vd_function_L0 f i funcs rv4.2 (((f.Blocks.length : Int) - 0).toNat) 0 with
  | .brk _ =>
   ((GNode.mk 0 0 0 0), 0)
  | .ret r => r
  | .oof => default
def vd_Sizes_1 (s : GStmt) (cap0 : Int) (cap1 : Int) : Int × Int :=
 bif (s.Op == 3) then
  (((cap0 + 1) + 1), (cap1 + 3))
 else
  bif (s.Op == 8) then
   ((cap0 + 1), (cap1 + 2))
  else
   ((cap0 + 1), (cap1 + 1))
def vd_each_Sizes_1_L2  (v28 : List GStmt) : Nat → Int → Int → Int → Int × Int
 | 0, st00, st10, v30 =>
  (st00, st10)
 | r + 1, st00, st10, v30 =>
  let rv39 := (vd_Sizes_1 (v28.getD v30.toNat default) st00 st10)
  vd_each_Sizes_1_L2 v28 r rv39.1 rv39.2 (v30 + 1)
def vd_each_Sizes_1_L1  (v21 : List GBlock) : Nat → Int → Int → Int → Int × Int
 | 0, st00, st10, v23 =>
  (st00, st10)
 | r + 1, st00, st10, v23 =>
  match vd_each_Sizes_1_L2 ((v21.getD v23.toNat default).Stmts) ((((((v21.getD v23.toNat default).Stmts).length : Int) : Int) - 0).toNat) st00 st10 0 with
  | (o2_0, o2_1) =>
   vd_each_Sizes_1_L1 v21 r o2_0 o2_1 (v23 + 1)
def vd_each_Sizes_1_L0 (p : GProgram) : Nat → Int → Int → Int → Int × Int
 | 0, st00, st10, v16 =>
  (st00, st10)
 | r + 1, st00, st10, v16 =>
  match vd_each_Sizes_1_L1 ((p.Funcs.getD v16.toNat default).Blocks) ((((((p.Funcs.getD v16.toNat default).Blocks).length : Int) : Int) - 0).toNat) st00 st10 0 with
  | (o1_0, o1_1) =>
   vd_each_Sizes_1_L0 p r o1_0 o1_1 (v16 + 1)
def vd_each_Sizes_1 (p : GProgram) (st0 : Int) (st1 : Int) : Int × Int :=
 let rv2 := (sx_Valid p)
 bif (!rv2) then
  (st0, st1)
 else
  match vd_each_Sizes_1_L0 p (((p.Funcs.length : Int) - 0).toNat) st0 st1 0 with
  | (o0_0, o0_1) =>
   (o0_0, o0_1)
def vd_Sizes (p : GProgram) : Int × Int :=
 let rv2 := (sx_Valid p)
 bif (!rv2) then
  (0, 0)
 else
  let rv14 := (vd_each_Sizes_1 p (2 * (p.Funcs.length : Int)) (p.Funcs.length : Int))
  (rv14.1, rv14.2)
def vd_Variables_1 (n : Str) (cap0 : List (Str × Bool)) (cap1 : List Str) : (List (Str × Bool)) × List Str :=
 bif (n != (Str.mk [])) then
  bif (!((mget cap0 n).getD false)) then
   ((mset cap0 n true), (cap1 ++ [n]))
  else
   (cap0, cap1)
 else
  (cap0, cap1)
def vd_Variables_2_Variables_1_L0 (s : GStmt) : Nat → List (Str × Bool) → List Str → Int → (List (Str × Bool)) × List Str
 | 0, st00, st10, v12 =>
  (st00, st10)
 | r + 1, st00, st10, v12 =>
  let rv17 := (vd_Variables_1 (s.Uses.getD v12.toNat default) st00 st10)
  vd_Variables_2_Variables_1_L0 s r rv17.1 rv17.2 (v12 + 1)
def vd_Variables_2_Variables_1 (s : GStmt) (st0 : List (Str × Bool)) (st1 : List Str) : (List (Str × Bool)) × List Str :=
 let rv3 := (vd_Variables_1 s.Def st0 st1)
 match vd_Variables_2_Variables_1_L0 s (((s.Uses.length : Int) - 0).toNat) rv3.1 rv3.2 0 with
 | (o0_0, o0_1) =>
  (o0_0, o0_1)
def vd_each_Variables_2_L2  (v28 : List GStmt) : Nat → List (Str × Bool) → List Str → Int → (List (Str × Bool)) × List Str
 | 0, st10, st20, v30 =>
  (st10, st20)
 | r + 1, st10, st20, v30 =>
  let rv40 := (vd_Variables_2_Variables_1 (v28.getD v30.toNat default) st10 st20)
  vd_each_Variables_2_L2 v28 r rv40.1 rv40.2 (v30 + 1)
def vd_each_Variables_2_L1  (v21 : List GBlock) : Nat → List (Str × Bool) → List Str → Int → (List (Str × Bool)) × List Str
 | 0, st10, st20, v23 =>
  (st10, st20)
 | r + 1, st10, st20, v23 =>
  match vd_each_Variables_2_L2 ((v21.getD v23.toNat default).Stmts) ((((((v21.getD v23.toNat default).Stmts).length : Int) : Int) - 0).toNat) st10 st20 0 with
  | (o2_0, o2_1) =>
   vd_each_Variables_2_L1 v21 r o2_0 o2_1 (v23 + 1)
def vd_each_Variables_2_L0 (p : GProgram) : Nat → List (Str × Bool) → List Str → Int → (List (Str × Bool)) × List Str
 | 0, st10, st20, v16 =>
  (st10, st20)
 | r + 1, st10, st20, v16 =>
  match vd_each_Variables_2_L1 ((p.Funcs.getD v16.toNat default).Blocks) ((((((p.Funcs.getD v16.toNat default).Blocks).length : Int) : Int) - 0).toNat) st10 st20 0 with
  | (o1_0, o1_1) =>
   vd_each_Variables_2_L0 p r o1_0 o1_1 (v16 + 1)
def vd_each_Variables_2 (p : GProgram) (st1 : List (Str × Bool)) (st2 : List Str) : (List (Str × Bool)) × List Str :=
 let rv2 := (sx_Valid p)
 bif (!rv2) then
  (st1, st2)
 else
  match vd_each_Variables_2_L0 p (((p.Funcs.length : Int) - 0).toNat) st1 st2 0 with
  | (o0_0, o0_1) =>
   (o0_0, o0_1)
def vd_Variables (p : GProgram) : List Str :=
 let rv8 := (vd_each_Variables_2 p [] [])
 rv8.2
def vd_Check_L0 (p : GProgram) (funcs : List (Str × Bool)) : Nat → Int → LR Unit (GNode × Int)
 | 0, v29 =>
  .brk ()
 | r + 1, v29 =>
  let rv29 := (vd_function (p.Funcs.getD v29.toNat default) v29 funcs)
  bif (rv29.2 != 0) then
   .ret (rv29.1, rv29.2)
  else
   vd_Check_L0 p funcs r (v29 + 1)
def vd_Check (p : GProgram) : GNode × Int :=
 let rv3 := (sx_Valid p)
 bif (!rv3) then
  ((GNode.mk 0 0 0 0), 1)
 else
  let rv14 := (vd_duplicate_Func p.Funcs (fun x0 => vd_Check_1 x0))
  bif decide (0 ≤ rv14.1) then
   ((GNode.mk 1 rv14.1 (-1) (-1)), 6)
  else
   match vd_Check_L0 p rv14.2 (((p.Funcs.length : Int) - 0).toNat) 0 with
   | .brk _ =>
    let rv22 := (vd_Sizes p)
    let rv29 := (vd_Variables p)
    bif decide (64 < (rv29.length : Int)) then
     ((GNode.mk 0 0 0 0), 7)
    else
     bif decide (256 < rv22.1) then
      ((GNode.mk 0 0 0 0), 7)
     else
      bif decide (1024 < rv22.2) then
       ((GNode.mk 0 0 0 0), 7)
      else
       ((GNode.mk 0 0 0 0), 0)
   | .ret r => r
   | .oof => default
def nd_List_L2  (i : Int) (k : Int) (v41 : List GStmt) : Nat → List GNode → Int → List GNode
 | 0, out, v43 =>
  out
 | r + 1, out, v43 =>
  bif ((v41.getD v43.toNat default).Op == 3) then
   nd_List_L2 i k v41 r ((out ++ [(GNode.mk 3 i k v43)]) ++ [(GNode.mk 4 i k v43)]) (v43 + 1)
  else
   nd_List_L2 i k v41 r (out ++ [(GNode.mk 3 i k v43)]) (v43 + 1)
def nd_List_L1  (i : Int) (v33 : List GBlock) : Nat → List GNode → Int → List GNode
 | 0, out, v35 =>
  out
 | r + 1, out, v35 =>
  match nd_List_L2 i v35 ((v33.getD v35.toNat default).Stmts) ((((((v33.getD v35.toNat default).Stmts).length : Int) : Int) - 0).toNat) out 0 with
  | o2_0 =>
   nd_List_L1 i v33 r o2_0 (v35 + 1)
def nd_List_L0 (p : GProgram) : Nat → List GNode → Int → List GNode
 | 0, out, v22 =>
  out
 | r + 1, out, v22 =>
  match nd_List_L1 v22 ((p.Funcs.getD v22.toNat default).Blocks) ((((((p.Funcs.getD v22.toNat default).Blocks).length : Int) : Int) - 0).toNat) (out ++ [(GNode.mk 1 v22 (-1) (-1))]) 0 with
  | o1_0 =>
   nd_List_L0 p r (o1_0 ++ [(GNode.mk 2 v22 (-1) (-1))]) (v22 + 1)
def nd_List (p : GProgram) : List GNode :=
 let rv2 := (vd_Check p)
 bif (rv2.2 != 0) then
  []
 else
  match nd_List_L0 p (((p.Funcs.length : Int) - 0).toNat) [] 0 with
  | o0_0 =>
   o0_0
def bd_edge (b : Gbuilder) (from_ : Int) (to_ : Int) : Gbuilder :=
 let rv5 := (sc_Contains_int (b.g.Succ.getD from_.toNat []) to_)
 bif rv5 then
  b
 else
  (Gbuilder.mk (GGraph.mk b.g.Nodes (b.g.Succ.set from_.toNat ((b.g.Succ.getD from_.toNat []) ++ [to_])) (b.g.Pred.set to_.toNat ((b.g.Pred.getD to_.toNat []) ++ [from_]))) b.number)
def bd_at (b : Gbuilder) (kind : Int) (f : Int) (block : Int) (stmt : Int) : Int :=
 ((mget b.number (GNode.mk kind f block stmt)).getD 0)
def sc_IndexFunc_Block_L0 (s : List GBlock) (fp : GBlock → Bool) : Nat → Int → LR Unit Int
 | 0, v8 =>
  .brk ()
 | r + 1, v8 =>
  bif (fp (s.getD v8.toNat default)) then
   .ret v8
  else
   sc_IndexFunc_Block_L0 s fp r (v8 + 1)
def sc_IndexFunc_Block (s : List GBlock) (fp : GBlock → Bool) : Int :=
 match sc_IndexFunc_Block_L0 s fp (((s.length : Int) - 0).toNat) 0 with
 | .brk _ =>
  -1
 | .ret r => r
 | .oof => default
def bd_first_1 (x : GBlock) (cap0 : Str) : Bool :=
 (x.Name == cap0)
def bd_first (b : Gbuilder) (p : GProgram) (f : Int) (name : Str) : Int :=
 let rv7 := (sc_IndexFunc_Block ((p.Funcs.getD f.toNat default).Blocks) (fun x => bd_first_1 x name))
 let rv11 := (bd_at b 3 f rv7 0)
 rv11
def sc_IndexFunc_Func_L0 (s : List GFunc) (fp : GFunc → Bool) : Nat → Int → LR Unit Int
 | 0, v8 =>
  .brk ()
 | r + 1, v8 =>
  bif (fp (s.getD v8.toNat default)) then
   .ret v8
  else
   sc_IndexFunc_Func_L0 s fp r (v8 + 1)
def sc_IndexFunc_Func (s : List GFunc) (fp : GFunc → Bool) : Int :=
 match sc_IndexFunc_Func_L0 s fp (((s.length : Int) - 0).toNat) 0 with
 | .brk _ =>
  -1
 | .ret r => r
 | .oof => default
def bd_stmt_1 (x : GFunc) (cap0 : GStmt) : Bool :=
 (x.Name == (cap0.Targets.getD (0 : Int).toNat default))
def bd_stmt_L0 (p : GProgram) (n : GNode) (s : GStmt) (here : Int) : Nat → List GNode → List (List Int) → List (List Int) → List (GNode × Int) → Int → List GNode × List (List Int) × List (List Int) × (List (GNode × Int))
 | 0, b0, b1, b2, b3, v41 =>
  (b0, b1, b2, b3)
 | r + 1, b0, b1, b2, b3, v41 =>
  let rv18 := (bd_first (Gbuilder.mk (GGraph.mk b0 b1 b2) b3) p n.Func (s.Targets.getD v41.toNat default))
  let rv26 := (bd_edge (Gbuilder.mk (GGraph.mk b0 b1 b2) b3) here rv18)
  bd_stmt_L0 p n s here r rv26.g.Nodes rv26.g.Succ rv26.g.Pred rv26.number (v41 + 1)
def bd_stmt (b : Gbuilder) (p : GProgram) (n : GNode) (s : GStmt) : Gbuilder :=
 let rv4 := (bd_at b 3 n.Func n.Block (n.Stmt + 1))
 bif (s.Op == 7) then
  match bd_stmt_L0 p n s ((mget b.number n).getD 0) (((s.Targets.length : Int) - 0).toNat) b.g.Nodes b.g.Succ b.g.Pred b.number 0 with
  | (o0_0, o0_1, o0_2, o0_3) =>
   (Gbuilder.mk (GGraph.mk o0_0 o0_1 o0_2) o0_3)
 else
  bif (s.Op == 8) then
   match bd_stmt_L0 p n s ((mget b.number n).getD 0) (((s.Targets.length : Int) - 0).toNat) b.g.Nodes b.g.Succ b.g.Pred b.number 0 with
   | (o0_0, o0_1, o0_2, o0_3) =>
    (Gbuilder.mk (GGraph.mk o0_0 o0_1 o0_2) o0_3)
  else
   bif (s.Op == 9) then
    let rv39 := (bd_at b 2 n.Func (-1) (-1))
    let rv47 := (bd_edge b ((mget b.number n).getD 0) rv39)
    rv47
   else
    bif (s.Op == 3) then
     let rv64 := (sc_IndexFunc_Func p.Funcs (fun x => bd_stmt_1 x s))
     let rv68 := (bd_at b 4 n.Func n.Block n.Stmt)
     let rv73 := (bd_at b 1 rv64 (-1) (-1))
     let rv81 := (bd_edge b ((mget b.number n).getD 0) rv73)
     let rv95 := (bd_at rv81 2 rv64 (-1) (-1))
     let rv103 := (bd_edge rv81 rv95 rv68)
     let rv120 := (bd_edge rv103 rv68 rv4)
     rv120
    else
     let rv138 := (bd_edge b ((mget b.number n).getD 0) rv4)
     rv138
def cmp_isNaN_int (x : Int) : Bool :=
 (x != x)
def cmp_Less_int (x : Int) (y : Int) : Bool :=
 let rv1 := (cmp_isNaN_int x)
 bif rv1 then
  let rv6 := (cmp_isNaN_int y)
  bif (!rv6) then
   true
  else
   decide (x < y)
 else
  decide (x < y)
def sc_insertionSortOrdered_int_L1  : Nat → List Int → Int → List Int
 | 0, data', j =>
  data'
 | r + 1, data', j =>
  let rv7 := (cmp_Less_int (data'.getD j.toNat 0) (data'.getD ((j - 1) : Int).toNat 0))
  bif rv7 then
   sc_insertionSortOrdered_int_L1 r ((data'.set j.toNat (data'.getD ((j - 1) : Int).toNat 0)).set ((j - 1) : Int).toNat (data'.getD j.toNat 0)) (j - 1)
  else
   data'
def sc_insertionSortOrdered_int_L0 (a : Int) : Nat → List Int → Int → List Int
 | 0, data', i =>
  data'
 | r + 1, data', i =>
  match sc_insertionSortOrdered_int_L1 (((i : Int) - a).toNat) data' i with
  | o1_0 =>
   sc_insertionSortOrdered_int_L0 a r o1_0 (i + 1)
def sc_insertionSortOrdered_int (data : List Int) (a : Int) (b : Int) : List Int :=
 match sc_insertionSortOrdered_int_L0 a (((b : Int) - (a + 1)).toNat) data (a + 1) with
 | o0_0 =>
  o0_0
def sc_siftDownOrdered_int_L0 (hi : Int) (first : Int) : Nat → List Int → Int → LR (List Int) (List Int)
 | 0, data', root =>
  .oof
 | r + 1, data', root =>
  bif decide (hi ≤ ((2 * root) + 1)) then
   .brk data'
  else
   bif decide ((((2 * root) + 1) + 1) < hi) then
    let rv8 := (cmp_Less_int (data'.getD ((first + ((2 * root) + 1)) : Int).toNat 0) (data'.getD (((first + ((2 * root) + 1)) + 1) : Int).toNat 0))
    bif rv8 then
     let rv15 := (cmp_Less_int (data'.getD ((first + root) : Int).toNat 0) (data'.getD ((first + (((2 * root) + 1) + 1)) : Int).toNat 0))
     bif (!rv15) then
      .ret data'
     else
      sc_siftDownOrdered_int_L0 hi first r ((data'.set ((first + root) : Int).toNat (data'.getD ((first + (((2 * root) + 1) + 1)) : Int).toNat 0)).set ((first + (((2 * root) + 1) + 1)) : Int).toNat (data'.getD ((first + root) : Int).toNat 0)) (((2 * root) + 1) + 1)
    else
     let rv30 := (cmp_Less_int (data'.getD ((first + root) : Int).toNat 0) (data'.getD ((first + ((2 * root) + 1)) : Int).toNat 0))
     bif (!rv30) then
      .ret data'
     else
      sc_siftDownOrdered_int_L0 hi first r ((data'.set ((first + root) : Int).toNat (data'.getD ((first + ((2 * root) + 1)) : Int).toNat 0)).set ((first + ((2 * root) + 1)) : Int).toNat (data'.getD ((first + root) : Int).toNat 0)) ((2 * root) + 1)
   else
    let rv45 := (cmp_Less_int (data'.getD ((first + root) : Int).toNat 0) (data'.getD ((first + ((2 * root) + 1)) : Int).toNat 0))
    bif (!rv45) then
     .ret data'
    else
     sc_siftDownOrdered_int_L0 hi first r ((data'.set ((first + root) : Int).toNat (data'.getD ((first + ((2 * root) + 1)) : Int).toNat 0)).set ((first + ((2 * root) + 1)) : Int).toNat (data'.getD ((first + root) : Int).toNat 0)) ((2 * root) + 1)
def sc_siftDownOrdered_int (data : List Int) (lo : Int) (hi : Int) (first : Int) : List Int :=
 match sc_siftDownOrdered_int_L0 hi first (hi.toNat + 1) data lo with
 | .brk o0_0 =>
  o0_0
 | .ret r => r
 | .oof => default
def sc_heapSortOrdered_int_L0 (a : Int) (b : Int) : Nat → List Int → Int → LR (List Int) (List Int)
 | 0, data', i =>
  .oof
 | r + 1, data', i =>
  bif decide (0 ≤ i) then
   let rv4 := (sc_siftDownOrdered_int data' i (b - a) a)
   sc_heapSortOrdered_int_L0 a b r rv4 (i - 1)
  else
   .brk data'
def sc_heapSortOrdered_int_L1 (a : Int) : Nat → List Int → Int → LR (List Int) (List Int)
 | 0, data', i =>
  .oof
 | r + 1, data', i =>
  bif decide (0 ≤ i) then
   let rv7 := (sc_siftDownOrdered_int ((data'.set a.toNat (data'.getD ((a + i) : Int).toNat 0)).set ((a + i) : Int).toNat (data'.getD a.toNat 0)) 0 i a)
   sc_heapSortOrdered_int_L1 a r rv7 (i - 1)
  else
   .brk data'
def sc_heapSortOrdered_int (data : List Int) (a : Int) (b : Int) : List Int :=
 match sc_heapSortOrdered_int_L0 a b ((b - a).toNat + 1) data (((b - a) - 1) / 2) with
 | .brk o0_0 =>
  match sc_heapSortOrdered_int_L1 a ((b - a).toNat + 1) o0_0 ((b - a) - 1) with
  | .brk o1_0 =>
   o1_0
  | .ret _ => default
  | .oof => default
 | .ret _ => default
 | .oof => default
def bits_Len64 (x : BitVec 64) : Int :=
 bif decide (256 ≤ (x.toNat : Int)) then
  ((0 + 8) + ((tab0.b.getD (((x >>> (((8#64).toNat : Int)).toNat).toNat : Int) : Int).toNat 0).toNat : Int))
 else
  (0 + ((tab0.b.getD ((x.toNat : Int) : Int).toNat 0).toNat : Int))
def bits_Len (x : BitVec 64) : Int :=
 let rv1 := (bits_Len64 x)
 rv1
def sc_nextPowerOfTwo (length : Int) : BitVec 64 :=
 let rv1 := (bits_Len (BitVec.ofInt 64 length))
 (1#64 <<< (rv1).toNat)
def xorshift_Next (r : BitVec 64) : BitVec 64 × BitVec 64 :=
 ((((r ^^^ (r <<< (((13#64).toNat : Int)).toNat)) ^^^ ((r ^^^ (r <<< (((13#64).toNat : Int)).toNat)) >>> (((7#64).toNat : Int)).toNat)) ^^^ (((r ^^^ (r <<< (((13#64).toNat : Int)).toNat)) ^^^ ((r ^^^ (r <<< (((13#64).toNat : Int)).toNat)) >>> (((7#64).toNat : Int)).toNat)) <<< (((17#64).toNat : Int)).toNat)), (((r ^^^ (r <<< (((13#64).toNat : Int)).toNat)) ^^^ ((r ^^^ (r <<< (((13#64).toNat : Int)).toNat)) >>> (((7#64).toNat : Int)).toNat)) ^^^ (((r ^^^ (r <<< (((13#64).toNat : Int)).toNat)) ^^^ ((r ^^^ (r <<< (((13#64).toNat : Int)).toNat)) >>> (((7#64).toNat : Int)).toNat)) <<< (((17#64).toNat : Int)).toNat)))
def sc_breakPatternsOrdered_int_L0 (a : Int) (b : Int) (modulus : BitVec 64) : Nat → List Int → BitVec 64 → Int → LR (List Int) (List Int)
 | 0, data', random0, idx =>
  .oof
 | r + 1, data', random0, idx =>
  bif decide (idx ≤ ((a + (((b - a) / 4) * 2)) + 1)) then
   let rv9 := (xorshift_Next random0)
   bif decide ((b - a) ≤ ((rv9.1 &&& (modulus - 1#64)).toNat : Int)) then
    sc_breakPatternsOrdered_int_L0 a b modulus r ((data'.set idx.toNat (data'.getD ((a + (((rv9.1 &&& (modulus - 1#64)).toNat : Int) - (b - a))) : Int).toNat 0)).set ((a + (((rv9.1 &&& (modulus - 1#64)).toNat : Int) - (b - a))) : Int).toNat (data'.getD idx.toNat 0)) rv9.2 (idx + 1)
   else
    sc_breakPatternsOrdered_int_L0 a b modulus r ((data'.set idx.toNat (data'.getD ((a + ((rv9.1 &&& (modulus - 1#64)).toNat : Int)) : Int).toNat 0)).set ((a + ((rv9.1 &&& (modulus - 1#64)).toNat : Int)) : Int).toNat (data'.getD idx.toNat 0)) rv9.2 (idx + 1)
  else
   .brk data'
def sc_breakPatternsOrdered_int (data : List Int) (a : Int) (b : Int) : List Int :=
 bif decide (8 ≤ (b - a)) then
  let rv4 := (sc_nextPowerOfTwo (b - a))
  match sc_breakPatternsOrdered_int_L0 a b rv4 4 data (BitVec.ofInt 64 (b - a)) ((a + (((b - a) / 4) * 2)) - 1) with
  | .brk o0_0 =>
   o0_0
  | .ret _ => default
  | .oof => default
 else
  data
def sc_order2Ordered_int (data : List Int) (a : Int) (b : Int) (swaps : Int) : Int × Int × Int :=
 let rv3 := (cmp_Less_int (data.getD b.toNat 0) (data.getD a.toNat 0))
 bif rv3 then
  (b, a, (swaps + 1))
 else
  (a, b, swaps)
def sc_medianOrdered_int (data : List Int) (a : Int) (b : Int) (c : Int) (swaps : Int) : Int × Int :=
 let rv1 := (sc_order2Ordered_int data a b swaps)
 let rv9 := (sc_order2Ordered_int data rv1.2.1 c rv1.2.2)
 let rv17 := (sc_order2Ordered_int data rv1.1 rv9.1 rv9.2.2)
 (rv17.2.1, rv17.2.2)
def sc_medianAdjacentOrdered_int (data : List Int) (a : Int) (swaps : Int) : Int × Int :=
 let rv1 := (sc_medianOrdered_int data (a - 1) a (a + 1) swaps)
 (rv1.1, rv1.2)
def sc_choosePivotOrdered_int (data : List Int) (a : Int) (b : Int) : Int × Int :=
 bif decide (8 ≤ (b - a)) then
  bif decide (50 ≤ (b - a)) then
   let rv6 := (sc_medianAdjacentOrdered_int data (a + (((b - a) / 4) * 1)) 0)
   let rv13 := (sc_medianAdjacentOrdered_int data (a + (((b - a) / 4) * 2)) rv6.2)
   let rv20 := (sc_medianAdjacentOrdered_int data (a + (((b - a) / 4) * 3)) rv13.2)
   let rv27 := (sc_medianOrdered_int data rv6.1 rv13.1 rv20.1 rv20.2)
   bif (rv27.2 == 0) then
    (rv27.1, 1)
   else
    bif (rv27.2 == 12) then
     (rv27.1, 2)
    else
     (rv27.1, 0)
  else
   let rv41 := (sc_medianOrdered_int data (a + (((b - a) / 4) * 1)) (a + (((b - a) / 4) * 2)) (a + (((b - a) / 4) * 3)) 0)
   bif (rv41.2 == 0) then
    (rv41.1, 1)
   else
    bif (rv41.2 == 12) then
     (rv41.1, 2)
    else
     (rv41.1, 0)
 else
  ((a + (((b - a) / 4) * 2)), 1)
def sc_reverseRangeOrdered_int_L0  : Nat → List Int → Int → Int → LR (List Int) (List Int)
 | 0, data', i, j =>
  .oof
 | r + 1, data', i, j =>
  bif decide (i < j) then
   sc_reverseRangeOrdered_int_L0 r ((data'.set i.toNat (data'.getD j.toNat 0)).set j.toNat (data'.getD i.toNat 0)) (i + 1) (j - 1)
  else
   .brk data'
def sc_reverseRangeOrdered_int (data : List Int) (a : Int) (b : Int) : List Int :=
 match sc_reverseRangeOrdered_int_L0 ((b - a).toNat + 1) data a (b - 1) with
 | .brk o0_0 =>
  o0_0
 | .ret _ => default
 | .oof => default
def sc_partialInsertionSortOrdered_int_L1  (data' : List Int) : Nat → Int → Int
 | 0, i =>
  i
 | r + 1, i =>
  let rv7 := (cmp_Less_int (data'.getD i.toNat 0) (data'.getD ((i - 1) : Int).toNat 0))
  bif (!rv7) then
   sc_partialInsertionSortOrdered_int_L1 data' r (i + 1)
  else
   i
def sc_partialInsertionSortOrdered_int_L2  : Nat → List Int → Int → LR (List Int) (Bool × List Int)
 | 0, data', j' =>
  .oof
 | r + 1, data', j' =>
  bif decide (1 ≤ j') then
   let rv18 := (cmp_Less_int (data'.getD j'.toNat 0) (data'.getD ((j' - 1) : Int).toNat 0))
   bif (!rv18) then
    .brk data'
   else
    sc_partialInsertionSortOrdered_int_L2 r ((data'.set j'.toNat (data'.getD ((j' - 1) : Int).toNat 0)).set ((j' - 1) : Int).toNat (data'.getD j'.toNat 0)) (j' - 1)
  else
   .brk data'
def sc_partialInsertionSortOrdered_int_L3  : Nat → List Int → Int → List Int
 | 0, data', j' =>
  data'
 | r + 1, data', j' =>
  let rv21 := (cmp_Less_int (data'.getD j'.toNat 0) (data'.getD ((j' - 1) : Int).toNat 0))
  bif (!rv21) then
   data'
  else
   sc_partialInsertionSortOrdered_int_L3 r ((data'.set j'.toNat (data'.getD ((j' - 1) : Int).toNat 0)).set ((j' - 1) : Int).toNat (data'.getD j'.toNat 0)) (j' + 1)
def sc_partialInsertionSortOrdered_int_L0 (data : List Int) (a : Int) (b : Int) : Nat → List Int → Int → Int → LR (List Int) (Bool × List Int)
 | 0, data', i, j =>
  .brk data'
 | r + 1, data', i, j =>
  match sc_partialInsertionSortOrdered_int_L1 data' (((b : Int) - i).toNat) i with
  | o1_0 =>
   bif (o1_0 == b) then
    .ret (true, data')
   else
    bif decide ((b - a) < 50) then
     .ret (false, data')
    else
     bif decide (2 ≤ (o1_0 - a)) then
      match sc_partialInsertionSortOrdered_int_L2 (data.length + 1) ((data'.set o1_0.toNat (data'.getD ((o1_0 - 1) : Int).toNat 0)).set ((o1_0 - 1) : Int).toNat (data'.getD o1_0.toNat 0)) (o1_0 - 1) with
      | .brk o2_0 =>
       bif decide (2 ≤ (b - o1_0)) then
        match sc_partialInsertionSortOrdered_int_L3 (((b : Int) - (o1_0 + 1)).toNat) o2_0 (o1_0 + 1) with
        | o3_0 =>
         sc_partialInsertionSortOrdered_int_L0 data a b r o3_0 o1_0 (j + 1)
       else
        sc_partialInsertionSortOrdered_int_L0 data a b r o2_0 o1_0 (j + 1)
      | .ret _ => .oof
      | .oof => .oof
     else
      bif decide (2 ≤ (b - o1_0)) then
       match sc_partialInsertionSortOrdered_int_L3 (((b : Int) - (o1_0 + 1)).toNat) ((data'.set o1_0.toNat (data'.getD ((o1_0 - 1) : Int).toNat 0)).set ((o1_0 - 1) : Int).toNat (data'.getD o1_0.toNat 0)) (o1_0 + 1) with
       | o3_0 =>
        sc_partialInsertionSortOrdered_int_L0 data a b r o3_0 o1_0 (j + 1)
      else
       sc_partialInsertionSortOrdered_int_L0 data a b r ((data'.set o1_0.toNat (data'.getD ((o1_0 - 1) : Int).toNat 0)).set ((o1_0 - 1) : Int).toNat (data'.getD o1_0.toNat 0)) o1_0 (j + 1)
def sc_partialInsertionSortOrdered_int (data : List Int) (a : Int) (b : Int) : Bool × List Int :=
 match sc_partialInsertionSortOrdered_int_L0 data a b 5 data (a + 1) 0 with
 | .brk o0_0 =>
  (false, o0_0)
 | .ret r => r
 | .oof => default
def sc_partitionEqualOrdered_int_L1 (a : Int) (data' : List Int) (j : Int) : Nat → Int → LR Int (Int × List Int)
 | 0, i =>
  .oof
 | r + 1, i =>
  bif decide (i ≤ j) then
   let rv7 := (cmp_Less_int (data'.getD a.toNat 0) (data'.getD i.toNat 0))
   bif (!rv7) then
    sc_partitionEqualOrdered_int_L1 a data' j r (i + 1)
   else
    .brk i
  else
   .brk i
def sc_partitionEqualOrdered_int_L2 (a : Int) (data' : List Int) (i : Int) : Nat → Int → LR Int (Int × List Int)
 | 0, j =>
  .oof
 | r + 1, j =>
  bif decide (i ≤ j) then
   let rv8 := (cmp_Less_int (data'.getD a.toNat 0) (data'.getD j.toNat 0))
   bif rv8 then
    sc_partitionEqualOrdered_int_L2 a data' i r (j - 1)
   else
    .brk j
  else
   .brk j
def sc_partitionEqualOrdered_int_L0 (a : Int) (b : Int) : Nat → List Int → Int → Int → LR (List Int × Int) (Int × List Int)
 | 0, data', i, j =>
  .oof
 | r + 1, data', i, j =>
  match sc_partitionEqualOrdered_int_L1 a data' j ((b - a).toNat + 2) i with
  | .brk o1_0 =>
   match sc_partitionEqualOrdered_int_L2 a data' o1_0 ((b - a).toNat + 2) j with
   | .brk o2_0 =>
    bif decide (o2_0 < o1_0) then
     .brk (data', o1_0)
    else
     sc_partitionEqualOrdered_int_L0 a b r ((data'.set o1_0.toNat (data'.getD o2_0.toNat 0)).set o2_0.toNat (data'.getD o1_0.toNat 0)) (o1_0 + 1) (o2_0 - 1)
   | .ret _ => .oof
   | .oof => .oof
  | .ret _ => .oof
  | .oof => .oof
def sc_partitionEqualOrdered_int (data : List Int) (a : Int) (b : Int) (pivot : Int) : Int × List Int :=
 match sc_partitionEqualOrdered_int_L0 a b ((b - a).toNat + 2) ((data.set a.toNat (data.getD pivot.toNat 0)).set pivot.toNat (data.getD a.toNat 0)) (a + 1) (b - 1) with
 | .brk (o0_0, o0_1) =>
  (o0_1, o0_0)
 | .ret _ => default
 | .oof => default
def sc_partitionOrdered_int_L0 (data : List Int) (a : Int) (b : Int) (pivot : Int) : Nat → Int → LR Int (Int × Bool × List Int)
 | 0, i =>
  .oof
 | r + 1, i =>
  bif decide (i ≤ (b - 1)) then
   let rv7 := (cmp_Less_int (((data.set a.toNat (data.getD pivot.toNat 0)).set pivot.toNat (data.getD a.toNat 0)).getD i.toNat 0) (((data.set a.toNat (data.getD pivot.toNat 0)).set pivot.toNat (data.getD a.toNat 0)).getD a.toNat 0))
   bif rv7 then
    sc_partitionOrdered_int_L0 data a b pivot r (i + 1)
   else
    .brk i
  else
   .brk i
def sc_partitionOrdered_int_L1 (data : List Int) (a : Int) (pivot : Int) (i : Int) : Nat → Int → LR Int (Int × Bool × List Int)
 | 0, j =>
  .oof
 | r + 1, j =>
  bif decide (i ≤ j) then
   let rv8 := (cmp_Less_int (((data.set a.toNat (data.getD pivot.toNat 0)).set pivot.toNat (data.getD a.toNat 0)).getD j.toNat 0) (((data.set a.toNat (data.getD pivot.toNat 0)).set pivot.toNat (data.getD a.toNat 0)).getD a.toNat 0))
   bif (!rv8) then
    sc_partitionOrdered_int_L1 data a pivot i r (j - 1)
   else
    .brk j
  else
   .brk j
def sc_partitionOrdered_int_L3 (a : Int) (data' : List Int) (j : Int) : Nat → Int → LR Int (Int × Bool × List Int)
 | 0, i =>
  .oof
 | r + 1, i =>
  bif decide (i ≤ j) then
   let rv16 := (cmp_Less_int (data'.getD i.toNat 0) (data'.getD a.toNat 0))
   bif rv16 then
    sc_partitionOrdered_int_L3 a data' j r (i + 1)
   else
    .brk i
  else
   .brk i
def sc_partitionOrdered_int_L4 (a : Int) (data' : List Int) (i : Int) : Nat → Int → LR Int (Int × Bool × List Int)
 | 0, j =>
  .oof
 | r + 1, j =>
  bif decide (i ≤ j) then
   let rv17 := (cmp_Less_int (data'.getD j.toNat 0) (data'.getD a.toNat 0))
   bif (!rv17) then
    sc_partitionOrdered_int_L4 a data' i r (j - 1)
   else
    .brk j
  else
   .brk j
def sc_partitionOrdered_int_L2 (a : Int) (b : Int) : Nat → List Int → Int → Int → LR (List Int × Int) (Int × Bool × List Int)
 | 0, data', i, j =>
  .oof
 | r + 1, data', i, j =>
  match sc_partitionOrdered_int_L3 a data' j ((b - a).toNat + 2) i with
  | .brk o3_0 =>
   match sc_partitionOrdered_int_L4 a data' o3_0 ((b - a).toNat + 2) j with
   | .brk o4_0 =>
    bif decide (o4_0 < o3_0) then
     .brk (data', o4_0)
    else
     sc_partitionOrdered_int_L2 a b r ((data'.set o3_0.toNat (data'.getD o4_0.toNat 0)).set o4_0.toNat (data'.getD o3_0.toNat 0)) (o3_0 + 1) (o4_0 - 1)
   | .ret _ => .oof
   | .oof => .oof
  | .ret _ => .oof
  | .oof => .oof
def sc_partitionOrdered_int (data : List Int) (a : Int) (b : Int) (pivot : Int) : Int × Bool × List Int :=
 match sc_partitionOrdered_int_L0 data a b pivot ((b - a).toNat + 2) (a + 1) with
 | .brk o0_0 =>
  match sc_partitionOrdered_int_L1 data a pivot o0_0 ((b - a).toNat + 2) (b - 1) with
  | .brk o1_0 =>
   bif decide (o1_0 < o0_0) then
    (o1_0, true, ((((data.set a.toNat (data.getD pivot.toNat 0)).set pivot.toNat (data.getD a.toNat 0)).set o1_0.toNat (((data.set a.toNat (data.getD pivot.toNat 0)).set pivot.toNat (data.getD a.toNat 0)).getD a.toNat 0)).set a.toNat (((data.set a.toNat (data.getD pivot.toNat 0)).set pivot.toNat (data.getD a.toNat 0)).getD o1_0.toNat 0)))
   else
    match sc_partitionOrdered_int_L2 a b ((b - a).toNat + 2) ((((data.set a.toNat (data.getD pivot.toNat 0)).set pivot.toNat (data.getD a.toNat 0)).set o0_0.toNat (((data.set a.toNat (data.getD pivot.toNat 0)).set pivot.toNat (data.getD a.toNat 0)).getD o1_0.toNat 0)).set o1_0.toNat (((data.set a.toNat (data.getD pivot.toNat 0)).set pivot.toNat (data.getD a.toNat 0)).getD o0_0.toNat 0)) (o0_0 + 1) (o1_0 - 1) with
    | .brk (o2_0, o2_1) =>
     (o2_1, false, ((o2_0.set o2_1.toNat (o2_0.getD a.toNat 0)).set a.toNat (o2_0.getD o2_1.toNat 0)))
    | .ret _ => default
    | .oof => default
  | .ret _ => default
  | .oof => default
 | .ret _ => default
 | .oof => default
def sc_pdqsortOrdered_int_F_L0 (rc : List Int → Int → Int → Int → List Int) : Nat → List Int → Int → Int → Int → Bool → Bool → LR Unit (List Int)
 | 0, data', a', b', limit', wasBalanced, wasPartitioned =>
  .oof
 | r + 1, data', a', b', limit', wasBalanced, wasPartitioned =>
  bif decide ((b' - a') ≤ 12) then
   let rv4 := (sc_insertionSortOrdered_int data' a' b')
   .ret rv4
  else
   bif (limit' == 0) then
    let rv15 := (sc_heapSortOrdered_int data' a' b')
    .ret rv15
   else
    bif (!wasBalanced) then
     let rv28 := (sc_breakPatternsOrdered_int data' a' b')
     let rv36 := (sc_choosePivotOrdered_int rv28 a' b')
     bif (rv36.2 == 2) then
      let rv45 := (sc_reverseRangeOrdered_int rv28 a' b')
      bif decide (0 < a') then
       let rv58 := (cmp_Less_int (rv45.getD ((a' - 1) : Int).toNat 0) (rv45.getD (((b' - 1) - (rv36.1 - a')) : Int).toNat 0))
       bif (!rv58) then
        let rv66 := (sc_partitionEqualOrdered_int rv45 a' b' ((b' - 1) - (rv36.1 - a')))
        sc_pdqsortOrdered_int_F_L0 rc r rv66.2 rv66.1 b' (limit' - 1) wasBalanced wasPartitioned
       else
        let rv79 := (sc_partitionOrdered_int rv45 a' b' ((b' - 1) - (rv36.1 - a')))
        bif decide ((rv79.1 - a') < (b' - rv79.1)) then
         let rv91 := (rc rv79.2.2 a' rv79.1 (limit' - 1))
         sc_pdqsortOrdered_int_F_L0 rc r rv91 (rv79.1 + 1) b' (limit' - 1) (decide (((b' - a') / 8) ≤ (rv79.1 - a'))) rv79.2.1
        else
         let rv100 := (rc rv79.2.2 (rv79.1 + 1) b' (limit' - 1))
         sc_pdqsortOrdered_int_F_L0 rc r rv100 a' rv79.1 (limit' - 1) (decide (((b' - a') / 8) ≤ (b' - rv79.1))) rv79.2.1
      else
       let rv109 := (sc_partitionOrdered_int rv45 a' b' ((b' - 1) - (rv36.1 - a')))
       bif decide ((rv109.1 - a') < (b' - rv109.1)) then
        let rv121 := (rc rv109.2.2 a' rv109.1 (limit' - 1))
        sc_pdqsortOrdered_int_F_L0 rc r rv121 (rv109.1 + 1) b' (limit' - 1) (decide (((b' - a') / 8) ≤ (rv109.1 - a'))) rv109.2.1
       else
        let rv130 := (rc rv109.2.2 (rv109.1 + 1) b' (limit' - 1))
        sc_pdqsortOrdered_int_F_L0 rc r rv130 a' rv109.1 (limit' - 1) (decide (((b' - a') / 8) ≤ (b' - rv109.1))) rv109.2.1
     else
      bif decide (0 < a') then
       let rv144 := (cmp_Less_int (rv28.getD ((a' - 1) : Int).toNat 0) (rv28.getD rv36.1.toNat 0))
       bif (!rv144) then
        let rv152 := (sc_partitionEqualOrdered_int rv28 a' b' rv36.1)
        sc_pdqsortOrdered_int_F_L0 rc r rv152.2 rv152.1 b' (limit' - 1) wasBalanced wasPartitioned
       else
        let rv165 := (sc_partitionOrdered_int rv28 a' b' rv36.1)
        bif decide ((rv165.1 - a') < (b' - rv165.1)) then
         let rv177 := (rc rv165.2.2 a' rv165.1 (limit' - 1))
         sc_pdqsortOrdered_int_F_L0 rc r rv177 (rv165.1 + 1) b' (limit' - 1) (decide (((b' - a') / 8) ≤ (rv165.1 - a'))) rv165.2.1
        else
         let rv186 := (rc rv165.2.2 (rv165.1 + 1) b' (limit' - 1))
         sc_pdqsortOrdered_int_F_L0 rc r rv186 a' rv165.1 (limit' - 1) (decide (((b' - a') / 8) ≤ (b' - rv165.1))) rv165.2.1
      else
       let rv195 := (sc_partitionOrdered_int rv28 a' b' rv36.1)
       bif decide ((rv195.1 - a') < (b' - rv195.1)) then
        let rv207 := (rc rv195.2.2 a' rv195.1 (limit' - 1))
        sc_pdqsortOrdered_int_F_L0 rc r rv207 (rv195.1 + 1) b' (limit' - 1) (decide (((b' - a') / 8) ≤ (rv195.1 - a'))) rv195.2.1
       else
        let rv216 := (rc rv195.2.2 (rv195.1 + 1) b' (limit' - 1))
        sc_pdqsortOrdered_int_F_L0 rc r rv216 a' rv195.1 (limit' - 1) (decide (((b' - a') / 8) ≤ (b' - rv195.1))) rv195.2.1
    else
     let rv227 := (sc_choosePivotOrdered_int data' a' b')
     bif (rv227.2 == 2) then
      let rv236 := (sc_reverseRangeOrdered_int data' a' b')
      bif wasPartitioned then
       let rv248 := (sc_partialInsertionSortOrdered_int rv236 a' b')
       bif rv248.1 then
        .ret rv248.2
       else
        bif decide (0 < a') then
         let rv262 := (cmp_Less_int (rv248.2.getD ((a' - 1) : Int).toNat 0) (rv248.2.getD (((b' - 1) - (rv227.1 - a')) : Int).toNat 0))
         bif (!rv262) then
          let rv270 := (sc_partitionEqualOrdered_int rv248.2 a' b' ((b' - 1) - (rv227.1 - a')))
          sc_pdqsortOrdered_int_F_L0 rc r rv270.2 rv270.1 b' limit' wasBalanced wasPartitioned
         else
          let rv283 := (sc_partitionOrdered_int rv248.2 a' b' ((b' - 1) - (rv227.1 - a')))
          bif decide ((rv283.1 - a') < (b' - rv283.1)) then
           let rv295 := (rc rv283.2.2 a' rv283.1 limit')
           sc_pdqsortOrdered_int_F_L0 rc r rv295 (rv283.1 + 1) b' limit' (decide (((b' - a') / 8) ≤ (rv283.1 - a'))) rv283.2.1
          else
           let rv304 := (rc rv283.2.2 (rv283.1 + 1) b' limit')
           sc_pdqsortOrdered_int_F_L0 rc r rv304 a' rv283.1 limit' (decide (((b' - a') / 8) ≤ (b' - rv283.1))) rv283.2.1
        else
         let rv313 := (sc_partitionOrdered_int rv248.2 a' b' ((b' - 1) - (rv227.1 - a')))
         bif decide ((rv313.1 - a') < (b' - rv313.1)) then
          let rv325 := (rc rv313.2.2 a' rv313.1 limit')
          sc_pdqsortOrdered_int_F_L0 rc r rv325 (rv313.1 + 1) b' limit' (decide (((b' - a') / 8) ≤ (rv313.1 - a'))) rv313.2.1
         else
          let rv334 := (rc rv313.2.2 (rv313.1 + 1) b' limit')
          sc_pdqsortOrdered_int_F_L0 rc r rv334 a' rv313.1 limit' (decide (((b' - a') / 8) ≤ (b' - rv313.1))) rv313.2.1
      else
       bif decide (0 < a') then
        let rv346 := (cmp_Less_int (rv236.getD ((a' - 1) : Int).toNat 0) (rv236.getD (((b' - 1) - (rv227.1 - a')) : Int).toNat 0))
        bif (!rv346) then
         let rv354 := (sc_partitionEqualOrdered_int rv236 a' b' ((b' - 1) - (rv227.1 - a')))
         sc_pdqsortOrdered_int_F_L0 rc r rv354.2 rv354.1 b' limit' wasBalanced wasPartitioned
        else
         let rv367 := (sc_partitionOrdered_int rv236 a' b' ((b' - 1) - (rv227.1 - a')))
         bif decide ((rv367.1 - a') < (b' - rv367.1)) then
          let rv379 := (rc rv367.2.2 a' rv367.1 limit')
          sc_pdqsortOrdered_int_F_L0 rc r rv379 (rv367.1 + 1) b' limit' (decide (((b' - a') / 8) ≤ (rv367.1 - a'))) rv367.2.1
         else
          let rv388 := (rc rv367.2.2 (rv367.1 + 1) b' limit')
          sc_pdqsortOrdered_int_F_L0 rc r rv388 a' rv367.1 limit' (decide (((b' - a') / 8) ≤ (b' - rv367.1))) rv367.2.1
       else
        let rv397 := (sc_partitionOrdered_int rv236 a' b' ((b' - 1) - (rv227.1 - a')))
        bif decide ((rv397.1 - a') < (b' - rv397.1)) then
         let rv409 := (rc rv397.2.2 a' rv397.1 limit')
         sc_pdqsortOrdered_int_F_L0 rc r rv409 (rv397.1 + 1) b' limit' (decide (((b' - a') / 8) ≤ (rv397.1 - a'))) rv397.2.1
        else
         let rv418 := (rc rv397.2.2 (rv397.1 + 1) b' limit')
         sc_pdqsortOrdered_int_F_L0 rc r rv418 a' rv397.1 limit' (decide (((b' - a') / 8) ≤ (b' - rv397.1))) rv397.2.1
     else
      bif wasPartitioned then
       bif (rv227.2 == 1) then
        let rv433 := (sc_partialInsertionSortOrdered_int data' a' b')
        bif rv433.1 then
         .ret rv433.2
        else
         bif decide (0 < a') then
          let rv447 := (cmp_Less_int (rv433.2.getD ((a' - 1) : Int).toNat 0) (rv433.2.getD rv227.1.toNat 0))
          bif (!rv447) then
           let rv455 := (sc_partitionEqualOrdered_int rv433.2 a' b' rv227.1)
           sc_pdqsortOrdered_int_F_L0 rc r rv455.2 rv455.1 b' limit' wasBalanced wasPartitioned
          else
           let rv468 := (sc_partitionOrdered_int rv433.2 a' b' rv227.1)
           bif decide ((rv468.1 - a') < (b' - rv468.1)) then
            let rv480 := (rc rv468.2.2 a' rv468.1 limit')
            sc_pdqsortOrdered_int_F_L0 rc r rv480 (rv468.1 + 1) b' limit' (decide (((b' - a') / 8) ≤ (rv468.1 - a'))) rv468.2.1
           else
            let rv489 := (rc rv468.2.2 (rv468.1 + 1) b' limit')
            sc_pdqsortOrdered_int_F_L0 rc r rv489 a' rv468.1 limit' (decide (((b' - a') / 8) ≤ (b' - rv468.1))) rv468.2.1
         else
          let rv498 := (sc_partitionOrdered_int rv433.2 a' b' rv227.1)
          bif decide ((rv498.1 - a') < (b' - rv498.1)) then
           let rv510 := (rc rv498.2.2 a' rv498.1 limit')
           sc_pdqsortOrdered_int_F_L0 rc r rv510 (rv498.1 + 1) b' limit' (decide (((b' - a') / 8) ≤ (rv498.1 - a'))) rv498.2.1
          else
           let rv519 := (rc rv498.2.2 (rv498.1 + 1) b' limit')
           sc_pdqsortOrdered_int_F_L0 rc r rv519 a' rv498.1 limit' (decide (((b' - a') / 8) ≤ (b' - rv498.1))) rv498.2.1
       else
        bif decide (0 < a') then
         let rv531 := (cmp_Less_int (data'.getD ((a' - 1) : Int).toNat 0) (data'.getD rv227.1.toNat 0))
         bif (!rv531) then
          let rv539 := (sc_partitionEqualOrdered_int data' a' b' rv227.1)
          sc_pdqsortOrdered_int_F_L0 rc r rv539.2 rv539.1 b' limit' wasBalanced wasPartitioned
         else
          let rv552 := (sc_partitionOrdered_int data' a' b' rv227.1)
          bif decide ((rv552.1 - a') < (b' - rv552.1)) then
           let rv564 := (rc rv552.2.2 a' rv552.1 limit')
           sc_pdqsortOrdered_int_F_L0 rc r rv564 (rv552.1 + 1) b' limit' (decide (((b' - a') / 8) ≤ (rv552.1 - a'))) rv552.2.1
          else
           let rv573 := (rc rv552.2.2 (rv552.1 + 1) b' limit')
           sc_pdqsortOrdered_int_F_L0 rc r rv573 a' rv552.1 limit' (decide (((b' - a') / 8) ≤ (b' - rv552.1))) rv552.2.1
        else
         let rv582 := (sc_partitionOrdered_int data' a' b' rv227.1)
         bif decide ((rv582.1 - a') < (b' - rv582.1)) then
          let rv594 := (rc rv582.2.2 a' rv582.1 limit')
          sc_pdqsortOrdered_int_F_L0 rc r rv594 (rv582.1 + 1) b' limit' (decide (((b' - a') / 8) ≤ (rv582.1 - a'))) rv582.2.1
         else
          let rv603 := (rc rv582.2.2 (rv582.1 + 1) b' limit')
          sc_pdqsortOrdered_int_F_L0 rc r rv603 a' rv582.1 limit' (decide (((b' - a') / 8) ≤ (b' - rv582.1))) rv582.2.1
      else
       bif decide (0 < a') then
        let rv615 := (cmp_Less_int (data'.getD ((a' - 1) : Int).toNat 0) (data'.getD rv227.1.toNat 0))
        bif (!rv615) then
         let rv623 := (sc_partitionEqualOrdered_int data' a' b' rv227.1)
         sc_pdqsortOrdered_int_F_L0 rc r rv623.2 rv623.1 b' limit' wasBalanced wasPartitioned
        else
         let rv636 := (sc_partitionOrdered_int data' a' b' rv227.1)
         bif decide ((rv636.1 - a') < (b' - rv636.1)) then
          let rv648 := (rc rv636.2.2 a' rv636.1 limit')
          sc_pdqsortOrdered_int_F_L0 rc r rv648 (rv636.1 + 1) b' limit' (decide (((b' - a') / 8) ≤ (rv636.1 - a'))) rv636.2.1
         else
          let rv657 := (rc rv636.2.2 (rv636.1 + 1) b' limit')
          sc_pdqsortOrdered_int_F_L0 rc r rv657 a' rv636.1 limit' (decide (((b' - a') / 8) ≤ (b' - rv636.1))) rv636.2.1
       else
        let rv666 := (sc_partitionOrdered_int data' a' b' rv227.1)
        bif decide ((rv666.1 - a') < (b' - rv666.1)) then
         let rv678 := (rc rv666.2.2 a' rv666.1 limit')
         sc_pdqsortOrdered_int_F_L0 rc r rv678 (rv666.1 + 1) b' limit' (decide (((b' - a') / 8) ≤ (rv666.1 - a'))) rv666.2.1
        else
         let rv687 := (rc rv666.2.2 (rv666.1 + 1) b' limit')
         sc_pdqsortOrdered_int_F_L0 rc r rv687 a' rv666.1 limit' (decide (((b' - a') / 8) ≤ (b' - rv666.1))) rv666.2.1
def sc_pdqsortOrdered_int_F (rc : List Int → Int → Int → Int → List Int) (data : List Int) (a : Int) (b : Int) (limit : Int) : List Int :=
 match sc_pdqsortOrdered_int_F_L0 rc ((b - a).toNat + 1) data a b limit true true with
 | .brk _ => default
 | .ret r => r
 | .oof => default
def sc_pdqsortOrdered_int : Nat → List Int → Int → Int → Int → List Int
 | 0, _, _, _, _ => default
 | fu + 1, data, a, b, limit => sc_pdqsortOrdered_int_F (sc_pdqsortOrdered_int fu) data a b limit
def sc_Sort_int (x : List Int) : List Int :=
 let rv1 := (bits_Len (BitVec.ofInt 64 (x.length : Int)))
 let rv5 := (sc_pdqsortOrdered_int (x.length + 1) x 0 (x.length : Int) rv1)
 rv5
def gh_Build_L0  (v35 : List GNode) : Nat → List (GNode × Int) → Int → (List (GNode × Int))
 | 0, b3, v37 =>
  b3
 | r + 1, b3, v37 =>
  gh_Build_L0 v35 r (mset b3 (v35.getD v37.toNat default) v37) (v37 + 1)
def gh_Build_L1 (p : GProgram) (v49 : List GNode) : Nat → List GNode → List (List Int) → List (List Int) → List (GNode × Int) → Int → List GNode × List (List Int) × List (List Int) × (List (GNode × Int))
 | 0, b0, b1, b2, b3, v51 =>
  (b0, b1, b2, b3)
 | r + 1, b0, b1, b2, b3, v51 =>
  bif ((v49.getD v51.toNat default).Kind == 1) then
   let rv45 := (bd_at (Gbuilder.mk (GGraph.mk b0 b1 b2) b3) 3 ((v49.getD v51.toNat default).Func) 0 0)
   let rv53 := (bd_edge (Gbuilder.mk (GGraph.mk b0 b1 b2) b3) ((mget b3 (v49.getD v51.toNat default)).getD 0) rv45)
   gh_Build_L1 p v49 r rv53.g.Nodes rv53.g.Succ rv53.g.Pred rv53.number (v51 + 1)
  else
   bif ((v49.getD v51.toNat default).Kind == 3) then
    let rv91 := (bd_stmt (Gbuilder.mk (GGraph.mk b0 b1 b2) b3) p (v49.getD v51.toNat default) (((((p.Funcs.getD ((v49.getD v51.toNat default).Func : Int).toNat default).Blocks).getD ((v49.getD v51.toNat default).Block : Int).toNat default).Stmts).getD ((v49.getD v51.toNat default).Stmt : Int).toNat default))
    gh_Build_L1 p v49 r rv91.g.Nodes rv91.g.Succ rv91.g.Pred rv91.number (v51 + 1)
   else
    gh_Build_L1 p v49 r b0 b1 b2 b3 (v51 + 1)
def gh_Build_L2  : Nat → List (List Int) → List (List Int) → Int → List (List Int) × List (List Int)
 | 0, b1, b2, v96 =>
  (b1, b2)
 | r + 1, b1, b2, v96 =>
  let rv52 := (sc_Sort_int (b1.getD v96.toNat []))
  let rv62 := (sc_Sort_int (b2.getD v96.toNat []))
  gh_Build_L2 r (b1.set v96.toNat rv52) (b2.set v96.toNat rv62) (v96 + 1)
def gh_Build (p : GProgram) : GGraph × Int :=
 let rv3 := (vd_Check p)
 bif (rv3.2 != 0) then
  ((GGraph.mk [] [] []), rv3.2)
 else
  let rv16 := (nd_List p)
  match gh_Build_L0 rv16 (((rv16.length : Int) - 0).toNat) [] 0 with
  | o0_0 =>
   match gh_Build_L1 p rv16 (((rv16.length : Int) - 0).toNat) rv16 (List.replicate (rv16.length : Int).toNat []) (List.replicate (rv16.length : Int).toNat []) o0_0 0 with
   | (o1_0, o1_1, o1_2, o1_3) =>
    match gh_Build_L2 (((rv16.length : Int) - 0).toNat) o1_1 o1_2 0 with
    | (o2_0, o2_1) =>
     ((GGraph.mk o1_0 o2_0 o2_1), 0)
def w8_sane  : Bool :=
 let rv2 := (r4_Parse (Str.mk [102, 117, 110, 99, 32, 109, 59, 32, 98, 108, 111, 99, 107, 32, 98, 59, 32, 98, 114, 97, 110, 99, 104, 32, 120, 32, 98, 32, 98, 59, 32, 101, 110, 100]))
 let rv15 := (gh_Build rv2.1)
 bif (rv15.2 == 0) then
  bif ((rv15.1.Succ.length : Int) == 3) then
   let rv41 := (r7_Ints (rv15.1.Succ.getD (0 : Int).toNat []) [1])
   bif rv41 then
    let rv52 := (r7_Ints (rv15.1.Succ.getD (1 : Int).toNat []) [1])
    bif rv52 then
     bif (((rv15.1.Succ.getD (2 : Int).toNat []).length : Int) == 0) then
      let rv69 := (r7_Ints (rv15.1.Pred.getD (1 : Int).toNat []) [0, 1])
      bif rv69 then
       let rv73 := (gh_Edges rv15.1)
       (rv73 == 2)
      else
       false
     else
      false
    else
     false
   else
    false
  else
   false
 else
  false
def g_Mod (v : Int) (n : Int) : Int :=
 (((BitVec.ofInt 64 v) % (BitVec.ofInt 64 n)).toNat : Int)
def tp_Next (tT : List Int) (tI : Int) (n : Int) : Int × Int :=
 bif decide (n ≤ 1) then
  (0, tI)
 else
  bif decide ((tT.length : Int) ≤ tI) then
   (0, tI)
  else
   let rv8 := (g_Mod (tT.getD (((tI + 1) - 1) : Int).toNat 0) n)
   (rv8, (tI + 1))
def r7_Insert_L0 (l : List Int) (n : Int) : Nat → Int → Int
 | 0, i =>
  i
 | r + 1, i =>
  bif decide ((l.getD i.toNat 0) < n) then
   r7_Insert_L0 l n r (i + 1)
  else
   i
def r7_Insert (l : List Int) (n : Int) : List Int :=
 match r7_Insert_L0 l n (((l.length : Int) - 0).toNat) 0 with
 | o0_0 =>
  bif decide (o0_0 < (l.length : Int)) then
   bif ((l.getD o0_0.toNat 0) == n) then
    l
   else
    ((((l.take (o0_0.toNat)).drop 0) ++ [n]) ++ ((l.take l.length).drop (o0_0.toNat)))
  else
   ((((l.take (o0_0.toNat)).drop 0) ++ [n]) ++ ((l.take l.length).drop (o0_0.toNat)))
def tp_Graph_L0 (tT : List Int) (n' : Int) : Nat → Int → List (List Int) → List (List Int) → Int → Int × List (List Int) × List (List Int)
 | 0, ti', g1, g2, k =>
  (ti', g1, g2)
 | r + 1, ti', g1, g2, k =>
  let rv31 := (tp_Next tT ti' n')
  let rv37 := (tp_Next tT rv31.2 n')
  let rv48 := (r7_Insert (g1.getD rv31.1.toNat []) rv37.1)
  let rv61 := (r7_Insert (g2.getD rv37.1.toNat []) rv31.1)
  tp_Graph_L0 tT n' r rv37.2 (g1.set rv31.1.toNat rv48) (g2.set rv37.1.toNat rv61) (k - 1)
def tp_Graph (tT : List Int) (tI : Int) (n : Int) : GGraph × Int :=
 let rv2 := (tp_Next tT tI n)
 let rv23 := (tp_Next tT rv2.2 ((2 * (1 + rv2.1)) + 1))
 match tp_Graph_L0 tT (1 + rv2.1) (rv23.1.toNat) rv23.2 (List.replicate ((1 + rv2.1) : Int).toNat []) (List.replicate ((1 + rv2.1) : Int).toNat []) rv23.1 with
 | (o0_0, o0_1, o0_2) =>
  ((GGraph.mk (List.replicate ((1 + rv2.1) : Int).toNat (default : GNode)) o0_1 o0_2), o0_0)
def sc_Clone_Node (s : List GNode) : List GNode := s
def gh_lists_L0 (l : List (List Int)) : Nat → List (List Int) → Int → List (List Int)
 | 0, out, v8 =>
  out
 | r + 1, out, v8 =>
  gh_lists_L0 l r (out ++ [(l.getD v8.toNat [])]) (v8 + 1)
def gh_lists (l : List (List Int)) : List (List Int) :=
 match gh_lists_L0 l (((l.length : Int) - 0).toNat) [] 0 with
 | o0_0 =>
  o0_0
def gh_Reverse (g : GGraph) : GGraph × Int :=
 let rv3 := (gh_Valid g)
 bif (!rv3) then
  ((GGraph.mk [] [] []), 1)
 else
  let rv14 := (sc_Clone_Node g.Nodes)
  let rv22 := (gh_lists g.Pred)
  let rv30 := (gh_lists g.Succ)
  ((GGraph.mk rv14 rv22 rv30), 0)
def r7_SameLists_L0 (a : List (List Int)) (b : List (List Int)) : Nat → Int → LR Unit Bool
 | 0, i =>
  .brk ()
 | r + 1, i =>
  let rv14 := (r7_Ints (a.getD i.toNat []) (b.getD i.toNat []))
  bif (!rv14) then
   .ret false
  else
   r7_SameLists_L0 a b r (i + 1)
def r7_SameLists (a : List (List Int)) (b : List (List Int)) : Bool :=
 bif ((a.length : Int) != (b.length : Int)) then
  false
 else
  match r7_SameLists_L0 a b (((a.length : Int) - 0).toNat) 0 with
  | .brk _ =>
   true
  | .ret r => r
  | .oof => default
def r7_SameGraph_L0 (a : GGraph) (b : GGraph) : Nat → Int → LR Unit Bool
 | 0, i =>
  .brk ()
 | r + 1, i =>
  bif ([(a.Nodes.getD i.toNat default).Kind, (a.Nodes.getD i.toNat default).Func, (a.Nodes.getD i.toNat default).Block, (a.Nodes.getD i.toNat default).Stmt] != [(b.Nodes.getD i.toNat default).Kind, (b.Nodes.getD i.toNat default).Func, (b.Nodes.getD i.toNat default).Block, (b.Nodes.getD i.toNat default).Stmt]) then
   .ret false
  else
   r7_SameGraph_L0 a b r (i + 1)
def r7_SameGraph (a : GGraph) (b : GGraph) : Bool :=
 bif ((a.Nodes.length : Int) != (b.Nodes.length : Int)) then
  false
 else
  let rv6 := (r7_SameLists a.Succ b.Succ)
  bif (!rv6) then
   false
  else
   let rv16 := (r7_SameLists a.Pred b.Pred)
   bif (!rv16) then
    false
   else
    match r7_SameGraph_L0 a b (((a.Nodes.length : Int) - 0).toNat) 0 with
    | .brk _ =>
     true
    | .ret r => r
    | .oof => default
def g_New (l : List Int) : Unit :=
 ()
def w8_GraphReverse (t : List Int) : Bool :=
 let rv2 := (g_New t)
 let rv8 := (tp_Graph t 0 9)
 let rv25 := (gh_Reverse rv8.1)
 let rv42 := (gh_Reverse rv25.1)
 bif (rv25.2 == 0) then
  bif (rv42.2 == 0) then
   let rv60 := (r7_SameGraph rv42.1 rv8.1)
   bif rv60 then
    let rv65 := (gh_Edges rv25.1)
    let rv69 := (gh_Edges rv8.1)
    bif (rv65 == rv69) then
     let rv75 := (gh_Valid rv25.1)
     bif rv75 then
      w8_sane
     else
      false
    else
     false
   else
    false
  else
   false
 else
  false
def r4_namesOK_L0 (l : List Str) : Nat → Int → LR Unit Bool
 | 0, i =>
  .brk ()
 | r + 1, i =>
  let rv6 := (r4_IsName (l.getD i.toNat default))
  bif (!rv6) then
   .ret false
  else
   r4_namesOK_L0 l r (i + 1)
def r4_namesOK (l : List Str) (a : Int) (b : Int) : Bool :=
 match r4_namesOK_L0 l (((l.length : Int) - 0).toNat) 0 with
 | .brk _ =>
  bif decide (a ≤ (l.length : Int)) then
   decide ((l.length : Int) ≤ b)
  else
   false
 | .ret r => r
 | .oof => default
def r4_stmtOK (s : GStmt) : Bool :=
 let rv2 := (r4_IsName s.Def)
 let rv5 := (r4_namesOK s.Uses 0 4)
 bif (!rv5) then
  false
 else
  let rv15 := (r4_namesOK s.Targets 0 2)
  bif (!rv15) then
   false
  else
   bif (s.Op == 1) then
    bif rv2 then
     ((s.Targets.length : Int) == 0)
    else
     false
   else
    bif (s.Op == 2) then
     bif (s.Def == (Str.mk [])) then
      bif decide (1 ≤ (s.Uses.length : Int)) then
       ((s.Targets.length : Int) == 0)
      else
       false
     else
      false
    else
     bif (s.Op == 5) then
      bif (s.Def == (Str.mk [])) then
       bif ((s.Uses.length : Int) == 1) then
        ((s.Targets.length : Int) == 0)
       else
        false
      else
       false
     else
      bif (s.Op == 3) then
       bif (s.Def == (Str.mk [])) then
        bif ((s.Uses.length : Int) == 0) then
         ((s.Targets.length : Int) == 1)
        else
         false
       else
        false
      else
       bif (s.Op == 7) then
        bif (s.Def == (Str.mk [])) then
         bif ((s.Uses.length : Int) == 0) then
          ((s.Targets.length : Int) == 1)
         else
          false
        else
         false
       else
        bif (s.Op == 4) then
         bif rv2 then
          bif ((s.Uses.length : Int) == 0) then
           ((s.Targets.length : Int) == 0)
          else
           false
         else
          false
        else
         bif (s.Op == 6) then
          bif rv2 then
           bif ((s.Uses.length : Int) == 0) then
            ((s.Targets.length : Int) == 0)
           else
            false
          else
           false
         else
          bif (s.Op == 8) then
           bif (s.Def == (Str.mk [])) then
            bif ((s.Uses.length : Int) == 1) then
             ((s.Targets.length : Int) == 2)
            else
             false
           else
            false
          else
           bif (s.Op == 9) then
            bif (s.Def == (Str.mk [])) then
             bif ((s.Uses.length : Int) == 0) then
              ((s.Targets.length : Int) == 0)
             else
              false
            else
             false
           else
            false
def r4_Valid_L2  (b1 : List GStmt) : Nat → Int → LR Unit Bool
 | 0, j =>
  .brk ()
 | r + 1, j =>
  let rv66 := (r4_stmtOK (b1.getD j.toNat default))
  bif (!rv66) then
   .ret false
  else
   r4_Valid_L2 b1 r (j + 1)
def r4_Valid_L1  (f1 : List GBlock) : Nat → Int → LR Unit Bool
 | 0, k =>
  .brk ()
 | r + 1, k =>
  let rv38 := (r4_IsName ((f1.getD k.toNat default).Name))
  bif (!rv38) then
   .ret false
  else
   bif decide ((((f1.getD k.toNat default).Stmts).length : Int) < 1) then
    .ret false
   else
    bif decide (32 < (((f1.getD k.toNat default).Stmts).length : Int)) then
     .ret false
    else
     match r4_Valid_L2 ((f1.getD k.toNat default).Stmts) ((((((f1.getD k.toNat default).Stmts).length : Int) : Int) - 0).toNat) 0 with
     | .brk _ =>
      r4_Valid_L1 f1 r (k + 1)
     | .ret r => .ret r
     | .oof => .oof
def r4_Valid_L0 (p : GProgram) : Nat → Int → LR Unit Bool
 | 0, i =>
  .brk ()
 | r + 1, i =>
  let rv15 := (r4_IsName ((p.Funcs.getD i.toNat default).Name))
  bif (!rv15) then
   .ret false
  else
   bif decide ((((p.Funcs.getD i.toNat default).Blocks).length : Int) < 1) then
    .ret false
   else
    bif decide (16 < (((p.Funcs.getD i.toNat default).Blocks).length : Int)) then
     .ret false
    else
     match r4_Valid_L1 ((p.Funcs.getD i.toNat default).Blocks) ((((((p.Funcs.getD i.toNat default).Blocks).length : Int) : Int) - 0).toNat) 0 with
     | .brk _ =>
      r4_Valid_L0 p r (i + 1)
     | .ret r => .ret r
     | .oof => .oof
def r4_Valid (p : GProgram) : Bool :=
 bif decide ((p.Funcs.length : Int) < 1) then
  false
 else
  bif decide (8 < (p.Funcs.length : Int)) then
   false
  else
   match r4_Valid_L0 p (((p.Funcs.length : Int) - 0).toNat) 0 with
   | .brk _ =>
    true
   | .ret r => r
   | .oof => default
def tp_name (tT : List Int) (tI : Int) : Str × Int :=
 let rv4 := (tp_Next tT tI 4)
 (([(Str.mk [120]), (Str.mk [121]), (Str.mk [122]), (Str.mk [119])].getD rv4.1.toNat default), rv4.2)
def tp_stmt (tT : List Int) (tI : Int) (funcs : Int) : GStmt × Int :=
 let rv2 := (tp_Next tT tI 9)
 bif (rv2.1 == 1) then
  let rv10 := (tp_name tT rv2.2)
  let rv15 := (tp_name tT rv10.2)
  let rv23 := (tp_Next tT rv15.2 2)
  ((GStmt.mk 2 (Str.mk []) (([rv10.1, rv15.1].take (((1 + rv23.1) : Int).toNat)).drop 0) []), rv23.2)
 else
  bif (rv2.1 == 2) then
   let rv38 := (tp_name tT rv2.2)
   ((GStmt.mk 4 rv38.1 [] []), rv38.2)
  else
   bif (rv2.1 == 3) then
    let rv46 := (tp_name tT rv2.2)
    ((GStmt.mk 5 (Str.mk []) [rv46.1] []), rv46.2)
   else
    bif (rv2.1 == 4) then
     let rv57 := (tp_name tT rv2.2)
     ((GStmt.mk 6 rv57.1 [] []), rv57.2)
    else
     bif (rv2.1 == 5) then
      let rv70 := (tp_Next tT rv2.2 funcs)
      ((GStmt.mk 3 (Str.mk []) [] [([(Str.mk [109]), (Str.mk [102]), (Str.mk [103])].getD rv70.1.toNat default)]), rv70.2)
     else
      bif (rv2.1 == 6) then
       let rv88 := (tp_Next tT rv2.2 funcs)
       ((GStmt.mk 3 (Str.mk []) [] [([(Str.mk [109]), (Str.mk [102]), (Str.mk [103])].getD rv88.1.toNat default)]), rv88.2)
      else
       let rv101 := (tp_name tT rv2.2)
       let rv106 := (tp_name tT rv101.2)
       let rv111 := (tp_name tT rv106.2)
       let rv116 := (tp_name tT rv111.2)
       let rv124 := (tp_Next tT rv116.2 4)
       ((GStmt.mk 1 rv101.1 (([rv106.1, rv111.1, rv116.1].take (rv124.1.toNat)).drop 0) []), rv124.2)
def g_func2 (i : Int) : Str :=
 ([(Str.mk [97]), (Str.mk [98]), (Str.mk [99])].getD i.toNat default)
def tp_Program_L2 (tT : List Int) (funcs : Int) : Nat → Int → List GStmt → Int → Int × List GStmt
 | 0, ti', b1, n =>
  (ti', b1)
 | r + 1, ti', b1, n =>
  let rv43 := (tp_stmt tT ti' funcs)
  tp_Program_L2 tT funcs r rv43.2 (b1 ++ [rv43.1]) (n - 1)
def tp_Program_L1 (tT : List Int) (funcs : Int) (blocks : Int) : Nat → Int → List GBlock → Int → Int × List GBlock
 | 0, ti', f1, k =>
  (ti', f1)
 | r + 1, ti', f1, k =>
  let rv33 := (tp_Next tT ti' 4)
  match tp_Program_L2 tT funcs (rv33.1.toNat) rv33.2 [] rv33.1 with
  | (o2_0, o2_1) =>
   let rv43 := (tp_Next tT o2_0 blocks)
   let rv49 := (g_func2 rv43.1)
   let rv53 := (tp_Next tT rv43.2 4)
   bif (rv53.1 == 0) then
    tp_Program_L1 tT funcs blocks r rv53.2 (f1 ++ [(GBlock.mk ([(Str.mk [97]), (Str.mk [98]), (Str.mk [99])].getD k.toNat default) (o2_1 ++ [(GStmt.mk 9 (Str.mk []) [] [])]))]) (k + 1)
   else
    bif (rv53.1 == 1) then
     tp_Program_L1 tT funcs blocks r rv53.2 (f1 ++ [(GBlock.mk ([(Str.mk [97]), (Str.mk [98]), (Str.mk [99])].getD k.toNat default) (o2_1 ++ [(GStmt.mk 7 (Str.mk []) [] [rv49])]))]) (k + 1)
    else
     let rv100 := (tp_name tT rv53.2)
     let rv108 := (tp_Next tT rv100.2 blocks)
     let rv114 := (g_func2 rv108.1)
     tp_Program_L1 tT funcs blocks r rv108.2 (f1 ++ [(GBlock.mk ([(Str.mk [97]), (Str.mk [98]), (Str.mk [99])].getD k.toNat default) (o2_1 ++ [(GStmt.mk 8 (Str.mk []) [rv100.1] [rv49, rv114])]))]) (k + 1)
def tp_Program_L0 (tT : List Int) (funcs : Int) : Nat → Int → List GFunc → Int → Int × List GFunc
 | 0, ti', p0, i =>
  (ti', p0)
 | r + 1, ti', p0, i =>
  let rv18 := (tp_Next tT ti' 3)
  match tp_Program_L1 tT funcs (1 + rv18.1) ((((1 + rv18.1) : Int) - 0).toNat) rv18.2 [] 0 with
  | (o1_0, o1_1) =>
   tp_Program_L0 tT funcs r o1_0 (p0 ++ [(GFunc.mk ([(Str.mk [109]), (Str.mk [102]), (Str.mk [103])].getD i.toNat default) o1_1)]) (i + 1)
def tp_Program (tT : List Int) (tI : Int) : GProgram × Int :=
 let rv3 := (tp_Next tT tI 3)
 match tp_Program_L0 tT (1 + rv3.1) ((((1 + rv3.1) : Int) - 0).toNat) rv3.2 [] 0 with
 | (o0_0, o0_1) =>
  ((GProgram.mk o0_1), o0_0)
theorem scan {σ ρ : Type} (f : Nat → Int → LR σ ρ) (p : Int → Bool) (b : ρ) (c : σ) (h0 : ∀ i, f 0 i = .brk c) (h1 : ∀ r i, f (r + 1) i = bif p i then .ret b else f r (i + 1)) :
  ∀ (m : Nat) (i : Int), (f m i = .ret b ∧ ∃ j, i ≤ j ∧ j < i + m ∧ p j = true) ∨ (f m i = .brk c ∧ ∀ j, i ≤ j → j < i + m → p j = false)
 | 0, i => .inr ⟨h0 i, fun j h1 h2 => by omega⟩
 | m + 1, i => by
  rw [h1]
  cases hp : p i with
  | true => exact .inl ⟨rfl, i, by omega, by omega, hp⟩
  | false =>
   rcases scan f p b c h0 h1 m (i + 1) with ⟨e, j, j1, j2, j3⟩ | ⟨e, h⟩
   ·exact .inl ⟨e, j, by omega, by omega, j3⟩
   ·refine .inr ⟨e, fun j j1 j2 => ?_⟩
    rcases Int.lt_or_eq_of_le j1 with hlt | rfl
    ·exact h j (by omega) (by omega)
    ·exact hp
theorem mem_getD {l : List Int} {n : Int} : n ∈ l ↔ ∃ j : Int, 0 ≤ j ∧ j < (l.length : Int) ∧ l.getD j.toNat 0 = n := by
 constructor
 ·intro h
  obtain ⟨i, hi, e⟩ := List.getElem_of_mem h
  exact ⟨(i : Int), by omega, by omega, by simp [List.getD, hi, e]⟩
 ·rintro ⟨j, j1, j2, rfl⟩
  exact getD_mem (by omega)
theorem nodup_le : ∀ (n : Nat) (l : List Int), l.Nodup → (∀ x ∈ l, 0 ≤ x ∧ x < (n : Int)) → l.length ≤ n
 | 0, [], _, _ => Nat.le_refl _
 | 0, x :: l, _, h => by have := h x (by simp); omega
 | n + 1, l, hn, h => by
  have h1 : (l.erase (n : Int)).length ≤ n := nodup_le n (l.erase (n : Int)) (hn.erase _) (fun x hx => by
   have h2 := (List.Nodup.mem_erase_iff hn).1 hx
   have h3 := h x h2.2
   have h4 := h2.1
   omega)
  by_cases hm : (n : Int) ∈ l
  ·rw [List.length_erase_of_mem hm] at h1; omega
  ·rw [List.erase_of_not_mem hm] at h1; omega
theorem scan' {σ : Type} (f : Nat → Int → LR σ Int) (p : Int → Bool) (c : σ) (h0 : ∀ i, f 0 i = .brk c) (h1 : ∀ r i, f (r + 1) i = bif p i then .ret i else f r (i + 1)) :
  ∀ (m : Nat) (i : Int), (∃ j, f m i = .ret j ∧ i ≤ j ∧ j < i + m ∧ p j = true) ∨ (f m i = .brk c ∧ ∀ j, i ≤ j → j < i + m → p j = false)
 | 0, i => .inr ⟨h0 i, fun j h1 h2 => by omega⟩
 | m + 1, i => by
  rw [h1]
  cases hp : p i with
  | true => exact .inl ⟨i, rfl, by omega, by omega, hp⟩
  | false =>
   rcases scan' f p c h0 h1 m (i + 1) with ⟨j, e, j1, j2, j3⟩ | ⟨e, h⟩
   ·exact .inl ⟨j, e, by omega, by omega, j3⟩
   ·refine .inr ⟨e, fun j j1 j2 => ?_⟩
    rcases Int.lt_or_eq_of_le j1 with hlt | rfl
    ·exact h j (by omega) (by omega)
    ·exact hp
theorem mem_getDg {α : Type} {l : List α} {n d : α} : n ∈ l ↔ ∃ j : Int, 0 ≤ j ∧ j < (l.length : Int) ∧ l.getD j.toNat d = n := by
 constructor
 ·intro h
  obtain ⟨i, hi, e⟩ := List.getElem_of_mem h
  exact ⟨(i : Int), by omega, by omega, by simp [List.getD, hi, e]⟩
 ·rintro ⟨j, j1, j2, rfl⟩
  exact getD_mem (by omega)
theorem allL {α R : Type} [Inhabited α] {P : α → Bool} {l : List α} {no : R} (L : Nat → Int → LR Unit R) (h0 : ∀ i, L 0 i = .brk ()) (h1 : ∀ r (i : Int), 0 ≤ i → i < (l.length : Int) → L (r + 1) i = if P (l.getD i.toNat default) = true then L r (i + 1) else .ret no) :
  L ((l.length : Int) - 0).toNat 0 = if l.all P = true then .brk () else .ret no := by
 have key : ∀ (suf pre : List α), l = pre ++ suf → L suf.length (pre.length : Int) = if suf.all P = true then .brk () else .ret no := fun suf => by
  induction suf with
  | nil => intro pre _; exact h0 _
  | cons a suf ih =>
   intro pre hl
   have hlen : l.length = pre.length + (suf.length + 1) := by rw [hl]; simp
   have hg : l.getD ((pre.length : Int)).toNat default = a := by rw [hl]; simp
   rw [List.length_cons, h1 _ _ (by omega) (by omega), hg, List.all_cons]
   have := ih (pre ++ [a]) (by rw [hl]; simp)
   rw [List.length_append, List.length_cons, List.length_nil, Int.natCast_add] at this
   rw [show ((pre.length : Int) + 1) = (pre.length : Int) + ((0 + 1 : Nat) : Int) from rfl, this]
   cases P a <;> simp
 have := key l [] rfl
 rw [show ((l.length : Int) - 0).toNat = l.length by omega]
 exact this
theorem str_pos {s : Str} (h : (s == (Str.mk [])) = false) : 0 < s.b.length := by
 obtain ⟨b⟩ := s
 cases b with
 | nil => simp at h
 | cons a b => simp
def SSm (s : GStmt) : Bool := decide (s.Uses.length ≤ 600000000) && decide (s.Targets.length ≤ 600000000)
def BSm (b : GBlock) : Bool := b.Stmts.all SSm
def FSm (f : GFunc) : Bool := f.Blocks.all BSm
def PSm (p : GProgram) : Bool := p.Funcs.all FSm
theorem all_getD {α : Type} [Inhabited α] {q : α → Bool} {l : List α} (h : l.all q = true) {i : Int} (hi : 0 ≤ i ∧ i < (l.length : Int)) : q (l.getD i.toNat default) = true :=
 List.all_eq_true.1 h _ (getD_mem (by omega))
theorem PSm_f {p : GProgram} (h : PSm p = true) {i : Int} (hi : 0 ≤ i ∧ i < (p.Funcs.length : Int)) : FSm (p.Funcs.getD i.toNat default) = true := all_getD h hi
theorem FSm_b {f : GFunc} (h : FSm f = true) {i : Int} (hi : 0 ≤ i ∧ i < (f.Blocks.length : Int)) : BSm (f.Blocks.getD i.toNat default) = true := all_getD h hi
theorem BSm_m {b : GBlock} (h : BSm b = true) {x : GStmt} (hx : x ∈ b.Stmts) : SSm x = true := List.all_eq_true.1 h x hx
theorem SSm_l {s : GStmt} (h : SSm s = true) : s.Uses.length ≤ 600000000 ∧ s.Targets.length ≤ 600000000 := by
 unfold SSm at h; simpa using h
def QS (u v : Nat) (s : GStmt) : Bool := decide (s.Uses.length ≤ u) && decide (s.Targets.length ≤ v)
def QB (u v : Nat) (b : GBlock) : Bool := b.Stmts.all (QS u v)
def QF (u v : Nat) (f : GFunc) : Bool := f.Blocks.all (QB u v)
def QP (u v : Nat) (p : GProgram) : Bool := p.Funcs.all (QF u v)
def QL (b : GBlock) : Bool := decide (b.Stmts.length ≤ 4)
def SpF (f : GFunc) : Prop := (1 ≤ f.Blocks.length ∧ f.Blocks.length ≤ 3) ∧ f.Blocks.all QL = true
def SpP (p : GProgram) : Prop := (1 ≤ p.Funcs.length ∧ p.Funcs.length ≤ 3) ∧ (∀ f ∈ p.Funcs, SpF f) ∧ QP 3 2 p = true
theorem QP_PSm {u v : Nat} {p : GProgram} (h : QP u v p = true) (hu : u ≤ 1000000) (hv : v ≤ 1000000) : PSm p = true := by
 unfold QP at h; unfold PSm
 refine List.all_eq_true.2 fun f hf => ?_
 have h1 := List.all_eq_true.1 h f hf
 unfold QF at h1; unfold FSm
 refine List.all_eq_true.2 fun b hb => ?_
 have h2 := List.all_eq_true.1 h1 b hb
 unfold QB at h2; unfold BSm
 refine List.all_eq_true.2 fun s hs => ?_
 have h3 := List.all_eq_true.1 h2 s hs
 unfold QS at h3; unfold SSm
 simp only [Bool.and_eq_true, decide_eq_true_eq] at h3 ⊢
 omega
theorem SpP_PSm {p : GProgram} (h : SpP p) : PSm p = true := QP_PSm h.2.2 (by omega) (by omega)
def nS (i k : Int) : Int → List GStmt → List GNode
 | _, [] => []
 | v, s :: S => (bif s.Op == 3 then [GNode.mk 3 i k v, GNode.mk 4 i k v] else [GNode.mk 3 i k v]) ++ nS i k (v + 1) S
def nB (i : Int) : Int → List GBlock → List GNode
 | _, [] => []
 | k, b :: B => nS i k 0 b.Stmts ++ nB i (k + 1) B
def nF : Int → List GFunc → List GNode
 | _, [] => []
 | i, f :: F => [GNode.mk 1 i (-1) (-1)] ++ nB i 0 f.Blocks ++ [GNode.mk 2 i (-1) (-1)] ++ nF (i + 1) F
theorem getD_dropz {α : Type} [Inhabited α] {l : List α} {v : Int} (h0 : 0 ≤ v) (h : v < (l.length : Int)) : l.drop v.toNat = l.getD v.toNat default :: l.drop (v + 1).toNat := by
 rw [List.drop_eq_getElem_cons (show v.toNat < l.length by omega), show (v + 1).toNat = v.toNat + 1 by omega, List.getD_eq_getElem?_getD, List.getElem?_eq_getElem (show v.toNat < l.length by omega)]; rfl
def NIn (p : GProgram) (n : GNode) : Prop := (0 ≤ n.Func ∧ n.Func < (p.Funcs.length : Int)) ∧ (n.Kind ≠ 1 → n.Kind ≠ 2 → (0 ≤ n.Block ∧ n.Block < ((p.Funcs.getD n.Func.toNat default).Blocks.length : Int)) ∧ (0 ≤ n.Stmt ∧ n.Stmt < ((((p.Funcs.getD n.Func.toNat default).Blocks).getD n.Block.toNat default).Stmts.length : Int)) ∧ n.Stmt < 100)
theorem nS_in (i k : Int) : ∀ (S : List GStmt) (v : Int) (n : GNode), n ∈ nS i k v S → n.Func = i ∧ n.Block = k ∧ (n.Kind = 3 ∨ n.Kind = 4) ∧ v ≤ n.Stmt ∧ n.Stmt < v + (S.length : Int)
 | [], v, n, h => by cases h
 | s :: S, v, n, h => by
  rw [nS] at h
  rcases List.mem_append.1 h with h' | h'
  ·cases e : s.Op == 3
   ·rw [e, cond_false, List.mem_singleton] at h'
    subst h'
    exact ⟨rfl, rfl, .inl rfl, by show v ≤ v; omega, by show v < v + _; rw [List.length_cons]; omega⟩
   ·rw [e, cond_true] at h'
    simp only [List.mem_cons, List.not_mem_nil, or_false] at h'
    rcases h' with e | e <;> subst e
    ·exact ⟨rfl, rfl, .inl rfl, by show v ≤ v; omega, by show v < v + _; rw [List.length_cons]; omega⟩
    ·exact ⟨rfl, rfl, .inr rfl, by show v ≤ v; omega, by show v < v + _; rw [List.length_cons]; omega⟩
  ·have := nS_in i k S (v + 1) n h'
   rw [List.length_cons]
   omega
theorem nB_in (i : Int) : ∀ (S : List GBlock) (v : Int) (n : GNode), n ∈ nB i v S → n.Func = i ∧ (n.Kind = 3 ∨ n.Kind = 4) ∧ (v ≤ n.Block ∧ n.Block < v + (S.length : Int)) ∧ 0 ≤ n.Stmt ∧ n.Stmt < ((S.getD (n.Block - v).toNat default).Stmts.length : Int)
 | [], v, n, h => by cases h
 | s :: S, v, n, h => by
  rw [nB] at h
  rcases List.mem_append.1 h with h' | h'
  ·obtain ⟨a1, a2, a3, a4, a5⟩ := nS_in i v s.Stmts 0 n h'
   refine ⟨a1, a3, by rw [List.length_cons]; omega, a4, ?_⟩
   rw [show (n.Block - v).toNat = 0 by omega]
   show n.Stmt < (s.Stmts.length : Int)
   omega
  ·obtain ⟨a1, a2, a3, a4, a5⟩ := nB_in i S (v + 1) n h'
   refine ⟨a1, a2, by rw [List.length_cons]; omega, a4, ?_⟩
   rw [show (n.Block - v).toNat = (n.Block - (v + 1)).toNat + 1 by omega]
   exact a5
theorem nF_in : ∀ (S : List GFunc) (v : Int) (n : GNode), n ∈ nF v S → (v ≤ n.Func ∧ n.Func < v + (S.length : Int)) ∧ (n.Kind ≠ 1 → n.Kind ≠ 2 → (n.Kind = 3 ∨ n.Kind = 4) ∧ (0 ≤ n.Block ∧ n.Block < ((S.getD (n.Func - v).toNat default).Blocks.length : Int)) ∧ 0 ≤ n.Stmt ∧ n.Stmt < ((((S.getD (n.Func - v).toNat default).Blocks).getD n.Block.toNat default).Stmts.length : Int))
 | [], v, n, h => by cases h
 | s :: S, v, n, h => by
  rw [nF] at h
  rw [List.length_cons]
  rcases List.mem_append.1 h with h | h'
  ·rcases List.mem_append.1 h with h | h
   ·rcases List.mem_append.1 h with h | h
    ·rw [List.mem_singleton.1 h]
     exact ⟨by show v ≤ v ∧ v < v + _; omega, fun a => absurd rfl a⟩
    ·obtain ⟨a1, a2, a3, a4, a5⟩ := nB_in v s.Blocks 0 n h
     refine ⟨by omega, fun _ _ => ?_⟩
     rw [show (n.Func - v).toNat = 0 by omega]
     rw [show (n.Block - 0).toNat = n.Block.toNat by omega] at a5
     exact ⟨a2, by show 0 ≤ n.Block ∧ n.Block < (s.Blocks.length : Int); omega, a4, a5⟩
   ·rw [List.mem_singleton.1 h]
    exact ⟨by show v ≤ v ∧ v < v + _; omega, fun _ a => absurd rfl a⟩
  ·obtain ⟨a1, a2⟩ := nF_in S (v + 1) n h'
   refine ⟨by omega, ?_⟩
   rw [show (n.Func - v).toNat = (n.Func - (v + 1)).toNat + 1 by omega]
   exact a2
def key (n : GNode) : Int := n.Func * 100000 + (bif n.Kind == 1 then 0 else bif n.Kind == 2 then 99999 else 1 + n.Block * 1000 + n.Stmt * 2 + (bif n.Kind == 4 then 1 else 0))
def one (i k v : Int) (s : GStmt) : List GNode := bif s.Op == 3 then [GNode.mk 3 i k v, GNode.mk 4 i k v] else [GNode.mk 3 i k v]
def Adv (n a x : Int) : Prop := a ≤ x ∧ x ≤ n
theorem adv_trans {n a b x : Int} (h : Adv n a b) (k : Adv n b x) : Adv n a x := ⟨Int.le_trans h.1 k.1, k.2⟩
section
variable {α : Type} (z : α) (key : α → Int)
def gi (d : List α) (k : Int) : α := d.getD k.toNat z
def swp (d : List α) (i j : Int) : List α := (d.set i.toNat (d.getD j.toNat z)).set j.toNat (d.getD i.toNat z)
theorem swp_len (d : List α) (i j : Int) : (swp z d i j).length = d.length := by simp [swp]
theorem swp_gi {d : List α} {i j k : Int} (hi : 0 ≤ i ∧ i < (d.length : Int)) (hj : 0 ≤ j ∧ j < (d.length : Int)) (hk : 0 ≤ k) : gi z (swp z d i j) k = if k = j then gi z d i else if k = i then gi z d j else gi z d k := by
 unfold gi swp
 simp only [List.getD_eq_getElem?_getD, List.getElem?_set, List.length_set]
 by_cases h1 : k = j
 ·subst h1
  have : k.toNat < d.length := by omega
  simp [this]
 ·have e1 : ¬ j.toNat = k.toNat := by omega
  by_cases h2 : k = i
  ·subst h2
   have : k.toNat < d.length := by omega
   simp [e1, h1, this]
  ·have e2 : ¬ i.toNat = k.toNat := by omega
   simp [e1, e2, h1, h2]
theorem swp_perm {d : List α} {i j : Int} (hi : 0 ≤ i ∧ i < (d.length : Int)) (hj : 0 ≤ j ∧ j < (d.length : Int)) : (swp z d i j).Perm d := by
 unfold swp
 have h1 : i.toNat < d.length := by omega
 have h2 : j.toNat < d.length := by omega
 rw [List.getD_eq_getElem?_getD, List.getD_eq_getElem?_getD, List.getElem?_eq_getElem h1, List.getElem?_eq_getElem h2]
 exact List.set_set_perm h1 h2
structure PI (d d' : List α) (a b : Int) : Prop where
 len : d'.length = d.length
 out : ∀ k, 0 ≤ k → (k < a ∨ b ≤ k) → gi z d' k = gi z d k
 src : ∀ k, a ≤ k → k < b → ∃ m, a ≤ m ∧ m < b ∧ gi z d' k = gi z d m
 perm : d'.Perm d
theorem PI.refl (d : List α) (a b : Int) : PI z d d a b := ⟨rfl, fun _ _ _ => rfl, fun k h1 h2 => ⟨k, h1, h2, rfl⟩, List.Perm.refl _⟩
theorem PI.trans {d1 d2 d3 : List α} {a b : Int} (h1 : PI z d1 d2 a b) (h2 : PI z d2 d3 a b) : PI z d1 d3 a b :=
 ⟨h2.len.trans h1.len, fun k hk hc => (h2.out k hk hc).trans (h1.out k hk hc), fun k hk hc => by
  obtain ⟨m, m1, m2, m3⟩ := h2.src k hk hc
  obtain ⟨n, n1, n2, n3⟩ := h1.src m m1 m2
  exact ⟨n, n1, n2, m3.trans n3⟩, h2.perm.trans h1.perm⟩
theorem PI.mono {d d' : List α} {a b a' b' : Int} (h : PI z d d' a b) (h0 : 0 ≤ a') (ha : a' ≤ a) (hb : b ≤ b') : PI z d d' a' b' :=
 ⟨h.len, fun k hk hc => h.out k hk (by omega), fun k hk hc => by
  by_cases hs : a ≤ k ∧ k < b
  ·obtain ⟨m, m1, m2, m3⟩ := h.src k hs.1 hs.2
   exact ⟨m, by omega, by omega, m3⟩
  ·exact ⟨k, hk, hc, h.out k (by omega) (by omega)⟩, h.perm⟩
theorem PI.swp {d : List α} {a b i j : Int} (h0 : 0 ≤ a) (hb : b ≤ (d.length : Int)) (hi : a ≤ i ∧ i < b) (hj : a ≤ j ∧ j < b) : PI z d (swp z d i j) a b :=
 ⟨swp_len z d i j, fun k hk hc => by rw [swp_gi z ⟨by omega, by omega⟩ ⟨by omega, by omega⟩ hk, if_neg (by omega), if_neg (by omega)], fun k hk hc => by
  rw [swp_gi z ⟨by omega, by omega⟩ ⟨by omega, by omega⟩ (by omega)]
  by_cases h1 : k = j
  ·exact ⟨i, hi.1, hi.2, by rw [if_pos h1]⟩
  ·by_cases h2 : k = i
   ·exact ⟨j, hj.1, hj.2, by rw [if_neg h1, if_pos h2]⟩
   ·exact ⟨k, hk, hc, by rw [if_neg h1, if_neg h2]⟩, swp_perm z ⟨by omega, by omega⟩ ⟨by omega, by omega⟩⟩
def Srt (d : List α) (a b : Int) : Prop := ∀ i j, a ≤ i → i ≤ j → j < b → key (gi z d i) ≤ key (gi z d j)
structure Hole (d : List α) (a j e : Int) : Prop where
 rg : a ≤ j ∧ j < e
 A : ∀ p q, a ≤ p → p ≤ q → q < e → p ≠ j → q ≠ j → key (gi z d p) ≤ key (gi z d q)
 B : ∀ q, j < q → q < e → key (gi z d j) ≤ key (gi z d q)
theorem Hole.done {d : List α} {a j e : Int} (h : Hole z key d a j e) (hs : j = a ∨ key (gi z d (j - 1)) ≤ key (gi z d j)) : Srt z key d a e := fun p q hp hpq hq => by
 have hr := h.rg
 by_cases h1 : p = j
 ·subst h1
  by_cases h2 : q = p
  ·subst h2; exact Int.le_refl _
  ·exact h.B q (by omega) hq
 ·by_cases h2 : q = j
  ·subst h2
   rcases hs with hs | hs
   ·omega
   ·by_cases h3 : p = q - 1
    ·subst h3; exact hs
    ·exact Int.le_trans (h.A p (q - 1) hp (by omega) (by omega) h1 (by omega)) hs
  ·exact h.A p q hp hpq hq h1 h2
theorem Hole.step {d : List α} {a j e : Int} (h0 : 0 ≤ a) (he : e ≤ (d.length : Int)) (h : Hole z key d a j e) (hj : a < j) (hs : key (gi z d j) < key (gi z d (j - 1))) : Hole z key (swp z d j (j - 1)) a (j - 1) e := by
 have hr := h.rg
 have g : ∀ k, 0 ≤ k → gi z (swp z d j (j - 1)) k = if k = j - 1 then gi z d j else if k = j then gi z d (j - 1) else gi z d k := fun k hk => swp_gi z ⟨by omega, by omega⟩ ⟨by omega, by omega⟩ hk
 refine ⟨⟨by omega, by omega⟩, fun p q hp hpq hq h1 h2 => ?_, fun q hq1 hq2 => ?_⟩
 ·rw [g p (by omega), g q (by omega), if_neg h1, if_neg h2]
  by_cases e1 : p = j
  ·rw [if_pos e1]
   by_cases e2 : q = j
   ·rw [if_pos e2]; exact Int.le_refl _
   ·rw [if_neg e2]; exact h.A (j - 1) q (by omega) (by omega) hq (by omega) e2
  ·rw [if_neg e1]
   by_cases e2 : q = j
   ·rw [if_pos e2]; exact h.A p (j - 1) hp (by omega) (by omega) e1 (by omega)
   ·rw [if_neg e2]; exact h.A p q hp hpq hq e1 e2
 ·rw [g (j - 1) (by omega), if_pos rfl, g q (by omega), if_neg (by omega)]
  by_cases e2 : q = j
  ·rw [if_pos e2]; omega
  ·rw [if_neg e2]; exact h.B q (by omega) hq2
theorem Hole.init {d : List α} {a i : Int} (hi : a ≤ i) (h : Srt z key d a i) : Hole z key d a i (i + 1) :=
 ⟨⟨hi, by omega⟩, fun p q hp hpq hq h1 h2 => h p q hp hpq (by omega), fun q hq1 hq2 => by omega⟩
end
abbrev idk (x : Int) : Int := x
def Hp (d : List Int) (f lo n : Int) : Prop := ∀ i, lo ≤ i → ∀ c, (c = 2 * i + 1 ∨ c = 2 * i + 2) → c < n → gi 0 d (f + c) ≤ gi 0 d (f + i)
structure Hq (d : List Int) (f lo n rt : Int) : Prop where
 A : ∀ i, lo ≤ i → i ≠ rt → ∀ c, (c = 2 * i + 1 ∨ c = 2 * i + 2) → c < n → gi 0 d (f + c) ≤ gi 0 d (f + i)
 B : ∀ i, lo ≤ i → (rt = 2 * i + 1 ∨ rt = 2 * i + 2) → ∀ c, (c = 2 * rt + 1 ∨ c = 2 * rt + 2) → c < n → gi 0 d (f + c) ≤ gi 0 d (f + i)
theorem Hq.done {d : List Int} {f lo n rt : Int} (h : Hq d f lo n rt) (hs : ∀ c, (c = 2 * rt + 1 ∨ c = 2 * rt + 2) → c < n → gi 0 d (f + c) ≤ gi 0 d (f + rt)) : Hp d f lo n := fun i hi c hc hn => by
 by_cases e : i = rt
 ·subst e; exact hs c hc hn
 ·exact h.A i hi e c hc hn
theorem Hq.step {d : List Int} {f lo n rt c : Int} (h0 : 0 ≤ f) (hl : 0 ≤ lo) (hr : lo ≤ rt) (hb : f + n ≤ (d.length : Int)) (h : Hq d f lo n rt) (hc : c = 2 * rt + 1 ∨ c = 2 * rt + 2) (hn : c < n)
  (h1 : gi 0 d (f + rt) < gi 0 d (f + c)) (h2 : ∀ c', (c' = 2 * rt + 1 ∨ c' = 2 * rt + 2) → c' < n → gi 0 d (f + c') ≤ gi 0 d (f + c)) : Hq (swp 0 d (f + rt) (f + c)) f lo n c := by
 have g : ∀ k, 0 ≤ k → gi 0 (swp 0 d (f + rt) (f + c)) (f + k) = if k = c then gi 0 d (f + rt) else if k = rt then gi 0 d (f + c) else gi 0 d (f + k) := fun k hk => by
  rw [swp_gi 0 ⟨by omega, by omega⟩ ⟨by omega, by omega⟩ (by omega)]
  by_cases e1 : k = c
  ·rw [if_pos (by omega), if_pos e1]
  ·rw [if_neg (by omega), if_neg e1]
   by_cases e2 : k = rt
   ·rw [if_pos (by omega), if_pos e2]
   ·rw [if_neg (by omega), if_neg e2]
 refine ⟨fun i hi hne k hk hkn => ?_, fun i hi hp k hk hkn => ?_⟩
 ·rw [g k (by omega), g i (by omega), if_neg hne]
  by_cases e1 : i = rt
  ·rw [if_pos e1]
   subst e1
   by_cases e2 : k = c
   ·rw [if_pos e2]; omega
   ·rw [if_neg e2, if_neg (by omega)]; exact h2 k hk hkn
  ·rw [if_neg e1]
   by_cases e2 : k = c
   ·omega
   ·rw [if_neg e2]
    by_cases e3 : k = rt
    ·rw [if_pos e3]; subst e3; exact h.B i hi hk c hc hn
    ·rw [if_neg e3]; exact h.A i hi e1 k hk hkn
 ·have hi' : i = rt := by omega
  subst hi'
  rw [g k (by omega), g i (by omega), if_neg (by omega), if_neg (by omega), if_neg (by omega), if_pos rfl]
  exact h.A c (by omega) (by omega) k hk hkn
theorem Hp_max {d : List Int} {f n : Int} (h : Hp d f 0 n) : ∀ (m : Nat) (k : Int), k.toNat ≤ m → 0 ≤ k → k < n → gi 0 d (f + k) ≤ gi 0 d (f + 0)
 | 0, k, hm, hk, hn => by rw [show k = 0 by omega]; exact Int.le_refl _
 | m + 1, k, hm, hk, hn => by
  by_cases e : k = 0
  ·rw [e]; exact Int.le_refl _
  ·exact Int.le_trans (h ((k - 1) / 2) (by omega) k (by omega) hn) (Hp_max h m ((k - 1) / 2) (by omega) (by omega) (by omega))
theorem pt_end {d : List Int} {a b m : Int} (h0 : 0 ≤ a) (hm : a ≤ m ∧ m ≤ b - 1) (hb : b ≤ (d.length : Int)) (hA : ∀ k, a < k → k ≤ m → gi 0 d k < gi 0 d a) (hB : ∀ k, m < k → k < b → gi 0 d a ≤ gi 0 d k) :
  PI 0 d (swp 0 d m a) a b ∧ (∀ k, a ≤ k → k < m → gi 0 (swp 0 d m a) k ≤ gi 0 (swp 0 d m a) m) ∧ (∀ k, m < k → k < b → gi 0 (swp 0 d m a) m ≤ gi 0 (swp 0 d m a) k) := by
 have g : ∀ k, 0 ≤ k → gi 0 (swp 0 d m a) k = if k = a then gi 0 d m else if k = m then gi 0 d a else gi 0 d k := fun k hk => swp_gi 0 ⟨by omega, by omega⟩ ⟨by omega, by omega⟩ hk
 have gm : gi 0 (swp 0 d m a) m = gi 0 d a := by
  rw [g m (by omega)]
  by_cases e : m = a
  ·rw [if_pos e, e]
  ·rw [if_neg e, if_pos rfl]
 refine ⟨PI.swp 0 h0 hb (by omega) (by omega), fun k h1 h2 => ?_, fun k h1 h2 => ?_⟩
 ·rw [gm, g k (by omega)]
  by_cases e : k = a
  ·rw [if_pos e]; have := hA m (by omega) (Int.le_refl _); omega
  ·rw [if_neg e, if_neg (by omega)]; have := hA k (by omega) (by omega); omega
 ·rw [gm, g k (by omega), if_neg (by omega), if_neg (by omega)]; exact hB k h1 h2
theorem tab_ok : ((List.range 256).all fun k => (decide (k = 0) || decide (2 ^ (tab0.b.getD k 0).toNat ≤ 2 * k)) && decide ((tab0.b.getD k 0).toNat ≤ 8)) = true := by kernel_rfl
theorem tab_at {k : Nat} (h : k < 256) : (k = 0 ∨ 2 ^ (tab0.b.getD k 0).toNat ≤ 2 * k) ∧ (tab0.b.getD k 0).toNat ≤ 8 := by
 have := List.all_eq_true.1 tab_ok k (List.mem_range.2 h)
 simpa only [Bool.and_eq_true, Bool.or_eq_true, decide_eq_true_eq] using this
theorem ofI_nat {l : Int} (h : 0 ≤ l ∧ l ≤ 65535) : (BitVec.ofInt 64 l).toNat = l.toNat := by rw [BitVec.toNat_ofInt]; omega
theorem and_lt {x m : BitVec 64} (h : 1 ≤ m.toNat) : (x &&& (m - 1#64)).toNat < m.toNat := by
 rw [BitVec.toNat_and]
 have h1 : (m - 1#64).toNat = m.toNat - 1 := by
  rw [BitVec.toNat_sub]
  have := m.isLt
  simp
  omega
 rw [h1]
 have := Nat.and_le_right (n := x.toNat) (m := m.toNat - 1)
 omega
theorem brk_ne {α β : Type} {x : LR α β} {y : α} (h : x = .brk y) : x ≠ .oof := fun e => by rw [h] at e; cases e
def EdL (n : Nat) (l : List Int) : Prop := l.Nodup ∧ ∀ x ∈ l, 0 ≤ x ∧ x < (n : Int)
theorem EdL_len {n : Nat} {l : List Int} (h : EdL n l) : l.length ≤ n := nodup_le n l h.1 h.2
theorem EdL_nil (n : Nat) : EdL n [] := ⟨List.nodup_nil, fun x hx => by cases hx⟩
theorem EdL_add {n : Nat} {l : List Int} {x : Int} (h : EdL n l) (hx : 0 ≤ x ∧ x < (n : Int)) (hn : x ∉ l) : EdL n (l ++ [x]) := by
 refine ⟨List.nodup_append.2 ⟨h.1, by simp, fun a ha b hb => ?_⟩, fun y hy => ?_⟩
 ·rw [List.mem_singleton] at hb; subst hb; intro e; exact hn (e ▸ ha)
 ·rcases List.mem_append.1 hy with hy | hy
  ·exact h.2 y hy
  ·rw [List.mem_singleton] at hy; rw [hy]; exact hx
theorem getD_mem' {l : List (List Int)} {i : Int} (h : 0 ≤ i ∧ i < (l.length : Int)) : l.getD i.toNat [] ∈ l := by
 rw [List.getD_eq_getElem?_getD, List.getElem?_eq_getElem (show i.toNat < l.length by omega)]; exact List.getElem_mem _
structure BOk (b : Gbuilder) : Prop where
 ps : b.g.Pred.length = b.g.Succ.length
 n0 : 0 < b.g.Succ.length
 nb : b.g.Succ.length ≤ 20000
 su : ∀ l ∈ b.g.Succ, EdL b.g.Succ.length l
 pr : ∀ l ∈ b.g.Pred, EdL b.g.Succ.length l
 mi : ∀ i k, 0 ≤ i → i < (b.g.Succ.length : Int) → 0 ≤ k → k < (b.g.Succ.length : Int) → (k ∈ b.g.Succ.getD i.toNat [] ↔ i ∈ b.g.Pred.getD k.toNat [])
 num : ∀ k, 0 ≤ (mget b.number k).getD 0 ∧ (mget b.number k).getD 0 < (b.g.Succ.length : Int)
theorem BOk.sl {b : Gbuilder} (h : BOk b) {i : Int} (hi : 0 ≤ i ∧ i < (b.g.Succ.length : Int)) : (b.g.Succ.getD i.toNat []).length ≤ 20000 := Nat.le_trans (EdL_len (h.su _ (getD_mem' hi))) h.nb
theorem BOk.pl {b : Gbuilder} (h : BOk b) {i : Int} (hi : 0 ≤ i ∧ i < (b.g.Succ.length : Int)) : (b.g.Pred.getD i.toNat []).length ≤ 20000 := Nat.le_trans (EdL_len (h.pr _ (getD_mem' (by have := h.ps; omega)))) h.nb
theorem getD_set' {l : List (List Int)} {i k : Int} {x : List Int} (hi : 0 ≤ i ∧ i < (l.length : Int)) (hk : 0 ≤ k) : (l.set i.toNat x).getD k.toNat [] = if k = i then x else l.getD k.toNat [] := by
 simp only [List.getD_eq_getElem?_getD, List.getElem?_set]
 by_cases e : k = i
 ·subst e; simp [show k.toNat < l.length by omega]
 ·simp [e, show ¬ i.toNat = k.toNat by omega]
theorem lenS_at {g : List (List Int)} {c : Int} (h : ∀ l ∈ g, (l.length : Int) ≤ c) (h0 : 0 ≤ c) (i : Nat) : ((g.getD i []).length : Int) ≤ c := by
 by_cases hi : i < g.length
 ·rw [List.getD_eq_getElem?_getD, List.getElem?_eq_getElem hi]; exact h _ (List.getElem_mem hi)
 ·rw [List.getD_eq_getElem?_getD, List.getElem?_eq_none (by omega)]; exact h0
theorem lenS_1 {g : List (List Int)} {c : Int} {i : Nat} (h : ∀ l ∈ g, (l.length : Int) ≤ c) (h0 : 0 ≤ c ∧ c ≤ 1000000000) : (g.getD i []).length ≤ 1000000000 := by
 have := lenS_at h h0.1 i; omega
theorem lenS_set {g : List (List Int)} {c c' : Int} {i j : Nat} {x : List Int} (h : ∀ l ∈ g, (l.length : Int) ≤ c) (hx : x.length ≤ (g.getD j []).length + 1) (hc : c + 1 ≤ c') (h0 : 0 ≤ c) : ∀ l ∈ g.set i x, (l.length : Int) ≤ c' := fun l hl => by
 rcases List.mem_or_eq_of_mem_set hl with hl | rfl
 ·have := h l hl; omega
 ·have := lenS_at h h0 j; omega
def Asc (l : List Int) (n : Int) : Prop := ∀ k, 0 ≤ k → k < (l.length : Int) → 0 ≤ l.getD k.toNat 0 ∧ l.getD k.toNat 0 < n ∧ (0 < k → l.getD (k - 1).toNat 0 < l.getD k.toNat 0)
theorem BOk_ls {a : List GNode} {b c : List (List Int)} {m : List (GNode × Int)} (h : BOk (Gbuilder.mk (GGraph.mk a b c) m)) : ∀ l ∈ b, (l.length : Int) ≤ 20000 := fun l hl => by
 have h1 := EdL_len (h.su l hl); have h2 := h.nb; omega
theorem BOk_lp {a : List GNode} {b c : List (List Int)} {m : List (GNode × Int)} (h : BOk (Gbuilder.mk (GGraph.mk a b c) m)) : ∀ l ∈ c, (l.length : Int) ≤ 20000 := fun l hl => by
 have h1 := EdL_len (h.pr l hl); have h2 := h.nb; omega
theorem lenS_2 {g : List (List Int)} {i : Nat} (h : ∀ l ∈ g, (l.length : Int) ≤ 20000) : (g.getD i []).length ≤ 65535 := by
 have := lenS_at h (by omega) i; omega
theorem lenS_set0 {g : List (List Int)} {c : Int} {i j : Nat} {x : List Int} (h : ∀ l ∈ g, (l.length : Int) ≤ c) (hx : x.length = (g.getD j []).length) (h0 : 0 ≤ c := by omega) : ∀ l ∈ g.set i x, (l.length : Int) ≤ c := fun l hl => by
 rcases List.mem_or_eq_of_mem_set hl with hl | rfl
 ·exact h l hl
 ·have := lenS_at h h0 j; omega
theorem BOk_ps {a : List GNode} {b c : List (List Int)} {m : List (GNode × Int)} (h : BOk (Gbuilder.mk (GGraph.mk a b c) m)) : c.length = b.length := h.ps
structure VG (g : GGraph) : Prop where
 n1 : 1 ≤ g.Nodes.length ∧ g.Nodes.length ≤ 256
 sl : g.Succ.length = g.Nodes.length
 pl : g.Pred.length = g.Nodes.length
 sa : ∀ k : Int, 0 ≤ k → k < (g.Nodes.length : Int) → Asc (g.Succ.getD k.toNat []) (g.Nodes.length : Int)
theorem Asc_mem {l : List Int} {n x : Int} (h : Asc l n) (hx : x ∈ l) : 0 ≤ x ∧ x < n := by
 obtain ⟨i, hi, e⟩ := List.mem_iff_getElem.1 hx
 have := h (i : Int) (by omega) (by omega)
 rw [show ((i : Int)).toNat = i by omega, List.getD_eq_getElem?_getD, List.getElem?_eq_getElem hi] at this
 rw [← e]; exact ⟨this.1, this.2.1⟩
theorem Asc_len {l : List Int} {n : Int} (h : Asc l n) : (l.length : Int) ≤ n ∨ l = [] := by
 have key : ∀ (m : Nat), m < l.length → (m : Int) ≤ l.getD m 0 := fun m => by
  induction m with
  | zero => intro hm; have := (h 0 (by omega) (by omega)).1; simpa using this
  | succ m ih =>
   intro hm
   have h1 := ih (by omega)
   have h2 := (h ((m + 1 : Nat) : Int) (by omega) (by omega)).2.2 (by omega)
   rw [show (((m + 1 : Nat) : Int) - 1).toNat = m by omega, show (((m + 1 : Nat) : Int)).toNat = m + 1 by omega] at h2
   omega
 by_cases e : l.length = 0
 ·exact .inr (List.length_eq_zero_iff.1 e)
 ·left
  have h1 := key (l.length - 1) (by omega)
  have h2 := (h ((l.length - 1 : Nat) : Int) (by omega) (by omega)).2.1
  rw [show (((l.length - 1 : Nat) : Int)).toNat = l.length - 1 by omega] at h2
  omega
def pot (S : List (List Int)) (sn : List Bool) : Nat → Nat
 | 0 => 0
 | n + 1 => pot S sn n + (if sn.getD n false = true then 0 else (S.getD n []).length)
theorem set_getD {sn : List Bool} {k i : Nat} (hk : k < sn.length) : (sn.set k true).getD i false = if i = k then true else sn.getD i false := by
 simp only [List.getD_eq_getElem?_getD, List.getElem?_set]
 by_cases e : i = k
 ·subst e; simp [hk]
 ·simp [e, Ne.symm e]
theorem pot_lt {S : List (List Int)} {sn : List Bool} {k : Nat} (hk : k < sn.length) : ∀ n, n ≤ k → pot S (sn.set k true) n = pot S sn n
 | 0, _ => rfl
 | n + 1, h => by rw [pot, pot, pot_lt hk n (by omega), set_getD hk, if_neg (show ¬ n = k by omega)]
theorem pot_set {S : List (List Int)} {sn : List Bool} {k : Nat} (hk : k < sn.length) (hs : sn.getD k false = false) : ∀ n, k < n → pot S (sn.set k true) n + (S.getD k []).length = pot S sn n
 | 0, h => by omega
 | n + 1, h => by
  rw [pot, pot, set_getD hk]
  by_cases e : n = k
  ·subst e; rw [if_pos rfl, if_pos rfl, pot_lt hk n (Nat.le_refl _), hs]; simp
  ·have := pot_set (S := S) hk hs n (by omega); rw [if_neg e]; omega
theorem pot_le {g : GGraph} (hg : VG g) (sn : List Bool) : ∀ n, n ≤ g.Nodes.length → pot g.Succ sn n ≤ 256 * n
 | 0, _ => by simp [pot]
 | n + 1, h => by
  have h1 := pot_le hg sn n (by omega)
  have h2 := hg.sa (n : Int) (by omega) (by omega)
  rw [show ((n : Int)).toNat = n by omega] at h2
  have h3 : (g.Succ.getD n []).length ≤ 256 := by
   have h4 := hg.n1
   rcases Asc_len h2 with h5 | h5
   ·omega
   ·rw [h5]; simp
  rw [pot]
  split <;> omega
structure RI (g : GGraph) (f : List Int) (sn : List Bool) (td out : List Int) : Prop where
 sl : sn.length = g.Nodes.length
 tm : ∀ x ∈ td, 0 ≤ x ∧ x < (g.Nodes.length : Int)
 on : out.Nodup
 oi : ∀ x ∈ out, 0 ≤ x ∧ x < (g.Nodes.length : Int)
 so : ∀ x : Int, 0 ≤ x → x < (g.Nodes.length : Int) → (sn.getD x.toNat false = true ↔ x ∈ out)
 pt : td.length + pot g.Succ sn g.Nodes.length ≤ f.length + 65536
theorem RI.init {g : GGraph} {f : List Int} (hg : VG g) (hf : ∀ x ∈ f, 0 ≤ x ∧ x < (g.Nodes.length : Int)) : RI g f (List.replicate (((g.Nodes.length : Nat) : Int) : Int).toNat false) f [] := by
 refine ⟨by simp, hf, List.nodup_nil, fun x hx => (by cases hx), fun x h1 h2 => ⟨fun h => ?_, fun h => (by cases h)⟩, ?_⟩
 ·rw [List.getD_eq_getElem?_getD, List.getElem?_replicate] at h; split at h <;> cases h
 ·have := pot_le hg (List.replicate (((g.Nodes.length : Nat) : Int) : Int).toNat false) g.Nodes.length (Nat.le_refl _)
  have := hg.n1
  omega
theorem RI.push {g : GGraph} {f : List Int} {sn : List Bool} {td out : List Int} (hg : VG g) (h : RI g f sn td out) {x : Int} (hx : 0 ≤ x ∧ x < (g.Nodes.length : Int)) (ht : 0 < td.length) (hs : sn.getD x.toNat false = false) :
  RI g f (sn.set x.toNat true) (((td.take (((((td.length : Nat) : Int) - 1) : Int).toNat)).drop 0) ++ g.Succ.getD x.toNat []) (out ++ [x]) := by
 have hl := h.sl
 have hn : x ∉ out := fun hm => by rw [(h.so x hx.1 hx.2).2 hm] at hs; cases hs
 refine ⟨by simpa using hl, fun y hy => ?_, ?_, fun y hy => ?_, fun y h1 h2 => ?_, ?_⟩
 ·rcases List.mem_append.1 hy with hy | hy
  ·exact h.tm y (List.mem_of_mem_take (by simpa using hy))
  ·exact Asc_mem (hg.sa x hx.1 hx.2) hy
 ·refine List.nodup_append.2 ⟨h.on, by simp, fun a ha b hb => ?_⟩
  rw [List.mem_singleton] at hb; subst hb; intro e; exact hn (e ▸ ha)
 ·rcases List.mem_append.1 hy with hy | hy
  ·exact h.oi y hy
  ·rw [List.mem_singleton] at hy; rw [hy]; exact hx
 ·rw [set_getD (by omega), List.mem_append, List.mem_singleton]
  by_cases e : y.toNat = x.toNat
  ·rw [if_pos e]; exact ⟨fun _ => .inr (by omega), fun _ => rfl⟩
  ·rw [if_neg e]; exact (h.so y h1 h2).trans ⟨.inl, fun hh => hh.resolve_right (fun e' => e (by rw [e']))⟩
 ·have h1 := h.pt
  have h2 := pot_set (S := g.Succ) (sn := sn) (k := x.toNat) (by omega) hs g.Nodes.length (by omega)
  simp only [List.length_append, List.drop_zero, List.length_take]
  omega
def sm : Nat → (Nat → Nat) → Nat
 | 0, _ => 0
 | n + 1, f => sm n f + f n
theorem sm_congr {f g : Nat → Nat} : ∀ n, (∀ i, i < n → f i = g i) → sm n f = sm n g
 | 0, _ => rfl
 | n + 1, h => by rw [sm, sm, sm_congr n (fun i hi => h i (by omega)), h n (by omega)]
theorem sm_add (f g : Nat → Nat) : ∀ n, sm n (fun i => f i + g i) = sm n f + sm n g
 | 0 => rfl
 | n + 1 => by rw [sm, sm, sm, sm_add f g n]; omega
theorem sm_zero : ∀ n, sm n (fun _ => 0) = 0
 | 0 => rfl
 | n + 1 => by rw [sm, sm_zero n]
theorem sm_swap (f : Nat → Nat → Nat) (m : Nat) : ∀ n, sm n (fun i => sm m (f i)) = sm m (fun k => sm n (fun i => f i k))
 | 0 => (sm_zero m).symm
 | n + 1 => by
  rw [sm, sm_swap f m n, ← sm_add]
  exact sm_congr m fun i _ => rfl
theorem sm_mono (f : Nat → Nat) {n m : Nat} (h : n ≤ m) : sm n f ≤ sm m f := by
 induction m with
 | zero => rw [show n = 0 by omega]; exact Nat.le_refl _
 | succ m ih =>
  by_cases e : n = m + 1
  ·rw [e]; exact Nat.le_refl _
  ·exact Nat.le_trans (ih (by omega)) (Nat.le_add_right _ _)
theorem sm_le (f : Nat → Nat) (c : Nat) : ∀ n, (∀ i, i < n → f i ≤ c) → sm n f ≤ n * c
 | 0, _ => Nat.zero_le _
 | n + 1, h => by
  have h1 := sm_le f c n (fun i hi => h i (by omega))
  have h2 := h n (by omega)
  rw [sm, Nat.succ_mul]; omega
theorem len_sm : ∀ (n : Nat) (l : List Int), l.Nodup → (∀ x ∈ l, 0 ≤ x ∧ x < (n : Int)) → l.length = sm n (fun k => if (k : Int) ∈ l then 1 else 0)
 | 0, l, _, h => by
  cases l with
  | nil => rfl
  | cons x l => have := h x (by simp); omega
 | n + 1, l, hn, h => by
  rw [sm]
  have h1 := len_sm n (l.erase (n : Int)) (hn.erase _) (fun x hx => by
   have hx' := (List.Nodup.mem_erase_iff hn).1 hx
   have h2 := h x hx'.2
   have h3 : x ≠ n := hx'.1
   omega)
  rw [sm_congr n (g := fun k => if (k : Int) ∈ l then 1 else 0) (fun i hi => by
   have : ((i : Int) ∈ l.erase (n : Int)) ↔ (i : Int) ∈ l := by
    rw [List.Nodup.mem_erase_iff hn]; exact ⟨fun h => h.2, fun h => ⟨by omega, h⟩⟩
   simp only [this])] at h1
  by_cases c : (n : Int) ∈ l
  ·rw [if_pos c, ← h1, List.length_erase_of_mem c]
   have := List.length_pos_of_mem c; omega
  ·rw [if_neg c, ← h1, List.erase_of_not_mem c]; omega
theorem Asc_lt {l : List Int} {n : Int} (h : Asc l n) (i : Nat) : ∀ d : Nat, i + d + 1 < l.length → l.getD i 0 < l.getD (i + d + 1) 0
 | 0, hd => by
  have := (h ((i + 1 : Nat) : Int) (by omega) (by omega)).2.2 (by omega)
  rwa [show (((i + 1 : Nat) : Int) - 1).toNat = i by omega, show (((i + 1 : Nat) : Int)).toNat = i + 1 by omega] at this
 | d + 1, hd => by
  have h1 := Asc_lt h i d (by omega)
  have h2 := (h ((i + d + 1 + 1 : Nat) : Int) (by omega) (by omega)).2.2 (by omega)
  rw [show (((i + d + 1 + 1 : Nat) : Int) - 1).toNat = i + d + 1 by omega, show (((i + d + 1 + 1 : Nat) : Int)).toNat = i + d + 1 + 1 by omega] at h2
  exact Int.lt_trans h1 h2
theorem Asc_iff (l : List Int) (n : Int) : Asc l n ↔ l.Pairwise (· < ·) ∧ ∀ x ∈ l, 0 ≤ x ∧ x < n := by
 constructor
 ·intro h
  refine ⟨List.pairwise_iff_getElem.2 fun i j hi hj hij => ?_, fun x hx => Asc_mem h hx⟩
  have := Asc_lt h i (j - i - 1) (by omega)
  rw [show i + (j - i - 1) + 1 = j by omega] at this
  simpa [List.getD_eq_getElem?_getD, List.getElem?_eq_getElem hi, List.getElem?_eq_getElem hj] using this
 ·rintro ⟨h1, h2⟩ k hk0 hk
  have hk' : k.toNat < l.length := by omega
  have e1 : l.getD k.toNat 0 = l[k.toNat] := by simp [List.getD_eq_getElem?_getD, List.getElem?_eq_getElem hk']
  rw [e1]
  refine ⟨(h2 _ (List.getElem_mem hk')).1, (h2 _ (List.getElem_mem hk')).2, fun h0 => ?_⟩
  have hk2 : (k - 1).toNat < l.length := by omega
  have e2 : l.getD (k - 1).toNat 0 = l[(k - 1).toNat] := by rw [List.getD_eq_getElem?_getD, List.getElem?_eq_getElem hk2]; rfl
  rw [e2]
  exact List.pairwise_iff_getElem.1 h1 _ _ hk2 hk' (by omega)
theorem Asc_nd {l : List Int} {n : Int} (h : Asc l n) : l.Nodup := ((Asc_iff l n).1 h).1.imp (fun hab => by omega)
structure VF (S P : List (List Int)) (n : Nat) : Prop where
 sl : S.length = n
 pl : P.length = n
 sa : ∀ k : Nat, k < n → Asc (S.getD k []) (n : Int)
 pa : ∀ k : Nat, k < n → Asc (P.getD k []) (n : Int)
 mi : ∀ i k : Nat, i < n → k < n → ((k : Int) ∈ S.getD i [] ↔ (i : Int) ∈ P.getD k [])
theorem VF.symm {S P : List (List Int)} {n : Nat} (h : VF S P n) : VF P S n := ⟨h.pl, h.sl, h.pa, h.sa, fun i k hi hk => (h.mi k i hk hi).symm⟩
def esum (l : List (List Int)) : Nat := sm l.length (fun i => (l.getD i []).length)
theorem VF.cnt {S P : List (List Int)} {n : Nat} (h : VF S P n) : esum S = esum P := by
 unfold esum
 rw [h.sl, h.pl]
 rw [sm_congr n (g := fun i => sm n (fun k => if (k : Int) ∈ S.getD i [] then 1 else 0)) (fun i hi => len_sm n _ (Asc_nd (h.sa i hi)) (fun x hx => Asc_mem (h.sa i hi) hx))]
 rw [sm_congr n (f := fun i => (P.getD i []).length) (g := fun i => sm n (fun k => if (k : Int) ∈ P.getD i [] then 1 else 0)) (fun i hi => len_sm n _ (Asc_nd (h.pa i hi)) (fun x hx => Asc_mem (h.pa i hi) hx))]
 rw [sm_swap]
 refine sm_congr n fun k hk => sm_congr n fun i hi => ?_
 simp only [h.mi i k hi hk]
theorem getD_lt {l : List Int} {k : Nat} (hk : k < l.length) : l.getD k 0 = l[k] := by rw [List.getD_eq_getElem?_getD, List.getElem?_eq_getElem hk]; rfl
theorem gset {l : List (List Int)} {a k : Nat} {x : List Int} (ha : a < l.length) : (l.set a x).getD k [] = if k = a then x else l.getD k [] := by
 simp only [List.getD_eq_getElem?_getD, List.getElem?_set]
 by_cases e : k = a
 ·subst e; simp [ha]
 ·simp [e, Ne.symm e]
theorem VF.nil (n : Nat) : VF (List.replicate n []) (List.replicate n []) n := by
 have e : ∀ k, (List.replicate n ([] : List Int)).getD k [] = [] := fun k => by
  rw [List.getD_eq_getElem?_getD, List.getElem?_replicate]; split <;> rfl
 refine ⟨List.length_replicate, List.length_replicate, fun k _ => ?_, fun k _ => ?_, fun i k _ _ => ?_⟩
 ·rw [e]; intro k h1 h2; simp at h2; omega
 ·rw [e]; intro k h1 h2; simp at h2; omega
 ·rw [e, e]; exact ⟨fun h => (by cases h), fun h => (by cases h)⟩
theorem VF.es {S P : List (List Int)} {n c : Nat} (h : VF S P n) (hc : n * n ≤ c) : esum S ≤ c := by
 refine Nat.le_trans (sm_le _ n _ fun i hi => ?_) (by rw [h.sl]; exact hc)
 rw [h.sl] at hi
 rcases Asc_len (h.sa i hi) with h1 | h1
 ·omega
 ·rw [h1]; simp
theorem nmOK_eq (l : List Str) (a b : Int) : r4_namesOK l a b = (l.all r4_IsName && (decide (a ≤ (l.length : Int)) && decide ((l.length : Int) ≤ b))) := by
 have l0 : r4_namesOK_L0 l ((l.length : Int) - 0).toNat 0 = if l.all r4_IsName = true then .brk () else .ret false :=
  allL (r4_namesOK_L0 l) (fun i => by rw [r4_namesOK_L0]) fun r i h0 h1 => by
   rw [r4_namesOK_L0]; cases r4_IsName (l.getD i.toNat default) <;> rfl
 rw [r4_namesOK, l0]
 cases l.all r4_IsName
 ·rfl
 ·cases decide (a ≤ (l.length : Int)) <;> rfl
theorem PVal_eq (p : GProgram) : r4_Valid p = (decide (1 ≤ p.Funcs.length ∧ p.Funcs.length ≤ 8) && p.Funcs.all fun f => r4_IsName f.Name && (decide (1 ≤ f.Blocks.length ∧ f.Blocks.length ≤ 16) && f.Blocks.all fun b => r4_IsName b.Name && (decide (1 ≤ b.Stmts.length ∧ b.Stmts.length ≤ 32) && b.Stmts.all r4_stmtOK))) := by
 have l2 : ∀ (b : List GStmt), r4_Valid_L2 b ((b.length : Int) - 0).toNat 0 = if b.all r4_stmtOK = true then .brk () else .ret false := fun b =>
  allL (r4_Valid_L2 b) (fun i => by rw [r4_Valid_L2]) fun r i h0 h1 => by
   rw [r4_Valid_L2]; cases r4_stmtOK (b.getD i.toNat default) <;> rfl
 have l1 : ∀ (f : List GBlock), r4_Valid_L1 f ((f.length : Int) - 0).toNat 0 = if (f.all fun b => r4_IsName b.Name && (decide (1 ≤ b.Stmts.length ∧ b.Stmts.length ≤ 32) && b.Stmts.all r4_stmtOK)) = true then .brk () else .ret false := fun f =>
  allL (r4_Valid_L1 f) (fun i => by rw [r4_Valid_L1]) fun r i h0 h1 => by
   rw [r4_Valid_L1]
   generalize hb : f.getD i.toNat default = b
   have e := l2 b.Stmts
   simp only [Bool.cond_eq_ite]
   cases hN : r4_IsName b.Name
   ·simp
   by_cases h1 : ((b.Stmts.length : Nat) : Int) < 1
   ·have : ¬ (1 ≤ b.Stmts.length ∧ b.Stmts.length ≤ 32) := by omega
    simp [h1, this]
   by_cases h2 : (32 : Int) < ((b.Stmts.length : Nat) : Int)
   ·have : ¬ (1 ≤ b.Stmts.length ∧ b.Stmts.length ≤ 32) := by omega
    simp [h1, h2, this]
   have h3 : (1 ≤ b.Stmts.length ∧ b.Stmts.length ≤ 32) := by omega
   rw [e]
   simp only [h1, h2, decide_false, h3, decide_true, Bool.not_true, Bool.true_and, and_self, reduceIte, Bool.false_eq_true]
   all_goals (cases b.Stmts.all r4_stmtOK <;> rfl)
 have l0 : r4_Valid_L0 p ((p.Funcs.length : Int) - 0).toNat 0 = if (p.Funcs.all fun f => r4_IsName f.Name && (decide (1 ≤ f.Blocks.length ∧ f.Blocks.length ≤ 16) && f.Blocks.all fun b => r4_IsName b.Name && (decide (1 ≤ b.Stmts.length ∧ b.Stmts.length ≤ 32) && b.Stmts.all r4_stmtOK))) = true then .brk () else .ret false :=
  allL (r4_Valid_L0 p) (fun i => by rw [r4_Valid_L0]) fun r i h0 h1 => by
   rw [r4_Valid_L0]
   generalize hb : p.Funcs.getD i.toNat default = f
   have e := l1 f.Blocks
   simp only [Bool.cond_eq_ite]
   cases hN : r4_IsName f.Name
   ·simp
   by_cases h1 : ((f.Blocks.length : Nat) : Int) < 1
   ·have : ¬ (1 ≤ f.Blocks.length ∧ f.Blocks.length ≤ 16) := by omega
    simp [h1, this]
   by_cases h2 : (16 : Int) < ((f.Blocks.length : Nat) : Int)
   ·have : ¬ (1 ≤ f.Blocks.length ∧ f.Blocks.length ≤ 16) := by omega
    simp [h1, h2, this]
   have h3 : (1 ≤ f.Blocks.length ∧ f.Blocks.length ≤ 16) := by omega
   rw [e]
   simp only [h1, h2, decide_false, h3, decide_true, Bool.not_true, Bool.true_and, and_self, reduceIte, Bool.false_eq_true]
   all_goals (generalize (f.Blocks.all _) = q; cases q <;> rfl)
 rw [r4_Valid]
 simp only [Bool.cond_eq_ite]
 by_cases h1 : ((p.Funcs.length : Nat) : Int) < 1
 ·have : ¬ (1 ≤ p.Funcs.length ∧ p.Funcs.length ≤ 8) := by omega
  simp [h1, this]
 by_cases h2 : (8 : Int) < ((p.Funcs.length : Nat) : Int)
 ·have : ¬ (1 ≤ p.Funcs.length ∧ p.Funcs.length ≤ 8) := by omega
  simp [h1, h2, this]
 have h3 : (1 ≤ p.Funcs.length ∧ p.Funcs.length ≤ 8) := by omega
 rw [l0]
 simp only [h1, h2, decide_false, h3, decide_true, Bool.true_and, reduceIte, Bool.false_eq_true, and_self]
 all_goals (generalize (p.Funcs.all _) = q; cases q <;> rfl)
theorem call_T {p : GProgram} (hv : r4_Valid p = true) (i k j : Nat) : (((((p.Funcs.getD i default).Blocks).getD k default).Stmts).getD j default).Op = 3 → 0 < (((((p.Funcs.getD i default).Blocks).getD k default).Stmts).getD j default).Targets.length := by
 have gd : ∀ {α : Type} [Inhabited α] (l : List α) (i : Nat), i < l.length ∨ l.getD i default = default := fun l i => by
  by_cases hi : i < l.length
  ·exact .inl hi
  ·right; rw [List.getD_eq_getElem?_getD, List.getElem?_eq_none (by omega)]; rfl
 have d0 : (default : GStmt).Op = 3 → 0 < (default : GStmt).Targets.length := fun h => by cases h
 rw [PVal_eq] at hv
 simp only [Bool.and_eq_true, decide_eq_true_eq, List.all_eq_true] at hv
 rcases gd p.Funcs i with hi | hi
 ·rcases gd (p.Funcs.getD i default).Blocks k with hk | hk
  ·rcases gd ((p.Funcs.getD i default).Blocks.getD k default).Stmts j with hj | hj
   ·have hs := ((hv.2 _ (getD_mem (d := default) hi)).2.2 _ (getD_mem (d := default) hk)).2.2 _ (getD_mem (d := default) hj)
    intro h3
    generalize (((p.Funcs.getD i default).Blocks.getD k default).Stmts.getD j default) = s at *
    unfold r4_stmtOK at hs
    rw [h3] at hs
    cases ht : s.Targets with
    | nil => rw [ht] at hs; revert hs; simp
    | cons a l => simp
   ·rw [hj]; exact d0
  ·rw [hk]; simpa [show (default : GBlock).Stmts = [] from rfl] using d0
 ·rw [hi]; simpa [show (default : GFunc).Blocks = [] from rfl, show (default : GBlock).Stmts = [] from rfl] using d0
theorem Next_rg (t : List Int) (k n : Int) (hn : n ≤ 9223372036854775807) : 0 ≤ (tp_Next t k n).1 ∧ ((tp_Next t k n).1 < n ∨ (tp_Next t k n).1 = 0) := by
 unfold tp_Next
 by_cases h1 : n ≤ 1
 ·simp [h1]
 ·by_cases h2 : (t.length : Int) ≤ k
  ·simp [h1, h2]
  ·simp only [decide_eq_false h1, decide_eq_false h2, cond_false]
   have := mod_range (t.getD (k + 1 - 1).toNat 0) n (by omega)
   unfold g_Mod
   exact ⟨this.1, .inl this.2⟩
theorem stmt_Q (t : List Int) (i n : Int) : QS 3 2 (tp_stmt t i n).1 = true := by
 unfold tp_stmt
 dsimp only
 simp only [Bool.cond_eq_ite]
 repeat' split
 all_goals (unfold QS; simp)
 all_goals omega
theorem Program_L2_Q (t : List Int) (n : Int) : ∀ (r : Nat) (i : Int) (b : List GStmt) (k : Int), b.all (QS 3 2) = true → (tp_Program_L2 t n r i b k).2.all (QS 3 2) = true
 | 0, i, b, k, h => by rw [tp_Program_L2]; exact h
 | r + 1, i, b, k, h => by
  rw [tp_Program_L2]
  refine Program_L2_Q t n r _ _ _ ?_
  rw [List.all_append, h, List.all_cons, stmt_Q]; rfl
theorem Program_L2_len (t : List Int) (n : Int) : ∀ (r : Nat) (i : Int) (b : List GStmt) (k : Int), (tp_Program_L2 t n r i b k).2.length = b.length + r
 | 0, i, b, k => by rw [tp_Program_L2]; rfl
 | r + 1, i, b, k => by
  rw [tp_Program_L2]
  rw [Program_L2_len t n r, List.length_append]; simp; omega
theorem Program_L1_Q (t : List Int) (n m : Int) : ∀ (r : Nat) (i : Int) (b : List GBlock) (k : Int), b.all (QB 3 2) = true ∧ b.all QL = true → ((tp_Program_L1 t n m r i b k).2.all (QB 3 2) = true ∧ (tp_Program_L1 t n m r i b k).2.all QL = true) ∧ (tp_Program_L1 t n m r i b k).2.length = b.length + r
 | 0, i, b, k, h => by rw [tp_Program_L1]; exact ⟨h, rfl⟩
 | r + 1, i, b, k, h => by
  rw [tp_Program_L1]
  have h2 := Program_L2_Q t n (((tp_Next t i 4).1 : Int).toNat) (tp_Next t i 4).2 [] (tp_Next t i 4).1 rfl
  have h3 := Program_L2_len t n (((tp_Next t i 4).1 : Int).toNat) (tp_Next t i 4).2 [] (tp_Next t i 4).1
  have hn := Next_rg t i 4 (by omega)
  dsimp only
  generalize tp_Program_L2 t n (((tp_Next t i 4).1 : Int).toNat) (tp_Next t i 4).2 [] (tp_Next t i 4).1 = R at h2 h3
  obtain ⟨o0, o1⟩ := R
  dsimp only at h2 h3 ⊢
  have step : ∀ (i' : Int) (nm : Str) (s : GStmt), QS 3 2 s = true → ((tp_Program_L1 t n m r i' (b ++ [GBlock.mk nm (o1 ++ [s])]) (k + 1)).2.all (QB 3 2) = true ∧ (tp_Program_L1 t n m r i' (b ++ [GBlock.mk nm (o1 ++ [s])]) (k + 1)).2.all QL = true) ∧ (tp_Program_L1 t n m r i' (b ++ [GBlock.mk nm (o1 ++ [s])]) (k + 1)).2.length = b.length + (r + 1) := fun i' nm s hs => by
   obtain ⟨a1, a2⟩ := Program_L1_Q t n m r i' (b ++ [GBlock.mk nm (o1 ++ [s])]) (k + 1) ⟨by
    rw [List.all_append, h.1, List.all_cons]
    unfold QB
    dsimp only
    rw [List.all_append, h2, List.all_cons, hs]; rfl, by
    rw [List.all_append, h.2, List.all_cons]
    unfold QL
    dsimp only
    rw [List.length_append, h3, decide_eq_true (by simp; omega)]; rfl⟩
   exact ⟨a1, by rw [a2]; simp; omega⟩
  simp only [Bool.cond_eq_ite]
  repeat' split
  all_goals exact step _ _ _ (by unfold QS; simp)
theorem Program_L0_Q (t : List Int) (n : Int) : ∀ (r : Nat) (i : Int) (b : List GFunc) (k : Int), (b.all (QF 3 2) = true ∧ ∀ f ∈ b, SpF f) → ((tp_Program_L0 t n r i b k).2.all (QF 3 2) = true ∧ ∀ f ∈ (tp_Program_L0 t n r i b k).2, SpF f) ∧ (tp_Program_L0 t n r i b k).2.length = b.length + r
 | 0, i, b, k, h => by rw [tp_Program_L0]; exact ⟨h, rfl⟩
 | r + 1, i, b, k, h => by
  rw [tp_Program_L0]
  have hn := Next_rg t i 3 (by omega)
  have h2 := Program_L1_Q t n (1 + (tp_Next t i 3).1) ((((1 + (tp_Next t i 3).1) : Int) - 0).toNat) (tp_Next t i 3).2 [] 0 ⟨rfl, rfl⟩
  dsimp only
  generalize tp_Program_L1 t n (1 + (tp_Next t i 3).1) ((((1 + (tp_Next t i 3).1) : Int) - 0).toNat) (tp_Next t i 3).2 [] 0 = R at h2
  obtain ⟨o0, o1⟩ := R
  dsimp only at h2 ⊢
  obtain ⟨a1, a2⟩ := Program_L0_Q t n r o0 (b ++ [GFunc.mk ([(Str.mk [109]), (Str.mk [102]), (Str.mk [103])].getD (k : Int).toNat default) o1]) (k + 1) ⟨by
   rw [List.all_append, h.1, List.all_cons]; unfold QF; dsimp only; rw [h2.1.1]; rfl, fun f hf => by
   rcases List.mem_append.1 hf with h' | h'
   ·exact h.2 f h'
   ·rw [List.mem_singleton] at h'
    subst h'
    have := h2.2
    refine ⟨?_, h2.1.2⟩
    dsimp only
    rw [this]; simp; omega⟩
  exact ⟨a1, by rw [a2]; simp; omega⟩
theorem Program_SpP {t : List Int} {i : Int} {r : GProgram × Int} (h : tp_Program t i = r) : SpP r.1 := by
 subst h
 unfold tp_Program
 have hn := Next_rg t i 3 (by omega)
 have h2 := Program_L0_Q t (1 + (tp_Next t i 3).1) ((((1 + (tp_Next t i 3).1) : Int) - 0).toNat) (tp_Next t i 3).2 [] 0 ⟨rfl, fun f h => by cases h⟩
 dsimp only
 generalize tp_Program_L0 t (1 + (tp_Next t i 3).1) ((((1 + (tp_Next t i 3).1) : Int) - 0).toNat) (tp_Next t i 3).2 [] 0 = R at h2
 obtain ⟨o0, o1⟩ := R
 dsimp only at h2 ⊢
 exact ⟨by show 1 ≤ o1.length ∧ o1.length ≤ 3; rw [h2.2]; simp; omega, h2.1.2, h2.1.1⟩
theorem Program_PSm' {t : List Int} {i : Int} {r : GProgram × Int} (h : tp_Program t i = r) : PSm (GProgram.mk r.1.Funcs) = true := SpP_PSm (Program_SpP h)
theorem letter_eq (c : Int) : lx_letter c = (r4_letter c && !(c == 95)) := by
 by_cases h : c = 95
 ·subst h; decide
 ·have h7 : (c == 95) = false := by simpa using h
  unfold lx_letter r4_letter
  rw [h7]
  generalize decide (97 ≤ c) = a1
  generalize decide (c ≤ 122) = a2
  generalize decide (65 ≤ c) = a3
  generalize decide (c ≤ 90) = a4
  all_goals (cases a1 <;> cases a2 <;> cases a3 <;> cases a4 <;> rfl)
theorem Cont_string (s : List Str) (v : Str) : sc_Contains_string s v = s.any (fun k => k == v) := by
 have := scan' (fun r i => sc_Index_string_L0 s v r i) (fun i => v == (s.getD i.toNat default)) () (fun _ => rfl) (fun _ _ => rfl) ((((s.length : Nat) : Int) - 0).toNat) 0
 unfold sc_Contains_string sc_Index_string
 rw [Bool.eq_iff_iff, List.any_eq_true]
 rcases this with ⟨j, e, j1, j2, j3⟩ | ⟨e, h⟩
 ·rw [e]; exact ⟨fun _ => ⟨s.getD j.toNat default, getD_mem (by omega), by rw [beq_iff_eq] at j3 ⊢; exact j3.symm⟩, fun _ => by simpa using j1⟩
 ·rw [e]
  refine ⟨fun h => by simp at h, ?_⟩
  rintro ⟨x, hx, hfx⟩
  obtain ⟨j, j1, j2, j3⟩ := (mem_getDg (d := default)).1 hx
  have := h j j1 (by omega)
  rw [j3] at this; rw [beq_iff_eq] at hfx; rw [hfx] at this; simp at this
theorem part_eq (c : Int) : lx_part c = (r4_letter c || r4_digit c) := by
 unfold lx_part lx_letter lx_digit r4_letter r4_digit
 dsimp only
 generalize decide (97 ≤ c) = a1
 generalize decide (c ≤ 122) = a2
 generalize decide (65 ≤ c) = a3
 generalize decide (c ≤ 90) = a4
 generalize decide (48 ≤ c) = a5
 generalize decide (c ≤ 57) = a6
 generalize (c == 95) = a7
 all_goals (cases a1 <;> cases a2 <;> cases a3 <;> cases a4 <;> cases a5 <;> cases a6 <;> cases a7 <;> rfl)
theorem IsName4 (s : Str) : r4_IsName s = (decide (1 ≤ s.b.length ∧ s.b.length ≤ 16) && ((r4_letter ((s.b.getD 0 0).toNat : Int) && !(((s.b.getD 0 0).toNat : Int) == 95)) && ((s.b.all fun c => lx_part (c.toNat : Int)) && !(kwL.any fun k => k == s)))) := by
 have l0 : r4_IsName_L0 s ((s.b.length : Int) - 0).toNat 0 = if (s.b.all fun c => lx_part (c.toNat : Int)) = true then .brk () else .ret false :=
  allL (r4_IsName_L0 s) (fun i => by rw [r4_IsName_L0]) fun r i h0 h1 => by
   rw [r4_IsName_L0, show (default : UInt8) = 0 from rfl, part_eq]
   dsimp only
   all_goals (cases r4_letter ((s.b.getD (i : Int).toNat 0).toNat : Int) <;> cases r4_digit ((s.b.getD (i : Int).toNat 0).toNat : Int) <;> rfl)
 have l1 : r4_IsName_L1 s ((r4_Keywords.length : Int) - 0).toNat 0 = if (r4_Keywords.all fun k => !(k == s)) = true then .brk () else .ret false :=
  allL (r4_IsName_L1 s) (fun i => by rw [r4_IsName_L1]) fun r i h0 h1 => by
   rw [r4_IsName_L1]
   all_goals (cases r4_Keywords.getD (i : Int).toNat default == s <;> rfl)
 have e : (r4_Keywords.all fun k => !(k == s)) = !(kwL.any fun k => k == s) := by
  rw [List.any_eq_not_all_not, Bool.not_not]; rfl
 unfold r4_IsName
 dsimp only
 rw [l0, l1, e, show (0 : Int).toNat = 0 from rfl]
 by_cases h0 : ((s.b.length : Nat) : Int) = 0
 ·have : ¬ (1 ≤ s.b.length ∧ s.b.length ≤ 16) := by omega
  simp only [h0, this, decide_false, Bool.false_and]; rfl
 by_cases h1 : 16 < ((s.b.length : Nat) : Int)
 ·have : ¬ (1 ≤ s.b.length ∧ s.b.length ≤ 16) := by omega
  simp only [h1, this, decide_false, decide_true, Bool.false_and, cond_true]
  all_goals (cases ((s.b.length : Nat) : Int) == 0 <;> rfl)
 have h2 : (1 ≤ s.b.length ∧ s.b.length ≤ 16) := by omega
 have h3 : (((s.b.length : Nat) : Int) == 0) = false := by simpa using h0
 simp only [h3, h1, h2, decide_true, decide_false, cond_false, Bool.true_and, and_self]
 all_goals (cases r4_letter ((s.b.getD 0 0).toNat : Int) <;> cases (((s.b.getD 0 0).toNat : Int) == 95) <;> cases (s.b.all fun c => lx_part (c.toNat : Int)) <;> cases (kwL.any fun k => k == s) <;> rfl)
theorem wordEnd_all (s : Str) : (lx_wordEnd s 0 == ((s.b.length : Nat) : Int)) = s.b.all (fun c => lx_part (c.toNat : Int)) := by
 have key : ∀ (suf pre : List UInt8), s.b = pre ++ suf → (lx_wordEnd_L0 s suf.length (pre.length : Int) == ((s.b.length : Nat) : Int)) = suf.all (fun c => lx_part (c.toNat : Int)) := fun suf => by
  induction suf with
  | nil => intro pre h; rw [List.length_nil, lx_wordEnd_L0, h, List.append_nil, List.all_nil]; simp
  | cons a suf ih =>
   intro pre h
   have hg : s.b.getD ((pre.length : Int)).toNat 0 = a := by rw [h]; simp
   have hlen : s.b.length = pre.length + (suf.length + 1) := by rw [h]; simp
   rw [List.length_cons, lx_wordEnd_L0, hg, List.all_cons]
   try dsimp only
   cases hp : lx_part (a.toNat : Int)
   ·rw [cond_false, Bool.false_and, hlen]; simp; omega
   ·rw [cond_true, Bool.true_and]
    have := ih (pre ++ [a]) (by rw [h]; simp)
    rw [List.length_append, List.length_cons, List.length_nil, Int.natCast_add] at this
    exact this
 have := key s.b [] rfl
 unfold lx_wordEnd
 rw [show (((s.b.length : Nat) : Int) - 0).toNat = s.b.length by omega]
 exact this
theorem IsName_eq (s : Str) : lx_IsName s = r4_IsName s := by
 rw [IsName4]
 unfold lx_IsName
 dsimp only
 rw [wordEnd_all, letter_eq, Cont_string, show (0 : Int).toNat = 0 from rfl]
 by_cases h0 : s = Str.mk []
 ·subst h0; rfl
 have hs : (s == Str.mk []) = false := by simpa using h0
 have hp := str_pos hs
 rw [hs, cond_false]
 by_cases h1 : 16 < ((s.b.length : Nat) : Int)
 ·have : ¬ (1 ≤ s.b.length ∧ s.b.length ≤ 16) := by omega
  simp only [h1, this, decide_false, decide_true, Bool.false_and, cond_true]
 have h2 : (1 ≤ s.b.length ∧ s.b.length ≤ 16) := by omega
 simp only [h1, h2, decide_true, decide_false, cond_false, Bool.true_and, and_self]
 all_goals (cases r4_letter ((s.b.getD 0 0).toNat : Int) <;> cases (((s.b.getD 0 0).toNat : Int) == 95) <;> cases (s.b.all fun c => lx_part (c.toNat : Int)) <;> cases (kwL.any fun k => k == s) <;> rfl)
theorem IsName_fun : lx_IsName = r4_IsName := funext IsName_eq
theorem CF_Stmt (s : List GStmt) (fp : GStmt → Bool) : sc_ContainsFunc_Stmt s fp = s.any fp := by
 have := scan' (fun r i => sc_IndexFunc_Stmt_L0 s fp r i) (fun i => fp (s.getD i.toNat default)) () (fun _ => rfl) (fun _ _ => rfl) ((((s.length : Nat) : Int) - 0).toNat) 0
 unfold sc_ContainsFunc_Stmt sc_IndexFunc_Stmt
 rw [Bool.eq_iff_iff, List.any_eq_true]
 rcases this with ⟨j, e, j1, j2, j3⟩ | ⟨e, h⟩
 ·rw [e]; exact ⟨fun _ => ⟨_, getD_mem (by omega), j3⟩, fun _ => by simpa using j1⟩
 ·rw [e]
  refine ⟨fun h => by simp at h, ?_⟩
  rintro ⟨x, hx, hfx⟩
  obtain ⟨j, j1, j2, j3⟩ := (mem_getDg (d := default)).1 hx
  have := h j j1 (by omega)
  rw [j3] at this; rw [hfx] at this; cases this
theorem CF_string (s : List Str) (fp : Str → Bool) : sc_ContainsFunc_string s fp = s.any fp := by
 have := scan' (fun r i => sc_IndexFunc_string_L0 s fp r i) (fun i => fp (s.getD i.toNat default)) () (fun _ => rfl) (fun _ _ => rfl) ((((s.length : Nat) : Int) - 0).toNat) 0
 unfold sc_ContainsFunc_string sc_IndexFunc_string
 rw [Bool.eq_iff_iff, List.any_eq_true]
 rcases this with ⟨j, e, j1, j2, j3⟩ | ⟨e, h⟩
 ·rw [e]; exact ⟨fun _ => ⟨_, getD_mem (by omega), j3⟩, fun _ => by simpa using j1⟩
 ·rw [e]
  refine ⟨fun h => by simp at h, ?_⟩
  rintro ⟨x, hx, hfx⟩
  obtain ⟨j, j1, j2, j3⟩ := (mem_getDg (d := default)).1 hx
  have := h j j1 (by omega)
  rw [j3] at this; rw [hfx] at this; cases this
theorem words_eq (l : List Str) : (!(sc_ContainsFunc_string l (fun x => sx_valid_1 x))) = l.all r4_IsName := by
 rw [CF_string, List.all_eq_not_any_not]
 congr 2
 funext x
 unfold sx_valid_1
 dsimp only
 rw [IsName_eq]
theorem valid_b {s : GStmt} (h : sx_valid s = true) : s.Uses.length ≤ 4 ∧ s.Targets.length ≤ 2 := by
  unfold sx_valid at h
  dsimp only at h
  generalize (sc_ContainsFunc_string (sc_Clone_string s.Uses ++ s.Targets ++ [s.Def]) fun x => sx_valid_1 x) = A at h
  generalize (sc_ContainsFunc_string (sc_Clone_string s.Uses ++ s.Targets) fun x => sx_valid_1 x) = B at h
  generalize s.Uses.length = U at *
  generalize s.Targets.length = V at *
  have kf : ∀ (c x : Bool), (bif c then x else false) = (c && x) := fun c x => by cases c <;> rfl
  simp only [kf] at h
  have kt : ∀ (c x y : Bool), (bif c then x else y) = true → (c = true ∧ x = true) ∨ (c = false ∧ y = true) := fun c x y h => by
    cases c
    · exact .inr ⟨rfl, h⟩
    · exact .inl ⟨rfl, h⟩
  have kn : ∀ {P : Prop} {c x y : Bool}, (bif c then x else y) = true → (x = true → P) → (y = true → P) → P := fun {P c x y} h k1 k2 => by
    cases c
    · exact k2 h
    · exact k1 h
  iterate 9
    first
    | (refine kn h (fun h => ?_) (fun h => ?_)
       · simp only [Bool.and_eq_true, beq_iff_eq, decide_eq_true_eq] at h; omega)
    | skip
  all_goals (simp only [Bool.and_eq_true, beq_iff_eq, decide_eq_true_eq] at h; omega)
theorem valid_ok (s : GStmt) : sx_valid s = r4_stmtOK s := by
 obtain ⟨o, d, us, ts⟩ := s
 unfold sx_valid r4_stmtOK sc_Clone_string
 dsimp only
 rw [nmOK_eq, nmOK_eq]
 simp only [words_eq, List.all_append, List.all_cons, List.all_nil, Bool.and_true]
 generalize us.all r4_IsName = U
 generalize ts.all r4_IsName = T
 generalize r4_IsName d = D
 generalize (d == Str.mk []) = E
 generalize us.length = u
 generalize ts.length = t
 have kf : ∀ (c x : Bool), (bif c then x else false) = (c && x) := fun c x => by cases c <;> rfl
 have kn : ∀ (c x : Bool), (bif !c then false else x) = (c && x) := fun c x => by cases c <;> rfl
 simp only [kf, kn]
 have fin : ∀ {a b : Bool}, (a = true ↔ b = true) → a = b := fun h => Bool.eq_iff_iff.2 h
 by_cases h1 : o = 1
 ·subst h1
  cases U <;> cases T <;> cases D <;> refine fin ?_ <;> simp <;> omega
 by_cases h2 : o = 2
 ·subst h2
  cases U <;> cases T <;> cases E <;> refine fin ?_ <;> simp <;> omega
 by_cases h3 : o = 3
 ·subst h3
  cases U <;> cases T <;> cases E <;> refine fin ?_ <;> simp <;> omega
 by_cases h4 : o = 4
 ·subst h4
  cases U <;> cases T <;> cases D <;> refine fin ?_ <;> simp <;> omega
 by_cases h5 : o = 5
 ·subst h5
  cases U <;> cases T <;> cases E <;> refine fin ?_ <;> simp <;> omega
 by_cases h6 : o = 6
 ·subst h6
  cases U <;> cases T <;> cases D <;> refine fin ?_ <;> simp <;> omega
 by_cases h7 : o = 7
 ·subst h7
  cases U <;> cases T <;> cases E <;> refine fin ?_ <;> simp <;> omega
 by_cases h8 : o = 8
 ·subst h8
  cases U <;> cases T <;> cases E <;> refine fin ?_ <;> simp <;> omega
 by_cases h9 : o = 9
 ·subst h9
  cases U <;> cases T <;> cases E <;> refine fin ?_ <;> simp <;> omega
 have f : ∀ {k : Int}, ¬ o = k → (o == k) = false := fun h => by simpa using h
 simp only [f h1, f h2, f h3, f h4, f h5, f h6, f h7, f h8, f h9, cond_false, Bool.false_and, Bool.and_false]
theorem SVal_eq (p : GProgram) : sx_Valid p = (decide (1 ≤ p.Funcs.length ∧ p.Funcs.length ≤ 8) && p.Funcs.all fun f => lx_IsName f.Name && (decide (1 ≤ f.Blocks.length ∧ f.Blocks.length ≤ 16) && f.Blocks.all fun b => lx_IsName b.Name && (decide (1 ≤ b.Stmts.length ∧ b.Stmts.length ≤ 32) && b.Stmts.all sx_valid))) := by
 have l2 : ∀ (b : List GStmt), sc_ContainsFunc_Stmt b (fun x => sx_Valid_1 x) = !(b.all sx_valid) := fun b => by
  rw [CF_Stmt, List.all_eq_not_any_not, Bool.not_not]
  congr 1
 have l1 : ∀ (f : List GBlock), sx_Valid_L1 f ((f.length : Int) - 0).toNat 0 = if (f.all fun b => lx_IsName b.Name && (decide (1 ≤ b.Stmts.length ∧ b.Stmts.length ≤ 32) && b.Stmts.all sx_valid)) = true then .brk () else .ret false := fun f =>
  allL (sx_Valid_L1 f) (fun i => by rw [sx_Valid_L1]) fun r i h0 h1 => by
   rw [sx_Valid_L1]
   generalize hb : f.getD i.toNat default = b
   have e := l2 b.Stmts
   simp only [Bool.cond_eq_ite]
   cases hN : lx_IsName b.Name
   ·simp
   by_cases h1 : ((b.Stmts.length : Nat) : Int) < 1
   ·have : ¬ (1 ≤ b.Stmts.length ∧ b.Stmts.length ≤ 32) := by omega
    simp [h1, this]
   by_cases h2 : (32 : Int) < ((b.Stmts.length : Nat) : Int)
   ·have : ¬ (1 ≤ b.Stmts.length ∧ b.Stmts.length ≤ 32) := by omega
    simp [h1, h2, this]
   have h3 : (1 ≤ b.Stmts.length ∧ b.Stmts.length ≤ 32) := by omega
   rw [e]
   simp only [h1, h2, decide_false, h3, decide_true, Bool.not_true, Bool.true_and, and_self, reduceIte, Bool.false_eq_true]
   all_goals (cases b.Stmts.all sx_valid <;> rfl)
 have l0 : sx_Valid_L0 p ((p.Funcs.length : Int) - 0).toNat 0 = if (p.Funcs.all fun f => lx_IsName f.Name && (decide (1 ≤ f.Blocks.length ∧ f.Blocks.length ≤ 16) && f.Blocks.all fun b => lx_IsName b.Name && (decide (1 ≤ b.Stmts.length ∧ b.Stmts.length ≤ 32) && b.Stmts.all sx_valid))) = true then .brk () else .ret false :=
  allL (sx_Valid_L0 p) (fun i => by rw [sx_Valid_L0]) fun r i h0 h1 => by
   rw [sx_Valid_L0]
   generalize hb : p.Funcs.getD i.toNat default = f
   have e := l1 f.Blocks
   simp only [Bool.cond_eq_ite]
   cases hN : lx_IsName f.Name
   ·simp
   by_cases h1 : ((f.Blocks.length : Nat) : Int) < 1
   ·have : ¬ (1 ≤ f.Blocks.length ∧ f.Blocks.length ≤ 16) := by omega
    simp [h1, this]
   by_cases h2 : (16 : Int) < ((f.Blocks.length : Nat) : Int)
   ·have : ¬ (1 ≤ f.Blocks.length ∧ f.Blocks.length ≤ 16) := by omega
    simp [h1, h2, this]
   have h3 : (1 ≤ f.Blocks.length ∧ f.Blocks.length ≤ 16) := by omega
   rw [e]
   simp only [h1, h2, decide_false, h3, decide_true, Bool.not_true, Bool.true_and, and_self, reduceIte, Bool.false_eq_true]
   all_goals (generalize (f.Blocks.all _) = q; cases q <;> rfl)
 rw [sx_Valid]
 by_cases h1 : ((p.Funcs.length : Nat) : Int) < 1
 ·have : ¬ (1 ≤ p.Funcs.length ∧ p.Funcs.length ≤ 8) := by omega
  simp [h1, this]
 by_cases h2 : (8 : Int) < ((p.Funcs.length : Nat) : Int)
 ·have : ¬ (1 ≤ p.Funcs.length ∧ p.Funcs.length ≤ 8) := by omega
  simp [h1, h2, this]
 have h3 : (1 ≤ p.Funcs.length ∧ p.Funcs.length ≤ 8) := by omega
 rw [l0]
 simp only [h1, h2, h3, decide_false, decide_true, cond_false, Bool.true_and, and_self]
 all_goals (generalize (p.Funcs.all _) = q; cases q <;> rfl)
theorem SVal_b {p : GProgram} (h : sx_Valid p = true) : p.Funcs.length ≤ 8 ∧ ∀ i : Nat, (p.Funcs.getD i default).Blocks.length ≤ 16 ∧ ∀ k : Nat, ((p.Funcs.getD i default).Blocks.getD k default).Stmts.length ≤ 32 ∧ ∀ j : Nat, (((p.Funcs.getD i default).Blocks.getD k default).Stmts.getD j default).Uses.length ≤ 4 ∧ (((p.Funcs.getD i default).Blocks.getD k default).Stmts.getD j default).Targets.length ≤ 2 := by
 rw [SVal_eq] at h
 simp only [Bool.and_eq_true, decide_eq_true_eq, List.all_eq_true] at h
 have gm : ∀ {α : Type} [Inhabited α] (l : List α) (i : Nat), l.getD i default ∈ l ∨ l.getD i default = default := fun l i => by
  by_cases hi : i < l.length
  ·left; rw [List.getD_eq_getElem?_getD, List.getElem?_eq_getElem hi]; exact List.getElem_mem hi
  ·right; rw [List.getD_eq_getElem?_getD, List.getElem?_eq_none (by omega)]; rfl
 refine ⟨h.1.2, fun i => ?_⟩
 rcases gm p.Funcs i with hf | hf
 ·have hF := (h.2 _ hf).2
  refine ⟨hF.1.2, fun k => ?_⟩
  rcases gm (p.Funcs.getD i default).Blocks k with hb | hb
  ·have hB := (hF.2 _ hb).2
   refine ⟨hB.1.2, fun j => ?_⟩
   rcases gm ((p.Funcs.getD i default).Blocks.getD k default).Stmts j with hs | hs
   ·exact valid_b (hB.2 _ hs)
   ·rw [hs]; decide
  ·rw [hb]
   exact ⟨by decide, fun j => by rw [show (default : GBlock).Stmts = [] from rfl]; simp; decide⟩
 ·rw [hf]
  refine ⟨by decide, fun k => ?_⟩
  rw [show (default : GFunc).Blocks = [] from rfl]
  exact ⟨by simp; decide, fun j => by simp [show (default : GBlock).Stmts = [] from rfl]; decide⟩
theorem Valid_eq (p : GProgram) : sx_Valid p = r4_Valid p := by
 rw [SVal_eq, PVal_eq, IsName_fun, show sx_valid = r4_stmtOK from funext valid_ok]
theorem Check_b {p : GProgram} {r : GNode × Int} (h : vd_Check p = r) (h2 : (r.2 != 0) = false) : sx_Valid p = true := by
 subst h
 cases e : sx_Valid p
 ·unfold vd_Check at h2
  rw [e] at h2
  cases h2
 ·rfl
theorem CheckV {p : GProgram} {r : GNode × Int} (h : vd_Check p = r) (h2 : (r.2 != 0) = false) : r4_Valid p = true := by
 rw [← Valid_eq]; exact Check_b h h2
theorem list2 (i k : Int) (S : List GStmt) : ∀ (r : Nat) (o : List GNode) (v : Int), 0 ≤ v → v + (r : Int) = (S.length : Int) → nd_List_L2 i k S r o v = o ++ nS i k v (S.drop v.toNat)
 | 0, o, v, h0, h1 => by rw [nd_List_L2, List.drop_eq_nil_of_le (by omega), nS, List.append_nil]
 | r + 1, o, v, h0, h1 => by
  rw [nd_List_L2, list2 i k S r _ _ (by omega) (by omega), list2 i k S r _ _ (by omega) (by omega), getD_dropz h0 (by omega), nS]
  cases (S.getD v.toNat default).Op == 3 <;> simp
theorem list1 (i : Int) (S : List GBlock) : ∀ (r : Nat) (o : List GNode) (v : Int), 0 ≤ v → v + (r : Int) = (S.length : Int) → nd_List_L1 i S r o v = o ++ nB i v (S.drop v.toNat)
 | 0, o, v, h0, h1 => by rw [nd_List_L1, List.drop_eq_nil_of_le (by omega), nB, List.append_nil]
 | r + 1, o, v, h0, h1 => by
  rw [nd_List_L1, list2 i v _ _ _ 0 (by omega) (by omega)]
  try dsimp only
  rw [list1 i S r _ _ (by omega) (by omega), getD_dropz h0 (by omega), nB]
  simp
theorem list0 (p : GProgram) : ∀ (r : Nat) (o : List GNode) (v : Int), 0 ≤ v → v + (r : Int) = (p.Funcs.length : Int) → nd_List_L0 p r o v = o ++ nF v (p.Funcs.drop v.toNat)
 | 0, o, v, h0, h1 => by rw [nd_List_L0, List.drop_eq_nil_of_le (by omega), nF, List.append_nil]
 | r + 1, o, v, h0, h1 => by
  rw [nd_List_L0, list1 v _ _ _ 0 (by omega) (by omega)]
  try dsimp only
  rw [list0 p r _ _ (by omega) (by omega), getD_dropz h0 (by omega), nF]
  simp
theorem List_eq (p : GProgram) : nd_List p = bif (vd_Check p).2 != 0 then [] else nF 0 p.Funcs := by
 unfold nd_List
 dsimp only
 rw [list0 p _ [] 0 (by omega) (by omega)]
 rfl
theorem List_in {p : GProgram} {n : GNode} (h : n ∈ nd_List p) : NIn p n := by
 rw [List_eq] at h
 cases e : (vd_Check p).2 != 0
 ·have hv := SVal_b (Check_b rfl e)
  rw [e, cond_false] at h
  obtain ⟨a1, a2⟩ := nF_in p.Funcs 0 n h
  rw [show (n.Func - 0) = n.Func by omega] at a2
  refine ⟨by omega, fun h1 h2 => ?_⟩
  obtain ⟨_, b1, b2, b3⟩ := a2 h1 h2
  have := ((hv.2 n.Func.toNat).2 n.Block.toNat).1
  exact ⟨b1, ⟨b2, b3⟩, by omega⟩
 ·rw [e] at h; cases h
theorem List_inN {p : GProgram} {l : List GNode} (h : nd_List p = l) {i : Int} (hi : 0 ≤ i ∧ i < (l.length : Int)) : NIn p (l.getD i.toNat default) := by
 refine List_in ?_
 rw [h]; exact getD_mem (by omega)
theorem ListV_pos {p : GProgram} {l : List GNode} {r : GNode × Int} (h : nd_List p = l) (hc : vd_Check p = r) (h2 : (r.2 != 0) = false) : 0 < l.length := by
 have hv := CheckV hc h2
 rw [PVal_eq] at hv
 simp only [Bool.and_eq_true, decide_eq_true_eq] at hv
 rw [← h, List_eq, hc, h2, cond_false]
 cases hf : p.Funcs with
 | nil => rw [hf] at hv; simp at hv
 | cons f F => simp [nF]
theorem at_f {b : Gbuilder} (h : BOk b) (k f bl st : Int) : 0 ≤ bd_at b k f bl st ∧ bd_at b k f bl st < (b.g.Succ.length : Int) := h.num _
theorem at_r {b : Gbuilder} {k f bl st r : Int} (e : bd_at b k f bl st = r) (h : BOk b) : 0 ≤ r ∧ r < (b.g.Succ.length : Int) := e ▸ at_f h k f bl st
theorem Contains_iff (l : List Int) (n : Int) : sc_Contains_int l n = true ↔ n ∈ l := by
 have := scan' (fun r i => sc_Index_int_L0 l n r i) (fun i => n == l.getD i.toNat 0) () (fun _ => rfl) (fun _ _ => rfl) ((((l.length : Nat) : Int) - 0).toNat) 0
 unfold sc_Contains_int sc_Index_int
 rw [mem_getD]
 rcases this with ⟨j, e, j1, j2, j3⟩ | ⟨e, h⟩
 ·rw [e]
  exact ⟨fun _ => ⟨j, j1, by omega, (eq_of_beq j3).symm⟩, fun _ => by simpa using j1⟩
 ·rw [e]
  refine ⟨fun h => by simp at h, ?_⟩
  rintro ⟨j, j1, j2, j3⟩
  have := h j j1 (by omega)
  simp only [j3] at this; simp at this
theorem edge_ok {b : Gbuilder} {f t : Int} (h : BOk b) (hf : 0 ≤ f ∧ f < (b.g.Succ.length : Int)) (ht : 0 ≤ t ∧ t < (b.g.Succ.length : Int)) :
  BOk (bd_edge b f t) ∧ (bd_edge b f t).g.Nodes = b.g.Nodes ∧ (bd_edge b f t).number = b.number ∧ (bd_edge b f t).g.Succ.length = b.g.Succ.length ∧
  ∀ i k, 0 ≤ i → i < (b.g.Succ.length : Int) → (k ∈ (bd_edge b f t).g.Succ.getD i.toNat [] ↔ k ∈ b.g.Succ.getD i.toNat [] ∨ (i = f ∧ k = t)) := by
 unfold bd_edge
 dsimp only
 cases hc : sc_Contains_int (b.g.Succ.getD f.toNat []) t
 ·rw [cond_false]
  have hn : t ∉ b.g.Succ.getD f.toNat [] := fun hm => by rw [(Contains_iff _ _).2 hm] at hc; cases hc
  have hn2 : f ∉ b.g.Pred.getD t.toNat [] := fun hm => hn ((h.mi f t hf.1 hf.2 ht.1 ht.2).2 hm)
  have hps := h.ps
  have gs : ∀ i, 0 ≤ i → (b.g.Succ.set f.toNat (b.g.Succ.getD f.toNat [] ++ [t])).getD i.toNat [] = if i = f then b.g.Succ.getD f.toNat [] ++ [t] else b.g.Succ.getD i.toNat [] := fun i hi => getD_set' hf hi
  have gp' : ∀ i, 0 ≤ i → (b.g.Pred.set t.toNat (b.g.Pred.getD t.toNat [] ++ [f])).getD i.toNat [] = if i = t then b.g.Pred.getD t.toNat [] ++ [f] else b.g.Pred.getD i.toNat [] := fun i hi => getD_set' (by omega) hi
  refine ⟨⟨by simp [hps], by simp; exact h.n0, by simp; exact h.nb, fun l hl => ?_, fun l hl => ?_, fun i k h1 h2 h3 h4 => ?_, fun k => by simp only [List.length_set]; exact h.num k⟩, rfl, rfl, by simp, fun i k h1 h2 => ?_⟩
  ·simp only [List.length_set]
   rcases List.mem_or_eq_of_mem_set hl with hl | rfl
   ·exact h.su l hl
   ·exact EdL_add (h.su _ (getD_mem' hf)) ht hn
  ·simp only [List.length_set]
   rcases List.mem_or_eq_of_mem_set hl with hl | rfl
   ·exact h.pr l hl
   ·exact EdL_add (h.pr _ (getD_mem' (by omega))) hf hn2
  ·simp only [List.length_set] at h2 h4
   show k ∈ (b.g.Succ.set f.toNat (b.g.Succ.getD f.toNat [] ++ [t])).getD i.toNat [] ↔ i ∈ (b.g.Pred.set t.toNat (b.g.Pred.getD t.toNat [] ++ [f])).getD k.toNat []
   rw [gs i h1, gp' k h3]
   have hm := h.mi i k h1 h2 h3 h4
   by_cases e1 : i = f
   ·rw [if_pos e1, List.mem_append, List.mem_singleton]
    by_cases e2 : k = t
    ·rw [if_pos e2, List.mem_append, List.mem_singleton]; simp [e1, e2]
    ·rw [if_neg e2]; subst e1; exact ⟨fun h => h.elim hm.1 (fun e => absurd e e2), fun h => .inl (hm.2 h)⟩
   ·rw [if_neg e1]
    by_cases e2 : k = t
    ·rw [if_pos e2, List.mem_append, List.mem_singleton]; subst e2; exact ⟨fun h => .inl (hm.1 h), fun h => h.elim hm.2 (fun e => absurd e e1)⟩
    ·rw [if_neg e2]; exact hm
  ·show k ∈ (b.g.Succ.set f.toNat (b.g.Succ.getD f.toNat [] ++ [t])).getD i.toNat [] ↔ _
   rw [gs i h1]
   by_cases e1 : i = f
   ·rw [if_pos e1, List.mem_append, List.mem_singleton, e1]; simp
   ·rw [if_neg e1]; simp [e1]
 ·rw [cond_true]
  refine ⟨h, rfl, rfl, rfl, fun i k h1 h2 => ⟨.inl, fun hk => ?_⟩⟩
  rcases hk with hk | ⟨rfl, rfl⟩
  ·exact hk
  ·exact (Contains_iff _ _).1 hc
theorem edge_f {b r : Gbuilder} {f t : Int} (e : bd_edge b f t = r) (h : BOk b) (hf : 0 ≤ f ∧ f < (b.g.Succ.length : Int)) (ht : 0 ≤ t ∧ t < (b.g.Succ.length : Int)) : BOk r ∧ r.g.Succ.length = b.g.Succ.length := by
 have := edge_ok h hf ht; rw [e] at this; exact ⟨this.1, this.2.2.2.1⟩
theorem first_f {b : Gbuilder} {p : GProgram} {f : Int} {nm : Str} {r : Int} (e : bd_first b p f nm = r) (h : BOk b) : 0 ≤ r ∧ r < (b.g.Succ.length : Int) := by
 subst e; unfold bd_first; dsimp only; exact at_f h _ _ _ _
theorem Len_ok {x : BitVec 64} (h : x.toNat ≤ 65535) : 0 ≤ bits_Len x ∧ bits_Len x ≤ 16 ∧ (x.toNat = 0 ∨ 2 ^ (bits_Len x).toNat ≤ 2 * x.toNat) := by
 unfold bits_Len bits_Len64
 dsimp only
 by_cases c : (256 : Int) ≤ (x.toNat : Int)
 ·rw [decide_eq_true c, cond_true]
  have e8 : (((8#64).toNat : Int)).toNat = 8 := by decide
  rw [e8]
  have e : (x >>> 8).toNat = x.toNat / 256 := by rw [BitVec.toNat_ushiftRight, Nat.shiftRight_eq_div_pow]
  have ek : (((x >>> 8).toNat : Int)).toNat = x.toNat / 256 := by rw [e]; omega
  rw [ek]
  obtain ⟨t1, t2⟩ := tab_at (k := x.toNat / 256) (by omega)
  refine ⟨by omega, by omega, .inr ?_⟩
  rcases t1 with t1 | t1
  ·omega
  ·rw [show (0 + 8 + (((tab0.b.getD (x.toNat / 256) 0).toNat : Nat) : Int)).toNat = 8 + (tab0.b.getD (x.toNat / 256) 0).toNat by omega, Nat.pow_add]
   omega
 ·rw [decide_eq_false c, cond_false]
  have ek : ((x.toNat : Int)).toNat = x.toNat := by omega
  rw [ek]
  obtain ⟨t1, t2⟩ := tab_at (k := x.toNat) (by omega)
  refine ⟨by omega, by omega, ?_⟩
  rw [show (0 + (((tab0.b.getD x.toNat 0).toNat : Nat) : Int)).toNat = (tab0.b.getD x.toNat 0).toNat by omega]
  exact t1
theorem Len_f {x : BitVec 64} {r : Int} (h : bits_Len x = r) (hx : x.toNat ≤ 65535) : 0 ≤ r ∧ r ≤ 16 := by
 have := Len_ok hx; rw [h] at this; omega
theorem Less_eq' (x y : Int) : cmp_Less_int x y = decide (x < y) := by unfold cmp_Less_int cmp_isNaN_int; simp
theorem ins1 {a e : Int} (h0 : 0 ≤ a) : ∀ (r : Nat) (d : List Int) (j : Int), (r : Int) = j - a → e ≤ (d.length : Int) → Hole 0 idk d a j e →
  PI 0 d (sc_insertionSortOrdered_int_L1 r d j) a e ∧ Srt 0 idk (sc_insertionSortOrdered_int_L1 r d j) a e
 | 0, d, j, hr, he, h => by
  rw [sc_insertionSortOrdered_int_L1]
  exact ⟨PI.refl _ _ _ _, h.done 0 idk (.inl (by omega))⟩
 | r + 1, d, j, hr, he, h => by
  rw [sc_insertionSortOrdered_int_L1]
  have hrg := h.rg
  simp only [Less_eq']
  by_cases hs : d.getD j.toNat 0 < d.getD (j - 1).toNat 0
  ·simp only [decide_eq_true hs, cond_true]
   have h2 := h.step 0 idk h0 he (by omega) hs
   have h1 := PI.swp 0 (d := d) (a := a) (b := e) (i := j) (j := j - 1) h0 he (by omega) (by omega)
   obtain ⟨k1, k2⟩ := ins1 h0 r (swp 0 d j (j - 1)) (j - 1) (by omega) (by rw [swp_len]; exact he) h2
   exact ⟨h1.trans 0 k1, k2⟩
  ·simp only [decide_eq_false hs, cond_false]
   exact ⟨PI.refl _ _ _ _, h.done 0 idk (.inr (by show d.getD (j - 1).toNat 0 ≤ d.getD j.toNat 0; omega))⟩
theorem ins0 {a b : Int} (h0 : 0 ≤ a) : ∀ (r : Nat) (d : List Int) (i : Int), (r : Int) = b - i → a < i → b ≤ (d.length : Int) → Srt 0 idk d a i →
  PI 0 d (sc_insertionSortOrdered_int_L0 a r d i) a b ∧ Srt 0 idk (sc_insertionSortOrdered_int_L0 a r d i) a b
 | 0, d, i, hr, hi, hb, h => by
  rw [sc_insertionSortOrdered_int_L0]
  have : b = i := by omega
  subst this
  exact ⟨PI.refl _ _ _ _, h⟩
 | r + 1, d, i, hr, hi, hb, h => by
  rw [sc_insertionSortOrdered_int_L0]
  try dsimp only
  obtain ⟨k1, k2⟩ := ins1 h0 (i - a).toNat d i (by omega) (e := i + 1) (by omega) (Hole.init 0 idk (by omega) h)
  obtain ⟨m1, m2⟩ := ins0 (b := b) h0 r _ (i + 1) (by omega) (by omega) (by rw [k1.len]; exact hb) k2
  exact ⟨(k1.mono 0 h0 (Int.le_refl _) (by omega)).trans 0 m1, m2⟩
theorem ins_ok {d : List Int} {a b : Int} (h0 : 0 ≤ a) (hab : a ≤ b) (hb : b ≤ (d.length : Int)) : PI 0 d (sc_insertionSortOrdered_int d a b) a b ∧ Srt 0 idk (sc_insertionSortOrdered_int d a b) a b := by
 unfold sc_insertionSortOrdered_int
 dsimp only
 by_cases h : a < b
 ·exact ins0 h0 _ d (a + 1) (by omega) (by omega) hb (fun i j h1 h2 h3 => by
   have : i = j := by omega
   subst this; exact Int.le_refl _)
 ·have e : (b - (a + 1)).toNat = 0 := by omega
  rw [e, sc_insertionSortOrdered_int_L0]
  exact ⟨PI.refl _ _ _ _, fun i j h1 h2 h3 => by omega⟩
theorem sift0 {hi f lo : Int} (h0 : 0 ≤ f) (hl : 0 ≤ lo) : ∀ (r : Nat) (d : List Int) (rt : Int), hi - rt < (r : Int) → 0 < r → lo ≤ rt → f + hi ≤ (d.length : Int) → Hq d f lo hi rt →
  ∃ d', (sc_siftDownOrdered_int_L0 hi f r d rt = .brk d' ∨ sc_siftDownOrdered_int_L0 hi f r d rt = .ret d') ∧ PI 0 d d' (f + lo) (f + hi) ∧ Hp d' f lo hi
 | 0, d, rt, hr, hr0, hlr, hb, h => by omega
 | r + 1, d, rt, hr, hr0, hlr, hb, h => by
  rw [sc_siftDownOrdered_int_L0]
  simp only [Less_eq']
  by_cases c1 : hi ≤ 2 * rt + 1
  ·simp only [decide_eq_true c1, cond_true]
   exact ⟨d, .inl rfl, PI.refl _ _ _ _, h.done fun c hc hn => by omega⟩
  ·simp only [decide_eq_false c1, cond_false]
   have go : ∀ c, (c = 2 * rt + 1 ∨ c = 2 * rt + 2) → c < hi → (∀ c', (c' = 2 * rt + 1 ∨ c' = 2 * rt + 2) → c' < hi → gi 0 d (f + c') ≤ gi 0 d (f + c)) →
     ∃ d', ((bif !decide (d.getD (f + rt).toNat 0 < d.getD (f + c).toNat 0) then (.ret d : LR (List Int) (List Int)) else sc_siftDownOrdered_int_L0 hi f r (swp 0 d (f + rt) (f + c)) c) = .brk d' ∨
      (bif !decide (d.getD (f + rt).toNat 0 < d.getD (f + c).toNat 0) then (.ret d : LR (List Int) (List Int)) else sc_siftDownOrdered_int_L0 hi f r (swp 0 d (f + rt) (f + c)) c) = .ret d') ∧ PI 0 d d' (f + lo) (f + hi) ∧ Hp d' f lo hi := fun c hc hn hm => by
    by_cases hs : d.getD (f + rt).toNat 0 < d.getD (f + c).toNat 0
    ·simp only [decide_eq_true hs, Bool.not_true, cond_false]
     have h2 := h.step h0 hl hlr hb hc hn hs hm
     have h1 := PI.swp 0 (d := d) (a := f + lo) (b := f + hi) (i := f + rt) (j := f + c) (by omega) hb (by omega) (by omega)
     obtain ⟨d', k1, k2, k3⟩ := sift0 h0 hl r _ c (by omega) (by omega) (by omega) (by rw [swp_len]; exact hb) h2
     exact ⟨d', k1, h1.trans 0 k2, k3⟩
    ·simp only [decide_eq_false hs, Bool.not_false, cond_true]
     refine ⟨d, .inr rfl, PI.refl _ _ _ _, h.done fun c' h1 h2 => Int.le_trans (hm c' h1 h2) ?_⟩
     show d.getD (f + c).toNat 0 ≤ d.getD (f + rt).toNat 0
     omega
   by_cases c2 : 2 * rt + 1 + 1 < hi
   ·simp only [decide_eq_true c2, cond_true]
    by_cases c3 : d.getD (f + (2 * rt + 1)).toNat 0 < d.getD (f + (2 * rt + 1) + 1).toNat 0
    ·simp only [decide_eq_true c3, cond_true]
     refine go (2 * rt + 1 + 1) (by omega) c2 fun c' h1 h2 => ?_
     rcases h1 with e | e
     ·subst e
      show d.getD (f + (2 * rt + 1)).toNat 0 ≤ d.getD (f + (2 * rt + 1 + 1)).toNat 0
      rw [show f + (2 * rt + 1) + 1 = f + (2 * rt + 1 + 1) by omega] at c3; omega
     ·rw [show c' = 2 * rt + 1 + 1 by omega]; exact Int.le_refl _
    ·simp only [decide_eq_false c3, cond_false]
     refine go (2 * rt + 1) (by omega) (by omega) fun c' h1 h2 => ?_
     rcases h1 with e | e
     ·subst e; exact Int.le_refl _
     ·subst e
      show d.getD (f + (2 * rt + 2)).toNat 0 ≤ d.getD (f + (2 * rt + 1)).toNat 0
      rw [show f + (2 * rt + 1) + 1 = f + (2 * rt + 2) by omega] at c3; omega
   ·simp only [decide_eq_false c2, cond_false]
    refine go (2 * rt + 1) (by omega) (by omega) fun c' h1 h2 => ?_
    rw [show c' = 2 * rt + 1 by omega]; exact Int.le_refl _
theorem sift_ok {d : List Int} {f lo hi : Int} (h0 : 0 ≤ f) (hl : 0 ≤ lo) (hb : f + hi ≤ (d.length : Int)) (h : Hp d f (lo + 1) hi) :
  PI 0 d (sc_siftDownOrdered_int d lo hi f) (f + lo) (f + hi) ∧ Hp (sc_siftDownOrdered_int d lo hi f) f lo hi := by
 obtain ⟨d', k1, k2, k3⟩ := sift0 h0 hl (hi.toNat + 1) d lo (by omega) (by omega) (Int.le_refl _) hb ⟨fun i hi hne => h i (by omega), fun i hi hp => by omega⟩
 unfold sc_siftDownOrdered_int
 rcases k1 with k1 | k1 <;> rw [k1] <;> exact ⟨k2, k3⟩
theorem sift_t {hi f : Int} : ∀ (r : Nat) (d : List Int) (rt : Int), hi - rt < (r : Int) → 0 < r → 0 ≤ rt → sc_siftDownOrdered_int_L0 hi f r d rt ≠ .oof
 | 0, d, rt, hr, hr0, hl => by omega
 | r + 1, d, rt, hr, hr0, hl => by
  rw [sc_siftDownOrdered_int_L0]
  try dsimp only
  by_cases c1 : hi ≤ 2 * rt + 1
  ·rw [decide_eq_true c1]; intro h; cases h
  ·rw [decide_eq_false c1, cond_false]
   have g1 : ∀ d', sc_siftDownOrdered_int_L0 hi f r d' (2 * rt + 1) ≠ .oof := fun d' => sift_t r d' _ (by omega) (by omega) (by omega)
   have g2 : ∀ d', sc_siftDownOrdered_int_L0 hi f r d' (2 * rt + 1 + 1) ≠ .oof := fun d' => sift_t r d' _ (by omega) (by omega) (by omega)
   have g3 : ∀ (c : Bool) (d' : List Int) (X : LR (List Int) (List Int)), X ≠ .oof → (bif !c then .ret d' else X) ≠ .oof := fun c d' X hX => by cases c; (intro h; cases h); exact hX
   cases decide (2 * rt + 1 + 1 < hi)
   ·exact g3 _ _ _ (g1 _)
   ·cases cmp_Less_int (d.getD (f + (2 * rt + 1)).toNat 0) (d.getD (f + (2 * rt + 1) + 1).toNat 0)
    ·exact g3 _ _ _ (g1 _)
    ·exact g3 _ _ _ (g2 _)
theorem heap0 {a b : Int} (h0 : 0 ≤ a) : ∀ (r : Nat) (d : List Int) (i : Int), i + 1 < (r : Int) → -1 ≤ i → b ≤ (d.length : Int) → Hp d a (i + 1) (b - a) →
  ∃ d', sc_heapSortOrdered_int_L0 a b r d i = .brk d' ∧ PI 0 d d' a b ∧ Hp d' a 0 (b - a)
 | 0, d, i, hr, hi, hb, h => by omega
 | r + 1, d, i, hr, hi, hb, h => by
  rw [sc_heapSortOrdered_int_L0]
  by_cases c : 0 ≤ i
  ·simp only [decide_eq_true c, cond_true]
   obtain ⟨k1, k2⟩ := sift_ok (d := d) (f := a) (lo := i) (hi := b - a) h0 c (by omega) h
   have k1' : PI 0 d (sc_siftDownOrdered_int d i (b - a) a) a b := by
    have := k1.mono 0 (a' := a) (b' := b) h0 (by omega) (by omega)
    exact this
   obtain ⟨d', m1, m2, m3⟩ := heap0 h0 r _ (i - 1) (by omega) (by omega) (by rw [k1.len]; exact hb) (by rw [show i - 1 + 1 = i by omega]; exact k2)
   exact ⟨d', m1, k1'.trans 0 m2, m3⟩
  ·simp only [decide_eq_false c, cond_false]
   exact ⟨d, rfl, PI.refl _ _ _ _, by rw [show i + 1 = 0 by omega] at h; exact h⟩
theorem heap1 {a b : Int} (h0 : 0 ≤ a) : ∀ (r : Nat) (d : List Int) (i : Int), i + 1 < (r : Int) → -1 ≤ i → a + i < b → b ≤ (d.length : Int) → Hp d a 0 (i + 1) → Srt 0 idk d (a + i + 1) b → (∀ p q, a ≤ p → p ≤ a + i → a + i < q → q < b → gi 0 d p ≤ gi 0 d q) →
  ∃ d', sc_heapSortOrdered_int_L1 a r d i = .brk d' ∧ PI 0 d d' a b ∧ Srt 0 idk d' a b
 | 0, d, i, hr, hi, hib, hb, h, hs, hq => by omega
 | r + 1, d, i, hr, hi, hib, hb, h, hs, hq => by
  rw [sc_heapSortOrdered_int_L1]
  by_cases c : 0 ≤ i
  ·simp only [decide_eq_true c, cond_true]
   have e0 : (swp 0 d a (a + i)).length = d.length := swp_len 0 _ _ _
   have g : ∀ k, 0 ≤ k → gi 0 (swp 0 d a (a + i)) k = if k = a + i then gi 0 d a else if k = a then gi 0 d (a + i) else gi 0 d k := fun k hk => swp_gi 0 ⟨by omega, by omega⟩ ⟨by omega, by omega⟩ hk
   have p1 := PI.swp 0 (d := d) (a := a) (b := b) (i := a) (j := a + i) h0 hb (by omega) (by omega)
   obtain ⟨k1, k2⟩ := sift_ok (d := swp 0 d a (a + i)) (f := a) (lo := 0) (hi := i) h0 (by omega) (by rw [e0]; omega) (fun j hj c hc hn => by
    rw [g _ (by omega), g _ (by omega), if_neg (by omega), if_neg (by omega), if_neg (by omega), if_neg (by omega)]
    exact h j (by omega) c hc (by omega))
   have k1' := k1.mono 0 (a' := a) (b' := b) h0 (by omega) (by omega)
   have mx : ∀ p, a ≤ p → p ≤ a + i → gi 0 d p ≤ gi 0 d a := fun p h1 h2 => by
    have := Hp_max h (p - a).toNat (p - a) (Nat.le_refl _) (by omega) (by omega)
    rw [show a + (p - a) = p by omega, show a + 0 = a by omega] at this; exact this
   -- what lies behind i has not changed since the swap
   have ou : ∀ q, a + i ≤ q → q < b → gi 0 (sc_siftDownOrdered_int (swp 0 d a (a + i)) 0 i a) q = if q = a + i then gi 0 d a else gi 0 d q := fun q h1 h2 => by
    rw [k1.out q (by omega) (by omega), g q (by omega)]
    by_cases e : q = a + i
    ·rw [if_pos e, if_pos e]
    ·rw [if_neg e, if_neg (by omega), if_neg e]
   obtain ⟨d', m1, m2, m3⟩ := heap1 (b := b) h0 r (sc_siftDownOrdered_int (swp 0 d a (a + i)) 0 i a) (i - 1) (by omega) (by omega) (by omega) (by rw [k1.len, e0]; exact hb) (by rw [show i - 1 + 1 = i by omega]; exact k2)
    (fun p q h1 h2 h3 => by
     show gi 0 _ p ≤ gi 0 _ q
     rw [ou p (by omega) (by omega), ou q (by omega) h3]
     by_cases e1 : p = a + i
     ·rw [if_pos e1]
      by_cases e2 : q = a + i
      ·rw [if_pos e2]; exact Int.le_refl _
      ·rw [if_neg e2]; exact hq a q (Int.le_refl _) (by omega) (by omega) h3
     ·rw [if_neg e1, if_neg (by omega)]
      exact hs p q (by omega) h2 h3)
    (fun p q h1 h2 h3 h4 => by
     rw [ou q (by omega) h4]
     obtain ⟨m, n1, n2, n3⟩ := k1.src p (by omega) (by omega)
     rw [n3, g m (by omega), if_neg (by omega)]
     have hm : (if m = a then gi 0 d (a + i) else gi 0 d m) ≤ gi 0 d a := by
      by_cases e : m = a
      ·rw [if_pos e]; exact mx _ (by omega) (by omega)
      ·rw [if_neg e]; exact mx _ (by omega) (by omega)
     by_cases e : q = a + i
     ·rw [if_pos e]; exact hm
     ·rw [if_neg e]; exact Int.le_trans hm (hq a q (Int.le_refl _) (by omega) (by omega) h4))
   exact ⟨d', m1, (p1.trans 0 k1').trans 0 m2, m3⟩
  ·simp only [decide_eq_false c, cond_false]
   exact ⟨d, rfl, PI.refl _ _ _ _, by rw [show a + i + 1 = a by omega] at hs; exact hs⟩
theorem heap_ok {d : List Int} {a b : Int} (h0 : 0 ≤ a) (hab : a ≤ b) (hb : b ≤ (d.length : Int)) : PI 0 d (sc_heapSortOrdered_int d a b) a b ∧ Srt 0 idk (sc_heapSortOrdered_int d a b) a b := by
 obtain ⟨d1, k1, k2, k3⟩ := heap0 (a := a) (b := b) h0 ((b - a).toNat + 1) d ((b - a - 1) / 2) (by omega) (by omega) hb (fun i hi c hc hn => by omega)
 obtain ⟨d2, m1, m2, m3⟩ := heap1 (a := a) (b := b) h0 ((b - a).toNat + 1) d1 (b - a - 1) (by omega) (by omega) (by omega) (by rw [k2.len]; exact hb) (by rw [show b - a - 1 + 1 = b - a by omega]; exact k3) (fun i j h1 h2 h3 => by omega) (fun p q h1 h2 h3 h4 => by omega)
 unfold sc_heapSortOrdered_int
 rw [k1]; dsimp only; rw [m1]
 exact ⟨k2.trans 0 m2, m3⟩
theorem heap0_t {a b : Int} : ∀ (r : Nat) (d : List Int) (i : Int), i + 1 < (r : Int) → 0 < r → sc_heapSortOrdered_int_L0 a b r d i ≠ .oof
 | 0, d, i, hr, hr0 => by omega
 | r + 1, d, i, hr, hr0 => by
  rw [sc_heapSortOrdered_int_L0]
  by_cases c : 0 ≤ i
  ·rw [decide_eq_true c, cond_true]; exact heap0_t r _ _ (by omega) (by omega)
  ·rw [decide_eq_false c]; intro h; cases h
theorem heap1_t {a : Int} : ∀ (r : Nat) (d : List Int) (i : Int), i + 1 < (r : Int) → 0 < r → sc_heapSortOrdered_int_L1 a r d i ≠ .oof
 | 0, d, i, hr, hr0 => by omega
 | r + 1, d, i, hr, hr0 => by
  rw [sc_heapSortOrdered_int_L1]
  by_cases c : 0 ≤ i
  ·rw [decide_eq_true c, cond_true]; exact heap1_t r _ _ (by omega) (by omega)
  ·rw [decide_eq_false c]; intro h; cases h
theorem npt_ok {l : Int} (h : 1 ≤ l ∧ l ≤ 65535) : 1 ≤ (sc_nextPowerOfTwo l).toNat ∧ (sc_nextPowerOfTwo l).toNat ≤ 2 * l.toNat := by
 have e := ofI_nat (l := l) (by omega)
 obtain ⟨h1, h2, h3⟩ := Len_ok (x := BitVec.ofInt 64 l) (by omega)
 unfold sc_nextPowerOfTwo
 dsimp only
 generalize bits_Len (BitVec.ofInt 64 l) = n at *
 have ep : (1#64 <<< n.toNat).toNat = 2 ^ n.toNat := by
  rw [BitVec.toNat_shiftLeft]
  have : 2 ^ n.toNat ≤ 2 ^ 16 := Nat.pow_le_pow_right (by omega) (by omega)
  rw [Nat.shiftLeft_eq, Nat.mod_eq_of_lt (by simp; omega)]
  simp
 rw [ep]
 have := Nat.one_le_two_pow (n := n.toNat)
 omega
theorem npt_f {l : Int} {r : BitVec 64} (h : sc_nextPowerOfTwo l = r) (hl : 1 ≤ l ∧ l ≤ 65535) : 1 ≤ r.toNat ∧ r.toNat ≤ 2 * l.toNat := h ▸ npt_ok hl
theorem bp0 {a b : Int} {m : BitVec 64} (h0 : 0 ≤ a) (hl : 8 ≤ b - a) (hm : 1 ≤ m.toNat ∧ m.toNat ≤ 2 * (b - a).toNat) : ∀ (r : Nat) (d : List Int) (x : BitVec 64) (i : Int), a + (b - a) / 4 * 2 + 2 - i < (r : Int) → 0 < r → a + (b - a) / 4 * 2 - 1 ≤ i → b ≤ (d.length : Int) →
  ∃ d', sc_breakPatternsOrdered_int_L0 a b m r d x i = .brk d' ∧ PI 0 d d' a b
 | 0, d, x, i, hr, hr0, hi, hb => by omega
 | r + 1, d, x, i, hr, hr0, hi, hb => by
  rw [sc_breakPatternsOrdered_int_L0]
  by_cases c : i ≤ a + (b - a) / 4 * 2 + 1
  ·simp only [decide_eq_true c, cond_true]
   have ha := and_lt (x := (xorshift_Next x).1) (m := m) hm.1
   generalize ((xorshift_Next x).1 &&& (m - 1#64)).toNat = o at *
   by_cases c2 : b - a ≤ (o : Int)
   ·simp only [decide_eq_true c2, cond_true]
    obtain ⟨d', k1, k2⟩ := bp0 h0 hl hm r (swp 0 d i (a + ((o : Int) - (b - a)))) (xorshift_Next x).2 (i + 1) (by omega) (by omega) (by omega) (by rw [swp_len]; exact hb)
    exact ⟨d', k1, (PI.swp 0 (d := d) (a := a) (b := b) (i := i) (j := a + ((o : Int) - (b - a))) h0 hb (by omega) (by omega)).trans 0 k2⟩
   ·simp only [decide_eq_false c2, cond_false]
    obtain ⟨d', k1, k2⟩ := bp0 h0 hl hm r (swp 0 d i (a + (o : Int))) (xorshift_Next x).2 (i + 1) (by omega) (by omega) (by omega) (by rw [swp_len]; exact hb)
    exact ⟨d', k1, (PI.swp 0 (d := d) (a := a) (b := b) (i := i) (j := a + (o : Int)) h0 hb (by omega) (by omega)).trans 0 k2⟩
  ·simp only [decide_eq_false c, cond_false]
   exact ⟨d, rfl, PI.refl _ _ _ _⟩
theorem bp_ok {d : List Int} {a b : Int} (h0 : 0 ≤ a) (hl : 8 ≤ b - a) (hb : b ≤ (d.length : Int)) (hd : d.length ≤ 65535) : PI 0 d (sc_breakPatternsOrdered_int d a b) a b := by
 unfold sc_breakPatternsOrdered_int
 simp only [decide_eq_true hl, cond_true]
 obtain ⟨d', k1, k2⟩ := bp0 (a := a) (b := b) h0 hl (npt_ok (by omega)) 4 d (BitVec.ofInt 64 (b - a)) (a + (b - a) / 4 * 2 - 1) (by omega) (by omega) (by omega) hb
 rw [k1]; exact k2
theorem bp_t {a b : Int} {m : BitVec 64} : ∀ (r : Nat) (d : List Int) (x : BitVec 64) (i : Int), a + (b - a) / 4 * 2 + 2 - i < (r : Int) → 0 < r → sc_breakPatternsOrdered_int_L0 a b m r d x i ≠ .oof
 | 0, d, x, i, hr, hr0 => by omega
 | r + 1, d, x, i, hr, hr0 => by
  rw [sc_breakPatternsOrdered_int_L0]
  by_cases c : i ≤ a + (b - a) / 4 * 2 + 1
  ·simp only [decide_eq_true c, cond_true]
   by_cases c2 : b - a ≤ ((((xorshift_Next x).1 &&& (m - 1#64)).toNat : Nat) : Int)
   ·rw [decide_eq_true c2, cond_true]; exact bp_t r _ _ _ (by omega) (by omega)
   ·rw [decide_eq_false c2, cond_false]; exact bp_t r _ _ _ (by omega) (by omega)
  ·rw [decide_eq_false c]; intro h; cases h
theorem ord2 (d : List Int) (a b s : Int) : ((sc_order2Ordered_int d a b s).1 = a ∧ (sc_order2Ordered_int d a b s).2.1 = b) ∨ ((sc_order2Ordered_int d a b s).1 = b ∧ (sc_order2Ordered_int d a b s).2.1 = a) := by
 unfold sc_order2Ordered_int
 dsimp only
 cases cmp_Less_int (d.getD b.toNat 0) (d.getD a.toNat 0)
 ·exact .inl ⟨rfl, rfl⟩
 ·exact .inr ⟨rfl, rfl⟩
theorem med_ok (d : List Int) (a b c s : Int) : (sc_medianOrdered_int d a b c s).1 = a ∨ (sc_medianOrdered_int d a b c s).1 = b ∨ (sc_medianOrdered_int d a b c s).1 = c := by
 unfold sc_medianOrdered_int
 dsimp only
 have h1 := ord2 d a b s
 generalize sc_order2Ordered_int d a b s = r1 at *
 have h2 := ord2 d r1.2.1 c r1.2.2
 generalize sc_order2Ordered_int d r1.2.1 c r1.2.2 = r2 at *
 have h3 := ord2 d r1.1 r2.1 r2.2.2
 generalize sc_order2Ordered_int d r1.1 r2.1 r2.2.2 = r3 at *
 omega
theorem cp_rng (d : List Int) {a b : Int} (h : 8 ≤ b - a) : a ≤ (sc_choosePivotOrdered_int d a b).1 ∧ (sc_choosePivotOrdered_int d a b).1 < b := by
 unfold sc_choosePivotOrdered_int sc_medianAdjacentOrdered_int
 dsimp only
 rw [decide_eq_true h, cond_true]
 by_cases c : 50 ≤ b - a
 ·rw [decide_eq_true c, cond_true]
  have m1 := med_ok d (a + (b - a) / 4 * 1 - 1) (a + (b - a) / 4 * 1) (a + (b - a) / 4 * 1 + 1) 0
  generalize sc_medianOrdered_int d (a + (b - a) / 4 * 1 - 1) (a + (b - a) / 4 * 1) (a + (b - a) / 4 * 1 + 1) 0 = q1 at *
  have m2 := med_ok d (a + (b - a) / 4 * 2 - 1) (a + (b - a) / 4 * 2) (a + (b - a) / 4 * 2 + 1) q1.2
  generalize sc_medianOrdered_int d (a + (b - a) / 4 * 2 - 1) (a + (b - a) / 4 * 2) (a + (b - a) / 4 * 2 + 1) q1.2 = q2 at *
  have m3 := med_ok d (a + (b - a) / 4 * 3 - 1) (a + (b - a) / 4 * 3) (a + (b - a) / 4 * 3 + 1) q2.2
  generalize sc_medianOrdered_int d (a + (b - a) / 4 * 3 - 1) (a + (b - a) / 4 * 3) (a + (b - a) / 4 * 3 + 1) q2.2 = q3 at *
  have m4 := med_ok d q1.1 q2.1 q3.1 q3.2
  generalize sc_medianOrdered_int d q1.1 q2.1 q3.1 q3.2 = q4 at *
  have hq : a ≤ q4.1 ∧ q4.1 < b := by
   have b1 : a ≤ q1.1 ∧ q1.1 < b := by omega
   have b2 : a ≤ q2.1 ∧ q2.1 < b := by omega
   have b3 : a ≤ q3.1 ∧ q3.1 < b := by omega
   clear m1 m2 m3
   rcases m4 with e | e | e <;> rw [e] <;> assumption
  cases q4.2 == 0
  ·cases q4.2 == 12 <;> exact hq
  ·exact hq
 ·rw [decide_eq_false c, cond_false]
  have m4 := med_ok d (a + (b - a) / 4 * 1) (a + (b - a) / 4 * 2) (a + (b - a) / 4 * 3) 0
  generalize sc_medianOrdered_int d (a + (b - a) / 4 * 1) (a + (b - a) / 4 * 2) (a + (b - a) / 4 * 3) 0 = q4 at *
  have hq : a ≤ q4.1 ∧ q4.1 < b := by omega
  cases q4.2 == 0
  ·cases q4.2 == 12 <;> exact hq
  ·exact hq
theorem rev0 {a b : Int} (h0 : 0 ≤ a) : ∀ (r : Nat) (d : List Int) (i j : Int), j - i < (r : Int) → 0 < r → a ≤ i → j < b → b ≤ (d.length : Int) → ∃ d', sc_reverseRangeOrdered_int_L0 r d i j = .brk d' ∧ PI 0 d d' a b
 | 0, d, i, j, hr, hr0, hi, hj, hb => by omega
 | r + 1, d, i, j, hr, hr0, hi, hj, hb => by
  rw [sc_reverseRangeOrdered_int_L0]
  by_cases c : i < j
  ·simp only [decide_eq_true c, cond_true]
   obtain ⟨d', k1, k2⟩ := rev0 (b := b) h0 r (swp 0 d i j) (i + 1) (j - 1) (by omega) (by omega) (by omega) (by omega) (by rw [swp_len]; exact hb)
   exact ⟨d', k1, (PI.swp 0 (d := d) (a := a) (b := b) (i := i) (j := j) h0 hb (by omega) (by omega)).trans 0 k2⟩
  ·simp only [decide_eq_false c, cond_false]
   exact ⟨d, rfl, PI.refl _ _ _ _⟩
theorem rev_ok {d : List Int} {a b : Int} (h0 : 0 ≤ a) (hab : a ≤ b) (hb : b ≤ (d.length : Int)) : PI 0 d (sc_reverseRangeOrdered_int d a b) a b := by
 obtain ⟨d', k1, k2⟩ := rev0 (b := b) h0 ((b - a).toNat + 1) d a (b - 1) (by omega) (by omega) (Int.le_refl _) (by omega) hb
 unfold sc_reverseRangeOrdered_int
 rw [k1]; exact k2
theorem rev_t : ∀ (r : Nat) (d : List Int) (i j : Int), j - i < (r : Int) → 0 < r → sc_reverseRangeOrdered_int_L0 r d i j ≠ .oof
 | 0, d, i, j, hr, hr0 => by omega
 | r + 1, d, i, j, hr, hr0 => by
  rw [sc_reverseRangeOrdered_int_L0]
  by_cases c : i < j
  ·rw [decide_eq_true c, cond_true]; exact rev_t r _ _ _ (by omega) (by omega)
  ·rw [decide_eq_false c]; intro h; cases h
theorem pin2_t : ∀ (r : Nat) (d : List Int) (j : Int), j < (r : Int) → 0 < r → sc_partialInsertionSortOrdered_int_L2 r d j ≠ .oof
 | 0, d, j, hr, hr0 => by omega
 | r + 1, d, j, hr, hr0 => by
  rw [sc_partialInsertionSortOrdered_int_L2]
  by_cases c : 1 ≤ j
  ·simp only [decide_eq_true c, cond_true]
   cases cmp_Less_int (d.getD j.toNat 0) (d.getD (j - 1).toNat 0)
   ·intro h; cases h
   ·exact pin2_t r _ _ (by omega) (by omega)
  ·rw [decide_eq_false c]; intro h; cases h
theorem pin2_l : ∀ (r : Nat) (d : List Int) (j : Int), j < (r : Int) → 0 < r → ∃ d', sc_partialInsertionSortOrdered_int_L2 r d j = .brk d' ∧ d'.length = d.length
 | 0, d, j, hr, hr0 => by omega
 | r + 1, d, j, hr, hr0 => by
  rw [sc_partialInsertionSortOrdered_int_L2]
  by_cases c : 1 ≤ j
  ·simp only [decide_eq_true c, cond_true]
   cases cmp_Less_int (d.getD j.toNat 0) (d.getD (j - 1).toNat 0)
   ·exact ⟨d, rfl, rfl⟩
   ·obtain ⟨d', k1, k2⟩ := pin2_l r ((d.set j.toNat (d.getD (j - 1).toNat 0)).set (j - 1).toNat (d.getD j.toNat 0)) (j - 1) (by omega) (by omega)
    exact ⟨d', k1, by rw [k2]; simp⟩
  ·rw [decide_eq_false c]; exact ⟨d, rfl, rfl⟩
theorem pin3_l : ∀ (r : Nat) (d : List Int) (j : Int), (sc_partialInsertionSortOrdered_int_L3 r d j).length = d.length
 | 0, d, j => by rw [sc_partialInsertionSortOrdered_int_L3]
 | r + 1, d, j => by
  rw [sc_partialInsertionSortOrdered_int_L3]
  try dsimp only
  cases cmp_Less_int (d.getD j.toNat 0) (d.getD (j - 1).toNat 0)
  ·rfl
  ·show (sc_partialInsertionSortOrdered_int_L3 r _ (j + 1)).length = _
   rw [pin3_l r]; simp
theorem pin1_r {b : Int} (d : List Int) : ∀ (r : Nat) (i : Int), (r : Int) = b - i → i ≤ sc_partialInsertionSortOrdered_int_L1 d r i ∧ sc_partialInsertionSortOrdered_int_L1 d r i ≤ b
 | 0, i, hr => by rw [sc_partialInsertionSortOrdered_int_L1]; omega
 | r + 1, i, hr => by
  rw [sc_partialInsertionSortOrdered_int_L1]
  try dsimp only
  cases cmp_Less_int (d.getD i.toNat 0) (d.getD (i - 1).toNat 0)
  ·have := pin1_r (b := b) d r (i + 1) (by omega)
   rw [Bool.not_false, cond_true]; omega
  ·rw [Bool.not_true, cond_false]; omega
theorem pin0_l {a b : Int} (x : List Int) (hb : b ≤ (x.length : Int)) : ∀ (r : Nat) (d : List Int) (i j : Int), i ≤ b → d.length = x.length → ∃ d', d'.length = x.length ∧ (sc_partialInsertionSortOrdered_int_L0 x a b r d i j = .brk d' ∨ ∃ t, sc_partialInsertionSortOrdered_int_L0 x a b r d i j = .ret (t, d'))
 | 0, d, i, j, hib, hx => ⟨d, hx, .inl (by rw [sc_partialInsertionSortOrdered_int_L0])⟩
 | r + 1, d, i, j, hib, hx => by
  rw [sc_partialInsertionSortOrdered_int_L0]
  try dsimp only
  obtain ⟨m1, m2⟩ := pin1_r (b := b) d (b - i).toNat i (by omega)
  generalize sc_partialInsertionSortOrdered_int_L1 d (b - i).toNat i = o at *
  have fin : ∀ d2 : List Int, d2.length = x.length → ∃ d', d'.length = x.length ∧ ((bif decide (2 ≤ b - o) then sc_partialInsertionSortOrdered_int_L0 x a b r (sc_partialInsertionSortOrdered_int_L3 (b - (o + 1)).toNat d2 (o + 1)) o (j + 1) else sc_partialInsertionSortOrdered_int_L0 x a b r d2 o (j + 1)) = .brk d' ∨
    ∃ t, (bif decide (2 ≤ b - o) then sc_partialInsertionSortOrdered_int_L0 x a b r (sc_partialInsertionSortOrdered_int_L3 (b - (o + 1)).toNat d2 (o + 1)) o (j + 1) else sc_partialInsertionSortOrdered_int_L0 x a b r d2 o (j + 1)) = .ret (t, d')) := fun d2 h2 => by
   cases decide (2 ≤ b - o)
   ·exact pin0_l x hb r _ _ _ m2 h2
   ·exact pin0_l x hb r _ _ _ m2 (by rw [pin3_l]; exact h2)
  cases o == b
  ·cases decide (b - a < 50)
   ·cases decide (2 ≤ o - a)
    ·exact fin _ (by simp [hx])
    ·obtain ⟨d2, k1, k2⟩ := pin2_l (x.length + 1) ((d.set o.toNat (d.getD (o - 1).toNat 0)).set (o - 1).toNat (d.getD o.toNat 0)) (o - 1) (by omega) (by omega)
     simp only [cond_false, cond_true]
     rw [k1]
     exact fin d2 (by rw [k2]; simp [hx])
   ·exact ⟨d, hx, .inr ⟨false, rfl⟩⟩
  ·exact ⟨d, hx, .inr ⟨true, rfl⟩⟩
theorem pin_l {d : List Int} {a b : Int} (hab : a < b) (hb : b ≤ (d.length : Int)) : (sc_partialInsertionSortOrdered_int d a b).2.length = d.length := by
 obtain ⟨d', k1, k2⟩ := pin0_l (a := a) (b := b) d hb 5 d (a + 1) 0 (by omega) rfl
 unfold sc_partialInsertionSortOrdered_int
 rcases k2 with k2 | ⟨t, k2⟩ <;> rw [k2] <;> exact k1
theorem pe1 (a : Int) (d : List Int) (j : Int) : ∀ (r : Nat) (i : Int), j + 1 - i < (r : Int) → 0 < r → ∃ i', sc_partitionEqualOrdered_int_L1 a d j r i = .brk i' ∧ i ≤ i' ∧ (i' ≤ j + 1 ∨ i' = i) ∧ (∀ k, i ≤ k → k < i' → gi 0 d k ≤ gi 0 d a) ∧ (i' ≤ j → gi 0 d a < gi 0 d i')
 | 0, i, h, h0 => by omega
 | r + 1, i, h, h0 => by
  rw [sc_partitionEqualOrdered_int_L1]
  simp only [Less_eq']
  by_cases c : i ≤ j
  ·simp only [decide_eq_true c, cond_true]
   by_cases s : d.getD a.toNat 0 < d.getD i.toNat 0
   ·simp only [decide_eq_true s, Bool.not_true, cond_false]
    exact ⟨i, rfl, Int.le_refl _, .inr rfl, fun k h1 h2 => by omega, fun _ => s⟩
   ·simp only [decide_eq_false s, Bool.not_false, cond_true]
    obtain ⟨i', m1, m2, m3, m4, m5⟩ := pe1 a d j r (i + 1) (by omega) (by omega)
    refine ⟨i', m1, by omega, .inl (by omega), fun k h1 h2 => ?_, m5⟩
    by_cases e : k = i
    ·subst e; show d.getD k.toNat 0 ≤ d.getD a.toNat 0; omega
    ·exact m4 k (by omega) h2
  ·simp only [decide_eq_false c, cond_false]
   exact ⟨i, rfl, Int.le_refl _, .inr rfl, fun k h1 h2 => by omega, fun h => by omega⟩
theorem pe2 (a : Int) (d : List Int) (i : Int) : ∀ (r : Nat) (j : Int), j + 1 - i < (r : Int) → 0 < r → ∃ j', sc_partitionEqualOrdered_int_L2 a d i r j = .brk j' ∧ j' ≤ j ∧ (i - 1 ≤ j' ∨ j' = j) ∧ (∀ k, j' < k → k ≤ j → gi 0 d a < gi 0 d k) ∧ (i ≤ j' → gi 0 d j' ≤ gi 0 d a)
 | 0, j, h, h0 => by omega
 | r + 1, j, h, h0 => by
  rw [sc_partitionEqualOrdered_int_L2]
  simp only [Less_eq']
  by_cases c : i ≤ j
  ·simp only [decide_eq_true c, cond_true]
   by_cases s : d.getD a.toNat 0 < d.getD j.toNat 0
   ·simp only [decide_eq_true s, cond_true]
    obtain ⟨j', m1, m2, m3, m4, m5⟩ := pe2 a d i r (j - 1) (by omega) (by omega)
    refine ⟨j', m1, by omega, .inl (by omega), fun k h1 h2 => ?_, m5⟩
    by_cases e : k = j
    ·subst e; exact s
    ·exact m4 k h1 (by omega)
   ·simp only [decide_eq_false s, cond_false]
    exact ⟨j, rfl, Int.le_refl _, .inr rfl, fun k h1 h2 => by omega, fun _ => by show d.getD j.toNat 0 ≤ d.getD a.toNat 0; omega⟩
  ·simp only [decide_eq_false c, cond_false]
   exact ⟨j, rfl, Int.le_refl _, .inr rfl, fun k h1 h2 => by omega, fun h => by omega⟩
theorem pe0 {a b : Int} (h0 : 0 ≤ a) : ∀ (r : Nat) (d : List Int) (i j : Int), j + 1 - i < (r : Int) → 0 < r → a + 1 ≤ i → i ≤ b → i ≤ j + 2 → j ≤ b - 1 → b ≤ (d.length : Int) →
  (∀ k, a ≤ k → k < i → gi 0 d k ≤ gi 0 d a) → (∀ k, j < k → k < b → gi 0 d a < gi 0 d k) →
  ∃ d' i', sc_partitionEqualOrdered_int_L0 a b r d i j = .brk (d', i') ∧ a + 1 ≤ i' ∧ i' ≤ b ∧ PI 0 d d' a b ∧ gi 0 d' a = gi 0 d a ∧ (∀ k, a ≤ k → k < i' → gi 0 d' k ≤ gi 0 d' a) ∧ (∀ k, i' ≤ k → k < b → gi 0 d' a < gi 0 d' k)
 | 0, d, i, j, hr, hr0, hi, hib, hij, hj, hb, hA, hB => by omega
 | r + 1, d, i, j, hr, hr0, hi, hib, hij, hj, hb, hA, hB => by
  rw [sc_partitionEqualOrdered_int_L0]
  obtain ⟨i', m1, m2, m3, m4, m5⟩ := pe1 a d j ((b - a).toNat + 2) i (by omega) (by omega)
  obtain ⟨j', n1, n2, n3, n4, n5⟩ := pe2 a d i' ((b - a).toNat + 2) j (by omega) (by omega)
  rw [m1]; dsimp only; rw [n1]; dsimp only
  have hA' : ∀ k, a ≤ k → k < i' → gi 0 d k ≤ gi 0 d a := fun k h1 h2 => by
   by_cases e : k < i
   ·exact hA k h1 e
   ·exact m4 k (by omega) h2
  have hB' : ∀ k, j' < k → k < b → gi 0 d a < gi 0 d k := fun k h1 h2 => by
   by_cases e : j < k
   ·exact hB k e h2
   ·exact n4 k h1 (by omega)
  by_cases c : j' < i'
  ·simp only [decide_eq_true c, cond_true]
   exact ⟨d, i', rfl, by omega, by omega, PI.refl _ _ _ _, rfl, hA', fun k h1 h2 => hB' k (by omega) h2⟩
  ·simp only [decide_eq_false c, cond_false]
   have hl : i' ≠ j' := fun e => by have := m5 (by omega); have := n5 (by omega); subst e; omega
   have g : ∀ k, 0 ≤ k → gi 0 (swp 0 d i' j') k = if k = j' then gi 0 d i' else if k = i' then gi 0 d j' else gi 0 d k := fun k hk => swp_gi 0 ⟨by omega, by omega⟩ ⟨by omega, by omega⟩ hk
   have p1 := PI.swp 0 (d := d) (a := a) (b := b) (i := i') (j := j') h0 hb (by omega) (by omega)
   have ga : gi 0 (swp 0 d i' j') a = gi 0 d a := by rw [g a h0, if_neg (by omega), if_neg (by omega)]
   obtain ⟨d', q, k1, k2, k3, k4, k5, k6, k7⟩ := pe0 (b := b) h0 r (swp 0 d i' j') (i' + 1) (j' - 1) (by omega) (by omega) (by omega) (by omega) (by omega) (by omega) (by rw [swp_len]; exact hb)
    (fun k h1 h2 => by
     rw [ga, g k (by omega), if_neg (by omega)]
     by_cases e : k = i'
     ·rw [if_pos e]; exact n5 (by omega)
     ·rw [if_neg e]; exact hA' k h1 (by omega))
    (fun k h1 h2 => by
     rw [ga, g k (by omega)]
     by_cases e : k = j'
     ·rw [if_pos e]; exact m5 (by omega)
     ·rw [if_neg e, if_neg (by omega)]; exact hB' k (by omega) h2)
   exact ⟨d', q, k1, k2, k3, p1.trans 0 k4, k5.trans ga, k6, k7⟩
theorem pe_ok {d : List Int} {a b p : Int} (h0 : 0 ≤ a) (hp : a ≤ p ∧ p < b) (hb : b ≤ (d.length : Int)) : ∀ {r : Int × List Int}, sc_partitionEqualOrdered_int d a b p = r →
  a < r.1 ∧ r.1 ≤ b ∧ PI 0 d r.2 a b ∧ gi 0 r.2 a = gi 0 d p ∧ (∀ k, a ≤ k → k < r.1 → gi 0 r.2 k ≤ gi 0 d p) ∧ (∀ k, r.1 ≤ k → k < b → gi 0 d p < gi 0 r.2 k) := fun {r} h => by
 subst h
 have g : ∀ k, 0 ≤ k → gi 0 (swp 0 d a p) k = if k = p then gi 0 d a else if k = a then gi 0 d p else gi 0 d k := fun k hk => swp_gi 0 ⟨by omega, by omega⟩ ⟨by omega, by omega⟩ hk
 have ga : gi 0 (swp 0 d a p) a = gi 0 d p := by
  rw [g a h0]
  by_cases e : a = p
  ·rw [if_pos e, e]
  ·rw [if_neg e, if_pos rfl]
 obtain ⟨d', q, k1, k2, k3, k4, k5, k6, k7⟩ := pe0 (b := b) h0 ((b - a).toNat + 2) (swp 0 d a p) (a + 1) (b - 1) (by omega) (by omega) (by omega) (by omega) (by omega) (by omega) (by rw [swp_len]; exact hb)
  (fun k h1 h2 => by rw [show k = a by omega]; exact Int.le_refl _) (fun k h1 h2 => by omega)
 unfold sc_partitionEqualOrdered_int
 have p1 := PI.swp 0 (d := d) (a := a) (b := b) (i := a) (j := p) h0 hb (by omega) (by omega)
 have e : (d.set a.toNat (d.getD p.toNat 0)).set p.toNat (d.getD a.toNat 0) = swp 0 d a p := rfl
 rw [e, k1]
 rw [k5, ga] at k6 k7
 exact ⟨by show a < q; omega, k3, p1.trans 0 k4, k5.trans ga, k6, k7⟩
theorem pe1_t {a : Int} {d : List Int} {j : Int} {r : Nat} {i : Int} (h : j + 1 - i < (r : Int)) (h0 : 0 < r) : sc_partitionEqualOrdered_int_L1 a d j r i ≠ .oof := by
 obtain ⟨_, e, _⟩ := pe1 a d j r i h h0; exact brk_ne e
theorem pe2_t {a : Int} {d : List Int} {i : Int} {r : Nat} {j : Int} (h : j + 1 - i < (r : Int)) (h0 : 0 < r) : sc_partitionEqualOrdered_int_L2 a d i r j ≠ .oof := by
 obtain ⟨_, e, _⟩ := pe2 a d i r j h h0; exact brk_ne e
theorem pe0_t {a b : Int} : ∀ (r : Nat) (d : List Int) (i j : Int), j + 1 - i < (r : Int) → 0 < r → a + 1 ≤ i → i ≤ j + 2 → j ≤ b - 1 → sc_partitionEqualOrdered_int_L0 a b r d i j ≠ .oof
 | 0, d, i, j, hr, hr0, hi, hij, hj => by omega
 | r + 1, d, i, j, hr, hr0, hi, hij, hj => by
  rw [sc_partitionEqualOrdered_int_L0]
  obtain ⟨i', m1, m2, m3, m4, m5⟩ := pe1 a d j ((b - a).toNat + 2) i (by omega) (by omega)
  obtain ⟨j', n1, n2, n3, n4, n5⟩ := pe2 a d i' ((b - a).toNat + 2) j (by omega) (by omega)
  rw [m1]; dsimp only; rw [n1]; dsimp only
  by_cases c : j' < i'
  ·rw [decide_eq_true c]; intro h; cases h
  ·rw [decide_eq_false c, cond_false]; exact pe0_t r _ _ _ (by omega) (by omega) (by omega) (by omega) (by omega)
theorem pt3 (a : Int) (d : List Int) (j : Int) : ∀ (r : Nat) (i : Int), j + 1 - i < (r : Int) → 0 < r → ∃ i', sc_partitionOrdered_int_L3 a d j r i = .brk i' ∧ i ≤ i' ∧ (i' ≤ j + 1 ∨ i' = i) ∧ (∀ k, i ≤ k → k < i' → gi 0 d k < gi 0 d a) ∧ (i' ≤ j → gi 0 d a ≤ gi 0 d i')
 | 0, i, h, h0 => by omega
 | r + 1, i, h, h0 => by
  rw [sc_partitionOrdered_int_L3]
  simp only [Less_eq']
  by_cases c : i ≤ j
  ·simp only [decide_eq_true c, cond_true]
   by_cases s : d.getD i.toNat 0 < d.getD a.toNat 0
   ·simp only [decide_eq_true s, cond_true]
    obtain ⟨i', m1, m2, m3, m4, m5⟩ := pt3 a d j r (i + 1) (by omega) (by omega)
    refine ⟨i', m1, by omega, .inl (by omega), fun k h1 h2 => ?_, m5⟩
    by_cases e : k = i
    ·subst e; exact s
    ·exact m4 k (by omega) h2
   ·simp only [decide_eq_false s, cond_false]
    exact ⟨i, rfl, Int.le_refl _, .inr rfl, fun k h1 h2 => by omega, fun _ => by show d.getD a.toNat 0 ≤ d.getD i.toNat 0; omega⟩
  ·simp only [decide_eq_false c, cond_false]
   exact ⟨i, rfl, Int.le_refl _, .inr rfl, fun k h1 h2 => by omega, fun h => by omega⟩
theorem pt4 (a : Int) (d : List Int) (i : Int) : ∀ (r : Nat) (j : Int), j + 1 - i < (r : Int) → 0 < r → ∃ j', sc_partitionOrdered_int_L4 a d i r j = .brk j' ∧ j' ≤ j ∧ (i - 1 ≤ j' ∨ j' = j) ∧ (∀ k, j' < k → k ≤ j → gi 0 d a ≤ gi 0 d k) ∧ (i ≤ j' → gi 0 d j' < gi 0 d a)
 | 0, j, h, h0 => by omega
 | r + 1, j, h, h0 => by
  rw [sc_partitionOrdered_int_L4]
  simp only [Less_eq']
  by_cases c : i ≤ j
  ·simp only [decide_eq_true c, cond_true]
   by_cases s : d.getD j.toNat 0 < d.getD a.toNat 0
   ·simp only [decide_eq_true s, Bool.not_true, cond_false]
    exact ⟨j, rfl, Int.le_refl _, .inr rfl, fun k h1 h2 => by omega, fun _ => s⟩
   ·simp only [decide_eq_false s, Bool.not_false, cond_true]
    obtain ⟨j', m1, m2, m3, m4, m5⟩ := pt4 a d i r (j - 1) (by omega) (by omega)
    refine ⟨j', m1, by omega, .inl (by omega), fun k h1 h2 => ?_, m5⟩
    by_cases e : k = j
    ·subst e; show d.getD a.toNat 0 ≤ d.getD k.toNat 0; omega
    ·exact m4 k h1 (by omega)
  ·simp only [decide_eq_false c, cond_false]
   exact ⟨j, rfl, Int.le_refl _, .inr rfl, fun k h1 h2 => by omega, fun h => by omega⟩
theorem pt0_eq (d : List Int) (a b p : Int) : ∀ (r : Nat) (i : Int), sc_partitionOrdered_int_L0 d a b p r i = sc_partitionOrdered_int_L3 a (swp 0 d a p) (b - 1) r i
 | 0, i => by rw [sc_partitionOrdered_int_L0, sc_partitionOrdered_int_L3]
 | r + 1, i => by rw [sc_partitionOrdered_int_L0, sc_partitionOrdered_int_L3, pt0_eq d a b p r]; rfl
theorem pt1_eq (d : List Int) (a p i : Int) : ∀ (r : Nat) (j : Int), sc_partitionOrdered_int_L1 d a p i r j = sc_partitionOrdered_int_L4 a (swp 0 d a p) i r j
 | 0, j => by rw [sc_partitionOrdered_int_L1, sc_partitionOrdered_int_L4]
 | r + 1, j => by rw [sc_partitionOrdered_int_L1, sc_partitionOrdered_int_L4, pt1_eq d a p i r]; rfl
theorem pt2 {a b : Int} (h0 : 0 ≤ a) : ∀ (r : Nat) (d : List Int) (i j : Int), j + 1 - i < (r : Int) → 0 < r → a + 1 ≤ i → i ≤ j + 2 → a ≤ j → j ≤ b - 1 → b ≤ (d.length : Int) →
  (∀ k, a < k → k < i → gi 0 d k < gi 0 d a) → (∀ k, j < k → k < b → gi 0 d a ≤ gi 0 d k) →
  ∃ d' j', sc_partitionOrdered_int_L2 a b r d i j = .brk (d', j') ∧ a ≤ j' ∧ j' ≤ b - 1 ∧ PI 0 d d' a b ∧ (∀ k, a < k → k ≤ j' → gi 0 d' k < gi 0 d' a) ∧ (∀ k, j' < k → k < b → gi 0 d' a ≤ gi 0 d' k)
 | 0, d, i, j, hr, hr0, hi, hij, haj, hj, hb, hA, hB => by omega
 | r + 1, d, i, j, hr, hr0, hi, hij, haj, hj, hb, hA, hB => by
  rw [sc_partitionOrdered_int_L2]
  obtain ⟨i', m1, m2, m3, m4, m5⟩ := pt3 a d j ((b - a).toNat + 2) i (by omega) (by omega)
  obtain ⟨j', n1, n2, n3, n4, n5⟩ := pt4 a d i' ((b - a).toNat + 2) j (by omega) (by omega)
  rw [m1]; dsimp only; rw [n1]; dsimp only
  have hA' : ∀ k, a < k → k < i' → gi 0 d k < gi 0 d a := fun k h1 h2 => by
   by_cases e : k < i
   ·exact hA k h1 e
   ·exact m4 k (by omega) h2
  have hB' : ∀ k, j' < k → k < b → gi 0 d a ≤ gi 0 d k := fun k h1 h2 => by
   by_cases e : j < k
   ·exact hB k e h2
   ·exact n4 k h1 (by omega)
  by_cases c : j' < i'
  ·simp only [decide_eq_true c, cond_true]
   exact ⟨d, j', rfl, by omega, by omega, PI.refl _ _ _ _, fun k h1 h2 => hA' k h1 (by omega), hB'⟩
  ·simp only [decide_eq_false c, cond_false]
   have hl : i' ≠ j' := fun e => by have := m5 (by omega); have := n5 (by omega); subst e; omega
   have g : ∀ k, 0 ≤ k → gi 0 (swp 0 d i' j') k = if k = j' then gi 0 d i' else if k = i' then gi 0 d j' else gi 0 d k := fun k hk => swp_gi 0 ⟨by omega, by omega⟩ ⟨by omega, by omega⟩ hk
   have p1 := PI.swp 0 (d := d) (a := a) (b := b) (i := i') (j := j') h0 hb (by omega) (by omega)
   have ga : gi 0 (swp 0 d i' j') a = gi 0 d a := by rw [g a h0, if_neg (by omega), if_neg (by omega)]
   obtain ⟨d', q, k1, k2, k3, k4, k6, k7⟩ := pt2 (b := b) h0 r (swp 0 d i' j') (i' + 1) (j' - 1) (by omega) (by omega) (by omega) (by omega) (by omega) (by omega) (by rw [swp_len]; exact hb)
    (fun k h1 h2 => by
     rw [ga, g k (by omega), if_neg (by omega)]
     by_cases e : k = i'
     ·rw [if_pos e]; exact n5 (by omega)
     ·rw [if_neg e]; exact hA' k h1 (by omega))
    (fun k h1 h2 => by
     rw [ga, g k (by omega)]
     by_cases e : k = j'
     ·rw [if_pos e]; exact m5 (by omega)
     ·rw [if_neg e, if_neg (by omega)]; exact hB' k (by omega) h2)
   exact ⟨d', q, k1, k2, k3, p1.trans 0 k4, k6, k7⟩
theorem pt_ok {d : List Int} {a b p : Int} (h0 : 0 ≤ a) (hp : a ≤ p ∧ p < b) (hb : b ≤ (d.length : Int)) : ∀ {r : Int × Bool × List Int}, sc_partitionOrdered_int d a b p = r →
  a ≤ r.1 ∧ r.1 < b ∧ PI 0 d r.2.2 a b ∧ (∀ k, a ≤ k → k < r.1 → gi 0 r.2.2 k ≤ gi 0 r.2.2 r.1) ∧ (∀ k, r.1 < k → k < b → gi 0 r.2.2 r.1 ≤ gi 0 r.2.2 k) := fun {r} h => by
 subst h
 have p0 := PI.swp 0 (d := d) (a := a) (b := b) (i := a) (j := p) h0 hb (by omega) (by omega)
 have e : (d.set a.toNat (d.getD p.toNat 0)).set p.toNat (d.getD a.toNat 0) = swp 0 d a p := rfl
 unfold sc_partitionOrdered_int
 rw [pt0_eq]
 simp only [pt1_eq, e]
 generalize swp 0 d a p = d0 at p0
 have hb0 : b ≤ (d0.length : Int) := by rw [p0.len]; exact hb
 obtain ⟨i', m1, m2, m3, m4, m5⟩ := pt3 a d0 (b - 1) ((b - a).toNat + 2) (a + 1) (by omega) (by omega)
 rw [m1]; dsimp only
 obtain ⟨j', n1, n2, n3, n4, n5⟩ := pt4 a d0 i' ((b - a).toNat + 2) (b - 1) (by omega) (by omega)
 rw [n1]; dsimp only
 have hA' : ∀ k, a < k → k < i' → gi 0 d0 k < gi 0 d0 a := fun k h1 h2 => m4 k (by omega) h2
 have hB' : ∀ k, j' < k → k < b → gi 0 d0 a ≤ gi 0 d0 k := fun k h1 h2 => n4 k h1 (by omega)
 by_cases c : j' < i'
 ·simp only [decide_eq_true c, cond_true]
  obtain ⟨q1, q2, q3⟩ := pt_end (d := d0) (a := a) (b := b) (m := j') h0 (by omega) hb0 (fun k h1 h2 => hA' k h1 (by omega)) hB'
  exact ⟨by omega, by omega, p0.trans 0 q1, q2, q3⟩
 ·simp only [decide_eq_false c, cond_false]
  have hl : i' ≠ j' := fun e => by have := m5 (by omega); have := n5 (by omega); subst e; omega
  have g : ∀ k, 0 ≤ k → gi 0 (swp 0 d0 i' j') k = if k = j' then gi 0 d0 i' else if k = i' then gi 0 d0 j' else gi 0 d0 k := fun k hk => swp_gi 0 ⟨by omega, by omega⟩ ⟨by omega, by omega⟩ hk
  have p1 := PI.swp 0 (d := d0) (a := a) (b := b) (i := i') (j := j') h0 hb0 (by omega) (by omega)
  have ga : gi 0 (swp 0 d0 i' j') a = gi 0 d0 a := by rw [g a h0, if_neg (by omega), if_neg (by omega)]
  obtain ⟨d', q, k1, k2, k3, k4, k6, k7⟩ := pt2 (b := b) h0 ((b - a).toNat + 2) (swp 0 d0 i' j') (i' + 1) (j' - 1) (by omega) (by omega) (by omega) (by omega) (by omega) (by omega) (by rw [swp_len]; exact hb0)
   (fun k h1 h2 => by
    rw [ga, g k (by omega), if_neg (by omega)]
    by_cases e : k = i'
    ·rw [if_pos e]; exact n5 (by omega)
    ·rw [if_neg e]; exact hA' k h1 (by omega))
   (fun k h1 h2 => by
    rw [ga, g k (by omega)]
    by_cases e : k = j'
    ·rw [if_pos e]; exact m5 (by omega)
    ·rw [if_neg e, if_neg (by omega)]; exact hB' k (by omega) h2)
  have e2 : (d0.set i'.toNat (d0.getD j'.toNat 0)).set j'.toNat (d0.getD i'.toNat 0) = swp 0 d0 i' j' := rfl
  rw [e2, k1]; dsimp only
  obtain ⟨q1, q2, q3⟩ := pt_end (d := d') (a := a) (b := b) (m := q) h0 (by omega) (by rw [k4.len, swp_len]; exact hb0) k6 k7
  exact ⟨by omega, by omega, (p0.trans 0 (p1.trans 0 k4)).trans 0 q1, q2, q3⟩
theorem pt3_t {a : Int} {d : List Int} {j : Int} {r : Nat} {i : Int} (h : j + 1 - i < (r : Int)) (h0 : 0 < r) : sc_partitionOrdered_int_L3 a d j r i ≠ .oof := by
 obtain ⟨_, e, _⟩ := pt3 a d j r i h h0; exact brk_ne e
theorem pt4_t {a : Int} {d : List Int} {i : Int} {r : Nat} {j : Int} (h : j + 1 - i < (r : Int)) (h0 : 0 < r) : sc_partitionOrdered_int_L4 a d i r j ≠ .oof := by
 obtain ⟨_, e, _⟩ := pt4 a d i r j h h0; exact brk_ne e
theorem pt0_t {d : List Int} {a b p : Int} {r : Nat} {i : Int} (h : b - i < (r : Int)) (h0 : 0 < r) : sc_partitionOrdered_int_L0 d a b p r i ≠ .oof := by
 rw [pt0_eq]; exact pt3_t (by omega) h0
theorem pt1_t {d : List Int} {a p i : Int} {r : Nat} {j : Int} (h : j + 1 - i < (r : Int)) (h0 : 0 < r) : sc_partitionOrdered_int_L1 d a p i r j ≠ .oof := by
 rw [pt1_eq]; exact pt4_t h h0
theorem pt2_t {a b : Int} : ∀ (r : Nat) (d : List Int) (i j : Int), j + 1 - i < (r : Int) → 0 < r → a + 1 ≤ i → i ≤ j + 2 → j ≤ b - 1 → sc_partitionOrdered_int_L2 a b r d i j ≠ .oof
 | 0, d, i, j, hr, hr0, hi, hij, hj => by omega
 | r + 1, d, i, j, hr, hr0, hi, hij, hj => by
  rw [sc_partitionOrdered_int_L2]
  obtain ⟨i', m1, m2, m3, m4, m5⟩ := pt3 a d j ((b - a).toNat + 2) i (by omega) (by omega)
  obtain ⟨j', n1, n2, n3, n4, n5⟩ := pt4 a d i' ((b - a).toNat + 2) j (by omega) (by omega)
  rw [m1]; dsimp only; rw [n1]; dsimp only
  by_cases c : j' < i'
  ·rw [decide_eq_true c]; intro h; cases h
  ·rw [decide_eq_false c, cond_false]; exact pt2_t r _ _ _ (by omega) (by omega) (by omega) (by omega) (by omega)
def pdT (rc : List Int → Int → Int → Int → List Int) (r : Nat) (a b lim : Int) (d : List Int) (p : Int) : LR Unit (List Int) :=
 bif decide (((sc_partitionOrdered_int d a b p).1 - a) < (b - (sc_partitionOrdered_int d a b p).1)) then
  sc_pdqsortOrdered_int_F_L0 rc r (rc (sc_partitionOrdered_int d a b p).2.2 a (sc_partitionOrdered_int d a b p).1 lim) ((sc_partitionOrdered_int d a b p).1 + 1) b lim (decide (((b - a) / 8) ≤ ((sc_partitionOrdered_int d a b p).1 - a))) (sc_partitionOrdered_int d a b p).2.1
 else
  sc_pdqsortOrdered_int_F_L0 rc r (rc (sc_partitionOrdered_int d a b p).2.2 ((sc_partitionOrdered_int d a b p).1 + 1) b lim) a (sc_partitionOrdered_int d a b p).1 lim (decide (((b - a) / 8) ≤ (b - (sc_partitionOrdered_int d a b p).1))) (sc_partitionOrdered_int d a b p).2.1
def pdS (rc : List Int → Int → Int → Int → List Int) (r : Nat) (a b lim : Int) (wb wp : Bool) (d : List Int) (p : Int) : LR Unit (List Int) :=
 bif decide (0 < a) then
  bif (!(cmp_Less_int (d.getD ((a - 1) : Int).toNat 0) (d.getD (p : Int).toNat 0))) then
   sc_pdqsortOrdered_int_F_L0 rc r (sc_partitionEqualOrdered_int d a b p).2 (sc_partitionEqualOrdered_int d a b p).1 b lim wb wp
  else pdT rc r a b lim d p
 else pdT rc r a b lim d p
def pdP (rc : List Int → Int → Int → Int → List Int) (r : Nat) (a b lim : Int) (wb wp : Bool) (d : List Int) (p : Int) : LR Unit (List Int) :=
 bif (sc_partialInsertionSortOrdered_int d a b).1 then .ret (sc_partialInsertionSortOrdered_int d a b).2 else pdS rc r a b lim wb wp (sc_partialInsertionSortOrdered_int d a b).2 p
theorem pdL_eq (rc : List Int → Int → Int → Int → List Int) (r : Nat) (d : List Int) (a b lim : Int) (wb wp : Bool) : sc_pdqsortOrdered_int_F_L0 rc (r + 1) d a b lim wb wp =
  (bif decide ((b - a) ≤ 12) then .ret (sc_insertionSortOrdered_int d a b)
  else bif (lim == 0) then .ret (sc_heapSortOrdered_int d a b)
  else bif (!wb) then
   (bif ((sc_choosePivotOrdered_int (sc_breakPatternsOrdered_int d a b) a b).2 == 2) then
    pdS rc r a b (lim - 1) wb wp (sc_reverseRangeOrdered_int (sc_breakPatternsOrdered_int d a b) a b) ((b - 1) - ((sc_choosePivotOrdered_int (sc_breakPatternsOrdered_int d a b) a b).1 - a))
   else pdS rc r a b (lim - 1) wb wp (sc_breakPatternsOrdered_int d a b) (sc_choosePivotOrdered_int (sc_breakPatternsOrdered_int d a b) a b).1)
  else
   (bif ((sc_choosePivotOrdered_int d a b).2 == 2) then
    (bif wp then pdP rc r a b lim wb wp (sc_reverseRangeOrdered_int d a b) ((b - 1) - ((sc_choosePivotOrdered_int d a b).1 - a))
    else pdS rc r a b lim wb wp (sc_reverseRangeOrdered_int d a b) ((b - 1) - ((sc_choosePivotOrdered_int d a b).1 - a)))
   else
    (bif wp then
     (bif ((sc_choosePivotOrdered_int d a b).2 == 1) then pdP rc r a b lim wb wp d (sc_choosePivotOrdered_int d a b).1
     else pdS rc r a b lim wb wp d (sc_choosePivotOrdered_int d a b).1)
    else pdS rc r a b lim wb wp d (sc_choosePivotOrdered_int d a b).1))) := by
 rw [sc_pdqsortOrdered_int_F_L0]
 rfl
theorem pdl_l {rc : List Int → Int → Int → Int → List Int} {n N : Nat} (hN : N ≤ 65535)
  (hrc : ∀ (d : List Int) (a b lim : Int), 0 ≤ a → a ≤ b → b ≤ (d.length : Int) → d.length ≤ 65535 → (b - a).toNat < n → (rc d a b lim).length = d.length) :
  ∀ (r : Nat) (d : List Int) (a b lim : Int) (wb wp : Bool), b - a < (r : Int) → 0 < r → (b - a).toNat ≤ n → 0 ≤ a → a ≤ b → b ≤ (d.length : Int) → d.length = N →
   ∃ d', sc_pdqsortOrdered_int_F_L0 rc r d a b lim wb wp = .ret d' ∧ d'.length = N
 | 0, d, a, b, lim, wb, wp, hr, hr0, hn, h0, hab, hb, hd => by omega
 | r + 1, d, a, b, lim, wb, wp, hr, hr0, hn, h0, hab, hb, hd => by
  rw [pdL_eq]
  by_cases c0 : b - a ≤ 12
  ·rw [decide_eq_true c0, cond_true]
   exact ⟨_, rfl, by rw [(ins_ok (d := d) h0 hab hb).1.len]; exact hd⟩
  rw [decide_eq_false c0, cond_false]
  have fT : ∀ (lim : Int) (d : List Int) (p : Int), a ≤ p → p < b → b ≤ (d.length : Int) → d.length = N → ∃ d', pdT rc r a b lim d p = .ret d' ∧ d'.length = N := fun lim d p hp1 hp2 hb hd => by
   unfold pdT
   obtain ⟨m1, m2, m3, m4, m5⟩ := pt_ok (d := d) (a := a) (b := b) (p := p) h0 ⟨hp1, hp2⟩ hb rfl
   generalize sc_partitionOrdered_int d a b p = q at *
   have e := m3.len
   cases decide (q.1 - a < b - q.1)
   ·have k := hrc q.2.2 (q.1 + 1) b lim (by omega) (by omega) (by omega) (by omega) (by omega)
    exact pdl_l hN hrc r _ _ _ _ _ _ (by omega) (by omega) (by omega) h0 m1 (by omega) (by omega)
   ·have k := hrc q.2.2 a q.1 lim (by omega) (by omega) (by omega) (by omega) (by omega)
    exact pdl_l hN hrc r _ _ _ _ _ _ (by omega) (by omega) (by omega) (by omega) (by omega) (by omega) (by omega)
  have fS : ∀ (lim : Int) (d : List Int) (p : Int), a ≤ p → p < b → b ≤ (d.length : Int) → d.length = N → ∃ d', pdS rc r a b lim wb wp d p = .ret d' ∧ d'.length = N := fun lim d p hp1 hp2 hb hd => by
   unfold pdS
   cases decide (0 < a)
   ·exact fT lim d p hp1 hp2 hb hd
   ·cases cmp_Less_int (d.getD (a - 1).toNat 0) (d.getD p.toNat 0)
    ·obtain ⟨m1, m2, m3, m4, m5, m6⟩ := pe_ok (d := d) (a := a) (b := b) (p := p) h0 ⟨hp1, hp2⟩ hb rfl
     generalize sc_partitionEqualOrdered_int d a b p = q at *
     have e := m3.len
     exact pdl_l hN hrc r _ _ _ _ _ _ (by omega) (by omega) (by omega) (by omega) (by omega) (by omega) (by omega)
    ·exact fT lim d p hp1 hp2 hb hd
  have fP : ∀ (d : List Int) (p : Int), a ≤ p → p < b → b ≤ (d.length : Int) → d.length = N → ∃ d', pdP rc r a b lim wb wp d p = .ret d' ∧ d'.length = N := fun d p hp1 hp2 hb hd => by
   unfold pdP
   have k1 := pin_l (d := d) (a := a) (b := b) (by omega) hb
   generalize sc_partialInsertionSortOrdered_int d a b = q at *
   cases q.1
   ·exact fS lim q.2 p hp1 hp2 (by omega) (by omega)
   ·exact ⟨q.2, rfl, by omega⟩
  by_cases c1 : lim = 0
  ·rw [beq_iff_eq.2 c1, cond_true]
   exact ⟨_, rfl, by rw [(heap_ok (d := d) h0 hab hb).1.len]; exact hd⟩
  rw [beq_false_of_ne c1, cond_false]
  cases wb
  ·rw [Bool.not_false, cond_true]
   have p1 := (bp_ok (d := d) (a := a) (b := b) h0 (by omega) hb (by omega)).len
   generalize sc_breakPatternsOrdered_int d a b = d1 at *
   have hp := cp_rng d1 (a := a) (b := b) (by omega)
   generalize sc_choosePivotOrdered_int d1 a b = pv at *
   cases pv.2 == 2
   ·exact fS _ d1 _ hp.1 hp.2 (by omega) (by omega)
   ·have p2 := (rev_ok (d := d1) (a := a) (b := b) h0 hab (by omega)).len
    exact fS _ _ _ (by omega) (by omega) (by omega) (by omega)
  ·rw [Bool.not_true, cond_false]
   have hp := cp_rng d (a := a) (b := b) (by omega)
   generalize sc_choosePivotOrdered_int d a b = pv at *
   cases pv.2 == 2
   ·cases wp
    ·exact fS _ d _ hp.1 hp.2 hb hd
    ·cases pv.2 == 1
     ·exact fS _ d _ hp.1 hp.2 hb hd
     ·exact fP d _ hp.1 hp.2 hb hd
   ·have p2 := (rev_ok (d := d) (a := a) (b := b) h0 hab hb).len
    cases wp
    ·exact fS _ _ _ (by omega) (by omega) (by omega) (by omega)
    ·exact fP _ _ (by omega) (by omega) (by omega) (by omega)
theorem pdl_t {rc : List Int → Int → Int → Int → List Int} {n : Nat} (hrc : ∀ (d : List Int) (a b lim : Int), 0 ≤ a → a ≤ b → b ≤ (d.length : Int) → d.length ≤ 65535 → (b - a).toNat < n → (rc d a b lim).length = d.length)
  {r : Nat} {d : List Int} {a b lim : Int} {wb wp : Bool} (h1 : b - a < (r : Int)) (h2 : 0 < r) (h3 : (b - a).toNat ≤ n) (h4 : 0 ≤ a) (h5 : a ≤ b) (h6 : b ≤ (d.length : Int)) (h7 : d.length ≤ 65535) : sc_pdqsortOrdered_int_F_L0 rc r d a b lim wb wp ≠ .oof := by
 obtain ⟨d', k, _⟩ := pdl_l (N := d.length) h7 hrc r d a b lim wb wp h1 h2 h3 h4 h5 h6 rfl
 intro e; rw [k] at e; cases e
theorem pdq_l : ∀ (fu : Nat) (d : List Int) (a b lim : Int), (b - a).toNat < fu → 0 ≤ a → a ≤ b → b ≤ (d.length : Int) → d.length ≤ 65535 → (sc_pdqsortOrdered_int fu d a b lim).length = d.length
 | 0, d, a, b, lim, h, h0, hab, hb, hd => by omega
 | fu + 1, d, a, b, lim, h, h0, hab, hb, hd => by
  rw [sc_pdqsortOrdered_int]
  unfold sc_pdqsortOrdered_int_F
  obtain ⟨d', k1, k2⟩ := pdl_l (rc := sc_pdqsortOrdered_int fu) (n := fu) (N := d.length) hd (fun d a b lim h1 h2 h3 h4 h5 => pdq_l fu d a b lim h5 h1 h2 h3 h4) ((b - a).toNat + 1) d a b lim true true (by omega) (by omega) (by omega) h0 hab hb rfl
  rw [k1]
  exact k2
theorem num_L0 (l : List GNode) : ∀ (r : Nat) (m : List (GNode × Int)) (v : Int), v + (r : Int) = (l.length : Int) → 0 ≤ v → (∀ k, 0 ≤ (mget m k).getD 0 ∧ ((mget m k).getD 0 < (l.length : Int) ∨ (mget m k).getD 0 = 0)) →
  ∀ k, 0 ≤ (mget (gh_Build_L0 l r m v) k).getD 0 ∧ ((mget (gh_Build_L0 l r m v) k).getD 0 < (l.length : Int) ∨ (mget (gh_Build_L0 l r m v) k).getD 0 = 0)
 | 0, m, v, hr, hv, h => by rw [gh_Build_L0]; exact h
 | r + 1, m, v, hr, hv, h => by
  rw [gh_Build_L0]
  refine num_L0 l r _ _ (by omega) (by omega) fun k => ?_
  rw [mget_mset]
  split
  ·exact ⟨hv, .inl (by show v < _; omega)⟩
  ·exact h k
theorem Bk_init {l : List GNode} {m : List (GNode × Int)} (h : gh_Build_L0 l (((((l.length : Nat) : Int) : Int) - 0).toNat) [] 0 = m) (h0 : 0 < l.length) (hn : l.length ≤ 20000) :
  BOk (Gbuilder.mk (GGraph.mk l (List.replicate (((l.length : Nat) : Int) : Int).toNat []) (List.replicate (((l.length : Nat) : Int) : Int).toNat [])) m) := by
 have e : (((l.length : Nat) : Int)).toNat = l.length := by omega
 have hm := num_L0 l (((((l.length : Nat) : Int) : Int) - 0).toNat) [] 0 (by omega) (by omega) (fun k => ⟨Int.le_refl _, .inr rfl⟩)
 rw [h] at hm
 refine ⟨by simp, by simpa using h0, by simpa using hn, fun x hx => ?_, fun x hx => ?_, fun i k h1 h2 h3 h4 => ?_, fun k => ?_⟩
 ·rw [List.eq_of_mem_replicate hx]; exact EdL_nil _
 ·rw [List.eq_of_mem_replicate hx]; exact EdL_nil _
 ·have gn : ∀ (n i : Nat), (List.replicate n ([] : List Int)).getD i [] = [] := fun n i => by
   rw [List.getD_eq_getElem?_getD, List.getElem?_replicate]; split <;> rfl
  show k ∈ (List.replicate _ []).getD _ [] ↔ i ∈ (List.replicate _ []).getD _ []
  rw [gn, gn]; simp
 ·have := hm k
  simp only [List.length_replicate, e]
  refine ⟨this.1, ?_⟩
  show (mget m k).getD 0 < _
  omega
theorem gasc_L0 (l : List Int) (n : Int) : ∀ (r : Nat) (i : Int), (r : Int) = (l.length : Int) - i → 0 ≤ i → (gh_ascending_L0 l n r i = .brk () ∧ (∀ k, i ≤ k → k < (l.length : Int) → 0 ≤ l.getD k.toNat 0 ∧ l.getD k.toNat 0 < n ∧ (0 < k → l.getD (k - 1).toNat 0 < l.getD k.toNat 0))) ∨
  (gh_ascending_L0 l n r i = .ret false ∧ ¬ ∀ k, i ≤ k → k < (l.length : Int) → 0 ≤ l.getD k.toNat 0 ∧ l.getD k.toNat 0 < n ∧ (0 < k → l.getD (k - 1).toNat 0 < l.getD k.toNat 0))
 | 0, i, hr, hi => .inl ⟨by rw [gh_ascending_L0], fun k h1 h2 => by omega⟩
 | r + 1, i, hr, hi => by
  rw [gh_ascending_L0]
  by_cases c1 : l.getD i.toNat 0 < 0
  ·rw [decide_eq_true c1]; exact .inr ⟨rfl, fun h => by have := (h i (Int.le_refl _) (by omega)).1; omega⟩
  rw [decide_eq_false c1, cond_false]
  by_cases c2 : n ≤ l.getD i.toNat 0
  ·rw [decide_eq_true c2]; exact .inr ⟨rfl, fun h => by have := (h i (Int.le_refl _) (by omega)).2.1; omega⟩
  rw [decide_eq_false c2, cond_false]
  have go : (0 < i → l.getD (i - 1).toNat 0 < l.getD i.toNat 0) → (gh_ascending_L0 l n r (i + 1) = .brk () ∧ (∀ k, i ≤ k → k < (l.length : Int) → 0 ≤ l.getD k.toNat 0 ∧ l.getD k.toNat 0 < n ∧ (0 < k → l.getD (k - 1).toNat 0 < l.getD k.toNat 0))) ∨
    (gh_ascending_L0 l n r (i + 1) = .ret false ∧ ¬ ∀ k, i ≤ k → k < (l.length : Int) → 0 ≤ l.getD k.toNat 0 ∧ l.getD k.toNat 0 < n ∧ (0 < k → l.getD (k - 1).toNat 0 < l.getD k.toNat 0)) := fun hs => by
   rcases gasc_L0 l n r (i + 1) (by omega) (by omega) with ⟨h1, h2⟩ | ⟨h1, h2⟩
   ·refine .inl ⟨h1, fun k k1 k2 => ?_⟩
    by_cases e : k = i
    ·subst e; exact ⟨by omega, by omega, hs⟩
    ·exact h2 k (by omega) k2
   ·exact .inr ⟨h1, fun h => h2 fun k k1 k2 => h k (by omega) k2⟩
  by_cases c3 : 0 < i
  ·rw [decide_eq_true c3, cond_true]
   by_cases c4 : l.getD i.toNat 0 ≤ l.getD (i - 1).toNat 0
   ·rw [decide_eq_true c4]; exact .inr ⟨rfl, fun h => by have := (h i (Int.le_refl _) (by omega)).2.2 c3; omega⟩
   ·rw [decide_eq_false c4, cond_false]; exact go fun _ => by omega
  ·rw [decide_eq_false c3, cond_false]; exact go fun h => absurd h c3
theorem gasc_iff (l : List Int) (n : Int) : gh_ascending l n = true ↔ Asc l n := by
 unfold gh_ascending
 rcases gasc_L0 l n ((((l.length : Nat) : Int) - 0).toNat) 0 (by omega) (by omega) with ⟨h1, h2⟩ | ⟨h1, h2⟩
 ·rw [h1]; exact ⟨fun _ => h2, fun _ => rfl⟩
 ·rw [h1]; exact ⟨fun h => (by cases h), fun h => absurd h h2⟩
theorem count_L0 (l : List (List Int)) : ∀ (r : Nat) (e i : Int), (r : Int) = (l.length : Int) - i → 0 ≤ i → 0 ≤ e → (∃ e', gh_count_L0 l r e i = .brk e' ∧ 0 ≤ e' ∧ ∀ k, i ≤ k → k < (l.length : Int) → Asc (l.getD k.toNat []) (l.length : Int)) ∨ gh_count_L0 l r e i = .ret (-1)
 | 0, e, i, hr, hi, he => .inl ⟨e, by rw [gh_count_L0], he, fun k h1 h2 => by omega⟩
 | r + 1, e, i, hr, hi, he => by
  rw [gh_count_L0]
  cases decide (1024 < e + (((l.getD i.toNat []).length : Nat) : Int))
  ·rw [cond_false]
   cases ha : gh_ascending (l.getD i.toNat []) ((l.length : Nat) : Int)
   ·exact .inr rfl
   ·rcases count_L0 l r (e + (((l.getD i.toNat []).length : Nat) : Int)) (i + 1) (by omega) (by omega) (by omega) with ⟨e', h1, h2, h3⟩ | h1
    ·refine .inl ⟨e', h1, h2, fun k k1 k2 => ?_⟩
     by_cases c : k = i
     ·subst c; exact (gasc_iff _ _).1 ha
     ·exact h3 k (by omega) k2
    ·exact .inr h1
  ·exact .inr rfl
theorem count_rg {l : List (List Int)} {r : Int} (h : gh_count l = r) (hr : decide (r < 0) = false) : ∀ (i k : Nat), (k : Int) < ((l.getD i []).length : Int) → 0 ≤ (l.getD i []).getD k 0 ∧ (l.getD i []).getD k 0 < (l.length : Int) := fun i k hk => by
 have hr := of_decide_eq_false hr
 unfold gh_count at h
 rcases count_L0 l ((((l.length : Nat) : Int) - 0).toNat) 0 0 (by omega) (by omega) (by omega) with ⟨e', h1, h2, h3⟩ | h1
 ·by_cases hi : i < l.length
  ·have := h3 (i : Int) (by omega) (by omega) (k : Int) (by omega) (by rw [show ((i : Int)).toNat = i by omega]; exact hk)
   rw [show ((i : Int)).toNat = i by omega, show ((k : Int)).toNat = k by omega] at this
   exact ⟨this.1, this.2.1⟩
  ·rw [List.getD_eq_getElem?_getD, List.getElem?_eq_none (by omega)] at hk; simp at hk; omega
 ·rw [h1] at h; dsimp only at h; omega
theorem count_LV (l : List (List Int)) (ha : ∀ k : Nat, k < l.length → Asc (l.getD k []) (l.length : Int)) (hs : esum l ≤ 1024) : ∀ (r i : Nat), r + i = l.length → gh_count_L0 l r ((sm i (fun i => (l.getD i []).length) : Nat) : Int) (i : Int) = .brk ((esum l : Nat) : Int)
 | 0, i, h => by rw [gh_count_L0, show i = l.length by omega]; rfl
 | r + 1, i, h => by
  have e : ((i : Int)).toNat = i := by omega
  have hm := sm_mono (fun i => (l.getD i []).length) (n := i + 1) (m := l.length) (by omega)
  have hm' : sm (i + 1) (fun i => (l.getD i []).length) ≤ 1024 := Nat.le_trans hm hs
  have e2 : ((sm i (fun i => (l.getD i []).length) : Nat) : Int) + (((l.getD i []).length : Nat) : Int) = ((sm (i + 1) (fun i => (l.getD i []).length) : Nat) : Int) := by
   show _ = ((sm i (fun i => (l.getD i []).length) + (l.getD i []).length : Nat) : Int); omega
  rw [gh_count_L0, e, e2, decide_eq_false (show ¬ (1024 : Int) < _ by omega), cond_false]
  dsimp only
  rw [(gasc_iff _ _).2 (ha i (by omega)), Bool.not_true, cond_false, show (i : Int) + 1 = ((i + 1 : Nat) : Int) by omega]
  exact count_LV l ha hs r (i + 1) (by omega)
theorem count_val {l : List (List Int)} (ha : ∀ k : Nat, k < l.length → Asc (l.getD k []) (l.length : Int)) (hs : esum l ≤ 1024) : gh_count l = ((esum l : Nat) : Int) := by
 unfold gh_count
 have := count_LV l ha hs l.length 0 (by omega)
 rw [show ((((l.length : Nat) : Int) : Int) - 0).toNat = l.length by omega]
 simp only [sm] at this
 rw [show ((0 : Nat) : Int) = 0 from rfl] at this
 rw [this]
theorem Valid_L1t {g : GGraph} {a : Int} {v : List Int} (h : ∀ x ∈ v, a ∈ g.Pred.getD x.toNat []) : ∀ (r : Nat) (i : Int), 0 ≤ i → i + (r : Int) ≤ (v.length : Int) → gh_Valid_L1 g a v r i = .brk ()
 | 0, i, _, _ => by rw [gh_Valid_L1]
 | r + 1, i, h0, h1 => by
  rw [gh_Valid_L1]
  rw [(Contains_iff _ _).2 (h _ (getD_mem (by omega))), Bool.not_true, cond_false]
  exact Valid_L1t h r (i + 1) (by omega) (by omega)
theorem Valid_L0t {g : GGraph} (h : ∀ a : Int, 0 ≤ a → a < (g.Succ.length : Int) → ∀ x ∈ g.Succ.getD a.toNat [], a ∈ g.Pred.getD x.toNat []) : ∀ (r : Nat) (i : Int), 0 ≤ i → i + (r : Int) ≤ (g.Succ.length : Int) → gh_Valid_L0 g r i = .brk ()
 | 0, i, _, _ => by rw [gh_Valid_L0]
 | r + 1, i, h0, h1 => by
  rw [gh_Valid_L0, Valid_L1t (h i h0 (by omega)) _ 0 (by omega) (by omega)]
  exact Valid_L0t h r (i + 1) (by omega) (by omega)
theorem Valid_of {g : GGraph} {n : Nat} (hn : g.Nodes.length = n) (h1 : 1 ≤ n) (h2 : n ≤ 256) (h : VF g.Succ g.Pred n) (hs : esum g.Succ ≤ 1024) : gh_Valid g = true := by
 unfold gh_Valid
 have e1 := h.sl; have e2 := h.pl
 dsimp only
 rw [decide_eq_false (by omega), cond_false, decide_eq_false (by omega), cond_false]
 rw [show (((g.Succ.length : Nat) : Int) != ((g.Nodes.length : Nat) : Int)) = false by rw [e1, hn]; simp]
 rw [show (((g.Pred.length : Nat) : Int) != ((g.Nodes.length : Nat) : Int)) = false by rw [e2, hn]; simp]
 have hc := h.cnt
 rw [count_val (l := g.Succ) (fun k hk => by rw [e1]; exact h.sa k (by omega)) hs, count_val (l := g.Pred) (fun k hk => by rw [e2]; exact h.pa k (by omega)) (by omega), hc]
 rw [cond_false, cond_false, decide_eq_false (by omega), cond_false]
 rw [show (((esum g.Pred : Nat) : Int) != ((esum g.Pred : Nat) : Int)) = false by simp, cond_false]
 rw [Valid_L0t (fun a a0 a1 x hx => by
  have hx2 := Asc_mem (h.sa a.toNat (by omega)) hx
  have := (h.mi a.toNat x.toNat (by omega) (by omega)).1 (by rw [show ((x.toNat : Nat) : Int) = x by omega]; exact hx)
  rwa [show ((a.toNat : Nat) : Int) = a by omega] at this) _ 0 (by omega) (by omega)]
theorem Valid_sq {g : GGraph} {n : Nat} (hn : g.Nodes.length = n) (h1 : 1 ≤ n) (h2 : n ≤ 32) (h : VF g.Succ g.Pred n) : gh_Valid g = true :=
 Valid_of hn h1 (by omega) h (h.es (Nat.mul_le_mul h2 h2))
theorem Edges_eq {g : GGraph} {n : Nat} (h : gh_Valid g = true) (hf : VF g.Succ g.Pred n) (hs : esum g.Succ ≤ 1024) : gh_Edges g = ((esum g.Succ : Nat) : Int) := by
 unfold gh_Edges
 rw [h]
 exact count_val (fun k hk => by rw [hf.sl]; exact hf.sa k (by have := hf.sl; omega)) hs
theorem Scan1_term (text : Str) (c : Int) : ∀ (r : Nat) (col i : Int), (0 ≤ i ∧ i ≤ (text.b.length : Int)) ∧ (text.b.length : Int) - i < (r : Int) → r4_Scan_L1 text c r col i ≠ LR.oof ∧ ∀ o j, r4_Scan_L1 text c r col i = .brk (o, j) → i ≤ j ∧ j ≤ (text.b.length : Int) ∧ j - i = o - col
 | 0, col, i, h => by omega
 | r + 1, col, i, h => by
  rw [r4_Scan_L1]
  simp only [Bool.cond_eq_ite, decide_eq_true_eq]
  have ih := fun (hi : i < (text.b.length : Int)) => Scan1_term text c r (col + 1) (i + 1) (by omega)
  have stop : (LR.brk (col, i) : LR (Int × Int) (List GToken × Int × Int × Int)) ≠ LR.oof ∧ ∀ o j, (LR.brk (col, i) : LR (Int × Int) (List GToken × Int × Int × Int)) = .brk (o, j) → i ≤ j ∧ j ≤ (text.b.length : Int) ∧ j - i = o - col := ⟨fun h => (by cases h), fun o j h => by cases h; omega⟩
  repeat' split
  all_goals first
   | exact stop
   | (have h3 := ih (by assumption); exact ⟨h3.1, fun o j h => by have := h3.2 o j h; omega⟩)
theorem Scan2_term (text : Str) (i : Int) : ∀ (r : Nat) (n : Int), (0 ≤ i + n ∧ i + n ≤ (text.b.length : Int)) ∧ (text.b.length : Int) - (i + n) < (r : Int) → r4_Scan_L2 text i r n ≠ LR.oof ∧ ∀ o, r4_Scan_L2 text i r n = .brk o → n ≤ o ∧ i + o ≤ (text.b.length : Int)
 | 0, n, h => by omega
 | r + 1, n, h => by
  rw [r4_Scan_L2]
  simp only [Bool.cond_eq_ite, decide_eq_true_eq]
  have ih := fun (hi : i + n < (text.b.length : Int)) => Scan2_term text i r (n + 1) (by omega)
  have stop : (LR.brk n : LR Int (List GToken × Int × Int × Int)) ≠ LR.oof ∧ ∀ o, (LR.brk n : LR Int (List GToken × Int × Int × Int)) = .brk o → n ≤ o ∧ i + o ≤ (text.b.length : Int) := ⟨fun h => (by cases h), fun o h => by cases h; omega⟩
  repeat' split
  all_goals first
   | exact stop
   | (have h3 := ih (by assumption); exact ⟨h3.1, fun o h => by have := h3.2 o h; omega⟩)
theorem Scan1_hash {text : Str} {c : Int} {r : Nat} {col i o j : Int} (h0 : 0 ≤ i ∧ i < (text.b.length : Int)) (hc : c = 35) (ht : ((text.b.getD i.toNat 0).toNat : Int) = 35) (hr : (text.b.length : Int) < (r : Int)) (h : r4_Scan_L1 text c r col i = .brk (o, j)) : i + 1 ≤ j ∧ j ≤ (text.b.length : Int) := by
 obtain ⟨q, rfl⟩ : ∃ q, r = q + 1 := ⟨r - 1, by omega⟩
 subst hc
 rw [r4_Scan_L1] at h
 simp only [beq_self_eq_true, cond_true, decide_eq_true h0.2, ht, show ((35 : Int) != 10) = true from rfl] at h
 have := (Scan1_term text 35 q (col + 1) (i + 1) (by omega)).2 o j h
 omega
theorem Scan1_ne {text : Str} {c : Int} {r : Nat} {col i o j : Int} (hc : c ≠ 35) (hr : 1 ≤ r) (h : r4_Scan_L1 text c r col i = .brk (o, j)) : o = col ∧ j = i := by
 obtain ⟨q, rfl⟩ : ∃ q, r = q + 1 := ⟨r - 1, by omega⟩
 rw [r4_Scan_L1] at h
 have e : (c == 35) = false := by simp [hc]
 simp only [e, cond_false] at h
 cases h; exact ⟨rfl, rfl⟩
theorem Scan2_word {text : Str} {r : Nat} {i o : Int} (h0 : 0 ≤ i ∧ i < (text.b.length : Int)) (hl : r4_letter ((text.b.getD i.toNat 0).toNat : Int) = true) (hr : (text.b.length : Int) < (r : Int)) (h : r4_Scan_L2 text i r 0 = .brk o) : 1 ≤ o ∧ i + o ≤ (text.b.length : Int) := by
 obtain ⟨q, rfl⟩ : ∃ q, r = q + 1 := ⟨r - 1, by omega⟩
 rw [r4_Scan_L2] at h
 simp only [Int.add_zero, decide_eq_true h0.2, hl, cond_true] at h
 exact (Scan2_term text i q 1 (by omega)).2 o h
theorem Scan1_ret (text : Str) (c : Int) : ∀ (r : Nat) (col i : Int) (x : List GToken × Int × Int × Int), r4_Scan_L1 text c r col i ≠ LR.ret x
 | 0, col, i, x => fun h => by cases h
 | r + 1, col, i, x => by
  rw [r4_Scan_L1]
  simp only [Bool.cond_eq_ite]
  repeat' split
  all_goals first | (intro h; cases h; done) | exact Scan1_ret text c r _ _ _
theorem Scan2_ret (text : Str) (i : Int) : ∀ (r : Nat) (n : Int) (x : List GToken × Int × Int × Int), r4_Scan_L2 text i r n ≠ LR.ret x
 | 0, n, x => fun h => by cases h
 | r + 1, n, x => by
  rw [r4_Scan_L2]
  simp only [Bool.cond_eq_ite]
  repeat' split
  all_goals first | (intro h; cases h; done) | exact Scan2_ret text i r _ _
theorem Scan_term (text : Str) : ∀ (r : Nat) (out : List GToken) (line col : Int) (op : Bool) (i : Int), (0 ≤ i ∧ i ≤ (text.b.length : Int)) ∧ (text.b.length : Int) - i < (r : Int) → r4_Scan_L0 text r out line col op i ≠ LR.oof
 | 0, out, line, col, op, i, h => by omega
 | r + 1, out, line, col, op, i, h => by
  rw [r4_Scan_L0]
  by_cases hi : i < (text.b.length : Int)
  ·have t1 := fun c col => Scan1_term text c (text.b.length + 1) col i (by omega)
   have t2 := Scan2_term text i (text.b.length + 1) 0 (by omega)
   have ih := fun out line col op j (hj : i + 1 ≤ j ∧ j ≤ (text.b.length : Int)) => Scan_term text r out line col op j (by omega)
   simp only [decide_eq_true hi, cond_true]
   simp only [Bool.cond_eq_ite, beq_iff_eq, decide_eq_true_eq, bne_iff_ne]
   refine iteInduction (motive := fun x => x ≠ LR.oof) (fun _ => ih _ _ _ _ _ (by omega)) fun _ => ?_
   refine iteInduction (motive := fun x => x ≠ LR.oof) (fun _ => ih _ _ _ _ _ (by omega)) fun _ => ?_
   repeat' split
   all_goals first
    | (intro h; cases h; done)
    | exact ih _ _ _ _ _ (by omega)
    | (rename_i e; exact absurd e (t1 _ _).1)
    | (rename_i e; exact absurd e t2.1)
    | (rename_i e; exact absurd e (Scan1_ret _ _ _ _ _ _))
    | (rename_i e; exact absurd e (Scan2_ret _ _ _ _ _))
    | (have h1 := (t1 _ _).2 _ _ (by assumption); exact ih _ _ _ _ _ (by omega))
    | (exfalso; have e1 := Scan1_ne (text := text) (c := ((text.b.getD i.toNat 0).toNat : Int)) (r := text.b.length + 1) (col := col) (i := i) (by omega) (by omega) (by assumption); obtain ⟨rfl, rfl⟩ := e1; omega)
    | (have e1 := Scan1_ne (text := text) (c := ((text.b.getD i.toNat 0).toNat : Int)) (r := text.b.length + 1) (col := col) (i := i) (by omega) (by omega) (by assumption); obtain ⟨rfl, rfl⟩ := e1; exact ih _ _ _ _ _ (by omega))
    | (have h1 := Scan1_hash (text := text) (c := ((text.b.getD i.toNat 0).toNat : Int)) (r := text.b.length + 1) (col := col) (i := i) ⟨h.1.1, hi⟩ (by assumption) (by assumption) (by omega) (by assumption); exact ih _ _ _ _ _ (by omega))
    | (have h1 := Scan2_word (text := text) (r := text.b.length + 1) (i := i) ⟨h.1.1, hi⟩ (by assumption) (by omega) (by assumption); exact ih _ _ _ _ _ (by omega))
  ·simp only [decide_eq_false hi, cond_false]
   intro h; cases h
theorem is_lt {p : Gparser} {w : Str} (h : pz_is p w = true) : p.at_ < (p.l.length : Int) := by
 unfold pz_is at h
 simp only [Bool.cond_eq_ite] at h
 repeat' split at h
 all_goals first | (have := of_decide_eq_true (by assumption : decide (p.at_ < (p.l.length : Int)) = true); omega) | (cases h)
theorem is_lt2 {p : Gparser} {w : Str} {r : Bool} (e : pz_is p w = r) (h : r = true) : p.at_ < (p.l.length : Int) := is_lt (e.trans h)
theorem fail_at (p : Gparser) (e : Int) : (pz_fail p e).at_ = p.at_ := by
 unfold pz_fail
 simp only [Bool.cond_eq_ite]
 split <;> rfl
theorem adv_fail {n a : Int} {p : Gparser} {e : Int} (h : Adv n a p.at_) : Adv n a (pz_fail p e).at_ := by rw [fail_at]; exact h
theorem adv_word {n a : Int} {p : Gparser} {w : Str} (hl : (p.l.length : Int) = n) (h : Adv n a p.at_) : Adv n a (pz_word p w).at_ := by
 unfold pz_word
 cases e : pz_is p w with
 | true => have := is_lt e; simp only [Bool.not_true, cond_false]; exact ⟨by have := h.1; omega, by omega⟩
 | false => simp only [Bool.not_false, cond_true, fail_at]; exact h
theorem isName_lt {p : Gparser} (h : pz_isName p = true) : p.at_ < (p.l.length : Int) := by
 unfold pz_isName at h
 simp only [Bool.cond_eq_ite] at h
 repeat' split at h
 all_goals first | (cases h; done) | (rename_i h1 _; exact of_decide_eq_true h1) | skip
 all_goals first | (have := of_decide_eq_true (by assumption : decide (p.at_ < (p.l.length : Int)) = true); omega) | (cases h)
theorem isName_lt2 {p : Gparser} {r : Bool} (e : pz_isName p = r) (h : r = true) : p.at_ < (p.l.length : Int) := isName_lt (e.trans h)
theorem name_at {p : Gparser} (h : pz_isName p = true) : (pz_name p).2 = Gparser.mk p.l (p.at_ + 1) p.Err := by
 unfold pz_name
 simp only [h, Bool.not_true, cond_false]
theorem name_no {p : Gparser} (h : pz_isName p = false) : (pz_name p).2.at_ = p.at_ := by
 unfold pz_name
 simp only [h, Bool.not_false, cond_true, fail_at]
theorem adv_name {n a : Int} {p : Gparser} (hl : (p.l.length : Int) = n) (h : Adv n a p.at_) : Adv n a (pz_name p).2.at_ := by
 cases e : pz_isName p with
 | true => have := isName_lt e; rw [name_at e]; exact ⟨by have := h.1; dsimp only; omega, by dsimp only; omega⟩
 | false => rw [name_no e]; exact h
theorem isKind_lt {p : Gparser} {k : Int} (h : pz_isKind p k = true) : p.at_ < (p.l.length : Int) := by
 unfold pz_isKind at h
 simp only [Bool.cond_eq_ite] at h
 repeat' split at h
 all_goals first | (have := of_decide_eq_true (by assumption : decide (p.at_ < (p.l.length : Int)) = true); omega) | (cases h)
theorem isKind_lt2 {p : Gparser} {k : Int} {r : Bool} (e : pz_isKind p k = r) (h : r = true) : p.at_ < (p.l.length : Int) := isKind_lt (e.trans h)
theorem adv_kind {n a x e k : Int} {l : List GToken} (hl : (l.length : Int) = n) (hk : ¬ (!pz_isKind (Gparser.mk l x e) k) = true) (h : Adv n a x) : Adv n a (x + 1) := by
 have : pz_isKind (Gparser.mk l x e) k = true := by simpa using hk
 have := isKind_lt this
 dsimp only at this
 exact ⟨by have := h.1; omega, by omega⟩
theorem adv_end {n a : Int} {p : Gparser} (hl : (p.l.length : Int) = n) (h : Adv n a p.at_) : Adv n a (pz_end p).at_ := by
 unfold pz_end
 cases e : pz_isKind p 3 with
 | true => have := isKind_lt e; simp only [Bool.not_true, cond_false]; exact ⟨by have := h.1; omega, by omega⟩
 | false => simp only [Bool.not_false, cond_true, fail_at]; exact h
theorem begins_lt {p : Gparser} (h : pz_begins p = true) : p.at_ < (p.l.length : Int) := by
 have key : ∀ (m : Nat) (i : Int), pz_begins_L0 p m i = .ret true → p.at_ < (p.l.length : Int) := fun m => by
  induction m with
  | zero => intro i h; cases h
  | succ m ih =>
   intro i h
   rw [pz_begins_L0] at h
   simp only [Bool.cond_eq_ite] at h
   split at h
   ·exact is_lt (by assumption)
   ·exact ih _ h
 unfold pz_begins at h
 split at h
 ·exact isName_lt h
 ·rename_i r e
  subst h
  exact key _ _ e
 ·cases h
theorem more_L0_adv {p : Gparser} {hv : Int} : ∀ (r : Nat) (p1 p2 : Int) (out : List Str), (0 ≤ p1 ∧ p1 ≤ (p.l.length : Int)) ∧ (p.l.length : Int) - p1 < (r : Int) → pz_more_L0 p hv r p1 p2 out ≠ LR.oof ∧ (∀ a b o, pz_more_L0 p hv r p1 p2 out = .brk (a, b, o) → Adv p.l.length p1 a) ∧ (∀ x, pz_more_L0 p hv r p1 p2 out = .ret x → Adv p.l.length p1 x.2.at_)
 | 0, p1, p2, out, h => by omega
 | r + 1, p1, p2, out, h => by
  rw [pz_more_L0]
  cases e : pz_isName (Gparser.mk p.l p1 p2) with
  | false => exact ⟨fun h => (by cases h), fun a b o h' => (by cases h'; exact ⟨Int.le_refl _, h.1.2⟩), fun x h => (by cases h)⟩
  | true =>
   have hlt := isName_lt e
   dsimp only at hlt
   simp only [cond_true, name_at e]
   have ih := fun o => more_L0_adv (p := p) (hv := hv) r (p1 + 1) p2 o (by omega)
   simp only [Bool.cond_eq_ite]
   split
   ·refine ⟨fun h => (by cases h), fun a b o h => (by cases h), fun x h' => ?_⟩
    cases h'
    rw [fail_at]; exact ⟨Int.le_refl _, h.1.2⟩
   ·have k := ih (out ++ [(pz_name { l := p.l, at_ := p1, Err := p2 }).fst])
    exact ⟨k.1, fun a b o h' => by have := k.2.1 a b o h'; exact ⟨by have := this.1; omega, this.2⟩, fun x h' => by have := k.2.2 x h'; exact ⟨by have := this.1; omega, this.2⟩⟩
theorem adv_more {n a : Int} {p : Gparser} {v : Int} (hl : (p.l.length : Int) = n) (h0 : 0 ≤ a) (h : Adv n a p.at_) : Adv n a (pz_more p v).2.at_ := by
 have k := more_L0_adv (p := p) (hv := v) (p.l.length + 1) p.at_ p.Err [] (by have := h.1; have := h.2; omega)
 subst hl
 unfold pz_more
 split
 ·rename_i e; exact adv_trans h (k.2.1 _ _ _ e)
 ·rename_i e; exact adv_trans h (k.2.2 _ e)
 ·rename_i e; exact absurd e k.1
theorem names_L0_adv {p : Gparser} : ∀ (r : Nat) (p1 p2 : Int) (out : List Str), (0 ≤ p1 ∧ p1 ≤ (p.l.length : Int)) ∧ (p.l.length : Int) - p1 < (r : Int) → pz_names_L0 p r p1 p2 out ≠ LR.oof ∧ (∀ a b o, pz_names_L0 p r p1 p2 out = .brk (a, b, o) → Adv p.l.length p1 a) ∧ (∀ x, pz_names_L0 p r p1 p2 out = .ret x → Adv p.l.length p1 x.2.at_)
 | 0, p1, p2, out, h => by omega
 | r + 1, p1, p2, out, h => by
  rw [pz_names_L0]
  cases e : pz_isName (Gparser.mk p.l p1 p2) with
  | false => exact ⟨fun h => (by cases h), fun a b o h' => (by cases h'; exact ⟨Int.le_refl _, h.1.2⟩), fun x h => (by cases h)⟩
  | true =>
   have hlt := isName_lt e
   dsimp only at hlt
   simp only [cond_true, name_at e]
   have ih := fun o => names_L0_adv (p := p) r (p1 + 1) p2 o (by omega)
   simp only [Bool.cond_eq_ite]
   split
   ·refine ⟨fun h => (by cases h), fun a b o h => (by cases h), fun x h' => ?_⟩
    cases h'
    rw [fail_at]; exact ⟨Int.le_refl _, h.1.2⟩
   ·have k := ih (out ++ [(pz_name { l := p.l, at_ := p1, Err := p2 }).fst])
    exact ⟨k.1, fun a b o h' => by have := k.2.1 a b o h'; exact ⟨by have := this.1; omega, this.2⟩, fun x h' => by have := k.2.2 x h'; exact ⟨by have := this.1; omega, this.2⟩⟩
theorem adv_names {n a : Int} {p : Gparser} (hl : (p.l.length : Int) = n) (h0 : 0 ≤ a) (h : Adv n a p.at_) : Adv n a (pz_names p).2.at_ := by
 have k := names_L0_adv (p := p) (p.l.length + 1) p.at_ p.Err [] (by have := h.1; have := h.2; omega)
 subst hl
 unfold pz_names
 split
 ·rename_i e; exact adv_trans h (k.2.1 _ _ _ e)
 ·rename_i e; exact adv_trans h (k.2.2 _ e)
 ·rename_i e; exact absurd e k.1
theorem stmt_adv {p : Gparser} (h0 : 0 ≤ p.at_) (hb : pz_begins p = true) : Adv p.l.length (p.at_ + 1) (pz_stmt p).2.at_ := by
 have hlt := begins_lt hb
 have st : Adv p.l.length (p.at_ + 1) (p.at_ + 1) := ⟨Int.le_refl _, by omega⟩
 unfold pz_stmt
 cases e : pz_isName p with
 | false =>
  simp only [Bool.not_false, cond_true, Bool.cond_eq_ite, if_true, if_false, Bool.false_eq_true]
  repeat' split
  all_goals (repeat first | exact st | (refine adv_end rfl ?_; try dsimp only) | (refine adv_kind rfl (by assumption) ?_; try dsimp only) | (refine adv_name rfl ?_; try dsimp only) | (refine adv_fail ?_; try dsimp only) | (refine adv_names rfl (by omega) ?_; try dsimp only) | (refine adv_more rfl (by omega) ?_; try dsimp only))
 | true =>
  have nm : ∀ x y : List UInt8, x ≠ y → (Str.mk x == Str.mk y) = false := fun x y h => by
   rw [beq_eq_false_iff_ne]; intro h'; injection h' with h'; exact h h'
  simp only [Bool.not_true, cond_false, nm [] _ (List.cons_ne_nil _ _).symm, name_at e]
  simp only [Bool.cond_eq_ite, if_true, if_false, Bool.false_eq_true]
  repeat' split
  all_goals (repeat first | exact st | (refine adv_end rfl ?_; try dsimp only) | (refine adv_kind rfl (by assumption) ?_; try dsimp only) | (refine adv_name rfl ?_; try dsimp only) | (refine adv_fail ?_; try dsimp only) | (refine adv_names rfl (by omega) ?_; try dsimp only) | (refine adv_more rfl (by omega) ?_; try dsimp only))
theorem block_L0_adv {p : Gparser} {b0 : Str} : ∀ (r : Nat) (p1 p2 : Int) (out : List GStmt), (0 ≤ p1 ∧ p1 ≤ (p.l.length : Int)) ∧ (p.l.length : Int) - p1 < (r : Int) → pz_block_L0 p b0 r p1 p2 out ≠ LR.oof ∧ (∀ a b o, pz_block_L0 p b0 r p1 p2 out = .brk (a, b, o) → Adv p.l.length p1 a) ∧ (∀ x, pz_block_L0 p b0 r p1 p2 out = .ret x → Adv p.l.length p1 x.2.at_)
 | 0, p1, p2, out, h => by omega
 | r + 1, p1, p2, out, h => by
  rw [pz_block_L0]
  cases e : pz_begins (Gparser.mk p.l p1 p2) with
  | false => exact ⟨fun h => (by cases h), fun a b o h' => (by cases h'; exact ⟨Int.le_refl _, h.1.2⟩), fun x h => (by cases h)⟩
  | true =>
   have st := stmt_adv (p := Gparser.mk p.l p1 p2) h.1.1 e
   dsimp only at st
   have s1 := st.1
   have s2 := st.2
   simp only [cond_true]
   have ih := fun o => block_L0_adv (p := p) (b0 := b0) r (pz_stmt (Gparser.mk p.l p1 p2)).2.at_ (pz_stmt (Gparser.mk p.l p1 p2)).2.Err o (by omega)
   simp only [Bool.cond_eq_ite]
   split
   ·refine ⟨fun h => (by cases h), fun a b o h => (by cases h), fun x h' => ?_⟩
    cases h'
    rw [fail_at]; exact ⟨Int.le_refl _, h.1.2⟩
   ·have k := ih (out ++ [(pz_stmt (Gparser.mk p.l p1 p2)).1])
    exact ⟨k.1, fun a b o h' => by have := k.2.1 a b o h'; exact ⟨by have := this.1; omega, this.2⟩, fun x h' => by have := k.2.2 x h'; exact ⟨by have := this.1; omega, this.2⟩⟩
theorem block_adv {p : Gparser} {c : Int} (w : Adv p.l.length c (pz_word p (Str.mk [98, 108, 111, 99, 107])).at_) (h0 : 0 ≤ c) : Adv p.l.length c (pz_block p).2.at_ := by
 have n := adv_name (p := Gparser.mk p.l (pz_word p (Str.mk [98, 108, 111, 99, 107])).at_ (pz_word p (Str.mk [98, 108, 111, 99, 107])).Err) rfl w
 unfold pz_block
 simp only
 generalize hq : pz_end _ = q
 have e : Adv p.l.length c q.at_ := by rw [← hq]; exact adv_end rfl n
 have k := fun a b (ha : Adv p.l.length c a) => block_L0_adv (p := p) (b0 := (pz_name (Gparser.mk p.l (pz_word p (Str.mk [98, 108, 111, 99, 107])).at_ (pz_word p (Str.mk [98, 108, 111, 99, 107])).Err)).1) (p.l.length + 1) a b [] (by have := ha.1; have := ha.2; omega)
 cases pz_begins (Gparser.mk p.l q.at_ q.Err) with
 | true =>
  simp only [Bool.not_true, cond_false]
  split
  ·rename_i e'; exact adv_trans e ((k _ _ e).2.1 _ _ _ e')
  ·rename_i e'; exact adv_trans e ((k _ _ e).2.2 _ e')
  ·rename_i e'; exact absurd e' (k _ _ e).1
 | false =>
  simp only [Bool.not_false, cond_true]
  have f := adv_fail (p := Gparser.mk p.l q.at_ q.Err) (e := 4) e
  split
  ·rename_i e'; exact adv_trans f ((k _ _ f).2.1 _ _ _ e')
  ·rename_i e'; exact adv_trans f ((k _ _ f).2.2 _ e')
  ·rename_i e'; exact absurd e' (k _ _ f).1
theorem block_step {p : Gparser} (h : Adv p.l.length p.at_ p.at_) (h0 : 0 ≤ p.at_) (hw : pz_is p (Str.mk [98, 108, 111, 99, 107]) = true) : Adv p.l.length (p.at_ + 1) (pz_block p).2.at_ := by
 have hlt := is_lt hw
 refine block_adv ?_ (by omega)
 unfold pz_word
 simp only [hw, Bool.not_true, cond_false]
 exact ⟨Int.le_refl _, by omega⟩
theorem function_L0_adv {p : Gparser} {f0 : Str} : ∀ (r : Nat) (p1 p2 : Int) (out : List GBlock), (0 ≤ p1 ∧ p1 ≤ (p.l.length : Int)) ∧ (p.l.length : Int) - p1 < (r : Int) → pz_function_L0 p f0 r p1 p2 out ≠ LR.oof ∧ (∀ a b o, pz_function_L0 p f0 r p1 p2 out = .brk (a, b, o) → Adv p.l.length p1 a) ∧ (∀ x, pz_function_L0 p f0 r p1 p2 out = .ret x → Adv p.l.length p1 x.2.at_)
 | 0, p1, p2, out, h => by omega
 | r + 1, p1, p2, out, h => by
  rw [pz_function_L0]
  cases e : pz_is (Gparser.mk p.l p1 p2) (Str.mk [98, 108, 111, 99, 107]) with
  | false => exact ⟨fun h => (by cases h), fun a b o h' => (by cases h'; exact ⟨Int.le_refl _, h.1.2⟩), fun x h => (by cases h)⟩
  | true =>
   have st := block_step (p := Gparser.mk p.l p1 p2) ⟨Int.le_refl _, h.1.2⟩ h.1.1 e
   dsimp only at st
   have s1 := st.1
   have s2 := st.2
   simp only [cond_true]
   have ih := fun o => function_L0_adv (p := p) (f0 := f0) r (pz_block (Gparser.mk p.l p1 p2)).2.at_ (pz_block (Gparser.mk p.l p1 p2)).2.Err o (by omega)
   simp only [Bool.cond_eq_ite]
   split
   ·refine ⟨fun h => (by cases h), fun a b o h => (by cases h), fun x h' => ?_⟩
    cases h'
    rw [fail_at]; exact ⟨Int.le_refl _, h.1.2⟩
   ·have k := ih (out ++ [(pz_block (Gparser.mk p.l p1 p2)).1])
    exact ⟨k.1, fun a b o h' => by have := k.2.1 a b o h'; exact ⟨by have := this.1; omega, this.2⟩, fun x h' => by have := k.2.2 x h'; exact ⟨by have := this.1; omega, this.2⟩⟩
theorem function_adv {p : Gparser} {c : Int} (w : Adv p.l.length c (pz_word p (Str.mk [102, 117, 110, 99])).at_) (h0 : 0 ≤ c) : Adv p.l.length c (pz_function p).2.at_ := by
 have n := adv_name (p := Gparser.mk p.l (pz_word p (Str.mk [102, 117, 110, 99])).at_ (pz_word p (Str.mk [102, 117, 110, 99])).Err) rfl w
 unfold pz_function
 simp only
 generalize hq : pz_end _ = q
 have e : Adv p.l.length c q.at_ := by rw [← hq]; exact adv_end rfl n
 have k := fun a b (ha : Adv p.l.length c a) => function_L0_adv (p := p) (f0 := (pz_name (Gparser.mk p.l (pz_word p (Str.mk [102, 117, 110, 99])).at_ (pz_word p (Str.mk [102, 117, 110, 99])).Err)).1) (p.l.length + 1) a b [] (by have := ha.1; have := ha.2; omega)
 cases pz_is (Gparser.mk p.l q.at_ q.Err) (Str.mk [98, 108, 111, 99, 107]) with
 | true =>
  simp only [Bool.not_true, cond_false]
  split
  ·rename_i e'
   refine adv_end rfl ?_
   dsimp only
   refine adv_word rfl ?_
   exact adv_trans e ((k _ _ e).2.1 _ _ _ e')
  ·rename_i e'; exact adv_trans e ((k _ _ e).2.2 _ e')
  ·rename_i e'; exact absurd e' (k _ _ e).1
 | false =>
  simp only [Bool.not_false, cond_true]
  have f := adv_fail (p := Gparser.mk p.l q.at_ q.Err) (e := 4) e
  split
  ·rename_i e'
   refine adv_end rfl ?_
   dsimp only
   refine adv_word rfl ?_
   exact adv_trans f ((k _ _ f).2.1 _ _ _ e')
  ·rename_i e'; exact adv_trans f ((k _ _ f).2.2 _ e')
  ·rename_i e'; exact absurd e' (k _ _ f).1
theorem function_step {p : Gparser} (h : Adv p.l.length p.at_ p.at_) (h0 : 0 ≤ p.at_) (hw : pz_is p (Str.mk [102, 117, 110, 99]) = true) : Adv p.l.length (p.at_ + 1) (pz_function p).2.at_ := by
 have hlt := is_lt hw
 refine function_adv ?_ (by omega)
 unfold pz_word
 simp only [hw, Bool.not_true, cond_false]
 exact ⟨Int.le_refl _, by omega⟩
theorem psm_of {t : Str} {r : GProgram × Int × Int × Int} (h : r4_Parse t = r) (e : PSm (r4_Parse t).1 = true) : PSm r.1 = true := h ▸ e
theorem Parse_L0_adv {l : List GToken} : ∀ (r : Nat) (p1 p2 : Int) (out : List GFunc), (0 ≤ p1 ∧ p1 ≤ (l.length : Int)) ∧ (l.length : Int) - p1 < (r : Int) → r4_Parse_L0 l r p1 p2 out ≠ LR.oof ∧ (∀ a b o, r4_Parse_L0 l r p1 p2 out = .brk (a, b, o) → Adv l.length p1 a) ∧ (∀ x, r4_Parse_L0 l r p1 p2 out ≠ .ret x)
 | 0, p1, p2, out, h => by omega
 | r + 1, p1, p2, out, h => by
  rw [r4_Parse_L0]
  cases e : pz_is (Gparser.mk l p1 p2) (Str.mk [102, 117, 110, 99]) with
  | false => exact ⟨fun h => (by cases h), fun a b o h' => (by cases h'; exact ⟨Int.le_refl _, h.1.2⟩), fun x h => (by cases h)⟩
  | true =>
   have st := function_step (p := Gparser.mk l p1 p2) ⟨Int.le_refl _, h.1.2⟩ h.1.1 e
   dsimp only at st
   have s1 := st.1
   have s2 := st.2
   simp only [cond_true]
   have ih := fun o => Parse_L0_adv (l := l) r (pz_function (Gparser.mk l p1 p2)).2.at_ (pz_function (Gparser.mk l p1 p2)).2.Err o (by omega)
   simp only [Bool.cond_eq_ite]
   split
   ·refine ⟨fun h => (by cases h), fun a b o h' => ?_, fun x h' => (by cases h')⟩
    cases h'
    rw [fail_at]; exact ⟨Int.le_refl _, h.1.2⟩
   ·have k := ih (out ++ [(pz_function (Gparser.mk l p1 p2)).1])
    exact ⟨k.1, fun a b o h' => by have := k.2.1 a b o h'; exact ⟨by have := this.1; omega, this.2⟩, k.2.2⟩
theorem Ints_self (a : List Int) : r7_Ints a a = true := by
 have := scan (fun r i => r7_Ints_L0 a a r i) (fun i => a.getD i.toNat 0 != a.getD i.toNat 0) false () (fun _ => rfl) (fun _ _ => rfl) ((((a.length : Nat) : Int) - 0).toNat) 0
 unfold r7_Ints
 rcases this with ⟨e, j, j1, j2, j3⟩ | ⟨e, h⟩
 ·simp at j3
 ·rw [e]; simp
theorem sane8_true : w8_sane = true := by kernel_rfl
theorem Ins_L0 (l : List Int) (x : Int) : ∀ (r : Nat) (i : Int), 0 ≤ i → i + (r : Int) = (l.length : Int) → ∃ o : Nat, r7_Insert_L0 l x r i = (o : Int) ∧ i.toNat ≤ o ∧ o ≤ l.length ∧ (∀ k, i.toNat ≤ k → k < o → l.getD k 0 < x) ∧ (o < l.length → x ≤ l.getD o 0)
 | 0, i, h0, h => ⟨i.toNat, by rw [r7_Insert_L0]; omega, Nat.le_refl _, by omega, fun k h1 h2 => by omega, fun hh => by omega⟩
 | r + 1, i, h0, h => by
  rw [r7_Insert_L0]
  by_cases c : l.getD i.toNat 0 < x
  ·rw [decide_eq_true c, cond_true]
   obtain ⟨o, h1, h2, h3, h4, h5⟩ := Ins_L0 l x r (i + 1) (by omega) (by omega)
   refine ⟨o, h1, by omega, h3, fun k k1 k2 => ?_, h5⟩
   by_cases e : k = i.toNat
   ·rw [e]; exact c
   ·exact h4 k (by omega) k2
  ·rw [decide_eq_false c, cond_false]
   exact ⟨i.toNat, by omega, Nat.le_refl _, by omega, fun k h1 h2 => by omega, fun hh => by omega⟩
theorem Insert_spec {l : List Int} {n x : Int} (h : Asc l n) (hx : 0 ≤ x ∧ x < n) : Asc (r7_Insert l x) n ∧ ∀ y, y ∈ r7_Insert l x ↔ y = x ∨ y ∈ l := by
 obtain ⟨o, h1, -, h3, h4, h5⟩ := Ins_L0 l x (((((l.length : Nat) : Int) : Int) - 0).toNat) 0 (by omega) (by omega)
 have core : (o < l.length → x < l.getD o 0) → Asc ((((l.take (((o : Nat) : Int) : Int).toNat).drop 0) ++ [x]) ++ ((l.take l.length).drop (((o : Nat) : Int) : Int).toNat)) n ∧ ∀ y, y ∈ ((((l.take (((o : Nat) : Int) : Int).toNat).drop 0) ++ [x]) ++ ((l.take l.length).drop (((o : Nat) : Int) : Int).toNat)) ↔ y = x ∨ y ∈ l := by
  intro hgt
  rw [Int.toNat_natCast, List.drop_zero, List.take_length]
  obtain ⟨p1, p2⟩ := (Asc_iff l n).1 h
  have ht : ∀ y ∈ l.take o, y < x := by
   intro y hy
   obtain ⟨k, hk, e⟩ := List.mem_iff_getElem.1 hy
   rw [List.length_take] at hk
   have := h4 k (by omega) (by omega)
   rw [getD_lt (by omega)] at this
   rw [List.getElem_take] at e
   rw [← e]; exact this
  have hd : ∀ y ∈ l.drop o, x < y := by
   intro y hy
   obtain ⟨k, hk, e⟩ := List.mem_iff_getElem.1 hy
   rw [List.length_drop] at hk
   rw [List.getElem_drop] at e
   have h0 := hgt (by omega)
   by_cases k0 : k = 0
   ·subst k0
    rw [getD_lt (by omega)] at h0
    rw [← e]; exact h0
   ·have h6 := Asc_lt h o (k - 1) (by omega)
    rw [show o + (k - 1) + 1 = o + k by omega, getD_lt (k := o + k) (by omega), e] at h6
    omega
  refine ⟨(Asc_iff _ _).2 ⟨List.pairwise_append.2 ⟨List.pairwise_append.2 ⟨p1.sublist (List.take_sublist _ _), List.pairwise_singleton _ _, fun a ha b hb => ?_⟩, p1.sublist (List.drop_sublist _ _), fun a ha b hb => ?_⟩, fun y hy => ?_⟩, fun y => ?_⟩
  ·rw [List.mem_singleton] at hb; rw [hb]; exact ht a ha
  ·rcases List.mem_append.1 ha with ha | ha
   ·exact Int.lt_trans (ht a ha) (hd b hb)
   ·rw [List.mem_singleton] at ha; rw [ha]; exact hd b hb
  ·rcases List.mem_append.1 hy with hy | hy
   ·rcases List.mem_append.1 hy with hy | hy
    ·exact p2 y (List.mem_of_mem_take hy)
    ·rw [List.mem_singleton] at hy; rw [hy]; exact hx
   ·exact p2 y (List.mem_of_mem_drop hy)
  ·rw [List.mem_append, List.mem_append, List.mem_singleton]
   constructor
   ·rintro ((hy | hy) | hy)
    ·exact .inr (List.mem_of_mem_take hy)
    ·exact .inl hy
    ·exact .inr (List.mem_of_mem_drop hy)
   ·rintro (hy | hy)
    ·exact .inl (.inr hy)
    ·rw [← List.take_append_drop o l, List.mem_append] at hy
     rcases hy with hy | hy
     ·exact .inl (.inl hy)
     ·exact .inr hy
 unfold r7_Insert
 rw [h1]
 dsimp only
 by_cases c : o < l.length
 ·rw [decide_eq_true (by omega : ((o : Nat) : Int) < ((l.length : Nat) : Int)), cond_true]
  have h6 := h5 c
  rw [show (l.getD (((o : Nat) : Int)).toNat 0) = l.getD o 0 by rw [Int.toNat_natCast]]
  by_cases e : l.getD o 0 = x
  ·rw [beq_iff_eq.2 e, cond_true]
   refine ⟨h, fun y => ⟨.inr, ?_⟩⟩
   rintro (rfl | hy)
   ·rw [← e]; exact getD_mem c
   ·exact hy
  ·rw [beq_eq_false_iff_ne.2 e, cond_false]
   exact core fun _ => by omega
 ·rw [decide_eq_false (by omega : ¬ ((o : Nat) : Int) < ((l.length : Nat) : Int)), cond_false]
  exact core fun hh => absurd hh c
theorem VF.ins {S P : List (List Int)} {n a b : Nat} (h : VF S P n) (ha : a < n) (hb : b < n) : VF (S.set a (r7_Insert (S.getD a []) (b : Int))) (P.set b (r7_Insert (P.getD b []) (a : Int))) n := by
 have hA := Insert_spec (h.sa a ha) (x := (b : Int)) (by omega)
 have hB := Insert_spec (h.pa b hb) (x := (a : Int)) (by omega)
 have e1 := h.sl; have e2 := h.pl
 refine ⟨by rw [List.length_set]; exact e1, by rw [List.length_set]; exact e2, fun k hk => ?_, fun k hk => ?_, fun i k hi hk => ?_⟩
 ·rw [gset (by omega)]; split
  ·exact hA.1
  ·exact h.sa k hk
 ·rw [gset (by omega)]; split
  ·exact hB.1
  ·exact h.pa k hk
 ·rw [gset (by omega), gset (by omega)]
  by_cases c1 : i = a
  ·rw [if_pos c1]
   by_cases c2 : k = b
   ·rw [if_pos c2]
    exact ⟨fun _ => (hB.2 _).2 (.inl (by omega)), fun _ => (hA.2 _).2 (.inl (by omega))⟩
   ·rw [if_neg c2, hA.2, ← h.mi i k hi hk, c1]
    exact ⟨fun hh => hh.resolve_left (by omega), .inr⟩
  ·rw [if_neg c1]
   by_cases c2 : k = b
   ·rw [if_pos c2, hB.2, h.mi i k hi hk, c2]
    exact ⟨.inr, fun hh => hh.resolve_left (by omega)⟩
   ·rw [if_neg c2]; exact h.mi i k hi hk
theorem TG_L0 {t : List Int} {n : Int} (hn : 1 ≤ n ∧ n ≤ 1000) : ∀ (r : Nat) (ti : Int) (s p : List (List Int)) (k : Int), VF s p n.toNat → VF (tp_Graph_L0 t n r ti s p k).2.1 (tp_Graph_L0 t n r ti s p k).2.2 n.toNat
 | 0, ti, s, p, k, h => by rw [tp_Graph_L0]; exact h
 | r + 1, ti, s, p, k, h => by
  rw [tp_Graph_L0]
  have h1 := Next_rg t ti n (by omega)
  have h2 := Next_rg t (tp_Next t ti n).2 n (by omega)
  refine TG_L0 hn r _ _ _ _ ?_
  have := h.ins (a := ((tp_Next t ti n).1).toNat) (b := ((tp_Next t (tp_Next t ti n).2 n).1).toNat) (by omega) (by omega)
  rwa [show ((((tp_Next t ti n).1).toNat : Nat) : Int) = (tp_Next t ti n).1 by omega, show ((((tp_Next t (tp_Next t ti n).2 n).1).toNat : Nat) : Int) = (tp_Next t (tp_Next t ti n).2 n).1 by omega] at this
theorem TG_ok (t : List Int) (i m : Int) (hm : 1 ≤ m ∧ m ≤ 200) : ∃ n : Nat, 1 ≤ n ∧ n ≤ m.toNat ∧ (tp_Graph t i m).1.Nodes.length = n ∧ VF (tp_Graph t i m).1.Succ (tp_Graph t i m).1.Pred n := by
 have h1 := Next_rg t i m (by omega)
 refine ⟨(1 + (tp_Next t i m).1).toNat, by omega, by omega, ?_, ?_⟩
 ·unfold tp_Graph; exact List.length_replicate
 ·have := TG_L0 (t := t) (n := 1 + (tp_Next t i m).1) (by omega) ((tp_Next t (tp_Next t i m).2 ((2 * (1 + (tp_Next t i m).1)) + 1)).1).toNat (tp_Next t (tp_Next t i m).2 ((2 * (1 + (tp_Next t i m).1)) + 1)).2 _ _ ((tp_Next t (tp_Next t i m).2 ((2 * (1 + (tp_Next t i m).1)) + 1)).1) (VF.nil _)
  unfold tp_Graph; exact this
theorem lists_L0e (l : List (List Int)) : ∀ (r : Nat) (out : List (List Int)) (i : Nat), i + r = l.length → gh_lists_L0 l r out (i : Int) = out ++ l.drop i
 | 0, out, i, h => by rw [gh_lists_L0, List.drop_of_length_le (by omega), List.append_nil]
 | r + 1, out, i, h => by
  rw [gh_lists_L0, show (i : Int) + 1 = ((i + 1 : Nat) : Int) by omega, lists_L0e l r _ (i + 1) (by omega), Int.toNat_natCast, List.append_assoc]
  rw [List.drop_eq_getElem_cons (show i < l.length by omega), List.getD_eq_getElem?_getD, List.getElem?_eq_getElem (show i < l.length by omega)]
  rfl
theorem lists_eq (l : List (List Int)) : gh_lists l = l := by
 unfold gh_lists
 have := lists_L0e l ((((l.length : Nat) : Int) - 0).toNat) [] 0 (by omega)
 rw [show ((0 : Nat) : Int) = 0 from rfl] at this
 rw [this]; rfl
theorem Rev_eq {g : GGraph} (h : gh_Valid g = true) : gh_Reverse g = (GGraph.mk g.Nodes g.Pred g.Succ, 0) := by
 unfold gh_Reverse
 rw [h, lists_eq, lists_eq]; rfl
theorem SL_L0 (a : List (List Int)) : ∀ (r : Nat) (i : Int), r7_SameLists_L0 a a r i = .brk ()
 | 0, i => by rw [r7_SameLists_L0]
 | r + 1, i => by rw [r7_SameLists_L0, Ints_self]; exact SL_L0 a r (i + 1)
theorem SL_refl (a : List (List Int)) : r7_SameLists a a = true := by
 unfold r7_SameLists
 rw [show (((a.length : Nat) : Int) != ((a.length : Nat) : Int)) = false by simp, SL_L0]; rfl
theorem SG_L0 (a : GGraph) : ∀ (r : Nat) (i : Int), r7_SameGraph_L0 a a r i = .brk ()
 | 0, i => by rw [r7_SameGraph_L0]
 | r + 1, i => by rw [r7_SameGraph_L0, bne_self_eq_false, cond_false]; exact SG_L0 a r (i + 1)
theorem SG_refl (a : GGraph) : r7_SameGraph a a = true := by
 unfold r7_SameGraph
 rw [show (((a.Nodes.length : Nat) : Int) != ((a.Nodes.length : Nat) : Int)) = false by simp, SL_refl, SL_refl, SG_L0]; rfl
theorem GraphReverse_true (t : List Int) : w8_GraphReverse t = true := by
 unfold w8_GraphReverse
 obtain ⟨n, h1, h2, h3, h4⟩ := TG_ok t 0 9 (by omega)
 dsimp only
 generalize (tp_Graph t 0 9).1 = g at *
 have hn : n ≤ 9 := by omega
 have hv := Valid_sq h3 h1 (by omega) h4
 have hv2 : gh_Valid (GGraph.mk g.Nodes g.Pred g.Succ) = true := Valid_sq (g := GGraph.mk g.Nodes g.Pred g.Succ) h3 h1 (by omega) h4.symm
 have hes := h4.es (Nat.le_trans (Nat.mul_le_mul hn hn) (show 9 * 9 ≤ 1024 by decide))
 have hes2 := h4.symm.es (Nat.le_trans (Nat.mul_le_mul hn hn) (show 9 * 9 ≤ 1024 by decide))
 rw [Rev_eq hv]
 dsimp only
 rw [Rev_eq hv2, Edges_eq hv2 h4.symm hes2, Edges_eq hv h4 hes]
 dsimp only
 rw [SG_refl, hv2, show esum g.Pred = esum g.Succ from h4.cnt.symm, sane8_true]
 simp
theorem fo52_1 : fldOff Tryd.prog 52 1 = some 1 := by kernel_rfl
theorem fo52_0 : fldOff Tryd.prog 52 0 = some 0 := by kernel_rfl
theorem sh22 : tyShape Tryd.prog 22 = some (false, 1) := by kernel_rfl
theorem sl22 : slTy Tryd.prog 22 = some (3, 1, 8) := by kernel_rfl
theorem ca44 : callable Tryd.prog 44 = true := by kernel_rfl
theorem fo62_1 : fldOff Tryd.prog 62 1 = some 1 := by kernel_rfl
theorem fo62_2 : fldOff Tryd.prog 62 2 = some 2 := by kernel_rfl
theorem sh54 : tyShape Tryd.prog 54 = some (false, 1) := by kernel_rfl
theorem fo62_3 : fldOff Tryd.prog 62 3 = some 3 := by kernel_rfl
theorem fo62_0 : fldOff Tryd.prog 62 0 = some 0 := by kernel_rfl
theorem sh3 : tyShape Tryd.prog 3 = some (false, 1) := by kernel_rfl
theorem fmix : Tryd.prog.follows .mixedOrders = true := by kernel_rfl
theorem fo72_0 : fldOff Tryd.prog 72 0 = some 0 := by kernel_rfl
theorem fo32_1 : fldOff Tryd.prog 32 1 = some 1 := by kernel_rfl
theorem sh30 : tyShape Tryd.prog 30 = some (false, 1) := by kernel_rfl
theorem sl30 : slTy Tryd.prog 30 = some (22, 1, 24) := by kernel_rfl
theorem ca31 : callable Tryd.prog 31 = true := by kernel_rfl
theorem sz22 : slZero Tryd.prog 22 = some [vi 0] := by kernel_rfl
theorem fo32_2 : fldOff Tryd.prog 32 2 = some 2 := by kernel_rfl
theorem ca58 : callable Tryd.prog 58 = true := by kernel_rfl
theorem ca59 : callable Tryd.prog 59 = true := by kernel_rfl
theorem fo32_0 : fldOff Tryd.prog 32 0 = some 0 := by kernel_rfl
theorem sh29 : tyShape Tryd.prog 29 = some (false, 1) := by kernel_rfl
theorem ca30 : callable Tryd.prog 30 = true := by kernel_rfl
theorem ca23 : callable Tryd.prog 23 = true := by kernel_rfl
theorem sl29 : slTy Tryd.prog 29 = some (41, 4, 32) := by kernel_rfl
theorem sz29 : slZero Tryd.prog 29 = some [vi 0, vi 0, vi 0, vi 0] := by kernel_rfl
theorem ca10 : callable Tryd.prog 10 = true := by kernel_rfl
theorem ze32 : zeroOf Tryd.prog 32 = some (.agg #[.slice none 0 0, .slice none 0 0, .slice none 0 0]) := by kernel_rfl
theorem st32 : stTy Tryd.prog 32 = some ([(0, 1), (1, 1), (2, 1)], [.slice none 0 0, .slice none 0 0, .slice none 0 0]) := by kernel_rfl
theorem sh32 : tyShape Tryd.prog 32 = some (true, 3) := by kernel_rfl
theorem ca24 : callable Tryd.prog 24 = true := by kernel_rfl
theorem sz30 : slZero Tryd.prog 30 = some [.slice none 0 0] := by kernel_rfl
theorem st72 : stTy Tryd.prog 72 = some ([(0, 3), (3, 1)], [.slice none 0 0, .slice none 0 0, .slice none 0 0, .map none]) := by kernel_rfl
theorem fo41_0 : fldOff Tryd.prog 41 0 = some 0 := by kernel_rfl
theorem ca27 : callable Tryd.prog 27 = true := by kernel_rfl
theorem ca28 : callable Tryd.prog 28 = true := by kernel_rfl
end Go.SL.G
