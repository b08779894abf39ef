/- Part 2 of the walks: mirrors, plain laws and walks used by the last text of this claim. -/
import Derived.Test.YtnlgcebcopebdaaGreatDoorW1
import Derived.Test.YtnlgcebcopebdaaGreatDoorProg
set_option linter.unusedVariables false
set_option linter.unusedSimpArgs false
namespace Go.SL.G
open Go Go.SL Go.Proofs
set_option maxHeartbeats 20000000
set_option maxRecDepth 100000
structure GStmt where
 Op : Int
 Def : Str
 Uses : List Str
 Targets : List Str
instance : Inhabited GStmt := ⟨⟨0, ⟨[]⟩, [], []⟩⟩
structure GBlock where
 Name : Str
 Stmts : List GStmt
instance : Inhabited GBlock := ⟨⟨⟨[]⟩, []⟩⟩
structure GFunc where
 Name : Str
 Blocks : List GBlock
instance : Inhabited GFunc := ⟨⟨⟨[]⟩, []⟩⟩
structure GProgram where
 Funcs : List GFunc
instance : Inhabited GProgram := ⟨⟨[]⟩⟩
structure GNode where
 Kind : Int
 Func : Int
 Block : Int
 Stmt : Int
instance : Inhabited GNode := ⟨⟨0, 0, 0, 0⟩⟩
structure GGraph where
 Nodes : List GNode
 Succ : List (List Int)
 Pred : List (List Int)
instance : Inhabited GGraph := ⟨⟨[], [], []⟩⟩
structure GToken where
 Kind : Int
 Text : Str
 Line : Int
 Col : Int
instance : Inhabited GToken := ⟨⟨0, ⟨[]⟩, 0, 0⟩⟩
structure Gparser where
 l : List GToken
 at_ : Int
 Err : Int
instance : Inhabited Gparser := ⟨⟨[], 0, 0⟩⟩
structure Gbuilder where
 g : GGraph
 number : List (GNode × Int)
instance : Inhabited Gbuilder := ⟨⟨⟨[], [], []⟩, []⟩⟩
def tab0 : Str := (Str.mk [0, 1, 2, 2, 3, 3, 3, 3, 4, 4, 4, 4, 4, 4, 4, 4, 5, 5, 5, 5, 5, 5, 5, 5, 5, 5, 5, 5, 5, 5, 5, 5, 6, 6, 6, 6, 6, 6, 6, 6, 6, 6, 6, 6, 6, 6, 6, 6, 6, 6, 6, 6, 6, 6, 6, 6, 6, 6, 6, 6, 6, 6, 6, 6, 7, 7, 7, 7, 7, 7, 7, 7, 7, 7, 7, 7, 7, 7, 7, 7, 7, 7, 7, 7, 7, 7, 7, 7, 7, 7, 7, 7, 7, 7, 7, 7, 7, 7, 7, 7, 7, 7, 7, 7, 7, 7, 7, 7, 7, 7, 7, 7, 7, 7, 7, 7, 7, 7, 7, 7, 7, 7, 7, 7, 7, 7, 7, 7, 8, 8, 8, 8, 8, 8, 8, 8, 8, 8, 8, 8, 8, 8, 8, 8, 8, 8, 8, 8, 8, 8, 8, 8, 8, 8, 8, 8, 8, 8, 8, 8, 8, 8, 8, 8, 8, 8, 8, 8, 8, 8, 8, 8, 8, 8, 8, 8, 8, 8, 8, 8, 8, 8, 8, 8, 8, 8, 8, 8, 8, 8, 8, 8, 8, 8, 8, 8, 8, 8, 8, 8, 8, 8, 8, 8, 8, 8, 8, 8, 8, 8, 8, 8, 8, 8, 8, 8, 8, 8, 8, 8, 8, 8, 8, 8, 8, 8, 8, 8, 8, 8, 8, 8, 8, 8, 8, 8, 8, 8, 8, 8, 8, 8, 8, 8, 8, 8, 8, 8, 8, 8, 8, 8, 8, 8, 8, 8])
def kwL : List Str := [⟨[102, 117, 110, 99]⟩, ⟨[98, 108, 111, 99, 107]⟩, ⟨[101, 110, 100]⟩, ⟨[117, 115, 101]⟩, ⟨[99, 97, 108, 108]⟩, ⟨[115, 111, 117, 114, 99, 101]⟩, ⟨[115, 105, 110, 107]⟩, ⟨[115, 97, 110, 105, 116, 105, 122, 101]⟩, ⟨[103, 111, 116, 111]⟩, ⟨[98, 114, 97, 110, 99, 104]⟩, ⟨[114, 101, 116, 117, 114, 110]⟩]
instance : DecidableEq GNode := fun a b => decidable_of_iff (a.Kind = b.Kind ∧ a.Func = b.Func ∧ a.Block = b.Block ∧ a.Stmt = b.Stmt) (by cases a; cases b; simp)
abbrev ok_GNode (x : GNode) : Prop := i64ok x.Kind ∧ i64ok x.Func ∧ i64ok x.Block ∧ i64ok x.Stmt
abbrev ev_GNode (x : GNode) : Value := .agg #[vi x.Kind, vi x.Func, vi x.Block, vi x.Stmt]
instance rep_GStmt : Rep GStmt where
 sz := 4
 bytes := 72
 pos := by decide
 bpos := by decide
 rd w M cs x := ∃ c2 c3, cs = [.int .i64 x.Op, .string (bs x.Def), c2, c3] ∧ i64ok x.Op ∧ x.Def.b.length ≤ 140737488355328 ∧ slrd w M c2 x.Uses ∧ slrd w M c3 x.Targets
 len := by rintro w M cs x ⟨c2, c3, rfl, h0, h1, h2, h3⟩; rfl
 one := by
  rintro w M cs x ⟨c2, c3, rfl, h0, h1, h2, h3⟩ v hv
  simp only [List.mem_cons, List.not_mem_nil, or_false] at hv
  rcases hv with rfl | rfl | rfl | rfl
  all_goals first | rfl | exact slrd_one h2 | exact slrd_one h3
 st := by
  rintro w M cs x w' M' ⟨c2, c3, rfl, h0, h1, h2, h3⟩ e
  exact ⟨c2, c3, rfl, h0, h1, slrd_st h2 e, slrd_st h3 e⟩
theorem JJ_peek_GStmt {C : Cx} {X : Act → World → Prop} {L : Env} {A : List SP} {c : Value} {xs : List GStmt} (i m : Nat) (hA : A[m]? = some (sl c xs)) (hi : i < xs.length)
  (h : ∀ (a2 : Option Addr) (k2 : Nat) (a3 : Option Addr) (k3 : Nat), i64ok (xs.getD i default).Op → ((xs.getD i default).Def).b.length ≤ 140737488355328 → JJ C X L (pv (eptr 4 c i) [.int .i64 (xs.getD i default).Op, .string (bs (xs.getD i default).Def), .slice a2 (xs.getD i default).Uses.length k2, .slice a3 (xs.getD i default).Targets.length k3] :: sl (.slice a2 (xs.getD i default).Uses.length k2) (xs.getD i default).Uses :: sl (.slice a3 (xs.getD i default).Targets.length k3) (xs.getD i default).Targets :: A)) : JJ C X L A := by
 refine JJ_peek i m hA hi default fun cs => ?_
 intro a w M F st
 obtain ⟨F1, F2, q1, q2, qd, hp, F3, F4, q3, q4, qd2, hr, hs⟩ := st.sp
 obtain ⟨c2, c3, rfl, h0, h1, h2, h3⟩ := hr
 have g2 := h2
 obtain ⟨_, a2, k2, rfl, _⟩ := h2
 have g3 := h3
 obtain ⟨_, a3, k3, rfl, _⟩ := h3
 exact h a2 k2 a3 k3 h0 h1 a w M F ⟨st.step, st.sz, st.df, st.sat, F1, F2, q1, q2, qd, hp, ⟨fun _ => False, _, fun _ h => h.elim, fun _ h => h, fun _ h _ => h, g2, ⟨fun _ => False, _, fun _ h => h.elim, fun _ h => h, fun _ h _ => h, g3, sepAll_up hs q4⟩⟩⟩
instance rep_GBlock : Rep GBlock where
 sz := 2
 bytes := 40
 pos := by decide
 bpos := by decide
 rd w M cs x := ∃ c1, cs = [.string (bs x.Name), c1] ∧ x.Name.b.length ≤ 140737488355328 ∧ slrd w M c1 x.Stmts
 len := by rintro w M cs x ⟨c1, rfl, h0, h1⟩; rfl
 one := by
  rintro w M cs x ⟨c1, rfl, h0, h1⟩ v hv
  simp only [List.mem_cons, List.not_mem_nil, or_false] at hv
  rcases hv with rfl | rfl
  all_goals first | rfl | exact slrd_one h1
 st := by
  rintro w M cs x w' M' ⟨c1, rfl, h0, h1⟩ e
  exact ⟨c1, rfl, h0, slrd_st h1 e⟩
theorem JJ_peek_GBlock {C : Cx} {X : Act → World → Prop} {L : Env} {A : List SP} {c : Value} {xs : List GBlock} (i m : Nat) (hA : A[m]? = some (sl c xs)) (hi : i < xs.length)
  (h : ∀ (a1 : Option Addr) (k1 : Nat), ((xs.getD i default).Name).b.length ≤ 140737488355328 → JJ C X L (pv (eptr 2 c i) [.string (bs (xs.getD i default).Name), .slice a1 (xs.getD i default).Stmts.length k1] :: sl (.slice a1 (xs.getD i default).Stmts.length k1) (xs.getD i default).Stmts :: A)) : JJ C X L A := by
 refine JJ_peek i m hA hi default fun cs => ?_
 intro a w M F st
 obtain ⟨F1, F2, q1, q2, qd, hp, F3, F4, q3, q4, qd2, hr, hs⟩ := st.sp
 obtain ⟨c1, rfl, h0, h1⟩ := hr
 have g1 := h1
 obtain ⟨_, a1, k1, rfl, _⟩ := h1
 exact h a1 k1 h0 a w M F ⟨st.step, st.sz, st.df, st.sat, F1, F2, q1, q2, qd, hp, ⟨fun _ => False, _, fun _ h => h.elim, fun _ h => h, fun _ h _ => h, g1, sepAll_up hs q4⟩⟩
instance rep_GFunc : Rep GFunc where
 sz := 2
 bytes := 40
 pos := by decide
 bpos := by decide
 rd w M cs x := ∃ c1, cs = [.string (bs x.Name), c1] ∧ x.Name.b.length ≤ 140737488355328 ∧ slrd w M c1 x.Blocks
 len := by rintro w M cs x ⟨c1, rfl, h0, h1⟩; rfl
 one := by
  rintro w M cs x ⟨c1, rfl, h0, h1⟩ v hv
  simp only [List.mem_cons, List.not_mem_nil, or_false] at hv
  rcases hv with rfl | rfl
  all_goals first | rfl | exact slrd_one h1
 st := by
  rintro w M cs x w' M' ⟨c1, rfl, h0, h1⟩ e
  exact ⟨c1, rfl, h0, slrd_st h1 e⟩
theorem JJ_peek_GFunc {C : Cx} {X : Act → World → Prop} {L : Env} {A : List SP} {c : Value} {xs : List GFunc} (i m : Nat) (hA : A[m]? = some (sl c xs)) (hi : i < xs.length)
  (h : ∀ (a1 : Option Addr) (k1 : Nat), ((xs.getD i default).Name).b.length ≤ 140737488355328 → JJ C X L (pv (eptr 2 c i) [.string (bs (xs.getD i default).Name), .slice a1 (xs.getD i default).Blocks.length k1] :: sl (.slice a1 (xs.getD i default).Blocks.length k1) (xs.getD i default).Blocks :: A)) : JJ C X L A := by
 refine JJ_peek i m hA hi default fun cs => ?_
 intro a w M F st
 obtain ⟨F1, F2, q1, q2, qd, hp, F3, F4, q3, q4, qd2, hr, hs⟩ := st.sp
 obtain ⟨c1, rfl, h0, h1⟩ := hr
 have g1 := h1
 obtain ⟨_, a1, k1, rfl, _⟩ := h1
 exact h a1 k1 h0 a w M F ⟨st.step, st.sz, st.df, st.sat, F1, F2, q1, q2, qd, hp, ⟨fun _ => False, _, fun _ h => h.elim, fun _ h => h, fun _ h _ => h, g1, sepAll_up hs q4⟩⟩
instance rep_GProgram : Rep GProgram where
 sz := 1
 bytes := 24
 pos := by decide
 bpos := by decide
 rd w M cs x := ∃ c0, cs = [c0] ∧ slrd w M c0 x.Funcs
 len := by rintro w M cs x ⟨c0, rfl, h0⟩; rfl
 one := by
  rintro w M cs x ⟨c0, rfl, h0⟩ v hv
  simp only [List.mem_cons, List.not_mem_nil, or_false] at hv
  rcases hv with rfl
  all_goals first | rfl | exact slrd_one h0
 st := by
  rintro w M cs x w' M' ⟨c0, rfl, h0⟩ e
  exact ⟨c0, rfl, slrd_st h0 e⟩
instance rep_GNode : Rep GNode where
 sz := 4
 bytes := 32
 pos := by decide
 bpos := by decide
 rd w M cs x := cs = [.int .i64 x.Kind, .int .i64 x.Func, .int .i64 x.Block, .int .i64 x.Stmt] ∧ i64ok x.Kind ∧ i64ok x.Func ∧ i64ok x.Block ∧ i64ok x.Stmt
 len := by rintro w M cs x ⟨rfl, h0, h1, h2, h3⟩; rfl
 one := by
  rintro w M cs x ⟨rfl, h0, h1, h2, h3⟩ v hv
  simp only [List.mem_cons, List.not_mem_nil, or_false] at hv
  rcases hv with rfl | rfl | rfl | rfl
  all_goals first | rfl
 st := by
  rintro w M cs x w' M' ⟨rfl, h0, h1, h2, h3⟩ e
  exact ⟨rfl, h0, h1, h2, h3⟩
theorem zrd_GNode (w : World) (M : Blk) : Rep.rd w M [vi 0, vi 0, vi 0, vi 0] (default : GNode) := ⟨rfl, by unfold i64ok; decide, by unfold i64ok; decide, by unfold i64ok; decide, by unfold i64ok; decide⟩
theorem JJ_peek_GNode {C : Cx} {X : Act → World → Prop} {L : Env} {A : List SP} {c : Value} {xs : List GNode} (i m : Nat) (hA : A[m]? = some (sl c xs)) (hi : i < xs.length)
  (h : i64ok (xs.getD i default).Kind → i64ok (xs.getD i default).Func → i64ok (xs.getD i default).Block → i64ok (xs.getD i default).Stmt → JJ C X L (pv (eptr 4 c i) [.int .i64 (xs.getD i default).Kind, .int .i64 (xs.getD i default).Func, .int .i64 (xs.getD i default).Block, .int .i64 (xs.getD i default).Stmt] :: A)) : JJ C X L A := by
 refine JJ_peek i m hA hi default fun cs => ?_
 intro a w M F st
 obtain ⟨F1, F2, q1, q2, qd, hp, F3, F4, q3, q4, qd2, hr, hs⟩ := st.sp
 obtain ⟨rfl, h0, h1, h2, h3⟩ := hr
 exact h h0 h1 h2 h3 a w M F ⟨st.step, st.sz, st.df, st.sat, F1, F2, q1, q2, qd, hp, sepAll_up hs q4⟩
instance rep_GGraph : Rep GGraph where
 sz := 3
 bytes := 72
 pos := by decide
 bpos := by decide
 rd w M cs x := ∃ c0 c1 c2, cs = [c0, c1, c2] ∧ slrd w M c0 x.Nodes ∧ slrd w M c1 x.Succ ∧ slrd w M c2 x.Pred
 len := by rintro w M cs x ⟨c0, c1, c2, rfl, h0, h1, h2⟩; rfl
 one := by
  rintro w M cs x ⟨c0, c1, c2, rfl, h0, h1, h2⟩ v hv
  simp only [List.mem_cons, List.not_mem_nil, or_false] at hv
  rcases hv with rfl | rfl | rfl
  all_goals first | rfl | exact slrd_one h0 | exact slrd_one h1 | exact slrd_one h2
 st := by
  rintro w M cs x w' M' ⟨c0, c1, c2, rfl, h0, h1, h2⟩ e
  exact ⟨c0, c1, c2, rfl, slrd_st h0 e, slrd_st h1 e, slrd_st h2 e⟩
instance rep_GToken : Rep GToken where
 sz := 4
 bytes := 40
 pos := by decide
 bpos := by decide
 rd w M cs x := cs = [.int .i64 x.Kind, .string (bs x.Text), .int .i64 x.Line, .int .i64 x.Col] ∧ i64ok x.Kind ∧ x.Text.b.length ≤ 140737488355328 ∧ i64ok x.Line ∧ i64ok x.Col
 len := by rintro w M cs x ⟨rfl, h0, h1, h2, h3⟩; rfl
 one := by
  rintro w M cs x ⟨rfl, h0, h1, h2, h3⟩ v hv
  simp only [List.mem_cons, List.not_mem_nil, or_false] at hv
  rcases hv with rfl | rfl | rfl | rfl
  all_goals first | rfl
 st := by
  rintro w M cs x w' M' ⟨rfl, h0, h1, h2, h3⟩ e
  exact ⟨rfl, h0, h1, h2, h3⟩
theorem JJ_peek_GToken {C : Cx} {X : Act → World → Prop} {L : Env} {A : List SP} {c : Value} {xs : List GToken} (i m : Nat) (hA : A[m]? = some (sl c xs)) (hi : i < xs.length)
  (h : i64ok (xs.getD i default).Kind → ((xs.getD i default).Text).b.length ≤ 140737488355328 → i64ok (xs.getD i default).Line → i64ok (xs.getD i default).Col → JJ C X L (pv (eptr 4 c i) [.int .i64 (xs.getD i default).Kind, .string (bs (xs.getD i default).Text), .int .i64 (xs.getD i default).Line, .int .i64 (xs.getD i default).Col] :: A)) : JJ C X L A := by
 refine JJ_peek i m hA hi default fun cs => ?_
 intro a w M F st
 obtain ⟨F1, F2, q1, q2, qd, hp, F3, F4, q3, q4, qd2, hr, hs⟩ := st.sp
 obtain ⟨rfl, h0, h1, h2, h3⟩ := hr
 exact h h0 h1 h2 h3 a w M F ⟨st.step, st.sz, st.df, st.sat, F1, F2, q1, q2, qd, hp, sepAll_up hs q4⟩
instance rep_Gparser : Rep Gparser where
 sz := 3
 bytes := 40
 pos := by decide
 bpos := by decide
 rd w M cs x := ∃ c0, cs = [c0, .int .i64 x.at_, .int .i64 x.Err] ∧ slrd w M c0 x.l ∧ i64ok x.at_ ∧ i64ok x.Err
 len := by rintro w M cs x ⟨c0, rfl, h0, h1, h2⟩; rfl
 one := by
  rintro w M cs x ⟨c0, rfl, h0, h1, h2⟩ v hv
  simp only [List.mem_cons, List.not_mem_nil, or_false] at hv
  rcases hv with rfl | rfl | rfl
  all_goals first | rfl | exact slrd_one h0
 st := by
  rintro w M cs x w' M' ⟨c0, rfl, h0, h1, h2⟩ e
  exact ⟨c0, rfl, slrd_st h0 e, h1, h2⟩
theorem ofInt_ne (n : Int) (h : 1 ≤ n ∧ n ≤ 9223372036854775807) : BitVec.ofInt 64 n ≠ 0 := by
 intro e
 have := congrArg BitVec.toNat e
 rw [BitVec.toNat_ofInt] at this
 simp at this
 omega
theorem mod_range (v n : Int) (h : 1 ≤ n ∧ n ≤ 9223372036854775807) : 0 ≤ (((BitVec.ofInt 64 v) % (BitVec.ofInt 64 n)).toNat : Int) ∧ (((BitVec.ofInt 64 v) % (BitVec.ofInt 64 n)).toNat : Int) < n := by
 rw [BitVec.toNat_umod, BitVec.toNat_ofInt, BitVec.toNat_ofInt]
 have e : (n % ((2 ^ 64 : Nat) : Int)).toNat = n.toNat := by omega
 rw [e]
 have : (v % ((2 ^ 64 : Nat) : Int)).toNat % n.toNat < n.toNat := Nat.mod_lt _ (by omega)
 omega
theorem mod_le (v n : Int) (h : 1 ≤ n ∧ n ≤ 9223372036854775807) : (((BitVec.ofInt 64 v) % (BitVec.ofInt 64 n)).toNat : Int) ≤ 9223372036854775807 := by
 have := mod_range v n h; omega
def r7_Ints_L0 (a : List Int) (b : List Int) : Nat → Int → LR Unit Bool
 | 0, i =>
  .brk ()
 | r + 1, i =>
  bif ((a.getD i.toNat 0) != (b.getD i.toNat 0)) then
   .ret false
  else
   r7_Ints_L0 a b r (i + 1)
def r7_Ints (a : List Int) (b : List Int) : Bool :=
 bif ((a.length : Int) != (b.length : Int)) then
  false
 else
  match r7_Ints_L0 a b (((a.length : Int) - 0).toNat) 0 with
  | .brk _ =>
   true
  | .ret r => r
  | .oof => default
def cmp_isNaN_int (x : Int) : Bool :=
 (x != x)
def cmp_Less_int (x : Int) (y : Int) : Bool :=
 let rv1 := (cmp_isNaN_int x)
 bif rv1 then
  let rv6 := (cmp_isNaN_int y)
  bif (!rv6) then
   true
  else
   decide (x < y)
 else
  decide (x < y)
def sc_insertionSortOrdered_int_L1  : Nat → List Int → Int → List Int
 | 0, data', j =>
  data'
 | r + 1, data', j =>
  let rv7 := (cmp_Less_int (data'.getD j.toNat 0) (data'.getD ((j - 1) : Int).toNat 0))
  bif rv7 then
   sc_insertionSortOrdered_int_L1 r ((data'.set j.toNat (data'.getD ((j - 1) : Int).toNat 0)).set ((j - 1) : Int).toNat (data'.getD j.toNat 0)) (j - 1)
  else
   data'
def sc_insertionSortOrdered_int_L0 (a : Int) : Nat → List Int → Int → List Int
 | 0, data', i =>
  data'
 | r + 1, data', i =>
  match sc_insertionSortOrdered_int_L1 (((i : Int) - a).toNat) data' i with
  | o1_0 =>
   sc_insertionSortOrdered_int_L0 a r o1_0 (i + 1)
def sc_insertionSortOrdered_int (data : List Int) (a : Int) (b : Int) : List Int :=
 match sc_insertionSortOrdered_int_L0 a (((b : Int) - (a + 1)).toNat) data (a + 1) with
 | o0_0 =>
  o0_0
def sc_pdqsortOrdered_int_L0 (data : List Int) (a : Int) (b : Int) : Nat → LR Unit (List Int)
 | 0 =>
  .oof
 | r + 1 =>
  let rv3 := (sc_insertionSortOrdered_int data a b)
  .ret rv3
def sc_pdqsortOrdered_int (data : List Int) (a : Int) (b : Int) (limit : Int) : List Int :=
 match sc_pdqsortOrdered_int_L0 data a b 1 with
 | .brk _ => default
 | .ret r => r
 | .oof => default
def bits_Len64 (x : BitVec 64) : Int :=
 (0 + ((tab0.b.getD ((x.toNat : Int) : Int).toNat 0).toNat : Int))
def bits_Len (x : BitVec 64) : Int :=
 let rv1 := (bits_Len64 x)
 rv1
def sc_Sort_int (x : List Int) : List Int :=
 let rv1 := (bits_Len (BitVec.ofInt 64 (x.length : Int)))
 let rv5 := (sc_pdqsortOrdered_int x 0 (x.length : Int) rv1)
 rv5
def lx_letter (c : Int) : Bool :=
 bif decide (97 ≤ c) then
  bif decide (c ≤ 122) then
   true
  else
   bif decide (65 ≤ c) then
    decide (c ≤ 90)
   else
    false
 else
  bif decide (65 ≤ c) then
   decide (c ≤ 90)
  else
   false
def sc_Index_string_L0 (s : List Str) (v : Str) : Nat → Int → LR Unit Int
 | 0, v8 =>
  .brk ()
 | r + 1, v8 =>
  bif (v == (s.getD v8.toNat default)) then
   .ret v8
  else
   sc_Index_string_L0 s v r (v8 + 1)
def sc_Index_string (s : List Str) (v : Str) : Int :=
 match sc_Index_string_L0 s v (((s.length : Int) - 0).toNat) 0 with
 | .brk _ =>
  -1
 | .ret r => r
 | .oof => default
def sc_Contains_string (s : List Str) (v : Str) : Bool :=
 let rv1 := (sc_Index_string s v)
 decide (0 ≤ rv1)
def lx_digit (c : Int) : Bool :=
 bif decide (48 ≤ c) then
  decide (c ≤ 57)
 else
  false
def lx_part (c : Int) : Bool :=
 let rv1 := (lx_letter c)
 bif rv1 then
  true
 else
  let rv7 := (lx_digit c)
  bif rv7 then
   true
  else
   (c == 95)
def lx_wordEnd_L0 (s : Str) : Nat → Int → Int
 | 0, i' =>
  i'
 | r + 1, i' =>
  let rv4 := (lx_part ((s.b.getD i'.toNat 0).toNat : Int))
  bif rv4 then
   lx_wordEnd_L0 s r (i' + 1)
  else
   i'
def lx_wordEnd (s : Str) (i : Int) : Int :=
 match lx_wordEnd_L0 s (((s.b.length : Int) - i).toNat) i with
 | o0_0 =>
  o0_0
def lx_IsName (s : Str) : Bool :=
 bif (s == (Str.mk [])) then
  false
 else
  bif decide (16 < (s.b.length : Int)) then
   false
  else
   let rv8 := (lx_letter ((s.b.getD (0 : Int).toNat 0).toNat : Int))
   bif (!rv8) then
    false
   else
    let rv18 := (sc_Contains_string kwL s)
    bif rv18 then
     false
    else
     let rv24 := (lx_wordEnd s 0)
     (rv24 == (s.b.length : Int))
def sc_IndexFunc_Stmt_L0 (s : List GStmt) (fp : GStmt → Bool) : Nat → Int → LR Unit Int
 | 0, v8 =>
  .brk ()
 | r + 1, v8 =>
  bif (fp (s.getD v8.toNat default)) then
   .ret v8
  else
   sc_IndexFunc_Stmt_L0 s fp r (v8 + 1)
def sc_IndexFunc_Stmt (s : List GStmt) (fp : GStmt → Bool) : Int :=
 match sc_IndexFunc_Stmt_L0 s fp (((s.length : Int) - 0).toNat) 0 with
 | .brk _ =>
  -1
 | .ret r => r
 | .oof => default
def sc_ContainsFunc_Stmt (s : List GStmt) (fp : GStmt → Bool) : Bool :=
 let rv1 := (sc_IndexFunc_Stmt s fp)
 decide (0 ≤ rv1)
def sc_Clone_string (s : List Str) : List Str := s
def sc_IndexFunc_string_L0 (s : List Str) (fp : Str → Bool) : Nat → Int → LR Unit Int
 | 0, v8 =>
  .brk ()
 | r + 1, v8 =>
  bif (fp (s.getD v8.toNat default)) then
   .ret v8
  else
   sc_IndexFunc_string_L0 s fp r (v8 + 1)
def sc_IndexFunc_string (s : List Str) (fp : Str → Bool) : Int :=
 match sc_IndexFunc_string_L0 s fp (((s.length : Int) - 0).toNat) 0 with
 | .brk _ =>
  -1
 | .ret r => r
 | .oof => default
def sc_ContainsFunc_string (s : List Str) (fp : Str → Bool) : Bool :=
 let rv1 := (sc_IndexFunc_string s fp)
 decide (0 ≤ rv1)
def sx_valid_1 (n : Str) : Bool :=
 let rv1 := (lx_IsName n)
 (!rv1)
def sx_valid (s : GStmt) : Bool :=
 bif (s.Op == 1) then
  let rv5 := (sc_Clone_string s.Uses)
  bif ((s.Uses.length : Int) == (s.Uses.length : Int)) then
   bif decide ((s.Uses.length : Int) ≤ 4) then
    bif ((s.Targets.length : Int) == 0) then
     let rv34 := (sc_ContainsFunc_string ((rv5 ++ s.Targets) ++ [s.Def]) (fun x => sx_valid_1 x))
     (!rv34)
    else
     false
   else
    false
  else
   false
 else
  bif (s.Op == 2) then
   let rv44 := (sc_Clone_string s.Uses)
   bif (s.Def == (Str.mk [])) then
    bif ((s.Uses.length : Int) == (max (s.Uses.length : Int) 1)) then
     bif decide ((max (s.Uses.length : Int) 1) ≤ 4) then
      bif ((s.Targets.length : Int) == 0) then
       let rv66 := (sc_ContainsFunc_string (rv44 ++ s.Targets) (fun x => sx_valid_1 x))
       (!rv66)
      else
       false
     else
      false
    else
     false
   else
    false
  else
   bif (s.Op == 5) then
    let rv77 := (sc_Clone_string s.Uses)
    bif (s.Def == (Str.mk [])) then
     bif ((s.Uses.length : Int) == 1) then
      bif ((s.Targets.length : Int) == 0) then
       let rv97 := (sc_ContainsFunc_string (rv77 ++ s.Targets) (fun x => sx_valid_1 x))
       (!rv97)
      else
       false
     else
      false
    else
     false
   else
    bif (s.Op == 4) then
     let rv109 := (sc_Clone_string s.Uses)
     bif ((s.Uses.length : Int) == 0) then
      bif ((s.Targets.length : Int) == 0) then
       let rv136 := (sc_ContainsFunc_string ((rv109 ++ s.Targets) ++ [s.Def]) (fun x => sx_valid_1 x))
       (!rv136)
      else
       false
     else
      false
    else
     bif (s.Op == 6) then
      let rv145 := (sc_Clone_string s.Uses)
      bif ((s.Uses.length : Int) == 0) then
       bif ((s.Targets.length : Int) == 0) then
        let rv172 := (sc_ContainsFunc_string ((rv145 ++ s.Targets) ++ [s.Def]) (fun x => sx_valid_1 x))
        (!rv172)
       else
        false
      else
       false
     else
      bif (s.Op == 8) then
       let rv183 := (sc_Clone_string s.Uses)
       bif (s.Def == (Str.mk [])) then
        bif ((s.Uses.length : Int) == 1) then
         bif ((s.Targets.length : Int) == ((0 + 1) + 1)) then
          let rv203 := (sc_ContainsFunc_string (rv183 ++ s.Targets) (fun x => sx_valid_1 x))
          (!rv203)
         else
          false
        else
         false
       else
        false
      else
       bif (s.Op == 3) then
        let rv217 := (sc_Clone_string s.Uses)
        bif (s.Def == (Str.mk [])) then
         bif ((s.Uses.length : Int) == 0) then
          bif ((s.Targets.length : Int) == (0 + 1)) then
           let rv237 := (sc_ContainsFunc_string (rv217 ++ s.Targets) (fun x => sx_valid_1 x))
           (!rv237)
          else
           false
         else
          false
        else
         false
       else
        bif (s.Op == 7) then
         let rv249 := (sc_Clone_string s.Uses)
         bif (s.Def == (Str.mk [])) then
          bif ((s.Uses.length : Int) == 0) then
           bif ((s.Targets.length : Int) == (0 + 1)) then
            let rv269 := (sc_ContainsFunc_string (rv249 ++ s.Targets) (fun x => sx_valid_1 x))
            (!rv269)
           else
            false
          else
           false
         else
          false
        else
         bif (s.Op == 9) then
          let rv279 := (sc_Clone_string s.Uses)
          bif (s.Def == (Str.mk [])) then
           bif ((s.Uses.length : Int) == 0) then
            bif ((s.Targets.length : Int) == 0) then
             let rv299 := (sc_ContainsFunc_string (rv279 ++ s.Targets) (fun x => sx_valid_1 x))
             (!rv299)
            else
             false
           else
            false
          else
           false
         else
          false
def sx_Valid_1 (s : GStmt) : Bool :=
 let rv2 := (sx_valid s)
 (!rv2)
def sx_Valid_L1  (v41 : List GBlock) : Nat → Int → LR Unit Bool
 | 0, v43 =>
  .brk ()
 | r + 1, v43 =>
  let rv38 := (lx_IsName ((v41.getD v43.toNat default).Name))
  bif (!rv38) then
   .ret false
  else
   bif decide ((((v41.getD v43.toNat default).Stmts).length : Int) < 1) then
    .ret false
   else
    bif decide (32 < (((v41.getD v43.toNat default).Stmts).length : Int)) then
     .ret false
    else
     let rv54 := (sc_ContainsFunc_Stmt ((v41.getD v43.toNat default).Stmts) (fun x => sx_Valid_1 x))
     bif rv54 then
      .ret false
     else
      sx_Valid_L1 v41 r (v43 + 1)
def sx_Valid_L0 (p : GProgram) : Nat → Int → LR Unit Bool
 | 0, v20 =>
  .brk ()
 | r + 1, v20 =>
  let rv15 := (lx_IsName ((p.Funcs.getD v20.toNat default).Name))
  bif (!rv15) then
   .ret false
  else
   bif decide ((((p.Funcs.getD v20.toNat default).Blocks).length : Int) < 1) then
    .ret false
   else
    bif decide (16 < (((p.Funcs.getD v20.toNat default).Blocks).length : Int)) then
     .ret false
    else
     match sx_Valid_L1 ((p.Funcs.getD v20.toNat default).Blocks) ((((((p.Funcs.getD v20.toNat default).Blocks).length : Int) : Int) - 0).toNat) 0 with
     | .brk _ =>
      sx_Valid_L0 p r (v20 + 1)
     | .ret r => .ret r
     | .oof => .oof
def sx_Valid (p : GProgram) : Bool :=
 bif decide ((p.Funcs.length : Int) < 1) then
  false
 else
  bif decide (8 < (p.Funcs.length : Int)) then
   false
  else
   match sx_Valid_L0 p (((p.Funcs.length : Int) - 0).toNat) 0 with
   | .brk _ =>
    true
   | .ret r => r
   | .oof => default
def vd_duplicate_Func_L0 (l : List GFunc) (namep : GFunc → Str) : Nat → List (Str × Bool) → Int → Int → (List (Str × Bool)) × Int
 | 0, known, at_, v13 =>
  (known, at_)
 | r + 1, known, at_, v13 =>
  bif ((mget known (namep (l.getD v13.toNat default))).getD false) then
   bif decide (at_ < 0) then
    vd_duplicate_Func_L0 l namep r (mset known (namep (l.getD v13.toNat default)) true) v13 (v13 + 1)
   else
    vd_duplicate_Func_L0 l namep r (mset known (namep (l.getD v13.toNat default)) true) at_ (v13 + 1)
  else
   vd_duplicate_Func_L0 l namep r (mset known (namep (l.getD v13.toNat default)) true) at_ (v13 + 1)
def vd_duplicate_Func (l : List GFunc) (namep : GFunc → Str) : Int × (List (Str × Bool)) :=
 match vd_duplicate_Func_L0 l namep (((l.length : Int) - 0).toNat) [] (-1) 0 with
 | (o0_0, o0_1) =>
  (o0_1, o0_0)
def vd_Check_1 (f : GFunc) : Str :=
 f.Name
def vd_duplicate_Block_L0 (l : List GBlock) (namep : GBlock → Str) : Nat → List (Str × Bool) → Int → Int → (List (Str × Bool)) × Int
 | 0, known, at_, v13 =>
  (known, at_)
 | r + 1, known, at_, v13 =>
  bif ((mget known (namep (l.getD v13.toNat default))).getD false) then
   bif decide (at_ < 0) then
    vd_duplicate_Block_L0 l namep r (mset known (namep (l.getD v13.toNat default)) true) v13 (v13 + 1)
   else
    vd_duplicate_Block_L0 l namep r (mset known (namep (l.getD v13.toNat default)) true) at_ (v13 + 1)
  else
   vd_duplicate_Block_L0 l namep r (mset known (namep (l.getD v13.toNat default)) true) at_ (v13 + 1)
def vd_duplicate_Block (l : List GBlock) (namep : GBlock → Str) : Int × (List (Str × Bool)) :=
 match vd_duplicate_Block_L0 l namep (((l.length : Int) - 0).toNat) [] (-1) 0 with
 | (o0_0, o0_1) =>
  (o0_1, o0_0)
def vd_function_1 (b : GBlock) : Str :=
 b.Name
def vd_terminator (s : GStmt) : Bool :=
 bif (s.Op == 7) then
  true
 else
  bif (s.Op == 8) then
   true
  else
   (s.Op == 9)
def vd_statement_L0 (s : GStmt) (known : List (Str × Bool)) : Nat → Int → LR Unit Int
 | 0, v16 =>
  .brk ()
 | r + 1, v16 =>
  bif (!((mget known (s.Targets.getD v16.toNat default)).getD false)) then
   .ret 5
  else
   vd_statement_L0 s known r (v16 + 1)
def vd_statement (s : GStmt) (last : Bool) (known : List (Str × Bool)) : Int :=
 let rv2 := (vd_terminator s)
 bif (!(rv2 == last)) then
  4
 else
  match vd_statement_L0 s known (((s.Targets.length : Int) - 0).toNat) 0 with
  | .brk _ =>
   0
  | .ret r => r
  | .oof => default
def vd_function_L1 (i : Int) (funcs : List (Str × Bool)) (blocks : List (Str × Bool)) (k : Int) (b1 : List GStmt) (v36 : List GStmt) : Nat → Int → LR Unit (GNode × Int)
 | 0, v38 =>
  .brk ()
 | r + 1, v38 =>
  bif ((v36.getD v38.toNat default).Op == 3) then
   let rv34 := (vd_statement (v36.getD v38.toNat default) (v38 == ((b1.length : Int) - 1)) funcs)
   bif (rv34 != 0) then
    .ret ((GNode.mk 3 i k v38), rv34)
   else
    vd_function_L1 i funcs blocks k b1 v36 r (v38 + 1)
  else
   let rv42 := (vd_statement (v36.getD v38.toNat default) (v38 == ((b1.length : Int) - 1)) blocks)
   bif (rv42 != 0) then
    .ret ((GNode.mk 3 i k v38), rv42)
   else
    vd_function_L1 i funcs blocks k b1 v36 r (v38 + 1)
def vd_function_L0 (f : GFunc) (i : Int) (funcs : List (Str × Bool)) (blocks : List (Str × Bool)) : Nat → Int → LR Unit (GNode × Int)
 | 0, v30 =>
  .brk ()
 | r + 1, v30 =>
  match vd_function_L1 i funcs blocks v30 ((f.Blocks.getD v30.toNat default).Stmts) ((f.Blocks.getD v30.toNat default).Stmts) ((((((f.Blocks.getD v30.toNat default).Stmts).length : Int) : Int) - 0).toNat) 0 with
  | .brk _ =>
   vd_function_L0 f i funcs blocks r (v30 + 1)
  | .ret r => .ret r
  | .oof => .oof
def vd_function (f : GFunc) (i : Int) (funcs : List (Str × Bool)) : GNode × Int :=
 let rv4 := (vd_duplicate_Block f.Blocks (fun x0 => vd_function_1 x0))
 bif decide (0 ≤ rv4.1) then
  ((GNode.mk 3 i rv4.1 (-1)), 6)
 else
  match vd_function_L0 f i funcs rv4.2 (((f.Blocks.length : Int) - 0).toNat) 0 with
  | .brk _ =>
   ((GNode.mk 0 0 0 0), 0)
  | .ret r => r
  | .oof => default
def vd_Sizes_1 (s : GStmt) (cap0 : Int) (cap1 : Int) : Int × Int :=
 bif (s.Op == 3) then
  (((cap0 + 1) + 1), (cap1 + 3))
 else
  bif (s.Op == 8) then
   ((cap0 + 1), (cap1 + 2))
  else
   ((cap0 + 1), (cap1 + 1))
def vd_each_Sizes_1_L2  (v28 : List GStmt) : Nat → Int → Int → Int → Int × Int
 | 0, st00, st10, v30 =>
  (st00, st10)
 | r + 1, st00, st10, v30 =>
  let rv39 := (vd_Sizes_1 (v28.getD v30.toNat default) st00 st10)
  vd_each_Sizes_1_L2 v28 r rv39.1 rv39.2 (v30 + 1)
def vd_each_Sizes_1_L1  (v21 : List GBlock) : Nat → Int → Int → Int → Int × Int
 | 0, st00, st10, v23 =>
  (st00, st10)
 | r + 1, st00, st10, v23 =>
  match vd_each_Sizes_1_L2 ((v21.getD v23.toNat default).Stmts) ((((((v21.getD v23.toNat default).Stmts).length : Int) : Int) - 0).toNat) st00 st10 0 with
  | (o2_0, o2_1) =>
   vd_each_Sizes_1_L1 v21 r o2_0 o2_1 (v23 + 1)
def vd_each_Sizes_1_L0 (p : GProgram) : Nat → Int → Int → Int → Int × Int
 | 0, st00, st10, v16 =>
  (st00, st10)
 | r + 1, st00, st10, v16 =>
  match vd_each_Sizes_1_L1 ((p.Funcs.getD v16.toNat default).Blocks) ((((((p.Funcs.getD v16.toNat default).Blocks).length : Int) : Int) - 0).toNat) st00 st10 0 with
  | (o1_0, o1_1) =>
   vd_each_Sizes_1_L0 p r o1_0 o1_1 (v16 + 1)
def vd_each_Sizes_1 (p : GProgram) (st0 : Int) (st1 : Int) : Int × Int :=
 let rv2 := (sx_Valid p)
 bif (!rv2) then
  (st0, st1)
 else
  match vd_each_Sizes_1_L0 p (((p.Funcs.length : Int) - 0).toNat) st0 st1 0 with
  | (o0_0, o0_1) =>
   (o0_0, o0_1)
def vd_Sizes (p : GProgram) : Int × Int :=
 let rv2 := (sx_Valid p)
 bif (!rv2) then
  (0, 0)
 else
  let rv14 := (vd_each_Sizes_1 p (2 * (p.Funcs.length : Int)) (p.Funcs.length : Int))
  (rv14.1, rv14.2)
def vd_Variables_1 (n : Str) (cap0 : List (Str × Bool)) (cap1 : List Str) : (List (Str × Bool)) × List Str :=
 bif (n != (Str.mk [])) then
  bif (!((mget cap0 n).getD false)) then
   ((mset cap0 n true), (cap1 ++ [n]))
  else
   (cap0, cap1)
 else
  (cap0, cap1)
def vd_Variables_2_Variables_1_L0 (s : GStmt) : Nat → List (Str × Bool) → List Str → Int → (List (Str × Bool)) × List Str
 | 0, st00, st10, v12 =>
  (st00, st10)
 | r + 1, st00, st10, v12 =>
  let rv17 := (vd_Variables_1 (s.Uses.getD v12.toNat default) st00 st10)
  vd_Variables_2_Variables_1_L0 s r rv17.1 rv17.2 (v12 + 1)
def vd_Variables_2_Variables_1 (s : GStmt) (st0 : List (Str × Bool)) (st1 : List Str) : (List (Str × Bool)) × List Str :=
 let rv3 := (vd_Variables_1 s.Def st0 st1)
 match vd_Variables_2_Variables_1_L0 s (((s.Uses.length : Int) - 0).toNat) rv3.1 rv3.2 0 with
 | (o0_0, o0_1) =>
  (o0_0, o0_1)
def vd_each_Variables_2_L2  (v28 : List GStmt) : Nat → List (Str × Bool) → List Str → Int → (List (Str × Bool)) × List Str
 | 0, st10, st20, v30 =>
  (st10, st20)
 | r + 1, st10, st20, v30 =>
  let rv40 := (vd_Variables_2_Variables_1 (v28.getD v30.toNat default) st10 st20)
  vd_each_Variables_2_L2 v28 r rv40.1 rv40.2 (v30 + 1)
def vd_each_Variables_2_L1  (v21 : List GBlock) : Nat → List (Str × Bool) → List Str → Int → (List (Str × Bool)) × List Str
 | 0, st10, st20, v23 =>
  (st10, st20)
 | r + 1, st10, st20, v23 =>
  match vd_each_Variables_2_L2 ((v21.getD v23.toNat default).Stmts) ((((((v21.getD v23.toNat default).Stmts).length : Int) : Int) - 0).toNat) st10 st20 0 with
  | (o2_0, o2_1) =>
   vd_each_Variables_2_L1 v21 r o2_0 o2_1 (v23 + 1)
def vd_each_Variables_2_L0 (p : GProgram) : Nat → List (Str × Bool) → List Str → Int → (List (Str × Bool)) × List Str
 | 0, st10, st20, v16 =>
  (st10, st20)
 | r + 1, st10, st20, v16 =>
  match vd_each_Variables_2_L1 ((p.Funcs.getD v16.toNat default).Blocks) ((((((p.Funcs.getD v16.toNat default).Blocks).length : Int) : Int) - 0).toNat) st10 st20 0 with
  | (o1_0, o1_1) =>
   vd_each_Variables_2_L0 p r o1_0 o1_1 (v16 + 1)
def vd_each_Variables_2 (p : GProgram) (st1 : List (Str × Bool)) (st2 : List Str) : (List (Str × Bool)) × List Str :=
 let rv2 := (sx_Valid p)
 bif (!rv2) then
  (st1, st2)
 else
  match vd_each_Variables_2_L0 p (((p.Funcs.length : Int) - 0).toNat) st1 st2 0 with
  | (o0_0, o0_1) =>
   (o0_0, o0_1)
def vd_Variables (p : GProgram) : List Str :=
 let rv8 := (vd_each_Variables_2 p [] ([] : List Str))
 rv8.2
def vd_Check_L0 (p : GProgram) (funcs : List (Str × Bool)) : Nat → Int → LR Unit (GNode × Int)
 | 0, v29 =>
  .brk ()
 | r + 1, v29 =>
  let rv29 := (vd_function (p.Funcs.getD v29.toNat default) v29 funcs)
  bif (rv29.2 != 0) then
   .ret (rv29.1, rv29.2)
  else
   vd_Check_L0 p funcs r (v29 + 1)
def vd_Check (p : GProgram) : GNode × Int :=
 let rv3 := (sx_Valid p)
 bif (!rv3) then
  ((GNode.mk 0 0 0 0), 1)
 else
  let rv14 := (vd_duplicate_Func p.Funcs (fun x0 => vd_Check_1 x0))
  bif decide (0 ≤ rv14.1) then
   ((GNode.mk 1 rv14.1 (-1) (-1)), 6)
  else
   match vd_Check_L0 p rv14.2 (((p.Funcs.length : Int) - 0).toNat) 0 with
   | .brk _ =>
    let rv22 := (vd_Sizes p)
    let rv29 := (vd_Variables p)
    bif decide (64 < (rv29.length : Int)) then
     ((GNode.mk 0 0 0 0), 7)
    else
     bif decide (256 < rv22.1) then
      ((GNode.mk 0 0 0 0), 7)
     else
      bif decide (1024 < rv22.2) then
       ((GNode.mk 0 0 0 0), 7)
      else
       ((GNode.mk 0 0 0 0), 0)
   | .ret r => r
   | .oof => default
def nd_List_L2  (i : Int) (k : Int) (v41 : List GStmt) : Nat → List GNode → Int → List GNode
 | 0, out, v43 =>
  out
 | r + 1, out, v43 =>
  bif ((v41.getD v43.toNat default).Op == 3) then
   nd_List_L2 i k v41 r ((out ++ [(GNode.mk 3 i k v43)]) ++ [(GNode.mk 4 i k v43)]) (v43 + 1)
  else
   nd_List_L2 i k v41 r (out ++ [(GNode.mk 3 i k v43)]) (v43 + 1)
def nd_List_L1  (i : Int) (v33 : List GBlock) : Nat → List GNode → Int → List GNode
 | 0, out, v35 =>
  out
 | r + 1, out, v35 =>
  match nd_List_L2 i v35 ((v33.getD v35.toNat default).Stmts) ((((((v33.getD v35.toNat default).Stmts).length : Int) : Int) - 0).toNat) out 0 with
  | o2_0 =>
   nd_List_L1 i v33 r o2_0 (v35 + 1)
def nd_List_L0 (p : GProgram) : Nat → List GNode → Int → List GNode
 | 0, out, v22 =>
  out
 | r + 1, out, v22 =>
  match nd_List_L1 v22 ((p.Funcs.getD v22.toNat default).Blocks) ((((((p.Funcs.getD v22.toNat default).Blocks).length : Int) : Int) - 0).toNat) (out ++ [(GNode.mk 1 v22 (-1) (-1))]) 0 with
  | o1_0 =>
   nd_List_L0 p r (o1_0 ++ [(GNode.mk 2 v22 (-1) (-1))]) (v22 + 1)
def nd_List (p : GProgram) : List GNode :=
 let rv2 := (vd_Check p)
 bif (rv2.2 != 0) then
  ([] : List GNode)
 else
  match nd_List_L0 p (((p.Funcs.length : Int) - 0).toNat) [] 0 with
  | o0_0 =>
   o0_0
def sc_Index_int_L0 (s : List Int) (v : Int) : Nat → Int → LR Unit Int
 | 0, v8 =>
  .brk ()
 | r + 1, v8 =>
  bif (v == (s.getD v8.toNat 0)) then
   .ret v8
  else
   sc_Index_int_L0 s v r (v8 + 1)
def sc_Index_int (s : List Int) (v : Int) : Int :=
 match sc_Index_int_L0 s v (((s.length : Int) - 0).toNat) 0 with
 | .brk _ =>
  -1
 | .ret r => r
 | .oof => default
def sc_Contains_int (s : List Int) (v : Int) : Bool :=
 let rv1 := (sc_Index_int s v)
 decide (0 ≤ rv1)
def bd_edge (b : Gbuilder) (from_ : Int) (to_ : Int) : Gbuilder :=
 let rv5 := (sc_Contains_int (b.g.Succ.getD from_.toNat []) to_)
 bif rv5 then
  b
 else
  (Gbuilder.mk (GGraph.mk b.g.Nodes (b.g.Succ.set from_.toNat ((b.g.Succ.getD from_.toNat []) ++ [to_])) (b.g.Pred.set to_.toNat ((b.g.Pred.getD to_.toNat []) ++ [from_]))) b.number)
def bd_at (b : Gbuilder) (kind : Int) (f : Int) (block : Int) (stmt : Int) : Int :=
 ((mget b.number (GNode.mk kind f block stmt)).getD 0)
def sc_IndexFunc_Block_L0 (s : List GBlock) (fp : GBlock → Bool) : Nat → Int → LR Unit Int
 | 0, v8 =>
  .brk ()
 | r + 1, v8 =>
  bif (fp (s.getD v8.toNat default)) then
   .ret v8
  else
   sc_IndexFunc_Block_L0 s fp r (v8 + 1)
def sc_IndexFunc_Block (s : List GBlock) (fp : GBlock → Bool) : Int :=
 match sc_IndexFunc_Block_L0 s fp (((s.length : Int) - 0).toNat) 0 with
 | .brk _ =>
  -1
 | .ret r => r
 | .oof => default
def bd_first_1 (x : GBlock) (cap0 : Str) : Bool :=
 (x.Name == cap0)
def bd_first (b : Gbuilder) (p : GProgram) (f : Int) (name : Str) : Int :=
 let rv7 := (sc_IndexFunc_Block ((p.Funcs.getD f.toNat default).Blocks) (fun x => bd_first_1 x name))
 let rv11 := (bd_at b 3 f rv7 0)
 rv11
def sc_IndexFunc_Func_L0 (s : List GFunc) (fp : GFunc → Bool) : Nat → Int → LR Unit Int
 | 0, v8 =>
  .brk ()
 | r + 1, v8 =>
  bif (fp (s.getD v8.toNat default)) then
   .ret v8
  else
   sc_IndexFunc_Func_L0 s fp r (v8 + 1)
def sc_IndexFunc_Func (s : List GFunc) (fp : GFunc → Bool) : Int :=
 match sc_IndexFunc_Func_L0 s fp (((s.length : Int) - 0).toNat) 0 with
 | .brk _ =>
  -1
 | .ret r => r
 | .oof => default
def bd_stmt_1 (x : GFunc) (cap0 : GStmt) : Bool :=
 (x.Name == (cap0.Targets.getD (0 : Int).toNat default))
def bd_stmt_L0 (p : GProgram) (n : GNode) (s : GStmt) (here : Int) : Nat → List GNode → List (List Int) → List (List Int) → List (GNode × Int) → Int → List GNode × List (List Int) × List (List Int) × (List (GNode × Int))
 | 0, b0, b1, b2, b3, v41 =>
  (b0, b1, b2, b3)
 | r + 1, b0, b1, b2, b3, v41 =>
  let rv18 := (bd_first (Gbuilder.mk (GGraph.mk b0 b1 b2) b3) p n.Func (s.Targets.getD v41.toNat default))
  let rv26 := (bd_edge (Gbuilder.mk (GGraph.mk b0 b1 b2) b3) here rv18)
  bd_stmt_L0 p n s here r rv26.g.Nodes rv26.g.Succ rv26.g.Pred rv26.number (v41 + 1)
def bd_stmt (b : Gbuilder) (p : GProgram) (n : GNode) (s : GStmt) : Gbuilder :=
 let rv4 := (bd_at b 3 n.Func n.Block (n.Stmt + 1))
 bif (s.Op == 7) then
  match bd_stmt_L0 p n s ((mget b.number n).getD 0) (((s.Targets.length : Int) - 0).toNat) b.g.Nodes b.g.Succ b.g.Pred b.number 0 with
  | (o0_0, o0_1, o0_2, o0_3) =>
   (Gbuilder.mk (GGraph.mk o0_0 o0_1 o0_2) o0_3)
 else
  bif (s.Op == 8) then
   match bd_stmt_L0 p n s ((mget b.number n).getD 0) (((s.Targets.length : Int) - 0).toNat) b.g.Nodes b.g.Succ b.g.Pred b.number 0 with
   | (o0_0, o0_1, o0_2, o0_3) =>
    (Gbuilder.mk (GGraph.mk o0_0 o0_1 o0_2) o0_3)
  else
   bif (s.Op == 9) then
    let rv39 := (bd_at b 2 n.Func (-1) (-1))
    let rv47 := (bd_edge b ((mget b.number n).getD 0) rv39)
    rv47
   else
    bif (s.Op == 3) then
     let rv64 := (sc_IndexFunc_Func p.Funcs (fun x => bd_stmt_1 x s))
     let rv68 := (bd_at b 4 n.Func n.Block n.Stmt)
     let rv73 := (bd_at b 1 rv64 (-1) (-1))
     let rv81 := (bd_edge b ((mget b.number n).getD 0) rv73)
     let rv95 := (bd_at rv81 2 rv64 (-1) (-1))
     let rv103 := (bd_edge rv81 rv95 rv68)
     let rv120 := (bd_edge rv103 rv68 rv4)
     rv120
    else
     let rv138 := (bd_edge b ((mget b.number n).getD 0) rv4)
     rv138
def gh_Build_L0  (v35 : List GNode) : Nat → List (GNode × Int) → Int → (List (GNode × Int))
 | 0, b3, v37 =>
  b3
 | r + 1, b3, v37 =>
  gh_Build_L0 v35 r (mset b3 (v35.getD v37.toNat default) v37) (v37 + 1)
def gh_Build_L1 (p : GProgram) (v49 : List GNode) : Nat → List GNode → List (List Int) → List (List Int) → List (GNode × Int) → Int → List GNode × List (List Int) × List (List Int) × (List (GNode × Int))
 | 0, b0, b1, b2, b3, v51 =>
  (b0, b1, b2, b3)
 | r + 1, b0, b1, b2, b3, v51 =>
  bif ((v49.getD v51.toNat default).Kind == 1) then
   let rv45 := (bd_at (Gbuilder.mk (GGraph.mk b0 b1 b2) b3) 3 ((v49.getD v51.toNat default).Func) 0 0)
   let rv53 := (bd_edge (Gbuilder.mk (GGraph.mk b0 b1 b2) b3) ((mget b3 (v49.getD v51.toNat default)).getD 0) rv45)
   gh_Build_L1 p v49 r rv53.g.Nodes rv53.g.Succ rv53.g.Pred rv53.number (v51 + 1)
  else
   bif ((v49.getD v51.toNat default).Kind == 3) then
    let rv91 := (bd_stmt (Gbuilder.mk (GGraph.mk b0 b1 b2) b3) p (v49.getD v51.toNat default) (((((p.Funcs.getD ((v49.getD v51.toNat default).Func : Int).toNat default).Blocks).getD ((v49.getD v51.toNat default).Block : Int).toNat default).Stmts).getD ((v49.getD v51.toNat default).Stmt : Int).toNat default))
    gh_Build_L1 p v49 r rv91.g.Nodes rv91.g.Succ rv91.g.Pred rv91.number (v51 + 1)
   else
    gh_Build_L1 p v49 r b0 b1 b2 b3 (v51 + 1)
def gh_Build_L2  : Nat → List (List Int) → List (List Int) → Int → List (List Int) × List (List Int)
 | 0, b1, b2, v96 =>
  (b1, b2)
 | r + 1, b1, b2, v96 =>
  let rv52 := (sc_Sort_int (b1.getD v96.toNat []))
  let rv62 := (sc_Sort_int (b2.getD v96.toNat []))
  gh_Build_L2 r (b1.set v96.toNat rv52) (b2.set v96.toNat rv62) (v96 + 1)
def gh_Build (p : GProgram) : GGraph × Int :=
 let rv3 := (vd_Check p)
 bif (rv3.2 != 0) then
  ((GGraph.mk [] [] []), rv3.2)
 else
  let rv16 := (nd_List p)
  match gh_Build_L0 rv16 (((rv16.length : Int) - 0).toNat) [] 0 with
  | o0_0 =>
   match gh_Build_L1 p rv16 (((rv16.length : Int) - 0).toNat) rv16 (List.replicate (rv16.length : Int).toNat []) (List.replicate (rv16.length : Int).toNat []) o0_0 0 with
   | (o1_0, o1_1, o1_2, o1_3) =>
    match gh_Build_L2 (((rv16.length : Int) - 0).toNat) o1_1 o1_2 0 with
    | (o2_0, o2_1) =>
     ((GGraph.mk o1_0 o2_0 o2_1), 0)
def r4_letter (c : Int) : Bool :=
 bif decide (97 ≤ c) then
  bif decide (c ≤ 122) then
   true
  else
   bif decide (65 ≤ c) then
    bif decide (c ≤ 90) then
     true
    else
     (c == 95)
   else
    (c == 95)
 else
  bif decide (65 ≤ c) then
   bif decide (c ≤ 90) then
    true
   else
    (c == 95)
  else
   (c == 95)
def r4_digit (c : Int) : Bool :=
 bif decide (48 ≤ c) then
  decide (c ≤ 57)
 else
  false
def r4_Scan_L1 (text : Str) (c : Int) : Nat → Int → Int → LR (Int × Int) (List GToken × Int × Int × Int)
 | 0, col, i =>
  .oof
 | r + 1, col, i =>
  bif (c == 35) then
   bif decide (i < (text.b.length : Int)) then
    bif (((text.b.getD i.toNat 0).toNat : Int) != 10) then
     r4_Scan_L1 text c r (col + 1) (i + 1)
    else
     .brk (col, i)
   else
    .brk (col, i)
  else
   .brk (col, i)
def r4_Scan_L2 (text : Str) (i : Int) : Nat → Int → LR Int (List GToken × Int × Int × Int)
 | 0, n =>
  .oof
 | r + 1, n =>
  bif decide ((i + n) < (text.b.length : Int)) then
   let rv172 := (r4_letter ((text.b.getD ((i + n) : Int).toNat 0).toNat : Int))
   bif rv172 then
    r4_Scan_L2 text i r (n + 1)
   else
    let rv179 := (r4_digit ((text.b.getD ((i + n) : Int).toNat 0).toNat : Int))
    bif rv179 then
     r4_Scan_L2 text i r (n + 1)
    else
     .brk n
  else
   .brk n
def r4_Scan_L0 (text : Str) : Nat → List GToken → Int → Int → Bool → Int → LR (List GToken × Int × Int × Bool) (List GToken × Int × Int × Int)
 | 0, out, line, col, open_, i =>
  .oof
 | r + 1, out, line, col, open_, i =>
  bif decide (i < (text.b.length : Int)) then
   bif (((text.b.getD i.toNat 0).toNat : Int) == 32) then
    r4_Scan_L0 text r out line (col + 1) open_ (i + 1)
   else
    bif (((text.b.getD i.toNat 0).toNat : Int) == 9) then
     r4_Scan_L0 text r out line (col + 1) open_ (i + 1)
    else
     bif (((text.b.getD i.toNat 0).toNat : Int) == 10) then
      bif open_ then
       match r4_Scan_L1 text ((text.b.getD i.toNat 0).toNat : Int) (text.b.length + 1) col i with
       | .brk (o1_0, o1_1) =>
        bif (((text.b.getD i.toNat 0).toNat : Int) == 59) then
         bif decide ((o1_1 + 1) < (text.b.length : Int)) then
          bif (((text.b.getD ((o1_1 + 1) : Int).toNat 0).toNat : Int) == 10) then
           r4_Scan_L0 text r (out ++ [(GToken.mk 3 (Str.mk []) line col)]) line (o1_0 + 1) false (o1_1 + 1)
          else
           r4_Scan_L0 text r (out ++ [(GToken.mk 3 (Str.mk []) line col)]) line (o1_0 + 1) false (o1_1 + 1)
         else
          r4_Scan_L0 text r (out ++ [(GToken.mk 3 (Str.mk []) line col)]) line (o1_0 + 1) false (o1_1 + 1)
        else
         bif decide (o1_1 < (text.b.length : Int)) then
          bif (((text.b.getD o1_1.toNat 0).toNat : Int) == 10) then
           r4_Scan_L0 text r (out ++ [(GToken.mk 3 (Str.mk []) line col)]) (line + 1) 1 false (o1_1 + 1)
          else
           r4_Scan_L0 text r (out ++ [(GToken.mk 3 (Str.mk []) line col)]) line o1_0 false o1_1
         else
          r4_Scan_L0 text r (out ++ [(GToken.mk 3 (Str.mk []) line col)]) line o1_0 false o1_1
       | .ret _ => .oof
       | .oof => .oof
      else
       match r4_Scan_L1 text ((text.b.getD i.toNat 0).toNat : Int) (text.b.length + 1) col i with
       | .brk (o1_0, o1_1) =>
        bif (((text.b.getD i.toNat 0).toNat : Int) == 59) then
         bif decide ((o1_1 + 1) < (text.b.length : Int)) then
          bif (((text.b.getD ((o1_1 + 1) : Int).toNat 0).toNat : Int) == 10) then
           r4_Scan_L0 text r out line (o1_0 + 1) false (o1_1 + 1)
          else
           r4_Scan_L0 text r out line (o1_0 + 1) false (o1_1 + 1)
         else
          r4_Scan_L0 text r out line (o1_0 + 1) false (o1_1 + 1)
        else
         bif decide (o1_1 < (text.b.length : Int)) then
          bif (((text.b.getD o1_1.toNat 0).toNat : Int) == 10) then
           r4_Scan_L0 text r out (line + 1) 1 false (o1_1 + 1)
          else
           r4_Scan_L0 text r out line o1_0 false o1_1
         else
          r4_Scan_L0 text r out line o1_0 false o1_1
       | .ret _ => .oof
       | .oof => .oof
     else
      bif (((text.b.getD i.toNat 0).toNat : Int) == 59) then
       bif open_ then
        match r4_Scan_L1 text ((text.b.getD i.toNat 0).toNat : Int) (text.b.length + 1) col i with
        | .brk (o1_0, o1_1) =>
         bif decide ((o1_1 + 1) < (text.b.length : Int)) then
          bif (((text.b.getD ((o1_1 + 1) : Int).toNat 0).toNat : Int) == 10) then
           r4_Scan_L0 text r (out ++ [(GToken.mk 3 (Str.mk []) line col)]) line (o1_0 + 1) false (o1_1 + 1)
          else
           r4_Scan_L0 text r (out ++ [(GToken.mk 3 (Str.mk []) line col)]) line (o1_0 + 1) false (o1_1 + 1)
         else
          r4_Scan_L0 text r (out ++ [(GToken.mk 3 (Str.mk []) line col)]) line (o1_0 + 1) false (o1_1 + 1)
        | .ret _ => .oof
        | .oof => .oof
       else
        match r4_Scan_L1 text ((text.b.getD i.toNat 0).toNat : Int) (text.b.length + 1) col i with
        | .brk (o1_0, o1_1) =>
         bif decide ((o1_1 + 1) < (text.b.length : Int)) then
          bif (((text.b.getD ((o1_1 + 1) : Int).toNat 0).toNat : Int) == 10) then
           r4_Scan_L0 text r out line (o1_0 + 1) false (o1_1 + 1)
          else
           r4_Scan_L0 text r out line (o1_0 + 1) false (o1_1 + 1)
         else
          r4_Scan_L0 text r out line (o1_0 + 1) false (o1_1 + 1)
        | .ret _ => .oof
        | .oof => .oof
      else
       bif (((text.b.getD i.toNat 0).toNat : Int) == 35) then
        bif open_ then
         match r4_Scan_L1 text ((text.b.getD i.toNat 0).toNat : Int) (text.b.length + 1) col i with
         | .brk (o1_0, o1_1) =>
          bif decide (o1_1 < (text.b.length : Int)) then
           bif (((text.b.getD o1_1.toNat 0).toNat : Int) == 10) then
            r4_Scan_L0 text r (out ++ [(GToken.mk 3 (Str.mk []) line col)]) (line + 1) 1 false (o1_1 + 1)
           else
            r4_Scan_L0 text r (out ++ [(GToken.mk 3 (Str.mk []) line col)]) line o1_0 false o1_1
          else
           r4_Scan_L0 text r (out ++ [(GToken.mk 3 (Str.mk []) line col)]) line o1_0 false o1_1
         | .ret _ => .oof
         | .oof => .oof
        else
         match r4_Scan_L1 text ((text.b.getD i.toNat 0).toNat : Int) (text.b.length + 1) col i with
         | .brk (o1_0, o1_1) =>
          bif decide (o1_1 < (text.b.length : Int)) then
           bif (((text.b.getD o1_1.toNat 0).toNat : Int) == 10) then
            r4_Scan_L0 text r out (line + 1) 1 false (o1_1 + 1)
           else
            r4_Scan_L0 text r out line o1_0 false o1_1
          else
           r4_Scan_L0 text r out line o1_0 false o1_1
         | .ret _ => .oof
         | .oof => .oof
       else
        bif (((text.b.getD i.toNat 0).toNat : Int) == 61) then
         r4_Scan_L0 text r (out ++ [(GToken.mk 2 (Str.mk [61]) line col)]) line (col + 1) true (i + 1)
        else
         let rv164 := (r4_letter ((text.b.getD i.toNat 0).toNat : Int))
         bif rv164 then
          match r4_Scan_L2 text i (text.b.length + 1) 0 with
          | .brk o2_0 =>
           let rv170 := (r4_digit ((text.b.getD i.toNat 0).toNat : Int))
           bif rv170 then
            .ret (([] : List GToken), line, col, 4)
           else
            bif decide (16 < o2_0) then
             .ret (([] : List GToken), line, col, 7)
            else
             r4_Scan_L0 text r (out ++ [(GToken.mk 1 (text.sub i.toNat ((i + o2_0) : Int).toNat) line col)]) line (col + o2_0) true (i + o2_0)
          | .ret _ => .oof
          | .oof => .oof
         else
          let rv189 := (r4_digit ((text.b.getD i.toNat 0).toNat : Int))
          bif rv189 then
           match r4_Scan_L2 text i (text.b.length + 1) 0 with
           | .brk o2_0 =>
            .ret (([] : List GToken), line, col, 4)
           | .ret _ => .oof
           | .oof => .oof
          else
           .ret (([] : List GToken), line, col, 4)
  else
   .brk (out, line, col, open_)
def r4_Scan (text : Str) : List GToken × Int × Int × Int :=
 bif decide (4096 < (text.b.length : Int)) then
  (([] : List GToken), 0, 0, 7)
 else
  match r4_Scan_L0 text (text.b.length + 1) [] 1 1 false 0 with
  | .brk (o0_0, o0_1, o0_2, o0_3) =>
   bif o0_3 then
    ((o0_0 ++ [(GToken.mk 3 (Str.mk []) o0_1 o0_2)]), 0, 0, 0)
   else
    (o0_0, 0, 0, 0)
  | .ret r => r
  | .oof => default
def pz_is (p : Gparser) (word : Str) : Bool :=
 bif (p.Err == 0) then
  bif decide (p.at_ < (p.l.length : Int)) then
   bif ((p.l.getD p.at_.toNat default).Kind == 1) then
    ((p.l.getD p.at_.toNat default).Text == word)
   else
    false
  else
   false
 else
  false
def pz_fail (p : Gparser) (e : Int) : Gparser :=
 bif (p.Err == 0) then
  (Gparser.mk p.l p.at_ e)
 else
  p
def pz_word (p : Gparser) (w : Str) : Gparser :=
 let rv1 := (pz_is p w)
 bif (!rv1) then
  let rv8 := (pz_fail p 4)
  (Gparser.mk p.l rv8.at_ rv8.Err)
 else
  (Gparser.mk p.l (p.at_ + 1) p.Err)
def r4_Keywords  : List Str :=
 [(Str.mk [102, 117, 110, 99]), (Str.mk [98, 108, 111, 99, 107]), (Str.mk [101, 110, 100]), (Str.mk [117, 115, 101]), (Str.mk [99, 97, 108, 108]), (Str.mk [115, 111, 117, 114, 99, 101]), (Str.mk [115, 105, 110, 107]), (Str.mk [115, 97, 110, 105, 116, 105, 122, 101]), (Str.mk [103, 111, 116, 111]), (Str.mk [98, 114, 97, 110, 99, 104]), (Str.mk [114, 101, 116, 117, 114, 110])]
def r4_IsName_L0 (s : Str) : Nat → Int → LR Unit Bool
 | 0, i =>
  .brk ()
 | r + 1, i =>
  let rv25 := (r4_letter ((s.b.getD i.toNat 0).toNat : Int))
  bif (!rv25) then
   let rv33 := (r4_digit ((s.b.getD i.toNat 0).toNat : Int))
   bif (!rv33) then
    .ret false
   else
    r4_IsName_L0 s r (i + 1)
  else
   r4_IsName_L0 s r (i + 1)
def r4_IsName_L1 (s : Str) : Nat → Int → LR Unit Bool
 | 0, i =>
  .brk ()
 | r + 1, i =>
  bif ((r4_Keywords.getD i.toNat default) == s) then
   .ret false
  else
   r4_IsName_L1 s r (i + 1)
def r4_IsName (s : Str) : Bool :=
 bif ((s.b.length : Int) == 0) then
  false
 else
  bif decide (16 < (s.b.length : Int)) then
   false
  else
   let rv8 := (r4_letter ((s.b.getD (0 : Int).toNat 0).toNat : Int))
   bif (!rv8) then
    false
   else
    bif (((s.b.getD (0 : Int).toNat 0).toNat : Int) == 95) then
     false
    else
     match r4_IsName_L0 s (((s.b.length : Int) - 0).toNat) 0 with
     | .brk _ =>
      match r4_IsName_L1 s (((r4_Keywords.length : Int) - 0).toNat) 0 with
      | .brk _ =>
       true
      | .ret r => r
      | .oof => default
     | .ret r => r
     | .oof => default
def pz_isName (p : Gparser) : Bool :=
 bif (p.Err == 0) then
  bif decide (p.at_ < (p.l.length : Int)) then
   bif ((p.l.getD p.at_.toNat default).Kind == 1) then
    let rv11 := (r4_IsName ((p.l.getD p.at_.toNat default).Text))
    rv11
   else
    false
  else
   false
 else
  false
def pz_name (p : Gparser) : Str × Gparser :=
 let rv1 := (pz_isName p)
 bif (!rv1) then
  let rv8 := (pz_fail p 4)
  ((Str.mk []), (Gparser.mk p.l rv8.at_ rv8.Err))
 else
  ((p.l.getD (((p.at_ + 1) - 1) : Int).toNat default).Text, (Gparser.mk p.l (p.at_ + 1) p.Err))
def pz_isKind (p : Gparser) (k : Int) : Bool :=
 bif (p.Err == 0) then
  bif decide (p.at_ < (p.l.length : Int)) then
   ((p.l.getD p.at_.toNat default).Kind == k)
  else
   false
 else
  false
def pz_end (p : Gparser) : Gparser :=
 let rv1 := (pz_isKind p 3)
 bif (!rv1) then
  let rv8 := (pz_fail p 4)
  (Gparser.mk p.l rv8.at_ rv8.Err)
 else
  (Gparser.mk p.l (p.at_ + 1) p.Err)
def pz_begins_L0 (p : Gparser) : Nat → Int → LR Unit Bool
 | 0, i =>
  .brk ()
 | r + 1, i =>
  let rv11 := (pz_is p ([(Str.mk [117, 115, 101]), (Str.mk [99, 97, 108, 108]), (Str.mk [115, 111, 117, 114, 99, 101]), (Str.mk [115, 105, 110, 107]), (Str.mk [115, 97, 110, 105, 116, 105, 122, 101]), (Str.mk [103, 111, 116, 111]), (Str.mk [98, 114, 97, 110, 99, 104]), (Str.mk [114, 101, 116, 117, 114, 110])].getD i.toNat default))
  bif rv11 then
   .ret true
  else
   pz_begins_L0 p r (i + 1)
def pz_begins (p : Gparser) : Bool :=
 match pz_begins_L0 p (((((8 : Nat) : Int) : Int) - 0).toNat) 0 with
 | .brk _ =>
  let rv6 := (pz_isName p)
  rv6
 | .ret r => r
 | .oof => default
def pz_more_L0 (p : Gparser) (have_ : Int) : Nat → Int → Int → List Str → LR (Int × Int × List Str) (List Str × Gparser)
 | 0, p1, p2, out =>
  .oof
 | r + 1, p1, p2, out =>
  let rv1 := (pz_isName (Gparser.mk p.l p1 p2))
  bif rv1 then
   bif ((have_ + (out.length : Int)) == 4) then
    let rv8 := (pz_fail (Gparser.mk p.l p1 p2) 7)
    .ret (([] : List Str), (Gparser.mk p.l rv8.at_ rv8.Err))
   else
    let rv15 := (pz_name (Gparser.mk p.l p1 p2))
    pz_more_L0 p have_ r rv15.2.at_ rv15.2.Err (out ++ [rv15.1])
  else
   .brk (p1, p2, out)
def pz_more (p : Gparser) (have_ : Int) : List Str × Gparser :=
 match pz_more_L0 p have_ (p.l.length + 1) p.at_ p.Err [] with
 | .brk (o0_0, o0_1, o0_2) =>
  (o0_2, (Gparser.mk p.l o0_0 o0_1))
 | .ret r => r
 | .oof => default
def pz_names_L0 (p : Gparser) : Nat → Int → Int → List Str → LR (Int × Int × List Str) (List Str × Gparser)
 | 0, p1, p2, out =>
  .oof
 | r + 1, p1, p2, out =>
  let rv1 := (pz_isName (Gparser.mk p.l p1 p2))
  bif rv1 then
   bif ((out.length : Int) == 4) then
    let rv8 := (pz_fail (Gparser.mk p.l p1 p2) 7)
    .ret (([] : List Str), (Gparser.mk p.l rv8.at_ rv8.Err))
   else
    let rv15 := (pz_name (Gparser.mk p.l p1 p2))
    pz_names_L0 p r rv15.2.at_ rv15.2.Err (out ++ [rv15.1])
  else
   .brk (p1, p2, out)
def pz_names (p : Gparser) : List Str × Gparser :=
 match pz_names_L0 p (p.l.length + 1) p.at_ p.Err [] with
 | .brk (o0_0, o0_1, o0_2) =>
  (o0_2, (Gparser.mk p.l o0_0 o0_1))
 | .ret r => r
 | .oof => default
def pz_stmt (p : Gparser) : GStmt × Gparser :=
 let rv3 := (pz_isName p)
 bif (!rv3) then
  bif ((p.l.getD p.at_.toNat default).Text == (Str.mk [117, 115, 101])) then
   let rv16 := (pz_name (Gparser.mk p.l (p.at_ + 1) p.Err))
   let rv27 := (pz_more (Gparser.mk p.l rv16.2.at_ rv16.2.Err) 1)
   let rv44 := (pz_end (Gparser.mk p.l rv27.2.at_ rv27.2.Err))
   ((GStmt.mk 2 (Str.mk []) ([rv16.1] ++ rv27.1) []), (Gparser.mk p.l rv44.at_ rv44.Err))
  else
   bif ((p.l.getD p.at_.toNat default).Text == (Str.mk [99, 97, 108, 108])) then
    let rv53 := (pz_name (Gparser.mk p.l (p.at_ + 1) p.Err))
    let rv63 := (pz_end (Gparser.mk p.l rv53.2.at_ rv53.2.Err))
    ((GStmt.mk 3 (Str.mk []) [] [rv53.1]), (Gparser.mk p.l rv63.at_ rv63.Err))
   else
    bif ((p.l.getD p.at_.toNat default).Text == (Str.mk [115, 111, 117, 114, 99, 101])) then
     let rv72 := (pz_name (Gparser.mk p.l (p.at_ + 1) p.Err))
     let rv79 := (pz_end (Gparser.mk p.l rv72.2.at_ rv72.2.Err))
     ((GStmt.mk 4 rv72.1 [] []), (Gparser.mk p.l rv79.at_ rv79.Err))
    else
     bif ((p.l.getD p.at_.toNat default).Text == (Str.mk [115, 105, 110, 107])) then
      let rv88 := (pz_name (Gparser.mk p.l (p.at_ + 1) p.Err))
      let rv98 := (pz_end (Gparser.mk p.l rv88.2.at_ rv88.2.Err))
      ((GStmt.mk 5 (Str.mk []) [rv88.1] []), (Gparser.mk p.l rv98.at_ rv98.Err))
     else
      bif ((p.l.getD p.at_.toNat default).Text == (Str.mk [115, 97, 110, 105, 116, 105, 122, 101])) then
       let rv107 := (pz_name (Gparser.mk p.l (p.at_ + 1) p.Err))
       let rv114 := (pz_end (Gparser.mk p.l rv107.2.at_ rv107.2.Err))
       ((GStmt.mk 6 rv107.1 [] []), (Gparser.mk p.l rv114.at_ rv114.Err))
      else
       bif ((p.l.getD p.at_.toNat default).Text == (Str.mk [103, 111, 116, 111])) then
        let rv123 := (pz_name (Gparser.mk p.l (p.at_ + 1) p.Err))
        let rv133 := (pz_end (Gparser.mk p.l rv123.2.at_ rv123.2.Err))
        ((GStmt.mk 7 (Str.mk []) [] [rv123.1]), (Gparser.mk p.l rv133.at_ rv133.Err))
       else
        bif ((p.l.getD p.at_.toNat default).Text == (Str.mk [98, 114, 97, 110, 99, 104])) then
         let rv142 := (pz_name (Gparser.mk p.l (p.at_ + 1) p.Err))
         let rv152 := (pz_name (Gparser.mk p.l rv142.2.at_ rv142.2.Err))
         let rv162 := (pz_name (Gparser.mk p.l rv152.2.at_ rv152.2.Err))
         let rv178 := (pz_end (Gparser.mk p.l rv162.2.at_ rv162.2.Err))
         ((GStmt.mk 8 (Str.mk []) [rv142.1] ([rv152.1] ++ [rv162.1])), (Gparser.mk p.l rv178.at_ rv178.Err))
        else
         bif ((p.l.getD p.at_.toNat default).Text == (Str.mk [114, 101, 116, 117, 114, 110])) then
          let rv187 := (pz_end (Gparser.mk p.l (p.at_ + 1) p.Err))
          ((GStmt.mk 9 (Str.mk []) [] []), (Gparser.mk p.l rv187.at_ rv187.Err))
         else
          let rv194 := (pz_name (Gparser.mk p.l (p.at_ + 1) p.Err))
          let rv201 := (pz_isKind (Gparser.mk p.l rv194.2.at_ rv194.2.Err) 2)
          bif (!rv201) then
           let rv208 := (pz_fail (Gparser.mk p.l rv194.2.at_ rv194.2.Err) 4)
           ((GStmt.mk 1 rv194.1 [] []), (Gparser.mk p.l rv208.at_ rv208.Err))
          else
           let rv218 := (pz_names (Gparser.mk p.l (rv194.2.at_ + 1) rv194.2.Err))
           let rv229 := (pz_end (Gparser.mk p.l rv218.2.at_ rv218.2.Err))
           ((GStmt.mk 1 rv194.1 rv218.1 []), (Gparser.mk p.l rv229.at_ rv229.Err))
 else
  bif ((Str.mk []) == (Str.mk [117, 115, 101])) then
   let rv240 := (pz_name p)
   let rv251 := (pz_more (Gparser.mk p.l rv240.2.at_ rv240.2.Err) 1)
   let rv268 := (pz_end (Gparser.mk p.l rv251.2.at_ rv251.2.Err))
   ((GStmt.mk 2 (Str.mk []) ([rv240.1] ++ rv251.1) []), (Gparser.mk p.l rv268.at_ rv268.Err))
  else
   bif ((Str.mk []) == (Str.mk [99, 97, 108, 108])) then
    let rv277 := (pz_name p)
    let rv287 := (pz_end (Gparser.mk p.l rv277.2.at_ rv277.2.Err))
    ((GStmt.mk 3 (Str.mk []) [] [rv277.1]), (Gparser.mk p.l rv287.at_ rv287.Err))
   else
    bif ((Str.mk []) == (Str.mk [115, 111, 117, 114, 99, 101])) then
     let rv296 := (pz_name p)
     let rv303 := (pz_end (Gparser.mk p.l rv296.2.at_ rv296.2.Err))
     ((GStmt.mk 4 rv296.1 [] []), (Gparser.mk p.l rv303.at_ rv303.Err))
    else
     bif ((Str.mk []) == (Str.mk [115, 105, 110, 107])) then
      let rv312 := (pz_name p)
      let rv322 := (pz_end (Gparser.mk p.l rv312.2.at_ rv312.2.Err))
      ((GStmt.mk 5 (Str.mk []) [rv312.1] []), (Gparser.mk p.l rv322.at_ rv322.Err))
     else
      bif ((Str.mk []) == (Str.mk [115, 97, 110, 105, 116, 105, 122, 101])) then
       let rv331 := (pz_name p)
       let rv338 := (pz_end (Gparser.mk p.l rv331.2.at_ rv331.2.Err))
       ((GStmt.mk 6 rv331.1 [] []), (Gparser.mk p.l rv338.at_ rv338.Err))
      else
       bif ((Str.mk []) == (Str.mk [103, 111, 116, 111])) then
        let rv347 := (pz_name p)
        let rv357 := (pz_end (Gparser.mk p.l rv347.2.at_ rv347.2.Err))
        ((GStmt.mk 7 (Str.mk []) [] [rv347.1]), (Gparser.mk p.l rv357.at_ rv357.Err))
       else
        bif ((Str.mk []) == (Str.mk [98, 114, 97, 110, 99, 104])) then
         let rv366 := (pz_name p)
         let rv376 := (pz_name (Gparser.mk p.l rv366.2.at_ rv366.2.Err))
         let rv386 := (pz_name (Gparser.mk p.l rv376.2.at_ rv376.2.Err))
         let rv402 := (pz_end (Gparser.mk p.l rv386.2.at_ rv386.2.Err))
         ((GStmt.mk 8 (Str.mk []) [rv366.1] ([rv376.1] ++ [rv386.1])), (Gparser.mk p.l rv402.at_ rv402.Err))
        else
         bif ((Str.mk []) == (Str.mk [114, 101, 116, 117, 114, 110])) then
          let rv411 := (pz_end p)
          ((GStmt.mk 9 (Str.mk []) [] []), (Gparser.mk p.l rv411.at_ rv411.Err))
         else
          let rv418 := (pz_name p)
          let rv425 := (pz_isKind (Gparser.mk p.l rv418.2.at_ rv418.2.Err) 2)
          bif (!rv425) then
           let rv432 := (pz_fail (Gparser.mk p.l rv418.2.at_ rv418.2.Err) 4)
           ((GStmt.mk 1 rv418.1 [] []), (Gparser.mk p.l rv432.at_ rv432.Err))
          else
           let rv442 := (pz_names (Gparser.mk p.l (rv418.2.at_ + 1) rv418.2.Err))
           let rv453 := (pz_end (Gparser.mk p.l rv442.2.at_ rv442.2.Err))
           ((GStmt.mk 1 rv418.1 rv442.1 []), (Gparser.mk p.l rv453.at_ rv453.Err))
def pz_block_L0 (p : Gparser) (b0 : Str) : Nat → Int → Int → List GStmt → LR (Int × Int × List GStmt) (GBlock × Gparser)
 | 0, p1, p2, b1 =>
  .oof
 | r + 1, p1, p2, b1 =>
  let rv35 := (pz_begins (Gparser.mk p.l p1 p2))
  bif rv35 then
   bif ((b1.length : Int) == 32) then
    let rv42 := (pz_fail (Gparser.mk p.l p1 p2) 7)
    .ret ((GBlock.mk b0 b1), (Gparser.mk p.l rv42.at_ rv42.Err))
   else
    let rv51 := (pz_stmt (Gparser.mk p.l p1 p2))
    pz_block_L0 p b0 r rv51.2.at_ rv51.2.Err (b1 ++ [rv51.1])
  else
   .brk (p1, p2, b1)
def pz_block (p : Gparser) : GBlock × Gparser :=
 let rv3 := (pz_word p (Str.mk [98, 108, 111, 99, 107]))
 let rv9 := (pz_name (Gparser.mk p.l rv3.at_ rv3.Err))
 let rv16 := (pz_end (Gparser.mk p.l rv9.2.at_ rv9.2.Err))
 let rv22 := (pz_begins (Gparser.mk p.l rv16.at_ rv16.Err))
 bif (!rv22) then
  let rv29 := (pz_fail (Gparser.mk p.l rv16.at_ rv16.Err) 4)
  match pz_block_L0 p rv9.1 (p.l.length + 1) rv29.at_ rv29.Err [] with
  | .brk (o0_0, o0_1, o0_2) =>
   ((GBlock.mk rv9.1 o0_2), (Gparser.mk p.l o0_0 o0_1))
  | .ret r => r
  | .oof => default
 else
  match pz_block_L0 p rv9.1 (p.l.length + 1) rv16.at_ rv16.Err [] with
  | .brk (o0_0, o0_1, o0_2) =>
   ((GBlock.mk rv9.1 o0_2), (Gparser.mk p.l o0_0 o0_1))
  | .ret r => r
  | .oof => default
def pz_function_L0 (p : Gparser) (f0 : Str) : Nat → Int → Int → List GBlock → LR (Int × Int × List GBlock) (GFunc × Gparser)
 | 0, p1, p2, f1 =>
  .oof
 | r + 1, p1, p2, f1 =>
  let rv35 := (pz_is (Gparser.mk p.l p1 p2) (Str.mk [98, 108, 111, 99, 107]))
  bif rv35 then
   bif ((f1.length : Int) == 16) then
    let rv42 := (pz_fail (Gparser.mk p.l p1 p2) 7)
    .ret ((GFunc.mk f0 f1), (Gparser.mk p.l rv42.at_ rv42.Err))
   else
    let rv50 := (pz_block (Gparser.mk p.l p1 p2))
    pz_function_L0 p f0 r rv50.2.at_ rv50.2.Err (f1 ++ [rv50.1])
  else
   .brk (p1, p2, f1)
def pz_function (p : Gparser) : GFunc × Gparser :=
 let rv3 := (pz_word p (Str.mk [102, 117, 110, 99]))
 let rv9 := (pz_name (Gparser.mk p.l rv3.at_ rv3.Err))
 let rv16 := (pz_end (Gparser.mk p.l rv9.2.at_ rv9.2.Err))
 let rv22 := (pz_is (Gparser.mk p.l rv16.at_ rv16.Err) (Str.mk [98, 108, 111, 99, 107]))
 bif (!rv22) then
  let rv29 := (pz_fail (Gparser.mk p.l rv16.at_ rv16.Err) 4)
  match pz_function_L0 p rv9.1 (p.l.length + 1) rv29.at_ rv29.Err [] with
  | .brk (o0_0, o0_1, o0_2) =>
   let rv40 := (pz_word (Gparser.mk p.l o0_0 o0_1) (Str.mk [101, 110, 100]))
   let rv46 := (pz_end (Gparser.mk p.l rv40.at_ rv40.Err))
   ((GFunc.mk rv9.1 o0_2), (Gparser.mk p.l rv46.at_ rv46.Err))
  | .ret r => r
  | .oof => default
 else
  match pz_function_L0 p rv9.1 (p.l.length + 1) rv16.at_ rv16.Err [] with
  | .brk (o0_0, o0_1, o0_2) =>
   let rv60 := (pz_word (Gparser.mk p.l o0_0 o0_1) (Str.mk [101, 110, 100]))
   let rv66 := (pz_end (Gparser.mk p.l rv60.at_ rv60.Err))
   ((GFunc.mk rv9.1 o0_2), (Gparser.mk p.l rv66.at_ rv66.Err))
  | .ret r => r
  | .oof => default
def r4_Parse_L0  (p0 : List GToken) : Nat → Int → Int → List GFunc → LR (Int × Int × List GFunc) (GProgram × Int × Int × Int)
 | 0, p1, p2, out0 =>
  .oof
 | r + 1, p1, p2, out0 =>
  let rv30 := (pz_is (Gparser.mk p0 p1 p2) (Str.mk [102, 117, 110, 99]))
  bif rv30 then
   bif ((out0.length : Int) == 8) then
    let rv37 := (pz_fail (Gparser.mk p0 p1 p2) 7)
    .brk (rv37.at_, rv37.Err, out0)
   else
    let rv45 := (pz_function (Gparser.mk p0 p1 p2))
    r4_Parse_L0 p0 r rv45.2.at_ rv45.2.Err (out0 ++ [rv45.1])
  else
   .brk (p1, p2, out0)
def r4_Parse (text : Str) : GProgram × Int × Int × Int :=
 let rv3 := (r4_Scan text)
 bif (rv3.2.2.2 != 0) then
  ((GProgram.mk []), rv3.2.1, rv3.2.2.1, rv3.2.2.2)
 else
  let rv17 := (pz_is (Gparser.mk rv3.1 0 0) (Str.mk [102, 117, 110, 99]))
  bif (!rv17) then
   let rv24 := (pz_fail (Gparser.mk rv3.1 0 0) 4)
   match r4_Parse_L0 rv3.1 (rv3.1.length + 1) rv24.at_ rv24.Err [] with
   | .brk (o0_0, o0_1, o0_2) =>
    bif (o0_1 == 0) then
     bif decide (o0_0 < (rv3.1.length : Int)) then
      let rv39 := (pz_fail (Gparser.mk rv3.1 o0_0 o0_1) 4)
      bif (rv39.Err == 0) then
       ((GProgram.mk o0_2), 0, 0, 0)
      else
       bif decide (rv39.at_ < (rv3.1.length : Int)) then
        ((GProgram.mk []), (rv3.1.getD rv39.at_.toNat default).Line, (rv3.1.getD rv39.at_.toNat default).Col, rv39.Err)
       else
        ((GProgram.mk []), 0, 0, rv39.Err)
     else
      ((GProgram.mk o0_2), 0, 0, 0)
    else
     bif decide (o0_0 < (rv3.1.length : Int)) then
      ((GProgram.mk []), (rv3.1.getD o0_0.toNat default).Line, (rv3.1.getD o0_0.toNat default).Col, o0_1)
     else
      ((GProgram.mk []), 0, 0, o0_1)
   | .ret _ => default
   | .oof => default
  else
   match r4_Parse_L0 rv3.1 (rv3.1.length + 1) 0 0 [] with
   | .brk (o0_0, o0_1, o0_2) =>
    bif (o0_1 == 0) then
     bif decide (o0_0 < (rv3.1.length : Int)) then
      let rv80 := (pz_fail (Gparser.mk rv3.1 o0_0 o0_1) 4)
      bif (rv80.Err == 0) then
       ((GProgram.mk o0_2), 0, 0, 0)
      else
       bif decide (rv80.at_ < (rv3.1.length : Int)) then
        ((GProgram.mk []), (rv3.1.getD rv80.at_.toNat default).Line, (rv3.1.getD rv80.at_.toNat default).Col, rv80.Err)
       else
        ((GProgram.mk []), 0, 0, rv80.Err)
     else
      ((GProgram.mk o0_2), 0, 0, 0)
    else
     bif decide (o0_0 < (rv3.1.length : Int)) then
      ((GProgram.mk []), (rv3.1.getD o0_0.toNat default).Line, (rv3.1.getD o0_0.toNat default).Col, o0_1)
     else
      ((GProgram.mk []), 0, 0, o0_1)
   | .ret _ => default
   | .oof => default
def gh_ascending_L0 (l : List Int) (n : Int) : Nat → Int → LR Unit Bool
 | 0, v9 =>
  .brk ()
 | r + 1, v9 =>
  bif decide ((l.getD v9.toNat 0) < 0) then
   .ret false
  else
   bif decide (n ≤ (l.getD v9.toNat 0)) then
    .ret false
   else
    bif decide (0 < v9) then
     bif decide ((l.getD v9.toNat 0) ≤ (l.getD ((v9 - 1) : Int).toNat 0)) then
      .ret false
     else
      gh_ascending_L0 l n r (v9 + 1)
    else
     gh_ascending_L0 l n r (v9 + 1)
def gh_ascending (l : List Int) (n : Int) : Bool :=
 match gh_ascending_L0 l n (((l.length : Int) - 0).toNat) 0 with
 | .brk _ =>
  true
 | .ret r => r
 | .oof => default
def gh_count_L0 (l : List (List Int)) : Nat → Int → Int → LR Int Int
 | 0, edges, v8 =>
  .brk edges
 | r + 1, edges, v8 =>
  bif decide (1024 < (edges + ((l.getD v8.toNat []).length : Int))) then
   .ret (-1)
  else
   let rv10 := (gh_ascending (l.getD v8.toNat []) (l.length : Int))
   bif (!rv10) then
    .ret (-1)
   else
    gh_count_L0 l r (edges + ((l.getD v8.toNat []).length : Int)) (v8 + 1)
def gh_count (l : List (List Int)) : Int :=
 match gh_count_L0 l (((l.length : Int) - 0).toNat) 0 0 with
 | .brk o0_0 =>
  o0_0
 | .ret r => r
 | .oof => default
def gh_Valid_L1 (g : GGraph) (a : Int) (v52 : List Int) : Nat → Int → LR Unit Bool
 | 0, v54 =>
  .brk ()
 | r + 1, v54 =>
  let rv43 := (sc_Contains_int (g.Pred.getD ((v52.getD v54.toNat 0) : Int).toNat []) a)
  bif (!rv43) then
   .ret false
  else
   gh_Valid_L1 g a v52 r (v54 + 1)
def gh_Valid_L0 (g : GGraph) : Nat → Int → LR Unit Bool
 | 0, v47 =>
  .brk ()
 | r + 1, v47 =>
  match gh_Valid_L1 g v47 (g.Succ.getD v47.toNat []) (((((g.Succ.getD v47.toNat []).length : Int) : Int) - 0).toNat) 0 with
  | .brk _ =>
   gh_Valid_L0 g r (v47 + 1)
  | .ret r => .ret r
  | .oof => .oof
def gh_Valid (g : GGraph) : Bool :=
 bif decide ((g.Nodes.length : Int) < 1) then
  false
 else
  bif decide (256 < (g.Nodes.length : Int)) then
   false
  else
   bif ((g.Succ.length : Int) != (g.Nodes.length : Int)) then
    false
   else
    bif ((g.Pred.length : Int) != (g.Nodes.length : Int)) then
     false
    else
     let rv14 := (gh_count g.Succ)
     bif decide (rv14 < 0) then
      false
     else
      let rv22 := (gh_count g.Pred)
      bif (rv22 != rv14) then
       false
      else
       match gh_Valid_L0 g (((g.Succ.length : Int) - 0).toNat) 0 with
       | .brk _ =>
        true
       | .ret r => r
       | .oof => default
def gh_Edges (g : GGraph) : Int :=
 let rv2 := (gh_Valid g)
 bif (!rv2) then
  0
 else
  let rv12 := (gh_count g.Succ)
  rv12
def w8_sane  : Bool :=
 let rv2 := (r4_Parse (Str.mk [102, 117, 110, 99, 32, 109, 59, 32, 98, 108, 111, 99, 107, 32, 98, 59, 32, 98, 114, 97, 110, 99, 104, 32, 120, 32, 98, 32, 98, 59, 32, 101, 110, 100]))
 let rv15 := (gh_Build rv2.1)
 bif (rv15.2 == 0) then
  bif ((rv15.1.Succ.length : Int) == 3) then
   let rv41 := (r7_Ints (rv15.1.Succ.getD (0 : Int).toNat []) [1])
   bif rv41 then
    let rv52 := (r7_Ints (rv15.1.Succ.getD (1 : Int).toNat []) [1])
    bif rv52 then
     bif (((rv15.1.Succ.getD (2 : Int).toNat []).length : Int) == 0) then
      let rv69 := (r7_Ints (rv15.1.Pred.getD (1 : Int).toNat []) [0, 1])
      bif rv69 then
       let rv73 := (gh_Edges rv15.1)
       (rv73 == 2)
      else
       false
     else
      false
    else
     false
   else
    false
  else
   false
 else
  false
def g_Mod (v : Int) (n : Int) : Int :=
 (((BitVec.ofInt 64 v) % (BitVec.ofInt 64 n)).toNat : Int)
def tp_Next (tT : List Int) (tI : Int) (n : Int) : Int × Int :=
 bif decide (n ≤ 1) then
  (0, tI)
 else
  bif decide ((tT.length : Int) ≤ tI) then
   (0, tI)
  else
   let rv8 := (g_Mod (tT.getD (((tI + 1) - 1) : Int).toNat 0) n)
   (rv8, (tI + 1))
def r7_Insert_L0 (l : List Int) (n : Int) : Nat → Int → Int
 | 0, i =>
  i
 | r + 1, i =>
  bif decide ((l.getD i.toNat 0) < n) then
   r7_Insert_L0 l n r (i + 1)
  else
   i
def r7_Insert (l : List Int) (n : Int) : List Int :=
 match r7_Insert_L0 l n (((l.length : Int) - 0).toNat) 0 with
 | o0_0 =>
  bif decide (o0_0 < (l.length : Int)) then
   bif ((l.getD o0_0.toNat 0) == n) then
    l
   else
    ((((l.take (o0_0.toNat)).drop 0) ++ [n]) ++ ((l.take l.length).drop (o0_0.toNat)))
  else
   ((((l.take (o0_0.toNat)).drop 0) ++ [n]) ++ ((l.take l.length).drop (o0_0.toNat)))
def tp_Graph_L0 (tT : List Int) (n' : Int) : Nat → Int → List (List Int) → List (List Int) → Int → Int × List (List Int) × List (List Int)
 | 0, ti', g1, g2, k =>
  (ti', g1, g2)
 | r + 1, ti', g1, g2, k =>
  let rv31 := (tp_Next tT ti' n')
  let rv37 := (tp_Next tT rv31.2 n')
  let rv48 := (r7_Insert (g1.getD rv31.1.toNat []) rv37.1)
  let rv61 := (r7_Insert (g2.getD rv37.1.toNat []) rv31.1)
  tp_Graph_L0 tT n' r rv37.2 (g1.set rv31.1.toNat rv48) (g2.set rv37.1.toNat rv61) (k - 1)
def tp_Graph (tT : List Int) (tI : Int) (n : Int) : GGraph × Int :=
 let rv2 := (tp_Next tT tI n)
 let rv23 := (tp_Next tT rv2.2 ((2 * (1 + rv2.1)) + 1))
 match tp_Graph_L0 tT (1 + rv2.1) (rv23.1.toNat) rv23.2 (List.replicate ((1 + rv2.1) : Int).toNat []) (List.replicate ((1 + rv2.1) : Int).toNat []) rv23.1 with
 | (o0_0, o0_1, o0_2) =>
  ((GGraph.mk (List.replicate ((1 + rv2.1) : Int).toNat (default : GNode)) o0_1 o0_2), o0_0)
def sc_Clone_Node (s : List GNode) : List GNode := s
def gh_lists_L0 (l : List (List Int)) : Nat → List (List Int) → Int → List (List Int)
 | 0, out, v8 =>
  out
 | r + 1, out, v8 =>
  gh_lists_L0 l r (out ++ [(l.getD v8.toNat [])]) (v8 + 1)
def gh_lists (l : List (List Int)) : List (List Int) :=
 match gh_lists_L0 l (((l.length : Int) - 0).toNat) [] 0 with
 | o0_0 =>
  o0_0
def gh_Reverse (g : GGraph) : GGraph × Int :=
 let rv3 := (gh_Valid g)
 bif (!rv3) then
  ((GGraph.mk [] [] []), 1)
 else
  let rv14 := (sc_Clone_Node g.Nodes)
  let rv22 := (gh_lists g.Pred)
  let rv30 := (gh_lists g.Succ)
  ((GGraph.mk rv14 rv22 rv30), 0)
def sc_IndexFunc_int_L0 (s : List Int) (fp : Int → Bool) : Nat → Int → LR Unit Int
 | 0, v8 =>
  .brk ()
 | r + 1, v8 =>
  bif (fp (s.getD v8.toNat 0)) then
   .ret v8
  else
   sc_IndexFunc_int_L0 s fp r (v8 + 1)
def sc_IndexFunc_int (s : List Int) (fp : Int → Bool) : Int :=
 match sc_IndexFunc_int_L0 s fp (((s.length : Int) - 0).toNat) 0 with
 | .brk _ =>
  -1
 | .ret r => r
 | .oof => default
def sc_ContainsFunc_int (s : List Int) (fp : Int → Bool) : Bool :=
 let rv1 := (sc_IndexFunc_int s fp)
 decide (0 ≤ rv1)
def gh_Reach_1 (n : Int) (cap0 : GGraph) : Bool :=
 bif decide (n < 0) then
  true
 else
  decide ((cap0.Nodes.length : Int) ≤ n)
def sc_Clone_int (s : List Int) : List Int := s
def sc_Clip_int (s : List Int) : List Int :=
 ((s.take ((s.length : Int).toNat)).drop 0)
def gh_Reach_L0 (g : GGraph) : Nat → List Bool → List Int → List Int → LR (List Int) (List Int)
 | 0, seen, todo, out =>
  .oof
 | r + 1, seen, todo, out =>
  bif decide (0 < (todo.length : Int)) then
   bif (!(seen.getD ((todo.getD (((todo.length : Int) - 1) : Int).toNat 0) : Int).toNat false)) then
    gh_Reach_L0 g r (seen.set ((todo.getD (((todo.length : Int) - 1) : Int).toNat 0) : Int).toNat true) (((todo.take ((((todo.length : Int) - 1) : Int).toNat)).drop 0) ++ (g.Succ.getD ((todo.getD (((todo.length : Int) - 1) : Int).toNat 0) : Int).toNat [])) (out ++ [(todo.getD (((todo.length : Int) - 1) : Int).toNat 0)])
   else
    gh_Reach_L0 g r seen ((todo.take ((((todo.length : Int) - 1) : Int).toNat)).drop 0) out
  else
   .brk out
def gh_Reach (g : GGraph) (from_ : List Int) : List Int :=
 let rv2 := (gh_Valid g)
 bif (!rv2) then
  ([] : List Int)
 else
  let rv12 := (sc_ContainsFunc_int from_ (fun x => gh_Reach_1 x g))
  bif rv12 then
   ([] : List Int)
  else
   let rv24 := (sc_Clone_int from_)
   match gh_Reach_L0 g (from_.length + (g.Succ.map List.length).sum + 1) (List.replicate (g.Nodes.length : Int).toNat false) rv24 [] with
   | .brk o0_0 =>
    let rv35 := (sc_Sort_int o0_0)
    let rv43 := (sc_Clip_int rv35)
    rv43
   | .ret _ => default
   | .oof => default
def r7_SameLists_L0 (a : List (List Int)) (b : List (List Int)) : Nat → Int → LR Unit Bool
 | 0, i =>
  .brk ()
 | r + 1, i =>
  let rv14 := (r7_Ints (a.getD i.toNat []) (b.getD i.toNat []))
  bif (!rv14) then
   .ret false
  else
   r7_SameLists_L0 a b r (i + 1)
def r7_SameLists (a : List (List Int)) (b : List (List Int)) : Bool :=
 bif ((a.length : Int) != (b.length : Int)) then
  false
 else
  match r7_SameLists_L0 a b (((a.length : Int) - 0).toNat) 0 with
  | .brk _ =>
   true
  | .ret r => r
  | .oof => default
def r7_SameGraph_L0 (a : GGraph) (b : GGraph) : Nat → Int → LR Unit Bool
 | 0, i =>
  .brk ()
 | r + 1, i =>
  bif ([(a.Nodes.getD i.toNat default).Kind, (a.Nodes.getD i.toNat default).Func, (a.Nodes.getD i.toNat default).Block, (a.Nodes.getD i.toNat default).Stmt] != [(b.Nodes.getD i.toNat default).Kind, (b.Nodes.getD i.toNat default).Func, (b.Nodes.getD i.toNat default).Block, (b.Nodes.getD i.toNat default).Stmt]) then
   .ret false
  else
   r7_SameGraph_L0 a b r (i + 1)
def r7_SameGraph (a : GGraph) (b : GGraph) : Bool :=
 bif ((a.Nodes.length : Int) != (b.Nodes.length : Int)) then
  false
 else
  let rv6 := (r7_SameLists a.Succ b.Succ)
  bif (!rv6) then
   false
  else
   let rv16 := (r7_SameLists a.Pred b.Pred)
   bif (!rv16) then
    false
   else
    match r7_SameGraph_L0 a b (((a.Nodes.length : Int) - 0).toNat) 0 with
    | .brk _ =>
     true
    | .ret r => r
    | .oof => default
def r7_Has_L0 (l : List Int) (n : Int) : Nat → Int → LR Unit Bool
 | 0, i =>
  .brk ()
 | r + 1, i =>
  bif ((l.getD i.toNat 0) == n) then
   .ret true
  else
   r7_Has_L0 l n r (i + 1)
def r7_Has (l : List Int) (n : Int) : Bool :=
 match r7_Has_L0 l n (((l.length : Int) - 0).toNat) 0 with
 | .brk _ =>
  false
 | .ret r => r
 | .oof => default
def r7_total_L0 (l : List (List Int)) (limit : Int) : Nat → Int → Int → Int
 | 0, n, i =>
  n
 | r + 1, n, i =>
  bif decide (n ≤ limit) then
   r7_total_L0 l limit r (n + (min ((l.getD i.toNat []).length : Int) (limit + 1))) (i + 1)
  else
   n
def r7_total (l : List (List Int)) (limit : Int) : Int :=
 match r7_total_L0 l limit (((l.length : Int) - 0).toNat) 0 0 with
 | o0_0 =>
  o0_0
def r7_Rising_L0 (l : List Int) (n : Int) : Nat → Int → LR Unit Bool
 | 0, i =>
  .brk ()
 | r + 1, i =>
  bif decide ((l.getD i.toNat 0) < 0) then
   .ret false
  else
   bif decide (n ≤ (l.getD i.toNat 0)) then
    .ret false
   else
    bif decide (0 < i) then
     bif decide ((l.getD i.toNat 0) ≤ (l.getD ((i - 1) : Int).toNat 0)) then
      .ret false
     else
      r7_Rising_L0 l n r (i + 1)
    else
     r7_Rising_L0 l n r (i + 1)
def r7_Rising (l : List Int) (n : Int) : Bool :=
 match r7_Rising_L0 l n (((l.length : Int) - 0).toNat) 0 with
 | .brk _ =>
  true
 | .ret r => r
 | .oof => default
def r7_ValidGraph_L0 (g : GGraph) : Nat → Int → LR Unit Bool
 | 0, i =>
  .brk ()
 | r + 1, i =>
  let rv36 := (r7_Rising (g.Succ.getD i.toNat []) (g.Nodes.length : Int))
  bif (!rv36) then
   .ret false
  else
   let rv50 := (r7_Rising (g.Pred.getD i.toNat []) (g.Nodes.length : Int))
   bif (!rv50) then
    .ret false
   else
    r7_ValidGraph_L0 g r (i + 1)
def r7_ValidGraph_L2 (g : GGraph) (i : Int) : Nat → Int → LR Unit Bool
 | 0, k =>
  .brk ()
 | r + 1, k =>
  let rv43 := (r7_Has (g.Pred.getD (((g.Succ.getD i.toNat []).getD k.toNat 0) : Int).toNat []) i)
  bif (!rv43) then
   .ret false
  else
   r7_ValidGraph_L2 g i r (k + 1)
def r7_ValidGraph_L3 (g : GGraph) (i : Int) : Nat → Int → LR Unit Bool
 | 0, k =>
  .brk ()
 | r + 1, k =>
  let rv43 := (r7_Has (g.Succ.getD (((g.Pred.getD i.toNat []).getD k.toNat 0) : Int).toNat []) i)
  bif (!rv43) then
   .ret false
  else
   r7_ValidGraph_L3 g i r (k + 1)
def r7_ValidGraph_L1 (g : GGraph) : Nat → Int → LR Unit Bool
 | 0, i =>
  .brk ()
 | r + 1, i =>
  match r7_ValidGraph_L2 g i (((((g.Succ.getD i.toNat []).length : Int) : Int) - 0).toNat) 0 with
  | .brk _ =>
   match r7_ValidGraph_L3 g i (((((g.Pred.getD i.toNat []).length : Int) : Int) - 0).toNat) 0 with
   | .brk _ =>
    r7_ValidGraph_L1 g r (i + 1)
   | .ret r => .ret r
   | .oof => .oof
  | .ret r => .ret r
  | .oof => .oof
def r7_ValidGraph (g : GGraph) : Bool :=
 bif decide ((g.Nodes.length : Int) < 1) then
  false
 else
  bif decide (256 < (g.Nodes.length : Int)) then
   false
  else
   bif ((g.Succ.length : Int) != (g.Nodes.length : Int)) then
    false
   else
    bif ((g.Pred.length : Int) != (g.Nodes.length : Int)) then
     false
    else
     let rv14 := (r7_total g.Succ 1024)
     bif decide (1024 < rv14) then
      false
     else
      let rv22 := (r7_total g.Pred 1024)
      bif decide (1024 < rv22) then
       false
      else
       match r7_ValidGraph_L0 g (((g.Nodes.length : Int) - 0).toNat) 0 with
       | .brk _ =>
        match r7_ValidGraph_L1 g (((g.Nodes.length : Int) - 0).toNat) 0 with
        | .brk _ =>
         true
        | .ret r => r
        | .oof => default
       | .ret r => r
       | .oof => default
def r7_Edges (g : GGraph) : Int :=
 let rv2 := (r7_ValidGraph g)
 bif (!rv2) then
  0
 else
  let rv12 := (r7_total g.Succ 1024)
  rv12
def r7_Reach_L0 (g : GGraph) (from_ : List Int) : Nat → List Int → Int → LR (List Int) (List Int)
 | 0, out, i =>
  .brk out
 | r + 1, out, i =>
  bif decide ((from_.getD i.toNat 0) < 0) then
   .ret ([] : List Int)
  else
   bif decide ((g.Nodes.length : Int) ≤ (from_.getD i.toNat 0)) then
    .ret ([] : List Int)
   else
    let rv24 := (r7_Insert out (from_.getD i.toNat 0))
    r7_Reach_L0 g from_ r rv24 (i + 1)
def r7_Reach_L3  (s : List Int) : Nat → List Int → Int → List Int
 | 0, out, k =>
  out
 | r + 1, out, k =>
  let rv36 := (r7_Insert out (s.getD k.toNat 0))
  r7_Reach_L3 s r rv36 (k + 1)
def r7_Reach_L2 (g : GGraph) (now : List Int) : Nat → List Int → Int → List Int
 | 0, out, i =>
  out
 | r + 1, out, i =>
  match r7_Reach_L3 (g.Succ.getD ((now.getD i.toNat 0) : Int).toNat []) (((((g.Succ.getD ((now.getD i.toNat 0) : Int).toNat []).length : Int) : Int) - 0).toNat) out 0 with
  | o3_0 =>
   r7_Reach_L2 g now r o3_0 (i + 1)
def r7_Reach_L1 (g : GGraph) : Nat → List Int → Int → LR (List Int) (List Int)
 | 0, out, size =>
  .oof
 | r + 1, out, size =>
  bif (size != (out.length : Int)) then
   match r7_Reach_L2 g out (((out.length : Int) - 0).toNat) out 0 with
   | o2_0 =>
    r7_Reach_L1 g r o2_0 (out.length : Int)
  else
   .brk out
def r7_Reach (g : GGraph) (from_ : List Int) : List Int :=
 let rv2 := (r7_ValidGraph g)
 bif (!rv2) then
  ([] : List Int)
 else
  match r7_Reach_L0 g from_ (((from_.length : Int) - 0).toNat) [] 0 with
  | .brk o0_0 =>
   match r7_Reach_L1 g (g.Nodes.length + 2) o0_0 (-1) with
   | .brk o1_0 =>
    o1_0
   | .ret _ => default
   | .oof => default
  | .ret r => r
  | .oof => default
def w8_reads (g : GGraph) (from_ : List Int) : Bool :=
 let rv5 := (gh_Reverse g)
 let rv19 := (r7_ValidGraph g)
 bif (!((rv5.2 == 0) == rv19)) then
  false
 else
  bif (rv5.2 != 0) then
   bif (rv5.2 != 1) then
    false
   else
    bif decide (0 < (rv5.1.Nodes.length : Int)) then
     false
    else
     let rv35 := (gh_Valid g)
     bif (rv35 == rv19) then
      let rv41 := (gh_Edges g)
      let rv45 := (r7_Edges g)
      bif (rv41 == rv45) then
       let rv52 := (gh_Reach g from_)
       let rv61 := (r7_Reach g from_)
       let rv68 := (r7_Ints rv52 rv61)
       rv68
      else
       false
     else
      false
  else
   let rv76 := (r7_SameGraph rv5.1 (GGraph.mk g.Nodes g.Pred g.Succ))
   bif (!rv76) then
    false
   else
    let rv86 := (gh_Valid g)
    bif (rv86 == rv19) then
     let rv92 := (gh_Edges g)
     let rv96 := (r7_Edges g)
     bif (rv92 == rv96) then
      let rv103 := (gh_Reach g from_)
      let rv112 := (r7_Reach g from_)
      let rv119 := (r7_Ints rv103 rv112)
      rv119
     else
      false
    else
     false
def tp_SpoilGraph (tT : List Int) (tI : Int) (g : GGraph) : GGraph × Int :=
 let rv25 := (tp_Next tT tI (g.Nodes.length : Int))
 let rv31 := (tp_Next tT rv25.2 4)
 bif (rv31.1 == 0) then
  let rv43 := (tp_Next tT rv31.2 ((g.Nodes.length : Int) + 1))
  let rv50 := (r7_Insert (g.Succ.getD rv25.1.toNat []) rv43.1)
  ((GGraph.mk g.Nodes (g.Succ.set rv25.1.toNat rv50) g.Pred), rv43.2)
 else
  bif (rv31.1 == 1) then
   let rv71 := (tp_Next tT rv31.2 (g.Nodes.length : Int))
   ((GGraph.mk g.Nodes g.Succ (g.Pred.set rv25.1.toNat ((g.Pred.getD rv25.1.toNat []) ++ [(rv71.1 - 1)]))), rv71.2)
  else
   bif (rv31.1 == 2) then
    ((GGraph.mk ((g.Nodes.take g.Nodes.length).drop ((1 : Int).toNat)) g.Succ g.Pred), rv31.2)
   else
    ((GGraph.mk g.Nodes (g.Succ.set rv25.1.toNat ([] : List Int)) g.Pred), rv31.2)
def g_New (l : List Int) : Unit :=
 ()
def w8_GraphReads_L0 (t : List Int) (from_ : List Int) : Nat → Int → Int → Unit
 | 0, k1, i =>
  ()
 | r + 1, k1, i =>
  let rv11 := (tp_Graph t k1 8)
  let rv29 := (tp_Next t rv11.2 (rv11.1.Nodes.length : Int))
  let rv38 := (w8_reads rv11.1 [rv29.1])
  let rv47 := (tp_Next t rv29.2 (rv11.1.Nodes.length : Int))
  let rv53 := (tp_Next t rv47.2 (rv11.1.Nodes.length : Int))
  let rv62 := (w8_reads rv11.1 [rv47.1, rv53.1])
  let rv74 := (tp_SpoilGraph t rv53.2 rv11.1)
  let rv91 := (w8_reads rv74.1 [0])
  let rv100 := (tp_Next t rv74.2 ((rv11.1.Nodes.length : Int) + 2))
  let rv109 := (w8_reads rv11.1 [(rv100.1 - 1)])
  bif decide ((from_.length : Int) < 20) then
   let rv120 := (w8_reads rv11.1 from_)
   w8_GraphReads_L0 t from_ r rv100.2 (i + 1)
  else
   w8_GraphReads_L0 t from_ r rv100.2 (i + 1)
def w8_GraphReads (t : List Int) (g : GGraph) (from_ : List Int) : Bool :=
 let rv3 := (g_New t)
 match w8_GraphReads_L0 t from_ 5 0 0 with
 | _ =>
  bif decide (10 < (g.Nodes.length : Int)) then
   w8_sane
  else
   bif decide (10 < (g.Succ.length : Int)) then
    w8_sane
   else
    bif decide (10 < (g.Pred.length : Int)) then
     w8_sane
    else
     bif decide (20 < (from_.length : Int)) then
      w8_sane
     else
      let rv22 := (w8_reads g from_)
      bif rv22 then
       w8_sane
      else
       false
def r4_namesOK_L0 (l : List Str) : Nat → Int → LR Unit Bool
 | 0, i =>
  .brk ()
 | r + 1, i =>
  let rv6 := (r4_IsName (l.getD i.toNat default))
  bif (!rv6) then
   .ret false
  else
   r4_namesOK_L0 l r (i + 1)
def r4_namesOK (l : List Str) (a : Int) (b : Int) : Bool :=
 match r4_namesOK_L0 l (((l.length : Int) - 0).toNat) 0 with
 | .brk _ =>
  bif decide (a ≤ (l.length : Int)) then
   decide ((l.length : Int) ≤ b)
  else
   false
 | .ret r => r
 | .oof => default
def r4_stmtOK (s : GStmt) : Bool :=
 let rv2 := (r4_IsName s.Def)
 let rv5 := (r4_namesOK s.Uses 0 4)
 bif (!rv5) then
  false
 else
  let rv15 := (r4_namesOK s.Targets 0 2)
  bif (!rv15) then
   false
  else
   bif (s.Op == 1) then
    bif rv2 then
     ((s.Targets.length : Int) == 0)
    else
     false
   else
    bif (s.Op == 2) then
     bif (s.Def == (Str.mk [])) then
      bif decide (1 ≤ (s.Uses.length : Int)) then
       ((s.Targets.length : Int) == 0)
      else
       false
     else
      false
    else
     bif (s.Op == 5) then
      bif (s.Def == (Str.mk [])) then
       bif ((s.Uses.length : Int) == 1) then
        ((s.Targets.length : Int) == 0)
       else
        false
      else
       false
     else
      bif (s.Op == 3) then
       bif (s.Def == (Str.mk [])) then
        bif ((s.Uses.length : Int) == 0) then
         ((s.Targets.length : Int) == 1)
        else
         false
       else
        false
      else
       bif (s.Op == 7) then
        bif (s.Def == (Str.mk [])) then
         bif ((s.Uses.length : Int) == 0) then
          ((s.Targets.length : Int) == 1)
         else
          false
        else
         false
       else
        bif (s.Op == 4) then
         bif rv2 then
          bif ((s.Uses.length : Int) == 0) then
           ((s.Targets.length : Int) == 0)
          else
           false
         else
          false
        else
         bif (s.Op == 6) then
          bif rv2 then
           bif ((s.Uses.length : Int) == 0) then
            ((s.Targets.length : Int) == 0)
           else
            false
          else
           false
         else
          bif (s.Op == 8) then
           bif (s.Def == (Str.mk [])) then
            bif ((s.Uses.length : Int) == 1) then
             ((s.Targets.length : Int) == 2)
            else
             false
           else
            false
          else
           bif (s.Op == 9) then
            bif (s.Def == (Str.mk [])) then
             bif ((s.Uses.length : Int) == 0) then
              ((s.Targets.length : Int) == 0)
             else
              false
            else
             false
           else
            false
def r4_Valid_L2  (b1 : List GStmt) : Nat → Int → LR Unit Bool
 | 0, j =>
  .brk ()
 | r + 1, j =>
  let rv66 := (r4_stmtOK (b1.getD j.toNat default))
  bif (!rv66) then
   .ret false
  else
   r4_Valid_L2 b1 r (j + 1)
def r4_Valid_L1  (f1 : List GBlock) : Nat → Int → LR Unit Bool
 | 0, k =>
  .brk ()
 | r + 1, k =>
  let rv38 := (r4_IsName ((f1.getD k.toNat default).Name))
  bif (!rv38) then
   .ret false
  else
   bif decide ((((f1.getD k.toNat default).Stmts).length : Int) < 1) then
    .ret false
   else
    bif decide (32 < (((f1.getD k.toNat default).Stmts).length : Int)) then
     .ret false
    else
     match r4_Valid_L2 ((f1.getD k.toNat default).Stmts) ((((((f1.getD k.toNat default).Stmts).length : Int) : Int) - 0).toNat) 0 with
     | .brk _ =>
      r4_Valid_L1 f1 r (k + 1)
     | .ret r => .ret r
     | .oof => .oof
def r4_Valid_L0 (p : GProgram) : Nat → Int → LR Unit Bool
 | 0, i =>
  .brk ()
 | r + 1, i =>
  let rv15 := (r4_IsName ((p.Funcs.getD i.toNat default).Name))
  bif (!rv15) then
   .ret false
  else
   bif decide ((((p.Funcs.getD i.toNat default).Blocks).length : Int) < 1) then
    .ret false
   else
    bif decide (16 < (((p.Funcs.getD i.toNat default).Blocks).length : Int)) then
     .ret false
    else
     match r4_Valid_L1 ((p.Funcs.getD i.toNat default).Blocks) ((((((p.Funcs.getD i.toNat default).Blocks).length : Int) : Int) - 0).toNat) 0 with
     | .brk _ =>
      r4_Valid_L0 p r (i + 1)
     | .ret r => .ret r
     | .oof => .oof
def r4_Valid (p : GProgram) : Bool :=
 bif decide ((p.Funcs.length : Int) < 1) then
  false
 else
  bif decide (8 < (p.Funcs.length : Int)) then
   false
  else
   match r4_Valid_L0 p (((p.Funcs.length : Int) - 0).toNat) 0 with
   | .brk _ =>
    true
   | .ret r => r
   | .oof => default
theorem ofInt_le {n : Int} (h : 0 ≤ n ∧ n ≤ 255) : (BitVec.ofInt 64 n).toNat ≤ 255 := by
 rw [BitVec.toNat_ofInt]
 omega
def insK {α : Type} (key : α → Int) (x : α) : List α → List α
 | [] => [x]
 | y :: ys => if key y ≤ key x then y :: insK key x ys else x :: y :: ys
def srtK {α : Type} (key : α → Int) (xs : List α) : List α := xs.foldl (fun l x => insK key x l) []
theorem insK_mem {α : Type} {key : α → Int} {x y : α} : ∀ {l : List α}, y ∈ insK key x l ↔ y = x ∨ y ∈ l
 | [] => by simp [insK]
 | z :: l => by
  rw [insK]
  split
  ·rw [List.mem_cons, insK_mem, List.mem_cons]; constructor <;> (rintro (h | h | h) <;> simp [h])
  ·simp
theorem insK_len {α : Type} {key : α → Int} {x : α} : ∀ (l : List α), (insK key x l).length = l.length + 1
 | [] => rfl
 | z :: l => by
  rw [insK]
  split
  ·rw [List.length_cons, insK_len l]; rfl
  ·rfl
theorem insK_sorted {α : Type} {key : α → Int} {x : α} : ∀ {l : List α}, l.Pairwise (fun a b => key a ≤ key b) → (insK key x l).Pairwise (fun a b => key a ≤ key b)
 | [], _ => by simp [insK]
 | z :: l, h => by
  rw [insK]
  have hz := List.pairwise_cons.1 h
  split
  ·rename_i e
   refine List.pairwise_cons.2 ⟨fun y hy => ?_, insK_sorted hz.2⟩
   rcases insK_mem.1 hy with rfl | hy
   ·exact e
   ·exact hz.1 y hy
  ·rename_i e
   refine List.pairwise_cons.2 ⟨fun y hy => ?_, h⟩
   rcases List.mem_cons.1 hy with rfl | hy
   ·omega
   ·have := hz.1 y hy; omega
theorem insK_lt {α : Type} {key : α → Int} {x y : α} (h : key x < key y) : ∀ (p : List α), insK key x (p ++ [y]) = insK key x p ++ [y]
 | [] => by
  have : ¬ key y ≤ key x := by omega
  simp [insK, this]
 | z :: p => by
  rw [List.cons_append, insK, insK]
  split
  ·rw [insK_lt h p]; rfl
  ·rfl
theorem insK_ge {α : Type} {key : α → Int} {x : α} : ∀ (p : List α), (∀ z ∈ p, key z ≤ key x) → insK key x p = p ++ [x]
 | [], _ => rfl
 | z :: p, h => by
  have hz := h z (List.mem_cons_self ..)
  rw [insK, if_pos hz, insK_ge p fun y hy => h y (List.mem_cons_of_mem _ hy)]; rfl
theorem foldl_insK_len {α : Type} (key : α → Int) : ∀ (q p : List α), (q.foldl (fun l x => insK key x l) p).length = p.length + q.length
 | [], p => rfl
 | x :: q, p => by rw [List.foldl_cons, foldl_insK_len key q, insK_len, List.length_cons]; omega
theorem srtK_len {α : Type} (key : α → Int) (l : List α) : (srtK key l).length = l.length := by
 unfold srtK; rw [foldl_insK_len]; simp
theorem getD_mid {α : Type} (p q : List α) (x d : α) : (p ++ x :: q).getD p.length d = x := by simp [List.getD]
theorem insL1 {α : Type} (key : α → Int) (d : α) (f : Nat → List α → Int → List α) (h0 : ∀ l j, f 0 l j = l)
  (h1 : ∀ r l j, f (r + 1) l j = if key (l.getD j.toNat d) < key (l.getD (j - 1).toNat d) then f r ((l.set j.toNat (l.getD (j - 1).toNat d)).set (j - 1).toNat (l.getD j.toNat d)) (j - 1) else l) :
  ∀ (n : Nat) (p q : List α) (x : α), p.length = n → p.Pairwise (fun a b => key a ≤ key b) → f n (p ++ x :: q) (n : Int) = insK key x p ++ q
 | 0, p, q, x, hp, hs => by
  have : p = [] := List.length_eq_zero_iff.1 hp
  subst this
  rw [h0]; rfl
 | n + 1, p, q, x, hp, hs => by
  obtain ⟨p', y, rfl⟩ : ∃ p' y, p = p' ++ [y] := ⟨p.dropLast, p.getLast (by intro e; subst e; cases hp), (List.dropLast_concat_getLast _).symm⟩
  have hl : p'.length = n := by simp at hp; exact hp
  have e1 : ((n + 1 : Nat) : Int).toNat = n + 1 := by omega
  have e2 : (((n + 1 : Nat) : Int) - 1).toNat = n := by omega
  have g1 : (p' ++ [y] ++ x :: q).getD (n + 1) d = x := by
   have := getD_mid (p' ++ [y]) q x d
   rw [hp] at this; exact this
  have g2 : (p' ++ [y] ++ x :: q).getD n d = y := by
   have := getD_mid p' (x :: q) y d
   rw [hl] at this; simpa using this
  have hs' := List.pairwise_append.1 hs
  rw [h1, e1, e2, g1, g2]
  split
  ·rename_i hlt
   have es : ((p' ++ [y] ++ x :: q).set (n + 1) y).set n x = p' ++ x :: (y :: q) := by
    rw [← hl]; simp
   have ej : (((n + 1 : Nat) : Int) - 1) = (n : Int) := by omega
   rw [es, ej, insL1 key d f h0 h1 n p' (y :: q) x hl hs'.1, insK_lt hlt]
   simp
  ·rename_i hge
   rw [insK_ge]
   ·simp
   ·intro z hz
    rcases List.mem_append.1 hz with hz | hz
    ·have := hs'.2.2 z hz y (List.mem_cons_self ..); omega
    ·rw [List.mem_singleton] at hz; subst hz; omega
theorem insL0 {α : Type} (key : α → Int) (d : α) (f g : Nat → List α → Int → List α) (h0 : ∀ l j, f 0 l j = l)
  (h1 : ∀ r l j, f (r + 1) l j = if key (l.getD j.toNat d) < key (l.getD (j - 1).toNat d) then f r ((l.set j.toNat (l.getD (j - 1).toNat d)).set (j - 1).toNat (l.getD j.toNat d)) (j - 1) else l)
  (k0 : ∀ l i, g 0 l i = l) (k1 : ∀ r l i, g (r + 1) l i = g r (f (i - 0).toNat l i) (i + 1)) :
  ∀ (q p : List α), p.Pairwise (fun a b => key a ≤ key b) → g q.length (p ++ q) (p.length : Int) = q.foldl (fun l x => insK key x l) p
 | [], p, _ => by rw [List.length_nil, k0]; simp
 | x :: q, p, hp => by
  have e : ((p.length : Int) - 0).toNat = p.length := by omega
  rw [List.length_cons, k1, e, insL1 key d f h0 h1 p.length p q x rfl hp, List.foldl_cons, ← insL0 key d f g h0 h1 k0 k1 q _ (insK_sorted hp), insK_len]
  rfl
theorem insAll {α : Type} (key : α → Int) (d : α) (f g : Nat → List α → Int → List α) (h0 : ∀ l j, f 0 l j = l)
  (h1 : ∀ r l j, f (r + 1) l j = if key (l.getD j.toNat d) < key (l.getD (j - 1).toNat d) then f r ((l.set j.toNat (l.getD (j - 1).toNat d)).set (j - 1).toNat (l.getD j.toNat d)) (j - 1) else l)
  (k0 : ∀ l i, g 0 l i = l) (k1 : ∀ r l i, g (r + 1) l i = g r (f (i - 0).toNat l i) (i + 1)) (l : List α) : g ((l.length : Int) - (0 + 1)).toNat l (0 + 1) = srtK key l := by
 cases l with
 | nil => rw [show (((([] : List α).length : Nat) : Int) - (0 + 1)).toNat = 0 from rfl, k0]; rfl
 | cons x q =>
  have e : ((((x :: q).length : Nat) : Int) - (0 + 1)).toNat = q.length := by rw [List.length_cons]; omega
  rw [e]
  exact insL0 key d f g h0 h1 k0 k1 q [x] (List.pairwise_singleton _ _)
theorem scan {σ ρ : Type} (f : Nat → Int → LR σ ρ) (p : Int → Bool) (b : ρ) (c : σ) (h0 : ∀ i, f 0 i = .brk c) (h1 : ∀ r i, f (r + 1) i = bif p i then .ret b else f r (i + 1)) :
  ∀ (m : Nat) (i : Int), (f m i = .ret b ∧ ∃ j, i ≤ j ∧ j < i + m ∧ p j = true) ∨ (f m i = .brk c ∧ ∀ j, i ≤ j → j < i + m → p j = false)
 | 0, i => .inr ⟨h0 i, fun j h1 h2 => by omega⟩
 | m + 1, i => by
  rw [h1]
  cases hp : p i with
  | true => exact .inl ⟨rfl, i, by omega, by omega, hp⟩
  | false =>
   rcases scan f p b c h0 h1 m (i + 1) with ⟨e, j, j1, j2, j3⟩ | ⟨e, h⟩
   ·exact .inl ⟨e, j, by omega, by omega, j3⟩
   ·refine .inr ⟨e, fun j j1 j2 => ?_⟩
    rcases Int.lt_or_eq_of_le j1 with hlt | rfl
    ·exact h j (by omega) (by omega)
    ·exact hp
theorem mem_getD {l : List Int} {n : Int} : n ∈ l ↔ ∃ j : Int, 0 ≤ j ∧ j < (l.length : Int) ∧ l.getD j.toNat 0 = n := by
 constructor
 ·intro h
  obtain ⟨i, hi, e⟩ := List.getElem_of_mem h
  exact ⟨(i : Int), by omega, by omega, by simp [List.getD, hi, e]⟩
 ·rintro ⟨j, j1, j2, rfl⟩
  exact getD_mem (by omega)
theorem nodup_le : ∀ (n : Nat) (l : List Int), l.Nodup → (∀ x ∈ l, 0 ≤ x ∧ x < (n : Int)) → l.length ≤ n
 | 0, [], _, _ => Nat.le_refl _
 | 0, x :: l, _, h => by have := h x (by simp); omega
 | n + 1, l, hn, h => by
  have h1 : (l.erase (n : Int)).length ≤ n := nodup_le n (l.erase (n : Int)) (hn.erase _) (fun x hx => by
   have h2 := (List.Nodup.mem_erase_iff hn).1 hx
   have h3 := h x h2.2
   have h4 := h2.1
   omega)
  by_cases hm : (n : Int) ∈ l
  ·rw [List.length_erase_of_mem hm] at h1; omega
  ·rw [List.erase_of_not_mem hm] at h1; omega
theorem scan' {σ : Type} (f : Nat → Int → LR σ Int) (p : Int → Bool) (c : σ) (h0 : ∀ i, f 0 i = .brk c) (h1 : ∀ r i, f (r + 1) i = bif p i then .ret i else f r (i + 1)) :
  ∀ (m : Nat) (i : Int), (∃ j, f m i = .ret j ∧ i ≤ j ∧ j < i + m ∧ p j = true) ∨ (f m i = .brk c ∧ ∀ j, i ≤ j → j < i + m → p j = false)
 | 0, i => .inr ⟨h0 i, fun j h1 h2 => by omega⟩
 | m + 1, i => by
  rw [h1]
  cases hp : p i with
  | true => exact .inl ⟨i, rfl, by omega, by omega, hp⟩
  | false =>
   rcases scan' f p c h0 h1 m (i + 1) with ⟨j, e, j1, j2, j3⟩ | ⟨e, h⟩
   ·exact .inl ⟨j, e, by omega, by omega, j3⟩
   ·refine .inr ⟨e, fun j j1 j2 => ?_⟩
    rcases Int.lt_or_eq_of_le j1 with hlt | rfl
    ·exact h j (by omega) (by omega)
    ·exact hp
theorem mem_getDg {α : Type} {l : List α} {n d : α} : n ∈ l ↔ ∃ j : Int, 0 ≤ j ∧ j < (l.length : Int) ∧ l.getD j.toNat d = n := by
 constructor
 ·intro h
  obtain ⟨i, hi, e⟩ := List.getElem_of_mem h
  exact ⟨(i : Int), by omega, by omega, by simp [List.getD, hi, e]⟩
 ·rintro ⟨j, j1, j2, rfl⟩
  exact getD_mem (by omega)
theorem allL {α R : Type} [Inhabited α] {P : α → Bool} {l : List α} {no : R} (L : Nat → Int → LR Unit R) (h0 : ∀ i, L 0 i = .brk ()) (h1 : ∀ r (i : Int), 0 ≤ i → i < (l.length : Int) → L (r + 1) i = if P (l.getD i.toNat default) = true then L r (i + 1) else .ret no) :
  L ((l.length : Int) - 0).toNat 0 = if l.all P = true then .brk () else .ret no := by
 have key : ∀ (suf pre : List α), l = pre ++ suf → L suf.length (pre.length : Int) = if suf.all P = true then .brk () else .ret no := fun suf => by
  induction suf with
  | nil => intro pre _; exact h0 _
  | cons a suf ih =>
   intro pre hl
   have hlen : l.length = pre.length + (suf.length + 1) := by rw [hl]; simp
   have hg : l.getD ((pre.length : Int)).toNat default = a := by rw [hl]; simp
   rw [List.length_cons, h1 _ _ (by omega) (by omega), hg, List.all_cons]
   have := ih (pre ++ [a]) (by rw [hl]; simp)
   rw [List.length_append, List.length_cons, List.length_nil, Int.natCast_add] at this
   rw [show ((pre.length : Int) + 1) = (pre.length : Int) + ((0 + 1 : Nat) : Int) from rfl, this]
   cases P a <;> simp
 have := key l [] rfl
 rw [show ((l.length : Int) - 0).toNat = l.length by omega]
 exact this
theorem str_pos {s : Str} (h : (s == (Str.mk [])) = false) : 0 < s.b.length := by
 obtain ⟨b⟩ := s
 cases b with
 | nil => simp at h
 | cons a b => simp
def SSm (s : GStmt) : Bool := decide (s.Uses.length ≤ 600000000) && decide (s.Targets.length ≤ 600000000)
def BSm (b : GBlock) : Bool := b.Stmts.all SSm
def FSm (f : GFunc) : Bool := f.Blocks.all BSm
def PSm (p : GProgram) : Bool := p.Funcs.all FSm
theorem all_getD {α : Type} [Inhabited α] {q : α → Bool} {l : List α} (h : l.all q = true) {i : Int} (hi : 0 ≤ i ∧ i < (l.length : Int)) : q (l.getD i.toNat default) = true :=
 List.all_eq_true.1 h _ (getD_mem (by omega))
theorem PSm_f {p : GProgram} (h : PSm p = true) {i : Int} (hi : 0 ≤ i ∧ i < (p.Funcs.length : Int)) : FSm (p.Funcs.getD i.toNat default) = true := all_getD h hi
theorem FSm_b {f : GFunc} (h : FSm f = true) {i : Int} (hi : 0 ≤ i ∧ i < (f.Blocks.length : Int)) : BSm (f.Blocks.getD i.toNat default) = true := all_getD h hi
theorem BSm_m {b : GBlock} (h : BSm b = true) {x : GStmt} (hx : x ∈ b.Stmts) : SSm x = true := List.all_eq_true.1 h x hx
theorem SSm_l {s : GStmt} (h : SSm s = true) : s.Uses.length ≤ 600000000 ∧ s.Targets.length ≤ 600000000 := by
 unfold SSm at h; simpa using h
def QS (u v : Nat) (s : GStmt) : Bool := decide (s.Uses.length ≤ u) && decide (s.Targets.length ≤ v)
def QB (u v : Nat) (b : GBlock) : Bool := b.Stmts.all (QS u v)
def QF (u v : Nat) (f : GFunc) : Bool := f.Blocks.all (QB u v)
def QP (u v : Nat) (p : GProgram) : Bool := p.Funcs.all (QF u v)
def QL (b : GBlock) : Bool := decide (b.Stmts.length ≤ 4)
def SpF (f : GFunc) : Prop := (1 ≤ f.Blocks.length ∧ f.Blocks.length ≤ 3) ∧ f.Blocks.all QL = true
def SpP (p : GProgram) : Prop := (1 ≤ p.Funcs.length ∧ p.Funcs.length ≤ 3) ∧ (∀ f ∈ p.Funcs, SpF f) ∧ QP 3 2 p = true
theorem QP_PSm {u v : Nat} {p : GProgram} (h : QP u v p = true) (hu : u ≤ 1000000) (hv : v ≤ 1000000) : PSm p = true := by
 unfold QP at h; unfold PSm
 refine List.all_eq_true.2 fun f hf => ?_
 have h1 := List.all_eq_true.1 h f hf
 unfold QF at h1; unfold FSm
 refine List.all_eq_true.2 fun b hb => ?_
 have h2 := List.all_eq_true.1 h1 b hb
 unfold QB at h2; unfold BSm
 refine List.all_eq_true.2 fun s hs => ?_
 have h3 := List.all_eq_true.1 h2 s hs
 unfold QS at h3; unfold SSm
 simp only [Bool.and_eq_true, decide_eq_true_eq] at h3 ⊢
 omega
theorem SpP_PSm {p : GProgram} (h : SpP p) : PSm p = true := QP_PSm h.2.2 (by omega) (by omega)
def nS (i k : Int) : Int → List GStmt → List GNode
 | _, [] => []
 | v, s :: S => (bif s.Op == 3 then [GNode.mk 3 i k v, GNode.mk 4 i k v] else [GNode.mk 3 i k v]) ++ nS i k (v + 1) S
def nB (i : Int) : Int → List GBlock → List GNode
 | _, [] => []
 | k, b :: B => nS i k 0 b.Stmts ++ nB i (k + 1) B
def nF : Int → List GFunc → List GNode
 | _, [] => []
 | i, f :: F => [GNode.mk 1 i (-1) (-1)] ++ nB i 0 f.Blocks ++ [GNode.mk 2 i (-1) (-1)] ++ nF (i + 1) F
theorem getD_dropz {α : Type} [Inhabited α] {l : List α} {v : Int} (h0 : 0 ≤ v) (h : v < (l.length : Int)) : l.drop v.toNat = l.getD v.toNat default :: l.drop (v + 1).toNat := by
 rw [List.drop_eq_getElem_cons (show v.toNat < l.length by omega), show (v + 1).toNat = v.toNat + 1 by omega, List.getD_eq_getElem?_getD, List.getElem?_eq_getElem (show v.toNat < l.length by omega)]; rfl
def NIn (p : GProgram) (n : GNode) : Prop := (0 ≤ n.Func ∧ n.Func < (p.Funcs.length : Int)) ∧ (n.Kind ≠ 1 → n.Kind ≠ 2 → (0 ≤ n.Block ∧ n.Block < ((p.Funcs.getD n.Func.toNat default).Blocks.length : Int)) ∧ (0 ≤ n.Stmt ∧ n.Stmt < ((((p.Funcs.getD n.Func.toNat default).Blocks).getD n.Block.toNat default).Stmts.length : Int)) ∧ n.Stmt < 100)
theorem nS_in (i k : Int) : ∀ (S : List GStmt) (v : Int) (n : GNode), n ∈ nS i k v S → n.Func = i ∧ n.Block = k ∧ (n.Kind = 3 ∨ n.Kind = 4) ∧ v ≤ n.Stmt ∧ n.Stmt < v + (S.length : Int)
 | [], v, n, h => by cases h
 | s :: S, v, n, h => by
  rw [nS] at h
  rcases List.mem_append.1 h with h' | h'
  ·cases e : s.Op == 3
   ·rw [e, cond_false, List.mem_singleton] at h'
    subst h'
    exact ⟨rfl, rfl, .inl rfl, by show v ≤ v; omega, by show v < v + _; rw [List.length_cons]; omega⟩
   ·rw [e, cond_true] at h'
    simp only [List.mem_cons, List.not_mem_nil, or_false] at h'
    rcases h' with e | e <;> subst e
    ·exact ⟨rfl, rfl, .inl rfl, by show v ≤ v; omega, by show v < v + _; rw [List.length_cons]; omega⟩
    ·exact ⟨rfl, rfl, .inr rfl, by show v ≤ v; omega, by show v < v + _; rw [List.length_cons]; omega⟩
  ·have := nS_in i k S (v + 1) n h'
   rw [List.length_cons]
   omega
theorem nB_in (i : Int) : ∀ (S : List GBlock) (v : Int) (n : GNode), n ∈ nB i v S → n.Func = i ∧ (n.Kind = 3 ∨ n.Kind = 4) ∧ (v ≤ n.Block ∧ n.Block < v + (S.length : Int)) ∧ 0 ≤ n.Stmt ∧ n.Stmt < ((S.getD (n.Block - v).toNat default).Stmts.length : Int)
 | [], v, n, h => by cases h
 | s :: S, v, n, h => by
  rw [nB] at h
  rcases List.mem_append.1 h with h' | h'
  ·obtain ⟨a1, a2, a3, a4, a5⟩ := nS_in i v s.Stmts 0 n h'
   refine ⟨a1, a3, by rw [List.length_cons]; omega, a4, ?_⟩
   rw [show (n.Block - v).toNat = 0 by omega]
   show n.Stmt < (s.Stmts.length : Int)
   omega
  ·obtain ⟨a1, a2, a3, a4, a5⟩ := nB_in i S (v + 1) n h'
   refine ⟨a1, a2, by rw [List.length_cons]; omega, a4, ?_⟩
   rw [show (n.Block - v).toNat = (n.Block - (v + 1)).toNat + 1 by omega]
   exact a5
theorem nF_in : ∀ (S : List GFunc) (v : Int) (n : GNode), n ∈ nF v S → (v ≤ n.Func ∧ n.Func < v + (S.length : Int)) ∧ (n.Kind ≠ 1 → n.Kind ≠ 2 → (n.Kind = 3 ∨ n.Kind = 4) ∧ (0 ≤ n.Block ∧ n.Block < ((S.getD (n.Func - v).toNat default).Blocks.length : Int)) ∧ 0 ≤ n.Stmt ∧ n.Stmt < ((((S.getD (n.Func - v).toNat default).Blocks).getD n.Block.toNat default).Stmts.length : Int))
 | [], v, n, h => by cases h
 | s :: S, v, n, h => by
  rw [nF] at h
  rw [List.length_cons]
  rcases List.mem_append.1 h with h | h'
  ·rcases List.mem_append.1 h with h | h
   ·rcases List.mem_append.1 h with h | h
    ·rw [List.mem_singleton.1 h]
     exact ⟨by show v ≤ v ∧ v < v + _; omega, fun a => absurd rfl a⟩
    ·obtain ⟨a1, a2, a3, a4, a5⟩ := nB_in v s.Blocks 0 n h
     refine ⟨by omega, fun _ _ => ?_⟩
     rw [show (n.Func - v).toNat = 0 by omega]
     rw [show (n.Block - 0).toNat = n.Block.toNat by omega] at a5
     exact ⟨a2, by show 0 ≤ n.Block ∧ n.Block < (s.Blocks.length : Int); omega, a4, a5⟩
   ·rw [List.mem_singleton.1 h]
    exact ⟨by show v ≤ v ∧ v < v + _; omega, fun _ a => absurd rfl a⟩
  ·obtain ⟨a1, a2⟩ := nF_in S (v + 1) n h'
   refine ⟨by omega, ?_⟩
   rw [show (n.Func - v).toNat = (n.Func - (v + 1)).toNat + 1 by omega]
   exact a2
def key (n : GNode) : Int := n.Func * 100000 + (bif n.Kind == 1 then 0 else bif n.Kind == 2 then 99999 else 1 + n.Block * 1000 + n.Stmt * 2 + (bif n.Kind == 4 then 1 else 0))
def one (i k v : Int) (s : GStmt) : List GNode := bif s.Op == 3 then [GNode.mk 3 i k v, GNode.mk 4 i k v] else [GNode.mk 3 i k v]
def Adv (n a x : Int) : Prop := a ≤ x ∧ x ≤ n
theorem adv_trans {n a b x : Int} (h : Adv n a b) (k : Adv n b x) : Adv n a x := ⟨Int.le_trans h.1 k.1, k.2⟩
def EdL (n : Nat) (l : List Int) : Prop := l.Nodup ∧ ∀ x ∈ l, 0 ≤ x ∧ x < (n : Int)
theorem EdL_len {n : Nat} {l : List Int} (h : EdL n l) : l.length ≤ n := nodup_le n l h.1 h.2
theorem EdL_nil (n : Nat) : EdL n [] := ⟨List.nodup_nil, fun x hx => by cases hx⟩
theorem EdL_add {n : Nat} {l : List Int} {x : Int} (h : EdL n l) (hx : 0 ≤ x ∧ x < (n : Int)) (hn : x ∉ l) : EdL n (l ++ [x]) := by
 refine ⟨List.nodup_append.2 ⟨h.1, by simp, fun a ha b hb => ?_⟩, fun y hy => ?_⟩
 ·rw [List.mem_singleton] at hb; subst hb; intro e; exact hn (e ▸ ha)
 ·rcases List.mem_append.1 hy with hy | hy
  ·exact h.2 y hy
  ·rw [List.mem_singleton] at hy; rw [hy]; exact hx
theorem getD_mem' {l : List (List Int)} {i : Int} (h : 0 ≤ i ∧ i < (l.length : Int)) : l.getD i.toNat [] ∈ l := by
 rw [List.getD_eq_getElem?_getD, List.getElem?_eq_getElem (show i.toNat < l.length by omega)]; exact List.getElem_mem _
structure BOk (b : Gbuilder) : Prop where
 ps : b.g.Pred.length = b.g.Succ.length
 n0 : 0 < b.g.Succ.length
 nb : b.g.Succ.length ≤ 20000
 su : ∀ l ∈ b.g.Succ, EdL b.g.Succ.length l
 pr : ∀ l ∈ b.g.Pred, EdL b.g.Succ.length l
 mi : ∀ i k, 0 ≤ i → i < (b.g.Succ.length : Int) → 0 ≤ k → k < (b.g.Succ.length : Int) → (k ∈ b.g.Succ.getD i.toNat [] ↔ i ∈ b.g.Pred.getD k.toNat [])
 num : ∀ k, 0 ≤ (mget b.number k).getD 0 ∧ (mget b.number k).getD 0 < (b.g.Succ.length : Int)
theorem BOk.sl {b : Gbuilder} (h : BOk b) {i : Int} (hi : 0 ≤ i ∧ i < (b.g.Succ.length : Int)) : (b.g.Succ.getD i.toNat []).length ≤ 20000 := Nat.le_trans (EdL_len (h.su _ (getD_mem' hi))) h.nb
theorem BOk.pl {b : Gbuilder} (h : BOk b) {i : Int} (hi : 0 ≤ i ∧ i < (b.g.Succ.length : Int)) : (b.g.Pred.getD i.toNat []).length ≤ 20000 := Nat.le_trans (EdL_len (h.pr _ (getD_mem' (by have := h.ps; omega)))) h.nb
theorem getD_set' {l : List (List Int)} {i k : Int} {x : List Int} (hi : 0 ≤ i ∧ i < (l.length : Int)) (hk : 0 ≤ k) : (l.set i.toNat x).getD k.toNat [] = if k = i then x else l.getD k.toNat [] := by
 simp only [List.getD_eq_getElem?_getD, List.getElem?_set]
 by_cases e : k = i
 ·subst e; simp [show k.toNat < l.length by omega]
 ·simp [e, show ¬ i.toNat = k.toNat by omega]
theorem lenS_at {g : List (List Int)} {c : Int} (h : ∀ l ∈ g, (l.length : Int) ≤ c) (h0 : 0 ≤ c) (i : Nat) : ((g.getD i []).length : Int) ≤ c := by
 by_cases hi : i < g.length
 ·rw [List.getD_eq_getElem?_getD, List.getElem?_eq_getElem hi]; exact h _ (List.getElem_mem hi)
 ·rw [List.getD_eq_getElem?_getD, List.getElem?_eq_none (by omega)]; exact h0
theorem lenS_1 {g : List (List Int)} {c : Int} {i : Nat} (h : ∀ l ∈ g, (l.length : Int) ≤ c) (h0 : 0 ≤ c ∧ c ≤ 1000000000) : (g.getD i []).length ≤ 1000000000 := by
 have := lenS_at h h0.1 i; omega
theorem lenS_set {g : List (List Int)} {c c' : Int} {i j : Nat} {x : List Int} (h : ∀ l ∈ g, (l.length : Int) ≤ c) (hx : x.length ≤ (g.getD j []).length + 1) (hc : c + 1 ≤ c') (h0 : 0 ≤ c) : ∀ l ∈ g.set i x, (l.length : Int) ≤ c' := fun l hl => by
 rcases List.mem_or_eq_of_mem_set hl with hl | rfl
 ·have := h l hl; omega
 ·have := lenS_at h h0 j; omega
def Asc (l : List Int) (n : Int) : Prop := ∀ k, 0 ≤ k → k < (l.length : Int) → 0 ≤ l.getD k.toNat 0 ∧ l.getD k.toNat 0 < n ∧ (0 < k → l.getD (k - 1).toNat 0 < l.getD k.toNat 0)
theorem lenS_set0 {g : List (List Int)} {c : Int} {i j : Nat} {x : List Int} (h : ∀ l ∈ g, (l.length : Int) ≤ c) (hx : x.length = (g.getD j []).length) (h0 : 0 ≤ c := by omega) : ∀ l ∈ g.set i x, (l.length : Int) ≤ c := fun l hl => by
 rcases List.mem_or_eq_of_mem_set hl with hl | rfl
 ·exact h l hl
 ·have := lenS_at h h0 j; omega
theorem BOk_ps {a : List GNode} {b c : List (List Int)} {m : List (GNode × Int)} (h : BOk (Gbuilder.mk (GGraph.mk a b c) m)) : c.length = b.length := h.ps
structure VG (g : GGraph) : Prop where
 n1 : 1 ≤ g.Nodes.length ∧ g.Nodes.length ≤ 256
 sl : g.Succ.length = g.Nodes.length
 pl : g.Pred.length = g.Nodes.length
 sa : ∀ k : Int, 0 ≤ k → k < (g.Nodes.length : Int) → Asc (g.Succ.getD k.toNat []) (g.Nodes.length : Int)
theorem Asc_mem {l : List Int} {n x : Int} (h : Asc l n) (hx : x ∈ l) : 0 ≤ x ∧ x < n := by
 obtain ⟨i, hi, e⟩ := List.mem_iff_getElem.1 hx
 have := h (i : Int) (by omega) (by omega)
 rw [show ((i : Int)).toNat = i by omega, List.getD_eq_getElem?_getD, List.getElem?_eq_getElem hi] at this
 rw [← e]; exact ⟨this.1, this.2.1⟩
theorem Asc_len {l : List Int} {n : Int} (h : Asc l n) : (l.length : Int) ≤ n ∨ l = [] := by
 have key : ∀ (m : Nat), m < l.length → (m : Int) ≤ l.getD m 0 := fun m => by
  induction m with
  | zero => intro hm; have := (h 0 (by omega) (by omega)).1; simpa using this
  | succ m ih =>
   intro hm
   have h1 := ih (by omega)
   have h2 := (h ((m + 1 : Nat) : Int) (by omega) (by omega)).2.2 (by omega)
   rw [show (((m + 1 : Nat) : Int) - 1).toNat = m by omega, show (((m + 1 : Nat) : Int)).toNat = m + 1 by omega] at h2
   omega
 by_cases e : l.length = 0
 ·exact .inr (List.length_eq_zero_iff.1 e)
 ·left
  have h1 := key (l.length - 1) (by omega)
  have h2 := (h ((l.length - 1 : Nat) : Int) (by omega) (by omega)).2.1
  rw [show (((l.length - 1 : Nat) : Int)).toNat = l.length - 1 by omega] at h2
  omega
def pot (S : List (List Int)) (sn : List Bool) : Nat → Nat
 | 0 => 0
 | n + 1 => pot S sn n + (if sn.getD n false = true then 0 else (S.getD n []).length)
theorem set_getD {sn : List Bool} {k i : Nat} (hk : k < sn.length) : (sn.set k true).getD i false = if i = k then true else sn.getD i false := by
 simp only [List.getD_eq_getElem?_getD, List.getElem?_set]
 by_cases e : i = k
 ·subst e; simp [hk]
 ·simp [e, Ne.symm e]
theorem pot_lt {S : List (List Int)} {sn : List Bool} {k : Nat} (hk : k < sn.length) : ∀ n, n ≤ k → pot S (sn.set k true) n = pot S sn n
 | 0, _ => rfl
 | n + 1, h => by rw [pot, pot, pot_lt hk n (by omega), set_getD hk, if_neg (show ¬ n = k by omega)]
theorem pot_set {S : List (List Int)} {sn : List Bool} {k : Nat} (hk : k < sn.length) (hs : sn.getD k false = false) : ∀ n, k < n → pot S (sn.set k true) n + (S.getD k []).length = pot S sn n
 | 0, h => by omega
 | n + 1, h => by
  rw [pot, pot, set_getD hk]
  by_cases e : n = k
  ·subst e; rw [if_pos rfl, if_pos rfl, pot_lt hk n (Nat.le_refl _), hs]; simp
  ·have := pot_set (S := S) hk hs n (by omega); rw [if_neg e]; omega
theorem pot_sum (S : List (List Int)) (sn : List Bool) : ∀ n, n ≤ S.length → pot S sn n ≤ ((S.take n).map List.length).sum
 | 0, _ => by simp [pot]
 | n + 1, h => by
  have h1 := pot_sum S sn n (by omega)
  have e : S.take (n + 1) = S.take n ++ [S.getD n []] := by
   rw [List.take_add_one, List.getD_eq_getElem?_getD, List.getElem?_eq_getElem (show n < S.length by omega)]; rfl
  rw [pot, e, List.map_append, List.sum_append]
  simp only [List.map_cons, List.map_nil, List.sum_cons, List.sum_nil]
  split <;> omega
theorem pot_le {g : GGraph} (hg : VG g) (sn : List Bool) : ∀ n, n ≤ g.Nodes.length → pot g.Succ sn n ≤ 256 * n
 | 0, _ => by simp [pot]
 | n + 1, h => by
  have h1 := pot_le hg sn n (by omega)
  have h2 := hg.sa (n : Int) (by omega) (by omega)
  rw [show ((n : Int)).toNat = n by omega] at h2
  have h3 : (g.Succ.getD n []).length ≤ 256 := by
   have h4 := hg.n1
   rcases Asc_len h2 with h5 | h5
   ·omega
   ·rw [h5]; simp
  rw [pot]
  split <;> omega
structure RI (g : GGraph) (f : List Int) (sn : List Bool) (td out : List Int) : Prop where
 sl : sn.length = g.Nodes.length
 tm : ∀ x ∈ td, 0 ≤ x ∧ x < (g.Nodes.length : Int)
 on : out.Nodup
 oi : ∀ x ∈ out, 0 ≤ x ∧ x < (g.Nodes.length : Int)
 so : ∀ x : Int, 0 ≤ x → x < (g.Nodes.length : Int) → (sn.getD x.toNat false = true ↔ x ∈ out)
 pt : td.length + pot g.Succ sn g.Nodes.length ≤ f.length + 65536
theorem RI.ol {g : GGraph} {f : List Int} {sn : List Bool} {td out : List Int} (hg : VG g) (h : RI g f sn td out) : out.length ≤ 256 := Nat.le_trans (nodup_le _ _ h.on h.oi) hg.n1.2
theorem RI_ol {g : GGraph} {f : List Int} {sn : List Bool} {td out : List Int} (hg : VG g) (h : RI g f sn td out) : out.length ≤ 65535 := by have := h.ol hg; omega
theorem RI.init {g : GGraph} {f : List Int} (hg : VG g) (hf : ∀ x ∈ f, 0 ≤ x ∧ x < (g.Nodes.length : Int)) : RI g f (List.replicate (((g.Nodes.length : Nat) : Int) : Int).toNat false) f [] := by
 refine ⟨by simp, hf, List.nodup_nil, fun x hx => (by cases hx), fun x h1 h2 => ⟨fun h => ?_, fun h => (by cases h)⟩, ?_⟩
 ·rw [List.getD_eq_getElem?_getD, List.getElem?_replicate] at h; split at h <;> cases h
 ·have := pot_le hg (List.replicate (((g.Nodes.length : Nat) : Int) : Int).toNat false) g.Nodes.length (Nat.le_refl _)
  have := hg.n1
  omega
theorem RI_top {g : GGraph} {f : List Int} {sn : List Bool} {td out : List Int} (hg : VG g) (h : RI g f sn td out) (ht : (0 : Int) < (td.length : Int)) : 0 ≤ td.getD ((td.length : Int) - 1).toNat 0 ∧ td.getD ((td.length : Int) - 1).toNat 0 < (g.Nodes.length : Int) ∧ sn.length = g.Nodes.length ∧ td.length ≤ f.length + 65536 ∧ out.length ≤ 256 ∧ (g.Succ.getD (td.getD ((td.length : Int) - 1).toNat 0).toNat []).length ≤ 256 :=
 ⟨(h.tm _ (getD_mem (by omega))).1, (h.tm _ (getD_mem (by omega))).2, h.sl, by have := h.pt; omega, h.ol hg, by
  have h1 := h.tm _ (getD_mem (d := 0) (i := ((td.length : Int) - 1).toNat) (xs := td) (by omega))
  have h2 := hg.n1
  rcases Asc_len (hg.sa _ h1.1 h1.2) with h3 | h3
  ·omega
  ·rw [h3]; simp⟩
theorem RI.pop {g : GGraph} {f : List Int} {sn : List Bool} {td out : List Int} (h : RI g f sn td out) : RI g f sn ((td.take (((((td.length : Nat) : Int) - 1) : Int).toNat)).drop 0) out :=
 ⟨h.sl, fun x hx => h.tm x (List.mem_of_mem_take (by simpa using hx)), h.on, h.oi, h.so, by have := h.pt; simp only [List.drop_zero, List.length_take]; omega⟩
theorem RI.push {g : GGraph} {f : List Int} {sn : List Bool} {td out : List Int} (hg : VG g) (h : RI g f sn td out) {x : Int} (hx : 0 ≤ x ∧ x < (g.Nodes.length : Int)) (ht : 0 < td.length) (hs : sn.getD x.toNat false = false) :
  RI g f (sn.set x.toNat true) (((td.take (((((td.length : Nat) : Int) - 1) : Int).toNat)).drop 0) ++ g.Succ.getD x.toNat []) (out ++ [x]) := by
 have hl := h.sl
 have hn : x ∉ out := fun hm => by rw [(h.so x hx.1 hx.2).2 hm] at hs; cases hs
 refine ⟨by simpa using hl, fun y hy => ?_, ?_, fun y hy => ?_, fun y h1 h2 => ?_, ?_⟩
 ·rcases List.mem_append.1 hy with hy | hy
  ·exact h.tm y (List.mem_of_mem_take (by simpa using hy))
  ·exact Asc_mem (hg.sa x hx.1 hx.2) hy
 ·refine List.nodup_append.2 ⟨h.on, by simp, fun a ha b hb => ?_⟩
  rw [List.mem_singleton] at hb; subst hb; intro e; exact hn (e ▸ ha)
 ·rcases List.mem_append.1 hy with hy | hy
  ·exact h.oi y hy
  ·rw [List.mem_singleton] at hy; rw [hy]; exact hx
 ·rw [set_getD (by omega), List.mem_append, List.mem_singleton]
  by_cases e : y.toNat = x.toNat
  ·rw [if_pos e]; exact ⟨fun _ => .inr (by omega), fun _ => rfl⟩
  ·rw [if_neg e]; exact (h.so y h1 h2).trans ⟨.inl, fun hh => hh.resolve_right (fun e' => e (by rw [e']))⟩
 ·have h1 := h.pt
  have h2 := pot_set (S := g.Succ) (sn := sn) (k := x.toNat) (by omega) hs g.Nodes.length (by omega)
  simp only [List.length_append, List.drop_zero, List.length_take]
  omega
theorem insK_perm {α : Type} (key : α → Int) (x : α) : ∀ l : List α, (insK key x l).Perm (x :: l)
 | [] => List.Perm.refl _
 | y :: l => by
  rw [insK]
  split
  ·exact ((insK_perm key x l).cons y).trans (List.Perm.swap ..)
  ·exact List.Perm.refl _
theorem srtK_perm {α : Type} (key : α → Int) (l : List α) : (srtK key l).Perm l := by
 have : ∀ (q p : List α), (q.foldl (fun l x => insK key x l) p).Perm (p ++ q) := fun q => by
  induction q with
  | nil => intro p; simp
  | cons x q ih =>
   intro p
   rw [List.foldl_cons]
   refine (ih _).trans ?_
   exact ((insK_perm key x p).append_right q).trans (List.perm_middle (a := x) (l₁ := p) (l₂ := q)).symm
 have := this l []
 simpa [srtK] using this
theorem srtK_sorted {α : Type} (key : α → Int) (l : List α) : (srtK key l).Pairwise (fun a b => key a ≤ key b) := by
 have : ∀ (q p : List α), p.Pairwise (fun a b => key a ≤ key b) → (q.foldl (fun l x => insK key x l) p).Pairwise (fun a b => key a ≤ key b) := fun q => by
  induction q with
  | nil => intro p h; exact h
  | cons x q ih => intro p h; rw [List.foldl_cons]; exact ih _ (insK_sorted h)
 exact this l [] List.Pairwise.nil
theorem BOk_s12 {a : List GNode} {b c : List (List Int)} {m : List (GNode × Int)} (h : BOk (Gbuilder.mk (GGraph.mk a b c) m)) (hn : b.length ≤ 12) : ∀ l ∈ b, (l.length : Int) ≤ 12 := fun l hl => by
 have h1 := EdL_len (h.su l hl)
 have h1 : l.length ≤ b.length := h1
 omega
theorem BOk_p12 {a : List GNode} {b c : List (List Int)} {m : List (GNode × Int)} (h : BOk (Gbuilder.mk (GGraph.mk a b c) m)) (hn : b.length ≤ 12) : ∀ l ∈ c, (l.length : Int) ≤ 12 := fun l hl => by
 have h1 := EdL_len (h.pr l hl)
 have h1 : l.length ≤ b.length := h1
 omega
theorem lenS_12 {g : List (List Int)} {i : Nat} (h : ∀ l ∈ g, (l.length : Int) ≤ 12) : (g.getD i []).length ≤ 12 := by
 have := lenS_at h (by omega) i; omega
theorem RI_ol12 {g : GGraph} {f : List Int} {sn : List Bool} {td out : List Int} (hg : VG g) (h : RI g f sn td out) (hn : g.Nodes.length ≤ 12) : out.length ≤ 12 := Nat.le_trans (nodup_le _ _ h.on h.oi) hn
def sm : Nat → (Nat → Nat) → Nat
 | 0, _ => 0
 | n + 1, f => sm n f + f n
theorem sm_congr {f g : Nat → Nat} : ∀ n, (∀ i, i < n → f i = g i) → sm n f = sm n g
 | 0, _ => rfl
 | n + 1, h => by rw [sm, sm, sm_congr n (fun i hi => h i (by omega)), h n (by omega)]
theorem sm_add (f g : Nat → Nat) : ∀ n, sm n (fun i => f i + g i) = sm n f + sm n g
 | 0 => rfl
 | n + 1 => by rw [sm, sm, sm, sm_add f g n]; omega
theorem sm_zero : ∀ n, sm n (fun _ => 0) = 0
 | 0 => rfl
 | n + 1 => by rw [sm, sm_zero n]
theorem sm_swap (f : Nat → Nat → Nat) (m : Nat) : ∀ n, sm n (fun i => sm m (f i)) = sm m (fun k => sm n (fun i => f i k))
 | 0 => (sm_zero m).symm
 | n + 1 => by
  rw [sm, sm_swap f m n, ← sm_add]
  exact sm_congr m fun i _ => rfl
theorem sm_mono (f : Nat → Nat) {n m : Nat} (h : n ≤ m) : sm n f ≤ sm m f := by
 induction m with
 | zero => rw [show n = 0 by omega]; exact Nat.le_refl _
 | succ m ih =>
  by_cases e : n = m + 1
  ·rw [e]; exact Nat.le_refl _
  ·exact Nat.le_trans (ih (by omega)) (Nat.le_add_right _ _)
theorem len_sm : ∀ (n : Nat) (l : List Int), l.Nodup → (∀ x ∈ l, 0 ≤ x ∧ x < (n : Int)) → l.length = sm n (fun k => if (k : Int) ∈ l then 1 else 0)
 | 0, l, _, h => by
  cases l with
  | nil => rfl
  | cons x l => have := h x (by simp); omega
 | n + 1, l, hn, h => by
  rw [sm]
  have h1 := len_sm n (l.erase (n : Int)) (hn.erase _) (fun x hx => by
   have hx' := (List.Nodup.mem_erase_iff hn).1 hx
   have h2 := h x hx'.2
   have h3 : x ≠ n := hx'.1
   omega)
  rw [sm_congr n (g := fun k => if (k : Int) ∈ l then 1 else 0) (fun i hi => by
   have : ((i : Int) ∈ l.erase (n : Int)) ↔ (i : Int) ∈ l := by
    rw [List.Nodup.mem_erase_iff hn]; exact ⟨fun h => h.2, fun h => ⟨by omega, h⟩⟩
   simp only [this])] at h1
  by_cases c : (n : Int) ∈ l
  ·rw [if_pos c, ← h1, List.length_erase_of_mem c]
   have := List.length_pos_of_mem c; omega
  ·rw [if_neg c, ← h1, List.erase_of_not_mem c]; omega
theorem Asc_lt {l : List Int} {n : Int} (h : Asc l n) (i : Nat) : ∀ d : Nat, i + d + 1 < l.length → l.getD i 0 < l.getD (i + d + 1) 0
 | 0, hd => by
  have := (h ((i + 1 : Nat) : Int) (by omega) (by omega)).2.2 (by omega)
  rwa [show (((i + 1 : Nat) : Int) - 1).toNat = i by omega, show (((i + 1 : Nat) : Int)).toNat = i + 1 by omega] at this
 | d + 1, hd => by
  have h1 := Asc_lt h i d (by omega)
  have h2 := (h ((i + d + 1 + 1 : Nat) : Int) (by omega) (by omega)).2.2 (by omega)
  rw [show (((i + d + 1 + 1 : Nat) : Int) - 1).toNat = i + d + 1 by omega, show (((i + d + 1 + 1 : Nat) : Int)).toNat = i + d + 1 + 1 by omega] at h2
  exact Int.lt_trans h1 h2
theorem Asc_iff (l : List Int) (n : Int) : Asc l n ↔ l.Pairwise (· < ·) ∧ ∀ x ∈ l, 0 ≤ x ∧ x < n := by
 constructor
 ·intro h
  refine ⟨List.pairwise_iff_getElem.2 fun i j hi hj hij => ?_, fun x hx => Asc_mem h hx⟩
  have := Asc_lt h i (j - i - 1) (by omega)
  rw [show i + (j - i - 1) + 1 = j by omega] at this
  simpa [List.getD_eq_getElem?_getD, List.getElem?_eq_getElem hi, List.getElem?_eq_getElem hj] using this
 ·rintro ⟨h1, h2⟩ k hk0 hk
  have hk' : k.toNat < l.length := by omega
  have e1 : l.getD k.toNat 0 = l[k.toNat] := by simp [List.getD_eq_getElem?_getD, List.getElem?_eq_getElem hk']
  rw [e1]
  refine ⟨(h2 _ (List.getElem_mem hk')).1, (h2 _ (List.getElem_mem hk')).2, fun h0 => ?_⟩
  have hk2 : (k - 1).toNat < l.length := by omega
  have e2 : l.getD (k - 1).toNat 0 = l[(k - 1).toNat] := by rw [List.getD_eq_getElem?_getD, List.getElem?_eq_getElem hk2]; rfl
  rw [e2]
  exact List.pairwise_iff_getElem.1 h1 _ _ hk2 hk' (by omega)
theorem Asc_nd {l : List Int} {n : Int} (h : Asc l n) : l.Nodup := ((Asc_iff l n).1 h).1.imp (fun hab => by omega)
structure VF (S P : List (List Int)) (n : Nat) : Prop where
 sl : S.length = n
 pl : P.length = n
 sa : ∀ k : Nat, k < n → Asc (S.getD k []) (n : Int)
 pa : ∀ k : Nat, k < n → Asc (P.getD k []) (n : Int)
 mi : ∀ i k : Nat, i < n → k < n → ((k : Int) ∈ S.getD i [] ↔ (i : Int) ∈ P.getD k [])
theorem VF.symm {S P : List (List Int)} {n : Nat} (h : VF S P n) : VF P S n := ⟨h.pl, h.sl, h.pa, h.sa, fun i k hi hk => (h.mi k i hk hi).symm⟩
def esum (l : List (List Int)) : Nat := sm l.length (fun i => (l.getD i []).length)
theorem VF.cnt {S P : List (List Int)} {n : Nat} (h : VF S P n) : esum S = esum P := by
 unfold esum
 rw [h.sl, h.pl]
 rw [sm_congr n (g := fun i => sm n (fun k => if (k : Int) ∈ S.getD i [] then 1 else 0)) (fun i hi => len_sm n _ (Asc_nd (h.sa i hi)) (fun x hx => Asc_mem (h.sa i hi) hx))]
 rw [sm_congr n (f := fun i => (P.getD i []).length) (g := fun i => sm n (fun k => if (k : Int) ∈ P.getD i [] then 1 else 0)) (fun i hi => len_sm n _ (Asc_nd (h.pa i hi)) (fun x hx => Asc_mem (h.pa i hi) hx))]
 rw [sm_swap]
 refine sm_congr n fun k hk => sm_congr n fun i hi => ?_
 simp only [h.mi i k hi hk]
theorem getD_lt {l : List Int} {k : Nat} (hk : k < l.length) : l.getD k 0 = l[k] := by rw [List.getD_eq_getElem?_getD, List.getElem?_eq_getElem hk]; rfl
theorem gset {l : List (List Int)} {a k : Nat} {x : List Int} (ha : a < l.length) : (l.set a x).getD k [] = if k = a then x else l.getD k [] := by
 simp only [List.getD_eq_getElem?_getD, List.getElem?_set]
 by_cases e : k = a
 ·subst e; simp [ha]
 ·simp [e, Ne.symm e]
theorem VF.nil (n : Nat) : VF (List.replicate n []) (List.replicate n []) n := by
 have e : ∀ k, (List.replicate n ([] : List Int)).getD k [] = [] := fun k => by
  rw [List.getD_eq_getElem?_getD, List.getElem?_replicate]; split <;> rfl
 refine ⟨List.length_replicate, List.length_replicate, fun k _ => ?_, fun k _ => ?_, fun i k _ _ => ?_⟩
 ·rw [e]; intro k h1 h2; simp at h2; omega
 ·rw [e]; intro k h1 h2; simp at h2; omega
 ·rw [e, e]; exact ⟨fun h => (by cases h), fun h => (by cases h)⟩
theorem sm_eq_le {f g : Nat → Nat} : ∀ n, (∀ i, i < n → f i ≤ g i) → sm n f = sm n g → ∀ i, i < n → f i = g i
 | 0, _, _, i, hi => by omega
 | n + 1, h, e, i, hi => by
  have hle : ∀ m, m ≤ n → sm m f ≤ sm m g := fun m => by
   induction m with
   | zero => intro _; exact Nat.le_refl _
   | succ m ih => intro hm; rw [sm, sm]; have := ih (by omega); have := h m (by omega); omega
  have h1 := hle n (Nat.le_refl _)
  have h2 := h n (by omega)
  rw [sm, sm] at e
  by_cases c : i = n
  ·rw [c]; omega
  ·exact sm_eq_le n (fun i hi => h i (by omega)) (by omega) i (by omega)
def Both (g : GGraph) (k : Int) : Prop := (∀ x ∈ g.Succ.getD k.toNat [], k ∈ g.Pred.getD x.toNat []) ∧ ∀ x ∈ g.Pred.getD k.toNat [], k ∈ g.Succ.getD x.toNat []
inductive Rc (S : List (List Int)) (A : List Int) : Int → Prop
 | base {x : Int} (h : x ∈ A) : Rc S A x
 | step {x y : Int} (h : Rc S A x) (hy : y ∈ S.getD x.toNat []) : Rc S A y
theorem Asc_ext {a b : List Int} {n m : Int} (ha : Asc a n) (hb : Asc b m) (h : ∀ x, x ∈ a ↔ x ∈ b) : a = b :=
 List.Perm.eq_of_pairwise (le := (· < ·)) (fun x y _ _ h1 h2 => absurd h2 (by omega)) ((Asc_iff a n).1 ha).1 ((Asc_iff b m).1 hb).1 ((List.perm_ext_iff_of_nodup (Asc_nd ha) (Asc_nd hb)).2 (fun {x} => h x))
theorem last_or {td : List Int} (c : (0 : Int) < ((td.length : Nat) : Int)) : ∀ y ∈ td, y ∈ ((td.take (((((td.length : Nat) : Int) - 1) : Int).toNat)).drop 0) ∨ y = td.getD (((td.length : Nat) : Int) - 1).toNat 0 := by
 intro y hy
 rw [List.drop_zero]
 obtain ⟨i, hi, e⟩ := List.mem_iff_getElem.1 hy
 by_cases h : i = td.length - 1
 ·right
  rw [show (((td.length : Nat) : Int) - 1).toNat = i by omega, getD_lt hi, e]
 ·left
  rw [← e]
  exact List.mem_iff_getElem.2 ⟨i, by rw [List.length_take]; omega, by rw [List.getElem_take]⟩
def Inr (g : GGraph) (f : List Int) : Prop := ∀ x ∈ f, 0 ≤ x ∧ x < (g.Nodes.length : Int)
theorem dropc {l : List Int} {i : Nat} (h : i < l.length) : l.drop i = l.getD i 0 :: l.drop (i + 1) := by
 rw [getD_lt h]; exact List.drop_eq_getElem_cons h
theorem nd_sub {a b : List Int} {n : Int} (ha : Asc a n) (hb : Asc b n) (hab : ∀ x ∈ a, x ∈ b) (hl : b.length ≤ a.length) : ∀ x ∈ b, x ∈ a := by
 have key : ∀ (l m : List Int), l.Nodup → (∀ x ∈ l, x ∈ m) → l.length ≤ m.length := fun l => by
  induction l with
  | nil => intro m _ _; exact Nat.zero_le _
  | cons x l ih =>
   intro m hn h
   rw [List.nodup_cons] at hn
   have hx : x ∈ m := h x List.mem_cons_self
   have := ih (m.erase x) hn.2 fun s hs => (List.mem_erase_of_ne (fun e => hn.1 (by rw [← e]; exact hs))).2 (h s (List.mem_cons_of_mem _ hs))
   rw [List.length_erase_of_mem hx] at this
   have := List.length_pos_of_mem hx
   rw [List.length_cons]; omega
 intro x hx
 refine Classical.byContradiction fun hn => ?_
 have := key (x :: a) b (List.nodup_cons.2 ⟨hn, Asc_nd ha⟩) (fun y hy => (List.mem_cons.1 hy).elim (fun e => e ▸ hx) (hab y))
 rw [List.length_cons] at this; omega
theorem Asc_nil (n : Int) : Asc [] n := fun k h1 h2 => by simp at h2; omega
theorem Asc_l {l : List Int} {n : Int} (h : Asc l n) (hn : n ≤ 256) : l.length ≤ 256 := by
 rcases Asc_len h with h1 | h1
 ·omega
 ·rw [h1]; simp
theorem Asc_lb {l : List Int} {n : Int} (h : Asc l n) (hn : n ≤ 256) : l.length ≤ 1000000000 := Nat.le_trans (Asc_l h hn) (by decide)
theorem Asc_in {l : List Int} {n i : Int} (h : Asc l n) (hi : 0 ≤ i ∧ i < (l.length : Int)) : 0 ≤ l.getD i.toNat 0 ∧ l.getD i.toNat 0 < n := Asc_mem h (getD_mem (by omega))
theorem nmOK_eq (l : List Str) (a b : Int) : r4_namesOK l a b = (l.all r4_IsName && (decide (a ≤ (l.length : Int)) && decide ((l.length : Int) ≤ b))) := by
 have l0 : r4_namesOK_L0 l ((l.length : Int) - 0).toNat 0 = if l.all r4_IsName = true then .brk () else .ret false :=
  allL (r4_namesOK_L0 l) (fun i => by rw [r4_namesOK_L0]) fun r i h0 h1 => by
   rw [r4_namesOK_L0]; cases r4_IsName (l.getD i.toNat default) <;> rfl
 rw [r4_namesOK, l0]
 cases l.all r4_IsName
 ·rfl
 ·cases decide (a ≤ (l.length : Int)) <;> rfl
theorem PVal_eq (p : GProgram) : r4_Valid p = (decide (1 ≤ p.Funcs.length ∧ p.Funcs.length ≤ 8) && p.Funcs.all fun f => r4_IsName f.Name && (decide (1 ≤ f.Blocks.length ∧ f.Blocks.length ≤ 16) && f.Blocks.all fun b => r4_IsName b.Name && (decide (1 ≤ b.Stmts.length ∧ b.Stmts.length ≤ 32) && b.Stmts.all r4_stmtOK))) := by
 have l2 : ∀ (b : List GStmt), r4_Valid_L2 b ((b.length : Int) - 0).toNat 0 = if b.all r4_stmtOK = true then .brk () else .ret false := fun b =>
  allL (r4_Valid_L2 b) (fun i => by rw [r4_Valid_L2]) fun r i h0 h1 => by
   rw [r4_Valid_L2]; cases r4_stmtOK (b.getD i.toNat default) <;> rfl
 have l1 : ∀ (f : List GBlock), r4_Valid_L1 f ((f.length : Int) - 0).toNat 0 = if (f.all fun b => r4_IsName b.Name && (decide (1 ≤ b.Stmts.length ∧ b.Stmts.length ≤ 32) && b.Stmts.all r4_stmtOK)) = true then .brk () else .ret false := fun f =>
  allL (r4_Valid_L1 f) (fun i => by rw [r4_Valid_L1]) fun r i h0 h1 => by
   rw [r4_Valid_L1]
   generalize hb : f.getD i.toNat default = b
   have e := l2 b.Stmts
   simp only [Bool.cond_eq_ite]
   cases hN : r4_IsName b.Name
   ·simp
   by_cases h1 : ((b.Stmts.length : Nat) : Int) < 1
   ·have : ¬ (1 ≤ b.Stmts.length ∧ b.Stmts.length ≤ 32) := by omega
    simp [h1, this]
   by_cases h2 : (32 : Int) < ((b.Stmts.length : Nat) : Int)
   ·have : ¬ (1 ≤ b.Stmts.length ∧ b.Stmts.length ≤ 32) := by omega
    simp [h1, h2, this]
   have h3 : (1 ≤ b.Stmts.length ∧ b.Stmts.length ≤ 32) := by omega
   rw [e]
   simp only [h1, h2, decide_false, h3, decide_true, Bool.not_true, Bool.true_and, and_self, reduceIte, Bool.false_eq_true]
   all_goals (cases b.Stmts.all r4_stmtOK <;> rfl)
 have l0 : r4_Valid_L0 p ((p.Funcs.length : Int) - 0).toNat 0 = if (p.Funcs.all fun f => r4_IsName f.Name && (decide (1 ≤ f.Blocks.length ∧ f.Blocks.length ≤ 16) && f.Blocks.all fun b => r4_IsName b.Name && (decide (1 ≤ b.Stmts.length ∧ b.Stmts.length ≤ 32) && b.Stmts.all r4_stmtOK))) = true then .brk () else .ret false :=
  allL (r4_Valid_L0 p) (fun i => by rw [r4_Valid_L0]) fun r i h0 h1 => by
   rw [r4_Valid_L0]
   generalize hb : p.Funcs.getD i.toNat default = f
   have e := l1 f.Blocks
   simp only [Bool.cond_eq_ite]
   cases hN : r4_IsName f.Name
   ·simp
   by_cases h1 : ((f.Blocks.length : Nat) : Int) < 1
   ·have : ¬ (1 ≤ f.Blocks.length ∧ f.Blocks.length ≤ 16) := by omega
    simp [h1, this]
   by_cases h2 : (16 : Int) < ((f.Blocks.length : Nat) : Int)
   ·have : ¬ (1 ≤ f.Blocks.length ∧ f.Blocks.length ≤ 16) := by omega
    simp [h1, h2, this]
   have h3 : (1 ≤ f.Blocks.length ∧ f.Blocks.length ≤ 16) := by omega
   rw [e]
   simp only [h1, h2, decide_false, h3, decide_true, Bool.not_true, Bool.true_and, and_self, reduceIte, Bool.false_eq_true]
   all_goals (generalize (f.Blocks.all _) = q; cases q <;> rfl)
 rw [r4_Valid]
 simp only [Bool.cond_eq_ite]
 by_cases h1 : ((p.Funcs.length : Nat) : Int) < 1
 ·have : ¬ (1 ≤ p.Funcs.length ∧ p.Funcs.length ≤ 8) := by omega
  simp [h1, this]
 by_cases h2 : (8 : Int) < ((p.Funcs.length : Nat) : Int)
 ·have : ¬ (1 ≤ p.Funcs.length ∧ p.Funcs.length ≤ 8) := by omega
  simp [h1, h2, this]
 have h3 : (1 ≤ p.Funcs.length ∧ p.Funcs.length ≤ 8) := by omega
 rw [l0]
 simp only [h1, h2, decide_false, h3, decide_true, Bool.true_and, reduceIte, Bool.false_eq_true, and_self]
 all_goals (generalize (p.Funcs.all _) = q; cases q <;> rfl)
theorem call_T {p : GProgram} (hv : r4_Valid p = true) (i k j : Nat) : (((((p.Funcs.getD i default).Blocks).getD k default).Stmts).getD j default).Op = 3 → 0 < (((((p.Funcs.getD i default).Blocks).getD k default).Stmts).getD j default).Targets.length := by
 have gd : ∀ {α : Type} [Inhabited α] (l : List α) (i : Nat), i < l.length ∨ l.getD i default = default := fun l i => by
  by_cases hi : i < l.length
  ·exact .inl hi
  ·right; rw [List.getD_eq_getElem?_getD, List.getElem?_eq_none (by omega)]; rfl
 have d0 : (default : GStmt).Op = 3 → 0 < (default : GStmt).Targets.length := fun h => by cases h
 rw [PVal_eq] at hv
 simp only [Bool.and_eq_true, decide_eq_true_eq, List.all_eq_true] at hv
 rcases gd p.Funcs i with hi | hi
 ·rcases gd (p.Funcs.getD i default).Blocks k with hk | hk
  ·rcases gd ((p.Funcs.getD i default).Blocks.getD k default).Stmts j with hj | hj
   ·have hs := ((hv.2 _ (getD_mem (d := default) hi)).2.2 _ (getD_mem (d := default) hk)).2.2 _ (getD_mem (d := default) hj)
    intro h3
    generalize (((p.Funcs.getD i default).Blocks.getD k default).Stmts.getD j default) = s at *
    unfold r4_stmtOK at hs
    rw [h3] at hs
    cases ht : s.Targets with
    | nil => rw [ht] at hs; revert hs; simp
    | cons a l => simp
   ·rw [hj]; exact d0
  ·rw [hk]; simpa [show (default : GBlock).Stmts = [] from rfl] using d0
 ·rw [hi]; simpa [show (default : GFunc).Blocks = [] from rfl, show (default : GBlock).Stmts = [] from rfl] using d0
theorem Next_rg (t : List Int) (k n : Int) (hn : n ≤ 9223372036854775807) : 0 ≤ (tp_Next t k n).1 ∧ ((tp_Next t k n).1 < n ∨ (tp_Next t k n).1 = 0) := by
 unfold tp_Next
 by_cases h1 : n ≤ 1
 ·simp [h1]
 ·by_cases h2 : (t.length : Int) ≤ k
  ·simp [h1, h2]
  ·simp only [decide_eq_false h1, decide_eq_false h2, cond_false]
   have := mod_range (t.getD (k + 1 - 1).toNat 0) n (by omega)
   unfold g_Mod
   exact ⟨this.1, .inl this.2⟩
theorem Ins_L0 (l : List Int) (x : Int) : ∀ (r : Nat) (i : Int), 0 ≤ i → i + (r : Int) = (l.length : Int) → ∃ o : Nat, r7_Insert_L0 l x r i = (o : Int) ∧ i.toNat ≤ o ∧ o ≤ l.length ∧ (∀ k, i.toNat ≤ k → k < o → l.getD k 0 < x) ∧ (o < l.length → x ≤ l.getD o 0)
 | 0, i, h0, h => ⟨i.toNat, by rw [r7_Insert_L0]; omega, Nat.le_refl _, by omega, fun k h1 h2 => by omega, fun hh => by omega⟩
 | r + 1, i, h0, h => by
  rw [r7_Insert_L0]
  by_cases c : l.getD i.toNat 0 < x
  ·rw [decide_eq_true c, cond_true]
   obtain ⟨o, h1, h2, h3, h4, h5⟩ := Ins_L0 l x r (i + 1) (by omega) (by omega)
   refine ⟨o, h1, by omega, h3, fun k k1 k2 => ?_, h5⟩
   by_cases e : k = i.toNat
   ·rw [e]; exact c
   ·exact h4 k (by omega) k2
  ·rw [decide_eq_false c, cond_false]
   exact ⟨i.toNat, by omega, Nat.le_refl _, by omega, fun k h1 h2 => by omega, fun hh => by omega⟩
theorem Insert_spec {l : List Int} {n x : Int} (h : Asc l n) (hx : 0 ≤ x ∧ x < n) : Asc (r7_Insert l x) n ∧ ∀ y, y ∈ r7_Insert l x ↔ y = x ∨ y ∈ l := by
 obtain ⟨o, h1, -, h3, h4, h5⟩ := Ins_L0 l x (((((l.length : Nat) : Int) : Int) - 0).toNat) 0 (by omega) (by omega)
 have core : (o < l.length → x < l.getD o 0) → Asc ((((l.take (((o : Nat) : Int) : Int).toNat).drop 0) ++ [x]) ++ ((l.take l.length).drop (((o : Nat) : Int) : Int).toNat)) n ∧ ∀ y, y ∈ ((((l.take (((o : Nat) : Int) : Int).toNat).drop 0) ++ [x]) ++ ((l.take l.length).drop (((o : Nat) : Int) : Int).toNat)) ↔ y = x ∨ y ∈ l := by
  intro hgt
  rw [Int.toNat_natCast, List.drop_zero, List.take_length]
  obtain ⟨p1, p2⟩ := (Asc_iff l n).1 h
  have ht : ∀ y ∈ l.take o, y < x := by
   intro y hy
   obtain ⟨k, hk, e⟩ := List.mem_iff_getElem.1 hy
   rw [List.length_take] at hk
   have := h4 k (by omega) (by omega)
   rw [getD_lt (by omega)] at this
   rw [List.getElem_take] at e
   rw [← e]; exact this
  have hd : ∀ y ∈ l.drop o, x < y := by
   intro y hy
   obtain ⟨k, hk, e⟩ := List.mem_iff_getElem.1 hy
   rw [List.length_drop] at hk
   rw [List.getElem_drop] at e
   have h0 := hgt (by omega)
   by_cases k0 : k = 0
   ·subst k0
    rw [getD_lt (by omega)] at h0
    rw [← e]; exact h0
   ·have h6 := Asc_lt h o (k - 1) (by omega)
    rw [show o + (k - 1) + 1 = o + k by omega, getD_lt (k := o + k) (by omega), e] at h6
    omega
  refine ⟨(Asc_iff _ _).2 ⟨List.pairwise_append.2 ⟨List.pairwise_append.2 ⟨p1.sublist (List.take_sublist _ _), List.pairwise_singleton _ _, fun a ha b hb => ?_⟩, p1.sublist (List.drop_sublist _ _), fun a ha b hb => ?_⟩, fun y hy => ?_⟩, fun y => ?_⟩
  ·rw [List.mem_singleton] at hb; rw [hb]; exact ht a ha
  ·rcases List.mem_append.1 ha with ha | ha
   ·exact Int.lt_trans (ht a ha) (hd b hb)
   ·rw [List.mem_singleton] at ha; rw [ha]; exact hd b hb
  ·rcases List.mem_append.1 hy with hy | hy
   ·rcases List.mem_append.1 hy with hy | hy
    ·exact p2 y (List.mem_of_mem_take hy)
    ·rw [List.mem_singleton] at hy; rw [hy]; exact hx
   ·exact p2 y (List.mem_of_mem_drop hy)
  ·rw [List.mem_append, List.mem_append, List.mem_singleton]
   constructor
   ·rintro ((hy | hy) | hy)
    ·exact .inr (List.mem_of_mem_take hy)
    ·exact .inl hy
    ·exact .inr (List.mem_of_mem_drop hy)
   ·rintro (hy | hy)
    ·exact .inl (.inr hy)
    ·rw [← List.take_append_drop o l, List.mem_append] at hy
     rcases hy with hy | hy
     ·exact .inl (.inl hy)
     ·exact .inr hy
 unfold r7_Insert
 rw [h1]
 dsimp only
 by_cases c : o < l.length
 ·rw [decide_eq_true (by omega : ((o : Nat) : Int) < ((l.length : Nat) : Int)), cond_true]
  have h6 := h5 c
  rw [show (l.getD (((o : Nat) : Int)).toNat 0) = l.getD o 0 by rw [Int.toNat_natCast]]
  by_cases e : l.getD o 0 = x
  ·rw [beq_iff_eq.2 e, cond_true]
   refine ⟨h, fun y => ⟨.inr, ?_⟩⟩
   rintro (rfl | hy)
   ·rw [← e]; exact getD_mem c
   ·exact hy
  ·rw [beq_eq_false_iff_ne.2 e, cond_false]
   exact core fun _ => by omega
 ·rw [decide_eq_false (by omega : ¬ ((o : Nat) : Int) < ((l.length : Nat) : Int)), cond_false]
  exact core fun hh => absurd hh c
theorem VF.ins {S P : List (List Int)} {n a b : Nat} (h : VF S P n) (ha : a < n) (hb : b < n) : VF (S.set a (r7_Insert (S.getD a []) (b : Int))) (P.set b (r7_Insert (P.getD b []) (a : Int))) n := by
 have hA := Insert_spec (h.sa a ha) (x := (b : Int)) (by omega)
 have hB := Insert_spec (h.pa b hb) (x := (a : Int)) (by omega)
 have e1 := h.sl; have e2 := h.pl
 refine ⟨by rw [List.length_set]; exact e1, by rw [List.length_set]; exact e2, fun k hk => ?_, fun k hk => ?_, fun i k hi hk => ?_⟩
 ·rw [gset (by omega)]; split
  ·exact hA.1
  ·exact h.sa k hk
 ·rw [gset (by omega)]; split
  ·exact hB.1
  ·exact h.pa k hk
 ·rw [gset (by omega), gset (by omega)]
  by_cases c1 : i = a
  ·rw [if_pos c1]
   by_cases c2 : k = b
   ·rw [if_pos c2]
    exact ⟨fun _ => (hB.2 _).2 (.inl (by omega)), fun _ => (hA.2 _).2 (.inl (by omega))⟩
   ·rw [if_neg c2, hA.2, ← h.mi i k hi hk, c1]
    exact ⟨fun hh => hh.resolve_left (by omega), .inr⟩
  ·rw [if_neg c1]
   by_cases c2 : k = b
   ·rw [if_pos c2, hB.2, h.mi i k hi hk, c2]
    exact ⟨.inr, fun hh => hh.resolve_left (by omega)⟩
   ·rw [if_neg c2]; exact h.mi i k hi hk
theorem Ins_A {l r : List Int} {n x : Int} (h : Asc l n) (e : r7_Insert l x = r) (hx : 0 ≤ x ∧ x < n) : Asc r n := e ▸ (Insert_spec h hx).1
theorem TG_L0 {t : List Int} {n : Int} (hn : 1 ≤ n ∧ n ≤ 1000) : ∀ (r : Nat) (ti : Int) (s p : List (List Int)) (k : Int), VF s p n.toNat → VF (tp_Graph_L0 t n r ti s p k).2.1 (tp_Graph_L0 t n r ti s p k).2.2 n.toNat
 | 0, ti, s, p, k, h => by rw [tp_Graph_L0]; exact h
 | r + 1, ti, s, p, k, h => by
  rw [tp_Graph_L0]
  have h1 := Next_rg t ti n (by omega)
  have h2 := Next_rg t (tp_Next t ti n).2 n (by omega)
  refine TG_L0 hn r _ _ _ _ ?_
  have := h.ins (a := ((tp_Next t ti n).1).toNat) (b := ((tp_Next t (tp_Next t ti n).2 n).1).toNat) (by omega) (by omega)
  rwa [show ((((tp_Next t ti n).1).toNat : Nat) : Int) = (tp_Next t ti n).1 by omega, show ((((tp_Next t (tp_Next t ti n).2 n).1).toNat : Nat) : Int) = (tp_Next t (tp_Next t ti n).2 n).1 by omega] at this
theorem TG_ok (t : List Int) (i m : Int) (hm : 1 ≤ m ∧ m ≤ 1000) : ∃ n : Nat, 1 ≤ n ∧ n ≤ m.toNat ∧ (tp_Graph t i m).1.Nodes.length = n ∧ VF (tp_Graph t i m).1.Succ (tp_Graph t i m).1.Pred n := by
 have h1 := Next_rg t i m (by omega)
 refine ⟨(1 + (tp_Next t i m).1).toNat, by omega, by omega, ?_, ?_⟩
 ·unfold tp_Graph; exact List.length_replicate
 ·have := TG_L0 (t := t) (n := 1 + (tp_Next t i m).1) (by omega) ((tp_Next t (tp_Next t i m).2 ((2 * (1 + (tp_Next t i m).1)) + 1)).1).toNat (tp_Next t (tp_Next t i m).2 ((2 * (1 + (tp_Next t i m).1)) + 1)).2 _ _ ((tp_Next t (tp_Next t i m).2 ((2 * (1 + (tp_Next t i m).1)) + 1)).1) (VF.nil _)
  unfold tp_Graph; exact this
theorem TG_len {t : List Int} {i m : Int} {r : GGraph × Int} (e : tp_Graph t i m = r) (hm : 1 ≤ m ∧ m ≤ 1000) : 1 ≤ r.1.Nodes.length ∧ (r.1.Nodes.length : Int) ≤ m ∧ r.1.Succ.length = r.1.Nodes.length ∧ r.1.Pred.length = r.1.Nodes.length := by
 obtain ⟨n, h1, h2, h3, h4⟩ := TG_ok t i m hm
 rw [e] at h3 h4
 have := h4.sl; have := h4.pl
 omega
theorem TG_ll {t : List Int} {i m : Int} {r : GGraph × Int} (e : tp_Graph t i m = r) (hm : 1 ≤ m ∧ m ≤ 1000) : (∀ l ∈ r.1.Succ, (l.length : Int) ≤ 3000) ∧ ∀ l ∈ r.1.Pred, (l.length : Int) ≤ 3000 := by
 obtain ⟨n, h1, h2, h3, h4⟩ := TG_ok t i m hm
 rw [e] at h4
 have key : ∀ (S : List (List Int)), S.length = n → (∀ k : Nat, k < n → Asc (S.getD k []) (n : Int)) → ∀ l ∈ S, (l.length : Int) ≤ 3000 := fun S hs ha l hl => by
  obtain ⟨k, hk, e⟩ := List.mem_iff_getElem.1 hl
  have := ha k (by omega)
  rw [List.getD_eq_getElem?_getD, List.getElem?_eq_getElem hk] at this
  rw [show (some S[k]).getD [] = S[k] from rfl, e] at this
  rcases Asc_len this with h | h
  ·omega
  ·rw [h]; simp
 exact ⟨key _ h4.sl h4.sa, key _ h4.pl h4.pa⟩
theorem gasc_L0 (l : List Int) (n : Int) : ∀ (r : Nat) (i : Int), (r : Int) = (l.length : Int) - i → 0 ≤ i → (gh_ascending_L0 l n r i = .brk () ∧ (∀ k, i ≤ k → k < (l.length : Int) → 0 ≤ l.getD k.toNat 0 ∧ l.getD k.toNat 0 < n ∧ (0 < k → l.getD (k - 1).toNat 0 < l.getD k.toNat 0))) ∨
  (gh_ascending_L0 l n r i = .ret false ∧ ¬ ∀ k, i ≤ k → k < (l.length : Int) → 0 ≤ l.getD k.toNat 0 ∧ l.getD k.toNat 0 < n ∧ (0 < k → l.getD (k - 1).toNat 0 < l.getD k.toNat 0))
 | 0, i, hr, hi => .inl ⟨by rw [gh_ascending_L0], fun k h1 h2 => by omega⟩
 | r + 1, i, hr, hi => by
  rw [gh_ascending_L0]
  by_cases c1 : l.getD i.toNat 0 < 0
  ·rw [decide_eq_true c1]; exact .inr ⟨rfl, fun h => by have := (h i (Int.le_refl _) (by omega)).1; omega⟩
  rw [decide_eq_false c1, cond_false]
  by_cases c2 : n ≤ l.getD i.toNat 0
  ·rw [decide_eq_true c2]; exact .inr ⟨rfl, fun h => by have := (h i (Int.le_refl _) (by omega)).2.1; omega⟩
  rw [decide_eq_false c2, cond_false]
  have go : (0 < i → l.getD (i - 1).toNat 0 < l.getD i.toNat 0) → (gh_ascending_L0 l n r (i + 1) = .brk () ∧ (∀ k, i ≤ k → k < (l.length : Int) → 0 ≤ l.getD k.toNat 0 ∧ l.getD k.toNat 0 < n ∧ (0 < k → l.getD (k - 1).toNat 0 < l.getD k.toNat 0))) ∨
    (gh_ascending_L0 l n r (i + 1) = .ret false ∧ ¬ ∀ k, i ≤ k → k < (l.length : Int) → 0 ≤ l.getD k.toNat 0 ∧ l.getD k.toNat 0 < n ∧ (0 < k → l.getD (k - 1).toNat 0 < l.getD k.toNat 0)) := fun hs => by
   rcases gasc_L0 l n r (i + 1) (by omega) (by omega) with ⟨h1, h2⟩ | ⟨h1, h2⟩
   ·refine .inl ⟨h1, fun k k1 k2 => ?_⟩
    by_cases e : k = i
    ·subst e; exact ⟨by omega, by omega, hs⟩
    ·exact h2 k (by omega) k2
   ·exact .inr ⟨h1, fun h => h2 fun k k1 k2 => h k (by omega) k2⟩
  by_cases c3 : 0 < i
  ·rw [decide_eq_true c3, cond_true]
   by_cases c4 : l.getD i.toNat 0 ≤ l.getD (i - 1).toNat 0
   ·rw [decide_eq_true c4]; exact .inr ⟨rfl, fun h => by have := (h i (Int.le_refl _) (by omega)).2.2 c3; omega⟩
   ·rw [decide_eq_false c4, cond_false]; exact go fun _ => by omega
  ·rw [decide_eq_false c3, cond_false]; exact go fun h => absurd h c3
theorem gasc_iff (l : List Int) (n : Int) : gh_ascending l n = true ↔ Asc l n := by
 unfold gh_ascending
 rcases gasc_L0 l n ((((l.length : Nat) : Int) - 0).toNat) 0 (by omega) (by omega) with ⟨h1, h2⟩ | ⟨h1, h2⟩
 ·rw [h1]; exact ⟨fun _ => h2, fun _ => rfl⟩
 ·rw [h1]; exact ⟨fun h => (by cases h), fun h => absurd h h2⟩
theorem count_L0 (l : List (List Int)) : ∀ (r : Nat) (e i : Int), (r : Int) = (l.length : Int) - i → 0 ≤ i → 0 ≤ e → (∃ e', gh_count_L0 l r e i = .brk e' ∧ 0 ≤ e' ∧ ∀ k, i ≤ k → k < (l.length : Int) → Asc (l.getD k.toNat []) (l.length : Int)) ∨ gh_count_L0 l r e i = .ret (-1)
 | 0, e, i, hr, hi, he => .inl ⟨e, by rw [gh_count_L0], he, fun k h1 h2 => by omega⟩
 | r + 1, e, i, hr, hi, he => by
  rw [gh_count_L0]
  cases decide (1024 < e + (((l.getD i.toNat []).length : Nat) : Int))
  ·rw [cond_false]
   cases ha : gh_ascending (l.getD i.toNat []) ((l.length : Nat) : Int)
   ·exact .inr rfl
   ·rcases count_L0 l r (e + (((l.getD i.toNat []).length : Nat) : Int)) (i + 1) (by omega) (by omega) (by omega) with ⟨e', h1, h2, h3⟩ | h1
    ·refine .inl ⟨e', h1, h2, fun k k1 k2 => ?_⟩
     by_cases c : k = i
     ·subst c; exact (gasc_iff _ _).1 ha
     ·exact h3 k (by omega) k2
    ·exact .inr h1
  ·exact .inr rfl
theorem count_rg {l : List (List Int)} {r : Int} (h : gh_count l = r) (hr : decide (r < 0) = false) : ∀ (i k : Nat), (k : Int) < ((l.getD i []).length : Int) → 0 ≤ (l.getD i []).getD k 0 ∧ (l.getD i []).getD k 0 < (l.length : Int) := fun i k hk => by
 have hr := of_decide_eq_false hr
 unfold gh_count at h
 rcases count_L0 l ((((l.length : Nat) : Int) - 0).toNat) 0 0 (by omega) (by omega) (by omega) with ⟨e', h1, h2, h3⟩ | h1
 ·by_cases hi : i < l.length
  ·have := h3 (i : Int) (by omega) (by omega) (k : Int) (by omega) (by rw [show ((i : Int)).toNat = i by omega]; exact hk)
   rw [show ((i : Int)).toNat = i by omega, show ((k : Int)).toNat = k by omega] at this
   exact ⟨this.1, this.2.1⟩
  ·rw [List.getD_eq_getElem?_getD, List.getElem?_eq_none (by omega)] at hk; simp at hk; omega
 ·rw [h1] at h; dsimp only at h; omega
theorem count_asc {l : List (List Int)} {r : Int} (h : gh_count l = r) (hr : decide (r < 0) = false) : ∀ k : Int, 0 ≤ k → k < (l.length : Int) → Asc (l.getD k.toNat []) (l.length : Int) := by
 have hr := of_decide_eq_false hr
 unfold gh_count at h
 rcases count_L0 l ((((l.length : Nat) : Int) - 0).toNat) 0 0 (by omega) (by omega) (by omega) with ⟨e', h1, h2, h3⟩ | h1
 ·exact h3
 ·rw [h1] at h; dsimp only at h; omega
theorem count_LV (l : List (List Int)) (ha : ∀ k : Nat, k < l.length → Asc (l.getD k []) (l.length : Int)) (hs : esum l ≤ 1024) : ∀ (r i : Nat), r + i = l.length → gh_count_L0 l r ((sm i (fun i => (l.getD i []).length) : Nat) : Int) (i : Int) = .brk ((esum l : Nat) : Int)
 | 0, i, h => by rw [gh_count_L0, show i = l.length by omega]; rfl
 | r + 1, i, h => by
  have e : ((i : Int)).toNat = i := by omega
  have hm := sm_mono (fun i => (l.getD i []).length) (n := i + 1) (m := l.length) (by omega)
  have hm' : sm (i + 1) (fun i => (l.getD i []).length) ≤ 1024 := Nat.le_trans hm hs
  have e2 : ((sm i (fun i => (l.getD i []).length) : Nat) : Int) + (((l.getD i []).length : Nat) : Int) = ((sm (i + 1) (fun i => (l.getD i []).length) : Nat) : Int) := by
   show _ = ((sm i (fun i => (l.getD i []).length) + (l.getD i []).length : Nat) : Int); omega
  rw [gh_count_L0, e, e2, decide_eq_false (show ¬ (1024 : Int) < _ by omega), cond_false]
  dsimp only
  rw [(gasc_iff _ _).2 (ha i (by omega)), Bool.not_true, cond_false, show (i : Int) + 1 = ((i + 1 : Nat) : Int) by omega]
  exact count_LV l ha hs r (i + 1) (by omega)
theorem count_val {l : List (List Int)} (ha : ∀ k : Nat, k < l.length → Asc (l.getD k []) (l.length : Int)) (hs : esum l ≤ 1024) : gh_count l = ((esum l : Nat) : Int) := by
 unfold gh_count
 have := count_LV l ha hs l.length 0 (by omega)
 rw [show ((((l.length : Nat) : Int) : Int) - 0).toNat = l.length by omega]
 simp only [sm] at this
 rw [show ((0 : Nat) : Int) = 0 from rfl] at this
 rw [this]
theorem count_up {l : List (List Int)} : ∀ (r : Nat) (i : Nat) (e : Int), i + r = l.length → gh_count_L0 l r ((sm i (fun i => (l.getD i []).length) : Nat) : Int) (i : Int) = .brk e → (i = l.length ∨ esum l ≤ 1024) ∧ e = ((esum l : Nat) : Int)
 | 0, i, e, h, hc => by
  rw [gh_count_L0] at hc
  refine ⟨.inl (by omega), ?_⟩
  rw [show i = l.length by omega] at hc
  injection hc with hc
  exact hc.symm
 | r + 1, i, e, h, hc => by
  rw [gh_count_L0, Int.toNat_natCast] at hc
  have e2 : ((sm i (fun i => (l.getD i []).length) : Nat) : Int) + (((l.getD i []).length : Nat) : Int) = ((sm (i + 1) (fun i => (l.getD i []).length) : Nat) : Int) := by
   show _ = ((sm i (fun i => (l.getD i []).length) + (l.getD i []).length : Nat) : Int); omega
  rw [e2, show (i : Int) + 1 = ((i + 1 : Nat) : Int) by omega] at hc
  by_cases c : (1024 : Int) < ((sm (i + 1) (fun i => (l.getD i []).length) : Nat) : Int)
  ·rw [decide_eq_true c] at hc; cases hc
  ·rw [decide_eq_false c, cond_false] at hc
   cases ha : gh_ascending (l.getD i []) ((l.length : Nat) : Int)
   ·rw [ha] at hc; cases hc
   ·rw [ha] at hc
    obtain ⟨a1, a2⟩ := count_up r (i + 1) e (by omega) hc
    refine ⟨.inr ?_, a2⟩
    rcases a1 with a1 | a1
    ·rw [a1] at c
     have : sm l.length (fun i => (l.getD i []).length) = esum l := rfl
     omega
    ·exact a1
theorem count_pos {l : List (List Int)} (h : ¬ gh_count l < 0) : gh_count l = ((esum l : Nat) : Int) ∧ (esum l ≤ 1024 ∨ l.length = 0) ∧ ∀ k : Nat, k < l.length → Asc (l.getD k []) (l.length : Int) := by
 have ha : ∀ k : Nat, k < l.length → Asc (l.getD k []) (l.length : Int) := fun k hk => by
  have := count_asc (l := l) rfl (decide_eq_false h) (k : Int) (by omega) (by omega)
  rwa [Int.toNat_natCast] at this
 unfold gh_count at h ⊢
 have h0 : ((sm 0 (fun i => (l.getD i []).length) : Nat) : Int) = 0 := rfl
 rcases count_L0 l ((((l.length : Nat) : Int) - 0).toNat) 0 0 (by omega) (by omega) (by omega) with ⟨e', h1, -, -⟩ | h1
 ·have h2 := count_up (l := l) ((((l.length : Nat) : Int) - 0).toNat) 0 e' (by omega) (by rw [h0]; exact h1)
  rw [h1]
  exact ⟨h2.2, by have := h2.1; omega, ha⟩
 ·rw [h1] at h; exact absurd (by decide) h
theorem Contains_iff (l : List Int) (n : Int) : sc_Contains_int l n = true ↔ n ∈ l := by
 have := scan' (fun r i => sc_Index_int_L0 l n r i) (fun i => n == l.getD i.toNat 0) () (fun _ => rfl) (fun _ _ => rfl) ((((l.length : Nat) : Int) - 0).toNat) 0
 unfold sc_Contains_int sc_Index_int
 rw [mem_getD]
 rcases this with ⟨j, e, j1, j2, j3⟩ | ⟨e, h⟩
 ·rw [e]
  exact ⟨fun _ => ⟨j, j1, by omega, (eq_of_beq j3).symm⟩, fun _ => by simpa using j1⟩
 ·rw [e]
  refine ⟨fun h => by simp at h, ?_⟩
  rintro ⟨j, j1, j2, j3⟩
  have := h j j1 (by omega)
  simp only [j3] at this; simp at this
theorem Valid_VG {g : GGraph} (h : gh_Valid g = true) : VG g := by
 unfold gh_Valid at h
 dsimp only at h
 by_cases c1 : ((g.Nodes.length : Nat) : Int) < 1
 ·rw [decide_eq_true c1] at h; cases h
 rw [decide_eq_false c1, cond_false] at h
 by_cases c2 : 256 < ((g.Nodes.length : Nat) : Int)
 ·rw [decide_eq_true c2] at h; cases h
 rw [decide_eq_false c2, cond_false] at h
 cases c3 : ((g.Succ.length : Nat) : Int) != ((g.Nodes.length : Nat) : Int)
 ·rw [c3, cond_false] at h
  cases c4 : ((g.Pred.length : Nat) : Int) != ((g.Nodes.length : Nat) : Int)
  ·rw [c4, cond_false] at h
   cases c5 : decide (gh_count g.Succ < 0)
   ·have e3 : ((g.Succ.length : Nat) : Int) = ((g.Nodes.length : Nat) : Int) := by simpa using c3
    have e4 : ((g.Pred.length : Nat) : Int) = ((g.Nodes.length : Nat) : Int) := by simpa using c4
    have ha := count_asc rfl c5
    rw [e3] at ha
    exact ⟨by omega, by omega, by omega, ha⟩
   ·rw [c5] at h; cases h
  ·rw [c4] at h; cases h
 ·rw [c3] at h; cases h
theorem Valid_f {g : GGraph} {r : Bool} (h : gh_Valid g = r) (hr : (!r) = false) : VG g := Valid_VG (h.trans (by cases r; cases hr; rfl))
theorem Valid_L1t {g : GGraph} {a : Int} {v : List Int} (h : ∀ x ∈ v, a ∈ g.Pred.getD x.toNat []) : ∀ (r : Nat) (i : Int), 0 ≤ i → i + (r : Int) ≤ (v.length : Int) → gh_Valid_L1 g a v r i = .brk ()
 | 0, i, _, _ => by rw [gh_Valid_L1]
 | r + 1, i, h0, h1 => by
  rw [gh_Valid_L1]
  rw [(Contains_iff _ _).2 (h _ (getD_mem (by omega))), Bool.not_true, cond_false]
  exact Valid_L1t h r (i + 1) (by omega) (by omega)
theorem Valid_L0t {g : GGraph} (h : ∀ a : Int, 0 ≤ a → a < (g.Succ.length : Int) → ∀ x ∈ g.Succ.getD a.toNat [], a ∈ g.Pred.getD x.toNat []) : ∀ (r : Nat) (i : Int), 0 ≤ i → i + (r : Int) ≤ (g.Succ.length : Int) → gh_Valid_L0 g r i = .brk ()
 | 0, i, _, _ => by rw [gh_Valid_L0]
 | r + 1, i, h0, h1 => by
  rw [gh_Valid_L0, Valid_L1t (h i h0 (by omega)) _ 0 (by omega) (by omega)]
  exact Valid_L0t h r (i + 1) (by omega) (by omega)
theorem Valid_of {g : GGraph} {n : Nat} (hn : g.Nodes.length = n) (h1 : 1 ≤ n) (h2 : n ≤ 256) (h : VF g.Succ g.Pred n) (hs : esum g.Succ ≤ 1024) : gh_Valid g = true := by
 unfold gh_Valid
 have e1 := h.sl; have e2 := h.pl
 dsimp only
 rw [decide_eq_false (by omega), cond_false, decide_eq_false (by omega), cond_false]
 rw [show (((g.Succ.length : Nat) : Int) != ((g.Nodes.length : Nat) : Int)) = false by rw [e1, hn]; simp]
 rw [show (((g.Pred.length : Nat) : Int) != ((g.Nodes.length : Nat) : Int)) = false by rw [e2, hn]; simp]
 have hc := h.cnt
 rw [count_val (l := g.Succ) (fun k hk => by rw [e1]; exact h.sa k (by omega)) hs, count_val (l := g.Pred) (fun k hk => by rw [e2]; exact h.pa k (by omega)) (by omega), hc]
 rw [cond_false, cond_false, decide_eq_false (by omega), cond_false]
 rw [show (((esum g.Pred : Nat) : Int) != ((esum g.Pred : Nat) : Int)) = false by simp, cond_false]
 rw [Valid_L0t (fun a a0 a1 x hx => by
  have hx2 := Asc_mem (h.sa a.toNat (by omega)) hx
  have := (h.mi a.toNat x.toNat (by omega) (by omega)).1 (by rw [show ((x.toNat : Nat) : Int) = x by omega]; exact hx)
  rwa [show ((a.toNat : Nat) : Int) = a by omega] at this) _ 0 (by omega) (by omega)]
theorem Valid_L1r {g : GGraph} {a : Int} {v : List Int} : ∀ (r : Nat) (i : Int), 0 ≤ i → i + (r : Int) = (v.length : Int) → (∃ x ∈ v, a ∉ g.Pred.getD x.toNat []) → (∃ k : Nat, i ≤ (k : Int) ∧ k < v.length ∧ a ∉ g.Pred.getD (v.getD k 0).toNat []) → gh_Valid_L1 g a v r i = .ret false
 | 0, i, h0, h1, _, ⟨k, k1, k2, _⟩ => by omega
 | r + 1, i, h0, h1, hx, ⟨k, k1, k2, k3⟩ => by
  rw [gh_Valid_L1]
  cases hc : sc_Contains_int (g.Pred.getD (v.getD i.toNat 0).toNat []) a
  ·rfl
  ·rw [Bool.not_true, cond_false]
   refine Valid_L1r r (i + 1) (by omega) (by omega) hx ⟨k, ?_, k2, k3⟩
   by_cases e : (k : Int) = i
   ·rw [show k = i.toNat by omega] at k3
    exact absurd ((Contains_iff _ _).1 hc) k3
   ·omega
theorem Valid_L1i {g : GGraph} {a : Int} {v : List Int} : gh_Valid_L1 g a v ((((v.length : Nat) : Int) - 0).toNat) 0 = (if ∀ x ∈ v, a ∈ g.Pred.getD x.toNat [] then .brk () else .ret false) := by
 by_cases h : ∀ x ∈ v, a ∈ g.Pred.getD x.toNat []
 ·rw [if_pos h]; exact Valid_L1t h _ 0 (by omega) (by omega)
 ·rw [if_neg h]
  have h' : ∃ x, ¬ (x ∈ v → a ∈ g.Pred.getD x.toNat []) := Classical.not_forall.1 h
  obtain ⟨x, hx⟩ := h'
  have hx1 : x ∈ v := Classical.byContradiction fun hn => hx fun hm => absurd hm hn
  have hx2 : a ∉ g.Pred.getD x.toNat [] := fun hm => hx fun _ => hm
  obtain ⟨k, hk, e⟩ := List.mem_iff_getElem.1 hx1
  exact Valid_L1r _ 0 (by omega) (by omega) ⟨x, hx1, hx2⟩ ⟨k, by omega, hk, by rw [getD_lt hk, e]; exact hx2⟩
theorem Valid_L0r {g : GGraph} : ∀ (r : Nat) (i : Int), 0 ≤ i → i + (r : Int) = (g.Succ.length : Int) → gh_Valid_L0 g r i ≠ .ret true ∧ (gh_Valid_L0 g r i = .brk () → ∀ a : Int, i ≤ a → a < (g.Succ.length : Int) → ∀ x ∈ g.Succ.getD a.toNat [], a ∈ g.Pred.getD x.toNat [])
 | 0, i, h0, h1 => ⟨by rw [gh_Valid_L0]; exact fun h => (by cases h), fun _ a a1 a2 => by omega⟩
 | r + 1, i, h0, h1 => by
  rw [gh_Valid_L0, Valid_L1i]
  by_cases h : ∀ x ∈ g.Succ.getD i.toNat [], i ∈ g.Pred.getD x.toNat []
  ·rw [if_pos h]
   obtain ⟨a1, a2⟩ := Valid_L0r (g := g) r (i + 1) (by omega) (by omega)
   refine ⟨a1, fun hb a h2 h3 => ?_⟩
   by_cases e : a = i
   ·rw [e]; exact h
   ·exact a2 hb a (by omega) h3
  ·rw [if_neg h]
   exact ⟨fun h => (by cases h), fun h => (by cases h)⟩
theorem gValid_VF {g : GGraph} (h : gh_Valid g = true) : (1 ≤ g.Nodes.length ∧ g.Nodes.length ≤ 256) ∧ VF g.Succ g.Pred g.Nodes.length ∧ esum g.Succ ≤ 1024 := by
 have hg := Valid_VG h
 have hn := hg.n1; have hsl := hg.sl; have hpl := hg.pl
 unfold gh_Valid at h
 dsimp only at h
 rw [decide_eq_false (by omega), cond_false, decide_eq_false (by omega), cond_false] at h
 rw [show (((g.Succ.length : Nat) : Int) != ((g.Nodes.length : Nat) : Int)) = false by rw [hsl]; simp, cond_false] at h
 rw [show (((g.Pred.length : Nat) : Int) != ((g.Nodes.length : Nat) : Int)) = false by rw [hpl]; simp, cond_false] at h
 by_cases c1 : gh_count g.Succ < 0
 ·rw [decide_eq_true c1] at h; cases h
 rw [decide_eq_false c1, cond_false] at h
 cases c2 : gh_count g.Pred != gh_count g.Succ
 ·rw [c2, cond_false] at h
  have e2 : gh_count g.Pred = gh_count g.Succ := by simpa using c2
  obtain ⟨p1, p2, p3⟩ := count_pos c1
  obtain ⟨q1, q2, q3⟩ := count_pos (l := g.Pred) (by omega)
  rw [hsl] at p3
  rw [hpl] at q3
  obtain ⟨v1, v2⟩ := Valid_L0r (g := g) (((((g.Succ.length : Nat) : Int) : Int) - 0).toNat) 0 (by omega) (by omega)
  have v3 : gh_Valid_L0 g (((((g.Succ.length : Nat) : Int) : Int) - 0).toNat) 0 = .brk () := by
   revert h v1
   cases gh_Valid_L0 g (((((g.Succ.length : Nat) : Int) : Int) - 0).toNat) 0 with
   | brk u => intro _ _; rfl
   | ret b => cases b with
    | true => intro _ h; exact absurd rfl h
    | false => intro h; cases h
   | oof => intro h; cases h
  have v4 := v2 v3
  refine ⟨hn, ⟨hsl, hpl, p3, q3, fun i k hi hk => ?_⟩, by omega⟩
  have w1 : sm g.Nodes.length (fun k => sm g.Nodes.length (fun i => if (k : Int) ∈ g.Succ.getD i [] then 1 else 0)) = esum g.Succ := by
   rw [← sm_swap (fun i k => if (k : Int) ∈ g.Succ.getD i [] then 1 else 0)]
   unfold esum
   rw [hsl]
   exact (sm_congr _ fun i hi => len_sm _ _ (Asc_nd (p3 i hi)) (fun x hx => Asc_mem (p3 i hi) hx)).symm
  have w2 : sm g.Nodes.length (fun k => sm g.Nodes.length (fun i => if (i : Int) ∈ g.Pred.getD k [] then 1 else 0)) = esum g.Pred := by
   unfold esum
   rw [hpl]
   exact (sm_congr _ fun i hi => len_sm _ _ (Asc_nd (q3 i hi)) (fun x hx => Asc_mem (q3 i hi) hx)).symm
  have v5 : ∀ i k : Nat, i < g.Nodes.length → (k : Int) ∈ g.Succ.getD i [] → (i : Int) ∈ g.Pred.getD k [] := fun i k hi hm => by
   have := v4 (i : Int) (by omega) (by omega) (k : Int) (by rw [Int.toNat_natCast]; exact hm)
   rwa [Int.toNat_natCast] at this
  have w3 : ∀ k, k < g.Nodes.length → ∀ i, i < g.Nodes.length → (if (k : Int) ∈ g.Succ.getD i [] then 1 else 0) ≤ (if (i : Int) ∈ g.Pred.getD k [] then 1 else 0) := fun k hk i hi => by
   by_cases c : (k : Int) ∈ g.Succ.getD i []
   ·rw [if_pos c, if_pos (v5 i k hi c)]; exact Nat.le_refl _
   ·rw [if_neg c]; exact Nat.zero_le _
  have w4 : ∀ (f f' : Nat → Nat) (n : Nat), (∀ i, i < n → f i ≤ f' i) → sm n f ≤ sm n f' := fun f f' n => by
   induction n with
   | zero => intro _; exact Nat.le_refl _
   | succ m ih => intro hm; rw [sm, sm]; have := ih (fun i hi => hm i (by omega)); have := hm m (by omega); omega
  have w5 := sm_eq_le g.Nodes.length (fun k hk => w4 _ _ _ (w3 k hk)) (by rw [w1, w2]; omega) k hk
  have w6 := sm_eq_le g.Nodes.length (w3 k hk) w5 i hi
  refine ⟨v5 i k hi, fun hm => ?_⟩
  rw [if_pos hm] at w6
  by_cases c : (k : Int) ∈ g.Succ.getD i []
  ·exact c
  ·rw [if_neg c] at w6; cases w6
 ·rw [c2] at h; cases h
theorem lists_L0e (l : List (List Int)) : ∀ (r : Nat) (out : List (List Int)) (i : Nat), i + r = l.length → gh_lists_L0 l r out (i : Int) = out ++ l.drop i
 | 0, out, i, h => by rw [gh_lists_L0, List.drop_of_length_le (by omega), List.append_nil]
 | r + 1, out, i, h => by
  rw [gh_lists_L0, show (i : Int) + 1 = ((i + 1 : Nat) : Int) by omega, lists_L0e l r _ (i + 1) (by omega), Int.toNat_natCast, List.append_assoc]
  rw [List.drop_eq_getElem_cons (show i < l.length by omega), List.getD_eq_getElem?_getD, List.getElem?_eq_getElem (show i < l.length by omega)]
  rfl
theorem lists_eq (l : List (List Int)) : gh_lists l = l := by
 unfold gh_lists
 have := lists_L0e l ((((l.length : Nat) : Int) - 0).toNat) [] 0 (by omega)
 rw [show ((0 : Nat) : Int) = 0 from rfl] at this
 rw [this]; rfl
theorem Rev_eq {g : GGraph} (h : gh_Valid g = true) : gh_Reverse g = (GGraph.mk g.Nodes g.Pred g.Succ, 0) := by
 unfold gh_Reverse
 rw [h, lists_eq, lists_eq]; rfl
theorem total_big (l : List (List Int)) : ∀ (r : Nat) (n i : Int), 1024 < n → r7_total_L0 l 1024 r n i = n
 | 0, n, i, _ => by rw [r7_total_L0]
 | r + 1, n, i, h => by rw [r7_total_L0, decide_eq_false (by omega), cond_false]
theorem total_L0s (l : List (List Int)) : ∀ (r i : Nat), i + r = l.length → (esum l ≤ 1024 ∧ r7_total_L0 l 1024 r ((sm i (fun i => (l.getD i []).length) : Nat) : Int) (i : Int) = ((esum l : Nat) : Int)) ∨ (1024 < esum l ∧ 1024 < r7_total_L0 l 1024 r ((sm i (fun i => (l.getD i []).length) : Nat) : Int) (i : Int))
 | 0, i, h => by
  rw [r7_total_L0, show i = l.length by omega]
  show (esum l ≤ 1024 ∧ ((esum l : Nat) : Int) = ((esum l : Nat) : Int)) ∨ (1024 < esum l ∧ 1024 < ((esum l : Nat) : Int))
  omega
 | r + 1, i, h => by
  have hm := sm_mono (fun i => (l.getD i []).length) (n := i + 1) (m := l.length) (by omega)
  have hm' : sm (i + 1) (fun i => (l.getD i []).length) ≤ esum l := hm
  have hs : sm (i + 1) (fun i => (l.getD i []).length) = sm i (fun i => (l.getD i []).length) + (l.getD i []).length := rfl
  rw [r7_total_L0, Int.toNat_natCast]
  by_cases c : ((sm i (fun i => (l.getD i []).length) : Nat) : Int) ≤ 1024
  ·rw [decide_eq_true c, cond_true]
   by_cases c2 : (l.getD i []).length ≤ 1025
   ·rw [show ((sm i (fun i => (l.getD i []).length) : Nat) : Int) + min (((l.getD i []).length : Nat) : Int) (1024 + 1) = ((sm (i + 1) (fun i => (l.getD i []).length) : Nat) : Int) by omega, show (i : Int) + 1 = ((i + 1 : Nat) : Int) by omega]
    exact total_L0s l r (i + 1) (by omega)
   ·right
    rw [total_big l r _ _ (by omega)]
    omega
  ·right
   rw [decide_eq_false c, cond_false]
   omega
theorem total_s (l : List (List Int)) : (esum l ≤ 1024 ∧ r7_total l 1024 = ((esum l : Nat) : Int)) ∨ (1024 < esum l ∧ 1024 < r7_total l 1024) := by
 unfold r7_total
 have := total_L0s l l.length 0 (by omega)
 rw [show ((((l.length : Nat) : Int) : Int) - 0).toNat = l.length by omega]
 exact this
theorem Rising_L0e (l : List Int) (n : Int) : ∀ (r : Nat) (i : Int), r7_Rising_L0 l n r i = gh_ascending_L0 l n r i
 | 0, i => by rw [r7_Rising_L0, gh_ascending_L0]
 | r + 1, i => by rw [r7_Rising_L0, gh_ascending_L0]; simp only [Rising_L0e l n r]
theorem Rising_iff (l : List Int) (n : Int) : r7_Rising l n = true ↔ Asc l n := by
 rw [← gasc_iff]
 unfold r7_Rising gh_ascending
 rw [Rising_L0e]
 all_goals cases gh_ascending_L0 l n ((((l.length : Nat) : Int) - 0).toNat) 0 <;> exact Iff.rfl
theorem Has_iff (l : List Int) (n : Int) : r7_Has l n = true ↔ n ∈ l := by
 have := scan (fun r i => r7_Has_L0 l n r i) (fun i => l.getD i.toNat 0 == n) true () (fun _ => rfl) (fun _ _ => rfl) ((((l.length : Nat) : Int) - 0).toNat) 0
 unfold r7_Has
 rw [mem_getD]
 rcases this with ⟨e, j, j1, j2, j3⟩ | ⟨e, h⟩
 ·rw [e]
  exact ⟨fun _ => ⟨j, j1, by omega, by simpa using j3⟩, fun _ => rfl⟩
 ·rw [e]
  refine ⟨fun h => by simp at h, ?_⟩
  rintro ⟨j, j1, j2, j3⟩
  have := h j j1 (by omega)
  simp [-List.getD_eq_getElem?_getD] at this; exact absurd j3 this
theorem Has_false {l : List Int} {n : Int} (h : r7_Has l n = false) : n ∉ l := fun e => by
 rw [(Has_iff l n).2 e] at h; cases h
theorem rV_L0 {g : GGraph} : ∀ (r : Nat) (i : Int), 0 ≤ i → (r7_ValidGraph_L0 g r i = .brk () ∧ ∀ k : Int, i ≤ k → k < i + (r : Int) → Asc (g.Succ.getD k.toNat []) ((g.Nodes.length : Nat) : Int) ∧ Asc (g.Pred.getD k.toNat []) ((g.Nodes.length : Nat) : Int)) ∨
  (r7_ValidGraph_L0 g r i = .ret false ∧ ¬ ∀ k : Int, i ≤ k → k < i + (r : Int) → Asc (g.Succ.getD k.toNat []) ((g.Nodes.length : Nat) : Int) ∧ Asc (g.Pred.getD k.toNat []) ((g.Nodes.length : Nat) : Int))
 | 0, i, h0 => .inl ⟨by rw [r7_ValidGraph_L0], fun k h1 h2 => by omega⟩
 | r + 1, i, h0 => by
  rw [r7_ValidGraph_L0]
  dsimp only
  cases c1 : r7_Rising (g.Succ.getD (i : Int).toNat []) ((g.Nodes.length : Nat) : Int)
  ·refine .inr ⟨rfl, fun h => ?_⟩
   rw [(Rising_iff _ _).2 (h i (by omega) (by omega)).1] at c1; cases c1
  rw [Bool.not_true, cond_false]
  cases c2 : r7_Rising (g.Pred.getD (i : Int).toNat []) ((g.Nodes.length : Nat) : Int)
  ·refine .inr ⟨rfl, fun h => ?_⟩
   rw [(Rising_iff _ _).2 (h i (by omega) (by omega)).2] at c2; cases c2
  rw [Bool.not_true, cond_false]
  rcases rV_L0 (g := g) r (i + 1) (by omega) with ⟨a1, a2⟩ | ⟨a1, a2⟩
  ·refine .inl ⟨a1, fun k h1 h2 => ?_⟩
   by_cases e : k = i
   ·rw [e]; exact ⟨(Rising_iff _ _).1 c1, (Rising_iff _ _).1 c2⟩
   ·exact a2 k (by omega) (by omega)
  ·exact .inr ⟨a1, fun h => a2 fun k h1 h2 => h k (by omega) (by omega)⟩
theorem rV_L2 {g : GGraph} {i : Int} : ∀ (r : Nat) (k : Int), 0 ≤ k → k + (r : Int) = ((g.Succ.getD i.toNat []).length : Int) → (r7_ValidGraph_L2 g i r k = .brk () ∧ ∀ x ∈ (g.Succ.getD i.toNat []).drop k.toNat, i ∈ g.Pred.getD x.toNat []) ∨ (r7_ValidGraph_L2 g i r k = .ret false ∧ ∃ x ∈ g.Succ.getD i.toNat [], i ∉ g.Pred.getD x.toNat [])
 | 0, k, h0, h1 => .inl ⟨by rw [r7_ValidGraph_L2], fun x hx => by rw [List.drop_of_length_le (by omega)] at hx; cases hx⟩
 | r + 1, k, h0, h1 => by
  rw [r7_ValidGraph_L2]
  try dsimp only
  have hk : k.toNat < (g.Succ.getD i.toNat []).length := by omega
  cases c1 : r7_Has (g.Pred.getD (((g.Succ.getD (i : Int).toNat []).getD (k : Int).toNat 0) : Int).toNat []) i
  ·exact .inr ⟨rfl, _, getD_mem hk, Has_false c1⟩
  ·rw [Bool.not_true, cond_false]
   rcases rV_L2 (g := g) (i := i) r (k + 1) (by omega) (by omega) with ⟨a1, a2⟩ | a
   ·refine .inl ⟨a1, fun x hx => ?_⟩
    rw [List.drop_eq_getElem_cons hk] at hx
    rcases List.mem_cons.1 hx with hx | hx
    ·rw [hx, ← getD_lt hk]; exact (Has_iff _ _).1 c1
    ·exact a2 x (by rw [show (k + 1).toNat = k.toNat + 1 by omega]; exact hx)
   ·exact .inr a
theorem rV_L3 {g : GGraph} {i : Int} : ∀ (r : Nat) (k : Int), 0 ≤ k → k + (r : Int) = ((g.Pred.getD i.toNat []).length : Int) → (r7_ValidGraph_L3 g i r k = .brk () ∧ ∀ x ∈ (g.Pred.getD i.toNat []).drop k.toNat, i ∈ g.Succ.getD x.toNat []) ∨ (r7_ValidGraph_L3 g i r k = .ret false ∧ ∃ x ∈ g.Pred.getD i.toNat [], i ∉ g.Succ.getD x.toNat [])
 | 0, k, h0, h1 => .inl ⟨by rw [r7_ValidGraph_L3], fun x hx => by rw [List.drop_of_length_le (by omega)] at hx; cases hx⟩
 | r + 1, k, h0, h1 => by
  rw [r7_ValidGraph_L3]
  try dsimp only
  have hk : k.toNat < (g.Pred.getD i.toNat []).length := by omega
  cases c1 : r7_Has (g.Succ.getD (((g.Pred.getD (i : Int).toNat []).getD (k : Int).toNat 0) : Int).toNat []) i
  ·exact .inr ⟨rfl, _, getD_mem hk, Has_false c1⟩
  ·rw [Bool.not_true, cond_false]
   rcases rV_L3 (g := g) (i := i) r (k + 1) (by omega) (by omega) with ⟨a1, a2⟩ | a
   ·refine .inl ⟨a1, fun x hx => ?_⟩
    rw [List.drop_eq_getElem_cons hk] at hx
    rcases List.mem_cons.1 hx with hx | hx
    ·rw [hx, ← getD_lt hk]; exact (Has_iff _ _).1 c1
    ·exact a2 x (by rw [show (k + 1).toNat = k.toNat + 1 by omega]; exact hx)
   ·exact .inr a
theorem rV_L1 {g : GGraph} : ∀ (r : Nat) (i : Int), 0 ≤ i → (r7_ValidGraph_L1 g r i = .brk () ∧ ∀ k : Int, i ≤ k → k < i + (r : Int) → Both g k) ∨ (r7_ValidGraph_L1 g r i = .ret false ∧ ¬ ∀ k : Int, i ≤ k → k < i + (r : Int) → Both g k)
 | 0, i, h0 => .inl ⟨by rw [r7_ValidGraph_L1], fun k h1 h2 => by omega⟩
 | r + 1, i, h0 => by
  rw [r7_ValidGraph_L1]
  rcases rV_L2 (g := g) (i := i) ((((((g.Succ.getD (i : Int).toNat []).length : Nat) : Int) : Int) - 0).toNat) 0 (by omega) (by omega) with ⟨a1, a2⟩ | ⟨a1, x, a2, a3⟩
  ·rw [a1]
   dsimp only
   rcases rV_L3 (g := g) (i := i) ((((((g.Pred.getD (i : Int).toNat []).length : Nat) : Int) : Int) - 0).toNat) 0 (by omega) (by omega) with ⟨b1, b2⟩ | ⟨b1, x, b2, b3⟩
   ·rw [b1]
    dsimp only
    rcases rV_L1 (g := g) r (i + 1) (by omega) with ⟨c1, c2⟩ | ⟨c1, c2⟩
    ·refine .inl ⟨c1, fun k h1 h2 => ?_⟩
     by_cases e : k = i
     ·rw [e]; exact ⟨a2, b2⟩
     ·exact c2 k (by omega) (by omega)
    ·exact .inr ⟨c1, fun h => c2 fun k h1 h2 => h k (by omega) (by omega)⟩
   ·rw [b1]
    exact .inr ⟨rfl, fun h => b3 ((h i (by omega) (by omega)).2 x b2)⟩
  ·rw [a1]
   exact .inr ⟨rfl, fun h => a3 ((h i (by omega) (by omega)).1 x a2)⟩
theorem rValid_VF {g : GGraph} (h : r7_ValidGraph g = true) : (1 ≤ g.Nodes.length ∧ g.Nodes.length ≤ 256) ∧ VF g.Succ g.Pred g.Nodes.length ∧ esum g.Succ ≤ 1024 := by
 unfold r7_ValidGraph at h
 dsimp only at h
 by_cases c1 : ((g.Nodes.length : Nat) : Int) < 1
 ·rw [decide_eq_true c1] at h; cases h
 rw [decide_eq_false c1, cond_false] at h
 by_cases c2 : 256 < ((g.Nodes.length : Nat) : Int)
 ·rw [decide_eq_true c2] at h; cases h
 rw [decide_eq_false c2, cond_false] at h
 cases c3 : ((g.Succ.length : Nat) : Int) != ((g.Nodes.length : Nat) : Int)
 ·rw [c3, cond_false] at h
  cases c4 : ((g.Pred.length : Nat) : Int) != ((g.Nodes.length : Nat) : Int)
  ·rw [c4, cond_false] at h
   have hsl0 : ((g.Succ.length : Nat) : Int) = ((g.Nodes.length : Nat) : Int) := by simpa using c3
   have hsl : g.Succ.length = g.Nodes.length := by omega
   have hpl0 : ((g.Pred.length : Nat) : Int) = ((g.Nodes.length : Nat) : Int) := by simpa using c4
   have hpl : g.Pred.length = g.Nodes.length := by omega
   rcases total_s g.Succ with ⟨t1, t2⟩ | ⟨t1, t2⟩
   ·rw [t2, decide_eq_false (by omega), cond_false] at h
    rcases total_s g.Pred with ⟨u1, u2⟩ | ⟨u1, u2⟩
    ·rw [u2, decide_eq_false (by omega), cond_false] at h
     rcases rV_L0 (g := g) (((((g.Nodes.length : Nat) : Int) : Int) - 0).toNat) 0 (by omega) with ⟨a1, a2⟩ | ⟨a1, a2⟩
     ·rw [a1] at h
      dsimp only at h
      rcases rV_L1 (g := g) (((((g.Nodes.length : Nat) : Int) : Int) - 0).toNat) 0 (by omega) with ⟨b1, b2⟩ | ⟨b1, b2⟩
      ·refine ⟨by omega, ⟨hsl, hpl, fun k hk => ?_, fun k hk => ?_, fun i k hi hk => ?_⟩, t1⟩
       ·have := (a2 (k : Int) (by omega) (by omega)).1; rwa [Int.toNat_natCast] at this
       ·have := (a2 (k : Int) (by omega) (by omega)).2; rwa [Int.toNat_natCast] at this
       ·have h1 := (b2 (i : Int) (by omega) (by omega)).1 (k : Int)
        have h2 := (b2 (k : Int) (by omega) (by omega)).2 (i : Int)
        rw [Int.toNat_natCast, Int.toNat_natCast] at h1 h2
        exact ⟨h1, h2⟩
      ·rw [b1] at h; cases h
     ·rw [a1] at h; cases h
    ·rw [decide_eq_true u2] at h; cases h
   ·rw [decide_eq_true t2] at h; cases h
  ·rw [c4] at h; cases h
 ·rw [c3] at h; cases h
theorem rValid_of {g : GGraph} {n : Nat} (hn : g.Nodes.length = n) (h1 : 1 ≤ n) (h2 : n ≤ 256) (h : VF g.Succ g.Pred n) (hs : esum g.Succ ≤ 1024) : r7_ValidGraph g = true := by
 unfold r7_ValidGraph
 have e1 := h.sl; have e2 := h.pl; have e3 := h.cnt
 dsimp only
 rw [decide_eq_false (by omega), cond_false, decide_eq_false (by omega), cond_false]
 rw [show (((g.Succ.length : Nat) : Int) != ((g.Nodes.length : Nat) : Int)) = false by rw [e1, hn]; simp, cond_false]
 rw [show (((g.Pred.length : Nat) : Int) != ((g.Nodes.length : Nat) : Int)) = false by rw [e2, hn]; simp, cond_false]
 rcases total_s g.Succ with ⟨t1, t2⟩ | ⟨t1, t2⟩
 ·rw [t2, decide_eq_false (by omega), cond_false]
  rcases total_s g.Pred with ⟨u1, u2⟩ | ⟨u1, u2⟩
  ·rw [u2, decide_eq_false (by omega), cond_false]
   rcases rV_L0 (g := g) (((((g.Nodes.length : Nat) : Int) : Int) - 0).toNat) 0 (by omega) with ⟨a1, a2⟩ | ⟨a1, a2⟩
   ·rw [a1]
    dsimp only
    rcases rV_L1 (g := g) (((((g.Nodes.length : Nat) : Int) : Int) - 0).toNat) 0 (by omega) with ⟨b1, b2⟩ | ⟨b1, b2⟩
    ·rw [b1]
    ·refine absurd (fun k k1 k2 => ⟨fun x hx => ?_, fun x hx => ?_⟩) b2
     ·have hx2 := Asc_mem (h.sa k.toNat (by omega)) hx
      have := (h.mi k.toNat x.toNat (by omega) (by omega)).1 (by rw [show ((x.toNat : Nat) : Int) = x by omega]; exact hx)
      rwa [show ((k.toNat : Nat) : Int) = k by omega] at this
     ·have hx2 := Asc_mem (h.pa k.toNat (by omega)) hx
      have := (h.mi x.toNat k.toNat (by omega) (by omega)).2 (by rw [show ((x.toNat : Nat) : Int) = x by omega]; exact hx)
      rwa [show ((k.toNat : Nat) : Int) = k by omega] at this
   ·refine absurd (fun k k1 k2 => ⟨?_, ?_⟩) a2
    ·have := h.sa k.toNat (by omega); rw [hn]; exact this
    ·have := h.pa k.toNat (by omega); rw [hn]; exact this
  ·omega
 ·omega
theorem rValid_eq (g : GGraph) : r7_ValidGraph g = gh_Valid g := by
 rw [Bool.eq_iff_iff]
 constructor
 ·intro h
  obtain ⟨h1, h2, h3⟩ := rValid_VF h
  exact Valid_of rfl h1.1 h1.2 h2 h3
 ·intro h
  obtain ⟨h1, h2, h3⟩ := gValid_VF h
  exact rValid_of rfl h1.1 h1.2 h2 h3
theorem rVG {g : GGraph} (h : r7_ValidGraph g = true) : VG g := Valid_VG ((rValid_eq g).symm.trans h)
theorem rVt {g : GGraph} {r : Bool} (h : r7_ValidGraph g = r) (hr : (!r) = false) : r7_ValidGraph g = true := h.trans (by cases r; cases hr; rfl)
theorem rVs {g : GGraph} (h : r7_ValidGraph_L0 g (((((g.Nodes.length : Nat) : Int) : Int) - 0).toNat) 0 = .brk ()) {i k : Int} (hi : 0 ≤ i ∧ i < (g.Nodes.length : Int)) (hk : 0 ≤ k ∧ k < ((g.Succ.getD i.toNat []).length : Int)) : 0 ≤ (g.Succ.getD i.toNat []).getD k.toNat 0 ∧ (g.Succ.getD i.toNat []).getD k.toNat 0 < (g.Nodes.length : Int) := by
 rcases rV_L0 (g := g) (((((g.Nodes.length : Nat) : Int) : Int) - 0).toNat) 0 (by omega) with ⟨a1, a2⟩ | ⟨a1, a2⟩
 ·exact Asc_mem (a2 i (by omega) (by omega)).1 (getD_mem (by omega))
 ·rw [a1] at h; cases h
theorem rVp {g : GGraph} (h : r7_ValidGraph_L0 g (((((g.Nodes.length : Nat) : Int) : Int) - 0).toNat) 0 = .brk ()) {i k : Int} (hi : 0 ≤ i ∧ i < (g.Nodes.length : Int)) (hk : 0 ≤ k ∧ k < ((g.Pred.getD i.toNat []).length : Int)) : 0 ≤ (g.Pred.getD i.toNat []).getD k.toNat 0 ∧ (g.Pred.getD i.toNat []).getD k.toNat 0 < (g.Nodes.length : Int) := by
 rcases rV_L0 (g := g) (((((g.Nodes.length : Nat) : Int) : Int) - 0).toNat) 0 (by omega) with ⟨a1, a2⟩ | ⟨a1, a2⟩
 ·exact Asc_mem (a2 i (by omega) (by omega)).2 (getD_mem (by omega))
 ·rw [a1] at h; cases h
theorem Ints_self (a : List Int) : r7_Ints a a = true := by
 have := scan (fun r i => r7_Ints_L0 a a r i) (fun i => a.getD i.toNat 0 != a.getD i.toNat 0) false () (fun _ => rfl) (fun _ _ => rfl) ((((a.length : Nat) : Int) - 0).toNat) 0
 unfold r7_Ints
 rcases this with ⟨e, j, j1, j2, j3⟩ | ⟨e, h⟩
 ·simp at j3
 ·rw [e]; simp
theorem SL_L0 (a : List (List Int)) : ∀ (r : Nat) (i : Int), r7_SameLists_L0 a a r i = .brk ()
 | 0, i => by rw [r7_SameLists_L0]
 | r + 1, i => by rw [r7_SameLists_L0, Ints_self]; exact SL_L0 a r (i + 1)
theorem SL_refl (a : List (List Int)) : r7_SameLists a a = true := by
 unfold r7_SameLists
 rw [show (((a.length : Nat) : Int) != ((a.length : Nat) : Int)) = false by simp, SL_L0]; rfl
theorem SG_L0 (a : GGraph) : ∀ (r : Nat) (i : Int), r7_SameGraph_L0 a a r i = .brk ()
 | 0, i => by rw [r7_SameGraph_L0]
 | r + 1, i => by rw [r7_SameGraph_L0, bne_self_eq_false, cond_false]; exact SG_L0 a r (i + 1)
theorem SG_refl (a : GGraph) : r7_SameGraph a a = true := by
 unfold r7_SameGraph
 rw [show (((a.Nodes.length : Nat) : Int) != ((a.Nodes.length : Nat) : Int)) = false by simp, SL_refl, SL_refl, SG_L0]; rfl
theorem Edges_eq {g : GGraph} {n : Nat} (h : gh_Valid g = true) (hf : VF g.Succ g.Pred n) (hs : esum g.Succ ≤ 1024) : gh_Edges g = ((esum g.Succ : Nat) : Int) := by
 unfold gh_Edges
 rw [h]
 exact count_val (fun k hk => by rw [hf.sl]; exact hf.sa k (by have := hf.sl; omega)) hs
theorem rEdges_eq (g : GGraph) : r7_Edges g = gh_Edges g := by
 cases hv : gh_Valid g
 ·unfold r7_Edges gh_Edges
  rw [rValid_eq, hv]; rfl
 ·obtain ⟨h1, h2, h3⟩ := gValid_VF hv
  rw [Edges_eq hv h2 h3]
  unfold r7_Edges
  rw [rValid_eq, hv]
  dsimp only
  rw [Bool.not_true, cond_false]
  rcases total_s g.Succ with ⟨t1, t2⟩ | ⟨t1, t2⟩
  ·exact t2
  ·omega
theorem R1_true (g : GGraph) (x : Int) : gh_Reach_1 x g = true ↔ ¬ (0 ≤ x ∧ x < (g.Nodes.length : Int)) := by
 unfold gh_Reach_1
 by_cases c : x < 0
 ·rw [decide_eq_true c]; exact ⟨fun _ h => by omega, fun _ => rfl⟩
 ·rw [decide_eq_false c, cond_false, decide_eq_true_iff]; omega
theorem CF_int {s : List Int} {fp : Int → Bool} {r : Bool} (h : sc_ContainsFunc_int s fp = r) (hr : r = false) : ∀ x ∈ s, fp x = false := by
 have := scan' (fun r i => sc_IndexFunc_int_L0 s fp r i) (fun i => fp (s.getD i.toNat 0)) () (fun _ => rfl) (fun _ _ => rfl) ((((s.length : Nat) : Int) - 0).toNat) 0
 unfold sc_ContainsFunc_int sc_IndexFunc_int at h
 subst hr
 rcases this with ⟨j, e, j1, j2, j3⟩ | ⟨e, hh⟩
 ·rw [e] at h; dsimp only at h; have := of_decide_eq_false h; omega
 ·intro x hx
  obtain ⟨j, j1, j2, rfl⟩ := (mem_getDg (d := 0)).1 hx
  exact hh j j1 (by omega)
theorem Reach_f {g : GGraph} {f : List Int} {r : Bool} (h : sc_ContainsFunc_int f (fun x => gh_Reach_1 x g) = r) (hr : r = false) : ∀ x ∈ f, 0 ≤ x ∧ x < (g.Nodes.length : Int) := fun x hx => by
 have := CF_int h hr x hx
 unfold gh_Reach_1 at this
 by_cases c : x < 0
 ·rw [decide_eq_true c] at this; cases this
 ·rw [decide_eq_false c, cond_false] at this; have := of_decide_eq_false this; omega
theorem CF_true (s : List Int) (fp : Int → Bool) : sc_ContainsFunc_int s fp = true ↔ ∃ x ∈ s, fp x = true := by
 have := scan' (fun r i => sc_IndexFunc_int_L0 s fp r i) (fun i => fp (s.getD i.toNat 0)) () (fun _ => rfl) (fun _ _ => rfl) ((((s.length : Nat) : Int) - 0).toNat) 0
 unfold sc_ContainsFunc_int sc_IndexFunc_int
 rcases this with ⟨j, e, j1, j2, j3⟩ | ⟨e, hh⟩
 ·rw [e]
  exact ⟨fun _ => ⟨_, getD_mem (by omega), j3⟩, fun _ => decide_eq_true j1⟩
 ·rw [e]
  refine ⟨fun h => (by cases h), ?_⟩
  rintro ⟨x, hx, hf⟩
  obtain ⟨j, j1, j2, rfl⟩ := (mem_getDg (d := 0)).1 hx
  rw [hh j j1 (by omega)] at hf; cases hf
theorem RI_init {g : GGraph} {f r : List Int} (hg : VG g) (hr : sc_Clone_int f = r) (hf : ∀ x ∈ f, 0 ≤ x ∧ x < (g.Nodes.length : Int)) : RI g f (List.replicate (((g.Nodes.length : Nat) : Int) : Int).toNat false) r [] := hr ▸ RI.init hg hf
theorem Less_eq (x y : Int) : cmp_Less_int x y = decide (x < y) := by unfold cmp_Less_int cmp_isNaN_int; simp
theorem insOrd_eq (l : List Int) : sc_insertionSortOrdered_int l 0 (l.length : Int) = srtK (fun x => x) l := by
 unfold sc_insertionSortOrdered_int
 exact insAll (fun x => x) 0 sc_insertionSortOrdered_int_L1 (sc_insertionSortOrdered_int_L0 0) (fun _ _ => rfl) (fun r l j => by rw [sc_insertionSortOrdered_int_L1]; simp only [Less_eq, Bool.cond_eq_ite, decide_eq_true_eq]) (fun _ _ => rfl) (fun r l i => rfl) l
theorem Sort_eq (l : List Int) : sc_Sort_int l = srtK (fun x => x) l := insOrd_eq l
theorem Sort_pw (l : List Int) (hl : l.length ≤ 65535) : (sc_Sort_int l).Perm l ∧ (sc_Sort_int l).Pairwise (· ≤ ·) := by
 rw [Sort_eq]; exact ⟨srtK_perm _ l, srtK_sorted _ l⟩
theorem Sort_asc {l : List Int} {n : Nat} (h : EdL n l) (hn : n ≤ 20000) : Asc (sc_Sort_int l) (n : Int) ∧ (∀ x, x ∈ sc_Sort_int l ↔ x ∈ l) ∧ (sc_Sort_int l).length = l.length := by
 obtain ⟨k1, k2⟩ := Sort_pw l (by have := EdL_len h; omega)
 have hd : (sc_Sort_int l).Nodup := k1.nodup_iff.2 h.1
 exact ⟨(Asc_iff _ _).2 ⟨(k2.and hd).imp (fun hh => by omega), fun x hx => h.2 x (k1.mem_iff.1 hx)⟩, fun x => k1.mem_iff, k1.length_eq⟩
theorem Clip_eq (s : List Int) : sc_Clip_int s = s := by unfold sc_Clip_int; simp
theorem Reach_t {g : GGraph} {f : List Int} (hg : VG g) : ∀ (r : Nat) (sn : List Bool) (td out : List Int), RI g f sn td out → td.length + pot g.Succ sn g.Nodes.length < r → gh_Reach_L0 g r sn td out ≠ .oof
 | 0, sn, td, out, h, hr => by omega
 | r + 1, sn, td, out, h, hr => by
  rw [gh_Reach_L0]
  by_cases c : (0 : Int) < ((td.length : Nat) : Int)
  ·rw [decide_eq_true c, cond_true]
   have hx := RI_top hg h c
   generalize hxe : td.getD (((td.length : Nat) : Int) - 1).toNat 0 = x at *
   cases hs : sn.getD x.toNat false
   ·rw [Bool.not_false, cond_true]
    refine Reach_t hg r _ _ _ (h.push hg ⟨hx.1, hx.2.1⟩ (by omega) hs) ?_
    have h2 := pot_set (S := g.Succ) (sn := sn) (k := x.toNat) (by have := h.sl; omega) hs g.Nodes.length (by omega)
    simp only [List.length_append, List.drop_zero, List.length_take]
    omega
   ·rw [Bool.not_true, cond_false]
    refine Reach_t hg r _ _ _ h.pop ?_
    simp only [List.drop_zero, List.length_take]
    omega
  ·rw [decide_eq_false c]; intro e; cases e
theorem Reach_t0 {g : GGraph} {f r : List Int} (hg : VG g) (hr : sc_Clone_int f = r) (hf : ∀ x ∈ f, 0 ≤ x ∧ x < (g.Nodes.length : Int)) : gh_Reach_L0 g (f.length + (g.Succ.map List.length).sum + 1) (List.replicate (((g.Nodes.length : Nat) : Int) : Int).toNat false) r [] ≠ .oof := by
 subst hr
 refine Reach_t (f := f) hg _ _ _ _ (RI.init hg hf) ?_
 have := pot_sum g.Succ (List.replicate (((g.Nodes.length : Nat) : Int) : Int).toNat false) g.Nodes.length (by rw [hg.sl]; exact Nat.le_refl _)
 rw [← hg.sl, List.take_length, hg.sl] at this
 show f.length + _ < _
 omega
theorem Reach_L0c {g : GGraph} {f : List Int} (hg : VG g) : ∀ (r : Nat) (sn : List Bool) (td out : List Int), RI g f sn td out → td.length + pot g.Succ sn g.Nodes.length < r →
  (∀ x ∈ out, ∀ y ∈ g.Succ.getD x.toNat [], y ∈ out ∨ y ∈ td) → (∀ x ∈ f, x ∈ out ∨ x ∈ td) → (∀ x, x ∈ out ∨ x ∈ td → Rc g.Succ f x) →
  ∃ o, gh_Reach_L0 g r sn td out = .brk o ∧ EdL g.Nodes.length o ∧ (∀ x ∈ o, ∀ y ∈ g.Succ.getD x.toNat [], y ∈ o) ∧ (∀ x ∈ f, x ∈ o) ∧ ∀ x ∈ o, Rc g.Succ f x
 | 0, sn, td, out, h, hr, _, _, _ => by omega
 | r + 1, sn, td, out, h, hr, h1, h2, h3 => by
  rw [gh_Reach_L0]
  by_cases c : (0 : Int) < ((td.length : Nat) : Int)
  ·rw [decide_eq_true c, cond_true]
   have hx := RI_top hg h c
   have hla := last_or c
   have hxm : td.getD (((td.length : Nat) : Int) - 1).toNat 0 ∈ td := getD_mem (by omega)
   have htk : ∀ y, y ∈ ((td.take (((((td.length : Nat) : Int) - 1) : Int).toNat)).drop 0) → y ∈ td := fun y hy => List.mem_of_mem_take (by simpa using hy)
   generalize hxe : td.getD (((td.length : Nat) : Int) - 1).toNat 0 = x at *
   cases hs : sn.getD x.toNat false
   ·rw [Bool.not_false, cond_true]
    refine Reach_L0c hg r _ _ _ (h.push hg ⟨hx.1, hx.2.1⟩ (by omega) hs) ?_ (fun z hz y hy => ?_) (fun z hz => ?_) (fun z hz => ?_)
    ·have h2 := pot_set (S := g.Succ) (sn := sn) (k := x.toNat) (by have := h.sl; omega) hs g.Nodes.length (by omega)
     simp only [List.length_append, List.drop_zero, List.length_take]
     omega
    ·rw [List.mem_append, List.mem_append]
     rcases List.mem_append.1 hz with hz | hz
     ·rcases h1 z hz y hy with hh | hh
      ·exact .inl (.inl hh)
      ·rcases hla y hh with hh | hh
       ·exact .inr (.inl hh)
       ·exact .inl (.inr (List.mem_singleton.2 hh))
     ·rw [List.mem_singleton] at hz; subst hz
      exact .inr (.inr hy)
    ·rw [List.mem_append, List.mem_append]
     rcases h2 z hz with hh | hh
     ·exact .inl (.inl hh)
     ·rcases hla z hh with hh | hh
      ·exact .inr (.inl hh)
      ·exact .inl (.inr (List.mem_singleton.2 hh))
    ·rcases hz with hz | hz
     ·rcases List.mem_append.1 hz with hz | hz
      ·exact h3 z (.inl hz)
      ·rw [List.mem_singleton] at hz; rw [hz]; exact h3 x (.inr hxm)
     ·rcases List.mem_append.1 hz with hz | hz
      ·exact h3 z (.inr (htk z hz))
      ·exact .step (h3 x (.inr hxm)) hz
   ·rw [Bool.not_true, cond_false]
    have hxo : x ∈ out := (h.so x hx.1 hx.2.1).1 hs
    have hmv : ∀ y, y ∈ td → y ∈ out ∨ y ∈ ((td.take (((((td.length : Nat) : Int) - 1) : Int).toNat)).drop 0) := fun y hy => by
     rcases hla y hy with hh | hh
     ·exact .inr hh
     ·rw [hh]; exact .inl hxo
    refine Reach_L0c hg r _ _ _ h.pop ?_ (fun z hz y hy => ?_) (fun z hz => ?_) (fun z hz => ?_)
    ·simp only [List.drop_zero, List.length_take]
     omega
    ·rcases h1 z hz y hy with hh | hh
     ·exact .inl hh
     ·exact hmv y hh
    ·rcases h2 z hz with hh | hh
     ·exact .inl hh
     ·exact hmv z hh
    ·rcases hz with hz | hz
     ·exact h3 z (.inl hz)
     ·exact h3 z (.inr (htk z hz))
  ·rw [decide_eq_false c, cond_false]
   have ht : td = [] := List.length_eq_zero_iff.1 (by omega)
   subst ht
   refine ⟨out, rfl, ⟨h.on, h.oi⟩, fun x hx y hy => (h1 x hx y hy).resolve_right (fun hh => by cases hh), fun x hx => (h2 x hx).resolve_right (fun hh => by cases hh), fun x hx => h3 x (.inl hx)⟩
theorem Reach_spec {g : GGraph} {f : List Int} (hv : gh_Valid g = true) (hf : Inr g f) : Asc (gh_Reach g f) (g.Nodes.length : Int) ∧ ∀ x, x ∈ gh_Reach g f ↔ Rc g.Succ f x := by
 have hg := Valid_VG hv
 have hcf : sc_ContainsFunc_int f (fun x => gh_Reach_1 x g) = false := by
  rw [Bool.eq_false_iff]
  intro h
  obtain ⟨x, hx, h1⟩ := (CF_true _ _).1 h
  exact (R1_true g x).1 h1 (hf x hx)
 obtain ⟨o, e, e1, e2, e3, e4⟩ := Reach_L0c hg (f.length + (g.Succ.map List.length).sum + 1) (List.replicate (((g.Nodes.length : Nat) : Int) : Int).toNat false) f [] (RI.init hg hf) (by
  have := pot_sum g.Succ (List.replicate (((g.Nodes.length : Nat) : Int) : Int).toNat false) g.Nodes.length (by rw [hg.sl]; exact Nat.le_refl _)
  rw [← hg.sl, List.take_length, hg.sl] at this
  omega) (fun x hx => by cases hx) (fun x hx => .inr hx) (fun x hx => hx.elim (fun h => by cases h) .base)
 have hs := Sort_asc e1 (by have := hg.n1; omega)
 unfold gh_Reach
 rw [hv]
 dsimp only
 rw [hcf, show sc_Clone_int f = f from rfl, e]
 simp only [Bool.not_true, cond_false]
 rw [Clip_eq]
 refine ⟨hs.1, fun x => (hs.2.1 x).trans ⟨e4 x, fun h => ?_⟩⟩
 induction h with
 | base h => exact e3 _ h
 | step h hy ih => exact e2 _ ih _ hy
theorem Reach_no {g : GGraph} {f : List Int} (h : gh_Valid g = false ∨ ¬ Inr g f) : gh_Reach g f = [] := by
 unfold gh_Reach
 dsimp only
 cases hv : gh_Valid g
 ·rfl
 ·rw [Bool.not_true, cond_false]
  have hcf : sc_ContainsFunc_int f (fun x => gh_Reach_1 x g) = true := by
   rw [CF_true]
   refine Classical.byContradiction fun hn => (h.resolve_left (by rw [hv]; decide)) fun x hx => ?_
   refine Classical.byContradiction fun h2 => hn ⟨x, hx, (R1_true g x).2 h2⟩
  rw [hcf]; rfl
theorem rR_L0 {g : GGraph} {f : List Int} : ∀ (r i : Nat) (out : List Int), i + r = f.length → Asc out (g.Nodes.length : Int) →
  ((∀ y ∈ f.drop i, 0 ≤ y ∧ y < (g.Nodes.length : Int)) ∧ ∃ o, r7_Reach_L0 g f r out (i : Int) = .brk o ∧ Asc o (g.Nodes.length : Int) ∧ ∀ y, y ∈ o ↔ y ∈ out ∨ y ∈ f.drop i) ∨ (¬ (∀ y ∈ f.drop i, 0 ≤ y ∧ y < (g.Nodes.length : Int)) ∧ r7_Reach_L0 g f r out (i : Int) = .ret [])
 | 0, i, out, h, ha => by
  rw [r7_Reach_L0, List.drop_of_length_le (by omega)]
  exact .inl ⟨fun y hy => (by cases hy), out, rfl, ha, fun y => ⟨.inl, fun hh => hh.resolve_right (fun h => by cases h)⟩⟩
 | r + 1, i, out, h, ha => by
  rw [r7_Reach_L0, Int.toNat_natCast, dropc (by omega)]
  by_cases c1 : f.getD i 0 < 0
  ·rw [decide_eq_true c1]
   exact .inr ⟨fun hh => by have := hh _ List.mem_cons_self; omega, rfl⟩
  rw [decide_eq_false c1, cond_false]
  by_cases c2 : ((g.Nodes.length : Nat) : Int) ≤ f.getD i 0
  ·rw [decide_eq_true c2]
   exact .inr ⟨fun hh => by have := hh _ List.mem_cons_self; omega, rfl⟩
  rw [decide_eq_false c2, cond_false]
  have hI := Insert_spec ha (x := f.getD i 0) (by omega)
  rcases rR_L0 (g := g) (f := f) r (i + 1) (r7_Insert out (f.getD i 0)) (by omega) hI.1 with ⟨a1, o, a2, a3, a4⟩ | ⟨a1, a2⟩
  ·refine .inl ⟨fun y hy => ?_, o, a2, a3, fun y => ?_⟩
   ·rcases List.mem_cons.1 hy with hy | hy
    ·rw [hy]; omega
    ·exact a1 y hy
   ·rw [a4, hI.2, List.mem_cons]
    constructor
    ·rintro ((h | h) | h)
     ·exact .inr (.inl h)
     ·exact .inl h
     ·exact .inr (.inr h)
    ·rintro (h | h | h)
     ·exact .inl (.inr h)
     ·exact .inl (.inl h)
     ·exact .inr h
  ·exact .inr ⟨fun hh => a1 fun y hy => hh y (List.mem_cons_of_mem _ hy), a2⟩
theorem rR_L3 {n : Int} {s : List Int} (hs : ∀ y ∈ s, 0 ≤ y ∧ y < n) : ∀ (r i : Nat) (out : List Int), i + r = s.length → Asc out n → Asc (r7_Reach_L3 s r out (i : Int)) n ∧ ∀ y, y ∈ r7_Reach_L3 s r out (i : Int) ↔ y ∈ out ∨ y ∈ s.drop i
 | 0, i, out, h, ha => by
  rw [r7_Reach_L3, List.drop_of_length_le (by omega)]
  exact ⟨ha, fun y => ⟨.inl, fun hh => hh.resolve_right (fun h => by cases h)⟩⟩
 | r + 1, i, out, h, ha => by
  rw [r7_Reach_L3, Int.toNat_natCast, dropc (by omega)]
  have hI := Insert_spec ha (hs _ (getD_mem (xs := s) (i := i) (d := 0) (by omega)))
  obtain ⟨a1, a2⟩ := rR_L3 hs r (i + 1) (r7_Insert out (s.getD i 0)) (by omega) hI.1
  refine ⟨a1, fun y => (a2 y).trans ?_⟩
  rw [hI.2, List.mem_cons]
  constructor
  ·rintro ((h | h) | h)
   ·exact .inr (.inl h)
   ·exact .inl h
   ·exact .inr (.inr h)
  ·rintro (h | h | h)
   ·exact .inl (.inr h)
   ·exact .inl (.inl h)
   ·exact .inr h
theorem rR_L2 {g : GGraph} (hg : VG g) {now : List Int} (hnow : Inr g now) : ∀ (r i : Nat) (out : List Int), i + r = now.length → Asc out (g.Nodes.length : Int) → Asc (r7_Reach_L2 g now r out (i : Int)) (g.Nodes.length : Int) ∧ ∀ y, y ∈ r7_Reach_L2 g now r out (i : Int) ↔ y ∈ out ∨ ∃ x ∈ now.drop i, y ∈ g.Succ.getD x.toNat []
 | 0, i, out, h, ha => by
  rw [r7_Reach_L2, List.drop_of_length_le (by omega)]
  exact ⟨ha, fun y => ⟨.inl, fun hh => hh.resolve_right (fun ⟨x, hx, _⟩ => by cases hx)⟩⟩
 | r + 1, i, out, h, ha => by
  rw [r7_Reach_L2, Int.toNat_natCast, dropc (by omega)]
  have hx := hnow _ (getD_mem (xs := now) (i := i) (d := 0) (by omega))
  generalize now.getD i 0 = x at *
  obtain ⟨b1, b2⟩ := rR_L3 (n := (g.Nodes.length : Int)) (s := g.Succ.getD x.toNat []) (fun y hy => Asc_mem (hg.sa x hx.1 hx.2) hy) ((((((g.Succ.getD x.toNat []).length : Nat) : Int) : Int) - 0).toNat) 0 out (by omega) ha
  obtain ⟨a1, a2⟩ := rR_L2 hg hnow r (i + 1) _ (by omega) b1
  refine ⟨a1, fun y => (a2 y).trans ?_⟩
  rw [b2]
  simp only [List.mem_cons, List.drop_zero]
  constructor
  ·rintro ((h | h) | ⟨z, hz, h⟩)
   ·exact .inl h
   ·exact .inr ⟨x, .inl rfl, h⟩
   ·exact .inr ⟨z, .inr hz, h⟩
  ·rintro (h | ⟨z, hz | hz, h⟩)
   ·exact .inl (.inl h)
   ·subst hz; exact .inl (.inr h)
   ·exact .inr ⟨z, hz, h⟩
theorem rR_L1 {g : GGraph} {f : List Int} (hg : VG g) : ∀ (r : Nat) (out : List Int) (size : Int), Asc out (g.Nodes.length : Int) → (∀ x ∈ out, Rc g.Succ f x) → (∀ x ∈ f, x ∈ out) →
  (size = (out.length : Int) → ∀ x ∈ out, ∀ y ∈ g.Succ.getD x.toNat [], y ∈ out) → (g.Nodes.length + 2 ≤ r + out.length ∨ (size = (out.length : Int) ∧ 1 ≤ r)) →
  ∃ o, r7_Reach_L1 g r out size = .brk o ∧ Asc o (g.Nodes.length : Int) ∧ ∀ x, x ∈ o ↔ Rc g.Succ f x
 | 0, out, size, ha, h1, h2, h3, hr => by
  have h4 := hg.n1
  have h5 : (out.length : Int) ≤ (g.Nodes.length : Int) := by
   rcases Asc_len ha with h | h
   ·exact h
   ·rw [h]; simp
  omega
 | r + 1, out, size, ha, h1, h2, h3, hr => by
  rw [r7_Reach_L1]
  cases c : size != ((out.length : Nat) : Int)
  ·rw [cond_false]
   refine ⟨out, rfl, ha, fun x => ⟨h1 x, fun h => ?_⟩⟩
   have h3' := h3 (by simpa using c)
   induction h with
   | base h => exact h2 _ h
   | step h hy ih => exact h3' _ ih _ hy
  ·have cne : size ≠ (out.length : Int) := by simpa using c
   have h5 : (out.length : Int) ≤ (g.Nodes.length : Int) := by
    rcases Asc_len ha with h | h
    ·exact h
    ·rw [h]; simp
   obtain ⟨b1, b2⟩ := rR_L2 hg (now := out) (fun x hx => Asc_mem ha hx) (((((out.length : Nat) : Int) : Int) - 0).toNat) 0 out (by omega) ha
   rw [cond_true]
   rw [show ((0 : Nat) : Int) = 0 from rfl] at b1 b2
   generalize r7_Reach_L2 g out (((((out.length : Nat) : Int) : Int) - 0).toNat) out 0 = o2 at *
   have hsub : ∀ x ∈ out, x ∈ o2 := fun x hx => (b2 x).2 (.inl hx)
   have hle : out.length ≤ o2.length := by
    rcases Nat.lt_or_ge o2.length out.length with hlt | hge
    ·have hb : ∀ x ∈ o2, x ∈ out := nd_sub ha b1 hsub (by omega)
     have : out = o2 := Asc_ext ha b1 fun x => ⟨hsub x, hb x⟩
     rw [this]; exact Nat.le_refl _
    ·exact hge
   have hcl : o2.length = out.length → out = o2 := fun e => Asc_ext ha b1 fun x => ⟨hsub x, nd_sub ha b1 hsub (by omega) x⟩
   refine rR_L1 hg r o2 ((out.length : Nat) : Int) b1 (fun x hx => ?_) (fun x hx => hsub x (h2 x hx)) (fun e x hx y hy => ?_) ?_
   ·rcases (b2 x).1 hx with hx | ⟨z, hz, hx⟩
    ·exact h1 x hx
    ·exact .step (h1 z (by simpa using hz)) hx
   ·have e2 := hcl (by omega)
    refine (b2 y).2 (.inr ⟨x, ?_, hy⟩)
    rw [List.drop_zero, e2]; exact hx
   ·have := hg.n1
    omega
theorem rRt {g : GGraph} {f o : List Int} (hv : r7_ValidGraph g = true) (h : r7_Reach_L0 g f (((((f.length : Nat) : Int) : Int) - 0).toNat) [] 0 = .brk o) : r7_Reach_L1 g (g.Nodes.length + 2) o (-1) ≠ .oof := by
 have hn : Asc [] (g.Nodes.length : Int) := fun k h1 h2 => by simp at h2; omega
 rcases rR_L0 (g := g) (f := f) f.length 0 [] (by omega) hn with ⟨a1, o', a2, a3, a4⟩ | ⟨a1, a2⟩
 ·rw [show (((((f.length : Nat) : Int) : Int) - 0).toNat) = f.length by omega] at h
  rw [show ((0 : Nat) : Int) = 0 from rfl] at a2
  rw [a2] at h
  injection h with h; subst h
  obtain ⟨z, e, -⟩ := rR_L1 (f := f) (rVG hv) (g.Nodes.length + 2) o' (-1) a3 (fun x hx => .base (by have := (a4 x).1 hx; simpa using this)) (fun x hx => (a4 x).2 (.inr (by simpa using hx))) (fun e => by omega) (.inl (by omega))
  rw [e]; exact fun h => by cases h
 ·rw [show (((((f.length : Nat) : Int) : Int) - 0).toNat) = f.length by omega] at h
  rw [show ((0 : Nat) : Int) = 0 from rfl] at a2
  rw [a2] at h; cases h
theorem rReach_eq (g : GGraph) (f : List Int) : r7_Reach g f = gh_Reach g f := by
 cases hv : gh_Valid g
 ·rw [Reach_no (.inl hv)]
  unfold r7_Reach
  rw [rValid_eq, hv]; rfl
 ·have hn : Asc [] (g.Nodes.length : Int) := fun k h1 h2 => by simp at h2; omega
  unfold r7_Reach
  rw [rValid_eq, hv]
  dsimp only
  rw [Bool.not_true, cond_false, show (((((f.length : Nat) : Int) : Int) - 0).toNat) = f.length by omega]
  rcases rR_L0 (g := g) (f := f) f.length 0 [] (by omega) hn with ⟨a1, o', a2, a3, a4⟩ | ⟨a1, a2⟩
  ·rw [show ((0 : Nat) : Int) = 0 from rfl] at a2
   obtain ⟨z, e, e1, e2⟩ := rR_L1 (f := f) (Valid_VG hv) (g.Nodes.length + 2) o' (-1) a3 (fun x hx => .base (by have := (a4 x).1 hx; simpa using this)) (fun x hx => (a4 x).2 (.inr (by simpa using hx))) (fun e => by omega) (.inl (by omega))
   rw [a2]
   dsimp only
   rw [e]
   obtain ⟨s1, s2⟩ := Reach_spec hv (f := f) (by rw [List.drop_zero] at a1; exact a1)
   exact Asc_ext e1 s1 fun x => (e2 x).trans (s2 x).symm
  ·rw [show ((0 : Nat) : Int) = 0 from rfl] at a2
   have a1' : ¬ Inr g f := fun hh => a1 (by rw [List.drop_zero]; exact hh)
   rw [a2, Reach_no (.inr a1')]
theorem reads_true (g : GGraph) (f : List Int) : w8_reads g f = true := by
 unfold w8_reads
 rw [rValid_eq, rEdges_eq, rReach_eq]
 cases hv : gh_Valid g
 ·have : gh_Reverse g = (GGraph.mk [] [] [], 1) := by unfold gh_Reverse; rw [hv]; rfl
  rw [this]
  dsimp only
  rw [Ints_self]
  simp
 ·rw [Rev_eq hv]
  dsimp only
  rw [Ints_self, SG_refl]
  simp
theorem SpG_len {t : List Int} {i : Int} {g : GGraph} {r : GGraph × Int} (h : tp_SpoilGraph t i g = r) : r.1.Nodes.length ≤ g.Nodes.length := by
 rw [← h]
 unfold tp_SpoilGraph
 dsimp only
 generalize (tp_Next t (tp_Next t i ((g.Nodes.length : Nat) : Int)).2 4).1 = x
 cases x == 0
 ·rw [cond_false]
  cases x == 1
  ·rw [cond_false]
   cases x == 2
   ·exact Nat.le_refl _
   ·simp
  ·exact Nat.le_refl _
 ·exact Nat.le_refl _
theorem Scan1_term (text : Str) (c : Int) : ∀ (r : Nat) (col i : Int), (0 ≤ i ∧ i ≤ (text.b.length : Int)) ∧ (text.b.length : Int) - i < (r : Int) → r4_Scan_L1 text c r col i ≠ LR.oof ∧ ∀ o j, r4_Scan_L1 text c r col i = .brk (o, j) → i ≤ j ∧ j ≤ (text.b.length : Int) ∧ j - i = o - col
 | 0, col, i, h => by omega
 | r + 1, col, i, h => by
  rw [r4_Scan_L1]
  simp only [Bool.cond_eq_ite, decide_eq_true_eq]
  have ih := fun (hi : i < (text.b.length : Int)) => Scan1_term text c r (col + 1) (i + 1) (by omega)
  have stop : (LR.brk (col, i) : LR (Int × Int) (List GToken × Int × Int × Int)) ≠ LR.oof ∧ ∀ o j, (LR.brk (col, i) : LR (Int × Int) (List GToken × Int × Int × Int)) = .brk (o, j) → i ≤ j ∧ j ≤ (text.b.length : Int) ∧ j - i = o - col := ⟨fun h => (by cases h), fun o j h => by cases h; omega⟩
  repeat' split
  all_goals first
   | exact stop
   | (have h3 := ih (by assumption); exact ⟨h3.1, fun o j h => by have := h3.2 o j h; omega⟩)
theorem Scan2_term (text : Str) (i : Int) : ∀ (r : Nat) (n : Int), (0 ≤ i + n ∧ i + n ≤ (text.b.length : Int)) ∧ (text.b.length : Int) - (i + n) < (r : Int) → r4_Scan_L2 text i r n ≠ LR.oof ∧ ∀ o, r4_Scan_L2 text i r n = .brk o → n ≤ o ∧ i + o ≤ (text.b.length : Int)
 | 0, n, h => by omega
 | r + 1, n, h => by
  rw [r4_Scan_L2]
  simp only [Bool.cond_eq_ite, decide_eq_true_eq]
  have ih := fun (hi : i + n < (text.b.length : Int)) => Scan2_term text i r (n + 1) (by omega)
  have stop : (LR.brk n : LR Int (List GToken × Int × Int × Int)) ≠ LR.oof ∧ ∀ o, (LR.brk n : LR Int (List GToken × Int × Int × Int)) = .brk o → n ≤ o ∧ i + o ≤ (text.b.length : Int) := ⟨fun h => (by cases h), fun o h => by cases h; omega⟩
  repeat' split
  all_goals first
   | exact stop
   | (have h3 := ih (by assumption); exact ⟨h3.1, fun o h => by have := h3.2 o h; omega⟩)
theorem Scan1_hash {text : Str} {c : Int} {r : Nat} {col i o j : Int} (h0 : 0 ≤ i ∧ i < (text.b.length : Int)) (hc : c = 35) (ht : ((text.b.getD i.toNat 0).toNat : Int) = 35) (hr : (text.b.length : Int) < (r : Int)) (h : r4_Scan_L1 text c r col i = .brk (o, j)) : i + 1 ≤ j ∧ j ≤ (text.b.length : Int) := by
 obtain ⟨q, rfl⟩ : ∃ q, r = q + 1 := ⟨r - 1, by omega⟩
 subst hc
 rw [r4_Scan_L1] at h
 simp only [beq_self_eq_true, cond_true, decide_eq_true h0.2, ht, show ((35 : Int) != 10) = true from rfl] at h
 have := (Scan1_term text 35 q (col + 1) (i + 1) (by omega)).2 o j h
 omega
theorem Scan1_ne {text : Str} {c : Int} {r : Nat} {col i o j : Int} (hc : c ≠ 35) (hr : 1 ≤ r) (h : r4_Scan_L1 text c r col i = .brk (o, j)) : o = col ∧ j = i := by
 obtain ⟨q, rfl⟩ : ∃ q, r = q + 1 := ⟨r - 1, by omega⟩
 rw [r4_Scan_L1] at h
 have e : (c == 35) = false := by simp [hc]
 simp only [e, cond_false] at h
 cases h; exact ⟨rfl, rfl⟩
theorem Scan2_word {text : Str} {r : Nat} {i o : Int} (h0 : 0 ≤ i ∧ i < (text.b.length : Int)) (hl : r4_letter ((text.b.getD i.toNat 0).toNat : Int) = true) (hr : (text.b.length : Int) < (r : Int)) (h : r4_Scan_L2 text i r 0 = .brk o) : 1 ≤ o ∧ i + o ≤ (text.b.length : Int) := by
 obtain ⟨q, rfl⟩ : ∃ q, r = q + 1 := ⟨r - 1, by omega⟩
 rw [r4_Scan_L2] at h
 simp only [Int.add_zero, decide_eq_true h0.2, hl, cond_true] at h
 exact (Scan2_term text i q 1 (by omega)).2 o h
theorem Scan1_ret (text : Str) (c : Int) : ∀ (r : Nat) (col i : Int) (x : List GToken × Int × Int × Int), r4_Scan_L1 text c r col i ≠ LR.ret x
 | 0, col, i, x => fun h => by cases h
 | r + 1, col, i, x => by
  rw [r4_Scan_L1]
  simp only [Bool.cond_eq_ite]
  repeat' split
  all_goals first | (intro h; cases h; done) | exact Scan1_ret text c r _ _ _
theorem Scan2_ret (text : Str) (i : Int) : ∀ (r : Nat) (n : Int) (x : List GToken × Int × Int × Int), r4_Scan_L2 text i r n ≠ LR.ret x
 | 0, n, x => fun h => by cases h
 | r + 1, n, x => by
  rw [r4_Scan_L2]
  simp only [Bool.cond_eq_ite]
  repeat' split
  all_goals first | (intro h; cases h; done) | exact Scan2_ret text i r _ _
theorem Scan_term (text : Str) : ∀ (r : Nat) (out : List GToken) (line col : Int) (op : Bool) (i : Int), (0 ≤ i ∧ i ≤ (text.b.length : Int)) ∧ (text.b.length : Int) - i < (r : Int) → r4_Scan_L0 text r out line col op i ≠ LR.oof
 | 0, out, line, col, op, i, h => by omega
 | r + 1, out, line, col, op, i, h => by
  rw [r4_Scan_L0]
  by_cases hi : i < (text.b.length : Int)
  ·have t1 := fun c col => Scan1_term text c (text.b.length + 1) col i (by omega)
   have t2 := Scan2_term text i (text.b.length + 1) 0 (by omega)
   have ih := fun out line col op j (hj : i + 1 ≤ j ∧ j ≤ (text.b.length : Int)) => Scan_term text r out line col op j (by omega)
   simp only [decide_eq_true hi, cond_true]
   simp only [Bool.cond_eq_ite, beq_iff_eq, decide_eq_true_eq, bne_iff_ne]
   refine iteInduction (motive := fun x => x ≠ LR.oof) (fun _ => ih _ _ _ _ _ (by omega)) fun _ => ?_
   refine iteInduction (motive := fun x => x ≠ LR.oof) (fun _ => ih _ _ _ _ _ (by omega)) fun _ => ?_
   repeat' split
   all_goals first
    | (intro h; cases h; done)
    | exact ih _ _ _ _ _ (by omega)
    | (rename_i e; exact absurd e (t1 _ _).1)
    | (rename_i e; exact absurd e t2.1)
    | (rename_i e; exact absurd e (Scan1_ret _ _ _ _ _ _))
    | (rename_i e; exact absurd e (Scan2_ret _ _ _ _ _))
    | (have h1 := (t1 _ _).2 _ _ (by assumption); exact ih _ _ _ _ _ (by omega))
    | (exfalso; have e1 := Scan1_ne (text := text) (c := ((text.b.getD i.toNat 0).toNat : Int)) (r := text.b.length + 1) (col := col) (i := i) (by omega) (by omega) (by assumption); obtain ⟨rfl, rfl⟩ := e1; omega)
    | (have e1 := Scan1_ne (text := text) (c := ((text.b.getD i.toNat 0).toNat : Int)) (r := text.b.length + 1) (col := col) (i := i) (by omega) (by omega) (by assumption); obtain ⟨rfl, rfl⟩ := e1; exact ih _ _ _ _ _ (by omega))
    | (have h1 := Scan1_hash (text := text) (c := ((text.b.getD i.toNat 0).toNat : Int)) (r := text.b.length + 1) (col := col) (i := i) ⟨h.1.1, hi⟩ (by assumption) (by assumption) (by omega) (by assumption); exact ih _ _ _ _ _ (by omega))
    | (have h1 := Scan2_word (text := text) (r := text.b.length + 1) (i := i) ⟨h.1.1, hi⟩ (by assumption) (by omega) (by assumption); exact ih _ _ _ _ _ (by omega))
  ·simp only [decide_eq_false hi, cond_false]
   intro h; cases h
theorem is_lt {p : Gparser} {w : Str} (h : pz_is p w = true) : p.at_ < (p.l.length : Int) := by
 unfold pz_is at h
 simp only [Bool.cond_eq_ite] at h
 repeat' split at h
 all_goals first | (have := of_decide_eq_true (by assumption : decide (p.at_ < (p.l.length : Int)) = true); omega) | (cases h)
theorem is_lt2 {p : Gparser} {w : Str} {r : Bool} (e : pz_is p w = r) (h : r = true) : p.at_ < (p.l.length : Int) := is_lt (e.trans h)
theorem fail_at (p : Gparser) (e : Int) : (pz_fail p e).at_ = p.at_ := by
 unfold pz_fail
 simp only [Bool.cond_eq_ite]
 split <;> rfl
theorem adv_fail {n a : Int} {p : Gparser} {e : Int} (h : Adv n a p.at_) : Adv n a (pz_fail p e).at_ := by rw [fail_at]; exact h
theorem adv_word {n a : Int} {p : Gparser} {w : Str} (hl : (p.l.length : Int) = n) (h : Adv n a p.at_) : Adv n a (pz_word p w).at_ := by
 unfold pz_word
 cases e : pz_is p w with
 | true => have := is_lt e; simp only [Bool.not_true, cond_false]; exact ⟨by have := h.1; omega, by omega⟩
 | false => simp only [Bool.not_false, cond_true, fail_at]; exact h
theorem isName_lt {p : Gparser} (h : pz_isName p = true) : p.at_ < (p.l.length : Int) := by
 unfold pz_isName at h
 simp only [Bool.cond_eq_ite] at h
 repeat' split at h
 all_goals first | (cases h; done) | (rename_i h1 _; exact of_decide_eq_true h1) | skip
 all_goals first | (have := of_decide_eq_true (by assumption : decide (p.at_ < (p.l.length : Int)) = true); omega) | (cases h)
theorem isName_lt2 {p : Gparser} {r : Bool} (e : pz_isName p = r) (h : r = true) : p.at_ < (p.l.length : Int) := isName_lt (e.trans h)
theorem name_at {p : Gparser} (h : pz_isName p = true) : (pz_name p).2 = Gparser.mk p.l (p.at_ + 1) p.Err := by
 unfold pz_name
 simp only [h, Bool.not_true, cond_false]
theorem name_no {p : Gparser} (h : pz_isName p = false) : (pz_name p).2.at_ = p.at_ := by
 unfold pz_name
 simp only [h, Bool.not_false, cond_true, fail_at]
theorem adv_name {n a : Int} {p : Gparser} (hl : (p.l.length : Int) = n) (h : Adv n a p.at_) : Adv n a (pz_name p).2.at_ := by
 cases e : pz_isName p with
 | true => have := isName_lt e; rw [name_at e]; exact ⟨by have := h.1; dsimp only; omega, by dsimp only; omega⟩
 | false => rw [name_no e]; exact h
theorem isKind_lt {p : Gparser} {k : Int} (h : pz_isKind p k = true) : p.at_ < (p.l.length : Int) := by
 unfold pz_isKind at h
 simp only [Bool.cond_eq_ite] at h
 repeat' split at h
 all_goals first | (have := of_decide_eq_true (by assumption : decide (p.at_ < (p.l.length : Int)) = true); omega) | (cases h)
theorem isKind_lt2 {p : Gparser} {k : Int} {r : Bool} (e : pz_isKind p k = r) (h : r = true) : p.at_ < (p.l.length : Int) := isKind_lt (e.trans h)
theorem adv_kind {n a x e k : Int} {l : List GToken} (hl : (l.length : Int) = n) (hk : ¬ (!pz_isKind (Gparser.mk l x e) k) = true) (h : Adv n a x) : Adv n a (x + 1) := by
 have : pz_isKind (Gparser.mk l x e) k = true := by simpa using hk
 have := isKind_lt this
 dsimp only at this
 exact ⟨by have := h.1; omega, by omega⟩
theorem adv_end {n a : Int} {p : Gparser} (hl : (p.l.length : Int) = n) (h : Adv n a p.at_) : Adv n a (pz_end p).at_ := by
 unfold pz_end
 cases e : pz_isKind p 3 with
 | true => have := isKind_lt e; simp only [Bool.not_true, cond_false]; exact ⟨by have := h.1; omega, by omega⟩
 | false => simp only [Bool.not_false, cond_true, fail_at]; exact h
theorem begins_lt {p : Gparser} (h : pz_begins p = true) : p.at_ < (p.l.length : Int) := by
 have key : ∀ (m : Nat) (i : Int), pz_begins_L0 p m i = .ret true → p.at_ < (p.l.length : Int) := fun m => by
  induction m with
  | zero => intro i h; cases h
  | succ m ih =>
   intro i h
   rw [pz_begins_L0] at h
   simp only [Bool.cond_eq_ite] at h
   split at h
   ·exact is_lt (by assumption)
   ·exact ih _ h
 unfold pz_begins at h
 split at h
 ·exact isName_lt h
 ·rename_i r e
  subst h
  exact key _ _ e
 ·cases h
theorem more_L0_adv {p : Gparser} {hv : Int} : ∀ (r : Nat) (p1 p2 : Int) (out : List Str), (0 ≤ p1 ∧ p1 ≤ (p.l.length : Int)) ∧ (p.l.length : Int) - p1 < (r : Int) → pz_more_L0 p hv r p1 p2 out ≠ LR.oof ∧ (∀ a b o, pz_more_L0 p hv r p1 p2 out = .brk (a, b, o) → Adv p.l.length p1 a) ∧ (∀ x, pz_more_L0 p hv r p1 p2 out = .ret x → Adv p.l.length p1 x.2.at_)
 | 0, p1, p2, out, h => by omega
 | r + 1, p1, p2, out, h => by
  rw [pz_more_L0]
  cases e : pz_isName (Gparser.mk p.l p1 p2) with
  | false => exact ⟨fun h => (by cases h), fun a b o h' => (by cases h'; exact ⟨Int.le_refl _, h.1.2⟩), fun x h => (by cases h)⟩
  | true =>
   have hlt := isName_lt e
   dsimp only at hlt
   simp only [cond_true, name_at e]
   have ih := fun o => more_L0_adv (p := p) (hv := hv) r (p1 + 1) p2 o (by omega)
   simp only [Bool.cond_eq_ite]
   split
   ·refine ⟨fun h => (by cases h), fun a b o h => (by cases h), fun x h' => ?_⟩
    cases h'
    rw [fail_at]; exact ⟨Int.le_refl _, h.1.2⟩
   ·have k := ih (out ++ [(pz_name { l := p.l, at_ := p1, Err := p2 }).fst])
    exact ⟨k.1, fun a b o h' => by have := k.2.1 a b o h'; exact ⟨by have := this.1; omega, this.2⟩, fun x h' => by have := k.2.2 x h'; exact ⟨by have := this.1; omega, this.2⟩⟩
theorem adv_more {n a : Int} {p : Gparser} {v : Int} (hl : (p.l.length : Int) = n) (h0 : 0 ≤ a) (h : Adv n a p.at_) : Adv n a (pz_more p v).2.at_ := by
 have k := more_L0_adv (p := p) (hv := v) (p.l.length + 1) p.at_ p.Err [] (by have := h.1; have := h.2; omega)
 subst hl
 unfold pz_more
 split
 ·rename_i e; exact adv_trans h (k.2.1 _ _ _ e)
 ·rename_i e; exact adv_trans h (k.2.2 _ e)
 ·rename_i e; exact absurd e k.1
theorem names_L0_adv {p : Gparser} : ∀ (r : Nat) (p1 p2 : Int) (out : List Str), (0 ≤ p1 ∧ p1 ≤ (p.l.length : Int)) ∧ (p.l.length : Int) - p1 < (r : Int) → pz_names_L0 p r p1 p2 out ≠ LR.oof ∧ (∀ a b o, pz_names_L0 p r p1 p2 out = .brk (a, b, o) → Adv p.l.length p1 a) ∧ (∀ x, pz_names_L0 p r p1 p2 out = .ret x → Adv p.l.length p1 x.2.at_)
 | 0, p1, p2, out, h => by omega
 | r + 1, p1, p2, out, h => by
  rw [pz_names_L0]
  cases e : pz_isName (Gparser.mk p.l p1 p2) with
  | false => exact ⟨fun h => (by cases h), fun a b o h' => (by cases h'; exact ⟨Int.le_refl _, h.1.2⟩), fun x h => (by cases h)⟩
  | true =>
   have hlt := isName_lt e
   dsimp only at hlt
   simp only [cond_true, name_at e]
   have ih := fun o => names_L0_adv (p := p) r (p1 + 1) p2 o (by omega)
   simp only [Bool.cond_eq_ite]
   split
   ·refine ⟨fun h => (by cases h), fun a b o h => (by cases h), fun x h' => ?_⟩
    cases h'
    rw [fail_at]; exact ⟨Int.le_refl _, h.1.2⟩
   ·have k := ih (out ++ [(pz_name { l := p.l, at_ := p1, Err := p2 }).fst])
    exact ⟨k.1, fun a b o h' => by have := k.2.1 a b o h'; exact ⟨by have := this.1; omega, this.2⟩, fun x h' => by have := k.2.2 x h'; exact ⟨by have := this.1; omega, this.2⟩⟩
theorem adv_names {n a : Int} {p : Gparser} (hl : (p.l.length : Int) = n) (h0 : 0 ≤ a) (h : Adv n a p.at_) : Adv n a (pz_names p).2.at_ := by
 have k := names_L0_adv (p := p) (p.l.length + 1) p.at_ p.Err [] (by have := h.1; have := h.2; omega)
 subst hl
 unfold pz_names
 split
 ·rename_i e; exact adv_trans h (k.2.1 _ _ _ e)
 ·rename_i e; exact adv_trans h (k.2.2 _ e)
 ·rename_i e; exact absurd e k.1
theorem stmt_adv {p : Gparser} (h0 : 0 ≤ p.at_) (hb : pz_begins p = true) : Adv p.l.length (p.at_ + 1) (pz_stmt p).2.at_ := by
 have hlt := begins_lt hb
 have st : Adv p.l.length (p.at_ + 1) (p.at_ + 1) := ⟨Int.le_refl _, by omega⟩
 unfold pz_stmt
 cases e : pz_isName p with
 | false =>
  simp only [Bool.not_false, cond_true, Bool.cond_eq_ite, if_true, if_false, Bool.false_eq_true]
  repeat' split
  all_goals (repeat first | exact st | (refine adv_end rfl ?_; try dsimp only) | (refine adv_kind rfl (by assumption) ?_; try dsimp only) | (refine adv_name rfl ?_; try dsimp only) | (refine adv_fail ?_; try dsimp only) | (refine adv_names rfl (by omega) ?_; try dsimp only) | (refine adv_more rfl (by omega) ?_; try dsimp only))
 | true =>
  have nm : ∀ x y : List UInt8, x ≠ y → (Str.mk x == Str.mk y) = false := fun x y h => by
   rw [beq_eq_false_iff_ne]; intro h'; injection h' with h'; exact h h'
  simp only [Bool.not_true, cond_false, nm [] _ (List.cons_ne_nil _ _).symm, name_at e]
  simp only [Bool.cond_eq_ite, if_true, if_false, Bool.false_eq_true]
  repeat' split
  all_goals (repeat first | exact st | (refine adv_end rfl ?_; try dsimp only) | (refine adv_kind rfl (by assumption) ?_; try dsimp only) | (refine adv_name rfl ?_; try dsimp only) | (refine adv_fail ?_; try dsimp only) | (refine adv_names rfl (by omega) ?_; try dsimp only) | (refine adv_more rfl (by omega) ?_; try dsimp only))
theorem block_L0_adv {p : Gparser} {b0 : Str} : ∀ (r : Nat) (p1 p2 : Int) (out : List GStmt), (0 ≤ p1 ∧ p1 ≤ (p.l.length : Int)) ∧ (p.l.length : Int) - p1 < (r : Int) → pz_block_L0 p b0 r p1 p2 out ≠ LR.oof ∧ (∀ a b o, pz_block_L0 p b0 r p1 p2 out = .brk (a, b, o) → Adv p.l.length p1 a) ∧ (∀ x, pz_block_L0 p b0 r p1 p2 out = .ret x → Adv p.l.length p1 x.2.at_)
 | 0, p1, p2, out, h => by omega
 | r + 1, p1, p2, out, h => by
  rw [pz_block_L0]
  cases e : pz_begins (Gparser.mk p.l p1 p2) with
  | false => exact ⟨fun h => (by cases h), fun a b o h' => (by cases h'; exact ⟨Int.le_refl _, h.1.2⟩), fun x h => (by cases h)⟩
  | true =>
   have st := stmt_adv (p := Gparser.mk p.l p1 p2) h.1.1 e
   dsimp only at st
   have s1 := st.1
   have s2 := st.2
   simp only [cond_true]
   have ih := fun o => block_L0_adv (p := p) (b0 := b0) r (pz_stmt (Gparser.mk p.l p1 p2)).2.at_ (pz_stmt (Gparser.mk p.l p1 p2)).2.Err o (by omega)
   simp only [Bool.cond_eq_ite]
   split
   ·refine ⟨fun h => (by cases h), fun a b o h => (by cases h), fun x h' => ?_⟩
    cases h'
    rw [fail_at]; exact ⟨Int.le_refl _, h.1.2⟩
   ·have k := ih (out ++ [(pz_stmt (Gparser.mk p.l p1 p2)).1])
    exact ⟨k.1, fun a b o h' => by have := k.2.1 a b o h'; exact ⟨by have := this.1; omega, this.2⟩, fun x h' => by have := k.2.2 x h'; exact ⟨by have := this.1; omega, this.2⟩⟩
theorem block_adv {p : Gparser} {c : Int} (w : Adv p.l.length c (pz_word p (Str.mk [98, 108, 111, 99, 107])).at_) (h0 : 0 ≤ c) : Adv p.l.length c (pz_block p).2.at_ := by
 have n := adv_name (p := Gparser.mk p.l (pz_word p (Str.mk [98, 108, 111, 99, 107])).at_ (pz_word p (Str.mk [98, 108, 111, 99, 107])).Err) rfl w
 unfold pz_block
 simp only
 generalize hq : pz_end _ = q
 have e : Adv p.l.length c q.at_ := by rw [← hq]; exact adv_end rfl n
 have k := fun a b (ha : Adv p.l.length c a) => block_L0_adv (p := p) (b0 := (pz_name (Gparser.mk p.l (pz_word p (Str.mk [98, 108, 111, 99, 107])).at_ (pz_word p (Str.mk [98, 108, 111, 99, 107])).Err)).1) (p.l.length + 1) a b [] (by have := ha.1; have := ha.2; omega)
 cases pz_begins (Gparser.mk p.l q.at_ q.Err) with
 | true =>
  simp only [Bool.not_true, cond_false]
  split
  ·rename_i e'; exact adv_trans e ((k _ _ e).2.1 _ _ _ e')
  ·rename_i e'; exact adv_trans e ((k _ _ e).2.2 _ e')
  ·rename_i e'; exact absurd e' (k _ _ e).1
 | false =>
  simp only [Bool.not_false, cond_true]
  have f := adv_fail (p := Gparser.mk p.l q.at_ q.Err) (e := 4) e
  split
  ·rename_i e'; exact adv_trans f ((k _ _ f).2.1 _ _ _ e')
  ·rename_i e'; exact adv_trans f ((k _ _ f).2.2 _ e')
  ·rename_i e'; exact absurd e' (k _ _ f).1
theorem block_step {p : Gparser} (h : Adv p.l.length p.at_ p.at_) (h0 : 0 ≤ p.at_) (hw : pz_is p (Str.mk [98, 108, 111, 99, 107]) = true) : Adv p.l.length (p.at_ + 1) (pz_block p).2.at_ := by
 have hlt := is_lt hw
 refine block_adv ?_ (by omega)
 unfold pz_word
 simp only [hw, Bool.not_true, cond_false]
 exact ⟨Int.le_refl _, by omega⟩
theorem function_L0_adv {p : Gparser} {f0 : Str} : ∀ (r : Nat) (p1 p2 : Int) (out : List GBlock), (0 ≤ p1 ∧ p1 ≤ (p.l.length : Int)) ∧ (p.l.length : Int) - p1 < (r : Int) → pz_function_L0 p f0 r p1 p2 out ≠ LR.oof ∧ (∀ a b o, pz_function_L0 p f0 r p1 p2 out = .brk (a, b, o) → Adv p.l.length p1 a) ∧ (∀ x, pz_function_L0 p f0 r p1 p2 out = .ret x → Adv p.l.length p1 x.2.at_)
 | 0, p1, p2, out, h => by omega
 | r + 1, p1, p2, out, h => by
  rw [pz_function_L0]
  cases e : pz_is (Gparser.mk p.l p1 p2) (Str.mk [98, 108, 111, 99, 107]) with
  | false => exact ⟨fun h => (by cases h), fun a b o h' => (by cases h'; exact ⟨Int.le_refl _, h.1.2⟩), fun x h => (by cases h)⟩
  | true =>
   have st := block_step (p := Gparser.mk p.l p1 p2) ⟨Int.le_refl _, h.1.2⟩ h.1.1 e
   dsimp only at st
   have s1 := st.1
   have s2 := st.2
   simp only [cond_true]
   have ih := fun o => function_L0_adv (p := p) (f0 := f0) r (pz_block (Gparser.mk p.l p1 p2)).2.at_ (pz_block (Gparser.mk p.l p1 p2)).2.Err o (by omega)
   simp only [Bool.cond_eq_ite]
   split
   ·refine ⟨fun h => (by cases h), fun a b o h => (by cases h), fun x h' => ?_⟩
    cases h'
    rw [fail_at]; exact ⟨Int.le_refl _, h.1.2⟩
   ·have k := ih (out ++ [(pz_block (Gparser.mk p.l p1 p2)).1])
    exact ⟨k.1, fun a b o h' => by have := k.2.1 a b o h'; exact ⟨by have := this.1; omega, this.2⟩, fun x h' => by have := k.2.2 x h'; exact ⟨by have := this.1; omega, this.2⟩⟩
theorem function_adv {p : Gparser} {c : Int} (w : Adv p.l.length c (pz_word p (Str.mk [102, 117, 110, 99])).at_) (h0 : 0 ≤ c) : Adv p.l.length c (pz_function p).2.at_ := by
 have n := adv_name (p := Gparser.mk p.l (pz_word p (Str.mk [102, 117, 110, 99])).at_ (pz_word p (Str.mk [102, 117, 110, 99])).Err) rfl w
 unfold pz_function
 simp only
 generalize hq : pz_end _ = q
 have e : Adv p.l.length c q.at_ := by rw [← hq]; exact adv_end rfl n
 have k := fun a b (ha : Adv p.l.length c a) => function_L0_adv (p := p) (f0 := (pz_name (Gparser.mk p.l (pz_word p (Str.mk [102, 117, 110, 99])).at_ (pz_word p (Str.mk [102, 117, 110, 99])).Err)).1) (p.l.length + 1) a b [] (by have := ha.1; have := ha.2; omega)
 cases pz_is (Gparser.mk p.l q.at_ q.Err) (Str.mk [98, 108, 111, 99, 107]) with
 | true =>
  simp only [Bool.not_true, cond_false]
  split
  ·rename_i e'
   refine adv_end rfl ?_
   dsimp only
   refine adv_word rfl ?_
   exact adv_trans e ((k _ _ e).2.1 _ _ _ e')
  ·rename_i e'; exact adv_trans e ((k _ _ e).2.2 _ e')
  ·rename_i e'; exact absurd e' (k _ _ e).1
 | false =>
  simp only [Bool.not_false, cond_true]
  have f := adv_fail (p := Gparser.mk p.l q.at_ q.Err) (e := 4) e
  split
  ·rename_i e'
   refine adv_end rfl ?_
   dsimp only
   refine adv_word rfl ?_
   exact adv_trans f ((k _ _ f).2.1 _ _ _ e')
  ·rename_i e'; exact adv_trans f ((k _ _ f).2.2 _ e')
  ·rename_i e'; exact absurd e' (k _ _ f).1
theorem function_step {p : Gparser} (h : Adv p.l.length p.at_ p.at_) (h0 : 0 ≤ p.at_) (hw : pz_is p (Str.mk [102, 117, 110, 99]) = true) : Adv p.l.length (p.at_ + 1) (pz_function p).2.at_ := by
 have hlt := is_lt hw
 refine function_adv ?_ (by omega)
 unfold pz_word
 simp only [hw, Bool.not_true, cond_false]
 exact ⟨Int.le_refl _, by omega⟩
theorem psm_of {t : Str} {r : GProgram × Int × Int × Int} (h : r4_Parse t = r) (e : PSm (r4_Parse t).1 = true) : PSm r.1 = true := h ▸ e
theorem Parse_L0_adv {l : List GToken} : ∀ (r : Nat) (p1 p2 : Int) (out : List GFunc), (0 ≤ p1 ∧ p1 ≤ (l.length : Int)) ∧ (l.length : Int) - p1 < (r : Int) → r4_Parse_L0 l r p1 p2 out ≠ LR.oof ∧ (∀ a b o, r4_Parse_L0 l r p1 p2 out = .brk (a, b, o) → Adv l.length p1 a) ∧ (∀ x, r4_Parse_L0 l r p1 p2 out ≠ .ret x)
 | 0, p1, p2, out, h => by omega
 | r + 1, p1, p2, out, h => by
  rw [r4_Parse_L0]
  cases e : pz_is (Gparser.mk l p1 p2) (Str.mk [102, 117, 110, 99]) with
  | false => exact ⟨fun h => (by cases h), fun a b o h' => (by cases h'; exact ⟨Int.le_refl _, h.1.2⟩), fun x h => (by cases h)⟩
  | true =>
   have st := function_step (p := Gparser.mk l p1 p2) ⟨Int.le_refl _, h.1.2⟩ h.1.1 e
   dsimp only at st
   have s1 := st.1
   have s2 := st.2
   simp only [cond_true]
   have ih := fun o => Parse_L0_adv (l := l) r (pz_function (Gparser.mk l p1 p2)).2.at_ (pz_function (Gparser.mk l p1 p2)).2.Err o (by omega)
   simp only [Bool.cond_eq_ite]
   split
   ·refine ⟨fun h => (by cases h), fun a b o h' => ?_, fun x h' => (by cases h')⟩
    cases h'
    rw [fail_at]; exact ⟨Int.le_refl _, h.1.2⟩
   ·have k := ih (out ++ [(pz_function (Gparser.mk l p1 p2)).1])
    exact ⟨k.1, fun a b o h' => by have := k.2.1 a b o h'; exact ⟨by have := this.1; omega, this.2⟩, k.2.2⟩
theorem letter_eq (c : Int) : lx_letter c = (r4_letter c && !(c == 95)) := by
 by_cases h : c = 95
 ·subst h; decide
 ·have h7 : (c == 95) = false := by simpa using h
  unfold lx_letter r4_letter
  rw [h7]
  generalize decide (97 ≤ c) = a1
  generalize decide (c ≤ 122) = a2
  generalize decide (65 ≤ c) = a3
  generalize decide (c ≤ 90) = a4
  all_goals (cases a1 <;> cases a2 <;> cases a3 <;> cases a4 <;> rfl)
theorem Cont_string (s : List Str) (v : Str) : sc_Contains_string s v = s.any (fun k => k == v) := by
 have := scan' (fun r i => sc_Index_string_L0 s v r i) (fun i => v == (s.getD i.toNat default)) () (fun _ => rfl) (fun _ _ => rfl) ((((s.length : Nat) : Int) - 0).toNat) 0
 unfold sc_Contains_string sc_Index_string
 rw [Bool.eq_iff_iff, List.any_eq_true]
 rcases this with ⟨j, e, j1, j2, j3⟩ | ⟨e, h⟩
 ·rw [e]; exact ⟨fun _ => ⟨s.getD j.toNat default, getD_mem (by omega), by rw [beq_iff_eq] at j3 ⊢; exact j3.symm⟩, fun _ => by simpa using j1⟩
 ·rw [e]
  refine ⟨fun h => by simp at h, ?_⟩
  rintro ⟨x, hx, hfx⟩
  obtain ⟨j, j1, j2, j3⟩ := (mem_getDg (d := default)).1 hx
  have := h j j1 (by omega)
  rw [j3] at this; rw [beq_iff_eq] at hfx; rw [hfx] at this; simp at this
theorem part_eq (c : Int) : lx_part c = (r4_letter c || r4_digit c) := by
 unfold lx_part lx_letter lx_digit r4_letter r4_digit
 dsimp only
 generalize decide (97 ≤ c) = a1
 generalize decide (c ≤ 122) = a2
 generalize decide (65 ≤ c) = a3
 generalize decide (c ≤ 90) = a4
 generalize decide (48 ≤ c) = a5
 generalize decide (c ≤ 57) = a6
 generalize (c == 95) = a7
 all_goals (cases a1 <;> cases a2 <;> cases a3 <;> cases a4 <;> cases a5 <;> cases a6 <;> cases a7 <;> rfl)
theorem IsName4 (s : Str) : r4_IsName s = (decide (1 ≤ s.b.length ∧ s.b.length ≤ 16) && ((r4_letter ((s.b.getD 0 0).toNat : Int) && !(((s.b.getD 0 0).toNat : Int) == 95)) && ((s.b.all fun c => lx_part (c.toNat : Int)) && !(kwL.any fun k => k == s)))) := by
 have l0 : r4_IsName_L0 s ((s.b.length : Int) - 0).toNat 0 = if (s.b.all fun c => lx_part (c.toNat : Int)) = true then .brk () else .ret false :=
  allL (r4_IsName_L0 s) (fun i => by rw [r4_IsName_L0]) fun r i h0 h1 => by
   rw [r4_IsName_L0, show (default : UInt8) = 0 from rfl, part_eq]
   dsimp only
   all_goals (cases r4_letter ((s.b.getD (i : Int).toNat 0).toNat : Int) <;> cases r4_digit ((s.b.getD (i : Int).toNat 0).toNat : Int) <;> rfl)
 have l1 : r4_IsName_L1 s ((r4_Keywords.length : Int) - 0).toNat 0 = if (r4_Keywords.all fun k => !(k == s)) = true then .brk () else .ret false :=
  allL (r4_IsName_L1 s) (fun i => by rw [r4_IsName_L1]) fun r i h0 h1 => by
   rw [r4_IsName_L1]
   all_goals (cases r4_Keywords.getD (i : Int).toNat default == s <;> rfl)
 have e : (r4_Keywords.all fun k => !(k == s)) = !(kwL.any fun k => k == s) := by
  rw [List.any_eq_not_all_not, Bool.not_not]; rfl
 unfold r4_IsName
 dsimp only
 rw [l0, l1, e, show (0 : Int).toNat = 0 from rfl]
 by_cases h0 : ((s.b.length : Nat) : Int) = 0
 ·have : ¬ (1 ≤ s.b.length ∧ s.b.length ≤ 16) := by omega
  simp only [h0, this, decide_false, Bool.false_and]; rfl
 by_cases h1 : 16 < ((s.b.length : Nat) : Int)
 ·have : ¬ (1 ≤ s.b.length ∧ s.b.length ≤ 16) := by omega
  simp only [h1, this, decide_false, decide_true, Bool.false_and, cond_true]
  all_goals (cases ((s.b.length : Nat) : Int) == 0 <;> rfl)
 have h2 : (1 ≤ s.b.length ∧ s.b.length ≤ 16) := by omega
 have h3 : (((s.b.length : Nat) : Int) == 0) = false := by simpa using h0
 simp only [h3, h1, h2, decide_true, decide_false, cond_false, Bool.true_and, and_self]
 all_goals (cases r4_letter ((s.b.getD 0 0).toNat : Int) <;> cases (((s.b.getD 0 0).toNat : Int) == 95) <;> cases (s.b.all fun c => lx_part (c.toNat : Int)) <;> cases (kwL.any fun k => k == s) <;> rfl)
theorem wordEnd_all (s : Str) : (lx_wordEnd s 0 == ((s.b.length : Nat) : Int)) = s.b.all (fun c => lx_part (c.toNat : Int)) := by
 have key : ∀ (suf pre : List UInt8), s.b = pre ++ suf → (lx_wordEnd_L0 s suf.length (pre.length : Int) == ((s.b.length : Nat) : Int)) = suf.all (fun c => lx_part (c.toNat : Int)) := fun suf => by
  induction suf with
  | nil => intro pre h; rw [List.length_nil, lx_wordEnd_L0, h, List.append_nil, List.all_nil]; simp
  | cons a suf ih =>
   intro pre h
   have hg : s.b.getD ((pre.length : Int)).toNat 0 = a := by rw [h]; simp
   have hlen : s.b.length = pre.length + (suf.length + 1) := by rw [h]; simp
   rw [List.length_cons, lx_wordEnd_L0, hg, List.all_cons]
   try dsimp only
   cases hp : lx_part (a.toNat : Int)
   ·rw [cond_false, Bool.false_and, hlen]; simp; omega
   ·rw [cond_true, Bool.true_and]
    have := ih (pre ++ [a]) (by rw [h]; simp)
    rw [List.length_append, List.length_cons, List.length_nil, Int.natCast_add] at this
    exact this
 have := key s.b [] rfl
 unfold lx_wordEnd
 rw [show (((s.b.length : Nat) : Int) - 0).toNat = s.b.length by omega]
 exact this
theorem IsName_eq (s : Str) : lx_IsName s = r4_IsName s := by
 rw [IsName4]
 unfold lx_IsName
 dsimp only
 rw [wordEnd_all, letter_eq, Cont_string, show (0 : Int).toNat = 0 from rfl]
 by_cases h0 : s = Str.mk []
 ·subst h0; rfl
 have hs : (s == Str.mk []) = false := by simpa using h0
 have hp := str_pos hs
 rw [hs, cond_false]
 by_cases h1 : 16 < ((s.b.length : Nat) : Int)
 ·have : ¬ (1 ≤ s.b.length ∧ s.b.length ≤ 16) := by omega
  simp only [h1, this, decide_false, decide_true, Bool.false_and, cond_true]
 have h2 : (1 ≤ s.b.length ∧ s.b.length ≤ 16) := by omega
 simp only [h1, h2, decide_true, decide_false, cond_false, Bool.true_and, and_self]
 all_goals (cases r4_letter ((s.b.getD 0 0).toNat : Int) <;> cases (((s.b.getD 0 0).toNat : Int) == 95) <;> cases (s.b.all fun c => lx_part (c.toNat : Int)) <;> cases (kwL.any fun k => k == s) <;> rfl)
theorem IsName_fun : lx_IsName = r4_IsName := funext IsName_eq
theorem CF_Stmt (s : List GStmt) (fp : GStmt → Bool) : sc_ContainsFunc_Stmt s fp = s.any fp := by
 have := scan' (fun r i => sc_IndexFunc_Stmt_L0 s fp r i) (fun i => fp (s.getD i.toNat default)) () (fun _ => rfl) (fun _ _ => rfl) ((((s.length : Nat) : Int) - 0).toNat) 0
 unfold sc_ContainsFunc_Stmt sc_IndexFunc_Stmt
 rw [Bool.eq_iff_iff, List.any_eq_true]
 rcases this with ⟨j, e, j1, j2, j3⟩ | ⟨e, h⟩
 ·rw [e]; exact ⟨fun _ => ⟨_, getD_mem (by omega), j3⟩, fun _ => by simpa using j1⟩
 ·rw [e]
  refine ⟨fun h => by simp at h, ?_⟩
  rintro ⟨x, hx, hfx⟩
  obtain ⟨j, j1, j2, j3⟩ := (mem_getDg (d := default)).1 hx
  have := h j j1 (by omega)
  rw [j3] at this; rw [hfx] at this; cases this
theorem CF_string (s : List Str) (fp : Str → Bool) : sc_ContainsFunc_string s fp = s.any fp := by
 have := scan' (fun r i => sc_IndexFunc_string_L0 s fp r i) (fun i => fp (s.getD i.toNat default)) () (fun _ => rfl) (fun _ _ => rfl) ((((s.length : Nat) : Int) - 0).toNat) 0
 unfold sc_ContainsFunc_string sc_IndexFunc_string
 rw [Bool.eq_iff_iff, List.any_eq_true]
 rcases this with ⟨j, e, j1, j2, j3⟩ | ⟨e, h⟩
 ·rw [e]; exact ⟨fun _ => ⟨_, getD_mem (by omega), j3⟩, fun _ => by simpa using j1⟩
 ·rw [e]
  refine ⟨fun h => by simp at h, ?_⟩
  rintro ⟨x, hx, hfx⟩
  obtain ⟨j, j1, j2, j3⟩ := (mem_getDg (d := default)).1 hx
  have := h j j1 (by omega)
  rw [j3] at this; rw [hfx] at this; cases this
theorem words_eq (l : List Str) : (!(sc_ContainsFunc_string l (fun x => sx_valid_1 x))) = l.all r4_IsName := by
 rw [CF_string, List.all_eq_not_any_not]
 congr 2
 funext x
 unfold sx_valid_1
 dsimp only
 rw [IsName_eq]
theorem valid_b {s : GStmt} (h : sx_valid s = true) : s.Uses.length ≤ 4 ∧ s.Targets.length ≤ 2 := by
  unfold sx_valid at h
  dsimp only at h
  generalize (sc_ContainsFunc_string (sc_Clone_string s.Uses ++ s.Targets ++ [s.Def]) fun x => sx_valid_1 x) = A at h
  generalize (sc_ContainsFunc_string (sc_Clone_string s.Uses ++ s.Targets) fun x => sx_valid_1 x) = B at h
  generalize s.Uses.length = U at *
  generalize s.Targets.length = V at *
  have kf : ∀ (c x : Bool), (bif c then x else false) = (c && x) := fun c x => by cases c <;> rfl
  simp only [kf] at h
  have kt : ∀ (c x y : Bool), (bif c then x else y) = true → (c = true ∧ x = true) ∨ (c = false ∧ y = true) := fun c x y h => by
    cases c
    · exact .inr ⟨rfl, h⟩
    · exact .inl ⟨rfl, h⟩
  have kn : ∀ {P : Prop} {c x y : Bool}, (bif c then x else y) = true → (x = true → P) → (y = true → P) → P := fun {P c x y} h k1 k2 => by
    cases c
    · exact k2 h
    · exact k1 h
  iterate 9
    first
    | (refine kn h (fun h => ?_) (fun h => ?_)
       · simp only [Bool.and_eq_true, beq_iff_eq, decide_eq_true_eq] at h; omega)
    | skip
  all_goals (simp only [Bool.and_eq_true, beq_iff_eq, decide_eq_true_eq] at h; omega)
theorem valid_ok (s : GStmt) : sx_valid s = r4_stmtOK s := by
 obtain ⟨o, d, us, ts⟩ := s
 unfold sx_valid r4_stmtOK sc_Clone_string
 dsimp only
 rw [nmOK_eq, nmOK_eq]
 simp only [words_eq, List.all_append, List.all_cons, List.all_nil, Bool.and_true]
 generalize us.all r4_IsName = U
 generalize ts.all r4_IsName = T
 generalize r4_IsName d = D
 generalize (d == Str.mk []) = E
 generalize us.length = u
 generalize ts.length = t
 have kf : ∀ (c x : Bool), (bif c then x else false) = (c && x) := fun c x => by cases c <;> rfl
 have kn : ∀ (c x : Bool), (bif !c then false else x) = (c && x) := fun c x => by cases c <;> rfl
 simp only [kf, kn]
 have fin : ∀ {a b : Bool}, (a = true ↔ b = true) → a = b := fun h => Bool.eq_iff_iff.2 h
 by_cases h1 : o = 1
 ·subst h1
  cases U <;> cases T <;> cases D <;> refine fin ?_ <;> simp <;> omega
 by_cases h2 : o = 2
 ·subst h2
  cases U <;> cases T <;> cases E <;> refine fin ?_ <;> simp <;> omega
 by_cases h3 : o = 3
 ·subst h3
  cases U <;> cases T <;> cases E <;> refine fin ?_ <;> simp <;> omega
 by_cases h4 : o = 4
 ·subst h4
  cases U <;> cases T <;> cases D <;> refine fin ?_ <;> simp <;> omega
 by_cases h5 : o = 5
 ·subst h5
  cases U <;> cases T <;> cases E <;> refine fin ?_ <;> simp <;> omega
 by_cases h6 : o = 6
 ·subst h6
  cases U <;> cases T <;> cases D <;> refine fin ?_ <;> simp <;> omega
 by_cases h7 : o = 7
 ·subst h7
  cases U <;> cases T <;> cases E <;> refine fin ?_ <;> simp <;> omega
 by_cases h8 : o = 8
 ·subst h8
  cases U <;> cases T <;> cases E <;> refine fin ?_ <;> simp <;> omega
 by_cases h9 : o = 9
 ·subst h9
  cases U <;> cases T <;> cases E <;> refine fin ?_ <;> simp <;> omega
 have f : ∀ {k : Int}, ¬ o = k → (o == k) = false := fun h => by simpa using h
 simp only [f h1, f h2, f h3, f h4, f h5, f h6, f h7, f h8, f h9, cond_false, Bool.false_and, Bool.and_false]
theorem SVal_eq (p : GProgram) : sx_Valid p = (decide (1 ≤ p.Funcs.length ∧ p.Funcs.length ≤ 8) && p.Funcs.all fun f => lx_IsName f.Name && (decide (1 ≤ f.Blocks.length ∧ f.Blocks.length ≤ 16) && f.Blocks.all fun b => lx_IsName b.Name && (decide (1 ≤ b.Stmts.length ∧ b.Stmts.length ≤ 32) && b.Stmts.all sx_valid))) := by
 have l2 : ∀ (b : List GStmt), sc_ContainsFunc_Stmt b (fun x => sx_Valid_1 x) = !(b.all sx_valid) := fun b => by
  rw [CF_Stmt, List.all_eq_not_any_not, Bool.not_not]
  congr 1
 have l1 : ∀ (f : List GBlock), sx_Valid_L1 f ((f.length : Int) - 0).toNat 0 = if (f.all fun b => lx_IsName b.Name && (decide (1 ≤ b.Stmts.length ∧ b.Stmts.length ≤ 32) && b.Stmts.all sx_valid)) = true then .brk () else .ret false := fun f =>
  allL (sx_Valid_L1 f) (fun i => by rw [sx_Valid_L1]) fun r i h0 h1 => by
   rw [sx_Valid_L1]
   generalize hb : f.getD i.toNat default = b
   have e := l2 b.Stmts
   simp only [Bool.cond_eq_ite]
   cases hN : lx_IsName b.Name
   ·simp
   by_cases h1 : ((b.Stmts.length : Nat) : Int) < 1
   ·have : ¬ (1 ≤ b.Stmts.length ∧ b.Stmts.length ≤ 32) := by omega
    simp [h1, this]
   by_cases h2 : (32 : Int) < ((b.Stmts.length : Nat) : Int)
   ·have : ¬ (1 ≤ b.Stmts.length ∧ b.Stmts.length ≤ 32) := by omega
    simp [h1, h2, this]
   have h3 : (1 ≤ b.Stmts.length ∧ b.Stmts.length ≤ 32) := by omega
   rw [e]
   simp only [h1, h2, decide_false, h3, decide_true, Bool.not_true, Bool.true_and, and_self, reduceIte, Bool.false_eq_true]
   all_goals (cases b.Stmts.all sx_valid <;> rfl)
 have l0 : sx_Valid_L0 p ((p.Funcs.length : Int) - 0).toNat 0 = if (p.Funcs.all fun f => lx_IsName f.Name && (decide (1 ≤ f.Blocks.length ∧ f.Blocks.length ≤ 16) && f.Blocks.all fun b => lx_IsName b.Name && (decide (1 ≤ b.Stmts.length ∧ b.Stmts.length ≤ 32) && b.Stmts.all sx_valid))) = true then .brk () else .ret false :=
  allL (sx_Valid_L0 p) (fun i => by rw [sx_Valid_L0]) fun r i h0 h1 => by
   rw [sx_Valid_L0]
   generalize hb : p.Funcs.getD i.toNat default = f
   have e := l1 f.Blocks
   simp only [Bool.cond_eq_ite]
   cases hN : lx_IsName f.Name
   ·simp
   by_cases h1 : ((f.Blocks.length : Nat) : Int) < 1
   ·have : ¬ (1 ≤ f.Blocks.length ∧ f.Blocks.length ≤ 16) := by omega
    simp [h1, this]
   by_cases h2 : (16 : Int) < ((f.Blocks.length : Nat) : Int)
   ·have : ¬ (1 ≤ f.Blocks.length ∧ f.Blocks.length ≤ 16) := by omega
    simp [h1, h2, this]
   have h3 : (1 ≤ f.Blocks.length ∧ f.Blocks.length ≤ 16) := by omega
   rw [e]
   simp only [h1, h2, decide_false, h3, decide_true, Bool.not_true, Bool.true_and, and_self, reduceIte, Bool.false_eq_true]
   all_goals (generalize (f.Blocks.all _) = q; cases q <;> rfl)
 rw [sx_Valid]
 by_cases h1 : ((p.Funcs.length : Nat) : Int) < 1
 ·have : ¬ (1 ≤ p.Funcs.length ∧ p.Funcs.length ≤ 8) := by omega
  simp [h1, this]
 by_cases h2 : (8 : Int) < ((p.Funcs.length : Nat) : Int)
 ·have : ¬ (1 ≤ p.Funcs.length ∧ p.Funcs.length ≤ 8) := by omega
  simp [h1, h2, this]
 have h3 : (1 ≤ p.Funcs.length ∧ p.Funcs.length ≤ 8) := by omega
 rw [l0]
 simp only [h1, h2, h3, decide_false, decide_true, cond_false, Bool.true_and, and_self]
 all_goals (generalize (p.Funcs.all _) = q; cases q <;> rfl)
theorem SVal_b {p : GProgram} (h : sx_Valid p = true) : p.Funcs.length ≤ 8 ∧ ∀ i : Nat, (p.Funcs.getD i default).Blocks.length ≤ 16 ∧ ∀ k : Nat, ((p.Funcs.getD i default).Blocks.getD k default).Stmts.length ≤ 32 ∧ ∀ j : Nat, (((p.Funcs.getD i default).Blocks.getD k default).Stmts.getD j default).Uses.length ≤ 4 ∧ (((p.Funcs.getD i default).Blocks.getD k default).Stmts.getD j default).Targets.length ≤ 2 := by
 rw [SVal_eq] at h
 simp only [Bool.and_eq_true, decide_eq_true_eq, List.all_eq_true] at h
 have gm : ∀ {α : Type} [Inhabited α] (l : List α) (i : Nat), l.getD i default ∈ l ∨ l.getD i default = default := fun l i => by
  by_cases hi : i < l.length
  ·left; rw [List.getD_eq_getElem?_getD, List.getElem?_eq_getElem hi]; exact List.getElem_mem hi
  ·right; rw [List.getD_eq_getElem?_getD, List.getElem?_eq_none (by omega)]; rfl
 refine ⟨h.1.2, fun i => ?_⟩
 rcases gm p.Funcs i with hf | hf
 ·have hF := (h.2 _ hf).2
  refine ⟨hF.1.2, fun k => ?_⟩
  rcases gm (p.Funcs.getD i default).Blocks k with hb | hb
  ·have hB := (hF.2 _ hb).2
   refine ⟨hB.1.2, fun j => ?_⟩
   rcases gm ((p.Funcs.getD i default).Blocks.getD k default).Stmts j with hs | hs
   ·exact valid_b (hB.2 _ hs)
   ·rw [hs]; decide
  ·rw [hb]
   exact ⟨by decide, fun j => by rw [show (default : GBlock).Stmts = [] from rfl]; simp; decide⟩
 ·rw [hf]
  refine ⟨by decide, fun k => ?_⟩
  rw [show (default : GFunc).Blocks = [] from rfl]
  exact ⟨by simp; decide, fun j => by simp [show (default : GBlock).Stmts = [] from rfl]; decide⟩
theorem Valid_eq (p : GProgram) : sx_Valid p = r4_Valid p := by
 rw [SVal_eq, PVal_eq, IsName_fun, show sx_valid = r4_stmtOK from funext valid_ok]
theorem sz2 (S : List GStmt) : ∀ (r : Nat) (a b v : Int), (vd_each_Sizes_1_L2 S r a b v).1 ≤ a + 2 * (r : Int) ∧ (vd_each_Sizes_1_L2 S r a b v).2 ≤ b + 3 * (r : Int)
 | 0, a, b, v => by
  -- vd_Sizes is behind
  rw [vd_each_Sizes_1_L2]; exact ⟨by simp, by simp⟩
 | r + 1, a, b, v => by
  rw [vd_each_Sizes_1_L2]
  try dsimp only
  have h := sz2 S r (vd_Sizes_1 (S.getD v.toNat default) a b).1 (vd_Sizes_1 (S.getD v.toNat default) a b).2 (v + 1)
  have hs : (vd_Sizes_1 (S.getD v.toNat default) a b).1 ≤ a + 2 ∧ (vd_Sizes_1 (S.getD v.toNat default) a b).2 ≤ b + 3 := by
   unfold vd_Sizes_1
   cases (S.getD v.toNat default).Op == 3
   ·cases (S.getD v.toNat default).Op == 8 <;> (simp only [cond_false, cond_true]; omega)
   ·simp only [cond_true]; omega
  omega
theorem Check_b {p : GProgram} {r : GNode × Int} (h : vd_Check p = r) (h2 : (r.2 != 0) = false) : sx_Valid p = true := by
 subst h
 cases e : sx_Valid p
 ·unfold vd_Check at h2
  rw [e] at h2
  cases h2
 ·rfl
theorem CheckV {p : GProgram} {r : GNode × Int} (h : vd_Check p = r) (h2 : (r.2 != 0) = false) : r4_Valid p = true := by
 rw [← Valid_eq]; exact Check_b h h2
theorem list2 (i k : Int) (S : List GStmt) : ∀ (r : Nat) (o : List GNode) (v : Int), 0 ≤ v → v + (r : Int) = (S.length : Int) → nd_List_L2 i k S r o v = o ++ nS i k v (S.drop v.toNat)
 | 0, o, v, h0, h1 => by rw [nd_List_L2, List.drop_eq_nil_of_le (by omega), nS, List.append_nil]
 | r + 1, o, v, h0, h1 => by
  rw [nd_List_L2, list2 i k S r _ _ (by omega) (by omega), list2 i k S r _ _ (by omega) (by omega), getD_dropz h0 (by omega), nS]
  cases (S.getD v.toNat default).Op == 3 <;> simp
theorem list1 (i : Int) (S : List GBlock) : ∀ (r : Nat) (o : List GNode) (v : Int), 0 ≤ v → v + (r : Int) = (S.length : Int) → nd_List_L1 i S r o v = o ++ nB i v (S.drop v.toNat)
 | 0, o, v, h0, h1 => by rw [nd_List_L1, List.drop_eq_nil_of_le (by omega), nB, List.append_nil]
 | r + 1, o, v, h0, h1 => by
  rw [nd_List_L1, list2 i v _ _ _ 0 (by omega) (by omega)]
  try dsimp only
  rw [list1 i S r _ _ (by omega) (by omega), getD_dropz h0 (by omega), nB]
  simp
theorem list0 (p : GProgram) : ∀ (r : Nat) (o : List GNode) (v : Int), 0 ≤ v → v + (r : Int) = (p.Funcs.length : Int) → nd_List_L0 p r o v = o ++ nF v (p.Funcs.drop v.toNat)
 | 0, o, v, h0, h1 => by rw [nd_List_L0, List.drop_eq_nil_of_le (by omega), nF, List.append_nil]
 | r + 1, o, v, h0, h1 => by
  rw [nd_List_L0, list1 v _ _ _ 0 (by omega) (by omega)]
  try dsimp only
  rw [list0 p r _ _ (by omega) (by omega), getD_dropz h0 (by omega), nF]
  simp
theorem List_eq (p : GProgram) : nd_List p = bif (vd_Check p).2 != 0 then [] else nF 0 p.Funcs := by
 unfold nd_List
 dsimp only
 rw [list0 p _ [] 0 (by omega) (by omega)]
 rfl
theorem List_in {p : GProgram} {n : GNode} (h : n ∈ nd_List p) : NIn p n := by
 rw [List_eq] at h
 cases e : (vd_Check p).2 != 0
 ·have hv := SVal_b (Check_b rfl e)
  rw [e, cond_false] at h
  obtain ⟨a1, a2⟩ := nF_in p.Funcs 0 n h
  rw [show (n.Func - 0) = n.Func by omega] at a2
  refine ⟨by omega, fun h1 h2 => ?_⟩
  obtain ⟨_, b1, b2, b3⟩ := a2 h1 h2
  have := ((hv.2 n.Func.toNat).2 n.Block.toNat).1
  exact ⟨b1, ⟨b2, b3⟩, by omega⟩
 ·rw [e] at h; cases h
theorem List_inN {p : GProgram} {l : List GNode} (h : nd_List p = l) {i : Int} (hi : 0 ≤ i ∧ i < (l.length : Int)) : NIn p (l.getD i.toNat default) := by
 refine List_in ?_
 rw [h]; exact getD_mem (by omega)
theorem ListV_pos {p : GProgram} {l : List GNode} {r : GNode × Int} (h : nd_List p = l) (hc : vd_Check p = r) (h2 : (r.2 != 0) = false) : 0 < l.length := by
 have hv := CheckV hc h2
 rw [PVal_eq] at hv
 simp only [Bool.and_eq_true, decide_eq_true_eq] at hv
 rw [← h, List_eq, hc, h2, cond_false]
 cases hf : p.Funcs with
 | nil => rw [hf] at hv; simp at hv
 | cons f F => simp [nF]
theorem nl_of {t : Str} {r : GProgram × Int × Int × Int} (h : r4_Parse t = r) (e : Nat.ble (nd_List (r4_Parse t).1).length 12 = true) : (nd_List r.1).length ≤ 12 := h ▸ Nat.le_of_ble_eq_true e
theorem at_f {b : Gbuilder} (h : BOk b) (k f bl st : Int) : 0 ≤ bd_at b k f bl st ∧ bd_at b k f bl st < (b.g.Succ.length : Int) := h.num _
theorem at_r {b : Gbuilder} {k f bl st r : Int} (e : bd_at b k f bl st = r) (h : BOk b) : 0 ≤ r ∧ r < (b.g.Succ.length : Int) := e ▸ at_f h k f bl st
theorem edge_ok {b : Gbuilder} {f t : Int} (h : BOk b) (hf : 0 ≤ f ∧ f < (b.g.Succ.length : Int)) (ht : 0 ≤ t ∧ t < (b.g.Succ.length : Int)) :
  BOk (bd_edge b f t) ∧ (bd_edge b f t).g.Nodes = b.g.Nodes ∧ (bd_edge b f t).number = b.number ∧ (bd_edge b f t).g.Succ.length = b.g.Succ.length ∧
  ∀ i k, 0 ≤ i → i < (b.g.Succ.length : Int) → (k ∈ (bd_edge b f t).g.Succ.getD i.toNat [] ↔ k ∈ b.g.Succ.getD i.toNat [] ∨ (i = f ∧ k = t)) := by
 unfold bd_edge
 dsimp only
 cases hc : sc_Contains_int (b.g.Succ.getD f.toNat []) t
 ·rw [cond_false]
  have hn : t ∉ b.g.Succ.getD f.toNat [] := fun hm => by rw [(Contains_iff _ _).2 hm] at hc; cases hc
  have hn2 : f ∉ b.g.Pred.getD t.toNat [] := fun hm => hn ((h.mi f t hf.1 hf.2 ht.1 ht.2).2 hm)
  have hps := h.ps
  have gs : ∀ i, 0 ≤ i → (b.g.Succ.set f.toNat (b.g.Succ.getD f.toNat [] ++ [t])).getD i.toNat [] = if i = f then b.g.Succ.getD f.toNat [] ++ [t] else b.g.Succ.getD i.toNat [] := fun i hi => getD_set' hf hi
  have gp' : ∀ i, 0 ≤ i → (b.g.Pred.set t.toNat (b.g.Pred.getD t.toNat [] ++ [f])).getD i.toNat [] = if i = t then b.g.Pred.getD t.toNat [] ++ [f] else b.g.Pred.getD i.toNat [] := fun i hi => getD_set' (by omega) hi
  refine ⟨⟨by simp [hps], by simp; exact h.n0, by simp; exact h.nb, fun l hl => ?_, fun l hl => ?_, fun i k h1 h2 h3 h4 => ?_, fun k => by simp only [List.length_set]; exact h.num k⟩, rfl, rfl, by simp, fun i k h1 h2 => ?_⟩
  ·simp only [List.length_set]
   rcases List.mem_or_eq_of_mem_set hl with hl | rfl
   ·exact h.su l hl
   ·exact EdL_add (h.su _ (getD_mem' hf)) ht hn
  ·simp only [List.length_set]
   rcases List.mem_or_eq_of_mem_set hl with hl | rfl
   ·exact h.pr l hl
   ·exact EdL_add (h.pr _ (getD_mem' (by omega))) hf hn2
  ·simp only [List.length_set] at h2 h4
   show k ∈ (b.g.Succ.set f.toNat (b.g.Succ.getD f.toNat [] ++ [t])).getD i.toNat [] ↔ i ∈ (b.g.Pred.set t.toNat (b.g.Pred.getD t.toNat [] ++ [f])).getD k.toNat []
   rw [gs i h1, gp' k h3]
   have hm := h.mi i k h1 h2 h3 h4
   by_cases e1 : i = f
   ·rw [if_pos e1, List.mem_append, List.mem_singleton]
    by_cases e2 : k = t
    ·rw [if_pos e2, List.mem_append, List.mem_singleton]; simp [e1, e2]
    ·rw [if_neg e2]; subst e1; exact ⟨fun h => h.elim hm.1 (fun e => absurd e e2), fun h => .inl (hm.2 h)⟩
   ·rw [if_neg e1]
    by_cases e2 : k = t
    ·rw [if_pos e2, List.mem_append, List.mem_singleton]; subst e2; exact ⟨fun h => .inl (hm.1 h), fun h => h.elim hm.2 (fun e => absurd e e1)⟩
    ·rw [if_neg e2]; exact hm
  ·show k ∈ (b.g.Succ.set f.toNat (b.g.Succ.getD f.toNat [] ++ [t])).getD i.toNat [] ↔ _
   rw [gs i h1]
   by_cases e1 : i = f
   ·rw [if_pos e1, List.mem_append, List.mem_singleton, e1]; simp
   ·rw [if_neg e1]; simp [e1]
 ·rw [cond_true]
  refine ⟨h, rfl, rfl, rfl, fun i k h1 h2 => ⟨.inl, fun hk => ?_⟩⟩
  rcases hk with hk | ⟨rfl, rfl⟩
  ·exact hk
  ·exact (Contains_iff _ _).1 hc
theorem edge_f {b r : Gbuilder} {f t : Int} (e : bd_edge b f t = r) (h : BOk b) (hf : 0 ≤ f ∧ f < (b.g.Succ.length : Int)) (ht : 0 ≤ t ∧ t < (b.g.Succ.length : Int)) : BOk r ∧ r.g.Succ.length = b.g.Succ.length := by
 have := edge_ok h hf ht; rw [e] at this; exact ⟨this.1, this.2.2.2.1⟩
theorem first_f {b : Gbuilder} {p : GProgram} {f : Int} {nm : Str} {r : Int} (e : bd_first b p f nm = r) (h : BOk b) : 0 ≤ r ∧ r < (b.g.Succ.length : Int) := by
 subst e; unfold bd_first; dsimp only; exact at_f h _ _ _ _
theorem num_L0 (l : List GNode) : ∀ (r : Nat) (m : List (GNode × Int)) (v : Int), v + (r : Int) = (l.length : Int) → 0 ≤ v → (∀ k, 0 ≤ (mget m k).getD 0 ∧ ((mget m k).getD 0 < (l.length : Int) ∨ (mget m k).getD 0 = 0)) →
  ∀ k, 0 ≤ (mget (gh_Build_L0 l r m v) k).getD 0 ∧ ((mget (gh_Build_L0 l r m v) k).getD 0 < (l.length : Int) ∨ (mget (gh_Build_L0 l r m v) k).getD 0 = 0)
 | 0, m, v, hr, hv, h => by rw [gh_Build_L0]; exact h
 | r + 1, m, v, hr, hv, h => by
  rw [gh_Build_L0]
  refine num_L0 l r _ _ (by omega) (by omega) fun k => ?_
  rw [mget_mset]
  split
  ·exact ⟨hv, .inl (by show v < _; omega)⟩
  ·exact h k
theorem Bk_init {l : List GNode} {m : List (GNode × Int)} (h : gh_Build_L0 l (((((l.length : Nat) : Int) : Int) - 0).toNat) [] 0 = m) (h0 : 0 < l.length) (hn : l.length ≤ 20000) :
  BOk (Gbuilder.mk (GGraph.mk l (List.replicate (((l.length : Nat) : Int) : Int).toNat []) (List.replicate (((l.length : Nat) : Int) : Int).toNat [])) m) := by
 have e : (((l.length : Nat) : Int)).toNat = l.length := by omega
 have hm := num_L0 l (((((l.length : Nat) : Int) : Int) - 0).toNat) [] 0 (by omega) (by omega) (fun k => ⟨Int.le_refl _, .inr rfl⟩)
 rw [h] at hm
 refine ⟨by simp, by simpa using h0, by simpa using hn, fun x hx => ?_, fun x hx => ?_, fun i k h1 h2 h3 h4 => ?_, fun k => ?_⟩
 ·rw [List.eq_of_mem_replicate hx]; exact EdL_nil _
 ·rw [List.eq_of_mem_replicate hx]; exact EdL_nil _
 ·have gn : ∀ (n i : Nat), (List.replicate n ([] : List Int)).getD i [] = [] := fun n i => by
   rw [List.getD_eq_getElem?_getD, List.getElem?_replicate]; split <;> rfl
  show k ∈ (List.replicate _ []).getD _ [] ↔ i ∈ (List.replicate _ []).getD _ []
  rw [gn, gn]; simp
 ·have := hm k
  simp only [List.length_replicate, e]
  refine ⟨this.1, ?_⟩
  show (mget m k).getD 0 < _
  omega
theorem sane8_true : w8_sane = true := by kernel_rfl
theorem GraphReads_true (t : List Int) (g : GGraph) (f : List Int) : w8_GraphReads t g f = true := by
 unfold w8_GraphReads
 dsimp only
 rw [reads_true, sane8_true]
 simp
theorem fo59_1 : fldOff Tryz.prog 59 1 = some 1 := by kernel_rfl
theorem fo59_2 : fldOff Tryz.prog 59 2 = some 2 := by kernel_rfl
theorem sh51 : tyShape Tryz.prog 51 = some (false, 1) := by kernel_rfl
theorem fo59_3 : fldOff Tryz.prog 59 3 = some 3 := by kernel_rfl
theorem fo59_0 : fldOff Tryz.prog 59 0 = some 0 := by kernel_rfl
theorem sh3 : tyShape Tryz.prog 3 = some (false, 1) := by kernel_rfl
theorem fmix : Tryz.prog.follows .mixedOrders = true := by kernel_rfl
theorem fo50_1 : fldOff Tryz.prog 50 1 = some 1 := by kernel_rfl
theorem fo50_0 : fldOff Tryz.prog 50 0 = some 0 := by kernel_rfl
theorem sh22 : tyShape Tryz.prog 22 = some (false, 1) := by kernel_rfl
theorem sl22 : slTy Tryz.prog 22 = some (3, 1, 8) := by kernel_rfl
theorem ca34 : callable Tryz.prog 34 = true := by kernel_rfl
theorem ca127 : callable Tryz.prog 127 = true := by kernel_rfl
theorem ca96 : callable Tryz.prog 96 = true := by kernel_rfl
theorem ca90 : callable Tryz.prog 90 = true := by kernel_rfl
theorem un146 : Tryz.prog.underlying 146 = some (.int .u64) := by kernel_rfl
theorem un5 : Tryz.prog.underlying 5 = some (.int .u8) := by kernel_rfl
theorem un9 : Tryz.prog.underlying 9 = some .string := by kernel_rfl
theorem ca82 : callable Tryz.prog 82 = true := by kernel_rfl
theorem ca83 : callable Tryz.prog 83 = true := by kernel_rfl
theorem ca136 : callable Tryz.prog 136 = true := by kernel_rfl
theorem sh9 : tyShape Tryz.prog 9 = some (false, 1) := by kernel_rfl
theorem un3 : Tryz.prog.underlying 3 = some (.int .i64) := by kernel_rfl
theorem un108 : Tryz.prog.underlying 108 = some (.int .u64) := by kernel_rfl
theorem ca100 : callable Tryz.prog 100 = true := by kernel_rfl
theorem ca61 : callable Tryz.prog 61 = true := by kernel_rfl
theorem ca60 : callable Tryz.prog 60 = true := by kernel_rfl
theorem sl51 : slTy Tryz.prog 51 = some (9, 1, 16) := by kernel_rfl
theorem sz51 : slZero Tryz.prog 51 = some [.string (bs (Str.mk []))] := by kernel_rfl
theorem ca141 : callable Tryz.prog 141 = true := by kernel_rfl
theorem ca128 : callable Tryz.prog 128 = true := by kernel_rfl
theorem ca144 : callable Tryz.prog 144 = true := by kernel_rfl
theorem ca142 : callable Tryz.prog 142 = true := by kernel_rfl
theorem ca129 : callable Tryz.prog 129 = true := by kernel_rfl
theorem ca130 : callable Tryz.prog 130 = true := by kernel_rfl
theorem fo25_0 : fldOff Tryz.prog 25 0 = some 0 := by kernel_rfl
theorem sh23 : tyShape Tryz.prog 23 = some (false, 1) := by kernel_rfl
theorem sl23 : slTy Tryz.prog 23 = some (54, 2, 40) := by kernel_rfl
theorem sh54 : tyShape Tryz.prog 54 = some (true, 2) := by kernel_rfl
theorem ze54 : zeroOf Tryz.prog 54 = some (.agg #[.string (bs (Str.mk [])), .slice none 0 0]) := by kernel_rfl
theorem fo54_0 : fldOff Tryz.prog 54 0 = some 0 := by kernel_rfl
theorem fo54_1 : fldOff Tryz.prog 54 1 = some 1 := by kernel_rfl
theorem sh52 : tyShape Tryz.prog 52 = some (false, 1) := by kernel_rfl
theorem sl52 : slTy Tryz.prog 52 = some (57, 2, 40) := by kernel_rfl
theorem sh57 : tyShape Tryz.prog 57 = some (true, 2) := by kernel_rfl
theorem ze57 : zeroOf Tryz.prog 57 = some (.agg #[.string (bs (Str.mk [])), .slice none 0 0]) := by kernel_rfl
theorem fo57_0 : fldOff Tryz.prog 57 0 = some 0 := by kernel_rfl
theorem fo57_1 : fldOff Tryz.prog 57 1 = some 1 := by kernel_rfl
theorem sh55 : tyShape Tryz.prog 55 = some (false, 1) := by kernel_rfl
theorem sl55 : slTy Tryz.prog 55 = some (59, 4, 72) := by kernel_rfl
theorem sh59 : tyShape Tryz.prog 59 = some (true, 4) := by kernel_rfl
theorem ca131 : callable Tryz.prog 131 = true := by kernel_rfl
theorem un51 : Tryz.prog.underlying 51 = some (.slice 9) := by kernel_rfl
theorem ca143 : callable Tryz.prog 143 = true := by kernel_rfl
theorem ca101 : callable Tryz.prog 101 = true := by kernel_rfl
theorem ca132 : callable Tryz.prog 132 = true := by kernel_rfl
theorem ca134 : callable Tryz.prog 134 = true := by kernel_rfl
theorem ca133 : callable Tryz.prog 133 = true := by kernel_rfl
theorem ca104 : callable Tryz.prog 104 = true := by kernel_rfl
theorem ca103 : callable Tryz.prog 103 = true := by kernel_rfl
theorem ca102 : callable Tryz.prog 102 = true := by kernel_rfl
theorem mt112 : mpTy Tryz.prog 112 = some (9, 4) := by kernel_rfl
theorem ze4 : zeroOf Tryz.prog 4 = some (vb false) := by kernel_rfl
theorem ca135 : callable Tryz.prog 135 = true := by kernel_rfl
theorem ca16 : callable Tryz.prog 16 = true := by kernel_rfl
theorem un4 : Tryz.prog.underlying 4 = some .bool := by kernel_rfl
theorem ca28 : callable Tryz.prog 28 = true := by kernel_rfl
theorem ca32 : callable Tryz.prog 32 = true := by kernel_rfl
theorem ca17 : callable Tryz.prog 17 = true := by kernel_rfl
theorem ca33 : callable Tryz.prog 33 = true := by kernel_rfl
theorem ca25 : callable Tryz.prog 25 = true := by kernel_rfl
theorem ze59 : zeroOf Tryz.prog 59 = some (.agg #[vi 0, .string (bs (Str.mk [])), .slice none 0 0, .slice none 0 0]) := by kernel_rfl
theorem ca138 : callable Tryz.prog 138 = true := by kernel_rfl
theorem ca86 : callable Tryz.prog 86 = true := by kernel_rfl
theorem ca139 : callable Tryz.prog 139 = true := by kernel_rfl
theorem ca50 : callable Tryz.prog 50 = true := by kernel_rfl
theorem sh76 : tyShape Tryz.prog 76 = some (true, 4) := by kernel_rfl
theorem eqi76 : eqInts Tryz.prog 76 4 = true := by kernel_rfl
theorem ze76 : zeroOf Tryz.prog 76 = some (.agg #[vi 0, vi 0, vi 0, vi 0]) := by kernel_rfl
theorem ca106 : callable Tryz.prog 106 = true := by kernel_rfl
theorem ca105 : callable Tryz.prog 105 = true := by kernel_rfl
theorem st76 : stTy Tryz.prog 76 = some ([(0, 1), (1, 1), (2, 1), (3, 1)], [vi 0, vi 0, vi 0, vi 0]) := by kernel_rfl
theorem ca107 : callable Tryz.prog 107 = true := by kernel_rfl
theorem ca62 : callable Tryz.prog 62 = true := by kernel_rfl
theorem ze3 : zeroOf Tryz.prog 3 = some (vi 0) := by kernel_rfl
theorem ca108 : callable Tryz.prog 108 = true := by kernel_rfl
theorem ca109 : callable Tryz.prog 109 = true := by kernel_rfl
theorem ze25 : zeroOf Tryz.prog 25 = some (.agg #[.slice none 0 0]) := by kernel_rfl
theorem ca51 : callable Tryz.prog 51 = true := by kernel_rfl
theorem st25 : stTy Tryz.prog 25 = some ([(0, 1)], [.slice none 0 0]) := by kernel_rfl
theorem sh25 : tyShape Tryz.prog 25 = some (true, 1) := by kernel_rfl
theorem st100 : stTy Tryz.prog 100 = some ([(0, 1), (1, 1), (2, 1)], [.slice none 0 0, vi 0, vi 0]) := by kernel_rfl
theorem ca54 : callable Tryz.prog 54 = true := by kernel_rfl
theorem sz23 : slZero Tryz.prog 23 = some [.string (bs (Str.mk [])), .slice none 0 0] := by kernel_rfl
theorem fo105_2 : fldOff Tryz.prog 105 2 = some 2 := by kernel_rfl
theorem fo105_3 : fldOff Tryz.prog 105 3 = some 3 := by kernel_rfl
theorem sh112 : tyShape Tryz.prog 112 = some (false, 1) := by kernel_rfl
theorem ze112 : zeroOf Tryz.prog 112 = some (.map none) := by kernel_rfl
theorem ze51 : zeroOf Tryz.prog 51 = some (.slice none 0 0) := by kernel_rfl
theorem ze131 : zeroOf Tryz.prog 131 = some (.nilFunc) := by kernel_rfl
theorem sh131 : tyShape Tryz.prog 131 = some (false, 1) := by kernel_rfl
theorem ca111 : callable Tryz.prog 111 = true := by kernel_rfl
theorem ca110 : callable Tryz.prog 110 = true := by kernel_rfl
theorem ca64 : callable Tryz.prog 64 = true := by kernel_rfl
theorem ca63 : callable Tryz.prog 63 = true := by kernel_rfl
theorem ca65 : callable Tryz.prog 65 = true := by kernel_rfl
theorem ca66 : callable Tryz.prog 66 = true := by kernel_rfl
theorem ca67 : callable Tryz.prog 67 = true := by kernel_rfl
theorem ze36 : zeroOf Tryz.prog 36 = some (.agg #[.slice none 0 0, .slice none 0 0, .slice none 0 0]) := by kernel_rfl
theorem ca14 : callable Tryz.prog 14 = true := by kernel_rfl
theorem sl33 : slTy Tryz.prog 33 = some (76, 4, 32) := by kernel_rfl
theorem sz33 : slZero Tryz.prog 33 = some [vi 0, vi 0, vi 0, vi 0] := by kernel_rfl
theorem sl34 : slTy Tryz.prog 34 = some (22, 1, 24) := by kernel_rfl
theorem sz34 : slZero Tryz.prog 34 = some [.slice none 0 0] := by kernel_rfl
theorem st36 : stTy Tryz.prog 36 = some ([(0, 1), (1, 1), (2, 1)], [.slice none 0 0, .slice none 0 0, .slice none 0 0]) := by kernel_rfl
theorem sh36 : tyShape Tryz.prog 36 = some (true, 3) := by kernel_rfl
theorem fo36_1 : fldOff Tryz.prog 36 1 = some 1 := by kernel_rfl
theorem sh34 : tyShape Tryz.prog 34 = some (false, 1) := by kernel_rfl
theorem fo36_2 : fldOff Tryz.prog 36 2 = some 2 := by kernel_rfl
theorem ca29 : callable Tryz.prog 29 = true := by kernel_rfl
theorem ca42 : callable Tryz.prog 42 = true := by kernel_rfl
theorem ca89 : callable Tryz.prog 89 = true := by kernel_rfl
theorem sz22 : slZero Tryz.prog 22 = some [vi 0] := by kernel_rfl
theorem fo36_0 : fldOff Tryz.prog 36 0 = some 0 := by kernel_rfl
theorem sh33 : tyShape Tryz.prog 33 = some (false, 1) := by kernel_rfl
theorem ca55 : callable Tryz.prog 55 = true := by kernel_rfl
theorem ca58 : callable Tryz.prog 58 = true := by kernel_rfl
theorem fo89_0 : fldOff Tryz.prog 89 0 = some 0 := by kernel_rfl
theorem ki76 : keyInts Tryz.prog 76 4 = true := by kernel_rfl
theorem kk_GNode : KK Tryz.prog 76 ev_GNode ok_GNode := kStruct (fun x : GNode => [x.Kind, x.Func, x.Block, x.Stmt]) ok_GNode ki76 (fun x y h => by cases x; cases y; simpa using h) (fun _ => rfl) (fun x hx y hy => by simp only [List.mem_cons, List.not_mem_nil, or_false] at hy; obtain ⟨h0, h1, h2, h3⟩ := hx; rcases hy with rfl | rfl | rfl | rfl <;> assumption)
theorem mt87 : mpTy Tryz.prog 87 = some (76, 3) := by kernel_rfl
theorem fo89_1 : fldOff Tryz.prog 89 1 = some 3 := by kernel_rfl
theorem sh87 : tyShape Tryz.prog 87 = some (false, 1) := by kernel_rfl
theorem ca113 : callable Tryz.prog 113 = true := by kernel_rfl
theorem ca112 : callable Tryz.prog 112 = true := by kernel_rfl
theorem ca45 : callable Tryz.prog 45 = true := by kernel_rfl
theorem fo76_1 : fldOff Tryz.prog 76 1 = some 1 := by kernel_rfl
theorem fo76_2 : fldOff Tryz.prog 76 2 = some 2 := by kernel_rfl
theorem fo76_3 : fldOff Tryz.prog 76 3 = some 3 := by kernel_rfl
theorem ca68 : callable Tryz.prog 68 = true := by kernel_rfl
theorem ca44 : callable Tryz.prog 44 = true := by kernel_rfl
theorem ca70 : callable Tryz.prog 70 = true := by kernel_rfl
theorem ca69 : callable Tryz.prog 69 = true := by kernel_rfl
theorem ca38 : callable Tryz.prog 38 = true := by kernel_rfl
theorem ca37 : callable Tryz.prog 37 = true := by kernel_rfl
theorem sl80 : slTy Tryz.prog 80 = some (4, 1, 1) := by kernel_rfl
theorem sz80 : slZero Tryz.prog 80 = some [vb false] := by kernel_rfl
theorem ca39 : callable Tryz.prog 39 = true := by kernel_rfl
theorem sh4 : tyShape Tryz.prog 4 = some (false, 1) := by kernel_rfl
theorem ca40 : callable Tryz.prog 40 = true := by kernel_rfl
theorem ca41 : callable Tryz.prog 41 = true := by kernel_rfl
theorem ca43 : callable Tryz.prog 43 = true := by kernel_rfl
theorem st89 : stTy Tryz.prog 89 = some ([(0, 3), (3, 1)], [.slice none 0 0, .slice none 0 0, .slice none 0 0, .map none]) := by kernel_rfl
theorem fo76_0 : fldOff Tryz.prog 76 0 = some 0 := by kernel_rfl
theorem ca46 : callable Tryz.prog 46 = true := by kernel_rfl
theorem st105 : stTy Tryz.prog 105 = some ([(0, 1), (1, 1), (2, 1), (3, 1)], [vi 0, .string (bs (Str.mk [])), vi 0, vi 0]) := by kernel_rfl
theorem sl95 : slTy Tryz.prog 95 = some (105, 4, 40) := by kernel_rfl
theorem sz95 : slZero Tryz.prog 95 = some [vi 0, .string (bs (Str.mk [])), vi 0, vi 0] := by kernel_rfl
theorem fo100_2 : fldOff Tryz.prog 100 2 = some 2 := by kernel_rfl
theorem sh42 : tyShape Tryz.prog 42 = some (false, 1) := by kernel_rfl
theorem fo100_1 : fldOff Tryz.prog 100 1 = some 1 := by kernel_rfl
theorem fo100_0 : fldOff Tryz.prog 100 0 = some 0 := by kernel_rfl
theorem sh95 : tyShape Tryz.prog 95 = some (false, 1) := by kernel_rfl
theorem fo105_0 : fldOff Tryz.prog 105 0 = some 0 := by kernel_rfl
theorem fo105_1 : fldOff Tryz.prog 105 1 = some 1 := by kernel_rfl
theorem ca52 : callable Tryz.prog 52 = true := by kernel_rfl
theorem ca53 : callable Tryz.prog 53 = true := by kernel_rfl
theorem ca114 : callable Tryz.prog 114 = true := by kernel_rfl
theorem ca118 : callable Tryz.prog 118 = true := by kernel_rfl
theorem ca119 : callable Tryz.prog 119 = true := by kernel_rfl
theorem ca85 : callable Tryz.prog 85 = true := by kernel_rfl
theorem ca84 : callable Tryz.prog 84 = true := by kernel_rfl
theorem ca120 : callable Tryz.prog 120 = true := by kernel_rfl
theorem ca121 : callable Tryz.prog 121 = true := by kernel_rfl
theorem sz55 : slZero Tryz.prog 55 = some [vi 0, .string (bs (Str.mk [])), .slice none 0 0, .slice none 0 0] := by kernel_rfl
theorem ca87 : callable Tryz.prog 87 = true := by kernel_rfl
theorem sz52 : slZero Tryz.prog 52 = some [.string (bs (Str.mk [])), .slice none 0 0] := by kernel_rfl
theorem ca88 : callable Tryz.prog 88 = true := by kernel_rfl
theorem ca31 : callable Tryz.prog 31 = true := by kernel_rfl
theorem ca35 : callable Tryz.prog 35 = true := by kernel_rfl
theorem ca36 : callable Tryz.prog 36 = true := by kernel_rfl
theorem ca27 : callable Tryz.prog 27 = true := by kernel_rfl
theorem ca23 : callable Tryz.prog 23 = true := by kernel_rfl
theorem ca18 : callable Tryz.prog 18 = true := by kernel_rfl
theorem un33 : Tryz.prog.underlying 33 = some (.slice 76) := by kernel_rfl
theorem ca59 : callable Tryz.prog 59 = true := by kernel_rfl
theorem un22 : Tryz.prog.underlying 22 = some (.slice 3) := by kernel_rfl
theorem ca56 : callable Tryz.prog 56 = true := by kernel_rfl
theorem ca57 : callable Tryz.prog 57 = true := by kernel_rfl
theorem ca19 : callable Tryz.prog 19 = true := by kernel_rfl
theorem ca30 : callable Tryz.prog 30 = true := by kernel_rfl
theorem st50 : stTy Tryz.prog 50 = some ([(0, 1), (1, 1)], [.slice none 0 0, vi 0]) := by kernel_rfl
theorem ca6 : callable Tryz.prog 6 = true := by kernel_rfl
theorem ca12 : callable Tryz.prog 12 = true := by kernel_rfl
theorem ca13 : callable Tryz.prog 13 = true := by kernel_rfl
theorem ca15 : callable Tryz.prog 15 = true := by kernel_rfl
theorem ca11 : callable Tryz.prog 11 = true := by kernel_rfl
theorem fn18 (a : List Int) (aa0 : Option Addr) (ak0 : Nat) (b : List Int) (ba0 : Option Addr) (bk0 : Nat) (rr : Bool) (hrr : r7_Ints a b = rr) : FT Tryz.prog 18 #[vl aa0 ak0 a, vl ba0 bk0 b] [S aa0 ak0 a, S ba0 bk0 b] (fun g : Unit => True) (fun g => vb rr) (fun g => []) := by
 refine FTi Tryz.func18 fun w0 M0 F0 => Fb 8 0 fun _ => Fo 0 fun ho2 => Fb 8 1 fun _ => Fo 1 fun ho4 => ?_
 refine KS ?_
 refine Oq Va (KS ?_)
 refine Oq Vm (Oq (Vlen sl22) (Oq Vm (Oq (Vlen sl22) (Oq Vneq (KS ?_)))))
 refine Kc ?_ ?_
 ·intro h5
  have g6 := ne_of_bne h5
  refine KS ?_
  refine Oq Va (KS ?_)
  have hq := q4 hrr false (by simp only [r7_Ints, h5, cs4]); subst hq
  exact Kr () rfl (.tmp rfl .nil) [] trivial
 intro h5
 have g7 := eq_of_bne_false h5
 refine KS ?_
 refine Oq Va (KS ?_)
 refine Kl (γ := Nat × Int) (fun (r8, i_9) => ⟨[(0, vl aa0 ak0 a), (1, vl ba0 bk0 b), (5, vi i_9)], [S aa0 ak0 a, S ba0 bk0 b], r7_Ints_L0 a b r8 i_9 = r7_Ints_L0 a b (((a.length : Int) - 0).toNat) 0 ∧ r8 = ((a.length : Int) - i_9).toNat ∧ (0 : Int) ≤ i_9 ∧ i_9 ≤ (a.length : Int) ∧ (-9223372036854775808 ≤ i_9 ∧ i_9 ≤ 9223372036854775807), r8⟩) (((a.length : Int) - 0).toNat, 0) [0, 1] ⟨rfl, rfl, aM1, aM1, aM1⟩ ?_
 rintro ⟨r8, i_9⟩ ⟨hM10, hr11, hi12, hi13, hk14⟩
 refine JJ_nx fun _ _ hL hA => ?_; dsimp only at hL hA; subst hL hA
 refine Fb 8 0 fun _ => Fo 0 fun ho16 => Fb 8 1 fun _ => Fo 1 fun ho18 => KS ?_
 refine Oq Vm (Oq Vm (Oq (Vlen sl22) (Oq Vlss (KS ?_))))
 refine Kc ?_ ?_
 ·intro h19
  have g20 := dt h19
  obtain ⟨r21, rfl⟩ := scc (n := r8) aM1
  refine KS ?_
  refine Kq [0, 0, 3, 7, 0, 0, 48, 112, 255] fmix ?_
  refine Qv [] Vm (Qv [] Vm (Qv [0] (Vi sl22 0) ?_))
  have hb22 := ok1 (i := i_9.toNat) ho16 rng
  refine Qv [0] (VldI sh3 0) (Qv [] Vm (Qv [] Vm (Qv [1] (Vi sl22 0) ?_)))
  have hb23 := ok1 (i := i_9.toNat) ho18 rng
  refine Qv [1] (VldI sh3 0) (Qv [] Vneq ?_)
  refine Qn ⟨by kernel_rfl, ?_⟩
  refine Kc ?_ ?_
  ·intro h24
   have g25 := ne_of_bne h24
   refine KS ?_
   refine Oq Va (KS ?_)
   have hR26 := q2 hM10 (.ret false) (by simp only [r7_Ints_L0, h19, h24, cs4])
   have hq := q4 hrr false (by simp only [r7_Ints, h5, h19, h24, hR26, cs4]); subst hq
   exact Kr () rfl (.tmp rfl .nil) [] trivial
  intro h24
  have g27 := eq_of_bne_false h24
  refine KS ?_
  refine Oq Vm (Oq Vadd (Oq Va (KS ?_)))
  exact Kg (r21, (i_9 + 1)) [0, 1] ⟨(q3 hM10 (by simp only [r7_Ints_L0, h19, h24, cs4])), aM1, aM1, aM1, aM1⟩
 intro h19
 have g28 := df h19
 obtain rfl : r8 = 0 := by omega
 refine Ke ?_
 have hR29 := q2 hM10 (.brk ()) (by simp only [r7_Ints_L0, h19, cs4])
 refine KS ?_
 refine Oq Va (KS ?_)
 have hq := q4 hrr true (by simp only [r7_Ints, h5, h19, hR29, cs4]); subst hq
 exact Kr () rfl (.tmp rfl .nil) [] trivial
theorem fn127 (x : Int) (hx_0 : i64ok x) (rr : Bool) (hrr : cmp_isNaN_int x = rr) : FT Tryz.prog 127 #[vi x] [] (fun g : Unit => True) (fun g => vb rr) (fun g => []) := by
 refine FTi Tryz.func127 fun w0 M0 F0 => ?_
 unfold i64ok at hx_0
 refine KS ?_
 refine Oq Va (KS ?_)
 refine Oq Vm (Oq Vm (Oq Vneq (Oq Va (KS ?_))))
 have hq := q4 hrr (x != x) (by simp only [cmp_isNaN_int, cs4]); subst hq
 exact Kr () rfl (.tmp rfl .nil) [] trivial
theorem fn96 (x : Int) (y : Int) (hx_0 : i64ok x) (hy_0 : i64ok y) (rr : Bool) (hrr : cmp_Less_int x y = rr) : FT Tryz.prog 96 #[vi x, vi y] [] (fun g : Unit => True) (fun g => vb rr) (fun g => []) := by
 refine FTi Tryz.func96 fun w0 M0 F0 => ?_
 unfold i64ok at hx_0 hy_0
 refine KS ?_
 refine Oq Va (KS ?_)
 refine Oq Vm ?_
 refine letv (cmp_isNaN_int x) fun rv1 hg2 => ?_
 have hc3 := fn127 x pre rv1 hg2
 refine Oc [] ca127 hc3 ?_
 rintro - -
 refine Oq Vm ?_
 refine Js 7 ?_ ?_
 ·intro h4
  refine Oq Vm ?_
  refine letv (cmp_isNaN_int y) fun rv6 hg7 => ?_
  have hc8 := fn127 y pre rv6 hg7
  refine Oc [] ca127 hc8 ?_
  rintro - -
  refine Oq Vnot (Oq Vpt (Oq Vm ?_))
  refine Js 12 ?_ ?_
  ·intro h9
   have h11 := not_true h9
   refine Osk (Osk (Osk (Oq Vpt (Oq Va (KS ?_)))))
   have hq := q4 hrr true (by simp only [cmp_Less_int, h4, h9, h11, hg2, hg7, cs4]); subst hq
   exact Kr () rfl (.tmp rfl .nil) [] trivial
  intro h9
  have h14 := not_false h9
  refine Oq Vm (Oq Vm (Oq Vlss (Oq Vpf (Oq Va (KS ?_)))))
  have hq := q4 hrr (decide (x < y)) (by simp only [cmp_Less_int, h4, h9, h14, hg2, hg7, cs4]); subst hq
  exact Kr () rfl (.tmp rfl .nil) [] trivial
 intro h4
 refine Osk (Osk (Osk (Oq Vpf (Oq Vm (Oq Vm (Oq Vm (Oq Vlss (Oq Vpf (Oq Va ?_)))))))))
 refine KS ?_
 have hq := q4 hrr (decide (x < y)) (by simp only [cmp_Less_int, h4, hg2, cs4]); subst hq
 exact Kr () rfl (.tmp rfl .nil) [] trivial
theorem fn90 (data : List Int) (dataa0 : Option Addr) (datak0 : Nat) (a : Int) (b : Int) (ha_0 : i64ok a) (hb_0 : i64ok b) (ha0 : 0 ≤ a ∧ a ≤ b ∧ b ≤ (data.length : Int)) (rr : List Int) (hrr : sc_insertionSortOrdered_int data a b = rr) : FT Tryz.prog 90 #[vl dataa0 datak0 data, vi a, vi b] [O dataa0 datak0 data] (fun g : Unit => True) (fun g => .tuple #[]) (fun g => [os (vl dataa0 datak0 data) rr]) := by
 refine FTi Tryz.func90 fun w0 M0 F0 => ?_
 unfold i64ok at ha_0 hb_0
 refine Fb 8 0 fun _ => Fo 0 fun ho2 => KS ?_
 refine Oq Vm (Oq Vadd (Oq Va (KS ?_)))
 refine Kl (γ := Nat × List Int × Int) (fun (r3, data_4, i_5) => ⟨[(0, vl dataa0 datak0 data), (1, vi a), (2, vi b), (6, vi i_5)], [os (vl dataa0 datak0 data) data_4], sc_insertionSortOrdered_int_L0 a r3 data_4 i_5 = sc_insertionSortOrdered_int_L0 a (((b : Int) - (a + 1)).toNat) data (a + 1) ∧ r3 = ((b : Int) - i_5).toNat ∧ ((a + 1) : Int) ≤ i_5 ∧ (i_5 ≤ b ∨ i_5 = (a + 1)) ∧ (-9223372036854775808 ≤ i_5 ∧ i_5 ≤ 9223372036854775807), r3⟩) (((b : Int) - (a + 1)).toNat, data, (a + 1)) [0] ⟨rfl, rfl, aM1, (.inr rfl), aM1⟩ ?_
 rintro ⟨r3, data_4, i_5⟩ ⟨hM6, hr7, hi8, hi9, hk10⟩
 refine JJ_nx fun _ _ hL hA => ?_; dsimp only at hL hA; subst hL hA
 refine Fb 8 0 fun _ => Fo 0 fun ho12 => Fl 0 fun hn13 => ?_
 refine KS ?_
 refine Oq Vm (Oq Vm (Oq Vlss (KS ?_)))
 refine Kc ?_ ?_
 ·intro h14
  have g15 := dt h14
  obtain ⟨r16, rfl⟩ := scc (n := r3) aM1
  refine KS ?_
  refine Oq Vm (Oq Va (KS ?_))
  refine Kl (γ := Nat × List Int × Int) (fun (r17, data_18, j_19) => ⟨[(0, vl dataa0 datak0 data), (1, vi a), (2, vi b), (6, vi i_5), (7, vi j_19)], [os (vl dataa0 datak0 data) data_18], sc_insertionSortOrdered_int_L1 r17 data_18 j_19 = sc_insertionSortOrdered_int_L1 (((i_5 : Int) - a).toNat) data_4 i_5 ∧ r17 = ((j_19 : Int) - a).toNat ∧ j_19 ≤ (i_5 : Int) ∧ (-9223372036854775808 ≤ j_19 ∧ j_19 ≤ 9223372036854775807), r17⟩) (((i_5 : Int) - a).toNat, data_4, i_5) [0] ⟨rfl, rfl, aM1, aM1⟩ ?_
  rintro ⟨r17, data_18, j_19⟩ ⟨hM20, hr21, hi22, hk23⟩
  refine JJ_nx fun _ _ hL hA => ?_; dsimp only at hL hA; subst hL hA
  refine Fb 8 0 fun _ => Fo 0 fun ho25 => Fl 0 fun hn26 => ?_
  refine KS ?_
  refine JK_drawK [0, 0, 3, 7, 15, 15, 63, 127, 15, 15, 527, 1807, 3855, 8191, 16383] fmix ?_
  refine Dv [] Vm (Dv [] Vm (Dv [] Vgtr ?_))
  refine bool_split (decide (a < j_19)) ?_ ?_
  ·intro h27
   have g28 := dt h27
   obtain ⟨r29, rfl⟩ := scc (n := r17) aM1
   refine Db h27 [] Vm (Dv [] Vm (Dv [] Vm (Dv [0] (Vi sl22 0) ?_)))
   have hb30 := ok1 (i := j_19.toNat) ho25 rng
   refine Dv [0] (VldI sh3 0) (Dv [] Vm (Dv [] Vm (Dv [] Vsub (Dv [0] (Vi sl22 0) ?_))))
   have hb31 := ok1 (i := ((j_19 - 1) : Int).toNat) ho25 rng
   refine Dv [0] (VldI sh3 0) ?_
   refine letv (cmp_Less_int (data_18.getD j_19.toNat 0) (data_18.getD ((j_19 - 1) : Int).toNat 0)) fun rv32 hg33 => ?_
   refine Dx [] [] [0] (fun G => vb rv32) [fun G => SP.fact (True)] (fun G => xC [] ca96 (fn96 ((data_18.getD j_19.toNat 0)) ((data_18.getD ((j_19 - 1) : Int).toNat 0)) pre pre rv32 hg33)) (Dv [] Vpt ?_)
   refine Dn ⟨by kernel_rfl, fun G => ?_⟩
   refine Jw2 [(0, vl dataa0 datak0 data), (1, vi a), (2, vi b), (6, vi i_5), (7, vi j_19), (30, vb rv32)] [0] [SP.fact (True)] ?_
   refine Jk [0] ?_
   refine Kc ?_ ?_
   ·intro h34
    refine KS ?_
    refine JK_drawK [0, 0, 0, 0, 8, 0, 0, 64, 224, 480, 0, 0, 3072, 7168, 16355, 32739, 65535, 131071] fmix ?_
    refine Dv [] Vm (Dv [] Vm (Dv [] Vm (Dv [] Vm (Dv [] Vsub (Dv [] Vm (Dv [] Vm (Dv [] Vsub (Dv [0] (Vi sl22 0) ?_))))))))
    have hb36 := ok1 (i := ((j_19 - 1) : Int).toNat) ho25 rng
    refine Dv [0] (VldI sh3 0) (Dv [] Vm (Dv [] Vm (Dv [0] (Vi sl22 0) ?_)))
    have hb37 := ok1 (i := j_19.toNat) ho25 rng
    refine Dv [0] (VldI sh3 0) (Dv [0] (Vi sl22 0) (Dx0 [0] [0] [0] [fun G => os (vl dataa0 datak0 data) (data_18.set j_19.toNat (data_18.getD ((j_19 - 1) : Int).toNat 0))] (fun G => xS (SoI [0] sh3)) (Dv [1] (Vi sl22 0) (Dx0 [1] [1] [0] [fun G => os (vl dataa0 datak0 data) ((data_18.set j_19.toNat (data_18.getD ((j_19 - 1) : Int).toNat 0)).set ((j_19 - 1) : Int).toNat (data_18.getD j_19.toNat 0))] (fun G => xS (SoI [0] sh3)) ?_))))
    refine Dn ⟨by kernel_rfl, fun G => ?_⟩
    refine Jw2 [(0, vl dataa0 datak0 data), (1, vi a), (2, vi b), (6, vi i_5), (7, vi j_19)] [] [os (vl dataa0 datak0 data) ((data_18.set j_19.toNat (data_18.getD ((j_19 - 1) : Int).toNat 0)).set ((j_19 - 1) : Int).toNat (data_18.getD j_19.toNat 0))] ?_
    refine KS ?_
    refine Oq Vm (Oq Vsub (Oq Va (KS ?_)))
    exact Kg (r29, ((data_18.set j_19.toNat (data_18.getD ((j_19 - 1) : Int).toNat 0)).set ((j_19 - 1) : Int).toNat (data_18.getD j_19.toNat 0)), (j_19 - 1)) [0] ⟨(q3 hM20 (by simp only [sc_insertionSortOrdered_int_L1, h27, h34, hg33, cs4])), aM1, aM1, aM1⟩
   intro h34
   refine Ke ?_
   have hR39 := q2 hM20 data_18 (by simp only [sc_insertionSortOrdered_int_L1, h27, h34, hg33, cs4])
   refine KS ?_
   refine Oq Vm (Oq Vadd (Oq Va (KS ?_)))
   exact Kg (r16, data_18, (i_5 + 1)) [0] ⟨(q3 hM6 (by simp only [sc_insertionSortOrdered_int_L0, h14, h27, h34, hg33, hR39, cs4])), aM1, aM1, aM1, aM1⟩
  intro h27
  have g40 := df h27
  obtain rfl : r17 = 0 := by omega
  refine Db h27 [] Vm (Ds (Ds (Ds (Ds (Ds (Ds (Ds (Ds (Ds ?_)))))))))
  refine Ds (Dv [] Vpf ?_)
  refine Dn ⟨by kernel_rfl, fun G => ?_⟩
  refine Jw2 [(0, vl dataa0 datak0 data), (1, vi a), (2, vi b), (6, vi i_5), (7, vi j_19), (30, vb false)] [0] [] ?_
  refine Kf ?_
  refine Ke ?_
  have hR41 := q2 hM20 data_18 (by simp only [sc_insertionSortOrdered_int_L1, h27, cs4])
  refine KS ?_
  refine Oq Vm (Oq Vadd (Oq Va (KS ?_)))
  exact Kg (r16, data_18, (i_5 + 1)) [0] ⟨(q3 hM6 (by simp only [sc_insertionSortOrdered_int_L0, h14, h27, hR41, cs4])), aM1, aM1, aM1, aM1⟩
 intro h14
 have g42 := df h14
 obtain rfl : r3 = 0 := by omega
 refine Ke ?_
 have hR43 := q2 hM6 data_4 (by simp only [sc_insertionSortOrdered_int_L0, h14, cs4])
 refine Fl 0 fun hn44 => ?_
 have hq := q4 hrr data_4 (by simp only [sc_insertionSortOrdered_int, h14, hR43, cs4]); subst hq
 exact Kz () rfl .nil [0] trivial
theorem fn60 (data : List Int) (dataa0 : Option Addr) (datak0 : Nat) (a : Int) (b : Int) (limit : Int) (ha_0 : i64ok a) (hb_0 : i64ok b) (hlimit_0 : i64ok limit) (ha0 : 0 ≤ a ∧ a ≤ b ∧ b ≤ (data.length : Int) ∧ b - a ≤ 12) (rr : List Int) (hrr : sc_pdqsortOrdered_int data a b limit = rr) : FT Tryz.prog 60 #[vl dataa0 datak0 data, vi a, vi b, vi limit] [O dataa0 datak0 data] (fun g : Unit => True) (fun g => .tuple #[]) (fun g => [os (vl dataa0 datak0 data) rr]) := by
 refine FTi Tryz.func60 fun w0 M0 F0 => ?_
 unfold i64ok at ha_0 hb_0 hlimit_0
 refine Fb 8 0 fun _ => Fo 0 fun ho2 => KS ?_
 refine Oq Va (KS ?_)
 refine Oq Va (KS ?_)
 have hterm5 : sc_pdqsortOrdered_int_L0 data a b 1 ≠ LR.oof := (by unfold sc_pdqsortOrdered_int_L0; intro h; simp only [Bool.cond_eq_ite] at h; (repeat' split at h) <;> cases h)
 refine Kl (γ := Nat) (fun r3 => ⟨[(0, vl dataa0 datak0 data), (1, vi a), (2, vi b), (3, vi limit), (8, vb true), (9, vb true)], [O dataa0 datak0 data], sc_pdqsortOrdered_int_L0 data a b r3 = sc_pdqsortOrdered_int_L0 data a b 1, r3⟩) 1 [0] rfl ?_
 rintro r3 hM4
 refine JJ_nx fun _ _ hL hA => ?_; dsimp only at hL hA; subst hL hA
 refine Fb 8 0 fun _ => Fo 0 fun ho7 => ?_
 rcases r3 with _ | r3
 ·exact absurd (hM4.symm.trans rfl) hterm5
 refine KS ?_
 refine Oq Vm (Oq Vm (Oq Vsub (Oq Va (KS ?_))))
 refine Oq Vm (Oq Vleq (KS ?_))
 refine Kc ?_ ?_
 ·intro h8
  have g9 := dt h8
  refine KS ?_
  refine Oq Vm (Oq Vm (Oq Vm ?_))
  refine letv (sc_insertionSortOrdered_int data a b) fun rv10 hg11 => ?_
  have hc12 := fn90 data dataa0 datak0 a b pre pre pre rv10 hg11
  refine Oc [0] ca90 hc12 ?_
  rintro - -
  refine Fb 8 0 fun _ => Fo 0 fun ho14 => KS ?_
  refine Fl 0 fun hn15 => ?_
  have hR16 := q2 hM4 (.ret rv10) (by simp only [sc_pdqsortOrdered_int_L0, h8, hg11, cs4])
  have hq := q4 hrr rv10 (by simp only [sc_pdqsortOrdered_int, h8, hg11, hR16, cs4]); subst hq
  exact Kr () rfl .nil [0] trivial
 intro h8
 have g17 := df h8
 exfalso; omega
theorem fn100 (x : BitVec 64) (hx0 : x.toNat ≤ 255) (rr : Int) (hrr : bits_Len64 x = rr) : FT Tryz.prog 100 #[u64 x] [] (fun g : Unit => i64ok rr) (fun g => vi rr) (fun g => []) := by
 refine FTi Tryz.func100 fun w0 M0 F0 => ?_
 refine KS ?_
 refine Oq Va (KS ?_)
 refine Oq Vm (Oq (Vgeq (a := (x.toNat : Int)) (b := 4294967296)) (KS ?_))
 refine Kc ?_ ?_
 ·intro h1
  have g2 := dt h1
  exfalso; omega
 intro h1
 have g3 := df h1
 refine KS ?_
 refine Oq Vm (Oq (Vgeq (a := (x.toNat : Int)) (b := 65536)) (KS ?_))
 refine Kc ?_ ?_
 ·intro h4
  have g5 := dt h4
  exfalso; omega
 intro h4
 have g6 := df h4
 refine KS ?_
 refine Oq Vm (Oq (Vgeq (a := (x.toNat : Int)) (b := 256)) (KS ?_))
 refine Kc ?_ ?_
 ·intro h7
  have g8 := dt h7
  exfalso; omega
 intro h7
 have g9 := df h7
 refine KS ?_
 refine Oq Vm (Oq Vm (Oq (VcU8 un146 un5) ?_))
 refine Oq (Vix un9 (l := tab0) (h := ⟨by omega, by rw [show tab0.b.length = 256 from rfl]; omega⟩)) ?_
 have hb10 := u8b (tab0.b.getD ((x.toNat : Int) : Int).toNat 0)
 refine Oq (VcK un5 un3) (Oq Vadd (Oq Va (KS ?_)))
 have hq := q4 hrr (0 + ((tab0.b.getD ((x.toNat : Int) : Int).toNat 0).toNat : Int)) (by simp only [bits_Len64, h1, h4, h7, cs4]); subst hq
 exact Kr () rfl (.tmp rfl .nil) [] en
theorem fn61 (x : BitVec 64) (hx0 : x.toNat ≤ 255) (rr : Int) (hrr : bits_Len x = rr) : FT Tryz.prog 61 #[u64 x] [] (fun g : Unit => i64ok rr) (fun g => vi rr) (fun g => []) := by
 refine FTi Tryz.func61 fun w0 M0 F0 => ?_
 refine KS ?_
 refine Oq Va (KS ?_)
 refine Kf (KS ?_)
 refine Oq Vm ?_
 refine letv (bits_Len64 x) fun rv1 hg2 => ?_
 have hc3 := fn100 x pre rv1 hg2
 refine Oc [] ca100 hc3 ?_
 rintro - he4
 unfold i64ok at he4
 refine Oq Va (KS ?_)
 have hq := q4 hrr rv1 (by simp only [bits_Len, hg2, cs4]); subst hq
 exact Kr () rfl (.tmp rfl .nil) [] en
theorem fn40 (x : List Int) (xa0 : Option Addr) (xk0 : Nat) (ha0 : x.length ≤ 12) (rr : List Int) (hrr : sc_Sort_int x = rr) : FT Tryz.prog 40 #[vl xa0 xk0 x] [O xa0 xk0 x] (fun g : Unit => (rr.length = x.length)) (fun g => .tuple #[]) (fun g => [os (vl xa0 xk0 x) rr]) := by
 refine FTi Tryz.func40 fun w0 M0 F0 => Fb 8 0 fun _ => Fo 0 fun ho2 => ?_
 refine KS ?_
 refine Oq Vm (Oq (Vlen sl22) (Oq Va (KS ?_)))
 refine Oq Vm (Oq Vm (Oq Vm (Oq (VcU un3 un108) ?_)))
 refine letv (bits_Len (BitVec.ofInt 64 (x.length : Int))) fun rv3 hg4 => ?_
 have hc5 := fn61 ((BitVec.ofInt 64 (x.length : Int))) (ofInt_le aM1) rv3 hg4
 refine Oc [] ca61 hc5 ?_
 rintro - he6
 unfold i64ok at he6
 refine letv (sc_pdqsortOrdered_int x 0 (x.length : Int) rv3) fun rv7 hg8 => ?_
 have hc9 := fn60 x xa0 xk0 0 ((x.length : Int)) rv3 pre pre pre pre rv7 hg8
 refine Oc [0] ca60 hc9 ?_
 rintro - -
 refine Fb 8 0 fun _ => Fo 0 fun ho11 => KS ?_
 refine Fl 0 fun hn12 => ?_
 have hq := q4 hrr rv7 (by simp only [sc_Sort_int, hg4, hg8, cs4]); subst hq
 exact Kz () rfl .nil [0] (by rw [← hrr, Sort_eq, srtK_len])
theorem fn128 (c : Int) (hc_0 : 0 ≤ c ∧ c ≤ 255) (rr : Bool) (hrr : lx_letter c = rr) : FT Tryz.prog 128 #[.int .u8 c] [] (fun g : Unit => True) (fun g => vb rr) (fun g => []) := by
 refine FTi Tryz.func128 fun w0 M0 F0 => ?_
 refine KS ?_
 refine Oq Va (KS ?_)
 refine Oq Vm (Oq Vgeq (Oq Vm ?_))
 refine Js 5 ?_ ?_
 ·intro h1
  have g2 := dt h1
  refine Oq Vm (Oq Vleq (Oq Vpt (Oq Vm ?_)))
  refine Js 9 ?_ ?_
  ·intro h3
   have g4 := dt h3
   refine Osk (Osk (Osk (Osk (Osk (Osk (Oq Vpt (Oq Va (KS ?_))))))))
   have hq := q4 hrr true (by simp only [lx_letter, h1, h3, cs4]); subst hq
   exact Kr () rfl (.tmp rfl .nil) [] trivial
  intro h3
  have g5 := df h3
  refine Oq Vm (Oq Vgeq (Oq Vm ?_))
  refine Js 12 ?_ ?_
  ·intro h6
   have g7 := dt h6
   refine Oq Vm (Oq Vleq (Oq Vpt (Oq Vpf (Oq Va (KS ?_)))))
   have hq := q4 hrr (decide (c ≤ 90)) (by simp only [lx_letter, h1, h3, h6, cs4]); subst hq
   exact Kr () rfl (.tmp rfl .nil) [] trivial
  intro h6
  have g8 := df h6
  refine Osk (Osk (Oq Vpf (Oq Vpf (Oq Va (KS ?_)))))
  have hq := q4 hrr false (by simp only [lx_letter, h1, h3, h6, cs4]); subst hq
  exact Kr () rfl (.tmp rfl .nil) [] trivial
 intro h1
 have g9 := df h1
 refine Osk (Osk (Oq Vpf (Oq Vm (Oq Vm (Oq Vgeq (Oq Vm ?_))))))
 refine Js 12 ?_ ?_
 ·intro h10
  have g11 := dt h10
  refine Oq Vm (Oq Vleq (Oq Vpt (Oq Vpf (Oq Va (KS ?_)))))
  have hq := q4 hrr (decide (c ≤ 90)) (by simp only [lx_letter, h1, h10, cs4]); subst hq
  exact Kr () rfl (.tmp rfl .nil) [] trivial
 intro h10
 have g12 := df h10
 refine Osk (Osk (Oq Vpf (Oq Vpf (Oq Va (KS ?_)))))
 have hq := q4 hrr false (by simp only [lx_letter, h1, h10, cs4]); subst hq
 exact Kr () rfl (.tmp rfl .nil) [] trivial
end Go.SL.G
