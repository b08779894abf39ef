/- Part 2 of the walks: mirrors, plain laws and walks used by the last text of this claim. -/
import Derived.Test.YtnlgcebcopebdaaDoorW1
import Derived.Test.YtnlgcebcopebdaaDoorProg
set_option linter.unusedVariables false
set_option linter.unusedSimpArgs false
namespace Go.SL.G
open Go Go.SL Go.Proofs
structure Qax where
 Op : Int
 Def : Str
 Uses : List Str
 Targets : List Str
instance : Inhabited Qax := ⟨⟨0, ⟨[]⟩, [], []⟩⟩
structure QaM where
 Name : Str
 Stmts : List Qax
instance : Inhabited QaM := ⟨⟨⟨[]⟩, []⟩⟩
structure Qbv where
 Name : Str
 Blocks : List QaM
instance : Inhabited Qbv := ⟨⟨⟨[]⟩, []⟩⟩
structure Qaj where
 Funcs : List Qbv
instance : Inhabited Qaj := ⟨⟨[]⟩⟩
structure Qay where
 Kind : Int
 Func : Int
 Block : Int
 Stmt : Int
instance : Inhabited Qay := ⟨⟨0, 0, 0, 0⟩⟩
structure Qbn where
 Nodes : List Qay
 Succ : List (List Int)
 Pred : List (List Int)
instance : Inhabited Qbn := ⟨⟨[], [], []⟩⟩
structure QaD where
 g : Qbn
 number : List (Qay × Int)
instance : Inhabited QaD := ⟨⟨⟨[], [], []⟩, []⟩⟩
structure QaN where
 Kind : Int
 Text : Str
 Line : Int
 Col : Int
instance : Inhabited QaN := ⟨⟨0, ⟨[]⟩, 0, 0⟩⟩
structure Qab where
 l : List QaN
 at_ : Int
 Err : Int
instance : Inhabited Qab := ⟨⟨[], 0, 0⟩⟩
def Qj6 : Str := (Str.mk [0, 1, 2, 2, 3, 3, 3, 3, 4, 4, 4, 4, 4, 4, 4, 4, 5, 5, 5, 5, 5, 5, 5, 5, 5, 5, 5, 5, 5, 5, 5, 5, 6, 6, 6, 6, 6, 6, 6, 6, 6, 6, 6, 6, 6, 6, 6, 6, 6, 6, 6, 6, 6, 6, 6, 6, 6, 6, 6, 6, 6, 6, 6, 6, 7, 7, 7, 7, 7, 7, 7, 7, 7, 7, 7, 7, 7, 7, 7, 7, 7, 7, 7, 7, 7, 7, 7, 7, 7, 7, 7, 7, 7, 7, 7, 7, 7, 7, 7, 7, 7, 7, 7, 7, 7, 7, 7, 7, 7, 7, 7, 7, 7, 7, 7, 7, 7, 7, 7, 7, 7, 7, 7, 7, 7, 7, 7, 7, 8, 8, 8, 8, 8, 8, 8, 8, 8, 8, 8, 8, 8, 8, 8, 8, 8, 8, 8, 8, 8, 8, 8, 8, 8, 8, 8, 8, 8, 8, 8, 8, 8, 8, 8, 8, 8, 8, 8, 8, 8, 8, 8, 8, 8, 8, 8, 8, 8, 8, 8, 8, 8, 8, 8, 8, 8, 8, 8, 8, 8, 8, 8, 8, 8, 8, 8, 8, 8, 8, 8, 8, 8, 8, 8, 8, 8, 8, 8, 8, 8, 8, 8, 8, 8, 8, 8, 8, 8, 8, 8, 8, 8, 8, 8, 8, 8, 8, 8, 8, 8, 8, 8, 8, 8, 8, 8, 8, 8, 8, 8, 8, 8, 8, 8, 8, 8, 8, 8, 8, 8, 8, 8, 8, 8, 8, 8, 8])
def kwL : List Str := [⟨[102, 117, 110, 99]⟩, ⟨[98, 108, 111, 99, 107]⟩, ⟨[101, 110, 100]⟩, ⟨[117, 115, 101]⟩, ⟨[99, 97, 108, 108]⟩, ⟨[115, 111, 117, 114, 99, 101]⟩, ⟨[115, 105, 110, 107]⟩, ⟨[115, 97, 110, 105, 116, 105, 122, 101]⟩, ⟨[103, 111, 116, 111]⟩, ⟨[98, 114, 97, 110, 99, 104]⟩, ⟨[114, 101, 116, 117, 114, 110]⟩]
instance : DecidableEq Qay := fun a b => decidable_of_iff (a.Kind = b.Kind /\ a.Func = b.Func /\ a.Block = b.Block /\ a.Stmt = b.Stmt) (by cases a; cases b; simp)
abbrev Qb7 (x : Qay) : Prop := Qac x.Kind /\ Qac x.Func /\ Qac x.Block /\ Qac x.Stmt
abbrev Qch (x : Qay) : Value := .agg #[vi x.Kind, vi x.Func, vi x.Block, vi x.Stmt]
instance Qr7 : Rep Qax where
 sz := 4
 bytes := 72
 pos := by decide
 bpos := by decide
 rd w M cs x := ∃ c2 c3, cs = [.int .i64 x.Op, .string (bs x.Def), c2, c3] /\ Qac x.Op /\ x.Def.b.length <= 140737488355328 /\ QjA w M c2 x.Uses /\ QjA w M c3 x.Targets
 len := by rintro w M cs x ⟨c2, c3, rfl, h0, h1, h2, h3⟩; rfl
 one := by
  rintro w M cs x ⟨c2, c3, rfl, h0, h1, h2, h3⟩ v hv
  simp only [List.mem_cons, List.not_mem_nil, or_false] at hv
  rcases hv with rfl | rfl | rfl | rfl
  all_goals first | rfl | exact Qfi h2 | exact Qfi h3
 st := by
  rintro w M cs x w' M' ⟨c2, c3, rfl, h0, h1, h2, h3⟩ e
  exact ⟨c2, c3, rfl, h0, h1, Qfu h2 e, Qfu h3 e⟩
theorem QdP {C : Cx} {X : Act -> World -> Prop} {L : Env} {A : List SP} {c : Value} {xs : List Qax} (i m : Nat) (hA : A[m]? = some (sl c xs)) (hi : i < xs.length)
  (h : ∀ (a2 : Option Addr) (k2 : Nat) (a3 : Option Addr) (k3 : Nat), Qac (xs.getD i default).Op -> ((xs.getD i default).Def).b.length <= 140737488355328 -> JJ C X L (pv (QgF 4 c i) [.int .i64 (xs.getD i default).Op, .string (bs (xs.getD i default).Def), .slice a2 (xs.getD i default).Uses.length k2, .slice a3 (xs.getD i default).Targets.length k3] :: sl (.slice a2 (xs.getD i default).Uses.length k2) (xs.getD i default).Uses :: sl (.slice a3 (xs.getD i default).Targets.length k3) (xs.getD i default).Targets :: A)) : JJ C X L A := by
 refine Qim i m hA hi default fun cs => ?_
 intro a w M F st
 obtain ⟨F1, F2, q1, q2, qd, hp, F3, F4, q3, q4, qd2, hr, hs⟩ := st.sp
 obtain ⟨c2, c3, rfl, h0, h1, h2, h3⟩ := hr
 have g2 := h2
 obtain ⟨_, a2, k2, rfl, _⟩ := h2
 have g3 := h3
 obtain ⟨_, a3, k3, rfl, _⟩ := h3
 exact h a2 k2 a3 k3 h0 h1 a w M F ⟨st.step, st.sz, st.df, st.sat, F1, F2, q1, q2, qd, hp, ⟨fun _ => False, _, fun _ h => h.elim, fun _ h => h, fun _ h _ => h, g2, ⟨fun _ => False, _, fun _ h => h.elim, fun _ h => h, fun _ h _ => h, g3, Qej hs q4⟩⟩⟩
instance QqP : Rep QaM where
 sz := 2
 bytes := 40
 pos := by decide
 bpos := by decide
 rd w M cs x := ∃ c1, cs = [.string (bs x.Name), c1] /\ x.Name.b.length <= 140737488355328 /\ QjA w M c1 x.Stmts
 len := by rintro w M cs x ⟨c1, rfl, h0, h1⟩; rfl
 one := by
  rintro w M cs x ⟨c1, rfl, h0, h1⟩ v hv
  simp only [List.mem_cons, List.not_mem_nil, or_false] at hv
  rcases hv with rfl | rfl
  all_goals first | rfl | exact Qfi h1
 st := by
  rintro w M cs x w' M' ⟨c1, rfl, h0, h1⟩ e
  exact ⟨c1, rfl, h0, Qfu h1 e⟩
theorem QcK {C : Cx} {X : Act -> World -> Prop} {L : Env} {A : List SP} {c : Value} {xs : List QaM} (i m : Nat) (hA : A[m]? = some (sl c xs)) (hi : i < xs.length)
  (h : ∀ (a1 : Option Addr) (k1 : Nat), ((xs.getD i default).Name).b.length <= 140737488355328 -> JJ C X L (pv (QgF 2 c i) [.string (bs (xs.getD i default).Name), .slice a1 (xs.getD i default).Stmts.length k1] :: sl (.slice a1 (xs.getD i default).Stmts.length k1) (xs.getD i default).Stmts :: A)) : JJ C X L A := by
 refine Qim i m hA hi default fun cs => ?_
 intro a w M F st
 obtain ⟨F1, F2, q1, q2, qd, hp, F3, F4, q3, q4, qd2, hr, hs⟩ := st.sp
 obtain ⟨c1, rfl, h0, h1⟩ := hr
 have g1 := h1
 obtain ⟨_, a1, k1, rfl, _⟩ := h1
 exact h a1 k1 h0 a w M F ⟨st.step, st.sz, st.df, st.sat, F1, F2, q1, q2, qd, hp, ⟨fun _ => False, _, fun _ h => h.elim, fun _ h => h, fun _ h _ => h, g1, Qej hs q4⟩⟩
instance Qr0 : Rep Qbv where
 sz := 2
 bytes := 40
 pos := by decide
 bpos := by decide
 rd w M cs x := ∃ c1, cs = [.string (bs x.Name), c1] /\ x.Name.b.length <= 140737488355328 /\ QjA w M c1 x.Blocks
 len := by rintro w M cs x ⟨c1, rfl, h0, h1⟩; rfl
 one := by
  rintro w M cs x ⟨c1, rfl, h0, h1⟩ v hv
  simp only [List.mem_cons, List.not_mem_nil, or_false] at hv
  rcases hv with rfl | rfl
  all_goals first | rfl | exact Qfi h1
 st := by
  rintro w M cs x w' M' ⟨c1, rfl, h0, h1⟩ e
  exact ⟨c1, rfl, h0, Qfu h1 e⟩
theorem QcR {C : Cx} {X : Act -> World -> Prop} {L : Env} {A : List SP} {c : Value} {xs : List Qbv} (i m : Nat) (hA : A[m]? = some (sl c xs)) (hi : i < xs.length)
  (h : ∀ (a1 : Option Addr) (k1 : Nat), ((xs.getD i default).Name).b.length <= 140737488355328 -> JJ C X L (pv (QgF 2 c i) [.string (bs (xs.getD i default).Name), .slice a1 (xs.getD i default).Blocks.length k1] :: sl (.slice a1 (xs.getD i default).Blocks.length k1) (xs.getD i default).Blocks :: A)) : JJ C X L A := by
 refine Qim i m hA hi default fun cs => ?_
 intro a w M F st
 obtain ⟨F1, F2, q1, q2, qd, hp, F3, F4, q3, q4, qd2, hr, hs⟩ := st.sp
 obtain ⟨c1, rfl, h0, h1⟩ := hr
 have g1 := h1
 obtain ⟨_, a1, k1, rfl, _⟩ := h1
 exact h a1 k1 h0 a w M F ⟨st.step, st.sz, st.df, st.sat, F1, F2, q1, q2, qd, hp, ⟨fun _ => False, _, fun _ h => h.elim, fun _ h => h, fun _ h _ => h, g1, Qej hs q4⟩⟩
instance Qo8 : Rep Qaj where
 sz := 1
 bytes := 24
 pos := by decide
 bpos := by decide
 rd w M cs x := ∃ c0, cs = [c0] /\ QjA w M c0 x.Funcs
 len := by rintro w M cs x ⟨c0, rfl, h0⟩; rfl
 one := by
  rintro w M cs x ⟨c0, rfl, h0⟩ v hv
  simp only [List.mem_cons, List.not_mem_nil, or_false] at hv
  rcases hv with rfl
  all_goals first | rfl | exact Qfi h0
 st := by
  rintro w M cs x w' M' ⟨c0, rfl, h0⟩ e
  exact ⟨c0, rfl, Qfu h0 e⟩
instance QrB : Rep Qay where
 sz := 4
 bytes := 32
 pos := by decide
 bpos := by decide
 rd w M cs x := cs = [.int .i64 x.Kind, .int .i64 x.Func, .int .i64 x.Block, .int .i64 x.Stmt] /\ Qac x.Kind /\ Qac x.Func /\ Qac x.Block /\ Qac x.Stmt
 len := by rintro w M cs x ⟨rfl, h0, h1, h2, h3⟩; rfl
 one := by
  rintro w M cs x ⟨rfl, h0, h1, h2, h3⟩ v hv
  simp only [List.mem_cons, List.not_mem_nil, or_false] at hv
  rcases hv with rfl | rfl | rfl | rfl
  all_goals first | rfl
 st := by
  rintro w M cs x w' M' ⟨rfl, h0, h1, h2, h3⟩ e
  exact ⟨rfl, h0, h1, h2, h3⟩
theorem QgN {C : Cx} {X : Act -> World -> Prop} {L : Env} {A : List SP} {c : Value} {xs : List Qay} (i m : Nat) (hA : A[m]? = some (sl c xs)) (hi : i < xs.length)
  (h : Qac (xs.getD i default).Kind -> Qac (xs.getD i default).Func -> Qac (xs.getD i default).Block -> Qac (xs.getD i default).Stmt -> JJ C X L (pv (QgF 4 c i) [.int .i64 (xs.getD i default).Kind, .int .i64 (xs.getD i default).Func, .int .i64 (xs.getD i default).Block, .int .i64 (xs.getD i default).Stmt] :: A)) : JJ C X L A := by
 refine Qim i m hA hi default fun cs => ?_
 intro a w M F st
 obtain ⟨F1, F2, q1, q2, qd, hp, F3, F4, q3, q4, qd2, hr, hs⟩ := st.sp
 obtain ⟨rfl, h0, h1, h2, h3⟩ := hr
 exact h h0 h1 h2 h3 a w M F ⟨st.step, st.sz, st.df, st.sat, F1, F2, q1, q2, qd, hp, Qej hs q4⟩
instance QqI : Rep Qbn where
 sz := 3
 bytes := 72
 pos := by decide
 bpos := by decide
 rd w M cs x := ∃ c0 c1 c2, cs = [c0, c1, c2] /\ QjA w M c0 x.Nodes /\ QjA w M c1 x.Succ /\ QjA w M c2 x.Pred
 len := by rintro w M cs x ⟨c0, c1, c2, rfl, h0, h1, h2⟩; rfl
 one := by
  rintro w M cs x ⟨c0, c1, c2, rfl, h0, h1, h2⟩ v hv
  simp only [List.mem_cons, List.not_mem_nil, or_false] at hv
  rcases hv with rfl | rfl | rfl
  all_goals first | rfl | exact Qfi h0 | exact Qfi h1 | exact Qfi h2
 st := by
  rintro w M cs x w' M' ⟨c0, c1, c2, rfl, h0, h1, h2⟩ e
  exact ⟨c0, c1, c2, rfl, Qfu h0 e, Qfu h1 e, Qfu h2 e⟩
instance QqJ : Rep QaN where
 sz := 4
 bytes := 40
 pos := by decide
 bpos := by decide
 rd w M cs x := cs = [.int .i64 x.Kind, .string (bs x.Text), .int .i64 x.Line, .int .i64 x.Col] /\ Qac x.Kind /\ x.Text.b.length <= 140737488355328 /\ Qac x.Line /\ Qac x.Col
 len := by rintro w M cs x ⟨rfl, h0, h1, h2, h3⟩; rfl
 one := by
  rintro w M cs x ⟨rfl, h0, h1, h2, h3⟩ v hv
  simp only [List.mem_cons, List.not_mem_nil, or_false] at hv
  rcases hv with rfl | rfl | rfl | rfl
  all_goals first | rfl
 st := by
  rintro w M cs x w' M' ⟨rfl, h0, h1, h2, h3⟩ e
  exact ⟨rfl, h0, h1, h2, h3⟩
theorem QbZ {C : Cx} {X : Act -> World -> Prop} {L : Env} {A : List SP} {c : Value} {xs : List QaN} (i m : Nat) (hA : A[m]? = some (sl c xs)) (hi : i < xs.length)
  (h : Qac (xs.getD i default).Kind -> ((xs.getD i default).Text).b.length <= 140737488355328 -> Qac (xs.getD i default).Line -> Qac (xs.getD i default).Col -> JJ C X L (pv (QgF 4 c i) [.int .i64 (xs.getD i default).Kind, .string (bs (xs.getD i default).Text), .int .i64 (xs.getD i default).Line, .int .i64 (xs.getD i default).Col] :: A)) : JJ C X L A := by
 refine Qim i m hA hi default fun cs => ?_
 intro a w M F st
 obtain ⟨F1, F2, q1, q2, qd, hp, F3, F4, q3, q4, qd2, hr, hs⟩ := st.sp
 obtain ⟨rfl, h0, h1, h2, h3⟩ := hr
 exact h h0 h1 h2 h3 a w M F ⟨st.step, st.sz, st.df, st.sat, F1, F2, q1, q2, qd, hp, Qej hs q4⟩
instance Qp1 : Rep Qab where
 sz := 3
 bytes := 40
 pos := by decide
 bpos := by decide
 rd w M cs x := ∃ c0, cs = [c0, .int .i64 x.at_, .int .i64 x.Err] /\ QjA w M c0 x.l /\ Qac x.at_ /\ Qac x.Err
 len := by rintro w M cs x ⟨c0, rfl, h0, h1, h2⟩; rfl
 one := by
  rintro w M cs x ⟨c0, rfl, h0, h1, h2⟩ v hv
  simp only [List.mem_cons, List.not_mem_nil, or_false] at hv
  rcases hv with rfl | rfl | rfl
  all_goals first | rfl | exact Qfi h0
 st := by
  rintro w M cs x w' M' ⟨c0, rfl, h0, h1, h2⟩ e
  exact ⟨c0, rfl, Qfu h0 e, h1, h2⟩
theorem Qn5 (n : Int) (h : 1 <= n /\ n <= 9223372036854775807) : BitVec.ofInt 64 n ≠ 0 := by
 intro e
 have := congrArg BitVec.toNat e
 rw [BitVec.toNat_ofInt] at this
 simp at this
 omega
theorem Qjm (v n : Int) (h : 1 <= n /\ n <= 9223372036854775807) : 0 <= (((BitVec.ofInt 64 v) % (BitVec.ofInt 64 n)).toNat : Int) /\ (((BitVec.ofInt 64 v) % (BitVec.ofInt 64 n)).toNat : Int) < n := by
 rw [BitVec.toNat_umod, BitVec.toNat_ofInt, BitVec.toNat_ofInt]
 have e : (n % ((2 ^ 64 : Nat) : Int)).toNat = n.toNat := by omega
 rw [e]
 have : (v % ((2 ^ 64 : Nat) : Int)).toNat % n.toNat < n.toNat := Nat.mod_lt _ (by omega)
 omega
theorem QrN (v n : Int) (h : 1 <= n /\ n <= 9223372036854775807) : (((BitVec.ofInt 64 v) % (BitVec.ofInt 64 n)).toNat : Int) <= 9223372036854775807 := by
 have := Qjm v n h; omega
def Qbs (l : List Int) (n : Int) : Nat -> Int -> LR Unit Bool
 | 0, v9 =>
  .brk ()
 | r + 1, v9 =>
  bif decide ((l.getD v9.toNat 0) < 0) then
   .ret false
  else
   bif decide (n <= (l.getD v9.toNat 0)) then
    .ret false
   else
    bif decide (0 < v9) then
     bif decide ((l.getD v9.toNat 0) <= (l.getD ((v9 - 1) : Int).toNat 0)) then
      .ret false
     else
      Qbs l n r (v9 + 1)
    else
     Qbs l n r (v9 + 1)
def Qds (l : List Int) (n : Int) : Bool :=
 match Qbs l n (((l.length : Int) - 0).toNat) 0 with
 | .brk _ =>
  true
 | .ret r => r
 | .oof => default
def QcB (l : List (List Int)) : Nat -> Int -> Int -> LR Int Int
 | 0, edges, v8 =>
  .brk edges
 | r + 1, edges, v8 =>
  bif decide (1024 < (edges + ((l.getD v8.toNat []).length : Int))) then
   .ret (-1)
  else
   let rv10 := (Qds (l.getD v8.toNat []) (l.length : Int))
   bif (!rv10) then
    .ret (-1)
   else
    QcB l r (edges + ((l.getD v8.toNat []).length : Int)) (v8 + 1)
def QdC (l : List (List Int)) : Int :=
 match QcB l (((l.length : Int) - 0).toNat) 0 0 with
 | .brk Qer =>
  Qer
 | .ret r => r
 | .oof => default
def Qdb (s : List Int) (v : Int) : Nat -> Int -> LR Unit Int
 | 0, v8 =>
  .brk ()
 | r + 1, v8 =>
  bif (v == (s.getD v8.toNat 0)) then
   .ret v8
  else
   Qdb s v r (v8 + 1)
def QeS (s : List Int) (v : Int) : Int :=
 match Qdb s v (((s.length : Int) - 0).toNat) 0 with
 | .brk _ =>
  -1
 | .ret r => r
 | .oof => default
def Qcc (s : List Int) (v : Int) : Bool :=
 let rv1 := (QeS s v)
 decide (0 <= rv1)
def QdW (g : Qbn) (a : Int) (v52 : List Int) : Nat -> Int -> LR Unit Bool
 | 0, v54 =>
  .brk ()
 | r + 1, v54 =>
  let rv43 := (Qcc (g.Pred.getD ((v52.getD v54.toNat 0) : Int).toNat []) a)
  bif (!rv43) then
   .ret false
  else
   QdW g a v52 r (v54 + 1)
def QdV (g : Qbn) : Nat -> Int -> LR Unit Bool
 | 0, v47 =>
  .brk ()
 | r + 1, v47 =>
  match QdW g v47 (g.Succ.getD v47.toNat []) (((((g.Succ.getD v47.toNat []).length : Int) : Int) - 0).toNat) 0 with
  | .brk _ =>
   QdV g r (v47 + 1)
  | .ret r => .ret r
  | .oof => .oof
def Qde (g : Qbn) : Bool :=
 bif decide ((g.Nodes.length : Int) < 1) then
  false
 else
  bif decide (256 < (g.Nodes.length : Int)) then
   false
  else
   bif ((g.Succ.length : Int) != (g.Nodes.length : Int)) then
    false
   else
    bif ((g.Pred.length : Int) != (g.Nodes.length : Int)) then
     false
    else
     let rv14 := (QdC g.Succ)
     bif decide (rv14 < 0) then
      false
     else
      let rv22 := (QdC g.Pred)
      bif (rv22 != rv14) then
       false
      else
       match QdV g (((g.Succ.length : Int) - 0).toNat) 0 with
       | .brk _ =>
        true
       | .ret r => r
       | .oof => default
def QfJ (g : Qbn) : Int :=
 let rv2 := (Qde g)
 bif (!rv2) then
  0
 else
  let rv12 := (QdC g.Succ)
  rv12
def QbQ (c : Int) : Bool :=
 bif decide (97 <= c) then
  bif decide (c <= 122) then
   true
  else
   bif decide (65 <= c) then
    bif decide (c <= 90) then
     true
    else
     (c == 95)
   else
    (c == 95)
 else
  bif decide (65 <= c) then
   bif decide (c <= 90) then
    true
   else
    (c == 95)
  else
   (c == 95)
def Qd1 (c : Int) : Bool :=
 bif decide (48 <= c) then
  decide (c <= 57)
 else
  false
def QaB (text : Str) (c : Int) : Nat -> Int -> Int -> LR (Int × Int) (List QaN × Int × Int × Int)
 | 0, col, i =>
  .oof
 | r + 1, col, i =>
  bif (c == 35) then
   bif decide (i < (text.b.length : Int)) then
    bif (((text.b.getD i.toNat 0).toNat : Int) != 10) then
     QaB text c r (col + 1) (i + 1)
    else
     .brk (col, i)
   else
    .brk (col, i)
  else
   .brk (col, i)
def QbH (text : Str) (i : Int) : Nat -> Int -> LR Int (List QaN × Int × Int × Int)
 | 0, n =>
  .oof
 | r + 1, n =>
  bif decide ((i + n) < (text.b.length : Int)) then
   let rv172 := (QbQ ((text.b.getD ((i + n) : Int).toNat 0).toNat : Int))
   bif rv172 then
    QbH text i r (n + 1)
   else
    let rv179 := (Qd1 ((text.b.getD ((i + n) : Int).toNat 0).toNat : Int))
    bif rv179 then
     QbH text i r (n + 1)
    else
     .brk n
  else
   .brk n
def Qak (text : Str) : Nat -> List QaN -> Int -> Int -> Bool -> Int -> LR (List QaN × Int × Int × Bool) (List QaN × Int × Int × Int)
 | 0, out, line, col, open_, i =>
  .oof
 | r + 1, out, line, col, open_, i =>
  bif decide (i < (text.b.length : Int)) then
   bif (((text.b.getD i.toNat 0).toNat : Int) == 32) then
    Qak text r out line (col + 1) open_ (i + 1)
   else
    bif (((text.b.getD i.toNat 0).toNat : Int) == 9) then
     Qak text r out line (col + 1) open_ (i + 1)
    else
     bif (((text.b.getD i.toNat 0).toNat : Int) == 10) then
      bif open_ then
       match QaB text ((text.b.getD i.toNat 0).toNat : Int) (text.b.length + 1) col i with
       | .brk (Qeb, Qfe) =>
        bif (((text.b.getD i.toNat 0).toNat : Int) == 59) then
         bif decide ((Qfe + 1) < (text.b.length : Int)) then
          bif (((text.b.getD ((Qfe + 1) : Int).toNat 0).toNat : Int) == 10) then
           Qak text r (out ++ [(QaN.mk 3 (Str.mk []) line col)]) line (Qeb + 1) false (Qfe + 1)
          else
           Qak text r (out ++ [(QaN.mk 3 (Str.mk []) line col)]) line (Qeb + 1) false (Qfe + 1)
         else
          Qak text r (out ++ [(QaN.mk 3 (Str.mk []) line col)]) line (Qeb + 1) false (Qfe + 1)
        else
         bif decide (Qfe < (text.b.length : Int)) then
          bif (((text.b.getD Qfe.toNat 0).toNat : Int) == 10) then
           Qak text r (out ++ [(QaN.mk 3 (Str.mk []) line col)]) (line + 1) 1 false (Qfe + 1)
          else
           Qak text r (out ++ [(QaN.mk 3 (Str.mk []) line col)]) line Qeb false Qfe
         else
          Qak text r (out ++ [(QaN.mk 3 (Str.mk []) line col)]) line Qeb false Qfe
       | .ret _ => .oof
       | .oof => .oof
      else
       match QaB text ((text.b.getD i.toNat 0).toNat : Int) (text.b.length + 1) col i with
       | .brk (Qeb, Qfe) =>
        bif (((text.b.getD i.toNat 0).toNat : Int) == 59) then
         bif decide ((Qfe + 1) < (text.b.length : Int)) then
          bif (((text.b.getD ((Qfe + 1) : Int).toNat 0).toNat : Int) == 10) then
           Qak text r out line (Qeb + 1) false (Qfe + 1)
          else
           Qak text r out line (Qeb + 1) false (Qfe + 1)
         else
          Qak text r out line (Qeb + 1) false (Qfe + 1)
        else
         bif decide (Qfe < (text.b.length : Int)) then
          bif (((text.b.getD Qfe.toNat 0).toNat : Int) == 10) then
           Qak text r out (line + 1) 1 false (Qfe + 1)
          else
           Qak text r out line Qeb false Qfe
         else
          Qak text r out line Qeb false Qfe
       | .ret _ => .oof
       | .oof => .oof
     else
      bif (((text.b.getD i.toNat 0).toNat : Int) == 59) then
       bif open_ then
        match QaB text ((text.b.getD i.toNat 0).toNat : Int) (text.b.length + 1) col i with
        | .brk (Qeb, Qfe) =>
         bif decide ((Qfe + 1) < (text.b.length : Int)) then
          bif (((text.b.getD ((Qfe + 1) : Int).toNat 0).toNat : Int) == 10) then
           Qak text r (out ++ [(QaN.mk 3 (Str.mk []) line col)]) line (Qeb + 1) false (Qfe + 1)
          else
           Qak text r (out ++ [(QaN.mk 3 (Str.mk []) line col)]) line (Qeb + 1) false (Qfe + 1)
         else
          Qak text r (out ++ [(QaN.mk 3 (Str.mk []) line col)]) line (Qeb + 1) false (Qfe + 1)
        | .ret _ => .oof
        | .oof => .oof
       else
        match QaB text ((text.b.getD i.toNat 0).toNat : Int) (text.b.length + 1) col i with
        | .brk (Qeb, Qfe) =>
         bif decide ((Qfe + 1) < (text.b.length : Int)) then
          bif (((text.b.getD ((Qfe + 1) : Int).toNat 0).toNat : Int) == 10) then
           Qak text r out line (Qeb + 1) false (Qfe + 1)
          else
           Qak text r out line (Qeb + 1) false (Qfe + 1)
         else
          Qak text r out line (Qeb + 1) false (Qfe + 1)
        | .ret _ => .oof
        | .oof => .oof
      else
       bif (((text.b.getD i.toNat 0).toNat : Int) == 35) then
        bif open_ then
         match QaB text ((text.b.getD i.toNat 0).toNat : Int) (text.b.length + 1) col i with
         | .brk (Qeb, Qfe) =>
          bif decide (Qfe < (text.b.length : Int)) then
           bif (((text.b.getD Qfe.toNat 0).toNat : Int) == 10) then
            Qak text r (out ++ [(QaN.mk 3 (Str.mk []) line col)]) (line + 1) 1 false (Qfe + 1)
           else
            Qak text r (out ++ [(QaN.mk 3 (Str.mk []) line col)]) line Qeb false Qfe
          else
           Qak text r (out ++ [(QaN.mk 3 (Str.mk []) line col)]) line Qeb false Qfe
         | .ret _ => .oof
         | .oof => .oof
        else
         match QaB text ((text.b.getD i.toNat 0).toNat : Int) (text.b.length + 1) col i with
         | .brk (Qeb, Qfe) =>
          bif decide (Qfe < (text.b.length : Int)) then
           bif (((text.b.getD Qfe.toNat 0).toNat : Int) == 10) then
            Qak text r out (line + 1) 1 false (Qfe + 1)
           else
            Qak text r out line Qeb false Qfe
          else
           Qak text r out line Qeb false Qfe
         | .ret _ => .oof
         | .oof => .oof
       else
        bif (((text.b.getD i.toNat 0).toNat : Int) == 61) then
         Qak text r (out ++ [(QaN.mk 2 (Str.mk [61]) line col)]) line (col + 1) true (i + 1)
        else
         let rv164 := (QbQ ((text.b.getD i.toNat 0).toNat : Int))
         bif rv164 then
          match QbH text i (text.b.length + 1) 0 with
          | .brk Qh3 =>
           let rv170 := (Qd1 ((text.b.getD i.toNat 0).toNat : Int))
           bif rv170 then
            .ret ([], line, col, 4)
           else
            bif decide (16 < Qh3) then
             .ret ([], line, col, 7)
            else
             Qak text r (out ++ [(QaN.mk 1 (text.sub i.toNat ((i + Qh3) : Int).toNat) line col)]) line (col + Qh3) true (i + Qh3)
          | .ret _ => .oof
          | .oof => .oof
         else
          let rv189 := (Qd1 ((text.b.getD i.toNat 0).toNat : Int))
          bif rv189 then
           match QbH text i (text.b.length + 1) 0 with
           | .brk Qh3 =>
            .ret ([], line, col, 4)
           | .ret _ => .oof
           | .oof => .oof
          else
           .ret ([], line, col, 4)
  else
   .brk (out, line, col, open_)
def Qfd (text : Str) : List QaN × Int × Int × Int :=
 bif decide (4096 < (text.b.length : Int)) then
  ([], 0, 0, 7)
 else
  match Qak text (text.b.length + 1) [] 1 1 false 0 with
  | .brk (Qer, Qgr, Qjv, Qsq) =>
   bif Qsq then
    ((Qer ++ [(QaN.mk 3 (Str.mk []) Qgr Qjv)]), 0, 0, 0)
   else
    (Qer, 0, 0, 0)
  | .ret r => r
  | .oof => default
def QeE (p : Qab) (word : Str) : Bool :=
 bif (p.Err == 0) then
  bif decide (p.at_ < (p.l.length : Int)) then
   bif ((p.l.getD p.at_.toNat default).Kind == 1) then
    ((p.l.getD p.at_.toNat default).Text == word)
   else
    false
  else
   false
 else
  false
def QbO (p : Qab) (e : Int) : Qab :=
 bif (p.Err == 0) then
  (Qab.mk p.l p.at_ e)
 else
  p
def Qdm (p : Qab) (w : Str) : Qab :=
 let rv1 := (QeE p w)
 bif (!rv1) then
  let rv8 := (QbO p 4)
  (Qab.mk p.l rv8.at_ rv8.Err)
 else
  (Qab.mk p.l (p.at_ + 1) p.Err)
def Qco  : List Str :=
 [(Str.mk [102, 117, 110, 99]), (Str.mk [98, 108, 111, 99, 107]), (Str.mk [101, 110, 100]), (Str.mk [117, 115, 101]), (Str.mk [99, 97, 108, 108]), (Str.mk [115, 111, 117, 114, 99, 101]), (Str.mk [115, 105, 110, 107]), (Str.mk [115, 97, 110, 105, 116, 105, 122, 101]), (Str.mk [103, 111, 116, 111]), (Str.mk [98, 114, 97, 110, 99, 104]), (Str.mk [114, 101, 116, 117, 114, 110])]
def QcG (s : Str) : Nat -> Int -> LR Unit Bool
 | 0, i =>
  .brk ()
 | r + 1, i =>
  let rv25 := (QbQ ((s.b.getD i.toNat 0).toNat : Int))
  bif (!rv25) then
   let rv33 := (Qd1 ((s.b.getD i.toNat 0).toNat : Int))
   bif (!rv33) then
    .ret false
   else
    QcG s r (i + 1)
  else
   QcG s r (i + 1)
def Qda (s : Str) : Nat -> Int -> LR Unit Bool
 | 0, i =>
  .brk ()
 | r + 1, i =>
  bif ((Qco.getD i.toNat default) == s) then
   .ret false
  else
   Qda s r (i + 1)
def Qbc (s : Str) : Bool :=
 bif ((s.b.length : Int) == 0) then
  false
 else
  bif decide (16 < (s.b.length : Int)) then
   false
  else
   let rv8 := (QbQ ((s.b.getD (0 : Int).toNat 0).toNat : Int))
   bif (!rv8) then
    false
   else
    bif (((s.b.getD (0 : Int).toNat 0).toNat : Int) == 95) then
     false
    else
     match QcG s (((s.b.length : Int) - 0).toNat) 0 with
     | .brk _ =>
      match Qda s (((Qco.length : Int) - 0).toNat) 0 with
      | .brk _ =>
       true
      | .ret r => r
      | .oof => default
     | .ret r => r
     | .oof => default
def QbG (p : Qab) : Bool :=
 bif (p.Err == 0) then
  bif decide (p.at_ < (p.l.length : Int)) then
   bif ((p.l.getD p.at_.toNat default).Kind == 1) then
    let rv11 := (Qbc ((p.l.getD p.at_.toNat default).Text))
    rv11
   else
    false
  else
   false
 else
  false
def Qbi (p : Qab) : Str × Qab :=
 let rv1 := (QbG p)
 bif (!rv1) then
  let rv8 := (QbO p 4)
  ((Str.mk []), (Qab.mk p.l rv8.at_ rv8.Err))
 else
  ((p.l.getD (((p.at_ + 1) - 1) : Int).toNat default).Text, (Qab.mk p.l (p.at_ + 1) p.Err))
def Qcn (p : Qab) (k : Int) : Bool :=
 bif (p.Err == 0) then
  bif decide (p.at_ < (p.l.length : Int)) then
   ((p.l.getD p.at_.toNat default).Kind == k)
  else
   false
 else
  false
def QbV (p : Qab) : Qab :=
 let rv1 := (Qcn p 3)
 bif (!rv1) then
  let rv8 := (QbO p 4)
  (Qab.mk p.l rv8.at_ rv8.Err)
 else
  (Qab.mk p.l (p.at_ + 1) p.Err)
def QdQ (p : Qab) : Nat -> Int -> LR Unit Bool
 | 0, i =>
  .brk ()
 | r + 1, i =>
  let rv11 := (QeE p ([(Str.mk [117, 115, 101]), (Str.mk [99, 97, 108, 108]), (Str.mk [115, 111, 117, 114, 99, 101]), (Str.mk [115, 105, 110, 107]), (Str.mk [115, 97, 110, 105, 116, 105, 122, 101]), (Str.mk [103, 111, 116, 111]), (Str.mk [98, 114, 97, 110, 99, 104]), (Str.mk [114, 101, 116, 117, 114, 110])].getD i.toNat default))
  bif rv11 then
   .ret true
  else
   QdQ p r (i + 1)
def QdR (p : Qab) : Bool :=
 match QdQ p (((((8 : Nat) : Int) : Int) - 0).toNat) 0 with
 | .brk _ =>
  let rv6 := (QbG p)
  rv6
 | .ret r => r
 | .oof => default
def QdL (p : Qab) (have_ : Int) : Nat -> Int -> Int -> List Str -> LR (Int × Int × List Str) (List Str × Qab)
 | 0, p1, p2, out =>
  .oof
 | r + 1, p1, p2, out =>
  let rv1 := (QbG (Qab.mk p.l p1 p2))
  bif rv1 then
   bif ((have_ + (out.length : Int)) == 4) then
    let rv8 := (QbO (Qab.mk p.l p1 p2) 7)
    .ret ([], (Qab.mk p.l rv8.at_ rv8.Err))
   else
    let rv15 := (Qbi (Qab.mk p.l p1 p2))
    QdL p have_ r rv15.2.at_ rv15.2.Err (out ++ [rv15.1])
  else
   .brk (p1, p2, out)
def QgP (p : Qab) (have_ : Int) : List Str × Qab :=
 match QdL p have_ (p.l.length + 1) p.at_ p.Err [] with
 | .brk (Qer, Qgr, Qjv) =>
  (Qjv, (Qab.mk p.l Qer Qgr))
 | .ret r => r
 | .oof => default
def Qdl (p : Qab) : Nat -> Int -> Int -> List Str -> LR (Int × Int × List Str) (List Str × Qab)
 | 0, p1, p2, out =>
  .oof
 | r + 1, p1, p2, out =>
  let rv1 := (QbG (Qab.mk p.l p1 p2))
  bif rv1 then
   bif ((out.length : Int) == 4) then
    let rv8 := (QbO (Qab.mk p.l p1 p2) 7)
    .ret ([], (Qab.mk p.l rv8.at_ rv8.Err))
   else
    let rv15 := (Qbi (Qab.mk p.l p1 p2))
    Qdl p r rv15.2.at_ rv15.2.Err (out ++ [rv15.1])
  else
   .brk (p1, p2, out)
def QfM (p : Qab) : List Str × Qab :=
 match Qdl p (p.l.length + 1) p.at_ p.Err [] with
 | .brk (Qer, Qgr, Qjv) =>
  (Qjv, (Qab.mk p.l Qer Qgr))
 | .ret r => r
 | .oof => default
def QcP (p : Qab) : Qax × Qab :=
 let rv3 := (QbG p)
 bif (!rv3) then
  bif ((p.l.getD p.at_.toNat default).Text == (Str.mk [117, 115, 101])) then
   let rv16 := (Qbi (Qab.mk p.l (p.at_ + 1) p.Err))
   let rv27 := (QgP (Qab.mk p.l rv16.2.at_ rv16.2.Err) 1)
   let rv44 := (QbV (Qab.mk p.l rv27.2.at_ rv27.2.Err))
   ((Qax.mk 2 (Str.mk []) ([rv16.1] ++ rv27.1) []), (Qab.mk p.l rv44.at_ rv44.Err))
  else
   bif ((p.l.getD p.at_.toNat default).Text == (Str.mk [99, 97, 108, 108])) then
    let rv53 := (Qbi (Qab.mk p.l (p.at_ + 1) p.Err))
    let rv63 := (QbV (Qab.mk p.l rv53.2.at_ rv53.2.Err))
    ((Qax.mk 3 (Str.mk []) [] [rv53.1]), (Qab.mk p.l rv63.at_ rv63.Err))
   else
    bif ((p.l.getD p.at_.toNat default).Text == (Str.mk [115, 111, 117, 114, 99, 101])) then
     let rv72 := (Qbi (Qab.mk p.l (p.at_ + 1) p.Err))
     let rv79 := (QbV (Qab.mk p.l rv72.2.at_ rv72.2.Err))
     ((Qax.mk 4 rv72.1 [] []), (Qab.mk p.l rv79.at_ rv79.Err))
    else
     bif ((p.l.getD p.at_.toNat default).Text == (Str.mk [115, 105, 110, 107])) then
      let rv88 := (Qbi (Qab.mk p.l (p.at_ + 1) p.Err))
      let rv98 := (QbV (Qab.mk p.l rv88.2.at_ rv88.2.Err))
      ((Qax.mk 5 (Str.mk []) [rv88.1] []), (Qab.mk p.l rv98.at_ rv98.Err))
     else
      bif ((p.l.getD p.at_.toNat default).Text == (Str.mk [115, 97, 110, 105, 116, 105, 122, 101])) then
       let rv107 := (Qbi (Qab.mk p.l (p.at_ + 1) p.Err))
       let rv114 := (QbV (Qab.mk p.l rv107.2.at_ rv107.2.Err))
       ((Qax.mk 6 rv107.1 [] []), (Qab.mk p.l rv114.at_ rv114.Err))
      else
       bif ((p.l.getD p.at_.toNat default).Text == (Str.mk [103, 111, 116, 111])) then
        let rv123 := (Qbi (Qab.mk p.l (p.at_ + 1) p.Err))
        let rv133 := (QbV (Qab.mk p.l rv123.2.at_ rv123.2.Err))
        ((Qax.mk 7 (Str.mk []) [] [rv123.1]), (Qab.mk p.l rv133.at_ rv133.Err))
       else
        bif ((p.l.getD p.at_.toNat default).Text == (Str.mk [98, 114, 97, 110, 99, 104])) then
         let rv142 := (Qbi (Qab.mk p.l (p.at_ + 1) p.Err))
         let rv152 := (Qbi (Qab.mk p.l rv142.2.at_ rv142.2.Err))
         let rv162 := (Qbi (Qab.mk p.l rv152.2.at_ rv152.2.Err))
         let rv178 := (QbV (Qab.mk p.l rv162.2.at_ rv162.2.Err))
         ((Qax.mk 8 (Str.mk []) [rv142.1] ([rv152.1] ++ [rv162.1])), (Qab.mk p.l rv178.at_ rv178.Err))
        else
         bif ((p.l.getD p.at_.toNat default).Text == (Str.mk [114, 101, 116, 117, 114, 110])) then
          let rv187 := (QbV (Qab.mk p.l (p.at_ + 1) p.Err))
          ((Qax.mk 9 (Str.mk []) [] []), (Qab.mk p.l rv187.at_ rv187.Err))
         else
          let rv194 := (Qbi (Qab.mk p.l (p.at_ + 1) p.Err))
          let rv201 := (Qcn (Qab.mk p.l rv194.2.at_ rv194.2.Err) 2)
          bif (!rv201) then
           let rv208 := (QbO (Qab.mk p.l rv194.2.at_ rv194.2.Err) 4)
           ((Qax.mk 1 rv194.1 [] []), (Qab.mk p.l rv208.at_ rv208.Err))
          else
           let rv218 := (QfM (Qab.mk p.l (rv194.2.at_ + 1) rv194.2.Err))
           let rv229 := (QbV (Qab.mk p.l rv218.2.at_ rv218.2.Err))
           ((Qax.mk 1 rv194.1 rv218.1 []), (Qab.mk p.l rv229.at_ rv229.Err))
 else
  bif ((Str.mk []) == (Str.mk [117, 115, 101])) then
   let rv240 := (Qbi p)
   let rv251 := (QgP (Qab.mk p.l rv240.2.at_ rv240.2.Err) 1)
   let rv268 := (QbV (Qab.mk p.l rv251.2.at_ rv251.2.Err))
   ((Qax.mk 2 (Str.mk []) ([rv240.1] ++ rv251.1) []), (Qab.mk p.l rv268.at_ rv268.Err))
  else
   bif ((Str.mk []) == (Str.mk [99, 97, 108, 108])) then
    let rv277 := (Qbi p)
    let rv287 := (QbV (Qab.mk p.l rv277.2.at_ rv277.2.Err))
    ((Qax.mk 3 (Str.mk []) [] [rv277.1]), (Qab.mk p.l rv287.at_ rv287.Err))
   else
    bif ((Str.mk []) == (Str.mk [115, 111, 117, 114, 99, 101])) then
     let rv296 := (Qbi p)
     let rv303 := (QbV (Qab.mk p.l rv296.2.at_ rv296.2.Err))
     ((Qax.mk 4 rv296.1 [] []), (Qab.mk p.l rv303.at_ rv303.Err))
    else
     bif ((Str.mk []) == (Str.mk [115, 105, 110, 107])) then
      let rv312 := (Qbi p)
      let rv322 := (QbV (Qab.mk p.l rv312.2.at_ rv312.2.Err))
      ((Qax.mk 5 (Str.mk []) [rv312.1] []), (Qab.mk p.l rv322.at_ rv322.Err))
     else
      bif ((Str.mk []) == (Str.mk [115, 97, 110, 105, 116, 105, 122, 101])) then
       let rv331 := (Qbi p)
       let rv338 := (QbV (Qab.mk p.l rv331.2.at_ rv331.2.Err))
       ((Qax.mk 6 rv331.1 [] []), (Qab.mk p.l rv338.at_ rv338.Err))
      else
       bif ((Str.mk []) == (Str.mk [103, 111, 116, 111])) then
        let rv347 := (Qbi p)
        let rv357 := (QbV (Qab.mk p.l rv347.2.at_ rv347.2.Err))
        ((Qax.mk 7 (Str.mk []) [] [rv347.1]), (Qab.mk p.l rv357.at_ rv357.Err))
       else
        bif ((Str.mk []) == (Str.mk [98, 114, 97, 110, 99, 104])) then
         let rv366 := (Qbi p)
         let rv376 := (Qbi (Qab.mk p.l rv366.2.at_ rv366.2.Err))
         let rv386 := (Qbi (Qab.mk p.l rv376.2.at_ rv376.2.Err))
         let rv402 := (QbV (Qab.mk p.l rv386.2.at_ rv386.2.Err))
         ((Qax.mk 8 (Str.mk []) [rv366.1] ([rv376.1] ++ [rv386.1])), (Qab.mk p.l rv402.at_ rv402.Err))
        else
         bif ((Str.mk []) == (Str.mk [114, 101, 116, 117, 114, 110])) then
          let rv411 := (QbV p)
          ((Qax.mk 9 (Str.mk []) [] []), (Qab.mk p.l rv411.at_ rv411.Err))
         else
          let rv418 := (Qbi p)
          let rv425 := (Qcn (Qab.mk p.l rv418.2.at_ rv418.2.Err) 2)
          bif (!rv425) then
           let rv432 := (QbO (Qab.mk p.l rv418.2.at_ rv418.2.Err) 4)
           ((Qax.mk 1 rv418.1 [] []), (Qab.mk p.l rv432.at_ rv432.Err))
          else
           let rv442 := (QfM (Qab.mk p.l (rv418.2.at_ + 1) rv418.2.Err))
           let rv453 := (QbV (Qab.mk p.l rv442.2.at_ rv442.2.Err))
           ((Qax.mk 1 rv418.1 rv442.1 []), (Qab.mk p.l rv453.at_ rv453.Err))
def QbU (p : Qab) (b0 : Str) : Nat -> Int -> Int -> List Qax -> LR (Int × Int × List Qax) (QaM × Qab)
 | 0, p1, p2, b1 =>
  .oof
 | r + 1, p1, p2, b1 =>
  let rv35 := (QdR (Qab.mk p.l p1 p2))
  bif rv35 then
   bif ((b1.length : Int) == 32) then
    let rv42 := (QbO (Qab.mk p.l p1 p2) 7)
    .ret ((QaM.mk b0 b1), (Qab.mk p.l rv42.at_ rv42.Err))
   else
    let rv51 := (QcP (Qab.mk p.l p1 p2))
    QbU p b0 r rv51.2.at_ rv51.2.Err (b1 ++ [rv51.1])
  else
   .brk (p1, p2, b1)
def Qel (p : Qab) : QaM × Qab :=
 let rv3 := (Qdm p (Str.mk [98, 108, 111, 99, 107]))
 let rv9 := (Qbi (Qab.mk p.l rv3.at_ rv3.Err))
 let rv16 := (QbV (Qab.mk p.l rv9.2.at_ rv9.2.Err))
 let rv22 := (QdR (Qab.mk p.l rv16.at_ rv16.Err))
 bif (!rv22) then
  let rv29 := (QbO (Qab.mk p.l rv16.at_ rv16.Err) 4)
  match QbU p rv9.1 (p.l.length + 1) rv29.at_ rv29.Err [] with
  | .brk (Qer, Qgr, Qjv) =>
   ((QaM.mk rv9.1 Qjv), (Qab.mk p.l Qer Qgr))
  | .ret r => r
  | .oof => default
 else
  match QbU p rv9.1 (p.l.length + 1) rv16.at_ rv16.Err [] with
  | .brk (Qer, Qgr, Qjv) =>
   ((QaM.mk rv9.1 Qjv), (Qab.mk p.l Qer Qgr))
  | .ret r => r
  | .oof => default
def Qbr (p : Qab) (f0 : Str) : Nat -> Int -> Int -> List QaM -> LR (Int × Int × List QaM) (Qbv × Qab)
 | 0, p1, p2, f1 =>
  .oof
 | r + 1, p1, p2, f1 =>
  let rv35 := (QeE (Qab.mk p.l p1 p2) (Str.mk [98, 108, 111, 99, 107]))
  bif rv35 then
   bif ((f1.length : Int) == 16) then
    let rv42 := (QbO (Qab.mk p.l p1 p2) 7)
    .ret ((Qbv.mk f0 f1), (Qab.mk p.l rv42.at_ rv42.Err))
   else
    let rv50 := (Qel (Qab.mk p.l p1 p2))
    Qbr p f0 r rv50.2.at_ rv50.2.Err (f1 ++ [rv50.1])
  else
   .brk (p1, p2, f1)
def QcO (p : Qab) : Qbv × Qab :=
 let rv3 := (Qdm p (Str.mk [102, 117, 110, 99]))
 let rv9 := (Qbi (Qab.mk p.l rv3.at_ rv3.Err))
 let rv16 := (QbV (Qab.mk p.l rv9.2.at_ rv9.2.Err))
 let rv22 := (QeE (Qab.mk p.l rv16.at_ rv16.Err) (Str.mk [98, 108, 111, 99, 107]))
 bif (!rv22) then
  let rv29 := (QbO (Qab.mk p.l rv16.at_ rv16.Err) 4)
  match Qbr p rv9.1 (p.l.length + 1) rv29.at_ rv29.Err [] with
  | .brk (Qer, Qgr, Qjv) =>
   let rv40 := (Qdm (Qab.mk p.l Qer Qgr) (Str.mk [101, 110, 100]))
   let rv46 := (QbV (Qab.mk p.l rv40.at_ rv40.Err))
   ((Qbv.mk rv9.1 Qjv), (Qab.mk p.l rv46.at_ rv46.Err))
  | .ret r => r
  | .oof => default
 else
  match Qbr p rv9.1 (p.l.length + 1) rv16.at_ rv16.Err [] with
  | .brk (Qer, Qgr, Qjv) =>
   let rv60 := (Qdm (Qab.mk p.l Qer Qgr) (Str.mk [101, 110, 100]))
   let rv66 := (QbV (Qab.mk p.l rv60.at_ rv60.Err))
   ((Qbv.mk rv9.1 Qjv), (Qab.mk p.l rv66.at_ rv66.Err))
  | .ret r => r
  | .oof => default
def QbT  (p0 : List QaN) : Nat -> Int -> Int -> List Qbv -> LR (Int × Int × List Qbv) (Qaj × Int × Int × Int)
 | 0, p1, p2, out0 =>
  .oof
 | r + 1, p1, p2, out0 =>
  let rv30 := (QeE (Qab.mk p0 p1 p2) (Str.mk [102, 117, 110, 99]))
  bif rv30 then
   bif ((out0.length : Int) == 8) then
    let rv37 := (QbO (Qab.mk p0 p1 p2) 7)
    .brk (rv37.at_, rv37.Err, out0)
   else
    let rv45 := (QcO (Qab.mk p0 p1 p2))
    QbT p0 r rv45.2.at_ rv45.2.Err (out0 ++ [rv45.1])
  else
   .brk (p1, p2, out0)
def QbX (text : Str) : Qaj × Int × Int × Int :=
 let rv3 := (Qfd text)
 bif (rv3.2.2.2 != 0) then
  ((Qaj.mk []), rv3.2.1, rv3.2.2.1, rv3.2.2.2)
 else
  let rv17 := (QeE (Qab.mk rv3.1 0 0) (Str.mk [102, 117, 110, 99]))
  bif (!rv17) then
   let rv24 := (QbO (Qab.mk rv3.1 0 0) 4)
   match QbT rv3.1 (rv3.1.length + 1) rv24.at_ rv24.Err [] with
   | .brk (Qer, Qgr, Qjv) =>
    bif (Qgr == 0) then
     bif decide (Qer < (rv3.1.length : Int)) then
      let rv39 := (QbO (Qab.mk rv3.1 Qer Qgr) 4)
      bif (rv39.Err == 0) then
       ((Qaj.mk Qjv), 0, 0, 0)
      else
       bif decide (rv39.at_ < (rv3.1.length : Int)) then
        ((Qaj.mk []), (rv3.1.getD rv39.at_.toNat default).Line, (rv3.1.getD rv39.at_.toNat default).Col, rv39.Err)
       else
        ((Qaj.mk []), 0, 0, rv39.Err)
     else
      ((Qaj.mk Qjv), 0, 0, 0)
    else
     bif decide (Qer < (rv3.1.length : Int)) then
      ((Qaj.mk []), (rv3.1.getD Qer.toNat default).Line, (rv3.1.getD Qer.toNat default).Col, Qgr)
     else
      ((Qaj.mk []), 0, 0, Qgr)
   | .ret _ => default
   | .oof => default
  else
   match QbT rv3.1 (rv3.1.length + 1) 0 0 [] with
   | .brk (Qer, Qgr, Qjv) =>
    bif (Qgr == 0) then
     bif decide (Qer < (rv3.1.length : Int)) then
      let rv80 := (QbO (Qab.mk rv3.1 Qer Qgr) 4)
      bif (rv80.Err == 0) then
       ((Qaj.mk Qjv), 0, 0, 0)
      else
       bif decide (rv80.at_ < (rv3.1.length : Int)) then
        ((Qaj.mk []), (rv3.1.getD rv80.at_.toNat default).Line, (rv3.1.getD rv80.at_.toNat default).Col, rv80.Err)
       else
        ((Qaj.mk []), 0, 0, rv80.Err)
     else
      ((Qaj.mk Qjv), 0, 0, 0)
    else
     bif decide (Qer < (rv3.1.length : Int)) then
      ((Qaj.mk []), (rv3.1.getD Qer.toNat default).Line, (rv3.1.getD Qer.toNat default).Col, Qgr)
     else
      ((Qaj.mk []), 0, 0, Qgr)
   | .ret _ => default
   | .oof => default
def Qe8 (a : List Int) (b : List Int) : Nat -> Int -> LR Unit Bool
 | 0, i =>
  .brk ()
 | r + 1, i =>
  bif ((a.getD i.toNat 0) != (b.getD i.toNat 0)) then
   .ret false
  else
   Qe8 a b r (i + 1)
def Qgk (a : List Int) (b : List Int) : Bool :=
 bif ((a.length : Int) != (b.length : Int)) then
  false
 else
  match Qe8 a b (((a.length : Int) - 0).toNat) 0 with
  | .brk _ =>
   true
  | .ret r => r
  | .oof => default
def Qd3 (c : Int) : Bool :=
 bif decide (97 <= c) then
  bif decide (c <= 122) then
   true
  else
   bif decide (65 <= c) then
    decide (c <= 90)
   else
    false
 else
  bif decide (65 <= c) then
   decide (c <= 90)
  else
   false
def Qct (s : List Str) (v : Str) : Nat -> Int -> LR Unit Int
 | 0, v8 =>
  .brk ()
 | r + 1, v8 =>
  bif (v == (s.getD v8.toNat default)) then
   .ret v8
  else
   Qct s v r (v8 + 1)
def Qd5 (s : List Str) (v : Str) : Int :=
 match Qct s v (((s.length : Int) - 0).toNat) 0 with
 | .brk _ =>
  -1
 | .ret r => r
 | .oof => default
def Qdh (s : List Str) (v : Str) : Bool :=
 let rv1 := (Qd5 s v)
 decide (0 <= rv1)
def Qhl (c : Int) : Bool :=
 bif decide (48 <= c) then
  decide (c <= 57)
 else
  false
def QeO (c : Int) : Bool :=
 let rv1 := (Qd3 c)
 bif rv1 then
  true
 else
  let rv7 := (Qhl c)
  bif rv7 then
   true
  else
   (c == 95)
def Qc6 (s : Str) : Nat -> Int -> Int
 | 0, i' =>
  i'
 | r + 1, i' =>
  let rv4 := (QeO ((s.b.getD i'.toNat 0).toNat : Int))
  bif rv4 then
   Qc6 s r (i' + 1)
  else
   i'
def Qfc (s : Str) (i : Int) : Int :=
 match Qc6 s (((s.b.length : Int) - i).toNat) i with
 | Qer =>
  Qer
def Qcm (s : Str) : Bool :=
 bif (s == (Str.mk [])) then
  false
 else
  bif decide (16 < (s.b.length : Int)) then
   false
  else
   let rv8 := (Qd3 ((s.b.getD (0 : Int).toNat 0).toNat : Int))
   bif (!rv8) then
    false
   else
    let rv18 := (Qdh kwL s)
    bif rv18 then
     false
    else
     let rv24 := (Qfc s 0)
     (rv24 == (s.b.length : Int))
def Qb0 (s : List Qax) (fp : Qax -> Bool) : Nat -> Int -> LR Unit Int
 | 0, v8 =>
  .brk ()
 | r + 1, v8 =>
  bif (fp (s.getD v8.toNat default)) then
   .ret v8
  else
   Qb0 s fp r (v8 + 1)
def Qdu (s : List Qax) (fp : Qax -> Bool) : Int :=
 match Qb0 s fp (((s.length : Int) - 0).toNat) 0 with
 | .brk _ =>
  -1
 | .ret r => r
 | .oof => default
def Qcq (s : List Qax) (fp : Qax -> Bool) : Bool :=
 let rv1 := (Qdu s fp)
 decide (0 <= rv1)
def Qa1 (s : List Str) : List Str := s
def QbN (s : List Str) (fp : Str -> Bool) : Nat -> Int -> LR Unit Int
 | 0, v8 =>
  .brk ()
 | r + 1, v8 =>
  bif (fp (s.getD v8.toNat default)) then
   .ret v8
  else
   QbN s fp r (v8 + 1)
def QcW (s : List Str) (fp : Str -> Bool) : Int :=
 match QbN s fp (((s.length : Int) - 0).toNat) 0 with
 | .brk _ =>
  -1
 | .ret r => r
 | .oof => default
def Qat (s : List Str) (fp : Str -> Bool) : Bool :=
 let rv1 := (QcW s fp)
 decide (0 <= rv1)
def Qbl (n : Str) : Bool :=
 let rv1 := (Qcm n)
 (!rv1)
def Qbf (s : Qax) : Bool :=
 bif (s.Op == 1) then
  let rv5 := (Qa1 s.Uses)
  bif ((s.Uses.length : Int) == (s.Uses.length : Int)) then
   bif decide ((s.Uses.length : Int) <= 4) then
    bif ((s.Targets.length : Int) == 0) then
     let rv34 := (Qat ((rv5 ++ s.Targets) ++ [s.Def]) (fun x => Qbl x))
     (!rv34)
    else
     false
   else
    false
  else
   false
 else
  bif (s.Op == 2) then
   let rv44 := (Qa1 s.Uses)
   bif (s.Def == (Str.mk [])) then
    bif ((s.Uses.length : Int) == (max (s.Uses.length : Int) 1)) then
     bif decide ((max (s.Uses.length : Int) 1) <= 4) then
      bif ((s.Targets.length : Int) == 0) then
       let rv66 := (Qat (rv44 ++ s.Targets) (fun x => Qbl x))
       (!rv66)
      else
       false
     else
      false
    else
     false
   else
    false
  else
   bif (s.Op == 5) then
    let rv77 := (Qa1 s.Uses)
    bif (s.Def == (Str.mk [])) then
     bif ((s.Uses.length : Int) == 1) then
      bif ((s.Targets.length : Int) == 0) then
       let rv97 := (Qat (rv77 ++ s.Targets) (fun x => Qbl x))
       (!rv97)
      else
       false
     else
      false
    else
     false
   else
    bif (s.Op == 4) then
     let rv109 := (Qa1 s.Uses)
     bif ((s.Uses.length : Int) == 0) then
      bif ((s.Targets.length : Int) == 0) then
       let rv136 := (Qat ((rv109 ++ s.Targets) ++ [s.Def]) (fun x => Qbl x))
       (!rv136)
      else
       false
     else
      false
    else
     bif (s.Op == 6) then
      let rv145 := (Qa1 s.Uses)
      bif ((s.Uses.length : Int) == 0) then
       bif ((s.Targets.length : Int) == 0) then
        let rv172 := (Qat ((rv145 ++ s.Targets) ++ [s.Def]) (fun x => Qbl x))
        (!rv172)
       else
        false
      else
       false
     else
      bif (s.Op == 8) then
       let rv183 := (Qa1 s.Uses)
       bif (s.Def == (Str.mk [])) then
        bif ((s.Uses.length : Int) == 1) then
         bif ((s.Targets.length : Int) == ((0 + 1) + 1)) then
          let rv203 := (Qat (rv183 ++ s.Targets) (fun x => Qbl x))
          (!rv203)
         else
          false
        else
         false
       else
        false
      else
       bif (s.Op == 3) then
        let rv217 := (Qa1 s.Uses)
        bif (s.Def == (Str.mk [])) then
         bif ((s.Uses.length : Int) == 0) then
          bif ((s.Targets.length : Int) == (0 + 1)) then
           let rv237 := (Qat (rv217 ++ s.Targets) (fun x => Qbl x))
           (!rv237)
          else
           false
         else
          false
        else
         false
       else
        bif (s.Op == 7) then
         let rv249 := (Qa1 s.Uses)
         bif (s.Def == (Str.mk [])) then
          bif ((s.Uses.length : Int) == 0) then
           bif ((s.Targets.length : Int) == (0 + 1)) then
            let rv269 := (Qat (rv249 ++ s.Targets) (fun x => Qbl x))
            (!rv269)
           else
            false
          else
           false
         else
          false
        else
         bif (s.Op == 9) then
          let rv279 := (Qa1 s.Uses)
          bif (s.Def == (Str.mk [])) then
           bif ((s.Uses.length : Int) == 0) then
            bif ((s.Targets.length : Int) == 0) then
             let rv299 := (Qat (rv279 ++ s.Targets) (fun x => Qbl x))
             (!rv299)
            else
             false
           else
            false
          else
           false
         else
          false
def QfS (s : Qax) : Bool :=
 let rv2 := (Qbf s)
 (!rv2)
def QcS  (v41 : List QaM) : Nat -> Int -> LR Unit Bool
 | 0, v43 =>
  .brk ()
 | r + 1, v43 =>
  let rv38 := (Qcm ((v41.getD v43.toNat default).Name))
  bif (!rv38) then
   .ret false
  else
   bif decide ((((v41.getD v43.toNat default).Stmts).length : Int) < 1) then
    .ret false
   else
    bif decide (32 < (((v41.getD v43.toNat default).Stmts).length : Int)) then
     .ret false
    else
     let rv54 := (Qcq ((v41.getD v43.toNat default).Stmts) (fun x => QfS x))
     bif rv54 then
      .ret false
     else
      QcS v41 r (v43 + 1)
def Qcb (p : Qaj) : Nat -> Int -> LR Unit Bool
 | 0, v20 =>
  .brk ()
 | r + 1, v20 =>
  let rv15 := (Qcm ((p.Funcs.getD v20.toNat default).Name))
  bif (!rv15) then
   .ret false
  else
   bif decide ((((p.Funcs.getD v20.toNat default).Blocks).length : Int) < 1) then
    .ret false
   else
    bif decide (16 < (((p.Funcs.getD v20.toNat default).Blocks).length : Int)) then
     .ret false
    else
     match QcS ((p.Funcs.getD v20.toNat default).Blocks) ((((((p.Funcs.getD v20.toNat default).Blocks).length : Int) : Int) - 0).toNat) 0 with
     | .brk _ =>
      Qcb p r (v20 + 1)
     | .ret r => .ret r
     | .oof => .oof
def Qcr (p : Qaj) : Bool :=
 bif decide ((p.Funcs.length : Int) < 1) then
  false
 else
  bif decide (8 < (p.Funcs.length : Int)) then
   false
  else
   match Qcb p (((p.Funcs.length : Int) - 0).toNat) 0 with
   | .brk _ =>
    true
   | .ret r => r
   | .oof => default
def Qa5 (l : List Qbv) (namep : Qbv -> Str) : Nat -> List (Str × Bool) -> Int -> Int -> (List (Str × Bool)) × Int
 | 0, known, at_, v13 =>
  (known, at_)
 | r + 1, known, at_, v13 =>
  bif ((Qea known (namep (l.getD v13.toNat default))).getD false) then
   bif decide (at_ < 0) then
    Qa5 l namep r (mset known (namep (l.getD v13.toNat default)) true) v13 (v13 + 1)
   else
    Qa5 l namep r (mset known (namep (l.getD v13.toNat default)) true) at_ (v13 + 1)
  else
   Qa5 l namep r (mset known (namep (l.getD v13.toNat default)) true) at_ (v13 + 1)
def Qc0 (l : List Qbv) (namep : Qbv -> Str) : Int × (List (Str × Bool)) :=
 match Qa5 l namep (((l.length : Int) - 0).toNat) [] (-1) 0 with
 | (Qer, Qgr) =>
  (Qgr, Qer)
def QeB (f : Qbv) : Str :=
 f.Name
def Qa2 (l : List QaM) (namep : QaM -> Str) : Nat -> List (Str × Bool) -> Int -> Int -> (List (Str × Bool)) × Int
 | 0, known, at_, v13 =>
  (known, at_)
 | r + 1, known, at_, v13 =>
  bif ((Qea known (namep (l.getD v13.toNat default))).getD false) then
   bif decide (at_ < 0) then
    Qa2 l namep r (mset known (namep (l.getD v13.toNat default)) true) v13 (v13 + 1)
   else
    Qa2 l namep r (mset known (namep (l.getD v13.toNat default)) true) at_ (v13 + 1)
  else
   Qa2 l namep r (mset known (namep (l.getD v13.toNat default)) true) at_ (v13 + 1)
def QdN (l : List QaM) (namep : QaM -> Str) : Int × (List (Str × Bool)) :=
 match Qa2 l namep (((l.length : Int) - 0).toNat) [] (-1) 0 with
 | (Qer, Qgr) =>
  (Qgr, Qer)
def Qee (b : QaM) : Str :=
 b.Name
def Qc5 (s : Qax) : Bool :=
 bif (s.Op == 7) then
  true
 else
  bif (s.Op == 8) then
   true
  else
   (s.Op == 9)
def Qcw (s : Qax) (known : List (Str × Bool)) : Nat -> Int -> LR Unit Int
 | 0, v16 =>
  .brk ()
 | r + 1, v16 =>
  bif (!((Qea known (s.Targets.getD v16.toNat default)).getD false)) then
   .ret 5
  else
   Qcw s known r (v16 + 1)
def Qdr (s : Qax) (last : Bool) (known : List (Str × Bool)) : Int :=
 let rv2 := (Qc5 s)
 bif (!(rv2 == last)) then
  4
 else
  match Qcw s known (((s.Targets.length : Int) - 0).toNat) 0 with
  | .brk _ =>
   0
  | .ret r => r
  | .oof => default
def QbY (i : Int) (funcs : List (Str × Bool)) (blocks : List (Str × Bool)) (k : Int) (b1 : List Qax) (v36 : List Qax) : Nat -> Int -> LR Unit (Qay × Int)
 | 0, v38 =>
  .brk ()
 | r + 1, v38 =>
  bif ((v36.getD v38.toNat default).Op == 3) then
   let rv34 := (Qdr (v36.getD v38.toNat default) (v38 == ((b1.length : Int) - 1)) funcs)
   bif (rv34 != 0) then
    .ret ((Qay.mk 3 i k v38), rv34)
   else
    QbY i funcs blocks k b1 v36 r (v38 + 1)
  else
   let rv42 := (Qdr (v36.getD v38.toNat default) (v38 == ((b1.length : Int) - 1)) blocks)
   bif (rv42 != 0) then
    .ret ((Qay.mk 3 i k v38), rv42)
   else
    QbY i funcs blocks k b1 v36 r (v38 + 1)
def Qcv (f : Qbv) (i : Int) (funcs : List (Str × Bool)) (blocks : List (Str × Bool)) : Nat -> Int -> LR Unit (Qay × Int)
 | 0, v30 =>
  .brk ()
 | r + 1, v30 =>
  match QbY i funcs blocks v30 ((f.Blocks.getD v30.toNat default).Stmts) ((f.Blocks.getD v30.toNat default).Stmts) ((((((f.Blocks.getD v30.toNat default).Stmts).length : Int) : Int) - 0).toNat) 0 with
  | .brk _ =>
   Qcv f i funcs blocks r (v30 + 1)
  | .ret r => .ret r
  | .oof => .oof
def Qdv (f : Qbv) (i : Int) (funcs : List (Str × Bool)) : Qay × Int :=
 let rv4 := (QdN f.Blocks (fun x0 => Qee x0))
 bif decide (0 <= rv4.1) then
  ((Qay.mk 3 i rv4.1 (-1)), 6)
 else
  match Qcv f i funcs rv4.2 (((f.Blocks.length : Int) - 0).toNat) 0 with
  | .brk _ =>
   ((Qay.mk 0 0 0 0), 0)
  | .ret r => r
  | .oof => default
def QdK (s : Qax) (cap0 : Int) (cap1 : Int) : Int × Int :=
 bif (s.Op == 3) then
  (((cap0 + 1) + 1), (cap1 + 3))
 else
  bif (s.Op == 8) then
   ((cap0 + 1), (cap1 + 2))
  else
   ((cap0 + 1), (cap1 + 1))
def Qbo  (v28 : List Qax) : Nat -> Int -> Int -> Int -> Int × Int
 | 0, st00, st10, v30 =>
  (st00, st10)
 | r + 1, st00, st10, v30 =>
  let rv39 := (QdK (v28.getD v30.toNat default) st00 st10)
  Qbo v28 r rv39.1 rv39.2 (v30 + 1)
def Qbp  (v21 : List QaM) : Nat -> Int -> Int -> Int -> Int × Int
 | 0, st00, st10, v23 =>
  (st00, st10)
 | r + 1, st00, st10, v23 =>
  match Qbo ((v21.getD v23.toNat default).Stmts) ((((((v21.getD v23.toNat default).Stmts).length : Int) : Int) - 0).toNat) st00 st10 0 with
  | (Qh3, Qlm) =>
   Qbp v21 r Qh3 Qlm (v23 + 1)
def Qbx (p : Qaj) : Nat -> Int -> Int -> Int -> Int × Int
 | 0, st00, st10, v16 =>
  (st00, st10)
 | r + 1, st00, st10, v16 =>
  match Qbp ((p.Funcs.getD v16.toNat default).Blocks) ((((((p.Funcs.getD v16.toNat default).Blocks).length : Int) : Int) - 0).toNat) st00 st10 0 with
  | (Qeb, Qfe) =>
   Qbx p r Qeb Qfe (v16 + 1)
def Qdy (p : Qaj) (st0 : Int) (st1 : Int) : Int × Int :=
 let rv2 := (Qcr p)
 bif (!rv2) then
  (st0, st1)
 else
  match Qbx p (((p.Funcs.length : Int) - 0).toNat) st0 st1 0 with
  | (Qer, Qgr) =>
   (Qer, Qgr)
def QcM (p : Qaj) : Int × Int :=
 let rv2 := (Qcr p)
 bif (!rv2) then
  (0, 0)
 else
  let rv14 := (Qdy p (2 * (p.Funcs.length : Int)) (p.Funcs.length : Int))
  (rv14.1, rv14.2)
def QcJ (n : Str) (cap0 : List (Str × Bool)) (cap1 : List Str) : (List (Str × Bool)) × List Str :=
 bif (n != (Str.mk [])) then
  bif (!((Qea cap0 n).getD false)) then
   ((mset cap0 n true), (cap1 ++ [n]))
  else
   (cap0, cap1)
 else
  (cap0, cap1)
def Qbb (s : Qax) : Nat -> List (Str × Bool) -> List Str -> Int -> (List (Str × Bool)) × List Str
 | 0, st00, st10, v12 =>
  (st00, st10)
 | r + 1, st00, st10, v12 =>
  let rv17 := (QcJ (s.Uses.getD v12.toNat default) st00 st10)
  Qbb s r rv17.1 rv17.2 (v12 + 1)
def QbS (s : Qax) (st0 : List (Str × Bool)) (st1 : List Str) : (List (Str × Bool)) × List Str :=
 let rv3 := (QcJ s.Def st0 st1)
 match Qbb s (((s.Uses.length : Int) - 0).toNat) rv3.1 rv3.2 0 with
 | (Qer, Qgr) =>
  (Qer, Qgr)
def QbD  (v28 : List Qax) : Nat -> List (Str × Bool) -> List Str -> Int -> (List (Str × Bool)) × List Str
 | 0, st10, st20, v30 =>
  (st10, st20)
 | r + 1, st10, st20, v30 =>
  let rv40 := (QbS (v28.getD v30.toNat default) st10 st20)
  QbD v28 r rv40.1 rv40.2 (v30 + 1)
def QbC  (v21 : List QaM) : Nat -> List (Str × Bool) -> List Str -> Int -> (List (Str × Bool)) × List Str
 | 0, st10, st20, v23 =>
  (st10, st20)
 | r + 1, st10, st20, v23 =>
  match QbD ((v21.getD v23.toNat default).Stmts) ((((((v21.getD v23.toNat default).Stmts).length : Int) : Int) - 0).toNat) st10 st20 0 with
  | (Qh3, Qlm) =>
   QbC v21 r Qh3 Qlm (v23 + 1)
def QbE (p : Qaj) : Nat -> List (Str × Bool) -> List Str -> Int -> (List (Str × Bool)) × List Str
 | 0, st10, st20, v16 =>
  (st10, st20)
 | r + 1, st10, st20, v16 =>
  match QbC ((p.Funcs.getD v16.toNat default).Blocks) ((((((p.Funcs.getD v16.toNat default).Blocks).length : Int) : Int) - 0).toNat) st10 st20 0 with
  | (Qeb, Qfe) =>
   QbE p r Qeb Qfe (v16 + 1)
def QcY (p : Qaj) (st1 : List (Str × Bool)) (st2 : List Str) : (List (Str × Bool)) × List Str :=
 let rv2 := (Qcr p)
 bif (!rv2) then
  (st1, st2)
 else
  match QbE p (((p.Funcs.length : Int) - 0).toNat) st1 st2 0 with
  | (Qer, Qgr) =>
   (Qer, Qgr)
def QcV (p : Qaj) : List Str :=
 let rv8 := (QcY p [] [])
 rv8.2
def Qb8 (p : Qaj) (funcs : List (Str × Bool)) : Nat -> Int -> LR Unit (Qay × Int)
 | 0, v29 =>
  .brk ()
 | r + 1, v29 =>
  let rv29 := (Qdv (p.Funcs.getD v29.toNat default) v29 funcs)
  bif (rv29.2 != 0) then
   .ret (rv29.1, rv29.2)
  else
   Qb8 p funcs r (v29 + 1)
def Qcz (p : Qaj) : Qay × Int :=
 let rv3 := (Qcr p)
 bif (!rv3) then
  ((Qay.mk 0 0 0 0), 1)
 else
  let rv14 := (Qc0 p.Funcs (fun x0 => QeB x0))
  bif decide (0 <= rv14.1) then
   ((Qay.mk 1 rv14.1 (-1) (-1)), 6)
  else
   match Qb8 p rv14.2 (((p.Funcs.length : Int) - 0).toNat) 0 with
   | .brk _ =>
    let rv22 := (QcM p)
    let rv29 := (QcV p)
    bif decide (64 < (rv29.length : Int)) then
     ((Qay.mk 0 0 0 0), 7)
    else
     bif decide (256 < rv22.1) then
      ((Qay.mk 0 0 0 0), 7)
     else
      bif decide (1024 < rv22.2) then
       ((Qay.mk 0 0 0 0), 7)
      else
       ((Qay.mk 0 0 0 0), 0)
   | .ret r => r
   | .oof => default
def Qd6  (i : Int) (k : Int) (v41 : List Qax) : Nat -> List Qay -> Int -> List Qay
 | 0, out, v43 =>
  out
 | r + 1, out, v43 =>
  bif ((v41.getD v43.toNat default).Op == 3) then
   Qd6 i k v41 r ((out ++ [(Qay.mk 3 i k v43)]) ++ [(Qay.mk 4 i k v43)]) (v43 + 1)
  else
   Qd6 i k v41 r (out ++ [(Qay.mk 3 i k v43)]) (v43 + 1)
def QeD  (i : Int) (v33 : List QaM) : Nat -> List Qay -> Int -> List Qay
 | 0, out, v35 =>
  out
 | r + 1, out, v35 =>
  match Qd6 i v35 ((v33.getD v35.toNat default).Stmts) ((((((v33.getD v35.toNat default).Stmts).length : Int) : Int) - 0).toNat) out 0 with
  | Qh3 =>
   QeD i v33 r Qh3 (v35 + 1)
def QeF (p : Qaj) : Nat -> List Qay -> Int -> List Qay
 | 0, out, v22 =>
  out
 | r + 1, out, v22 =>
  match QeD v22 ((p.Funcs.getD v22.toNat default).Blocks) ((((((p.Funcs.getD v22.toNat default).Blocks).length : Int) : Int) - 0).toNat) (out ++ [(Qay.mk 1 v22 (-1) (-1))]) 0 with
  | Qeb =>
   QeF p r (Qeb ++ [(Qay.mk 2 v22 (-1) (-1))]) (v22 + 1)
def Qfv (p : Qaj) : List Qay :=
 let rv2 := (Qcz p)
 bif (rv2.2 != 0) then
  []
 else
  match QeF p (((p.Funcs.length : Int) - 0).toNat) [] 0 with
  | Qer =>
   Qer
def QbP (b : QaD) (from_ : Int) (to_ : Int) : QaD :=
 let rv5 := (Qcc (b.g.Succ.getD from_.toNat []) to_)
 bif rv5 then
  b
 else
  (QaD.mk (Qbn.mk b.g.Nodes (b.g.Succ.set from_.toNat ((b.g.Succ.getD from_.toNat []) ++ [to_])) (b.g.Pred.set to_.toNat ((b.g.Pred.getD to_.toNat []) ++ [from_]))) b.number)
def Qgd (b : QaD) (kind : Int) (f : Int) (block : Int) (stmt : Int) : Int :=
 ((Qea b.number (Qay.mk kind f block stmt)).getD 0)
def Qcd (s : List QaM) (fp : QaM -> Bool) : Nat -> Int -> LR Unit Int
 | 0, v8 =>
  .brk ()
 | r + 1, v8 =>
  bif (fp (s.getD v8.toNat default)) then
   .ret v8
  else
   Qcd s fp r (v8 + 1)
def Qdf (s : List QaM) (fp : QaM -> Bool) : Int :=
 match Qcd s fp (((s.length : Int) - 0).toNat) 0 with
 | .brk _ =>
  -1
 | .ret r => r
 | .oof => default
def QfR (x : QaM) (cap0 : Str) : Bool :=
 (x.Name == cap0)
def QgR (b : QaD) (p : Qaj) (f : Int) (name : Str) : Int :=
 let rv7 := (Qdf ((p.Funcs.getD f.toNat default).Blocks) (fun x => QfR x name))
 let rv11 := (Qgd b 3 f rv7 0)
 rv11
def Qcp (s : List Qbv) (fp : Qbv -> Bool) : Nat -> Int -> LR Unit Int
 | 0, v8 =>
  .brk ()
 | r + 1, v8 =>
  bif (fp (s.getD v8.toNat default)) then
   .ret v8
  else
   Qcp s fp r (v8 + 1)
def QcX (s : List Qbv) (fp : Qbv -> Bool) : Int :=
 match Qcp s fp (((s.length : Int) - 0).toNat) 0 with
 | .brk _ =>
  -1
 | .ret r => r
 | .oof => default
def QfZ (x : Qbv) (cap0 : Qax) : Bool :=
 (x.Name == (cap0.Targets.getD (0 : Int).toNat default))
def Qdd (p : Qaj) (n : Qay) (s : Qax) (here : Int) : Nat -> List Qay -> List (List Int) -> List (List Int) -> List (Qay × Int) -> Int -> List Qay × List (List Int) × List (List Int) × (List (Qay × Int))
 | 0, b0, b1, b2, b3, v41 =>
  (b0, b1, b2, b3)
 | r + 1, b0, b1, b2, b3, v41 =>
  let rv18 := (QgR (QaD.mk (Qbn.mk b0 b1 b2) b3) p n.Func (s.Targets.getD v41.toNat default))
  let rv26 := (QbP (QaD.mk (Qbn.mk b0 b1 b2) b3) here rv18)
  Qdd p n s here r rv26.g.Nodes rv26.g.Succ rv26.g.Pred rv26.number (v41 + 1)
def Qgq (b : QaD) (p : Qaj) (n : Qay) (s : Qax) : QaD :=
 let rv4 := (Qgd b 3 n.Func n.Block (n.Stmt + 1))
 bif (s.Op == 7) then
  match Qdd p n s ((Qea b.number n).getD 0) (((s.Targets.length : Int) - 0).toNat) b.g.Nodes b.g.Succ b.g.Pred b.number 0 with
  | (Qer, Qgr, Qjv, Qsq) =>
   (QaD.mk (Qbn.mk Qer Qgr Qjv) Qsq)
 else
  bif (s.Op == 8) then
   match Qdd p n s ((Qea b.number n).getD 0) (((s.Targets.length : Int) - 0).toNat) b.g.Nodes b.g.Succ b.g.Pred b.number 0 with
   | (Qer, Qgr, Qjv, Qsq) =>
    (QaD.mk (Qbn.mk Qer Qgr Qjv) Qsq)
  else
   bif (s.Op == 9) then
    let rv39 := (Qgd b 2 n.Func (-1) (-1))
    let rv47 := (QbP b ((Qea b.number n).getD 0) rv39)
    rv47
   else
    bif (s.Op == 3) then
     let rv64 := (QcX p.Funcs (fun x => QfZ x s))
     let rv68 := (Qgd b 4 n.Func n.Block n.Stmt)
     let rv73 := (Qgd b 1 rv64 (-1) (-1))
     let rv81 := (QbP b ((Qea b.number n).getD 0) rv73)
     let rv95 := (Qgd rv81 2 rv64 (-1) (-1))
     let rv103 := (QbP rv81 rv95 rv68)
     let rv120 := (QbP rv103 rv68 rv4)
     rv120
    else
     let rv138 := (QbP b ((Qea b.number n).getD 0) rv4)
     rv138
def Qed (x : Int) : Bool :=
 (x != x)
def Qar (x : Int) (y : Int) : Bool :=
 let rv1 := (Qed x)
 bif rv1 then
  let rv6 := (Qed y)
  bif (!rv6) then
   true
  else
   decide (x < y)
 else
  decide (x < y)
def QaS  : Nat -> List Int -> Int -> List Int
 | 0, data', j =>
  data'
 | r + 1, data', j =>
  let rv7 := (Qar (data'.getD j.toNat 0) (data'.getD ((j - 1) : Int).toNat 0))
  bif rv7 then
   QaS r ((data'.set j.toNat (data'.getD ((j - 1) : Int).toNat 0)).set ((j - 1) : Int).toNat (data'.getD j.toNat 0)) (j - 1)
  else
   data'
def QaL (a : Int) : Nat -> List Int -> Int -> List Int
 | 0, data', i =>
  data'
 | r + 1, data', i =>
  match QaS (((i : Int) - a).toNat) data' i with
  | Qeb =>
   QaL a r Qeb (i + 1)
def Qbu (data : List Int) (a : Int) (b : Int) : List Int :=
 match QaL a (((b : Int) - (a + 1)).toNat) data (a + 1) with
 | Qer =>
  Qer
def Qas (hi : Int) (first : Int) : Nat -> List Int -> Int -> LR (List Int) (List Int)
 | 0, data', root =>
  .oof
 | r + 1, data', root =>
  bif decide (hi <= ((2 * root) + 1)) then
   .brk data'
  else
   bif decide ((((2 * root) + 1) + 1) < hi) then
    let rv8 := (Qar (data'.getD ((first + ((2 * root) + 1)) : Int).toNat 0) (data'.getD (((first + ((2 * root) + 1)) + 1) : Int).toNat 0))
    bif rv8 then
     let rv15 := (Qar (data'.getD ((first + root) : Int).toNat 0) (data'.getD ((first + (((2 * root) + 1) + 1)) : Int).toNat 0))
     bif (!rv15) then
      .ret data'
     else
      Qas hi first r ((data'.set ((first + root) : Int).toNat (data'.getD ((first + (((2 * root) + 1) + 1)) : Int).toNat 0)).set ((first + (((2 * root) + 1) + 1)) : Int).toNat (data'.getD ((first + root) : Int).toNat 0)) (((2 * root) + 1) + 1)
    else
     let rv30 := (Qar (data'.getD ((first + root) : Int).toNat 0) (data'.getD ((first + ((2 * root) + 1)) : Int).toNat 0))
     bif (!rv30) then
      .ret data'
     else
      Qas hi first r ((data'.set ((first + root) : Int).toNat (data'.getD ((first + ((2 * root) + 1)) : Int).toNat 0)).set ((first + ((2 * root) + 1)) : Int).toNat (data'.getD ((first + root) : Int).toNat 0)) ((2 * root) + 1)
   else
    let rv45 := (Qar (data'.getD ((first + root) : Int).toNat 0) (data'.getD ((first + ((2 * root) + 1)) : Int).toNat 0))
    bif (!rv45) then
     .ret data'
    else
     Qas hi first r ((data'.set ((first + root) : Int).toNat (data'.getD ((first + ((2 * root) + 1)) : Int).toNat 0)).set ((first + ((2 * root) + 1)) : Int).toNat (data'.getD ((first + root) : Int).toNat 0)) ((2 * root) + 1)
def QaY (data : List Int) (lo : Int) (hi : Int) (first : Int) : List Int :=
 match Qas hi first (hi.toNat + 1) data lo with
 | .brk Qer =>
  Qer
 | .ret r => r
 | .oof => default
def Qa9 (a : Int) (b : Int) : Nat -> List Int -> Int -> LR (List Int) (List Int)
 | 0, data', i =>
  .oof
 | r + 1, data', i =>
  bif decide (0 <= i) then
   let rv4 := (QaY data' i (b - a) a)
   Qa9 a b r rv4 (i - 1)
  else
   .brk data'
def Qa8 (a : Int) : Nat -> List Int -> Int -> LR (List Int) (List Int)
 | 0, data', i =>
  .oof
 | r + 1, data', i =>
  bif decide (0 <= i) then
   let rv7 := (QaY ((data'.set a.toNat (data'.getD ((a + i) : Int).toNat 0)).set ((a + i) : Int).toNat (data'.getD a.toNat 0)) 0 i a)
   Qa8 a r rv7 (i - 1)
  else
   .brk data'
def QbM (data : List Int) (a : Int) (b : Int) : List Int :=
 match Qa9 a b ((b - a).toNat + 1) data (((b - a) - 1) / 2) with
 | .brk Qer =>
  match Qa8 a ((b - a).toNat + 1) Qer ((b - a) - 1) with
  | .brk Qeb =>
   Qeb
  | .ret _ => default
  | .oof => default
 | .ret _ => default
 | .oof => default
def QfQ (x : BitVec 64) : Int :=
 bif decide (256 <= (x.toNat : Int)) then
  ((0 + 8) + ((Qj6.b.getD (((x >>> (((8#64).toNat : Int)).toNat).toNat : Int) : Int).toNat 0).toNat : Int))
 else
  (0 + ((Qj6.b.getD ((x.toNat : Int) : Int).toNat 0).toNat : Int))
def Qen (x : BitVec 64) : Int :=
 let rv1 := (QfQ x)
 rv1
def QcF (length : Int) : BitVec 64 :=
 let rv1 := (Qen (BitVec.ofInt 64 length))
 (1#64 <<< (rv1).toNat)
def Qdp (r : BitVec 64) : BitVec 64 × BitVec 64 :=
 ((((r ^^^ (r <<< (((13#64).toNat : Int)).toNat)) ^^^ ((r ^^^ (r <<< (((13#64).toNat : Int)).toNat)) >>> (((7#64).toNat : Int)).toNat)) ^^^ (((r ^^^ (r <<< (((13#64).toNat : Int)).toNat)) ^^^ ((r ^^^ (r <<< (((13#64).toNat : Int)).toNat)) >>> (((7#64).toNat : Int)).toNat)) <<< (((17#64).toNat : Int)).toNat)), (((r ^^^ (r <<< (((13#64).toNat : Int)).toNat)) ^^^ ((r ^^^ (r <<< (((13#64).toNat : Int)).toNat)) >>> (((7#64).toNat : Int)).toNat)) ^^^ (((r ^^^ (r <<< (((13#64).toNat : Int)).toNat)) ^^^ ((r ^^^ (r <<< (((13#64).toNat : Int)).toNat)) >>> (((7#64).toNat : Int)).toNat)) <<< (((17#64).toNat : Int)).toNat)))
def QaE (a : Int) (b : Int) (modulus : BitVec 64) : Nat -> List Int -> BitVec 64 -> Int -> LR (List Int) (List Int)
 | 0, data', random0, idx =>
  .oof
 | r + 1, data', random0, idx =>
  bif decide (idx <= ((a + (((b - a) / 4) * 2)) + 1)) then
   let rv9 := (Qdp random0)
   bif decide ((b - a) <= ((rv9.1 &&& (modulus - 1#64)).toNat : Int)) then
    QaE a b modulus r ((data'.set idx.toNat (data'.getD ((a + (((rv9.1 &&& (modulus - 1#64)).toNat : Int) - (b - a))) : Int).toNat 0)).set ((a + (((rv9.1 &&& (modulus - 1#64)).toNat : Int) - (b - a))) : Int).toNat (data'.getD idx.toNat 0)) rv9.2 (idx + 1)
   else
    QaE a b modulus r ((data'.set idx.toNat (data'.getD ((a + ((rv9.1 &&& (modulus - 1#64)).toNat : Int)) : Int).toNat 0)).set ((a + ((rv9.1 &&& (modulus - 1#64)).toNat : Int)) : Int).toNat (data'.getD idx.toNat 0)) rv9.2 (idx + 1)
  else
   .brk data'
def QaJ (data : List Int) (a : Int) (b : Int) : List Int :=
 bif decide (8 <= (b - a)) then
  let rv4 := (QcF (b - a))
  match QaE a b rv4 4 data (BitVec.ofInt 64 (b - a)) ((a + (((b - a) / 4) * 2)) - 1) with
  | .brk Qer =>
   Qer
  | .ret _ => default
  | .oof => default
 else
  data
def QaX (data : List Int) (a : Int) (b : Int) (swaps : Int) : Int × Int × Int :=
 let rv3 := (Qar (data.getD b.toNat 0) (data.getD a.toNat 0))
 bif rv3 then
  (b, a, (swaps + 1))
 else
  (a, b, swaps)
def QaW (data : List Int) (a : Int) (b : Int) (c : Int) (swaps : Int) : Int × Int :=
 let rv1 := (QaX data a b swaps)
 let rv9 := (QaX data rv1.2.1 c rv1.2.2)
 let rv17 := (QaX data rv1.1 rv9.1 rv9.2.2)
 (rv17.2.1, rv17.2.2)
def Qbg (data : List Int) (a : Int) (swaps : Int) : Int × Int :=
 let rv1 := (QaW data (a - 1) a (a + 1) swaps)
 (rv1.1, rv1.2)
def Qal (data : List Int) (a : Int) (b : Int) : Int × Int :=
 bif decide (8 <= (b - a)) then
  bif decide (50 <= (b - a)) then
   let rv6 := (Qbg data (a + (((b - a) / 4) * 1)) 0)
   let rv13 := (Qbg data (a + (((b - a) / 4) * 2)) rv6.2)
   let rv20 := (Qbg data (a + (((b - a) / 4) * 3)) rv13.2)
   let rv27 := (QaW data rv6.1 rv13.1 rv20.1 rv20.2)
   bif (rv27.2 == 0) then
    (rv27.1, 1)
   else
    bif (rv27.2 == 12) then
     (rv27.1, 2)
    else
     (rv27.1, 0)
  else
   let rv41 := (QaW data (a + (((b - a) / 4) * 1)) (a + (((b - a) / 4) * 2)) (a + (((b - a) / 4) * 3)) 0)
   bif (rv41.2 == 0) then
    (rv41.1, 1)
   else
    bif (rv41.2 == 12) then
     (rv41.1, 2)
    else
     (rv41.1, 0)
 else
  ((a + (((b - a) / 4) * 2)), 1)
def QaV  : Nat -> List Int -> Int -> Int -> LR (List Int) (List Int)
 | 0, data', i, j =>
  .oof
 | r + 1, data', i, j =>
  bif decide (i < j) then
   QaV r ((data'.set i.toNat (data'.getD j.toNat 0)).set j.toNat (data'.getD i.toNat 0)) (i + 1) (j - 1)
  else
   .brk data'
def Qa3 (data : List Int) (a : Int) (b : Int) : List Int :=
 match QaV ((b - a).toNat + 1) data a (b - 1) with
 | .brk Qer =>
  Qer
 | .ret _ => default
 | .oof => default
def Qai  (data' : List Int) : Nat -> Int -> Int
 | 0, i =>
  i
 | r + 1, i =>
  let rv7 := (Qar (data'.getD i.toNat 0) (data'.getD ((i - 1) : Int).toNat 0))
  bif (!rv7) then
   Qai data' r (i + 1)
  else
   i
def Qaq  : Nat -> List Int -> Int -> LR (List Int) (Bool × List Int)
 | 0, data', j' =>
  .oof
 | r + 1, data', j' =>
  bif decide (1 <= j') then
   let rv18 := (Qar (data'.getD j'.toNat 0) (data'.getD ((j' - 1) : Int).toNat 0))
   bif (!rv18) then
    .brk data'
   else
    Qaq r ((data'.set j'.toNat (data'.getD ((j' - 1) : Int).toNat 0)).set ((j' - 1) : Int).toNat (data'.getD j'.toNat 0)) (j' - 1)
  else
   .brk data'
def Qah  : Nat -> List Int -> Int -> List Int
 | 0, data', j' =>
  data'
 | r + 1, data', j' =>
  let rv21 := (Qar (data'.getD j'.toNat 0) (data'.getD ((j' - 1) : Int).toNat 0))
  bif (!rv21) then
   data'
  else
   Qah r ((data'.set j'.toNat (data'.getD ((j' - 1) : Int).toNat 0)).set ((j' - 1) : Int).toNat (data'.getD j'.toNat 0)) (j' + 1)
def Qad (data : List Int) (a : Int) (b : Int) : Nat -> List Int -> Int -> Int -> LR (List Int) (Bool × List Int)
 | 0, data', i, j =>
  .brk data'
 | r + 1, data', i, j =>
  match Qai data' (((b : Int) - i).toNat) i with
  | Qeb =>
   bif (Qeb == b) then
    .ret (true, data')
   else
    bif decide ((b - a) < 50) then
     .ret (false, data')
    else
     bif decide (2 <= (Qeb - a)) then
      match Qaq (data.length + 1) ((data'.set Qeb.toNat (data'.getD ((Qeb - 1) : Int).toNat 0)).set ((Qeb - 1) : Int).toNat (data'.getD Qeb.toNat 0)) (Qeb - 1) with
      | .brk Qh3 =>
       bif decide (2 <= (b - Qeb)) then
        match Qah (((b : Int) - (Qeb + 1)).toNat) Qh3 (Qeb + 1) with
        | Qox =>
         Qad data a b r Qox Qeb (j + 1)
       else
        Qad data a b r Qh3 Qeb (j + 1)
      | .ret _ => .oof
      | .oof => .oof
     else
      bif decide (2 <= (b - Qeb)) then
       match Qah (((b : Int) - (Qeb + 1)).toNat) ((data'.set Qeb.toNat (data'.getD ((Qeb - 1) : Int).toNat 0)).set ((Qeb - 1) : Int).toNat (data'.getD Qeb.toNat 0)) (Qeb + 1) with
       | Qox =>
        Qad data a b r Qox Qeb (j + 1)
      else
       Qad data a b r ((data'.set Qeb.toNat (data'.getD ((Qeb - 1) : Int).toNat 0)).set ((Qeb - 1) : Int).toNat (data'.getD Qeb.toNat 0)) Qeb (j + 1)
def Qam (data : List Int) (a : Int) (b : Int) : Bool × List Int :=
 match Qad data a b 5 data (a + 1) 0 with
 | .brk Qer =>
  (false, Qer)
 | .ret r => r
 | .oof => default
def QaI (a : Int) (data' : List Int) (j : Int) : Nat -> Int -> LR Int (Int × List Int)
 | 0, i =>
  .oof
 | r + 1, i =>
  bif decide (i <= j) then
   let rv7 := (Qar (data'.getD a.toNat 0) (data'.getD i.toNat 0))
   bif (!rv7) then
    QaI a data' j r (i + 1)
   else
    .brk i
  else
   .brk i
def QaH (a : Int) (data' : List Int) (i : Int) : Nat -> Int -> LR Int (Int × List Int)
 | 0, j =>
  .oof
 | r + 1, j =>
  bif decide (i <= j) then
   let rv8 := (Qar (data'.getD a.toNat 0) (data'.getD j.toNat 0))
   bif rv8 then
    QaH a data' i r (j - 1)
   else
    .brk j
  else
   .brk j
def QaP (a : Int) (b : Int) : Nat -> List Int -> Int -> Int -> LR (List Int × Int) (Int × List Int)
 | 0, data', i, j =>
  .oof
 | r + 1, data', i, j =>
  match QaI a data' j ((b - a).toNat + 2) i with
  | .brk Qeb =>
   match QaH a data' Qeb ((b - a).toNat + 2) j with
   | .brk Qh3 =>
    bif decide (Qh3 < Qeb) then
     .brk (data', Qeb)
    else
     QaP a b r ((data'.set Qeb.toNat (data'.getD Qh3.toNat 0)).set Qh3.toNat (data'.getD Qeb.toNat 0)) (Qeb + 1) (Qh3 - 1)
   | .ret _ => .oof
   | .oof => .oof
  | .ret _ => .oof
  | .oof => .oof
def Qao (data : List Int) (a : Int) (b : Int) (pivot : Int) : Int × List Int :=
 match QaP a b ((b - a).toNat + 2) ((data.set a.toNat (data.getD pivot.toNat 0)).set pivot.toNat (data.getD a.toNat 0)) (a + 1) (b - 1) with
 | .brk (Qer, Qgr) =>
  (Qgr, Qer)
 | .ret _ => default
 | .oof => default
def QaU (data : List Int) (a : Int) (b : Int) (pivot : Int) : Nat -> Int -> LR Int (Int × Bool × List Int)
 | 0, i =>
  .oof
 | r + 1, i =>
  bif decide (i <= (b - 1)) then
   let rv7 := (Qar (((data.set a.toNat (data.getD pivot.toNat 0)).set pivot.toNat (data.getD a.toNat 0)).getD i.toNat 0) (((data.set a.toNat (data.getD pivot.toNat 0)).set pivot.toNat (data.getD a.toNat 0)).getD a.toNat 0))
   bif rv7 then
    QaU data a b pivot r (i + 1)
   else
    .brk i
  else
   .brk i
def QaT (data : List Int) (a : Int) (pivot : Int) (i : Int) : Nat -> Int -> LR Int (Int × Bool × List Int)
 | 0, j =>
  .oof
 | r + 1, j =>
  bif decide (i <= j) then
   let rv8 := (Qar (((data.set a.toNat (data.getD pivot.toNat 0)).set pivot.toNat (data.getD a.toNat 0)).getD j.toNat 0) (((data.set a.toNat (data.getD pivot.toNat 0)).set pivot.toNat (data.getD a.toNat 0)).getD a.toNat 0))
   bif (!rv8) then
    QaT data a pivot i r (j - 1)
   else
    .brk j
  else
   .brk j
def QaG (a : Int) (data' : List Int) (j : Int) : Nat -> Int -> LR Int (Int × Bool × List Int)
 | 0, i =>
  .oof
 | r + 1, i =>
  bif decide (i <= j) then
   let rv16 := (Qar (data'.getD i.toNat 0) (data'.getD a.toNat 0))
   bif rv16 then
    QaG a data' j r (i + 1)
   else
    .brk i
  else
   .brk i
def QaF (a : Int) (data' : List Int) (i : Int) : Nat -> Int -> LR Int (Int × Bool × List Int)
 | 0, j =>
  .oof
 | r + 1, j =>
  bif decide (i <= j) then
   let rv17 := (Qar (data'.getD j.toNat 0) (data'.getD a.toNat 0))
   bif (!rv17) then
    QaF a data' i r (j - 1)
   else
    .brk j
  else
   .brk j
def Qa4 (a : Int) (b : Int) : Nat -> List Int -> Int -> Int -> LR (List Int × Int) (Int × Bool × List Int)
 | 0, data', i, j =>
  .oof
 | r + 1, data', i, j =>
  match QaG a data' j ((b - a).toNat + 2) i with
  | .brk Qox =>
   match QaF a data' Qox ((b - a).toNat + 2) j with
   | .brk Qsr =>
    bif decide (Qsr < Qox) then
     .brk (data', Qsr)
    else
     Qa4 a b r ((data'.set Qox.toNat (data'.getD Qsr.toNat 0)).set Qsr.toNat (data'.getD Qox.toNat 0)) (Qox + 1) (Qsr - 1)
   | .ret _ => .oof
   | .oof => .oof
  | .ret _ => .oof
  | .oof => .oof
def Qae (data : List Int) (a : Int) (b : Int) (pivot : Int) : Int × Bool × List Int :=
 match QaU data a b pivot ((b - a).toNat + 2) (a + 1) with
 | .brk Qer =>
  match QaT data a pivot Qer ((b - a).toNat + 2) (b - 1) with
  | .brk Qeb =>
   bif decide (Qeb < Qer) then
    (Qeb, true, ((((data.set a.toNat (data.getD pivot.toNat 0)).set pivot.toNat (data.getD a.toNat 0)).set Qeb.toNat (((data.set a.toNat (data.getD pivot.toNat 0)).set pivot.toNat (data.getD a.toNat 0)).getD a.toNat 0)).set a.toNat (((data.set a.toNat (data.getD pivot.toNat 0)).set pivot.toNat (data.getD a.toNat 0)).getD Qeb.toNat 0)))
   else
    match Qa4 a b ((b - a).toNat + 2) ((((data.set a.toNat (data.getD pivot.toNat 0)).set pivot.toNat (data.getD a.toNat 0)).set Qer.toNat (((data.set a.toNat (data.getD pivot.toNat 0)).set pivot.toNat (data.getD a.toNat 0)).getD Qeb.toNat 0)).set Qeb.toNat (((data.set a.toNat (data.getD pivot.toNat 0)).set pivot.toNat (data.getD a.toNat 0)).getD Qer.toNat 0)) (Qer + 1) (Qeb - 1) with
    | .brk (Qh3, Qlm) =>
     (Qlm, false, ((Qh3.set Qlm.toNat (Qh3.getD a.toNat 0)).set a.toNat (Qh3.getD Qlm.toNat 0)))
    | .ret _ => default
    | .oof => default
  | .ret _ => default
  | .oof => default
 | .ret _ => default
 | .oof => default
def Qaa (rc : List Int -> Int -> Int -> Int -> List Int) : Nat -> List Int -> Int -> Int -> Int -> Bool -> Bool -> LR Unit (List Int)
 | 0, data', a', b', limit', wasBalanced, wasPartitioned =>
  .oof
 | r + 1, data', a', b', limit', wasBalanced, wasPartitioned =>
  bif decide ((b' - a') <= 12) then
   let rv4 := (Qbu data' a' b')
   .ret rv4
  else
   bif (limit' == 0) then
    let rv15 := (QbM data' a' b')
    .ret rv15
   else
    bif (!wasBalanced) then
     let rv28 := (QaJ data' a' b')
     let rv36 := (Qal rv28 a' b')
     bif (rv36.2 == 2) then
      let rv45 := (Qa3 rv28 a' b')
      bif decide (0 < a') then
       let rv58 := (Qar (rv45.getD ((a' - 1) : Int).toNat 0) (rv45.getD (((b' - 1) - (rv36.1 - a')) : Int).toNat 0))
       bif (!rv58) then
        let rv66 := (Qao rv45 a' b' ((b' - 1) - (rv36.1 - a')))
        Qaa rc r rv66.2 rv66.1 b' (limit' - 1) wasBalanced wasPartitioned
       else
        let rv79 := (Qae rv45 a' b' ((b' - 1) - (rv36.1 - a')))
        bif decide ((rv79.1 - a') < (b' - rv79.1)) then
         let rv91 := (rc rv79.2.2 a' rv79.1 (limit' - 1))
         Qaa rc r rv91 (rv79.1 + 1) b' (limit' - 1) (decide (((b' - a') / 8) <= (rv79.1 - a'))) rv79.2.1
        else
         let rv100 := (rc rv79.2.2 (rv79.1 + 1) b' (limit' - 1))
         Qaa rc r rv100 a' rv79.1 (limit' - 1) (decide (((b' - a') / 8) <= (b' - rv79.1))) rv79.2.1
      else
       let rv109 := (Qae rv45 a' b' ((b' - 1) - (rv36.1 - a')))
       bif decide ((rv109.1 - a') < (b' - rv109.1)) then
        let rv121 := (rc rv109.2.2 a' rv109.1 (limit' - 1))
        Qaa rc r rv121 (rv109.1 + 1) b' (limit' - 1) (decide (((b' - a') / 8) <= (rv109.1 - a'))) rv109.2.1
       else
        let rv130 := (rc rv109.2.2 (rv109.1 + 1) b' (limit' - 1))
        Qaa rc r rv130 a' rv109.1 (limit' - 1) (decide (((b' - a') / 8) <= (b' - rv109.1))) rv109.2.1
     else
      bif decide (0 < a') then
       let rv144 := (Qar (rv28.getD ((a' - 1) : Int).toNat 0) (rv28.getD rv36.1.toNat 0))
       bif (!rv144) then
        let rv152 := (Qao rv28 a' b' rv36.1)
        Qaa rc r rv152.2 rv152.1 b' (limit' - 1) wasBalanced wasPartitioned
       else
        let rv165 := (Qae rv28 a' b' rv36.1)
        bif decide ((rv165.1 - a') < (b' - rv165.1)) then
         let rv177 := (rc rv165.2.2 a' rv165.1 (limit' - 1))
         Qaa rc r rv177 (rv165.1 + 1) b' (limit' - 1) (decide (((b' - a') / 8) <= (rv165.1 - a'))) rv165.2.1
        else
         let rv186 := (rc rv165.2.2 (rv165.1 + 1) b' (limit' - 1))
         Qaa rc r rv186 a' rv165.1 (limit' - 1) (decide (((b' - a') / 8) <= (b' - rv165.1))) rv165.2.1
      else
       let rv195 := (Qae rv28 a' b' rv36.1)
       bif decide ((rv195.1 - a') < (b' - rv195.1)) then
        let rv207 := (rc rv195.2.2 a' rv195.1 (limit' - 1))
        Qaa rc r rv207 (rv195.1 + 1) b' (limit' - 1) (decide (((b' - a') / 8) <= (rv195.1 - a'))) rv195.2.1
       else
        let rv216 := (rc rv195.2.2 (rv195.1 + 1) b' (limit' - 1))
        Qaa rc r rv216 a' rv195.1 (limit' - 1) (decide (((b' - a') / 8) <= (b' - rv195.1))) rv195.2.1
    else
     let rv227 := (Qal data' a' b')
     bif (rv227.2 == 2) then
      let rv236 := (Qa3 data' a' b')
      bif wasPartitioned then
       let rv248 := (Qam rv236 a' b')
       bif rv248.1 then
        .ret rv248.2
       else
        bif decide (0 < a') then
         let rv262 := (Qar (rv248.2.getD ((a' - 1) : Int).toNat 0) (rv248.2.getD (((b' - 1) - (rv227.1 - a')) : Int).toNat 0))
         bif (!rv262) then
          let rv270 := (Qao rv248.2 a' b' ((b' - 1) - (rv227.1 - a')))
          Qaa rc r rv270.2 rv270.1 b' limit' wasBalanced wasPartitioned
         else
          let rv283 := (Qae rv248.2 a' b' ((b' - 1) - (rv227.1 - a')))
          bif decide ((rv283.1 - a') < (b' - rv283.1)) then
           let rv295 := (rc rv283.2.2 a' rv283.1 limit')
           Qaa rc r rv295 (rv283.1 + 1) b' limit' (decide (((b' - a') / 8) <= (rv283.1 - a'))) rv283.2.1
          else
           let rv304 := (rc rv283.2.2 (rv283.1 + 1) b' limit')
           Qaa rc r rv304 a' rv283.1 limit' (decide (((b' - a') / 8) <= (b' - rv283.1))) rv283.2.1
        else
         let rv313 := (Qae rv248.2 a' b' ((b' - 1) - (rv227.1 - a')))
         bif decide ((rv313.1 - a') < (b' - rv313.1)) then
          let rv325 := (rc rv313.2.2 a' rv313.1 limit')
          Qaa rc r rv325 (rv313.1 + 1) b' limit' (decide (((b' - a') / 8) <= (rv313.1 - a'))) rv313.2.1
         else
          let rv334 := (rc rv313.2.2 (rv313.1 + 1) b' limit')
          Qaa rc r rv334 a' rv313.1 limit' (decide (((b' - a') / 8) <= (b' - rv313.1))) rv313.2.1
      else
       bif decide (0 < a') then
        let rv346 := (Qar (rv236.getD ((a' - 1) : Int).toNat 0) (rv236.getD (((b' - 1) - (rv227.1 - a')) : Int).toNat 0))
        bif (!rv346) then
         let rv354 := (Qao rv236 a' b' ((b' - 1) - (rv227.1 - a')))
         Qaa rc r rv354.2 rv354.1 b' limit' wasBalanced wasPartitioned
        else
         let rv367 := (Qae rv236 a' b' ((b' - 1) - (rv227.1 - a')))
         bif decide ((rv367.1 - a') < (b' - rv367.1)) then
          let rv379 := (rc rv367.2.2 a' rv367.1 limit')
          Qaa rc r rv379 (rv367.1 + 1) b' limit' (decide (((b' - a') / 8) <= (rv367.1 - a'))) rv367.2.1
         else
          let rv388 := (rc rv367.2.2 (rv367.1 + 1) b' limit')
          Qaa rc r rv388 a' rv367.1 limit' (decide (((b' - a') / 8) <= (b' - rv367.1))) rv367.2.1
       else
        let rv397 := (Qae rv236 a' b' ((b' - 1) - (rv227.1 - a')))
        bif decide ((rv397.1 - a') < (b' - rv397.1)) then
         let rv409 := (rc rv397.2.2 a' rv397.1 limit')
         Qaa rc r rv409 (rv397.1 + 1) b' limit' (decide (((b' - a') / 8) <= (rv397.1 - a'))) rv397.2.1
        else
         let rv418 := (rc rv397.2.2 (rv397.1 + 1) b' limit')
         Qaa rc r rv418 a' rv397.1 limit' (decide (((b' - a') / 8) <= (b' - rv397.1))) rv397.2.1
     else
      bif wasPartitioned then
       bif (rv227.2 == 1) then
        let rv433 := (Qam data' a' b')
        bif rv433.1 then
         .ret rv433.2
        else
         bif decide (0 < a') then
          let rv447 := (Qar (rv433.2.getD ((a' - 1) : Int).toNat 0) (rv433.2.getD rv227.1.toNat 0))
          bif (!rv447) then
           let rv455 := (Qao rv433.2 a' b' rv227.1)
           Qaa rc r rv455.2 rv455.1 b' limit' wasBalanced wasPartitioned
          else
           let rv468 := (Qae rv433.2 a' b' rv227.1)
           bif decide ((rv468.1 - a') < (b' - rv468.1)) then
            let rv480 := (rc rv468.2.2 a' rv468.1 limit')
            Qaa rc r rv480 (rv468.1 + 1) b' limit' (decide (((b' - a') / 8) <= (rv468.1 - a'))) rv468.2.1
           else
            let rv489 := (rc rv468.2.2 (rv468.1 + 1) b' limit')
            Qaa rc r rv489 a' rv468.1 limit' (decide (((b' - a') / 8) <= (b' - rv468.1))) rv468.2.1
         else
          let rv498 := (Qae rv433.2 a' b' rv227.1)
          bif decide ((rv498.1 - a') < (b' - rv498.1)) then
           let rv510 := (rc rv498.2.2 a' rv498.1 limit')
           Qaa rc r rv510 (rv498.1 + 1) b' limit' (decide (((b' - a') / 8) <= (rv498.1 - a'))) rv498.2.1
          else
           let rv519 := (rc rv498.2.2 (rv498.1 + 1) b' limit')
           Qaa rc r rv519 a' rv498.1 limit' (decide (((b' - a') / 8) <= (b' - rv498.1))) rv498.2.1
       else
        bif decide (0 < a') then
         let rv531 := (Qar (data'.getD ((a' - 1) : Int).toNat 0) (data'.getD rv227.1.toNat 0))
         bif (!rv531) then
          let rv539 := (Qao data' a' b' rv227.1)
          Qaa rc r rv539.2 rv539.1 b' limit' wasBalanced wasPartitioned
         else
          let rv552 := (Qae data' a' b' rv227.1)
          bif decide ((rv552.1 - a') < (b' - rv552.1)) then
           let rv564 := (rc rv552.2.2 a' rv552.1 limit')
           Qaa rc r rv564 (rv552.1 + 1) b' limit' (decide (((b' - a') / 8) <= (rv552.1 - a'))) rv552.2.1
          else
           let rv573 := (rc rv552.2.2 (rv552.1 + 1) b' limit')
           Qaa rc r rv573 a' rv552.1 limit' (decide (((b' - a') / 8) <= (b' - rv552.1))) rv552.2.1
        else
         let rv582 := (Qae data' a' b' rv227.1)
         bif decide ((rv582.1 - a') < (b' - rv582.1)) then
          let rv594 := (rc rv582.2.2 a' rv582.1 limit')
          Qaa rc r rv594 (rv582.1 + 1) b' limit' (decide (((b' - a') / 8) <= (rv582.1 - a'))) rv582.2.1
         else
          let rv603 := (rc rv582.2.2 (rv582.1 + 1) b' limit')
          Qaa rc r rv603 a' rv582.1 limit' (decide (((b' - a') / 8) <= (b' - rv582.1))) rv582.2.1
      else
       bif decide (0 < a') then
        let rv615 := (Qar (data'.getD ((a' - 1) : Int).toNat 0) (data'.getD rv227.1.toNat 0))
        bif (!rv615) then
         let rv623 := (Qao data' a' b' rv227.1)
         Qaa rc r rv623.2 rv623.1 b' limit' wasBalanced wasPartitioned
        else
         let rv636 := (Qae data' a' b' rv227.1)
         bif decide ((rv636.1 - a') < (b' - rv636.1)) then
          let rv648 := (rc rv636.2.2 a' rv636.1 limit')
          Qaa rc r rv648 (rv636.1 + 1) b' limit' (decide (((b' - a') / 8) <= (rv636.1 - a'))) rv636.2.1
         else
          let rv657 := (rc rv636.2.2 (rv636.1 + 1) b' limit')
          Qaa rc r rv657 a' rv636.1 limit' (decide (((b' - a') / 8) <= (b' - rv636.1))) rv636.2.1
       else
        let rv666 := (Qae data' a' b' rv227.1)
        bif decide ((rv666.1 - a') < (b' - rv666.1)) then
         let rv678 := (rc rv666.2.2 a' rv666.1 limit')
         Qaa rc r rv678 (rv666.1 + 1) b' limit' (decide (((b' - a') / 8) <= (rv666.1 - a'))) rv666.2.1
        else
         let rv687 := (rc rv666.2.2 (rv666.1 + 1) b' limit')
         Qaa rc r rv687 a' rv666.1 limit' (decide (((b' - a') / 8) <= (b' - rv666.1))) rv666.2.1
def QbJ (rc : List Int -> Int -> Int -> Int -> List Int) (data : List Int) (a : Int) (b : Int) (limit : Int) : List Int :=
 match Qaa rc ((b - a).toNat + 1) data a b limit true true with
 | .brk _ => default
 | .ret r => r
 | .oof => default
def Qa6 : Nat -> List Int -> Int -> Int -> Int -> List Int
 | 0, _, _, _, _ => default
 | fu + 1, data, a, b, limit => QbJ (Qa6 fu) data a b limit
def Qca (x : List Int) : List Int :=
 let rv1 := (Qen (BitVec.ofInt 64 (x.length : Int)))
 let rv5 := (Qa6 (x.length + 1) x 0 (x.length : Int) rv1)
 rv5
def Qce  (v35 : List Qay) : Nat -> List (Qay × Int) -> Int -> (List (Qay × Int))
 | 0, b3, v37 =>
  b3
 | r + 1, b3, v37 =>
  Qce v35 r (mset b3 (v35.getD v37.toNat default) v37) (v37 + 1)
def QcC (p : Qaj) (v49 : List Qay) : Nat -> List Qay -> List (List Int) -> List (List Int) -> List (Qay × Int) -> Int -> List Qay × List (List Int) × List (List Int) × (List (Qay × Int))
 | 0, b0, b1, b2, b3, v51 =>
  (b0, b1, b2, b3)
 | r + 1, b0, b1, b2, b3, v51 =>
  bif ((v49.getD v51.toNat default).Kind == 1) then
   let rv45 := (Qgd (QaD.mk (Qbn.mk b0 b1 b2) b3) 3 ((v49.getD v51.toNat default).Func) 0 0)
   let rv53 := (QbP (QaD.mk (Qbn.mk b0 b1 b2) b3) ((Qea b3 (v49.getD v51.toNat default)).getD 0) rv45)
   QcC p v49 r rv53.g.Nodes rv53.g.Succ rv53.g.Pred rv53.number (v51 + 1)
  else
   bif ((v49.getD v51.toNat default).Kind == 3) then
    let rv91 := (Qgq (QaD.mk (Qbn.mk b0 b1 b2) b3) p (v49.getD v51.toNat default) (((((p.Funcs.getD ((v49.getD v51.toNat default).Func : Int).toNat default).Blocks).getD ((v49.getD v51.toNat default).Block : Int).toNat default).Stmts).getD ((v49.getD v51.toNat default).Stmt : Int).toNat default))
    QcC p v49 r rv91.g.Nodes rv91.g.Succ rv91.g.Pred rv91.number (v51 + 1)
   else
    QcC p v49 r b0 b1 b2 b3 (v51 + 1)
def QcZ  : Nat -> List (List Int) -> List (List Int) -> Int -> List (List Int) × List (List Int)
 | 0, b1, b2, v96 =>
  (b1, b2)
 | r + 1, b1, b2, v96 =>
  let rv52 := (Qca (b1.getD v96.toNat []))
  let rv62 := (Qca (b2.getD v96.toNat []))
  QcZ r (b1.set v96.toNat rv52) (b2.set v96.toNat rv62) (v96 + 1)
def QfI (p : Qaj) : Qbn × Int :=
 let rv3 := (Qcz p)
 bif (rv3.2 != 0) then
  ((Qbn.mk [] [] []), rv3.2)
 else
  let rv16 := (Qfv p)
  match Qce rv16 (((rv16.length : Int) - 0).toNat) [] 0 with
  | Qer =>
   match QcC p rv16 (((rv16.length : Int) - 0).toNat) rv16 (List.replicate (rv16.length : Int).toNat []) (List.replicate (rv16.length : Int).toNat []) Qer 0 with
   | (Qeb, Qfe, Qwp, Qww) =>
    match QcZ (((rv16.length : Int) - 0).toNat) Qfe Qwp 0 with
    | (Qh3, Qlm) =>
     ((Qbn.mk Qeb Qh3 Qlm), 0)
def Qfw  : Bool :=
 let rv2 := (QbX (Str.mk [102, 117, 110, 99, 32, 109, 59, 32, 98, 108, 111, 99, 107, 32, 98, 59, 32, 98, 114, 97, 110, 99, 104, 32, 120, 32, 98, 32, 98, 59, 32, 101, 110, 100]))
 let rv15 := (QfI rv2.1)
 bif (rv15.2 == 0) then
  bif ((rv15.1.Succ.length : Int) == 3) then
   let rv41 := (Qgk (rv15.1.Succ.getD (0 : Int).toNat []) [1])
   bif rv41 then
    let rv52 := (Qgk (rv15.1.Succ.getD (1 : Int).toNat []) [1])
    bif rv52 then
     bif (((rv15.1.Succ.getD (2 : Int).toNat []).length : Int) == 0) then
      let rv69 := (Qgk (rv15.1.Pred.getD (1 : Int).toNat []) [0, 1])
      bif rv69 then
       let rv73 := (QfJ rv15.1)
       (rv73 == 2)
      else
       false
     else
      false
    else
     false
   else
    false
  else
   false
 else
  false
def Qn7 (l : List Int) : Unit :=
 ()
def QmD (v : Int) (n : Int) : Int :=
 (((BitVec.ofInt 64 v) % (BitVec.ofInt 64 n)).toNat : Int)
def QaK (tT : List Int) (tI : Int) (n : Int) : Int × Int :=
 bif decide (n <= 1) then
  (0, tI)
 else
  bif decide ((tT.length : Int) <= tI) then
   (0, tI)
  else
   let rv8 := (QmD (tT.getD (((tI + 1) - 1) : Int).toNat 0) n)
   (rv8, (tI + 1))
def Qci (tT : List Int) (tI : Int) : Str × Int :=
 let rv4 := (QaK tT tI 4)
 (([(Str.mk [120]), (Str.mk [121]), (Str.mk [122]), (Str.mk [119])].getD rv4.1.toNat default), rv4.2)
def QeX (tT : List Int) (tI : Int) (funcs : Int) : Qax × Int :=
 let rv2 := (QaK tT tI 9)
 bif (rv2.1 == 1) then
  let rv10 := (Qci tT rv2.2)
  let rv15 := (Qci tT rv10.2)
  let rv23 := (QaK tT rv15.2 2)
  ((Qax.mk 2 (Str.mk []) (([rv10.1, rv15.1].take (((1 + rv23.1) : Int).toNat)).drop 0) []), rv23.2)
 else
  bif (rv2.1 == 2) then
   let rv38 := (Qci tT rv2.2)
   ((Qax.mk 4 rv38.1 [] []), rv38.2)
  else
   bif (rv2.1 == 3) then
    let rv46 := (Qci tT rv2.2)
    ((Qax.mk 5 (Str.mk []) [rv46.1] []), rv46.2)
   else
    bif (rv2.1 == 4) then
     let rv57 := (Qci tT rv2.2)
     ((Qax.mk 6 rv57.1 [] []), rv57.2)
    else
     bif (rv2.1 == 5) then
      let rv70 := (QaK tT rv2.2 funcs)
      ((Qax.mk 3 (Str.mk []) [] [([(Str.mk [109]), (Str.mk [102]), (Str.mk [103])].getD rv70.1.toNat default)]), rv70.2)
     else
      bif (rv2.1 == 6) then
       let rv88 := (QaK tT rv2.2 funcs)
       ((Qax.mk 3 (Str.mk []) [] [([(Str.mk [109]), (Str.mk [102]), (Str.mk [103])].getD rv88.1.toNat default)]), rv88.2)
      else
       let rv101 := (Qci tT rv2.2)
       let rv106 := (Qci tT rv101.2)
       let rv111 := (Qci tT rv106.2)
       let rv116 := (Qci tT rv111.2)
       let rv124 := (QaK tT rv116.2 4)
       ((Qax.mk 1 rv101.1 (([rv106.1, rv111.1, rv116.1].take (rv124.1.toNat)).drop 0) []), rv124.2)
def Qgp (i : Int) : Str :=
 ([(Str.mk [97]), (Str.mk [98]), (Str.mk [99])].getD i.toNat default)
def QbK (tT : List Int) (funcs : Int) : Nat -> Int -> List Qax -> Int -> Int × List Qax
 | 0, ti', b1, n =>
  (ti', b1)
 | r + 1, ti', b1, n =>
  let rv43 := (QeX tT ti' funcs)
  QbK tT funcs r rv43.2 (b1 ++ [rv43.1]) (n - 1)
def Qa0 (tT : List Int) (funcs : Int) (blocks : Int) : Nat -> Int -> List QaM -> Int -> Int × List QaM
 | 0, ti', f1, k =>
  (ti', f1)
 | r + 1, ti', f1, k =>
  let rv33 := (QaK tT ti' 4)
  match QbK tT funcs (rv33.1.toNat) rv33.2 [] rv33.1 with
  | (Qh3, Qlm) =>
   let rv43 := (QaK tT Qh3 blocks)
   let rv49 := (Qgp rv43.1)
   let rv53 := (QaK tT rv43.2 4)
   bif (rv53.1 == 0) then
    Qa0 tT funcs blocks r rv53.2 (f1 ++ [(QaM.mk ([(Str.mk [97]), (Str.mk [98]), (Str.mk [99])].getD k.toNat default) (Qlm ++ [(Qax.mk 9 (Str.mk []) [] [])]))]) (k + 1)
   else
    bif (rv53.1 == 1) then
     Qa0 tT funcs blocks r rv53.2 (f1 ++ [(QaM.mk ([(Str.mk [97]), (Str.mk [98]), (Str.mk [99])].getD k.toNat default) (Qlm ++ [(Qax.mk 7 (Str.mk []) [] [rv49])]))]) (k + 1)
    else
     let rv100 := (Qci tT rv53.2)
     let rv108 := (QaK tT rv100.2 blocks)
     let rv114 := (Qgp rv108.1)
     Qa0 tT funcs blocks r rv108.2 (f1 ++ [(QaM.mk ([(Str.mk [97]), (Str.mk [98]), (Str.mk [99])].getD k.toNat default) (Qlm ++ [(Qax.mk 8 (Str.mk []) [rv100.1] [rv49, rv114])]))]) (k + 1)
def QbA (tT : List Int) (funcs : Int) : Nat -> Int -> List Qbv -> Int -> Int × List Qbv
 | 0, ti', p0, i =>
  (ti', p0)
 | r + 1, ti', p0, i =>
  let rv18 := (QaK tT ti' 3)
  match Qa0 tT funcs (1 + rv18.1) ((((1 + rv18.1) : Int) - 0).toNat) rv18.2 [] 0 with
  | (Qeb, Qfe) =>
   QbA tT funcs r Qeb (p0 ++ [(Qbv.mk ([(Str.mk [109]), (Str.mk [102]), (Str.mk [103])].getD i.toNat default) Qfe)]) (i + 1)
def Qd4 (tT : List Int) (tI : Int) : Qaj × Int :=
 let rv3 := (QaK tT tI 3)
 match QbA tT (1 + rv3.1) ((((1 + rv3.1) : Int) - 0).toNat) rv3.2 [] 0 with
 | (Qer, Qgr) =>
  ((Qaj.mk Qgr), Qer)
def QcN (l : List Str) : Nat -> Int -> LR Unit Bool
 | 0, i =>
  .brk ()
 | r + 1, i =>
  let rv6 := (Qbc (l.getD i.toNat default))
  bif (!rv6) then
   .ret false
  else
   QcN l r (i + 1)
def QdJ (l : List Str) (a : Int) (b : Int) : Bool :=
 match QcN l (((l.length : Int) - 0).toNat) 0 with
 | .brk _ =>
  bif decide (a <= (l.length : Int)) then
   decide ((l.length : Int) <= b)
  else
   false
 | .ret r => r
 | .oof => default
def Qaz (s : Qax) : Bool :=
 let rv2 := (Qbc s.Def)
 let rv5 := (QdJ s.Uses 0 4)
 bif (!rv5) then
  false
 else
  let rv15 := (QdJ s.Targets 0 2)
  bif (!rv15) then
   false
  else
   bif (s.Op == 1) then
    bif rv2 then
     ((s.Targets.length : Int) == 0)
    else
     false
   else
    bif (s.Op == 2) then
     bif (s.Def == (Str.mk [])) then
      bif decide (1 <= (s.Uses.length : Int)) then
       ((s.Targets.length : Int) == 0)
      else
       false
     else
      false
    else
     bif (s.Op == 5) then
      bif (s.Def == (Str.mk [])) then
       bif ((s.Uses.length : Int) == 1) then
        ((s.Targets.length : Int) == 0)
       else
        false
      else
       false
     else
      bif (s.Op == 3) then
       bif (s.Def == (Str.mk [])) then
        bif ((s.Uses.length : Int) == 0) then
         ((s.Targets.length : Int) == 1)
        else
         false
       else
        false
      else
       bif (s.Op == 7) then
        bif (s.Def == (Str.mk [])) then
         bif ((s.Uses.length : Int) == 0) then
          ((s.Targets.length : Int) == 1)
         else
          false
        else
         false
       else
        bif (s.Op == 4) then
         bif rv2 then
          bif ((s.Uses.length : Int) == 0) then
           ((s.Targets.length : Int) == 0)
          else
           false
         else
          false
        else
         bif (s.Op == 6) then
          bif rv2 then
           bif ((s.Uses.length : Int) == 0) then
            ((s.Targets.length : Int) == 0)
           else
            false
          else
           false
         else
          bif (s.Op == 8) then
           bif (s.Def == (Str.mk [])) then
            bif ((s.Uses.length : Int) == 1) then
             ((s.Targets.length : Int) == 2)
            else
             false
           else
            false
          else
           bif (s.Op == 9) then
            bif (s.Def == (Str.mk [])) then
             bif ((s.Uses.length : Int) == 0) then
              ((s.Targets.length : Int) == 0)
             else
              false
            else
             false
           else
            false
def Qdx  (b1 : List Qax) : Nat -> Int -> LR Unit Bool
 | 0, j =>
  .brk ()
 | r + 1, j =>
  let rv66 := (Qaz (b1.getD j.toNat default))
  bif (!rv66) then
   .ret false
  else
   Qdx b1 r (j + 1)
def QcL  (f1 : List QaM) : Nat -> Int -> LR Unit Bool
 | 0, k =>
  .brk ()
 | r + 1, k =>
  let rv38 := (Qbc ((f1.getD k.toNat default).Name))
  bif (!rv38) then
   .ret false
  else
   bif decide ((((f1.getD k.toNat default).Stmts).length : Int) < 1) then
    .ret false
   else
    bif decide (32 < (((f1.getD k.toNat default).Stmts).length : Int)) then
     .ret false
    else
     match Qdx ((f1.getD k.toNat default).Stmts) ((((((f1.getD k.toNat default).Stmts).length : Int) : Int) - 0).toNat) 0 with
     | .brk _ =>
      QcL f1 r (k + 1)
     | .ret r => .ret r
     | .oof => .oof
def Qb9 (p : Qaj) : Nat -> Int -> LR Unit Bool
 | 0, i =>
  .brk ()
 | r + 1, i =>
  let rv15 := (Qbc ((p.Funcs.getD i.toNat default).Name))
  bif (!rv15) then
   .ret false
  else
   bif decide ((((p.Funcs.getD i.toNat default).Blocks).length : Int) < 1) then
    .ret false
   else
    bif decide (16 < (((p.Funcs.getD i.toNat default).Blocks).length : Int)) then
     .ret false
    else
     match QcL ((p.Funcs.getD i.toNat default).Blocks) ((((((p.Funcs.getD i.toNat default).Blocks).length : Int) : Int) - 0).toNat) 0 with
     | .brk _ =>
      Qb9 p r (i + 1)
     | .ret r => .ret r
     | .oof => .oof
def QcH (p : Qaj) : Bool :=
 bif decide ((p.Funcs.length : Int) < 1) then
  false
 else
  bif decide (8 < (p.Funcs.length : Int)) then
   false
  else
   match Qb9 p (((p.Funcs.length : Int) - 0).toNat) 0 with
   | .brk _ =>
    true
   | .ret r => r
   | .oof => default
def Qbj  (l : List Qax) : Nat -> Int -> Int -> Int -> Int × Int
 | 0, nodes, edges, j =>
  (nodes, edges)
 | r + 1, nodes, edges, j =>
  bif ((l.getD j.toNat default).Op == 3) then
   Qbj l r ((nodes + 1) + 1) (edges + 3) (j + 1)
  else
   bif ((l.getD j.toNat default).Op == 8) then
    Qbj l r (nodes + 1) (edges + 2) (j + 1)
   else
    Qbj l r (nodes + 1) (edges + 1) (j + 1)
def Qbz (p : Qaj) (i : Int) : Nat -> Int -> Int -> Int -> Int × Int
 | 0, nodes, edges, k =>
  (nodes, edges)
 | r + 1, nodes, edges, k =>
  match Qbj ((((p.Funcs.getD i.toNat default).Blocks).getD k.toNat default).Stmts) ((((((((p.Funcs.getD i.toNat default).Blocks).getD k.toNat default).Stmts).length : Int) : Int) - 0).toNat) nodes edges 0 with
  | (Qh3, Qlm) =>
   Qbz p i r Qh3 Qlm (k + 1)
def QcA (p : Qaj) : Nat -> Int -> Int -> Int -> Int × Int
 | 0, nodes, edges, i =>
  (nodes, edges)
 | r + 1, nodes, edges, i =>
  match Qbz p i ((((((p.Funcs.getD i.toNat default).Blocks).length : Int) : Int) - 0).toNat) (nodes + 2) (edges + 1) 0 with
  | (Qeb, Qfe) =>
   QcA p r Qeb Qfe (i + 1)
def Qfj (p : Qaj) : Int × Int :=
 let rv2 := (QcH p)
 bif (!rv2) then
  (0, 0)
 else
  match QcA p (((p.Funcs.length : Int) - 0).toNat) 0 0 0 with
  | (Qer, Qgr) =>
   (Qer, Qgr)
def Qbm  (g0 : List Qay) (g1 : List (List Int)) : Nat -> Int -> LR Unit Bool
 | 0, i =>
  .brk ()
 | r + 1, i =>
  bif (((g1.getD i.toNat []).length : Int) == 0) then
   bif ((g0.getD i.toNat default).Kind != 2) then
    .ret false
   else
    Qbm g0 g1 r (i + 1)
  else
   Qbm g0 g1 r (i + 1)
def Qb3 (t : List Int) : Bool :=
 let rv2 := (Qn7 t)
 let rv6 := (Qd4 t 0)
 let rv17 := (QfI rv6.1)
 let rv32 := (Qfj rv6.1)
 bif (rv17.2 != 0) then
  false
 else
  let rv40 := (Qde rv17.1)
  bif (!rv40) then
   false
  else
   let rv50 := (QfJ rv17.1)
   bif decide (rv32.2 < rv50) then
    false
   else
    bif ((rv17.1.Nodes.length : Int) == 0) then
     false
    else
     match Qbm rv17.1.Nodes rv17.1.Succ (((rv17.1.Nodes.length : Int) - 0).toNat) 0 with
     | .brk _ =>
      Qfw
     | .ret r => r
     | .oof => default
theorem QnN {l : List Int} {n : Int} : n ∈ l ↔ ∃ j : Int, 0 <= j /\ j < (l.length : Int) /\ l.getD j.toNat 0 = n := by
 constructor
 ·intro h
  obtain ⟨i, hi, e⟩ := List.getElem_of_mem h
  exact ⟨(i : Int), by omega, by omega, by simp [List.getD, hi, e]⟩
 ·rintro ⟨j, j1, j2, rfl⟩
  exact Qb4 (by omega)
theorem Qlr : ∀ (n : Nat) (l : List Int), l.Nodup -> (∀ x ∈ l, 0 <= x /\ x < (n : Int)) -> l.length <= n
 | 0, [], _, _ => Nat.le_refl _
 | 0, x :: l, _, h => by have := h x (by simp); omega
 | n + 1, l, hn, h => by
  have h1 : (l.erase (n : Int)).length <= n := Qlr n (l.erase (n : Int)) (hn.erase _) (fun x hx => by
   have h2 := (List.Nodup.mem_erase_iff hn).1 hx
   have h3 := h x h2.2
   have h4 := h2.1
   omega)
  by_cases hm : (n : Int) ∈ l
  ·rw [List.length_erase_of_mem hm] at h1; omega
  ·rw [List.erase_of_not_mem hm] at h1; omega
theorem QmH {σ : Type} (f : Nat -> Int -> LR σ Int) (p : Int -> Bool) (c : σ) (h0 : ∀ i, f 0 i = .brk c) (h1 : ∀ r i, f (r + 1) i = bif p i then .ret i else f r (i + 1)) :
  ∀ (m : Nat) (i : Int), (∃ j, f m i = .ret j /\ i <= j /\ j < i + m /\ p j = true) \/ (f m i = .brk c /\ ∀ j, i <= j -> j < i + m -> p j = false)
 | 0, i => .inr ⟨h0 i, fun j h1 h2 => by omega⟩
 | m + 1, i => by
  rw [h1]
  cases hp : p i with
  | true => exact .inl ⟨i, rfl, by omega, by omega, hp⟩
  | false =>
   rcases QmH f p c h0 h1 m (i + 1) with ⟨j, e, j1, j2, j3⟩ | ⟨e, h⟩
   ·exact .inl ⟨j, e, by omega, by omega, j3⟩
   ·refine .inr ⟨e, fun j j1 j2 => ?_⟩
    rcases Int.lt_or_eq_of_le j1 with hlt | rfl
    ·exact h j (by omega) (by omega)
    ·exact hp
theorem Qjo {α : Type} {l : List α} {n d : α} : n ∈ l ↔ ∃ j : Int, 0 <= j /\ j < (l.length : Int) /\ l.getD j.toNat d = n := by
 constructor
 ·intro h
  obtain ⟨i, hi, e⟩ := List.getElem_of_mem h
  exact ⟨(i : Int), by omega, by omega, by simp [List.getD, hi, e]⟩
 ·rintro ⟨j, j1, j2, rfl⟩
  exact Qb4 (by omega)
theorem QoH {α R : Type} [Inhabited α] {P : α -> Bool} {l : List α} {no : R} (L : Nat -> Int -> LR Unit R) (h0 : ∀ i, L 0 i = .brk ()) (h1 : ∀ r (i : Int), 0 <= i -> i < (l.length : Int) -> L (r + 1) i = if P (l.getD i.toNat default) = true then L r (i + 1) else .ret no) :
  L ((l.length : Int) - 0).toNat 0 = if l.all P = true then .brk () else .ret no := by
 have key : ∀ (suf pre : List α), l = pre ++ suf -> L suf.length (pre.length : Int) = if suf.all P = true then .brk () else .ret no := fun suf => by
  induction suf with
  | nil => intro pre _; exact h0 _
  | cons a suf ih =>
   intro pre hl
   have hlen : l.length = pre.length + (suf.length + 1) := by rw [hl]; simp
   have hg : l.getD ((pre.length : Int)).toNat default = a := by rw [hl]; simp
   rw [List.length_cons, h1 _ _ (by omega) (by omega), hg, List.all_cons]
   have := ih (pre ++ [a]) (by rw [hl]; simp)
   rw [List.length_append, List.length_cons, List.length_nil, Int.natCast_add] at this
   rw [show ((pre.length : Int) + 1) = (pre.length : Int) + ((0 + 1 : Nat) : Int) from rfl, this]
   cases P a <;> simp
 have := key l [] rfl
 rw [show ((l.length : Int) - 0).toNat = l.length by omega]
 exact this
theorem QmB {s : Str} (h : (s == (Str.mk [])) = false) : 0 < s.b.length := by
 obtain ⟨b⟩ := s
 cases b with
 | nil => simp at h
 | cons a b => simp
def SSm (s : Qax) : Bool := decide (s.Uses.length <= 600000000) && decide (s.Targets.length <= 600000000)
def BSm (b : QaM) : Bool := b.Stmts.all SSm
def FSm (f : Qbv) : Bool := f.Blocks.all BSm
def PSm (p : Qaj) : Bool := p.Funcs.all FSm
theorem Qlu {α : Type} [Inhabited α] {q : α -> Bool} {l : List α} (h : l.all q = true) {i : Int} (hi : 0 <= i /\ i < (l.length : Int)) : q (l.getD i.toNat default) = true :=
 List.all_eq_true.1 h _ (Qb4 (by omega))
theorem Qsm {p : Qaj} (h : PSm p = true) {i : Int} (hi : 0 <= i /\ i < (p.Funcs.length : Int)) : FSm (p.Funcs.getD i.toNat default) = true := Qlu h hi
theorem Qrp {f : Qbv} (h : FSm f = true) {i : Int} (hi : 0 <= i /\ i < (f.Blocks.length : Int)) : BSm (f.Blocks.getD i.toNat default) = true := Qlu h hi
theorem Qs0 {b : QaM} (h : BSm b = true) {x : Qax} (hx : x ∈ b.Stmts) : SSm x = true := List.all_eq_true.1 h x hx
theorem Qtz {s : Qax} (h : SSm s = true) : s.Uses.length <= 600000000 /\ s.Targets.length <= 600000000 := by
 unfold SSm at h; simpa using h
def QS (u v : Nat) (s : Qax) : Bool := decide (s.Uses.length <= u) && decide (s.Targets.length <= v)
def QB (u v : Nat) (b : QaM) : Bool := b.Stmts.all (QS u v)
def QF (u v : Nat) (f : Qbv) : Bool := f.Blocks.all (QB u v)
def QP (u v : Nat) (p : Qaj) : Bool := p.Funcs.all (QF u v)
def QL (b : QaM) : Bool := decide (b.Stmts.length <= 4)
def SpF (f : Qbv) : Prop := (1 <= f.Blocks.length /\ f.Blocks.length <= 3) /\ f.Blocks.all QL = true
def SpP (p : Qaj) : Prop := (1 <= p.Funcs.length /\ p.Funcs.length <= 3) /\ (∀ f ∈ p.Funcs, SpF f) /\ QP 3 2 p = true
theorem QqW {u v : Nat} {p : Qaj} (h : QP u v p = true) (hu : u <= 1000000) (hv : v <= 1000000) : PSm p = true := by
 unfold QP at h; unfold PSm
 refine List.all_eq_true.2 fun f hf => ?_
 have h1 := List.all_eq_true.1 h f hf
 unfold QF at h1; unfold FSm
 refine List.all_eq_true.2 fun b hb => ?_
 have h2 := List.all_eq_true.1 h1 b hb
 unfold QB at h2; unfold BSm
 refine List.all_eq_true.2 fun s hs => ?_
 have h3 := List.all_eq_true.1 h2 s hs
 unfold QS at h3; unfold SSm
 simp only [Bool.and_eq_true, decide_eq_true_eq] at h3 ⊢
 omega
theorem Qlj {p : Qaj} (h : SpP p) : PSm p = true := QqW h.2.2 (by omega) (by omega)
def fNm (i : Int) : Str := [(Str.mk [109]), (Str.mk [102]), (Str.mk [103])].getD i.toNat default
def bNm (i : Int) : Str := [(Str.mk [97]), (Str.mk [98]), (Str.mk [99])].getD i.toNat default
def N4 : List Str := [(Str.mk [120]), (Str.mk [121]), (Str.mk [122]), (Str.mk [119])]
def vS (s : Qax) : Prop := (s.Def = Str.mk [] \/ s.Def ∈ N4) /\ (∀ u ∈ s.Uses, u ∈ N4) /\ s.Uses.length <= 3
theorem Qfb {α : Type} [Inhabited α] {l : List α} {P : α -> Prop} (h : ∀ j : Nat, j < l.length -> P (l.getD j default)) : ∀ x ∈ l, P x := fun x hx => by
 obtain ⟨j, j1, e⟩ := List.getElem_of_mem hx
 have := h j j1
 rw [List.getD_eq_getElem?_getD, List.getElem?_eq_getElem j1] at this
 simp only [Option.getD_some] at this
 rw [e] at this; exact this
theorem QpV {i j : Int} (hi : 0 <= i /\ i < 3) (hj : 0 <= j /\ j < 3) (h : fNm i = fNm j) : i = j := by
 have h1 : i = 0 \/ i = 1 \/ i = 2 := by omega
 have h2 : j = 0 \/ j = 1 \/ j = 2 := by omega
 rcases h1 with e | e | e <;> rcases h2 with e' | e' | e' <;> subst e <;> subst e' <;> first | rfl | exact absurd h (by decide)
theorem Qpq {i j : Int} (hi : 0 <= i /\ i < 3) (hj : 0 <= j /\ j < 3) (h : bNm i = bNm j) : i = j := by
 have h1 : i = 0 \/ i = 1 \/ i = 2 := by omega
 have h2 : j = 0 \/ j = 1 \/ j = 2 := by omega
 rcases h1 with e | e | e <;> rcases h2 with e' | e' | e' <;> subst e <;> subst e' <;> first | rfl | exact absurd h (by decide)
def VI (x : List (Str × Bool) × List Str) : Prop := (∀ s ∈ x.2, (Qea x.1 s).getD false = true) /\ x.2.Nodup /\ ∀ s ∈ x.2, s ∈ N4
theorem Qjr : ∀ (l N : List Str), l.Nodup -> (∀ s ∈ l, s ∈ N) -> l.length <= N.length
 | [], N, _, _ => Nat.zero_le _
 | a :: l, N, hn, h => by
  rw [List.nodup_cons] at hn
  have ha : a ∈ N := h a List.mem_cons_self
  have := Qjr l (N.erase a) hn.2 fun s hs => (List.mem_erase_of_ne (fun e => hn.1 (by rw [<- e]; exact hs))).2 (h s (List.mem_cons_of_mem _ hs))
  rw [List.length_erase_of_mem ha] at this
  have := List.length_pos_of_mem ha
  rw [List.length_cons]
  omega
theorem Qou (l : List Str) (hn : l.Nodup) (h : ∀ s ∈ l, s ∈ N4) : l.length <= 4 := Qjr l N4 hn h
def nS (i k : Int) : Int -> List Qax -> List Qay
 | _, [] => []
 | v, s :: S => (bif s.Op == 3 then [Qay.mk 3 i k v, Qay.mk 4 i k v] else [Qay.mk 3 i k v]) ++ nS i k (v + 1) S
def nB (i : Int) : Int -> List QaM -> List Qay
 | _, [] => []
 | k, b :: B => nS i k 0 b.Stmts ++ nB i (k + 1) B
def nF : Int -> List Qbv -> List Qay
 | _, [] => []
 | i, f :: F => [Qay.mk 1 i (-1) (-1)] ++ nB i 0 f.Blocks ++ [Qay.mk 2 i (-1) (-1)] ++ nF (i + 1) F
theorem Qek {α : Type} [Inhabited α] {l : List α} {v : Int} (h0 : 0 <= v) (h : v < (l.length : Int)) : l.drop v.toNat = l.getD v.toNat default :: l.drop (v + 1).toNat := by
 rw [List.drop_eq_getElem_cons (show v.toNat < l.length by omega), show (v + 1).toNat = v.toNat + 1 by omega, List.getD_eq_getElem?_getD, List.getElem?_eq_getElem (show v.toNat < l.length by omega)]; rfl
def NIn (p : Qaj) (n : Qay) : Prop := (0 <= n.Func /\ n.Func < (p.Funcs.length : Int)) /\ (n.Kind ≠ 1 -> n.Kind ≠ 2 -> (0 <= n.Block /\ n.Block < ((p.Funcs.getD n.Func.toNat default).Blocks.length : Int)) /\ (0 <= n.Stmt /\ n.Stmt < ((((p.Funcs.getD n.Func.toNat default).Blocks).getD n.Block.toNat default).Stmts.length : Int)) /\ n.Stmt < 100)
theorem Qmw (i k : Int) : ∀ (S : List Qax) (v : Int) (n : Qay), n ∈ nS i k v S -> n.Func = i /\ n.Block = k /\ (n.Kind = 3 \/ n.Kind = 4) /\ v <= n.Stmt /\ n.Stmt < v + (S.length : Int)
 | [], v, n, h => by cases h
 | s :: S, v, n, h => by
  rw [nS] at h
  rcases List.mem_append.1 h with h' | h'
  ·cases e : s.Op == 3
   ·rw [e, cond_false, List.mem_singleton] at h'
    subst h'
    exact ⟨rfl, rfl, .inl rfl, by show v <= v; omega, by show v < v + _; rw [List.length_cons]; omega⟩
   ·rw [e, cond_true] at h'
    simp only [List.mem_cons, List.not_mem_nil, or_false] at h'
    rcases h' with e | e <;> subst e
    ·exact ⟨rfl, rfl, .inl rfl, by show v <= v; omega, by show v < v + _; rw [List.length_cons]; omega⟩
    ·exact ⟨rfl, rfl, .inr rfl, by show v <= v; omega, by show v < v + _; rw [List.length_cons]; omega⟩
  ·have := Qmw i k S (v + 1) n h'
   rw [List.length_cons]
   omega
theorem Qmg (i : Int) : ∀ (S : List QaM) (v : Int) (n : Qay), n ∈ nB i v S -> n.Func = i /\ (n.Kind = 3 \/ n.Kind = 4) /\ (v <= n.Block /\ n.Block < v + (S.length : Int)) /\ 0 <= n.Stmt /\ n.Stmt < ((S.getD (n.Block - v).toNat default).Stmts.length : Int)
 | [], v, n, h => by cases h
 | s :: S, v, n, h => by
  rw [nB] at h
  rcases List.mem_append.1 h with h' | h'
  ·obtain ⟨a1, a2, a3, a4, a5⟩ := Qmw i v s.Stmts 0 n h'
   refine ⟨a1, a3, by rw [List.length_cons]; omega, a4, ?_⟩
   rw [show (n.Block - v).toNat = 0 by omega]
   show n.Stmt < (s.Stmts.length : Int)
   omega
  ·obtain ⟨a1, a2, a3, a4, a5⟩ := Qmg i S (v + 1) n h'
   refine ⟨a1, a2, by rw [List.length_cons]; omega, a4, ?_⟩
   rw [show (n.Block - v).toNat = (n.Block - (v + 1)).toNat + 1 by omega]
   exact a5
theorem Qqk : ∀ (S : List Qbv) (v : Int) (n : Qay), n ∈ nF v S -> (v <= n.Func /\ n.Func < v + (S.length : Int)) /\ (n.Kind ≠ 1 -> n.Kind ≠ 2 -> (n.Kind = 3 \/ n.Kind = 4) /\ (0 <= n.Block /\ n.Block < ((S.getD (n.Func - v).toNat default).Blocks.length : Int)) /\ 0 <= n.Stmt /\ n.Stmt < ((((S.getD (n.Func - v).toNat default).Blocks).getD n.Block.toNat default).Stmts.length : Int))
 | [], v, n, h => by cases h
 | s :: S, v, n, h => by
  rw [nF] at h
  rw [List.length_cons]
  rcases List.mem_append.1 h with h | h'
  ·rcases List.mem_append.1 h with h | h
   ·rcases List.mem_append.1 h with h | h
    ·rw [List.mem_singleton.1 h]
     exact ⟨by show v <= v /\ v < v + _; omega, fun a => absurd rfl a⟩
    ·obtain ⟨a1, a2, a3, a4, a5⟩ := Qmg v s.Blocks 0 n h
     refine ⟨by omega, fun _ _ => ?_⟩
     rw [show (n.Func - v).toNat = 0 by omega]
     rw [show (n.Block - 0).toNat = n.Block.toNat by omega] at a5
     exact ⟨a2, by show 0 <= n.Block /\ n.Block < (s.Blocks.length : Int); omega, a4, a5⟩
   ·rw [List.mem_singleton.1 h]
    exact ⟨by show v <= v /\ v < v + _; omega, fun _ a => absurd rfl a⟩
  ·obtain ⟨a1, a2⟩ := Qqk S (v + 1) n h'
   refine ⟨by omega, ?_⟩
   rw [show (n.Func - v).toNat = (n.Func - (v + 1)).toNat + 1 by omega]
   exact a2
def key (n : Qay) : Int := n.Func * 100000 + (bif n.Kind == 1 then 0 else bif n.Kind == 2 then 99999 else 1 + n.Block * 1000 + n.Stmt * 2 + (bif n.Kind == 4 then 1 else 0))
theorem Qg9 {a b : List Qay} (ha : a.Pairwise (fun x y => key x < key y)) (hb : b.Pairwise (fun x y => key x < key y)) (h : ∀ x ∈ a, ∀ y ∈ b, key x < key y) : (a ++ b).Pairwise (fun x y => key x < key y) := List.pairwise_append.2 ⟨ha, hb, h⟩
theorem Qnm {i k v : Int} {S : List Qax} {n : Qay} (h : n ∈ nS i k v S) : i * 100000 + (1 + k * 1000 + v * 2) <= key n /\ key n < i * 100000 + (1 + k * 1000 + (v + (S.length : Int)) * 2) := by
 obtain ⟨a1, a2, a3, a4, a5⟩ := Qmw i k S v n h
 unfold key
 rw [a1, a2]
 rcases a3 with e | e <;> rw [e]
 ·rw [show ((3 : Int) == 1) = false from rfl, show ((3 : Int) == 2) = false from rfl, show ((3 : Int) == 4) = false from rfl]
  simp only [cond_false]; omega
 ·rw [show ((4 : Int) == 1) = false from rfl, show ((4 : Int) == 2) = false from rfl, show ((4 : Int) == 4) = true from rfl]
  simp only [cond_false, cond_true]; omega
theorem Qrb (i k : Int) : ∀ (S : List Qax) (v : Int), (nS i k v S).Pairwise (fun x y => key x < key y)
 | [], v => List.Pairwise.nil
 | s :: S, v => by
  rw [nS]
  refine Qg9 ?_ (Qrb i k S (v + 1)) fun x hx y hy => ?_
  ·cases s.Op == 3
   ·exact List.pairwise_singleton _ _
   ·refine List.Pairwise.cons (fun y hy => ?_) (List.pairwise_singleton _ _)
    rw [List.mem_singleton.1 hy]
    unfold key
    rw [show ((3 : Int) == 1) = false from rfl, show ((3 : Int) == 2) = false from rfl, show ((3 : Int) == 4) = false from rfl, show ((4 : Int) == 1) = false from rfl, show ((4 : Int) == 2) = false from rfl, show ((4 : Int) == 4) = true from rfl]
    simp only [cond_false, cond_true]; omega
  ·have h1 := Qnm hy
   have h2 : x ∈ nS i k v [s] := by rw [nS, nS, List.append_nil]; exact hx
   have h3 := Qnm h2
   simp only [List.length_singleton] at h3
   omega
theorem QkM {i v : Int} {S : List QaM} {n : Qay} (hs : ∀ b ∈ S, b.Stmts.length <= 4) (h : n ∈ nB i v S) : i * 100000 + (1 + v * 1000) <= key n /\ key n < i * 100000 + (1 + (v + (S.length : Int)) * 1000) := by
 obtain ⟨a1, a3, ⟨a4, a5⟩, a6, a7⟩ := Qmg i S v n h
 have hl := hs _ (Qb4 (xs := S) (i := (n.Block - v).toNat) (d := default) (by omega))
 unfold key
 rw [a1]
 rcases a3 with e | e <;> rw [e]
 ·rw [show ((3 : Int) == 1) = false from rfl, show ((3 : Int) == 2) = false from rfl, show ((3 : Int) == 4) = false from rfl]
  simp only [cond_false]; omega
 ·rw [show ((4 : Int) == 1) = false from rfl, show ((4 : Int) == 2) = false from rfl, show ((4 : Int) == 4) = true from rfl]
  simp only [cond_false, cond_true]; omega
theorem Qq6 (i : Int) : ∀ (S : List QaM) (v : Int), (∀ b ∈ S, b.Stmts.length <= 4) -> (nB i v S).Pairwise (fun x y => key x < key y)
 | [], v, _ => List.Pairwise.nil
 | s :: S, v, h => by
  rw [nB]
  refine Qg9 (Qrb i v s.Stmts 0) (Qq6 i S (v + 1) fun b hb => h b (List.mem_cons_of_mem _ hb)) fun x hx y hy => ?_
  have h1 := Qnm hx
  have h2 := QkM (fun b hb => h b (List.mem_cons_of_mem _ hb)) hy
  have h3 := h s List.mem_cons_self
  omega
def smF (f : Qbv) : Prop := f.Blocks.length <= 3 /\ ∀ b ∈ f.Blocks, b.Stmts.length <= 4
theorem QsD (i : Int) : key (Qay.mk 1 i (-1) (-1)) = i * 100000 := by unfold key; simp
theorem QtL (i : Int) : key (Qay.mk 2 i (-1) (-1)) = i * 100000 + 99999 := by unfold key; simp
theorem QoM : ∀ {S : List Qbv} {v : Int} {n : Qay}, (∀ f ∈ S, smF f) -> n ∈ nF v S -> v * 100000 <= key n
 | [], v, n, _, h => by cases h
 | s :: S, v, n, hs, h => by
  rw [nF] at h
  have hb := hs s List.mem_cons_self
  rcases List.mem_append.1 h with h | h
  ·rcases List.mem_append.1 h with h | h
   ·rcases List.mem_append.1 h with h | h
    ·rw [List.mem_singleton.1 h, QsD]; omega
    ·have := QkM hb.2 h; omega
   ·rw [List.mem_singleton.1 h, QtL]; omega
  ·have := QoM (fun f hf => hs f (List.mem_cons_of_mem _ hf)) h; omega
theorem QrV : ∀ (S : List Qbv) (v : Int), (∀ f ∈ S, smF f) -> (nF v S).Pairwise (fun x y => key x < key y)
 | [], v, _ => List.Pairwise.nil
 | s :: S, v, hs => by
  rw [nF]
  have hb := hs s List.mem_cons_self
  refine Qg9 (Qg9 (Qg9 (List.pairwise_singleton _ _) (Qq6 v s.Blocks 0 hb.2) fun x hx y hy => ?_) (List.pairwise_singleton _ _) fun x hx y hy => ?_) (QrV S (v + 1) fun f hf => hs f (List.mem_cons_of_mem _ hf)) fun x hx y hy => ?_
  ·rw [List.mem_singleton.1 hx, QsD]
   have := QkM hb.2 hy; omega
  ·rw [List.mem_singleton.1 hy, QtL]
   rcases List.mem_append.1 hx with h | h
   ·rw [List.mem_singleton.1 h, QsD]; omega
   ·have := QkM hb.2 h; have := hb.1; omega
  ·have h1 := QoM (fun f hf => hs f (List.mem_cons_of_mem _ hf)) hy
   rcases List.mem_append.1 hx with h | h
   ·rcases List.mem_append.1 h with h | h
    ·rw [List.mem_singleton.1 h, QsD]; omega
    ·have := QkM hb.2 h; have := hb.1; omega
   ·rw [List.mem_singleton.1 h, QtL]; omega
theorem QuE : ∀ {S : List Qbv} {v : Int} {n : Qay}, n ∈ nF v S -> ((n.Kind = 1 \/ n.Kind = 2) /\ n.Block = -1 /\ n.Stmt = -1) \/ (n.Kind = 3 \/ n.Kind = 4)
 | [], v, n, h => by cases h
 | s :: S, v, n, h => by
  rw [nF] at h
  rcases List.mem_append.1 h with h | h
  ·rcases List.mem_append.1 h with h | h
   ·rcases List.mem_append.1 h with h | h
    ·rw [List.mem_singleton.1 h]; exact .inl ⟨.inl rfl, rfl, rfl⟩
    ·exact .inr (Qmg v s.Blocks 0 n h).2.1
   ·rw [List.mem_singleton.1 h]; exact .inl ⟨.inr rfl, rfl, rfl⟩
  ·exact QuE h
def one (i k v : Int) (s : Qax) : List Qay := bif s.Op == 3 then [Qay.mk 3 i k v, Qay.mk 4 i k v] else [Qay.mk 3 i k v]
def Adv (n a x : Int) : Prop := a <= x /\ x <= n
theorem Qei {n a b x : Int} (h : Adv n a b) (k : Adv n b x) : Adv n a x := ⟨Int.le_trans h.1 k.1, k.2⟩
section
variable {α : Type} (z : α) (key : α -> Int)
def gi (d : List α) (k : Int) : α := d.getD k.toNat z
def swp (d : List α) (i j : Int) : List α := (d.set i.toNat (d.getD j.toNat z)).set j.toNat (d.getD i.toNat z)
theorem QeN (d : List α) (i j : Int) : (swp z d i j).length = d.length := by simp [swp]
theorem Qhx {d : List α} {i j k : Int} (hi : 0 <= i /\ i < (d.length : Int)) (hj : 0 <= j /\ j < (d.length : Int)) (hk : 0 <= k) : gi z (swp z d i j) k = if k = j then gi z d i else if k = i then gi z d j else gi z d k := by
 unfold gi swp
 simp only [List.getD_eq_getElem?_getD, List.getElem?_set, List.length_set]
 by_cases h1 : k = j
 ·subst h1
  have : k.toNat < d.length := by omega
  simp [this]
 ·have e1 : ¬ j.toNat = k.toNat := by omega
  by_cases h2 : k = i
  ·subst h2
   have : k.toNat < d.length := by omega
   simp [e1, h1, this]
  ·have e2 : ¬ i.toNat = k.toNat := by omega
   simp [e1, e2, h1, h2]
theorem QnM {d : List α} {i j : Int} (hi : 0 <= i /\ i < (d.length : Int)) (hj : 0 <= j /\ j < (d.length : Int)) : (swp z d i j).Perm d := by
 unfold swp
 have h1 : i.toNat < d.length := by omega
 have h2 : j.toNat < d.length := by omega
 rw [List.getD_eq_getElem?_getD, List.getD_eq_getElem?_getD, List.getElem?_eq_getElem h1, List.getElem?_eq_getElem h2]
 exact List.set_set_perm h1 h2
structure PI (d d' : List α) (a b : Int) : Prop where
 len : d'.length = d.length
 out : ∀ k, 0 <= k -> (k < a \/ b <= k) -> gi z d' k = gi z d k
 src : ∀ k, a <= k -> k < b -> ∃ m, a <= m /\ m < b /\ gi z d' k = gi z d m
 perm : d'.Perm d
theorem PI.refl (d : List α) (a b : Int) : PI z d d a b := ⟨rfl, fun _ _ _ => rfl, fun k h1 h2 => ⟨k, h1, h2, rfl⟩, List.Perm.refl _⟩
theorem PI.trans {d1 d2 d3 : List α} {a b : Int} (h1 : PI z d1 d2 a b) (h2 : PI z d2 d3 a b) : PI z d1 d3 a b :=
 ⟨h2.len.trans h1.len, fun k hk hc => (h2.out k hk hc).trans (h1.out k hk hc), fun k hk hc => by
  obtain ⟨m, m1, m2, m3⟩ := h2.src k hk hc
  obtain ⟨n, n1, n2, n3⟩ := h1.src m m1 m2
  exact ⟨n, n1, n2, m3.trans n3⟩, h2.perm.trans h1.perm⟩
theorem PI.mono {d d' : List α} {a b a' b' : Int} (h : PI z d d' a b) (h0 : 0 <= a') (ha : a' <= a) (hb : b <= b') : PI z d d' a' b' :=
 ⟨h.len, fun k hk hc => h.out k hk (by omega), fun k hk hc => by
  by_cases hs : a <= k /\ k < b
  ·obtain ⟨m, m1, m2, m3⟩ := h.src k hs.1 hs.2
   exact ⟨m, by omega, by omega, m3⟩
  ·exact ⟨k, hk, hc, h.out k (by omega) (by omega)⟩, h.perm⟩
theorem PI.swp {d : List α} {a b i j : Int} (h0 : 0 <= a) (hb : b <= (d.length : Int)) (hi : a <= i /\ i < b) (hj : a <= j /\ j < b) : PI z d (swp z d i j) a b :=
 ⟨QeN z d i j, fun k hk hc => by rw [Qhx z ⟨by omega, by omega⟩ ⟨by omega, by omega⟩ hk, if_neg (by omega), if_neg (by omega)], fun k hk hc => by
  rw [Qhx z ⟨by omega, by omega⟩ ⟨by omega, by omega⟩ (by omega)]
  by_cases h1 : k = j
  ·exact ⟨i, hi.1, hi.2, by rw [if_pos h1]⟩
  ·by_cases h2 : k = i
   ·exact ⟨j, hj.1, hj.2, by rw [if_neg h1, if_pos h2]⟩
   ·exact ⟨k, hk, hc, by rw [if_neg h1, if_neg h2]⟩, QnM z ⟨by omega, by omega⟩ ⟨by omega, by omega⟩⟩
def Srt (d : List α) (a b : Int) : Prop := ∀ i j, a <= i -> i <= j -> j < b -> key (gi z d i) <= key (gi z d j)
def LB (d : List α) (a b : Int) : Prop := 0 < a -> ∀ j, a <= j -> j < b -> key (gi z d (a - 1)) <= key (gi z d j)
theorem LB.pi {d d' : List α} {a b : Int} (h : LB z key d a b) (hp : PI z d d' a b) : LB z key d' a b := fun ha j h1 h2 => by
 obtain ⟨m, m1, m2, m3⟩ := hp.src j h1 h2
 rw [m3, hp.out (a - 1) (by omega) (by omega)]
 exact h ha m m1 m2
structure Qmn (d : List α) (a j e : Int) : Prop where
 rg : a <= j /\ j < e
 A : ∀ p q, a <= p -> p <= q -> q < e -> p ≠ j -> q ≠ j -> key (gi z d p) <= key (gi z d q)
 B : ∀ q, j < q -> q < e -> key (gi z d j) <= key (gi z d q)
theorem Qmn.done {d : List α} {a j e : Int} (h : Qmn z key d a j e) (hs : j = a \/ key (gi z d (j - 1)) <= key (gi z d j)) : Srt z key d a e := fun p q hp hpq hq => by
 have hr := h.rg
 by_cases h1 : p = j
 ·subst h1
  by_cases h2 : q = p
  ·subst h2; exact Int.le_refl _
  ·exact h.B q (by omega) hq
 ·by_cases h2 : q = j
  ·subst h2
   rcases hs with hs | hs
   ·omega
   ·by_cases h3 : p = q - 1
    ·subst h3; exact hs
    ·exact Int.le_trans (h.A p (q - 1) hp (by omega) (by omega) h1 (by omega)) hs
  ·exact h.A p q hp hpq hq h1 h2
theorem Qmn.step {d : List α} {a j e : Int} (h0 : 0 <= a) (he : e <= (d.length : Int)) (h : Qmn z key d a j e) (hj : a < j) (hs : key (gi z d j) < key (gi z d (j - 1))) : Qmn z key (swp z d j (j - 1)) a (j - 1) e := by
 have hr := h.rg
 have g : ∀ k, 0 <= k -> gi z (swp z d j (j - 1)) k = if k = j - 1 then gi z d j else if k = j then gi z d (j - 1) else gi z d k := fun k hk => Qhx z ⟨by omega, by omega⟩ ⟨by omega, by omega⟩ hk
 refine ⟨⟨by omega, by omega⟩, fun p q hp hpq hq h1 h2 => ?_, fun q hq1 hq2 => ?_⟩
 ·rw [g p (by omega), g q (by omega), if_neg h1, if_neg h2]
  by_cases e1 : p = j
  ·rw [if_pos e1]
   by_cases e2 : q = j
   ·rw [if_pos e2]; exact Int.le_refl _
   ·rw [if_neg e2]; exact h.A (j - 1) q (by omega) (by omega) hq (by omega) e2
  ·rw [if_neg e1]
   by_cases e2 : q = j
   ·rw [if_pos e2]; exact h.A p (j - 1) hp (by omega) (by omega) e1 (by omega)
   ·rw [if_neg e2]; exact h.A p q hp hpq hq e1 e2
 ·rw [g (j - 1) (by omega), if_pos rfl, g q (by omega), if_neg (by omega)]
  by_cases e2 : q = j
  ·rw [if_pos e2]; omega
  ·rw [if_neg e2]; exact h.B q (by omega) hq2
theorem Qmn.init {d : List α} {a i : Int} (hi : a <= i) (h : Srt z key d a i) : Qmn z key d a i (i + 1) :=
 ⟨⟨hi, by omega⟩, fun p q hp hpq hq h1 h2 => h p q hp hpq (by omega), fun q hq1 hq2 => by omega⟩
theorem Srt.pi {d d' : List α} {a b c e : Int} (h : Srt z key d a b) (h0 : 0 <= a) (hp : PI z d d' c e) (hd : b <= c \/ e <= a) : Srt z key d' a b := fun i j h1 h2 h3 => by
 rw [hp.out i (by omega) (by omega), hp.out j (by omega) (by omega)]; exact h i j h1 h2 h3
end
abbrev idk (x : Int) : Int := x
def Hp (d : List Int) (f lo n : Int) : Prop := ∀ i, lo <= i -> ∀ c, (c = 2 * i + 1 \/ c = 2 * i + 2) -> c < n -> gi 0 d (f + c) <= gi 0 d (f + i)
structure Hq (d : List Int) (f lo n rt : Int) : Prop where
 A : ∀ i, lo <= i -> i ≠ rt -> ∀ c, (c = 2 * i + 1 \/ c = 2 * i + 2) -> c < n -> gi 0 d (f + c) <= gi 0 d (f + i)
 B : ∀ i, lo <= i -> (rt = 2 * i + 1 \/ rt = 2 * i + 2) -> ∀ c, (c = 2 * rt + 1 \/ c = 2 * rt + 2) -> c < n -> gi 0 d (f + c) <= gi 0 d (f + i)
theorem Hq.done {d : List Int} {f lo n rt : Int} (h : Hq d f lo n rt) (hs : ∀ c, (c = 2 * rt + 1 \/ c = 2 * rt + 2) -> c < n -> gi 0 d (f + c) <= gi 0 d (f + rt)) : Hp d f lo n := fun i hi c hc hn => by
 by_cases e : i = rt
 ·subst e; exact hs c hc hn
 ·exact h.A i hi e c hc hn
theorem Hq.step {d : List Int} {f lo n rt c : Int} (h0 : 0 <= f) (hl : 0 <= lo) (hr : lo <= rt) (hb : f + n <= (d.length : Int)) (h : Hq d f lo n rt) (hc : c = 2 * rt + 1 \/ c = 2 * rt + 2) (hn : c < n)
  (h1 : gi 0 d (f + rt) < gi 0 d (f + c)) (h2 : ∀ c', (c' = 2 * rt + 1 \/ c' = 2 * rt + 2) -> c' < n -> gi 0 d (f + c') <= gi 0 d (f + c)) : Hq (swp 0 d (f + rt) (f + c)) f lo n c := by
 have g : ∀ k, 0 <= k -> gi 0 (swp 0 d (f + rt) (f + c)) (f + k) = if k = c then gi 0 d (f + rt) else if k = rt then gi 0 d (f + c) else gi 0 d (f + k) := fun k hk => by
  rw [Qhx 0 ⟨by omega, by omega⟩ ⟨by omega, by omega⟩ (by omega)]
  by_cases e1 : k = c
  ·rw [if_pos (by omega), if_pos e1]
  ·rw [if_neg (by omega), if_neg e1]
   by_cases e2 : k = rt
   ·rw [if_pos (by omega), if_pos e2]
   ·rw [if_neg (by omega), if_neg e2]
 refine ⟨fun i hi hne k hk hkn => ?_, fun i hi hp k hk hkn => ?_⟩
 ·rw [g k (by omega), g i (by omega), if_neg hne]
  by_cases e1 : i = rt
  ·rw [if_pos e1]
   subst e1
   by_cases e2 : k = c
   ·rw [if_pos e2]; omega
   ·rw [if_neg e2, if_neg (by omega)]; exact h2 k hk hkn
  ·rw [if_neg e1]
   by_cases e2 : k = c
   ·omega
   ·rw [if_neg e2]
    by_cases e3 : k = rt
    ·rw [if_pos e3]; subst e3; exact h.B i hi hk c hc hn
    ·rw [if_neg e3]; exact h.A i hi e1 k hk hkn
 ·have hi' : i = rt := by omega
  subst hi'
  rw [g k (by omega), g i (by omega), if_neg (by omega), if_neg (by omega), if_neg (by omega), if_pos rfl]
  exact h.A c (by omega) (by omega) k hk hkn
theorem Qo3 {d : List Int} {f n : Int} (h : Hp d f 0 n) : ∀ (m : Nat) (k : Int), k.toNat <= m -> 0 <= k -> k < n -> gi 0 d (f + k) <= gi 0 d (f + 0)
 | 0, k, hm, hk, hn => by rw [show k = 0 by omega]; exact Int.le_refl _
 | m + 1, k, hm, hk, hn => by
  by_cases e : k = 0
  ·rw [e]; exact Int.le_refl _
  ·exact Int.le_trans (h ((k - 1) / 2) (by omega) k (by omega) hn) (Qo3 h m ((k - 1) / 2) (by omega) (by omega) (by omega))
theorem QoW {d : List Int} {a b m : Int} (h0 : 0 <= a) (hm : a <= m /\ m <= b - 1) (hb : b <= (d.length : Int)) (hA : ∀ k, a < k -> k <= m -> gi 0 d k < gi 0 d a) (hB : ∀ k, m < k -> k < b -> gi 0 d a <= gi 0 d k) :
  PI 0 d (swp 0 d m a) a b /\ (∀ k, a <= k -> k < m -> gi 0 (swp 0 d m a) k <= gi 0 (swp 0 d m a) m) /\ (∀ k, m < k -> k < b -> gi 0 (swp 0 d m a) m <= gi 0 (swp 0 d m a) k) := by
 have g : ∀ k, 0 <= k -> gi 0 (swp 0 d m a) k = if k = a then gi 0 d m else if k = m then gi 0 d a else gi 0 d k := fun k hk => Qhx 0 ⟨by omega, by omega⟩ ⟨by omega, by omega⟩ hk
 have gm : gi 0 (swp 0 d m a) m = gi 0 d a := by
  rw [g m (by omega)]
  by_cases e : m = a
  ·rw [if_pos e, e]
  ·rw [if_neg e, if_pos rfl]
 refine ⟨PI.swp 0 h0 hb (by omega) (by omega), fun k h1 h2 => ?_, fun k h1 h2 => ?_⟩
 ·rw [gm, g k (by omega)]
  by_cases e : k = a
  ·rw [if_pos e]; have := hA m (by omega) (Int.le_refl _); omega
  ·rw [if_neg e, if_neg (by omega)]; have := hA k (by omega) (by omega); omega
 ·rw [gm, g k (by omega), if_neg (by omega), if_neg (by omega)]; exact hB k h1 h2
theorem Qrn : ((List.range 256).all fun k => (decide (k = 0) || decide (2 ^ (Qj6.b.getD k 0).toNat <= 2 * k)) && decide ((Qj6.b.getD k 0).toNat <= 8)) = true := by kernel_rfl
theorem QoT {k : Nat} (h : k < 256) : (k = 0 \/ 2 ^ (Qj6.b.getD k 0).toNat <= 2 * k) /\ (Qj6.b.getD k 0).toNat <= 8 := by
 have := List.all_eq_true.1 Qrn k (List.mem_range.2 h)
 simpa only [Bool.and_eq_true, Bool.or_eq_true, decide_eq_true_eq] using this
theorem Qjd {l : Int} (h : 0 <= l /\ l <= 65535) : (BitVec.ofInt 64 l).toNat = l.toNat := by rw [BitVec.toNat_ofInt]; omega
theorem Qpd {x m : BitVec 64} (h : 1 <= m.toNat) : (x &&& (m - 1#64)).toNat < m.toNat := by
 rw [BitVec.toNat_and]
 have h1 : (m - 1#64).toNat = m.toNat - 1 := by
  rw [BitVec.toNat_sub]
  have := m.isLt
  simp
  omega
 rw [h1]
 have := Nat.and_le_right (n := x.toNat) (m := m.toNat - 1)
 omega
theorem QlD {d1 d' : List Int} {a m b : Int} (hm : a <= m /\ m < b) (hA : ∀ k, a <= k -> k < m -> gi 0 d1 k <= gi 0 d1 m) (hB : ∀ k, m < k -> k < b -> gi 0 d1 m <= gi 0 d1 k)
  (sl : ∀ k, a <= k -> k < m -> ∃ s, a <= s /\ s < m /\ gi 0 d' k = gi 0 d1 s) (sm : gi 0 d' m = gi 0 d1 m) (sr : ∀ k, m + 1 <= k -> k < b -> ∃ s, m + 1 <= s /\ s < b /\ gi 0 d' k = gi 0 d1 s)
  (h1 : Srt 0 idk d' a m) (h2 : Srt 0 idk d' (m + 1) b) : Srt 0 idk d' a b := fun p q hp hpq hq => by
 have lo : ∀ k, a <= k -> k < m -> gi 0 d' k <= gi 0 d1 m := fun k k1 k2 => by
  obtain ⟨s, s1, s2, s3⟩ := sl k k1 k2
  rw [s3]; exact hA s s1 s2
 have hi : ∀ k, m < k -> k < b -> gi 0 d1 m <= gi 0 d' k := fun k k1 k2 => by
  obtain ⟨s, s1, s2, s3⟩ := sr k (by omega) k2
  rw [s3]; exact hB s (by omega) s2
 show gi 0 d' p <= gi 0 d' q
 by_cases c1 : q < m
 ·exact h1 p q hp hpq c1
 ·by_cases c2 : m < p
  ·exact h2 p q (by omega) hpq hq
  ·by_cases c3 : p = m
   ·subst c3
    by_cases c4 : q = p
    ·subst c4; exact Int.le_refl _
    ·rw [sm]; exact hi q (by omega) hq
   ·have l1 := lo p hp (by omega)
    by_cases c4 : q = m
    ·subst c4; rw [sm]; exact l1
    ·exact Int.le_trans l1 (hi q (by omega) hq)
theorem QlH {α β : Type} {x : LR α β} {y : α} (h : x = .brk y) : x ≠ .oof := fun e => by rw [h] at e; cases e
def EdL (n : Nat) (l : List Int) : Prop := l.Nodup /\ ∀ x ∈ l, 0 <= x /\ x < (n : Int)
theorem Qjp {n : Nat} {l : List Int} (h : EdL n l) : l.length <= n := Qlr n l h.1 h.2
theorem Qno (n : Nat) : EdL n [] := ⟨List.nodup_nil, fun x hx => by cases hx⟩
theorem QmN {n : Nat} {l : List Int} {x : Int} (h : EdL n l) (hx : 0 <= x /\ x < (n : Int)) (hn : x ∉ l) : EdL n (l ++ [x]) := by
 refine ⟨List.nodup_append.2 ⟨h.1, by simp, fun a ha b hb => ?_⟩, fun y hy => ?_⟩
 ·rw [List.mem_singleton] at hb; subst hb; intro e; exact hn (e ▸ ha)
 ·rcases List.mem_append.1 hy with hy | hy
  ·exact h.2 y hy
  ·rw [List.mem_singleton] at hy; rw [hy]; exact hx
theorem Qgx {l : List (List Int)} {i : Int} (h : 0 <= i /\ i < (l.length : Int)) : l.getD i.toNat [] ∈ l := by
 rw [List.getD_eq_getElem?_getD, List.getElem?_eq_getElem (show i.toNat < l.length by omega)]; exact List.getElem_mem _
structure BOk (b : QaD) : Prop where
 ps : b.g.Pred.length = b.g.Succ.length
 n0 : 0 < b.g.Succ.length
 nb : b.g.Succ.length <= 20000
 su : ∀ l ∈ b.g.Succ, EdL b.g.Succ.length l
 pr : ∀ l ∈ b.g.Pred, EdL b.g.Succ.length l
 mi : ∀ i k, 0 <= i -> i < (b.g.Succ.length : Int) -> 0 <= k -> k < (b.g.Succ.length : Int) -> (k ∈ b.g.Succ.getD i.toNat [] ↔ i ∈ b.g.Pred.getD k.toNat [])
 num : ∀ k, 0 <= (Qea b.number k).getD 0 /\ (Qea b.number k).getD 0 < (b.g.Succ.length : Int)
theorem BOk.sl {b : QaD} (h : BOk b) {i : Int} (hi : 0 <= i /\ i < (b.g.Succ.length : Int)) : (b.g.Succ.getD i.toNat []).length <= 20000 := Nat.le_trans (Qjp (h.su _ (Qgx hi))) h.nb
theorem BOk.pl {b : QaD} (h : BOk b) {i : Int} (hi : 0 <= i /\ i < (b.g.Succ.length : Int)) : (b.g.Pred.getD i.toNat []).length <= 20000 := Nat.le_trans (Qjp (h.pr _ (Qgx (by have := h.ps; omega)))) h.nb
theorem Qky {l : List (List Int)} {i k : Int} {x : List Int} (hi : 0 <= i /\ i < (l.length : Int)) (hk : 0 <= k) : (l.set i.toNat x).getD k.toNat [] = if k = i then x else l.getD k.toNat [] := by
 simp only [List.getD_eq_getElem?_getD, List.getElem?_set]
 by_cases e : k = i
 ·subst e; simp [show k.toNat < l.length by omega]
 ·simp [e, show ¬ i.toNat = k.toNat by omega]
theorem Qmz {g : List (List Int)} {c : Int} (h : ∀ l ∈ g, (l.length : Int) <= c) (h0 : 0 <= c) (i : Nat) : ((g.getD i []).length : Int) <= c := by
 by_cases hi : i < g.length
 ·rw [List.getD_eq_getElem?_getD, List.getElem?_eq_getElem hi]; exact h _ (List.getElem_mem hi)
 ·rw [List.getD_eq_getElem?_getD, List.getElem?_eq_none (by omega)]; exact h0
def Asc (l : List Int) (n : Int) : Prop := ∀ k, 0 <= k -> k < (l.length : Int) -> 0 <= l.getD k.toNat 0 /\ l.getD k.toNat 0 < n /\ (0 < k -> l.getD (k - 1).toNat 0 < l.getD k.toNat 0)
theorem QrI {a : List Qay} {b c : List (List Int)} {m : List (Qay × Int)} (h : BOk (QaD.mk (Qbn.mk a b c) m)) : ∀ l ∈ b, (l.length : Int) <= 20000 := fun l hl => by
 have h1 := Qjp (h.su l hl); have h2 := h.nb; omega
theorem QqX {a : List Qay} {b c : List (List Int)} {m : List (Qay × Int)} (h : BOk (QaD.mk (Qbn.mk a b c) m)) : ∀ l ∈ c, (l.length : Int) <= 20000 := fun l hl => by
 have h1 := Qjp (h.pr l hl); have h2 := h.nb; omega
theorem Qpf {g : List (List Int)} {i : Nat} (h : ∀ l ∈ g, (l.length : Int) <= 20000) : (g.getD i []).length <= 65535 := by
 have := Qmz h (by omega) i; omega
theorem QkO {g : List (List Int)} {c : Int} {i j : Nat} {x : List Int} (h : ∀ l ∈ g, (l.length : Int) <= c) (hx : x.length = (g.getD j []).length) (h0 : 0 <= c := by omega) : ∀ l ∈ g.set i x, (l.length : Int) <= c := fun l hl => by
 rcases List.mem_or_eq_of_mem_set hl with hl | rfl
 ·exact h l hl
 ·have := Qmz h h0 j; omega
theorem Qrr {a : List Qay} {b c : List (List Int)} {m : List (Qay × Int)} (h : BOk (QaD.mk (Qbn.mk a b c) m)) : c.length = b.length := h.ps
structure VG (g : Qbn) : Prop where
 n1 : 1 <= g.Nodes.length /\ g.Nodes.length <= 256
 sl : g.Succ.length = g.Nodes.length
 pl : g.Pred.length = g.Nodes.length
 sa : ∀ k : Int, 0 <= k -> k < (g.Nodes.length : Int) -> Asc (g.Succ.getD k.toNat []) (g.Nodes.length : Int)
theorem Qje {l : List Int} {n x : Int} (h : Asc l n) (hx : x ∈ l) : 0 <= x /\ x < n := by
 obtain ⟨i, hi, e⟩ := List.mem_iff_getElem.1 hx
 have := h (i : Int) (by omega) (by omega)
 rw [show ((i : Int)).toNat = i by omega, List.getD_eq_getElem?_getD, List.getElem?_eq_getElem hi] at this
 rw [<- e]; exact ⟨this.1, this.2.1⟩
theorem Qqu {l : List Int} {n : Int} (h : Asc l n) : (l.length : Int) <= n \/ l = [] := by
 have key : ∀ (m : Nat), m < l.length -> (m : Int) <= l.getD m 0 := fun m => by
  induction m with
  | zero => intro hm; have := (h 0 (by omega) (by omega)).1; simpa using this
  | succ m ih =>
   intro hm
   have h1 := ih (by omega)
   have h2 := (h ((m + 1 : Nat) : Int) (by omega) (by omega)).2.2 (by omega)
   rw [show (((m + 1 : Nat) : Int) - 1).toNat = m by omega, show (((m + 1 : Nat) : Int)).toNat = m + 1 by omega] at h2
   omega
 by_cases e : l.length = 0
 ·exact .inr (List.length_eq_zero_iff.1 e)
 ·left
  have h1 := key (l.length - 1) (by omega)
  have h2 := (h ((l.length - 1 : Nat) : Int) (by omega) (by omega)).2.1
  rw [show (((l.length - 1 : Nat) : Int)).toNat = l.length - 1 by omega] at h2
  omega
def pot (S : List (List Int)) (sn : List Bool) : Nat -> Nat
 | 0 => 0
 | n + 1 => pot S sn n + (if sn.getD n false = true then 0 else (S.getD n []).length)
theorem Qkk {sn : List Bool} {k i : Nat} (hk : k < sn.length) : (sn.set k true).getD i false = if i = k then true else sn.getD i false := by
 simp only [List.getD_eq_getElem?_getD, List.getElem?_set]
 by_cases e : i = k
 ·subst e; simp [hk]
 ·simp [e, Ne.symm e]
theorem QoR {S : List (List Int)} {sn : List Bool} {k : Nat} (hk : k < sn.length) : ∀ n, n <= k -> pot S (sn.set k true) n = pot S sn n
 | 0, _ => rfl
 | n + 1, h => by rw [pot, pot, QoR hk n (by omega), Qkk hk, if_neg (show ¬ n = k by omega)]
theorem Qnc {S : List (List Int)} {sn : List Bool} {k : Nat} (hk : k < sn.length) (hs : sn.getD k false = false) : ∀ n, k < n -> pot S (sn.set k true) n + (S.getD k []).length = pot S sn n
 | 0, h => by omega
 | n + 1, h => by
  rw [pot, pot, Qkk hk]
  by_cases e : n = k
  ·subst e; rw [if_pos rfl, if_pos rfl, QoR hk n (Nat.le_refl _), hs]; simp
  ·have := Qnc (S := S) hk hs n (by omega); rw [if_neg e]; omega
theorem QoU {g : Qbn} (hg : VG g) (sn : List Bool) : ∀ n, n <= g.Nodes.length -> pot g.Succ sn n <= 256 * n
 | 0, _ => by simp [pot]
 | n + 1, h => by
  have h1 := QoU hg sn n (by omega)
  have h2 := hg.sa (n : Int) (by omega) (by omega)
  rw [show ((n : Int)).toNat = n by omega] at h2
  have h3 : (g.Succ.getD n []).length <= 256 := by
   have h4 := hg.n1
   rcases Qqu h2 with h5 | h5
   ·omega
   ·rw [h5]; simp
  rw [pot]
  split <;> omega
structure RI (g : Qbn) (f : List Int) (sn : List Bool) (td out : List Int) : Prop where
 sl : sn.length = g.Nodes.length
 tm : ∀ x ∈ td, 0 <= x /\ x < (g.Nodes.length : Int)
 on : out.Nodup
 oi : ∀ x ∈ out, 0 <= x /\ x < (g.Nodes.length : Int)
 so : ∀ x : Int, 0 <= x -> x < (g.Nodes.length : Int) -> (sn.getD x.toNat false = true ↔ x ∈ out)
 pt : td.length + pot g.Succ sn g.Nodes.length <= f.length + 65536
theorem RI.init {g : Qbn} {f : List Int} (hg : VG g) (hf : ∀ x ∈ f, 0 <= x /\ x < (g.Nodes.length : Int)) : RI g f (List.replicate (((g.Nodes.length : Nat) : Int) : Int).toNat false) f [] := by
 refine ⟨by simp, hf, List.nodup_nil, fun x hx => (by cases hx), fun x h1 h2 => ⟨fun h => ?_, fun h => (by cases h)⟩, ?_⟩
 ·rw [List.getD_eq_getElem?_getD, List.getElem?_replicate] at h; split at h <;> cases h
 ·have := QoU hg (List.replicate (((g.Nodes.length : Nat) : Int) : Int).toNat false) g.Nodes.length (Nat.le_refl _)
  have := hg.n1
  omega
theorem RI.push {g : Qbn} {f : List Int} {sn : List Bool} {td out : List Int} (hg : VG g) (h : RI g f sn td out) {x : Int} (hx : 0 <= x /\ x < (g.Nodes.length : Int)) (ht : 0 < td.length) (hs : sn.getD x.toNat false = false) :
  RI g f (sn.set x.toNat true) (((td.take (((((td.length : Nat) : Int) - 1) : Int).toNat)).drop 0) ++ g.Succ.getD x.toNat []) (out ++ [x]) := by
 have hl := h.sl
 have hn : x ∉ out := fun hm => by rw [(h.so x hx.1 hx.2).2 hm] at hs; cases hs
 refine ⟨by simpa using hl, fun y hy => ?_, ?_, fun y hy => ?_, fun y h1 h2 => ?_, ?_⟩
 ·rcases List.mem_append.1 hy with hy | hy
  ·exact h.tm y (List.mem_of_mem_take (by simpa using hy))
  ·exact Qje (hg.sa x hx.1 hx.2) hy
 ·refine List.nodup_append.2 ⟨h.on, by simp, fun a ha b hb => ?_⟩
  rw [List.mem_singleton] at hb; subst hb; intro e; exact hn (e ▸ ha)
 ·rcases List.mem_append.1 hy with hy | hy
  ·exact h.oi y hy
  ·rw [List.mem_singleton] at hy; rw [hy]; exact hx
 ·rw [Qkk (by omega), List.mem_append, List.mem_singleton]
  by_cases e : y.toNat = x.toNat
  ·rw [if_pos e]; exact ⟨fun _ => .inr (by omega), fun _ => rfl⟩
  ·rw [if_neg e]; exact (h.so y h1 h2).trans ⟨.inl, fun hh => hh.resolve_right (fun e' => e (by rw [e']))⟩
 ·have h1 := h.pt
  have h2 := Qnc (S := g.Succ) (sn := sn) (k := x.toNat) (by omega) hs g.Nodes.length (by omega)
  simp only [List.length_append, List.drop_zero, List.length_take]
  omega
def sm : Nat -> (Nat -> Nat) -> Nat
 | 0, _ => 0
 | n + 1, f => sm n f + f n
theorem QfH {f g : Nat -> Nat} : ∀ n, (∀ i, i < n -> f i = g i) -> sm n f = sm n g
 | 0, _ => rfl
 | n + 1, h => by rw [sm, sm, QfH n (fun i hi => h i (by omega)), h n (by omega)]
theorem QoP (f g : Nat -> Nat) : ∀ n, sm n (fun i => f i + g i) = sm n f + sm n g
 | 0 => rfl
 | n + 1 => by rw [sm, sm, sm, QoP f g n]; omega
theorem Qk9 : ∀ n, sm n (fun _ => 0) = 0
 | 0 => rfl
 | n + 1 => by rw [sm, Qk9 n]
theorem Qns (f : Nat -> Nat -> Nat) (m : Nat) : ∀ n, sm n (fun i => sm m (f i)) = sm m (fun k => sm n (fun i => f i k))
 | 0 => (Qk9 m).symm
 | n + 1 => by
  rw [sm, Qns f m n, <- QoP]
  exact QfH m fun i _ => rfl
theorem Qpx (f : Nat -> Nat) {n m : Nat} (h : n <= m) : sm n f <= sm m f := by
 induction m with
 | zero => rw [show n = 0 by omega]; exact Nat.le_refl _
 | succ m ih =>
  by_cases e : n = m + 1
  ·rw [e]; exact Nat.le_refl _
  ·exact Nat.le_trans (ih (by omega)) (Nat.le_add_right _ _)
theorem Qm2 : ∀ (n : Nat) (l : List Int), l.Nodup -> (∀ x ∈ l, 0 <= x /\ x < (n : Int)) -> l.length = sm n (fun k => if (k : Int) ∈ l then 1 else 0)
 | 0, l, _, h => by
  cases l with
  | nil => rfl
  | cons x l => have := h x (by simp); omega
 | n + 1, l, hn, h => by
  rw [sm]
  have h1 := Qm2 n (l.erase (n : Int)) (hn.erase _) (fun x hx => by
   have hx' := (List.Nodup.mem_erase_iff hn).1 hx
   have h2 := h x hx'.2
   have h3 : x ≠ n := hx'.1
   omega)
  rw [QfH n (g := fun k => if (k : Int) ∈ l then 1 else 0) (fun i hi => by
   have : ((i : Int) ∈ l.erase (n : Int)) ↔ (i : Int) ∈ l := by
    rw [List.Nodup.mem_erase_iff hn]; exact ⟨fun h => h.2, fun h => ⟨by omega, h⟩⟩
   simp only [this])] at h1
  by_cases c : (n : Int) ∈ l
  ·rw [if_pos c, <- h1, List.length_erase_of_mem c]
   have := List.length_pos_of_mem c; omega
  ·rw [if_neg c, <- h1, List.erase_of_not_mem c]; omega
theorem QoF {l : List Int} {n : Int} (h : Asc l n) (i : Nat) : ∀ d : Nat, i + d + 1 < l.length -> l.getD i 0 < l.getD (i + d + 1) 0
 | 0, hd => by
  have := (h ((i + 1 : Nat) : Int) (by omega) (by omega)).2.2 (by omega)
  rwa [show (((i + 1 : Nat) : Int) - 1).toNat = i by omega, show (((i + 1 : Nat) : Int)).toNat = i + 1 by omega] at this
 | d + 1, hd => by
  have h1 := QoF h i d (by omega)
  have h2 := (h ((i + d + 1 + 1 : Nat) : Int) (by omega) (by omega)).2.2 (by omega)
  rw [show (((i + d + 1 + 1 : Nat) : Int) - 1).toNat = i + d + 1 by omega, show (((i + d + 1 + 1 : Nat) : Int)).toNat = i + d + 1 + 1 by omega] at h2
  exact Int.lt_trans h1 h2
theorem QmS (l : List Int) (n : Int) : Asc l n ↔ l.Pairwise (· < ·) /\ ∀ x ∈ l, 0 <= x /\ x < n := by
 constructor
 ·intro h
  refine ⟨List.pairwise_iff_getElem.2 fun i j hi hj hij => ?_, fun x hx => Qje h hx⟩
  have := QoF h i (j - i - 1) (by omega)
  rw [show i + (j - i - 1) + 1 = j by omega] at this
  simpa [List.getD_eq_getElem?_getD, List.getElem?_eq_getElem hi, List.getElem?_eq_getElem hj] using this
 ·rintro ⟨h1, h2⟩ k hk0 hk
  have hk' : k.toNat < l.length := by omega
  have e1 : l.getD k.toNat 0 = l[k.toNat] := by simp [List.getD_eq_getElem?_getD, List.getElem?_eq_getElem hk']
  rw [e1]
  refine ⟨(h2 _ (List.getElem_mem hk')).1, (h2 _ (List.getElem_mem hk')).2, fun h0 => ?_⟩
  have hk2 : (k - 1).toNat < l.length := by omega
  have e2 : l.getD (k - 1).toNat 0 = l[(k - 1).toNat] := by rw [List.getD_eq_getElem?_getD, List.getElem?_eq_getElem hk2]; rfl
  rw [e2]
  exact List.pairwise_iff_getElem.1 h1 _ _ hk2 hk' (by omega)
theorem Qo4 {l : List Int} {n : Int} (h : Asc l n) : l.Nodup := ((QmS l n).1 h).1.imp (fun hab => by omega)
structure VF (S P : List (List Int)) (n : Nat) : Prop where
 sl : S.length = n
 pl : P.length = n
 sa : ∀ k : Nat, k < n -> Asc (S.getD k []) (n : Int)
 pa : ∀ k : Nat, k < n -> Asc (P.getD k []) (n : Int)
 mi : ∀ i k : Nat, i < n -> k < n -> ((k : Int) ∈ S.getD i [] ↔ (i : Int) ∈ P.getD k [])
theorem VF.symm {S P : List (List Int)} {n : Nat} (h : VF S P n) : VF P S n := ⟨h.pl, h.sl, h.pa, h.sa, fun i k hi hk => (h.mi k i hk hi).symm⟩
def Qib (l : List (List Int)) : Nat := sm l.length (fun i => (l.getD i []).length)
theorem VF.cnt {S P : List (List Int)} {n : Nat} (h : VF S P n) : Qib S = Qib P := by
 unfold Qib
 rw [h.sl, h.pl]
 rw [QfH n (g := fun i => sm n (fun k => if (k : Int) ∈ S.getD i [] then 1 else 0)) (fun i hi => Qm2 n _ (Qo4 (h.sa i hi)) (fun x hx => Qje (h.sa i hi) hx))]
 rw [QfH n (f := fun i => (P.getD i []).length) (g := fun i => sm n (fun k => if (k : Int) ∈ P.getD i [] then 1 else 0)) (fun i hi => Qm2 n _ (Qo4 (h.pa i hi)) (fun x hx => Qje (h.pa i hi) hx))]
 rw [Qns]
 refine QfH n fun k hk => QfH n fun i hi => ?_
 simp only [h.mi i k hi hk]
theorem QsA {l : List (List Int)} {a k : Nat} {x : List Int} (ha : a < l.length) : (l.set a x).getD k [] = if k = a then x else l.getD k [] := by
 simp only [List.getD_eq_getElem?_getD, List.getElem?_set]
 by_cases e : k = a
 ·subst e; simp [ha]
 ·simp [e, Ne.symm e]
theorem VF.nil (n : Nat) : VF (List.replicate n []) (List.replicate n []) n := by
 have e : ∀ k, (List.replicate n ([] : List Int)).getD k [] = [] := fun k => by
  rw [List.getD_eq_getElem?_getD, List.getElem?_replicate]; split <;> rfl
 refine ⟨List.length_replicate, List.length_replicate, fun k _ => ?_, fun k _ => ?_, fun i k _ _ => ?_⟩
 ·rw [e]; intro k h1 h2; simp at h2; omega
 ·rw [e]; intro k h1 h2; simp at h2; omega
 ·rw [e, e]; exact ⟨fun h => (by cases h), fun h => (by cases h)⟩
theorem QoJ {f g : Nat -> Nat} {a : Nat} (h : ∀ i, i ≠ a -> g i = f i) (ha : g a <= f a + 1) : ∀ n, sm n g <= sm n f + (if a < n then 1 else 0)
 | 0 => Nat.zero_le _
 | n + 1 => by
  have h1 := QoJ h ha n
  rw [sm, sm]
  by_cases e : n = a
  ·subst e
   rw [if_neg (by omega)] at h1
   rw [if_pos (by omega)]; omega
  ·rw [h n e]
   by_cases c : a < n
   ·rw [if_pos c] at h1; rw [if_pos (by omega)]; omega
   ·rw [if_neg c] at h1; rw [if_neg (by omega)]; omega
theorem QnQ {l : List (List Int)} {a : Nat} {x : List Int} (ha : a < l.length) (hx : x.length <= (l.getD a []).length + 1) : Qib (l.set a x) <= Qib l + 1 := by
 unfold Qib
 rw [List.length_set]
 have := QoJ (f := fun i => (l.getD i []).length) (g := fun i => ((l.set a x).getD i []).length) (a := a) (fun i hi => by
  show ((l.set a x).getD i []).length = (l.getD i []).length
  rw [QsA ha, if_neg hi]) (by
  show ((l.set a x).getD a []).length <= (l.getD a []).length + 1
  rw [QsA ha, if_pos rfl]; exact hx) l.length
 rw [if_pos ha] at this
 exact this
def nmb (m : List (Qay × Int)) (n : Qay) : Int := (Qea m n).getD 0
def stO (p : Qaj) (n : Qay) : Qax := (((((p.Funcs.getD (n.Func : Int).toNat default).Blocks).getD (n.Block : Int).toNat default).Stmts).getD (n.Stmt : Int).toNat default)
theorem QtT (i k : Int) : ∀ (S : List Qax) (v : Int) (n : Qay), n ∈ nS i k v S -> n.Kind = 4 -> (S.getD (n.Stmt - v).toNat default).Op = 3 /\ Qay.mk 3 i k n.Stmt ∈ nS i k v S
 | [], v, n, h, _ => by cases h
 | s :: S, v, n, h, h4 => by
  rw [nS] at h ⊢
  rcases List.mem_append.1 h with h' | h'
  ·cases e : s.Op == 3
   ·rw [e, cond_false, List.mem_singleton] at h'
    rw [h'] at h4; cases h4
   ·rw [e, cond_true] at h'
    simp only [List.mem_cons, List.not_mem_nil, or_false] at h'
    rcases h' with e1 | e1
    ·rw [e1] at h4; cases h4
    ·rw [e1, cond_true]
     refine ⟨?_, List.mem_append.2 (.inl (by simp))⟩
     rw [show ((Qay.mk 4 i k v).Stmt - v).toNat = 0 by show (v - v).toNat = 0; omega]
     exact eq_of_beq e
  ·obtain ⟨a1, a2⟩ := QtT i k S (v + 1) n h' h4
   have hb := (Qmw i k S (v + 1) n h').2.2.2
   refine ⟨?_, List.mem_append.2 (.inr a2)⟩
   rw [show (n.Stmt - v).toNat = (n.Stmt - (v + 1)).toNat + 1 by omega]
   exact a1
theorem QuJ (i : Int) : ∀ (S : List QaM) (v : Int) (n : Qay), n ∈ nB i v S -> n.Kind = 4 -> (((S.getD (n.Block - v).toNat default).Stmts).getD n.Stmt.toNat default).Op = 3 /\ Qay.mk 3 i n.Block n.Stmt ∈ nB i v S
 | [], v, n, h, _ => by cases h
 | s :: S, v, n, h, h4 => by
  rw [nB] at h ⊢
  rcases List.mem_append.1 h with h' | h'
  ·obtain ⟨a1, a2⟩ := QtT i v s.Stmts 0 n h' h4
   have hb := (Qmw i v s.Stmts 0 n h').2.1
   rw [hb]
   refine ⟨?_, List.mem_append.2 (.inl a2)⟩
   rw [show (v - v).toNat = 0 by omega]
   rwa [show n.Stmt - 0 = n.Stmt by omega] at a1
  ·obtain ⟨a1, a2⟩ := QuJ i S (v + 1) n h' h4
   have hb := (Qmg i S (v + 1) n h').2.2.1
   refine ⟨?_, List.mem_append.2 (.inr a2)⟩
   rw [show (n.Block - v).toNat = (n.Block - (v + 1)).toNat + 1 by omega]
   exact a1
theorem QuL : ∀ (S : List Qbv) (v : Int) (n : Qay), n ∈ nF v S -> n.Kind = 4 -> (((((S.getD (n.Func - v).toNat default).Blocks).getD n.Block.toNat default).Stmts).getD n.Stmt.toNat default).Op = 3 /\ Qay.mk 3 n.Func n.Block n.Stmt ∈ nF v S
 | [], v, n, h, _ => by cases h
 | s :: S, v, n, h, h4 => by
  rw [nF] at h ⊢
  rcases List.mem_append.1 h with h | h'
  ·rcases List.mem_append.1 h with h | h
   ·rcases List.mem_append.1 h with h | h
    ·rw [List.mem_singleton.1 h] at h4; cases h4
    ·obtain ⟨a1, a2⟩ := QuJ v s.Blocks 0 n h h4
     have hb := (Qmg v s.Blocks 0 n h).1
     rw [hb]
     refine ⟨?_, List.mem_append.2 (.inl (List.mem_append.2 (.inl (List.mem_append.2 (.inr a2)))))⟩
     rw [show (v - v).toNat = 0 by omega]
     rwa [show n.Block - 0 = n.Block by omega] at a1
   ·rw [List.mem_singleton.1 h] at h4; cases h4
  ·obtain ⟨a1, a2⟩ := QuL S (v + 1) n h' h4
   have hb := (Qqk S (v + 1) n h').1
   refine ⟨?_, List.mem_append.2 (.inr a2)⟩
   rw [show (n.Func - v).toNat = (n.Func - (v + 1)).toNat + 1 by omega]
   exact a1
theorem QoO {x : Int} (h : 0 <= x /\ x < 3) : Qbc (fNm x) = true := by
 have : x = 0 \/ x = 1 \/ x = 2 := by omega
 rcases this with h | h | h <;> subst h <;> decide +kernel
theorem Qr6 {x : Int} (h : 0 <= x /\ x < 3) : Qbc (bNm x) = true := by
 have : x = 0 \/ x = 1 \/ x = 2 := by omega
 rcases this with h | h | h <;> subst h <;> decide +kernel
theorem QdU (l : List Str) (a b : Int) : QdJ l a b = (l.all Qbc && (decide (a <= (l.length : Int)) && decide ((l.length : Int) <= b))) := by
 have l0 : QcN l ((l.length : Int) - 0).toNat 0 = if l.all Qbc = true then .brk () else .ret false :=
  QoH (QcN l) (fun i => by rw [QcN]) fun r i h0 h1 => by
   rw [QcN]; cases Qbc (l.getD i.toNat default) <;> rfl
 rw [QdJ, l0]
 cases l.all Qbc
 ·rfl
 ·cases decide (a <= (l.length : Int)) <;> rfl
theorem Qsd {s : Qax} (h : Qaz s = true) : s.Uses.length <= 4 /\ s.Targets.length <= 2 := by
 unfold Qaz at h
 cases h1 : QdJ s.Uses 0 4
 ·rw [h1] at h; exact absurd h (by intro h; cases h)
 cases h2 : QdJ s.Targets 0 2
 ·rw [h1, h2] at h; exact absurd h (by intro h; cases h)
 rw [QdU] at h1 h2
 simp only [Bool.and_eq_true, decide_eq_true_eq] at h1 h2
 omega
theorem Qr3 {s : Qax} (h : Qaz s = true) : (s.Op = 7 -> s.Targets.length = 1) /\ (s.Op = 8 -> s.Targets.length = 2) := by
 unfold Qaz at h
 dsimp only at h
 refine ⟨fun e => ?_, fun e => ?_⟩ <;> rw [e] at h <;> simp only [Bool.cond_eq_ite] at h <;> (repeat' split at h) <;> simp_all <;> omega
theorem Qih (p : Qaj) : QcH p = (decide (1 <= p.Funcs.length /\ p.Funcs.length <= 8) && p.Funcs.all fun f => Qbc f.Name && (decide (1 <= f.Blocks.length /\ f.Blocks.length <= 16) && f.Blocks.all fun b => Qbc b.Name && (decide (1 <= b.Stmts.length /\ b.Stmts.length <= 32) && b.Stmts.all Qaz))) := by
 have l2 : ∀ (b : List Qax), Qdx b ((b.length : Int) - 0).toNat 0 = if b.all Qaz = true then .brk () else .ret false := fun b =>
  QoH (Qdx b) (fun i => by rw [Qdx]) fun r i h0 h1 => by
   rw [Qdx]; cases Qaz (b.getD i.toNat default) <;> rfl
 have l1 : ∀ (f : List QaM), QcL f ((f.length : Int) - 0).toNat 0 = if (f.all fun b => Qbc b.Name && (decide (1 <= b.Stmts.length /\ b.Stmts.length <= 32) && b.Stmts.all Qaz)) = true then .brk () else .ret false := fun f =>
  QoH (QcL f) (fun i => by rw [QcL]) fun r i h0 h1 => by
   rw [QcL]
   generalize hb : f.getD i.toNat default = b
   have e := l2 b.Stmts
   simp only [Bool.cond_eq_ite]
   cases hN : Qbc b.Name
   ·simp
   by_cases h1 : ((b.Stmts.length : Nat) : Int) < 1
   ·have : ¬ (1 <= b.Stmts.length /\ b.Stmts.length <= 32) := by omega
    simp [h1, this]
   by_cases h2 : (32 : Int) < ((b.Stmts.length : Nat) : Int)
   ·have : ¬ (1 <= b.Stmts.length /\ b.Stmts.length <= 32) := by omega
    simp [h1, h2, this]
   have h3 : (1 <= b.Stmts.length /\ b.Stmts.length <= 32) := by omega
   rw [e]
   simp only [h1, h2, decide_false, h3, decide_true, Bool.not_true, Bool.true_and, and_self, reduceIte, Bool.false_eq_true]
   all_goals (cases b.Stmts.all Qaz <;> rfl)
 have l0 : Qb9 p ((p.Funcs.length : Int) - 0).toNat 0 = if (p.Funcs.all fun f => Qbc f.Name && (decide (1 <= f.Blocks.length /\ f.Blocks.length <= 16) && f.Blocks.all fun b => Qbc b.Name && (decide (1 <= b.Stmts.length /\ b.Stmts.length <= 32) && b.Stmts.all Qaz))) = true then .brk () else .ret false :=
  QoH (Qb9 p) (fun i => by rw [Qb9]) fun r i h0 h1 => by
   rw [Qb9]
   generalize hb : p.Funcs.getD i.toNat default = f
   have e := l1 f.Blocks
   simp only [Bool.cond_eq_ite]
   cases hN : Qbc f.Name
   ·simp
   by_cases h1 : ((f.Blocks.length : Nat) : Int) < 1
   ·have : ¬ (1 <= f.Blocks.length /\ f.Blocks.length <= 16) := by omega
    simp [h1, this]
   by_cases h2 : (16 : Int) < ((f.Blocks.length : Nat) : Int)
   ·have : ¬ (1 <= f.Blocks.length /\ f.Blocks.length <= 16) := by omega
    simp [h1, h2, this]
   have h3 : (1 <= f.Blocks.length /\ f.Blocks.length <= 16) := by omega
   rw [e]
   simp only [h1, h2, decide_false, h3, decide_true, Bool.not_true, Bool.true_and, and_self, reduceIte, Bool.false_eq_true]
   all_goals (generalize (f.Blocks.all _) = q; cases q <;> rfl)
 rw [QcH]
 simp only [Bool.cond_eq_ite]
 by_cases h1 : ((p.Funcs.length : Nat) : Int) < 1
 ·have : ¬ (1 <= p.Funcs.length /\ p.Funcs.length <= 8) := by omega
  simp [h1, this]
 by_cases h2 : (8 : Int) < ((p.Funcs.length : Nat) : Int)
 ·have : ¬ (1 <= p.Funcs.length /\ p.Funcs.length <= 8) := by omega
  simp [h1, h2, this]
 have h3 : (1 <= p.Funcs.length /\ p.Funcs.length <= 8) := by omega
 rw [l0]
 simp only [h1, h2, decide_false, h3, decide_true, Bool.true_and, reduceIte, Bool.false_eq_true, and_self]
 all_goals (generalize (p.Funcs.all _) = q; cases q <;> rfl)
theorem Qsn {p : Qaj} (h : QcH p = true) : p.Funcs.length <= 8 /\ ∀ i : Nat, (p.Funcs.getD i default).Blocks.length <= 16 /\ ∀ k : Nat, ((p.Funcs.getD i default).Blocks.getD k default).Stmts.length <= 32 /\ ∀ j : Nat, (((p.Funcs.getD i default).Blocks.getD k default).Stmts.getD j default).Uses.length <= 4 /\ (((p.Funcs.getD i default).Blocks.getD k default).Stmts.getD j default).Targets.length <= 2 := by
 rw [Qih] at h
 simp only [Bool.and_eq_true, decide_eq_true_eq, List.all_eq_true] at h
 have gm : ∀ {α : Type} [Inhabited α] (l : List α) (i : Nat), l.getD i default ∈ l \/ l.getD i default = default := fun l i => by
  by_cases hi : i < l.length
  ·left; rw [List.getD_eq_getElem?_getD, List.getElem?_eq_getElem hi]; exact List.getElem_mem hi
  ·right; rw [List.getD_eq_getElem?_getD, List.getElem?_eq_none (by omega)]; rfl
 refine ⟨h.1.2, fun i => ?_⟩
 rcases gm p.Funcs i with hf | hf
 ·have hF := (h.2 _ hf).2
  refine ⟨hF.1.2, fun k => ?_⟩
  rcases gm (p.Funcs.getD i default).Blocks k with hb | hb
  ·have hB := (hF.2 _ hb).2
   refine ⟨hB.1.2, fun j => ?_⟩
   rcases gm ((p.Funcs.getD i default).Blocks.getD k default).Stmts j with hs | hs
   ·exact Qsd (hB.2 _ hs)
   ·rw [hs]; decide
  ·rw [hb]
   exact ⟨by decide, fun j => by rw [show (default : QaM).Stmts = [] from rfl]; simp; decide⟩
 ·rw [hf]
  refine ⟨by decide, fun k => ?_⟩
  rw [show (default : Qbv).Blocks = [] from rfl]
  exact ⟨by simp; decide, fun j => by simp [show (default : QaM).Stmts = [] from rfl]; decide⟩
theorem QrK {p : Qaj} (hv : QcH p = true) (i k j : Nat) : (((((p.Funcs.getD i default).Blocks).getD k default).Stmts).getD j default).Op = 3 -> 0 < (((((p.Funcs.getD i default).Blocks).getD k default).Stmts).getD j default).Targets.length := by
 have gd : ∀ {α : Type} [Inhabited α] (l : List α) (i : Nat), i < l.length \/ l.getD i default = default := fun l i => by
  by_cases hi : i < l.length
  ·exact .inl hi
  ·right; rw [List.getD_eq_getElem?_getD, List.getElem?_eq_none (by omega)]; rfl
 have d0 : (default : Qax).Op = 3 -> 0 < (default : Qax).Targets.length := fun h => by cases h
 rw [Qih] at hv
 simp only [Bool.and_eq_true, decide_eq_true_eq, List.all_eq_true] at hv
 rcases gd p.Funcs i with hi | hi
 ·rcases gd (p.Funcs.getD i default).Blocks k with hk | hk
  ·rcases gd ((p.Funcs.getD i default).Blocks.getD k default).Stmts j with hj | hj
   ·have hs := ((hv.2 _ (Qb4 (d := default) hi)).2.2 _ (Qb4 (d := default) hk)).2.2 _ (Qb4 (d := default) hj)
    intro h3
    generalize (((p.Funcs.getD i default).Blocks.getD k default).Stmts.getD j default) = s at *
    unfold Qaz at hs
    rw [h3] at hs
    cases ht : s.Targets with
    | nil => rw [ht] at hs; revert hs; simp
    | cons a l => simp
   ·rw [hj]; exact d0
  ·rw [hk]; simpa [show (default : QaM).Stmts = [] from rfl] using d0
 ·rw [hi]; simpa [show (default : Qbv).Blocks = [] from rfl, show (default : QaM).Stmts = [] from rfl] using d0
theorem Qph {p : Qaj} (hv : QcH p = true) : ∀ f ∈ p.Funcs, ∀ b ∈ f.Blocks, ∀ s ∈ b.Stmts, Qaz s = true := by
 rw [Qih] at hv
 simp only [Bool.and_eq_true, decide_eq_true_eq, List.all_eq_true] at hv
 exact fun f hf b hb s hs => ((hv.2 f hf).2.2 b hb).2.2 s hs
theorem QfY (t : List Int) (k n : Int) (hn : n <= 9223372036854775807) : 0 <= (QaK t k n).1 /\ ((QaK t k n).1 < n \/ (QaK t k n).1 = 0) := by
 unfold QaK
 by_cases h1 : n <= 1
 ·simp [h1]
 ·by_cases h2 : (t.length : Int) <= k
  ·simp [h1, h2]
  ·simp only [decide_eq_false h1, decide_eq_false h2, cond_false]
   have := Qjm (t.getD (k + 1 - 1).toNat 0) n (by omega)
   unfold QmD
   exact ⟨this.1, .inl this.2⟩
theorem Qnn (t : List Int) (i : Int) : Qbc (Qci t i).1 = true := by
 unfold Qci
 have h := QfY t i 4 (by omega)
 dsimp only
 generalize (QaK t i 4).1 = x at h
 have : x = 0 \/ x = 1 \/ x = 2 \/ x = 3 := by omega
 rcases this with h | h | h | h <;> subst h <;> decide +kernel
theorem Qnq (t : List Int) (i : Int) : (Qci t i).1 ∈ N4 := by
 unfold Qci N4
 have h := QfY t i 4 (by omega)
 dsimp only
 generalize (QaK t i 4).1 = x at h
 have : x = 0 \/ x = 1 \/ x = 2 \/ x = 3 := by omega
 rcases this with h | h | h | h <;> subst h <;> simp
theorem Qq5 (t : List Int) (i n : Int) : QS 3 2 (QeX t i n).1 = true := by
 unfold QeX
 dsimp only
 simp only [Bool.cond_eq_ite]
 repeat' split
 all_goals (unfold QS; simp)
 all_goals omega
theorem Qom {x : Int} (h : 0 <= x /\ x < 3) : Qbc (Qgp x) = true /\ Qgp x = bNm x := by
 have : x = 0 \/ x = 1 \/ x = 2 := by omega
 rcases this with h | h | h <;> subst h <;> exact ⟨by decide +kernel, rfl⟩
theorem QiA (t : List Int) (n : Int) : ∀ (r : Nat) (i : Int) (b : List Qax) (k : Int), b.all (QS 3 2) = true -> (QbK t n r i b k).2.all (QS 3 2) = true
 | 0, i, b, k, h => by rw [QbK]; exact h
 | r + 1, i, b, k, h => by
  rw [QbK]
  refine QiA t n r _ _ _ ?_
  rw [List.all_append, h, List.all_cons, Qq5]; rfl
theorem Qgo (t : List Int) (n : Int) : ∀ (r : Nat) (i : Int) (b : List Qax) (k : Int), (QbK t n r i b k).2.length = b.length + r
 | 0, i, b, k => by rw [QbK]; rfl
 | r + 1, i, b, k => by
  rw [QbK]
  rw [Qgo t n r, List.length_append]; simp; omega
theorem Qiq (t : List Int) (n m : Int) : ∀ (r : Nat) (i : Int) (b : List QaM) (k : Int), b.all (QB 3 2) = true /\ b.all QL = true -> ((Qa0 t n m r i b k).2.all (QB 3 2) = true /\ (Qa0 t n m r i b k).2.all QL = true) /\ (Qa0 t n m r i b k).2.length = b.length + r
 | 0, i, b, k, h => by rw [Qa0]; exact ⟨h, rfl⟩
 | r + 1, i, b, k, h => by
  rw [Qa0]
  have h2 := QiA t n (((QaK t i 4).1 : Int).toNat) (QaK t i 4).2 [] (QaK t i 4).1 rfl
  have h3 := Qgo t n (((QaK t i 4).1 : Int).toNat) (QaK t i 4).2 [] (QaK t i 4).1
  have hn := QfY t i 4 (by omega)
  dsimp only
  generalize QbK t n (((QaK t i 4).1 : Int).toNat) (QaK t i 4).2 [] (QaK t i 4).1 = R at h2 h3
  obtain ⟨o0, o1⟩ := R
  dsimp only at h2 h3 ⊢
  have step : ∀ (i' : Int) (nm : Str) (s : Qax), QS 3 2 s = true -> ((Qa0 t n m r i' (b ++ [QaM.mk nm (o1 ++ [s])]) (k + 1)).2.all (QB 3 2) = true /\ (Qa0 t n m r i' (b ++ [QaM.mk nm (o1 ++ [s])]) (k + 1)).2.all QL = true) /\ (Qa0 t n m r i' (b ++ [QaM.mk nm (o1 ++ [s])]) (k + 1)).2.length = b.length + (r + 1) := fun i' nm s hs => by
   obtain ⟨a1, a2⟩ := Qiq t n m r i' (b ++ [QaM.mk nm (o1 ++ [s])]) (k + 1) ⟨by
    rw [List.all_append, h.1, List.all_cons]
    unfold QB
    dsimp only
    rw [List.all_append, h2, List.all_cons, hs]; rfl, by
    rw [List.all_append, h.2, List.all_cons]
    unfold QL
    dsimp only
    rw [List.length_append, h3, decide_eq_true (by simp; omega)]; rfl⟩
   exact ⟨a1, by rw [a2]; simp; omega⟩
  simp only [Bool.cond_eq_ite]
  repeat' split
  all_goals exact step _ _ _ (by unfold QS; simp)
theorem Qiu (t : List Int) (n : Int) : ∀ (r : Nat) (i : Int) (b : List Qbv) (k : Int), (b.all (QF 3 2) = true /\ ∀ f ∈ b, SpF f) -> ((QbA t n r i b k).2.all (QF 3 2) = true /\ ∀ f ∈ (QbA t n r i b k).2, SpF f) /\ (QbA t n r i b k).2.length = b.length + r
 | 0, i, b, k, h => by rw [QbA]; exact ⟨h, rfl⟩
 | r + 1, i, b, k, h => by
  rw [QbA]
  have hn := QfY t i 3 (by omega)
  have h2 := Qiq t n (1 + (QaK t i 3).1) ((((1 + (QaK t i 3).1) : Int) - 0).toNat) (QaK t i 3).2 [] 0 ⟨rfl, rfl⟩
  dsimp only
  generalize Qa0 t n (1 + (QaK t i 3).1) ((((1 + (QaK t i 3).1) : Int) - 0).toNat) (QaK t i 3).2 [] 0 = R at h2
  obtain ⟨o0, o1⟩ := R
  dsimp only at h2 ⊢
  obtain ⟨a1, a2⟩ := Qiu t n r o0 (b ++ [Qbv.mk ([(Str.mk [109]), (Str.mk [102]), (Str.mk [103])].getD (k : Int).toNat default) o1]) (k + 1) ⟨by
   rw [List.all_append, h.1, List.all_cons]; unfold QF; dsimp only; rw [h2.1.1]; rfl, fun f hf => by
   rcases List.mem_append.1 hf with h' | h'
   ·exact h.2 f h'
   ·rw [List.mem_singleton] at h'
    subst h'
    have := h2.2
    refine ⟨?_, h2.1.2⟩
    dsimp only
    rw [this]; simp; omega⟩
  exact ⟨a1, by rw [a2]; simp; omega⟩
theorem QhB {t : List Int} {i : Int} {r : Qaj × Int} (h : Qd4 t i = r) : SpP r.1 := by
 subst h
 unfold Qd4
 have hn := QfY t i 3 (by omega)
 have h2 := Qiu t (1 + (QaK t i 3).1) ((((1 + (QaK t i 3).1) : Int) - 0).toNat) (QaK t i 3).2 [] 0 ⟨rfl, fun f h => by cases h⟩
 dsimp only
 generalize QbA t (1 + (QaK t i 3).1) ((((1 + (QaK t i 3).1) : Int) - 0).toNat) (QaK t i 3).2 [] 0 = R at h2
 obtain ⟨o0, o1⟩ := R
 dsimp only at h2 ⊢
 exact ⟨by show 1 <= o1.length /\ o1.length <= 3; rw [h2.2]; simp; omega, h2.1.2, h2.1.1⟩
theorem Qir {t : List Int} {i : Int} {r : Qaj × Int} (h : Qd4 t i = r) : PSm (Qaj.mk r.1.Funcs) = true := Qlj (QhB h)
theorem QmG (c : Int) : Qd3 c = (QbQ c && !(c == 95)) := by
 by_cases h : c = 95
 ·subst h; decide
 ·have h7 : (c == 95) = false := by simpa using h
  unfold Qd3 QbQ
  rw [h7]
  generalize decide (97 <= c) = a1
  generalize decide (c <= 122) = a2
  generalize decide (65 <= c) = a3
  generalize decide (c <= 90) = a4
  all_goals (cases a1 <;> cases a2 <;> cases a3 <;> cases a4 <;> rfl)
theorem Qlh (s : List Str) (v : Str) : Qdh s v = s.any (fun k => k == v) := by
 have := QmH (fun r i => Qct s v r i) (fun i => v == (s.getD i.toNat default)) () (fun _ => rfl) (fun _ _ => rfl) ((((s.length : Nat) : Int) - 0).toNat) 0
 unfold Qdh Qd5
 rw [Bool.eq_iff_iff, List.any_eq_true]
 rcases this with ⟨j, e, j1, j2, j3⟩ | ⟨e, h⟩
 ·rw [e]; exact ⟨fun _ => ⟨s.getD j.toNat default, Qb4 (by omega), by rw [beq_iff_eq] at j3 ⊢; exact j3.symm⟩, fun _ => by simpa using j1⟩
 ·rw [e]
  refine ⟨fun h => by simp at h, ?_⟩
  rintro ⟨x, hx, hfx⟩
  obtain ⟨j, j1, j2, j3⟩ := (Qjo (d := default)).1 hx
  have := h j j1 (by omega)
  rw [j3] at this; rw [beq_iff_eq] at hfx; rw [hfx] at this; simp at this
theorem Qpw (c : Int) : QeO c = (QbQ c || Qd1 c) := by
 unfold QeO Qd3 Qhl QbQ Qd1
 dsimp only
 generalize decide (97 <= c) = a1
 generalize decide (c <= 122) = a2
 generalize decide (65 <= c) = a3
 generalize decide (c <= 90) = a4
 generalize decide (48 <= c) = a5
 generalize decide (c <= 57) = a6
 generalize (c == 95) = a7
 all_goals (cases a1 <;> cases a2 <;> cases a3 <;> cases a4 <;> cases a5 <;> cases a6 <;> cases a7 <;> rfl)
theorem QpR (s : Str) : Qbc s = (decide (1 <= s.b.length /\ s.b.length <= 16) && ((QbQ ((s.b.getD 0 0).toNat : Int) && !(((s.b.getD 0 0).toNat : Int) == 95)) && ((s.b.all fun c => QeO (c.toNat : Int)) && !(kwL.any fun k => k == s)))) := by
 have l0 : QcG s ((s.b.length : Int) - 0).toNat 0 = if (s.b.all fun c => QeO (c.toNat : Int)) = true then .brk () else .ret false :=
  QoH (QcG s) (fun i => by rw [QcG]) fun r i h0 h1 => by
   rw [QcG, show (default : UInt8) = 0 from rfl, Qpw]
   dsimp only
   all_goals (cases QbQ ((s.b.getD (i : Int).toNat 0).toNat : Int) <;> cases Qd1 ((s.b.getD (i : Int).toNat 0).toNat : Int) <;> rfl)
 have l1 : Qda s ((Qco.length : Int) - 0).toNat 0 = if (Qco.all fun k => !(k == s)) = true then .brk () else .ret false :=
  QoH (Qda s) (fun i => by rw [Qda]) fun r i h0 h1 => by
   rw [Qda]
   all_goals (cases Qco.getD (i : Int).toNat default == s <;> rfl)
 have e : (Qco.all fun k => !(k == s)) = !(kwL.any fun k => k == s) := by
  rw [List.any_eq_not_all_not, Bool.not_not]; rfl
 unfold Qbc
 dsimp only
 rw [l0, l1, e, show (0 : Int).toNat = 0 from rfl]
 by_cases h0 : ((s.b.length : Nat) : Int) = 0
 ·have : ¬ (1 <= s.b.length /\ s.b.length <= 16) := by omega
  simp only [h0, this, decide_false, Bool.false_and]; rfl
 by_cases h1 : 16 < ((s.b.length : Nat) : Int)
 ·have : ¬ (1 <= s.b.length /\ s.b.length <= 16) := by omega
  simp only [h1, this, decide_false, decide_true, Bool.false_and, cond_true]
  all_goals (cases ((s.b.length : Nat) : Int) == 0 <;> rfl)
 have h2 : (1 <= s.b.length /\ s.b.length <= 16) := by omega
 have h3 : (((s.b.length : Nat) : Int) == 0) = false := by simpa using h0
 simp only [h3, h1, h2, decide_true, decide_false, cond_false, Bool.true_and, and_self]
 all_goals (cases QbQ ((s.b.getD 0 0).toNat : Int) <;> cases (((s.b.getD 0 0).toNat : Int) == 95) <;> cases (s.b.all fun c => QeO (c.toNat : Int)) <;> cases (kwL.any fun k => k == s) <;> rfl)
theorem Qk8 (s : Str) : (Qfc s 0 == ((s.b.length : Nat) : Int)) = s.b.all (fun c => QeO (c.toNat : Int)) := by
 have key : ∀ (suf pre : List UInt8), s.b = pre ++ suf -> (Qc6 s suf.length (pre.length : Int) == ((s.b.length : Nat) : Int)) = suf.all (fun c => QeO (c.toNat : Int)) := fun suf => by
  induction suf with
  | nil => intro pre h; rw [List.length_nil, Qc6, h, List.append_nil, List.all_nil]; simp
  | cons a suf ih =>
   intro pre h
   have hg : s.b.getD ((pre.length : Int)).toNat 0 = a := by rw [h]; simp
   have hlen : s.b.length = pre.length + (suf.length + 1) := by rw [h]; simp
   rw [List.length_cons, Qc6, hg, List.all_cons]
   try dsimp only
   cases hp : QeO (a.toNat : Int)
   ·rw [cond_false, Bool.false_and, hlen]; simp; omega
   ·rw [cond_true, Bool.true_and]
    have := ih (pre ++ [a]) (by rw [h]; simp)
    rw [List.length_append, List.length_cons, List.length_nil, Int.natCast_add] at this
    exact this
 have := key s.b [] rfl
 unfold Qfc
 rw [show (((s.b.length : Nat) : Int) - 0).toNat = s.b.length by omega]
 exact this
theorem Qkx (s : Str) : Qcm s = Qbc s := by
 rw [QpR]
 unfold Qcm
 dsimp only
 rw [Qk8, QmG, Qlh, show (0 : Int).toNat = 0 from rfl]
 by_cases h0 : s = Str.mk []
 ·subst h0; rfl
 have hs : (s == Str.mk []) = false := by simpa using h0
 have hp := QmB hs
 rw [hs, cond_false]
 by_cases h1 : 16 < ((s.b.length : Nat) : Int)
 ·have : ¬ (1 <= s.b.length /\ s.b.length <= 16) := by omega
  simp only [h1, this, decide_false, decide_true, Bool.false_and, cond_true]
 have h2 : (1 <= s.b.length /\ s.b.length <= 16) := by omega
 simp only [h1, h2, decide_true, decide_false, cond_false, Bool.true_and, and_self]
 all_goals (cases QbQ ((s.b.getD 0 0).toNat : Int) <;> cases (((s.b.getD 0 0).toNat : Int) == 95) <;> cases (s.b.all fun c => QeO (c.toNat : Int)) <;> cases (kwL.any fun k => k == s) <;> rfl)
theorem Qmb : Qcm = Qbc := funext Qkx
theorem QpP (s : List Qax) (fp : Qax -> Bool) : Qcq s fp = s.any fp := by
 have := QmH (fun r i => Qb0 s fp r i) (fun i => fp (s.getD i.toNat default)) () (fun _ => rfl) (fun _ _ => rfl) ((((s.length : Nat) : Int) - 0).toNat) 0
 unfold Qcq Qdu
 rw [Bool.eq_iff_iff, List.any_eq_true]
 rcases this with ⟨j, e, j1, j2, j3⟩ | ⟨e, h⟩
 ·rw [e]; exact ⟨fun _ => ⟨_, Qb4 (by omega), j3⟩, fun _ => by simpa using j1⟩
 ·rw [e]
  refine ⟨fun h => by simp at h, ?_⟩
  rintro ⟨x, hx, hfx⟩
  obtain ⟨j, j1, j2, j3⟩ := (Qjo (d := default)).1 hx
  have := h j j1 (by omega)
  rw [j3] at this; rw [hfx] at this; cases this
theorem Qnz (s : List Str) (fp : Str -> Bool) : Qat s fp = s.any fp := by
 have := QmH (fun r i => QbN s fp r i) (fun i => fp (s.getD i.toNat default)) () (fun _ => rfl) (fun _ _ => rfl) ((((s.length : Nat) : Int) - 0).toNat) 0
 unfold Qat QcW
 rw [Bool.eq_iff_iff, List.any_eq_true]
 rcases this with ⟨j, e, j1, j2, j3⟩ | ⟨e, h⟩
 ·rw [e]; exact ⟨fun _ => ⟨_, Qb4 (by omega), j3⟩, fun _ => by simpa using j1⟩
 ·rw [e]
  refine ⟨fun h => by simp at h, ?_⟩
  rintro ⟨x, hx, hfx⟩
  obtain ⟨j, j1, j2, j3⟩ := (Qjo (d := default)).1 hx
  have := h j j1 (by omega)
  rw [j3] at this; rw [hfx] at this; cases this
theorem Qoo (l : List Str) : (!(Qat l (fun x => Qbl x))) = l.all Qbc := by
 rw [Qnz, List.all_eq_not_any_not]
 congr 2
 funext x
 unfold Qbl
 dsimp only
 rw [Qkx]
theorem QpN {s : Qax} (h : Qbf s = true) : s.Uses.length <= 4 /\ s.Targets.length <= 2 := by
  unfold Qbf at h
  dsimp only at h
  generalize (Qat (Qa1 s.Uses ++ s.Targets ++ [s.Def]) fun x => Qbl x) = A at h
  generalize (Qat (Qa1 s.Uses ++ s.Targets) fun x => Qbl x) = B at h
  generalize s.Uses.length = U at *
  generalize s.Targets.length = V at *
  have kf : ∀ (c x : Bool), (bif c then x else false) = (c && x) := fun c x => by cases c <;> rfl
  simp only [kf] at h
  have kt : ∀ (c x y : Bool), (bif c then x else y) = true -> (c = true /\ x = true) \/ (c = false /\ y = true) := fun c x y h => by
    cases c
    . exact .inr ⟨rfl, h⟩
    . exact .inl ⟨rfl, h⟩
  have kn : ∀ {P : Prop} {c x y : Bool}, (bif c then x else y) = true -> (x = true -> P) -> (y = true -> P) -> P := fun {P c x y} h k1 k2 => by
    cases c
    . exact k2 h
    . exact k1 h
  iterate 9
    first
    | (refine kn h (fun h => ?_) (fun h => ?_)
       . simp only [Bool.and_eq_true, beq_iff_eq, decide_eq_true_eq] at h; omega)
    | skip
  all_goals (simp only [Bool.and_eq_true, beq_iff_eq, decide_eq_true_eq] at h; omega)
theorem Qok (s : Qax) : Qbf s = Qaz s := by
 obtain ⟨o, d, us, ts⟩ := s
 unfold Qbf Qaz Qa1
 dsimp only
 rw [QdU, QdU]
 simp only [Qoo, List.all_append, List.all_cons, List.all_nil, Bool.and_true]
 generalize us.all Qbc = U
 generalize ts.all Qbc = T
 generalize Qbc d = D
 generalize (d == Str.mk []) = E
 generalize us.length = u
 generalize ts.length = t
 have kf : ∀ (c x : Bool), (bif c then x else false) = (c && x) := fun c x => by cases c <;> rfl
 have kn : ∀ (c x : Bool), (bif !c then false else x) = (c && x) := fun c x => by cases c <;> rfl
 simp only [kf, kn]
 have fin : ∀ {a b : Bool}, (a = true ↔ b = true) -> a = b := fun h => Bool.eq_iff_iff.2 h
 by_cases h1 : o = 1
 ·subst h1
  cases U <;> cases T <;> cases D <;> refine fin ?_ <;> simp <;> omega
 by_cases h2 : o = 2
 ·subst h2
  cases U <;> cases T <;> cases E <;> refine fin ?_ <;> simp <;> omega
 by_cases h3 : o = 3
 ·subst h3
  cases U <;> cases T <;> cases E <;> refine fin ?_ <;> simp <;> omega
 by_cases h4 : o = 4
 ·subst h4
  cases U <;> cases T <;> cases D <;> refine fin ?_ <;> simp <;> omega
 by_cases h5 : o = 5
 ·subst h5
  cases U <;> cases T <;> cases E <;> refine fin ?_ <;> simp <;> omega
 by_cases h6 : o = 6
 ·subst h6
  cases U <;> cases T <;> cases D <;> refine fin ?_ <;> simp <;> omega
 by_cases h7 : o = 7
 ·subst h7
  cases U <;> cases T <;> cases E <;> refine fin ?_ <;> simp <;> omega
 by_cases h8 : o = 8
 ·subst h8
  cases U <;> cases T <;> cases E <;> refine fin ?_ <;> simp <;> omega
 by_cases h9 : o = 9
 ·subst h9
  cases U <;> cases T <;> cases E <;> refine fin ?_ <;> simp <;> omega
 have f : ∀ {k : Int}, ¬ o = k -> (o == k) = false := fun h => by simpa using h
 simp only [f h1, f h2, f h3, f h4, f h5, f h6, f h7, f h8, f h9, cond_false, Bool.false_and, Bool.and_false]
theorem QmE (p : Qaj) : Qcr p = (decide (1 <= p.Funcs.length /\ p.Funcs.length <= 8) && p.Funcs.all fun f => Qcm f.Name && (decide (1 <= f.Blocks.length /\ f.Blocks.length <= 16) && f.Blocks.all fun b => Qcm b.Name && (decide (1 <= b.Stmts.length /\ b.Stmts.length <= 32) && b.Stmts.all Qbf))) := by
 have l2 : ∀ (b : List Qax), Qcq b (fun x => QfS x) = !(b.all Qbf) := fun b => by
  rw [QpP, List.all_eq_not_any_not, Bool.not_not]
  congr 1
 have l1 : ∀ (f : List QaM), QcS f ((f.length : Int) - 0).toNat 0 = if (f.all fun b => Qcm b.Name && (decide (1 <= b.Stmts.length /\ b.Stmts.length <= 32) && b.Stmts.all Qbf)) = true then .brk () else .ret false := fun f =>
  QoH (QcS f) (fun i => by rw [QcS]) fun r i h0 h1 => by
   rw [QcS]
   generalize hb : f.getD i.toNat default = b
   have e := l2 b.Stmts
   simp only [Bool.cond_eq_ite]
   cases hN : Qcm b.Name
   ·simp
   by_cases h1 : ((b.Stmts.length : Nat) : Int) < 1
   ·have : ¬ (1 <= b.Stmts.length /\ b.Stmts.length <= 32) := by omega
    simp [h1, this]
   by_cases h2 : (32 : Int) < ((b.Stmts.length : Nat) : Int)
   ·have : ¬ (1 <= b.Stmts.length /\ b.Stmts.length <= 32) := by omega
    simp [h1, h2, this]
   have h3 : (1 <= b.Stmts.length /\ b.Stmts.length <= 32) := by omega
   rw [e]
   simp only [h1, h2, decide_false, h3, decide_true, Bool.not_true, Bool.true_and, and_self, reduceIte, Bool.false_eq_true]
   all_goals (cases b.Stmts.all Qbf <;> rfl)
 have l0 : Qcb p ((p.Funcs.length : Int) - 0).toNat 0 = if (p.Funcs.all fun f => Qcm f.Name && (decide (1 <= f.Blocks.length /\ f.Blocks.length <= 16) && f.Blocks.all fun b => Qcm b.Name && (decide (1 <= b.Stmts.length /\ b.Stmts.length <= 32) && b.Stmts.all Qbf))) = true then .brk () else .ret false :=
  QoH (Qcb p) (fun i => by rw [Qcb]) fun r i h0 h1 => by
   rw [Qcb]
   generalize hb : p.Funcs.getD i.toNat default = f
   have e := l1 f.Blocks
   simp only [Bool.cond_eq_ite]
   cases hN : Qcm f.Name
   ·simp
   by_cases h1 : ((f.Blocks.length : Nat) : Int) < 1
   ·have : ¬ (1 <= f.Blocks.length /\ f.Blocks.length <= 16) := by omega
    simp [h1, this]
   by_cases h2 : (16 : Int) < ((f.Blocks.length : Nat) : Int)
   ·have : ¬ (1 <= f.Blocks.length /\ f.Blocks.length <= 16) := by omega
    simp [h1, h2, this]
   have h3 : (1 <= f.Blocks.length /\ f.Blocks.length <= 16) := by omega
   rw [e]
   simp only [h1, h2, decide_false, h3, decide_true, Bool.not_true, Bool.true_and, and_self, reduceIte, Bool.false_eq_true]
   all_goals (generalize (f.Blocks.all _) = q; cases q <;> rfl)
 rw [Qcr]
 by_cases h1 : ((p.Funcs.length : Nat) : Int) < 1
 ·have : ¬ (1 <= p.Funcs.length /\ p.Funcs.length <= 8) := by omega
  simp [h1, this]
 by_cases h2 : (8 : Int) < ((p.Funcs.length : Nat) : Int)
 ·have : ¬ (1 <= p.Funcs.length /\ p.Funcs.length <= 8) := by omega
  simp [h1, h2, this]
 have h3 : (1 <= p.Funcs.length /\ p.Funcs.length <= 8) := by omega
 rw [l0]
 simp only [h1, h2, h3, decide_false, decide_true, cond_false, Bool.true_and, and_self]
 all_goals (generalize (p.Funcs.all _) = q; cases q <;> rfl)
theorem QkP {p : Qaj} (h : Qcr p = true) : p.Funcs.length <= 8 /\ ∀ i : Nat, (p.Funcs.getD i default).Blocks.length <= 16 /\ ∀ k : Nat, ((p.Funcs.getD i default).Blocks.getD k default).Stmts.length <= 32 /\ ∀ j : Nat, (((p.Funcs.getD i default).Blocks.getD k default).Stmts.getD j default).Uses.length <= 4 /\ (((p.Funcs.getD i default).Blocks.getD k default).Stmts.getD j default).Targets.length <= 2 := by
 rw [QmE] at h
 simp only [Bool.and_eq_true, decide_eq_true_eq, List.all_eq_true] at h
 have gm : ∀ {α : Type} [Inhabited α] (l : List α) (i : Nat), l.getD i default ∈ l \/ l.getD i default = default := fun l i => by
  by_cases hi : i < l.length
  ·left; rw [List.getD_eq_getElem?_getD, List.getElem?_eq_getElem hi]; exact List.getElem_mem hi
  ·right; rw [List.getD_eq_getElem?_getD, List.getElem?_eq_none (by omega)]; rfl
 refine ⟨h.1.2, fun i => ?_⟩
 rcases gm p.Funcs i with hf | hf
 ·have hF := (h.2 _ hf).2
  refine ⟨hF.1.2, fun k => ?_⟩
  rcases gm (p.Funcs.getD i default).Blocks k with hb | hb
  ·have hB := (hF.2 _ hb).2
   refine ⟨hB.1.2, fun j => ?_⟩
   rcases gm ((p.Funcs.getD i default).Blocks.getD k default).Stmts j with hs | hs
   ·exact QpN (hB.2 _ hs)
   ·rw [hs]; decide
  ·rw [hb]
   exact ⟨by decide, fun j => by rw [show (default : QaM).Stmts = [] from rfl]; simp; decide⟩
 ·rw [hf]
  refine ⟨by decide, fun k => ?_⟩
  rw [show (default : Qbv).Blocks = [] from rfl]
  exact ⟨by simp; decide, fun j => by simp [show (default : QaM).Stmts = [] from rfl]; decide⟩
theorem QhQ (p : Qaj) : Qcr p = QcH p := by
 rw [QmE, Qih, Qmb, show Qbf = Qaz from funext Qok]
theorem QoD (l : List Qbv) (nm : Qbv -> Str) (nn : Int -> Str) (h3 : l.length <= 3) (hn : ∀ j : Nat, j < l.length -> nm (l.getD j default) = nn (j : Int)) (inj : ∀ {i j : Int}, 0 <= i /\ i < 3 -> 0 <= j /\ j < 3 -> nn i = nn j -> i = j) : ∀ (r : Nat) (m : List (Str × Bool)) (v : Int), 0 <= v -> v + (r : Int) = (l.length : Int) -> (∀ s, (Qea m s).getD false = true ↔ ∃ j : Int, 0 <= j /\ j < v /\ s = nn j) ->
  (Qa5 l nm r m (-1) v).2 = -1 /\ ∀ s, (Qea (Qa5 l nm r m (-1) v).1 s).getD false = true ↔ ∃ j : Int, 0 <= j /\ j < (l.length : Int) /\ s = nn j
 | 0, m, v, h0, h1, h => by
  rw [Qa5]
  refine ⟨rfl, fun s => ?_⟩
  rw [h, show v = (l.length : Int) by omega]
 | r + 1, m, v, h0, h1, h => by
  rw [Qa5]
  have e : nm (l.getD v.toNat default) = nn v := by rw [hn _ (by omega), show ((v.toNat : Nat) : Int) = v by omega]
  rw [e]
  have hf : (Qea m (nn v)).getD false = false := by
   rw [Bool.eq_false_iff]
   intro hc
   obtain ⟨j, j1, j2, j3⟩ := (h _).1 hc
   have := inj (by omega) (by omega) j3
   omega
  rw [hf, cond_false]
  refine QoD l nm nn h3 hn inj r _ _ (by omega) (by omega) fun s => ?_
  rw [Qfm]
  by_cases es : nn v = s
  ·rw [if_pos es]
   exact ⟨fun _ => ⟨v, h0, by omega, es.symm⟩, fun _ => rfl⟩
  ·rw [if_neg es, h]
   constructor
   ·rintro ⟨j, j1, j2, j3⟩; exact ⟨j, j1, by omega, j3⟩
   ·rintro ⟨j, j1, j2, j3⟩
    refine ⟨j, j1, ?_, j3⟩
    rcases Int.lt_or_le j v with h' | h'
    ·exact h'
    ·exact absurd (by rw [show v = j by omega]; exact j3.symm) es
theorem Qpm (l : List QaM) (nm : QaM -> Str) (nn : Int -> Str) (h3 : l.length <= 3) (hn : ∀ j : Nat, j < l.length -> nm (l.getD j default) = nn (j : Int)) (inj : ∀ {i j : Int}, 0 <= i /\ i < 3 -> 0 <= j /\ j < 3 -> nn i = nn j -> i = j) : ∀ (r : Nat) (m : List (Str × Bool)) (v : Int), 0 <= v -> v + (r : Int) = (l.length : Int) -> (∀ s, (Qea m s).getD false = true ↔ ∃ j : Int, 0 <= j /\ j < v /\ s = nn j) ->
  (Qa2 l nm r m (-1) v).2 = -1 /\ ∀ s, (Qea (Qa2 l nm r m (-1) v).1 s).getD false = true ↔ ∃ j : Int, 0 <= j /\ j < (l.length : Int) /\ s = nn j
 | 0, m, v, h0, h1, h => by
  rw [Qa2]
  refine ⟨rfl, fun s => ?_⟩
  rw [h, show v = (l.length : Int) by omega]
 | r + 1, m, v, h0, h1, h => by
  rw [Qa2]
  have e : nm (l.getD v.toNat default) = nn v := by rw [hn _ (by omega), show ((v.toNat : Nat) : Int) = v by omega]
  rw [e]
  have hf : (Qea m (nn v)).getD false = false := by
   rw [Bool.eq_false_iff]
   intro hc
   obtain ⟨j, j1, j2, j3⟩ := (h _).1 hc
   have := inj (by omega) (by omega) j3
   omega
  rw [hf, cond_false]
  refine Qpm l nm nn h3 hn inj r _ _ (by omega) (by omega) fun s => ?_
  rw [Qfm]
  by_cases es : nn v = s
  ·rw [if_pos es]
   exact ⟨fun _ => ⟨v, h0, by omega, es.symm⟩, fun _ => rfl⟩
  ·rw [if_neg es, h]
   constructor
   ·rintro ⟨j, j1, j2, j3⟩; exact ⟨j, j1, by omega, j3⟩
   ·rintro ⟨j, j1, j2, j3⟩
    refine ⟨j, j1, ?_, j3⟩
    rcases Int.lt_or_le j v with h' | h'
    ·exact h'
    ·exact absurd (by rw [show v = j by omega]; exact j3.symm) es
def iS (nf : Int) (s : Qax) : Prop := (Qaz s = true /\ vS s) /\ Qc5 s = false /\ (s.Op = 3 -> ∃ j, 0 <= j /\ j < nf /\ s.Targets = [fNm j]) /\ (s.Op ≠ 3 -> s.Targets = [])
def lS (nb : Int) (s : Qax) : Prop := (Qaz s = true /\ vS s) /\ Qc5 s = true /\ s.Op ≠ 3 /\ ∀ t ∈ s.Targets, ∃ j, 0 <= j /\ j < nb /\ t = bNm j
def DrB (nf nb k : Int) (b : QaM) : Prop := b.Name = bNm k /\ ∃ a z, b.Stmts = a ++ [z] /\ a.length <= 3 /\ (∀ s ∈ a, iS nf s) /\ lS nb z
def DrF (nf i : Int) (f : Qbv) : Prop := f.Name = fNm i /\ (1 <= f.Blocks.length /\ f.Blocks.length <= 3) /\ ∀ k : Nat, k < f.Blocks.length -> DrB nf (f.Blocks.length : Int) (k : Int) (f.Blocks.getD k default)
def DrP (p : Qaj) : Prop := (1 <= p.Funcs.length /\ p.Funcs.length <= 3) /\ ∀ i : Nat, i < p.Funcs.length -> DrF (p.Funcs.length : Int) (i : Int) (p.Funcs.getD i default)
theorem Qqg (t : List Int) (i n : Int) (hn : 1 <= n /\ n <= 3) : iS n (QeX t i n).1 := by
 have nm := Qnn t
 have ni := Qnq t
 have k0 : ∀ (o : Int) (d : Str) (us : List Str), Qc5 (Qax.mk o d us []) = false -> o ≠ 3 -> (Qaz (Qax.mk o d us []) = true /\ vS (Qax.mk o d us [])) -> iS n (Qax.mk o d us []) := fun o d us h1 h2 h3 => ⟨h3, h1, fun h => absurd h h2, fun _ => rfl⟩
 have kc : ∀ i', iS n (Qax.mk 3 (Str.mk []) [] [fNm (QaK t i' n).1]) := fun i' => by
  have h := QfY t i' n (by omega)
  have h3 : 0 <= (QaK t i' n).1 /\ (QaK t i' n).1 < 3 := by omega
  refine ⟨⟨?_, .inl rfl, fun u hu => (by cases hu), by simp⟩, rfl, fun _ => ⟨_, h.1, by omega, rfl⟩, fun h => absurd rfl h⟩
  unfold Qaz
  dsimp only
  rw [QdU, QdU, List.all_cons, QoO h3]
  rfl
 unfold QeX
 dsimp only
 simp only [Bool.cond_eq_ite]
 have u2 : ∀ (i1 i2 : Int) (m : Nat), 1 <= m -> Qaz (Qax.mk 2 (Str.mk []) (([(Qci t i1).1, (Qci t i2).1].take m).drop 0) []) = true := fun i1 i2 m hm => by
  rcases m with _ | _ | m
  ·omega
  ·unfold Qaz; dsimp only; rw [QdU, QdU]; simp [nm]
  ·unfold Qaz; dsimp only; rw [QdU, QdU]; simp [nm]
 have u1 : ∀ (i0 i1 i2 i3 : Int) (m : Nat), Qaz (Qax.mk 1 (Qci t i0).1 (([(Qci t i1).1, (Qci t i2).1, (Qci t i3).1].take m).drop 0) []) = true := fun i0 i1 i2 i3 m => by
  rcases m with _ | _ | _ | m <;> (unfold Qaz; dsimp only; rw [QdU, QdU]; simp [nm])
 repeat' split
 ·refine k0 _ _ _ rfl (by decide) ⟨u2 _ _ _ ?_, .inl rfl, fun u hu => ?_, by simp; omega⟩
  rotate_left
  ·rw [List.drop_zero] at hu
   have := List.mem_of_mem_take hu
   simp only [List.mem_cons, List.not_mem_nil, or_false] at this
   rcases this with e | e <;> rw [e] <;> exact ni _
  have := QfY t (Qci t (Qci t (QaK t i 9).2).2).2 2 (by omega)
  omega
 ·exact k0 _ _ _ rfl (by decide) ⟨by unfold Qaz; dsimp only; rw [QdU, QdU]; simp [nm], by first | exact .inl rfl | exact .inr (ni _), fun u hu => (by first | (cases hu; done) | (rw [List.mem_singleton.1 hu]; exact ni _)), by simp⟩
 ·exact k0 _ _ _ rfl (by decide) ⟨by unfold Qaz; dsimp only; rw [QdU, QdU]; simp [nm], by first | exact .inl rfl | exact .inr (ni _), fun u hu => (by first | (cases hu; done) | (rw [List.mem_singleton.1 hu]; exact ni _)), by simp⟩
 ·exact k0 _ _ _ rfl (by decide) ⟨by unfold Qaz; dsimp only; rw [QdU, QdU]; simp [nm], by first | exact .inl rfl | exact .inr (ni _), fun u hu => (by first | (cases hu; done) | (rw [List.mem_singleton.1 hu]; exact ni _)), by simp⟩
 ·exact kc _
 ·exact kc _
 ·refine k0 _ _ _ rfl (by decide) ⟨u1 _ _ _ _ _, .inr (ni _), fun u hu => ?_, by simp; omega⟩
  rw [List.drop_zero] at hu
  have := List.mem_of_mem_take hu
  simp only [List.mem_cons, List.not_mem_nil, or_false] at this
  rcases this with e | e | e <;> rw [e] <;> exact ni _
theorem Qrx (t : List Int) (n : Int) (hn : 1 <= n /\ n <= 3) : ∀ (r : Nat) (i : Int) (b : List Qax) (k : Int), (∀ s ∈ b, iS n s) -> ∀ s ∈ (QbK t n r i b k).2, iS n s
 | 0, i, b, k, h => by rw [QbK]; exact h
 | r + 1, i, b, k, h => by
  rw [QbK]
  refine Qrx t n hn r _ _ _ fun s hs => ?_
  rcases List.mem_append.1 hs with h' | h'
  ·exact h s h'
  ·rw [List.mem_singleton.1 h']; exact Qqg t i n hn
theorem QrM (t : List Int) (n m : Int) (hn : 1 <= n /\ n <= 3) (hm : 1 <= m /\ m <= 3) : ∀ (r : Nat) (i : Int) (b : List QaM) (k : Int), (b.length : Int) = k -> k + (r : Int) = m -> (∀ j : Nat, j < b.length -> DrB n m (j : Int) (b.getD j default)) -> (∀ j : Nat, j < (Qa0 t n m r i b k).2.length -> DrB n m (j : Int) ((Qa0 t n m r i b k).2.getD j default)) /\ (Qa0 t n m r i b k).2.length = b.length + r
 | 0, i, b, k, hk, hr, h => by rw [Qa0]; exact ⟨h, rfl⟩
 | r + 1, i, b, k, hk, hr, h => by
  rw [Qa0]
  have h2 := Qrx t n hn (((QaK t i 4).1 : Int).toNat) (QaK t i 4).2 [] (QaK t i 4).1 (fun s hs => by cases hs)
  have h3 := Qgo t n (((QaK t i 4).1 : Int).toNat) (QaK t i 4).2 [] (QaK t i 4).1
  have hx := QfY t i 4 (by omega)
  dsimp only
  generalize QbK t n (((QaK t i 4).1 : Int).toNat) (QaK t i 4).2 [] (QaK t i 4).1 = R at h2 h3
  obtain ⟨o0, o1⟩ := R
  dsimp only at h2 h3 ⊢
  have step : ∀ (i' : Int) (s : Qax), lS m s -> (∀ j : Nat, j < (Qa0 t n m r i' (b ++ [QaM.mk (bNm k) (o1 ++ [s])]) (k + 1)).2.length -> DrB n m (j : Int) ((Qa0 t n m r i' (b ++ [QaM.mk (bNm k) (o1 ++ [s])]) (k + 1)).2.getD j default)) /\ (Qa0 t n m r i' (b ++ [QaM.mk (bNm k) (o1 ++ [s])]) (k + 1)).2.length = b.length + (r + 1) := fun i' s hs => by
   obtain ⟨a1, a2⟩ := QrM t n m hn hm r i' (b ++ [QaM.mk (bNm k) (o1 ++ [s])]) (k + 1) (by rw [List.length_append]; simp; omega) (by omega) (fun j hj => by
    rw [List.length_append] at hj
    by_cases hjb : j < b.length
    ·rw [show (b ++ [QaM.mk (bNm k) (o1 ++ [s])]).getD j default = b.getD j default by rw [List.getD_eq_getElem?_getD, List.getElem?_append_left hjb, List.getD_eq_getElem?_getD]]
     exact h j hjb
    ·obtain rfl : j = b.length := by simp at hj; omega
     rw [show (b ++ [QaM.mk (bNm k) (o1 ++ [s])]).getD b.length default = QaM.mk (bNm k) (o1 ++ [s]) by simp, hk]
     exact ⟨rfl, o1, s, rfl, by rw [h3]; simp; omega, h2, hs⟩)
   exact ⟨a1, by rw [a2, List.length_append]; simp; omega⟩
  have fb : ∀ i', 0 <= (QaK t i' m).1 /\ (QaK t i' m).1 < m /\ Qbc (Qgp (QaK t i' m).1) = true /\ Qgp (QaK t i' m).1 = bNm (QaK t i' m).1 := fun i' => by
   have h := QfY t i' m (by omega)
   have := Qom (x := (QaK t i' m).1) ⟨h.1, by omega⟩
   exact ⟨h.1, by omega, this⟩
  have nm := Qnn t
  simp only [Bool.cond_eq_ite]
  repeat' split
  ·exact step _ _ ⟨⟨by decide +kernel, .inl rfl, fun u hu => (by cases hu), by simp⟩, rfl, by decide, fun t h => by cases h⟩
  ·refine step _ _ ⟨⟨?_, .inl rfl, fun u hu => (by cases hu), by simp⟩, rfl, (by show (7 : Int) ≠ 3; decide), fun t h => ?_⟩
   ·unfold Qaz; dsimp only; rw [QdU, QdU]; simp [(fb _).2.2.1]
   ·rw [List.mem_singleton.1 h]; exact ⟨_, (fb _).1, (fb _).2.1, (fb _).2.2.2⟩
  ·refine step _ _ ⟨⟨?_, .inl rfl, fun u hu => (by rw [List.mem_singleton.1 hu]; exact Qnq t _), by simp⟩, rfl, (by show (8 : Int) ≠ 3; decide), fun t h => ?_⟩
   ·unfold Qaz; dsimp only; rw [QdU, QdU]; simp [(fb _).2.2.1, nm]
   ·simp only [List.mem_cons, List.not_mem_nil, or_false] at h
    rcases h with e | e
    ·rw [e]; exact ⟨_, (fb _).1, (fb _).2.1, (fb _).2.2.2⟩
    ·rw [e]; exact ⟨_, (fb _).1, (fb _).2.1, (fb _).2.2.2⟩
theorem Qrw (t : List Int) (n : Int) (hn : 1 <= n /\ n <= 3) : ∀ (r : Nat) (i : Int) (b : List Qbv) (k : Int), (b.length : Int) = k -> k + (r : Int) = n -> (∀ j : Nat, j < b.length -> DrF n (j : Int) (b.getD j default)) -> (∀ j : Nat, j < (QbA t n r i b k).2.length -> DrF n (j : Int) ((QbA t n r i b k).2.getD j default)) /\ (QbA t n r i b k).2.length = b.length + r
 | 0, i, b, k, hk, hr, h => by rw [QbA]; exact ⟨h, rfl⟩
 | r + 1, i, b, k, hk, hr, h => by
  rw [QbA]
  have hx := QfY t i 3 (by omega)
  have h2 := QrM t n (1 + (QaK t i 3).1) hn (by omega) ((((1 + (QaK t i 3).1) : Int) - 0).toNat) (QaK t i 3).2 [] 0 rfl (by omega) (fun j hj => by cases hj)
  dsimp only
  generalize Qa0 t n (1 + (QaK t i 3).1) ((((1 + (QaK t i 3).1) : Int) - 0).toNat) (QaK t i 3).2 [] 0 = R at h2
  obtain ⟨o0, o1⟩ := R
  dsimp only at h2 ⊢
  have hl : (o1.length : Int) = 1 + (QaK t i 3).1 := by rw [h2.2]; simp; omega
  obtain ⟨a1, a2⟩ := Qrw t n hn r o0 (b ++ [Qbv.mk (fNm k) o1]) (k + 1) (by rw [List.length_append]; simp; omega) (by omega) (fun j hj => by
   rw [List.length_append] at hj
   by_cases hjb : j < b.length
   ·rw [show (b ++ [Qbv.mk (fNm k) o1]).getD j default = b.getD j default by rw [List.getD_eq_getElem?_getD, List.getElem?_append_left hjb, List.getD_eq_getElem?_getD]]
    exact h j hjb
   ·obtain rfl : j = b.length := by simp at hj; omega
    rw [show (b ++ [Qbv.mk (fNm k) o1]).getD b.length default = Qbv.mk (fNm k) o1 by simp, hk]
    refine ⟨rfl, by dsimp only; omega, fun j hj => ?_⟩
    dsimp only
    rw [hl]
    exact h2.1 j hj)
  exact ⟨a1, by show _ = b.length + (r + 1); rw [show (QbA t n r o0 (b ++ [Qbv.mk ([(Str.mk [109]), (Str.mk [102]), (Str.mk [103])].getD (k : Int).toNat default) o1]) (k + 1)).2.length = _ from a2, List.length_append]; simp; omega⟩
theorem Qmc {t : List Int} {i : Int} {r : Qaj × Int} (h : Qd4 t i = r) : DrP r.1 := by
 subst h
 unfold Qd4
 have hx := QfY t i 3 (by omega)
 have h2 := Qrw t (1 + (QaK t i 3).1) (by omega) ((((1 + (QaK t i 3).1) : Int) - 0).toNat) (QaK t i 3).2 [] 0 rfl (by omega) (fun j hj => by cases hj)
 dsimp only
 generalize QbA t (1 + (QaK t i 3).1) ((((1 + (QaK t i 3).1) : Int) - 0).toNat) (QaK t i 3).2 [] 0 = R at h2
 obtain ⟨o0, o1⟩ := R
 dsimp only at h2 ⊢
 have hl : (o1.length : Int) = 1 + (QaK t i 3).1 := by rw [h2.2]; simp; omega
 refine ⟨by dsimp only; omega, fun j hj => ?_⟩
 dsimp only
 rw [hl]
 exact h2.1 j hj
theorem Qrl {nf i : Int} {f : Qbv} (h : DrF nf i f) {k : Int} (hk : 0 <= k /\ k < (f.Blocks.length : Int)) : DrB nf (f.Blocks.length : Int) k (f.Blocks.getD k.toNat default) := by
 have := h.2.2 k.toNat (by omega)
 rw [show ((k.toNat : Nat) : Int) = k by omega] at this
 exact this
theorem QqT {p : Qaj} (h : DrP p) {k : Int} (hk : 0 <= k /\ k < (p.Funcs.length : Int)) : DrF (p.Funcs.length : Int) k (p.Funcs.getD k.toNat default) := by
 have := h.2 k.toNat (by omega)
 rw [show ((k.toNat : Nat) : Int) = k by omega] at this
 exact this
theorem Qov {nf nb k : Int} {b : QaM} (h : DrB nf nb k b) : (1 <= b.Stmts.length /\ b.Stmts.length <= 4) /\ ∀ s ∈ b.Stmts, Qaz s = true /\ vS s := by
 obtain ⟨_, a, z, e, h1, h2, h3⟩ := h
 rw [e]
 refine ⟨by simp; omega, fun s hs => ?_⟩
 rcases List.mem_append.1 hs with h' | h'
 ·exact (h2 s h').1
 ·rw [List.mem_singleton.1 h']; exact h3.1
theorem Qha {p : Qaj} (h : DrP p) : QcH p = true := by
 rw [Qih]
 simp only [Bool.and_eq_true, decide_eq_true_eq, List.all_eq_true]
 refine ⟨by have := h.1; omega, ?_⟩
 have hn := h.1
 refine Qfb fun i hi => ?_
 have hF := h.2 i hi
 refine ⟨by rw [hF.1]; exact QoO (by omega), by have := hF.2.1; omega, ?_⟩
 have hm := hF.2.1
 refine Qfb fun k hk => ?_
 have hB := hF.2.2 k hk
 have hs := Qov hB
 exact ⟨by rw [hB.1]; exact Qr6 (by omega), by omega, fun s hh => (hs.2 s hh).1⟩
theorem Qtk {p : Qaj} (hp : DrP p) : ∀ f ∈ p.Funcs, ∀ b ∈ f.Blocks, ∀ s ∈ b.Stmts, vS s :=
 Qfb fun i hi => Qfb fun k hk => fun s hs => ((Qov ((hp.2 i hi).2.2 k hk)).2 s hs).2
theorem QpG {p : Qaj} (hp : DrP p) : ∀ f ∈ p.Funcs, smF f := Qfb fun i hi =>
 ⟨(hp.2 i hi).2.1.2, Qfb fun k hk => ((Qov ((hp.2 i hi).2.2 k hk)).1).2⟩
theorem QqB {s : Qax} {last : Bool} {m : List (Str × Bool)} (h1 : Qc5 s = last) (h2 : ∀ t ∈ s.Targets, (Qea m t).getD false = true) : Qdr s last m = 0 := by
 have l0 : ∀ (r : Nat) (v : Int), 0 <= v -> v + (r : Int) = (s.Targets.length : Int) -> Qcw s m r v = .brk () := fun r => by
  induction r with
  | zero => intro v _ _; rw [Qcw]
  | succ r ih =>
   intro v h0 h1
   rw [Qcw, h2 _ (Qb4 (by omega))]
   exact ih _ (by omega) (by omega)
 unfold Qdr
 dsimp only
 rw [h1, l0 _ 0 (by omega) (by omega)]
 all_goals (cases last <;> rfl)
theorem QsU {nf i : Int} {f : Qbv} (h : DrF nf i f) (m : List (Str × Bool)) (hm : ∀ j : Int, 0 <= j -> j < nf -> (Qea m (fNm j)).getD false = true) : (Qdv f i m).2 = 0 := by
 have hd := Qpm f.Blocks (fun x0 => Qee x0) bNm h.2.1.2 (fun j hj => (h.2.2 j hj).1) (fun a b c => Qpq a b c) (((f.Blocks.length : Nat) : Int) - 0).toNat [] 0 (by omega) (by omega) (fun s => ⟨fun h => (by cases h), fun ⟨j, a, b, _⟩ => (by omega)⟩)
 unfold Qdv QdN
 dsimp only
 generalize Qa2 f.Blocks (fun x0 => Qee x0) (((f.Blocks.length : Nat) : Int) - 0).toNat [] (-1) 0 = R at hd ⊢
 obtain ⟨mb, at_⟩ := R
 dsimp only at hd ⊢
 obtain ⟨rfl, hd⟩ := hd
 have l1 : ∀ (k : Int) (S : List Qax), DrB nf (f.Blocks.length : Int) k (QaM.mk (bNm k) S) -> ∀ (r : Nat) (v : Int), 0 <= v -> v + (r : Int) = (S.length : Int) -> QbY i m mb k S S r v = .brk () := fun k S hS r => by
  obtain ⟨_, a, z, e, h1, h2, h3⟩ := hS
  dsimp only at e
  induction r with
  | zero => intro v _ _; rw [QbY]
  | succ r ih =>
   intro v h0 hv
   rw [QbY]
   have hlen : S.length = a.length + 1 := by rw [e]; simp
   rw [ih (v + 1) (by omega) (by omega)]
   by_cases hz : v = (a.length : Int)
   ·have es : S.getD v.toNat default = z := by rw [e, hz]; simp
    have eb : (v == (((S.length : Nat) : Int) - 1)) = true := by rw [beq_iff_eq]; omega
    have eo : (z.Op == 3) = false := by simpa using h3.2.2.1
    rw [es, eb, eo]
    dsimp only [cond_false]
    rw [QqB h3.2.1 (fun t ht => by obtain ⟨j, a1, a2, a3⟩ := h3.2.2.2 t ht; exact (hd t).2 ⟨j, a1, a2, a3⟩)]
    rfl
   ·have es : S.getD v.toNat default = a.getD v.toNat default := by
     rw [e, List.getD_eq_getElem?_getD, List.getElem?_append_left (by omega), List.getD_eq_getElem?_getD]
    have eb : (v == (((S.length : Nat) : Int) - 1)) = false := by rw [Bool.eq_false_iff]; intro hc; rw [beq_iff_eq] at hc; omega
    have hs := h2 _ (Qb4 (xs := a) (i := v.toNat) (d := default) (by omega))
    rw [es, eb]
    generalize a.getD v.toNat default = s at hs
    cases eo : s.Op == 3
    ·dsimp only [cond_false]
     rw [QqB hs.2.1 (fun t ht => by rw [hs.2.2.2 (by simpa using eo)] at ht; cases ht)]
     rfl
    ·dsimp only [cond_true]
     obtain ⟨j, a1, a2, a3⟩ := hs.2.2.1 (by simpa using eo)
     rw [QqB hs.2.1 (fun t ht => by rw [a3, List.mem_singleton] at ht; rw [ht]; exact hm j a1 a2)]
     rfl
 have l0 : ∀ (r : Nat) (v : Int), 0 <= v -> v + (r : Int) = (f.Blocks.length : Int) -> Qcv f i m mb r v = .brk () := fun r => by
  induction r with
  | zero => intro v _ _; rw [Qcv]
  | succ r ih =>
   intro v h0 hv
   have hB := Qrl h (k := v) (by omega)
   rw [Qcv, l1 v _ (by obtain ⟨h1, h2⟩ := hB; exact ⟨rfl, h2⟩) _ 0 (by omega) (by omega)]
   exact ih _ (by omega) (by omega)
 rw [l0 _ 0 (by omega) (by omega)]
 rfl
theorem sz2 (S : List Qax) : ∀ (r : Nat) (a b v : Int), (Qbo S r a b v).1 <= a + 2 * (r : Int) /\ (Qbo S r a b v).2 <= b + 3 * (r : Int)
 | 0, a, b, v => by
  -- QcM is behind
  rw [Qbo]; exact ⟨by simp, by simp⟩
 | r + 1, a, b, v => by
  rw [Qbo]
  try dsimp only
  have h := sz2 S r (QdK (S.getD v.toNat default) a b).1 (QdK (S.getD v.toNat default) a b).2 (v + 1)
  have hs : (QdK (S.getD v.toNat default) a b).1 <= a + 2 /\ (QdK (S.getD v.toNat default) a b).2 <= b + 3 := by
   unfold QdK
   cases (S.getD v.toNat default).Op == 3
   ·cases (S.getD v.toNat default).Op == 8 <;> (simp only [cond_false, cond_true]; omega)
   ·simp only [cond_true]; omega
  omega
theorem sz1 {nf i : Int} {f : Qbv} (hf : DrF nf i f) : ∀ (r : Nat) (a b v : Int), 0 <= v -> v + (r : Int) = (f.Blocks.length : Int) -> (Qbp f.Blocks r a b v).1 <= a + 8 * (r : Int) /\ (Qbp f.Blocks r a b v).2 <= b + 12 * (r : Int)
 | 0, a, b, v, _, _ => by
  -- QcM is behind
  rw [Qbp]; exact ⟨by simp, by simp⟩
 | r + 1, a, b, v, h0, h1 => by
  rw [Qbp]
  have hb := (Qov (Qrl hf (k := v) (by omega))).1
  have h2 := sz2 ((f.Blocks.getD v.toNat default).Stmts) ((((f.Blocks.getD v.toNat default).Stmts.length : Nat) : Int) - 0).toNat a b 0
  rcases e : Qbo ((f.Blocks.getD v.toNat default).Stmts) ((((f.Blocks.getD v.toNat default).Stmts.length : Nat) : Int) - 0).toNat a b 0 with ⟨x, y⟩
  rw [e] at h2
  dsimp only at h2 ⊢
  have h := sz1 hf r x y (v + 1) (by omega) (by omega)
  omega
theorem sz0 {p : Qaj} (hp : DrP p) : ∀ (r : Nat) (a b v : Int), 0 <= v -> v + (r : Int) = (p.Funcs.length : Int) -> (Qbx p r a b v).1 <= a + 24 * (r : Int) /\ (Qbx p r a b v).2 <= b + 36 * (r : Int)
 | 0, a, b, v, _, _ => by
  -- QcM is behind
  rw [Qbx]; exact ⟨by simp, by simp⟩
 | r + 1, a, b, v, h0, h1 => by
  rw [Qbx]
  have hF := QqT hp (k := v) (by omega)
  have hb := hF.2.1
  have h2 := sz1 hF ((((p.Funcs.getD v.toNat default).Blocks.length : Nat) : Int) - 0).toNat a b 0 (by omega) (by omega)
  rcases e : Qbp ((p.Funcs.getD v.toNat default).Blocks) ((((p.Funcs.getD v.toNat default).Blocks.length : Nat) : Int) - 0).toNat a b 0 with ⟨x, y⟩
  rw [e] at h2
  dsimp only at h2 ⊢
  have h := sz0 hp r x y (v + 1) (by omega) (by omega)
  omega
theorem Qor {p : Qaj} (hp : DrP p) : (QcM p).1 <= 100 /\ (QcM p).2 <= 200 := by
 have h := sz0 hp ((((p.Funcs.length : Nat) : Int) - 0).toNat) (2 * ((p.Funcs.length : Nat) : Int)) ((p.Funcs.length : Nat) : Int) 0 (by omega) (by omega)
 have hl := hp.1
 unfold QcM Qdy
 rw [(QhQ p).trans (Qha hp)]
 dsimp only
 simp only [Bool.not_true, cond_false]
 omega
theorem vi1 {n : Str} {m : List (Str × Bool)} {o : List Str} (h : VI (m, o)) (hn : n = Str.mk [] \/ n ∈ N4) : VI (QcJ n m o) := by
 obtain ⟨h1, h2, h3⟩ := h
 dsimp only at h1 h2 h3
 unfold QcJ
 cases e : n != Str.mk []
 ·exact ⟨h1, h2, h3⟩
 have hm : n ∈ N4 := by
  rcases hn with h | h
  ·rw [h] at e; simp at e
  ·exact h
 cases e2 : (Qea m n).getD false
 ·refine ⟨fun s hs => ?_, ?_, fun s hs => ?_⟩
  ·show (Qea (mset m n true) s).getD false = true
   rw [Qfm]
   by_cases es : n = s
   ·rw [if_pos es]; rfl
   ·rw [if_neg es]
    rcases List.mem_append.1 hs with h' | h'
    ·exact h1 s h'
    ·exact absurd (List.mem_singleton.1 h').symm es
  ·refine List.nodup_append.2 ⟨h2, by simp, fun a ha b hb => ?_⟩
   rw [List.mem_singleton.1 hb]
   intro e3
   rw [e3] at ha
   rw [h1 n ha] at e2
   cases e2
  ·rcases List.mem_append.1 hs with h' | h'
   ·exact h3 s h'
   ·rw [List.mem_singleton.1 h']; exact hm
 ·exact ⟨h1, h2, h3⟩
theorem viS {s : Qax} (hs : vS s) {m : List (Str × Bool)} {o : List Str} (h : VI (m, o)) : VI (QbS s m o) := by
 have l0 : ∀ (r : Nat) (m : List (Str × Bool)) (o : List Str) (v : Int), VI (m, o) -> 0 <= v -> v + (r : Int) = (s.Uses.length : Int) -> VI (Qbb s r m o v) := fun r => by
  -- QcV is behind
  induction r with
  | zero => intro m o v h _ _; rw [Qbb]; exact h
  | succ r ih =>
   intro m o v h h0 h1
   rw [Qbb]
   exact ih _ _ _ (vi1 h (.inr (hs.2.1 _ (Qb4 (by omega))))) (by omega) (by omega)
 unfold QbS
 exact l0 _ _ _ 0 (vi1 h hs.1) (by omega) (by omega)
theorem vi2 (S : List Qax) (hs : ∀ s ∈ S, vS s) : ∀ (r : Nat) (m : List (Str × Bool)) (o : List Str) (v : Int), VI (m, o) -> 0 <= v -> v + (r : Int) = (S.length : Int) -> VI (QbD S r m o v)
 | 0, m, o, v, h, _, _ => by
  -- QcV is behind
  rw [QbD]; exact h
 | r + 1, m, o, v, h, h0, h1 => by
  rw [QbD]
  exact vi2 S hs r _ _ _ (viS (hs _ (Qb4 (by omega))) h) (by omega) (by omega)
theorem vi3 (S : List QaM) (hs : ∀ b ∈ S, ∀ s ∈ b.Stmts, vS s) : ∀ (r : Nat) (m : List (Str × Bool)) (o : List Str) (v : Int), VI (m, o) -> 0 <= v -> v + (r : Int) = (S.length : Int) -> VI (QbC S r m o v)
 | 0, m, o, v, h, _, _ => by
  -- QcV is behind
  rw [QbC]; exact h
 | r + 1, m, o, v, h, h0, h1 => by
  rw [QbC]
  exact vi3 S hs r _ _ _ (vi2 _ (hs _ (Qb4 (by omega))) _ _ _ 0 h (by omega) (by omega)) (by omega) (by omega)
theorem vi4 (p : Qaj) (hs : ∀ f ∈ p.Funcs, ∀ b ∈ f.Blocks, ∀ s ∈ b.Stmts, vS s) : ∀ (r : Nat) (m : List (Str × Bool)) (o : List Str) (v : Int), VI (m, o) -> 0 <= v -> v + (r : Int) = (p.Funcs.length : Int) -> VI (QbE p r m o v)
 | 0, m, o, v, h, _, _ => by
  -- QcV is behind
  rw [QbE]; exact h
 | r + 1, m, o, v, h, h0, h1 => by
  rw [QbE]
  exact vi4 p hs r _ _ _ (vi3 _ (hs _ (Qb4 (by omega))) _ _ _ 0 h (by omega) (by omega)) (by omega) (by omega)
theorem Qqw {p : Qaj} (hp : DrP p) : (QcV p).length <= 4 := by
 have h := vi4 p (Qtk hp) ((((p.Funcs.length : Nat) : Int) - 0).toNat) [] [] 0 ⟨fun s h => (by cases h), List.nodup_nil, fun s h => (by cases h)⟩ (by omega) (by omega)
 unfold QcV QcY
 rw [(QhQ p).trans (Qha hp)]
 dsimp only
 simp only [Bool.not_true, cond_false]
 exact Qou _ h.2.1 h.2.2
theorem Qod {p : Qaj} (hp : DrP p) : (Qcz p).2 = 0 := by
 have hd := QoD p.Funcs (fun x0 => QeB x0) fNm hp.1.2 (fun j hj => (hp.2 j hj).1) (fun a b c => QpV a b c) (((p.Funcs.length : Nat) : Int) - 0).toNat [] 0 (by omega) (by omega) (fun s => ⟨fun h => (by cases h), fun ⟨j, a, b, _⟩ => (by omega)⟩)
 have hv := Qqw hp
 have hs := Qor hp
 unfold Qcz Qc0
 dsimp only
 rw [(QhQ p).trans (Qha hp)]
 generalize Qa5 p.Funcs (fun x0 => QeB x0) (((p.Funcs.length : Nat) : Int) - 0).toNat [] (-1) 0 = R at hd ⊢
 obtain ⟨mb, at_⟩ := R
 dsimp only at hd ⊢
 obtain ⟨rfl, hd⟩ := hd
 have l0 : ∀ (r : Nat) (v : Int), 0 <= v -> v + (r : Int) = (p.Funcs.length : Int) -> Qb8 p mb r v = .brk () := fun r => by
  induction r with
  | zero => intro v _ _; rw [Qb8]
  | succ r ih =>
   intro v h0 h1
   rw [Qb8, QsU (QqT hp (k := v) (by omega)) mb (fun j j0 j1 => (hd _).2 ⟨j, j0, j1, rfl⟩)]
   exact ih _ (by omega) (by omega)
 rw [l0 _ 0 (by omega) (by omega)]
 have e1 : decide (64 < (((QcV p).length : Nat) : Int)) = false := decide_eq_false (by omega)
 have e2 : decide (256 < (QcM p).1) = false := decide_eq_false (by omega)
 have e3 : decide (1024 < (QcM p).2) = false := decide_eq_false (by omega)
 dsimp only
 rw [e1, e2, e3]
 rfl
theorem Qlk {p : Qaj} {r : Qay × Int} (h : Qcz p = r) (h2 : (r.2 != 0) = false) : Qcr p = true := by
 subst h
 cases e : Qcr p
 ·unfold Qcz at h2
  rw [e] at h2
  cases h2
 ·rfl
theorem Qnu {p : Qaj} {r : Qay × Int} (h : Qcz p = r) (h2 : (r.2 != 0) = false) : QcH p = true := by
 rw [<- QhQ]; exact Qlk h h2
theorem QmL {p : Qaj} {m : List (Str × Bool)} {x : Qay × Int} : ∀ {r : Nat} {i : Int}, Qb8 p m r i = .ret x -> x.2 ≠ 0
 | 0, i, h => by rw [Qb8] at h; cases h
 | r + 1, i, h => by
  rw [Qb8] at h
  cases e : ((Qdv (p.Funcs.getD (i : Int).toNat default) i m).2 != 0)
  ·rw [e, cond_false] at h; exact QmL h
  ·rw [e, cond_true] at h
   have h' := LR.ret.inj h
   rw [<- h']
   simpa [bne] using e
theorem Qnh {p : Qaj} {m : List (Str × Bool)} : ∀ {r : Nat} {i : Int}, Qb8 p m r i ≠ .oof
 | 0, i => fun h => by rw [Qb8] at h; cases h
 | r + 1, i => fun h => by
  rw [Qb8] at h
  cases e : ((Qdv (p.Funcs.getD (i : Int).toNat default) i m).2 != 0)
  ·rw [e, cond_false] at h; exact Qnh h
  ·rw [e, cond_true] at h; cases h
theorem Qm3 {p : Qaj} (h : ((Qcz p).2 != 0) = false) : (QcM p).1 <= 256 /\ (QcM p).2 <= 1024 := by
 have h := eq_of_beq (show ((Qcz p).2 == 0) = true by simpa [bne] using h)
 by_cases c1 : 256 < (QcM p).1 \/ 1024 < (QcM p).2
 ·exfalso
  unfold Qcz at h
  dsimp only at h
  cases e1 : Qcr p
  ·rw [e1] at h; simp at h
  rw [e1] at h
  simp only [Bool.not_true, cond_false] at h
  cases e2 : decide (0 <= (Qc0 p.Funcs (fun x0 => QeB x0)).1)
  ·rw [e2, cond_false] at h
   cases e3 : Qb8 p (Qc0 p.Funcs (fun x0 => QeB x0)).2 (((((p.Funcs.length : Nat) : Int) : Int) - 0).toNat) 0 with
   | brk u =>
    rw [e3] at h
    dsimp only at h
    cases e4 : decide (64 < (((QcV p).length : Nat) : Int))
    ·rw [e4, cond_false] at h
     by_cases c2 : 256 < (QcM p).1
     ·rw [decide_eq_true c2] at h; simp at h
     ·rw [decide_eq_false c2, cond_false, decide_eq_true (by omega)] at h; simp at h
    ·rw [e4] at h; simp at h
   | ret r => rw [e3] at h; exact QmL e3 (by simpa using h)
   | oof => rw [e3] at h; exact Qnh e3
  ·rw [e2] at h; simp at h
 ·omega
theorem Qp4 (i k : Int) (S : List Qax) : ∀ (r : Nat) (o : List Qay) (v : Int), 0 <= v -> v + (r : Int) = (S.length : Int) -> Qd6 i k S r o v = o ++ nS i k v (S.drop v.toNat)
 | 0, o, v, h0, h1 => by rw [Qd6, List.drop_eq_nil_of_le (by omega), nS, List.append_nil]
 | r + 1, o, v, h0, h1 => by
  rw [Qd6, Qp4 i k S r _ _ (by omega) (by omega), Qp4 i k S r _ _ (by omega) (by omega), Qek h0 (by omega), nS]
  cases (S.getD v.toNat default).Op == 3 <;> simp
theorem QrY (i : Int) (S : List QaM) : ∀ (r : Nat) (o : List Qay) (v : Int), 0 <= v -> v + (r : Int) = (S.length : Int) -> QeD i S r o v = o ++ nB i v (S.drop v.toNat)
 | 0, o, v, h0, h1 => by rw [QeD, List.drop_eq_nil_of_le (by omega), nB, List.append_nil]
 | r + 1, o, v, h0, h1 => by
  rw [QeD, Qp4 i v _ _ _ 0 (by omega) (by omega)]
  try dsimp only
  rw [QrY i S r _ _ (by omega) (by omega), Qek h0 (by omega), nB]
  simp
theorem Qrj (p : Qaj) : ∀ (r : Nat) (o : List Qay) (v : Int), 0 <= v -> v + (r : Int) = (p.Funcs.length : Int) -> QeF p r o v = o ++ nF v (p.Funcs.drop v.toNat)
 | 0, o, v, h0, h1 => by rw [QeF, List.drop_eq_nil_of_le (by omega), nF, List.append_nil]
 | r + 1, o, v, h0, h1 => by
  rw [QeF, QrY v _ _ _ 0 (by omega) (by omega)]
  try dsimp only
  rw [Qrj p r _ _ (by omega) (by omega), Qek h0 (by omega), nF]
  simp
theorem Qki (p : Qaj) : Qfv p = bif (Qcz p).2 != 0 then [] else nF 0 p.Funcs := by
 unfold Qfv
 dsimp only
 rw [Qrj p _ [] 0 (by omega) (by omega)]
 rfl
theorem Qnd {p : Qaj} {n : Qay} (h : n ∈ Qfv p) : NIn p n := by
 rw [Qki] at h
 cases e : (Qcz p).2 != 0
 ·have hv := QkP (Qlk rfl e)
  rw [e, cond_false] at h
  obtain ⟨a1, a2⟩ := Qqk p.Funcs 0 n h
  rw [show (n.Func - 0) = n.Func by omega] at a2
  refine ⟨by omega, fun h1 h2 => ?_⟩
  obtain ⟨_, b1, b2, b3⟩ := a2 h1 h2
  have := ((hv.2 n.Func.toNat).2 n.Block.toNat).1
  exact ⟨b1, ⟨b2, b3⟩, by omega⟩
 ·rw [e] at h; cases h
theorem QnW {p : Qaj} {l : List Qay} (h : Qfv p = l) {i : Int} (hi : 0 <= i /\ i < (l.length : Int)) : NIn p (l.getD i.toNat default) := by
 refine Qnd ?_
 rw [h]; exact Qb4 (by omega)
theorem QkC {p : Qaj} {l : List Qay} {r : Qay × Int} (h : Qfv p = l) (hc : Qcz p = r) (h2 : (r.2 != 0) = false) : 0 < l.length := by
 have hv := Qnu hc h2
 rw [Qih] at hv
 simp only [Bool.and_eq_true, decide_eq_true_eq] at hv
 rw [<- h, Qki, hc, h2, cond_false]
 cases hf : p.Funcs with
 | nil => rw [hf] at hv; simp at hv
 | cons f F => simp [nF]
theorem QsN {b : QaD} (h : BOk b) (k f bl st : Int) : 0 <= Qgd b k f bl st /\ Qgd b k f bl st < (b.g.Succ.length : Int) := h.num _
theorem QvF {b : QaD} {k f bl st r : Int} (e : Qgd b k f bl st = r) (h : BOk b) : 0 <= r /\ r < (b.g.Succ.length : Int) := e ▸ QsN h k f bl st
theorem Qg7 (l : List Int) (n : Int) : Qcc l n = true ↔ n ∈ l := by
 have := QmH (fun r i => Qdb l n r i) (fun i => n == l.getD i.toNat 0) () (fun _ => rfl) (fun _ _ => rfl) ((((l.length : Nat) : Int) - 0).toNat) 0
 unfold Qcc QeS
 rw [QnN]
 rcases this with ⟨j, e, j1, j2, j3⟩ | ⟨e, h⟩
 ·rw [e]
  exact ⟨fun _ => ⟨j, j1, by omega, (eq_of_beq j3).symm⟩, fun _ => by simpa using j1⟩
 ·rw [e]
  refine ⟨fun h => by simp at h, ?_⟩
  rintro ⟨j, j1, j2, j3⟩
  have := h j j1 (by omega)
  simp only [j3] at this; simp at this
theorem Qnk {b : QaD} {f t : Int} (h : BOk b) (hf : 0 <= f /\ f < (b.g.Succ.length : Int)) (ht : 0 <= t /\ t < (b.g.Succ.length : Int)) :
  BOk (QbP b f t) /\ (QbP b f t).g.Nodes = b.g.Nodes /\ (QbP b f t).number = b.number /\ (QbP b f t).g.Succ.length = b.g.Succ.length /\
  ∀ i k, 0 <= i -> i < (b.g.Succ.length : Int) -> (k ∈ (QbP b f t).g.Succ.getD i.toNat [] ↔ k ∈ b.g.Succ.getD i.toNat [] \/ (i = f /\ k = t)) := by
 unfold QbP
 dsimp only
 cases hc : Qcc (b.g.Succ.getD f.toNat []) t
 ·rw [cond_false]
  have hn : t ∉ b.g.Succ.getD f.toNat [] := fun hm => by rw [(Qg7 _ _).2 hm] at hc; cases hc
  have hn2 : f ∉ b.g.Pred.getD t.toNat [] := fun hm => hn ((h.mi f t hf.1 hf.2 ht.1 ht.2).2 hm)
  have hps := h.ps
  have gs : ∀ i, 0 <= i -> (b.g.Succ.set f.toNat (b.g.Succ.getD f.toNat [] ++ [t])).getD i.toNat [] = if i = f then b.g.Succ.getD f.toNat [] ++ [t] else b.g.Succ.getD i.toNat [] := fun i hi => Qky hf hi
  have gp' : ∀ i, 0 <= i -> (b.g.Pred.set t.toNat (b.g.Pred.getD t.toNat [] ++ [f])).getD i.toNat [] = if i = t then b.g.Pred.getD t.toNat [] ++ [f] else b.g.Pred.getD i.toNat [] := fun i hi => Qky (by omega) hi
  refine ⟨⟨by simp [hps], by simp; exact h.n0, by simp; exact h.nb, fun l hl => ?_, fun l hl => ?_, fun i k h1 h2 h3 h4 => ?_, fun k => by simp only [List.length_set]; exact h.num k⟩, rfl, rfl, by simp, fun i k h1 h2 => ?_⟩
  ·simp only [List.length_set]
   rcases List.mem_or_eq_of_mem_set hl with hl | rfl
   ·exact h.su l hl
   ·exact QmN (h.su _ (Qgx hf)) ht hn
  ·simp only [List.length_set]
   rcases List.mem_or_eq_of_mem_set hl with hl | rfl
   ·exact h.pr l hl
   ·exact QmN (h.pr _ (Qgx (by omega))) hf hn2
  ·simp only [List.length_set] at h2 h4
   show k ∈ (b.g.Succ.set f.toNat (b.g.Succ.getD f.toNat [] ++ [t])).getD i.toNat [] ↔ i ∈ (b.g.Pred.set t.toNat (b.g.Pred.getD t.toNat [] ++ [f])).getD k.toNat []
   rw [gs i h1, gp' k h3]
   have hm := h.mi i k h1 h2 h3 h4
   by_cases e1 : i = f
   ·rw [if_pos e1, List.mem_append, List.mem_singleton]
    by_cases e2 : k = t
    ·rw [if_pos e2, List.mem_append, List.mem_singleton]; simp [e1, e2]
    ·rw [if_neg e2]; subst e1; exact ⟨fun h => h.elim hm.1 (fun e => absurd e e2), fun h => .inl (hm.2 h)⟩
   ·rw [if_neg e1]
    by_cases e2 : k = t
    ·rw [if_pos e2, List.mem_append, List.mem_singleton]; subst e2; exact ⟨fun h => .inl (hm.1 h), fun h => h.elim hm.2 (fun e => absurd e e1)⟩
    ·rw [if_neg e2]; exact hm
  ·show k ∈ (b.g.Succ.set f.toNat (b.g.Succ.getD f.toNat [] ++ [t])).getD i.toNat [] ↔ _
   rw [gs i h1]
   by_cases e1 : i = f
   ·rw [if_pos e1, List.mem_append, List.mem_singleton, e1]; simp
   ·rw [if_neg e1]; simp [e1]
 ·rw [cond_true]
  refine ⟨h, rfl, rfl, rfl, fun i k h1 h2 => ⟨.inl, fun hk => ?_⟩⟩
  rcases hk with hk | ⟨rfl, rfl⟩
  ·exact hk
  ·exact (Qg7 _ _).1 hc
theorem QlQ {b r : QaD} {f t : Int} (e : QbP b f t = r) (h : BOk b) (hf : 0 <= f /\ f < (b.g.Succ.length : Int)) (ht : 0 <= t /\ t < (b.g.Succ.length : Int)) : BOk r /\ r.g.Succ.length = b.g.Succ.length := by
 have := Qnk h hf ht; rw [e] at this; exact ⟨this.1, this.2.2.2.1⟩
theorem Qqv {b : QaD} {f t : Int} (hf : 0 <= f /\ f < (b.g.Succ.length : Int)) : Qib (QbP b f t).g.Succ <= Qib b.g.Succ + 1 := by
 unfold QbP
 dsimp only
 cases Qcc (b.g.Succ.getD f.toNat []) t
 ·rw [cond_false]
  exact QnQ (by omega) (by simp)
 ·rw [cond_true]; exact Nat.le_succ _
theorem Qko (b : QaD) (f t : Int) : (QbP b f t).number = b.number /\ (QbP b f t).g.Nodes = b.g.Nodes := by
 unfold QbP
 dsimp only
 cases Qcc (b.g.Succ.getD f.toNat []) t <;> exact ⟨rfl, rfl⟩
def bed (b : QaD) (es : List (Int × Int)) : QaD := es.foldl (fun b e => QbP b e.1 e.2) b
theorem Qlc : ∀ (es : List (Int × Int)) (b : QaD), (bed b es).number = b.number /\ (bed b es).g.Nodes = b.g.Nodes
 | [], b => ⟨rfl, rfl⟩
 | e :: es, b => by
  have h1 := Qlc es (QbP b e.1 e.2)
  have h2 := Qko b e.1 e.2
  exact ⟨h1.1.trans h2.1, h1.2.trans h2.2⟩
theorem Qpv (b : QaD) (x y : List (Int × Int)) : bed b (x ++ y) = bed (bed b x) y := List.foldl_append
theorem QoE : ∀ (es : List (Int × Int)) (b : QaD), BOk b -> (∀ e ∈ es, (0 <= e.1 /\ e.1 < (b.g.Succ.length : Int)) /\ 0 <= e.2 /\ e.2 < (b.g.Succ.length : Int)) ->
  BOk (bed b es) /\ (bed b es).g.Succ.length = b.g.Succ.length /\ (∀ i k, 0 <= i -> i < (b.g.Succ.length : Int) -> (k ∈ (bed b es).g.Succ.getD i.toNat [] ↔ k ∈ b.g.Succ.getD i.toNat [] \/ (i, k) ∈ es)) /\ Qib (bed b es).g.Succ <= Qib b.g.Succ + es.length
 | [], b, h, _ => ⟨h, rfl, fun i k _ _ => ⟨.inl, fun hh => hh.resolve_right (by simp)⟩, Nat.le_refl _⟩
 | e :: es, b, h, he => by
  have h0 := he e (by simp)
  obtain ⟨a1, -, -, a4, a5⟩ := Qnk h h0.1 h0.2
  have a6 := Qqv (t := e.2) h0.1
  obtain ⟨c1, c2, c3, c4⟩ := QoE es (QbP b e.1 e.2) a1 (fun x hx => by rw [a4]; exact he x (by simp [hx]))
  rw [a4] at c2 c3
  refine ⟨c1, c2, fun i k h1 h2 => ?_, ?_⟩
  ·show k ∈ (bed (QbP b e.1 e.2) es).g.Succ.getD i.toNat [] ↔ _
   rw [c3 i k h1 h2, a5 i k h1 h2, List.mem_cons]
   obtain ⟨e1, e2⟩ := e
   rw [Prod.mk.injEq, or_assoc]
  ·show Qib (bed (QbP b e.1 e.2) es).g.Succ <= _
   rw [List.length_cons]; omega
def Qtw (m : List (Qay × Int)) (p : Qaj) (f : Int) (t : Str) : Int := (Qea m (Qay.mk 3 f (Qdf ((p.Funcs.getD (f : Int).toNat default).Blocks) (fun x => QfR x t)) 0)).getD 0
theorem Qpr {b : QaD} {p : Qaj} {f : Int} {nm : Str} {r : Int} (e : QgR b p f nm = r) (h : BOk b) : 0 <= r /\ r < (b.g.Succ.length : Int) := by
 subst e; unfold QgR; dsimp only; exact QsN h _ _ _ _
def sed (m : List (Qay × Int)) (p : Qaj) (n : Qay) (s : Qax) : List (Int × Int) :=
 if s.Op = 7 \/ s.Op = 8 then s.Targets.map fun t => (nmb m n, Qtw m p n.Func t)
 else if s.Op = 9 then [(nmb m n, nmb m (Qay.mk 2 n.Func (-1) (-1)))]
 else if s.Op = 3 then
  [(nmb m n, nmb m (Qay.mk 1 (QcX p.Funcs (fun x => QfZ x s)) (-1) (-1))), (nmb m (Qay.mk 2 (QcX p.Funcs (fun x => QfZ x s)) (-1) (-1)), nmb m (Qay.mk 4 n.Func n.Block n.Stmt)), (nmb m (Qay.mk 4 n.Func n.Block n.Stmt), nmb m (Qay.mk 3 n.Func n.Block (n.Stmt + 1)))]
 else [(nmb m n, nmb m (Qay.mk 3 n.Func n.Block (n.Stmt + 1)))]
def ned (m : List (Qay × Int)) (p : Qaj) (n : Qay) : List (Int × Int) :=
 if n.Kind = 1 then [(nmb m n, nmb m (Qay.mk 3 n.Func 0 0))] else if n.Kind = 3 then sed m p n (stO p n) else []
theorem QpF {m : List (Qay × Int)} {p : Qaj} {n : Qay} {s : Qax} (h : Qaz s = true) : (sed m p n s).length <= (if s.Op = 3 then 3 else if s.Op = 8 then 2 else 1) := by
 obtain ⟨h7, h8⟩ := Qr3 h
 unfold sed
 by_cases c7 : s.Op = 7
 ·rw [if_pos (.inl c7), List.length_map, h7 c7, if_neg (by omega), if_neg (by omega)]; exact Nat.le_refl _
 by_cases c8 : s.Op = 8
 ·rw [if_pos (.inr c8), List.length_map, h8 c8, if_neg (by omega), if_pos c8]; exact Nat.le_refl _
 rw [if_neg (by omega)]
 by_cases c9 : s.Op = 9
 ·rw [if_pos c9, if_neg (by omega), if_neg (by omega)]; exact Nat.le_refl _
 rw [if_neg c9]
 by_cases c3 : s.Op = 3
 ·rw [if_pos c3, if_pos c3]; exact Nat.le_refl _
 ·rw [if_neg c3, if_neg c3, if_neg c8]; exact Nat.le_refl _
theorem QpQ {m : List (Qay × Int)} {N : Nat} (h : ∀ k, 0 <= (Qea m k).getD 0 /\ (Qea m k).getD 0 < (N : Int)) (p : Qaj) (n : Qay) (s : Qax) : ∀ e ∈ sed m p n s, (0 <= e.1 /\ e.1 < (N : Int)) /\ 0 <= e.2 /\ e.2 < (N : Int) := by
 intro e he
 unfold sed at he
 split at he
 ·obtain ⟨t, _, rfl⟩ := List.mem_map.1 he
  exact ⟨h _, h _⟩
 split at he
 ·rw [List.mem_singleton] at he; subst he; exact ⟨h _, h _⟩
 split at he
 ·simp only [List.mem_cons, List.not_mem_nil, or_false] at he
  rcases he with rfl | rfl | rfl <;> exact ⟨h _, h _⟩
 ·rw [List.mem_singleton] at he; subst he; exact ⟨h _, h _⟩
theorem Qqt {m : List (Qay × Int)} {N : Nat} (h : ∀ k, 0 <= (Qea m k).getD 0 /\ (Qea m k).getD 0 < (N : Int)) (p : Qaj) (n : Qay) : ∀ e ∈ ned m p n, (0 <= e.1 /\ e.1 < (N : Int)) /\ 0 <= e.2 /\ e.2 < (N : Int) := by
 intro e he
 unfold ned at he
 split at he
 ·rw [List.mem_singleton] at he; subst he; exact ⟨h _, h _⟩
 split at he
 ·exact QpQ h p n _ e he
 ·cases he
theorem Qon {m : List (Qay × Int)} {p : Qaj} {n : Qay} {s : Qax} (h : Qaz s = true) : ∃ k, (nmb m n, k) ∈ sed m p n s := by
 obtain ⟨h7, h8⟩ := Qr3 h
 unfold sed
 by_cases c7 : s.Op = 7 \/ s.Op = 8
 ·rw [if_pos c7]
  have hl : 0 < s.Targets.length := by
   rcases c7 with c | c
   ·have := h7 c; omega
   ·have := h8 c; omega
  cases ht : s.Targets with
  | nil => rw [ht] at hl; cases hl
  | cons t T => exact ⟨_, List.mem_map.2 ⟨t, by simp, rfl⟩⟩
 rw [if_neg c7]
 by_cases c9 : s.Op = 9
 ·rw [if_pos c9]; exact ⟨_, List.mem_singleton.2 rfl⟩
 rw [if_neg c9]
 by_cases c3 : s.Op = 3
 ·rw [if_pos c3]; exact ⟨_, List.mem_cons_self⟩
 ·rw [if_neg c3]; exact ⟨_, List.mem_singleton.2 rfl⟩
theorem QrF {p : Qaj} (hv : QcH p = true) (hin : ∀ n ∈ nF 0 p.Funcs, NIn p n) {m : List (Qay × Int)} {n : Qay} (hn : n ∈ nF 0 p.Funcs) (hk : n.Kind ≠ 2) : ∃ k, (nmb m n, k) ∈ (nF 0 p.Funcs).flatMap (ned m p) := by
 have ok : ∀ f b s : Int, Qay.mk 3 f b s ∈ nF 0 p.Funcs -> Qaz (stO p (Qay.mk 3 f b s)) = true := fun f b s hm => by
  obtain ⟨h1, h2⟩ := hin _ hm
  obtain ⟨h3, h4, -⟩ := h2 (by show (3 : Int) ≠ 1; decide) (by show (3 : Int) ≠ 2; decide)
  dsimp only at h1 h3 h4
  show Qaz ((((p.Funcs.getD f.toNat default).Blocks.getD b.toNat default).Stmts).getD s.toNat default) = true
  exact Qph hv _ (Qb4 (by omega)) _ (Qb4 (by omega)) _ (Qb4 (by omega))
 rcases QuE hn with ⟨h1, -, -⟩ | h1
 ·rcases h1 with h1 | h1
  ·have hx : ∃ k, (nmb m n, k) ∈ ned m p n := by
    unfold ned; rw [if_pos h1]; exact ⟨_, List.mem_singleton.2 rfl⟩
   obtain ⟨k, hk⟩ := hx
   exact ⟨k, List.mem_flatMap.2 ⟨n, hn, hk⟩⟩
  ·exact absurd h1 hk
 ·rcases h1 with h1 | h1
  ·obtain ⟨a, f, b, s⟩ := n
   dsimp only at h1
   subst h1
   obtain ⟨k, hk⟩ := Qon (m := m) (p := p) (n := Qay.mk 3 f b s) (ok f b s hn)
   refine ⟨k, List.mem_flatMap.2 ⟨_, hn, ?_⟩⟩
   unfold ned; rw [if_neg (show ¬ (3 : Int) = 1 by decide), if_pos rfl]; exact hk
  ·obtain ⟨h2, h3⟩ := QuL p.Funcs 0 n hn h1
   obtain ⟨a, f, b, s⟩ := n
   dsimp only at h1 h2 h3
   subst h1
   refine ⟨nmb m (Qay.mk 3 f b (s + 1)), List.mem_flatMap.2 ⟨_, h3, ?_⟩⟩
   rw [show f - 0 = f by omega] at h2
   have h4 : (stO p (Qay.mk 3 f b s)).Op = 3 := h2
   unfold ned; rw [if_neg (show ¬ (3 : Int) = 1 by decide), if_pos rfl]
   unfold sed; rw [if_neg (by omega), if_neg (by omega), if_pos h4]
   simp
theorem Quz (p : Qaj) (n : Qay) (s : Qax) (here : Int) : ∀ (r : Nat) (v : Int) (b : QaD), 0 <= v -> v + (r : Int) = (s.Targets.length : Int) ->
  (match Qdd p n s here r b.g.Nodes b.g.Succ b.g.Pred b.number v with | (o0, o1, o2, o3) => QaD.mk (Qbn.mk o0 o1 o2) o3) = bed b ((s.Targets.drop v.toNat).map fun t => (here, Qtw b.number p n.Func t))
 | 0, v, b, h0, h1 => by rw [Qdd, List.drop_of_length_le (by omega)]; rfl
 | r + 1, v, b, h0, h1 => by
  rw [Qdd]
  have e : s.Targets.drop v.toNat = s.Targets.getD v.toNat default :: s.Targets.drop (v + 1).toNat := by
   rw [List.drop_eq_getElem_cons (show v.toNat < s.Targets.length by omega), show (v + 1).toNat = v.toNat + 1 by omega, List.getD_eq_getElem?_getD, List.getElem?_eq_getElem (show v.toNat < s.Targets.length by omega)]; rfl
  have h2 := Quz p n s here r (v + 1) (QbP b here (Qtw b.number p n.Func (s.Targets.getD v.toNat default))) (by omega) (by omega)
  rw [e, List.map_cons]
  refine Eq.trans ?_ (h2.trans ?_)
  ·rfl
  ·rw [(Qko _ _ _).1]; rfl
theorem Qn0 (b : QaD) (p : Qaj) (n : Qay) (s : Qax) : Qgq b p n s = bed b (sed b.number p n s) := by
 have h7 := Quz p n s (nmb b.number n) (((((s.Targets.length : Nat) : Int) : Int) - 0).toNat) 0 b (by omega) (by omega)
 unfold Qgq sed
 dsimp only
 by_cases c7 : s.Op = 7
 ·rw [if_pos (.inl c7), beq_iff_eq.2 c7, cond_true]; exact h7
 rw [beq_eq_false_iff_ne.2 c7, cond_false]
 by_cases c8 : s.Op = 8
 ·rw [if_pos (.inr c8), beq_iff_eq.2 c8, cond_true]; exact h7
 rw [if_neg (by omega), beq_eq_false_iff_ne.2 c8, cond_false]
 by_cases c9 : s.Op = 9
 ·rw [if_pos c9, beq_iff_eq.2 c9, cond_true]; rfl
 rw [if_neg c9, beq_eq_false_iff_ne.2 c9, cond_false]
 by_cases c3 : s.Op = 3
 ·rw [if_pos c3, beq_iff_eq.2 c3, cond_true]
  show QbP (QbP (QbP _ _ _) (Qgd (QbP _ _ _) _ _ _ _) _) _ _ = _
  unfold Qgd
  rw [(Qko _ _ _).1]
  rfl
 ·rw [if_neg c3, beq_eq_false_iff_ne.2 c3, cond_false]; rfl
theorem QoS {x : BitVec 64} (h : x.toNat <= 65535) : 0 <= Qen x /\ Qen x <= 16 /\ (x.toNat = 0 \/ 2 ^ (Qen x).toNat <= 2 * x.toNat) := by
 unfold Qen QfQ
 dsimp only
 by_cases c : (256 : Int) <= (x.toNat : Int)
 ·rw [decide_eq_true c, cond_true]
  have e8 : (((8#64).toNat : Int)).toNat = 8 := by decide
  rw [e8]
  have e : (x >>> 8).toNat = x.toNat / 256 := by rw [BitVec.toNat_ushiftRight, Nat.shiftRight_eq_div_pow]
  have ek : (((x >>> 8).toNat : Int)).toNat = x.toNat / 256 := by rw [e]; omega
  rw [ek]
  obtain ⟨t1, t2⟩ := QoT (k := x.toNat / 256) (by omega)
  refine ⟨by omega, by omega, .inr ?_⟩
  rcases t1 with t1 | t1
  ·omega
  ·rw [show (0 + 8 + (((Qj6.b.getD (x.toNat / 256) 0).toNat : Nat) : Int)).toNat = 8 + (Qj6.b.getD (x.toNat / 256) 0).toNat by omega, Nat.pow_add]
   omega
 ·rw [decide_eq_false c, cond_false]
  have ek : ((x.toNat : Int)).toNat = x.toNat := by omega
  rw [ek]
  obtain ⟨t1, t2⟩ := QoT (k := x.toNat) (by omega)
  refine ⟨by omega, by omega, ?_⟩
  rw [show (0 + (((Qj6.b.getD x.toNat 0).toNat : Nat) : Int)).toNat = (Qj6.b.getD x.toNat 0).toNat by omega]
  exact t1
theorem QrZ {x : BitVec 64} {r : Int} (h : Qen x = r) (hx : x.toNat <= 65535) : 0 <= r /\ r <= 16 := by
 have := QoS hx; rw [h] at this; omega
theorem Qfl (x y : Int) : Qar x y = decide (x < y) := by unfold Qar Qed; simp
theorem QtW {a e : Int} (h0 : 0 <= a) : ∀ (r : Nat) (d : List Int) (j : Int), (r : Int) = j - a -> e <= (d.length : Int) -> Qmn 0 idk d a j e ->
  PI 0 d (QaS r d j) a e /\ Srt 0 idk (QaS r d j) a e
 | 0, d, j, hr, he, h => by
  rw [QaS]
  exact ⟨PI.refl _ _ _ _, h.done 0 idk (.inl (by omega))⟩
 | r + 1, d, j, hr, he, h => by
  rw [QaS]
  have hrg := h.rg
  simp only [Qfl]
  by_cases hs : d.getD j.toNat 0 < d.getD (j - 1).toNat 0
  ·simp only [decide_eq_true hs, cond_true]
   have h2 := h.step 0 idk h0 he (by omega) hs
   have h1 := PI.swp 0 (d := d) (a := a) (b := e) (i := j) (j := j - 1) h0 he (by omega) (by omega)
   obtain ⟨k1, k2⟩ := QtW h0 r (swp 0 d j (j - 1)) (j - 1) (by omega) (by rw [QeN]; exact he) h2
   exact ⟨h1.trans 0 k1, k2⟩
  ·simp only [decide_eq_false hs, cond_false]
   exact ⟨PI.refl _ _ _ _, h.done 0 idk (.inr (by show d.getD (j - 1).toNat 0 <= d.getD j.toNat 0; omega))⟩
theorem QuR {a b : Int} (h0 : 0 <= a) : ∀ (r : Nat) (d : List Int) (i : Int), (r : Int) = b - i -> a < i -> b <= (d.length : Int) -> Srt 0 idk d a i ->
  PI 0 d (QaL a r d i) a b /\ Srt 0 idk (QaL a r d i) a b
 | 0, d, i, hr, hi, hb, h => by
  rw [QaL]
  have : b = i := by omega
  subst this
  exact ⟨PI.refl _ _ _ _, h⟩
 | r + 1, d, i, hr, hi, hb, h => by
  rw [QaL]
  try dsimp only
  obtain ⟨k1, k2⟩ := QtW h0 (i - a).toNat d i (by omega) (e := i + 1) (by omega) (Qmn.init 0 idk (by omega) h)
  obtain ⟨m1, m2⟩ := QuR (b := b) h0 r _ (i + 1) (by omega) (by omega) (by rw [k1.len]; exact hb) k2
  exact ⟨(k1.mono 0 h0 (Int.le_refl _) (by omega)).trans 0 m1, m2⟩
theorem Qpn {d : List Int} {a b : Int} (h0 : 0 <= a) (hab : a <= b) (hb : b <= (d.length : Int)) : PI 0 d (Qbu d a b) a b /\ Srt 0 idk (Qbu d a b) a b := by
 unfold Qbu
 dsimp only
 by_cases h : a < b
 ·exact QuR h0 _ d (a + 1) (by omega) (by omega) hb (fun i j h1 h2 h3 => by
   have : i = j := by omega
   subst this; exact Int.le_refl _)
 ·have e : (b - (a + 1)).toNat = 0 := by omega
  rw [e, QaL]
  exact ⟨PI.refl _ _ _ _, fun i j h1 h2 h3 => by omega⟩
theorem Qq3 {hi f lo : Int} (h0 : 0 <= f) (hl : 0 <= lo) : ∀ (r : Nat) (d : List Int) (rt : Int), hi - rt < (r : Int) -> 0 < r -> lo <= rt -> f + hi <= (d.length : Int) -> Hq d f lo hi rt ->
  ∃ d', (Qas hi f r d rt = .brk d' \/ Qas hi f r d rt = .ret d') /\ PI 0 d d' (f + lo) (f + hi) /\ Hp d' f lo hi
 | 0, d, rt, hr, hr0, hlr, hb, h => by omega
 | r + 1, d, rt, hr, hr0, hlr, hb, h => by
  rw [Qas]
  simp only [Qfl]
  by_cases c1 : hi <= 2 * rt + 1
  ·simp only [decide_eq_true c1, cond_true]
   exact ⟨d, .inl rfl, PI.refl _ _ _ _, h.done fun c hc hn => by omega⟩
  ·simp only [decide_eq_false c1, cond_false]
   have go : ∀ c, (c = 2 * rt + 1 \/ c = 2 * rt + 2) -> c < hi -> (∀ c', (c' = 2 * rt + 1 \/ c' = 2 * rt + 2) -> c' < hi -> gi 0 d (f + c') <= gi 0 d (f + c)) ->
     ∃ d', ((bif !decide (d.getD (f + rt).toNat 0 < d.getD (f + c).toNat 0) then (.ret d : LR (List Int) (List Int)) else Qas hi f r (swp 0 d (f + rt) (f + c)) c) = .brk d' \/
      (bif !decide (d.getD (f + rt).toNat 0 < d.getD (f + c).toNat 0) then (.ret d : LR (List Int) (List Int)) else Qas hi f r (swp 0 d (f + rt) (f + c)) c) = .ret d') /\ PI 0 d d' (f + lo) (f + hi) /\ Hp d' f lo hi := fun c hc hn hm => by
    by_cases hs : d.getD (f + rt).toNat 0 < d.getD (f + c).toNat 0
    ·simp only [decide_eq_true hs, Bool.not_true, cond_false]
     have h2 := h.step h0 hl hlr hb hc hn hs hm
     have h1 := PI.swp 0 (d := d) (a := f + lo) (b := f + hi) (i := f + rt) (j := f + c) (by omega) hb (by omega) (by omega)
     obtain ⟨d', k1, k2, k3⟩ := Qq3 h0 hl r _ c (by omega) (by omega) (by omega) (by rw [QeN]; exact hb) h2
     exact ⟨d', k1, h1.trans 0 k2, k3⟩
    ·simp only [decide_eq_false hs, Bool.not_false, cond_true]
     refine ⟨d, .inr rfl, PI.refl _ _ _ _, h.done fun c' h1 h2 => Int.le_trans (hm c' h1 h2) ?_⟩
     show d.getD (f + c).toNat 0 <= d.getD (f + rt).toNat 0
     omega
   by_cases c2 : 2 * rt + 1 + 1 < hi
   ·simp only [decide_eq_true c2, cond_true]
    by_cases c3 : d.getD (f + (2 * rt + 1)).toNat 0 < d.getD (f + (2 * rt + 1) + 1).toNat 0
    ·simp only [decide_eq_true c3, cond_true]
     refine go (2 * rt + 1 + 1) (by omega) c2 fun c' h1 h2 => ?_
     rcases h1 with e | e
     ·subst e
      show d.getD (f + (2 * rt + 1)).toNat 0 <= d.getD (f + (2 * rt + 1 + 1)).toNat 0
      rw [show f + (2 * rt + 1) + 1 = f + (2 * rt + 1 + 1) by omega] at c3; omega
     ·rw [show c' = 2 * rt + 1 + 1 by omega]; exact Int.le_refl _
    ·simp only [decide_eq_false c3, cond_false]
     refine go (2 * rt + 1) (by omega) (by omega) fun c' h1 h2 => ?_
     rcases h1 with e | e
     ·subst e; exact Int.le_refl _
     ·subst e
      show d.getD (f + (2 * rt + 2)).toNat 0 <= d.getD (f + (2 * rt + 1)).toNat 0
      rw [show f + (2 * rt + 1) + 1 = f + (2 * rt + 2) by omega] at c3; omega
   ·simp only [decide_eq_false c2, cond_false]
    refine go (2 * rt + 1) (by omega) (by omega) fun c' h1 h2 => ?_
    rw [show c' = 2 * rt + 1 by omega]; exact Int.le_refl _
theorem QmU {d : List Int} {f lo hi : Int} (h0 : 0 <= f) (hl : 0 <= lo) (hb : f + hi <= (d.length : Int)) (h : Hp d f (lo + 1) hi) :
  PI 0 d (QaY d lo hi f) (f + lo) (f + hi) /\ Hp (QaY d lo hi f) f lo hi := by
 obtain ⟨d', k1, k2, k3⟩ := Qq3 h0 hl (hi.toNat + 1) d lo (by omega) (by omega) (Int.le_refl _) hb ⟨fun i hi hne => h i (by omega), fun i hi hp => by omega⟩
 unfold QaY
 rcases k1 with k1 | k1 <;> rw [k1] <;> exact ⟨k2, k3⟩
theorem Qm0 {hi f : Int} : ∀ (r : Nat) (d : List Int) (rt : Int), hi - rt < (r : Int) -> 0 < r -> 0 <= rt -> Qas hi f r d rt ≠ .oof
 | 0, d, rt, hr, hr0, hl => by omega
 | r + 1, d, rt, hr, hr0, hl => by
  rw [Qas]
  try dsimp only
  by_cases c1 : hi <= 2 * rt + 1
  ·rw [decide_eq_true c1]; intro h; cases h
  ·rw [decide_eq_false c1, cond_false]
   have g1 : ∀ d', Qas hi f r d' (2 * rt + 1) ≠ .oof := fun d' => Qm0 r d' _ (by omega) (by omega) (by omega)
   have g2 : ∀ d', Qas hi f r d' (2 * rt + 1 + 1) ≠ .oof := fun d' => Qm0 r d' _ (by omega) (by omega) (by omega)
   have g3 : ∀ (c : Bool) (d' : List Int) (X : LR (List Int) (List Int)), X ≠ .oof -> (bif !c then .ret d' else X) ≠ .oof := fun c d' X hX => by cases c; (intro h; cases h); exact hX
   cases decide (2 * rt + 1 + 1 < hi)
   ·exact g3 _ _ _ (g1 _)
   ·cases Qar (d.getD (f + (2 * rt + 1)).toNat 0) (d.getD (f + (2 * rt + 1) + 1).toNat 0)
    ·exact g3 _ _ _ (g1 _)
    ·exact g3 _ _ _ (g2 _)
theorem Qrh {a b : Int} (h0 : 0 <= a) : ∀ (r : Nat) (d : List Int) (i : Int), i + 1 < (r : Int) -> -1 <= i -> b <= (d.length : Int) -> Hp d a (i + 1) (b - a) ->
  ∃ d', Qa9 a b r d i = .brk d' /\ PI 0 d d' a b /\ Hp d' a 0 (b - a)
 | 0, d, i, hr, hi, hb, h => by omega
 | r + 1, d, i, hr, hi, hb, h => by
  rw [Qa9]
  by_cases c : 0 <= i
  ·simp only [decide_eq_true c, cond_true]
   obtain ⟨k1, k2⟩ := QmU (d := d) (f := a) (lo := i) (hi := b - a) h0 c (by omega) h
   have k1' : PI 0 d (QaY d i (b - a) a) a b := by
    have := k1.mono 0 (a' := a) (b' := b) h0 (by omega) (by omega)
    exact this
   obtain ⟨d', m1, m2, m3⟩ := Qrh h0 r _ (i - 1) (by omega) (by omega) (by rw [k1.len]; exact hb) (by rw [show i - 1 + 1 = i by omega]; exact k2)
   exact ⟨d', m1, k1'.trans 0 m2, m3⟩
  ·simp only [decide_eq_false c, cond_false]
   exact ⟨d, rfl, PI.refl _ _ _ _, by rw [show i + 1 = 0 by omega] at h; exact h⟩
theorem Qq7 {a b : Int} (h0 : 0 <= a) : ∀ (r : Nat) (d : List Int) (i : Int), i + 1 < (r : Int) -> -1 <= i -> a + i < b -> b <= (d.length : Int) -> Hp d a 0 (i + 1) -> Srt 0 idk d (a + i + 1) b -> (∀ p q, a <= p -> p <= a + i -> a + i < q -> q < b -> gi 0 d p <= gi 0 d q) ->
  ∃ d', Qa8 a r d i = .brk d' /\ PI 0 d d' a b /\ Srt 0 idk d' a b
 | 0, d, i, hr, hi, hib, hb, h, hs, hq => by omega
 | r + 1, d, i, hr, hi, hib, hb, h, hs, hq => by
  rw [Qa8]
  by_cases c : 0 <= i
  ·simp only [decide_eq_true c, cond_true]
   have e0 : (swp 0 d a (a + i)).length = d.length := QeN 0 _ _ _
   have g : ∀ k, 0 <= k -> gi 0 (swp 0 d a (a + i)) k = if k = a + i then gi 0 d a else if k = a then gi 0 d (a + i) else gi 0 d k := fun k hk => Qhx 0 ⟨by omega, by omega⟩ ⟨by omega, by omega⟩ hk
   have p1 := PI.swp 0 (d := d) (a := a) (b := b) (i := a) (j := a + i) h0 hb (by omega) (by omega)
   obtain ⟨k1, k2⟩ := QmU (d := swp 0 d a (a + i)) (f := a) (lo := 0) (hi := i) h0 (by omega) (by rw [e0]; omega) (fun j hj c hc hn => by
    rw [g _ (by omega), g _ (by omega), if_neg (by omega), if_neg (by omega), if_neg (by omega), if_neg (by omega)]
    exact h j (by omega) c hc (by omega))
   have k1' := k1.mono 0 (a' := a) (b' := b) h0 (by omega) (by omega)
   have mx : ∀ p, a <= p -> p <= a + i -> gi 0 d p <= gi 0 d a := fun p h1 h2 => by
    have := Qo3 h (p - a).toNat (p - a) (Nat.le_refl _) (by omega) (by omega)
    rw [show a + (p - a) = p by omega, show a + 0 = a by omega] at this; exact this
   -- what lies behind i has not changed since the swap
   have ou : ∀ q, a + i <= q -> q < b -> gi 0 (QaY (swp 0 d a (a + i)) 0 i a) q = if q = a + i then gi 0 d a else gi 0 d q := fun q h1 h2 => by
    rw [k1.out q (by omega) (by omega), g q (by omega)]
    by_cases e : q = a + i
    ·rw [if_pos e, if_pos e]
    ·rw [if_neg e, if_neg (by omega), if_neg e]
   obtain ⟨d', m1, m2, m3⟩ := Qq7 (b := b) h0 r (QaY (swp 0 d a (a + i)) 0 i a) (i - 1) (by omega) (by omega) (by omega) (by rw [k1.len, e0]; exact hb) (by rw [show i - 1 + 1 = i by omega]; exact k2)
    (fun p q h1 h2 h3 => by
     show gi 0 _ p <= gi 0 _ q
     rw [ou p (by omega) (by omega), ou q (by omega) h3]
     by_cases e1 : p = a + i
     ·rw [if_pos e1]
      by_cases e2 : q = a + i
      ·rw [if_pos e2]; exact Int.le_refl _
      ·rw [if_neg e2]; exact hq a q (Int.le_refl _) (by omega) (by omega) h3
     ·rw [if_neg e1, if_neg (by omega)]
      exact hs p q (by omega) h2 h3)
    (fun p q h1 h2 h3 h4 => by
     rw [ou q (by omega) h4]
     obtain ⟨m, n1, n2, n3⟩ := k1.src p (by omega) (by omega)
     rw [n3, g m (by omega), if_neg (by omega)]
     have hm : (if m = a then gi 0 d (a + i) else gi 0 d m) <= gi 0 d a := by
      by_cases e : m = a
      ·rw [if_pos e]; exact mx _ (by omega) (by omega)
      ·rw [if_neg e]; exact mx _ (by omega) (by omega)
     by_cases e : q = a + i
     ·rw [if_pos e]; exact hm
     ·rw [if_neg e]; exact Int.le_trans hm (hq a q (Int.le_refl _) (by omega) (by omega) h4))
   exact ⟨d', m1, (p1.trans 0 k1').trans 0 m2, m3⟩
  ·simp only [decide_eq_false c, cond_false]
   exact ⟨d, rfl, PI.refl _ _ _ _, by rw [show a + i + 1 = a by omega] at hs; exact hs⟩
theorem QmI {d : List Int} {a b : Int} (h0 : 0 <= a) (hab : a <= b) (hb : b <= (d.length : Int)) : PI 0 d (QbM d a b) a b /\ Srt 0 idk (QbM d a b) a b := by
 obtain ⟨d1, k1, k2, k3⟩ := Qrh (a := a) (b := b) h0 ((b - a).toNat + 1) d ((b - a - 1) / 2) (by omega) (by omega) hb (fun i hi c hc hn => by omega)
 obtain ⟨d2, m1, m2, m3⟩ := Qq7 (a := a) (b := b) h0 ((b - a).toNat + 1) d1 (b - a - 1) (by omega) (by omega) (by omega) (by rw [k2.len]; exact hb) (by rw [show b - a - 1 + 1 = b - a by omega]; exact k3) (fun i j h1 h2 h3 => by omega) (fun p q h1 h2 h3 h4 => by omega)
 unfold QbM
 rw [k1]; dsimp only; rw [m1]
 exact ⟨k2.trans 0 m2, m3⟩
theorem Qmt {a b : Int} : ∀ (r : Nat) (d : List Int) (i : Int), i + 1 < (r : Int) -> 0 < r -> Qa9 a b r d i ≠ .oof
 | 0, d, i, hr, hr0 => by omega
 | r + 1, d, i, hr, hr0 => by
  rw [Qa9]
  by_cases c : 0 <= i
  ·rw [decide_eq_true c, cond_true]; exact Qmt r _ _ (by omega) (by omega)
  ·rw [decide_eq_false c]; intro h; cases h
theorem QmX {a : Int} : ∀ (r : Nat) (d : List Int) (i : Int), i + 1 < (r : Int) -> 0 < r -> Qa8 a r d i ≠ .oof
 | 0, d, i, hr, hr0 => by omega
 | r + 1, d, i, hr, hr0 => by
  rw [Qa8]
  by_cases c : 0 <= i
  ·rw [decide_eq_true c, cond_true]; exact QmX r _ _ (by omega) (by omega)
  ·rw [decide_eq_false c]; intro h; cases h
theorem QoN {l : Int} (h : 1 <= l /\ l <= 65535) : 1 <= (QcF l).toNat /\ (QcF l).toNat <= 2 * l.toNat := by
 have e := Qjd (l := l) (by omega)
 obtain ⟨h1, h2, h3⟩ := QoS (x := BitVec.ofInt 64 l) (by omega)
 unfold QcF
 dsimp only
 generalize Qen (BitVec.ofInt 64 l) = n at *
 have ep : (1#64 <<< n.toNat).toNat = 2 ^ n.toNat := by
  rw [BitVec.toNat_shiftLeft]
  have : 2 ^ n.toNat <= 2 ^ 16 := Nat.pow_le_pow_right (by omega) (by omega)
  rw [Nat.shiftLeft_eq, Nat.mod_eq_of_lt (by simp; omega)]
  simp
 rw [ep]
 have := Nat.one_le_two_pow (n := n.toNat)
 omega
theorem Qtf {l : Int} {r : BitVec 64} (h : QcF l = r) (hl : 1 <= l /\ l <= 65535) : 1 <= r.toNat /\ r.toNat <= 2 * l.toNat := h ▸ QoN hl
theorem bp0 {a b : Int} {m : BitVec 64} (h0 : 0 <= a) (hl : 8 <= b - a) (hm : 1 <= m.toNat /\ m.toNat <= 2 * (b - a).toNat) : ∀ (r : Nat) (d : List Int) (x : BitVec 64) (i : Int), a + (b - a) / 4 * 2 + 2 - i < (r : Int) -> 0 < r -> a + (b - a) / 4 * 2 - 1 <= i -> b <= (d.length : Int) ->
  ∃ d', QaE a b m r d x i = .brk d' /\ PI 0 d d' a b
 | 0, d, x, i, hr, hr0, hi, hb => by omega
 | r + 1, d, x, i, hr, hr0, hi, hb => by
  rw [QaE]
  by_cases c : i <= a + (b - a) / 4 * 2 + 1
  ·simp only [decide_eq_true c, cond_true]
   have ha := Qpd (x := (Qdp x).1) (m := m) hm.1
   generalize ((Qdp x).1 &&& (m - 1#64)).toNat = o at *
   by_cases c2 : b - a <= (o : Int)
   ·simp only [decide_eq_true c2, cond_true]
    obtain ⟨d', k1, k2⟩ := bp0 h0 hl hm r (swp 0 d i (a + ((o : Int) - (b - a)))) (Qdp x).2 (i + 1) (by omega) (by omega) (by omega) (by rw [QeN]; exact hb)
    exact ⟨d', k1, (PI.swp 0 (d := d) (a := a) (b := b) (i := i) (j := a + ((o : Int) - (b - a))) h0 hb (by omega) (by omega)).trans 0 k2⟩
   ·simp only [decide_eq_false c2, cond_false]
    obtain ⟨d', k1, k2⟩ := bp0 h0 hl hm r (swp 0 d i (a + (o : Int))) (Qdp x).2 (i + 1) (by omega) (by omega) (by omega) (by rw [QeN]; exact hb)
    exact ⟨d', k1, (PI.swp 0 (d := d) (a := a) (b := b) (i := i) (j := a + (o : Int)) h0 hb (by omega) (by omega)).trans 0 k2⟩
  ·simp only [decide_eq_false c, cond_false]
   exact ⟨d, rfl, PI.refl _ _ _ _⟩
theorem Qq4 {d : List Int} {a b : Int} (h0 : 0 <= a) (hl : 8 <= b - a) (hb : b <= (d.length : Int)) (hd : d.length <= 65535) : PI 0 d (QaJ d a b) a b := by
 unfold QaJ
 simp only [decide_eq_true hl, cond_true]
 obtain ⟨d', k1, k2⟩ := bp0 (a := a) (b := b) h0 hl (QoN (by omega)) 4 d (BitVec.ofInt 64 (b - a)) (a + (b - a) / 4 * 2 - 1) (by omega) (by omega) (by omega) hb
 rw [k1]; exact k2
theorem QtE {a b : Int} {m : BitVec 64} : ∀ (r : Nat) (d : List Int) (x : BitVec 64) (i : Int), a + (b - a) / 4 * 2 + 2 - i < (r : Int) -> 0 < r -> QaE a b m r d x i ≠ .oof
 | 0, d, x, i, hr, hr0 => by omega
 | r + 1, d, x, i, hr, hr0 => by
  rw [QaE]
  by_cases c : i <= a + (b - a) / 4 * 2 + 1
  ·simp only [decide_eq_true c, cond_true]
   by_cases c2 : b - a <= ((((Qdp x).1 &&& (m - 1#64)).toNat : Nat) : Int)
   ·rw [decide_eq_true c2, cond_true]; exact QtE r _ _ _ (by omega) (by omega)
   ·rw [decide_eq_false c2, cond_false]; exact QtE r _ _ _ (by omega) (by omega)
  ·rw [decide_eq_false c]; intro h; cases h
theorem QsR (d : List Int) (a b s : Int) : ((QaX d a b s).1 = a /\ (QaX d a b s).2.1 = b) \/ ((QaX d a b s).1 = b /\ (QaX d a b s).2.1 = a) := by
 unfold QaX
 dsimp only
 cases Qar (d.getD b.toNat 0) (d.getD a.toNat 0)
 ·exact .inl ⟨rfl, rfl⟩
 ·exact .inr ⟨rfl, rfl⟩
theorem QkX (d : List Int) (a b c s : Int) : (QaW d a b c s).1 = a \/ (QaW d a b c s).1 = b \/ (QaW d a b c s).1 = c := by
 unfold QaW
 dsimp only
 have h1 := QsR d a b s
 generalize QaX d a b s = r1 at *
 have h2 := QsR d r1.2.1 c r1.2.2
 generalize QaX d r1.2.1 c r1.2.2 = r2 at *
 have h3 := QsR d r1.1 r2.1 r2.2.2
 generalize QaX d r1.1 r2.1 r2.2.2 = r3 at *
 omega
theorem Qg1 (d : List Int) {a b : Int} (h : 8 <= b - a) : a <= (Qal d a b).1 /\ (Qal d a b).1 < b := by
 unfold Qal Qbg
 dsimp only
 rw [decide_eq_true h, cond_true]
 by_cases c : 50 <= b - a
 ·rw [decide_eq_true c, cond_true]
  have m1 := QkX d (a + (b - a) / 4 * 1 - 1) (a + (b - a) / 4 * 1) (a + (b - a) / 4 * 1 + 1) 0
  generalize QaW d (a + (b - a) / 4 * 1 - 1) (a + (b - a) / 4 * 1) (a + (b - a) / 4 * 1 + 1) 0 = q1 at *
  have m2 := QkX d (a + (b - a) / 4 * 2 - 1) (a + (b - a) / 4 * 2) (a + (b - a) / 4 * 2 + 1) q1.2
  generalize QaW d (a + (b - a) / 4 * 2 - 1) (a + (b - a) / 4 * 2) (a + (b - a) / 4 * 2 + 1) q1.2 = q2 at *
  have m3 := QkX d (a + (b - a) / 4 * 3 - 1) (a + (b - a) / 4 * 3) (a + (b - a) / 4 * 3 + 1) q2.2
  generalize QaW d (a + (b - a) / 4 * 3 - 1) (a + (b - a) / 4 * 3) (a + (b - a) / 4 * 3 + 1) q2.2 = q3 at *
  have m4 := QkX d q1.1 q2.1 q3.1 q3.2
  generalize QaW d q1.1 q2.1 q3.1 q3.2 = q4 at *
  have hq : a <= q4.1 /\ q4.1 < b := by
   have b1 : a <= q1.1 /\ q1.1 < b := by omega
   have b2 : a <= q2.1 /\ q2.1 < b := by omega
   have b3 : a <= q3.1 /\ q3.1 < b := by omega
   clear m1 m2 m3
   rcases m4 with e | e | e <;> rw [e] <;> assumption
  cases q4.2 == 0
  ·cases q4.2 == 12 <;> exact hq
  ·exact hq
 ·rw [decide_eq_false c, cond_false]
  have m4 := QkX d (a + (b - a) / 4 * 1) (a + (b - a) / 4 * 2) (a + (b - a) / 4 * 3) 0
  generalize QaW d (a + (b - a) / 4 * 1) (a + (b - a) / 4 * 2) (a + (b - a) / 4 * 3) 0 = q4 at *
  have hq : a <= q4.1 /\ q4.1 < b := by omega
  cases q4.2 == 0
  ·cases q4.2 == 12 <;> exact hq
  ·exact hq
theorem Quj {a b : Int} (h0 : 0 <= a) : ∀ (r : Nat) (d : List Int) (i j : Int), j - i < (r : Int) -> 0 < r -> a <= i -> j < b -> b <= (d.length : Int) -> ∃ d', QaV r d i j = .brk d' /\ PI 0 d d' a b
 | 0, d, i, j, hr, hr0, hi, hj, hb => by omega
 | r + 1, d, i, j, hr, hr0, hi, hj, hb => by
  rw [QaV]
  by_cases c : i < j
  ·simp only [decide_eq_true c, cond_true]
   obtain ⟨d', k1, k2⟩ := Quj (b := b) h0 r (swp 0 d i j) (i + 1) (j - 1) (by omega) (by omega) (by omega) (by omega) (by rw [QeN]; exact hb)
   exact ⟨d', k1, (PI.swp 0 (d := d) (a := a) (b := b) (i := i) (j := j) h0 hb (by omega) (by omega)).trans 0 k2⟩
  ·simp only [decide_eq_false c, cond_false]
   exact ⟨d, rfl, PI.refl _ _ _ _⟩
theorem Qlt {d : List Int} {a b : Int} (h0 : 0 <= a) (hab : a <= b) (hb : b <= (d.length : Int)) : PI 0 d (Qa3 d a b) a b := by
 obtain ⟨d', k1, k2⟩ := Quj (b := b) h0 ((b - a).toNat + 1) d a (b - 1) (by omega) (by omega) (Int.le_refl _) (by omega) hb
 unfold Qa3
 rw [k1]; exact k2
theorem Qq0 : ∀ (r : Nat) (d : List Int) (i j : Int), j - i < (r : Int) -> 0 < r -> QaV r d i j ≠ .oof
 | 0, d, i, j, hr, hr0 => by omega
 | r + 1, d, i, j, hr, hr0 => by
  rw [QaV]
  by_cases c : i < j
  ·rw [decide_eq_true c, cond_true]; exact Qq0 r _ _ _ (by omega) (by omega)
  ·rw [decide_eq_false c]; intro h; cases h
theorem QuQ {b : Int} (d : List Int) {a : Int} : ∀ (r : Nat) (i : Int), (r : Int) = b - i -> a < i -> Srt 0 idk d a i -> i <= Qai d r i /\ Qai d r i <= b /\ Srt 0 idk d a (Qai d r i) /\
  (Qai d r i < b -> gi 0 d (Qai d r i) < gi 0 d (Qai d r i - 1))
 | 0, i, hr, hi, h => by rw [Qai]; exact ⟨by omega, by omega, h, fun _ => by omega⟩
 | r + 1, i, hr, hi, h => by
  rw [Qai]
  simp only [Qfl]
  by_cases s : d.getD i.toNat 0 < d.getD (i - 1).toNat 0
  ·simp only [decide_eq_true s, Bool.not_true, cond_false]
   exact ⟨Int.le_refl _, by omega, h, fun _ => s⟩
  ·simp only [decide_eq_false s, Bool.not_false, cond_true]
   obtain ⟨m1, m2, m3, m4⟩ := QuQ (b := b) d r (i + 1) (by omega) (by omega) ((Qmn.init 0 idk (by omega) h).done 0 idk (.inr (by show d.getD (i - 1).toNat 0 <= d.getD i.toNat 0; omega)))
   exact ⟨by omega, m2, m3, m4⟩
theorem Quy {a e b : Int} (h0 : 0 <= a) (heb : e <= b) : ∀ (r : Nat) (d : List Int) (j : Int), j < (r : Int) -> 0 < r -> b <= (d.length : Int) -> LB 0 idk d a b -> Qmn 0 idk d a j e -> ∃ d', Qaq r d j = .brk d' /\ PI 0 d d' a e /\ Srt 0 idk d' a e
 | 0, d, j, hr, hr0, hb, hl, h => by omega
 | r + 1, d, j, hr, hr0, hb, hl, h => by
  rw [Qaq]
  have hrg := h.rg
  simp only [Qfl]
  by_cases c : 1 <= j
  ·simp only [decide_eq_true c, cond_true]
   by_cases s : d.getD j.toNat 0 < d.getD (j - 1).toNat 0
   ·simp only [decide_eq_true s, Bool.not_true, cond_false]
    have haj : a < j := by
     have hn : ¬ j = a := fun ej => by
      have := hl (by omega) j (by omega) (by omega)
      subst ej
      have : d.getD (j - 1).toNat 0 <= d.getD j.toNat 0 := this
      omega
     omega
    have p1 := PI.swp 0 (d := d) (a := a) (b := e) (i := j) (j := j - 1) h0 (by omega) (by omega) (by omega)
    obtain ⟨d', k1, k2, k3⟩ := Quy (e := e) h0 heb r (swp 0 d j (j - 1)) (j - 1) (by omega) (by omega) (by rw [QeN]; exact hb) (hl.pi 0 idk (p1.mono 0 h0 (Int.le_refl _) heb)) (h.step 0 idk h0 (by omega) haj s)
    exact ⟨d', k1, p1.trans 0 k2, k3⟩
   ·simp only [decide_eq_false s, Bool.not_false, cond_true]
    exact ⟨d, rfl, PI.refl _ _ _ _, h.done 0 idk (.inr (by show d.getD (j - 1).toNat 0 <= d.getD j.toNat 0; omega))⟩
  ·simp only [decide_eq_false c, cond_false]
   exact ⟨d, rfl, PI.refl _ _ _ _, h.done 0 idk (.inl (by omega))⟩
theorem Qum {i b : Int} (h0 : 0 <= i) : ∀ (r : Nat) (d : List Int) (j : Int), (r : Int) = b - j -> i < j -> b <= (d.length : Int) -> PI 0 d (Qah r d j) i b
 | 0, d, j, hr, hi, hb => by rw [Qah]; exact PI.refl _ _ _ _
 | r + 1, d, j, hr, hi, hb => by
  rw [Qah]
  simp only [Qfl]
  by_cases s : d.getD j.toNat 0 < d.getD (j - 1).toNat 0
  ·simp only [decide_eq_true s, Bool.not_true, cond_false]
   exact (PI.swp 0 (d := d) (a := i) (b := b) (i := j) (j := j - 1) h0 hb (by omega) (by omega)).trans 0 (Qum (b := b) h0 r (swp 0 d j (j - 1)) (j + 1) (by omega) (by omega) (by rw [QeN]; exact hb))
  ·simp only [decide_eq_false s, Bool.not_false, cond_true]
   exact PI.refl _ _ _ _
theorem Qtc {a b : Int} (h0 : 0 <= a) (x : List Int) : ∀ (r : Nat) (d : List Int) (i j : Int), a < i -> i <= b -> b <= (d.length : Int) -> x.length = d.length -> Srt 0 idk d a i -> LB 0 idk d a b ->
  ∃ d', PI 0 d d' a b /\ (Qad x a b r d i j = .brk d' \/ Qad x a b r d i j = .ret (false, d') \/ (Qad x a b r d i j = .ret (true, d') /\ Srt 0 idk d' a b))
 | 0, d, i, j, hi, hib, hb, hx, hs, hl => ⟨d, PI.refl _ _ _ _, .inl (by rw [Qad])⟩
 | r + 1, d, i, j, hi, hib, hb, hx, hs, hl => by
  rw [Qad]
  dsimp only
  obtain ⟨m1, m2, m3, m4⟩ := QuQ (b := b) d (a := a) (b - i).toNat i (by omega) hi hs
  generalize Qai d (b - i).toNat i = o at *
  by_cases c1 : o = b
  ·subst c1
   rw [beq_self_eq_true, cond_true]
   exact ⟨d, PI.refl _ _ _ _, .inr (.inr ⟨rfl, m3⟩)⟩
  ·rw [beq_false_of_ne c1, cond_false]
   by_cases c2 : b - a < 50
   ·rw [decide_eq_true c2, cond_true]
    exact ⟨d, PI.refl _ _ _ _, .inr (.inl rfl)⟩
   ·rw [decide_eq_false c2, cond_false]
    have e1 : (d.set o.toNat (d.getD (o - 1).toNat 0)).set (o - 1).toNat (d.getD o.toNat 0) = swp 0 d o (o - 1) := rfl
    rw [e1]
    have p1 := PI.swp 0 (d := d) (a := a) (b := b) (i := o) (j := o - 1) h0 hb (by omega) (by omega)
    have p1' := PI.swp 0 (d := d) (a := o - 1) (b := o + 1) (i := o) (j := o - 1) (by omega) (by omega) (by omega) (by omega)
    -- the left end in order, then the right one shifted
    have fin : ∀ d2, PI 0 d d2 a b -> Srt 0 idk d2 a o -> ∃ d', PI 0 d d' a b /\ ∃ q, (q = (bif decide (2 <= b - o) then Qad x a b r (Qah (b - (o + 1)).toNat d2 (o + 1)) o (j + 1) else Qad x a b r d2 o (j + 1))) /\
      (q = .brk d' \/ q = .ret (false, d') \/ (q = .ret (true, d') /\ Srt 0 idk d' a b)) := fun d2 h2 h3 => by
     by_cases c4 : 2 <= b - o
     ·rw [decide_eq_true c4, cond_true]
      have p3 := Qum (i := o) (b := b) (by omega) (b - (o + 1)).toNat d2 (o + 1) (by omega) (by omega) (by rw [h2.len]; exact hb)
      have p4 := h2.trans 0 (p3.mono 0 h0 (by omega) (Int.le_refl _))
      obtain ⟨d', k1, k2⟩ := Qtc h0 x r _ o (j + 1) (by omega) m2 (by rw [p4.len]; exact hb) (by rw [p4.len]; exact hx) (h3.pi 0 idk h0 p3 (.inl (Int.le_refl _))) (hl.pi 0 idk p4)
      exact ⟨d', p4.trans 0 k1, _, rfl, k2⟩
     ·rw [decide_eq_false c4, cond_false]
      obtain ⟨d', k1, k2⟩ := Qtc h0 x r d2 o (j + 1) (by omega) m2 (by rw [h2.len]; exact hb) (by rw [h2.len]; exact hx) h3 (hl.pi 0 idk h2)
      exact ⟨d', h2.trans 0 k1, _, rfl, k2⟩
    by_cases c3 : 2 <= o - a
    ·rw [decide_eq_true c3, cond_true]
     have hs1 : Srt 0 idk (swp 0 d o (o - 1)) a (o - 1) := fun p q h1 h2 h3 => by
      rw [p1'.out p (by omega) (by omega), p1'.out q (by omega) (by omega)]; exact m3 p q h1 h2 (by omega)
     obtain ⟨d2, n1, n2, n3⟩ := Quy (a := a) (e := o) (b := b) h0 m2 (x.length + 1) (swp 0 d o (o - 1)) (o - 1) (by omega) (by omega) (by rw [QeN]; exact hb) (hl.pi 0 idk p1) (by
      have := Qmn.init 0 idk (d := swp 0 d o (o - 1)) (a := a) (i := o - 1) (by omega) hs1
      rwa [show o - 1 + 1 = o by omega] at this)
     rw [n1]
     dsimp only
     obtain ⟨d', k1, q, rfl, k2⟩ := fin d2 (p1.trans 0 (n2.mono 0 h0 (Int.le_refl _) m2)) n3
     exact ⟨d', k1, k2⟩
    ·rw [decide_eq_false c3, cond_false]
     obtain ⟨d', k1, q, rfl, k2⟩ := fin (swp 0 d o (o - 1)) p1 (fun p q h1 h2 h3 => by
      have : p = q := by omega
      subst this; exact Int.le_refl _)
     exact ⟨d', k1, k2⟩
theorem QrX {d : List Int} {a b : Int} (h0 : 0 <= a) (hab : a < b) (hb : b <= (d.length : Int)) (hl : LB 0 idk d a b) : PI 0 d (Qam d a b).2 a b /\ ((Qam d a b).1 = true -> Srt 0 idk (Qam d a b).2 a b) := by
 obtain ⟨d', k1, k2⟩ := Qtc (a := a) (b := b) h0 d 5 d (a + 1) 0 (by omega) (by omega) hb rfl (fun p q h1 h2 h3 => by
  have : p = q := by omega
  subst this; exact Int.le_refl _) hl
 unfold Qam
 rcases k2 with k2 | k2 | ⟨k2, k3⟩ <;> rw [k2]
 ·exact ⟨k1, fun h => by cases h⟩
 ·exact ⟨k1, fun h => by cases h⟩
 ·exact ⟨k1, fun _ => k3⟩
theorem QoL : ∀ (r : Nat) (d : List Int) (j : Int), j < (r : Int) -> 0 < r -> Qaq r d j ≠ .oof
 | 0, d, j, hr, hr0 => by omega
 | r + 1, d, j, hr, hr0 => by
  rw [Qaq]
  by_cases c : 1 <= j
  ·simp only [decide_eq_true c, cond_true]
   cases Qar (d.getD j.toNat 0) (d.getD (j - 1).toNat 0)
   ·intro h; cases h
   ·exact QoL r _ _ (by omega) (by omega)
  ·rw [decide_eq_false c]; intro h; cases h
theorem QoZ : ∀ (r : Nat) (d : List Int) (j : Int), j < (r : Int) -> 0 < r -> ∃ d', Qaq r d j = .brk d' /\ d'.length = d.length
 | 0, d, j, hr, hr0 => by omega
 | r + 1, d, j, hr, hr0 => by
  rw [Qaq]
  by_cases c : 1 <= j
  ·simp only [decide_eq_true c, cond_true]
   cases Qar (d.getD j.toNat 0) (d.getD (j - 1).toNat 0)
   ·exact ⟨d, rfl, rfl⟩
   ·obtain ⟨d', k1, k2⟩ := QoZ r ((d.set j.toNat (d.getD (j - 1).toNat 0)).set (j - 1).toNat (d.getD j.toNat 0)) (j - 1) (by omega) (by omega)
    exact ⟨d', k1, by rw [k2]; simp⟩
  ·rw [decide_eq_false c]; exact ⟨d, rfl, rfl⟩
theorem QoC : ∀ (r : Nat) (d : List Int) (j : Int), (Qah r d j).length = d.length
 | 0, d, j => by rw [Qah]
 | r + 1, d, j => by
  rw [Qah]
  try dsimp only
  cases Qar (d.getD j.toNat 0) (d.getD (j - 1).toNat 0)
  ·rfl
  ·show (Qah r _ (j + 1)).length = _
   rw [QoC r]; simp
theorem Qpa {b : Int} (d : List Int) : ∀ (r : Nat) (i : Int), (r : Int) = b - i -> i <= Qai d r i /\ Qai d r i <= b
 | 0, i, hr => by rw [Qai]; omega
 | r + 1, i, hr => by
  rw [Qai]
  try dsimp only
  cases Qar (d.getD i.toNat 0) (d.getD (i - 1).toNat 0)
  ·have := Qpa (b := b) d r (i + 1) (by omega)
   rw [Bool.not_false, cond_true]; omega
  ·rw [Bool.not_true, cond_false]; omega
theorem QmO {a b : Int} (x : List Int) (hb : b <= (x.length : Int)) : ∀ (r : Nat) (d : List Int) (i j : Int), i <= b -> d.length = x.length -> ∃ d', d'.length = x.length /\ (Qad x a b r d i j = .brk d' \/ ∃ t, Qad x a b r d i j = .ret (t, d'))
 | 0, d, i, j, hib, hx => ⟨d, hx, .inl (by rw [Qad])⟩
 | r + 1, d, i, j, hib, hx => by
  rw [Qad]
  try dsimp only
  obtain ⟨m1, m2⟩ := Qpa (b := b) d (b - i).toNat i (by omega)
  generalize Qai d (b - i).toNat i = o at *
  have fin : ∀ d2 : List Int, d2.length = x.length -> ∃ d', d'.length = x.length /\ ((bif decide (2 <= b - o) then Qad x a b r (Qah (b - (o + 1)).toNat d2 (o + 1)) o (j + 1) else Qad x a b r d2 o (j + 1)) = .brk d' \/
    ∃ t, (bif decide (2 <= b - o) then Qad x a b r (Qah (b - (o + 1)).toNat d2 (o + 1)) o (j + 1) else Qad x a b r d2 o (j + 1)) = .ret (t, d')) := fun d2 h2 => by
   cases decide (2 <= b - o)
   ·exact QmO x hb r _ _ _ m2 h2
   ·exact QmO x hb r _ _ _ m2 (by rw [QoC]; exact h2)
  cases o == b
  ·cases decide (b - a < 50)
   ·cases decide (2 <= o - a)
    ·exact fin _ (by simp [hx])
    ·obtain ⟨d2, k1, k2⟩ := QoZ (x.length + 1) ((d.set o.toNat (d.getD (o - 1).toNat 0)).set (o - 1).toNat (d.getD o.toNat 0)) (o - 1) (by omega) (by omega)
     simp only [cond_false, cond_true]
     rw [k1]
     exact fin d2 (by rw [k2]; simp [hx])
   ·exact ⟨d, hx, .inr ⟨false, rfl⟩⟩
  ·exact ⟨d, hx, .inr ⟨true, rfl⟩⟩
theorem Qs4 {d : List Int} {a b : Int} (hab : a < b) (hb : b <= (d.length : Int)) : (Qam d a b).2.length = d.length := by
 obtain ⟨d', k1, k2⟩ := QmO (a := a) (b := b) d hb 5 d (a + 1) 0 (by omega) rfl
 unfold Qam
 rcases k2 with k2 | ⟨t, k2⟩ <;> rw [k2] <;> exact k1
theorem pe1 (a : Int) (d : List Int) (j : Int) : ∀ (r : Nat) (i : Int), j + 1 - i < (r : Int) -> 0 < r -> ∃ i', QaI a d j r i = .brk i' /\ i <= i' /\ (i' <= j + 1 \/ i' = i) /\ (∀ k, i <= k -> k < i' -> gi 0 d k <= gi 0 d a) /\ (i' <= j -> gi 0 d a < gi 0 d i')
 | 0, i, h, h0 => by omega
 | r + 1, i, h, h0 => by
  rw [QaI]
  simp only [Qfl]
  by_cases c : i <= j
  ·simp only [decide_eq_true c, cond_true]
   by_cases s : d.getD a.toNat 0 < d.getD i.toNat 0
   ·simp only [decide_eq_true s, Bool.not_true, cond_false]
    exact ⟨i, rfl, Int.le_refl _, .inr rfl, fun k h1 h2 => by omega, fun _ => s⟩
   ·simp only [decide_eq_false s, Bool.not_false, cond_true]
    obtain ⟨i', m1, m2, m3, m4, m5⟩ := pe1 a d j r (i + 1) (by omega) (by omega)
    refine ⟨i', m1, by omega, .inl (by omega), fun k h1 h2 => ?_, m5⟩
    by_cases e : k = i
    ·subst e; show d.getD k.toNat 0 <= d.getD a.toNat 0; omega
    ·exact m4 k (by omega) h2
  ·simp only [decide_eq_false c, cond_false]
   exact ⟨i, rfl, Int.le_refl _, .inr rfl, fun k h1 h2 => by omega, fun h => by omega⟩
theorem pe2 (a : Int) (d : List Int) (i : Int) : ∀ (r : Nat) (j : Int), j + 1 - i < (r : Int) -> 0 < r -> ∃ j', QaH a d i r j = .brk j' /\ j' <= j /\ (i - 1 <= j' \/ j' = j) /\ (∀ k, j' < k -> k <= j -> gi 0 d a < gi 0 d k) /\ (i <= j' -> gi 0 d j' <= gi 0 d a)
 | 0, j, h, h0 => by omega
 | r + 1, j, h, h0 => by
  rw [QaH]
  simp only [Qfl]
  by_cases c : i <= j
  ·simp only [decide_eq_true c, cond_true]
   by_cases s : d.getD a.toNat 0 < d.getD j.toNat 0
   ·simp only [decide_eq_true s, cond_true]
    obtain ⟨j', m1, m2, m3, m4, m5⟩ := pe2 a d i r (j - 1) (by omega) (by omega)
    refine ⟨j', m1, by omega, .inl (by omega), fun k h1 h2 => ?_, m5⟩
    by_cases e : k = j
    ·subst e; exact s
    ·exact m4 k h1 (by omega)
   ·simp only [decide_eq_false s, cond_false]
    exact ⟨j, rfl, Int.le_refl _, .inr rfl, fun k h1 h2 => by omega, fun _ => by show d.getD j.toNat 0 <= d.getD a.toNat 0; omega⟩
  ·simp only [decide_eq_false c, cond_false]
   exact ⟨j, rfl, Int.le_refl _, .inr rfl, fun k h1 h2 => by omega, fun h => by omega⟩
theorem pe0 {a b : Int} (h0 : 0 <= a) : ∀ (r : Nat) (d : List Int) (i j : Int), j + 1 - i < (r : Int) -> 0 < r -> a + 1 <= i -> i <= b -> i <= j + 2 -> j <= b - 1 -> b <= (d.length : Int) ->
  (∀ k, a <= k -> k < i -> gi 0 d k <= gi 0 d a) -> (∀ k, j < k -> k < b -> gi 0 d a < gi 0 d k) ->
  ∃ d' i', QaP a b r d i j = .brk (d', i') /\ a + 1 <= i' /\ i' <= b /\ PI 0 d d' a b /\ gi 0 d' a = gi 0 d a /\ (∀ k, a <= k -> k < i' -> gi 0 d' k <= gi 0 d' a) /\ (∀ k, i' <= k -> k < b -> gi 0 d' a < gi 0 d' k)
 | 0, d, i, j, hr, hr0, hi, hib, hij, hj, hb, hA, hB => by omega
 | r + 1, d, i, j, hr, hr0, hi, hib, hij, hj, hb, hA, hB => by
  rw [QaP]
  obtain ⟨i', m1, m2, m3, m4, m5⟩ := pe1 a d j ((b - a).toNat + 2) i (by omega) (by omega)
  obtain ⟨j', n1, n2, n3, n4, n5⟩ := pe2 a d i' ((b - a).toNat + 2) j (by omega) (by omega)
  rw [m1]; dsimp only; rw [n1]; dsimp only
  have hA' : ∀ k, a <= k -> k < i' -> gi 0 d k <= gi 0 d a := fun k h1 h2 => by
   by_cases e : k < i
   ·exact hA k h1 e
   ·exact m4 k (by omega) h2
  have hB' : ∀ k, j' < k -> k < b -> gi 0 d a < gi 0 d k := fun k h1 h2 => by
   by_cases e : j < k
   ·exact hB k e h2
   ·exact n4 k h1 (by omega)
  by_cases c : j' < i'
  ·simp only [decide_eq_true c, cond_true]
   exact ⟨d, i', rfl, by omega, by omega, PI.refl _ _ _ _, rfl, hA', fun k h1 h2 => hB' k (by omega) h2⟩
  ·simp only [decide_eq_false c, cond_false]
   have hl : i' ≠ j' := fun e => by have := m5 (by omega); have := n5 (by omega); subst e; omega
   have g : ∀ k, 0 <= k -> gi 0 (swp 0 d i' j') k = if k = j' then gi 0 d i' else if k = i' then gi 0 d j' else gi 0 d k := fun k hk => Qhx 0 ⟨by omega, by omega⟩ ⟨by omega, by omega⟩ hk
   have p1 := PI.swp 0 (d := d) (a := a) (b := b) (i := i') (j := j') h0 hb (by omega) (by omega)
   have ga : gi 0 (swp 0 d i' j') a = gi 0 d a := by rw [g a h0, if_neg (by omega), if_neg (by omega)]
   obtain ⟨d', q, k1, k2, k3, k4, k5, k6, k7⟩ := pe0 (b := b) h0 r (swp 0 d i' j') (i' + 1) (j' - 1) (by omega) (by omega) (by omega) (by omega) (by omega) (by omega) (by rw [QeN]; exact hb)
    (fun k h1 h2 => by
     rw [ga, g k (by omega), if_neg (by omega)]
     by_cases e : k = i'
     ·rw [if_pos e]; exact n5 (by omega)
     ·rw [if_neg e]; exact hA' k h1 (by omega))
    (fun k h1 h2 => by
     rw [ga, g k (by omega)]
     by_cases e : k = j'
     ·rw [if_pos e]; exact m5 (by omega)
     ·rw [if_neg e, if_neg (by omega)]; exact hB' k (by omega) h2)
   exact ⟨d', q, k1, k2, k3, p1.trans 0 k4, k5.trans ga, k6, k7⟩
theorem QrC {d : List Int} {a b p : Int} (h0 : 0 <= a) (hp : a <= p /\ p < b) (hb : b <= (d.length : Int)) : ∀ {r : Int × List Int}, Qao d a b p = r ->
  a < r.1 /\ r.1 <= b /\ PI 0 d r.2 a b /\ gi 0 r.2 a = gi 0 d p /\ (∀ k, a <= k -> k < r.1 -> gi 0 r.2 k <= gi 0 d p) /\ (∀ k, r.1 <= k -> k < b -> gi 0 d p < gi 0 r.2 k) := fun {r} h => by
 subst h
 have g : ∀ k, 0 <= k -> gi 0 (swp 0 d a p) k = if k = p then gi 0 d a else if k = a then gi 0 d p else gi 0 d k := fun k hk => Qhx 0 ⟨by omega, by omega⟩ ⟨by omega, by omega⟩ hk
 have ga : gi 0 (swp 0 d a p) a = gi 0 d p := by
  rw [g a h0]
  by_cases e : a = p
  ·rw [if_pos e, e]
  ·rw [if_neg e, if_pos rfl]
 obtain ⟨d', q, k1, k2, k3, k4, k5, k6, k7⟩ := pe0 (b := b) h0 ((b - a).toNat + 2) (swp 0 d a p) (a + 1) (b - 1) (by omega) (by omega) (by omega) (by omega) (by omega) (by omega) (by rw [QeN]; exact hb)
  (fun k h1 h2 => by rw [show k = a by omega]; exact Int.le_refl _) (fun k h1 h2 => by omega)
 unfold Qao
 have p1 := PI.swp 0 (d := d) (a := a) (b := b) (i := a) (j := p) h0 hb (by omega) (by omega)
 have e : (d.set a.toNat (d.getD p.toNat 0)).set p.toNat (d.getD a.toNat 0) = swp 0 d a p := rfl
 rw [e, k1]
 rw [k5, ga] at k6 k7
 exact ⟨by show a < q; omega, k3, p1.trans 0 k4, k5.trans ga, k6, k7⟩
theorem QsS {a : Int} {d : List Int} {j : Int} {r : Nat} {i : Int} (h : j + 1 - i < (r : Int)) (h0 : 0 < r) : QaI a d j r i ≠ .oof := by
 obtain ⟨_, e, _⟩ := pe1 a d j r i h h0; exact QlH e
theorem Qs3 {a : Int} {d : List Int} {i : Int} {r : Nat} {j : Int} (h : j + 1 - i < (r : Int)) (h0 : 0 < r) : QaH a d i r j ≠ .oof := by
 obtain ⟨_, e, _⟩ := pe2 a d i r j h h0; exact QlH e
theorem Qrc {a b : Int} : ∀ (r : Nat) (d : List Int) (i j : Int), j + 1 - i < (r : Int) -> 0 < r -> a + 1 <= i -> i <= j + 2 -> j <= b - 1 -> QaP a b r d i j ≠ .oof
 | 0, d, i, j, hr, hr0, hi, hij, hj => by omega
 | r + 1, d, i, j, hr, hr0, hi, hij, hj => by
  rw [QaP]
  obtain ⟨i', m1, m2, m3, m4, m5⟩ := pe1 a d j ((b - a).toNat + 2) i (by omega) (by omega)
  obtain ⟨j', n1, n2, n3, n4, n5⟩ := pe2 a d i' ((b - a).toNat + 2) j (by omega) (by omega)
  rw [m1]; dsimp only; rw [n1]; dsimp only
  by_cases c : j' < i'
  ·rw [decide_eq_true c]; intro h; cases h
  ·rw [decide_eq_false c, cond_false]; exact Qrc r _ _ _ (by omega) (by omega) (by omega) (by omega) (by omega)
end Go.SL.G
