/- Part 2 of the walks: mirrors, plain laws and walks used by the last text of this claim. -/
import Derived.Test.YtnlgcebcopebdaaGreatDoorW1
import Derived.Test.YtnlgcebcopebdaaGreatDoorProg
set_option linter.unusedVariables false
set_option linter.unusedSimpArgs false
namespace Go.SL.G
open Go Go.SL Go.Proofs
structure Qbc where
 Op : Int
 Def : Str
 Uses : List Str
 Targets : List Str
instance : Inhabited Qbc := ⟨⟨0, ⟨[]⟩, [], []⟩⟩
structure Qbp where
 Name : Str
 Stmts : List Qbc
instance : Inhabited Qbp := ⟨⟨⟨[]⟩, []⟩⟩
structure QbR where
 Name : Str
 Blocks : List Qbp
instance : Inhabited QbR := ⟨⟨⟨[]⟩, []⟩⟩
structure Qav where
 Funcs : List QbR
instance : Inhabited Qav := ⟨⟨[]⟩⟩
structure QaH where
 Kind : Int
 Func : Int
 Block : Int
 Stmt : Int
instance : Inhabited QaH := ⟨⟨0, 0, 0, 0⟩⟩
structure QaP where
 Nodes : List QaH
 Succ : List (List Int)
 Pred : List (List Int)
instance : Inhabited QaP := ⟨⟨[], [], []⟩⟩
structure Qax where
 Kind : Int
 Text : Str
 Line : Int
 Col : Int
instance : Inhabited Qax := ⟨⟨0, ⟨[]⟩, 0, 0⟩⟩
structure Qab where
 l : List Qax
 at_ : Int
 Err : Int
instance : Inhabited Qab := ⟨⟨[], 0, 0⟩⟩
structure QaU where
 g : QaP
 number : List (QaH × Int)
instance : Inhabited QaU := ⟨⟨⟨[], [], []⟩, []⟩⟩
def Qj4 : Str := (Str.mk [0, 1, 2, 2, 3, 3, 3, 3, 4, 4, 4, 4, 4, 4, 4, 4, 5, 5, 5, 5, 5, 5, 5, 5, 5, 5, 5, 5, 5, 5, 5, 5, 6, 6, 6, 6, 6, 6, 6, 6, 6, 6, 6, 6, 6, 6, 6, 6, 6, 6, 6, 6, 6, 6, 6, 6, 6, 6, 6, 6, 6, 6, 6, 6, 7, 7, 7, 7, 7, 7, 7, 7, 7, 7, 7, 7, 7, 7, 7, 7, 7, 7, 7, 7, 7, 7, 7, 7, 7, 7, 7, 7, 7, 7, 7, 7, 7, 7, 7, 7, 7, 7, 7, 7, 7, 7, 7, 7, 7, 7, 7, 7, 7, 7, 7, 7, 7, 7, 7, 7, 7, 7, 7, 7, 7, 7, 7, 7, 8, 8, 8, 8, 8, 8, 8, 8, 8, 8, 8, 8, 8, 8, 8, 8, 8, 8, 8, 8, 8, 8, 8, 8, 8, 8, 8, 8, 8, 8, 8, 8, 8, 8, 8, 8, 8, 8, 8, 8, 8, 8, 8, 8, 8, 8, 8, 8, 8, 8, 8, 8, 8, 8, 8, 8, 8, 8, 8, 8, 8, 8, 8, 8, 8, 8, 8, 8, 8, 8, 8, 8, 8, 8, 8, 8, 8, 8, 8, 8, 8, 8, 8, 8, 8, 8, 8, 8, 8, 8, 8, 8, 8, 8, 8, 8, 8, 8, 8, 8, 8, 8, 8, 8, 8, 8, 8, 8, 8, 8, 8, 8, 8, 8, 8, 8, 8, 8, 8, 8, 8, 8, 8, 8, 8, 8, 8, 8])
def kwL : List Str := [⟨[102, 117, 110, 99]⟩, ⟨[98, 108, 111, 99, 107]⟩, ⟨[101, 110, 100]⟩, ⟨[117, 115, 101]⟩, ⟨[99, 97, 108, 108]⟩, ⟨[115, 111, 117, 114, 99, 101]⟩, ⟨[115, 105, 110, 107]⟩, ⟨[115, 97, 110, 105, 116, 105, 122, 101]⟩, ⟨[103, 111, 116, 111]⟩, ⟨[98, 114, 97, 110, 99, 104]⟩, ⟨[114, 101, 116, 117, 114, 110]⟩]
instance : DecidableEq QaH := fun a b => decidable_of_iff (a.Kind = b.Kind /\ a.Func = b.Func /\ a.Block = b.Block /\ a.Stmt = b.Stmt) (by cases a; cases b; simp)
abbrev QbU (x : QaH) : Prop := Qac x.Kind /\ Qac x.Func /\ Qac x.Block /\ Qac x.Stmt
abbrev QbZ (x : QaH) : Value := .agg #[vi x.Kind, vi x.Func, vi x.Block, vi x.Stmt]
instance QrQ : Rep Qbc where
 sz := 4
 bytes := 72
 pos := by decide
 bpos := by decide
 rd w M cs x := ∃ c2 c3, cs = [.int .i64 x.Op, .string (bs x.Def), c2, c3] /\ Qac x.Op /\ x.Def.b.length <= 140737488355328 /\ QiJ w M c2 x.Uses /\ QiJ w M c3 x.Targets
 len := by rintro w M cs x ⟨c2, c3, rfl, h0, h1, h2, h3⟩; rfl
 one := by
  rintro w M cs x ⟨c2, c3, rfl, h0, h1, h2, h3⟩ v hv
  simp only [List.mem_cons, List.not_mem_nil, or_false] at hv
  rcases hv with rfl | rfl | rfl | rfl
  all_goals first | rfl | exact Qfa h2 | exact Qfa h3
 st := by
  rintro w M cs x w' M' ⟨c2, c3, rfl, h0, h1, h2, h3⟩ e
  exact ⟨c2, c3, rfl, h0, h1, Qfm h2 e, Qfm h3 e⟩
theorem Qep {C : Cx} {X : Act -> World -> Prop} {L : Env} {A : List SP} {c : Value} {xs : List Qbc} (i m : Nat) (hA : A[m]? = some (sl c xs)) (hi : i < xs.length)
  (h : ∀ (a2 : Option Addr) (k2 : Nat) (a3 : Option Addr) (k3 : Nat), Qac (xs.getD i default).Op -> ((xs.getD i default).Def).b.length <= 140737488355328 -> JJ C X L (pv (QfO 4 c i) [.int .i64 (xs.getD i default).Op, .string (bs (xs.getD i default).Def), .slice a2 (xs.getD i default).Uses.length k2, .slice a3 (xs.getD i default).Targets.length k3] :: sl (.slice a2 (xs.getD i default).Uses.length k2) (xs.getD i default).Uses :: sl (.slice a3 (xs.getD i default).Targets.length k3) (xs.getD i default).Targets :: A)) : JJ C X L A := by
 refine Qh7 i m hA hi default fun cs => ?_
 intro a w M F st
 obtain ⟨F1, F2, q1, q2, qd, hp, F3, F4, q3, q4, qd2, hr, hs⟩ := st.sp
 obtain ⟨c2, c3, rfl, h0, h1, h2, h3⟩ := hr
 have g2 := h2
 obtain ⟨_, a2, k2, rfl, _⟩ := h2
 have g3 := h3
 obtain ⟨_, a3, k3, rfl, _⟩ := h3
 exact h a2 k2 a3 k3 h0 h1 a w M F ⟨st.step, st.sz, st.df, st.sat, F1, F2, q1, q2, qd, hp, ⟨fun _ => False, _, fun _ h => h.elim, fun _ h => h, fun _ h _ => h, g2, ⟨fun _ => False, _, fun _ h => h.elim, fun _ h => h, fun _ h _ => h, g3, QdW hs q4⟩⟩⟩
instance Qqi : Rep Qbp where
 sz := 2
 bytes := 40
 pos := by decide
 bpos := by decide
 rd w M cs x := ∃ c1, cs = [.string (bs x.Name), c1] /\ x.Name.b.length <= 140737488355328 /\ QiJ w M c1 x.Stmts
 len := by rintro w M cs x ⟨c1, rfl, h0, h1⟩; rfl
 one := by
  rintro w M cs x ⟨c1, rfl, h0, h1⟩ v hv
  simp only [List.mem_cons, List.not_mem_nil, or_false] at hv
  rcases hv with rfl | rfl
  all_goals first | rfl | exact Qfa h1
 st := by
  rintro w M cs x w' M' ⟨c1, rfl, h0, h1⟩ e
  exact ⟨c1, rfl, h0, Qfm h1 e⟩
theorem QcZ {C : Cx} {X : Act -> World -> Prop} {L : Env} {A : List SP} {c : Value} {xs : List Qbp} (i m : Nat) (hA : A[m]? = some (sl c xs)) (hi : i < xs.length)
  (h : ∀ (a1 : Option Addr) (k1 : Nat), ((xs.getD i default).Name).b.length <= 140737488355328 -> JJ C X L (pv (QfO 2 c i) [.string (bs (xs.getD i default).Name), .slice a1 (xs.getD i default).Stmts.length k1] :: sl (.slice a1 (xs.getD i default).Stmts.length k1) (xs.getD i default).Stmts :: A)) : JJ C X L A := by
 refine Qh7 i m hA hi default fun cs => ?_
 intro a w M F st
 obtain ⟨F1, F2, q1, q2, qd, hp, F3, F4, q3, q4, qd2, hr, hs⟩ := st.sp
 obtain ⟨c1, rfl, h0, h1⟩ := hr
 have g1 := h1
 obtain ⟨_, a1, k1, rfl, _⟩ := h1
 exact h a1 k1 h0 a w M F ⟨st.step, st.sz, st.df, st.sat, F1, F2, q1, q2, qd, hp, ⟨fun _ => False, _, fun _ h => h.elim, fun _ h => h, fun _ h _ => h, g1, QdW hs q4⟩⟩
instance Qrb : Rep QbR where
 sz := 2
 bytes := 40
 pos := by decide
 bpos := by decide
 rd w M cs x := ∃ c1, cs = [.string (bs x.Name), c1] /\ x.Name.b.length <= 140737488355328 /\ QiJ w M c1 x.Blocks
 len := by rintro w M cs x ⟨c1, rfl, h0, h1⟩; rfl
 one := by
  rintro w M cs x ⟨c1, rfl, h0, h1⟩ v hv
  simp only [List.mem_cons, List.not_mem_nil, or_false] at hv
  rcases hv with rfl | rfl
  all_goals first | rfl | exact Qfa h1
 st := by
  rintro w M cs x w' M' ⟨c1, rfl, h0, h1⟩ e
  exact ⟨c1, rfl, h0, Qfm h1 e⟩
theorem QcV {C : Cx} {X : Act -> World -> Prop} {L : Env} {A : List SP} {c : Value} {xs : List QbR} (i m : Nat) (hA : A[m]? = some (sl c xs)) (hi : i < xs.length)
  (h : ∀ (a1 : Option Addr) (k1 : Nat), ((xs.getD i default).Name).b.length <= 140737488355328 -> JJ C X L (pv (QfO 2 c i) [.string (bs (xs.getD i default).Name), .slice a1 (xs.getD i default).Blocks.length k1] :: sl (.slice a1 (xs.getD i default).Blocks.length k1) (xs.getD i default).Blocks :: A)) : JJ C X L A := by
 refine Qh7 i m hA hi default fun cs => ?_
 intro a w M F st
 obtain ⟨F1, F2, q1, q2, qd, hp, F3, F4, q3, q4, qd2, hr, hs⟩ := st.sp
 obtain ⟨c1, rfl, h0, h1⟩ := hr
 have g1 := h1
 obtain ⟨_, a1, k1, rfl, _⟩ := h1
 exact h a1 k1 h0 a w M F ⟨st.step, st.sz, st.df, st.sat, F1, F2, q1, q2, qd, hp, ⟨fun _ => False, _, fun _ h => h.elim, fun _ h => h, fun _ h _ => h, g1, QdW hs q4⟩⟩
instance Qok : Rep Qav where
 sz := 1
 bytes := 24
 pos := by decide
 bpos := by decide
 rd w M cs x := ∃ c0, cs = [c0] /\ QiJ w M c0 x.Funcs
 len := by rintro w M cs x ⟨c0, rfl, h0⟩; rfl
 one := by
  rintro w M cs x ⟨c0, rfl, h0⟩ v hv
  simp only [List.mem_cons, List.not_mem_nil, or_false] at hv
  rcases hv with rfl
  all_goals first | rfl | exact Qfa h0
 st := by
  rintro w M cs x w' M' ⟨c0, rfl, h0⟩ e
  exact ⟨c0, rfl, Qfm h0 e⟩
instance QrX : Rep QaH where
 sz := 4
 bytes := 32
 pos := by decide
 bpos := by decide
 rd w M cs x := cs = [.int .i64 x.Kind, .int .i64 x.Func, .int .i64 x.Block, .int .i64 x.Stmt] /\ Qac x.Kind /\ Qac x.Func /\ Qac x.Block /\ Qac x.Stmt
 len := by rintro w M cs x ⟨rfl, h0, h1, h2, h3⟩; rfl
 one := by
  rintro w M cs x ⟨rfl, h0, h1, h2, h3⟩ v hv
  simp only [List.mem_cons, List.not_mem_nil, or_false] at hv
  rcases hv with rfl | rfl | rfl | rfl
  all_goals first | rfl
 st := by
  rintro w M cs x w' M' ⟨rfl, h0, h1, h2, h3⟩ e
  exact ⟨rfl, h0, h1, h2, h3⟩
theorem Qmv (w : World) (M : Blk) : Rep.rd w M [vi 0, vi 0, vi 0, vi 0] (default : QaH) := ⟨rfl, by unfold Qac; decide, by unfold Qac; decide, by unfold Qac; decide, by unfold Qac; decide⟩
theorem QhV {C : Cx} {X : Act -> World -> Prop} {L : Env} {A : List SP} {c : Value} {xs : List QaH} (i m : Nat) (hA : A[m]? = some (sl c xs)) (hi : i < xs.length)
  (h : Qac (xs.getD i default).Kind -> Qac (xs.getD i default).Func -> Qac (xs.getD i default).Block -> Qac (xs.getD i default).Stmt -> JJ C X L (pv (QfO 4 c i) [.int .i64 (xs.getD i default).Kind, .int .i64 (xs.getD i default).Func, .int .i64 (xs.getD i default).Block, .int .i64 (xs.getD i default).Stmt] :: A)) : JJ C X L A := by
 refine Qh7 i m hA hi default fun cs => ?_
 intro a w M F st
 obtain ⟨F1, F2, q1, q2, qd, hp, F3, F4, q3, q4, qd2, hr, hs⟩ := st.sp
 obtain ⟨rfl, h0, h1, h2, h3⟩ := hr
 exact h h0 h1 h2 h3 a w M F ⟨st.step, st.sz, st.df, st.sat, F1, F2, q1, q2, qd, hp, QdW hs q4⟩
instance Qql : Rep QaP where
 sz := 3
 bytes := 72
 pos := by decide
 bpos := by decide
 rd w M cs x := ∃ c0 c1 c2, cs = [c0, c1, c2] /\ QiJ w M c0 x.Nodes /\ QiJ w M c1 x.Succ /\ QiJ w M c2 x.Pred
 len := by rintro w M cs x ⟨c0, c1, c2, rfl, h0, h1, h2⟩; rfl
 one := by
  rintro w M cs x ⟨c0, c1, c2, rfl, h0, h1, h2⟩ v hv
  simp only [List.mem_cons, List.not_mem_nil, or_false] at hv
  rcases hv with rfl | rfl | rfl
  all_goals first | rfl | exact Qfa h0 | exact Qfa h1 | exact Qfa h2
 st := by
  rintro w M cs x w' M' ⟨c0, c1, c2, rfl, h0, h1, h2⟩ e
  exact ⟨c0, c1, c2, rfl, Qfm h0 e, Qfm h1 e, Qfm h2 e⟩
instance Qqh : Rep Qax where
 sz := 4
 bytes := 40
 pos := by decide
 bpos := by decide
 rd w M cs x := cs = [.int .i64 x.Kind, .string (bs x.Text), .int .i64 x.Line, .int .i64 x.Col] /\ Qac x.Kind /\ x.Text.b.length <= 140737488355328 /\ Qac x.Line /\ Qac x.Col
 len := by rintro w M cs x ⟨rfl, h0, h1, h2, h3⟩; rfl
 one := by
  rintro w M cs x ⟨rfl, h0, h1, h2, h3⟩ v hv
  simp only [List.mem_cons, List.not_mem_nil, or_false] at hv
  rcases hv with rfl | rfl | rfl | rfl
  all_goals first | rfl
 st := by
  rintro w M cs x w' M' ⟨rfl, h0, h1, h2, h3⟩ e
  exact ⟨rfl, h0, h1, h2, h3⟩
theorem QbO {C : Cx} {X : Act -> World -> Prop} {L : Env} {A : List SP} {c : Value} {xs : List Qax} (i m : Nat) (hA : A[m]? = some (sl c xs)) (hi : i < xs.length)
  (h : Qac (xs.getD i default).Kind -> ((xs.getD i default).Text).b.length <= 140737488355328 -> Qac (xs.getD i default).Line -> Qac (xs.getD i default).Col -> JJ C X L (pv (QfO 4 c i) [.int .i64 (xs.getD i default).Kind, .string (bs (xs.getD i default).Text), .int .i64 (xs.getD i default).Line, .int .i64 (xs.getD i default).Col] :: A)) : JJ C X L A := by
 refine Qh7 i m hA hi default fun cs => ?_
 intro a w M F st
 obtain ⟨F1, F2, q1, q2, qd, hp, F3, F4, q3, q4, qd2, hr, hs⟩ := st.sp
 obtain ⟨rfl, h0, h1, h2, h3⟩ := hr
 exact h h0 h1 h2 h3 a w M F ⟨st.step, st.sz, st.df, st.sat, F1, F2, q1, q2, qd, hp, QdW hs q4⟩
instance QpK : Rep Qab where
 sz := 3
 bytes := 40
 pos := by decide
 bpos := by decide
 rd w M cs x := ∃ c0, cs = [c0, .int .i64 x.at_, .int .i64 x.Err] /\ QiJ w M c0 x.l /\ Qac x.at_ /\ Qac x.Err
 len := by rintro w M cs x ⟨c0, rfl, h0, h1, h2⟩; rfl
 one := by
  rintro w M cs x ⟨c0, rfl, h0, h1, h2⟩ v hv
  simp only [List.mem_cons, List.not_mem_nil, or_false] at hv
  rcases hv with rfl | rfl | rfl
  all_goals first | rfl | exact Qfa h0
 st := by
  rintro w M cs x w' M' ⟨c0, rfl, h0, h1, h2⟩ e
  exact ⟨c0, rfl, Qfm h0 e, h1, h2⟩
theorem QnL (n : Int) (h : 1 <= n /\ n <= 9223372036854775807) : BitVec.ofInt 64 n ≠ 0 := by
 intro e
 have := congrArg BitVec.toNat e
 rw [BitVec.toNat_ofInt] at this
 simp at this
 omega
theorem QiR (v n : Int) (h : 1 <= n /\ n <= 9223372036854775807) : 0 <= (((BitVec.ofInt 64 v) % (BitVec.ofInt 64 n)).toNat : Int) /\ (((BitVec.ofInt 64 v) % (BitVec.ofInt 64 n)).toNat : Int) < n := by
 rw [BitVec.toNat_umod, BitVec.toNat_ofInt, BitVec.toNat_ofInt]
 have e : (n % ((2 ^ 64 : Nat) : Int)).toNat = n.toNat := by omega
 rw [e]
 have : (v % ((2 ^ 64 : Nat) : Int)).toNat % n.toNat < n.toNat := Nat.mod_lt _ (by omega)
 omega
theorem Qrq (v n : Int) (h : 1 <= n /\ n <= 9223372036854775807) : (((BitVec.ofInt 64 v) % (BitVec.ofInt 64 n)).toNat : Int) <= 9223372036854775807 := by
 have := QiR v n h; omega
def QeG (a : List Int) (b : List Int) : Nat -> Int -> LR Unit Bool
 | 0, i =>
  .brk ()
 | r + 1, i =>
  bif ((a.getD i.toNat 0) != (b.getD i.toNat 0)) then
   .ret false
  else
   QeG a b r (i + 1)
def QeR (a : List Int) (b : List Int) : Bool :=
 bif ((a.length : Int) != (b.length : Int)) then
  false
 else
  match QeG a b (((a.length : Int) - 0).toNat) 0 with
  | .brk _ =>
   true
  | .ret r => r
  | .oof => default
def QdQ (x : Int) : Bool :=
 (x != x)
def Qaq (x : Int) (y : Int) : Bool :=
 let rv1 := (QdQ x)
 bif rv1 then
  let rv6 := (QdQ y)
  bif (!rv6) then
   true
  else
   decide (x < y)
 else
  decide (x < y)
def QaM  : Nat -> List Int -> Int -> List Int
 | 0, data', j =>
  data'
 | r + 1, data', j =>
  let rv7 := (Qaq (data'.getD j.toNat 0) (data'.getD ((j - 1) : Int).toNat 0))
  bif rv7 then
   QaM r ((data'.set j.toNat (data'.getD ((j - 1) : Int).toNat 0)).set ((j - 1) : Int).toNat (data'.getD j.toNat 0)) (j - 1)
  else
   data'
def QaI (a : Int) : Nat -> List Int -> Int -> List Int
 | 0, data', i =>
  data'
 | r + 1, data', i =>
  match QaM (((i : Int) - a).toNat) data' i with
  | QdV =>
   QaI a r QdV (i + 1)
def Qbk (data : List Int) (a : Int) (b : Int) : List Int :=
 match QaI a (((b : Int) - (a + 1)).toNat) data (a + 1) with
 | QdN =>
  QdN
def Qar (hi : Int) (first : Int) : Nat -> List Int -> Int -> LR (List Int) (List Int)
 | 0, data', root =>
  .oof
 | r + 1, data', root =>
  bif decide (hi <= ((2 * root) + 1)) then
   .brk data'
  else
   bif decide ((((2 * root) + 1) + 1) < hi) then
    let rv8 := (Qaq (data'.getD ((first + ((2 * root) + 1)) : Int).toNat 0) (data'.getD (((first + ((2 * root) + 1)) + 1) : Int).toNat 0))
    bif rv8 then
     let rv15 := (Qaq (data'.getD ((first + root) : Int).toNat 0) (data'.getD ((first + (((2 * root) + 1) + 1)) : Int).toNat 0))
     bif (!rv15) then
      .ret data'
     else
      Qar hi first r ((data'.set ((first + root) : Int).toNat (data'.getD ((first + (((2 * root) + 1) + 1)) : Int).toNat 0)).set ((first + (((2 * root) + 1) + 1)) : Int).toNat (data'.getD ((first + root) : Int).toNat 0)) (((2 * root) + 1) + 1)
    else
     let rv30 := (Qaq (data'.getD ((first + root) : Int).toNat 0) (data'.getD ((first + ((2 * root) + 1)) : Int).toNat 0))
     bif (!rv30) then
      .ret data'
     else
      Qar hi first r ((data'.set ((first + root) : Int).toNat (data'.getD ((first + ((2 * root) + 1)) : Int).toNat 0)).set ((first + ((2 * root) + 1)) : Int).toNat (data'.getD ((first + root) : Int).toNat 0)) ((2 * root) + 1)
   else
    let rv45 := (Qaq (data'.getD ((first + root) : Int).toNat 0) (data'.getD ((first + ((2 * root) + 1)) : Int).toNat 0))
    bif (!rv45) then
     .ret data'
    else
     Qar hi first r ((data'.set ((first + root) : Int).toNat (data'.getD ((first + ((2 * root) + 1)) : Int).toNat 0)).set ((first + ((2 * root) + 1)) : Int).toNat (data'.getD ((first + root) : Int).toNat 0)) ((2 * root) + 1)
def QaT (data : List Int) (lo : Int) (hi : Int) (first : Int) : List Int :=
 match Qar hi first (hi.toNat + 1) data lo with
 | .brk QdN =>
  QdN
 | .ret r => r
 | .oof => default
def Qa1 (a : Int) (b : Int) : Nat -> List Int -> Int -> LR (List Int) (List Int)
 | 0, data', i =>
  .oof
 | r + 1, data', i =>
  bif decide (0 <= i) then
   let rv4 := (QaT data' i (b - a) a)
   Qa1 a b r rv4 (i - 1)
  else
   .brk data'
def Qa2 (a : Int) : Nat -> List Int -> Int -> LR (List Int) (List Int)
 | 0, data', i =>
  .oof
 | r + 1, data', i =>
  bif decide (0 <= i) then
   let rv7 := (QaT ((data'.set a.toNat (data'.getD ((a + i) : Int).toNat 0)).set ((a + i) : Int).toNat (data'.getD a.toNat 0)) 0 i a)
   Qa2 a r rv7 (i - 1)
  else
   .brk data'
def QbC (data : List Int) (a : Int) (b : Int) : List Int :=
 match Qa1 a b ((b - a).toNat + 1) data (((b - a) - 1) / 2) with
 | .brk QdN =>
  match Qa2 a ((b - a).toNat + 1) QdN ((b - a) - 1) with
  | .brk QdV =>
   QdV
  | .ret _ => default
  | .oof => default
 | .ret _ => default
 | .oof => default
def QfI (x : BitVec 64) : Int :=
 bif decide (256 <= (x.toNat : Int)) then
  ((0 + 8) + ((Qj4.b.getD (((x >>> (((8#64).toNat : Int)).toNat).toNat : Int) : Int).toNat 0).toNat : Int))
 else
  (0 + ((Qj4.b.getD ((x.toNat : Int) : Int).toNat 0).toNat : Int))
def Qd4 (x : BitVec 64) : Int :=
 let rv1 := (QfI x)
 rv1
def Qci (length : Int) : BitVec 64 :=
 let rv1 := (Qd4 (BitVec.ofInt 64 length))
 (1#64 <<< (rv1).toNat)
def QcW (r : BitVec 64) : BitVec 64 × BitVec 64 :=
 ((((r ^^^ (r <<< (((13#64).toNat : Int)).toNat)) ^^^ ((r ^^^ (r <<< (((13#64).toNat : Int)).toNat)) >>> (((7#64).toNat : Int)).toNat)) ^^^ (((r ^^^ (r <<< (((13#64).toNat : Int)).toNat)) ^^^ ((r ^^^ (r <<< (((13#64).toNat : Int)).toNat)) >>> (((7#64).toNat : Int)).toNat)) <<< (((17#64).toNat : Int)).toNat)), (((r ^^^ (r <<< (((13#64).toNat : Int)).toNat)) ^^^ ((r ^^^ (r <<< (((13#64).toNat : Int)).toNat)) >>> (((7#64).toNat : Int)).toNat)) ^^^ (((r ^^^ (r <<< (((13#64).toNat : Int)).toNat)) ^^^ ((r ^^^ (r <<< (((13#64).toNat : Int)).toNat)) >>> (((7#64).toNat : Int)).toNat)) <<< (((17#64).toNat : Int)).toNat)))
def QaA (a : Int) (b : Int) (modulus : BitVec 64) : Nat -> List Int -> BitVec 64 -> Int -> LR (List Int) (List Int)
 | 0, data', random0, idx =>
  .oof
 | r + 1, data', random0, idx =>
  bif decide (idx <= ((a + (((b - a) / 4) * 2)) + 1)) then
   let rv9 := (QcW random0)
   bif decide ((b - a) <= ((rv9.1 &&& (modulus - 1#64)).toNat : Int)) then
    QaA a b modulus r ((data'.set idx.toNat (data'.getD ((a + (((rv9.1 &&& (modulus - 1#64)).toNat : Int) - (b - a))) : Int).toNat 0)).set ((a + (((rv9.1 &&& (modulus - 1#64)).toNat : Int) - (b - a))) : Int).toNat (data'.getD idx.toNat 0)) rv9.2 (idx + 1)
   else
    QaA a b modulus r ((data'.set idx.toNat (data'.getD ((a + ((rv9.1 &&& (modulus - 1#64)).toNat : Int)) : Int).toNat 0)).set ((a + ((rv9.1 &&& (modulus - 1#64)).toNat : Int)) : Int).toNat (data'.getD idx.toNat 0)) rv9.2 (idx + 1)
  else
   .brk data'
def QaG (data : List Int) (a : Int) (b : Int) : List Int :=
 bif decide (8 <= (b - a)) then
  let rv4 := (Qci (b - a))
  match QaA a b rv4 4 data (BitVec.ofInt 64 (b - a)) ((a + (((b - a) / 4) * 2)) - 1) with
  | .brk QdN =>
   QdN
  | .ret _ => default
  | .oof => default
 else
  data
def QaS (data : List Int) (a : Int) (b : Int) (swaps : Int) : Int × Int × Int :=
 let rv3 := (Qaq (data.getD b.toNat 0) (data.getD a.toNat 0))
 bif rv3 then
  (b, a, (swaps + 1))
 else
  (a, b, swaps)
def QaR (data : List Int) (a : Int) (b : Int) (c : Int) (swaps : Int) : Int × Int :=
 let rv1 := (QaS data a b swaps)
 let rv9 := (QaS data rv1.2.1 c rv1.2.2)
 let rv17 := (QaS data rv1.1 rv9.1 rv9.2.2)
 (rv17.2.1, rv17.2.2)
def Qa5 (data : List Int) (a : Int) (swaps : Int) : Int × Int :=
 let rv1 := (QaR data (a - 1) a (a + 1) swaps)
 (rv1.1, rv1.2)
def Qak (data : List Int) (a : Int) (b : Int) : Int × Int :=
 bif decide (8 <= (b - a)) then
  bif decide (50 <= (b - a)) then
   let rv6 := (Qa5 data (a + (((b - a) / 4) * 1)) 0)
   let rv13 := (Qa5 data (a + (((b - a) / 4) * 2)) rv6.2)
   let rv20 := (Qa5 data (a + (((b - a) / 4) * 3)) rv13.2)
   let rv27 := (QaR data rv6.1 rv13.1 rv20.1 rv20.2)
   bif (rv27.2 == 0) then
    (rv27.1, 1)
   else
    bif (rv27.2 == 12) then
     (rv27.1, 2)
    else
     (rv27.1, 0)
  else
   let rv41 := (QaR data (a + (((b - a) / 4) * 1)) (a + (((b - a) / 4) * 2)) (a + (((b - a) / 4) * 3)) 0)
   bif (rv41.2 == 0) then
    (rv41.1, 1)
   else
    bif (rv41.2 == 12) then
     (rv41.1, 2)
    else
     (rv41.1, 0)
 else
  ((a + (((b - a) / 4) * 2)), 1)
def QaQ  : Nat -> List Int -> Int -> Int -> LR (List Int) (List Int)
 | 0, data', i, j =>
  .oof
 | r + 1, data', i, j =>
  bif decide (i < j) then
   QaQ r ((data'.set i.toNat (data'.getD j.toNat 0)).set j.toNat (data'.getD i.toNat 0)) (i + 1) (j - 1)
  else
   .brk data'
def QaY (data : List Int) (a : Int) (b : Int) : List Int :=
 match QaQ ((b - a).toNat + 1) data a (b - 1) with
 | .brk QdN =>
  QdN
 | .ret _ => default
 | .oof => default
def Qai  (data' : List Int) : Nat -> Int -> Int
 | 0, i =>
  i
 | r + 1, i =>
  let rv7 := (Qaq (data'.getD i.toNat 0) (data'.getD ((i - 1) : Int).toNat 0))
  bif (!rv7) then
   Qai data' r (i + 1)
  else
   i
def Qap  : Nat -> List Int -> Int -> LR (List Int) (Bool × List Int)
 | 0, data', j' =>
  .oof
 | r + 1, data', j' =>
  bif decide (1 <= j') then
   let rv18 := (Qaq (data'.getD j'.toNat 0) (data'.getD ((j' - 1) : Int).toNat 0))
   bif (!rv18) then
    .brk data'
   else
    Qap r ((data'.set j'.toNat (data'.getD ((j' - 1) : Int).toNat 0)).set ((j' - 1) : Int).toNat (data'.getD j'.toNat 0)) (j' - 1)
  else
   .brk data'
def Qah  : Nat -> List Int -> Int -> List Int
 | 0, data', j' =>
  data'
 | r + 1, data', j' =>
  let rv21 := (Qaq (data'.getD j'.toNat 0) (data'.getD ((j' - 1) : Int).toNat 0))
  bif (!rv21) then
   data'
  else
   Qah r ((data'.set j'.toNat (data'.getD ((j' - 1) : Int).toNat 0)).set ((j' - 1) : Int).toNat (data'.getD j'.toNat 0)) (j' + 1)
def Qad (data : List Int) (a : Int) (b : Int) : Nat -> List Int -> Int -> Int -> LR (List Int) (Bool × List Int)
 | 0, data', i, j =>
  .brk data'
 | r + 1, data', i, j =>
  match Qai data' (((b : Int) - i).toNat) i with
  | QdV =>
   bif (QdV == b) then
    .ret (true, data')
   else
    bif decide ((b - a) < 50) then
     .ret (false, data')
    else
     bif decide (2 <= (QdV - a)) then
      match Qap (data.length + 1) ((data'.set QdV.toNat (data'.getD ((QdV - 1) : Int).toNat 0)).set ((QdV - 1) : Int).toNat (data'.getD QdV.toNat 0)) (QdV - 1) with
      | .brk Qiu =>
       bif decide (2 <= (b - QdV)) then
        match Qah (((b : Int) - (QdV + 1)).toNat) Qiu (QdV + 1) with
        | Qoa =>
         Qad data a b r Qoa QdV (j + 1)
       else
        Qad data a b r Qiu QdV (j + 1)
      | .ret _ => .oof
      | .oof => .oof
     else
      bif decide (2 <= (b - QdV)) then
       match Qah (((b : Int) - (QdV + 1)).toNat) ((data'.set QdV.toNat (data'.getD ((QdV - 1) : Int).toNat 0)).set ((QdV - 1) : Int).toNat (data'.getD QdV.toNat 0)) (QdV + 1) with
       | Qoa =>
        Qad data a b r Qoa QdV (j + 1)
      else
       Qad data a b r ((data'.set QdV.toNat (data'.getD ((QdV - 1) : Int).toNat 0)).set ((QdV - 1) : Int).toNat (data'.getD QdV.toNat 0)) QdV (j + 1)
def Qal (data : List Int) (a : Int) (b : Int) : Bool × List Int :=
 match Qad data a b 5 data (a + 1) 0 with
 | .brk QdN =>
  (false, QdN)
 | .ret r => r
 | .oof => default
def QaE (a : Int) (data' : List Int) (j : Int) : Nat -> Int -> LR Int (Int × List Int)
 | 0, i =>
  .oof
 | r + 1, i =>
  bif decide (i <= j) then
   let rv7 := (Qaq (data'.getD a.toNat 0) (data'.getD i.toNat 0))
   bif (!rv7) then
    QaE a data' j r (i + 1)
   else
    .brk i
  else
   .brk i
def QaF (a : Int) (data' : List Int) (i : Int) : Nat -> Int -> LR Int (Int × List Int)
 | 0, j =>
  .oof
 | r + 1, j =>
  bif decide (i <= j) then
   let rv8 := (Qaq (data'.getD a.toNat 0) (data'.getD j.toNat 0))
   bif rv8 then
    QaF a data' i r (j - 1)
   else
    .brk j
  else
   .brk j
def QaJ (a : Int) (b : Int) : Nat -> List Int -> Int -> Int -> LR (List Int × Int) (Int × List Int)
 | 0, data', i, j =>
  .oof
 | r + 1, data', i, j =>
  match QaE a data' j ((b - a).toNat + 2) i with
  | .brk QdV =>
   match QaF a data' QdV ((b - a).toNat + 2) j with
   | .brk Qiu =>
    bif decide (Qiu < QdV) then
     .brk (data', QdV)
    else
     QaJ a b r ((data'.set QdV.toNat (data'.getD Qiu.toNat 0)).set Qiu.toNat (data'.getD QdV.toNat 0)) (QdV + 1) (Qiu - 1)
   | .ret _ => .oof
   | .oof => .oof
  | .ret _ => .oof
  | .oof => .oof
def Qao (data : List Int) (a : Int) (b : Int) (pivot : Int) : Int × List Int :=
 match QaJ a b ((b - a).toNat + 2) ((data.set a.toNat (data.getD pivot.toNat 0)).set pivot.toNat (data.getD a.toNat 0)) (a + 1) (b - 1) with
 | .brk (QdN, Qgp) =>
  (Qgp, QdN)
 | .ret _ => default
 | .oof => default
def QaO (data : List Int) (a : Int) (b : Int) (pivot : Int) : Nat -> Int -> LR Int (Int × Bool × List Int)
 | 0, i =>
  .oof
 | r + 1, i =>
  bif decide (i <= (b - 1)) then
   let rv7 := (Qaq (((data.set a.toNat (data.getD pivot.toNat 0)).set pivot.toNat (data.getD a.toNat 0)).getD i.toNat 0) (((data.set a.toNat (data.getD pivot.toNat 0)).set pivot.toNat (data.getD a.toNat 0)).getD a.toNat 0))
   bif rv7 then
    QaO data a b pivot r (i + 1)
   else
    .brk i
  else
   .brk i
def QaN (data : List Int) (a : Int) (pivot : Int) (i : Int) : Nat -> Int -> LR Int (Int × Bool × List Int)
 | 0, j =>
  .oof
 | r + 1, j =>
  bif decide (i <= j) then
   let rv8 := (Qaq (((data.set a.toNat (data.getD pivot.toNat 0)).set pivot.toNat (data.getD a.toNat 0)).getD j.toNat 0) (((data.set a.toNat (data.getD pivot.toNat 0)).set pivot.toNat (data.getD a.toNat 0)).getD a.toNat 0))
   bif (!rv8) then
    QaN data a pivot i r (j - 1)
   else
    .brk j
  else
   .brk j
def QaC (a : Int) (data' : List Int) (j : Int) : Nat -> Int -> LR Int (Int × Bool × List Int)
 | 0, i =>
  .oof
 | r + 1, i =>
  bif decide (i <= j) then
   let rv16 := (Qaq (data'.getD i.toNat 0) (data'.getD a.toNat 0))
   bif rv16 then
    QaC a data' j r (i + 1)
   else
    .brk i
  else
   .brk i
def QaD (a : Int) (data' : List Int) (i : Int) : Nat -> Int -> LR Int (Int × Bool × List Int)
 | 0, j =>
  .oof
 | r + 1, j =>
  bif decide (i <= j) then
   let rv17 := (Qaq (data'.getD j.toNat 0) (data'.getD a.toNat 0))
   bif (!rv17) then
    QaD a data' i r (j - 1)
   else
    .brk j
  else
   .brk j
def QaZ (a : Int) (b : Int) : Nat -> List Int -> Int -> Int -> LR (List Int × Int) (Int × Bool × List Int)
 | 0, data', i, j =>
  .oof
 | r + 1, data', i, j =>
  match QaC a data' j ((b - a).toNat + 2) i with
  | .brk Qoa =>
   match QaD a data' Qoa ((b - a).toNat + 2) j with
   | .brk Qr2 =>
    bif decide (Qr2 < Qoa) then
     .brk (data', Qr2)
    else
     QaZ a b r ((data'.set Qoa.toNat (data'.getD Qr2.toNat 0)).set Qr2.toNat (data'.getD Qoa.toNat 0)) (Qoa + 1) (Qr2 - 1)
   | .ret _ => .oof
   | .oof => .oof
  | .ret _ => .oof
  | .oof => .oof
def Qae (data : List Int) (a : Int) (b : Int) (pivot : Int) : Int × Bool × List Int :=
 match QaO data a b pivot ((b - a).toNat + 2) (a + 1) with
 | .brk QdN =>
  match QaN data a pivot QdN ((b - a).toNat + 2) (b - 1) with
  | .brk QdV =>
   bif decide (QdV < QdN) then
    (QdV, true, ((((data.set a.toNat (data.getD pivot.toNat 0)).set pivot.toNat (data.getD a.toNat 0)).set QdV.toNat (((data.set a.toNat (data.getD pivot.toNat 0)).set pivot.toNat (data.getD a.toNat 0)).getD a.toNat 0)).set a.toNat (((data.set a.toNat (data.getD pivot.toNat 0)).set pivot.toNat (data.getD a.toNat 0)).getD QdV.toNat 0)))
   else
    match QaZ a b ((b - a).toNat + 2) ((((data.set a.toNat (data.getD pivot.toNat 0)).set pivot.toNat (data.getD a.toNat 0)).set QdN.toNat (((data.set a.toNat (data.getD pivot.toNat 0)).set pivot.toNat (data.getD a.toNat 0)).getD QdV.toNat 0)).set QdV.toNat (((data.set a.toNat (data.getD pivot.toNat 0)).set pivot.toNat (data.getD a.toNat 0)).getD QdN.toNat 0)) (QdN + 1) (QdV - 1) with
    | .brk (Qiu, Qob) =>
     (Qob, false, ((Qiu.set Qob.toNat (Qiu.getD a.toNat 0)).set a.toNat (Qiu.getD Qob.toNat 0)))
    | .ret _ => default
    | .oof => default
  | .ret _ => default
  | .oof => default
 | .ret _ => default
 | .oof => default
def Qaa (rc : List Int -> Int -> Int -> Int -> List Int) : Nat -> List Int -> Int -> Int -> Int -> Bool -> Bool -> LR Unit (List Int)
 | 0, data', a', b', limit', wasBalanced, wasPartitioned =>
  .oof
 | r + 1, data', a', b', limit', wasBalanced, wasPartitioned =>
  bif decide ((b' - a') <= 12) then
   let rv4 := (Qbk data' a' b')
   .ret rv4
  else
   bif (limit' == 0) then
    let rv15 := (QbC data' a' b')
    .ret rv15
   else
    bif (!wasBalanced) then
     let rv28 := (QaG data' a' b')
     let rv36 := (Qak rv28 a' b')
     bif (rv36.2 == 2) then
      let rv45 := (QaY rv28 a' b')
      bif decide (0 < a') then
       let rv58 := (Qaq (rv45.getD ((a' - 1) : Int).toNat 0) (rv45.getD (((b' - 1) - (rv36.1 - a')) : Int).toNat 0))
       bif (!rv58) then
        let rv66 := (Qao rv45 a' b' ((b' - 1) - (rv36.1 - a')))
        Qaa rc r rv66.2 rv66.1 b' (limit' - 1) wasBalanced wasPartitioned
       else
        let rv79 := (Qae rv45 a' b' ((b' - 1) - (rv36.1 - a')))
        bif decide ((rv79.1 - a') < (b' - rv79.1)) then
         let rv91 := (rc rv79.2.2 a' rv79.1 (limit' - 1))
         Qaa rc r rv91 (rv79.1 + 1) b' (limit' - 1) (decide (((b' - a') / 8) <= (rv79.1 - a'))) rv79.2.1
        else
         let rv100 := (rc rv79.2.2 (rv79.1 + 1) b' (limit' - 1))
         Qaa rc r rv100 a' rv79.1 (limit' - 1) (decide (((b' - a') / 8) <= (b' - rv79.1))) rv79.2.1
      else
       let rv109 := (Qae rv45 a' b' ((b' - 1) - (rv36.1 - a')))
       bif decide ((rv109.1 - a') < (b' - rv109.1)) then
        let rv121 := (rc rv109.2.2 a' rv109.1 (limit' - 1))
        Qaa rc r rv121 (rv109.1 + 1) b' (limit' - 1) (decide (((b' - a') / 8) <= (rv109.1 - a'))) rv109.2.1
       else
        let rv130 := (rc rv109.2.2 (rv109.1 + 1) b' (limit' - 1))
        Qaa rc r rv130 a' rv109.1 (limit' - 1) (decide (((b' - a') / 8) <= (b' - rv109.1))) rv109.2.1
     else
      bif decide (0 < a') then
       let rv144 := (Qaq (rv28.getD ((a' - 1) : Int).toNat 0) (rv28.getD rv36.1.toNat 0))
       bif (!rv144) then
        let rv152 := (Qao rv28 a' b' rv36.1)
        Qaa rc r rv152.2 rv152.1 b' (limit' - 1) wasBalanced wasPartitioned
       else
        let rv165 := (Qae rv28 a' b' rv36.1)
        bif decide ((rv165.1 - a') < (b' - rv165.1)) then
         let rv177 := (rc rv165.2.2 a' rv165.1 (limit' - 1))
         Qaa rc r rv177 (rv165.1 + 1) b' (limit' - 1) (decide (((b' - a') / 8) <= (rv165.1 - a'))) rv165.2.1
        else
         let rv186 := (rc rv165.2.2 (rv165.1 + 1) b' (limit' - 1))
         Qaa rc r rv186 a' rv165.1 (limit' - 1) (decide (((b' - a') / 8) <= (b' - rv165.1))) rv165.2.1
      else
       let rv195 := (Qae rv28 a' b' rv36.1)
       bif decide ((rv195.1 - a') < (b' - rv195.1)) then
        let rv207 := (rc rv195.2.2 a' rv195.1 (limit' - 1))
        Qaa rc r rv207 (rv195.1 + 1) b' (limit' - 1) (decide (((b' - a') / 8) <= (rv195.1 - a'))) rv195.2.1
       else
        let rv216 := (rc rv195.2.2 (rv195.1 + 1) b' (limit' - 1))
        Qaa rc r rv216 a' rv195.1 (limit' - 1) (decide (((b' - a') / 8) <= (b' - rv195.1))) rv195.2.1
    else
     let rv227 := (Qak data' a' b')
     bif (rv227.2 == 2) then
      let rv236 := (QaY data' a' b')
      bif wasPartitioned then
       let rv248 := (Qal rv236 a' b')
       bif rv248.1 then
        .ret rv248.2
       else
        bif decide (0 < a') then
         let rv262 := (Qaq (rv248.2.getD ((a' - 1) : Int).toNat 0) (rv248.2.getD (((b' - 1) - (rv227.1 - a')) : Int).toNat 0))
         bif (!rv262) then
          let rv270 := (Qao rv248.2 a' b' ((b' - 1) - (rv227.1 - a')))
          Qaa rc r rv270.2 rv270.1 b' limit' wasBalanced wasPartitioned
         else
          let rv283 := (Qae rv248.2 a' b' ((b' - 1) - (rv227.1 - a')))
          bif decide ((rv283.1 - a') < (b' - rv283.1)) then
           let rv295 := (rc rv283.2.2 a' rv283.1 limit')
           Qaa rc r rv295 (rv283.1 + 1) b' limit' (decide (((b' - a') / 8) <= (rv283.1 - a'))) rv283.2.1
          else
           let rv304 := (rc rv283.2.2 (rv283.1 + 1) b' limit')
           Qaa rc r rv304 a' rv283.1 limit' (decide (((b' - a') / 8) <= (b' - rv283.1))) rv283.2.1
        else
         let rv313 := (Qae rv248.2 a' b' ((b' - 1) - (rv227.1 - a')))
         bif decide ((rv313.1 - a') < (b' - rv313.1)) then
          let rv325 := (rc rv313.2.2 a' rv313.1 limit')
          Qaa rc r rv325 (rv313.1 + 1) b' limit' (decide (((b' - a') / 8) <= (rv313.1 - a'))) rv313.2.1
         else
          let rv334 := (rc rv313.2.2 (rv313.1 + 1) b' limit')
          Qaa rc r rv334 a' rv313.1 limit' (decide (((b' - a') / 8) <= (b' - rv313.1))) rv313.2.1
      else
       bif decide (0 < a') then
        let rv346 := (Qaq (rv236.getD ((a' - 1) : Int).toNat 0) (rv236.getD (((b' - 1) - (rv227.1 - a')) : Int).toNat 0))
        bif (!rv346) then
         let rv354 := (Qao rv236 a' b' ((b' - 1) - (rv227.1 - a')))
         Qaa rc r rv354.2 rv354.1 b' limit' wasBalanced wasPartitioned
        else
         let rv367 := (Qae rv236 a' b' ((b' - 1) - (rv227.1 - a')))
         bif decide ((rv367.1 - a') < (b' - rv367.1)) then
          let rv379 := (rc rv367.2.2 a' rv367.1 limit')
          Qaa rc r rv379 (rv367.1 + 1) b' limit' (decide (((b' - a') / 8) <= (rv367.1 - a'))) rv367.2.1
         else
          let rv388 := (rc rv367.2.2 (rv367.1 + 1) b' limit')
          Qaa rc r rv388 a' rv367.1 limit' (decide (((b' - a') / 8) <= (b' - rv367.1))) rv367.2.1
       else
        let rv397 := (Qae rv236 a' b' ((b' - 1) - (rv227.1 - a')))
        bif decide ((rv397.1 - a') < (b' - rv397.1)) then
         let rv409 := (rc rv397.2.2 a' rv397.1 limit')
         Qaa rc r rv409 (rv397.1 + 1) b' limit' (decide (((b' - a') / 8) <= (rv397.1 - a'))) rv397.2.1
        else
         let rv418 := (rc rv397.2.2 (rv397.1 + 1) b' limit')
         Qaa rc r rv418 a' rv397.1 limit' (decide (((b' - a') / 8) <= (b' - rv397.1))) rv397.2.1
     else
      bif wasPartitioned then
       bif (rv227.2 == 1) then
        let rv433 := (Qal data' a' b')
        bif rv433.1 then
         .ret rv433.2
        else
         bif decide (0 < a') then
          let rv447 := (Qaq (rv433.2.getD ((a' - 1) : Int).toNat 0) (rv433.2.getD rv227.1.toNat 0))
          bif (!rv447) then
           let rv455 := (Qao rv433.2 a' b' rv227.1)
           Qaa rc r rv455.2 rv455.1 b' limit' wasBalanced wasPartitioned
          else
           let rv468 := (Qae rv433.2 a' b' rv227.1)
           bif decide ((rv468.1 - a') < (b' - rv468.1)) then
            let rv480 := (rc rv468.2.2 a' rv468.1 limit')
            Qaa rc r rv480 (rv468.1 + 1) b' limit' (decide (((b' - a') / 8) <= (rv468.1 - a'))) rv468.2.1
           else
            let rv489 := (rc rv468.2.2 (rv468.1 + 1) b' limit')
            Qaa rc r rv489 a' rv468.1 limit' (decide (((b' - a') / 8) <= (b' - rv468.1))) rv468.2.1
         else
          let rv498 := (Qae rv433.2 a' b' rv227.1)
          bif decide ((rv498.1 - a') < (b' - rv498.1)) then
           let rv510 := (rc rv498.2.2 a' rv498.1 limit')
           Qaa rc r rv510 (rv498.1 + 1) b' limit' (decide (((b' - a') / 8) <= (rv498.1 - a'))) rv498.2.1
          else
           let rv519 := (rc rv498.2.2 (rv498.1 + 1) b' limit')
           Qaa rc r rv519 a' rv498.1 limit' (decide (((b' - a') / 8) <= (b' - rv498.1))) rv498.2.1
       else
        bif decide (0 < a') then
         let rv531 := (Qaq (data'.getD ((a' - 1) : Int).toNat 0) (data'.getD rv227.1.toNat 0))
         bif (!rv531) then
          let rv539 := (Qao data' a' b' rv227.1)
          Qaa rc r rv539.2 rv539.1 b' limit' wasBalanced wasPartitioned
         else
          let rv552 := (Qae data' a' b' rv227.1)
          bif decide ((rv552.1 - a') < (b' - rv552.1)) then
           let rv564 := (rc rv552.2.2 a' rv552.1 limit')
           Qaa rc r rv564 (rv552.1 + 1) b' limit' (decide (((b' - a') / 8) <= (rv552.1 - a'))) rv552.2.1
          else
           let rv573 := (rc rv552.2.2 (rv552.1 + 1) b' limit')
           Qaa rc r rv573 a' rv552.1 limit' (decide (((b' - a') / 8) <= (b' - rv552.1))) rv552.2.1
        else
         let rv582 := (Qae data' a' b' rv227.1)
         bif decide ((rv582.1 - a') < (b' - rv582.1)) then
          let rv594 := (rc rv582.2.2 a' rv582.1 limit')
          Qaa rc r rv594 (rv582.1 + 1) b' limit' (decide (((b' - a') / 8) <= (rv582.1 - a'))) rv582.2.1
         else
          let rv603 := (rc rv582.2.2 (rv582.1 + 1) b' limit')
          Qaa rc r rv603 a' rv582.1 limit' (decide (((b' - a') / 8) <= (b' - rv582.1))) rv582.2.1
      else
       bif decide (0 < a') then
        let rv615 := (Qaq (data'.getD ((a' - 1) : Int).toNat 0) (data'.getD rv227.1.toNat 0))
        bif (!rv615) then
         let rv623 := (Qao data' a' b' rv227.1)
         Qaa rc r rv623.2 rv623.1 b' limit' wasBalanced wasPartitioned
        else
         let rv636 := (Qae data' a' b' rv227.1)
         bif decide ((rv636.1 - a') < (b' - rv636.1)) then
          let rv648 := (rc rv636.2.2 a' rv636.1 limit')
          Qaa rc r rv648 (rv636.1 + 1) b' limit' (decide (((b' - a') / 8) <= (rv636.1 - a'))) rv636.2.1
         else
          let rv657 := (rc rv636.2.2 (rv636.1 + 1) b' limit')
          Qaa rc r rv657 a' rv636.1 limit' (decide (((b' - a') / 8) <= (b' - rv636.1))) rv636.2.1
       else
        let rv666 := (Qae data' a' b' rv227.1)
        bif decide ((rv666.1 - a') < (b' - rv666.1)) then
         let rv678 := (rc rv666.2.2 a' rv666.1 limit')
         Qaa rc r rv678 (rv666.1 + 1) b' limit' (decide (((b' - a') / 8) <= (rv666.1 - a'))) rv666.2.1
        else
         let rv687 := (rc rv666.2.2 (rv666.1 + 1) b' limit')
         Qaa rc r rv687 a' rv666.1 limit' (decide (((b' - a') / 8) <= (b' - rv666.1))) rv666.2.1
def Qbx (rc : List Int -> Int -> Int -> Int -> List Int) (data : List Int) (a : Int) (b : Int) (limit : Int) : List Int :=
 match Qaa rc ((b - a).toNat + 1) data a b limit true true with
 | .brk _ => default
 | .ret r => r
 | .oof => default
def Qa0 : Nat -> List Int -> Int -> Int -> Int -> List Int
 | 0, _, _, _, _ => default
 | fu + 1, data, a, b, limit => Qbx (Qa0 fu) data a b limit
def Qce (x : List Int) : List Int :=
 let rv1 := (Qd4 (BitVec.ofInt 64 (x.length : Int)))
 let rv5 := (Qa0 (x.length + 1) x 0 (x.length : Int) rv1)
 rv5
def QdF (c : Int) : Bool :=
 bif decide (97 <= c) then
  bif decide (c <= 122) then
   true
  else
   bif decide (65 <= c) then
    decide (c <= 90)
   else
    false
 else
  bif decide (65 <= c) then
   decide (c <= 90)
  else
   false
def Qb8 (s : List Str) (v : Str) : Nat -> Int -> LR Unit Int
 | 0, v8 =>
  .brk ()
 | r + 1, v8 =>
  bif (v == (s.getD v8.toNat default)) then
   .ret v8
  else
   Qb8 s v r (v8 + 1)
def QdC (s : List Str) (v : Str) : Int :=
 match Qb8 s v (((s.length : Int) - 0).toNat) 0 with
 | .brk _ =>
  -1
 | .ret r => r
 | .oof => default
def QcJ (s : List Str) (v : Str) : Bool :=
 let rv1 := (QdC s v)
 decide (0 <= rv1)
def Qha (c : Int) : Bool :=
 bif decide (48 <= c) then
  decide (c <= 57)
 else
  false
def QeA (c : Int) : Bool :=
 let rv1 := (QdF c)
 bif rv1 then
  true
 else
  let rv7 := (Qha c)
  bif rv7 then
   true
  else
   (c == 95)
def QcD (s : Str) : Nat -> Int -> Int
 | 0, i' =>
  i'
 | r + 1, i' =>
  let rv4 := (QeA ((s.b.getD i'.toNat 0).toNat : Int))
  bif rv4 then
   QcD s r (i' + 1)
  else
   i'
def Qe2 (s : Str) (i : Int) : Int :=
 match QcD s (((s.b.length : Int) - i).toNat) i with
 | QdN =>
  QdN
def Qb4 (s : Str) : Bool :=
 bif (s == (Str.mk [])) then
  false
 else
  bif decide (16 < (s.b.length : Int)) then
   false
  else
   let rv8 := (QdF ((s.b.getD (0 : Int).toNat 0).toNat : Int))
   bif (!rv8) then
    false
   else
    let rv18 := (QcJ kwL s)
    bif rv18 then
     false
    else
     let rv24 := (Qe2 s 0)
     (rv24 == (s.b.length : Int))
def QbP (s : List Qbc) (fp : Qbc -> Bool) : Nat -> Int -> LR Unit Int
 | 0, v8 =>
  .brk ()
 | r + 1, v8 =>
  bif (fp (s.getD v8.toNat default)) then
   .ret v8
  else
   QbP s fp r (v8 + 1)
def Qc6 (s : List Qbc) (fp : Qbc -> Bool) : Int :=
 match QbP s fp (((s.length : Int) - 0).toNat) 0 with
 | .brk _ =>
  -1
 | .ret r => r
 | .oof => default
def Qb6 (s : List Qbc) (fp : Qbc -> Bool) : Bool :=
 let rv1 := (Qc6 s fp)
 decide (0 <= rv1)
def QaX (s : List Str) : List Str := s
def QbA (s : List Str) (fp : Str -> Bool) : Nat -> Int -> LR Unit Int
 | 0, v8 =>
  .brk ()
 | r + 1, v8 =>
  bif (fp (s.getD v8.toNat default)) then
   .ret v8
  else
   QbA s fp r (v8 + 1)
def Qcx (s : List Str) (fp : Str -> Bool) : Int :=
 match QbA s fp (((s.length : Int) - 0).toNat) 0 with
 | .brk _ =>
  -1
 | .ret r => r
 | .oof => default
def Qas (s : List Str) (fp : Str -> Bool) : Bool :=
 let rv1 := (Qcx s fp)
 decide (0 <= rv1)
def Qba (n : Str) : Bool :=
 let rv1 := (Qb4 n)
 (!rv1)
def Qa6 (s : Qbc) : Bool :=
 bif (s.Op == 1) then
  let rv5 := (QaX s.Uses)
  bif ((s.Uses.length : Int) == (s.Uses.length : Int)) then
   bif decide ((s.Uses.length : Int) <= 4) then
    bif ((s.Targets.length : Int) == 0) then
     let rv34 := (Qas ((rv5 ++ s.Targets) ++ [s.Def]) (fun x => Qba x))
     (!rv34)
    else
     false
   else
    false
  else
   false
 else
  bif (s.Op == 2) then
   let rv44 := (QaX s.Uses)
   bif (s.Def == (Str.mk [])) then
    bif ((s.Uses.length : Int) == (max (s.Uses.length : Int) 1)) then
     bif decide ((max (s.Uses.length : Int) 1) <= 4) then
      bif ((s.Targets.length : Int) == 0) then
       let rv66 := (Qas (rv44 ++ s.Targets) (fun x => Qba x))
       (!rv66)
      else
       false
     else
      false
    else
     false
   else
    false
  else
   bif (s.Op == 5) then
    let rv77 := (QaX s.Uses)
    bif (s.Def == (Str.mk [])) then
     bif ((s.Uses.length : Int) == 1) then
      bif ((s.Targets.length : Int) == 0) then
       let rv97 := (Qas (rv77 ++ s.Targets) (fun x => Qba x))
       (!rv97)
      else
       false
     else
      false
    else
     false
   else
    bif (s.Op == 4) then
     let rv109 := (QaX s.Uses)
     bif ((s.Uses.length : Int) == 0) then
      bif ((s.Targets.length : Int) == 0) then
       let rv136 := (Qas ((rv109 ++ s.Targets) ++ [s.Def]) (fun x => Qba x))
       (!rv136)
      else
       false
     else
      false
    else
     bif (s.Op == 6) then
      let rv145 := (QaX s.Uses)
      bif ((s.Uses.length : Int) == 0) then
       bif ((s.Targets.length : Int) == 0) then
        let rv172 := (Qas ((rv145 ++ s.Targets) ++ [s.Def]) (fun x => Qba x))
        (!rv172)
       else
        false
      else
       false
     else
      bif (s.Op == 8) then
       let rv183 := (QaX s.Uses)
       bif (s.Def == (Str.mk [])) then
        bif ((s.Uses.length : Int) == 1) then
         bif ((s.Targets.length : Int) == ((0 + 1) + 1)) then
          let rv203 := (Qas (rv183 ++ s.Targets) (fun x => Qba x))
          (!rv203)
         else
          false
        else
         false
       else
        false
      else
       bif (s.Op == 3) then
        let rv217 := (QaX s.Uses)
        bif (s.Def == (Str.mk [])) then
         bif ((s.Uses.length : Int) == 0) then
          bif ((s.Targets.length : Int) == (0 + 1)) then
           let rv237 := (Qas (rv217 ++ s.Targets) (fun x => Qba x))
           (!rv237)
          else
           false
         else
          false
        else
         false
       else
        bif (s.Op == 7) then
         let rv249 := (QaX s.Uses)
         bif (s.Def == (Str.mk [])) then
          bif ((s.Uses.length : Int) == 0) then
           bif ((s.Targets.length : Int) == (0 + 1)) then
            let rv269 := (Qas (rv249 ++ s.Targets) (fun x => Qba x))
            (!rv269)
           else
            false
          else
           false
         else
          false
        else
         bif (s.Op == 9) then
          let rv279 := (QaX s.Uses)
          bif (s.Def == (Str.mk [])) then
           bif ((s.Uses.length : Int) == 0) then
            bif ((s.Targets.length : Int) == 0) then
             let rv299 := (Qas (rv279 ++ s.Targets) (fun x => Qba x))
             (!rv299)
            else
             false
           else
            false
          else
           false
         else
          false
def QfM (s : Qbc) : Bool :=
 let rv2 := (Qa6 s)
 (!rv2)
def Qcq  (v41 : List Qbp) : Nat -> Int -> LR Unit Bool
 | 0, v43 =>
  .brk ()
 | r + 1, v43 =>
  let rv38 := (Qb4 ((v41.getD v43.toNat default).Name))
  bif (!rv38) then
   .ret false
  else
   bif decide ((((v41.getD v43.toNat default).Stmts).length : Int) < 1) then
    .ret false
   else
    bif decide (32 < (((v41.getD v43.toNat default).Stmts).length : Int)) then
     .ret false
    else
     let rv54 := (Qb6 ((v41.getD v43.toNat default).Stmts) (fun x => QfM x))
     bif rv54 then
      .ret false
     else
      Qcq v41 r (v43 + 1)
def QbW (p : Qav) : Nat -> Int -> LR Unit Bool
 | 0, v20 =>
  .brk ()
 | r + 1, v20 =>
  let rv15 := (Qb4 ((p.Funcs.getD v20.toNat default).Name))
  bif (!rv15) then
   .ret false
  else
   bif decide ((((p.Funcs.getD v20.toNat default).Blocks).length : Int) < 1) then
    .ret false
   else
    bif decide (16 < (((p.Funcs.getD v20.toNat default).Blocks).length : Int)) then
     .ret false
    else
     match Qcq ((p.Funcs.getD v20.toNat default).Blocks) ((((((p.Funcs.getD v20.toNat default).Blocks).length : Int) : Int) - 0).toNat) 0 with
     | .brk _ =>
      QbW p r (v20 + 1)
     | .ret r => .ret r
     | .oof => .oof
def Qcd (p : Qav) : Bool :=
 bif decide ((p.Funcs.length : Int) < 1) then
  false
 else
  bif decide (8 < (p.Funcs.length : Int)) then
   false
  else
   match QbW p (((p.Funcs.length : Int) - 0).toNat) 0 with
   | .brk _ =>
    true
   | .ret r => r
   | .oof => default
def Qbr (l : List QbR) (namep : QbR -> Str) : Nat -> List (Str × Bool) -> Int -> Int -> (List (Str × Bool)) × Int
 | 0, known, at_, v13 =>
  (known, at_)
 | r + 1, known, at_, v13 =>
  bif ((Qev known (namep (l.getD v13.toNat default))).getD false) then
   bif decide (at_ < 0) then
    Qbr l namep r (mset known (namep (l.getD v13.toNat default)) true) v13 (v13 + 1)
   else
    Qbr l namep r (mset known (namep (l.getD v13.toNat default)) true) at_ (v13 + 1)
  else
   Qbr l namep r (mset known (namep (l.getD v13.toNat default)) true) at_ (v13 + 1)
def Qel (l : List QbR) (namep : QbR -> Str) : Int × (List (Str × Bool)) :=
 match Qbr l namep (((l.length : Int) - 0).toNat) [] (-1) 0 with
 | (QdN, Qgp) =>
  (Qgp, QdN)
def Qgj (f : QbR) : Str :=
 f.Name
def Qbn (l : List Qbp) (namep : Qbp -> Str) : Nat -> List (Str × Bool) -> Int -> Int -> (List (Str × Bool)) × Int
 | 0, known, at_, v13 =>
  (known, at_)
 | r + 1, known, at_, v13 =>
  bif ((Qev known (namep (l.getD v13.toNat default))).getD false) then
   bif decide (at_ < 0) then
    Qbn l namep r (mset known (namep (l.getD v13.toNat default)) true) v13 (v13 + 1)
   else
    Qbn l namep r (mset known (namep (l.getD v13.toNat default)) true) at_ (v13 + 1)
  else
   Qbn l namep r (mset known (namep (l.getD v13.toNat default)) true) at_ (v13 + 1)
def Qd2 (l : List Qbp) (namep : Qbp -> Str) : Int × (List (Str × Bool)) :=
 match Qbn l namep (((l.length : Int) - 0).toNat) [] (-1) 0 with
 | (QdN, Qgp) =>
  (Qgp, QdN)
def QeN (b : Qbp) : Str :=
 b.Name
def Qek (s : Qbc) : Bool :=
 bif (s.Op == 7) then
  true
 else
  bif (s.Op == 8) then
   true
  else
   (s.Op == 9)
def Qc8 (s : Qbc) (known : List (Str × Bool)) : Nat -> Int -> LR Unit Int
 | 0, v16 =>
  .brk ()
 | r + 1, v16 =>
  bif (!((Qev known (s.Targets.getD v16.toNat default)).getD false)) then
   .ret 5
  else
   Qc8 s known r (v16 + 1)
def QdO (s : Qbc) (last : Bool) (known : List (Str × Bool)) : Int :=
 let rv2 := (Qek s)
 bif (!(rv2 == last)) then
  4
 else
  match Qc8 s known (((s.Targets.length : Int) - 0).toNat) 0 with
  | .brk _ =>
   0
  | .ret r => r
  | .oof => default
def Qcm (i : Int) (funcs : List (Str × Bool)) (blocks : List (Str × Bool)) (k : Int) (b1 : List Qbc) (v36 : List Qbc) : Nat -> Int -> LR Unit (QaH × Int)
 | 0, v38 =>
  .brk ()
 | r + 1, v38 =>
  bif ((v36.getD v38.toNat default).Op == 3) then
   let rv34 := (QdO (v36.getD v38.toNat default) (v38 == ((b1.length : Int) - 1)) funcs)
   bif (rv34 != 0) then
    .ret ((QaH.mk 3 i k v38), rv34)
   else
    Qcm i funcs blocks k b1 v36 r (v38 + 1)
  else
   let rv42 := (QdO (v36.getD v38.toNat default) (v38 == ((b1.length : Int) - 1)) blocks)
   bif (rv42 != 0) then
    .ret ((QaH.mk 3 i k v38), rv42)
   else
    Qcm i funcs blocks k b1 v36 r (v38 + 1)
def Qc3 (f : QbR) (i : Int) (funcs : List (Str × Bool)) (blocks : List (Str × Bool)) : Nat -> Int -> LR Unit (QaH × Int)
 | 0, v30 =>
  .brk ()
 | r + 1, v30 =>
  match Qcm i funcs blocks v30 ((f.Blocks.getD v30.toNat default).Stmts) ((f.Blocks.getD v30.toNat default).Stmts) ((((((f.Blocks.getD v30.toNat default).Stmts).length : Int) : Int) - 0).toNat) 0 with
  | .brk _ =>
   Qc3 f i funcs blocks r (v30 + 1)
  | .ret r => .ret r
  | .oof => .oof
def Qez (f : QbR) (i : Int) (funcs : List (Str × Bool)) : QaH × Int :=
 let rv4 := (Qd2 f.Blocks (fun x0 => QeN x0))
 bif decide (0 <= rv4.1) then
  ((QaH.mk 3 i rv4.1 (-1)), 6)
 else
  match Qc3 f i funcs rv4.2 (((f.Blocks.length : Int) - 0).toNat) 0 with
  | .brk _ =>
   ((QaH.mk 0 0 0 0), 0)
  | .ret r => r
  | .oof => default
def QdD (s : Qbc) (cap0 : Int) (cap1 : Int) : Int × Int :=
 bif (s.Op == 3) then
  (((cap0 + 1) + 1), (cap1 + 3))
 else
  bif (s.Op == 8) then
   ((cap0 + 1), (cap1 + 2))
  else
   ((cap0 + 1), (cap1 + 1))
def QbF  (v28 : List Qbc) : Nat -> Int -> Int -> Int -> Int × Int
 | 0, st00, st10, v30 =>
  (st00, st10)
 | r + 1, st00, st10, v30 =>
  let rv39 := (QdD (v28.getD v30.toNat default) st00 st10)
  QbF v28 r rv39.1 rv39.2 (v30 + 1)
def QcI  (v21 : List Qbp) : Nat -> Int -> Int -> Int -> Int × Int
 | 0, st00, st10, v23 =>
  (st00, st10)
 | r + 1, st00, st10, v23 =>
  match QbF ((v21.getD v23.toNat default).Stmts) ((((((v21.getD v23.toNat default).Stmts).length : Int) : Int) - 0).toNat) st00 st10 0 with
  | (Qiu, Qob) =>
   QcI v21 r Qiu Qob (v23 + 1)
def QcH (p : Qav) : Nat -> Int -> Int -> Int -> Int × Int
 | 0, st00, st10, v16 =>
  (st00, st10)
 | r + 1, st00, st10, v16 =>
  match QcI ((p.Funcs.getD v16.toNat default).Blocks) ((((((p.Funcs.getD v16.toNat default).Blocks).length : Int) : Int) - 0).toNat) st00 st10 0 with
  | (QdV, Qfn) =>
   QcH p r QdV Qfn (v16 + 1)
def Qd7 (p : Qav) (st0 : Int) (st1 : Int) : Int × Int :=
 let rv2 := (Qcd p)
 bif (!rv2) then
  (st0, st1)
 else
  match QcH p (((p.Funcs.length : Int) - 0).toNat) st0 st1 0 with
  | (QdN, Qgp) =>
   (QdN, Qgp)
def Qg9 (p : Qav) : Int × Int :=
 let rv2 := (Qcd p)
 bif (!rv2) then
  (0, 0)
 else
  let rv14 := (Qd7 p (2 * (p.Funcs.length : Int)) (p.Funcs.length : Int))
  (rv14.1, rv14.2)
def Qc2 (n : Str) (cap0 : List (Str × Bool)) (cap1 : List Str) : (List (Str × Bool)) × List Str :=
 bif (n != (Str.mk [])) then
  bif (!((Qev cap0 n).getD false)) then
   ((mset cap0 n true), (cap1 ++ [n]))
  else
   (cap0, cap1)
 else
  (cap0, cap1)
def Qbw (s : Qbc) : Nat -> List (Str × Bool) -> List Str -> Int -> (List (Str × Bool)) × List Str
 | 0, st00, st10, v12 =>
  (st00, st10)
 | r + 1, st00, st10, v12 =>
  let rv17 := (Qc2 (s.Uses.getD v12.toNat default) st00 st10)
  Qbw s r rv17.1 rv17.2 (v12 + 1)
def Qcv (s : Qbc) (st0 : List (Str × Bool)) (st1 : List Str) : (List (Str × Bool)) × List Str :=
 let rv3 := (Qc2 s.Def st0 st1)
 match Qbw s (((s.Uses.length : Int) - 0).toNat) rv3.1 rv3.2 0 with
 | (QdN, Qgp) =>
  (QdN, Qgp)
def Qcc  (v28 : List Qbc) : Nat -> List (Str × Bool) -> List Str -> Int -> (List (Str × Bool)) × List Str
 | 0, st10, st20, v30 =>
  (st10, st20)
 | r + 1, st10, st20, v30 =>
  let rv40 := (Qcv (v28.getD v30.toNat default) st10 st20)
  Qcc v28 r rv40.1 rv40.2 (v30 + 1)
def Qca  (v21 : List Qbp) : Nat -> List (Str × Bool) -> List Str -> Int -> (List (Str × Bool)) × List Str
 | 0, st10, st20, v23 =>
  (st10, st20)
 | r + 1, st10, st20, v23 =>
  match Qcc ((v21.getD v23.toNat default).Stmts) ((((((v21.getD v23.toNat default).Stmts).length : Int) : Int) - 0).toNat) st10 st20 0 with
  | (Qiu, Qob) =>
   Qca v21 r Qiu Qob (v23 + 1)
def Qcb (p : Qav) : Nat -> List (Str × Bool) -> List Str -> Int -> (List (Str × Bool)) × List Str
 | 0, st10, st20, v16 =>
  (st10, st20)
 | r + 1, st10, st20, v16 =>
  match Qca ((p.Funcs.getD v16.toNat default).Blocks) ((((((p.Funcs.getD v16.toNat default).Blocks).length : Int) : Int) - 0).toNat) st10 st20 0 with
  | (QdV, Qfn) =>
   Qcb p r QdV Qfn (v16 + 1)
def Qc9 (p : Qav) (st1 : List (Str × Bool)) (st2 : List Str) : (List (Str × Bool)) × List Str :=
 let rv2 := (Qcd p)
 bif (!rv2) then
  (st1, st2)
 else
  match Qcb p (((p.Funcs.length : Int) - 0).toNat) st1 st2 0 with
  | (QdN, Qgp) =>
   (QdN, Qgp)
def Qf3 (p : Qav) : List Str :=
 let rv8 := (Qc9 p [] ([] : List Str))
 rv8.2
def Qew (p : Qav) (funcs : List (Str × Bool)) : Nat -> Int -> LR Unit (QaH × Int)
 | 0, v29 =>
  .brk ()
 | r + 1, v29 =>
  let rv29 := (Qez (p.Funcs.getD v29.toNat default) v29 funcs)
  bif (rv29.2 != 0) then
   .ret (rv29.1, rv29.2)
  else
   Qew p funcs r (v29 + 1)
def Qde (p : Qav) : QaH × Int :=
 let rv3 := (Qcd p)
 bif (!rv3) then
  ((QaH.mk 0 0 0 0), 1)
 else
  let rv14 := (Qel p.Funcs (fun x0 => Qgj x0))
  bif decide (0 <= rv14.1) then
   ((QaH.mk 1 rv14.1 (-1) (-1)), 6)
  else
   match Qew p rv14.2 (((p.Funcs.length : Int) - 0).toNat) 0 with
   | .brk _ =>
    let rv22 := (Qg9 p)
    let rv29 := (Qf3 p)
    bif decide (64 < (rv29.length : Int)) then
     ((QaH.mk 0 0 0 0), 7)
    else
     bif decide (256 < rv22.1) then
      ((QaH.mk 0 0 0 0), 7)
     else
      bif decide (1024 < rv22.2) then
       ((QaH.mk 0 0 0 0), 7)
      else
       ((QaH.mk 0 0 0 0), 0)
   | .ret r => r
   | .oof => default
def QdH  (i : Int) (k : Int) (v41 : List Qbc) : Nat -> List QaH -> Int -> List QaH
 | 0, out, v43 =>
  out
 | r + 1, out, v43 =>
  bif ((v41.getD v43.toNat default).Op == 3) then
   QdH i k v41 r ((out ++ [(QaH.mk 3 i k v43)]) ++ [(QaH.mk 4 i k v43)]) (v43 + 1)
  else
   QdH i k v41 r (out ++ [(QaH.mk 3 i k v43)]) (v43 + 1)
def Qen  (i : Int) (v33 : List Qbp) : Nat -> List QaH -> Int -> List QaH
 | 0, out, v35 =>
  out
 | r + 1, out, v35 =>
  match QdH i v35 ((v33.getD v35.toNat default).Stmts) ((((((v33.getD v35.toNat default).Stmts).length : Int) : Int) - 0).toNat) out 0 with
  | Qiu =>
   Qen i v33 r Qiu (v35 + 1)
def Qej (p : Qav) : Nat -> List QaH -> Int -> List QaH
 | 0, out, v22 =>
  out
 | r + 1, out, v22 =>
  match Qen v22 ((p.Funcs.getD v22.toNat default).Blocks) ((((((p.Funcs.getD v22.toNat default).Blocks).length : Int) : Int) - 0).toNat) (out ++ [(QaH.mk 1 v22 (-1) (-1))]) 0 with
  | QdV =>
   Qej p r (QdV ++ [(QaH.mk 2 v22 (-1) (-1))]) (v22 + 1)
def Qgb (p : Qav) : List QaH :=
 let rv2 := (Qde p)
 bif (rv2.2 != 0) then
  ([] : List QaH)
 else
  match Qej p (((p.Funcs.length : Int) - 0).toNat) [] 0 with
  | QdN =>
   QdN
def QcE (s : List Int) (v : Int) : Nat -> Int -> LR Unit Int
 | 0, v8 =>
  .brk ()
 | r + 1, v8 =>
  bif (v == (s.getD v8.toNat 0)) then
   .ret v8
  else
   QcE s v r (v8 + 1)
def QeF (s : List Int) (v : Int) : Int :=
 match QcE s v (((s.length : Int) - 0).toNat) 0 with
 | .brk _ =>
  -1
 | .ret r => r
 | .oof => default
def Qcs (s : List Int) (v : Int) : Bool :=
 let rv1 := (QeF s v)
 decide (0 <= rv1)
def QcO (b : QaU) (from_ : Int) (to_ : Int) : QaU :=
 let rv5 := (Qcs (b.g.Succ.getD from_.toNat []) to_)
 bif rv5 then
  b
 else
  (QaU.mk (QaP.mk b.g.Nodes (b.g.Succ.set from_.toNat ((b.g.Succ.getD from_.toNat []) ++ [to_])) (b.g.Pred.set to_.toNat ((b.g.Pred.getD to_.toNat []) ++ [from_]))) b.number)
def Qgo (b : QaU) (kind : Int) (f : Int) (block : Int) (stmt : Int) : Int :=
 ((Qev b.number (QaH.mk kind f block stmt)).getD 0)
def QbV (s : List Qbp) (fp : Qbp -> Bool) : Nat -> Int -> LR Unit Int
 | 0, v8 =>
  .brk ()
 | r + 1, v8 =>
  bif (fp (s.getD v8.toNat default)) then
   .ret v8
  else
   QbV s fp r (v8 + 1)
def Qdl (s : List Qbp) (fp : Qbp -> Bool) : Int :=
 match QbV s fp (((s.length : Int) - 0).toNat) 0 with
 | .brk _ =>
  -1
 | .ret r => r
 | .oof => default
def Qgk (x : Qbp) (cap0 : Str) : Bool :=
 (x.Name == cap0)
def Qgw (b : QaU) (p : Qav) (f : Int) (name : Str) : Int :=
 let rv7 := (Qdl ((p.Funcs.getD f.toNat default).Blocks) (fun x => Qgk x name))
 let rv11 := (Qgo b 3 f rv7 0)
 rv11
def Qb7 (s : List QbR) (fp : QbR -> Bool) : Nat -> Int -> LR Unit Int
 | 0, v8 =>
  .brk ()
 | r + 1, v8 =>
  bif (fp (s.getD v8.toNat default)) then
   .ret v8
  else
   Qb7 s fp r (v8 + 1)
def QdG (s : List QbR) (fp : QbR -> Bool) : Int :=
 match Qb7 s fp (((s.length : Int) - 0).toNat) 0 with
 | .brk _ =>
  -1
 | .ret r => r
 | .oof => default
def QgR (x : QbR) (cap0 : Qbc) : Bool :=
 (x.Name == (cap0.Targets.getD (0 : Int).toNat default))
def QdI (p : Qav) (n : QaH) (s : Qbc) (here : Int) : Nat -> List QaH -> List (List Int) -> List (List Int) -> List (QaH × Int) -> Int -> List QaH × List (List Int) × List (List Int) × (List (QaH × Int))
 | 0, b0, b1, b2, b3, v41 =>
  (b0, b1, b2, b3)
 | r + 1, b0, b1, b2, b3, v41 =>
  let rv18 := (Qgw (QaU.mk (QaP.mk b0 b1 b2) b3) p n.Func (s.Targets.getD v41.toNat default))
  let rv26 := (QcO (QaU.mk (QaP.mk b0 b1 b2) b3) here rv18)
  QdI p n s here r rv26.g.Nodes rv26.g.Succ rv26.g.Pred rv26.number (v41 + 1)
def QgT (b : QaU) (p : Qav) (n : QaH) (s : Qbc) : QaU :=
 let rv4 := (Qgo b 3 n.Func n.Block (n.Stmt + 1))
 bif (s.Op == 7) then
  match QdI p n s ((Qev b.number n).getD 0) (((s.Targets.length : Int) - 0).toNat) b.g.Nodes b.g.Succ b.g.Pred b.number 0 with
  | (QdN, Qgp, Qiv, Qr3) =>
   (QaU.mk (QaP.mk QdN Qgp Qiv) Qr3)
 else
  bif (s.Op == 8) then
   match QdI p n s ((Qev b.number n).getD 0) (((s.Targets.length : Int) - 0).toNat) b.g.Nodes b.g.Succ b.g.Pred b.number 0 with
   | (QdN, Qgp, Qiv, Qr3) =>
    (QaU.mk (QaP.mk QdN Qgp Qiv) Qr3)
  else
   bif (s.Op == 9) then
    let rv39 := (Qgo b 2 n.Func (-1) (-1))
    let rv47 := (QcO b ((Qev b.number n).getD 0) rv39)
    rv47
   else
    bif (s.Op == 3) then
     let rv64 := (QdG p.Funcs (fun x => QgR x s))
     let rv68 := (Qgo b 4 n.Func n.Block n.Stmt)
     let rv73 := (Qgo b 1 rv64 (-1) (-1))
     let rv81 := (QcO b ((Qev b.number n).getD 0) rv73)
     let rv95 := (Qgo rv81 2 rv64 (-1) (-1))
     let rv103 := (QcO rv81 rv95 rv68)
     let rv120 := (QcO rv103 rv68 rv4)
     rv120
    else
     let rv138 := (QcO b ((Qev b.number n).getD 0) rv4)
     rv138
def QcN  (v35 : List QaH) : Nat -> List (QaH × Int) -> Int -> (List (QaH × Int))
 | 0, b3, v37 =>
  b3
 | r + 1, b3, v37 =>
  QcN v35 r (mset b3 (v35.getD v37.toNat default) v37) (v37 + 1)
def Qdu (p : Qav) (v49 : List QaH) : Nat -> List QaH -> List (List Int) -> List (List Int) -> List (QaH × Int) -> Int -> List QaH × List (List Int) × List (List Int) × (List (QaH × Int))
 | 0, b0, b1, b2, b3, v51 =>
  (b0, b1, b2, b3)
 | r + 1, b0, b1, b2, b3, v51 =>
  bif ((v49.getD v51.toNat default).Kind == 1) then
   let rv45 := (Qgo (QaU.mk (QaP.mk b0 b1 b2) b3) 3 ((v49.getD v51.toNat default).Func) 0 0)
   let rv53 := (QcO (QaU.mk (QaP.mk b0 b1 b2) b3) ((Qev b3 (v49.getD v51.toNat default)).getD 0) rv45)
   Qdu p v49 r rv53.g.Nodes rv53.g.Succ rv53.g.Pred rv53.number (v51 + 1)
  else
   bif ((v49.getD v51.toNat default).Kind == 3) then
    let rv91 := (QgT (QaU.mk (QaP.mk b0 b1 b2) b3) p (v49.getD v51.toNat default) (((((p.Funcs.getD ((v49.getD v51.toNat default).Func : Int).toNat default).Blocks).getD ((v49.getD v51.toNat default).Block : Int).toNat default).Stmts).getD ((v49.getD v51.toNat default).Stmt : Int).toNat default))
    Qdu p v49 r rv91.g.Nodes rv91.g.Succ rv91.g.Pred rv91.number (v51 + 1)
   else
    Qdu p v49 r b0 b1 b2 b3 (v51 + 1)
def QeY  : Nat -> List (List Int) -> List (List Int) -> Int -> List (List Int) × List (List Int)
 | 0, b1, b2, v96 =>
  (b1, b2)
 | r + 1, b1, b2, v96 =>
  let rv52 := (Qce (b1.getD v96.toNat []))
  let rv62 := (Qce (b2.getD v96.toNat []))
  QeY r (b1.set v96.toNat rv52) (b2.set v96.toNat rv62) (v96 + 1)
def QhH (p : Qav) : QaP × Int :=
 let rv3 := (Qde p)
 bif (rv3.2 != 0) then
  ((QaP.mk [] [] []), rv3.2)
 else
  let rv16 := (Qgb p)
  match QcN rv16 (((rv16.length : Int) - 0).toNat) [] 0 with
  | QdN =>
   match Qdu p rv16 (((rv16.length : Int) - 0).toNat) rv16 (List.replicate (rv16.length : Int).toNat []) (List.replicate (rv16.length : Int).toNat []) QdN 0 with
   | (QdV, Qfn, QvR, QvY) =>
    match QeY (((rv16.length : Int) - 0).toNat) Qfn QvR 0 with
    | (Qiu, Qob) =>
     ((QaP.mk QdV Qiu Qob), 0)
def QbG (c : Int) : Bool :=
 bif decide (97 <= c) then
  bif decide (c <= 122) then
   true
  else
   bif decide (65 <= c) then
    bif decide (c <= 90) then
     true
    else
     (c == 95)
   else
    (c == 95)
 else
  bif decide (65 <= c) then
   bif decide (c <= 90) then
    true
   else
    (c == 95)
  else
   (c == 95)
def Qdz (c : Int) : Bool :=
 bif decide (48 <= c) then
  decide (c <= 57)
 else
  false
def Qay (text : Str) (c : Int) : Nat -> Int -> Int -> LR (Int × Int) (List Qax × Int × Int × Int)
 | 0, col, i =>
  .oof
 | r + 1, col, i =>
  bif (c == 35) then
   bif decide (i < (text.b.length : Int)) then
    bif (((text.b.getD i.toNat 0).toNat : Int) != 10) then
     Qay text c r (col + 1) (i + 1)
    else
     .brk (col, i)
   else
    .brk (col, i)
  else
   .brk (col, i)
def Qbv (text : Str) (i : Int) : Nat -> Int -> LR Int (List Qax × Int × Int × Int)
 | 0, n =>
  .oof
 | r + 1, n =>
  bif decide ((i + n) < (text.b.length : Int)) then
   let rv172 := (QbG ((text.b.getD ((i + n) : Int).toNat 0).toNat : Int))
   bif rv172 then
    Qbv text i r (n + 1)
   else
    let rv179 := (Qdz ((text.b.getD ((i + n) : Int).toNat 0).toNat : Int))
    bif rv179 then
     Qbv text i r (n + 1)
    else
     .brk n
  else
   .brk n
def Qaj (text : Str) : Nat -> List Qax -> Int -> Int -> Bool -> Int -> LR (List Qax × Int × Int × Bool) (List Qax × Int × Int × Int)
 | 0, out, line, col, open_, i =>
  .oof
 | r + 1, out, line, col, open_, i =>
  bif decide (i < (text.b.length : Int)) then
   bif (((text.b.getD i.toNat 0).toNat : Int) == 32) then
    Qaj text r out line (col + 1) open_ (i + 1)
   else
    bif (((text.b.getD i.toNat 0).toNat : Int) == 9) then
     Qaj text r out line (col + 1) open_ (i + 1)
    else
     bif (((text.b.getD i.toNat 0).toNat : Int) == 10) then
      bif open_ then
       match Qay text ((text.b.getD i.toNat 0).toNat : Int) (text.b.length + 1) col i with
       | .brk (QdV, Qfn) =>
        bif (((text.b.getD i.toNat 0).toNat : Int) == 59) then
         bif decide ((Qfn + 1) < (text.b.length : Int)) then
          bif (((text.b.getD ((Qfn + 1) : Int).toNat 0).toNat : Int) == 10) then
           Qaj text r (out ++ [(Qax.mk 3 (Str.mk []) line col)]) line (QdV + 1) false (Qfn + 1)
          else
           Qaj text r (out ++ [(Qax.mk 3 (Str.mk []) line col)]) line (QdV + 1) false (Qfn + 1)
         else
          Qaj text r (out ++ [(Qax.mk 3 (Str.mk []) line col)]) line (QdV + 1) false (Qfn + 1)
        else
         bif decide (Qfn < (text.b.length : Int)) then
          bif (((text.b.getD Qfn.toNat 0).toNat : Int) == 10) then
           Qaj text r (out ++ [(Qax.mk 3 (Str.mk []) line col)]) (line + 1) 1 false (Qfn + 1)
          else
           Qaj text r (out ++ [(Qax.mk 3 (Str.mk []) line col)]) line QdV false Qfn
         else
          Qaj text r (out ++ [(Qax.mk 3 (Str.mk []) line col)]) line QdV false Qfn
       | .ret _ => .oof
       | .oof => .oof
      else
       match Qay text ((text.b.getD i.toNat 0).toNat : Int) (text.b.length + 1) col i with
       | .brk (QdV, Qfn) =>
        bif (((text.b.getD i.toNat 0).toNat : Int) == 59) then
         bif decide ((Qfn + 1) < (text.b.length : Int)) then
          bif (((text.b.getD ((Qfn + 1) : Int).toNat 0).toNat : Int) == 10) then
           Qaj text r out line (QdV + 1) false (Qfn + 1)
          else
           Qaj text r out line (QdV + 1) false (Qfn + 1)
         else
          Qaj text r out line (QdV + 1) false (Qfn + 1)
        else
         bif decide (Qfn < (text.b.length : Int)) then
          bif (((text.b.getD Qfn.toNat 0).toNat : Int) == 10) then
           Qaj text r out (line + 1) 1 false (Qfn + 1)
          else
           Qaj text r out line QdV false Qfn
         else
          Qaj text r out line QdV false Qfn
       | .ret _ => .oof
       | .oof => .oof
     else
      bif (((text.b.getD i.toNat 0).toNat : Int) == 59) then
       bif open_ then
        match Qay text ((text.b.getD i.toNat 0).toNat : Int) (text.b.length + 1) col i with
        | .brk (QdV, Qfn) =>
         bif decide ((Qfn + 1) < (text.b.length : Int)) then
          bif (((text.b.getD ((Qfn + 1) : Int).toNat 0).toNat : Int) == 10) then
           Qaj text r (out ++ [(Qax.mk 3 (Str.mk []) line col)]) line (QdV + 1) false (Qfn + 1)
          else
           Qaj text r (out ++ [(Qax.mk 3 (Str.mk []) line col)]) line (QdV + 1) false (Qfn + 1)
         else
          Qaj text r (out ++ [(Qax.mk 3 (Str.mk []) line col)]) line (QdV + 1) false (Qfn + 1)
        | .ret _ => .oof
        | .oof => .oof
       else
        match Qay text ((text.b.getD i.toNat 0).toNat : Int) (text.b.length + 1) col i with
        | .brk (QdV, Qfn) =>
         bif decide ((Qfn + 1) < (text.b.length : Int)) then
          bif (((text.b.getD ((Qfn + 1) : Int).toNat 0).toNat : Int) == 10) then
           Qaj text r out line (QdV + 1) false (Qfn + 1)
          else
           Qaj text r out line (QdV + 1) false (Qfn + 1)
         else
          Qaj text r out line (QdV + 1) false (Qfn + 1)
        | .ret _ => .oof
        | .oof => .oof
      else
       bif (((text.b.getD i.toNat 0).toNat : Int) == 35) then
        bif open_ then
         match Qay text ((text.b.getD i.toNat 0).toNat : Int) (text.b.length + 1) col i with
         | .brk (QdV, Qfn) =>
          bif decide (Qfn < (text.b.length : Int)) then
           bif (((text.b.getD Qfn.toNat 0).toNat : Int) == 10) then
            Qaj text r (out ++ [(Qax.mk 3 (Str.mk []) line col)]) (line + 1) 1 false (Qfn + 1)
           else
            Qaj text r (out ++ [(Qax.mk 3 (Str.mk []) line col)]) line QdV false Qfn
          else
           Qaj text r (out ++ [(Qax.mk 3 (Str.mk []) line col)]) line QdV false Qfn
         | .ret _ => .oof
         | .oof => .oof
        else
         match Qay text ((text.b.getD i.toNat 0).toNat : Int) (text.b.length + 1) col i with
         | .brk (QdV, Qfn) =>
          bif decide (Qfn < (text.b.length : Int)) then
           bif (((text.b.getD Qfn.toNat 0).toNat : Int) == 10) then
            Qaj text r out (line + 1) 1 false (Qfn + 1)
           else
            Qaj text r out line QdV false Qfn
          else
           Qaj text r out line QdV false Qfn
         | .ret _ => .oof
         | .oof => .oof
       else
        bif (((text.b.getD i.toNat 0).toNat : Int) == 61) then
         Qaj text r (out ++ [(Qax.mk 2 (Str.mk [61]) line col)]) line (col + 1) true (i + 1)
        else
         let rv164 := (QbG ((text.b.getD i.toNat 0).toNat : Int))
         bif rv164 then
          match Qbv text i (text.b.length + 1) 0 with
          | .brk Qiu =>
           let rv170 := (Qdz ((text.b.getD i.toNat 0).toNat : Int))
           bif rv170 then
            .ret (([] : List Qax), line, col, 4)
           else
            bif decide (16 < Qiu) then
             .ret (([] : List Qax), line, col, 7)
            else
             Qaj text r (out ++ [(Qax.mk 1 (text.sub i.toNat ((i + Qiu) : Int).toNat) line col)]) line (col + Qiu) true (i + Qiu)
          | .ret _ => .oof
          | .oof => .oof
         else
          let rv189 := (Qdz ((text.b.getD i.toNat 0).toNat : Int))
          bif rv189 then
           match Qbv text i (text.b.length + 1) 0 with
           | .brk Qiu =>
            .ret (([] : List Qax), line, col, 4)
           | .ret _ => .oof
           | .oof => .oof
          else
           .ret (([] : List Qax), line, col, 4)
  else
   .brk (out, line, col, open_)
def QeX (text : Str) : List Qax × Int × Int × Int :=
 bif decide (4096 < (text.b.length : Int)) then
  (([] : List Qax), 0, 0, 7)
 else
  match Qaj text (text.b.length + 1) [] 1 1 false 0 with
  | .brk (QdN, Qgp, Qiv, Qr3) =>
   bif Qr3 then
    ((QdN ++ [(Qax.mk 3 (Str.mk []) Qgp Qiv)]), 0, 0, 0)
   else
    (QdN, 0, 0, 0)
  | .ret r => r
  | .oof => default
def Qeh (p : Qab) (word : Str) : Bool :=
 bif (p.Err == 0) then
  bif decide (p.at_ < (p.l.length : Int)) then
   bif ((p.l.getD p.at_.toNat default).Kind == 1) then
    ((p.l.getD p.at_.toNat default).Text == word)
   else
    false
  else
   false
 else
  false
def QbD (p : Qab) (e : Int) : Qab :=
 bif (p.Err == 0) then
  (Qab.mk p.l p.at_ e)
 else
  p
def QcQ (p : Qab) (w : Str) : Qab :=
 let rv1 := (Qeh p w)
 bif (!rv1) then
  let rv8 := (QbD p 4)
  (Qab.mk p.l rv8.at_ rv8.Err)
 else
  (Qab.mk p.l (p.at_ + 1) p.Err)
def Qb5  : List Str :=
 [(Str.mk [102, 117, 110, 99]), (Str.mk [98, 108, 111, 99, 107]), (Str.mk [101, 110, 100]), (Str.mk [117, 115, 101]), (Str.mk [99, 97, 108, 108]), (Str.mk [115, 111, 117, 114, 99, 101]), (Str.mk [115, 105, 110, 107]), (Str.mk [115, 97, 110, 105, 116, 105, 122, 101]), (Str.mk [103, 111, 116, 111]), (Str.mk [98, 114, 97, 110, 99, 104]), (Str.mk [114, 101, 116, 117, 114, 110])]
def Qcj (s : Str) : Nat -> Int -> LR Unit Bool
 | 0, i =>
  .brk ()
 | r + 1, i =>
  let rv25 := (QbG ((s.b.getD i.toNat 0).toNat : Int))
  bif (!rv25) then
   let rv33 := (Qdz ((s.b.getD i.toNat 0).toNat : Int))
   bif (!rv33) then
    .ret false
   else
    Qcj s r (i + 1)
  else
   Qcj s r (i + 1)
def QcF (s : Str) : Nat -> Int -> LR Unit Bool
 | 0, i =>
  .brk ()
 | r + 1, i =>
  bif ((Qb5.getD i.toNat default) == s) then
   .ret false
  else
   QcF s r (i + 1)
def Qbm (s : Str) : Bool :=
 bif ((s.b.length : Int) == 0) then
  false
 else
  bif decide (16 < (s.b.length : Int)) then
   false
  else
   let rv8 := (QbG ((s.b.getD (0 : Int).toNat 0).toNat : Int))
   bif (!rv8) then
    false
   else
    bif (((s.b.getD (0 : Int).toNat 0).toNat : Int) == 95) then
     false
    else
     match Qcj s (((s.b.length : Int) - 0).toNat) 0 with
     | .brk _ =>
      match QcF s (((Qb5.length : Int) - 0).toNat) 0 with
      | .brk _ =>
       true
      | .ret r => r
      | .oof => default
     | .ret r => r
     | .oof => default
def Qbs (p : Qab) : Bool :=
 bif (p.Err == 0) then
  bif decide (p.at_ < (p.l.length : Int)) then
   bif ((p.l.getD p.at_.toNat default).Kind == 1) then
    let rv11 := (Qbm ((p.l.getD p.at_.toNat default).Text))
    rv11
   else
    false
  else
   false
 else
  false
def Qa8 (p : Qab) : Str × Qab :=
 let rv1 := (Qbs p)
 bif (!rv1) then
  let rv8 := (QbD p 4)
  ((Str.mk []), (Qab.mk p.l rv8.at_ rv8.Err))
 else
  ((p.l.getD (((p.at_ + 1) - 1) : Int).toNat default).Text, (Qab.mk p.l (p.at_ + 1) p.Err))
def Qb3 (p : Qab) (k : Int) : Bool :=
 bif (p.Err == 0) then
  bif decide (p.at_ < (p.l.length : Int)) then
   ((p.l.getD p.at_.toNat default).Kind == k)
  else
   false
 else
  false
def QbL (p : Qab) : Qab :=
 let rv1 := (Qb3 p 3)
 bif (!rv1) then
  let rv8 := (QbD p 4)
  (Qab.mk p.l rv8.at_ rv8.Err)
 else
  (Qab.mk p.l (p.at_ + 1) p.Err)
def Qdo (p : Qab) : Nat -> Int -> LR Unit Bool
 | 0, i =>
  .brk ()
 | r + 1, i =>
  let rv11 := (Qeh p ([(Str.mk [117, 115, 101]), (Str.mk [99, 97, 108, 108]), (Str.mk [115, 111, 117, 114, 99, 101]), (Str.mk [115, 105, 110, 107]), (Str.mk [115, 97, 110, 105, 116, 105, 122, 101]), (Str.mk [103, 111, 116, 111]), (Str.mk [98, 114, 97, 110, 99, 104]), (Str.mk [114, 101, 116, 117, 114, 110])].getD i.toNat default))
  bif rv11 then
   .ret true
  else
   Qdo p r (i + 1)
def Qdm (p : Qab) : Bool :=
 match Qdo p (((((8 : Nat) : Int) : Int) - 0).toNat) 0 with
 | .brk _ =>
  let rv6 := (Qbs p)
  rv6
 | .ret r => r
 | .oof => default
def Qdk (p : Qab) (have_ : Int) : Nat -> Int -> Int -> List Str -> LR (Int × Int × List Str) (List Str × Qab)
 | 0, p1, p2, out =>
  .oof
 | r + 1, p1, p2, out =>
  let rv1 := (Qbs (Qab.mk p.l p1 p2))
  bif rv1 then
   bif ((have_ + (out.length : Int)) == 4) then
    let rv8 := (QbD (Qab.mk p.l p1 p2) 7)
    .ret (([] : List Str), (Qab.mk p.l rv8.at_ rv8.Err))
   else
    let rv15 := (Qa8 (Qab.mk p.l p1 p2))
    Qdk p have_ r rv15.2.at_ rv15.2.Err (out ++ [rv15.1])
  else
   .brk (p1, p2, out)
def QgA (p : Qab) (have_ : Int) : List Str × Qab :=
 match Qdk p have_ (p.l.length + 1) p.at_ p.Err [] with
 | .brk (QdN, Qgp, Qiv) =>
  (Qiv, (Qab.mk p.l QdN Qgp))
 | .ret r => r
 | .oof => default
def QcM (p : Qab) : Nat -> Int -> Int -> List Str -> LR (Int × Int × List Str) (List Str × Qab)
 | 0, p1, p2, out =>
  .oof
 | r + 1, p1, p2, out =>
  let rv1 := (Qbs (Qab.mk p.l p1 p2))
  bif rv1 then
   bif ((out.length : Int) == 4) then
    let rv8 := (QbD (Qab.mk p.l p1 p2) 7)
    .ret (([] : List Str), (Qab.mk p.l rv8.at_ rv8.Err))
   else
    let rv15 := (Qa8 (Qab.mk p.l p1 p2))
    QcM p r rv15.2.at_ rv15.2.Err (out ++ [rv15.1])
  else
   .brk (p1, p2, out)
def QfC (p : Qab) : List Str × Qab :=
 match QcM p (p.l.length + 1) p.at_ p.Err [] with
 | .brk (QdN, Qgp, Qiv) =>
  (Qiv, (Qab.mk p.l QdN Qgp))
 | .ret r => r
 | .oof => default
def Qcp (p : Qab) : Qbc × Qab :=
 let rv3 := (Qbs p)
 bif (!rv3) then
  bif ((p.l.getD p.at_.toNat default).Text == (Str.mk [117, 115, 101])) then
   let rv16 := (Qa8 (Qab.mk p.l (p.at_ + 1) p.Err))
   let rv27 := (QgA (Qab.mk p.l rv16.2.at_ rv16.2.Err) 1)
   let rv44 := (QbL (Qab.mk p.l rv27.2.at_ rv27.2.Err))
   ((Qbc.mk 2 (Str.mk []) ([rv16.1] ++ rv27.1) []), (Qab.mk p.l rv44.at_ rv44.Err))
  else
   bif ((p.l.getD p.at_.toNat default).Text == (Str.mk [99, 97, 108, 108])) then
    let rv53 := (Qa8 (Qab.mk p.l (p.at_ + 1) p.Err))
    let rv63 := (QbL (Qab.mk p.l rv53.2.at_ rv53.2.Err))
    ((Qbc.mk 3 (Str.mk []) [] [rv53.1]), (Qab.mk p.l rv63.at_ rv63.Err))
   else
    bif ((p.l.getD p.at_.toNat default).Text == (Str.mk [115, 111, 117, 114, 99, 101])) then
     let rv72 := (Qa8 (Qab.mk p.l (p.at_ + 1) p.Err))
     let rv79 := (QbL (Qab.mk p.l rv72.2.at_ rv72.2.Err))
     ((Qbc.mk 4 rv72.1 [] []), (Qab.mk p.l rv79.at_ rv79.Err))
    else
     bif ((p.l.getD p.at_.toNat default).Text == (Str.mk [115, 105, 110, 107])) then
      let rv88 := (Qa8 (Qab.mk p.l (p.at_ + 1) p.Err))
      let rv98 := (QbL (Qab.mk p.l rv88.2.at_ rv88.2.Err))
      ((Qbc.mk 5 (Str.mk []) [rv88.1] []), (Qab.mk p.l rv98.at_ rv98.Err))
     else
      bif ((p.l.getD p.at_.toNat default).Text == (Str.mk [115, 97, 110, 105, 116, 105, 122, 101])) then
       let rv107 := (Qa8 (Qab.mk p.l (p.at_ + 1) p.Err))
       let rv114 := (QbL (Qab.mk p.l rv107.2.at_ rv107.2.Err))
       ((Qbc.mk 6 rv107.1 [] []), (Qab.mk p.l rv114.at_ rv114.Err))
      else
       bif ((p.l.getD p.at_.toNat default).Text == (Str.mk [103, 111, 116, 111])) then
        let rv123 := (Qa8 (Qab.mk p.l (p.at_ + 1) p.Err))
        let rv133 := (QbL (Qab.mk p.l rv123.2.at_ rv123.2.Err))
        ((Qbc.mk 7 (Str.mk []) [] [rv123.1]), (Qab.mk p.l rv133.at_ rv133.Err))
       else
        bif ((p.l.getD p.at_.toNat default).Text == (Str.mk [98, 114, 97, 110, 99, 104])) then
         let rv142 := (Qa8 (Qab.mk p.l (p.at_ + 1) p.Err))
         let rv152 := (Qa8 (Qab.mk p.l rv142.2.at_ rv142.2.Err))
         let rv162 := (Qa8 (Qab.mk p.l rv152.2.at_ rv152.2.Err))
         let rv178 := (QbL (Qab.mk p.l rv162.2.at_ rv162.2.Err))
         ((Qbc.mk 8 (Str.mk []) [rv142.1] ([rv152.1] ++ [rv162.1])), (Qab.mk p.l rv178.at_ rv178.Err))
        else
         bif ((p.l.getD p.at_.toNat default).Text == (Str.mk [114, 101, 116, 117, 114, 110])) then
          let rv187 := (QbL (Qab.mk p.l (p.at_ + 1) p.Err))
          ((Qbc.mk 9 (Str.mk []) [] []), (Qab.mk p.l rv187.at_ rv187.Err))
         else
          let rv194 := (Qa8 (Qab.mk p.l (p.at_ + 1) p.Err))
          let rv201 := (Qb3 (Qab.mk p.l rv194.2.at_ rv194.2.Err) 2)
          bif (!rv201) then
           let rv208 := (QbD (Qab.mk p.l rv194.2.at_ rv194.2.Err) 4)
           ((Qbc.mk 1 rv194.1 [] []), (Qab.mk p.l rv208.at_ rv208.Err))
          else
           let rv218 := (QfC (Qab.mk p.l (rv194.2.at_ + 1) rv194.2.Err))
           let rv229 := (QbL (Qab.mk p.l rv218.2.at_ rv218.2.Err))
           ((Qbc.mk 1 rv194.1 rv218.1 []), (Qab.mk p.l rv229.at_ rv229.Err))
 else
  bif ((Str.mk []) == (Str.mk [117, 115, 101])) then
   let rv240 := (Qa8 p)
   let rv251 := (QgA (Qab.mk p.l rv240.2.at_ rv240.2.Err) 1)
   let rv268 := (QbL (Qab.mk p.l rv251.2.at_ rv251.2.Err))
   ((Qbc.mk 2 (Str.mk []) ([rv240.1] ++ rv251.1) []), (Qab.mk p.l rv268.at_ rv268.Err))
  else
   bif ((Str.mk []) == (Str.mk [99, 97, 108, 108])) then
    let rv277 := (Qa8 p)
    let rv287 := (QbL (Qab.mk p.l rv277.2.at_ rv277.2.Err))
    ((Qbc.mk 3 (Str.mk []) [] [rv277.1]), (Qab.mk p.l rv287.at_ rv287.Err))
   else
    bif ((Str.mk []) == (Str.mk [115, 111, 117, 114, 99, 101])) then
     let rv296 := (Qa8 p)
     let rv303 := (QbL (Qab.mk p.l rv296.2.at_ rv296.2.Err))
     ((Qbc.mk 4 rv296.1 [] []), (Qab.mk p.l rv303.at_ rv303.Err))
    else
     bif ((Str.mk []) == (Str.mk [115, 105, 110, 107])) then
      let rv312 := (Qa8 p)
      let rv322 := (QbL (Qab.mk p.l rv312.2.at_ rv312.2.Err))
      ((Qbc.mk 5 (Str.mk []) [rv312.1] []), (Qab.mk p.l rv322.at_ rv322.Err))
     else
      bif ((Str.mk []) == (Str.mk [115, 97, 110, 105, 116, 105, 122, 101])) then
       let rv331 := (Qa8 p)
       let rv338 := (QbL (Qab.mk p.l rv331.2.at_ rv331.2.Err))
       ((Qbc.mk 6 rv331.1 [] []), (Qab.mk p.l rv338.at_ rv338.Err))
      else
       bif ((Str.mk []) == (Str.mk [103, 111, 116, 111])) then
        let rv347 := (Qa8 p)
        let rv357 := (QbL (Qab.mk p.l rv347.2.at_ rv347.2.Err))
        ((Qbc.mk 7 (Str.mk []) [] [rv347.1]), (Qab.mk p.l rv357.at_ rv357.Err))
       else
        bif ((Str.mk []) == (Str.mk [98, 114, 97, 110, 99, 104])) then
         let rv366 := (Qa8 p)
         let rv376 := (Qa8 (Qab.mk p.l rv366.2.at_ rv366.2.Err))
         let rv386 := (Qa8 (Qab.mk p.l rv376.2.at_ rv376.2.Err))
         let rv402 := (QbL (Qab.mk p.l rv386.2.at_ rv386.2.Err))
         ((Qbc.mk 8 (Str.mk []) [rv366.1] ([rv376.1] ++ [rv386.1])), (Qab.mk p.l rv402.at_ rv402.Err))
        else
         bif ((Str.mk []) == (Str.mk [114, 101, 116, 117, 114, 110])) then
          let rv411 := (QbL p)
          ((Qbc.mk 9 (Str.mk []) [] []), (Qab.mk p.l rv411.at_ rv411.Err))
         else
          let rv418 := (Qa8 p)
          let rv425 := (Qb3 (Qab.mk p.l rv418.2.at_ rv418.2.Err) 2)
          bif (!rv425) then
           let rv432 := (QbD (Qab.mk p.l rv418.2.at_ rv418.2.Err) 4)
           ((Qbc.mk 1 rv418.1 [] []), (Qab.mk p.l rv432.at_ rv432.Err))
          else
           let rv442 := (QfC (Qab.mk p.l (rv418.2.at_ + 1) rv418.2.Err))
           let rv453 := (QbL (Qab.mk p.l rv442.2.at_ rv442.2.Err))
           ((Qbc.mk 1 rv418.1 rv442.1 []), (Qab.mk p.l rv453.at_ rv453.Err))
def QbK (p : Qab) (b0 : Str) : Nat -> Int -> Int -> List Qbc -> LR (Int × Int × List Qbc) (Qbp × Qab)
 | 0, p1, p2, b1 =>
  .oof
 | r + 1, p1, p2, b1 =>
  let rv35 := (Qdm (Qab.mk p.l p1 p2))
  bif rv35 then
   bif ((b1.length : Int) == 32) then
    let rv42 := (QbD (Qab.mk p.l p1 p2) 7)
    .ret ((Qbp.mk b0 b1), (Qab.mk p.l rv42.at_ rv42.Err))
   else
    let rv51 := (Qcp (Qab.mk p.l p1 p2))
    QbK p b0 r rv51.2.at_ rv51.2.Err (b1 ++ [rv51.1])
  else
   .brk (p1, p2, b1)
def Qd1 (p : Qab) : Qbp × Qab :=
 let rv3 := (QcQ p (Str.mk [98, 108, 111, 99, 107]))
 let rv9 := (Qa8 (Qab.mk p.l rv3.at_ rv3.Err))
 let rv16 := (QbL (Qab.mk p.l rv9.2.at_ rv9.2.Err))
 let rv22 := (Qdm (Qab.mk p.l rv16.at_ rv16.Err))
 bif (!rv22) then
  let rv29 := (QbD (Qab.mk p.l rv16.at_ rv16.Err) 4)
  match QbK p rv9.1 (p.l.length + 1) rv29.at_ rv29.Err [] with
  | .brk (QdN, Qgp, Qiv) =>
   ((Qbp.mk rv9.1 Qiv), (Qab.mk p.l QdN Qgp))
  | .ret r => r
  | .oof => default
 else
  match QbK p rv9.1 (p.l.length + 1) rv16.at_ rv16.Err [] with
  | .brk (QdN, Qgp, Qiv) =>
   ((Qbp.mk rv9.1 Qiv), (Qab.mk p.l QdN Qgp))
  | .ret r => r
  | .oof => default
def Qbg (p : Qab) (f0 : Str) : Nat -> Int -> Int -> List Qbp -> LR (Int × Int × List Qbp) (QbR × Qab)
 | 0, p1, p2, f1 =>
  .oof
 | r + 1, p1, p2, f1 =>
  let rv35 := (Qeh (Qab.mk p.l p1 p2) (Str.mk [98, 108, 111, 99, 107]))
  bif rv35 then
   bif ((f1.length : Int) == 16) then
    let rv42 := (QbD (Qab.mk p.l p1 p2) 7)
    .ret ((QbR.mk f0 f1), (Qab.mk p.l rv42.at_ rv42.Err))
   else
    let rv50 := (Qd1 (Qab.mk p.l p1 p2))
    Qbg p f0 r rv50.2.at_ rv50.2.Err (f1 ++ [rv50.1])
  else
   .brk (p1, p2, f1)
def Qco (p : Qab) : QbR × Qab :=
 let rv3 := (QcQ p (Str.mk [102, 117, 110, 99]))
 let rv9 := (Qa8 (Qab.mk p.l rv3.at_ rv3.Err))
 let rv16 := (QbL (Qab.mk p.l rv9.2.at_ rv9.2.Err))
 let rv22 := (Qeh (Qab.mk p.l rv16.at_ rv16.Err) (Str.mk [98, 108, 111, 99, 107]))
 bif (!rv22) then
  let rv29 := (QbD (Qab.mk p.l rv16.at_ rv16.Err) 4)
  match Qbg p rv9.1 (p.l.length + 1) rv29.at_ rv29.Err [] with
  | .brk (QdN, Qgp, Qiv) =>
   let rv40 := (QcQ (Qab.mk p.l QdN Qgp) (Str.mk [101, 110, 100]))
   let rv46 := (QbL (Qab.mk p.l rv40.at_ rv40.Err))
   ((QbR.mk rv9.1 Qiv), (Qab.mk p.l rv46.at_ rv46.Err))
  | .ret r => r
  | .oof => default
 else
  match Qbg p rv9.1 (p.l.length + 1) rv16.at_ rv16.Err [] with
  | .brk (QdN, Qgp, Qiv) =>
   let rv60 := (QcQ (Qab.mk p.l QdN Qgp) (Str.mk [101, 110, 100]))
   let rv66 := (QbL (Qab.mk p.l rv60.at_ rv60.Err))
   ((QbR.mk rv9.1 Qiv), (Qab.mk p.l rv66.at_ rv66.Err))
  | .ret r => r
  | .oof => default
def QbJ  (p0 : List Qax) : Nat -> Int -> Int -> List QbR -> LR (Int × Int × List QbR) (Qav × Int × Int × Int)
 | 0, p1, p2, out0 =>
  .oof
 | r + 1, p1, p2, out0 =>
  let rv30 := (Qeh (Qab.mk p0 p1 p2) (Str.mk [102, 117, 110, 99]))
  bif rv30 then
   bif ((out0.length : Int) == 8) then
    let rv37 := (QbD (Qab.mk p0 p1 p2) 7)
    .brk (rv37.at_, rv37.Err, out0)
   else
    let rv45 := (Qco (Qab.mk p0 p1 p2))
    QbJ p0 r rv45.2.at_ rv45.2.Err (out0 ++ [rv45.1])
  else
   .brk (p1, p2, out0)
def QbN (text : Str) : Qav × Int × Int × Int :=
 let rv3 := (QeX text)
 bif (rv3.2.2.2 != 0) then
  ((Qav.mk []), rv3.2.1, rv3.2.2.1, rv3.2.2.2)
 else
  let rv17 := (Qeh (Qab.mk rv3.1 0 0) (Str.mk [102, 117, 110, 99]))
  bif (!rv17) then
   let rv24 := (QbD (Qab.mk rv3.1 0 0) 4)
   match QbJ rv3.1 (rv3.1.length + 1) rv24.at_ rv24.Err [] with
   | .brk (QdN, Qgp, Qiv) =>
    bif (Qgp == 0) then
     bif decide (QdN < (rv3.1.length : Int)) then
      let rv39 := (QbD (Qab.mk rv3.1 QdN Qgp) 4)
      bif (rv39.Err == 0) then
       ((Qav.mk Qiv), 0, 0, 0)
      else
       bif decide (rv39.at_ < (rv3.1.length : Int)) then
        ((Qav.mk []), (rv3.1.getD rv39.at_.toNat default).Line, (rv3.1.getD rv39.at_.toNat default).Col, rv39.Err)
       else
        ((Qav.mk []), 0, 0, rv39.Err)
     else
      ((Qav.mk Qiv), 0, 0, 0)
    else
     bif decide (QdN < (rv3.1.length : Int)) then
      ((Qav.mk []), (rv3.1.getD QdN.toNat default).Line, (rv3.1.getD QdN.toNat default).Col, Qgp)
     else
      ((Qav.mk []), 0, 0, Qgp)
   | .ret _ => default
   | .oof => default
  else
   match QbJ rv3.1 (rv3.1.length + 1) 0 0 [] with
   | .brk (QdN, Qgp, Qiv) =>
    bif (Qgp == 0) then
     bif decide (QdN < (rv3.1.length : Int)) then
      let rv80 := (QbD (Qab.mk rv3.1 QdN Qgp) 4)
      bif (rv80.Err == 0) then
       ((Qav.mk Qiv), 0, 0, 0)
      else
       bif decide (rv80.at_ < (rv3.1.length : Int)) then
        ((Qav.mk []), (rv3.1.getD rv80.at_.toNat default).Line, (rv3.1.getD rv80.at_.toNat default).Col, rv80.Err)
       else
        ((Qav.mk []), 0, 0, rv80.Err)
     else
      ((Qav.mk Qiv), 0, 0, 0)
    else
     bif decide (QdN < (rv3.1.length : Int)) then
      ((Qav.mk []), (rv3.1.getD QdN.toNat default).Line, (rv3.1.getD QdN.toNat default).Col, Qgp)
     else
      ((Qav.mk []), 0, 0, Qgp)
   | .ret _ => default
   | .oof => default
def Qbh (l : List Int) (n : Int) : Nat -> Int -> LR Unit Bool
 | 0, v9 =>
  .brk ()
 | r + 1, v9 =>
  bif decide ((l.getD v9.toNat 0) < 0) then
   .ret false
  else
   bif decide (n <= (l.getD v9.toNat 0)) then
    .ret false
   else
    bif decide (0 < v9) then
     bif decide ((l.getD v9.toNat 0) <= (l.getD ((v9 - 1) : Int).toNat 0)) then
      .ret false
     else
      Qbh l n r (v9 + 1)
    else
     Qbh l n r (v9 + 1)
def Qc1 (l : List Int) (n : Int) : Bool :=
 match Qbh l n (((l.length : Int) - 0).toNat) 0 with
 | .brk _ =>
  true
 | .ret r => r
 | .oof => default
def Qcf (l : List (List Int)) : Nat -> Int -> Int -> LR Int Int
 | 0, edges, v8 =>
  .brk edges
 | r + 1, edges, v8 =>
  bif decide (1024 < (edges + ((l.getD v8.toNat []).length : Int))) then
   .ret (-1)
  else
   let rv10 := (Qc1 (l.getD v8.toNat []) (l.length : Int))
   bif (!rv10) then
    .ret (-1)
   else
    Qcf l r (edges + ((l.getD v8.toNat []).length : Int)) (v8 + 1)
def Qdd (l : List (List Int)) : Int :=
 match Qcf l (((l.length : Int) - 0).toNat) 0 0 with
 | .brk QdN =>
  QdN
 | .ret r => r
 | .oof => default
def Qdw (g : QaP) (a : Int) (v52 : List Int) : Nat -> Int -> LR Unit Bool
 | 0, v54 =>
  .brk ()
 | r + 1, v54 =>
  let rv43 := (Qcs (g.Pred.getD ((v52.getD v54.toNat 0) : Int).toNat []) a)
  bif (!rv43) then
   .ret false
  else
   Qdw g a v52 r (v54 + 1)
def Qdt (g : QaP) : Nat -> Int -> LR Unit Bool
 | 0, v47 =>
  .brk ()
 | r + 1, v47 =>
  match Qdw g v47 (g.Succ.getD v47.toNat []) (((((g.Succ.getD v47.toNat []).length : Int) : Int) - 0).toNat) 0 with
  | .brk _ =>
   Qdt g r (v47 + 1)
  | .ret r => .ret r
  | .oof => .oof
def Qck (g : QaP) : Bool :=
 bif decide ((g.Nodes.length : Int) < 1) then
  false
 else
  bif decide (256 < (g.Nodes.length : Int)) then
   false
  else
   bif ((g.Succ.length : Int) != (g.Nodes.length : Int)) then
    false
   else
    bif ((g.Pred.length : Int) != (g.Nodes.length : Int)) then
     false
    else
     let rv14 := (Qdd g.Succ)
     bif decide (rv14 < 0) then
      false
     else
      let rv22 := (Qdd g.Pred)
      bif (rv22 != rv14) then
       false
      else
       match Qdt g (((g.Succ.length : Int) - 0).toNat) 0 with
       | .brk _ =>
        true
       | .ret r => r
       | .oof => default
def QhL (g : QaP) : Int :=
 let rv2 := (Qck g)
 bif (!rv2) then
  0
 else
  let rv12 := (Qdd g.Succ)
  rv12
def QeL  : Bool :=
 let rv2 := (QbN (Str.mk [102, 117, 110, 99, 32, 109, 59, 32, 98, 108, 111, 99, 107, 32, 98, 59, 32, 98, 114, 97, 110, 99, 104, 32, 120, 32, 98, 32, 98, 59, 32, 101, 110, 100]))
 let rv15 := (QhH rv2.1)
 bif (rv15.2 == 0) then
  bif ((rv15.1.Succ.length : Int) == 3) then
   let rv41 := (QeR (rv15.1.Succ.getD (0 : Int).toNat []) [1])
   bif rv41 then
    let rv52 := (QeR (rv15.1.Succ.getD (1 : Int).toNat []) [1])
    bif rv52 then
     bif (((rv15.1.Succ.getD (2 : Int).toNat []).length : Int) == 0) then
      let rv69 := (QeR (rv15.1.Pred.getD (1 : Int).toNat []) [0, 1])
      bif rv69 then
       let rv73 := (QhL rv15.1)
       (rv73 == 2)
      else
       false
     else
      false
    else
     false
   else
    false
  else
   false
 else
  false
def Qnk (v : Int) (n : Int) : Int :=
 (((BitVec.ofInt 64 v) % (BitVec.ofInt 64 n)).toNat : Int)
def Qbu (tT : List Int) (tI : Int) (n : Int) : Int × Int :=
 bif decide (n <= 1) then
  (0, tI)
 else
  bif decide ((tT.length : Int) <= tI) then
   (0, tI)
  else
   let rv8 := (Qnk (tT.getD (((tI + 1) - 1) : Int).toNat 0) n)
   (rv8, (tI + 1))
def QcY (l : List Int) (n : Int) : Nat -> Int -> Int
 | 0, i =>
  i
 | r + 1, i =>
  bif decide ((l.getD i.toNat 0) < n) then
   QcY l n r (i + 1)
  else
   i
def QdJ (l : List Int) (n : Int) : List Int :=
 match QcY l n (((l.length : Int) - 0).toNat) 0 with
 | QdN =>
  bif decide (QdN < (l.length : Int)) then
   bif ((l.getD QdN.toNat 0) == n) then
    l
   else
    ((((l.take (QdN.toNat)).drop 0) ++ [n]) ++ ((l.take l.length).drop (QdN.toNat)))
  else
   ((((l.take (QdN.toNat)).drop 0) ++ [n]) ++ ((l.take l.length).drop (QdN.toNat)))
def Qdv (tT : List Int) (n' : Int) : Nat -> Int -> List (List Int) -> List (List Int) -> Int -> Int × List (List Int) × List (List Int)
 | 0, ti', g1, g2, k =>
  (ti', g1, g2)
 | r + 1, ti', g1, g2, k =>
  let rv31 := (Qbu tT ti' n')
  let rv37 := (Qbu tT rv31.2 n')
  let rv48 := (QdJ (g1.getD rv31.1.toNat []) rv37.1)
  let rv61 := (QdJ (g2.getD rv37.1.toNat []) rv31.1)
  Qdv tT n' r rv37.2 (g1.set rv31.1.toNat rv48) (g2.set rv37.1.toNat rv61) (k - 1)
def Qeo (tT : List Int) (tI : Int) (n : Int) : QaP × Int :=
 let rv2 := (Qbu tT tI n)
 let rv23 := (Qbu tT rv2.2 ((2 * (1 + rv2.1)) + 1))
 match Qdv tT (1 + rv2.1) (rv23.1.toNat) rv23.2 (List.replicate ((1 + rv2.1) : Int).toNat []) (List.replicate ((1 + rv2.1) : Int).toNat []) rv23.1 with
 | (QdN, Qgp, Qiv) =>
  ((QaP.mk (List.replicate ((1 + rv2.1) : Int).toNat (default : QaH)) Qgp Qiv), QdN)
def QfE (s : List QaH) : List QaH := s
def QdT (l : List (List Int)) : Nat -> List (List Int) -> Int -> List (List Int)
 | 0, out, v8 =>
  out
 | r + 1, out, v8 =>
  QdT l r (out ++ [(l.getD v8.toNat [])]) (v8 + 1)
def Qf5 (l : List (List Int)) : List (List Int) :=
 match QdT l (((l.length : Int) - 0).toNat) [] 0 with
 | QdN =>
  QdN
def Qe5 (g : QaP) : QaP × Int :=
 let rv3 := (Qck g)
 bif (!rv3) then
  ((QaP.mk [] [] []), 1)
 else
  let rv14 := (QfE g.Nodes)
  let rv22 := (Qf5 g.Pred)
  let rv30 := (Qf5 g.Succ)
  ((QaP.mk rv14 rv22 rv30), 0)
def QbI (s : List Int) (fp : Int -> Bool) : Nat -> Int -> LR Unit Int
 | 0, v8 =>
  .brk ()
 | r + 1, v8 =>
  bif (fp (s.getD v8.toNat 0)) then
   .ret v8
  else
   QbI s fp r (v8 + 1)
def QcL (s : List Int) (fp : Int -> Bool) : Int :=
 match QbI s fp (((s.length : Int) - 0).toNat) 0 with
 | .brk _ =>
  -1
 | .ret r => r
 | .oof => default
def Qby (s : List Int) (fp : Int -> Bool) : Bool :=
 let rv1 := (QcL s fp)
 decide (0 <= rv1)
def QdE (n : Int) (cap0 : QaP) : Bool :=
 bif decide (n < 0) then
  true
 else
  decide ((cap0.Nodes.length : Int) <= n)
def Qea (s : List Int) : List Int := s
def Qey (s : List Int) : List Int :=
 ((s.take ((s.length : Int).toNat)).drop 0)
def Qcr (g : QaP) : Nat -> List Bool -> List Int -> List Int -> LR (List Int) (List Int)
 | 0, seen, todo, out =>
  .oof
 | r + 1, seen, todo, out =>
  bif decide (0 < (todo.length : Int)) then
   bif (!(seen.getD ((todo.getD (((todo.length : Int) - 1) : Int).toNat 0) : Int).toNat false)) then
    Qcr g r (seen.set ((todo.getD (((todo.length : Int) - 1) : Int).toNat 0) : Int).toNat true) (((todo.take ((((todo.length : Int) - 1) : Int).toNat)).drop 0) ++ (g.Succ.getD ((todo.getD (((todo.length : Int) - 1) : Int).toNat 0) : Int).toNat [])) (out ++ [(todo.getD (((todo.length : Int) - 1) : Int).toNat 0)])
   else
    Qcr g r seen ((todo.take ((((todo.length : Int) - 1) : Int).toNat)).drop 0) out
  else
   .brk out
def QdB (g : QaP) (from_ : List Int) : List Int :=
 let rv2 := (Qck g)
 bif (!rv2) then
  ([] : List Int)
 else
  let rv12 := (Qby from_ (fun x => QdE x g))
  bif rv12 then
   ([] : List Int)
  else
   let rv24 := (Qea from_)
   match Qcr g (from_.length + (g.Succ.map List.length).sum + 1) (List.replicate (g.Nodes.length : Int).toNat false) rv24 [] with
   | .brk QdN =>
    let rv35 := (Qce QdN)
    let rv43 := (Qey rv35)
    rv43
   | .ret _ => default
   | .oof => default
def Qfb (l : List Int) (n : Int) : Nat -> Int -> LR Unit Bool
 | 0, i =>
  .brk ()
 | r + 1, i =>
  bif ((l.getD i.toNat 0) == n) then
   .ret true
  else
   Qfb l n r (i + 1)
def Qf6 (l : List Int) (n : Int) : Bool :=
 match Qfb l n (((l.length : Int) - 0).toNat) 0 with
 | .brk _ =>
  false
 | .ret r => r
 | .oof => default
def QnO (l : List Int) : Unit :=
 ()
def Qdp (t : List Int) : Bool :=
 let rv2 := (QnO t)
 let rv8 := (Qeo t 0 8)
 let rv28 := (Qe5 rv8.1)
 let rv42 := (Qbu t rv8.2 (rv8.1.Nodes.length : Int))
 let rv48 := (Qbu t rv42.2 (rv8.1.Nodes.length : Int))
 let rv58 := (QdB rv8.1 [rv42.1])
 bif (rv28.2 == 0) then
  let rv69 := (QdB rv8.1 rv58)
  let rv77 := (QeR rv69 rv58)
  bif rv77 then
   let rv82 := (Qf6 rv58 rv42.1)
   bif rv82 then
    let rv87 := (Qf6 rv58 rv48.1)
    let rv94 := (QdB rv28.1 [rv48.1])
    let rv102 := (Qf6 rv94 rv42.1)
    bif (rv87 == rv102) then
     QeL
    else
     false
   else
    false
  else
   false
 else
  false
def Qem (l : List Str) : Nat -> Int -> LR Unit Bool
 | 0, i =>
  .brk ()
 | r + 1, i =>
  let rv6 := (Qbm (l.getD i.toNat default))
  bif (!rv6) then
   .ret false
  else
   Qem l r (i + 1)
def Qhc (l : List Str) (a : Int) (b : Int) : Bool :=
 match Qem l (((l.length : Int) - 0).toNat) 0 with
 | .brk _ =>
  bif decide (a <= (l.length : Int)) then
   decide ((l.length : Int) <= b)
  else
   false
 | .ret r => r
 | .oof => default
def Qd9 (s : Qbc) : Bool :=
 let rv2 := (Qbm s.Def)
 let rv5 := (Qhc s.Uses 0 4)
 bif (!rv5) then
  false
 else
  let rv15 := (Qhc s.Targets 0 2)
  bif (!rv15) then
   false
  else
   bif (s.Op == 1) then
    bif rv2 then
     ((s.Targets.length : Int) == 0)
    else
     false
   else
    bif (s.Op == 2) then
     bif (s.Def == (Str.mk [])) then
      bif decide (1 <= (s.Uses.length : Int)) then
       ((s.Targets.length : Int) == 0)
      else
       false
     else
      false
    else
     bif (s.Op == 5) then
      bif (s.Def == (Str.mk [])) then
       bif ((s.Uses.length : Int) == 1) then
        ((s.Targets.length : Int) == 0)
       else
        false
      else
       false
     else
      bif (s.Op == 3) then
       bif (s.Def == (Str.mk [])) then
        bif ((s.Uses.length : Int) == 0) then
         ((s.Targets.length : Int) == 1)
        else
         false
       else
        false
      else
       bif (s.Op == 7) then
        bif (s.Def == (Str.mk [])) then
         bif ((s.Uses.length : Int) == 0) then
          ((s.Targets.length : Int) == 1)
         else
          false
        else
         false
       else
        bif (s.Op == 4) then
         bif rv2 then
          bif ((s.Uses.length : Int) == 0) then
           ((s.Targets.length : Int) == 0)
          else
           false
         else
          false
        else
         bif (s.Op == 6) then
          bif rv2 then
           bif ((s.Uses.length : Int) == 0) then
            ((s.Targets.length : Int) == 0)
           else
            false
          else
           false
         else
          bif (s.Op == 8) then
           bif (s.Def == (Str.mk [])) then
            bif ((s.Uses.length : Int) == 1) then
             ((s.Targets.length : Int) == 2)
            else
             false
           else
            false
          else
           bif (s.Op == 9) then
            bif (s.Def == (Str.mk [])) then
             bif ((s.Uses.length : Int) == 0) then
              ((s.Targets.length : Int) == 0)
             else
              false
            else
             false
           else
            false
def Qe1  (b1 : List Qbc) : Nat -> Int -> LR Unit Bool
 | 0, j =>
  .brk ()
 | r + 1, j =>
  let rv66 := (Qd9 (b1.getD j.toNat default))
  bif (!rv66) then
   .ret false
  else
   Qe1 b1 r (j + 1)
def QeZ  (f1 : List Qbp) : Nat -> Int -> LR Unit Bool
 | 0, k =>
  .brk ()
 | r + 1, k =>
  let rv38 := (Qbm ((f1.getD k.toNat default).Name))
  bif (!rv38) then
   .ret false
  else
   bif decide ((((f1.getD k.toNat default).Stmts).length : Int) < 1) then
    .ret false
   else
    bif decide (32 < (((f1.getD k.toNat default).Stmts).length : Int)) then
     .ret false
    else
     match Qe1 ((f1.getD k.toNat default).Stmts) ((((((f1.getD k.toNat default).Stmts).length : Int) : Int) - 0).toNat) 0 with
     | .brk _ =>
      QeZ f1 r (k + 1)
     | .ret r => .ret r
     | .oof => .oof
def QeW (p : Qav) : Nat -> Int -> LR Unit Bool
 | 0, i =>
  .brk ()
 | r + 1, i =>
  let rv15 := (Qbm ((p.Funcs.getD i.toNat default).Name))
  bif (!rv15) then
   .ret false
  else
   bif decide ((((p.Funcs.getD i.toNat default).Blocks).length : Int) < 1) then
    .ret false
   else
    bif decide (16 < (((p.Funcs.getD i.toNat default).Blocks).length : Int)) then
     .ret false
    else
     match QeZ ((p.Funcs.getD i.toNat default).Blocks) ((((((p.Funcs.getD i.toNat default).Blocks).length : Int) : Int) - 0).toNat) 0 with
     | .brk _ =>
      QeW p r (i + 1)
     | .ret r => .ret r
     | .oof => .oof
def QhG (p : Qav) : Bool :=
 bif decide ((p.Funcs.length : Int) < 1) then
  false
 else
  bif decide (8 < (p.Funcs.length : Int)) then
   false
  else
   match QeW p (((p.Funcs.length : Int) - 0).toNat) 0 with
   | .brk _ =>
    true
   | .ret r => r
   | .oof => default
theorem Qss {σ ρ : Type} (f : Nat -> Int -> LR σ ρ) (p : Int -> Bool) (b : ρ) (c : σ) (h0 : ∀ i, f 0 i = .brk c) (h1 : ∀ r i, f (r + 1) i = bif p i then .ret b else f r (i + 1)) :
  ∀ (m : Nat) (i : Int), (f m i = .ret b /\ ∃ j, i <= j /\ j < i + m /\ p j = true) \/ (f m i = .brk c /\ ∀ j, i <= j -> j < i + m -> p j = false)
 | 0, i => .inr ⟨h0 i, fun j h1 h2 => by omega⟩
 | m + 1, i => by
  rw [h1]
  cases hp : p i with
  | true => exact .inl ⟨rfl, i, by omega, by omega, hp⟩
  | false =>
   rcases Qss f p b c h0 h1 m (i + 1) with ⟨e, j, j1, j2, j3⟩ | ⟨e, h⟩
   ·exact .inl ⟨e, j, by omega, by omega, j3⟩
   ·refine .inr ⟨e, fun j j1 j2 => ?_⟩
    rcases Int.lt_or_eq_of_le j1 with hlt | rfl
    ·exact h j (by omega) (by omega)
    ·exact hp
theorem Qlp {l : List Int} {n : Int} : n ∈ l ↔ ∃ j : Int, 0 <= j /\ j < (l.length : Int) /\ l.getD j.toNat 0 = n := by
 constructor
 ·intro h
  obtain ⟨i, hi, e⟩ := List.getElem_of_mem h
  exact ⟨(i : Int), by omega, by omega, by simp [List.getD, hi, e]⟩
 ·rintro ⟨j, j1, j2, rfl⟩
  exact Qcw (by omega)
theorem QjX : ∀ (n : Nat) (l : List Int), l.Nodup -> (∀ x ∈ l, 0 <= x /\ x < (n : Int)) -> l.length <= n
 | 0, [], _, _ => Nat.le_refl _
 | 0, x :: l, _, h => by have := h x (by simp); omega
 | n + 1, l, hn, h => by
  have h1 : (l.erase (n : Int)).length <= n := QjX n (l.erase (n : Int)) (hn.erase _) (fun x hx => by
   have h2 := (List.Nodup.mem_erase_iff hn).1 hx
   have h3 := h x h2.2
   have h4 := h2.1
   omega)
  by_cases hm : (n : Int) ∈ l
  ·rw [List.length_erase_of_mem hm] at h1; omega
  ·rw [List.erase_of_not_mem hm] at h1; omega
theorem Qlc {σ : Type} (f : Nat -> Int -> LR σ Int) (p : Int -> Bool) (c : σ) (h0 : ∀ i, f 0 i = .brk c) (h1 : ∀ r i, f (r + 1) i = bif p i then .ret i else f r (i + 1)) :
  ∀ (m : Nat) (i : Int), (∃ j, f m i = .ret j /\ i <= j /\ j < i + m /\ p j = true) \/ (f m i = .brk c /\ ∀ j, i <= j -> j < i + m -> p j = false)
 | 0, i => .inr ⟨h0 i, fun j h1 h2 => by omega⟩
 | m + 1, i => by
  rw [h1]
  cases hp : p i with
  | true => exact .inl ⟨i, rfl, by omega, by omega, hp⟩
  | false =>
   rcases Qlc f p c h0 h1 m (i + 1) with ⟨j, e, j1, j2, j3⟩ | ⟨e, h⟩
   ·exact .inl ⟨j, e, by omega, by omega, j3⟩
   ·refine .inr ⟨e, fun j j1 j2 => ?_⟩
    rcases Int.lt_or_eq_of_le j1 with hlt | rfl
    ·exact h j (by omega) (by omega)
    ·exact hp
theorem QgQ {α : Type} {l : List α} {n d : α} : n ∈ l ↔ ∃ j : Int, 0 <= j /\ j < (l.length : Int) /\ l.getD j.toNat d = n := by
 constructor
 ·intro h
  obtain ⟨i, hi, e⟩ := List.getElem_of_mem h
  exact ⟨(i : Int), by omega, by omega, by simp [List.getD, hi, e]⟩
 ·rintro ⟨j, j1, j2, rfl⟩
  exact Qcw (by omega)
theorem QoS {α R : Type} [Inhabited α] {P : α -> Bool} {l : List α} {no : R} (L : Nat -> Int -> LR Unit R) (h0 : ∀ i, L 0 i = .brk ()) (h1 : ∀ r (i : Int), 0 <= i -> i < (l.length : Int) -> L (r + 1) i = if P (l.getD i.toNat default) = true then L r (i + 1) else .ret no) :
  L ((l.length : Int) - 0).toNat 0 = if l.all P = true then .brk () else .ret no := by
 have key : ∀ (suf pre : List α), l = pre ++ suf -> L suf.length (pre.length : Int) = if suf.all P = true then .brk () else .ret no := fun suf => by
  induction suf with
  | nil => intro pre _; exact h0 _
  | cons a suf ih =>
   intro pre hl
   have hlen : l.length = pre.length + (suf.length + 1) := by rw [hl]; simp
   have hg : l.getD ((pre.length : Int)).toNat default = a := by rw [hl]; simp
   rw [List.length_cons, h1 _ _ (by omega) (by omega), hg, List.all_cons]
   have := ih (pre ++ [a]) (by rw [hl]; simp)
   rw [List.length_append, List.length_cons, List.length_nil, Int.natCast_add] at this
   rw [show ((pre.length : Int) + 1) = (pre.length : Int) + ((0 + 1 : Nat) : Int) from rfl, this]
   cases P a <;> simp
 have := key l [] rfl
 rw [show ((l.length : Int) - 0).toNat = l.length by omega]
 exact this
theorem Qnc {s : Str} (h : (s == (Str.mk [])) = false) : 0 < s.b.length := by
 obtain ⟨b⟩ := s
 cases b with
 | nil => simp at h
 | cons a b => simp
def SSm (s : Qbc) : Bool := decide (s.Uses.length <= 600000000) && decide (s.Targets.length <= 600000000)
def BSm (b : Qbp) : Bool := b.Stmts.all SSm
def FSm (f : QbR) : Bool := f.Blocks.all BSm
def PSm (p : Qav) : Bool := p.Funcs.all FSm
theorem QlV {α : Type} [Inhabited α] {q : α -> Bool} {l : List α} (h : l.all q = true) {i : Int} (hi : 0 <= i /\ i < (l.length : Int)) : q (l.getD i.toNat default) = true :=
 List.all_eq_true.1 h _ (Qcw (by omega))
theorem QrI {p : Qav} (h : PSm p = true) {i : Int} (hi : 0 <= i /\ i < (p.Funcs.length : Int)) : FSm (p.Funcs.getD i.toNat default) = true := QlV h hi
theorem Qqz {f : QbR} (h : FSm f = true) {i : Int} (hi : 0 <= i /\ i < (f.Blocks.length : Int)) : BSm (f.Blocks.getD i.toNat default) = true := QlV h hi
theorem QtK {b : Qbp} (h : BSm b = true) {x : Qbc} (hx : x ∈ b.Stmts) : SSm x = true := List.all_eq_true.1 h x hx
theorem Qti {s : Qbc} (h : SSm s = true) : s.Uses.length <= 600000000 /\ s.Targets.length <= 600000000 := by
 unfold SSm at h; simpa using h
def QS (u v : Nat) (s : Qbc) : Bool := decide (s.Uses.length <= u) && decide (s.Targets.length <= v)
def QB (u v : Nat) (b : Qbp) : Bool := b.Stmts.all (QS u v)
def QF (u v : Nat) (f : QbR) : Bool := f.Blocks.all (QB u v)
def QP (u v : Nat) (p : Qav) : Bool := p.Funcs.all (QF u v)
def QL (b : Qbp) : Bool := decide (b.Stmts.length <= 4)
def SpF (f : QbR) : Prop := (1 <= f.Blocks.length /\ f.Blocks.length <= 3) /\ f.Blocks.all QL = true
def SpP (p : Qav) : Prop := (1 <= p.Funcs.length /\ p.Funcs.length <= 3) /\ (∀ f ∈ p.Funcs, SpF f) /\ QP 3 2 p = true
theorem QrA {u v : Nat} {p : Qav} (h : QP u v p = true) (hu : u <= 1000000) (hv : v <= 1000000) : PSm p = true := by
 unfold QP at h; unfold PSm
 refine List.all_eq_true.2 fun f hf => ?_
 have h1 := List.all_eq_true.1 h f hf
 unfold QF at h1; unfold FSm
 refine List.all_eq_true.2 fun b hb => ?_
 have h2 := List.all_eq_true.1 h1 b hb
 unfold QB at h2; unfold BSm
 refine List.all_eq_true.2 fun s hs => ?_
 have h3 := List.all_eq_true.1 h2 s hs
 unfold QS at h3; unfold SSm
 simp only [Bool.and_eq_true, decide_eq_true_eq] at h3 ⊢
 omega
theorem QoY {p : Qav} (h : SpP p) : PSm p = true := QrA h.2.2 (by omega) (by omega)
def nS (i k : Int) : Int -> List Qbc -> List QaH
 | _, [] => []
 | v, s :: S => (bif s.Op == 3 then [QaH.mk 3 i k v, QaH.mk 4 i k v] else [QaH.mk 3 i k v]) ++ nS i k (v + 1) S
def nB (i : Int) : Int -> List Qbp -> List QaH
 | _, [] => []
 | k, b :: B => nS i k 0 b.Stmts ++ nB i (k + 1) B
def nF : Int -> List QbR -> List QaH
 | _, [] => []
 | i, f :: F => [QaH.mk 1 i (-1) (-1)] ++ nB i 0 f.Blocks ++ [QaH.mk 2 i (-1) (-1)] ++ nF (i + 1) F
theorem Qie {α : Type} [Inhabited α] {l : List α} {v : Int} (h0 : 0 <= v) (h : v < (l.length : Int)) : l.drop v.toNat = l.getD v.toNat default :: l.drop (v + 1).toNat := by
 rw [List.drop_eq_getElem_cons (show v.toNat < l.length by omega), show (v + 1).toNat = v.toNat + 1 by omega, List.getD_eq_getElem?_getD, List.getElem?_eq_getElem (show v.toNat < l.length by omega)]; rfl
def NIn (p : Qav) (n : QaH) : Prop := (0 <= n.Func /\ n.Func < (p.Funcs.length : Int)) /\ (n.Kind ≠ 1 -> n.Kind ≠ 2 -> (0 <= n.Block /\ n.Block < ((p.Funcs.getD n.Func.toNat default).Blocks.length : Int)) /\ (0 <= n.Stmt /\ n.Stmt < ((((p.Funcs.getD n.Func.toNat default).Blocks).getD n.Block.toNat default).Stmts.length : Int)) /\ n.Stmt < 100)
theorem QqL (i k : Int) : ∀ (S : List Qbc) (v : Int) (n : QaH), n ∈ nS i k v S -> n.Func = i /\ n.Block = k /\ (n.Kind = 3 \/ n.Kind = 4) /\ v <= n.Stmt /\ n.Stmt < v + (S.length : Int)
 | [], v, n, h => by cases h
 | s :: S, v, n, h => by
  rw [nS] at h
  rcases List.mem_append.1 h with h' | h'
  ·cases e : s.Op == 3
   ·rw [e, cond_false, List.mem_singleton] at h'
    subst h'
    exact ⟨rfl, rfl, .inl rfl, by show v <= v; omega, by show v < v + _; rw [List.length_cons]; omega⟩
   ·rw [e, cond_true] at h'
    simp only [List.mem_cons, List.not_mem_nil, or_false] at h'
    rcases h' with e | e <;> subst e
    ·exact ⟨rfl, rfl, .inl rfl, by show v <= v; omega, by show v < v + _; rw [List.length_cons]; omega⟩
    ·exact ⟨rfl, rfl, .inr rfl, by show v <= v; omega, by show v < v + _; rw [List.length_cons]; omega⟩
  ·have := QqL i k S (v + 1) n h'
   rw [List.length_cons]
   omega
theorem QqV (i : Int) : ∀ (S : List Qbp) (v : Int) (n : QaH), n ∈ nB i v S -> n.Func = i /\ (n.Kind = 3 \/ n.Kind = 4) /\ (v <= n.Block /\ n.Block < v + (S.length : Int)) /\ 0 <= n.Stmt /\ n.Stmt < ((S.getD (n.Block - v).toNat default).Stmts.length : Int)
 | [], v, n, h => by cases h
 | s :: S, v, n, h => by
  rw [nB] at h
  rcases List.mem_append.1 h with h' | h'
  ·obtain ⟨a1, a2, a3, a4, a5⟩ := QqL i v s.Stmts 0 n h'
   refine ⟨a1, a3, by rw [List.length_cons]; omega, a4, ?_⟩
   rw [show (n.Block - v).toNat = 0 by omega]
   show n.Stmt < (s.Stmts.length : Int)
   omega
  ·obtain ⟨a1, a2, a3, a4, a5⟩ := QqV i S (v + 1) n h'
   refine ⟨a1, a2, by rw [List.length_cons]; omega, a4, ?_⟩
   rw [show (n.Block - v).toNat = (n.Block - (v + 1)).toNat + 1 by omega]
   exact a5
theorem Qrg : ∀ (S : List QbR) (v : Int) (n : QaH), n ∈ nF v S -> (v <= n.Func /\ n.Func < v + (S.length : Int)) /\ (n.Kind ≠ 1 -> n.Kind ≠ 2 -> (n.Kind = 3 \/ n.Kind = 4) /\ (0 <= n.Block /\ n.Block < ((S.getD (n.Func - v).toNat default).Blocks.length : Int)) /\ 0 <= n.Stmt /\ n.Stmt < ((((S.getD (n.Func - v).toNat default).Blocks).getD n.Block.toNat default).Stmts.length : Int))
 | [], v, n, h => by cases h
 | s :: S, v, n, h => by
  rw [nF] at h
  rw [List.length_cons]
  rcases List.mem_append.1 h with h | h'
  ·rcases List.mem_append.1 h with h | h
   ·rcases List.mem_append.1 h with h | h
    ·rw [List.mem_singleton.1 h]
     exact ⟨by show v <= v /\ v < v + _; omega, fun a => absurd rfl a⟩
    ·obtain ⟨a1, a2, a3, a4, a5⟩ := QqV v s.Blocks 0 n h
     refine ⟨by omega, fun _ _ => ?_⟩
     rw [show (n.Func - v).toNat = 0 by omega]
     rw [show (n.Block - 0).toNat = n.Block.toNat by omega] at a5
     exact ⟨a2, by show 0 <= n.Block /\ n.Block < (s.Blocks.length : Int); omega, a4, a5⟩
   ·rw [List.mem_singleton.1 h]
    exact ⟨by show v <= v /\ v < v + _; omega, fun _ a => absurd rfl a⟩
  ·obtain ⟨a1, a2⟩ := Qrg S (v + 1) n h'
   refine ⟨by omega, ?_⟩
   rw [show (n.Func - v).toNat = (n.Func - (v + 1)).toNat + 1 by omega]
   exact a2
def key (n : QaH) : Int := n.Func * 100000 + (bif n.Kind == 1 then 0 else bif n.Kind == 2 then 99999 else 1 + n.Block * 1000 + n.Stmt * 2 + (bif n.Kind == 4 then 1 else 0))
def one (i k v : Int) (s : Qbc) : List QaH := bif s.Op == 3 then [QaH.mk 3 i k v, QaH.mk 4 i k v] else [QaH.mk 3 i k v]
def Adv (n a x : Int) : Prop := a <= x /\ x <= n
theorem QdY {n a b x : Int} (h : Adv n a b) (k : Adv n b x) : Adv n a x := ⟨Int.le_trans h.1 k.1, k.2⟩
section
variable {α : Type} (z : α) (key : α -> Int)
def gi (d : List α) (k : Int) : α := d.getD k.toNat z
def swp (d : List α) (i j : Int) : List α := (d.set i.toNat (d.getD j.toNat z)).set j.toNat (d.getD i.toNat z)
theorem Qeu (d : List α) (i j : Int) : (swp z d i j).length = d.length := by simp [swp]
theorem Qhp {d : List α} {i j k : Int} (hi : 0 <= i /\ i < (d.length : Int)) (hj : 0 <= j /\ j < (d.length : Int)) (hk : 0 <= k) : gi z (swp z d i j) k = if k = j then gi z d i else if k = i then gi z d j else gi z d k := by
 unfold gi swp
 simp only [List.getD_eq_getElem?_getD, List.getElem?_set, List.length_set]
 by_cases h1 : k = j
 ·subst h1
  have : k.toNat < d.length := by omega
  simp [this]
 ·have e1 : ¬ j.toNat = k.toNat := by omega
  by_cases h2 : k = i
  ·subst h2
   have : k.toNat < d.length := by omega
   simp [e1, h1, this]
  ·have e2 : ¬ i.toNat = k.toNat := by omega
   simp [e1, e2, h1, h2]
theorem QnI {d : List α} {i j : Int} (hi : 0 <= i /\ i < (d.length : Int)) (hj : 0 <= j /\ j < (d.length : Int)) : (swp z d i j).Perm d := by
 unfold swp
 have h1 : i.toNat < d.length := by omega
 have h2 : j.toNat < d.length := by omega
 rw [List.getD_eq_getElem?_getD, List.getD_eq_getElem?_getD, List.getElem?_eq_getElem h1, List.getElem?_eq_getElem h2]
 exact List.set_set_perm h1 h2
structure PI (d d' : List α) (a b : Int) : Prop where
 len : d'.length = d.length
 out : ∀ k, 0 <= k -> (k < a \/ b <= k) -> gi z d' k = gi z d k
 src : ∀ k, a <= k -> k < b -> ∃ m, a <= m /\ m < b /\ gi z d' k = gi z d m
 perm : d'.Perm d
theorem PI.refl (d : List α) (a b : Int) : PI z d d a b := ⟨rfl, fun _ _ _ => rfl, fun k h1 h2 => ⟨k, h1, h2, rfl⟩, List.Perm.refl _⟩
theorem PI.trans {d1 d2 d3 : List α} {a b : Int} (h1 : PI z d1 d2 a b) (h2 : PI z d2 d3 a b) : PI z d1 d3 a b :=
 ⟨h2.len.trans h1.len, fun k hk hc => (h2.out k hk hc).trans (h1.out k hk hc), fun k hk hc => by
  obtain ⟨m, m1, m2, m3⟩ := h2.src k hk hc
  obtain ⟨n, n1, n2, n3⟩ := h1.src m m1 m2
  exact ⟨n, n1, n2, m3.trans n3⟩, h2.perm.trans h1.perm⟩
theorem PI.mono {d d' : List α} {a b a' b' : Int} (h : PI z d d' a b) (h0 : 0 <= a') (ha : a' <= a) (hb : b <= b') : PI z d d' a' b' :=
 ⟨h.len, fun k hk hc => h.out k hk (by omega), fun k hk hc => by
  by_cases hs : a <= k /\ k < b
  ·obtain ⟨m, m1, m2, m3⟩ := h.src k hs.1 hs.2
   exact ⟨m, by omega, by omega, m3⟩
  ·exact ⟨k, hk, hc, h.out k (by omega) (by omega)⟩, h.perm⟩
theorem PI.swp {d : List α} {a b i j : Int} (h0 : 0 <= a) (hb : b <= (d.length : Int)) (hi : a <= i /\ i < b) (hj : a <= j /\ j < b) : PI z d (swp z d i j) a b :=
 ⟨Qeu z d i j, fun k hk hc => by rw [Qhp z ⟨by omega, by omega⟩ ⟨by omega, by omega⟩ hk, if_neg (by omega), if_neg (by omega)], fun k hk hc => by
  rw [Qhp z ⟨by omega, by omega⟩ ⟨by omega, by omega⟩ (by omega)]
  by_cases h1 : k = j
  ·exact ⟨i, hi.1, hi.2, by rw [if_pos h1]⟩
  ·by_cases h2 : k = i
   ·exact ⟨j, hj.1, hj.2, by rw [if_neg h1, if_pos h2]⟩
   ·exact ⟨k, hk, hc, by rw [if_neg h1, if_neg h2]⟩, QnI z ⟨by omega, by omega⟩ ⟨by omega, by omega⟩⟩
def Srt (d : List α) (a b : Int) : Prop := ∀ i j, a <= i -> i <= j -> j < b -> key (gi z d i) <= key (gi z d j)
def LB (d : List α) (a b : Int) : Prop := 0 < a -> ∀ j, a <= j -> j < b -> key (gi z d (a - 1)) <= key (gi z d j)
theorem LB.pi {d d' : List α} {a b : Int} (h : LB z key d a b) (hp : PI z d d' a b) : LB z key d' a b := fun ha j h1 h2 => by
 obtain ⟨m, m1, m2, m3⟩ := hp.src j h1 h2
 rw [m3, hp.out (a - 1) (by omega) (by omega)]
 exact h ha m m1 m2
structure Qmg (d : List α) (a j e : Int) : Prop where
 rg : a <= j /\ j < e
 A : ∀ p q, a <= p -> p <= q -> q < e -> p ≠ j -> q ≠ j -> key (gi z d p) <= key (gi z d q)
 B : ∀ q, j < q -> q < e -> key (gi z d j) <= key (gi z d q)
theorem Qmg.done {d : List α} {a j e : Int} (h : Qmg z key d a j e) (hs : j = a \/ key (gi z d (j - 1)) <= key (gi z d j)) : Srt z key d a e := fun p q hp hpq hq => by
 have hr := h.rg
 by_cases h1 : p = j
 ·subst h1
  by_cases h2 : q = p
  ·subst h2; exact Int.le_refl _
  ·exact h.B q (by omega) hq
 ·by_cases h2 : q = j
  ·subst h2
   rcases hs with hs | hs
   ·omega
   ·by_cases h3 : p = q - 1
    ·subst h3; exact hs
    ·exact Int.le_trans (h.A p (q - 1) hp (by omega) (by omega) h1 (by omega)) hs
  ·exact h.A p q hp hpq hq h1 h2
theorem Qmg.step {d : List α} {a j e : Int} (h0 : 0 <= a) (he : e <= (d.length : Int)) (h : Qmg z key d a j e) (hj : a < j) (hs : key (gi z d j) < key (gi z d (j - 1))) : Qmg z key (swp z d j (j - 1)) a (j - 1) e := by
 have hr := h.rg
 have g : ∀ k, 0 <= k -> gi z (swp z d j (j - 1)) k = if k = j - 1 then gi z d j else if k = j then gi z d (j - 1) else gi z d k := fun k hk => Qhp z ⟨by omega, by omega⟩ ⟨by omega, by omega⟩ hk
 refine ⟨⟨by omega, by omega⟩, fun p q hp hpq hq h1 h2 => ?_, fun q hq1 hq2 => ?_⟩
 ·rw [g p (by omega), g q (by omega), if_neg h1, if_neg h2]
  by_cases e1 : p = j
  ·rw [if_pos e1]
   by_cases e2 : q = j
   ·rw [if_pos e2]; exact Int.le_refl _
   ·rw [if_neg e2]; exact h.A (j - 1) q (by omega) (by omega) hq (by omega) e2
  ·rw [if_neg e1]
   by_cases e2 : q = j
   ·rw [if_pos e2]; exact h.A p (j - 1) hp (by omega) (by omega) e1 (by omega)
   ·rw [if_neg e2]; exact h.A p q hp hpq hq e1 e2
 ·rw [g (j - 1) (by omega), if_pos rfl, g q (by omega), if_neg (by omega)]
  by_cases e2 : q = j
  ·rw [if_pos e2]; omega
  ·rw [if_neg e2]; exact h.B q (by omega) hq2
theorem Qmg.init {d : List α} {a i : Int} (hi : a <= i) (h : Srt z key d a i) : Qmg z key d a i (i + 1) :=
 ⟨⟨hi, by omega⟩, fun p q hp hpq hq h1 h2 => h p q hp hpq (by omega), fun q hq1 hq2 => by omega⟩
theorem Srt.pi {d d' : List α} {a b c e : Int} (h : Srt z key d a b) (h0 : 0 <= a) (hp : PI z d d' c e) (hd : b <= c \/ e <= a) : Srt z key d' a b := fun i j h1 h2 h3 => by
 rw [hp.out i (by omega) (by omega), hp.out j (by omega) (by omega)]; exact h i j h1 h2 h3
end
abbrev idk (x : Int) : Int := x
def Hp (d : List Int) (f lo n : Int) : Prop := ∀ i, lo <= i -> ∀ c, (c = 2 * i + 1 \/ c = 2 * i + 2) -> c < n -> gi 0 d (f + c) <= gi 0 d (f + i)
structure Hq (d : List Int) (f lo n rt : Int) : Prop where
 A : ∀ i, lo <= i -> i ≠ rt -> ∀ c, (c = 2 * i + 1 \/ c = 2 * i + 2) -> c < n -> gi 0 d (f + c) <= gi 0 d (f + i)
 B : ∀ i, lo <= i -> (rt = 2 * i + 1 \/ rt = 2 * i + 2) -> ∀ c, (c = 2 * rt + 1 \/ c = 2 * rt + 2) -> c < n -> gi 0 d (f + c) <= gi 0 d (f + i)
theorem Hq.done {d : List Int} {f lo n rt : Int} (h : Hq d f lo n rt) (hs : ∀ c, (c = 2 * rt + 1 \/ c = 2 * rt + 2) -> c < n -> gi 0 d (f + c) <= gi 0 d (f + rt)) : Hp d f lo n := fun i hi c hc hn => by
 by_cases e : i = rt
 ·subst e; exact hs c hc hn
 ·exact h.A i hi e c hc hn
theorem Hq.step {d : List Int} {f lo n rt c : Int} (h0 : 0 <= f) (hl : 0 <= lo) (hr : lo <= rt) (hb : f + n <= (d.length : Int)) (h : Hq d f lo n rt) (hc : c = 2 * rt + 1 \/ c = 2 * rt + 2) (hn : c < n)
  (h1 : gi 0 d (f + rt) < gi 0 d (f + c)) (h2 : ∀ c', (c' = 2 * rt + 1 \/ c' = 2 * rt + 2) -> c' < n -> gi 0 d (f + c') <= gi 0 d (f + c)) : Hq (swp 0 d (f + rt) (f + c)) f lo n c := by
 have g : ∀ k, 0 <= k -> gi 0 (swp 0 d (f + rt) (f + c)) (f + k) = if k = c then gi 0 d (f + rt) else if k = rt then gi 0 d (f + c) else gi 0 d (f + k) := fun k hk => by
  rw [Qhp 0 ⟨by omega, by omega⟩ ⟨by omega, by omega⟩ (by omega)]
  by_cases e1 : k = c
  ·rw [if_pos (by omega), if_pos e1]
  ·rw [if_neg (by omega), if_neg e1]
   by_cases e2 : k = rt
   ·rw [if_pos (by omega), if_pos e2]
   ·rw [if_neg (by omega), if_neg e2]
 refine ⟨fun i hi hne k hk hkn => ?_, fun i hi hp k hk hkn => ?_⟩
 ·rw [g k (by omega), g i (by omega), if_neg hne]
  by_cases e1 : i = rt
  ·rw [if_pos e1]
   subst e1
   by_cases e2 : k = c
   ·rw [if_pos e2]; omega
   ·rw [if_neg e2, if_neg (by omega)]; exact h2 k hk hkn
  ·rw [if_neg e1]
   by_cases e2 : k = c
   ·omega
   ·rw [if_neg e2]
    by_cases e3 : k = rt
    ·rw [if_pos e3]; subst e3; exact h.B i hi hk c hc hn
    ·rw [if_neg e3]; exact h.A i hi e1 k hk hkn
 ·have hi' : i = rt := by omega
  subst hi'
  rw [g k (by omega), g i (by omega), if_neg (by omega), if_neg (by omega), if_neg (by omega), if_pos rfl]
  exact h.A c (by omega) (by omega) k hk hkn
theorem QoH {d : List Int} {f n : Int} (h : Hp d f 0 n) : ∀ (m : Nat) (k : Int), k.toNat <= m -> 0 <= k -> k < n -> gi 0 d (f + k) <= gi 0 d (f + 0)
 | 0, k, hm, hk, hn => by rw [show k = 0 by omega]; exact Int.le_refl _
 | m + 1, k, hm, hk, hn => by
  by_cases e : k = 0
  ·rw [e]; exact Int.le_refl _
  ·exact Int.le_trans (h ((k - 1) / 2) (by omega) k (by omega) hn) (QoH h m ((k - 1) / 2) (by omega) (by omega) (by omega))
theorem Qou {d : List Int} {a b m : Int} (h0 : 0 <= a) (hm : a <= m /\ m <= b - 1) (hb : b <= (d.length : Int)) (hA : ∀ k, a < k -> k <= m -> gi 0 d k < gi 0 d a) (hB : ∀ k, m < k -> k < b -> gi 0 d a <= gi 0 d k) :
  PI 0 d (swp 0 d m a) a b /\ (∀ k, a <= k -> k < m -> gi 0 (swp 0 d m a) k <= gi 0 (swp 0 d m a) m) /\ (∀ k, m < k -> k < b -> gi 0 (swp 0 d m a) m <= gi 0 (swp 0 d m a) k) := by
 have g : ∀ k, 0 <= k -> gi 0 (swp 0 d m a) k = if k = a then gi 0 d m else if k = m then gi 0 d a else gi 0 d k := fun k hk => Qhp 0 ⟨by omega, by omega⟩ ⟨by omega, by omega⟩ hk
 have gm : gi 0 (swp 0 d m a) m = gi 0 d a := by
  rw [g m (by omega)]
  by_cases e : m = a
  ·rw [if_pos e, e]
  ·rw [if_neg e, if_pos rfl]
 refine ⟨PI.swp 0 h0 hb (by omega) (by omega), fun k h1 h2 => ?_, fun k h1 h2 => ?_⟩
 ·rw [gm, g k (by omega)]
  by_cases e : k = a
  ·rw [if_pos e]; have := hA m (by omega) (Int.le_refl _); omega
  ·rw [if_neg e, if_neg (by omega)]; have := hA k (by omega) (by omega); omega
 ·rw [gm, g k (by omega), if_neg (by omega), if_neg (by omega)]; exact hB k h1 h2
theorem Qq2 : ((List.range 256).all fun k => (decide (k = 0) || decide (2 ^ (Qj4.b.getD k 0).toNat <= 2 * k)) && decide ((Qj4.b.getD k 0).toNat <= 8)) = true := by kernel_rfl
theorem Qol {k : Nat} (h : k < 256) : (k = 0 \/ 2 ^ (Qj4.b.getD k 0).toNat <= 2 * k) /\ (Qj4.b.getD k 0).toNat <= 8 := by
 have := List.all_eq_true.1 Qq2 k (List.mem_range.2 h)
 simpa only [Bool.and_eq_true, Bool.or_eq_true, decide_eq_true_eq] using this
theorem Qi6 {l : Int} (h : 0 <= l /\ l <= 65535) : (BitVec.ofInt 64 l).toNat = l.toNat := by rw [BitVec.toNat_ofInt]; omega
theorem Qot {x m : BitVec 64} (h : 1 <= m.toNat) : (x &&& (m - 1#64)).toNat < m.toNat := by
 rw [BitVec.toNat_and]
 have h1 : (m - 1#64).toNat = m.toNat - 1 := by
  rw [BitVec.toNat_sub]
  have := m.isLt
  simp
  omega
 rw [h1]
 have := Nat.and_le_right (n := x.toNat) (m := m.toNat - 1)
 omega
theorem Qlq {d1 d' : List Int} {a m b : Int} (hm : a <= m /\ m < b) (hA : ∀ k, a <= k -> k < m -> gi 0 d1 k <= gi 0 d1 m) (hB : ∀ k, m < k -> k < b -> gi 0 d1 m <= gi 0 d1 k)
  (sl : ∀ k, a <= k -> k < m -> ∃ s, a <= s /\ s < m /\ gi 0 d' k = gi 0 d1 s) (sm : gi 0 d' m = gi 0 d1 m) (sr : ∀ k, m + 1 <= k -> k < b -> ∃ s, m + 1 <= s /\ s < b /\ gi 0 d' k = gi 0 d1 s)
  (h1 : Srt 0 idk d' a m) (h2 : Srt 0 idk d' (m + 1) b) : Srt 0 idk d' a b := fun p q hp hpq hq => by
 have lo : ∀ k, a <= k -> k < m -> gi 0 d' k <= gi 0 d1 m := fun k k1 k2 => by
  obtain ⟨s, s1, s2, s3⟩ := sl k k1 k2
  rw [s3]; exact hA s s1 s2
 have hi : ∀ k, m < k -> k < b -> gi 0 d1 m <= gi 0 d' k := fun k k1 k2 => by
  obtain ⟨s, s1, s2, s3⟩ := sr k (by omega) k2
  rw [s3]; exact hB s (by omega) s2
 show gi 0 d' p <= gi 0 d' q
 by_cases c1 : q < m
 ·exact h1 p q hp hpq c1
 ·by_cases c2 : m < p
  ·exact h2 p q (by omega) hpq hq
  ·by_cases c3 : p = m
   ·subst c3
    by_cases c4 : q = p
    ·subst c4; exact Int.le_refl _
    ·rw [sm]; exact hi q (by omega) hq
   ·have l1 := lo p hp (by omega)
    by_cases c4 : q = m
    ·subst c4; rw [sm]; exact l1
    ·exact Int.le_trans l1 (hi q (by omega) hq)
theorem Qlt {α β : Type} {x : LR α β} {y : α} (h : x = .brk y) : x ≠ .oof := fun e => by rw [h] at e; cases e
def EdL (n : Nat) (l : List Int) : Prop := l.Nodup /\ ∀ x ∈ l, 0 <= x /\ x < (n : Int)
theorem Qi8 {n : Nat} {l : List Int} (h : EdL n l) : l.length <= n := QjX n l h.1 h.2
theorem Qnb (n : Nat) : EdL n [] := ⟨List.nodup_nil, fun x hx => by cases hx⟩
theorem QmN {n : Nat} {l : List Int} {x : Int} (h : EdL n l) (hx : 0 <= x /\ x < (n : Int)) (hn : x ∉ l) : EdL n (l ++ [x]) := by
 refine ⟨List.nodup_append.2 ⟨h.1, by simp, fun a ha b hb => ?_⟩, fun y hy => ?_⟩
 ·rw [List.mem_singleton] at hb; subst hb; intro e; exact hn (e ▸ ha)
 ·rcases List.mem_append.1 hy with hy | hy
  ·exact h.2 y hy
  ·rw [List.mem_singleton] at hy; rw [hy]; exact hx
theorem QhE {l : List (List Int)} {i : Int} (h : 0 <= i /\ i < (l.length : Int)) : l.getD i.toNat [] ∈ l := by
 rw [List.getD_eq_getElem?_getD, List.getElem?_eq_getElem (show i.toNat < l.length by omega)]; exact List.getElem_mem _
structure BOk (b : QaU) : Prop where
 ps : b.g.Pred.length = b.g.Succ.length
 n0 : 0 < b.g.Succ.length
 nb : b.g.Succ.length <= 20000
 su : ∀ l ∈ b.g.Succ, EdL b.g.Succ.length l
 pr : ∀ l ∈ b.g.Pred, EdL b.g.Succ.length l
 mi : ∀ i k, 0 <= i -> i < (b.g.Succ.length : Int) -> 0 <= k -> k < (b.g.Succ.length : Int) -> (k ∈ b.g.Succ.getD i.toNat [] ↔ i ∈ b.g.Pred.getD k.toNat [])
 num : ∀ k, 0 <= (Qev b.number k).getD 0 /\ (Qev b.number k).getD 0 < (b.g.Succ.length : Int)
theorem BOk.sl {b : QaU} (h : BOk b) {i : Int} (hi : 0 <= i /\ i < (b.g.Succ.length : Int)) : (b.g.Succ.getD i.toNat []).length <= 20000 := Nat.le_trans (Qi8 (h.su _ (QhE hi))) h.nb
theorem BOk.pl {b : QaU} (h : BOk b) {i : Int} (hi : 0 <= i /\ i < (b.g.Succ.length : Int)) : (b.g.Pred.getD i.toNat []).length <= 20000 := Nat.le_trans (Qi8 (h.pr _ (QhE (by have := h.ps; omega)))) h.nb
theorem QkI {l : List (List Int)} {i k : Int} {x : List Int} (hi : 0 <= i /\ i < (l.length : Int)) (hk : 0 <= k) : (l.set i.toNat x).getD k.toNat [] = if k = i then x else l.getD k.toNat [] := by
 simp only [List.getD_eq_getElem?_getD, List.getElem?_set]
 by_cases e : k = i
 ·subst e; simp [show k.toNat < l.length by omega]
 ·simp [e, show ¬ i.toNat = k.toNat by omega]
theorem Qj2 {g : List (List Int)} {c : Int} (h : ∀ l ∈ g, (l.length : Int) <= c) (h0 : 0 <= c) (i : Nat) : ((g.getD i []).length : Int) <= c := by
 by_cases hi : i < g.length
 ·rw [List.getD_eq_getElem?_getD, List.getElem?_eq_getElem hi]; exact h _ (List.getElem_mem hi)
 ·rw [List.getD_eq_getElem?_getD, List.getElem?_eq_none (by omega)]; exact h0
theorem QoL {g : List (List Int)} {c : Int} {i : Nat} (h : ∀ l ∈ g, (l.length : Int) <= c) (h0 : 0 <= c /\ c <= 1000000000) : (g.getD i []).length <= 1000000000 := by
 have := Qj2 h h0.1 i; omega
theorem QlD {g : List (List Int)} {c c' : Int} {i j : Nat} {x : List Int} (h : ∀ l ∈ g, (l.length : Int) <= c) (hx : x.length <= (g.getD j []).length + 1) (hc : c + 1 <= c') (h0 : 0 <= c) : ∀ l ∈ g.set i x, (l.length : Int) <= c' := fun l hl => by
 rcases List.mem_or_eq_of_mem_set hl with hl | rfl
 ·have := h l hl; omega
 ·have := Qj2 h h0 j; omega
def Asc (l : List Int) (n : Int) : Prop := ∀ k, 0 <= k -> k < (l.length : Int) -> 0 <= l.getD k.toNat 0 /\ l.getD k.toNat 0 < n /\ (0 < k -> l.getD (k - 1).toNat 0 < l.getD k.toNat 0)
theorem Qq3 {a : List QaH} {b c : List (List Int)} {m : List (QaH × Int)} (h : BOk (QaU.mk (QaP.mk a b c) m)) : ∀ l ∈ b, (l.length : Int) <= 20000 := fun l hl => by
 have h1 := Qi8 (h.su l hl); have h2 := h.nb; omega
theorem Qrx {a : List QaH} {b c : List (List Int)} {m : List (QaH × Int)} (h : BOk (QaU.mk (QaP.mk a b c) m)) : ∀ l ∈ c, (l.length : Int) <= 20000 := fun l hl => by
 have h1 := Qi8 (h.pr l hl); have h2 := h.nb; omega
theorem QoQ {g : List (List Int)} {i : Nat} (h : ∀ l ∈ g, (l.length : Int) <= 20000) : (g.getD i []).length <= 65535 := by
 have := Qj2 h (by omega) i; omega
theorem QkG {g : List (List Int)} {c : Int} {i j : Nat} {x : List Int} (h : ∀ l ∈ g, (l.length : Int) <= c) (hx : x.length = (g.getD j []).length) (h0 : 0 <= c := by omega) : ∀ l ∈ g.set i x, (l.length : Int) <= c := fun l hl => by
 rcases List.mem_or_eq_of_mem_set hl with hl | rfl
 ·exact h l hl
 ·have := Qj2 h h0 j; omega
theorem QqH {a : List QaH} {b c : List (List Int)} {m : List (QaH × Int)} (h : BOk (QaU.mk (QaP.mk a b c) m)) : c.length = b.length := h.ps
structure VG (g : QaP) : Prop where
 n1 : 1 <= g.Nodes.length /\ g.Nodes.length <= 256
 sl : g.Succ.length = g.Nodes.length
 pl : g.Pred.length = g.Nodes.length
 sa : ∀ k : Int, 0 <= k -> k < (g.Nodes.length : Int) -> Asc (g.Succ.getD k.toNat []) (g.Nodes.length : Int)
theorem Qhr {l : List Int} {n x : Int} (h : Asc l n) (hx : x ∈ l) : 0 <= x /\ x < n := by
 obtain ⟨i, hi, e⟩ := List.mem_iff_getElem.1 hx
 have := h (i : Int) (by omega) (by omega)
 rw [show ((i : Int)).toNat = i by omega, List.getD_eq_getElem?_getD, List.getElem?_eq_getElem hi] at this
 rw [<- e]; exact ⟨this.1, this.2.1⟩
theorem QjY {l : List Int} {n : Int} (h : Asc l n) : (l.length : Int) <= n \/ l = [] := by
 have key : ∀ (m : Nat), m < l.length -> (m : Int) <= l.getD m 0 := fun m => by
  induction m with
  | zero => intro hm; have := (h 0 (by omega) (by omega)).1; simpa using this
  | succ m ih =>
   intro hm
   have h1 := ih (by omega)
   have h2 := (h ((m + 1 : Nat) : Int) (by omega) (by omega)).2.2 (by omega)
   rw [show (((m + 1 : Nat) : Int) - 1).toNat = m by omega, show (((m + 1 : Nat) : Int)).toNat = m + 1 by omega] at h2
   omega
 by_cases e : l.length = 0
 ·exact .inr (List.length_eq_zero_iff.1 e)
 ·left
  have h1 := key (l.length - 1) (by omega)
  have h2 := (h ((l.length - 1 : Nat) : Int) (by omega) (by omega)).2.1
  rw [show (((l.length - 1 : Nat) : Int)).toNat = l.length - 1 by omega] at h2
  omega
def pot (S : List (List Int)) (sn : List Bool) : Nat -> Nat
 | 0 => 0
 | n + 1 => pot S sn n + (if sn.getD n false = true then 0 else (S.getD n []).length)
theorem Qj0 {sn : List Bool} {k i : Nat} (hk : k < sn.length) : (sn.set k true).getD i false = if i = k then true else sn.getD i false := by
 simp only [List.getD_eq_getElem?_getD, List.getElem?_set]
 by_cases e : i = k
 ·subst e; simp [hk]
 ·simp [e, Ne.symm e]
theorem Qow {S : List (List Int)} {sn : List Bool} {k : Nat} (hk : k < sn.length) : ∀ n, n <= k -> pot S (sn.set k true) n = pot S sn n
 | 0, _ => rfl
 | n + 1, h => by rw [pot, pot, Qow hk n (by omega), Qj0 hk, if_neg (show ¬ n = k by omega)]
theorem Qki {S : List (List Int)} {sn : List Bool} {k : Nat} (hk : k < sn.length) (hs : sn.getD k false = false) : ∀ n, k < n -> pot S (sn.set k true) n + (S.getD k []).length = pot S sn n
 | 0, h => by omega
 | n + 1, h => by
  rw [pot, pot, Qj0 hk]
  by_cases e : n = k
  ·subst e; rw [if_pos rfl, if_pos rfl, Qow hk n (Nat.le_refl _), hs]; simp
  ·have := Qki (S := S) hk hs n (by omega); rw [if_neg e]; omega
theorem Qk9 (S : List (List Int)) (sn : List Bool) : ∀ n, n <= S.length -> pot S sn n <= ((S.take n).map List.length).sum
 | 0, _ => by simp [pot]
 | n + 1, h => by
  have h1 := Qk9 S sn n (by omega)
  have e : S.take (n + 1) = S.take n ++ [S.getD n []] := by
   rw [List.take_add_one, List.getD_eq_getElem?_getD, List.getElem?_eq_getElem (show n < S.length by omega)]; rfl
  rw [pot, e, List.map_append, List.sum_append]
  simp only [List.map_cons, List.map_nil, List.sum_cons, List.sum_nil]
  split <;> omega
theorem Qoo {g : QaP} (hg : VG g) (sn : List Bool) : ∀ n, n <= g.Nodes.length -> pot g.Succ sn n <= 256 * n
 | 0, _ => by simp [pot]
 | n + 1, h => by
  have h1 := Qoo hg sn n (by omega)
  have h2 := hg.sa (n : Int) (by omega) (by omega)
  rw [show ((n : Int)).toNat = n by omega] at h2
  have h3 : (g.Succ.getD n []).length <= 256 := by
   have h4 := hg.n1
   rcases QjY h2 with h5 | h5
   ·omega
   ·rw [h5]; simp
  rw [pot]
  split <;> omega
structure RI (g : QaP) (f : List Int) (sn : List Bool) (td out : List Int) : Prop where
 sl : sn.length = g.Nodes.length
 tm : ∀ x ∈ td, 0 <= x /\ x < (g.Nodes.length : Int)
 on : out.Nodup
 oi : ∀ x ∈ out, 0 <= x /\ x < (g.Nodes.length : Int)
 so : ∀ x : Int, 0 <= x -> x < (g.Nodes.length : Int) -> (sn.getD x.toNat false = true ↔ x ∈ out)
 pt : td.length + pot g.Succ sn g.Nodes.length <= f.length + 65536
theorem RI.ol {g : QaP} {f : List Int} {sn : List Bool} {td out : List Int} (hg : VG g) (h : RI g f sn td out) : out.length <= 256 := Nat.le_trans (QjX _ _ h.on h.oi) hg.n1.2
theorem Qnz {g : QaP} {f : List Int} {sn : List Bool} {td out : List Int} (hg : VG g) (h : RI g f sn td out) : out.length <= 65535 := by have := h.ol hg; omega
theorem RI.init {g : QaP} {f : List Int} (hg : VG g) (hf : ∀ x ∈ f, 0 <= x /\ x < (g.Nodes.length : Int)) : RI g f (List.replicate (((g.Nodes.length : Nat) : Int) : Int).toNat false) f [] := by
 refine ⟨by simp, hf, List.nodup_nil, fun x hx => (by cases hx), fun x h1 h2 => ⟨fun h => ?_, fun h => (by cases h)⟩, ?_⟩
 ·rw [List.getD_eq_getElem?_getD, List.getElem?_replicate] at h; split at h <;> cases h
 ·have := Qoo hg (List.replicate (((g.Nodes.length : Nat) : Int) : Int).toNat false) g.Nodes.length (Nat.le_refl _)
  have := hg.n1
  omega
theorem QmE {g : QaP} {f : List Int} {sn : List Bool} {td out : List Int} (hg : VG g) (h : RI g f sn td out) (ht : (0 : Int) < (td.length : Int)) : 0 <= td.getD ((td.length : Int) - 1).toNat 0 /\ td.getD ((td.length : Int) - 1).toNat 0 < (g.Nodes.length : Int) /\ sn.length = g.Nodes.length /\ td.length <= f.length + 65536 /\ out.length <= 256 /\ (g.Succ.getD (td.getD ((td.length : Int) - 1).toNat 0).toNat []).length <= 256 :=
 ⟨(h.tm _ (Qcw (by omega))).1, (h.tm _ (Qcw (by omega))).2, h.sl, by have := h.pt; omega, h.ol hg, by
  have h1 := h.tm _ (Qcw (d := 0) (i := ((td.length : Int) - 1).toNat) (xs := td) (by omega))
  have h2 := hg.n1
  rcases QjY (hg.sa _ h1.1 h1.2) with h3 | h3
  ·omega
  ·rw [h3]; simp⟩
theorem RI.pop {g : QaP} {f : List Int} {sn : List Bool} {td out : List Int} (h : RI g f sn td out) : RI g f sn ((td.take (((((td.length : Nat) : Int) - 1) : Int).toNat)).drop 0) out :=
 ⟨h.sl, fun x hx => h.tm x (List.mem_of_mem_take (by simpa using hx)), h.on, h.oi, h.so, by have := h.pt; simp only [List.drop_zero, List.length_take]; omega⟩
theorem RI.push {g : QaP} {f : List Int} {sn : List Bool} {td out : List Int} (hg : VG g) (h : RI g f sn td out) {x : Int} (hx : 0 <= x /\ x < (g.Nodes.length : Int)) (ht : 0 < td.length) (hs : sn.getD x.toNat false = false) :
  RI g f (sn.set x.toNat true) (((td.take (((((td.length : Nat) : Int) - 1) : Int).toNat)).drop 0) ++ g.Succ.getD x.toNat []) (out ++ [x]) := by
 have hl := h.sl
 have hn : x ∉ out := fun hm => by rw [(h.so x hx.1 hx.2).2 hm] at hs; cases hs
 refine ⟨by simpa using hl, fun y hy => ?_, ?_, fun y hy => ?_, fun y h1 h2 => ?_, ?_⟩
 ·rcases List.mem_append.1 hy with hy | hy
  ·exact h.tm y (List.mem_of_mem_take (by simpa using hy))
  ·exact Qhr (hg.sa x hx.1 hx.2) hy
 ·refine List.nodup_append.2 ⟨h.on, by simp, fun a ha b hb => ?_⟩
  rw [List.mem_singleton] at hb; subst hb; intro e; exact hn (e ▸ ha)
 ·rcases List.mem_append.1 hy with hy | hy
  ·exact h.oi y hy
  ·rw [List.mem_singleton] at hy; rw [hy]; exact hx
 ·rw [Qj0 (by omega), List.mem_append, List.mem_singleton]
  by_cases e : y.toNat = x.toNat
  ·rw [if_pos e]; exact ⟨fun _ => .inr (by omega), fun _ => rfl⟩
  ·rw [if_neg e]; exact (h.so y h1 h2).trans ⟨.inl, fun hh => hh.resolve_right (fun e' => e (by rw [e']))⟩
 ·have h1 := h.pt
  have h2 := Qki (S := g.Succ) (sn := sn) (k := x.toNat) (by omega) hs g.Nodes.length (by omega)
  simp only [List.length_append, List.drop_zero, List.length_take]
  omega
def sm : Nat -> (Nat -> Nat) -> Nat
 | 0, _ => 0
 | n + 1, f => sm n f + f n
theorem Qgz {f g : Nat -> Nat} : ∀ n, (∀ i, i < n -> f i = g i) -> sm n f = sm n g
 | 0, _ => rfl
 | n + 1, h => by rw [sm, sm, Qgz n (fun i hi => h i (by omega)), h n (by omega)]
theorem QoB (f g : Nat -> Nat) : ∀ n, sm n (fun i => f i + g i) = sm n f + sm n g
 | 0 => rfl
 | n + 1 => by rw [sm, sm, sm, QoB f g n]; omega
theorem Qnd : ∀ n, sm n (fun _ => 0) = 0
 | 0 => rfl
 | n + 1 => by rw [sm, Qnd n]
theorem Qm4 (f : Nat -> Nat -> Nat) (m : Nat) : ∀ n, sm n (fun i => sm m (f i)) = sm m (fun k => sm n (fun i => f i k))
 | 0 => (Qnd m).symm
 | n + 1 => by
  rw [sm, Qm4 f m n, <- QoB]
  exact Qgz m fun i _ => rfl
theorem QpI (f : Nat -> Nat) {n m : Nat} (h : n <= m) : sm n f <= sm m f := by
 induction m with
 | zero => rw [show n = 0 by omega]; exact Nat.le_refl _
 | succ m ih =>
  by_cases e : n = m + 1
  ·rw [e]; exact Nat.le_refl _
  ·exact Nat.le_trans (ih (by omega)) (Nat.le_add_right _ _)
theorem QqG (f : Nat -> Nat) (c : Nat) : ∀ n, (∀ i, i < n -> f i <= c) -> sm n f <= n * c
 | 0, _ => Nat.zero_le _
 | n + 1, h => by
  have h1 := QqG f c n (fun i hi => h i (by omega))
  have h2 := h n (by omega)
  rw [sm, Nat.succ_mul]; omega
theorem QmB : ∀ (n : Nat) (l : List Int), l.Nodup -> (∀ x ∈ l, 0 <= x /\ x < (n : Int)) -> l.length = sm n (fun k => if (k : Int) ∈ l then 1 else 0)
 | 0, l, _, h => by
  cases l with
  | nil => rfl
  | cons x l => have := h x (by simp); omega
 | n + 1, l, hn, h => by
  rw [sm]
  have h1 := QmB n (l.erase (n : Int)) (hn.erase _) (fun x hx => by
   have hx' := (List.Nodup.mem_erase_iff hn).1 hx
   have h2 := h x hx'.2
   have h3 : x ≠ n := hx'.1
   omega)
  rw [Qgz n (g := fun k => if (k : Int) ∈ l then 1 else 0) (fun i hi => by
   have : ((i : Int) ∈ l.erase (n : Int)) ↔ (i : Int) ∈ l := by
    rw [List.Nodup.mem_erase_iff hn]; exact ⟨fun h => h.2, fun h => ⟨by omega, h⟩⟩
   simp only [this])] at h1
  by_cases c : (n : Int) ∈ l
  ·rw [if_pos c, <- h1, List.length_erase_of_mem c]
   have := List.length_pos_of_mem c; omega
  ·rw [if_neg c, <- h1, List.erase_of_not_mem c]; omega
theorem QmV {l : List Int} {n : Int} (h : Asc l n) (i : Nat) : ∀ d : Nat, i + d + 1 < l.length -> l.getD i 0 < l.getD (i + d + 1) 0
 | 0, hd => by
  have := (h ((i + 1 : Nat) : Int) (by omega) (by omega)).2.2 (by omega)
  rwa [show (((i + 1 : Nat) : Int) - 1).toNat = i by omega, show (((i + 1 : Nat) : Int)).toNat = i + 1 by omega] at this
 | d + 1, hd => by
  have h1 := QmV h i d (by omega)
  have h2 := (h ((i + d + 1 + 1 : Nat) : Int) (by omega) (by omega)).2.2 (by omega)
  rw [show (((i + d + 1 + 1 : Nat) : Int) - 1).toNat = i + d + 1 by omega, show (((i + d + 1 + 1 : Nat) : Int)).toNat = i + d + 1 + 1 by omega] at h2
  exact Int.lt_trans h1 h2
theorem Qia (l : List Int) (n : Int) : Asc l n ↔ l.Pairwise (· < ·) /\ ∀ x ∈ l, 0 <= x /\ x < n := by
 constructor
 ·intro h
  refine ⟨List.pairwise_iff_getElem.2 fun i j hi hj hij => ?_, fun x hx => Qhr h hx⟩
  have := QmV h i (j - i - 1) (by omega)
  rw [show i + (j - i - 1) + 1 = j by omega] at this
  simpa [List.getD_eq_getElem?_getD, List.getElem?_eq_getElem hi, List.getElem?_eq_getElem hj] using this
 ·rintro ⟨h1, h2⟩ k hk0 hk
  have hk' : k.toNat < l.length := by omega
  have e1 : l.getD k.toNat 0 = l[k.toNat] := by simp [List.getD_eq_getElem?_getD, List.getElem?_eq_getElem hk']
  rw [e1]
  refine ⟨(h2 _ (List.getElem_mem hk')).1, (h2 _ (List.getElem_mem hk')).2, fun h0 => ?_⟩
  have hk2 : (k - 1).toNat < l.length := by omega
  have e2 : l.getD (k - 1).toNat 0 = l[(k - 1).toNat] := by rw [List.getD_eq_getElem?_getD, List.getElem?_eq_getElem hk2]; rfl
  rw [e2]
  exact List.pairwise_iff_getElem.1 h1 _ _ hk2 hk' (by omega)
theorem QlC {l : List Int} {n : Int} (h : Asc l n) : l.Nodup := ((Qia l n).1 h).1.imp (fun hab => by omega)
structure VF (S P : List (List Int)) (n : Nat) : Prop where
 sl : S.length = n
 pl : P.length = n
 sa : ∀ k : Nat, k < n -> Asc (S.getD k []) (n : Int)
 pa : ∀ k : Nat, k < n -> Asc (P.getD k []) (n : Int)
 mi : ∀ i k : Nat, i < n -> k < n -> ((k : Int) ∈ S.getD i [] ↔ (i : Int) ∈ P.getD k [])
theorem VF.symm {S P : List (List Int)} {n : Nat} (h : VF S P n) : VF P S n := ⟨h.pl, h.sl, h.pa, h.sa, fun i k hi hk => (h.mi k i hk hi).symm⟩
def Qms (l : List (List Int)) : Nat := sm l.length (fun i => (l.getD i []).length)
theorem VF.cnt {S P : List (List Int)} {n : Nat} (h : VF S P n) : Qms S = Qms P := by
 unfold Qms
 rw [h.sl, h.pl]
 rw [Qgz n (g := fun i => sm n (fun k => if (k : Int) ∈ S.getD i [] then 1 else 0)) (fun i hi => QmB n _ (QlC (h.sa i hi)) (fun x hx => Qhr (h.sa i hi) hx))]
 rw [Qgz n (f := fun i => (P.getD i []).length) (g := fun i => sm n (fun k => if (k : Int) ∈ P.getD i [] then 1 else 0)) (fun i hi => QmB n _ (QlC (h.pa i hi)) (fun x hx => Qhr (h.pa i hi) hx))]
 rw [Qm4]
 refine Qgz n fun k hk => Qgz n fun i hi => ?_
 simp only [h.mi i k hi hk]
theorem QjR {l : List Int} {k : Nat} (hk : k < l.length) : l.getD k 0 = l[k] := by rw [List.getD_eq_getElem?_getD, List.getElem?_eq_getElem hk]; rfl
theorem Qsd {l : List (List Int)} {a k : Nat} {x : List Int} (ha : a < l.length) : (l.set a x).getD k [] = if k = a then x else l.getD k [] := by
 simp only [List.getD_eq_getElem?_getD, List.getElem?_set]
 by_cases e : k = a
 ·subst e; simp [ha]
 ·simp [e, Ne.symm e]
theorem VF.nil (n : Nat) : VF (List.replicate n []) (List.replicate n []) n := by
 have e : ∀ k, (List.replicate n ([] : List Int)).getD k [] = [] := fun k => by
  rw [List.getD_eq_getElem?_getD, List.getElem?_replicate]; split <;> rfl
 refine ⟨List.length_replicate, List.length_replicate, fun k _ => ?_, fun k _ => ?_, fun i k _ _ => ?_⟩
 ·rw [e]; intro k h1 h2; simp at h2; omega
 ·rw [e]; intro k h1 h2; simp at h2; omega
 ·rw [e, e]; exact ⟨fun h => (by cases h), fun h => (by cases h)⟩
theorem VF.es {S P : List (List Int)} {n c : Nat} (h : VF S P n) (hc : n * n <= c) : Qms S <= c := by
 refine Nat.le_trans (QqG _ n _ fun i hi => ?_) (by rw [h.sl]; exact hc)
 rw [h.sl] at hi
 rcases QjY (h.sa i hi) with h1 | h1
 ·omega
 ·rw [h1]; simp
inductive Rc (S : List (List Int)) (A : List Int) : Int -> Prop
 | base {x : Int} (h : x ∈ A) : Rc S A x
 | step {x y : Int} (h : Rc S A x) (hy : y ∈ S.getD x.toNat []) : Rc S A y
theorem Qpg {a b : List Int} {n m : Int} (ha : Asc a n) (hb : Asc b m) (h : ∀ x, x ∈ a ↔ x ∈ b) : a = b :=
 List.Perm.eq_of_pairwise (le := (· < ·)) (fun x y _ _ h1 h2 => absurd h2 (by omega)) ((Qia a n).1 ha).1 ((Qia b m).1 hb).1 ((List.perm_ext_iff_of_nodup (QlC ha) (QlC hb)).2 (fun {x} => h x))
theorem Qpj {td : List Int} (c : (0 : Int) < ((td.length : Nat) : Int)) : ∀ y ∈ td, y ∈ ((td.take (((((td.length : Nat) : Int) - 1) : Int).toNat)).drop 0) \/ y = td.getD (((td.length : Nat) : Int) - 1).toNat 0 := by
 intro y hy
 rw [List.drop_zero]
 obtain ⟨i, hi, e⟩ := List.mem_iff_getElem.1 hy
 by_cases h : i = td.length - 1
 ·right
  rw [show (((td.length : Nat) : Int) - 1).toNat = i by omega, QjR hi, e]
 ·left
  rw [<- e]
  exact List.mem_iff_getElem.2 ⟨i, by rw [List.length_take]; omega, by rw [List.getElem_take]⟩
def Inr (g : QaP) (f : List Int) : Prop := ∀ x ∈ f, 0 <= x /\ x < (g.Nodes.length : Int)
theorem QoM {S : List (List Int)} {A : List Int} (x : Int) {B : List Int} (hB : ∀ y ∈ B, Rc S A y) (h : Rc S B x) : Rc S A x := by
 induction h with
 | base h' => exact hB _ h'
 | step _ hy ih => exact .step ih hy
theorem QnG {g : QaP} (hg : VG g) {A : List Int} (hA : Inr g A) {x : Int} (h : Rc g.Succ A x) : 0 <= x /\ x < (g.Nodes.length : Int) := by
 induction h with
 | base h' => exact hA _ h'
 | step _ hy ih => exact Qhr (hg.sa _ ih.1 ih.2) hy
theorem Qm5 {g : QaP} (hg : VG g) (hm : ∀ i k : Int, 0 <= i /\ i < (g.Nodes.length : Int) -> 0 <= k /\ k < (g.Nodes.length : Int) -> k ∈ g.Succ.getD i.toNat [] -> i ∈ g.Pred.getD k.toNat []) {a b : Int} (ha : 0 <= a /\ a < (g.Nodes.length : Int)) (h : Rc g.Succ [a] b) : Rc g.Pred [b] a := by
 have hA : Inr g [a] := fun x hx => by rw [List.mem_singleton] at hx; rw [hx]; exact ha
 have key : ∀ {c b : Int}, Rc g.Succ [a] c -> 0 <= b /\ b < (g.Nodes.length : Int) -> b ∈ g.Succ.getD c.toNat [] -> Rc g.Pred [c] a -> Rc g.Pred [b] a := fun {c b} hc hb hbc h1 => by
  have hcr := QnG hg hA hc
  exact QoM a (fun y hy => by
   rw [List.mem_singleton] at hy; rw [hy]
   exact .step (.base (List.mem_singleton.2 rfl)) (hm c b hcr hb hbc)) h1
 induction h with
 | base h' => rw [List.mem_singleton] at h'; rw [h']; exact .base (List.mem_singleton.2 rfl)
 | step hc hy ih => exact key hc (Qhr (hg.sa _ (QnG hg hA hc).1 (QnG hg hA hc).2) hy) hy ih
theorem QrK {g : QaP} (h : VF g.Succ g.Pred g.Nodes.length) : ∀ i k : Int, 0 <= i /\ i < (g.Nodes.length : Int) -> 0 <= k /\ k < (g.Nodes.length : Int) -> (k ∈ g.Succ.getD i.toNat [] ↔ i ∈ g.Pred.getD k.toNat []) := fun i k hi hk => by
 have := h.mi i.toNat k.toNat (by omega) (by omega)
 rwa [show ((i.toNat : Nat) : Int) = i by omega, show ((k.toNat : Nat) : Int) = k by omega] at this
theorem Qm2 (l : List Str) (a b : Int) : Qhc l a b = (l.all Qbm && (decide (a <= (l.length : Int)) && decide ((l.length : Int) <= b))) := by
 have l0 : Qem l ((l.length : Int) - 0).toNat 0 = if l.all Qbm = true then .brk () else .ret false :=
  QoS (Qem l) (fun i => by rw [Qem]) fun r i h0 h1 => by
   rw [Qem]; cases Qbm (l.getD i.toNat default) <;> rfl
 rw [Qhc, l0]
 cases l.all Qbm
 ·rfl
 ·cases decide (a <= (l.length : Int)) <;> rfl
theorem Qk3 (p : Qav) : QhG p = (decide (1 <= p.Funcs.length /\ p.Funcs.length <= 8) && p.Funcs.all fun f => Qbm f.Name && (decide (1 <= f.Blocks.length /\ f.Blocks.length <= 16) && f.Blocks.all fun b => Qbm b.Name && (decide (1 <= b.Stmts.length /\ b.Stmts.length <= 32) && b.Stmts.all Qd9))) := by
 have l2 : ∀ (b : List Qbc), Qe1 b ((b.length : Int) - 0).toNat 0 = if b.all Qd9 = true then .brk () else .ret false := fun b =>
  QoS (Qe1 b) (fun i => by rw [Qe1]) fun r i h0 h1 => by
   rw [Qe1]; cases Qd9 (b.getD i.toNat default) <;> rfl
 have l1 : ∀ (f : List Qbp), QeZ f ((f.length : Int) - 0).toNat 0 = if (f.all fun b => Qbm b.Name && (decide (1 <= b.Stmts.length /\ b.Stmts.length <= 32) && b.Stmts.all Qd9)) = true then .brk () else .ret false := fun f =>
  QoS (QeZ f) (fun i => by rw [QeZ]) fun r i h0 h1 => by
   rw [QeZ]
   generalize hb : f.getD i.toNat default = b
   have e := l2 b.Stmts
   simp only [Bool.cond_eq_ite]
   cases hN : Qbm b.Name
   ·simp
   by_cases h1 : ((b.Stmts.length : Nat) : Int) < 1
   ·have : ¬ (1 <= b.Stmts.length /\ b.Stmts.length <= 32) := by omega
    simp [h1, this]
   by_cases h2 : (32 : Int) < ((b.Stmts.length : Nat) : Int)
   ·have : ¬ (1 <= b.Stmts.length /\ b.Stmts.length <= 32) := by omega
    simp [h1, h2, this]
   have h3 : (1 <= b.Stmts.length /\ b.Stmts.length <= 32) := by omega
   rw [e]
   simp only [h1, h2, decide_false, h3, decide_true, Bool.not_true, Bool.true_and, and_self, reduceIte, Bool.false_eq_true]
   all_goals (cases b.Stmts.all Qd9 <;> rfl)
 have l0 : QeW p ((p.Funcs.length : Int) - 0).toNat 0 = if (p.Funcs.all fun f => Qbm f.Name && (decide (1 <= f.Blocks.length /\ f.Blocks.length <= 16) && f.Blocks.all fun b => Qbm b.Name && (decide (1 <= b.Stmts.length /\ b.Stmts.length <= 32) && b.Stmts.all Qd9))) = true then .brk () else .ret false :=
  QoS (QeW p) (fun i => by rw [QeW]) fun r i h0 h1 => by
   rw [QeW]
   generalize hb : p.Funcs.getD i.toNat default = f
   have e := l1 f.Blocks
   simp only [Bool.cond_eq_ite]
   cases hN : Qbm f.Name
   ·simp
   by_cases h1 : ((f.Blocks.length : Nat) : Int) < 1
   ·have : ¬ (1 <= f.Blocks.length /\ f.Blocks.length <= 16) := by omega
    simp [h1, this]
   by_cases h2 : (16 : Int) < ((f.Blocks.length : Nat) : Int)
   ·have : ¬ (1 <= f.Blocks.length /\ f.Blocks.length <= 16) := by omega
    simp [h1, h2, this]
   have h3 : (1 <= f.Blocks.length /\ f.Blocks.length <= 16) := by omega
   rw [e]
   simp only [h1, h2, decide_false, h3, decide_true, Bool.not_true, Bool.true_and, and_self, reduceIte, Bool.false_eq_true]
   all_goals (generalize (f.Blocks.all _) = q; cases q <;> rfl)
 rw [QhG]
 simp only [Bool.cond_eq_ite]
 by_cases h1 : ((p.Funcs.length : Nat) : Int) < 1
 ·have : ¬ (1 <= p.Funcs.length /\ p.Funcs.length <= 8) := by omega
  simp [h1, this]
 by_cases h2 : (8 : Int) < ((p.Funcs.length : Nat) : Int)
 ·have : ¬ (1 <= p.Funcs.length /\ p.Funcs.length <= 8) := by omega
  simp [h1, h2, this]
 have h3 : (1 <= p.Funcs.length /\ p.Funcs.length <= 8) := by omega
 rw [l0]
 simp only [h1, h2, decide_false, h3, decide_true, Bool.true_and, reduceIte, Bool.false_eq_true, and_self]
 all_goals (generalize (p.Funcs.all _) = q; cases q <;> rfl)
theorem QrW {p : Qav} (hv : QhG p = true) (i k j : Nat) : (((((p.Funcs.getD i default).Blocks).getD k default).Stmts).getD j default).Op = 3 -> 0 < (((((p.Funcs.getD i default).Blocks).getD k default).Stmts).getD j default).Targets.length := by
 have gd : ∀ {α : Type} [Inhabited α] (l : List α) (i : Nat), i < l.length \/ l.getD i default = default := fun l i => by
  by_cases hi : i < l.length
  ·exact .inl hi
  ·right; rw [List.getD_eq_getElem?_getD, List.getElem?_eq_none (by omega)]; rfl
 have d0 : (default : Qbc).Op = 3 -> 0 < (default : Qbc).Targets.length := fun h => by cases h
 rw [Qk3] at hv
 simp only [Bool.and_eq_true, decide_eq_true_eq, List.all_eq_true] at hv
 rcases gd p.Funcs i with hi | hi
 ·rcases gd (p.Funcs.getD i default).Blocks k with hk | hk
  ·rcases gd ((p.Funcs.getD i default).Blocks.getD k default).Stmts j with hj | hj
   ·have hs := ((hv.2 _ (Qcw (d := default) hi)).2.2 _ (Qcw (d := default) hk)).2.2 _ (Qcw (d := default) hj)
    intro h3
    generalize (((p.Funcs.getD i default).Blocks.getD k default).Stmts.getD j default) = s at *
    unfold Qd9 at hs
    rw [h3] at hs
    cases ht : s.Targets with
    | nil => rw [ht] at hs; revert hs; simp
    | cons a l => simp
   ·rw [hj]; exact d0
  ·rw [hk]; simpa [show (default : Qbp).Stmts = [] from rfl] using d0
 ·rw [hi]; simpa [show (default : QbR).Blocks = [] from rfl, show (default : Qbp).Stmts = [] from rfl] using d0
theorem Qi2 (t : List Int) (k n : Int) (hn : n <= 9223372036854775807) : 0 <= (Qbu t k n).1 /\ ((Qbu t k n).1 < n \/ (Qbu t k n).1 = 0) := by
 unfold Qbu
 by_cases h1 : n <= 1
 ·simp [h1]
 ·by_cases h2 : (t.length : Int) <= k
  ·simp [h1, h2]
  ·simp only [decide_eq_false h1, decide_eq_false h2, cond_false]
   have := QiR (t.getD (k + 1 - 1).toNat 0) n (by omega)
   unfold Qnk
   exact ⟨this.1, .inl this.2⟩
theorem QoK (l : List Int) (x : Int) : ∀ (r : Nat) (i : Int), 0 <= i -> i + (r : Int) = (l.length : Int) -> ∃ o : Nat, QcY l x r i = (o : Int) /\ i.toNat <= o /\ o <= l.length /\ (∀ k, i.toNat <= k -> k < o -> l.getD k 0 < x) /\ (o < l.length -> x <= l.getD o 0)
 | 0, i, h0, h => ⟨i.toNat, by rw [QcY]; omega, Nat.le_refl _, by omega, fun k h1 h2 => by omega, fun hh => by omega⟩
 | r + 1, i, h0, h => by
  rw [QcY]
  by_cases c : l.getD i.toNat 0 < x
  ·rw [decide_eq_true c, cond_true]
   obtain ⟨o, h1, h2, h3, h4, h5⟩ := QoK l x r (i + 1) (by omega) (by omega)
   refine ⟨o, h1, by omega, h3, fun k k1 k2 => ?_, h5⟩
   by_cases e : k = i.toNat
   ·rw [e]; exact c
   ·exact h4 k (by omega) k2
  ·rw [decide_eq_false c, cond_false]
   exact ⟨i.toNat, by omega, Nat.le_refl _, by omega, fun k h1 h2 => by omega, fun hh => by omega⟩
theorem Qje {l : List Int} {n x : Int} (h : Asc l n) (hx : 0 <= x /\ x < n) : Asc (QdJ l x) n /\ ∀ y, y ∈ QdJ l x ↔ y = x \/ y ∈ l := by
 obtain ⟨o, h1, -, h3, h4, h5⟩ := QoK l x (((((l.length : Nat) : Int) : Int) - 0).toNat) 0 (by omega) (by omega)
 have core : (o < l.length -> x < l.getD o 0) -> Asc ((((l.take (((o : Nat) : Int) : Int).toNat).drop 0) ++ [x]) ++ ((l.take l.length).drop (((o : Nat) : Int) : Int).toNat)) n /\ ∀ y, y ∈ ((((l.take (((o : Nat) : Int) : Int).toNat).drop 0) ++ [x]) ++ ((l.take l.length).drop (((o : Nat) : Int) : Int).toNat)) ↔ y = x \/ y ∈ l := by
  intro hgt
  rw [Int.toNat_natCast, List.drop_zero, List.take_length]
  obtain ⟨p1, p2⟩ := (Qia l n).1 h
  have ht : ∀ y ∈ l.take o, y < x := by
   intro y hy
   obtain ⟨k, hk, e⟩ := List.mem_iff_getElem.1 hy
   rw [List.length_take] at hk
   have := h4 k (by omega) (by omega)
   rw [QjR (by omega)] at this
   rw [List.getElem_take] at e
   rw [<- e]; exact this
  have hd : ∀ y ∈ l.drop o, x < y := by
   intro y hy
   obtain ⟨k, hk, e⟩ := List.mem_iff_getElem.1 hy
   rw [List.length_drop] at hk
   rw [List.getElem_drop] at e
   have h0 := hgt (by omega)
   by_cases k0 : k = 0
   ·subst k0
    rw [QjR (by omega)] at h0
    rw [<- e]; exact h0
   ·have h6 := QmV h o (k - 1) (by omega)
    rw [show o + (k - 1) + 1 = o + k by omega, QjR (k := o + k) (by omega), e] at h6
    omega
  refine ⟨(Qia _ _).2 ⟨List.pairwise_append.2 ⟨List.pairwise_append.2 ⟨p1.sublist (List.take_sublist _ _), List.pairwise_singleton _ _, fun a ha b hb => ?_⟩, p1.sublist (List.drop_sublist _ _), fun a ha b hb => ?_⟩, fun y hy => ?_⟩, fun y => ?_⟩
  ·rw [List.mem_singleton] at hb; rw [hb]; exact ht a ha
  ·rcases List.mem_append.1 ha with ha | ha
   ·exact Int.lt_trans (ht a ha) (hd b hb)
   ·rw [List.mem_singleton] at ha; rw [ha]; exact hd b hb
  ·rcases List.mem_append.1 hy with hy | hy
   ·rcases List.mem_append.1 hy with hy | hy
    ·exact p2 y (List.mem_of_mem_take hy)
    ·rw [List.mem_singleton] at hy; rw [hy]; exact hx
   ·exact p2 y (List.mem_of_mem_drop hy)
  ·rw [List.mem_append, List.mem_append, List.mem_singleton]
   constructor
   ·rintro ((hy | hy) | hy)
    ·exact .inr (List.mem_of_mem_take hy)
    ·exact .inl hy
    ·exact .inr (List.mem_of_mem_drop hy)
   ·rintro (hy | hy)
    ·exact .inl (.inr hy)
    ·rw [<- List.take_append_drop o l, List.mem_append] at hy
     rcases hy with hy | hy
     ·exact .inl (.inl hy)
     ·exact .inr hy
 unfold QdJ
 rw [h1]
 dsimp only
 by_cases c : o < l.length
 ·rw [decide_eq_true (by omega : ((o : Nat) : Int) < ((l.length : Nat) : Int)), cond_true]
  have h6 := h5 c
  rw [show (l.getD (((o : Nat) : Int)).toNat 0) = l.getD o 0 by rw [Int.toNat_natCast]]
  by_cases e : l.getD o 0 = x
  ·rw [beq_iff_eq.2 e, cond_true]
   refine ⟨h, fun y => ⟨.inr, ?_⟩⟩
   rintro (rfl | hy)
   ·rw [<- e]; exact Qcw c
   ·exact hy
  ·rw [beq_eq_false_iff_ne.2 e, cond_false]
   exact core fun _ => by omega
 ·rw [decide_eq_false (by omega : ¬ ((o : Nat) : Int) < ((l.length : Nat) : Int)), cond_false]
  exact core fun hh => absurd hh c
theorem VF.ins {S P : List (List Int)} {n a b : Nat} (h : VF S P n) (ha : a < n) (hb : b < n) : VF (S.set a (QdJ (S.getD a []) (b : Int))) (P.set b (QdJ (P.getD b []) (a : Int))) n := by
 have hA := Qje (h.sa a ha) (x := (b : Int)) (by omega)
 have hB := Qje (h.pa b hb) (x := (a : Int)) (by omega)
 have e1 := h.sl; have e2 := h.pl
 refine ⟨by rw [List.length_set]; exact e1, by rw [List.length_set]; exact e2, fun k hk => ?_, fun k hk => ?_, fun i k hi hk => ?_⟩
 ·rw [Qsd (by omega)]; split
  ·exact hA.1
  ·exact h.sa k hk
 ·rw [Qsd (by omega)]; split
  ·exact hB.1
  ·exact h.pa k hk
 ·rw [Qsd (by omega), Qsd (by omega)]
  by_cases c1 : i = a
  ·rw [if_pos c1]
   by_cases c2 : k = b
   ·rw [if_pos c2]
    exact ⟨fun _ => (hB.2 _).2 (.inl (by omega)), fun _ => (hA.2 _).2 (.inl (by omega))⟩
   ·rw [if_neg c2, hA.2, <- h.mi i k hi hk, c1]
    exact ⟨fun hh => hh.resolve_left (by omega), .inr⟩
  ·rw [if_neg c1]
   by_cases c2 : k = b
   ·rw [if_pos c2, hB.2, h.mi i k hi hk, c2]
    exact ⟨.inr, fun hh => hh.resolve_left (by omega)⟩
   ·rw [if_neg c2]; exact h.mi i k hi hk
theorem QrR {t : List Int} {n : Int} (hn : 1 <= n /\ n <= 1000) : ∀ (r : Nat) (ti : Int) (s p : List (List Int)) (k : Int), VF s p n.toNat -> VF (Qdv t n r ti s p k).2.1 (Qdv t n r ti s p k).2.2 n.toNat
 | 0, ti, s, p, k, h => by rw [Qdv]; exact h
 | r + 1, ti, s, p, k, h => by
  rw [Qdv]
  have h1 := Qi2 t ti n (by omega)
  have h2 := Qi2 t (Qbu t ti n).2 n (by omega)
  refine QrR hn r _ _ _ _ ?_
  have := h.ins (a := ((Qbu t ti n).1).toNat) (b := ((Qbu t (Qbu t ti n).2 n).1).toNat) (by omega) (by omega)
  rwa [show ((((Qbu t ti n).1).toNat : Nat) : Int) = (Qbu t ti n).1 by omega, show ((((Qbu t (Qbu t ti n).2 n).1).toNat : Nat) : Int) = (Qbu t (Qbu t ti n).2 n).1 by omega] at this
theorem QpQ (t : List Int) (i m : Int) (hm : 1 <= m /\ m <= 1000) : ∃ n : Nat, 1 <= n /\ n <= m.toNat /\ (Qeo t i m).1.Nodes.length = n /\ VF (Qeo t i m).1.Succ (Qeo t i m).1.Pred n := by
 have h1 := Qi2 t i m (by omega)
 refine ⟨(1 + (Qbu t i m).1).toNat, by omega, by omega, ?_, ?_⟩
 ·unfold Qeo; exact List.length_replicate
 ·have := QrR (t := t) (n := 1 + (Qbu t i m).1) (by omega) ((Qbu t (Qbu t i m).2 ((2 * (1 + (Qbu t i m).1)) + 1)).1).toNat (Qbu t (Qbu t i m).2 ((2 * (1 + (Qbu t i m).1)) + 1)).2 _ _ ((Qbu t (Qbu t i m).2 ((2 * (1 + (Qbu t i m).1)) + 1)).1) (VF.nil _)
  unfold Qeo; exact this
theorem QrM {t : List Int} {i m : Int} {r : QaP × Int} (e : Qeo t i m = r) (hm : 1 <= m /\ m <= 1000) : 1 <= r.1.Nodes.length /\ (r.1.Nodes.length : Int) <= m /\ r.1.Succ.length = r.1.Nodes.length /\ r.1.Pred.length = r.1.Nodes.length := by
 obtain ⟨n, h1, h2, h3, h4⟩ := QpQ t i m hm
 rw [e] at h3 h4
 have := h4.sl; have := h4.pl
 omega
theorem Qra {t : List Int} {i m : Int} {r : QaP × Int} (e : Qeo t i m = r) (hm : 1 <= m /\ m <= 1000) : (∀ l ∈ r.1.Succ, (l.length : Int) <= 3000) /\ ∀ l ∈ r.1.Pred, (l.length : Int) <= 3000 := by
 obtain ⟨n, h1, h2, h3, h4⟩ := QpQ t i m hm
 rw [e] at h4
 have key : ∀ (S : List (List Int)), S.length = n -> (∀ k : Nat, k < n -> Asc (S.getD k []) (n : Int)) -> ∀ l ∈ S, (l.length : Int) <= 3000 := fun S hs ha l hl => by
  obtain ⟨k, hk, e⟩ := List.mem_iff_getElem.1 hl
  have := ha k (by omega)
  rw [List.getD_eq_getElem?_getD, List.getElem?_eq_getElem hk] at this
  rw [show (some S[k]).getD [] = S[k] from rfl, e] at this
  rcases QjY this with h | h
  ·omega
  ·rw [h]; simp
 exact ⟨key _ h4.sl h4.sa, key _ h4.pl h4.pa⟩
theorem Qnh (l : List Int) (n : Int) : ∀ (r : Nat) (i : Int), (r : Int) = (l.length : Int) - i -> 0 <= i -> (Qbh l n r i = .brk () /\ (∀ k, i <= k -> k < (l.length : Int) -> 0 <= l.getD k.toNat 0 /\ l.getD k.toNat 0 < n /\ (0 < k -> l.getD (k - 1).toNat 0 < l.getD k.toNat 0))) \/
  (Qbh l n r i = .ret false /\ ¬ ∀ k, i <= k -> k < (l.length : Int) -> 0 <= l.getD k.toNat 0 /\ l.getD k.toNat 0 < n /\ (0 < k -> l.getD (k - 1).toNat 0 < l.getD k.toNat 0))
 | 0, i, hr, hi => .inl ⟨by rw [Qbh], fun k h1 h2 => by omega⟩
 | r + 1, i, hr, hi => by
  rw [Qbh]
  by_cases c1 : l.getD i.toNat 0 < 0
  ·rw [decide_eq_true c1]; exact .inr ⟨rfl, fun h => by have := (h i (Int.le_refl _) (by omega)).1; omega⟩
  rw [decide_eq_false c1, cond_false]
  by_cases c2 : n <= l.getD i.toNat 0
  ·rw [decide_eq_true c2]; exact .inr ⟨rfl, fun h => by have := (h i (Int.le_refl _) (by omega)).2.1; omega⟩
  rw [decide_eq_false c2, cond_false]
  have go : (0 < i -> l.getD (i - 1).toNat 0 < l.getD i.toNat 0) -> (Qbh l n r (i + 1) = .brk () /\ (∀ k, i <= k -> k < (l.length : Int) -> 0 <= l.getD k.toNat 0 /\ l.getD k.toNat 0 < n /\ (0 < k -> l.getD (k - 1).toNat 0 < l.getD k.toNat 0))) \/
    (Qbh l n r (i + 1) = .ret false /\ ¬ ∀ k, i <= k -> k < (l.length : Int) -> 0 <= l.getD k.toNat 0 /\ l.getD k.toNat 0 < n /\ (0 < k -> l.getD (k - 1).toNat 0 < l.getD k.toNat 0)) := fun hs => by
   rcases Qnh l n r (i + 1) (by omega) (by omega) with ⟨h1, h2⟩ | ⟨h1, h2⟩
   ·refine .inl ⟨h1, fun k k1 k2 => ?_⟩
    by_cases e : k = i
    ·subst e; exact ⟨by omega, by omega, hs⟩
    ·exact h2 k (by omega) k2
   ·exact .inr ⟨h1, fun h => h2 fun k k1 k2 => h k (by omega) k2⟩
  by_cases c3 : 0 < i
  ·rw [decide_eq_true c3, cond_true]
   by_cases c4 : l.getD i.toNat 0 <= l.getD (i - 1).toNat 0
   ·rw [decide_eq_true c4]; exact .inr ⟨rfl, fun h => by have := (h i (Int.le_refl _) (by omega)).2.2 c3; omega⟩
   ·rw [decide_eq_false c4, cond_false]; exact go fun _ => by omega
  ·rw [decide_eq_false c3, cond_false]; exact go fun h => absurd h c3
theorem QlH (l : List Int) (n : Int) : Qc1 l n = true ↔ Asc l n := by
 unfold Qc1
 rcases Qnh l n ((((l.length : Nat) : Int) - 0).toNat) 0 (by omega) (by omega) with ⟨h1, h2⟩ | ⟨h1, h2⟩
 ·rw [h1]; exact ⟨fun _ => h2, fun _ => rfl⟩
 ·rw [h1]; exact ⟨fun h => (by cases h), fun h => absurd h h2⟩
theorem Qj9 (l : List (List Int)) : ∀ (r : Nat) (e i : Int), (r : Int) = (l.length : Int) - i -> 0 <= i -> 0 <= e -> (∃ e', Qcf l r e i = .brk e' /\ 0 <= e' /\ ∀ k, i <= k -> k < (l.length : Int) -> Asc (l.getD k.toNat []) (l.length : Int)) \/ Qcf l r e i = .ret (-1)
 | 0, e, i, hr, hi, he => .inl ⟨e, by rw [Qcf], he, fun k h1 h2 => by omega⟩
 | r + 1, e, i, hr, hi, he => by
  rw [Qcf]
  cases decide (1024 < e + (((l.getD i.toNat []).length : Nat) : Int))
  ·rw [cond_false]
   cases ha : Qc1 (l.getD i.toNat []) ((l.length : Nat) : Int)
   ·exact .inr rfl
   ·rcases Qj9 l r (e + (((l.getD i.toNat []).length : Nat) : Int)) (i + 1) (by omega) (by omega) (by omega) with ⟨e', h1, h2, h3⟩ | h1
    ·refine .inl ⟨e', h1, h2, fun k k1 k2 => ?_⟩
     by_cases c : k = i
     ·subst c; exact (QlH _ _).1 ha
     ·exact h3 k (by omega) k2
    ·exact .inr h1
  ·exact .inr rfl
theorem QnR {l : List (List Int)} {r : Int} (h : Qdd l = r) (hr : decide (r < 0) = false) : ∀ (i k : Nat), (k : Int) < ((l.getD i []).length : Int) -> 0 <= (l.getD i []).getD k 0 /\ (l.getD i []).getD k 0 < (l.length : Int) := fun i k hk => by
 have hr := of_decide_eq_false hr
 unfold Qdd at h
 rcases Qj9 l ((((l.length : Nat) : Int) - 0).toNat) 0 0 (by omega) (by omega) (by omega) with ⟨e', h1, h2, h3⟩ | h1
 ·by_cases hi : i < l.length
  ·have := h3 (i : Int) (by omega) (by omega) (k : Int) (by omega) (by rw [show ((i : Int)).toNat = i by omega]; exact hk)
   rw [show ((i : Int)).toNat = i by omega, show ((k : Int)).toNat = k by omega] at this
   exact ⟨this.1, this.2.1⟩
  ·rw [List.getD_eq_getElem?_getD, List.getElem?_eq_none (by omega)] at hk; simp at hk; omega
 ·rw [h1] at h; dsimp only at h; omega
theorem Qmm {l : List (List Int)} {r : Int} (h : Qdd l = r) (hr : decide (r < 0) = false) : ∀ k : Int, 0 <= k -> k < (l.length : Int) -> Asc (l.getD k.toNat []) (l.length : Int) := by
 have hr := of_decide_eq_false hr
 unfold Qdd at h
 rcases Qj9 l ((((l.length : Nat) : Int) - 0).toNat) 0 0 (by omega) (by omega) (by omega) with ⟨e', h1, h2, h3⟩ | h1
 ·exact h3
 ·rw [h1] at h; dsimp only at h; omega
theorem Qlv (l : List (List Int)) (ha : ∀ k : Nat, k < l.length -> Asc (l.getD k []) (l.length : Int)) (hs : Qms l <= 1024) : ∀ (r i : Nat), r + i = l.length -> Qcf l r ((sm i (fun i => (l.getD i []).length) : Nat) : Int) (i : Int) = .brk ((Qms l : Nat) : Int)
 | 0, i, h => by rw [Qcf, show i = l.length by omega]; rfl
 | r + 1, i, h => by
  have e : ((i : Int)).toNat = i := by omega
  have hm := QpI (fun i => (l.getD i []).length) (n := i + 1) (m := l.length) (by omega)
  have hm' : sm (i + 1) (fun i => (l.getD i []).length) <= 1024 := Nat.le_trans hm hs
  have e2 : ((sm i (fun i => (l.getD i []).length) : Nat) : Int) + (((l.getD i []).length : Nat) : Int) = ((sm (i + 1) (fun i => (l.getD i []).length) : Nat) : Int) := by
   show _ = ((sm i (fun i => (l.getD i []).length) + (l.getD i []).length : Nat) : Int); omega
  rw [Qcf, e, e2, decide_eq_false (show ¬ (1024 : Int) < _ by omega), cond_false]
  dsimp only
  rw [(QlH _ _).2 (ha i (by omega)), Bool.not_true, cond_false, show (i : Int) + 1 = ((i + 1 : Nat) : Int) by omega]
  exact Qlv l ha hs r (i + 1) (by omega)
theorem QkR {l : List (List Int)} (ha : ∀ k : Nat, k < l.length -> Asc (l.getD k []) (l.length : Int)) (hs : Qms l <= 1024) : Qdd l = ((Qms l : Nat) : Int) := by
 unfold Qdd
 have := Qlv l ha hs l.length 0 (by omega)
 rw [show ((((l.length : Nat) : Int) : Int) - 0).toNat = l.length by omega]
 simp only [sm] at this
 rw [show ((0 : Nat) : Int) = 0 from rfl] at this
 rw [this]
theorem QgU (l : List Int) (n : Int) : Qcs l n = true ↔ n ∈ l := by
 have := Qlc (fun r i => QcE l n r i) (fun i => n == l.getD i.toNat 0) () (fun _ => rfl) (fun _ _ => rfl) ((((l.length : Nat) : Int) - 0).toNat) 0
 unfold Qcs QeF
 rw [Qlp]
 rcases this with ⟨j, e, j1, j2, j3⟩ | ⟨e, h⟩
 ·rw [e]
  exact ⟨fun _ => ⟨j, j1, by omega, (eq_of_beq j3).symm⟩, fun _ => by simpa using j1⟩
 ·rw [e]
  refine ⟨fun h => by simp at h, ?_⟩
  rintro ⟨j, j1, j2, j3⟩
  have := h j j1 (by omega)
  simp only [j3] at this; simp at this
theorem QiH {g : QaP} (h : Qck g = true) : VG g := by
 unfold Qck at h
 dsimp only at h
 by_cases c1 : ((g.Nodes.length : Nat) : Int) < 1
 ·rw [decide_eq_true c1] at h; cases h
 rw [decide_eq_false c1, cond_false] at h
 by_cases c2 : 256 < ((g.Nodes.length : Nat) : Int)
 ·rw [decide_eq_true c2] at h; cases h
 rw [decide_eq_false c2, cond_false] at h
 cases c3 : ((g.Succ.length : Nat) : Int) != ((g.Nodes.length : Nat) : Int)
 ·rw [c3, cond_false] at h
  cases c4 : ((g.Pred.length : Nat) : Int) != ((g.Nodes.length : Nat) : Int)
  ·rw [c4, cond_false] at h
   cases c5 : decide (Qdd g.Succ < 0)
   ·have e3 : ((g.Succ.length : Nat) : Int) = ((g.Nodes.length : Nat) : Int) := by simpa using c3
    have e4 : ((g.Pred.length : Nat) : Int) = ((g.Nodes.length : Nat) : Int) := by simpa using c4
    have ha := Qmm rfl c5
    rw [e3] at ha
    exact ⟨by omega, by omega, by omega, ha⟩
   ·rw [c5] at h; cases h
  ·rw [c4] at h; cases h
 ·rw [c3] at h; cases h
theorem Qpb {g : QaP} {r : Bool} (h : Qck g = r) (hr : (!r) = false) : VG g := QiH (h.trans (by cases r; cases hr; rfl))
theorem Qks {g : QaP} {a : Int} {v : List Int} (h : ∀ x ∈ v, a ∈ g.Pred.getD x.toNat []) : ∀ (r : Nat) (i : Int), 0 <= i -> i + (r : Int) <= (v.length : Int) -> Qdw g a v r i = .brk ()
 | 0, i, _, _ => by rw [Qdw]
 | r + 1, i, h0, h1 => by
  rw [Qdw]
  rw [(QgU _ _).2 (h _ (Qcw (by omega))), Bool.not_true, cond_false]
  exact Qks h r (i + 1) (by omega) (by omega)
theorem QkX {g : QaP} (h : ∀ a : Int, 0 <= a -> a < (g.Succ.length : Int) -> ∀ x ∈ g.Succ.getD a.toNat [], a ∈ g.Pred.getD x.toNat []) : ∀ (r : Nat) (i : Int), 0 <= i -> i + (r : Int) <= (g.Succ.length : Int) -> Qdt g r i = .brk ()
 | 0, i, _, _ => by rw [Qdt]
 | r + 1, i, h0, h1 => by
  rw [Qdt, Qks (h i h0 (by omega)) _ 0 (by omega) (by omega)]
  exact QkX h r (i + 1) (by omega) (by omega)
theorem QnZ {g : QaP} {n : Nat} (hn : g.Nodes.length = n) (h1 : 1 <= n) (h2 : n <= 256) (h : VF g.Succ g.Pred n) (hs : Qms g.Succ <= 1024) : Qck g = true := by
 unfold Qck
 have e1 := h.sl; have e2 := h.pl
 dsimp only
 rw [decide_eq_false (by omega), cond_false, decide_eq_false (by omega), cond_false]
 rw [show (((g.Succ.length : Nat) : Int) != ((g.Nodes.length : Nat) : Int)) = false by rw [e1, hn]; simp]
 rw [show (((g.Pred.length : Nat) : Int) != ((g.Nodes.length : Nat) : Int)) = false by rw [e2, hn]; simp]
 have hc := h.cnt
 rw [QkR (l := g.Succ) (fun k hk => by rw [e1]; exact h.sa k (by omega)) hs, QkR (l := g.Pred) (fun k hk => by rw [e2]; exact h.pa k (by omega)) (by omega), hc]
 rw [cond_false, cond_false, decide_eq_false (by omega), cond_false]
 rw [show (((Qms g.Pred : Nat) : Int) != ((Qms g.Pred : Nat) : Int)) = false by simp, cond_false]
 rw [QkX (fun a a0 a1 x hx => by
  have hx2 := Qhr (h.sa a.toNat (by omega)) hx
  have := (h.mi a.toNat x.toNat (by omega) (by omega)).1 (by rw [show ((x.toNat : Nat) : Int) = x by omega]; exact hx)
  rwa [show ((a.toNat : Nat) : Int) = a by omega] at this) _ 0 (by omega) (by omega)]
theorem Qlx {g : QaP} {n : Nat} (hn : g.Nodes.length = n) (h1 : 1 <= n) (h2 : n <= 32) (h : VF g.Succ g.Pred n) : Qck g = true :=
 QnZ hn h1 (by omega) h (h.es (Nat.mul_le_mul h2 h2))
theorem Qku (l : List (List Int)) : ∀ (r : Nat) (out : List (List Int)) (i : Nat), i + r = l.length -> QdT l r out (i : Int) = out ++ l.drop i
 | 0, out, i, h => by rw [QdT, List.drop_of_length_le (by omega), List.append_nil]
 | r + 1, out, i, h => by
  rw [QdT, show (i : Int) + 1 = ((i + 1 : Nat) : Int) by omega, Qku l r _ (i + 1) (by omega), Int.toNat_natCast, List.append_assoc]
  rw [List.drop_eq_getElem_cons (show i < l.length by omega), List.getD_eq_getElem?_getD, List.getElem?_eq_getElem (show i < l.length by omega)]
  rfl
theorem QlN (l : List (List Int)) : Qf5 l = l := by
 unfold Qf5
 have := Qku l ((((l.length : Nat) : Int) - 0).toNat) [] 0 (by omega)
 rw [show ((0 : Nat) : Int) = 0 from rfl] at this
 rw [this]; rfl
theorem QqE {g : QaP} (h : Qck g = true) : Qe5 g = (QaP.mk g.Nodes g.Pred g.Succ, 0) := by
 unfold Qe5
 rw [h, QlN, QlN]; rfl
theorem QpN (g : QaP) (x : Int) : QdE x g = true ↔ ¬ (0 <= x /\ x < (g.Nodes.length : Int)) := by
 unfold QdE
 by_cases c : x < 0
 ·rw [decide_eq_true c]; exact ⟨fun _ h => by omega, fun _ => rfl⟩
 ·rw [decide_eq_false c, cond_false, decide_eq_true_iff]; omega
theorem Qq9 {s : List Int} {fp : Int -> Bool} {r : Bool} (h : Qby s fp = r) (hr : r = false) : ∀ x ∈ s, fp x = false := by
 have := Qlc (fun r i => QbI s fp r i) (fun i => fp (s.getD i.toNat 0)) () (fun _ => rfl) (fun _ _ => rfl) ((((s.length : Nat) : Int) - 0).toNat) 0
 unfold Qby QcL at h
 subst hr
 rcases this with ⟨j, e, j1, j2, j3⟩ | ⟨e, hh⟩
 ·rw [e] at h; dsimp only at h; have := of_decide_eq_false h; omega
 ·intro x hx
  obtain ⟨j, j1, j2, rfl⟩ := (QgQ (d := 0)).1 hx
  exact hh j j1 (by omega)
theorem QmS {g : QaP} {f : List Int} {r : Bool} (h : Qby f (fun x => QdE x g) = r) (hr : r = false) : ∀ x ∈ f, 0 <= x /\ x < (g.Nodes.length : Int) := fun x hx => by
 have := Qq9 h hr x hx
 unfold QdE at this
 by_cases c : x < 0
 ·rw [decide_eq_true c] at this; cases this
 ·rw [decide_eq_false c, cond_false] at this; have := of_decide_eq_false this; omega
theorem Qpp (s : List Int) (fp : Int -> Bool) : Qby s fp = true ↔ ∃ x ∈ s, fp x = true := by
 have := Qlc (fun r i => QbI s fp r i) (fun i => fp (s.getD i.toNat 0)) () (fun _ => rfl) (fun _ _ => rfl) ((((s.length : Nat) : Int) - 0).toNat) 0
 unfold Qby QcL
 rcases this with ⟨j, e, j1, j2, j3⟩ | ⟨e, hh⟩
 ·rw [e]
  exact ⟨fun _ => ⟨_, Qcw (by omega), j3⟩, fun _ => decide_eq_true j1⟩
 ·rw [e]
  refine ⟨fun h => (by cases h), ?_⟩
  rintro ⟨x, hx, hf⟩
  obtain ⟨j, j1, j2, rfl⟩ := (QgQ (d := 0)).1 hx
  rw [hh j j1 (by omega)] at hf; cases hf
theorem Qpu {g : QaP} {f r : List Int} (hg : VG g) (hr : Qea f = r) (hf : ∀ x ∈ f, 0 <= x /\ x < (g.Nodes.length : Int)) : RI g f (List.replicate (((g.Nodes.length : Nat) : Int) : Int).toNat false) r [] := hr ▸ RI.init hg hf
theorem QoJ {x : BitVec 64} (h : x.toNat <= 65535) : 0 <= Qd4 x /\ Qd4 x <= 16 /\ (x.toNat = 0 \/ 2 ^ (Qd4 x).toNat <= 2 * x.toNat) := by
 unfold Qd4 QfI
 dsimp only
 by_cases c : (256 : Int) <= (x.toNat : Int)
 ·rw [decide_eq_true c, cond_true]
  have e8 : (((8#64).toNat : Int)).toNat = 8 := by decide
  rw [e8]
  have e : (x >>> 8).toNat = x.toNat / 256 := by rw [BitVec.toNat_ushiftRight, Nat.shiftRight_eq_div_pow]
  have ek : (((x >>> 8).toNat : Int)).toNat = x.toNat / 256 := by rw [e]; omega
  rw [ek]
  obtain ⟨t1, t2⟩ := Qol (k := x.toNat / 256) (by omega)
  refine ⟨by omega, by omega, .inr ?_⟩
  rcases t1 with t1 | t1
  ·omega
  ·rw [show (0 + 8 + (((Qj4.b.getD (x.toNat / 256) 0).toNat : Nat) : Int)).toNat = 8 + (Qj4.b.getD (x.toNat / 256) 0).toNat by omega, Nat.pow_add]
   omega
 ·rw [decide_eq_false c, cond_false]
  have ek : ((x.toNat : Int)).toNat = x.toNat := by omega
  rw [ek]
  obtain ⟨t1, t2⟩ := Qol (k := x.toNat) (by omega)
  refine ⟨by omega, by omega, ?_⟩
  rw [show (0 + (((Qj4.b.getD x.toNat 0).toNat : Nat) : Int)).toNat = (Qj4.b.getD x.toNat 0).toNat by omega]
  exact t1
theorem Qqv {x : BitVec 64} {r : Int} (h : Qd4 x = r) (hx : x.toNat <= 65535) : 0 <= r /\ r <= 16 := by
 have := QoJ hx; rw [h] at this; omega
theorem Qe9 (x y : Int) : Qaq x y = decide (x < y) := by unfold Qaq QdQ; simp
theorem Qt7 {a e : Int} (h0 : 0 <= a) : ∀ (r : Nat) (d : List Int) (j : Int), (r : Int) = j - a -> e <= (d.length : Int) -> Qmg 0 idk d a j e ->
  PI 0 d (QaM r d j) a e /\ Srt 0 idk (QaM r d j) a e
 | 0, d, j, hr, he, h => by
  rw [QaM]
  exact ⟨PI.refl _ _ _ _, h.done 0 idk (.inl (by omega))⟩
 | r + 1, d, j, hr, he, h => by
  rw [QaM]
  have hrg := h.rg
  simp only [Qe9]
  by_cases hs : d.getD j.toNat 0 < d.getD (j - 1).toNat 0
  ·simp only [decide_eq_true hs, cond_true]
   have h2 := h.step 0 idk h0 he (by omega) hs
   have h1 := PI.swp 0 (d := d) (a := a) (b := e) (i := j) (j := j - 1) h0 he (by omega) (by omega)
   obtain ⟨k1, k2⟩ := Qt7 h0 r (swp 0 d j (j - 1)) (j - 1) (by omega) (by rw [Qeu]; exact he) h2
   exact ⟨h1.trans 0 k1, k2⟩
  ·simp only [decide_eq_false hs, cond_false]
   exact ⟨PI.refl _ _ _ _, h.done 0 idk (.inr (by show d.getD (j - 1).toNat 0 <= d.getD j.toNat 0; omega))⟩
theorem Quc {a b : Int} (h0 : 0 <= a) : ∀ (r : Nat) (d : List Int) (i : Int), (r : Int) = b - i -> a < i -> b <= (d.length : Int) -> Srt 0 idk d a i ->
  PI 0 d (QaI a r d i) a b /\ Srt 0 idk (QaI a r d i) a b
 | 0, d, i, hr, hi, hb, h => by
  rw [QaI]
  have : b = i := by omega
  subst this
  exact ⟨PI.refl _ _ _ _, h⟩
 | r + 1, d, i, hr, hi, hb, h => by
  rw [QaI]
  try dsimp only
  obtain ⟨k1, k2⟩ := Qt7 h0 (i - a).toNat d i (by omega) (e := i + 1) (by omega) (Qmg.init 0 idk (by omega) h)
  obtain ⟨m1, m2⟩ := Quc (b := b) h0 r _ (i + 1) (by omega) (by omega) (by rw [k1.len]; exact hb) k2
  exact ⟨(k1.mono 0 h0 (Int.le_refl _) (by omega)).trans 0 m1, m2⟩
theorem Qox {d : List Int} {a b : Int} (h0 : 0 <= a) (hab : a <= b) (hb : b <= (d.length : Int)) : PI 0 d (Qbk d a b) a b /\ Srt 0 idk (Qbk d a b) a b := by
 unfold Qbk
 dsimp only
 by_cases h : a < b
 ·exact Quc h0 _ d (a + 1) (by omega) (by omega) hb (fun i j h1 h2 h3 => by
   have : i = j := by omega
   subst this; exact Int.le_refl _)
 ·have e : (b - (a + 1)).toNat = 0 := by omega
  rw [e, QaI]
  exact ⟨PI.refl _ _ _ _, fun i j h1 h2 h3 => by omega⟩
theorem Qry {hi f lo : Int} (h0 : 0 <= f) (hl : 0 <= lo) : ∀ (r : Nat) (d : List Int) (rt : Int), hi - rt < (r : Int) -> 0 < r -> lo <= rt -> f + hi <= (d.length : Int) -> Hq d f lo hi rt ->
  ∃ d', (Qar hi f r d rt = .brk d' \/ Qar hi f r d rt = .ret d') /\ PI 0 d d' (f + lo) (f + hi) /\ Hp d' f lo hi
 | 0, d, rt, hr, hr0, hlr, hb, h => by omega
 | r + 1, d, rt, hr, hr0, hlr, hb, h => by
  rw [Qar]
  simp only [Qe9]
  by_cases c1 : hi <= 2 * rt + 1
  ·simp only [decide_eq_true c1, cond_true]
   exact ⟨d, .inl rfl, PI.refl _ _ _ _, h.done fun c hc hn => by omega⟩
  ·simp only [decide_eq_false c1, cond_false]
   have go : ∀ c, (c = 2 * rt + 1 \/ c = 2 * rt + 2) -> c < hi -> (∀ c', (c' = 2 * rt + 1 \/ c' = 2 * rt + 2) -> c' < hi -> gi 0 d (f + c') <= gi 0 d (f + c)) ->
     ∃ d', ((bif !decide (d.getD (f + rt).toNat 0 < d.getD (f + c).toNat 0) then (.ret d : LR (List Int) (List Int)) else Qar hi f r (swp 0 d (f + rt) (f + c)) c) = .brk d' \/
      (bif !decide (d.getD (f + rt).toNat 0 < d.getD (f + c).toNat 0) then (.ret d : LR (List Int) (List Int)) else Qar hi f r (swp 0 d (f + rt) (f + c)) c) = .ret d') /\ PI 0 d d' (f + lo) (f + hi) /\ Hp d' f lo hi := fun c hc hn hm => by
    by_cases hs : d.getD (f + rt).toNat 0 < d.getD (f + c).toNat 0
    ·simp only [decide_eq_true hs, Bool.not_true, cond_false]
     have h2 := h.step h0 hl hlr hb hc hn hs hm
     have h1 := PI.swp 0 (d := d) (a := f + lo) (b := f + hi) (i := f + rt) (j := f + c) (by omega) hb (by omega) (by omega)
     obtain ⟨d', k1, k2, k3⟩ := Qry h0 hl r _ c (by omega) (by omega) (by omega) (by rw [Qeu]; exact hb) h2
     exact ⟨d', k1, h1.trans 0 k2, k3⟩
    ·simp only [decide_eq_false hs, Bool.not_false, cond_true]
     refine ⟨d, .inr rfl, PI.refl _ _ _ _, h.done fun c' h1 h2 => Int.le_trans (hm c' h1 h2) ?_⟩
     show d.getD (f + c).toNat 0 <= d.getD (f + rt).toNat 0
     omega
   by_cases c2 : 2 * rt + 1 + 1 < hi
   ·simp only [decide_eq_true c2, cond_true]
    by_cases c3 : d.getD (f + (2 * rt + 1)).toNat 0 < d.getD (f + (2 * rt + 1) + 1).toNat 0
    ·simp only [decide_eq_true c3, cond_true]
     refine go (2 * rt + 1 + 1) (by omega) c2 fun c' h1 h2 => ?_
     rcases h1 with e | e
     ·subst e
      show d.getD (f + (2 * rt + 1)).toNat 0 <= d.getD (f + (2 * rt + 1 + 1)).toNat 0
      rw [show f + (2 * rt + 1) + 1 = f + (2 * rt + 1 + 1) by omega] at c3; omega
     ·rw [show c' = 2 * rt + 1 + 1 by omega]; exact Int.le_refl _
    ·simp only [decide_eq_false c3, cond_false]
     refine go (2 * rt + 1) (by omega) (by omega) fun c' h1 h2 => ?_
     rcases h1 with e | e
     ·subst e; exact Int.le_refl _
     ·subst e
      show d.getD (f + (2 * rt + 2)).toNat 0 <= d.getD (f + (2 * rt + 1)).toNat 0
      rw [show f + (2 * rt + 1) + 1 = f + (2 * rt + 2) by omega] at c3; omega
   ·simp only [decide_eq_false c2, cond_false]
    refine go (2 * rt + 1) (by omega) (by omega) fun c' h1 h2 => ?_
    rw [show c' = 2 * rt + 1 by omega]; exact Int.le_refl _
theorem Qmr {d : List Int} {f lo hi : Int} (h0 : 0 <= f) (hl : 0 <= lo) (hb : f + hi <= (d.length : Int)) (h : Hp d f (lo + 1) hi) :
  PI 0 d (QaT d lo hi f) (f + lo) (f + hi) /\ Hp (QaT d lo hi f) f lo hi := by
 obtain ⟨d', k1, k2, k3⟩ := Qry h0 hl (hi.toNat + 1) d lo (by omega) (by omega) (Int.le_refl _) hb ⟨fun i hi hne => h i (by omega), fun i hi hp => by omega⟩
 unfold QaT
 rcases k1 with k1 | k1 <;> rw [k1] <;> exact ⟨k2, k3⟩
theorem QmT {hi f : Int} : ∀ (r : Nat) (d : List Int) (rt : Int), hi - rt < (r : Int) -> 0 < r -> 0 <= rt -> Qar hi f r d rt ≠ .oof
 | 0, d, rt, hr, hr0, hl => by omega
 | r + 1, d, rt, hr, hr0, hl => by
  rw [Qar]
  try dsimp only
  by_cases c1 : hi <= 2 * rt + 1
  ·rw [decide_eq_true c1]; intro h; cases h
  ·rw [decide_eq_false c1, cond_false]
   have g1 : ∀ d', Qar hi f r d' (2 * rt + 1) ≠ .oof := fun d' => QmT r d' _ (by omega) (by omega) (by omega)
   have g2 : ∀ d', Qar hi f r d' (2 * rt + 1 + 1) ≠ .oof := fun d' => QmT r d' _ (by omega) (by omega) (by omega)
   have g3 : ∀ (c : Bool) (d' : List Int) (X : LR (List Int) (List Int)), X ≠ .oof -> (bif !c then .ret d' else X) ≠ .oof := fun c d' X hX => by cases c; (intro h; cases h); exact hX
   cases decide (2 * rt + 1 + 1 < hi)
   ·exact g3 _ _ _ (g1 _)
   ·cases Qaq (d.getD (f + (2 * rt + 1)).toNat 0) (d.getD (f + (2 * rt + 1) + 1).toNat 0)
    ·exact g3 _ _ _ (g1 _)
    ·exact g3 _ _ _ (g2 _)
theorem Qrd {a b : Int} (h0 : 0 <= a) : ∀ (r : Nat) (d : List Int) (i : Int), i + 1 < (r : Int) -> -1 <= i -> b <= (d.length : Int) -> Hp d a (i + 1) (b - a) ->
  ∃ d', Qa1 a b r d i = .brk d' /\ PI 0 d d' a b /\ Hp d' a 0 (b - a)
 | 0, d, i, hr, hi, hb, h => by omega
 | r + 1, d, i, hr, hi, hb, h => by
  rw [Qa1]
  by_cases c : 0 <= i
  ·simp only [decide_eq_true c, cond_true]
   obtain ⟨k1, k2⟩ := Qmr (d := d) (f := a) (lo := i) (hi := b - a) h0 c (by omega) h
   have k1' : PI 0 d (QaT d i (b - a) a) a b := by
    have := k1.mono 0 (a' := a) (b' := b) h0 (by omega) (by omega)
    exact this
   obtain ⟨d', m1, m2, m3⟩ := Qrd h0 r _ (i - 1) (by omega) (by omega) (by rw [k1.len]; exact hb) (by rw [show i - 1 + 1 = i by omega]; exact k2)
   exact ⟨d', m1, k1'.trans 0 m2, m3⟩
  ·simp only [decide_eq_false c, cond_false]
   exact ⟨d, rfl, PI.refl _ _ _ _, by rw [show i + 1 = 0 by omega] at h; exact h⟩
theorem QqS {a b : Int} (h0 : 0 <= a) : ∀ (r : Nat) (d : List Int) (i : Int), i + 1 < (r : Int) -> -1 <= i -> a + i < b -> b <= (d.length : Int) -> Hp d a 0 (i + 1) -> Srt 0 idk d (a + i + 1) b -> (∀ p q, a <= p -> p <= a + i -> a + i < q -> q < b -> gi 0 d p <= gi 0 d q) ->
  ∃ d', Qa2 a r d i = .brk d' /\ PI 0 d d' a b /\ Srt 0 idk d' a b
 | 0, d, i, hr, hi, hib, hb, h, hs, hq => by omega
 | r + 1, d, i, hr, hi, hib, hb, h, hs, hq => by
  rw [Qa2]
  by_cases c : 0 <= i
  ·simp only [decide_eq_true c, cond_true]
   have e0 : (swp 0 d a (a + i)).length = d.length := Qeu 0 _ _ _
   have g : ∀ k, 0 <= k -> gi 0 (swp 0 d a (a + i)) k = if k = a + i then gi 0 d a else if k = a then gi 0 d (a + i) else gi 0 d k := fun k hk => Qhp 0 ⟨by omega, by omega⟩ ⟨by omega, by omega⟩ hk
   have p1 := PI.swp 0 (d := d) (a := a) (b := b) (i := a) (j := a + i) h0 hb (by omega) (by omega)
   obtain ⟨k1, k2⟩ := Qmr (d := swp 0 d a (a + i)) (f := a) (lo := 0) (hi := i) h0 (by omega) (by rw [e0]; omega) (fun j hj c hc hn => by
    rw [g _ (by omega), g _ (by omega), if_neg (by omega), if_neg (by omega), if_neg (by omega), if_neg (by omega)]
    exact h j (by omega) c hc (by omega))
   have k1' := k1.mono 0 (a' := a) (b' := b) h0 (by omega) (by omega)
   have mx : ∀ p, a <= p -> p <= a + i -> gi 0 d p <= gi 0 d a := fun p h1 h2 => by
    have := QoH h (p - a).toNat (p - a) (Nat.le_refl _) (by omega) (by omega)
    rw [show a + (p - a) = p by omega, show a + 0 = a by omega] at this; exact this
   -- what lies behind i has not changed since the swap
   have ou : ∀ q, a + i <= q -> q < b -> gi 0 (QaT (swp 0 d a (a + i)) 0 i a) q = if q = a + i then gi 0 d a else gi 0 d q := fun q h1 h2 => by
    rw [k1.out q (by omega) (by omega), g q (by omega)]
    by_cases e : q = a + i
    ·rw [if_pos e, if_pos e]
    ·rw [if_neg e, if_neg (by omega), if_neg e]
   obtain ⟨d', m1, m2, m3⟩ := QqS (b := b) h0 r (QaT (swp 0 d a (a + i)) 0 i a) (i - 1) (by omega) (by omega) (by omega) (by rw [k1.len, e0]; exact hb) (by rw [show i - 1 + 1 = i by omega]; exact k2)
    (fun p q h1 h2 h3 => by
     show gi 0 _ p <= gi 0 _ q
     rw [ou p (by omega) (by omega), ou q (by omega) h3]
     by_cases e1 : p = a + i
     ·rw [if_pos e1]
      by_cases e2 : q = a + i
      ·rw [if_pos e2]; exact Int.le_refl _
      ·rw [if_neg e2]; exact hq a q (Int.le_refl _) (by omega) (by omega) h3
     ·rw [if_neg e1, if_neg (by omega)]
      exact hs p q (by omega) h2 h3)
    (fun p q h1 h2 h3 h4 => by
     rw [ou q (by omega) h4]
     obtain ⟨m, n1, n2, n3⟩ := k1.src p (by omega) (by omega)
     rw [n3, g m (by omega), if_neg (by omega)]
     have hm : (if m = a then gi 0 d (a + i) else gi 0 d m) <= gi 0 d a := by
      by_cases e : m = a
      ·rw [if_pos e]; exact mx _ (by omega) (by omega)
      ·rw [if_neg e]; exact mx _ (by omega) (by omega)
     by_cases e : q = a + i
     ·rw [if_pos e]; exact hm
     ·rw [if_neg e]; exact Int.le_trans hm (hq a q (Int.le_refl _) (by omega) (by omega) h4))
   exact ⟨d', m1, (p1.trans 0 k1').trans 0 m2, m3⟩
  ·simp only [decide_eq_false c, cond_false]
   exact ⟨d, rfl, PI.refl _ _ _ _, by rw [show a + i + 1 = a by omega] at hs; exact hs⟩
theorem QmU {d : List Int} {a b : Int} (h0 : 0 <= a) (hab : a <= b) (hb : b <= (d.length : Int)) : PI 0 d (QbC d a b) a b /\ Srt 0 idk (QbC d a b) a b := by
 obtain ⟨d1, k1, k2, k3⟩ := Qrd (a := a) (b := b) h0 ((b - a).toNat + 1) d ((b - a - 1) / 2) (by omega) (by omega) hb (fun i hi c hc hn => by omega)
 obtain ⟨d2, m1, m2, m3⟩ := QqS (a := a) (b := b) h0 ((b - a).toNat + 1) d1 (b - a - 1) (by omega) (by omega) (by omega) (by rw [k2.len]; exact hb) (by rw [show b - a - 1 + 1 = b - a by omega]; exact k3) (fun i j h1 h2 h3 => by omega) (fun p q h1 h2 h3 h4 => by omega)
 unfold QbC
 rw [k1]; dsimp only; rw [m1]
 exact ⟨k2.trans 0 m2, m3⟩
theorem Qm6 {a b : Int} : ∀ (r : Nat) (d : List Int) (i : Int), i + 1 < (r : Int) -> 0 < r -> Qa1 a b r d i ≠ .oof
 | 0, d, i, hr, hr0 => by omega
 | r + 1, d, i, hr, hr0 => by
  rw [Qa1]
  by_cases c : 0 <= i
  ·rw [decide_eq_true c, cond_true]; exact Qm6 r _ _ (by omega) (by omega)
  ·rw [decide_eq_false c]; intro h; cases h
theorem QmJ {a : Int} : ∀ (r : Nat) (d : List Int) (i : Int), i + 1 < (r : Int) -> 0 < r -> Qa2 a r d i ≠ .oof
 | 0, d, i, hr, hr0 => by omega
 | r + 1, d, i, hr, hr0 => by
  rw [Qa2]
  by_cases c : 0 <= i
  ·rw [decide_eq_true c, cond_true]; exact QmJ r _ _ (by omega) (by omega)
  ·rw [decide_eq_false c]; intro h; cases h
theorem QoN {l : Int} (h : 1 <= l /\ l <= 65535) : 1 <= (Qci l).toNat /\ (Qci l).toNat <= 2 * l.toNat := by
 have e := Qi6 (l := l) (by omega)
 obtain ⟨h1, h2, h3⟩ := QoJ (x := BitVec.ofInt 64 l) (by omega)
 unfold Qci
 dsimp only
 generalize Qd4 (BitVec.ofInt 64 l) = n at *
 have ep : (1#64 <<< n.toNat).toNat = 2 ^ n.toNat := by
  rw [BitVec.toNat_shiftLeft]
  have : 2 ^ n.toNat <= 2 ^ 16 := Nat.pow_le_pow_right (by omega) (by omega)
  rw [Nat.shiftLeft_eq, Nat.mod_eq_of_lt (by simp; omega)]
  simp
 rw [ep]
 have := Nat.one_le_two_pow (n := n.toNat)
 omega
theorem Qs1 {l : Int} {r : BitVec 64} (h : Qci l = r) (hl : 1 <= l /\ l <= 65535) : 1 <= r.toNat /\ r.toNat <= 2 * l.toNat := h ▸ QoN hl
theorem bp0 {a b : Int} {m : BitVec 64} (h0 : 0 <= a) (hl : 8 <= b - a) (hm : 1 <= m.toNat /\ m.toNat <= 2 * (b - a).toNat) : ∀ (r : Nat) (d : List Int) (x : BitVec 64) (i : Int), a + (b - a) / 4 * 2 + 2 - i < (r : Int) -> 0 < r -> a + (b - a) / 4 * 2 - 1 <= i -> b <= (d.length : Int) ->
  ∃ d', QaA a b m r d x i = .brk d' /\ PI 0 d d' a b
 | 0, d, x, i, hr, hr0, hi, hb => by omega
 | r + 1, d, x, i, hr, hr0, hi, hb => by
  rw [QaA]
  by_cases c : i <= a + (b - a) / 4 * 2 + 1
  ·simp only [decide_eq_true c, cond_true]
   have ha := Qot (x := (QcW x).1) (m := m) hm.1
   generalize ((QcW x).1 &&& (m - 1#64)).toNat = o at *
   by_cases c2 : b - a <= (o : Int)
   ·simp only [decide_eq_true c2, cond_true]
    obtain ⟨d', k1, k2⟩ := bp0 h0 hl hm r (swp 0 d i (a + ((o : Int) - (b - a)))) (QcW x).2 (i + 1) (by omega) (by omega) (by omega) (by rw [Qeu]; exact hb)
    exact ⟨d', k1, (PI.swp 0 (d := d) (a := a) (b := b) (i := i) (j := a + ((o : Int) - (b - a))) h0 hb (by omega) (by omega)).trans 0 k2⟩
   ·simp only [decide_eq_false c2, cond_false]
    obtain ⟨d', k1, k2⟩ := bp0 h0 hl hm r (swp 0 d i (a + (o : Int))) (QcW x).2 (i + 1) (by omega) (by omega) (by omega) (by rw [Qeu]; exact hb)
    exact ⟨d', k1, (PI.swp 0 (d := d) (a := a) (b := b) (i := i) (j := a + (o : Int)) h0 hb (by omega) (by omega)).trans 0 k2⟩
  ·simp only [decide_eq_false c, cond_false]
   exact ⟨d, rfl, PI.refl _ _ _ _⟩
theorem Qq1 {d : List Int} {a b : Int} (h0 : 0 <= a) (hl : 8 <= b - a) (hb : b <= (d.length : Int)) (hd : d.length <= 65535) : PI 0 d (QaG d a b) a b := by
 unfold QaG
 simp only [decide_eq_true hl, cond_true]
 obtain ⟨d', k1, k2⟩ := bp0 (a := a) (b := b) h0 hl (QoN (by omega)) 4 d (BitVec.ofInt 64 (b - a)) (a + (b - a) / 4 * 2 - 1) (by omega) (by omega) (by omega) hb
 rw [k1]; exact k2
theorem Qts {a b : Int} {m : BitVec 64} : ∀ (r : Nat) (d : List Int) (x : BitVec 64) (i : Int), a + (b - a) / 4 * 2 + 2 - i < (r : Int) -> 0 < r -> QaA a b m r d x i ≠ .oof
 | 0, d, x, i, hr, hr0 => by omega
 | r + 1, d, x, i, hr, hr0 => by
  rw [QaA]
  by_cases c : i <= a + (b - a) / 4 * 2 + 1
  ·simp only [decide_eq_true c, cond_true]
   by_cases c2 : b - a <= ((((QcW x).1 &&& (m - 1#64)).toNat : Nat) : Int)
   ·rw [decide_eq_true c2, cond_true]; exact Qts r _ _ _ (by omega) (by omega)
   ·rw [decide_eq_false c2, cond_false]; exact Qts r _ _ _ (by omega) (by omega)
  ·rw [decide_eq_false c]; intro h; cases h
theorem QsR (d : List Int) (a b s : Int) : ((QaS d a b s).1 = a /\ (QaS d a b s).2.1 = b) \/ ((QaS d a b s).1 = b /\ (QaS d a b s).2.1 = a) := by
 unfold QaS
 dsimp only
 cases Qaq (d.getD b.toNat 0) (d.getD a.toNat 0)
 ·exact .inl ⟨rfl, rfl⟩
 ·exact .inr ⟨rfl, rfl⟩
theorem QkM (d : List Int) (a b c s : Int) : (QaR d a b c s).1 = a \/ (QaR d a b c s).1 = b \/ (QaR d a b c s).1 = c := by
 unfold QaR
 dsimp only
 have h1 := QsR d a b s
 generalize QaS d a b s = r1 at *
 have h2 := QsR d r1.2.1 c r1.2.2
 generalize QaS d r1.2.1 c r1.2.2 = r2 at *
 have h3 := QsR d r1.1 r2.1 r2.2.2
 generalize QaS d r1.1 r2.1 r2.2.2 = r3 at *
 omega
theorem QgN (d : List Int) {a b : Int} (h : 8 <= b - a) : a <= (Qak d a b).1 /\ (Qak d a b).1 < b := by
 unfold Qak Qa5
 dsimp only
 rw [decide_eq_true h, cond_true]
 by_cases c : 50 <= b - a
 ·rw [decide_eq_true c, cond_true]
  have m1 := QkM d (a + (b - a) / 4 * 1 - 1) (a + (b - a) / 4 * 1) (a + (b - a) / 4 * 1 + 1) 0
  generalize QaR d (a + (b - a) / 4 * 1 - 1) (a + (b - a) / 4 * 1) (a + (b - a) / 4 * 1 + 1) 0 = q1 at *
  have m2 := QkM d (a + (b - a) / 4 * 2 - 1) (a + (b - a) / 4 * 2) (a + (b - a) / 4 * 2 + 1) q1.2
  generalize QaR d (a + (b - a) / 4 * 2 - 1) (a + (b - a) / 4 * 2) (a + (b - a) / 4 * 2 + 1) q1.2 = q2 at *
  have m3 := QkM d (a + (b - a) / 4 * 3 - 1) (a + (b - a) / 4 * 3) (a + (b - a) / 4 * 3 + 1) q2.2
  generalize QaR d (a + (b - a) / 4 * 3 - 1) (a + (b - a) / 4 * 3) (a + (b - a) / 4 * 3 + 1) q2.2 = q3 at *
  have m4 := QkM d q1.1 q2.1 q3.1 q3.2
  generalize QaR d q1.1 q2.1 q3.1 q3.2 = q4 at *
  have hq : a <= q4.1 /\ q4.1 < b := by
   have b1 : a <= q1.1 /\ q1.1 < b := by omega
   have b2 : a <= q2.1 /\ q2.1 < b := by omega
   have b3 : a <= q3.1 /\ q3.1 < b := by omega
   clear m1 m2 m3
   rcases m4 with e | e | e <;> rw [e] <;> assumption
  cases q4.2 == 0
  ·cases q4.2 == 12 <;> exact hq
  ·exact hq
 ·rw [decide_eq_false c, cond_false]
  have m4 := QkM d (a + (b - a) / 4 * 1) (a + (b - a) / 4 * 2) (a + (b - a) / 4 * 3) 0
  generalize QaR d (a + (b - a) / 4 * 1) (a + (b - a) / 4 * 2) (a + (b - a) / 4 * 3) 0 = q4 at *
  have hq : a <= q4.1 /\ q4.1 < b := by omega
  cases q4.2 == 0
  ·cases q4.2 == 12 <;> exact hq
  ·exact hq
theorem Qui {a b : Int} (h0 : 0 <= a) : ∀ (r : Nat) (d : List Int) (i j : Int), j - i < (r : Int) -> 0 < r -> a <= i -> j < b -> b <= (d.length : Int) -> ∃ d', QaQ r d i j = .brk d' /\ PI 0 d d' a b
 | 0, d, i, j, hr, hr0, hi, hj, hb => by omega
 | r + 1, d, i, j, hr, hr0, hi, hj, hb => by
  rw [QaQ]
  by_cases c : i < j
  ·simp only [decide_eq_true c, cond_true]
   obtain ⟨d', k1, k2⟩ := Qui (b := b) h0 r (swp 0 d i j) (i + 1) (j - 1) (by omega) (by omega) (by omega) (by omega) (by rw [Qeu]; exact hb)
   exact ⟨d', k1, (PI.swp 0 (d := d) (a := a) (b := b) (i := i) (j := j) h0 hb (by omega) (by omega)).trans 0 k2⟩
  ·simp only [decide_eq_false c, cond_false]
   exact ⟨d, rfl, PI.refl _ _ _ _⟩
theorem QlU {d : List Int} {a b : Int} (h0 : 0 <= a) (hab : a <= b) (hb : b <= (d.length : Int)) : PI 0 d (QaY d a b) a b := by
 obtain ⟨d', k1, k2⟩ := Qui (b := b) h0 ((b - a).toNat + 1) d a (b - 1) (by omega) (by omega) (Int.le_refl _) (by omega) hb
 unfold QaY
 rw [k1]; exact k2
theorem QqM : ∀ (r : Nat) (d : List Int) (i j : Int), j - i < (r : Int) -> 0 < r -> QaQ r d i j ≠ .oof
 | 0, d, i, j, hr, hr0 => by omega
 | r + 1, d, i, j, hr, hr0 => by
  rw [QaQ]
  by_cases c : i < j
  ·rw [decide_eq_true c, cond_true]; exact QqM r _ _ _ (by omega) (by omega)
  ·rw [decide_eq_false c]; intro h; cases h
theorem Qun {b : Int} (d : List Int) {a : Int} : ∀ (r : Nat) (i : Int), (r : Int) = b - i -> a < i -> Srt 0 idk d a i -> i <= Qai d r i /\ Qai d r i <= b /\ Srt 0 idk d a (Qai d r i) /\
  (Qai d r i < b -> gi 0 d (Qai d r i) < gi 0 d (Qai d r i - 1))
 | 0, i, hr, hi, h => by rw [Qai]; exact ⟨by omega, by omega, h, fun _ => by omega⟩
 | r + 1, i, hr, hi, h => by
  rw [Qai]
  simp only [Qe9]
  by_cases s : d.getD i.toNat 0 < d.getD (i - 1).toNat 0
  ·simp only [decide_eq_true s, Bool.not_true, cond_false]
   exact ⟨Int.le_refl _, by omega, h, fun _ => s⟩
  ·simp only [decide_eq_false s, Bool.not_false, cond_true]
   obtain ⟨m1, m2, m3, m4⟩ := Qun (b := b) d r (i + 1) (by omega) (by omega) ((Qmg.init 0 idk (by omega) h).done 0 idk (.inr (by show d.getD (i - 1).toNat 0 <= d.getD i.toNat 0; omega)))
   exact ⟨by omega, m2, m3, m4⟩
theorem Qt6 {a e b : Int} (h0 : 0 <= a) (heb : e <= b) : ∀ (r : Nat) (d : List Int) (j : Int), j < (r : Int) -> 0 < r -> b <= (d.length : Int) -> LB 0 idk d a b -> Qmg 0 idk d a j e -> ∃ d', Qap r d j = .brk d' /\ PI 0 d d' a e /\ Srt 0 idk d' a e
 | 0, d, j, hr, hr0, hb, hl, h => by omega
 | r + 1, d, j, hr, hr0, hb, hl, h => by
  rw [Qap]
  have hrg := h.rg
  simp only [Qe9]
  by_cases c : 1 <= j
  ·simp only [decide_eq_true c, cond_true]
   by_cases s : d.getD j.toNat 0 < d.getD (j - 1).toNat 0
   ·simp only [decide_eq_true s, Bool.not_true, cond_false]
    have haj : a < j := by
     have hn : ¬ j = a := fun ej => by
      have := hl (by omega) j (by omega) (by omega)
      subst ej
      have : d.getD (j - 1).toNat 0 <= d.getD j.toNat 0 := this
      omega
     omega
    have p1 := PI.swp 0 (d := d) (a := a) (b := e) (i := j) (j := j - 1) h0 (by omega) (by omega) (by omega)
    obtain ⟨d', k1, k2, k3⟩ := Qt6 (e := e) h0 heb r (swp 0 d j (j - 1)) (j - 1) (by omega) (by omega) (by rw [Qeu]; exact hb) (hl.pi 0 idk (p1.mono 0 h0 (Int.le_refl _) heb)) (h.step 0 idk h0 (by omega) haj s)
    exact ⟨d', k1, p1.trans 0 k2, k3⟩
   ·simp only [decide_eq_false s, Bool.not_false, cond_true]
    exact ⟨d, rfl, PI.refl _ _ _ _, h.done 0 idk (.inr (by show d.getD (j - 1).toNat 0 <= d.getD j.toNat 0; omega))⟩
  ·simp only [decide_eq_false c, cond_false]
   exact ⟨d, rfl, PI.refl _ _ _ _, h.done 0 idk (.inl (by omega))⟩
theorem Quh {i b : Int} (h0 : 0 <= i) : ∀ (r : Nat) (d : List Int) (j : Int), (r : Int) = b - j -> i < j -> b <= (d.length : Int) -> PI 0 d (Qah r d j) i b
 | 0, d, j, hr, hi, hb => by rw [Qah]; exact PI.refl _ _ _ _
 | r + 1, d, j, hr, hi, hb => by
  rw [Qah]
  simp only [Qe9]
  by_cases s : d.getD j.toNat 0 < d.getD (j - 1).toNat 0
  ·simp only [decide_eq_true s, Bool.not_true, cond_false]
   exact (PI.swp 0 (d := d) (a := i) (b := b) (i := j) (j := j - 1) h0 hb (by omega) (by omega)).trans 0 (Quh (b := b) h0 r (swp 0 d j (j - 1)) (j + 1) (by omega) (by omega) (by rw [Qeu]; exact hb))
  ·simp only [decide_eq_false s, Bool.not_false, cond_true]
   exact PI.refl _ _ _ _
theorem QsP {a b : Int} (h0 : 0 <= a) (x : List Int) : ∀ (r : Nat) (d : List Int) (i j : Int), a < i -> i <= b -> b <= (d.length : Int) -> x.length = d.length -> Srt 0 idk d a i -> LB 0 idk d a b ->
  ∃ d', PI 0 d d' a b /\ (Qad x a b r d i j = .brk d' \/ Qad x a b r d i j = .ret (false, d') \/ (Qad x a b r d i j = .ret (true, d') /\ Srt 0 idk d' a b))
 | 0, d, i, j, hi, hib, hb, hx, hs, hl => ⟨d, PI.refl _ _ _ _, .inl (by rw [Qad])⟩
 | r + 1, d, i, j, hi, hib, hb, hx, hs, hl => by
  rw [Qad]
  dsimp only
  obtain ⟨m1, m2, m3, m4⟩ := Qun (b := b) d (a := a) (b - i).toNat i (by omega) hi hs
  generalize Qai d (b - i).toNat i = o at *
  by_cases c1 : o = b
  ·subst c1
   rw [beq_self_eq_true, cond_true]
   exact ⟨d, PI.refl _ _ _ _, .inr (.inr ⟨rfl, m3⟩)⟩
  ·rw [beq_false_of_ne c1, cond_false]
   by_cases c2 : b - a < 50
   ·rw [decide_eq_true c2, cond_true]
    exact ⟨d, PI.refl _ _ _ _, .inr (.inl rfl)⟩
   ·rw [decide_eq_false c2, cond_false]
    have e1 : (d.set o.toNat (d.getD (o - 1).toNat 0)).set (o - 1).toNat (d.getD o.toNat 0) = swp 0 d o (o - 1) := rfl
    rw [e1]
    have p1 := PI.swp 0 (d := d) (a := a) (b := b) (i := o) (j := o - 1) h0 hb (by omega) (by omega)
    have p1' := PI.swp 0 (d := d) (a := o - 1) (b := o + 1) (i := o) (j := o - 1) (by omega) (by omega) (by omega) (by omega)
    -- the left end in order, then the right one shifted
    have fin : ∀ d2, PI 0 d d2 a b -> Srt 0 idk d2 a o -> ∃ d', PI 0 d d' a b /\ ∃ q, (q = (bif decide (2 <= b - o) then Qad x a b r (Qah (b - (o + 1)).toNat d2 (o + 1)) o (j + 1) else Qad x a b r d2 o (j + 1))) /\
      (q = .brk d' \/ q = .ret (false, d') \/ (q = .ret (true, d') /\ Srt 0 idk d' a b)) := fun d2 h2 h3 => by
     by_cases c4 : 2 <= b - o
     ·rw [decide_eq_true c4, cond_true]
      have p3 := Quh (i := o) (b := b) (by omega) (b - (o + 1)).toNat d2 (o + 1) (by omega) (by omega) (by rw [h2.len]; exact hb)
      have p4 := h2.trans 0 (p3.mono 0 h0 (by omega) (Int.le_refl _))
      obtain ⟨d', k1, k2⟩ := QsP h0 x r _ o (j + 1) (by omega) m2 (by rw [p4.len]; exact hb) (by rw [p4.len]; exact hx) (h3.pi 0 idk h0 p3 (.inl (Int.le_refl _))) (hl.pi 0 idk p4)
      exact ⟨d', p4.trans 0 k1, _, rfl, k2⟩
     ·rw [decide_eq_false c4, cond_false]
      obtain ⟨d', k1, k2⟩ := QsP h0 x r d2 o (j + 1) (by omega) m2 (by rw [h2.len]; exact hb) (by rw [h2.len]; exact hx) h3 (hl.pi 0 idk h2)
      exact ⟨d', h2.trans 0 k1, _, rfl, k2⟩
    by_cases c3 : 2 <= o - a
    ·rw [decide_eq_true c3, cond_true]
     have hs1 : Srt 0 idk (swp 0 d o (o - 1)) a (o - 1) := fun p q h1 h2 h3 => by
      rw [p1'.out p (by omega) (by omega), p1'.out q (by omega) (by omega)]; exact m3 p q h1 h2 (by omega)
     obtain ⟨d2, n1, n2, n3⟩ := Qt6 (a := a) (e := o) (b := b) h0 m2 (x.length + 1) (swp 0 d o (o - 1)) (o - 1) (by omega) (by omega) (by rw [Qeu]; exact hb) (hl.pi 0 idk p1) (by
      have := Qmg.init 0 idk (d := swp 0 d o (o - 1)) (a := a) (i := o - 1) (by omega) hs1
      rwa [show o - 1 + 1 = o by omega] at this)
     rw [n1]
     dsimp only
     obtain ⟨d', k1, q, rfl, k2⟩ := fin d2 (p1.trans 0 (n2.mono 0 h0 (Int.le_refl _) m2)) n3
     exact ⟨d', k1, k2⟩
    ·rw [decide_eq_false c3, cond_false]
     obtain ⟨d', k1, q, rfl, k2⟩ := fin (swp 0 d o (o - 1)) p1 (fun p q h1 h2 h3 => by
      have : p = q := by omega
      subst this; exact Int.le_refl _)
     exact ⟨d', k1, k2⟩
theorem QrY {d : List Int} {a b : Int} (h0 : 0 <= a) (hab : a < b) (hb : b <= (d.length : Int)) (hl : LB 0 idk d a b) : PI 0 d (Qal d a b).2 a b /\ ((Qal d a b).1 = true -> Srt 0 idk (Qal d a b).2 a b) := by
 obtain ⟨d', k1, k2⟩ := QsP (a := a) (b := b) h0 d 5 d (a + 1) 0 (by omega) (by omega) hb rfl (fun p q h1 h2 h3 => by
  have : p = q := by omega
  subst this; exact Int.le_refl _) hl
 unfold Qal
 rcases k2 with k2 | k2 | ⟨k2, k3⟩ <;> rw [k2]
 ·exact ⟨k1, fun h => by cases h⟩
 ·exact ⟨k1, fun h => by cases h⟩
 ·exact ⟨k1, fun _ => k3⟩
theorem Qos : ∀ (r : Nat) (d : List Int) (j : Int), j < (r : Int) -> 0 < r -> Qap r d j ≠ .oof
 | 0, d, j, hr, hr0 => by omega
 | r + 1, d, j, hr, hr0 => by
  rw [Qap]
  by_cases c : 1 <= j
  ·simp only [decide_eq_true c, cond_true]
   cases Qaq (d.getD j.toNat 0) (d.getD (j - 1).toNat 0)
   ·intro h; cases h
   ·exact Qos r _ _ (by omega) (by omega)
  ·rw [decide_eq_false c]; intro h; cases h
theorem Qop : ∀ (r : Nat) (d : List Int) (j : Int), j < (r : Int) -> 0 < r -> ∃ d', Qap r d j = .brk d' /\ d'.length = d.length
 | 0, d, j, hr, hr0 => by omega
 | r + 1, d, j, hr, hr0 => by
  rw [Qap]
  by_cases c : 1 <= j
  ·simp only [decide_eq_true c, cond_true]
   cases Qaq (d.getD j.toNat 0) (d.getD (j - 1).toNat 0)
   ·exact ⟨d, rfl, rfl⟩
   ·obtain ⟨d', k1, k2⟩ := Qop r ((d.set j.toNat (d.getD (j - 1).toNat 0)).set (j - 1).toNat (d.getD j.toNat 0)) (j - 1) (by omega) (by omega)
    exact ⟨d', k1, by rw [k2]; simp⟩
  ·rw [decide_eq_false c]; exact ⟨d, rfl, rfl⟩
theorem Qoz : ∀ (r : Nat) (d : List Int) (j : Int), (Qah r d j).length = d.length
 | 0, d, j => by rw [Qah]
 | r + 1, d, j => by
  rw [Qah]
  try dsimp only
  cases Qaq (d.getD j.toNat 0) (d.getD (j - 1).toNat 0)
  ·rfl
  ·show (Qah r _ (j + 1)).length = _
   rw [Qoz r]; simp
theorem QoI {b : Int} (d : List Int) : ∀ (r : Nat) (i : Int), (r : Int) = b - i -> i <= Qai d r i /\ Qai d r i <= b
 | 0, i, hr => by rw [Qai]; omega
 | r + 1, i, hr => by
  rw [Qai]
  try dsimp only
  cases Qaq (d.getD i.toNat 0) (d.getD (i - 1).toNat 0)
  ·have := QoI (b := b) d r (i + 1) (by omega)
   rw [Bool.not_false, cond_true]; omega
  ·rw [Bool.not_true, cond_false]; omega
theorem Qml {a b : Int} (x : List Int) (hb : b <= (x.length : Int)) : ∀ (r : Nat) (d : List Int) (i j : Int), i <= b -> d.length = x.length -> ∃ d', d'.length = x.length /\ (Qad x a b r d i j = .brk d' \/ ∃ t, Qad x a b r d i j = .ret (t, d'))
 | 0, d, i, j, hib, hx => ⟨d, hx, .inl (by rw [Qad])⟩
 | r + 1, d, i, j, hib, hx => by
  rw [Qad]
  try dsimp only
  obtain ⟨m1, m2⟩ := QoI (b := b) d (b - i).toNat i (by omega)
  generalize Qai d (b - i).toNat i = o at *
  have fin : ∀ d2 : List Int, d2.length = x.length -> ∃ d', d'.length = x.length /\ ((bif decide (2 <= b - o) then Qad x a b r (Qah (b - (o + 1)).toNat d2 (o + 1)) o (j + 1) else Qad x a b r d2 o (j + 1)) = .brk d' \/
    ∃ t, (bif decide (2 <= b - o) then Qad x a b r (Qah (b - (o + 1)).toNat d2 (o + 1)) o (j + 1) else Qad x a b r d2 o (j + 1)) = .ret (t, d')) := fun d2 h2 => by
   cases decide (2 <= b - o)
   ·exact Qml x hb r _ _ _ m2 h2
   ·exact Qml x hb r _ _ _ m2 (by rw [Qoz]; exact h2)
  cases o == b
  ·cases decide (b - a < 50)
   ·cases decide (2 <= o - a)
    ·exact fin _ (by simp [hx])
    ·obtain ⟨d2, k1, k2⟩ := Qop (x.length + 1) ((d.set o.toNat (d.getD (o - 1).toNat 0)).set (o - 1).toNat (d.getD o.toNat 0)) (o - 1) (by omega) (by omega)
     simp only [cond_false, cond_true]
     rw [k1]
     exact fin d2 (by rw [k2]; simp [hx])
   ·exact ⟨d, hx, .inr ⟨false, rfl⟩⟩
  ·exact ⟨d, hx, .inr ⟨true, rfl⟩⟩
theorem Qsu {d : List Int} {a b : Int} (hab : a < b) (hb : b <= (d.length : Int)) : (Qal d a b).2.length = d.length := by
 obtain ⟨d', k1, k2⟩ := Qml (a := a) (b := b) d hb 5 d (a + 1) 0 (by omega) rfl
 unfold Qal
 rcases k2 with k2 | ⟨t, k2⟩ <;> rw [k2] <;> exact k1
theorem pe1 (a : Int) (d : List Int) (j : Int) : ∀ (r : Nat) (i : Int), j + 1 - i < (r : Int) -> 0 < r -> ∃ i', QaE a d j r i = .brk i' /\ i <= i' /\ (i' <= j + 1 \/ i' = i) /\ (∀ k, i <= k -> k < i' -> gi 0 d k <= gi 0 d a) /\ (i' <= j -> gi 0 d a < gi 0 d i')
 | 0, i, h, h0 => by omega
 | r + 1, i, h, h0 => by
  rw [QaE]
  simp only [Qe9]
  by_cases c : i <= j
  ·simp only [decide_eq_true c, cond_true]
   by_cases s : d.getD a.toNat 0 < d.getD i.toNat 0
   ·simp only [decide_eq_true s, Bool.not_true, cond_false]
    exact ⟨i, rfl, Int.le_refl _, .inr rfl, fun k h1 h2 => by omega, fun _ => s⟩
   ·simp only [decide_eq_false s, Bool.not_false, cond_true]
    obtain ⟨i', m1, m2, m3, m4, m5⟩ := pe1 a d j r (i + 1) (by omega) (by omega)
    refine ⟨i', m1, by omega, .inl (by omega), fun k h1 h2 => ?_, m5⟩
    by_cases e : k = i
    ·subst e; show d.getD k.toNat 0 <= d.getD a.toNat 0; omega
    ·exact m4 k (by omega) h2
  ·simp only [decide_eq_false c, cond_false]
   exact ⟨i, rfl, Int.le_refl _, .inr rfl, fun k h1 h2 => by omega, fun h => by omega⟩
theorem pe2 (a : Int) (d : List Int) (i : Int) : ∀ (r : Nat) (j : Int), j + 1 - i < (r : Int) -> 0 < r -> ∃ j', QaF a d i r j = .brk j' /\ j' <= j /\ (i - 1 <= j' \/ j' = j) /\ (∀ k, j' < k -> k <= j -> gi 0 d a < gi 0 d k) /\ (i <= j' -> gi 0 d j' <= gi 0 d a)
 | 0, j, h, h0 => by omega
 | r + 1, j, h, h0 => by
  rw [QaF]
  simp only [Qe9]
  by_cases c : i <= j
  ·simp only [decide_eq_true c, cond_true]
   by_cases s : d.getD a.toNat 0 < d.getD j.toNat 0
   ·simp only [decide_eq_true s, cond_true]
    obtain ⟨j', m1, m2, m3, m4, m5⟩ := pe2 a d i r (j - 1) (by omega) (by omega)
    refine ⟨j', m1, by omega, .inl (by omega), fun k h1 h2 => ?_, m5⟩
    by_cases e : k = j
    ·subst e; exact s
    ·exact m4 k h1 (by omega)
   ·simp only [decide_eq_false s, cond_false]
    exact ⟨j, rfl, Int.le_refl _, .inr rfl, fun k h1 h2 => by omega, fun _ => by show d.getD j.toNat 0 <= d.getD a.toNat 0; omega⟩
  ·simp only [decide_eq_false c, cond_false]
   exact ⟨j, rfl, Int.le_refl _, .inr rfl, fun k h1 h2 => by omega, fun h => by omega⟩
theorem pe0 {a b : Int} (h0 : 0 <= a) : ∀ (r : Nat) (d : List Int) (i j : Int), j + 1 - i < (r : Int) -> 0 < r -> a + 1 <= i -> i <= b -> i <= j + 2 -> j <= b - 1 -> b <= (d.length : Int) ->
  (∀ k, a <= k -> k < i -> gi 0 d k <= gi 0 d a) -> (∀ k, j < k -> k < b -> gi 0 d a < gi 0 d k) ->
  ∃ d' i', QaJ a b r d i j = .brk (d', i') /\ a + 1 <= i' /\ i' <= b /\ PI 0 d d' a b /\ gi 0 d' a = gi 0 d a /\ (∀ k, a <= k -> k < i' -> gi 0 d' k <= gi 0 d' a) /\ (∀ k, i' <= k -> k < b -> gi 0 d' a < gi 0 d' k)
 | 0, d, i, j, hr, hr0, hi, hib, hij, hj, hb, hA, hB => by omega
 | r + 1, d, i, j, hr, hr0, hi, hib, hij, hj, hb, hA, hB => by
  rw [QaJ]
  obtain ⟨i', m1, m2, m3, m4, m5⟩ := pe1 a d j ((b - a).toNat + 2) i (by omega) (by omega)
  obtain ⟨j', n1, n2, n3, n4, n5⟩ := pe2 a d i' ((b - a).toNat + 2) j (by omega) (by omega)
  rw [m1]; dsimp only; rw [n1]; dsimp only
  have hA' : ∀ k, a <= k -> k < i' -> gi 0 d k <= gi 0 d a := fun k h1 h2 => by
   by_cases e : k < i
   ·exact hA k h1 e
   ·exact m4 k (by omega) h2
  have hB' : ∀ k, j' < k -> k < b -> gi 0 d a < gi 0 d k := fun k h1 h2 => by
   by_cases e : j < k
   ·exact hB k e h2
   ·exact n4 k h1 (by omega)
  by_cases c : j' < i'
  ·simp only [decide_eq_true c, cond_true]
   exact ⟨d, i', rfl, by omega, by omega, PI.refl _ _ _ _, rfl, hA', fun k h1 h2 => hB' k (by omega) h2⟩
  ·simp only [decide_eq_false c, cond_false]
   have hl : i' ≠ j' := fun e => by have := m5 (by omega); have := n5 (by omega); subst e; omega
   have g : ∀ k, 0 <= k -> gi 0 (swp 0 d i' j') k = if k = j' then gi 0 d i' else if k = i' then gi 0 d j' else gi 0 d k := fun k hk => Qhp 0 ⟨by omega, by omega⟩ ⟨by omega, by omega⟩ hk
   have p1 := PI.swp 0 (d := d) (a := a) (b := b) (i := i') (j := j') h0 hb (by omega) (by omega)
   have ga : gi 0 (swp 0 d i' j') a = gi 0 d a := by rw [g a h0, if_neg (by omega), if_neg (by omega)]
   obtain ⟨d', q, k1, k2, k3, k4, k5, k6, k7⟩ := pe0 (b := b) h0 r (swp 0 d i' j') (i' + 1) (j' - 1) (by omega) (by omega) (by omega) (by omega) (by omega) (by omega) (by rw [Qeu]; exact hb)
    (fun k h1 h2 => by
     rw [ga, g k (by omega), if_neg (by omega)]
     by_cases e : k = i'
     ·rw [if_pos e]; exact n5 (by omega)
     ·rw [if_neg e]; exact hA' k h1 (by omega))
    (fun k h1 h2 => by
     rw [ga, g k (by omega)]
     by_cases e : k = j'
     ·rw [if_pos e]; exact m5 (by omega)
     ·rw [if_neg e, if_neg (by omega)]; exact hB' k (by omega) h2)
   exact ⟨d', q, k1, k2, k3, p1.trans 0 k4, k5.trans ga, k6, k7⟩
theorem QqC {d : List Int} {a b p : Int} (h0 : 0 <= a) (hp : a <= p /\ p < b) (hb : b <= (d.length : Int)) : ∀ {r : Int × List Int}, Qao d a b p = r ->
  a < r.1 /\ r.1 <= b /\ PI 0 d r.2 a b /\ gi 0 r.2 a = gi 0 d p /\ (∀ k, a <= k -> k < r.1 -> gi 0 r.2 k <= gi 0 d p) /\ (∀ k, r.1 <= k -> k < b -> gi 0 d p < gi 0 r.2 k) := fun {r} h => by
 subst h
 have g : ∀ k, 0 <= k -> gi 0 (swp 0 d a p) k = if k = p then gi 0 d a else if k = a then gi 0 d p else gi 0 d k := fun k hk => Qhp 0 ⟨by omega, by omega⟩ ⟨by omega, by omega⟩ hk
 have ga : gi 0 (swp 0 d a p) a = gi 0 d p := by
  rw [g a h0]
  by_cases e : a = p
  ·rw [if_pos e, e]
  ·rw [if_neg e, if_pos rfl]
 obtain ⟨d', q, k1, k2, k3, k4, k5, k6, k7⟩ := pe0 (b := b) h0 ((b - a).toNat + 2) (swp 0 d a p) (a + 1) (b - 1) (by omega) (by omega) (by omega) (by omega) (by omega) (by omega) (by rw [Qeu]; exact hb)
  (fun k h1 h2 => by rw [show k = a by omega]; exact Int.le_refl _) (fun k h1 h2 => by omega)
 unfold Qao
 have p1 := PI.swp 0 (d := d) (a := a) (b := b) (i := a) (j := p) h0 hb (by omega) (by omega)
 have e : (d.set a.toNat (d.getD p.toNat 0)).set p.toNat (d.getD a.toNat 0) = swp 0 d a p := rfl
 rw [e, k1]
 rw [k5, ga] at k6 k7
 exact ⟨by show a < q; omega, k3, p1.trans 0 k4, k5.trans ga, k6, k7⟩
theorem QsF {a : Int} {d : List Int} {j : Int} {r : Nat} {i : Int} (h : j + 1 - i < (r : Int)) (h0 : 0 < r) : QaE a d j r i ≠ .oof := by
 obtain ⟨_, e, _⟩ := pe1 a d j r i h h0; exact Qlt e
theorem Qsy {a : Int} {d : List Int} {i : Int} {r : Nat} {j : Int} (h : j + 1 - i < (r : Int)) (h0 : 0 < r) : QaF a d i r j ≠ .oof := by
 obtain ⟨_, e, _⟩ := pe2 a d i r j h h0; exact Qlt e
theorem QqP {a b : Int} : ∀ (r : Nat) (d : List Int) (i j : Int), j + 1 - i < (r : Int) -> 0 < r -> a + 1 <= i -> i <= j + 2 -> j <= b - 1 -> QaJ a b r d i j ≠ .oof
 | 0, d, i, j, hr, hr0, hi, hij, hj => by omega
 | r + 1, d, i, j, hr, hr0, hi, hij, hj => by
  rw [QaJ]
  obtain ⟨i', m1, m2, m3, m4, m5⟩ := pe1 a d j ((b - a).toNat + 2) i (by omega) (by omega)
  obtain ⟨j', n1, n2, n3, n4, n5⟩ := pe2 a d i' ((b - a).toNat + 2) j (by omega) (by omega)
  rw [m1]; dsimp only; rw [n1]; dsimp only
  by_cases c : j' < i'
  ·rw [decide_eq_true c]; intro h; cases h
  ·rw [decide_eq_false c, cond_false]; exact QqP r _ _ _ (by omega) (by omega) (by omega) (by omega) (by omega)
theorem pt3 (a : Int) (d : List Int) (j : Int) : ∀ (r : Nat) (i : Int), j + 1 - i < (r : Int) -> 0 < r -> ∃ i', QaC a d j r i = .brk i' /\ i <= i' /\ (i' <= j + 1 \/ i' = i) /\ (∀ k, i <= k -> k < i' -> gi 0 d k < gi 0 d a) /\ (i' <= j -> gi 0 d a <= gi 0 d i')
 | 0, i, h, h0 => by omega
 | r + 1, i, h, h0 => by
  rw [QaC]
  simp only [Qe9]
  by_cases c : i <= j
  ·simp only [decide_eq_true c, cond_true]
   by_cases s : d.getD i.toNat 0 < d.getD a.toNat 0
   ·simp only [decide_eq_true s, cond_true]
    obtain ⟨i', m1, m2, m3, m4, m5⟩ := pt3 a d j r (i + 1) (by omega) (by omega)
    refine ⟨i', m1, by omega, .inl (by omega), fun k h1 h2 => ?_, m5⟩
    by_cases e : k = i
    ·subst e; exact s
    ·exact m4 k (by omega) h2
   ·simp only [decide_eq_false s, cond_false]
    exact ⟨i, rfl, Int.le_refl _, .inr rfl, fun k h1 h2 => by omega, fun _ => by show d.getD a.toNat 0 <= d.getD i.toNat 0; omega⟩
  ·simp only [decide_eq_false c, cond_false]
   exact ⟨i, rfl, Int.le_refl _, .inr rfl, fun k h1 h2 => by omega, fun h => by omega⟩
theorem pt4 (a : Int) (d : List Int) (i : Int) : ∀ (r : Nat) (j : Int), j + 1 - i < (r : Int) -> 0 < r -> ∃ j', QaD a d i r j = .brk j' /\ j' <= j /\ (i - 1 <= j' \/ j' = j) /\ (∀ k, j' < k -> k <= j -> gi 0 d a <= gi 0 d k) /\ (i <= j' -> gi 0 d j' < gi 0 d a)
 | 0, j, h, h0 => by omega
 | r + 1, j, h, h0 => by
  rw [QaD]
  simp only [Qe9]
  by_cases c : i <= j
  ·simp only [decide_eq_true c, cond_true]
   by_cases s : d.getD j.toNat 0 < d.getD a.toNat 0
   ·simp only [decide_eq_true s, Bool.not_true, cond_false]
    exact ⟨j, rfl, Int.le_refl _, .inr rfl, fun k h1 h2 => by omega, fun _ => s⟩
   ·simp only [decide_eq_false s, Bool.not_false, cond_true]
    obtain ⟨j', m1, m2, m3, m4, m5⟩ := pt4 a d i r (j - 1) (by omega) (by omega)
    refine ⟨j', m1, by omega, .inl (by omega), fun k h1 h2 => ?_, m5⟩
    by_cases e : k = j
    ·subst e; show d.getD a.toNat 0 <= d.getD k.toNat 0; omega
    ·exact m4 k h1 (by omega)
  ·simp only [decide_eq_false c, cond_false]
   exact ⟨j, rfl, Int.le_refl _, .inr rfl, fun k h1 h2 => by omega, fun h => by omega⟩
theorem Qmy (d : List Int) (a b p : Int) : ∀ (r : Nat) (i : Int), QaO d a b p r i = QaC a (swp 0 d a p) (b - 1) r i
 | 0, i => by rw [QaO, QaC]
 | r + 1, i => by rw [QaO, QaC, Qmy d a b p r]; rfl
theorem QmC (d : List Int) (a p i : Int) : ∀ (r : Nat) (j : Int), QaN d a p i r j = QaD a (swp 0 d a p) i r j
 | 0, j => by rw [QaN, QaD]
 | r + 1, j => by rw [QaN, QaD, QmC d a p i r]; rfl
theorem pt2 {a b : Int} (h0 : 0 <= a) : ∀ (r : Nat) (d : List Int) (i j : Int), j + 1 - i < (r : Int) -> 0 < r -> a + 1 <= i -> i <= j + 2 -> a <= j -> j <= b - 1 -> b <= (d.length : Int) ->
  (∀ k, a < k -> k < i -> gi 0 d k < gi 0 d a) -> (∀ k, j < k -> k < b -> gi 0 d a <= gi 0 d k) ->
  ∃ d' j', QaZ a b r d i j = .brk (d', j') /\ a <= j' /\ j' <= b - 1 /\ PI 0 d d' a b /\ (∀ k, a < k -> k <= j' -> gi 0 d' k < gi 0 d' a) /\ (∀ k, j' < k -> k < b -> gi 0 d' a <= gi 0 d' k)
 | 0, d, i, j, hr, hr0, hi, hij, haj, hj, hb, hA, hB => by omega
 | r + 1, d, i, j, hr, hr0, hi, hij, haj, hj, hb, hA, hB => by
  rw [QaZ]
  obtain ⟨i', m1, m2, m3, m4, m5⟩ := pt3 a d j ((b - a).toNat + 2) i (by omega) (by omega)
  obtain ⟨j', n1, n2, n3, n4, n5⟩ := pt4 a d i' ((b - a).toNat + 2) j (by omega) (by omega)
  rw [m1]; dsimp only; rw [n1]; dsimp only
  have hA' : ∀ k, a < k -> k < i' -> gi 0 d k < gi 0 d a := fun k h1 h2 => by
   by_cases e : k < i
   ·exact hA k h1 e
   ·exact m4 k (by omega) h2
  have hB' : ∀ k, j' < k -> k < b -> gi 0 d a <= gi 0 d k := fun k h1 h2 => by
   by_cases e : j < k
   ·exact hB k e h2
   ·exact n4 k h1 (by omega)
  by_cases c : j' < i'
  ·simp only [decide_eq_true c, cond_true]
   exact ⟨d, j', rfl, by omega, by omega, PI.refl _ _ _ _, fun k h1 h2 => hA' k h1 (by omega), hB'⟩
  ·simp only [decide_eq_false c, cond_false]
   have hl : i' ≠ j' := fun e => by have := m5 (by omega); have := n5 (by omega); subst e; omega
   have g : ∀ k, 0 <= k -> gi 0 (swp 0 d i' j') k = if k = j' then gi 0 d i' else if k = i' then gi 0 d j' else gi 0 d k := fun k hk => Qhp 0 ⟨by omega, by omega⟩ ⟨by omega, by omega⟩ hk
   have p1 := PI.swp 0 (d := d) (a := a) (b := b) (i := i') (j := j') h0 hb (by omega) (by omega)
   have ga : gi 0 (swp 0 d i' j') a = gi 0 d a := by rw [g a h0, if_neg (by omega), if_neg (by omega)]
   obtain ⟨d', q, k1, k2, k3, k4, k6, k7⟩ := pt2 (b := b) h0 r (swp 0 d i' j') (i' + 1) (j' - 1) (by omega) (by omega) (by omega) (by omega) (by omega) (by omega) (by rw [Qeu]; exact hb)
    (fun k h1 h2 => by
     rw [ga, g k (by omega), if_neg (by omega)]
     by_cases e : k = i'
     ·rw [if_pos e]; exact n5 (by omega)
     ·rw [if_neg e]; exact hA' k h1 (by omega))
    (fun k h1 h2 => by
     rw [ga, g k (by omega)]
     by_cases e : k = j'
     ·rw [if_pos e]; exact m5 (by omega)
     ·rw [if_neg e, if_neg (by omega)]; exact hB' k (by omega) h2)
   exact ⟨d', q, k1, k2, k3, p1.trans 0 k4, k6, k7⟩
theorem Qrm {d : List Int} {a b p : Int} (h0 : 0 <= a) (hp : a <= p /\ p < b) (hb : b <= (d.length : Int)) : ∀ {r : Int × Bool × List Int}, Qae d a b p = r ->
  a <= r.1 /\ r.1 < b /\ PI 0 d r.2.2 a b /\ (∀ k, a <= k -> k < r.1 -> gi 0 r.2.2 k <= gi 0 r.2.2 r.1) /\ (∀ k, r.1 < k -> k < b -> gi 0 r.2.2 r.1 <= gi 0 r.2.2 k) := fun {r} h => by
 subst h
 have p0 := PI.swp 0 (d := d) (a := a) (b := b) (i := a) (j := p) h0 hb (by omega) (by omega)
 have e : (d.set a.toNat (d.getD p.toNat 0)).set p.toNat (d.getD a.toNat 0) = swp 0 d a p := rfl
 unfold Qae
 rw [Qmy]
 simp only [QmC, e]
 generalize swp 0 d a p = d0 at p0
 have hb0 : b <= (d0.length : Int) := by rw [p0.len]; exact hb
 obtain ⟨i', m1, m2, m3, m4, m5⟩ := pt3 a d0 (b - 1) ((b - a).toNat + 2) (a + 1) (by omega) (by omega)
 rw [m1]; dsimp only
 obtain ⟨j', n1, n2, n3, n4, n5⟩ := pt4 a d0 i' ((b - a).toNat + 2) (b - 1) (by omega) (by omega)
 rw [n1]; dsimp only
 have hA' : ∀ k, a < k -> k < i' -> gi 0 d0 k < gi 0 d0 a := fun k h1 h2 => m4 k (by omega) h2
 have hB' : ∀ k, j' < k -> k < b -> gi 0 d0 a <= gi 0 d0 k := fun k h1 h2 => n4 k h1 (by omega)
 by_cases c : j' < i'
 ·simp only [decide_eq_true c, cond_true]
  obtain ⟨q1, q2, q3⟩ := Qou (d := d0) (a := a) (b := b) (m := j') h0 (by omega) hb0 (fun k h1 h2 => hA' k h1 (by omega)) hB'
  exact ⟨by omega, by omega, p0.trans 0 q1, q2, q3⟩
 ·simp only [decide_eq_false c, cond_false]
  have hl : i' ≠ j' := fun e => by have := m5 (by omega); have := n5 (by omega); subst e; omega
  have g : ∀ k, 0 <= k -> gi 0 (swp 0 d0 i' j') k = if k = j' then gi 0 d0 i' else if k = i' then gi 0 d0 j' else gi 0 d0 k := fun k hk => Qhp 0 ⟨by omega, by omega⟩ ⟨by omega, by omega⟩ hk
  have p1 := PI.swp 0 (d := d0) (a := a) (b := b) (i := i') (j := j') h0 hb0 (by omega) (by omega)
  have ga : gi 0 (swp 0 d0 i' j') a = gi 0 d0 a := by rw [g a h0, if_neg (by omega), if_neg (by omega)]
  obtain ⟨d', q, k1, k2, k3, k4, k6, k7⟩ := pt2 (b := b) h0 ((b - a).toNat + 2) (swp 0 d0 i' j') (i' + 1) (j' - 1) (by omega) (by omega) (by omega) (by omega) (by omega) (by omega) (by rw [Qeu]; exact hb0)
   (fun k h1 h2 => by
    rw [ga, g k (by omega), if_neg (by omega)]
    by_cases e : k = i'
    ·rw [if_pos e]; exact n5 (by omega)
    ·rw [if_neg e]; exact hA' k h1 (by omega))
   (fun k h1 h2 => by
    rw [ga, g k (by omega)]
    by_cases e : k = j'
    ·rw [if_pos e]; exact m5 (by omega)
    ·rw [if_neg e, if_neg (by omega)]; exact hB' k (by omega) h2)
  have e2 : (d0.set i'.toNat (d0.getD j'.toNat 0)).set j'.toNat (d0.getD i'.toNat 0) = swp 0 d0 i' j' := rfl
  rw [e2, k1]; dsimp only
  obtain ⟨q1, q2, q3⟩ := Qou (d := d') (a := a) (b := b) (m := q) h0 (by omega) (by rw [k4.len, Qeu]; exact hb0) k6 k7
  exact ⟨by omega, by omega, (p0.trans 0 (p1.trans 0 k4)).trans 0 q1, q2, q3⟩
theorem QrO {a : Int} {d : List Int} {j : Int} {r : Nat} {i : Int} (h : j + 1 - i < (r : Int)) (h0 : 0 < r) : QaC a d j r i ≠ .oof := by
 obtain ⟨_, e, _⟩ := pt3 a d j r i h h0; exact Qlt e
theorem Qru {a : Int} {d : List Int} {i : Int} {r : Nat} {j : Int} (h : j + 1 - i < (r : Int)) (h0 : 0 < r) : QaD a d i r j ≠ .oof := by
 obtain ⟨_, e, _⟩ := pt4 a d i r j h h0; exact Qlt e
theorem QtO {d : List Int} {a b p : Int} {r : Nat} {i : Int} (h : b - i < (r : Int)) (h0 : 0 < r) : QaO d a b p r i ≠ .oof := by
 rw [Qmy]; exact QrO (by omega) h0
theorem Qtu {d : List Int} {a p i : Int} {r : Nat} {j : Int} (h : j + 1 - i < (r : Int)) (h0 : 0 < r) : QaN d a p i r j ≠ .oof := by
 rw [QmC]; exact Qru h h0
theorem Qro {a b : Int} : ∀ (r : Nat) (d : List Int) (i j : Int), j + 1 - i < (r : Int) -> 0 < r -> a + 1 <= i -> i <= j + 2 -> j <= b - 1 -> QaZ a b r d i j ≠ .oof
 | 0, d, i, j, hr, hr0, hi, hij, hj => by omega
 | r + 1, d, i, j, hr, hr0, hi, hij, hj => by
  rw [QaZ]
  obtain ⟨i', m1, m2, m3, m4, m5⟩ := pt3 a d j ((b - a).toNat + 2) i (by omega) (by omega)
  obtain ⟨j', n1, n2, n3, n4, n5⟩ := pt4 a d i' ((b - a).toNat + 2) j (by omega) (by omega)
  rw [m1]; dsimp only; rw [n1]; dsimp only
  by_cases c : j' < i'
  ·rw [decide_eq_true c]; intro h; cases h
  ·rw [decide_eq_false c, cond_false]; exact Qro r _ _ _ (by omega) (by omega) (by omega) (by omega) (by omega)
def pdT (rc : List Int -> Int -> Int -> Int -> List Int) (r : Nat) (a b lim : Int) (d : List Int) (p : Int) : LR Unit (List Int) :=
 bif decide (((Qae d a b p).1 - a) < (b - (Qae d a b p).1)) then
  Qaa rc r (rc (Qae d a b p).2.2 a (Qae d a b p).1 lim) ((Qae d a b p).1 + 1) b lim (decide (((b - a) / 8) <= ((Qae d a b p).1 - a))) (Qae d a b p).2.1
 else
  Qaa rc r (rc (Qae d a b p).2.2 ((Qae d a b p).1 + 1) b lim) a (Qae d a b p).1 lim (decide (((b - a) / 8) <= (b - (Qae d a b p).1))) (Qae d a b p).2.1
def pdS (rc : List Int -> Int -> Int -> Int -> List Int) (r : Nat) (a b lim : Int) (wb wp : Bool) (d : List Int) (p : Int) : LR Unit (List Int) :=
 bif decide (0 < a) then
  bif (!(Qaq (d.getD ((a - 1) : Int).toNat 0) (d.getD (p : Int).toNat 0))) then
   Qaa rc r (Qao d a b p).2 (Qao d a b p).1 b lim wb wp
  else pdT rc r a b lim d p
 else pdT rc r a b lim d p
def pdP (rc : List Int -> Int -> Int -> Int -> List Int) (r : Nat) (a b lim : Int) (wb wp : Bool) (d : List Int) (p : Int) : LR Unit (List Int) :=
 bif (Qal d a b).1 then .ret (Qal d a b).2 else pdS rc r a b lim wb wp (Qal d a b).2 p
theorem QoT (rc : List Int -> Int -> Int -> Int -> List Int) (r : Nat) (d : List Int) (a b lim : Int) (wb wp : Bool) : Qaa rc (r + 1) d a b lim wb wp =
  (bif decide ((b - a) <= 12) then .ret (Qbk d a b)
  else bif (lim == 0) then .ret (QbC d a b)
  else bif (!wb) then
   (bif ((Qak (QaG d a b) a b).2 == 2) then
    pdS rc r a b (lim - 1) wb wp (QaY (QaG d a b) a b) ((b - 1) - ((Qak (QaG d a b) a b).1 - a))
   else pdS rc r a b (lim - 1) wb wp (QaG d a b) (Qak (QaG d a b) a b).1)
  else
   (bif ((Qak d a b).2 == 2) then
    (bif wp then pdP rc r a b lim wb wp (QaY d a b) ((b - 1) - ((Qak d a b).1 - a))
    else pdS rc r a b lim wb wp (QaY d a b) ((b - 1) - ((Qak d a b).1 - a)))
   else
    (bif wp then
     (bif ((Qak d a b).2 == 1) then pdP rc r a b lim wb wp d (Qak d a b).1
     else pdS rc r a b lim wb wp d (Qak d a b).1)
    else pdS rc r a b lim wb wp d (Qak d a b).1))) := by
 rw [Qaa]
 rfl
theorem pdl {rc : List Int -> Int -> Int -> Int -> List Int} {n N : Nat} (hN : N <= 65535)
  (hrc : ∀ (d : List Int) (a b lim : Int), (b - a).toNat < n -> 0 <= a -> a <= b -> b <= (d.length : Int) -> d.length = N -> LB 0 idk d a b -> PI 0 d (rc d a b lim) a b /\ Srt 0 idk (rc d a b lim) a b) :
  ∀ (r : Nat) (d : List Int) (a b lim : Int) (wb wp : Bool), b - a < (r : Int) -> 0 < r -> (b - a).toNat <= n -> 0 <= a -> a <= b -> b <= (d.length : Int) -> d.length = N -> LB 0 idk d a b ->
   ∃ d', Qaa rc r d a b lim wb wp = .ret d' /\ PI 0 d d' a b /\ Srt 0 idk d' a b
 | 0, d, a, b, lim, wb, wp, hr, hr0, hn, h0, hab, hb, hd, hl => by omega
 | r + 1, d, a, b, lim, wb, wp, hr, hr0, hn, h0, hab, hb, hd, hl => by
  rw [QoT]
  by_cases c0 : b - a <= 12
  ·rw [decide_eq_true c0, cond_true]
   obtain ⟨k1, k2⟩ := Qox (d := d) h0 hab hb
   exact ⟨_, rfl, k1, k2⟩
  rw [decide_eq_false c0, cond_false]
  -- what is behind a pivot
  have fT : ∀ (lim : Int) (d : List Int) (p : Int), a <= p -> p < b -> b <= (d.length : Int) -> d.length = N -> LB 0 idk d a b -> ∃ d', pdT rc r a b lim d p = .ret d' /\ PI 0 d d' a b /\ Srt 0 idk d' a b := fun lim d p hp1 hp2 hb hd hl => by
   unfold pdT
   obtain ⟨m1, m2, m3, m4, m5⟩ := Qrm (d := d) (a := a) (b := b) (p := p) h0 ⟨hp1, hp2⟩ hb rfl
   generalize Qae d a b p = q at *
   have hb1 : b <= (q.2.2.length : Int) := by rw [m3.len]; exact hb
   have hd1 : q.2.2.length = N := by rw [m3.len]; exact hd
   have hl1 := hl.pi 0 idk m3
   by_cases c : q.1 - a < b - q.1
   ·rw [decide_eq_true c, cond_true]
    obtain ⟨k1, k2⟩ := hrc q.2.2 a q.1 lim (by omega) h0 m1 (by omega) hd1 (fun ha j h1 h2 => hl1 ha j h1 (by omega))
    generalize rc q.2.2 a q.1 lim = d2 at *
    have em : gi 0 d2 q.1 = gi 0 q.2.2 q.1 := k1.out q.1 (by omega) (by omega)
    obtain ⟨d', n1, n2, n3⟩ := pdl hN hrc r d2 (q.1 + 1) b lim (decide ((b - a) / 8 <= q.1 - a)) q.2.1 (by omega) (by omega) (by omega) (by omega) (by omega) (by rw [k1.len]; exact hb1) (by rw [k1.len]; exact hd1)
     (fun _ j h1 h2 => by
      show gi 0 d2 (q.1 + 1 - 1) <= gi 0 d2 j
      rw [show q.1 + 1 - 1 = q.1 by omega, em, k1.out j (by omega) (by omega)]
      exact m5 j (by omega) h2)
    refine ⟨d', n1, (m3.trans 0 (k1.mono 0 h0 (Int.le_refl _) (by omega))).trans 0 (n2.mono 0 h0 (by omega) (Int.le_refl _)), Qlq (d1 := q.2.2) ⟨m1, m2⟩ m4 m5 (fun k h1 h2 => ?_) ?_ (fun k h1 h2 => ?_) (k2.pi 0 idk h0 n2 (.inl (by omega))) n3⟩
    ·obtain ⟨s, s1, s2, s3⟩ := k1.src k h1 h2
     exact ⟨s, s1, s2, by rw [n2.out k (by omega) (by omega)]; exact s3⟩
    ·rw [n2.out q.1 (by omega) (by omega)]; exact em
    ·obtain ⟨s, s1, s2, s3⟩ := n2.src k h1 h2
     exact ⟨s, s1, s2, by rw [s3, k1.out s (by omega) (by omega)]⟩
   ·rw [decide_eq_false c, cond_false]
    obtain ⟨k1, k2⟩ := hrc q.2.2 (q.1 + 1) b lim (by omega) (by omega) (by omega) hb1 hd1 (fun _ j h1 h2 => by
     show gi 0 _ (q.1 + 1 - 1) <= gi 0 _ j
     rw [show q.1 + 1 - 1 = q.1 by omega]
     exact m5 j (by omega) h2)
    generalize rc q.2.2 (q.1 + 1) b lim = d2 at *
    have em : gi 0 d2 q.1 = gi 0 q.2.2 q.1 := k1.out q.1 (by omega) (by omega)
    obtain ⟨d', n1, n2, n3⟩ := pdl hN hrc r d2 a q.1 lim (decide ((b - a) / 8 <= b - q.1)) q.2.1 (by omega) (by omega) (by omega) h0 m1 (by rw [k1.len]; omega) (by rw [k1.len]; exact hd1)
     (fun ha j h1 h2 => by
      show gi 0 d2 (a - 1) <= gi 0 d2 j
      rw [k1.out (a - 1) (by omega) (by omega), k1.out j (by omega) (by omega)]
      exact hl1 ha j h1 (by omega))
    refine ⟨d', n1, (m3.trans 0 (k1.mono 0 h0 (by omega) (Int.le_refl _))).trans 0 (n2.mono 0 h0 (Int.le_refl _) (by omega)), Qlq (d1 := q.2.2) ⟨m1, m2⟩ m4 m5 (fun k h1 h2 => ?_) ?_ (fun k h1 h2 => ?_) n3 (k2.pi 0 idk (by omega) n2 (.inr (by omega)))⟩
    ·obtain ⟨s, s1, s2, s3⟩ := n2.src k h1 h2
     exact ⟨s, s1, s2, by rw [s3, k1.out s (by omega) (by omega)]⟩
    ·rw [n2.out q.1 (by omega) (by omega)]; exact em
    ·obtain ⟨s, s1, s2, s3⟩ := k1.src k h1 h2
     exact ⟨s, s1, s2, by rw [n2.out k (by omega) (by omega)]; exact s3⟩
  have fS : ∀ (lim : Int) (d : List Int) (p : Int), a <= p -> p < b -> b <= (d.length : Int) -> d.length = N -> LB 0 idk d a b -> ∃ d', pdS rc r a b lim wb wp d p = .ret d' /\ PI 0 d d' a b /\ Srt 0 idk d' a b := fun lim d p hp1 hp2 hb hd hl => by
   unfold pdS
   by_cases c1 : 0 < a
   ·rw [decide_eq_true c1, cond_true, Qe9]
    by_cases c2 : d.getD (a - 1).toNat 0 < d.getD p.toNat 0
    ·rw [decide_eq_true c2, Bool.not_true, cond_false]
     exact fT lim d p hp1 hp2 hb hd hl
    ·rw [decide_eq_false c2, Bool.not_false, cond_true]
     obtain ⟨m1, m2, m3, m4, m5, m6⟩ := QqC (d := d) (a := a) (b := b) (p := p) h0 ⟨hp1, hp2⟩ hb rfl
     generalize Qao d a b p = q at *
     have ha := hl c1 p hp1 hp2
     have hpv : gi 0 d p = gi 0 d (a - 1) := by
      have h1 : gi 0 d (a - 1) <= gi 0 d p := ha
      have h2 : ¬ gi 0 d (a - 1) < gi 0 d p := c2
      omega
     have hl1 := hl.pi 0 idk m3
     have hall : ∀ k, a <= k -> k < q.1 -> gi 0 q.2 k = gi 0 d p := fun k h1 h2 => by
      have g1 := m5 k h1 h2
      have g2 : gi 0 q.2 (a - 1) <= gi 0 q.2 k := hl1 c1 k h1 (by omega)
      rw [m3.out (a - 1) (by omega) (by omega)] at g2
      omega
     obtain ⟨d', n1, n2, n3⟩ := pdl hN hrc r q.2 q.1 b lim wb wp (by omega) (by omega) (by omega) (by omega) m2 (by rw [m3.len]; exact hb) (by rw [m3.len]; exact hd)
      (fun _ j h1 h2 => by
       show gi 0 q.2 (q.1 - 1) <= gi 0 q.2 j
       rw [hall (q.1 - 1) (by omega) (by omega)]
       have := m6 j h1 h2; omega)
     refine ⟨d', n1, m3.trans 0 (n2.mono 0 h0 (by omega) (Int.le_refl _)), fun i j h1 h2 h3 => ?_⟩
     show gi 0 d' i <= gi 0 d' j
     by_cases c3 : q.1 <= i
     ·exact n3 i j c3 h2 h3
     ·rw [n2.out i (by omega) (by omega), hall i h1 (by omega)]
      by_cases c4 : q.1 <= j
      ·obtain ⟨s, s1, s2, s3⟩ := n2.src j c4 h3
       rw [s3]; have := m6 s s1 s2; omega
      ·rw [n2.out j (by omega) (by omega), hall j (by omega) (by omega)]; exact Int.le_refl _
   ·rw [decide_eq_false c1, cond_false]
    exact fT lim d p hp1 hp2 hb hd hl
  have fP : ∀ (d : List Int) (p : Int), a <= p -> p < b -> b <= (d.length : Int) -> d.length = N -> LB 0 idk d a b -> ∃ d', pdP rc r a b lim wb wp d p = .ret d' /\ PI 0 d d' a b /\ Srt 0 idk d' a b := fun d p hp1 hp2 hb hd hl => by
   unfold pdP
   obtain ⟨k1, k2⟩ := QrY (d := d) (a := a) (b := b) h0 (by omega) hb hl
   generalize Qal d a b = q at *
   cases e : q.1
   ·rw [cond_false]
    obtain ⟨d', n1, n2, n3⟩ := fS lim q.2 p hp1 hp2 (by rw [k1.len]; exact hb) (by rw [k1.len]; exact hd) (hl.pi 0 idk k1)
    exact ⟨d', n1, k1.trans 0 n2, n3⟩
   ·rw [cond_true]
    exact ⟨q.2, rfl, k1, k2 e⟩
  -- what comes ahead
  have via : ∀ (X : LR Unit (List Int)) (d1 : List Int), PI 0 d d1 a b -> (∃ d', X = .ret d' /\ PI 0 d1 d' a b /\ Srt 0 idk d' a b) -> ∃ d', X = .ret d' /\ PI 0 d d' a b /\ Srt 0 idk d' a b := fun X d1 p1 ⟨d', n1, n2, n3⟩ => ⟨d', n1, p1.trans 0 n2, n3⟩
  by_cases c1 : lim = 0
  ·rw [beq_iff_eq.2 c1, cond_true]
   obtain ⟨k1, k2⟩ := QmU (d := d) h0 hab hb
   exact ⟨_, rfl, k1, k2⟩
  rw [beq_false_of_ne c1, cond_false]
  cases wb
  ·rw [Bool.not_false, cond_true]
   have p1 := Qq1 (d := d) (a := a) (b := b) h0 (by omega) hb (by omega)
   generalize QaG d a b = d1 at *
   have hp := QgN d1 (a := a) (b := b) (by omega)
   generalize Qak d1 a b = pv at *
   have hb1 : b <= (d1.length : Int) := by rw [p1.len]; exact hb
   cases pv.2 == 2
   ·rw [cond_false]
    exact via _ d1 p1 (fS _ d1 _ hp.1 hp.2 hb1 (by rw [p1.len]; exact hd) (hl.pi 0 idk p1))
   ·rw [cond_true]
    have p2 := QlU (d := d1) (a := a) (b := b) h0 hab hb1
    have p3 := p1.trans 0 p2
    exact via _ _ p3 (fS _ _ _ (by omega) (by omega) (by rw [p3.len]; exact hb) (by rw [p3.len]; exact hd) (hl.pi 0 idk p3))
  ·rw [Bool.not_true, cond_false]
   have hp := QgN d (a := a) (b := b) (by omega)
   generalize Qak d a b = pv at *
   cases pv.2 == 2
   ·rw [cond_false]
    cases wp
    ·rw [cond_false]; exact fS _ d _ hp.1 hp.2 hb hd hl
    ·rw [cond_true]
     cases pv.2 == 1
     ·rw [cond_false]; exact fS _ d _ hp.1 hp.2 hb hd hl
     ·rw [cond_true]; exact fP d _ hp.1 hp.2 hb hd hl
   ·rw [cond_true]
    have p2 := QlU (d := d) (a := a) (b := b) h0 hab hb
    cases wp
    ·rw [cond_false]; exact via _ _ p2 (fS _ _ _ (by omega) (by omega) (by rw [p2.len]; exact hb) (by rw [p2.len]; exact hd) (hl.pi 0 idk p2))
    ·rw [cond_true]; exact via _ _ p2 (fP _ _ (by omega) (by omega) (by rw [p2.len]; exact hb) (by rw [p2.len]; exact hd) (hl.pi 0 idk p2))
theorem Qog {N : Nat} (hN : N <= 65535) : ∀ (fu : Nat) (d : List Int) (a b lim : Int), (b - a).toNat < fu -> 0 <= a -> a <= b -> b <= (d.length : Int) -> d.length = N -> LB 0 idk d a b -> PI 0 d (Qa0 fu d a b lim) a b /\ Srt 0 idk (Qa0 fu d a b lim) a b
 | 0, d, a, b, lim, h, h0, hab, hb, hd, hl => by omega
 | fu + 1, d, a, b, lim, h, h0, hab, hb, hd, hl => by
  rw [Qa0]
  unfold Qbx
  obtain ⟨d', k1, k2, k3⟩ := pdl (rc := Qa0 fu) (n := fu) hN (fun d a b lim h1 h2 h3 h4 h5 h6 => Qog hN fu d a b lim h1 h2 h3 h4 h5 h6) ((b - a).toNat + 1) d a b lim true true (by omega) (by omega) (by omega) h0 hab hb hd hl
  rw [k1]
  exact ⟨k2, k3⟩
theorem Qnl {rc : List Int -> Int -> Int -> Int -> List Int} {n N : Nat} (hN : N <= 65535)
  (hrc : ∀ (d : List Int) (a b lim : Int), 0 <= a -> a <= b -> b <= (d.length : Int) -> d.length <= 65535 -> (b - a).toNat < n -> (rc d a b lim).length = d.length) :
  ∀ (r : Nat) (d : List Int) (a b lim : Int) (wb wp : Bool), b - a < (r : Int) -> 0 < r -> (b - a).toNat <= n -> 0 <= a -> a <= b -> b <= (d.length : Int) -> d.length = N ->
   ∃ d', Qaa rc r d a b lim wb wp = .ret d' /\ d'.length = N
 | 0, d, a, b, lim, wb, wp, hr, hr0, hn, h0, hab, hb, hd => by omega
 | r + 1, d, a, b, lim, wb, wp, hr, hr0, hn, h0, hab, hb, hd => by
  rw [QoT]
  by_cases c0 : b - a <= 12
  ·rw [decide_eq_true c0, cond_true]
   exact ⟨_, rfl, by rw [(Qox (d := d) h0 hab hb).1.len]; exact hd⟩
  rw [decide_eq_false c0, cond_false]
  have fT : ∀ (lim : Int) (d : List Int) (p : Int), a <= p -> p < b -> b <= (d.length : Int) -> d.length = N -> ∃ d', pdT rc r a b lim d p = .ret d' /\ d'.length = N := fun lim d p hp1 hp2 hb hd => by
   unfold pdT
   obtain ⟨m1, m2, m3, m4, m5⟩ := Qrm (d := d) (a := a) (b := b) (p := p) h0 ⟨hp1, hp2⟩ hb rfl
   generalize Qae d a b p = q at *
   have e := m3.len
   cases decide (q.1 - a < b - q.1)
   ·have k := hrc q.2.2 (q.1 + 1) b lim (by omega) (by omega) (by omega) (by omega) (by omega)
    exact Qnl hN hrc r _ _ _ _ _ _ (by omega) (by omega) (by omega) h0 m1 (by omega) (by omega)
   ·have k := hrc q.2.2 a q.1 lim (by omega) (by omega) (by omega) (by omega) (by omega)
    exact Qnl hN hrc r _ _ _ _ _ _ (by omega) (by omega) (by omega) (by omega) (by omega) (by omega) (by omega)
  have fS : ∀ (lim : Int) (d : List Int) (p : Int), a <= p -> p < b -> b <= (d.length : Int) -> d.length = N -> ∃ d', pdS rc r a b lim wb wp d p = .ret d' /\ d'.length = N := fun lim d p hp1 hp2 hb hd => by
   unfold pdS
   cases decide (0 < a)
   ·exact fT lim d p hp1 hp2 hb hd
   ·cases Qaq (d.getD (a - 1).toNat 0) (d.getD p.toNat 0)
    ·obtain ⟨m1, m2, m3, m4, m5, m6⟩ := QqC (d := d) (a := a) (b := b) (p := p) h0 ⟨hp1, hp2⟩ hb rfl
     generalize Qao d a b p = q at *
     have e := m3.len
     exact Qnl hN hrc r _ _ _ _ _ _ (by omega) (by omega) (by omega) (by omega) (by omega) (by omega) (by omega)
    ·exact fT lim d p hp1 hp2 hb hd
  have fP : ∀ (d : List Int) (p : Int), a <= p -> p < b -> b <= (d.length : Int) -> d.length = N -> ∃ d', pdP rc r a b lim wb wp d p = .ret d' /\ d'.length = N := fun d p hp1 hp2 hb hd => by
   unfold pdP
   have k1 := Qsu (d := d) (a := a) (b := b) (by omega) hb
   generalize Qal d a b = q at *
   cases q.1
   ·exact fS lim q.2 p hp1 hp2 (by omega) (by omega)
   ·exact ⟨q.2, rfl, by omega⟩
  by_cases c1 : lim = 0
  ·rw [beq_iff_eq.2 c1, cond_true]
   exact ⟨_, rfl, by rw [(QmU (d := d) h0 hab hb).1.len]; exact hd⟩
  rw [beq_false_of_ne c1, cond_false]
  cases wb
  ·rw [Bool.not_false, cond_true]
   have p1 := (Qq1 (d := d) (a := a) (b := b) h0 (by omega) hb (by omega)).len
   generalize QaG d a b = d1 at *
   have hp := QgN d1 (a := a) (b := b) (by omega)
   generalize Qak d1 a b = pv at *
   cases pv.2 == 2
   ·exact fS _ d1 _ hp.1 hp.2 (by omega) (by omega)
   ·have p2 := (QlU (d := d1) (a := a) (b := b) h0 hab (by omega)).len
    exact fS _ _ _ (by omega) (by omega) (by omega) (by omega)
  ·rw [Bool.not_true, cond_false]
   have hp := QgN d (a := a) (b := b) (by omega)
   generalize Qak d a b = pv at *
   cases pv.2 == 2
   ·cases wp
    ·exact fS _ d _ hp.1 hp.2 hb hd
    ·cases pv.2 == 1
     ·exact fS _ d _ hp.1 hp.2 hb hd
     ·exact fP d _ hp.1 hp.2 hb hd
   ·have p2 := (QlU (d := d) (a := a) (b := b) h0 hab hb).len
    cases wp
    ·exact fS _ _ _ (by omega) (by omega) (by omega) (by omega)
    ·exact fP _ _ (by omega) (by omega) (by omega) (by omega)
theorem QtD {rc : List Int -> Int -> Int -> Int -> List Int} {n : Nat} (hrc : ∀ (d : List Int) (a b lim : Int), 0 <= a -> a <= b -> b <= (d.length : Int) -> d.length <= 65535 -> (b - a).toNat < n -> (rc d a b lim).length = d.length)
  {r : Nat} {d : List Int} {a b lim : Int} {wb wp : Bool} (h1 : b - a < (r : Int)) (h2 : 0 < r) (h3 : (b - a).toNat <= n) (h4 : 0 <= a) (h5 : a <= b) (h6 : b <= (d.length : Int)) (h7 : d.length <= 65535) : Qaa rc r d a b lim wb wp ≠ .oof := by
 obtain ⟨d', k, _⟩ := Qnl (N := d.length) h7 hrc r d a b lim wb wp h1 h2 h3 h4 h5 h6 rfl
 intro e; rw [k] at e; cases e
theorem QqQ : ∀ (fu : Nat) (d : List Int) (a b lim : Int), (b - a).toNat < fu -> 0 <= a -> a <= b -> b <= (d.length : Int) -> d.length <= 65535 -> (Qa0 fu d a b lim).length = d.length
 | 0, d, a, b, lim, h, h0, hab, hb, hd => by omega
 | fu + 1, d, a, b, lim, h, h0, hab, hb, hd => by
  rw [Qa0]
  unfold Qbx
  obtain ⟨d', k1, k2⟩ := Qnl (rc := Qa0 fu) (n := fu) (N := d.length) hd (fun d a b lim h1 h2 h3 h4 h5 => QqQ fu d a b lim h5 h1 h2 h3 h4) ((b - a).toNat + 1) d a b lim true true (by omega) (by omega) (by omega) h0 hab hb rfl
  rw [k1]
  exact k2
theorem Qpc (l : List Int) (hl : l.length <= 65535) : (Qce l).Perm l /\ (Qce l).Pairwise (· <= ·) := by
 unfold Qce
 dsimp only
 obtain ⟨k1, k2⟩ := Qog hl (l.length + 1) l 0 (l.length : Int) (Qd4 (BitVec.ofInt 64 ((l.length : Nat) : Int))) (by omega) (by omega) (by omega) (Int.le_refl _) rfl (fun h => by omega)
 generalize Qa0 (l.length + 1) l 0 (l.length : Int) (Qd4 (BitVec.ofInt 64 ((l.length : Nat) : Int))) = d' at *
 refine ⟨k1.perm, List.pairwise_iff_getElem.2 fun i j hi hj hij => ?_⟩
 have e := k1.len
 have := k2 (i : Int) (j : Int) (by omega) (by omega) (by omega)
 unfold gi at this
 rw [show ((i : Int)).toNat = i by omega, show ((j : Int)).toNat = j by omega, List.getD_eq_getElem?_getD, List.getD_eq_getElem?_getD, List.getElem?_eq_getElem hi, List.getElem?_eq_getElem hj] at this
 exact this
theorem QnQ {l : List Int} {n : Nat} (h : EdL n l) (hn : n <= 20000) : Asc (Qce l) (n : Int) /\ (∀ x, x ∈ Qce l ↔ x ∈ l) /\ (Qce l).length = l.length := by
 obtain ⟨k1, k2⟩ := Qpc l (by have := Qi8 h; omega)
 have hd : (Qce l).Nodup := k1.nodup_iff.2 h.1
 exact ⟨(Qia _ _).2 ⟨(k2.and hd).imp (fun hh => by omega), fun x hx => h.2 x (k1.mem_iff.1 hx)⟩, fun x => k1.mem_iff, k1.length_eq⟩
theorem QpO (s : List Int) : Qey s = s := by unfold Qey; simp
theorem Qli {g : QaP} {f : List Int} (hg : VG g) : ∀ (r : Nat) (sn : List Bool) (td out : List Int), RI g f sn td out -> td.length + pot g.Succ sn g.Nodes.length < r -> Qcr g r sn td out ≠ .oof
 | 0, sn, td, out, h, hr => by omega
 | r + 1, sn, td, out, h, hr => by
  rw [Qcr]
  by_cases c : (0 : Int) < ((td.length : Nat) : Int)
  ·rw [decide_eq_true c, cond_true]
   have hx := QmE hg h c
   generalize hxe : td.getD (((td.length : Nat) : Int) - 1).toNat 0 = x at *
   cases hs : sn.getD x.toNat false
   ·rw [Bool.not_false, cond_true]
    refine Qli hg r _ _ _ (h.push hg ⟨hx.1, hx.2.1⟩ (by omega) hs) ?_
    have h2 := Qki (S := g.Succ) (sn := sn) (k := x.toNat) (by have := h.sl; omega) hs g.Nodes.length (by omega)
    simp only [List.length_append, List.drop_zero, List.length_take]
    omega
   ·rw [Bool.not_true, cond_false]
    refine Qli hg r _ _ _ h.pop ?_
    simp only [List.drop_zero, List.length_take]
    omega
  ·rw [decide_eq_false c]; intro e; cases e
theorem QnP {g : QaP} {f r : List Int} (hg : VG g) (hr : Qea f = r) (hf : ∀ x ∈ f, 0 <= x /\ x < (g.Nodes.length : Int)) : Qcr g (f.length + (g.Succ.map List.length).sum + 1) (List.replicate (((g.Nodes.length : Nat) : Int) : Int).toNat false) r [] ≠ .oof := by
 subst hr
 refine Qli (f := f) hg _ _ _ _ (RI.init hg hf) ?_
 have := Qk9 g.Succ (List.replicate (((g.Nodes.length : Nat) : Int) : Int).toNat false) g.Nodes.length (by rw [hg.sl]; exact Nat.le_refl _)
 rw [<- hg.sl, List.take_length, hg.sl] at this
 show f.length + _ < _
 omega
theorem Qjd {g : QaP} {f : List Int} (hg : VG g) : ∀ (r : Nat) (sn : List Bool) (td out : List Int), RI g f sn td out -> td.length + pot g.Succ sn g.Nodes.length < r ->
  (∀ x ∈ out, ∀ y ∈ g.Succ.getD x.toNat [], y ∈ out \/ y ∈ td) -> (∀ x ∈ f, x ∈ out \/ x ∈ td) -> (∀ x, x ∈ out \/ x ∈ td -> Rc g.Succ f x) ->
  ∃ o, Qcr g r sn td out = .brk o /\ EdL g.Nodes.length o /\ (∀ x ∈ o, ∀ y ∈ g.Succ.getD x.toNat [], y ∈ o) /\ (∀ x ∈ f, x ∈ o) /\ ∀ x ∈ o, Rc g.Succ f x
 | 0, sn, td, out, h, hr, _, _, _ => by omega
 | r + 1, sn, td, out, h, hr, h1, h2, h3 => by
  rw [Qcr]
  by_cases c : (0 : Int) < ((td.length : Nat) : Int)
  ·rw [decide_eq_true c, cond_true]
   have hx := QmE hg h c
   have hla := Qpj c
   have hxm : td.getD (((td.length : Nat) : Int) - 1).toNat 0 ∈ td := Qcw (by omega)
   have htk : ∀ y, y ∈ ((td.take (((((td.length : Nat) : Int) - 1) : Int).toNat)).drop 0) -> y ∈ td := fun y hy => List.mem_of_mem_take (by simpa using hy)
   generalize hxe : td.getD (((td.length : Nat) : Int) - 1).toNat 0 = x at *
   cases hs : sn.getD x.toNat false
   ·rw [Bool.not_false, cond_true]
    refine Qjd hg r _ _ _ (h.push hg ⟨hx.1, hx.2.1⟩ (by omega) hs) ?_ (fun z hz y hy => ?_) (fun z hz => ?_) (fun z hz => ?_)
    ·have h2 := Qki (S := g.Succ) (sn := sn) (k := x.toNat) (by have := h.sl; omega) hs g.Nodes.length (by omega)
     simp only [List.length_append, List.drop_zero, List.length_take]
     omega
    ·rw [List.mem_append, List.mem_append]
     rcases List.mem_append.1 hz with hz | hz
     ·rcases h1 z hz y hy with hh | hh
      ·exact .inl (.inl hh)
      ·rcases hla y hh with hh | hh
       ·exact .inr (.inl hh)
       ·exact .inl (.inr (List.mem_singleton.2 hh))
     ·rw [List.mem_singleton] at hz; subst hz
      exact .inr (.inr hy)
    ·rw [List.mem_append, List.mem_append]
     rcases h2 z hz with hh | hh
     ·exact .inl (.inl hh)
     ·rcases hla z hh with hh | hh
      ·exact .inr (.inl hh)
      ·exact .inl (.inr (List.mem_singleton.2 hh))
    ·rcases hz with hz | hz
     ·rcases List.mem_append.1 hz with hz | hz
      ·exact h3 z (.inl hz)
      ·rw [List.mem_singleton] at hz; rw [hz]; exact h3 x (.inr hxm)
     ·rcases List.mem_append.1 hz with hz | hz
      ·exact h3 z (.inr (htk z hz))
      ·exact .step (h3 x (.inr hxm)) hz
   ·rw [Bool.not_true, cond_false]
    have hxo : x ∈ out := (h.so x hx.1 hx.2.1).1 hs
    have hmv : ∀ y, y ∈ td -> y ∈ out \/ y ∈ ((td.take (((((td.length : Nat) : Int) - 1) : Int).toNat)).drop 0) := fun y hy => by
     rcases hla y hy with hh | hh
     ·exact .inr hh
     ·rw [hh]; exact .inl hxo
    refine Qjd hg r _ _ _ h.pop ?_ (fun z hz y hy => ?_) (fun z hz => ?_) (fun z hz => ?_)
    ·simp only [List.drop_zero, List.length_take]
     omega
    ·rcases h1 z hz y hy with hh | hh
     ·exact .inl hh
     ·exact hmv y hh
    ·rcases h2 z hz with hh | hh
     ·exact .inl hh
     ·exact hmv z hh
    ·rcases hz with hz | hz
     ·exact h3 z (.inl hz)
     ·exact h3 z (.inr (htk z hz))
  ·rw [decide_eq_false c, cond_false]
   have ht : td = [] := List.length_eq_zero_iff.1 (by omega)
   subst ht
   refine ⟨out, rfl, ⟨h.on, h.oi⟩, fun x hx y hy => (h1 x hx y hy).resolve_right (fun hh => by cases hh), fun x hx => (h2 x hx).resolve_right (fun hh => by cases hh), fun x hx => h3 x (.inl hx)⟩
theorem Qic {g : QaP} {f : List Int} (hv : Qck g = true) (hf : Inr g f) : Asc (QdB g f) (g.Nodes.length : Int) /\ ∀ x, x ∈ QdB g f ↔ Rc g.Succ f x := by
 have hg := QiH hv
 have hcf : Qby f (fun x => QdE x g) = false := by
  rw [Bool.eq_false_iff]
  intro h
  obtain ⟨x, hx, h1⟩ := (Qpp _ _).1 h
  exact (QpN g x).1 h1 (hf x hx)
 obtain ⟨o, e, e1, e2, e3, e4⟩ := Qjd hg (f.length + (g.Succ.map List.length).sum + 1) (List.replicate (((g.Nodes.length : Nat) : Int) : Int).toNat false) f [] (RI.init hg hf) (by
  have := Qk9 g.Succ (List.replicate (((g.Nodes.length : Nat) : Int) : Int).toNat false) g.Nodes.length (by rw [hg.sl]; exact Nat.le_refl _)
  rw [<- hg.sl, List.take_length, hg.sl] at this
  omega) (fun x hx => by cases hx) (fun x hx => .inr hx) (fun x hx => hx.elim (fun h => by cases h) .base)
 have hs := QnQ e1 (by have := hg.n1; omega)
 unfold QdB
 rw [hv]
 dsimp only
 rw [hcf, show Qea f = f from rfl, e]
 simp only [Bool.not_true, cond_false]
 rw [QpO]
 refine ⟨hs.1, fun x => (hs.2.1 x).trans ⟨e4 x, fun h => ?_⟩⟩
 induction h with
 | base h => exact e3 _ h
 | step h hy ih => exact e2 _ ih _ hy
theorem Qmk (a : List Int) : QeR a a = true := by
 have := Qss (fun r i => QeG a a r i) (fun i => a.getD i.toNat 0 != a.getD i.toNat 0) false () (fun _ => rfl) (fun _ _ => rfl) ((((a.length : Nat) : Int) - 0).toNat) 0
 unfold QeR
 rcases this with ⟨e, j, j1, j2, j3⟩ | ⟨e, h⟩
 ·simp at j3
 ·rw [e]; simp
theorem Qlj (l : List Int) (n : Int) : Qf6 l n = true ↔ n ∈ l := by
 have := Qss (fun r i => Qfb l n r i) (fun i => l.getD i.toNat 0 == n) true () (fun _ => rfl) (fun _ _ => rfl) ((((l.length : Nat) : Int) - 0).toNat) 0
 unfold Qf6
 rw [Qlp]
 rcases this with ⟨e, j, j1, j2, j3⟩ | ⟨e, h⟩
 ·rw [e]
  exact ⟨fun _ => ⟨j, j1, by omega, by simpa using j3⟩, fun _ => rfl⟩
 ·rw [e]
  refine ⟨fun h => by simp at h, ?_⟩
  rintro ⟨j, j1, j2, j3⟩
  have := h j j1 (by omega)
  simp [-List.getD_eq_getElem?_getD] at this; exact absurd j3 this
theorem Qei (text : Str) (c : Int) : ∀ (r : Nat) (col i : Int), (0 <= i /\ i <= (text.b.length : Int)) /\ (text.b.length : Int) - i < (r : Int) -> Qay text c r col i ≠ LR.oof /\ ∀ o j, Qay text c r col i = .brk (o, j) -> i <= j /\ j <= (text.b.length : Int) /\ j - i = o - col
 | 0, col, i, h => by omega
 | r + 1, col, i, h => by
  rw [Qay]
  simp only [Bool.cond_eq_ite, decide_eq_true_eq]
  have ih := fun (hi : i < (text.b.length : Int)) => Qei text c r (col + 1) (i + 1) (by omega)
  have stop : (LR.brk (col, i) : LR (Int × Int) (List Qax × Int × Int × Int)) ≠ LR.oof /\ ∀ o j, (LR.brk (col, i) : LR (Int × Int) (List Qax × Int × Int × Int)) = .brk (o, j) -> i <= j /\ j <= (text.b.length : Int) /\ j - i = o - col := ⟨fun h => (by cases h), fun o j h => by cases h; omega⟩
  repeat' split
  all_goals first
   | exact stop
   | (have h3 := ih (by assumption); exact ⟨h3.1, fun o j h => by have := h3.2 o j h; omega⟩)
theorem Qgl (text : Str) (i : Int) : ∀ (r : Nat) (n : Int), (0 <= i + n /\ i + n <= (text.b.length : Int)) /\ (text.b.length : Int) - (i + n) < (r : Int) -> Qbv text i r n ≠ LR.oof /\ ∀ o, Qbv text i r n = .brk o -> n <= o /\ i + o <= (text.b.length : Int)
 | 0, n, h => by omega
 | r + 1, n, h => by
  rw [Qbv]
  simp only [Bool.cond_eq_ite, decide_eq_true_eq]
  have ih := fun (hi : i + n < (text.b.length : Int)) => Qgl text i r (n + 1) (by omega)
  have stop : (LR.brk n : LR Int (List Qax × Int × Int × Int)) ≠ LR.oof /\ ∀ o, (LR.brk n : LR Int (List Qax × Int × Int × Int)) = .brk o -> n <= o /\ i + o <= (text.b.length : Int) := ⟨fun h => (by cases h), fun o h => by cases h; omega⟩
  repeat' split
  all_goals first
   | exact stop
   | (have h3 := ih (by assumption); exact ⟨h3.1, fun o h => by have := h3.2 o h; omega⟩)
theorem Qmd {text : Str} {c : Int} {r : Nat} {col i o j : Int} (h0 : 0 <= i /\ i < (text.b.length : Int)) (hc : c = 35) (ht : ((text.b.getD i.toNat 0).toNat : Int) = 35) (hr : (text.b.length : Int) < (r : Int)) (h : Qay text c r col i = .brk (o, j)) : i + 1 <= j /\ j <= (text.b.length : Int) := by
 obtain ⟨q, rfl⟩ : ∃ q, r = q + 1 := ⟨r - 1, by omega⟩
 subst hc
 rw [Qay] at h
 simp only [beq_self_eq_true, cond_true, decide_eq_true h0.2, ht, show ((35 : Int) != 10) = true from rfl] at h
 have := (Qei text 35 q (col + 1) (i + 1) (by omega)).2 o j h
 omega
theorem QlO {text : Str} {c : Int} {r : Nat} {col i o j : Int} (hc : c ≠ 35) (hr : 1 <= r) (h : Qay text c r col i = .brk (o, j)) : o = col /\ j = i := by
 obtain ⟨q, rfl⟩ : ∃ q, r = q + 1 := ⟨r - 1, by omega⟩
 rw [Qay] at h
 have e : (c == 35) = false := by simp [hc]
 simp only [e, cond_false] at h
 cases h; exact ⟨rfl, rfl⟩
theorem QlZ {text : Str} {r : Nat} {i o : Int} (h0 : 0 <= i /\ i < (text.b.length : Int)) (hl : QbG ((text.b.getD i.toNat 0).toNat : Int) = true) (hr : (text.b.length : Int) < (r : Int)) (h : Qbv text i r 0 = .brk o) : 1 <= o /\ i + o <= (text.b.length : Int) := by
 obtain ⟨q, rfl⟩ : ∃ q, r = q + 1 := ⟨r - 1, by omega⟩
 rw [Qbv] at h
 simp only [Int.add_zero, decide_eq_true h0.2, hl, cond_true] at h
 exact (Qgl text i q 1 (by omega)).2 o h
theorem QkE (text : Str) (c : Int) : ∀ (r : Nat) (col i : Int) (x : List Qax × Int × Int × Int), Qay text c r col i ≠ LR.ret x
 | 0, col, i, x => fun h => by cases h
 | r + 1, col, i, x => by
  rw [Qay]
  simp only [Bool.cond_eq_ite]
  repeat' split
  all_goals first | (intro h; cases h; done) | exact QkE text c r _ _ _
theorem QkP (text : Str) (i : Int) : ∀ (r : Nat) (n : Int) (x : List Qax × Int × Int × Int), Qbv text i r n ≠ LR.ret x
 | 0, n, x => fun h => by cases h
 | r + 1, n, x => by
  rw [Qbv]
  simp only [Bool.cond_eq_ite]
  repeat' split
  all_goals first | (intro h; cases h; done) | exact QkP text i r _ _
theorem QkU (text : Str) : ∀ (r : Nat) (out : List Qax) (line col : Int) (op : Bool) (i : Int), (0 <= i /\ i <= (text.b.length : Int)) /\ (text.b.length : Int) - i < (r : Int) -> Qaj text r out line col op i ≠ LR.oof
 | 0, out, line, col, op, i, h => by omega
 | r + 1, out, line, col, op, i, h => by
  rw [Qaj]
  by_cases hi : i < (text.b.length : Int)
  ·have t1 := fun c col => Qei text c (text.b.length + 1) col i (by omega)
   have t2 := Qgl text i (text.b.length + 1) 0 (by omega)
   have ih := fun out line col op j (hj : i + 1 <= j /\ j <= (text.b.length : Int)) => QkU text r out line col op j (by omega)
   simp only [decide_eq_true hi, cond_true]
   simp only [Bool.cond_eq_ite, beq_iff_eq, decide_eq_true_eq, bne_iff_ne]
   refine iteInduction (motive := fun x => x ≠ LR.oof) (fun _ => ih _ _ _ _ _ (by omega)) fun _ => ?_
   refine iteInduction (motive := fun x => x ≠ LR.oof) (fun _ => ih _ _ _ _ _ (by omega)) fun _ => ?_
   repeat' split
   all_goals first
    | (intro h; cases h; done)
    | exact ih _ _ _ _ _ (by omega)
    | (rename_i e; exact absurd e (t1 _ _).1)
    | (rename_i e; exact absurd e t2.1)
    | (rename_i e; exact absurd e (QkE _ _ _ _ _ _))
    | (rename_i e; exact absurd e (QkP _ _ _ _ _))
    | (have h1 := (t1 _ _).2 _ _ (by assumption); exact ih _ _ _ _ _ (by omega))
    | (exfalso; have e1 := QlO (text := text) (c := ((text.b.getD i.toNat 0).toNat : Int)) (r := text.b.length + 1) (col := col) (i := i) (by omega) (by omega) (by assumption); obtain ⟨rfl, rfl⟩ := e1; omega)
    | (have e1 := QlO (text := text) (c := ((text.b.getD i.toNat 0).toNat : Int)) (r := text.b.length + 1) (col := col) (i := i) (by omega) (by omega) (by assumption); obtain ⟨rfl, rfl⟩ := e1; exact ih _ _ _ _ _ (by omega))
    | (have h1 := Qmd (text := text) (c := ((text.b.getD i.toNat 0).toNat : Int)) (r := text.b.length + 1) (col := col) (i := i) ⟨h.1.1, hi⟩ (by assumption) (by assumption) (by omega) (by assumption); exact ih _ _ _ _ _ (by omega))
    | (have h1 := QlZ (text := text) (r := text.b.length + 1) (i := i) ⟨h.1.1, hi⟩ (by assumption) (by omega) (by assumption); exact ih _ _ _ _ _ (by omega))
  ·simp only [decide_eq_false hi, cond_false]
   intro h; cases h
theorem QmI {p : Qab} {w : Str} (h : Qeh p w = true) : p.at_ < (p.l.length : Int) := by
 unfold Qeh at h
 simp only [Bool.cond_eq_ite] at h
 repeat' split at h
 all_goals first | (have := of_decide_eq_true (by assumption : decide (p.at_ < (p.l.length : Int)) = true); omega) | (cases h)
theorem Qjz {p : Qab} {w : Str} {r : Bool} (e : Qeh p w = r) (h : r = true) : p.at_ < (p.l.length : Int) := QmI (e.trans h)
theorem QgD (p : Qab) (e : Int) : (QbD p e).at_ = p.at_ := by
 unfold QbD
 simp only [Bool.cond_eq_ite]
 split <;> rfl
theorem QiP {n a : Int} {p : Qab} {e : Int} (h : Adv n a p.at_) : Adv n a (QbD p e).at_ := by rw [QgD]; exact h
theorem QlJ {n a : Int} {p : Qab} {w : Str} (hl : (p.l.length : Int) = n) (h : Adv n a p.at_) : Adv n a (QcQ p w).at_ := by
 unfold QcQ
 cases e : Qeh p w with
 | true => have := QmI e; simp only [Bool.not_true, cond_false]; exact ⟨by have := h.1; omega, by omega⟩
 | false => simp only [Bool.not_false, cond_true, QgD]; exact h
theorem QgL {p : Qab} (h : Qbs p = true) : p.at_ < (p.l.length : Int) := by
 unfold Qbs at h
 simp only [Bool.cond_eq_ite] at h
 repeat' split at h
 all_goals first | (cases h; done) | (rename_i h1 _; exact of_decide_eq_true h1) | skip
 all_goals first | (have := of_decide_eq_true (by assumption : decide (p.at_ < (p.l.length : Int)) = true); omega) | (cases h)
theorem QfK {p : Qab} {r : Bool} (e : Qbs p = r) (h : r = true) : p.at_ < (p.l.length : Int) := QgL (e.trans h)
theorem QjP {p : Qab} (h : Qbs p = true) : (Qa8 p).2 = Qab.mk p.l (p.at_ + 1) p.Err := by
 unfold Qa8
 simp only [h, Bool.not_true, cond_false]
theorem QpM {p : Qab} (h : Qbs p = false) : (Qa8 p).2.at_ = p.at_ := by
 unfold Qa8
 simp only [h, Bool.not_false, cond_true, QgD]
theorem QiE {n a : Int} {p : Qab} (hl : (p.l.length : Int) = n) (h : Adv n a p.at_) : Adv n a (Qa8 p).2.at_ := by
 cases e : Qbs p with
 | true => have := QgL e; rw [QjP e]; exact ⟨by have := h.1; dsimp only; omega, by dsimp only; omega⟩
 | false => rw [QpM e]; exact h
theorem Qi4 {p : Qab} {k : Int} (h : Qb3 p k = true) : p.at_ < (p.l.length : Int) := by
 unfold Qb3 at h
 simp only [Bool.cond_eq_ite] at h
 repeat' split at h
 all_goals first | (have := of_decide_eq_true (by assumption : decide (p.at_ < (p.l.length : Int)) = true); omega) | (cases h)
theorem QfL {p : Qab} {k : Int} {r : Bool} (e : Qb3 p k = r) (h : r = true) : p.at_ < (p.l.length : Int) := Qi4 (e.trans h)
theorem QlE {n a x e k : Int} {l : List Qax} (hl : (l.length : Int) = n) (hk : ¬ (!Qb3 (Qab.mk l x e) k) = true) (h : Adv n a x) : Adv n a (x + 1) := by
 have : Qb3 (Qab.mk l x e) k = true := by simpa using hk
 have := Qi4 this
 dsimp only at this
 exact ⟨by have := h.1; omega, by omega⟩
theorem Qh9 {n a : Int} {p : Qab} (hl : (p.l.length : Int) = n) (h : Adv n a p.at_) : Adv n a (QbL p).at_ := by
 unfold QbL
 cases e : Qb3 p 3 with
 | true => have := Qi4 e; simp only [Bool.not_true, cond_false]; exact ⟨by have := h.1; omega, by omega⟩
 | false => simp only [Bool.not_false, cond_true, QgD]; exact h
theorem QkC {p : Qab} (h : Qdm p = true) : p.at_ < (p.l.length : Int) := by
 have key : ∀ (m : Nat) (i : Int), Qdo p m i = .ret true -> p.at_ < (p.l.length : Int) := fun m => by
  induction m with
  | zero => intro i h; cases h
  | succ m ih =>
   intro i h
   rw [Qdo] at h
   simp only [Bool.cond_eq_ite] at h
   split at h
   ·exact QmI (by assumption)
   ·exact ih _ h
 unfold Qdm at h
 split at h
 ·exact QgL h
 ·rename_i r e
  subst h
  exact key _ _ e
 ·cases h
theorem Qhs {p : Qab} {hv : Int} : ∀ (r : Nat) (p1 p2 : Int) (out : List Str), (0 <= p1 /\ p1 <= (p.l.length : Int)) /\ (p.l.length : Int) - p1 < (r : Int) -> Qdk p hv r p1 p2 out ≠ LR.oof /\ (∀ a b o, Qdk p hv r p1 p2 out = .brk (a, b, o) -> Adv p.l.length p1 a) /\ (∀ x, Qdk p hv r p1 p2 out = .ret x -> Adv p.l.length p1 x.2.at_)
 | 0, p1, p2, out, h => by omega
 | r + 1, p1, p2, out, h => by
  rw [Qdk]
  cases e : Qbs (Qab.mk p.l p1 p2) with
  | false => exact ⟨fun h => (by cases h), fun a b o h' => (by cases h'; exact ⟨Int.le_refl _, h.1.2⟩), fun x h => (by cases h)⟩
  | true =>
   have hlt := QgL e
   dsimp only at hlt
   simp only [cond_true, QjP e]
   have ih := fun o => Qhs (p := p) (hv := hv) r (p1 + 1) p2 o (by omega)
   simp only [Bool.cond_eq_ite]
   split
   ·refine ⟨fun h => (by cases h), fun a b o h => (by cases h), fun x h' => ?_⟩
    cases h'
    rw [QgD]; exact ⟨Int.le_refl _, h.1.2⟩
   ·have k := ih (out ++ [(Qa8 { l := p.l, at_ := p1, Err := p2 }).fst])
    exact ⟨k.1, fun a b o h' => by have := k.2.1 a b o h'; exact ⟨by have := this.1; omega, this.2⟩, fun x h' => by have := k.2.2 x h'; exact ⟨by have := this.1; omega, this.2⟩⟩
theorem QlP {n a : Int} {p : Qab} {v : Int} (hl : (p.l.length : Int) = n) (h0 : 0 <= a) (h : Adv n a p.at_) : Adv n a (QgA p v).2.at_ := by
 have k := Qhs (p := p) (hv := v) (p.l.length + 1) p.at_ p.Err [] (by have := h.1; have := h.2; omega)
 subst hl
 unfold QgA
 split
 ·rename_i e; exact QdY h (k.2.1 _ _ _ e)
 ·rename_i e; exact QdY h (k.2.2 _ e)
 ·rename_i e; exact absurd e k.1
theorem QgV {p : Qab} : ∀ (r : Nat) (p1 p2 : Int) (out : List Str), (0 <= p1 /\ p1 <= (p.l.length : Int)) /\ (p.l.length : Int) - p1 < (r : Int) -> QcM p r p1 p2 out ≠ LR.oof /\ (∀ a b o, QcM p r p1 p2 out = .brk (a, b, o) -> Adv p.l.length p1 a) /\ (∀ x, QcM p r p1 p2 out = .ret x -> Adv p.l.length p1 x.2.at_)
 | 0, p1, p2, out, h => by omega
 | r + 1, p1, p2, out, h => by
  rw [QcM]
  cases e : Qbs (Qab.mk p.l p1 p2) with
  | false => exact ⟨fun h => (by cases h), fun a b o h' => (by cases h'; exact ⟨Int.le_refl _, h.1.2⟩), fun x h => (by cases h)⟩
  | true =>
   have hlt := QgL e
   dsimp only at hlt
   simp only [cond_true, QjP e]
   have ih := fun o => QgV (p := p) r (p1 + 1) p2 o (by omega)
   simp only [Bool.cond_eq_ite]
   split
   ·refine ⟨fun h => (by cases h), fun a b o h => (by cases h), fun x h' => ?_⟩
    cases h'
    rw [QgD]; exact ⟨Int.le_refl _, h.1.2⟩
   ·have k := ih (out ++ [(Qa8 { l := p.l, at_ := p1, Err := p2 }).fst])
    exact ⟨k.1, fun a b o h' => by have := k.2.1 a b o h'; exact ⟨by have := this.1; omega, this.2⟩, fun x h' => by have := k.2.2 x h'; exact ⟨by have := this.1; omega, this.2⟩⟩
theorem QkL {n a : Int} {p : Qab} (hl : (p.l.length : Int) = n) (h0 : 0 <= a) (h : Adv n a p.at_) : Adv n a (QfC p).2.at_ := by
 have k := QgV (p := p) (p.l.length + 1) p.at_ p.Err [] (by have := h.1; have := h.2; omega)
 subst hl
 unfold QfC
 split
 ·rename_i e; exact QdY h (k.2.1 _ _ _ e)
 ·rename_i e; exact QdY h (k.2.2 _ e)
 ·rename_i e; exact absurd e k.1
theorem QnF {p : Qab} (h0 : 0 <= p.at_) (hb : Qdm p = true) : Adv p.l.length (p.at_ + 1) (Qcp p).2.at_ := by
 have hlt := QkC hb
 have st : Adv p.l.length (p.at_ + 1) (p.at_ + 1) := ⟨Int.le_refl _, by omega⟩
 unfold Qcp
 cases e : Qbs p with
 | false =>
  simp only [Bool.not_false, cond_true, Bool.cond_eq_ite, if_true, if_false, Bool.false_eq_true]
  repeat' split
  all_goals (repeat first | exact st | (refine Qh9 rfl ?_; try dsimp only) | (refine QlE rfl (by assumption) ?_; try dsimp only) | (refine QiE rfl ?_; try dsimp only) | (refine QiP ?_; try dsimp only) | (refine QkL rfl (by omega) ?_; try dsimp only) | (refine QlP rfl (by omega) ?_; try dsimp only))
 | true =>
  have nm : ∀ x y : List UInt8, x ≠ y -> (Str.mk x == Str.mk y) = false := fun x y h => by
   rw [beq_eq_false_iff_ne]; intro h'; injection h' with h'; exact h h'
  simp only [Bool.not_true, cond_false, nm [] _ (List.cons_ne_nil _ _).symm, QjP e]
  simp only [Bool.cond_eq_ite, if_true, if_false, Bool.false_eq_true]
  repeat' split
  all_goals (repeat first | exact st | (refine Qh9 rfl ?_; try dsimp only) | (refine QlE rfl (by assumption) ?_; try dsimp only) | (refine QiE rfl ?_; try dsimp only) | (refine QiP ?_; try dsimp only) | (refine QkL rfl (by omega) ?_; try dsimp only) | (refine QlP rfl (by omega) ?_; try dsimp only))
theorem Qf7 {p : Qab} {b0 : Str} : ∀ (r : Nat) (p1 p2 : Int) (out : List Qbc), (0 <= p1 /\ p1 <= (p.l.length : Int)) /\ (p.l.length : Int) - p1 < (r : Int) -> QbK p b0 r p1 p2 out ≠ LR.oof /\ (∀ a b o, QbK p b0 r p1 p2 out = .brk (a, b, o) -> Adv p.l.length p1 a) /\ (∀ x, QbK p b0 r p1 p2 out = .ret x -> Adv p.l.length p1 x.2.at_)
 | 0, p1, p2, out, h => by omega
 | r + 1, p1, p2, out, h => by
  rw [QbK]
  cases e : Qdm (Qab.mk p.l p1 p2) with
  | false => exact ⟨fun h => (by cases h), fun a b o h' => (by cases h'; exact ⟨Int.le_refl _, h.1.2⟩), fun x h => (by cases h)⟩
  | true =>
   have st := QnF (p := Qab.mk p.l p1 p2) h.1.1 e
   dsimp only at st
   have s1 := st.1
   have s2 := st.2
   simp only [cond_true]
   have ih := fun o => Qf7 (p := p) (b0 := b0) r (Qcp (Qab.mk p.l p1 p2)).2.at_ (Qcp (Qab.mk p.l p1 p2)).2.Err o (by omega)
   simp only [Bool.cond_eq_ite]
   split
   ·refine ⟨fun h => (by cases h), fun a b o h => (by cases h), fun x h' => ?_⟩
    cases h'
    rw [QgD]; exact ⟨Int.le_refl _, h.1.2⟩
   ·have k := ih (out ++ [(Qcp (Qab.mk p.l p1 p2)).1])
    exact ⟨k.1, fun a b o h' => by have := k.2.1 a b o h'; exact ⟨by have := this.1; omega, this.2⟩, fun x h' => by have := k.2.2 x h'; exact ⟨by have := this.1; omega, this.2⟩⟩
theorem QmH {p : Qab} {c : Int} (w : Adv p.l.length c (QcQ p (Str.mk [98, 108, 111, 99, 107])).at_) (h0 : 0 <= c) : Adv p.l.length c (Qd1 p).2.at_ := by
 have n := QiE (p := Qab.mk p.l (QcQ p (Str.mk [98, 108, 111, 99, 107])).at_ (QcQ p (Str.mk [98, 108, 111, 99, 107])).Err) rfl w
 unfold Qd1
 simp only
 generalize hq : QbL _ = q
 have e : Adv p.l.length c q.at_ := by rw [<- hq]; exact Qh9 rfl n
 have k := fun a b (ha : Adv p.l.length c a) => Qf7 (p := p) (b0 := (Qa8 (Qab.mk p.l (QcQ p (Str.mk [98, 108, 111, 99, 107])).at_ (QcQ p (Str.mk [98, 108, 111, 99, 107])).Err)).1) (p.l.length + 1) a b [] (by have := ha.1; have := ha.2; omega)
 cases Qdm (Qab.mk p.l q.at_ q.Err) with
 | true =>
  simp only [Bool.not_true, cond_false]
  split
  ·rename_i e'; exact QdY e ((k _ _ e).2.1 _ _ _ e')
  ·rename_i e'; exact QdY e ((k _ _ e).2.2 _ e')
  ·rename_i e'; exact absurd e' (k _ _ e).1
 | false =>
  simp only [Bool.not_false, cond_true]
  have f := QiP (p := Qab.mk p.l q.at_ q.Err) (e := 4) e
  split
  ·rename_i e'; exact QdY f ((k _ _ f).2.1 _ _ _ e')
  ·rename_i e'; exact QdY f ((k _ _ f).2.2 _ e')
  ·rename_i e'; exact absurd e' (k _ _ f).1
theorem Qmc {p : Qab} (h : Adv p.l.length p.at_ p.at_) (h0 : 0 <= p.at_) (hw : Qeh p (Str.mk [98, 108, 111, 99, 107]) = true) : Adv p.l.length (p.at_ + 1) (Qd1 p).2.at_ := by
 have hlt := QmI hw
 refine QmH ?_ (by omega)
 unfold QcQ
 simp only [hw, Bool.not_true, cond_false]
 exact ⟨Int.le_refl _, by omega⟩
theorem QeO {p : Qab} {f0 : Str} : ∀ (r : Nat) (p1 p2 : Int) (out : List Qbp), (0 <= p1 /\ p1 <= (p.l.length : Int)) /\ (p.l.length : Int) - p1 < (r : Int) -> Qbg p f0 r p1 p2 out ≠ LR.oof /\ (∀ a b o, Qbg p f0 r p1 p2 out = .brk (a, b, o) -> Adv p.l.length p1 a) /\ (∀ x, Qbg p f0 r p1 p2 out = .ret x -> Adv p.l.length p1 x.2.at_)
 | 0, p1, p2, out, h => by omega
 | r + 1, p1, p2, out, h => by
  rw [Qbg]
  cases e : Qeh (Qab.mk p.l p1 p2) (Str.mk [98, 108, 111, 99, 107]) with
  | false => exact ⟨fun h => (by cases h), fun a b o h' => (by cases h'; exact ⟨Int.le_refl _, h.1.2⟩), fun x h => (by cases h)⟩
  | true =>
   have st := Qmc (p := Qab.mk p.l p1 p2) ⟨Int.le_refl _, h.1.2⟩ h.1.1 e
   dsimp only at st
   have s1 := st.1
   have s2 := st.2
   simp only [cond_true]
   have ih := fun o => QeO (p := p) (f0 := f0) r (Qd1 (Qab.mk p.l p1 p2)).2.at_ (Qd1 (Qab.mk p.l p1 p2)).2.Err o (by omega)
   simp only [Bool.cond_eq_ite]
   split
   ·refine ⟨fun h => (by cases h), fun a b o h => (by cases h), fun x h' => ?_⟩
    cases h'
    rw [QgD]; exact ⟨Int.le_refl _, h.1.2⟩
   ·have k := ih (out ++ [(Qd1 (Qab.mk p.l p1 p2)).1])
    exact ⟨k.1, fun a b o h' => by have := k.2.1 a b o h'; exact ⟨by have := this.1; omega, this.2⟩, fun x h' => by have := k.2.2 x h'; exact ⟨by have := this.1; omega, this.2⟩⟩
theorem QkW {p : Qab} {c : Int} (w : Adv p.l.length c (QcQ p (Str.mk [102, 117, 110, 99])).at_) (h0 : 0 <= c) : Adv p.l.length c (Qco p).2.at_ := by
 have n := QiE (p := Qab.mk p.l (QcQ p (Str.mk [102, 117, 110, 99])).at_ (QcQ p (Str.mk [102, 117, 110, 99])).Err) rfl w
 unfold Qco
 simp only
 generalize hq : QbL _ = q
 have e : Adv p.l.length c q.at_ := by rw [<- hq]; exact Qh9 rfl n
 have k := fun a b (ha : Adv p.l.length c a) => QeO (p := p) (f0 := (Qa8 (Qab.mk p.l (QcQ p (Str.mk [102, 117, 110, 99])).at_ (QcQ p (Str.mk [102, 117, 110, 99])).Err)).1) (p.l.length + 1) a b [] (by have := ha.1; have := ha.2; omega)
 cases Qeh (Qab.mk p.l q.at_ q.Err) (Str.mk [98, 108, 111, 99, 107]) with
 | true =>
  simp only [Bool.not_true, cond_false]
  split
  ·rename_i e'
   refine Qh9 rfl ?_
   dsimp only
   refine QlJ rfl ?_
   exact QdY e ((k _ _ e).2.1 _ _ _ e')
  ·rename_i e'; exact QdY e ((k _ _ e).2.2 _ e')
  ·rename_i e'; exact absurd e' (k _ _ e).1
 | false =>
  simp only [Bool.not_false, cond_true]
  have f := QiP (p := Qab.mk p.l q.at_ q.Err) (e := 4) e
  split
  ·rename_i e'
   refine Qh9 rfl ?_
   dsimp only
   refine QlJ rfl ?_
   exact QdY f ((k _ _ f).2.1 _ _ _ e')
  ·rename_i e'; exact QdY f ((k _ _ f).2.2 _ e')
  ·rename_i e'; exact absurd e' (k _ _ f).1
theorem Qkp {p : Qab} (h : Adv p.l.length p.at_ p.at_) (h0 : 0 <= p.at_) (hw : Qeh p (Str.mk [102, 117, 110, 99]) = true) : Adv p.l.length (p.at_ + 1) (Qco p).2.at_ := by
 have hlt := QmI hw
 refine QkW ?_ (by omega)
 unfold QcQ
 simp only [hw, Bool.not_true, cond_false]
 exact ⟨Int.le_refl _, by omega⟩
end Go.SL.G
