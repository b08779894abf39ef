/- Part 2 of the walks: mirrors, plain laws and walks used by the last text of this claim. -/
import Derived.Test.YtaahlggoddafaaaDoorW1
import Derived.Test.YtaahlggoddafaaaDoorProg
set_option linter.unusedVariables false
set_option linter.unusedSimpArgs false
namespace Go.SL.G
open Go Go.SL Go.Proofs
set_option maxHeartbeats 20000000
set_option maxRecDepth 100000
structure GStmt where
  Op : Int
  Def : Str
  Uses : List Str
  Targets : List Str
instance : Inhabited GStmt := ⟨⟨0, ⟨[]⟩, [], []⟩⟩
structure GBlock where
  Name : Str
  Stmts : List GStmt
instance : Inhabited GBlock := ⟨⟨⟨[]⟩, []⟩⟩
structure GFunc where
  Name : Str
  Blocks : List GBlock
instance : Inhabited GFunc := ⟨⟨⟨[]⟩, []⟩⟩
structure GProgram where
  Funcs : List GFunc
instance : Inhabited GProgram := ⟨⟨[]⟩⟩
structure GNode where
  Kind : Int
  Func : Int
  Block : Int
  Stmt : Int
instance : Inhabited GNode := ⟨⟨0, 0, 0, 0⟩⟩
structure GToken where
  Kind : Int
  Text : Str
  Line : Int
  Col : Int
instance : Inhabited GToken := ⟨⟨0, ⟨[]⟩, 0, 0⟩⟩
structure Gparser where
  l : List GToken
  at_ : Int
  Err : Int
instance : Inhabited Gparser := ⟨⟨[], 0, 0⟩⟩
def tab0 : Str := (Str.mk [48, 49, 50, 51, 52, 53, 54, 55, 56, 57, 97, 98, 99, 100, 101, 102, 103, 104, 105, 106, 107, 108, 109, 110, 111, 112, 113, 114, 115, 116, 117, 118, 119, 120, 121, 122])
def tab1 : Str := (Str.mk [48, 48, 48, 49, 48, 50, 48, 51, 48, 52, 48, 53, 48, 54, 48, 55, 48, 56, 48, 57, 49, 48, 49, 49, 49, 50, 49, 51, 49, 52, 49, 53, 49, 54, 49, 55, 49, 56, 49, 57, 50, 48, 50, 49, 50, 50, 50, 51, 50, 52, 50, 53, 50, 54, 50, 55, 50, 56, 50, 57, 51, 48, 51, 49, 51, 50, 51, 51, 51, 52, 51, 53, 51, 54, 51, 55, 51, 56, 51, 57, 52, 48, 52, 49, 52, 50, 52, 51, 52, 52, 52, 53, 52, 54, 52, 55, 52, 56, 52, 57, 53, 48, 53, 49, 53, 50, 53, 51, 53, 52, 53, 53, 53, 54, 53, 55, 53, 56, 53, 57, 54, 48, 54, 49, 54, 50, 54, 51, 54, 52, 54, 53, 54, 54, 54, 55, 54, 56, 54, 57, 55, 48, 55, 49, 55, 50, 55, 51, 55, 52, 55, 53, 55, 54, 55, 55, 55, 56, 55, 57, 56, 48, 56, 49, 56, 50, 56, 51, 56, 52, 56, 53, 56, 54, 56, 55, 56, 56, 56, 57, 57, 48, 57, 49, 57, 50, 57, 51, 57, 52, 57, 53, 57, 54, 57, 55, 57, 56, 57, 57])
def kwL : List Str := [⟨[102, 117, 110, 99]⟩, ⟨[98, 108, 111, 99, 107]⟩, ⟨[101, 110, 100]⟩, ⟨[117, 115, 101]⟩, ⟨[99, 97, 108, 108]⟩, ⟨[115, 111, 117, 114, 99, 101]⟩, ⟨[115, 105, 110, 107]⟩, ⟨[115, 97, 110, 105, 116, 105, 122, 101]⟩, ⟨[103, 111, 116, 111]⟩, ⟨[98, 114, 97, 110, 99, 104]⟩, ⟨[114, 101, 116, 117, 114, 110]⟩]
instance rep_GStmt : Rep GStmt where
  sz := 4
  bytes := 72
  pos := by decide
  bpos := by decide
  rd w M cs x := ∃ c2 c3, cs = [.int .i64 x.Op, .string (bs x.Def), c2, c3] ∧ i64ok x.Op ∧ x.Def.b.length ≤ 140737488355328 ∧ slrd w M c2 x.Uses ∧ slrd w M c3 x.Targets
  len := by rintro w M cs x ⟨c2, c3, rfl, h0, h1, h2, h3⟩; rfl
  one := by
    rintro w M cs x ⟨c2, c3, rfl, h0, h1, h2, h3⟩ v hv
    simp only [List.mem_cons, List.not_mem_nil, or_false] at hv
    rcases hv with rfl | rfl | rfl | rfl
    all_goals first | rfl | exact slrd_one h2 | exact slrd_one h3
  st := by
    rintro w M cs x w' M' ⟨c2, c3, rfl, h0, h1, h2, h3⟩ e
    exact ⟨c2, c3, rfl, h0, h1, slrd_st h2 e, slrd_st h3 e⟩
theorem JJ_peek_GStmt {C : Cx} {X : Act → World → Prop} {L : Env} {A : List SP} {c : Value} {xs : List GStmt} (i m : Nat) (hA : A[m]? = some (sl c xs)) (hi : i < xs.length)
    (h : ∀ (a2 : Option Addr) (k2 : Nat) (a3 : Option Addr) (k3 : Nat), i64ok (xs.getD i default).Op → ((xs.getD i default).Def).b.length ≤ 140737488355328 → JJ C X L (pv (eptr 4 c i) [.int .i64 (xs.getD i default).Op, .string (bs (xs.getD i default).Def), .slice a2 (xs.getD i default).Uses.length k2, .slice a3 (xs.getD i default).Targets.length k3] :: sl (.slice a2 (xs.getD i default).Uses.length k2) (xs.getD i default).Uses :: sl (.slice a3 (xs.getD i default).Targets.length k3) (xs.getD i default).Targets :: A)) : JJ C X L A := by
  refine JJ_peek i m hA hi default fun cs => ?_
  intro a w M F st
  obtain ⟨F1, F2, q1, q2, qd, hp, F3, F4, q3, q4, qd2, hr, hs⟩ := st.sp
  obtain ⟨c2, c3, rfl, h0, h1, h2, h3⟩ := hr
  have g2 := h2
  obtain ⟨_, a2, k2, rfl, _⟩ := h2
  have g3 := h3
  obtain ⟨_, a3, k3, rfl, _⟩ := h3
  exact h a2 k2 a3 k3 h0 h1 a w M F ⟨st.step, st.sz, st.df, st.sat, F1, F2, q1, q2, qd, hp, ⟨fun _ => False, _, fun _ h => h.elim, fun _ h => h, fun _ h _ => h, g2, ⟨fun _ => False, _, fun _ h => h.elim, fun _ h => h, fun _ h _ => h, g3, sepAll_up hs q4⟩⟩⟩
instance rep_GBlock : Rep GBlock where
  sz := 2
  bytes := 40
  pos := by decide
  bpos := by decide
  rd w M cs x := ∃ c1, cs = [.string (bs x.Name), c1] ∧ x.Name.b.length ≤ 140737488355328 ∧ slrd w M c1 x.Stmts
  len := by rintro w M cs x ⟨c1, rfl, h0, h1⟩; rfl
  one := by
    rintro w M cs x ⟨c1, rfl, h0, h1⟩ v hv
    simp only [List.mem_cons, List.not_mem_nil, or_false] at hv
    rcases hv with rfl | rfl
    all_goals first | rfl | exact slrd_one h1
  st := by
    rintro w M cs x w' M' ⟨c1, rfl, h0, h1⟩ e
    exact ⟨c1, rfl, h0, slrd_st h1 e⟩
theorem JJ_peek_GBlock {C : Cx} {X : Act → World → Prop} {L : Env} {A : List SP} {c : Value} {xs : List GBlock} (i m : Nat) (hA : A[m]? = some (sl c xs)) (hi : i < xs.length)
    (h : ∀ (a1 : Option Addr) (k1 : Nat), ((xs.getD i default).Name).b.length ≤ 140737488355328 → JJ C X L (pv (eptr 2 c i) [.string (bs (xs.getD i default).Name), .slice a1 (xs.getD i default).Stmts.length k1] :: sl (.slice a1 (xs.getD i default).Stmts.length k1) (xs.getD i default).Stmts :: A)) : JJ C X L A := by
  refine JJ_peek i m hA hi default fun cs => ?_
  intro a w M F st
  obtain ⟨F1, F2, q1, q2, qd, hp, F3, F4, q3, q4, qd2, hr, hs⟩ := st.sp
  obtain ⟨c1, rfl, h0, h1⟩ := hr
  have g1 := h1
  obtain ⟨_, a1, k1, rfl, _⟩ := h1
  exact h a1 k1 h0 a w M F ⟨st.step, st.sz, st.df, st.sat, F1, F2, q1, q2, qd, hp, ⟨fun _ => False, _, fun _ h => h.elim, fun _ h => h, fun _ h _ => h, g1, sepAll_up hs q4⟩⟩
instance rep_GFunc : Rep GFunc where
  sz := 2
  bytes := 40
  pos := by decide
  bpos := by decide
  rd w M cs x := ∃ c1, cs = [.string (bs x.Name), c1] ∧ x.Name.b.length ≤ 140737488355328 ∧ slrd w M c1 x.Blocks
  len := by rintro w M cs x ⟨c1, rfl, h0, h1⟩; rfl
  one := by
    rintro w M cs x ⟨c1, rfl, h0, h1⟩ v hv
    simp only [List.mem_cons, List.not_mem_nil, or_false] at hv
    rcases hv with rfl | rfl
    all_goals first | rfl | exact slrd_one h1
  st := by
    rintro w M cs x w' M' ⟨c1, rfl, h0, h1⟩ e
    exact ⟨c1, rfl, h0, slrd_st h1 e⟩
theorem JJ_peek_GFunc {C : Cx} {X : Act → World → Prop} {L : Env} {A : List SP} {c : Value} {xs : List GFunc} (i m : Nat) (hA : A[m]? = some (sl c xs)) (hi : i < xs.length)
    (h : ∀ (a1 : Option Addr) (k1 : Nat), ((xs.getD i default).Name).b.length ≤ 140737488355328 → JJ C X L (pv (eptr 2 c i) [.string (bs (xs.getD i default).Name), .slice a1 (xs.getD i default).Blocks.length k1] :: sl (.slice a1 (xs.getD i default).Blocks.length k1) (xs.getD i default).Blocks :: A)) : JJ C X L A := by
  refine JJ_peek i m hA hi default fun cs => ?_
  intro a w M F st
  obtain ⟨F1, F2, q1, q2, qd, hp, F3, F4, q3, q4, qd2, hr, hs⟩ := st.sp
  obtain ⟨c1, rfl, h0, h1⟩ := hr
  have g1 := h1
  obtain ⟨_, a1, k1, rfl, _⟩ := h1
  exact h a1 k1 h0 a w M F ⟨st.step, st.sz, st.df, st.sat, F1, F2, q1, q2, qd, hp, ⟨fun _ => False, _, fun _ h => h.elim, fun _ h => h, fun _ h _ => h, g1, sepAll_up hs q4⟩⟩
instance rep_GProgram : Rep GProgram where
  sz := 1
  bytes := 24
  pos := by decide
  bpos := by decide
  rd w M cs x := ∃ c0, cs = [c0] ∧ slrd w M c0 x.Funcs
  len := by rintro w M cs x ⟨c0, rfl, h0⟩; rfl
  one := by
    rintro w M cs x ⟨c0, rfl, h0⟩ v hv
    simp only [List.mem_cons, List.not_mem_nil, or_false] at hv
    rcases hv with rfl
    all_goals first | rfl | exact slrd_one h0
  st := by
    rintro w M cs x w' M' ⟨c0, rfl, h0⟩ e
    exact ⟨c0, rfl, slrd_st h0 e⟩
instance rep_GNode : Rep GNode where
  sz := 4
  bytes := 32
  pos := by decide
  bpos := by decide
  rd w M cs x := cs = [.int .i64 x.Kind, .int .i64 x.Func, .int .i64 x.Block, .int .i64 x.Stmt] ∧ i64ok x.Kind ∧ i64ok x.Func ∧ i64ok x.Block ∧ i64ok x.Stmt
  len := by rintro w M cs x ⟨rfl, h0, h1, h2, h3⟩; rfl
  one := by
    rintro w M cs x ⟨rfl, h0, h1, h2, h3⟩ v hv
    simp only [List.mem_cons, List.not_mem_nil, or_false] at hv
    rcases hv with rfl | rfl | rfl | rfl
    all_goals first | rfl
  st := by
    rintro w M cs x w' M' ⟨rfl, h0, h1, h2, h3⟩ e
    exact ⟨rfl, h0, h1, h2, h3⟩
theorem JJ_peek_GNode {C : Cx} {X : Act → World → Prop} {L : Env} {A : List SP} {c : Value} {xs : List GNode} (i m : Nat) (hA : A[m]? = some (sl c xs)) (hi : i < xs.length)
    (h : i64ok (xs.getD i default).Kind → i64ok (xs.getD i default).Func → i64ok (xs.getD i default).Block → i64ok (xs.getD i default).Stmt → JJ C X L (pv (eptr 4 c i) [.int .i64 (xs.getD i default).Kind, .int .i64 (xs.getD i default).Func, .int .i64 (xs.getD i default).Block, .int .i64 (xs.getD i default).Stmt] :: A)) : JJ C X L A := by
  refine JJ_peek i m hA hi default fun cs => ?_
  intro a w M F st
  obtain ⟨F1, F2, q1, q2, qd, hp, F3, F4, q3, q4, qd2, hr, hs⟩ := st.sp
  obtain ⟨rfl, h0, h1, h2, h3⟩ := hr
  exact h h0 h1 h2 h3 a w M F ⟨st.step, st.sz, st.df, st.sat, F1, F2, q1, q2, qd, hp, sepAll_up hs q4⟩
instance rep_GToken : Rep GToken where
  sz := 4
  bytes := 40
  pos := by decide
  bpos := by decide
  rd w M cs x := cs = [.int .i64 x.Kind, .string (bs x.Text), .int .i64 x.Line, .int .i64 x.Col] ∧ i64ok x.Kind ∧ x.Text.b.length ≤ 140737488355328 ∧ i64ok x.Line ∧ i64ok x.Col
  len := by rintro w M cs x ⟨rfl, h0, h1, h2, h3⟩; rfl
  one := by
    rintro w M cs x ⟨rfl, h0, h1, h2, h3⟩ v hv
    simp only [List.mem_cons, List.not_mem_nil, or_false] at hv
    rcases hv with rfl | rfl | rfl | rfl
    all_goals first | rfl
  st := by
    rintro w M cs x w' M' ⟨rfl, h0, h1, h2, h3⟩ e
    exact ⟨rfl, h0, h1, h2, h3⟩
theorem JJ_peek_GToken {C : Cx} {X : Act → World → Prop} {L : Env} {A : List SP} {c : Value} {xs : List GToken} (i m : Nat) (hA : A[m]? = some (sl c xs)) (hi : i < xs.length)
    (h : i64ok (xs.getD i default).Kind → ((xs.getD i default).Text).b.length ≤ 140737488355328 → i64ok (xs.getD i default).Line → i64ok (xs.getD i default).Col → JJ C X L (pv (eptr 4 c i) [.int .i64 (xs.getD i default).Kind, .string (bs (xs.getD i default).Text), .int .i64 (xs.getD i default).Line, .int .i64 (xs.getD i default).Col] :: A)) : JJ C X L A := by
  refine JJ_peek i m hA hi default fun cs => ?_
  intro a w M F st
  obtain ⟨F1, F2, q1, q2, qd, hp, F3, F4, q3, q4, qd2, hr, hs⟩ := st.sp
  obtain ⟨rfl, h0, h1, h2, h3⟩ := hr
  exact h h0 h1 h2 h3 a w M F ⟨st.step, st.sz, st.df, st.sat, F1, F2, q1, q2, qd, hp, sepAll_up hs q4⟩
instance rep_Gparser : Rep Gparser where
  sz := 3
  bytes := 40
  pos := by decide
  bpos := by decide
  rd w M cs x := ∃ c0, cs = [c0, .int .i64 x.at_, .int .i64 x.Err] ∧ slrd w M c0 x.l ∧ i64ok x.at_ ∧ i64ok x.Err
  len := by rintro w M cs x ⟨c0, rfl, h0, h1, h2⟩; rfl
  one := by
    rintro w M cs x ⟨c0, rfl, h0, h1, h2⟩ v hv
    simp only [List.mem_cons, List.not_mem_nil, or_false] at hv
    rcases hv with rfl | rfl | rfl
    all_goals first | rfl | exact slrd_one h0
  st := by
    rintro w M cs x w' M' ⟨c0, rfl, h0, h1, h2⟩ e
    exact ⟨c0, rfl, slrd_st h0 e, h1, h2⟩
theorem ofInt_ne (n : Int) (h : 1 ≤ n ∧ n ≤ 9223372036854775807) : BitVec.ofInt 64 n ≠ 0 := by
  intro e
  have := congrArg BitVec.toNat e
  rw [BitVec.toNat_ofInt] at this
  simp at this
  omega
theorem mod_range (v n : Int) (h : 1 ≤ n ∧ n ≤ 9223372036854775807) : 0 ≤ (((BitVec.ofInt 64 v) % (BitVec.ofInt 64 n)).toNat : Int) ∧ (((BitVec.ofInt 64 v) % (BitVec.ofInt 64 n)).toNat : Int) < n := by
  rw [BitVec.toNat_umod, BitVec.toNat_ofInt, BitVec.toNat_ofInt]
  have e : (n % ((2 ^ 64 : Nat) : Int)).toNat = n.toNat := by omega
  rw [e]
  have : (v % ((2 ^ 64 : Nat) : Int)).toNat % n.toNat < n.toNat := Nat.mod_lt _ (by omega)
  omega
theorem mod_le (v n : Int) (h : 1 ≤ n ∧ n ≤ 9223372036854775807) : (((BitVec.ofInt 64 v) % (BitVec.ofInt 64 n)).toNat : Int) ≤ 9223372036854775807 := by
  have := mod_range v n h; omega
def istrconv_small (i : Int) : Str :=
  bif decide (i < 10) then
    (tab0.sub i.toNat ((i + 1) : Int).toNat)
  else
    (tab1.sub ((i * 2) : Int).toNat (((i * 2) + 2) : Int).toNat)
def istrconv_FormatInt (i : Int) (base : Int) : Str :=
  let rv7 := (istrconv_small i)
  rv7
def istrconv_Itoa (i : Int) : Str :=
  let rv1 := (istrconv_FormatInt i 10)
  rv1
def strconv_Itoa (i : Int) : Str :=
  let rv1 := (istrconv_Itoa i)
  rv1
def lexer_letter (c : Int) : Bool :=
  bif decide (97 ≤ c) then
    bif decide (c ≤ 122) then
      true
    else
      bif decide (65 ≤ c) then
        decide (c ≤ 90)
      else
        false
  else
    bif decide (65 ≤ c) then
      decide (c ≤ 90)
    else
      false
def slices_Index_string_L0 (s : List Str) (v : Str) : Nat → Int → LR Unit Int
  | 0, v8 =>
    .brk ()
  | r + 1, v8 =>
    bif (v == (s.getD v8.toNat default)) then
      .ret v8
    else
      slices_Index_string_L0 s v r (v8 + 1)

def slices_Index_string (s : List Str) (v : Str) : Int :=
  match slices_Index_string_L0 s v (((s.length : Int) - 0).toNat) 0 with
  | .brk _ =>
    -1
  | .ret r => r
  | .oof => default
def slices_Contains_string (s : List Str) (v : Str) : Bool :=
  let rv1 := (slices_Index_string s v)
  decide (0 ≤ rv1)
def lexer_digit (c : Int) : Bool :=
  bif decide (48 ≤ c) then
    decide (c ≤ 57)
  else
    false
def lexer_part (c : Int) : Bool :=
  let rv1 := (lexer_letter c)
  bif rv1 then
    true
  else
    let rv7 := (lexer_digit c)
    bif rv7 then
      true
    else
      (c == 95)
def lexer_wordEnd_L0 (s : Str) : Nat → Int → Int
  | 0, i' =>
    i'
  | r + 1, i' =>
    let rv4 := (lexer_part ((s.b.getD i'.toNat 0).toNat : Int))
    bif rv4 then
      lexer_wordEnd_L0 s r (i' + 1)
    else
      i'

def lexer_wordEnd (s : Str) (i : Int) : Int :=
  match lexer_wordEnd_L0 s (((s.b.length : Int) - i).toNat) i with
  | o0_0 =>
    o0_0
def lexer_IsName (s : Str) : Bool :=
  bif (s == (Str.mk [])) then
    false
  else
    bif decide (16 < (s.b.length : Int)) then
      false
    else
      let rv8 := (lexer_letter ((s.b.getD (0 : Int).toNat 0).toNat : Int))
      bif (!rv8) then
        false
      else
        let rv18 := (slices_Contains_string kwL s)
        bif rv18 then
          false
        else
          let rv24 := (lexer_wordEnd s 0)
          (rv24 == (s.b.length : Int))
def slices_IndexFunc_Stmt_L0 (s : List GStmt) (fp : GStmt → Bool) : Nat → Int → LR Unit Int
  | 0, v8 =>
    .brk ()
  | r + 1, v8 =>
    bif (fp (s.getD v8.toNat default)) then
      .ret v8
    else
      slices_IndexFunc_Stmt_L0 s fp r (v8 + 1)

def slices_IndexFunc_Stmt (s : List GStmt) (fp : GStmt → Bool) : Int :=
  match slices_IndexFunc_Stmt_L0 s fp (((s.length : Int) - 0).toNat) 0 with
  | .brk _ =>
    -1
  | .ret r => r
  | .oof => default
def slices_ContainsFunc_Stmt (s : List GStmt) (fp : GStmt → Bool) : Bool :=
  let rv1 := (slices_IndexFunc_Stmt s fp)
  decide (0 ≤ rv1)
def slices_Clone_string (s : List Str) : List Str := s
def slices_IndexFunc_string_L0 (s : List Str) (fp : Str → Bool) : Nat → Int → LR Unit Int
  | 0, v8 =>
    .brk ()
  | r + 1, v8 =>
    bif (fp (s.getD v8.toNat default)) then
      .ret v8
    else
      slices_IndexFunc_string_L0 s fp r (v8 + 1)

def slices_IndexFunc_string (s : List Str) (fp : Str → Bool) : Int :=
  match slices_IndexFunc_string_L0 s fp (((s.length : Int) - 0).toNat) 0 with
  | .brk _ =>
    -1
  | .ret r => r
  | .oof => default
def slices_ContainsFunc_string (s : List Str) (fp : Str → Bool) : Bool :=
  let rv1 := (slices_IndexFunc_string s fp)
  decide (0 ≤ rv1)
def syntax_valid_1 (n : Str) : Bool :=
  let rv1 := (lexer_IsName n)
  (!rv1)
def syntax_valid (s : GStmt) : Bool :=
  bif (s.Op == 1) then
    let rv5 := (slices_Clone_string s.Uses)
    bif ((s.Uses.length : Int) == (s.Uses.length : Int)) then
      bif decide ((s.Uses.length : Int) ≤ 4) then
        bif ((s.Targets.length : Int) == 0) then
          let rv34 := (slices_ContainsFunc_string ((rv5 ++ s.Targets) ++ [s.Def]) (fun x => syntax_valid_1 x))
          (!rv34)
        else
          false
      else
        false
    else
      false
  else
    bif (s.Op == 2) then
      let rv44 := (slices_Clone_string s.Uses)
      bif (s.Def == (Str.mk [])) then
        bif ((s.Uses.length : Int) == (max (s.Uses.length : Int) 1)) then
          bif decide ((max (s.Uses.length : Int) 1) ≤ 4) then
            bif ((s.Targets.length : Int) == 0) then
              let rv66 := (slices_ContainsFunc_string (rv44 ++ s.Targets) (fun x => syntax_valid_1 x))
              (!rv66)
            else
              false
          else
            false
        else
          false
      else
        false
    else
      bif (s.Op == 5) then
        let rv77 := (slices_Clone_string s.Uses)
        bif (s.Def == (Str.mk [])) then
          bif ((s.Uses.length : Int) == 1) then
            bif ((s.Targets.length : Int) == 0) then
              let rv97 := (slices_ContainsFunc_string (rv77 ++ s.Targets) (fun x => syntax_valid_1 x))
              (!rv97)
            else
              false
          else
            false
        else
          false
      else
        bif (s.Op == 4) then
          let rv109 := (slices_Clone_string s.Uses)
          bif ((s.Uses.length : Int) == 0) then
            bif ((s.Targets.length : Int) == 0) then
              let rv136 := (slices_ContainsFunc_string ((rv109 ++ s.Targets) ++ [s.Def]) (fun x => syntax_valid_1 x))
              (!rv136)
            else
              false
          else
            false
        else
          bif (s.Op == 6) then
            let rv145 := (slices_Clone_string s.Uses)
            bif ((s.Uses.length : Int) == 0) then
              bif ((s.Targets.length : Int) == 0) then
                let rv172 := (slices_ContainsFunc_string ((rv145 ++ s.Targets) ++ [s.Def]) (fun x => syntax_valid_1 x))
                (!rv172)
              else
                false
            else
              false
          else
            bif (s.Op == 8) then
              let rv183 := (slices_Clone_string s.Uses)
              bif (s.Def == (Str.mk [])) then
                bif ((s.Uses.length : Int) == 1) then
                  bif ((s.Targets.length : Int) == ((0 + 1) + 1)) then
                    let rv203 := (slices_ContainsFunc_string (rv183 ++ s.Targets) (fun x => syntax_valid_1 x))
                    (!rv203)
                  else
                    false
                else
                  false
              else
                false
            else
              bif (s.Op == 3) then
                let rv217 := (slices_Clone_string s.Uses)
                bif (s.Def == (Str.mk [])) then
                  bif ((s.Uses.length : Int) == 0) then
                    bif ((s.Targets.length : Int) == (0 + 1)) then
                      let rv237 := (slices_ContainsFunc_string (rv217 ++ s.Targets) (fun x => syntax_valid_1 x))
                      (!rv237)
                    else
                      false
                  else
                    false
                else
                  false
              else
                bif (s.Op == 7) then
                  let rv249 := (slices_Clone_string s.Uses)
                  bif (s.Def == (Str.mk [])) then
                    bif ((s.Uses.length : Int) == 0) then
                      bif ((s.Targets.length : Int) == (0 + 1)) then
                        let rv269 := (slices_ContainsFunc_string (rv249 ++ s.Targets) (fun x => syntax_valid_1 x))
                        (!rv269)
                      else
                        false
                    else
                      false
                  else
                    false
                else
                  bif (s.Op == 9) then
                    let rv279 := (slices_Clone_string s.Uses)
                    bif (s.Def == (Str.mk [])) then
                      bif ((s.Uses.length : Int) == 0) then
                        bif ((s.Targets.length : Int) == 0) then
                          let rv299 := (slices_ContainsFunc_string (rv279 ++ s.Targets) (fun x => syntax_valid_1 x))
                          (!rv299)
                        else
                          false
                      else
                        false
                    else
                      false
                  else
                    false
def syntax_Valid_1 (s : GStmt) : Bool :=
  let rv2 := (syntax_valid s)
  (!rv2)
def syntax_Valid_L1  (v41 : List GBlock) : Nat → Int → LR Unit Bool
  | 0, v43 =>
    .brk ()
  | r + 1, v43 =>
    let rv38 := (lexer_IsName ((v41.getD v43.toNat default).Name))
    bif (!rv38) then
      .ret false
    else
      bif decide ((((v41.getD v43.toNat default).Stmts).length : Int) < 1) then
        .ret false
      else
        bif decide (32 < (((v41.getD v43.toNat default).Stmts).length : Int)) then
          .ret false
        else
          let rv54 := (slices_ContainsFunc_Stmt ((v41.getD v43.toNat default).Stmts) (fun x => syntax_Valid_1 x))
          bif rv54 then
            .ret false
          else
            syntax_Valid_L1 v41 r (v43 + 1)

def syntax_Valid_L0 (p : GProgram) : Nat → Int → LR Unit Bool
  | 0, v20 =>
    .brk ()
  | r + 1, v20 =>
    let rv15 := (lexer_IsName ((p.Funcs.getD v20.toNat default).Name))
    bif (!rv15) then
      .ret false
    else
      bif decide ((((p.Funcs.getD v20.toNat default).Blocks).length : Int) < 1) then
        .ret false
      else
        bif decide (16 < (((p.Funcs.getD v20.toNat default).Blocks).length : Int)) then
          .ret false
        else
          match syntax_Valid_L1 ((p.Funcs.getD v20.toNat default).Blocks) ((((((p.Funcs.getD v20.toNat default).Blocks).length : Int) : Int) - 0).toNat) 0 with
          | .brk _ =>
            syntax_Valid_L0 p r (v20 + 1)
          | .ret r => .ret r
          | .oof => .oof

def syntax_Valid (p : GProgram) : Bool :=
  bif decide ((p.Funcs.length : Int) < 1) then
    false
  else
    bif decide (8 < (p.Funcs.length : Int)) then
      false
    else
      match syntax_Valid_L0 p (((p.Funcs.length : Int) - 0).toNat) 0 with
      | .brk _ =>
        true
      | .ret r => r
      | .oof => default
def validate_duplicate_Func_L0 (l : List GFunc) (namep : GFunc → Str) : Nat → List (Str × Bool) → Int → Int → (List (Str × Bool)) × Int
  | 0, known, at_, v13 =>
    (known, at_)
  | r + 1, known, at_, v13 =>
    bif ((mget known (namep (l.getD v13.toNat default))).getD false) then
      bif decide (at_ < 0) then
        validate_duplicate_Func_L0 l namep r (mset known (namep (l.getD v13.toNat default)) true) v13 (v13 + 1)
      else
        validate_duplicate_Func_L0 l namep r (mset known (namep (l.getD v13.toNat default)) true) at_ (v13 + 1)
    else
      validate_duplicate_Func_L0 l namep r (mset known (namep (l.getD v13.toNat default)) true) at_ (v13 + 1)

def validate_duplicate_Func (l : List GFunc) (namep : GFunc → Str) : Int × (List (Str × Bool)) :=
  match validate_duplicate_Func_L0 l namep (((l.length : Int) - 0).toNat) [] (-1) 0 with
  | (o0_0, o0_1) =>
    (o0_1, o0_0)
def validate_Check_1 (f : GFunc) : Str :=
  f.Name
def validate_duplicate_Block_L0 (l : List GBlock) (namep : GBlock → Str) : Nat → List (Str × Bool) → Int → Int → (List (Str × Bool)) × Int
  | 0, known, at_, v13 =>
    (known, at_)
  | r + 1, known, at_, v13 =>
    bif ((mget known (namep (l.getD v13.toNat default))).getD false) then
      bif decide (at_ < 0) then
        validate_duplicate_Block_L0 l namep r (mset known (namep (l.getD v13.toNat default)) true) v13 (v13 + 1)
      else
        validate_duplicate_Block_L0 l namep r (mset known (namep (l.getD v13.toNat default)) true) at_ (v13 + 1)
    else
      validate_duplicate_Block_L0 l namep r (mset known (namep (l.getD v13.toNat default)) true) at_ (v13 + 1)

def validate_duplicate_Block (l : List GBlock) (namep : GBlock → Str) : Int × (List (Str × Bool)) :=
  match validate_duplicate_Block_L0 l namep (((l.length : Int) - 0).toNat) [] (-1) 0 with
  | (o0_0, o0_1) =>
    (o0_1, o0_0)
def validate_function_1 (b : GBlock) : Str :=
  b.Name
def validate_terminator (s : GStmt) : Bool :=
  bif (s.Op == 7) then
    true
  else
    bif (s.Op == 8) then
      true
    else
      (s.Op == 9)
def validate_statement_L0 (s : GStmt) (known : List (Str × Bool)) : Nat → Int → LR Unit Int
  | 0, v16 =>
    .brk ()
  | r + 1, v16 =>
    bif (!((mget known (s.Targets.getD v16.toNat default)).getD false)) then
      .ret 5
    else
      validate_statement_L0 s known r (v16 + 1)

def validate_statement (s : GStmt) (last : Bool) (known : List (Str × Bool)) : Int :=
  let rv2 := (validate_terminator s)
  bif (!(rv2 == last)) then
    4
  else
    match validate_statement_L0 s known (((s.Targets.length : Int) - 0).toNat) 0 with
    | .brk _ =>
      0
    | .ret r => r
    | .oof => default
def validate_function_L1 (i : Int) (funcs : List (Str × Bool)) (blocks : List (Str × Bool)) (k : Int) (b1 : List GStmt) (v36 : List GStmt) : Nat → Int → LR Unit (GNode × Int)
  | 0, v38 =>
    .brk ()
  | r + 1, v38 =>
    bif ((v36.getD v38.toNat default).Op == 3) then
      let rv34 := (validate_statement (v36.getD v38.toNat default) (v38 == ((b1.length : Int) - 1)) funcs)
      bif (rv34 != 0) then
        .ret ((GNode.mk 3 i k v38), rv34)
      else
        validate_function_L1 i funcs blocks k b1 v36 r (v38 + 1)
    else
      let rv42 := (validate_statement (v36.getD v38.toNat default) (v38 == ((b1.length : Int) - 1)) blocks)
      bif (rv42 != 0) then
        .ret ((GNode.mk 3 i k v38), rv42)
      else
        validate_function_L1 i funcs blocks k b1 v36 r (v38 + 1)

def validate_function_L0 (f : GFunc) (i : Int) (funcs : List (Str × Bool)) (blocks : List (Str × Bool)) : Nat → Int → LR Unit (GNode × Int)
  | 0, v30 =>
    .brk ()
  | r + 1, v30 =>
    match validate_function_L1 i funcs blocks v30 ((f.Blocks.getD v30.toNat default).Stmts) ((f.Blocks.getD v30.toNat default).Stmts) ((((((f.Blocks.getD v30.toNat default).Stmts).length : Int) : Int) - 0).toNat) 0 with
    | .brk _ =>
      validate_function_L0 f i funcs blocks r (v30 + 1)
    | .ret r => .ret r
    | .oof => .oof

def validate_function (f : GFunc) (i : Int) (funcs : List (Str × Bool)) : GNode × Int :=
  let rv4 := (validate_duplicate_Block f.Blocks (fun x0 => validate_function_1 x0))
  bif decide (0 ≤ rv4.1) then
    ((GNode.mk 3 i rv4.1 (-1)), 6)
  else
    match validate_function_L0 f i funcs rv4.2 (((f.Blocks.length : Int) - 0).toNat) 0 with
    | .brk _ =>
      ((GNode.mk 0 0 0 0), 0)
    | .ret r => r
    | .oof => default
def validate_Sizes_1 (s : GStmt) (cap0 : Int) (cap1 : Int) : Int × Int :=
  bif (s.Op == 3) then
    (((cap0 + 1) + 1), (cap1 + 3))
  else
    bif (s.Op == 8) then
      ((cap0 + 1), (cap1 + 2))
    else
      ((cap0 + 1), (cap1 + 1))
def validate_each_Sizes_1_L2  (v28 : List GStmt) : Nat → Int → Int → Int → Int × Int
  | 0, st00, st10, v30 =>
    (st00, st10)
  | r + 1, st00, st10, v30 =>
    let rv39 := (validate_Sizes_1 (v28.getD v30.toNat default) st00 st10)
    validate_each_Sizes_1_L2 v28 r rv39.1 rv39.2 (v30 + 1)

def validate_each_Sizes_1_L1  (v21 : List GBlock) : Nat → Int → Int → Int → Int × Int
  | 0, st00, st10, v23 =>
    (st00, st10)
  | r + 1, st00, st10, v23 =>
    match validate_each_Sizes_1_L2 ((v21.getD v23.toNat default).Stmts) ((((((v21.getD v23.toNat default).Stmts).length : Int) : Int) - 0).toNat) st00 st10 0 with
    | (o2_0, o2_1) =>
      validate_each_Sizes_1_L1 v21 r o2_0 o2_1 (v23 + 1)

def validate_each_Sizes_1_L0 (p : GProgram) : Nat → Int → Int → Int → Int × Int
  | 0, st00, st10, v16 =>
    (st00, st10)
  | r + 1, st00, st10, v16 =>
    match validate_each_Sizes_1_L1 ((p.Funcs.getD v16.toNat default).Blocks) ((((((p.Funcs.getD v16.toNat default).Blocks).length : Int) : Int) - 0).toNat) st00 st10 0 with
    | (o1_0, o1_1) =>
      validate_each_Sizes_1_L0 p r o1_0 o1_1 (v16 + 1)

def validate_each_Sizes_1 (p : GProgram) (st0 : Int) (st1 : Int) : Int × Int :=
  let rv2 := (syntax_Valid p)
  bif (!rv2) then
    (st0, st1)
  else
    match validate_each_Sizes_1_L0 p (((p.Funcs.length : Int) - 0).toNat) st0 st1 0 with
    | (o0_0, o0_1) =>
      (o0_0, o0_1)
def validate_Sizes (p : GProgram) : Int × Int :=
  let rv2 := (syntax_Valid p)
  bif (!rv2) then
    (0, 0)
  else
    let rv14 := (validate_each_Sizes_1 p (2 * (p.Funcs.length : Int)) (p.Funcs.length : Int))
    (rv14.1, rv14.2)
def validate_Variables_1 (n : Str) (cap0 : List (Str × Bool)) (cap1 : List Str) : (List (Str × Bool)) × List Str :=
  bif (n != (Str.mk [])) then
    bif (!((mget cap0 n).getD false)) then
      ((mset cap0 n true), (cap1 ++ [n]))
    else
      (cap0, cap1)
  else
    (cap0, cap1)
def validate_Variables_2_Variables_1_L0 (s : GStmt) : Nat → List (Str × Bool) → List Str → Int → (List (Str × Bool)) × List Str
  | 0, st00, st10, v12 =>
    (st00, st10)
  | r + 1, st00, st10, v12 =>
    let rv17 := (validate_Variables_1 (s.Uses.getD v12.toNat default) st00 st10)
    validate_Variables_2_Variables_1_L0 s r rv17.1 rv17.2 (v12 + 1)

def validate_Variables_2_Variables_1 (s : GStmt) (st0 : List (Str × Bool)) (st1 : List Str) : (List (Str × Bool)) × List Str :=
  let rv3 := (validate_Variables_1 s.Def st0 st1)
  match validate_Variables_2_Variables_1_L0 s (((s.Uses.length : Int) - 0).toNat) rv3.1 rv3.2 0 with
  | (o0_0, o0_1) =>
    (o0_0, o0_1)
def validate_each_Variables_2_L2  (v28 : List GStmt) : Nat → List (Str × Bool) → List Str → Int → (List (Str × Bool)) × List Str
  | 0, st10, st20, v30 =>
    (st10, st20)
  | r + 1, st10, st20, v30 =>
    let rv40 := (validate_Variables_2_Variables_1 (v28.getD v30.toNat default) st10 st20)
    validate_each_Variables_2_L2 v28 r rv40.1 rv40.2 (v30 + 1)

def validate_each_Variables_2_L1  (v21 : List GBlock) : Nat → List (Str × Bool) → List Str → Int → (List (Str × Bool)) × List Str
  | 0, st10, st20, v23 =>
    (st10, st20)
  | r + 1, st10, st20, v23 =>
    match validate_each_Variables_2_L2 ((v21.getD v23.toNat default).Stmts) ((((((v21.getD v23.toNat default).Stmts).length : Int) : Int) - 0).toNat) st10 st20 0 with
    | (o2_0, o2_1) =>
      validate_each_Variables_2_L1 v21 r o2_0 o2_1 (v23 + 1)

def validate_each_Variables_2_L0 (p : GProgram) : Nat → List (Str × Bool) → List Str → Int → (List (Str × Bool)) × List Str
  | 0, st10, st20, v16 =>
    (st10, st20)
  | r + 1, st10, st20, v16 =>
    match validate_each_Variables_2_L1 ((p.Funcs.getD v16.toNat default).Blocks) ((((((p.Funcs.getD v16.toNat default).Blocks).length : Int) : Int) - 0).toNat) st10 st20 0 with
    | (o1_0, o1_1) =>
      validate_each_Variables_2_L0 p r o1_0 o1_1 (v16 + 1)

def validate_each_Variables_2 (p : GProgram) (st1 : List (Str × Bool)) (st2 : List Str) : (List (Str × Bool)) × List Str :=
  let rv2 := (syntax_Valid p)
  bif (!rv2) then
    (st1, st2)
  else
    match validate_each_Variables_2_L0 p (((p.Funcs.length : Int) - 0).toNat) st1 st2 0 with
    | (o0_0, o0_1) =>
      (o0_0, o0_1)
def validate_Variables (p : GProgram) : List Str :=
  let rv8 := (validate_each_Variables_2 p [] [])
  rv8.2
def validate_Check_L0 (p : GProgram) (funcs : List (Str × Bool)) : Nat → Int → LR Unit (GNode × Int)
  | 0, v29 =>
    .brk ()
  | r + 1, v29 =>
    let rv29 := (validate_function (p.Funcs.getD v29.toNat default) v29 funcs)
    bif (rv29.2 != 0) then
      .ret (rv29.1, rv29.2)
    else
      validate_Check_L0 p funcs r (v29 + 1)

def validate_Check (p : GProgram) : GNode × Int :=
  let rv3 := (syntax_Valid p)
  bif (!rv3) then
    ((GNode.mk 0 0 0 0), 1)
  else
    let rv14 := (validate_duplicate_Func p.Funcs (fun x0 => validate_Check_1 x0))
    bif decide (0 ≤ rv14.1) then
      ((GNode.mk 1 rv14.1 (-1) (-1)), 6)
    else
      match validate_Check_L0 p rv14.2 (((p.Funcs.length : Int) - 0).toNat) 0 with
      | .brk _ =>
        let rv22 := (validate_Sizes p)
        let rv29 := (validate_Variables p)
        bif decide (64 < (rv29.length : Int)) then
          ((GNode.mk 0 0 0 0), 7)
        else
          bif decide (256 < rv22.1) then
            ((GNode.mk 0 0 0 0), 7)
          else
            bif decide (1024 < rv22.2) then
              ((GNode.mk 0 0 0 0), 7)
            else
              ((GNode.mk 0 0 0 0), 0)
      | .ret r => r
      | .oof => default
def nodes_List_L2  (i : Int) (k : Int) (v41 : List GStmt) : Nat → List GNode → Int → List GNode
  | 0, out, v43 =>
    out
  | r + 1, out, v43 =>
    bif ((v41.getD v43.toNat default).Op == 3) then
      nodes_List_L2 i k v41 r ((out ++ [(GNode.mk 3 i k v43)]) ++ [(GNode.mk 4 i k v43)]) (v43 + 1)
    else
      nodes_List_L2 i k v41 r (out ++ [(GNode.mk 3 i k v43)]) (v43 + 1)

def nodes_List_L1  (i : Int) (v33 : List GBlock) : Nat → List GNode → Int → List GNode
  | 0, out, v35 =>
    out
  | r + 1, out, v35 =>
    match nodes_List_L2 i v35 ((v33.getD v35.toNat default).Stmts) ((((((v33.getD v35.toNat default).Stmts).length : Int) : Int) - 0).toNat) out 0 with
    | o2_0 =>
      nodes_List_L1 i v33 r o2_0 (v35 + 1)

def nodes_List_L0 (p : GProgram) : Nat → List GNode → Int → List GNode
  | 0, out, v22 =>
    out
  | r + 1, out, v22 =>
    match nodes_List_L1 v22 ((p.Funcs.getD v22.toNat default).Blocks) ((((((p.Funcs.getD v22.toNat default).Blocks).length : Int) : Int) - 0).toNat) (out ++ [(GNode.mk 1 v22 (-1) (-1))]) 0 with
    | o1_0 =>
      nodes_List_L0 p r (o1_0 ++ [(GNode.mk 2 v22 (-1) (-1))]) (v22 + 1)

def nodes_List (p : GProgram) : List GNode :=
  let rv2 := (validate_Check p)
  bif (rv2.2 != 0) then
    []
  else
    match nodes_List_L0 p (((p.Funcs.length : Int) - 0).toNat) [] 0 with
    | o0_0 =>
      o0_0
def nodes_Find_L0 (n : GNode) (v8 : List GNode) : Nat → Int → LR Unit Int
  | 0, v10 =>
    .brk ()
  | r + 1, v10 =>
    bif ([(v8.getD v10.toNat default).Kind, (v8.getD v10.toNat default).Func, (v8.getD v10.toNat default).Block, (v8.getD v10.toNat default).Stmt] == [n.Kind, n.Func, n.Block, n.Stmt]) then
      .ret v10
    else
      nodes_Find_L0 n v8 r (v10 + 1)

def nodes_Find (p : GProgram) (n : GNode) : Int :=
  let rv4 := (nodes_List p)
  match nodes_Find_L0 n rv4 (((rv4.length : Int) - 0).toNat) 0 with
  | .brk _ =>
    -1
  | .ret r => r
  | .oof => default
def nodes_Label (p : GProgram) (n : GNode) : Str :=
  let rv3 := (nodes_Find p n)
  bif decide (rv3 < 0) then
    (Str.mk [])
  else
    bif (n.Kind == 1) then
      ((p.Funcs.getD n.Func.toNat default).Name ++ (Str.mk [46, 101, 110, 116, 114, 121]))
    else
      bif (n.Kind == 2) then
        ((p.Funcs.getD n.Func.toNat default).Name ++ (Str.mk [46, 101, 120, 105, 116]))
      else
        let rv35 := (strconv_Itoa n.Stmt)
        bif (n.Kind == 4) then
          ((((((p.Funcs.getD n.Func.toNat default).Name ++ (Str.mk [46])) ++ (((p.Funcs.getD n.Func.toNat default).Blocks).getD n.Block.toNat default).Name) ++ (Str.mk [46])) ++ rv35) ++ (Str.mk [43]))
        else
          (((((p.Funcs.getD n.Func.toNat default).Name ++ (Str.mk [46])) ++ (((p.Funcs.getD n.Func.toNat default).Blocks).getD n.Block.toNat default).Name) ++ (Str.mk [46])) ++ rv35)
def flqref4_letter (c : Int) : Bool :=
  bif decide (97 ≤ c) then
    bif decide (c ≤ 122) then
      true
    else
      bif decide (65 ≤ c) then
        bif decide (c ≤ 90) then
          true
        else
          (c == 95)
      else
        (c == 95)
  else
    bif decide (65 ≤ c) then
      bif decide (c ≤ 90) then
        true
      else
        (c == 95)
    else
      (c == 95)
def flqref4_digit (c : Int) : Bool :=
  bif decide (48 ≤ c) then
    decide (c ≤ 57)
  else
    false
def flqref4_Scan_L1 (text : Str) (c : Int) : Nat → Int → Int → LR (Int × Int) (List GToken × Int × Int × Int)
  | 0, col, i =>
    .oof
  | r + 1, col, i =>
    bif (c == 35) then
      bif decide (i < (text.b.length : Int)) then
        bif (((text.b.getD i.toNat 0).toNat : Int) != 10) then
          flqref4_Scan_L1 text c r (col + 1) (i + 1)
        else
          .brk (col, i)
      else
        .brk (col, i)
    else
      .brk (col, i)

def flqref4_Scan_L2 (text : Str) (i : Int) : Nat → Int → LR Int (List GToken × Int × Int × Int)
  | 0, n =>
    .oof
  | r + 1, n =>
    bif decide ((i + n) < (text.b.length : Int)) then
      let rv172 := (flqref4_letter ((text.b.getD ((i + n) : Int).toNat 0).toNat : Int))
      bif rv172 then
        flqref4_Scan_L2 text i r (n + 1)
      else
        let rv179 := (flqref4_digit ((text.b.getD ((i + n) : Int).toNat 0).toNat : Int))
        bif rv179 then
          flqref4_Scan_L2 text i r (n + 1)
        else
          .brk n
    else
      .brk n

def flqref4_Scan_L0 (text : Str) : Nat → List GToken → Int → Int → Bool → Int → LR (List GToken × Int × Int × Bool) (List GToken × Int × Int × Int)
  | 0, out, line, col, open_, i =>
    .oof
  | r + 1, out, line, col, open_, i =>
    bif decide (i < (text.b.length : Int)) then
      bif (((text.b.getD i.toNat 0).toNat : Int) == 32) then
        flqref4_Scan_L0 text r out line (col + 1) open_ (i + 1)
      else
        bif (((text.b.getD i.toNat 0).toNat : Int) == 9) then
          flqref4_Scan_L0 text r out line (col + 1) open_ (i + 1)
        else
          bif (((text.b.getD i.toNat 0).toNat : Int) == 10) then
            bif open_ then
              match flqref4_Scan_L1 text ((text.b.getD i.toNat 0).toNat : Int) (text.b.length + 1) col i with
              | .brk (o1_0, o1_1) =>
                bif (((text.b.getD i.toNat 0).toNat : Int) == 59) then
                  bif decide ((o1_1 + 1) < (text.b.length : Int)) then
                    bif (((text.b.getD ((o1_1 + 1) : Int).toNat 0).toNat : Int) == 10) then
                      flqref4_Scan_L0 text r (out ++ [(GToken.mk 3 (Str.mk []) line col)]) line (o1_0 + 1) false (o1_1 + 1)
                    else
                      flqref4_Scan_L0 text r (out ++ [(GToken.mk 3 (Str.mk []) line col)]) line (o1_0 + 1) false (o1_1 + 1)
                  else
                    flqref4_Scan_L0 text r (out ++ [(GToken.mk 3 (Str.mk []) line col)]) line (o1_0 + 1) false (o1_1 + 1)
                else
                  bif decide (o1_1 < (text.b.length : Int)) then
                    bif (((text.b.getD o1_1.toNat 0).toNat : Int) == 10) then
                      flqref4_Scan_L0 text r (out ++ [(GToken.mk 3 (Str.mk []) line col)]) (line + 1) 1 false (o1_1 + 1)
                    else
                      flqref4_Scan_L0 text r (out ++ [(GToken.mk 3 (Str.mk []) line col)]) line o1_0 false o1_1
                  else
                    flqref4_Scan_L0 text r (out ++ [(GToken.mk 3 (Str.mk []) line col)]) line o1_0 false o1_1
              | .ret _ => .oof
              | .oof => .oof
            else
              match flqref4_Scan_L1 text ((text.b.getD i.toNat 0).toNat : Int) (text.b.length + 1) col i with
              | .brk (o1_0, o1_1) =>
                bif (((text.b.getD i.toNat 0).toNat : Int) == 59) then
                  bif decide ((o1_1 + 1) < (text.b.length : Int)) then
                    bif (((text.b.getD ((o1_1 + 1) : Int).toNat 0).toNat : Int) == 10) then
                      flqref4_Scan_L0 text r out line (o1_0 + 1) false (o1_1 + 1)
                    else
                      flqref4_Scan_L0 text r out line (o1_0 + 1) false (o1_1 + 1)
                  else
                    flqref4_Scan_L0 text r out line (o1_0 + 1) false (o1_1 + 1)
                else
                  bif decide (o1_1 < (text.b.length : Int)) then
                    bif (((text.b.getD o1_1.toNat 0).toNat : Int) == 10) then
                      flqref4_Scan_L0 text r out (line + 1) 1 false (o1_1 + 1)
                    else
                      flqref4_Scan_L0 text r out line o1_0 false o1_1
                  else
                    flqref4_Scan_L0 text r out line o1_0 false o1_1
              | .ret _ => .oof
              | .oof => .oof
          else
            bif (((text.b.getD i.toNat 0).toNat : Int) == 59) then
              bif open_ then
                match flqref4_Scan_L1 text ((text.b.getD i.toNat 0).toNat : Int) (text.b.length + 1) col i with
                | .brk (o1_0, o1_1) =>
                  bif decide ((o1_1 + 1) < (text.b.length : Int)) then
                    bif (((text.b.getD ((o1_1 + 1) : Int).toNat 0).toNat : Int) == 10) then
                      flqref4_Scan_L0 text r (out ++ [(GToken.mk 3 (Str.mk []) line col)]) line (o1_0 + 1) false (o1_1 + 1)
                    else
                      flqref4_Scan_L0 text r (out ++ [(GToken.mk 3 (Str.mk []) line col)]) line (o1_0 + 1) false (o1_1 + 1)
                  else
                    flqref4_Scan_L0 text r (out ++ [(GToken.mk 3 (Str.mk []) line col)]) line (o1_0 + 1) false (o1_1 + 1)
                | .ret _ => .oof
                | .oof => .oof
              else
                match flqref4_Scan_L1 text ((text.b.getD i.toNat 0).toNat : Int) (text.b.length + 1) col i with
                | .brk (o1_0, o1_1) =>
                  bif decide ((o1_1 + 1) < (text.b.length : Int)) then
                    bif (((text.b.getD ((o1_1 + 1) : Int).toNat 0).toNat : Int) == 10) then
                      flqref4_Scan_L0 text r out line (o1_0 + 1) false (o1_1 + 1)
                    else
                      flqref4_Scan_L0 text r out line (o1_0 + 1) false (o1_1 + 1)
                  else
                    flqref4_Scan_L0 text r out line (o1_0 + 1) false (o1_1 + 1)
                | .ret _ => .oof
                | .oof => .oof
            else
              bif (((text.b.getD i.toNat 0).toNat : Int) == 35) then
                bif open_ then
                  match flqref4_Scan_L1 text ((text.b.getD i.toNat 0).toNat : Int) (text.b.length + 1) col i with
                  | .brk (o1_0, o1_1) =>
                    bif decide (o1_1 < (text.b.length : Int)) then
                      bif (((text.b.getD o1_1.toNat 0).toNat : Int) == 10) then
                        flqref4_Scan_L0 text r (out ++ [(GToken.mk 3 (Str.mk []) line col)]) (line + 1) 1 false (o1_1 + 1)
                      else
                        flqref4_Scan_L0 text r (out ++ [(GToken.mk 3 (Str.mk []) line col)]) line o1_0 false o1_1
                    else
                      flqref4_Scan_L0 text r (out ++ [(GToken.mk 3 (Str.mk []) line col)]) line o1_0 false o1_1
                  | .ret _ => .oof
                  | .oof => .oof
                else
                  match flqref4_Scan_L1 text ((text.b.getD i.toNat 0).toNat : Int) (text.b.length + 1) col i with
                  | .brk (o1_0, o1_1) =>
                    bif decide (o1_1 < (text.b.length : Int)) then
                      bif (((text.b.getD o1_1.toNat 0).toNat : Int) == 10) then
                        flqref4_Scan_L0 text r out (line + 1) 1 false (o1_1 + 1)
                      else
                        flqref4_Scan_L0 text r out line o1_0 false o1_1
                    else
                      flqref4_Scan_L0 text r out line o1_0 false o1_1
                  | .ret _ => .oof
                  | .oof => .oof
              else
                bif (((text.b.getD i.toNat 0).toNat : Int) == 61) then
                  flqref4_Scan_L0 text r (out ++ [(GToken.mk 2 (Str.mk [61]) line col)]) line (col + 1) true (i + 1)
                else
                  let rv164 := (flqref4_letter ((text.b.getD i.toNat 0).toNat : Int))
                  bif rv164 then
                    match flqref4_Scan_L2 text i (text.b.length + 1) 0 with
                    | .brk o2_0 =>
                      let rv170 := (flqref4_digit ((text.b.getD i.toNat 0).toNat : Int))
                      bif rv170 then
                        .ret ([], line, col, 4)
                      else
                        bif decide (16 < o2_0) then
                          .ret ([], line, col, 7)
                        else
                          flqref4_Scan_L0 text r (out ++ [(GToken.mk 1 (text.sub i.toNat ((i + o2_0) : Int).toNat) line col)]) line (col + o2_0) true (i + o2_0)
                    | .ret _ => .oof
                    | .oof => .oof
                  else
                    let rv189 := (flqref4_digit ((text.b.getD i.toNat 0).toNat : Int))
                    bif rv189 then
                      match flqref4_Scan_L2 text i (text.b.length + 1) 0 with
                      | .brk o2_0 =>
                        .ret ([], line, col, 4)
                      | .ret _ => .oof
                      | .oof => .oof
                    else
                      .ret ([], line, col, 4)
    else
      .brk (out, line, col, open_)

def flqref4_Scan (text : Str) : List GToken × Int × Int × Int :=
  bif decide (4096 < (text.b.length : Int)) then
    ([], 0, 0, 7)
  else
    match flqref4_Scan_L0 text (text.b.length + 1) [] 1 1 false 0 with
    | .brk (o0_0, o0_1, o0_2, o0_3) =>
      bif o0_3 then
        ((o0_0 ++ [(GToken.mk 3 (Str.mk []) o0_1 o0_2)]), 0, 0, 0)
      else
        (o0_0, 0, 0, 0)
    | .ret r => r
    | .oof => default
def parser_is (p : Gparser) (word : Str) : Bool :=
  bif (p.Err == 0) then
    bif decide (p.at_ < (p.l.length : Int)) then
      bif ((p.l.getD p.at_.toNat default).Kind == 1) then
        ((p.l.getD p.at_.toNat default).Text == word)
      else
        false
    else
      false
  else
    false
def parser_fail (p : Gparser) (e : Int) : Gparser :=
  bif (p.Err == 0) then
    (Gparser.mk p.l p.at_ e)
  else
    p
def parser_word (p : Gparser) (w : Str) : Gparser :=
  let rv1 := (parser_is p w)
  bif (!rv1) then
    let rv8 := (parser_fail p 4)
    (Gparser.mk p.l rv8.at_ rv8.Err)
  else
    (Gparser.mk p.l (p.at_ + 1) p.Err)
def flqref4_Keywords  : List Str :=
  [(Str.mk [102, 117, 110, 99]), (Str.mk [98, 108, 111, 99, 107]), (Str.mk [101, 110, 100]), (Str.mk [117, 115, 101]), (Str.mk [99, 97, 108, 108]), (Str.mk [115, 111, 117, 114, 99, 101]), (Str.mk [115, 105, 110, 107]), (Str.mk [115, 97, 110, 105, 116, 105, 122, 101]), (Str.mk [103, 111, 116, 111]), (Str.mk [98, 114, 97, 110, 99, 104]), (Str.mk [114, 101, 116, 117, 114, 110])]
def flqref4_IsName_L0 (s : Str) : Nat → Int → LR Unit Bool
  | 0, i =>
    .brk ()
  | r + 1, i =>
    let rv25 := (flqref4_letter ((s.b.getD i.toNat 0).toNat : Int))
    bif (!rv25) then
      let rv33 := (flqref4_digit ((s.b.getD i.toNat 0).toNat : Int))
      bif (!rv33) then
        .ret false
      else
        flqref4_IsName_L0 s r (i + 1)
    else
      flqref4_IsName_L0 s r (i + 1)

def flqref4_IsName_L1 (s : Str) : Nat → Int → LR Unit Bool
  | 0, i =>
    .brk ()
  | r + 1, i =>
    bif ((flqref4_Keywords.getD i.toNat default) == s) then
      .ret false
    else
      flqref4_IsName_L1 s r (i + 1)

def flqref4_IsName (s : Str) : Bool :=
  bif ((s.b.length : Int) == 0) then
    false
  else
    bif decide (16 < (s.b.length : Int)) then
      false
    else
      let rv8 := (flqref4_letter ((s.b.getD (0 : Int).toNat 0).toNat : Int))
      bif (!rv8) then
        false
      else
        bif (((s.b.getD (0 : Int).toNat 0).toNat : Int) == 95) then
          false
        else
          match flqref4_IsName_L0 s (((s.b.length : Int) - 0).toNat) 0 with
          | .brk _ =>
            match flqref4_IsName_L1 s (((flqref4_Keywords.length : Int) - 0).toNat) 0 with
            | .brk _ =>
              true
            | .ret r => r
            | .oof => default
          | .ret r => r
          | .oof => default
def parser_isName (p : Gparser) : Bool :=
  bif (p.Err == 0) then
    bif decide (p.at_ < (p.l.length : Int)) then
      bif ((p.l.getD p.at_.toNat default).Kind == 1) then
        let rv11 := (flqref4_IsName ((p.l.getD p.at_.toNat default).Text))
        rv11
      else
        false
    else
      false
  else
    false
def parser_name (p : Gparser) : Str × Gparser :=
  let rv1 := (parser_isName p)
  bif (!rv1) then
    let rv8 := (parser_fail p 4)
    ((Str.mk []), (Gparser.mk p.l rv8.at_ rv8.Err))
  else
    ((p.l.getD (((p.at_ + 1) - 1) : Int).toNat default).Text, (Gparser.mk p.l (p.at_ + 1) p.Err))
def parser_isKind (p : Gparser) (k : Int) : Bool :=
  bif (p.Err == 0) then
    bif decide (p.at_ < (p.l.length : Int)) then
      ((p.l.getD p.at_.toNat default).Kind == k)
    else
      false
  else
    false
def parser_end (p : Gparser) : Gparser :=
  let rv1 := (parser_isKind p 3)
  bif (!rv1) then
    let rv8 := (parser_fail p 4)
    (Gparser.mk p.l rv8.at_ rv8.Err)
  else
    (Gparser.mk p.l (p.at_ + 1) p.Err)
def parser_begins_L0 (p : Gparser) : Nat → Int → LR Unit Bool
  | 0, i =>
    .brk ()
  | r + 1, i =>
    let rv11 := (parser_is p ([(Str.mk [117, 115, 101]), (Str.mk [99, 97, 108, 108]), (Str.mk [115, 111, 117, 114, 99, 101]), (Str.mk [115, 105, 110, 107]), (Str.mk [115, 97, 110, 105, 116, 105, 122, 101]), (Str.mk [103, 111, 116, 111]), (Str.mk [98, 114, 97, 110, 99, 104]), (Str.mk [114, 101, 116, 117, 114, 110])].getD i.toNat default))
    bif rv11 then
      .ret true
    else
      parser_begins_L0 p r (i + 1)

def parser_begins (p : Gparser) : Bool :=
  match parser_begins_L0 p (((((8 : Nat) : Int) : Int) - 0).toNat) 0 with
  | .brk _ =>
    let rv6 := (parser_isName p)
    rv6
  | .ret r => r
  | .oof => default
def parser_more_L0 (p : Gparser) (have_ : Int) : Nat → Int → Int → List Str → LR (Int × Int × List Str) (List Str × Gparser)
  | 0, p1, p2, out =>
    .oof
  | r + 1, p1, p2, out =>
    let rv1 := (parser_isName (Gparser.mk p.l p1 p2))
    bif rv1 then
      bif ((have_ + (out.length : Int)) == 4) then
        let rv8 := (parser_fail (Gparser.mk p.l p1 p2) 7)
        .ret ([], (Gparser.mk p.l rv8.at_ rv8.Err))
      else
        let rv15 := (parser_name (Gparser.mk p.l p1 p2))
        parser_more_L0 p have_ r rv15.2.at_ rv15.2.Err (out ++ [rv15.1])
    else
      .brk (p1, p2, out)

def parser_more (p : Gparser) (have_ : Int) : List Str × Gparser :=
  match parser_more_L0 p have_ (p.l.length + 1) p.at_ p.Err [] with
  | .brk (o0_0, o0_1, o0_2) =>
    (o0_2, (Gparser.mk p.l o0_0 o0_1))
  | .ret r => r
  | .oof => default
def parser_names_L0 (p : Gparser) : Nat → Int → Int → List Str → LR (Int × Int × List Str) (List Str × Gparser)
  | 0, p1, p2, out =>
    .oof
  | r + 1, p1, p2, out =>
    let rv1 := (parser_isName (Gparser.mk p.l p1 p2))
    bif rv1 then
      bif ((out.length : Int) == 4) then
        let rv8 := (parser_fail (Gparser.mk p.l p1 p2) 7)
        .ret ([], (Gparser.mk p.l rv8.at_ rv8.Err))
      else
        let rv15 := (parser_name (Gparser.mk p.l p1 p2))
        parser_names_L0 p r rv15.2.at_ rv15.2.Err (out ++ [rv15.1])
    else
      .brk (p1, p2, out)

def parser_names (p : Gparser) : List Str × Gparser :=
  match parser_names_L0 p (p.l.length + 1) p.at_ p.Err [] with
  | .brk (o0_0, o0_1, o0_2) =>
    (o0_2, (Gparser.mk p.l o0_0 o0_1))
  | .ret r => r
  | .oof => default
def parser_stmt (p : Gparser) : GStmt × Gparser :=
  let rv3 := (parser_isName p)
  bif (!rv3) then
    bif ((p.l.getD p.at_.toNat default).Text == (Str.mk [117, 115, 101])) then
      let rv16 := (parser_name (Gparser.mk p.l (p.at_ + 1) p.Err))
      let rv27 := (parser_more (Gparser.mk p.l rv16.2.at_ rv16.2.Err) 1)
      let rv44 := (parser_end (Gparser.mk p.l rv27.2.at_ rv27.2.Err))
      ((GStmt.mk 2 (Str.mk []) ([rv16.1] ++ rv27.1) []), (Gparser.mk p.l rv44.at_ rv44.Err))
    else
      bif ((p.l.getD p.at_.toNat default).Text == (Str.mk [99, 97, 108, 108])) then
        let rv53 := (parser_name (Gparser.mk p.l (p.at_ + 1) p.Err))
        let rv63 := (parser_end (Gparser.mk p.l rv53.2.at_ rv53.2.Err))
        ((GStmt.mk 3 (Str.mk []) [] [rv53.1]), (Gparser.mk p.l rv63.at_ rv63.Err))
      else
        bif ((p.l.getD p.at_.toNat default).Text == (Str.mk [115, 111, 117, 114, 99, 101])) then
          let rv72 := (parser_name (Gparser.mk p.l (p.at_ + 1) p.Err))
          let rv79 := (parser_end (Gparser.mk p.l rv72.2.at_ rv72.2.Err))
          ((GStmt.mk 4 rv72.1 [] []), (Gparser.mk p.l rv79.at_ rv79.Err))
        else
          bif ((p.l.getD p.at_.toNat default).Text == (Str.mk [115, 105, 110, 107])) then
            let rv88 := (parser_name (Gparser.mk p.l (p.at_ + 1) p.Err))
            let rv98 := (parser_end (Gparser.mk p.l rv88.2.at_ rv88.2.Err))
            ((GStmt.mk 5 (Str.mk []) [rv88.1] []), (Gparser.mk p.l rv98.at_ rv98.Err))
          else
            bif ((p.l.getD p.at_.toNat default).Text == (Str.mk [115, 97, 110, 105, 116, 105, 122, 101])) then
              let rv107 := (parser_name (Gparser.mk p.l (p.at_ + 1) p.Err))
              let rv114 := (parser_end (Gparser.mk p.l rv107.2.at_ rv107.2.Err))
              ((GStmt.mk 6 rv107.1 [] []), (Gparser.mk p.l rv114.at_ rv114.Err))
            else
              bif ((p.l.getD p.at_.toNat default).Text == (Str.mk [103, 111, 116, 111])) then
                let rv123 := (parser_name (Gparser.mk p.l (p.at_ + 1) p.Err))
                let rv133 := (parser_end (Gparser.mk p.l rv123.2.at_ rv123.2.Err))
                ((GStmt.mk 7 (Str.mk []) [] [rv123.1]), (Gparser.mk p.l rv133.at_ rv133.Err))
              else
                bif ((p.l.getD p.at_.toNat default).Text == (Str.mk [98, 114, 97, 110, 99, 104])) then
                  let rv142 := (parser_name (Gparser.mk p.l (p.at_ + 1) p.Err))
                  let rv152 := (parser_name (Gparser.mk p.l rv142.2.at_ rv142.2.Err))
                  let rv162 := (parser_name (Gparser.mk p.l rv152.2.at_ rv152.2.Err))
                  let rv178 := (parser_end (Gparser.mk p.l rv162.2.at_ rv162.2.Err))
                  ((GStmt.mk 8 (Str.mk []) [rv142.1] ([rv152.1] ++ [rv162.1])), (Gparser.mk p.l rv178.at_ rv178.Err))
                else
                  bif ((p.l.getD p.at_.toNat default).Text == (Str.mk [114, 101, 116, 117, 114, 110])) then
                    let rv187 := (parser_end (Gparser.mk p.l (p.at_ + 1) p.Err))
                    ((GStmt.mk 9 (Str.mk []) [] []), (Gparser.mk p.l rv187.at_ rv187.Err))
                  else
                    let rv194 := (parser_name (Gparser.mk p.l (p.at_ + 1) p.Err))
                    let rv201 := (parser_isKind (Gparser.mk p.l rv194.2.at_ rv194.2.Err) 2)
                    bif (!rv201) then
                      let rv208 := (parser_fail (Gparser.mk p.l rv194.2.at_ rv194.2.Err) 4)
                      ((GStmt.mk 1 rv194.1 [] []), (Gparser.mk p.l rv208.at_ rv208.Err))
                    else
                      let rv218 := (parser_names (Gparser.mk p.l (rv194.2.at_ + 1) rv194.2.Err))
                      let rv229 := (parser_end (Gparser.mk p.l rv218.2.at_ rv218.2.Err))
                      ((GStmt.mk 1 rv194.1 rv218.1 []), (Gparser.mk p.l rv229.at_ rv229.Err))
  else
    bif ((Str.mk []) == (Str.mk [117, 115, 101])) then
      let rv240 := (parser_name p)
      let rv251 := (parser_more (Gparser.mk p.l rv240.2.at_ rv240.2.Err) 1)
      let rv268 := (parser_end (Gparser.mk p.l rv251.2.at_ rv251.2.Err))
      ((GStmt.mk 2 (Str.mk []) ([rv240.1] ++ rv251.1) []), (Gparser.mk p.l rv268.at_ rv268.Err))
    else
      bif ((Str.mk []) == (Str.mk [99, 97, 108, 108])) then
        let rv277 := (parser_name p)
        let rv287 := (parser_end (Gparser.mk p.l rv277.2.at_ rv277.2.Err))
        ((GStmt.mk 3 (Str.mk []) [] [rv277.1]), (Gparser.mk p.l rv287.at_ rv287.Err))
      else
        bif ((Str.mk []) == (Str.mk [115, 111, 117, 114, 99, 101])) then
          let rv296 := (parser_name p)
          let rv303 := (parser_end (Gparser.mk p.l rv296.2.at_ rv296.2.Err))
          ((GStmt.mk 4 rv296.1 [] []), (Gparser.mk p.l rv303.at_ rv303.Err))
        else
          bif ((Str.mk []) == (Str.mk [115, 105, 110, 107])) then
            let rv312 := (parser_name p)
            let rv322 := (parser_end (Gparser.mk p.l rv312.2.at_ rv312.2.Err))
            ((GStmt.mk 5 (Str.mk []) [rv312.1] []), (Gparser.mk p.l rv322.at_ rv322.Err))
          else
            bif ((Str.mk []) == (Str.mk [115, 97, 110, 105, 116, 105, 122, 101])) then
              let rv331 := (parser_name p)
              let rv338 := (parser_end (Gparser.mk p.l rv331.2.at_ rv331.2.Err))
              ((GStmt.mk 6 rv331.1 [] []), (Gparser.mk p.l rv338.at_ rv338.Err))
            else
              bif ((Str.mk []) == (Str.mk [103, 111, 116, 111])) then
                let rv347 := (parser_name p)
                let rv357 := (parser_end (Gparser.mk p.l rv347.2.at_ rv347.2.Err))
                ((GStmt.mk 7 (Str.mk []) [] [rv347.1]), (Gparser.mk p.l rv357.at_ rv357.Err))
              else
                bif ((Str.mk []) == (Str.mk [98, 114, 97, 110, 99, 104])) then
                  let rv366 := (parser_name p)
                  let rv376 := (parser_name (Gparser.mk p.l rv366.2.at_ rv366.2.Err))
                  let rv386 := (parser_name (Gparser.mk p.l rv376.2.at_ rv376.2.Err))
                  let rv402 := (parser_end (Gparser.mk p.l rv386.2.at_ rv386.2.Err))
                  ((GStmt.mk 8 (Str.mk []) [rv366.1] ([rv376.1] ++ [rv386.1])), (Gparser.mk p.l rv402.at_ rv402.Err))
                else
                  bif ((Str.mk []) == (Str.mk [114, 101, 116, 117, 114, 110])) then
                    let rv411 := (parser_end p)
                    ((GStmt.mk 9 (Str.mk []) [] []), (Gparser.mk p.l rv411.at_ rv411.Err))
                  else
                    let rv418 := (parser_name p)
                    let rv425 := (parser_isKind (Gparser.mk p.l rv418.2.at_ rv418.2.Err) 2)
                    bif (!rv425) then
                      let rv432 := (parser_fail (Gparser.mk p.l rv418.2.at_ rv418.2.Err) 4)
                      ((GStmt.mk 1 rv418.1 [] []), (Gparser.mk p.l rv432.at_ rv432.Err))
                    else
                      let rv442 := (parser_names (Gparser.mk p.l (rv418.2.at_ + 1) rv418.2.Err))
                      let rv453 := (parser_end (Gparser.mk p.l rv442.2.at_ rv442.2.Err))
                      ((GStmt.mk 1 rv418.1 rv442.1 []), (Gparser.mk p.l rv453.at_ rv453.Err))
def parser_block_L0 (p : Gparser) (b0 : Str) : Nat → Int → Int → List GStmt → LR (Int × Int × List GStmt) (GBlock × Gparser)
  | 0, p1, p2, b1 =>
    .oof
  | r + 1, p1, p2, b1 =>
    let rv35 := (parser_begins (Gparser.mk p.l p1 p2))
    bif rv35 then
      bif ((b1.length : Int) == 32) then
        let rv42 := (parser_fail (Gparser.mk p.l p1 p2) 7)
        .ret ((GBlock.mk b0 b1), (Gparser.mk p.l rv42.at_ rv42.Err))
      else
        let rv51 := (parser_stmt (Gparser.mk p.l p1 p2))
        parser_block_L0 p b0 r rv51.2.at_ rv51.2.Err (b1 ++ [rv51.1])
    else
      .brk (p1, p2, b1)

def parser_block (p : Gparser) : GBlock × Gparser :=
  let rv3 := (parser_word p (Str.mk [98, 108, 111, 99, 107]))
  let rv9 := (parser_name (Gparser.mk p.l rv3.at_ rv3.Err))
  let rv16 := (parser_end (Gparser.mk p.l rv9.2.at_ rv9.2.Err))
  let rv22 := (parser_begins (Gparser.mk p.l rv16.at_ rv16.Err))
  bif (!rv22) then
    let rv29 := (parser_fail (Gparser.mk p.l rv16.at_ rv16.Err) 4)
    match parser_block_L0 p rv9.1 (p.l.length + 1) rv29.at_ rv29.Err [] with
    | .brk (o0_0, o0_1, o0_2) =>
      ((GBlock.mk rv9.1 o0_2), (Gparser.mk p.l o0_0 o0_1))
    | .ret r => r
    | .oof => default
  else
    match parser_block_L0 p rv9.1 (p.l.length + 1) rv16.at_ rv16.Err [] with
    | .brk (o0_0, o0_1, o0_2) =>
      ((GBlock.mk rv9.1 o0_2), (Gparser.mk p.l o0_0 o0_1))
    | .ret r => r
    | .oof => default
def parser_function_L0 (p : Gparser) (f0 : Str) : Nat → Int → Int → List GBlock → LR (Int × Int × List GBlock) (GFunc × Gparser)
  | 0, p1, p2, f1 =>
    .oof
  | r + 1, p1, p2, f1 =>
    let rv35 := (parser_is (Gparser.mk p.l p1 p2) (Str.mk [98, 108, 111, 99, 107]))
    bif rv35 then
      bif ((f1.length : Int) == 16) then
        let rv42 := (parser_fail (Gparser.mk p.l p1 p2) 7)
        .ret ((GFunc.mk f0 f1), (Gparser.mk p.l rv42.at_ rv42.Err))
      else
        let rv50 := (parser_block (Gparser.mk p.l p1 p2))
        parser_function_L0 p f0 r rv50.2.at_ rv50.2.Err (f1 ++ [rv50.1])
    else
      .brk (p1, p2, f1)

def parser_function (p : Gparser) : GFunc × Gparser :=
  let rv3 := (parser_word p (Str.mk [102, 117, 110, 99]))
  let rv9 := (parser_name (Gparser.mk p.l rv3.at_ rv3.Err))
  let rv16 := (parser_end (Gparser.mk p.l rv9.2.at_ rv9.2.Err))
  let rv22 := (parser_is (Gparser.mk p.l rv16.at_ rv16.Err) (Str.mk [98, 108, 111, 99, 107]))
  bif (!rv22) then
    let rv29 := (parser_fail (Gparser.mk p.l rv16.at_ rv16.Err) 4)
    match parser_function_L0 p rv9.1 (p.l.length + 1) rv29.at_ rv29.Err [] with
    | .brk (o0_0, o0_1, o0_2) =>
      let rv40 := (parser_word (Gparser.mk p.l o0_0 o0_1) (Str.mk [101, 110, 100]))
      let rv46 := (parser_end (Gparser.mk p.l rv40.at_ rv40.Err))
      ((GFunc.mk rv9.1 o0_2), (Gparser.mk p.l rv46.at_ rv46.Err))
    | .ret r => r
    | .oof => default
  else
    match parser_function_L0 p rv9.1 (p.l.length + 1) rv16.at_ rv16.Err [] with
    | .brk (o0_0, o0_1, o0_2) =>
      let rv60 := (parser_word (Gparser.mk p.l o0_0 o0_1) (Str.mk [101, 110, 100]))
      let rv66 := (parser_end (Gparser.mk p.l rv60.at_ rv60.Err))
      ((GFunc.mk rv9.1 o0_2), (Gparser.mk p.l rv66.at_ rv66.Err))
    | .ret r => r
    | .oof => default
def flqref4_Parse_L0  (p0 : List GToken) : Nat → Int → Int → List GFunc → LR (Int × Int × List GFunc) (GProgram × Int × Int × Int)
  | 0, p1, p2, out0 =>
    .oof
  | r + 1, p1, p2, out0 =>
    let rv30 := (parser_is (Gparser.mk p0 p1 p2) (Str.mk [102, 117, 110, 99]))
    bif rv30 then
      bif ((out0.length : Int) == 8) then
        let rv37 := (parser_fail (Gparser.mk p0 p1 p2) 7)
        .brk (rv37.at_, rv37.Err, out0)
      else
        let rv45 := (parser_function (Gparser.mk p0 p1 p2))
        flqref4_Parse_L0 p0 r rv45.2.at_ rv45.2.Err (out0 ++ [rv45.1])
    else
      .brk (p1, p2, out0)

def flqref4_Parse (text : Str) : GProgram × Int × Int × Int :=
  let rv3 := (flqref4_Scan text)
  bif (rv3.2.2.2 != 0) then
    ((GProgram.mk []), rv3.2.1, rv3.2.2.1, rv3.2.2.2)
  else
    let rv17 := (parser_is (Gparser.mk rv3.1 0 0) (Str.mk [102, 117, 110, 99]))
    bif (!rv17) then
      let rv24 := (parser_fail (Gparser.mk rv3.1 0 0) 4)
      match flqref4_Parse_L0 rv3.1 (rv3.1.length + 1) rv24.at_ rv24.Err [] with
      | .brk (o0_0, o0_1, o0_2) =>
        bif (o0_1 == 0) then
          bif decide (o0_0 < (rv3.1.length : Int)) then
            let rv39 := (parser_fail (Gparser.mk rv3.1 o0_0 o0_1) 4)
            bif (rv39.Err == 0) then
              ((GProgram.mk o0_2), 0, 0, 0)
            else
              bif decide (rv39.at_ < (rv3.1.length : Int)) then
                ((GProgram.mk []), (rv3.1.getD rv39.at_.toNat default).Line, (rv3.1.getD rv39.at_.toNat default).Col, rv39.Err)
              else
                ((GProgram.mk []), 0, 0, rv39.Err)
          else
            ((GProgram.mk o0_2), 0, 0, 0)
        else
          bif decide (o0_0 < (rv3.1.length : Int)) then
            ((GProgram.mk []), (rv3.1.getD o0_0.toNat default).Line, (rv3.1.getD o0_0.toNat default).Col, o0_1)
          else
            ((GProgram.mk []), 0, 0, o0_1)
      | .ret _ => default
      | .oof => default
    else
      match flqref4_Parse_L0 rv3.1 (rv3.1.length + 1) 0 0 [] with
      | .brk (o0_0, o0_1, o0_2) =>
        bif (o0_1 == 0) then
          bif decide (o0_0 < (rv3.1.length : Int)) then
            let rv80 := (parser_fail (Gparser.mk rv3.1 o0_0 o0_1) 4)
            bif (rv80.Err == 0) then
              ((GProgram.mk o0_2), 0, 0, 0)
            else
              bif decide (rv80.at_ < (rv3.1.length : Int)) then
                ((GProgram.mk []), (rv3.1.getD rv80.at_.toNat default).Line, (rv3.1.getD rv80.at_.toNat default).Col, rv80.Err)
              else
                ((GProgram.mk []), 0, 0, rv80.Err)
          else
            ((GProgram.mk o0_2), 0, 0, 0)
        else
          bif decide (o0_0 < (rv3.1.length : Int)) then
            ((GProgram.mk []), (rv3.1.getD o0_0.toNat default).Line, (rv3.1.getD o0_0.toNat default).Col, o0_1)
          else
            ((GProgram.mk []), 0, 0, o0_1)
      | .ret _ => default
      | .oof => default
def flqlaw7_program  : GProgram :=
  let rv3 := (flqref4_Parse (Str.mk [102, 117, 110, 99, 32, 109, 59, 32, 98, 108, 111, 99, 107, 32, 98, 59, 32, 120, 32, 61, 32, 121, 59, 32, 99, 97, 108, 108, 32, 109, 59, 32, 114, 101, 116, 117, 114, 110, 59, 32, 101, 110, 100]))
  rv3.1
def flqlaw7_sane_L0  (l : List GNode) : Nat → Int → LR Unit Bool
  | 0, i =>
    .brk ()
  | r + 1, i =>
    let rv33 := (nodes_Label flqlaw7_program (l.getD i.toNat default))
    bif (rv33 != ([(Str.mk [109, 46, 101, 110, 116, 114, 121]), (Str.mk [109, 46, 98, 46, 48]), (Str.mk [109, 46, 98, 46, 49]), (Str.mk [109, 46, 98, 46, 49, 43]), (Str.mk [109, 46, 98, 46, 50]), (Str.mk [109, 46, 101, 120, 105, 116])].getD i.toNat default)) then
      .ret false
    else
      flqlaw7_sane_L0 l r (i + 1)

def flqlaw7_sane  : Bool :=
  let rv7 := (nodes_List flqlaw7_program)
  bif ((rv7.length : Int) != ((6 : Nat) : Int)) then
    false
  else
    match flqlaw7_sane_L0 rv7 (((rv7.length : Int) - 0).toNat) 0 with
    | .brk _ =>
      let rv27 := (nodes_Find flqlaw7_program (GNode.mk 3 3 0 0))
      (rv27 == -1)
    | .ret r => r
    | .oof => default
def nodes_inside (n : GNode) : Bool :=
  bif (n.Kind == 3) then
    true
  else
    (n.Kind == 4)
def nodes_Stmt (p : GProgram) (n : GNode) : GStmt × Bool :=
  let rv4 := (nodes_inside n)
  bif (!rv4) then
    ((GStmt.mk 0 (Str.mk []) [] []), false)
  else
    let rv14 := (nodes_Find p n)
    bif decide (rv14 < 0) then
      ((GStmt.mk 0 (Str.mk []) [] []), false)
    else
      ((((((p.Funcs.getD n.Func.toNat default).Blocks).getD n.Block.toNat default).Stmts).getD n.Stmt.toNat default), true)
def flqref4_words_L0 (l : List Str) : Nat → Str → Int → Str
  | 0, s, i =>
    s
  | r + 1, s, i =>
    flqref4_words_L0 l r (s ++ ((Str.mk [32]) ++ (l.getD i.toNat default))) (i + 1)

def flqref4_words (l : List Str) : Str :=
  match flqref4_words_L0 l (((l.length : Int) - 0).toNat) (Str.mk []) 0 with
  | o0_0 =>
    o0_0
def flqref4_Line (s : GStmt) : Str :=
  bif (s.Op == 1) then
    let rv6 := (flqref4_words s.Uses)
    ((s.Def ++ (Str.mk [32, 61])) ++ rv6)
  else
    bif (s.Op == 2) then
      let rv15 := (flqref4_words s.Uses)
      ((Str.mk [117, 115, 101]) ++ rv15)
    else
      bif (s.Op == 3) then
        let rv25 := (flqref4_words s.Targets)
        ((Str.mk [99, 97, 108, 108]) ++ rv25)
      else
        bif (s.Op == 4) then
          ((Str.mk [115, 111, 117, 114, 99, 101, 32]) ++ s.Def)
        else
          bif (s.Op == 5) then
            let rv40 := (flqref4_words s.Uses)
            ((Str.mk [115, 105, 110, 107]) ++ rv40)
          else
            bif (s.Op == 6) then
              ((Str.mk [115, 97, 110, 105, 116, 105, 122, 101, 32]) ++ s.Def)
            else
              bif (s.Op == 7) then
                let rv55 := (flqref4_words s.Targets)
                ((Str.mk [103, 111, 116, 111]) ++ rv55)
              else
                bif (s.Op == 8) then
                  let rv65 := (flqref4_words s.Uses)
                  let rv72 := (flqref4_words s.Targets)
                  (((Str.mk [98, 114, 97, 110, 99, 104]) ++ rv65) ++ rv72)
                else
                  (Str.mk [114, 101, 116, 117, 114, 110])
def flqgen_New (l : List Int) : Unit :=
  ()
def flqgen_Mod (v : Int) (n : Int) : Int :=
  (((BitVec.ofInt 64 v) % (BitVec.ofInt 64 n)).toNat : Int)
def Tape_Next (tT : List Int) (tI : Int) (n : Int) : Int × Int :=
  bif decide (n ≤ 1) then
    (0, tI)
  else
    bif decide ((tT.length : Int) ≤ tI) then
      (0, tI)
    else
      let rv8 := (flqgen_Mod (tT.getD (((tI + 1) - 1) : Int).toNat 0) n)
      (rv8, (tI + 1))
def Tape_name (tT : List Int) (tI : Int) : Str × Int :=
  let rv4 := (Tape_Next tT tI 4)
  (([(Str.mk [120]), (Str.mk [121]), (Str.mk [122]), (Str.mk [119])].getD rv4.1.toNat default), rv4.2)
def Tape_stmt (tT : List Int) (tI : Int) (funcs : Int) : GStmt × Int :=
  let rv2 := (Tape_Next tT tI 9)
  bif (rv2.1 == 1) then
    let rv10 := (Tape_name tT rv2.2)
    let rv15 := (Tape_name tT rv10.2)
    let rv23 := (Tape_Next tT rv15.2 2)
    ((GStmt.mk 2 (Str.mk []) (([rv10.1, rv15.1].take (((1 + rv23.1) : Int).toNat)).drop 0) []), rv23.2)
  else
    bif (rv2.1 == 2) then
      let rv38 := (Tape_name tT rv2.2)
      ((GStmt.mk 4 rv38.1 [] []), rv38.2)
    else
      bif (rv2.1 == 3) then
        let rv46 := (Tape_name tT rv2.2)
        ((GStmt.mk 5 (Str.mk []) [rv46.1] []), rv46.2)
      else
        bif (rv2.1 == 4) then
          let rv57 := (Tape_name tT rv2.2)
          ((GStmt.mk 6 rv57.1 [] []), rv57.2)
        else
          bif (rv2.1 == 5) then
            let rv70 := (Tape_Next tT rv2.2 funcs)
            ((GStmt.mk 3 (Str.mk []) [] [([(Str.mk [109]), (Str.mk [102]), (Str.mk [103])].getD rv70.1.toNat default)]), rv70.2)
          else
            bif (rv2.1 == 6) then
              let rv88 := (Tape_Next tT rv2.2 funcs)
              ((GStmt.mk 3 (Str.mk []) [] [([(Str.mk [109]), (Str.mk [102]), (Str.mk [103])].getD rv88.1.toNat default)]), rv88.2)
            else
              let rv101 := (Tape_name tT rv2.2)
              let rv106 := (Tape_name tT rv101.2)
              let rv111 := (Tape_name tT rv106.2)
              let rv116 := (Tape_name tT rv111.2)
              let rv124 := (Tape_Next tT rv116.2 4)
              ((GStmt.mk 1 rv101.1 (([rv106.1, rv111.1, rv116.1].take (rv124.1.toNat)).drop 0) []), rv124.2)
def flqgen_func2 (i : Int) : Str :=
  ([(Str.mk [97]), (Str.mk [98]), (Str.mk [99])].getD i.toNat default)
def Tape_Program_L2 (tT : List Int) (funcs : Int) : Nat → Int → List GStmt → Int → Int × List GStmt
  | 0, ti', b1, n =>
    (ti', b1)
  | r + 1, ti', b1, n =>
    let rv43 := (Tape_stmt tT ti' funcs)
    Tape_Program_L2 tT funcs r rv43.2 (b1 ++ [rv43.1]) (n - 1)

def Tape_Program_L1 (tT : List Int) (funcs : Int) (blocks : Int) : Nat → Int → List GBlock → Int → Int × List GBlock
  | 0, ti', f1, k =>
    (ti', f1)
  | r + 1, ti', f1, k =>
    let rv33 := (Tape_Next tT ti' 4)
    match Tape_Program_L2 tT funcs (rv33.1.toNat) rv33.2 [] rv33.1 with
    | (o2_0, o2_1) =>
      let rv43 := (Tape_Next tT o2_0 blocks)
      let rv49 := (flqgen_func2 rv43.1)
      let rv53 := (Tape_Next tT rv43.2 4)
      bif (rv53.1 == 0) then
        Tape_Program_L1 tT funcs blocks r rv53.2 (f1 ++ [(GBlock.mk ([(Str.mk [97]), (Str.mk [98]), (Str.mk [99])].getD k.toNat default) (o2_1 ++ [(GStmt.mk 9 (Str.mk []) [] [])]))]) (k + 1)
      else
        bif (rv53.1 == 1) then
          Tape_Program_L1 tT funcs blocks r rv53.2 (f1 ++ [(GBlock.mk ([(Str.mk [97]), (Str.mk [98]), (Str.mk [99])].getD k.toNat default) (o2_1 ++ [(GStmt.mk 7 (Str.mk []) [] [rv49])]))]) (k + 1)
        else
          let rv100 := (Tape_name tT rv53.2)
          let rv108 := (Tape_Next tT rv100.2 blocks)
          let rv114 := (flqgen_func2 rv108.1)
          Tape_Program_L1 tT funcs blocks r rv108.2 (f1 ++ [(GBlock.mk ([(Str.mk [97]), (Str.mk [98]), (Str.mk [99])].getD k.toNat default) (o2_1 ++ [(GStmt.mk 8 (Str.mk []) [rv100.1] [rv49, rv114])]))]) (k + 1)

def Tape_Program_L0 (tT : List Int) (funcs : Int) : Nat → Int → List GFunc → Int → Int × List GFunc
  | 0, ti', p0, i =>
    (ti', p0)
  | r + 1, ti', p0, i =>
    let rv18 := (Tape_Next tT ti' 3)
    match Tape_Program_L1 tT funcs (1 + rv18.1) ((((1 + rv18.1) : Int) - 0).toNat) rv18.2 [] 0 with
    | (o1_0, o1_1) =>
      Tape_Program_L0 tT funcs r o1_0 (p0 ++ [(GFunc.mk ([(Str.mk [109]), (Str.mk [102]), (Str.mk [103])].getD i.toNat default) o1_1)]) (i + 1)

def Tape_Program (tT : List Int) (tI : Int) : GProgram × Int :=
  let rv3 := (Tape_Next tT tI 3)
  match Tape_Program_L0 tT (1 + rv3.1) ((((1 + rv3.1) : Int) - 0).toNat) rv3.2 [] 0 with
  | (o0_0, o0_1) =>
    ((GProgram.mk o0_1), o0_0)
def flqlaw7_NodesStatements_L3  (p0 : List GFunc) (l : List GNode) (s : List GStmt) (i : Int) : Nat → Int → Int → LR Int Bool
  | 0, at_, n =>
    .oof
  | r + 1, at_, n =>
    bif (n == 0) then
      bif decide ((l.length : Int) ≤ at_) then
        .ret false
      else
        let rv47 := (nodes_Stmt (GProgram.mk p0) (l.getD at_.toNat default))
        bif (!rv47.2) then
          .ret false
        else
          let rv68 := (flqref4_Line rv47.1)
          let rv83 := (flqref4_Line (s.getD i.toNat default))
          bif (rv68 != rv83) then
            .ret false
          else
            flqlaw7_NodesStatements_L3 p0 l s i r (at_ + 1) (n + 1)
    else
      bif (n == 1) then
        bif ((s.getD i.toNat default).Op == 3) then
          bif decide ((l.length : Int) ≤ at_) then
            .ret false
          else
            let rv115 := (nodes_Stmt (GProgram.mk p0) (l.getD at_.toNat default))
            bif (!rv115.2) then
              .ret false
            else
              let rv136 := (flqref4_Line rv115.1)
              let rv141 := (flqref4_Line (s.getD i.toNat default))
              bif (rv136 != rv141) then
                .ret false
              else
                flqlaw7_NodesStatements_L3 p0 l s i r (at_ + 1) (n + 1)
        else
          .brk at_
      else
        .brk at_

def flqlaw7_NodesStatements_L2  (p0 : List GFunc) (l : List GNode) (s : List GStmt) : Nat → Int → Int → LR Int Bool
  | 0, at_, i =>
    .brk at_
  | r + 1, at_, i =>
    match flqlaw7_NodesStatements_L3 p0 l s i 3 at_ 0 with
    | .brk o3_0 =>
      flqlaw7_NodesStatements_L2 p0 l s r o3_0 (i + 1)
    | .ret r => .ret r
    | .oof => .oof

def flqlaw7_NodesStatements_L1  (p0 : List GFunc) (l : List GNode) (f : Int) : Nat → Int → Int → LR Int Bool
  | 0, at_, b =>
    .brk at_
  | r + 1, at_, b =>
    match flqlaw7_NodesStatements_L2 p0 l ((((p0.getD f.toNat default).Blocks).getD b.toNat default).Stmts) ((((((((p0.getD f.toNat default).Blocks).getD b.toNat default).Stmts).length : Int) : Int) - 0).toNat) at_ 0 with
    | .brk o2_0 =>
      flqlaw7_NodesStatements_L1 p0 l f r o2_0 (b + 1)
    | .ret r => .ret r
    | .oof => .oof

def flqlaw7_NodesStatements_L0  (p0 : List GFunc) (l : List GNode) : Nat → Int → Int → LR Int Bool
  | 0, at_, f =>
    .brk at_
  | r + 1, at_, f =>
    match flqlaw7_NodesStatements_L1 p0 l f ((((((p0.getD f.toNat default).Blocks).length : Int) : Int) - 0).toNat) (at_ + 1) 0 with
    | .brk o1_0 =>
      flqlaw7_NodesStatements_L0 p0 l r (o1_0 + 1) (f + 1)
    | .ret r => .ret r
    | .oof => .oof

def flqlaw7_NodesStatements (t : List Int) : Bool :=
  let rv2 := (flqgen_New t)
  let rv6 := (Tape_Program t 0)
  let rv15 := (nodes_List rv6.1)
  match flqlaw7_NodesStatements_L0 rv6.1.Funcs rv15 (((rv6.1.Funcs.length : Int) - 0).toNat) 0 0 with
  | .brk o0_0 =>
    bif (o0_0 == (rv15.length : Int)) then
      flqlaw7_sane
    else
      false
  | .ret r => r
  | .oof => default
def flqref4_namesOK_L0 (l : List Str) : Nat → Int → LR Unit Bool
  | 0, i =>
    .brk ()
  | r + 1, i =>
    let rv6 := (flqref4_IsName (l.getD i.toNat default))
    bif (!rv6) then
      .ret false
    else
      flqref4_namesOK_L0 l r (i + 1)

def flqref4_namesOK (l : List Str) (a : Int) (b : Int) : Bool :=
  match flqref4_namesOK_L0 l (((l.length : Int) - 0).toNat) 0 with
  | .brk _ =>
    bif decide (a ≤ (l.length : Int)) then
      decide ((l.length : Int) ≤ b)
    else
      false
  | .ret r => r
  | .oof => default
def flqref4_stmtOK (s : GStmt) : Bool :=
  let rv2 := (flqref4_IsName s.Def)
  let rv5 := (flqref4_namesOK s.Uses 0 4)
  bif (!rv5) then
    false
  else
    let rv15 := (flqref4_namesOK s.Targets 0 2)
    bif (!rv15) then
      false
    else
      bif (s.Op == 1) then
        bif rv2 then
          ((s.Targets.length : Int) == 0)
        else
          false
      else
        bif (s.Op == 2) then
          bif (s.Def == (Str.mk [])) then
            bif decide (1 ≤ (s.Uses.length : Int)) then
              ((s.Targets.length : Int) == 0)
            else
              false
          else
            false
        else
          bif (s.Op == 5) then
            bif (s.Def == (Str.mk [])) then
              bif ((s.Uses.length : Int) == 1) then
                ((s.Targets.length : Int) == 0)
              else
                false
            else
              false
          else
            bif (s.Op == 3) then
              bif (s.Def == (Str.mk [])) then
                bif ((s.Uses.length : Int) == 0) then
                  ((s.Targets.length : Int) == 1)
                else
                  false
              else
                false
            else
              bif (s.Op == 7) then
                bif (s.Def == (Str.mk [])) then
                  bif ((s.Uses.length : Int) == 0) then
                    ((s.Targets.length : Int) == 1)
                  else
                    false
                else
                  false
              else
                bif (s.Op == 4) then
                  bif rv2 then
                    bif ((s.Uses.length : Int) == 0) then
                      ((s.Targets.length : Int) == 0)
                    else
                      false
                  else
                    false
                else
                  bif (s.Op == 6) then
                    bif rv2 then
                      bif ((s.Uses.length : Int) == 0) then
                        ((s.Targets.length : Int) == 0)
                      else
                        false
                    else
                      false
                  else
                    bif (s.Op == 8) then
                      bif (s.Def == (Str.mk [])) then
                        bif ((s.Uses.length : Int) == 1) then
                          ((s.Targets.length : Int) == 2)
                        else
                          false
                      else
                        false
                    else
                      bif (s.Op == 9) then
                        bif (s.Def == (Str.mk [])) then
                          bif ((s.Uses.length : Int) == 0) then
                            ((s.Targets.length : Int) == 0)
                          else
                            false
                        else
                          false
                      else
                        false
def flqref4_Valid_L2  (b1 : List GStmt) : Nat → Int → LR Unit Bool
  | 0, j =>
    .brk ()
  | r + 1, j =>
    let rv66 := (flqref4_stmtOK (b1.getD j.toNat default))
    bif (!rv66) then
      .ret false
    else
      flqref4_Valid_L2 b1 r (j + 1)

def flqref4_Valid_L1  (f1 : List GBlock) : Nat → Int → LR Unit Bool
  | 0, k =>
    .brk ()
  | r + 1, k =>
    let rv38 := (flqref4_IsName ((f1.getD k.toNat default).Name))
    bif (!rv38) then
      .ret false
    else
      bif decide ((((f1.getD k.toNat default).Stmts).length : Int) < 1) then
        .ret false
      else
        bif decide (32 < (((f1.getD k.toNat default).Stmts).length : Int)) then
          .ret false
        else
          match flqref4_Valid_L2 ((f1.getD k.toNat default).Stmts) ((((((f1.getD k.toNat default).Stmts).length : Int) : Int) - 0).toNat) 0 with
          | .brk _ =>
            flqref4_Valid_L1 f1 r (k + 1)
          | .ret r => .ret r
          | .oof => .oof

def flqref4_Valid_L0 (p : GProgram) : Nat → Int → LR Unit Bool
  | 0, i =>
    .brk ()
  | r + 1, i =>
    let rv15 := (flqref4_IsName ((p.Funcs.getD i.toNat default).Name))
    bif (!rv15) then
      .ret false
    else
      bif decide ((((p.Funcs.getD i.toNat default).Blocks).length : Int) < 1) then
        .ret false
      else
        bif decide (16 < (((p.Funcs.getD i.toNat default).Blocks).length : Int)) then
          .ret false
        else
          match flqref4_Valid_L1 ((p.Funcs.getD i.toNat default).Blocks) ((((((p.Funcs.getD i.toNat default).Blocks).length : Int) : Int) - 0).toNat) 0 with
          | .brk _ =>
            flqref4_Valid_L0 p r (i + 1)
          | .ret r => .ret r
          | .oof => .oof

def flqref4_Valid (p : GProgram) : Bool :=
  bif decide ((p.Funcs.length : Int) < 1) then
    false
  else
    bif decide (8 < (p.Funcs.length : Int)) then
      false
    else
      match flqref4_Valid_L0 p (((p.Funcs.length : Int) - 0).toNat) 0 with
      | .brk _ =>
        true
      | .ret r => r
      | .oof => default
theorem scan' {σ : Type} (f : Nat → Int → LR σ Int) (p : Int → Bool) (c : σ) (h0 : ∀ i, f 0 i = .brk c) (h1 : ∀ r i, f (r + 1) i = bif p i then .ret i else f r (i + 1)) :
    ∀ (m : Nat) (i : Int), (∃ j, f m i = .ret j ∧ i ≤ j ∧ j < i + m ∧ p j = true) ∨ (f m i = .brk c ∧ ∀ j, i ≤ j → j < i + m → p j = false)
  | 0, i => .inr ⟨h0 i, fun j h1 h2 => by omega⟩
  | m + 1, i => by
    rw [h1]
    cases hp : p i with
    | true => exact .inl ⟨i, rfl, by omega, by omega, hp⟩
    | false =>
      rcases scan' f p c h0 h1 m (i + 1) with ⟨j, e, j1, j2, j3⟩ | ⟨e, h⟩
      · exact .inl ⟨j, e, by omega, by omega, j3⟩
      · refine .inr ⟨e, fun j j1 j2 => ?_⟩
        rcases Int.lt_or_eq_of_le j1 with hlt | rfl
        · exact h j (by omega) (by omega)
        · exact hp
theorem mem_getDg {α : Type} {l : List α} {n d : α} : n ∈ l ↔ ∃ j : Int, 0 ≤ j ∧ j < (l.length : Int) ∧ l.getD j.toNat d = n := by
  constructor
  · intro h
    obtain ⟨i, hi, e⟩ := List.getElem_of_mem h
    exact ⟨(i : Int), by omega, by omega, by simp [List.getD, hi, e]⟩
  · rintro ⟨j, j1, j2, rfl⟩
    exact getD_mem (by omega)
theorem allL {α R : Type} [Inhabited α] {P : α → Bool} {l : List α} {no : R} (L : Nat → Int → LR Unit R) (h0 : ∀ i, L 0 i = .brk ()) (h1 : ∀ r (i : Int), 0 ≤ i → i < (l.length : Int) → L (r + 1) i = if P (l.getD i.toNat default) = true then L r (i + 1) else .ret no) :
    L ((l.length : Int) - 0).toNat 0 = if l.all P = true then .brk () else .ret no := by
  have key : ∀ (suf pre : List α), l = pre ++ suf → L suf.length (pre.length : Int) = if suf.all P = true then .brk () else .ret no := fun suf => by
    induction suf with
    | nil => intro pre _; exact h0 _
    | cons a suf ih =>
      intro pre hl
      have hlen : l.length = pre.length + (suf.length + 1) := by rw [hl]; simp
      have hg : l.getD ((pre.length : Int)).toNat default = a := by rw [hl]; simp
      rw [List.length_cons, h1 _ _ (by omega) (by omega), hg, List.all_cons]
      have := ih (pre ++ [a]) (by rw [hl]; simp)
      rw [List.length_append, List.length_cons, List.length_nil, Int.natCast_add] at this
      rw [show ((pre.length : Int) + 1) = (pre.length : Int) + ((0 + 1 : Nat) : Int) from rfl, this]
      cases P a <;> simp
  have := key l [] rfl
  rw [show ((l.length : Int) - 0).toNat = l.length by omega]
  exact this
theorem str_pos {s : Str} (h : (s == (Str.mk [])) = false) : 0 < s.b.length := by
  obtain ⟨b⟩ := s
  cases b with
  | nil => simp at h
  | cons a b => simp
def SSm (s : GStmt) : Bool := decide (s.Uses.length ≤ 1000000) && decide (s.Targets.length ≤ 1000000)
def BSm (b : GBlock) : Bool := b.Stmts.all SSm
def FSm (f : GFunc) : Bool := f.Blocks.all BSm
def PSm (p : GProgram) : Bool := p.Funcs.all FSm
theorem all_getD {α : Type} [Inhabited α] {q : α → Bool} {l : List α} (h : l.all q = true) {i : Int} (hi : 0 ≤ i ∧ i < (l.length : Int)) : q (l.getD i.toNat default) = true :=
  List.all_eq_true.1 h _ (getD_mem (by omega))
theorem PSm_f {p : GProgram} (h : PSm p = true) {i : Int} (hi : 0 ≤ i ∧ i < (p.Funcs.length : Int)) : FSm (p.Funcs.getD i.toNat default) = true := all_getD h hi
theorem FSm_b {f : GFunc} (h : FSm f = true) {i : Int} (hi : 0 ≤ i ∧ i < (f.Blocks.length : Int)) : BSm (f.Blocks.getD i.toNat default) = true := all_getD h hi
theorem BSm_m {b : GBlock} (h : BSm b = true) {x : GStmt} (hx : x ∈ b.Stmts) : SSm x = true := List.all_eq_true.1 h x hx
theorem SSm_l {s : GStmt} (h : SSm s = true) : s.Uses.length ≤ 1000000 ∧ s.Targets.length ≤ 1000000 := by
  unfold SSm at h; simpa using h
def QS (u v : Nat) (s : GStmt) : Bool := decide (s.Uses.length ≤ u) && decide (s.Targets.length ≤ v)
def QB (u v : Nat) (b : GBlock) : Bool := b.Stmts.all (QS u v)
def QF (u v : Nat) (f : GFunc) : Bool := f.Blocks.all (QB u v)
def QP (u v : Nat) (p : GProgram) : Bool := p.Funcs.all (QF u v)
def QL (b : GBlock) : Bool := decide (b.Stmts.length ≤ 4)
def SpF (f : GFunc) : Prop := (1 ≤ f.Blocks.length ∧ f.Blocks.length ≤ 3) ∧ f.Blocks.all QL = true
def SpP (p : GProgram) : Prop := (1 ≤ p.Funcs.length ∧ p.Funcs.length ≤ 3) ∧ (∀ f ∈ p.Funcs, SpF f) ∧ QP 3 2 p = true
theorem QP_PSm {u v : Nat} {p : GProgram} (h : QP u v p = true) (hu : u ≤ 1000000) (hv : v ≤ 1000000) : PSm p = true := by
  unfold QP at h; unfold PSm
  refine List.all_eq_true.2 fun f hf => ?_
  have h1 := List.all_eq_true.1 h f hf
  unfold QF at h1; unfold FSm
  refine List.all_eq_true.2 fun b hb => ?_
  have h2 := List.all_eq_true.1 h1 b hb
  unfold QB at h2; unfold BSm
  refine List.all_eq_true.2 fun s hs => ?_
  have h3 := List.all_eq_true.1 h2 s hs
  unfold QS at h3; unfold SSm
  simp only [Bool.and_eq_true, decide_eq_true_eq] at h3 ⊢
  omega
theorem SpP_PSm {p : GProgram} (h : SpP p) : PSm p = true := QP_PSm h.2.2 (by omega) (by omega)
def SmT {α : Type} [Inhabited α] (P : α → Prop) (xs : List α) (j : Int) : Prop := ∀ m : Nat, j ≤ (m : Int) → P (xs.getD m default)
def SmW (s : Str) : Prop := s.b.length ≤ 1000
def SmS (s : GStmt) : Prop := s.Def.b.length ≤ 1000 ∧ SmT SmW s.Uses 0 ∧ SmT SmW s.Targets 0
def SmB (b : GBlock) : Prop := b.Name.b.length ≤ 1000 ∧ SmT SmS b.Stmts 0
def SmF (f : GFunc) : Prop := f.Name.b.length ≤ 1000 ∧ SmT SmB f.Blocks 0
def SmP (p : GProgram) : Prop := SmT SmF p.Funcs 0
theorem SmT_all {α : Type} [Inhabited α] {P : α → Prop} {xs : List α} (h : ∀ x ∈ xs, P x) (h0 : P default) : SmT P xs 0 := fun m _ => by
  rw [List.getD_eq_getElem?_getD]
  cases e : xs[m]? with
  | none => exact h0
  | some y => exact h _ (List.mem_of_getElem? e)
theorem SmT_nil {α : Type} [Inhabited α] {P : α → Prop} (h0 : P default) (j : Int) : SmT P ([] : List α) j := fun m _ => by simpa using h0

theorem SmW_0 : SmW default := by show (default : Str).b.length ≤ 1000; decide
theorem SmS_0 : SmS default := ⟨by show (default : GStmt).Def.b.length ≤ 1000; decide, SmT_nil SmW_0 _, SmT_nil SmW_0 _⟩
theorem SmB_0 : SmB default := ⟨by show (default : GBlock).Name.b.length ≤ 1000; decide, SmT_nil SmS_0 _⟩
theorem SmF_0 : SmF default := ⟨by show (default : GFunc).Name.b.length ≤ 1000; decide, SmT_nil SmB_0 _⟩
def fNm (i : Int) : Str := [(Str.mk [109]), (Str.mk [102]), (Str.mk [103])].getD i.toNat default
def bNm (i : Int) : Str := [(Str.mk [97]), (Str.mk [98]), (Str.mk [99])].getD i.toNat default
def N4 : List Str := [(Str.mk [120]), (Str.mk [121]), (Str.mk [122]), (Str.mk [119])]
def vS (s : GStmt) : Prop := (s.Def = Str.mk [] ∨ s.Def ∈ N4) ∧ (∀ u ∈ s.Uses, u ∈ N4) ∧ s.Uses.length ≤ 3
theorem all_of_getD {α : Type} [Inhabited α] {l : List α} {P : α → Prop} (h : ∀ j : Nat, j < l.length → P (l.getD j default)) : ∀ x ∈ l, P x := fun x hx => by
  obtain ⟨j, j1, e⟩ := List.getElem_of_mem hx
  have := h j j1
  rw [List.getD_eq_getElem?_getD, List.getElem?_eq_getElem j1] at this
  simp only [Option.getD_some] at this
  rw [e] at this; exact this
theorem fNm_inj {i j : Int} (hi : 0 ≤ i ∧ i < 3) (hj : 0 ≤ j ∧ j < 3) (h : fNm i = fNm j) : i = j := by
  have h1 : i = 0 ∨ i = 1 ∨ i = 2 := by omega
  have h2 : j = 0 ∨ j = 1 ∨ j = 2 := by omega
  rcases h1 with e | e | e <;> rcases h2 with e' | e' | e' <;> subst e <;> subst e' <;> first | rfl | exact absurd h (by decide)
theorem bNm_inj {i j : Int} (hi : 0 ≤ i ∧ i < 3) (hj : 0 ≤ j ∧ j < 3) (h : bNm i = bNm j) : i = j := by
  have h1 : i = 0 ∨ i = 1 ∨ i = 2 := by omega
  have h2 : j = 0 ∨ j = 1 ∨ j = 2 := by omega
  rcases h1 with e | e | e <;> rcases h2 with e' | e' | e' <;> subst e <;> subst e' <;> first | rfl | exact absurd h (by decide)
def VI (x : List (Str × Bool) × List Str) : Prop := (∀ s ∈ x.2, (mget x.1 s).getD false = true) ∧ x.2.Nodup ∧ ∀ s ∈ x.2, s ∈ N4
theorem nodupStr_le : ∀ (l N : List Str), l.Nodup → (∀ s ∈ l, s ∈ N) → l.length ≤ N.length
  | [], N, _, _ => Nat.zero_le _
  | a :: l, N, hn, h => by
    rw [List.nodup_cons] at hn
    have ha : a ∈ N := h a List.mem_cons_self
    have := nodupStr_le l (N.erase a) hn.2 fun s hs => (List.mem_erase_of_ne (fun e => hn.1 (by rw [← e]; exact hs))).2 (h s (List.mem_cons_of_mem _ hs))
    rw [List.length_erase_of_mem ha] at this
    have := List.length_pos_of_mem ha
    rw [List.length_cons]
    omega
theorem nodup_N4 (l : List Str) (hn : l.Nodup) (h : ∀ s ∈ l, s ∈ N4) : l.length ≤ 4 := nodupStr_le l N4 hn h
def nS (i k : Int) : Int → List GStmt → List GNode
  | _, [] => []
  | v, s :: S => (bif s.Op == 3 then [GNode.mk 3 i k v, GNode.mk 4 i k v] else [GNode.mk 3 i k v]) ++ nS i k (v + 1) S
def nB (i : Int) : Int → List GBlock → List GNode
  | _, [] => []
  | k, b :: B => nS i k 0 b.Stmts ++ nB i (k + 1) B
def nF : Int → List GFunc → List GNode
  | _, [] => []
  | i, f :: F => [GNode.mk 1 i (-1) (-1)] ++ nB i 0 f.Blocks ++ [GNode.mk 2 i (-1) (-1)] ++ nF (i + 1) F
theorem getD_dropz {α : Type} [Inhabited α] {l : List α} {v : Int} (h0 : 0 ≤ v) (h : v < (l.length : Int)) : l.drop v.toNat = l.getD v.toNat default :: l.drop (v + 1).toNat := by
  rw [List.drop_eq_getElem_cons (show v.toNat < l.length by omega), show (v + 1).toNat = v.toNat + 1 by omega, List.getD_eq_getElem?_getD, List.getElem?_eq_getElem (show v.toNat < l.length by omega)]; rfl
def NIn (p : GProgram) (n : GNode) : Prop := (0 ≤ n.Func ∧ n.Func < (p.Funcs.length : Int)) ∧ (n.Kind ≠ 1 → n.Kind ≠ 2 → (0 ≤ n.Block ∧ n.Block < ((p.Funcs.getD n.Func.toNat default).Blocks.length : Int)) ∧ (0 ≤ n.Stmt ∧ n.Stmt < ((((p.Funcs.getD n.Func.toNat default).Blocks).getD n.Block.toNat default).Stmts.length : Int)) ∧ n.Stmt < 100)
theorem nS_in (i k : Int) : ∀ (S : List GStmt) (v : Int) (n : GNode), n ∈ nS i k v S → n.Func = i ∧ n.Block = k ∧ (n.Kind = 3 ∨ n.Kind = 4) ∧ v ≤ n.Stmt ∧ n.Stmt < v + (S.length : Int)
  | [], v, n, h => by cases h
  | s :: S, v, n, h => by
    rw [nS] at h
    rcases List.mem_append.1 h with h' | h'
    · cases e : s.Op == 3
      · rw [e, cond_false, List.mem_singleton] at h'
        subst h'
        exact ⟨rfl, rfl, .inl rfl, by show v ≤ v; omega, by show v < v + _; rw [List.length_cons]; omega⟩
      · rw [e, cond_true] at h'
        simp only [List.mem_cons, List.not_mem_nil, or_false] at h'
        rcases h' with e | e <;> subst e
        · exact ⟨rfl, rfl, .inl rfl, by show v ≤ v; omega, by show v < v + _; rw [List.length_cons]; omega⟩
        · exact ⟨rfl, rfl, .inr rfl, by show v ≤ v; omega, by show v < v + _; rw [List.length_cons]; omega⟩
    · have := nS_in i k S (v + 1) n h'
      rw [List.length_cons]
      omega
theorem nB_in (i : Int) : ∀ (S : List GBlock) (v : Int) (n : GNode), n ∈ nB i v S → n.Func = i ∧ (n.Kind = 3 ∨ n.Kind = 4) ∧ (v ≤ n.Block ∧ n.Block < v + (S.length : Int)) ∧ 0 ≤ n.Stmt ∧ n.Stmt < ((S.getD (n.Block - v).toNat default).Stmts.length : Int)
  | [], v, n, h => by cases h
  | s :: S, v, n, h => by
    rw [nB] at h
    rcases List.mem_append.1 h with h' | h'
    · obtain ⟨a1, a2, a3, a4, a5⟩ := nS_in i v s.Stmts 0 n h'
      refine ⟨a1, a3, by rw [List.length_cons]; omega, a4, ?_⟩
      rw [show (n.Block - v).toNat = 0 by omega]
      show n.Stmt < (s.Stmts.length : Int)
      omega
    · obtain ⟨a1, a2, a3, a4, a5⟩ := nB_in i S (v + 1) n h'
      refine ⟨a1, a2, by rw [List.length_cons]; omega, a4, ?_⟩
      rw [show (n.Block - v).toNat = (n.Block - (v + 1)).toNat + 1 by omega]
      exact a5
theorem nF_in : ∀ (S : List GFunc) (v : Int) (n : GNode), n ∈ nF v S → (v ≤ n.Func ∧ n.Func < v + (S.length : Int)) ∧ (n.Kind ≠ 1 → n.Kind ≠ 2 → (n.Kind = 3 ∨ n.Kind = 4) ∧ (0 ≤ n.Block ∧ n.Block < ((S.getD (n.Func - v).toNat default).Blocks.length : Int)) ∧ 0 ≤ n.Stmt ∧ n.Stmt < ((((S.getD (n.Func - v).toNat default).Blocks).getD n.Block.toNat default).Stmts.length : Int))
  | [], v, n, h => by cases h
  | s :: S, v, n, h => by
    rw [nF] at h
    rw [List.length_cons]
    rcases List.mem_append.1 h with h | h'
    · rcases List.mem_append.1 h with h | h
      · rcases List.mem_append.1 h with h | h
        · rw [List.mem_singleton.1 h]
          exact ⟨by show v ≤ v ∧ v < v + _; omega, fun a => absurd rfl a⟩
        · obtain ⟨a1, a2, a3, a4, a5⟩ := nB_in v s.Blocks 0 n h
          refine ⟨by omega, fun _ _ => ?_⟩
          rw [show (n.Func - v).toNat = 0 by omega]
          rw [show (n.Block - 0).toNat = n.Block.toNat by omega] at a5
          exact ⟨a2, by show 0 ≤ n.Block ∧ n.Block < (s.Blocks.length : Int); omega, a4, a5⟩
      · rw [List.mem_singleton.1 h]
        exact ⟨by show v ≤ v ∧ v < v + _; omega, fun _ a => absurd rfl a⟩
    · obtain ⟨a1, a2⟩ := nF_in S (v + 1) n h'
      refine ⟨by omega, ?_⟩
      rw [show (n.Func - v).toNat = (n.Func - (v + 1)).toNat + 1 by omega]
      exact a2
theorem SmP_f {p : GProgram} (h : SmP p) (i : Nat) : SmF (p.Funcs.getD i default) := h i (by omega)
def key (n : GNode) : Int := n.Func * 100000 + (bif n.Kind == 1 then 0 else bif n.Kind == 2 then 99999 else 1 + n.Block * 1000 + n.Stmt * 2 + (bif n.Kind == 4 then 1 else 0))
theorem pw_append {a b : List GNode} (ha : a.Pairwise (fun x y => key x < key y)) (hb : b.Pairwise (fun x y => key x < key y)) (h : ∀ x ∈ a, ∀ y ∈ b, key x < key y) : (a ++ b).Pairwise (fun x y => key x < key y) := List.pairwise_append.2 ⟨ha, hb, h⟩
theorem nS_key {i k v : Int} {S : List GStmt} {n : GNode} (h : n ∈ nS i k v S) : i * 100000 + (1 + k * 1000 + v * 2) ≤ key n ∧ key n < i * 100000 + (1 + k * 1000 + (v + (S.length : Int)) * 2) := by
  obtain ⟨a1, a2, a3, a4, a5⟩ := nS_in i k S v n h
  unfold key
  rw [a1, a2]
  rcases a3 with e | e <;> rw [e]
  · rw [show ((3 : Int) == 1) = false from rfl, show ((3 : Int) == 2) = false from rfl, show ((3 : Int) == 4) = false from rfl]
    simp only [cond_false]; omega
  · rw [show ((4 : Int) == 1) = false from rfl, show ((4 : Int) == 2) = false from rfl, show ((4 : Int) == 4) = true from rfl]
    simp only [cond_false, cond_true]; omega
theorem nS_pw (i k : Int) : ∀ (S : List GStmt) (v : Int), (nS i k v S).Pairwise (fun x y => key x < key y)
  | [], v => List.Pairwise.nil
  | s :: S, v => by
    rw [nS]
    refine pw_append ?_ (nS_pw i k S (v + 1)) fun x hx y hy => ?_
    · cases s.Op == 3
      · exact List.pairwise_singleton _ _
      · refine List.Pairwise.cons (fun y hy => ?_) (List.pairwise_singleton _ _)
        rw [List.mem_singleton.1 hy]
        unfold key
        rw [show ((3 : Int) == 1) = false from rfl, show ((3 : Int) == 2) = false from rfl, show ((3 : Int) == 4) = false from rfl, show ((4 : Int) == 1) = false from rfl, show ((4 : Int) == 2) = false from rfl, show ((4 : Int) == 4) = true from rfl]
        simp only [cond_false, cond_true]; omega
    · have h1 := nS_key hy
      have h2 : x ∈ nS i k v [s] := by rw [nS, nS, List.append_nil]; exact hx
      have h3 := nS_key h2
      simp only [List.length_singleton] at h3
      omega
theorem nB_key {i v : Int} {S : List GBlock} {n : GNode} (hs : ∀ b ∈ S, b.Stmts.length ≤ 4) (h : n ∈ nB i v S) : i * 100000 + (1 + v * 1000) ≤ key n ∧ key n < i * 100000 + (1 + (v + (S.length : Int)) * 1000) := by
  obtain ⟨a1, a3, ⟨a4, a5⟩, a6, a7⟩ := nB_in i S v n h
  have hl := hs _ (getD_mem (xs := S) (i := (n.Block - v).toNat) (d := default) (by omega))
  unfold key
  rw [a1]
  rcases a3 with e | e <;> rw [e]
  · rw [show ((3 : Int) == 1) = false from rfl, show ((3 : Int) == 2) = false from rfl, show ((3 : Int) == 4) = false from rfl]
    simp only [cond_false]; omega
  · rw [show ((4 : Int) == 1) = false from rfl, show ((4 : Int) == 2) = false from rfl, show ((4 : Int) == 4) = true from rfl]
    simp only [cond_false, cond_true]; omega
theorem nB_pw (i : Int) : ∀ (S : List GBlock) (v : Int), (∀ b ∈ S, b.Stmts.length ≤ 4) → (nB i v S).Pairwise (fun x y => key x < key y)
  | [], v, _ => List.Pairwise.nil
  | s :: S, v, h => by
    rw [nB]
    refine pw_append (nS_pw i v s.Stmts 0) (nB_pw i S (v + 1) fun b hb => h b (List.mem_cons_of_mem _ hb)) fun x hx y hy => ?_
    have h1 := nS_key hx
    have h2 := nB_key (fun b hb => h b (List.mem_cons_of_mem _ hb)) hy
    have h3 := h s List.mem_cons_self
    omega
def smF (f : GFunc) : Prop := f.Blocks.length ≤ 3 ∧ ∀ b ∈ f.Blocks, b.Stmts.length ≤ 4
theorem key1 (i : Int) : key (GNode.mk 1 i (-1) (-1)) = i * 100000 := by unfold key; simp
theorem key2 (i : Int) : key (GNode.mk 2 i (-1) (-1)) = i * 100000 + 99999 := by unfold key; simp
theorem nF_key : ∀ {S : List GFunc} {v : Int} {n : GNode}, (∀ f ∈ S, smF f) → n ∈ nF v S → v * 100000 ≤ key n
  | [], v, n, _, h => by cases h
  | s :: S, v, n, hs, h => by
    rw [nF] at h
    have hb := hs s List.mem_cons_self
    rcases List.mem_append.1 h with h | h
    · rcases List.mem_append.1 h with h | h
      · rcases List.mem_append.1 h with h | h
        · rw [List.mem_singleton.1 h, key1]; omega
        · have := nB_key hb.2 h; omega
      · rw [List.mem_singleton.1 h, key2]; omega
    · have := nF_key (fun f hf => hs f (List.mem_cons_of_mem _ hf)) h; omega
theorem nF_pw : ∀ (S : List GFunc) (v : Int), (∀ f ∈ S, smF f) → (nF v S).Pairwise (fun x y => key x < key y)
  | [], v, _ => List.Pairwise.nil
  | s :: S, v, hs => by
    rw [nF]
    have hb := hs s List.mem_cons_self
    refine pw_append (pw_append (pw_append (List.pairwise_singleton _ _) (nB_pw v s.Blocks 0 hb.2) fun x hx y hy => ?_) (List.pairwise_singleton _ _) fun x hx y hy => ?_) (nF_pw S (v + 1) fun f hf => hs f (List.mem_cons_of_mem _ hf)) fun x hx y hy => ?_
    · rw [List.mem_singleton.1 hx, key1]
      have := nB_key hb.2 hy; omega
    · rw [List.mem_singleton.1 hy, key2]
      rcases List.mem_append.1 hx with h | h
      · rw [List.mem_singleton.1 h, key1]; omega
      · have := nB_key hb.2 h; have := hb.1; omega
    · have h1 := nF_key (fun f hf => hs f (List.mem_cons_of_mem _ hf)) hy
      rcases List.mem_append.1 hx with h | h
      · rcases List.mem_append.1 h with h | h
        · rw [List.mem_singleton.1 h, key1]; omega
        · have := nB_key hb.2 h; have := hb.1; omega
      · rw [List.mem_singleton.1 h, key2]; omega
theorem pw_getD {l : List GNode} (h : l.Pairwise (fun x y => key x < key y)) {i j : Nat} (hij : i < j) (hj : j < l.length) : key (l.getD i default) < key (l.getD j default) := by
  rw [List.getD_eq_getElem?_getD, List.getD_eq_getElem?_getD, List.getElem?_eq_getElem hj, List.getElem?_eq_getElem (Nat.lt_trans hij hj)]
  exact List.pairwise_iff_getElem.1 h i j _ _ hij
theorem mem_at {l : List GNode} {n : GNode} (h : n ∈ l) : ∃ i : Int, (0 ≤ i ∧ i < (l.length : Int)) ∧ l.getD i.toNat default = n := by
  obtain ⟨j, j1, e⟩ := List.getElem_of_mem h
  refine ⟨(j : Int), by omega, ?_⟩
  rw [show ((j : Int)).toNat = j by omega, List.getD_eq_getElem?_getD, List.getElem?_eq_getElem j1]
  exact e
def one (i k v : Int) (s : GStmt) : List GNode := bif s.Op == 3 then [GNode.mk 3 i k v, GNode.mk 4 i k v] else [GNode.mk 3 i k v]
def Adv (n a x : Int) : Prop := a ≤ x ∧ x ≤ n
theorem adv_trans {n a b x : Int} (h : Adv n a b) (k : Adv n b x) : Adv n a x := ⟨Int.le_trans h.1 k.1, k.2⟩
theorem Next_rg (t : List Int) (k n : Int) (hn : n ≤ 9223372036854775807) : 0 ≤ (Tape_Next t k n).1 ∧ ((Tape_Next t k n).1 < n ∨ (Tape_Next t k n).1 = 0) := by
  unfold Tape_Next
  by_cases h1 : n ≤ 1
  · simp [h1]
  · by_cases h2 : (t.length : Int) ≤ k
    · simp [h1, h2]
    · simp only [decide_eq_false h1, decide_eq_false h2, cond_false]
      have := mod_range (t.getD (k + 1 - 1).toNat 0) n (by omega)
      unfold flqgen_Mod
      exact ⟨this.1, .inl this.2⟩
theorem name_in (t : List Int) (i : Int) : (Tape_name t i).1 ∈ N4 := by
  unfold Tape_name N4
  have h := Next_rg t i 4 (by omega)
  dsimp only
  generalize (Tape_Next t i 4).1 = x at h
  have : x = 0 ∨ x = 1 ∨ x = 2 ∨ x = 3 := by omega
  rcases this with h | h | h | h <;> subst h <;> simp
theorem stmt_Q (t : List Int) (i n : Int) : QS 3 2 (Tape_stmt t i n).1 = true := by
  unfold Tape_stmt
  dsimp only
  simp only [Bool.cond_eq_ite]
  repeat' split
  all_goals (unfold QS; simp)
  all_goals omega
theorem Program_L2_Q (t : List Int) (n : Int) : ∀ (r : Nat) (i : Int) (b : List GStmt) (k : Int), b.all (QS 3 2) = true → (Tape_Program_L2 t n r i b k).2.all (QS 3 2) = true
  | 0, i, b, k, h => by rw [Tape_Program_L2]; exact h
  | r + 1, i, b, k, h => by
    rw [Tape_Program_L2]
    refine Program_L2_Q t n r _ _ _ ?_
    rw [List.all_append, h, List.all_cons, stmt_Q]; rfl
theorem Program_L2_len (t : List Int) (n : Int) : ∀ (r : Nat) (i : Int) (b : List GStmt) (k : Int), (Tape_Program_L2 t n r i b k).2.length = b.length + r
  | 0, i, b, k => by rw [Tape_Program_L2]; rfl
  | r + 1, i, b, k => by
    rw [Tape_Program_L2]
    rw [Program_L2_len t n r, List.length_append]; simp; omega
theorem Program_L1_Q (t : List Int) (n m : Int) : ∀ (r : Nat) (i : Int) (b : List GBlock) (k : Int), b.all (QB 3 2) = true ∧ b.all QL = true → ((Tape_Program_L1 t n m r i b k).2.all (QB 3 2) = true ∧ (Tape_Program_L1 t n m r i b k).2.all QL = true) ∧ (Tape_Program_L1 t n m r i b k).2.length = b.length + r
  | 0, i, b, k, h => by rw [Tape_Program_L1]; exact ⟨h, rfl⟩
  | r + 1, i, b, k, h => by
    rw [Tape_Program_L1]
    have h2 := Program_L2_Q t n (((Tape_Next t i 4).1 : Int).toNat) (Tape_Next t i 4).2 [] (Tape_Next t i 4).1 rfl
    have h3 := Program_L2_len t n (((Tape_Next t i 4).1 : Int).toNat) (Tape_Next t i 4).2 [] (Tape_Next t i 4).1
    have hn := Next_rg t i 4 (by omega)
    dsimp only
    generalize Tape_Program_L2 t n (((Tape_Next t i 4).1 : Int).toNat) (Tape_Next t i 4).2 [] (Tape_Next t i 4).1 = R at h2 h3
    obtain ⟨o0, o1⟩ := R
    dsimp only at h2 h3 ⊢
    have step : ∀ (i' : Int) (nm : Str) (s : GStmt), QS 3 2 s = true → ((Tape_Program_L1 t n m r i' (b ++ [GBlock.mk nm (o1 ++ [s])]) (k + 1)).2.all (QB 3 2) = true ∧ (Tape_Program_L1 t n m r i' (b ++ [GBlock.mk nm (o1 ++ [s])]) (k + 1)).2.all QL = true) ∧ (Tape_Program_L1 t n m r i' (b ++ [GBlock.mk nm (o1 ++ [s])]) (k + 1)).2.length = b.length + (r + 1) := fun i' nm s hs => by
      obtain ⟨a1, a2⟩ := Program_L1_Q t n m r i' (b ++ [GBlock.mk nm (o1 ++ [s])]) (k + 1) ⟨by
        rw [List.all_append, h.1, List.all_cons]
        unfold QB
        dsimp only
        rw [List.all_append, h2, List.all_cons, hs]; rfl, by
        rw [List.all_append, h.2, List.all_cons]
        unfold QL
        dsimp only
        rw [List.length_append, h3, decide_eq_true (by simp; omega)]; rfl⟩
      exact ⟨a1, by rw [a2]; simp; omega⟩
    simp only [Bool.cond_eq_ite]
    repeat' split
    all_goals exact step _ _ _ (by unfold QS; simp)
theorem Program_L0_Q (t : List Int) (n : Int) : ∀ (r : Nat) (i : Int) (b : List GFunc) (k : Int), (b.all (QF 3 2) = true ∧ ∀ f ∈ b, SpF f) → ((Tape_Program_L0 t n r i b k).2.all (QF 3 2) = true ∧ ∀ f ∈ (Tape_Program_L0 t n r i b k).2, SpF f) ∧ (Tape_Program_L0 t n r i b k).2.length = b.length + r
  | 0, i, b, k, h => by rw [Tape_Program_L0]; exact ⟨h, rfl⟩
  | r + 1, i, b, k, h => by
    rw [Tape_Program_L0]
    have hn := Next_rg t i 3 (by omega)
    have h2 := Program_L1_Q t n (1 + (Tape_Next t i 3).1) ((((1 + (Tape_Next t i 3).1) : Int) - 0).toNat) (Tape_Next t i 3).2 [] 0 ⟨rfl, rfl⟩
    dsimp only
    generalize Tape_Program_L1 t n (1 + (Tape_Next t i 3).1) ((((1 + (Tape_Next t i 3).1) : Int) - 0).toNat) (Tape_Next t i 3).2 [] 0 = R at h2
    obtain ⟨o0, o1⟩ := R
    dsimp only at h2 ⊢
    obtain ⟨a1, a2⟩ := Program_L0_Q t n r o0 (b ++ [GFunc.mk ([(Str.mk [109]), (Str.mk [102]), (Str.mk [103])].getD (k : Int).toNat default) o1]) (k + 1) ⟨by
      rw [List.all_append, h.1, List.all_cons]; unfold QF; dsimp only; rw [h2.1.1]; rfl, fun f hf => by
      rcases List.mem_append.1 hf with h' | h'
      · exact h.2 f h'
      · rw [List.mem_singleton] at h'
        subst h'
        have := h2.2
        refine ⟨?_, h2.1.2⟩
        dsimp only
        rw [this]; simp; omega⟩
    exact ⟨a1, by rw [a2]; simp; omega⟩
theorem Program_SpP {t : List Int} {i : Int} {r : GProgram × Int} (h : Tape_Program t i = r) : SpP r.1 := by
  subst h
  unfold Tape_Program
  have hn := Next_rg t i 3 (by omega)
  have h2 := Program_L0_Q t (1 + (Tape_Next t i 3).1) ((((1 + (Tape_Next t i 3).1) : Int) - 0).toNat) (Tape_Next t i 3).2 [] 0 ⟨rfl, fun f h => by cases h⟩
  dsimp only
  generalize Tape_Program_L0 t (1 + (Tape_Next t i 3).1) ((((1 + (Tape_Next t i 3).1) : Int) - 0).toNat) (Tape_Next t i 3).2 [] 0 = R at h2
  obtain ⟨o0, o1⟩ := R
  dsimp only at h2 ⊢
  exact ⟨by show 1 ≤ o1.length ∧ o1.length ≤ 3; rw [h2.2]; simp; omega, h2.1.2, h2.1.1⟩
theorem Program_PSm' {t : List Int} {i : Int} {r : GProgram × Int} (h : Tape_Program t i = r) : PSm (GProgram.mk r.1.Funcs) = true := SpP_PSm (Program_SpP h)
theorem Cont_string (s : List Str) (v : Str) : slices_Contains_string s v = s.any (fun k => k == v) := by
  have := scan' (fun r i => slices_Index_string_L0 s v r i) (fun i => v == (s.getD i.toNat default)) () (fun _ => rfl) (fun _ _ => rfl) ((((s.length : Nat) : Int) - 0).toNat) 0
  unfold slices_Contains_string slices_Index_string
  rw [Bool.eq_iff_iff, List.any_eq_true]
  rcases this with ⟨j, e, j1, j2, j3⟩ | ⟨e, h⟩
  · rw [e]; exact ⟨fun _ => ⟨s.getD j.toNat default, getD_mem (by omega), by rw [beq_iff_eq] at j3 ⊢; exact j3.symm⟩, fun _ => by simpa using j1⟩
  · rw [e]
    refine ⟨fun h => by simp at h, ?_⟩
    rintro ⟨x, hx, hfx⟩
    obtain ⟨j, j1, j2, j3⟩ := (mem_getDg (d := default)).1 hx
    have := h j j1 (by omega)
    rw [j3] at this; rw [beq_iff_eq] at hfx; rw [hfx] at this; simp at this
theorem wordEnd_all (s : Str) : (lexer_wordEnd s 0 == ((s.b.length : Nat) : Int)) = s.b.all (fun c => lexer_part (c.toNat : Int)) := by
  have key : ∀ (suf pre : List UInt8), s.b = pre ++ suf → (lexer_wordEnd_L0 s suf.length (pre.length : Int) == ((s.b.length : Nat) : Int)) = suf.all (fun c => lexer_part (c.toNat : Int)) := fun suf => by
    induction suf with
    | nil => intro pre h; rw [List.length_nil, lexer_wordEnd_L0, h, List.append_nil, List.all_nil]; simp
    | cons a suf ih =>
      intro pre h
      have hg : s.b.getD ((pre.length : Int)).toNat 0 = a := by rw [h]; simp
      have hlen : s.b.length = pre.length + (suf.length + 1) := by rw [h]; simp
      rw [List.length_cons, lexer_wordEnd_L0, hg, List.all_cons]
      try dsimp only
      cases hp : lexer_part (a.toNat : Int)
      · rw [cond_false, Bool.false_and, hlen]; simp; omega
      · rw [cond_true, Bool.true_and]
        have := ih (pre ++ [a]) (by rw [h]; simp)
        rw [List.length_append, List.length_cons, List.length_nil, Int.natCast_add] at this
        exact this
  have := key s.b [] rfl
  unfold lexer_wordEnd
  rw [show (((s.b.length : Nat) : Int) - 0).toNat = s.b.length by omega]
  exact this
theorem CF_Stmt (s : List GStmt) (fp : GStmt → Bool) : slices_ContainsFunc_Stmt s fp = s.any fp := by
  have := scan' (fun r i => slices_IndexFunc_Stmt_L0 s fp r i) (fun i => fp (s.getD i.toNat default)) () (fun _ => rfl) (fun _ _ => rfl) ((((s.length : Nat) : Int) - 0).toNat) 0
  unfold slices_ContainsFunc_Stmt slices_IndexFunc_Stmt
  rw [Bool.eq_iff_iff, List.any_eq_true]
  rcases this with ⟨j, e, j1, j2, j3⟩ | ⟨e, h⟩
  · rw [e]; exact ⟨fun _ => ⟨_, getD_mem (by omega), j3⟩, fun _ => by simpa using j1⟩
  · rw [e]
    refine ⟨fun h => by simp at h, ?_⟩
    rintro ⟨x, hx, hfx⟩
    obtain ⟨j, j1, j2, j3⟩ := (mem_getDg (d := default)).1 hx
    have := h j j1 (by omega)
    rw [j3] at this; rw [hfx] at this; cases this
theorem CF_string (s : List Str) (fp : Str → Bool) : slices_ContainsFunc_string s fp = s.any fp := by
  have := scan' (fun r i => slices_IndexFunc_string_L0 s fp r i) (fun i => fp (s.getD i.toNat default)) () (fun _ => rfl) (fun _ _ => rfl) ((((s.length : Nat) : Int) - 0).toNat) 0
  unfold slices_ContainsFunc_string slices_IndexFunc_string
  rw [Bool.eq_iff_iff, List.any_eq_true]
  rcases this with ⟨j, e, j1, j2, j3⟩ | ⟨e, h⟩
  · rw [e]; exact ⟨fun _ => ⟨_, getD_mem (by omega), j3⟩, fun _ => by simpa using j1⟩
  · rw [e]
    refine ⟨fun h => by simp at h, ?_⟩
    rintro ⟨x, hx, hfx⟩
    obtain ⟨j, j1, j2, j3⟩ := (mem_getDg (d := default)).1 hx
    have := h j j1 (by omega)
    rw [j3] at this; rw [hfx] at this; cases this
theorem valid_b {s : GStmt} (h : syntax_valid s = true) : s.Uses.length ≤ 4 ∧ s.Targets.length ≤ 2 := by
  unfold syntax_valid at h
  dsimp only at h
  generalize (slices_ContainsFunc_string (slices_Clone_string s.Uses ++ s.Targets ++ [s.Def]) fun x => syntax_valid_1 x) = A at h
  generalize (slices_ContainsFunc_string (slices_Clone_string s.Uses ++ s.Targets) fun x => syntax_valid_1 x) = B at h
  generalize s.Uses.length = U at *
  generalize s.Targets.length = V at *
  have kf : ∀ (c x : Bool), (bif c then x else false) = (c && x) := fun c x => by cases c <;> rfl
  simp only [kf] at h
  have kt : ∀ (c x y : Bool), (bif c then x else y) = true → (c = true ∧ x = true) ∨ (c = false ∧ y = true) := fun c x y h => by
    cases c
    · exact .inr ⟨rfl, h⟩
    · exact .inl ⟨rfl, h⟩
  have kn : ∀ {P : Prop} {c x y : Bool}, (bif c then x else y) = true → (x = true → P) → (y = true → P) → P := fun {P c x y} h k1 k2 => by
    cases c
    · exact k2 h
    · exact k1 h
  iterate 9
    first
    | (refine kn h (fun h => ?_) (fun h => ?_)
       · simp only [Bool.and_eq_true, beq_iff_eq, decide_eq_true_eq] at h; omega)
    | skip
  all_goals (simp only [Bool.and_eq_true, beq_iff_eq, decide_eq_true_eq] at h; omega)
theorem SVal_eq (p : GProgram) : syntax_Valid p = (decide (1 ≤ p.Funcs.length ∧ p.Funcs.length ≤ 8) && p.Funcs.all fun f => lexer_IsName f.Name && (decide (1 ≤ f.Blocks.length ∧ f.Blocks.length ≤ 16) && f.Blocks.all fun b => lexer_IsName b.Name && (decide (1 ≤ b.Stmts.length ∧ b.Stmts.length ≤ 32) && b.Stmts.all syntax_valid))) := by
  have l2 : ∀ (b : List GStmt), slices_ContainsFunc_Stmt b (fun x => syntax_Valid_1 x) = !(b.all syntax_valid) := fun b => by
    rw [CF_Stmt, List.all_eq_not_any_not, Bool.not_not]
    congr 1
  have l1 : ∀ (f : List GBlock), syntax_Valid_L1 f ((f.length : Int) - 0).toNat 0 = if (f.all fun b => lexer_IsName b.Name && (decide (1 ≤ b.Stmts.length ∧ b.Stmts.length ≤ 32) && b.Stmts.all syntax_valid)) = true then .brk () else .ret false := fun f =>
    allL (syntax_Valid_L1 f) (fun i => by rw [syntax_Valid_L1]) fun r i h0 h1 => by
      rw [syntax_Valid_L1]
      generalize hb : f.getD i.toNat default = b
      have e := l2 b.Stmts
      simp only [Bool.cond_eq_ite]
      cases hN : lexer_IsName b.Name
      · simp
      by_cases h1 : ((b.Stmts.length : Nat) : Int) < 1
      · have : ¬ (1 ≤ b.Stmts.length ∧ b.Stmts.length ≤ 32) := by omega
        simp [h1, this]
      by_cases h2 : (32 : Int) < ((b.Stmts.length : Nat) : Int)
      · have : ¬ (1 ≤ b.Stmts.length ∧ b.Stmts.length ≤ 32) := by omega
        simp [h1, h2, this]
      have h3 : (1 ≤ b.Stmts.length ∧ b.Stmts.length ≤ 32) := by omega
      rw [e]
      simp only [h1, h2, decide_false, h3, decide_true, Bool.not_true, Bool.true_and, and_self, reduceIte, Bool.false_eq_true]
      all_goals (cases b.Stmts.all syntax_valid <;> rfl)
  have l0 : syntax_Valid_L0 p ((p.Funcs.length : Int) - 0).toNat 0 = if (p.Funcs.all fun f => lexer_IsName f.Name && (decide (1 ≤ f.Blocks.length ∧ f.Blocks.length ≤ 16) && f.Blocks.all fun b => lexer_IsName b.Name && (decide (1 ≤ b.Stmts.length ∧ b.Stmts.length ≤ 32) && b.Stmts.all syntax_valid))) = true then .brk () else .ret false :=
    allL (syntax_Valid_L0 p) (fun i => by rw [syntax_Valid_L0]) fun r i h0 h1 => by
      rw [syntax_Valid_L0]
      generalize hb : p.Funcs.getD i.toNat default = f
      have e := l1 f.Blocks
      simp only [Bool.cond_eq_ite]
      cases hN : lexer_IsName f.Name
      · simp
      by_cases h1 : ((f.Blocks.length : Nat) : Int) < 1
      · have : ¬ (1 ≤ f.Blocks.length ∧ f.Blocks.length ≤ 16) := by omega
        simp [h1, this]
      by_cases h2 : (16 : Int) < ((f.Blocks.length : Nat) : Int)
      · have : ¬ (1 ≤ f.Blocks.length ∧ f.Blocks.length ≤ 16) := by omega
        simp [h1, h2, this]
      have h3 : (1 ≤ f.Blocks.length ∧ f.Blocks.length ≤ 16) := by omega
      rw [e]
      simp only [h1, h2, decide_false, h3, decide_true, Bool.not_true, Bool.true_and, and_self, reduceIte, Bool.false_eq_true]
      generalize (f.Blocks.all _) = q
      all_goals (cases q <;> rfl)
  rw [syntax_Valid]
  by_cases h1 : ((p.Funcs.length : Nat) : Int) < 1
  · have : ¬ (1 ≤ p.Funcs.length ∧ p.Funcs.length ≤ 8) := by omega
    simp [h1, this]
  by_cases h2 : (8 : Int) < ((p.Funcs.length : Nat) : Int)
  · have : ¬ (1 ≤ p.Funcs.length ∧ p.Funcs.length ≤ 8) := by omega
    simp [h1, h2, this]
  have h3 : (1 ≤ p.Funcs.length ∧ p.Funcs.length ≤ 8) := by omega
  rw [l0]
  simp only [h1, h2, h3, decide_false, decide_true, cond_false, Bool.true_and, and_self]
  generalize (p.Funcs.all _) = q
  all_goals (cases q <;> rfl)
theorem SVal_b {p : GProgram} (h : syntax_Valid p = true) : p.Funcs.length ≤ 8 ∧ ∀ i : Nat, (p.Funcs.getD i default).Blocks.length ≤ 16 ∧ ∀ k : Nat, ((p.Funcs.getD i default).Blocks.getD k default).Stmts.length ≤ 32 ∧ ∀ j : Nat, (((p.Funcs.getD i default).Blocks.getD k default).Stmts.getD j default).Uses.length ≤ 4 ∧ (((p.Funcs.getD i default).Blocks.getD k default).Stmts.getD j default).Targets.length ≤ 2 := by
  rw [SVal_eq] at h
  simp only [Bool.and_eq_true, decide_eq_true_eq, List.all_eq_true] at h
  have gm : ∀ {α : Type} [Inhabited α] (l : List α) (i : Nat), l.getD i default ∈ l ∨ l.getD i default = default := fun l i => by
    by_cases hi : i < l.length
    · left; rw [List.getD_eq_getElem?_getD, List.getElem?_eq_getElem hi]; exact List.getElem_mem hi
    · right; rw [List.getD_eq_getElem?_getD, List.getElem?_eq_none (by omega)]; rfl
  refine ⟨h.1.2, fun i => ?_⟩
  rcases gm p.Funcs i with hf | hf
  · have hF := (h.2 _ hf).2
    refine ⟨hF.1.2, fun k => ?_⟩
    rcases gm (p.Funcs.getD i default).Blocks k with hb | hb
    · have hB := (hF.2 _ hb).2
      refine ⟨hB.1.2, fun j => ?_⟩
      rcases gm ((p.Funcs.getD i default).Blocks.getD k default).Stmts j with hs | hs
      · exact valid_b (hB.2 _ hs)
      · rw [hs]; decide
    · rw [hb]
      exact ⟨by decide, fun j => by rw [show (default : GBlock).Stmts = [] from rfl]; simp; decide⟩
  · rw [hf]
    refine ⟨by decide, fun k => ?_⟩
    rw [show (default : GFunc).Blocks = [] from rfl]
    exact ⟨by simp; decide, fun j => by simp [show (default : GBlock).Stmts = [] from rfl]; decide⟩
theorem nodupF (l : List GFunc) (nm : GFunc → Str) (nn : Int → Str) (h3 : l.length ≤ 3) (hn : ∀ j : Nat, j < l.length → nm (l.getD j default) = nn (j : Int)) (inj : ∀ {i j : Int}, 0 ≤ i ∧ i < 3 → 0 ≤ j ∧ j < 3 → nn i = nn j → i = j) : ∀ (r : Nat) (m : List (Str × Bool)) (v : Int), 0 ≤ v → v + (r : Int) = (l.length : Int) → (∀ s, (mget m s).getD false = true ↔ ∃ j : Int, 0 ≤ j ∧ j < v ∧ s = nn j) →
    (validate_duplicate_Func_L0 l nm r m (-1) v).2 = -1 ∧ ∀ s, (mget (validate_duplicate_Func_L0 l nm r m (-1) v).1 s).getD false = true ↔ ∃ j : Int, 0 ≤ j ∧ j < (l.length : Int) ∧ s = nn j
  | 0, m, v, h0, h1, h => by
    rw [validate_duplicate_Func_L0]
    refine ⟨rfl, fun s => ?_⟩
    rw [h, show v = (l.length : Int) by omega]
  | r + 1, m, v, h0, h1, h => by
    rw [validate_duplicate_Func_L0]
    have e : nm (l.getD v.toNat default) = nn v := by rw [hn _ (by omega), show ((v.toNat : Nat) : Int) = v by omega]
    rw [e]
    have hf : (mget m (nn v)).getD false = false := by
      rw [Bool.eq_false_iff]
      intro hc
      obtain ⟨j, j1, j2, j3⟩ := (h _).1 hc
      have := inj (by omega) (by omega) j3
      omega
    rw [hf, cond_false]
    refine nodupF l nm nn h3 hn inj r _ _ (by omega) (by omega) fun s => ?_
    rw [mget_mset]
    by_cases es : nn v = s
    · rw [if_pos es]
      exact ⟨fun _ => ⟨v, h0, by omega, es.symm⟩, fun _ => rfl⟩
    · rw [if_neg es, h]
      constructor
      · rintro ⟨j, j1, j2, j3⟩; exact ⟨j, j1, by omega, j3⟩
      · rintro ⟨j, j1, j2, j3⟩
        refine ⟨j, j1, ?_, j3⟩
        rcases Int.lt_or_le j v with h' | h'
        · exact h'
        · exact absurd (by rw [show v = j by omega]; exact j3.symm) es
theorem nodupB (l : List GBlock) (nm : GBlock → Str) (nn : Int → Str) (h3 : l.length ≤ 3) (hn : ∀ j : Nat, j < l.length → nm (l.getD j default) = nn (j : Int)) (inj : ∀ {i j : Int}, 0 ≤ i ∧ i < 3 → 0 ≤ j ∧ j < 3 → nn i = nn j → i = j) : ∀ (r : Nat) (m : List (Str × Bool)) (v : Int), 0 ≤ v → v + (r : Int) = (l.length : Int) → (∀ s, (mget m s).getD false = true ↔ ∃ j : Int, 0 ≤ j ∧ j < v ∧ s = nn j) →
    (validate_duplicate_Block_L0 l nm r m (-1) v).2 = -1 ∧ ∀ s, (mget (validate_duplicate_Block_L0 l nm r m (-1) v).1 s).getD false = true ↔ ∃ j : Int, 0 ≤ j ∧ j < (l.length : Int) ∧ s = nn j
  | 0, m, v, h0, h1, h => by
    rw [validate_duplicate_Block_L0]
    refine ⟨rfl, fun s => ?_⟩
    rw [h, show v = (l.length : Int) by omega]
  | r + 1, m, v, h0, h1, h => by
    rw [validate_duplicate_Block_L0]
    have e : nm (l.getD v.toNat default) = nn v := by rw [hn _ (by omega), show ((v.toNat : Nat) : Int) = v by omega]
    rw [e]
    have hf : (mget m (nn v)).getD false = false := by
      rw [Bool.eq_false_iff]
      intro hc
      obtain ⟨j, j1, j2, j3⟩ := (h _).1 hc
      have := inj (by omega) (by omega) j3
      omega
    rw [hf, cond_false]
    refine nodupB l nm nn h3 hn inj r _ _ (by omega) (by omega) fun s => ?_
    rw [mget_mset]
    by_cases es : nn v = s
    · rw [if_pos es]
      exact ⟨fun _ => ⟨v, h0, by omega, es.symm⟩, fun _ => rfl⟩
    · rw [if_neg es, h]
      constructor
      · rintro ⟨j, j1, j2, j3⟩; exact ⟨j, j1, by omega, j3⟩
      · rintro ⟨j, j1, j2, j3⟩
        refine ⟨j, j1, ?_, j3⟩
        rcases Int.lt_or_le j v with h' | h'
        · exact h'
        · exact absurd (by rw [show v = j by omega]; exact j3.symm) es
theorem st_ok {s : GStmt} {last : Bool} {m : List (Str × Bool)} (h1 : validate_terminator s = last) (h2 : ∀ t ∈ s.Targets, (mget m t).getD false = true) : validate_statement s last m = 0 := by
  have l0 : ∀ (r : Nat) (v : Int), 0 ≤ v → v + (r : Int) = (s.Targets.length : Int) → validate_statement_L0 s m r v = .brk () := fun r => by
    induction r with
    | zero => intro v _ _; rw [validate_statement_L0]
    | succ r ih =>
      intro v h0 h1
      rw [validate_statement_L0, h2 _ (getD_mem (by omega))]
      exact ih _ (by omega) (by omega)
  unfold validate_statement
  dsimp only
  rw [h1, l0 _ 0 (by omega) (by omega)]
  all_goals (cases last <;> rfl)
theorem sz2 (S : List GStmt) : ∀ (r : Nat) (a b v : Int), (validate_each_Sizes_1_L2 S r a b v).1 ≤ a + 2 * (r : Int) ∧ (validate_each_Sizes_1_L2 S r a b v).2 ≤ b + 3 * (r : Int)
  | 0, a, b, v => by
    -- validate_Sizes is behind
    rw [validate_each_Sizes_1_L2]; exact ⟨by simp, by simp⟩
  | r + 1, a, b, v => by
    rw [validate_each_Sizes_1_L2]
    try dsimp only
    have h := sz2 S r (validate_Sizes_1 (S.getD v.toNat default) a b).1 (validate_Sizes_1 (S.getD v.toNat default) a b).2 (v + 1)
    have hs : (validate_Sizes_1 (S.getD v.toNat default) a b).1 ≤ a + 2 ∧ (validate_Sizes_1 (S.getD v.toNat default) a b).2 ≤ b + 3 := by
      unfold validate_Sizes_1
      cases (S.getD v.toNat default).Op == 3
      · cases (S.getD v.toNat default).Op == 8 <;> (simp only [cond_false, cond_true]; omega)
      · simp only [cond_true]; omega
    omega
theorem vi1 {n : Str} {m : List (Str × Bool)} {o : List Str} (h : VI (m, o)) (hn : n = Str.mk [] ∨ n ∈ N4) : VI (validate_Variables_1 n m o) := by
  obtain ⟨h1, h2, h3⟩ := h
  dsimp only at h1 h2 h3
  unfold validate_Variables_1
  cases e : n != Str.mk []
  · exact ⟨h1, h2, h3⟩
  have hm : n ∈ N4 := by
    rcases hn with h | h
    · rw [h] at e; simp at e
    · exact h
  cases e2 : (mget m n).getD false
  · refine ⟨fun s hs => ?_, ?_, fun s hs => ?_⟩
    · show (mget (mset m n true) s).getD false = true
      rw [mget_mset]
      by_cases es : n = s
      · rw [if_pos es]; rfl
      · rw [if_neg es]
        rcases List.mem_append.1 hs with h' | h'
        · exact h1 s h'
        · exact absurd (List.mem_singleton.1 h').symm es
    · refine List.nodup_append.2 ⟨h2, by simp, fun a ha b hb => ?_⟩
      rw [List.mem_singleton.1 hb]
      intro e3
      rw [e3] at ha
      rw [h1 n ha] at e2
      cases e2
    · rcases List.mem_append.1 hs with h' | h'
      · exact h3 s h'
      · rw [List.mem_singleton.1 h']; exact hm
  · exact ⟨h1, h2, h3⟩
theorem viS {s : GStmt} (hs : vS s) {m : List (Str × Bool)} {o : List Str} (h : VI (m, o)) : VI (validate_Variables_2_Variables_1 s m o) := by
  have l0 : ∀ (r : Nat) (m : List (Str × Bool)) (o : List Str) (v : Int), VI (m, o) → 0 ≤ v → v + (r : Int) = (s.Uses.length : Int) → VI (validate_Variables_2_Variables_1_L0 s r m o v) := fun r => by
    -- validate_Variables is behind
    induction r with
    | zero => intro m o v h _ _; rw [validate_Variables_2_Variables_1_L0]; exact h
    | succ r ih =>
      intro m o v h h0 h1
      rw [validate_Variables_2_Variables_1_L0]
      exact ih _ _ _ (vi1 h (.inr (hs.2.1 _ (getD_mem (by omega))))) (by omega) (by omega)
  unfold validate_Variables_2_Variables_1
  exact l0 _ _ _ 0 (vi1 h hs.1) (by omega) (by omega)
theorem vi2 (S : List GStmt) (hs : ∀ s ∈ S, vS s) : ∀ (r : Nat) (m : List (Str × Bool)) (o : List Str) (v : Int), VI (m, o) → 0 ≤ v → v + (r : Int) = (S.length : Int) → VI (validate_each_Variables_2_L2 S r m o v)
  | 0, m, o, v, h, _, _ => by
    -- validate_Variables is behind
    rw [validate_each_Variables_2_L2]; exact h
  | r + 1, m, o, v, h, h0, h1 => by
    rw [validate_each_Variables_2_L2]
    exact vi2 S hs r _ _ _ (viS (hs _ (getD_mem (by omega))) h) (by omega) (by omega)
theorem vi3 (S : List GBlock) (hs : ∀ b ∈ S, ∀ s ∈ b.Stmts, vS s) : ∀ (r : Nat) (m : List (Str × Bool)) (o : List Str) (v : Int), VI (m, o) → 0 ≤ v → v + (r : Int) = (S.length : Int) → VI (validate_each_Variables_2_L1 S r m o v)
  | 0, m, o, v, h, _, _ => by
    -- validate_Variables is behind
    rw [validate_each_Variables_2_L1]; exact h
  | r + 1, m, o, v, h, h0, h1 => by
    rw [validate_each_Variables_2_L1]
    exact vi3 S hs r _ _ _ (vi2 _ (hs _ (getD_mem (by omega))) _ _ _ 0 h (by omega) (by omega)) (by omega) (by omega)
theorem vi4 (p : GProgram) (hs : ∀ f ∈ p.Funcs, ∀ b ∈ f.Blocks, ∀ s ∈ b.Stmts, vS s) : ∀ (r : Nat) (m : List (Str × Bool)) (o : List Str) (v : Int), VI (m, o) → 0 ≤ v → v + (r : Int) = (p.Funcs.length : Int) → VI (validate_each_Variables_2_L0 p r m o v)
  | 0, m, o, v, h, _, _ => by
    -- validate_Variables is behind
    rw [validate_each_Variables_2_L0]; exact h
  | r + 1, m, o, v, h, h0, h1 => by
    rw [validate_each_Variables_2_L0]
    exact vi4 p hs r _ _ _ (vi3 _ (hs _ (getD_mem (by omega))) _ _ _ 0 h (by omega) (by omega)) (by omega) (by omega)
theorem Check_b {p : GProgram} {r : GNode × Int} (h : validate_Check p = r) (h2 : (r.2 != 0) = false) : syntax_Valid p = true := by
  subst h
  cases e : syntax_Valid p
  · unfold validate_Check at h2
    rw [e] at h2
    cases h2
  · rfl
theorem list2 (i k : Int) (S : List GStmt) : ∀ (r : Nat) (o : List GNode) (v : Int), 0 ≤ v → v + (r : Int) = (S.length : Int) → nodes_List_L2 i k S r o v = o ++ nS i k v (S.drop v.toNat)
  | 0, o, v, h0, h1 => by rw [nodes_List_L2, List.drop_eq_nil_of_le (by omega), nS, List.append_nil]
  | r + 1, o, v, h0, h1 => by
    rw [nodes_List_L2, list2 i k S r _ _ (by omega) (by omega), list2 i k S r _ _ (by omega) (by omega), getD_dropz h0 (by omega), nS]
    cases (S.getD v.toNat default).Op == 3 <;> simp
theorem list1 (i : Int) (S : List GBlock) : ∀ (r : Nat) (o : List GNode) (v : Int), 0 ≤ v → v + (r : Int) = (S.length : Int) → nodes_List_L1 i S r o v = o ++ nB i v (S.drop v.toNat)
  | 0, o, v, h0, h1 => by rw [nodes_List_L1, List.drop_eq_nil_of_le (by omega), nB, List.append_nil]
  | r + 1, o, v, h0, h1 => by
    rw [nodes_List_L1, list2 i v _ _ _ 0 (by omega) (by omega)]
    try dsimp only
    rw [list1 i S r _ _ (by omega) (by omega), getD_dropz h0 (by omega), nB]
    simp
theorem list0 (p : GProgram) : ∀ (r : Nat) (o : List GNode) (v : Int), 0 ≤ v → v + (r : Int) = (p.Funcs.length : Int) → nodes_List_L0 p r o v = o ++ nF v (p.Funcs.drop v.toNat)
  | 0, o, v, h0, h1 => by rw [nodes_List_L0, List.drop_eq_nil_of_le (by omega), nF, List.append_nil]
  | r + 1, o, v, h0, h1 => by
    rw [nodes_List_L0, list1 v _ _ _ 0 (by omega) (by omega)]
    try dsimp only
    rw [list0 p r _ _ (by omega) (by omega), getD_dropz h0 (by omega), nF]
    simp
theorem List_eq (p : GProgram) : nodes_List p = bif (validate_Check p).2 != 0 then [] else nF 0 p.Funcs := by
  unfold nodes_List
  dsimp only
  rw [list0 p _ [] 0 (by omega) (by omega)]
  rfl
theorem List_in {p : GProgram} {n : GNode} (h : n ∈ nodes_List p) : NIn p n := by
  rw [List_eq] at h
  cases e : (validate_Check p).2 != 0
  · have hv := SVal_b (Check_b rfl e)
    rw [e, cond_false] at h
    obtain ⟨a1, a2⟩ := nF_in p.Funcs 0 n h
    rw [show (n.Func - 0) = n.Func by omega] at a2
    refine ⟨by omega, fun h1 h2 => ?_⟩
    obtain ⟨_, b1, b2, b3⟩ := a2 h1 h2
    have := ((hv.2 n.Func.toNat).2 n.Block.toNat).1
    exact ⟨b1, ⟨b2, b3⟩, by omega⟩
  · rw [e] at h; cases h
theorem letter_eq (c : Int) : lexer_letter c = (flqref4_letter c && !(c == 95)) := by
  by_cases h : c = 95
  · subst h; decide
  · have h7 : (c == 95) = false := by simpa using h
    unfold lexer_letter flqref4_letter
    rw [h7]
    generalize decide (97 ≤ c) = a1
    generalize decide (c ≤ 122) = a2
    generalize decide (65 ≤ c) = a3
    generalize decide (c ≤ 90) = a4
    all_goals (cases a1 <;> cases a2 <;> cases a3 <;> cases a4 <;> rfl)
theorem part_eq (c : Int) : lexer_part c = (flqref4_letter c || flqref4_digit c) := by
  unfold lexer_part lexer_letter lexer_digit flqref4_letter flqref4_digit
  dsimp only
  generalize decide (97 ≤ c) = a1
  generalize decide (c ≤ 122) = a2
  generalize decide (65 ≤ c) = a3
  generalize decide (c ≤ 90) = a4
  generalize decide (48 ≤ c) = a5
  generalize decide (c ≤ 57) = a6
  generalize (c == 95) = a7
  all_goals (cases a1 <;> cases a2 <;> cases a3 <;> cases a4 <;> cases a5 <;> cases a6 <;> cases a7 <;> rfl)
theorem IsName4 (s : Str) : flqref4_IsName s = (decide (1 ≤ s.b.length ∧ s.b.length ≤ 16) && ((flqref4_letter ((s.b.getD 0 0).toNat : Int) && !(((s.b.getD 0 0).toNat : Int) == 95)) && ((s.b.all fun c => lexer_part (c.toNat : Int)) && !(kwL.any fun k => k == s)))) := by
  have l0 : flqref4_IsName_L0 s ((s.b.length : Int) - 0).toNat 0 = if (s.b.all fun c => lexer_part (c.toNat : Int)) = true then .brk () else .ret false :=
    allL (flqref4_IsName_L0 s) (fun i => by rw [flqref4_IsName_L0]) fun r i h0 h1 => by
      rw [flqref4_IsName_L0, show (default : UInt8) = 0 from rfl, part_eq]
      dsimp only
      all_goals (cases flqref4_letter ((s.b.getD (i : Int).toNat 0).toNat : Int) <;> cases flqref4_digit ((s.b.getD (i : Int).toNat 0).toNat : Int) <;> rfl)
  have l1 : flqref4_IsName_L1 s ((flqref4_Keywords.length : Int) - 0).toNat 0 = if (flqref4_Keywords.all fun k => !(k == s)) = true then .brk () else .ret false :=
    allL (flqref4_IsName_L1 s) (fun i => by rw [flqref4_IsName_L1]) fun r i h0 h1 => by
      rw [flqref4_IsName_L1]
      all_goals (cases flqref4_Keywords.getD (i : Int).toNat default == s <;> rfl)
  have e : (flqref4_Keywords.all fun k => !(k == s)) = !(kwL.any fun k => k == s) := by
    rw [List.any_eq_not_all_not, Bool.not_not]; rfl
  unfold flqref4_IsName
  dsimp only
  rw [l0, l1, e, show (0 : Int).toNat = 0 from rfl]
  by_cases h0 : ((s.b.length : Nat) : Int) = 0
  · have : ¬ (1 ≤ s.b.length ∧ s.b.length ≤ 16) := by omega
    simp only [h0, this, decide_false, Bool.false_and]; rfl
  by_cases h1 : 16 < ((s.b.length : Nat) : Int)
  · have : ¬ (1 ≤ s.b.length ∧ s.b.length ≤ 16) := by omega
    simp only [h1, this, decide_false, decide_true, Bool.false_and, cond_true]
    all_goals (cases ((s.b.length : Nat) : Int) == 0 <;> rfl)
  have h2 : (1 ≤ s.b.length ∧ s.b.length ≤ 16) := by omega
  have h3 : (((s.b.length : Nat) : Int) == 0) = false := by simpa using h0
  simp only [h3, h1, h2, decide_true, decide_false, cond_false, Bool.true_and, and_self]
  all_goals (cases flqref4_letter ((s.b.getD 0 0).toNat : Int) <;> cases (((s.b.getD 0 0).toNat : Int) == 95) <;> cases (s.b.all fun c => lexer_part (c.toNat : Int)) <;> cases (kwL.any fun k => k == s) <;> rfl)
theorem IsName_eq (s : Str) : lexer_IsName s = flqref4_IsName s := by
  rw [IsName4]
  unfold lexer_IsName
  dsimp only
  rw [wordEnd_all, letter_eq, Cont_string, show (0 : Int).toNat = 0 from rfl]
  by_cases h0 : s = Str.mk []
  · subst h0; rfl
  have hs : (s == Str.mk []) = false := by simpa using h0
  have hp := str_pos hs
  rw [hs, cond_false]
  by_cases h1 : 16 < ((s.b.length : Nat) : Int)
  · have : ¬ (1 ≤ s.b.length ∧ s.b.length ≤ 16) := by omega
    simp only [h1, this, decide_false, decide_true, Bool.false_and, cond_true]
  have h2 : (1 ≤ s.b.length ∧ s.b.length ≤ 16) := by omega
  simp only [h1, h2, decide_true, decide_false, cond_false, Bool.true_and, and_self]
  all_goals (cases flqref4_letter ((s.b.getD 0 0).toNat : Int) <;> cases (((s.b.getD 0 0).toNat : Int) == 95) <;> cases (s.b.all fun c => lexer_part (c.toNat : Int)) <;> cases (kwL.any fun k => k == s) <;> rfl)
theorem IsName_fun : lexer_IsName = flqref4_IsName := funext IsName_eq
theorem IsName_16 {s : Str} (h : flqref4_IsName s = true) : 1 ≤ s.b.length ∧ s.b.length ≤ 16 := by
  rw [IsName4, Bool.and_eq_true] at h
  exact of_decide_eq_true h.1
theorem words_eq (l : List Str) : (!(slices_ContainsFunc_string l (fun x => syntax_valid_1 x))) = l.all flqref4_IsName := by
  rw [CF_string, List.all_eq_not_any_not]
  congr 2
  funext x
  unfold syntax_valid_1
  dsimp only
  rw [IsName_eq]
theorem IsName_Sm {s : Str} (h : flqref4_IsName s = true) : SmW s := by have := IsName_16 h; unfold SmW; omega
theorem name_ok (t : List Int) (i : Int) : flqref4_IsName (Tape_name t i).1 = true := by
  unfold Tape_name
  have h := Next_rg t i 4 (by omega)
  dsimp only
  generalize (Tape_Next t i 4).1 = x at h
  have : x = 0 ∨ x = 1 ∨ x = 2 ∨ x = 3 := by omega
  rcases this with h | h | h | h <;> subst h <;> decide +kernel
theorem func2_ok {x : Int} (h : 0 ≤ x ∧ x < 3) : flqref4_IsName (flqgen_func2 x) = true ∧ flqgen_func2 x = bNm x := by
  have : x = 0 ∨ x = 1 ∨ x = 2 := by omega
  rcases this with h | h | h <;> subst h <;> exact ⟨by decide +kernel, rfl⟩
theorem fNm_ok {x : Int} (h : 0 ≤ x ∧ x < 3) : flqref4_IsName (fNm x) = true := by
  have : x = 0 ∨ x = 1 ∨ x = 2 := by omega
  rcases this with h | h | h <;> subst h <;> decide +kernel
theorem bNm_ok {x : Int} (h : 0 ≤ x ∧ x < 3) : flqref4_IsName (bNm x) = true := by
  have : x = 0 ∨ x = 1 ∨ x = 2 := by omega
  rcases this with h | h | h <;> subst h <;> decide +kernel
theorem nmOK_eq (l : List Str) (a b : Int) : flqref4_namesOK l a b = (l.all flqref4_IsName && (decide (a ≤ (l.length : Int)) && decide ((l.length : Int) ≤ b))) := by
  have l0 : flqref4_namesOK_L0 l ((l.length : Int) - 0).toNat 0 = if l.all flqref4_IsName = true then .brk () else .ret false :=
    allL (flqref4_namesOK_L0 l) (fun i => by rw [flqref4_namesOK_L0]) fun r i h0 h1 => by
      rw [flqref4_namesOK_L0]; cases flqref4_IsName (l.getD i.toNat default) <;> rfl
  rw [flqref4_namesOK, l0]
  cases l.all flqref4_IsName
  · rfl
  · cases decide (a ≤ (l.length : Int)) <;> rfl
theorem stOK_b {s : GStmt} (h : flqref4_stmtOK s = true) : s.Uses.length ≤ 4 ∧ s.Targets.length ≤ 2 := by
  unfold flqref4_stmtOK at h
  cases h1 : flqref4_namesOK s.Uses 0 4
  · rw [h1] at h; exact absurd h (by intro h; cases h)
  cases h2 : flqref4_namesOK s.Targets 0 2
  · rw [h1, h2] at h; exact absurd h (by intro h; cases h)
  rw [nmOK_eq] at h1 h2
  simp only [Bool.and_eq_true, decide_eq_true_eq] at h1 h2
  omega
theorem valid_ok (s : GStmt) : syntax_valid s = flqref4_stmtOK s := by
  obtain ⟨o, d, us, ts⟩ := s
  unfold syntax_valid flqref4_stmtOK slices_Clone_string
  dsimp only
  rw [nmOK_eq, nmOK_eq]
  simp only [words_eq, List.all_append, List.all_cons, List.all_nil, Bool.and_true]
  generalize us.all flqref4_IsName = U
  generalize ts.all flqref4_IsName = T
  generalize flqref4_IsName d = D
  generalize (d == Str.mk []) = E
  generalize us.length = u
  generalize ts.length = t
  have kf : ∀ (c x : Bool), (bif c then x else false) = (c && x) := fun c x => by cases c <;> rfl
  have kn : ∀ (c x : Bool), (bif !c then false else x) = (c && x) := fun c x => by cases c <;> rfl
  simp only [kf, kn]
  have fin : ∀ {a b : Bool}, (a = true ↔ b = true) → a = b := fun h => Bool.eq_iff_iff.2 h
  by_cases h1 : o = 1
  · subst h1
    cases U <;> cases T <;> cases D <;> refine fin ?_ <;> simp <;> omega
  by_cases h2 : o = 2
  · subst h2
    cases U <;> cases T <;> cases E <;> refine fin ?_ <;> simp <;> omega
  by_cases h3 : o = 3
  · subst h3
    cases U <;> cases T <;> cases E <;> refine fin ?_ <;> simp <;> omega
  by_cases h4 : o = 4
  · subst h4
    cases U <;> cases T <;> cases D <;> refine fin ?_ <;> simp <;> omega
  by_cases h5 : o = 5
  · subst h5
    cases U <;> cases T <;> cases E <;> refine fin ?_ <;> simp <;> omega
  by_cases h6 : o = 6
  · subst h6
    cases U <;> cases T <;> cases D <;> refine fin ?_ <;> simp <;> omega
  by_cases h7 : o = 7
  · subst h7
    cases U <;> cases T <;> cases E <;> refine fin ?_ <;> simp <;> omega
  by_cases h8 : o = 8
  · subst h8
    cases U <;> cases T <;> cases E <;> refine fin ?_ <;> simp <;> omega
  by_cases h9 : o = 9
  · subst h9
    cases U <;> cases T <;> cases E <;> refine fin ?_ <;> simp <;> omega
  have f : ∀ {k : Int}, ¬ o = k → (o == k) = false := fun h => by simpa using h
  simp only [f h1, f h2, f h3, f h4, f h5, f h6, f h7, f h8, f h9, cond_false, Bool.false_and, Bool.and_false]
theorem stmtOK_n {s : GStmt} (h : flqref4_stmtOK s = true) : (s.Def = Str.mk [] ∨ flqref4_IsName s.Def = true) ∧ (∀ u ∈ s.Uses, flqref4_IsName u = true) ∧ (∀ u ∈ s.Targets, flqref4_IsName u = true) := by
  unfold flqref4_stmtOK at h
  dsimp only at h
  cases h1 : flqref4_namesOK s.Uses 0 4
  · rw [h1] at h; exact absurd h (by intro h; cases h)
  cases h2 : flqref4_namesOK s.Targets 0 2
  · rw [h1, h2] at h; exact absurd h (by intro h; cases h)
  rw [h1, h2] at h
  rw [nmOK_eq] at h1 h2
  simp only [Bool.and_eq_true, List.all_eq_true] at h1 h2
  refine ⟨?_, h1.1, h2.1⟩
  cases hd : flqref4_IsName s.Def
  · left
    rw [hd] at h
    cases hz : s.Def == Str.mk []
    · exfalso
      rw [hz] at h
      simp only [Bool.not_true, cond_false] at h
      repeat' (first | (rw [Bool.cond_eq_ite] at h; split at h))
      all_goals cases h
    · exact beq_iff_eq.1 hz
  · exact .inr rfl
def iS (nf : Int) (s : GStmt) : Prop := (flqref4_stmtOK s = true ∧ vS s) ∧ validate_terminator s = false ∧ (s.Op = 3 → ∃ j, 0 ≤ j ∧ j < nf ∧ s.Targets = [fNm j]) ∧ (s.Op ≠ 3 → s.Targets = [])
def lS (nb : Int) (s : GStmt) : Prop := (flqref4_stmtOK s = true ∧ vS s) ∧ validate_terminator s = true ∧ s.Op ≠ 3 ∧ ∀ t ∈ s.Targets, ∃ j, 0 ≤ j ∧ j < nb ∧ t = bNm j
def DrB (nf nb k : Int) (b : GBlock) : Prop := b.Name = bNm k ∧ ∃ a z, b.Stmts = a ++ [z] ∧ a.length ≤ 3 ∧ (∀ s ∈ a, iS nf s) ∧ lS nb z
def DrF (nf i : Int) (f : GFunc) : Prop := f.Name = fNm i ∧ (1 ≤ f.Blocks.length ∧ f.Blocks.length ≤ 3) ∧ ∀ k : Nat, k < f.Blocks.length → DrB nf (f.Blocks.length : Int) (k : Int) (f.Blocks.getD k default)
def DrP (p : GProgram) : Prop := (1 ≤ p.Funcs.length ∧ p.Funcs.length ≤ 3) ∧ ∀ i : Nat, i < p.Funcs.length → DrF (p.Funcs.length : Int) (i : Int) (p.Funcs.getD i default)
theorem stmt_iS (t : List Int) (i n : Int) (hn : 1 ≤ n ∧ n ≤ 3) : iS n (Tape_stmt t i n).1 := by
  have nm := name_ok t
  have ni := name_in t
  have k0 : ∀ (o : Int) (d : Str) (us : List Str), validate_terminator (GStmt.mk o d us []) = false → o ≠ 3 → (flqref4_stmtOK (GStmt.mk o d us []) = true ∧ vS (GStmt.mk o d us [])) → iS n (GStmt.mk o d us []) := fun o d us h1 h2 h3 => ⟨h3, h1, fun h => absurd h h2, fun _ => rfl⟩
  have kc : ∀ i', iS n (GStmt.mk 3 (Str.mk []) [] [fNm (Tape_Next t i' n).1]) := fun i' => by
    have h := Next_rg t i' n (by omega)
    have h3 : 0 ≤ (Tape_Next t i' n).1 ∧ (Tape_Next t i' n).1 < 3 := by omega
    refine ⟨⟨?_, .inl rfl, fun u hu => (by cases hu), by simp⟩, rfl, fun _ => ⟨_, h.1, by omega, rfl⟩, fun h => absurd rfl h⟩
    unfold flqref4_stmtOK
    dsimp only
    rw [nmOK_eq, nmOK_eq, List.all_cons, fNm_ok h3]
    rfl
  unfold Tape_stmt
  dsimp only
  simp only [Bool.cond_eq_ite]
  have u2 : ∀ (i1 i2 : Int) (m : Nat), 1 ≤ m → flqref4_stmtOK (GStmt.mk 2 (Str.mk []) (([(Tape_name t i1).1, (Tape_name t i2).1].take m).drop 0) []) = true := fun i1 i2 m hm => by
    rcases m with _ | _ | m
    · omega
    · unfold flqref4_stmtOK; dsimp only; rw [nmOK_eq, nmOK_eq]; simp [nm]
    · unfold flqref4_stmtOK; dsimp only; rw [nmOK_eq, nmOK_eq]; simp [nm]
  have u1 : ∀ (i0 i1 i2 i3 : Int) (m : Nat), flqref4_stmtOK (GStmt.mk 1 (Tape_name t i0).1 (([(Tape_name t i1).1, (Tape_name t i2).1, (Tape_name t i3).1].take m).drop 0) []) = true := fun i0 i1 i2 i3 m => by
    rcases m with _ | _ | _ | m <;> (unfold flqref4_stmtOK; dsimp only; rw [nmOK_eq, nmOK_eq]; simp [nm])
  repeat' split
  · refine k0 _ _ _ rfl (by decide) ⟨u2 _ _ _ ?_, .inl rfl, fun u hu => ?_, by simp; omega⟩
    rotate_left
    · rw [List.drop_zero] at hu
      have := List.mem_of_mem_take hu
      simp only [List.mem_cons, List.not_mem_nil, or_false] at this
      rcases this with e | e <;> rw [e] <;> exact ni _
    have := Next_rg t (Tape_name t (Tape_name t (Tape_Next t i 9).2).2).2 2 (by omega)
    omega
  · exact k0 _ _ _ rfl (by decide) ⟨by unfold flqref4_stmtOK; dsimp only; rw [nmOK_eq, nmOK_eq]; simp [nm], by first | exact .inl rfl | exact .inr (ni _), fun u hu => (by first | (cases hu; done) | (rw [List.mem_singleton.1 hu]; exact ni _)), by simp⟩
  · exact k0 _ _ _ rfl (by decide) ⟨by unfold flqref4_stmtOK; dsimp only; rw [nmOK_eq, nmOK_eq]; simp [nm], by first | exact .inl rfl | exact .inr (ni _), fun u hu => (by first | (cases hu; done) | (rw [List.mem_singleton.1 hu]; exact ni _)), by simp⟩
  · exact k0 _ _ _ rfl (by decide) ⟨by unfold flqref4_stmtOK; dsimp only; rw [nmOK_eq, nmOK_eq]; simp [nm], by first | exact .inl rfl | exact .inr (ni _), fun u hu => (by first | (cases hu; done) | (rw [List.mem_singleton.1 hu]; exact ni _)), by simp⟩
  · exact kc _
  · exact kc _
  · refine k0 _ _ _ rfl (by decide) ⟨u1 _ _ _ _ _, .inr (ni _), fun u hu => ?_, by simp; omega⟩
    rw [List.drop_zero] at hu
    have := List.mem_of_mem_take hu
    simp only [List.mem_cons, List.not_mem_nil, or_false] at this
    rcases this with e | e | e <;> rw [e] <;> exact ni _
theorem Dr_L2 (t : List Int) (n : Int) (hn : 1 ≤ n ∧ n ≤ 3) : ∀ (r : Nat) (i : Int) (b : List GStmt) (k : Int), (∀ s ∈ b, iS n s) → ∀ s ∈ (Tape_Program_L2 t n r i b k).2, iS n s
  | 0, i, b, k, h => by rw [Tape_Program_L2]; exact h
  | r + 1, i, b, k, h => by
    rw [Tape_Program_L2]
    refine Dr_L2 t n hn r _ _ _ fun s hs => ?_
    rcases List.mem_append.1 hs with h' | h'
    · exact h s h'
    · rw [List.mem_singleton.1 h']; exact stmt_iS t i n hn
theorem Dr_L1 (t : List Int) (n m : Int) (hn : 1 ≤ n ∧ n ≤ 3) (hm : 1 ≤ m ∧ m ≤ 3) : ∀ (r : Nat) (i : Int) (b : List GBlock) (k : Int), (b.length : Int) = k → k + (r : Int) = m → (∀ j : Nat, j < b.length → DrB n m (j : Int) (b.getD j default)) → (∀ j : Nat, j < (Tape_Program_L1 t n m r i b k).2.length → DrB n m (j : Int) ((Tape_Program_L1 t n m r i b k).2.getD j default)) ∧ (Tape_Program_L1 t n m r i b k).2.length = b.length + r
  | 0, i, b, k, hk, hr, h => by rw [Tape_Program_L1]; exact ⟨h, rfl⟩
  | r + 1, i, b, k, hk, hr, h => by
    rw [Tape_Program_L1]
    have h2 := Dr_L2 t n hn (((Tape_Next t i 4).1 : Int).toNat) (Tape_Next t i 4).2 [] (Tape_Next t i 4).1 (fun s hs => by cases hs)
    have h3 := Program_L2_len t n (((Tape_Next t i 4).1 : Int).toNat) (Tape_Next t i 4).2 [] (Tape_Next t i 4).1
    have hx := Next_rg t i 4 (by omega)
    dsimp only
    generalize Tape_Program_L2 t n (((Tape_Next t i 4).1 : Int).toNat) (Tape_Next t i 4).2 [] (Tape_Next t i 4).1 = R at h2 h3
    obtain ⟨o0, o1⟩ := R
    dsimp only at h2 h3 ⊢
    have step : ∀ (i' : Int) (s : GStmt), lS m s → (∀ j : Nat, j < (Tape_Program_L1 t n m r i' (b ++ [GBlock.mk (bNm k) (o1 ++ [s])]) (k + 1)).2.length → DrB n m (j : Int) ((Tape_Program_L1 t n m r i' (b ++ [GBlock.mk (bNm k) (o1 ++ [s])]) (k + 1)).2.getD j default)) ∧ (Tape_Program_L1 t n m r i' (b ++ [GBlock.mk (bNm k) (o1 ++ [s])]) (k + 1)).2.length = b.length + (r + 1) := fun i' s hs => by
      obtain ⟨a1, a2⟩ := Dr_L1 t n m hn hm r i' (b ++ [GBlock.mk (bNm k) (o1 ++ [s])]) (k + 1) (by rw [List.length_append]; simp; omega) (by omega) (fun j hj => by
        rw [List.length_append] at hj
        by_cases hjb : j < b.length
        · rw [show (b ++ [GBlock.mk (bNm k) (o1 ++ [s])]).getD j default = b.getD j default by rw [List.getD_eq_getElem?_getD, List.getElem?_append_left hjb, List.getD_eq_getElem?_getD]]
          exact h j hjb
        · obtain rfl : j = b.length := by simp at hj; omega
          rw [show (b ++ [GBlock.mk (bNm k) (o1 ++ [s])]).getD b.length default = GBlock.mk (bNm k) (o1 ++ [s]) by simp, hk]
          exact ⟨rfl, o1, s, rfl, by rw [h3]; simp; omega, h2, hs⟩)
      exact ⟨a1, by rw [a2, List.length_append]; simp; omega⟩
    have fb : ∀ i', 0 ≤ (Tape_Next t i' m).1 ∧ (Tape_Next t i' m).1 < m ∧ flqref4_IsName (flqgen_func2 (Tape_Next t i' m).1) = true ∧ flqgen_func2 (Tape_Next t i' m).1 = bNm (Tape_Next t i' m).1 := fun i' => by
      have h := Next_rg t i' m (by omega)
      have := func2_ok (x := (Tape_Next t i' m).1) ⟨h.1, by omega⟩
      exact ⟨h.1, by omega, this⟩
    have nm := name_ok t
    simp only [Bool.cond_eq_ite]
    repeat' split
    · exact step _ _ ⟨⟨by decide +kernel, .inl rfl, fun u hu => (by cases hu), by simp⟩, rfl, by decide, fun t h => by cases h⟩
    · refine step _ _ ⟨⟨?_, .inl rfl, fun u hu => (by cases hu), by simp⟩, rfl, (by show (7 : Int) ≠ 3; decide), fun t h => ?_⟩
      · unfold flqref4_stmtOK; dsimp only; rw [nmOK_eq, nmOK_eq]; simp [(fb _).2.2.1]
      · rw [List.mem_singleton.1 h]; exact ⟨_, (fb _).1, (fb _).2.1, (fb _).2.2.2⟩
    · refine step _ _ ⟨⟨?_, .inl rfl, fun u hu => (by rw [List.mem_singleton.1 hu]; exact name_in t _), by simp⟩, rfl, (by show (8 : Int) ≠ 3; decide), fun t h => ?_⟩
      · unfold flqref4_stmtOK; dsimp only; rw [nmOK_eq, nmOK_eq]; simp [(fb _).2.2.1, nm]
      · simp only [List.mem_cons, List.not_mem_nil, or_false] at h
        rcases h with e | e
        · rw [e]; exact ⟨_, (fb _).1, (fb _).2.1, (fb _).2.2.2⟩
        · rw [e]; exact ⟨_, (fb _).1, (fb _).2.1, (fb _).2.2.2⟩
theorem Dr_L0 (t : List Int) (n : Int) (hn : 1 ≤ n ∧ n ≤ 3) : ∀ (r : Nat) (i : Int) (b : List GFunc) (k : Int), (b.length : Int) = k → k + (r : Int) = n → (∀ j : Nat, j < b.length → DrF n (j : Int) (b.getD j default)) → (∀ j : Nat, j < (Tape_Program_L0 t n r i b k).2.length → DrF n (j : Int) ((Tape_Program_L0 t n r i b k).2.getD j default)) ∧ (Tape_Program_L0 t n r i b k).2.length = b.length + r
  | 0, i, b, k, hk, hr, h => by rw [Tape_Program_L0]; exact ⟨h, rfl⟩
  | r + 1, i, b, k, hk, hr, h => by
    rw [Tape_Program_L0]
    have hx := Next_rg t i 3 (by omega)
    have h2 := Dr_L1 t n (1 + (Tape_Next t i 3).1) hn (by omega) ((((1 + (Tape_Next t i 3).1) : Int) - 0).toNat) (Tape_Next t i 3).2 [] 0 rfl (by omega) (fun j hj => by cases hj)
    dsimp only
    generalize Tape_Program_L1 t n (1 + (Tape_Next t i 3).1) ((((1 + (Tape_Next t i 3).1) : Int) - 0).toNat) (Tape_Next t i 3).2 [] 0 = R at h2
    obtain ⟨o0, o1⟩ := R
    dsimp only at h2 ⊢
    have hl : (o1.length : Int) = 1 + (Tape_Next t i 3).1 := by rw [h2.2]; simp; omega
    obtain ⟨a1, a2⟩ := Dr_L0 t n hn r o0 (b ++ [GFunc.mk (fNm k) o1]) (k + 1) (by rw [List.length_append]; simp; omega) (by omega) (fun j hj => by
      rw [List.length_append] at hj
      by_cases hjb : j < b.length
      · rw [show (b ++ [GFunc.mk (fNm k) o1]).getD j default = b.getD j default by rw [List.getD_eq_getElem?_getD, List.getElem?_append_left hjb, List.getD_eq_getElem?_getD]]
        exact h j hjb
      · obtain rfl : j = b.length := by simp at hj; omega
        rw [show (b ++ [GFunc.mk (fNm k) o1]).getD b.length default = GFunc.mk (fNm k) o1 by simp, hk]
        refine ⟨rfl, by dsimp only; omega, fun j hj => ?_⟩
        dsimp only
        rw [hl]
        exact h2.1 j hj)
    exact ⟨a1, by show _ = b.length + (r + 1); rw [show (Tape_Program_L0 t n r o0 (b ++ [GFunc.mk ([(Str.mk [109]), (Str.mk [102]), (Str.mk [103])].getD (k : Int).toNat default) o1]) (k + 1)).2.length = _ from a2, List.length_append]; simp; omega⟩
theorem Program_Dr {t : List Int} {i : Int} {r : GProgram × Int} (h : Tape_Program t i = r) : DrP r.1 := by
  subst h
  unfold Tape_Program
  have hx := Next_rg t i 3 (by omega)
  have h2 := Dr_L0 t (1 + (Tape_Next t i 3).1) (by omega) ((((1 + (Tape_Next t i 3).1) : Int) - 0).toNat) (Tape_Next t i 3).2 [] 0 rfl (by omega) (fun j hj => by cases hj)
  dsimp only
  generalize Tape_Program_L0 t (1 + (Tape_Next t i 3).1) ((((1 + (Tape_Next t i 3).1) : Int) - 0).toNat) (Tape_Next t i 3).2 [] 0 = R at h2
  obtain ⟨o0, o1⟩ := R
  dsimp only at h2 ⊢
  have hl : (o1.length : Int) = 1 + (Tape_Next t i 3).1 := by rw [h2.2]; simp; omega
  refine ⟨by dsimp only; omega, fun j hj => ?_⟩
  dsimp only
  rw [hl]
  exact h2.1 j hj

theorem DrF_B {nf i : Int} {f : GFunc} (h : DrF nf i f) {k : Int} (hk : 0 ≤ k ∧ k < (f.Blocks.length : Int)) : DrB nf (f.Blocks.length : Int) k (f.Blocks.getD k.toNat default) := by
  have := h.2.2 k.toNat (by omega)
  rw [show ((k.toNat : Nat) : Int) = k by omega] at this
  exact this
theorem DrP_F {p : GProgram} (h : DrP p) {k : Int} (hk : 0 ≤ k ∧ k < (p.Funcs.length : Int)) : DrF (p.Funcs.length : Int) k (p.Funcs.getD k.toNat default) := by
  have := h.2 k.toNat (by omega)
  rw [show ((k.toNat : Nat) : Int) = k by omega] at this
  exact this
theorem DrB_s {nf nb k : Int} {b : GBlock} (h : DrB nf nb k b) : (1 ≤ b.Stmts.length ∧ b.Stmts.length ≤ 4) ∧ ∀ s ∈ b.Stmts, flqref4_stmtOK s = true ∧ vS s := by
  obtain ⟨_, a, z, e, h1, h2, h3⟩ := h
  rw [e]
  refine ⟨by simp; omega, fun s hs => ?_⟩
  rcases List.mem_append.1 hs with h' | h'
  · exact (h2 s h').1
  · rw [List.mem_singleton.1 h']; exact h3.1
theorem fn_ok {nf i : Int} {f : GFunc} (h : DrF nf i f) (m : List (Str × Bool)) (hm : ∀ j : Int, 0 ≤ j → j < nf → (mget m (fNm j)).getD false = true) : (validate_function f i m).2 = 0 := by
  have hd := nodupB f.Blocks (fun x0 => validate_function_1 x0) bNm h.2.1.2 (fun j hj => (h.2.2 j hj).1) (fun a b c => bNm_inj a b c) (((f.Blocks.length : Nat) : Int) - 0).toNat [] 0 (by omega) (by omega) (fun s => ⟨fun h => (by cases h), fun ⟨j, a, b, _⟩ => (by omega)⟩)
  unfold validate_function validate_duplicate_Block
  dsimp only
  generalize validate_duplicate_Block_L0 f.Blocks (fun x0 => validate_function_1 x0) (((f.Blocks.length : Nat) : Int) - 0).toNat [] (-1) 0 = R at hd ⊢
  obtain ⟨mb, at_⟩ := R
  dsimp only at hd ⊢
  obtain ⟨rfl, hd⟩ := hd
  have l1 : ∀ (k : Int) (S : List GStmt), DrB nf (f.Blocks.length : Int) k (GBlock.mk (bNm k) S) → ∀ (r : Nat) (v : Int), 0 ≤ v → v + (r : Int) = (S.length : Int) → validate_function_L1 i m mb k S S r v = .brk () := fun k S hS r => by
    obtain ⟨_, a, z, e, h1, h2, h3⟩ := hS
    dsimp only at e
    induction r with
    | zero => intro v _ _; rw [validate_function_L1]
    | succ r ih =>
      intro v h0 hv
      rw [validate_function_L1]
      have hlen : S.length = a.length + 1 := by rw [e]; simp
      rw [ih (v + 1) (by omega) (by omega)]
      by_cases hz : v = (a.length : Int)
      · have es : S.getD v.toNat default = z := by rw [e, hz]; simp
        have eb : (v == (((S.length : Nat) : Int) - 1)) = true := by rw [beq_iff_eq]; omega
        have eo : (z.Op == 3) = false := by simpa using h3.2.2.1
        rw [es, eb, eo]
        dsimp only [cond_false]
        rw [st_ok h3.2.1 (fun t ht => by obtain ⟨j, a1, a2, a3⟩ := h3.2.2.2 t ht; exact (hd t).2 ⟨j, a1, a2, a3⟩)]
        rfl
      · have es : S.getD v.toNat default = a.getD v.toNat default := by
          rw [e, List.getD_eq_getElem?_getD, List.getElem?_append_left (by omega), List.getD_eq_getElem?_getD]
        have eb : (v == (((S.length : Nat) : Int) - 1)) = false := by rw [Bool.eq_false_iff]; intro hc; rw [beq_iff_eq] at hc; omega
        have hs := h2 _ (getD_mem (xs := a) (i := v.toNat) (d := default) (by omega))
        rw [es, eb]
        generalize a.getD v.toNat default = s at hs
        cases eo : s.Op == 3
        · dsimp only [cond_false]
          rw [st_ok hs.2.1 (fun t ht => by rw [hs.2.2.2 (by simpa using eo)] at ht; cases ht)]
          rfl
        · dsimp only [cond_true]
          obtain ⟨j, a1, a2, a3⟩ := hs.2.2.1 (by simpa using eo)
          rw [st_ok hs.2.1 (fun t ht => by rw [a3, List.mem_singleton] at ht; rw [ht]; exact hm j a1 a2)]
          rfl
  have l0 : ∀ (r : Nat) (v : Int), 0 ≤ v → v + (r : Int) = (f.Blocks.length : Int) → validate_function_L0 f i m mb r v = .brk () := fun r => by
    induction r with
    | zero => intro v _ _; rw [validate_function_L0]
    | succ r ih =>
      intro v h0 hv
      have hB := DrF_B h (k := v) (by omega)
      rw [validate_function_L0, l1 v _ (by obtain ⟨h1, h2⟩ := hB; exact ⟨rfl, h2⟩) _ 0 (by omega) (by omega)]
      exact ih _ (by omega) (by omega)
  rw [l0 _ 0 (by omega) (by omega)]
  rfl
theorem sz1 {nf i : Int} {f : GFunc} (hf : DrF nf i f) : ∀ (r : Nat) (a b v : Int), 0 ≤ v → v + (r : Int) = (f.Blocks.length : Int) → (validate_each_Sizes_1_L1 f.Blocks r a b v).1 ≤ a + 8 * (r : Int) ∧ (validate_each_Sizes_1_L1 f.Blocks r a b v).2 ≤ b + 12 * (r : Int)
  | 0, a, b, v, _, _ => by
    -- validate_Sizes is behind
    rw [validate_each_Sizes_1_L1]; exact ⟨by simp, by simp⟩
  | r + 1, a, b, v, h0, h1 => by
    rw [validate_each_Sizes_1_L1]
    have hb := (DrB_s (DrF_B hf (k := v) (by omega))).1
    have h2 := sz2 ((f.Blocks.getD v.toNat default).Stmts) ((((f.Blocks.getD v.toNat default).Stmts.length : Nat) : Int) - 0).toNat a b 0
    rcases e : validate_each_Sizes_1_L2 ((f.Blocks.getD v.toNat default).Stmts) ((((f.Blocks.getD v.toNat default).Stmts.length : Nat) : Int) - 0).toNat a b 0 with ⟨x, y⟩
    rw [e] at h2
    dsimp only at h2 ⊢
    have h := sz1 hf r x y (v + 1) (by omega) (by omega)
    omega
theorem sz0 {p : GProgram} (hp : DrP p) : ∀ (r : Nat) (a b v : Int), 0 ≤ v → v + (r : Int) = (p.Funcs.length : Int) → (validate_each_Sizes_1_L0 p r a b v).1 ≤ a + 24 * (r : Int) ∧ (validate_each_Sizes_1_L0 p r a b v).2 ≤ b + 36 * (r : Int)
  | 0, a, b, v, _, _ => by
    -- validate_Sizes is behind
    rw [validate_each_Sizes_1_L0]; exact ⟨by simp, by simp⟩
  | r + 1, a, b, v, h0, h1 => by
    rw [validate_each_Sizes_1_L0]
    have hF := DrP_F hp (k := v) (by omega)
    have hb := hF.2.1
    have h2 := sz1 hF ((((p.Funcs.getD v.toNat default).Blocks.length : Nat) : Int) - 0).toNat a b 0 (by omega) (by omega)
    rcases e : validate_each_Sizes_1_L1 ((p.Funcs.getD v.toNat default).Blocks) ((((p.Funcs.getD v.toNat default).Blocks.length : Nat) : Int) - 0).toNat a b 0 with ⟨x, y⟩
    rw [e] at h2
    dsimp only at h2 ⊢
    have h := sz0 hp r x y (v + 1) (by omega) (by omega)
    omega
theorem DrP_v {p : GProgram} (hp : DrP p) : ∀ f ∈ p.Funcs, ∀ b ∈ f.Blocks, ∀ s ∈ b.Stmts, vS s :=
  all_of_getD fun i hi => all_of_getD fun k hk => fun s hs => ((DrB_s ((hp.2 i hi).2.2 k hk)).2 s hs).2
theorem vS_sm {s : GStmt} (h : flqref4_stmtOK s = true) : SmS s ∧ SSm s = true := by
  obtain ⟨a1, a2, a3⟩ := stmtOK_n h
  have hb := stOK_b h
  refine ⟨⟨?_, SmT_all (fun u hu => IsName_Sm (a2 u hu)) SmW_0, SmT_all (fun u hu => IsName_Sm (a3 u hu)) SmW_0⟩, ?_⟩
  · rcases a1 with e | e
    · rw [e]; decide
    · exact IsName_Sm e
  · unfold SSm; simp; omega
theorem stm_sm {p : GProgram} (hd : DrP p) (i k j : Nat) : SmS ((((p.Funcs.getD i default).Blocks.getD k default).Stmts).getD j default) ∧ SSm ((((p.Funcs.getD i default).Blocks.getD k default).Stmts).getD j default) = true := by
  have d0 : SmS default ∧ SSm default = true := ⟨SmS_0, rfl⟩
  have gd : ∀ {α : Type} [Inhabited α] (l : List α) (i : Nat), i < l.length ∨ l.getD i default = default := fun l i => by
    by_cases hi : i < l.length
    · exact .inl hi
    · right; rw [List.getD_eq_getElem?_getD, List.getElem?_eq_none (by omega)]; rfl
  rcases gd p.Funcs i with hi | hi
  · rcases gd (p.Funcs.getD i default).Blocks k with hk | hk
    · rcases gd ((p.Funcs.getD i default).Blocks.getD k default).Stmts j with hj | hj
      · exact vS_sm ((DrB_s ((hd.2 i hi).2.2 k hk)).2 _ (getD_mem hj)).1
      · rw [hj]; exact d0
    · rw [hk]; simpa [show (default : GBlock).Stmts = [] from rfl] using d0
  · rw [hi]; simpa [show (default : GFunc).Blocks = [] from rfl, show (default : GBlock).Stmts = [] from rfl] using d0
theorem Program_Dr' {t : List Int} {i : Int} {r : GProgram × Int} (h : Tape_Program t i = r) : DrP (GProgram.mk r.1.Funcs) := Program_Dr h

theorem DrP_smF {p : GProgram} (hp : DrP p) : ∀ f ∈ p.Funcs, smF f := all_of_getD fun i hi =>
  ⟨(hp.2 i hi).2.1.2, all_of_getD fun k hk => ((DrB_s ((hp.2 i hi).2.2 k hk)).1).2⟩
theorem PVal_eq (p : GProgram) : flqref4_Valid p = (decide (1 ≤ p.Funcs.length ∧ p.Funcs.length ≤ 8) && p.Funcs.all fun f => flqref4_IsName f.Name && (decide (1 ≤ f.Blocks.length ∧ f.Blocks.length ≤ 16) && f.Blocks.all fun b => flqref4_IsName b.Name && (decide (1 ≤ b.Stmts.length ∧ b.Stmts.length ≤ 32) && b.Stmts.all flqref4_stmtOK))) := by
  have l2 : ∀ (b : List GStmt), flqref4_Valid_L2 b ((b.length : Int) - 0).toNat 0 = if b.all flqref4_stmtOK = true then .brk () else .ret false := fun b =>
    allL (flqref4_Valid_L2 b) (fun i => by rw [flqref4_Valid_L2]) fun r i h0 h1 => by
      rw [flqref4_Valid_L2]; cases flqref4_stmtOK (b.getD i.toNat default) <;> rfl
  have l1 : ∀ (f : List GBlock), flqref4_Valid_L1 f ((f.length : Int) - 0).toNat 0 = if (f.all fun b => flqref4_IsName b.Name && (decide (1 ≤ b.Stmts.length ∧ b.Stmts.length ≤ 32) && b.Stmts.all flqref4_stmtOK)) = true then .brk () else .ret false := fun f =>
    allL (flqref4_Valid_L1 f) (fun i => by rw [flqref4_Valid_L1]) fun r i h0 h1 => by
      rw [flqref4_Valid_L1]
      generalize hb : f.getD i.toNat default = b
      have e := l2 b.Stmts
      simp only [Bool.cond_eq_ite]
      cases hN : flqref4_IsName b.Name
      · simp
      by_cases h1 : ((b.Stmts.length : Nat) : Int) < 1
      · have : ¬ (1 ≤ b.Stmts.length ∧ b.Stmts.length ≤ 32) := by omega
        simp [h1, this]
      by_cases h2 : (32 : Int) < ((b.Stmts.length : Nat) : Int)
      · have : ¬ (1 ≤ b.Stmts.length ∧ b.Stmts.length ≤ 32) := by omega
        simp [h1, h2, this]
      have h3 : (1 ≤ b.Stmts.length ∧ b.Stmts.length ≤ 32) := by omega
      rw [e]
      simp only [h1, h2, decide_false, h3, decide_true, Bool.not_true, Bool.true_and, and_self, reduceIte, Bool.false_eq_true]
      all_goals (cases b.Stmts.all flqref4_stmtOK <;> rfl)
  have l0 : flqref4_Valid_L0 p ((p.Funcs.length : Int) - 0).toNat 0 = if (p.Funcs.all fun f => flqref4_IsName f.Name && (decide (1 ≤ f.Blocks.length ∧ f.Blocks.length ≤ 16) && f.Blocks.all fun b => flqref4_IsName b.Name && (decide (1 ≤ b.Stmts.length ∧ b.Stmts.length ≤ 32) && b.Stmts.all flqref4_stmtOK))) = true then .brk () else .ret false :=
    allL (flqref4_Valid_L0 p) (fun i => by rw [flqref4_Valid_L0]) fun r i h0 h1 => by
      rw [flqref4_Valid_L0]
      generalize hb : p.Funcs.getD i.toNat default = f
      have e := l1 f.Blocks
      simp only [Bool.cond_eq_ite]
      cases hN : flqref4_IsName f.Name
      · simp
      by_cases h1 : ((f.Blocks.length : Nat) : Int) < 1
      · have : ¬ (1 ≤ f.Blocks.length ∧ f.Blocks.length ≤ 16) := by omega
        simp [h1, this]
      by_cases h2 : (16 : Int) < ((f.Blocks.length : Nat) : Int)
      · have : ¬ (1 ≤ f.Blocks.length ∧ f.Blocks.length ≤ 16) := by omega
        simp [h1, h2, this]
      have h3 : (1 ≤ f.Blocks.length ∧ f.Blocks.length ≤ 16) := by omega
      rw [e]
      simp only [h1, h2, decide_false, h3, decide_true, Bool.not_true, Bool.true_and, and_self, reduceIte, Bool.false_eq_true]
      generalize (f.Blocks.all _) = q
      all_goals (cases q <;> rfl)
  rw [flqref4_Valid]
  simp only [Bool.cond_eq_ite]
  by_cases h1 : ((p.Funcs.length : Nat) : Int) < 1
  · have : ¬ (1 ≤ p.Funcs.length ∧ p.Funcs.length ≤ 8) := by omega
    simp [h1, this]
  by_cases h2 : (8 : Int) < ((p.Funcs.length : Nat) : Int)
  · have : ¬ (1 ≤ p.Funcs.length ∧ p.Funcs.length ≤ 8) := by omega
    simp [h1, h2, this]
  have h3 : (1 ≤ p.Funcs.length ∧ p.Funcs.length ≤ 8) := by omega
  rw [l0]
  simp only [h1, h2, decide_false, h3, decide_true, Bool.true_and, reduceIte, Bool.false_eq_true, and_self]
  generalize (p.Funcs.all _) = q
  all_goals (cases q <;> rfl)
theorem Valid_eq (p : GProgram) : syntax_Valid p = flqref4_Valid p := by
  rw [SVal_eq, PVal_eq, IsName_fun, show syntax_valid = flqref4_stmtOK from funext valid_ok]

theorem Valid_SmP {p : GProgram} (h : flqref4_Valid p = true) : SmP p := by
  rw [PVal_eq] at h
  simp only [Bool.and_eq_true, List.all_eq_true] at h
  refine SmT_all (fun f hf => ?_) SmF_0
  have hF := h.2 f hf
  refine ⟨IsName_Sm hF.1, SmT_all (fun b hb => ?_) SmB_0⟩
  have hB := hF.2.2 b hb
  refine ⟨IsName_Sm hB.1, SmT_all (fun s hs => ?_) SmS_0⟩
  obtain ⟨a1, a2, a3⟩ := stmtOK_n (hB.2.2 s hs)
  refine ⟨?_, SmT_all (fun u hu => IsName_Sm (a2 u hu)) SmW_0, SmT_all (fun u hu => IsName_Sm (a3 u hu)) SmW_0⟩
  rcases a1 with e | e
  · rw [e]; decide
  · exact IsName_Sm e
theorem DrP_Valid {p : GProgram} (h : DrP p) : flqref4_Valid p = true := by
  rw [PVal_eq]
  simp only [Bool.and_eq_true, decide_eq_true_eq, List.all_eq_true]
  refine ⟨by have := h.1; omega, ?_⟩
  have hn := h.1
  refine all_of_getD fun i hi => ?_
  have hF := h.2 i hi
  refine ⟨by rw [hF.1]; exact fNm_ok (by omega), by have := hF.2.1; omega, ?_⟩
  have hm := hF.2.1
  refine all_of_getD fun k hk => ?_
  have hB := hF.2.2 k hk
  have hs := DrB_s hB
  exact ⟨by rw [hB.1]; exact bNm_ok (by omega), by omega, fun s hh => (hs.2 s hh).1⟩
theorem sizes_ok {p : GProgram} (hp : DrP p) : (validate_Sizes p).1 ≤ 100 ∧ (validate_Sizes p).2 ≤ 200 := by
  have h := sz0 hp ((((p.Funcs.length : Nat) : Int) - 0).toNat) (2 * ((p.Funcs.length : Nat) : Int)) ((p.Funcs.length : Nat) : Int) 0 (by omega) (by omega)
  have hl := hp.1
  unfold validate_Sizes validate_each_Sizes_1
  rw [(Valid_eq p).trans (DrP_Valid hp)]
  dsimp only
  simp only [Bool.not_true, cond_false]
  omega
theorem vars_ok {p : GProgram} (hp : DrP p) : (validate_Variables p).length ≤ 4 := by
  have h := vi4 p (DrP_v hp) ((((p.Funcs.length : Nat) : Int) - 0).toNat) [] [] 0 ⟨fun s h => (by cases h), List.nodup_nil, fun s h => (by cases h)⟩ (by omega) (by omega)
  unfold validate_Variables validate_each_Variables_2
  rw [(Valid_eq p).trans (DrP_Valid hp)]
  dsimp only
  simp only [Bool.not_true, cond_false]
  exact nodup_N4 _ h.2.1 h.2.2
theorem check_ok {p : GProgram} (hp : DrP p) : (validate_Check p).2 = 0 := by
  have hd := nodupF p.Funcs (fun x0 => validate_Check_1 x0) fNm hp.1.2 (fun j hj => (hp.2 j hj).1) (fun a b c => fNm_inj a b c) (((p.Funcs.length : Nat) : Int) - 0).toNat [] 0 (by omega) (by omega) (fun s => ⟨fun h => (by cases h), fun ⟨j, a, b, _⟩ => (by omega)⟩)
  have hv := vars_ok hp
  have hs := sizes_ok hp
  unfold validate_Check validate_duplicate_Func
  dsimp only
  rw [(Valid_eq p).trans (DrP_Valid hp)]
  generalize validate_duplicate_Func_L0 p.Funcs (fun x0 => validate_Check_1 x0) (((p.Funcs.length : Nat) : Int) - 0).toNat [] (-1) 0 = R at hd ⊢
  obtain ⟨mb, at_⟩ := R
  dsimp only at hd ⊢
  obtain ⟨rfl, hd⟩ := hd
  have l0 : ∀ (r : Nat) (v : Int), 0 ≤ v → v + (r : Int) = (p.Funcs.length : Int) → validate_Check_L0 p mb r v = .brk () := fun r => by
    induction r with
    | zero => intro v _ _; rw [validate_Check_L0]
    | succ r ih =>
      intro v h0 h1
      rw [validate_Check_L0, fn_ok (DrP_F hp (k := v) (by omega)) mb (fun j j0 j1 => (hd _).2 ⟨j, j0, j1, rfl⟩)]
      exact ih _ (by omega) (by omega)
  rw [l0 _ 0 (by omega) (by omega)]
  have e1 : decide (64 < (((validate_Variables p).length : Nat) : Int)) = false := decide_eq_false (by omega)
  have e2 : decide (256 < (validate_Sizes p).1) = false := decide_eq_false (by omega)
  have e3 : decide (1024 < (validate_Sizes p).2) = false := decide_eq_false (by omega)
  dsimp only
  rw [e1, e2, e3]
  rfl

theorem Program_SmP' {t : List Int} {i : Int} {r : GProgram × Int} (h : Tape_Program t i = r) : SmP (GProgram.mk r.1.Funcs) := Valid_SmP (DrP_Valid (Program_Dr h))
theorem List_dr {p : GProgram} (hp : DrP p) : nodes_List p = nF 0 p.Funcs := by
  rw [List_eq, check_ok hp]; rfl
theorem find0 (n : GNode) (l : List GNode) : ∀ (r : Nat) (v : Int), 0 ≤ v → v + (r : Int) = (l.length : Int) → (∃ j, v ≤ j ∧ j < (l.length : Int) ∧ nodes_Find_L0 n l r v = .ret j ∧ l.getD j.toNat default = n ∧ ∀ i, v ≤ i → i < j → l.getD i.toNat default ≠ n) ∨ (nodes_Find_L0 n l r v = .brk () ∧ ∀ i, v ≤ i → i < (l.length : Int) → l.getD i.toNat default ≠ n)
  | 0, v, h0, h1 => .inr ⟨by rw [nodes_Find_L0], fun i a b => by omega⟩
  | r + 1, v, h0, h1 => by
    have ee : ∀ m : GNode, ([m.Kind, m.Func, m.Block, m.Stmt] == [n.Kind, n.Func, n.Block, n.Stmt]) = true ↔ m = n := fun m => by
      obtain ⟨a, b, c, d⟩ := m
      obtain ⟨a', b', c', d'⟩ := n
      simp
    rw [nodes_Find_L0]
    cases e : [(l.getD (v : Int).toNat default).Kind, (l.getD (v : Int).toNat default).Func, (l.getD (v : Int).toNat default).Block, (l.getD (v : Int).toNat default).Stmt] == [n.Kind, n.Func, n.Block, n.Stmt]
    · have hne : l.getD v.toNat default ≠ n := fun h => by rw [(ee _).2 h] at e; cases e
      rcases find0 n l r (v + 1) (by omega) (by omega) with ⟨j, j1, j2, j3, j4, j5⟩ | ⟨j1, j2⟩
      · refine .inl ⟨j, by omega, j2, j3, j4, fun i a b => ?_⟩
        by_cases hi : i = v
        · rw [hi]; exact hne
        · exact j5 i (by omega) b
      · refine .inr ⟨j1, fun i a b => ?_⟩
        by_cases hi : i = v
        · rw [hi]; exact hne
        · exact j2 i (by omega) b
    · exact .inl ⟨v, by omega, by omega, rfl, (ee _).1 e, fun i a b => by omega⟩
theorem Find_in {p : GProgram} {n : GNode} {r : Int} (h : nodes_Find p n = r) (hr : decide (r < 0) = false) : NIn p n := by
  have hr := of_decide_eq_false hr
  subst h
  unfold nodes_Find at hr
  dsimp only at hr
  rcases find0 n (nodes_List p) ((((nodes_List p).length : Nat) : Int) - 0).toNat 0 (by omega) (by omega) with ⟨j, j1, j2, j3, j4, j5⟩ | ⟨j1, j2⟩
  · rw [← j4]; exact List_in (getD_mem (by omega))
  · rw [j1] at hr; exact absurd (by decide) hr
theorem Find_at {p : GProgram} (hp : DrP p) {i : Int} (hi : 0 ≤ i ∧ i < ((nodes_List p).length : Int)) : nodes_Find p ((nodes_List p).getD i.toNat default) = i := by
  have hw : (nodes_List p).Pairwise (fun x y => key x < key y) := by rw [List_dr hp]; exact nF_pw _ _ (DrP_smF hp)
  unfold nodes_Find
  dsimp only
  rcases find0 ((nodes_List p).getD i.toNat default) (nodes_List p) ((((nodes_List p).length : Nat) : Int) - 0).toNat 0 (by omega) (by omega) with ⟨j, j1, j2, j3, j4, j5⟩ | ⟨j1, j2⟩
  · rw [j3]
    dsimp only
    rcases Int.lt_trichotomy i j with h | h | h
    · exact absurd rfl (j5 i hi.1 h)
    · exact h.symm
    · have := pw_getD hw (i := j.toNat) (j := i.toNat) (by omega) (by omega)
      rw [j4] at this
      omega
  · exact absurd rfl (j2 i hi.1 hi.2)
theorem Find_mem {p : GProgram} (hp : DrP p) {n : GNode} (h : n ∈ nodes_List p) : decide (nodes_Find p n < 0) = false := by
  obtain ⟨i, hi, e⟩ := mem_at h
  rw [← e, Find_at hp hi]
  exact decide_eq_false (by omega)
theorem Itoa_len {n : Int} {r : Str} (h : strconv_Itoa n = r) (hn : 0 ≤ n ∧ n < 100) : r.b.length ≤ 2 := by
  subst h
  unfold strconv_Itoa istrconv_Itoa istrconv_FormatInt
  have e1 : decide (0 ≤ n) = true := decide_eq_true hn.1
  have e2 : decide (n < 100) = true := decide_eq_true hn.2
  simp only [beq_self_eq_true, cond_true, e1, e2]
  unfold istrconv_small
  cases decide (n < 10)
  · rw [cond_false, sub_len3]; omega
  · rw [cond_true, sub_len3]; omega
theorem Scan1_term (text : Str) (c : Int) : ∀ (r : Nat) (col i : Int), (0 ≤ i ∧ i ≤ (text.b.length : Int)) ∧ (text.b.length : Int) - i < (r : Int) → flqref4_Scan_L1 text c r col i ≠ LR.oof ∧ ∀ o j, flqref4_Scan_L1 text c r col i = .brk (o, j) → i ≤ j ∧ j ≤ (text.b.length : Int) ∧ j - i = o - col
  | 0, col, i, h => by omega
  | r + 1, col, i, h => by
    rw [flqref4_Scan_L1]
    simp only [Bool.cond_eq_ite, decide_eq_true_eq]
    have ih := fun (hi : i < (text.b.length : Int)) => Scan1_term text c r (col + 1) (i + 1) (by omega)
    have stop : (LR.brk (col, i) : LR (Int × Int) (List GToken × Int × Int × Int)) ≠ LR.oof ∧ ∀ o j, (LR.brk (col, i) : LR (Int × Int) (List GToken × Int × Int × Int)) = .brk (o, j) → i ≤ j ∧ j ≤ (text.b.length : Int) ∧ j - i = o - col := ⟨fun h => (by cases h), fun o j h => by cases h; omega⟩
    repeat' split
    all_goals first
      | exact stop
      | (have h3 := ih (by assumption); exact ⟨h3.1, fun o j h => by have := h3.2 o j h; omega⟩)
theorem Scan2_term (text : Str) (i : Int) : ∀ (r : Nat) (n : Int), (0 ≤ i + n ∧ i + n ≤ (text.b.length : Int)) ∧ (text.b.length : Int) - (i + n) < (r : Int) → flqref4_Scan_L2 text i r n ≠ LR.oof ∧ ∀ o, flqref4_Scan_L2 text i r n = .brk o → n ≤ o ∧ i + o ≤ (text.b.length : Int)
  | 0, n, h => by omega
  | r + 1, n, h => by
    rw [flqref4_Scan_L2]
    simp only [Bool.cond_eq_ite, decide_eq_true_eq]
    have ih := fun (hi : i + n < (text.b.length : Int)) => Scan2_term text i r (n + 1) (by omega)
    have stop : (LR.brk n : LR Int (List GToken × Int × Int × Int)) ≠ LR.oof ∧ ∀ o, (LR.brk n : LR Int (List GToken × Int × Int × Int)) = .brk o → n ≤ o ∧ i + o ≤ (text.b.length : Int) := ⟨fun h => (by cases h), fun o h => by cases h; omega⟩
    repeat' split
    all_goals first
      | exact stop
      | (have h3 := ih (by assumption); exact ⟨h3.1, fun o h => by have := h3.2 o h; omega⟩)

theorem Scan1_hash {text : Str} {c : Int} {r : Nat} {col i o j : Int} (h0 : 0 ≤ i ∧ i < (text.b.length : Int)) (hc : c = 35) (ht : ((text.b.getD i.toNat 0).toNat : Int) = 35) (hr : (text.b.length : Int) < (r : Int)) (h : flqref4_Scan_L1 text c r col i = .brk (o, j)) : i + 1 ≤ j ∧ j ≤ (text.b.length : Int) := by
  obtain ⟨q, rfl⟩ : ∃ q, r = q + 1 := ⟨r - 1, by omega⟩
  subst hc
  rw [flqref4_Scan_L1] at h
  simp only [beq_self_eq_true, cond_true, decide_eq_true h0.2, ht, show ((35 : Int) != 10) = true from rfl] at h
  have := (Scan1_term text 35 q (col + 1) (i + 1) (by omega)).2 o j h
  omega
theorem Scan1_ne {text : Str} {c : Int} {r : Nat} {col i o j : Int} (hc : c ≠ 35) (hr : 1 ≤ r) (h : flqref4_Scan_L1 text c r col i = .brk (o, j)) : o = col ∧ j = i := by
  obtain ⟨q, rfl⟩ : ∃ q, r = q + 1 := ⟨r - 1, by omega⟩
  rw [flqref4_Scan_L1] at h
  have e : (c == 35) = false := by simp [hc]
  simp only [e, cond_false] at h
  cases h; exact ⟨rfl, rfl⟩
theorem Scan2_word {text : Str} {r : Nat} {i o : Int} (h0 : 0 ≤ i ∧ i < (text.b.length : Int)) (hl : flqref4_letter ((text.b.getD i.toNat 0).toNat : Int) = true) (hr : (text.b.length : Int) < (r : Int)) (h : flqref4_Scan_L2 text i r 0 = .brk o) : 1 ≤ o ∧ i + o ≤ (text.b.length : Int) := by
  obtain ⟨q, rfl⟩ : ∃ q, r = q + 1 := ⟨r - 1, by omega⟩
  rw [flqref4_Scan_L2] at h
  simp only [Int.add_zero, decide_eq_true h0.2, hl, cond_true] at h
  exact (Scan2_term text i q 1 (by omega)).2 o h
theorem Scan1_ret (text : Str) (c : Int) : ∀ (r : Nat) (col i : Int) (x : List GToken × Int × Int × Int), flqref4_Scan_L1 text c r col i ≠ LR.ret x
  | 0, col, i, x => fun h => by cases h
  | r + 1, col, i, x => by
    rw [flqref4_Scan_L1]
    simp only [Bool.cond_eq_ite]
    repeat' split
    all_goals first | (intro h; cases h; done) | exact Scan1_ret text c r _ _ _
theorem Scan2_ret (text : Str) (i : Int) : ∀ (r : Nat) (n : Int) (x : List GToken × Int × Int × Int), flqref4_Scan_L2 text i r n ≠ LR.ret x
  | 0, n, x => fun h => by cases h
  | r + 1, n, x => by
    rw [flqref4_Scan_L2]
    simp only [Bool.cond_eq_ite]
    repeat' split
    all_goals first | (intro h; cases h; done) | exact Scan2_ret text i r _ _
theorem Scan_term (text : Str) : ∀ (r : Nat) (out : List GToken) (line col : Int) (op : Bool) (i : Int), (0 ≤ i ∧ i ≤ (text.b.length : Int)) ∧ (text.b.length : Int) - i < (r : Int) → flqref4_Scan_L0 text r out line col op i ≠ LR.oof
  | 0, out, line, col, op, i, h => by omega
  | r + 1, out, line, col, op, i, h => by
    rw [flqref4_Scan_L0]
    by_cases hi : i < (text.b.length : Int)
    · have t1 := fun c col => Scan1_term text c (text.b.length + 1) col i (by omega)
      have t2 := Scan2_term text i (text.b.length + 1) 0 (by omega)
      have ih := fun out line col op j (hj : i + 1 ≤ j ∧ j ≤ (text.b.length : Int)) => Scan_term text r out line col op j (by omega)
      simp only [decide_eq_true hi, cond_true]
      simp only [Bool.cond_eq_ite, beq_iff_eq, decide_eq_true_eq, bne_iff_ne]
      refine iteInduction (motive := fun x => x ≠ LR.oof) (fun _ => ih _ _ _ _ _ (by omega)) fun _ => ?_
      refine iteInduction (motive := fun x => x ≠ LR.oof) (fun _ => ih _ _ _ _ _ (by omega)) fun _ => ?_
      repeat' split
      all_goals first
        | (intro h; cases h; done)
        | exact ih _ _ _ _ _ (by omega)
        | (rename_i e; exact absurd e (t1 _ _).1)
        | (rename_i e; exact absurd e t2.1)
        | (rename_i e; exact absurd e (Scan1_ret _ _ _ _ _ _))
        | (rename_i e; exact absurd e (Scan2_ret _ _ _ _ _))
        | (have h1 := (t1 _ _).2 _ _ (by assumption); exact ih _ _ _ _ _ (by omega))
        | (exfalso; have e1 := Scan1_ne (text := text) (c := ((text.b.getD i.toNat 0).toNat : Int)) (r := text.b.length + 1) (col := col) (i := i) (by omega) (by omega) (by assumption); obtain ⟨rfl, rfl⟩ := e1; omega)
        | (have e1 := Scan1_ne (text := text) (c := ((text.b.getD i.toNat 0).toNat : Int)) (r := text.b.length + 1) (col := col) (i := i) (by omega) (by omega) (by assumption); obtain ⟨rfl, rfl⟩ := e1; exact ih _ _ _ _ _ (by omega))
        | (have h1 := Scan1_hash (text := text) (c := ((text.b.getD i.toNat 0).toNat : Int)) (r := text.b.length + 1) (col := col) (i := i) ⟨h.1.1, hi⟩ (by assumption) (by assumption) (by omega) (by assumption); exact ih _ _ _ _ _ (by omega))
        | (have h1 := Scan2_word (text := text) (r := text.b.length + 1) (i := i) ⟨h.1.1, hi⟩ (by assumption) (by omega) (by assumption); exact ih _ _ _ _ _ (by omega))
    · simp only [decide_eq_false hi, cond_false]
      intro h; cases h
theorem is_lt {p : Gparser} {w : Str} (h : parser_is p w = true) : p.at_ < (p.l.length : Int) := by
  unfold parser_is at h
  simp only [Bool.cond_eq_ite] at h
  repeat' split at h
  all_goals first | (have := of_decide_eq_true (by assumption : decide (p.at_ < (p.l.length : Int)) = true); omega) | (cases h)
theorem is_lt2 {p : Gparser} {w : Str} {r : Bool} (e : parser_is p w = r) (h : r = true) : p.at_ < (p.l.length : Int) := is_lt (e.trans h)
theorem fail_at (p : Gparser) (e : Int) : (parser_fail p e).at_ = p.at_ := by
  unfold parser_fail
  simp only [Bool.cond_eq_ite]
  split <;> rfl
theorem adv_fail {n a : Int} {p : Gparser} {e : Int} (h : Adv n a p.at_) : Adv n a (parser_fail p e).at_ := by rw [fail_at]; exact h
theorem adv_word {n a : Int} {p : Gparser} {w : Str} (hl : (p.l.length : Int) = n) (h : Adv n a p.at_) : Adv n a (parser_word p w).at_ := by
  unfold parser_word
  cases e : parser_is p w with
  | true => have := is_lt e; simp only [Bool.not_true, cond_false]; exact ⟨by have := h.1; omega, by omega⟩
  | false => simp only [Bool.not_false, cond_true, fail_at]; exact h
theorem isName_lt {p : Gparser} (h : parser_isName p = true) : p.at_ < (p.l.length : Int) := by
  unfold parser_isName at h
  simp only [Bool.cond_eq_ite] at h
  repeat' split at h
  all_goals first | (cases h; done) | (rename_i h1 _; exact of_decide_eq_true h1) | skip
  all_goals first | (have := of_decide_eq_true (by assumption : decide (p.at_ < (p.l.length : Int)) = true); omega) | (cases h)
theorem isName_lt2 {p : Gparser} {r : Bool} (e : parser_isName p = r) (h : r = true) : p.at_ < (p.l.length : Int) := isName_lt (e.trans h)
theorem name_at {p : Gparser} (h : parser_isName p = true) : (parser_name p).2 = Gparser.mk p.l (p.at_ + 1) p.Err := by
  unfold parser_name
  simp only [h, Bool.not_true, cond_false]
theorem name_no {p : Gparser} (h : parser_isName p = false) : (parser_name p).2.at_ = p.at_ := by
  unfold parser_name
  simp only [h, Bool.not_false, cond_true, fail_at]
theorem adv_name {n a : Int} {p : Gparser} (hl : (p.l.length : Int) = n) (h : Adv n a p.at_) : Adv n a (parser_name p).2.at_ := by
  cases e : parser_isName p with
  | true => have := isName_lt e; rw [name_at e]; exact ⟨by have := h.1; dsimp only; omega, by dsimp only; omega⟩
  | false => rw [name_no e]; exact h
theorem isKind_lt {p : Gparser} {k : Int} (h : parser_isKind p k = true) : p.at_ < (p.l.length : Int) := by
  unfold parser_isKind at h
  simp only [Bool.cond_eq_ite] at h
  repeat' split at h
  all_goals first | (have := of_decide_eq_true (by assumption : decide (p.at_ < (p.l.length : Int)) = true); omega) | (cases h)
theorem isKind_lt2 {p : Gparser} {k : Int} {r : Bool} (e : parser_isKind p k = r) (h : r = true) : p.at_ < (p.l.length : Int) := isKind_lt (e.trans h)
theorem adv_kind {n a x e k : Int} {l : List GToken} (hl : (l.length : Int) = n) (hk : ¬ (!parser_isKind (Gparser.mk l x e) k) = true) (h : Adv n a x) : Adv n a (x + 1) := by
  have : parser_isKind (Gparser.mk l x e) k = true := by simpa using hk
  have := isKind_lt this
  dsimp only at this
  exact ⟨by have := h.1; omega, by omega⟩
theorem adv_end {n a : Int} {p : Gparser} (hl : (p.l.length : Int) = n) (h : Adv n a p.at_) : Adv n a (parser_end p).at_ := by
  unfold parser_end
  cases e : parser_isKind p 3 with
  | true => have := isKind_lt e; simp only [Bool.not_true, cond_false]; exact ⟨by have := h.1; omega, by omega⟩
  | false => simp only [Bool.not_false, cond_true, fail_at]; exact h
theorem begins_lt {p : Gparser} (h : parser_begins p = true) : p.at_ < (p.l.length : Int) := by
  have key : ∀ (m : Nat) (i : Int), parser_begins_L0 p m i = .ret true → p.at_ < (p.l.length : Int) := fun m => by
    induction m with
    | zero => intro i h; cases h
    | succ m ih =>
      intro i h
      rw [parser_begins_L0] at h
      simp only [Bool.cond_eq_ite] at h
      split at h
      · exact is_lt (by assumption)
      · exact ih _ h
  unfold parser_begins at h
  split at h
  · exact isName_lt h
  · rename_i r e
    subst h
    exact key _ _ e
  · cases h
theorem more_L0_adv {p : Gparser} {hv : Int} : ∀ (r : Nat) (p1 p2 : Int) (out : List Str), (0 ≤ p1 ∧ p1 ≤ (p.l.length : Int)) ∧ (p.l.length : Int) - p1 < (r : Int) → parser_more_L0 p hv r p1 p2 out ≠ LR.oof ∧ (∀ a b o, parser_more_L0 p hv r p1 p2 out = .brk (a, b, o) → Adv p.l.length p1 a) ∧ (∀ x, parser_more_L0 p hv r p1 p2 out = .ret x → Adv p.l.length p1 x.2.at_)
  | 0, p1, p2, out, h => by omega
  | r + 1, p1, p2, out, h => by
    rw [parser_more_L0]
    cases e : parser_isName (Gparser.mk p.l p1 p2) with
    | false => exact ⟨fun h => (by cases h), fun a b o h' => (by cases h'; exact ⟨Int.le_refl _, h.1.2⟩), fun x h => (by cases h)⟩
    | true =>
      have hlt := isName_lt e
      dsimp only at hlt
      simp only [cond_true, name_at e]
      have ih := fun o => more_L0_adv (p := p) (hv := hv) r (p1 + 1) p2 o (by omega)
      simp only [Bool.cond_eq_ite]
      split
      · refine ⟨fun h => (by cases h), fun a b o h => (by cases h), fun x h' => ?_⟩
        cases h'
        rw [fail_at]; exact ⟨Int.le_refl _, h.1.2⟩
      · have k := ih (out ++ [(parser_name { l := p.l, at_ := p1, Err := p2 }).fst])
        exact ⟨k.1, fun a b o h' => by have := k.2.1 a b o h'; exact ⟨by have := this.1; omega, this.2⟩, fun x h' => by have := k.2.2 x h'; exact ⟨by have := this.1; omega, this.2⟩⟩
theorem adv_more {n a : Int} {p : Gparser} {v : Int} (hl : (p.l.length : Int) = n) (h0 : 0 ≤ a) (h : Adv n a p.at_) : Adv n a (parser_more p v).2.at_ := by
  have k := more_L0_adv (p := p) (hv := v) (p.l.length + 1) p.at_ p.Err [] (by have := h.1; have := h.2; omega)
  subst hl
  unfold parser_more
  split
  · rename_i e; exact adv_trans h (k.2.1 _ _ _ e)
  · rename_i e; exact adv_trans h (k.2.2 _ e)
  · rename_i e; exact absurd e k.1
theorem names_L0_adv {p : Gparser} : ∀ (r : Nat) (p1 p2 : Int) (out : List Str), (0 ≤ p1 ∧ p1 ≤ (p.l.length : Int)) ∧ (p.l.length : Int) - p1 < (r : Int) → parser_names_L0 p r p1 p2 out ≠ LR.oof ∧ (∀ a b o, parser_names_L0 p r p1 p2 out = .brk (a, b, o) → Adv p.l.length p1 a) ∧ (∀ x, parser_names_L0 p r p1 p2 out = .ret x → Adv p.l.length p1 x.2.at_)
  | 0, p1, p2, out, h => by omega
  | r + 1, p1, p2, out, h => by
    rw [parser_names_L0]
    cases e : parser_isName (Gparser.mk p.l p1 p2) with
    | false => exact ⟨fun h => (by cases h), fun a b o h' => (by cases h'; exact ⟨Int.le_refl _, h.1.2⟩), fun x h => (by cases h)⟩
    | true =>
      have hlt := isName_lt e
      dsimp only at hlt
      simp only [cond_true, name_at e]
      have ih := fun o => names_L0_adv (p := p) r (p1 + 1) p2 o (by omega)
      simp only [Bool.cond_eq_ite]
      split
      · refine ⟨fun h => (by cases h), fun a b o h => (by cases h), fun x h' => ?_⟩
        cases h'
        rw [fail_at]; exact ⟨Int.le_refl _, h.1.2⟩
      · have k := ih (out ++ [(parser_name { l := p.l, at_ := p1, Err := p2 }).fst])
        exact ⟨k.1, fun a b o h' => by have := k.2.1 a b o h'; exact ⟨by have := this.1; omega, this.2⟩, fun x h' => by have := k.2.2 x h'; exact ⟨by have := this.1; omega, this.2⟩⟩
theorem adv_names {n a : Int} {p : Gparser} (hl : (p.l.length : Int) = n) (h0 : 0 ≤ a) (h : Adv n a p.at_) : Adv n a (parser_names p).2.at_ := by
  have k := names_L0_adv (p := p) (p.l.length + 1) p.at_ p.Err [] (by have := h.1; have := h.2; omega)
  subst hl
  unfold parser_names
  split
  · rename_i e; exact adv_trans h (k.2.1 _ _ _ e)
  · rename_i e; exact adv_trans h (k.2.2 _ e)
  · rename_i e; exact absurd e k.1
theorem stmt_adv {p : Gparser} (h0 : 0 ≤ p.at_) (hb : parser_begins p = true) : Adv p.l.length (p.at_ + 1) (parser_stmt p).2.at_ := by
  have hlt := begins_lt hb
  have st : Adv p.l.length (p.at_ + 1) (p.at_ + 1) := ⟨Int.le_refl _, by omega⟩
  unfold parser_stmt
  cases e : parser_isName p with
  | false =>
    simp only [Bool.not_false, cond_true, Bool.cond_eq_ite, if_true, if_false, Bool.false_eq_true]
    repeat' split
    all_goals (repeat first | exact st | (refine adv_end rfl ?_; try dsimp only) | (refine adv_kind rfl (by assumption) ?_; try dsimp only) | (refine adv_name rfl ?_; try dsimp only) | (refine adv_fail ?_; try dsimp only) | (refine adv_names rfl (by omega) ?_; try dsimp only) | (refine adv_more rfl (by omega) ?_; try dsimp only))
  | true =>
    have nm : ∀ x y : List UInt8, x ≠ y → (Str.mk x == Str.mk y) = false := fun x y h => by
      rw [beq_eq_false_iff_ne]; intro h'; injection h' with h'; exact h h'
    simp only [Bool.not_true, cond_false, nm [] _ (List.cons_ne_nil _ _).symm, name_at e]
    simp only [Bool.cond_eq_ite, if_true, if_false, Bool.false_eq_true]
    repeat' split
    all_goals (repeat first | exact st | (refine adv_end rfl ?_; try dsimp only) | (refine adv_kind rfl (by assumption) ?_; try dsimp only) | (refine adv_name rfl ?_; try dsimp only) | (refine adv_fail ?_; try dsimp only) | (refine adv_names rfl (by omega) ?_; try dsimp only) | (refine adv_more rfl (by omega) ?_; try dsimp only))
theorem block_L0_adv {p : Gparser} {b0 : Str} : ∀ (r : Nat) (p1 p2 : Int) (out : List GStmt), (0 ≤ p1 ∧ p1 ≤ (p.l.length : Int)) ∧ (p.l.length : Int) - p1 < (r : Int) → parser_block_L0 p b0 r p1 p2 out ≠ LR.oof ∧ (∀ a b o, parser_block_L0 p b0 r p1 p2 out = .brk (a, b, o) → Adv p.l.length p1 a) ∧ (∀ x, parser_block_L0 p b0 r p1 p2 out = .ret x → Adv p.l.length p1 x.2.at_)
  | 0, p1, p2, out, h => by omega
  | r + 1, p1, p2, out, h => by
    rw [parser_block_L0]
    cases e : parser_begins (Gparser.mk p.l p1 p2) with
    | false => exact ⟨fun h => (by cases h), fun a b o h' => (by cases h'; exact ⟨Int.le_refl _, h.1.2⟩), fun x h => (by cases h)⟩
    | true =>
      have st := stmt_adv (p := Gparser.mk p.l p1 p2) h.1.1 e
      dsimp only at st
      have s1 := st.1
      have s2 := st.2
      simp only [cond_true]
      have ih := fun o => block_L0_adv (p := p) (b0 := b0) r (parser_stmt (Gparser.mk p.l p1 p2)).2.at_ (parser_stmt (Gparser.mk p.l p1 p2)).2.Err o (by omega)
      simp only [Bool.cond_eq_ite]
      split
      · refine ⟨fun h => (by cases h), fun a b o h => (by cases h), fun x h' => ?_⟩
        cases h'
        rw [fail_at]; exact ⟨Int.le_refl _, h.1.2⟩
      · have k := ih (out ++ [(parser_stmt (Gparser.mk p.l p1 p2)).1])
        exact ⟨k.1, fun a b o h' => by have := k.2.1 a b o h'; exact ⟨by have := this.1; omega, this.2⟩, fun x h' => by have := k.2.2 x h'; exact ⟨by have := this.1; omega, this.2⟩⟩
theorem block_adv {p : Gparser} {c : Int} (w : Adv p.l.length c (parser_word p (Str.mk [98, 108, 111, 99, 107])).at_) (h0 : 0 ≤ c) : Adv p.l.length c (parser_block p).2.at_ := by
  have n := adv_name (p := Gparser.mk p.l (parser_word p (Str.mk [98, 108, 111, 99, 107])).at_ (parser_word p (Str.mk [98, 108, 111, 99, 107])).Err) rfl w
  unfold parser_block
  simp only
  generalize hq : parser_end _ = q
  have e : Adv p.l.length c q.at_ := by rw [← hq]; exact adv_end rfl n
  have k := fun a b (ha : Adv p.l.length c a) => block_L0_adv (p := p) (b0 := (parser_name (Gparser.mk p.l (parser_word p (Str.mk [98, 108, 111, 99, 107])).at_ (parser_word p (Str.mk [98, 108, 111, 99, 107])).Err)).1) (p.l.length + 1) a b [] (by have := ha.1; have := ha.2; omega)
  cases parser_begins (Gparser.mk p.l q.at_ q.Err) with
  | true =>
    simp only [Bool.not_true, cond_false]
    split
    · rename_i e'; exact adv_trans e ((k _ _ e).2.1 _ _ _ e')
    · rename_i e'; exact adv_trans e ((k _ _ e).2.2 _ e')
    · rename_i e'; exact absurd e' (k _ _ e).1
  | false =>
    simp only [Bool.not_false, cond_true]
    have f := adv_fail (p := Gparser.mk p.l q.at_ q.Err) (e := 4) e
    split
    · rename_i e'; exact adv_trans f ((k _ _ f).2.1 _ _ _ e')
    · rename_i e'; exact adv_trans f ((k _ _ f).2.2 _ e')
    · rename_i e'; exact absurd e' (k _ _ f).1
theorem block_step {p : Gparser} (h : Adv p.l.length p.at_ p.at_) (h0 : 0 ≤ p.at_) (hw : parser_is p (Str.mk [98, 108, 111, 99, 107]) = true) : Adv p.l.length (p.at_ + 1) (parser_block p).2.at_ := by
  have hlt := is_lt hw
  refine block_adv ?_ (by omega)
  unfold parser_word
  simp only [hw, Bool.not_true, cond_false]
  exact ⟨Int.le_refl _, by omega⟩
theorem function_L0_adv {p : Gparser} {f0 : Str} : ∀ (r : Nat) (p1 p2 : Int) (out : List GBlock), (0 ≤ p1 ∧ p1 ≤ (p.l.length : Int)) ∧ (p.l.length : Int) - p1 < (r : Int) → parser_function_L0 p f0 r p1 p2 out ≠ LR.oof ∧ (∀ a b o, parser_function_L0 p f0 r p1 p2 out = .brk (a, b, o) → Adv p.l.length p1 a) ∧ (∀ x, parser_function_L0 p f0 r p1 p2 out = .ret x → Adv p.l.length p1 x.2.at_)
  | 0, p1, p2, out, h => by omega
  | r + 1, p1, p2, out, h => by
    rw [parser_function_L0]
    cases e : parser_is (Gparser.mk p.l p1 p2) (Str.mk [98, 108, 111, 99, 107]) with
    | false => exact ⟨fun h => (by cases h), fun a b o h' => (by cases h'; exact ⟨Int.le_refl _, h.1.2⟩), fun x h => (by cases h)⟩
    | true =>
      have st := block_step (p := Gparser.mk p.l p1 p2) ⟨Int.le_refl _, h.1.2⟩ h.1.1 e
      dsimp only at st
      have s1 := st.1
      have s2 := st.2
      simp only [cond_true]
      have ih := fun o => function_L0_adv (p := p) (f0 := f0) r (parser_block (Gparser.mk p.l p1 p2)).2.at_ (parser_block (Gparser.mk p.l p1 p2)).2.Err o (by omega)
      simp only [Bool.cond_eq_ite]
      split
      · refine ⟨fun h => (by cases h), fun a b o h => (by cases h), fun x h' => ?_⟩
        cases h'
        rw [fail_at]; exact ⟨Int.le_refl _, h.1.2⟩
      · have k := ih (out ++ [(parser_block (Gparser.mk p.l p1 p2)).1])
        exact ⟨k.1, fun a b o h' => by have := k.2.1 a b o h'; exact ⟨by have := this.1; omega, this.2⟩, fun x h' => by have := k.2.2 x h'; exact ⟨by have := this.1; omega, this.2⟩⟩

theorem function_adv {p : Gparser} {c : Int} (w : Adv p.l.length c (parser_word p (Str.mk [102, 117, 110, 99])).at_) (h0 : 0 ≤ c) : Adv p.l.length c (parser_function p).2.at_ := by
  have n := adv_name (p := Gparser.mk p.l (parser_word p (Str.mk [102, 117, 110, 99])).at_ (parser_word p (Str.mk [102, 117, 110, 99])).Err) rfl w
  unfold parser_function
  simp only
  generalize hq : parser_end _ = q
  have e : Adv p.l.length c q.at_ := by rw [← hq]; exact adv_end rfl n
  have k := fun a b (ha : Adv p.l.length c a) => function_L0_adv (p := p) (f0 := (parser_name (Gparser.mk p.l (parser_word p (Str.mk [102, 117, 110, 99])).at_ (parser_word p (Str.mk [102, 117, 110, 99])).Err)).1) (p.l.length + 1) a b [] (by have := ha.1; have := ha.2; omega)
  cases parser_is (Gparser.mk p.l q.at_ q.Err) (Str.mk [98, 108, 111, 99, 107]) with
  | true =>
    simp only [Bool.not_true, cond_false]
    split
    · rename_i e'
      refine adv_end rfl ?_
      dsimp only
      refine adv_word rfl ?_
      exact adv_trans e ((k _ _ e).2.1 _ _ _ e')
    · rename_i e'; exact adv_trans e ((k _ _ e).2.2 _ e')
    · rename_i e'; exact absurd e' (k _ _ e).1
  | false =>
    simp only [Bool.not_false, cond_true]
    have f := adv_fail (p := Gparser.mk p.l q.at_ q.Err) (e := 4) e
    split
    · rename_i e'
      refine adv_end rfl ?_
      dsimp only
      refine adv_word rfl ?_
      exact adv_trans f ((k _ _ f).2.1 _ _ _ e')
    · rename_i e'; exact adv_trans f ((k _ _ f).2.2 _ e')
    · rename_i e'; exact absurd e' (k _ _ f).1
theorem function_step {p : Gparser} (h : Adv p.l.length p.at_ p.at_) (h0 : 0 ≤ p.at_) (hw : parser_is p (Str.mk [102, 117, 110, 99]) = true) : Adv p.l.length (p.at_ + 1) (parser_function p).2.at_ := by
  have hlt := is_lt hw
  refine function_adv ?_ (by omega)
  unfold parser_word
  simp only [hw, Bool.not_true, cond_false]
  exact ⟨Int.le_refl _, by omega⟩
theorem Parse_L0_adv {l : List GToken} : ∀ (r : Nat) (p1 p2 : Int) (out : List GFunc), (0 ≤ p1 ∧ p1 ≤ (l.length : Int)) ∧ (l.length : Int) - p1 < (r : Int) → flqref4_Parse_L0 l r p1 p2 out ≠ LR.oof ∧ (∀ a b o, flqref4_Parse_L0 l r p1 p2 out = .brk (a, b, o) → Adv l.length p1 a) ∧ (∀ x, flqref4_Parse_L0 l r p1 p2 out ≠ .ret x)
  | 0, p1, p2, out, h => by omega
  | r + 1, p1, p2, out, h => by
    rw [flqref4_Parse_L0]
    cases e : parser_is (Gparser.mk l p1 p2) (Str.mk [102, 117, 110, 99]) with
    | false => exact ⟨fun h => (by cases h), fun a b o h' => (by cases h'; exact ⟨Int.le_refl _, h.1.2⟩), fun x h => (by cases h)⟩
    | true =>
      have st := function_step (p := Gparser.mk l p1 p2) ⟨Int.le_refl _, h.1.2⟩ h.1.1 e
      dsimp only at st
      have s1 := st.1
      have s2 := st.2
      simp only [cond_true]
      have ih := fun o => Parse_L0_adv (l := l) r (parser_function (Gparser.mk l p1 p2)).2.at_ (parser_function (Gparser.mk l p1 p2)).2.Err o (by omega)
      simp only [Bool.cond_eq_ite]
      split
      · refine ⟨fun h => (by cases h), fun a b o h' => ?_, fun x h' => (by cases h')⟩
        cases h'
        rw [fail_at]; exact ⟨Int.le_refl _, h.1.2⟩
      · have k := ih (out ++ [(parser_function (Gparser.mk l p1 p2)).1])
        exact ⟨k.1, fun a b o h' => by have := k.2.1 a b o h'; exact ⟨by have := this.1; omega, this.2⟩, k.2.2⟩
theorem sane7_true : flqlaw7_sane = true := by kernel_rfl
theorem inside_k {n : GNode} {v : Bool} (h : nodes_inside n = v) (hv : (!v) = false) : n.Kind = 3 ∨ n.Kind = 4 := by
  unfold nodes_inside at h
  cases e : n.Kind == 3
  · rw [e, cond_false] at h
    rw [← h] at hv
    right
    simpa using hv
  · exact .inl (by simpa using e)
theorem Stmt_sm {p : GProgram} {n : GNode} {r : GStmt × Bool} (hd : DrP p) (h : nodes_Stmt p n = r) : SmS r.1 ∧ SSm r.1 = true := by
  subst h
  have d0 : SmS (GStmt.mk 0 (Str.mk []) [] []) ∧ SSm (GStmt.mk 0 (Str.mk []) [] []) = true := ⟨SmS_0, rfl⟩
  unfold nodes_Stmt
  dsimp only
  cases nodes_inside n
  · exact d0
  · cases decide (nodes_Find p n < 0)
    · exact stm_sm hd _ _ _
    · exact d0
theorem Stmt_at {p : GProgram} (hp : DrP p) {n : GNode} (h : n ∈ nodes_List p) (hk : n.Kind = 3 ∨ n.Kind = 4) : nodes_Stmt p n = ((((p.Funcs.getD (n.Func : Int).toNat default).Blocks).getD (n.Block : Int).toNat default).Stmts.getD (n.Stmt : Int).toNat default, true) := by
  have hi : nodes_inside n = true := by
    unfold nodes_inside
    rcases hk with e | e <;> rw [e] <;> rfl
  unfold nodes_Stmt
  dsimp only
  rw [hi, Find_mem hp h]
  rfl
theorem words_len {l : List Str} {r : Str} (h : flqref4_words l = r) (hw : SmT SmW l 0 ∧ l.length ≤ 1000000) : r.b.length ≤ 1001000000 := by
  subst h
  have l0 : ∀ (r : Nat) (s : Str) (i : Int), 0 ≤ i → i + (r : Int) = (l.length : Int) → (flqref4_words_L0 l r s i).b.length ≤ s.b.length + 1001 * r := fun r => by
    induction r with
    | zero => intro s i _ _; rw [flqref4_words_L0]; omega
    | succ r ih =>
      intro s i h0 h1
      rw [flqref4_words_L0]
      refine Nat.le_trans (ih _ (i + 1) (by omega) (by omega)) ?_
      have := hw.1 i.toNat (by omega)
      unfold SmW at this
      rw [Str.app, List.length_append, Str.app, List.length_append]
      simp only [List.length_cons, List.length_nil]
      omega
  unfold flqref4_words
  have := l0 (((l.length : Nat) : Int) - 0).toNat (Str.mk []) 0 (by omega) (by omega)
  have e : (Str.mk []).b.length = 0 := rfl
  dsimp only
  omega
theorem NS_term (p0 : List GFunc) (l : List GNode) (s : List GStmt) (i a : Int) : flqlaw7_NodesStatements_L3 p0 l s i 3 a 0 ≠ .oof := by
  have c2 : ∀ a, flqlaw7_NodesStatements_L3 p0 l s i 1 a 2 = .brk a := fun a => by rw [flqlaw7_NodesStatements_L3]; rfl
  rw [flqlaw7_NodesStatements_L3]
  simp only [beq_self_eq_true, cond_true]
  generalize nodes_Stmt (GProgram.mk p0) (l.getD a.toNat default) = R
  cases decide (((l.length : Nat) : Int) ≤ a)
  · cases R.2
    · exact fun h => by cases h
    · cases flqref4_Line R.1 != flqref4_Line (s.getD i.toNat default)
      · simp only [cond_false, Bool.not_true]
        rw [flqlaw7_NodesStatements_L3]
        simp only [show ((0 : Int) + 1 == 0) = false from rfl, show ((0 : Int) + 1 == 1) = true from rfl, cond_false, cond_true]
        cases (s.getD i.toNat default).Op == 3
        · exact fun h => by cases h
        · generalize nodes_Stmt (GProgram.mk p0) (l.getD (a + 1).toNat default) = R'
          cases decide (((l.length : Nat) : Int) ≤ a + 1)
          · cases R'.2
            · exact fun h => by cases h
            · cases flqref4_Line R'.1 != flqref4_Line (s.getD i.toNat default)
              · simp only [cond_false, cond_true, Bool.not_true]
                rw [show (0 : Int) + 1 + 1 = 2 from rfl, c2]
                exact fun h => by cases h
              · exact fun h => by cases h
          · exact fun h => by cases h
      · exact fun h => by cases h
  · exact fun h => by cases h
theorem ns3 {p : GProgram} (hp : DrP p) (f b v : Int) (S : List GStmt) (hS : S = (((p.Funcs.getD f.toNat default).Blocks).getD b.toNat default).Stmts) {pre post : List GNode} (hl : nodes_List p = pre ++ one f b v (S.getD v.toNat default) ++ post) :
    flqlaw7_NodesStatements_L3 p.Funcs (nodes_List p) S v 3 (pre.length : Int) 0 = .brk ((pre.length : Int) + ((one f b v (S.getD v.toNat default)).length : Int)) := by
  have st : ∀ n : GNode, n ∈ nodes_List p → (n = GNode.mk 3 f b v ∨ n = GNode.mk 4 f b v) → nodes_Stmt (GProgram.mk p.Funcs) n = (S.getD v.toNat default, true) := fun n hn h => by
    have := Stmt_at hp hn (by rcases h with e | e <;> rw [e]; exact .inl rfl; exact .inr rfl)
    rw [show nodes_Stmt (GProgram.mk p.Funcs) n = nodes_Stmt p n from rfl, this, hS]
    rcases h with e | e <;> rw [e]
  have c2 : ∀ a, flqlaw7_NodesStatements_L3 p.Funcs (nodes_List p) S v 1 a 2 = .brk a := fun a => by rw [flqlaw7_NodesStatements_L3]; rfl
  have c2' : ∀ (a : Int) (r : Nat), ((S.getD v.toNat default).Op == 3) = false → flqlaw7_NodesStatements_L3 p.Funcs (nodes_List p) S v (r + 1) a 1 = .brk a := fun a r ho => by
    rw [flqlaw7_NodesStatements_L3, ho]; rfl
  rw [flqlaw7_NodesStatements_L3]
  simp only [beq_self_eq_true, cond_true]
  unfold one at hl ⊢
  cases ho : (S.getD v.toNat default).Op == 3
  · rw [ho, cond_false] at hl
    have h0 : (nodes_List p).getD ((pre.length : Int)).toNat default = GNode.mk 3 f b v := by rw [hl]; simp
    have hlen : (pre.length : Int) < ((nodes_List p).length : Int) := by rw [hl]; simp; omega
    rw [decide_eq_false (show ¬ (((nodes_List p).length : Nat) : Int) ≤ (pre.length : Int) by omega), h0, st _ (by rw [hl]; simp) (.inl rfl)]
    simp only [Bool.not_true, cond_false, bne_self_eq_false]
    rw [show (0 : Int) + 1 = 1 from rfl, c2' _ _ ho]
    simp
  · rw [ho, cond_true] at hl
    have h0 : (nodes_List p).getD ((pre.length : Int)).toNat default = GNode.mk 3 f b v := by rw [hl]; simp
    have h1 : (nodes_List p).getD ((pre.length : Int) + 1).toNat default = GNode.mk 4 f b v := by
      rw [hl, show ((pre.length : Int) + 1).toNat = pre.length + 1 by omega]; simp
    have hlen : (pre.length : Int) + 1 < ((nodes_List p).length : Int) := by rw [hl]; simp; omega
    rw [decide_eq_false (show ¬ (((nodes_List p).length : Nat) : Int) ≤ (pre.length : Int) by omega), h0, st _ (by rw [hl]; simp) (.inl rfl)]
    simp only [Bool.not_true, cond_false, bne_self_eq_false]
    rw [flqlaw7_NodesStatements_L3, show (0 : Int) + 1 = 1 from rfl, ho]
    rw [decide_eq_false (show ¬ (((nodes_List p).length : Nat) : Int) ≤ (pre.length : Int) + 1 by omega), h1, st _ (by rw [hl]; simp) (.inr rfl)]
    simp only [Bool.not_true, cond_false, cond_true, bne_self_eq_false, show ((1 : Int) == 0) = false from rfl, beq_self_eq_true]
    rw [show (1 : Int) + 1 = 2 from rfl, c2]
    simp
    omega
theorem ns2 {p : GProgram} (hp : DrP p) (f b : Int) (S : List GStmt) (hS : S = (((p.Funcs.getD f.toNat default).Blocks).getD b.toNat default).Stmts) : ∀ (r : Nat) (v : Int) (pre post : List GNode), 0 ≤ v → v + (r : Int) = (S.length : Int) → nodes_List p = pre ++ nS f b v (S.drop v.toNat) ++ post →
    flqlaw7_NodesStatements_L2 p.Funcs (nodes_List p) S r (pre.length : Int) v = .brk ((pre.length : Int) + ((nS f b v (S.drop v.toNat)).length : Int))
  | 0, v, pre, post, h0, h1, hl => by rw [flqlaw7_NodesStatements_L2, List.drop_eq_nil_of_le (by omega), nS]; simp
  | r + 1, v, pre, post, h0, h1, hl => by
    rw [getD_dropz h0 (by omega), nS] at hl ⊢
    have hl' : nodes_List p = pre ++ one f b v (S.getD v.toNat default) ++ (nS f b (v + 1) (S.drop (v + 1).toNat) ++ post) := by
      rw [hl]; unfold one; simp
    rw [flqlaw7_NodesStatements_L2, ns3 hp f b v S hS hl']
    have := ns2 hp f b S hS r (v + 1) (pre ++ one f b v (S.getD v.toNat default)) post (by omega) (by omega) (by rw [hl']; simp)
    rw [List.length_append, Int.natCast_add] at this
    dsimp only
    rw [this]
    rw [List.length_append]
    unfold one
    congr 1
    omega
theorem ns1 {p : GProgram} (hp : DrP p) (f : Int) : ∀ (r : Nat) (b : Int) (pre post : List GNode), 0 ≤ b → b + (r : Int) = ((p.Funcs.getD f.toNat default).Blocks.length : Int) → nodes_List p = pre ++ nB f b ((p.Funcs.getD f.toNat default).Blocks.drop b.toNat) ++ post →
    flqlaw7_NodesStatements_L1 p.Funcs (nodes_List p) f r (pre.length : Int) b = .brk ((pre.length : Int) + ((nB f b ((p.Funcs.getD f.toNat default).Blocks.drop b.toNat)).length : Int))
  | 0, b, pre, post, h0, h1, hl => by rw [flqlaw7_NodesStatements_L1, List.drop_eq_nil_of_le (by omega), nB]; simp
  | r + 1, b, pre, post, h0, h1, hl => by
    rw [getD_dropz h0 (by omega), nB] at hl ⊢
    have h2 := ns2 hp f b _ rfl ((((((p.Funcs.getD f.toNat default).Blocks.getD b.toNat default).Stmts.length : Nat) : Int) - 0).toNat) 0 pre (nB f (b + 1) ((p.Funcs.getD f.toNat default).Blocks.drop (b + 1).toNat) ++ post) (by omega) (by omega) (by rw [hl, show (0 : Int).toNat = 0 from rfl, List.drop_zero]; simp)
    rw [show (0 : Int).toNat = 0 from rfl, List.drop_zero] at h2
    rw [flqlaw7_NodesStatements_L1, h2]
    have := ns1 hp f r (b + 1) (pre ++ nS f b 0 (((p.Funcs.getD f.toNat default).Blocks.getD b.toNat default).Stmts)) post (by omega) (by omega) (by rw [hl]; simp)
    rw [List.length_append, Int.natCast_add] at this
    dsimp only
    rw [this, List.length_append]
    congr 1
    omega
theorem ns0 {p : GProgram} (hp : DrP p) : ∀ (r : Nat) (f : Int) (pre : List GNode), 0 ≤ f → f + (r : Int) = (p.Funcs.length : Int) → nodes_List p = pre ++ nF f (p.Funcs.drop f.toNat) →
    flqlaw7_NodesStatements_L0 p.Funcs (nodes_List p) r (pre.length : Int) f = .brk ((nodes_List p).length : Int)
  | 0, f, pre, h0, h1, hl => by
    rw [List.drop_eq_nil_of_le (by omega), nF, List.append_nil] at hl
    rw [flqlaw7_NodesStatements_L0, hl]
  | r + 1, f, pre, h0, h1, hl => by
    rw [getD_dropz h0 (by omega), nF] at hl
    have h2 := ns1 hp f ((((p.Funcs.getD f.toNat default).Blocks.length : Nat) : Int) - 0).toNat 0 (pre ++ [GNode.mk 1 f (-1) (-1)]) ([GNode.mk 2 f (-1) (-1)] ++ nF (f + 1) (p.Funcs.drop (f + 1).toNat)) (by omega) (by omega) (by rw [hl, show (0 : Int).toNat = 0 from rfl, List.drop_zero]; simp)
    rw [show (0 : Int).toNat = 0 from rfl, List.drop_zero, List.length_append] at h2
    rw [flqlaw7_NodesStatements_L0]
    rw [show (pre.length : Int) + 1 = ((pre.length + [GNode.mk 1 f (-1) (-1)].length : Nat) : Int) by simp, h2]
    have := ns0 hp r (f + 1) (pre ++ [GNode.mk 1 f (-1) (-1)] ++ nB f 0 (p.Funcs.getD f.toNat default).Blocks ++ [GNode.mk 2 f (-1) (-1)]) (by omega) (by omega) (by rw [hl]; simp)
    dsimp only
    rw [← this]
    congr 1
    simp
    omega
theorem NodesStatements_true (t : List Int) : flqlaw7_NodesStatements t = true := by
  have hp : DrP (Tape_Program t 0).1 := Program_Dr rfl
  unfold flqlaw7_NodesStatements
  dsimp only
  generalize (Tape_Program t 0).1 = p at hp
  have h := ns0 hp (((p.Funcs.length : Nat) : Int) - 0).toNat 0 [] (by omega) (by omega) (by rw [List_dr hp]; rfl)
  rw [show flqlaw7_NodesStatements_L0 p.Funcs (nodes_List p) (((p.Funcs.length : Nat) : Int) - 0).toNat 0 0 = _ from h]
  simp only [beq_self_eq_true, cond_true, sane7_true]
theorem un9 : Tryd.prog.underlying 9 = some .string := by kernel_rfl
theorem ca72 : callable Tryd.prog 72 = true := by kernel_rfl
theorem ca63 : callable Tryd.prog 63 = true := by kernel_rfl
theorem ca50 : callable Tryd.prog 50 = true := by kernel_rfl
theorem ca33 : callable Tryd.prog 33 = true := by kernel_rfl
theorem sl45 : slTy Tryd.prog 45 = some (9, 1, 16) := by kernel_rfl
theorem sz45 : slZero Tryd.prog 45 = some [.string (bs (Str.mk []))] := by kernel_rfl
theorem ca14 : callable Tryd.prog 14 = true := by kernel_rfl
theorem sh9 : tyShape Tryd.prog 9 = some (false, 1) := by kernel_rfl
theorem ca71 : callable Tryd.prog 71 = true := by kernel_rfl
theorem ca55 : callable Tryd.prog 55 = true := by kernel_rfl
theorem ca83 : callable Tryd.prog 83 = true := by kernel_rfl
theorem sh45 : tyShape Tryd.prog 45 = some (false, 1) := by kernel_rfl
theorem ca56 : callable Tryd.prog 56 = true := by kernel_rfl
theorem ca57 : callable Tryd.prog 57 = true := by kernel_rfl
theorem ze47 : zeroOf Tryd.prog 47 = some (.agg #[vi 0, .string (bs (Str.mk [])), .slice none 0 0, .slice none 0 0]) := by kernel_rfl
theorem ca17 : callable Tryd.prog 17 = true := by kernel_rfl
theorem st47 : stTy Tryd.prog 47 = some ([(0, 1), (1, 1), (2, 1), (3, 1)], [vi 0, .string (bs (Str.mk [])), .slice none 0 0, .slice none 0 0]) := by kernel_rfl
theorem sh47 : tyShape Tryd.prog 47 = some (true, 4) := by kernel_rfl
theorem ze25 : zeroOf Tryd.prog 25 = some (.agg #[.slice none 0 0]) := by kernel_rfl
theorem st41 : stTy Tryd.prog 41 = some ([(0, 1), (1, 1)], [.string (bs (Str.mk [])), .slice none 0 0]) := by kernel_rfl
theorem ze41 : zeroOf Tryd.prog 41 = some (.agg #[.string (bs (Str.mk [])), .slice none 0 0]) := by kernel_rfl
theorem sh41 : tyShape Tryd.prog 41 = some (true, 2) := by kernel_rfl
theorem st44 : stTy Tryd.prog 44 = some ([(0, 1), (1, 1)], [.string (bs (Str.mk [])), .slice none 0 0]) := by kernel_rfl
theorem ze44 : zeroOf Tryd.prog 44 = some (.agg #[.string (bs (Str.mk [])), .slice none 0 0]) := by kernel_rfl
theorem sh44 : tyShape Tryd.prog 44 = some (true, 2) := by kernel_rfl
theorem fo44_1 : fldOff Tryd.prog 44 1 = some 1 := by kernel_rfl
theorem sh42 : tyShape Tryd.prog 42 = some (false, 1) := by kernel_rfl
theorem ca15 : callable Tryd.prog 15 = true := by kernel_rfl
theorem sl42 : slTy Tryd.prog 42 = some (47, 4, 72) := by kernel_rfl
theorem sz42 : slZero Tryd.prog 42 = some [vi 0, .string (bs (Str.mk [])), .slice none 0 0, .slice none 0 0] := by kernel_rfl
theorem ca16 : callable Tryd.prog 16 = true := by kernel_rfl
theorem fo41_1 : fldOff Tryd.prog 41 1 = some 1 := by kernel_rfl
theorem sh39 : tyShape Tryd.prog 39 = some (false, 1) := by kernel_rfl
theorem sl39 : slTy Tryd.prog 39 = some (44, 2, 40) := by kernel_rfl
theorem sz39 : slZero Tryd.prog 39 = some [.string (bs (Str.mk [])), .slice none 0 0] := by kernel_rfl
theorem fo25_0 : fldOff Tryd.prog 25 0 = some 0 := by kernel_rfl
theorem sh23 : tyShape Tryd.prog 23 = some (false, 1) := by kernel_rfl
theorem sl23 : slTy Tryd.prog 23 = some (41, 2, 40) := by kernel_rfl
theorem sz23 : slZero Tryd.prog 23 = some [.string (bs (Str.mk [])), .slice none 0 0] := by kernel_rfl
theorem sh25 : tyShape Tryd.prog 25 = some (true, 1) := by kernel_rfl
theorem ca58 : callable Tryd.prog 58 = true := by kernel_rfl
theorem un45 : Tryd.prog.underlying 45 = some (.slice 9) := by kernel_rfl
theorem ca73 : callable Tryd.prog 73 = true := by kernel_rfl
theorem ca35 : callable Tryd.prog 35 = true := by kernel_rfl
theorem fo52_1 : fldOff Tryd.prog 52 1 = some 1 := by kernel_rfl
theorem sh3 : tyShape Tryd.prog 3 = some (false, 1) := by kernel_rfl
theorem fo52_0 : fldOff Tryd.prog 52 0 = some 0 := by kernel_rfl
theorem sh22 : tyShape Tryd.prog 22 = some (false, 1) := by kernel_rfl
theorem sl22 : slTy Tryd.prog 22 = some (3, 1, 8) := by kernel_rfl
theorem ca24 : callable Tryd.prog 24 = true := by kernel_rfl
theorem fmix : Tryd.prog.follows .mixedOrders = true := by kernel_rfl
theorem fo47_2 : fldOff Tryd.prog 47 2 = some 2 := by kernel_rfl
theorem fo47_0 : fldOff Tryd.prog 47 0 = some 0 := by kernel_rfl
theorem ca59 : callable Tryd.prog 59 = true := by kernel_rfl
theorem fo47_3 : fldOff Tryd.prog 47 3 = some 3 := by kernel_rfl
theorem fo47_1 : fldOff Tryd.prog 47 1 = some 1 := by kernel_rfl
theorem ca61 : callable Tryd.prog 61 = true := by kernel_rfl
theorem ca60 : callable Tryd.prog 60 = true := by kernel_rfl
theorem ca38 : callable Tryd.prog 38 = true := by kernel_rfl
theorem fo41_0 : fldOff Tryd.prog 41 0 = some 0 := by kernel_rfl
theorem fo44_0 : fldOff Tryd.prog 44 0 = some 0 := by kernel_rfl
theorem ca37 : callable Tryd.prog 37 = true := by kernel_rfl
theorem ca36 : callable Tryd.prog 36 = true := by kernel_rfl
theorem mt64 : mpTy Tryd.prog 64 = some (9, 4) := by kernel_rfl
theorem ze4 : zeroOf Tryd.prog 4 = some (vb false) := by kernel_rfl
theorem ca62 : callable Tryd.prog 62 = true := by kernel_rfl
theorem un4 : Tryd.prog.underlying 4 = some .bool := by kernel_rfl
theorem ze35 : zeroOf Tryd.prog 35 = some (.agg #[vi 0, vi 0, vi 0, vi 0]) := by kernel_rfl
theorem ca40 : callable Tryd.prog 40 = true := by kernel_rfl
theorem ca39 : callable Tryd.prog 39 = true := by kernel_rfl
theorem st35 : stTy Tryd.prog 35 = some ([(0, 1), (1, 1), (2, 1), (3, 1)], [vi 0, vi 0, vi 0, vi 0]) := by kernel_rfl
theorem sh35 : tyShape Tryd.prog 35 = some (true, 4) := by kernel_rfl
theorem ca41 : callable Tryd.prog 41 = true := by kernel_rfl
theorem ca25 : callable Tryd.prog 25 = true := by kernel_rfl
theorem ze3 : zeroOf Tryd.prog 3 = some (vi 0) := by kernel_rfl
theorem ca42 : callable Tryd.prog 42 = true := by kernel_rfl
theorem ca43 : callable Tryd.prog 43 = true := by kernel_rfl
theorem sh64 : tyShape Tryd.prog 64 = some (false, 1) := by kernel_rfl
theorem ze64 : zeroOf Tryd.prog 64 = some (.map none) := by kernel_rfl
theorem ze45 : zeroOf Tryd.prog 45 = some (.slice none 0 0) := by kernel_rfl
theorem ze81 : zeroOf Tryd.prog 81 = some (.nilFunc) := by kernel_rfl
theorem sh81 : tyShape Tryd.prog 81 = some (false, 1) := by kernel_rfl
theorem ca45 : callable Tryd.prog 45 = true := by kernel_rfl
theorem ca44 : callable Tryd.prog 44 = true := by kernel_rfl
theorem ca27 : callable Tryd.prog 27 = true := by kernel_rfl
theorem ca26 : callable Tryd.prog 26 = true := by kernel_rfl
theorem ca28 : callable Tryd.prog 28 = true := by kernel_rfl
theorem ca29 : callable Tryd.prog 29 = true := by kernel_rfl
theorem ca30 : callable Tryd.prog 30 = true := by kernel_rfl
theorem ca18 : callable Tryd.prog 18 = true := by kernel_rfl
theorem sl29 : slTy Tryd.prog 29 = some (35, 4, 32) := by kernel_rfl
theorem sz29 : slZero Tryd.prog 29 = some [vi 0, vi 0, vi 0, vi 0] := by kernel_rfl
theorem ca7 : callable Tryd.prog 7 = true := by kernel_rfl
theorem eqi35 : eqInts Tryd.prog 35 4 = true := by kernel_rfl
theorem ca9 : callable Tryd.prog 9 = true := by kernel_rfl
theorem fo35_1 : fldOff Tryd.prog 35 1 = some 1 := by kernel_rfl
theorem fo35_0 : fldOff Tryd.prog 35 0 = some 0 := by kernel_rfl
theorem fo35_2 : fldOff Tryd.prog 35 2 = some 2 := by kernel_rfl
theorem fo35_3 : fldOff Tryd.prog 35 3 = some 3 := by kernel_rfl
theorem ca20 : callable Tryd.prog 20 = true := by kernel_rfl
theorem ca46 : callable Tryd.prog 46 = true := by kernel_rfl
theorem ca47 : callable Tryd.prog 47 = true := by kernel_rfl
theorem ca48 : callable Tryd.prog 48 = true := by kernel_rfl
theorem st95 : stTy Tryd.prog 95 = some ([(0, 1), (1, 1), (2, 1), (3, 1)], [vi 0, .string (bs (Str.mk [])), vi 0, vi 0]) := by kernel_rfl
theorem sl86 : slTy Tryd.prog 86 = some (95, 4, 40) := by kernel_rfl
theorem sz86 : slZero Tryd.prog 86 = some [vi 0, .string (bs (Str.mk [])), vi 0, vi 0] := by kernel_rfl
theorem fo91_2 : fldOff Tryd.prog 91 2 = some 2 := by kernel_rfl
theorem sh57 : tyShape Tryd.prog 57 = some (false, 1) := by kernel_rfl
theorem fo91_1 : fldOff Tryd.prog 91 1 = some 1 := by kernel_rfl
theorem fo91_0 : fldOff Tryd.prog 91 0 = some 0 := by kernel_rfl
theorem sh86 : tyShape Tryd.prog 86 = some (false, 1) := by kernel_rfl
theorem fo95_0 : fldOff Tryd.prog 95 0 = some 0 := by kernel_rfl
theorem fo95_1 : fldOff Tryd.prog 95 1 = some 1 := by kernel_rfl
theorem ca52 : callable Tryd.prog 52 = true := by kernel_rfl
theorem ca53 : callable Tryd.prog 53 = true := by kernel_rfl
theorem ca31 : callable Tryd.prog 31 = true := by kernel_rfl
theorem ca79 : callable Tryd.prog 79 = true := by kernel_rfl
theorem ca80 : callable Tryd.prog 80 = true := by kernel_rfl
theorem ca68 : callable Tryd.prog 68 = true := by kernel_rfl
theorem ca86 : callable Tryd.prog 86 = true := by kernel_rfl
theorem ca69 : callable Tryd.prog 69 = true := by kernel_rfl
theorem ca87 : callable Tryd.prog 87 = true := by kernel_rfl
theorem ca67 : callable Tryd.prog 67 = true := by kernel_rfl
theorem ca81 : callable Tryd.prog 81 = true := by kernel_rfl
theorem ca82 : callable Tryd.prog 82 = true := by kernel_rfl
theorem ca70 : callable Tryd.prog 70 = true := by kernel_rfl
theorem ca51 : callable Tryd.prog 51 = true := by kernel_rfl
theorem st25 : stTy Tryd.prog 25 = some ([(0, 1)], [.slice none 0 0]) := by kernel_rfl
theorem st91 : stTy Tryd.prog 91 = some ([(0, 1), (1, 1), (2, 1)], [.slice none 0 0, vi 0, vi 0]) := by kernel_rfl
theorem ca54 : callable Tryd.prog 54 = true := by kernel_rfl
theorem fo95_2 : fldOff Tryd.prog 95 2 = some 2 := by kernel_rfl
theorem fo95_3 : fldOff Tryd.prog 95 3 = some 3 := by kernel_rfl
theorem ca34 : callable Tryd.prog 34 = true := by kernel_rfl
theorem ca21 : callable Tryd.prog 21 = true := by kernel_rfl
theorem ca10 : callable Tryd.prog 10 = true := by kernel_rfl
theorem ca22 : callable Tryd.prog 22 = true := by kernel_rfl
theorem ca23 : callable Tryd.prog 23 = true := by kernel_rfl
theorem st52 : stTy Tryd.prog 52 = some ([(0, 1), (1, 1)], [.slice none 0 0, vi 0]) := by kernel_rfl
theorem un3 : Tryd.prog.underlying 3 = some (.int .i64) := by kernel_rfl
theorem un74 : Tryd.prog.underlying 74 = some (.int .u64) := by kernel_rfl
theorem ca5 : callable Tryd.prog 5 = true := by kernel_rfl
theorem ca6 : callable Tryd.prog 6 = true := by kernel_rfl
theorem ca11 : callable Tryd.prog 11 = true := by kernel_rfl
theorem ca12 : callable Tryd.prog 12 = true := by kernel_rfl
theorem ca13 : callable Tryd.prog 13 = true := by kernel_rfl
theorem fn63 (i : Int) (hi_0 : i64ok i) (hi : 0 ≤ i ∧ i < 100) (rr : Str) (hrr : istrconv_small i = rr) : FT Tryd.prog 63 #[vi i] [] (fun g : Unit => rr.b.length ≤ 140737488355328 ∧ (rr.b.length ≤ 2)) (fun g => .string (bs rr)) (fun g => []) := by
 refine FTi Tryd.func63 fun w0 M0 F0 => ?_
 unfold i64ok at hi_0
 refine KS ?_
 refine Oq Va (KS ?_)
 refine Oq Vm (Oq Vlss (KS ?_))
 refine Kc ?_ ?_
 · intro h1
   have g2 := of_decide_eq_true h1
   refine KS ?_
   refine Oq Vm (Oq Vm (Oq Vadd ?_))
   have hb3 : tab0.b.length = 36 := rfl
   refine Oq (VslS un9 (l := tab0)) ?_
   have hb4 := sub_len3 tab0 i.toNat ((i + 1) : Int).toNat
   refine Oq Va (KS ?_)
   have hq := q4 hrr (tab0.sub i.toNat ((i + 1) : Int).toNat) (by simp only [istrconv_small, h1, cs4]); subst hq
   exact Kr () rfl (.tmp rfl .nil) [] en
 intro h1
 have g5 := of_decide_eq_false h1
 refine KS ?_
 refine Oq Vm (Oq Vmul (Oq Vm (Oq Vmul (Oq Vadd ?_))))
 have hb6 : tab1.b.length = 200 := rfl
 refine Oq (VslS un9 (l := tab1)) ?_
 have hb7 := sub_len3 tab1 ((i * 2) : Int).toNat (((i * 2) + 2) : Int).toNat
 refine Oq Va (KS ?_)
 have hq := q4 hrr (tab1.sub ((i * 2) : Int).toNat (((i * 2) + 2) : Int).toNat) (by simp only [istrconv_small, h1, cs4]); subst hq
 exact Kr () rfl (.tmp rfl .nil) [] en
theorem fn50 (i : Int) (base : Int) (hi_0 : i64ok i) (hbase_0 : i64ok base) (hi : 0 ≤ i ∧ i < 100 ∧ base = 10) (rr : Str) (hrr : istrconv_FormatInt i base = rr) : FT Tryd.prog 50 #[vi i, vi base] [] (fun g : Unit => rr.b.length ≤ 140737488355328 ∧ (rr.b.length ≤ 2)) (fun g => .string (bs rr)) (fun g => []) := by
 refine FTi Tryd.func50 fun w0 M0 F0 => ?_
 unfold i64ok at hi_0 hbase_0
 refine KS ?_
 refine Oq Va (KS ?_)
 refine Oq Vm (Oq Veql (KS ?_))
 refine Kc ?_ ?_
 · intro h1
   have g2 := eq_of_beq h1
   refine KS ?_
   refine Oq Vm (Oq Vleq (Oq Vm ?_))
   refine Js 14 ?_ ?_
   · intro h3
     have g4 := of_decide_eq_true h3
     refine Oq Vm (Oq Vlss (Oq Vpt (KS ?_)))
     refine Kc ?_ ?_
     · intro h5
       have g6 := of_decide_eq_true h5
       refine KS ?_
       refine Oq Vm ?_
       refine letv (istrconv_small i) fun rv7 hg8 => ?_
       have hc9 := fn63 i pre pre rv7 hg8
       refine Oc [] ca63 hc9 ?_
       rintro - ⟨he10, he11⟩
       refine Oq Va (KS ?_)
       have hq := q4 hrr rv7 (by simp only [istrconv_FormatInt, h1, h3, h5, hg8, cs4]); subst hq
       exact Kr () rfl (.tmp rfl .nil) [] en
     intro h5
     have g12 := of_decide_eq_false h5
     exfalso; omega
   intro h3
   have g13 := of_decide_eq_false h3
   exfalso; omega
 intro h1
 have g14 := ne_of_beq_false h1
 exfalso; omega
theorem fn33 (i : Int) (hi_0 : i64ok i) (hi : 0 ≤ i ∧ i < 100) (rr : Str) (hrr : istrconv_Itoa i = rr) : FT Tryd.prog 33 #[vi i] [] (fun g : Unit => rr.b.length ≤ 140737488355328 ∧ (rr.b.length ≤ 2)) (fun g => .string (bs rr)) (fun g => []) := by
 refine FTi Tryd.func33 fun w0 M0 F0 => ?_
 unfold i64ok at hi_0
 refine KS ?_
 refine Oq Va (KS ?_)
 refine Oq Vm ?_
 refine letv (istrconv_FormatInt i 10) fun rv1 hg2 => ?_
 have hc3 := fn50 i 10 pre pre pre rv1 hg2
 refine Oc [] ca50 hc3 ?_
 rintro - ⟨he4, he5⟩
 refine Oq Va (KS ?_)
 have hq := q4 hrr rv1 (by simp only [istrconv_Itoa, hg2, cs4]); subst hq
 exact Kr () rfl (.tmp rfl .nil) [] en
theorem fn20 (i : Int) (hi_0 : i64ok i) (hi : 0 ≤ i ∧ i < 100) (rr : Str) (hrr : strconv_Itoa i = rr) : FT Tryd.prog 20 #[vi i] [] (fun g : Unit => rr.b.length ≤ 140737488355328 ∧ (rr.b.length ≤ 2)) (fun g => .string (bs rr)) (fun g => []) := by
 refine FTi Tryd.func20 fun w0 M0 F0 => ?_
 unfold i64ok at hi_0
 refine KS ?_
 refine Oq Va (KS ?_)
 refine Oq Vm ?_
 refine letv (istrconv_Itoa i) fun rv1 hg2 => ?_
 have hc3 := fn33 i pre pre rv1 hg2
 refine Oc [] ca33 hc3 ?_
 rintro - ⟨he4, he5⟩
 refine Oq Va (KS ?_)
 have hq := q4 hrr rv1 (by simp only [strconv_Itoa, hg2, cs4]); subst hq
 exact Kr () rfl (.tmp rfl .nil) [] en
theorem fn55 (c : Int) (hc_0 : 0 ≤ c ∧ c ≤ 255) (rr : Bool) (hrr : lexer_letter c = rr) : FT Tryd.prog 55 #[.int .u8 c] [] (fun g : Unit => True) (fun g => vb rr) (fun g => []) := by
 refine FTi Tryd.func55 fun w0 M0 F0 => ?_
 refine KS ?_
 refine Oq Va (KS ?_)
 refine Oq Vm (Oq Vgeq (Oq Vm ?_))
 refine Js 5 ?_ ?_
 · intro h1
   have g2 := of_decide_eq_true h1
   refine Oq Vm (Oq Vleq (Oq Vpt (Oq Vm ?_)))
   refine Js 9 ?_ ?_
   · intro h3
     have g4 := of_decide_eq_true h3
     refine Osk (Osk (Osk (Osk (Osk (Osk (Oq Vpt (Oq Va (KS ?_))))))))
     have hq := q4 hrr true (by simp only [lexer_letter, h1, h3, cs4]); subst hq
     exact Kr () rfl (.tmp rfl .nil) [] trivial
   intro h3
   have g5 := of_decide_eq_false h3
   refine Oq Vm (Oq Vgeq (Oq Vm ?_))
   refine Js 12 ?_ ?_
   · intro h6
     have g7 := of_decide_eq_true h6
     refine Oq Vm (Oq Vleq (Oq Vpt (Oq Vpf (Oq Va (KS ?_)))))
     have hq := q4 hrr (decide (c ≤ 90)) (by simp only [lexer_letter, h1, h3, h6, cs4]); subst hq
     exact Kr () rfl (.tmp rfl .nil) [] trivial
   intro h6
   have g8 := of_decide_eq_false h6
   refine Osk (Osk (Oq Vpf (Oq Vpf (Oq Va (KS ?_)))))
   have hq := q4 hrr false (by simp only [lexer_letter, h1, h3, h6, cs4]); subst hq
   exact Kr () rfl (.tmp rfl .nil) [] trivial
 intro h1
 have g9 := of_decide_eq_false h1
 refine Osk (Osk (Oq Vpf (Oq Vm (Oq Vm (Oq Vgeq (Oq Vm ?_))))))
 refine Js 12 ?_ ?_
 · intro h10
   have g11 := of_decide_eq_true h10
   refine Oq Vm (Oq Vleq (Oq Vpt (Oq Vpf (Oq Va (KS ?_)))))
   have hq := q4 hrr (decide (c ≤ 90)) (by simp only [lexer_letter, h1, h10, cs4]); subst hq
   exact Kr () rfl (.tmp rfl .nil) [] trivial
 intro h10
 have g12 := of_decide_eq_false h10
 refine Osk (Osk (Oq Vpf (Oq Vpf (Oq Va (KS ?_)))))
 have hq := q4 hrr false (by simp only [lexer_letter, h1, h10, cs4]); subst hq
 exact Kr () rfl (.tmp rfl .nil) [] trivial
theorem fn71 (s : List Str) (sa0 : Option Addr) (sk0 : Nat) (v : Str) (hv_0 : v.b.length ≤ 140737488355328) (rr : Int) (hrr : slices_Index_string s v = rr) : FT Tryd.prog 71 #[vl sa0 sk0 s, .string (bs v)] [S sa0 sk0 s] (fun g : Unit => i64ok rr) (fun g => vi rr) (fun g => []) := by
 refine FTi Tryd.func71 fun w0 M0 F0 => ?_
 refine Fb 16 0 fun hl1 => ?_
 refine FoS 0 fun ho2 => ?_
 refine KS ?_
 refine Oq Va (KS ?_)
 refine Oq Vm (Oq (Vlen sl45) (Oq Vm (KS ?_)))
 refine Kl (γ := Nat × Int) (fun (r3, v8_4) => ⟨[(0, vl sa0 sk0 s), (1, .string (bs v)), (7, vi (s.length : Int)), (8, vi v8_4)], [S sa0 sk0 s], slices_Index_string_L0 s v r3 v8_4 = slices_Index_string_L0 s v (((s.length : Int) - 0).toNat) 0 ∧ r3 = ((s.length : Int) - v8_4).toNat ∧ (0 : Int) ≤ v8_4 ∧ v8_4 ≤ (s.length : Int) ∧ (-9223372036854775808 ≤ v8_4 ∧ v8_4 ≤ 9223372036854775807), r3⟩) (((s.length : Int) - 0).toNat, 0) [0] ⟨rfl, rfl, (by omega), (by omega), (by omega)⟩ ?_
 rintro ⟨r3, v8_4⟩ ⟨hM5, hr6, hi7, hi8, hk9⟩
 refine JJ_nx fun _ _ hL hA => ?_; dsimp only at hL hA; subst hL hA
 refine Fb 16 0 fun hl10 => ?_
 refine FoS 0 fun ho11 => ?_
 refine KS ?_
 refine Oq Vlss (KS ?_)
 refine Kc ?_ ?_
 · intro h12
   have g13 := of_decide_eq_true h12
   obtain ⟨r14, rfl⟩ := scc (n := r3) (by omega)
   refine KS ?_
   refine Oq Vm (Oq Va (KS ?_))
   refine Oq Vm (Oq Vm (Oq Vm (Oq (Vi sl45 0) ?_)))
   have hb15 := okS (i := v8_4.toNat) ho11 rng
   refine Oq (VldS sh9 0) (Oq (VeqS (l := v) (m := (s.getD v8_4.toNat default))) (KS ?_))
   refine Kc ?_ ?_
   · intro h16
     have g17 := eq_of_beq h16
     refine KS ?_
     refine Oq Vm (Oq Va (KS ?_))
     have hR18 := q2 hM5 (.ret v8_4) (by simp only [slices_Index_string_L0, h12, h16, cs4])
     have hq := q4 hrr v8_4 (by simp only [slices_Index_string, h12, h16, hR18, cs4]); subst hq
     exact Kr () rfl (.tmp rfl .nil) [] en
   intro h16
   have g19 := ne_of_beq_false h16
   refine KS ?_
   refine Oq Vadd (Oq Vm (KS ?_))
   exact Kg (r14, (v8_4 + 1)) [0] ⟨(q3 hM5 (by simp only [slices_Index_string_L0, h12, h16, cs4])), (by omega), (by omega), (by omega), (by omega)⟩
 intro h12
 have g20 := of_decide_eq_false h12
 obtain rfl : r3 = 0 := by omega
 refine Ke ?_
 have hR21 := q2 hM5 (.brk ()) (by simp only [slices_Index_string_L0, h12, cs4])
 refine KS ?_
 refine Oq Va (KS ?_)
 have hq := q4 hrr (-1) (by simp only [slices_Index_string, h12, hR21, cs4]); subst hq
 exact Kr () rfl (.tmp rfl .nil) [] en
theorem fn56 (s : List Str) (sa0 : Option Addr) (sk0 : Nat) (v : Str) (hv_0 : v.b.length ≤ 140737488355328) (rr : Bool) (hrr : slices_Contains_string s v = rr) : FT Tryd.prog 56 #[vl sa0 sk0 s, .string (bs v)] [S sa0 sk0 s] (fun g : Unit => True) (fun g => vb rr) (fun g => []) := by
 refine FTi Tryd.func56 fun w0 M0 F0 => ?_
 refine Fb 16 0 fun hl1 => ?_
 refine FoS 0 fun ho2 => ?_
 refine KS ?_
 refine Oq Va (KS ?_)
 refine Oq Vm (Oq Vm ?_)
 refine letv (slices_Index_string s v) fun rv3 hg4 => ?_
 have hc5 := fn71 s sa0 sk0 v pre rv3 hg4
 refine Oc [0] ca71 hc5 ?_
 rintro - he6
 unfold i64ok at he6
 refine Oq Vgeq (Oq Va (KS ?_))
 have hq := q4 hrr (decide (0 ≤ rv3)) (by simp only [slices_Contains_string, hg4, cs4]); subst hq
 exact Kr () rfl (.tmp rfl .nil) [] trivial
theorem fn83 (c : Int) (hc_0 : 0 ≤ c ∧ c ≤ 255) (rr : Bool) (hrr : lexer_digit c = rr) : FT Tryd.prog 83 #[.int .u8 c] [] (fun g : Unit => True) (fun g => vb rr) (fun g => []) := by
 refine FTi Tryd.func83 fun w0 M0 F0 => ?_
 refine KS ?_
 refine Oq Va (KS ?_)
 refine Oq Vm (Oq Vgeq (Oq Vm ?_))
 refine Js 5 ?_ ?_
 · intro h1
   have g2 := of_decide_eq_true h1
   refine Oq Vm (Oq Vleq (Oq Vpt (Oq Va (KS ?_))))
   have hq := q4 hrr (decide (c ≤ 57)) (by simp only [lexer_digit, h1, cs4]); subst hq
   exact Kr () rfl (.tmp rfl .nil) [] trivial
 intro h1
 have g3 := of_decide_eq_false h1
 refine Osk (Osk (Oq Vpf (Oq Va (KS ?_))))
 have hq := q4 hrr false (by simp only [lexer_digit, h1, cs4]); subst hq
 exact Kr () rfl (.tmp rfl .nil) [] trivial
theorem fn72 (c : Int) (hc_0 : 0 ≤ c ∧ c ≤ 255) (rr : Bool) (hrr : lexer_part c = rr) : FT Tryd.prog 72 #[.int .u8 c] [] (fun g : Unit => True) (fun g => vb rr) (fun g => []) := by
 refine FTi Tryd.func72 fun w0 M0 F0 => ?_
 refine KS ?_
 refine Oq Va (KS ?_)
 refine Oq Vm ?_
 refine letv (lexer_letter c) fun rv1 hg2 => ?_
 have hc3 := fn55 c pre rv1 hg2
 refine Oc [] ca55 hc3 ?_
 rintro - -
 refine Oq Vm ?_
 refine Js 5 ?_ ?_
 · intro h4
   refine Osk (Osk (Oq Vpt (Oq Vm (Osk (Osk (Oq Vpt (Oq Va (KS ?_))))))))
   have hq := q4 hrr true (by simp only [lexer_part, h4, hg2, cs4]); subst hq
   exact Kr () rfl (.tmp rfl .nil) [] trivial
 intro h4
 refine Oq Vm ?_
 refine letv (lexer_digit c) fun rv7 hg8 => ?_
 have hc9 := fn83 c pre rv7 hg8
 refine Oc [] ca83 hc9 ?_
 rintro - -
 refine Oq Vpf (Oq Vm ?_)
 refine Js 9 ?_ ?_
 · intro h10
   refine Osk (Osk (Oq Vpt (Oq Va (KS ?_))))
   have hq := q4 hrr true (by simp only [lexer_part, h4, h10, hg2, hg8, cs4]); subst hq
   exact Kr () rfl (.tmp rfl .nil) [] trivial
 intro h10
 refine Oq Vm (Oq Veql (Oq Vpf (Oq Va (KS ?_))))
 have hq := q4 hrr (c == 95) (by simp only [lexer_part, h4, h10, hg2, hg8, cs4]); subst hq
 exact Kr () rfl (.tmp rfl .nil) [] trivial
theorem fn57 (s : Str) (i : Int) (hs_0 : s.b.length ≤ 140737488355328) (hi_0 : i64ok i) (hi0 : 0 ≤ i ∧ i ≤ (s.b.length : Int)) (rr : Int) (hrr : lexer_wordEnd s i = rr) : FT Tryd.prog 57 #[.string (bs s), vi i] [] (fun g : Unit => i64ok rr ∧ (i ≤ rr ∧ rr ≤ (s.b.length : Int))) (fun g => vi rr) (fun g => []) := by
 refine FTi Tryd.func57 fun w0 M0 F0 => ?_
 unfold i64ok at hi_0
 refine KS ?_
 refine Oq Va (KS ?_)
 refine Kl (γ := Nat × Int) (fun (r1, i_2) => ⟨[(0, .string (bs s)), (1, vi i_2)], [], lexer_wordEnd_L0 s r1 i_2 = lexer_wordEnd_L0 s (((s.b.length : Int) - i).toNat) i ∧ r1 = ((s.b.length : Int) - i_2).toNat ∧ (i : Int) ≤ i_2 ∧ (i_2 ≤ (s.b.length : Int) ∨ i_2 = i) ∧ (-9223372036854775808 ≤ i_2 ∧ i_2 ≤ 9223372036854775807), r1⟩) (((s.b.length : Int) - i).toNat, i) [] ⟨rfl, rfl, (by omega), (.inr rfl), (by omega)⟩ ?_
 rintro ⟨r1, i_2⟩ ⟨hM3, hr4, hi5, hi6, hk7⟩
 refine JJ_nx fun _ _ hL hA => ?_; dsimp only at hL hA; subst hL hA
 refine KS ?_
 refine Oq Vm (Oq Vm (Oq (VlS un9 (l := s)) (Oq Vlss (Oq Vm ?_))))
 refine Js 9 ?_ ?_
 · intro h8
   have g9 := of_decide_eq_true h8
   obtain ⟨r10, rfl⟩ := scc (n := r1) (by omega)
   refine Oq Vm (Oq Vm (Oq (Vix un9 (l := s)) ?_))
   have hb11 := u8b (s.b.getD i_2.toNat 0)
   refine letv (lexer_part ((s.b.getD i_2.toNat 0).toNat : Int)) fun rv12 hg13 => ?_
   have hc14 := fn72 (((s.b.getD i_2.toNat 0).toNat : Int)) pre rv12 hg13
   refine Oc [] ca72 hc14 ?_
   rintro - -
   refine Oq Vpt (KS ?_)
   refine Kc ?_ ?_
   · intro h15
     refine KS ?_
     refine Oq Vm (Oq Vadd (Oq Va (KS ?_)))
     exact Kg (r10, (i_2 + 1)) [] ⟨(q3 hM3 (by simp only [lexer_wordEnd_L0, h8, h15, hg13, cs4])), (by omega), (by omega), (by omega), (by omega)⟩
   intro h15
   refine Ke ?_
   have hR18 := q2 hM3 i_2 (by simp only [lexer_wordEnd_L0, h8, h15, hg13, cs4])
   refine KS ?_
   refine Oq Vm (Oq Va (KS ?_))
   have hq := q4 hrr i_2 (by simp only [lexer_wordEnd, h8, h15, hg13, hR18, cs4]); subst hq
   exact Kr () rfl (.tmp rfl .nil) [] en
 intro h8
 have g19 := of_decide_eq_false h8
 obtain rfl : r1 = 0 := by omega
 refine Osk (Osk (Osk (Osk (Oq Vpf (KS ?_)))))
 refine Kf ?_
 refine Ke ?_
 have hR20 := q2 hM3 i_2 (by simp only [lexer_wordEnd_L0, h8, cs4])
 refine KS ?_
 refine Oq Vm (Oq Va (KS ?_))
 have hq := q4 hrr i_2 (by simp only [lexer_wordEnd, h8, hR20, cs4]); subst hq
 exact Kr () rfl (.tmp rfl .nil) [] en
theorem fn35 (s : Str) (kwLA : Option Addr) (kwLK : Nat) (hs_0 : s.b.length ≤ 140737488355328) (rr : Bool) (hrr : lexer_IsName s = rr) : FT Tryd.prog 35 #[.string (bs s)] [pv (gp 0) [vl kwLA kwLK kwL], S kwLA kwLK kwL] (fun g : Unit => True) (fun g => vb rr) (fun g => []) := by
 refine FTi Tryd.func35 fun w0 M0 F0 => ?_
 refine Fb 16 1 fun hl1 => ?_
 refine FoS 1 fun ho2 => ?_
 refine KS ?_
 refine Oq Va (KS ?_)
 refine Oq Vm (Oq (VeqS (l := s) (m := (Str.mk []))) (Oq Vm ?_))
 refine Js 5 ?_ ?_
 · intro h3
   have g4 := eq_of_beq h3
   refine Osk (Osk (Osk (Oq Vpt (Oq Vm (Osk (Osk (Osk (Osk (Oq Vpt ?_)))))))))
   refine Oq Vm (Osk (Osk (Osk (Oq Vpt (KS ?_)))))
   refine Kt ?_
   refine KS ?_
   refine Oq Va (KS ?_)
   have hq := q4 hrr false (by simp only [lexer_IsName, h3, cs4]); subst hq
   exact Kr () rfl (.tmp rfl .nil) [] trivial
 intro h3
 have g5 := ne_of_beq_false h3
 have hsp := str_pos h3
 refine Oq Vm (Oq (VlS un9 (l := s)) (Oq Vgtr (Oq Vpf (Oq Vm ?_))))
 refine Js 10 ?_ ?_
 · intro h6
   have g7 := of_decide_eq_true h6
   refine Osk (Osk (Osk (Osk (Oq Vpt (Oq Vm (Osk (Osk (Osk (Oq Vpt ?_)))))))))
   refine KS ?_
   refine Kt ?_
   refine KS ?_
   refine Oq Va (KS ?_)
   have hq := q4 hrr false (by simp only [lexer_IsName, h3, h6, cs4]); subst hq
   exact Kr () rfl (.tmp rfl .nil) [] trivial
 intro h6
 have g8 := of_decide_eq_false h6
 refine Oq Vm (Oq (Vix un9 (l := s)) ?_)
 have hb9 := u8b (s.b.getD (0 : Int).toNat 0)
 refine letv (lexer_letter ((s.b.getD (0 : Int).toNat 0).toNat : Int)) fun rv10 hg11 => ?_
 have hc12 := fn55 (((s.b.getD (0 : Int).toNat 0).toNat : Int)) pre rv10 hg11
 refine Oc [] ca55 hc12 ?_
 rintro - -
 refine Oq Vnot (Oq Vpf (Oq Vm ?_))
 refine Js 16 ?_ ?_
 · intro h13
   have h15 := not_true h13
   refine Osk (Osk (Osk (Oq Vpt (KS ?_))))
   refine Kt ?_
   refine KS ?_
   refine Oq Va (KS ?_)
   have hq := q4 hrr false (by simp only [lexer_IsName, h3, h6, h13, h15, hg11, cs4]); subst hq
   exact Kr () rfl (.tmp rfl .nil) [] trivial
 intro h13
 have h18 := not_false h13
 refine Oq (Vld sh45 0) (Oq Vm ?_)
 refine letv (slices_Contains_string kwL s) fun rv20 hg21 => ?_
 have hc22 := fn56 kwL kwLA kwLK s pre rv20 hg21
 refine Oc [1] ca56 hc22 ?_
 rintro - -
 refine Oq Vpf (KS ?_)
 refine Kc ?_ ?_
 · intro h23
   refine KS ?_
   refine Oq Va (KS ?_)
   have hq := q4 hrr false (by simp only [lexer_IsName, h3, h6, h13, h18, h23, hg11, hg21, cs4]); subst hq
   exact Kr () rfl (.tmp rfl .nil) [] trivial
 intro h23
 refine KS ?_
 refine Oq Vm ?_
 refine letv (lexer_wordEnd s 0) fun rv26 hg27 => ?_
 have hc28 := fn57 s 0 pre pre pre rv26 hg27
 refine Oc [] ca57 hc28 ?_
 rintro - ⟨he29, he30⟩
 unfold i64ok at he29
 refine Oq Vm (Oq (VlS un9 (l := s)) (Oq Veql (Oq Va (KS ?_))))
 have hq := q4 hrr (rv26 == (s.b.length : Int)) (by simp only [lexer_IsName, h3, h6, h13, h18, h23, hg11, hg21, hg27, cs4]); subst hq
 exact Kr () rfl (.tmp rfl .nil) [] trivial
theorem fn58 (s : List GStmt) (sa0 : Option Addr) (sk0 : Nat) (fF : FuncId) (fC : List Value) (fp : GStmt → Bool) (fA : List SP) (hfc : callable Tryd.prog fF = true) (hfF : ∀ x ∈ s, ∀ (a2 : Option Addr) (k2 : Nat) (a3 : Option Addr) (k3 : Nat), i64ok x.Op → x.Def.b.length ≤ 140737488355328 → FT Tryd.prog fF ([(.agg #[vi x.Op, .string (bs x.Def), vl a2 k2 x.Uses, vl a3 k3 x.Targets] : Value)] ++ fC).toArray ([S a2 k2 x.Uses, S a3 k3 x.Targets] ++ [pAll fA]) (fun _ : Unit => True) (fun _ => .bool (fp x)) (fun _ => [])) (rr : Int) (hrr : slices_IndexFunc_Stmt s fp = rr) : FT Tryd.prog 58 #[vl sa0 sk0 s, .func (.func fF) #[] fC.toArray] [S sa0 sk0 s, pAll fA] (fun g : Unit => i64ok rr) (fun g => vi rr) (fun g => []) := by
 refine FTi Tryd.func58 fun w0 M0 F0 => ?_
 refine Fb 72 0 fun hl1 => ?_
 refine KS ?_
 refine Oq Va (KS ?_)
 refine Oq Vm (Oq (Vlen sl42) (Oq Vm (KS ?_)))
 refine Kl (γ := Nat × Int) (fun (r2, v8_3) => ⟨[(0, vl sa0 sk0 s), (1, .func (.func fF) #[] fC.toArray), (7, vi (s.length : Int)), (8, vi v8_3)], [S sa0 sk0 s, pAll fA], slices_IndexFunc_Stmt_L0 s fp r2 v8_3 = slices_IndexFunc_Stmt_L0 s fp (((s.length : Int) - 0).toNat) 0 ∧ r2 = ((s.length : Int) - v8_3).toNat ∧ (0 : Int) ≤ v8_3 ∧ v8_3 ≤ (s.length : Int) ∧ (-9223372036854775808 ≤ v8_3 ∧ v8_3 ≤ 9223372036854775807), r2⟩) (((s.length : Int) - 0).toNat, 0) [0, 1] ⟨rfl, rfl, (by omega), (by omega), (by omega)⟩ ?_
 rintro ⟨r2, v8_3⟩ ⟨hM4, hr5, hi6, hi7, hk8⟩
 refine JJ_nx fun _ _ hL hA => ?_; dsimp only at hL hA; subst hL hA
 refine Fb 72 0 fun hl9 => ?_
 refine KS ?_
 refine Oq Vlss (KS ?_)
 refine Kc ?_ ?_
 · intro h10
   have g11 := of_decide_eq_true h10
   obtain ⟨r12, rfl⟩ := scc (n := r2) (by omega)
   refine KS ?_
   refine Oq Vm (Oq Va (KS ?_))
   refine Oq Vm (Oq Vm (Oq Vm (Oq (Vi sl42 0) ?_)))
   refine JJ_peek_GStmt v8_3.toNat 0 rfl rng fun a13 k14 a15 k16 hb17 hb18 => ?_
   unfold i64ok at hb17
   refine Fb 16 1 fun hl19 => ?_
   refine FoS 1 fun ho20 => ?_
   refine Fb 16 2 fun hl21 => ?_
   refine FoS 2 fun ho22 => ?_
   refine Oq (VldA sh47 0) ?_
   refine JO_call [1, 2, 4] rfl rfl rfl (OpC.clo («as» := [(.agg #[vi ((s.getD v8_3.toNat default).Op), .string (bs ((s.getD v8_3.toNat default).Def)), vl a13 k14 ((s.getD v8_3.toNat default).Uses), vl a15 k16 ((s.getD v8_3.toNat default).Targets)] : Value)] ++ fC) rfl rfl hfc rfl (by simp)) (hfF (s.getD v8_3.toNat default) (getD_mem rng) a13 k14 a15 k16 pre pre) rfl fun _ _ => ?_
   refine KS ?_
   refine Kc ?_ ?_
   · intro h23
     refine KS ?_
     refine Oq Vm (Oq Va (KS ?_))
     have hR25 := q2 hM4 (.ret v8_3) (by simp only [slices_IndexFunc_Stmt_L0, h10, h23, cs4])
     have hq := q4 hrr v8_3 (by simp only [slices_IndexFunc_Stmt, h10, h23, hR25, cs4]); subst hq
     exact Kr () rfl (.tmp rfl .nil) [] en
   intro h23
   refine KS ?_
   refine Oq Vadd (Oq Vm (KS ?_))
   exact Kg (r12, (v8_3 + 1)) [3, 4] ⟨(q3 hM4 (by simp only [slices_IndexFunc_Stmt_L0, h10, h23, cs4])), (by omega), (by omega), (by omega), (by omega)⟩
 intro h10
 have g27 := of_decide_eq_false h10
 obtain rfl : r2 = 0 := by omega
 refine Ke ?_
 have hR28 := q2 hM4 (.brk ()) (by simp only [slices_IndexFunc_Stmt_L0, h10, cs4])
 refine KS ?_
 refine Oq Va (KS ?_)
 have hq := q4 hrr (-1) (by simp only [slices_IndexFunc_Stmt, h10, hR28, cs4]); subst hq
 exact Kr () rfl (.tmp rfl .nil) [] en
theorem fn36 (s : List GStmt) (sa0 : Option Addr) (sk0 : Nat) (fF : FuncId) (fC : List Value) (fp : GStmt → Bool) (fA : List SP) (hfc : callable Tryd.prog fF = true) (hfF : ∀ x ∈ s, ∀ (a2 : Option Addr) (k2 : Nat) (a3 : Option Addr) (k3 : Nat), i64ok x.Op → x.Def.b.length ≤ 140737488355328 → FT Tryd.prog fF ([(.agg #[vi x.Op, .string (bs x.Def), vl a2 k2 x.Uses, vl a3 k3 x.Targets] : Value)] ++ fC).toArray ([S a2 k2 x.Uses, S a3 k3 x.Targets] ++ [pAll fA]) (fun _ : Unit => True) (fun _ => .bool (fp x)) (fun _ => [])) (rr : Bool) (hrr : slices_ContainsFunc_Stmt s fp = rr) : FT Tryd.prog 36 #[vl sa0 sk0 s, .func (.func fF) #[] fC.toArray] [S sa0 sk0 s, pAll fA] (fun g : Unit => True) (fun g => vb rr) (fun g => []) := by
 refine FTi Tryd.func36 fun w0 M0 F0 => ?_
 refine Fb 72 0 fun hl1 => ?_
 refine KS ?_
 refine Oq Va (KS ?_)
 refine Oq Vm (Oq Vm ?_)
 refine letv (slices_IndexFunc_Stmt s fp) fun rv2 hg3 => ?_
 have hc4 := fn58 s sa0 sk0 fF fC fp fA hfc hfF rv2 hg3
 refine Oc [0, 1] ca58 hc4 ?_
 rintro - he5
 unfold i64ok at he5
 refine Oq Vgeq (Oq Va (KS ?_))
 have hq := q4 hrr (decide (0 ≤ rv2)) (by simp only [slices_ContainsFunc_Stmt, hg3, cs4]); subst hq
 exact Kr () rfl (.tmp rfl .nil) [] trivial
theorem fn59 (s : List Str) (sa0 : Option Addr) (sk0 : Nat) (rr : List Str) (hrr : slices_Clone_string s = rr) : FT Tryd.prog 59 #[vl sa0 sk0 s] [S sa0 sk0 s] (fun g : Value => (rr.length = s.length)) (fun g => g) (fun g => [os g rr]) := by
 have hm : slices_Clone_string s = s := rfl
 rw [hm] at hrr
 subst hrr
 refine FTi Tryd.func59 fun w0 M0 F0 => ?_
 refine KS ?_
 refine Oq Va ?_
 refine KS ?_
 refine Oq Vm ?_
 refine Oq (VeqN un45) ?_
 refine KS ?_
 refine Kc ?_ ?_
 · intro h
   refine Jnil 0 h ?_
   intro h0
   subst h0
   refine KS ?_
   refine Oq Va ?_
   refine KS ?_
   refine Jl [] (Ent.osNil (α := Str)) ?_
   exact Kr (.slice none 0 0) rfl (.tmp rfl .nil) [0] rfl
 · intro _
   refine KS ?_
   refine Oa (As0 sl45) fun c1 => ?_
   refine Jo 0 ?_; rintro a2 k3 rfl
   refine Oq Vm ?_
   refine Fb 16 1 fun hl => ?_
   refine Jl [0] (Ent.crNil (α := Str) _) ?_
   refine Oa (Ap0 [0, 0] sl45 sl45 sz45) fun c4 => ?_
   refine Oq Va ?_
   refine KS ?_
   exact Kr c4 rfl (.tmp rfl .nil) [0] rfl
theorem fn73 (s : List Str) (sa0 : Option Addr) (sk0 : Nat) (fF : FuncId) (fC : List Value) (fp : Str → Bool) (fA : List SP) (hfc : callable Tryd.prog fF = true) (hfF : ∀ x ∈ s, x.b.length ≤ 140737488355328 → FT Tryd.prog fF ([(.string (bs x) : Value)] ++ fC).toArray ([] ++ [pAll fA]) (fun _ : Unit => True) (fun _ => .bool (fp x)) (fun _ => [])) (rr : Int) (hrr : slices_IndexFunc_string s fp = rr) : FT Tryd.prog 73 #[vl sa0 sk0 s, .func (.func fF) #[] fC.toArray] [S sa0 sk0 s, pAll fA] (fun g : Unit => i64ok rr) (fun g => vi rr) (fun g => []) := by
 refine FTi Tryd.func73 fun w0 M0 F0 => ?_
 refine Fb 16 0 fun hl1 => ?_
 refine FoS 0 fun ho2 => ?_
 refine KS ?_
 refine Oq Va (KS ?_)
 refine Oq Vm (Oq (Vlen sl45) (Oq Vm (KS ?_)))
 refine Kl (γ := Nat × Int) (fun (r3, v8_4) => ⟨[(0, vl sa0 sk0 s), (1, .func (.func fF) #[] fC.toArray), (7, vi (s.length : Int)), (8, vi v8_4)], [S sa0 sk0 s, pAll fA], slices_IndexFunc_string_L0 s fp r3 v8_4 = slices_IndexFunc_string_L0 s fp (((s.length : Int) - 0).toNat) 0 ∧ r3 = ((s.length : Int) - v8_4).toNat ∧ (0 : Int) ≤ v8_4 ∧ v8_4 ≤ (s.length : Int) ∧ (-9223372036854775808 ≤ v8_4 ∧ v8_4 ≤ 9223372036854775807), r3⟩) (((s.length : Int) - 0).toNat, 0) [0, 1] ⟨rfl, rfl, (by omega), (by omega), (by omega)⟩ ?_
 rintro ⟨r3, v8_4⟩ ⟨hM5, hr6, hi7, hi8, hk9⟩
 refine JJ_nx fun _ _ hL hA => ?_; dsimp only at hL hA; subst hL hA
 refine Fb 16 0 fun hl10 => ?_
 refine FoS 0 fun ho11 => ?_
 refine KS ?_
 refine Oq Vlss (KS ?_)
 refine Kc ?_ ?_
 · intro h12
   have g13 := of_decide_eq_true h12
   obtain ⟨r14, rfl⟩ := scc (n := r3) (by omega)
   refine KS ?_
   refine Oq Vm (Oq Va (KS ?_))
   refine Oq Vm (Oq Vm (Oq Vm (Oq (Vi sl45 0) ?_)))
   have hb15 := okS (i := v8_4.toNat) ho11 rng
   refine Oq (VldS sh9 0) ?_
   refine JO_call [1] rfl rfl rfl (OpC.clo («as» := [(.string (bs (s.getD v8_4.toNat default)) : Value)] ++ fC) rfl rfl hfc rfl (by simp)) (hfF (s.getD v8_4.toNat default) (getD_mem rng)  pre) rfl fun _ _ => ?_
   refine KS ?_
   refine Kc ?_ ?_
   · intro h16
     refine KS ?_
     refine Oq Vm (Oq Va (KS ?_))
     have hR18 := q2 hM5 (.ret v8_4) (by simp only [slices_IndexFunc_string_L0, h12, h16, cs4])
     have hq := q4 hrr v8_4 (by simp only [slices_IndexFunc_string, h12, h16, hR18, cs4]); subst hq
     exact Kr () rfl (.tmp rfl .nil) [] en
   intro h16
   refine KS ?_
   refine Oq Vadd (Oq Vm (KS ?_))
   exact Kg (r14, (v8_4 + 1)) [0, 1] ⟨(q3 hM5 (by simp only [slices_IndexFunc_string_L0, h12, h16, cs4])), (by omega), (by omega), (by omega), (by omega)⟩
 intro h12
 have g20 := of_decide_eq_false h12
 obtain rfl : r3 = 0 := by omega
 refine Ke ?_
 have hR21 := q2 hM5 (.brk ()) (by simp only [slices_IndexFunc_string_L0, h12, cs4])
 refine KS ?_
 refine Oq Va (KS ?_)
 have hq := q4 hrr (-1) (by simp only [slices_IndexFunc_string, h12, hR21, cs4]); subst hq
 exact Kr () rfl (.tmp rfl .nil) [] en
theorem fn60 (s : List Str) (sa0 : Option Addr) (sk0 : Nat) (fF : FuncId) (fC : List Value) (fp : Str → Bool) (fA : List SP) (hfc : callable Tryd.prog fF = true) (hfF : ∀ x ∈ s, x.b.length ≤ 140737488355328 → FT Tryd.prog fF ([(.string (bs x) : Value)] ++ fC).toArray ([] ++ [pAll fA]) (fun _ : Unit => True) (fun _ => .bool (fp x)) (fun _ => [])) (rr : Bool) (hrr : slices_ContainsFunc_string s fp = rr) : FT Tryd.prog 60 #[vl sa0 sk0 s, .func (.func fF) #[] fC.toArray] [S sa0 sk0 s, pAll fA] (fun g : Unit => True) (fun g => vb rr) (fun g => []) := by
 refine FTi Tryd.func60 fun w0 M0 F0 => ?_
 refine Fb 16 0 fun hl1 => ?_
 refine FoS 0 fun ho2 => ?_
 refine KS ?_
 refine Oq Va (KS ?_)
 refine Oq Vm (Oq Vm ?_)
 refine letv (slices_IndexFunc_string s fp) fun rv3 hg4 => ?_
 have hc5 := fn73 s sa0 sk0 fF fC fp fA hfc hfF rv3 hg4
 refine Oc [0, 1] ca73 hc5 ?_
 rintro - he6
 unfold i64ok at he6
 refine Oq Vgeq (Oq Va (KS ?_))
 have hq := q4 hrr (decide (0 ≤ rv3)) (by simp only [slices_ContainsFunc_string, hg4, cs4]); subst hq
 exact Kr () rfl (.tmp rfl .nil) [] trivial
theorem fn61 (n : Str) (kwLA : Option Addr) (kwLK : Nat) (hn_0 : n.b.length ≤ 140737488355328) (rr : Bool) (hrr : syntax_valid_1 n = rr) : FT Tryd.prog 61 #[.string (bs n)] [pv (gp 0) [vl kwLA kwLK kwL], S kwLA kwLK kwL] (fun g : Unit => True) (fun g => vb rr) (fun g => []) := by
 refine FTi Tryd.func61 fun w0 M0 F0 => ?_
 refine Fb 16 1 fun hl1 => ?_
 refine FoS 1 fun ho2 => ?_
 refine KS ?_
 refine Oq Va (KS ?_)
 refine Oq Vm ?_
 refine letv (lexer_IsName n) fun rv3 hg4 => ?_
 have hc5 := fn35 n kwLA kwLK pre rv3 hg4
 refine Oc [0, 1] ca35 hc5 ?_
 rintro - -
 refine Oq Vnot (Oq Va (KS ?_))
 have hq := q4 hrr (!rv3) (by simp only [syntax_valid_1, hg4, cs4]); subst hq
 exact Kr () rfl (.tmp rfl .nil) [] trivial
theorem fn38 (s : GStmt) (sa2 : Option Addr) (sk2 : Nat) (sa3 : Option Addr) (sk3 : Nat) (kwLA : Option Addr) (kwLK : Nat) (hs_0 : i64ok s.Op) (hs_1 : s.Def.b.length ≤ 140737488355328) (hsm : SSm s = true) (rr : Bool) (hrr : syntax_valid s = rr) : FT Tryd.prog 38 #[.agg #[vi s.Op, .string (bs s.Def), vl sa2 sk2 s.Uses, vl sa3 sk3 s.Targets]] [S sa2 sk2 s.Uses, S sa3 sk3 s.Targets, pv (gp 0) [vl kwLA kwLK kwL], S kwLA kwLK kwL] (fun g : Unit => True) (fun g => vb rr) (fun g => []) := by
 refine FTi Tryd.func38 fun w0 M0 F0 => ?_
 unfold i64ok at hs_0
 refine Fb 16 0 fun hl1 => ?_
 refine FoS 0 fun ho2 => ?_
 refine Fb 16 1 fun hl3 => ?_
 refine FoS 1 fun ho4 => ?_
 refine Fb 16 3 fun hl5 => ?_
 refine FoS 3 fun ho6 => ?_
 have hsl := SSm_l hsm
 refine KS ?_
 refine Oa (Ab [vi s.Op, .string (bs s.Def), vl sa2 sk2 s.Uses, vl sa3 sk3 s.Targets]) fun p7 => Oq Va (KS ?_)
 refine Kq [0, 1, 3, 0, 15, 31] fmix ?_
 refine Qv [0] (Vfa fo47_2 0) (Qv [0] (VldF sh45 0) (Qv [] (Vlen sl45) (Qv [] Va (Qv [] Va (Qv [] Va ?_)))))
 refine Qn ⟨by kernel_rfl, ?_⟩
 refine KS ?_
 refine Oq (Vfa fo47_0 0) (Oq (VldF sh3 0) (KS ?_))
 refine Oq Veql (Oq Va (KS ?_))
 refine Kc ?_ ?_
 · intro h8
   have g9 := eq_of_beq h8
   refine Ke ?_
   refine KS ?_
   refine Oq Va (KS ?_)
   refine Ke ?_
   refine KS ?_
   refine JK_drawK [0, 1, 3, 0, 8, 31, 63] fmix ?_
   refine Dv [0] (Vfa fo47_2 0) (Dv [0] (VldF sh45 0) ?_)
   refine letv (slices_Clone_string s.Uses) fun rv11 hg12 => ?_
   refine Dx [1] [] [2, 0, 1] (fun G => (G.g 2 0)) [fun G => SP.fact ((rv11.length = s.Uses.length)), fun G => os (G.g 2 0) rv11] (fun G => xC [0] ca59 (fn59 s.Uses sa2 sk2 rv11 hg12)) (Dv [0] (Vfa fo47_3 0) (Dv [0] (VldF sh45 0) ?_))
   have hn14 := la rv11 s.Targets
   refine Dx [2, 5, 6] [6] [1, 2, 0] (fun G => (G.g 5 0)) [fun G => os (G.g 5 0) (rv11 ++ s.Targets)] (fun G => by refine xf 1 rfl ?_; rintro he15; exact xA (Ap [2, 0] sl45 sl45 sz45)) (Dg [] (fun G => (G.g 5 0)) (fun G => Va) ?_)
   refine Dn ⟨by kernel_rfl, fun G => ?_⟩
   refine Jw2 [(1, p7), (4, vi (s.Uses.length : Int)), (5, vi 0), (3, vi 1), (6, (G.g 5 0))] [0, 1, 2, 3, 4] [SP.fact ((rv11.length = s.Uses.length)), os (G.g 5 0) (rv11 ++ s.Targets)] ?_
   generalize G.g 5 0 = c13
   refine Jf 5 rfl ?_; rintro he16
   refine Jk [0, 1, 2, 3, 4, 6] ?_
   refine Jo 5 ?_; rintro a17 k18 rfl
   refine Fb 16 5 fun hl19 => ?_
   refine FoS 5 fun ho20 => ?_
   refine KS ?_
   refine Oq Vm (Oq Veql (KS ?_))
   refine Kt ?_
   refine KS ?_
   refine Oq Vm (Oq (Vfa fo47_1 0) (Oq (VldF sh9 0) (Oa (AsV sl45 sz45 [.string (bs s.Def)] [.string (bs s.Def)]) fun c21 => ?_)))
   refine Jo 0 ?_; rintro a22 k23 rfl
   refine Jl [0] (Ent.cr1 (α := Str) (A := []) _ s.Def _ (Nat.le_of_ble_eq_true rfl) (fun _ => ⟨rfl, by first | omega | (simp; done) | (dsimp only; omega) | exact lit_bl rfl⟩)) ?_
   refine Oa (ApO [6, 0] sl45 sl45 sz45) fun c24 => ?_
   refine Jo 0 ?_; rintro a25 k26 rfl
   refine Fb 16 0 fun hl27 => ?_
   refine FoS 0 fun ho28 => ?_
   have hn29 := la (rv11 ++ s.Targets) ([s.Def] : List Str)
   refine Oq Va (KS ?_)
   refine Oq Vm (Oq Veql (Oq Vm (Osk (Osk (Osk (Oq Vpt (Oq Vm (Oq (Vfa fo47_2 1) (Oq (VldF sh45 1) ?_)))))))))
   refine Oq (Vlen sl45) (Oq Vm (Oq Veql (Oq Vpt (Oq Vm ?_))))
   refine Js 64 ?_ ?_
   · intro h30
     have g31 := eq_of_beq h30
     refine Oq Vm (Oq Vleq (Oq Vpt (Oq Vm ?_)))
     refine Js 68 ?_ ?_
     · intro h32
       have g33 := of_decide_eq_true h32
       refine Oq (Vfa fo47_3 1) (Oq (VldF sh45 1) (Oq (Vlen sl45) (Oq Vm (Oq Veql (Oq Vpt (Oq Vm ?_))))))
       refine Js 75 ?_ ?_
       · intro h34
         have g35 := eq_of_beq h34
         refine Oq Vm ?_
         refine Jl [0] (Ent.freeze _ _) ?_
         refine JJ_ent (Ent.pall [4, 5] rfl rfl) ?_
         refine letv (slices_ContainsFunc_string ((rv11 ++ s.Targets) ++ [s.Def]) (fun x => syntax_valid_1 x)) fun rv36 hg37 => ?_
         have hc38 := fn60 (((rv11 ++ s.Targets) ++ [s.Def])) a25 k26 61 [] (fun x => syntax_valid_1 x) [pv (gp 0) [vl kwLA kwLK kwL], S kwLA kwLK kwL] ca61 (fun x hx hq0 => FT_pall (A1 := _) (fn61 x  kwLA kwLK hq0 _ rfl)) rv36 hg37
         refine Oc [1, 0] ca60 hc38 ?_
         rintro - -
         refine Oq Vnot (Oq Vpt (Oq Va (KS ?_)))
         have hq := q4 hrr (!rv36) (by simp only [syntax_valid, h8, h30, h32, h34, hg12, hg37, cs4]); subst hq
         exact Kr () rfl (.tmp rfl .nil) [] trivial
       intro h34
       have g39 := ne_of_beq_false h34
       refine Osk (Osk (Osk (Oq Vpf (Oq Va (KS ?_)))))
       have hq := q4 hrr false (by simp only [syntax_valid, h8, h30, h32, h34, hg12, cs4]); subst hq
       exact Kr () rfl (.tmp rfl .nil) [] trivial
     intro h32
     have g40 := of_decide_eq_false h32
     refine Osk (Osk (Osk (Osk (Osk (Oq Vpf (Oq Vm (Osk (Osk (Osk ?_)))))))))
     refine Oq Vpf (Oq Va (KS ?_))
     have hq := q4 hrr false (by simp only [syntax_valid, h8, h30, h32, hg12, cs4]); subst hq
     exact Kr () rfl (.tmp rfl .nil) [] trivial
   intro h30
   have g41 := ne_of_beq_false h30
   refine Osk (Osk (Oq Vpf (Oq Vm (Osk (Osk (Osk (Osk (Osk (Oq Vpf ?_)))))))))
   refine Oq Vm (Osk (Osk (Osk (Oq Vpf (Oq Va (KS ?_))))))
   have hq := q4 hrr false (by simp only [syntax_valid, h8, h30, hg12, cs4]); subst hq
   exact Kr () rfl (.tmp rfl .nil) [] trivial
 intro h8
 have g42 := ne_of_beq_false h8
 refine KS ?_
 refine Oq Veql (Oq Va (KS ?_))
 refine Kc ?_ ?_
 · intro h43
   have g44 := eq_of_beq h43
   refine Ke ?_
   refine KS ?_
   refine Oq Vm (Oq Vmax (Oq Va (KS ?_)))
   refine Ke ?_
   refine KS ?_
   refine JK_drawK [0, 1, 3, 0, 8, 31, 63] fmix ?_
   refine Dv [0] (Vfa fo47_2 0) (Dv [0] (VldF sh45 0) ?_)
   refine letv (slices_Clone_string s.Uses) fun rv46 hg47 => ?_
   refine Dx [1] [] [2, 0, 1] (fun G => (G.g 2 0)) [fun G => SP.fact ((rv46.length = s.Uses.length)), fun G => os (G.g 2 0) rv46] (fun G => xC [0] ca59 (fn59 s.Uses sa2 sk2 rv46 hg47)) (Dv [0] (Vfa fo47_3 0) (Dv [0] (VldF sh45 0) ?_))
   have hn49 := la rv46 s.Targets
   refine Dx [2, 5, 6] [6] [1, 2, 0] (fun G => (G.g 5 0)) [fun G => os (G.g 5 0) (rv46 ++ s.Targets)] (fun G => by refine xf 1 rfl ?_; rintro he50; exact xA (Ap [2, 0] sl45 sl45 sz45)) (Dg [] (fun G => (G.g 5 0)) (fun G => Va) ?_)
   refine Dn ⟨by kernel_rfl, fun G => ?_⟩
   refine Jw2 [(1, p7), (3, vi 0), (5, vi 0), (4, vi (max (s.Uses.length : Int) 1)), (6, (G.g 5 0))] [0, 1, 2, 3, 4] [SP.fact ((rv46.length = s.Uses.length)), os (G.g 5 0) (rv46 ++ s.Targets)] ?_
   generalize G.g 5 0 = c48
   refine Jf 5 rfl ?_; rintro he51
   refine Jk [0, 1, 2, 3, 4, 6] ?_
   refine Jo 5 ?_; rintro a52 k53 rfl
   refine Fb 16 5 fun hl54 => ?_
   refine FoS 5 fun ho55 => ?_
   refine KS ?_
   refine Oq Vm (Oq Veql (KS ?_))
   refine Kf ?_
   refine KS ?_
   refine Oq Vm (Oq Veql (Oq Vm (Oq (Vfa fo47_1 0) (Oq (VldF sh9 0) (Oq (VeqS (l := s.Def) (m := (Str.mk []))) (Oq Vpf (Oq Vm ?_)))))))
   refine Js 57 ?_ ?_
   · intro h56
     have g57 := eq_of_beq h56
     refine Oq (Vfa fo47_2 0) (Oq (VldF sh45 0) (Oq (Vlen sl45) (Oq Vm (Oq Veql (Oq Vpt (Oq Vm ?_))))))
     refine Js 64 ?_ ?_
     · intro h58
       have g59 := eq_of_beq h58
       refine Oq Vm (Oq Vleq (Oq Vpt (Oq Vm ?_)))
       refine Js 68 ?_ ?_
       · intro h60
         have g61 := of_decide_eq_true h60
         refine Oq (Vfa fo47_3 0) (Oq (VldF sh45 0) (Oq (Vlen sl45) (Oq Vm (Oq Veql (Oq Vpt (Oq Vm ?_))))))
         refine Js 75 ?_ ?_
         · intro h62
           have g63 := eq_of_beq h62
           refine Oq Vm ?_
           refine Jl [5] (Ent.freeze _ _) ?_
           refine JJ_ent (Ent.pall [4, 5] rfl rfl) ?_
           refine letv (slices_ContainsFunc_string (rv46 ++ s.Targets) (fun x => syntax_valid_1 x)) fun rv64 hg65 => ?_
           have hc66 := fn60 ((rv46 ++ s.Targets)) a52 k53 61 [] (fun x => syntax_valid_1 x) [pv (gp 0) [vl kwLA kwLK kwL], S kwLA kwLK kwL] ca61 (fun x hx hq0 => FT_pall (A1 := _) (fn61 x  kwLA kwLK hq0 _ rfl)) rv64 hg65
           refine Oc [1, 0] ca60 hc66 ?_
           rintro - -
           refine Oq Vnot (Oq Vpt (Oq Va (KS ?_)))
           have hq := q4 hrr (!rv64) (by simp only [syntax_valid, h8, h43, h56, h58, h60, h62, hg47, hg65, cs4]); subst hq
           exact Kr () rfl (.tmp rfl .nil) [] trivial
         intro h62
         have g67 := ne_of_beq_false h62
         refine Osk (Osk (Osk (Oq Vpf (Oq Va (KS ?_)))))
         have hq := q4 hrr false (by simp only [syntax_valid, h8, h43, h56, h58, h60, h62, hg47, cs4]); subst hq
         exact Kr () rfl (.tmp rfl .nil) [] trivial
       intro h60
       have g68 := of_decide_eq_false h60
       refine Osk (Osk (Osk (Osk (Osk (Oq Vpf (Oq Vm (Osk (Osk (Osk ?_)))))))))
       refine Oq Vpf (Oq Va (KS ?_))
       have hq := q4 hrr false (by simp only [syntax_valid, h8, h43, h56, h58, h60, hg47, cs4]); subst hq
       exact Kr () rfl (.tmp rfl .nil) [] trivial
     intro h58
     have g69 := ne_of_beq_false h58
     refine Osk (Osk (Oq Vpf (Oq Vm (Osk (Osk (Osk (Osk (Osk (Oq Vpf ?_)))))))))
     refine Oq Vm (Osk (Osk (Osk (Oq Vpf (Oq Va (KS ?_))))))
     have hq := q4 hrr false (by simp only [syntax_valid, h8, h43, h56, h58, hg47, cs4]); subst hq
     exact Kr () rfl (.tmp rfl .nil) [] trivial
   intro h56
   have g70 := ne_of_beq_false h56
   refine Osk (Osk (Osk (Osk (Osk (Oq Vpf (Oq Vm (Osk (Osk (Oq Vpf ?_)))))))))
   refine Oq Vm (Osk (Osk (Osk (Osk (Osk (Oq Vpf (Oq Vm (Osk (Osk ?_)))))))))
   refine Osk (Oq Vpf (Oq Va (KS ?_)))
   have hq := q4 hrr false (by simp only [syntax_valid, h8, h43, h56, hg47, cs4]); subst hq
   exact Kr () rfl (.tmp rfl .nil) [] trivial
 intro h43
 have g71 := ne_of_beq_false h43
 refine KS ?_
 refine Oq Veql (Oq Va (KS ?_))
 refine Kc ?_ ?_
 · intro h72
   have g73 := eq_of_beq h72
   refine Ke ?_
   refine KS ?_
   refine Oq Va (KS ?_)
   refine Ke ?_
   refine KS ?_
   refine JK_drawK [0, 1, 3, 0, 8, 31, 63] fmix ?_
   refine Dv [0] (Vfa fo47_2 0) (Dv [0] (VldF sh45 0) ?_)
   refine letv (slices_Clone_string s.Uses) fun rv75 hg76 => ?_
   refine Dx [1] [] [2, 0, 1] (fun G => (G.g 2 0)) [fun G => SP.fact ((rv75.length = s.Uses.length)), fun G => os (G.g 2 0) rv75] (fun G => xC [0] ca59 (fn59 s.Uses sa2 sk2 rv75 hg76)) (Dv [0] (Vfa fo47_3 0) (Dv [0] (VldF sh45 0) ?_))
   have hn78 := la rv75 s.Targets
   refine Dx [2, 5, 6] [6] [1, 2, 0] (fun G => (G.g 5 0)) [fun G => os (G.g 5 0) (rv75 ++ s.Targets)] (fun G => by refine xf 1 rfl ?_; rintro he79; exact xA (Ap [2, 0] sl45 sl45 sz45)) (Dg [] (fun G => (G.g 5 0)) (fun G => Va) ?_)
   refine Dn ⟨by kernel_rfl, fun G => ?_⟩
   refine Jw2 [(1, p7), (3, vi 0), (5, vi 0), (4, vi 1), (6, (G.g 5 0))] [0, 1, 2, 3, 4] [SP.fact ((rv75.length = s.Uses.length)), os (G.g 5 0) (rv75 ++ s.Targets)] ?_
   generalize G.g 5 0 = c77
   refine Jf 5 rfl ?_; rintro he80
   refine Jk [0, 1, 2, 3, 4, 6] ?_
   refine Jo 5 ?_; rintro a81 k82 rfl
   refine Fb 16 5 fun hl83 => ?_
   refine FoS 5 fun ho84 => ?_
   refine KS ?_
   refine Oq Vm (Oq Veql (KS ?_))
   refine Kf ?_
   refine KS ?_
   refine Oq Vm (Oq Veql (Oq Vm (Oq (Vfa fo47_1 0) (Oq (VldF sh9 0) (Oq (VeqS (l := s.Def) (m := (Str.mk []))) (Oq Vpf (Oq Vm ?_)))))))
   refine Js 57 ?_ ?_
   · intro h85
     have g86 := eq_of_beq h85
     refine Oq (Vfa fo47_2 0) (Oq (VldF sh45 0) (Oq (Vlen sl45) (Oq Vm (Oq Veql (Oq Vpt (Oq Vm ?_))))))
     refine Js 64 ?_ ?_
     · intro h87
       have g88 := eq_of_beq h87
       refine Oq Vm (Oq Vleq (Oq Vpt (Oq Vm (Oq (Vfa fo47_3 0) (Oq (VldF sh45 0) (Oq (Vlen sl45) (Oq Vm (Oq Veql (Oq Vpt ?_)))))))))
       refine Oq Vm ?_
       refine Js 75 ?_ ?_
       · intro h89
         have g90 := eq_of_beq h89
         refine Oq Vm ?_
         refine Jl [5] (Ent.freeze _ _) ?_
         refine JJ_ent (Ent.pall [4, 5] rfl rfl) ?_
         refine letv (slices_ContainsFunc_string (rv75 ++ s.Targets) (fun x => syntax_valid_1 x)) fun rv91 hg92 => ?_
         have hc93 := fn60 ((rv75 ++ s.Targets)) a81 k82 61 [] (fun x => syntax_valid_1 x) [pv (gp 0) [vl kwLA kwLK kwL], S kwLA kwLK kwL] ca61 (fun x hx hq0 => FT_pall (A1 := _) (fn61 x  kwLA kwLK hq0 _ rfl)) rv91 hg92
         refine Oc [1, 0] ca60 hc93 ?_
         rintro - -
         refine Oq Vnot (Oq Vpt (Oq Va (KS ?_)))
         have hq := q4 hrr (!rv91) (by simp only [syntax_valid, h8, h43, h72, h85, h87, h89, hg76, hg92, cs4]); subst hq
         exact Kr () rfl (.tmp rfl .nil) [] trivial
       intro h89
       have g94 := ne_of_beq_false h89
       refine Osk (Osk (Osk (Oq Vpf (Oq Va (KS ?_)))))
       have hq := q4 hrr false (by simp only [syntax_valid, h8, h43, h72, h85, h87, h89, hg76, cs4]); subst hq
       exact Kr () rfl (.tmp rfl .nil) [] trivial
     intro h87
     have g95 := ne_of_beq_false h87
     refine Osk (Osk (Oq Vpf (Oq Vm (Osk (Osk (Osk (Osk (Osk (Oq Vpf ?_)))))))))
     refine Oq Vm (Osk (Osk (Osk (Oq Vpf (Oq Va (KS ?_))))))
     have hq := q4 hrr false (by simp only [syntax_valid, h8, h43, h72, h85, h87, hg76, cs4]); subst hq
     exact Kr () rfl (.tmp rfl .nil) [] trivial
   intro h85
   have g96 := ne_of_beq_false h85
   refine Osk (Osk (Osk (Osk (Osk (Oq Vpf (Oq Vm (Osk (Osk (Oq Vpf ?_)))))))))
   refine Oq Vm (Osk (Osk (Osk (Osk (Osk (Oq Vpf (Oq Vm (Osk (Osk ?_)))))))))
   refine Osk (Oq Vpf (Oq Va (KS ?_)))
   have hq := q4 hrr false (by simp only [syntax_valid, h8, h43, h72, h85, hg76, cs4]); subst hq
   exact Kr () rfl (.tmp rfl .nil) [] trivial
 intro h72
 have g97 := ne_of_beq_false h72
 refine KS ?_
 refine Oq Veql (Oq Va (KS ?_))
 refine Kc ?_ ?_
 · intro h98
   have g99 := eq_of_beq h98
   refine KS ?_
   refine Kc ?_ ?_
   · intro h100
     have g101 := eq_of_beq h100
     refine Ke ?_
     refine KS ?_
     refine Oq Va (KS ?_)
     refine Oq Va (KS ?_)
     refine Ke ?_
     refine KS ?_
     refine JK_drawK [0, 1, 3, 0, 8, 31, 63] fmix ?_
     refine Dv [0] (Vfa fo47_2 0) (Dv [0] (VldF sh45 0) ?_)
     refine letv (slices_Clone_string s.Uses) fun rv103 hg104 => ?_
     refine Dx [1] [] [2, 0, 1] (fun G => (G.g 2 0)) [fun G => SP.fact ((rv103.length = s.Uses.length)), fun G => os (G.g 2 0) rv103] (fun G => xC [0] ca59 (fn59 s.Uses sa2 sk2 rv103 hg104)) (Dv [0] (Vfa fo47_3 0) (Dv [0] (VldF sh45 0) ?_))
     have hn106 := la rv103 s.Targets
     refine Dx [2, 5, 6] [6] [1, 2, 0] (fun G => (G.g 5 0)) [fun G => os (G.g 5 0) (rv103 ++ s.Targets)] (fun G => by refine xf 1 rfl ?_; rintro he107; exact xA (Ap [2, 0] sl45 sl45 sz45)) (Dg [] (fun G => (G.g 5 0)) (fun G => Va) ?_)
     refine Dn ⟨by kernel_rfl, fun G => ?_⟩
     refine Jw2 [(1, p7), (5, vi 0), (3, vi 1), (4, vi 0), (6, (G.g 5 0))] [0, 1, 2, 3, 4] [SP.fact ((rv103.length = s.Uses.length)), os (G.g 5 0) (rv103 ++ s.Targets)] ?_
     generalize G.g 5 0 = c105
     refine Jf 5 rfl ?_; rintro he108
     refine Jk [0, 1, 2, 3, 4, 6] ?_
     refine Jo 5 ?_; rintro a109 k110 rfl
     refine Fb 16 5 fun hl111 => ?_
     refine FoS 5 fun ho112 => ?_
     refine KS ?_
     refine Oq Vm (Oq Veql (KS ?_))
     refine Kt ?_
     refine KS ?_
     refine Oq Vm (Oq (Vfa fo47_1 0) (Oq (VldF sh9 0) (Oa (AsV sl45 sz45 [.string (bs s.Def)] [.string (bs s.Def)]) fun c113 => ?_)))
     refine Jo 0 ?_; rintro a114 k115 rfl
     refine Jl [0] (Ent.cr1 (α := Str) (A := []) _ s.Def _ (Nat.le_of_ble_eq_true rfl) (fun _ => ⟨rfl, by first | omega | (simp; done) | (dsimp only; omega) | exact lit_bl rfl⟩)) ?_
     refine Oa (ApO [6, 0] sl45 sl45 sz45) fun c116 => ?_
     refine Jo 0 ?_; rintro a117 k118 rfl
     refine Fb 16 0 fun hl119 => ?_
     refine FoS 0 fun ho120 => ?_
     have hn121 := la (rv103 ++ s.Targets) ([s.Def] : List Str)
     refine Oq Va (KS ?_)
     refine Oq Vm (Oq Veql (Oq Vm (Osk (Osk (Osk (Oq Vpt (Oq Vm (Oq (Vfa fo47_2 1) (Oq (VldF sh45 1) ?_)))))))))
     refine Oq (Vlen sl45) (Oq Vm (Oq Veql (Oq Vpt (Oq Vm ?_))))
     refine Js 64 ?_ ?_
     · intro h122
       have g123 := eq_of_beq h122
       refine Oq Vm (Oq Vleq (Oq Vpt (Oq Vm (Oq (Vfa fo47_3 1) (Oq (VldF sh45 1) (Oq (Vlen sl45) (Oq Vm (Oq Veql (Oq Vpt ?_)))))))))
       refine Oq Vm ?_
       refine Js 75 ?_ ?_
       · intro h124
         have g125 := eq_of_beq h124
         refine Oq Vm ?_
         refine Jl [0] (Ent.freeze _ _) ?_
         refine JJ_ent (Ent.pall [4, 5] rfl rfl) ?_
         refine letv (slices_ContainsFunc_string ((rv103 ++ s.Targets) ++ [s.Def]) (fun x => syntax_valid_1 x)) fun rv126 hg127 => ?_
         have hc128 := fn60 (((rv103 ++ s.Targets) ++ [s.Def])) a117 k118 61 [] (fun x => syntax_valid_1 x) [pv (gp 0) [vl kwLA kwLK kwL], S kwLA kwLK kwL] ca61 (fun x hx hq0 => FT_pall (A1 := _) (fn61 x  kwLA kwLK hq0 _ rfl)) rv126 hg127
         refine Oc [1, 0] ca60 hc128 ?_
         rintro - -
         refine Oq Vnot (Oq Vpt (Oq Va (KS ?_)))
         have hq := q4 hrr (!rv126) (by simp only [syntax_valid, h8, h43, h72, h98, h100, h122, h124, hg104, hg127, cs4]); subst hq
         exact Kr () rfl (.tmp rfl .nil) [] trivial
       intro h124
       have g129 := ne_of_beq_false h124
       refine Osk (Osk (Osk (Oq Vpf (Oq Va (KS ?_)))))
       have hq := q4 hrr false (by simp only [syntax_valid, h8, h43, h72, h98, h100, h122, h124, hg104, cs4]); subst hq
       exact Kr () rfl (.tmp rfl .nil) [] trivial
     intro h122
     have g130 := ne_of_beq_false h122
     refine Osk (Osk (Oq Vpf (Oq Vm (Osk (Osk (Osk (Osk (Osk (Oq Vpf ?_)))))))))
     refine Oq Vm (Osk (Osk (Osk (Oq Vpf (Oq Va (KS ?_))))))
     have hq := q4 hrr false (by simp only [syntax_valid, h8, h43, h72, h98, h100, h122, hg104, cs4]); subst hq
     exact Kr () rfl (.tmp rfl .nil) [] trivial
   intro h100
   exact absurd h100 (by first | (simp [h98]; done) | (simp only [bne, h98]; decide) | (simp only [bne, h98, Bool.not_true, Bool.not_false]; decide) | (exfalso; omega) | (intro hq; simp only [bne, hq, Bool.not_false, Bool.not_true, reduceCtorEq] at h98))
 intro h98
 have g131 := ne_of_beq_false h98
 refine KS ?_
 refine Oq Veql (Oq Va (KS ?_))
 refine Kc ?_ ?_
 · intro h132
   have g133 := eq_of_beq h132
   refine Ke ?_
   refine KS ?_
   refine Oq Va (KS ?_)
   refine Oq Va (KS ?_)
   refine Ke ?_
   refine KS ?_
   refine JK_drawK [0, 1, 3, 0, 8, 31, 63] fmix ?_
   refine Dv [0] (Vfa fo47_2 0) (Dv [0] (VldF sh45 0) ?_)
   refine letv (slices_Clone_string s.Uses) fun rv135 hg136 => ?_
   refine Dx [1] [] [2, 0, 1] (fun G => (G.g 2 0)) [fun G => SP.fact ((rv135.length = s.Uses.length)), fun G => os (G.g 2 0) rv135] (fun G => xC [0] ca59 (fn59 s.Uses sa2 sk2 rv135 hg136)) (Dv [0] (Vfa fo47_3 0) (Dv [0] (VldF sh45 0) ?_))
   have hn138 := la rv135 s.Targets
   refine Dx [2, 5, 6] [6] [1, 2, 0] (fun G => (G.g 5 0)) [fun G => os (G.g 5 0) (rv135 ++ s.Targets)] (fun G => by refine xf 1 rfl ?_; rintro he139; exact xA (Ap [2, 0] sl45 sl45 sz45)) (Dg [] (fun G => (G.g 5 0)) (fun G => Va) ?_)
   refine Dn ⟨by kernel_rfl, fun G => ?_⟩
   refine Jw2 [(1, p7), (5, vi 0), (3, vi 1), (4, vi 0), (6, (G.g 5 0))] [0, 1, 2, 3, 4] [SP.fact ((rv135.length = s.Uses.length)), os (G.g 5 0) (rv135 ++ s.Targets)] ?_
   generalize G.g 5 0 = c137
   refine Jf 5 rfl ?_; rintro he140
   refine Jk [0, 1, 2, 3, 4, 6] ?_
   refine Jo 5 ?_; rintro a141 k142 rfl
   refine Fb 16 5 fun hl143 => ?_
   refine FoS 5 fun ho144 => ?_
   refine KS ?_
   refine Oq Vm (Oq Veql (KS ?_))
   refine Kt ?_
   refine KS ?_
   refine Oq Vm (Oq (Vfa fo47_1 0) (Oq (VldF sh9 0) (Oa (AsV sl45 sz45 [.string (bs s.Def)] [.string (bs s.Def)]) fun c145 => ?_)))
   refine Jo 0 ?_; rintro a146 k147 rfl
   refine Jl [0] (Ent.cr1 (α := Str) (A := []) _ s.Def _ (Nat.le_of_ble_eq_true rfl) (fun _ => ⟨rfl, by first | omega | (simp; done) | (dsimp only; omega) | exact lit_bl rfl⟩)) ?_
   refine Oa (ApO [6, 0] sl45 sl45 sz45) fun c148 => ?_
   refine Jo 0 ?_; rintro a149 k150 rfl
   refine Fb 16 0 fun hl151 => ?_
   refine FoS 0 fun ho152 => ?_
   have hn153 := la (rv135 ++ s.Targets) ([s.Def] : List Str)
   refine Oq Va (KS ?_)
   refine Oq Vm (Oq Veql (Oq Vm (Osk (Osk (Osk (Oq Vpt (Oq Vm (Oq (Vfa fo47_2 1) (Oq (VldF sh45 1) ?_)))))))))
   refine Oq (Vlen sl45) (Oq Vm (Oq Veql (Oq Vpt (Oq Vm ?_))))
   refine Js 64 ?_ ?_
   · intro h154
     have g155 := eq_of_beq h154
     refine Oq Vm (Oq Vleq (Oq Vpt (Oq Vm (Oq (Vfa fo47_3 1) (Oq (VldF sh45 1) (Oq (Vlen sl45) (Oq Vm (Oq Veql (Oq Vpt ?_)))))))))
     refine Oq Vm ?_
     refine Js 75 ?_ ?_
     · intro h156
       have g157 := eq_of_beq h156
       refine Oq Vm ?_
       refine Jl [0] (Ent.freeze _ _) ?_
       refine JJ_ent (Ent.pall [4, 5] rfl rfl) ?_
       refine letv (slices_ContainsFunc_string ((rv135 ++ s.Targets) ++ [s.Def]) (fun x => syntax_valid_1 x)) fun rv158 hg159 => ?_
       have hc160 := fn60 (((rv135 ++ s.Targets) ++ [s.Def])) a149 k150 61 [] (fun x => syntax_valid_1 x) [pv (gp 0) [vl kwLA kwLK kwL], S kwLA kwLK kwL] ca61 (fun x hx hq0 => FT_pall (A1 := _) (fn61 x  kwLA kwLK hq0 _ rfl)) rv158 hg159
       refine Oc [1, 0] ca60 hc160 ?_
       rintro - -
       refine Oq Vnot (Oq Vpt (Oq Va (KS ?_)))
       have hq := q4 hrr (!rv158) (by simp only [syntax_valid, h8, h43, h72, h98, h132, h154, h156, hg136, hg159, cs4]); subst hq
       exact Kr () rfl (.tmp rfl .nil) [] trivial
     intro h156
     have g161 := ne_of_beq_false h156
     refine Osk (Osk (Osk (Oq Vpf (Oq Va (KS ?_)))))
     have hq := q4 hrr false (by simp only [syntax_valid, h8, h43, h72, h98, h132, h154, h156, hg136, cs4]); subst hq
     exact Kr () rfl (.tmp rfl .nil) [] trivial
   intro h154
   have g162 := ne_of_beq_false h154
   refine Osk (Osk (Oq Vpf (Oq Vm (Osk (Osk (Osk (Osk (Osk (Oq Vpf ?_)))))))))
   refine Oq Vm (Osk (Osk (Osk (Oq Vpf (Oq Va (KS ?_))))))
   have hq := q4 hrr false (by simp only [syntax_valid, h8, h43, h72, h98, h132, h154, hg136, cs4]); subst hq
   exact Kr () rfl (.tmp rfl .nil) [] trivial
 intro h132
 have g163 := ne_of_beq_false h132
 refine KS ?_
 refine Oq Veql (Oq Va (KS ?_))
 refine Kc ?_ ?_
 · intro h164
   have g165 := eq_of_beq h164
   refine Ke ?_
   refine KS ?_
   refine Oq Va (KS ?_)
   refine Oq Vm (Oq Vadd (Oq Va (KS ?_)))
   refine Oq Vm (Oq Vadd (Oq Va (KS ?_)))
   refine Oq (Vfa fo47_0 0) (Oq (VldF sh3 0) (Oq Vneq (KS ?_)))
   refine Kc ?_ ?_
   · intro h166
     exact absurd h166 (by first | (simp [h164]; done) | (simp only [bne, h164]; decide) | (simp only [bne, h164, Bool.not_true, Bool.not_false]; decide) | (exfalso; omega) | (intro hq; simp only [bne, hq, Bool.not_false, Bool.not_true, reduceCtorEq] at h164))
   intro h166
   have g167 := eq_of_bne_false h166
   refine KS ?_
   refine Ke ?_
   refine KS ?_
   refine JK_drawK [0, 1, 3, 0, 8, 31, 63] fmix ?_
   refine Dv [0] (Vfa fo47_2 0) (Dv [0] (VldF sh45 0) ?_)
   refine letv (slices_Clone_string s.Uses) fun rv169 hg170 => ?_
   refine Dx [1] [] [2, 0, 1] (fun G => (G.g 2 0)) [fun G => SP.fact ((rv169.length = s.Uses.length)), fun G => os (G.g 2 0) rv169] (fun G => xC [0] ca59 (fn59 s.Uses sa2 sk2 rv169 hg170)) (Dv [0] (Vfa fo47_3 0) (Dv [0] (VldF sh45 0) ?_))
   have hn172 := la rv169 s.Targets
   refine Dx [2, 5, 6] [6] [1, 2, 0] (fun G => (G.g 5 0)) [fun G => os (G.g 5 0) (rv169 ++ s.Targets)] (fun G => by refine xf 1 rfl ?_; rintro he173; exact xA (Ap [2, 0] sl45 sl45 sz45)) (Dg [] (fun G => (G.g 5 0)) (fun G => Va) ?_)
   refine Dn ⟨by kernel_rfl, fun G => ?_⟩
   refine Jw2 [(1, p7), (3, vi 0), (4, vi 1), (5, vi ((0 + 1) + 1)), (6, (G.g 5 0))] [0, 1, 2, 3, 4] [SP.fact ((rv169.length = s.Uses.length)), os (G.g 5 0) (rv169 ++ s.Targets)] ?_
   generalize G.g 5 0 = c171
   refine Jf 5 rfl ?_; rintro he174
   refine Jk [0, 1, 2, 3, 4, 6] ?_
   refine Jo 5 ?_; rintro a175 k176 rfl
   refine Fb 16 5 fun hl177 => ?_
   refine FoS 5 fun ho178 => ?_
   refine KS ?_
   refine Oq Vm (Oq Veql (KS ?_))
   refine Kf ?_
   refine KS ?_
   refine Oq Vm (Oq Veql (Oq Vm (Oq (Vfa fo47_1 0) (Oq (VldF sh9 0) (Oq (VeqS (l := s.Def) (m := (Str.mk []))) (Oq Vpf (Oq Vm ?_)))))))
   refine Js 57 ?_ ?_
   · intro h179
     have g180 := eq_of_beq h179
     refine Oq (Vfa fo47_2 0) (Oq (VldF sh45 0) (Oq (Vlen sl45) (Oq Vm (Oq Veql (Oq Vpt (Oq Vm ?_))))))
     refine Js 64 ?_ ?_
     · intro h181
       have g182 := eq_of_beq h181
       refine Oq Vm (Oq Vleq (Oq Vpt (Oq Vm (Oq (Vfa fo47_3 0) (Oq (VldF sh45 0) (Oq (Vlen sl45) (Oq Vm (Oq Veql (Oq Vpt ?_)))))))))
       refine Oq Vm ?_
       refine Js 75 ?_ ?_
       · intro h183
         have g184 := eq_of_beq h183
         refine Oq Vm ?_
         refine Jl [5] (Ent.freeze _ _) ?_
         refine JJ_ent (Ent.pall [4, 5] rfl rfl) ?_
         refine letv (slices_ContainsFunc_string (rv169 ++ s.Targets) (fun x => syntax_valid_1 x)) fun rv185 hg186 => ?_
         have hc187 := fn60 ((rv169 ++ s.Targets)) a175 k176 61 [] (fun x => syntax_valid_1 x) [pv (gp 0) [vl kwLA kwLK kwL], S kwLA kwLK kwL] ca61 (fun x hx hq0 => FT_pall (A1 := _) (fn61 x  kwLA kwLK hq0 _ rfl)) rv185 hg186
         refine Oc [1, 0] ca60 hc187 ?_
         rintro - -
         refine Oq Vnot (Oq Vpt (Oq Va (KS ?_)))
         have hq := q4 hrr (!rv185) (by simp only [syntax_valid, h8, h43, h72, h98, h132, h164, h166, h179, h181, h183, hg170, hg186, cs4]); subst hq
         exact Kr () rfl (.tmp rfl .nil) [] trivial
       intro h183
       have g188 := ne_of_beq_false h183
       refine Osk (Osk (Osk (Oq Vpf (Oq Va (KS ?_)))))
       have hq := q4 hrr false (by simp only [syntax_valid, h8, h43, h72, h98, h132, h164, h166, h179, h181, h183, hg170, cs4]); subst hq
       exact Kr () rfl (.tmp rfl .nil) [] trivial
     intro h181
     have g189 := ne_of_beq_false h181
     refine Osk (Osk (Oq Vpf (Oq Vm (Osk (Osk (Osk (Osk (Osk (Oq Vpf ?_)))))))))
     refine Oq Vm (Osk (Osk (Osk (Oq Vpf (Oq Va (KS ?_))))))
     have hq := q4 hrr false (by simp only [syntax_valid, h8, h43, h72, h98, h132, h164, h166, h179, h181, hg170, cs4]); subst hq
     exact Kr () rfl (.tmp rfl .nil) [] trivial
   intro h179
   have g190 := ne_of_beq_false h179
   refine Osk (Osk (Osk (Osk (Osk (Oq Vpf (Oq Vm (Osk (Osk (Oq Vpf ?_)))))))))
   refine Oq Vm (Osk (Osk (Osk (Osk (Osk (Oq Vpf (Oq Vm (Osk (Osk ?_)))))))))
   refine Osk (Oq Vpf (Oq Va (KS ?_)))
   have hq := q4 hrr false (by simp only [syntax_valid, h8, h43, h72, h98, h132, h164, h166, h179, hg170, cs4]); subst hq
   exact Kr () rfl (.tmp rfl .nil) [] trivial
 intro h164
 have g191 := ne_of_beq_false h164
 refine KS ?_
 refine Oq Veql (Oq Va (KS ?_))
 refine Kc ?_ ?_
 · intro h192
   have g193 := eq_of_beq h192
   refine KS ?_
   refine Kc ?_ ?_
   · intro h194
     have g195 := eq_of_beq h194
     refine Ke ?_
     refine KS ?_
     refine Oq Vm (Oq Vadd (Oq Va (KS ?_)))
     refine Oq (Vfa fo47_0 0) (Oq (VldF sh3 0) (Oq Vneq (KS ?_)))
     refine Kc ?_ ?_
     · intro h196
       have g197 := ne_of_bne h196
       refine KS ?_
       refine Oq Va (KS ?_)
       refine Ke ?_
       refine KS ?_
       refine JK_drawK [0, 1, 3, 0, 8, 31, 63] fmix ?_
       refine Dv [0] (Vfa fo47_2 0) (Dv [0] (VldF sh45 0) ?_)
       refine letv (slices_Clone_string s.Uses) fun rv199 hg200 => ?_
       refine Dx [1] [] [2, 0, 1] (fun G => (G.g 2 0)) [fun G => SP.fact ((rv199.length = s.Uses.length)), fun G => os (G.g 2 0) rv199] (fun G => xC [0] ca59 (fn59 s.Uses sa2 sk2 rv199 hg200)) (Dv [0] (Vfa fo47_3 0) (Dv [0] (VldF sh45 0) ?_))
       have hn202 := la rv199 s.Targets
       refine Dx [2, 5, 6] [6] [1, 2, 0] (fun G => (G.g 5 0)) [fun G => os (G.g 5 0) (rv199 ++ s.Targets)] (fun G => by refine xf 1 rfl ?_; rintro he203; exact xA (Ap [2, 0] sl45 sl45 sz45)) (Dg [] (fun G => (G.g 5 0)) (fun G => Va) ?_)
       refine Dn ⟨by kernel_rfl, fun G => ?_⟩
       refine Jw2 [(1, p7), (3, vi 0), (5, vi (0 + 1)), (4, vi 0), (6, (G.g 5 0))] [0, 1, 2, 3, 4] [SP.fact ((rv199.length = s.Uses.length)), os (G.g 5 0) (rv199 ++ s.Targets)] ?_
       generalize G.g 5 0 = c201
       refine Jf 5 rfl ?_; rintro he204
       refine Jk [0, 1, 2, 3, 4, 6] ?_
       refine Jo 5 ?_; rintro a205 k206 rfl
       refine Fb 16 5 fun hl207 => ?_
       refine FoS 5 fun ho208 => ?_
       refine KS ?_
       refine Oq Vm (Oq Veql (KS ?_))
       refine Kf ?_
       refine KS ?_
       refine Oq Vm (Oq Veql (Oq Vm (Oq (Vfa fo47_1 0) (Oq (VldF sh9 0) (Oq (VeqS (l := s.Def) (m := (Str.mk []))) (Oq Vpf (Oq Vm ?_)))))))
       refine Js 57 ?_ ?_
       · intro h209
         have g210 := eq_of_beq h209
         refine Oq (Vfa fo47_2 0) (Oq (VldF sh45 0) (Oq (Vlen sl45) (Oq Vm (Oq Veql (Oq Vpt (Oq Vm ?_))))))
         refine Js 64 ?_ ?_
         · intro h211
           have g212 := eq_of_beq h211
           refine Oq Vm (Oq Vleq (Oq Vpt (Oq Vm (Oq (Vfa fo47_3 0) (Oq (VldF sh45 0) (Oq (Vlen sl45) (Oq Vm (Oq Veql (Oq Vpt ?_)))))))))
           refine Oq Vm ?_
           refine Js 75 ?_ ?_
           · intro h213
             have g214 := eq_of_beq h213
             refine Oq Vm ?_
             refine Jl [5] (Ent.freeze _ _) ?_
             refine JJ_ent (Ent.pall [4, 5] rfl rfl) ?_
             refine letv (slices_ContainsFunc_string (rv199 ++ s.Targets) (fun x => syntax_valid_1 x)) fun rv215 hg216 => ?_
             have hc217 := fn60 ((rv199 ++ s.Targets)) a205 k206 61 [] (fun x => syntax_valid_1 x) [pv (gp 0) [vl kwLA kwLK kwL], S kwLA kwLK kwL] ca61 (fun x hx hq0 => FT_pall (A1 := _) (fn61 x  kwLA kwLK hq0 _ rfl)) rv215 hg216
             refine Oc [1, 0] ca60 hc217 ?_
             rintro - -
             refine Oq Vnot (Oq Vpt (Oq Va (KS ?_)))
             have hq := q4 hrr (!rv215) (by simp only [syntax_valid, h8, h43, h72, h98, h132, h164, h192, h194, h196, h209, h211, h213, hg200, hg216, cs4]); subst hq
             exact Kr () rfl (.tmp rfl .nil) [] trivial
           intro h213
           have g218 := ne_of_beq_false h213
           refine Osk (Osk (Osk (Oq Vpf (Oq Va (KS ?_)))))
           have hq := q4 hrr false (by simp only [syntax_valid, h8, h43, h72, h98, h132, h164, h192, h194, h196, h209, h211, h213, hg200, cs4]); subst hq
           exact Kr () rfl (.tmp rfl .nil) [] trivial
         intro h211
         have g219 := ne_of_beq_false h211
         refine Osk (Osk (Oq Vpf (Oq Vm (Osk (Osk (Osk (Osk (Osk (Oq Vpf ?_)))))))))
         refine Oq Vm (Osk (Osk (Osk (Oq Vpf (Oq Va (KS ?_))))))
         have hq := q4 hrr false (by simp only [syntax_valid, h8, h43, h72, h98, h132, h164, h192, h194, h196, h209, h211, hg200, cs4]); subst hq
         exact Kr () rfl (.tmp rfl .nil) [] trivial
       intro h209
       have g220 := ne_of_beq_false h209
       refine Osk (Osk (Osk (Osk (Osk (Oq Vpf (Oq Vm (Osk (Osk (Oq Vpf ?_)))))))))
       refine Oq Vm (Osk (Osk (Osk (Osk (Osk (Oq Vpf (Oq Vm (Osk (Osk ?_)))))))))
       refine Osk (Oq Vpf (Oq Va (KS ?_)))
       have hq := q4 hrr false (by simp only [syntax_valid, h8, h43, h72, h98, h132, h164, h192, h194, h196, h209, hg200, cs4]); subst hq
       exact Kr () rfl (.tmp rfl .nil) [] trivial
     intro h196
     exact absurd h196 (by first | (simp [h164]; done) | (simp only [bne, h164]; decide) | (simp only [bne, h164, Bool.not_true, Bool.not_false]; decide) | (exfalso; omega) | (intro hq; simp only [bne, hq, Bool.not_false, Bool.not_true, reduceCtorEq] at h164))
   intro h194
   exact absurd h194 (by first | (simp [h192]; done) | (simp only [bne, h192]; decide) | (simp only [bne, h192, Bool.not_true, Bool.not_false]; decide) | (exfalso; omega) | (intro hq; simp only [bne, hq, Bool.not_false, Bool.not_true, reduceCtorEq] at h192))
 intro h192
 have g221 := ne_of_beq_false h192
 refine KS ?_
 refine Oq Veql (Oq Va (KS ?_))
 refine Kc ?_ ?_
 · intro h222
   have g223 := eq_of_beq h222
   refine Ke ?_
   refine KS ?_
   refine Oq Vm (Oq Vadd (Oq Va (KS ?_)))
   refine Oq (Vfa fo47_0 0) (Oq (VldF sh3 0) (Oq Vneq (KS ?_)))
   refine Kc ?_ ?_
   · intro h224
     have g225 := ne_of_bne h224
     refine KS ?_
     refine Oq Va (KS ?_)
     refine Ke ?_
     refine KS ?_
     refine JK_drawK [0, 1, 3, 0, 8, 31, 63] fmix ?_
     refine Dv [0] (Vfa fo47_2 0) (Dv [0] (VldF sh45 0) ?_)
     refine letv (slices_Clone_string s.Uses) fun rv227 hg228 => ?_
     refine Dx [1] [] [2, 0, 1] (fun G => (G.g 2 0)) [fun G => SP.fact ((rv227.length = s.Uses.length)), fun G => os (G.g 2 0) rv227] (fun G => xC [0] ca59 (fn59 s.Uses sa2 sk2 rv227 hg228)) (Dv [0] (Vfa fo47_3 0) (Dv [0] (VldF sh45 0) ?_))
     have hn230 := la rv227 s.Targets
     refine Dx [2, 5, 6] [6] [1, 2, 0] (fun G => (G.g 5 0)) [fun G => os (G.g 5 0) (rv227 ++ s.Targets)] (fun G => by refine xf 1 rfl ?_; rintro he231; exact xA (Ap [2, 0] sl45 sl45 sz45)) (Dg [] (fun G => (G.g 5 0)) (fun G => Va) ?_)
     refine Dn ⟨by kernel_rfl, fun G => ?_⟩
     refine Jw2 [(1, p7), (3, vi 0), (5, vi (0 + 1)), (4, vi 0), (6, (G.g 5 0))] [0, 1, 2, 3, 4] [SP.fact ((rv227.length = s.Uses.length)), os (G.g 5 0) (rv227 ++ s.Targets)] ?_
     generalize G.g 5 0 = c229
     refine Jf 5 rfl ?_; rintro he232
     refine Jk [0, 1, 2, 3, 4, 6] ?_
     refine Jo 5 ?_; rintro a233 k234 rfl
     refine Fb 16 5 fun hl235 => ?_
     refine FoS 5 fun ho236 => ?_
     refine KS ?_
     refine Oq Vm (Oq Veql (KS ?_))
     refine Kf ?_
     refine KS ?_
     refine Oq Vm (Oq Veql (Oq Vm (Oq (Vfa fo47_1 0) (Oq (VldF sh9 0) (Oq (VeqS (l := s.Def) (m := (Str.mk []))) (Oq Vpf (Oq Vm ?_)))))))
     refine Js 57 ?_ ?_
     · intro h237
       have g238 := eq_of_beq h237
       refine Oq (Vfa fo47_2 0) (Oq (VldF sh45 0) (Oq (Vlen sl45) (Oq Vm (Oq Veql (Oq Vpt (Oq Vm ?_))))))
       refine Js 64 ?_ ?_
       · intro h239
         have g240 := eq_of_beq h239
         refine Oq Vm (Oq Vleq (Oq Vpt (Oq Vm (Oq (Vfa fo47_3 0) (Oq (VldF sh45 0) (Oq (Vlen sl45) (Oq Vm (Oq Veql (Oq Vpt ?_)))))))))
         refine Oq Vm ?_
         refine Js 75 ?_ ?_
         · intro h241
           have g242 := eq_of_beq h241
           refine Oq Vm ?_
           refine Jl [5] (Ent.freeze _ _) ?_
           refine JJ_ent (Ent.pall [4, 5] rfl rfl) ?_
           refine letv (slices_ContainsFunc_string (rv227 ++ s.Targets) (fun x => syntax_valid_1 x)) fun rv243 hg244 => ?_
           have hc245 := fn60 ((rv227 ++ s.Targets)) a233 k234 61 [] (fun x => syntax_valid_1 x) [pv (gp 0) [vl kwLA kwLK kwL], S kwLA kwLK kwL] ca61 (fun x hx hq0 => FT_pall (A1 := _) (fn61 x  kwLA kwLK hq0 _ rfl)) rv243 hg244
           refine Oc [1, 0] ca60 hc245 ?_
           rintro - -
           refine Oq Vnot (Oq Vpt (Oq Va (KS ?_)))
           have hq := q4 hrr (!rv243) (by simp only [syntax_valid, h8, h43, h72, h98, h132, h164, h192, h222, h224, h237, h239, h241, hg228, hg244, cs4]); subst hq
           exact Kr () rfl (.tmp rfl .nil) [] trivial
         intro h241
         have g246 := ne_of_beq_false h241
         refine Osk (Osk (Osk (Oq Vpf (Oq Va (KS ?_)))))
         have hq := q4 hrr false (by simp only [syntax_valid, h8, h43, h72, h98, h132, h164, h192, h222, h224, h237, h239, h241, hg228, cs4]); subst hq
         exact Kr () rfl (.tmp rfl .nil) [] trivial
       intro h239
       have g247 := ne_of_beq_false h239
       refine Osk (Osk (Oq Vpf (Oq Vm (Osk (Osk (Osk (Osk (Osk (Oq Vpf ?_)))))))))
       refine Oq Vm (Osk (Osk (Osk (Oq Vpf (Oq Va (KS ?_))))))
       have hq := q4 hrr false (by simp only [syntax_valid, h8, h43, h72, h98, h132, h164, h192, h222, h224, h237, h239, hg228, cs4]); subst hq
       exact Kr () rfl (.tmp rfl .nil) [] trivial
     intro h237
     have g248 := ne_of_beq_false h237
     refine Osk (Osk (Osk (Osk (Osk (Oq Vpf (Oq Vm (Osk (Osk (Oq Vpf ?_)))))))))
     refine Oq Vm (Osk (Osk (Osk (Osk (Osk (Oq Vpf (Oq Vm (Osk (Osk ?_)))))))))
     refine Osk (Oq Vpf (Oq Va (KS ?_)))
     have hq := q4 hrr false (by simp only [syntax_valid, h8, h43, h72, h98, h132, h164, h192, h222, h224, h237, hg228, cs4]); subst hq
     exact Kr () rfl (.tmp rfl .nil) [] trivial
   intro h224
   exact absurd h224 (by first | (simp [h164]; done) | (simp only [bne, h164]; decide) | (simp only [bne, h164, Bool.not_true, Bool.not_false]; decide) | (exfalso; omega) | (intro hq; simp only [bne, hq, Bool.not_false, Bool.not_true, reduceCtorEq] at h164))
 intro h222
 have g249 := ne_of_beq_false h222
 refine KS ?_
 refine Oq Veql (Oq Va (KS ?_))
 refine Kc ?_ ?_
 · intro h250
   have g251 := eq_of_beq h250
   refine Ke ?_
   refine KS ?_
   refine Oq Va (KS ?_)
   refine Ke ?_
   refine KS ?_
   refine JK_drawK [0, 1, 3, 0, 8, 31, 63] fmix ?_
   refine Dv [0] (Vfa fo47_2 0) (Dv [0] (VldF sh45 0) ?_)
   refine letv (slices_Clone_string s.Uses) fun rv253 hg254 => ?_
   refine Dx [1] [] [2, 0, 1] (fun G => (G.g 2 0)) [fun G => SP.fact ((rv253.length = s.Uses.length)), fun G => os (G.g 2 0) rv253] (fun G => xC [0] ca59 (fn59 s.Uses sa2 sk2 rv253 hg254)) (Dv [0] (Vfa fo47_3 0) (Dv [0] (VldF sh45 0) ?_))
   have hn256 := la rv253 s.Targets
   refine Dx [2, 5, 6] [6] [1, 2, 0] (fun G => (G.g 5 0)) [fun G => os (G.g 5 0) (rv253 ++ s.Targets)] (fun G => by refine xf 1 rfl ?_; rintro he257; exact xA (Ap [2, 0] sl45 sl45 sz45)) (Dg [] (fun G => (G.g 5 0)) (fun G => Va) ?_)
   refine Dn ⟨by kernel_rfl, fun G => ?_⟩
   refine Jw2 [(1, p7), (3, vi 0), (5, vi 0), (4, vi 0), (6, (G.g 5 0))] [0, 1, 2, 3, 4] [SP.fact ((rv253.length = s.Uses.length)), os (G.g 5 0) (rv253 ++ s.Targets)] ?_
   generalize G.g 5 0 = c255
   refine Jf 5 rfl ?_; rintro he258
   refine Jk [0, 1, 2, 3, 4, 6] ?_
   refine Jo 5 ?_; rintro a259 k260 rfl
   refine Fb 16 5 fun hl261 => ?_
   refine FoS 5 fun ho262 => ?_
   refine KS ?_
   refine Oq Vm (Oq Veql (KS ?_))
   refine Kf ?_
   refine KS ?_
   refine Oq Vm (Oq Veql (Oq Vm (Oq (Vfa fo47_1 0) (Oq (VldF sh9 0) (Oq (VeqS (l := s.Def) (m := (Str.mk []))) (Oq Vpf (Oq Vm ?_)))))))
   refine Js 57 ?_ ?_
   · intro h263
     have g264 := eq_of_beq h263
     refine Oq (Vfa fo47_2 0) (Oq (VldF sh45 0) (Oq (Vlen sl45) (Oq Vm (Oq Veql (Oq Vpt (Oq Vm ?_))))))
     refine Js 64 ?_ ?_
     · intro h265
       have g266 := eq_of_beq h265
       refine Oq Vm (Oq Vleq (Oq Vpt (Oq Vm (Oq (Vfa fo47_3 0) (Oq (VldF sh45 0) (Oq (Vlen sl45) (Oq Vm (Oq Veql (Oq Vpt ?_)))))))))
       refine Oq Vm ?_
       refine Js 75 ?_ ?_
       · intro h267
         have g268 := eq_of_beq h267
         refine Oq Vm ?_
         refine Jl [5] (Ent.freeze _ _) ?_
         refine JJ_ent (Ent.pall [4, 5] rfl rfl) ?_
         refine letv (slices_ContainsFunc_string (rv253 ++ s.Targets) (fun x => syntax_valid_1 x)) fun rv269 hg270 => ?_
         have hc271 := fn60 ((rv253 ++ s.Targets)) a259 k260 61 [] (fun x => syntax_valid_1 x) [pv (gp 0) [vl kwLA kwLK kwL], S kwLA kwLK kwL] ca61 (fun x hx hq0 => FT_pall (A1 := _) (fn61 x  kwLA kwLK hq0 _ rfl)) rv269 hg270
         refine Oc [1, 0] ca60 hc271 ?_
         rintro - -
         refine Oq Vnot (Oq Vpt (Oq Va (KS ?_)))
         have hq := q4 hrr (!rv269) (by simp only [syntax_valid, h8, h43, h72, h98, h132, h164, h192, h222, h250, h263, h265, h267, hg254, hg270, cs4]); subst hq
         exact Kr () rfl (.tmp rfl .nil) [] trivial
       intro h267
       have g272 := ne_of_beq_false h267
       refine Osk (Osk (Osk (Oq Vpf (Oq Va (KS ?_)))))
       have hq := q4 hrr false (by simp only [syntax_valid, h8, h43, h72, h98, h132, h164, h192, h222, h250, h263, h265, h267, hg254, cs4]); subst hq
       exact Kr () rfl (.tmp rfl .nil) [] trivial
     intro h265
     have g273 := ne_of_beq_false h265
     refine Osk (Osk (Oq Vpf (Oq Vm (Osk (Osk (Osk (Osk (Osk (Oq Vpf ?_)))))))))
     refine Oq Vm (Osk (Osk (Osk (Oq Vpf (Oq Va (KS ?_))))))
     have hq := q4 hrr false (by simp only [syntax_valid, h8, h43, h72, h98, h132, h164, h192, h222, h250, h263, h265, hg254, cs4]); subst hq
     exact Kr () rfl (.tmp rfl .nil) [] trivial
   intro h263
   have g274 := ne_of_beq_false h263
   refine Osk (Osk (Osk (Osk (Osk (Oq Vpf (Oq Vm (Osk (Osk (Oq Vpf ?_)))))))))
   refine Oq Vm (Osk (Osk (Osk (Osk (Osk (Oq Vpf (Oq Vm (Osk (Osk ?_)))))))))
   refine Osk (Oq Vpf (Oq Va (KS ?_)))
   have hq := q4 hrr false (by simp only [syntax_valid, h8, h43, h72, h98, h132, h164, h192, h222, h250, h263, hg254, cs4]); subst hq
   exact Kr () rfl (.tmp rfl .nil) [] trivial
 intro h250
 have g275 := ne_of_beq_false h250
 refine KS ?_
 refine Ke ?_
 refine KS ?_
 refine Oq Va (KS ?_)
 have hq := q4 hrr false (by simp only [syntax_valid, h8, h43, h72, h98, h132, h164, h192, h222, h250, cs4]); subst hq
 exact Kr () rfl (.tmp rfl .nil) [] trivial
theorem fn37 (s : GStmt) (sa2 : Option Addr) (sk2 : Nat) (sa3 : Option Addr) (sk3 : Nat) (kwLA : Option Addr) (kwLK : Nat) (hs_0 : i64ok s.Op) (hs_1 : s.Def.b.length ≤ 140737488355328) (hsm : SSm s = true) (rr : Bool) (hrr : syntax_Valid_1 s = rr) : FT Tryd.prog 37 #[.agg #[vi s.Op, .string (bs s.Def), vl sa2 sk2 s.Uses, vl sa3 sk3 s.Targets]] [S sa2 sk2 s.Uses, S sa3 sk3 s.Targets, pv (gp 0) [vl kwLA kwLK kwL], S kwLA kwLK kwL] (fun g : Unit => True) (fun g => vb rr) (fun g => []) := by
 refine FTi Tryd.func37 fun w0 M0 F0 => ?_
 unfold i64ok at hs_0
 refine Fb 16 0 fun hl1 => ?_
 refine FoS 0 fun ho2 => ?_
 refine Fb 16 1 fun hl3 => ?_
 refine FoS 1 fun ho4 => ?_
 refine Fb 16 3 fun hl5 => ?_
 refine FoS 3 fun ho6 => ?_
 refine KS ?_
 refine Oa (Ab [vi s.Op, .string (bs s.Def), vl sa2 sk2 s.Uses, vl sa3 sk3 s.Targets]) fun p7 => Oq Va (KS ?_)
 refine Oq (VldA sh47 0) ?_
 refine letv (syntax_valid s) fun rv8 hg9 => ?_
 have hc10 := fn38 s sa2 sk2 sa3 sk3 kwLA kwLK pre pre pre rv8 hg9
 refine Oc [1, 2, 3, 4] ca38 hc10 ?_
 rintro - -
 refine Oq Vnot (Oq Va (KS ?_))
 have hq := q4 hrr (!rv8) (by simp only [syntax_Valid_1, hg9, cs4]); subst hq
 exact Kr () rfl (.tmp rfl .nil) [] trivial
end Go.SL.G
