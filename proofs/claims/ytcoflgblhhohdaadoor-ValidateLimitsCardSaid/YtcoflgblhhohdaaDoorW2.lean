/- Part 2 of the walks: mirrors, plain laws and walks used by the last text of this claim. -/
import Derived.Test.YtcoflgblhhohdaaDoorW1
import Derived.Test.YtcoflgblhhohdaaDoorProg
set_option linter.unusedVariables false
set_option linter.unusedSimpArgs false
namespace Go.SL.G
open Go Go.SL Go.Proofs
set_option maxHeartbeats 20000000
set_option maxRecDepth 100000
structure GStmt where
  Op : Int
  Def : Str
  Uses : List Str
  Targets : List Str
instance : Inhabited GStmt := ⟨⟨0, ⟨[]⟩, [], []⟩⟩
structure GToken where
  Kind : Int
  Text : Str
  Line : Int
  Col : Int
instance : Inhabited GToken := ⟨⟨0, ⟨[]⟩, 0, 0⟩⟩
structure Gparser where
  l : List GToken
  at_ : Int
  Err : Int
instance : Inhabited Gparser := ⟨⟨[], 0, 0⟩⟩
structure GBlock where
  Name : Str
  Stmts : List GStmt
instance : Inhabited GBlock := ⟨⟨⟨[]⟩, []⟩⟩
structure GFunc where
  Name : Str
  Blocks : List GBlock
instance : Inhabited GFunc := ⟨⟨⟨[]⟩, []⟩⟩
structure GProgram where
  Funcs : List GFunc
instance : Inhabited GProgram := ⟨⟨[]⟩⟩
structure GNode where
  Kind : Int
  Func : Int
  Block : Int
  Stmt : Int
instance : Inhabited GNode := ⟨⟨0, 0, 0, 0⟩⟩
def kwL : List Str := [⟨[102, 117, 110, 99]⟩, ⟨[98, 108, 111, 99, 107]⟩, ⟨[101, 110, 100]⟩, ⟨[117, 115, 101]⟩, ⟨[99, 97, 108, 108]⟩, ⟨[115, 111, 117, 114, 99, 101]⟩, ⟨[115, 105, 110, 107]⟩, ⟨[115, 97, 110, 105, 116, 105, 122, 101]⟩, ⟨[103, 111, 116, 111]⟩, ⟨[98, 114, 97, 110, 99, 104]⟩, ⟨[114, 101, 116, 117, 114, 110]⟩]
instance rep_GStmt : Rep GStmt where
  sz := 4
  bytes := 72
  pos := by decide
  bpos := by decide
  rd w M cs x := ∃ c2 c3, cs = [.int .i64 x.Op, .string (bs x.Def), c2, c3] ∧ i64ok x.Op ∧ x.Def.b.length ≤ 140737488355328 ∧ slrd w M c2 x.Uses ∧ slrd w M c3 x.Targets
  len := by rintro w M cs x ⟨c2, c3, rfl, h0, h1, h2, h3⟩; rfl
  one := by
    rintro w M cs x ⟨c2, c3, rfl, h0, h1, h2, h3⟩ v hv
    simp only [List.mem_cons, List.not_mem_nil, or_false] at hv
    rcases hv with rfl | rfl | rfl | rfl
    all_goals first | rfl | exact slrd_one h2 | exact slrd_one h3
  st := by
    rintro w M cs x w' M' ⟨c2, c3, rfl, h0, h1, h2, h3⟩ e
    exact ⟨c2, c3, rfl, h0, h1, slrd_st h2 e, slrd_st h3 e⟩
theorem JJ_peek_GStmt {C : Cx} {X : Act → World → Prop} {L : Env} {A : List SP} {c : Value} {xs : List GStmt} (i m : Nat) (hA : A[m]? = some (sl c xs)) (hi : i < xs.length)
    (h : ∀ (a2 : Option Addr) (k2 : Nat) (a3 : Option Addr) (k3 : Nat), i64ok (xs.getD i default).Op → ((xs.getD i default).Def).b.length ≤ 140737488355328 → JJ C X L (pv (eptr 4 c i) [.int .i64 (xs.getD i default).Op, .string (bs (xs.getD i default).Def), .slice a2 (xs.getD i default).Uses.length k2, .slice a3 (xs.getD i default).Targets.length k3] :: sl (.slice a2 (xs.getD i default).Uses.length k2) (xs.getD i default).Uses :: sl (.slice a3 (xs.getD i default).Targets.length k3) (xs.getD i default).Targets :: A)) : JJ C X L A := by
  refine JJ_peek i m hA hi default fun cs => ?_
  intro a w M F st
  obtain ⟨F1, F2, q1, q2, qd, hp, F3, F4, q3, q4, qd2, hr, hs⟩ := st.sp
  obtain ⟨c2, c3, rfl, h0, h1, h2, h3⟩ := hr
  have g2 := h2
  obtain ⟨_, a2, k2, rfl, _⟩ := h2
  have g3 := h3
  obtain ⟨_, a3, k3, rfl, _⟩ := h3
  exact h a2 k2 a3 k3 h0 h1 a w M F ⟨st.step, st.sz, st.df, st.sat, F1, F2, q1, q2, qd, hp, ⟨fun _ => False, _, fun _ h => h.elim, fun _ h => h, fun _ h _ => h, g2, ⟨fun _ => False, _, fun _ h => h.elim, fun _ h => h, fun _ h _ => h, g3, sepAll_up hs q4⟩⟩⟩
instance rep_GToken : Rep GToken where
  sz := 4
  bytes := 40
  pos := by decide
  bpos := by decide
  rd w M cs x := cs = [.int .i64 x.Kind, .string (bs x.Text), .int .i64 x.Line, .int .i64 x.Col] ∧ i64ok x.Kind ∧ x.Text.b.length ≤ 140737488355328 ∧ i64ok x.Line ∧ i64ok x.Col
  len := by rintro w M cs x ⟨rfl, h0, h1, h2, h3⟩; rfl
  one := by
    rintro w M cs x ⟨rfl, h0, h1, h2, h3⟩ v hv
    simp only [List.mem_cons, List.not_mem_nil, or_false] at hv
    rcases hv with rfl | rfl | rfl | rfl
    all_goals first | rfl
  st := by
    rintro w M cs x w' M' ⟨rfl, h0, h1, h2, h3⟩ e
    exact ⟨rfl, h0, h1, h2, h3⟩
theorem JJ_peek_GToken {C : Cx} {X : Act → World → Prop} {L : Env} {A : List SP} {c : Value} {xs : List GToken} (i m : Nat) (hA : A[m]? = some (sl c xs)) (hi : i < xs.length)
    (h : i64ok (xs.getD i default).Kind → ((xs.getD i default).Text).b.length ≤ 140737488355328 → i64ok (xs.getD i default).Line → i64ok (xs.getD i default).Col → JJ C X L (pv (eptr 4 c i) [.int .i64 (xs.getD i default).Kind, .string (bs (xs.getD i default).Text), .int .i64 (xs.getD i default).Line, .int .i64 (xs.getD i default).Col] :: A)) : JJ C X L A := by
  refine JJ_peek i m hA hi default fun cs => ?_
  intro a w M F st
  obtain ⟨F1, F2, q1, q2, qd, hp, F3, F4, q3, q4, qd2, hr, hs⟩ := st.sp
  obtain ⟨rfl, h0, h1, h2, h3⟩ := hr
  exact h h0 h1 h2 h3 a w M F ⟨st.step, st.sz, st.df, st.sat, F1, F2, q1, q2, qd, hp, sepAll_up hs q4⟩
instance rep_Gparser : Rep Gparser where
  sz := 3
  bytes := 40
  pos := by decide
  bpos := by decide
  rd w M cs x := ∃ c0, cs = [c0, .int .i64 x.at_, .int .i64 x.Err] ∧ slrd w M c0 x.l ∧ i64ok x.at_ ∧ i64ok x.Err
  len := by rintro w M cs x ⟨c0, rfl, h0, h1, h2⟩; rfl
  one := by
    rintro w M cs x ⟨c0, rfl, h0, h1, h2⟩ v hv
    simp only [List.mem_cons, List.not_mem_nil, or_false] at hv
    rcases hv with rfl | rfl | rfl
    all_goals first | rfl | exact slrd_one h0
  st := by
    rintro w M cs x w' M' ⟨c0, rfl, h0, h1, h2⟩ e
    exact ⟨c0, rfl, slrd_st h0 e, h1, h2⟩
instance rep_GBlock : Rep GBlock where
  sz := 2
  bytes := 40
  pos := by decide
  bpos := by decide
  rd w M cs x := ∃ c1, cs = [.string (bs x.Name), c1] ∧ x.Name.b.length ≤ 140737488355328 ∧ slrd w M c1 x.Stmts
  len := by rintro w M cs x ⟨c1, rfl, h0, h1⟩; rfl
  one := by
    rintro w M cs x ⟨c1, rfl, h0, h1⟩ v hv
    simp only [List.mem_cons, List.not_mem_nil, or_false] at hv
    rcases hv with rfl | rfl
    all_goals first | rfl | exact slrd_one h1
  st := by
    rintro w M cs x w' M' ⟨c1, rfl, h0, h1⟩ e
    exact ⟨c1, rfl, h0, slrd_st h1 e⟩
theorem JJ_peek_GBlock {C : Cx} {X : Act → World → Prop} {L : Env} {A : List SP} {c : Value} {xs : List GBlock} (i m : Nat) (hA : A[m]? = some (sl c xs)) (hi : i < xs.length)
    (h : ∀ (a1 : Option Addr) (k1 : Nat), ((xs.getD i default).Name).b.length ≤ 140737488355328 → JJ C X L (pv (eptr 2 c i) [.string (bs (xs.getD i default).Name), .slice a1 (xs.getD i default).Stmts.length k1] :: sl (.slice a1 (xs.getD i default).Stmts.length k1) (xs.getD i default).Stmts :: A)) : JJ C X L A := by
  refine JJ_peek i m hA hi default fun cs => ?_
  intro a w M F st
  obtain ⟨F1, F2, q1, q2, qd, hp, F3, F4, q3, q4, qd2, hr, hs⟩ := st.sp
  obtain ⟨c1, rfl, h0, h1⟩ := hr
  have g1 := h1
  obtain ⟨_, a1, k1, rfl, _⟩ := h1
  exact h a1 k1 h0 a w M F ⟨st.step, st.sz, st.df, st.sat, F1, F2, q1, q2, qd, hp, ⟨fun _ => False, _, fun _ h => h.elim, fun _ h => h, fun _ h _ => h, g1, sepAll_up hs q4⟩⟩
instance rep_GFunc : Rep GFunc where
  sz := 2
  bytes := 40
  pos := by decide
  bpos := by decide
  rd w M cs x := ∃ c1, cs = [.string (bs x.Name), c1] ∧ x.Name.b.length ≤ 140737488355328 ∧ slrd w M c1 x.Blocks
  len := by rintro w M cs x ⟨c1, rfl, h0, h1⟩; rfl
  one := by
    rintro w M cs x ⟨c1, rfl, h0, h1⟩ v hv
    simp only [List.mem_cons, List.not_mem_nil, or_false] at hv
    rcases hv with rfl | rfl
    all_goals first | rfl | exact slrd_one h1
  st := by
    rintro w M cs x w' M' ⟨c1, rfl, h0, h1⟩ e
    exact ⟨c1, rfl, h0, slrd_st h1 e⟩
theorem JJ_peek_GFunc {C : Cx} {X : Act → World → Prop} {L : Env} {A : List SP} {c : Value} {xs : List GFunc} (i m : Nat) (hA : A[m]? = some (sl c xs)) (hi : i < xs.length)
    (h : ∀ (a1 : Option Addr) (k1 : Nat), ((xs.getD i default).Name).b.length ≤ 140737488355328 → JJ C X L (pv (eptr 2 c i) [.string (bs (xs.getD i default).Name), .slice a1 (xs.getD i default).Blocks.length k1] :: sl (.slice a1 (xs.getD i default).Blocks.length k1) (xs.getD i default).Blocks :: A)) : JJ C X L A := by
  refine JJ_peek i m hA hi default fun cs => ?_
  intro a w M F st
  obtain ⟨F1, F2, q1, q2, qd, hp, F3, F4, q3, q4, qd2, hr, hs⟩ := st.sp
  obtain ⟨c1, rfl, h0, h1⟩ := hr
  have g1 := h1
  obtain ⟨_, a1, k1, rfl, _⟩ := h1
  exact h a1 k1 h0 a w M F ⟨st.step, st.sz, st.df, st.sat, F1, F2, q1, q2, qd, hp, ⟨fun _ => False, _, fun _ h => h.elim, fun _ h => h, fun _ h _ => h, g1, sepAll_up hs q4⟩⟩
instance rep_GProgram : Rep GProgram where
  sz := 1
  bytes := 24
  pos := by decide
  bpos := by decide
  rd w M cs x := ∃ c0, cs = [c0] ∧ slrd w M c0 x.Funcs
  len := by rintro w M cs x ⟨c0, rfl, h0⟩; rfl
  one := by
    rintro w M cs x ⟨c0, rfl, h0⟩ v hv
    simp only [List.mem_cons, List.not_mem_nil, or_false] at hv
    rcases hv with rfl
    all_goals first | rfl | exact slrd_one h0
  st := by
    rintro w M cs x w' M' ⟨c0, rfl, h0⟩ e
    exact ⟨c0, rfl, slrd_st h0 e⟩
instance rep_GNode : Rep GNode where
  sz := 4
  bytes := 32
  pos := by decide
  bpos := by decide
  rd w M cs x := cs = [.int .i64 x.Kind, .int .i64 x.Func, .int .i64 x.Block, .int .i64 x.Stmt] ∧ i64ok x.Kind ∧ i64ok x.Func ∧ i64ok x.Block ∧ i64ok x.Stmt
  len := by rintro w M cs x ⟨rfl, h0, h1, h2, h3⟩; rfl
  one := by
    rintro w M cs x ⟨rfl, h0, h1, h2, h3⟩ v hv
    simp only [List.mem_cons, List.not_mem_nil, or_false] at hv
    rcases hv with rfl | rfl | rfl | rfl
    all_goals first | rfl
  st := by
    rintro w M cs x w' M' ⟨rfl, h0, h1, h2, h3⟩ e
    exact ⟨rfl, h0, h1, h2, h3⟩
def lexer_letter (c : Int) : Bool :=
  bif decide (97 ≤ c) then
    bif decide (c ≤ 122) then
      true
    else
      bif decide (65 ≤ c) then
        decide (c ≤ 90)
      else
        false
  else
    bif decide (65 ≤ c) then
      decide (c ≤ 90)
    else
      false
def slices_Index_string_L0 (s : List Str) (v : Str) : Nat → Int → LR Unit Int
  | 0, v8 =>
    .brk ()
  | r + 1, v8 =>
    bif (v == (s.getD v8.toNat default)) then
      .ret v8
    else
      slices_Index_string_L0 s v r (v8 + 1)

def slices_Index_string (s : List Str) (v : Str) : Int :=
  match slices_Index_string_L0 s v (((s.length : Int) - 0).toNat) 0 with
  | .brk _ =>
    -1
  | .ret r => r
  | .oof => default
def slices_Contains_string (s : List Str) (v : Str) : Bool :=
  let rv1 := (slices_Index_string s v)
  decide (0 ≤ rv1)
def lexer_digit (c : Int) : Bool :=
  bif decide (48 ≤ c) then
    decide (c ≤ 57)
  else
    false
def lexer_part (c : Int) : Bool :=
  let rv1 := (lexer_letter c)
  bif rv1 then
    true
  else
    let rv7 := (lexer_digit c)
    bif rv7 then
      true
    else
      (c == 95)
def lexer_wordEnd_L0 (s : Str) : Nat → Int → Int
  | 0, i' =>
    i'
  | r + 1, i' =>
    let rv4 := (lexer_part ((s.b.getD i'.toNat 0).toNat : Int))
    bif rv4 then
      lexer_wordEnd_L0 s r (i' + 1)
    else
      i'

def lexer_wordEnd (s : Str) (i : Int) : Int :=
  match lexer_wordEnd_L0 s (((s.b.length : Int) - i).toNat) i with
  | o0_0 =>
    o0_0
def lexer_IsName (s : Str) : Bool :=
  bif (s == (Str.mk [])) then
    false
  else
    bif decide (16 < (s.b.length : Int)) then
      false
    else
      let rv8 := (lexer_letter ((s.b.getD (0 : Int).toNat 0).toNat : Int))
      bif (!rv8) then
        false
      else
        let rv18 := (slices_Contains_string kwL s)
        bif rv18 then
          false
        else
          let rv24 := (lexer_wordEnd s 0)
          (rv24 == (s.b.length : Int))
def slices_IndexFunc_Stmt_L0 (s : List GStmt) (fp : GStmt → Bool) : Nat → Int → LR Unit Int
  | 0, v8 =>
    .brk ()
  | r + 1, v8 =>
    bif (fp (s.getD v8.toNat default)) then
      .ret v8
    else
      slices_IndexFunc_Stmt_L0 s fp r (v8 + 1)

def slices_IndexFunc_Stmt (s : List GStmt) (fp : GStmt → Bool) : Int :=
  match slices_IndexFunc_Stmt_L0 s fp (((s.length : Int) - 0).toNat) 0 with
  | .brk _ =>
    -1
  | .ret r => r
  | .oof => default
def slices_ContainsFunc_Stmt (s : List GStmt) (fp : GStmt → Bool) : Bool :=
  let rv1 := (slices_IndexFunc_Stmt s fp)
  decide (0 ≤ rv1)
def slices_Clone_string (s : List Str) : List Str := s
def slices_IndexFunc_string_L0 (s : List Str) (fp : Str → Bool) : Nat → Int → LR Unit Int
  | 0, v8 =>
    .brk ()
  | r + 1, v8 =>
    bif (fp (s.getD v8.toNat default)) then
      .ret v8
    else
      slices_IndexFunc_string_L0 s fp r (v8 + 1)

def slices_IndexFunc_string (s : List Str) (fp : Str → Bool) : Int :=
  match slices_IndexFunc_string_L0 s fp (((s.length : Int) - 0).toNat) 0 with
  | .brk _ =>
    -1
  | .ret r => r
  | .oof => default
def slices_ContainsFunc_string (s : List Str) (fp : Str → Bool) : Bool :=
  let rv1 := (slices_IndexFunc_string s fp)
  decide (0 ≤ rv1)
def syntax_valid_1 (n : Str) : Bool :=
  let rv1 := (lexer_IsName n)
  (!rv1)
def syntax_valid (s : GStmt) : Bool :=
  bif (s.Op == 1) then
    let rv5 := (slices_Clone_string s.Uses)
    bif ((s.Uses.length : Int) == (s.Uses.length : Int)) then
      bif decide ((s.Uses.length : Int) ≤ 4) then
        bif ((s.Targets.length : Int) == 0) then
          let rv34 := (slices_ContainsFunc_string ((rv5 ++ s.Targets) ++ [s.Def]) (fun x => syntax_valid_1 x))
          (!rv34)
        else
          false
      else
        false
    else
      false
  else
    bif (s.Op == 2) then
      let rv44 := (slices_Clone_string s.Uses)
      bif (s.Def == (Str.mk [])) then
        bif ((s.Uses.length : Int) == (max (s.Uses.length : Int) 1)) then
          bif decide ((max (s.Uses.length : Int) 1) ≤ 4) then
            bif ((s.Targets.length : Int) == 0) then
              let rv66 := (slices_ContainsFunc_string (rv44 ++ s.Targets) (fun x => syntax_valid_1 x))
              (!rv66)
            else
              false
          else
            false
        else
          false
      else
        false
    else
      bif (s.Op == 5) then
        let rv77 := (slices_Clone_string s.Uses)
        bif (s.Def == (Str.mk [])) then
          bif ((s.Uses.length : Int) == 1) then
            bif ((s.Targets.length : Int) == 0) then
              let rv97 := (slices_ContainsFunc_string (rv77 ++ s.Targets) (fun x => syntax_valid_1 x))
              (!rv97)
            else
              false
          else
            false
        else
          false
      else
        bif (s.Op == 4) then
          let rv109 := (slices_Clone_string s.Uses)
          bif ((s.Uses.length : Int) == 0) then
            bif ((s.Targets.length : Int) == 0) then
              let rv136 := (slices_ContainsFunc_string ((rv109 ++ s.Targets) ++ [s.Def]) (fun x => syntax_valid_1 x))
              (!rv136)
            else
              false
          else
            false
        else
          bif (s.Op == 6) then
            let rv145 := (slices_Clone_string s.Uses)
            bif ((s.Uses.length : Int) == 0) then
              bif ((s.Targets.length : Int) == 0) then
                let rv172 := (slices_ContainsFunc_string ((rv145 ++ s.Targets) ++ [s.Def]) (fun x => syntax_valid_1 x))
                (!rv172)
              else
                false
            else
              false
          else
            bif (s.Op == 8) then
              let rv183 := (slices_Clone_string s.Uses)
              bif (s.Def == (Str.mk [])) then
                bif ((s.Uses.length : Int) == 1) then
                  bif ((s.Targets.length : Int) == ((0 + 1) + 1)) then
                    let rv203 := (slices_ContainsFunc_string (rv183 ++ s.Targets) (fun x => syntax_valid_1 x))
                    (!rv203)
                  else
                    false
                else
                  false
              else
                false
            else
              bif (s.Op == 3) then
                let rv217 := (slices_Clone_string s.Uses)
                bif (s.Def == (Str.mk [])) then
                  bif ((s.Uses.length : Int) == 0) then
                    bif ((s.Targets.length : Int) == (0 + 1)) then
                      let rv237 := (slices_ContainsFunc_string (rv217 ++ s.Targets) (fun x => syntax_valid_1 x))
                      (!rv237)
                    else
                      false
                  else
                    false
                else
                  false
              else
                bif (s.Op == 7) then
                  let rv249 := (slices_Clone_string s.Uses)
                  bif (s.Def == (Str.mk [])) then
                    bif ((s.Uses.length : Int) == 0) then
                      bif ((s.Targets.length : Int) == (0 + 1)) then
                        let rv269 := (slices_ContainsFunc_string (rv249 ++ s.Targets) (fun x => syntax_valid_1 x))
                        (!rv269)
                      else
                        false
                    else
                      false
                  else
                    false
                else
                  bif (s.Op == 9) then
                    let rv279 := (slices_Clone_string s.Uses)
                    bif (s.Def == (Str.mk [])) then
                      bif ((s.Uses.length : Int) == 0) then
                        bif ((s.Targets.length : Int) == 0) then
                          let rv299 := (slices_ContainsFunc_string (rv279 ++ s.Targets) (fun x => syntax_valid_1 x))
                          (!rv299)
                        else
                          false
                      else
                        false
                    else
                      false
                  else
                    false
def syntax_Valid_1 (s : GStmt) : Bool :=
  let rv2 := (syntax_valid s)
  (!rv2)
def syntax_Valid_L1  (v41 : List GBlock) : Nat → Int → LR Unit Bool
  | 0, v43 =>
    .brk ()
  | r + 1, v43 =>
    let rv38 := (lexer_IsName ((v41.getD v43.toNat default).Name))
    bif (!rv38) then
      .ret false
    else
      bif decide ((((v41.getD v43.toNat default).Stmts).length : Int) < 1) then
        .ret false
      else
        bif decide (32 < (((v41.getD v43.toNat default).Stmts).length : Int)) then
          .ret false
        else
          let rv54 := (slices_ContainsFunc_Stmt ((v41.getD v43.toNat default).Stmts) (fun x => syntax_Valid_1 x))
          bif rv54 then
            .ret false
          else
            syntax_Valid_L1 v41 r (v43 + 1)

def syntax_Valid_L0 (p : GProgram) : Nat → Int → LR Unit Bool
  | 0, v20 =>
    .brk ()
  | r + 1, v20 =>
    let rv15 := (lexer_IsName ((p.Funcs.getD v20.toNat default).Name))
    bif (!rv15) then
      .ret false
    else
      bif decide ((((p.Funcs.getD v20.toNat default).Blocks).length : Int) < 1) then
        .ret false
      else
        bif decide (16 < (((p.Funcs.getD v20.toNat default).Blocks).length : Int)) then
          .ret false
        else
          match syntax_Valid_L1 ((p.Funcs.getD v20.toNat default).Blocks) ((((((p.Funcs.getD v20.toNat default).Blocks).length : Int) : Int) - 0).toNat) 0 with
          | .brk _ =>
            syntax_Valid_L0 p r (v20 + 1)
          | .ret r => .ret r
          | .oof => .oof

def syntax_Valid (p : GProgram) : Bool :=
  bif decide ((p.Funcs.length : Int) < 1) then
    false
  else
    bif decide (8 < (p.Funcs.length : Int)) then
      false
    else
      match syntax_Valid_L0 p (((p.Funcs.length : Int) - 0).toNat) 0 with
      | .brk _ =>
        true
      | .ret r => r
      | .oof => default
def validate_Sizes_1 (s : GStmt) (cap0 : Int) (cap1 : Int) : Int × Int :=
  bif (s.Op == 3) then
    (((cap0 + 1) + 1), (cap1 + 3))
  else
    bif (s.Op == 8) then
      ((cap0 + 1), (cap1 + 2))
    else
      ((cap0 + 1), (cap1 + 1))
def validate_each_Sizes_1_L2  (v28 : List GStmt) : Nat → Int → Int → Int → Int × Int
  | 0, st00, st10, v30 =>
    (st00, st10)
  | r + 1, st00, st10, v30 =>
    let rv39 := (validate_Sizes_1 (v28.getD v30.toNat default) st00 st10)
    validate_each_Sizes_1_L2 v28 r rv39.1 rv39.2 (v30 + 1)

def validate_each_Sizes_1_L1  (v21 : List GBlock) : Nat → Int → Int → Int → Int × Int
  | 0, st00, st10, v23 =>
    (st00, st10)
  | r + 1, st00, st10, v23 =>
    match validate_each_Sizes_1_L2 ((v21.getD v23.toNat default).Stmts) ((((((v21.getD v23.toNat default).Stmts).length : Int) : Int) - 0).toNat) st00 st10 0 with
    | (o2_0, o2_1) =>
      validate_each_Sizes_1_L1 v21 r o2_0 o2_1 (v23 + 1)

def validate_each_Sizes_1_L0 (p : GProgram) : Nat → Int → Int → Int → Int × Int
  | 0, st00, st10, v16 =>
    (st00, st10)
  | r + 1, st00, st10, v16 =>
    match validate_each_Sizes_1_L1 ((p.Funcs.getD v16.toNat default).Blocks) ((((((p.Funcs.getD v16.toNat default).Blocks).length : Int) : Int) - 0).toNat) st00 st10 0 with
    | (o1_0, o1_1) =>
      validate_each_Sizes_1_L0 p r o1_0 o1_1 (v16 + 1)

def validate_each_Sizes_1 (p : GProgram) (st0 : Int) (st1 : Int) : Int × Int :=
  let rv2 := (syntax_Valid p)
  bif (!rv2) then
    (st0, st1)
  else
    match validate_each_Sizes_1_L0 p (((p.Funcs.length : Int) - 0).toNat) st0 st1 0 with
    | (o0_0, o0_1) =>
      (o0_0, o0_1)
def validate_Sizes (p : GProgram) : Int × Int :=
  let rv2 := (syntax_Valid p)
  bif (!rv2) then
    (0, 0)
  else
    let rv14 := (validate_each_Sizes_1 p (2 * (p.Funcs.length : Int)) (p.Funcs.length : Int))
    (rv14.1, rv14.2)
def validate_Variables_1 (n : Str) (cap0 : List (Str × Bool)) (cap1 : List Str) : (List (Str × Bool)) × List Str :=
  bif (n != (Str.mk [])) then
    bif (!((mget cap0 n).getD false)) then
      ((mset cap0 n true), (cap1 ++ [n]))
    else
      (cap0, cap1)
  else
    (cap0, cap1)
def validate_Variables_2_Variables_1_L0 (s : GStmt) : Nat → List (Str × Bool) → List Str → Int → (List (Str × Bool)) × List Str
  | 0, st00, st10, v12 =>
    (st00, st10)
  | r + 1, st00, st10, v12 =>
    let rv14 := (validate_Variables_1 (s.Uses.getD v12.toNat default) st00 st10)
    validate_Variables_2_Variables_1_L0 s r rv14.1 rv14.2 (v12 + 1)

def validate_Variables_2_Variables_1 (s : GStmt) (st0 : List (Str × Bool)) (st1 : List Str) : (List (Str × Bool)) × List Str :=
  let rv3 := (validate_Variables_1 s.Def st0 st1)
  match validate_Variables_2_Variables_1_L0 s (((s.Uses.length : Int) - 0).toNat) rv3.1 rv3.2 0 with
  | (o0_0, o0_1) =>
    (o0_0, o0_1)
def validate_each_Variables_2_L2  (v28 : List GStmt) : Nat → List (Str × Bool) → List Str → Int → (List (Str × Bool)) × List Str
  | 0, st10, st20, v30 =>
    (st10, st20)
  | r + 1, st10, st20, v30 =>
    let rv40 := (validate_Variables_2_Variables_1 (v28.getD v30.toNat default) st10 st20)
    validate_each_Variables_2_L2 v28 r rv40.1 rv40.2 (v30 + 1)

def validate_each_Variables_2_L1  (v21 : List GBlock) : Nat → List (Str × Bool) → List Str → Int → (List (Str × Bool)) × List Str
  | 0, st10, st20, v23 =>
    (st10, st20)
  | r + 1, st10, st20, v23 =>
    match validate_each_Variables_2_L2 ((v21.getD v23.toNat default).Stmts) ((((((v21.getD v23.toNat default).Stmts).length : Int) : Int) - 0).toNat) st10 st20 0 with
    | (o2_0, o2_1) =>
      validate_each_Variables_2_L1 v21 r o2_0 o2_1 (v23 + 1)

def validate_each_Variables_2_L0 (p : GProgram) : Nat → List (Str × Bool) → List Str → Int → (List (Str × Bool)) × List Str
  | 0, st10, st20, v16 =>
    (st10, st20)
  | r + 1, st10, st20, v16 =>
    match validate_each_Variables_2_L1 ((p.Funcs.getD v16.toNat default).Blocks) ((((((p.Funcs.getD v16.toNat default).Blocks).length : Int) : Int) - 0).toNat) st10 st20 0 with
    | (o1_0, o1_1) =>
      validate_each_Variables_2_L0 p r o1_0 o1_1 (v16 + 1)

def validate_each_Variables_2 (p : GProgram) (st1 : List (Str × Bool)) (st2 : List Str) : (List (Str × Bool)) × List Str :=
  let rv2 := (syntax_Valid p)
  bif (!rv2) then
    (st1, st2)
  else
    match validate_each_Variables_2_L0 p (((p.Funcs.length : Int) - 0).toNat) st1 st2 0 with
    | (o0_0, o0_1) =>
      (o0_0, o0_1)
def validate_Variables (p : GProgram) : List Str :=
  let rv8 := (validate_each_Variables_2 p [] [])
  rv8.2
def validate_duplicate_Func_L0 (l : List GFunc) (namep : GFunc → Str) : Nat → List (Str × Bool) → Int → Int → (List (Str × Bool)) × Int
  | 0, known, at_, v13 =>
    (known, at_)
  | r + 1, known, at_, v13 =>
    bif ((mget known (namep (l.getD v13.toNat default))).getD false) then
      bif decide (at_ < 0) then
        validate_duplicate_Func_L0 l namep r (mset known (namep (l.getD v13.toNat default)) true) v13 (v13 + 1)
      else
        validate_duplicate_Func_L0 l namep r (mset known (namep (l.getD v13.toNat default)) true) at_ (v13 + 1)
    else
      validate_duplicate_Func_L0 l namep r (mset known (namep (l.getD v13.toNat default)) true) at_ (v13 + 1)

def validate_duplicate_Func (l : List GFunc) (namep : GFunc → Str) : Int × (List (Str × Bool)) :=
  match validate_duplicate_Func_L0 l namep (((l.length : Int) - 0).toNat) [] (-1) 0 with
  | (o0_0, o0_1) =>
    (o0_1, o0_0)
def validate_Check_1 (f : GFunc) : Str :=
  f.Name
def validate_duplicate_Block_L0 (l : List GBlock) (namep : GBlock → Str) : Nat → List (Str × Bool) → Int → Int → (List (Str × Bool)) × Int
  | 0, known, at_, v13 =>
    (known, at_)
  | r + 1, known, at_, v13 =>
    bif ((mget known (namep (l.getD v13.toNat default))).getD false) then
      bif decide (at_ < 0) then
        validate_duplicate_Block_L0 l namep r (mset known (namep (l.getD v13.toNat default)) true) v13 (v13 + 1)
      else
        validate_duplicate_Block_L0 l namep r (mset known (namep (l.getD v13.toNat default)) true) at_ (v13 + 1)
    else
      validate_duplicate_Block_L0 l namep r (mset known (namep (l.getD v13.toNat default)) true) at_ (v13 + 1)

def validate_duplicate_Block (l : List GBlock) (namep : GBlock → Str) : Int × (List (Str × Bool)) :=
  match validate_duplicate_Block_L0 l namep (((l.length : Int) - 0).toNat) [] (-1) 0 with
  | (o0_0, o0_1) =>
    (o0_1, o0_0)
def validate_function_1 (b : GBlock) : Str :=
  b.Name
def validate_terminator (s : GStmt) : Bool :=
  bif (s.Op == 7) then
    true
  else
    bif (s.Op == 8) then
      true
    else
      (s.Op == 9)
def validate_statement_L0 (s : GStmt) (known : List (Str × Bool)) : Nat → Int → LR Unit Int
  | 0, v16 =>
    .brk ()
  | r + 1, v16 =>
    bif (!((mget known (s.Targets.getD v16.toNat default)).getD false)) then
      .ret 5
    else
      validate_statement_L0 s known r (v16 + 1)

def validate_statement (s : GStmt) (last : Bool) (known : List (Str × Bool)) : Int :=
  let rv2 := (validate_terminator s)
  bif (!(rv2 == last)) then
    4
  else
    match validate_statement_L0 s known (((s.Targets.length : Int) - 0).toNat) 0 with
    | .brk _ =>
      0
    | .ret r => r
    | .oof => default
def validate_function_L1 (i : Int) (funcs : List (Str × Bool)) (blocks : List (Str × Bool)) (k : Int) (b1 : List GStmt) (v36 : List GStmt) : Nat → Int → LR Unit (GNode × Int)
  | 0, v38 =>
    .brk ()
  | r + 1, v38 =>
    bif ((v36.getD v38.toNat default).Op == 3) then
      let rv34 := (validate_statement (v36.getD v38.toNat default) (v38 == ((b1.length : Int) - 1)) funcs)
      bif (rv34 != 0) then
        .ret ((GNode.mk 3 i k v38), rv34)
      else
        validate_function_L1 i funcs blocks k b1 v36 r (v38 + 1)
    else
      let rv42 := (validate_statement (v36.getD v38.toNat default) (v38 == ((b1.length : Int) - 1)) blocks)
      bif (rv42 != 0) then
        .ret ((GNode.mk 3 i k v38), rv42)
      else
        validate_function_L1 i funcs blocks k b1 v36 r (v38 + 1)

def validate_function_L0 (f : GFunc) (i : Int) (funcs : List (Str × Bool)) (blocks : List (Str × Bool)) : Nat → Int → LR Unit (GNode × Int)
  | 0, v30 =>
    .brk ()
  | r + 1, v30 =>
    match validate_function_L1 i funcs blocks v30 ((f.Blocks.getD v30.toNat default).Stmts) ((f.Blocks.getD v30.toNat default).Stmts) ((((((f.Blocks.getD v30.toNat default).Stmts).length : Int) : Int) - 0).toNat) 0 with
    | .brk _ =>
      validate_function_L0 f i funcs blocks r (v30 + 1)
    | .ret r => .ret r
    | .oof => .oof

def validate_function (f : GFunc) (i : Int) (funcs : List (Str × Bool)) : GNode × Int :=
  let rv4 := (validate_duplicate_Block f.Blocks (fun x0 => validate_function_1 x0))
  bif decide (0 ≤ rv4.1) then
    ((GNode.mk 3 i rv4.1 (-1)), 6)
  else
    match validate_function_L0 f i funcs rv4.2 (((f.Blocks.length : Int) - 0).toNat) 0 with
    | .brk _ =>
      ((GNode.mk 0 0 0 0), 0)
    | .ret r => r
    | .oof => default
def validate_Check_L0 (p : GProgram) (funcs : List (Str × Bool)) : Nat → Int → LR Unit (GNode × Int)
  | 0, v29 =>
    .brk ()
  | r + 1, v29 =>
    let rv29 := (validate_function (p.Funcs.getD v29.toNat default) v29 funcs)
    bif (rv29.2 != 0) then
      .ret (rv29.1, rv29.2)
    else
      validate_Check_L0 p funcs r (v29 + 1)

def validate_Check (p : GProgram) : GNode × Int :=
  let rv3 := (syntax_Valid p)
  bif (!rv3) then
    ((GNode.mk 0 0 0 0), 1)
  else
    let rv14 := (validate_duplicate_Func p.Funcs (fun x0 => validate_Check_1 x0))
    bif decide (0 ≤ rv14.1) then
      ((GNode.mk 1 rv14.1 (-1) (-1)), 6)
    else
      match validate_Check_L0 p rv14.2 (((p.Funcs.length : Int) - 0).toNat) 0 with
      | .brk _ =>
        let rv22 := (validate_Sizes p)
        let rv29 := (validate_Variables p)
        bif decide (64 < (rv29.length : Int)) then
          ((GNode.mk 0 0 0 0), 7)
        else
          bif decide (256 < rv22.1) then
            ((GNode.mk 0 0 0 0), 7)
          else
            bif decide (1024 < rv22.2) then
              ((GNode.mk 0 0 0 0), 7)
            else
              ((GNode.mk 0 0 0 0), 0)
      | .ret r => r
      | .oof => default
def flqref4_letter (c : Int) : Bool :=
  bif decide (97 ≤ c) then
    bif decide (c ≤ 122) then
      true
    else
      bif decide (65 ≤ c) then
        bif decide (c ≤ 90) then
          true
        else
          (c == 95)
      else
        (c == 95)
  else
    bif decide (65 ≤ c) then
      bif decide (c ≤ 90) then
        true
      else
        (c == 95)
    else
      (c == 95)
def flqref4_digit (c : Int) : Bool :=
  bif decide (48 ≤ c) then
    decide (c ≤ 57)
  else
    false
def flqref4_Scan_L1 (text : Str) (c : Int) : Nat → Int → Int → LR (Int × Int) (List GToken × Int × Int × Int)
  | 0, col, i =>
    .oof
  | r + 1, col, i =>
    bif (c == 35) then
      bif decide (i < (text.b.length : Int)) then
        bif (((text.b.getD i.toNat 0).toNat : Int) != 10) then
          flqref4_Scan_L1 text c r (col + 1) (i + 1)
        else
          .brk (col, i)
      else
        .brk (col, i)
    else
      .brk (col, i)

def flqref4_Scan_L2 (text : Str) (i : Int) : Nat → Int → LR Int (List GToken × Int × Int × Int)
  | 0, n =>
    .oof
  | r + 1, n =>
    bif decide ((i + n) < (text.b.length : Int)) then
      let rv172 := (flqref4_letter ((text.b.getD ((i + n) : Int).toNat 0).toNat : Int))
      bif rv172 then
        flqref4_Scan_L2 text i r (n + 1)
      else
        let rv179 := (flqref4_digit ((text.b.getD ((i + n) : Int).toNat 0).toNat : Int))
        bif rv179 then
          flqref4_Scan_L2 text i r (n + 1)
        else
          .brk n
    else
      .brk n

def flqref4_Scan_L0 (text : Str) : Nat → List GToken → Int → Int → Bool → Int → LR (List GToken × Int × Int × Bool) (List GToken × Int × Int × Int)
  | 0, out, line, col, open_, i =>
    .oof
  | r + 1, out, line, col, open_, i =>
    bif decide (i < (text.b.length : Int)) then
      bif (((text.b.getD i.toNat 0).toNat : Int) == 32) then
        flqref4_Scan_L0 text r out line (col + 1) open_ (i + 1)
      else
        bif (((text.b.getD i.toNat 0).toNat : Int) == 9) then
          flqref4_Scan_L0 text r out line (col + 1) open_ (i + 1)
        else
          bif (((text.b.getD i.toNat 0).toNat : Int) == 10) then
            bif open_ then
              match flqref4_Scan_L1 text ((text.b.getD i.toNat 0).toNat : Int) (text.b.length + 1) col i with
              | .brk (o1_0, o1_1) =>
                bif (((text.b.getD i.toNat 0).toNat : Int) == 59) then
                  bif decide ((o1_1 + 1) < (text.b.length : Int)) then
                    bif (((text.b.getD ((o1_1 + 1) : Int).toNat 0).toNat : Int) == 10) then
                      flqref4_Scan_L0 text r (out ++ [(GToken.mk 3 (Str.mk []) line col)]) line (o1_0 + 1) false (o1_1 + 1)
                    else
                      flqref4_Scan_L0 text r (out ++ [(GToken.mk 3 (Str.mk []) line col)]) line (o1_0 + 1) false (o1_1 + 1)
                  else
                    flqref4_Scan_L0 text r (out ++ [(GToken.mk 3 (Str.mk []) line col)]) line (o1_0 + 1) false (o1_1 + 1)
                else
                  bif decide (o1_1 < (text.b.length : Int)) then
                    bif (((text.b.getD o1_1.toNat 0).toNat : Int) == 10) then
                      flqref4_Scan_L0 text r (out ++ [(GToken.mk 3 (Str.mk []) line col)]) (line + 1) 1 false (o1_1 + 1)
                    else
                      flqref4_Scan_L0 text r (out ++ [(GToken.mk 3 (Str.mk []) line col)]) line o1_0 false o1_1
                  else
                    flqref4_Scan_L0 text r (out ++ [(GToken.mk 3 (Str.mk []) line col)]) line o1_0 false o1_1
              | .ret _ => .oof
              | .oof => .oof
            else
              match flqref4_Scan_L1 text ((text.b.getD i.toNat 0).toNat : Int) (text.b.length + 1) col i with
              | .brk (o1_0, o1_1) =>
                bif (((text.b.getD i.toNat 0).toNat : Int) == 59) then
                  bif decide ((o1_1 + 1) < (text.b.length : Int)) then
                    bif (((text.b.getD ((o1_1 + 1) : Int).toNat 0).toNat : Int) == 10) then
                      flqref4_Scan_L0 text r out line (o1_0 + 1) false (o1_1 + 1)
                    else
                      flqref4_Scan_L0 text r out line (o1_0 + 1) false (o1_1 + 1)
                  else
                    flqref4_Scan_L0 text r out line (o1_0 + 1) false (o1_1 + 1)
                else
                  bif decide (o1_1 < (text.b.length : Int)) then
                    bif (((text.b.getD o1_1.toNat 0).toNat : Int) == 10) then
                      flqref4_Scan_L0 text r out (line + 1) 1 false (o1_1 + 1)
                    else
                      flqref4_Scan_L0 text r out line o1_0 false o1_1
                  else
                    flqref4_Scan_L0 text r out line o1_0 false o1_1
              | .ret _ => .oof
              | .oof => .oof
          else
            bif (((text.b.getD i.toNat 0).toNat : Int) == 59) then
              bif open_ then
                match flqref4_Scan_L1 text ((text.b.getD i.toNat 0).toNat : Int) (text.b.length + 1) col i with
                | .brk (o1_0, o1_1) =>
                  bif decide ((o1_1 + 1) < (text.b.length : Int)) then
                    bif (((text.b.getD ((o1_1 + 1) : Int).toNat 0).toNat : Int) == 10) then
                      flqref4_Scan_L0 text r (out ++ [(GToken.mk 3 (Str.mk []) line col)]) line (o1_0 + 1) false (o1_1 + 1)
                    else
                      flqref4_Scan_L0 text r (out ++ [(GToken.mk 3 (Str.mk []) line col)]) line (o1_0 + 1) false (o1_1 + 1)
                  else
                    flqref4_Scan_L0 text r (out ++ [(GToken.mk 3 (Str.mk []) line col)]) line (o1_0 + 1) false (o1_1 + 1)
                | .ret _ => .oof
                | .oof => .oof
              else
                match flqref4_Scan_L1 text ((text.b.getD i.toNat 0).toNat : Int) (text.b.length + 1) col i with
                | .brk (o1_0, o1_1) =>
                  bif decide ((o1_1 + 1) < (text.b.length : Int)) then
                    bif (((text.b.getD ((o1_1 + 1) : Int).toNat 0).toNat : Int) == 10) then
                      flqref4_Scan_L0 text r out line (o1_0 + 1) false (o1_1 + 1)
                    else
                      flqref4_Scan_L0 text r out line (o1_0 + 1) false (o1_1 + 1)
                  else
                    flqref4_Scan_L0 text r out line (o1_0 + 1) false (o1_1 + 1)
                | .ret _ => .oof
                | .oof => .oof
            else
              bif (((text.b.getD i.toNat 0).toNat : Int) == 35) then
                bif open_ then
                  match flqref4_Scan_L1 text ((text.b.getD i.toNat 0).toNat : Int) (text.b.length + 1) col i with
                  | .brk (o1_0, o1_1) =>
                    bif decide (o1_1 < (text.b.length : Int)) then
                      bif (((text.b.getD o1_1.toNat 0).toNat : Int) == 10) then
                        flqref4_Scan_L0 text r (out ++ [(GToken.mk 3 (Str.mk []) line col)]) (line + 1) 1 false (o1_1 + 1)
                      else
                        flqref4_Scan_L0 text r (out ++ [(GToken.mk 3 (Str.mk []) line col)]) line o1_0 false o1_1
                    else
                      flqref4_Scan_L0 text r (out ++ [(GToken.mk 3 (Str.mk []) line col)]) line o1_0 false o1_1
                  | .ret _ => .oof
                  | .oof => .oof
                else
                  match flqref4_Scan_L1 text ((text.b.getD i.toNat 0).toNat : Int) (text.b.length + 1) col i with
                  | .brk (o1_0, o1_1) =>
                    bif decide (o1_1 < (text.b.length : Int)) then
                      bif (((text.b.getD o1_1.toNat 0).toNat : Int) == 10) then
                        flqref4_Scan_L0 text r out (line + 1) 1 false (o1_1 + 1)
                      else
                        flqref4_Scan_L0 text r out line o1_0 false o1_1
                    else
                      flqref4_Scan_L0 text r out line o1_0 false o1_1
                  | .ret _ => .oof
                  | .oof => .oof
              else
                bif (((text.b.getD i.toNat 0).toNat : Int) == 61) then
                  flqref4_Scan_L0 text r (out ++ [(GToken.mk 2 (Str.mk [61]) line col)]) line (col + 1) true (i + 1)
                else
                  let rv164 := (flqref4_letter ((text.b.getD i.toNat 0).toNat : Int))
                  bif rv164 then
                    match flqref4_Scan_L2 text i (text.b.length + 1) 0 with
                    | .brk o2_0 =>
                      let rv170 := (flqref4_digit ((text.b.getD i.toNat 0).toNat : Int))
                      bif rv170 then
                        .ret ([], line, col, 4)
                      else
                        bif decide (16 < o2_0) then
                          .ret ([], line, col, 7)
                        else
                          flqref4_Scan_L0 text r (out ++ [(GToken.mk 1 (text.sub i.toNat ((i + o2_0) : Int).toNat) line col)]) line (col + o2_0) true (i + o2_0)
                    | .ret _ => .oof
                    | .oof => .oof
                  else
                    let rv189 := (flqref4_digit ((text.b.getD i.toNat 0).toNat : Int))
                    bif rv189 then
                      match flqref4_Scan_L2 text i (text.b.length + 1) 0 with
                      | .brk o2_0 =>
                        .ret ([], line, col, 4)
                      | .ret _ => .oof
                      | .oof => .oof
                    else
                      .ret ([], line, col, 4)
    else
      .brk (out, line, col, open_)

def flqref4_Scan (text : Str) : List GToken × Int × Int × Int :=
  bif decide (4096 < (text.b.length : Int)) then
    ([], 0, 0, 7)
  else
    match flqref4_Scan_L0 text (text.b.length + 1) [] 1 1 false 0 with
    | .brk (o0_0, o0_1, o0_2, o0_3) =>
      bif o0_3 then
        ((o0_0 ++ [(GToken.mk 3 (Str.mk []) o0_1 o0_2)]), 0, 0, 0)
      else
        (o0_0, 0, 0, 0)
    | .ret r => r
    | .oof => default
def parser_is (p : Gparser) (word : Str) : Bool :=
  bif (p.Err == 0) then
    bif decide (p.at_ < (p.l.length : Int)) then
      bif ((p.l.getD p.at_.toNat default).Kind == 1) then
        ((p.l.getD p.at_.toNat default).Text == word)
      else
        false
    else
      false
  else
    false
def parser_fail (p : Gparser) (e : Int) : Gparser :=
  bif (p.Err == 0) then
    (Gparser.mk p.l p.at_ e)
  else
    p
def parser_word (p : Gparser) (w : Str) : Gparser :=
  let rv1 := (parser_is p w)
  bif (!rv1) then
    let rv8 := (parser_fail p 4)
    (Gparser.mk p.l rv8.at_ rv8.Err)
  else
    (Gparser.mk p.l (p.at_ + 1) p.Err)
def flqref4_Keywords  : List Str :=
  [(Str.mk [102, 117, 110, 99]), (Str.mk [98, 108, 111, 99, 107]), (Str.mk [101, 110, 100]), (Str.mk [117, 115, 101]), (Str.mk [99, 97, 108, 108]), (Str.mk [115, 111, 117, 114, 99, 101]), (Str.mk [115, 105, 110, 107]), (Str.mk [115, 97, 110, 105, 116, 105, 122, 101]), (Str.mk [103, 111, 116, 111]), (Str.mk [98, 114, 97, 110, 99, 104]), (Str.mk [114, 101, 116, 117, 114, 110])]
def flqref4_IsName_L0 (s : Str) : Nat → Int → LR Unit Bool
  | 0, i =>
    .brk ()
  | r + 1, i =>
    let rv25 := (flqref4_letter ((s.b.getD i.toNat 0).toNat : Int))
    bif (!rv25) then
      let rv33 := (flqref4_digit ((s.b.getD i.toNat 0).toNat : Int))
      bif (!rv33) then
        .ret false
      else
        flqref4_IsName_L0 s r (i + 1)
    else
      flqref4_IsName_L0 s r (i + 1)

def flqref4_IsName_L1 (s : Str) : Nat → Int → LR Unit Bool
  | 0, i =>
    .brk ()
  | r + 1, i =>
    bif ((flqref4_Keywords.getD i.toNat default) == s) then
      .ret false
    else
      flqref4_IsName_L1 s r (i + 1)

def flqref4_IsName (s : Str) : Bool :=
  bif ((s.b.length : Int) == 0) then
    false
  else
    bif decide (16 < (s.b.length : Int)) then
      false
    else
      let rv8 := (flqref4_letter ((s.b.getD (0 : Int).toNat 0).toNat : Int))
      bif (!rv8) then
        false
      else
        bif (((s.b.getD (0 : Int).toNat 0).toNat : Int) == 95) then
          false
        else
          match flqref4_IsName_L0 s (((s.b.length : Int) - 0).toNat) 0 with
          | .brk _ =>
            match flqref4_IsName_L1 s (((flqref4_Keywords.length : Int) - 0).toNat) 0 with
            | .brk _ =>
              true
            | .ret r => r
            | .oof => default
          | .ret r => r
          | .oof => default
def parser_isName (p : Gparser) : Bool :=
  bif (p.Err == 0) then
    bif decide (p.at_ < (p.l.length : Int)) then
      bif ((p.l.getD p.at_.toNat default).Kind == 1) then
        let rv11 := (flqref4_IsName ((p.l.getD p.at_.toNat default).Text))
        rv11
      else
        false
    else
      false
  else
    false
def parser_name (p : Gparser) : Str × Gparser :=
  let rv1 := (parser_isName p)
  bif (!rv1) then
    let rv8 := (parser_fail p 4)
    ((Str.mk []), (Gparser.mk p.l rv8.at_ rv8.Err))
  else
    ((p.l.getD (((p.at_ + 1) - 1) : Int).toNat default).Text, (Gparser.mk p.l (p.at_ + 1) p.Err))
def parser_isKind (p : Gparser) (k : Int) : Bool :=
  bif (p.Err == 0) then
    bif decide (p.at_ < (p.l.length : Int)) then
      ((p.l.getD p.at_.toNat default).Kind == k)
    else
      false
  else
    false
def parser_end (p : Gparser) : Gparser :=
  let rv1 := (parser_isKind p 3)
  bif (!rv1) then
    let rv8 := (parser_fail p 4)
    (Gparser.mk p.l rv8.at_ rv8.Err)
  else
    (Gparser.mk p.l (p.at_ + 1) p.Err)
def parser_begins_L0 (p : Gparser) : Nat → Int → LR Unit Bool
  | 0, i =>
    .brk ()
  | r + 1, i =>
    let rv8 := (parser_is p ([(Str.mk [117, 115, 101]), (Str.mk [99, 97, 108, 108]), (Str.mk [115, 111, 117, 114, 99, 101]), (Str.mk [115, 105, 110, 107]), (Str.mk [115, 97, 110, 105, 116, 105, 122, 101]), (Str.mk [103, 111, 116, 111]), (Str.mk [98, 114, 97, 110, 99, 104]), (Str.mk [114, 101, 116, 117, 114, 110])].getD i.toNat default))
    bif rv8 then
      .ret true
    else
      parser_begins_L0 p r (i + 1)

def parser_begins (p : Gparser) : Bool :=
  match parser_begins_L0 p (((((8 : Nat) : Int) : Int) - 0).toNat) 0 with
  | .brk _ =>
    let rv6 := (parser_isName p)
    rv6
  | .ret r => r
  | .oof => default
def parser_more_L0 (p : Gparser) (have_ : Int) : Nat → Int → Int → List Str → LR (Int × Int × List Str) (List Str × Gparser)
  | 0, p1, p2, out =>
    .oof
  | r + 1, p1, p2, out =>
    let rv1 := (parser_isName (Gparser.mk p.l p1 p2))
    bif rv1 then
      bif ((have_ + (out.length : Int)) == 4) then
        let rv8 := (parser_fail (Gparser.mk p.l p1 p2) 7)
        .ret ([], (Gparser.mk p.l rv8.at_ rv8.Err))
      else
        let rv15 := (parser_name (Gparser.mk p.l p1 p2))
        parser_more_L0 p have_ r rv15.2.at_ rv15.2.Err (out ++ [rv15.1])
    else
      .brk (p1, p2, out)

def parser_more (p : Gparser) (have_ : Int) : List Str × Gparser :=
  match parser_more_L0 p have_ (p.l.length + 1) p.at_ p.Err [] with
  | .brk (o0_0, o0_1, o0_2) =>
    (o0_2, (Gparser.mk p.l o0_0 o0_1))
  | .ret r => r
  | .oof => default
def parser_names_L0 (p : Gparser) : Nat → Int → Int → List Str → LR (Int × Int × List Str) (List Str × Gparser)
  | 0, p1, p2, out =>
    .oof
  | r + 1, p1, p2, out =>
    let rv1 := (parser_isName (Gparser.mk p.l p1 p2))
    bif rv1 then
      bif ((out.length : Int) == 4) then
        let rv8 := (parser_fail (Gparser.mk p.l p1 p2) 7)
        .ret ([], (Gparser.mk p.l rv8.at_ rv8.Err))
      else
        let rv15 := (parser_name (Gparser.mk p.l p1 p2))
        parser_names_L0 p r rv15.2.at_ rv15.2.Err (out ++ [rv15.1])
    else
      .brk (p1, p2, out)

def parser_names (p : Gparser) : List Str × Gparser :=
  match parser_names_L0 p (p.l.length + 1) p.at_ p.Err [] with
  | .brk (o0_0, o0_1, o0_2) =>
    (o0_2, (Gparser.mk p.l o0_0 o0_1))
  | .ret r => r
  | .oof => default
def parser_stmt (p : Gparser) : GStmt × Gparser :=
  let rv3 := (parser_isName p)
  bif (!rv3) then
    bif ((p.l.getD p.at_.toNat default).Text == (Str.mk [117, 115, 101])) then
      let rv16 := (parser_name (Gparser.mk p.l (p.at_ + 1) p.Err))
      let rv27 := (parser_more (Gparser.mk p.l rv16.2.at_ rv16.2.Err) 1)
      let rv44 := (parser_end (Gparser.mk p.l rv27.2.at_ rv27.2.Err))
      ((GStmt.mk 2 (Str.mk []) ([rv16.1] ++ rv27.1) []), (Gparser.mk p.l rv44.at_ rv44.Err))
    else
      bif ((p.l.getD p.at_.toNat default).Text == (Str.mk [99, 97, 108, 108])) then
        let rv53 := (parser_name (Gparser.mk p.l (p.at_ + 1) p.Err))
        let rv63 := (parser_end (Gparser.mk p.l rv53.2.at_ rv53.2.Err))
        ((GStmt.mk 3 (Str.mk []) [] [rv53.1]), (Gparser.mk p.l rv63.at_ rv63.Err))
      else
        bif ((p.l.getD p.at_.toNat default).Text == (Str.mk [115, 111, 117, 114, 99, 101])) then
          let rv72 := (parser_name (Gparser.mk p.l (p.at_ + 1) p.Err))
          let rv79 := (parser_end (Gparser.mk p.l rv72.2.at_ rv72.2.Err))
          ((GStmt.mk 4 rv72.1 [] []), (Gparser.mk p.l rv79.at_ rv79.Err))
        else
          bif ((p.l.getD p.at_.toNat default).Text == (Str.mk [115, 105, 110, 107])) then
            let rv88 := (parser_name (Gparser.mk p.l (p.at_ + 1) p.Err))
            let rv98 := (parser_end (Gparser.mk p.l rv88.2.at_ rv88.2.Err))
            ((GStmt.mk 5 (Str.mk []) [rv88.1] []), (Gparser.mk p.l rv98.at_ rv98.Err))
          else
            bif ((p.l.getD p.at_.toNat default).Text == (Str.mk [115, 97, 110, 105, 116, 105, 122, 101])) then
              let rv107 := (parser_name (Gparser.mk p.l (p.at_ + 1) p.Err))
              let rv114 := (parser_end (Gparser.mk p.l rv107.2.at_ rv107.2.Err))
              ((GStmt.mk 6 rv107.1 [] []), (Gparser.mk p.l rv114.at_ rv114.Err))
            else
              bif ((p.l.getD p.at_.toNat default).Text == (Str.mk [103, 111, 116, 111])) then
                let rv123 := (parser_name (Gparser.mk p.l (p.at_ + 1) p.Err))
                let rv133 := (parser_end (Gparser.mk p.l rv123.2.at_ rv123.2.Err))
                ((GStmt.mk 7 (Str.mk []) [] [rv123.1]), (Gparser.mk p.l rv133.at_ rv133.Err))
              else
                bif ((p.l.getD p.at_.toNat default).Text == (Str.mk [98, 114, 97, 110, 99, 104])) then
                  let rv142 := (parser_name (Gparser.mk p.l (p.at_ + 1) p.Err))
                  let rv152 := (parser_name (Gparser.mk p.l rv142.2.at_ rv142.2.Err))
                  let rv162 := (parser_name (Gparser.mk p.l rv152.2.at_ rv152.2.Err))
                  let rv178 := (parser_end (Gparser.mk p.l rv162.2.at_ rv162.2.Err))
                  ((GStmt.mk 8 (Str.mk []) [rv142.1] ([rv152.1] ++ [rv162.1])), (Gparser.mk p.l rv178.at_ rv178.Err))
                else
                  bif ((p.l.getD p.at_.toNat default).Text == (Str.mk [114, 101, 116, 117, 114, 110])) then
                    let rv187 := (parser_end (Gparser.mk p.l (p.at_ + 1) p.Err))
                    ((GStmt.mk 9 (Str.mk []) [] []), (Gparser.mk p.l rv187.at_ rv187.Err))
                  else
                    let rv194 := (parser_name (Gparser.mk p.l (p.at_ + 1) p.Err))
                    let rv201 := (parser_isKind (Gparser.mk p.l rv194.2.at_ rv194.2.Err) 2)
                    bif (!rv201) then
                      let rv208 := (parser_fail (Gparser.mk p.l rv194.2.at_ rv194.2.Err) 4)
                      ((GStmt.mk 1 rv194.1 [] []), (Gparser.mk p.l rv208.at_ rv208.Err))
                    else
                      let rv218 := (parser_names (Gparser.mk p.l (rv194.2.at_ + 1) rv194.2.Err))
                      let rv229 := (parser_end (Gparser.mk p.l rv218.2.at_ rv218.2.Err))
                      ((GStmt.mk 1 rv194.1 rv218.1 []), (Gparser.mk p.l rv229.at_ rv229.Err))
  else
    bif ((Str.mk []) == (Str.mk [117, 115, 101])) then
      let rv240 := (parser_name p)
      let rv251 := (parser_more (Gparser.mk p.l rv240.2.at_ rv240.2.Err) 1)
      let rv268 := (parser_end (Gparser.mk p.l rv251.2.at_ rv251.2.Err))
      ((GStmt.mk 2 (Str.mk []) ([rv240.1] ++ rv251.1) []), (Gparser.mk p.l rv268.at_ rv268.Err))
    else
      bif ((Str.mk []) == (Str.mk [99, 97, 108, 108])) then
        let rv277 := (parser_name p)
        let rv287 := (parser_end (Gparser.mk p.l rv277.2.at_ rv277.2.Err))
        ((GStmt.mk 3 (Str.mk []) [] [rv277.1]), (Gparser.mk p.l rv287.at_ rv287.Err))
      else
        bif ((Str.mk []) == (Str.mk [115, 111, 117, 114, 99, 101])) then
          let rv296 := (parser_name p)
          let rv303 := (parser_end (Gparser.mk p.l rv296.2.at_ rv296.2.Err))
          ((GStmt.mk 4 rv296.1 [] []), (Gparser.mk p.l rv303.at_ rv303.Err))
        else
          bif ((Str.mk []) == (Str.mk [115, 105, 110, 107])) then
            let rv312 := (parser_name p)
            let rv322 := (parser_end (Gparser.mk p.l rv312.2.at_ rv312.2.Err))
            ((GStmt.mk 5 (Str.mk []) [rv312.1] []), (Gparser.mk p.l rv322.at_ rv322.Err))
          else
            bif ((Str.mk []) == (Str.mk [115, 97, 110, 105, 116, 105, 122, 101])) then
              let rv331 := (parser_name p)
              let rv338 := (parser_end (Gparser.mk p.l rv331.2.at_ rv331.2.Err))
              ((GStmt.mk 6 rv331.1 [] []), (Gparser.mk p.l rv338.at_ rv338.Err))
            else
              bif ((Str.mk []) == (Str.mk [103, 111, 116, 111])) then
                let rv347 := (parser_name p)
                let rv357 := (parser_end (Gparser.mk p.l rv347.2.at_ rv347.2.Err))
                ((GStmt.mk 7 (Str.mk []) [] [rv347.1]), (Gparser.mk p.l rv357.at_ rv357.Err))
              else
                bif ((Str.mk []) == (Str.mk [98, 114, 97, 110, 99, 104])) then
                  let rv366 := (parser_name p)
                  let rv376 := (parser_name (Gparser.mk p.l rv366.2.at_ rv366.2.Err))
                  let rv386 := (parser_name (Gparser.mk p.l rv376.2.at_ rv376.2.Err))
                  let rv402 := (parser_end (Gparser.mk p.l rv386.2.at_ rv386.2.Err))
                  ((GStmt.mk 8 (Str.mk []) [rv366.1] ([rv376.1] ++ [rv386.1])), (Gparser.mk p.l rv402.at_ rv402.Err))
                else
                  bif ((Str.mk []) == (Str.mk [114, 101, 116, 117, 114, 110])) then
                    let rv411 := (parser_end p)
                    ((GStmt.mk 9 (Str.mk []) [] []), (Gparser.mk p.l rv411.at_ rv411.Err))
                  else
                    let rv418 := (parser_name p)
                    let rv425 := (parser_isKind (Gparser.mk p.l rv418.2.at_ rv418.2.Err) 2)
                    bif (!rv425) then
                      let rv432 := (parser_fail (Gparser.mk p.l rv418.2.at_ rv418.2.Err) 4)
                      ((GStmt.mk 1 rv418.1 [] []), (Gparser.mk p.l rv432.at_ rv432.Err))
                    else
                      let rv442 := (parser_names (Gparser.mk p.l (rv418.2.at_ + 1) rv418.2.Err))
                      let rv453 := (parser_end (Gparser.mk p.l rv442.2.at_ rv442.2.Err))
                      ((GStmt.mk 1 rv418.1 rv442.1 []), (Gparser.mk p.l rv453.at_ rv453.Err))
def parser_block_L0 (p : Gparser) (b0 : Str) : Nat → Int → Int → List GStmt → LR (Int × Int × List GStmt) (GBlock × Gparser)
  | 0, p1, p2, b1 =>
    .oof
  | r + 1, p1, p2, b1 =>
    let rv35 := (parser_begins (Gparser.mk p.l p1 p2))
    bif rv35 then
      bif ((b1.length : Int) == 32) then
        let rv42 := (parser_fail (Gparser.mk p.l p1 p2) 7)
        .ret ((GBlock.mk b0 b1), (Gparser.mk p.l rv42.at_ rv42.Err))
      else
        let rv51 := (parser_stmt (Gparser.mk p.l p1 p2))
        parser_block_L0 p b0 r rv51.2.at_ rv51.2.Err (b1 ++ [rv51.1])
    else
      .brk (p1, p2, b1)

def parser_block (p : Gparser) : GBlock × Gparser :=
  let rv3 := (parser_word p (Str.mk [98, 108, 111, 99, 107]))
  let rv9 := (parser_name (Gparser.mk p.l rv3.at_ rv3.Err))
  let rv16 := (parser_end (Gparser.mk p.l rv9.2.at_ rv9.2.Err))
  let rv22 := (parser_begins (Gparser.mk p.l rv16.at_ rv16.Err))
  bif (!rv22) then
    let rv29 := (parser_fail (Gparser.mk p.l rv16.at_ rv16.Err) 4)
    match parser_block_L0 p rv9.1 (p.l.length + 1) rv29.at_ rv29.Err [] with
    | .brk (o0_0, o0_1, o0_2) =>
      ((GBlock.mk rv9.1 o0_2), (Gparser.mk p.l o0_0 o0_1))
    | .ret r => r
    | .oof => default
  else
    match parser_block_L0 p rv9.1 (p.l.length + 1) rv16.at_ rv16.Err [] with
    | .brk (o0_0, o0_1, o0_2) =>
      ((GBlock.mk rv9.1 o0_2), (Gparser.mk p.l o0_0 o0_1))
    | .ret r => r
    | .oof => default
def parser_function_L0 (p : Gparser) (f0 : Str) : Nat → Int → Int → List GBlock → LR (Int × Int × List GBlock) (GFunc × Gparser)
  | 0, p1, p2, f1 =>
    .oof
  | r + 1, p1, p2, f1 =>
    let rv35 := (parser_is (Gparser.mk p.l p1 p2) (Str.mk [98, 108, 111, 99, 107]))
    bif rv35 then
      bif ((f1.length : Int) == 16) then
        let rv42 := (parser_fail (Gparser.mk p.l p1 p2) 7)
        .ret ((GFunc.mk f0 f1), (Gparser.mk p.l rv42.at_ rv42.Err))
      else
        let rv50 := (parser_block (Gparser.mk p.l p1 p2))
        parser_function_L0 p f0 r rv50.2.at_ rv50.2.Err (f1 ++ [rv50.1])
    else
      .brk (p1, p2, f1)

def parser_function (p : Gparser) : GFunc × Gparser :=
  let rv3 := (parser_word p (Str.mk [102, 117, 110, 99]))
  let rv9 := (parser_name (Gparser.mk p.l rv3.at_ rv3.Err))
  let rv16 := (parser_end (Gparser.mk p.l rv9.2.at_ rv9.2.Err))
  let rv22 := (parser_is (Gparser.mk p.l rv16.at_ rv16.Err) (Str.mk [98, 108, 111, 99, 107]))
  bif (!rv22) then
    let rv29 := (parser_fail (Gparser.mk p.l rv16.at_ rv16.Err) 4)
    match parser_function_L0 p rv9.1 (p.l.length + 1) rv29.at_ rv29.Err [] with
    | .brk (o0_0, o0_1, o0_2) =>
      let rv40 := (parser_word (Gparser.mk p.l o0_0 o0_1) (Str.mk [101, 110, 100]))
      let rv46 := (parser_end (Gparser.mk p.l rv40.at_ rv40.Err))
      ((GFunc.mk rv9.1 o0_2), (Gparser.mk p.l rv46.at_ rv46.Err))
    | .ret r => r
    | .oof => default
  else
    match parser_function_L0 p rv9.1 (p.l.length + 1) rv16.at_ rv16.Err [] with
    | .brk (o0_0, o0_1, o0_2) =>
      let rv60 := (parser_word (Gparser.mk p.l o0_0 o0_1) (Str.mk [101, 110, 100]))
      let rv66 := (parser_end (Gparser.mk p.l rv60.at_ rv60.Err))
      ((GFunc.mk rv9.1 o0_2), (Gparser.mk p.l rv66.at_ rv66.Err))
    | .ret r => r
    | .oof => default
def flqref4_Parse_L0  (p0 : List GToken) : Nat → Int → Int → List GFunc → LR (Int × Int × List GFunc) (GProgram × Int × Int × Int)
  | 0, p1, p2, out0 =>
    .oof
  | r + 1, p1, p2, out0 =>
    let rv30 := (parser_is (Gparser.mk p0 p1 p2) (Str.mk [102, 117, 110, 99]))
    bif rv30 then
      bif ((out0.length : Int) == 8) then
        let rv37 := (parser_fail (Gparser.mk p0 p1 p2) 7)
        .brk (rv37.at_, rv37.Err, out0)
      else
        let rv45 := (parser_function (Gparser.mk p0 p1 p2))
        flqref4_Parse_L0 p0 r rv45.2.at_ rv45.2.Err (out0 ++ [rv45.1])
    else
      .brk (p1, p2, out0)

def flqref4_Parse (text : Str) : GProgram × Int × Int × Int :=
  let rv3 := (flqref4_Scan text)
  bif (rv3.2.2.2 != 0) then
    ((GProgram.mk []), rv3.2.1, rv3.2.2.1, rv3.2.2.2)
  else
    let rv17 := (parser_is (Gparser.mk rv3.1 0 0) (Str.mk [102, 117, 110, 99]))
    bif (!rv17) then
      let rv24 := (parser_fail (Gparser.mk rv3.1 0 0) 4)
      match flqref4_Parse_L0 rv3.1 (rv3.1.length + 1) rv24.at_ rv24.Err [] with
      | .brk (o0_0, o0_1, o0_2) =>
        bif (o0_1 == 0) then
          bif decide (o0_0 < (rv3.1.length : Int)) then
            let rv39 := (parser_fail (Gparser.mk rv3.1 o0_0 o0_1) 4)
            bif (rv39.Err == 0) then
              ((GProgram.mk o0_2), 0, 0, 0)
            else
              bif decide (rv39.at_ < (rv3.1.length : Int)) then
                ((GProgram.mk []), (rv3.1.getD rv39.at_.toNat default).Line, (rv3.1.getD rv39.at_.toNat default).Col, rv39.Err)
              else
                ((GProgram.mk []), 0, 0, rv39.Err)
          else
            ((GProgram.mk o0_2), 0, 0, 0)
        else
          bif decide (o0_0 < (rv3.1.length : Int)) then
            ((GProgram.mk []), (rv3.1.getD o0_0.toNat default).Line, (rv3.1.getD o0_0.toNat default).Col, o0_1)
          else
            ((GProgram.mk []), 0, 0, o0_1)
      | .ret _ => default
      | .oof => default
    else
      match flqref4_Parse_L0 rv3.1 (rv3.1.length + 1) 0 0 [] with
      | .brk (o0_0, o0_1, o0_2) =>
        bif (o0_1 == 0) then
          bif decide (o0_0 < (rv3.1.length : Int)) then
            let rv80 := (parser_fail (Gparser.mk rv3.1 o0_0 o0_1) 4)
            bif (rv80.Err == 0) then
              ((GProgram.mk o0_2), 0, 0, 0)
            else
              bif decide (rv80.at_ < (rv3.1.length : Int)) then
                ((GProgram.mk []), (rv3.1.getD rv80.at_.toNat default).Line, (rv3.1.getD rv80.at_.toNat default).Col, rv80.Err)
              else
                ((GProgram.mk []), 0, 0, rv80.Err)
          else
            ((GProgram.mk o0_2), 0, 0, 0)
        else
          bif decide (o0_0 < (rv3.1.length : Int)) then
            ((GProgram.mk []), (rv3.1.getD o0_0.toNat default).Line, (rv3.1.getD o0_0.toNat default).Col, o0_1)
          else
            ((GProgram.mk []), 0, 0, o0_1)
      | .ret _ => default
      | .oof => default
def flqlaw6_sane  : Bool :=
  let rv2 := (flqref4_Parse (Str.mk [102, 117, 110, 99, 32, 109, 59, 32, 98, 108, 111, 99, 107, 32, 98, 59, 32, 120, 32, 61, 32, 121, 59, 32, 101, 110, 100]))
  let rv13 := (flqref4_Parse (Str.mk [102, 117, 110, 99, 32, 109, 59, 32, 98, 108, 111, 99, 107, 32, 98, 59, 32, 103, 111, 116, 111, 32, 99, 59, 32, 101, 110, 100]))
  let rv24 := (flqref4_Parse (Str.mk [102, 117, 110, 99, 32, 109, 59, 32, 98, 108, 111, 99, 107, 32, 98, 59, 32, 99, 97, 108, 108, 32, 109, 59, 32, 114, 101, 116, 117, 114, 110, 59, 32, 101, 110, 100]))
  let rv34 := (validate_Check rv2.1)
  let rv43 := (validate_Check rv13.1)
  let rv52 := (validate_Check rv24.1)
  let rv61 := (validate_Sizes rv24.1)
  bif (rv34.2 == 4) then
    bif ([rv34.1.Kind, rv34.1.Func, rv34.1.Block, rv34.1.Stmt] == [3, 0, 0, 0]) then
      bif (rv43.2 == 5) then
        bif ([rv43.1.Kind, rv43.1.Func, rv43.1.Block, rv43.1.Stmt] == [3, 0, 0, 0]) then
          bif (rv52.2 == 0) then
            bif (rv61.1 == 5) then
              (rv61.2 == 5)
            else
              false
          else
            false
        else
          false
      else
        false
    else
      false
  else
    false
def flqref1_Decimal_L0  : Nat → Int → Str → LR Str Str
  | 0, n', s =>
    .oof
  | r + 1, n', s =>
    bif decide (0 < n') then
      flqref1_Decimal_L0 r (n' / 10) (((Str.mk [48, 49, 50, 51, 52, 53, 54, 55, 56, 57]).sub ((n' % 10) : Int).toNat (((n' % 10) + 1) : Int).toNat) ++ s)
    else
      .brk s

def flqref1_Decimal (n : Int) : Str :=
  match flqref1_Decimal_L0 ((n / 10).toNat + 1) (n / 10) ((Str.mk [48, 49, 50, 51, 52, 53, 54, 55, 56, 57]).sub ((n % 10) : Int).toNat (((n % 10) + 1) : Int).toNat) with
  | .brk o0_0 =>
    o0_0
  | .ret _ => default
  | .oof => default
def flqref4_Quoted (n : Int) : Str :=
  let rv1 := (flqref1_Decimal n)
  rv1
def flqlaw6_ValidateLimits_L1  : Nat → Int → List GStmt → Int × List GStmt
  | 0, left, b1 =>
    (left, b1)
  | r + 1, left, b1 =>
    bif decide ((b1.length : Int) < 31) then
      flqlaw6_ValidateLimits_L1 r (left - 1) (b1 ++ [(GStmt.mk 2 (Str.mk []) [(Str.mk [120])] [])])
    else
      (left, b1)

def flqlaw6_ValidateLimits_L0  : Nat → List GBlock → Int → LR (List GBlock) Bool
  | 0, f1, left =>
    .oof
  | r + 1, f1, left =>
    bif decide (0 < left) then
      let rv4 := (flqref4_Quoted (f1.length : Int))
      match flqlaw6_ValidateLimits_L1 (((left : Int) - 1).toNat) left [] with
      | (o1_0, o1_1) =>
        flqlaw6_ValidateLimits_L0 r (f1 ++ [(GBlock.mk ((Str.mk [98]) ++ rv4) (o1_1 ++ [(GStmt.mk 9 (Str.mk []) [] [])]))]) (o1_0 - 1)
    else
      .brk f1

def flqlaw6_ValidateLimits (n : Int) : Bool :=
  match flqlaw6_ValidateLimits_L0 300 [] (252 + (n % 4)) with
  | .brk o0_0 =>
    let rv8 := (validate_Check (GProgram.mk [(GFunc.mk (Str.mk [102]) o0_0)]))
    bif ((rv8.2 == 0) == (decide ((n % 4) ≤ 2))) then
      bif decide ((n % 4) ≤ 2) then
        flqlaw6_sane
      else
        bif (rv8.2 == 7) then
          flqlaw6_sane
        else
          false
    else
      false
  | .ret _ => default
  | .oof => default
theorem scan' {σ : Type} (f : Nat → Int → LR σ Int) (p : Int → Bool) (c : σ) (h0 : ∀ i, f 0 i = .brk c) (h1 : ∀ r i, f (r + 1) i = bif p i then .ret i else f r (i + 1)) :
    ∀ (m : Nat) (i : Int), (∃ j, f m i = .ret j ∧ i ≤ j ∧ j < i + m ∧ p j = true) ∨ (f m i = .brk c ∧ ∀ j, i ≤ j → j < i + m → p j = false)
  | 0, i => .inr ⟨h0 i, fun j h1 h2 => by omega⟩
  | m + 1, i => by
    rw [h1]
    cases hp : p i with
    | true => exact .inl ⟨i, rfl, by omega, by omega, hp⟩
    | false =>
      rcases scan' f p c h0 h1 m (i + 1) with ⟨j, e, j1, j2, j3⟩ | ⟨e, h⟩
      · exact .inl ⟨j, e, by omega, by omega, j3⟩
      · refine .inr ⟨e, fun j j1 j2 => ?_⟩
        rcases Int.lt_or_eq_of_le j1 with hlt | rfl
        · exact h j (by omega) (by omega)
        · exact hp
theorem mem_getDg {α : Type} {l : List α} {n d : α} : n ∈ l ↔ ∃ j : Int, 0 ≤ j ∧ j < (l.length : Int) ∧ l.getD j.toNat d = n := by
  constructor
  · intro h
    obtain ⟨i, hi, e⟩ := List.getElem_of_mem h
    exact ⟨(i : Int), by omega, by omega, by simp [List.getD, hi, e]⟩
  · rintro ⟨j, j1, j2, rfl⟩
    exact getD_mem (by omega)
theorem allL {α R : Type} [Inhabited α] {P : α → Bool} {l : List α} {no : R} (L : Nat → Int → LR Unit R) (h0 : ∀ i, L 0 i = .brk ()) (h1 : ∀ r (i : Int), 0 ≤ i → i < (l.length : Int) → L (r + 1) i = if P (l.getD i.toNat default) = true then L r (i + 1) else .ret no) :
    L ((l.length : Int) - 0).toNat 0 = if l.all P = true then .brk () else .ret no := by
  have key : ∀ (suf pre : List α), l = pre ++ suf → L suf.length (pre.length : Int) = if suf.all P = true then .brk () else .ret no := fun suf => by
    induction suf with
    | nil => intro pre _; exact h0 _
    | cons a suf ih =>
      intro pre hl
      have hlen : l.length = pre.length + (suf.length + 1) := by rw [hl]; simp
      have hg : l.getD ((pre.length : Int)).toNat default = a := by rw [hl]; simp
      rw [List.length_cons, h1 _ _ (by omega) (by omega), hg, List.all_cons]
      have := ih (pre ++ [a]) (by rw [hl]; simp)
      rw [List.length_append, List.length_cons, List.length_nil, Int.natCast_add] at this
      rw [show ((pre.length : Int) + 1) = (pre.length : Int) + ((0 + 1 : Nat) : Int) from rfl, this]
      cases P a <;> simp
  have := key l [] rfl
  rw [show ((l.length : Int) - 0).toNat = l.length by omega]
  exact this
theorem str_pos {s : Str} (h : (s == (Str.mk [])) = false) : 0 < s.b.length := by
  obtain ⟨b⟩ := s
  cases b with
  | nil => simp at h
  | cons a b => simp
def SSm (s : GStmt) : Bool := decide (s.Uses.length ≤ 1000000) && decide (s.Targets.length ≤ 1000000)
def BSm (b : GBlock) : Bool := b.Stmts.all SSm
def FSm (f : GFunc) : Bool := f.Blocks.all BSm
def PSm (p : GProgram) : Bool := p.Funcs.all FSm
theorem all_getD {α : Type} [Inhabited α] {q : α → Bool} {l : List α} (h : l.all q = true) {i : Int} (hi : 0 ≤ i ∧ i < (l.length : Int)) : q (l.getD i.toNat default) = true :=
  List.all_eq_true.1 h _ (getD_mem (by omega))
theorem PSm_f {p : GProgram} (h : PSm p = true) {i : Int} (hi : 0 ≤ i ∧ i < (p.Funcs.length : Int)) : FSm (p.Funcs.getD i.toNat default) = true := all_getD h hi
theorem FSm_b {f : GFunc} (h : FSm f = true) {i : Int} (hi : 0 ≤ i ∧ i < (f.Blocks.length : Int)) : BSm (f.Blocks.getD i.toNat default) = true := all_getD h hi
theorem BSm_m {b : GBlock} (h : BSm b = true) {x : GStmt} (hx : x ∈ b.Stmts) : SSm x = true := List.all_eq_true.1 h x hx
theorem SSm_l {s : GStmt} (h : SSm s = true) : s.Uses.length ≤ 1000000 ∧ s.Targets.length ≤ 1000000 := by
  unfold SSm at h; simpa using h
def Adv (n a x : Int) : Prop := a ≤ x ∧ x ≤ n
theorem adv_trans {n a b x : Int} (h : Adv n a b) (k : Adv n b x) : Adv n a x := ⟨Int.le_trans h.1 k.1, k.2⟩
theorem Scan1_term (text : Str) (c : Int) : ∀ (r : Nat) (col i : Int), (0 ≤ i ∧ i ≤ (text.b.length : Int)) ∧ (text.b.length : Int) - i < (r : Int) → flqref4_Scan_L1 text c r col i ≠ LR.oof ∧ ∀ o j, flqref4_Scan_L1 text c r col i = .brk (o, j) → i ≤ j ∧ j ≤ (text.b.length : Int) ∧ j - i = o - col
  | 0, col, i, h => by omega
  | r + 1, col, i, h => by
    rw [flqref4_Scan_L1]
    simp only [Bool.cond_eq_ite, decide_eq_true_eq]
    have ih := fun (hi : i < (text.b.length : Int)) => Scan1_term text c r (col + 1) (i + 1) (by omega)
    have stop : (LR.brk (col, i) : LR (Int × Int) (List GToken × Int × Int × Int)) ≠ LR.oof ∧ ∀ o j, (LR.brk (col, i) : LR (Int × Int) (List GToken × Int × Int × Int)) = .brk (o, j) → i ≤ j ∧ j ≤ (text.b.length : Int) ∧ j - i = o - col := ⟨fun h => (by cases h), fun o j h => by cases h; omega⟩
    repeat' split
    all_goals first
      | exact stop
      | (have h3 := ih (by assumption); exact ⟨h3.1, fun o j h => by have := h3.2 o j h; omega⟩)
theorem Scan2_term (text : Str) (i : Int) : ∀ (r : Nat) (n : Int), (0 ≤ i + n ∧ i + n ≤ (text.b.length : Int)) ∧ (text.b.length : Int) - (i + n) < (r : Int) → flqref4_Scan_L2 text i r n ≠ LR.oof ∧ ∀ o, flqref4_Scan_L2 text i r n = .brk o → n ≤ o ∧ i + o ≤ (text.b.length : Int)
  | 0, n, h => by omega
  | r + 1, n, h => by
    rw [flqref4_Scan_L2]
    simp only [Bool.cond_eq_ite, decide_eq_true_eq]
    have ih := fun (hi : i + n < (text.b.length : Int)) => Scan2_term text i r (n + 1) (by omega)
    have stop : (LR.brk n : LR Int (List GToken × Int × Int × Int)) ≠ LR.oof ∧ ∀ o, (LR.brk n : LR Int (List GToken × Int × Int × Int)) = .brk o → n ≤ o ∧ i + o ≤ (text.b.length : Int) := ⟨fun h => (by cases h), fun o h => by cases h; omega⟩
    repeat' split
    all_goals first
      | exact stop
      | (have h3 := ih (by assumption); exact ⟨h3.1, fun o h => by have := h3.2 o h; omega⟩)

theorem Scan1_hash {text : Str} {c : Int} {r : Nat} {col i o j : Int} (h0 : 0 ≤ i ∧ i < (text.b.length : Int)) (hc : c = 35) (ht : ((text.b.getD i.toNat 0).toNat : Int) = 35) (hr : (text.b.length : Int) < (r : Int)) (h : flqref4_Scan_L1 text c r col i = .brk (o, j)) : i + 1 ≤ j ∧ j ≤ (text.b.length : Int) := by
  obtain ⟨q, rfl⟩ : ∃ q, r = q + 1 := ⟨r - 1, by omega⟩
  subst hc
  rw [flqref4_Scan_L1] at h
  simp only [beq_self_eq_true, cond_true, decide_eq_true h0.2, ht, show ((35 : Int) != 10) = true from rfl] at h
  have := (Scan1_term text 35 q (col + 1) (i + 1) (by omega)).2 o j h
  omega
theorem Scan1_ne {text : Str} {c : Int} {r : Nat} {col i o j : Int} (hc : c ≠ 35) (hr : 1 ≤ r) (h : flqref4_Scan_L1 text c r col i = .brk (o, j)) : o = col ∧ j = i := by
  obtain ⟨q, rfl⟩ : ∃ q, r = q + 1 := ⟨r - 1, by omega⟩
  rw [flqref4_Scan_L1] at h
  have e : (c == 35) = false := by simp [hc]
  simp only [e, cond_false] at h
  cases h; exact ⟨rfl, rfl⟩
theorem Scan2_word {text : Str} {r : Nat} {i o : Int} (h0 : 0 ≤ i ∧ i < (text.b.length : Int)) (hl : flqref4_letter ((text.b.getD i.toNat 0).toNat : Int) = true) (hr : (text.b.length : Int) < (r : Int)) (h : flqref4_Scan_L2 text i r 0 = .brk o) : 1 ≤ o ∧ i + o ≤ (text.b.length : Int) := by
  obtain ⟨q, rfl⟩ : ∃ q, r = q + 1 := ⟨r - 1, by omega⟩
  rw [flqref4_Scan_L2] at h
  simp only [Int.add_zero, decide_eq_true h0.2, hl, cond_true] at h
  exact (Scan2_term text i q 1 (by omega)).2 o h
theorem Scan1_ret (text : Str) (c : Int) : ∀ (r : Nat) (col i : Int) (x : List GToken × Int × Int × Int), flqref4_Scan_L1 text c r col i ≠ LR.ret x
  | 0, col, i, x => fun h => by cases h
  | r + 1, col, i, x => by
    rw [flqref4_Scan_L1]
    simp only [Bool.cond_eq_ite]
    repeat' split
    all_goals first | (intro h; cases h; done) | exact Scan1_ret text c r _ _ _
theorem Scan2_ret (text : Str) (i : Int) : ∀ (r : Nat) (n : Int) (x : List GToken × Int × Int × Int), flqref4_Scan_L2 text i r n ≠ LR.ret x
  | 0, n, x => fun h => by cases h
  | r + 1, n, x => by
    rw [flqref4_Scan_L2]
    simp only [Bool.cond_eq_ite]
    repeat' split
    all_goals first | (intro h; cases h; done) | exact Scan2_ret text i r _ _
theorem Scan_term (text : Str) : ∀ (r : Nat) (out : List GToken) (line col : Int) (op : Bool) (i : Int), (0 ≤ i ∧ i ≤ (text.b.length : Int)) ∧ (text.b.length : Int) - i < (r : Int) → flqref4_Scan_L0 text r out line col op i ≠ LR.oof
  | 0, out, line, col, op, i, h => by omega
  | r + 1, out, line, col, op, i, h => by
    rw [flqref4_Scan_L0]
    by_cases hi : i < (text.b.length : Int)
    · have t1 := fun c col => Scan1_term text c (text.b.length + 1) col i (by omega)
      have t2 := Scan2_term text i (text.b.length + 1) 0 (by omega)
      have ih := fun out line col op j (hj : i + 1 ≤ j ∧ j ≤ (text.b.length : Int)) => Scan_term text r out line col op j (by omega)
      simp only [decide_eq_true hi, cond_true]
      simp only [Bool.cond_eq_ite, beq_iff_eq, decide_eq_true_eq, bne_iff_ne]
      refine iteInduction (motive := fun x => x ≠ LR.oof) (fun _ => ih _ _ _ _ _ (by omega)) fun _ => ?_
      refine iteInduction (motive := fun x => x ≠ LR.oof) (fun _ => ih _ _ _ _ _ (by omega)) fun _ => ?_
      repeat' split
      all_goals first
        | (intro h; cases h; done)
        | exact ih _ _ _ _ _ (by omega)
        | (rename_i e; exact absurd e (t1 _ _).1)
        | (rename_i e; exact absurd e t2.1)
        | (rename_i e; exact absurd e (Scan1_ret _ _ _ _ _ _))
        | (rename_i e; exact absurd e (Scan2_ret _ _ _ _ _))
        | (have h1 := (t1 _ _).2 _ _ (by assumption); exact ih _ _ _ _ _ (by omega))
        | (exfalso; have e1 := Scan1_ne (text := text) (c := ((text.b.getD i.toNat 0).toNat : Int)) (r := text.b.length + 1) (col := col) (i := i) (by omega) (by omega) (by assumption); obtain ⟨rfl, rfl⟩ := e1; omega)
        | (have e1 := Scan1_ne (text := text) (c := ((text.b.getD i.toNat 0).toNat : Int)) (r := text.b.length + 1) (col := col) (i := i) (by omega) (by omega) (by assumption); obtain ⟨rfl, rfl⟩ := e1; exact ih _ _ _ _ _ (by omega))
        | (have h1 := Scan1_hash (text := text) (c := ((text.b.getD i.toNat 0).toNat : Int)) (r := text.b.length + 1) (col := col) (i := i) ⟨h.1.1, hi⟩ (by assumption) (by assumption) (by omega) (by assumption); exact ih _ _ _ _ _ (by omega))
        | (have h1 := Scan2_word (text := text) (r := text.b.length + 1) (i := i) ⟨h.1.1, hi⟩ (by assumption) (by omega) (by assumption); exact ih _ _ _ _ _ (by omega))
    · simp only [decide_eq_false hi, cond_false]
      intro h; cases h
theorem is_lt {p : Gparser} {w : Str} (h : parser_is p w = true) : p.at_ < (p.l.length : Int) := by
  unfold parser_is at h
  simp only [Bool.cond_eq_ite] at h
  repeat' split at h
  all_goals first | (have := of_decide_eq_true (by assumption : decide (p.at_ < (p.l.length : Int)) = true); omega) | (cases h)
theorem is_lt2 {p : Gparser} {w : Str} {r : Bool} (e : parser_is p w = r) (h : r = true) : p.at_ < (p.l.length : Int) := is_lt (e.trans h)
theorem fail_at (p : Gparser) (e : Int) : (parser_fail p e).at_ = p.at_ := by
  unfold parser_fail
  simp only [Bool.cond_eq_ite]
  split <;> rfl
theorem adv_fail {n a : Int} {p : Gparser} {e : Int} (h : Adv n a p.at_) : Adv n a (parser_fail p e).at_ := by rw [fail_at]; exact h
theorem adv_word {n a : Int} {p : Gparser} {w : Str} (hl : (p.l.length : Int) = n) (h : Adv n a p.at_) : Adv n a (parser_word p w).at_ := by
  unfold parser_word
  cases e : parser_is p w with
  | true => have := is_lt e; simp only [Bool.not_true, cond_false]; exact ⟨by have := h.1; omega, by omega⟩
  | false => simp only [Bool.not_false, cond_true, fail_at]; exact h
theorem isName_lt {p : Gparser} (h : parser_isName p = true) : p.at_ < (p.l.length : Int) := by
  unfold parser_isName at h
  simp only [Bool.cond_eq_ite] at h
  repeat' split at h
  all_goals first | (cases h; done) | (rename_i h1 _; exact of_decide_eq_true h1) | skip
  all_goals first | (have := of_decide_eq_true (by assumption : decide (p.at_ < (p.l.length : Int)) = true); omega) | (cases h)
theorem isName_lt2 {p : Gparser} {r : Bool} (e : parser_isName p = r) (h : r = true) : p.at_ < (p.l.length : Int) := isName_lt (e.trans h)
theorem name_at {p : Gparser} (h : parser_isName p = true) : (parser_name p).2 = Gparser.mk p.l (p.at_ + 1) p.Err := by
  unfold parser_name
  simp only [h, Bool.not_true, cond_false]
theorem name_no {p : Gparser} (h : parser_isName p = false) : (parser_name p).2.at_ = p.at_ := by
  unfold parser_name
  simp only [h, Bool.not_false, cond_true, fail_at]
theorem adv_name {n a : Int} {p : Gparser} (hl : (p.l.length : Int) = n) (h : Adv n a p.at_) : Adv n a (parser_name p).2.at_ := by
  cases e : parser_isName p with
  | true => have := isName_lt e; rw [name_at e]; exact ⟨by have := h.1; dsimp only; omega, by dsimp only; omega⟩
  | false => rw [name_no e]; exact h
theorem isKind_lt {p : Gparser} {k : Int} (h : parser_isKind p k = true) : p.at_ < (p.l.length : Int) := by
  unfold parser_isKind at h
  simp only [Bool.cond_eq_ite] at h
  repeat' split at h
  all_goals first | (have := of_decide_eq_true (by assumption : decide (p.at_ < (p.l.length : Int)) = true); omega) | (cases h)
theorem isKind_lt2 {p : Gparser} {k : Int} {r : Bool} (e : parser_isKind p k = r) (h : r = true) : p.at_ < (p.l.length : Int) := isKind_lt (e.trans h)
theorem adv_kind {n a x e k : Int} {l : List GToken} (hl : (l.length : Int) = n) (hk : ¬ (!parser_isKind (Gparser.mk l x e) k) = true) (h : Adv n a x) : Adv n a (x + 1) := by
  have : parser_isKind (Gparser.mk l x e) k = true := by simpa using hk
  have := isKind_lt this
  dsimp only at this
  exact ⟨by have := h.1; omega, by omega⟩
theorem adv_end {n a : Int} {p : Gparser} (hl : (p.l.length : Int) = n) (h : Adv n a p.at_) : Adv n a (parser_end p).at_ := by
  unfold parser_end
  cases e : parser_isKind p 3 with
  | true => have := isKind_lt e; simp only [Bool.not_true, cond_false]; exact ⟨by have := h.1; omega, by omega⟩
  | false => simp only [Bool.not_false, cond_true, fail_at]; exact h
theorem begins_lt {p : Gparser} (h : parser_begins p = true) : p.at_ < (p.l.length : Int) := by
  have key : ∀ (m : Nat) (i : Int), parser_begins_L0 p m i = .ret true → p.at_ < (p.l.length : Int) := fun m => by
    induction m with
    | zero => intro i h; cases h
    | succ m ih =>
      intro i h
      rw [parser_begins_L0] at h
      simp only [Bool.cond_eq_ite] at h
      split at h
      · exact is_lt (by assumption)
      · exact ih _ h
  unfold parser_begins at h
  split at h
  · exact isName_lt h
  · rename_i r e
    subst h
    exact key _ _ e
  · cases h
theorem more_L0_adv {p : Gparser} {hv : Int} : ∀ (r : Nat) (p1 p2 : Int) (out : List Str), (0 ≤ p1 ∧ p1 ≤ (p.l.length : Int)) ∧ (p.l.length : Int) - p1 < (r : Int) → parser_more_L0 p hv r p1 p2 out ≠ LR.oof ∧ (∀ a b o, parser_more_L0 p hv r p1 p2 out = .brk (a, b, o) → Adv p.l.length p1 a) ∧ (∀ x, parser_more_L0 p hv r p1 p2 out = .ret x → Adv p.l.length p1 x.2.at_)
  | 0, p1, p2, out, h => by omega
  | r + 1, p1, p2, out, h => by
    rw [parser_more_L0]
    cases e : parser_isName (Gparser.mk p.l p1 p2) with
    | false => exact ⟨fun h => (by cases h), fun a b o h' => (by cases h'; exact ⟨Int.le_refl _, h.1.2⟩), fun x h => (by cases h)⟩
    | true =>
      have hlt := isName_lt e
      dsimp only at hlt
      simp only [cond_true, name_at e]
      have ih := fun o => more_L0_adv (p := p) (hv := hv) r (p1 + 1) p2 o (by omega)
      simp only [Bool.cond_eq_ite]
      split
      · refine ⟨fun h => (by cases h), fun a b o h => (by cases h), fun x h' => ?_⟩
        cases h'
        rw [fail_at]; exact ⟨Int.le_refl _, h.1.2⟩
      · have k := ih (out ++ [(parser_name { l := p.l, at_ := p1, Err := p2 }).fst])
        exact ⟨k.1, fun a b o h' => by have := k.2.1 a b o h'; exact ⟨by have := this.1; omega, this.2⟩, fun x h' => by have := k.2.2 x h'; exact ⟨by have := this.1; omega, this.2⟩⟩
theorem adv_more {n a : Int} {p : Gparser} {v : Int} (hl : (p.l.length : Int) = n) (h0 : 0 ≤ a) (h : Adv n a p.at_) : Adv n a (parser_more p v).2.at_ := by
  have k := more_L0_adv (p := p) (hv := v) (p.l.length + 1) p.at_ p.Err [] (by have := h.1; have := h.2; omega)
  subst hl
  unfold parser_more
  split
  · rename_i e; exact adv_trans h (k.2.1 _ _ _ e)
  · rename_i e; exact adv_trans h (k.2.2 _ e)
  · rename_i e; exact absurd e k.1
theorem names_L0_adv {p : Gparser} : ∀ (r : Nat) (p1 p2 : Int) (out : List Str), (0 ≤ p1 ∧ p1 ≤ (p.l.length : Int)) ∧ (p.l.length : Int) - p1 < (r : Int) → parser_names_L0 p r p1 p2 out ≠ LR.oof ∧ (∀ a b o, parser_names_L0 p r p1 p2 out = .brk (a, b, o) → Adv p.l.length p1 a) ∧ (∀ x, parser_names_L0 p r p1 p2 out = .ret x → Adv p.l.length p1 x.2.at_)
  | 0, p1, p2, out, h => by omega
  | r + 1, p1, p2, out, h => by
    rw [parser_names_L0]
    cases e : parser_isName (Gparser.mk p.l p1 p2) with
    | false => exact ⟨fun h => (by cases h), fun a b o h' => (by cases h'; exact ⟨Int.le_refl _, h.1.2⟩), fun x h => (by cases h)⟩
    | true =>
      have hlt := isName_lt e
      dsimp only at hlt
      simp only [cond_true, name_at e]
      have ih := fun o => names_L0_adv (p := p) r (p1 + 1) p2 o (by omega)
      simp only [Bool.cond_eq_ite]
      split
      · refine ⟨fun h => (by cases h), fun a b o h => (by cases h), fun x h' => ?_⟩
        cases h'
        rw [fail_at]; exact ⟨Int.le_refl _, h.1.2⟩
      · have k := ih (out ++ [(parser_name { l := p.l, at_ := p1, Err := p2 }).fst])
        exact ⟨k.1, fun a b o h' => by have := k.2.1 a b o h'; exact ⟨by have := this.1; omega, this.2⟩, fun x h' => by have := k.2.2 x h'; exact ⟨by have := this.1; omega, this.2⟩⟩
theorem adv_names {n a : Int} {p : Gparser} (hl : (p.l.length : Int) = n) (h0 : 0 ≤ a) (h : Adv n a p.at_) : Adv n a (parser_names p).2.at_ := by
  have k := names_L0_adv (p := p) (p.l.length + 1) p.at_ p.Err [] (by have := h.1; have := h.2; omega)
  subst hl
  unfold parser_names
  split
  · rename_i e; exact adv_trans h (k.2.1 _ _ _ e)
  · rename_i e; exact adv_trans h (k.2.2 _ e)
  · rename_i e; exact absurd e k.1
theorem stmt_adv {p : Gparser} (h0 : 0 ≤ p.at_) (hb : parser_begins p = true) : Adv p.l.length (p.at_ + 1) (parser_stmt p).2.at_ := by
  have hlt := begins_lt hb
  have st : Adv p.l.length (p.at_ + 1) (p.at_ + 1) := ⟨Int.le_refl _, by omega⟩
  unfold parser_stmt
  cases e : parser_isName p with
  | false =>
    simp only [Bool.not_false, cond_true, Bool.cond_eq_ite, if_true, if_false, Bool.false_eq_true]
    repeat' split
    all_goals (repeat first | exact st | (refine adv_end rfl ?_; try dsimp only) | (refine adv_kind rfl (by assumption) ?_; try dsimp only) | (refine adv_name rfl ?_; try dsimp only) | (refine adv_fail ?_; try dsimp only) | (refine adv_names rfl (by omega) ?_; try dsimp only) | (refine adv_more rfl (by omega) ?_; try dsimp only))
  | true =>
    have nm : ∀ x y : List UInt8, x ≠ y → (Str.mk x == Str.mk y) = false := fun x y h => by
      rw [beq_eq_false_iff_ne]; intro h'; injection h' with h'; exact h h'
    simp only [Bool.not_true, cond_false, nm [] _ (List.cons_ne_nil _ _).symm, name_at e]
    simp only [Bool.cond_eq_ite, if_true, if_false, Bool.false_eq_true]
    repeat' split
    all_goals (repeat first | exact st | (refine adv_end rfl ?_; try dsimp only) | (refine adv_kind rfl (by assumption) ?_; try dsimp only) | (refine adv_name rfl ?_; try dsimp only) | (refine adv_fail ?_; try dsimp only) | (refine adv_names rfl (by omega) ?_; try dsimp only) | (refine adv_more rfl (by omega) ?_; try dsimp only))
theorem block_L0_adv {p : Gparser} {b0 : Str} : ∀ (r : Nat) (p1 p2 : Int) (out : List GStmt), (0 ≤ p1 ∧ p1 ≤ (p.l.length : Int)) ∧ (p.l.length : Int) - p1 < (r : Int) → parser_block_L0 p b0 r p1 p2 out ≠ LR.oof ∧ (∀ a b o, parser_block_L0 p b0 r p1 p2 out = .brk (a, b, o) → Adv p.l.length p1 a) ∧ (∀ x, parser_block_L0 p b0 r p1 p2 out = .ret x → Adv p.l.length p1 x.2.at_)
  | 0, p1, p2, out, h => by omega
  | r + 1, p1, p2, out, h => by
    rw [parser_block_L0]
    cases e : parser_begins (Gparser.mk p.l p1 p2) with
    | false => exact ⟨fun h => (by cases h), fun a b o h' => (by cases h'; exact ⟨Int.le_refl _, h.1.2⟩), fun x h => (by cases h)⟩
    | true =>
      have st := stmt_adv (p := Gparser.mk p.l p1 p2) h.1.1 e
      dsimp only at st
      have s1 := st.1
      have s2 := st.2
      simp only [cond_true]
      have ih := fun o => block_L0_adv (p := p) (b0 := b0) r (parser_stmt (Gparser.mk p.l p1 p2)).2.at_ (parser_stmt (Gparser.mk p.l p1 p2)).2.Err o (by omega)
      simp only [Bool.cond_eq_ite]
      split
      · refine ⟨fun h => (by cases h), fun a b o h => (by cases h), fun x h' => ?_⟩
        cases h'
        rw [fail_at]; exact ⟨Int.le_refl _, h.1.2⟩
      · have k := ih (out ++ [(parser_stmt (Gparser.mk p.l p1 p2)).1])
        exact ⟨k.1, fun a b o h' => by have := k.2.1 a b o h'; exact ⟨by have := this.1; omega, this.2⟩, fun x h' => by have := k.2.2 x h'; exact ⟨by have := this.1; omega, this.2⟩⟩
theorem block_adv {p : Gparser} {c : Int} (w : Adv p.l.length c (parser_word p (Str.mk [98, 108, 111, 99, 107])).at_) (h0 : 0 ≤ c) : Adv p.l.length c (parser_block p).2.at_ := by
  have n := adv_name (p := Gparser.mk p.l (parser_word p (Str.mk [98, 108, 111, 99, 107])).at_ (parser_word p (Str.mk [98, 108, 111, 99, 107])).Err) rfl w
  unfold parser_block
  simp only
  generalize hq : parser_end _ = q
  have e : Adv p.l.length c q.at_ := by rw [← hq]; exact adv_end rfl n
  have k := fun a b (ha : Adv p.l.length c a) => block_L0_adv (p := p) (b0 := (parser_name (Gparser.mk p.l (parser_word p (Str.mk [98, 108, 111, 99, 107])).at_ (parser_word p (Str.mk [98, 108, 111, 99, 107])).Err)).1) (p.l.length + 1) a b [] (by have := ha.1; have := ha.2; omega)
  cases parser_begins (Gparser.mk p.l q.at_ q.Err) with
  | true =>
    simp only [Bool.not_true, cond_false]
    split
    · rename_i e'; exact adv_trans e ((k _ _ e).2.1 _ _ _ e')
    · rename_i e'; exact adv_trans e ((k _ _ e).2.2 _ e')
    · rename_i e'; exact absurd e' (k _ _ e).1
  | false =>
    simp only [Bool.not_false, cond_true]
    have f := adv_fail (p := Gparser.mk p.l q.at_ q.Err) (e := 4) e
    split
    · rename_i e'; exact adv_trans f ((k _ _ f).2.1 _ _ _ e')
    · rename_i e'; exact adv_trans f ((k _ _ f).2.2 _ e')
    · rename_i e'; exact absurd e' (k _ _ f).1
theorem block_step {p : Gparser} (h : Adv p.l.length p.at_ p.at_) (h0 : 0 ≤ p.at_) (hw : parser_is p (Str.mk [98, 108, 111, 99, 107]) = true) : Adv p.l.length (p.at_ + 1) (parser_block p).2.at_ := by
  have hlt := is_lt hw
  refine block_adv ?_ (by omega)
  unfold parser_word
  simp only [hw, Bool.not_true, cond_false]
  exact ⟨Int.le_refl _, by omega⟩
theorem function_L0_adv {p : Gparser} {f0 : Str} : ∀ (r : Nat) (p1 p2 : Int) (out : List GBlock), (0 ≤ p1 ∧ p1 ≤ (p.l.length : Int)) ∧ (p.l.length : Int) - p1 < (r : Int) → parser_function_L0 p f0 r p1 p2 out ≠ LR.oof ∧ (∀ a b o, parser_function_L0 p f0 r p1 p2 out = .brk (a, b, o) → Adv p.l.length p1 a) ∧ (∀ x, parser_function_L0 p f0 r p1 p2 out = .ret x → Adv p.l.length p1 x.2.at_)
  | 0, p1, p2, out, h => by omega
  | r + 1, p1, p2, out, h => by
    rw [parser_function_L0]
    cases e : parser_is (Gparser.mk p.l p1 p2) (Str.mk [98, 108, 111, 99, 107]) with
    | false => exact ⟨fun h => (by cases h), fun a b o h' => (by cases h'; exact ⟨Int.le_refl _, h.1.2⟩), fun x h => (by cases h)⟩
    | true =>
      have st := block_step (p := Gparser.mk p.l p1 p2) ⟨Int.le_refl _, h.1.2⟩ h.1.1 e
      dsimp only at st
      have s1 := st.1
      have s2 := st.2
      simp only [cond_true]
      have ih := fun o => function_L0_adv (p := p) (f0 := f0) r (parser_block (Gparser.mk p.l p1 p2)).2.at_ (parser_block (Gparser.mk p.l p1 p2)).2.Err o (by omega)
      simp only [Bool.cond_eq_ite]
      split
      · refine ⟨fun h => (by cases h), fun a b o h => (by cases h), fun x h' => ?_⟩
        cases h'
        rw [fail_at]; exact ⟨Int.le_refl _, h.1.2⟩
      · have k := ih (out ++ [(parser_block (Gparser.mk p.l p1 p2)).1])
        exact ⟨k.1, fun a b o h' => by have := k.2.1 a b o h'; exact ⟨by have := this.1; omega, this.2⟩, fun x h' => by have := k.2.2 x h'; exact ⟨by have := this.1; omega, this.2⟩⟩

theorem function_adv {p : Gparser} {c : Int} (w : Adv p.l.length c (parser_word p (Str.mk [102, 117, 110, 99])).at_) (h0 : 0 ≤ c) : Adv p.l.length c (parser_function p).2.at_ := by
  have n := adv_name (p := Gparser.mk p.l (parser_word p (Str.mk [102, 117, 110, 99])).at_ (parser_word p (Str.mk [102, 117, 110, 99])).Err) rfl w
  unfold parser_function
  simp only
  generalize hq : parser_end _ = q
  have e : Adv p.l.length c q.at_ := by rw [← hq]; exact adv_end rfl n
  have k := fun a b (ha : Adv p.l.length c a) => function_L0_adv (p := p) (f0 := (parser_name (Gparser.mk p.l (parser_word p (Str.mk [102, 117, 110, 99])).at_ (parser_word p (Str.mk [102, 117, 110, 99])).Err)).1) (p.l.length + 1) a b [] (by have := ha.1; have := ha.2; omega)
  cases parser_is (Gparser.mk p.l q.at_ q.Err) (Str.mk [98, 108, 111, 99, 107]) with
  | true =>
    simp only [Bool.not_true, cond_false]
    split
    · rename_i e'
      refine adv_end rfl ?_
      dsimp only
      refine adv_word rfl ?_
      exact adv_trans e ((k _ _ e).2.1 _ _ _ e')
    · rename_i e'; exact adv_trans e ((k _ _ e).2.2 _ e')
    · rename_i e'; exact absurd e' (k _ _ e).1
  | false =>
    simp only [Bool.not_false, cond_true]
    have f := adv_fail (p := Gparser.mk p.l q.at_ q.Err) (e := 4) e
    split
    · rename_i e'
      refine adv_end rfl ?_
      dsimp only
      refine adv_word rfl ?_
      exact adv_trans f ((k _ _ f).2.1 _ _ _ e')
    · rename_i e'; exact adv_trans f ((k _ _ f).2.2 _ e')
    · rename_i e'; exact absurd e' (k _ _ f).1
theorem function_step {p : Gparser} (h : Adv p.l.length p.at_ p.at_) (h0 : 0 ≤ p.at_) (hw : parser_is p (Str.mk [102, 117, 110, 99]) = true) : Adv p.l.length (p.at_ + 1) (parser_function p).2.at_ := by
  have hlt := is_lt hw
  refine function_adv ?_ (by omega)
  unfold parser_word
  simp only [hw, Bool.not_true, cond_false]
  exact ⟨Int.le_refl _, by omega⟩
theorem psm_of {t : Str} {r : GProgram × Int × Int × Int} (h : flqref4_Parse t = r) (e : PSm (flqref4_Parse t).1 = true) : PSm r.1 = true := h ▸ e
theorem Parse_L0_adv {l : List GToken} : ∀ (r : Nat) (p1 p2 : Int) (out : List GFunc), (0 ≤ p1 ∧ p1 ≤ (l.length : Int)) ∧ (l.length : Int) - p1 < (r : Int) → flqref4_Parse_L0 l r p1 p2 out ≠ LR.oof ∧ (∀ a b o, flqref4_Parse_L0 l r p1 p2 out = .brk (a, b, o) → Adv l.length p1 a) ∧ (∀ x, flqref4_Parse_L0 l r p1 p2 out ≠ .ret x)
  | 0, p1, p2, out, h => by omega
  | r + 1, p1, p2, out, h => by
    rw [flqref4_Parse_L0]
    cases e : parser_is (Gparser.mk l p1 p2) (Str.mk [102, 117, 110, 99]) with
    | false => exact ⟨fun h => (by cases h), fun a b o h' => (by cases h'; exact ⟨Int.le_refl _, h.1.2⟩), fun x h => (by cases h)⟩
    | true =>
      have st := function_step (p := Gparser.mk l p1 p2) ⟨Int.le_refl _, h.1.2⟩ h.1.1 e
      dsimp only at st
      have s1 := st.1
      have s2 := st.2
      simp only [cond_true]
      have ih := fun o => Parse_L0_adv (l := l) r (parser_function (Gparser.mk l p1 p2)).2.at_ (parser_function (Gparser.mk l p1 p2)).2.Err o (by omega)
      simp only [Bool.cond_eq_ite]
      split
      · refine ⟨fun h => (by cases h), fun a b o h' => ?_, fun x h' => (by cases h')⟩
        cases h'
        rw [fail_at]; exact ⟨Int.le_refl _, h.1.2⟩
      · have k := ih (out ++ [(parser_function (Gparser.mk l p1 p2)).1])
        exact ⟨k.1, fun a b o h' => by have := k.2.1 a b o h'; exact ⟨by have := this.1; omega, this.2⟩, k.2.2⟩
theorem CF_Stmt (s : List GStmt) (fp : GStmt → Bool) : slices_ContainsFunc_Stmt s fp = s.any fp := by
  have := scan' (fun r i => slices_IndexFunc_Stmt_L0 s fp r i) (fun i => fp (s.getD i.toNat default)) () (fun _ => rfl) (fun _ _ => rfl) ((((s.length : Nat) : Int) - 0).toNat) 0
  unfold slices_ContainsFunc_Stmt slices_IndexFunc_Stmt
  rw [Bool.eq_iff_iff, List.any_eq_true]
  rcases this with ⟨j, e, j1, j2, j3⟩ | ⟨e, h⟩
  · rw [e]; exact ⟨fun _ => ⟨_, getD_mem (by omega), j3⟩, fun _ => by simpa using j1⟩
  · rw [e]
    refine ⟨fun h => by simp at h, ?_⟩
    rintro ⟨x, hx, hfx⟩
    obtain ⟨j, j1, j2, j3⟩ := (mem_getDg (d := default)).1 hx
    have := h j j1 (by omega)
    rw [j3] at this; rw [hfx] at this; cases this
theorem valid_b {s : GStmt} (h : syntax_valid s = true) : s.Uses.length ≤ 4 ∧ s.Targets.length ≤ 2 := by
  unfold syntax_valid at h
  dsimp only at h
  generalize (slices_ContainsFunc_string (slices_Clone_string s.Uses ++ s.Targets ++ [s.Def]) fun x => syntax_valid_1 x) = A at h
  generalize (slices_ContainsFunc_string (slices_Clone_string s.Uses ++ s.Targets) fun x => syntax_valid_1 x) = B at h
  generalize s.Uses.length = U at *
  generalize s.Targets.length = V at *
  have kf : ∀ (c x : Bool), (bif c then x else false) = (c && x) := fun c x => by cases c <;> rfl
  simp only [kf] at h
  have kt : ∀ (c x y : Bool), (bif c then x else y) = true → (c = true ∧ x = true) ∨ (c = false ∧ y = true) := fun c x y h => by
    cases c
    · exact .inr ⟨rfl, h⟩
    · exact .inl ⟨rfl, h⟩
  have kn : ∀ {P : Prop} {c x y : Bool}, (bif c then x else y) = true → (x = true → P) → (y = true → P) → P := fun {P c x y} h k1 k2 => by
    cases c
    · exact k2 h
    · exact k1 h
  iterate 9
    first
    | (refine kn h (fun h => ?_) (fun h => ?_)
       · simp only [Bool.and_eq_true, beq_iff_eq, decide_eq_true_eq] at h; omega)
    | skip
  all_goals (simp only [Bool.and_eq_true, beq_iff_eq, decide_eq_true_eq] at h; omega)
theorem SVal_eq (p : GProgram) : syntax_Valid p = (decide (1 ≤ p.Funcs.length ∧ p.Funcs.length ≤ 8) && p.Funcs.all fun f => lexer_IsName f.Name && (decide (1 ≤ f.Blocks.length ∧ f.Blocks.length ≤ 16) && f.Blocks.all fun b => lexer_IsName b.Name && (decide (1 ≤ b.Stmts.length ∧ b.Stmts.length ≤ 32) && b.Stmts.all syntax_valid))) := by
  have l2 : ∀ (b : List GStmt), slices_ContainsFunc_Stmt b (fun x => syntax_Valid_1 x) = !(b.all syntax_valid) := fun b => by
    rw [CF_Stmt, List.all_eq_not_any_not, Bool.not_not]
    congr 1
  have l1 : ∀ (f : List GBlock), syntax_Valid_L1 f ((f.length : Int) - 0).toNat 0 = if (f.all fun b => lexer_IsName b.Name && (decide (1 ≤ b.Stmts.length ∧ b.Stmts.length ≤ 32) && b.Stmts.all syntax_valid)) = true then .brk () else .ret false := fun f =>
    allL (syntax_Valid_L1 f) (fun i => by rw [syntax_Valid_L1]) fun r i h0 h1 => by
      rw [syntax_Valid_L1]
      generalize hb : f.getD i.toNat default = b
      have e := l2 b.Stmts
      simp only [Bool.cond_eq_ite]
      cases hN : lexer_IsName b.Name
      · simp
      by_cases h1 : ((b.Stmts.length : Nat) : Int) < 1
      · have : ¬ (1 ≤ b.Stmts.length ∧ b.Stmts.length ≤ 32) := by omega
        simp [h1, this]
      by_cases h2 : (32 : Int) < ((b.Stmts.length : Nat) : Int)
      · have : ¬ (1 ≤ b.Stmts.length ∧ b.Stmts.length ≤ 32) := by omega
        simp [h1, h2, this]
      have h3 : (1 ≤ b.Stmts.length ∧ b.Stmts.length ≤ 32) := by omega
      rw [e]
      simp only [h1, h2, decide_false, h3, decide_true, Bool.not_true, Bool.true_and, and_self, reduceIte, Bool.false_eq_true]
      all_goals (cases b.Stmts.all syntax_valid <;> rfl)
  have l0 : syntax_Valid_L0 p ((p.Funcs.length : Int) - 0).toNat 0 = if (p.Funcs.all fun f => lexer_IsName f.Name && (decide (1 ≤ f.Blocks.length ∧ f.Blocks.length ≤ 16) && f.Blocks.all fun b => lexer_IsName b.Name && (decide (1 ≤ b.Stmts.length ∧ b.Stmts.length ≤ 32) && b.Stmts.all syntax_valid))) = true then .brk () else .ret false :=
    allL (syntax_Valid_L0 p) (fun i => by rw [syntax_Valid_L0]) fun r i h0 h1 => by
      rw [syntax_Valid_L0]
      generalize hb : p.Funcs.getD i.toNat default = f
      have e := l1 f.Blocks
      simp only [Bool.cond_eq_ite]
      cases hN : lexer_IsName f.Name
      · simp
      by_cases h1 : ((f.Blocks.length : Nat) : Int) < 1
      · have : ¬ (1 ≤ f.Blocks.length ∧ f.Blocks.length ≤ 16) := by omega
        simp [h1, this]
      by_cases h2 : (16 : Int) < ((f.Blocks.length : Nat) : Int)
      · have : ¬ (1 ≤ f.Blocks.length ∧ f.Blocks.length ≤ 16) := by omega
        simp [h1, h2, this]
      have h3 : (1 ≤ f.Blocks.length ∧ f.Blocks.length ≤ 16) := by omega
      rw [e]
      simp only [h1, h2, decide_false, h3, decide_true, Bool.not_true, Bool.true_and, and_self, reduceIte, Bool.false_eq_true]
      generalize (f.Blocks.all _) = q
      all_goals (cases q <;> rfl)
  rw [syntax_Valid]
  by_cases h1 : ((p.Funcs.length : Nat) : Int) < 1
  · have : ¬ (1 ≤ p.Funcs.length ∧ p.Funcs.length ≤ 8) := by omega
    simp [h1, this]
  by_cases h2 : (8 : Int) < ((p.Funcs.length : Nat) : Int)
  · have : ¬ (1 ≤ p.Funcs.length ∧ p.Funcs.length ≤ 8) := by omega
    simp [h1, h2, this]
  have h3 : (1 ≤ p.Funcs.length ∧ p.Funcs.length ≤ 8) := by omega
  rw [l0]
  simp only [h1, h2, h3, decide_false, decide_true, cond_false, Bool.true_and, and_self]
  generalize (p.Funcs.all _) = q
  all_goals (cases q <;> rfl)
theorem SVal_b {p : GProgram} (h : syntax_Valid p = true) : p.Funcs.length ≤ 8 ∧ ∀ i : Nat, (p.Funcs.getD i default).Blocks.length ≤ 16 ∧ ∀ k : Nat, ((p.Funcs.getD i default).Blocks.getD k default).Stmts.length ≤ 32 ∧ ∀ j : Nat, (((p.Funcs.getD i default).Blocks.getD k default).Stmts.getD j default).Uses.length ≤ 4 ∧ (((p.Funcs.getD i default).Blocks.getD k default).Stmts.getD j default).Targets.length ≤ 2 := by
  rw [SVal_eq] at h
  simp only [Bool.and_eq_true, decide_eq_true_eq, List.all_eq_true] at h
  have gm : ∀ {α : Type} [Inhabited α] (l : List α) (i : Nat), l.getD i default ∈ l ∨ l.getD i default = default := fun l i => by
    by_cases hi : i < l.length
    · left; rw [List.getD_eq_getElem?_getD, List.getElem?_eq_getElem hi]; exact List.getElem_mem hi
    · right; rw [List.getD_eq_getElem?_getD, List.getElem?_eq_none (by omega)]; rfl
  refine ⟨h.1.2, fun i => ?_⟩
  rcases gm p.Funcs i with hf | hf
  · have hF := (h.2 _ hf).2
    refine ⟨hF.1.2, fun k => ?_⟩
    rcases gm (p.Funcs.getD i default).Blocks k with hb | hb
    · have hB := (hF.2 _ hb).2
      refine ⟨hB.1.2, fun j => ?_⟩
      rcases gm ((p.Funcs.getD i default).Blocks.getD k default).Stmts j with hs | hs
      · exact valid_b (hB.2 _ hs)
      · rw [hs]; decide
    · rw [hb]
      exact ⟨by decide, fun j => by rw [show (default : GBlock).Stmts = [] from rfl]; simp; decide⟩
  · rw [hf]
    refine ⟨by decide, fun k => ?_⟩
    rw [show (default : GFunc).Blocks = [] from rfl]
    exact ⟨by simp; decide, fun j => by simp [show (default : GBlock).Stmts = [] from rfl]; decide⟩
theorem Decimal_term : ∀ (m : Nat) (n : Int) (s : Str), 0 ≤ n ∧ n < (m : Int) → flqref1_Decimal_L0 m n s ≠ .oof
  | 0, n, s, h => by omega
  | m + 1, n, s, h => by
    rw [flqref1_Decimal_L0]
    by_cases e : 0 < n
    · simp only [e, decide_true, cond_true]
      exact Decimal_term m (n / 10) _ (by omega)
    · simp [e]
theorem Limits_L1 : ∀ (m : Nat) (left : Int) (b : List GStmt), (flqlaw6_ValidateLimits_L1 m left b).1 ≤ left
  | 0, left, b => by rw [flqlaw6_ValidateLimits_L1]; omega
  | m + 1, left, b => by
    rw [flqlaw6_ValidateLimits_L1]
    by_cases e : ((b.length : Nat) : Int) < 31
    · simp only [e, decide_true, cond_true]
      have := Limits_L1 m (left - 1) (b ++ [(GStmt.mk 2 (Str.mk []) [(Str.mk [120])] [])])
      omega
    · simp [e]
theorem Limits_term : ∀ (m : Nat) (f : List GBlock) (left : Int), left < (m : Int) → 0 < m → flqlaw6_ValidateLimits_L0 m f left ≠ .oof
  | 0, f, left, h, h0 => by omega
  | m + 1, f, left, h, h0 => by
    rw [flqlaw6_ValidateLimits_L0]
    by_cases e : 0 < left
    · simp only [e, decide_true, cond_true]
      have h1 := Limits_L1 ((left - 1).toNat) left []
      generalize flqlaw6_ValidateLimits_L1 ((left - 1).toNat) left [] = q at h1
      obtain ⟨q1, q2⟩ := q
      dsimp only at h1 ⊢
      exact Limits_term m _ _ (by omega) (by omega)
    · simp [e]
def limOk (k : Int) : Bool := match flqlaw6_ValidateLimits_L0 300 [] (252 + k) with | .brk o => PSm (GProgram.mk [(GFunc.mk (Str.mk [102]) o)]) | _ => false
theorem lim_0 : limOk 0 = true := by kernel_rfl
theorem lim_1 : limOk 1 = true := by kernel_rfl
theorem lim_2 : limOk 2 = true := by kernel_rfl
theorem lim_3 : limOk 3 = true := by kernel_rfl
theorem lim_small {n : Int} {o : List GBlock} (hn : 0 ≤ n) (h : flqlaw6_ValidateLimits_L0 300 [] (252 + n % 4) = .brk o) : PSm (GProgram.mk [(GFunc.mk (Str.mk [102]) o)]) = true := by
  have hk : n % 4 = 0 ∨ n % 4 = 1 ∨ n % 4 = 2 ∨ n % 4 = 3 := by omega
  have key : limOk (n % 4) = true := by
    rcases hk with e | e | e | e <;> rw [e]
    · exact lim_0
    · exact lim_1
    · exact lim_2
    · exact lim_3
  unfold limOk at key
  rw [h] at key
  exact key
def limFull (k : Int) : Bool :=
  match flqlaw6_ValidateLimits_L0 300 [] (252 + k) with
  | .brk o =>
    let rv8 := (validate_Check (GProgram.mk [(GFunc.mk (Str.mk [102]) o)]))
    bif ((rv8.2 == 0) == (decide (k ≤ 2))) then
      bif decide (k ≤ 2) then
        flqlaw6_sane
      else
        bif (rv8.2 == 7) then
          flqlaw6_sane
        else
          false
    else
      false
  | .ret _ => default
  | .oof => default
theorem limF_0 : limFull 0 = true := by kernel_rfl
theorem limF_1 : limFull 1 = true := by kernel_rfl
theorem limF_2 : limFull 2 = true := by kernel_rfl
theorem limF_3 : limFull 3 = true := by kernel_rfl
theorem ValidateLimits_true (n : Int) (hn : 0 ≤ n) : flqlaw6_ValidateLimits n = true := by
  have hk : n % 4 = 0 ∨ n % 4 = 1 ∨ n % 4 = 2 ∨ n % 4 = 3 := by omega
  have e : flqlaw6_ValidateLimits n = limFull (n % 4) := rfl
  rw [e]
  rcases hk with e | e | e | e <;> rw [e]
  · exact limF_0
  · exact limF_1
  · exact limF_2
  · exact limF_3
theorem sl40 : slTy Tryd.prog 40 = some (9, 1, 16) := by kernel_rfl
theorem sz40 : slZero Tryd.prog 40 = some [.string (bs (Str.mk []))] := by kernel_rfl
theorem fo81_2 : fldOff Tryd.prog 81 2 = some 2 := by kernel_rfl
theorem sh35 : tyShape Tryd.prog 35 = some (false, 1) := by kernel_rfl
theorem fo81_1 : fldOff Tryd.prog 81 1 = some 1 := by kernel_rfl
theorem fo81_0 : fldOff Tryd.prog 81 0 = some 0 := by kernel_rfl
theorem sh76 : tyShape Tryd.prog 76 = some (false, 1) := by kernel_rfl
theorem fo85_0 : fldOff Tryd.prog 85 0 = some 0 := by kernel_rfl
theorem fo85_1 : fldOff Tryd.prog 85 1 = some 1 := by kernel_rfl
theorem sh9 : tyShape Tryd.prog 9 = some (false, 1) := by kernel_rfl
theorem fmix : Tryd.prog.follows .mixedOrders = true := by kernel_rfl
theorem ca67 : callable Tryd.prog 67 = true := by kernel_rfl
theorem ca55 : callable Tryd.prog 55 = true := by kernel_rfl
theorem ca72 : callable Tryd.prog 72 = true := by kernel_rfl
theorem un9 : Tryd.prog.underlying 9 = some .string := by kernel_rfl
theorem st85 : stTy Tryd.prog 85 = some ([(0, 1), (1, 1), (2, 1), (3, 1)], [vi 0, .string (bs (Str.mk [])), vi 0, vi 0]) := by kernel_rfl
theorem sl76 : slTy Tryd.prog 76 = some (85, 4, 40) := by kernel_rfl
theorem sz76 : slZero Tryd.prog 76 = some [vi 0, .string (bs (Str.mk [])), vi 0, vi 0] := by kernel_rfl
theorem ca36 : callable Tryd.prog 36 = true := by kernel_rfl
theorem ca37 : callable Tryd.prog 37 = true := by kernel_rfl
theorem ca68 : callable Tryd.prog 68 = true := by kernel_rfl
theorem ca56 : callable Tryd.prog 56 = true := by kernel_rfl
theorem ca57 : callable Tryd.prog 57 = true := by kernel_rfl
theorem ze51 : zeroOf Tryd.prog 51 = some (.agg #[vi 0, .string (bs (Str.mk [])), .slice none 0 0, .slice none 0 0]) := by kernel_rfl
theorem fo51_2 : fldOff Tryd.prog 51 2 = some 2 := by kernel_rfl
theorem sh40 : tyShape Tryd.prog 40 = some (false, 1) := by kernel_rfl
theorem ca70 : callable Tryd.prog 70 = true := by kernel_rfl
theorem ca53 : callable Tryd.prog 53 = true := by kernel_rfl
theorem sh51 : tyShape Tryd.prog 51 = some (true, 4) := by kernel_rfl
theorem fo51_3 : fldOff Tryd.prog 51 3 = some 3 := by kernel_rfl
theorem fo51_1 : fldOff Tryd.prog 51 1 = some 1 := by kernel_rfl
theorem ca71 : callable Tryd.prog 71 = true := by kernel_rfl
theorem ze49 : zeroOf Tryd.prog 49 = some (.agg #[.string (bs (Str.mk [])), .slice none 0 0]) := by kernel_rfl
theorem ca51 : callable Tryd.prog 51 = true := by kernel_rfl
theorem fo49_0 : fldOff Tryd.prog 49 0 = some 0 := by kernel_rfl
theorem ca65 : callable Tryd.prog 65 = true := by kernel_rfl
theorem fo49_1 : fldOff Tryd.prog 49 1 = some 1 := by kernel_rfl
theorem sh47 : tyShape Tryd.prog 47 = some (false, 1) := by kernel_rfl
theorem sl47 : slTy Tryd.prog 47 = some (51, 4, 72) := by kernel_rfl
theorem sh49 : tyShape Tryd.prog 49 = some (true, 2) := by kernel_rfl
theorem ca66 : callable Tryd.prog 66 = true := by kernel_rfl
theorem sz47 : slZero Tryd.prog 47 = some [vi 0, .string (bs (Str.mk [])), .slice none 0 0, .slice none 0 0] := by kernel_rfl
theorem ca58 : callable Tryd.prog 58 = true := by kernel_rfl
theorem un40 : Tryd.prog.underlying 40 = some (.slice 9) := by kernel_rfl
theorem ca69 : callable Tryd.prog 69 = true := by kernel_rfl
theorem ca44 : callable Tryd.prog 44 = true := by kernel_rfl
theorem fo51_0 : fldOff Tryd.prog 51 0 = some 0 := by kernel_rfl
theorem sh3 : tyShape Tryd.prog 3 = some (false, 1) := by kernel_rfl
theorem ca59 : callable Tryd.prog 59 = true := by kernel_rfl
theorem ca61 : callable Tryd.prog 61 = true := by kernel_rfl
theorem ca60 : callable Tryd.prog 60 = true := by kernel_rfl
theorem ca47 : callable Tryd.prog 47 = true := by kernel_rfl
theorem ze27 : zeroOf Tryd.prog 27 = some (.agg #[.slice none 0 0]) := by kernel_rfl
theorem ca40 : callable Tryd.prog 40 = true := by kernel_rfl
theorem st27 : stTy Tryd.prog 27 = some ([(0, 1)], [.slice none 0 0]) := by kernel_rfl
theorem sh27 : tyShape Tryd.prog 27 = some (true, 1) := by kernel_rfl
theorem st81 : stTy Tryd.prog 81 = some ([(0, 1), (1, 1), (2, 1)], [.slice none 0 0, vi 0, vi 0]) := by kernel_rfl
theorem fo27_0 : fldOff Tryd.prog 27 0 = some 0 := by kernel_rfl
theorem sh25 : tyShape Tryd.prog 25 = some (false, 1) := by kernel_rfl
theorem sl25 : slTy Tryd.prog 25 = some (45, 2, 40) := by kernel_rfl
theorem ca43 : callable Tryd.prog 43 = true := by kernel_rfl
theorem sz25 : slZero Tryd.prog 25 = some [.string (bs (Str.mk [])), .slice none 0 0] := by kernel_rfl
theorem fo85_2 : fldOff Tryd.prog 85 2 = some 2 := by kernel_rfl
theorem fo85_3 : fldOff Tryd.prog 85 3 = some 3 := by kernel_rfl
theorem ca46 : callable Tryd.prog 46 = true := by kernel_rfl
theorem ca45 : callable Tryd.prog 45 = true := by kernel_rfl
theorem ze45 : zeroOf Tryd.prog 45 = some (.agg #[.string (bs (Str.mk [])), .slice none 0 0]) := by kernel_rfl
theorem fo45_0 : fldOff Tryd.prog 45 0 = some 0 := by kernel_rfl
theorem fo45_1 : fldOff Tryd.prog 45 1 = some 1 := by kernel_rfl
theorem sh43 : tyShape Tryd.prog 43 = some (false, 1) := by kernel_rfl
theorem sl43 : slTy Tryd.prog 43 = some (49, 2, 40) := by kernel_rfl
theorem sh45 : tyShape Tryd.prog 45 = some (true, 2) := by kernel_rfl
theorem ca54 : callable Tryd.prog 54 = true := by kernel_rfl
theorem sz43 : slZero Tryd.prog 43 = some [.string (bs (Str.mk [])), .slice none 0 0] := by kernel_rfl
theorem ca27 : callable Tryd.prog 27 = true := by kernel_rfl
theorem ze3 : zeroOf Tryd.prog 3 = some (vi 0) := by kernel_rfl
theorem ca31 : callable Tryd.prog 31 = true := by kernel_rfl
theorem ca32 : callable Tryd.prog 32 = true := by kernel_rfl
theorem mt65 : mpTy Tryd.prog 65 = some (9, 4) := by kernel_rfl
theorem ze4 : zeroOf Tryd.prog 4 = some (vb false) := by kernel_rfl
theorem sh65 : tyShape Tryd.prog 65 = some (false, 1) := by kernel_rfl
theorem ze65 : zeroOf Tryd.prog 65 = some (.map none) := by kernel_rfl
theorem ze40 : zeroOf Tryd.prog 40 = some (.slice none 0 0) := by kernel_rfl
theorem ze72 : zeroOf Tryd.prog 72 = some (.nilFunc) := by kernel_rfl
theorem sh72 : tyShape Tryd.prog 72 = some (false, 1) := by kernel_rfl
theorem ca34 : callable Tryd.prog 34 = true := by kernel_rfl
theorem ca33 : callable Tryd.prog 33 = true := by kernel_rfl
theorem ca62 : callable Tryd.prog 62 = true := by kernel_rfl
theorem un4 : Tryd.prog.underlying 4 = some .bool := by kernel_rfl
theorem ze34 : zeroOf Tryd.prog 34 = some (.agg #[vi 0, vi 0, vi 0, vi 0]) := by kernel_rfl
theorem ca49 : callable Tryd.prog 49 = true := by kernel_rfl
theorem ca48 : callable Tryd.prog 48 = true := by kernel_rfl
theorem st34 : stTy Tryd.prog 34 = some ([(0, 1), (1, 1), (2, 1), (3, 1)], [vi 0, vi 0, vi 0, vi 0]) := by kernel_rfl
theorem sh34 : tyShape Tryd.prog 34 = some (true, 4) := by kernel_rfl
theorem ca50 : callable Tryd.prog 50 = true := by kernel_rfl
theorem ca29 : callable Tryd.prog 29 = true := by kernel_rfl
theorem ca28 : callable Tryd.prog 28 = true := by kernel_rfl
theorem ca30 : callable Tryd.prog 30 = true := by kernel_rfl
theorem ca14 : callable Tryd.prog 14 = true := by kernel_rfl
theorem ca15 : callable Tryd.prog 15 = true := by kernel_rfl
theorem ca41 : callable Tryd.prog 41 = true := by kernel_rfl
theorem ca42 : callable Tryd.prog 42 = true := by kernel_rfl
theorem ca38 : callable Tryd.prog 38 = true := by kernel_rfl
theorem ca24 : callable Tryd.prog 24 = true := by kernel_rfl
theorem ca63 : callable Tryd.prog 63 = true := by kernel_rfl
theorem ca64 : callable Tryd.prog 64 = true := by kernel_rfl
theorem ca52 : callable Tryd.prog 52 = true := by kernel_rfl
theorem ca26 : callable Tryd.prog 26 = true := by kernel_rfl
theorem ca13 : callable Tryd.prog 13 = true := by kernel_rfl
theorem eqi34 : eqInts Tryd.prog 34 4 = true := by kernel_rfl
theorem ca35 : callable Tryd.prog 35 = true := by kernel_rfl
theorem un5 : Tryd.prog.underlying 5 = some (.int .u8) := by kernel_rfl
theorem un3 : Tryd.prog.underlying 3 = some (.int .i64) := by kernel_rfl
theorem ca16 : callable Tryd.prog 16 = true := by kernel_rfl
theorem st49 : stTy Tryd.prog 49 = some ([(0, 1), (1, 1)], [.string (bs (Str.mk [])), .slice none 0 0]) := by kernel_rfl
theorem st51 : stTy Tryd.prog 51 = some ([(0, 1), (1, 1), (2, 1), (3, 1)], [vi 0, .string (bs (Str.mk [])), .slice none 0 0, .slice none 0 0]) := by kernel_rfl
theorem ca12 : callable Tryd.prog 12 = true := by kernel_rfl
theorem fn55 (c : Int) (hc_0 : 0 ≤ c ∧ c ≤ 255) (rr : Bool) (hrr : lexer_letter c = rr) : FT Tryd.prog 55 #[.int .u8 c] [] (fun g : Unit => True) (fun g => vb rr) (fun g => []) := by
 refine FTi Tryd.func55 fun w0 M0 F0 => ?_
 refine KS ?_
 refine Oq Va (KS ?_)
 refine Oq Vm (Oq Vgeq (Oq Vm ?_))
 refine Js 5 ?_ ?_
 · intro h1
   have g2 := of_decide_eq_true h1
   refine Oq Vm (Oq Vleq (Oq Vpt (Oq Vm ?_)))
   refine Js 9 ?_ ?_
   · intro h3
     have g4 := of_decide_eq_true h3
     refine Osk (Osk (Osk (Osk (Osk (Osk (Oq Vpt (Oq Va (KS ?_))))))))
     have hq := q4 hrr true (by simp only [lexer_letter, h1, h3, cs4]); subst hq
     exact Kr () rfl (.tmp rfl .nil) [] trivial
   intro h3
   have g5 := of_decide_eq_false h3
   refine Oq Vm (Oq Vgeq (Oq Vm ?_))
   refine Js 12 ?_ ?_
   · intro h6
     have g7 := of_decide_eq_true h6
     refine Oq Vm (Oq Vleq (Oq Vpt (Oq Vpf (Oq Va (KS ?_)))))
     have hq := q4 hrr (decide (c ≤ 90)) (by simp only [lexer_letter, h1, h3, h6, cs4]); subst hq
     exact Kr () rfl (.tmp rfl .nil) [] trivial
   intro h6
   have g8 := of_decide_eq_false h6
   refine Osk (Osk (Oq Vpf (Oq Vpf (Oq Va (KS ?_)))))
   have hq := q4 hrr false (by simp only [lexer_letter, h1, h3, h6, cs4]); subst hq
   exact Kr () rfl (.tmp rfl .nil) [] trivial
 intro h1
 have g9 := of_decide_eq_false h1
 refine Osk (Osk (Oq Vpf (Oq Vm (Oq Vm (Oq Vgeq (Oq Vm ?_))))))
 refine Js 12 ?_ ?_
 · intro h10
   have g11 := of_decide_eq_true h10
   refine Oq Vm (Oq Vleq (Oq Vpt (Oq Vpf (Oq Va (KS ?_)))))
   have hq := q4 hrr (decide (c ≤ 90)) (by simp only [lexer_letter, h1, h10, cs4]); subst hq
   exact Kr () rfl (.tmp rfl .nil) [] trivial
 intro h10
 have g12 := of_decide_eq_false h10
 refine Osk (Osk (Oq Vpf (Oq Vpf (Oq Va (KS ?_)))))
 have hq := q4 hrr false (by simp only [lexer_letter, h1, h10, cs4]); subst hq
 exact Kr () rfl (.tmp rfl .nil) [] trivial
theorem fn67 (s : List Str) (sa0 : Option Addr) (sk0 : Nat) (v : Str) (hv_0 : v.b.length ≤ 140737488355328) (rr : Int) (hrr : slices_Index_string s v = rr) : FT Tryd.prog 67 #[vl sa0 sk0 s, .string (bs v)] [S sa0 sk0 s] (fun g : Unit => i64ok rr) (fun g => vi rr) (fun g => []) := by
 refine FTi Tryd.func67 fun w0 M0 F0 => ?_
 refine Fb 16 0 fun hl1 => ?_
 refine FoS 0 fun ho2 => ?_
 refine KS ?_
 refine Oq Va (KS ?_)
 refine Oq Vm (Oq (Vlen sl40) (Oq Vm (KS ?_)))
 refine Kl (γ := Nat × Int) (fun (r3, v8_4) => ⟨[(0, vl sa0 sk0 s), (1, .string (bs v)), (7, vi (s.length : Int)), (8, vi v8_4)], [S sa0 sk0 s], slices_Index_string_L0 s v r3 v8_4 = slices_Index_string_L0 s v (((s.length : Int) - 0).toNat) 0 ∧ r3 = ((s.length : Int) - v8_4).toNat ∧ (0 : Int) ≤ v8_4 ∧ v8_4 ≤ (s.length : Int) ∧ (-9223372036854775808 ≤ v8_4 ∧ v8_4 ≤ 9223372036854775807), r3⟩) (((s.length : Int) - 0).toNat, 0) [0] ⟨rfl, rfl, (by omega), (by omega), (by omega)⟩ ?_
 rintro ⟨r3, v8_4⟩ ⟨hM5, hr6, hi7, hi8, hk9⟩
 refine JJ_nx fun _ _ hL hA => ?_; dsimp only at hL hA; subst hL hA
 refine Fb 16 0 fun hl10 => ?_
 refine FoS 0 fun ho11 => ?_
 refine KS ?_
 refine Oq Vlss (KS ?_)
 refine Kc ?_ ?_
 · intro h12
   have g13 := of_decide_eq_true h12
   obtain ⟨r14, rfl⟩ := scc (n := r3) (by omega)
   refine KS ?_
   refine Oq Vm (Oq Va (KS ?_))
   refine Oq Vm (Oq Vm (Oq Vm (Oq (Vi sl40 0) ?_)))
   have hb15 := okS (i := v8_4.toNat) ho11 rng
   refine Oq (VldS sh9 0) (Oq (VeqS (l := v) (m := (s.getD v8_4.toNat default))) (KS ?_))
   refine Kc ?_ ?_
   · intro h16
     have g17 := eq_of_beq h16
     refine KS ?_
     refine Oq Vm (Oq Va (KS ?_))
     have hR18 := q2 hM5 (.ret v8_4) (by simp only [slices_Index_string_L0, h12, h16, cs4])
     have hq := q4 hrr v8_4 (by simp only [slices_Index_string, h12, h16, hR18, cs4]); subst hq
     exact Kr () rfl (.tmp rfl .nil) [] en
   intro h16
   have g19 := ne_of_beq_false h16
   refine KS ?_
   refine Oq Vadd (Oq Vm (KS ?_))
   exact Kg (r14, (v8_4 + 1)) [0] ⟨(q3 hM5 (by simp only [slices_Index_string_L0, h12, h16, cs4])), (by omega), (by omega), (by omega), (by omega)⟩
 intro h12
 have g20 := of_decide_eq_false h12
 obtain rfl : r3 = 0 := by omega
 refine Ke ?_
 have hR21 := q2 hM5 (.brk ()) (by simp only [slices_Index_string_L0, h12, cs4])
 refine KS ?_
 refine Oq Va (KS ?_)
 have hq := q4 hrr (-1) (by simp only [slices_Index_string, h12, hR21, cs4]); subst hq
 exact Kr () rfl (.tmp rfl .nil) [] en
theorem fn56 (s : List Str) (sa0 : Option Addr) (sk0 : Nat) (v : Str) (hv_0 : v.b.length ≤ 140737488355328) (rr : Bool) (hrr : slices_Contains_string s v = rr) : FT Tryd.prog 56 #[vl sa0 sk0 s, .string (bs v)] [S sa0 sk0 s] (fun g : Unit => True) (fun g => vb rr) (fun g => []) := by
 refine FTi Tryd.func56 fun w0 M0 F0 => ?_
 refine Fb 16 0 fun hl1 => ?_
 refine FoS 0 fun ho2 => ?_
 refine KS ?_
 refine Oq Va (KS ?_)
 refine Oq Vm (Oq Vm ?_)
 refine letv (slices_Index_string s v) fun rv3 hg4 => ?_
 have hc5 := fn67 s sa0 sk0 v pre rv3 hg4
 refine Oc [0] ca67 hc5 ?_
 rintro - he6
 unfold i64ok at he6
 refine Oq Vgeq (Oq Va (KS ?_))
 have hq := q4 hrr (decide (0 ≤ rv3)) (by simp only [slices_Contains_string, hg4, cs4]); subst hq
 exact Kr () rfl (.tmp rfl .nil) [] trivial
theorem fn72 (c : Int) (hc_0 : 0 ≤ c ∧ c ≤ 255) (rr : Bool) (hrr : lexer_digit c = rr) : FT Tryd.prog 72 #[.int .u8 c] [] (fun g : Unit => True) (fun g => vb rr) (fun g => []) := by
 refine FTi Tryd.func72 fun w0 M0 F0 => ?_
 refine KS ?_
 refine Oq Va (KS ?_)
 refine Oq Vm (Oq Vgeq (Oq Vm ?_))
 refine Js 5 ?_ ?_
 · intro h1
   have g2 := of_decide_eq_true h1
   refine Oq Vm (Oq Vleq (Oq Vpt (Oq Va (KS ?_))))
   have hq := q4 hrr (decide (c ≤ 57)) (by simp only [lexer_digit, h1, cs4]); subst hq
   exact Kr () rfl (.tmp rfl .nil) [] trivial
 intro h1
 have g3 := of_decide_eq_false h1
 refine Osk (Osk (Oq Vpf (Oq Va (KS ?_))))
 have hq := q4 hrr false (by simp only [lexer_digit, h1, cs4]); subst hq
 exact Kr () rfl (.tmp rfl .nil) [] trivial
theorem fn68 (c : Int) (hc_0 : 0 ≤ c ∧ c ≤ 255) (rr : Bool) (hrr : lexer_part c = rr) : FT Tryd.prog 68 #[.int .u8 c] [] (fun g : Unit => True) (fun g => vb rr) (fun g => []) := by
 refine FTi Tryd.func68 fun w0 M0 F0 => ?_
 refine KS ?_
 refine Oq Va (KS ?_)
 refine Oq Vm ?_
 refine letv (lexer_letter c) fun rv1 hg2 => ?_
 have hc3 := fn55 c pre rv1 hg2
 refine Oc [] ca55 hc3 ?_
 rintro - -
 refine Oq Vm ?_
 refine Js 5 ?_ ?_
 · intro h4
   refine Osk (Osk (Oq Vpt (Oq Vm (Osk (Osk (Oq Vpt (Oq Va (KS ?_))))))))
   have hq := q4 hrr true (by simp only [lexer_part, h4, hg2, cs4]); subst hq
   exact Kr () rfl (.tmp rfl .nil) [] trivial
 intro h4
 refine Oq Vm ?_
 refine letv (lexer_digit c) fun rv7 hg8 => ?_
 have hc9 := fn72 c pre rv7 hg8
 refine Oc [] ca72 hc9 ?_
 rintro - -
 refine Oq Vpf (Oq Vm ?_)
 refine Js 9 ?_ ?_
 · intro h10
   refine Osk (Osk (Oq Vpt (Oq Va (KS ?_))))
   have hq := q4 hrr true (by simp only [lexer_part, h4, h10, hg2, hg8, cs4]); subst hq
   exact Kr () rfl (.tmp rfl .nil) [] trivial
 intro h10
 refine Oq Vm (Oq Veql (Oq Vpf (Oq Va (KS ?_))))
 have hq := q4 hrr (c == 95) (by simp only [lexer_part, h4, h10, hg2, hg8, cs4]); subst hq
 exact Kr () rfl (.tmp rfl .nil) [] trivial
theorem fn57 (s : Str) (i : Int) (hs_0 : s.b.length ≤ 140737488355328) (hi_0 : i64ok i) (hi0 : 0 ≤ i ∧ i ≤ (s.b.length : Int)) (rr : Int) (hrr : lexer_wordEnd s i = rr) : FT Tryd.prog 57 #[.string (bs s), vi i] [] (fun g : Unit => i64ok rr ∧ (i ≤ rr ∧ rr ≤ (s.b.length : Int))) (fun g => vi rr) (fun g => []) := by
 refine FTi Tryd.func57 fun w0 M0 F0 => ?_
 unfold i64ok at hi_0
 refine KS ?_
 refine Oq Va (KS ?_)
 refine Kl (γ := Nat × Int) (fun (r1, i_2) => ⟨[(0, .string (bs s)), (1, vi i_2)], [], lexer_wordEnd_L0 s r1 i_2 = lexer_wordEnd_L0 s (((s.b.length : Int) - i).toNat) i ∧ r1 = ((s.b.length : Int) - i_2).toNat ∧ (i : Int) ≤ i_2 ∧ (i_2 ≤ (s.b.length : Int) ∨ i_2 = i) ∧ (-9223372036854775808 ≤ i_2 ∧ i_2 ≤ 9223372036854775807), r1⟩) (((s.b.length : Int) - i).toNat, i) [] ⟨rfl, rfl, (by omega), (.inr rfl), (by omega)⟩ ?_
 rintro ⟨r1, i_2⟩ ⟨hM3, hr4, hi5, hi6, hk7⟩
 refine JJ_nx fun _ _ hL hA => ?_; dsimp only at hL hA; subst hL hA
 refine KS ?_
 refine Oq Vm (Oq Vm (Oq (VlS un9 (l := s)) (Oq Vlss (Oq Vm ?_))))
 refine Js 9 ?_ ?_
 · intro h8
   have g9 := of_decide_eq_true h8
   obtain ⟨r10, rfl⟩ := scc (n := r1) (by omega)
   refine Oq Vm (Oq Vm (Oq (Vix un9 (l := s)) ?_))
   have hb11 := u8b (s.b.getD i_2.toNat 0)
   refine letv (lexer_part ((s.b.getD i_2.toNat 0).toNat : Int)) fun rv12 hg13 => ?_
   have hc14 := fn68 (((s.b.getD i_2.toNat 0).toNat : Int)) pre rv12 hg13
   refine Oc [] ca68 hc14 ?_
   rintro - -
   refine Oq Vpt (KS ?_)
   refine Kc ?_ ?_
   · intro h15
     refine KS ?_
     refine Oq Vm (Oq Vadd (Oq Va (KS ?_)))
     exact Kg (r10, (i_2 + 1)) [] ⟨(q3 hM3 (by simp only [lexer_wordEnd_L0, h8, h15, hg13, cs4])), (by omega), (by omega), (by omega), (by omega)⟩
   intro h15
   refine Ke ?_
   have hR18 := q2 hM3 i_2 (by simp only [lexer_wordEnd_L0, h8, h15, hg13, cs4])
   refine KS ?_
   refine Oq Vm (Oq Va (KS ?_))
   have hq := q4 hrr i_2 (by simp only [lexer_wordEnd, h8, h15, hg13, hR18, cs4]); subst hq
   exact Kr () rfl (.tmp rfl .nil) [] en
 intro h8
 have g19 := of_decide_eq_false h8
 obtain rfl : r1 = 0 := by omega
 refine Osk (Osk (Osk (Osk (Oq Vpf (KS ?_)))))
 refine Kf ?_
 refine Ke ?_
 have hR20 := q2 hM3 i_2 (by simp only [lexer_wordEnd_L0, h8, cs4])
 refine KS ?_
 refine Oq Vm (Oq Va (KS ?_))
 have hq := q4 hrr i_2 (by simp only [lexer_wordEnd, h8, hR20, cs4]); subst hq
 exact Kr () rfl (.tmp rfl .nil) [] en
theorem fn44 (s : Str) (kwLA : Option Addr) (kwLK : Nat) (hs_0 : s.b.length ≤ 140737488355328) (rr : Bool) (hrr : lexer_IsName s = rr) : FT Tryd.prog 44 #[.string (bs s)] [pv (gp 0) [vl kwLA kwLK kwL], S kwLA kwLK kwL] (fun g : Unit => True) (fun g => vb rr) (fun g => []) := by
 refine FTi Tryd.func44 fun w0 M0 F0 => ?_
 refine Fb 16 1 fun hl1 => ?_
 refine FoS 1 fun ho2 => ?_
 refine KS ?_
 refine Oq Va (KS ?_)
 refine Oq Vm (Oq (VeqS (l := s) (m := (Str.mk []))) (Oq Vm ?_))
 refine Js 5 ?_ ?_
 · intro h3
   have g4 := eq_of_beq h3
   refine Osk (Osk (Osk (Oq Vpt (Oq Vm (Osk (Osk (Osk (Osk (Oq Vpt ?_)))))))))
   refine Oq Vm (Osk (Osk (Osk (Oq Vpt (KS ?_)))))
   refine Kt ?_
   refine KS ?_
   refine Oq Va (KS ?_)
   have hq := q4 hrr false (by simp only [lexer_IsName, h3, cs4]); subst hq
   exact Kr () rfl (.tmp rfl .nil) [] trivial
 intro h3
 have g5 := ne_of_beq_false h3
 have hsp := str_pos h3
 refine Oq Vm (Oq (VlS un9 (l := s)) (Oq Vgtr (Oq Vpf (Oq Vm ?_))))
 refine Js 10 ?_ ?_
 · intro h6
   have g7 := of_decide_eq_true h6
   refine Osk (Osk (Osk (Osk (Oq Vpt (Oq Vm (Osk (Osk (Osk (Oq Vpt ?_)))))))))
   refine KS ?_
   refine Kt ?_
   refine KS ?_
   refine Oq Va (KS ?_)
   have hq := q4 hrr false (by simp only [lexer_IsName, h3, h6, cs4]); subst hq
   exact Kr () rfl (.tmp rfl .nil) [] trivial
 intro h6
 have g8 := of_decide_eq_false h6
 refine Oq Vm (Oq (Vix un9 (l := s)) ?_)
 have hb9 := u8b (s.b.getD (0 : Int).toNat 0)
 refine letv (lexer_letter ((s.b.getD (0 : Int).toNat 0).toNat : Int)) fun rv10 hg11 => ?_
 have hc12 := fn55 (((s.b.getD (0 : Int).toNat 0).toNat : Int)) pre rv10 hg11
 refine Oc [] ca55 hc12 ?_
 rintro - -
 refine Oq Vnot (Oq Vpf (Oq Vm ?_))
 refine Js 16 ?_ ?_
 · intro h13
   have h15 := not_true h13
   refine Osk (Osk (Osk (Oq Vpt (KS ?_))))
   refine Kt ?_
   refine KS ?_
   refine Oq Va (KS ?_)
   have hq := q4 hrr false (by simp only [lexer_IsName, h3, h6, h13, h15, hg11, cs4]); subst hq
   exact Kr () rfl (.tmp rfl .nil) [] trivial
 intro h13
 have h18 := not_false h13
 refine Oq (Vld sh40 0) (Oq Vm ?_)
 refine letv (slices_Contains_string kwL s) fun rv20 hg21 => ?_
 have hc22 := fn56 kwL kwLA kwLK s pre rv20 hg21
 refine Oc [1] ca56 hc22 ?_
 rintro - -
 refine Oq Vpf (KS ?_)
 refine Kc ?_ ?_
 · intro h23
   refine KS ?_
   refine Oq Va (KS ?_)
   have hq := q4 hrr false (by simp only [lexer_IsName, h3, h6, h13, h18, h23, hg11, hg21, cs4]); subst hq
   exact Kr () rfl (.tmp rfl .nil) [] trivial
 intro h23
 refine KS ?_
 refine Oq Vm ?_
 refine letv (lexer_wordEnd s 0) fun rv26 hg27 => ?_
 have hc28 := fn57 s 0 pre pre pre rv26 hg27
 refine Oc [] ca57 hc28 ?_
 rintro - ⟨he29, he30⟩
 unfold i64ok at he29
 refine Oq Vm (Oq (VlS un9 (l := s)) (Oq Veql (Oq Va (KS ?_))))
 have hq := q4 hrr (rv26 == (s.b.length : Int)) (by simp only [lexer_IsName, h3, h6, h13, h18, h23, hg11, hg21, hg27, cs4]); subst hq
 exact Kr () rfl (.tmp rfl .nil) [] trivial
theorem fn58 (s : List GStmt) (sa0 : Option Addr) (sk0 : Nat) (fF : FuncId) (fC : List Value) (fp : GStmt → Bool) (fA : List SP) (hfc : callable Tryd.prog fF = true) (hfF : ∀ x ∈ s, ∀ (a2 : Option Addr) (k2 : Nat) (a3 : Option Addr) (k3 : Nat), i64ok x.Op → x.Def.b.length ≤ 140737488355328 → FT Tryd.prog fF ([(.agg #[vi x.Op, .string (bs x.Def), vl a2 k2 x.Uses, vl a3 k3 x.Targets] : Value)] ++ fC).toArray ([S a2 k2 x.Uses, S a3 k3 x.Targets] ++ [pAll fA]) (fun _ : Unit => True) (fun _ => .bool (fp x)) (fun _ => [])) (rr : Int) (hrr : slices_IndexFunc_Stmt s fp = rr) : FT Tryd.prog 58 #[vl sa0 sk0 s, .func (.func fF) #[] fC.toArray] [S sa0 sk0 s, pAll fA] (fun g : Unit => i64ok rr) (fun g => vi rr) (fun g => []) := by
 refine FTi Tryd.func58 fun w0 M0 F0 => ?_
 refine Fb 72 0 fun hl1 => ?_
 refine KS ?_
 refine Oq Va (KS ?_)
 refine Oq Vm (Oq (Vlen sl47) (Oq Vm (KS ?_)))
 refine Kl (γ := Nat × Int) (fun (r2, v8_3) => ⟨[(0, vl sa0 sk0 s), (1, .func (.func fF) #[] fC.toArray), (7, vi (s.length : Int)), (8, vi v8_3)], [S sa0 sk0 s, pAll fA], slices_IndexFunc_Stmt_L0 s fp r2 v8_3 = slices_IndexFunc_Stmt_L0 s fp (((s.length : Int) - 0).toNat) 0 ∧ r2 = ((s.length : Int) - v8_3).toNat ∧ (0 : Int) ≤ v8_3 ∧ v8_3 ≤ (s.length : Int) ∧ (-9223372036854775808 ≤ v8_3 ∧ v8_3 ≤ 9223372036854775807), r2⟩) (((s.length : Int) - 0).toNat, 0) [0, 1] ⟨rfl, rfl, (by omega), (by omega), (by omega)⟩ ?_
 rintro ⟨r2, v8_3⟩ ⟨hM4, hr5, hi6, hi7, hk8⟩
 refine JJ_nx fun _ _ hL hA => ?_; dsimp only at hL hA; subst hL hA
 refine Fb 72 0 fun hl9 => ?_
 refine KS ?_
 refine Oq Vlss (KS ?_)
 refine Kc ?_ ?_
 · intro h10
   have g11 := of_decide_eq_true h10
   obtain ⟨r12, rfl⟩ := scc (n := r2) (by omega)
   refine KS ?_
   refine Oq Vm (Oq Va (KS ?_))
   refine Oq Vm (Oq Vm (Oq Vm (Oq (Vi sl47 0) ?_)))
   refine JJ_peek_GStmt v8_3.toNat 0 rfl rng fun a13 k14 a15 k16 hb17 hb18 => ?_
   unfold i64ok at hb17
   refine Fb 16 1 fun hl19 => ?_
   refine FoS 1 fun ho20 => ?_
   refine Fb 16 2 fun hl21 => ?_
   refine FoS 2 fun ho22 => ?_
   refine Oq (VldA sh51 0) ?_
   refine JO_call [1, 2, 4] rfl rfl rfl (OpC.clo («as» := [(.agg #[vi ((s.getD v8_3.toNat default).Op), .string (bs ((s.getD v8_3.toNat default).Def)), vl a13 k14 ((s.getD v8_3.toNat default).Uses), vl a15 k16 ((s.getD v8_3.toNat default).Targets)] : Value)] ++ fC) rfl rfl hfc rfl (by simp)) (hfF (s.getD v8_3.toNat default) (getD_mem rng) a13 k14 a15 k16 pre pre) rfl fun _ _ => ?_
   refine KS ?_
   refine Kc ?_ ?_
   · intro h23
     refine KS ?_
     refine Oq Vm (Oq Va (KS ?_))
     have hR25 := q2 hM4 (.ret v8_3) (by simp only [slices_IndexFunc_Stmt_L0, h10, h23, cs4])
     have hq := q4 hrr v8_3 (by simp only [slices_IndexFunc_Stmt, h10, h23, hR25, cs4]); subst hq
     exact Kr () rfl (.tmp rfl .nil) [] en
   intro h23
   refine KS ?_
   refine Oq Vadd (Oq Vm (KS ?_))
   exact Kg (r12, (v8_3 + 1)) [3, 4] ⟨(q3 hM4 (by simp only [slices_IndexFunc_Stmt_L0, h10, h23, cs4])), (by omega), (by omega), (by omega), (by omega)⟩
 intro h10
 have g27 := of_decide_eq_false h10
 obtain rfl : r2 = 0 := by omega
 refine Ke ?_
 have hR28 := q2 hM4 (.brk ()) (by simp only [slices_IndexFunc_Stmt_L0, h10, cs4])
 refine KS ?_
 refine Oq Va (KS ?_)
 have hq := q4 hrr (-1) (by simp only [slices_IndexFunc_Stmt, h10, hR28, cs4]); subst hq
 exact Kr () rfl (.tmp rfl .nil) [] en
theorem fn45 (s : List GStmt) (sa0 : Option Addr) (sk0 : Nat) (fF : FuncId) (fC : List Value) (fp : GStmt → Bool) (fA : List SP) (hfc : callable Tryd.prog fF = true) (hfF : ∀ x ∈ s, ∀ (a2 : Option Addr) (k2 : Nat) (a3 : Option Addr) (k3 : Nat), i64ok x.Op → x.Def.b.length ≤ 140737488355328 → FT Tryd.prog fF ([(.agg #[vi x.Op, .string (bs x.Def), vl a2 k2 x.Uses, vl a3 k3 x.Targets] : Value)] ++ fC).toArray ([S a2 k2 x.Uses, S a3 k3 x.Targets] ++ [pAll fA]) (fun _ : Unit => True) (fun _ => .bool (fp x)) (fun _ => [])) (rr : Bool) (hrr : slices_ContainsFunc_Stmt s fp = rr) : FT Tryd.prog 45 #[vl sa0 sk0 s, .func (.func fF) #[] fC.toArray] [S sa0 sk0 s, pAll fA] (fun g : Unit => True) (fun g => vb rr) (fun g => []) := by
 refine FTi Tryd.func45 fun w0 M0 F0 => ?_
 refine Fb 72 0 fun hl1 => ?_
 refine KS ?_
 refine Oq Va (KS ?_)
 refine Oq Vm (Oq Vm ?_)
 refine letv (slices_IndexFunc_Stmt s fp) fun rv2 hg3 => ?_
 have hc4 := fn58 s sa0 sk0 fF fC fp fA hfc hfF rv2 hg3
 refine Oc [0, 1] ca58 hc4 ?_
 rintro - he5
 unfold i64ok at he5
 refine Oq Vgeq (Oq Va (KS ?_))
 have hq := q4 hrr (decide (0 ≤ rv2)) (by simp only [slices_ContainsFunc_Stmt, hg3, cs4]); subst hq
 exact Kr () rfl (.tmp rfl .nil) [] trivial
theorem fn59 (s : List Str) (sa0 : Option Addr) (sk0 : Nat) (rr : List Str) (hrr : slices_Clone_string s = rr) : FT Tryd.prog 59 #[vl sa0 sk0 s] [S sa0 sk0 s] (fun g : Value => (rr.length = s.length)) (fun g => g) (fun g => [os g rr]) := by
 have hm : slices_Clone_string s = s := rfl
 rw [hm] at hrr
 subst hrr
 refine FTi Tryd.func59 fun w0 M0 F0 => ?_
 refine KS ?_
 refine Oq Va ?_
 refine KS ?_
 refine Oq Vm ?_
 refine Oq (VeqN un40) ?_
 refine KS ?_
 refine Kc ?_ ?_
 · intro h
   refine Jnil 0 h ?_
   intro h0
   subst h0
   refine KS ?_
   refine Oq Va ?_
   refine KS ?_
   refine Jl [] (Ent.osNil (α := Str)) ?_
   exact Kr (.slice none 0 0) rfl (.tmp rfl .nil) [0] rfl
 · intro _
   refine KS ?_
   refine Oa (As0 sl40) fun c1 => ?_
   refine Jo 0 ?_; rintro a2 k3 rfl
   refine Oq Vm ?_
   refine Fb 16 1 fun hl => ?_
   refine Jl [0] (Ent.crNil (α := Str) _) ?_
   refine Oa (Ap0 [0, 0] sl40 sl40 sz40) fun c4 => ?_
   refine Oq Va ?_
   refine KS ?_
   exact Kr c4 rfl (.tmp rfl .nil) [0] rfl
theorem fn69 (s : List Str) (sa0 : Option Addr) (sk0 : Nat) (fF : FuncId) (fC : List Value) (fp : Str → Bool) (fA : List SP) (hfc : callable Tryd.prog fF = true) (hfF : ∀ x ∈ s, x.b.length ≤ 140737488355328 → FT Tryd.prog fF ([(.string (bs x) : Value)] ++ fC).toArray ([] ++ [pAll fA]) (fun _ : Unit => True) (fun _ => .bool (fp x)) (fun _ => [])) (rr : Int) (hrr : slices_IndexFunc_string s fp = rr) : FT Tryd.prog 69 #[vl sa0 sk0 s, .func (.func fF) #[] fC.toArray] [S sa0 sk0 s, pAll fA] (fun g : Unit => i64ok rr) (fun g => vi rr) (fun g => []) := by
 refine FTi Tryd.func69 fun w0 M0 F0 => ?_
 refine Fb 16 0 fun hl1 => ?_
 refine FoS 0 fun ho2 => ?_
 refine KS ?_
 refine Oq Va (KS ?_)
 refine Oq Vm (Oq (Vlen sl40) (Oq Vm (KS ?_)))
 refine Kl (γ := Nat × Int) (fun (r3, v8_4) => ⟨[(0, vl sa0 sk0 s), (1, .func (.func fF) #[] fC.toArray), (7, vi (s.length : Int)), (8, vi v8_4)], [S sa0 sk0 s, pAll fA], slices_IndexFunc_string_L0 s fp r3 v8_4 = slices_IndexFunc_string_L0 s fp (((s.length : Int) - 0).toNat) 0 ∧ r3 = ((s.length : Int) - v8_4).toNat ∧ (0 : Int) ≤ v8_4 ∧ v8_4 ≤ (s.length : Int) ∧ (-9223372036854775808 ≤ v8_4 ∧ v8_4 ≤ 9223372036854775807), r3⟩) (((s.length : Int) - 0).toNat, 0) [0, 1] ⟨rfl, rfl, (by omega), (by omega), (by omega)⟩ ?_
 rintro ⟨r3, v8_4⟩ ⟨hM5, hr6, hi7, hi8, hk9⟩
 refine JJ_nx fun _ _ hL hA => ?_; dsimp only at hL hA; subst hL hA
 refine Fb 16 0 fun hl10 => ?_
 refine FoS 0 fun ho11 => ?_
 refine KS ?_
 refine Oq Vlss (KS ?_)
 refine Kc ?_ ?_
 · intro h12
   have g13 := of_decide_eq_true h12
   obtain ⟨r14, rfl⟩ := scc (n := r3) (by omega)
   refine KS ?_
   refine Oq Vm (Oq Va (KS ?_))
   refine Oq Vm (Oq Vm (Oq Vm (Oq (Vi sl40 0) ?_)))
   have hb15 := okS (i := v8_4.toNat) ho11 rng
   refine Oq (VldS sh9 0) ?_
   refine JO_call [1] rfl rfl rfl (OpC.clo («as» := [(.string (bs (s.getD v8_4.toNat default)) : Value)] ++ fC) rfl rfl hfc rfl (by simp)) (hfF (s.getD v8_4.toNat default) (getD_mem rng)  pre) rfl fun _ _ => ?_
   refine KS ?_
   refine Kc ?_ ?_
   · intro h16
     refine KS ?_
     refine Oq Vm (Oq Va (KS ?_))
     have hR18 := q2 hM5 (.ret v8_4) (by simp only [slices_IndexFunc_string_L0, h12, h16, cs4])
     have hq := q4 hrr v8_4 (by simp only [slices_IndexFunc_string, h12, h16, hR18, cs4]); subst hq
     exact Kr () rfl (.tmp rfl .nil) [] en
   intro h16
   refine KS ?_
   refine Oq Vadd (Oq Vm (KS ?_))
   exact Kg (r14, (v8_4 + 1)) [0, 1] ⟨(q3 hM5 (by simp only [slices_IndexFunc_string_L0, h12, h16, cs4])), (by omega), (by omega), (by omega), (by omega)⟩
 intro h12
 have g20 := of_decide_eq_false h12
 obtain rfl : r3 = 0 := by omega
 refine Ke ?_
 have hR21 := q2 hM5 (.brk ()) (by simp only [slices_IndexFunc_string_L0, h12, cs4])
 refine KS ?_
 refine Oq Va (KS ?_)
 have hq := q4 hrr (-1) (by simp only [slices_IndexFunc_string, h12, hR21, cs4]); subst hq
 exact Kr () rfl (.tmp rfl .nil) [] en
theorem fn60 (s : List Str) (sa0 : Option Addr) (sk0 : Nat) (fF : FuncId) (fC : List Value) (fp : Str → Bool) (fA : List SP) (hfc : callable Tryd.prog fF = true) (hfF : ∀ x ∈ s, x.b.length ≤ 140737488355328 → FT Tryd.prog fF ([(.string (bs x) : Value)] ++ fC).toArray ([] ++ [pAll fA]) (fun _ : Unit => True) (fun _ => .bool (fp x)) (fun _ => [])) (rr : Bool) (hrr : slices_ContainsFunc_string s fp = rr) : FT Tryd.prog 60 #[vl sa0 sk0 s, .func (.func fF) #[] fC.toArray] [S sa0 sk0 s, pAll fA] (fun g : Unit => True) (fun g => vb rr) (fun g => []) := by
 refine FTi Tryd.func60 fun w0 M0 F0 => ?_
 refine Fb 16 0 fun hl1 => ?_
 refine FoS 0 fun ho2 => ?_
 refine KS ?_
 refine Oq Va (KS ?_)
 refine Oq Vm (Oq Vm ?_)
 refine letv (slices_IndexFunc_string s fp) fun rv3 hg4 => ?_
 have hc5 := fn69 s sa0 sk0 fF fC fp fA hfc hfF rv3 hg4
 refine Oc [0, 1] ca69 hc5 ?_
 rintro - he6
 unfold i64ok at he6
 refine Oq Vgeq (Oq Va (KS ?_))
 have hq := q4 hrr (decide (0 ≤ rv3)) (by simp only [slices_ContainsFunc_string, hg4, cs4]); subst hq
 exact Kr () rfl (.tmp rfl .nil) [] trivial
theorem fn61 (n : Str) (kwLA : Option Addr) (kwLK : Nat) (hn_0 : n.b.length ≤ 140737488355328) (rr : Bool) (hrr : syntax_valid_1 n = rr) : FT Tryd.prog 61 #[.string (bs n)] [pv (gp 0) [vl kwLA kwLK kwL], S kwLA kwLK kwL] (fun g : Unit => True) (fun g => vb rr) (fun g => []) := by
 refine FTi Tryd.func61 fun w0 M0 F0 => ?_
 refine Fb 16 1 fun hl1 => ?_
 refine FoS 1 fun ho2 => ?_
 refine KS ?_
 refine Oq Va (KS ?_)
 refine Oq Vm ?_
 refine letv (lexer_IsName n) fun rv3 hg4 => ?_
 have hc5 := fn44 n kwLA kwLK pre rv3 hg4
 refine Oc [0, 1] ca44 hc5 ?_
 rintro - -
 refine Oq Vnot (Oq Va (KS ?_))
 have hq := q4 hrr (!rv3) (by simp only [syntax_valid_1, hg4, cs4]); subst hq
 exact Kr () rfl (.tmp rfl .nil) [] trivial
theorem fn47 (s : GStmt) (sa2 : Option Addr) (sk2 : Nat) (sa3 : Option Addr) (sk3 : Nat) (kwLA : Option Addr) (kwLK : Nat) (hs_0 : i64ok s.Op) (hs_1 : s.Def.b.length ≤ 140737488355328) (hsm : SSm s = true) (rr : Bool) (hrr : syntax_valid s = rr) : FT Tryd.prog 47 #[.agg #[vi s.Op, .string (bs s.Def), vl sa2 sk2 s.Uses, vl sa3 sk3 s.Targets]] [S sa2 sk2 s.Uses, S sa3 sk3 s.Targets, pv (gp 0) [vl kwLA kwLK kwL], S kwLA kwLK kwL] (fun g : Unit => True) (fun g => vb rr) (fun g => []) := by
 refine FTi Tryd.func47 fun w0 M0 F0 => ?_
 unfold i64ok at hs_0
 refine Fb 16 0 fun hl1 => ?_
 refine FoS 0 fun ho2 => ?_
 refine Fb 16 1 fun hl3 => ?_
 refine FoS 1 fun ho4 => ?_
 refine Fb 16 3 fun hl5 => ?_
 refine FoS 3 fun ho6 => ?_
 have hsl := SSm_l hsm
 refine KS ?_
 refine Oa (Ab [vi s.Op, .string (bs s.Def), vl sa2 sk2 s.Uses, vl sa3 sk3 s.Targets]) fun p7 => Oq Va (KS ?_)
 refine Kq [0, 1, 3, 0, 15, 31] fmix ?_
 refine Qv [0] (Vfa fo51_2 0) (Qv [0] (VldF sh40 0) (Qv [] (Vlen sl40) (Qv [] Va (Qv [] Va (Qv [] Va ?_)))))
 refine Qn ⟨by kernel_rfl, ?_⟩
 refine KS ?_
 refine Oq (Vfa fo51_0 0) (Oq (VldF sh3 0) (KS ?_))
 refine Oq Veql (Oq Va (KS ?_))
 refine Kc ?_ ?_
 · intro h8
   have g9 := eq_of_beq h8
   refine Ke ?_
   refine KS ?_
   refine Oq Va (KS ?_)
   refine Ke ?_
   refine KS ?_
   refine JK_drawK [0, 1, 3, 0, 8, 31, 63] fmix ?_
   refine Dv [0] (Vfa fo51_2 0) (Dv [0] (VldF sh40 0) ?_)
   refine letv (slices_Clone_string s.Uses) fun rv11 hg12 => ?_
   refine Dx [1] [] [2, 0, 1] (fun G => (G.g 2 0)) [fun G => SP.fact ((rv11.length = s.Uses.length)), fun G => os (G.g 2 0) rv11] (fun G => xC [0] ca59 (fn59 s.Uses sa2 sk2 rv11 hg12)) (Dv [0] (Vfa fo51_3 0) (Dv [0] (VldF sh40 0) ?_))
   have hn14 := la rv11 s.Targets
   refine Dx [2, 5, 6] [6] [1, 2, 0] (fun G => (G.g 5 0)) [fun G => os (G.g 5 0) (rv11 ++ s.Targets)] (fun G => by refine xf 1 rfl ?_; rintro he15; exact xA (Ap [2, 0] sl40 sl40 sz40)) (Dg [] (fun G => (G.g 5 0)) (fun G => Va) ?_)
   refine Dn ⟨by kernel_rfl, fun G => ?_⟩
   refine Jw2 [(1, p7), (4, vi (s.Uses.length : Int)), (5, vi 0), (3, vi 1), (6, (G.g 5 0))] [0, 1, 2, 3, 4] [SP.fact ((rv11.length = s.Uses.length)), os (G.g 5 0) (rv11 ++ s.Targets)] ?_
   generalize G.g 5 0 = c13
   refine Jf 5 rfl ?_; rintro he16
   refine Jk [0, 1, 2, 3, 4, 6] ?_
   refine Jo 5 ?_; rintro a17 k18 rfl
   refine Fb 16 5 fun hl19 => ?_
   refine FoS 5 fun ho20 => ?_
   refine KS ?_
   refine Oq Vm (Oq Veql (KS ?_))
   refine Kt ?_
   refine KS ?_
   refine Oq Vm (Oq (Vfa fo51_1 0) (Oq (VldF sh9 0) (Oa (AsV sl40 sz40 [.string (bs s.Def)] [.string (bs s.Def)]) fun c21 => ?_)))
   refine Jo 0 ?_; rintro a22 k23 rfl
   refine Jl [0] (Ent.cr1 (α := Str) (A := []) _ s.Def _ (Nat.le_of_ble_eq_true rfl) (fun _ => ⟨rfl, by first | omega | (simp; done) | (dsimp only; omega)⟩)) ?_
   refine Oa (ApO [6, 0] sl40 sl40 sz40) fun c24 => ?_
   refine Jo 0 ?_; rintro a25 k26 rfl
   refine Fb 16 0 fun hl27 => ?_
   refine FoS 0 fun ho28 => ?_
   have hn29 := la (rv11 ++ s.Targets) ([s.Def] : List Str)
   refine Oq Va (KS ?_)
   refine Oq Vm (Oq Veql (Oq Vm (Osk (Osk (Osk (Oq Vpt (Oq Vm (Oq (Vfa fo51_2 1) (Oq (VldF sh40 1) ?_)))))))))
   refine Oq (Vlen sl40) (Oq Vm (Oq Veql (Oq Vpt (Oq Vm ?_))))
   refine Js 64 ?_ ?_
   · intro h30
     have g31 := eq_of_beq h30
     refine Oq Vm (Oq Vleq (Oq Vpt (Oq Vm ?_)))
     refine Js 68 ?_ ?_
     · intro h32
       have g33 := of_decide_eq_true h32
       refine Oq (Vfa fo51_3 1) (Oq (VldF sh40 1) (Oq (Vlen sl40) (Oq Vm (Oq Veql (Oq Vpt (Oq Vm ?_))))))
       refine Js 75 ?_ ?_
       · intro h34
         have g35 := eq_of_beq h34
         refine Oq Vm ?_
         refine Jl [0] (Ent.freeze _ _) ?_
         refine JJ_ent (Ent.pall [4, 5] rfl rfl) ?_
         refine letv (slices_ContainsFunc_string ((rv11 ++ s.Targets) ++ [s.Def]) (fun x => syntax_valid_1 x)) fun rv36 hg37 => ?_
         have hc38 := fn60 (((rv11 ++ s.Targets) ++ [s.Def])) a25 k26 61 [] (fun x => syntax_valid_1 x) [pv (gp 0) [vl kwLA kwLK kwL], S kwLA kwLK kwL] ca61 (fun x hx hq0 => FT_pall (A1 := _) (fn61 x  kwLA kwLK hq0 _ rfl)) rv36 hg37
         refine Oc [1, 0] ca60 hc38 ?_
         rintro - -
         refine Oq Vnot (Oq Vpt (Oq Va (KS ?_)))
         have hq := q4 hrr (!rv36) (by simp only [syntax_valid, h8, h30, h32, h34, hg12, hg37, cs4]); subst hq
         exact Kr () rfl (.tmp rfl .nil) [] trivial
       intro h34
       have g39 := ne_of_beq_false h34
       refine Osk (Osk (Osk (Oq Vpf (Oq Va (KS ?_)))))
       have hq := q4 hrr false (by simp only [syntax_valid, h8, h30, h32, h34, hg12, cs4]); subst hq
       exact Kr () rfl (.tmp rfl .nil) [] trivial
     intro h32
     have g40 := of_decide_eq_false h32
     refine Osk (Osk (Osk (Osk (Osk (Oq Vpf (Oq Vm (Osk (Osk (Osk ?_)))))))))
     refine Oq Vpf (Oq Va (KS ?_))
     have hq := q4 hrr false (by simp only [syntax_valid, h8, h30, h32, hg12, cs4]); subst hq
     exact Kr () rfl (.tmp rfl .nil) [] trivial
   intro h30
   have g41 := ne_of_beq_false h30
   refine Osk (Osk (Oq Vpf (Oq Vm (Osk (Osk (Osk (Osk (Osk (Oq Vpf ?_)))))))))
   refine Oq Vm (Osk (Osk (Osk (Oq Vpf (Oq Va (KS ?_))))))
   have hq := q4 hrr false (by simp only [syntax_valid, h8, h30, hg12, cs4]); subst hq
   exact Kr () rfl (.tmp rfl .nil) [] trivial
 intro h8
 have g42 := ne_of_beq_false h8
 refine KS ?_
 refine Oq Veql (Oq Va (KS ?_))
 refine Kc ?_ ?_
 · intro h43
   have g44 := eq_of_beq h43
   refine Ke ?_
   refine KS ?_
   refine Oq Vm (Oq Vmax (Oq Va (KS ?_)))
   refine Ke ?_
   refine KS ?_
   refine JK_drawK [0, 1, 3, 0, 8, 31, 63] fmix ?_
   refine Dv [0] (Vfa fo51_2 0) (Dv [0] (VldF sh40 0) ?_)
   refine letv (slices_Clone_string s.Uses) fun rv46 hg47 => ?_
   refine Dx [1] [] [2, 0, 1] (fun G => (G.g 2 0)) [fun G => SP.fact ((rv46.length = s.Uses.length)), fun G => os (G.g 2 0) rv46] (fun G => xC [0] ca59 (fn59 s.Uses sa2 sk2 rv46 hg47)) (Dv [0] (Vfa fo51_3 0) (Dv [0] (VldF sh40 0) ?_))
   have hn49 := la rv46 s.Targets
   refine Dx [2, 5, 6] [6] [1, 2, 0] (fun G => (G.g 5 0)) [fun G => os (G.g 5 0) (rv46 ++ s.Targets)] (fun G => by refine xf 1 rfl ?_; rintro he50; exact xA (Ap [2, 0] sl40 sl40 sz40)) (Dg [] (fun G => (G.g 5 0)) (fun G => Va) ?_)
   refine Dn ⟨by kernel_rfl, fun G => ?_⟩
   refine Jw2 [(1, p7), (3, vi 0), (5, vi 0), (4, vi (max (s.Uses.length : Int) 1)), (6, (G.g 5 0))] [0, 1, 2, 3, 4] [SP.fact ((rv46.length = s.Uses.length)), os (G.g 5 0) (rv46 ++ s.Targets)] ?_
   generalize G.g 5 0 = c48
   refine Jf 5 rfl ?_; rintro he51
   refine Jk [0, 1, 2, 3, 4, 6] ?_
   refine Jo 5 ?_; rintro a52 k53 rfl
   refine Fb 16 5 fun hl54 => ?_
   refine FoS 5 fun ho55 => ?_
   refine KS ?_
   refine Oq Vm (Oq Veql (KS ?_))
   refine Kf ?_
   refine KS ?_
   refine Oq Vm (Oq Veql (Oq Vm (Oq (Vfa fo51_1 0) (Oq (VldF sh9 0) (Oq (VeqS (l := s.Def) (m := (Str.mk []))) (Oq Vpf (Oq Vm ?_)))))))
   refine Js 57 ?_ ?_
   · intro h56
     have g57 := eq_of_beq h56
     refine Oq (Vfa fo51_2 0) (Oq (VldF sh40 0) (Oq (Vlen sl40) (Oq Vm (Oq Veql (Oq Vpt (Oq Vm ?_))))))
     refine Js 64 ?_ ?_
     · intro h58
       have g59 := eq_of_beq h58
       refine Oq Vm (Oq Vleq (Oq Vpt (Oq Vm ?_)))
       refine Js 68 ?_ ?_
       · intro h60
         have g61 := of_decide_eq_true h60
         refine Oq (Vfa fo51_3 0) (Oq (VldF sh40 0) (Oq (Vlen sl40) (Oq Vm (Oq Veql (Oq Vpt (Oq Vm ?_))))))
         refine Js 75 ?_ ?_
         · intro h62
           have g63 := eq_of_beq h62
           refine Oq Vm ?_
           refine Jl [5] (Ent.freeze _ _) ?_
           refine JJ_ent (Ent.pall [4, 5] rfl rfl) ?_
           refine letv (slices_ContainsFunc_string (rv46 ++ s.Targets) (fun x => syntax_valid_1 x)) fun rv64 hg65 => ?_
           have hc66 := fn60 ((rv46 ++ s.Targets)) a52 k53 61 [] (fun x => syntax_valid_1 x) [pv (gp 0) [vl kwLA kwLK kwL], S kwLA kwLK kwL] ca61 (fun x hx hq0 => FT_pall (A1 := _) (fn61 x  kwLA kwLK hq0 _ rfl)) rv64 hg65
           refine Oc [1, 0] ca60 hc66 ?_
           rintro - -
           refine Oq Vnot (Oq Vpt (Oq Va (KS ?_)))
           have hq := q4 hrr (!rv64) (by simp only [syntax_valid, h8, h43, h56, h58, h60, h62, hg47, hg65, cs4]); subst hq
           exact Kr () rfl (.tmp rfl .nil) [] trivial
         intro h62
         have g67 := ne_of_beq_false h62
         refine Osk (Osk (Osk (Oq Vpf (Oq Va (KS ?_)))))
         have hq := q4 hrr false (by simp only [syntax_valid, h8, h43, h56, h58, h60, h62, hg47, cs4]); subst hq
         exact Kr () rfl (.tmp rfl .nil) [] trivial
       intro h60
       have g68 := of_decide_eq_false h60
       refine Osk (Osk (Osk (Osk (Osk (Oq Vpf (Oq Vm (Osk (Osk (Osk ?_)))))))))
       refine Oq Vpf (Oq Va (KS ?_))
       have hq := q4 hrr false (by simp only [syntax_valid, h8, h43, h56, h58, h60, hg47, cs4]); subst hq
       exact Kr () rfl (.tmp rfl .nil) [] trivial
     intro h58
     have g69 := ne_of_beq_false h58
     refine Osk (Osk (Oq Vpf (Oq Vm (Osk (Osk (Osk (Osk (Osk (Oq Vpf ?_)))))))))
     refine Oq Vm (Osk (Osk (Osk (Oq Vpf (Oq Va (KS ?_))))))
     have hq := q4 hrr false (by simp only [syntax_valid, h8, h43, h56, h58, hg47, cs4]); subst hq
     exact Kr () rfl (.tmp rfl .nil) [] trivial
   intro h56
   have g70 := ne_of_beq_false h56
   refine Osk (Osk (Osk (Osk (Osk (Oq Vpf (Oq Vm (Osk (Osk (Oq Vpf ?_)))))))))
   refine Oq Vm (Osk (Osk (Osk (Osk (Osk (Oq Vpf (Oq Vm (Osk (Osk ?_)))))))))
   refine Osk (Oq Vpf (Oq Va (KS ?_)))
   have hq := q4 hrr false (by simp only [syntax_valid, h8, h43, h56, hg47, cs4]); subst hq
   exact Kr () rfl (.tmp rfl .nil) [] trivial
 intro h43
 have g71 := ne_of_beq_false h43
 refine KS ?_
 refine Oq Veql (Oq Va (KS ?_))
 refine Kc ?_ ?_
 · intro h72
   have g73 := eq_of_beq h72
   refine Ke ?_
   refine KS ?_
   refine Oq Va (KS ?_)
   refine Ke ?_
   refine KS ?_
   refine JK_drawK [0, 1, 3, 0, 8, 31, 63] fmix ?_
   refine Dv [0] (Vfa fo51_2 0) (Dv [0] (VldF sh40 0) ?_)
   refine letv (slices_Clone_string s.Uses) fun rv75 hg76 => ?_
   refine Dx [1] [] [2, 0, 1] (fun G => (G.g 2 0)) [fun G => SP.fact ((rv75.length = s.Uses.length)), fun G => os (G.g 2 0) rv75] (fun G => xC [0] ca59 (fn59 s.Uses sa2 sk2 rv75 hg76)) (Dv [0] (Vfa fo51_3 0) (Dv [0] (VldF sh40 0) ?_))
   have hn78 := la rv75 s.Targets
   refine Dx [2, 5, 6] [6] [1, 2, 0] (fun G => (G.g 5 0)) [fun G => os (G.g 5 0) (rv75 ++ s.Targets)] (fun G => by refine xf 1 rfl ?_; rintro he79; exact xA (Ap [2, 0] sl40 sl40 sz40)) (Dg [] (fun G => (G.g 5 0)) (fun G => Va) ?_)
   refine Dn ⟨by kernel_rfl, fun G => ?_⟩
   refine Jw2 [(1, p7), (3, vi 0), (5, vi 0), (4, vi 1), (6, (G.g 5 0))] [0, 1, 2, 3, 4] [SP.fact ((rv75.length = s.Uses.length)), os (G.g 5 0) (rv75 ++ s.Targets)] ?_
   generalize G.g 5 0 = c77
   refine Jf 5 rfl ?_; rintro he80
   refine Jk [0, 1, 2, 3, 4, 6] ?_
   refine Jo 5 ?_; rintro a81 k82 rfl
   refine Fb 16 5 fun hl83 => ?_
   refine FoS 5 fun ho84 => ?_
   refine KS ?_
   refine Oq Vm (Oq Veql (KS ?_))
   refine Kf ?_
   refine KS ?_
   refine Oq Vm (Oq Veql (Oq Vm (Oq (Vfa fo51_1 0) (Oq (VldF sh9 0) (Oq (VeqS (l := s.Def) (m := (Str.mk []))) (Oq Vpf (Oq Vm ?_)))))))
   refine Js 57 ?_ ?_
   · intro h85
     have g86 := eq_of_beq h85
     refine Oq (Vfa fo51_2 0) (Oq (VldF sh40 0) (Oq (Vlen sl40) (Oq Vm (Oq Veql (Oq Vpt (Oq Vm ?_))))))
     refine Js 64 ?_ ?_
     · intro h87
       have g88 := eq_of_beq h87
       refine Oq Vm (Oq Vleq (Oq Vpt (Oq Vm (Oq (Vfa fo51_3 0) (Oq (VldF sh40 0) (Oq (Vlen sl40) (Oq Vm (Oq Veql (Oq Vpt ?_)))))))))
       refine Oq Vm ?_
       refine Js 75 ?_ ?_
       · intro h89
         have g90 := eq_of_beq h89
         refine Oq Vm ?_
         refine Jl [5] (Ent.freeze _ _) ?_
         refine JJ_ent (Ent.pall [4, 5] rfl rfl) ?_
         refine letv (slices_ContainsFunc_string (rv75 ++ s.Targets) (fun x => syntax_valid_1 x)) fun rv91 hg92 => ?_
         have hc93 := fn60 ((rv75 ++ s.Targets)) a81 k82 61 [] (fun x => syntax_valid_1 x) [pv (gp 0) [vl kwLA kwLK kwL], S kwLA kwLK kwL] ca61 (fun x hx hq0 => FT_pall (A1 := _) (fn61 x  kwLA kwLK hq0 _ rfl)) rv91 hg92
         refine Oc [1, 0] ca60 hc93 ?_
         rintro - -
         refine Oq Vnot (Oq Vpt (Oq Va (KS ?_)))
         have hq := q4 hrr (!rv91) (by simp only [syntax_valid, h8, h43, h72, h85, h87, h89, hg76, hg92, cs4]); subst hq
         exact Kr () rfl (.tmp rfl .nil) [] trivial
       intro h89
       have g94 := ne_of_beq_false h89
       refine Osk (Osk (Osk (Oq Vpf (Oq Va (KS ?_)))))
       have hq := q4 hrr false (by simp only [syntax_valid, h8, h43, h72, h85, h87, h89, hg76, cs4]); subst hq
       exact Kr () rfl (.tmp rfl .nil) [] trivial
     intro h87
     have g95 := ne_of_beq_false h87
     refine Osk (Osk (Oq Vpf (Oq Vm (Osk (Osk (Osk (Osk (Osk (Oq Vpf ?_)))))))))
     refine Oq Vm (Osk (Osk (Osk (Oq Vpf (Oq Va (KS ?_))))))
     have hq := q4 hrr false (by simp only [syntax_valid, h8, h43, h72, h85, h87, hg76, cs4]); subst hq
     exact Kr () rfl (.tmp rfl .nil) [] trivial
   intro h85
   have g96 := ne_of_beq_false h85
   refine Osk (Osk (Osk (Osk (Osk (Oq Vpf (Oq Vm (Osk (Osk (Oq Vpf ?_)))))))))
   refine Oq Vm (Osk (Osk (Osk (Osk (Osk (Oq Vpf (Oq Vm (Osk (Osk ?_)))))))))
   refine Osk (Oq Vpf (Oq Va (KS ?_)))
   have hq := q4 hrr false (by simp only [syntax_valid, h8, h43, h72, h85, hg76, cs4]); subst hq
   exact Kr () rfl (.tmp rfl .nil) [] trivial
 intro h72
 have g97 := ne_of_beq_false h72
 refine KS ?_
 refine Oq Veql (Oq Va (KS ?_))
 refine Kc ?_ ?_
 · intro h98
   have g99 := eq_of_beq h98
   refine KS ?_
   refine Kc ?_ ?_
   · intro h100
     have g101 := eq_of_beq h100
     refine Ke ?_
     refine KS ?_
     refine Oq Va (KS ?_)
     refine Oq Va (KS ?_)
     refine Ke ?_
     refine KS ?_
     refine JK_drawK [0, 1, 3, 0, 8, 31, 63] fmix ?_
     refine Dv [0] (Vfa fo51_2 0) (Dv [0] (VldF sh40 0) ?_)
     refine letv (slices_Clone_string s.Uses) fun rv103 hg104 => ?_
     refine Dx [1] [] [2, 0, 1] (fun G => (G.g 2 0)) [fun G => SP.fact ((rv103.length = s.Uses.length)), fun G => os (G.g 2 0) rv103] (fun G => xC [0] ca59 (fn59 s.Uses sa2 sk2 rv103 hg104)) (Dv [0] (Vfa fo51_3 0) (Dv [0] (VldF sh40 0) ?_))
     have hn106 := la rv103 s.Targets
     refine Dx [2, 5, 6] [6] [1, 2, 0] (fun G => (G.g 5 0)) [fun G => os (G.g 5 0) (rv103 ++ s.Targets)] (fun G => by refine xf 1 rfl ?_; rintro he107; exact xA (Ap [2, 0] sl40 sl40 sz40)) (Dg [] (fun G => (G.g 5 0)) (fun G => Va) ?_)
     refine Dn ⟨by kernel_rfl, fun G => ?_⟩
     refine Jw2 [(1, p7), (5, vi 0), (3, vi 1), (4, vi 0), (6, (G.g 5 0))] [0, 1, 2, 3, 4] [SP.fact ((rv103.length = s.Uses.length)), os (G.g 5 0) (rv103 ++ s.Targets)] ?_
     generalize G.g 5 0 = c105
     refine Jf 5 rfl ?_; rintro he108
     refine Jk [0, 1, 2, 3, 4, 6] ?_
     refine Jo 5 ?_; rintro a109 k110 rfl
     refine Fb 16 5 fun hl111 => ?_
     refine FoS 5 fun ho112 => ?_
     refine KS ?_
     refine Oq Vm (Oq Veql (KS ?_))
     refine Kt ?_
     refine KS ?_
     refine Oq Vm (Oq (Vfa fo51_1 0) (Oq (VldF sh9 0) (Oa (AsV sl40 sz40 [.string (bs s.Def)] [.string (bs s.Def)]) fun c113 => ?_)))
     refine Jo 0 ?_; rintro a114 k115 rfl
     refine Jl [0] (Ent.cr1 (α := Str) (A := []) _ s.Def _ (Nat.le_of_ble_eq_true rfl) (fun _ => ⟨rfl, by first | omega | (simp; done) | (dsimp only; omega)⟩)) ?_
     refine Oa (ApO [6, 0] sl40 sl40 sz40) fun c116 => ?_
     refine Jo 0 ?_; rintro a117 k118 rfl
     refine Fb 16 0 fun hl119 => ?_
     refine FoS 0 fun ho120 => ?_
     have hn121 := la (rv103 ++ s.Targets) ([s.Def] : List Str)
     refine Oq Va (KS ?_)
     refine Oq Vm (Oq Veql (Oq Vm (Osk (Osk (Osk (Oq Vpt (Oq Vm (Oq (Vfa fo51_2 1) (Oq (VldF sh40 1) ?_)))))))))
     refine Oq (Vlen sl40) (Oq Vm (Oq Veql (Oq Vpt (Oq Vm ?_))))
     refine Js 64 ?_ ?_
     · intro h122
       have g123 := eq_of_beq h122
       refine Oq Vm (Oq Vleq (Oq Vpt (Oq Vm (Oq (Vfa fo51_3 1) (Oq (VldF sh40 1) (Oq (Vlen sl40) (Oq Vm (Oq Veql (Oq Vpt ?_)))))))))
       refine Oq Vm ?_
       refine Js 75 ?_ ?_
       · intro h124
         have g125 := eq_of_beq h124
         refine Oq Vm ?_
         refine Jl [0] (Ent.freeze _ _) ?_
         refine JJ_ent (Ent.pall [4, 5] rfl rfl) ?_
         refine letv (slices_ContainsFunc_string ((rv103 ++ s.Targets) ++ [s.Def]) (fun x => syntax_valid_1 x)) fun rv126 hg127 => ?_
         have hc128 := fn60 (((rv103 ++ s.Targets) ++ [s.Def])) a117 k118 61 [] (fun x => syntax_valid_1 x) [pv (gp 0) [vl kwLA kwLK kwL], S kwLA kwLK kwL] ca61 (fun x hx hq0 => FT_pall (A1 := _) (fn61 x  kwLA kwLK hq0 _ rfl)) rv126 hg127
         refine Oc [1, 0] ca60 hc128 ?_
         rintro - -
         refine Oq Vnot (Oq Vpt (Oq Va (KS ?_)))
         have hq := q4 hrr (!rv126) (by simp only [syntax_valid, h8, h43, h72, h98, h100, h122, h124, hg104, hg127, cs4]); subst hq
         exact Kr () rfl (.tmp rfl .nil) [] trivial
       intro h124
       have g129 := ne_of_beq_false h124
       refine Osk (Osk (Osk (Oq Vpf (Oq Va (KS ?_)))))
       have hq := q4 hrr false (by simp only [syntax_valid, h8, h43, h72, h98, h100, h122, h124, hg104, cs4]); subst hq
       exact Kr () rfl (.tmp rfl .nil) [] trivial
     intro h122
     have g130 := ne_of_beq_false h122
     refine Osk (Osk (Oq Vpf (Oq Vm (Osk (Osk (Osk (Osk (Osk (Oq Vpf ?_)))))))))
     refine Oq Vm (Osk (Osk (Osk (Oq Vpf (Oq Va (KS ?_))))))
     have hq := q4 hrr false (by simp only [syntax_valid, h8, h43, h72, h98, h100, h122, hg104, cs4]); subst hq
     exact Kr () rfl (.tmp rfl .nil) [] trivial
   intro h100
   exact absurd h100 (by first | (simp [h98]; done) | (simp only [bne, h98]; decide) | (simp only [bne, h98, Bool.not_true, Bool.not_false]; decide) | (exfalso; omega) | (intro hq; simp only [bne, hq, Bool.not_false, Bool.not_true, reduceCtorEq] at h98))
 intro h98
 have g131 := ne_of_beq_false h98
 refine KS ?_
 refine Oq Veql (Oq Va (KS ?_))
 refine Kc ?_ ?_
 · intro h132
   have g133 := eq_of_beq h132
   refine Ke ?_
   refine KS ?_
   refine Oq Va (KS ?_)
   refine Oq Va (KS ?_)
   refine Ke ?_
   refine KS ?_
   refine JK_drawK [0, 1, 3, 0, 8, 31, 63] fmix ?_
   refine Dv [0] (Vfa fo51_2 0) (Dv [0] (VldF sh40 0) ?_)
   refine letv (slices_Clone_string s.Uses) fun rv135 hg136 => ?_
   refine Dx [1] [] [2, 0, 1] (fun G => (G.g 2 0)) [fun G => SP.fact ((rv135.length = s.Uses.length)), fun G => os (G.g 2 0) rv135] (fun G => xC [0] ca59 (fn59 s.Uses sa2 sk2 rv135 hg136)) (Dv [0] (Vfa fo51_3 0) (Dv [0] (VldF sh40 0) ?_))
   have hn138 := la rv135 s.Targets
   refine Dx [2, 5, 6] [6] [1, 2, 0] (fun G => (G.g 5 0)) [fun G => os (G.g 5 0) (rv135 ++ s.Targets)] (fun G => by refine xf 1 rfl ?_; rintro he139; exact xA (Ap [2, 0] sl40 sl40 sz40)) (Dg [] (fun G => (G.g 5 0)) (fun G => Va) ?_)
   refine Dn ⟨by kernel_rfl, fun G => ?_⟩
   refine Jw2 [(1, p7), (5, vi 0), (3, vi 1), (4, vi 0), (6, (G.g 5 0))] [0, 1, 2, 3, 4] [SP.fact ((rv135.length = s.Uses.length)), os (G.g 5 0) (rv135 ++ s.Targets)] ?_
   generalize G.g 5 0 = c137
   refine Jf 5 rfl ?_; rintro he140
   refine Jk [0, 1, 2, 3, 4, 6] ?_
   refine Jo 5 ?_; rintro a141 k142 rfl
   refine Fb 16 5 fun hl143 => ?_
   refine FoS 5 fun ho144 => ?_
   refine KS ?_
   refine Oq Vm (Oq Veql (KS ?_))
   refine Kt ?_
   refine KS ?_
   refine Oq Vm (Oq (Vfa fo51_1 0) (Oq (VldF sh9 0) (Oa (AsV sl40 sz40 [.string (bs s.Def)] [.string (bs s.Def)]) fun c145 => ?_)))
   refine Jo 0 ?_; rintro a146 k147 rfl
   refine Jl [0] (Ent.cr1 (α := Str) (A := []) _ s.Def _ (Nat.le_of_ble_eq_true rfl) (fun _ => ⟨rfl, by first | omega | (simp; done) | (dsimp only; omega)⟩)) ?_
   refine Oa (ApO [6, 0] sl40 sl40 sz40) fun c148 => ?_
   refine Jo 0 ?_; rintro a149 k150 rfl
   refine Fb 16 0 fun hl151 => ?_
   refine FoS 0 fun ho152 => ?_
   have hn153 := la (rv135 ++ s.Targets) ([s.Def] : List Str)
   refine Oq Va (KS ?_)
   refine Oq Vm (Oq Veql (Oq Vm (Osk (Osk (Osk (Oq Vpt (Oq Vm (Oq (Vfa fo51_2 1) (Oq (VldF sh40 1) ?_)))))))))
   refine Oq (Vlen sl40) (Oq Vm (Oq Veql (Oq Vpt (Oq Vm ?_))))
   refine Js 64 ?_ ?_
   · intro h154
     have g155 := eq_of_beq h154
     refine Oq Vm (Oq Vleq (Oq Vpt (Oq Vm (Oq (Vfa fo51_3 1) (Oq (VldF sh40 1) (Oq (Vlen sl40) (Oq Vm (Oq Veql (Oq Vpt ?_)))))))))
     refine Oq Vm ?_
     refine Js 75 ?_ ?_
     · intro h156
       have g157 := eq_of_beq h156
       refine Oq Vm ?_
       refine Jl [0] (Ent.freeze _ _) ?_
       refine JJ_ent (Ent.pall [4, 5] rfl rfl) ?_
       refine letv (slices_ContainsFunc_string ((rv135 ++ s.Targets) ++ [s.Def]) (fun x => syntax_valid_1 x)) fun rv158 hg159 => ?_
       have hc160 := fn60 (((rv135 ++ s.Targets) ++ [s.Def])) a149 k150 61 [] (fun x => syntax_valid_1 x) [pv (gp 0) [vl kwLA kwLK kwL], S kwLA kwLK kwL] ca61 (fun x hx hq0 => FT_pall (A1 := _) (fn61 x  kwLA kwLK hq0 _ rfl)) rv158 hg159
       refine Oc [1, 0] ca60 hc160 ?_
       rintro - -
       refine Oq Vnot (Oq Vpt (Oq Va (KS ?_)))
       have hq := q4 hrr (!rv158) (by simp only [syntax_valid, h8, h43, h72, h98, h132, h154, h156, hg136, hg159, cs4]); subst hq
       exact Kr () rfl (.tmp rfl .nil) [] trivial
     intro h156
     have g161 := ne_of_beq_false h156
     refine Osk (Osk (Osk (Oq Vpf (Oq Va (KS ?_)))))
     have hq := q4 hrr false (by simp only [syntax_valid, h8, h43, h72, h98, h132, h154, h156, hg136, cs4]); subst hq
     exact Kr () rfl (.tmp rfl .nil) [] trivial
   intro h154
   have g162 := ne_of_beq_false h154
   refine Osk (Osk (Oq Vpf (Oq Vm (Osk (Osk (Osk (Osk (Osk (Oq Vpf ?_)))))))))
   refine Oq Vm (Osk (Osk (Osk (Oq Vpf (Oq Va (KS ?_))))))
   have hq := q4 hrr false (by simp only [syntax_valid, h8, h43, h72, h98, h132, h154, hg136, cs4]); subst hq
   exact Kr () rfl (.tmp rfl .nil) [] trivial
 intro h132
 have g163 := ne_of_beq_false h132
 refine KS ?_
 refine Oq Veql (Oq Va (KS ?_))
 refine Kc ?_ ?_
 · intro h164
   have g165 := eq_of_beq h164
   refine Ke ?_
   refine KS ?_
   refine Oq Va (KS ?_)
   refine Oq Vm (Oq Vadd (Oq Va (KS ?_)))
   refine Oq Vm (Oq Vadd (Oq Va (KS ?_)))
   refine Oq (Vfa fo51_0 0) (Oq (VldF sh3 0) (Oq Vneq (KS ?_)))
   refine Kc ?_ ?_
   · intro h166
     exact absurd h166 (by first | (simp [h164]; done) | (simp only [bne, h164]; decide) | (simp only [bne, h164, Bool.not_true, Bool.not_false]; decide) | (exfalso; omega) | (intro hq; simp only [bne, hq, Bool.not_false, Bool.not_true, reduceCtorEq] at h164))
   intro h166
   have g167 := eq_of_bne_false h166
   refine KS ?_
   refine Ke ?_
   refine KS ?_
   refine JK_drawK [0, 1, 3, 0, 8, 31, 63] fmix ?_
   refine Dv [0] (Vfa fo51_2 0) (Dv [0] (VldF sh40 0) ?_)
   refine letv (slices_Clone_string s.Uses) fun rv169 hg170 => ?_
   refine Dx [1] [] [2, 0, 1] (fun G => (G.g 2 0)) [fun G => SP.fact ((rv169.length = s.Uses.length)), fun G => os (G.g 2 0) rv169] (fun G => xC [0] ca59 (fn59 s.Uses sa2 sk2 rv169 hg170)) (Dv [0] (Vfa fo51_3 0) (Dv [0] (VldF sh40 0) ?_))
   have hn172 := la rv169 s.Targets
   refine Dx [2, 5, 6] [6] [1, 2, 0] (fun G => (G.g 5 0)) [fun G => os (G.g 5 0) (rv169 ++ s.Targets)] (fun G => by refine xf 1 rfl ?_; rintro he173; exact xA (Ap [2, 0] sl40 sl40 sz40)) (Dg [] (fun G => (G.g 5 0)) (fun G => Va) ?_)
   refine Dn ⟨by kernel_rfl, fun G => ?_⟩
   refine Jw2 [(1, p7), (3, vi 0), (4, vi 1), (5, vi ((0 + 1) + 1)), (6, (G.g 5 0))] [0, 1, 2, 3, 4] [SP.fact ((rv169.length = s.Uses.length)), os (G.g 5 0) (rv169 ++ s.Targets)] ?_
   generalize G.g 5 0 = c171
   refine Jf 5 rfl ?_; rintro he174
   refine Jk [0, 1, 2, 3, 4, 6] ?_
   refine Jo 5 ?_; rintro a175 k176 rfl
   refine Fb 16 5 fun hl177 => ?_
   refine FoS 5 fun ho178 => ?_
   refine KS ?_
   refine Oq Vm (Oq Veql (KS ?_))
   refine Kf ?_
   refine KS ?_
   refine Oq Vm (Oq Veql (Oq Vm (Oq (Vfa fo51_1 0) (Oq (VldF sh9 0) (Oq (VeqS (l := s.Def) (m := (Str.mk []))) (Oq Vpf (Oq Vm ?_)))))))
   refine Js 57 ?_ ?_
   · intro h179
     have g180 := eq_of_beq h179
     refine Oq (Vfa fo51_2 0) (Oq (VldF sh40 0) (Oq (Vlen sl40) (Oq Vm (Oq Veql (Oq Vpt (Oq Vm ?_))))))
     refine Js 64 ?_ ?_
     · intro h181
       have g182 := eq_of_beq h181
       refine Oq Vm (Oq Vleq (Oq Vpt (Oq Vm (Oq (Vfa fo51_3 0) (Oq (VldF sh40 0) (Oq (Vlen sl40) (Oq Vm (Oq Veql (Oq Vpt ?_)))))))))
       refine Oq Vm ?_
       refine Js 75 ?_ ?_
       · intro h183
         have g184 := eq_of_beq h183
         refine Oq Vm ?_
         refine Jl [5] (Ent.freeze _ _) ?_
         refine JJ_ent (Ent.pall [4, 5] rfl rfl) ?_
         refine letv (slices_ContainsFunc_string (rv169 ++ s.Targets) (fun x => syntax_valid_1 x)) fun rv185 hg186 => ?_
         have hc187 := fn60 ((rv169 ++ s.Targets)) a175 k176 61 [] (fun x => syntax_valid_1 x) [pv (gp 0) [vl kwLA kwLK kwL], S kwLA kwLK kwL] ca61 (fun x hx hq0 => FT_pall (A1 := _) (fn61 x  kwLA kwLK hq0 _ rfl)) rv185 hg186
         refine Oc [1, 0] ca60 hc187 ?_
         rintro - -
         refine Oq Vnot (Oq Vpt (Oq Va (KS ?_)))
         have hq := q4 hrr (!rv185) (by simp only [syntax_valid, h8, h43, h72, h98, h132, h164, h166, h179, h181, h183, hg170, hg186, cs4]); subst hq
         exact Kr () rfl (.tmp rfl .nil) [] trivial
       intro h183
       have g188 := ne_of_beq_false h183
       refine Osk (Osk (Osk (Oq Vpf (Oq Va (KS ?_)))))
       have hq := q4 hrr false (by simp only [syntax_valid, h8, h43, h72, h98, h132, h164, h166, h179, h181, h183, hg170, cs4]); subst hq
       exact Kr () rfl (.tmp rfl .nil) [] trivial
     intro h181
     have g189 := ne_of_beq_false h181
     refine Osk (Osk (Oq Vpf (Oq Vm (Osk (Osk (Osk (Osk (Osk (Oq Vpf ?_)))))))))
     refine Oq Vm (Osk (Osk (Osk (Oq Vpf (Oq Va (KS ?_))))))
     have hq := q4 hrr false (by simp only [syntax_valid, h8, h43, h72, h98, h132, h164, h166, h179, h181, hg170, cs4]); subst hq
     exact Kr () rfl (.tmp rfl .nil) [] trivial
   intro h179
   have g190 := ne_of_beq_false h179
   refine Osk (Osk (Osk (Osk (Osk (Oq Vpf (Oq Vm (Osk (Osk (Oq Vpf ?_)))))))))
   refine Oq Vm (Osk (Osk (Osk (Osk (Osk (Oq Vpf (Oq Vm (Osk (Osk ?_)))))))))
   refine Osk (Oq Vpf (Oq Va (KS ?_)))
   have hq := q4 hrr false (by simp only [syntax_valid, h8, h43, h72, h98, h132, h164, h166, h179, hg170, cs4]); subst hq
   exact Kr () rfl (.tmp rfl .nil) [] trivial
 intro h164
 have g191 := ne_of_beq_false h164
 refine KS ?_
 refine Oq Veql (Oq Va (KS ?_))
 refine Kc ?_ ?_
 · intro h192
   have g193 := eq_of_beq h192
   refine KS ?_
   refine Kc ?_ ?_
   · intro h194
     have g195 := eq_of_beq h194
     refine Ke ?_
     refine KS ?_
     refine Oq Vm (Oq Vadd (Oq Va (KS ?_)))
     refine Oq (Vfa fo51_0 0) (Oq (VldF sh3 0) (Oq Vneq (KS ?_)))
     refine Kc ?_ ?_
     · intro h196
       have g197 := ne_of_bne h196
       refine KS ?_
       refine Oq Va (KS ?_)
       refine Ke ?_
       refine KS ?_
       refine JK_drawK [0, 1, 3, 0, 8, 31, 63] fmix ?_
       refine Dv [0] (Vfa fo51_2 0) (Dv [0] (VldF sh40 0) ?_)
       refine letv (slices_Clone_string s.Uses) fun rv199 hg200 => ?_
       refine Dx [1] [] [2, 0, 1] (fun G => (G.g 2 0)) [fun G => SP.fact ((rv199.length = s.Uses.length)), fun G => os (G.g 2 0) rv199] (fun G => xC [0] ca59 (fn59 s.Uses sa2 sk2 rv199 hg200)) (Dv [0] (Vfa fo51_3 0) (Dv [0] (VldF sh40 0) ?_))
       have hn202 := la rv199 s.Targets
       refine Dx [2, 5, 6] [6] [1, 2, 0] (fun G => (G.g 5 0)) [fun G => os (G.g 5 0) (rv199 ++ s.Targets)] (fun G => by refine xf 1 rfl ?_; rintro he203; exact xA (Ap [2, 0] sl40 sl40 sz40)) (Dg [] (fun G => (G.g 5 0)) (fun G => Va) ?_)
       refine Dn ⟨by kernel_rfl, fun G => ?_⟩
       refine Jw2 [(1, p7), (3, vi 0), (5, vi (0 + 1)), (4, vi 0), (6, (G.g 5 0))] [0, 1, 2, 3, 4] [SP.fact ((rv199.length = s.Uses.length)), os (G.g 5 0) (rv199 ++ s.Targets)] ?_
       generalize G.g 5 0 = c201
       refine Jf 5 rfl ?_; rintro he204
       refine Jk [0, 1, 2, 3, 4, 6] ?_
       refine Jo 5 ?_; rintro a205 k206 rfl
       refine Fb 16 5 fun hl207 => ?_
       refine FoS 5 fun ho208 => ?_
       refine KS ?_
       refine Oq Vm (Oq Veql (KS ?_))
       refine Kf ?_
       refine KS ?_
       refine Oq Vm (Oq Veql (Oq Vm (Oq (Vfa fo51_1 0) (Oq (VldF sh9 0) (Oq (VeqS (l := s.Def) (m := (Str.mk []))) (Oq Vpf (Oq Vm ?_)))))))
       refine Js 57 ?_ ?_
       · intro h209
         have g210 := eq_of_beq h209
         refine Oq (Vfa fo51_2 0) (Oq (VldF sh40 0) (Oq (Vlen sl40) (Oq Vm (Oq Veql (Oq Vpt (Oq Vm ?_))))))
         refine Js 64 ?_ ?_
         · intro h211
           have g212 := eq_of_beq h211
           refine Oq Vm (Oq Vleq (Oq Vpt (Oq Vm (Oq (Vfa fo51_3 0) (Oq (VldF sh40 0) (Oq (Vlen sl40) (Oq Vm (Oq Veql (Oq Vpt ?_)))))))))
           refine Oq Vm ?_
           refine Js 75 ?_ ?_
           · intro h213
             have g214 := eq_of_beq h213
             refine Oq Vm ?_
             refine Jl [5] (Ent.freeze _ _) ?_
             refine JJ_ent (Ent.pall [4, 5] rfl rfl) ?_
             refine letv (slices_ContainsFunc_string (rv199 ++ s.Targets) (fun x => syntax_valid_1 x)) fun rv215 hg216 => ?_
             have hc217 := fn60 ((rv199 ++ s.Targets)) a205 k206 61 [] (fun x => syntax_valid_1 x) [pv (gp 0) [vl kwLA kwLK kwL], S kwLA kwLK kwL] ca61 (fun x hx hq0 => FT_pall (A1 := _) (fn61 x  kwLA kwLK hq0 _ rfl)) rv215 hg216
             refine Oc [1, 0] ca60 hc217 ?_
             rintro - -
             refine Oq Vnot (Oq Vpt (Oq Va (KS ?_)))
             have hq := q4 hrr (!rv215) (by simp only [syntax_valid, h8, h43, h72, h98, h132, h164, h192, h194, h196, h209, h211, h213, hg200, hg216, cs4]); subst hq
             exact Kr () rfl (.tmp rfl .nil) [] trivial
           intro h213
           have g218 := ne_of_beq_false h213
           refine Osk (Osk (Osk (Oq Vpf (Oq Va (KS ?_)))))
           have hq := q4 hrr false (by simp only [syntax_valid, h8, h43, h72, h98, h132, h164, h192, h194, h196, h209, h211, h213, hg200, cs4]); subst hq
           exact Kr () rfl (.tmp rfl .nil) [] trivial
         intro h211
         have g219 := ne_of_beq_false h211
         refine Osk (Osk (Oq Vpf (Oq Vm (Osk (Osk (Osk (Osk (Osk (Oq Vpf ?_)))))))))
         refine Oq Vm (Osk (Osk (Osk (Oq Vpf (Oq Va (KS ?_))))))
         have hq := q4 hrr false (by simp only [syntax_valid, h8, h43, h72, h98, h132, h164, h192, h194, h196, h209, h211, hg200, cs4]); subst hq
         exact Kr () rfl (.tmp rfl .nil) [] trivial
       intro h209
       have g220 := ne_of_beq_false h209
       refine Osk (Osk (Osk (Osk (Osk (Oq Vpf (Oq Vm (Osk (Osk (Oq Vpf ?_)))))))))
       refine Oq Vm (Osk (Osk (Osk (Osk (Osk (Oq Vpf (Oq Vm (Osk (Osk ?_)))))))))
       refine Osk (Oq Vpf (Oq Va (KS ?_)))
       have hq := q4 hrr false (by simp only [syntax_valid, h8, h43, h72, h98, h132, h164, h192, h194, h196, h209, hg200, cs4]); subst hq
       exact Kr () rfl (.tmp rfl .nil) [] trivial
     intro h196
     exact absurd h196 (by first | (simp [h164]; done) | (simp only [bne, h164]; decide) | (simp only [bne, h164, Bool.not_true, Bool.not_false]; decide) | (exfalso; omega) | (intro hq; simp only [bne, hq, Bool.not_false, Bool.not_true, reduceCtorEq] at h164))
   intro h194
   exact absurd h194 (by first | (simp [h192]; done) | (simp only [bne, h192]; decide) | (simp only [bne, h192, Bool.not_true, Bool.not_false]; decide) | (exfalso; omega) | (intro hq; simp only [bne, hq, Bool.not_false, Bool.not_true, reduceCtorEq] at h192))
 intro h192
 have g221 := ne_of_beq_false h192
 refine KS ?_
 refine Oq Veql (Oq Va (KS ?_))
 refine Kc ?_ ?_
 · intro h222
   have g223 := eq_of_beq h222
   refine Ke ?_
   refine KS ?_
   refine Oq Vm (Oq Vadd (Oq Va (KS ?_)))
   refine Oq (Vfa fo51_0 0) (Oq (VldF sh3 0) (Oq Vneq (KS ?_)))
   refine Kc ?_ ?_
   · intro h224
     have g225 := ne_of_bne h224
     refine KS ?_
     refine Oq Va (KS ?_)
     refine Ke ?_
     refine KS ?_
     refine JK_drawK [0, 1, 3, 0, 8, 31, 63] fmix ?_
     refine Dv [0] (Vfa fo51_2 0) (Dv [0] (VldF sh40 0) ?_)
     refine letv (slices_Clone_string s.Uses) fun rv227 hg228 => ?_
     refine Dx [1] [] [2, 0, 1] (fun G => (G.g 2 0)) [fun G => SP.fact ((rv227.length = s.Uses.length)), fun G => os (G.g 2 0) rv227] (fun G => xC [0] ca59 (fn59 s.Uses sa2 sk2 rv227 hg228)) (Dv [0] (Vfa fo51_3 0) (Dv [0] (VldF sh40 0) ?_))
     have hn230 := la rv227 s.Targets
     refine Dx [2, 5, 6] [6] [1, 2, 0] (fun G => (G.g 5 0)) [fun G => os (G.g 5 0) (rv227 ++ s.Targets)] (fun G => by refine xf 1 rfl ?_; rintro he231; exact xA (Ap [2, 0] sl40 sl40 sz40)) (Dg [] (fun G => (G.g 5 0)) (fun G => Va) ?_)
     refine Dn ⟨by kernel_rfl, fun G => ?_⟩
     refine Jw2 [(1, p7), (3, vi 0), (5, vi (0 + 1)), (4, vi 0), (6, (G.g 5 0))] [0, 1, 2, 3, 4] [SP.fact ((rv227.length = s.Uses.length)), os (G.g 5 0) (rv227 ++ s.Targets)] ?_
     generalize G.g 5 0 = c229
     refine Jf 5 rfl ?_; rintro he232
     refine Jk [0, 1, 2, 3, 4, 6] ?_
     refine Jo 5 ?_; rintro a233 k234 rfl
     refine Fb 16 5 fun hl235 => ?_
     refine FoS 5 fun ho236 => ?_
     refine KS ?_
     refine Oq Vm (Oq Veql (KS ?_))
     refine Kf ?_
     refine KS ?_
     refine Oq Vm (Oq Veql (Oq Vm (Oq (Vfa fo51_1 0) (Oq (VldF sh9 0) (Oq (VeqS (l := s.Def) (m := (Str.mk []))) (Oq Vpf (Oq Vm ?_)))))))
     refine Js 57 ?_ ?_
     · intro h237
       have g238 := eq_of_beq h237
       refine Oq (Vfa fo51_2 0) (Oq (VldF sh40 0) (Oq (Vlen sl40) (Oq Vm (Oq Veql (Oq Vpt (Oq Vm ?_))))))
       refine Js 64 ?_ ?_
       · intro h239
         have g240 := eq_of_beq h239
         refine Oq Vm (Oq Vleq (Oq Vpt (Oq Vm (Oq (Vfa fo51_3 0) (Oq (VldF sh40 0) (Oq (Vlen sl40) (Oq Vm (Oq Veql (Oq Vpt ?_)))))))))
         refine Oq Vm ?_
         refine Js 75 ?_ ?_
         · intro h241
           have g242 := eq_of_beq h241
           refine Oq Vm ?_
           refine Jl [5] (Ent.freeze _ _) ?_
           refine JJ_ent (Ent.pall [4, 5] rfl rfl) ?_
           refine letv (slices_ContainsFunc_string (rv227 ++ s.Targets) (fun x => syntax_valid_1 x)) fun rv243 hg244 => ?_
           have hc245 := fn60 ((rv227 ++ s.Targets)) a233 k234 61 [] (fun x => syntax_valid_1 x) [pv (gp 0) [vl kwLA kwLK kwL], S kwLA kwLK kwL] ca61 (fun x hx hq0 => FT_pall (A1 := _) (fn61 x  kwLA kwLK hq0 _ rfl)) rv243 hg244
           refine Oc [1, 0] ca60 hc245 ?_
           rintro - -
           refine Oq Vnot (Oq Vpt (Oq Va (KS ?_)))
           have hq := q4 hrr (!rv243) (by simp only [syntax_valid, h8, h43, h72, h98, h132, h164, h192, h222, h224, h237, h239, h241, hg228, hg244, cs4]); subst hq
           exact Kr () rfl (.tmp rfl .nil) [] trivial
         intro h241
         have g246 := ne_of_beq_false h241
         refine Osk (Osk (Osk (Oq Vpf (Oq Va (KS ?_)))))
         have hq := q4 hrr false (by simp only [syntax_valid, h8, h43, h72, h98, h132, h164, h192, h222, h224, h237, h239, h241, hg228, cs4]); subst hq
         exact Kr () rfl (.tmp rfl .nil) [] trivial
       intro h239
       have g247 := ne_of_beq_false h239
       refine Osk (Osk (Oq Vpf (Oq Vm (Osk (Osk (Osk (Osk (Osk (Oq Vpf ?_)))))))))
       refine Oq Vm (Osk (Osk (Osk (Oq Vpf (Oq Va (KS ?_))))))
       have hq := q4 hrr false (by simp only [syntax_valid, h8, h43, h72, h98, h132, h164, h192, h222, h224, h237, h239, hg228, cs4]); subst hq
       exact Kr () rfl (.tmp rfl .nil) [] trivial
     intro h237
     have g248 := ne_of_beq_false h237
     refine Osk (Osk (Osk (Osk (Osk (Oq Vpf (Oq Vm (Osk (Osk (Oq Vpf ?_)))))))))
     refine Oq Vm (Osk (Osk (Osk (Osk (Osk (Oq Vpf (Oq Vm (Osk (Osk ?_)))))))))
     refine Osk (Oq Vpf (Oq Va (KS ?_)))
     have hq := q4 hrr false (by simp only [syntax_valid, h8, h43, h72, h98, h132, h164, h192, h222, h224, h237, hg228, cs4]); subst hq
     exact Kr () rfl (.tmp rfl .nil) [] trivial
   intro h224
   exact absurd h224 (by first | (simp [h164]; done) | (simp only [bne, h164]; decide) | (simp only [bne, h164, Bool.not_true, Bool.not_false]; decide) | (exfalso; omega) | (intro hq; simp only [bne, hq, Bool.not_false, Bool.not_true, reduceCtorEq] at h164))
 intro h222
 have g249 := ne_of_beq_false h222
 refine KS ?_
 refine Oq Veql (Oq Va (KS ?_))
 refine Kc ?_ ?_
 · intro h250
   have g251 := eq_of_beq h250
   refine Ke ?_
   refine KS ?_
   refine Oq Va (KS ?_)
   refine Ke ?_
   refine KS ?_
   refine JK_drawK [0, 1, 3, 0, 8, 31, 63] fmix ?_
   refine Dv [0] (Vfa fo51_2 0) (Dv [0] (VldF sh40 0) ?_)
   refine letv (slices_Clone_string s.Uses) fun rv253 hg254 => ?_
   refine Dx [1] [] [2, 0, 1] (fun G => (G.g 2 0)) [fun G => SP.fact ((rv253.length = s.Uses.length)), fun G => os (G.g 2 0) rv253] (fun G => xC [0] ca59 (fn59 s.Uses sa2 sk2 rv253 hg254)) (Dv [0] (Vfa fo51_3 0) (Dv [0] (VldF sh40 0) ?_))
   have hn256 := la rv253 s.Targets
   refine Dx [2, 5, 6] [6] [1, 2, 0] (fun G => (G.g 5 0)) [fun G => os (G.g 5 0) (rv253 ++ s.Targets)] (fun G => by refine xf 1 rfl ?_; rintro he257; exact xA (Ap [2, 0] sl40 sl40 sz40)) (Dg [] (fun G => (G.g 5 0)) (fun G => Va) ?_)
   refine Dn ⟨by kernel_rfl, fun G => ?_⟩
   refine Jw2 [(1, p7), (3, vi 0), (5, vi 0), (4, vi 0), (6, (G.g 5 0))] [0, 1, 2, 3, 4] [SP.fact ((rv253.length = s.Uses.length)), os (G.g 5 0) (rv253 ++ s.Targets)] ?_
   generalize G.g 5 0 = c255
   refine Jf 5 rfl ?_; rintro he258
   refine Jk [0, 1, 2, 3, 4, 6] ?_
   refine Jo 5 ?_; rintro a259 k260 rfl
   refine Fb 16 5 fun hl261 => ?_
   refine FoS 5 fun ho262 => ?_
   refine KS ?_
   refine Oq Vm (Oq Veql (KS ?_))
   refine Kf ?_
   refine KS ?_
   refine Oq Vm (Oq Veql (Oq Vm (Oq (Vfa fo51_1 0) (Oq (VldF sh9 0) (Oq (VeqS (l := s.Def) (m := (Str.mk []))) (Oq Vpf (Oq Vm ?_)))))))
   refine Js 57 ?_ ?_
   · intro h263
     have g264 := eq_of_beq h263
     refine Oq (Vfa fo51_2 0) (Oq (VldF sh40 0) (Oq (Vlen sl40) (Oq Vm (Oq Veql (Oq Vpt (Oq Vm ?_))))))
     refine Js 64 ?_ ?_
     · intro h265
       have g266 := eq_of_beq h265
       refine Oq Vm (Oq Vleq (Oq Vpt (Oq Vm (Oq (Vfa fo51_3 0) (Oq (VldF sh40 0) (Oq (Vlen sl40) (Oq Vm (Oq Veql (Oq Vpt ?_)))))))))
       refine Oq Vm ?_
       refine Js 75 ?_ ?_
       · intro h267
         have g268 := eq_of_beq h267
         refine Oq Vm ?_
         refine Jl [5] (Ent.freeze _ _) ?_
         refine JJ_ent (Ent.pall [4, 5] rfl rfl) ?_
         refine letv (slices_ContainsFunc_string (rv253 ++ s.Targets) (fun x => syntax_valid_1 x)) fun rv269 hg270 => ?_
         have hc271 := fn60 ((rv253 ++ s.Targets)) a259 k260 61 [] (fun x => syntax_valid_1 x) [pv (gp 0) [vl kwLA kwLK kwL], S kwLA kwLK kwL] ca61 (fun x hx hq0 => FT_pall (A1 := _) (fn61 x  kwLA kwLK hq0 _ rfl)) rv269 hg270
         refine Oc [1, 0] ca60 hc271 ?_
         rintro - -
         refine Oq Vnot (Oq Vpt (Oq Va (KS ?_)))
         have hq := q4 hrr (!rv269) (by simp only [syntax_valid, h8, h43, h72, h98, h132, h164, h192, h222, h250, h263, h265, h267, hg254, hg270, cs4]); subst hq
         exact Kr () rfl (.tmp rfl .nil) [] trivial
       intro h267
       have g272 := ne_of_beq_false h267
       refine Osk (Osk (Osk (Oq Vpf (Oq Va (KS ?_)))))
       have hq := q4 hrr false (by simp only [syntax_valid, h8, h43, h72, h98, h132, h164, h192, h222, h250, h263, h265, h267, hg254, cs4]); subst hq
       exact Kr () rfl (.tmp rfl .nil) [] trivial
     intro h265
     have g273 := ne_of_beq_false h265
     refine Osk (Osk (Oq Vpf (Oq Vm (Osk (Osk (Osk (Osk (Osk (Oq Vpf ?_)))))))))
     refine Oq Vm (Osk (Osk (Osk (Oq Vpf (Oq Va (KS ?_))))))
     have hq := q4 hrr false (by simp only [syntax_valid, h8, h43, h72, h98, h132, h164, h192, h222, h250, h263, h265, hg254, cs4]); subst hq
     exact Kr () rfl (.tmp rfl .nil) [] trivial
   intro h263
   have g274 := ne_of_beq_false h263
   refine Osk (Osk (Osk (Osk (Osk (Oq Vpf (Oq Vm (Osk (Osk (Oq Vpf ?_)))))))))
   refine Oq Vm (Osk (Osk (Osk (Osk (Osk (Oq Vpf (Oq Vm (Osk (Osk ?_)))))))))
   refine Osk (Oq Vpf (Oq Va (KS ?_)))
   have hq := q4 hrr false (by simp only [syntax_valid, h8, h43, h72, h98, h132, h164, h192, h222, h250, h263, hg254, cs4]); subst hq
   exact Kr () rfl (.tmp rfl .nil) [] trivial
 intro h250
 have g275 := ne_of_beq_false h250
 refine KS ?_
 refine Ke ?_
 refine KS ?_
 refine Oq Va (KS ?_)
 have hq := q4 hrr false (by simp only [syntax_valid, h8, h43, h72, h98, h132, h164, h192, h222, h250, cs4]); subst hq
 exact Kr () rfl (.tmp rfl .nil) [] trivial
theorem fn46 (s : GStmt) (sa2 : Option Addr) (sk2 : Nat) (sa3 : Option Addr) (sk3 : Nat) (kwLA : Option Addr) (kwLK : Nat) (hs_0 : i64ok s.Op) (hs_1 : s.Def.b.length ≤ 140737488355328) (hsm : SSm s = true) (rr : Bool) (hrr : syntax_Valid_1 s = rr) : FT Tryd.prog 46 #[.agg #[vi s.Op, .string (bs s.Def), vl sa2 sk2 s.Uses, vl sa3 sk3 s.Targets]] [S sa2 sk2 s.Uses, S sa3 sk3 s.Targets, pv (gp 0) [vl kwLA kwLK kwL], S kwLA kwLK kwL] (fun g : Unit => True) (fun g => vb rr) (fun g => []) := by
 refine FTi Tryd.func46 fun w0 M0 F0 => ?_
 unfold i64ok at hs_0
 refine Fb 16 0 fun hl1 => ?_
 refine FoS 0 fun ho2 => ?_
 refine Fb 16 1 fun hl3 => ?_
 refine FoS 1 fun ho4 => ?_
 refine Fb 16 3 fun hl5 => ?_
 refine FoS 3 fun ho6 => ?_
 refine KS ?_
 refine Oa (Ab [vi s.Op, .string (bs s.Def), vl sa2 sk2 s.Uses, vl sa3 sk3 s.Targets]) fun p7 => Oq Va (KS ?_)
 refine Oq (VldA sh51 0) ?_
 refine letv (syntax_valid s) fun rv8 hg9 => ?_
 have hc10 := fn47 s sa2 sk2 sa3 sk3 kwLA kwLK pre pre pre rv8 hg9
 refine Oc [1, 2, 3, 4] ca47 hc10 ?_
 rintro - -
 refine Oq Vnot (Oq Va (KS ?_))
 have hq := q4 hrr (!rv8) (by simp only [syntax_Valid_1, hg9, cs4]); subst hq
 exact Kr () rfl (.tmp rfl .nil) [] trivial
theorem fn27 (p : GProgram) (pa0 : Option Addr) (pk0 : Nat) (kwLA : Option Addr) (kwLK : Nat) (hps : PSm p = true) (rr : Bool) (hrr : syntax_Valid p = rr) : FT Tryd.prog 27 #[.agg #[vl pa0 pk0 p.Funcs]] [S pa0 pk0 p.Funcs, pv (gp 0) [vl kwLA kwLK kwL], S kwLA kwLK kwL] (fun g : Unit => True) (fun g => vb rr) (fun g => []) := by
 refine FTi Tryd.func27 fun w0 M0 F0 => ?_
 refine Fb 40 0 fun hl1 => ?_
 refine Fb 16 2 fun hl2 => ?_
 refine FoS 2 fun ho3 => ?_
 refine KS ?_
 refine Oa (Ab [vl pa0 pk0 p.Funcs]) fun p4 => Oq Va (KS ?_)
 refine Oq (Vfa fo27_0 0) (Oq (VldF sh25 0) (Oq (Vlen sl25) (Oq Vlss (Oq Vm ?_))))
 refine Js 11 ?_ ?_
 · intro h5
   have g6 := of_decide_eq_true h5
   refine Osk (Osk (Osk (Osk (Oq Vpt (KS ?_)))))
   refine Kt ?_
   refine KS ?_
   refine Oq Va (KS ?_)
   have hq := q4 hrr false (by simp only [syntax_Valid, h5, cs4]); subst hq
   exact Kr () rfl (.tmp rfl .nil) [] trivial
 intro h5
 have g7 := of_decide_eq_false h5
 refine Oq (Vfa fo27_0 0) (Oq (VldF sh25 0) (Oq (Vlen sl25) (Oq Vgtr (Oq Vpf (KS ?_)))))
 refine Kc ?_ ?_
 · intro h8
   have g9 := of_decide_eq_true h8
   have hfm := PSm_f hps (i := 8) (by omega)
   refine KS ?_
   refine Oq Va (KS ?_)
   have hq := q4 hrr false (by simp only [syntax_Valid, h5, h8, cs4]); subst hq
   exact Kr () rfl (.tmp rfl .nil) [] trivial
 intro h8
 have g10 := of_decide_eq_false h8
 refine KS ?_
 refine Oq (Vfa fo27_0 0) (Oq (VldF sh25 0) (Oq (Vlen sl25) (Oq Vm (KS ?_))))
 refine Kl (γ := Nat × Int) (fun (r11, v20_12) => ⟨[(18, vl pa0 pk0 p.Funcs), (19, vi (p.Funcs.length : Int)), (20, vi v20_12)], [S pa0 pk0 p.Funcs, pv (gp 0) [vl kwLA kwLK kwL], S kwLA kwLK kwL], syntax_Valid_L0 p r11 v20_12 = syntax_Valid_L0 p (((p.Funcs.length : Int) - 0).toNat) 0 ∧ r11 = ((p.Funcs.length : Int) - v20_12).toNat ∧ (0 : Int) ≤ v20_12 ∧ v20_12 ≤ (p.Funcs.length : Int) ∧ (-9223372036854775808 ≤ v20_12 ∧ v20_12 ≤ 9223372036854775807), r11⟩) (((p.Funcs.length : Int) - 0).toNat, 0) [1, 2, 3] ⟨rfl, rfl, (by omega), (by omega), (by omega)⟩ ?_
 rintro ⟨r11, v20_12⟩ ⟨hM13, hr14, hi15, hi16, hk17⟩
 refine JJ_nx fun _ _ hL hA => ?_; dsimp only at hL hA; subst hL hA
 refine Fb 40 0 fun hl18 => ?_
 refine Fb 16 2 fun hl19 => ?_
 refine FoS 2 fun ho20 => ?_
 refine KS ?_
 refine Oq Vlss (KS ?_)
 refine Kc ?_ ?_
 · intro h21
   have g22 := of_decide_eq_true h21
   have hfm := PSm_f hps (i := v20_12) (by omega)
   obtain ⟨r23, rfl⟩ := scc (n := r11) (by omega)
   refine KS ?_
   refine Oq (Vi sl25 0) ?_
   refine JJ_peek_GFunc v20_12.toNat 0 rfl rng fun a24 k25 hb26 => ?_
   refine Fb 40 1 fun hl27 => ?_
   refine Oq (VldA sh45 0) (Oa (Al ze45 [.string (bs (Str.mk [])), .slice none 0 0]) fun p28 => Ost (Scl [0] sh45 [.string (bs ((p.Funcs.getD v20_12.toNat default).Name)), vl a24 k25 ((p.Funcs.getD v20_12.toNat default).Blocks)]) (KS ?_))
   refine Oq (Vfa fo45_0 0) (Oq (VldF sh9 0) ?_)
   refine letv (lexer_IsName ((p.Funcs.getD v20_12.toNat default).Name)) fun rv29 hg30 => ?_
   have hc31 := fn44 ((p.Funcs.getD v20_12.toNat default).Name) kwLA kwLK pre rv29 hg30
   refine Oc [4, 5] ca44 hc31 ?_
   rintro - -
   refine Oq Vnot (Oq Vm ?_)
   refine Js 28 ?_ ?_
   · intro h32
     have h34 := not_true h32
     refine Osk (Osk (Osk (Osk (Oq Vpt (Oq Vm (Osk (Osk (Osk (Osk ?_)))))))))
     refine Oq Vpt (KS ?_)
     refine Kt ?_
     refine KS ?_
     refine Oq Va (KS ?_)
     have hR36 := q2 hM13 (.ret false) (by simp only [syntax_Valid_L0, h5, h8, h21, h32, h34, hg30, cs4])
     have hq := q4 hrr false (by simp only [syntax_Valid, h5, h8, h21, h32, h34, hg30, hR36, cs4]); subst hq
     exact Kr () rfl (.tmp rfl .nil) [] trivial
   intro h32
   have h38 := not_false h32
   refine Oq (Vfa fo45_1 0) (Oq (VldF sh43 0) (Oq (Vlen sl43) (Oq Vlss (Oq Vpf (Oq Vm ?_)))))
   refine Js 34 ?_ ?_
   · intro h40
     have g41 := of_decide_eq_true h40
     refine Osk (Osk (Osk (Osk (Oq Vpt (KS ?_)))))
     refine Kt ?_
     refine KS ?_
     refine Oq Va (KS ?_)
     have hR42 := q2 hM13 (.ret false) (by simp only [syntax_Valid_L0, h5, h8, h21, h32, h38, h40, hg30, cs4])
     have hq := q4 hrr false (by simp only [syntax_Valid, h5, h8, h21, h32, h38, h40, hg30, hR42, cs4]); subst hq
     exact Kr () rfl (.tmp rfl .nil) [] trivial
   intro h40
   have g43 := of_decide_eq_false h40
   refine Oq (Vfa fo45_1 0) (Oq (VldF sh43 0) (Oq (Vlen sl43) (Oq Vgtr (Oq Vpf (KS ?_)))))
   refine Kc ?_ ?_
   · intro h44
     have g45 := of_decide_eq_true h44
     have hbm := FSm_b hfm (i := 16) (by omega)
     refine KS ?_
     refine Oq Va (KS ?_)
     have hR46 := q2 hM13 (.ret false) (by simp only [syntax_Valid_L0, h5, h8, h21, h32, h38, h40, h44, hg30, cs4])
     have hq := q4 hrr false (by simp only [syntax_Valid, h5, h8, h21, h32, h38, h40, h44, hg30, hR46, cs4]); subst hq
     exact Kr () rfl (.tmp rfl .nil) [] trivial
   intro h44
   have g47 := of_decide_eq_false h44
   refine KS ?_
   refine Oq (Vfa fo45_1 0) (Oq (VldF sh43 0) (Oq (Vlen sl43) (Oq Vm (KS ?_))))
   refine Kl (γ := Nat × Int) (fun (r48, v43_49) => ⟨[(18, vl pa0 pk0 p.Funcs), (19, vi (p.Funcs.length : Int)), (20, vi v20_12), (41, vl a24 k25 ((p.Funcs.getD v20_12.toNat default).Blocks)), (42, vi (((p.Funcs.getD v20_12.toNat default).Blocks).length : Int)), (43, vi v43_49)], [S a24 k25 ((p.Funcs.getD v20_12.toNat default).Blocks), S pa0 pk0 p.Funcs, pv (gp 0) [vl kwLA kwLK kwL], S kwLA kwLK kwL], syntax_Valid_L1 ((p.Funcs.getD v20_12.toNat default).Blocks) r48 v43_49 = syntax_Valid_L1 ((p.Funcs.getD v20_12.toNat default).Blocks) ((((((p.Funcs.getD v20_12.toNat default).Blocks).length : Int) : Int) - 0).toNat) 0 ∧ r48 = (((((p.Funcs.getD v20_12.toNat default).Blocks).length : Int) : Int) - v43_49).toNat ∧ (0 : Int) ≤ v43_49 ∧ (v43_49 ≤ (((p.Funcs.getD v20_12.toNat default).Blocks).length : Int) ∨ v43_49 = 0) ∧ (-9223372036854775808 ≤ v43_49 ∧ v43_49 ≤ 9223372036854775807), r48⟩) ((((((p.Funcs.getD v20_12.toNat default).Blocks).length : Int) : Int) - 0).toNat, 0) [2, 3, 4, 5] ⟨rfl, rfl, (by omega), (.inr rfl), (by omega)⟩ ?_
   rintro ⟨r48, v43_49⟩ ⟨hM50, hr51, hi52, hi53, hk54⟩
   refine JJ_nx fun _ _ hL hA => ?_; dsimp only at hL hA; subst hL hA
   refine Fb 40 0 fun hl55 => ?_
   refine Fb 40 1 fun hl56 => ?_
   refine Fb 16 3 fun hl57 => ?_
   refine FoS 3 fun ho58 => ?_
   refine KS ?_
   refine Oq Vlss (KS ?_)
   refine Kc ?_ ?_
   · intro h59
     have g60 := of_decide_eq_true h59
     have hbm := FSm_b hfm (i := v43_49) (by omega)
     obtain ⟨r61, rfl⟩ := scc (n := r48) (by omega)
     refine KS ?_
     refine Oq (Vi sl43 0) ?_
     refine JJ_peek_GBlock v43_49.toNat 0 rfl rng fun a62 k63 hb64 => ?_
     refine Fb 72 1 fun hl65 => ?_
     refine Oq (VldA sh49 0) (Oa (Al ze49 [.string (bs (Str.mk [])), .slice none 0 0]) fun p66 => Ost (Scl [0] sh49 [.string (bs ((((p.Funcs.getD v20_12.toNat default).Blocks).getD v43_49.toNat default).Name)), .slice a62 (((((p.Funcs.getD v20_12.toNat default).Blocks).getD v43_49.toNat default).Stmts).length) k63]) (KS ?_))
     refine Oq (Vfa fo49_0 0) (Oq (VldF sh9 0) ?_)
     refine letv (lexer_IsName ((((p.Funcs.getD v20_12.toNat default).Blocks).getD v43_49.toNat default).Name)) fun rv67 hg68 => ?_
     have hc69 := fn44 ((((p.Funcs.getD v20_12.toNat default).Blocks).getD v43_49.toNat default).Name) kwLA kwLK pre rv67 hg68
     refine Oc [5, 6] ca44 hc69 ?_
     rintro - -
     refine Oq Vnot (Oq Vm ?_)
     refine Js 51 ?_ ?_
     · intro h70
       have h72 := not_true h70
       refine Osk (Osk (Osk (Osk (Oq Vpt (Oq Vm (Osk (Osk (Osk (Osk ?_)))))))))
       refine Oq Vpt (Oq Vm (Osk (Osk (Osk (Oq Vpt (KS ?_))))))
       refine Kt ?_
       refine KS ?_
       refine Oq Va (KS ?_)
       have hR74 := q2 hM50 (.ret false) (by simp only [syntax_Valid_L1, h5, h8, h21, h32, h38, h40, h44, h59, h70, h72, hg30, hg68, cs4])
       have hR75 := q2 hM13 (.ret false) (by simp only [syntax_Valid_L0, h5, h8, h21, h32, h38, h40, h44, h59, h70, h72, hg30, hg68, hR74, cs4])
       have hq := q4 hrr false (by simp only [syntax_Valid, h5, h8, h21, h32, h38, h40, h44, h59, h70, h72, hg30, hg68, hR74, hR75, cs4]); subst hq
       exact Kr () rfl (.tmp rfl .nil) [] trivial
     intro h70
     have h77 := not_false h70
     refine Oq (Vfa fo49_1 0) (Oq (VldF sh47 0) (Oq (Vlen sl47) (Oq Vlss (Oq Vpf (Oq Vm ?_)))))
     refine Js 57 ?_ ?_
     · intro h79
       have g80 := of_decide_eq_true h79
       refine Osk (Osk (Osk (Osk (Oq Vpt (Oq Vm (Osk (Osk (Osk (Oq Vpt ?_)))))))))
       refine KS ?_
       refine Kt ?_
       refine KS ?_
       refine Oq Va (KS ?_)
       have hR81 := q2 hM50 (.ret false) (by simp only [syntax_Valid_L1, h5, h8, h21, h32, h38, h40, h44, h59, h70, h77, h79, hg30, hg68, cs4])
       have hR82 := q2 hM13 (.ret false) (by simp only [syntax_Valid_L0, h5, h8, h21, h32, h38, h40, h44, h59, h70, h77, h79, hg30, hg68, hR81, cs4])
       have hq := q4 hrr false (by simp only [syntax_Valid, h5, h8, h21, h32, h38, h40, h44, h59, h70, h77, h79, hg30, hg68, hR81, hR82, cs4]); subst hq
       exact Kr () rfl (.tmp rfl .nil) [] trivial
     intro h79
     have g83 := of_decide_eq_false h79
     refine Oq (Vfa fo49_1 0) (Oq (VldF sh47 0) (Oq (Vlen sl47) (Oq Vgtr (Oq Vpf (Oq Vm ?_)))))
     refine Js 63 ?_ ?_
     · intro h84
       have g85 := of_decide_eq_true h84
       refine Osk (Osk (Osk (Oq Vpt (KS ?_))))
       refine Kt ?_
       refine KS ?_
       refine Oq Va (KS ?_)
       have hR86 := q2 hM50 (.ret false) (by simp only [syntax_Valid_L1, h5, h8, h21, h32, h38, h40, h44, h59, h70, h77, h79, h84, hg30, hg68, cs4])
       have hR87 := q2 hM13 (.ret false) (by simp only [syntax_Valid_L0, h5, h8, h21, h32, h38, h40, h44, h59, h70, h77, h79, h84, hg30, hg68, hR86, cs4])
       have hq := q4 hrr false (by simp only [syntax_Valid, h5, h8, h21, h32, h38, h40, h44, h59, h70, h77, h79, h84, hg30, hg68, hR86, hR87, cs4]); subst hq
       exact Kr () rfl (.tmp rfl .nil) [] trivial
     intro h84
     have g88 := of_decide_eq_false h84
     refine Oq (Vfa fo49_1 0) (Oq (VldF sh47 0) ?_)
     refine JJ_ent (Ent.pall [5, 6] rfl rfl) ?_
     refine letv (slices_ContainsFunc_Stmt ((((p.Funcs.getD v20_12.toNat default).Blocks).getD v43_49.toNat default).Stmts) (fun x => syntax_Valid_1 x)) fun rv89 hg90 => ?_
     have hc91 := fn45 ((((p.Funcs.getD v20_12.toNat default).Blocks).getD v43_49.toNat default).Stmts) a62 k63 46 [] (fun x => syntax_Valid_1 x) [pv (gp 0) [vl kwLA kwLK kwL], S kwLA kwLK kwL] ca46 (fun x hx a2 k2 a3 k3 hq0 hq1 => FT_pall (A1 := _) (fn46 x a2 k2 a3 k3 kwLA kwLK hq0 hq1 (BSm_m hbm hx) _ rfl)) rv89 hg90
     refine Oc [3, 0] ca45 hc91 ?_
     rintro - -
     refine Oq Vpf (KS ?_)
     refine Kc ?_ ?_
     · intro h92
       refine KS ?_
       refine Oq Va (KS ?_)
       have hR94 := q2 hM50 (.ret false) (by simp only [syntax_Valid_L1, h5, h8, h21, h32, h38, h40, h44, h59, h70, h77, h79, h84, h92, hg30, hg68, hg90, cs4])
       have hR95 := q2 hM13 (.ret false) (by simp only [syntax_Valid_L0, h5, h8, h21, h32, h38, h40, h44, h59, h70, h77, h79, h84, h92, hg30, hg68, hg90, hR94, cs4])
       have hq := q4 hrr false (by simp only [syntax_Valid, h5, h8, h21, h32, h38, h40, h44, h59, h70, h77, h79, h84, h92, hg30, hg68, hg90, hR94, hR95, cs4]); subst hq
       exact Kr () rfl (.tmp rfl .nil) [] trivial
     intro h92
     refine KS ?_
     refine Oq Vadd (Oq Vm (KS ?_))
     exact Kg (r61, (v43_49 + 1)) [4, 5, 6, 7] ⟨(q3 hM50 (by simp only [syntax_Valid_L1, h5, h8, h21, h32, h38, h40, h44, h59, h70, h77, h79, h84, h92, hg30, hg68, hg90, cs4])), (by omega), (by omega), (by omega), (by omega)⟩
   intro h59
   have g97 := of_decide_eq_false h59
   obtain rfl : r48 = 0 := by omega
   refine Ke ?_
   have hR98 := q2 hM50 (.brk ()) (by simp only [syntax_Valid_L1, h5, h8, h21, h32, h38, h40, h44, h59, hg30, cs4])
   refine KS ?_
   refine Oq Vadd (Oq Vm (KS ?_))
   exact Kg (r23, (v20_12 + 1)) [1, 2, 3] ⟨(q3 hM13 (by simp only [syntax_Valid_L0, h5, h8, h21, h32, h38, h40, h44, h59, hg30, hR98, cs4])), (by omega), (by omega), (by omega), (by omega)⟩
 intro h21
 have g99 := of_decide_eq_false h21
 obtain rfl : r11 = 0 := by omega
 refine Ke ?_
 have hR100 := q2 hM13 (.brk ()) (by simp only [syntax_Valid_L0, h5, h8, h21, cs4])
 refine KS ?_
 refine Oq Va (KS ?_)
 have hq := q4 hrr true (by simp only [syntax_Valid, h5, h8, h21, hR100, cs4]); subst hq
 exact Kr () rfl (.tmp rfl .nil) [] trivial
theorem fn32 (s : GStmt) (sa2 : Option Addr) (sk2 : Nat) (sa3 : Option Addr) (sk3 : Nat) (cap0P : Value) (cap0 : Int) (cap1P : Value) (cap1 : Int) (hs_0 : i64ok s.Op) (hs_1 : s.Def.b.length ≤ 140737488355328) (hcap0_0 : i64ok cap0) (hcap1_0 : i64ok cap1) (hn : 0 ≤ cap0 ∧ cap0 ≤ 100000 ∧ 0 ≤ cap1 ∧ cap1 ≤ 100000) (rr : Int × Int) (hrr : validate_Sizes_1 s cap0 cap1 = rr) : FT Tryd.prog 32 #[.agg #[vi s.Op, .string (bs s.Def), vl sa2 sk2 s.Uses, vl sa3 sk3 s.Targets], cap0P, cap1P] [S sa2 sk2 s.Uses, S sa3 sk3 s.Targets, Cl cap0P [vi cap0], Cl cap1P [vi cap1]] (fun g : Unit => i64ok rr.1 ∧ i64ok rr.2 ∧ (cap0 ≤ rr.1 ∧ rr.1 ≤ cap0 + 2 ∧ cap1 ≤ rr.2 ∧ rr.2 ≤ cap1 + 3)) (fun g => .tuple #[]) (fun g => [Cl cap0P [vi rr.1], Cl cap1P [vi rr.2]]) := by
 refine FTi Tryd.func32 fun w0 M0 F0 => ?_
 unfold i64ok at hs_0 hcap0_0 hcap1_0
 refine Fb 16 0 fun hl1 => ?_
 refine FoS 0 fun ho2 => ?_
 refine Fb 16 1 fun hl3 => ?_
 refine FoS 1 fun ho4 => ?_
 refine KS ?_
 refine Oa (Ab [vi s.Op, .string (bs s.Def), vl sa2 sk2 s.Uses, vl sa3 sk3 s.Targets]) fun p5 => KS ?_
 refine Oq (Vld sh3 3) (Oq Vadd (Ost (Scl [3] sh3 [vi (cap0 + 1)]) (KS ?_)))
 refine Oq (Vfa fo51_0 1) (Oq (VldF sh3 1) (KS ?_))
 refine Oq Veql (Oq Va (KS ?_))
 refine Kc ?_ ?_
 · intro h6
   have g7 := eq_of_beq h6
   refine KS ?_
   refine Oq (Vld sh3 0) (Oq Vadd (Ost (Scl [0] sh3 [vi ((cap0 + 1) + 1)]) (KS ?_)))
   refine Oq (Vld sh3 4) (Oq Vadd (Ost (Scl [4] sh3 [vi (cap1 + 3)]) (KS ?_)))
   have hq := q4 hrr (((cap0 + 1) + 1), (cap1 + 3)) (by simp only [validate_Sizes_1, h6, cs4]); subst hq
   exact Kz () rfl .nil [1, 0] en
 intro h6
 have g8 := ne_of_beq_false h6
 refine KS ?_
 refine Oq Veql (Oq Va (KS ?_))
 refine Kc ?_ ?_
 · intro h9
   have g10 := eq_of_beq h9
   refine KS ?_
   refine Oq (Vld sh3 4) (Oq Vadd (Ost (Scl [4] sh3 [vi (cap1 + 2)]) (KS ?_)))
   have hq := q4 hrr ((cap0 + 1), (cap1 + 2)) (by simp only [validate_Sizes_1, h6, h9, cs4]); subst hq
   exact Kz () rfl .nil [1, 0] en
 intro h9
 have g11 := ne_of_beq_false h9
 refine KS ?_
 refine Oq (Vld sh3 4) (Oq Vadd (Ost (Scl [4] sh3 [vi (cap1 + 1)]) (KS ?_)))
 have hq := q4 hrr ((cap0 + 1), (cap1 + 1)) (by simp only [validate_Sizes_1, h6, h9, cs4]); subst hq
 exact Kz () rfl .nil [1, 0] en
theorem fn31m0 (p : GProgram) (pa0 : Option Addr) (pk0 : Nat) (st0P : Value) (st0 : Int) (st1P : Value) (st1 : Int) (kwLA : Option Addr) (kwLK : Nat) (hst0_0 : i64ok st0) (hst1_0 : i64ok st1) (hps : PSm p = true) (hn : 0 ≤ st0 ∧ st0 ≤ 100 ∧ 0 ≤ st1 ∧ st1 ≤ 100) (rr : Int × Int) (hrr : validate_each_Sizes_1 p st0 st1 = rr) : FT Tryd.prog 31 #[.agg #[vl pa0 pk0 p.Funcs], .func (.func 32) #[] #[st0P, st1P]] [S pa0 pk0 p.Funcs, Cl st0P [vi st0], Cl st1P [vi st1], pv (gp 0) [vl kwLA kwLK kwL], S kwLA kwLK kwL] (fun g : Unit => i64ok rr.1 ∧ i64ok rr.2 ∧ (0 ≤ rr.1 ∧ rr.1 ≤ 10000 ∧ 0 ≤ rr.2 ∧ rr.2 ≤ 20000)) (fun g => .tuple #[]) (fun g => [Cl st0P [vi rr.1], Cl st1P [vi rr.2]]) := by
 refine FTi Tryd.func31 fun w0 M0 F0 => ?_
 unfold i64ok at hst0_0 hst1_0
 refine Fb 40 0 fun hl1 => ?_
 refine Fb 16 4 fun hl2 => ?_
 refine FoS 4 fun ho3 => ?_
 refine KS ?_
 refine Oa (Ab [vl pa0 pk0 p.Funcs]) fun p4 => KS ?_
 refine Oq (VldA sh27 0) ?_
 refine letv (syntax_Valid p) fun rv5 hg6 => ?_
 have hc7 := fn27 p pa0 pk0 kwLA kwLK pre rv5 hg6
 refine Oc [1, 4, 5] ca27 hc7 ?_
 rintro - -
 refine Oq Vnot (KS ?_)
 refine Kc ?_ ?_
 · intro h8
   have h10 := not_true h8
   have hq := q4 hrr (st0, st1) (by simp only [validate_each_Sizes_1, h8, h10, hg6, cs4]); subst hq
   exact Kr () rfl .nil [2, 2] en
 intro h8
 have h13 := not_false h8
 try have hVb := SVal_b (p := p) (by simp only [h8, h13, hg6])
 refine KS ?_
 refine Oq (Vfa fo27_0 0) (Oq (VldF sh25 0) (Oq (Vlen sl25) (Oq Vm (KS ?_))))
 refine Kl (γ := Nat × Int × Int × Int) (fun (r15, st00_16, st10_17, v16_18) => ⟨[(1, .func (.func 32) #[] #[st0P, st1P]), (14, vl pa0 pk0 p.Funcs), (15, vi (p.Funcs.length : Int)), (16, vi v16_18)], [S pa0 pk0 p.Funcs, Cl st0P [vi st00_16], Cl st1P [vi st10_17], pv (gp 0) [vl kwLA kwLK kwL], S kwLA kwLK kwL], validate_each_Sizes_1_L0 p r15 st00_16 st10_17 v16_18 = validate_each_Sizes_1_L0 p (((p.Funcs.length : Int) - 0).toNat) st0 st1 0 ∧ r15 = ((p.Funcs.length : Int) - v16_18).toNat ∧ (0 : Int) ≤ v16_18 ∧ v16_18 ≤ (p.Funcs.length : Int) ∧ (-9223372036854775808 ≤ st00_16 ∧ st00_16 ≤ 9223372036854775807) ∧ (-9223372036854775808 ≤ st10_17 ∧ st10_17 ≤ 9223372036854775807) ∧ (-9223372036854775808 ≤ v16_18 ∧ v16_18 ≤ 9223372036854775807) ∧ (0 ≤ st00_16 ∧ st00_16 ≤ 100 + 1100 * v16_18) ∧ (0 ≤ st10_17 ∧ st10_17 ≤ 100 + 1600 * v16_18), r15⟩) (((p.Funcs.length : Int) - 0).toNat, st0, st1, 0) [1, 2, 2, 2, 3] ⟨rfl, rfl, (by omega), (by omega), (by omega), (by omega), (by omega), iv0, iv0⟩ ?_
 rintro ⟨r15, st00_16, st10_17, v16_18⟩ ⟨hM19, hr20, hi21, hi22, hk23, hk24, hk25, hv26, hv27⟩
 refine JJ_nx fun _ _ hL hA => ?_; dsimp only at hL hA; subst hL hA
 refine Fb 40 0 fun hl28 => ?_
 refine Fb 16 4 fun hl29 => ?_
 refine FoS 4 fun ho30 => ?_
 refine KS ?_
 refine Oq Vlss (KS ?_)
 refine Kc ?_ ?_
 · intro h31
   have g32 := of_decide_eq_true h31
   have hVf := hVb.2 v16_18.toNat
   obtain ⟨r33, rfl⟩ := scc (n := r15) (by omega)
   refine KS ?_
   refine Oq (Vi sl25 0) ?_
   refine JJ_peek_GFunc v16_18.toNat 0 rfl rng fun a34 k35 hb36 => ?_
   refine Fb 40 1 fun hl37 => ?_
   refine Oq (VldA sh45 0) (Oa (Al ze45 [.string (bs (Str.mk [])), .slice none 0 0]) fun p38 => Ost (Scl [0] sh45 [.string (bs ((p.Funcs.getD v16_18.toNat default).Name)), vl a34 k35 ((p.Funcs.getD v16_18.toNat default).Blocks)]) (KS ?_))
   refine Oq (Vfa fo45_1 0) (Oq (VldF sh43 0) (Oq (Vlen sl43) (Oq Vm (KS ?_))))
   refine Kl (γ := Nat × Int × Int × Int) (fun (r39, st00_40, st10_41, v23_42) => ⟨[(1, .func (.func 32) #[] #[st0P, st1P]), (14, vl pa0 pk0 p.Funcs), (15, vi (p.Funcs.length : Int)), (16, vi v16_18), (21, vl a34 k35 ((p.Funcs.getD v16_18.toNat default).Blocks)), (22, vi (((p.Funcs.getD v16_18.toNat default).Blocks).length : Int)), (23, vi v23_42)], [S a34 k35 ((p.Funcs.getD v16_18.toNat default).Blocks), S pa0 pk0 p.Funcs, Cl st0P [vi st00_40], Cl st1P [vi st10_41], pv (gp 0) [vl kwLA kwLK kwL], S kwLA kwLK kwL], validate_each_Sizes_1_L1 ((p.Funcs.getD v16_18.toNat default).Blocks) r39 st00_40 st10_41 v23_42 = validate_each_Sizes_1_L1 ((p.Funcs.getD v16_18.toNat default).Blocks) ((((((p.Funcs.getD v16_18.toNat default).Blocks).length : Int) : Int) - 0).toNat) st00_16 st10_17 0 ∧ r39 = (((((p.Funcs.getD v16_18.toNat default).Blocks).length : Int) : Int) - v23_42).toNat ∧ (0 : Int) ≤ v23_42 ∧ (v23_42 ≤ (((p.Funcs.getD v16_18.toNat default).Blocks).length : Int) ∨ v23_42 = 0) ∧ (-9223372036854775808 ≤ st00_40 ∧ st00_40 ≤ 9223372036854775807) ∧ (-9223372036854775808 ≤ st10_41 ∧ st10_41 ≤ 9223372036854775807) ∧ (-9223372036854775808 ≤ v23_42 ∧ v23_42 ≤ 9223372036854775807) ∧ (0 ≤ st00_40 ∧ st00_40 ≤ st00_16 + 66 * v23_42) ∧ (0 ≤ st10_41 ∧ st10_41 ≤ st10_17 + 98 * v23_42), r39⟩) ((((((p.Funcs.getD v16_18.toNat default).Blocks).length : Int) : Int) - 0).toNat, st00_16, st10_17, 0) [2, 3, 4, 4, 4, 5] ⟨rfl, rfl, (by omega), (.inr rfl), (by omega), (by omega), (by omega), iv0, iv0⟩ ?_
   rintro ⟨r39, st00_40, st10_41, v23_42⟩ ⟨hM43, hr44, hi45, hi46, hk47, hk48, hk49, hv50, hv51⟩
   refine JJ_nx fun _ _ hL hA => ?_; dsimp only at hL hA; subst hL hA
   refine Fb 40 0 fun hl52 => ?_
   refine Fb 40 1 fun hl53 => ?_
   refine Fb 16 5 fun hl54 => ?_
   refine FoS 5 fun ho55 => ?_
   refine KS ?_
   refine Oq Vlss (KS ?_)
   refine Kc ?_ ?_
   · intro h56
     have g57 := of_decide_eq_true h56
     have hVk := hVf.2 v23_42.toNat
     obtain ⟨r58, rfl⟩ := scc (n := r39) (by omega)
     refine KS ?_
     refine Oq (Vi sl43 0) ?_
     refine JJ_peek_GBlock v23_42.toNat 0 rfl rng fun a59 k60 hb61 => ?_
     refine Fb 72 1 fun hl62 => ?_
     refine Oq (VldA sh49 0) (Oa (Al ze49 [.string (bs (Str.mk [])), .slice none 0 0]) fun p63 => Ost (Scl [0] sh49 [.string (bs ((((p.Funcs.getD v16_18.toNat default).Blocks).getD v23_42.toNat default).Name)), .slice a59 (((((p.Funcs.getD v16_18.toNat default).Blocks).getD v23_42.toNat default).Stmts).length) k60]) (KS ?_))
     refine Oq (Vfa fo49_1 0) (Oq (VldF sh47 0) (Oq (Vlen sl47) (Oq Vm (KS ?_))))
     refine Kl (γ := Nat × Int × Int × Int) (fun (r64, st00_65, st10_66, v30_67) => ⟨[(1, .func (.func 32) #[] #[st0P, st1P]), (14, vl pa0 pk0 p.Funcs), (15, vi (p.Funcs.length : Int)), (16, vi v16_18), (21, vl a34 k35 ((p.Funcs.getD v16_18.toNat default).Blocks)), (22, vi (((p.Funcs.getD v16_18.toNat default).Blocks).length : Int)), (23, vi v23_42), (28, .slice a59 (((((p.Funcs.getD v16_18.toNat default).Blocks).getD v23_42.toNat default).Stmts).length) k60), (29, vi (((((p.Funcs.getD v16_18.toNat default).Blocks).getD v23_42.toNat default).Stmts).length : Int)), (30, vi v30_67)], [S a59 k60 ((((p.Funcs.getD v16_18.toNat default).Blocks).getD v23_42.toNat default).Stmts), S a34 k35 ((p.Funcs.getD v16_18.toNat default).Blocks), S pa0 pk0 p.Funcs, Cl st0P [vi st00_65], Cl st1P [vi st10_66], pv (gp 0) [vl kwLA kwLK kwL], S kwLA kwLK kwL], validate_each_Sizes_1_L2 ((((p.Funcs.getD v16_18.toNat default).Blocks).getD v23_42.toNat default).Stmts) r64 st00_65 st10_66 v30_67 = validate_each_Sizes_1_L2 ((((p.Funcs.getD v16_18.toNat default).Blocks).getD v23_42.toNat default).Stmts) ((((((((p.Funcs.getD v16_18.toNat default).Blocks).getD v23_42.toNat default).Stmts).length : Int) : Int) - 0).toNat) st00_40 st10_41 0 ∧ r64 = (((((((p.Funcs.getD v16_18.toNat default).Blocks).getD v23_42.toNat default).Stmts).length : Int) : Int) - v30_67).toNat ∧ (0 : Int) ≤ v30_67 ∧ (v30_67 ≤ (((((p.Funcs.getD v16_18.toNat default).Blocks).getD v23_42.toNat default).Stmts).length : Int) ∨ v30_67 = 0) ∧ (-9223372036854775808 ≤ st00_65 ∧ st00_65 ≤ 9223372036854775807) ∧ (-9223372036854775808 ≤ st10_66 ∧ st10_66 ≤ 9223372036854775807) ∧ (-9223372036854775808 ≤ v30_67 ∧ v30_67 ≤ 9223372036854775807) ∧ (0 ≤ st00_65 ∧ st00_65 ≤ st00_40 + 2 * v30_67) ∧ (0 ≤ st10_66 ∧ st10_66 ≤ st10_41 + 3 * v30_67), r64⟩) ((((((((p.Funcs.getD v16_18.toNat default).Blocks).getD v23_42.toNat default).Stmts).length : Int) : Int) - 0).toNat, st00_40, st10_41, 0) [2, 3, 4, 5, 5, 5, 6] ⟨rfl, rfl, (by omega), (.inr rfl), (by omega), (by omega), (by omega), iv0, iv0⟩ ?_
     rintro ⟨r64, st00_65, st10_66, v30_67⟩ ⟨hM68, hr69, hi70, hi71, hk72, hk73, hk74, hv75, hv76⟩
     refine JJ_nx fun _ _ hL hA => ?_; dsimp only at hL hA; subst hL hA
     refine Fb 72 0 fun hl77 => ?_
     refine Fb 40 1 fun hl78 => ?_
     refine Fb 40 2 fun hl79 => ?_
     refine Fb 16 6 fun hl80 => ?_
     refine FoS 6 fun ho81 => ?_
     refine KS ?_
     refine Oq Vlss (KS ?_)
     refine Kc ?_ ?_
     · intro h82
       have g83 := of_decide_eq_true h82
       have hVs := hVk.2 v30_67.toNat
       obtain ⟨r84, rfl⟩ := scc (n := r64) (by omega)
       refine KS ?_
       refine Oq (Vi sl47 0) ?_
       refine JJ_peek_GStmt v30_67.toNat 0 rfl rng fun a85 k86 a87 k88 hb89 hb90 => ?_
       unfold i64ok at hb89
       refine Fb 16 1 fun hl91 => ?_
       refine FoS 1 fun ho92 => ?_
       refine Fb 16 2 fun hl93 => ?_
       refine FoS 2 fun ho94 => ?_
       refine Oq (VldA sh51 0) (Oa (Al ze51 [vi 0, .string (bs (Str.mk [])), .slice none 0 0, .slice none 0 0]) fun p95 => Ost (Scl [0] sh51 [vi ((((((p.Funcs.getD v16_18.toNat default).Blocks).getD v23_42.toNat default).Stmts).getD v30_67.toNat default).Op), .string (bs ((((((p.Funcs.getD v16_18.toNat default).Blocks).getD v23_42.toNat default).Stmts).getD v30_67.toNat default).Def)), .slice a85 (((((((p.Funcs.getD v16_18.toNat default).Blocks).getD v23_42.toNat default).Stmts).getD v30_67.toNat default).Uses).length) k86, .slice a87 (((((((p.Funcs.getD v16_18.toNat default).Blocks).getD v23_42.toNat default).Stmts).getD v30_67.toNat default).Targets).length) k88]) (KS ?_))
       refine Oq Vm (Oq (VldA sh51 0) ?_)
       refine letv (validate_Sizes_1 (((((p.Funcs.getD v16_18.toNat default).Blocks).getD v23_42.toNat default).Stmts).getD v30_67.toNat default) st00_65 st10_66) fun rv96 hg97 => ?_
       have hc98 := fn32 ((((((p.Funcs.getD v16_18.toNat default).Blocks).getD v23_42.toNat default).Stmts).getD v30_67.toNat default)) a85 k86 a87 k88 st0P st00_65 st1P st10_66 pre pre pre pre pre rv96 hg97
       refine JO_call [2, 3, 7, 7] rfl rfl rfl (OpC.clo («as» := [(.agg #[vi ((((((p.Funcs.getD v16_18.toNat default).Blocks).getD v23_42.toNat default).Stmts).getD v30_67.toNat default).Op), .string (bs ((((((p.Funcs.getD v16_18.toNat default).Blocks).getD v23_42.toNat default).Stmts).getD v30_67.toNat default).Def)), .slice a85 (((((((p.Funcs.getD v16_18.toNat default).Blocks).getD v23_42.toNat default).Stmts).getD v30_67.toNat default).Uses).length) k86, .slice a87 (((((((p.Funcs.getD v16_18.toNat default).Blocks).getD v23_42.toNat default).Stmts).getD v30_67.toNat default).Targets).length) k88] : Value), (st0P : Value), (st1P : Value)]) rfl rfl ca32 rfl (by simp)) hc98 rfl ?_
       rintro - ⟨he99, he100, he101⟩
       unfold i64ok at he99 he100
       refine KS ?_
       refine Oq Vadd (Oq Vm (KS ?_))
       exact Kg (r84, rv96.1, rv96.2, (v30_67 + 1)) [6, 7, 8, 0, 0, 7, 8] ⟨(q3 hM68 (by simp only [validate_each_Sizes_1_L2, h8, h13, h31, h56, h82, hg6, hg97, cs4])), (by omega), (by omega), (by omega), (by omega), (by omega), (by omega), iv1, iv1⟩
     intro h82
     have g102 := of_decide_eq_false h82
     obtain rfl : r64 = 0 := by omega
     refine Ke ?_
     have hR103 := q2 hM68 (st00_65, st10_66) (by simp only [validate_each_Sizes_1_L2, h8, h13, h31, h56, h82, hg6, cs4])
     refine KS ?_
     refine Oq Vadd (Oq Vm (KS ?_))
     exact Kg (r58, st00_65, st10_66, (v23_42 + 1)) [1, 2, 3, 3, 3, 4] ⟨(q3 hM43 (by simp only [validate_each_Sizes_1_L1, h8, h13, h31, h56, h82, hg6, hR103, cs4])), (by omega), (by omega), (by omega), (by omega), (by omega), (by omega), iv1, iv1⟩
   intro h56
   have g104 := of_decide_eq_false h56
   obtain rfl : r39 = 0 := by omega
   refine Ke ?_
   have hR105 := q2 hM43 (st00_40, st10_41) (by simp only [validate_each_Sizes_1_L1, h8, h13, h31, h56, hg6, cs4])
   refine KS ?_
   refine Oq Vadd (Oq Vm (KS ?_))
   exact Kg (r33, st00_40, st10_41, (v16_18 + 1)) [1, 2, 2, 2, 3] ⟨(q3 hM19 (by simp only [validate_each_Sizes_1_L0, h8, h13, h31, h56, hg6, hR105, cs4])), (by omega), (by omega), (by omega), (by omega), (by omega), (by omega), iv1, iv1⟩
 intro h31
 have g106 := of_decide_eq_false h31
 obtain rfl : r15 = 0 := by omega
 refine Ke ?_
 have hR107 := q2 hM19 (st00_16, st10_17) (by simp only [validate_each_Sizes_1_L0, h8, h13, h31, hg6, cs4])
 have hq := q4 hrr (st00_16, st10_17) (by simp only [validate_each_Sizes_1, h8, h13, h31, hg6, hR107, cs4]); subst hq
 exact Kz () rfl .nil [1, 1] en
theorem fn14 (p : GProgram) (pa0 : Option Addr) (pk0 : Nat) (kwLA : Option Addr) (kwLK : Nat) (hps : PSm p = true) (rr : Int × Int) (hrr : validate_Sizes p = rr) : FT Tryd.prog 14 #[.agg #[vl pa0 pk0 p.Funcs]] [S pa0 pk0 p.Funcs, pv (gp 0) [vl kwLA kwLK kwL], S kwLA kwLK kwL] (fun g : Unit => i64ok rr.1 ∧ i64ok rr.2 ∧ (0 ≤ rr.1 ∧ rr.1 ≤ 10000 ∧ 0 ≤ rr.2 ∧ rr.2 ≤ 20000)) (fun g => .tuple #[vi rr.1, vi rr.2]) (fun g => []) := by
 refine FTi Tryd.func14 fun w0 M0 F0 => ?_
 refine Fb 40 0 fun hl1 => ?_
 refine Fb 16 2 fun hl2 => ?_
 refine FoS 2 fun ho3 => ?_
 refine KS ?_
 refine Oa (Ab [vl pa0 pk0 p.Funcs]) fun p4 => Oq Va (Oq Va (KS ?_))
 refine Oq (VldA sh27 0) ?_
 refine letv (syntax_Valid p) fun rv5 hg6 => ?_
 have hc7 := fn27 p pa0 pk0 kwLA kwLK pre rv5 hg6
 refine Oc [1, 2, 3] ca27 hc7 ?_
 rintro - -
 refine Oq Vnot (KS ?_)
 refine Kc ?_ ?_
 · intro h8
   have h10 := not_true h8
   refine KS ?_
   refine Oq Va (Oq Va (KS ?_))
   have hq := q4 hrr (0, 0) (by simp only [validate_Sizes, h8, h10, hg6, cs4]); subst hq
   exact Kr () rfl (.tmp rfl (.tmp rfl .nil)) [] en
 intro h8
 have h13 := not_false h8
 try have hVb := SVal_b (p := p) (by simp only [h8, h13, hg6])
 refine KS ?_
 refine JK_drawK [0, 1, 3, 7, 0, 16, 48, 0, 0, 399, 1023] fmix ?_
 refine Dv [0] (Vfa fo27_0 0) (Dv [0] (VldF sh25 0) (Dv [] (Vlen sl25) (Dv [] Vmul (Dv [0] (Vfa fo27_0 0) (Dv [0] (VldF sh25 0) (Dv [] (Vlen sl25) (Dx [] [] [0] (fun G => (G.g 7 0)) [fun G => Cl (G.g 7 0) [vi 0]] (fun G => xA (Al ze3 [vi 0])) (Dx [] [] [0] (fun G => (G.g 8 0)) [fun G => Cl (G.g 8 0) [vi 0]] (fun G => xA (Al ze3 [vi 0])) (Dx0 [4] [4] [0] [fun G => Cl (G.g 7 0) [vi (2 * (p.Funcs.length : Int))]] (fun G => xS (Scl [0] sh3 [vi (2 * (p.Funcs.length : Int))])) ?_)))))))))
 refine Dx0 [5] [5] [0] [fun G => Cl (G.g 8 0) [vi (p.Funcs.length : Int)]] (fun G => xS (Scl [0] sh3 [vi (p.Funcs.length : Int)])) ?_
 refine Dn ⟨by kernel_rfl, fun G => ?_⟩
 refine Jw2 [(1, p4), (4, (G.g 7 0)), (5, (G.g 8 0))] [0, 1, 2, 3] [Cl (G.g 7 0) [vi (2 * (p.Funcs.length : Int))], Cl (G.g 8 0) [vi (p.Funcs.length : Int)]] ?_
 generalize G.g 7 0 = p15, G.g 8 0 = p16
 refine KS ?_
 refine Oq (VldA sh27 0) (Oq (Vf [p15, p16]) ?_)
 refine letv (validate_each_Sizes_1 p (2 * (p.Funcs.length : Int)) (p.Funcs.length : Int)) fun rv17 hg18 => ?_
 have hc19 := fn31m0 p pa0 pk0 p15 (2 * (p.Funcs.length : Int)) p16 (p.Funcs.length : Int) kwLA kwLK pre pre pre pre rv17 hg18
 refine Oc [1, 4, 4, 2, 3] ca31 hc19 ?_
 rintro - ⟨he20, he21, he22⟩
 unfold i64ok at he20 he21
 refine KS ?_
 refine Kq [0, 0, 1, 7] fmix ?_
 refine Qv [0] (Vld sh3 0) (Qv [1] (Vld sh3 0) (Qv [] Va (Qv [] Va ?_)))
 refine Qn ⟨by kernel_rfl, ?_⟩
 have hq := q4 hrr (rv17.1, rv17.2) (by simp only [validate_Sizes, h8, h13, hg6, hg18, cs4]); subst hq
 exact Kr () rfl (.tmp rfl (.tmp rfl .nil)) [] en
theorem fn33 (n : Str) (cap0P : Value) (cap0 : List (Str × Bool)) (cap0m0 : Value) (cap1P : Value) (cap1 : List Str) (cap1a0 : Option Addr) (cap1k0 : Nat) (hn_0 : n.b.length ≤ 140737488355328) (ho : cap1.length ≤ 1000000) (rr : (List (Str × Bool)) × List Str) (hrr : validate_Variables_1 n cap0 cap1 = rr) : FT Tryd.prog 33 #[.string (bs n), cap0P, cap1P] [Cl cap0P [cap0m0], Mp vstr vb okStr cap0m0 cap0, Cl cap1P [vl cap1a0 cap1k0 cap1], O cap1a0 cap1k0 cap1] (fun g : Value => (rr.2.length ≤ cap1.length + 1)) (fun g => .tuple #[]) (fun g => [Cl cap0P [cap0m0], Mp vstr vb okStr cap0m0 rr.1, Cl cap1P [g], os g rr.2]) := by
 refine FTi Tryd.func33 fun w0 M0 F0 => ?_
 refine Fb 16 3 fun hl1 => ?_
 refine FoS 3 fun ho2 => ?_
 refine KS ?_
 refine Oq Vm (Oq (VneS (l := n) (m := (Str.mk []))) (Oq Vm ?_))
 refine Js 6 ?_ ?_
 · intro h3
   have g4 := ne_of_bne h3
   refine Oq (Vld sh65 0) (Oq Vm (Oq (Vmk1 1 false mt65 (kStr un9) ze4 (ek := vstr) (ev := vb) (ok := okStr) (key := n) pre) (Oq Vnot (Oq Vpt (KS ?_)))))
   refine Kc ?_ ?_
   · intro h5
     have h7 := not_true h5
     refine KS ?_
     refine Oq (Vld sh65 0) (Oq Vm (Ost (Smp [1] mt65 (kStr un9) true (ek := vstr) (ev := vb) (ok := okStr) (key := n) pre) (KS ?_)))
     refine Oq (Vld sh40 2) (Oq Vm (Oa (AsV sl40 sz40 [.string (bs n)] [.string (bs n)]) fun c9 => ?_))
     refine Jo 0 ?_; rintro a10 k11 rfl
     refine Jl [0] (Ent.cr1 (α := Str) (A := []) _ n _ (Nat.le_of_ble_eq_true rfl) (fun _ => ⟨rfl, by first | omega | (simp; done) | (dsimp only; omega)⟩)) ?_
     refine Oa (ApO [4, 0] sl40 sl40 sz40) fun c12 => ?_
     refine Jo 0 ?_; rintro a13 k14 rfl
     refine Fb 16 0 fun hl15 => ?_
     refine FoS 0 fun ho16 => ?_
     have hn17 := la cap1 ([n] : List Str)
     refine Ost (Scl [3] sh40 [vl a13 k14 (cap1 ++ [n])]) (KS ?_)
     have hq := q4 hrr ((mset cap0 n true), (cap1 ++ [n])) (by simp only [validate_Variables_1, h3, h5, h7, cs4]); subst hq
     exact Kz (vl a13 k14 (cap1 ++ [n])) rfl .nil [3, 2, 0, 0] en
   intro h5
   have h19 := not_false h5
   refine KS ?_
   have hq := q4 hrr (cap0, cap1) (by simp only [validate_Variables_1, h3, h5, h19, cs4]); subst hq
   exact Kz (vl cap1a0 cap1k0 cap1) rfl .nil [0, 0, 0, 0] en
 intro h3
 have g21 := eq_of_bne_false h3
 refine Osk (Osk (Osk (Osk (Oq Vpf (KS ?_)))))
 refine Kf ?_
 refine KS ?_
 have hq := q4 hrr (cap0, cap1) (by simp only [validate_Variables_1, h3, cs4]); subst hq
 exact Kz (vl cap1a0 cap1k0 cap1) rfl .nil [0, 0, 0, 0] en
theorem fn34m0 (s : GStmt) (sa2 : Option Addr) (sk2 : Nat) (sa3 : Option Addr) (sk3 : Nat) (st0P : Value) (st0 : List (Str × Bool)) (st0m0 : Value) (st1P : Value) (st1 : List Str) (st1a0 : Option Addr) (st1k0 : Nat) (cap0P : Value) (hs_0 : i64ok s.Op) (hs_1 : s.Def.b.length ≤ 140737488355328) (ho : st1.length ≤ 900000 ∧ s.Uses.length ≤ 4) (rr : (List (Str × Bool)) × List Str) (hrr : validate_Variables_2_Variables_1 s st0 st1 = rr) : FT Tryd.prog 34 #[.agg #[vi s.Op, .string (bs s.Def), vl sa2 sk2 s.Uses, vl sa3 sk3 s.Targets], cap0P] [S sa2 sk2 s.Uses, S sa3 sk3 s.Targets, Cl st0P [st0m0], Mp vstr vb okStr st0m0 st0, Cl st1P [vl st1a0 st1k0 st1], O st1a0 st1k0 st1, pv cap0P [.func (.func 33) #[] #[st0P, st1P]]] (fun g : Value => (rr.2.length ≤ st1.length + 5)) (fun g => .tuple #[]) (fun g => [Cl st0P [st0m0], Mp vstr vb okStr st0m0 rr.1, Cl st1P [g], os g rr.2]) := by
 refine FTi Tryd.func34 fun w0 M0 F0 => ?_
 unfold i64ok at hs_0
 refine Fb 16 0 fun hl1 => ?_
 refine FoS 0 fun ho2 => ?_
 refine Fb 16 1 fun hl3 => ?_
 refine FoS 1 fun ho4 => ?_
 refine Fb 16 5 fun hl5 => ?_
 refine FoS 5 fun ho6 => ?_
 refine KS ?_
 refine Oa (Ab [vi s.Op, .string (bs s.Def), vl sa2 sk2 s.Uses, vl sa3 sk3 s.Targets]) fun p7 => KS ?_
 refine Oq (Vld sh72 7) (Oq (Vfa fo51_1 0) (Oq (VldF sh9 0) ?_))
 refine letv (validate_Variables_1 s.Def st0 st1) fun rv9 hg10 => ?_
 have hc11 := fn33 s.Def st0P st0 st0m0 st1P st1 st1a0 st1k0 pre pre rv9 hg10
 refine JO_call [3, 3, 3, 3] rfl rfl rfl (OpC.clo («as» := [(.string (bs s.Def) : Value), (st0P : Value), (st1P : Value)]) rfl rfl ca33 rfl (by simp)) hc11 rfl ?_
 rintro c8 he12
 refine Jo 3 ?_; rintro a13 k14 rfl
 refine Fb 16 3 fun hl15 => ?_
 refine FoS 3 fun ho16 => ?_
 refine KS ?_
 refine Oq (Vfa fo51_2 4) (Oq (VldF sh40 4) (Oq (Vlen sl40) (Oq Vm (KS ?_))))
 refine Kl (γ := Nat × (List (Str × Bool)) × List Str × Int × Option Addr × Nat) (fun (r17, st00_18, st10_19, v12_20, a21, k22) => ⟨[(1, cap0P), (10, vl sa2 sk2 s.Uses), (11, vi (s.Uses.length : Int)), (12, vi v12_20)], [O a21 k22 st10_19, Cl st0P [st0m0], Mp vstr vb okStr st0m0 st00_18, Cl st1P [vl a21 k22 st10_19], S sa2 sk2 s.Uses, pv cap0P [.func (.func 33) #[] #[st0P, st1P]]], validate_Variables_2_Variables_1_L0 s r17 st00_18 st10_19 v12_20 = validate_Variables_2_Variables_1_L0 s (((s.Uses.length : Int) - 0).toNat) rv9.1 rv9.2 0 ∧ r17 = ((s.Uses.length : Int) - v12_20).toNat ∧ (0 : Int) ≤ v12_20 ∧ v12_20 ≤ (s.Uses.length : Int) ∧ (-9223372036854775808 ≤ v12_20 ∧ v12_20 ≤ 9223372036854775807) ∧ ((st10_19.length : Int) ≤ (st1.length : Int) + 1 + v12_20), r17⟩) (((s.Uses.length : Int) - 0).toNat, rv9.1, rv9.2, 0, a13, k14) [3, 0, 0, 0, 1, 3] ⟨rfl, rfl, (by omega), (by omega), (by omega), iv0⟩ ?_
 rintro ⟨r17, st00_18, st10_19, v12_20, a21, k22⟩ ⟨hM23, hr24, hi25, hi26, hk27, hv28⟩
 refine JJ_nx fun _ _ hL hA => ?_; dsimp only at hL hA; subst hL hA
 refine Fb 16 0 fun hl29 => ?_
 refine FoS 0 fun ho30 => ?_
 refine Fb 16 4 fun hl31 => ?_
 refine FoS 4 fun ho32 => ?_
 refine KS ?_
 refine Oq Vlss (KS ?_)
 refine Kc ?_ ?_
 · intro h33
   have g34 := of_decide_eq_true h33
   obtain ⟨r35, rfl⟩ := scc (n := r17) (by omega)
   refine KS ?_
   refine Oq (Vi sl40 4) ?_
   have hb36 := okS (i := v12_20.toNat) ho32 rng
   refine Oq (VldS sh9 4) (Oq Va (KS ?_))
   refine Oq (Vld sh72 5) (Oq Vm ?_)
   refine letv (validate_Variables_1 (s.Uses.getD v12_20.toNat default) st00_18 st10_19) fun rv38 hg39 => ?_
   have hc40 := fn33 ((s.Uses.getD v12_20.toNat default)) st0P st00_18 st0m0 st1P st10_19 a21 k22 pre pre rv38 hg39
   refine JO_call [1, 1, 1, 0] rfl rfl rfl (OpC.clo («as» := [(.string (bs (s.Uses.getD v12_20.toNat default)) : Value), (st0P : Value), (st1P : Value)]) rfl rfl ca33 rfl (by simp)) hc40 rfl ?_
   rintro c37 he41
   refine Jo 3 ?_; rintro a42 k43 rfl
   refine Fb 16 3 fun hl44 => ?_
   refine FoS 3 fun ho45 => ?_
   refine KS ?_
   refine Oq Vadd (Oq Vm (KS ?_))
   exact Kg (r35, rv38.1, rv38.2, (v12_20 + 1), a42, k43) [3, 0, 0, 0, 0, 1] ⟨(q3 hM23 (by simp only [validate_Variables_2_Variables_1_L0, h33, hg10, hg39, cs4])), (by omega), (by omega), (by omega), (by omega), iv1⟩
 intro h33
 have g46 := of_decide_eq_false h33
 obtain rfl : r17 = 0 := by omega
 refine Ke ?_
 have hR47 := q2 hM23 (st00_18, st10_19) (by simp only [validate_Variables_2_Variables_1_L0, h33, hg10, cs4])
 have hq := q4 hrr (st00_18, st10_19) (by simp only [validate_Variables_2_Variables_1, h33, hg10, hR47, cs4]); subst hq
 exact Kz (vl a21 k22 st10_19) rfl .nil [1, 1, 1, 0] en
theorem fn31m1 (p : GProgram) (pa0 : Option Addr) (pk0 : Nat) (st1P : Value) (st1 : List (Str × Bool)) (st1m0 : Value) (st2P : Value) (st2 : List Str) (st2a0 : Option Addr) (st2k0 : Nat) (st0P : Value) (kwLA : Option Addr) (kwLK : Nat) (hps : PSm p = true) (ho : st2.length = 0) (rr : (List (Str × Bool)) × List Str) (hrr : validate_each_Variables_2 p st1 st2 = rr) : FT Tryd.prog 31 #[.agg #[vl pa0 pk0 p.Funcs], .func (.func 34) #[] #[st0P]] [S pa0 pk0 p.Funcs, Cl st1P [st1m0], Mp vstr vb okStr st1m0 st1, Cl st2P [vl st2a0 st2k0 st2], O st2a0 st2k0 st2, pv st0P [.func (.func 33) #[] #[st1P, st2P]], pv (gp 0) [vl kwLA kwLK kwL], S kwLA kwLK kwL] (fun g : Value => (rr.2.length ≤ 30000)) (fun g => .tuple #[]) (fun g => [Cl st1P [st1m0], Mp vstr vb okStr st1m0 rr.1, Cl st2P [g], os g rr.2]) := by
 refine FTi Tryd.func31 fun w0 M0 F0 => ?_
 refine Fb 40 0 fun hl1 => ?_
 refine Fb 16 4 fun hl2 => ?_
 refine FoS 4 fun ho3 => ?_
 refine Fb 16 7 fun hl4 => ?_
 refine FoS 7 fun ho5 => ?_
 refine KS ?_
 refine Oa (Ab [vl pa0 pk0 p.Funcs]) fun p6 => KS ?_
 refine Oq (VldA sh27 0) ?_
 refine letv (syntax_Valid p) fun rv7 hg8 => ?_
 have hc9 := fn27 p pa0 pk0 kwLA kwLK pre rv7 hg8
 refine Oc [1, 7, 8] ca27 hc9 ?_
 rintro - -
 refine Oq Vnot (KS ?_)
 refine Kc ?_ ?_
 · intro h10
   have h12 := not_true h10
   have hq := q4 hrr (st1, st2) (by simp only [validate_each_Variables_2, h10, h12, hg8, cs4]); subst hq
   exact Kr (vl st2a0 st2k0 st2) rfl .nil [2, 2, 2, 2] en
 intro h10
 have h15 := not_false h10
 try have hVb := SVal_b (p := p) (by simp only [h10, h15, hg8])
 refine KS ?_
 refine Oq (Vfa fo27_0 0) (Oq (VldF sh25 0) (Oq (Vlen sl25) (Oq Vm (KS ?_))))
 refine Kl (γ := Nat × (List (Str × Bool)) × List Str × Int × Option Addr × Nat) (fun (r17, st10_18, st20_19, v16_20, a21, k22) => ⟨[(1, .func (.func 34) #[] #[st0P]), (14, vl pa0 pk0 p.Funcs), (15, vi (p.Funcs.length : Int)), (16, vi v16_20)], [O a21 k22 st20_19, S pa0 pk0 p.Funcs, Cl st1P [st1m0], Mp vstr vb okStr st1m0 st10_18, Cl st2P [vl a21 k22 st20_19], pv st0P [.func (.func 33) #[] #[st1P, st2P]], pv (gp 0) [vl kwLA kwLK kwL], S kwLA kwLK kwL], validate_each_Variables_2_L0 p r17 st10_18 st20_19 v16_20 = validate_each_Variables_2_L0 p (((p.Funcs.length : Int) - 0).toNat) st1 st2 0 ∧ r17 = ((p.Funcs.length : Int) - v16_20).toNat ∧ (0 : Int) ≤ v16_20 ∧ v16_20 ≤ (p.Funcs.length : Int) ∧ (-9223372036854775808 ≤ v16_20 ∧ v16_20 ≤ 9223372036854775807) ∧ ((st20_19.length : Int) ≤ 3000 * v16_20), r17⟩) (((p.Funcs.length : Int) - 0).toNat, st1, st2, 0, st2a0, st2k0) [5, 1, 2, 2, 2, 2, 3, 4] ⟨rfl, rfl, (by omega), (by omega), (by omega), iv0⟩ ?_
 rintro ⟨r17, st10_18, st20_19, v16_20, a21, k22⟩ ⟨hM23, hr24, hi25, hi26, hk27, hv28⟩
 refine JJ_nx fun _ _ hL hA => ?_; dsimp only at hL hA; subst hL hA
 refine Fb 16 0 fun hl29 => ?_
 refine FoS 0 fun ho30 => ?_
 refine Fb 40 1 fun hl31 => ?_
 refine Fb 16 7 fun hl32 => ?_
 refine FoS 7 fun ho33 => ?_
 refine KS ?_
 refine Oq Vlss (KS ?_)
 refine Kc ?_ ?_
 · intro h34
   have g35 := of_decide_eq_true h34
   have hVf := hVb.2 v16_20.toNat
   obtain ⟨r36, rfl⟩ := scc (n := r17) (by omega)
   refine KS ?_
   refine Oq (Vi sl25 1) ?_
   refine JJ_peek_GFunc v16_20.toNat 1 rfl rng fun a37 k38 hb39 => ?_
   refine Fb 40 1 fun hl40 => ?_
   refine Oq (VldA sh45 0) (Oa (Al ze45 [.string (bs (Str.mk [])), .slice none 0 0]) fun p41 => Ost (Scl [0] sh45 [.string (bs ((p.Funcs.getD v16_20.toNat default).Name)), vl a37 k38 ((p.Funcs.getD v16_20.toNat default).Blocks)]) (KS ?_))
   refine Oq (Vfa fo45_1 0) (Oq (VldF sh43 0) (Oq (Vlen sl43) (Oq Vm (KS ?_))))
   refine Kl (γ := Nat × (List (Str × Bool)) × List Str × Int × Option Addr × Nat) (fun (r42, st10_43, st20_44, v23_45, a46, k47) => ⟨[(1, .func (.func 34) #[] #[st0P]), (14, vl pa0 pk0 p.Funcs), (15, vi (p.Funcs.length : Int)), (16, vi v16_20), (21, vl a37 k38 ((p.Funcs.getD v16_20.toNat default).Blocks)), (22, vi (((p.Funcs.getD v16_20.toNat default).Blocks).length : Int)), (23, vi v23_45)], [O a46 k47 st20_44, S a37 k38 ((p.Funcs.getD v16_20.toNat default).Blocks), S pa0 pk0 p.Funcs, Cl st1P [st1m0], Mp vstr vb okStr st1m0 st10_43, Cl st2P [vl a46 k47 st20_44], pv st0P [.func (.func 33) #[] #[st1P, st2P]], pv (gp 0) [vl kwLA kwLK kwL], S kwLA kwLK kwL], validate_each_Variables_2_L1 ((p.Funcs.getD v16_20.toNat default).Blocks) r42 st10_43 st20_44 v23_45 = validate_each_Variables_2_L1 ((p.Funcs.getD v16_20.toNat default).Blocks) ((((((p.Funcs.getD v16_20.toNat default).Blocks).length : Int) : Int) - 0).toNat) st10_18 st20_19 0 ∧ r42 = (((((p.Funcs.getD v16_20.toNat default).Blocks).length : Int) : Int) - v23_45).toNat ∧ (0 : Int) ≤ v23_45 ∧ (v23_45 ≤ (((p.Funcs.getD v16_20.toNat default).Blocks).length : Int) ∨ v23_45 = 0) ∧ (-9223372036854775808 ≤ v23_45 ∧ v23_45 ≤ 9223372036854775807) ∧ ((st20_44.length : Int) ≤ (st20_19.length : Int) + 180 * v23_45), r42⟩) ((((((p.Funcs.getD v16_20.toNat default).Blocks).length : Int) : Int) - 0).toNat, st10_18, st20_19, 0, a21, k22) [3, 2, 3, 4, 4, 4, 4, 5, 6] ⟨rfl, rfl, (by omega), (.inr rfl), (by omega), iv0⟩ ?_
   rintro ⟨r42, st10_43, st20_44, v23_45, a46, k47⟩ ⟨hM48, hr49, hi50, hi51, hk52, hv53⟩
   refine JJ_nx fun _ _ hL hA => ?_; dsimp only at hL hA; subst hL hA
   refine Fb 16 0 fun hl54 => ?_
   refine FoS 0 fun ho55 => ?_
   refine Fb 40 1 fun hl56 => ?_
   refine Fb 40 2 fun hl57 => ?_
   refine Fb 16 8 fun hl58 => ?_
   refine FoS 8 fun ho59 => ?_
   refine KS ?_
   refine Oq Vlss (KS ?_)
   refine Kc ?_ ?_
   · intro h60
     have g61 := of_decide_eq_true h60
     have hVk := hVf.2 v23_45.toNat
     obtain ⟨r62, rfl⟩ := scc (n := r42) (by omega)
     refine KS ?_
     refine Oq (Vi sl43 1) ?_
     refine JJ_peek_GBlock v23_45.toNat 1 rfl rng fun a63 k64 hb65 => ?_
     refine Fb 72 1 fun hl66 => ?_
     refine Oq (VldA sh49 0) (Oa (Al ze49 [.string (bs (Str.mk [])), .slice none 0 0]) fun p67 => Ost (Scl [0] sh49 [.string (bs ((((p.Funcs.getD v16_20.toNat default).Blocks).getD v23_45.toNat default).Name)), .slice a63 (((((p.Funcs.getD v16_20.toNat default).Blocks).getD v23_45.toNat default).Stmts).length) k64]) (KS ?_))
     refine Oq (Vfa fo49_1 0) (Oq (VldF sh47 0) (Oq (Vlen sl47) (Oq Vm (KS ?_))))
     refine Kl (γ := Nat × (List (Str × Bool)) × List Str × Int × Option Addr × Nat) (fun (r68, st10_69, st20_70, v30_71, a72, k73) => ⟨[(1, .func (.func 34) #[] #[st0P]), (14, vl pa0 pk0 p.Funcs), (15, vi (p.Funcs.length : Int)), (16, vi v16_20), (21, vl a37 k38 ((p.Funcs.getD v16_20.toNat default).Blocks)), (22, vi (((p.Funcs.getD v16_20.toNat default).Blocks).length : Int)), (23, vi v23_45), (28, .slice a63 (((((p.Funcs.getD v16_20.toNat default).Blocks).getD v23_45.toNat default).Stmts).length) k64), (29, vi (((((p.Funcs.getD v16_20.toNat default).Blocks).getD v23_45.toNat default).Stmts).length : Int)), (30, vi v30_71)], [O a72 k73 st20_70, S a63 k64 ((((p.Funcs.getD v16_20.toNat default).Blocks).getD v23_45.toNat default).Stmts), S a37 k38 ((p.Funcs.getD v16_20.toNat default).Blocks), S pa0 pk0 p.Funcs, Cl st1P [st1m0], Mp vstr vb okStr st1m0 st10_69, Cl st2P [vl a72 k73 st20_70], pv st0P [.func (.func 33) #[] #[st1P, st2P]], pv (gp 0) [vl kwLA kwLK kwL], S kwLA kwLK kwL], validate_each_Variables_2_L2 ((((p.Funcs.getD v16_20.toNat default).Blocks).getD v23_45.toNat default).Stmts) r68 st10_69 st20_70 v30_71 = validate_each_Variables_2_L2 ((((p.Funcs.getD v16_20.toNat default).Blocks).getD v23_45.toNat default).Stmts) ((((((((p.Funcs.getD v16_20.toNat default).Blocks).getD v23_45.toNat default).Stmts).length : Int) : Int) - 0).toNat) st10_43 st20_44 0 ∧ r68 = (((((((p.Funcs.getD v16_20.toNat default).Blocks).getD v23_45.toNat default).Stmts).length : Int) : Int) - v30_71).toNat ∧ (0 : Int) ≤ v30_71 ∧ (v30_71 ≤ (((((p.Funcs.getD v16_20.toNat default).Blocks).getD v23_45.toNat default).Stmts).length : Int) ∨ v30_71 = 0) ∧ (-9223372036854775808 ≤ v30_71 ∧ v30_71 ≤ 9223372036854775807) ∧ ((st20_70.length : Int) ≤ (st20_44.length : Int) + 5 * v30_71), r68⟩) ((((((((p.Funcs.getD v16_20.toNat default).Blocks).getD v23_45.toNat default).Stmts).length : Int) : Int) - 0).toNat, st10_43, st20_44, 0, a46, k47) [3, 2, 3, 4, 5, 5, 5, 5, 6, 7] ⟨rfl, rfl, (by omega), (.inr rfl), (by omega), iv0⟩ ?_
     rintro ⟨r68, st10_69, st20_70, v30_71, a72, k73⟩ ⟨hM74, hr75, hi76, hi77, hk78, hv79⟩
     refine JJ_nx fun _ _ hL hA => ?_; dsimp only at hL hA; subst hL hA
     refine Fb 16 0 fun hl80 => ?_
     refine FoS 0 fun ho81 => ?_
     refine Fb 72 1 fun hl82 => ?_
     refine Fb 40 2 fun hl83 => ?_
     refine Fb 40 3 fun hl84 => ?_
     refine Fb 16 9 fun hl85 => ?_
     refine FoS 9 fun ho86 => ?_
     refine KS ?_
     refine Oq Vlss (KS ?_)
     refine Kc ?_ ?_
     · intro h87
       have g88 := of_decide_eq_true h87
       have hVs := hVk.2 v30_71.toNat
       obtain ⟨r89, rfl⟩ := scc (n := r68) (by omega)
       refine KS ?_
       refine Oq (Vi sl47 1) ?_
       refine JJ_peek_GStmt v30_71.toNat 1 rfl rng fun a90 k91 a92 k93 hb94 hb95 => ?_
       unfold i64ok at hb94
       refine Fb 16 1 fun hl96 => ?_
       refine FoS 1 fun ho97 => ?_
       refine Fb 16 2 fun hl98 => ?_
       refine FoS 2 fun ho99 => ?_
       refine Oq (VldA sh51 0) (Oa (Al ze51 [vi 0, .string (bs (Str.mk [])), .slice none 0 0, .slice none 0 0]) fun p100 => Ost (Scl [0] sh51 [vi ((((((p.Funcs.getD v16_20.toNat default).Blocks).getD v23_45.toNat default).Stmts).getD v30_71.toNat default).Op), .string (bs ((((((p.Funcs.getD v16_20.toNat default).Blocks).getD v23_45.toNat default).Stmts).getD v30_71.toNat default).Def)), .slice a90 (((((((p.Funcs.getD v16_20.toNat default).Blocks).getD v23_45.toNat default).Stmts).getD v30_71.toNat default).Uses).length) k91, .slice a92 (((((((p.Funcs.getD v16_20.toNat default).Blocks).getD v23_45.toNat default).Stmts).getD v30_71.toNat default).Targets).length) k93]) (KS ?_))
       refine Oq Vm (Oq (VldA sh51 0) ?_)
       refine letv (validate_Variables_2_Variables_1 (((((p.Funcs.getD v16_20.toNat default).Blocks).getD v23_45.toNat default).Stmts).getD v30_71.toNat default) st10_69 st20_70) fun rv102 hg103 => ?_
       have hc104 := fn34m0 ((((((p.Funcs.getD v16_20.toNat default).Blocks).getD v23_45.toNat default).Stmts).getD v30_71.toNat default)) a90 k91 a92 k93 st1P st10_69 st1m0 st2P st20_70 a72 k73 st0P pre pre pre rv102 hg103
       refine JO_call [2, 3, 8, 8, 8, 4, 7] rfl rfl rfl (OpC.clo («as» := [(.agg #[vi ((((((p.Funcs.getD v16_20.toNat default).Blocks).getD v23_45.toNat default).Stmts).getD v30_71.toNat default).Op), .string (bs ((((((p.Funcs.getD v16_20.toNat default).Blocks).getD v23_45.toNat default).Stmts).getD v30_71.toNat default).Def)), .slice a90 (((((((p.Funcs.getD v16_20.toNat default).Blocks).getD v23_45.toNat default).Stmts).getD v30_71.toNat default).Uses).length) k91, .slice a92 (((((((p.Funcs.getD v16_20.toNat default).Blocks).getD v23_45.toNat default).Stmts).getD v30_71.toNat default).Targets).length) k93] : Value), (st0P : Value)]) rfl rfl ca34 rfl (by simp)) hc104 rfl ?_
       rintro c101 he105
       refine Jo 3 ?_; rintro a106 k107 rfl
       refine Fb 16 3 fun hl108 => ?_
       refine FoS 3 fun ho109 => ?_
       refine KS ?_
       refine Oq Vadd (Oq Vm (KS ?_))
       exact Kg (r89, rv102.1, rv102.2, (v30_71 + 1), a106, k107) [3, 7, 8, 9, 0, 0, 0, 7, 8, 9] ⟨(q3 hM74 (by simp only [validate_each_Variables_2_L2, h10, h15, h34, h60, h87, hg8, hg103, cs4])), (by omega), (by omega), (by omega), (by omega), iv1⟩
     intro h87
     have g110 := of_decide_eq_false h87
     obtain rfl : r68 = 0 := by omega
     refine Ke ?_
     have hR111 := q2 hM74 (st10_69, st20_70) (by simp only [validate_each_Variables_2_L2, h10, h15, h34, h60, h87, hg8, cs4])
     refine KS ?_
     refine Oq Vadd (Oq Vm (KS ?_))
     exact Kg (r62, st10_69, st20_70, (v23_45 + 1), a72, k73) [0, 1, 2, 3, 3, 3, 3, 4, 5] ⟨(q3 hM48 (by simp only [validate_each_Variables_2_L1, h10, h15, h34, h60, h87, hg8, hR111, cs4])), (by omega), (by omega), (by omega), (by omega), iv1⟩
   intro h60
   have g112 := of_decide_eq_false h60
   obtain rfl : r42 = 0 := by omega
   refine Ke ?_
   have hR113 := q2 hM48 (st10_43, st20_44) (by simp only [validate_each_Variables_2_L1, h10, h15, h34, h60, hg8, cs4])
   refine KS ?_
   refine Oq Vadd (Oq Vm (KS ?_))
   exact Kg (r36, st10_43, st20_44, (v16_20 + 1), a46, k47) [0, 1, 2, 2, 2, 2, 3, 4] ⟨(q3 hM23 (by simp only [validate_each_Variables_2_L0, h10, h15, h34, h60, hg8, hR113, cs4])), (by omega), (by omega), (by omega), (by omega), iv1⟩
 intro h34
 have g114 := of_decide_eq_false h34
 obtain rfl : r17 = 0 := by omega
 refine Ke ?_
 have hR115 := q2 hM23 (st10_18, st20_19) (by simp only [validate_each_Variables_2_L0, h10, h15, h34, hg8, cs4])
 have hq := q4 hrr (st10_18, st20_19) (by simp only [validate_each_Variables_2, h10, h15, h34, hg8, hR115, cs4]); subst hq
 exact Kz (vl a21 k22 st20_19) rfl .nil [2, 2, 2, 0] en
theorem fn15 (p : GProgram) (pa0 : Option Addr) (pk0 : Nat) (kwLA : Option Addr) (kwLK : Nat) (hps : PSm p = true) (rr : List Str) (hrr : validate_Variables p = rr) : FT Tryd.prog 15 #[.agg #[vl pa0 pk0 p.Funcs]] [S pa0 pk0 p.Funcs, pv (gp 0) [vl kwLA kwLK kwL], S kwLA kwLK kwL] (fun g : Value => (rr.length ≤ 30000)) (fun g => g) (fun g => [sl g rr]) := by
 refine FTi Tryd.func15 fun w0 M0 F0 => ?_
 refine Fb 40 0 fun hl1 => ?_
 refine Fb 16 2 fun hl2 => ?_
 refine FoS 2 fun ho3 => ?_
 refine KS ?_
 refine Oa (Ab [vl pa0 pk0 p.Funcs]) fun p4 => Oq Va (KS ?_)
 refine Oa (Amp (κ := Str) (ν := Bool) (ek := vstr) (ev := vb) (ok := okStr)) fun p5 => ?_
 refine Jom 0 ?_; rintro b6 rfl
 refine Oa (Al ze65 [.map none]) fun p7 => Ost (Scl [0] sh65 [(mv b6)]) (KS ?_)
 refine Oa (Al ze40 [.slice none 0 0]) fun p8 => KS ?_
 refine Oq (Vf [p7, p8]) (Oa (Al ze72 [.nilFunc]) fun p9 => Ost (Scl [0] sh72 [.func (.func 33) #[] #[p7, p8]]) (KS ?_))
 refine Oq (VldA sh27 4) (Oq (Vf [p9]) ?_)
 refine Jl [] (Ent.osNil (α := Str)) ?_
 refine Jl [1] (Ent.freezeCl _ _) ?_
 refine letv (validate_each_Variables_2 p [] []) fun rv11 hg12 => ?_
 have hc13 := fn31m1 p pa0 pk0 p7 [] (mv b6) p8 [] none 0 p9 kwLA kwLK pre pre rv11 hg12
 refine Oc [6, 3, 3, 2, 1, 0, 3, 4] ca31 hc13 ?_
 rintro c10 he14
 refine Jo 3 ?_; rintro a15 k16 rfl
 refine Fb 16 3 fun hl17 => ?_
 refine FoS 3 fun ho18 => ?_
 refine KS ?_
 refine Oq (Vld sh40 2) (Oq Va (KS ?_))
 refine Jl [3] (Ent.freeze _ _) ?_
 have hq := q4 hrr rv11.2 (by simp only [validate_Variables, hg12, cs4]); subst hq
 exact Kr (vl a15 k16 rv11.2) rfl (.tmp rfl .nil) [0] en
theorem fn28 (l : List GFunc) (la0 : Option Addr) (lk0 : Nat) (nameF : FuncId) (nameC : List Value) (namep : GFunc → Str) (nameA : List SP) (hnamec : callable Tryd.prog nameF = true) (hnameF : ∀ x0, ∀ (a0 : Option Addr) (k0 : Nat), x0.Name.b.length ≤ 140737488355328 → FT Tryd.prog nameF ([(.agg #[.string (bs x0.Name), vl a0 k0 x0.Blocks] : Value)] ++ nameC).toArray ([S a0 k0 x0.Blocks] ++ [pAll nameA]) (fun _ : Unit => (namep x0).b.length ≤ 140737488355328) (fun _ => .string (bs (namep x0))) (fun _ => [])) (rr : Int × (List (Str × Bool))) (hrr : validate_duplicate_Func l namep = rr) : FT Tryd.prog 28 #[vl la0 lk0 l, .func (.func nameF) #[] nameC.toArray] [S la0 lk0 l, pAll nameA] (fun g : Value => i64ok rr.1) (fun g => .tuple #[vi rr.1, g]) (fun g => [Mp vstr vb okStr g rr.2]) := by
 refine FTi Tryd.func28 fun w0 M0 F0 => ?_
 refine Fb 40 0 fun hl1 => ?_
 refine KS ?_
 refine Oq Va (Oq Va (KS ?_))
 refine Oa (Amp (κ := Str) (ν := Bool) (ek := vstr) (ev := vb) (ok := okStr)) fun p2 => ?_
 refine Jom 0 ?_; rintro b3 rfl
 refine Oq Va (KS ?_)
 refine Oq Va (KS ?_)
 refine Oq Vm (Oq (Vlen sl25) (Oq Vm (KS ?_)))
 refine Kl (γ := Nat × (List (Str × Bool)) × Int × Int) (fun (r4, known_5, at__6, v13_7) => ⟨[(1, .func (.func nameF) #[] nameC.toArray), (6, (mv b3)), (7, vi at__6), (11, vl la0 lk0 l), (12, vi (l.length : Int)), (13, vi v13_7)], [Mp vstr vb okStr (mv b3) known_5, S la0 lk0 l, pAll nameA], validate_duplicate_Func_L0 l namep r4 known_5 at__6 v13_7 = validate_duplicate_Func_L0 l namep (((l.length : Int) - 0).toNat) [] (-1) 0 ∧ r4 = ((l.length : Int) - v13_7).toNat ∧ (0 : Int) ≤ v13_7 ∧ v13_7 ≤ (l.length : Int) ∧ (-9223372036854775808 ≤ at__6 ∧ at__6 ≤ 9223372036854775807) ∧ (-9223372036854775808 ≤ v13_7 ∧ v13_7 ≤ 9223372036854775807), r4⟩) (((l.length : Int) - 0).toNat, [], -1, 0) [0, 0, 1] ⟨rfl, rfl, (by omega), (by omega), (by omega), (by omega)⟩ ?_
 rintro ⟨r4, known_5, at__6, v13_7⟩ ⟨hM8, hr9, hi10, hi11, hk12, hk13⟩
 refine JJ_nx fun _ _ hL hA => ?_; dsimp only at hL hA; subst hL hA
 refine Fb 40 1 fun hl14 => ?_
 refine KS ?_
 refine Oq Vlss (KS ?_)
 refine Kc ?_ ?_
 · intro h15
   have g16 := of_decide_eq_true h15
   obtain ⟨r17, rfl⟩ := scc (n := r4) (by omega)
   refine KS ?_
   refine Oq Vm (Oq (Vi sl25 1) ?_)
   refine JJ_peek_GFunc v13_7.toNat 1 rfl rng fun a18 k19 hb20 => ?_
   refine Fb 40 1 fun hl21 => ?_
   refine Oq (VldA sh45 0) (Oa (Al ze45 [.string (bs (Str.mk [])), .slice none 0 0]) fun p22 => Oq Va (Ost (Scl [0] sh45 [.string (bs ((l.getD v13_7.toNat default).Name)), vl a18 k19 ((l.getD v13_7.toNat default).Blocks)]) (KS ?_)))
   refine Oq Vm (Oq Vm (Oq (VldA sh45 0) ?_))
   refine JO_call [2, 5] rfl rfl rfl (OpC.clo («as» := [(.agg #[.string (bs ((l.getD v13_7.toNat default).Name)), vl a18 k19 ((l.getD v13_7.toNat default).Blocks)] : Value)] ++ nameC) rfl rfl hnamec rfl (by simp)) (hnameF (l.getD v13_7.toNat default) a18 k19 pre) rfl fun _ he23 => ?_
   refine Oq (Vmk1 3 false mt65 (kStr un9) ze4 (ek := vstr) (ev := vb) (ok := okStr) (key := (namep (l.getD v13_7.toNat default))) pre) (Oq Vm ?_)
   refine Js 23 ?_ ?_
   · intro h24
     refine Oq Vm (Oq Vlss (Oq Vpt (KS ?_)))
     refine Kc ?_ ?_
     · intro h26
       have g27 := of_decide_eq_true h26
       refine KS ?_
       refine Oq Vm (Oq Va (KS ?_))
       refine Oq Vm (Oq Vm (Oq (VldA sh45 0) ?_))
       refine JO_call [2, 5] rfl rfl rfl (OpC.clo («as» := [(.agg #[.string (bs ((l.getD v13_7.toNat default).Name)), vl a18 k19 ((l.getD v13_7.toNat default).Blocks)] : Value)] ++ nameC) rfl rfl hnamec rfl (by simp)) (hnameF (l.getD v13_7.toNat default) a18 k19 pre) rfl fun _ he28 => ?_
       refine Ost (Smp [3] mt65 (kStr un9) true (ek := vstr) (ev := vb) (ok := okStr) (key := (namep (l.getD v13_7.toNat default))) pre) (KS ?_)
       refine Oq Vadd (Oq Vm (KS ?_))
       exact Kg (r17, (mset known_5 (namep (l.getD v13_7.toNat default)) true), v13_7, (v13_7 + 1)) [0, 3, 4] ⟨(q3 hM8 (by simp only [validate_duplicate_Func_L0, h15, h24, h26, cs4])), (by omega), (by omega), (by omega), (by omega), (by omega)⟩
     intro h26
     have g29 := of_decide_eq_false h26
     refine KS ?_
     refine Oq Vm (Oq Vm (Oq (VldA sh45 0) ?_))
     refine JO_call [2, 5] rfl rfl rfl (OpC.clo («as» := [(.agg #[.string (bs ((l.getD v13_7.toNat default).Name)), vl a18 k19 ((l.getD v13_7.toNat default).Blocks)] : Value)] ++ nameC) rfl rfl hnamec rfl (by simp)) (hnameF (l.getD v13_7.toNat default) a18 k19 pre) rfl fun _ he30 => ?_
     refine Ost (Smp [3] mt65 (kStr un9) true (ek := vstr) (ev := vb) (ok := okStr) (key := (namep (l.getD v13_7.toNat default))) pre) (KS ?_)
     refine Oq Vadd (Oq Vm (KS ?_))
     exact Kg (r17, (mset known_5 (namep (l.getD v13_7.toNat default)) true), at__6, (v13_7 + 1)) [0, 3, 4] ⟨(q3 hM8 (by simp only [validate_duplicate_Func_L0, h15, h24, h26, cs4])), (by omega), (by omega), (by omega), (by omega), (by omega)⟩
   intro h24
   refine Osk (Osk (Oq Vpf (KS ?_)))
   refine Kf ?_
   refine KS ?_
   refine Oq Vm (Oq Vm (Oq (VldA sh45 0) ?_))
   refine JO_call [2, 5] rfl rfl rfl (OpC.clo («as» := [(.agg #[.string (bs ((l.getD v13_7.toNat default).Name)), vl a18 k19 ((l.getD v13_7.toNat default).Blocks)] : Value)] ++ nameC) rfl rfl hnamec rfl (by simp)) (hnameF (l.getD v13_7.toNat default) a18 k19 pre) rfl fun _ he32 => ?_
   refine Ost (Smp [3] mt65 (kStr un9) true (ek := vstr) (ev := vb) (ok := okStr) (key := (namep (l.getD v13_7.toNat default))) pre) (KS ?_)
   refine Oq Vadd (Oq Vm (KS ?_))
   exact Kg (r17, (mset known_5 (namep (l.getD v13_7.toNat default)) true), at__6, (v13_7 + 1)) [0, 3, 4] ⟨(q3 hM8 (by simp only [validate_duplicate_Func_L0, h15, h24, cs4])), (by omega), (by omega), (by omega), (by omega), (by omega)⟩
 intro h15
 have g33 := of_decide_eq_false h15
 obtain rfl : r4 = 0 := by omega
 refine Ke ?_
 have hR34 := q2 hM8 (known_5, at__6) (by simp only [validate_duplicate_Func_L0, h15, cs4])
 refine KS ?_
 refine Oq Vm (Oq Vm (Oq Va (Oq Va (KS ?_))))
 have hq := q4 hrr (at__6, known_5) (by simp only [validate_duplicate_Func, h15, hR34, cs4]); subst hq
 exact Kr (mv b3) rfl (.tmp rfl (.tmp rfl .nil)) [0] en
theorem fn29 (f : GFunc) (fa1 : Option Addr) (fk1 : Nat) (hf_0 : f.Name.b.length ≤ 140737488355328) (rr : Str) (hrr : validate_Check_1 f = rr) : FT Tryd.prog 29 #[.agg #[.string (bs f.Name), vl fa1 fk1 f.Blocks]] [S fa1 fk1 f.Blocks] (fun g : Unit => rr.b.length ≤ 140737488355328) (fun g => .string (bs rr)) (fun g => []) := by
 refine FTi Tryd.func29 fun w0 M0 F0 => ?_
 refine Fb 40 0 fun hl1 => ?_
 refine KS ?_
 refine Oa (Ab [.string (bs f.Name), vl fa1 fk1 f.Blocks]) fun p2 => Oq Va (KS ?_)
 refine Oq (Vfa fo45_0 0) (Oq (VldF sh9 0) (Oq Va (KS ?_)))
 have hq := q4 hrr f.Name (by simp only [validate_Check_1, cs4]); subst hq
 exact Kr () rfl (.tmp rfl .nil) [] en
theorem fn48 (l : List GBlock) (la0 : Option Addr) (lk0 : Nat) (nameF : FuncId) (nameC : List Value) (namep : GBlock → Str) (nameA : List SP) (hnamec : callable Tryd.prog nameF = true) (hnameF : ∀ x0, ∀ (a0 : Option Addr) (k0 : Nat), x0.Name.b.length ≤ 140737488355328 → FT Tryd.prog nameF ([(.agg #[.string (bs x0.Name), vl a0 k0 x0.Stmts] : Value)] ++ nameC).toArray ([S a0 k0 x0.Stmts] ++ [pAll nameA]) (fun _ : Unit => (namep x0).b.length ≤ 140737488355328) (fun _ => .string (bs (namep x0))) (fun _ => [])) (rr : Int × (List (Str × Bool))) (hrr : validate_duplicate_Block l namep = rr) : FT Tryd.prog 48 #[vl la0 lk0 l, .func (.func nameF) #[] nameC.toArray] [S la0 lk0 l, pAll nameA] (fun g : Value => i64ok rr.1) (fun g => .tuple #[vi rr.1, g]) (fun g => [Mp vstr vb okStr g rr.2]) := by
 refine FTi Tryd.func48 fun w0 M0 F0 => ?_
 refine Fb 40 0 fun hl1 => ?_
 refine KS ?_
 refine Oq Va (Oq Va (KS ?_))
 refine Oa (Amp (κ := Str) (ν := Bool) (ek := vstr) (ev := vb) (ok := okStr)) fun p2 => ?_
 refine Jom 0 ?_; rintro b3 rfl
 refine Oq Va (KS ?_)
 refine Oq Va (KS ?_)
 refine Oq Vm (Oq (Vlen sl43) (Oq Vm (KS ?_)))
 refine Kl (γ := Nat × (List (Str × Bool)) × Int × Int) (fun (r4, known_5, at__6, v13_7) => ⟨[(1, .func (.func nameF) #[] nameC.toArray), (6, (mv b3)), (7, vi at__6), (11, vl la0 lk0 l), (12, vi (l.length : Int)), (13, vi v13_7)], [Mp vstr vb okStr (mv b3) known_5, S la0 lk0 l, pAll nameA], validate_duplicate_Block_L0 l namep r4 known_5 at__6 v13_7 = validate_duplicate_Block_L0 l namep (((l.length : Int) - 0).toNat) [] (-1) 0 ∧ r4 = ((l.length : Int) - v13_7).toNat ∧ (0 : Int) ≤ v13_7 ∧ v13_7 ≤ (l.length : Int) ∧ (-9223372036854775808 ≤ at__6 ∧ at__6 ≤ 9223372036854775807) ∧ (-9223372036854775808 ≤ v13_7 ∧ v13_7 ≤ 9223372036854775807), r4⟩) (((l.length : Int) - 0).toNat, [], -1, 0) [0, 0, 1] ⟨rfl, rfl, (by omega), (by omega), (by omega), (by omega)⟩ ?_
 rintro ⟨r4, known_5, at__6, v13_7⟩ ⟨hM8, hr9, hi10, hi11, hk12, hk13⟩
 refine JJ_nx fun _ _ hL hA => ?_; dsimp only at hL hA; subst hL hA
 refine Fb 40 1 fun hl14 => ?_
 refine KS ?_
 refine Oq Vlss (KS ?_)
 refine Kc ?_ ?_
 · intro h15
   have g16 := of_decide_eq_true h15
   obtain ⟨r17, rfl⟩ := scc (n := r4) (by omega)
   refine KS ?_
   refine Oq Vm (Oq (Vi sl43 1) ?_)
   refine JJ_peek_GBlock v13_7.toNat 1 rfl rng fun a18 k19 hb20 => ?_
   refine Fb 72 1 fun hl21 => ?_
   refine Oq (VldA sh49 0) (Oa (Al ze49 [.string (bs (Str.mk [])), .slice none 0 0]) fun p22 => Oq Va (Ost (Scl [0] sh49 [.string (bs ((l.getD v13_7.toNat default).Name)), vl a18 k19 ((l.getD v13_7.toNat default).Stmts)]) (KS ?_)))
   refine Oq Vm (Oq Vm (Oq (VldA sh49 0) ?_))
   refine JO_call [2, 5] rfl rfl rfl (OpC.clo («as» := [(.agg #[.string (bs ((l.getD v13_7.toNat default).Name)), vl a18 k19 ((l.getD v13_7.toNat default).Stmts)] : Value)] ++ nameC) rfl rfl hnamec rfl (by simp)) (hnameF (l.getD v13_7.toNat default) a18 k19 pre) rfl fun _ he23 => ?_
   refine Oq (Vmk1 3 false mt65 (kStr un9) ze4 (ek := vstr) (ev := vb) (ok := okStr) (key := (namep (l.getD v13_7.toNat default))) pre) (Oq Vm ?_)
   refine Js 23 ?_ ?_
   · intro h24
     refine Oq Vm (Oq Vlss (Oq Vpt (KS ?_)))
     refine Kc ?_ ?_
     · intro h26
       have g27 := of_decide_eq_true h26
       refine KS ?_
       refine Oq Vm (Oq Va (KS ?_))
       refine Oq Vm (Oq Vm (Oq (VldA sh49 0) ?_))
       refine JO_call [2, 5] rfl rfl rfl (OpC.clo («as» := [(.agg #[.string (bs ((l.getD v13_7.toNat default).Name)), vl a18 k19 ((l.getD v13_7.toNat default).Stmts)] : Value)] ++ nameC) rfl rfl hnamec rfl (by simp)) (hnameF (l.getD v13_7.toNat default) a18 k19 pre) rfl fun _ he28 => ?_
       refine Ost (Smp [3] mt65 (kStr un9) true (ek := vstr) (ev := vb) (ok := okStr) (key := (namep (l.getD v13_7.toNat default))) pre) (KS ?_)
       refine Oq Vadd (Oq Vm (KS ?_))
       exact Kg (r17, (mset known_5 (namep (l.getD v13_7.toNat default)) true), v13_7, (v13_7 + 1)) [0, 3, 4] ⟨(q3 hM8 (by simp only [validate_duplicate_Block_L0, h15, h24, h26, cs4])), (by omega), (by omega), (by omega), (by omega), (by omega)⟩
     intro h26
     have g29 := of_decide_eq_false h26
     refine KS ?_
     refine Oq Vm (Oq Vm (Oq (VldA sh49 0) ?_))
     refine JO_call [2, 5] rfl rfl rfl (OpC.clo («as» := [(.agg #[.string (bs ((l.getD v13_7.toNat default).Name)), vl a18 k19 ((l.getD v13_7.toNat default).Stmts)] : Value)] ++ nameC) rfl rfl hnamec rfl (by simp)) (hnameF (l.getD v13_7.toNat default) a18 k19 pre) rfl fun _ he30 => ?_
     refine Ost (Smp [3] mt65 (kStr un9) true (ek := vstr) (ev := vb) (ok := okStr) (key := (namep (l.getD v13_7.toNat default))) pre) (KS ?_)
     refine Oq Vadd (Oq Vm (KS ?_))
     exact Kg (r17, (mset known_5 (namep (l.getD v13_7.toNat default)) true), at__6, (v13_7 + 1)) [0, 3, 4] ⟨(q3 hM8 (by simp only [validate_duplicate_Block_L0, h15, h24, h26, cs4])), (by omega), (by omega), (by omega), (by omega), (by omega)⟩
   intro h24
   refine Osk (Osk (Oq Vpf (KS ?_)))
   refine Kf ?_
   refine KS ?_
   refine Oq Vm (Oq Vm (Oq (VldA sh49 0) ?_))
   refine JO_call [2, 5] rfl rfl rfl (OpC.clo («as» := [(.agg #[.string (bs ((l.getD v13_7.toNat default).Name)), vl a18 k19 ((l.getD v13_7.toNat default).Stmts)] : Value)] ++ nameC) rfl rfl hnamec rfl (by simp)) (hnameF (l.getD v13_7.toNat default) a18 k19 pre) rfl fun _ he32 => ?_
   refine Ost (Smp [3] mt65 (kStr un9) true (ek := vstr) (ev := vb) (ok := okStr) (key := (namep (l.getD v13_7.toNat default))) pre) (KS ?_)
   refine Oq Vadd (Oq Vm (KS ?_))
   exact Kg (r17, (mset known_5 (namep (l.getD v13_7.toNat default)) true), at__6, (v13_7 + 1)) [0, 3, 4] ⟨(q3 hM8 (by simp only [validate_duplicate_Block_L0, h15, h24, cs4])), (by omega), (by omega), (by omega), (by omega), (by omega)⟩
 intro h15
 have g33 := of_decide_eq_false h15
 obtain rfl : r4 = 0 := by omega
 refine Ke ?_
 have hR34 := q2 hM8 (known_5, at__6) (by simp only [validate_duplicate_Block_L0, h15, cs4])
 refine KS ?_
 refine Oq Vm (Oq Vm (Oq Va (Oq Va (KS ?_))))
 have hq := q4 hrr (at__6, known_5) (by simp only [validate_duplicate_Block, h15, hR34, cs4]); subst hq
 exact Kr (mv b3) rfl (.tmp rfl (.tmp rfl .nil)) [0] en
theorem fn49 (b : GBlock) (ba1 : Option Addr) (bk1 : Nat) (hb_0 : b.Name.b.length ≤ 140737488355328) (rr : Str) (hrr : validate_function_1 b = rr) : FT Tryd.prog 49 #[.agg #[.string (bs b.Name), vl ba1 bk1 b.Stmts]] [S ba1 bk1 b.Stmts] (fun g : Unit => rr.b.length ≤ 140737488355328) (fun g => .string (bs rr)) (fun g => []) := by
 refine FTi Tryd.func49 fun w0 M0 F0 => ?_
 refine Fb 72 0 fun hl1 => ?_
 refine KS ?_
 refine Oa (Ab [.string (bs b.Name), vl ba1 bk1 b.Stmts]) fun p2 => Oq Va (KS ?_)
 refine Oq (Vfa fo49_0 0) (Oq (VldF sh9 0) (Oq Va (KS ?_)))
 have hq := q4 hrr b.Name (by simp only [validate_function_1, cs4]); subst hq
 exact Kr () rfl (.tmp rfl .nil) [] en
theorem fn62 (s : GStmt) (sa2 : Option Addr) (sk2 : Nat) (sa3 : Option Addr) (sk3 : Nat) (hs_0 : i64ok s.Op) (hs_1 : s.Def.b.length ≤ 140737488355328) (rr : Bool) (hrr : validate_terminator s = rr) : FT Tryd.prog 62 #[.agg #[vi s.Op, .string (bs s.Def), vl sa2 sk2 s.Uses, vl sa3 sk3 s.Targets]] [S sa2 sk2 s.Uses, S sa3 sk3 s.Targets] (fun g : Unit => True) (fun g => vb rr) (fun g => []) := by
 refine FTi Tryd.func62 fun w0 M0 F0 => ?_
 unfold i64ok at hs_0
 refine Fb 16 0 fun hl1 => ?_
 refine FoS 0 fun ho2 => ?_
 refine Fb 16 1 fun hl3 => ?_
 refine FoS 1 fun ho4 => ?_
 refine KS ?_
 refine Oa (Ab [vi s.Op, .string (bs s.Def), vl sa2 sk2 s.Uses, vl sa3 sk3 s.Targets]) fun p5 => Oq Va (KS ?_)
 refine Oq (Vfa fo51_0 0) (Oq (VldF sh3 0) (Oq Veql (Oq Vm ?_)))
 refine Js 6 ?_ ?_
 · intro h6
   have g7 := eq_of_beq h6
   refine Osk (Osk (Osk (Oq Vpt (Oq Vm (Osk (Osk (Osk (Oq Vpt (Oq Va ?_)))))))))
   refine KS ?_
   have hq := q4 hrr true (by simp only [validate_terminator, h6, cs4]); subst hq
   exact Kr () rfl (.tmp rfl .nil) [] trivial
 intro h6
 have g8 := ne_of_beq_false h6
 refine Oq (Vfa fo51_0 0) (Oq (VldF sh3 0) (Oq Veql (Oq Vpf (Oq Vm ?_))))
 refine Js 11 ?_ ?_
 · intro h9
   have g10 := eq_of_beq h9
   refine Osk (Osk (Osk (Oq Vpt (Oq Va (KS ?_)))))
   have hq := q4 hrr true (by simp only [validate_terminator, h6, h9, cs4]); subst hq
   exact Kr () rfl (.tmp rfl .nil) [] trivial
 intro h9
 have g11 := ne_of_beq_false h9
 refine Oq (Vfa fo51_0 0) (Oq (VldF sh3 0) (Oq Veql (Oq Vpf (Oq Va (KS ?_)))))
 have hq := q4 hrr (s.Op == 9) (by simp only [validate_terminator, h6, h9, cs4]); subst hq
 exact Kr () rfl (.tmp rfl .nil) [] trivial
theorem fn50 (s : GStmt) (sa2 : Option Addr) (sk2 : Nat) (sa3 : Option Addr) (sk3 : Nat) (last : Bool) (knownP : Value) (known : List (Str × Bool)) (hs_0 : i64ok s.Op) (hs_1 : s.Def.b.length ≤ 140737488355328) (rr : Int) (hrr : validate_statement s last known = rr) : FT Tryd.prog 50 #[.agg #[vi s.Op, .string (bs s.Def), vl sa2 sk2 s.Uses, vl sa3 sk3 s.Targets], vb last, knownP] [S sa2 sk2 s.Uses, S sa3 sk3 s.Targets, Mp vstr vb okStr knownP known] (fun g : Unit => i64ok rr) (fun g => vi rr) (fun g => [Mp vstr vb okStr knownP known]) := by
 refine FTi Tryd.func50 fun w0 M0 F0 => ?_
 unfold i64ok at hs_0
 refine Fb 16 0 fun hl1 => ?_
 refine FoS 0 fun ho2 => ?_
 refine Fb 16 1 fun hl3 => ?_
 refine FoS 1 fun ho4 => ?_
 refine KS ?_
 refine Oa (Ab [vi s.Op, .string (bs s.Def), vl sa2 sk2 s.Uses, vl sa3 sk3 s.Targets]) fun p5 => Oq Va (KS ?_)
 refine Oq (VldA sh51 0) ?_
 refine letv (validate_terminator s) fun rv6 hg7 => ?_
 have hc8 := fn62 s sa2 sk2 sa3 sk3 pre pre rv6 hg7
 refine Oc [1, 2] ca62 hc8 ?_
 rintro - -
 refine Oq Vm (Oq (Vnb un4) (KS ?_))
 refine Kc ?_ ?_
 · intro h9
   refine KS ?_
   refine Oq Va (KS ?_)
   have hq := q4 hrr 4 (by simp only [validate_statement, h9, hg7, cs4]); subst hq
   exact Kr () rfl (.tmp rfl .nil) [3] en
 intro h9
 refine KS ?_
 refine Oq (Vfa fo51_3 0) (Oq (VldF sh40 0) (Oq (Vlen sl40) (Oq Vm (KS ?_))))
 refine Kl (γ := Nat × Int) (fun (r12, v16_13) => ⟨[(2, knownP), (14, vl sa3 sk3 s.Targets), (15, vi (s.Targets.length : Int)), (16, vi v16_13)], [S sa3 sk3 s.Targets, Mp vstr vb okStr knownP known], validate_statement_L0 s known r12 v16_13 = validate_statement_L0 s known (((s.Targets.length : Int) - 0).toNat) 0 ∧ r12 = ((s.Targets.length : Int) - v16_13).toNat ∧ (0 : Int) ≤ v16_13 ∧ v16_13 ≤ (s.Targets.length : Int) ∧ (-9223372036854775808 ≤ v16_13 ∧ v16_13 ≤ 9223372036854775807), r12⟩) (((s.Targets.length : Int) - 0).toNat, 0) [2, 3] ⟨rfl, rfl, (by omega), (by omega), (by omega)⟩ ?_
 rintro ⟨r12, v16_13⟩ ⟨hM14, hr15, hi16, hi17, hk18⟩
 refine JJ_nx fun _ _ hL hA => ?_; dsimp only at hL hA; subst hL hA
 refine Fb 16 0 fun hl19 => ?_
 refine FoS 0 fun ho20 => ?_
 refine KS ?_
 refine Oq Vlss (KS ?_)
 refine Kc ?_ ?_
 · intro h21
   have g22 := of_decide_eq_true h21
   obtain ⟨r23, rfl⟩ := scc (n := r12) (by omega)
   refine KS ?_
   refine Oq (Vi sl40 0) ?_
   have hb24 := okS (i := v16_13.toNat) ho20 rng
   refine Oq (VldS sh9 0) (Oq Va (KS ?_))
   refine Oq Vm (Oq Vm (Oq (Vmk1 1 false mt65 (kStr un9) ze4 (ek := vstr) (ev := vb) (ok := okStr) (key := (s.Targets.getD v16_13.toNat default)) pre) (Oq Vnot (KS ?_))))
   refine Kc ?_ ?_
   · intro h25
     have h27 := not_true h25
     refine KS ?_
     refine Oq Va (KS ?_)
     have hR29 := q2 hM14 (.ret 5) (by simp only [validate_statement_L0, h9, h21, h25, h27, hg7, cs4])
     have hq := q4 hrr 5 (by simp only [validate_statement, h9, h21, h25, h27, hg7, hR29, cs4]); subst hq
     exact Kr () rfl (.tmp rfl .nil) [1] en
   intro h25
   have h31 := not_false h25
   refine KS ?_
   refine Oq Vadd (Oq Vm (KS ?_))
   exact Kg (r23, (v16_13 + 1)) [0, 1] ⟨(q3 hM14 (by simp only [validate_statement_L0, h9, h21, h25, h31, hg7, cs4])), (by omega), (by omega), (by omega), (by omega)⟩
 intro h21
 have g33 := of_decide_eq_false h21
 obtain rfl : r12 = 0 := by omega
 refine Ke ?_
 have hR34 := q2 hM14 (.brk ()) (by simp only [validate_statement_L0, h9, h21, hg7, cs4])
 refine KS ?_
 refine Oq Va (KS ?_)
 have hq := q4 hrr 0 (by simp only [validate_statement, h9, h21, hg7, hR34, cs4]); subst hq
 exact Kr () rfl (.tmp rfl .nil) [1] en
theorem fn30 (f : GFunc) (fa1 : Option Addr) (fk1 : Nat) (i : Int) (funcsP : Value) (funcs : List (Str × Bool)) (hf_0 : f.Name.b.length ≤ 140737488355328) (hi_0 : i64ok i) (rr : GNode × Int) (hrr : validate_function f i funcs = rr) : FT Tryd.prog 30 #[.agg #[.string (bs f.Name), vl fa1 fk1 f.Blocks], vi i, funcsP] [S fa1 fk1 f.Blocks, Mp vstr vb okStr funcsP funcs] (fun g : Unit => i64ok rr.1.Kind ∧ i64ok rr.1.Func ∧ i64ok rr.1.Block ∧ i64ok rr.1.Stmt ∧ i64ok rr.2) (fun g => .tuple #[.agg #[vi rr.1.Kind, vi rr.1.Func, vi rr.1.Block, vi rr.1.Stmt], vi rr.2]) (fun g => [Mp vstr vb okStr funcsP funcs]) := by
 refine FTi Tryd.func30 fun w0 M0 F0 => ?_
 unfold i64ok at hi_0
 refine Fb 40 0 fun hl1 => ?_
 refine KS ?_
 refine Oa (Ab [.string (bs f.Name), vl fa1 fk1 f.Blocks]) fun p2 => Oa (Al ze34 [vi 0, vi 0, vi 0, vi 0]) fun p3 => Oq Va (KS ?_)
 refine Oq (Vfa fo45_1 1) (Oq (VldF sh43 1) ?_)
 refine JJ_ent (Ent.pall [] rfl rfl) ?_
 refine letv (validate_duplicate_Block f.Blocks (fun x0 => validate_function_1 x0)) fun rv5 hg6 => ?_
 have hc7 := fn48 f.Blocks fa1 fk1 49 [] (fun x0 => validate_function_1 x0) [] ca49 (fun x0 a0 k0 hq0 => FT_pall (A1 := _) (fn49 x0 a0 k0  hq0 _ rfl)) rv5 hg6
 refine Oc [3, 0] ca48 hc7 ?_
 rintro c4 he8
 unfold i64ok at he8
 refine Jom 0 ?_; rintro b9 rfl
 refine Oq Vm (Oq Vx (Oq Vx (Oq Va (Oq Va (KS ?_)))))
 refine Oq Vm (Oq Vgeq (KS ?_))
 refine Kc ?_ ?_
 · intro h10
   have g11 := of_decide_eq_true h10
   refine KS ?_
   refine Oq Vm (Oq Vm (Oq (Vbd st34 [vi 3, vi i, vi rv5.1, vi (-1)]) (Ost (Scl [2] sh34 [vi 3, vi i, vi rv5.1, vi (-1)]) (Oq Va (KS ?_)))))
   have hq := q4 hrr ((GNode.mk 3 i rv5.1 (-1)), 6) (by simp only [validate_function, h10, hg6, cs4]); subst hq
   exact Kr () rfl (.cellN 0 rfl sh34 rfl (reads_Cl _ _) rfl (.tmp rfl .nil)) [5] en
 intro h10
 have g12 := of_decide_eq_false h10
 refine KS ?_
 refine Oq (Vfa fo45_1 3) (Oq (VldF sh43 3) (Oq (Vlen sl43) (Oq Vm (KS ?_))))
 refine Kl (γ := Nat × Int) (fun (r13, v30_14) => ⟨[(1, vi i), (2, funcsP), (6, p3), (9, (mv b9)), (28, vl fa1 fk1 f.Blocks), (29, vi (f.Blocks.length : Int)), (30, vi v30_14)], [Mp vstr vb okStr (mv b9) rv5.2, pAll [], Cl p3 [vi 0, vi 0, vi 0, vi 0], S fa1 fk1 f.Blocks, Mp vstr vb okStr funcsP funcs], validate_function_L0 f i funcs rv5.2 r13 v30_14 = validate_function_L0 f i funcs rv5.2 (((f.Blocks.length : Int) - 0).toNat) 0 ∧ r13 = ((f.Blocks.length : Int) - v30_14).toNat ∧ (0 : Int) ≤ v30_14 ∧ v30_14 ≤ (f.Blocks.length : Int) ∧ (-9223372036854775808 ≤ v30_14 ∧ v30_14 ≤ 9223372036854775807), r13⟩) (((f.Blocks.length : Int) - 0).toNat, 0) [0, 0, 1, 2, 3] ⟨rfl, rfl, (by omega), (by omega), (by omega)⟩ ?_
 rintro ⟨r13, v30_14⟩ ⟨hM15, hr16, hi17, hi18, hk19⟩
 refine JJ_nx fun _ _ hL hA => ?_; dsimp only at hL hA; subst hL hA
 refine Fb 40 3 fun hl20 => ?_
 refine KS ?_
 refine Oq Vlss (KS ?_)
 refine Kc ?_ ?_
 · intro h21
   have g22 := of_decide_eq_true h21
   obtain ⟨r23, rfl⟩ := scc (n := r13) (by omega)
   refine KS ?_
   refine Oq Vm (Oq (Vi sl43 3) ?_)
   refine JJ_peek_GBlock v30_14.toNat 3 rfl rng fun a24 k25 hb26 => ?_
   refine Fb 72 1 fun hl27 => ?_
   refine Oq (VldA sh49 0) (Oa (Al ze49 [.string (bs (Str.mk [])), .slice none 0 0]) fun p28 => Oq Va (Ost (Scl [0] sh49 [.string (bs ((f.Blocks.getD v30_14.toNat default).Name)), vl a24 k25 ((f.Blocks.getD v30_14.toNat default).Stmts)]) (KS ?_)))
   refine Oq (Vfa fo49_1 0) (Oq (VldF sh47 0) (Oq (Vlen sl47) (Oq Vm (KS ?_))))
   refine Kl (γ := Nat × Int) (fun (r29, v38_30) => ⟨[(1, vi i), (2, funcsP), (6, p3), (9, (mv b9)), (28, vl fa1 fk1 f.Blocks), (29, vi (f.Blocks.length : Int)), (30, vi v30_14), (11, p28), (10, vi v30_14), (36, vl a24 k25 ((f.Blocks.getD v30_14.toNat default).Stmts)), (37, vi (((f.Blocks.getD v30_14.toNat default).Stmts).length : Int)), (38, vi v38_30)], [Cl p28 [.string (bs ((f.Blocks.getD v30_14.toNat default).Name)), vl a24 k25 ((f.Blocks.getD v30_14.toNat default).Stmts)], S a24 k25 ((f.Blocks.getD v30_14.toNat default).Stmts), Mp vstr vb okStr (mv b9) rv5.2, pAll [], Cl p3 [vi 0, vi 0, vi 0, vi 0], S fa1 fk1 f.Blocks, Mp vstr vb okStr funcsP funcs], validate_function_L1 i funcs rv5.2 v30_14 ((f.Blocks.getD v30_14.toNat default).Stmts) ((f.Blocks.getD v30_14.toNat default).Stmts) r29 v38_30 = validate_function_L1 i funcs rv5.2 v30_14 ((f.Blocks.getD v30_14.toNat default).Stmts) ((f.Blocks.getD v30_14.toNat default).Stmts) ((((((f.Blocks.getD v30_14.toNat default).Stmts).length : Int) : Int) - 0).toNat) 0 ∧ r29 = (((((f.Blocks.getD v30_14.toNat default).Stmts).length : Int) : Int) - v38_30).toNat ∧ (0 : Int) ≤ v38_30 ∧ (v38_30 ≤ (((f.Blocks.getD v30_14.toNat default).Stmts).length : Int) ∨ v38_30 = 0) ∧ (-9223372036854775808 ≤ v38_30 ∧ v38_30 ≤ 9223372036854775807), r29⟩) ((((((f.Blocks.getD v30_14.toNat default).Stmts).length : Int) : Int) - 0).toNat, 0) [0, 1, 2, 2, 3, 3, 4] ⟨rfl, rfl, (by omega), (.inr rfl), (by omega)⟩ ?_
   rintro ⟨r29, v38_30⟩ ⟨hM31, hr32, hi33, hi34, hk35⟩
   refine JJ_nx fun _ _ hL hA => ?_; dsimp only at hL hA; subst hL hA
   refine Fb 72 1 fun hl36 => ?_
   refine Fb 40 5 fun hl37 => ?_
   refine KS ?_
   refine Oq Vlss (KS ?_)
   refine Kc ?_ ?_
   · intro h38
     have g39 := of_decide_eq_true h38
     obtain ⟨r40, rfl⟩ := scc (n := r29) (by omega)
     refine KS ?_
     refine Oq Vm (Oq (Vi sl47 1) ?_)
     refine JJ_peek_GStmt v38_30.toNat 1 rfl rng fun a41 k42 a43 k44 hb45 hb46 => ?_
     unfold i64ok at hb45
     refine Fb 16 1 fun hl47 => ?_
     refine FoS 1 fun ho48 => ?_
     refine Fb 16 2 fun hl49 => ?_
     refine FoS 2 fun ho50 => ?_
     refine Oq (VldA sh51 0) (Oa (Al ze51 [vi 0, .string (bs (Str.mk [])), .slice none 0 0, .slice none 0 0]) fun p51 => Oq Va (Ost (Scl [0] sh51 [vi ((((f.Blocks.getD v30_14.toNat default).Stmts).getD v38_30.toNat default).Op), .string (bs ((((f.Blocks.getD v30_14.toNat default).Stmts).getD v38_30.toNat default).Def)), .slice a41 (((((f.Blocks.getD v30_14.toNat default).Stmts).getD v38_30.toNat default).Uses).length) k42, .slice a43 (((((f.Blocks.getD v30_14.toNat default).Stmts).getD v38_30.toNat default).Targets).length) k44]) (KS ?_)))
     refine Oq Vm (Oq Va (KS ?_))
     refine Oq (Vfa fo51_0 0) (Oq (VldF sh3 0) (Oq Veql (KS ?_)))
     refine Kc ?_ ?_
     · intro h52
       have g53 := eq_of_beq h52
       refine KS ?_
       refine Oq Vm (Oq Va (KS ?_))
       refine Oq (VldA sh51 0) (Oq Vm (Oq (Vfa fo49_1 4) (Oq (VldF sh47 4) (Oq (Vlen sl47) (Oq Vsub (Oq Veql (Oq Vm ?_)))))))
       refine letv (validate_statement (((f.Blocks.getD v30_14.toNat default).Stmts).getD v38_30.toNat default) (v38_30 == ((((f.Blocks.getD v30_14.toNat default).Stmts).length : Int) - 1)) funcs) fun rv54 hg55 => ?_
       have hc56 := fn50 ((((f.Blocks.getD v30_14.toNat default).Stmts).getD v38_30.toNat default)) a41 k42 a43 k44 ((v38_30 == ((((f.Blocks.getD v30_14.toNat default).Stmts).length : Int) - 1))) funcsP funcs pre pre rv54 hg55
       refine Oc [2, 3, 10] ca50 hc56 ?_
       rintro - he57
       unfold i64ok at he57
       refine Oq Va (KS ?_)
       refine Oq Vm (Oq Vneq (KS ?_))
       refine Kc ?_ ?_
       · intro h58
         have g59 := ne_of_bne h58
         refine KS ?_
         refine Oq Vm (Oq Vm (Oq Vm (Oq (Vbd st34 [vi 3, vi i, vi v30_14, vi v38_30]) (Oq Vm (Ost (Scl [9] sh34 [vi 3, vi i, vi v30_14, vi v38_30]) (Oq Va (KS ?_)))))))
         have hR60 := q2 hM31 (.ret ((GNode.mk 3 i v30_14 v38_30), rv54)) (by simp only [validate_function_L1, h10, h21, h38, h52, h58, hg6, hg55, cs4])
         have hR61 := q2 hM15 (.ret ((GNode.mk 3 i v30_14 v38_30), rv54)) (by simp only [validate_function_L0, h10, h21, h38, h52, h58, hg6, hg55, hR60, cs4])
         have hq := q4 hrr ((GNode.mk 3 i v30_14 v38_30), rv54) (by simp only [validate_function, h10, h21, h38, h52, h58, hg6, hg55, hR60, hR61, cs4]); subst hq
         exact Kr () rfl (.cellN 0 rfl sh34 rfl (reads_Cl _ _) rfl (.tmp rfl .nil)) [1] en
       intro h58
       have g62 := eq_of_bne_false h58
       refine KS ?_
       refine Oq Vadd (Oq Vm (KS ?_))
       exact Kg (r40, (v38_30 + 1)) [5, 5, 6, 6, 7, 7, 0] ⟨(q3 hM31 (by simp only [validate_function_L1, h10, h21, h38, h52, h58, hg6, hg55, cs4])), (by omega), (by omega), (by omega), (by omega)⟩
     intro h52
     have g63 := ne_of_beq_false h52
     refine KS ?_
     refine Oq (VldA sh51 0) (Oq Vm (Oq (Vfa fo49_1 4) (Oq (VldF sh47 4) (Oq (Vlen sl47) (Oq Vsub (Oq Veql (Oq Vm ?_)))))))
     refine letv (validate_statement (((f.Blocks.getD v30_14.toNat default).Stmts).getD v38_30.toNat default) (v38_30 == ((((f.Blocks.getD v30_14.toNat default).Stmts).length : Int) - 1)) rv5.2) fun rv64 hg65 => ?_
     have hc66 := fn50 ((((f.Blocks.getD v30_14.toNat default).Stmts).getD v38_30.toNat default)) a41 k42 a43 k44 ((v38_30 == ((((f.Blocks.getD v30_14.toNat default).Stmts).length : Int) - 1))) (mv b9) rv5.2 pre pre rv64 hg65
     refine Oc [2, 3, 6] ca50 hc66 ?_
     rintro - he67
     unfold i64ok at he67
     refine Oq Va (KS ?_)
     refine Oq Vm (Oq Vneq (KS ?_))
     refine Kc ?_ ?_
     · intro h68
       have g69 := ne_of_bne h68
       refine KS ?_
       refine Oq Vm (Oq Vm (Oq Vm (Oq (Vbd st34 [vi 3, vi i, vi v30_14, vi v38_30]) (Oq Vm (Ost (Scl [8] sh34 [vi 3, vi i, vi v30_14, vi v38_30]) (Oq Va (KS ?_)))))))
       have hR70 := q2 hM31 (.ret ((GNode.mk 3 i v30_14 v38_30), rv64)) (by simp only [validate_function_L1, h10, h21, h38, h52, h68, hg6, hg65, cs4])
       have hR71 := q2 hM15 (.ret ((GNode.mk 3 i v30_14 v38_30), rv64)) (by simp only [validate_function_L0, h10, h21, h38, h52, h68, hg6, hg65, hR70, cs4])
       have hq := q4 hrr ((GNode.mk 3 i v30_14 v38_30), rv64) (by simp only [validate_function, h10, h21, h38, h52, h68, hg6, hg65, hR70, hR71, cs4]); subst hq
       exact Kr () rfl (.cellN 0 rfl sh34 rfl (reads_Cl _ _) rfl (.tmp rfl .nil)) [10] en
     intro h68
     have g72 := eq_of_bne_false h68
     refine KS ?_
     refine Oq Vadd (Oq Vm (KS ?_))
     exact Kg (r40, (v38_30 + 1)) [5, 5, 0, 5, 6, 6, 7] ⟨(q3 hM31 (by simp only [validate_function_L1, h10, h21, h38, h52, h68, hg6, hg65, cs4])), (by omega), (by omega), (by omega), (by omega)⟩
   intro h38
   have g73 := of_decide_eq_false h38
   obtain rfl : r29 = 0 := by omega
   refine Ke ?_
   have hR74 := q2 hM31 (.brk ()) (by simp only [validate_function_L1, h10, h21, h38, hg6, cs4])
   refine KS ?_
   refine Oq Vadd (Oq Vm (KS ?_))
   exact Kg (r23, (v30_14 + 1)) [2, 2, 3, 3, 4] ⟨(q3 hM15 (by simp only [validate_function_L0, h10, h21, h38, hg6, hR74, cs4])), (by omega), (by omega), (by omega), (by omega)⟩
 intro h21
 have g75 := of_decide_eq_false h21
 obtain rfl : r13 = 0 := by omega
 refine Ke ?_
 have hR76 := q2 hM15 (.brk ()) (by simp only [validate_function_L0, h10, h21, hg6, cs4])
 refine KS ?_
 refine Oq (Vbd st34 [vi 0, vi 0, vi 0, vi 0]) (Ost (Scl [2] sh34 [vi 0, vi 0, vi 0, vi 0]) (Oq Va (KS ?_)))
 have hq := q4 hrr ((GNode.mk 0 0 0 0), 0) (by simp only [validate_function, h10, h21, hg6, hR76, cs4]); subst hq
 exact Kr () rfl (.cellN 0 rfl sh34 rfl (reads_Cl _ _) rfl (.tmp rfl .nil)) [4] en
theorem fn13 (p : GProgram) (pa0 : Option Addr) (pk0 : Nat) (kwLA : Option Addr) (kwLK : Nat) (hps : PSm p = true) (rr : GNode × Int) (hrr : validate_Check p = rr) : FT Tryd.prog 13 #[.agg #[vl pa0 pk0 p.Funcs]] [S pa0 pk0 p.Funcs, pv (gp 0) [vl kwLA kwLK kwL], S kwLA kwLK kwL] (fun g : Unit => i64ok rr.1.Kind ∧ i64ok rr.1.Func ∧ i64ok rr.1.Block ∧ i64ok rr.1.Stmt ∧ i64ok rr.2) (fun g => .tuple #[.agg #[vi rr.1.Kind, vi rr.1.Func, vi rr.1.Block, vi rr.1.Stmt], vi rr.2]) (fun g => []) := by
 refine FTi Tryd.func13 fun w0 M0 F0 => ?_
 refine Fb 40 0 fun hl1 => ?_
 refine Fb 16 2 fun hl2 => ?_
 refine FoS 2 fun ho3 => ?_
 refine KS ?_
 refine Oa (Ab [vl pa0 pk0 p.Funcs]) fun p4 => Oa (Al ze34 [vi 0, vi 0, vi 0, vi 0]) fun p5 => Oq Va (KS ?_)
 refine Oq (VldA sh27 1) ?_
 refine letv (syntax_Valid p) fun rv6 hg7 => ?_
 have hc8 := fn27 p pa0 pk0 kwLA kwLK pre rv6 hg7
 refine Oc [2, 3, 4] ca27 hc8 ?_
 rintro - -
 refine Oq Vnot (KS ?_)
 refine Kc ?_ ?_
 · intro h9
   have h11 := not_true h9
   refine KS ?_
   refine Oq (Vbd st34 [vi 0, vi 0, vi 0, vi 0]) (Ost (Scl [0] sh34 [vi 0, vi 0, vi 0, vi 0]) (Oq Va (KS ?_)))
   have hq := q4 hrr ((GNode.mk 0 0 0 0), 1) (by simp only [validate_Check, h9, h11, hg7, cs4]); subst hq
   exact Kr () rfl (.cellN 0 rfl sh34 rfl (reads_Cl _ _) rfl (.tmp rfl .nil)) [] en
 intro h9
 have h14 := not_false h9
 refine KS ?_
 refine Oq (Vfa fo27_0 1) (Oq (VldF sh25 1) ?_)
 refine JJ_ent (Ent.pall [] rfl rfl) ?_
 refine letv (validate_duplicate_Func p.Funcs (fun x0 => validate_Check_1 x0)) fun rv17 hg18 => ?_
 have hc19 := fn28 p.Funcs pa0 pk0 29 [] (fun x0 => validate_Check_1 x0) [] ca29 (fun x0 a0 k0 hq0 => FT_pall (A1 := _) (fn29 x0 a0 k0  hq0 _ rfl)) rv17 hg18
 refine Oc [3, 0] ca28 hc19 ?_
 rintro c16 he20
 unfold i64ok at he20
 refine Jom 0 ?_; rintro b21 rfl
 refine Oq Vm (Oq Vx (Oq Vx (Oq Va (Oq Va (KS ?_)))))
 refine Oq Vm (Oq Vgeq (KS ?_))
 refine Kc ?_ ?_
 · intro h22
   have g23 := of_decide_eq_true h22
   refine KS ?_
   refine Oq Vm (Oq (Vbd st34 [vi 1, vi rv17.1, vi (-1), vi (-1)]) (Ost (Scl [2] sh34 [vi 1, vi rv17.1, vi (-1), vi (-1)]) (Oq Va (KS ?_))))
   have hq := q4 hrr ((GNode.mk 1 rv17.1 (-1) (-1)), 6) (by simp only [validate_Check, h9, h14, h22, hg7, hg18, cs4]); subst hq
   exact Kr () rfl (.cellN 0 rfl sh34 rfl (reads_Cl _ _) rfl (.tmp rfl .nil)) [] en
 intro h22
 have g24 := of_decide_eq_false h22
 refine KS ?_
 refine Oq (Vfa fo27_0 3) (Oq (VldF sh25 3) (Oq (Vlen sl25) (Oq Vm (KS ?_))))
 refine Kl (γ := Nat × Int) (fun (r25, v29_26) => ⟨[(1, p4), (2, p5), (5, (mv b21)), (27, vl pa0 pk0 p.Funcs), (28, vi (p.Funcs.length : Int)), (29, vi v29_26)], [Mp vstr vb okStr (mv b21) rv17.2, pAll [], Cl p5 [vi 0, vi 0, vi 0, vi 0], pv p4 [vl pa0 pk0 p.Funcs], S pa0 pk0 p.Funcs, pv (gp 0) [vl kwLA kwLK kwL], S kwLA kwLK kwL], validate_Check_L0 p rv17.2 r25 v29_26 = validate_Check_L0 p rv17.2 (((p.Funcs.length : Int) - 0).toNat) 0 ∧ r25 = ((p.Funcs.length : Int) - v29_26).toNat ∧ (0 : Int) ≤ v29_26 ∧ v29_26 ≤ (p.Funcs.length : Int) ∧ (-9223372036854775808 ≤ v29_26 ∧ v29_26 ≤ 9223372036854775807), r25⟩) (((p.Funcs.length : Int) - 0).toNat, 0) [0, 0, 1, 1, 2, 3, 4] ⟨rfl, rfl, (by omega), (by omega), (by omega)⟩ ?_
 rintro ⟨r25, v29_26⟩ ⟨hM27, hr28, hi29, hi30, hk31⟩
 refine JJ_nx fun _ _ hL hA => ?_; dsimp only at hL hA; subst hL hA
 refine Fb 40 4 fun hl32 => ?_
 refine Fb 16 6 fun hl33 => ?_
 refine FoS 6 fun ho34 => ?_
 refine KS ?_
 refine Oq Vlss (KS ?_)
 refine Kc ?_ ?_
 · intro h35
   have g36 := of_decide_eq_true h35
   obtain ⟨r37, rfl⟩ := scc (n := r25) (by omega)
   refine KS ?_
   refine Oq Vm (Oq (Vi sl25 4) ?_)
   refine JJ_peek_GFunc v29_26.toNat 4 rfl rng fun a38 k39 hb40 => ?_
   refine Fb 40 1 fun hl41 => ?_
   refine Oq (VldA sh45 0) (Oa (Al ze45 [.string (bs (Str.mk [])), .slice none 0 0]) fun p42 => Oq Va (Ost (Scl [0] sh45 [.string (bs ((p.Funcs.getD v29_26.toNat default).Name)), vl a38 k39 ((p.Funcs.getD v29_26.toNat default).Blocks)]) (KS ?_)))
   refine Oq (VldA sh45 0) (Oq Vm (Oq Vm ?_))
   refine letv (validate_function (p.Funcs.getD v29_26.toNat default) v29_26 rv17.2) fun rv43 hg44 => ?_
   have hc45 := fn30 ((p.Funcs.getD v29_26.toNat default)) a38 k39 v29_26 (mv b21) rv17.2 pre pre rv43 hg44
   refine Oc [2, 3] ca30 hc45 ?_
   rintro - ⟨he46, he47, he48, he49, he50⟩
   unfold i64ok at he46 he47 he48 he49 he50
   refine Oq Vm (Oq Vx (Oq Vx (Oa (Al ze34 [vi 0, vi 0, vi 0, vi 0]) fun p51 => Ost (Scl [0] sh34 [vi rv43.1.Kind, vi rv43.1.Func, vi rv43.1.Block, vi rv43.1.Stmt]) (Oq Va (KS ?_)))))
   refine Oq Vm (Oq Vneq (KS ?_))
   refine Kc ?_ ?_
   · intro h52
     have g53 := ne_of_bne h52
     refine KS ?_
     refine Oq (VldA sh34 0) (Oq Vm (Ost (Scl [6] sh34 [vi rv43.1.Kind, vi rv43.1.Func, vi rv43.1.Block, vi rv43.1.Stmt]) (Oq Va (KS ?_))))
     have hR54 := q2 hM27 (.ret (rv43.1, rv43.2)) (by simp only [validate_Check_L0, h9, h14, h22, h35, h52, hg7, hg18, hg44, cs4])
     have hq := q4 hrr (rv43.1, rv43.2) (by simp only [validate_Check, h9, h14, h22, h35, h52, hg7, hg18, hg44, hR54, cs4]); subst hq
     exact Kr () rfl (.cellN 0 rfl sh34 rfl (reads_Cl _ _) rfl (.tmp rfl .nil)) [] en
   intro h52
   have g55 := eq_of_bne_false h52
   refine KS ?_
   refine Oq Vadd (Oq Vm (KS ?_))
   exact Kg (r37, (v29_26 + 1)) [1, 4, 5, 5, 6, 7, 8] ⟨(q3 hM27 (by simp only [validate_Check_L0, h9, h14, h22, h35, h52, hg7, hg18, hg44, cs4])), (by omega), (by omega), (by omega), (by omega)⟩
 intro h35
 have g56 := of_decide_eq_false h35
 obtain rfl : r25 = 0 := by omega
 refine Ke ?_
 have hR57 := q2 hM27 (.brk ()) (by simp only [validate_Check_L0, h9, h14, h22, h35, hg7, hg18, cs4])
 refine KS ?_
 refine Oq (VldA sh27 3) ?_
 refine letv (validate_Sizes p) fun rv58 hg59 => ?_
 have hc60 := fn14 p pa0 pk0 kwLA kwLK pre rv58 hg59
 refine Oc [4, 5, 6] ca14 hc60 ?_
 rintro - ⟨he61, he62, he63⟩
 unfold i64ok at he61 he62
 refine Oq Vm (Oq Vx (Oq Vx (Oq Va (Oq Va (KS ?_)))))
 refine Oq (VldA sh27 3) ?_
 refine letv (validate_Variables p) fun rv65 hg66 => ?_
 have hc67 := fn15 p pa0 pk0 kwLA kwLK pre rv65 hg66
 refine Oc [4, 5, 6] ca15 hc67 ?_
 rintro c64 he68
 refine Jo 0 ?_; rintro a69 k70 rfl
 refine Fb 16 0 fun hl71 => ?_
 refine FoS 0 fun ho72 => ?_
 refine Oq (Vlen sl40) (Oq Vgtr (Oq Vm ?_))
 refine Js 55 ?_ ?_
 · intro h73
   have g74 := of_decide_eq_true h73
   refine Osk (Osk (Oq Vpt (Oq Vm (Osk (Osk (Oq Vpt (KS ?_)))))))
   refine Kt ?_
   refine KS ?_
   refine Oq (Vbd st34 [vi 0, vi 0, vi 0, vi 0]) (Ost (Scl [3] sh34 [vi 0, vi 0, vi 0, vi 0]) (Oq Va (KS ?_)))
   have hq := q4 hrr ((GNode.mk 0 0 0 0), 7) (by simp only [validate_Check, h9, h14, h22, h35, h73, hg7, hg18, hR57, hg59, hg66, cs4]); subst hq
   exact Kr () rfl (.cellN 0 rfl sh34 rfl (reads_Cl _ _) rfl (.tmp rfl .nil)) [] en
 intro h73
 have g75 := of_decide_eq_false h73
 refine Oq Vm (Oq Vgtr (Oq Vpf (Oq Vm ?_)))
 refine Js 59 ?_ ?_
 · intro h76
   have g77 := of_decide_eq_true h76
   refine Osk (Osk (Oq Vpt (KS ?_)))
   refine Kt ?_
   refine KS ?_
   refine Oq (Vbd st34 [vi 0, vi 0, vi 0, vi 0]) (Ost (Scl [3] sh34 [vi 0, vi 0, vi 0, vi 0]) (Oq Va (KS ?_)))
   have hq := q4 hrr ((GNode.mk 0 0 0 0), 7) (by simp only [validate_Check, h9, h14, h22, h35, h73, h76, hg7, hg18, hR57, hg59, hg66, cs4]); subst hq
   exact Kr () rfl (.cellN 0 rfl sh34 rfl (reads_Cl _ _) rfl (.tmp rfl .nil)) [] en
 intro h76
 have g78 := of_decide_eq_false h76
 refine Oq Vm (Oq Vgtr (Oq Vpf (KS ?_)))
 refine Kc ?_ ?_
 · intro h79
   have g80 := of_decide_eq_true h79
   refine KS ?_
   refine Oq (Vbd st34 [vi 0, vi 0, vi 0, vi 0]) (Ost (Scl [3] sh34 [vi 0, vi 0, vi 0, vi 0]) (Oq Va (KS ?_)))
   have hq := q4 hrr ((GNode.mk 0 0 0 0), 7) (by simp only [validate_Check, h9, h14, h22, h35, h73, h76, h79, hg7, hg18, hR57, hg59, hg66, cs4]); subst hq
   exact Kr () rfl (.cellN 0 rfl sh34 rfl (reads_Cl _ _) rfl (.tmp rfl .nil)) [] en
 intro h79
 have g81 := of_decide_eq_false h79
 refine KS ?_
 refine Oq (Vbd st34 [vi 0, vi 0, vi 0, vi 0]) (Ost (Scl [3] sh34 [vi 0, vi 0, vi 0, vi 0]) (Oq Va (KS ?_)))
 have hq := q4 hrr ((GNode.mk 0 0 0 0), 0) (by simp only [validate_Check, h9, h14, h22, h35, h73, h76, h79, hg7, hg18, hR57, hg59, hg66, cs4]); subst hq
 exact Kr () rfl (.cellN 0 rfl sh34 rfl (reads_Cl _ _) rfl (.tmp rfl .nil)) [] en
theorem fn36 (c : Int) (hc_0 : 0 ≤ c ∧ c ≤ 255) (rr : Bool) (hrr : flqref4_letter c = rr) : FT Tryd.prog 36 #[.int .u8 c] [] (fun g : Unit => True) (fun g => vb rr) (fun g => []) := by
 refine FTi Tryd.func36 fun w0 M0 F0 => ?_
 refine KS ?_
 refine Oq Va (KS ?_)
 refine Oq Vm (Oq Vgeq (Oq Vm ?_))
 refine Js 5 ?_ ?_
 · intro h1
   have g2 := of_decide_eq_true h1
   refine Oq Vm (Oq Vleq (Oq Vpt (Oq Vm ?_)))
   refine Js 9 ?_ ?_
   · intro h3
     have g4 := of_decide_eq_true h3
     refine Osk (Osk (Osk (Osk (Osk (Osk (Oq Vpt (Oq Vm (Osk (Osk ?_)))))))))
     refine Oq Vpt (Oq Va (KS ?_))
     have hq := q4 hrr true (by simp only [flqref4_letter, h1, h3, cs4]); subst hq
     exact Kr () rfl (.tmp rfl .nil) [] trivial
   intro h3
   have g5 := of_decide_eq_false h3
   refine Oq Vm (Oq Vgeq (Oq Vm ?_))
   refine Js 12 ?_ ?_
   · intro h6
     have g7 := of_decide_eq_true h6
     refine Oq Vm (Oq Vleq (Oq Vpt (Oq Vpf (Oq Vm ?_))))
     refine Js 17 ?_ ?_
     · intro h8
       have g9 := of_decide_eq_true h8
       refine Osk (Osk (Oq Vpt (Oq Va (KS ?_))))
       have hq := q4 hrr true (by simp only [flqref4_letter, h1, h3, h6, h8, cs4]); subst hq
       exact Kr () rfl (.tmp rfl .nil) [] trivial
     intro h8
     have g10 := of_decide_eq_false h8
     refine Oq Vm (Oq Veql (Oq Vpf (Oq Va (KS ?_))))
     have hq := q4 hrr (c == 95) (by simp only [flqref4_letter, h1, h3, h6, h8, cs4]); subst hq
     exact Kr () rfl (.tmp rfl .nil) [] trivial
   intro h6
   have g11 := of_decide_eq_false h6
   refine Osk (Osk (Oq Vpf (Oq Vpf (Oq Vm (Oq Vm (Oq Veql (Oq Vpf (Oq Va (KS ?_)))))))))
   have hq := q4 hrr (c == 95) (by simp only [flqref4_letter, h1, h3, h6, cs4]); subst hq
   exact Kr () rfl (.tmp rfl .nil) [] trivial
 intro h1
 have g12 := of_decide_eq_false h1
 refine Osk (Osk (Oq Vpf (Oq Vm (Oq Vm (Oq Vgeq (Oq Vm ?_))))))
 refine Js 12 ?_ ?_
 · intro h13
   have g14 := of_decide_eq_true h13
   refine Oq Vm (Oq Vleq (Oq Vpt (Oq Vpf (Oq Vm ?_))))
   refine Js 17 ?_ ?_
   · intro h15
     have g16 := of_decide_eq_true h15
     refine Osk (Osk (Oq Vpt (Oq Va (KS ?_))))
     have hq := q4 hrr true (by simp only [flqref4_letter, h1, h13, h15, cs4]); subst hq
     exact Kr () rfl (.tmp rfl .nil) [] trivial
   intro h15
   have g17 := of_decide_eq_false h15
   refine Oq Vm (Oq Veql (Oq Vpf (Oq Va (KS ?_))))
   have hq := q4 hrr (c == 95) (by simp only [flqref4_letter, h1, h13, h15, cs4]); subst hq
   exact Kr () rfl (.tmp rfl .nil) [] trivial
 intro h13
 have g18 := of_decide_eq_false h13
 refine Osk (Osk (Oq Vpf (Oq Vpf (Oq Vm (Oq Vm (Oq Veql (Oq Vpf (Oq Va (KS ?_)))))))))
 have hq := q4 hrr (c == 95) (by simp only [flqref4_letter, h1, h13, cs4]); subst hq
 exact Kr () rfl (.tmp rfl .nil) [] trivial
theorem fn37 (c : Int) (hc_0 : 0 ≤ c ∧ c ≤ 255) (rr : Bool) (hrr : flqref4_digit c = rr) : FT Tryd.prog 37 #[.int .u8 c] [] (fun g : Unit => True) (fun g => vb rr) (fun g => []) := by
 refine FTi Tryd.func37 fun w0 M0 F0 => ?_
 refine KS ?_
 refine Oq Va (KS ?_)
 refine Oq Vm (Oq Vgeq (Oq Vm ?_))
 refine Js 5 ?_ ?_
 · intro h1
   have g2 := of_decide_eq_true h1
   refine Oq Vm (Oq Vleq (Oq Vpt (Oq Va (KS ?_))))
   have hq := q4 hrr (decide (c ≤ 57)) (by simp only [flqref4_digit, h1, cs4]); subst hq
   exact Kr () rfl (.tmp rfl .nil) [] trivial
 intro h1
 have g3 := of_decide_eq_false h1
 refine Osk (Osk (Oq Vpf (Oq Va (KS ?_))))
 have hq := q4 hrr false (by simp only [flqref4_digit, h1, cs4]); subst hq
 exact Kr () rfl (.tmp rfl .nil) [] trivial
end Go.SL.G
