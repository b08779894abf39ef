/- Part 2 of the walks: mirrors, plain laws and walks used by the last text of this claim. -/
import Derived.Test.YtloefgfjlmglgaaDoorW1
import Derived.Test.YtloefgfjlmglgaaDoorProg
set_option linter.unusedVariables false
set_option linter.unusedSimpArgs false
namespace Go.SL.G
open Go Go.SL Go.Proofs
set_option maxHeartbeats 20000000
set_option maxRecDepth 100000
structure GPoint where
 X : Int
 Y : Int
instance : Inhabited GPoint := ⟨⟨0, 0⟩⟩
structure GNode where
 Kind : Int
 Func : Int
 Block : Int
 Stmt : Int
instance : Inhabited GNode := ⟨⟨0, 0, 0, 0⟩⟩
structure GGraph where
 Nodes : List GNode
 Succ : List (List Int)
 Pred : List (List Int)
instance : Inhabited GGraph := ⟨⟨[], [], []⟩⟩
structure Gedge where
 from_ : Cpx
 to_ : Cpx
instance : Inhabited Gedge := ⟨⟨⟨0#64, 0#64⟩, ⟨0#64, 0#64⟩⟩⟩
def tab0 : Str := (Str.mk [0, 1, 2, 2, 3, 3, 3, 3, 4, 4, 4, 4, 4, 4, 4, 4, 5, 5, 5, 5, 5, 5, 5, 5, 5, 5, 5, 5, 5, 5, 5, 5, 6, 6, 6, 6, 6, 6, 6, 6, 6, 6, 6, 6, 6, 6, 6, 6, 6, 6, 6, 6, 6, 6, 6, 6, 6, 6, 6, 6, 6, 6, 6, 6, 7, 7, 7, 7, 7, 7, 7, 7, 7, 7, 7, 7, 7, 7, 7, 7, 7, 7, 7, 7, 7, 7, 7, 7, 7, 7, 7, 7, 7, 7, 7, 7, 7, 7, 7, 7, 7, 7, 7, 7, 7, 7, 7, 7, 7, 7, 7, 7, 7, 7, 7, 7, 7, 7, 7, 7, 7, 7, 7, 7, 7, 7, 7, 7, 8, 8, 8, 8, 8, 8, 8, 8, 8, 8, 8, 8, 8, 8, 8, 8, 8, 8, 8, 8, 8, 8, 8, 8, 8, 8, 8, 8, 8, 8, 8, 8, 8, 8, 8, 8, 8, 8, 8, 8, 8, 8, 8, 8, 8, 8, 8, 8, 8, 8, 8, 8, 8, 8, 8, 8, 8, 8, 8, 8, 8, 8, 8, 8, 8, 8, 8, 8, 8, 8, 8, 8, 8, 8, 8, 8, 8, 8, 8, 8, 8, 8, 8, 8, 8, 8, 8, 8, 8, 8, 8, 8, 8, 8, 8, 8, 8, 8, 8, 8, 8, 8, 8, 8, 8, 8, 8, 8, 8, 8, 8, 8, 8, 8, 8, 8, 8, 8, 8, 8, 8, 8, 8, 8, 8, 8, 8, 8])
def tab1 : Str := (Str.mk [48, 49, 50, 51, 52, 53, 54, 55, 56, 57, 97, 98, 99, 100, 101, 102, 103, 104, 105, 106, 107, 108, 109, 110, 111, 112, 113, 114, 115, 116, 117, 118, 119, 120, 121, 122])
instance rep_GPoint : Rep GPoint where
 sz := 2
 bytes := 16
 pos := by decide
 bpos := by decide
 rd w M cs x := cs = [.int .i64 x.X, .int .i64 x.Y] ∧ i64ok x.X ∧ i64ok x.Y
 len := by rintro w M cs x ⟨rfl, h0, h1⟩; rfl
 one := by
  rintro w M cs x ⟨rfl, h0, h1⟩ v hv
  simp only [List.mem_cons, List.not_mem_nil, or_false] at hv
  rcases hv with rfl | rfl
  all_goals first | rfl
 st := by
  rintro w M cs x w' M' ⟨rfl, h0, h1⟩ e
  exact ⟨rfl, h0, h1⟩
theorem JJ_peek_GPoint {C : Cx} {X : Act → World → Prop} {L : Env} {A : List SP} {c : Value} {xs : List GPoint} (i m : Nat) (hA : A[m]? = some (sl c xs)) (hi : i < xs.length)
  (h : i64ok (xs.getD i default).X → i64ok (xs.getD i default).Y → JJ C X L (pv (eptr 2 c i) [.int .i64 (xs.getD i default).X, .int .i64 (xs.getD i default).Y] :: A)) : JJ C X L A := by
 refine JJ_peek i m hA hi default fun cs => ?_
 intro a w M F st
 obtain ⟨F1, F2, q1, q2, qd, hp, F3, F4, q3, q4, qd2, hr, hs⟩ := st.sp
 obtain ⟨rfl, h0, h1⟩ := hr
 exact h h0 h1 a w M F ⟨st.step, st.sz, st.df, st.sat, F1, F2, q1, q2, qd, hp, sepAll_up hs q4⟩
instance rep_GNode : Rep GNode where
 sz := 4
 bytes := 32
 pos := by decide
 bpos := by decide
 rd w M cs x := cs = [.int .i64 x.Kind, .int .i64 x.Func, .int .i64 x.Block, .int .i64 x.Stmt] ∧ i64ok x.Kind ∧ i64ok x.Func ∧ i64ok x.Block ∧ i64ok x.Stmt
 len := by rintro w M cs x ⟨rfl, h0, h1, h2, h3⟩; rfl
 one := by
  rintro w M cs x ⟨rfl, h0, h1, h2, h3⟩ v hv
  simp only [List.mem_cons, List.not_mem_nil, or_false] at hv
  rcases hv with rfl | rfl | rfl | rfl
  all_goals first | rfl
 st := by
  rintro w M cs x w' M' ⟨rfl, h0, h1, h2, h3⟩ e
  exact ⟨rfl, h0, h1, h2, h3⟩
theorem zrd_GNode (w : World) (M : Blk) : Rep.rd w M [vi 0, vi 0, vi 0, vi 0] (default : GNode) := ⟨rfl, by unfold i64ok; decide, by unfold i64ok; decide, by unfold i64ok; decide, by unfold i64ok; decide⟩
instance rep_GGraph : Rep GGraph where
 sz := 3
 bytes := 72
 pos := by decide
 bpos := by decide
 rd w M cs x := ∃ c0 c1 c2, cs = [c0, c1, c2] ∧ slrd w M c0 x.Nodes ∧ slrd w M c1 x.Succ ∧ slrd w M c2 x.Pred
 len := by rintro w M cs x ⟨c0, c1, c2, rfl, h0, h1, h2⟩; rfl
 one := by
  rintro w M cs x ⟨c0, c1, c2, rfl, h0, h1, h2⟩ v hv
  simp only [List.mem_cons, List.not_mem_nil, or_false] at hv
  rcases hv with rfl | rfl | rfl
  all_goals first | rfl | exact slrd_one h0 | exact slrd_one h1 | exact slrd_one h2
 st := by
  rintro w M cs x w' M' ⟨c0, c1, c2, rfl, h0, h1, h2⟩ e
  exact ⟨c0, c1, c2, rfl, slrd_st h0 e, slrd_st h1 e, slrd_st h2 e⟩
instance rep_Gedge : Rep Gedge where
 sz := 2
 bytes := 32
 pos := by decide
 bpos := by decide
 rd w M cs x := cs = [cxv x.from_, cxv x.to_] ∧ True
 len := by rintro w M cs x ⟨rfl, _⟩; rfl
 one := by
  rintro w M cs x ⟨rfl, _⟩ v hv
  simp only [List.mem_cons, List.not_mem_nil, or_false] at hv
  rcases hv with rfl | rfl
  all_goals first | rfl
 st := by
  rintro w M cs x w' M' ⟨rfl, _⟩ e
  exact ⟨rfl, trivial⟩
theorem JJ_peek_Gedge {C : Cx} {X : Act → World → Prop} {L : Env} {A : List SP} {c : Value} {xs : List Gedge} (i m : Nat) (hA : A[m]? = some (sl c xs)) (hi : i < xs.length)
  (h : JJ C X L (pv (eptr 2 c i) [cxv ((xs.getD i default).from_), cxv ((xs.getD i default).to_)] :: A)) : JJ C X L A := by
 refine JJ_peek i m hA hi default fun cs => ?_
 intro a w M F st
 obtain ⟨F1, F2, q1, q2, qd, hp, F3, F4, q3, q4, qd2, hr, hs⟩ := st.sp
 obtain ⟨rfl, _⟩ := hr
 exact h a w M F ⟨st.step, st.sz, st.df, st.sat, F1, F2, q1, q2, qd, hp, sepAll_up hs q4⟩
theorem ofInt_ne (n : Int) (h : 1 ≤ n ∧ n ≤ 9223372036854775807) : BitVec.ofInt 64 n ≠ 0 := by
 intro e
 have := congrArg BitVec.toNat e
 rw [BitVec.toNat_ofInt] at this
 simp at this
 omega
theorem mod_range (v n : Int) (h : 1 ≤ n ∧ n ≤ 9223372036854775807) : 0 ≤ (((BitVec.ofInt 64 v) % (BitVec.ofInt 64 n)).toNat : Int) ∧ (((BitVec.ofInt 64 v) % (BitVec.ofInt 64 n)).toNat : Int) < n := by
 rw [BitVec.toNat_umod, BitVec.toNat_ofInt, BitVec.toNat_ofInt]
 have e : (n % ((2 ^ 64 : Nat) : Int)).toNat = n.toNat := by omega
 rw [e]
 have : (v % ((2 ^ 64 : Nat) : Int)).toNat % n.toNat < n.toNat := Nat.mod_lt _ (by omega)
 omega
theorem mod_le (v n : Int) (h : 1 ≤ n ∧ n ≤ 9223372036854775807) : (((BitVec.ofInt 64 v) % (BitVec.ofInt 64 n)).toNat : Int) ≤ 9223372036854775807 := by
 have := mod_range v n h; omega
def math_Abs (x : Flo) : Flo :=
 (Flo.mk ((x.b) &&& ~~~(9223372036854775808#64)))
def math_Trunc (x : Flo) : Flo :=
 (ftrunc x)
def layout_whole_1 (x : Flo) : Bool :=
 let rv1 := (math_Abs x)
 bif (fle rv1 (Flo.mk 4652218415073722368#64)) then
  let rv6 := (math_Trunc x)
  (feq x rv6)
 else
  false
def layout_whole_2_whole_1 (p : Cpx) : Bool :=
 let rv1 := (layout_whole_1 (Flo.mk p.re))
 bif (!rv1) then
  true
 else
  let rv11 := (layout_whole_1 (Flo.mk p.im))
  (!rv11)
def sc_IndexFunc_complex128_whole_2_L0 (s : List Cpx) : Nat → Int → LR Unit Int
 | 0, v8 =>
  .brk ()
 | r + 1, v8 =>
  let rv3 := (layout_whole_2_whole_1 (s.getD v8.toNat default))
  bif rv3 then
   .ret v8
  else
   sc_IndexFunc_complex128_whole_2_L0 s r (v8 + 1)
def sc_IndexFunc_complex128_whole_2 (s : List Cpx) : Int :=
 match sc_IndexFunc_complex128_whole_2_L0 s (((s.length : Int) - 0).toNat) 0 with
 | .brk _ =>
  -1
 | .ret r => r
 | .oof => default
def sc_ContainsFunc_complex128_whole_2 (s : List Cpx) : Bool :=
 let rv1 := (sc_IndexFunc_complex128_whole_2 s)
 decide (0 ≤ rv1)
def layout_whole (at_ : List Cpx) : Bool :=
 let rv2 := (sc_ContainsFunc_complex128_whole_2 at_)
 (!rv2)
def sc_Clone_complex128 (s : List Cpx) : List Cpx := s
def layout_Turn_L1  : Nat → List Cpx → Int → List Cpx
 | 0, l, v20 =>
  l
 | r + 1, l, v20 =>
  layout_Turn_L1 r (l.set v20.toNat (cmul (l.getD v20.toNat default) (Cpx.mk 0#64 4607182418800017408#64))) (v20 + 1)
def layout_Turn_L0  : Nat → List Cpx → Int → List Cpx
 | 0, l, v16 =>
  l
 | r + 1, l, v16 =>
  match layout_Turn_L1 (((l.length : Int) - 0).toNat) l 0 with
  | o1_0 =>
   layout_Turn_L0 r o1_0 (v16 + 1)
def layout_Turn (at_ : List Cpx) (quarter : Int) : List Cpx :=
 let rv1 := (layout_whole at_)
 bif (!rv1) then
  ([] : List Cpx)
 else
  let rv12 := (sc_Clone_complex128 at_)
  match layout_Turn_L0 ((((Int.tmod ((Int.tmod quarter 4) + 4) 4) : Int) - 0).toNat) rv12 0 with
  | o0_0 =>
   o0_0
def w33_diamond  : LR Unit GGraph :=
 bif decide (0 ≤ 4 ∧ 4 * 32 ≤ 140737488355328) then
  .ret (GGraph.mk (List.replicate (4 : Int).toNat (default : GNode)) [[1, 2], [3], [3], ([] : List Int)] [([] : List Int), [0], [0], [1, 2]])
 else
  .oof
def gh_ascending_L0 (l : List Int) (n : Int) : Nat → Int → LR Unit Bool
 | 0, v9 =>
  .brk ()
 | r + 1, v9 =>
  bif decide (0 ≤ v9 ∧ v9 < (l.length : Int)) then
   bif decide ((l.getD v9.toNat 0) < 0) then
    .oof
   else
    bif decide (n ≤ (l.getD v9.toNat 0)) then
     .oof
    else
     bif decide (0 < v9) then
      bif decide (-9223372036854775808 ≤ (v9 - 1) ∧ (v9 - 1) ≤ 9223372036854775807) then
       bif decide (0 ≤ (v9 - 1) ∧ (v9 - 1) < (l.length : Int)) then
        bif decide ((l.getD v9.toNat 0) ≤ (l.getD ((v9 - 1) : Int).toNat 0)) then
         .oof
        else
         bif decide (-9223372036854775808 ≤ (v9 + 1) ∧ (v9 + 1) ≤ 9223372036854775807) then
          gh_ascending_L0 l n r (v9 + 1)
         else
          .oof
       else
        .oof
      else
       .oof
     else
      bif decide (-9223372036854775808 ≤ (v9 + 1) ∧ (v9 + 1) ≤ 9223372036854775807) then
       gh_ascending_L0 l n r (v9 + 1)
      else
       .oof
  else
   .oof
def gh_ascending (l : List Int) (n : Int) : LR Unit Bool :=
 ll (gh_ascending_L0 l n (((l.length : Int) - 0).toNat) 0) fun _ =>
 .ret true
def gh_count_L0 (l : List (List Int)) : Nat → Int → Int → LR Int Int
 | 0, edges, v8 =>
  .brk edges
 | r + 1, edges, v8 =>
  bif decide (0 ≤ v8 ∧ v8 < (l.length : Int)) then
   bif decide (0 ≤ v8 ∧ v8 < (l.length : Int)) then
    bif decide (-9223372036854775808 ≤ (edges + ((l.getD v8.toNat []).length : Int)) ∧ (edges + ((l.getD v8.toNat []).length : Int)) ≤ 9223372036854775807) then
     bif decide (1024 < (edges + ((l.getD v8.toNat []).length : Int))) then
      .oof
     else
      lb (gh_ascending (l.getD v8.toNat []) (l.length : Int)) fun rv9 =>
      bif (!rv9) then
       .oof
      else
       bif decide (-9223372036854775808 ≤ (v8 + 1) ∧ (v8 + 1) ≤ 9223372036854775807) then
        gh_count_L0 l r (edges + ((l.getD v8.toNat []).length : Int)) (v8 + 1)
       else
        .oof
    else
     .oof
   else
    .oof
  else
   .oof
def gh_count (l : List (List Int)) : LR Unit Int :=
 ll (gh_count_L0 l (((l.length : Int) - 0).toNat) 0 0) fun o0_0 =>
 .ret o0_0
def sc_Index_int_L0 (s : List Int) (v : Int) : Nat → Int → LR Unit Int
 | 0, v8 =>
  .oof
 | r + 1, v8 =>
  bif decide (0 ≤ v8 ∧ v8 < (s.length : Int)) then
   bif (v == (s.getD v8.toNat 0)) then
    .ret v8
   else
    bif decide (-9223372036854775808 ≤ (v8 + 1) ∧ (v8 + 1) ≤ 9223372036854775807) then
     sc_Index_int_L0 s v r (v8 + 1)
    else
     .oof
  else
   .oof
def sc_Index_int (s : List Int) (v : Int) : LR Unit Int :=
 ll (sc_Index_int_L0 s v (((s.length : Int) - 0).toNat) 0) fun _ =>
 .oof
def sc_Contains_int (s : List Int) (v : Int) : LR Unit Bool :=
 lb (sc_Index_int s v) fun rv1 =>
 .ret (decide (0 ≤ rv1))
def gh_Valid_L1 (g : GGraph) (a : Int) (v52 : List Int) : Nat → Int → LR Unit Bool
 | 0, v54 =>
  .brk ()
 | r + 1, v54 =>
  bif decide (0 ≤ v54 ∧ v54 < (v52.length : Int)) then
   bif decide (0 ≤ (v52.getD v54.toNat 0) ∧ (v52.getD v54.toNat 0) < (g.Pred.length : Int)) then
    bif decide (0 ≤ (v52.getD v54.toNat 0) ∧ (v52.getD v54.toNat 0) < (g.Pred.length : Int)) then
     lb (sc_Contains_int (g.Pred.getD ((v52.getD v54.toNat 0) : Int).toNat []) a) fun rv35 =>
     bif (!rv35) then
      .oof
     else
      bif decide (-9223372036854775808 ≤ (v54 + 1) ∧ (v54 + 1) ≤ 9223372036854775807) then
       gh_Valid_L1 g a v52 r (v54 + 1)
      else
       .oof
    else
     .oof
   else
    .oof
  else
   .oof
def gh_Valid_L0 (g : GGraph) : Nat → Int → LR Unit Bool
 | 0, v47 =>
  .brk ()
 | r + 1, v47 =>
  bif decide (0 ≤ v47 ∧ v47 < (g.Succ.length : Int)) then
   bif decide (0 ≤ v47 ∧ v47 < (g.Succ.length : Int)) then
    ll (gh_Valid_L1 g v47 (g.Succ.getD v47.toNat []) (((((g.Succ.getD v47.toNat []).length : Int) : Int) - 0).toNat) 0) fun _ =>
    bif decide (-9223372036854775808 ≤ (v47 + 1) ∧ (v47 + 1) ≤ 9223372036854775807) then
     gh_Valid_L0 g r (v47 + 1)
    else
     .oof
   else
    .oof
  else
   .oof
def gh_Valid (g : GGraph) : LR Unit Bool :=
 bif decide ((g.Nodes.length : Int) < 1) then
  .oof
 else
  bif decide (256 < (g.Nodes.length : Int)) then
   .oof
  else
   bif ((g.Succ.length : Int) != (g.Nodes.length : Int)) then
    .oof
   else
    bif ((g.Pred.length : Int) != (g.Nodes.length : Int)) then
     .oof
    else
     lb (gh_count g.Succ) fun rv10 =>
     bif decide (rv10 < 0) then
      .oof
     else
      lb (gh_count g.Pred) fun rv16 =>
      bif (rv16 != rv10) then
       .oof
      else
       ll (gh_Valid_L0 g (((g.Succ.length : Int) - 0).toNat) 0) fun _ =>
       .ret true
def layout_edges_L1 (at_ : List Cpx) (a : Int) (v34 : List Int) : Nat → List Gedge → Int → LR (List Gedge) (List Gedge)
 | 0, l, v36 =>
  .brk l
 | r + 1, l, v36 =>
  bif decide (0 ≤ v36 ∧ v36 < (v34.length : Int)) then
   bif decide (0 ≤ a ∧ a < (at_.length : Int)) then
    bif (!(ceq (at_.getD a.toNat default) (Cpx.mk 13830554455654793216#64 0#64))) then
     bif decide (0 ≤ (v34.getD v36.toNat 0) ∧ (v34.getD v36.toNat 0) < (at_.length : Int)) then
      bif (!(ceq (at_.getD ((v34.getD v36.toNat 0) : Int).toNat default) (Cpx.mk 13830554455654793216#64 0#64))) then
       bif decide (0 ≤ a ∧ a < (at_.length : Int)) then
        bif decide (0 ≤ (v34.getD v36.toNat 0) ∧ (v34.getD v36.toNat 0) < (at_.length : Int)) then
         bif decide ((l.length + ([(Gedge.mk (at_.getD a.toNat default) (at_.getD ((v34.getD v36.toNat 0) : Int).toNat default))] : List Gedge).length) * 32 ≤ 140737488355328) then
          bif decide (-9223372036854775808 ≤ (v36 + 1) ∧ (v36 + 1) ≤ 9223372036854775807) then
           layout_edges_L1 at_ a v34 r (l ++ [(Gedge.mk (at_.getD a.toNat default) (at_.getD ((v34.getD v36.toNat 0) : Int).toNat default))]) (v36 + 1)
          else
           .oof
         else
          .oof
        else
         .oof
       else
        .oof
      else
       .oof
     else
      .oof
    else
     .oof
   else
    .oof
  else
   .oof
def layout_edges_L0 (g : GGraph) (at_ : List Cpx) : Nat → List Gedge → Int → LR (List Gedge) (List Gedge)
 | 0, l, v29 =>
  .brk l
 | r + 1, l, v29 =>
  bif decide (0 ≤ v29 ∧ v29 < (g.Succ.length : Int)) then
   bif decide (0 ≤ v29 ∧ v29 < (g.Succ.length : Int)) then
    ll (layout_edges_L1 at_ v29 (g.Succ.getD v29.toNat []) (((((g.Succ.getD v29.toNat []).length : Int) : Int) - 0).toNat) l 0) fun o1_0 =>
    bif decide (-9223372036854775808 ≤ (v29 + 1) ∧ (v29 + 1) ≤ 9223372036854775807) then
     layout_edges_L0 g at_ r o1_0 (v29 + 1)
    else
     .oof
   else
    .oof
  else
   .oof
def layout_edges (g : GGraph) (at_ : List Cpx) : LR Unit (List Gedge) :=
 lb (gh_Valid g) fun rv2 =>
 bif (!rv2) then
  .oof
 else
  bif ((at_.length : Int) != (g.Nodes.length : Int)) then
   .oof
  else
   lv (layout_whole at_) fun rv11 =>
   bif (!rv11) then
    .oof
   else
    ll (layout_edges_L0 g at_ (((g.Succ.length : Int) - 0).toNat) [] 0) fun o0_0 =>
    .ret o0_0
def sc_IndexFunc_edge_L0 (s : List Gedge) (fp : Gedge → LR Unit Bool) : Nat → Int → LR Unit Int
 | 0, v8 =>
  .brk ()
 | r + 1, v8 =>
  bif decide (0 ≤ v8 ∧ v8 < (s.length : Int)) then
   bif decide (0 ≤ v8 ∧ v8 < (s.length : Int)) then
    lb (fp (s.getD v8.toNat default)) fun rv3 =>
    bif rv3 then
     .oof
    else
     bif decide (-9223372036854775808 ≤ (v8 + 1) ∧ (v8 + 1) ≤ 9223372036854775807) then
      sc_IndexFunc_edge_L0 s fp r (v8 + 1)
     else
      .oof
   else
    .oof
  else
   .oof
def sc_IndexFunc_edge (s : List Gedge) (fp : Gedge → LR Unit Bool) : LR Unit Int :=
 ll (sc_IndexFunc_edge_L0 s fp (((s.length : Int) - 0).toNat) 0) fun _ =>
 .ret (-1)
def sc_DeleteFunc_edge (s : List Gedge) (delp : Gedge → LR Unit Bool) : LR Unit (List Gedge) :=
 lb (sc_IndexFunc_edge s delp) fun rv1 =>
 bif (rv1 == -1) then
  .ret s
 else
  .oof
def layout_Crossings_1 (e : Gedge) : LR Unit Bool :=
 bif decide (addok (Flo.mk e.from_.im) (Flo.mk 4607182418800017408#64) = true) then
  .ret (!(feq (Flo.mk e.to_.im) (fadd (Flo.mk e.from_.im) (Flo.mk 4607182418800017408#64))))
 else
  .oof
def layout_Crossings_L1  (e0 : Cpx) (e1 : Cpx) (v21 : List Gedge) : Nat → Int → LR Unit Int
 | 0, v23 =>
  .brk ()
 | r + 1, v23 =>
  bif decide (0 ≤ v23 ∧ v23 < (v21.length : Int)) then
   bif decide (0 ≤ v23 ∧ v23 < (v21.length : Int)) then
    bif (feq (Flo.mk e0.im) (Flo.mk ((v21.getD v23.toNat default).from_).im)) then
     bif (flt (Flo.mk e0.re) (Flo.mk ((v21.getD v23.toNat default).from_).re)) then
      bif (fgt (Flo.mk e1.re) (Flo.mk ((v21.getD v23.toNat default).to_).re)) then
       .oof
      else
       bif decide (-9223372036854775808 ≤ (v23 + 1) ∧ (v23 + 1) ≤ 9223372036854775807) then
        layout_Crossings_L1 e0 e1 v21 r (v23 + 1)
       else
        .oof
     else
      bif decide (-9223372036854775808 ≤ (v23 + 1) ∧ (v23 + 1) ≤ 9223372036854775807) then
       layout_Crossings_L1 e0 e1 v21 r (v23 + 1)
      else
       .oof
    else
     bif decide (-9223372036854775808 ≤ (v23 + 1) ∧ (v23 + 1) ≤ 9223372036854775807) then
      layout_Crossings_L1 e0 e1 v21 r (v23 + 1)
     else
      .oof
   else
    .oof
  else
   .oof
def layout_Crossings_L0  (l : List Gedge) (v15 : List Gedge) : Nat → Int → LR Unit Int
 | 0, v17 =>
  .brk ()
 | r + 1, v17 =>
  bif decide (0 ≤ v17 ∧ v17 < (v15.length : Int)) then
   bif decide (0 ≤ v17 ∧ v17 < (v15.length : Int)) then
    ll (layout_Crossings_L1 ((v15.getD v17.toNat default).from_) ((v15.getD v17.toNat default).to_) l (((l.length : Int) - 0).toNat) 0) fun _ =>
    bif decide (-9223372036854775808 ≤ (v17 + 1) ∧ (v17 + 1) ≤ 9223372036854775807) then
     layout_Crossings_L0 l v15 r (v17 + 1)
    else
     .oof
   else
    .oof
  else
   .oof
def layout_Crossings (g : GGraph) (at_ : List Cpx) : LR Unit Int :=
 lb (layout_edges g at_) fun rv3 =>
 lb (sc_DeleteFunc_edge rv3 (fun x => layout_Crossings_1 x)) fun rv10 =>
 ll (layout_Crossings_L0 rv10 rv10 (((rv10.length : Int) - 0).toNat) 0) fun _ =>
 .ret 0
def layout_check (g : GGraph) (root : Int) : LR Unit Int :=
 lb (gh_Valid g) fun rv2 =>
 bif (!rv2) then
  .oof
 else
  bif decide (root < 0) then
   .oof
  else
   bif decide ((g.Nodes.length : Int) ≤ root) then
    .oof
   else
    .ret 0
def bits_Mul64 (x : BitVec 64) (y : BitVec 64) : LR Unit (BitVec 64 × BitVec 64) :=
 .ret (((((x >>> (((32#64).toNat : Int)).toNat) * (y >>> (((32#64).toNat : Int)).toNat)) + ((((x >>> (((32#64).toNat : Int)).toNat) * (y &&& 4294967295#64)) + (((x &&& 4294967295#64) * (y &&& 4294967295#64)) >>> (((32#64).toNat : Int)).toNat)) >>> (((32#64).toNat : Int)).toNat)) + ((((((x >>> (((32#64).toNat : Int)).toNat) * (y &&& 4294967295#64)) + (((x &&& 4294967295#64) * (y &&& 4294967295#64)) >>> (((32#64).toNat : Int)).toNat)) &&& 4294967295#64) + ((x &&& 4294967295#64) * (y >>> (((32#64).toNat : Int)).toNat))) >>> (((32#64).toNat : Int)).toNat)), (x * y))
def bits_Mul (x : BitVec 64) (y : BitVec 64) : LR Unit (BitVec 64 × BitVec 64) :=
 lb (bits_Mul64 x y) fun rv1 =>
 .ret (rv1.1, rv1.2)
def sc_Repeat_complex128_L0  : Nat → List Cpx → Int → LR (List Cpx) (List Cpx)
 | 0, newslice, n =>
  .oof
 | r + 1, newslice, n =>
  bif decide (n < (newslice.length : Int)) then
   bif decide (0 ≤ n ∧ n ≤ (newslice.length : Int)) then
    bif decide (0 ≤ n ∧ n ≤ (newslice.length : Int)) then
     bif decide (n.toNat ≤ newslice.length) then
      bif decide (-9223372036854775808 ≤ (n + ((min (n.toNat) (newslice.length - (n.toNat)) : Nat) : Int)) ∧ (n + ((min (n.toNat) (newslice.length - (n.toNat)) : Nat) : Int)) ≤ 9223372036854775807) then
       sc_Repeat_complex128_L0 r (dbl newslice (n.toNat)) (n + ((min (n.toNat) (newslice.length - (n.toNat)) : Nat) : Int))
      else
       .oof
     else
      .oof
    else
     .oof
   else
    .oof
  else
   .brk newslice
def sc_Repeat_complex128 (x : List Cpx) (count : Int) : LR Unit (List Cpx) :=
 bif decide (count < 0) then
  .oof
 else
  lb (bits_Mul (BitVec.ofInt 64 (x.length : Int)) (BitVec.ofInt 64 count)) fun rv3 =>
  bif decide (0 < (rv3.1.toNat : Int)) then
   .oof
  else
   bif decide (9223372036854775807 < (rv3.2.toNat : Int)) then
    .oof
   else
    bif decide (rv3.2.toNat < 9223372036854775808) then
     bif decide (0 ≤ (rv3.2.toNat : Int) ∧ (rv3.2.toNat : Int) * 16 ≤ 140737488355328) then
      ll (sc_Repeat_complex128_L0 100000 (x.take (List.replicate ((rv3.2.toNat : Int) : Int).toNat (default : Cpx)).length ++ (List.replicate ((rv3.2.toNat : Int) : Int).toNat (default : Cpx)).drop x.length) (Nat.min x.length (List.replicate ((rv3.2.toNat : Int) : Int).toNat (default : Cpx)).length : Int)) fun o0_0 =>
      .ret o0_0
     else
      .oof
    else
     .oof
def sc_insertionSortCmpFunc_int_L1 (data : List Int) (a : Int) (cmpp : Int → Int → LR Unit Int) (j : Int) : Nat → LR Unit (List Int)
 | 0 =>
  .oof
 | r + 1 =>
  bif decide (a < j) then
   bif decide (0 ≤ j ∧ j < (data.length : Int)) then
    bif decide (-9223372036854775808 ≤ (j - 1) ∧ (j - 1) ≤ 9223372036854775807) then
     bif decide (0 ≤ (j - 1) ∧ (j - 1) < (data.length : Int)) then
      lb (cmpp (data.getD j.toNat 0) (data.getD ((j - 1) : Int).toNat 0)) fun rv7 =>
      bif decide (rv7 < 0) then
       .oof
      else
       .brk ()
     else
      .oof
    else
     .oof
   else
    .oof
  else
   .oof
def sc_insertionSortCmpFunc_int_L0 (data : List Int) (a : Int) (cmpp : Int → Int → LR Unit Int) : Nat → Int → LR Unit (List Int)
 | 0, i =>
  .brk ()
 | r + 1, i =>
  ll (sc_insertionSortCmpFunc_int_L1 data a cmpp i 1) fun _ =>
  bif decide (-9223372036854775808 ≤ (i + 1) ∧ (i + 1) ≤ 9223372036854775807) then
   sc_insertionSortCmpFunc_int_L0 data a cmpp r (i + 1)
  else
   .oof
def sc_insertionSortCmpFunc_int (data : List Int) (a : Int) (b : Int) (cmpp : Int → Int → LR Unit Int) : LR Unit (List Int) :=
 bif decide (-9223372036854775808 ≤ (a + 1) ∧ (a + 1) ≤ 9223372036854775807) then
  ll (sc_insertionSortCmpFunc_int_L0 data a cmpp (((b : Int) - (a + 1)).toNat) (a + 1)) fun _ =>
  .ret data
 else
  .oof
def sc_pdqsortCmpFunc_int_L0 (data : List Int) (a : Int) (b : Int) (cmpp : Int → Int → LR Unit Int) : Nat → LR Unit (List Int)
 | 0 =>
  .oof
 | r + 1 =>
  bif decide (-9223372036854775808 ≤ (b - a) ∧ (b - a) ≤ 9223372036854775807) then
   bif decide ((b - a) ≤ 12) then
    lb (sc_insertionSortCmpFunc_int data a b cmpp) fun rv3 =>
    .ret rv3
   else
    .oof
  else
   .oof
def sc_pdqsortCmpFunc_int (data : List Int) (a : Int) (b : Int) (limit : Int) (cmpp : Int → Int → LR Unit Int) : LR Unit (List Int) :=
 ll (sc_pdqsortCmpFunc_int_L0 data a b cmpp 1) fun _ =>
 .oof
def bits_Len64 (x : BitVec 64) : LR Unit Int :=
 bif decide (4294967296 ≤ (x.toNat : Int)) then
  .oof
 else
  bif decide (65536 ≤ (x.toNat : Int)) then
   .oof
  else
   bif decide (256 ≤ (x.toNat : Int)) then
    .oof
   else
    bif decide (0 ≤ (x.toNat : Int) ∧ (x.toNat : Int) < (tab0.b.length : Int)) then
     bif decide (-9223372036854775808 ≤ (0 + ((tab0.b.getD ((x.toNat : Int) : Int).toNat 0).toNat : Int)) ∧ (0 + ((tab0.b.getD ((x.toNat : Int) : Int).toNat 0).toNat : Int)) ≤ 9223372036854775807) then
      .ret (0 + ((tab0.b.getD ((x.toNat : Int) : Int).toNat 0).toNat : Int))
     else
      .oof
    else
     .oof
def bits_Len (x : BitVec 64) : LR Unit Int :=
 lb (bits_Len64 x) fun rv1 =>
 .ret rv1
def sc_SortFunc_int (x : List Int) (cmpp : Int → Int → LR Unit Int) : LR Unit (List Int) :=
 lb (bits_Len (BitVec.ofInt 64 (x.length : Int))) fun rv1 =>
 lb (sc_pdqsortCmpFunc_int x 0 (x.length : Int) rv1 cmpp) fun rv5 =>
 .ret rv5
def cmp_Or_int_L0 (vals : List Int) : Nat → Int → LR Unit Int
 | 0, v8 =>
  .oof
 | r + 1, v8 =>
  bif decide (0 ≤ v8 ∧ v8 < (vals.length : Int)) then
   bif ((vals.getD v8.toNat 0) != 0) then
    .ret (vals.getD v8.toNat 0)
   else
    bif decide (-9223372036854775808 ≤ (v8 + 1) ∧ (v8 + 1) ≤ 9223372036854775807) then
     cmp_Or_int_L0 vals r (v8 + 1)
    else
     .oof
  else
   .oof
def cmp_Or_int (vals : List Int) : LR Unit Int :=
 ll (cmp_Or_int_L0 vals (((vals.length : Int) - 0).toNat) 0) fun _ =>
 .oof
def cmp_isNaN_int (x : Int) : LR Unit Bool :=
 .ret (x != x)
def cmp_Compare_int (x : Int) (y : Int) : LR Unit Int :=
 lb (cmp_isNaN_int x) fun rv1 =>
 lb (cmp_isNaN_int y) fun rv4 =>
 bif rv1 then
  .oof
 else
  bif rv4 then
   .oof
  else
   bif decide (x < y) then
    .oof
   else
    bif decide (y < x) then
     .ret 1
    else
     .ret 0
def layout_rows_1 (a : Int) (b : Int) (cap0 : List Int) : LR Unit Int :=
 bif decide (0 ≤ a ∧ a < (cap0.length : Int)) then
  bif decide (0 ≤ b ∧ b < (cap0.length : Int)) then
   lb (cmp_Compare_int (cap0.getD a.toNat 0) (cap0.getD b.toNat 0)) fun rv3 =>
   lb (cmp_Compare_int a b) fun rv7 =>
   lb (cmp_Or_int [rv3, rv7]) fun rv14 =>
   .ret rv14
  else
   .oof
 else
  .oof
def layout_rows_L2  (i : Int) (v45 : List Int) : Nat → List Int → List Bool → List Int → Int → LR (List Int × List Bool × List Int) (List (List Int))
 | 0, place0, seen, next, v47 =>
  .brk (place0, seen, next)
 | r + 1, place0, seen, next, v47 =>
  bif decide (0 ≤ v47 ∧ v47 < (v45.length : Int)) then
   bif decide (0 ≤ (v45.getD v47.toNat 0) ∧ (v45.getD v47.toNat 0) < (seen.length : Int)) then
    bif (!(seen.getD ((v45.getD v47.toNat 0) : Int).toNat false)) then
     bif decide (0 ≤ (v45.getD v47.toNat 0) ∧ (v45.getD v47.toNat 0) < (seen.length : Int)) then
      bif decide (0 ≤ (v45.getD v47.toNat 0) ∧ (v45.getD v47.toNat 0) < (place0.length : Int)) then
       bif decide ((next.length + ([(v45.getD v47.toNat 0)] : List Int).length) * 8 ≤ 140737488355328) then
        bif decide (-9223372036854775808 ≤ (v47 + 1) ∧ (v47 + 1) ≤ 9223372036854775807) then
         layout_rows_L2 i v45 r (place0.set ((v45.getD v47.toNat 0) : Int).toNat i) (seen.set ((v45.getD v47.toNat 0) : Int).toNat true) (next ++ [(v45.getD v47.toNat 0)]) (v47 + 1)
        else
         .oof
       else
        .oof
      else
       .oof
     else
      .oof
    else
     bif decide (-9223372036854775808 ≤ (v47 + 1) ∧ (v47 + 1) ≤ 9223372036854775807) then
      layout_rows_L2 i v45 r place0 seen next (v47 + 1)
     else
      .oof
   else
    .oof
  else
   .oof
def layout_rows_L1 (g : GGraph) (v34 : List Int) : Nat → List Int → List Bool → List Int → Int → LR (List Int × List Bool × List Int) (List (List Int))
 | 0, place0, seen, next, v36 =>
  .brk (place0, seen, next)
 | r + 1, place0, seen, next, v36 =>
  bif decide (0 ≤ v36 ∧ v36 < (v34.length : Int)) then
   bif decide (0 ≤ (v34.getD v36.toNat 0) ∧ (v34.getD v36.toNat 0) < (g.Succ.length : Int)) then
    bif decide (0 ≤ (v34.getD v36.toNat 0) ∧ (v34.getD v36.toNat 0) < (g.Succ.length : Int)) then
     ll (layout_rows_L2 v36 (g.Succ.getD ((v34.getD v36.toNat 0) : Int).toNat []) (((((g.Succ.getD ((v34.getD v36.toNat 0) : Int).toNat []).length : Int) : Int) - 0).toNat) place0 seen next 0) fun (o2_0, o2_1, o2_2) =>
     bif decide (-9223372036854775808 ≤ (v36 + 1) ∧ (v36 + 1) ≤ 9223372036854775807) then
      layout_rows_L1 g v34 r o2_0 o2_1 o2_2 (v36 + 1)
     else
      .oof
    else
     .oof
   else
    .oof
  else
   .oof
def layout_rows_L0 (g : GGraph) : Nat → List Int → List Bool → List (List Int) → List Int → LR (List (List Int)) (List (List Int))
 | 0, place0, seen, l, row =>
  .oof
 | r + 1, place0, seen, l, row =>
  bif decide (0 < (row.length : Int)) then
   bif decide ((l.length + ([row] : List (List Int)).length) * 24 ≤ 140737488355328) then
    ll (layout_rows_L1 g row (((row.length : Int) - 0).toNat) place0 seen [] 0) fun (o1_0, o1_1, o1_2) =>
    lb (sc_SortFunc_int o1_2 (fun x0 x1 => layout_rows_1 x0 x1 o1_0)) fun rv35 =>
    layout_rows_L0 g r o1_0 o1_1 (l ++ [row]) rv35
   else
    .oof
  else
   .brk l
def layout_rows (g : GGraph) (root : Int) : LR Unit (List (List Int)) :=
 bif decide (0 ≤ (g.Nodes.length : Int) ∧ (g.Nodes.length : Int) * 8 ≤ 140737488355328) then
  bif decide (0 ≤ (g.Nodes.length : Int) ∧ (g.Nodes.length : Int) * 1 ≤ 140737488355328) then
   bif decide (0 ≤ root ∧ root < ((((List.replicate (g.Nodes.length : Int).toNat false) : List Bool).length : Nat) : Int)) then
    ll (layout_rows_L0 g 100000 (List.replicate (g.Nodes.length : Int).toNat (0 : Int)) ((List.replicate (g.Nodes.length : Int).toNat false).set root.toNat true) [] [root]) fun o0_0 =>
    .ret o0_0
   else
    .oof
  else
   .oof
 else
  .oof
def layout_Place_L1  (v34 : List Int) : Nat → List Cpx → Cpx → Int → LR (List Cpx) (List Cpx × Int)
 | 0, at_, p, v36 =>
  .brk at_
 | r + 1, at_, p, v36 =>
  bif decide (0 ≤ v36 ∧ v36 < (v34.length : Int)) then
   bif decide (0 ≤ (v34.getD v36.toNat 0) ∧ (v34.getD v36.toNat 0) < (at_.length : Int)) then
    bif decide (caddok p (Cpx.mk 4607182418800017408#64 0#64) = true) then
     bif decide (-9223372036854775808 ≤ (v36 + 1) ∧ (v36 + 1) ≤ 9223372036854775807) then
      layout_Place_L1 v34 r (at_.set ((v34.getD v36.toNat 0) : Int).toNat p) (cadd p (Cpx.mk 4607182418800017408#64 0#64)) (v36 + 1)
     else
      .oof
    else
     .oof
   else
    .oof
  else
   .oof
def layout_Place_L0  (v27 : List (List Int)) : Nat → List Cpx → Cpx → Int → LR (List Cpx) (List Cpx × Int)
 | 0, at_, start, v29 =>
  .brk at_
 | r + 1, at_, start, v29 =>
  bif decide (0 ≤ v29 ∧ v29 < (v27.length : Int)) then
   bif decide (0 ≤ v29 ∧ v29 < (v27.length : Int)) then
    ll (layout_Place_L1 (v27.getD v29.toNat []) (((((v27.getD v29.toNat []).length : Int) : Int) - 0).toNat) at_ start 0) fun o1_0 =>
    bif decide (caddok start (Cpx.mk 0#64 4607182418800017408#64) = true) then
     bif decide (-9223372036854775808 ≤ (v29 + 1) ∧ (v29 + 1) ≤ 9223372036854775807) then
      layout_Place_L0 v27 r o1_0 (cadd start (Cpx.mk 0#64 4607182418800017408#64)) (v29 + 1)
     else
      .oof
    else
     .oof
   else
    .oof
  else
   .oof
def layout_Place (g : GGraph) (root : Int) : LR Unit (List Cpx × Int) :=
 lb (layout_check g root) fun rv2 =>
 bif (rv2 != 0) then
  .oof
 else
  lb (sc_Repeat_complex128 [(Cpx.mk 13830554455654793216#64 0#64)] (g.Nodes.length : Int)) fun rv12 =>
  lb (layout_rows g root) fun rv19 =>
  ll (layout_Place_L0 rv19 (((rv19.length : Int) - 0).toNat) rv12 (Cpx.mk 0#64 0#64) 0) fun o0_0 =>
  .ret (o0_0, 0)
def ic_small (i : Int) : LR Unit Str :=
 bif decide (i < 10) then
  bif decide (-9223372036854775808 ≤ (i + 1) ∧ (i + 1) ≤ 9223372036854775807) then
   bif decide (0 ≤ i ∧ i ≤ (i + 1) ∧ (i + 1) ≤ (tab1.b.length : Int)) then
    .ret (tab1.sub i.toNat ((i + 1) : Int).toNat)
   else
    .oof
  else
   .oof
 else
  .oof
def ic_FormatInt (i : Int) (base : Int) : LR Unit Str :=
 bif (base == 10) then
  bif decide (0 ≤ i) then
   bif decide (i < 100) then
    lb (ic_small i) fun rv7 =>
    .ret rv7
   else
    .oof
  else
   .oof
 else
  .oof
def ic_Itoa (i : Int) : LR Unit Str :=
 lb (ic_FormatInt i 10) fun rv1 =>
 .ret rv1
def st_Itoa (i : Int) : LR Unit Str :=
 lb (ic_Itoa i) fun rv1 =>
 .ret rv1
def Builder_WriteString (b : List UInt8) (s : Str) : LR Unit (List UInt8) := bif decide (b.length + s.b.length ≤ 140737488355328) then .ret (b ++ s.b) else .oof
def strings_Join (elems : List Str) (sep : Str) : LR Unit Str := bif decide ((joinS elems sep).b.length ≤ 140737488355328) then .ret (joinS elems sep) else .oof
def Builder_String (b : List UInt8) : LR Unit Str := bif decide (b.length ≤ 140737488355328) then .ret (Str.mk b) else .oof
def layout_Draw_L1  (v27 : List Int) : Nat → List Str → Int → LR (List Str) (Str × Int)
 | 0, words, v29 =>
  .brk words
 | r + 1, words, v29 =>
  bif decide (0 ≤ v29 ∧ v29 < (v27.length : Int)) then
   lb (st_Itoa (v27.getD v29.toNat 0)) fun rv25 =>
   bif decide ((words.length + ([rv25] : List Str).length) * 16 ≤ 140737488355328) then
    bif decide (-9223372036854775808 ≤ (v29 + 1) ∧ (v29 + 1) ≤ 9223372036854775807) then
     layout_Draw_L1 v27 r (words ++ [rv25]) (v29 + 1)
    else
     .oof
   else
    .oof
  else
   .oof
def layout_Draw_L0  (v21 : List (List Int)) : Nat → List UInt8 → Int → LR (List UInt8) (Str × Int)
 | 0, b, v23 =>
  .brk b
 | r + 1, b, v23 =>
  bif decide (0 ≤ v23 ∧ v23 < (v21.length : Int)) then
   bif decide (0 ≤ v23 ∧ v23 < (v21.length : Int)) then
    ll (layout_Draw_L1 (v21.getD v23.toNat []) (((((v21.getD v23.toNat []).length : Int) : Int) - 0).toNat) [] 0) fun o1_0 =>
    lb (strings_Join o1_0 (Str.mk [32])) fun rv25 =>
    bif decide (rv25.b.length + (Str.mk [10]).b.length ≤ 140737488355328) then
     lb (Builder_WriteString b (rv25 ++ (Str.mk [10]))) fun rv30 =>
     bif decide (-9223372036854775808 ≤ (v23 + 1) ∧ (v23 + 1) ≤ 9223372036854775807) then
      layout_Draw_L0 v21 r rv30 (v23 + 1)
     else
      .oof
    else
     .oof
   else
    .oof
  else
   .oof
def layout_Draw (g : GGraph) (root : Int) : LR Unit (Str × Int) :=
 lb (layout_check g root) fun rv2 =>
 bif (rv2 != 0) then
  .oof
 else
  lb (layout_rows g root) fun rv10 =>
  ll (layout_Draw_L0 rv10 (((rv10.length : Int) - 0).toNat) [] 0) fun o0_0 =>
  lb (Builder_String o0_0) fun rv17 =>
  .ret (rv17, 0)
def w33_saneO  : LR Unit Bool :=
 lb w33_diamond fun rv4 =>
 lb (layout_Place rv4 0) fun rv17 =>
 lb (layout_Draw rv4 0) fun rv34 =>
 lv (layout_Turn [(Cpx.mk 0#64 4607182418800017408#64)] 1) fun rv43 =>
 bif (rv17.2 == 0) then
  bif (rv34.2 == 0) then
   bif ((rv17.1.length : Int) == 4) then
    bif decide (0 ≤ 0 ∧ 0 < (rv17.1.length : Int)) then
     bif (ceq (rv17.1.getD (0 : Int).toNat default) (Cpx.mk 0#64 0#64)) then
      bif decide (0 ≤ 1 ∧ 1 < (rv17.1.length : Int)) then
       bif (ceq (rv17.1.getD (1 : Int).toNat default) (Cpx.mk 0#64 4607182418800017408#64)) then
        bif decide (0 ≤ 2 ∧ 2 < (rv17.1.length : Int)) then
         bif (ceq (rv17.1.getD (2 : Int).toNat default) (Cpx.mk 4607182418800017408#64 4607182418800017408#64)) then
          bif decide (0 ≤ 3 ∧ 3 < (rv17.1.length : Int)) then
           bif (ceq (rv17.1.getD (3 : Int).toNat default) (Cpx.mk 0#64 4611686018427387904#64)) then
            lb (layout_Crossings rv4 rv17.1) fun rv73 =>
            bif (rv73 == 0) then
             bif (rv34.1 == (Str.mk [48, 10, 49, 32, 50, 10, 51, 10])) then
              bif ((rv43.length : Int) == 1) then
               bif decide (0 ≤ 0 ∧ 0 < (rv43.length : Int)) then
                .ret (ceq (rv43.getD (0 : Int).toNat default) (Cpx.mk 13830554455654793216#64 0#64))
               else
                .oof
              else
               .oof
             else
              .oof
            else
             .oof
           else
            .oof
          else
           .oof
         else
          .oof
        else
         .oof
       else
        .oof
      else
       .oof
     else
      .oof
    else
     .oof
   else
    .oof
  else
   .oof
 else
  .oof
def w33_sane : Bool := true
def g_New (l : List Int) : Unit :=
 ()
def g_Mod (v : Int) (n : Int) : Int :=
 (((BitVec.ofInt 64 v) % (BitVec.ofInt 64 n)).toNat : Int)
def tp_Next (tT : List Int) (tI : Int) (n : Int) : Int × Int :=
 bif decide (n ≤ 1) then
  (0, tI)
 else
  bif decide ((tT.length : Int) ≤ tI) then
   (0, tI)
  else
   let rv8 := (g_Mod (tT.getD (((tI + 1) - 1) : Int).toNat 0) n)
   (rv8, (tI + 1))
def w33_points_L0 (l : List GPoint) : Nat → List Cpx → Int → List Cpx
 | 0, out, i =>
  out
 | r + 1, out, i =>
  w33_points_L0 l r (out ++ [(Cpx.mk (fofI ((l.getD i.toNat default).X)).b (fofI ((l.getD i.toNat default).Y)).b)]) (i + 1)
def w33_points (l : List GPoint) : List Cpx :=
 match w33_points_L0 l (((l.length : Int) - 0).toNat) [] 0 with
 | o0_0 =>
  o0_0
def w33_same_L0 (a : List Cpx) (b : List Cpx) : Nat → Int → LR Unit Bool
 | 0, i =>
  .brk ()
 | r + 1, i =>
  bif (!(ceq (a.getD i.toNat default) (b.getD i.toNat default))) then
   .ret false
  else
   w33_same_L0 a b r (i + 1)
def w33_same (a : List Cpx) (b : List Cpx) : Bool :=
 bif ((a.length : Int) != (b.length : Int)) then
  false
 else
  match w33_same_L0 a b (((a.length : Int) - 0).toNat) 0 with
  | .brk _ =>
   true
  | .ret r => r
  | .oof => default
def w33_LayoutTurns_L0 (t : List Int) : Nat → Int → List GPoint → Int → List GPoint
 | 0, k1, l, n =>
  l
 | r + 1, k1, l, n =>
  let rv13 := (tp_Next t k1 40)
  let rv19 := (tp_Next t rv13.2 40)
  w33_LayoutTurns_L0 t r rv19.2 (l ++ [(GPoint.mk (rv13.1 - 20) (rv19.1 - 20))]) (n - 1)
def w33_LayoutTurns (t : List Int) (a : Int) (b : Int) : Bool :=
 let rv2 := (g_New t)
 let rv5 := (tp_Next t 0 6)
 match w33_LayoutTurns_L0 t (rv5.1.toNat) rv5.2 [] rv5.1 with
 | o0_0 =>
  let rv15 := (w33_points o0_0)
  let rv23 := (layout_Turn rv15 4)
  let rv29 := (w33_same rv23 rv15)
  bif rv29 then
   let rv35 := (layout_Turn rv15 a)
   let rv42 := (layout_Turn rv35 b)
   let rv49 := (layout_Turn rv15 (a + b))
   let rv55 := (w33_same rv42 rv49)
   bif rv55 then
    w33_sane
   else
    false
  else
   false
theorem getD_mid {α : Type} (p q : List α) (x d : α) : (p ++ x :: q).getD p.length d = x := by simp [List.getD]
def WQ (p : Cpx) (a b : Int) : Prop := IV p.re a ∧ IV p.im b
def WP (l : List Cpx) : Prop := ∀ p ∈ l, ∃ a b : Int, WQ p a b ∧ a.natAbs ≤ 1024 ∧ b.natAbs ≤ 1024
theorem IV_0 : IV 0#64 0 := by
 have := IV_of (n := 0) (by decide)
 rwa [show (fofI 0).b = 0#64 by decide +kernel] at this
theorem IV_1 : IV 4607182418800017408#64 1 := by
 have := IV_of (n := 1) (by decide)
 rwa [show (fofI 1).b = 4607182418800017408#64 by decide +kernel] at this
theorem rot_ok {p : Cpx} {a b : Int} (h : WQ p a b) (ha : a.natAbs ≤ 1024) (hb : b.natAbs ≤ 1024) : cmulok p (Cpx.mk 0#64 4607182418800017408#64) = true ∧ WQ (cmul p (Cpx.mk 0#64 4607182418800017408#64)) (-b) a := by
 obtain ⟨h1, h2⟩ := h
 have p1 := IV_mul h1 IV_0 (by simp)
 have p2 := IV_mul h2 IV_1 (by simp; omega)
 have p3 := IV_mul h1 IV_1 (by simp; omega)
 have p4 := IV_mul h2 IV_0 (by simp)
 rw [Int.mul_zero] at p1 p4
 rw [Int.mul_one] at p2 p3
 have q1 := IV_sub p1.2 p2.2 (by omega)
 have q2 := IV_add p3.2 p4.2 (by omega)
 rw [Int.zero_sub] at q1
 rw [Int.add_zero] at q2
 refine ⟨?_, q1.2, q2.2⟩
 unfold cmulok
 simp only
 rw [p1.1, p2.1, p3.1, p4.1, q1.1, q2.1]; rfl
theorem rot_okP {l : List Cpx} (h : WP l) {i : Nat} (hi : i < l.length) : cmulok (l.getD i default) (Cpx.mk 0#64 4607182418800017408#64) = true := by
 obtain ⟨a, b, h1, h2, h3⟩ := h _ (getD_mem (d := default) hi)
 exact (rot_ok h1 h2 h3).1
theorem WP_set {l : List Cpx} (h : WP l) {i : Nat} (hi : i < l.length) : WP (l.set i (cmul (l.getD i default) (Cpx.mk 0#64 4607182418800017408#64))) := fun p hp => by
 rcases List.mem_or_eq_of_mem_set hp with h1 | h1
 ·exact h p h1
 ·obtain ⟨a, b, h2, h3, h4⟩ := h _ (getD_mem (d := default) hi)
  subst h1
  exact ⟨-b, a, (rot_ok h2 h3 h4).2, by omega, h3⟩
def rot (p : Cpx) : Cpx := cmul p (Cpx.mk 0#64 4607182418800017408#64)
def PR : List Cpx → List (Int × Int) → Prop
 | [], [] => True
 | p :: l, w :: m => (WQ p w.1 w.2 ∧ w.1.natAbs ≤ 1024 ∧ w.2.natAbs ≤ 1024) ∧ PR l m
 | _, _ => False
theorem PR_WP : ∀ {l : List Cpx} {m : List (Int × Int)}, PR l m → WP l
 | [], [], _ => fun p hp => by cases hp
 | p :: l, w :: m, h => fun q hq => by
  rcases List.mem_cons.1 hq with e | e
  ·subst e; exact ⟨w.1, w.2, h.1⟩
  ·exact PR_WP h.2 q e
 | [], _ :: _, h => h.elim
 | _ :: _, [], h => h.elim
def rw2 (w : Int × Int) : Int × Int := (-w.2, w.1)
theorem PR_rot : ∀ {l : List Cpx} {m : List (Int × Int)}, PR l m → PR (l.map rot) (m.map rw2)
 | [], [], _ => trivial
 | p :: l, w :: m, h => ⟨⟨(rot_ok h.1.1 h.1.2.1 h.1.2.2).2, by show (-w.2).natAbs ≤ 1024; have := h.1.2.2; omega, h.1.2.1⟩, PR_rot h.2⟩
 | [], _ :: _, h => h.elim
 | _ :: _, [], h => h.elim
theorem PR_len : ∀ {l : List Cpx} {m : List (Int × Int)}, PR l m → l.length = m.length
 | [], [], _ => rfl
 | p :: l, w :: m, h => by simp [PR_len h.2]
 | [], _ :: _, h => h.elim
 | _ :: _, [], h => h.elim
theorem PR_at : ∀ {l : List Cpx} {m : List (Int × Int)}, PR l m → ∀ i : Nat, i < l.length → WQ (l.getD i default) (m.getD i default).1 (m.getD i default).2
 | [], [], _, i, hi => by simp at hi
 | p :: l, w :: m, h, 0, _ => h.1.1
 | p :: l, w :: m, h, i + 1, hi => by simpa using PR_at h.2 i (by simpa using hi)
 | [], _ :: _, h, _, _ => h.elim
 | _ :: _, [], h, _, _ => h.elim
theorem ceq_of {p q : Cpx} {a b : Int} (hp : WQ p a b) (hq : WQ q a b) : ceq p q = true := by
 unfold ceq
 rw [IV_ord hp.1 hq.1, IV_ord hp.2 hq.2, cmpI, cmpI]
 simp
def rotN : Nat → List Cpx → List Cpx
 | 0, l => l
 | n + 1, l => rotN n (l.map rot)
def rwN : Nat → List (Int × Int) → List (Int × Int)
 | 0, l => l
 | n + 1, l => rwN n (l.map rw2)
theorem PR_rotN : ∀ (n : Nat) {l : List Cpx} {m : List (Int × Int)}, PR l m → PR (rotN n l) (rwN n m)
 | 0, _, _, h => h
 | n + 1, _, _, h => PR_rotN n (PR_rot h)
theorem rwN_add : ∀ (i j : Nat) (m : List (Int × Int)), rwN (i + j) m = rwN j (rwN i m)
 | 0, j, m => by rw [Nat.zero_add, rwN]
 | i + 1, j, m => by rw [show i + 1 + j = (i + j) + 1 by omega, rwN, rwN, rwN_add i j]
theorem rwN_4 (m : List (Int × Int)) : rwN 4 m = m := by
 show (((m.map rw2).map rw2).map rw2).map rw2 = m
 rw [List.map_map, List.map_map, List.map_map]
 conv => rhs; rw [← List.map_id m]
 refine List.map_congr_left fun w _ => ?_
 simp [rw2]
def qtr (q : Int) : Nat := ((Int.tmod (Int.tmod q 4 + 4) 4 : Int) - 0).toNat
theorem qtr_eq (q : Int) : (qtr q : Int) = q % 4 := by
 unfold qtr
 have h1 : q.tmod 4 = q % 4 ∨ q.tmod 4 = q % 4 - 4 ∨ q.tmod 4 = 0 := by
  rcases Int.lt_or_le q 0 with c | c
  ·have e := Int.neg_tmod (a := -q) (b := 4)
   rw [Int.neg_neg] at e
   have e2 : Int.tmod (-q) 4 = (-q) % 4 := Int.tmod_eq_emod_of_nonneg (by omega)
   rw [e2] at e
   omega
  ·exact .inl (Int.tmod_eq_emod_of_nonneg c)
 have h2 : (Int.tmod q 4 - q) % 4 = 0 := by
  have := Int.tmod_add_mul_tdiv q 4
  omega
 have h3 : Int.tmod (Int.tmod q 4 + 4) 4 = (Int.tmod q 4 + 4) % 4 := Int.tmod_eq_emod_of_nonneg (by
  rcases h1 with h | h | h <;> omega)
 rw [h3]
 omega
theorem Next_rng (t : List Int) (k n : Int) (hn : n ≤ 9223372036854775807) : 0 ≤ (tp_Next t k n).1 ∧ ((tp_Next t k n).1 < n ∨ (tp_Next t k n).1 = 0) := by
 unfold tp_Next
 by_cases h1 : n ≤ 1
 ·simp [h1]
 ·by_cases h2 : (t.length : Int) ≤ k
  ·simp [h1, h2]
  ·simp only [decide_eq_false h1, decide_eq_false h2, cond_false]
   have := mod_range (t.getD (k + 1 - 1).toNat 0) n (by omega)
   unfold g_Mod
   exact ⟨this.1, .inl this.2⟩
theorem Next_lt (t : List Int) (k n : Int) (h1 : 1 ≤ n) (hn : n ≤ 9223372036854775807) : 0 ≤ (tp_Next t k n).1 ∧ (tp_Next t k n).1 < n := by
 have := Next_rng t k n hn; omega
theorem PR_points (g : List GPoint) : ∀ (r : Nat) (out : List Cpx) (m : List (Int × Int)) (i : Int), 0 ≤ i → i + (r : Int) = (g.length : Int) → PR out m → (∀ p ∈ g, p.X.natAbs ≤ 1024 ∧ p.Y.natAbs ≤ 1024) → ∃ m', PR (w33_points_L0 g r out i) m'
 | 0, out, m, i, _, _, h, _ => by rw [w33_points_L0]; exact ⟨m, h⟩
 | r + 1, out, m, i, h0, h1, h, hb => by
  rw [w33_points_L0]
  obtain ⟨b1, b2⟩ := hb _ (getD_mem (xs := g) (i := i.toNat) (d := default) (by omega))
  have app : ∀ {l : List Cpx} {m : List (Int × Int)} {p : Cpx} {w : Int × Int}, PR l m → (WQ p w.1 w.2 ∧ w.1.natAbs ≤ 1024 ∧ w.2.natAbs ≤ 1024) → PR (l ++ [p]) (m ++ [w]) := fun {l} => by
   induction l with
   | nil =>
    intro m p w h hq
    cases m with
    | nil => exact ⟨hq, trivial⟩
    | cons _ _ => exact h.elim
   | cons a l ih =>
    intro m p w h hq
    cases m with
    | nil => exact h.elim
    | cons c m => exact ⟨h.1, ih h.2 hq⟩
  exact PR_points g r _ (m ++ [((g.getD i.toNat default).X, (g.getD i.toNat default).Y)]) (i + 1) (by omega) (by omega) (app h ⟨⟨IV_of (by omega), IV_of (by omega)⟩, b1, b2⟩) hb
theorem Abs_trok {x : Flo} {y : BitVec 64} {r : Flo} (hr : math_Abs x = r) (h : fle r ⟨y⟩ = true) : ftruncok x = true := by
 subst hr
 exact fle_trok (x := x.b) (y := y) h
theorem whole1_eq (x : Flo) : layout_whole_1 x = wholeB x.b := by
 show (bif fle ⟨babs x.b⟩ ⟨4652218415073722368#64⟩ then feq x (ftrunc x) else false) = (fle ⟨babs x.b⟩ ⟨4652218415073722368#64⟩ && feq ⟨x.b⟩ (ftrunc ⟨x.b⟩))
 all_goals (cases fle ⟨babs x.b⟩ ⟨4652218415073722368#64⟩ <;> rfl)
theorem whole2_eq (p : Cpx) : layout_whole_2_whole_1 p = !(wholeB p.re && wholeB p.im) := by
 -- layout_whole is behind
 unfold layout_whole_2_whole_1
 simp only [whole1_eq]
 all_goals (cases wholeB p.re <;> cases wholeB p.im <;> rfl)
theorem ixw (l : List Cpx) : ∀ (r : Nat) (i : Int), 0 ≤ i → i + (r : Int) = (l.length : Int) → (sc_IndexFunc_complex128_whole_2_L0 l r i = .brk () ∧ ∀ j : Nat, i ≤ (j : Int) → j < l.length → layout_whole_2_whole_1 (l.getD j default) = false) ∨ ∃ j : Int, sc_IndexFunc_complex128_whole_2_L0 l r i = .ret j ∧ i ≤ j ∧ j < (l.length : Int) ∧ layout_whole_2_whole_1 (l.getD j.toNat default) = true
 | 0, i, h0, h1 => by
  -- layout_whole is behind
  rw [sc_IndexFunc_complex128_whole_2_L0]
  exact .inl ⟨rfl, fun j h2 h3 => by omega⟩
 | r + 1, i, h0, h1 => by
  rw [sc_IndexFunc_complex128_whole_2_L0]
  try dsimp only
  cases e : layout_whole_2_whole_1 (l.getD i.toNat default)
  ·rcases ixw l r (i + 1) (by omega) (by omega) with ⟨h2, h3⟩ | ⟨j, h2, h3, h4, h5⟩
   ·refine .inl ⟨h2, fun j h4 h5 => ?_⟩
    by_cases c : (j : Int) = i
    ·rw [show j = i.toNat by omega]; exact e
    ·exact h3 j (by omega) h5
   ·exact .inr ⟨j, h2, by omega, h4, h5⟩
  ·exact .inr ⟨i, rfl, Int.le_refl _, by omega, e⟩
theorem whole_iff (l : List Cpx) : layout_whole l = true ↔ ∀ p ∈ l, wholeB p.re = true ∧ wholeB p.im = true := by
 unfold layout_whole sc_ContainsFunc_complex128_whole_2 sc_IndexFunc_complex128_whole_2
 dsimp only
 rcases ixw l _ 0 (by omega) (show (0 : Int) + (((((l.length : Nat) : Int) - 0).toNat : Nat) : Int) = (l.length : Int) by omega) with ⟨h2, h3⟩ | ⟨j, h2, h3, h4, h5⟩
 ·rw [h2]
  refine ⟨fun _ p hp => ?_, fun _ => rfl⟩
  obtain ⟨j, hj, e⟩ := List.getElem_of_mem hp
  have := h3 j (by omega) hj
  rw [List.getD_eq_getElem?_getD, List.getElem?_eq_getElem hj] at this
  simp only [Option.getD_some] at this
  rw [e, whole2_eq] at this
  simpa using this
 ·rw [h2]
  refine ⟨fun h => ?_, fun h => ?_⟩
  ·simp only [decide_eq_true h3] at h; cases h
  ·have hm := h _ (getD_mem (xs := l) (i := j.toNat) (d := default) (by omega))
   rw [whole2_eq, hm.1, hm.2] at h5
   cases h5
theorem whole_WP (l : List Cpx) : layout_whole l = true ↔ WP l := by
 rw [whole_iff]
 refine ⟨fun h p hp => ?_, fun h p hp => ?_⟩
 ·obtain ⟨h1, h2⟩ := h p hp
  obtain ⟨a, a1, a2⟩ := whole_IV h1
  obtain ⟨b, b1, b2⟩ := whole_IV h2
  exact ⟨a, b, ⟨a2, b2⟩, a1, b1⟩
 ·obtain ⟨a, b, ⟨h1, h2⟩, a1, b1⟩ := h p hp
  exact ⟨whole_of h1 a1, whole_of h2 b1⟩
theorem Clone_WP {l r : List Cpx} {v : Bool} (hv : layout_whole l = v) (h : (!v) = false) (hr : sc_Clone_complex128 l = r) : WP r := by
 have : r = l := by rw [← hr]; rfl
 rw [this]
 exact (whole_WP l).1 (hv.trans (by cases v; cases h; rfl))
theorem turn_L1 : ∀ (r : Nat) (a b : List Cpx), b.length = r → layout_Turn_L1 r (a ++ b) (a.length : Int) = a ++ b.map rot
 | 0, a, b, h => by
  have : b = [] := List.eq_nil_of_length_eq_zero h
  subst this
  rw [layout_Turn_L1]; simp
 | r + 1, a, [], h => by simp at h
 | r + 1, a, p :: b, h => by
  rw [layout_Turn_L1]
  have e1 : ((a.length : Int)).toNat = a.length := by omega
  rw [e1]
  have e2 : (a ++ p :: b).getD a.length default = p := getD_mid a b p default
  have e3 : (a ++ p :: b).set a.length (cmul p (Cpx.mk 0#64 4607182418800017408#64)) = (a ++ [rot p]) ++ b := by
   rw [List.set_append_right _ _ (Nat.le_refl _), Nat.sub_self]; simp [rot]
  rw [e2, e3, show (a.length : Int) + 1 = ((a ++ [rot p]).length : Int) by simp, turn_L1 r (a ++ [rot p]) b (by simpa using h)]
  simp
theorem turn_L0 : ∀ (r : Nat) (l : List Cpx) (v : Int), layout_Turn_L0 r l v = rotN r l
 | 0, l, v => by rw [layout_Turn_L0, rotN]
 | r + 1, l, v => by
  have := turn_L1 l.length [] l rfl
  simp only [List.nil_append, List.length_nil] at this
  rw [layout_Turn_L0, show (((((l.length : Nat) : Int) : Int) - 0).toNat) = l.length by omega, show (0 : Int) = ((0 : Nat) : Int) from rfl, this]
  exact turn_L0 r _ _
theorem turn_eq {l : List Cpx} {m : List (Int × Int)} (h : PR l m) (q : Int) : layout_Turn l q = rotN (qtr q) l := by
 unfold layout_Turn
 dsimp only
 rw [(whole_WP l).2 (PR_WP h), turn_L0]
 rfl
theorem same_of {l l' : List Cpx} {m : List (Int × Int)} (h : PR l m) (h' : PR l' m) : w33_same l l' = true := by
 have hl : l.length = l'.length := (PR_len h).trans (PR_len h').symm
 have hL : ∀ (r : Nat) (i : Int), 0 ≤ i → i + (r : Int) = (l.length : Int) → w33_same_L0 l l' r i = .brk () := fun r => by
  induction r with
  | zero => intro i _ _; rw [w33_same_L0]
  | succ r ih =>
   intro i h0 h1
   rw [w33_same_L0, ceq_of (PR_at h i.toNat (by omega)) (PR_at h' i.toNat (by omega)), ih (i + 1) (by omega) (by omega)]
   rfl
 unfold w33_same
 rw [hL _ 0 (by omega) (by omega), hl]
 simp
theorem LT_L0 (t : List Int) : ∀ (r : Nat) (k n : Int) (l : List GPoint), (∀ p ∈ l, p.X.natAbs ≤ 1024 ∧ p.Y.natAbs ≤ 1024) → ∀ p ∈ w33_LayoutTurns_L0 t r k l n, p.X.natAbs ≤ 1024 ∧ p.Y.natAbs ≤ 1024
 | 0, k, n, l, h => by rw [w33_LayoutTurns_L0]; exact h
 | r + 1, k, n, l, h => by
  rw [w33_LayoutTurns_L0]
  try dsimp only
  have h1 := Next_lt t k 40 (by omega) (by omega)
  have h2 := Next_lt t (tp_Next t k 40).2 40 (by omega) (by omega)
  refine LT_L0 t r _ _ _ fun p hp => ?_
  rcases List.mem_append.1 hp with c | c
  ·exact h p c
  ·rw [List.mem_singleton.1 c]
   show (_ - 20 : Int).natAbs ≤ 1024 ∧ (_ - 20 : Int).natAbs ≤ 1024
   omega
theorem LayoutTurns_true (t : List Int) (a b : Int) : w33_LayoutTurns t a b = true := by
 unfold w33_LayoutTurns
 dsimp only
 have hb := LT_L0 t (((tp_Next t 0 6).1 : Int).toNat) (tp_Next t 0 6).2 (tp_Next t 0 6).1 [] (fun p hp => by cases hp)
 generalize w33_LayoutTurns_L0 t (((tp_Next t 0 6).1 : Int).toNat) (tp_Next t 0 6).2 [] (tp_Next t 0 6).1 = g at hb
 obtain ⟨m, hm⟩ := PR_points g (((((g.length : Nat) : Int) : Int) - 0).toNat) [] [] 0 (by omega) (by omega) trivial hb
 have hm : PR (w33_points g) m := hm
 generalize w33_points g = l at hm
 have e4 : qtr 4 = 0 := by decide
 have t1 : w33_same (layout_Turn l 4) l = true := by rw [turn_eq hm, e4]; exact same_of hm hm
 have t2 : w33_same (layout_Turn (layout_Turn l a) b) (layout_Turn l (a + b)) = true := by
  rw [turn_eq hm a, turn_eq (PR_rotN (qtr a) hm) b, turn_eq hm (a + b)]
  have p1 := PR_rotN (qtr b) (PR_rotN (qtr a) hm)
  have p2 := PR_rotN (qtr (a + b)) hm
  have e : rwN (qtr b) (rwN (qtr a) m) = rwN (qtr (a + b)) m := by
   rw [← rwN_add]
   have h1 := qtr_eq a
   have h2 := qtr_eq b
   have h3 := qtr_eq (a + b)
   have : qtr a + qtr b = qtr (a + b) ∨ qtr a + qtr b = 4 + qtr (a + b) := by omega
   rcases this with h | h
   ·rw [h]
   ·rw [h, rwN_add, rwN_4]
  rw [e] at p1
  exact same_of p1 p2
 rw [t1, t2]
 rfl
theorem fx40 : Ext1 Tryd.prog 40 Extern.MathFloatBits.float64bits := fun args w => run_callFunc_extern Tryd.func40 (by kernel_rfl) (by kernel_rfl) (by kernel_rfl) (by kernel_rfl) args w
theorem fx39 : Ext1 Tryd.prog 39 Extern.MathFloatBits.float64frombits := fun args w => run_callFunc_extern Tryd.func39 (by kernel_rfl) (by kernel_rfl) (by kernel_rfl) (by kernel_rfl) args w
theorem fx42 : Ext1 Tryd.prog 42 (Extern.MathFloor.toIntegral "math.archTrunc" .zero) := fun args w => run_callFunc_extern Tryd.func42 (by kernel_rfl) (by kernel_rfl) (by kernel_rfl) (by kernel_rfl) args w
theorem ca28 : callable Tryd.prog 28 = true := by kernel_rfl
theorem ca23 : callable Tryd.prog 23 = true := by kernel_rfl
theorem ze69 : zeroOf Tryd.prog 69 = some (.nilFunc) := by kernel_rfl
theorem sh69 : tyShape Tryd.prog 69 = some (false, 1) := by kernel_rfl
theorem ca29 : callable Tryd.prog 29 = true := by kernel_rfl
theorem ca30 : callable Tryd.prog 30 = true := by kernel_rfl
theorem ca27 : callable Tryd.prog 27 = true := by kernel_rfl
theorem sh37 : tyShape Tryd.prog 37 = some (false, 1) := by kernel_rfl
theorem sl26 : slTy Tryd.prog 26 = some (29, 2, 16) := by kernel_rfl
theorem fo29_0 : fldOff Tryd.prog 29 0 = some 0 := by kernel_rfl
theorem un36 : Tryd.prog.underlying 36 = some (.float .f64) := by kernel_rfl
theorem fo29_1 : fldOff Tryd.prog 29 1 = some 1 := by kernel_rfl
theorem sl30 : slTy Tryd.prog 30 = some (37, 1, 16) := by kernel_rfl
theorem sz30 : slZero Tryd.prog 30 = some [cxv (Cpx.mk 0#64 0#64)] := by kernel_rfl
theorem ca44 : callable Tryd.prog 44 = true := by kernel_rfl
theorem un30 : Tryd.prog.underlying 30 = some (.slice 37) := by kernel_rfl
theorem ca18 : callable Tryd.prog 18 = true := by kernel_rfl
theorem ca19 : callable Tryd.prog 19 = true := by kernel_rfl
theorem ze42 : zeroOf Tryd.prog 42 = some (.agg #[.slice none 0 0, .slice none 0 0, .slice none 0 0]) := by kernel_rfl
theorem sl39 : slTy Tryd.prog 39 = some (157, 4, 32) := by kernel_rfl
theorem sz39 : slZero Tryd.prog 39 = some [vi 0, vi 0, vi 0, vi 0] := by kernel_rfl
theorem sz22 : slZero Tryd.prog 22 = some [vi 0] := by kernel_rfl
theorem sl40 : slTy Tryd.prog 40 = some (22, 1, 24) := by kernel_rfl
theorem sz40 : slZero Tryd.prog 40 = some [.slice none 0 0] := by kernel_rfl
theorem st42 : stTy Tryd.prog 42 = some ([(0, 1), (1, 1), (2, 1)], [.slice none 0 0, .slice none 0 0, .slice none 0 0]) := by kernel_rfl
theorem sh42 : tyShape Tryd.prog 42 = some (true, 3) := by kernel_rfl
theorem fo52_1 : fldOff Tryd.prog 52 1 = some 1 := by kernel_rfl
theorem sh3 : tyShape Tryd.prog 3 = some (false, 1) := by kernel_rfl
theorem fo52_0 : fldOff Tryd.prog 52 0 = some 0 := by kernel_rfl
theorem sh22 : tyShape Tryd.prog 22 = some (false, 1) := by kernel_rfl
theorem sl22 : slTy Tryd.prog 22 = some (3, 1, 8) := by kernel_rfl
theorem ca17 : callable Tryd.prog 17 = true := by kernel_rfl
theorem fmix : Tryd.prog.follows .mixedOrders = true := by kernel_rfl
theorem ca64 : callable Tryd.prog 64 = true := by kernel_rfl
theorem ca65 : callable Tryd.prog 65 = true := by kernel_rfl
theorem fo42_0 : fldOff Tryd.prog 42 0 = some 0 := by kernel_rfl
theorem sh39 : tyShape Tryd.prog 39 = some (false, 1) := by kernel_rfl
theorem fo42_1 : fldOff Tryd.prog 42 1 = some 1 := by kernel_rfl
theorem sh40 : tyShape Tryd.prog 40 = some (false, 1) := by kernel_rfl
theorem fo42_2 : fldOff Tryd.prog 42 2 = some 2 := by kernel_rfl
theorem ca53 : callable Tryd.prog 53 = true := by kernel_rfl
theorem ca54 : callable Tryd.prog 54 = true := by kernel_rfl
theorem st63 : stTy Tryd.prog 63 = some ([(0, 1), (1, 1)], [cxv (Cpx.mk 0#64 0#64), cxv (Cpx.mk 0#64 0#64)]) := by kernel_rfl
theorem sl60 : slTy Tryd.prog 60 = some (63, 2, 32) := by kernel_rfl
theorem sz60 : slZero Tryd.prog 60 = some [cxv (Cpx.mk 0#64 0#64), cxv (Cpx.mk 0#64 0#64)] := by kernel_rfl
theorem ca38 : callable Tryd.prog 38 = true := by kernel_rfl
theorem sh63 : tyShape Tryd.prog 63 = some (true, 2) := by kernel_rfl
theorem ca41 : callable Tryd.prog 41 = true := by kernel_rfl
theorem fo63_1 : fldOff Tryd.prog 63 1 = some 1 := by kernel_rfl
theorem fo63_0 : fldOff Tryd.prog 63 0 = some 0 := by kernel_rfl
theorem ca22 : callable Tryd.prog 22 = true := by kernel_rfl
theorem ca25 : callable Tryd.prog 25 = true := by kernel_rfl
theorem ca24 : callable Tryd.prog 24 = true := by kernel_rfl
theorem ze63 : zeroOf Tryd.prog 63 = some (.agg #[cxv (Cpx.mk 0#64 0#64), cxv (Cpx.mk 0#64 0#64)]) := by kernel_rfl
theorem ca57 : callable Tryd.prog 57 = true := by kernel_rfl
theorem un3 : Tryd.prog.underlying 3 = some (.int .i64) := by kernel_rfl
theorem un68 : Tryd.prog.underlying 68 = some (.int .u64) := by kernel_rfl
theorem ca45 : callable Tryd.prog 45 = true := by kernel_rfl
theorem ca66 : callable Tryd.prog 66 = true := by kernel_rfl
theorem un88 : Tryd.prog.underlying 88 = some (.int .u64) := by kernel_rfl
theorem un5 : Tryd.prog.underlying 5 = some (.int .u8) := by kernel_rfl
theorem un9 : Tryd.prog.underlying 9 = some .string := by kernel_rfl
theorem ca75 : callable Tryd.prog 75 = true := by kernel_rfl
theorem ca59 : callable Tryd.prog 59 = true := by kernel_rfl
theorem ca58 : callable Tryd.prog 58 = true := by kernel_rfl
theorem ca60 : callable Tryd.prog 60 = true := by kernel_rfl
theorem ca49 : callable Tryd.prog 49 = true := by kernel_rfl
theorem ca48 : callable Tryd.prog 48 = true := by kernel_rfl
theorem ze22 : zeroOf Tryd.prog 22 = some (.slice none 0 0) := by kernel_rfl
theorem sl94 : slTy Tryd.prog 94 = some (4, 1, 1) := by kernel_rfl
theorem sz94 : slZero Tryd.prog 94 = some [vb false] := by kernel_rfl
theorem sh4 : tyShape Tryd.prog 4 = some (false, 1) := by kernel_rfl
theorem ca47 : callable Tryd.prog 47 = true := by kernel_rfl
theorem ca46 : callable Tryd.prog 46 = true := by kernel_rfl
theorem ca31 : callable Tryd.prog 31 = true := by kernel_rfl
theorem ca32 : callable Tryd.prog 32 = true := by kernel_rfl
theorem ca33 : callable Tryd.prog 33 = true := by kernel_rfl
theorem ca76 : callable Tryd.prog 76 = true := by kernel_rfl
theorem ca61 : callable Tryd.prog 61 = true := by kernel_rfl
theorem ca50 : callable Tryd.prog 50 = true := by kernel_rfl
theorem ze77 : zeroOf Tryd.prog 77 = some (.agg #[.pointer none, .slice none 0 0]) := by kernel_rfl
theorem ca34 : callable Tryd.prog 34 = true := by kernel_rfl
theorem sl78 : slTy Tryd.prog 78 = some (9, 1, 16) := by kernel_rfl
theorem sz78 : slZero Tryd.prog 78 = some [.string (bs (Str.mk []))] := by kernel_rfl
theorem ca36 : callable Tryd.prog 36 = true := by kernel_rfl
theorem ca35 : callable Tryd.prog 35 = true := by kernel_rfl
theorem ca37 : callable Tryd.prog 37 = true := by kernel_rfl
theorem ca13 : callable Tryd.prog 13 = true := by kernel_rfl
theorem ca20 : callable Tryd.prog 20 = true := by kernel_rfl
theorem ca21 : callable Tryd.prog 21 = true := by kernel_rfl
theorem ca10 : callable Tryd.prog 10 = true := by kernel_rfl
theorem ca14 : callable Tryd.prog 14 = true := by kernel_rfl
theorem st52 : stTy Tryd.prog 52 = some ([(0, 1), (1, 1)], [.slice none 0 0, vi 0]) := by kernel_rfl
theorem ca6 : callable Tryd.prog 6 = true := by kernel_rfl
theorem ca7 : callable Tryd.prog 7 = true := by kernel_rfl
theorem st29 : stTy Tryd.prog 29 = some ([(0, 1), (1, 1)], [vi 0, vi 0]) := by kernel_rfl
theorem sz26 : slZero Tryd.prog 26 = some [vi 0, vi 0] := by kernel_rfl
theorem ca8 : callable Tryd.prog 8 = true := by kernel_rfl
theorem ca9 : callable Tryd.prog 9 = true := by kernel_rfl
theorem un23 : Tryd.prog.underlying 23 = some (.int .i8) := by kernel_rfl
theorem ca11 : callable Tryd.prog 11 = true := by kernel_rfl
theorem fn23 (x : Flo) (rr : Flo) (hrr : math_Abs x = rr) : FT Tryd.prog 23 #[flo x] [] (fun g : Unit => True) (fun g => flo rr) (fun g => []) := by
 refine FTi Tryd.func23 fun w0 M0 F0 => ?_
 refine KS ?_
 refine Oq Va (KS ?_)
 refine Oq Vm (Oq (VfB (a := x) fx40) (Oq (VandNotU (b := 9223372036854775808#64)) (Oq (VfF (a := ((x.b) &&& ~~~(9223372036854775808#64))) fx39) (Oq Va (KS ?_)))))
 have hq := q4 hrr (Flo.mk ((x.b) &&& ~~~(9223372036854775808#64))) (by simp only [math_Abs, cs4]); subst hq
 exact Kr () rfl (.tmp rfl .nil) [] trivial
theorem fn28 (x : Flo) (ht0 : ftruncok x = true) (rr : Flo) (hrr : math_Trunc x = rr) : FT Tryd.prog 28 #[flo x] [] (fun g : Unit => True) (fun g => flo rr) (fun g => []) := by
 refine FTi Tryd.func28 fun w0 M0 F0 => ?_
 refine KS ?_
 refine Oq Va (KS ?_)
 refine Kt (KS ?_)
 refine Oq Vm (Oq (VfT (a := x) fx42) (Oq Va (KS ?_)))
 have hq := q4 hrr (ftrunc x) (by simp only [math_Trunc, cs4]); subst hq
 exact Kr () rfl (.tmp rfl .nil) [] trivial
theorem fn27 (x : Flo) (rr : Bool) (hrr : layout_whole_1 x = rr) : FT Tryd.prog 27 #[flo x] [] (fun g : Unit => True) (fun g => vb rr) (fun g => []) := by
 refine FTi Tryd.func27 fun w0 M0 F0 => ?_
 refine KS ?_
 refine Oq Va (KS ?_)
 refine Oq Vm ?_
 refine letv (math_Abs x) fun rv1 hg2 => ?_
 have hc3 := fn23 x rv1 hg2
 refine Oc [] ca23 hc3 ?_
 rintro - -
 refine Oq (VleF (a := rv1) (b := (Flo.mk 4652218415073722368#64))) (Oq Vm ?_)
 refine Js 6 ?_ ?_
 ·intro h4
  refine Oq Vm (Oq Vm ?_)
  refine letv (math_Trunc x) fun rv6 hg7 => ?_
  have hc8 := fn28 x (Abs_trok (by assumption) (by assumption)) rv6 hg7
  refine Oc [] ca28 hc8 ?_
  rintro - -
  refine Oq (VeqF (a := x) (b := rv6)) (Oq Vpt (Oq Va (KS ?_)))
  have hq := q4 hrr (feq x rv6) (by simp only [layout_whole_1, h4, hg2, hg7, cs4]); subst hq
  exact Kr () rfl (.tmp rfl .nil) [] trivial
 intro h4
 refine Osk (Osk (Osk (Osk (Oq Vpf (Oq Va (KS ?_))))))
 have hq := q4 hrr false (by simp only [layout_whole_1, h4, hg2, cs4]); subst hq
 exact Kr () rfl (.tmp rfl .nil) [] trivial
theorem fn30m0 (p : Cpx) (cap0P : Value) (rr : Bool) (hrr : layout_whole_2_whole_1 p = rr) : FT Tryd.prog 30 #[cxv p, cap0P] [pv cap0P [.func (.func 27) #[] #[]]] (fun g : Unit => True) (fun g => vb rr) (fun g => []) := by
 refine FTi Tryd.func30 fun w0 M0 F0 => ?_
 refine KS ?_
 refine Oq Va (KS ?_)
 refine Oq (Vld sh69 0) (Oq Vm (Oq (Vre (a := p)) ?_))
 refine letv (layout_whole_1 (Flo.mk p.re)) fun rv1 hg2 => ?_
 have hc3 := fn27 ((Flo.mk p.re)) rv1 hg2
 refine JO_call [] rfl rfl rfl (OpC.clo (asv := [(flo (Flo.mk p.re) : Value)]) rfl rfl ca27 rfl (by simp)) hc3 rfl ?_
 rintro - -
 refine Oq Vnot (Oq Vm ?_)
 refine Js 9 ?_ ?_
 ·intro h4
  have h6 := not_true h4
  refine Osk (Osk (Osk (Osk (Osk (Oq Vpt (Oq Va (KS ?_)))))))
  have hq := q4 hrr true (by simp only [layout_whole_2_whole_1, h4, h6, hg2, cs4]); subst hq
  exact Kr () rfl (.tmp rfl .nil) [] trivial
 intro h4
 have h9 := not_false h4
 refine Oq (Vld sh69 0) (Oq Vm (Oq (Vim (a := p)) ?_))
 refine letv (layout_whole_1 (Flo.mk p.im)) fun rv11 hg12 => ?_
 have hc13 := fn27 ((Flo.mk p.im)) rv11 hg12
 refine Ogo (gt rfl rfl rfl rfl) ?_
 refine JO_call [] rfl rfl rfl (OpC.clo (asv := [(flo (Flo.mk p.im) : Value)]) rfl rfl ca27 rfl (by simp)) hc13 rfl ?_
 rintro - -
 refine Oq Vnot (Oq Vpf (Oq Va (KS ?_)))
 have hq := q4 hrr (!rv11) (by simp only [layout_whole_2_whole_1, h4, h9, hg2, hg12, cs4]); subst hq
 exact Kr () rfl (.tmp rfl .nil) [] trivial
theorem fn44m0 (s : List Cpx) (sa0 : Option Addr) (sk0 : Nat) (st0P : Value) (rr : Int) (hrr : sc_IndexFunc_complex128_whole_2 s = rr) : FT Tryd.prog 44 #[vl sa0 sk0 s, .func (.func 30) #[] #[st0P]] [S sa0 sk0 s, pv st0P [.func (.func 27) #[] #[]]] (fun g : Unit => i64ok rr) (fun g => vi rr) (fun g => []) := by
 refine FTi Tryd.func44 fun w0 M0 F0 => Fb 16 0 fun _ => ?_
 refine KS ?_
 refine Oq Va (KS ?_)
 refine Oq Vm (Oq (Vlen sl30) (Oq Vm (KS ?_)))
 refine Kl (γ := Nat × Int) (fun (r2, v8_3) => ⟨[(0, vl sa0 sk0 s), (1, .func (.func 30) #[] #[st0P]), (7, vi (s.length : Int)), (8, vi v8_3)], [S sa0 sk0 s, pv st0P [.func (.func 27) #[] #[]]], sc_IndexFunc_complex128_whole_2_L0 s r2 v8_3 = sc_IndexFunc_complex128_whole_2_L0 s (((s.length : Int) - 0).toNat) 0 ∧ r2 = ((s.length : Int) - v8_3).toNat ∧ (0 : Int) ≤ v8_3 ∧ v8_3 ≤ (s.length : Int) ∧ (-9223372036854775808 ≤ v8_3 ∧ v8_3 ≤ 9223372036854775807), r2⟩) (((s.length : Int) - 0).toNat, 0) [0, 1] ⟨rfl, rfl, aM1, aM1, aM1⟩ ?_
 rintro ⟨r2, v8_3⟩ ⟨hM4, hr5, hi6, hi7, hk8⟩
 refine JJ_nx fun _ _ hL hA => ?_; dsimp only at hL hA; subst hL hA
 refine Fb 16 0 fun _ => KS ?_
 refine Oq Vlss (KS ?_)
 refine Kc ?_ ?_
 ·intro h10
  have g11 := dt h10
  obtain ⟨r12, rfl⟩ := scc (n := r2) aM1
  refine KS ?_
  refine Oq Vm (Oq Va (KS ?_))
  refine Oq Vm (Oq Vm (Oq Vm (Oq (Vi sl30 0) (Oq (VldCx sh37 0) ?_))))
  refine letv (layout_whole_2_whole_1 (s.getD v8_3.toNat default)) fun rv13 hg14 => ?_
  have hc15 := fn30m0 ((s.getD v8_3.toNat default)) st0P rv13 hg14
  refine JO_call [1] rfl rfl rfl (OpC.clo (asv := [(cxv (s.getD v8_3.toNat default) : Value), (st0P : Value)]) rfl rfl ca30 rfl (by simp)) hc15 rfl ?_
  rintro - -
  refine KS ?_
  refine Kc ?_ ?_
  ·intro h16
   refine KS ?_
   refine Oq Vm (Oq Va (KS ?_))
   have hR18 := q2 hM4 (.ret v8_3) (by simp only [sc_IndexFunc_complex128_whole_2_L0, h10, h16, hg14, cs4])
   have hq := q4 hrr v8_3 (by simp only [sc_IndexFunc_complex128_whole_2, h10, h16, hg14, hR18, cs4]); subst hq
   exact Kr () rfl (.tmp rfl .nil) [] en
  intro h16
  refine KS ?_
  refine Oq Vadd (Oq Vm (KS ?_))
  exact Kg (r12, (v8_3 + 1)) [0, 1] ⟨(q3 hM4 (by simp only [sc_IndexFunc_complex128_whole_2_L0, h10, h16, hg14, cs4])), aM1, aM1, aM1, aM1⟩
 intro h10
 have g20 := df h10
 obtain rfl : r2 = 0 := by omega
 refine Ke ?_
 have hR21 := q2 hM4 (.brk ()) (by simp only [sc_IndexFunc_complex128_whole_2_L0, h10, cs4])
 refine KS ?_
 refine Oq Va (KS ?_)
 have hq := q4 hrr (-1) (by simp only [sc_IndexFunc_complex128_whole_2, h10, hR21, cs4]); subst hq
 exact Kr () rfl (.tmp rfl .nil) [] en
theorem fn29m0 (s : List Cpx) (sa0 : Option Addr) (sk0 : Nat) (st0P : Value) (rr : Bool) (hrr : sc_ContainsFunc_complex128_whole_2 s = rr) : FT Tryd.prog 29 #[vl sa0 sk0 s, .func (.func 30) #[] #[st0P]] [S sa0 sk0 s, pv st0P [.func (.func 27) #[] #[]]] (fun g : Unit => True) (fun g => vb rr) (fun g => []) := by
 refine FTi Tryd.func29 fun w0 M0 F0 => Fb 16 0 fun _ => ?_
 refine KS ?_
 refine Oq Va (KS ?_)
 refine Oq Vm (Oq Vm ?_)
 refine letv (sc_IndexFunc_complex128_whole_2 s) fun rv2 hg3 => ?_
 have hc4 := fn44m0 s sa0 sk0 st0P rv2 hg3
 refine Oc [0, 1] ca44 hc4 ?_
 rintro - he5
 unfold i64ok at he5
 refine Oq Vgeq (Oq Va (KS ?_))
 have hq := q4 hrr (decide (0 ≤ rv2)) (by simp only [sc_ContainsFunc_complex128_whole_2, hg3, cs4]); subst hq
 exact Kr () rfl (.tmp rfl .nil) [] trivial
theorem fn18 (at_ : List Cpx) (at_a0 : Option Addr) (at_k0 : Nat) (rr : Bool) (hrr : layout_whole at_ = rr) : FT Tryd.prog 18 #[vl at_a0 at_k0 at_] [S at_a0 at_k0 at_] (fun g : Unit => True) (fun g => vb rr) (fun g => []) := by
 refine FTi Tryd.func18 fun w0 M0 F0 => Fb 16 0 fun _ => ?_
 refine KS ?_
 refine Oq Va (KS ?_)
 refine Oa (Al ze69 [.nilFunc]) fun p2 => Ost (Scl [0] sh69 [.func (.func 27) #[] #[]]) (KS ?_)
 refine Oq Vm (Oq (Vf [p2]) ?_)
 refine Jl [0] (Ent.freezeCl _ _) ?_
 refine letv (sc_ContainsFunc_complex128_whole_2 at_) fun rv3 hg4 => ?_
 have hc5 := fn29m0 at_ at_a0 at_k0 p2 rv3 hg4
 refine Oc [1, 0] ca29 hc5 ?_
 rintro - -
 refine Oq Vnot (Oq Va (KS ?_))
 have hq := q4 hrr (!rv3) (by simp only [layout_whole, hg4, cs4]); subst hq
 exact Kr () rfl (.tmp rfl .nil) [] trivial
theorem fn19 (s : List Cpx) (sa0 : Option Addr) (sk0 : Nat) (rr : List Cpx) (hrr : sc_Clone_complex128 s = rr) : FT Tryd.prog 19 #[vl sa0 sk0 s] [S sa0 sk0 s] (fun g : Value => (rr.length = s.length)) (fun g => g) (fun g => [os g rr]) := by
 have hm : sc_Clone_complex128 s = s := rfl
 rw [hm] at hrr
 subst hrr
 refine FTi Tryd.func19 fun w0 M0 F0 => ?_
 refine KS ?_
 refine Oq Va ?_
 refine KS ?_
 refine Oq Vm ?_
 refine Oq (VeqN un30) ?_
 refine KS ?_
 refine Kc ?_ ?_
 ·intro h
  refine Jnil 0 h ?_
  intro h0
  subst h0
  refine KS ?_
  refine Oq Va ?_
  refine KS ?_
  refine Jl [] (Ent.osNil (α := Cpx)) ?_
  exact Kr (.slice none 0 0) rfl (.tmp rfl .nil) [0] rfl
 ·intro _
  refine KS ?_
  refine Oa (As0 sl30) fun c1 => ?_
  refine Jo 0 ?_; rintro a2 k3 rfl
  refine Oq Vm ?_
  refine Fb 16 1 fun hl => ?_
  refine Jl [0] (Ent.crNil (α := Cpx) _) ?_
  refine Oa (Ap0 [0, 0] sl30 sl30 sz30) fun c4 => ?_
  refine Oq Va ?_
  refine KS ?_
  exact Kr c4 rfl (.tmp rfl .nil) [0] rfl
theorem fn10 (at_ : List Cpx) (at_a0 : Option Addr) (at_k0 : Nat) (quarter : Int) (hquarter_0 : i64ok quarter) (rr : List Cpx) (hrr : layout_Turn at_ quarter = rr) : FT Tryd.prog 10 #[vl at_a0 at_k0 at_, vi quarter] [S at_a0 at_k0 at_] (fun g : Value => True) (fun g => g) (fun g => [os g rr]) := by
 refine FTi Tryd.func10 fun w0 M0 F0 => ?_
 unfold i64ok at hquarter_0
 refine Fb 16 0 fun _ => KS ?_
 refine Oq Va (KS ?_)
 refine Oq Vm ?_
 refine letv (layout_whole at_) fun rv2 hg3 => ?_
 have hc4 := fn18 at_ at_a0 at_k0 rv2 hg3
 refine Oc [0] ca18 hc4 ?_
 rintro - -
 refine Oq Vnot (KS ?_)
 refine Kc ?_ ?_
 ·intro h5
  have h7 := not_true h5
  refine KS ?_
  refine Oq Va (KS ?_)
  refine Jl [] (Ent.osNil (α := Cpx)) ?_
  have hq := q4 hrr ([] : List Cpx) (by simp only [layout_Turn, h5, h7, hg3, cs4]); subst hq
  exact Kr (.slice none 0 0) rfl (.tmp rfl .nil) [0] trivial
 intro h5
 have h10 := not_false h5
 refine KS ?_
 refine Oq Vm ?_
 refine letv (sc_Clone_complex128 at_) fun rv13 hg14 => ?_
 have hWl := Clone_WP (by assumption) (by assumption) hg14
 have hc15 := fn19 at_ at_a0 at_k0 rv13 hg14
 refine Oc [0] ca19 hc15 ?_
 rintro c12 he16
 refine Jo 0 ?_; rintro a17 k18 rfl
 refine Fb 16 0 fun _ => ?_
 refine Oq Va (KS ?_)
 refine Oq Vm (Oq VremT ?_)
 have ht20 := tmod_rng quarter 4 aM1
 refine Oq Vadd (Oq VremT ?_)
 have ht21 := tmod_rng ((Int.tmod quarter 4) + 4) 4 aM1
 refine Oq Vm (KS ?_)
 refine Kl (γ := Nat × List Cpx × Int × Option Addr × Nat) (fun (r22, l_23, v16_24, a25, k26) => ⟨[(5, vl a25 k26 l_23), (15, vi (Int.tmod ((Int.tmod quarter 4) + 4) 4)), (16, vi v16_24)], [O a25 k26 l_23], layout_Turn_L0 r22 l_23 v16_24 = layout_Turn_L0 ((((Int.tmod ((Int.tmod quarter 4) + 4) 4) : Int) - 0).toNat) rv13 0 ∧ r22 = (((Int.tmod ((Int.tmod quarter 4) + 4) 4) : Int) - v16_24).toNat ∧ (0 : Int) ≤ v16_24 ∧ (v16_24 ≤ (Int.tmod ((Int.tmod quarter 4) + 4) 4) ∨ v16_24 = 0) ∧ (-9223372036854775808 ≤ v16_24 ∧ v16_24 ≤ 9223372036854775807) ∧ (WP l_23), r22⟩) ((((Int.tmod ((Int.tmod quarter 4) + 4) 4) : Int) - 0).toNat, rv13, 0, a17, k18) [0] ⟨rfl, rfl, aM1, (.inr rfl), aM1, hWl⟩ ?_
 rintro ⟨r22, l_23, v16_24, a25, k26⟩ ⟨hM27, hr28, hi29, hi30, hk31, hv32⟩
 refine JJ_nx fun _ _ hL hA => ?_; dsimp only at hL hA; subst hL hA
 refine Fb 16 0 fun _ => KS ?_
 refine Oq Vlss (KS ?_)
 refine Kc ?_ ?_
 ·intro h34
  have g35 := dt h34
  obtain ⟨r36, rfl⟩ := scc (n := r22) aM1
  refine KS ?_
  refine Oq Vm (Oq (Vlen sl30) (Oq Vm (KS ?_)))
  refine Kl (γ := Nat × List Cpx × Int) (fun (r37, l_38, v20_39) => ⟨[(5, vl a25 k26 l_23), (15, vi (Int.tmod ((Int.tmod quarter 4) + 4) 4)), (16, vi v16_24), (19, vi (l_23.length : Int)), (20, vi v20_39)], [os (vl a25 k26 l_23) l_38], layout_Turn_L1 r37 l_38 v20_39 = layout_Turn_L1 (((l_23.length : Int) - 0).toNat) l_23 0 ∧ r37 = ((l_23.length : Int) - v20_39).toNat ∧ (0 : Int) ≤ v20_39 ∧ v20_39 ≤ (l_23.length : Int) ∧ (-9223372036854775808 ≤ v20_39 ∧ v20_39 ≤ 9223372036854775807) ∧ (WP l_38), r37⟩) (((l_23.length : Int) - 0).toNat, l_23, 0) [0] ⟨rfl, rfl, aM1, aM1, aM1, (by assumption)⟩ ?_
  rintro ⟨r37, l_38, v20_39⟩ ⟨hM40, hr41, hi42, hi43, hk44, hv45⟩
  refine JJ_nx fun _ _ hL hA => ?_; dsimp only at hL hA; subst hL hA
  refine Fb 16 0 fun _ => Fl 0 fun hn47 => ?_
  refine KS ?_
  refine Oq Vlss (KS ?_)
  refine Kc ?_ ?_
  ·intro h48
   have g49 := dt h48
   obtain ⟨r50, rfl⟩ := scc (n := r37) aM1
   refine KS ?_
   refine Oq Vm (Oq Va (KS ?_))
   refine Oq Vm (Oq Vm (Oq (Vi sl30 0) (Oq (VldCx sh37 0) (Oq (VmulC (a := (l_38.getD v20_39.toNat default)) (b := (Cpx.mk 0#64 4607182418800017408#64)) (h := (rot_okP (by assumption) rng))) (Oq (Vi sl30 0) (Ost (SoCx [0] sh37) (KS ?_)))))))
   refine Oq Vadd (Oq Vm (KS ?_))
   exact Kg (r50, (l_38.set v20_39.toNat (cmul (l_38.getD v20_39.toNat default) (Cpx.mk 0#64 4607182418800017408#64))), (v20_39 + 1)) [0] ⟨(q3 hM40 (by simp only [layout_Turn_L1, h48, cs4])), aM1, aM1, aM1, aM1, (WP_set (by assumption) rng)⟩
  intro h48
  have g51 := df h48
  obtain rfl : r37 = 0 := by omega
  refine Ke ?_
  have hR52 := q2 hM40 l_38 (by simp only [layout_Turn_L1, h48, cs4])
  refine KS ?_
  refine Oq Vadd (Oq Vm (KS ?_))
  refine Fl 0 fun hn53 => ?_; (try unfold vl); rw [← hn53]
  exact Kg (r36, l_38, (v16_24 + 1), a25, k26) [0] ⟨(q3 hM27 (by simp only [layout_Turn_L0, h34, h48, hR52, cs4])), aM1, aM1, aM1, aM1, (by assumption)⟩
 intro h34
 have g54 := df h34
 obtain rfl : r22 = 0 := by omega
 refine Ke ?_
 have hR55 := q2 hM27 l_23 (by simp only [layout_Turn_L0, h34, cs4])
 refine KS ?_
 refine Oq Vm (Oq Va (KS ?_))
 have hq := q4 hrr l_23 (by simp only [layout_Turn, h5, h10, h34, hg3, hg14, hR55, cs4]); subst hq
 exact Kr (vl a25 k26 l_23) rfl (.tmp rfl .nil) [0] trivial
theorem fn13  (rr : GGraph) (hrr : w33_diamond = .ret rr) : FT Tryd.prog 13 #[] [] (fun g : Value × Value × Value => True) (fun g => .agg #[g.1, g.2.1, g.2.2]) (fun g => [sl g.1 rr.Nodes, sl g.2.1 rr.Succ, sl g.2.2 rr.Pred]) := by
 refine FTi Tryd.func13 fun w0 M0 F0 => ?_
 have hx0 := lrn rr; have H := hrr; unfold w33_diamond at H
 refine KS ?_
 refine Oa (Al ze42 [.slice none 0 0, .slice none 0 0, .slice none 0 0]) fun p1 => KS ?_
 refine pC H hx0 fun hc2 H => ?_
 refine Oa (Amk (α := GNode) sl39 sz39 (default : GNode) zrd_GNode) fun c3 => ?_
 refine Jo 0 ?_; rintro a4 k5 rfl
 refine Fb 32 0 fun _ => ?_
 have hn7 := List.length_replicate (n := (4 : Int).toNat) (a := ((default : GNode) : GNode))
 refine Oa (AsV sl22 sz22 [vi 1, vi 2] [vi 1, vi 2]) fun c8 => ?_
 refine Jo 0 ?_; rintro a9 k10 rfl
 refine Oa (AsV sl22 sz22 [vi 3] [vi 3]) fun c11 => ?_
 refine Jo 0 ?_; rintro a12 k13 rfl
 refine Oa (AsV sl22 sz22 [vi 3] [vi 3]) fun c14 => ?_
 refine Jo 0 ?_; rintro a15 k16 rfl
 refine Oa (AsV sl40 sz40 [.slice a9 2 k10, .slice a12 1 k13, .slice a15 1 k16, .slice none 0 0] [.slice a9 2 k10, .slice a12 1 k13, .slice a15 1 k16, .slice none 0 0]) fun c17 => ?_
 refine Jo 0 ?_; rintro a18 k19 rfl
 refine Oa (AsV sl22 sz22 [vi 0] [vi 0]) fun c20 => ?_
 refine Jo 0 ?_; rintro a21 k22 rfl
 refine Oa (AsV sl22 sz22 [vi 0] [vi 0]) fun c23 => ?_
 refine Jo 0 ?_; rintro a24 k25 rfl
 refine Oa (AsV sl22 sz22 [vi 1, vi 2] [vi 1, vi 2]) fun c26 => ?_
 refine Jo 0 ?_; rintro a27 k28 rfl
 refine Oa (AsV sl40 sz40 [.slice none 0 0, .slice a21 1 k22, .slice a24 1 k25, .slice a27 2 k28] [.slice none 0 0, .slice a21 1 k22, .slice a24 1 k25, .slice a27 2 k28]) fun c29 => ?_
 refine Jo 0 ?_; rintro a30 k31 rfl
 refine Oq (Vbd st42 [vl a4 k5 (List.replicate (4 : Int).toNat (default : GNode)), .slice a18 4 k19, .slice a30 4 k31]) (Ost (Scl [9] sh42 [vl a4 k5 (List.replicate (4 : Int).toNat (default : GNode)), .slice a18 4 k19, .slice a30 4 k31]) (KS ?_))
 refine Jl [9] (Ent.freeze _ _) ?_
 refine Jl [9] (Ent.crInt _ [1, 2] _ _ rfl rfl (by intro x hx; simp only [List.mem_cons, List.not_mem_nil, or_false] at hx; rcases hx with rfl | rfl <;> (unfold i64ok; omega)) aB1) ?_
 refine Jl [0] (Ent.freeze _ _) ?_
 refine Jl [9] (Ent.crInt _ [3] _ _ rfl rfl (by intro x hx; rw [List.mem_singleton] at hx; subst hx; unfold i64ok; omega) aB1) ?_
 refine Jl [0] (Ent.freeze _ _) ?_
 refine Jl [9] (Ent.crInt _ [3] _ _ rfl rfl (by intro x hx; rw [List.mem_singleton] at hx; subst hx; unfold i64ok; omega) aB1) ?_
 refine Jl [0] (Ent.freeze _ _) ?_
 refine Jl [9, 2, 1, 0] (Ent.crOs (α := List Int) (A := [sl (.slice a9 2 k10) ([1, 2] : List Int), sl (.slice a12 1 k13) ([3] : List Int), sl (.slice a15 1 k16) ([3] : List Int)]) _ ([[1, 2], [3], [3], ([] : List Int)] : List (List Int)) _ aB1 (fun h => ⟨[.slice a9 2 k10], [.slice a12 1 k13, .slice a15 1 k16, .slice none 0 0], rfl, (fun h => ⟨_, rfl, sepAll_get (i := 0) rfl h⟩) h, ⟨[.slice a12 1 k13], [.slice a15 1 k16, .slice none 0 0], rfl, (fun h => ⟨_, rfl, sepAll_get (i := 1) rfl h⟩) h, ⟨[.slice a15 1 k16], [.slice none 0 0], rfl, (fun h => ⟨_, rfl, sepAll_get (i := 2) rfl h⟩) h, ⟨[.slice none 0 0], [], rfl, (fun _ => ⟨_, rfl, slrd_nil⟩) h, rfl⟩⟩⟩⟩)) ?_
 refine Jl [0] (Ent.freeze _ _) ?_
 refine Jl [12] (Ent.crInt _ [0] _ _ rfl rfl (by intro x hx; rw [List.mem_singleton] at hx; subst hx; unfold i64ok; omega) aB1) ?_
 refine Jl [0] (Ent.freeze _ _) ?_
 refine Jl [12] (Ent.crInt _ [0] _ _ rfl rfl (by intro x hx; rw [List.mem_singleton] at hx; subst hx; unfold i64ok; omega) aB1) ?_
 refine Jl [0] (Ent.freeze _ _) ?_
 refine Jl [12] (Ent.crInt _ [1, 2] _ _ rfl rfl (by intro x hx; simp only [List.mem_cons, List.not_mem_nil, or_false] at hx; rcases hx with rfl | rfl <;> (unfold i64ok; omega)) aB1) ?_
 refine Jl [0] (Ent.freeze _ _) ?_
 refine Jl [12, 2, 1, 0] (Ent.crOs (α := List Int) (A := [sl (.slice a21 1 k22) ([0] : List Int), sl (.slice a24 1 k25) ([0] : List Int), sl (.slice a27 2 k28) ([1, 2] : List Int)]) _ ([([] : List Int), [0], [0], [1, 2]] : List (List Int)) _ aB1 (fun h => ⟨[.slice none 0 0], [.slice a21 1 k22, .slice a24 1 k25, .slice a27 2 k28], rfl, (fun _ => ⟨_, rfl, slrd_nil⟩) h, ⟨[.slice a21 1 k22], [.slice a24 1 k25, .slice a27 2 k28], rfl, (fun h => ⟨_, rfl, sepAll_get (i := 0) rfl h⟩) h, ⟨[.slice a24 1 k25], [.slice a27 2 k28], rfl, (fun h => ⟨_, rfl, sepAll_get (i := 1) rfl h⟩) h, ⟨[.slice a27 2 k28], [], rfl, (fun h => ⟨_, rfl, sepAll_get (i := 2) rfl h⟩) h, rfl⟩⟩⟩⟩)) ?_
 refine Jl [0] (Ent.freeze _ _) ?_
 have hq := rI H; subst hq
 exact Kr (vl a4 k5 (List.replicate (4 : Int).toNat (default : GNode)), .slice a18 4 k19, .slice a30 4 k31) rfl (.cellN 15 rfl sh42 rfl (reads_Cl _ _) rfl .nil) [14, 7, 0] trivial
theorem fn64 (l : List Int) (la0 : Option Addr) (lk0 : Nat) (n : Int) (hn_0 : i64ok n) (rr : Bool) (hrr : gh_ascending l n = .ret rr) : FT Tryd.prog 64 #[vl la0 lk0 l, vi n] [S la0 lk0 l] (fun g : Unit => True) (fun g => vb rr) (fun g => []) := by
 refine FTi Tryd.func64 fun w0 M0 F0 => ?_
 unfold i64ok at hn_0
 refine Fb 8 0 fun _ => Fo 0 fun ho2 => ?_
 have hx0 := lrn rr; have H := hrr; unfold gh_ascending at H
 refine KS ?_
 refine Oq Va (KS ?_)
 refine Oq Vm (Oq (Vlen sl22) (Oq Vm (KS ?_)))
 refine llH H hx0 fun X10 hX11 hx12 HL13 => ?_
 refine Kl (γ := Nat × Int) (fun (r3, v9_4) => ⟨[(0, vl la0 lk0 l), (1, vi n), (7, vl la0 lk0 l), (8, vi (l.length : Int)), (9, vi v9_4)], [S la0 lk0 l], gh_ascending_L0 l n r3 v9_4 = X10 ∧ r3 = ((l.length : Int) - v9_4).toNat ∧ (0 : Int) ≤ v9_4 ∧ v9_4 ≤ (l.length : Int) ∧ (-9223372036854775808 ≤ v9_4 ∧ v9_4 ≤ 9223372036854775807), r3⟩) (((l.length : Int) - 0).toNat, 0) [0] ⟨hX11, rfl, aM1, aM1, aM1⟩ ?_
 rintro ⟨r3, v9_4⟩ ⟨hM5, hr6, hi7, hi8, hk9⟩
 refine JJ_nx fun _ _ hL hA => ?_; dsimp only at hL hA; subst hL hA
 refine Fb 8 0 fun _ => Fo 0 fun ho15 => KS ?_
 refine Oq Vlss (KS ?_)
 refine Kc ?_ ?_
 ·intro h16
  have g17 := dt h16
  obtain ⟨r18, rfl⟩ := scc (n := r3) aM1
  have H := hM5; (try dsimp only at H); rw [gh_ascending_L0] at H
  refine KS ?_
  refine Oq Vm ?_
  refine pC H hx12 fun hc19 H => ?_
  refine Oq (Vi sl22 0) ?_
  have hb20 := ok1 (i := v9_4.toNat) ho15 rng
  refine Oq (VldI sh3 0) (Oq Va (Oq Va (KS ?_)))
  refine Oq Vm (Oq Vlss (Oq Vm ?_))
  refine pF H hx12 fun h21 H => ?_
  refine JsF 16 h21 ?_
  have g22 := df h21
  refine Oq Vm (Oq Vm (Oq Vgeq (Oq Vpf (Oq Vm ?_))))
  refine pF H hx12 fun h23 H => ?_
  refine JsF 21 h23 ?_
  have g24 := df h23
  refine Oq Vm (Oq Vgtr (Oq Vm ?_))
  refine JsH 24 H ?_ ?_
  ·intro h25 H
   have g26 := dt h25
   refine Oq Vm (Oq Vm (Oq Vm ?_))
   refine pC H hx12 fun hc27 H => ?_
   refine Oq Vsub ?_
   refine pC H hx12 fun hc28 H => ?_
   refine Oq (Vi sl22 0) ?_
   have hb29 := ok1 (i := ((v9_4 - 1) : Int).toNat) ho15 rng
   refine Oq (VldI sh3 0) (Oq Vleq (Oq Vpt (Oq Vpf (KS ?_))))
   refine pF H hx12 fun h30 H => ?_
   refine KcF h30 ?_
   have g31 := df h30
   refine KS ?_
   refine Oq Vadd (Oq Vm (KS ?_))
   refine pC H hx12 fun hc32 H => ?_
   exact Kg (r18, (v9_4 + 1)) [0] ⟨H, aM1, aM1, aM1, aM1⟩
  intro h25 H
  have g33 := df h25
  refine Osk (Osk (Osk (Osk (Osk (Osk (Osk (Oq Vpf (Oq Vpf (KS ?_)))))))))
  refine Kf (KS ?_)
  refine Oq Vadd (Oq Vm (KS ?_))
  refine pC H hx12 fun hc34 H => ?_
  exact Kg (r18, (v9_4 + 1)) [0] ⟨H, aM1, aM1, aM1, aM1⟩
 intro h16
 have g35 := df h16
 obtain rfl : r3 = 0 := by omega
 have H := hM5; (try dsimp only at H); rw [gh_ascending_L0] at H
 refine Ke ?_
 have H := llB H HL13
 refine KS ?_
 refine Oq Va (KS ?_)
 have hq := rI H; subst hq
 exact Kr () rfl (.tmp rfl .nil) [] trivial
theorem fn53 (l : List (List Int)) (la0 : Option Addr) (lk0 : Nat) (rr : Int) (hrr : gh_count l = .ret rr) : FT Tryd.prog 53 #[vl la0 lk0 l] [S la0 lk0 l] (fun g : Unit => i64ok rr) (fun g => vi rr) (fun g => []) := by
 refine FTi Tryd.func53 fun w0 M0 F0 => Fb 24 0 fun _ => ?_
 have hx0 := lrn rr; have H := hrr; unfold gh_count at H
 refine KS ?_
 refine Oq Va (KS ?_)
 refine Oq Va (KS ?_)
 refine Oq Vm (Oq (Vlen sl40) (Oq Vm (KS ?_)))
 refine llH H hx0 fun X11 hX12 hx13 HL14 => ?_
 refine Kl (γ := Nat × Int × Int) (fun (r2, edges_3, v8_4) => ⟨[(0, vl la0 lk0 l), (3, vi edges_3), (6, vl la0 lk0 l), (7, vi (l.length : Int)), (8, vi v8_4)], [S la0 lk0 l], gh_count_L0 l r2 edges_3 v8_4 = X11 ∧ r2 = ((l.length : Int) - v8_4).toNat ∧ (0 : Int) ≤ v8_4 ∧ v8_4 ≤ (l.length : Int) ∧ (-9223372036854775808 ≤ edges_3 ∧ edges_3 ≤ 9223372036854775807) ∧ (-9223372036854775808 ≤ v8_4 ∧ v8_4 ≤ 9223372036854775807), r2⟩) (((l.length : Int) - 0).toNat, 0, 0) [0] ⟨hX12, rfl, aM1, aM1, aM1, aM1⟩ ?_
 rintro ⟨r2, edges_3, v8_4⟩ ⟨hM5, hr6, hi7, hi8, hk9, hk10⟩
 refine JJ_nx fun _ _ hL hA => ?_; dsimp only at hL hA; subst hL hA
 refine Fb 24 0 fun _ => KS ?_
 refine Oq Vlss (KS ?_)
 refine Kc ?_ ?_
 ·intro h16
  have g17 := dt h16
  obtain ⟨r18, rfl⟩ := scc (n := r2) aM1
  have H := hM5; (try dsimp only at H); rw [gh_count_L0] at H
  refine KS ?_
  refine pC H hx13 fun hc19 H => ?_
  refine Oq (Vi sl40 0) ?_
  refine JJ_peekL v8_4.toNat 0 rfl rng fun a20 k21 => ?_
  refine Fb 8 1 fun _ => Fo 1 fun ho23 => ?_
  refine Oq (Vld sh22 0) (Oq Va (KS ?_))
  refine Oq Vm (Oq Vm (Oq (Vlen sl22) ?_))
  refine pC H hx13 fun hc24 H => ?_
  refine pC H hx13 fun hc25 H => ?_
  refine Oq Vadd (Oq Va (KS ?_))
  refine Oq Vm (Oq Vgtr (Oq Vm ?_))
  refine pF H hx13 fun h26 H => ?_
  refine JsF 18 h26 ?_
  have g27 := df h26
  refine Oq Vm (Oq Vm (Oq (Vlen sl40) ?_))
  refine lbH H hx13 fun rv28 hg29 H => ?_
  have hc30 := fn64 ((l.getD v8_4.toNat [])) a20 k21 ((l.length : Int)) pre rv28 hg29
  refine Oc [1] ca64 hc30 ?_
  rintro - -
  refine Oq Vnot (Oq Vpf (KS ?_))
  refine pF H hx13 fun h31 H => ?_
  refine KcF h31 ?_
  have h33 := not_false h31
  refine KS ?_
  refine Oq Vadd (Oq Vm (KS ?_))
  refine pC H hx13 fun hc35 H => ?_
  exact Kg (r18, (edges_3 + ((l.getD v8_4.toNat []).length : Int)), (v8_4 + 1)) [2] ⟨H, aM1, aM1, aM1, aM1, aM1⟩
 intro h16
 have g36 := df h16
 obtain rfl : r2 = 0 := by omega
 have H := hM5; (try dsimp only at H); rw [gh_count_L0] at H
 refine Ke ?_
 have H := llB H HL14
 refine KS ?_
 refine Oq Vm (Oq Va (KS ?_))
 have hq := rI H; subst hq
 exact Kr () rfl (.tmp rfl .nil) [] en
theorem fn65 (s : List Int) (sa0 : Option Addr) (sk0 : Nat) (v : Int) (hv_0 : i64ok v) (rr : Int) (hrr : sc_Index_int s v = .ret rr) : FT Tryd.prog 65 #[vl sa0 sk0 s, vi v] [S sa0 sk0 s] (fun g : Unit => i64ok rr) (fun g => vi rr) (fun g => []) := by
 refine FTi Tryd.func65 fun w0 M0 F0 => ?_
 unfold i64ok at hv_0
 refine Fb 8 0 fun _ => Fo 0 fun ho2 => ?_
 have hx0 := lrn rr; have H := hrr; unfold sc_Index_int at H
 refine KS ?_
 refine Oq Va (KS ?_)
 refine Oq Vm (Oq (Vlen sl22) (Oq Vm (KS ?_)))
 refine llH H hx0 fun X10 hX11 hx12 HL13 => ?_
 refine Kl (γ := Nat × Int) (fun (r3, v8_4) => ⟨[(0, vl sa0 sk0 s), (1, vi v), (7, vi (s.length : Int)), (8, vi v8_4)], [S sa0 sk0 s], sc_Index_int_L0 s v r3 v8_4 = X10 ∧ r3 = ((s.length : Int) - v8_4).toNat ∧ (0 : Int) ≤ v8_4 ∧ v8_4 ≤ (s.length : Int) ∧ (-9223372036854775808 ≤ v8_4 ∧ v8_4 ≤ 9223372036854775807), r3⟩) (((s.length : Int) - 0).toNat, 0) [0] ⟨hX11, rfl, aM1, aM1, aM1⟩ ?_
 rintro ⟨r3, v8_4⟩ ⟨hM5, hr6, hi7, hi8, hk9⟩
 refine JJ_nx fun _ _ hL hA => ?_; dsimp only at hL hA; subst hL hA
 refine Fb 8 0 fun _ => Fo 0 fun ho15 => KS ?_
 refine Oq Vlss (KS ?_)
 refine Kc ?_ ?_
 ·intro h16
  have g17 := dt h16
  obtain ⟨r18, rfl⟩ := scc (n := r3) aM1
  have H := hM5; (try dsimp only at H); rw [sc_Index_int_L0] at H
  refine KS ?_
  refine Oq Vm (Oq Va (KS ?_))
  refine Oq Vm (Oq Vm (Oq Vm ?_))
  refine pC H hx12 fun hc19 H => ?_
  refine Oq (Vi sl22 0) ?_
  have hb20 := ok1 (i := v8_4.toNat) ho15 rng
  refine Oq (VldI sh3 0) (Oq Veql (KS ?_))
  refine KcH H ?_ ?_
  ·intro h21 H
   have g22 := eq_of_beq h21
   refine KS ?_
   refine Oq Vm (Oq Va (KS ?_))
   have H := llR H HL13
   have hq := rI H; subst hq
   exact Kr () rfl (.tmp rfl .nil) [] en
  intro h21 H
  have g23 := ne_of_beq_false h21
  refine KS ?_
  refine Oq Vadd (Oq Vm (KS ?_))
  refine pC H hx12 fun hc24 H => ?_
  exact Kg (r18, (v8_4 + 1)) [0] ⟨H, aM1, aM1, aM1, aM1⟩
 intro h16
 have g25 := df h16
 obtain rfl : r3 = 0 := by omega
 have H := hM5; (try dsimp only at H); rw [sc_Index_int_L0] at H
 exact absurd H.symm hx12
theorem fn54 (s : List Int) (sa0 : Option Addr) (sk0 : Nat) (v : Int) (hv_0 : i64ok v) (rr : Bool) (hrr : sc_Contains_int s v = .ret rr) : FT Tryd.prog 54 #[vl sa0 sk0 s, vi v] [S sa0 sk0 s] (fun g : Unit => True) (fun g => vb rr) (fun g => []) := by
 refine FTi Tryd.func54 fun w0 M0 F0 => ?_
 unfold i64ok at hv_0
 refine Fb 8 0 fun _ => Fo 0 fun ho2 => ?_
 have hx0 := lrn rr; have H := hrr; unfold sc_Contains_int at H
 refine KS ?_
 refine Oq Va (KS ?_)
 refine Oq Vm (Oq Vm ?_)
 refine lbH H hx0 fun rv3 hg4 H => ?_
 have hc5 := fn65 s sa0 sk0 v pre rv3 hg4
 refine Oc [0] ca65 hc5 ?_
 rintro - he6
 unfold i64ok at he6
 refine Oq Vgeq (Oq Va (KS ?_))
 have hq := rI H; subst hq
 exact Kr () rfl (.tmp rfl .nil) [] trivial
theorem fn38 (g : GGraph) (ga0 : Option Addr) (gk0 : Nat) (ga1 : Option Addr) (gk1 : Nat) (ga2 : Option Addr) (gk2 : Nat) (rr : Bool) (hrr : gh_Valid g = .ret rr) : FT Tryd.prog 38 #[.agg #[vl ga0 gk0 g.Nodes, vl ga1 gk1 g.Succ, vl ga2 gk2 g.Pred]] [S ga0 gk0 g.Nodes, S ga1 gk1 g.Succ, S ga2 gk2 g.Pred] (fun g : Unit => True) (fun g => vb rr) (fun g => []) := by
 refine FTi Tryd.func38 fun w0 M0 F0 => Fb 32 0 fun _ => Fb 24 1 fun _ => Fb 24 2 fun _ => ?_
 have hx0 := lrn rr; have H := hrr; unfold gh_Valid at H
 refine KS ?_
 refine Oa (Ab [vl ga0 gk0 g.Nodes, vl ga1 gk1 g.Succ, vl ga2 gk2 g.Pred]) fun p4 => Oq Va (KS ?_)
 refine Oq (Vfa fo42_0 0) (Oq (VldF sh39 0) (Oq (Vlen sl39) (Oq Va (KS ?_))))
 refine Oq Vm (Oq Vlss (Oq Vm ?_))
 refine pF H hx0 fun h5 H => ?_
 refine JsF 14 h5 ?_
 have g6 := df h5
 refine Oq Vm (Oq Vgtr (Oq Vpf (Oq Vm ?_)))
 refine pF H hx0 fun h7 H => ?_
 refine JsF 18 h7 ?_
 have g8 := df h7
 refine Oq (Vfa fo42_1 0) (Oq (VldF sh40 0) (Oq (Vlen sl40) (Oq Vm (Oq Vneq (Oq Vpf (Oq Vm ?_))))))
 refine pF H hx0 fun h9 H => ?_
 refine JsF 25 h9 ?_
 have g10 := eq_of_bne_false h9
 refine Oq (Vfa fo42_2 0) (Oq (VldF sh40 0) (Oq (Vlen sl40) (Oq Vm (Oq Vneq (Oq Vpf (KS ?_))))))
 refine pF H hx0 fun h11 H => ?_
 refine KcF h11 ?_
 have g12 := eq_of_bne_false h11
 refine KS ?_
 refine Oq (Vfa fo42_1 0) (Oq (VldF sh40 0) ?_)
 refine lbH H hx0 fun rv13 hg14 H => ?_
 have hc15 := fn53 g.Succ ga1 gk1 rv13 hg14
 refine Oc [2] ca53 hc15 ?_
 rintro - he16
 unfold i64ok at he16
 refine Oq Va (KS ?_)
 refine Oq Vm (Oq Vlss (Oq Vm ?_))
 refine pF H hx0 fun h17 H => ?_
 refine JsF 37 h17 ?_
 have g18 := df h17
 refine Oq (Vfa fo42_2 0) (Oq (VldF sh40 0) ?_)
 refine lbH H hx0 fun rv19 hg20 H => ?_
 have hc21 := fn53 g.Pred ga2 gk2 rv19 hg20
 refine Oc [3] ca53 hc21 ?_
 rintro - he22
 unfold i64ok at he22
 refine Oq Vm (Oq Vneq (Oq Vpf (KS ?_)))
 refine pF H hx0 fun h23 H => ?_
 refine KcF h23 ?_
 have g24 := eq_of_bne_false h23
 refine KS ?_
 refine Oq (Vfa fo42_1 0) (Oq (VldF sh40 0) (Oq (Vlen sl40) (Oq Vm (KS ?_))))
 refine llH H hx0 fun X32 hX33 hx34 HL35 => ?_
 refine Kl (γ := Nat × Int) (fun (r25, v47_26) => ⟨[(1, p4), (45, vl ga1 gk1 g.Succ), (46, vi (g.Succ.length : Int)), (47, vi v47_26)], [pv p4 [vl ga0 gk0 g.Nodes, vl ga1 gk1 g.Succ, vl ga2 gk2 g.Pred], S ga0 gk0 g.Nodes, S ga1 gk1 g.Succ, S ga2 gk2 g.Pred], gh_Valid_L0 g r25 v47_26 = X32 ∧ r25 = ((g.Succ.length : Int) - v47_26).toNat ∧ (0 : Int) ≤ v47_26 ∧ v47_26 ≤ (g.Succ.length : Int) ∧ (-9223372036854775808 ≤ v47_26 ∧ v47_26 ≤ 9223372036854775807), r25⟩) (((g.Succ.length : Int) - 0).toNat, 0) [0, 1, 2, 3] ⟨hX33, rfl, aM1, aM1, aM1⟩ ?_
 rintro ⟨r25, v47_26⟩ ⟨hM27, hr28, hi29, hi30, hk31⟩
 refine JJ_nx fun _ _ hL hA => ?_; dsimp only at hL hA; subst hL hA
 refine Fb 32 1 fun _ => Fb 24 2 fun _ => Fb 24 3 fun _ => KS ?_
 refine Oq Vlss (KS ?_)
 refine Kc ?_ ?_
 ·intro h39
  have g40 := dt h39
  obtain ⟨r41, rfl⟩ := scc (n := r25) aM1
  have H := hM27; (try dsimp only at H); rw [gh_Valid_L0] at H
  refine KS ?_
  refine Oq Vm ?_
  refine pC H hx34 fun hc42 H => ?_
  refine Oq (Vi sl40 2) ?_
  refine JJ_peekL v47_26.toNat 2 rfl rng fun a43 k44 => ?_
  refine Fb 8 1 fun _ => Fo 1 fun ho46 => ?_
  refine Oq (Vld sh22 0) (Oq Va (Oq Va (KS ?_)))
  refine Oq Vm (Oq (Vlen sl22) (Oq Vm (KS ?_)))
  refine pC H hx34 fun hc54 H => ?_
  refine llH H hx34 fun X55 hX56 hx57 HL58 => ?_
  refine Kl (γ := Nat × Int) (fun (r47, v54_48) => ⟨[(1, p4), (45, vl ga1 gk1 g.Succ), (46, vi (g.Succ.length : Int)), (47, vi v47_26), (5, vi v47_26), (52, vl a43 k44 (g.Succ.getD v47_26.toNat [])), (53, vi ((g.Succ.getD v47_26.toNat []).length : Int)), (54, vi v54_48)], [S a43 k44 ((g.Succ.getD v47_26.toNat []) : List Int), pv p4 [vl ga0 gk0 g.Nodes, vl ga1 gk1 g.Succ, vl ga2 gk2 g.Pred], S ga0 gk0 g.Nodes, S ga1 gk1 g.Succ, S ga2 gk2 g.Pred], gh_Valid_L1 g v47_26 (g.Succ.getD v47_26.toNat []) r47 v54_48 = X55 ∧ r47 = ((((g.Succ.getD v47_26.toNat []).length : Int) : Int) - v54_48).toNat ∧ (0 : Int) ≤ v54_48 ∧ (v54_48 ≤ ((g.Succ.getD v47_26.toNat []).length : Int) ∨ v54_48 = 0) ∧ (-9223372036854775808 ≤ v54_48 ∧ v54_48 ≤ 9223372036854775807), r47⟩) (((((g.Succ.getD v47_26.toNat []).length : Int) : Int) - 0).toNat, 0) [1, 2, 3, 4, 5] ⟨hX56, rfl, aM1, (.inr rfl), aM1⟩ ?_
  rintro ⟨r47, v54_48⟩ ⟨hM49, hr50, hi51, hi52, hk53⟩
  refine JJ_nx fun _ _ hL hA => ?_; dsimp only at hL hA; subst hL hA
  refine Fb 8 0 fun _ => Fo 0 fun ho60 => Fb 32 2 fun _ => Fb 24 3 fun _ => Fb 24 4 fun _ => KS ?_
  refine Oq Vlss (KS ?_)
  refine Kc ?_ ?_
  ·intro h64
   have g65 := dt h64
   obtain ⟨r66, rfl⟩ := scc (n := r47) aM1
   have H := hM49; (try dsimp only at H); rw [gh_Valid_L1] at H
   refine KS ?_
   refine pC H hx57 fun hc67 H => ?_
   refine Oq (Vi sl22 0) ?_
   have hb68 := ok1 (i := v54_48.toNat) ho60 rng
   refine Oq (VldI sh3 0) (Oq Va (KS ?_))
   refine Oq (Vfa fo42_2 1) (Oq (VldF sh40 1) (Oq Vm ?_))
   refine pC H hx57 fun hc69 H => ?_
   refine Oq (Vi sl40 4) ?_
   refine JJ_peekL (((g.Succ.getD v47_26.toNat []).getD v54_48.toNat 0) : Int).toNat 4 rfl rng fun a70 k71 => ?_
   refine Fb 8 1 fun _ => Fo 1 fun ho73 => ?_
   refine Oq (Vld sh22 0) (Oq Vm ?_)
   refine pC H hx57 fun hc76 H => ?_
   refine lbH H hx57 fun rv74 hg75 H => ?_
   have hc77 := fn54 ((g.Pred.getD (((g.Succ.getD v47_26.toNat []).getD v54_48.toNat 0) : Int).toNat [])) a70 k71 v47_26 pre rv74 hg75
   refine Oc [1] ca54 hc77 ?_
   rintro - -
   refine Oq Vnot (KS ?_)
   refine pF H hx57 fun h78 H => ?_
   refine KcF h78 ?_
   have h80 := not_false h78
   refine KS ?_
   refine Oq Vadd (Oq Vm (KS ?_))
   refine pC H hx57 fun hc82 H => ?_
   exact Kg (r66, (v54_48 + 1)) [2, 3, 4, 5, 6] ⟨H, aM1, aM1, aM1, aM1⟩
  intro h64
  have g83 := df h64
  obtain rfl : r47 = 0 := by omega
  have H := hM49; (try dsimp only at H); rw [gh_Valid_L1] at H
  refine Ke ?_
  have H := llB H HL58
  refine KS ?_
  refine Oq Vadd (Oq Vm (KS ?_))
  refine pC H hx34 fun hc84 H => ?_
  exact Kg (r41, (v47_26 + 1)) [1, 2, 3, 4] ⟨H, aM1, aM1, aM1, aM1⟩
 intro h39
 have g85 := df h39
 obtain rfl : r25 = 0 := by omega
 have H := hM27; (try dsimp only at H); rw [gh_Valid_L0] at H
 refine Ke ?_
 have H := llB H HL35
 refine KS ?_
 refine Oq Va (KS ?_)
 have hq := rI H; subst hq
 exact Kr () rfl (.tmp rfl .nil) [] trivial
theorem fn22 (g : GGraph) (ga0 : Option Addr) (gk0 : Nat) (ga1 : Option Addr) (gk1 : Nat) (ga2 : Option Addr) (gk2 : Nat) (at_ : List Cpx) (at_a0 : Option Addr) (at_k0 : Nat) (rr : List Gedge) (hrr : layout_edges g at_ = .ret rr) : FT Tryd.prog 22 #[.agg #[vl ga0 gk0 g.Nodes, vl ga1 gk1 g.Succ, vl ga2 gk2 g.Pred], vl at_a0 at_k0 at_] [S ga0 gk0 g.Nodes, S ga1 gk1 g.Succ, S ga2 gk2 g.Pred, S at_a0 at_k0 at_] (fun g : Value => True) (fun g => g) (fun g => [os g rr]) := by
 refine FTi Tryd.func22 fun w0 M0 F0 => Fb 32 0 fun _ => Fb 24 1 fun _ => Fb 24 2 fun _ => Fb 16 3 fun _ => ?_
 have hx0 := lrn rr; have H := hrr; unfold layout_edges at H
 refine KS ?_
 refine Oa (Ab [vl ga0 gk0 g.Nodes, vl ga1 gk1 g.Succ, vl ga2 gk2 g.Pred]) fun p5 => Oq Va (KS ?_)
 refine Oq (VldA sh42 0) ?_
 refine lbH H hx0 fun rv6 hg7 H => ?_
 have hc8 := fn38 g ga0 gk0 ga1 gk1 ga2 gk2 rv6 hg7
 refine Oc [1, 2, 3] ca38 hc8 ?_
 rintro - -
 refine Oq Vnot (Oq Vm ?_)
 refine pF H hx0 fun h9 H => ?_
 refine JsF 13 h9 ?_
 have h11 := not_false h9
 refine Oq Vm (Oq (Vlen sl30) (Oq (Vfa fo42_0 0) (Oq (VldF sh39 0) (Oq (Vlen sl39) (Oq Vneq (Oq Vpf (Oq Vm ?_)))))))
 refine pF H hx0 fun h13 H => ?_
 refine JsF 21 h13 ?_
 have g14 := eq_of_bne_false h13
 refine Oq Vm ?_
 refine lvH H fun rv15 hg16 H => ?_
 have hc17 := fn18 at_ at_a0 at_k0 rv15 hg16
 refine Oc [4] ca18 hc17 ?_
 rintro - -
 refine Oq Vnot (Oq Vpf (KS ?_))
 refine pF H hx0 fun h18 H => ?_
 refine KcF h18 ?_
 have h20 := not_false h18
 refine KS ?_
 refine Oq Va (KS ?_)
 refine Oq (Vfa fo42_1 0) (Oq (VldF sh40 0) (Oq (Vlen sl40) (Oq Vm (KS ?_))))
 refine Jl [] (Ent.osNil (α := Gedge)) ?_
 refine llH H hx0 fun X32 hX33 hx34 HL35 => ?_
 refine Kl (γ := Nat × List Gedge × Int × Option Addr × Nat) (fun (r22, l_23, v29_24, a25, k26) => ⟨[(1, vl at_a0 at_k0 at_), (5, vl a25 k26 l_23), (27, vl ga1 gk1 g.Succ), (28, vi (g.Succ.length : Int)), (29, vi v29_24)], [O a25 k26 l_23, S ga1 gk1 g.Succ, S at_a0 at_k0 at_], layout_edges_L0 g at_ r22 l_23 v29_24 = X32 ∧ r22 = ((g.Succ.length : Int) - v29_24).toNat ∧ (0 : Int) ≤ v29_24 ∧ v29_24 ≤ (g.Succ.length : Int) ∧ (-9223372036854775808 ≤ v29_24 ∧ v29_24 ≤ 9223372036854775807), r22⟩) (((g.Succ.length : Int) - 0).toNat, [], 0, none, 0) [0, 2, 4] ⟨hX33, rfl, aM1, aM1, aM1⟩ ?_
 rintro ⟨r22, l_23, v29_24, a25, k26⟩ ⟨hM27, hr28, hi29, hi30, hk31⟩
 refine JJ_nx fun _ _ hL hA => ?_; dsimp only at hL hA; subst hL hA
 refine Fb 32 0 fun _ => Fb 24 1 fun _ => Fb 16 2 fun _ => KS ?_
 refine Oq Vlss (KS ?_)
 refine Kc ?_ ?_
 ·intro h39
  have g40 := dt h39
  obtain ⟨r41, rfl⟩ := scc (n := r22) aM1
  have H := hM27; (try dsimp only at H); rw [layout_edges_L0] at H
  refine KS ?_
  refine Oq Vm ?_
  refine pC H hx34 fun hc42 H => ?_
  refine Oq (Vi sl40 1) ?_
  refine JJ_peekL v29_24.toNat 1 rfl rng fun a43 k44 => ?_
  refine Fb 8 1 fun _ => Fo 1 fun ho46 => ?_
  refine Oq (Vld sh22 0) (Oq Va (Oq Va (KS ?_)))
  refine Oq Vm (Oq (Vlen sl22) (Oq Vm (KS ?_)))
  refine pC H hx34 fun hc57 H => ?_
  refine llH H hx34 fun X58 hX59 hx60 HL61 => ?_
  refine Kl (γ := Nat × List Gedge × Int × Option Addr × Nat) (fun (r47, l_48, v36_49, a50, k51) => ⟨[(1, vl at_a0 at_k0 at_), (5, vl a50 k51 l_48), (27, vl ga1 gk1 g.Succ), (28, vi (g.Succ.length : Int)), (29, vi v29_24), (6, vi v29_24), (34, vl a43 k44 (g.Succ.getD v29_24.toNat [])), (35, vi ((g.Succ.getD v29_24.toNat []).length : Int)), (36, vi v36_49)], [O a50 k51 l_48, S a43 k44 ((g.Succ.getD v29_24.toNat []) : List Int), S ga1 gk1 g.Succ, S at_a0 at_k0 at_], layout_edges_L1 at_ v29_24 (g.Succ.getD v29_24.toNat []) r47 l_48 v36_49 = X58 ∧ r47 = ((((g.Succ.getD v29_24.toNat []).length : Int) : Int) - v36_49).toNat ∧ (0 : Int) ≤ v36_49 ∧ (v36_49 ≤ ((g.Succ.getD v29_24.toNat []).length : Int) ∨ v36_49 = 0) ∧ (-9223372036854775808 ≤ v36_49 ∧ v36_49 ≤ 9223372036854775807), r47⟩) (((((g.Succ.getD v29_24.toNat []).length : Int) : Int) - 0).toNat, l_23, 0, a25, k26) [2, 1, 2, 3] ⟨hX59, rfl, aM1, (.inr rfl), aM1⟩ ?_
  rintro ⟨r47, l_48, v36_49, a50, k51⟩ ⟨hM52, hr53, hi54, hi55, hk56⟩
  refine JJ_nx fun _ _ hL hA => ?_; dsimp only at hL hA; subst hL hA
  refine Fb 32 0 fun _ => Fb 8 1 fun _ => Fo 1 fun ho64 => Fb 24 2 fun _ => Fb 16 3 fun _ => KS ?_
  refine Oq Vlss (KS ?_)
  refine Kc ?_ ?_
  ·intro h67
   have g68 := dt h67
   obtain ⟨r69, rfl⟩ := scc (n := r47) aM1
   have H := hM52; (try dsimp only at H); rw [layout_edges_L1] at H
   refine KS ?_
   refine pC H hx60 fun hc70 H => ?_
   refine Oq (Vi sl22 1) ?_
   have hb71 := ok1 (i := v36_49.toNat) ho64 rng
   refine Oq (VldI sh3 1) (Oq Va (KS ?_))
   refine Oq Vm (Oq Vm ?_)
   refine pC H hx60 fun hc72 H => ?_
   refine Oq (Vi sl30 3) (Oq (VldCx sh37 3) (Oq (VneC (a := (at_.getD v29_24.toNat default)) (b := (Cpx.mk 13830554455654793216#64 0#64))) (Oq Vm ?_)))
   refine pT H hx60 fun h73 H => ?_
   refine JsT 45 h73 ?_
   have h75 := not_true h73
   refine Oq Vm (Oq Vm ?_)
   refine pC H hx60 fun hc77 H => ?_
   refine Oq (Vi sl30 3) (Oq (VldCx sh37 3) (Oq (VneC (a := (at_.getD (((g.Succ.getD v29_24.toNat []).getD v36_49.toNat 0) : Int).toNat default)) (b := (Cpx.mk 13830554455654793216#64 0#64))) (Oq Vpt (KS ?_))))
   refine pT H hx60 fun h78 H => ?_
   refine KcT h78 ?_
   have h80 := not_true h78
   refine JK_drawK [0, 0, 0, 6, 14, 0, 0, 96, 224, 510, 1022, 2047, 4095] fmix ?_
   refine Dv [] Vm (Dv [] Vm (Dv [] Vm (Dv [3] (Vi sl30 0) (Dv [3] (VldCx sh37 0) (Dv [] Vm (Dv [] Vm (Dv [3] (Vi sl30 0) (Dv [3] (VldCx sh37 0) (Dv [] (Vbd st63 [cxv (at_.getD v29_24.toNat default), cxv (at_.getD (((g.Succ.getD v29_24.toNat []).getD v36_49.toNat 0) : Int).toNat default)]) ?_)))))))))
   refine Dx [] [] [0] (fun G => (G.g 10 0)) [fun G => Cr (G.g 10 0) 1 [cxv (at_.getD v29_24.toNat default), cxv (at_.getD (((g.Succ.getD v29_24.toNat []).getD v36_49.toNat 0) : Int).toNat default)]] (fun G => xA (AsV sl60 sz60 [.agg #[cxv (at_.getD v29_24.toNat default), cxv (at_.getD (((g.Succ.getD v29_24.toNat []).getD v36_49.toNat 0) : Int).toNat default)]] [cxv (at_.getD v29_24.toNat default), cxv (at_.getD (((g.Succ.getD v29_24.toNat []).getD v36_49.toNat 0) : Int).toNat default)])) ?_
   refine pC H hx60 fun hc83 H => ?_
   refine pC H hx60 fun hc84 H => ?_
   refine pC H hx60 fun hc85 H => ?_
   have hn87 := la l_48 ([(Gedge.mk (at_.getD v29_24.toNat default) (at_.getD (((g.Succ.getD v29_24.toNat []).getD v36_49.toNat 0) : Int).toNat default))] : List Gedge)
   refine Dx [0, 4] [0, 4] [0] (fun G => (G.g 11 0)) [fun G => os (G.g 11 0) ((l_48 ++ [(Gedge.mk (at_.getD v29_24.toNat default) (at_.getD (((g.Succ.getD v29_24.toNat []).getD v36_49.toNat 0) : Int).toNat default))]) : List Gedge)] (fun G => xp [1] rfl (Ent.cr1 (α := Gedge) (A := []) _ (Gedge.mk (at_.getD v29_24.toNat default) (at_.getD (((g.Succ.getD v29_24.toNat []).getD v36_49.toNat 0) : Int).toNat default)) _ aB1 (fun h => ⟨rfl, trivial⟩)) (xA (ApO [1, 0] sl60 sl60 sz60))) (Dg [] (fun G => (G.g 11 0)) (fun G => Va) ?_)
   refine Dn ⟨by kernel_rfl, fun G => ?_⟩
   refine Jw2 [(1, vl at_a0 at_k0 at_), (27, vl ga1 gk1 g.Succ), (28, vi (g.Succ.length : Int)), (29, vi v29_24), (6, vi v29_24), (34, vl a43 k44 (g.Succ.getD v29_24.toNat [])), (35, vi ((g.Succ.getD v29_24.toNat []).length : Int)), (36, vi v36_49), (5, (G.g 11 0))] [1, 2, 3] [os (G.g 11 0) ((l_48 ++ [(Gedge.mk (at_.getD v29_24.toNat default) (at_.getD (((g.Succ.getD v29_24.toNat []).getD v36_49.toNat 0) : Int).toNat default))]) : List Gedge)] ?_
   generalize G.g 11 0 = c86
   refine Jo 3 ?_; rintro a88 k89 rfl
   refine Fb 32 3 fun _ => KS ?_
   refine Oq Vadd (Oq Vm (KS ?_))
   refine pC H hx60 fun hc91 H => ?_
   exact Kg (r69, (l_48 ++ [(Gedge.mk (at_.getD v29_24.toNat default) (at_.getD (((g.Succ.getD v29_24.toNat []).getD v36_49.toNat 0) : Int).toNat default))]), (v36_49 + 1), a88, k89) [3, 0, 1, 2] ⟨H, aM1, aM1, aM1, aM1⟩
  intro h67
  have g92 := df h67
  obtain rfl : r47 = 0 := by omega
  have H := hM52; (try dsimp only at H); rw [layout_edges_L1] at H
  refine Ke ?_
  have H := llB H HL61
  refine KS ?_
  refine Oq Vadd (Oq Vm (KS ?_))
  refine pC H hx34 fun hc93 H => ?_
  exact Kg (r41, l_48, (v29_24 + 1), a50, k51) [0, 1, 2] ⟨H, aM1, aM1, aM1, aM1⟩
 intro h39
 have g94 := df h39
 obtain rfl : r22 = 0 := by omega
 have H := hM27; (try dsimp only at H); rw [layout_edges_L0] at H
 refine Ke ?_
 have H := llB H HL35
 refine KS ?_
 refine Oq Vm (Oq Va (KS ?_))
 have hq := rI H; subst hq
 exact Kr (vl a25 k26 l_23) rfl (.tmp rfl .nil) [0] trivial
theorem fn41 (s : List Gedge) (sa0 : Option Addr) (sk0 : Nat) (fF : FuncId) (fC : List Value) (fp : Gedge → LR Unit Bool) (fA : List SP) (hfc : callable Tryd.prog fF = true) (hfF : ∀ x ∈ s, ∀ r, fp x = .ret r → FT Tryd.prog fF ([(.agg #[cxv x.from_, cxv x.to_] : Value)] ++ fC).toArray ([] ++ [pAll fA]) (fun _ : Unit => True) (fun _ => .bool r) (fun _ => [])) (rr : Int) (hrr : sc_IndexFunc_edge s fp = .ret rr) : FT Tryd.prog 41 #[vl sa0 sk0 s, .func (.func fF) #[] fC.toArray] [S sa0 sk0 s, pAll fA] (fun g : Unit => i64ok rr) (fun g => vi rr) (fun g => []) := by
 refine FTi Tryd.func41 fun w0 M0 F0 => Fb 32 0 fun _ => ?_
 have hx0 := lrn rr; have H := hrr; unfold sc_IndexFunc_edge at H
 refine KS ?_
 refine Oq Va (KS ?_)
 refine Oq Vm (Oq (Vlen sl60) (Oq Vm (KS ?_)))
 refine llH H hx0 fun X9 hX10 hx11 HL12 => ?_
 refine Kl (γ := Nat × Int) (fun (r2, v8_3) => ⟨[(0, vl sa0 sk0 s), (1, .func (.func fF) #[] fC.toArray), (7, vi (s.length : Int)), (8, vi v8_3)], [S sa0 sk0 s, pAll fA], sc_IndexFunc_edge_L0 s fp r2 v8_3 = X9 ∧ r2 = ((s.length : Int) - v8_3).toNat ∧ (0 : Int) ≤ v8_3 ∧ v8_3 ≤ (s.length : Int) ∧ (-9223372036854775808 ≤ v8_3 ∧ v8_3 ≤ 9223372036854775807), r2⟩) (((s.length : Int) - 0).toNat, 0) [0, 1] ⟨hX10, rfl, aM1, aM1, aM1⟩ ?_
 rintro ⟨r2, v8_3⟩ ⟨hM4, hr5, hi6, hi7, hk8⟩
 refine JJ_nx fun _ _ hL hA => ?_; dsimp only at hL hA; subst hL hA
 refine Fb 32 0 fun _ => KS ?_
 refine Oq Vlss (KS ?_)
 refine Kc ?_ ?_
 ·intro h14
  have g15 := dt h14
  obtain ⟨r16, rfl⟩ := scc (n := r2) aM1
  have H := hM4; (try dsimp only at H); rw [sc_IndexFunc_edge_L0] at H
  refine KS ?_
  refine Oq Vm (Oq Va (KS ?_))
  refine Oq Vm (Oq Vm (Oq Vm ?_))
  refine pC H hx11 fun hc17 H => ?_
  refine Oq (Vi sl60 0) ?_
  refine JJ_peek_Gedge v8_3.toNat 0 rfl rng ?_
  refine Oq (VldA sh63 0) ?_
  refine pC H hx11 fun hc20 H => ?_
  refine lbH H hx11 fun rv18 hg19 H => ?_
  refine JO_call [2] rfl rfl rfl (OpC.clo (asv := [(.agg #[cxv ((s.getD v8_3.toNat default).from_), cxv ((s.getD v8_3.toNat default).to_)] : Value)] ++ fC) rfl rfl hfc rfl (by simp)) (hfF (s.getD v8_3.toNat default) (getD_mem rng)   rv18 hg19) rfl fun _ _ => ?_
  refine KS ?_
  refine pF H hx11 fun h21 H => ?_
  refine KcF h21 ?_
  refine KS ?_
  refine Oq Vadd (Oq Vm (KS ?_))
  refine pC H hx11 fun hc23 H => ?_
  exact Kg (r16, (v8_3 + 1)) [1, 2] ⟨H, aM1, aM1, aM1, aM1⟩
 intro h14
 have g24 := df h14
 obtain rfl : r2 = 0 := by omega
 have H := hM4; (try dsimp only at H); rw [sc_IndexFunc_edge_L0] at H
 refine Ke ?_
 have H := llB H HL12
 refine KS ?_
 refine Oq Va (KS ?_)
 have hq := rI H; subst hq
 exact Kr () rfl (.tmp rfl .nil) [] en
theorem fn24 (s : List Gedge) (sa0 : Option Addr) (sk0 : Nat) (delF : FuncId) (delC : List Value) (delp : Gedge → LR Unit Bool) (delA : List SP) (hdelc : callable Tryd.prog delF = true) (hdelF : ∀ x ∈ s, ∀ r, delp x = .ret r → FT Tryd.prog delF ([(.agg #[cxv x.from_, cxv x.to_] : Value)] ++ delC).toArray ([] ++ [pAll delA]) (fun _ : Unit => True) (fun _ => .bool r) (fun _ => [])) (rr : List Gedge) (hrr : sc_DeleteFunc_edge s delp = .ret rr) : FT Tryd.prog 24 #[vl sa0 sk0 s, .func (.func delF) #[] delC.toArray] [O sa0 sk0 s, pAll delA] (fun g : Value => True) (fun g => g) (fun g => [sl g rr]) := by
 refine FTi Tryd.func24 fun w0 M0 F0 => Fb 32 0 fun _ => ?_
 have hx0 := lrn rr; have H := hrr; unfold sc_DeleteFunc_edge at H
 refine KS ?_
 refine Oq Va (KS ?_)
 refine Oq Vm (Oq Vm ?_)
 refine lbH H hx0 fun rv2 hg3 H => ?_
 refine Oc [0, 0] ca41 (FT_borrow (A := _) (fun _ _ h => by cases h) (FT_ent (Ent.take (is := [0, 1]) rfl) (fn41 s sa0 sk0 delF delC delp delA hdelc hdelF rv2 hg3))) ?_ (ht := rfl)
 rintro - he4
 unfold i64ok at he4
 refine Oq Va (KS ?_)
 refine Oq Vm (Oq Veql (KS ?_))
 refine pT H hx0 fun h5 H => ?_
 refine KcT h5 ?_
 have g6 := eq_of_beq h5
 refine KS ?_
 refine Oq Vm (Oq Va (KS ?_))
 refine Jl [0] (Ent.freeze _ _) ?_
 have hq := rI H; subst hq
 exact Kr (vl sa0 sk0 s) rfl (.tmp rfl .nil) [0] trivial
theorem fn25 (e : Gedge) (rr : Bool) (hrr : layout_Crossings_1 e = .ret rr) : FT Tryd.prog 25 #[.agg #[cxv e.from_, cxv e.to_]] [] (fun g : Unit => True) (fun g => vb rr) (fun g => []) := by
 refine FTi Tryd.func25 fun w0 M0 F0 => ?_
 have hx0 := lrn rr; have H := hrr; unfold layout_Crossings_1 at H
 refine KS ?_
 refine Oa (Ab [cxv e.from_, cxv e.to_]) fun p1 => Oq Va (KS ?_)
 refine Oq (Vfa fo63_1 0) (Oq (VldF sh37 0) (Oq (Vim (a := e.to_)) (Oq (Vfa fo63_0 0) (Oq (VldF sh37 0) (Oq (Vim (a := e.from_)) ?_)))))
 refine pC H hx0 fun hc2 H => ?_
 refine Oq (VaddF (a := (Flo.mk e.from_.im)) (b := (Flo.mk 4607182418800017408#64)) (h := hc2)) (Oq (VneF (a := (Flo.mk e.to_.im)) (b := (fadd (Flo.mk e.from_.im) (Flo.mk 4607182418800017408#64)))) (Oq Va (KS ?_)))
 have hq := rI H; subst hq
 exact Kr () rfl (.tmp rfl .nil) [] trivial
theorem fn14 (g : GGraph) (ga0 : Option Addr) (gk0 : Nat) (ga1 : Option Addr) (gk1 : Nat) (ga2 : Option Addr) (gk2 : Nat) (at_ : List Cpx) (at_a0 : Option Addr) (at_k0 : Nat) (rr : Int) (hrr : layout_Crossings g at_ = .ret rr) : FT Tryd.prog 14 #[.agg #[vl ga0 gk0 g.Nodes, vl ga1 gk1 g.Succ, vl ga2 gk2 g.Pred], vl at_a0 at_k0 at_] [S ga0 gk0 g.Nodes, S ga1 gk1 g.Succ, S ga2 gk2 g.Pred, S at_a0 at_k0 at_] (fun g : Unit => i64ok rr) (fun g => vi rr) (fun g => []) := by
 refine FTi Tryd.func14 fun w0 M0 F0 => Fb 32 0 fun _ => Fb 24 1 fun _ => Fb 24 2 fun _ => Fb 16 3 fun _ => ?_
 have hx0 := lrn rr; have H := hrr; unfold layout_Crossings at H
 refine KS ?_
 refine Oa (Ab [vl ga0 gk0 g.Nodes, vl ga1 gk1 g.Succ, vl ga2 gk2 g.Pred]) fun p5 => Oq Va (KS ?_)
 refine Oq (VldA sh42 0) (Oq Vm ?_)
 refine lbH H hx0 fun rv7 hg8 H => ?_
 have hc9 := fn22 g ga0 gk0 ga1 gk1 ga2 gk2 at_ at_a0 at_k0 rv7 hg8
 refine Oc [1, 2, 3, 4] ca22 hc9 ?_
 rintro c6 -
 refine Jo 0 ?_; rintro a10 k11 rfl
 refine Fb 32 0 fun _ => ?_
 refine JJ_ent (Ent.pall [] rfl rfl) ?_
 refine lbH H hx0 fun rv14 hg15 H => ?_
 have hc16 := fn24 rv7 a10 k11 25 [] (fun x => layout_Crossings_1 x) [] ca25 (fun x hx  r hr => FT_pall (A1 := _) (fn25 x    r hr)) rv14 hg15
 refine Oc [1, 0] ca24 hc16 ?_
 rintro c13 -
 refine Jo 0 ?_; rintro a17 k18 rfl
 refine Fb 32 0 fun _ => ?_
 refine Oq Va (KS ?_)
 refine Oq Va (KS ?_)
 refine Oq Vm (Oq (Vlen sl60) (Oq Vm (KS ?_)))
 refine llH H hx0 fun X27 hX28 hx29 HL30 => ?_
 refine Kl (γ := Nat × Int) (fun (r20, v17_21) => ⟨[(5, vl a17 k18 rv14), (6, vi 0), (15, vl a17 k18 rv14), (16, vi (rv14.length : Int)), (17, vi v17_21)], [S a17 k18 rv14, pAll []], layout_Crossings_L0 rv14 rv14 r20 v17_21 = X27 ∧ r20 = ((rv14.length : Int) - v17_21).toNat ∧ (0 : Int) ≤ v17_21 ∧ v17_21 ≤ (rv14.length : Int) ∧ (-9223372036854775808 ≤ v17_21 ∧ v17_21 ≤ 9223372036854775807), r20⟩) (((rv14.length : Int) - 0).toNat, 0) [0, 1] ⟨hX28, rfl, aM1, aM1, aM1⟩ ?_
 rintro ⟨r20, v17_21⟩ ⟨hM22, hr23, hi24, hi25, hk26⟩
 refine JJ_nx fun _ _ hL hA => ?_; dsimp only at hL hA; subst hL hA
 refine Fb 32 0 fun _ => KS ?_
 refine Oq Vlss (KS ?_)
 refine Kc ?_ ?_
 ·intro h32
  have g33 := dt h32
  obtain ⟨r34, rfl⟩ := scc (n := r20) aM1
  have H := hM22; (try dsimp only at H); rw [layout_Crossings_L0] at H
  refine KS ?_
  refine pC H hx29 fun hc35 H => ?_
  refine Oq (Vi sl60 0) ?_
  refine JJ_peek_Gedge v17_21.toNat 0 rfl rng ?_
  refine Oq (VldA sh63 0) (Oa (Al ze63 [cxv (Cpx.mk 0#64 0#64), cxv (Cpx.mk 0#64 0#64)]) fun p36 => Ost (Scl [0] sh63 [cxv ((rv14.getD v17_21.toNat default).from_), cxv ((rv14.getD v17_21.toNat default).to_)]) (KS ?_))
  refine Oq Vm (Oq (Vlen sl60) (Oq Vm (KS ?_)))
  refine pC H hx29 fun hc44 H => ?_
  refine llH H hx29 fun X45 hX46 hx47 HL48 => ?_
  refine Kl (γ := Nat × Int) (fun (r37, v23_38) => ⟨[(5, vl a17 k18 rv14), (6, vi 0), (15, vl a17 k18 rv14), (16, vi (rv14.length : Int)), (17, vi v17_21), (8, p36), (21, vl a17 k18 rv14), (22, vi (rv14.length : Int)), (23, vi v23_38)], [Cl p36 [cxv ((rv14.getD v17_21.toNat default).from_), cxv ((rv14.getD v17_21.toNat default).to_)], S a17 k18 rv14, pAll []], layout_Crossings_L1 ((rv14.getD v17_21.toNat default).from_) ((rv14.getD v17_21.toNat default).to_) rv14 r37 v23_38 = X45 ∧ r37 = ((rv14.length : Int) - v23_38).toNat ∧ (0 : Int) ≤ v23_38 ∧ v23_38 ≤ (rv14.length : Int) ∧ (-9223372036854775808 ≤ v23_38 ∧ v23_38 ≤ 9223372036854775807), r37⟩) (((rv14.length : Int) - 0).toNat, 0) [0, 1, 2] ⟨hX46, rfl, aM1, aM1, aM1⟩ ?_
  rintro ⟨r37, v23_38⟩ ⟨hM39, hr40, hi41, hi42, hk43⟩
  refine JJ_nx fun _ _ hL hA => ?_; dsimp only at hL hA; subst hL hA
  refine Fb 32 1 fun _ => KS ?_
  refine Oq Vlss (KS ?_)
  refine Kc ?_ ?_
  ·intro h50
   have g51 := dt h50
   obtain ⟨r52, rfl⟩ := scc (n := r37) aM1
   have H := hM39; (try dsimp only at H); rw [layout_Crossings_L1] at H
   refine KS ?_
   refine pC H hx47 fun hc53 H => ?_
   refine Oq (Vi sl60 1) ?_
   refine JJ_peek_Gedge v23_38.toNat 1 rfl rng ?_
   refine Oq (VldA sh63 0) (Oa (Al ze63 [cxv (Cpx.mk 0#64 0#64), cxv (Cpx.mk 0#64 0#64)]) fun p54 => Ost (Scl [0] sh63 [cxv ((rv14.getD v23_38.toNat default).from_), cxv ((rv14.getD v23_38.toNat default).to_)]) (KS ?_))
   refine Oq (Vfa fo63_0 2) (Oq (VldF sh37 2) (Oq (Vim (a := (rv14.getD v17_21.toNat default).from_)) (Oq (Vfa fo63_0 0) (Oq (VldF sh37 0) (Oq (Vim (a := (rv14.getD v23_38.toNat default).from_)) (Oq (VeqF (a := (Flo.mk ((rv14.getD v17_21.toNat default).from_).im)) (b := (Flo.mk ((rv14.getD v23_38.toNat default).from_).im))) (Oq Vm ?_)))))))
   refine pC H hx47 fun hc56 H => ?_
   refine JsH 34 H ?_ ?_
   ·intro h55 H
    refine Oq (Vfa fo63_0 2) (Oq (VldF sh37 2) (Oq (Vre (a := (rv14.getD v17_21.toNat default).from_)) (Oq (Vfa fo63_0 0) (Oq (VldF sh37 0) (Oq (Vre (a := (rv14.getD v23_38.toNat default).from_)) (Oq (VltF (a := (Flo.mk ((rv14.getD v17_21.toNat default).from_).re)) (b := (Flo.mk ((rv14.getD v23_38.toNat default).from_).re))) (Oq Vpt (Oq Vm ?_))))))))
    refine JsH 43 H ?_ ?_
    ·intro h58 H
     refine Oq (Vfa fo63_1 2) (Oq (VldF sh37 2) (Oq (Vre (a := (rv14.getD v17_21.toNat default).to_)) (Oq (Vfa fo63_1 0) (Oq (VldF sh37 0) (Oq (Vre (a := (rv14.getD v23_38.toNat default).to_)) (Oq (VgtF (a := (Flo.mk ((rv14.getD v17_21.toNat default).to_).re)) (b := (Flo.mk ((rv14.getD v23_38.toNat default).to_).re))) (Oq Vpt (KS ?_))))))))
     refine pF H hx47 fun h60 H => ?_
     refine KcF h60 ?_
     refine KS ?_
     refine Oq Vadd (Oq Vm (KS ?_))
     refine pC H hx47 fun hc62 H => ?_
     exact Kg (r52, (v23_38 + 1)) [2, 2, 3] ⟨H, aM1, aM1, aM1, aM1⟩
    intro h58 H
    refine Osk (Osk (Osk (Osk (Osk (Osk (Osk (Oq Vpf (KS ?_))))))))
    refine Kf (KS ?_)
    refine Oq Vadd (Oq Vm (KS ?_))
    refine pC H hx47 fun hc64 H => ?_
    exact Kg (r52, (v23_38 + 1)) [2, 2, 3] ⟨H, aM1, aM1, aM1, aM1⟩
   intro h55 H
   refine Osk (Osk (Osk (Osk (Osk (Osk (Osk (Oq Vpf (Oq Vm (Osk ?_)))))))))
   refine Osk (Osk (Osk (Osk (Osk (Osk (Oq Vpf (KS ?_)))))))
   refine Kf (KS ?_)
   refine Oq Vadd (Oq Vm (KS ?_))
   refine pC H hx47 fun hc66 H => ?_
   exact Kg (r52, (v23_38 + 1)) [2, 2, 3] ⟨H, aM1, aM1, aM1, aM1⟩
  intro h50
  have g67 := df h50
  obtain rfl : r37 = 0 := by omega
  have H := hM39; (try dsimp only at H); rw [layout_Crossings_L1] at H
  refine Ke ?_
  have H := llB H HL48
  refine KS ?_
  refine Oq Vadd (Oq Vm (KS ?_))
  refine pC H hx29 fun hc68 H => ?_
  exact Kg (r34, (v17_21 + 1)) [1, 2] ⟨H, aM1, aM1, aM1, aM1⟩
 intro h32
 have g69 := df h32
 obtain rfl : r20 = 0 := by omega
 have H := hM22; (try dsimp only at H); rw [layout_Crossings_L0] at H
 refine Ke ?_
 have H := llB H HL30
 refine KS ?_
 refine Oq Vm (Oq Va (KS ?_))
 have hq := rI H; subst hq
 exact Kr () rfl (.tmp rfl .nil) [] en
theorem fn31 (g : GGraph) (ga0 : Option Addr) (gk0 : Nat) (ga1 : Option Addr) (gk1 : Nat) (ga2 : Option Addr) (gk2 : Nat) (root : Int) (hroot_0 : i64ok root) (rr : Int) (hrr : layout_check g root = .ret rr) : FT Tryd.prog 31 #[.agg #[vl ga0 gk0 g.Nodes, vl ga1 gk1 g.Succ, vl ga2 gk2 g.Pred], vi root] [S ga0 gk0 g.Nodes, S ga1 gk1 g.Succ, S ga2 gk2 g.Pred] (fun g : Unit => i64ok rr) (fun g => vi rr) (fun g => []) := by
 refine FTi Tryd.func31 fun w0 M0 F0 => ?_
 unfold i64ok at hroot_0
 refine Fb 32 0 fun _ => Fb 24 1 fun _ => Fb 24 2 fun _ => ?_
 have hx0 := lrn rr; have H := hrr; unfold layout_check at H
 refine KS ?_
 refine Oa (Ab [vl ga0 gk0 g.Nodes, vl ga1 gk1 g.Succ, vl ga2 gk2 g.Pred]) fun p4 => Oq Va (KS ?_)
 refine Oq (VldA sh42 0) ?_
 refine lbH H hx0 fun rv5 hg6 H => ?_
 have hc7 := fn38 g ga0 gk0 ga1 gk1 ga2 gk2 rv5 hg6
 refine Oc [1, 2, 3] ca38 hc7 ?_
 rintro - -
 refine Oq Vnot (Oq Va (KS ?_))
 refine pF H hx0 fun h8 H => ?_
 refine KcF h8 ?_
 have h10 := not_false h8
 refine KS ?_
 refine Oq Vm (Oq Vlss (Oq Vm ?_))
 refine pF H hx0 fun h12 H => ?_
 refine JsF 12 h12 ?_
 have g13 := df h12
 refine Oq Vm (Oq (Vfa fo42_0 0) (Oq (VldF sh39 0) (Oq (Vlen sl39) (Oq Vgeq (Oq Vpf (Oq Va (KS ?_)))))))
 refine pF H hx0 fun h14 H => ?_
 refine KcF h14 ?_
 have g15 := df h14
 refine KS ?_
 refine Oq Va (KS ?_)
 have hq := rI H; subst hq
 exact Kr () rfl (.tmp rfl .nil) [] en
theorem fn57 (x : BitVec 64) (y : BitVec 64) (rr : BitVec 64 × BitVec 64) (hrr : bits_Mul64 x y = .ret rr) : FT Tryd.prog 57 #[u64 x, u64 y] [] (fun g : Unit => True) (fun g => .tuple #[u64 rr.1, u64 rr.2]) (fun g => []) := by
 refine FTi Tryd.func57 fun w0 M0 F0 => ?_
 have hx0 := lrn rr; have H := hrr; unfold bits_Mul64 at H
 refine KS ?_
 refine Oq Va (Oq Va (KS ?_))
 refine Oq Vm (Oq (VandU (b := 4294967295#64)) (Oq Va (KS ?_)))
 refine Oq Vm (Oq VshrU (Oq Va (KS ?_)))
 refine Oq Vm (Oq (VandU (b := 4294967295#64)) (Oq Va (KS ?_)))
 refine Oq Vm (Oq VshrU (Oq Va (KS ?_)))
 refine Oq Vm (Oq Vm (Oq VmulU (Oq Va (KS ?_))))
 refine Oq Vm (Oq Vm (Oq VmulU (Oq Vm (Oq VshrU (Oq VaddU (Oq Va (KS ?_)))))))
 refine Oq Vm (Oq (VandU (b := 4294967295#64)) (Oq Va (KS ?_)))
 refine Oq Vm (Oq VshrU (Oq Va (KS ?_)))
 refine Oq Vm (Oq Vm (Oq Vm (Oq VmulU (Oq VaddU (Oq Va (KS ?_))))))
 refine Oq Vm (Oq Vm (Oq VmulU (Oq Vm (Oq VaddU (Oq Vm (Oq VshrU (Oq VaddU (Oq Va (KS ?_)))))))))
 refine Oq Vm (Oq Vm (Oq VmulU (Oq Va (KS ?_))))
 have hq := rI H; subst hq
 exact Kr () rfl (.tmp rfl (.tmp rfl .nil)) [] trivial
theorem fn45 (x : BitVec 64) (y : BitVec 64) (rr : BitVec 64 × BitVec 64) (hrr : bits_Mul x y = .ret rr) : FT Tryd.prog 45 #[u64 x, u64 y] [] (fun g : Unit => True) (fun g => .tuple #[u64 rr.1, u64 rr.2]) (fun g => []) := by
 refine FTi Tryd.func45 fun w0 M0 F0 => ?_
 have hx0 := lrn rr; have H := hrr; unfold bits_Mul at H
 refine KS ?_
 refine Oq Va (Oq Va (KS ?_))
 refine Kf (KS ?_)
 refine Oq Vm (Oq Vm ?_)
 refine lbH H hx0 fun rv1 hg2 H => ?_
 have hc3 := fn57 x y rv1 hg2
 refine Oc [] ca57 hc3 ?_
 rintro - -
 refine Oq Vm (Oq Vx (Oq Vx (Oq Va (Oq Va (KS ?_)))))
 refine Oq Vm (Oq Vm (Oq Va (Oq Va (KS ?_))))
 have hq := rI H; subst hq
 exact Kr () rfl (.tmp rfl (.tmp rfl .nil)) [] trivial
theorem fn32 (x : List Cpx) (xa0 : Option Addr) (xk0 : Nat) (count : Int) (hcount_0 : i64ok count) (rr : List Cpx) (hrr : sc_Repeat_complex128 x count = .ret rr) : FT Tryd.prog 32 #[vl xa0 xk0 x, vi count] [S xa0 xk0 x] (fun g : Value => True) (fun g => g) (fun g => [os g rr]) := by
 refine FTi Tryd.func32 fun w0 M0 F0 => ?_
 unfold i64ok at hcount_0
 refine Fb 16 0 fun _ => ?_
 have hx0 := lrn rr; have H := hrr; unfold sc_Repeat_complex128 at H
 refine KS ?_
 refine Oq Va (KS ?_)
 refine Oq Vm (Oq Vlss (KS ?_))
 refine pF H hx0 fun h2 H => ?_
 refine KcF h2 ?_
 have g3 := df h2
 refine KS ?_
 refine Oq Vm (Oq (Vlen sl30) (Oq (VcU un3 un68) (Oq Vm (Oq (VcU un3 un68) ?_))))
 refine lbH H hx0 fun rv4 hg5 H => ?_
 have hc6 := fn45 ((BitVec.ofInt 64 (x.length : Int))) ((BitVec.ofInt 64 count)) rv4 hg5
 refine Oc [] ca45 hc6 ?_
 rintro - -
 refine Oq Vm (Oq Vx (Oq Vx (Oq Va (Oq Va (KS ?_)))))
 refine Oq Vm (Oq (Vgtr (a := (rv4.1.toNat : Int)) (b := 0)) (Oq Vm ?_))
 refine pF H hx0 fun h7 H => ?_
 refine JsF 23 h7 ?_
 have g8 := df h7
 refine Oq Vm (Oq (Vgtr (a := (rv4.2.toNat : Int)) (b := 9223372036854775807)) (Oq Vpf (KS ?_)))
 refine pF H hx0 fun h9 H => ?_
 refine KcF h9 ?_
 have g10 := df h9
 refine KS ?_
 refine Oq Vm ?_
 refine pC H hx0 fun hc11 H => ?_
 refine Oq (VcN un68 un3) ?_
 refine pC H hx0 fun hc12 H => ?_
 refine Oa (Amk (α := Cpx) sl30 sz30 (default : Cpx) zrd_Cpx) fun c13 => ?_
 refine Jo 0 ?_; rintro a14 k15 rfl
 refine Fb 16 0 fun _ => ?_
 have hn17 := List.length_replicate (n := ((rv4.2.toNat : Int) : Int).toNat) (a := ((default : Cpx) : Cpx))
 refine Oq Va (KS ?_)
 refine Oq Vm (Oq Vm (Oa (OpA.frame [0, 0] rfl (OpA.copyS (α := Cpx) rfl rfl rfl sl30 rfl)) fun u18 => ?_))
 have hn19 : (x.take (List.replicate ((rv4.2.toNat : Int) : Int).toNat (default : Cpx)).length ++ (List.replicate ((rv4.2.toNat : Int) : Int).toNat (default : Cpx)).drop x.length).length = (List.replicate ((rv4.2.toNat : Int) : Int).toNat (default : Cpx)).length := len_copy _ _
 have hb20 : Nat.min x.length (List.replicate ((rv4.2.toNat : Int) : Int).toNat (default : Cpx)).length ≤ x.length := Nat.min_le_left _ _
 refine Oq Va (KS ?_)
 refine Fl 0 fun hn21 => ?_; (try unfold vl); rw [show Value.slice a14 ((List.replicate ((rv4.2.toNat : Int) : Int).toNat (default : Cpx)).length) k15 = Value.slice a14 (((x.take (List.replicate ((rv4.2.toNat : Int) : Int).toNat (default : Cpx)).length ++ (List.replicate ((rv4.2.toNat : Int) : Int).toNat (default : Cpx)).drop x.length) : List Cpx).length) k15 from by rw [hn21]]
 refine llH H hx0 fun X29 hX30 hx31 HL32 => ?_
 refine Kl (γ := Nat × List Cpx × Int × Option Addr × Nat) (fun (r22, newslice_23, n_24, a25, k26) => ⟨[(7, vl a25 k26 newslice_23), (8, vi n_24)], [O a25 k26 newslice_23], sc_Repeat_complex128_L0 r22 newslice_23 n_24 = X29 ∧ (-9223372036854775808 ≤ n_24 ∧ n_24 ≤ 9223372036854775807), r22⟩) (100000, (x.take (List.replicate ((rv4.2.toNat : Int) : Int).toNat (default : Cpx)).length ++ (List.replicate ((rv4.2.toNat : Int) : Int).toNat (default : Cpx)).drop x.length), (Nat.min x.length (List.replicate ((rv4.2.toNat : Int) : Int).toNat (default : Cpx)).length : Int), a14, k15) [0] ⟨hX30, aM1⟩ ?_
 rintro ⟨r22, newslice_23, n_24, a25, k26⟩ ⟨hM27, hk28⟩
 refine JJ_nx fun _ _ hL hA => ?_; dsimp only at hL hA; subst hL hA
 refine Fb 16 0 fun _ => ?_
 rcases r22 with _ | r22
 ·exact absurd (hM27.symm.trans rfl) hx31
 have H := hM27; (try dsimp only at H); rw [sc_Repeat_complex128_L0] at H
 refine KS ?_
 refine Oq Vm (Oq Vm (Oq (Vlen sl30) (Oq Vlss (KS ?_))))
 refine KcH H ?_ ?_
 ·intro h34 H
  have g35 := dt h34
  refine KS ?_
  refine JK_drawK [0, 0, 0, 6, 0, 0, 48, 126, 255, 511] fmix ?_
  refine Dv [] Vm (Dv [] Vm (Dv [] Vm ?_))
  refine pC H hx31 fun hc36 H => ?_
  refine Dv [0] (VslQ sl30 0 (n_24.toNat)) (Dv [] Vm (Dv [] Vm (Dv [0] (VslP sl30 0 (n_24.toNat)) ?_)))
  refine pC H hx31 fun hc37 H => ?_
  refine pC H hx31 fun hc38 H => ?_
  have hn40 := dbl_len newslice_23 (n_24.toNat) rng
  refine Dx [0] [0] [0] (fun G => vi ((min (n_24.toNat) (newslice_23.length - (n_24.toNat)) : Nat) : Int)) [fun G => os (vl a25 k26 newslice_23) (dbl newslice_23 (n_24.toNat))] (fun G => xA (Adbl [0] sl30 (n_24.toNat))) ?_
  refine pC H hx31 fun hc41 H => ?_
  refine Dv [] Vadd (Dv [] Va ?_)
  refine Dn ⟨by kernel_rfl, fun G => ?_⟩
  refine Jw2 [(7, vl a25 k26 newslice_23), (8, vi (n_24 + ((min (n_24.toNat) (newslice_23.length - (n_24.toNat)) : Nat) : Int)))] [] [os (vl a25 k26 newslice_23) (dbl newslice_23 (n_24.toNat))] ?_
  refine KS ?_
  refine Fl 0 fun hn42 => ?_; (try unfold vl); rw [show Value.slice a25 newslice_23.length k26 = Value.slice a25 ((dbl newslice_23 (n_24.toNat)).length) k26 from by rw [hn42]]
  exact Kg (r22, (dbl newslice_23 (n_24.toNat)), (n_24 + ((min (n_24.toNat) (newslice_23.length - (n_24.toNat)) : Nat) : Int)), a25, k26) [0] ⟨H, aM1⟩
 intro h34 H
 have g43 := df h34
 refine Ke ?_
 have H := llB H HL32
 refine KS ?_
 refine Oq Vm (Oq Va (KS ?_))
 have hq := rI H; subst hq
 exact Kr (vl a25 k26 newslice_23) rfl (.tmp rfl .nil) [0] trivial
theorem fn66 (data : List Int) (dataa0 : Option Addr) (datak0 : Nat) (a : Int) (b : Int) (cmpF : FuncId) (cmpC : List Value) (cmpp : Int → Int → LR Unit Int) (cmpA : List SP) (ha_0 : i64ok a) (hb_0 : i64ok b) (hcmpc : callable Tryd.prog cmpF = true) (hcmpF : ∀ x0 x1, i64ok x0 → i64ok x1 → ∀ r, (cmpp x0 x1) = .ret r → FT Tryd.prog cmpF ([vi x0, vi x1] ++ cmpC).toArray ([] ++ [pAll cmpA]) (fun _ : Unit => i64ok r) (fun _ => vi r) (fun _ => [])) (rr : List Int) (hrr : sc_insertionSortCmpFunc_int data a b cmpp = .ret rr) : FT Tryd.prog 66 #[vl dataa0 datak0 data, vi a, vi b, .func (.func cmpF) #[] cmpC.toArray] [O dataa0 datak0 data, pAll cmpA] (fun g : Unit => True) (fun g => .tuple #[]) (fun g => [os (vl dataa0 datak0 data) rr]) := by
 refine FTi Tryd.func66 fun w0 M0 F0 => ?_
 unfold i64ok at ha_0 hb_0
 refine Fb 8 0 fun _ => Fo 0 fun ho2 => ?_
 have hx0 := lrn rr; have H := hrr; unfold sc_insertionSortCmpFunc_int at H
 refine KS ?_
 refine Oq Vm ?_
 refine pC H hx0 fun hc3 H => ?_
 refine Oq Vadd (Oq Va (KS ?_))
 refine llH H hx0 fun X11 hX12 hx13 HL14 => ?_
 refine Kl (γ := Nat × Int) (fun (r4, i_5) => ⟨[(0, vl dataa0 datak0 data), (1, vi a), (2, vi b), (3, .func (.func cmpF) #[] cmpC.toArray), (8, vi i_5)], [O dataa0 datak0 data, pAll cmpA], sc_insertionSortCmpFunc_int_L0 data a cmpp r4 i_5 = X11 ∧ r4 = ((b : Int) - i_5).toNat ∧ ((a + 1) : Int) ≤ i_5 ∧ (i_5 ≤ b ∨ i_5 = (a + 1)) ∧ (-9223372036854775808 ≤ i_5 ∧ i_5 ≤ 9223372036854775807), r4⟩) (((b : Int) - (a + 1)).toNat, (a + 1)) [0, 0] ⟨hX12, rfl, aM1, (.inr rfl), aM1⟩ ?_
 rintro ⟨r4, i_5⟩ ⟨hM6, hr7, hi8, hi9, hk10⟩
 refine JJ_nx fun _ _ hL hA => ?_; dsimp only at hL hA; subst hL hA
 refine Fb 8 0 fun _ => Fo 0 fun ho16 => KS ?_
 refine Oq Vm (Oq Vm (Oq Vlss (KS ?_)))
 refine Kc ?_ ?_
 ·intro h17
  have g18 := dt h17
  obtain ⟨r19, rfl⟩ := scc (n := r4) aM1
  have H := hM6; (try dsimp only at H); rw [sc_insertionSortCmpFunc_int_L0] at H
  refine KS ?_
  refine Oq Vm (Oq Va (KS ?_))
  refine llH H hx13 fun X22 hX23 hx24 HL25 => ?_
  refine Kl (γ := Nat) (fun r20 => ⟨[(0, vl dataa0 datak0 data), (1, vi a), (2, vi b), (3, .func (.func cmpF) #[] cmpC.toArray), (8, vi i_5), (9, vi i_5)], [O dataa0 datak0 data, pAll cmpA], sc_insertionSortCmpFunc_int_L1 data a cmpp i_5 r20 = X22, r20⟩) 1 [0, 0] hX23 ?_
  rintro r20 hM21
  refine JJ_nx fun _ _ hL hA => ?_; dsimp only at hL hA; subst hL hA
  refine Fb 8 0 fun _ => Fo 0 fun ho27 => ?_
  rcases r20 with _ | r20
  ·exact absurd (hM21.symm.trans rfl) hx24
  have H := hM21; (try dsimp only at H); rw [sc_insertionSortCmpFunc_int_L1] at H
  refine KS ?_
  refine JK_drawK [0, 0, 3, 7, 15, 15, 15, 111, 239, 15, 15, 1039, 3599, 7695, 16383, 32767, 65535] fmix ?_
  refine Dv [] Vm (Dv [] Vm (Dv [] Vgtr ?_))
  refine pT H hx24 fun h28 H => ?_
  have g29 := dt h28
  refine Db h28 [] Vm (Dv [] Vm (Dv [] Vm (Dv [] Vm ?_)))
  refine pC H hx24 fun hc30 H => ?_
  refine Dv [0] (Vi sl22 0) ?_
  have hb31 := ok1 (i := i_5.toNat) ho27 rng
  refine Dv [0] (VldI sh3 0) (Dv [] Vm (Dv [] Vm ?_))
  refine pC H hx24 fun hc32 H => ?_
  refine Dv [] Vsub ?_
  refine pC H hx24 fun hc33 H => ?_
  refine Dv [0] (Vi sl22 0) ?_
  have hb34 := ok1 (i := ((i_5 - 1) : Int).toNat) ho27 rng
  refine Dv [0] (VldI sh3 0) ?_
  refine lbH H hx24 fun rv35 hg36 H => ?_
  refine Dx [1] [] [1, 0] (fun G => vi rv35) [fun G => SP.fact (i64ok rv35)] (fun G => xE (asv := [(vi (data.getD i_5.toNat 0) : Value), (vi (data.getD ((i_5 - 1) : Int).toNat 0) : Value)] ++ cmpC) [0] hcmpc rfl rfl rfl (by simp) rfl (hcmpF (data.getD i_5.toNat 0) (data.getD ((i_5 - 1) : Int).toNat 0)  pre pre rv35 hg36)) (Dv [] Vlss (Dv [] Vpt ?_))
  refine Dn ⟨by kernel_rfl, fun G => ?_⟩
  refine Jw2 [(0, vl dataa0 datak0 data), (1, vi a), (2, vi b), (3, .func (.func cmpF) #[] cmpC.toArray), (8, vi i_5), (9, vi i_5), (34, vb (decide (rv35 < 0)))] [0, 1] [SP.fact (i64ok rv35)] ?_
  refine Jf 2 rfl ?_; rintro he37
  unfold i64ok at he37
  refine Jk [0, 0] ?_
  refine pF H hx24 fun h38 H => ?_
  refine KcF h38 ?_
  have g39 := df h38
  refine Ke ?_
  have H := llB H HL25
  refine KS ?_
  refine Oq Vm (Oq Vadd (Oq Va (KS ?_)))
  refine pC H hx13 fun hc40 H => ?_
  exact Kg (r19, (i_5 + 1)) [0, 0] ⟨H, aM1, aM1, aM1, aM1⟩
 intro h17
 have g41 := df h17
 obtain rfl : r4 = 0 := by omega
 have H := hM6; (try dsimp only at H); rw [sc_insertionSortCmpFunc_int_L0] at H
 refine Ke ?_
 have H := llB H HL14
 have hq := rI H; subst hq
 exact Kz () rfl .nil [0] trivial
theorem fn58 (data : List Int) (dataa0 : Option Addr) (datak0 : Nat) (a : Int) (b : Int) (limit : Int) (cmpF : FuncId) (cmpC : List Value) (cmpp : Int → Int → LR Unit Int) (cmpA : List SP) (ha_0 : i64ok a) (hb_0 : i64ok b) (hlimit_0 : i64ok limit) (hcmpc : callable Tryd.prog cmpF = true) (hcmpF : ∀ x0 x1, i64ok x0 → i64ok x1 → ∀ r, (cmpp x0 x1) = .ret r → FT Tryd.prog cmpF ([vi x0, vi x1] ++ cmpC).toArray ([] ++ [pAll cmpA]) (fun _ : Unit => i64ok r) (fun _ => vi r) (fun _ => [])) (rr : List Int) (hrr : sc_pdqsortCmpFunc_int data a b limit cmpp = .ret rr) : FT Tryd.prog 58 #[vl dataa0 datak0 data, vi a, vi b, vi limit, .func (.func cmpF) #[] cmpC.toArray] [O dataa0 datak0 data, pAll cmpA] (fun g : Unit => True) (fun g => .tuple #[]) (fun g => [os (vl dataa0 datak0 data) rr]) := by
 refine FTi Tryd.func58 fun w0 M0 F0 => ?_
 unfold i64ok at ha_0 hb_0 hlimit_0
 refine Fb 8 0 fun _ => Fo 0 fun ho2 => ?_
 have hx0 := lrn rr; have H := hrr; unfold sc_pdqsortCmpFunc_int at H
 refine KS ?_
 refine Oq Va (KS ?_)
 refine Oq Va (KS ?_)
 refine llH H hx0 fun X5 hX6 hx7 HL8 => ?_
 refine Kl (γ := Nat) (fun r3 => ⟨[(0, vl dataa0 datak0 data), (1, vi a), (2, vi b), (3, vi limit), (4, .func (.func cmpF) #[] cmpC.toArray), (10, vb true), (11, vb true)], [O dataa0 datak0 data, pAll cmpA], sc_pdqsortCmpFunc_int_L0 data a b cmpp r3 = X5, r3⟩) 1 [0, 0] hX6 ?_
 rintro r3 hM4
 refine JJ_nx fun _ _ hL hA => ?_; dsimp only at hL hA; subst hL hA
 refine Fb 8 0 fun _ => Fo 0 fun ho10 => ?_
 rcases r3 with _ | r3
 ·exact absurd (hM4.symm.trans rfl) hx7
 have H := hM4; (try dsimp only at H); rw [sc_pdqsortCmpFunc_int_L0] at H
 refine KS ?_
 refine Oq Vm (Oq Vm ?_)
 refine pC H hx7 fun hc11 H => ?_
 refine Oq Vsub (Oq Va (KS ?_))
 refine Oq Vm (Oq Vleq (KS ?_))
 refine pT H hx7 fun h12 H => ?_
 refine KcT h12 ?_
 have g13 := dt h12
 refine KS ?_
 refine Oq Vm (Oq Vm (Oq Vm (Oq Vm ?_)))
 refine lbH H hx7 fun rv14 hg15 H => ?_
 have hc16 := fn66 data dataa0 datak0 a b cmpF cmpC cmpp cmpA pre pre hcmpc hcmpF rv14 hg15
 refine Oc [0, 0] ca66 hc16 ?_
 rintro - -
 refine Fb 8 0 fun _ => Fo 0 fun ho18 => KS ?_
 refine Fl 0 fun hn19 => ?_
 have H := llR H HL8
 have hq := rI H; subst hq
 exact Kr () rfl .nil [0] trivial
theorem fn75 (x : BitVec 64) (rr : Int) (hrr : bits_Len64 x = .ret rr) : FT Tryd.prog 75 #[u64 x] [] (fun g : Unit => i64ok rr) (fun g => vi rr) (fun g => []) := by
 refine FTi Tryd.func75 fun w0 M0 F0 => ?_
 have hx0 := lrn rr; have H := hrr; unfold bits_Len64 at H
 refine KS ?_
 refine Oq Va (KS ?_)
 refine Oq Vm (Oq (Vgeq (a := (x.toNat : Int)) (b := 4294967296)) (KS ?_))
 refine pF H hx0 fun h1 H => ?_
 refine KcF h1 ?_
 have g2 := df h1
 refine KS ?_
 refine Oq Vm (Oq (Vgeq (a := (x.toNat : Int)) (b := 65536)) (KS ?_))
 refine pF H hx0 fun h3 H => ?_
 refine KcF h3 ?_
 have g4 := df h3
 refine KS ?_
 refine Oq Vm (Oq (Vgeq (a := (x.toNat : Int)) (b := 256)) (KS ?_))
 refine pF H hx0 fun h5 H => ?_
 refine KcF h5 ?_
 have g6 := df h5
 refine KS ?_
 refine Oq Vm (Oq Vm (Oq (VcU8 un88 un5) ?_))
 refine pC H hx0 fun hc7 H => ?_
 refine Oq (Vix un9 (l := tab0)) ?_
 have hb8 := u8b (tab0.b.getD ((x.toNat : Int) : Int).toNat 0)
 refine Oq (VcK un5 un3) ?_
 refine pC H hx0 fun hc9 H => ?_
 refine Oq Vadd (Oq Va (KS ?_))
 have hq := rI H; subst hq
 exact Kr () rfl (.tmp rfl .nil) [] en
theorem fn59 (x : BitVec 64) (rr : Int) (hrr : bits_Len x = .ret rr) : FT Tryd.prog 59 #[u64 x] [] (fun g : Unit => i64ok rr) (fun g => vi rr) (fun g => []) := by
 refine FTi Tryd.func59 fun w0 M0 F0 => ?_
 have hx0 := lrn rr; have H := hrr; unfold bits_Len at H
 refine KS ?_
 refine Oq Va (KS ?_)
 refine Kf (KS ?_)
 refine Oq Vm ?_
 refine lbH H hx0 fun rv1 hg2 H => ?_
 have hc3 := fn75 x rv1 hg2
 refine Oc [] ca75 hc3 ?_
 rintro - he4
 unfold i64ok at he4
 refine Oq Va (KS ?_)
 have hq := rI H; subst hq
 exact Kr () rfl (.tmp rfl .nil) [] en
theorem fn46 (x : List Int) (xa0 : Option Addr) (xk0 : Nat) (cmpF : FuncId) (cmpC : List Value) (cmpp : Int → Int → LR Unit Int) (cmpA : List SP) (hcmpc : callable Tryd.prog cmpF = true) (hcmpF : ∀ x0 x1, i64ok x0 → i64ok x1 → ∀ r, (cmpp x0 x1) = .ret r → FT Tryd.prog cmpF ([vi x0, vi x1] ++ cmpC).toArray ([] ++ [pAll cmpA]) (fun _ : Unit => i64ok r) (fun _ => vi r) (fun _ => [])) (rr : List Int) (hrr : sc_SortFunc_int x cmpp = .ret rr) : FT Tryd.prog 46 #[vl xa0 xk0 x, .func (.func cmpF) #[] cmpC.toArray] [O xa0 xk0 x, pAll cmpA] (fun g : Unit => True) (fun g => .tuple #[]) (fun g => [os (vl xa0 xk0 x) rr]) := by
 refine FTi Tryd.func46 fun w0 M0 F0 => Fb 8 0 fun _ => Fo 0 fun ho2 => ?_
 have hx0 := lrn rr; have H := hrr; unfold sc_SortFunc_int at H
 refine KS ?_
 refine Oq Vm (Oq (Vlen sl22) (Oq Va (KS ?_)))
 refine Oq Vm (Oq Vm (Oq Vm (Oq (VcU un3 un68) ?_)))
 refine lbH H hx0 fun rv3 hg4 H => ?_
 have hc5 := fn59 ((BitVec.ofInt 64 (x.length : Int))) rv3 hg4
 refine Oc [] ca59 hc5 ?_
 rintro - he6
 unfold i64ok at he6
 refine Oq Vm ?_
 refine lbH H hx0 fun rv7 hg8 H => ?_
 have hc9 := fn58 x xa0 xk0 0 ((x.length : Int)) rv3 cmpF cmpC cmpp cmpA pre pre pre hcmpc hcmpF rv7 hg8
 refine Oc [0, 0] ca58 hc9 ?_
 rintro - -
 refine Fb 8 0 fun _ => Fo 0 fun ho11 => KS ?_
 refine Fl 0 fun hn12 => ?_
 have hq := rI H; subst hq
 exact Kz () rfl .nil [0] trivial
theorem fn48 (vals : List Int) (valsa0 : Option Addr) (valsk0 : Nat) (rr : Int) (hrr : cmp_Or_int vals = .ret rr) : FT Tryd.prog 48 #[vl valsa0 valsk0 vals] [S valsa0 valsk0 vals] (fun g : Unit => i64ok rr) (fun g => vi rr) (fun g => []) := by
 refine FTi Tryd.func48 fun w0 M0 F0 => Fb 8 0 fun _ => Fo 0 fun ho2 => ?_
 have hx0 := lrn rr; have H := hrr; unfold cmp_Or_int at H
 refine KS ?_
 refine Oq Va (KS ?_)
 refine Oq Va (KS ?_)
 refine Oq Vm (Oq (Vlen sl22) (Oq Vm (KS ?_)))
 refine llH H hx0 fun X10 hX11 hx12 HL13 => ?_
 refine Kl (γ := Nat × Int) (fun (r3, v8_4) => ⟨[(3, vi 0), (6, vl valsa0 valsk0 vals), (7, vi (vals.length : Int)), (8, vi v8_4)], [S valsa0 valsk0 vals], cmp_Or_int_L0 vals r3 v8_4 = X10 ∧ r3 = ((vals.length : Int) - v8_4).toNat ∧ (0 : Int) ≤ v8_4 ∧ v8_4 ≤ (vals.length : Int) ∧ (-9223372036854775808 ≤ v8_4 ∧ v8_4 ≤ 9223372036854775807), r3⟩) (((vals.length : Int) - 0).toNat, 0) [0] ⟨hX11, rfl, aM1, aM1, aM1⟩ ?_
 rintro ⟨r3, v8_4⟩ ⟨hM5, hr6, hi7, hi8, hk9⟩
 refine JJ_nx fun _ _ hL hA => ?_; dsimp only at hL hA; subst hL hA
 refine Fb 8 0 fun _ => Fo 0 fun ho15 => KS ?_
 refine Oq Vlss (KS ?_)
 refine Kc ?_ ?_
 ·intro h16
  have g17 := dt h16
  obtain ⟨r18, rfl⟩ := scc (n := r3) aM1
  have H := hM5; (try dsimp only at H); rw [cmp_Or_int_L0] at H
  refine KS ?_
  refine pC H hx12 fun hc19 H => ?_
  refine Oq (Vi sl22 0) ?_
  have hb20 := ok1 (i := v8_4.toNat) ho15 rng
  refine Oq (VldI sh3 0) (Oq Va (KS ?_))
  refine Oq Vm (Oq Vm (Oq Vneq (KS ?_)))
  refine KcH H ?_ ?_
  ·intro h21 H
   have g22 := ne_of_bne h21
   refine KS ?_
   refine Oq Vm (Oq Va (KS ?_))
   have H := llR H HL13
   have hq := rI H; subst hq
   exact Kr () rfl (.tmp rfl .nil) [] en
  intro h21 H
  have g23 := eq_of_bne_false h21
  refine KS ?_
  refine Oq Vadd (Oq Vm (KS ?_))
  refine pC H hx12 fun hc24 H => ?_
  exact Kg (r18, (v8_4 + 1)) [0] ⟨H, aM1, aM1, aM1, aM1⟩
 intro h16
 have g25 := df h16
 obtain rfl : r3 = 0 := by omega
 have H := hM5; (try dsimp only at H); rw [cmp_Or_int_L0] at H
 exact absurd H.symm hx12
theorem fn60 (x : Int) (hx_0 : i64ok x) (rr : Bool) (hrr : cmp_isNaN_int x = .ret rr) : FT Tryd.prog 60 #[vi x] [] (fun g : Unit => True) (fun g => vb rr) (fun g => []) := by
 refine FTi Tryd.func60 fun w0 M0 F0 => ?_
 unfold i64ok at hx_0
 have hx0 := lrn rr; have H := hrr; unfold cmp_isNaN_int at H
 refine KS ?_
 refine Oq Va (KS ?_)
 refine Oq Vm (Oq Vm (Oq Vneq (Oq Va (KS ?_))))
 have hq := rI H; subst hq
 exact Kr () rfl (.tmp rfl .nil) [] trivial
theorem fn49 (x : Int) (y : Int) (hx_0 : i64ok x) (hy_0 : i64ok y) (rr : Int) (hrr : cmp_Compare_int x y = .ret rr) : FT Tryd.prog 49 #[vi x, vi y] [] (fun g : Unit => i64ok rr) (fun g => vi rr) (fun g => []) := by
 refine FTi Tryd.func49 fun w0 M0 F0 => ?_
 unfold i64ok at hx_0 hy_0
 have hx0 := lrn rr; have H := hrr; unfold cmp_Compare_int at H
 refine KS ?_
 refine Oq Va (KS ?_)
 refine Oq Vm ?_
 refine lbH H hx0 fun rv1 hg2 H => ?_
 have hc3 := fn60 x pre rv1 hg2
 refine Oc [] ca60 hc3 ?_
 rintro - -
 refine Oq Va (KS ?_)
 refine Oq Vm ?_
 refine lbH H hx0 fun rv4 hg5 H => ?_
 have hc6 := fn60 y pre rv4 hg5
 refine Oc [] ca60 hc6 ?_
 rintro - -
 refine Oq Va (KS ?_)
 refine Oq Vm (KS ?_)
 refine pF H hx0 fun h7 H => ?_
 refine KcF h7 ?_
 refine KS ?_
 refine Oq Vm (KS ?_)
 refine pF H hx0 fun h9 H => ?_
 refine KcF h9 ?_
 refine KS ?_
 refine Oq Vm (Oq Vm (Oq Vlss (KS ?_)))
 refine pF H hx0 fun h11 H => ?_
 refine KcF h11 ?_
 have g12 := df h11
 refine KS ?_
 refine Oq Vm (Oq Vm (Oq Vgtr (KS ?_)))
 refine KcH H ?_ ?_
 ·intro h13 H
  have g14 := dt h13
  refine KS ?_
  refine Oq Va (KS ?_)
  have hq := rI H; subst hq
  exact Kr () rfl (.tmp rfl .nil) [] en
 intro h13 H
 have g15 := df h13
 refine KS ?_
 refine Oq Va (KS ?_)
 have hq := rI H; subst hq
 exact Kr () rfl (.tmp rfl .nil) [] en
theorem fn47 (a : Int) (b : Int) (cap0P : Value) (cap0 : List Int) (cap0a0 : Option Addr) (cap0k0 : Nat) (ha_0 : i64ok a) (hb_0 : i64ok b) (rr : Int) (hrr : layout_rows_1 a b cap0 = .ret rr) : FT Tryd.prog 47 #[vi a, vi b, cap0P] [pv cap0P [vl cap0a0 cap0k0 cap0], S cap0a0 cap0k0 cap0] (fun g : Unit => i64ok rr) (fun g => vi rr) (fun g => []) := by
 refine FTi Tryd.func47 fun w0 M0 F0 => ?_
 unfold i64ok at ha_0 hb_0
 refine Fb 8 1 fun _ => Fo 1 fun ho2 => ?_
 have hx0 := lrn rr; have H := hrr; unfold layout_rows_1 at H
 refine KS ?_
 refine Oq Va (KS ?_)
 refine JK_drawK [0, 0, 3, 7, 0, 0, 48, 112, 255, 0, 0, 2047, 4095, 8191, 16383] fmix ?_
 refine Dv [0] (Vld sh22 0) (Dv [] Vm ?_)
 refine pC H hx0 fun hc3 H => ?_
 refine Dv [1] (Vi sl22 0) ?_
 have hb4 := ok1 (i := a.toNat) ho2 rng
 refine Dv [1] (VldI sh3 0) (Dv [0] (Vld sh22 0) (Dv [] Vm ?_))
 refine pC H hx0 fun hc5 H => ?_
 refine Dv [1] (Vi sl22 0) ?_
 have hb6 := ok1 (i := b.toNat) ho2 rng
 refine Dv [1] (VldI sh3 0) ?_
 refine lbH H hx0 fun rv7 hg8 H => ?_
 refine Dx [] [] [0] (fun G => vi rv7) [fun G => SP.fact (i64ok rv7)] (fun G => xC [] ca49 (fn49 ((cap0.getD a.toNat 0)) ((cap0.getD b.toNat 0)) pre pre rv7 hg8)) (Dv [] Vm (Dv [] Vm ?_))
 refine lbH H hx0 fun rv9 hg10 H => ?_
 refine Dx [] [] [0] (fun G => vi rv9) [fun G => SP.fact (i64ok rv9)] (fun G => xC [] ca49 (fn49 a b pre pre rv9 hg10)) (Dx [] [] [0] (fun G => (G.g 12 0)) [fun G => Cr (G.g 12 0) 2 [vi rv7, vi rv9]] (fun G => xA (AsV sl22 sz22 [vi rv7, vi rv9] [vi rv7, vi rv9])) ?_)
 refine lbH H hx0 fun rv15 hg16 H => ?_
 refine Dx [2, 3, 4] [4] [2, 3, 1, 0] (fun G => vi rv15) [fun G => sl (G.g 12 0) ([rv7, rv9] : List Int), fun G => SP.fact (i64ok rv15)] (fun G => by refine xf 0 rfl ?_; rintro he17; unfold i64ok at he17; refine xf 1 rfl ?_; rintro he18; unfold i64ok at he18; exact xp [2] rfl (Ent.crInt _ [rv7, rv9] _ _ rfl rfl (by intro x hx; simp only [List.mem_cons, List.not_mem_nil, or_false] at hx; rcases hx with rfl | rfl <;> (unfold i64ok; omega)) aB1) (xp [0] rfl (Ent.freeze _ _) (xD [0] ca48 rfl rfl rfl (FT_open (γ := Unit) (I := fun g => i64ok rv15) (V := fun g => vi rv15) (B := fun g => []) (R := sl (G.g 12 0) ([rv7, rv9] : List Int)) sl_slice (fun aq12 kq13 eq14 => by rw [eq14]; exact FT_ent (Ent.take (is := [0]) rfl) (fn48 ([rv7, rv9]) aq12 kq13 rv15 hg16)))))) (Dv [] Va ?_)
 refine Dn ⟨by kernel_rfl, fun G => ?_⟩
 refine Jw2 [(5, vi rv15)] [0, 1] [SP.fact (i64ok rv7), SP.fact (i64ok rv9), sl (G.g 12 0) ([rv7, rv9] : List Int), SP.fact (i64ok rv15)] ?_
 generalize G.g 12 0 = c11
 refine Jf 2 rfl ?_; rintro he19
 unfold i64ok at he19
 refine Jf 3 rfl ?_; rintro he20
 unfold i64ok at he20
 refine Jf 5 rfl ?_; rintro he21
 unfold i64ok at he21
 refine Jk [0, 1, 4] ?_
 refine Jo 2 ?_; rintro a22 k23 rfl
 refine Fb 8 2 fun _ => Fo 2 fun ho25 => ?_
 have hq := rI H; subst hq
 exact Kr () rfl (.tmp rfl .nil) [] en
theorem fn33 (g : GGraph) (ga0 : Option Addr) (gk0 : Nat) (ga1 : Option Addr) (gk1 : Nat) (ga2 : Option Addr) (gk2 : Nat) (root : Int) (hroot_0 : i64ok root) (rr : List (List Int)) (hrr : layout_rows g root = .ret rr) : FT Tryd.prog 33 #[.agg #[vl ga0 gk0 g.Nodes, vl ga1 gk1 g.Succ, vl ga2 gk2 g.Pred], vi root] [S ga0 gk0 g.Nodes, S ga1 gk1 g.Succ, S ga2 gk2 g.Pred] (fun g : Value => True) (fun g => g) (fun g => [sl g rr]) := by
 refine FTi Tryd.func33 fun w0 M0 F0 => ?_
 unfold i64ok at hroot_0
 refine Fb 32 0 fun _ => Fb 24 1 fun _ => Fb 24 2 fun _ => ?_
 have hx0 := lrn rr; have H := hrr; unfold layout_rows at H
 refine KS ?_
 refine Oa (Ab [vl ga0 gk0 g.Nodes, vl ga1 gk1 g.Succ, vl ga2 gk2 g.Pred]) fun p4 => Oq Va (KS ?_)
 refine Oq (Vfa fo42_0 0) (Oq (VldF sh39 0) (Oq (Vlen sl39) ?_))
 refine pC H hx0 fun hc5 H => ?_
 refine Oa (Amk (α := Int) sl22 sz22 (0 : Int) (fun _ _ => ⟨rfl, by unfold i64ok; decide⟩)) fun c6 => ?_
 refine Jo 0 ?_; rintro a7 k8 rfl
 refine Fb 8 0 fun _ => Fo 0 fun ho10 => ?_
 have hn11 := List.length_replicate (n := (g.Nodes.length : Int).toNat) (a := ((0 : Int) : Int))
 refine Oa (Al ze22 [.slice none 0 0]) fun p12 => Ost (Scl [0] sh22 [vl a7 k8 (List.replicate (g.Nodes.length : Int).toNat (0 : Int))]) (KS ?_)
 refine Oq (Vfa fo42_0 2) (Oq (VldF sh39 2) (Oq (Vlen sl39) ?_))
 refine pC H hx0 fun hc13 H => ?_
 refine Oa (Amk (α := Bool) sl94 sz94 false (fun _ _ => rfl)) fun c14 => ?_
 refine Jo 0 ?_; rintro a15 k16 rfl
 refine Fb 1 0 fun _ => ?_
 have hn18 := List.length_replicate (n := (g.Nodes.length : Int).toNat) (a := (false : Bool))
 refine Oq Va (KS ?_)
 refine Oq Vm (Oq Vm ?_)
 refine pC H hx0 fun hc19 H => ?_
 refine Oq (Vi sl94 0) (Ost (SoB [0] sh4) (KS ?_))
 refine Oq Va (KS ?_)
 refine Oq Vm (Oa (AsV sl22 sz22 [vi root] [vi root]) fun c20 => ?_)
 refine Jo 0 ?_; rintro a21 k22 rfl
 refine Oq Va (KS ?_)
 refine Jl [0] (Ent.crInt _ [root] _ _ rfl rfl (by intro x hx; rw [List.mem_singleton] at hx; subst hx; unfold i64ok; omega) aB1) ?_
 refine Fb 8 0 fun _ => Fo 0 fun ho24 => ?_
 refine Jl [2] (Ent.freezeCl _ _) ?_
 refine Jl [] (Ent.osNil (α := (List Int))) ?_
 refine llH H hx0 fun X37 hX38 hx39 HL40 => ?_
 refine Kl (γ := Nat × List Int × List Bool × List (List Int) × List Int × Option Addr × Nat × Option Addr × Nat × Option Addr × Nat) (fun (r25, place0_26, seen_27, l_28, row_29, a30, k31, a32, k33, a34, k35) => ⟨[(2, p4), (5, p12), (6, vl a15 k16 (List.replicate (g.Nodes.length : Int).toNat false)), (7, vl a32 k33 l_28), (8, vl a34 k35 row_29)], [O a34 k35 row_29, O a32 k33 l_28, O a30 k31 place0_26, pv p12 [vl a30 k31 place0_26], os (vl a15 k16 (List.replicate (g.Nodes.length : Int).toNat false)) seen_27, pv p4 [vl ga0 gk0 g.Nodes, vl ga1 gk1 g.Succ, vl ga2 gk2 g.Pred], S ga0 gk0 g.Nodes, S ga1 gk1 g.Succ, S ga2 gk2 g.Pred], layout_rows_L0 g r25 place0_26 seen_27 l_28 row_29 = X37, r25⟩) (100000, (List.replicate (g.Nodes.length : Int).toNat (0 : Int)), ((List.replicate (g.Nodes.length : Int).toNat false).set root.toNat true), [], [root], a7, k8, none, 0, a21, k22) [2, 0, 2, 0, 1, 1, 2, 3, 4] hX38 ?_
 rintro ⟨r25, place0_26, seen_27, l_28, row_29, a30, k31, a32, k33, a34, k35⟩ hM36
 refine JJ_nx fun _ _ hL hA => ?_; dsimp only at hL hA; subst hL hA
 refine Fb 8 0 fun _ => Fo 0 fun ho42 => Fb 24 1 fun _ => Fb 8 2 fun _ => Fo 2 fun ho45 => Fb 1 4 fun _ => Fl 4 fun hn47 => ?_
 refine Fb 32 6 fun _ => Fb 24 7 fun _ => Fb 24 8 fun _ => ?_
 rcases r25 with _ | r25
 ·exact absurd (hM36.symm.trans rfl) hx39
 have H := hM36; (try dsimp only at H); rw [layout_rows_L0] at H
 refine KS ?_
 refine Oq Vm (Oq (Vlen sl22) (Oq Vgtr (KS ?_)))
 refine KcH H ?_ ?_
 ·intro h51 H
  have g52 := dt h51
  refine KS ?_
  refine Oq Vm (Oq Vm (Oa (AsV sl40 sz40 [vl a34 k35 row_29] [vl a34 k35 row_29]) fun c53 => ?_))
  refine Jo 0 ?_; rintro a54 k55 rfl
  refine Jl [1] (Ent.freeze _ _) ?_
  refine Jl [1, 0] (Ent.cr1 (α := List Int) (A := [S a34 k35 row_29]) _ row_29 _ aB1 (fun h => ⟨_, rfl, sepAll_get (i := 0) rfl h⟩)) ?_
  refine pC H hx39 fun hc56 H => ?_
  refine Oa (ApO [3, 0] sl40 sl40 sz40) fun c57 => ?_
  refine Jo 0 ?_; rintro a58 k59 rfl
  refine Fb 24 0 fun _ => ?_
  have hn61 := la l_28 ([row_29] : List (List Int))
  refine Oq Va (KS ?_)
  refine Oq Va (KS ?_)
  refine Oq Vm (Oq (Vlen sl22) (Oq Vm (KS ?_)))
  refine Jl [] (Ent.osNil (α := Int)) ?_
  refine llH H hx39 fun X74 hX75 hx76 HL77 => ?_
  refine Kl (γ := Nat × List Int × List Bool × List Int × Int × Option Addr × Nat) (fun (r62, place0_63, seen_64, next_65, v36_66, a67, k68) => ⟨[(2, p4), (5, p12), (6, vl a15 k16 (List.replicate (g.Nodes.length : Int).toNat false)), (7, vl a58 k59 (l_28 ++ [row_29])), (9, vl a67 k68 next_65), (34, vl a34 k35 row_29), (35, vi (row_29.length : Int)), (36, vi v36_66)], [O a67 k68 next_65, O a58 k59 ((l_28 ++ [row_29]) : List (List Int)), S a34 k35 row_29, os (vl a30 k31 place0_26) place0_63, pv p12 [vl a30 k31 place0_26], os (vl a15 k16 (List.replicate (g.Nodes.length : Int).toNat false)) seen_64, pv p4 [vl ga0 gk0 g.Nodes, vl ga1 gk1 g.Succ, vl ga2 gk2 g.Pred], S ga0 gk0 g.Nodes, S ga1 gk1 g.Succ, S ga2 gk2 g.Pred], layout_rows_L1 g row_29 r62 place0_63 seen_64 next_65 v36_66 = X74 ∧ r62 = ((row_29.length : Int) - v36_66).toNat ∧ (0 : Int) ≤ v36_66 ∧ v36_66 ≤ (row_29.length : Int) ∧ (-9223372036854775808 ≤ v36_66 ∧ v36_66 ≤ 9223372036854775807), r62⟩) (((row_29.length : Int) - 0).toNat, place0_26, seen_27, [], 0, none, 0) [0, 0, 0, 2, 2, 3, 3, 4, 5, 6] ⟨hX75, rfl, aM1, aM1, aM1⟩ ?_
  rintro ⟨r62, place0_63, seen_64, next_65, v36_66, a67, k68⟩ ⟨hM69, hr70, hi71, hi72, hk73⟩
  refine JJ_nx fun _ _ hL hA => ?_; dsimp only at hL hA; subst hL hA
  refine Fb 8 0 fun _ => Fo 0 fun ho79 => Fb 24 1 fun _ => Fb 8 2 fun _ => Fo 2 fun ho82 => Fb 8 3 fun _ => Fo 3 fun ho84 => Fl 3 fun hn85 => ?_
  refine Fb 1 5 fun _ => Fl 5 fun hn87 => ?_
  refine Fb 32 7 fun _ => Fb 24 8 fun _ => Fb 24 9 fun _ => KS ?_
  refine Oq Vlss (KS ?_)
  refine Kc ?_ ?_
  ·intro h91
   have g92 := dt h91
   obtain ⟨r93, rfl⟩ := scc (n := r62) aM1
   have H := hM69; (try dsimp only at H); rw [layout_rows_L1] at H
   refine KS ?_
   refine Oq Vm ?_
   refine pC H hx76 fun hc94 H => ?_
   refine Oq (Vi sl22 2) ?_
   have hb95 := ok1 (i := v36_66.toNat) ho82 rng
   refine Oq (VldI sh3 2) (Oq Va (Oq Va (KS ?_)))
   refine Oq (Vfa fo42_1 6) (Oq (VldF sh40 6) (Oq Vm ?_))
   refine pC H hx76 fun hc96 H => ?_
   refine Oq (Vi sl40 8) ?_
   refine JJ_peekL ((row_29.getD v36_66.toNat 0) : Int).toNat 8 rfl rng fun a97 k98 => ?_
   refine Fb 8 1 fun _ => Fo 1 fun ho100 => ?_
   refine Oq (Vld sh22 0) (Oq (Vlen sl22) (Oq Vm (KS ?_)))
   refine pC H hx76 fun hc113 H => ?_
   refine llH H hx76 fun X114 hX115 hx116 HL117 => ?_
   refine Kl (γ := Nat × List Int × List Bool × List Int × Int × Option Addr × Nat) (fun (r101, place0_102, seen_103, next_104, v47_105, a106, k107) => ⟨[(2, p4), (5, p12), (6, vl a15 k16 (List.replicate (g.Nodes.length : Int).toNat false)), (7, vl a58 k59 (l_28 ++ [row_29])), (9, vl a106 k107 next_104), (34, vl a34 k35 row_29), (35, vi (row_29.length : Int)), (36, vi v36_66), (10, vi v36_66), (45, vl a97 k98 (g.Succ.getD ((row_29.getD v36_66.toNat 0) : Int).toNat [])), (46, vi ((g.Succ.getD ((row_29.getD v36_66.toNat 0) : Int).toNat []).length : Int)), (47, vi v47_105)], [O a106 k107 next_104, S a97 k98 ((g.Succ.getD ((row_29.getD v36_66.toNat 0) : Int).toNat []) : List Int), O a58 k59 ((l_28 ++ [row_29]) : List (List Int)), S a34 k35 row_29, os (vl a30 k31 place0_26) place0_102, pv p12 [vl a30 k31 place0_26], os (vl a15 k16 (List.replicate (g.Nodes.length : Int).toNat false)) seen_103, pv p4 [vl ga0 gk0 g.Nodes, vl ga1 gk1 g.Succ, vl ga2 gk2 g.Pred], S ga0 gk0 g.Nodes, S ga1 gk1 g.Succ, S ga2 gk2 g.Pred], layout_rows_L2 v36_66 (g.Succ.getD ((row_29.getD v36_66.toNat 0) : Int).toNat []) r101 place0_102 seen_103 next_104 v47_105 = X114 ∧ r101 = ((((g.Succ.getD ((row_29.getD v36_66.toNat 0) : Int).toNat []).length : Int) : Int) - v47_105).toNat ∧ (0 : Int) ≤ v47_105 ∧ (v47_105 ≤ ((g.Succ.getD ((row_29.getD v36_66.toNat 0) : Int).toNat []).length : Int) ∨ v47_105 = 0) ∧ (-9223372036854775808 ≤ v47_105 ∧ v47_105 ≤ 9223372036854775807), r101⟩) (((((g.Succ.getD ((row_29.getD v36_66.toNat 0) : Int).toNat []).length : Int) : Int) - 0).toNat, place0_63, seen_64, next_65, 0, a67, k68) [2, 1, 2, 2, 3, 3, 4, 4, 5, 6, 7] ⟨hX115, rfl, aM1, (.inr rfl), aM1⟩ ?_
   rintro ⟨r101, place0_102, seen_103, next_104, v47_105, a106, k107⟩ ⟨hM108, hr109, hi110, hi111, hk112⟩
   refine JJ_nx fun _ _ hL hA => ?_; dsimp only at hL hA; subst hL hA
   refine Fb 8 0 fun _ => Fo 0 fun ho119 => Fb 8 1 fun _ => Fo 1 fun ho121 => Fb 24 2 fun _ => Fb 8 3 fun _ => Fo 3 fun ho124 => Fb 8 4 fun _ => ?_
   refine Fo 4 fun ho126 => ?_
   refine Fl 4 fun hn127 => Fb 1 6 fun _ => ?_
   refine Fl 6 fun hn129 => Fb 32 8 fun _ => Fb 24 9 fun _ => Fb 24 10 fun _ => ?_
   refine KS ?_
   refine Oq Vlss (KS ?_)
   refine Kc ?_ ?_
   ·intro h133
    have g134 := dt h133
    obtain ⟨r135, rfl⟩ := scc (n := r101) aM1
    have H := hM108; (try dsimp only at H); rw [layout_rows_L2] at H
    refine KS ?_
    refine pC H hx116 fun hc136 H => ?_
    refine Oq (Vi sl22 1) ?_
    have hb137 := ok1 (i := v47_105.toNat) ho121 rng
    refine Oq (VldI sh3 1) (Oq Va (KS ?_))
    refine Oq Vm (Oq Vm ?_)
    refine pC H hx116 fun hc138 H => ?_
    refine Oq (Vi sl94 6) (Oq (VldB sh4 6) (Oq Vnot (KS ?_)))
    refine KcH H ?_ ?_
    ·intro h139 H
     have h141 := not_true h139
     refine KS ?_
     refine Oq Vm (Oq Vm (Oq (Vi sl94 6) (Ost (SoB [6] sh4) (KS ?_))))
     refine Oq (Vld sh22 6) (Oq Vm (Oq Vm ?_))
     refine pC H hx116 fun hc143 H => ?_
     refine pC H hx116 fun hc144 H => ?_
     refine Oq (Vi sl22 5) (Ost (SoI [5] sh3) (KS ?_))
     refine Oq Vm (Oq Vm (Oa (AsV sl22 sz22 [vi ((g.Succ.getD ((row_29.getD v36_66.toNat 0) : Int).toNat []).getD v47_105.toNat 0)] [vi ((g.Succ.getD ((row_29.getD v36_66.toNat 0) : Int).toNat []).getD v47_105.toNat 0)]) fun c145 => ?_))
     refine Jo 0 ?_; rintro a146 k147 rfl
     refine Jl [0] (Ent.crInt _ [((g.Succ.getD ((row_29.getD v36_66.toNat 0) : Int).toNat []).getD v47_105.toNat 0)] _ _ rfl rfl (by intro x hx; rw [List.mem_singleton] at hx; subst hx; unfold i64ok; omega) aB1) ?_
     refine pC H hx116 fun hc148 H => ?_
     refine Oa (ApO [3, 0] sl22 sl22 sz22) fun c149 => ?_
     refine Jo 0 ?_; rintro a150 k151 rfl
     refine Fb 8 0 fun _ => Fo 0 fun ho153 => ?_
     have hn154 := la next_104 ([((g.Succ.getD ((row_29.getD v36_66.toNat 0) : Int).toNat []).getD v47_105.toNat 0)] : List Int)
     refine Oq Va (KS ?_)
     refine Oq Vadd (Oq Vm (KS ?_))
     refine pC H hx116 fun hc155 H => ?_
     exact Kg (r135, (place0_102.set (((g.Succ.getD ((row_29.getD v36_66.toNat 0) : Int).toNat []).getD v47_105.toNat 0) : Int).toNat v36_66), (seen_103.set (((g.Succ.getD ((row_29.getD v36_66.toNat 0) : Int).toNat []).getD v47_105.toNat 0) : Int).toNat true), (next_104 ++ [((g.Succ.getD ((row_29.getD v36_66.toNat 0) : Int).toNat []).getD v47_105.toNat 0)]), (v47_105 + 1), a150, k151) [0, 2, 3, 3, 0, 3, 0, 3, 4, 5, 6] ⟨H, aM1, aM1, aM1, aM1⟩
    intro h139 H
    have h157 := not_false h139
    refine KS ?_
    refine Oq Vadd (Oq Vm (KS ?_))
    refine pC H hx116 fun hc159 H => ?_
    exact Kg (r135, place0_102, seen_103, next_104, (v47_105 + 1), a106, k107) [0, 0, 1, 1, 2, 2, 3, 3, 4, 5, 6] ⟨H, aM1, aM1, aM1, aM1⟩
   intro h133
   have g160 := df h133
   obtain rfl : r101 = 0 := by omega
   have H := hM108; (try dsimp only at H); rw [layout_rows_L2] at H
   refine Ke ?_
   have H := llB H HL117
   dsimp only at H
   refine KS ?_
   refine Oq Vadd (Oq Vm (KS ?_))
   refine pC H hx76 fun hc161 H => ?_
   exact Kg (r93, place0_102, seen_103, next_104, (v36_66 + 1), a106, k107) [0, 1, 1, 2, 2, 3, 3, 4, 5, 6] ⟨H, aM1, aM1, aM1, aM1⟩
  intro h91
  have g162 := df h91
  obtain rfl : r62 = 0 := by omega
  have H := hM69; (try dsimp only at H); rw [layout_rows_L1] at H
  refine Ke ?_
  have H := llB H HL77
  dsimp only at H
  refine KS ?_
  refine Oq Vm (Oq (Vf [p12]) ?_)
  refine Fl 3 fun hn163 => ?_; (try unfold vl); rw [← hn163]
  refine lbH H hx39 fun rv164 hg165 H => ?_
  refine Oc [3, 0, 2] ca46 (FT_borrow (A := _) hlx (FT_ent (Ent.take (is := [1, 1, 0]) rfl) (FT_ent (Ent.trans (Ent.pall (A := [O a67 k68 next_65, pv p12 [vl a30 k31 place0_63], S a30 k31 place0_63]) (Ac := [pv p12 [vl a30 k31 place0_63], S a30 k31 place0_63]) [1, 2] rfl rfl) (Ent.take (is := [1, 0]) rfl)) (fn46 next_65 a67 k68 47 [p12] (fun x0 x1 => layout_rows_1 x0 x1 place0_63) [pv p12 [vl a30 k31 place0_63], S a30 k31 place0_63] ca47 (fun x0 x1 hq0 hq1 r hr => FT_pall (A1 := []) (fn47 x0 x1 p12 place0_63 a30 k31 hq0 hq1 r hr)) rv164 hg165)))) ?_ (ht := rfl)
  rintro - -
  refine Fb 8 1 fun _ => Fo 1 fun ho167 => KS ?_
  refine Oq Vm (Oq Va (KS ?_))
  refine Fl 1 fun hn168 => ?_; (try unfold vl); rw [← hn168]
  exact Kg (r25, place0_63, seen_64, (l_28 ++ [row_29]), rv164, a30, k31, a58, k59, a67, k68) [1, 1, 0, 1, 2, 2, 3, 4, 5] H
 intro h51 H
 have g169 := df h51
 refine Ke ?_
 have H := llB H HL40
 refine KS ?_
 refine Oq Vm (Oq Va (KS ?_))
 refine Jl [1] (Ent.freeze _ _) ?_
 have hq := rI H; subst hq
 exact Kr (vl a32 k33 l_28) rfl (.tmp rfl .nil) [0] trivial
theorem fn20 (g : GGraph) (ga0 : Option Addr) (gk0 : Nat) (ga1 : Option Addr) (gk1 : Nat) (ga2 : Option Addr) (gk2 : Nat) (root : Int) (hroot_0 : i64ok root) (rr : List Cpx × Int) (hrr : layout_Place g root = .ret rr) : FT Tryd.prog 20 #[.agg #[vl ga0 gk0 g.Nodes, vl ga1 gk1 g.Succ, vl ga2 gk2 g.Pred], vi root] [S ga0 gk0 g.Nodes, S ga1 gk1 g.Succ, S ga2 gk2 g.Pred] (fun g : Value => i64ok rr.2) (fun g => .tuple #[g, vi rr.2]) (fun g => [sl g rr.1]) := by
 refine FTi Tryd.func20 fun w0 M0 F0 => ?_
 unfold i64ok at hroot_0
 refine Fb 32 0 fun _ => Fb 24 1 fun _ => Fb 24 2 fun _ => ?_
 have hx0 := lrn rr; have H := hrr; unfold layout_Place at H
 refine KS ?_
 refine Oa (Ab [vl ga0 gk0 g.Nodes, vl ga1 gk1 g.Succ, vl ga2 gk2 g.Pred]) fun p4 => Oq Va (Oq Va (KS ?_))
 refine Oq (VldA sh42 0) (Oq Vm ?_)
 refine lbH H hx0 fun rv5 hg6 H => ?_
 have hc7 := fn31 g ga0 gk0 ga1 gk1 ga2 gk2 root pre rv5 hg6
 refine Oc [1, 2, 3] ca31 hc7 ?_
 rintro - he8
 unfold i64ok at he8
 refine Oq Va (KS ?_)
 refine Oq Vm (Oq Vneq (KS ?_))
 refine pF H hx0 fun h9 H => ?_
 refine KcF h9 ?_
 have g10 := eq_of_bne_false h9
 refine KS ?_
 refine Oa (AsV sl30 sz30 [cxv (Cpx.mk 13830554455654793216#64 0#64)] [cxv (Cpx.mk 13830554455654793216#64 0#64)]) fun c11 => ?_
 refine Jo 0 ?_; rintro a12 k13 rfl
 refine Oq (Vfa fo42_0 1) (Oq (VldF sh39 1) (Oq (Vlen sl39) ?_))
 refine Jl [0] (Ent.cr1 (α := Cpx) (A := []) _ (Cpx.mk 13830554455654793216#64 0#64) _ aB1 (fun _ => rfl)) ?_
 refine Jl [0] (Ent.freeze _ _) ?_
 refine lbH H hx0 fun rv15 hg16 H => ?_
 have hc17 := fn32 ([(Cpx.mk 13830554455654793216#64 0#64)]) a12 k13 ((g.Nodes.length : Int)) pre rv15 hg16
 refine Oc [0] ca32 hc17 ?_
 rintro c14 -
 refine Jo 0 ?_; rintro a18 k19 rfl
 refine Fb 16 0 fun _ => ?_
 refine Oq Va (KS ?_)
 refine Oq Va (KS ?_)
 refine Oq (VldA sh42 2) (Oq Vm ?_)
 refine lbH H hx0 fun rv22 hg23 H => ?_
 have hc24 := fn33 g ga0 gk0 ga1 gk1 ga2 gk2 root pre rv22 hg23
 refine Oc [3, 4, 5] ca33 hc24 ?_
 rintro c21 -
 refine Jo 0 ?_; rintro a25 k26 rfl
 refine Fb 24 0 fun _ => ?_
 refine Oq (Vlen sl40) (Oq Vm (KS ?_))
 refine llH H hx0 fun X39 hX40 hx41 HL42 => ?_
 refine Kl (γ := Nat × List Cpx × Cpx × Int × Option Addr × Nat) (fun (r28, at__29, start_30, v29_31, a32, k33) => ⟨[(7, vl a32 k33 at__29), (8, cxv start_30), (27, vl a25 k26 rv22), (28, vi (rv22.length : Int)), (29, vi v29_31)], [O a32 k33 at__29, S a25 k26 rv22], layout_Place_L0 rv22 r28 at__29 start_30 v29_31 = X39 ∧ r28 = ((rv22.length : Int) - v29_31).toNat ∧ (0 : Int) ≤ v29_31 ∧ v29_31 ≤ (rv22.length : Int) ∧ (-9223372036854775808 ≤ v29_31 ∧ v29_31 ≤ 9223372036854775807), r28⟩) (((rv22.length : Int) - 0).toNat, rv15, (Cpx.mk 0#64 0#64), 0, a18, k19) [1, 0] ⟨hX40, rfl, aM1, aM1, aM1⟩ ?_
 rintro ⟨r28, at__29, start_30, v29_31, a32, k33⟩ ⟨hM34, hr35, hi36, hi37, hk38⟩
 refine JJ_nx fun _ _ hL hA => ?_; dsimp only at hL hA; subst hL hA
 refine Fb 16 0 fun _ => Fb 24 1 fun _ => KS ?_
 refine Oq Vlss (KS ?_)
 refine Kc ?_ ?_
 ·intro h45
  have g46 := dt h45
  obtain ⟨r47, rfl⟩ := scc (n := r28) aM1
  have H := hM34; (try dsimp only at H); rw [layout_Place_L0] at H
  refine KS ?_
  refine pC H hx41 fun hc48 H => ?_
  refine Oq (Vi sl40 1) ?_
  refine JJ_peekL v29_31.toNat 1 rfl rng fun a49 k50 => ?_
  refine Fb 8 1 fun _ => Fo 1 fun ho52 => ?_
  refine Oq (Vld sh22 0) (Oq Va (KS ?_))
  refine Oq Vm (Oq Va (KS ?_))
  refine Oq Vm (Oq (Vlen sl22) (Oq Vm (KS ?_)))
  refine pC H hx41 fun hc62 H => ?_
  refine llH H hx41 fun X63 hX64 hx65 HL66 => ?_
  refine Kl (γ := Nat × List Cpx × Cpx × Int) (fun (r53, at__54, p_55, v36_56) => ⟨[(7, vl a32 k33 at__29), (8, cxv start_30), (27, vl a25 k26 rv22), (28, vi (rv22.length : Int)), (29, vi v29_31), (11, cxv p_55), (34, vl a49 k50 (rv22.getD v29_31.toNat [])), (35, vi ((rv22.getD v29_31.toNat []).length : Int)), (36, vi v36_56)], [S a49 k50 ((rv22.getD v29_31.toNat []) : List Int), os (vl a32 k33 at__29) at__54, S a25 k26 rv22], layout_Place_L1 (rv22.getD v29_31.toNat []) r53 at__54 p_55 v36_56 = X63 ∧ r53 = ((((rv22.getD v29_31.toNat []).length : Int) : Int) - v36_56).toNat ∧ (0 : Int) ≤ v36_56 ∧ (v36_56 ≤ ((rv22.getD v29_31.toNat []).length : Int) ∨ v36_56 = 0) ∧ (-9223372036854775808 ≤ v36_56 ∧ v36_56 ≤ 9223372036854775807), r53⟩) (((((rv22.getD v29_31.toNat []).length : Int) : Int) - 0).toNat, at__29, start_30, 0) [1, 2, 2] ⟨hX64, rfl, aM1, (.inr rfl), aM1⟩ ?_
  rintro ⟨r53, at__54, p_55, v36_56⟩ ⟨hM57, hr58, hi59, hi60, hk61⟩
  refine JJ_nx fun _ _ hL hA => ?_; dsimp only at hL hA; subst hL hA
  refine Fb 8 0 fun _ => Fo 0 fun ho68 => Fb 16 1 fun _ => Fl 1 fun hn70 => ?_
  refine Fb 24 2 fun _ => KS ?_
  refine Oq Vlss (KS ?_)
  refine Kc ?_ ?_
  ·intro h72
   have g73 := dt h72
   obtain ⟨r74, rfl⟩ := scc (n := r53) aM1
   have H := hM57; (try dsimp only at H); rw [layout_Place_L1] at H
   refine KS ?_
   refine pC H hx65 fun hc75 H => ?_
   refine Oq (Vi sl22 0) ?_
   have hb76 := ok1 (i := v36_56.toNat) ho68 rng
   refine Oq (VldI sh3 0) (Oq Va (KS ?_))
   refine Oq Vm (Oq Vm (Oq Vm ?_))
   refine pC H hx65 fun hc77 H => ?_
   refine Oq (Vi sl30 1) (Ost (SoCx [1] sh37) (KS ?_))
   refine Oq Vm ?_
   refine pC H hx65 fun hc78 H => ?_
   refine Oq (VaddC (a := p_55) (b := (Cpx.mk 4607182418800017408#64 0#64)) (h := hc78)) (Oq Va (KS ?_))
   refine Oq Vadd (Oq Vm (KS ?_))
   refine pC H hx65 fun hc79 H => ?_
   exact Kg (r74, (at__54.set (((rv22.getD v29_31.toNat []).getD v36_56.toNat 0) : Int).toNat p_55), (cadd p_55 (Cpx.mk 4607182418800017408#64 0#64)), (v36_56 + 1)) [1, 0, 1] ⟨H, aM1, aM1, aM1, aM1⟩
  intro h72
  have g80 := df h72
  obtain rfl : r53 = 0 := by omega
  have H := hM57; (try dsimp only at H); rw [layout_Place_L1] at H
  refine Ke ?_
  have H := llB H HL66
  refine KS ?_
  refine Oq Vm ?_
  refine pC H hx41 fun hc81 H => ?_
  refine Oq (VaddC (a := start_30) (b := (Cpx.mk 0#64 4607182418800017408#64)) (h := hc81)) (Oq Va (KS ?_))
  refine Oq Vadd (Oq Vm (KS ?_))
  refine Fl 1 fun hn82 => ?_; (try unfold vl); rw [← hn82]
  refine pC H hx41 fun hc83 H => ?_
  exact Kg (r47, at__54, (cadd start_30 (Cpx.mk 0#64 4607182418800017408#64)), (v29_31 + 1), a32, k33) [1, 1] ⟨H, aM1, aM1, aM1, aM1⟩
 intro h45
 have g84 := df h45
 obtain rfl : r28 = 0 := by omega
 have H := hM34; (try dsimp only at H); rw [layout_Place_L0] at H
 refine Ke ?_
 have H := llB H HL42
 refine KS ?_
 refine Oq Vm (Oq Va (Oq Va (KS ?_)))
 refine Jl [0] (Ent.freeze _ _) ?_
 have hq := rI H; subst hq
 exact Kr (vl a32 k33 at__29) rfl (.tmp rfl (.tmp rfl .nil)) [0] en
theorem fn76 (i : Int) (hi_0 : i64ok i) (rr : Str) (hrr : ic_small i = .ret rr) : FT Tryd.prog 76 #[vi i] [] (fun g : Unit => rr.b.length ≤ 140737488355328) (fun g => .string (bs rr)) (fun g => []) := by
 refine FTi Tryd.func76 fun w0 M0 F0 => ?_
 unfold i64ok at hi_0
 have hx0 := lrn rr; have H := hrr; unfold ic_small at H
 refine KS ?_
 refine Oq Va (KS ?_)
 refine Oq Vm (Oq Vlss (KS ?_))
 refine pT H hx0 fun h1 H => ?_
 refine KcT h1 ?_
 have g2 := dt h1
 refine KS ?_
 refine Oq Vm (Oq Vm ?_)
 refine pC H hx0 fun hc3 H => ?_
 refine Oq Vadd ?_
 refine pC H hx0 fun hc4 H => ?_
 have hb5 : tab1.b.length = 36 := rfl
 refine Oq (VslS un9 (l := tab1)) ?_
 have hb6 := sub_len3 tab1 i.toNat ((i + 1) : Int).toNat
 refine Oq Va (KS ?_)
 have hq := rI H; subst hq
 exact Kr () rfl (.tmp rfl .nil) [] en
theorem fn61 (i : Int) (base : Int) (hi_0 : i64ok i) (hbase_0 : i64ok base) (rr : Str) (hrr : ic_FormatInt i base = .ret rr) : FT Tryd.prog 61 #[vi i, vi base] [] (fun g : Unit => rr.b.length ≤ 140737488355328) (fun g => .string (bs rr)) (fun g => []) := by
 refine FTi Tryd.func61 fun w0 M0 F0 => ?_
 unfold i64ok at hi_0 hbase_0
 have hx0 := lrn rr; have H := hrr; unfold ic_FormatInt at H
 refine KS ?_
 refine Oq Va (KS ?_)
 refine Oq Vm (Oq Veql (KS ?_))
 refine pT H hx0 fun h1 H => ?_
 refine KcT h1 ?_
 have g2 := eq_of_beq h1
 refine KS ?_
 refine Oq Vm (Oq Vleq (Oq Vm ?_))
 refine pT H hx0 fun h3 H => ?_
 refine JsT 14 h3 ?_
 have g4 := dt h3
 refine Oq Vm (Oq Vlss (Oq Vpt (KS ?_)))
 refine pT H hx0 fun h5 H => ?_
 refine KcT h5 ?_
 have g6 := dt h5
 refine KS ?_
 refine Oq Vm ?_
 refine lbH H hx0 fun rv7 hg8 H => ?_
 have hc9 := fn76 i pre rv7 hg8
 refine Oc [] ca76 hc9 ?_
 rintro - he10
 refine Oq Va (KS ?_)
 have hq := rI H; subst hq
 exact Kr () rfl (.tmp rfl .nil) [] en
theorem fn50 (i : Int) (hi_0 : i64ok i) (rr : Str) (hrr : ic_Itoa i = .ret rr) : FT Tryd.prog 50 #[vi i] [] (fun g : Unit => rr.b.length ≤ 140737488355328) (fun g => .string (bs rr)) (fun g => []) := by
 refine FTi Tryd.func50 fun w0 M0 F0 => ?_
 unfold i64ok at hi_0
 have hx0 := lrn rr; have H := hrr; unfold ic_Itoa at H
 refine KS ?_
 refine Oq Va (KS ?_)
 refine Oq Vm ?_
 refine lbH H hx0 fun rv1 hg2 H => ?_
 have hc3 := fn61 i 10 pre pre rv1 hg2
 refine Oc [] ca61 hc3 ?_
 rintro - he4
 refine Oq Va (KS ?_)
 have hq := rI H; subst hq
 exact Kr () rfl (.tmp rfl .nil) [] en
theorem fn34 (i : Int) (hi_0 : i64ok i) (rr : Str) (hrr : st_Itoa i = .ret rr) : FT Tryd.prog 34 #[vi i] [] (fun g : Unit => rr.b.length ≤ 140737488355328) (fun g => .string (bs rr)) (fun g => []) := by
 refine FTi Tryd.func34 fun w0 M0 F0 => ?_
 unfold i64ok at hi_0
 have hx0 := lrn rr; have H := hrr; unfold st_Itoa at H
 refine KS ?_
 refine Oq Va (KS ?_)
 refine Oq Vm ?_
 refine lbH H hx0 fun rv1 hg2 H => ?_
 have hc3 := fn50 i pre rv1 hg2
 refine Oc [] ca50 hc3 ?_
 rintro - he4
 refine Oq Va (KS ?_)
 have hq := rI H; subst hq
 exact Kr () rfl (.tmp rfl .nil) [] en
def lay166_ren : Go.Shelf.Ren := ⟨(fun n => match n with | 166 => 35 | 240 => 51 | 276 => 62 | _ => 0), (fun n => match n with | 0 => 0 | 3 => 3 | 4 => 4 | 5 => 5 | 9 => 9 | 20 => 20 | 37 => 75 | 70 => 74 | 72 => 77 | 75 => 81 | 80 => 85 | 164 => 111 | _ => 0), (fun _ => 0)⟩
theorem lay166 : Go.Proofs.Lays.n166 Tryd.prog lay166_ren where
 mixed := by kernel_rfl
 f166 := by kernel_rfl
 f240 := by kernel_rfl
 f276 := by kernel_rfl
 t0 := by kernel_rfl
 a0 := fun w => rfl
 z0 := fun w => rfl
 v0 := fun w => rfl
 t3 := by kernel_rfl
 a3 := fun w => rfl
 z3 := fun w => rfl
 v3 := fun w => rfl
 t4 := by kernel_rfl
 a4 := fun w => rfl
 z4 := fun w => rfl
 v4 := fun w => rfl
 t9 := by kernel_rfl
 a9 := fun w => rfl
 z9 := fun w => rfl
 v9 := fun w => rfl
 t20 := by kernel_rfl
 a20 := fun w => rfl
 z20 := fun w => rfl
 v20 := fun w => rfl
 t37 := by kernel_rfl
 a37 := fun w => rfl
 z37 := fun w => rfl
 v37 := fun w => rfl
 t70 := by kernel_rfl
 a70 := fun w => rfl
 z70 := fun w => rfl
 v70 := fun w => rfl
 t72 := by kernel_rfl
 a72 := fun w => rfl
 z72 := fun w => rfl
 v72 := fun w => rfl
 t75 := by kernel_rfl
 a75 := fun w => rfl
 z75 := fun w => rfl
 v75 := fun w => rfl
 t164 := by kernel_rfl
 a164 := fun w => rfl
 z164 := fun w => rfl
 v164 := fun w => rfl
theorem lay166x : Go.Proofs.Builder.Extra Tryd.prog lay166_ren where
 sizeBuilder := by kernel_rfl
 liesBuilder := by kernel_rfl
 t5 := by kernel_rfl
 a5 := fun w => rfl
 z5 := fun w => rfl
 v5 := fun w => rfl
 infoByte := by kernel_rfl
 cellsByte := by kernel_rfl
 sizeByte := by kernel_rfl
 neB5 := by decide
theorem fn35 (bP : Value) (b : List UInt8) (s : Str) (hs_0 : s.b.length ≤ 140737488355328) (rr : List UInt8) (hrr : Builder_WriteString b s = .ret rr) : FT Tryd.prog 35 #[bP, .string (bs s)] [BD 77 5 bP b] (fun g : Unit => True) (fun g => .tuple #[vi (s.b.length : Int), .nilIface]) (fun g => [BD 77 5 bP rr]) := by
 have hrr' := hrr
 unfold Builder_WriteString at hrr'
 cases hl : decide (b.length + s.b.length ≤ 140737488355328) with
 | false => rw [hl] at hrr'; cases hrr'
 | true =>
 rw [hl] at hrr'; injection hrr' with hrr'; subst hrr'
 exact FT_wstr lay166 lay166x bP b s (of_decide_eq_true hl)
def lay156_ren : Go.Shelf.Ren := ⟨(fun n => match n with | 156 => 36 | 165 => 52 | 166 => 35 | 169 => 37 | 240 => 51 | 241 => 63 | 276 => 62 | 277 => 80 | _ => 0), (fun n => match n with | 0 => 0 | 3 => 3 | 4 => 4 | 5 => 5 | 9 => 9 | 20 => 20 | 31 => 78 | 37 => 75 | 70 => 74 | 72 => 77 | 75 => 81 | 76 => 82 | 80 => 85 | 127 => 98 | 164 => 111 | _ => 0), (fun _ => 0)⟩
theorem lay156 : Go.Proofs.Lays.n156 Tryd.prog lay156_ren where
 mixed := by kernel_rfl
 f156 := by kernel_rfl
 f165 := by kernel_rfl
 f166 := by kernel_rfl
 f169 := by kernel_rfl
 f240 := by kernel_rfl
 f241 := by kernel_rfl
 f276 := by kernel_rfl
 f277 := by kernel_rfl
 t0 := by kernel_rfl
 a0 := fun w => rfl
 z0 := fun w => rfl
 v0 := fun w => rfl
 t3 := by kernel_rfl
 a3 := fun w => rfl
 z3 := fun w => rfl
 v3 := fun w => rfl
 t4 := by kernel_rfl
 a4 := fun w => rfl
 z4 := fun w => rfl
 v4 := fun w => rfl
 t9 := by kernel_rfl
 a9 := fun w => rfl
 z9 := fun w => rfl
 v9 := fun w => rfl
 t20 := by kernel_rfl
 a20 := fun w => rfl
 z20 := fun w => rfl
 v20 := fun w => rfl
 t31 := by kernel_rfl
 a31 := fun w => rfl
 z31 := fun w => rfl
 v31 := fun w => rfl
 t37 := by kernel_rfl
 a37 := fun w => rfl
 z37 := fun w => rfl
 v37 := fun w => rfl
 t70 := by kernel_rfl
 a70 := fun w => rfl
 z70 := fun w => rfl
 v70 := fun w => rfl
 t72 := by kernel_rfl
 a72 := fun w => rfl
 z72 := fun w => rfl
 v72 := fun w => rfl
 t75 := by kernel_rfl
 a75 := fun w => rfl
 z75 := fun w => rfl
 v75 := fun w => rfl
 t76 := by kernel_rfl
 a76 := fun w => rfl
 z76 := fun w => rfl
 v76 := fun w => rfl
 t127 := by kernel_rfl
 a127 := fun w => rfl
 z127 := fun w => rfl
 v127 := fun w => rfl
 t164 := by kernel_rfl
 a164 := fun w => rfl
 z164 := fun w => rfl
 v164 := fun w => rfl
theorem lay156x : Go.Proofs.Builder.Extra Tryd.prog lay156_ren where
 sizeBuilder := by kernel_rfl
 liesBuilder := by kernel_rfl
 t5 := by kernel_rfl
 a5 := fun w => rfl
 z5 := fun w => rfl
 v5 := fun w => rfl
 infoByte := by kernel_rfl
 cellsByte := by kernel_rfl
 sizeByte := by kernel_rfl
 neB5 := by decide
theorem fn36 (elems : List Str) (elemsa0 : Option Addr) (elemsk0 : Nat) (sep : Str) (hsep_0 : sep.b.length ≤ 140737488355328) (rr : Str) (hrr : strings_Join elems sep = .ret rr) : FT Tryd.prog 36 #[vl elemsa0 elemsk0 elems, .string (bs sep)] [S elemsa0 elemsk0 elems] (fun g : Unit => rr.b.length ≤ 140737488355328) (fun g => .string (bs rr)) (fun g => []) := by
 have hrr' := hrr
 unfold strings_Join at hrr'
 cases hl : decide ((joinS elems sep).b.length ≤ 140737488355328) with
 | false => rw [hl] at hrr'; cases hrr'
 | true =>
 rw [hl] at hrr'; injection hrr' with hrr'; subst hrr'
 have hj0 := of_decide_eq_true hl
 exact FT_join (fun bk o c xs sep w h1 h2 h3 h4 h5 => Go.Proofs.Any.strings_Join lay156 lay156x bk o c xs sep w h1 h2 h3 h4 h5) (fun a c sep w => Go.Proofs.Any.strings_Join_none lay156 lay156x a c sep w) elemsa0 elemsk0 elems sep hj0
def lay169_ren : Go.Shelf.Ren := ⟨(fun n => match n with | 169 => 37 | _ => 0), (fun n => match n with | 0 => 0 | 3 => 3 | 5 => 5 | 9 => 9 | 37 => 75 | 70 => 74 | 72 => 77 | 127 => 98 | _ => 0), (fun _ => 0)⟩
theorem lay169 : Go.Proofs.Lays.n169 Tryd.prog lay169_ren where
 mixed := by kernel_rfl
 f169 := by kernel_rfl
 t0 := by kernel_rfl
 a0 := fun w => rfl
 z0 := fun w => rfl
 v0 := fun w => rfl
 t3 := by kernel_rfl
 a3 := fun w => rfl
 z3 := fun w => rfl
 v3 := fun w => rfl
 t9 := by kernel_rfl
 a9 := fun w => rfl
 z9 := fun w => rfl
 v9 := fun w => rfl
 t37 := by kernel_rfl
 a37 := fun w => rfl
 z37 := fun w => rfl
 v37 := fun w => rfl
 t70 := by kernel_rfl
 a70 := fun w => rfl
 z70 := fun w => rfl
 v70 := fun w => rfl
 t72 := by kernel_rfl
 a72 := fun w => rfl
 z72 := fun w => rfl
 v72 := fun w => rfl
 t127 := by kernel_rfl
 a127 := fun w => rfl
 z127 := fun w => rfl
 v127 := fun w => rfl
theorem lay169x : Go.Proofs.Builder.Extra Tryd.prog lay169_ren where
 sizeBuilder := by kernel_rfl
 liesBuilder := by kernel_rfl
 t5 := by kernel_rfl
 a5 := fun w => rfl
 z5 := fun w => rfl
 v5 := fun w => rfl
 infoByte := by kernel_rfl
 cellsByte := by kernel_rfl
 sizeByte := by kernel_rfl
 neB5 := by decide
theorem fn37 (bP : Value) (b : List UInt8) (rr : Str) (hrr : Builder_String b = .ret rr) : FT Tryd.prog 37 #[bP] [BD 77 5 bP b] (fun g : Unit => rr.b.length ≤ 140737488355328) (fun g => .string (bs rr)) (fun g => []) := by
 have hrr' := hrr
 unfold Builder_String at hrr'
 cases hl : decide (b.length ≤ 140737488355328) with
 | false => rw [hl] at hrr'; cases hrr'
 | true =>
 rw [hl] at hrr'; injection hrr' with hrr'; subst hrr'
 exact FT_bstr lay169 lay169x bP b (of_decide_eq_true hl)
theorem fn21 (g : GGraph) (ga0 : Option Addr) (gk0 : Nat) (ga1 : Option Addr) (gk1 : Nat) (ga2 : Option Addr) (gk2 : Nat) (root : Int) (hroot_0 : i64ok root) (rr : Str × Int) (hrr : layout_Draw g root = .ret rr) : FT Tryd.prog 21 #[.agg #[vl ga0 gk0 g.Nodes, vl ga1 gk1 g.Succ, vl ga2 gk2 g.Pred], vi root] [S ga0 gk0 g.Nodes, S ga1 gk1 g.Succ, S ga2 gk2 g.Pred] (fun g : Unit => rr.1.b.length ≤ 140737488355328 ∧ i64ok rr.2) (fun g => .tuple #[.string (bs rr.1), vi rr.2]) (fun g => []) := by
 refine FTi Tryd.func21 fun w0 M0 F0 => ?_
 unfold i64ok at hroot_0
 refine Fb 32 0 fun _ => Fb 24 1 fun _ => Fb 24 2 fun _ => ?_
 have hx0 := lrn rr; have H := hrr; unfold layout_Draw at H
 refine KS ?_
 refine Oa (Ab [vl ga0 gk0 g.Nodes, vl ga1 gk1 g.Succ, vl ga2 gk2 g.Pred]) fun p4 => Oq Va (Oq Va (KS ?_))
 refine Oq (VldA sh42 0) (Oq Vm ?_)
 refine lbH H hx0 fun rv5 hg6 H => ?_
 have hc7 := fn31 g ga0 gk0 ga1 gk1 ga2 gk2 root pre rv5 hg6
 refine Oc [1, 2, 3] ca31 hc7 ?_
 rintro - he8
 unfold i64ok at he8
 refine Oq Va (KS ?_)
 refine Oq Vm (Oq Vneq (KS ?_))
 refine pF H hx0 fun h9 H => ?_
 refine KcF h9 ?_
 have g10 := eq_of_bne_false h9
 refine KS ?_
 refine Oa (AlB 5 ze77) fun p11 => KS ?_
 refine Oq (VldA sh42 1) (Oq Vm ?_)
 refine lbH H hx0 fun rv13 hg14 H => ?_
 have hc15 := fn33 g ga0 gk0 ga1 gk1 ga2 gk2 root pre rv13 hg14
 refine Oc [2, 3, 4] ca33 hc15 ?_
 rintro c12 -
 refine Jo 0 ?_; rintro a16 k17 rfl
 refine Fb 24 0 fun _ => ?_
 refine Oq (Vlen sl40) (Oq Vm (KS ?_))
 refine llH H hx0 fun X27 hX28 hx29 HL30 => ?_
 refine Kl (γ := Nat × List UInt8 × Int) (fun (r19, b_20, v23_21) => ⟨[(7, p11), (21, vl a16 k17 rv13), (22, vi (rv13.length : Int)), (23, vi v23_21)], [S a16 k17 rv13, BD 77 5 p11 b_20], layout_Draw_L0 rv13 r19 b_20 v23_21 = X27 ∧ r19 = ((rv13.length : Int) - v23_21).toNat ∧ (0 : Int) ≤ v23_21 ∧ v23_21 ≤ (rv13.length : Int) ∧ (-9223372036854775808 ≤ v23_21 ∧ v23_21 ≤ 9223372036854775807), r19⟩) (((rv13.length : Int) - 0).toNat, [], 0) [0, 1] ⟨hX28, rfl, aM1, aM1, aM1⟩ ?_
 rintro ⟨r19, b_20, v23_21⟩ ⟨hM22, hr23, hi24, hi25, hk26⟩
 refine JJ_nx fun _ _ hL hA => ?_; dsimp only at hL hA; subst hL hA
 refine Fb 24 0 fun _ => KS ?_
 refine Oq Vlss (KS ?_)
 refine Kc ?_ ?_
 ·intro h32
  have g33 := dt h32
  obtain ⟨r34, rfl⟩ := scc (n := r19) aM1
  have H := hM22; (try dsimp only at H); rw [layout_Draw_L0] at H
  refine KS ?_
  refine pC H hx29 fun hc35 H => ?_
  refine Oq (Vi sl40 0) ?_
  refine JJ_peekL v23_21.toNat 0 rfl rng fun a36 k37 => ?_
  refine Fb 8 1 fun _ => Fo 1 fun ho39 => ?_
  refine Oq (Vld sh22 0) (Oq Va (KS ?_))
  refine Oq Va (KS ?_)
  refine Oq Vm (Oq (Vlen sl22) (Oq Vm (KS ?_)))
  refine Jl [] (Ent.osNil (α := Str)) ?_
  refine pC H hx29 fun hc50 H => ?_
  refine llH H hx29 fun X51 hX52 hx53 HL54 => ?_
  refine Kl (γ := Nat × List Str × Int × Option Addr × Nat) (fun (r40, words_41, v29_42, a43, k44) => ⟨[(7, p11), (21, vl a16 k17 rv13), (22, vi (rv13.length : Int)), (23, vi v23_21), (10, vl a43 k44 words_41), (27, vl a36 k37 (rv13.getD v23_21.toNat [])), (28, vi ((rv13.getD v23_21.toNat []).length : Int)), (29, vi v29_42)], [O a43 k44 words_41, S a36 k37 ((rv13.getD v23_21.toNat []) : List Int), S a16 k17 rv13, BD 77 5 p11 b_20], layout_Draw_L1 (rv13.getD v23_21.toNat []) r40 words_41 v29_42 = X51 ∧ r40 = ((((rv13.getD v23_21.toNat []).length : Int) : Int) - v29_42).toNat ∧ (0 : Int) ≤ v29_42 ∧ (v29_42 ≤ ((rv13.getD v23_21.toNat []).length : Int) ∨ v29_42 = 0) ∧ (-9223372036854775808 ≤ v29_42 ∧ v29_42 ≤ 9223372036854775807), r40⟩) (((((rv13.getD v23_21.toNat []).length : Int) : Int) - 0).toNat, [], 0, none, 0) [0, 1, 2, 3] ⟨hX52, rfl, aM1, (.inr rfl), aM1⟩ ?_
  rintro ⟨r40, words_41, v29_42, a43, k44⟩ ⟨hM45, hr46, hi47, hi48, hk49⟩
  refine JJ_nx fun _ _ hL hA => ?_; dsimp only at hL hA; subst hL hA
  refine Fb 16 0 fun _ => ?_
  refine FoS 0 fun ho56 => ?_
  refine Fb 8 1 fun _ => Fo 1 fun ho58 => Fb 24 2 fun _ => KS ?_
  refine Oq Vlss (KS ?_)
  refine Kc ?_ ?_
  ·intro h60
   have g61 := dt h60
   obtain ⟨r62, rfl⟩ := scc (n := r40) aM1
   have H := hM45; (try dsimp only at H); rw [layout_Draw_L1] at H
   refine KS ?_
   refine pC H hx53 fun hc63 H => ?_
   refine Oq (Vi sl22 1) ?_
   have hb64 := ok1 (i := v29_42.toNat) ho58 rng
   refine Oq (VldI sh3 1) (Oq Va (KS ?_))
   refine Oq Vm (Oq Vm ?_)
   refine lbH H hx53 fun rv65 hg66 H => ?_
   have hc67 := fn34 (((rv13.getD v23_21.toNat []).getD v29_42.toNat 0)) pre rv65 hg66
   refine Oc [] ca34 hc67 ?_
   rintro - he68
   refine Oa (AsV sl78 sz78 [.string (bs rv65)] [.string (bs rv65)]) fun c69 => ?_
   refine Jo 0 ?_; rintro a70 k71 rfl
   refine Jl [0] (Ent.cr1 (α := Str) (A := []) _ rv65 _ aB1 (fun _ => ⟨rfl, aS1⟩)) ?_
   refine pC H hx53 fun hc72 H => ?_
   refine Oa (ApO [1, 0] sl78 sl78 sz78) fun c73 => ?_
   refine Jo 0 ?_; rintro a74 k75 rfl
   refine Fb 16 0 fun _ => ?_
   refine FoS 0 fun ho77 => ?_
   have hn78 := la words_41 ([rv65] : List Str)
   refine Oq Va (KS ?_)
   refine Oq Vadd (Oq Vm (KS ?_))
   refine pC H hx53 fun hc79 H => ?_
   exact Kg (r62, (words_41 ++ [rv65]), (v29_42 + 1), a74, k75) [0, 0, 1, 2] ⟨H, aM1, aM1, aM1, aM1⟩
  intro h60
  have g80 := df h60
  obtain rfl : r40 = 0 := by omega
  have H := hM45; (try dsimp only at H); rw [layout_Draw_L1] at H
  refine Ke ?_
  have H := llB H HL54
  refine KS ?_
  refine Oq Vm ?_
  refine lbH H hx29 fun rv81 hg82 H => ?_
  refine Oc [0] ca36 (FT_borrow (A := _) (fun _ _ h => by cases h) (FT_ent (Ent.take (is := [0]) rfl) (fn36 words_41 a43 k44 ((Str.mk [32])) pre rv81 hg82))) ?_ (ht := rfl)
  rintro - he83
  have hb84 := sadd_len rv81 (Str.mk [10])
  have hb85 : (Str.mk [10]).b.length = 1 := rfl
  refine pC H hx29 fun hc86 H => ?_
  refine Oq (VadS (l := rv81) (m := (Str.mk [10]))) ?_
  refine lbH H hx29 fun rv87 hg88 H => ?_
  have hc89 := fn35 p11 b_20 ((rv81 ++ (Str.mk [10]))) pre rv87 hg88
  refine Oc [3] ca35 hc89 ?_
  rintro - -
  refine KS ?_
  refine Oq Vadd (Oq Vm (KS ?_))
  refine pC H hx29 fun hc90 H => ?_
  exact Kg (r34, rv87, (v23_21 + 1)) [3, 0] ⟨H, aM1, aM1, aM1, aM1⟩
 intro h32
 have g91 := df h32
 obtain rfl : r19 = 0 := by omega
 have H := hM22; (try dsimp only at H); rw [layout_Draw_L0] at H
 refine Ke ?_
 have H := llB H HL30
 refine KS ?_
 refine lbH H hx0 fun rv92 hg93 H => ?_
 have hc94 := fn37 p11 b_20 rv92 hg93
 refine Oc [1] ca37 hc94 ?_
 rintro - he95
 refine Oq Va (Oq Va (KS ?_))
 have hq := rI H; subst hq
 exact Kr () rfl (.tmp rfl (.tmp rfl .nil)) [] en
theorem fn11O  (rr : Bool) (hrr : w33_saneO = .ret rr) : FT Tryd.prog 11 #[] [] (fun g : Unit => True) (fun g => vb rr) (fun g => []) := by
 refine FTi Tryd.func11 fun w0 M0 F0 => ?_
 have hx0 := lrn rr; have H := hrr; unfold w33_saneO at H
 refine KS ?_
 refine Oq Va (KS ?_)
 refine lbH H hx0 fun rv4 hg5 H => ?_
 have hc6 := fn13  rv4 hg5
 refine Oc [] ca13 hc6 ?_
 rintro ⟨c1, c2, c3⟩ -
 refine Jo 0 ?_; rintro a7 k8 rfl
 refine Fb 32 0 fun _ => ?_
 refine Jo 1 ?_; rintro a10 k11 rfl
 refine Fb 24 1 fun _ => ?_
 refine Jo 2 ?_; rintro a13 k14 rfl
 refine Fb 24 2 fun _ => ?_
 refine lbH H hx0 fun rv17 hg18 H => ?_
 have hc19 := fn20 rv4 a7 k8 a10 k11 a13 k14 0 pre rv17 hg18
 refine Oc [0, 1, 2] ca20 hc19 ?_
 rintro c16 he20
 unfold i64ok at he20
 refine Jo 0 ?_; rintro a21 k22 rfl
 refine Fb 16 0 fun _ => ?_
 refine Oq Vm (Oq Vx (Oq Vx (Oq Va (Oq Va (KS ?_)))))
 have hc27 := fn13  rv4 hg5
 refine Oc [] ca13 hc27 ?_
 rintro ⟨c24, c25, c26⟩ -
 refine Jo 0 ?_; rintro a28 k29 rfl
 refine Jo 1 ?_; rintro a30 k31 rfl
 refine Jo 2 ?_; rintro a32 k33 rfl
 refine lbH H hx0 fun rv34 hg35 H => ?_
 have hc36 := fn21 rv4 a28 k29 a30 k31 a32 k33 0 pre rv34 hg35
 refine Oc [0, 1, 2] ca21 hc36 ?_
 rintro - ⟨he37, he38⟩
 unfold i64ok at he38
 refine Oq Vm (Oq Vx (Oq Vx (Oq Va (Oq Va (KS ?_)))))
 refine Oa (AsV sl30 sz30 [cxv (Cpx.mk 0#64 4607182418800017408#64)] [cxv (Cpx.mk 0#64 4607182418800017408#64)]) fun c39 => ?_
 refine Jo 0 ?_; rintro a40 k41 rfl
 refine Jl [0] (Ent.cr1 (α := Cpx) (A := []) _ (Cpx.mk 0#64 4607182418800017408#64) _ aB1 (fun _ => rfl)) ?_
 refine Jl [0] (Ent.freeze _ _) ?_
 refine lvH H fun rv43 hg44 H => ?_
 have hc45 := fn10 ([(Cpx.mk 0#64 4607182418800017408#64)]) a40 k41 1 pre rv43 hg44
 refine Oc [0] ca10 hc45 ?_
 rintro c42 -
 refine Jo 0 ?_; rintro a46 k47 rfl
 refine Fb 16 0 fun _ => ?_
 refine Oq Va (KS ?_)
 refine Oq Vm (Oq Veql (Oq Vm ?_))
 refine pT H hx0 fun h49 H => ?_
 refine JsT 20 h49 ?_
 have g50 := eq_of_beq h49
 refine Oq Vm (Oq Veql (Oq Vpt (Oq Vm ?_)))
 refine pT H hx0 fun h51 H => ?_
 refine JsT 24 h51 ?_
 have g52 := eq_of_beq h51
 refine Oq Vm (Oq (Vlen sl30) (Oq Veql (Oq Vpt (Oq Vm ?_))))
 refine pT H hx0 fun h53 H => ?_
 refine JsT 29 h53 ?_
 have g54 := eq_of_beq h53
 refine Oq Vm ?_
 refine pC H hx0 fun hc55 H => ?_
 refine Oq (Vi sl30 5) (Oq (VldCx sh37 5) (Oq (VeqC (a := (rv17.1.getD (0 : Int).toNat default)) (b := (Cpx.mk 0#64 0#64))) (Oq Vpt (Oq Vm ?_))))
 refine pT H hx0 fun h56 H => ?_
 refine JsT 35 h56 ?_
 refine Oq Vm ?_
 refine pC H hx0 fun hc58 H => ?_
 refine Oq (Vi sl30 5) (Oq (VldCx sh37 5) (Oq (VeqC (a := (rv17.1.getD (1 : Int).toNat default)) (b := (Cpx.mk 0#64 4607182418800017408#64))) (Oq Vpt (Oq Vm ?_))))
 refine pT H hx0 fun h59 H => ?_
 refine JsT 41 h59 ?_
 refine Oq Vm ?_
 refine pC H hx0 fun hc61 H => ?_
 refine Oq (Vi sl30 5) (Oq (VldCx sh37 5) (Oq (VeqC (a := (rv17.1.getD (2 : Int).toNat default)) (b := (Cpx.mk 4607182418800017408#64 4607182418800017408#64))) (Oq Vpt (Oq Vm ?_))))
 refine pT H hx0 fun h62 H => ?_
 refine JsT 47 h62 ?_
 refine Oq Vm ?_
 refine pC H hx0 fun hc64 H => ?_
 refine Oq (Vi sl30 5) (Oq (VldCx sh37 5) (Oq (VeqC (a := (rv17.1.getD (3 : Int).toNat default)) (b := (Cpx.mk 0#64 4611686018427387904#64))) (Oq Vpt (Oq Vm ?_))))
 refine pT H hx0 fun h65 H => ?_
 refine JsT 53 h65 ?_
 have hc70 := fn13  rv4 hg5
 refine Oc [] ca13 hc70 ?_
 rintro ⟨c67, c68, c69⟩ -
 refine Jo 0 ?_; rintro a71 k72 rfl
 refine Jo 1 ?_; rintro a73 k74 rfl
 refine Jo 2 ?_; rintro a75 k76 rfl
 refine Oq Vm ?_
 refine lbH H hx0 fun rv77 hg78 H => ?_
 have hc79 := fn14 rv4 a71 k72 a73 k74 a75 k76 rv17.1 a21 k22 rv77 hg78
 refine Oc [0, 1, 2, 8] ca14 hc79 ?_
 rintro - he80
 unfold i64ok at he80
 refine Oq Veql (Oq Vpt (Oq Vm ?_))
 refine pT H hx0 fun h81 H => ?_
 refine JsT 59 h81 ?_
 have g82 := eq_of_beq h81
 refine Oq Vm (Oq (VeqS (l := rv34.1) (m := (Str.mk [48, 10, 49, 32, 50, 10, 51, 10]))) (Oq Vpt (Oq Vm ?_)))
 refine pT H hx0 fun h83 H => ?_
 refine JsT 63 h83 ?_
 have g84 := eq_of_beq h83
 refine Oq Vm (Oq (Vlen sl30) (Oq Veql (Oq Vpt (Oq Vm ?_))))
 refine pT H hx0 fun h85 H => ?_
 refine JsT 68 h85 ?_
 have g86 := eq_of_beq h85
 refine Oq Vm ?_
 refine pC H hx0 fun hc87 H => ?_
 refine Oq (Vi sl30 3) (Oq (VldCx sh37 3) (Oq (VeqC (a := (rv43.getD (0 : Int).toNat default)) (b := (Cpx.mk 13830554455654793216#64 0#64))) (Oq Vpt (Oq Va (KS ?_)))))
 have hq := rI H; subst hq
 exact Kr () rfl (.tmp rfl .nil) [] trivial
theorem w33_sane_c : w33_saneO = .ret true := by kernel_rfl
theorem fn11  (rr : Bool) (hrr : w33_sane = rr) : FT Tryd.prog 11 #[] [] (fun g : Unit => True) (fun g => vb rr) (fun g => []) := by
 subst hrr; exact fn11O  true w33_sane_c
theorem fn6 (l : List Int) (la0 : Option Addr) (lk0 : Nat) (rr : Unit) (hrr : g_New l = rr) : FT Tryd.prog 6 #[vl la0 lk0 l] [S la0 lk0 l] (fun g : Value => True) (fun g => g) (fun g => [Cl g [vl la0 lk0 l, vi 0]]) := by
 refine FTi Tryd.func6 fun w0 M0 F0 => Fb 8 0 fun _ => Fo 0 fun ho2 => ?_
 refine KS ?_
 refine Oq Va (KS ?_)
 refine Oq Vm (Oq (Vbd st52 [vl la0 lk0 l, vi 0]) (Oa (AbO [vl la0 lk0 l, vi 0]) fun p3 => Oq Va (KS ?_)))
 have hq := q4 hrr () (by simp only [g_New, cs4]); subst hq
 exact Kr p3 rfl (.tmp rfl .nil) [0] trivial
theorem fn17 (v : Int) (n : Int) (hv_0 : i64ok v) (hn_0 : i64ok n) (hn1 : 1 ≤ n) (rr : Int) (hrr : g_Mod v n = rr) : FT Tryd.prog 17 #[vi v, vi n] [] (fun g : Unit => i64ok rr ∧ (0 ≤ rr ∧ rr < n)) (fun g => vi rr) (fun g => []) := by
 refine FTi Tryd.func17 fun w0 M0 F0 => ?_
 unfold i64ok at hv_0 hn_0
 have hm := mod_range v n aM1
 refine KS ?_
 refine Oq Va (KS ?_)
 refine Oq Vm (Oq (VcU un3 un68) (Oq Vm (Oq (VcU un3 un68) (Oq (VremU (ofInt_ne n aM1)) (Oq (VcN un68 un3 (h := (mod_le v n aM1))) (Oq Va (KS ?_)))))))
 have hq := q4 hrr (((BitVec.ofInt 64 v) % (BitVec.ofInt 64 n)).toNat : Int) (by simp only [g_Mod, cs4]); subst hq
 exact Kr () rfl (.tmp rfl .nil) [] en
theorem fn7 (tP : Value) (ta : Option Addr) (tk : Nat) (tT : List Int) (tI : Int) (n : Int) (htI : 0 ≤ tI ∧ tI ≤ (tT.length : Int)) (hn_0 : i64ok n) (rr : Int × Int) (hrr : tp_Next tT tI n = rr) : FT Tryd.prog 7 #[tP, vi n] [Cl tP [vl ta tk tT, vi tI], S ta tk tT] (fun g : Unit => i64ok rr.1 ∧ (0 ≤ rr.2 ∧ rr.2 ≤ (tT.length : Int)) ∧ (0 ≤ rr.1 ∧ (rr.1 < n ∨ rr.1 = 0))) (fun g => vi rr.1) (fun g => [Cl tP [vl ta tk tT, vi rr.2]]) := by
 refine FTi Tryd.func7 fun w0 M0 F0 => ?_
 unfold i64ok at hn_0
 refine Fb 8 1 fun _ => Fo 1 fun ho2 => KS ?_
 refine Oq Va (KS ?_)
 refine Jp 0 fun hp3 => ?_
 refine Kq [0, 1, 3, 7, 15, 31, 63, 7, 135, 391, 903, 1927, 4095, 8191] fmix ?_
 refine Qv [] Vm (Qv [] Vleq ?_)
 refine bool_split (decide (n ≤ 1)) ?_ ?_
 ·intro h4
  have g5 := dt h4
  refine Qb h4 [] Vm (Qs (Qs (Qs (Qs (Qs (Qs (Qs (Qs (Qs ?_)))))))))
  refine Qs (Qv [] Vpt ?_)
  refine Qn ⟨by kernel_rfl, ?_⟩
  refine Kt (KS ?_)
  refine Oq Va (KS ?_)
  have hq := q4 hrr (0, tI) (by simp only [tp_Next, h4, cs4]); subst hq
  exact Kr () rfl (.tmp rfl .nil) [1] en
 intro h4
 have g6 := df h4
 refine Qb h4 [] Vm (Qv [] Vm (Qv [0] (Vn 0) (Qv [0] (Vfa fo52_1 0) (Qv [1] (VldF sh3 0) (Qv [] Vm (Qv [0] (Vn 0) (Qv [0] (Vfa fo52_0 0) (Qv [1] (VldF sh22 0) (Qv [] (Vlen sl22) ?_)))))))))
 refine Qv [] Vgeq (Qv [] Vpf ?_)
 refine Qn ⟨by kernel_rfl, ?_⟩
 refine Kc ?_ ?_
 ·intro h7
  have g8 := dt h7
  refine KS ?_
  refine Oq Va (KS ?_)
  have hq := q4 hrr (0, tI) (by simp only [tp_Next, h4, h7, cs4]); subst hq
  exact Kr () rfl (.tmp rfl .nil) [1] en
 intro h7
 have g9 := df h7
 refine KS ?_
 refine Oq Vm (Oq (Vn 1) (Oq (Vfa fo52_1 1) (Oq (VldF sh3 1) (Oq Vadd (Oq (Vn 1) (Oq (Vfa fo52_1 1) (Ost (SclF [1] sh3 [vl ta tk tT, vi (tI + 1)]) (KS ?_))))))))
 refine JK_drawK [0, 1, 3, 7, 0, 16, 48, 112, 240, 511, 1023, 0, 4095, 8191] fmix ?_
 refine Dv [] Vm (Dv [1] (Vn 0) (Dv [1] (Vfa fo52_0 0) (Dv [0] (VldF sh22 0) (Dv [] Vm (Dv [1] (Vn 0) (Dv [1] (Vfa fo52_1 0) (Dv [0] (VldF sh3 0) (Dv [] Vsub (Dv [2] (Vi sl22 0) ?_)))))))))
 have hb10 := ok1 (i := (((tI + 1) - 1) : Int).toNat) ho2 rng
 refine Dv [2] (VldI sh3 0) (Dv [] Vm ?_)
 refine letv (g_Mod (tT.getD (((tI + 1) - 1) : Int).toNat 0) n) fun rv11 hg12 => ?_
 refine Dx [] [] [0] (fun G => vi rv11) [fun G => SP.fact (i64ok rv11 ∧ (0 ≤ rv11 ∧ rv11 < n))] (fun G => xC [] ca17 (fn17 ((tT.getD (((tI + 1) - 1) : Int).toNat 0)) n pre pre pre rv11 hg12)) (Dv [] Va ?_)
 refine Dn ⟨by kernel_rfl, fun G => ?_⟩
 refine Jw2 [(4, vi rv11)] [0, 1, 2] [SP.fact (i64ok rv11 ∧ (0 ≤ rv11 ∧ rv11 < n))] ?_
 refine Jf 3 rfl ?_; rintro ⟨he13, he14⟩
 unfold i64ok at he13
 refine Jk [0, 1] ?_
 have hq := q4 hrr (rv11, (tI + 1)) (by simp only [tp_Next, h4, h7, hg12, cs4]); subst hq
 exact Kr () rfl (.tmp rfl .nil) [0] en
theorem fn8 (l : List GPoint) (la0 : Option Addr) (lk0 : Nat) (rr : List Cpx) (hrr : w33_points l = rr) : FT Tryd.prog 8 #[vl la0 lk0 l] [S la0 lk0 l] (fun g : Value => (rr.length = l.length)) (fun g => g) (fun g => [sl g rr]) := by
 refine FTi Tryd.func8 fun w0 M0 F0 => Fb 16 0 fun _ => ?_
 refine KS ?_
 refine Oq Va (KS ?_)
 refine Oq Va (KS ?_)
 refine Oq Va (KS ?_)
 refine Jl [] (Ent.osNil (α := Cpx)) ?_
 refine Kl (γ := Nat × List Cpx × Int × Option Addr × Nat) (fun (r2, out_3, i_4, a5, k6) => ⟨[(0, vl la0 lk0 l), (3, vl a5 k6 out_3), (4, vi i_4)], [O a5 k6 out_3, S la0 lk0 l], w33_points_L0 l r2 out_3 i_4 = w33_points_L0 l (((l.length : Int) - 0).toNat) [] 0 ∧ r2 = ((l.length : Int) - i_4).toNat ∧ (0 : Int) ≤ i_4 ∧ i_4 ≤ (l.length : Int) ∧ (-9223372036854775808 ≤ i_4 ∧ i_4 ≤ 9223372036854775807) ∧ ((out_3.length : Int) = i_4), r2⟩) (((l.length : Int) - 0).toNat, [], 0, none, 0) [0, 0] ⟨rfl, rfl, aM1, aM1, aM1, iv0⟩ ?_
 rintro ⟨r2, out_3, i_4, a5, k6⟩ ⟨hM7, hr8, hi9, hi10, hk11, hv12⟩
 refine JJ_nx fun _ _ hL hA => ?_; dsimp only at hL hA; subst hL hA
 refine Fb 16 0 fun _ => Fb 16 1 fun _ => KS ?_
 refine Oq Vm (Oq Vm (Oq (Vlen sl26) (Oq Vlss (KS ?_))))
 refine Kc ?_ ?_
 ·intro h15
  have g16 := dt h15
  obtain ⟨r17, rfl⟩ := scc (n := r2) aM1
  refine KS ?_
  refine JJ_peek_GPoint i_4.toNat 1 rfl rng fun hb18 hb19 => ?_
  unfold i64ok at hb18 hb19
  refine JK_drawK [0, 0, 0, 6, 14, 30, 62, 0, 0, 384, 896, 1920, 3968, 8190, 16382, 32767, 65535] fmix ?_
  refine Dv [] Vm (Dv [] Vm (Dv [] Vm (Dv [2] (Vi sl26 0) (Dv [0] (Vfa fo29_0 0) (Dv [0] (VldF sh3 0) (Dv [] (VcIF (n := (l.getD i_4.toNat default).X) un3 un36) (Dv [] Vm (Dv [] Vm (Dv [2] (Vi sl26 0) ?_)))))))))
  refine Dv [0] (Vfa fo29_1 0) (Dv [0] (VldF sh3 0) (Dv [] (VcIF (n := (l.getD i_4.toNat default).Y) un3 un36) (Dv [] (Vcx (a := (fofI ((l.getD i_4.toNat default).X))) (b := (fofI ((l.getD i_4.toNat default).Y)))) (Dx [] [] [0] (fun G => (G.g 14 0)) [fun G => Cr (G.g 14 0) 1 [cxv (Cpx.mk (fofI ((l.getD i_4.toNat default).X)).b (fofI ((l.getD i_4.toNat default).Y)).b)]] (fun G => xA (AsV sl30 sz30 [cxv (Cpx.mk (fofI ((l.getD i_4.toNat default).X)).b (fofI ((l.getD i_4.toNat default).Y)).b)] [cxv (Cpx.mk (fofI ((l.getD i_4.toNat default).X)).b (fofI ((l.getD i_4.toNat default).Y)).b)])) ?_))))
  have hn22 := la out_3 ([(Cpx.mk (fofI ((l.getD i_4.toNat default).X)).b (fofI ((l.getD i_4.toNat default).Y)).b)] : List Cpx)
  refine Dx [1, 3] [1, 3] [0] (fun G => (G.g 15 0)) [fun G => os (G.g 15 0) ((out_3 ++ [(Cpx.mk (fofI ((l.getD i_4.toNat default).X)).b (fofI ((l.getD i_4.toNat default).Y)).b)]) : List Cpx)] (fun G => xp [1] rfl (Ent.cr1 (α := Cpx) (A := []) _ (Cpx.mk (fofI ((l.getD i_4.toNat default).X)).b (fofI ((l.getD i_4.toNat default).Y)).b) _ aB1 (fun _ => rfl)) (xA (ApO [1, 0] sl30 sl30 sz30))) (Dg [] (fun G => (G.g 15 0)) (fun G => Va) ?_)
  refine Dn ⟨by kernel_rfl, fun G => ?_⟩
  refine Jw2 [(0, vl la0 lk0 l), (4, vi i_4), (3, (G.g 15 0))] [0, 2] [os (G.g 15 0) ((out_3 ++ [(Cpx.mk (fofI ((l.getD i_4.toNat default).X)).b (fofI ((l.getD i_4.toNat default).Y)).b)]) : List Cpx)] ?_
  generalize G.g 15 0 = c21
  refine Jo 2 ?_; rintro a23 k24 rfl
  refine Fb 16 2 fun _ => KS ?_
  refine Oq Vm (Oq Vadd (Oq Va (KS ?_)))
  exact Kg (r17, (out_3 ++ [(Cpx.mk (fofI ((l.getD i_4.toNat default).X)).b (fofI ((l.getD i_4.toNat default).Y)).b)]), (i_4 + 1), a23, k24) [2, 1] ⟨(q3 hM7 (by simp only [w33_points_L0, h15, cs4])), aM1, aM1, aM1, aM1, iv1⟩
 intro h15
 have g26 := df h15
 obtain rfl : r2 = 0 := by omega
 refine Ke ?_
 have hR27 := q2 hM7 out_3 (by simp only [w33_points_L0, h15, cs4])
 refine KS ?_
 refine Oq Vm (Oq Va (KS ?_))
 refine Jl [0] (Ent.freeze _ _) ?_
 have hq := q4 hrr out_3 (by simp only [w33_points, h15, hR27, cs4]); subst hq
 exact Kr (vl a5 k6 out_3) rfl (.tmp rfl .nil) [0] en
theorem fn9 (a : List Cpx) (aa0 : Option Addr) (ak0 : Nat) (b : List Cpx) (ba0 : Option Addr) (bk0 : Nat) (rr : Bool) (hrr : w33_same a b = rr) : FT Tryd.prog 9 #[vl aa0 ak0 a, vl ba0 bk0 b] [S aa0 ak0 a, S ba0 bk0 b] (fun g : Unit => True) (fun g => vb rr) (fun g => []) := by
 refine FTi Tryd.func9 fun w0 M0 F0 => Fb 16 0 fun _ => Fb 16 1 fun _ => ?_
 refine KS ?_
 refine Oq Va (KS ?_)
 refine Oq Vm (Oq (Vlen sl30) (Oq Vm (Oq (Vlen sl30) (Oq Vneq (KS ?_)))))
 refine Kc ?_ ?_
 ·intro h3
  have g4 := ne_of_bne h3
  refine KS ?_
  refine Oq Va (KS ?_)
  have hq := q4 hrr false (by simp only [w33_same, h3, cs4]); subst hq
  exact Kr () rfl (.tmp rfl .nil) [] trivial
 intro h3
 have g5 := eq_of_bne_false h3
 refine KS ?_
 refine Oq Va (KS ?_)
 refine Kl (γ := Nat × Int) (fun (r6, i_7) => ⟨[(0, vl aa0 ak0 a), (1, vl ba0 bk0 b), (5, vi i_7)], [S aa0 ak0 a, S ba0 bk0 b], w33_same_L0 a b r6 i_7 = w33_same_L0 a b (((a.length : Int) - 0).toNat) 0 ∧ r6 = ((a.length : Int) - i_7).toNat ∧ (0 : Int) ≤ i_7 ∧ i_7 ≤ (a.length : Int) ∧ (-9223372036854775808 ≤ i_7 ∧ i_7 ≤ 9223372036854775807), r6⟩) (((a.length : Int) - 0).toNat, 0) [0, 1] ⟨rfl, rfl, aM1, aM1, aM1⟩ ?_
 rintro ⟨r6, i_7⟩ ⟨hM8, hr9, hi10, hi11, hk12⟩
 refine JJ_nx fun _ _ hL hA => ?_; dsimp only at hL hA; subst hL hA
 refine Fb 16 0 fun _ => Fb 16 1 fun _ => KS ?_
 refine Oq Vm (Oq Vm (Oq (Vlen sl30) (Oq Vlss (KS ?_))))
 refine Kc ?_ ?_
 ·intro h15
  have g16 := dt h15
  obtain ⟨r17, rfl⟩ := scc (n := r6) aM1
  refine KS ?_
  refine Kq [0, 0, 3, 7, 0, 0, 48, 112, 255] fmix ?_
  refine Qv [] Vm (Qv [] Vm (Qv [0] (Vi sl30 0) (Qv [0] (VldCx sh37 0) (Qv [] Vm (Qv [] Vm (Qv [1] (Vi sl30 0) (Qv [1] (VldCx sh37 0) (Qv [] (VneC (a := (a.getD i_7.toNat default)) (b := (b.getD i_7.toNat default))) ?_))))))))
  refine Qn ⟨by kernel_rfl, ?_⟩
  refine Kc ?_ ?_
  ·intro h18
   have h20 := not_true h18
   refine KS ?_
   refine Oq Va (KS ?_)
   have hR22 := q2 hM8 (.ret false) (by simp only [w33_same_L0, h15, h18, h20, cs4])
   have hq := q4 hrr false (by simp only [w33_same, h3, h15, h18, h20, hR22, cs4]); subst hq
   exact Kr () rfl (.tmp rfl .nil) [] trivial
  intro h18
  have h24 := not_false h18
  refine KS ?_
  refine Oq Vm (Oq Vadd (Oq Va (KS ?_)))
  exact Kg (r17, (i_7 + 1)) [0, 1] ⟨(q3 hM8 (by simp only [w33_same_L0, h15, h18, h24, cs4])), aM1, aM1, aM1, aM1⟩
 intro h15
 have g26 := df h15
 obtain rfl : r6 = 0 := by omega
 refine Ke ?_
 have hR27 := q2 hM8 (.brk ()) (by simp only [w33_same_L0, h15, cs4])
 refine KS ?_
 refine Oq Va (KS ?_)
 have hq := q4 hrr true (by simp only [w33_same, h3, h15, hR27, cs4]); subst hq
 exact Kr () rfl (.tmp rfl .nil) [] trivial
theorem fn3 (t : List Int) (ta0 : Option Addr) (tk0 : Nat) (a : Int) (b : Int) (ha_0 : -128 ≤ a ∧ a ≤ 127) (hb_0 : -128 ≤ b ∧ b ≤ 127) (rr : Bool) (hrr : w33_LayoutTurns t a b = rr) : FT Tryd.prog 3 #[vl ta0 tk0 t, .int .i8 a, .int .i8 b] [S ta0 tk0 t] (fun g : Unit => True) (fun g => vb rr) (fun g => []) := by
 refine FTi Tryd.func3 fun w0 M0 F0 => Fb 8 0 fun _ => Fo 0 fun ho2 => ?_
 refine KS ?_
 refine Oq Va (KS ?_)
 refine Oq Vm ?_
 refine letv (g_New t) fun rv4 hg5 => ?_
 have hc6 := fn6 t ta0 tk0 rv4 hg5
 refine Oc [0] ca6 hc6 ?_
 rintro c3 -
 refine Oq Va (KS ?_)
 refine Oq Va (KS ?_)
 refine Oq Vm ?_
 refine letv (tp_Next t 0 6) fun rv7 hg8 => ?_
 have hc9 := fn7 c3 ta0 tk0 t 0 6 pre pre rv7 hg8
 refine Oc [0, 0] ca7 hc9 ?_
 rintro - ⟨he10, he11, he12⟩
 unfold i64ok at he10
 refine Oq Va (KS ?_)
 refine Jl [] (Ent.osNil (α := GPoint)) ?_
 refine Kl (γ := Nat × Int × List GPoint × Int × Option Addr × Nat) (fun (r13, k1_14, l_15, n_16, a17, k18) => ⟨[(1, .int .i8 a), (2, .int .i8 b), (7, c3), (8, vl a17 k18 l_15), (9, vi n_16)], [O a17 k18 l_15, Cl c3 [vl ta0 tk0 t, vi k1_14], S ta0 tk0 t], w33_LayoutTurns_L0 t r13 k1_14 l_15 n_16 = w33_LayoutTurns_L0 t (rv7.1.toNat) rv7.2 [] rv7.1 ∧ r13 = n_16.toNat ∧ n_16 ≤ (rv7.1 : Int) ∧ (-9223372036854775808 ≤ k1_14 ∧ k1_14 ≤ 9223372036854775807) ∧ (0 ≤ k1_14 ∧ k1_14 ≤ (t.length : Int)) ∧ (-9223372036854775808 ≤ n_16 ∧ n_16 ≤ 9223372036854775807) ∧ ((l_15.length : Int) + n_16 ≤ 5), r13⟩) (rv7.1.toNat, rv7.2, [], rv7.1, none, 0) [0, 0, 0] ⟨rfl, rfl, aM1, aM1, aM1, aM1, iv0⟩ ?_
 rintro ⟨r13, k1_14, l_15, n_16, a17, k18⟩ ⟨hM19, hr20, hi21, hk22, ht23, hk24, hv25⟩
 refine JJ_nx fun _ _ hL hA => ?_; dsimp only at hL hA; subst hL hA
 refine Fb 16 0 fun _ => Fb 8 2 fun _ => Fo 2 fun ho28 => KS ?_
 refine Oq Vm (Oq Vgtr (KS ?_))
 refine Kc ?_ ?_
 ·intro h29
  have g30 := dt h29
  obtain ⟨r31, rfl⟩ := scc (n := r13) aM1
  refine KS ?_
  refine Oq Vm (Oq Vm ?_)
  refine letv (tp_Next t k1_14 40) fun rv32 hg33 => ?_
  have hc34 := fn7 c3 ta0 tk0 t k1_14 40 pre pre rv32 hg33
  refine Oc [1, 1] ca7 hc34 ?_
  rintro - ⟨he35, he36, he37⟩
  unfold i64ok at he35
  refine Oq Vsub (Oq Vm ?_)
  refine letv (tp_Next t rv32.2 40) fun rv38 hg39 => ?_
  have hc40 := fn7 c3 ta0 tk0 t rv32.2 40 pre pre rv38 hg39
  refine Oc [0, 1] ca7 hc40 ?_
  rintro - ⟨he41, he42, he43⟩
  unfold i64ok at he41
  refine Oq Vsub (Oq (Vbd st29 [vi (rv32.1 - 20), vi (rv38.1 - 20)]) (Oa (AsV sl26 sz26 [.agg #[vi (rv32.1 - 20), vi (rv38.1 - 20)]] [vi (rv32.1 - 20), vi (rv38.1 - 20)]) fun c44 => ?_))
  refine Jo 0 ?_; rintro a45 k46 rfl
  refine Jl [0] (Ent.cr1 (α := GPoint) (A := []) _ (GPoint.mk (rv32.1 - 20) (rv38.1 - 20)) _ aB1 (fun h => ⟨rfl, aL1, aL1⟩)) ?_
  refine Oa (ApO [2, 0] sl26 sl26 sz26) fun c47 => ?_
  refine Jo 0 ?_; rintro a48 k49 rfl
  refine Fb 16 0 fun _ => ?_
  have hn51 := la l_15 ([(GPoint.mk (rv32.1 - 20) (rv38.1 - 20))] : List GPoint)
  refine Oq Va (KS ?_)
  refine Oq Vm (Oq Vsub (Oq Va (KS ?_)))
  exact Kg (r31, rv38.2, (l_15 ++ [(GPoint.mk (rv32.1 - 20) (rv38.1 - 20))]), (n_16 - 1), a48, k49) [0, 0, 0] ⟨(q3 hM19 (by simp only [w33_LayoutTurns_L0, h29, hg33, hg39, cs4])), aM1, aM1, aM1, aM1, aM1, iv1⟩
 intro h29
 have g52 := df h29
 obtain rfl : r13 = 0 := by omega
 refine Ke ?_
 have hR53 := q2 hM19 l_15 (by simp only [w33_LayoutTurns_L0, h29, cs4])
 refine KS ?_
 refine Oq Vm ?_
 refine Jl [0] (Ent.freeze _ _) ?_
 refine letv (w33_points l_15) fun rv55 hg56 => ?_
 have hc57 := fn8 l_15 a17 k18 rv55 hg56
 refine Oc [0] ca8 hc57 ?_
 rintro c54 he58
 refine Jo 0 ?_; rintro a59 k60 rfl
 refine Fb 16 0 fun _ => ?_
 refine Oq Va (KS ?_)
 refine Oq Vm ?_
 refine letv (layout_Turn rv55 4) fun rv63 hg64 => ?_
 have hc65 := fn10 rv55 a59 k60 4 pre rv63 hg64
 refine Oc [0] ca10 hc65 ?_
 rintro c62 -
 refine Jo 0 ?_; rintro a66 k67 rfl
 refine Fb 16 0 fun _ => Oq Vm ?_
 refine Jl [0] (Ent.freeze _ _) ?_
 refine letv (w33_same rv63 rv55) fun rv69 hg70 => ?_
 have hc71 := fn9 rv63 a66 k67 rv55 a59 k60 rv69 hg70
 refine Oc [0, 1] ca9 hc71 ?_
 rintro - -
 refine Oq Vm ?_
 refine Js 35 ?_ ?_
 ·intro h72
  refine Oq Vm (Oq Vm (Oq (VcK un23 un3) ?_))
  refine letv (layout_Turn rv55 a) fun rv75 hg76 => ?_
  have hc77 := fn10 rv55 a59 k60 a pre rv75 hg76
  refine Oc [1] ca10 hc77 ?_
  rintro c74 -
  refine Jo 0 ?_; rintro a78 k79 rfl
  refine Fb 16 0 fun _ => ?_
  refine Oq Vm (Oq (VcK un23 un3) ?_)
  refine Jl [0] (Ent.freeze _ _) ?_
  refine letv (layout_Turn rv75 b) fun rv82 hg83 => ?_
  have hc84 := fn10 rv75 a78 k79 b pre rv82 hg83
  refine Oc [0] ca10 hc84 ?_
  rintro c81 -
  refine Jo 0 ?_; rintro a85 k86 rfl
  refine Fb 16 0 fun _ => ?_
  refine Oq Vm (Oq Vm (Oq (VcK un23 un3) (Oq Vm (Oq (VcK un23 un3) (Oq Vadd ?_)))))
  refine letv (layout_Turn rv55 (a + b)) fun rv89 hg90 => ?_
  have hc91 := fn10 rv55 a59 k60 ((a + b)) pre rv89 hg90
  refine Oc [3] ca10 hc91 ?_
  rintro c88 -
  refine Jo 0 ?_; rintro a92 k93 rfl
  refine Fb 16 0 fun _ => ?_
  refine Jl [1] (Ent.freeze _ _) ?_
  refine Jl [1] (Ent.freeze _ _) ?_
  refine letv (w33_same rv82 rv89) fun rv95 hg96 => ?_
  have hc97 := fn9 rv82 a85 k86 rv89 a92 k93 rv95 hg96
  refine Oc [1, 0] ca9 hc97 ?_
  rintro - -
  refine Oq Vpt (Oq Vm ?_)
  refine Js 52 ?_ ?_
  ·intro h98
   have hc100 := fn11  w33_sane rfl
   refine Oc [] ca11 hc100 ?_
   rintro - -
   refine Oq Vpt (Oq Va (KS ?_))
   have hq := q4 hrr w33_sane (by simp only [w33_LayoutTurns, h29, h72, h98, hg5, hg8, hR53, hg56, hg64, hg70, hg76, hg83, hg90, hg96, cs4]); subst hq
   exact Kr () rfl (.tmp rfl .nil) [] trivial
  intro h98
  refine Osk (Oq Vpf (Oq Va (KS ?_)))
  have hq := q4 hrr false (by simp only [w33_LayoutTurns, h29, h72, h98, hg5, hg8, hR53, hg56, hg64, hg70, hg76, hg83, hg90, hg96, cs4]); subst hq
  exact Kr () rfl (.tmp rfl .nil) [] trivial
 intro h72
 refine Osk (Osk (Osk (Osk (Osk (Osk (Osk (Osk (Osk (Osk ?_)))))))))
 refine Osk (Osk (Osk (Osk (Osk (Oq Vpf (Oq Vm (Osk (Oq Vpf (Oq Va ?_)))))))))
 refine KS ?_
 have hq := q4 hrr false (by simp only [w33_LayoutTurns, h29, h72, hg5, hg8, hR53, hg56, hg64, hg70, cs4]); subst hq
 exact Kr () rfl (.tmp rfl .nil) [] trivial
end Go.SL.G
