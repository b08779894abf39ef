/- Part 2 of the walks: mirrors, plain laws and walks used by the last text of this claim. -/
import Derived.Test.YtloefgfjlmglgaaDoorW1
import Derived.Test.YtloefgfjlmglgaaDoorProg
set_option linter.unusedVariables false
set_option linter.unusedSimpArgs false
namespace Go.SL.G
open Go Go.SL Go.Proofs
set_option maxHeartbeats 20000000
set_option maxRecDepth 100000
structure GNode where
 Kind : Int
 Func : Int
 Block : Int
 Stmt : Int
instance : Inhabited GNode := ⟨⟨0, 0, 0, 0⟩⟩
structure GGraph where
 Nodes : List GNode
 Succ : List (List Int)
 Pred : List (List Int)
instance : Inhabited GGraph := ⟨⟨[], [], []⟩⟩
structure Gedge where
 from_ : Cpx
 to_ : Cpx
instance : Inhabited Gedge := ⟨⟨⟨0#64, 0#64⟩, ⟨0#64, 0#64⟩⟩⟩
def tab0 : Str := (Str.mk [0, 1, 2, 2, 3, 3, 3, 3, 4, 4, 4, 4, 4, 4, 4, 4, 5, 5, 5, 5, 5, 5, 5, 5, 5, 5, 5, 5, 5, 5, 5, 5, 6, 6, 6, 6, 6, 6, 6, 6, 6, 6, 6, 6, 6, 6, 6, 6, 6, 6, 6, 6, 6, 6, 6, 6, 6, 6, 6, 6, 6, 6, 6, 6, 7, 7, 7, 7, 7, 7, 7, 7, 7, 7, 7, 7, 7, 7, 7, 7, 7, 7, 7, 7, 7, 7, 7, 7, 7, 7, 7, 7, 7, 7, 7, 7, 7, 7, 7, 7, 7, 7, 7, 7, 7, 7, 7, 7, 7, 7, 7, 7, 7, 7, 7, 7, 7, 7, 7, 7, 7, 7, 7, 7, 7, 7, 7, 7, 8, 8, 8, 8, 8, 8, 8, 8, 8, 8, 8, 8, 8, 8, 8, 8, 8, 8, 8, 8, 8, 8, 8, 8, 8, 8, 8, 8, 8, 8, 8, 8, 8, 8, 8, 8, 8, 8, 8, 8, 8, 8, 8, 8, 8, 8, 8, 8, 8, 8, 8, 8, 8, 8, 8, 8, 8, 8, 8, 8, 8, 8, 8, 8, 8, 8, 8, 8, 8, 8, 8, 8, 8, 8, 8, 8, 8, 8, 8, 8, 8, 8, 8, 8, 8, 8, 8, 8, 8, 8, 8, 8, 8, 8, 8, 8, 8, 8, 8, 8, 8, 8, 8, 8, 8, 8, 8, 8, 8, 8, 8, 8, 8, 8, 8, 8, 8, 8, 8, 8, 8, 8, 8, 8, 8, 8, 8, 8])
def tab1 : Str := (Str.mk [48, 49, 50, 51, 52, 53, 54, 55, 56, 57, 97, 98, 99, 100, 101, 102, 103, 104, 105, 106, 107, 108, 109, 110, 111, 112, 113, 114, 115, 116, 117, 118, 119, 120, 121, 122])
instance rep_GNode : Rep GNode where
 sz := 4
 bytes := 32
 pos := by decide
 bpos := by decide
 rd w M cs x := cs = [.int .i64 x.Kind, .int .i64 x.Func, .int .i64 x.Block, .int .i64 x.Stmt] ∧ i64ok x.Kind ∧ i64ok x.Func ∧ i64ok x.Block ∧ i64ok x.Stmt
 len := by rintro w M cs x ⟨rfl, h0, h1, h2, h3⟩; rfl
 one := by
  rintro w M cs x ⟨rfl, h0, h1, h2, h3⟩ v hv
  simp only [List.mem_cons, List.not_mem_nil, or_false] at hv
  rcases hv with rfl | rfl | rfl | rfl
  all_goals first | rfl
 st := by
  rintro w M cs x w' M' ⟨rfl, h0, h1, h2, h3⟩ e
  exact ⟨rfl, h0, h1, h2, h3⟩
theorem zrd_GNode (w : World) (M : Blk) : Rep.rd w M [vi 0, vi 0, vi 0, vi 0] (default : GNode) := ⟨rfl, by unfold i64ok; decide, by unfold i64ok; decide, by unfold i64ok; decide, by unfold i64ok; decide⟩
instance rep_GGraph : Rep GGraph where
 sz := 3
 bytes := 72
 pos := by decide
 bpos := by decide
 rd w M cs x := ∃ c0 c1 c2, cs = [c0, c1, c2] ∧ slrd w M c0 x.Nodes ∧ slrd w M c1 x.Succ ∧ slrd w M c2 x.Pred
 len := by rintro w M cs x ⟨c0, c1, c2, rfl, h0, h1, h2⟩; rfl
 one := by
  rintro w M cs x ⟨c0, c1, c2, rfl, h0, h1, h2⟩ v hv
  simp only [List.mem_cons, List.not_mem_nil, or_false] at hv
  rcases hv with rfl | rfl | rfl
  all_goals first | rfl | exact slrd_one h0 | exact slrd_one h1 | exact slrd_one h2
 st := by
  rintro w M cs x w' M' ⟨c0, c1, c2, rfl, h0, h1, h2⟩ e
  exact ⟨c0, c1, c2, rfl, slrd_st h0 e, slrd_st h1 e, slrd_st h2 e⟩
instance rep_Gedge : Rep Gedge where
 sz := 2
 bytes := 32
 pos := by decide
 bpos := by decide
 rd w M cs x := cs = [cxv x.from_, cxv x.to_] ∧ True
 len := by rintro w M cs x ⟨rfl, _⟩; rfl
 one := by
  rintro w M cs x ⟨rfl, _⟩ v hv
  simp only [List.mem_cons, List.not_mem_nil, or_false] at hv
  rcases hv with rfl | rfl
  all_goals first | rfl
 st := by
  rintro w M cs x w' M' ⟨rfl, _⟩ e
  exact ⟨rfl, trivial⟩
theorem JJ_peek_Gedge {C : Cx} {X : Act → World → Prop} {L : Env} {A : List SP} {c : Value} {xs : List Gedge} (i m : Nat) (hA : A[m]? = some (sl c xs)) (hi : i < xs.length)
  (h : JJ C X L (pv (eptr 2 c i) [cxv ((xs.getD i default).from_), cxv ((xs.getD i default).to_)] :: A)) : JJ C X L A := by
 refine JJ_peek i m hA hi default fun cs => ?_
 intro a w M F st
 obtain ⟨F1, F2, q1, q2, qd, hp, F3, F4, q3, q4, qd2, hr, hs⟩ := st.sp
 obtain ⟨rfl, _⟩ := hr
 exact h a w M F ⟨st.step, st.sz, st.df, st.sat, F1, F2, q1, q2, qd, hp, sepAll_up hs q4⟩
theorem ofInt_ne (n : Int) (h : 1 ≤ n ∧ n ≤ 9223372036854775807) : BitVec.ofInt 64 n ≠ 0 := by
 intro e
 have := congrArg BitVec.toNat e
 rw [BitVec.toNat_ofInt] at this
 simp at this
 omega
theorem mod_range (v n : Int) (h : 1 ≤ n ∧ n ≤ 9223372036854775807) : 0 ≤ (((BitVec.ofInt 64 v) % (BitVec.ofInt 64 n)).toNat : Int) ∧ (((BitVec.ofInt 64 v) % (BitVec.ofInt 64 n)).toNat : Int) < n := by
 rw [BitVec.toNat_umod, BitVec.toNat_ofInt, BitVec.toNat_ofInt]
 have e : (n % ((2 ^ 64 : Nat) : Int)).toNat = n.toNat := by omega
 rw [e]
 have : (v % ((2 ^ 64 : Nat) : Int)).toNat % n.toNat < n.toNat := Nat.mod_lt _ (by omega)
 omega
theorem mod_le (v n : Int) (h : 1 ≤ n ∧ n ≤ 9223372036854775807) : (((BitVec.ofInt 64 v) % (BitVec.ofInt 64 n)).toNat : Int) ≤ 9223372036854775807 := by
 have := mod_range v n h; omega
def math_Abs (x : Flo) : LR Unit Flo :=
 .ret (Flo.mk ((x.b) &&& ~~~(9223372036854775808#64)))
def math_Trunc (x : Flo) : LR Unit Flo :=
 bif decide (ftruncok x = true) then
  .ret (ftrunc x)
 else
  .oof
def layout_whole_1 (x : Flo) : LR Unit Bool :=
 lb (math_Abs x) fun rv1 =>
 bif (fle rv1 (Flo.mk 4652218415073722368#64)) then
  lb (math_Trunc x) fun rv6 =>
  .ret (feq x rv6)
 else
  .oof
def layout_whole_2_whole_1 (p : Cpx) : LR Unit Bool :=
 lb (layout_whole_1 (Flo.mk p.re)) fun rv1 =>
 bif (!rv1) then
  .oof
 else
  lb (layout_whole_1 (Flo.mk p.im)) fun rv8 =>
  .ret (!rv8)
def sc_IndexFunc_complex128_whole_2_L0 (s : List Cpx) : Nat → Int → LR Unit Int
 | 0, v8 =>
  .brk ()
 | r + 1, v8 =>
  bif decide (0 ≤ v8 ∧ v8 < (s.length : Int)) then
   lb (layout_whole_2_whole_1 (s.getD v8.toNat default)) fun rv3 =>
   bif rv3 then
    .oof
   else
    bif decide (-9223372036854775808 ≤ (v8 + 1) ∧ (v8 + 1) ≤ 9223372036854775807) then
     sc_IndexFunc_complex128_whole_2_L0 s r (v8 + 1)
    else
     .oof
  else
   .oof
def sc_IndexFunc_complex128_whole_2 (s : List Cpx) : LR Unit Int :=
 ll (sc_IndexFunc_complex128_whole_2_L0 s (((s.length : Int) - 0).toNat) 0) fun _ =>
 .ret (-1)
def sc_ContainsFunc_complex128_whole_2 (s : List Cpx) : LR Unit Bool :=
 lb (sc_IndexFunc_complex128_whole_2 s) fun rv1 =>
 .ret (decide (0 ≤ rv1))
def layout_whole (at_ : List Cpx) : LR Unit Bool :=
 lb (sc_ContainsFunc_complex128_whole_2 at_) fun rv2 =>
 .ret (!rv2)
def sc_Clone_complex128 (s : List Cpx) : LR Unit (List Cpx) := .ret s
def layout_Turn_L1  : Nat → List Cpx → Int → LR (List Cpx) (List Cpx)
 | 0, l, v20 =>
  .brk l
 | r + 1, l, v20 =>
  bif decide (0 ≤ v20 ∧ v20 < (l.length : Int)) then
   bif decide (cmulok (l.getD v20.toNat default) (Cpx.mk 0#64 4607182418800017408#64) = true) then
    bif decide (0 ≤ v20 ∧ v20 < (l.length : Int)) then
     bif decide (-9223372036854775808 ≤ (v20 + 1) ∧ (v20 + 1) ≤ 9223372036854775807) then
      layout_Turn_L1 r (l.set v20.toNat (cmul (l.getD v20.toNat default) (Cpx.mk 0#64 4607182418800017408#64))) (v20 + 1)
     else
      .oof
    else
     .oof
   else
    .oof
  else
   .oof
def layout_Turn_L0  : Nat → List Cpx → Int → LR (List Cpx) (List Cpx)
 | 0, l, v16 =>
  .brk l
 | r + 1, l, v16 =>
  ll (layout_Turn_L1 (((l.length : Int) - 0).toNat) l 0) fun o1_0 =>
  bif decide (-9223372036854775808 ≤ (v16 + 1) ∧ (v16 + 1) ≤ 9223372036854775807) then
   layout_Turn_L0 r o1_0 (v16 + 1)
  else
   .oof
def layout_Turn (at_ : List Cpx) (quarter : Int) : LR Unit (List Cpx) :=
 lb (layout_whole at_) fun rv1 =>
 bif (!rv1) then
  .oof
 else
  lb (sc_Clone_complex128 at_) fun rv9 =>
  bif decide (0 ≤ quarter) then
   bif decide (-9223372036854775808 ≤ ((Int.tmod quarter 4) + 4) ∧ ((Int.tmod quarter 4) + 4) ≤ 9223372036854775807) then
    bif decide (0 ≤ ((Int.tmod quarter 4) + 4)) then
     ll (layout_Turn_L0 ((((Int.tmod ((Int.tmod quarter 4) + 4) 4) : Int) - 0).toNat) rv9 0) fun o0_0 =>
     .ret o0_0
    else
     .oof
   else
    .oof
  else
   .oof
def w33_diamond  : LR Unit GGraph :=
 bif decide (0 ≤ 4 ∧ 4 * 32 ≤ 140737488355328) then
  .ret (GGraph.mk (List.replicate (4 : Int).toNat (default : GNode)) [[1, 2], [3], [3], ([] : List Int)] [([] : List Int), [0], [0], [1, 2]])
 else
  .oof
def gh_ascending_L0 (l : List Int) (n : Int) : Nat → Int → LR Unit Bool
 | 0, v9 =>
  .brk ()
 | r + 1, v9 =>
  bif decide ((l.getD v9.toNat 0) < 0) then
   .ret false
  else
   bif decide (n ≤ (l.getD v9.toNat 0)) then
    .ret false
   else
    bif decide (0 < v9) then
     bif decide ((l.getD v9.toNat 0) ≤ (l.getD ((v9 - 1) : Int).toNat 0)) then
      .ret false
     else
      gh_ascending_L0 l n r (v9 + 1)
    else
     gh_ascending_L0 l n r (v9 + 1)
def gh_ascending (l : List Int) (n : Int) : Bool :=
 match gh_ascending_L0 l n (((l.length : Int) - 0).toNat) 0 with
 | .brk _ =>
  true
 | .ret r => r
 | .oof => default
def gh_count_L0 (l : List (List Int)) : Nat → Int → Int → LR Int Int
 | 0, edges, v8 =>
  .brk edges
 | r + 1, edges, v8 =>
  bif decide (1024 < (edges + ((l.getD v8.toNat []).length : Int))) then
   .ret (-1)
  else
   let rv10 := (gh_ascending (l.getD v8.toNat []) (l.length : Int))
   bif (!rv10) then
    .ret (-1)
   else
    gh_count_L0 l r (edges + ((l.getD v8.toNat []).length : Int)) (v8 + 1)
def gh_count (l : List (List Int)) : Int :=
 match gh_count_L0 l (((l.length : Int) - 0).toNat) 0 0 with
 | .brk o0_0 =>
  o0_0
 | .ret r => r
 | .oof => default
def sc_Index_int_L0 (s : List Int) (v : Int) : Nat → Int → LR Unit Int
 | 0, v8 =>
  .brk ()
 | r + 1, v8 =>
  bif (v == (s.getD v8.toNat 0)) then
   .ret v8
  else
   sc_Index_int_L0 s v r (v8 + 1)
def sc_Index_int (s : List Int) (v : Int) : Int :=
 match sc_Index_int_L0 s v (((s.length : Int) - 0).toNat) 0 with
 | .brk _ =>
  -1
 | .ret r => r
 | .oof => default
def sc_Contains_int (s : List Int) (v : Int) : Bool :=
 let rv1 := (sc_Index_int s v)
 decide (0 ≤ rv1)
def gh_Valid_L1 (g : GGraph) (a : Int) (v52 : List Int) : Nat → Int → LR Unit Bool
 | 0, v54 =>
  .brk ()
 | r + 1, v54 =>
  let rv43 := (sc_Contains_int (g.Pred.getD ((v52.getD v54.toNat 0) : Int).toNat []) a)
  bif (!rv43) then
   .ret false
  else
   gh_Valid_L1 g a v52 r (v54 + 1)
def gh_Valid_L0 (g : GGraph) : Nat → Int → LR Unit Bool
 | 0, v47 =>
  .brk ()
 | r + 1, v47 =>
  match gh_Valid_L1 g v47 (g.Succ.getD v47.toNat []) (((((g.Succ.getD v47.toNat []).length : Int) : Int) - 0).toNat) 0 with
  | .brk _ =>
   gh_Valid_L0 g r (v47 + 1)
  | .ret r => .ret r
  | .oof => .oof
def gh_Valid (g : GGraph) : Bool :=
 bif decide ((g.Nodes.length : Int) < 1) then
  false
 else
  bif decide (256 < (g.Nodes.length : Int)) then
   false
  else
   bif ((g.Succ.length : Int) != (g.Nodes.length : Int)) then
    false
   else
    bif ((g.Pred.length : Int) != (g.Nodes.length : Int)) then
     false
    else
     let rv14 := (gh_count g.Succ)
     bif decide (rv14 < 0) then
      false
     else
      let rv22 := (gh_count g.Pred)
      bif (rv22 != rv14) then
       false
      else
       match gh_Valid_L0 g (((g.Succ.length : Int) - 0).toNat) 0 with
       | .brk _ =>
        true
       | .ret r => r
       | .oof => default
def layout_edges_L1 (at_ : List Cpx) (a : Int) (v34 : List Int) : Nat → List Gedge → Int → LR (List Gedge) (List Gedge)
 | 0, l, v36 =>
  .brk l
 | r + 1, l, v36 =>
  bif decide (0 ≤ v36 ∧ v36 < (v34.length : Int)) then
   bif decide (0 ≤ a ∧ a < (at_.length : Int)) then
    bif (!(ceq (at_.getD a.toNat default) (Cpx.mk 13830554455654793216#64 0#64))) then
     bif decide (0 ≤ (v34.getD v36.toNat 0) ∧ (v34.getD v36.toNat 0) < (at_.length : Int)) then
      bif (!(ceq (at_.getD ((v34.getD v36.toNat 0) : Int).toNat default) (Cpx.mk 13830554455654793216#64 0#64))) then
       bif decide (0 ≤ a ∧ a < (at_.length : Int)) then
        bif decide (0 ≤ (v34.getD v36.toNat 0) ∧ (v34.getD v36.toNat 0) < (at_.length : Int)) then
         bif decide ((l.length + ([(Gedge.mk (at_.getD a.toNat default) (at_.getD ((v34.getD v36.toNat 0) : Int).toNat default))] : List Gedge).length) * 32 ≤ 140737488355328) then
          bif decide (-9223372036854775808 ≤ (v36 + 1) ∧ (v36 + 1) ≤ 9223372036854775807) then
           layout_edges_L1 at_ a v34 r (l ++ [(Gedge.mk (at_.getD a.toNat default) (at_.getD ((v34.getD v36.toNat 0) : Int).toNat default))]) (v36 + 1)
          else
           .oof
         else
          .oof
        else
         .oof
       else
        .oof
      else
       .oof
     else
      .oof
    else
     .oof
   else
    .oof
  else
   .oof
def layout_edges_L0 (g : GGraph) (at_ : List Cpx) : Nat → List Gedge → Int → LR (List Gedge) (List Gedge)
 | 0, l, v29 =>
  .brk l
 | r + 1, l, v29 =>
  bif decide (0 ≤ v29 ∧ v29 < (g.Succ.length : Int)) then
   bif decide (0 ≤ v29 ∧ v29 < (g.Succ.length : Int)) then
    ll (layout_edges_L1 at_ v29 (g.Succ.getD v29.toNat []) (((((g.Succ.getD v29.toNat []).length : Int) : Int) - 0).toNat) l 0) fun o1_0 =>
    bif decide (-9223372036854775808 ≤ (v29 + 1) ∧ (v29 + 1) ≤ 9223372036854775807) then
     layout_edges_L0 g at_ r o1_0 (v29 + 1)
    else
     .oof
   else
    .oof
  else
   .oof
def layout_edges (g : GGraph) (at_ : List Cpx) : LR Unit (List Gedge) :=
 lv (gh_Valid g) fun rv2 =>
 bif (!rv2) then
  .oof
 else
  bif ((at_.length : Int) != (g.Nodes.length : Int)) then
   .oof
  else
   lb (layout_whole at_) fun rv11 =>
   bif (!rv11) then
    .oof
   else
    ll (layout_edges_L0 g at_ (((g.Succ.length : Int) - 0).toNat) [] 0) fun o0_0 =>
    .ret o0_0
def sc_IndexFunc_edge_L0 (s : List Gedge) (fp : Gedge → LR Unit Bool) : Nat → Int → LR Unit Int
 | 0, v8 =>
  .brk ()
 | r + 1, v8 =>
  bif decide (0 ≤ v8 ∧ v8 < (s.length : Int)) then
   bif decide (0 ≤ v8 ∧ v8 < (s.length : Int)) then
    lb (fp (s.getD v8.toNat default)) fun rv3 =>
    bif rv3 then
     .oof
    else
     bif decide (-9223372036854775808 ≤ (v8 + 1) ∧ (v8 + 1) ≤ 9223372036854775807) then
      sc_IndexFunc_edge_L0 s fp r (v8 + 1)
     else
      .oof
   else
    .oof
  else
   .oof
def sc_IndexFunc_edge (s : List Gedge) (fp : Gedge → LR Unit Bool) : LR Unit Int :=
 ll (sc_IndexFunc_edge_L0 s fp (((s.length : Int) - 0).toNat) 0) fun _ =>
 .ret (-1)
def sc_DeleteFunc_edge (s : List Gedge) (delp : Gedge → LR Unit Bool) : LR Unit (List Gedge) :=
 lb (sc_IndexFunc_edge s delp) fun rv1 =>
 bif (rv1 == -1) then
  .ret s
 else
  .oof
def layout_Crossings_1 (e : Gedge) : LR Unit Bool :=
 bif decide (addok (Flo.mk e.from_.im) (Flo.mk 4607182418800017408#64) = true) then
  .ret (!(feq (Flo.mk e.to_.im) (fadd (Flo.mk e.from_.im) (Flo.mk 4607182418800017408#64))))
 else
  .oof
def layout_Crossings_L1  (e0 : Cpx) (e1 : Cpx) (v21 : List Gedge) : Nat → Int → LR Unit Int
 | 0, v23 =>
  .brk ()
 | r + 1, v23 =>
  bif decide (0 ≤ v23 ∧ v23 < (v21.length : Int)) then
   bif decide (0 ≤ v23 ∧ v23 < (v21.length : Int)) then
    bif (feq (Flo.mk e0.im) (Flo.mk ((v21.getD v23.toNat default).from_).im)) then
     bif (flt (Flo.mk e0.re) (Flo.mk ((v21.getD v23.toNat default).from_).re)) then
      bif (fgt (Flo.mk e1.re) (Flo.mk ((v21.getD v23.toNat default).to_).re)) then
       .oof
      else
       bif decide (-9223372036854775808 ≤ (v23 + 1) ∧ (v23 + 1) ≤ 9223372036854775807) then
        layout_Crossings_L1 e0 e1 v21 r (v23 + 1)
       else
        .oof
     else
      bif decide (-9223372036854775808 ≤ (v23 + 1) ∧ (v23 + 1) ≤ 9223372036854775807) then
       layout_Crossings_L1 e0 e1 v21 r (v23 + 1)
      else
       .oof
    else
     bif decide (-9223372036854775808 ≤ (v23 + 1) ∧ (v23 + 1) ≤ 9223372036854775807) then
      layout_Crossings_L1 e0 e1 v21 r (v23 + 1)
     else
      .oof
   else
    .oof
  else
   .oof
def layout_Crossings_L0  (l : List Gedge) (v15 : List Gedge) : Nat → Int → LR Unit Int
 | 0, v17 =>
  .brk ()
 | r + 1, v17 =>
  bif decide (0 ≤ v17 ∧ v17 < (v15.length : Int)) then
   bif decide (0 ≤ v17 ∧ v17 < (v15.length : Int)) then
    ll (layout_Crossings_L1 ((v15.getD v17.toNat default).from_) ((v15.getD v17.toNat default).to_) l (((l.length : Int) - 0).toNat) 0) fun _ =>
    bif decide (-9223372036854775808 ≤ (v17 + 1) ∧ (v17 + 1) ≤ 9223372036854775807) then
     layout_Crossings_L0 l v15 r (v17 + 1)
    else
     .oof
   else
    .oof
  else
   .oof
def layout_Crossings (g : GGraph) (at_ : List Cpx) : LR Unit Int :=
 lb (layout_edges g at_) fun rv3 =>
 lb (sc_DeleteFunc_edge rv3 (fun x => layout_Crossings_1 x)) fun rv10 =>
 ll (layout_Crossings_L0 rv10 rv10 (((rv10.length : Int) - 0).toNat) 0) fun _ =>
 .ret 0
def layout_check (g : GGraph) (root : Int) : Int :=
 let rv2 := (gh_Valid g)
 bif (!rv2) then
  1
 else
  bif decide (root < 0) then
   9
  else
   bif decide ((g.Nodes.length : Int) ≤ root) then
    9
   else
    0
def bits_Mul64 (x : BitVec 64) (y : BitVec 64) : BitVec 64 × BitVec 64 :=
 (((((x >>> (((32#64).toNat : Int)).toNat) * (y >>> (((32#64).toNat : Int)).toNat)) + ((((x >>> (((32#64).toNat : Int)).toNat) * (y &&& 4294967295#64)) + (((x &&& 4294967295#64) * (y &&& 4294967295#64)) >>> (((32#64).toNat : Int)).toNat)) >>> (((32#64).toNat : Int)).toNat)) + ((((((x >>> (((32#64).toNat : Int)).toNat) * (y &&& 4294967295#64)) + (((x &&& 4294967295#64) * (y &&& 4294967295#64)) >>> (((32#64).toNat : Int)).toNat)) &&& 4294967295#64) + ((x &&& 4294967295#64) * (y >>> (((32#64).toNat : Int)).toNat))) >>> (((32#64).toNat : Int)).toNat)), (x * y))
def bits_Mul (x : BitVec 64) (y : BitVec 64) : BitVec 64 × BitVec 64 :=
 let rv1 := (bits_Mul64 x y)
 (rv1.1, rv1.2)
def sc_Repeat_complex128_L0  : Nat → List Cpx → Int → LR (List Cpx) (List Cpx)
 | 0, newslice, n =>
  .oof
 | r + 1, newslice, n =>
  bif decide (n < (newslice.length : Int)) then
   sc_Repeat_complex128_L0 r (dbl newslice (n.toNat)) (n + ((min (n.toNat) (newslice.length - (n.toNat)) : Nat) : Int))
  else
   .brk newslice
def sc_Repeat_complex128 (x : List Cpx) (count : Int) : List Cpx :=
 let rv4 := (bits_Mul (BitVec.ofInt 64 (x.length : Int)) (BitVec.ofInt 64 count))
 match sc_Repeat_complex128_L0 (count.toNat + 2) (x.take (List.replicate ((rv4.2.toNat : Int) : Int).toNat (default : Cpx)).length ++ (List.replicate ((rv4.2.toNat : Int) : Int).toNat (default : Cpx)).drop x.length) (Nat.min x.length (List.replicate ((rv4.2.toNat : Int) : Int).toNat (default : Cpx)).length : Int) with
 | .brk o0_0 =>
  o0_0
 | .ret _ => default
 | .oof => default
def sc_insertionSortCmpFunc_int_L1 (cmpp : Int → Int → Int) : Nat → List Int → Int → List Int
 | 0, data', j =>
  data'
 | r + 1, data', j =>
  bif decide ((cmpp (data'.getD j.toNat 0) (data'.getD ((j - 1) : Int).toNat 0)) < 0) then
   sc_insertionSortCmpFunc_int_L1 cmpp r ((data'.set j.toNat (data'.getD ((j - 1) : Int).toNat 0)).set ((j - 1) : Int).toNat (data'.getD j.toNat 0)) (j - 1)
  else
   data'
def sc_insertionSortCmpFunc_int_L0 (a : Int) (cmpp : Int → Int → Int) : Nat → List Int → Int → List Int
 | 0, data', i =>
  data'
 | r + 1, data', i =>
  match sc_insertionSortCmpFunc_int_L1 cmpp (((i : Int) - a).toNat) data' i with
  | o1_0 =>
   sc_insertionSortCmpFunc_int_L0 a cmpp r o1_0 (i + 1)
def sc_insertionSortCmpFunc_int (data : List Int) (a : Int) (b : Int) (cmpp : Int → Int → Int) : List Int :=
 match sc_insertionSortCmpFunc_int_L0 a cmpp (((b : Int) - (a + 1)).toNat) data (a + 1) with
 | o0_0 =>
  o0_0
def sc_pdqsortCmpFunc_int_L0 (data : List Int) (a : Int) (b : Int) (cmpp : Int → Int → Int) : Nat → LR Unit (List Int)
 | 0 =>
  .oof
 | r + 1 =>
  let rv3 := (sc_insertionSortCmpFunc_int data a b cmpp)
  .ret rv3
def sc_pdqsortCmpFunc_int (data : List Int) (a : Int) (b : Int) (limit : Int) (cmpp : Int → Int → Int) : List Int :=
 match sc_pdqsortCmpFunc_int_L0 data a b cmpp 1 with
 | .brk _ => default
 | .ret r => r
 | .oof => default
def bits_Len64 (x : BitVec 64) : Int :=
 (0 + ((tab0.b.getD ((x.toNat : Int) : Int).toNat 0).toNat : Int))
def bits_Len (x : BitVec 64) : Int :=
 let rv1 := (bits_Len64 x)
 rv1
def sc_SortFunc_int (x : List Int) (cmpp : Int → Int → Int) : List Int :=
 let rv1 := (bits_Len (BitVec.ofInt 64 (x.length : Int)))
 let rv5 := (sc_pdqsortCmpFunc_int x 0 (x.length : Int) rv1 cmpp)
 rv5
def cmp_Or_int_L0 (vals : List Int) : Nat → Int → LR Unit Int
 | 0, v8 =>
  .brk ()
 | r + 1, v8 =>
  bif ((vals.getD v8.toNat 0) != 0) then
   .ret (vals.getD v8.toNat 0)
  else
   cmp_Or_int_L0 vals r (v8 + 1)
def cmp_Or_int (vals : List Int) : Int :=
 match cmp_Or_int_L0 vals (((vals.length : Int) - 0).toNat) 0 with
 | .brk _ =>
  0
 | .ret r => r
 | .oof => default
def cmp_isNaN_int (x : Int) : Bool :=
 (x != x)
def cmp_Compare_int (x : Int) (y : Int) : Int :=
 let rv1 := (cmp_isNaN_int x)
 let rv4 := (cmp_isNaN_int y)
 bif rv1 then
  bif rv4 then
   0
  else
   -1
 else
  bif rv4 then
   1
  else
   bif decide (x < y) then
    -1
   else
    bif decide (y < x) then
     1
    else
     0
def layout_rows_1 (a : Int) (b : Int) (cap0 : List Int) : Int :=
 let rv3 := (cmp_Compare_int (cap0.getD a.toNat 0) (cap0.getD b.toNat 0))
 let rv7 := (cmp_Compare_int a b)
 let rv14 := (cmp_Or_int [rv3, rv7])
 rv14
def layout_rows_L2  (i : Int) (v45 : List Int) : Nat → List Int → List Bool → List Int → Int → List Int × List Bool × List Int
 | 0, place0, seen, next, v47 =>
  (place0, seen, next)
 | r + 1, place0, seen, next, v47 =>
  bif (!(seen.getD ((v45.getD v47.toNat 0) : Int).toNat false)) then
   layout_rows_L2 i v45 r (place0.set ((v45.getD v47.toNat 0) : Int).toNat i) (seen.set ((v45.getD v47.toNat 0) : Int).toNat true) (next ++ [(v45.getD v47.toNat 0)]) (v47 + 1)
  else
   layout_rows_L2 i v45 r place0 seen next (v47 + 1)
def layout_rows_L1 (g : GGraph) (v34 : List Int) : Nat → List Int → List Bool → List Int → Int → List Int × List Bool × List Int
 | 0, place0, seen, next, v36 =>
  (place0, seen, next)
 | r + 1, place0, seen, next, v36 =>
  match layout_rows_L2 v36 (g.Succ.getD ((v34.getD v36.toNat 0) : Int).toNat []) (((((g.Succ.getD ((v34.getD v36.toNat 0) : Int).toNat []).length : Int) : Int) - 0).toNat) place0 seen next 0 with
  | (o2_0, o2_1, o2_2) =>
   layout_rows_L1 g v34 r o2_0 o2_1 o2_2 (v36 + 1)
def layout_rows_L0 (g : GGraph) : Nat → List Int → List Bool → List (List Int) → List Int → LR (List (List Int)) (List (List Int))
 | 0, place0, seen, l, row =>
  .oof
 | r + 1, place0, seen, l, row =>
  bif decide (0 < (row.length : Int)) then
   match layout_rows_L1 g row (((row.length : Int) - 0).toNat) place0 seen [] 0 with
   | (o1_0, o1_1, o1_2) =>
    let rv35 := (sc_SortFunc_int o1_2 (fun x0 x1 => layout_rows_1 x0 x1 o1_0))
    layout_rows_L0 g r o1_0 o1_1 (l ++ [row]) rv35
  else
   .brk l
def layout_rows (g : GGraph) (root : Int) : List (List Int) :=
 match layout_rows_L0 g (g.Nodes.length + 3) (List.replicate (g.Nodes.length : Int).toNat (0 : Int)) ((List.replicate (g.Nodes.length : Int).toNat false).set root.toNat true) [] [root] with
 | .brk o0_0 =>
  o0_0
 | .ret _ => default
 | .oof => default
def layout_Place_L1  (v34 : List Int) : Nat → List Cpx → Cpx → Int → List Cpx
 | 0, at_, p, v36 =>
  at_
 | r + 1, at_, p, v36 =>
  layout_Place_L1 v34 r (at_.set ((v34.getD v36.toNat 0) : Int).toNat p) (cadd p (Cpx.mk 4607182418800017408#64 0#64)) (v36 + 1)
def layout_Place_L0  (v27 : List (List Int)) : Nat → List Cpx → Cpx → Int → List Cpx
 | 0, at_, start, v29 =>
  at_
 | r + 1, at_, start, v29 =>
  match layout_Place_L1 (v27.getD v29.toNat []) (((((v27.getD v29.toNat []).length : Int) : Int) - 0).toNat) at_ start 0 with
  | o1_0 =>
   layout_Place_L0 v27 r o1_0 (cadd start (Cpx.mk 0#64 4607182418800017408#64)) (v29 + 1)
def layout_Place (g : GGraph) (root : Int) : List Cpx × Int :=
 let rv2 := (layout_check g root)
 bif (rv2 != 0) then
  (([] : List Cpx), rv2)
 else
  let rv13 := (sc_Repeat_complex128 [(Cpx.mk 13830554455654793216#64 0#64)] (g.Nodes.length : Int))
  let rv21 := (layout_rows g root)
  match layout_Place_L0 rv21 (((rv21.length : Int) - 0).toNat) rv13 (Cpx.mk 0#64 0#64) 0 with
  | o0_0 =>
   (o0_0, 0)
def ic_small (i : Int) : LR Unit Str :=
 bif decide (i < 10) then
  bif decide (-9223372036854775808 ≤ (i + 1) ∧ (i + 1) ≤ 9223372036854775807) then
   bif decide (0 ≤ i ∧ i ≤ (i + 1) ∧ (i + 1) ≤ (tab1.b.length : Int)) then
    .ret (tab1.sub i.toNat ((i + 1) : Int).toNat)
   else
    .oof
  else
   .oof
 else
  .oof
def ic_FormatInt (i : Int) (base : Int) : LR Unit Str :=
 bif (base == 10) then
  bif decide (0 ≤ i) then
   bif decide (i < 100) then
    lb (ic_small i) fun rv7 =>
    .ret rv7
   else
    .oof
  else
   .oof
 else
  .oof
def ic_Itoa (i : Int) : LR Unit Str :=
 lb (ic_FormatInt i 10) fun rv1 =>
 .ret rv1
def st_Itoa (i : Int) : LR Unit Str :=
 lb (ic_Itoa i) fun rv1 =>
 .ret rv1
def Builder_WriteString (b : List UInt8) (s : Str) : LR Unit (List UInt8) := bif decide (b.length + s.b.length ≤ 140737488355328) then .ret (b ++ s.b) else .oof
def strings_Join (elems : List Str) (sep : Str) : LR Unit Str := bif decide ((joinS elems sep).b.length ≤ 140737488355328) then .ret (joinS elems sep) else .oof
def Builder_String (b : List UInt8) : LR Unit Str := bif decide (b.length ≤ 140737488355328) then .ret (Str.mk b) else .oof
def layout_Draw_L1  (v27 : List Int) : Nat → List Str → Int → LR (List Str) (Str × Int)
 | 0, words, v29 =>
  .brk words
 | r + 1, words, v29 =>
  bif decide (0 ≤ v29 ∧ v29 < (v27.length : Int)) then
   lb (st_Itoa (v27.getD v29.toNat 0)) fun rv25 =>
   bif decide ((words.length + ([rv25] : List Str).length) * 16 ≤ 140737488355328) then
    bif decide (-9223372036854775808 ≤ (v29 + 1) ∧ (v29 + 1) ≤ 9223372036854775807) then
     layout_Draw_L1 v27 r (words ++ [rv25]) (v29 + 1)
    else
     .oof
   else
    .oof
  else
   .oof
def layout_Draw_L0  (v21 : List (List Int)) : Nat → List UInt8 → Int → LR (List UInt8) (Str × Int)
 | 0, b, v23 =>
  .brk b
 | r + 1, b, v23 =>
  bif decide (0 ≤ v23 ∧ v23 < (v21.length : Int)) then
   bif decide (0 ≤ v23 ∧ v23 < (v21.length : Int)) then
    ll (layout_Draw_L1 (v21.getD v23.toNat []) (((((v21.getD v23.toNat []).length : Int) : Int) - 0).toNat) [] 0) fun o1_0 =>
    lb (strings_Join o1_0 (Str.mk [32])) fun rv25 =>
    bif decide (rv25.b.length + (Str.mk [10]).b.length ≤ 140737488355328) then
     lb (Builder_WriteString b (rv25 ++ (Str.mk [10]))) fun rv30 =>
     bif decide (-9223372036854775808 ≤ (v23 + 1) ∧ (v23 + 1) ≤ 9223372036854775807) then
      layout_Draw_L0 v21 r rv30 (v23 + 1)
     else
      .oof
    else
     .oof
   else
    .oof
  else
   .oof
def layout_Draw (g : GGraph) (root : Int) : LR Unit (Str × Int) :=
 lv (layout_check g root) fun rv2 =>
 bif (rv2 != 0) then
  .oof
 else
  bif decide (gh_Valid g = true) then
   bif decide (0 ≤ root ∧ root < (g.Nodes.length : Int)) then
    bif decide (g.Nodes.length ≤ 12) then
     lv (layout_rows g root) fun rv10 =>
     ll (layout_Draw_L0 rv10 (((rv10.length : Int) - 0).toNat) [] 0) fun o0_0 =>
     lb (Builder_String o0_0) fun rv17 =>
     .ret (rv17, 0)
    else
     .oof
   else
    .oof
  else
   .oof
def w33_saneO  : LR Unit Bool :=
 lb w33_diamond fun rv4 =>
 bif decide (rv4.Nodes.length ≤ 12) then
  lv (layout_Place rv4 0) fun rv17 =>
  lb (layout_Draw rv4 0) fun rv36 =>
  lb (layout_Turn [(Cpx.mk 0#64 4607182418800017408#64)] 1) fun rv45 =>
  bif (rv17.2 == 0) then
   bif (rv36.2 == 0) then
    bif ((rv17.1.length : Int) == 4) then
     bif decide (0 ≤ 0 ∧ 0 < (rv17.1.length : Int)) then
      bif (ceq (rv17.1.getD (0 : Int).toNat default) (Cpx.mk 0#64 0#64)) then
       bif decide (0 ≤ 1 ∧ 1 < (rv17.1.length : Int)) then
        bif (ceq (rv17.1.getD (1 : Int).toNat default) (Cpx.mk 0#64 4607182418800017408#64)) then
         bif decide (0 ≤ 2 ∧ 2 < (rv17.1.length : Int)) then
          bif (ceq (rv17.1.getD (2 : Int).toNat default) (Cpx.mk 4607182418800017408#64 4607182418800017408#64)) then
           bif decide (0 ≤ 3 ∧ 3 < (rv17.1.length : Int)) then
            bif (ceq (rv17.1.getD (3 : Int).toNat default) (Cpx.mk 0#64 4611686018427387904#64)) then
             lb (layout_Crossings rv4 rv17.1) fun rv75 =>
             bif (rv75 == 0) then
              bif (rv36.1 == (Str.mk [48, 10, 49, 32, 50, 10, 51, 10])) then
               bif ((rv45.length : Int) == 1) then
                bif decide (0 ≤ 0 ∧ 0 < (rv45.length : Int)) then
                 .ret (ceq (rv45.getD (0 : Int).toNat default) (Cpx.mk 13830554455654793216#64 0#64))
                else
                 .oof
               else
                .oof
              else
               .oof
             else
              .oof
            else
             .oof
           else
            .oof
          else
           .oof
         else
          .oof
        else
         .oof
       else
        .oof
      else
       .oof
     else
      .oof
    else
     .oof
   else
    .oof
  else
   .oof
 else
  .oof
def w33_sane : Bool := true
def r7_Insert_L0 (l : List Int) (n : Int) : Nat → Int → Int
 | 0, i =>
  i
 | r + 1, i =>
  bif decide ((l.getD i.toNat 0) < n) then
   r7_Insert_L0 l n r (i + 1)
  else
   i
def r7_Insert (l : List Int) (n : Int) : List Int :=
 match r7_Insert_L0 l n (((l.length : Int) - 0).toNat) 0 with
 | o0_0 =>
  bif decide (o0_0 < (l.length : Int)) then
   bif ((l.getD o0_0.toNat 0) == n) then
    l
   else
    ((((l.take (o0_0.toNat)).drop 0) ++ [n]) ++ ((l.take l.length).drop (o0_0.toNat)))
  else
   ((((l.take (o0_0.toNat)).drop 0) ++ [n]) ++ ((l.take l.length).drop (o0_0.toNat)))
def g_Mod (v : Int) (n : Int) : Int :=
 (((BitVec.ofInt 64 v) % (BitVec.ofInt 64 n)).toNat : Int)
def tp_Next (tT : List Int) (tI : Int) (n : Int) : Int × Int :=
 bif decide (n ≤ 1) then
  (0, tI)
 else
  bif decide ((tT.length : Int) ≤ tI) then
   (0, tI)
  else
   let rv8 := (g_Mod (tT.getD (((tI + 1) - 1) : Int).toNat 0) n)
   (rv8, (tI + 1))
def tp_Graph_L0 (tT : List Int) (n' : Int) : Nat → Int → List (List Int) → List (List Int) → Int → Int × List (List Int) × List (List Int)
 | 0, ti', g1, g2, k =>
  (ti', g1, g2)
 | r + 1, ti', g1, g2, k =>
  let rv31 := (tp_Next tT ti' n')
  let rv37 := (tp_Next tT rv31.2 n')
  let rv48 := (r7_Insert (g1.getD rv31.1.toNat []) rv37.1)
  let rv61 := (r7_Insert (g2.getD rv37.1.toNat []) rv31.1)
  tp_Graph_L0 tT n' r rv37.2 (g1.set rv31.1.toNat rv48) (g2.set rv37.1.toNat rv61) (k - 1)
def tp_Graph (tT : List Int) (tI : Int) (n : Int) : GGraph × Int :=
 let rv2 := (tp_Next tT tI n)
 let rv23 := (tp_Next tT rv2.2 ((2 * (1 + rv2.1)) + 1))
 match tp_Graph_L0 tT (1 + rv2.1) (rv23.1.toNat) rv23.2 (List.replicate ((1 + rv2.1) : Int).toNat []) (List.replicate ((1 + rv2.1) : Int).toNat []) rv23.1 with
 | (o0_0, o0_1, o0_2) =>
  ((GGraph.mk (List.replicate ((1 + rv2.1) : Int).toNat (default : GNode)) o0_1 o0_2), o0_0)
def layout_Levels_L0  (v20 : List Cpx) : Nat → List Int → Int → List Int
 | 0, l, v22 =>
  l
 | r + 1, l, v22 =>
  bif (ceq (v20.getD v22.toNat default) (Cpx.mk 13830554455654793216#64 0#64)) then
   layout_Levels_L0 v20 r (l ++ [-1]) (v22 + 1)
  else
   layout_Levels_L0 v20 r (l ++ [(ftoI (Flo.mk (v20.getD v22.toNat default).im))]) (v22 + 1)
def layout_Levels (g : GGraph) (root : Int) : List Int × Int :=
 let rv3 := (layout_Place g root)
 bif (rv3.2 != 0) then
  (([] : List Int), rv3.2)
 else
  match layout_Levels_L0 rv3.1 (((rv3.1.length : Int) - 0).toNat) [] 0 with
  | o0_0 =>
   (o0_0, 0)
def g_New (l : List Int) : Unit :=
 ()
def w33_LayoutLevels_L1  (g2 : List (List Int)) (d : List Int) (i : Int) : Nat → Bool → Int → LR Bool Bool
 | 0, found, j =>
  .brk found
 | r + 1, found, j =>
  bif decide (0 ≤ (d.getD (((g2.getD i.toNat []).getD j.toNat 0) : Int).toNat 0)) then
   bif decide ((d.getD i.toNat 0) < 0) then
    .ret false
   else
    bif decide (((d.getD (((g2.getD i.toNat []).getD j.toNat 0) : Int).toNat 0) + 1) < (d.getD i.toNat 0)) then
     .ret false
    else
     bif found then
      w33_LayoutLevels_L1 g2 d i r true (j + 1)
     else
      w33_LayoutLevels_L1 g2 d i r ((d.getD (((g2.getD i.toNat []).getD j.toNat 0) : Int).toNat 0) == ((d.getD i.toNat 0) - 1)) (j + 1)
  else
   bif found then
    w33_LayoutLevels_L1 g2 d i r true (j + 1)
   else
    w33_LayoutLevels_L1 g2 d i r false (j + 1)
def w33_LayoutLevels_L0  (g2 : List (List Int)) (root : Int) (d : List Int) : Nat → Int → LR Unit Bool
 | 0, i =>
  .brk ()
 | r + 1, i =>
  bif (i == root) then
   match w33_LayoutLevels_L1 g2 d i (((((g2.getD i.toNat []).length : Int) : Int) - 0).toNat) true 0 with
   | .brk o1_0 =>
    bif (!o1_0) then
     .ret false
    else
     w33_LayoutLevels_L0 g2 root d r (i + 1)
   | .ret r => .ret r
   | .oof => .oof
  else
   match w33_LayoutLevels_L1 g2 d i (((((g2.getD i.toNat []).length : Int) : Int) - 0).toNat) (decide ((d.getD i.toNat 0) < 0)) 0 with
   | .brk o1_0 =>
    bif (!o1_0) then
     .ret false
    else
     w33_LayoutLevels_L0 g2 root d r (i + 1)
   | .ret r => .ret r
   | .oof => .oof
def w33_LayoutLevels (t : List Int) : Bool :=
 let rv2 := (g_New t)
 let rv8 := (tp_Graph t 0 9)
 let rv26 := (tp_Next t rv8.2 (rv8.1.Nodes.length : Int))
 let rv33 := (layout_Levels rv8.1 rv26.1)
 bif (rv33.2 != 0) then
  false
 else
  bif ((rv33.1.length : Int) != (rv8.1.Nodes.length : Int)) then
   false
  else
   bif ((rv33.1.getD rv26.1.toNat 0) != 0) then
    false
   else
    match w33_LayoutLevels_L0 rv8.1.Pred rv26.1 rv33.1 (((rv33.1.length : Int) - 0).toNat) 0 with
    | .brk _ =>
     w33_sane
    | .ret r => r
    | .oof => default
def insK {α : Type} (key : α → Int) (x : α) : List α → List α
 | [] => [x]
 | y :: ys => if key y ≤ key x then y :: insK key x ys else x :: y :: ys
def srtK {α : Type} (key : α → Int) (xs : List α) : List α := xs.foldl (fun l x => insK key x l) []
theorem insK_mem {α : Type} {key : α → Int} {x y : α} : ∀ {l : List α}, y ∈ insK key x l ↔ y = x ∨ y ∈ l
 | [] => by simp [insK]
 | z :: l => by
  rw [insK]
  split
  ·rw [List.mem_cons, insK_mem, List.mem_cons]; constructor <;> (rintro (h | h | h) <;> simp [h])
  ·simp
theorem insK_len {α : Type} {key : α → Int} {x : α} : ∀ (l : List α), (insK key x l).length = l.length + 1
 | [] => rfl
 | z :: l => by
  rw [insK]
  split
  ·rw [List.length_cons, insK_len l]; rfl
  ·rfl
theorem insK_sorted {α : Type} {key : α → Int} {x : α} : ∀ {l : List α}, l.Pairwise (fun a b => key a ≤ key b) → (insK key x l).Pairwise (fun a b => key a ≤ key b)
 | [], _ => by simp [insK]
 | z :: l, h => by
  rw [insK]
  have hz := List.pairwise_cons.1 h
  split
  ·rename_i e
   refine List.pairwise_cons.2 ⟨fun y hy => ?_, insK_sorted hz.2⟩
   rcases insK_mem.1 hy with rfl | hy
   ·exact e
   ·exact hz.1 y hy
  ·rename_i e
   refine List.pairwise_cons.2 ⟨fun y hy => ?_, h⟩
   rcases List.mem_cons.1 hy with rfl | hy
   ·omega
   ·have := hz.1 y hy; omega
theorem insK_lt {α : Type} {key : α → Int} {x y : α} (h : key x < key y) : ∀ (p : List α), insK key x (p ++ [y]) = insK key x p ++ [y]
 | [] => by
  have : ¬ key y ≤ key x := by omega
  simp [insK, this]
 | z :: p => by
  rw [List.cons_append, insK, insK]
  split
  ·rw [insK_lt h p]; rfl
  ·rfl
theorem insK_ge {α : Type} {key : α → Int} {x : α} : ∀ (p : List α), (∀ z ∈ p, key z ≤ key x) → insK key x p = p ++ [x]
 | [], _ => rfl
 | z :: p, h => by
  have hz := h z (List.mem_cons_self ..)
  rw [insK, if_pos hz, insK_ge p fun y hy => h y (List.mem_cons_of_mem _ hy)]; rfl
theorem getD_mid {α : Type} (p q : List α) (x d : α) : (p ++ x :: q).getD p.length d = x := by simp [List.getD]
theorem insL1 {α : Type} (key : α → Int) (d : α) (f : Nat → List α → Int → List α) (h0 : ∀ l j, f 0 l j = l)
  (h1 : ∀ r l j, f (r + 1) l j = if key (l.getD j.toNat d) < key (l.getD (j - 1).toNat d) then f r ((l.set j.toNat (l.getD (j - 1).toNat d)).set (j - 1).toNat (l.getD j.toNat d)) (j - 1) else l) :
  ∀ (n : Nat) (p q : List α) (x : α), p.length = n → p.Pairwise (fun a b => key a ≤ key b) → f n (p ++ x :: q) (n : Int) = insK key x p ++ q
 | 0, p, q, x, hp, hs => by
  have : p = [] := List.length_eq_zero_iff.1 hp
  subst this
  rw [h0]; rfl
 | n + 1, p, q, x, hp, hs => by
  obtain ⟨p', y, rfl⟩ : ∃ p' y, p = p' ++ [y] := ⟨p.dropLast, p.getLast (by intro e; subst e; cases hp), (List.dropLast_concat_getLast _).symm⟩
  have hl : p'.length = n := by simp at hp; exact hp
  have e1 : ((n + 1 : Nat) : Int).toNat = n + 1 := by omega
  have e2 : (((n + 1 : Nat) : Int) - 1).toNat = n := by omega
  have g1 : (p' ++ [y] ++ x :: q).getD (n + 1) d = x := by
   have := getD_mid (p' ++ [y]) q x d
   rw [hp] at this; exact this
  have g2 : (p' ++ [y] ++ x :: q).getD n d = y := by
   have := getD_mid p' (x :: q) y d
   rw [hl] at this; simpa using this
  have hs' := List.pairwise_append.1 hs
  rw [h1, e1, e2, g1, g2]
  split
  ·rename_i hlt
   have es : ((p' ++ [y] ++ x :: q).set (n + 1) y).set n x = p' ++ x :: (y :: q) := by
    rw [← hl]; simp
   have ej : (((n + 1 : Nat) : Int) - 1) = (n : Int) := by omega
   rw [es, ej, insL1 key d f h0 h1 n p' (y :: q) x hl hs'.1, insK_lt hlt]
   simp
  ·rename_i hge
   rw [insK_ge]
   ·simp
   ·intro z hz
    rcases List.mem_append.1 hz with hz | hz
    ·have := hs'.2.2 z hz y (List.mem_cons_self ..); omega
    ·rw [List.mem_singleton] at hz; subst hz; omega
theorem insL0 {α : Type} (key : α → Int) (d : α) (f g : Nat → List α → Int → List α) (h0 : ∀ l j, f 0 l j = l)
  (h1 : ∀ r l j, f (r + 1) l j = if key (l.getD j.toNat d) < key (l.getD (j - 1).toNat d) then f r ((l.set j.toNat (l.getD (j - 1).toNat d)).set (j - 1).toNat (l.getD j.toNat d)) (j - 1) else l)
  (k0 : ∀ l i, g 0 l i = l) (k1 : ∀ r l i, g (r + 1) l i = g r (f (i - 0).toNat l i) (i + 1)) :
  ∀ (q p : List α), p.Pairwise (fun a b => key a ≤ key b) → g q.length (p ++ q) (p.length : Int) = q.foldl (fun l x => insK key x l) p
 | [], p, _ => by rw [List.length_nil, k0]; simp
 | x :: q, p, hp => by
  have e : ((p.length : Int) - 0).toNat = p.length := by omega
  rw [List.length_cons, k1, e, insL1 key d f h0 h1 p.length p q x rfl hp, List.foldl_cons, ← insL0 key d f g h0 h1 k0 k1 q _ (insK_sorted hp), insK_len]
  rfl
theorem insAll {α : Type} (key : α → Int) (d : α) (f g : Nat → List α → Int → List α) (h0 : ∀ l j, f 0 l j = l)
  (h1 : ∀ r l j, f (r + 1) l j = if key (l.getD j.toNat d) < key (l.getD (j - 1).toNat d) then f r ((l.set j.toNat (l.getD (j - 1).toNat d)).set (j - 1).toNat (l.getD j.toNat d)) (j - 1) else l)
  (k0 : ∀ l i, g 0 l i = l) (k1 : ∀ r l i, g (r + 1) l i = g r (f (i - 0).toNat l i) (i + 1)) (l : List α) : g ((l.length : Int) - (0 + 1)).toNat l (0 + 1) = srtK key l := by
 cases l with
 | nil => rw [show (((([] : List α).length : Nat) : Int) - (0 + 1)).toNat = 0 from rfl, k0]; rfl
 | cons x q =>
  have e : ((((x :: q).length : Nat) : Int) - (0 + 1)).toNat = q.length := by rw [List.length_cons]; omega
  rw [e]
  exact insL0 key d f g h0 h1 k0 k1 q [x] (List.pairwise_singleton _ _)
theorem mem_getD {l : List Int} {n : Int} : n ∈ l ↔ ∃ j : Int, 0 ≤ j ∧ j < (l.length : Int) ∧ l.getD j.toNat 0 = n := by
 constructor
 ·intro h
  obtain ⟨i, hi, e⟩ := List.getElem_of_mem h
  exact ⟨(i : Int), by omega, by omega, by simp [List.getD, hi, e]⟩
 ·rintro ⟨j, j1, j2, rfl⟩
  exact getD_mem (by omega)
theorem nodup_le : ∀ (n : Nat) (l : List Int), l.Nodup → (∀ x ∈ l, 0 ≤ x ∧ x < (n : Int)) → l.length ≤ n
 | 0, [], _, _ => Nat.le_refl _
 | 0, x :: l, _, h => by have := h x (by simp); omega
 | n + 1, l, hn, h => by
  have h1 : (l.erase (n : Int)).length ≤ n := nodup_le n (l.erase (n : Int)) (hn.erase _) (fun x hx => by
   have h2 := (List.Nodup.mem_erase_iff hn).1 hx
   have h3 := h x h2.2
   have h4 := h2.1
   omega)
  by_cases hm : (n : Int) ∈ l
  ·rw [List.length_erase_of_mem hm] at h1; omega
  ·rw [List.erase_of_not_mem hm] at h1; omega
theorem scan' {σ : Type} (f : Nat → Int → LR σ Int) (p : Int → Bool) (c : σ) (h0 : ∀ i, f 0 i = .brk c) (h1 : ∀ r i, f (r + 1) i = bif p i then .ret i else f r (i + 1)) :
  ∀ (m : Nat) (i : Int), (∃ j, f m i = .ret j ∧ i ≤ j ∧ j < i + m ∧ p j = true) ∨ (f m i = .brk c ∧ ∀ j, i ≤ j → j < i + m → p j = false)
 | 0, i => .inr ⟨h0 i, fun j h1 h2 => by omega⟩
 | m + 1, i => by
  rw [h1]
  cases hp : p i with
  | true => exact .inl ⟨i, rfl, by omega, by omega, hp⟩
  | false =>
   rcases scan' f p c h0 h1 m (i + 1) with ⟨j, e, j1, j2, j3⟩ | ⟨e, h⟩
   ·exact .inl ⟨j, e, by omega, by omega, j3⟩
   ·refine .inr ⟨e, fun j j1 j2 => ?_⟩
    rcases Int.lt_or_eq_of_le j1 with hlt | rfl
    ·exact h j (by omega) (by omega)
    ·exact hp
def WQ (p : Cpx) (a b : Int) : Prop := IV p.re a ∧ IV p.im b
theorem IV_0 : IV 0#64 0 := by
 have := IV_of (n := 0) (by decide)
 rwa [show (fofI 0).b = 0#64 by decide +kernel] at this
theorem IV_1 : IV 4607182418800017408#64 1 := by
 have := IV_of (n := 1) (by decide)
 rwa [show (fofI 1).b = 4607182418800017408#64 by decide +kernel] at this
theorem lenS_at {g : List (List Int)} {c : Int} (h : ∀ l ∈ g, (l.length : Int) ≤ c) (h0 : 0 ≤ c) (i : Nat) : ((g.getD i []).length : Int) ≤ c := by
 by_cases hi : i < g.length
 ·rw [List.getD_eq_getElem?_getD, List.getElem?_eq_getElem hi]; exact h _ (List.getElem_mem hi)
 ·rw [List.getD_eq_getElem?_getD, List.getElem?_eq_none (by omega)]; exact h0
theorem lenS_1 {g : List (List Int)} {c : Int} {i : Nat} (h : ∀ l ∈ g, (l.length : Int) ≤ c) (h0 : 0 ≤ c ∧ c ≤ 1000000000) : (g.getD i []).length ≤ 1000000000 := by
 have := lenS_at h h0.1 i; omega
theorem lenS_set {g : List (List Int)} {c c' : Int} {i j : Nat} {x : List Int} (h : ∀ l ∈ g, (l.length : Int) ≤ c) (hx : x.length ≤ (g.getD j []).length + 1) (hc : c + 1 ≤ c') (h0 : 0 ≤ c) : ∀ l ∈ g.set i x, (l.length : Int) ≤ c' := fun l hl => by
 rcases List.mem_or_eq_of_mem_set hl with hl | rfl
 ·have := h l hl; omega
 ·have := lenS_at h h0 j; omega
theorem gasc_L0 (l : List Int) (n : Int) : ∀ (r : Nat) (i : Int), (r : Int) = (l.length : Int) - i → 0 ≤ i → (gh_ascending_L0 l n r i = .brk () ∧ (∀ k, i ≤ k → k < (l.length : Int) → 0 ≤ l.getD k.toNat 0 ∧ l.getD k.toNat 0 < n ∧ (0 < k → l.getD (k - 1).toNat 0 < l.getD k.toNat 0))) ∨
  (gh_ascending_L0 l n r i = .ret false ∧ ¬ ∀ k, i ≤ k → k < (l.length : Int) → 0 ≤ l.getD k.toNat 0 ∧ l.getD k.toNat 0 < n ∧ (0 < k → l.getD (k - 1).toNat 0 < l.getD k.toNat 0))
 | 0, i, hr, hi => .inl ⟨by rw [gh_ascending_L0], fun k h1 h2 => by omega⟩
 | r + 1, i, hr, hi => by
  rw [gh_ascending_L0]
  by_cases c1 : l.getD i.toNat 0 < 0
  ·rw [decide_eq_true c1]; exact .inr ⟨rfl, fun h => by have := (h i (Int.le_refl _) (by omega)).1; omega⟩
  rw [decide_eq_false c1, cond_false]
  by_cases c2 : n ≤ l.getD i.toNat 0
  ·rw [decide_eq_true c2]; exact .inr ⟨rfl, fun h => by have := (h i (Int.le_refl _) (by omega)).2.1; omega⟩
  rw [decide_eq_false c2, cond_false]
  have go : (0 < i → l.getD (i - 1).toNat 0 < l.getD i.toNat 0) → (gh_ascending_L0 l n r (i + 1) = .brk () ∧ (∀ k, i ≤ k → k < (l.length : Int) → 0 ≤ l.getD k.toNat 0 ∧ l.getD k.toNat 0 < n ∧ (0 < k → l.getD (k - 1).toNat 0 < l.getD k.toNat 0))) ∨
    (gh_ascending_L0 l n r (i + 1) = .ret false ∧ ¬ ∀ k, i ≤ k → k < (l.length : Int) → 0 ≤ l.getD k.toNat 0 ∧ l.getD k.toNat 0 < n ∧ (0 < k → l.getD (k - 1).toNat 0 < l.getD k.toNat 0)) := fun hs => by
   rcases gasc_L0 l n r (i + 1) (by omega) (by omega) with ⟨h1, h2⟩ | ⟨h1, h2⟩
   ·refine .inl ⟨h1, fun k k1 k2 => ?_⟩
    by_cases e : k = i
    ·subst e; exact ⟨by omega, by omega, hs⟩
    ·exact h2 k (by omega) k2
   ·exact .inr ⟨h1, fun h => h2 fun k k1 k2 => h k (by omega) k2⟩
  by_cases c3 : 0 < i
  ·rw [decide_eq_true c3, cond_true]
   by_cases c4 : l.getD i.toNat 0 ≤ l.getD (i - 1).toNat 0
   ·rw [decide_eq_true c4]; exact .inr ⟨rfl, fun h => by have := (h i (Int.le_refl _) (by omega)).2.2 c3; omega⟩
   ·rw [decide_eq_false c4, cond_false]; exact go fun _ => by omega
  ·rw [decide_eq_false c3, cond_false]; exact go fun h => absurd h c3
def Asc (l : List Int) (n : Int) : Prop := ∀ k, 0 ≤ k → k < (l.length : Int) → 0 ≤ l.getD k.toNat 0 ∧ l.getD k.toNat 0 < n ∧ (0 < k → l.getD (k - 1).toNat 0 < l.getD k.toNat 0)
theorem gasc_iff (l : List Int) (n : Int) : gh_ascending l n = true ↔ Asc l n := by
 unfold gh_ascending
 rcases gasc_L0 l n ((((l.length : Nat) : Int) - 0).toNat) 0 (by omega) (by omega) with ⟨h1, h2⟩ | ⟨h1, h2⟩
 ·rw [h1]; exact ⟨fun _ => h2, fun _ => rfl⟩
 ·rw [h1]; exact ⟨fun h => (by cases h), fun h => absurd h h2⟩
structure VG (g : GGraph) : Prop where
 n1 : 1 ≤ g.Nodes.length ∧ g.Nodes.length ≤ 256
 sl : g.Succ.length = g.Nodes.length
 pl : g.Pred.length = g.Nodes.length
 sa : ∀ k : Int, 0 ≤ k → k < (g.Nodes.length : Int) → Asc (g.Succ.getD k.toNat []) (g.Nodes.length : Int)
theorem Asc_mem {l : List Int} {n x : Int} (h : Asc l n) (hx : x ∈ l) : 0 ≤ x ∧ x < n := by
 obtain ⟨i, hi, e⟩ := List.mem_iff_getElem.1 hx
 have := h (i : Int) (by omega) (by omega)
 rw [show ((i : Int)).toNat = i by omega, List.getD_eq_getElem?_getD, List.getElem?_eq_getElem hi] at this
 rw [← e]; exact ⟨this.1, this.2.1⟩
theorem Asc_len {l : List Int} {n : Int} (h : Asc l n) : (l.length : Int) ≤ n ∨ l = [] := by
 have key : ∀ (m : Nat), m < l.length → (m : Int) ≤ l.getD m 0 := fun m => by
  induction m with
  | zero => intro hm; have := (h 0 (by omega) (by omega)).1; simpa using this
  | succ m ih =>
   intro hm
   have h1 := ih (by omega)
   have h2 := (h ((m + 1 : Nat) : Int) (by omega) (by omega)).2.2 (by omega)
   rw [show (((m + 1 : Nat) : Int) - 1).toNat = m by omega, show (((m + 1 : Nat) : Int)).toNat = m + 1 by omega] at h2
   omega
 by_cases e : l.length = 0
 ·exact .inr (List.length_eq_zero_iff.1 e)
 ·left
  have h1 := key (l.length - 1) (by omega)
  have h2 := (h ((l.length - 1 : Nat) : Int) (by omega) (by omega)).2.1
  rw [show (((l.length - 1 : Nat) : Int)).toNat = l.length - 1 by omega] at h2
  omega
def sm : Nat → (Nat → Nat) → Nat
 | 0, _ => 0
 | n + 1, f => sm n f + f n
theorem sm_congr {f g : Nat → Nat} : ∀ n, (∀ i, i < n → f i = g i) → sm n f = sm n g
 | 0, _ => rfl
 | n + 1, h => by rw [sm, sm, sm_congr n (fun i hi => h i (by omega)), h n (by omega)]
theorem sm_add (f g : Nat → Nat) : ∀ n, sm n (fun i => f i + g i) = sm n f + sm n g
 | 0 => rfl
 | n + 1 => by rw [sm, sm, sm, sm_add f g n]; omega
theorem sm_zero : ∀ n, sm n (fun _ => 0) = 0
 | 0 => rfl
 | n + 1 => by rw [sm, sm_zero n]
theorem sm_swap (f : Nat → Nat → Nat) (m : Nat) : ∀ n, sm n (fun i => sm m (f i)) = sm m (fun k => sm n (fun i => f i k))
 | 0 => (sm_zero m).symm
 | n + 1 => by
  rw [sm, sm_swap f m n, ← sm_add]
  exact sm_congr m fun i _ => rfl
theorem sm_mono (f : Nat → Nat) {n m : Nat} (h : n ≤ m) : sm n f ≤ sm m f := by
 induction m with
 | zero => rw [show n = 0 by omega]; exact Nat.le_refl _
 | succ m ih =>
  by_cases e : n = m + 1
  ·rw [e]; exact Nat.le_refl _
  ·exact Nat.le_trans (ih (by omega)) (Nat.le_add_right _ _)
theorem sm_le (f : Nat → Nat) (c : Nat) : ∀ n, (∀ i, i < n → f i ≤ c) → sm n f ≤ n * c
 | 0, _ => Nat.zero_le _
 | n + 1, h => by
  have h1 := sm_le f c n (fun i hi => h i (by omega))
  have h2 := h n (by omega)
  rw [sm, Nat.succ_mul]; omega
theorem len_sm : ∀ (n : Nat) (l : List Int), l.Nodup → (∀ x ∈ l, 0 ≤ x ∧ x < (n : Int)) → l.length = sm n (fun k => if (k : Int) ∈ l then 1 else 0)
 | 0, l, _, h => by
  cases l with
  | nil => rfl
  | cons x l => have := h x (by simp); omega
 | n + 1, l, hn, h => by
  rw [sm]
  have h1 := len_sm n (l.erase (n : Int)) (hn.erase _) (fun x hx => by
   have hx' := (List.Nodup.mem_erase_iff hn).1 hx
   have h2 := h x hx'.2
   have h3 : x ≠ n := hx'.1
   omega)
  rw [sm_congr n (g := fun k => if (k : Int) ∈ l then 1 else 0) (fun i hi => by
   have : ((i : Int) ∈ l.erase (n : Int)) ↔ (i : Int) ∈ l := by
    rw [List.Nodup.mem_erase_iff hn]; exact ⟨fun h => h.2, fun h => ⟨by omega, h⟩⟩
   simp only [this])] at h1
  by_cases c : (n : Int) ∈ l
  ·rw [if_pos c, ← h1, List.length_erase_of_mem c]
   have := List.length_pos_of_mem c; omega
  ·rw [if_neg c, ← h1, List.erase_of_not_mem c]; omega
theorem Asc_lt {l : List Int} {n : Int} (h : Asc l n) (i : Nat) : ∀ d : Nat, i + d + 1 < l.length → l.getD i 0 < l.getD (i + d + 1) 0
 | 0, hd => by
  have := (h ((i + 1 : Nat) : Int) (by omega) (by omega)).2.2 (by omega)
  rwa [show (((i + 1 : Nat) : Int) - 1).toNat = i by omega, show (((i + 1 : Nat) : Int)).toNat = i + 1 by omega] at this
 | d + 1, hd => by
  have h1 := Asc_lt h i d (by omega)
  have h2 := (h ((i + d + 1 + 1 : Nat) : Int) (by omega) (by omega)).2.2 (by omega)
  rw [show (((i + d + 1 + 1 : Nat) : Int) - 1).toNat = i + d + 1 by omega, show (((i + d + 1 + 1 : Nat) : Int)).toNat = i + d + 1 + 1 by omega] at h2
  exact Int.lt_trans h1 h2
theorem Asc_iff (l : List Int) (n : Int) : Asc l n ↔ l.Pairwise (· < ·) ∧ ∀ x ∈ l, 0 ≤ x ∧ x < n := by
 constructor
 ·intro h
  refine ⟨List.pairwise_iff_getElem.2 fun i j hi hj hij => ?_, fun x hx => Asc_mem h hx⟩
  have := Asc_lt h i (j - i - 1) (by omega)
  rw [show i + (j - i - 1) + 1 = j by omega] at this
  simpa [List.getD_eq_getElem?_getD, List.getElem?_eq_getElem hi, List.getElem?_eq_getElem hj] using this
 ·rintro ⟨h1, h2⟩ k hk0 hk
  have hk' : k.toNat < l.length := by omega
  have e1 : l.getD k.toNat 0 = l[k.toNat] := by simp [List.getD_eq_getElem?_getD, List.getElem?_eq_getElem hk']
  rw [e1]
  refine ⟨(h2 _ (List.getElem_mem hk')).1, (h2 _ (List.getElem_mem hk')).2, fun h0 => ?_⟩
  have hk2 : (k - 1).toNat < l.length := by omega
  have e2 : l.getD (k - 1).toNat 0 = l[(k - 1).toNat] := by rw [List.getD_eq_getElem?_getD, List.getElem?_eq_getElem hk2]; rfl
  rw [e2]
  exact List.pairwise_iff_getElem.1 h1 _ _ hk2 hk' (by omega)
theorem Asc_nd {l : List Int} {n : Int} (h : Asc l n) : l.Nodup := ((Asc_iff l n).1 h).1.imp (fun hab => by omega)
structure VF (S P : List (List Int)) (n : Nat) : Prop where
 sl : S.length = n
 pl : P.length = n
 sa : ∀ k : Nat, k < n → Asc (S.getD k []) (n : Int)
 pa : ∀ k : Nat, k < n → Asc (P.getD k []) (n : Int)
 mi : ∀ i k : Nat, i < n → k < n → ((k : Int) ∈ S.getD i [] ↔ (i : Int) ∈ P.getD k [])
theorem VF.symm {S P : List (List Int)} {n : Nat} (h : VF S P n) : VF P S n := ⟨h.pl, h.sl, h.pa, h.sa, fun i k hi hk => (h.mi k i hk hi).symm⟩
def esum (l : List (List Int)) : Nat := sm l.length (fun i => (l.getD i []).length)
theorem VF.cnt {S P : List (List Int)} {n : Nat} (h : VF S P n) : esum S = esum P := by
 unfold esum
 rw [h.sl, h.pl]
 rw [sm_congr n (g := fun i => sm n (fun k => if (k : Int) ∈ S.getD i [] then 1 else 0)) (fun i hi => len_sm n _ (Asc_nd (h.sa i hi)) (fun x hx => Asc_mem (h.sa i hi) hx))]
 rw [sm_congr n (f := fun i => (P.getD i []).length) (g := fun i => sm n (fun k => if (k : Int) ∈ P.getD i [] then 1 else 0)) (fun i hi => len_sm n _ (Asc_nd (h.pa i hi)) (fun x hx => Asc_mem (h.pa i hi) hx))]
 rw [sm_swap]
 refine sm_congr n fun k hk => sm_congr n fun i hi => ?_
 simp only [h.mi i k hi hk]
theorem getD_lt {l : List Int} {k : Nat} (hk : k < l.length) : l.getD k 0 = l[k] := by rw [List.getD_eq_getElem?_getD, List.getElem?_eq_getElem hk]; rfl
theorem gset {l : List (List Int)} {a k : Nat} {x : List Int} (ha : a < l.length) : (l.set a x).getD k [] = if k = a then x else l.getD k [] := by
 simp only [List.getD_eq_getElem?_getD, List.getElem?_set]
 by_cases e : k = a
 ·subst e; simp [ha]
 ·simp [e, Ne.symm e]
theorem VF.nil (n : Nat) : VF (List.replicate n []) (List.replicate n []) n := by
 have e : ∀ k, (List.replicate n ([] : List Int)).getD k [] = [] := fun k => by
  rw [List.getD_eq_getElem?_getD, List.getElem?_replicate]; split <;> rfl
 refine ⟨List.length_replicate, List.length_replicate, fun k _ => ?_, fun k _ => ?_, fun i k _ _ => ?_⟩
 ·rw [e]; intro k h1 h2; simp at h2; omega
 ·rw [e]; intro k h1 h2; simp at h2; omega
 ·rw [e, e]; exact ⟨fun h => (by cases h), fun h => (by cases h)⟩
theorem VF.es {S P : List (List Int)} {n c : Nat} (h : VF S P n) (hc : n * n ≤ c) : esum S ≤ c := by
 refine Nat.le_trans (sm_le _ n _ fun i hi => ?_) (by rw [h.sl]; exact hc)
 rw [h.sl] at hi
 rcases Asc_len (h.sa i hi) with h1 | h1
 ·omega
 ·rw [h1]; simp
theorem Asc_in {l : List Int} {n i : Int} (h : Asc l n) (hi : 0 ≤ i ∧ i < (l.length : Int)) : 0 ≤ l.getD i.toNat 0 ∧ l.getD i.toNat 0 < n := Asc_mem h (getD_mem (by omega))
def RL (n : Nat) (l : List Int) : Prop := ∀ x ∈ l, 0 ≤ x ∧ x < (n : Int)
def RW (n : Nat) (l : List (List Int)) : Prop := ∀ r ∈ l, RL n r
theorem RL_nil (n : Nat) : RL n [] := fun x hx => by cases hx
theorem RL_get {n : Nat} {l : List Int} {i : Nat} (h : RL n l) (hi : i < l.length) : 0 ≤ l.getD i 0 ∧ l.getD i 0 < (n : Int) := h _ (getD_mem hi)
theorem RW_app {n : Nat} {l : List (List Int)} {r : List Int} (h : RW n l) (hr : RL n r) : RW n (l ++ [r]) := fun s hs => by
 rcases List.mem_append.1 hs with h1 | h1
 ·exact h s h1
 ·rw [List.mem_singleton.1 h1]; exact hr
theorem RW_get {n : Nat} {l : List (List Int)} {i k : Nat} (h : RW n l) (hi : i < l.length) (hk : k < (l.getD i []).length) : 0 ≤ (l.getD i []).getD k 0 ∧ (l.getD i []).getD k 0 < (n : Int) := RL_get (h _ (getD_mem hi)) hk
theorem insK_perm {α : Type} (key : α → Int) (x : α) : ∀ l : List α, (insK key x l).Perm (x :: l)
 | [] => List.Perm.refl _
 | y :: l => by
  rw [insK]
  split
  ·exact ((insK_perm key x l).cons y).trans (List.Perm.swap ..)
  ·exact List.Perm.refl _
theorem srtK_perm {α : Type} (key : α → Int) (l : List α) : (srtK key l).Perm l := by
 have : ∀ (q p : List α), (q.foldl (fun l x => insK key x l) p).Perm (p ++ q) := fun q => by
  induction q with
  | nil => intro p; simp
  | cons x q ih =>
   intro p
   rw [List.foldl_cons]
   refine (ih _).trans ?_
   exact ((insK_perm key x p).append_right q).trans (List.perm_middle (a := x) (l₁ := p) (l₂ := q)).symm
 have := this l []
 simpa [srtK] using this
theorem ofI_nat {l : Int} (h : 0 ≤ l ∧ l ≤ 65535) : (BitVec.ofInt 64 l).toNat = l.toNat := by rw [BitVec.toNat_ofInt]; omega
theorem Rep_i {a c : Nat} {count : Int} (h1 : a = 1) (h2 : (c : Int) = count) : 0 ≤ ((Nat.min a c : Nat) : Int) ∧ ((Nat.min a c : Nat) : Int) ≤ count ∧ (count = 0 ∨ 1 ≤ ((Nat.min a c : Nat) : Int)) := by
 rw [show Nat.min a c = min a c from rfl]; omega
theorem mem_dbl {α : Type} {s : List α} {k : Nat} {x : α} (h : x ∈ dbl s k) : x ∈ s := by
 unfold dbl at h
 rcases List.mem_append.1 h with h | h
 ·exact List.mem_of_mem_take h
 ·rcases List.mem_append.1 h with h | h
  ·exact List.mem_of_mem_take h
  ·exact List.mem_of_mem_drop h
theorem mem_swap {D d : List Int} {i j : Nat} (h : ∀ y ∈ d, y ∈ D) (hi : i < d.length) (hj : j < d.length) : ∀ y ∈ (d.set i (d.getD j 0)).set j (d.getD i 0), y ∈ D := fun y hy => by
 rcases List.mem_or_eq_of_mem_set hy with h1 | h1
 ·rcases List.mem_or_eq_of_mem_set h1 with h2 | h2
  ·exact h y h2
  ·rw [h2]; exact h _ (getD_mem hj)
 ·rw [h1]; exact h _ (getD_mem hi)
theorem RL_one {n : Nat} {x : Int} (hx : 0 ≤ x ∧ x < (n : Int)) : RL n [x] := fun y hy => by rw [List.mem_singleton.1 hy]; exact hx
theorem RW_nil (n : Nat) : RW n [] := fun r hr => by cases hr
theorem RL_app {n : Nat} {l : List Int} {x : Int} (h : RL n l) (hx : 0 ≤ x ∧ x < (n : Int)) : RL n (l ++ [x]) := fun y hy => by
 rcases List.mem_append.1 hy with h1 | h1
 ·exact h y h1
 ·rw [List.mem_singleton.1 h1]; exact hx
theorem cnt_set {s : List Bool} {b : Nat} (hb : b < s.length) (h : s.getD b false = false) : List.count true (s.set b true) = List.count true s + 1 := by
 rw [List.getD_eq_getElem?_getD, List.getElem?_eq_getElem hb] at h
 simp only [Option.getD_some] at h
 rw [List.count_set hb, h]
 simp
theorem nx_step {next : List Int} {s : List Bool} {b : Int} (h : next.length ≤ List.count true s) (hb : b.toNat < s.length) (hs : (!(s.getD b.toNat false)) = true) : (next ++ [b]).length ≤ List.count true (s.set b.toNat true) := by
 rw [cnt_set hb (by simpa using hs)]
 simp only [List.length_append, List.length_cons, List.length_nil]
 omega
theorem cnt12 {next : List Int} {s : List Bool} {n m : Nat} (h : next.length ≤ List.count true s) (hs : s.length = n) (hn : n ≤ m) : next.length ≤ m := by
 have := List.count_le_length (a := true) (l := s)
 omega
theorem VG_any {g : GGraph} (hg : VG g) (k : Nat) : ∀ e ∈ g.Succ.getD k [], 0 ≤ e ∧ e < (g.Nodes.length : Int) := fun e he => by
 by_cases c : k < g.Nodes.length
 ·have := hg.sa (k : Int) (by omega) (by omega)
  rw [show ((k : Int)).toNat = k by omega] at this
  exact Asc_mem this he
 ·rw [List.getD_eq_getElem?_getD, List.getElem?_eq_none (by rw [hg.sl]; omega)] at he
  cases he
def WB (p : Cpx) : Prop := ∃ a b : Int, WQ p a b ∧ a.natAbs ≤ 1000000000000000 ∧ b.natAbs ≤ 1000000000000000
theorem WB_out : WB (Cpx.mk 13830554455654793216#64 0#64) := ⟨-1, 0, ⟨by have := IV_of (n := -1) (by decide); rwa [show (fofI (-1)).b = 13830554455654793216#64 by decide +kernel] at this, IV_0⟩, by decide, by decide⟩
theorem WQ_inc {p : Cpx} {a b : Int} (h : WQ p a b) (ha : a.natAbs ≤ 1000000000000000) (hb : b.natAbs ≤ 1000000000000000) : caddok p (Cpx.mk 4607182418800017408#64 0#64) = true ∧ WQ (cadd p (Cpx.mk 4607182418800017408#64 0#64)) (a + 1) b := by
 have p1 := IV_add h.1 IV_1 (by omega)
 have p2 := IV_add h.2 IV_0 (by omega)
 rw [Int.add_zero] at p2
 refine ⟨?_, p1.2, p2.2⟩
 unfold caddok
 rw [p1.1, p2.1]; rfl
theorem WQ_dn {p : Cpx} {a b : Int} (h : WQ p a b) (ha : a.natAbs ≤ 1000000000000000) (hb : b.natAbs ≤ 1000000000000000) : caddok p (Cpx.mk 0#64 4607182418800017408#64) = true ∧ WQ (cadd p (Cpx.mk 0#64 4607182418800017408#64)) a (b + 1) := by
 have p1 := IV_add h.1 IV_0 (by omega)
 have p2 := IV_add h.2 IV_1 (by omega)
 rw [Int.add_zero] at p1
 refine ⟨?_, p1.2, p2.2⟩
 unfold caddok
 rw [p1.1, p2.1]; rfl
theorem WQ_0 : WQ (Cpx.mk 0#64 0#64) 0 0 := ⟨IV_0, IV_0⟩
theorem WB_set {l : List Cpx} {i : Nat} {p : Cpx} {a b : Int} (h : ∀ y ∈ l, WB y) (hp : WQ p a b) (ha : a.natAbs ≤ 1000000000000000) (hb : b.natAbs ≤ 1000000000000000) : ∀ y ∈ l.set i p, WB y := fun y hy => by
 rcases List.mem_or_eq_of_mem_set hy with h1 | h1
 ·exact h y h1
 ·rw [h1]; exact ⟨a, b, hp, ha, hb⟩
theorem WB_toI {l : List Cpx} {i : Nat} (h : ∀ y ∈ l, WB y) (hi : i < l.length) : ftoIok (Flo.mk (l.getD i default).im) = true := by
 obtain ⟨a, b, h1, h2, h3⟩ := h _ (getD_mem (d := default) hi)
 exact (IV_toI (x := Flo.mk (l.getD i default).im) h1.2 (by omega)).1
theorem WB_toB {l : List Cpx} {i : Nat} (h : ∀ y ∈ l, WB y) (hi : i < l.length) : -1000000000000000 ≤ ftoI (Flo.mk (l.getD i default).im) ∧ ftoI (Flo.mk (l.getD i default).im) ≤ 1000000000000000 := by
 obtain ⟨a, b, h1, h2, h3⟩ := h _ (getD_mem (d := default) hi)
 rw [(IV_toI (x := Flo.mk (l.getD i default).im) h1.2 (by omega)).2]; omega
def LB (l : List Int) : Prop := ∀ y ∈ l, -1000000000000000 ≤ y ∧ y ≤ 1000000000000000
theorem LB_nil : LB [] := fun y h => by cases h
theorem LB_app {l : List Int} {x : Int} (h : LB l) (hx : -1000000000000000 ≤ x ∧ x ≤ 1000000000000000) : LB (l ++ [x]) := fun y hy => by
 rcases List.mem_append.1 hy with h1 | h1
 ·exact h y h1
 ·rw [List.mem_singleton.1 h1]; exact hx
theorem LB_get {l : List Int} {i : Nat} (h : LB l) (hi : i < l.length) : -1000000000000000 ≤ l.getD i 0 ∧ l.getD i 0 ≤ 1000000000000000 := h _ (getD_mem hi)
def kf (pl : List Int) (v : Int) : Int := pl.getD v.toNat 0 * 100000 + v
abbrev IR (x : Int) : Prop := 0 ≤ x ∧ x < 100000
def cmT (pl : List Int) (a b : Int) : Int := if kf pl a < kf pl b then -1 else 1
structure BI (n : Nat) (s0 : List Bool) (X : Int → Prop) (s : List Bool) (nx : List Int) : Prop where
 sl : s.length = n
 nd : nx.Nodup
 sn : ∀ v : Int, 0 ≤ v → v < (n : Int) → (s.getD v.toNat false = true ↔ (s0.getD v.toNat false = true ∨ X v))
 mm : ∀ v : Int, v ∈ nx ↔ (0 ≤ v ∧ v < (n : Int)) ∧ s0.getD v.toNat false = false ∧ X v
theorem sb_set {s : List Bool} {k i : Nat} (hk : k < s.length) : (s.set k true).getD i false = if i = k then true else s.getD i false := by
 simp only [List.getD_eq_getElem?_getD, List.getElem?_set]
 by_cases e : i = k
 ·subst e; simp [hk]
 ·simp [e, Ne.symm e]
theorem BI.skip {n : Nat} {s0 s : List Bool} {X : Int → Prop} {nx : List Int} {b : Int} (h : BI n s0 X s nx) (hb : 0 ≤ b ∧ b < (n : Int)) (hs : s.getD b.toNat false = true) : BI n s0 (fun v => X v ∨ v = b) s nx := by
 have hX := (h.sn b hb.1 hb.2).1 hs
 refine ⟨h.sl, h.nd, fun v v0 v1 => ?_, fun v => ?_⟩
 ·rw [h.sn v v0 v1]
  constructor
  ·rintro (q | q)
   ·exact .inl q
   ·exact .inr (.inl q)
  ·rintro (q | q | q)
   ·exact .inl q
   ·exact .inr q
   ·subst q; exact hX
 ·rw [h.mm v]
  constructor
  ·rintro ⟨q1, q2, q3⟩
   exact ⟨q1, q2, .inl q3⟩
  ·rintro ⟨q1, q2, q3 | q3⟩
   ·exact ⟨q1, q2, q3⟩
   ·subst q3
    rcases hX with q | q
    ·rw [q] at q2; cases q2
    ·exact ⟨q1, q2, q⟩
theorem BI.add {n : Nat} {s0 s : List Bool} {X : Int → Prop} {nx : List Int} {b : Int} (h : BI n s0 X s nx) (hb : 0 ≤ b ∧ b < (n : Int)) (hs : s.getD b.toNat false = false) : BI n s0 (fun v => X v ∨ v = b) (s.set b.toNat true) (nx ++ [b]) := by
 have hn : ¬ (s0.getD b.toNat false = true ∨ X b) := fun q => by rw [(h.sn b hb.1 hb.2).2 q] at hs; cases hs
 have hbl : b.toNat < s.length := by rw [h.sl]; omega
 refine ⟨by rw [List.length_set]; exact h.sl, ?_, fun v v0 v1 => ?_, fun v => ?_⟩
 ·rw [List.nodup_append]
  refine ⟨h.nd, by simp, fun x hx y hy => ?_⟩
  rw [List.mem_singleton.1 hy]
  intro e
  subst e
  exact hn (.inr ((h.mm _).1 hx).2.2)
 ·rw [sb_set hbl]
  by_cases e : v = b
  ·subst e; simp
  ·rw [if_neg (by omega), h.sn v v0 v1]
   constructor
   ·rintro (q | q)
    ·exact .inl q
    ·exact .inr (.inl q)
   ·rintro (q | q | q)
    ·exact .inl q
    ·exact .inr q
    ·exact absurd q e
 ·rw [List.mem_append, List.mem_singleton, h.mm v]
  constructor
  ·rintro (⟨q1, q2, q3⟩ | q)
   ·exact ⟨q1, q2, .inl q3⟩
   ·subst q
    refine ⟨hb, ?_, .inr rfl⟩
    cases c : s0.getD v.toNat false
    ·rfl
    ·exact absurd (.inl c) hn
  ·rintro ⟨q1, q2, q3 | q3⟩
   ·exact .inl ⟨q1, q2, q3⟩
   ·exact .inr q3
theorem BI.congr {n : Nat} {s0 s : List Bool} {X Y : Int → Prop} {nx : List Int} (h : BI n s0 X s nx) (e : ∀ v, X v ↔ Y v) : BI n s0 Y s nx :=
 ⟨h.sl, h.nd, fun v v0 v1 => by rw [h.sn v v0 v1, e v], fun v => by rw [h.mm v, e v]⟩
def In (n : Nat) (v : Int) : Prop := 0 ≤ v ∧ v < (n : Int)
structure DP (g : GGraph) (root : Int) (d : Int → Int) : Prop where
 d0 : d root = 0
 dr : ∀ v, In g.Nodes.length v → d v = 0 → v = root
 d1 : ∀ u v, In g.Nodes.length u → 0 ≤ d u → v ∈ g.Succ.getD u.toNat [] → 0 ≤ d v ∧ d v ≤ d u + 1
 d2 : ∀ v, In g.Nodes.length v → 1 ≤ d v → ∃ u, In g.Nodes.length u ∧ v ∈ g.Succ.getD u.toNat [] ∧ d u = d v - 1
 lo : ∀ v, -1 ≤ d v
structure RI_ (g : GGraph) (root : Int) (k : Nat) (s : List Bool) (row : List Int) (l : List (List Int)) (d : Int → Int) : Prop where
 sl : s.length = g.Nodes.length
 rn : row.Nodup
 rm : ∀ v, v ∈ row ↔ In g.Nodes.length v ∧ d v = (k : Int)
 ll : l.length = k
 ln : ∀ j : Nat, j < k → (l.getD j []).Nodup ∧ ∀ v, v ∈ l.getD j [] ↔ In g.Nodes.length v ∧ d v = (j : Int)
 sn : ∀ v, In g.Nodes.length v → (s.getD v.toNat false = true ↔ 0 ≤ d v)
 lo : ∀ v, -1 ≤ d v ∧ d v ≤ (k : Int)
 d0 : d root = 0
 dr : ∀ v, In g.Nodes.length v → d v = 0 → v = root
 d1 : ∀ u v, In g.Nodes.length u → 0 ≤ d u → d u < (k : Int) → v ∈ g.Succ.getD u.toNat [] → 0 ≤ d v ∧ d v ≤ d u + 1
 d2 : ∀ v, In g.Nodes.length v → 1 ≤ d v → ∃ u, In g.Nodes.length u ∧ v ∈ g.Succ.getD u.toNat [] ∧ d u = d v - 1
theorem RI_init {g : GGraph} {root : Int} (hr : In g.Nodes.length root) : RI_ g root 0 ((List.replicate (((g.Nodes.length : Nat) : Int) : Int).toNat false).set (root : Int).toNat true) [root] [] (fun v => if v = root then 0 else -1) := by
 obtain ⟨r0, r1⟩ := hr
 refine ⟨by simp, by simp, fun v => ?_, rfl, fun j hj => by omega, fun v hv => ?_, fun v => ?_, by simp, fun v hv h => ?_, fun u v hu h1 h2 => ?_, fun v hv h => ?_⟩
 ·rw [List.mem_singleton]
  constructor
  ·intro e; subst e; exact ⟨⟨r0, r1⟩, by simp⟩
  ·rintro ⟨_, h⟩
   by_cases e : v = root
   ·exact e
   ·simp only [if_neg e] at h; omega
 ·rw [sb_set (by simp; omega)]
  obtain ⟨v0, v1⟩ := hv
  by_cases e : v = root
  ·subst e; simp
  ·rw [if_neg (by omega), if_neg e]
   have : (List.replicate (((g.Nodes.length : Nat) : Int) : Int).toNat false).getD v.toNat false = false := by
    rw [List.getD_eq_getElem?_getD, List.getElem?_replicate]
    split <;> rfl
   rw [this]; simp
 ·by_cases e : v = root
  ·simp [e]
  ·simp [e]
 ·by_cases e : v = root
  ·exact e
  ·simp only [if_neg e] at h; omega
 ·by_cases e : u = root
  ·simp only [if_pos e] at h2; omega
  ·simp only [if_neg e] at h1; omega
 ·by_cases e : v = root
  ·simp only [if_pos e] at h; omega
  ·simp only [if_neg e] at h; omega
theorem RI_step {g : GGraph} (hg : VG g) {root : Int} {k : Nat} {s s' : List Bool} {row nx row' : List Int} {l : List (List Int)} {d : Int → Int} (h : RI_ g root k s row l d)
  (hb : BI g.Nodes.length s (fun x => ∃ a ∈ row, x ∈ g.Succ.getD a.toNat []) s' nx) (hp : row'.Perm nx) : RI_ g root (k + 1) s' row' (l ++ [row]) (fun v => if v ∈ nx then ((k + 1 : Nat) : Int) else d v) := by
 have hnew : ∀ v, v ∈ nx ↔ In g.Nodes.length v ∧ d v = -1 ∧ ∃ a ∈ row, v ∈ g.Succ.getD a.toNat [] := fun v => by
  rw [hb.mm v]
  constructor
  ·rintro ⟨q1, q2, q3⟩
   refine ⟨q1, ?_, q3⟩
   have := (h.lo v).1
   have h3 : ¬ 0 ≤ d v := fun q => by rw [(h.sn v q1).2 q] at q2; cases q2
   omega
  ·rintro ⟨q1, q2, q3⟩
   refine ⟨q1, ?_, q3⟩
   cases c : s.getD v.toNat false
   ·rfl
   ·have := (h.sn v q1).1 c; omega
 refine ⟨hb.sl, hp.nodup_iff.2 hb.nd, fun v => ?_, by rw [List.length_append, h.ll]; rfl, fun j hj => ?_, fun v hv => ?_, fun v => ?_, ?_, fun v hv e => ?_, fun u v hu h1 h2 hm => ?_, fun v hv e => ?_⟩
 ·rw [hp.mem_iff]
  constructor
  ·intro q; exact ⟨((hnew v).1 q).1, by rw [if_pos q]⟩
  ·rintro ⟨q1, q2⟩
   by_cases c : v ∈ nx
   ·exact c
   ·rw [if_neg c] at q2; have := (h.lo v).2; omega
 ·have e : ∀ v, v ∈ l.getD j [] ∨ j = k → (v ∈ (l ++ [row]).getD j [] ↔ In g.Nodes.length v ∧ d v = (j : Int)) := fun v _ => by
   by_cases c : j < k
   ·rw [List.getD_eq_getElem?_getD, List.getElem?_append_left (by rw [h.ll]; exact c), ← List.getD_eq_getElem?_getD]
    exact (h.ln j c).2 v
   ·have : j = k := by omega
    subst this
    rw [List.getD_eq_getElem?_getD, List.getElem?_append_right (by rw [h.ll]; exact Nat.le_refl _), h.ll, Nat.sub_self]
    exact h.rm v
  have e2 : ∀ v, (In g.Nodes.length v ∧ d v = (j : Int)) ↔ (In g.Nodes.length v ∧ (if v ∈ nx then ((k + 1 : Nat) : Int) else d v) = (j : Int)) := fun v => by
   by_cases c : v ∈ nx
   ·rw [if_pos c]
    have := ((hnew v).1 c).2.1
    constructor
    ·rintro ⟨_, q⟩; omega
    ·rintro ⟨_, q⟩; omega
   ·rw [if_neg c]
  by_cases c : j < k
  ·refine ⟨?_, fun v => ?_⟩
   ·rw [List.getD_eq_getElem?_getD, List.getElem?_append_left (by rw [h.ll]; exact c), ← List.getD_eq_getElem?_getD]
    exact (h.ln j c).1
   ·rw [← e2 v, List.getD_eq_getElem?_getD, List.getElem?_append_left (by rw [h.ll]; exact c), ← List.getD_eq_getElem?_getD]
    exact (h.ln j c).2 v
  ·have hjk : j = k := by omega
   refine ⟨?_, fun v => ?_⟩
   ·rw [hjk, List.getD_eq_getElem?_getD, List.getElem?_append_right (by rw [h.ll]; exact Nat.le_refl _), h.ll, Nat.sub_self]
    exact h.rn
   ·rw [← e2 v]; exact e v (.inr hjk)
 ·rw [hb.sn v hv.1 hv.2]
  by_cases c : v ∈ nx
  ·rw [if_pos c]
   exact ⟨fun _ => by omega, fun _ => .inr ((hnew v).1 c).2.2⟩
  ·rw [if_neg c]
   constructor
   ·rintro (q | q)
    ·exact (h.sn v hv).1 q
    ·have h3 : ¬ d v = -1 := fun q2 => c ((hnew v).2 ⟨hv, q2, q⟩)
     have := (h.lo v).1
     omega
   ·intro q; exact .inl ((h.sn v hv).2 q)
 ·by_cases c : v ∈ nx
  ·simp only [if_pos c]; omega
  ·simp only [if_neg c]; have := h.lo v; omega
 ·have c : ¬ root ∈ nx := fun q => by have := ((hnew root).1 q).2.1; rw [h.d0] at this; omega
  simp only [if_neg c]; exact h.d0
 ·by_cases c : v ∈ nx
  ·simp only [if_pos c] at e; omega
  ·simp only [if_neg c] at e; exact h.dr v hv e
 ·have hun : ¬ u ∈ nx := fun q => by simp only [if_pos q] at h2; omega
  simp only [if_neg hun] at h1 h2 ⊢
  by_cases c : v ∈ nx
  ·simp only [if_pos c]
   have hd := ((hnew v).1 c).2.1
   by_cases c2 : d u < (k : Int)
   ·have := h.d1 u v hu h1 c2 hm; omega
   ·omega
  ·simp only [if_neg c]
   by_cases c2 : d u < (k : Int)
   ·exact h.d1 u v hu h1 c2 hm
   ·have hur : u ∈ row := (h.rm u).2 ⟨hu, by omega⟩
    have hlo := h.lo v
    have hv : In g.Nodes.length v := VG_any hg _ v hm
    have h3 : ¬ d v = -1 := fun q2 => c ((hnew v).2 ⟨hv, q2, u, hur, hm⟩)
    omega
 ·by_cases c : v ∈ nx
  ·obtain ⟨_, _, a, ha, hm⟩ := (hnew v).1 c
   have ⟨ha1, ha2⟩ := (h.rm a).1 ha
   have hna : ¬ a ∈ nx := fun q => by have := ((hnew a).1 q).2.1; omega
   exact ⟨a, ha1, hm, by simp only [if_pos c, if_neg hna]; omega⟩
  ·simp only [if_neg c] at e ⊢
   obtain ⟨u, u1, u2, u3⟩ := h.d2 v hv e
   have hnu : ¬ u ∈ nx := fun q => by have := ((hnew u).1 q).2.1; omega
   exact ⟨u, u1, u2, by simp only [if_neg hnu]; exact u3⟩
def ocx : Cpx := Cpx.mk 13830554455654793216#64 0#64
theorem dropD {l : List Int} {k : Nat} (hi : k < l.length) : l.drop k = l.getD k 0 :: l.drop (k + 1) := by
 rw [List.drop_eq_getElem_cons hi]; simp [List.getD, hi]
theorem cset {l : List Cpx} {k i : Nat} {p : Cpx} (hk : k < l.length) : (l.set k p).getD i default = if i = k then p else l.getD i default := by
 simp only [List.getD_eq_getElem?_getD, List.getElem?_set]
 by_cases e : i = k
 ·subst e; simp [hk]
 ·simp [e, Ne.symm e]
def PSt (n : Nat) (d : Int → Int) (J : Int) (at_ : List Cpx) : Prop := at_.length = n ∧ ∀ x : Int, In n x → (0 ≤ d x → d x < J → ∃ a : Int, 0 ≤ a ∧ a ≤ 1000000 ∧ WQ (at_.getD x.toNat default) a (d x)) ∧ (¬ (0 ≤ d x ∧ d x < J) → at_.getD x.toNat default = ocx)
theorem ceq_oc {p : Cpx} {a b : Int} (h : WQ p a b) (ha : 0 ≤ a) : ceq p (Cpx.mk 13830554455654793216#64 0#64) = false := by
 have hm : IV 13830554455654793216#64 (-1) := by
  have := IV_of (n := -1) (by decide)
  rwa [show (fofI (-1)).b = 13830554455654793216#64 by decide +kernel] at this
 unfold ceq
 simp only
 rw [IV_ord h.1 hm, cmpI, if_neg (by omega), if_neg (by omega)]
 rfl
theorem ceq_occ : ceq ocx (Cpx.mk 13830554455654793216#64 0#64) = true := by
 have hm : IV 13830554455654793216#64 (-1) := by
  have := IV_of (n := -1) (by decide)
  rwa [show (fofI (-1)).b = 13830554455654793216#64 by decide +kernel] at this
 unfold ceq ocx
 simp only
 rw [IV_ord hm hm, IV_ord IV_0 IV_0]
 rfl
theorem count_L0 (l : List (List Int)) : ∀ (r : Nat) (e i : Int), (r : Int) = (l.length : Int) - i → 0 ≤ i → 0 ≤ e → (∃ e', gh_count_L0 l r e i = .brk e' ∧ 0 ≤ e' ∧ ∀ k, i ≤ k → k < (l.length : Int) → Asc (l.getD k.toNat []) (l.length : Int)) ∨ gh_count_L0 l r e i = .ret (-1)
 | 0, e, i, hr, hi, he => .inl ⟨e, by rw [gh_count_L0], he, fun k h1 h2 => by omega⟩
 | r + 1, e, i, hr, hi, he => by
  rw [gh_count_L0]
  cases decide (1024 < e + (((l.getD i.toNat []).length : Nat) : Int))
  ·rw [cond_false]
   cases ha : gh_ascending (l.getD i.toNat []) ((l.length : Nat) : Int)
   ·exact .inr rfl
   ·rcases count_L0 l r (e + (((l.getD i.toNat []).length : Nat) : Int)) (i + 1) (by omega) (by omega) (by omega) with ⟨e', h1, h2, h3⟩ | h1
    ·refine .inl ⟨e', h1, h2, fun k k1 k2 => ?_⟩
     by_cases c : k = i
     ·subst c; exact (gasc_iff _ _).1 ha
     ·exact h3 k (by omega) k2
    ·exact .inr h1
  ·exact .inr rfl
theorem count_rg {l : List (List Int)} {r : Int} (h : gh_count l = r) (hr : decide (r < 0) = false) : ∀ (i k : Nat), (k : Int) < ((l.getD i []).length : Int) → 0 ≤ (l.getD i []).getD k 0 ∧ (l.getD i []).getD k 0 < (l.length : Int) := fun i k hk => by
 have hr := of_decide_eq_false hr
 unfold gh_count at h
 rcases count_L0 l ((((l.length : Nat) : Int) - 0).toNat) 0 0 (by omega) (by omega) (by omega) with ⟨e', h1, h2, h3⟩ | h1
 ·by_cases hi : i < l.length
  ·have := h3 (i : Int) (by omega) (by omega) (k : Int) (by omega) (by rw [show ((i : Int)).toNat = i by omega]; exact hk)
   rw [show ((i : Int)).toNat = i by omega, show ((k : Int)).toNat = k by omega] at this
   exact ⟨this.1, this.2.1⟩
  ·rw [List.getD_eq_getElem?_getD, List.getElem?_eq_none (by omega)] at hk; simp at hk; omega
 ·rw [h1] at h; dsimp only at h; omega
theorem count_asc {l : List (List Int)} {r : Int} (h : gh_count l = r) (hr : decide (r < 0) = false) : ∀ k : Int, 0 ≤ k → k < (l.length : Int) → Asc (l.getD k.toNat []) (l.length : Int) := by
 have hr := of_decide_eq_false hr
 unfold gh_count at h
 rcases count_L0 l ((((l.length : Nat) : Int) - 0).toNat) 0 0 (by omega) (by omega) (by omega) with ⟨e', h1, h2, h3⟩ | h1
 ·exact h3
 ·rw [h1] at h; dsimp only at h; omega
theorem count_LV (l : List (List Int)) (ha : ∀ k : Nat, k < l.length → Asc (l.getD k []) (l.length : Int)) (hs : esum l ≤ 1024) : ∀ (r i : Nat), r + i = l.length → gh_count_L0 l r ((sm i (fun i => (l.getD i []).length) : Nat) : Int) (i : Int) = .brk ((esum l : Nat) : Int)
 | 0, i, h => by rw [gh_count_L0, show i = l.length by omega]; rfl
 | r + 1, i, h => by
  have e : ((i : Int)).toNat = i := by omega
  have hm := sm_mono (fun i => (l.getD i []).length) (n := i + 1) (m := l.length) (by omega)
  have hm' : sm (i + 1) (fun i => (l.getD i []).length) ≤ 1024 := Nat.le_trans hm hs
  have e2 : ((sm i (fun i => (l.getD i []).length) : Nat) : Int) + (((l.getD i []).length : Nat) : Int) = ((sm (i + 1) (fun i => (l.getD i []).length) : Nat) : Int) := by
   show _ = ((sm i (fun i => (l.getD i []).length) + (l.getD i []).length : Nat) : Int); omega
  rw [gh_count_L0, e, e2, decide_eq_false (show ¬ (1024 : Int) < _ by omega), cond_false]
  dsimp only
  rw [(gasc_iff _ _).2 (ha i (by omega)), Bool.not_true, cond_false, show (i : Int) + 1 = ((i + 1 : Nat) : Int) by omega]
  exact count_LV l ha hs r (i + 1) (by omega)
theorem count_val {l : List (List Int)} (ha : ∀ k : Nat, k < l.length → Asc (l.getD k []) (l.length : Int)) (hs : esum l ≤ 1024) : gh_count l = ((esum l : Nat) : Int) := by
 unfold gh_count
 have := count_LV l ha hs l.length 0 (by omega)
 rw [show ((((l.length : Nat) : Int) : Int) - 0).toNat = l.length by omega]
 simp only [sm] at this
 rw [show ((0 : Nat) : Int) = 0 from rfl] at this
 rw [this]
theorem Contains_iff (l : List Int) (n : Int) : sc_Contains_int l n = true ↔ n ∈ l := by
 have := scan' (fun r i => sc_Index_int_L0 l n r i) (fun i => n == l.getD i.toNat 0) () (fun _ => rfl) (fun _ _ => rfl) ((((l.length : Nat) : Int) - 0).toNat) 0
 unfold sc_Contains_int sc_Index_int
 rw [mem_getD]
 rcases this with ⟨j, e, j1, j2, j3⟩ | ⟨e, h⟩
 ·rw [e]
  exact ⟨fun _ => ⟨j, j1, by omega, (eq_of_beq j3).symm⟩, fun _ => by simpa using j1⟩
 ·rw [e]
  refine ⟨fun h => by simp at h, ?_⟩
  rintro ⟨j, j1, j2, j3⟩
  have := h j j1 (by omega)
  simp only [j3] at this; simp at this
theorem Valid_VG {g : GGraph} (h : gh_Valid g = true) : VG g := by
 unfold gh_Valid at h
 dsimp only at h
 by_cases c1 : ((g.Nodes.length : Nat) : Int) < 1
 ·rw [decide_eq_true c1] at h; cases h
 rw [decide_eq_false c1, cond_false] at h
 by_cases c2 : 256 < ((g.Nodes.length : Nat) : Int)
 ·rw [decide_eq_true c2] at h; cases h
 rw [decide_eq_false c2, cond_false] at h
 cases c3 : ((g.Succ.length : Nat) : Int) != ((g.Nodes.length : Nat) : Int)
 ·rw [c3, cond_false] at h
  cases c4 : ((g.Pred.length : Nat) : Int) != ((g.Nodes.length : Nat) : Int)
  ·rw [c4, cond_false] at h
   cases c5 : decide (gh_count g.Succ < 0)
   ·have e3 : ((g.Succ.length : Nat) : Int) = ((g.Nodes.length : Nat) : Int) := by simpa using c3
    have e4 : ((g.Pred.length : Nat) : Int) = ((g.Nodes.length : Nat) : Int) := by simpa using c4
    have ha := count_asc rfl c5
    rw [e3] at ha
    exact ⟨by omega, by omega, by omega, ha⟩
   ·rw [c5] at h; cases h
  ·rw [c4] at h; cases h
 ·rw [c3] at h; cases h
theorem Valid_L1t {g : GGraph} {a : Int} {v : List Int} (h : ∀ x ∈ v, a ∈ g.Pred.getD x.toNat []) : ∀ (r : Nat) (i : Int), 0 ≤ i → i + (r : Int) ≤ (v.length : Int) → gh_Valid_L1 g a v r i = .brk ()
 | 0, i, _, _ => by rw [gh_Valid_L1]
 | r + 1, i, h0, h1 => by
  rw [gh_Valid_L1]
  rw [(Contains_iff _ _).2 (h _ (getD_mem (by omega))), Bool.not_true, cond_false]
  exact Valid_L1t h r (i + 1) (by omega) (by omega)
theorem Valid_L0t {g : GGraph} (h : ∀ a : Int, 0 ≤ a → a < (g.Succ.length : Int) → ∀ x ∈ g.Succ.getD a.toNat [], a ∈ g.Pred.getD x.toNat []) : ∀ (r : Nat) (i : Int), 0 ≤ i → i + (r : Int) ≤ (g.Succ.length : Int) → gh_Valid_L0 g r i = .brk ()
 | 0, i, _, _ => by rw [gh_Valid_L0]
 | r + 1, i, h0, h1 => by
  rw [gh_Valid_L0, Valid_L1t (h i h0 (by omega)) _ 0 (by omega) (by omega)]
  exact Valid_L0t h r (i + 1) (by omega) (by omega)
theorem Valid_of {g : GGraph} {n : Nat} (hn : g.Nodes.length = n) (h1 : 1 ≤ n) (h2 : n ≤ 256) (h : VF g.Succ g.Pred n) (hs : esum g.Succ ≤ 1024) : gh_Valid g = true := by
 unfold gh_Valid
 have e1 := h.sl; have e2 := h.pl
 dsimp only
 rw [decide_eq_false (by omega), cond_false, decide_eq_false (by omega), cond_false]
 rw [show (((g.Succ.length : Nat) : Int) != ((g.Nodes.length : Nat) : Int)) = false by rw [e1, hn]; simp]
 rw [show (((g.Pred.length : Nat) : Int) != ((g.Nodes.length : Nat) : Int)) = false by rw [e2, hn]; simp]
 have hc := h.cnt
 rw [count_val (l := g.Succ) (fun k hk => by rw [e1]; exact h.sa k (by omega)) hs, count_val (l := g.Pred) (fun k hk => by rw [e2]; exact h.pa k (by omega)) (by omega), hc]
 rw [cond_false, cond_false, decide_eq_false (by omega), cond_false]
 rw [show (((esum g.Pred : Nat) : Int) != ((esum g.Pred : Nat) : Int)) = false by simp, cond_false]
 rw [Valid_L0t (fun a a0 a1 x hx => by
  have hx2 := Asc_mem (h.sa a.toNat (by omega)) hx
  have := (h.mi a.toNat x.toNat (by omega) (by omega)).1 (by rw [show ((x.toNat : Nat) : Int) = x by omega]; exact hx)
  rwa [show ((a.toNat : Nat) : Int) = a by omega] at this) _ 0 (by omega) (by omega)]
theorem Valid_sq {g : GGraph} {n : Nat} (hn : g.Nodes.length = n) (h1 : 1 ≤ n) (h2 : n ≤ 32) (h : VF g.Succ g.Pred n) : gh_Valid g = true :=
 Valid_of hn h1 (by omega) h (h.es (Nat.mul_le_mul h2 h2))
theorem Next_rng (t : List Int) (k n : Int) (hn : n ≤ 9223372036854775807) : 0 ≤ (tp_Next t k n).1 ∧ ((tp_Next t k n).1 < n ∨ (tp_Next t k n).1 = 0) := by
 unfold tp_Next
 by_cases h1 : n ≤ 1
 ·simp [h1]
 ·by_cases h2 : (t.length : Int) ≤ k
  ·simp [h1, h2]
  ·simp only [decide_eq_false h1, decide_eq_false h2, cond_false]
   have := mod_range (t.getD (k + 1 - 1).toNat 0) n (by omega)
   unfold g_Mod
   exact ⟨this.1, .inl this.2⟩
theorem Next_lt (t : List Int) (k n : Int) (h1 : 1 ≤ n) (hn : n ≤ 9223372036854775807) : 0 ≤ (tp_Next t k n).1 ∧ (tp_Next t k n).1 < n := by
 have := Next_rng t k n hn; omega
theorem Next_rg (t : List Int) (k n : Int) (hn : n ≤ 9223372036854775807) : 0 ≤ (tp_Next t k n).1 ∧ ((tp_Next t k n).1 < n ∨ (tp_Next t k n).1 = 0) := by
 unfold tp_Next
 by_cases h1 : n ≤ 1
 ·simp [h1]
 ·by_cases h2 : (t.length : Int) ≤ k
  ·simp [h1, h2]
  ·simp only [decide_eq_false h1, decide_eq_false h2, cond_false]
   have := mod_range (t.getD (k + 1 - 1).toNat 0) n (by omega)
   unfold g_Mod
   exact ⟨this.1, .inl this.2⟩
theorem Ins_L0 (l : List Int) (x : Int) : ∀ (r : Nat) (i : Int), 0 ≤ i → i + (r : Int) = (l.length : Int) → ∃ o : Nat, r7_Insert_L0 l x r i = (o : Int) ∧ i.toNat ≤ o ∧ o ≤ l.length ∧ (∀ k, i.toNat ≤ k → k < o → l.getD k 0 < x) ∧ (o < l.length → x ≤ l.getD o 0)
 | 0, i, h0, h => ⟨i.toNat, by rw [r7_Insert_L0]; omega, Nat.le_refl _, by omega, fun k h1 h2 => by omega, fun hh => by omega⟩
 | r + 1, i, h0, h => by
  rw [r7_Insert_L0]
  by_cases c : l.getD i.toNat 0 < x
  ·rw [decide_eq_true c, cond_true]
   obtain ⟨o, h1, h2, h3, h4, h5⟩ := Ins_L0 l x r (i + 1) (by omega) (by omega)
   refine ⟨o, h1, by omega, h3, fun k k1 k2 => ?_, h5⟩
   by_cases e : k = i.toNat
   ·rw [e]; exact c
   ·exact h4 k (by omega) k2
  ·rw [decide_eq_false c, cond_false]
   exact ⟨i.toNat, by omega, Nat.le_refl _, by omega, fun k h1 h2 => by omega, fun hh => by omega⟩
theorem Insert_spec {l : List Int} {n x : Int} (h : Asc l n) (hx : 0 ≤ x ∧ x < n) : Asc (r7_Insert l x) n ∧ ∀ y, y ∈ r7_Insert l x ↔ y = x ∨ y ∈ l := by
 obtain ⟨o, h1, -, h3, h4, h5⟩ := Ins_L0 l x (((((l.length : Nat) : Int) : Int) - 0).toNat) 0 (by omega) (by omega)
 have core : (o < l.length → x < l.getD o 0) → Asc ((((l.take (((o : Nat) : Int) : Int).toNat).drop 0) ++ [x]) ++ ((l.take l.length).drop (((o : Nat) : Int) : Int).toNat)) n ∧ ∀ y, y ∈ ((((l.take (((o : Nat) : Int) : Int).toNat).drop 0) ++ [x]) ++ ((l.take l.length).drop (((o : Nat) : Int) : Int).toNat)) ↔ y = x ∨ y ∈ l := by
  intro hgt
  rw [Int.toNat_natCast, List.drop_zero, List.take_length]
  obtain ⟨p1, p2⟩ := (Asc_iff l n).1 h
  have ht : ∀ y ∈ l.take o, y < x := by
   intro y hy
   obtain ⟨k, hk, e⟩ := List.mem_iff_getElem.1 hy
   rw [List.length_take] at hk
   have := h4 k (by omega) (by omega)
   rw [getD_lt (by omega)] at this
   rw [List.getElem_take] at e
   rw [← e]; exact this
  have hd : ∀ y ∈ l.drop o, x < y := by
   intro y hy
   obtain ⟨k, hk, e⟩ := List.mem_iff_getElem.1 hy
   rw [List.length_drop] at hk
   rw [List.getElem_drop] at e
   have h0 := hgt (by omega)
   by_cases k0 : k = 0
   ·subst k0
    rw [getD_lt (by omega)] at h0
    rw [← e]; exact h0
   ·have h6 := Asc_lt h o (k - 1) (by omega)
    rw [show o + (k - 1) + 1 = o + k by omega, getD_lt (k := o + k) (by omega), e] at h6
    omega
  refine ⟨(Asc_iff _ _).2 ⟨List.pairwise_append.2 ⟨List.pairwise_append.2 ⟨p1.sublist (List.take_sublist _ _), List.pairwise_singleton _ _, fun a ha b hb => ?_⟩, p1.sublist (List.drop_sublist _ _), fun a ha b hb => ?_⟩, fun y hy => ?_⟩, fun y => ?_⟩
  ·rw [List.mem_singleton] at hb; rw [hb]; exact ht a ha
  ·rcases List.mem_append.1 ha with ha | ha
   ·exact Int.lt_trans (ht a ha) (hd b hb)
   ·rw [List.mem_singleton] at ha; rw [ha]; exact hd b hb
  ·rcases List.mem_append.1 hy with hy | hy
   ·rcases List.mem_append.1 hy with hy | hy
    ·exact p2 y (List.mem_of_mem_take hy)
    ·rw [List.mem_singleton] at hy; rw [hy]; exact hx
   ·exact p2 y (List.mem_of_mem_drop hy)
  ·rw [List.mem_append, List.mem_append, List.mem_singleton]
   constructor
   ·rintro ((hy | hy) | hy)
    ·exact .inr (List.mem_of_mem_take hy)
    ·exact .inl hy
    ·exact .inr (List.mem_of_mem_drop hy)
   ·rintro (hy | hy)
    ·exact .inl (.inr hy)
    ·rw [← List.take_append_drop o l, List.mem_append] at hy
     rcases hy with hy | hy
     ·exact .inl (.inl hy)
     ·exact .inr hy
 unfold r7_Insert
 rw [h1]
 dsimp only
 by_cases c : o < l.length
 ·rw [decide_eq_true (by omega : ((o : Nat) : Int) < ((l.length : Nat) : Int)), cond_true]
  have h6 := h5 c
  rw [show (l.getD (((o : Nat) : Int)).toNat 0) = l.getD o 0 by rw [Int.toNat_natCast]]
  by_cases e : l.getD o 0 = x
  ·rw [beq_iff_eq.2 e, cond_true]
   refine ⟨h, fun y => ⟨.inr, ?_⟩⟩
   rintro (rfl | hy)
   ·rw [← e]; exact getD_mem c
   ·exact hy
  ·rw [beq_eq_false_iff_ne.2 e, cond_false]
   exact core fun _ => by omega
 ·rw [decide_eq_false (by omega : ¬ ((o : Nat) : Int) < ((l.length : Nat) : Int)), cond_false]
  exact core fun hh => absurd hh c
theorem VF.ins {S P : List (List Int)} {n a b : Nat} (h : VF S P n) (ha : a < n) (hb : b < n) : VF (S.set a (r7_Insert (S.getD a []) (b : Int))) (P.set b (r7_Insert (P.getD b []) (a : Int))) n := by
 have hA := Insert_spec (h.sa a ha) (x := (b : Int)) (by omega)
 have hB := Insert_spec (h.pa b hb) (x := (a : Int)) (by omega)
 have e1 := h.sl; have e2 := h.pl
 refine ⟨by rw [List.length_set]; exact e1, by rw [List.length_set]; exact e2, fun k hk => ?_, fun k hk => ?_, fun i k hi hk => ?_⟩
 ·rw [gset (by omega)]; split
  ·exact hA.1
  ·exact h.sa k hk
 ·rw [gset (by omega)]; split
  ·exact hB.1
  ·exact h.pa k hk
 ·rw [gset (by omega), gset (by omega)]
  by_cases c1 : i = a
  ·rw [if_pos c1]
   by_cases c2 : k = b
   ·rw [if_pos c2]
    exact ⟨fun _ => (hB.2 _).2 (.inl (by omega)), fun _ => (hA.2 _).2 (.inl (by omega))⟩
   ·rw [if_neg c2, hA.2, ← h.mi i k hi hk, c1]
    exact ⟨fun hh => hh.resolve_left (by omega), .inr⟩
  ·rw [if_neg c1]
   by_cases c2 : k = b
   ·rw [if_pos c2, hB.2, h.mi i k hi hk, c2]
    exact ⟨.inr, fun hh => hh.resolve_left (by omega)⟩
   ·rw [if_neg c2]; exact h.mi i k hi hk
theorem TG_L0 {t : List Int} {n : Int} (hn : 1 ≤ n ∧ n ≤ 1000) : ∀ (r : Nat) (ti : Int) (s p : List (List Int)) (k : Int), VF s p n.toNat → VF (tp_Graph_L0 t n r ti s p k).2.1 (tp_Graph_L0 t n r ti s p k).2.2 n.toNat
 | 0, ti, s, p, k, h => by rw [tp_Graph_L0]; exact h
 | r + 1, ti, s, p, k, h => by
  rw [tp_Graph_L0]
  have h1 := Next_rg t ti n (by omega)
  have h2 := Next_rg t (tp_Next t ti n).2 n (by omega)
  refine TG_L0 hn r _ _ _ _ ?_
  have := h.ins (a := ((tp_Next t ti n).1).toNat) (b := ((tp_Next t (tp_Next t ti n).2 n).1).toNat) (by omega) (by omega)
  rwa [show ((((tp_Next t ti n).1).toNat : Nat) : Int) = (tp_Next t ti n).1 by omega, show ((((tp_Next t (tp_Next t ti n).2 n).1).toNat : Nat) : Int) = (tp_Next t (tp_Next t ti n).2 n).1 by omega] at this
theorem TG_ok (t : List Int) (i m : Int) (hm : 1 ≤ m ∧ m ≤ 1000) : ∃ n : Nat, 1 ≤ n ∧ n ≤ m.toNat ∧ (tp_Graph t i m).1.Nodes.length = n ∧ VF (tp_Graph t i m).1.Succ (tp_Graph t i m).1.Pred n := by
 have h1 := Next_rg t i m (by omega)
 refine ⟨(1 + (tp_Next t i m).1).toNat, by omega, by omega, ?_, ?_⟩
 ·unfold tp_Graph; exact List.length_replicate
 ·have := TG_L0 (t := t) (n := 1 + (tp_Next t i m).1) (by omega) ((tp_Next t (tp_Next t i m).2 ((2 * (1 + (tp_Next t i m).1)) + 1)).1).toNat (tp_Next t (tp_Next t i m).2 ((2 * (1 + (tp_Next t i m).1)) + 1)).2 _ _ ((tp_Next t (tp_Next t i m).2 ((2 * (1 + (tp_Next t i m).1)) + 1)).1) (VF.nil _)
  unfold tp_Graph; exact this
theorem TG_len {t : List Int} {i m : Int} {r : GGraph × Int} (e : tp_Graph t i m = r) (hm : 1 ≤ m ∧ m ≤ 1000) : 1 ≤ r.1.Nodes.length ∧ (r.1.Nodes.length : Int) ≤ m ∧ r.1.Succ.length = r.1.Nodes.length ∧ r.1.Pred.length = r.1.Nodes.length := by
 obtain ⟨n, h1, h2, h3, h4⟩ := TG_ok t i m hm
 rw [e] at h3 h4
 have := h4.sl; have := h4.pl
 omega
theorem TG_ll {t : List Int} {i m : Int} {r : GGraph × Int} (e : tp_Graph t i m = r) (hm : 1 ≤ m ∧ m ≤ 1000) : (∀ l ∈ r.1.Succ, (l.length : Int) ≤ 3000) ∧ ∀ l ∈ r.1.Pred, (l.length : Int) ≤ 3000 := by
 obtain ⟨n, h1, h2, h3, h4⟩ := TG_ok t i m hm
 rw [e] at h4
 have key : ∀ (S : List (List Int)), S.length = n → (∀ k : Nat, k < n → Asc (S.getD k []) (n : Int)) → ∀ l ∈ S, (l.length : Int) ≤ 3000 := fun S hs ha l hl => by
  obtain ⟨k, hk, e⟩ := List.mem_iff_getElem.1 hl
  have := ha k (by omega)
  rw [List.getD_eq_getElem?_getD, List.getElem?_eq_getElem hk] at this
  rw [show (some S[k]).getD [] = S[k] from rfl, e] at this
  rcases Asc_len this with h | h
  ·omega
  ·rw [h]; simp
 exact ⟨key _ h4.sl h4.sa, key _ h4.pl h4.pa⟩
theorem TG_VF {t : List Int} {i m : Int} {r : GGraph × Int} (e : tp_Graph t i m = r) (hm : 1 ≤ m ∧ m ≤ 1000) : VF r.1.Succ r.1.Pred r.1.Nodes.length := by
 obtain ⟨n, h1, h2, h3, h4⟩ := TG_ok t i m hm
 rw [e] at h3 h4
 rw [h3]; exact h4
theorem chk_ok {g : GGraph} {root r : Int} (h : layout_check g root = r) (hr : (r != 0) = false) : gh_Valid g = true ∧ 0 ≤ root ∧ root < (g.Nodes.length : Int) := by
 subst h
 unfold layout_check at hr
 dsimp only at hr
 cases hv : gh_Valid g
 ·rw [hv] at hr; cases hr
 ·rw [hv] at hr
  by_cases c1 : root < 0
  ·rw [decide_eq_true c1] at hr; cases hr
  ·by_cases c2 : ((g.Nodes.length : Nat) : Int) ≤ root
   ·rw [decide_eq_false c1, decide_eq_true c2] at hr; cases hr
   ·exact ⟨rfl, by omega, by omega⟩
theorem Mul_1 {x : List Cpx} {count : Int} {r : BitVec 64 × BitVec 64} (h : bits_Mul (BitVec.ofInt 64 ((x.length : Nat) : Int)) (BitVec.ofInt 64 count) = r) (hc : x.length = 1 ∧ 0 ≤ count ∧ count ≤ 1000) : r.1.toNat = 0 ∧ (r.2.toNat : Int) = count := by
 rw [hc.1] at h
 subst h
 unfold bits_Mul bits_Mul64
 dsimp only
 obtain ⟨k, hk⟩ : ∃ k : Nat, count = (k : Int) := ⟨count.toNat, by omega⟩
 subst hk
 have e1 : BitVec.ofInt 64 ((1 : Nat) : Int) = 1#64 := by decide
 have e2 : (BitVec.ofInt 64 (k : Int)).toNat = k := by rw [ofI_nat (by omega)]; exact Int.toNat_natCast k
 generalize BitVec.ofInt 64 (k : Int) = y at e2
 rw [e1]
 have s32 : (((32#64).toNat : Int)).toNat = 32 := by decide
 rw [s32]
 have f1 : (1#64 >>> 32) = 0#64 := by decide
 have f2 : (1#64 &&& 4294967295#64) = 1#64 := by decide
 have f3 : y >>> 32 = 0#64 := by
  apply BitVec.eq_of_toNat_eq
  rw [BitVec.toNat_ushiftRight, Nat.shiftRight_eq_div_pow, e2]
  show k / 2 ^ 32 = 0
  omega
 have f4 : (y &&& 4294967295#64) = y := by
  apply BitVec.eq_of_toNat_eq
  rw [BitVec.toNat_and, e2, show (4294967295#64).toNat = 2 ^ 32 - 1 by decide, Nat.and_two_pow_sub_one_eq_mod]
  omega
 rw [f1, f2, f3, f4]
 simp only [BitVec.zero_mul, BitVec.mul_zero, BitVec.one_mul, BitVec.add_zero, BitVec.zero_add]
 rw [f3]
 refine ⟨?_, by rw [e2]⟩
 decide
theorem Rep_t : ∀ (r : Nat) (s : List Cpx) (n : Int), 0 ≤ n → n ≤ (s.length : Int) → (s.length = 0 ∨ 1 ≤ n) → (s.length : Int) - n < (r : Int) → sc_Repeat_complex128_L0 r s n ≠ .oof
 | 0, s, n, h0, h1, h2, h3 => by omega
 | r + 1, s, n, h0, h1, h2, h3 => by
  rw [sc_Repeat_complex128_L0]
  by_cases c : n < ((s.length : Nat) : Int)
  ·rw [decide_eq_true c, cond_true]
   have hl := dbl_len s n.toNat (by omega)
   exact Rep_t r _ _ (by omega) (by rw [hl]; omega) (by rw [hl]; omega) (by rw [hl]; omega)
  ·rw [decide_eq_false c]; intro h; cases h
theorem Rep_t0 {a : Nat} {L s : List Cpx} {count : Int} (h1 : a = 1) (h2 : (L.length : Int) = count) (h3 : s.length = L.length) : sc_Repeat_complex128_L0 (count.toNat + 2) s ((Nat.min a L.length : Nat) : Int) ≠ .oof := by
 have h := Rep_i h1 h2
 exact Rep_t _ _ _ h.1 (by omega) (by omega) (by omega)
theorem Rep_mem : ∀ (r : Nat) (s : List Cpx) (n : Int) (o : List Cpx), sc_Repeat_complex128_L0 r s n = .brk o → ∀ y ∈ o, y ∈ s
 | 0, s, n, o, h => by rw [sc_Repeat_complex128_L0] at h; cases h
 | r + 1, s, n, o, h => by
  rw [sc_Repeat_complex128_L0] at h
  cases c : decide (n < ((s.length : Nat) : Int))
  ·rw [c] at h; injection h with h; subst h; exact fun y h => h
  ·rw [c] at h; exact fun y hy => mem_dbl (Rep_mem r _ _ o h y hy)
theorem Rep_WB {x : List Cpx} {count : Int} {r : List Cpx} (h : sc_Repeat_complex128 x count = r) (hx : ∀ y ∈ x, WB y) : ∀ y ∈ r, WB y := by
 subst h
 unfold sc_Repeat_complex128
 dsimp only
 generalize bits_Mul (BitVec.ofInt 64 ((x.length : Nat) : Int)) (BitVec.ofInt 64 count) = m
 have h0 : WB (default : Cpx) := ⟨0, 0, ⟨IV_0, IV_0⟩, by decide, by decide⟩
 cases e : sc_Repeat_complex128_L0 (count.toNat + 2) (x.take (List.replicate ((m.2.toNat : Int) : Int).toNat (default : Cpx)).length ++ (List.replicate ((m.2.toNat : Int) : Int).toNat (default : Cpx)).drop x.length) ((Nat.min x.length (List.replicate ((m.2.toNat : Int) : Int).toNat (default : Cpx)).length : Nat) : Int) with
 | brk o =>
  intro y hy
  rcases List.mem_append.1 (Rep_mem _ _ _ _ e y hy) with h1 | h1
  ·exact hx y (List.mem_of_mem_take h1)
  ·rw [List.eq_of_mem_replicate (List.mem_of_mem_drop h1)]; exact h0
 | ret o => exact fun y hy => (by cases hy)
 | oof => exact fun y hy => (by cases hy)
theorem Rep_L0a : ∀ (r : Nat) (s : List Cpx) (n : Int) (o : List Cpx), 0 ≤ n → (∀ y ∈ s.take n.toNat, y = ocx) → sc_Repeat_complex128_L0 r s n = .brk o → ∀ y ∈ o, y = ocx
 | 0, s, n, o, _, _, h => by rw [sc_Repeat_complex128_L0] at h; cases h
 | r + 1, s, n, o, h0, hs, h => by
  rw [sc_Repeat_complex128_L0] at h
  by_cases c : n < ((s.length : Nat) : Int)
  ·rw [decide_eq_true c, cond_true] at h
   refine Rep_L0a r _ _ o (by omega) (fun y hy => ?_) h
   unfold dbl at hy
   obtain ⟨m, hm⟩ : ∃ m, m = min n.toNat (s.length - n.toNat) := ⟨_, rfl⟩
   rw [← hm] at hy
   have lN : (s.take n.toNat).length = n.toNat := by rw [List.length_take]; omega
   have lM : (s.take m).length = m := by rw [List.length_take]; omega
   rw [show (n + (m : Int)).toNat = n.toNat + m by omega, List.take_append, lN] at hy
   rcases List.mem_append.1 hy with h1 | h1
   ·exact hs y (List.mem_of_mem_take h1)
   ·rw [show n.toNat + m - n.toNat = m by omega, List.take_append, lM] at h1
    rcases List.mem_append.1 h1 with h2 | h2
    ·have h3 := List.mem_of_mem_take h2
     have h4 : s.take m = (s.take n.toNat).take m := by rw [List.take_take, Nat.min_eq_left (by omega)]
     rw [h4] at h3
     exact hs y (List.mem_of_mem_take h3)
    ·rw [Nat.sub_self] at h2
     simp at h2
  ·rw [decide_eq_false c, cond_false] at h
   injection h with h
   subst h
   rw [List.take_of_length_le (by omega)] at hs
   exact hs
theorem Rep_nr : ∀ (r : Nat) (s : List Cpx) (n : Int) (o : List Cpx), sc_Repeat_complex128_L0 r s n ≠ .ret o
 | 0, s, n, o, h => by rw [sc_Repeat_complex128_L0] at h; cases h
 | r + 1, s, n, o, h => by
  rw [sc_Repeat_complex128_L0] at h
  cases c : decide (n < ((s.length : Nat) : Int))
  ·rw [c] at h; cases h
  ·rw [c] at h; exact Rep_nr r _ _ o h
theorem Rep_len : ∀ (r : Nat) (s : List Cpx) (n : Int) (o : List Cpx), 0 ≤ n → sc_Repeat_complex128_L0 r s n = .brk o → o.length = s.length
 | 0, s, n, o, _, h => by rw [sc_Repeat_complex128_L0] at h; cases h
 | r + 1, s, n, o, h0, h => by
  rw [sc_Repeat_complex128_L0] at h
  by_cases c : n < ((s.length : Nat) : Int)
  ·rw [decide_eq_true c, cond_true] at h
   rw [Rep_len r _ _ o (by omega) h, dbl_len s n.toNat (by omega)]
  ·rw [decide_eq_false c, cond_false] at h
   injection h with h
   rw [← h]
theorem Rep_eq {n : Nat} (hn : n ≤ 1000) : (sc_Repeat_complex128 [ocx] (n : Int)).length = n ∧ ∀ y ∈ sc_Repeat_complex128 [ocx] (n : Int), y = ocx := by
 obtain ⟨m1, m2⟩ := Mul_1 (x := [ocx]) (count := (n : Int)) rfl ⟨rfl, by omega, by omega⟩
 unfold sc_Repeat_complex128
 dsimp only
 generalize bits_Mul (BitVec.ofInt 64 ((([ocx] : List Cpx).length : Nat) : Int)) (BitVec.ofInt 64 (n : Int)) = m at m1 m2
 rw [show ((m.2.toNat : Int) : Int).toNat = n by omega]
 have hs : ([ocx].take (List.replicate n (default : Cpx)).length ++ (List.replicate n (default : Cpx)).drop ([ocx] : List Cpx).length).length = (List.replicate n (default : Cpx)).length := by
  simp only [List.length_append, List.length_take, List.length_drop, List.length_replicate, List.length_cons, List.length_nil]; omega
 have hi := Rep_i (a := ([ocx] : List Cpx).length) (c := (List.replicate n (default : Cpx)).length) (count := (n : Int)) rfl (by simp)
 have ht := Rep_t0 (a := ([ocx] : List Cpx).length) (L := List.replicate n (default : Cpx)) (count := (n : Int)) rfl (by simp) hs
 generalize hS : ([ocx].take (List.replicate n (default : Cpx)).length ++ (List.replicate n (default : Cpx)).drop ([ocx] : List Cpx).length) = S at hs ht
 cases e : sc_Repeat_complex128_L0 ((n : Int).toNat + 2) S ((Nat.min ([ocx] : List Cpx).length (List.replicate n (default : Cpx)).length : Nat) : Int) with
 | oof => exact absurd e ht
 | ret o => exact absurd e (Rep_nr _ _ _ o)
 | brk o =>
  refine ⟨?_, Rep_L0a _ _ _ o hi.1 (fun y hy => ?_) e⟩
  ·show o.length = n
   rw [Rep_len _ _ _ o hi.1 e, hs]; simp
  ·have h1 : (((Nat.min ([ocx] : List Cpx).length (List.replicate n (default : Cpx)).length : Nat) : Int)).toNat ≤ 1 := by
    rw [Int.toNat_natCast]; exact Nat.min_le_left _ _
   rw [← hS] at hy
   by_cases c : n = 0
   ·subst c; simp at hy
   ·have h2 : [ocx].take (List.replicate n (default : Cpx)).length = [ocx] := List.take_of_length_le (by simp; omega)
    rw [h2, List.take_append_of_le_length (by simpa using h1)] at hy
    have := List.mem_of_mem_take hy
    simpa using this
theorem Compare_eq (x y : Int) : cmp_Compare_int x y = if x < y then -1 else if y < x then 1 else 0 := by
 simp [cmp_Compare_int, cmp_isNaN_int, Bool.cond_eq_ite]
theorem Or_two (x y : Int) : cmp_Or_int [x, y] = if x ≠ 0 then x else y := by
 have e : ((((([x, y].length : Nat) : Int) : Int) - 0).toNat) = 2 := rfl
 unfold cmp_Or_int
 rw [e]
 by_cases hx : x = 0
 ·by_cases hy : y = 0
  ·subst hx; subst hy; rfl
  ·subst hx
   have h : (y != 0) = true := by simp [hy]
   simp [cmp_Or_int_L0, h]
 ·have h : (x != 0) = true := by simp [hx]
  simp [cmp_Or_int_L0, h, hx]
theorem row1_lt {pl : List Int} {a b : Int} (ha : IR a) (hb : IR b) : decide (layout_rows_1 a b pl < 0) = decide (kf pl a < kf pl b) := by
 obtain ⟨a0, a1⟩ := ha
 obtain ⟨b0, b1⟩ := hb
 unfold layout_rows_1 kf
 simp only [Or_two, Compare_eq]
 generalize pl.getD a.toNat 0 = p
 generalize pl.getD b.toNat 0 = q
 by_cases c1 : p < q
 ·rw [if_pos c1]
  have h : p * 100000 + a < q * 100000 + b := by omega
  simp [h]
 ·rw [if_neg c1]
  by_cases c2 : q < p
  ·rw [if_pos c2]
   have h : ¬ p * 100000 + a < q * 100000 + b := by omega
   simp [h]
  ·rw [if_neg c2]
   have e : p = q := by omega
   subst e
   by_cases c3 : a < b
   ·simp [c3]
   ·by_cases c4 : b < a <;> simp [c3, c4]
theorem iS_L1 (cm : Int → Int → Int) : ∀ (r : Nat) (d : List Int) (j : Int), (r : Int) ≤ j → j < (d.length : Int) → (sc_insertionSortCmpFunc_int_L1 cm r d j).length = d.length ∧ ∀ y ∈ sc_insertionSortCmpFunc_int_L1 cm r d j, y ∈ d
 | 0, d, j, _, _ => by rw [sc_insertionSortCmpFunc_int_L1]; exact ⟨rfl, fun y h => h⟩
 | r + 1, d, j, h0, h1 => by
  rw [sc_insertionSortCmpFunc_int_L1]
  cases decide ((cm (d.getD j.toNat 0) (d.getD (j - 1).toNat 0)) < 0)
  ·exact ⟨rfl, fun y h => h⟩
  ·obtain ⟨p1, p2⟩ := iS_L1 cm r ((d.set j.toNat (d.getD (j - 1).toNat 0)).set (j - 1).toNat (d.getD j.toNat 0)) (j - 1) (by omega) (by simp only [List.length_set]; omega)
   refine ⟨by rw [cond_true, p1]; simp, fun y hy => mem_swap (fun y h => h) (by omega) (by omega) y (p2 y hy)⟩
theorem iS_L0 (cm : Int → Int → Int) : ∀ (r : Nat) (d : List Int) (i : Int), 1 ≤ i → i + (r : Int) ≤ (d.length : Int) → (sc_insertionSortCmpFunc_int_L0 0 cm r d i).length = d.length ∧ ∀ y ∈ sc_insertionSortCmpFunc_int_L0 0 cm r d i, y ∈ d
 | 0, d, i, _, _ => by rw [sc_insertionSortCmpFunc_int_L0]; exact ⟨rfl, fun y h => h⟩
 | r + 1, d, i, h0, h1 => by
  rw [sc_insertionSortCmpFunc_int_L0]
  try dsimp only
  obtain ⟨q1, q2⟩ := iS_L1 cm ((i - 0).toNat) d i (by omega) (by omega)
  obtain ⟨p1, p2⟩ := iS_L0 cm r (sc_insertionSortCmpFunc_int_L1 cm ((i - 0).toNat) d i) (i + 1) (by omega) (by omega)
  exact ⟨p1.trans q1, fun y hy => q2 y (p2 y hy)⟩
theorem iC_L1 {D : List Int} {cm cm' : Int → Int → Int} (hc : ∀ a ∈ D, ∀ b ∈ D, cm a b = cm' a b) : ∀ (r : Nat) (d : List Int) (j : Int), (r : Int) ≤ j → j < (d.length : Int) → (∀ y ∈ d, y ∈ D) → sc_insertionSortCmpFunc_int_L1 cm r d j = sc_insertionSortCmpFunc_int_L1 cm' r d j
 | 0, d, j, _, _, _ => by rw [sc_insertionSortCmpFunc_int_L1, sc_insertionSortCmpFunc_int_L1]
 | r + 1, d, j, h0, h1, hd => by
  rw [sc_insertionSortCmpFunc_int_L1, sc_insertionSortCmpFunc_int_L1, hc _ (hd _ (getD_mem (xs := d) (i := j.toNat) (d := 0) (by omega))) _ (hd _ (getD_mem (xs := d) (i := (j - 1).toNat) (d := 0) (by omega)))]
  rw [iC_L1 hc r _ (j - 1) (by omega) (by simp only [List.length_set]; omega) (mem_swap hd (by omega) (by omega))]
theorem iC_L0 {D : List Int} {cm cm' : Int → Int → Int} (hc : ∀ a ∈ D, ∀ b ∈ D, cm a b = cm' a b) : ∀ (r : Nat) (d : List Int) (i : Int), 1 ≤ i → i + (r : Int) ≤ (d.length : Int) → (∀ y ∈ d, y ∈ D) → sc_insertionSortCmpFunc_int_L0 0 cm r d i = sc_insertionSortCmpFunc_int_L0 0 cm' r d i
 | 0, d, i, _, _, _ => by rw [sc_insertionSortCmpFunc_int_L0, sc_insertionSortCmpFunc_int_L0]
 | r + 1, d, i, h0, h1, hd => by
  rw [sc_insertionSortCmpFunc_int_L0, sc_insertionSortCmpFunc_int_L0]
  try dsimp only
  rw [iC_L1 hc ((i - 0).toNat) d i (by omega) (by omega) hd]
  obtain ⟨q1, q2⟩ := iS_L1 cm' ((i - 0).toNat) d i (by omega) (by omega)
  exact iC_L0 hc r _ (i + 1) (by omega) (by omega) (fun y hy => hd y (q2 y hy))
theorem SF_mem (x : List Int) (cm : Int → Int → Int) : (sc_SortFunc_int x cm).length = x.length ∧ ∀ y ∈ sc_SortFunc_int x cm, y ∈ x := by
 show (sc_insertionSortCmpFunc_int_L0 0 cm (((x.length : Nat) : Int) - (0 + 1)).toNat x (0 + 1)).length = x.length ∧ _
 by_cases c : x.length = 0
 ·have : x = [] := List.eq_nil_of_length_eq_zero c
  subst this
  exact ⟨rfl, fun y h => h⟩
 ·exact iS_L0 cm (((x.length : Nat) : Int) - (0 + 1)).toNat x 1 (by omega) (by omega)
theorem RL_sort {n : Nat} {x r : List Int} {cm : Int → Int → Int} (h : RL n x) (e : sc_SortFunc_int x cm = r) : RL n r := fun y hy => h y ((SF_mem x cm).2 y (e ▸ hy))
theorem SF_eq {pl x : List Int} (hx : ∀ v ∈ x, IR v) : sc_SortFunc_int x (fun x0 x1 => layout_rows_1 x0 x1 pl) = srtK (kf pl) x := by
 have key : ∀ cm : Int → Int → Int, (∀ a b, decide (cm a b < 0) = decide (kf pl a < kf pl b)) → sc_SortFunc_int x cm = srtK (kf pl) x := fun cm hcm => by
  show sc_insertionSortCmpFunc_int_L0 0 cm (((x.length : Nat) : Int) - (0 + 1)).toNat x (0 + 1) = _
  exact insAll (kf pl) 0 (sc_insertionSortCmpFunc_int_L1 cm) (sc_insertionSortCmpFunc_int_L0 0 cm) (fun _ _ => rfl) (fun r l j => by rw [sc_insertionSortCmpFunc_int_L1, hcm]; simp only [Bool.cond_eq_ite, decide_eq_true_eq]) (fun _ _ => rfl) (fun _ _ _ => rfl) x
 have h2 := key (fun a b => if IR a ∧ IR b then layout_rows_1 a b pl else cmT pl a b) (fun a b => by
  by_cases c : IR a ∧ IR b
  ·rw [if_pos c]; exact row1_lt c.1 c.2
  ·rw [if_neg c]; unfold cmT
   by_cases d : kf pl a < kf pl b <;> simp [d])
 rw [← h2]
 show sc_insertionSortCmpFunc_int_L0 0 _ (((x.length : Nat) : Int) - (0 + 1)).toNat x (0 + 1) = sc_insertionSortCmpFunc_int_L0 0 _ (((x.length : Nat) : Int) - (0 + 1)).toNat x (0 + 1)
 by_cases c : x.length = 0
 ·have : x = [] := List.eq_nil_of_length_eq_zero c
  subst this
  rfl
 ·exact iC_L0 (D := x) (fun a ha b hb => by rw [if_pos ⟨hx a ha, hx b hb⟩]) _ x 1 (by omega) (by omega) (fun y h => h)
theorem rw_L2 (i : Int) (v : List Int) : ∀ (r : Nat) (pl : List Int) (s : List Bool) (nx : List Int) (k : Int), 0 ≤ k → k + (r : Int) ≤ (v.length : Int) → (∀ e ∈ v, e.toNat < s.length) → (layout_rows_L2 i v r pl s nx k).2.1.length = s.length ∧ (layout_rows_L2 i v r pl s nx k).2.2.length + List.count true s = List.count true (layout_rows_L2 i v r pl s nx k).2.1 + nx.length
 | 0, pl, s, nx, k, _, _, _ => by rw [layout_rows_L2]; exact ⟨rfl, Nat.add_comm _ _⟩
 | r + 1, pl, s, nx, k, h0, h1, hv => by
  rw [layout_rows_L2]
  cases hs : (!(s.getD (v.getD k.toNat 0).toNat false))
  ·exact rw_L2 i v r pl s nx (k + 1) (by omega) (by omega) hv
  ·have hb := hv _ (getD_mem (xs := v) (i := k.toNat) (d := 0) (by omega))
   obtain ⟨p1, p2⟩ := rw_L2 i v r (pl.set (v.getD k.toNat 0).toNat i) (s.set (v.getD k.toNat 0).toNat true) (nx ++ [v.getD k.toNat 0]) (k + 1) (by omega) (by omega) (by simpa using hv)
   rw [cnt_set hb (by simpa using hs)] at p2
   simp only [List.length_append, List.length_cons, List.length_nil, List.length_set] at p1 p2
   exact ⟨p1, by rw [cond_true]; omega⟩
theorem rw_L1 {g : GGraph} (hg : VG g) (v : List Int) : ∀ (r : Nat) (pl : List Int) (s : List Bool) (nx : List Int) (k : Int), s.length = g.Nodes.length → (layout_rows_L1 g v r pl s nx k).2.1.length = s.length ∧ (layout_rows_L1 g v r pl s nx k).2.2.length + List.count true s = List.count true (layout_rows_L1 g v r pl s nx k).2.1 + nx.length
 | 0, pl, s, nx, k, _ => by rw [layout_rows_L1]; exact ⟨rfl, Nat.add_comm _ _⟩
 | r + 1, pl, s, nx, k, hs => by
  rw [layout_rows_L1]
  obtain ⟨p1, p2⟩ := rw_L2 k (g.Succ.getD (v.getD k.toNat 0).toNat []) ((((((g.Succ.getD (v.getD k.toNat 0).toNat []).length : Nat) : Int) : Int) - 0).toNat) pl s nx 0 (Int.le_refl _) (by omega) (fun e he => by have := VG_any hg _ e he; omega)
  generalize layout_rows_L2 k (g.Succ.getD (v.getD k.toNat 0).toNat []) ((((((g.Succ.getD (v.getD k.toNat 0).toNat []).length : Nat) : Int) : Int) - 0).toNat) pl s nx 0 = R at p1 p2 ⊢
  obtain ⟨a, b, c⟩ := R
  dsimp only at p1 p2 ⊢
  obtain ⟨q1, q2⟩ := rw_L1 hg v r a b c (k + 1) (p1.trans hs)
  exact ⟨q1.trans p1, by omega⟩
theorem rows_t {g : GGraph} (hg : VG g) : ∀ (r : Nat) (pl : List Int) (s : List Bool) (l : List (List Int)) (row : List Int), s.length = g.Nodes.length → g.Nodes.length + (if row.length = 0 then 0 else 1) < r + List.count true s → layout_rows_L0 g r pl s l row ≠ .oof
 | 0, pl, s, l, row, hs, h => by
  have := List.count_le_length (a := true) (l := s)
  omega
 | r + 1, pl, s, l, row, hs, h => by
  rw [layout_rows_L0]
  by_cases c : 0 < ((row.length : Nat) : Int)
  ·rw [decide_eq_true c, cond_true]
   obtain ⟨p1, p2⟩ := rw_L1 hg row (((((row.length : Nat) : Int) : Int) - 0).toNat) pl s [] 0 hs
   generalize layout_rows_L1 g row (((((row.length : Nat) : Int) : Int) - 0).toNat) pl s [] 0 = R at p1 p2 ⊢
   obtain ⟨a, b, c'⟩ := R
   dsimp only at p1 p2 ⊢
   have hq := (SF_mem c' (fun x0 x1 => layout_rows_1 x0 x1 a)).1
   refine rows_t hg r a b _ _ (p1.trans hs) ?_
   rw [hq]
   simp only [List.length_nil, Nat.add_zero] at p2
   rw [if_neg (by omega)] at h
   split <;> omega
  ·rw [decide_eq_false c]; intro h; cases h
theorem rwR_L2 {n : Nat} (i : Int) (v : List Int) (hv : RL n v) : ∀ (r : Nat) (pl : List Int) (s : List Bool) (nx : List Int) (k : Int), 0 ≤ k → k + (r : Int) ≤ (v.length : Int) → RL n nx → RL n (layout_rows_L2 i v r pl s nx k).2.2
 | 0, pl, s, nx, k, _, _, h => by rw [layout_rows_L2]; exact h
 | r + 1, pl, s, nx, k, h0, h1, h => by
  rw [layout_rows_L2]
  cases (!(s.getD (v.getD k.toNat 0).toNat false))
  ·exact rwR_L2 i v hv r pl s nx (k + 1) (by omega) (by omega) h
  ·exact rwR_L2 i v hv r _ _ _ (k + 1) (by omega) (by omega) (RL_app h (RL_get hv (by omega)))
theorem rwR_L1 {g : GGraph} (hg : VG g) (v : List Int) : ∀ (r : Nat) (pl : List Int) (s : List Bool) (nx : List Int) (k : Int), RL g.Nodes.length nx → RL g.Nodes.length (layout_rows_L1 g v r pl s nx k).2.2
 | 0, pl, s, nx, k, h => by rw [layout_rows_L1]; exact h
 | r + 1, pl, s, nx, k, h => by
  rw [layout_rows_L1]
  have p := rwR_L2 k (g.Succ.getD (v.getD k.toNat 0).toNat []) (VG_any hg _) ((((((g.Succ.getD (v.getD k.toNat 0).toNat []).length : Nat) : Int) : Int) - 0).toNat) pl s nx 0 (Int.le_refl _) (by omega) h
  generalize layout_rows_L2 k (g.Succ.getD (v.getD k.toNat 0).toNat []) ((((((g.Succ.getD (v.getD k.toNat 0).toNat []).length : Nat) : Int) : Int) - 0).toNat) pl s nx 0 = R at p ⊢
  obtain ⟨a, b, c⟩ := R
  exact rwR_L1 hg v r a b c (k + 1) p
theorem rwR_L0 {g : GGraph} (hg : VG g) : ∀ (r : Nat) (pl : List Int) (s : List Bool) (l : List (List Int)) (row : List Int) (o : List (List Int)), RW g.Nodes.length l → RL g.Nodes.length row → layout_rows_L0 g r pl s l row = .brk o → RW g.Nodes.length o ∧ o.length ≤ l.length + r
 | 0, pl, s, l, row, o, hl, hr, h => by rw [layout_rows_L0] at h; cases h
 | r + 1, pl, s, l, row, o, hl, hr, h => by
  rw [layout_rows_L0] at h
  cases c : decide (0 < ((row.length : Nat) : Int))
  ·rw [c] at h; injection h with h; subst h; exact ⟨hl, by omega⟩
  ·rw [c, cond_true] at h
   have p := rwR_L1 hg row (((((row.length : Nat) : Int) : Int) - 0).toNat) pl s [] 0 (RL_nil _)
   generalize layout_rows_L1 g row (((((row.length : Nat) : Int) : Int) - 0).toNat) pl s [] 0 = R at p h
   obtain ⟨a, b, c'⟩ := R
   dsimp only at p h
   obtain ⟨q1, q2⟩ := rwR_L0 hg r a b (l ++ [row]) _ o (RW_app hl hr) (RL_sort p rfl) h
   simp only [List.length_append, List.length_cons, List.length_nil] at q2
   exact ⟨q1, by omega⟩
theorem rows_RW {g : GGraph} {root : Int} {r : List (List Int)} (h : layout_rows g root = r) (hg : VG g) (hr : 0 ≤ root ∧ root < (g.Nodes.length : Int)) : RW g.Nodes.length r ∧ r.length ≤ 300 := by
 subst h
 have hn := hg.n1
 unfold layout_rows
 cases e : layout_rows_L0 g (g.Nodes.length + 3) (List.replicate (((g.Nodes.length : Nat) : Int) : Int).toNat (0 : Int)) ((List.replicate (((g.Nodes.length : Nat) : Int) : Int).toNat false).set (root : Int).toNat true) [] [root] with
 | brk o =>
  obtain ⟨p1, p2⟩ := rwR_L0 hg _ _ _ _ _ o (RW_nil _) (RL_one hr) e
  simp only [List.length_nil] at p2
  exact ⟨p1, by show o.length ≤ 300; omega⟩
 | ret o => exact ⟨fun s hs => (by cases hs), Nat.zero_le _⟩
 | oof => exact ⟨fun s hs => (by cases hs), Nat.zero_le _⟩
theorem bi_L2 {n : Nat} {s0 : List Bool} (i : Int) (v : List Int) (hv : RL n v) : ∀ (r k : Nat) (pl : List Int) (s : List Bool) (nx : List Int) (X : Int → Prop), k + r = v.length → BI n s0 X s nx →
  BI n s0 (fun x => X x ∨ x ∈ v.drop k) (layout_rows_L2 i v r pl s nx (k : Int)).2.1 (layout_rows_L2 i v r pl s nx (k : Int)).2.2
 | 0, k, pl, s, nx, X, hk, h => by
  rw [layout_rows_L2, List.drop_of_length_le (by omega)]
  exact h.congr fun v => by simp
 | r + 1, k, pl, s, nx, X, hk, h => by
  have hi : k < v.length := by omega
  have hb := RL_get hv hi
  have hd : v.drop k = v.getD k 0 :: v.drop (k + 1) := by
   rw [List.drop_eq_getElem_cons hi]; simp [List.getD, hi]
  rw [layout_rows_L2, show ((k : Int)).toNat = k by omega, show ((k : Int) + 1) = ((k + 1 : Nat) : Int) by omega, hd]
  cases hs : s.getD (v.getD k 0).toNat false
  ·have := bi_L2 i v hv r (k + 1) (pl.set (v.getD k 0).toNat i) (s.set (v.getD k 0).toNat true) (nx ++ [v.getD k 0]) _ (by omega) (h.add hb hs)
   exact this.congr fun x => by simp only [List.mem_cons]; rw [or_assoc]
  ·have := bi_L2 i v hv r (k + 1) pl s nx _ (by omega) (h.skip hb hs)
   exact this.congr fun x => by simp only [List.mem_cons]; rw [or_assoc]
theorem bi_L1 {g : GGraph} (hg : VG g) {s0 : List Bool} (v : List Int) : ∀ (r k : Nat) (pl : List Int) (s : List Bool) (nx : List Int) (X : Int → Prop), k + r = v.length → BI g.Nodes.length s0 X s nx →
  BI g.Nodes.length s0 (fun x => X x ∨ ∃ a ∈ v.drop k, x ∈ g.Succ.getD a.toNat []) (layout_rows_L1 g v r pl s nx (k : Int)).2.1 (layout_rows_L1 g v r pl s nx (k : Int)).2.2
 | 0, k, pl, s, nx, X, hk, h => by
  rw [layout_rows_L1, List.drop_of_length_le (by omega)]
  exact h.congr fun v => by simp
 | r + 1, k, pl, s, nx, X, hk, h => by
  have hi : k < v.length := by omega
  have hd : v.drop k = v.getD k 0 :: v.drop (k + 1) := by
   rw [List.drop_eq_getElem_cons hi]; simp [List.getD, hi]
  have h2 := bi_L2 (k : Int) (g.Succ.getD (v.getD k 0).toNat []) (VG_any hg _) (g.Succ.getD (v.getD k 0).toNat []).length 0 pl s nx X (by omega) h
  rw [layout_rows_L1, show ((k : Int)).toNat = k by omega, show ((k : Int) + 1) = ((k + 1 : Nat) : Int) by omega, hd, show ((((((g.Succ.getD (v.getD k 0).toNat []).length : Nat) : Int) : Int) - 0).toNat) = (g.Succ.getD (v.getD k 0).toNat []).length by omega]
  rw [show ((0 : Nat) : Int) = 0 from rfl] at h2
  generalize layout_rows_L2 (k : Int) (g.Succ.getD (v.getD k 0).toNat []) (g.Succ.getD (v.getD k 0).toNat []).length pl s nx 0 = R at h2 ⊢
  obtain ⟨a, b, c⟩ := R
  have := bi_L1 hg v r (k + 1) a b c _ (by omega) h2
  exact this.congr fun x => by
   rw [List.drop_zero]
   simp only [List.mem_cons, exists_eq_or_imp]
   rw [or_assoc]
theorem rows_L0s {g : GGraph} (hg : VG g) {root : Int} : ∀ (r k : Nat) (pl : List Int) (s : List Bool) (l : List (List Int)) (row : List Int) (d : Int → Int) (o : List (List Int)), g.Nodes.length ≤ 256 → RI_ g root k s row l d → layout_rows_L0 g r pl s l row = .brk o →
  ∃ d', DP g root d' ∧ (∀ j : Nat, j < o.length → (o.getD j []).Nodup ∧ ∀ v, v ∈ o.getD j [] ↔ In g.Nodes.length v ∧ d' v = (j : Int)) ∧ ∀ v, In g.Nodes.length v → d' v < (o.length : Int)
 | 0, k, pl, s, l, row, d, o, hn, h, e => by rw [layout_rows_L0] at e; cases e
 | r + 1, k, pl, s, l, row, d, o, hn, h, e => by
  rw [layout_rows_L0] at e
  by_cases c : 0 < ((row.length : Nat) : Int)
  ·rw [decide_eq_true c, cond_true] at e
   have hb0 : BI g.Nodes.length s (fun _ => False) s [] := ⟨h.sl, List.nodup_nil, fun v _ _ => by simp, fun v => by simp⟩
   have hb := (bi_L1 hg row row.length 0 pl s [] _ (by omega) hb0).congr (Y := fun x => ∃ a ∈ row, x ∈ g.Succ.getD a.toNat []) fun v => by rw [List.drop_zero]; simp
   rw [show ((0 : Nat) : Int) = 0 from rfl] at hb
   rw [show ((((row.length : Nat) : Int) : Int) - 0).toNat = row.length by omega] at e
   generalize layout_rows_L1 g row row.length pl s [] 0 = R at hb e
   obtain ⟨a, b, nx⟩ := R
   dsimp only at hb e
   have hx : ∀ v ∈ nx, IR v := fun v hv => by have := ((hb.mm v).1 hv).1; exact ⟨this.1, by omega⟩
   rw [SF_eq hx] at e
   exact rows_L0s hg r (k + 1) a b _ _ _ o hn (RI_step hg h hb (srtK_perm _ _)) e
  ·rw [decide_eq_false c, cond_false] at e
   injection e with e
   subst e
   have hrow : row = [] := List.eq_nil_of_length_eq_zero (by omega)
   have hk : ∀ v, In g.Nodes.length v → d v < (k : Int) := fun v hv => by
    have h1 := (h.lo v).2
    have h2 : ¬ d v = (k : Int) := fun q => by have := (h.rm v).2 ⟨hv, q⟩; rw [hrow] at this; cases this
    omega
   exact ⟨d, ⟨h.d0, h.dr, fun u v hu h1 hm => h.d1 u v hu h1 (hk u hu) hm, h.d2, fun v => (h.lo v).1⟩, fun j hj => h.ln j (by rw [h.ll] at hj; exact hj), fun v hv => by rw [h.ll]; exact hk v hv⟩
theorem rows_nr (g : GGraph) : ∀ (r : Nat) (pl : List Int) (s : List Bool) (l : List (List Int)) (row : List Int) (o : List (List Int)), layout_rows_L0 g r pl s l row ≠ .ret o
 | 0, pl, s, l, row, o, h => by rw [layout_rows_L0] at h; cases h
 | r + 1, pl, s, l, row, o, h => by
  rw [layout_rows_L0] at h
  cases c : decide (0 < ((row.length : Nat) : Int))
  ·rw [c] at h; cases h
  ·rw [c, cond_true] at h
   exact rows_nr g r _ _ _ _ o h
theorem rows_spec {g : GGraph} (hg : VG g) {root : Int} (hr : In g.Nodes.length root) : ∃ d, DP g root d ∧ (∀ j : Nat, j < (layout_rows g root).length → ((layout_rows g root).getD j []).Nodup ∧ ∀ v, v ∈ (layout_rows g root).getD j [] ↔ In g.Nodes.length v ∧ d v = (j : Int)) ∧ ∀ v, In g.Nodes.length v → d v < ((layout_rows g root).length : Int) := by
 have hn := hg.n1
 have hi := RI_init hr
 have ht := rows_t hg (g.Nodes.length + 3) (List.replicate (((g.Nodes.length : Nat) : Int) : Int).toNat (0 : Int)) _ [] [root] hi.sl (by rw [if_neg (by simp)]; omega)
 unfold layout_rows
 cases e : layout_rows_L0 g (g.Nodes.length + 3) (List.replicate (((g.Nodes.length : Nat) : Int) : Int).toNat (0 : Int)) ((List.replicate (((g.Nodes.length : Nat) : Int) : Int).toNat false).set (root : Int).toNat true) [] [root] with
 | brk o => exact rows_L0s hg _ 0 _ _ _ _ _ o hn.2 hi e
 | ret o => exact absurd e (rows_nr g _ _ _ _ _ o)
 | oof => exact absurd e ht
theorem Pl_L1s {row : List Int} {j : Int} {n : Nat} (hj : j.natAbs ≤ 1000000) (hr : RL n row) (hl : row.length ≤ 1000000) : ∀ (r k : Nat) (at_ : List Cpx) (p : Cpx), k + r = row.length → at_.length = n → WQ p (k : Int) j →
  (layout_Place_L1 row r at_ p (k : Int)).length = n ∧ ∀ x : Int, 0 ≤ x → x < (n : Int) → ((x ∈ row.drop k → ∃ a : Int, 0 ≤ a ∧ a ≤ 1000000 ∧ WQ ((layout_Place_L1 row r at_ p (k : Int)).getD x.toNat default) a j) ∧ (x ∉ row.drop k → (layout_Place_L1 row r at_ p (k : Int)).getD x.toNat default = at_.getD x.toNat default))
 | 0, k, at_, p, hk, ha, hp => by
  rw [layout_Place_L1, List.drop_of_length_le (by omega)]
  exact ⟨ha, fun x _ _ => ⟨fun h => (by cases h), fun _ => rfl⟩⟩
 | r + 1, k, at_, p, hk, ha, hp => by
  have hi : k < row.length := by omega
  have hb := RL_get hr hi
  have hd : row.drop k = row.getD k 0 :: row.drop (k + 1) := by
   rw [List.drop_eq_getElem_cons hi]; simp [List.getD, hi]
  have hq := (WQ_inc hp (by omega) (by omega)).2
  rw [layout_Place_L1, show ((k : Int)).toNat = k by omega, show ((k : Int) + 1) = ((k + 1 : Nat) : Int) by omega, hd]
  rw [show ((k : Int) + 1) = ((k + 1 : Nat) : Int) by omega] at hq
  obtain ⟨p1, p2⟩ := Pl_L1s hj hr hl r (k + 1) (at_.set (row.getD k 0).toNat p) _ (by omega) (by rw [List.length_set]; exact ha) hq
  refine ⟨p1, fun x x0 x1 => ?_⟩
  obtain ⟨q1, q2⟩ := p2 x x0 x1
  have hset : (at_.set (row.getD k 0).toNat p).getD x.toNat default = if x = row.getD k 0 then p else at_.getD x.toNat default := by
   rw [cset (by rw [ha]; omega)]
   by_cases e : x = row.getD k 0
   ·rw [if_pos e, if_pos (by rw [e])]
   ·rw [if_neg e, if_neg (by omega)]
  refine ⟨fun hx => ?_, fun hx => ?_⟩
  ·by_cases c : x ∈ row.drop (k + 1)
   ·exact q1 c
   ·rcases List.mem_cons.1 hx with e | e
    ·refine ⟨(k : Int), by omega, by omega, ?_⟩
     rw [q2 c, hset, if_pos e]; exact hp
    ·exact absurd e c
  ·have h1 : x ≠ row.getD k 0 := fun e => hx (by rw [e]; exact List.mem_cons_self)
   have h2 : x ∉ row.drop (k + 1) := fun e => hx (List.mem_cons_of_mem _ e)
   rw [q2 h2, hset, if_neg h1]
theorem Pl_L0s {R : List (List Int)} {n : Nat} {d : Int → Int} (hR : ∀ j : Nat, j < R.length → (R.getD j []).length ≤ 1000000 ∧ ∀ v, v ∈ R.getD j [] ↔ In n v ∧ d v = (j : Int)) (hl : R.length ≤ 1000) : ∀ (r k : Nat) (at_ : List Cpx) (p : Cpx), k + r = R.length → WQ p 0 (k : Int) → PSt n d (k : Int) at_ → PSt n d (R.length : Int) (layout_Place_L0 R r at_ p (k : Int))
 | 0, k, at_, p, hk, hp, h => by
  rw [layout_Place_L0]
  have : k = R.length := by omega
  rw [← this]; exact h
 | r + 1, k, at_, p, hk, hp, h => by
  obtain ⟨h1, h2⟩ := hR k (by omega)
  have hRL : RL n (R.getD k []) := fun v hv => ((h2 v).1 hv).1
  have hs := Pl_L1s (j := (k : Int)) (by omega) hRL h1 (R.getD k []).length 0 at_ p (by omega) h.1 hp
  rw [layout_Place_L0, show ((k : Int)).toNat = k by omega, show ((k : Int) + 1) = ((k + 1 : Nat) : Int) by omega, show ((((((R.getD k []).length : Nat) : Int) : Int) - 0).toNat) = (R.getD k []).length by omega]
  rw [show ((0 : Nat) : Int) = 0 from rfl, List.drop_zero] at hs
  generalize layout_Place_L1 (R.getD k []) (R.getD k []).length at_ p 0 = at' at hs ⊢
  have hq := (WQ_dn hp (by omega) (by omega)).2
  rw [show ((k : Int) + 1) = ((k + 1 : Nat) : Int) by omega] at hq
  refine Pl_L0s hR hl r (k + 1) at' _ (by omega) hq ⟨hs.1, fun x hx => ?_⟩
  obtain ⟨a1, a2⟩ := h.2 x hx
  obtain ⟨b1, b2⟩ := hs.2 x hx.1 hx.2
  by_cases c : x ∈ R.getD k []
  ·have hd := ((h2 x).1 c).2
   refine ⟨fun _ _ => by rw [hd]; exact b1 c, fun hn => absurd ⟨by omega, by omega⟩ hn⟩
  ·have hd : ¬ d x = (k : Int) := fun e => c ((h2 x).2 ⟨hx, e⟩)
   rw [b2 c]
   exact ⟨fun u1 u2 => a1 u1 (by omega), fun hn => a2 (by omega)⟩
theorem Place_spec {g : GGraph} (hv : gh_Valid g = true) {root : Int} (hr : In g.Nodes.length root) : ∃ d, DP g root d ∧ (∀ v, In g.Nodes.length v → d v < 1000) ∧ (layout_Place g root).2 = 0 ∧ ∃ J, J ≤ 1000000 ∧ (∀ v, In g.Nodes.length v → d v < J) ∧ PSt g.Nodes.length d J (layout_Place g root).1 := by
 have hg := Valid_VG hv
 have hn := hg.n1
 obtain ⟨d, h1, h2, h3⟩ := rows_spec hg hr
 obtain ⟨_, hrl⟩ := rows_RW (g := g) (root := root) rfl hg hr
 obtain ⟨e1, e2⟩ := Rep_eq (n := g.Nodes.length) (by omega)
 have hc : layout_check g root = 0 := by
  unfold layout_check
  dsimp only
  rw [hv, decide_eq_false (by have := hr.1; omega), decide_eq_false (by have := hr.2; omega)]; rfl
 have hP : layout_Place g root = (layout_Place_L0 (layout_rows g root) (layout_rows g root).length (sc_Repeat_complex128 [ocx] (g.Nodes.length : Int)) (Cpx.mk 0#64 0#64) ((0 : Nat) : Int), 0) := by
  unfold layout_Place
  dsimp only
  rw [hc, show ((((((layout_rows g root).length : Nat) : Int) : Int) - 0).toNat) = (layout_rows g root).length by omega]
  rfl
 have hz : PSt g.Nodes.length d ((0 : Nat) : Int) (sc_Repeat_complex128 [ocx] (g.Nodes.length : Int)) := ⟨e1, fun x hx => ⟨fun u1 u2 => by omega, fun _ => e2 _ (getD_mem (by rw [e1]; have := hx.1; have := hx.2; omega))⟩⟩
 have hs := Pl_L0s (R := layout_rows g root) (n := g.Nodes.length) (d := d) (fun j hj => ⟨by
  have := nodup_le g.Nodes.length _ (h2 j hj).1 (fun x hx => ((h2 j hj).2 x |>.1 hx).1)
  omega, (h2 j hj).2⟩) (by omega) (layout_rows g root).length 0 _ _ (by omega) WQ_0 hz
 refine ⟨d, h1, fun v hv => by have := h3 v hv; omega, by rw [hP], ((layout_rows g root).length : Int), by omega, h3, ?_⟩
 rw [hP]; exact hs
theorem Le_L0s {n : Nat} {d : Int → Int} {J : Int} {at_ : List Cpx} (h : PSt n d J at_) (hJ : ∀ v, In n v → d v < J) (hlo : ∀ v, -1 ≤ d v) (hJb : J ≤ 1000000) : ∀ (r k : Nat) (l : List Int), k + r = n → l.length = k → (∀ i : Nat, i < k → l.getD i 0 = d (i : Int)) → (layout_Levels_L0 at_ r l (k : Int)).length = n ∧ ∀ i : Nat, i < n → (layout_Levels_L0 at_ r l (k : Int)).getD i 0 = d (i : Int)
 | 0, k, l, hk, hl, hi => by
  rw [layout_Levels_L0]
  have : k = n := by omega
  subst this
  exact ⟨hl, hi⟩
 | r + 1, k, l, hk, hl, hi => by
  have hkI : In n (k : Int) := ⟨by omega, by omega⟩
  obtain ⟨a1, a2⟩ := h.2 (k : Int) hkI
  have step : ∀ x : Int, x = d (k : Int) → (layout_Levels_L0 at_ r (l ++ [x]) ((k : Int) + 1)).length = n ∧ ∀ i : Nat, i < n → (layout_Levels_L0 at_ r (l ++ [x]) ((k : Int) + 1)).getD i 0 = d (i : Int) := fun x hx => by
   rw [show ((k : Int) + 1) = ((k + 1 : Nat) : Int) by omega]
   refine Le_L0s h hJ hlo hJb r (k + 1) _ (by omega) (by simp [hl]) fun i hi2 => ?_
   by_cases c : i < k
   ·rw [List.getD_eq_getElem?_getD, List.getElem?_append_left (by omega), ← List.getD_eq_getElem?_getD]; exact hi i c
   ·have : i = k := by omega
    subst this
    rw [List.getD_eq_getElem?_getD, List.getElem?_append_right (by omega), hl, Nat.sub_self]
    exact hx
  rw [layout_Levels_L0]
  by_cases c : 0 ≤ d (k : Int)
  ·obtain ⟨a, ha, hb, hw⟩ := a1 c (hJ _ hkI)
   rw [ceq_oc hw ha, cond_false]
   refine step _ ?_
   have := hJ _ hkI
   exact (IV_toI (x := Flo.mk (at_.getD ((k : Int)).toNat default).im) hw.2 (by omega)).2
  ·have e := a2 (fun q => c q.1)
   rw [e, ceq_occ, cond_true]
   have := hlo (k : Int)
   exact step _ (by omega)
theorem Levels_spec {g : GGraph} (hv : gh_Valid g = true) {root : Int} (hr : In g.Nodes.length root) : ∃ d, DP g root d ∧ (layout_Levels g root).2 = 0 ∧ (layout_Levels g root).1.length = g.Nodes.length ∧ ∀ i : Nat, i < g.Nodes.length → (layout_Levels g root).1.getD i 0 = d (i : Int) := by
 obtain ⟨d, h1, h2, h3, J, h4, h5, h6⟩ := Place_spec hv hr
 have hl := Le_L0s h6 h5 h1.lo h4 g.Nodes.length 0 [] (by omega) rfl (fun i hi => by omega)
 have hL : layout_Levels g root = (layout_Levels_L0 (layout_Place g root).1 g.Nodes.length [] ((0 : Nat) : Int), 0) := by
  unfold layout_Levels
  dsimp only
  rw [h3, h6.1, show (((((g.Nodes.length : Nat) : Int) : Int) - 0).toNat) = g.Nodes.length by omega]
  rfl
 refine ⟨d, h1, by rw [hL], ?_, ?_⟩
 ·rw [hL]; exact hl.1
 ·rw [hL]; exact hl.2
theorem LL_L1 {P : List (List Int)} {d : List Int} {i : Int} (hP : ∀ p ∈ P.getD i.toNat [], 0 ≤ d.getD p.toNat 0 → 0 ≤ d.getD i.toNat 0 ∧ d.getD i.toNat 0 ≤ d.getD p.toNat 0 + 1) : ∀ (r k : Nat) (f : Bool), k + r = (P.getD i.toNat []).length → ∃ b, w33_LayoutLevels_L1 P d i r f (k : Int) = .brk b ∧ (f = true → b = true) ∧ ((∃ p ∈ (P.getD i.toNat []).drop k, 0 ≤ d.getD p.toNat 0 ∧ d.getD p.toNat 0 = d.getD i.toNat 0 - 1) → b = true)
 | 0, k, f, hk => by
  rw [w33_LayoutLevels_L1, List.drop_of_length_le (by omega)]
  exact ⟨f, rfl, fun h => h, fun ⟨p, hp, _⟩ => (by cases hp)⟩
 | r + 1, k, f, hk => by
  have hi : k < (P.getD i.toNat []).length := by omega
  have hd : (P.getD i.toNat []).drop k = (P.getD i.toNat []).getD k 0 :: (P.getD i.toNat []).drop (k + 1) := dropD hi
  have hp := hP _ (getD_mem (d := 0) hi)
  rw [w33_LayoutLevels_L1, show ((k : Int)).toNat = k by omega, show ((k : Int) + 1) = ((k + 1 : Nat) : Int) by omega, hd]
  have nxt : ∀ f' : Bool, (f = true → f' = true) → (0 ≤ d.getD ((P.getD i.toNat []).getD k 0).toNat 0 ∧ d.getD ((P.getD i.toNat []).getD k 0).toNat 0 = d.getD i.toNat 0 - 1 → f' = true) → ∃ b, w33_LayoutLevels_L1 P d i r f' ((k + 1 : Nat) : Int) = .brk b ∧ (f = true → b = true) ∧ ((∃ p ∈ (P.getD i.toNat []).getD k 0 :: (P.getD i.toNat []).drop (k + 1), 0 ≤ d.getD p.toNat 0 ∧ d.getD p.toNat 0 = d.getD i.toNat 0 - 1) → b = true) := fun f' h1 h2 => by
   obtain ⟨b, b1, b2, b3⟩ := LL_L1 hP r (k + 1) f' (by omega)
   refine ⟨b, b1, fun h => b2 (h1 h), fun ⟨p, hp, hq⟩ => ?_⟩
   rcases List.mem_cons.1 hp with e | e
   ·rw [e] at hq; exact b2 (h2 hq)
   ·exact b3 ⟨p, e, hq⟩
  by_cases c : 0 ≤ d.getD ((P.getD i.toNat []).getD k 0).toNat 0
  ·obtain ⟨q1, q2⟩ := hp c
   rw [decide_eq_true c, decide_eq_false (by omega), decide_eq_false (by omega)]
   simp only [cond_true, cond_false]
   cases f
   ·exact nxt _ (fun h => by cases h) (fun h => by simpa using h.2)
   ·exact nxt true (fun _ => rfl) (fun _ => rfl)
  ·rw [decide_eq_false c]
   cases f
   ·exact nxt false (fun h => by cases h) (fun h => absurd h.1 c)
   ·exact nxt true (fun _ => rfl) (fun _ => rfl)
theorem LL_L0 {P : List (List Int)} {d : List Int} {root : Int} (hP : ∀ i : Int, 0 ≤ i → i < (d.length : Int) → ∀ p ∈ P.getD i.toNat [], 0 ≤ d.getD p.toNat 0 → 0 ≤ d.getD i.toNat 0 ∧ d.getD i.toNat 0 ≤ d.getD p.toNat 0 + 1)
  (hE : ∀ i : Int, 0 ≤ i → i < (d.length : Int) → i ≠ root → 0 ≤ d.getD i.toNat 0 → ∃ p ∈ P.getD i.toNat [], 0 ≤ d.getD p.toNat 0 ∧ d.getD p.toNat 0 = d.getD i.toNat 0 - 1) : ∀ (r k : Nat), k + r = d.length → w33_LayoutLevels_L0 P root d r (k : Int) = .brk ()
 | 0, k, hk => by rw [w33_LayoutLevels_L0]
 | r + 1, k, hk => by
  have hp := hP (k : Int) (by omega) (by omega)
  have he := hE (k : Int) (by omega) (by omega)
  have ih := LL_L0 hP hE r (k + 1) (by omega)
  rw [w33_LayoutLevels_L0, show ((k : Int) + 1) = ((k + 1 : Nat) : Int) by omega, show ((((((P.getD ((k : Int)).toNat []).length : Nat) : Int) : Int) - 0).toNat) = (P.getD ((k : Int)).toNat []).length by omega]
  by_cases c : (k : Int) = root
  ·obtain ⟨b, b1, b2, b3⟩ := LL_L1 hp (P.getD ((k : Int)).toNat []).length 0 true (by omega)
   rw [show ((0 : Nat) : Int) = 0 from rfl] at b1
   have : ((k : Int) == root) = true := by simpa using c
   rw [this, cond_true, b1, b2 rfl]
   exact ih
  ·obtain ⟨b, b1, b2, b3⟩ := LL_L1 hp (P.getD ((k : Int)).toNat []).length 0 (decide (d.getD ((k : Int)).toNat 0 < 0)) (by omega)
   rw [show ((0 : Nat) : Int) = 0 from rfl] at b1
   have : ((k : Int) == root) = false := by simpa using c
   have hb : b = true := by
    by_cases c2 : d.getD ((k : Int)).toNat 0 < 0
    ·exact b2 (decide_eq_true c2)
    ·refine b3 ?_
     rw [List.drop_zero]
     exact he c (by omega)
   rw [this, cond_false, b1, hb]
   exact ih
theorem LayoutLevels_true (t : List Int) : w33_LayoutLevels t = true := by
 have hs : w33_sane = true := rfl
 unfold w33_LayoutLevels
 dsimp only
 obtain ⟨n, n1, n2, n3, hvf⟩ := TG_ok t 0 9 (by omega)
 have hval := Valid_sq n3 n1 (by omega) hvf
 have hN := Next_lt t (tp_Graph t 0 9).2 ((tp_Graph t 0 9).1.Nodes.length : Int) (by omega) (by omega)
 generalize tp_Next t (tp_Graph t 0 9).2 (((tp_Graph t 0 9).1.Nodes.length : Nat) : Int) = rt at hN ⊢
 generalize (tp_Graph t 0 9).1 = g at *
 obtain ⟨d, h1, h2, h3, h4⟩ := Levels_spec hval (root := rt.1) ⟨hN.1, hN.2⟩
 have hroot : (layout_Levels g rt.1).1.getD rt.1.toNat 0 = 0 := by
  rw [h4 rt.1.toNat (by omega), show ((rt.1.toNat : Nat) : Int) = rt.1 by omega]; exact h1.d0
 have hdx : ∀ x : Int, In g.Nodes.length x → (layout_Levels g rt.1).1.getD x.toNat 0 = d x := fun x hx => by
  rw [h4 x.toNat (by have := hx.1; have := hx.2; omega), show ((x.toNat : Nat) : Int) = x by have := hx.1; omega]
 rw [hs, h2, h3, hroot]
 have hpr : ∀ i : Int, In g.Nodes.length i → ∀ p ∈ g.Pred.getD i.toNat [], In g.Nodes.length p ∧ i ∈ g.Succ.getD p.toNat [] := fun i hi p hp => by
  have hi1 := hi.1
  have hi2 := hi.2
  have ha := Asc_mem (hvf.pa i.toNat (by omega)) hp
  have hm := (hvf.mi p.toNat i.toNat (by omega) (by omega)).2
  rw [show ((p.toNat : Nat) : Int) = p by omega, show ((i.toNat : Nat) : Int) = i by omega] at hm
  exact ⟨⟨ha.1, by omega⟩, hm hp⟩
 have hL := LL_L0 (P := g.Pred) (d := (layout_Levels g rt.1).1) (root := rt.1) (fun i i0 i1 p hp hd => by
  have hi : In g.Nodes.length i := ⟨i0, by omega⟩
  obtain ⟨q1, q2⟩ := hpr i hi p hp
  rw [hdx p q1] at hd ⊢
  rw [hdx i hi]
  exact h1.d1 p i q1 hd q2) (fun i i0 i1 hne hd => by
  have hi : In g.Nodes.length i := ⟨i0, by omega⟩
  rw [hdx i hi] at hd ⊢
  have h0 : ¬ d i = 0 := fun e => hne (h1.dr i hi e)
  obtain ⟨u, u1, u2, u3⟩ := h1.d2 i hi (by omega)
  refine ⟨u, ?_, ?_⟩
  ·have hu1 := u1.1
   have hu2 := u1.2
   have hm := (hvf.mi u.toNat i.toNat (by omega) (by omega)).1
   rw [show ((u.toNat : Nat) : Int) = u by omega, show ((i.toNat : Nat) : Int) = i by omega] at hm
   exact hm u2
  ·rw [hdx u u1]; omega) (layout_Levels g rt.1).1.length 0 (by omega)
 rw [show ((0 : Nat) : Int) = 0 from rfl, h3] at hL
 rw [show (((((g.Nodes.length : Nat) : Int) : Int) - 0).toNat) = g.Nodes.length by omega, hL]
 simp
theorem fx40 : Ext1 Tryd.prog 40 Extern.MathFloatBits.float64bits := fun args w => run_callFunc_extern Tryd.func40 (by kernel_rfl) (by kernel_rfl) (by kernel_rfl) (by kernel_rfl) args w
theorem fx39 : Ext1 Tryd.prog 39 Extern.MathFloatBits.float64frombits := fun args w => run_callFunc_extern Tryd.func39 (by kernel_rfl) (by kernel_rfl) (by kernel_rfl) (by kernel_rfl) args w
theorem fx42 : Ext1 Tryd.prog 42 (Extern.MathFloor.toIntegral "math.archTrunc" .zero) := fun args w => run_callFunc_extern Tryd.func42 (by kernel_rfl) (by kernel_rfl) (by kernel_rfl) (by kernel_rfl) args w
theorem ca23 : callable Tryd.prog 23 = true := by kernel_rfl
theorem ca28 : callable Tryd.prog 28 = true := by kernel_rfl
theorem ze69 : zeroOf Tryd.prog 69 = some (.nilFunc) := by kernel_rfl
theorem sh69 : tyShape Tryd.prog 69 = some (false, 1) := by kernel_rfl
theorem ca29 : callable Tryd.prog 29 = true := by kernel_rfl
theorem ca30 : callable Tryd.prog 30 = true := by kernel_rfl
theorem ca27 : callable Tryd.prog 27 = true := by kernel_rfl
theorem ca31 : callable Tryd.prog 31 = true := by kernel_rfl
theorem ca32 : callable Tryd.prog 32 = true := by kernel_rfl
theorem ca33 : callable Tryd.prog 33 = true := by kernel_rfl
theorem sh37 : tyShape Tryd.prog 37 = some (false, 1) := by kernel_rfl
theorem sl30 : slTy Tryd.prog 30 = some (37, 1, 16) := by kernel_rfl
theorem ca45 : callable Tryd.prog 45 = true := by kernel_rfl
theorem sz30 : slZero Tryd.prog 30 = some [cxv (Cpx.mk 0#64 0#64)] := by kernel_rfl
theorem ca44 : callable Tryd.prog 44 = true := by kernel_rfl
theorem un30 : Tryd.prog.underlying 30 = some (.slice 37) := by kernel_rfl
theorem ca18 : callable Tryd.prog 18 = true := by kernel_rfl
theorem ca19 : callable Tryd.prog 19 = true := by kernel_rfl
theorem ze42 : zeroOf Tryd.prog 42 = some (.agg #[.slice none 0 0, .slice none 0 0, .slice none 0 0]) := by kernel_rfl
theorem ca7 : callable Tryd.prog 7 = true := by kernel_rfl
theorem sz39 : slZero Tryd.prog 39 = some [vi 0, vi 0, vi 0, vi 0] := by kernel_rfl
theorem sz40 : slZero Tryd.prog 40 = some [.slice none 0 0] := by kernel_rfl
theorem st42 : stTy Tryd.prog 42 = some ([(0, 1), (1, 1), (2, 1)], [.slice none 0 0, .slice none 0 0, .slice none 0 0]) := by kernel_rfl
theorem sh42 : tyShape Tryd.prog 42 = some (true, 3) := by kernel_rfl
theorem ca26 : callable Tryd.prog 26 = true := by kernel_rfl
theorem sz22 : slZero Tryd.prog 22 = some [vi 0] := by kernel_rfl
theorem fo42_0 : fldOff Tryd.prog 42 0 = some 0 := by kernel_rfl
theorem sh39 : tyShape Tryd.prog 39 = some (false, 1) := by kernel_rfl
theorem sl39 : slTy Tryd.prog 39 = some (157, 4, 32) := by kernel_rfl
theorem fo42_1 : fldOff Tryd.prog 42 1 = some 1 := by kernel_rfl
theorem sh40 : tyShape Tryd.prog 40 = some (false, 1) := by kernel_rfl
theorem fo42_2 : fldOff Tryd.prog 42 2 = some 2 := by kernel_rfl
theorem ca53 : callable Tryd.prog 53 = true := by kernel_rfl
theorem ca54 : callable Tryd.prog 54 = true := by kernel_rfl
theorem sl40 : slTy Tryd.prog 40 = some (22, 1, 24) := by kernel_rfl
theorem sh22 : tyShape Tryd.prog 22 = some (false, 1) := by kernel_rfl
theorem ca64 : callable Tryd.prog 64 = true := by kernel_rfl
theorem sl22 : slTy Tryd.prog 22 = some (3, 1, 8) := by kernel_rfl
theorem sh3 : tyShape Tryd.prog 3 = some (false, 1) := by kernel_rfl
theorem ca65 : callable Tryd.prog 65 = true := by kernel_rfl
theorem st63 : stTy Tryd.prog 63 = some ([(0, 1), (1, 1)], [cxv (Cpx.mk 0#64 0#64), cxv (Cpx.mk 0#64 0#64)]) := by kernel_rfl
theorem sl60 : slTy Tryd.prog 60 = some (63, 2, 32) := by kernel_rfl
theorem sz60 : slZero Tryd.prog 60 = some [cxv (Cpx.mk 0#64 0#64), cxv (Cpx.mk 0#64 0#64)] := by kernel_rfl
theorem ca38 : callable Tryd.prog 38 = true := by kernel_rfl
theorem fo52_1 : fldOff Tryd.prog 52 1 = some 1 := by kernel_rfl
theorem fo52_0 : fldOff Tryd.prog 52 0 = some 0 := by kernel_rfl
theorem ca17 : callable Tryd.prog 17 = true := by kernel_rfl
theorem fmix : Tryd.prog.follows .mixedOrders = true := by kernel_rfl
theorem sh63 : tyShape Tryd.prog 63 = some (true, 2) := by kernel_rfl
theorem ca41 : callable Tryd.prog 41 = true := by kernel_rfl
theorem fo63_1 : fldOff Tryd.prog 63 1 = some 1 := by kernel_rfl
theorem fo63_0 : fldOff Tryd.prog 63 0 = some 0 := by kernel_rfl
theorem ca22 : callable Tryd.prog 22 = true := by kernel_rfl
theorem ca25 : callable Tryd.prog 25 = true := by kernel_rfl
theorem ca24 : callable Tryd.prog 24 = true := by kernel_rfl
theorem ze63 : zeroOf Tryd.prog 63 = some (.agg #[cxv (Cpx.mk 0#64 0#64), cxv (Cpx.mk 0#64 0#64)]) := by kernel_rfl
theorem ca57 : callable Tryd.prog 57 = true := by kernel_rfl
theorem un3 : Tryd.prog.underlying 3 = some (.int .i64) := by kernel_rfl
theorem un68 : Tryd.prog.underlying 68 = some (.int .u64) := by kernel_rfl
theorem ca66 : callable Tryd.prog 66 = true := by kernel_rfl
theorem un88 : Tryd.prog.underlying 88 = some (.int .u64) := by kernel_rfl
theorem un5 : Tryd.prog.underlying 5 = some (.int .u8) := by kernel_rfl
theorem un9 : Tryd.prog.underlying 9 = some .string := by kernel_rfl
theorem ca75 : callable Tryd.prog 75 = true := by kernel_rfl
theorem ca59 : callable Tryd.prog 59 = true := by kernel_rfl
theorem ca58 : callable Tryd.prog 58 = true := by kernel_rfl
theorem ca60 : callable Tryd.prog 60 = true := by kernel_rfl
theorem ca49 : callable Tryd.prog 49 = true := by kernel_rfl
theorem ca48 : callable Tryd.prog 48 = true := by kernel_rfl
theorem ze22 : zeroOf Tryd.prog 22 = some (.slice none 0 0) := by kernel_rfl
theorem sl94 : slTy Tryd.prog 94 = some (4, 1, 1) := by kernel_rfl
theorem sz94 : slZero Tryd.prog 94 = some [vb false] := by kernel_rfl
theorem sh4 : tyShape Tryd.prog 4 = some (false, 1) := by kernel_rfl
theorem ca47 : callable Tryd.prog 47 = true := by kernel_rfl
theorem ca46 : callable Tryd.prog 46 = true := by kernel_rfl
theorem ca76 : callable Tryd.prog 76 = true := by kernel_rfl
theorem ca61 : callable Tryd.prog 61 = true := by kernel_rfl
theorem ca50 : callable Tryd.prog 50 = true := by kernel_rfl
theorem ze77 : zeroOf Tryd.prog 77 = some (.agg #[.pointer none, .slice none 0 0]) := by kernel_rfl
theorem ca34 : callable Tryd.prog 34 = true := by kernel_rfl
theorem sl78 : slTy Tryd.prog 78 = some (9, 1, 16) := by kernel_rfl
theorem sz78 : slZero Tryd.prog 78 = some [.string (bs (Str.mk []))] := by kernel_rfl
theorem ca36 : callable Tryd.prog 36 = true := by kernel_rfl
theorem ca35 : callable Tryd.prog 35 = true := by kernel_rfl
theorem ca37 : callable Tryd.prog 37 = true := by kernel_rfl
theorem ca13 : callable Tryd.prog 13 = true := by kernel_rfl
theorem ca21 : callable Tryd.prog 21 = true := by kernel_rfl
theorem ca10 : callable Tryd.prog 10 = true := by kernel_rfl
theorem ca14 : callable Tryd.prog 14 = true := by kernel_rfl
theorem ca20 : callable Tryd.prog 20 = true := by kernel_rfl
theorem un36 : Tryd.prog.underlying 36 = some (.float .f64) := by kernel_rfl
theorem st52 : stTy Tryd.prog 52 = some ([(0, 1), (1, 1)], [.slice none 0 0, vi 0]) := by kernel_rfl
theorem ca6 : callable Tryd.prog 6 = true := by kernel_rfl
theorem ca15 : callable Tryd.prog 15 = true := by kernel_rfl
theorem ca16 : callable Tryd.prog 16 = true := by kernel_rfl
theorem ca11 : callable Tryd.prog 11 = true := by kernel_rfl
theorem fn23 (x : Flo) (rr : Flo) (hrr : math_Abs x = .ret rr) : FT Tryd.prog 23 #[flo x] [] (fun g : Unit => True) (fun g => flo rr) (fun g => []) := by
 refine FTi Tryd.func23 fun w0 M0 F0 => ?_
 have hx0 := lrn rr; have H := hrr; unfold math_Abs at H
 refine KS ?_
 refine Oq Va (KS ?_)
 refine Oq Vm (Oq (VfB (a := x) fx40) (Oq (VandNotU (b := 9223372036854775808#64)) (Oq (VfF (a := ((x.b) &&& ~~~(9223372036854775808#64))) fx39) (Oq Va (KS ?_)))))
 have hq := rI H; subst hq
 exact Kr () rfl (.tmp rfl .nil) [] trivial
theorem fn28 (x : Flo) (rr : Flo) (hrr : math_Trunc x = .ret rr) : FT Tryd.prog 28 #[flo x] [] (fun g : Unit => True) (fun g => flo rr) (fun g => []) := by
 refine FTi Tryd.func28 fun w0 M0 F0 => ?_
 have hx0 := lrn rr; have H := hrr; unfold math_Trunc at H
 refine KS ?_
 refine Oq Va (KS ?_)
 refine Kt (KS ?_)
 refine Oq Vm ?_
 refine pC H hx0 fun hc1 H => ?_
 refine Oq (VfT (a := x) fx42 (h := hc1)) (Oq Va (KS ?_))
 have hq := rI H; subst hq
 exact Kr () rfl (.tmp rfl .nil) [] trivial
theorem fn27 (x : Flo) (rr : Bool) (hrr : layout_whole_1 x = .ret rr) : FT Tryd.prog 27 #[flo x] [] (fun g : Unit => True) (fun g => vb rr) (fun g => []) := by
 refine FTi Tryd.func27 fun w0 M0 F0 => ?_
 have hx0 := lrn rr; have H := hrr; unfold layout_whole_1 at H
 refine KS ?_
 refine Oq Va (KS ?_)
 refine Oq Vm ?_
 refine lbH H hx0 fun rv1 hg2 H => ?_
 have hc3 := fn23 x rv1 hg2
 refine Oc [] ca23 hc3 ?_
 rintro - -
 refine Oq (VleF (a := rv1) (b := (Flo.mk 4652218415073722368#64))) (Oq Vm ?_)
 refine pT H hx0 fun h4 H => ?_
 refine JsT 6 h4 ?_
 refine Oq Vm (Oq Vm ?_)
 refine lbH H hx0 fun rv6 hg7 H => ?_
 have hc8 := fn28 x rv6 hg7
 refine Oc [] ca28 hc8 ?_
 rintro - -
 refine Oq (VeqF (a := x) (b := rv6)) (Oq Vpt (Oq Va (KS ?_)))
 have hq := rI H; subst hq
 exact Kr () rfl (.tmp rfl .nil) [] trivial
theorem fn30m0 (p : Cpx) (cap0P : Value) (rr : Bool) (hrr : layout_whole_2_whole_1 p = .ret rr) : FT Tryd.prog 30 #[cxv p, cap0P] [pv cap0P [.func (.func 27) #[] #[]]] (fun g : Unit => True) (fun g => vb rr) (fun g => []) := by
 refine FTi Tryd.func30 fun w0 M0 F0 => ?_
 have hx0 := lrn rr; have H := hrr; unfold layout_whole_2_whole_1 at H
 refine KS ?_
 refine Oq Va (KS ?_)
 refine Oq (Vld sh69 0) (Oq Vm (Oq (Vre (a := p)) ?_))
 refine lbH H hx0 fun rv1 hg2 H => ?_
 have hc3 := fn27 ((Flo.mk p.re)) rv1 hg2
 refine JO_call [] rfl rfl rfl (OpC.clo (asv := [(flo (Flo.mk p.re) : Value)]) rfl rfl ca27 rfl (by simp)) hc3 rfl ?_
 rintro - -
 refine Oq Vnot (Oq Vm ?_)
 refine pF H hx0 fun h4 H => ?_
 refine JsF 9 h4 ?_
 have h6 := not_false h4
 refine Oq (Vld sh69 0) (Oq Vm (Oq (Vim (a := p)) ?_))
 refine lbH H hx0 fun rv8 hg9 H => ?_
 have hc10 := fn27 ((Flo.mk p.im)) rv8 hg9
 refine Ogo (gt rfl rfl rfl rfl) ?_
 refine JO_call [] rfl rfl rfl (OpC.clo (asv := [(flo (Flo.mk p.im) : Value)]) rfl rfl ca27 rfl (by simp)) hc10 rfl ?_
 rintro - -
 refine Oq Vnot (Oq Vpf (Oq Va (KS ?_)))
 have hq := rI H; subst hq
 exact Kr () rfl (.tmp rfl .nil) [] trivial
theorem fn44m0 (s : List Cpx) (sa0 : Option Addr) (sk0 : Nat) (st0P : Value) (rr : Int) (hrr : sc_IndexFunc_complex128_whole_2 s = .ret rr) : FT Tryd.prog 44 #[vl sa0 sk0 s, .func (.func 30) #[] #[st0P]] [S sa0 sk0 s, pv st0P [.func (.func 27) #[] #[]]] (fun g : Unit => i64ok rr) (fun g => vi rr) (fun g => []) := by
 refine FTi Tryd.func44 fun w0 M0 F0 => Fb 16 0 fun _ => ?_
 have hx0 := lrn rr; have H := hrr; unfold sc_IndexFunc_complex128_whole_2 at H
 refine KS ?_
 refine Oq Va (KS ?_)
 refine Oq Vm (Oq (Vlen sl30) (Oq Vm (KS ?_)))
 refine llH H hx0 fun X9 hX10 hx11 HL12 => ?_
 refine Kl (γ := Nat × Int) (fun (r2, v8_3) => ⟨[(0, vl sa0 sk0 s), (1, .func (.func 30) #[] #[st0P]), (7, vi (s.length : Int)), (8, vi v8_3)], [S sa0 sk0 s, pv st0P [.func (.func 27) #[] #[]]], sc_IndexFunc_complex128_whole_2_L0 s r2 v8_3 = X9 ∧ r2 = ((s.length : Int) - v8_3).toNat ∧ (0 : Int) ≤ v8_3 ∧ v8_3 ≤ (s.length : Int) ∧ (-9223372036854775808 ≤ v8_3 ∧ v8_3 ≤ 9223372036854775807), r2⟩) (((s.length : Int) - 0).toNat, 0) [0, 1] ⟨hX10, rfl, aM1, aM1, aM1⟩ ?_
 rintro ⟨r2, v8_3⟩ ⟨hM4, hr5, hi6, hi7, hk8⟩
 refine JJ_nx fun _ _ hL hA => ?_; dsimp only at hL hA; subst hL hA
 refine Fb 16 0 fun _ => KS ?_
 refine Oq Vlss (KS ?_)
 refine Kc ?_ ?_
 ·intro h14
  have g15 := dt h14
  obtain ⟨r16, rfl⟩ := scc (n := r2) aM1
  have H := hM4; (try dsimp only at H); rw [sc_IndexFunc_complex128_whole_2_L0] at H
  refine KS ?_
  refine Oq Vm (Oq Va (KS ?_))
  refine Oq Vm (Oq Vm (Oq Vm ?_))
  refine pC H hx11 fun hc17 H => ?_
  refine Oq (Vi sl30 0) (Oq (VldCx sh37 0) ?_)
  refine lbH H hx11 fun rv18 hg19 H => ?_
  have hc20 := fn30m0 ((s.getD v8_3.toNat default)) st0P rv18 hg19
  refine JO_call [1] rfl rfl rfl (OpC.clo (asv := [(cxv (s.getD v8_3.toNat default) : Value), (st0P : Value)]) rfl rfl ca30 rfl (by simp)) hc20 rfl ?_
  rintro - -
  refine KS ?_
  refine pF H hx11 fun h21 H => ?_
  refine KcF h21 ?_
  refine KS ?_
  refine Oq Vadd (Oq Vm (KS ?_))
  refine pC H hx11 fun hc23 H => ?_
  exact Kg (r16, (v8_3 + 1)) [0, 1] ⟨H, aM1, aM1, aM1, aM1⟩
 intro h14
 have g24 := df h14
 obtain rfl : r2 = 0 := by omega
 have H := hM4; (try dsimp only at H); rw [sc_IndexFunc_complex128_whole_2_L0] at H
 refine Ke ?_
 have H := llB H HL12
 refine KS ?_
 refine Oq Va (KS ?_)
 have hq := rI H; subst hq
 exact Kr () rfl (.tmp rfl .nil) [] en
theorem fn29m0 (s : List Cpx) (sa0 : Option Addr) (sk0 : Nat) (st0P : Value) (rr : Bool) (hrr : sc_ContainsFunc_complex128_whole_2 s = .ret rr) : FT Tryd.prog 29 #[vl sa0 sk0 s, .func (.func 30) #[] #[st0P]] [S sa0 sk0 s, pv st0P [.func (.func 27) #[] #[]]] (fun g : Unit => True) (fun g => vb rr) (fun g => []) := by
 refine FTi Tryd.func29 fun w0 M0 F0 => Fb 16 0 fun _ => ?_
 have hx0 := lrn rr; have H := hrr; unfold sc_ContainsFunc_complex128_whole_2 at H
 refine KS ?_
 refine Oq Va (KS ?_)
 refine Oq Vm (Oq Vm ?_)
 refine lbH H hx0 fun rv2 hg3 H => ?_
 have hc4 := fn44m0 s sa0 sk0 st0P rv2 hg3
 refine Oc [0, 1] ca44 hc4 ?_
 rintro - he5
 unfold i64ok at he5
 refine Oq Vgeq (Oq Va (KS ?_))
 have hq := rI H; subst hq
 exact Kr () rfl (.tmp rfl .nil) [] trivial
theorem fn18 (at_ : List Cpx) (at_a0 : Option Addr) (at_k0 : Nat) (rr : Bool) (hrr : layout_whole at_ = .ret rr) : FT Tryd.prog 18 #[vl at_a0 at_k0 at_] [S at_a0 at_k0 at_] (fun g : Unit => True) (fun g => vb rr) (fun g => []) := by
 refine FTi Tryd.func18 fun w0 M0 F0 => Fb 16 0 fun _ => ?_
 have hx0 := lrn rr; have H := hrr; unfold layout_whole at H
 refine KS ?_
 refine Oq Va (KS ?_)
 refine Oa (Al ze69 [.nilFunc]) fun p2 => Ost (Scl [0] sh69 [.func (.func 27) #[] #[]]) (KS ?_)
 refine Oq Vm (Oq (Vf [p2]) ?_)
 refine Jl [0] (Ent.freezeCl _ _) ?_
 refine lbH H hx0 fun rv3 hg4 H => ?_
 have hc5 := fn29m0 at_ at_a0 at_k0 p2 rv3 hg4
 refine Oc [1, 0] ca29 hc5 ?_
 rintro - -
 refine Oq Vnot (Oq Va (KS ?_))
 have hq := rI H; subst hq
 exact Kr () rfl (.tmp rfl .nil) [] trivial
theorem fn19 (s : List Cpx) (sa0 : Option Addr) (sk0 : Nat) (rr : List Cpx) (hrr : sc_Clone_complex128 s = .ret rr) : FT Tryd.prog 19 #[vl sa0 sk0 s] [S sa0 sk0 s] (fun g : Value => True) (fun g => g) (fun g => [os g rr]) := by
 have hm : sc_Clone_complex128 s = .ret s := rfl
 rw [hm] at hrr
 injection hrr with hrr
 subst hrr
 refine FTi Tryd.func19 fun w0 M0 F0 => ?_
 refine KS ?_
 refine Oq Va ?_
 refine KS ?_
 refine Oq Vm ?_
 refine Oq (VeqN un30) ?_
 refine KS ?_
 refine Kc ?_ ?_
 ·intro h
  refine Jnil 0 h ?_
  intro h0
  subst h0
  refine KS ?_
  refine Oq Va ?_
  refine KS ?_
  refine Jl [] (Ent.osNil (α := Cpx)) ?_
  exact Kr (.slice none 0 0) rfl (.tmp rfl .nil) [0] trivial
 ·intro _
  refine KS ?_
  refine Oa (As0 sl30) fun c1 => ?_
  refine Jo 0 ?_; rintro a2 k3 rfl
  refine Oq Vm ?_
  refine Fb 16 1 fun hl => ?_
  refine Jl [0] (Ent.crNil (α := Cpx) _) ?_
  refine Oa (Ap0 [0, 0] sl30 sl30 sz30) fun c4 => ?_
  refine Oq Va ?_
  refine KS ?_
  exact Kr c4 rfl (.tmp rfl .nil) [0] trivial
theorem fn10 (at_ : List Cpx) (at_a0 : Option Addr) (at_k0 : Nat) (quarter : Int) (hquarter_0 : i64ok quarter) (rr : List Cpx) (hrr : layout_Turn at_ quarter = .ret rr) : FT Tryd.prog 10 #[vl at_a0 at_k0 at_, vi quarter] [S at_a0 at_k0 at_] (fun g : Value => True) (fun g => g) (fun g => [os g rr]) := by
 refine FTi Tryd.func10 fun w0 M0 F0 => ?_
 unfold i64ok at hquarter_0
 refine Fb 16 0 fun _ => ?_
 have hx0 := lrn rr; have H := hrr; unfold layout_Turn at H
 refine KS ?_
 refine Oq Va (KS ?_)
 refine Oq Vm ?_
 refine lbH H hx0 fun rv2 hg3 H => ?_
 have hc4 := fn18 at_ at_a0 at_k0 rv2 hg3
 refine Oc [0] ca18 hc4 ?_
 rintro - -
 refine Oq Vnot (KS ?_)
 refine pF H hx0 fun h5 H => ?_
 refine KcF h5 ?_
 have h7 := not_false h5
 refine KS ?_
 refine Oq Vm ?_
 refine lbH H hx0 fun rv10 hg11 H => ?_
 have hc12 := fn19 at_ at_a0 at_k0 rv10 hg11
 refine Oc [0] ca19 hc12 ?_
 rintro c9 -
 refine Jo 0 ?_; rintro a13 k14 rfl
 refine Fb 16 0 fun _ => ?_
 refine Oq Va (KS ?_)
 refine Oq Vm ?_
 refine pC H hx0 fun hc16 H => ?_
 refine Oq VremT ?_
 have ht17 := tmod_rng quarter 4 aM1
 refine pC H hx0 fun hc18 H => ?_
 refine Oq Vadd ?_
 refine pC H hx0 fun hc19 H => ?_
 refine Oq VremT ?_
 have ht20 := tmod_rng ((Int.tmod quarter 4) + 4) 4 aM1
 refine Oq Vm (KS ?_)
 refine llH H hx0 fun X31 hX32 hx33 HL34 => ?_
 refine Kl (γ := Nat × List Cpx × Int × Option Addr × Nat) (fun (r21, l_22, v16_23, a24, k25) => ⟨[(5, vl a24 k25 l_22), (15, vi (Int.tmod ((Int.tmod quarter 4) + 4) 4)), (16, vi v16_23)], [O a24 k25 l_22], layout_Turn_L0 r21 l_22 v16_23 = X31 ∧ r21 = (((Int.tmod ((Int.tmod quarter 4) + 4) 4) : Int) - v16_23).toNat ∧ (0 : Int) ≤ v16_23 ∧ (v16_23 ≤ (Int.tmod ((Int.tmod quarter 4) + 4) 4) ∨ v16_23 = 0) ∧ (-9223372036854775808 ≤ v16_23 ∧ v16_23 ≤ 9223372036854775807), r21⟩) ((((Int.tmod ((Int.tmod quarter 4) + 4) 4) : Int) - 0).toNat, rv10, 0, a13, k14) [0] ⟨hX32, rfl, aM1, (.inr rfl), aM1⟩ ?_
 rintro ⟨r21, l_22, v16_23, a24, k25⟩ ⟨hM26, hr27, hi28, hi29, hk30⟩
 refine JJ_nx fun _ _ hL hA => ?_; dsimp only at hL hA; subst hL hA
 refine Fb 16 0 fun _ => KS ?_
 refine Oq Vlss (KS ?_)
 refine Kc ?_ ?_
 ·intro h36
  have g37 := dt h36
  obtain ⟨r38, rfl⟩ := scc (n := r21) aM1
  have H := hM26; (try dsimp only at H); rw [layout_Turn_L0] at H
  refine KS ?_
  refine Oq Vm (Oq (Vlen sl30) (Oq Vm (KS ?_)))
  refine llH H hx33 fun X47 hX48 hx49 HL50 => ?_
  refine Kl (γ := Nat × List Cpx × Int) (fun (r39, l_40, v20_41) => ⟨[(5, vl a24 k25 l_22), (15, vi (Int.tmod ((Int.tmod quarter 4) + 4) 4)), (16, vi v16_23), (19, vi (l_22.length : Int)), (20, vi v20_41)], [os (vl a24 k25 l_22) l_40], layout_Turn_L1 r39 l_40 v20_41 = X47 ∧ r39 = ((l_22.length : Int) - v20_41).toNat ∧ (0 : Int) ≤ v20_41 ∧ v20_41 ≤ (l_22.length : Int) ∧ (-9223372036854775808 ≤ v20_41 ∧ v20_41 ≤ 9223372036854775807), r39⟩) (((l_22.length : Int) - 0).toNat, l_22, 0) [0] ⟨hX48, rfl, aM1, aM1, aM1⟩ ?_
  rintro ⟨r39, l_40, v20_41⟩ ⟨hM42, hr43, hi44, hi45, hk46⟩
  refine JJ_nx fun _ _ hL hA => ?_; dsimp only at hL hA; subst hL hA
  refine Fb 16 0 fun _ => Fl 0 fun hn52 => ?_
  refine KS ?_
  refine Oq Vlss (KS ?_)
  refine Kc ?_ ?_
  ·intro h53
   have g54 := dt h53
   obtain ⟨r55, rfl⟩ := scc (n := r39) aM1
   have H := hM42; (try dsimp only at H); rw [layout_Turn_L1] at H
   refine KS ?_
   refine Oq Vm (Oq Va (KS ?_))
   refine Oq Vm (Oq Vm ?_)
   refine pC H hx49 fun hc56 H => ?_
   refine Oq (Vi sl30 0) (Oq (VldCx sh37 0) ?_)
   refine pC H hx49 fun hc57 H => ?_
   refine Oq (VmulC (a := (l_40.getD v20_41.toNat default)) (b := (Cpx.mk 0#64 4607182418800017408#64)) (h := hc57)) (Oq (Vi sl30 0) (Ost (SoCx [0] sh37) (KS ?_)))
   refine Oq Vadd (Oq Vm (KS ?_))
   refine pC H hx49 fun hc58 H => ?_
   refine pC H hx49 fun hc59 H => ?_
   exact Kg (r55, (l_40.set v20_41.toNat (cmul (l_40.getD v20_41.toNat default) (Cpx.mk 0#64 4607182418800017408#64))), (v20_41 + 1)) [0] ⟨H, aM1, aM1, aM1, aM1⟩
  intro h53
  have g60 := df h53
  obtain rfl : r39 = 0 := by omega
  have H := hM42; (try dsimp only at H); rw [layout_Turn_L1] at H
  refine Ke ?_
  have H := llB H HL50
  refine KS ?_
  refine Oq Vadd (Oq Vm (KS ?_))
  refine Fl 0 fun hn61 => ?_; (try unfold vl); rw [← hn61]
  refine pC H hx33 fun hc62 H => ?_
  exact Kg (r38, l_40, (v16_23 + 1), a24, k25) [0] ⟨H, aM1, aM1, aM1, aM1⟩
 intro h36
 have g63 := df h36
 obtain rfl : r21 = 0 := by omega
 have H := hM26; (try dsimp only at H); rw [layout_Turn_L0] at H
 refine Ke ?_
 have H := llB H HL34
 refine KS ?_
 refine Oq Vm (Oq Va (KS ?_))
 have hq := rI H; subst hq
 exact Kr (vl a24 k25 l_22) rfl (.tmp rfl .nil) [0] trivial
theorem fn13  (rr : GGraph) (hrr : w33_diamond = .ret rr) : FT Tryd.prog 13 #[] [] (fun g : Value × Value × Value => True) (fun g => .agg #[g.1, g.2.1, g.2.2]) (fun g => [sl g.1 rr.Nodes, sl g.2.1 rr.Succ, sl g.2.2 rr.Pred]) := by
 refine FTi Tryd.func13 fun w0 M0 F0 => ?_
 have hx0 := lrn rr; have H := hrr; unfold w33_diamond at H
 refine KS ?_
 refine Oa (Al ze42 [.slice none 0 0, .slice none 0 0, .slice none 0 0]) fun p1 => KS ?_
 refine pC H hx0 fun hc2 H => ?_
 refine Oa (Amk (α := GNode) sl39 sz39 (default : GNode) zrd_GNode) fun c3 => ?_
 refine Jo 0 ?_; rintro a4 k5 rfl
 refine Fb 32 0 fun _ => ?_
 have hn7 := List.length_replicate (n := (4 : Int).toNat) (a := ((default : GNode) : GNode))
 refine Oa (AsV sl22 sz22 [vi 1, vi 2] [vi 1, vi 2]) fun c8 => ?_
 refine Jo 0 ?_; rintro a9 k10 rfl
 refine Oa (AsV sl22 sz22 [vi 3] [vi 3]) fun c11 => ?_
 refine Jo 0 ?_; rintro a12 k13 rfl
 refine Oa (AsV sl22 sz22 [vi 3] [vi 3]) fun c14 => ?_
 refine Jo 0 ?_; rintro a15 k16 rfl
 refine Oa (AsV sl40 sz40 [.slice a9 2 k10, .slice a12 1 k13, .slice a15 1 k16, .slice none 0 0] [.slice a9 2 k10, .slice a12 1 k13, .slice a15 1 k16, .slice none 0 0]) fun c17 => ?_
 refine Jo 0 ?_; rintro a18 k19 rfl
 refine Oa (AsV sl22 sz22 [vi 0] [vi 0]) fun c20 => ?_
 refine Jo 0 ?_; rintro a21 k22 rfl
 refine Oa (AsV sl22 sz22 [vi 0] [vi 0]) fun c23 => ?_
 refine Jo 0 ?_; rintro a24 k25 rfl
 refine Oa (AsV sl22 sz22 [vi 1, vi 2] [vi 1, vi 2]) fun c26 => ?_
 refine Jo 0 ?_; rintro a27 k28 rfl
 refine Oa (AsV sl40 sz40 [.slice none 0 0, .slice a21 1 k22, .slice a24 1 k25, .slice a27 2 k28] [.slice none 0 0, .slice a21 1 k22, .slice a24 1 k25, .slice a27 2 k28]) fun c29 => ?_
 refine Jo 0 ?_; rintro a30 k31 rfl
 refine Oq (Vbd st42 [vl a4 k5 (List.replicate (4 : Int).toNat (default : GNode)), .slice a18 4 k19, .slice a30 4 k31]) (Ost (Scl [9] sh42 [vl a4 k5 (List.replicate (4 : Int).toNat (default : GNode)), .slice a18 4 k19, .slice a30 4 k31]) (KS ?_))
 refine Jl [9] (Ent.freeze _ _) ?_
 refine Jl [9] (Ent.crInt _ [1, 2] _ _ rfl rfl (by intro x hx; simp only [List.mem_cons, List.not_mem_nil, or_false] at hx; rcases hx with rfl | rfl <;> (unfold i64ok; omega)) aB1) ?_
 refine Jl [0] (Ent.freeze _ _) ?_
 refine Jl [9] (Ent.crInt _ [3] _ _ rfl rfl (by intro x hx; rw [List.mem_singleton] at hx; subst hx; unfold i64ok; omega) aB1) ?_
 refine Jl [0] (Ent.freeze _ _) ?_
 refine Jl [9] (Ent.crInt _ [3] _ _ rfl rfl (by intro x hx; rw [List.mem_singleton] at hx; subst hx; unfold i64ok; omega) aB1) ?_
 refine Jl [0] (Ent.freeze _ _) ?_
 refine Jl [9, 2, 1, 0] (Ent.crOs (α := List Int) (A := [sl (.slice a9 2 k10) ([1, 2] : List Int), sl (.slice a12 1 k13) ([3] : List Int), sl (.slice a15 1 k16) ([3] : List Int)]) _ ([[1, 2], [3], [3], ([] : List Int)] : List (List Int)) _ aB1 (fun h => ⟨[.slice a9 2 k10], [.slice a12 1 k13, .slice a15 1 k16, .slice none 0 0], rfl, (fun h => ⟨_, rfl, sepAll_get (i := 0) rfl h⟩) h, ⟨[.slice a12 1 k13], [.slice a15 1 k16, .slice none 0 0], rfl, (fun h => ⟨_, rfl, sepAll_get (i := 1) rfl h⟩) h, ⟨[.slice a15 1 k16], [.slice none 0 0], rfl, (fun h => ⟨_, rfl, sepAll_get (i := 2) rfl h⟩) h, ⟨[.slice none 0 0], [], rfl, (fun _ => ⟨_, rfl, slrd_nil⟩) h, rfl⟩⟩⟩⟩)) ?_
 refine Jl [0] (Ent.freeze _ _) ?_
 refine Jl [12] (Ent.crInt _ [0] _ _ rfl rfl (by intro x hx; rw [List.mem_singleton] at hx; subst hx; unfold i64ok; omega) aB1) ?_
 refine Jl [0] (Ent.freeze _ _) ?_
 refine Jl [12] (Ent.crInt _ [0] _ _ rfl rfl (by intro x hx; rw [List.mem_singleton] at hx; subst hx; unfold i64ok; omega) aB1) ?_
 refine Jl [0] (Ent.freeze _ _) ?_
 refine Jl [12] (Ent.crInt _ [1, 2] _ _ rfl rfl (by intro x hx; simp only [List.mem_cons, List.not_mem_nil, or_false] at hx; rcases hx with rfl | rfl <;> (unfold i64ok; omega)) aB1) ?_
 refine Jl [0] (Ent.freeze _ _) ?_
 refine Jl [12, 2, 1, 0] (Ent.crOs (α := List Int) (A := [sl (.slice a21 1 k22) ([0] : List Int), sl (.slice a24 1 k25) ([0] : List Int), sl (.slice a27 2 k28) ([1, 2] : List Int)]) _ ([([] : List Int), [0], [0], [1, 2]] : List (List Int)) _ aB1 (fun h => ⟨[.slice none 0 0], [.slice a21 1 k22, .slice a24 1 k25, .slice a27 2 k28], rfl, (fun _ => ⟨_, rfl, slrd_nil⟩) h, ⟨[.slice a21 1 k22], [.slice a24 1 k25, .slice a27 2 k28], rfl, (fun h => ⟨_, rfl, sepAll_get (i := 0) rfl h⟩) h, ⟨[.slice a24 1 k25], [.slice a27 2 k28], rfl, (fun h => ⟨_, rfl, sepAll_get (i := 1) rfl h⟩) h, ⟨[.slice a27 2 k28], [], rfl, (fun h => ⟨_, rfl, sepAll_get (i := 2) rfl h⟩) h, rfl⟩⟩⟩⟩)) ?_
 refine Jl [0] (Ent.freeze _ _) ?_
 have hq := rI H; subst hq
 exact Kr (vl a4 k5 (List.replicate (4 : Int).toNat (default : GNode)), .slice a18 4 k19, .slice a30 4 k31) rfl (.cellN 15 rfl sh42 rfl (reads_Cl _ _) rfl .nil) [14, 7, 0] trivial
theorem fn64 (l : List Int) (la0 : Option Addr) (lk0 : Nat) (n : Int) (hn_0 : i64ok n) (rr : Bool) (hrr : gh_ascending l n = rr) : FT Tryd.prog 64 #[vl la0 lk0 l, vi n] [S la0 lk0 l] (fun g : Unit => True) (fun g => vb rr) (fun g => []) := by
 refine FTi Tryd.func64 fun w0 M0 F0 => ?_
 unfold i64ok at hn_0
 refine Fb 8 0 fun _ => Fo 0 fun ho2 => KS ?_
 refine Oq Va (KS ?_)
 refine Oq Vm (Oq (Vlen sl22) (Oq Vm (KS ?_)))
 refine Kl (γ := Nat × Int) (fun (r3, v9_4) => ⟨[(0, vl la0 lk0 l), (1, vi n), (7, vl la0 lk0 l), (8, vi (l.length : Int)), (9, vi v9_4)], [S la0 lk0 l], gh_ascending_L0 l n r3 v9_4 = gh_ascending_L0 l n (((l.length : Int) - 0).toNat) 0 ∧ r3 = ((l.length : Int) - v9_4).toNat ∧ (0 : Int) ≤ v9_4 ∧ v9_4 ≤ (l.length : Int) ∧ (-9223372036854775808 ≤ v9_4 ∧ v9_4 ≤ 9223372036854775807), r3⟩) (((l.length : Int) - 0).toNat, 0) [0] ⟨rfl, rfl, aM1, aM1, aM1⟩ ?_
 rintro ⟨r3, v9_4⟩ ⟨hM5, hr6, hi7, hi8, hk9⟩
 refine JJ_nx fun _ _ hL hA => ?_; dsimp only at hL hA; subst hL hA
 refine Fb 8 0 fun _ => Fo 0 fun ho11 => KS ?_
 refine Oq Vlss (KS ?_)
 refine Kc ?_ ?_
 ·intro h12
  have g13 := dt h12
  obtain ⟨r14, rfl⟩ := scc (n := r3) aM1
  refine KS ?_
  refine Oq Vm (Oq (Vi sl22 0) ?_)
  have hb15 := ok1 (i := v9_4.toNat) ho11 rng
  refine Oq (VldI sh3 0) (Oq Va (Oq Va (KS ?_)))
  refine Oq Vm (Oq Vlss (Oq Vm ?_))
  refine Js 16 ?_ ?_
  ·intro h16
   have g17 := dt h16
   refine Osk (Osk (Osk (Oq Vpt (Oq Vm (Osk (Osk (Osk (Osk (Osk ?_)))))))))
   refine Osk (Osk (Osk (Osk (Osk (Osk (Oq Vpt (KS ?_)))))))
   refine Kt (KS ?_)
   refine Oq Va (KS ?_)
   have hR18 := q2 hM5 (.ret false) (by simp only [gh_ascending_L0, h12, h16, cs4])
   have hq := q4 hrr false (by simp only [gh_ascending, h12, h16, hR18, cs4]); subst hq
   exact Kr () rfl (.tmp rfl .nil) [] trivial
  intro h16
  have g19 := df h16
  refine Oq Vm (Oq Vm (Oq Vgeq (Oq Vpf (Oq Vm ?_))))
  refine Js 21 ?_ ?_
  ·intro h20
   have g21 := dt h20
   refine Osk (Osk (Osk (Osk (Osk (Osk (Osk (Osk (Osk (Osk ?_)))))))))
   refine Osk (Oq Vpt (KS ?_))
   refine Kt (KS ?_)
   refine Oq Va (KS ?_)
   have hR22 := q2 hM5 (.ret false) (by simp only [gh_ascending_L0, h12, h16, h20, cs4])
   have hq := q4 hrr false (by simp only [gh_ascending, h12, h16, h20, hR22, cs4]); subst hq
   exact Kr () rfl (.tmp rfl .nil) [] trivial
  intro h20
  have g23 := df h20
  refine Oq Vm (Oq Vgtr (Oq Vm ?_))
  refine Js 24 ?_ ?_
  ·intro h24
   have g25 := dt h24
   refine Oq Vm (Oq Vm (Oq Vm (Oq Vsub (Oq (Vi sl22 0) ?_))))
   have hb26 := ok1 (i := ((v9_4 - 1) : Int).toNat) ho11 rng
   refine Oq (VldI sh3 0) (Oq Vleq (Oq Vpt (Oq Vpf (KS ?_))))
   refine Kc ?_ ?_
   ·intro h27
    have g28 := dt h27
    refine KS ?_
    refine Oq Va (KS ?_)
    have hR29 := q2 hM5 (.ret false) (by simp only [gh_ascending_L0, h12, h16, h20, h24, h27, cs4])
    have hq := q4 hrr false (by simp only [gh_ascending, h12, h16, h20, h24, h27, hR29, cs4]); subst hq
    exact Kr () rfl (.tmp rfl .nil) [] trivial
   intro h27
   have g30 := df h27
   refine KS ?_
   refine Oq Vadd (Oq Vm (KS ?_))
   exact Kg (r14, (v9_4 + 1)) [0] ⟨(q3 hM5 (by simp only [gh_ascending_L0, h12, h16, h20, h24, h27, cs4])), aM1, aM1, aM1, aM1⟩
  intro h24
  have g31 := df h24
  refine Osk (Osk (Osk (Osk (Osk (Osk (Osk (Oq Vpf (Oq Vpf (KS ?_)))))))))
  refine Kf (KS ?_)
  refine Oq Vadd (Oq Vm (KS ?_))
  exact Kg (r14, (v9_4 + 1)) [0] ⟨(q3 hM5 (by simp only [gh_ascending_L0, h12, h16, h20, h24, cs4])), aM1, aM1, aM1, aM1⟩
 intro h12
 have g32 := df h12
 obtain rfl : r3 = 0 := by omega
 refine Ke ?_
 have hR33 := q2 hM5 (.brk ()) (by simp only [gh_ascending_L0, h12, cs4])
 refine KS ?_
 refine Oq Va (KS ?_)
 have hq := q4 hrr true (by simp only [gh_ascending, h12, hR33, cs4]); subst hq
 exact Kr () rfl (.tmp rfl .nil) [] trivial
theorem fn53 (l : List (List Int)) (la0 : Option Addr) (lk0 : Nat) (rr : Int) (hrr : gh_count l = rr) : FT Tryd.prog 53 #[vl la0 lk0 l] [S la0 lk0 l] (fun g : Unit => i64ok rr ∧ (-1 ≤ rr ∧ rr ≤ 1024)) (fun g => vi rr) (fun g => []) := by
 refine FTi Tryd.func53 fun w0 M0 F0 => Fb 24 0 fun _ => ?_
 refine KS ?_
 refine Oq Va (KS ?_)
 refine Oq Va (KS ?_)
 refine Oq Vm (Oq (Vlen sl40) (Oq Vm (KS ?_)))
 refine Kl (γ := Nat × Int × Int) (fun (r2, edges_3, v8_4) => ⟨[(0, vl la0 lk0 l), (3, vi edges_3), (6, vl la0 lk0 l), (7, vi (l.length : Int)), (8, vi v8_4)], [S la0 lk0 l], gh_count_L0 l r2 edges_3 v8_4 = gh_count_L0 l (((l.length : Int) - 0).toNat) 0 0 ∧ r2 = ((l.length : Int) - v8_4).toNat ∧ (0 : Int) ≤ v8_4 ∧ v8_4 ≤ (l.length : Int) ∧ (-9223372036854775808 ≤ edges_3 ∧ edges_3 ≤ 9223372036854775807) ∧ (-9223372036854775808 ≤ v8_4 ∧ v8_4 ≤ 9223372036854775807) ∧ (0 ≤ edges_3 ∧ edges_3 ≤ 1024), r2⟩) (((l.length : Int) - 0).toNat, 0, 0) [0] ⟨rfl, rfl, aM1, aM1, aM1, aM1, iv0⟩ ?_
 rintro ⟨r2, edges_3, v8_4⟩ ⟨hM5, hr6, hi7, hi8, hk9, hk10, hv11⟩
 refine JJ_nx fun _ _ hL hA => ?_; dsimp only at hL hA; subst hL hA
 refine Fb 24 0 fun _ => KS ?_
 refine Oq Vlss (KS ?_)
 refine Kc ?_ ?_
 ·intro h13
  have g14 := dt h13
  obtain ⟨r15, rfl⟩ := scc (n := r2) aM1
  refine KS ?_
  refine Oq (Vi sl40 0) ?_
  refine JJ_peekL v8_4.toNat 0 rfl rng fun a16 k17 => ?_
  refine Fb 8 1 fun _ => Fo 1 fun ho19 => ?_
  refine Oq (Vld sh22 0) (Oq Va (KS ?_))
  refine Oq Vm (Oq Vm (Oq (Vlen sl22) (Oq Vadd (Oq Va (KS ?_)))))
  refine Oq Vm (Oq Vgtr (Oq Vm ?_))
  refine Js 18 ?_ ?_
  ·intro h20
   have g21 := dt h20
   refine Osk (Osk (Osk (Osk (Osk (Oq Vpt (KS ?_))))))
   refine Kt (KS ?_)
   refine Oq Va (KS ?_)
   have hR22 := q2 hM5 (.ret (-1)) (by simp only [gh_count_L0, h13, h20, cs4])
   have hq := q4 hrr (-1) (by simp only [gh_count, h13, h20, hR22, cs4]); subst hq
   exact Kr () rfl (.tmp rfl .nil) [] en
  intro h20
  have g23 := df h20
  refine Oq Vm (Oq Vm (Oq (Vlen sl40) ?_))
  refine letv (gh_ascending (l.getD v8_4.toNat []) (l.length : Int)) fun rv24 hg25 => ?_
  have hc26 := fn64 ((l.getD v8_4.toNat [])) a16 k17 ((l.length : Int)) pre rv24 hg25
  refine Oc [1] ca64 hc26 ?_
  rintro - -
  refine Oq Vnot (Oq Vpf (KS ?_))
  refine Kc ?_ ?_
  ·intro h27
   have h29 := not_true h27
   refine KS ?_
   refine Oq Va (KS ?_)
   have hR31 := q2 hM5 (.ret (-1)) (by simp only [gh_count_L0, h13, h20, h27, h29, hg25, cs4])
   have hq := q4 hrr (-1) (by simp only [gh_count, h13, h20, h27, h29, hg25, hR31, cs4]); subst hq
   exact Kr () rfl (.tmp rfl .nil) [] en
  intro h27
  have h33 := not_false h27
  refine KS ?_
  refine Oq Vadd (Oq Vm (KS ?_))
  exact Kg (r15, (edges_3 + ((l.getD v8_4.toNat []).length : Int)), (v8_4 + 1)) [2] ⟨(q3 hM5 (by simp only [gh_count_L0, h13, h20, h27, h33, hg25, cs4])), aM1, aM1, aM1, aM1, aM1, iv1⟩
 intro h13
 have g35 := df h13
 obtain rfl : r2 = 0 := by omega
 refine Ke ?_
 have hR36 := q2 hM5 (.brk edges_3) (by simp only [gh_count_L0, h13, cs4])
 refine KS ?_
 refine Oq Vm (Oq Va (KS ?_))
 have hq := q4 hrr edges_3 (by simp only [gh_count, h13, hR36, cs4]); subst hq
 exact Kr () rfl (.tmp rfl .nil) [] en
theorem fn65 (s : List Int) (sa0 : Option Addr) (sk0 : Nat) (v : Int) (hv_0 : i64ok v) (rr : Int) (hrr : sc_Index_int s v = rr) : FT Tryd.prog 65 #[vl sa0 sk0 s, vi v] [S sa0 sk0 s] (fun g : Unit => i64ok rr) (fun g => vi rr) (fun g => []) := by
 refine FTi Tryd.func65 fun w0 M0 F0 => ?_
 unfold i64ok at hv_0
 refine Fb 8 0 fun _ => Fo 0 fun ho2 => KS ?_
 refine Oq Va (KS ?_)
 refine Oq Vm (Oq (Vlen sl22) (Oq Vm (KS ?_)))
 refine Kl (γ := Nat × Int) (fun (r3, v8_4) => ⟨[(0, vl sa0 sk0 s), (1, vi v), (7, vi (s.length : Int)), (8, vi v8_4)], [S sa0 sk0 s], sc_Index_int_L0 s v r3 v8_4 = sc_Index_int_L0 s v (((s.length : Int) - 0).toNat) 0 ∧ r3 = ((s.length : Int) - v8_4).toNat ∧ (0 : Int) ≤ v8_4 ∧ v8_4 ≤ (s.length : Int) ∧ (-9223372036854775808 ≤ v8_4 ∧ v8_4 ≤ 9223372036854775807), r3⟩) (((s.length : Int) - 0).toNat, 0) [0] ⟨rfl, rfl, aM1, aM1, aM1⟩ ?_
 rintro ⟨r3, v8_4⟩ ⟨hM5, hr6, hi7, hi8, hk9⟩
 refine JJ_nx fun _ _ hL hA => ?_; dsimp only at hL hA; subst hL hA
 refine Fb 8 0 fun _ => Fo 0 fun ho11 => KS ?_
 refine Oq Vlss (KS ?_)
 refine Kc ?_ ?_
 ·intro h12
  have g13 := dt h12
  obtain ⟨r14, rfl⟩ := scc (n := r3) aM1
  refine KS ?_
  refine Oq Vm (Oq Va (KS ?_))
  refine Oq Vm (Oq Vm (Oq Vm (Oq (Vi sl22 0) ?_)))
  have hb15 := ok1 (i := v8_4.toNat) ho11 rng
  refine Oq (VldI sh3 0) (Oq Veql (KS ?_))
  refine Kc ?_ ?_
  ·intro h16
   have g17 := eq_of_beq h16
   refine KS ?_
   refine Oq Vm (Oq Va (KS ?_))
   have hR18 := q2 hM5 (.ret v8_4) (by simp only [sc_Index_int_L0, h12, h16, cs4])
   have hq := q4 hrr v8_4 (by simp only [sc_Index_int, h12, h16, hR18, cs4]); subst hq
   exact Kr () rfl (.tmp rfl .nil) [] en
  intro h16
  have g19 := ne_of_beq_false h16
  refine KS ?_
  refine Oq Vadd (Oq Vm (KS ?_))
  exact Kg (r14, (v8_4 + 1)) [0] ⟨(q3 hM5 (by simp only [sc_Index_int_L0, h12, h16, cs4])), aM1, aM1, aM1, aM1⟩
 intro h12
 have g20 := df h12
 obtain rfl : r3 = 0 := by omega
 refine Ke ?_
 have hR21 := q2 hM5 (.brk ()) (by simp only [sc_Index_int_L0, h12, cs4])
 refine KS ?_
 refine Oq Va (KS ?_)
 have hq := q4 hrr (-1) (by simp only [sc_Index_int, h12, hR21, cs4]); subst hq
 exact Kr () rfl (.tmp rfl .nil) [] en
theorem fn54 (s : List Int) (sa0 : Option Addr) (sk0 : Nat) (v : Int) (hv_0 : i64ok v) (rr : Bool) (hrr : sc_Contains_int s v = rr) : FT Tryd.prog 54 #[vl sa0 sk0 s, vi v] [S sa0 sk0 s] (fun g : Unit => True) (fun g => vb rr) (fun g => []) := by
 refine FTi Tryd.func54 fun w0 M0 F0 => ?_
 unfold i64ok at hv_0
 refine Fb 8 0 fun _ => Fo 0 fun ho2 => KS ?_
 refine Oq Va (KS ?_)
 refine Oq Vm (Oq Vm ?_)
 refine letv (sc_Index_int s v) fun rv3 hg4 => ?_
 have hc5 := fn65 s sa0 sk0 v pre rv3 hg4
 refine Oc [0] ca65 hc5 ?_
 rintro - he6
 unfold i64ok at he6
 refine Oq Vgeq (Oq Va (KS ?_))
 have hq := q4 hrr (decide (0 ≤ rv3)) (by simp only [sc_Contains_int, hg4, cs4]); subst hq
 exact Kr () rfl (.tmp rfl .nil) [] trivial
theorem fn38 (g : GGraph) (ga0 : Option Addr) (gk0 : Nat) (ga1 : Option Addr) (gk1 : Nat) (ga2 : Option Addr) (gk2 : Nat) (rr : Bool) (hrr : gh_Valid g = rr) : FT Tryd.prog 38 #[.agg #[vl ga0 gk0 g.Nodes, vl ga1 gk1 g.Succ, vl ga2 gk2 g.Pred]] [S ga0 gk0 g.Nodes, S ga1 gk1 g.Succ, S ga2 gk2 g.Pred] (fun g : Unit => True) (fun g => vb rr) (fun g => []) := by
 refine FTi Tryd.func38 fun w0 M0 F0 => Fb 32 0 fun _ => Fb 24 1 fun _ => Fb 24 2 fun _ => ?_
 refine KS ?_
 refine Oa (Ab [vl ga0 gk0 g.Nodes, vl ga1 gk1 g.Succ, vl ga2 gk2 g.Pred]) fun p4 => Oq Va (KS ?_)
 refine Oq (Vfa fo42_0 0) (Oq (VldF sh39 0) (Oq (Vlen sl39) (Oq Va (KS ?_))))
 refine Oq Vm (Oq Vlss (Oq Vm ?_))
 refine Js 14 ?_ ?_
 ·intro h5
  have g6 := dt h5
  refine Osk (Osk (Oq Vpt (Oq Vm (Osk (Osk (Osk (Osk (Osk (Oq Vpt ?_)))))))))
  refine Oq Vm (Osk (Osk (Osk (Osk (Osk (Oq Vpt (KS ?_)))))))
  refine Kt (KS ?_)
  refine Oq Va (KS ?_)
  have hq := q4 hrr false (by simp only [gh_Valid, h5, cs4]); subst hq
  exact Kr () rfl (.tmp rfl .nil) [] trivial
 intro h5
 have g7 := df h5
 refine Oq Vm (Oq Vgtr (Oq Vpf (Oq Vm ?_)))
 refine Js 18 ?_ ?_
 ·intro h8
  have g9 := dt h8
  refine Osk (Osk (Osk (Osk (Osk (Oq Vpt (Oq Vm (Osk (Osk (Osk ?_)))))))))
  refine Osk (Osk (Oq Vpt (KS ?_)))
  refine Kt (KS ?_)
  refine Oq Va (KS ?_)
  have hq := q4 hrr false (by simp only [gh_Valid, h5, h8, cs4]); subst hq
  exact Kr () rfl (.tmp rfl .nil) [] trivial
 intro h8
 have g10 := df h8
 refine Oq (Vfa fo42_1 0) (Oq (VldF sh40 0) (Oq (Vlen sl40) (Oq Vm (Oq Vneq (Oq Vpf (Oq Vm ?_))))))
 refine Js 25 ?_ ?_
 ·intro h11
  have g12 := ne_of_bne h11
  refine Osk (Osk (Osk (Osk (Osk (Oq Vpt (KS ?_))))))
  refine Kt (KS ?_)
  refine Oq Va (KS ?_)
  have hq := q4 hrr false (by simp only [gh_Valid, h5, h8, h11, cs4]); subst hq
  exact Kr () rfl (.tmp rfl .nil) [] trivial
 intro h11
 have g13 := eq_of_bne_false h11
 refine Oq (Vfa fo42_2 0) (Oq (VldF sh40 0) (Oq (Vlen sl40) (Oq Vm (Oq Vneq (Oq Vpf (KS ?_))))))
 refine Kc ?_ ?_
 ·intro h14
  have g15 := ne_of_bne h14
  refine KS ?_
  refine Oq Va (KS ?_)
  have hq := q4 hrr false (by simp only [gh_Valid, h5, h8, h11, h14, cs4]); subst hq
  exact Kr () rfl (.tmp rfl .nil) [] trivial
 intro h14
 have g16 := eq_of_bne_false h14
 refine KS ?_
 refine Oq (Vfa fo42_1 0) (Oq (VldF sh40 0) ?_)
 refine letv (gh_count g.Succ) fun rv17 hg18 => ?_
 have hc19 := fn53 g.Succ ga1 gk1 rv17 hg18
 refine Oc [2] ca53 hc19 ?_
 rintro - ⟨he20, he21⟩
 unfold i64ok at he20
 refine Oq Va (KS ?_)
 refine Oq Vm (Oq Vlss (Oq Vm ?_))
 refine Js 37 ?_ ?_
 ·intro h22
  have g23 := dt h22
  refine Osk (Osk (Osk (Osk (Osk (Oq Vpt (KS ?_))))))
  refine Kt (KS ?_)
  refine Oq Va (KS ?_)
  have hq := q4 hrr false (by simp only [gh_Valid, h5, h8, h11, h14, h22, hg18, cs4]); subst hq
  exact Kr () rfl (.tmp rfl .nil) [] trivial
 intro h22
 have g24 := df h22
 try have hct := count_rg (by assumption : gh_count g.Succ = _) h22
 refine Oq (Vfa fo42_2 0) (Oq (VldF sh40 0) ?_)
 refine letv (gh_count g.Pred) fun rv25 hg26 => ?_
 have hc27 := fn53 g.Pred ga2 gk2 rv25 hg26
 refine Oc [3] ca53 hc27 ?_
 rintro - ⟨he28, he29⟩
 unfold i64ok at he28
 refine Oq Vm (Oq Vneq (Oq Vpf (KS ?_)))
 refine Kc ?_ ?_
 ·intro h30
  have g31 := ne_of_bne h30
  refine KS ?_
  refine Oq Va (KS ?_)
  have hq := q4 hrr false (by simp only [gh_Valid, h5, h8, h11, h14, h22, h30, hg18, hg26, cs4]); subst hq
  exact Kr () rfl (.tmp rfl .nil) [] trivial
 intro h30
 have g32 := eq_of_bne_false h30
 refine KS ?_
 refine Oq (Vfa fo42_1 0) (Oq (VldF sh40 0) (Oq (Vlen sl40) (Oq Vm (KS ?_))))
 refine Kl (γ := Nat × Int) (fun (r33, v47_34) => ⟨[(1, p4), (45, vl ga1 gk1 g.Succ), (46, vi (g.Succ.length : Int)), (47, vi v47_34)], [pv p4 [vl ga0 gk0 g.Nodes, vl ga1 gk1 g.Succ, vl ga2 gk2 g.Pred], S ga0 gk0 g.Nodes, S ga1 gk1 g.Succ, S ga2 gk2 g.Pred], gh_Valid_L0 g r33 v47_34 = gh_Valid_L0 g (((g.Succ.length : Int) - 0).toNat) 0 ∧ r33 = ((g.Succ.length : Int) - v47_34).toNat ∧ (0 : Int) ≤ v47_34 ∧ v47_34 ≤ (g.Succ.length : Int) ∧ (-9223372036854775808 ≤ v47_34 ∧ v47_34 ≤ 9223372036854775807), r33⟩) (((g.Succ.length : Int) - 0).toNat, 0) [0, 1, 2, 3] ⟨rfl, rfl, aM1, aM1, aM1⟩ ?_
 rintro ⟨r33, v47_34⟩ ⟨hM35, hr36, hi37, hi38, hk39⟩
 refine JJ_nx fun _ _ hL hA => ?_; dsimp only at hL hA; subst hL hA
 refine Fb 32 1 fun _ => Fb 24 2 fun _ => Fb 24 3 fun _ => KS ?_
 refine Oq Vlss (KS ?_)
 refine Kc ?_ ?_
 ·intro h43
  have g44 := dt h43
  obtain ⟨r45, rfl⟩ := scc (n := r33) aM1
  refine KS ?_
  refine Oq Vm (Oq (Vi sl40 2) ?_)
  refine JJ_peekL v47_34.toNat 2 rfl rng fun a46 k47 => ?_
  refine Fb 8 1 fun _ => Fo 1 fun ho49 => ?_
  refine Oq (Vld sh22 0) (Oq Va (Oq Va (KS ?_)))
  refine Oq Vm (Oq (Vlen sl22) (Oq Vm (KS ?_)))
  refine Kl (γ := Nat × Int) (fun (r50, v54_51) => ⟨[(1, p4), (45, vl ga1 gk1 g.Succ), (46, vi (g.Succ.length : Int)), (47, vi v47_34), (5, vi v47_34), (52, vl a46 k47 (g.Succ.getD v47_34.toNat [])), (53, vi ((g.Succ.getD v47_34.toNat []).length : Int)), (54, vi v54_51)], [S a46 k47 ((g.Succ.getD v47_34.toNat []) : List Int), pv p4 [vl ga0 gk0 g.Nodes, vl ga1 gk1 g.Succ, vl ga2 gk2 g.Pred], S ga0 gk0 g.Nodes, S ga1 gk1 g.Succ, S ga2 gk2 g.Pred], gh_Valid_L1 g v47_34 (g.Succ.getD v47_34.toNat []) r50 v54_51 = gh_Valid_L1 g v47_34 (g.Succ.getD v47_34.toNat []) (((((g.Succ.getD v47_34.toNat []).length : Int) : Int) - 0).toNat) 0 ∧ r50 = ((((g.Succ.getD v47_34.toNat []).length : Int) : Int) - v54_51).toNat ∧ (0 : Int) ≤ v54_51 ∧ (v54_51 ≤ ((g.Succ.getD v47_34.toNat []).length : Int) ∨ v54_51 = 0) ∧ (-9223372036854775808 ≤ v54_51 ∧ v54_51 ≤ 9223372036854775807), r50⟩) (((((g.Succ.getD v47_34.toNat []).length : Int) : Int) - 0).toNat, 0) [1, 2, 3, 4, 5] ⟨rfl, rfl, aM1, (.inr rfl), aM1⟩ ?_
  rintro ⟨r50, v54_51⟩ ⟨hM52, hr53, hi54, hi55, hk56⟩
  refine JJ_nx fun _ _ hL hA => ?_; dsimp only at hL hA; subst hL hA
  refine Fb 8 0 fun _ => Fo 0 fun ho58 => Fb 32 2 fun _ => Fb 24 3 fun _ => Fb 24 4 fun _ => KS ?_
  refine Oq Vlss (KS ?_)
  refine Kc ?_ ?_
  ·intro h62
   have g63 := dt h62
   have hbr := hct v47_34.toNat v54_51.toNat aM1
   obtain ⟨r64, rfl⟩ := scc (n := r50) aM1
   refine KS ?_
   refine Oq (Vi sl22 0) ?_
   have hb65 := ok1 (i := v54_51.toNat) ho58 rng
   refine Oq (VldI sh3 0) (Oq Va (KS ?_))
   refine Oq (Vfa fo42_2 1) (Oq (VldF sh40 1) (Oq Vm (Oq (Vi sl40 4) ?_)))
   refine JJ_peekL (((g.Succ.getD v47_34.toNat []).getD v54_51.toNat 0) : Int).toNat 4 rfl rng fun a66 k67 => ?_
   refine Fb 8 1 fun _ => Fo 1 fun ho69 => ?_
   refine Oq (Vld sh22 0) (Oq Vm ?_)
   refine letv (sc_Contains_int (g.Pred.getD (((g.Succ.getD v47_34.toNat []).getD v54_51.toNat 0) : Int).toNat []) v47_34) fun rv70 hg71 => ?_
   have hc72 := fn54 ((g.Pred.getD (((g.Succ.getD v47_34.toNat []).getD v54_51.toNat 0) : Int).toNat [])) a66 k67 v47_34 pre rv70 hg71
   refine Oc [1] ca54 hc72 ?_
   rintro - -
   refine Oq Vnot (KS ?_)
   refine Kc ?_ ?_
   ·intro h73
    have h75 := not_true h73
    refine KS ?_
    refine Oq Va (KS ?_)
    have hR77 := q2 hM52 (.ret false) (by simp only [gh_Valid_L1, h62, h73, h75, hg71, cs4])
    have hR78 := q2 hM35 (.ret false) (by simp only [gh_Valid_L0, h43, h62, h73, h75, hg71, hR77, cs4])
    have hq := q4 hrr false (by simp only [gh_Valid, h5, h8, h11, h14, h22, h30, h43, h62, h73, h75, hg18, hg26, hg71, hR77, hR78, cs4]); subst hq
    exact Kr () rfl (.tmp rfl .nil) [] trivial
   intro h73
   have h80 := not_false h73
   refine KS ?_
   refine Oq Vadd (Oq Vm (KS ?_))
   exact Kg (r64, (v54_51 + 1)) [2, 3, 4, 5, 6] ⟨(q3 hM52 (by simp only [gh_Valid_L1, h62, h73, h80, hg71, cs4])), aM1, aM1, aM1, aM1⟩
  intro h62
  have g82 := df h62
  obtain rfl : r50 = 0 := by omega
  refine Ke ?_
  have hR83 := q2 hM52 (.brk ()) (by simp only [gh_Valid_L1, h62, cs4])
  refine KS ?_
  refine Oq Vadd (Oq Vm (KS ?_))
  exact Kg (r45, (v47_34 + 1)) [1, 2, 3, 4] ⟨(q3 hM35 (by simp only [gh_Valid_L0, h43, h62, hR83, cs4])), aM1, aM1, aM1, aM1⟩
 intro h43
 have g84 := df h43
 obtain rfl : r33 = 0 := by omega
 refine Ke ?_
 have hR85 := q2 hM35 (.brk ()) (by simp only [gh_Valid_L0, h43, cs4])
 refine KS ?_
 refine Oq Va (KS ?_)
 have hq := q4 hrr true (by simp only [gh_Valid, h5, h8, h11, h14, h22, h30, h43, hg18, hg26, hR85, cs4]); subst hq
 exact Kr () rfl (.tmp rfl .nil) [] trivial
theorem fn22 (g : GGraph) (ga0 : Option Addr) (gk0 : Nat) (ga1 : Option Addr) (gk1 : Nat) (ga2 : Option Addr) (gk2 : Nat) (at_ : List Cpx) (at_a0 : Option Addr) (at_k0 : Nat) (rr : List Gedge) (hrr : layout_edges g at_ = .ret rr) : FT Tryd.prog 22 #[.agg #[vl ga0 gk0 g.Nodes, vl ga1 gk1 g.Succ, vl ga2 gk2 g.Pred], vl at_a0 at_k0 at_] [S ga0 gk0 g.Nodes, S ga1 gk1 g.Succ, S ga2 gk2 g.Pred, S at_a0 at_k0 at_] (fun g : Value => True) (fun g => g) (fun g => [os g rr]) := by
 refine FTi Tryd.func22 fun w0 M0 F0 => Fb 32 0 fun _ => Fb 24 1 fun _ => Fb 24 2 fun _ => Fb 16 3 fun _ => ?_
 have hx0 := lrn rr; have H := hrr; unfold layout_edges at H
 refine KS ?_
 refine Oa (Ab [vl ga0 gk0 g.Nodes, vl ga1 gk1 g.Succ, vl ga2 gk2 g.Pred]) fun p5 => Oq Va (KS ?_)
 refine Oq (VldA sh42 0) ?_
 refine lvH H fun rv6 hg7 H => ?_
 have hc8 := fn38 g ga0 gk0 ga1 gk1 ga2 gk2 rv6 hg7
 refine Oc [1, 2, 3] ca38 hc8 ?_
 rintro - -
 refine Oq Vnot (Oq Vm ?_)
 refine pF H hx0 fun h9 H => ?_
 refine JsF 13 h9 ?_
 have h11 := not_false h9
 refine Oq Vm (Oq (Vlen sl30) (Oq (Vfa fo42_0 0) (Oq (VldF sh39 0) (Oq (Vlen sl39) (Oq Vneq (Oq Vpf (Oq Vm ?_)))))))
 refine pF H hx0 fun h13 H => ?_
 refine JsF 21 h13 ?_
 have g14 := eq_of_bne_false h13
 refine Oq Vm ?_
 refine lbH H hx0 fun rv15 hg16 H => ?_
 have hc17 := fn18 at_ at_a0 at_k0 rv15 hg16
 refine Oc [4] ca18 hc17 ?_
 rintro - -
 refine Oq Vnot (Oq Vpf (KS ?_))
 refine pF H hx0 fun h18 H => ?_
 refine KcF h18 ?_
 have h20 := not_false h18
 refine KS ?_
 refine Oq Va (KS ?_)
 refine Oq (Vfa fo42_1 0) (Oq (VldF sh40 0) (Oq (Vlen sl40) (Oq Vm (KS ?_))))
 refine Jl [] (Ent.osNil (α := Gedge)) ?_
 refine llH H hx0 fun X32 hX33 hx34 HL35 => ?_
 refine Kl (γ := Nat × List Gedge × Int × Option Addr × Nat) (fun (r22, l_23, v29_24, a25, k26) => ⟨[(1, vl at_a0 at_k0 at_), (5, vl a25 k26 l_23), (27, vl ga1 gk1 g.Succ), (28, vi (g.Succ.length : Int)), (29, vi v29_24)], [O a25 k26 l_23, S ga1 gk1 g.Succ, S at_a0 at_k0 at_], layout_edges_L0 g at_ r22 l_23 v29_24 = X32 ∧ r22 = ((g.Succ.length : Int) - v29_24).toNat ∧ (0 : Int) ≤ v29_24 ∧ v29_24 ≤ (g.Succ.length : Int) ∧ (-9223372036854775808 ≤ v29_24 ∧ v29_24 ≤ 9223372036854775807), r22⟩) (((g.Succ.length : Int) - 0).toNat, [], 0, none, 0) [0, 2, 4] ⟨hX33, rfl, aM1, aM1, aM1⟩ ?_
 rintro ⟨r22, l_23, v29_24, a25, k26⟩ ⟨hM27, hr28, hi29, hi30, hk31⟩
 refine JJ_nx fun _ _ hL hA => ?_; dsimp only at hL hA; subst hL hA
 refine Fb 32 0 fun _ => Fb 24 1 fun _ => Fb 16 2 fun _ => KS ?_
 refine Oq Vlss (KS ?_)
 refine Kc ?_ ?_
 ·intro h39
  have g40 := dt h39
  obtain ⟨r41, rfl⟩ := scc (n := r22) aM1
  have H := hM27; (try dsimp only at H); rw [layout_edges_L0] at H
  refine KS ?_
  refine Oq Vm ?_
  refine pC H hx34 fun hc42 H => ?_
  refine Oq (Vi sl40 1) ?_
  refine JJ_peekL v29_24.toNat 1 rfl rng fun a43 k44 => ?_
  refine Fb 8 1 fun _ => Fo 1 fun ho46 => ?_
  refine Oq (Vld sh22 0) (Oq Va (Oq Va (KS ?_)))
  refine Oq Vm (Oq (Vlen sl22) (Oq Vm (KS ?_)))
  refine pC H hx34 fun hc57 H => ?_
  refine llH H hx34 fun X58 hX59 hx60 HL61 => ?_
  refine Kl (γ := Nat × List Gedge × Int × Option Addr × Nat) (fun (r47, l_48, v36_49, a50, k51) => ⟨[(1, vl at_a0 at_k0 at_), (5, vl a50 k51 l_48), (27, vl ga1 gk1 g.Succ), (28, vi (g.Succ.length : Int)), (29, vi v29_24), (6, vi v29_24), (34, vl a43 k44 (g.Succ.getD v29_24.toNat [])), (35, vi ((g.Succ.getD v29_24.toNat []).length : Int)), (36, vi v36_49)], [O a50 k51 l_48, S a43 k44 ((g.Succ.getD v29_24.toNat []) : List Int), S ga1 gk1 g.Succ, S at_a0 at_k0 at_], layout_edges_L1 at_ v29_24 (g.Succ.getD v29_24.toNat []) r47 l_48 v36_49 = X58 ∧ r47 = ((((g.Succ.getD v29_24.toNat []).length : Int) : Int) - v36_49).toNat ∧ (0 : Int) ≤ v36_49 ∧ (v36_49 ≤ ((g.Succ.getD v29_24.toNat []).length : Int) ∨ v36_49 = 0) ∧ (-9223372036854775808 ≤ v36_49 ∧ v36_49 ≤ 9223372036854775807), r47⟩) (((((g.Succ.getD v29_24.toNat []).length : Int) : Int) - 0).toNat, l_23, 0, a25, k26) [2, 1, 2, 3] ⟨hX59, rfl, aM1, (.inr rfl), aM1⟩ ?_
  rintro ⟨r47, l_48, v36_49, a50, k51⟩ ⟨hM52, hr53, hi54, hi55, hk56⟩
  refine JJ_nx fun _ _ hL hA => ?_; dsimp only at hL hA; subst hL hA
  refine Fb 32 0 fun _ => Fb 8 1 fun _ => Fo 1 fun ho64 => Fb 24 2 fun _ => Fb 16 3 fun _ => KS ?_
  refine Oq Vlss (KS ?_)
  refine Kc ?_ ?_
  ·intro h67
   have g68 := dt h67
   obtain ⟨r69, rfl⟩ := scc (n := r47) aM1
   have H := hM52; (try dsimp only at H); rw [layout_edges_L1] at H
   refine KS ?_
   refine pC H hx60 fun hc70 H => ?_
   refine Oq (Vi sl22 1) ?_
   have hb71 := ok1 (i := v36_49.toNat) ho64 rng
   refine Oq (VldI sh3 1) (Oq Va (KS ?_))
   refine Oq Vm (Oq Vm ?_)
   refine pC H hx60 fun hc72 H => ?_
   refine Oq (Vi sl30 3) (Oq (VldCx sh37 3) (Oq (VneC (a := (at_.getD v29_24.toNat default)) (b := (Cpx.mk 13830554455654793216#64 0#64))) (Oq Vm ?_)))
   refine pT H hx60 fun h73 H => ?_
   refine JsT 45 h73 ?_
   have h75 := not_true h73
   refine Oq Vm (Oq Vm ?_)
   refine pC H hx60 fun hc77 H => ?_
   refine Oq (Vi sl30 3) (Oq (VldCx sh37 3) (Oq (VneC (a := (at_.getD (((g.Succ.getD v29_24.toNat []).getD v36_49.toNat 0) : Int).toNat default)) (b := (Cpx.mk 13830554455654793216#64 0#64))) (Oq Vpt (KS ?_))))
   refine pT H hx60 fun h78 H => ?_
   refine KcT h78 ?_
   have h80 := not_true h78
   refine JK_drawK [0, 0, 0, 6, 14, 0, 0, 96, 224, 510, 1022, 2047, 4095] fmix ?_
   refine Dv [] Vm (Dv [] Vm (Dv [] Vm (Dv [3] (Vi sl30 0) (Dv [3] (VldCx sh37 0) (Dv [] Vm (Dv [] Vm (Dv [3] (Vi sl30 0) (Dv [3] (VldCx sh37 0) (Dv [] (Vbd st63 [cxv (at_.getD v29_24.toNat default), cxv (at_.getD (((g.Succ.getD v29_24.toNat []).getD v36_49.toNat 0) : Int).toNat default)]) ?_)))))))))
   refine Dx [] [] [0] (fun G => (G.g 10 0)) [fun G => Cr (G.g 10 0) 1 [cxv (at_.getD v29_24.toNat default), cxv (at_.getD (((g.Succ.getD v29_24.toNat []).getD v36_49.toNat 0) : Int).toNat default)]] (fun G => xA (AsV sl60 sz60 [.agg #[cxv (at_.getD v29_24.toNat default), cxv (at_.getD (((g.Succ.getD v29_24.toNat []).getD v36_49.toNat 0) : Int).toNat default)]] [cxv (at_.getD v29_24.toNat default), cxv (at_.getD (((g.Succ.getD v29_24.toNat []).getD v36_49.toNat 0) : Int).toNat default)])) ?_
   refine pC H hx60 fun hc83 H => ?_
   refine pC H hx60 fun hc84 H => ?_
   refine pC H hx60 fun hc85 H => ?_
   have hn87 := la l_48 ([(Gedge.mk (at_.getD v29_24.toNat default) (at_.getD (((g.Succ.getD v29_24.toNat []).getD v36_49.toNat 0) : Int).toNat default))] : List Gedge)
   refine Dx [0, 4] [0, 4] [0] (fun G => (G.g 11 0)) [fun G => os (G.g 11 0) ((l_48 ++ [(Gedge.mk (at_.getD v29_24.toNat default) (at_.getD (((g.Succ.getD v29_24.toNat []).getD v36_49.toNat 0) : Int).toNat default))]) : List Gedge)] (fun G => xp [1] rfl (Ent.cr1 (α := Gedge) (A := []) _ (Gedge.mk (at_.getD v29_24.toNat default) (at_.getD (((g.Succ.getD v29_24.toNat []).getD v36_49.toNat 0) : Int).toNat default)) _ aB1 (fun h => ⟨rfl, trivial⟩)) (xA (ApO [1, 0] sl60 sl60 sz60))) (Dg [] (fun G => (G.g 11 0)) (fun G => Va) ?_)
   refine Dn ⟨by kernel_rfl, fun G => ?_⟩
   refine Jw2 [(1, vl at_a0 at_k0 at_), (27, vl ga1 gk1 g.Succ), (28, vi (g.Succ.length : Int)), (29, vi v29_24), (6, vi v29_24), (34, vl a43 k44 (g.Succ.getD v29_24.toNat [])), (35, vi ((g.Succ.getD v29_24.toNat []).length : Int)), (36, vi v36_49), (5, (G.g 11 0))] [1, 2, 3] [os (G.g 11 0) ((l_48 ++ [(Gedge.mk (at_.getD v29_24.toNat default) (at_.getD (((g.Succ.getD v29_24.toNat []).getD v36_49.toNat 0) : Int).toNat default))]) : List Gedge)] ?_
   generalize G.g 11 0 = c86
   refine Jo 3 ?_; rintro a88 k89 rfl
   refine Fb 32 3 fun _ => KS ?_
   refine Oq Vadd (Oq Vm (KS ?_))
   refine pC H hx60 fun hc91 H => ?_
   exact Kg (r69, (l_48 ++ [(Gedge.mk (at_.getD v29_24.toNat default) (at_.getD (((g.Succ.getD v29_24.toNat []).getD v36_49.toNat 0) : Int).toNat default))]), (v36_49 + 1), a88, k89) [3, 0, 1, 2] ⟨H, aM1, aM1, aM1, aM1⟩
  intro h67
  have g92 := df h67
  obtain rfl : r47 = 0 := by omega
  have H := hM52; (try dsimp only at H); rw [layout_edges_L1] at H
  refine Ke ?_
  have H := llB H HL61
  refine KS ?_
  refine Oq Vadd (Oq Vm (KS ?_))
  refine pC H hx34 fun hc93 H => ?_
  exact Kg (r41, l_48, (v29_24 + 1), a50, k51) [0, 1, 2] ⟨H, aM1, aM1, aM1, aM1⟩
 intro h39
 have g94 := df h39
 obtain rfl : r22 = 0 := by omega
 have H := hM27; (try dsimp only at H); rw [layout_edges_L0] at H
 refine Ke ?_
 have H := llB H HL35
 refine KS ?_
 refine Oq Vm (Oq Va (KS ?_))
 have hq := rI H; subst hq
 exact Kr (vl a25 k26 l_23) rfl (.tmp rfl .nil) [0] trivial
theorem fn41 (s : List Gedge) (sa0 : Option Addr) (sk0 : Nat) (fF : FuncId) (fC : List Value) (fp : Gedge → LR Unit Bool) (fA : List SP) (hfc : callable Tryd.prog fF = true) (hfF : ∀ x ∈ s, ∀ r, fp x = .ret r → FT Tryd.prog fF ([(.agg #[cxv x.from_, cxv x.to_] : Value)] ++ fC).toArray ([] ++ [pAll fA]) (fun _ : Unit => True) (fun _ => .bool r) (fun _ => [])) (rr : Int) (hrr : sc_IndexFunc_edge s fp = .ret rr) : FT Tryd.prog 41 #[vl sa0 sk0 s, .func (.func fF) #[] fC.toArray] [S sa0 sk0 s, pAll fA] (fun g : Unit => i64ok rr) (fun g => vi rr) (fun g => []) := by
 refine FTi Tryd.func41 fun w0 M0 F0 => Fb 32 0 fun _ => ?_
 have hx0 := lrn rr; have H := hrr; unfold sc_IndexFunc_edge at H
 refine KS ?_
 refine Oq Va (KS ?_)
 refine Oq Vm (Oq (Vlen sl60) (Oq Vm (KS ?_)))
 refine llH H hx0 fun X9 hX10 hx11 HL12 => ?_
 refine Kl (γ := Nat × Int) (fun (r2, v8_3) => ⟨[(0, vl sa0 sk0 s), (1, .func (.func fF) #[] fC.toArray), (7, vi (s.length : Int)), (8, vi v8_3)], [S sa0 sk0 s, pAll fA], sc_IndexFunc_edge_L0 s fp r2 v8_3 = X9 ∧ r2 = ((s.length : Int) - v8_3).toNat ∧ (0 : Int) ≤ v8_3 ∧ v8_3 ≤ (s.length : Int) ∧ (-9223372036854775808 ≤ v8_3 ∧ v8_3 ≤ 9223372036854775807), r2⟩) (((s.length : Int) - 0).toNat, 0) [0, 1] ⟨hX10, rfl, aM1, aM1, aM1⟩ ?_
 rintro ⟨r2, v8_3⟩ ⟨hM4, hr5, hi6, hi7, hk8⟩
 refine JJ_nx fun _ _ hL hA => ?_; dsimp only at hL hA; subst hL hA
 refine Fb 32 0 fun _ => KS ?_
 refine Oq Vlss (KS ?_)
 refine Kc ?_ ?_
 ·intro h14
  have g15 := dt h14
  obtain ⟨r16, rfl⟩ := scc (n := r2) aM1
  have H := hM4; (try dsimp only at H); rw [sc_IndexFunc_edge_L0] at H
  refine KS ?_
  refine Oq Vm (Oq Va (KS ?_))
  refine Oq Vm (Oq Vm (Oq Vm ?_))
  refine pC H hx11 fun hc17 H => ?_
  refine Oq (Vi sl60 0) ?_
  refine JJ_peek_Gedge v8_3.toNat 0 rfl rng ?_
  refine Oq (VldA sh63 0) ?_
  refine pC H hx11 fun hc20 H => ?_
  refine lbH H hx11 fun rv18 hg19 H => ?_
  refine JO_call [2] rfl rfl rfl (OpC.clo (asv := [(.agg #[cxv ((s.getD v8_3.toNat default).from_), cxv ((s.getD v8_3.toNat default).to_)] : Value)] ++ fC) rfl rfl hfc rfl (by simp)) (hfF (s.getD v8_3.toNat default) (getD_mem rng)   rv18 hg19) rfl fun _ _ => ?_
  refine KS ?_
  refine pF H hx11 fun h21 H => ?_
  refine KcF h21 ?_
  refine KS ?_
  refine Oq Vadd (Oq Vm (KS ?_))
  refine pC H hx11 fun hc23 H => ?_
  exact Kg (r16, (v8_3 + 1)) [1, 2] ⟨H, aM1, aM1, aM1, aM1⟩
 intro h14
 have g24 := df h14
 obtain rfl : r2 = 0 := by omega
 have H := hM4; (try dsimp only at H); rw [sc_IndexFunc_edge_L0] at H
 refine Ke ?_
 have H := llB H HL12
 refine KS ?_
 refine Oq Va (KS ?_)
 have hq := rI H; subst hq
 exact Kr () rfl (.tmp rfl .nil) [] en
theorem fn24 (s : List Gedge) (sa0 : Option Addr) (sk0 : Nat) (delF : FuncId) (delC : List Value) (delp : Gedge → LR Unit Bool) (delA : List SP) (hdelc : callable Tryd.prog delF = true) (hdelF : ∀ x ∈ s, ∀ r, delp x = .ret r → FT Tryd.prog delF ([(.agg #[cxv x.from_, cxv x.to_] : Value)] ++ delC).toArray ([] ++ [pAll delA]) (fun _ : Unit => True) (fun _ => .bool r) (fun _ => [])) (rr : List Gedge) (hrr : sc_DeleteFunc_edge s delp = .ret rr) : FT Tryd.prog 24 #[vl sa0 sk0 s, .func (.func delF) #[] delC.toArray] [O sa0 sk0 s, pAll delA] (fun g : Value => True) (fun g => g) (fun g => [sl g rr]) := by
 refine FTi Tryd.func24 fun w0 M0 F0 => Fb 32 0 fun _ => ?_
 have hx0 := lrn rr; have H := hrr; unfold sc_DeleteFunc_edge at H
 refine KS ?_
 refine Oq Va (KS ?_)
 refine Oq Vm (Oq Vm ?_)
 refine lbH H hx0 fun rv2 hg3 H => ?_
 refine Oc [0, 0] ca41 (FT_borrow (A := _) (fun _ _ h => by cases h) (FT_ent (Ent.take (is := [0, 1]) rfl) (fn41 s sa0 sk0 delF delC delp delA hdelc hdelF rv2 hg3))) ?_ (ht := rfl)
 rintro - he4
 unfold i64ok at he4
 refine Oq Va (KS ?_)
 refine Oq Vm (Oq Veql (KS ?_))
 refine pT H hx0 fun h5 H => ?_
 refine KcT h5 ?_
 have g6 := eq_of_beq h5
 refine KS ?_
 refine Oq Vm (Oq Va (KS ?_))
 refine Jl [0] (Ent.freeze _ _) ?_
 have hq := rI H; subst hq
 exact Kr (vl sa0 sk0 s) rfl (.tmp rfl .nil) [0] trivial
theorem fn25 (e : Gedge) (rr : Bool) (hrr : layout_Crossings_1 e = .ret rr) : FT Tryd.prog 25 #[.agg #[cxv e.from_, cxv e.to_]] [] (fun g : Unit => True) (fun g => vb rr) (fun g => []) := by
 refine FTi Tryd.func25 fun w0 M0 F0 => ?_
 have hx0 := lrn rr; have H := hrr; unfold layout_Crossings_1 at H
 refine KS ?_
 refine Oa (Ab [cxv e.from_, cxv e.to_]) fun p1 => Oq Va (KS ?_)
 refine Oq (Vfa fo63_1 0) (Oq (VldF sh37 0) (Oq (Vim (a := e.to_)) (Oq (Vfa fo63_0 0) (Oq (VldF sh37 0) (Oq (Vim (a := e.from_)) ?_)))))
 refine pC H hx0 fun hc2 H => ?_
 refine Oq (VaddF (a := (Flo.mk e.from_.im)) (b := (Flo.mk 4607182418800017408#64)) (h := hc2)) (Oq (VneF (a := (Flo.mk e.to_.im)) (b := (fadd (Flo.mk e.from_.im) (Flo.mk 4607182418800017408#64)))) (Oq Va (KS ?_)))
 have hq := rI H; subst hq
 exact Kr () rfl (.tmp rfl .nil) [] trivial
theorem fn14 (g : GGraph) (ga0 : Option Addr) (gk0 : Nat) (ga1 : Option Addr) (gk1 : Nat) (ga2 : Option Addr) (gk2 : Nat) (at_ : List Cpx) (at_a0 : Option Addr) (at_k0 : Nat) (rr : Int) (hrr : layout_Crossings g at_ = .ret rr) : FT Tryd.prog 14 #[.agg #[vl ga0 gk0 g.Nodes, vl ga1 gk1 g.Succ, vl ga2 gk2 g.Pred], vl at_a0 at_k0 at_] [S ga0 gk0 g.Nodes, S ga1 gk1 g.Succ, S ga2 gk2 g.Pred, S at_a0 at_k0 at_] (fun g : Unit => i64ok rr) (fun g => vi rr) (fun g => []) := by
 refine FTi Tryd.func14 fun w0 M0 F0 => Fb 32 0 fun _ => Fb 24 1 fun _ => Fb 24 2 fun _ => Fb 16 3 fun _ => ?_
 have hx0 := lrn rr; have H := hrr; unfold layout_Crossings at H
 refine KS ?_
 refine Oa (Ab [vl ga0 gk0 g.Nodes, vl ga1 gk1 g.Succ, vl ga2 gk2 g.Pred]) fun p5 => Oq Va (KS ?_)
 refine Oq (VldA sh42 0) (Oq Vm ?_)
 refine lbH H hx0 fun rv7 hg8 H => ?_
 have hc9 := fn22 g ga0 gk0 ga1 gk1 ga2 gk2 at_ at_a0 at_k0 rv7 hg8
 refine Oc [1, 2, 3, 4] ca22 hc9 ?_
 rintro c6 -
 refine Jo 0 ?_; rintro a10 k11 rfl
 refine Fb 32 0 fun _ => ?_
 refine JJ_ent (Ent.pall [] rfl rfl) ?_
 refine lbH H hx0 fun rv14 hg15 H => ?_
 have hc16 := fn24 rv7 a10 k11 25 [] (fun x => layout_Crossings_1 x) [] ca25 (fun x hx  r hr => FT_pall (A1 := _) (fn25 x    r hr)) rv14 hg15
 refine Oc [1, 0] ca24 hc16 ?_
 rintro c13 -
 refine Jo 0 ?_; rintro a17 k18 rfl
 refine Fb 32 0 fun _ => ?_
 refine Oq Va (KS ?_)
 refine Oq Va (KS ?_)
 refine Oq Vm (Oq (Vlen sl60) (Oq Vm (KS ?_)))
 refine llH H hx0 fun X27 hX28 hx29 HL30 => ?_
 refine Kl (γ := Nat × Int) (fun (r20, v17_21) => ⟨[(5, vl a17 k18 rv14), (6, vi 0), (15, vl a17 k18 rv14), (16, vi (rv14.length : Int)), (17, vi v17_21)], [S a17 k18 rv14, pAll []], layout_Crossings_L0 rv14 rv14 r20 v17_21 = X27 ∧ r20 = ((rv14.length : Int) - v17_21).toNat ∧ (0 : Int) ≤ v17_21 ∧ v17_21 ≤ (rv14.length : Int) ∧ (-9223372036854775808 ≤ v17_21 ∧ v17_21 ≤ 9223372036854775807), r20⟩) (((rv14.length : Int) - 0).toNat, 0) [0, 1] ⟨hX28, rfl, aM1, aM1, aM1⟩ ?_
 rintro ⟨r20, v17_21⟩ ⟨hM22, hr23, hi24, hi25, hk26⟩
 refine JJ_nx fun _ _ hL hA => ?_; dsimp only at hL hA; subst hL hA
 refine Fb 32 0 fun _ => KS ?_
 refine Oq Vlss (KS ?_)
 refine Kc ?_ ?_
 ·intro h32
  have g33 := dt h32
  obtain ⟨r34, rfl⟩ := scc (n := r20) aM1
  have H := hM22; (try dsimp only at H); rw [layout_Crossings_L0] at H
  refine KS ?_
  refine pC H hx29 fun hc35 H => ?_
  refine Oq (Vi sl60 0) ?_
  refine JJ_peek_Gedge v17_21.toNat 0 rfl rng ?_
  refine Oq (VldA sh63 0) (Oa (Al ze63 [cxv (Cpx.mk 0#64 0#64), cxv (Cpx.mk 0#64 0#64)]) fun p36 => Ost (Scl [0] sh63 [cxv ((rv14.getD v17_21.toNat default).from_), cxv ((rv14.getD v17_21.toNat default).to_)]) (KS ?_))
  refine Oq Vm (Oq (Vlen sl60) (Oq Vm (KS ?_)))
  refine pC H hx29 fun hc44 H => ?_
  refine llH H hx29 fun X45 hX46 hx47 HL48 => ?_
  refine Kl (γ := Nat × Int) (fun (r37, v23_38) => ⟨[(5, vl a17 k18 rv14), (6, vi 0), (15, vl a17 k18 rv14), (16, vi (rv14.length : Int)), (17, vi v17_21), (8, p36), (21, vl a17 k18 rv14), (22, vi (rv14.length : Int)), (23, vi v23_38)], [Cl p36 [cxv ((rv14.getD v17_21.toNat default).from_), cxv ((rv14.getD v17_21.toNat default).to_)], S a17 k18 rv14, pAll []], layout_Crossings_L1 ((rv14.getD v17_21.toNat default).from_) ((rv14.getD v17_21.toNat default).to_) rv14 r37 v23_38 = X45 ∧ r37 = ((rv14.length : Int) - v23_38).toNat ∧ (0 : Int) ≤ v23_38 ∧ v23_38 ≤ (rv14.length : Int) ∧ (-9223372036854775808 ≤ v23_38 ∧ v23_38 ≤ 9223372036854775807), r37⟩) (((rv14.length : Int) - 0).toNat, 0) [0, 1, 2] ⟨hX46, rfl, aM1, aM1, aM1⟩ ?_
  rintro ⟨r37, v23_38⟩ ⟨hM39, hr40, hi41, hi42, hk43⟩
  refine JJ_nx fun _ _ hL hA => ?_; dsimp only at hL hA; subst hL hA
  refine Fb 32 1 fun _ => KS ?_
  refine Oq Vlss (KS ?_)
  refine Kc ?_ ?_
  ·intro h50
   have g51 := dt h50
   obtain ⟨r52, rfl⟩ := scc (n := r37) aM1
   have H := hM39; (try dsimp only at H); rw [layout_Crossings_L1] at H
   refine KS ?_
   refine pC H hx47 fun hc53 H => ?_
   refine Oq (Vi sl60 1) ?_
   refine JJ_peek_Gedge v23_38.toNat 1 rfl rng ?_
   refine Oq (VldA sh63 0) (Oa (Al ze63 [cxv (Cpx.mk 0#64 0#64), cxv (Cpx.mk 0#64 0#64)]) fun p54 => Ost (Scl [0] sh63 [cxv ((rv14.getD v23_38.toNat default).from_), cxv ((rv14.getD v23_38.toNat default).to_)]) (KS ?_))
   refine Oq (Vfa fo63_0 2) (Oq (VldF sh37 2) (Oq (Vim (a := (rv14.getD v17_21.toNat default).from_)) (Oq (Vfa fo63_0 0) (Oq (VldF sh37 0) (Oq (Vim (a := (rv14.getD v23_38.toNat default).from_)) (Oq (VeqF (a := (Flo.mk ((rv14.getD v17_21.toNat default).from_).im)) (b := (Flo.mk ((rv14.getD v23_38.toNat default).from_).im))) (Oq Vm ?_)))))))
   refine pC H hx47 fun hc56 H => ?_
   refine JsH 34 H ?_ ?_
   ·intro h55 H
    refine Oq (Vfa fo63_0 2) (Oq (VldF sh37 2) (Oq (Vre (a := (rv14.getD v17_21.toNat default).from_)) (Oq (Vfa fo63_0 0) (Oq (VldF sh37 0) (Oq (Vre (a := (rv14.getD v23_38.toNat default).from_)) (Oq (VltF (a := (Flo.mk ((rv14.getD v17_21.toNat default).from_).re)) (b := (Flo.mk ((rv14.getD v23_38.toNat default).from_).re))) (Oq Vpt (Oq Vm ?_))))))))
    refine JsH 43 H ?_ ?_
    ·intro h58 H
     refine Oq (Vfa fo63_1 2) (Oq (VldF sh37 2) (Oq (Vre (a := (rv14.getD v17_21.toNat default).to_)) (Oq (Vfa fo63_1 0) (Oq (VldF sh37 0) (Oq (Vre (a := (rv14.getD v23_38.toNat default).to_)) (Oq (VgtF (a := (Flo.mk ((rv14.getD v17_21.toNat default).to_).re)) (b := (Flo.mk ((rv14.getD v23_38.toNat default).to_).re))) (Oq Vpt (KS ?_))))))))
     refine pF H hx47 fun h60 H => ?_
     refine KcF h60 ?_
     refine KS ?_
     refine Oq Vadd (Oq Vm (KS ?_))
     refine pC H hx47 fun hc62 H => ?_
     exact Kg (r52, (v23_38 + 1)) [2, 2, 3] ⟨H, aM1, aM1, aM1, aM1⟩
    intro h58 H
    refine Osk (Osk (Osk (Osk (Osk (Osk (Osk (Oq Vpf (KS ?_))))))))
    refine Kf (KS ?_)
    refine Oq Vadd (Oq Vm (KS ?_))
    refine pC H hx47 fun hc64 H => ?_
    exact Kg (r52, (v23_38 + 1)) [2, 2, 3] ⟨H, aM1, aM1, aM1, aM1⟩
   intro h55 H
   refine Osk (Osk (Osk (Osk (Osk (Osk (Osk (Oq Vpf (Oq Vm (Osk ?_)))))))))
   refine Osk (Osk (Osk (Osk (Osk (Osk (Oq Vpf (KS ?_)))))))
   refine Kf (KS ?_)
   refine Oq Vadd (Oq Vm (KS ?_))
   refine pC H hx47 fun hc66 H => ?_
   exact Kg (r52, (v23_38 + 1)) [2, 2, 3] ⟨H, aM1, aM1, aM1, aM1⟩
  intro h50
  have g67 := df h50
  obtain rfl : r37 = 0 := by omega
  have H := hM39; (try dsimp only at H); rw [layout_Crossings_L1] at H
  refine Ke ?_
  have H := llB H HL48
  refine KS ?_
  refine Oq Vadd (Oq Vm (KS ?_))
  refine pC H hx29 fun hc68 H => ?_
  exact Kg (r34, (v17_21 + 1)) [1, 2] ⟨H, aM1, aM1, aM1, aM1⟩
 intro h32
 have g69 := df h32
 obtain rfl : r20 = 0 := by omega
 have H := hM22; (try dsimp only at H); rw [layout_Crossings_L0] at H
 refine Ke ?_
 have H := llB H HL30
 refine KS ?_
 refine Oq Vm (Oq Va (KS ?_))
 have hq := rI H; subst hq
 exact Kr () rfl (.tmp rfl .nil) [] en
theorem fn31 (g : GGraph) (ga0 : Option Addr) (gk0 : Nat) (ga1 : Option Addr) (gk1 : Nat) (ga2 : Option Addr) (gk2 : Nat) (root : Int) (hroot_0 : i64ok root) (rr : Int) (hrr : layout_check g root = rr) : FT Tryd.prog 31 #[.agg #[vl ga0 gk0 g.Nodes, vl ga1 gk1 g.Succ, vl ga2 gk2 g.Pred], vi root] [S ga0 gk0 g.Nodes, S ga1 gk1 g.Succ, S ga2 gk2 g.Pred] (fun g : Unit => i64ok rr) (fun g => vi rr) (fun g => []) := by
 refine FTi Tryd.func31 fun w0 M0 F0 => ?_
 unfold i64ok at hroot_0
 refine Fb 32 0 fun _ => Fb 24 1 fun _ => Fb 24 2 fun _ => KS ?_
 refine Oa (Ab [vl ga0 gk0 g.Nodes, vl ga1 gk1 g.Succ, vl ga2 gk2 g.Pred]) fun p4 => Oq Va (KS ?_)
 refine Oq (VldA sh42 0) ?_
 refine letv (gh_Valid g) fun rv5 hg6 => ?_
 have hc7 := fn38 g ga0 gk0 ga1 gk1 ga2 gk2 rv5 hg6
 refine Oc [1, 2, 3] ca38 hc7 ?_
 rintro - -
 refine Oq Vnot (Oq Va (KS ?_))
 refine Kc ?_ ?_
 ·intro h8
  have h10 := not_true h8
  refine KS ?_
  refine Oq Va (KS ?_)
  have hq := q4 hrr 1 (by simp only [layout_check, h8, h10, hg6, cs4]); subst hq
  exact Kr () rfl (.tmp rfl .nil) [] en
 intro h8
 have h13 := not_false h8
 refine KS ?_
 refine Oq Vm (Oq Vlss (Oq Vm ?_))
 refine Js 12 ?_ ?_
 ·intro h15
  have g16 := dt h15
  refine Osk (Osk (Osk (Osk (Osk (Oq Vpt (Oq Va (KS ?_)))))))
  refine Kt (KS ?_)
  refine Oq Va (KS ?_)
  have hq := q4 hrr 9 (by simp only [layout_check, h8, h13, h15, hg6, cs4]); subst hq
  exact Kr () rfl (.tmp rfl .nil) [] en
 intro h15
 have g17 := df h15
 refine Oq Vm (Oq (Vfa fo42_0 0) (Oq (VldF sh39 0) (Oq (Vlen sl39) (Oq Vgeq (Oq Vpf (Oq Va (KS ?_)))))))
 refine Kc ?_ ?_
 ·intro h18
  have g19 := dt h18
  refine KS ?_
  refine Oq Va (KS ?_)
  have hq := q4 hrr 9 (by simp only [layout_check, h8, h13, h15, h18, hg6, cs4]); subst hq
  exact Kr () rfl (.tmp rfl .nil) [] en
 intro h18
 have g20 := df h18
 refine KS ?_
 refine Oq Va (KS ?_)
 have hq := q4 hrr 0 (by simp only [layout_check, h8, h13, h15, h18, hg6, cs4]); subst hq
 exact Kr () rfl (.tmp rfl .nil) [] en
theorem fn57 (x : BitVec 64) (y : BitVec 64) (rr : BitVec 64 × BitVec 64) (hrr : bits_Mul64 x y = rr) : FT Tryd.prog 57 #[u64 x, u64 y] [] (fun g : Unit => True) (fun g => .tuple #[u64 rr.1, u64 rr.2]) (fun g => []) := by
 refine FTi Tryd.func57 fun w0 M0 F0 => ?_
 refine KS ?_
 refine Oq Va (Oq Va (KS ?_))
 refine Oq Vm (Oq (VandU (b := 4294967295#64)) (Oq Va (KS ?_)))
 refine Oq Vm (Oq VshrU (Oq Va (KS ?_)))
 refine Oq Vm (Oq (VandU (b := 4294967295#64)) (Oq Va (KS ?_)))
 refine Oq Vm (Oq VshrU (Oq Va (KS ?_)))
 refine Oq Vm (Oq Vm (Oq VmulU (Oq Va (KS ?_))))
 refine Oq Vm (Oq Vm (Oq VmulU (Oq Vm (Oq VshrU (Oq VaddU (Oq Va (KS ?_)))))))
 refine Oq Vm (Oq (VandU (b := 4294967295#64)) (Oq Va (KS ?_)))
 refine Oq Vm (Oq VshrU (Oq Va (KS ?_)))
 refine Oq Vm (Oq Vm (Oq Vm (Oq VmulU (Oq VaddU (Oq Va (KS ?_))))))
 refine Oq Vm (Oq Vm (Oq VmulU (Oq Vm (Oq VaddU (Oq Vm (Oq VshrU (Oq VaddU (Oq Va (KS ?_)))))))))
 refine Oq Vm (Oq Vm (Oq VmulU (Oq Va (KS ?_))))
 have hq := q4 hrr (((((x >>> (((32#64).toNat : Int)).toNat) * (y >>> (((32#64).toNat : Int)).toNat)) + ((((x >>> (((32#64).toNat : Int)).toNat) * (y &&& 4294967295#64)) + (((x &&& 4294967295#64) * (y &&& 4294967295#64)) >>> (((32#64).toNat : Int)).toNat)) >>> (((32#64).toNat : Int)).toNat)) + ((((((x >>> (((32#64).toNat : Int)).toNat) * (y &&& 4294967295#64)) + (((x &&& 4294967295#64) * (y &&& 4294967295#64)) >>> (((32#64).toNat : Int)).toNat)) &&& 4294967295#64) + ((x &&& 4294967295#64) * (y >>> (((32#64).toNat : Int)).toNat))) >>> (((32#64).toNat : Int)).toNat)), (x * y)) (by simp only [bits_Mul64, cs4]); subst hq
 exact Kr () rfl (.tmp rfl (.tmp rfl .nil)) [] trivial
theorem fn45 (x : BitVec 64) (y : BitVec 64) (rr : BitVec 64 × BitVec 64) (hrr : bits_Mul x y = rr) : FT Tryd.prog 45 #[u64 x, u64 y] [] (fun g : Unit => True) (fun g => .tuple #[u64 rr.1, u64 rr.2]) (fun g => []) := by
 refine FTi Tryd.func45 fun w0 M0 F0 => ?_
 refine KS ?_
 refine Oq Va (Oq Va (KS ?_))
 refine Kf (KS ?_)
 refine Oq Vm (Oq Vm ?_)
 refine letv (bits_Mul64 x y) fun rv1 hg2 => ?_
 have hc3 := fn57 x y rv1 hg2
 refine Oc [] ca57 hc3 ?_
 rintro - -
 refine Oq Vm (Oq Vx (Oq Vx (Oq Va (Oq Va (KS ?_)))))
 refine Oq Vm (Oq Vm (Oq Va (Oq Va (KS ?_))))
 have hq := q4 hrr (rv1.1, rv1.2) (by simp only [bits_Mul, hg2, cs4]); subst hq
 exact Kr () rfl (.tmp rfl (.tmp rfl .nil)) [] trivial
theorem fn32 (x : List Cpx) (xa0 : Option Addr) (xk0 : Nat) (count : Int) (hcount_0 : i64ok count) (hc0 : x.length = 1 ∧ 0 ≤ count ∧ count ≤ 1000) (rr : List Cpx) (hrr : sc_Repeat_complex128 x count = rr) : FT Tryd.prog 32 #[vl xa0 xk0 x, vi count] [S xa0 xk0 x] (fun g : Value => ((rr.length : Int) = count)) (fun g => g) (fun g => [os g rr]) := by
 refine FTi Tryd.func32 fun w0 M0 F0 => ?_
 unfold i64ok at hcount_0
 refine Fb 16 0 fun _ => KS ?_
 refine Oq Va (KS ?_)
 refine Oq Vm (Oq Vlss (KS ?_))
 refine Kc ?_ ?_
 ·intro h2
  have g3 := dt h2
  exfalso; omega
 intro h2
 have g4 := df h2
 refine KS ?_
 refine Oq Vm (Oq (Vlen sl30) (Oq (VcU un3 un68) (Oq Vm (Oq (VcU un3 un68) ?_))))
 refine letv (bits_Mul (BitVec.ofInt 64 (x.length : Int)) (BitVec.ofInt 64 count)) fun rv5 hg6 => ?_
 obtain ⟨hml1, hml2⟩ := Mul_1 hg6 hc0
 have hc7 := fn45 ((BitVec.ofInt 64 (x.length : Int))) ((BitVec.ofInt 64 count)) rv5 hg6
 refine Oc [] ca45 hc7 ?_
 rintro - -
 refine Oq Vm (Oq Vx (Oq Vx (Oq Va (Oq Va (KS ?_)))))
 refine Oq Vm (Oq (Vgtr (a := (rv5.1.toNat : Int)) (b := 0)) (Oq Vm ?_))
 refine Js 23 ?_ ?_
 ·intro h8
  have g9 := dt h8
  exfalso; omega
 intro h8
 have g10 := df h8
 refine Oq Vm (Oq (Vgtr (a := (rv5.2.toNat : Int)) (b := 9223372036854775807)) (Oq Vpf (KS ?_)))
 refine Kc ?_ ?_
 ·intro h11
  have g12 := dt h11
  exfalso; omega
 intro h11
 have g13 := df h11
 refine KS ?_
 refine Oq Vm (Oq (VcN un68 un3) (Oa (Amk (α := Cpx) sl30 sz30 (default : Cpx) zrd_Cpx) fun c14 => ?_))
 refine Jo 0 ?_; rintro a15 k16 rfl
 refine Fb 16 0 fun _ => ?_
 have hn18 := List.length_replicate (n := ((rv5.2.toNat : Int) : Int).toNat) (a := ((default : Cpx) : Cpx))
 refine Oq Va (KS ?_)
 refine Oq Vm (Oq Vm (Oa (OpA.frame [0, 0] rfl (OpA.copyS (α := Cpx) rfl rfl rfl sl30 rfl)) fun u19 => ?_))
 have hn20 : (x.take (List.replicate ((rv5.2.toNat : Int) : Int).toNat (default : Cpx)).length ++ (List.replicate ((rv5.2.toNat : Int) : Int).toNat (default : Cpx)).drop x.length).length = (List.replicate ((rv5.2.toNat : Int) : Int).toNat (default : Cpx)).length := len_copy _ _
 have hb21 : Nat.min x.length (List.replicate ((rv5.2.toNat : Int) : Int).toNat (default : Cpx)).length ≤ x.length := Nat.min_le_left _ _
 refine Oq Va (KS ?_)
 refine Fl 0 fun hn22 => ?_; (try unfold vl); rw [show Value.slice a15 ((List.replicate ((rv5.2.toNat : Int) : Int).toNat (default : Cpx)).length) k16 = Value.slice a15 (((x.take (List.replicate ((rv5.2.toNat : Int) : Int).toNat (default : Cpx)).length ++ (List.replicate ((rv5.2.toNat : Int) : Int).toNat (default : Cpx)).drop x.length) : List Cpx).length) k16 from by rw [hn22]]
 have hterm32 : sc_Repeat_complex128_L0 (count.toNat + 2) (x.take (List.replicate ((rv5.2.toNat : Int) : Int).toNat (default : Cpx)).length ++ (List.replicate ((rv5.2.toNat : Int) : Int).toNat (default : Cpx)).drop x.length) (Nat.min x.length (List.replicate ((rv5.2.toNat : Int) : Int).toNat (default : Cpx)).length : Int) ≠ LR.oof := (Rep_t0 hc0.1 aM1 (by first | assumption | omega))
 refine Kl (γ := Nat × List Cpx × Int × Option Addr × Nat) (fun (r23, newslice_24, n_25, a26, k27) => ⟨[(7, vl a26 k27 newslice_24), (8, vi n_25)], [O a26 k27 newslice_24], sc_Repeat_complex128_L0 r23 newslice_24 n_25 = sc_Repeat_complex128_L0 (count.toNat + 2) (x.take (List.replicate ((rv5.2.toNat : Int) : Int).toNat (default : Cpx)).length ++ (List.replicate ((rv5.2.toNat : Int) : Int).toNat (default : Cpx)).drop x.length) (Nat.min x.length (List.replicate ((rv5.2.toNat : Int) : Int).toNat (default : Cpx)).length : Int) ∧ (-9223372036854775808 ≤ n_25 ∧ n_25 ≤ 9223372036854775807) ∧ (newslice_24.length = count.toNat) ∧ (0 ≤ n_25 ∧ n_25 ≤ count ∧ (count = 0 ∨ 1 ≤ n_25)), r23⟩) ((count.toNat + 2), (x.take (List.replicate ((rv5.2.toNat : Int) : Int).toNat (default : Cpx)).length ++ (List.replicate ((rv5.2.toNat : Int) : Int).toNat (default : Cpx)).drop x.length), (Nat.min x.length (List.replicate ((rv5.2.toNat : Int) : Int).toNat (default : Cpx)).length : Int), a15, k16) [0] ⟨rfl, aM1, iv0, (Rep_i hc0.1 aM1)⟩ ?_
 rintro ⟨r23, newslice_24, n_25, a26, k27⟩ ⟨hM28, hk29, hv30, hv31⟩
 refine JJ_nx fun _ _ hL hA => ?_; dsimp only at hL hA; subst hL hA
 refine Fb 16 0 fun _ => ?_
 rcases r23 with _ | r23
 ·exact absurd (hM28.symm.trans rfl) hterm32
 refine KS ?_
 refine Oq Vm (Oq Vm (Oq (Vlen sl30) (Oq Vlss (KS ?_))))
 refine Kc ?_ ?_
 ·intro h34
  have g35 := dt h34
  refine KS ?_
  refine JK_drawK [0, 0, 0, 6, 0, 0, 48, 126, 255, 511] fmix ?_
  refine Dv [] Vm (Dv [] Vm (Dv [] Vm (Dv [0] (VslQ sl30 0 (n_25.toNat)) (Dv [] Vm (Dv [] Vm (Dv [0] (VslP sl30 0 (n_25.toNat)) ?_))))))
  have hn37 := dbl_len newslice_24 (n_25.toNat) rng
  refine Dx [0] [0] [0] (fun G => vi ((min (n_25.toNat) (newslice_24.length - (n_25.toNat)) : Nat) : Int)) [fun G => os (vl a26 k27 newslice_24) (dbl newslice_24 (n_25.toNat))] (fun G => xA (Adbl [0] sl30 (n_25.toNat))) (Dv [] Vadd (Dv [] Va ?_))
  refine Dn ⟨by kernel_rfl, fun G => ?_⟩
  refine Jw2 [(7, vl a26 k27 newslice_24), (8, vi (n_25 + ((min (n_25.toNat) (newslice_24.length - (n_25.toNat)) : Nat) : Int)))] [] [os (vl a26 k27 newslice_24) (dbl newslice_24 (n_25.toNat))] ?_
  refine KS ?_
  refine Fl 0 fun hn38 => ?_; (try unfold vl); rw [show Value.slice a26 newslice_24.length k27 = Value.slice a26 ((dbl newslice_24 (n_25.toNat)).length) k27 from by rw [hn38]]
  exact Kg (r23, (dbl newslice_24 (n_25.toNat)), (n_25 + ((min (n_25.toNat) (newslice_24.length - (n_25.toNat)) : Nat) : Int)), a26, k27) [0] ⟨(q3 hM28 (by simp only [sc_Repeat_complex128_L0, h34, cs4])), aM1, iv1, aM1⟩
 intro h34
 have g39 := df h34
 refine Ke ?_
 have hR40 := q2 hM28 (.brk newslice_24) (by simp only [sc_Repeat_complex128_L0, h34, cs4])
 refine KS ?_
 refine Oq Vm (Oq Va (KS ?_))
 have hq := q4 hrr newslice_24 (by simp only [sc_Repeat_complex128, h2, h8, h11, h34, hg6, hR40, cs4]); subst hq
 exact Kr (vl a26 k27 newslice_24) rfl (.tmp rfl .nil) [0] en
theorem fn66 (data : List Int) (dataa0 : Option Addr) (datak0 : Nat) (a : Int) (b : Int) (cmpF : FuncId) (cmpC : List Value) (cmpp : Int → Int → Int) (cmpA : List SP) (ha_0 : i64ok a) (hb_0 : i64ok b) (hcmpc : callable Tryd.prog cmpF = true) (hcmpF : ∀ x0 x1, i64ok x0 → i64ok x1 → x0 ∈ data → x1 ∈ data → FT Tryd.prog cmpF ([vi x0, vi x1] ++ cmpC).toArray ([] ++ [pAll cmpA]) (fun _ : Unit => i64ok (cmpp x0 x1)) (fun _ => vi (cmpp x0 x1)) (fun _ => [])) (ha0 : 0 ≤ a ∧ a ≤ b ∧ b ≤ (data.length : Int) ∧ b - a ≤ 12) (rr : List Int) (hrr : sc_insertionSortCmpFunc_int data a b cmpp = rr) : FT Tryd.prog 66 #[vl dataa0 datak0 data, vi a, vi b, .func (.func cmpF) #[] cmpC.toArray] [O dataa0 datak0 data, pAll cmpA] (fun g : Unit => (rr.length = data.length)) (fun g => .tuple #[]) (fun g => [os (vl dataa0 datak0 data) rr]) := by
 refine FTi Tryd.func66 fun w0 M0 F0 => ?_
 unfold i64ok at ha_0 hb_0
 refine Fb 8 0 fun _ => Fo 0 fun ho2 => KS ?_
 refine Oq Vm (Oq Vadd (Oq Va (KS ?_)))
 refine Kl (γ := Nat × List Int × Int) (fun (r3, data_4, i_5) => ⟨[(0, vl dataa0 datak0 data), (1, vi a), (2, vi b), (3, .func (.func cmpF) #[] cmpC.toArray), (8, vi i_5)], [os (vl dataa0 datak0 data) data_4, pAll cmpA], sc_insertionSortCmpFunc_int_L0 a cmpp r3 data_4 i_5 = sc_insertionSortCmpFunc_int_L0 a cmpp (((b : Int) - (a + 1)).toNat) data (a + 1) ∧ r3 = ((b : Int) - i_5).toNat ∧ ((a + 1) : Int) ≤ i_5 ∧ (i_5 ≤ b ∨ i_5 = (a + 1)) ∧ (-9223372036854775808 ≤ i_5 ∧ i_5 ≤ 9223372036854775807) ∧ (∀ y ∈ data_4, y ∈ data), r3⟩) (((b : Int) - (a + 1)).toNat, data, (a + 1)) [0, 0] ⟨rfl, rfl, aM1, (.inr rfl), aM1, (by first | assumption | exact fun y h => h)⟩ ?_
 rintro ⟨r3, data_4, i_5⟩ ⟨hM6, hr7, hi8, hi9, hk10, hv11⟩
 refine JJ_nx fun _ _ hL hA => ?_; dsimp only at hL hA; subst hL hA
 refine Fb 8 0 fun _ => Fo 0 fun ho13 => Fl 0 fun hn14 => ?_
 refine KS ?_
 refine Oq Vm (Oq Vm (Oq Vlss (KS ?_)))
 refine Kc ?_ ?_
 ·intro h15
  have g16 := dt h15
  obtain ⟨r17, rfl⟩ := scc (n := r3) aM1
  refine KS ?_
  refine Oq Vm (Oq Va (KS ?_))
  refine Kl (γ := Nat × List Int × Int) (fun (r18, data_19, j_20) => ⟨[(0, vl dataa0 datak0 data), (1, vi a), (2, vi b), (3, .func (.func cmpF) #[] cmpC.toArray), (8, vi i_5), (9, vi j_20)], [os (vl dataa0 datak0 data) data_19, pAll cmpA], sc_insertionSortCmpFunc_int_L1 cmpp r18 data_19 j_20 = sc_insertionSortCmpFunc_int_L1 cmpp (((i_5 : Int) - a).toNat) data_4 i_5 ∧ r18 = ((j_20 : Int) - a).toNat ∧ j_20 ≤ (i_5 : Int) ∧ (-9223372036854775808 ≤ j_20 ∧ j_20 ≤ 9223372036854775807) ∧ (∀ y ∈ data_19, y ∈ data), r18⟩) (((i_5 : Int) - a).toNat, data_4, i_5) [0, 0] ⟨rfl, rfl, aM1, aM1, (by first | assumption | exact fun y h => h)⟩ ?_
  rintro ⟨r18, data_19, j_20⟩ ⟨hM21, hr22, hi23, hk24, hv25⟩
  refine JJ_nx fun _ _ hL hA => ?_; dsimp only at hL hA; subst hL hA
  refine Fb 8 0 fun _ => Fo 0 fun ho27 => Fl 0 fun hn28 => ?_
  refine KS ?_
  refine JK_drawK [0, 0, 3, 7, 15, 15, 15, 111, 239, 15, 15, 1039, 3599, 7695, 16383, 32767, 65535] fmix ?_
  refine Dv [] Vm (Dv [] Vm (Dv [] Vgtr ?_))
  refine bool_split (decide (a < j_20)) ?_ ?_
  ·intro h29
   have g30 := dt h29
   obtain ⟨r31, rfl⟩ := scc (n := r18) aM1
   refine Db h29 [] Vm (Dv [] Vm (Dv [] Vm (Dv [] Vm (Dv [0] (Vi sl22 0) ?_))))
   have hb32 := ok1 (i := j_20.toNat) ho27 rng
   refine Dv [0] (VldI sh3 0) (Dv [] Vm (Dv [] Vm (Dv [] Vsub (Dv [0] (Vi sl22 0) ?_))))
   have hb33 := ok1 (i := ((j_20 - 1) : Int).toNat) ho27 rng
   refine Dv [0] (VldI sh3 0) (Dx [1] [] [1, 0] (fun G => vi (cmpp (data_19.getD j_20.toNat 0) (data_19.getD ((j_20 - 1) : Int).toNat 0))) [fun G => SP.fact (i64ok (cmpp (data_19.getD j_20.toNat 0) (data_19.getD ((j_20 - 1) : Int).toNat 0)))] (fun G => xE (asv := [(vi (data_19.getD j_20.toNat 0) : Value), (vi (data_19.getD ((j_20 - 1) : Int).toNat 0) : Value)] ++ cmpC) [0] hcmpc rfl rfl rfl (by simp) rfl (hcmpF (data_19.getD j_20.toNat 0) (data_19.getD ((j_20 - 1) : Int).toNat 0)  pre pre ((by assumption : ∀ y ∈ _, y ∈ data) _ (getD_mem rng)) ((by assumption : ∀ y ∈ _, y ∈ data) _ (getD_mem rng)))) (Dv [] Vlss (Dv [] Vpt ?_)))
   refine Dn ⟨by kernel_rfl, fun G => ?_⟩
   refine Jw2 [(0, vl dataa0 datak0 data), (1, vi a), (2, vi b), (3, .func (.func cmpF) #[] cmpC.toArray), (8, vi i_5), (9, vi j_20), (34, vb (decide ((cmpp (data_19.getD j_20.toNat 0) (data_19.getD ((j_20 - 1) : Int).toNat 0)) < 0)))] [0, 1] [SP.fact (i64ok (cmpp (data_19.getD j_20.toNat 0) (data_19.getD ((j_20 - 1) : Int).toNat 0)))] ?_
   refine Jf 2 rfl ?_; rintro he34
   unfold i64ok at he34
   refine Jk [0, 0] ?_
   refine Kc ?_ ?_
   ·intro h35
    have g36 := dt h35
    refine KS ?_
    refine JK_drawK [0, 0, 0, 0, 8, 0, 0, 64, 224, 480, 0, 0, 3072, 7168, 16355, 32739, 65535, 131071] fmix ?_
    refine Dv [] Vm (Dv [] Vm (Dv [] Vm (Dv [] Vm (Dv [] Vsub (Dv [] Vm (Dv [] Vm (Dv [] Vsub (Dv [0] (Vi sl22 0) ?_))))))))
    have hb37 := ok1 (i := ((j_20 - 1) : Int).toNat) ho27 rng
    refine Dv [0] (VldI sh3 0) (Dv [] Vm (Dv [] Vm (Dv [0] (Vi sl22 0) ?_)))
    have hb38 := ok1 (i := j_20.toNat) ho27 rng
    refine Dv [0] (VldI sh3 0) (Dv [0] (Vi sl22 0) (Dx0 [0] [0] [0] [fun G => os (vl dataa0 datak0 data) (data_19.set j_20.toNat (data_19.getD ((j_20 - 1) : Int).toNat 0))] (fun G => xS (SoI [0] sh3)) (Dv [2] (Vi sl22 0) (Dx0 [2] [2] [0] [fun G => os (vl dataa0 datak0 data) ((data_19.set j_20.toNat (data_19.getD ((j_20 - 1) : Int).toNat 0)).set ((j_20 - 1) : Int).toNat (data_19.getD j_20.toNat 0))] (fun G => xS (SoI [0] sh3)) ?_))))
    refine Dn ⟨by kernel_rfl, fun G => ?_⟩
    refine Jw2 [(0, vl dataa0 datak0 data), (1, vi a), (2, vi b), (3, .func (.func cmpF) #[] cmpC.toArray), (8, vi i_5), (9, vi j_20)] [1] [os (vl dataa0 datak0 data) ((data_19.set j_20.toNat (data_19.getD ((j_20 - 1) : Int).toNat 0)).set ((j_20 - 1) : Int).toNat (data_19.getD j_20.toNat 0))] ?_
    refine KS ?_
    refine Oq Vm (Oq Vsub (Oq Va (KS ?_)))
    exact Kg (r31, ((data_19.set j_20.toNat (data_19.getD ((j_20 - 1) : Int).toNat 0)).set ((j_20 - 1) : Int).toNat (data_19.getD j_20.toNat 0)), (j_20 - 1)) [1, 0] ⟨(q3 hM21 (by simp only [sc_insertionSortCmpFunc_int_L1, h29, h35, cs4])), aM1, aM1, aM1, (by first | assumption | exact mem_swap (by assumption) rng rng)⟩
   intro h35
   have g39 := df h35
   refine Ke ?_
   have hR40 := q2 hM21 data_19 (by simp only [sc_insertionSortCmpFunc_int_L1, h29, h35, cs4])
   refine KS ?_
   refine Oq Vm (Oq Vadd (Oq Va (KS ?_)))
   exact Kg (r17, data_19, (i_5 + 1)) [0, 0] ⟨(q3 hM6 (by simp only [sc_insertionSortCmpFunc_int_L0, h15, h29, h35, hR40, cs4])), aM1, aM1, aM1, aM1, (by first | assumption | exact mem_swap (by assumption) rng rng)⟩
  intro h29
  have g41 := df h29
  obtain rfl : r18 = 0 := by omega
  refine Db h29 [] Vm (Ds (Ds (Ds (Ds (Ds (Ds (Ds (Ds (Ds ?_)))))))))
  refine Ds (Ds (Ds (Dv [] Vpf ?_)))
  refine Dn ⟨by kernel_rfl, fun G => ?_⟩
  refine Jw2 [(0, vl dataa0 datak0 data), (1, vi a), (2, vi b), (3, .func (.func cmpF) #[] cmpC.toArray), (8, vi i_5), (9, vi j_20), (34, vb false)] [0, 1] [] ?_
  refine Kf ?_
  refine Ke ?_
  have hR42 := q2 hM21 data_19 (by simp only [sc_insertionSortCmpFunc_int_L1, h29, cs4])
  refine KS ?_
  refine Oq Vm (Oq Vadd (Oq Va (KS ?_)))
  exact Kg (r17, data_19, (i_5 + 1)) [0, 0] ⟨(q3 hM6 (by simp only [sc_insertionSortCmpFunc_int_L0, h15, h29, hR42, cs4])), aM1, aM1, aM1, aM1, (by first | assumption | exact mem_swap (by assumption) rng rng)⟩
 intro h15
 have g43 := df h15
 obtain rfl : r3 = 0 := by omega
 refine Ke ?_
 have hR44 := q2 hM6 data_4 (by simp only [sc_insertionSortCmpFunc_int_L0, h15, cs4])
 refine Fl 0 fun hn45 => ?_
 have hq := q4 hrr data_4 (by simp only [sc_insertionSortCmpFunc_int, h15, hR44, cs4]); subst hq
 exact Kz () rfl .nil [0] en
theorem fn58 (data : List Int) (dataa0 : Option Addr) (datak0 : Nat) (a : Int) (b : Int) (limit : Int) (cmpF : FuncId) (cmpC : List Value) (cmpp : Int → Int → Int) (cmpA : List SP) (ha_0 : i64ok a) (hb_0 : i64ok b) (hlimit_0 : i64ok limit) (hcmpc : callable Tryd.prog cmpF = true) (hcmpF : ∀ x0 x1, i64ok x0 → i64ok x1 → x0 ∈ data → x1 ∈ data → FT Tryd.prog cmpF ([vi x0, vi x1] ++ cmpC).toArray ([] ++ [pAll cmpA]) (fun _ : Unit => i64ok (cmpp x0 x1)) (fun _ => vi (cmpp x0 x1)) (fun _ => [])) (ha0 : 0 ≤ a ∧ a ≤ b ∧ b ≤ (data.length : Int) ∧ b - a ≤ 12) (rr : List Int) (hrr : sc_pdqsortCmpFunc_int data a b limit cmpp = rr) : FT Tryd.prog 58 #[vl dataa0 datak0 data, vi a, vi b, vi limit, .func (.func cmpF) #[] cmpC.toArray] [O dataa0 datak0 data, pAll cmpA] (fun g : Unit => (rr.length = data.length)) (fun g => .tuple #[]) (fun g => [os (vl dataa0 datak0 data) rr]) := by
 refine FTi Tryd.func58 fun w0 M0 F0 => ?_
 unfold i64ok at ha_0 hb_0 hlimit_0
 refine Fb 8 0 fun _ => Fo 0 fun ho2 => KS ?_
 refine Oq Va (KS ?_)
 refine Oq Va (KS ?_)
 have hterm5 : sc_pdqsortCmpFunc_int_L0 data a b cmpp 1 ≠ LR.oof := (by unfold sc_pdqsortCmpFunc_int_L0; intro h; simp only [Bool.cond_eq_ite] at h; (repeat' split at h) <;> cases h)
 refine Kl (γ := Nat) (fun r3 => ⟨[(0, vl dataa0 datak0 data), (1, vi a), (2, vi b), (3, vi limit), (4, .func (.func cmpF) #[] cmpC.toArray), (10, vb true), (11, vb true)], [O dataa0 datak0 data, pAll cmpA], sc_pdqsortCmpFunc_int_L0 data a b cmpp r3 = sc_pdqsortCmpFunc_int_L0 data a b cmpp 1, r3⟩) 1 [0, 0] rfl ?_
 rintro r3 hM4
 refine JJ_nx fun _ _ hL hA => ?_; dsimp only at hL hA; subst hL hA
 refine Fb 8 0 fun _ => Fo 0 fun ho7 => ?_
 rcases r3 with _ | r3
 ·exact absurd (hM4.symm.trans rfl) hterm5
 refine KS ?_
 refine Oq Vm (Oq Vm (Oq Vsub (Oq Va (KS ?_))))
 refine Oq Vm (Oq Vleq (KS ?_))
 refine Kc ?_ ?_
 ·intro h8
  have g9 := dt h8
  refine KS ?_
  refine Oq Vm (Oq Vm (Oq Vm (Oq Vm ?_)))
  refine letv (sc_insertionSortCmpFunc_int data a b cmpp) fun rv10 hg11 => ?_
  have hc12 := fn66 data dataa0 datak0 a b cmpF cmpC cmpp cmpA pre pre hcmpc hcmpF pre rv10 hg11
  refine Oc [0, 0] ca66 hc12 ?_
  rintro - he13
  refine Fb 8 0 fun _ => Fo 0 fun ho15 => KS ?_
  refine Fl 0 fun hn16 => ?_
  have hR17 := q2 hM4 (.ret rv10) (by simp only [sc_pdqsortCmpFunc_int_L0, h8, hg11, cs4])
  have hq := q4 hrr rv10 (by simp only [sc_pdqsortCmpFunc_int, h8, hg11, hR17, cs4]); subst hq
  exact Kr () rfl .nil [0] en
 intro h8
 have g18 := df h8
 exfalso; omega
theorem fn75 (x : BitVec 64) (hx0 : x.toNat ≤ 255) (rr : Int) (hrr : bits_Len64 x = rr) : FT Tryd.prog 75 #[u64 x] [] (fun g : Unit => i64ok rr) (fun g => vi rr) (fun g => []) := by
 refine FTi Tryd.func75 fun w0 M0 F0 => ?_
 refine KS ?_
 refine Oq Va (KS ?_)
 refine Oq Vm (Oq (Vgeq (a := (x.toNat : Int)) (b := 4294967296)) (KS ?_))
 refine Kc ?_ ?_
 ·intro h1
  have g2 := dt h1
  exfalso; omega
 intro h1
 have g3 := df h1
 refine KS ?_
 refine Oq Vm (Oq (Vgeq (a := (x.toNat : Int)) (b := 65536)) (KS ?_))
 refine Kc ?_ ?_
 ·intro h4
  have g5 := dt h4
  exfalso; omega
 intro h4
 have g6 := df h4
 refine KS ?_
 refine Oq Vm (Oq (Vgeq (a := (x.toNat : Int)) (b := 256)) (KS ?_))
 refine Kc ?_ ?_
 ·intro h7
  have g8 := dt h7
  exfalso; omega
 intro h7
 have g9 := df h7
 refine KS ?_
 refine Oq Vm (Oq Vm (Oq (VcU8 un88 un5) ?_))
 refine Oq (Vix un9 (l := tab0) (h := ⟨by omega, by rw [show tab0.b.length = 256 from rfl]; omega⟩)) ?_
 have hb10 := u8b (tab0.b.getD ((x.toNat : Int) : Int).toNat 0)
 refine Oq (VcK un5 un3) (Oq Vadd (Oq Va (KS ?_)))
 have hq := q4 hrr (0 + ((tab0.b.getD ((x.toNat : Int) : Int).toNat 0).toNat : Int)) (by simp only [bits_Len64, h1, h4, h7, cs4]); subst hq
 exact Kr () rfl (.tmp rfl .nil) [] en
theorem fn59 (x : BitVec 64) (hx0 : x.toNat ≤ 255) (rr : Int) (hrr : bits_Len x = rr) : FT Tryd.prog 59 #[u64 x] [] (fun g : Unit => i64ok rr) (fun g => vi rr) (fun g => []) := by
 refine FTi Tryd.func59 fun w0 M0 F0 => ?_
 refine KS ?_
 refine Oq Va (KS ?_)
 refine Kf (KS ?_)
 refine Oq Vm ?_
 refine letv (bits_Len64 x) fun rv1 hg2 => ?_
 have hc3 := fn75 x pre rv1 hg2
 refine Oc [] ca75 hc3 ?_
 rintro - he4
 unfold i64ok at he4
 refine Oq Va (KS ?_)
 have hq := q4 hrr rv1 (by simp only [bits_Len, hg2, cs4]); subst hq
 exact Kr () rfl (.tmp rfl .nil) [] en
theorem fn46 (x : List Int) (xa0 : Option Addr) (xk0 : Nat) (cmpF : FuncId) (cmpC : List Value) (cmpp : Int → Int → Int) (cmpA : List SP) (hcmpc : callable Tryd.prog cmpF = true) (hcmpF : ∀ x0 x1, i64ok x0 → i64ok x1 → x0 ∈ x → x1 ∈ x → FT Tryd.prog cmpF ([vi x0, vi x1] ++ cmpC).toArray ([] ++ [pAll cmpA]) (fun _ : Unit => i64ok (cmpp x0 x1)) (fun _ => vi (cmpp x0 x1)) (fun _ => [])) (hs0 : x.length ≤ 12) (rr : List Int) (hrr : sc_SortFunc_int x cmpp = rr) : FT Tryd.prog 46 #[vl xa0 xk0 x, .func (.func cmpF) #[] cmpC.toArray] [O xa0 xk0 x, pAll cmpA] (fun g : Unit => (rr.length = x.length)) (fun g => .tuple #[]) (fun g => [os (vl xa0 xk0 x) rr]) := by
 refine FTi Tryd.func46 fun w0 M0 F0 => Fb 8 0 fun _ => Fo 0 fun ho2 => ?_
 refine KS ?_
 refine Oq Vm (Oq (Vlen sl22) (Oq Va (KS ?_)))
 refine Oq Vm (Oq Vm (Oq Vm (Oq (VcU un3 un68) ?_)))
 refine letv (bits_Len (BitVec.ofInt 64 (x.length : Int))) fun rv3 hg4 => ?_
 have hc5 := fn59 ((BitVec.ofInt 64 (x.length : Int))) (by rw [ofI_nat aM1]; omega) rv3 hg4
 refine Oc [] ca59 hc5 ?_
 rintro - he6
 unfold i64ok at he6
 refine Oq Vm ?_
 refine letv (sc_pdqsortCmpFunc_int x 0 (x.length : Int) rv3 cmpp) fun rv7 hg8 => ?_
 have hc9 := fn58 x xa0 xk0 0 ((x.length : Int)) rv3 cmpF cmpC cmpp cmpA pre pre pre hcmpc hcmpF pre rv7 hg8
 refine Oc [0, 0] ca58 hc9 ?_
 rintro - he10
 refine Fb 8 0 fun _ => Fo 0 fun ho12 => KS ?_
 refine Fl 0 fun hn13 => ?_
 have hq := q4 hrr rv7 (by simp only [sc_SortFunc_int, hg4, hg8, cs4]); subst hq
 exact Kz () rfl .nil [0] en
theorem fn48 (vals : List Int) (valsa0 : Option Addr) (valsk0 : Nat) (rr : Int) (hrr : cmp_Or_int vals = rr) : FT Tryd.prog 48 #[vl valsa0 valsk0 vals] [S valsa0 valsk0 vals] (fun g : Unit => i64ok rr) (fun g => vi rr) (fun g => []) := by
 refine FTi Tryd.func48 fun w0 M0 F0 => Fb 8 0 fun _ => Fo 0 fun ho2 => ?_
 refine KS ?_
 refine Oq Va (KS ?_)
 refine Oq Va (KS ?_)
 refine Oq Vm (Oq (Vlen sl22) (Oq Vm (KS ?_)))
 refine Kl (γ := Nat × Int) (fun (r3, v8_4) => ⟨[(3, vi 0), (6, vl valsa0 valsk0 vals), (7, vi (vals.length : Int)), (8, vi v8_4)], [S valsa0 valsk0 vals], cmp_Or_int_L0 vals r3 v8_4 = cmp_Or_int_L0 vals (((vals.length : Int) - 0).toNat) 0 ∧ r3 = ((vals.length : Int) - v8_4).toNat ∧ (0 : Int) ≤ v8_4 ∧ v8_4 ≤ (vals.length : Int) ∧ (-9223372036854775808 ≤ v8_4 ∧ v8_4 ≤ 9223372036854775807), r3⟩) (((vals.length : Int) - 0).toNat, 0) [0] ⟨rfl, rfl, aM1, aM1, aM1⟩ ?_
 rintro ⟨r3, v8_4⟩ ⟨hM5, hr6, hi7, hi8, hk9⟩
 refine JJ_nx fun _ _ hL hA => ?_; dsimp only at hL hA; subst hL hA
 refine Fb 8 0 fun _ => Fo 0 fun ho11 => KS ?_
 refine Oq Vlss (KS ?_)
 refine Kc ?_ ?_
 ·intro h12
  have g13 := dt h12
  obtain ⟨r14, rfl⟩ := scc (n := r3) aM1
  refine KS ?_
  refine Oq (Vi sl22 0) ?_
  have hb15 := ok1 (i := v8_4.toNat) ho11 rng
  refine Oq (VldI sh3 0) (Oq Va (KS ?_))
  refine Oq Vm (Oq Vm (Oq Vneq (KS ?_)))
  refine Kc ?_ ?_
  ·intro h16
   have g17 := ne_of_bne h16
   refine KS ?_
   refine Oq Vm (Oq Va (KS ?_))
   have hR18 := q2 hM5 (.ret (vals.getD v8_4.toNat 0)) (by simp only [cmp_Or_int_L0, h12, h16, cs4])
   have hq := q4 hrr (vals.getD v8_4.toNat 0) (by simp only [cmp_Or_int, h12, h16, hR18, cs4]); subst hq
   exact Kr () rfl (.tmp rfl .nil) [] en
  intro h16
  have g19 := eq_of_bne_false h16
  refine KS ?_
  refine Oq Vadd (Oq Vm (KS ?_))
  exact Kg (r14, (v8_4 + 1)) [0] ⟨(q3 hM5 (by simp only [cmp_Or_int_L0, h12, h16, cs4])), aM1, aM1, aM1, aM1⟩
 intro h12
 have g20 := df h12
 obtain rfl : r3 = 0 := by omega
 refine Ke ?_
 have hR21 := q2 hM5 (.brk ()) (by simp only [cmp_Or_int_L0, h12, cs4])
 refine KS ?_
 refine Oq Vm (Oq Va (KS ?_))
 have hq := q4 hrr 0 (by simp only [cmp_Or_int, h12, hR21, cs4]); subst hq
 exact Kr () rfl (.tmp rfl .nil) [] en
theorem fn60 (x : Int) (hx_0 : i64ok x) (rr : Bool) (hrr : cmp_isNaN_int x = rr) : FT Tryd.prog 60 #[vi x] [] (fun g : Unit => True) (fun g => vb rr) (fun g => []) := by
 refine FTi Tryd.func60 fun w0 M0 F0 => ?_
 unfold i64ok at hx_0
 refine KS ?_
 refine Oq Va (KS ?_)
 refine Oq Vm (Oq Vm (Oq Vneq (Oq Va (KS ?_))))
 have hq := q4 hrr (x != x) (by simp only [cmp_isNaN_int, cs4]); subst hq
 exact Kr () rfl (.tmp rfl .nil) [] trivial
theorem fn49 (x : Int) (y : Int) (hx_0 : i64ok x) (hy_0 : i64ok y) (rr : Int) (hrr : cmp_Compare_int x y = rr) : FT Tryd.prog 49 #[vi x, vi y] [] (fun g : Unit => i64ok rr) (fun g => vi rr) (fun g => []) := by
 refine FTi Tryd.func49 fun w0 M0 F0 => ?_
 unfold i64ok at hx_0 hy_0
 refine KS ?_
 refine Oq Va (KS ?_)
 refine Oq Vm ?_
 refine letv (cmp_isNaN_int x) fun rv1 hg2 => ?_
 have hc3 := fn60 x pre rv1 hg2
 refine Oc [] ca60 hc3 ?_
 rintro - -
 refine Oq Va (KS ?_)
 refine Oq Vm ?_
 refine letv (cmp_isNaN_int y) fun rv4 hg5 => ?_
 have hc6 := fn60 y pre rv4 hg5
 refine Oc [] ca60 hc6 ?_
 rintro - -
 refine Oq Va (KS ?_)
 refine Oq Vm (KS ?_)
 refine Kc ?_ ?_
 ·intro h7
  refine KS ?_
  refine Oq Vm (KS ?_)
  refine Kc ?_ ?_
  ·intro h9
   refine KS ?_
   refine Oq Va (KS ?_)
   have hq := q4 hrr 0 (by simp only [cmp_Compare_int, h7, h9, hg2, hg5, cs4]); subst hq
   exact Kr () rfl (.tmp rfl .nil) [] en
  intro h9
  refine KS ?_
  refine Oq Va (KS ?_)
  have hq := q4 hrr (-1) (by simp only [cmp_Compare_int, h7, h9, hg2, hg5, cs4]); subst hq
  exact Kr () rfl (.tmp rfl .nil) [] en
 intro h7
 refine KS ?_
 refine Oq Vm (KS ?_)
 refine Kc ?_ ?_
 ·intro h13
  refine KS ?_
  refine Oq Va (KS ?_)
  have hq := q4 hrr 1 (by simp only [cmp_Compare_int, h7, h13, hg2, hg5, cs4]); subst hq
  exact Kr () rfl (.tmp rfl .nil) [] en
 intro h13
 refine KS ?_
 refine Oq Vm (Oq Vm (Oq Vlss (KS ?_)))
 refine Kc ?_ ?_
 ·intro h16
  have g17 := dt h16
  refine KS ?_
  refine Oq Va (KS ?_)
  have hq := q4 hrr (-1) (by simp only [cmp_Compare_int, h7, h13, h16, hg2, hg5, cs4]); subst hq
  exact Kr () rfl (.tmp rfl .nil) [] en
 intro h16
 have g18 := df h16
 refine KS ?_
 refine Oq Vm (Oq Vm (Oq Vgtr (KS ?_)))
 refine Kc ?_ ?_
 ·intro h19
  have g20 := dt h19
  refine KS ?_
  refine Oq Va (KS ?_)
  have hq := q4 hrr 1 (by simp only [cmp_Compare_int, h7, h13, h16, h19, hg2, hg5, cs4]); subst hq
  exact Kr () rfl (.tmp rfl .nil) [] en
 intro h19
 have g21 := df h19
 refine KS ?_
 refine Oq Va (KS ?_)
 have hq := q4 hrr 0 (by simp only [cmp_Compare_int, h7, h13, h16, h19, hg2, hg5, cs4]); subst hq
 exact Kr () rfl (.tmp rfl .nil) [] en
theorem fn47 (a : Int) (b : Int) (cap0P : Value) (cap0 : List Int) (cap0a0 : Option Addr) (cap0k0 : Nat) (ha_0 : i64ok a) (hb_0 : i64ok b) (hp0 : (0 ≤ a ∧ a < (cap0.length : Int)) ∧ 0 ≤ b ∧ b < (cap0.length : Int)) (rr : Int) (hrr : layout_rows_1 a b cap0 = rr) : FT Tryd.prog 47 #[vi a, vi b, cap0P] [pv cap0P [vl cap0a0 cap0k0 cap0], S cap0a0 cap0k0 cap0] (fun g : Unit => i64ok rr) (fun g => vi rr) (fun g => []) := by
 refine FTi Tryd.func47 fun w0 M0 F0 => ?_
 unfold i64ok at ha_0 hb_0
 refine Fb 8 1 fun _ => Fo 1 fun ho2 => KS ?_
 refine Oq Va (KS ?_)
 refine JK_drawK [0, 0, 3, 7, 0, 0, 48, 112, 255, 0, 0, 2047, 4095, 8191, 16383] fmix ?_
 refine Dv [0] (Vld sh22 0) (Dv [] Vm (Dv [1] (Vi sl22 0) ?_))
 have hb3 := ok1 (i := a.toNat) ho2 rng
 refine Dv [1] (VldI sh3 0) (Dv [0] (Vld sh22 0) (Dv [] Vm (Dv [1] (Vi sl22 0) ?_)))
 have hb4 := ok1 (i := b.toNat) ho2 rng
 refine Dv [1] (VldI sh3 0) ?_
 refine letv (cmp_Compare_int (cap0.getD a.toNat 0) (cap0.getD b.toNat 0)) fun rv5 hg6 => ?_
 refine Dx [] [] [0] (fun G => vi rv5) [fun G => SP.fact (i64ok rv5)] (fun G => xC [] ca49 (fn49 ((cap0.getD a.toNat 0)) ((cap0.getD b.toNat 0)) pre pre rv5 hg6)) (Dv [] Vm (Dv [] Vm ?_))
 refine letv (cmp_Compare_int a b) fun rv7 hg8 => ?_
 refine Dx [] [] [0] (fun G => vi rv7) [fun G => SP.fact (i64ok rv7)] (fun G => xC [] ca49 (fn49 a b pre pre rv7 hg8)) (Dx [] [] [0] (fun G => (G.g 12 0)) [fun G => Cr (G.g 12 0) 2 [vi rv5, vi rv7]] (fun G => xA (AsV sl22 sz22 [vi rv5, vi rv7] [vi rv5, vi rv7])) ?_)
 refine letv (cmp_Or_int [rv5, rv7]) fun rv13 hg14 => ?_
 refine Dx [2, 3, 4] [4] [2, 3, 1, 0] (fun G => vi rv13) [fun G => sl (G.g 12 0) ([rv5, rv7] : List Int), fun G => SP.fact (i64ok rv13)] (fun G => by refine xf 0 rfl ?_; rintro he15; unfold i64ok at he15; refine xf 1 rfl ?_; rintro he16; unfold i64ok at he16; exact xp [2] rfl (Ent.crInt _ [rv5, rv7] _ _ rfl rfl (by intro x hx; simp only [List.mem_cons, List.not_mem_nil, or_false] at hx; rcases hx with rfl | rfl <;> (unfold i64ok; omega)) aB1) (xp [0] rfl (Ent.freeze _ _) (xD [0] ca48 rfl rfl rfl (FT_open (γ := Unit) (I := fun g => i64ok rv13) (V := fun g => vi rv13) (B := fun g => []) (R := sl (G.g 12 0) ([rv5, rv7] : List Int)) sl_slice (fun aq10 kq11 eq12 => by rw [eq12]; exact FT_ent (Ent.take (is := [0]) rfl) (fn48 ([rv5, rv7]) aq10 kq11 rv13 hg14)))))) (Dv [] Va ?_)
 refine Dn ⟨by kernel_rfl, fun G => ?_⟩
 refine Jw2 [(5, vi rv13)] [0, 1] [SP.fact (i64ok rv5), SP.fact (i64ok rv7), sl (G.g 12 0) ([rv5, rv7] : List Int), SP.fact (i64ok rv13)] ?_
 generalize G.g 12 0 = c9
 refine Jf 2 rfl ?_; rintro he17
 unfold i64ok at he17
 refine Jf 3 rfl ?_; rintro he18
 unfold i64ok at he18
 refine Jf 5 rfl ?_; rintro he19
 unfold i64ok at he19
 refine Jk [0, 1, 4] ?_
 refine Jo 2 ?_; rintro a20 k21 rfl
 refine Fb 8 2 fun _ => Fo 2 fun ho23 => ?_
 have hq := q4 hrr rv13 (by simp only [layout_rows_1, hg6, hg8, hg14, cs4]); subst hq
 exact Kr () rfl (.tmp rfl .nil) [] en
theorem fn33 (g : GGraph) (ga0 : Option Addr) (gk0 : Nat) (ga1 : Option Addr) (gk1 : Nat) (ga2 : Option Addr) (gk2 : Nat) (root : Int) (hroot_0 : i64ok root) (hv0 : gh_Valid g = true) (hr0 : 0 ≤ root ∧ root < (g.Nodes.length : Int)) (hn0 : g.Nodes.length ≤ 12) (rr : List (List Int)) (hrr : layout_rows g root = rr) : FT Tryd.prog 33 #[.agg #[vl ga0 gk0 g.Nodes, vl ga1 gk1 g.Succ, vl ga2 gk2 g.Pred], vi root] [S ga0 gk0 g.Nodes, S ga1 gk1 g.Succ, S ga2 gk2 g.Pred] (fun g : Value => True) (fun g => g) (fun g => [sl g rr]) := by
 refine FTi Tryd.func33 fun w0 M0 F0 => ?_
 unfold i64ok at hroot_0
 refine Fb 32 0 fun _ => Fb 24 1 fun _ => Fb 24 2 fun _ => ?_
 have hgv := Valid_VG hv0
 have hn1 := hgv.n1
 have hsl := hgv.sl
 refine KS ?_
 refine Oa (Ab [vl ga0 gk0 g.Nodes, vl ga1 gk1 g.Succ, vl ga2 gk2 g.Pred]) fun p4 => Oq Va (KS ?_)
 refine Oq (Vfa fo42_0 0) (Oq (VldF sh39 0) (Oq (Vlen sl39) ?_))
 refine Oa (Amk (α := Int) sl22 sz22 (0 : Int) (fun _ _ => ⟨rfl, by unfold i64ok; decide⟩)) fun c5 => ?_
 refine Jo 0 ?_; rintro a6 k7 rfl
 refine Fb 8 0 fun _ => Fo 0 fun ho9 => ?_
 have hn10 := List.length_replicate (n := (g.Nodes.length : Int).toNat) (a := ((0 : Int) : Int))
 refine Oa (Al ze22 [.slice none 0 0]) fun p11 => Ost (Scl [0] sh22 [vl a6 k7 (List.replicate (g.Nodes.length : Int).toNat (0 : Int))]) (KS ?_)
 refine Oq (Vfa fo42_0 2) (Oq (VldF sh39 2) (Oq (Vlen sl39) (Oa (Amk (α := Bool) sl94 sz94 false (fun _ _ => rfl)) fun c12 => ?_)))
 refine Jo 0 ?_; rintro a13 k14 rfl
 refine Fb 1 0 fun _ => ?_
 have hn16 := List.length_replicate (n := (g.Nodes.length : Int).toNat) (a := (false : Bool))
 refine Oq Va (KS ?_)
 refine Oq Vm (Oq Vm (Oq (Vi sl94 0) (Ost (SoB [0] sh4) (KS ?_))))
 refine Oq Va (KS ?_)
 refine Oq Vm (Oa (AsV sl22 sz22 [vi root] [vi root]) fun c17 => ?_)
 refine Jo 0 ?_; rintro a18 k19 rfl
 refine Oq Va (KS ?_)
 refine Jl [0] (Ent.crInt _ [root] _ _ rfl rfl (by intro x hx; rw [List.mem_singleton] at hx; subst hx; unfold i64ok; omega) aB1) ?_
 refine Fb 8 0 fun _ => Fo 0 fun ho21 => ?_
 refine Jl [2] (Ent.freezeCl _ _) ?_
 refine Jl [] (Ent.osNil (α := (List Int))) ?_
 have hterm39 : layout_rows_L0 g (g.Nodes.length + 3) (List.replicate (g.Nodes.length : Int).toNat (0 : Int)) ((List.replicate (g.Nodes.length : Int).toNat false).set root.toNat true) [] [root] ≠ LR.oof := (rows_t hgv _ _ _ _ _ (by simp only [List.length_set, List.length_replicate]; omega) (by rw [if_neg (by simp)]; omega))
 refine Kl (γ := Nat × List Int × List Bool × List (List Int) × List Int × Option Addr × Nat × Option Addr × Nat × Option Addr × Nat) (fun (r22, place0_23, seen_24, l_25, row_26, a27, k28, a29, k30, a31, k32) => ⟨[(2, p4), (5, p11), (6, vl a13 k14 (List.replicate (g.Nodes.length : Int).toNat false)), (7, vl a29 k30 l_25), (8, vl a31 k32 row_26)], [O a31 k32 row_26, O a29 k30 l_25, O a27 k28 place0_23, pv p11 [vl a27 k28 place0_23], os (vl a13 k14 (List.replicate (g.Nodes.length : Int).toNat false)) seen_24, pv p4 [vl ga0 gk0 g.Nodes, vl ga1 gk1 g.Succ, vl ga2 gk2 g.Pred], S ga0 gk0 g.Nodes, S ga1 gk1 g.Succ, S ga2 gk2 g.Pred], layout_rows_L0 g r22 place0_23 seen_24 l_25 row_26 = layout_rows_L0 g (g.Nodes.length + 3) (List.replicate (g.Nodes.length : Int).toNat (0 : Int)) ((List.replicate (g.Nodes.length : Int).toNat false).set root.toNat true) [] [root] ∧ (place0_23.length = g.Nodes.length) ∧ (seen_24.length = g.Nodes.length) ∧ ((l_25.length : Int) + r22 ≤ (g.Nodes.length : Int) + 3) ∧ (RL g.Nodes.length row_26) ∧ (RW g.Nodes.length l_25), r22⟩) ((g.Nodes.length + 3), (List.replicate (g.Nodes.length : Int).toNat (0 : Int)), ((List.replicate (g.Nodes.length : Int).toNat false).set root.toNat true), [], [root], a6, k7, none, 0, a18, k19) [2, 0, 2, 0, 1, 1, 2, 3, 4] ⟨rfl, iv0, iv0, iv0, (RL_one hr0), (RW_nil _)⟩ ?_
 rintro ⟨r22, place0_23, seen_24, l_25, row_26, a27, k28, a29, k30, a31, k32⟩ ⟨hM33, hv34, hv35, hv36, hv37, hv38⟩
 refine JJ_nx fun _ _ hL hA => ?_; dsimp only at hL hA; subst hL hA
 refine Fb 8 0 fun _ => Fo 0 fun ho41 => Fb 24 1 fun _ => Fb 8 2 fun _ => Fo 2 fun ho44 => Fb 1 4 fun _ => Fl 4 fun hn46 => ?_
 refine Fb 32 6 fun _ => Fb 24 7 fun _ => Fb 24 8 fun _ => ?_
 rcases r22 with _ | r22
 ·exact absurd (hM33.symm.trans rfl) hterm39
 refine KS ?_
 refine Oq Vm (Oq (Vlen sl22) (Oq Vgtr (KS ?_)))
 refine Kc ?_ ?_
 ·intro h50
  have g51 := dt h50
  have hrm := RL_get (i := (0 : Int).toNat) (by assumption : RL _ row_26) aM1
  refine KS ?_
  refine Oq Vm (Oq Vm (Oa (AsV sl40 sz40 [vl a31 k32 row_26] [vl a31 k32 row_26]) fun c52 => ?_))
  refine Jo 0 ?_; rintro a53 k54 rfl
  refine Jl [1] (Ent.freeze _ _) ?_
  refine Jl [1, 0] (Ent.cr1 (α := List Int) (A := [S a31 k32 row_26]) _ row_26 _ aB1 (fun h => ⟨_, rfl, sepAll_get (i := 0) rfl h⟩)) ?_
  refine Oa (ApO [3, 0] sl40 sl40 sz40) fun c55 => ?_
  refine Jo 0 ?_; rintro a56 k57 rfl
  refine Fb 24 0 fun _ => ?_
  have hn59 := la l_25 ([row_26] : List (List Int))
  refine Oq Va (KS ?_)
  refine Oq Va (KS ?_)
  refine Oq Vm (Oq (Vlen sl22) (Oq Vm (KS ?_)))
  refine Jl [] (Ent.osNil (α := Int)) ?_
  refine Kl (γ := Nat × List Int × List Bool × List Int × Int × Option Addr × Nat) (fun (r60, place0_61, seen_62, next_63, v36_64, a65, k66) => ⟨[(2, p4), (5, p11), (6, vl a13 k14 (List.replicate (g.Nodes.length : Int).toNat false)), (7, vl a56 k57 (l_25 ++ [row_26])), (9, vl a65 k66 next_63), (34, vl a31 k32 row_26), (35, vi (row_26.length : Int)), (36, vi v36_64)], [O a65 k66 next_63, O a56 k57 ((l_25 ++ [row_26]) : List (List Int)), S a31 k32 row_26, os (vl a27 k28 place0_23) place0_61, pv p11 [vl a27 k28 place0_23], os (vl a13 k14 (List.replicate (g.Nodes.length : Int).toNat false)) seen_62, pv p4 [vl ga0 gk0 g.Nodes, vl ga1 gk1 g.Succ, vl ga2 gk2 g.Pred], S ga0 gk0 g.Nodes, S ga1 gk1 g.Succ, S ga2 gk2 g.Pred], layout_rows_L1 g row_26 r60 place0_61 seen_62 next_63 v36_64 = layout_rows_L1 g row_26 (((row_26.length : Int) - 0).toNat) place0_23 seen_24 [] 0 ∧ r60 = ((row_26.length : Int) - v36_64).toNat ∧ (0 : Int) ≤ v36_64 ∧ v36_64 ≤ (row_26.length : Int) ∧ (-9223372036854775808 ≤ v36_64 ∧ v36_64 ≤ 9223372036854775807) ∧ (place0_61.length = g.Nodes.length) ∧ (seen_62.length = g.Nodes.length) ∧ (RL g.Nodes.length next_63) ∧ (next_63.length ≤ List.count true seen_62) ∧ (next_63.length ≤ 12), r60⟩) (((row_26.length : Int) - 0).toNat, place0_23, seen_24, [], 0, none, 0) [0, 0, 0, 2, 2, 3, 3, 4, 5, 6] ⟨rfl, rfl, aM1, aM1, aM1, iv0, iv0, (by first | exact RL_nil _ | assumption), (by first | assumption | exact Nat.zero_le _), (by first | assumption | exact Nat.zero_le _)⟩ ?_
  rintro ⟨r60, place0_61, seen_62, next_63, v36_64, a65, k66⟩ ⟨hM67, hr68, hi69, hi70, hk71, hv72, hv73, hv74, hv75, hv76⟩
  refine JJ_nx fun _ _ hL hA => ?_; dsimp only at hL hA; subst hL hA
  refine Fb 8 0 fun _ => Fo 0 fun ho78 => Fb 24 1 fun _ => Fb 8 2 fun _ => Fo 2 fun ho81 => Fb 8 3 fun _ => Fo 3 fun ho83 => Fl 3 fun hn84 => ?_
  refine Fb 1 5 fun _ => Fl 5 fun hn86 => ?_
  refine Fb 32 7 fun _ => Fb 24 8 fun _ => Fb 24 9 fun _ => KS ?_
  refine Oq Vlss (KS ?_)
  refine Kc ?_ ?_
  ·intro h90
   have g91 := dt h90
   have hrm := RL_get (i := v36_64.toNat) (by assumption : RL _ row_26) aM1
   obtain ⟨r92, rfl⟩ := scc (n := r60) aM1
   refine KS ?_
   refine Oq Vm (Oq (Vi sl22 2) ?_)
   have hb93 := ok1 (i := v36_64.toNat) ho81 rng
   refine Oq (VldI sh3 2) (Oq Va (Oq Va (KS ?_)))
   refine Oq (Vfa fo42_1 6) (Oq (VldF sh40 6) (Oq Vm (Oq (Vi sl40 8) ?_)))
   refine JJ_peekL ((row_26.getD v36_64.toNat 0) : Int).toNat 8 rfl rng fun a94 k95 => ?_
   refine Fb 8 1 fun _ => Fo 1 fun ho97 => ?_
   refine Oq (Vld sh22 0) (Oq (Vlen sl22) (Oq Vm (KS ?_)))
   refine Kl (γ := Nat × List Int × List Bool × List Int × Int × Option Addr × Nat) (fun (r98, place0_99, seen_100, next_101, v47_102, a103, k104) => ⟨[(2, p4), (5, p11), (6, vl a13 k14 (List.replicate (g.Nodes.length : Int).toNat false)), (7, vl a56 k57 (l_25 ++ [row_26])), (9, vl a103 k104 next_101), (34, vl a31 k32 row_26), (35, vi (row_26.length : Int)), (36, vi v36_64), (10, vi v36_64), (45, vl a94 k95 (g.Succ.getD ((row_26.getD v36_64.toNat 0) : Int).toNat [])), (46, vi ((g.Succ.getD ((row_26.getD v36_64.toNat 0) : Int).toNat []).length : Int)), (47, vi v47_102)], [O a103 k104 next_101, S a94 k95 ((g.Succ.getD ((row_26.getD v36_64.toNat 0) : Int).toNat []) : List Int), O a56 k57 ((l_25 ++ [row_26]) : List (List Int)), S a31 k32 row_26, os (vl a27 k28 place0_23) place0_99, pv p11 [vl a27 k28 place0_23], os (vl a13 k14 (List.replicate (g.Nodes.length : Int).toNat false)) seen_100, pv p4 [vl ga0 gk0 g.Nodes, vl ga1 gk1 g.Succ, vl ga2 gk2 g.Pred], S ga0 gk0 g.Nodes, S ga1 gk1 g.Succ, S ga2 gk2 g.Pred], layout_rows_L2 v36_64 (g.Succ.getD ((row_26.getD v36_64.toNat 0) : Int).toNat []) r98 place0_99 seen_100 next_101 v47_102 = layout_rows_L2 v36_64 (g.Succ.getD ((row_26.getD v36_64.toNat 0) : Int).toNat []) (((((g.Succ.getD ((row_26.getD v36_64.toNat 0) : Int).toNat []).length : Int) : Int) - 0).toNat) place0_61 seen_62 next_63 0 ∧ r98 = ((((g.Succ.getD ((row_26.getD v36_64.toNat 0) : Int).toNat []).length : Int) : Int) - v47_102).toNat ∧ (0 : Int) ≤ v47_102 ∧ (v47_102 ≤ ((g.Succ.getD ((row_26.getD v36_64.toNat 0) : Int).toNat []).length : Int) ∨ v47_102 = 0) ∧ (-9223372036854775808 ≤ v47_102 ∧ v47_102 ≤ 9223372036854775807) ∧ (place0_99.length = g.Nodes.length) ∧ (seen_100.length = g.Nodes.length) ∧ (RL g.Nodes.length next_101) ∧ (next_101.length ≤ List.count true seen_100) ∧ (next_101.length ≤ 12), r98⟩) (((((g.Succ.getD ((row_26.getD v36_64.toNat 0) : Int).toNat []).length : Int) : Int) - 0).toNat, place0_61, seen_62, next_63, 0, a65, k66) [2, 1, 2, 2, 3, 3, 4, 4, 5, 6, 7] ⟨rfl, rfl, aM1, (.inr rfl), aM1, iv0, iv0, (by first | exact RL_nil _ | assumption), (by first | assumption | exact Nat.zero_le _), (by first | assumption | exact Nat.zero_le _)⟩ ?_
   rintro ⟨r98, place0_99, seen_100, next_101, v47_102, a103, k104⟩ ⟨hM105, hr106, hi107, hi108, hk109, hv110, hv111, hv112, hv113, hv114⟩
   refine JJ_nx fun _ _ hL hA => ?_; dsimp only at hL hA; subst hL hA
   refine Fb 8 0 fun _ => Fo 0 fun ho116 => Fb 8 1 fun _ => Fo 1 fun ho118 => Fb 24 2 fun _ => Fb 8 3 fun _ => Fo 3 fun ho121 => Fb 8 4 fun _ => ?_
   refine Fo 4 fun ho123 => ?_
   refine Fl 4 fun hn124 => Fb 1 6 fun _ => ?_
   refine Fl 6 fun hn126 => Fb 32 8 fun _ => Fb 24 9 fun _ => Fb 24 10 fun _ => ?_
   refine KS ?_
   refine Oq Vlss (KS ?_)
   refine Kc ?_ ?_
   ·intro h130
    have g131 := dt h130
    have hsm := VG_any hgv ((row_26.getD v36_64.toNat 0) : Int).toNat _ (getD_mem (xs := g.Succ.getD ((row_26.getD v36_64.toNat 0) : Int).toNat []) (i := v47_102.toNat) (d := 0) aM1)
    obtain ⟨r132, rfl⟩ := scc (n := r98) aM1
    refine KS ?_
    refine Oq (Vi sl22 1) ?_
    have hb133 := ok1 (i := v47_102.toNat) ho118 rng
    refine Oq (VldI sh3 1) (Oq Va (KS ?_))
    refine Oq Vm (Oq Vm (Oq (Vi sl94 6) (Oq (VldB sh4 6) (Oq Vnot (KS ?_)))))
    refine Kc ?_ ?_
    ·intro h134
     have h136 := not_true h134
     refine KS ?_
     refine Oq Vm (Oq Vm (Oq (Vi sl94 6) (Ost (SoB [6] sh4) (KS ?_))))
     refine Oq (Vld sh22 6) (Oq Vm (Oq Vm (Oq (Vi sl22 5) (Ost (SoI [5] sh3) (KS ?_)))))
     refine Oq Vm (Oq Vm (Oa (AsV sl22 sz22 [vi ((g.Succ.getD ((row_26.getD v36_64.toNat 0) : Int).toNat []).getD v47_102.toNat 0)] [vi ((g.Succ.getD ((row_26.getD v36_64.toNat 0) : Int).toNat []).getD v47_102.toNat 0)]) fun c138 => ?_))
     refine Jo 0 ?_; rintro a139 k140 rfl
     refine Jl [0] (Ent.crInt _ [((g.Succ.getD ((row_26.getD v36_64.toNat 0) : Int).toNat []).getD v47_102.toNat 0)] _ _ rfl rfl (by intro x hx; rw [List.mem_singleton] at hx; subst hx; unfold i64ok; omega) aB1) ?_
     refine Oa (ApO [3, 0] sl22 sl22 sz22) fun c141 => ?_
     refine Jo 0 ?_; rintro a142 k143 rfl
     refine Fb 8 0 fun _ => Fo 0 fun ho145 => ?_
     have hn146 := la next_101 ([((g.Succ.getD ((row_26.getD v36_64.toNat 0) : Int).toNat []).getD v47_102.toNat 0)] : List Int)
     refine Oq Va (KS ?_)
     refine Oq Vadd (Oq Vm (KS ?_))
     exact Kg (r132, (place0_99.set (((g.Succ.getD ((row_26.getD v36_64.toNat 0) : Int).toNat []).getD v47_102.toNat 0) : Int).toNat v36_64), (seen_100.set (((g.Succ.getD ((row_26.getD v36_64.toNat 0) : Int).toNat []).getD v47_102.toNat 0) : Int).toNat true), (next_101 ++ [((g.Succ.getD ((row_26.getD v36_64.toNat 0) : Int).toNat []).getD v47_102.toNat 0)]), (v47_102 + 1), a142, k143) [0, 2, 3, 3, 0, 3, 0, 3, 4, 5, 6] ⟨(q3 hM105 (by simp only [layout_rows_L2, h130, h134, h136, cs4])), aM1, aM1, aM1, aM1, iv1, iv1, (by first | assumption | exact RL_app (by assumption) hsm), (by first | assumption | exact nx_step (by assumption) aM1 (by assumption)), (by first | assumption | exact cnt12 (nx_step (by assumption) aM1 (by assumption)) (by first | assumption | (simp only [List.length_set]; omega)) hn0)⟩
    intro h134
    have h148 := not_false h134
    refine KS ?_
    refine Oq Vadd (Oq Vm (KS ?_))
    exact Kg (r132, place0_99, seen_100, next_101, (v47_102 + 1), a103, k104) [0, 0, 1, 1, 2, 2, 3, 3, 4, 5, 6] ⟨(q3 hM105 (by simp only [layout_rows_L2, h130, h134, h148, cs4])), aM1, aM1, aM1, aM1, iv1, iv1, (by first | assumption | exact RL_app (by assumption) hsm), (by first | assumption | exact nx_step (by assumption) aM1 (by assumption)), (by first | assumption | exact cnt12 (nx_step (by assumption) aM1 (by assumption)) (by first | assumption | (simp only [List.length_set]; omega)) hn0)⟩
   intro h130
   have g150 := df h130
   obtain rfl : r98 = 0 := by omega
   refine Ke ?_
   have hR151 := q2 hM105 (place0_99, seen_100, next_101) (by simp only [layout_rows_L2, h130, cs4])
   refine KS ?_
   refine Oq Vadd (Oq Vm (KS ?_))
   exact Kg (r92, place0_99, seen_100, next_101, (v36_64 + 1), a103, k104) [0, 1, 1, 2, 2, 3, 3, 4, 5, 6] ⟨(q3 hM67 (by simp only [layout_rows_L1, h90, h130, hR151, cs4])), aM1, aM1, aM1, aM1, iv1, iv1, (by first | assumption | exact RL_app (by assumption) hsm), (by first | assumption | exact nx_step (by assumption) aM1 (by assumption)), (by first | assumption | exact cnt12 (nx_step (by assumption) aM1 (by assumption)) (by first | assumption | (simp only [List.length_set]; omega)) hn0)⟩
  intro h90
  have g152 := df h90
  obtain rfl : r60 = 0 := by omega
  refine Ke ?_
  have hR153 := q2 hM67 (place0_61, seen_62, next_63) (by simp only [layout_rows_L1, h90, cs4])
  refine KS ?_
  refine Oq Vm (Oq (Vf [p11]) ?_)
  refine Fl 3 fun hn154 => ?_; (try unfold vl); rw [← hn154]
  refine letv (sc_SortFunc_int next_63 (fun x0 x1 => layout_rows_1 x0 x1 place0_61)) fun rv155 hg156 => ?_
  refine Oc [3, 0, 2] ca46 (FT_borrow (A := _) hlx (FT_ent (Ent.take (is := [1, 1, 0]) rfl) (FT_ent (Ent.trans (Ent.pall (A := [O a65 k66 next_63, pv p11 [vl a27 k28 place0_61], S a27 k28 place0_61]) (Ac := [pv p11 [vl a27 k28 place0_61], S a27 k28 place0_61]) [1, 2] rfl rfl) (Ent.take (is := [1, 0]) rfl)) (fn46 next_63 a65 k66 47 [p11] (fun x0 x1 => layout_rows_1 x0 x1 place0_61) [pv p11 [vl a27 k28 place0_61], S a27 k28 place0_61] ca47 (fun x0 x1 hq0 hq1 hz0 hz1 => FT_pall (A1 := []) (fn47 x0 x1 p11 place0_61 a27 k28 hq0 hq1 (by have h0 := (by assumption : RL _ _) _ hz0; have h1 := (by assumption : RL _ _) _ hz1; omega) _ rfl)) (cnt12 (by assumption) (by assumption) hn0) rv155 hg156)))) ?_ (ht := rfl)
  rintro - he157
  refine Fb 8 1 fun _ => Fo 1 fun ho159 => KS ?_
  refine Oq Vm (Oq Va (KS ?_))
  refine Fl 1 fun hn160 => ?_; (try unfold vl); rw [← hn160]
  exact Kg (r22, place0_61, seen_62, (l_25 ++ [row_26]), rv155, a27, k28, a56, k57, a65, k66) [1, 1, 0, 1, 2, 2, 3, 4, 5] ⟨(q3 hM33 (by simp only [layout_rows_L0, h50, h90, hR153, hg156, cs4])), iv1, iv1, iv1, (by first | assumption | exact RL_sort (by assumption) (by assumption)), (RW_app (by assumption) (by assumption))⟩
 intro h50
 have g161 := df h50
 refine Ke ?_
 have hR162 := q2 hM33 (.brk l_25) (by simp only [layout_rows_L0, h50, cs4])
 refine KS ?_
 refine Oq Vm (Oq Va (KS ?_))
 refine Jl [1] (Ent.freeze _ _) ?_
 have hq := q4 hrr l_25 (by simp only [layout_rows, h50, hR162, cs4]); subst hq
 exact Kr (vl a29 k30 l_25) rfl (.tmp rfl .nil) [0] trivial
theorem fn20 (g : GGraph) (ga0 : Option Addr) (gk0 : Nat) (ga1 : Option Addr) (gk1 : Nat) (ga2 : Option Addr) (gk2 : Nat) (root : Int) (hroot_0 : i64ok root) (hn0 : g.Nodes.length ≤ 12) (rr : List Cpx × Int) (hrr : layout_Place g root = rr) : FT Tryd.prog 20 #[.agg #[vl ga0 gk0 g.Nodes, vl ga1 gk1 g.Succ, vl ga2 gk2 g.Pred], vi root] [S ga0 gk0 g.Nodes, S ga1 gk1 g.Succ, S ga2 gk2 g.Pred] (fun g : Value => i64ok rr.2 ∧ (∀ y ∈ rr.1, WB y) ∧ (rr.1.length ≤ 12)) (fun g => .tuple #[g, vi rr.2]) (fun g => [sl g rr.1]) := by
 refine FTi Tryd.func20 fun w0 M0 F0 => ?_
 unfold i64ok at hroot_0
 refine Fb 32 0 fun _ => Fb 24 1 fun _ => Fb 24 2 fun _ => KS ?_
 refine Oa (Ab [vl ga0 gk0 g.Nodes, vl ga1 gk1 g.Succ, vl ga2 gk2 g.Pred]) fun p4 => Oq Va (Oq Va (KS ?_))
 refine Oq (VldA sh42 0) (Oq Vm ?_)
 refine letv (layout_check g root) fun rv5 hg6 => ?_
 have hc7 := fn31 g ga0 gk0 ga1 gk1 ga2 gk2 root pre rv5 hg6
 refine Oc [1, 2, 3] ca31 hc7 ?_
 rintro - he8
 unfold i64ok at he8
 refine Oq Va (KS ?_)
 refine Oq Vm (Oq Vneq (KS ?_))
 refine Kc ?_ ?_
 ·intro h9
  have g10 := ne_of_bne h9
  refine KS ?_
  refine Oq Vm (Oq Va (Oq Va (KS ?_)))
  refine Jl [] (Ent.slNil (α := Cpx)) ?_
  have hq := q4 hrr (([] : List Cpx), rv5) (by simp only [layout_Place, h9, hg6, cs4]); subst hq
  exact Kr (.slice none 0 0) rfl (.tmp rfl (.tmp rfl .nil)) [0] ⟨en, (by first | assumption | (intro y hy; cases hy)), (by first | exact Nat.zero_le _ | (dsimp only; omega))⟩
 intro h9
 have g11 := eq_of_bne_false h9
 obtain ⟨hvv, hr0, hr1⟩ := chk_ok (by assumption) h9; have hgv := Valid_VG hvv
 refine KS ?_
 refine Oa (AsV sl30 sz30 [cxv (Cpx.mk 13830554455654793216#64 0#64)] [cxv (Cpx.mk 13830554455654793216#64 0#64)]) fun c12 => ?_
 refine Jo 0 ?_; rintro a13 k14 rfl
 refine Oq (Vfa fo42_0 1) (Oq (VldF sh39 1) (Oq (Vlen sl39) ?_))
 refine Jl [0] (Ent.cr1 (α := Cpx) (A := []) _ (Cpx.mk 13830554455654793216#64 0#64) _ aB1 (fun _ => rfl)) ?_
 refine Jl [0] (Ent.freeze _ _) ?_
 refine letv (sc_Repeat_complex128 [(Cpx.mk 13830554455654793216#64 0#64)] (g.Nodes.length : Int)) fun rv16 hg17 => ?_
 have hwb := Rep_WB hg17 (fun y hy => by rw [List.mem_singleton.1 hy]; exact WB_out)
 have hc18 := fn32 ([(Cpx.mk 13830554455654793216#64 0#64)]) a13 k14 ((g.Nodes.length : Int)) pre ⟨rfl, by omega, by omega⟩ rv16 hg17
 refine Oc [0] ca32 hc18 ?_
 rintro c15 he19
 refine Jo 0 ?_; rintro a20 k21 rfl
 refine Fb 16 0 fun _ => ?_
 refine Oq Va (KS ?_)
 refine Oq Va (KS ?_)
 refine Oq (VldA sh42 2) (Oq Vm ?_)
 refine letv (layout_rows g root) fun rv24 hg25 => ?_
 obtain ⟨hrw, hrl⟩ := rows_RW hg25 hgv ⟨hr0, hr1⟩
 have hc26 := fn33 g ga0 gk0 ga1 gk1 ga2 gk2 root pre hvv ⟨hr0, hr1⟩ hn0 rv24 hg25
 refine Oc [3, 4, 5] ca33 hc26 ?_
 rintro c23 -
 refine Jo 0 ?_; rintro a27 k28 rfl
 refine Fb 24 0 fun _ => ?_
 refine Oq (Vlen sl40) (Oq Vm (KS ?_))
 refine Kl (γ := Nat × List Cpx × Cpx × Int × Option Addr × Nat) (fun (r30, at__31, start_32, v29_33, a34, k35) => ⟨[(7, vl a34 k35 at__31), (8, cxv start_32), (27, vl a27 k28 rv24), (28, vi (rv24.length : Int)), (29, vi v29_33)], [O a34 k35 at__31, S a27 k28 rv24], layout_Place_L0 rv24 r30 at__31 start_32 v29_33 = layout_Place_L0 rv24 (((rv24.length : Int) - 0).toNat) rv16 (Cpx.mk 0#64 0#64) 0 ∧ r30 = ((rv24.length : Int) - v29_33).toNat ∧ (0 : Int) ≤ v29_33 ∧ v29_33 ≤ (rv24.length : Int) ∧ (-9223372036854775808 ≤ v29_33 ∧ v29_33 ≤ 9223372036854775807) ∧ (at__31.length = g.Nodes.length) ∧ (∀ y ∈ at__31, WB y) ∧ (WQ start_32 0 v29_33), r30⟩) (((rv24.length : Int) - 0).toNat, rv16, (Cpx.mk 0#64 0#64), 0, a20, k21) [1, 0] ⟨rfl, rfl, aM1, aM1, aM1, iv0, hwb, WQ_0⟩ ?_
 rintro ⟨r30, at__31, start_32, v29_33, a34, k35⟩ ⟨hM36, hr37, hi38, hi39, hk40, hv41, hv42, hv43⟩
 refine JJ_nx fun _ _ hL hA => ?_; dsimp only at hL hA; subst hL hA
 refine Fb 16 0 fun _ => Fb 24 1 fun _ => KS ?_
 refine Oq Vlss (KS ?_)
 refine Kc ?_ ?_
 ·intro h46
  have g47 := dt h46
  obtain ⟨r48, rfl⟩ := scc (n := r30) aM1
  refine KS ?_
  refine Oq (Vi sl40 1) ?_
  refine JJ_peekL v29_33.toNat 1 rfl rng fun a49 k50 => ?_
  refine Fb 8 1 fun _ => Fo 1 fun ho52 => ?_
  refine Oq (Vld sh22 0) (Oq Va (KS ?_))
  refine Oq Vm (Oq Va (KS ?_))
  refine Oq Vm (Oq (Vlen sl22) (Oq Vm (KS ?_)))
  refine Kl (γ := Nat × List Cpx × Cpx × Int) (fun (r53, at__54, p_55, v36_56) => ⟨[(7, vl a34 k35 at__31), (8, cxv start_32), (27, vl a27 k28 rv24), (28, vi (rv24.length : Int)), (29, vi v29_33), (11, cxv p_55), (34, vl a49 k50 (rv24.getD v29_33.toNat [])), (35, vi ((rv24.getD v29_33.toNat []).length : Int)), (36, vi v36_56)], [S a49 k50 ((rv24.getD v29_33.toNat []) : List Int), os (vl a34 k35 at__31) at__54, S a27 k28 rv24], layout_Place_L1 (rv24.getD v29_33.toNat []) r53 at__54 p_55 v36_56 = layout_Place_L1 (rv24.getD v29_33.toNat []) (((((rv24.getD v29_33.toNat []).length : Int) : Int) - 0).toNat) at__31 start_32 0 ∧ r53 = ((((rv24.getD v29_33.toNat []).length : Int) : Int) - v36_56).toNat ∧ (0 : Int) ≤ v36_56 ∧ (v36_56 ≤ ((rv24.getD v29_33.toNat []).length : Int) ∨ v36_56 = 0) ∧ (-9223372036854775808 ≤ v36_56 ∧ v36_56 ≤ 9223372036854775807) ∧ (at__54.length = g.Nodes.length) ∧ (∀ y ∈ at__54, WB y) ∧ (WQ p_55 v36_56 v29_33), r53⟩) (((((rv24.getD v29_33.toNat []).length : Int) : Int) - 0).toNat, at__31, start_32, 0) [1, 2, 2] ⟨rfl, rfl, aM1, (.inr rfl), aM1, iv0, (by assumption), (by assumption)⟩ ?_
  rintro ⟨r53, at__54, p_55, v36_56⟩ ⟨hM57, hr58, hi59, hi60, hk61, hv62, hv63, hv64⟩
  refine JJ_nx fun _ _ hL hA => ?_; dsimp only at hL hA; subst hL hA
  refine Fb 8 0 fun _ => Fo 0 fun ho66 => Fb 16 1 fun _ => Fl 1 fun hn68 => ?_
  refine Fb 24 2 fun _ => KS ?_
  refine Oq Vlss (KS ?_)
  refine Kc ?_ ?_
  ·intro h70
   have g71 := dt h70
   have hrg := RW_get (i := v29_33.toNat) (k := v36_56.toNat) hrw aM1 aM1
   obtain ⟨r72, rfl⟩ := scc (n := r53) aM1
   refine KS ?_
   refine Oq (Vi sl22 0) ?_
   have hb73 := ok1 (i := v36_56.toNat) ho66 rng
   refine Oq (VldI sh3 0) (Oq Va (KS ?_))
   refine Oq Vm (Oq Vm (Oq Vm (Oq (Vi sl30 1) (Ost (SoCx [1] sh37) (KS ?_)))))
   refine Oq Vm ?_
   refine Oq (VaddC (a := p_55) (b := (Cpx.mk 4607182418800017408#64 0#64)) (h := (by first | (unfold i64ok; omega) | exact (WQ_inc (by assumption) aM1 aM1).1 | exact (WQ_dn (by assumption) aM1 aM1).1))) (Oq Va (KS ?_))
   refine Oq (Vadd (h := (by first | (unfold i64ok; omega) | exact (WQ_inc (by assumption) aM1 aM1).1 | exact (WQ_dn (by assumption) aM1 aM1).1))) (Oq Vm (KS ?_))
   exact Kg (r72, (at__54.set (((rv24.getD v29_33.toNat []).getD v36_56.toNat 0) : Int).toNat p_55), (cadd p_55 (Cpx.mk 4607182418800017408#64 0#64)), (v36_56 + 1)) [1, 0, 1] ⟨(q3 hM57 (by simp only [layout_Place_L1, h70, cs4])), aM1, aM1, aM1, aM1, iv1, (WB_set (by assumption) (by assumption) aM1 aM1), (WQ_inc (by assumption) aM1 aM1).2⟩
  intro h70
  have g74 := df h70
  obtain rfl : r53 = 0 := by omega
  refine Ke ?_
  have hR75 := q2 hM57 at__54 (by simp only [layout_Place_L1, h70, cs4])
  refine KS ?_
  refine Oq Vm ?_
  refine Oq (VaddC (a := start_32) (b := (Cpx.mk 0#64 4607182418800017408#64)) (h := (by first | (unfold i64ok; omega) | exact (WQ_inc (by assumption) aM1 aM1).1 | exact (WQ_dn (by assumption) aM1 aM1).1))) (Oq Va (KS ?_))
  refine Oq (Vadd (h := (by first | (unfold i64ok; omega) | exact (WQ_inc (by assumption) aM1 aM1).1 | exact (WQ_dn (by assumption) aM1 aM1).1))) (Oq Vm (KS ?_))
  refine Fl 1 fun hn76 => ?_; (try unfold vl); rw [← hn76]
  exact Kg (r48, at__54, (cadd start_32 (Cpx.mk 0#64 4607182418800017408#64)), (v29_33 + 1), a34, k35) [1, 1] ⟨(q3 hM36 (by simp only [layout_Place_L0, h46, h70, hR75, cs4])), aM1, aM1, aM1, aM1, iv1, (by assumption), (WQ_dn (by assumption) aM1 aM1).2⟩
 intro h46
 have g77 := df h46
 obtain rfl : r30 = 0 := by omega
 refine Ke ?_
 have hR78 := q2 hM36 at__31 (by simp only [layout_Place_L0, h46, cs4])
 refine KS ?_
 refine Oq Vm (Oq Va (Oq Va (KS ?_)))
 refine Jl [0] (Ent.freeze _ _) ?_
 have hq := q4 hrr (at__31, 0) (by simp only [layout_Place, h9, h46, hg6, hg17, hg25, hR78, cs4]); subst hq
 exact Kr (vl a34 k35 at__31) rfl (.tmp rfl (.tmp rfl .nil)) [0] ⟨en, (by first | assumption | (intro y hy; cases hy)), (by first | exact Nat.zero_le _ | (dsimp only; omega))⟩
theorem fn76 (i : Int) (hi_0 : i64ok i) (rr : Str) (hrr : ic_small i = .ret rr) : FT Tryd.prog 76 #[vi i] [] (fun g : Unit => rr.b.length ≤ 140737488355328) (fun g => .string (bs rr)) (fun g => []) := by
 refine FTi Tryd.func76 fun w0 M0 F0 => ?_
 unfold i64ok at hi_0
 have hx0 := lrn rr; have H := hrr; unfold ic_small at H
 refine KS ?_
 refine Oq Va (KS ?_)
 refine Oq Vm (Oq Vlss (KS ?_))
 refine pT H hx0 fun h1 H => ?_
 refine KcT h1 ?_
 have g2 := dt h1
 refine KS ?_
 refine Oq Vm (Oq Vm ?_)
 refine pC H hx0 fun hc3 H => ?_
 refine Oq Vadd ?_
 refine pC H hx0 fun hc4 H => ?_
 have hb5 : tab1.b.length = 36 := rfl
 refine Oq (VslS un9 (l := tab1)) ?_
 have hb6 := sub_len3 tab1 i.toNat ((i + 1) : Int).toNat
 refine Oq Va (KS ?_)
 have hq := rI H; subst hq
 exact Kr () rfl (.tmp rfl .nil) [] en
theorem fn61 (i : Int) (base : Int) (hi_0 : i64ok i) (hbase_0 : i64ok base) (rr : Str) (hrr : ic_FormatInt i base = .ret rr) : FT Tryd.prog 61 #[vi i, vi base] [] (fun g : Unit => rr.b.length ≤ 140737488355328) (fun g => .string (bs rr)) (fun g => []) := by
 refine FTi Tryd.func61 fun w0 M0 F0 => ?_
 unfold i64ok at hi_0 hbase_0
 have hx0 := lrn rr; have H := hrr; unfold ic_FormatInt at H
 refine KS ?_
 refine Oq Va (KS ?_)
 refine Oq Vm (Oq Veql (KS ?_))
 refine pT H hx0 fun h1 H => ?_
 refine KcT h1 ?_
 have g2 := eq_of_beq h1
 refine KS ?_
 refine Oq Vm (Oq Vleq (Oq Vm ?_))
 refine pT H hx0 fun h3 H => ?_
 refine JsT 14 h3 ?_
 have g4 := dt h3
 refine Oq Vm (Oq Vlss (Oq Vpt (KS ?_)))
 refine pT H hx0 fun h5 H => ?_
 refine KcT h5 ?_
 have g6 := dt h5
 refine KS ?_
 refine Oq Vm ?_
 refine lbH H hx0 fun rv7 hg8 H => ?_
 have hc9 := fn76 i pre rv7 hg8
 refine Oc [] ca76 hc9 ?_
 rintro - he10
 refine Oq Va (KS ?_)
 have hq := rI H; subst hq
 exact Kr () rfl (.tmp rfl .nil) [] en
theorem fn50 (i : Int) (hi_0 : i64ok i) (rr : Str) (hrr : ic_Itoa i = .ret rr) : FT Tryd.prog 50 #[vi i] [] (fun g : Unit => rr.b.length ≤ 140737488355328) (fun g => .string (bs rr)) (fun g => []) := by
 refine FTi Tryd.func50 fun w0 M0 F0 => ?_
 unfold i64ok at hi_0
 have hx0 := lrn rr; have H := hrr; unfold ic_Itoa at H
 refine KS ?_
 refine Oq Va (KS ?_)
 refine Oq Vm ?_
 refine lbH H hx0 fun rv1 hg2 H => ?_
 have hc3 := fn61 i 10 pre pre rv1 hg2
 refine Oc [] ca61 hc3 ?_
 rintro - he4
 refine Oq Va (KS ?_)
 have hq := rI H; subst hq
 exact Kr () rfl (.tmp rfl .nil) [] en
theorem fn34 (i : Int) (hi_0 : i64ok i) (rr : Str) (hrr : st_Itoa i = .ret rr) : FT Tryd.prog 34 #[vi i] [] (fun g : Unit => rr.b.length ≤ 140737488355328) (fun g => .string (bs rr)) (fun g => []) := by
 refine FTi Tryd.func34 fun w0 M0 F0 => ?_
 unfold i64ok at hi_0
 have hx0 := lrn rr; have H := hrr; unfold st_Itoa at H
 refine KS ?_
 refine Oq Va (KS ?_)
 refine Oq Vm ?_
 refine lbH H hx0 fun rv1 hg2 H => ?_
 have hc3 := fn50 i pre rv1 hg2
 refine Oc [] ca50 hc3 ?_
 rintro - he4
 refine Oq Va (KS ?_)
 have hq := rI H; subst hq
 exact Kr () rfl (.tmp rfl .nil) [] en
def lay166_ren : Go.Shelf.Ren := ⟨(fun n => match n with | 166 => 35 | 240 => 51 | 276 => 62 | _ => 0), (fun n => match n with | 0 => 0 | 3 => 3 | 4 => 4 | 5 => 5 | 9 => 9 | 20 => 20 | 37 => 75 | 70 => 74 | 72 => 77 | 75 => 81 | 80 => 85 | 164 => 111 | _ => 0), (fun _ => 0)⟩
theorem lay166 : Go.Proofs.Lays.n166 Tryd.prog lay166_ren where
 mixed := by kernel_rfl
 f166 := by kernel_rfl
 f240 := by kernel_rfl
 f276 := by kernel_rfl
 t0 := by kernel_rfl
 a0 := fun w => rfl
 z0 := fun w => rfl
 v0 := fun w => rfl
 t3 := by kernel_rfl
 a3 := fun w => rfl
 z3 := fun w => rfl
 v3 := fun w => rfl
 t4 := by kernel_rfl
 a4 := fun w => rfl
 z4 := fun w => rfl
 v4 := fun w => rfl
 t9 := by kernel_rfl
 a9 := fun w => rfl
 z9 := fun w => rfl
 v9 := fun w => rfl
 t20 := by kernel_rfl
 a20 := fun w => rfl
 z20 := fun w => rfl
 v20 := fun w => rfl
 t37 := by kernel_rfl
 a37 := fun w => rfl
 z37 := fun w => rfl
 v37 := fun w => rfl
 t70 := by kernel_rfl
 a70 := fun w => rfl
 z70 := fun w => rfl
 v70 := fun w => rfl
 t72 := by kernel_rfl
 a72 := fun w => rfl
 z72 := fun w => rfl
 v72 := fun w => rfl
 t75 := by kernel_rfl
 a75 := fun w => rfl
 z75 := fun w => rfl
 v75 := fun w => rfl
 t164 := by kernel_rfl
 a164 := fun w => rfl
 z164 := fun w => rfl
 v164 := fun w => rfl
theorem lay166x : Go.Proofs.Builder.Extra Tryd.prog lay166_ren where
 sizeBuilder := by kernel_rfl
 liesBuilder := by kernel_rfl
 t5 := by kernel_rfl
 a5 := fun w => rfl
 z5 := fun w => rfl
 v5 := fun w => rfl
 infoByte := by kernel_rfl
 cellsByte := by kernel_rfl
 sizeByte := by kernel_rfl
 neB5 := by decide
theorem fn35 (bP : Value) (b : List UInt8) (s : Str) (hs_0 : s.b.length ≤ 140737488355328) (rr : List UInt8) (hrr : Builder_WriteString b s = .ret rr) : FT Tryd.prog 35 #[bP, .string (bs s)] [BD 77 5 bP b] (fun g : Unit => True) (fun g => .tuple #[vi (s.b.length : Int), .nilIface]) (fun g => [BD 77 5 bP rr]) := by
 have hrr' := hrr
 unfold Builder_WriteString at hrr'
 cases hl : decide (b.length + s.b.length ≤ 140737488355328) with
 | false => rw [hl] at hrr'; cases hrr'
 | true =>
 rw [hl] at hrr'; injection hrr' with hrr'; subst hrr'
 exact FT_wstr lay166 lay166x bP b s (of_decide_eq_true hl)
def lay156_ren : Go.Shelf.Ren := ⟨(fun n => match n with | 156 => 36 | 165 => 52 | 166 => 35 | 169 => 37 | 240 => 51 | 241 => 63 | 276 => 62 | 277 => 80 | _ => 0), (fun n => match n with | 0 => 0 | 3 => 3 | 4 => 4 | 5 => 5 | 9 => 9 | 20 => 20 | 31 => 78 | 37 => 75 | 70 => 74 | 72 => 77 | 75 => 81 | 76 => 82 | 80 => 85 | 127 => 98 | 164 => 111 | _ => 0), (fun _ => 0)⟩
theorem lay156 : Go.Proofs.Lays.n156 Tryd.prog lay156_ren where
 mixed := by kernel_rfl
 f156 := by kernel_rfl
 f165 := by kernel_rfl
 f166 := by kernel_rfl
 f169 := by kernel_rfl
 f240 := by kernel_rfl
 f241 := by kernel_rfl
 f276 := by kernel_rfl
 f277 := by kernel_rfl
 t0 := by kernel_rfl
 a0 := fun w => rfl
 z0 := fun w => rfl
 v0 := fun w => rfl
 t3 := by kernel_rfl
 a3 := fun w => rfl
 z3 := fun w => rfl
 v3 := fun w => rfl
 t4 := by kernel_rfl
 a4 := fun w => rfl
 z4 := fun w => rfl
 v4 := fun w => rfl
 t9 := by kernel_rfl
 a9 := fun w => rfl
 z9 := fun w => rfl
 v9 := fun w => rfl
 t20 := by kernel_rfl
 a20 := fun w => rfl
 z20 := fun w => rfl
 v20 := fun w => rfl
 t31 := by kernel_rfl
 a31 := fun w => rfl
 z31 := fun w => rfl
 v31 := fun w => rfl
 t37 := by kernel_rfl
 a37 := fun w => rfl
 z37 := fun w => rfl
 v37 := fun w => rfl
 t70 := by kernel_rfl
 a70 := fun w => rfl
 z70 := fun w => rfl
 v70 := fun w => rfl
 t72 := by kernel_rfl
 a72 := fun w => rfl
 z72 := fun w => rfl
 v72 := fun w => rfl
 t75 := by kernel_rfl
 a75 := fun w => rfl
 z75 := fun w => rfl
 v75 := fun w => rfl
 t76 := by kernel_rfl
 a76 := fun w => rfl
 z76 := fun w => rfl
 v76 := fun w => rfl
 t127 := by kernel_rfl
 a127 := fun w => rfl
 z127 := fun w => rfl
 v127 := fun w => rfl
 t164 := by kernel_rfl
 a164 := fun w => rfl
 z164 := fun w => rfl
 v164 := fun w => rfl
theorem lay156x : Go.Proofs.Builder.Extra Tryd.prog lay156_ren where
 sizeBuilder := by kernel_rfl
 liesBuilder := by kernel_rfl
 t5 := by kernel_rfl
 a5 := fun w => rfl
 z5 := fun w => rfl
 v5 := fun w => rfl
 infoByte := by kernel_rfl
 cellsByte := by kernel_rfl
 sizeByte := by kernel_rfl
 neB5 := by decide
theorem fn36 (elems : List Str) (elemsa0 : Option Addr) (elemsk0 : Nat) (sep : Str) (hsep_0 : sep.b.length ≤ 140737488355328) (rr : Str) (hrr : strings_Join elems sep = .ret rr) : FT Tryd.prog 36 #[vl elemsa0 elemsk0 elems, .string (bs sep)] [S elemsa0 elemsk0 elems] (fun g : Unit => rr.b.length ≤ 140737488355328) (fun g => .string (bs rr)) (fun g => []) := by
 have hrr' := hrr
 unfold strings_Join at hrr'
 cases hl : decide ((joinS elems sep).b.length ≤ 140737488355328) with
 | false => rw [hl] at hrr'; cases hrr'
 | true =>
 rw [hl] at hrr'; injection hrr' with hrr'; subst hrr'
 have hj0 := of_decide_eq_true hl
 exact FT_join (fun bk o c xs sep w h1 h2 h3 h4 h5 => Go.Proofs.Any.strings_Join lay156 lay156x bk o c xs sep w h1 h2 h3 h4 h5) (fun a c sep w => Go.Proofs.Any.strings_Join_none lay156 lay156x a c sep w) elemsa0 elemsk0 elems sep hj0
def lay169_ren : Go.Shelf.Ren := ⟨(fun n => match n with | 169 => 37 | _ => 0), (fun n => match n with | 0 => 0 | 3 => 3 | 5 => 5 | 9 => 9 | 37 => 75 | 70 => 74 | 72 => 77 | 127 => 98 | _ => 0), (fun _ => 0)⟩
theorem lay169 : Go.Proofs.Lays.n169 Tryd.prog lay169_ren where
 mixed := by kernel_rfl
 f169 := by kernel_rfl
 t0 := by kernel_rfl
 a0 := fun w => rfl
 z0 := fun w => rfl
 v0 := fun w => rfl
 t3 := by kernel_rfl
 a3 := fun w => rfl
 z3 := fun w => rfl
 v3 := fun w => rfl
 t9 := by kernel_rfl
 a9 := fun w => rfl
 z9 := fun w => rfl
 v9 := fun w => rfl
 t37 := by kernel_rfl
 a37 := fun w => rfl
 z37 := fun w => rfl
 v37 := fun w => rfl
 t70 := by kernel_rfl
 a70 := fun w => rfl
 z70 := fun w => rfl
 v70 := fun w => rfl
 t72 := by kernel_rfl
 a72 := fun w => rfl
 z72 := fun w => rfl
 v72 := fun w => rfl
 t127 := by kernel_rfl
 a127 := fun w => rfl
 z127 := fun w => rfl
 v127 := fun w => rfl
theorem lay169x : Go.Proofs.Builder.Extra Tryd.prog lay169_ren where
 sizeBuilder := by kernel_rfl
 liesBuilder := by kernel_rfl
 t5 := by kernel_rfl
 a5 := fun w => rfl
 z5 := fun w => rfl
 v5 := fun w => rfl
 infoByte := by kernel_rfl
 cellsByte := by kernel_rfl
 sizeByte := by kernel_rfl
 neB5 := by decide
theorem fn37 (bP : Value) (b : List UInt8) (rr : Str) (hrr : Builder_String b = .ret rr) : FT Tryd.prog 37 #[bP] [BD 77 5 bP b] (fun g : Unit => rr.b.length ≤ 140737488355328) (fun g => .string (bs rr)) (fun g => []) := by
 have hrr' := hrr
 unfold Builder_String at hrr'
 cases hl : decide (b.length ≤ 140737488355328) with
 | false => rw [hl] at hrr'; cases hrr'
 | true =>
 rw [hl] at hrr'; injection hrr' with hrr'; subst hrr'
 exact FT_bstr lay169 lay169x bP b (of_decide_eq_true hl)
theorem fn21 (g : GGraph) (ga0 : Option Addr) (gk0 : Nat) (ga1 : Option Addr) (gk1 : Nat) (ga2 : Option Addr) (gk2 : Nat) (root : Int) (hroot_0 : i64ok root) (rr : Str × Int) (hrr : layout_Draw g root = .ret rr) : FT Tryd.prog 21 #[.agg #[vl ga0 gk0 g.Nodes, vl ga1 gk1 g.Succ, vl ga2 gk2 g.Pred], vi root] [S ga0 gk0 g.Nodes, S ga1 gk1 g.Succ, S ga2 gk2 g.Pred] (fun g : Unit => rr.1.b.length ≤ 140737488355328 ∧ i64ok rr.2) (fun g => .tuple #[.string (bs rr.1), vi rr.2]) (fun g => []) := by
 refine FTi Tryd.func21 fun w0 M0 F0 => ?_
 unfold i64ok at hroot_0
 refine Fb 32 0 fun _ => Fb 24 1 fun _ => Fb 24 2 fun _ => ?_
 have hx0 := lrn rr; have H := hrr; unfold layout_Draw at H
 refine KS ?_
 refine Oa (Ab [vl ga0 gk0 g.Nodes, vl ga1 gk1 g.Succ, vl ga2 gk2 g.Pred]) fun p4 => Oq Va (Oq Va (KS ?_))
 refine Oq (VldA sh42 0) (Oq Vm ?_)
 refine lvH H fun rv5 hg6 H => ?_
 have hc7 := fn31 g ga0 gk0 ga1 gk1 ga2 gk2 root pre rv5 hg6
 refine Oc [1, 2, 3] ca31 hc7 ?_
 rintro - he8
 unfold i64ok at he8
 refine Oq Va (KS ?_)
 refine Oq Vm (Oq Vneq (KS ?_))
 refine pF H hx0 fun h9 H => ?_
 refine KcF h9 ?_
 have g10 := eq_of_bne_false h9
 refine KS ?_
 refine Oa (AlB 5 ze77) fun p11 => KS ?_
 refine Oq (VldA sh42 1) (Oq Vm ?_)
 refine pC H hx0 fun hc12 H => ?_
 refine pC H hx0 fun hc13 H => ?_
 refine pC H hx0 fun hc14 H => ?_
 refine lvH H fun rv16 hg17 H => ?_
 have hc18 := fn33 g ga0 gk0 ga1 gk1 ga2 gk2 root pre pre pre pre rv16 hg17
 refine Oc [2, 3, 4] ca33 hc18 ?_
 rintro c15 -
 refine Jo 0 ?_; rintro a19 k20 rfl
 refine Fb 24 0 fun _ => ?_
 refine Oq (Vlen sl40) (Oq Vm (KS ?_))
 refine llH H hx0 fun X30 hX31 hx32 HL33 => ?_
 refine Kl (γ := Nat × List UInt8 × Int) (fun (r22, b_23, v23_24) => ⟨[(7, p11), (21, vl a19 k20 rv16), (22, vi (rv16.length : Int)), (23, vi v23_24)], [S a19 k20 rv16, BD 77 5 p11 b_23], layout_Draw_L0 rv16 r22 b_23 v23_24 = X30 ∧ r22 = ((rv16.length : Int) - v23_24).toNat ∧ (0 : Int) ≤ v23_24 ∧ v23_24 ≤ (rv16.length : Int) ∧ (-9223372036854775808 ≤ v23_24 ∧ v23_24 ≤ 9223372036854775807), r22⟩) (((rv16.length : Int) - 0).toNat, [], 0) [0, 1] ⟨hX31, rfl, aM1, aM1, aM1⟩ ?_
 rintro ⟨r22, b_23, v23_24⟩ ⟨hM25, hr26, hi27, hi28, hk29⟩
 refine JJ_nx fun _ _ hL hA => ?_; dsimp only at hL hA; subst hL hA
 refine Fb 24 0 fun _ => KS ?_
 refine Oq Vlss (KS ?_)
 refine Kc ?_ ?_
 ·intro h35
  have g36 := dt h35
  obtain ⟨r37, rfl⟩ := scc (n := r22) aM1
  have H := hM25; (try dsimp only at H); rw [layout_Draw_L0] at H
  refine KS ?_
  refine pC H hx32 fun hc38 H => ?_
  refine Oq (Vi sl40 0) ?_
  refine JJ_peekL v23_24.toNat 0 rfl rng fun a39 k40 => ?_
  refine Fb 8 1 fun _ => Fo 1 fun ho42 => ?_
  refine Oq (Vld sh22 0) (Oq Va (KS ?_))
  refine Oq Va (KS ?_)
  refine Oq Vm (Oq (Vlen sl22) (Oq Vm (KS ?_)))
  refine Jl [] (Ent.osNil (α := Str)) ?_
  refine pC H hx32 fun hc53 H => ?_
  refine llH H hx32 fun X54 hX55 hx56 HL57 => ?_
  refine Kl (γ := Nat × List Str × Int × Option Addr × Nat) (fun (r43, words_44, v29_45, a46, k47) => ⟨[(7, p11), (21, vl a19 k20 rv16), (22, vi (rv16.length : Int)), (23, vi v23_24), (10, vl a46 k47 words_44), (27, vl a39 k40 (rv16.getD v23_24.toNat [])), (28, vi ((rv16.getD v23_24.toNat []).length : Int)), (29, vi v29_45)], [O a46 k47 words_44, S a39 k40 ((rv16.getD v23_24.toNat []) : List Int), S a19 k20 rv16, BD 77 5 p11 b_23], layout_Draw_L1 (rv16.getD v23_24.toNat []) r43 words_44 v29_45 = X54 ∧ r43 = ((((rv16.getD v23_24.toNat []).length : Int) : Int) - v29_45).toNat ∧ (0 : Int) ≤ v29_45 ∧ (v29_45 ≤ ((rv16.getD v23_24.toNat []).length : Int) ∨ v29_45 = 0) ∧ (-9223372036854775808 ≤ v29_45 ∧ v29_45 ≤ 9223372036854775807), r43⟩) (((((rv16.getD v23_24.toNat []).length : Int) : Int) - 0).toNat, [], 0, none, 0) [0, 1, 2, 3] ⟨hX55, rfl, aM1, (.inr rfl), aM1⟩ ?_
  rintro ⟨r43, words_44, v29_45, a46, k47⟩ ⟨hM48, hr49, hi50, hi51, hk52⟩
  refine JJ_nx fun _ _ hL hA => ?_; dsimp only at hL hA; subst hL hA
  refine Fb 16 0 fun _ => ?_
  refine FoS 0 fun ho59 => ?_
  refine Fb 8 1 fun _ => Fo 1 fun ho61 => Fb 24 2 fun _ => KS ?_
  refine Oq Vlss (KS ?_)
  refine Kc ?_ ?_
  ·intro h63
   have g64 := dt h63
   obtain ⟨r65, rfl⟩ := scc (n := r43) aM1
   have H := hM48; (try dsimp only at H); rw [layout_Draw_L1] at H
   refine KS ?_
   refine pC H hx56 fun hc66 H => ?_
   refine Oq (Vi sl22 1) ?_
   have hb67 := ok1 (i := v29_45.toNat) ho61 rng
   refine Oq (VldI sh3 1) (Oq Va (KS ?_))
   refine Oq Vm (Oq Vm ?_)
   refine lbH H hx56 fun rv68 hg69 H => ?_
   have hc70 := fn34 (((rv16.getD v23_24.toNat []).getD v29_45.toNat 0)) pre rv68 hg69
   refine Oc [] ca34 hc70 ?_
   rintro - he71
   refine Oa (AsV sl78 sz78 [.string (bs rv68)] [.string (bs rv68)]) fun c72 => ?_
   refine Jo 0 ?_; rintro a73 k74 rfl
   refine Jl [0] (Ent.cr1 (α := Str) (A := []) _ rv68 _ aB1 (fun _ => ⟨rfl, aS1⟩)) ?_
   refine pC H hx56 fun hc75 H => ?_
   refine Oa (ApO [1, 0] sl78 sl78 sz78) fun c76 => ?_
   refine Jo 0 ?_; rintro a77 k78 rfl
   refine Fb 16 0 fun _ => ?_
   refine FoS 0 fun ho80 => ?_
   have hn81 := la words_44 ([rv68] : List Str)
   refine Oq Va (KS ?_)
   refine Oq Vadd (Oq Vm (KS ?_))
   refine pC H hx56 fun hc82 H => ?_
   exact Kg (r65, (words_44 ++ [rv68]), (v29_45 + 1), a77, k78) [0, 0, 1, 2] ⟨H, aM1, aM1, aM1, aM1⟩
  intro h63
  have g83 := df h63
  obtain rfl : r43 = 0 := by omega
  have H := hM48; (try dsimp only at H); rw [layout_Draw_L1] at H
  refine Ke ?_
  have H := llB H HL57
  refine KS ?_
  refine Oq Vm ?_
  refine lbH H hx32 fun rv84 hg85 H => ?_
  refine Oc [0] ca36 (FT_borrow (A := _) (fun _ _ h => by cases h) (FT_ent (Ent.take (is := [0]) rfl) (fn36 words_44 a46 k47 ((Str.mk [32])) pre rv84 hg85))) ?_ (ht := rfl)
  rintro - he86
  have hb87 := sadd_len rv84 (Str.mk [10])
  have hb88 : (Str.mk [10]).b.length = 1 := rfl
  refine pC H hx32 fun hc89 H => ?_
  refine Oq (VadS (l := rv84) (m := (Str.mk [10]))) ?_
  refine lbH H hx32 fun rv90 hg91 H => ?_
  have hc92 := fn35 p11 b_23 ((rv84 ++ (Str.mk [10]))) pre rv90 hg91
  refine Oc [3] ca35 hc92 ?_
  rintro - -
  refine KS ?_
  refine Oq Vadd (Oq Vm (KS ?_))
  refine pC H hx32 fun hc93 H => ?_
  exact Kg (r37, rv90, (v23_24 + 1)) [3, 0] ⟨H, aM1, aM1, aM1, aM1⟩
 intro h35
 have g94 := df h35
 obtain rfl : r22 = 0 := by omega
 have H := hM25; (try dsimp only at H); rw [layout_Draw_L0] at H
 refine Ke ?_
 have H := llB H HL33
 refine KS ?_
 refine lbH H hx0 fun rv95 hg96 H => ?_
 have hc97 := fn37 p11 b_23 rv95 hg96
 refine Oc [1] ca37 hc97 ?_
 rintro - he98
 refine Oq Va (Oq Va (KS ?_))
 have hq := rI H; subst hq
 exact Kr () rfl (.tmp rfl (.tmp rfl .nil)) [] en
theorem fn11O  (rr : Bool) (hrr : w33_saneO = .ret rr) : FT Tryd.prog 11 #[] [] (fun g : Unit => True) (fun g => vb rr) (fun g => []) := by
 refine FTi Tryd.func11 fun w0 M0 F0 => ?_
 have hx0 := lrn rr; have H := hrr; unfold w33_saneO at H
 refine KS ?_
 refine Oq Va (KS ?_)
 refine lbH H hx0 fun rv4 hg5 H => ?_
 have hc6 := fn13  rv4 hg5
 refine Oc [] ca13 hc6 ?_
 rintro ⟨c1, c2, c3⟩ -
 refine Jo 0 ?_; rintro a7 k8 rfl
 refine Fb 32 0 fun _ => ?_
 refine Jo 1 ?_; rintro a10 k11 rfl
 refine Fb 24 1 fun _ => ?_
 refine Jo 2 ?_; rintro a13 k14 rfl
 refine Fb 24 2 fun _ => ?_
 refine pC H hx0 fun hc16 H => ?_
 refine lvH H fun rv18 hg19 H => ?_
 have hc20 := fn20 rv4 a7 k8 a10 k11 a13 k14 0 pre pre rv18 hg19
 refine Oc [0, 1, 2] ca20 hc20 ?_
 rintro c17 ⟨he21, he22, he23⟩
 unfold i64ok at he21
 refine Jo 0 ?_; rintro a24 k25 rfl
 refine Fb 16 0 fun _ => ?_
 refine Oq Vm (Oq Vx (Oq Vx (Oq Va (Oq Va (KS ?_)))))
 have hc30 := fn13  rv4 hg5
 refine Oc [] ca13 hc30 ?_
 rintro ⟨c27, c28, c29⟩ -
 refine Jo 0 ?_; rintro a31 k32 rfl
 refine Jo 1 ?_; rintro a33 k34 rfl
 refine Jo 2 ?_; rintro a35 k36 rfl
 refine lbH H hx0 fun rv37 hg38 H => ?_
 have hc39 := fn21 rv4 a31 k32 a33 k34 a35 k36 0 pre rv37 hg38
 refine Oc [0, 1, 2] ca21 hc39 ?_
 rintro - ⟨he40, he41⟩
 unfold i64ok at he41
 refine Oq Vm (Oq Vx (Oq Vx (Oq Va (Oq Va (KS ?_)))))
 refine Oa (AsV sl30 sz30 [cxv (Cpx.mk 0#64 4607182418800017408#64)] [cxv (Cpx.mk 0#64 4607182418800017408#64)]) fun c42 => ?_
 refine Jo 0 ?_; rintro a43 k44 rfl
 refine Jl [0] (Ent.cr1 (α := Cpx) (A := []) _ (Cpx.mk 0#64 4607182418800017408#64) _ aB1 (fun _ => rfl)) ?_
 refine Jl [0] (Ent.freeze _ _) ?_
 refine lbH H hx0 fun rv46 hg47 H => ?_
 have hc48 := fn10 ([(Cpx.mk 0#64 4607182418800017408#64)]) a43 k44 1 pre rv46 hg47
 refine Oc [0] ca10 hc48 ?_
 rintro c45 -
 refine Jo 0 ?_; rintro a49 k50 rfl
 refine Fb 16 0 fun _ => ?_
 refine Oq Va (KS ?_)
 refine Oq Vm (Oq Veql (Oq Vm ?_))
 refine pT H hx0 fun h52 H => ?_
 refine JsT 20 h52 ?_
 have g53 := eq_of_beq h52
 refine Oq Vm (Oq Veql (Oq Vpt (Oq Vm ?_)))
 refine pT H hx0 fun h54 H => ?_
 refine JsT 24 h54 ?_
 have g55 := eq_of_beq h54
 refine Oq Vm (Oq (Vlen sl30) (Oq Veql (Oq Vpt (Oq Vm ?_))))
 refine pT H hx0 fun h56 H => ?_
 refine JsT 29 h56 ?_
 have g57 := eq_of_beq h56
 refine Oq Vm ?_
 refine pC H hx0 fun hc58 H => ?_
 refine Oq (Vi sl30 5) (Oq (VldCx sh37 5) (Oq (VeqC (a := (rv18.1.getD (0 : Int).toNat default)) (b := (Cpx.mk 0#64 0#64))) (Oq Vpt (Oq Vm ?_))))
 refine pT H hx0 fun h59 H => ?_
 refine JsT 35 h59 ?_
 refine Oq Vm ?_
 refine pC H hx0 fun hc61 H => ?_
 refine Oq (Vi sl30 5) (Oq (VldCx sh37 5) (Oq (VeqC (a := (rv18.1.getD (1 : Int).toNat default)) (b := (Cpx.mk 0#64 4607182418800017408#64))) (Oq Vpt (Oq Vm ?_))))
 refine pT H hx0 fun h62 H => ?_
 refine JsT 41 h62 ?_
 refine Oq Vm ?_
 refine pC H hx0 fun hc64 H => ?_
 refine Oq (Vi sl30 5) (Oq (VldCx sh37 5) (Oq (VeqC (a := (rv18.1.getD (2 : Int).toNat default)) (b := (Cpx.mk 4607182418800017408#64 4607182418800017408#64))) (Oq Vpt (Oq Vm ?_))))
 refine pT H hx0 fun h65 H => ?_
 refine JsT 47 h65 ?_
 refine Oq Vm ?_
 refine pC H hx0 fun hc67 H => ?_
 refine Oq (Vi sl30 5) (Oq (VldCx sh37 5) (Oq (VeqC (a := (rv18.1.getD (3 : Int).toNat default)) (b := (Cpx.mk 0#64 4611686018427387904#64))) (Oq Vpt (Oq Vm ?_))))
 refine pT H hx0 fun h68 H => ?_
 refine JsT 53 h68 ?_
 have hc73 := fn13  rv4 hg5
 refine Oc [] ca13 hc73 ?_
 rintro ⟨c70, c71, c72⟩ -
 refine Jo 0 ?_; rintro a74 k75 rfl
 refine Jo 1 ?_; rintro a76 k77 rfl
 refine Jo 2 ?_; rintro a78 k79 rfl
 refine Oq Vm ?_
 refine lbH H hx0 fun rv80 hg81 H => ?_
 have hc82 := fn14 rv4 a74 k75 a76 k77 a78 k79 rv18.1 a24 k25 rv80 hg81
 refine Oc [0, 1, 2, 8] ca14 hc82 ?_
 rintro - he83
 unfold i64ok at he83
 refine Oq Veql (Oq Vpt (Oq Vm ?_))
 refine pT H hx0 fun h84 H => ?_
 refine JsT 59 h84 ?_
 have g85 := eq_of_beq h84
 refine Oq Vm (Oq (VeqS (l := rv37.1) (m := (Str.mk [48, 10, 49, 32, 50, 10, 51, 10]))) (Oq Vpt (Oq Vm ?_)))
 refine pT H hx0 fun h86 H => ?_
 refine JsT 63 h86 ?_
 have g87 := eq_of_beq h86
 refine Oq Vm (Oq (Vlen sl30) (Oq Veql (Oq Vpt (Oq Vm ?_))))
 refine pT H hx0 fun h88 H => ?_
 refine JsT 68 h88 ?_
 have g89 := eq_of_beq h88
 refine Oq Vm ?_
 refine pC H hx0 fun hc90 H => ?_
 refine Oq (Vi sl30 3) (Oq (VldCx sh37 3) (Oq (VeqC (a := (rv46.getD (0 : Int).toNat default)) (b := (Cpx.mk 13830554455654793216#64 0#64))) (Oq Vpt (Oq Va (KS ?_)))))
 have hq := rI H; subst hq
 exact Kr () rfl (.tmp rfl .nil) [] trivial
theorem w33_sane_c : w33_saneO = .ret true := by kernel_rfl
theorem fn11  (rr : Bool) (hrr : w33_sane = rr) : FT Tryd.prog 11 #[] [] (fun g : Unit => True) (fun g => vb rr) (fun g => []) := by
 subst hrr; exact fn11O  true w33_sane_c
theorem fn26 (l : List Int) (la0 : Option Addr) (lk0 : Nat) (n : Int) (hn_0 : i64ok n) (hl0 : l.length ≤ 1000000000) (rr : List Int) (hrr : r7_Insert l n = rr) : FT Tryd.prog 26 #[vl la0 lk0 l, vi n] [S la0 lk0 l] (fun g : Value => (rr.length ≤ l.length + 1)) (fun g => g) (fun g => [sl g rr]) := by
 refine FTi Tryd.func26 fun w0 M0 F0 => ?_
 unfold i64ok at hn_0
 refine Fb 8 0 fun _ => Fo 0 fun ho2 => KS ?_
 refine Oq Va (KS ?_)
 refine Oq Va (KS ?_)
 refine Kl (γ := Nat × Int) (fun (r3, i_4) => ⟨[(0, vl la0 lk0 l), (1, vi n), (5, vi i_4)], [S la0 lk0 l], r7_Insert_L0 l n r3 i_4 = r7_Insert_L0 l n (((l.length : Int) - 0).toNat) 0 ∧ r3 = ((l.length : Int) - i_4).toNat ∧ (0 : Int) ≤ i_4 ∧ i_4 ≤ (l.length : Int) ∧ (-9223372036854775808 ≤ i_4 ∧ i_4 ≤ 9223372036854775807), r3⟩) (((l.length : Int) - 0).toNat, 0) [0] ⟨rfl, rfl, aM1, aM1, aM1⟩ ?_
 rintro ⟨r3, i_4⟩ ⟨hM5, hr6, hi7, hi8, hk9⟩
 refine JJ_nx fun _ _ hL hA => ?_; dsimp only at hL hA; subst hL hA
 refine Fb 8 0 fun _ => Fo 0 fun ho11 => KS ?_
 refine Oq Vm (Oq Vm (Oq (Vlen sl22) (Oq Vlss (Oq Vm ?_))))
 refine Js 11 ?_ ?_
 ·intro h12
  have g13 := dt h12
  obtain ⟨r14, rfl⟩ := scc (n := r3) aM1
  refine Oq Vm (Oq Vm (Oq (Vi sl22 0) ?_))
  have hb15 := ok1 (i := i_4.toNat) ho11 rng
  refine Oq (VldI sh3 0) (Oq Vm (Oq Vlss (Oq Vpt (KS ?_))))
  refine Kc ?_ ?_
  ·intro h16
   have g17 := dt h16
   refine KS ?_
   refine Oq Vm (Oq Vadd (Oq Va (KS ?_)))
   exact Kg (r14, (i_4 + 1)) [0] ⟨(q3 hM5 (by simp only [r7_Insert_L0, h12, h16, cs4])), aM1, aM1, aM1, aM1⟩
  intro h16
  have g18 := df h16
  refine Ke ?_
  have hR19 := q2 hM5 i_4 (by simp only [r7_Insert_L0, h12, h16, cs4])
  refine KS ?_
  refine Oq Vm (Oq Vm (Oq (Vlen sl22) (Oq Vlss (Oq Vm ?_))))
  refine Js 25 ?_ ?_
  ·intro h20
   have g21 := dt h20
   refine Oq Vm (Oq Vm (Oq (Vi sl22 0) ?_))
   have hb22 := ok1 (i := i_4.toNat) ho11 rng
   refine Oq (VldI sh3 0) (Oq Vm (Oq Veql (Oq Vpt (KS ?_))))
   refine Kc ?_ ?_
   ·intro h23
    have g24 := eq_of_beq h23
    refine KS ?_
    refine Oq Vm (Oq Va (KS ?_))
    have hq := q4 hrr l (by simp only [r7_Insert, h12, h16, h20, h23, hR19, cs4]); subst hq
    exact Kr (vl la0 lk0 l) rfl (.tmp rfl .nil) [0] en
   intro h23
   have g25 := ne_of_beq_false h23
   refine KS ?_
   refine Oa (As0 sl22) fun c26 => ?_
   refine Jo 0 ?_; rintro a27 k28 rfl
   refine Oq Vm (Oq Vm (Oa (Asl [1] sl22 0 (i_4.toNat)) fun c29 => ?_))
   refine Jo 0 ?_; rintro a30 k31 rfl
   refine Fb 8 0 fun _ => Fo 0 fun ho33 => ?_
   have hn34 : ((l.take (i_4.toNat)).drop 0).length = (i_4.toNat) - 0 := len_slice rng rng
   refine Jl [1] (Ent.crNil (α := Int) _) ?_
   refine Oa (Ap0 [0, 0] sl22 sl22 sz22) fun c35 => ?_
   refine Jo 0 ?_; rintro a36 k37 rfl
   refine Oq Va (KS ?_)
   refine Oq Vm (Oq Vm (Oa (AsV sl22 sz22 [vi n] [vi n]) fun c38 => ?_))
   refine Jo 0 ?_; rintro a39 k40 rfl
   refine Jl [0] (Ent.crInt _ [n] _ _ rfl rfl (by intro x hx; rw [List.mem_singleton] at hx; subst hx; unfold i64ok; omega) aB1) ?_
   refine Oa (ApO [1, 0] sl22 sl22 sz22) fun c41 => ?_
   refine Jo 0 ?_; rintro a42 k43 rfl
   refine Fb 8 0 fun _ => Fo 0 fun ho45 => ?_
   have hn46 := la ((l.take (i_4.toNat)).drop 0) ([n] : List Int)
   refine Oq Va (KS ?_)
   refine Oq Vm (Oq Vm (Oq Vm (Oa (Asl [2] sl22 (i_4.toNat) l.length) fun c47 => ?_)))
   refine Jo 0 ?_; rintro a48 k49 rfl
   refine Fb 8 0 fun _ => Fo 0 fun ho51 => ?_
   have hn52 : ((l.take l.length).drop (i_4.toNat)).length = l.length - (i_4.toNat) := len_slice rng rng
   refine Oa (Ap [1, 0] sl22 sl22 sz22) fun c53 => ?_
   refine Jo 0 ?_; rintro a54 k55 rfl
   refine Fb 8 0 fun _ => Fo 0 fun ho57 => ?_
   have hn58 := la ((((l.take (i_4.toNat)).drop 0) ++ [n]) : List Int) ((l.take l.length).drop (i_4.toNat))
   refine Oq Va (KS ?_)
   refine Jl [0] (Ent.freeze _ _) ?_
   have hq := q4 hrr ((((l.take (i_4.toNat)).drop 0) ++ [n]) ++ ((l.take l.length).drop (i_4.toNat))) (by simp only [r7_Insert, h12, h16, h20, h23, hR19, cs4]); subst hq
   exact Kr (.slice a54 (((((l.take (i_4.toNat)).drop 0) ++ [n]) ++ ((l.take l.length).drop (i_4.toNat))).length) k55) rfl (.tmp rfl .nil) [0] en
  intro h20
  exact absurd h20 (by first | (simp [h12]; done) | (simp only [bne, h12]; decide) | (simp only [bne, h12, Bool.not_true, Bool.not_false]; decide) | (exfalso; omega) | (intro hq; simp only [bne, hq, Bool.not_false, Bool.not_true, reduceCtorEq] at h12))
 intro h12
 have g59 := df h12
 obtain rfl : r3 = 0 := by omega
 refine Osk (Osk (Osk (Osk (Osk (Osk (Oq Vpf (KS ?_)))))))
 refine Kf ?_
 refine Ke ?_
 have hR60 := q2 hM5 i_4 (by simp only [r7_Insert_L0, h12, cs4])
 refine KS ?_
 refine Oq Vm (Oq Vm (Oq (Vlen sl22) (Oq Vlss (Oq Vm ?_))))
 refine Js 25 ?_ ?_
 ·intro h61
  exact absurd h61 (by first | (simp [h12]; done) | (simp only [bne, h12]; decide) | (simp only [bne, h12, Bool.not_true, Bool.not_false]; decide) | (exfalso; omega) | (intro hq; simp only [bne, hq, Bool.not_false, Bool.not_true, reduceCtorEq] at h12))
 intro h61
 have g62 := df h61
 refine Osk (Osk (Osk (Osk (Osk (Osk (Oq Vpf (KS ?_)))))))
 refine Kf (KS ?_)
 refine Oa (As0 sl22) fun c63 => ?_
 refine Jo 0 ?_; rintro a64 k65 rfl
 refine Oq Vm (Oq Vm (Oa (Asl [1] sl22 0 (i_4.toNat)) fun c66 => ?_))
 refine Jo 0 ?_; rintro a67 k68 rfl
 refine Fb 8 0 fun _ => Fo 0 fun ho70 => ?_
 have hn71 : ((l.take (i_4.toNat)).drop 0).length = (i_4.toNat) - 0 := len_slice rng rng
 refine Jl [1] (Ent.crNil (α := Int) _) ?_
 refine Oa (Ap0 [0, 0] sl22 sl22 sz22) fun c72 => ?_
 refine Jo 0 ?_; rintro a73 k74 rfl
 refine Oq Va (KS ?_)
 refine Oq Vm (Oq Vm (Oa (AsV sl22 sz22 [vi n] [vi n]) fun c75 => ?_))
 refine Jo 0 ?_; rintro a76 k77 rfl
 refine Jl [0] (Ent.crInt _ [n] _ _ rfl rfl (by intro x hx; rw [List.mem_singleton] at hx; subst hx; unfold i64ok; omega) aB1) ?_
 refine Oa (ApO [1, 0] sl22 sl22 sz22) fun c78 => ?_
 refine Jo 0 ?_; rintro a79 k80 rfl
 refine Fb 8 0 fun _ => Fo 0 fun ho82 => ?_
 have hn83 := la ((l.take (i_4.toNat)).drop 0) ([n] : List Int)
 refine Oq Va (KS ?_)
 refine Oq Vm (Oq Vm (Oq Vm (Oa (Asl [2] sl22 (i_4.toNat) l.length) fun c84 => ?_)))
 refine Jo 0 ?_; rintro a85 k86 rfl
 refine Fb 8 0 fun _ => Fo 0 fun ho88 => ?_
 have hn89 : ((l.take l.length).drop (i_4.toNat)).length = l.length - (i_4.toNat) := len_slice rng rng
 refine Oa (Ap [1, 0] sl22 sl22 sz22) fun c90 => ?_
 refine Jo 0 ?_; rintro a91 k92 rfl
 refine Fb 8 0 fun _ => Fo 0 fun ho94 => ?_
 have hn95 := la ((((l.take (i_4.toNat)).drop 0) ++ [n]) : List Int) ((l.take l.length).drop (i_4.toNat))
 refine Oq Va (KS ?_)
 refine Jl [0] (Ent.freeze _ _) ?_
 have hq := q4 hrr ((((l.take (i_4.toNat)).drop 0) ++ [n]) ++ ((l.take l.length).drop (i_4.toNat))) (by simp only [r7_Insert, h12, h61, hR60, cs4]); subst hq
 exact Kr (.slice a91 (((((l.take (i_4.toNat)).drop 0) ++ [n]) ++ ((l.take l.length).drop (i_4.toNat))).length) k92) rfl (.tmp rfl .nil) [0] en
theorem fn17 (v : Int) (n : Int) (hv_0 : i64ok v) (hn_0 : i64ok n) (hn1 : 1 ≤ n) (rr : Int) (hrr : g_Mod v n = rr) : FT Tryd.prog 17 #[vi v, vi n] [] (fun g : Unit => i64ok rr ∧ (0 ≤ rr ∧ rr < n)) (fun g => vi rr) (fun g => []) := by
 refine FTi Tryd.func17 fun w0 M0 F0 => ?_
 unfold i64ok at hv_0 hn_0
 have hm := mod_range v n aM1
 refine KS ?_
 refine Oq Va (KS ?_)
 refine Oq Vm (Oq (VcU un3 un68) (Oq Vm (Oq (VcU un3 un68) (Oq (VremU (ofInt_ne n aM1)) (Oq (VcN un68 un3 (h := (mod_le v n aM1))) (Oq Va (KS ?_)))))))
 have hq := q4 hrr (((BitVec.ofInt 64 v) % (BitVec.ofInt 64 n)).toNat : Int) (by simp only [g_Mod, cs4]); subst hq
 exact Kr () rfl (.tmp rfl .nil) [] en
theorem fn7 (tP : Value) (ta : Option Addr) (tk : Nat) (tT : List Int) (tI : Int) (n : Int) (htI : 0 ≤ tI ∧ tI ≤ (tT.length : Int)) (hn_0 : i64ok n) (rr : Int × Int) (hrr : tp_Next tT tI n = rr) : FT Tryd.prog 7 #[tP, vi n] [Cl tP [vl ta tk tT, vi tI], S ta tk tT] (fun g : Unit => i64ok rr.1 ∧ (0 ≤ rr.2 ∧ rr.2 ≤ (tT.length : Int)) ∧ (0 ≤ rr.1 ∧ (rr.1 < n ∨ rr.1 = 0))) (fun g => vi rr.1) (fun g => [Cl tP [vl ta tk tT, vi rr.2]]) := by
 refine FTi Tryd.func7 fun w0 M0 F0 => ?_
 unfold i64ok at hn_0
 refine Fb 8 1 fun _ => Fo 1 fun ho2 => KS ?_
 refine Oq Va (KS ?_)
 refine Jp 0 fun hp3 => ?_
 refine Kq [0, 1, 3, 7, 15, 31, 63, 7, 135, 391, 903, 1927, 4095, 8191] fmix ?_
 refine Qv [] Vm (Qv [] Vleq ?_)
 refine bool_split (decide (n ≤ 1)) ?_ ?_
 ·intro h4
  have g5 := dt h4
  refine Qb h4 [] Vm (Qs (Qs (Qs (Qs (Qs (Qs (Qs (Qs (Qs ?_)))))))))
  refine Qs (Qv [] Vpt ?_)
  refine Qn ⟨by kernel_rfl, ?_⟩
  refine Kt (KS ?_)
  refine Oq Va (KS ?_)
  have hq := q4 hrr (0, tI) (by simp only [tp_Next, h4, cs4]); subst hq
  exact Kr () rfl (.tmp rfl .nil) [1] en
 intro h4
 have g6 := df h4
 refine Qb h4 [] Vm (Qv [] Vm (Qv [0] (Vn 0) (Qv [0] (Vfa fo52_1 0) (Qv [1] (VldF sh3 0) (Qv [] Vm (Qv [0] (Vn 0) (Qv [0] (Vfa fo52_0 0) (Qv [1] (VldF sh22 0) (Qv [] (Vlen sl22) ?_)))))))))
 refine Qv [] Vgeq (Qv [] Vpf ?_)
 refine Qn ⟨by kernel_rfl, ?_⟩
 refine Kc ?_ ?_
 ·intro h7
  have g8 := dt h7
  refine KS ?_
  refine Oq Va (KS ?_)
  have hq := q4 hrr (0, tI) (by simp only [tp_Next, h4, h7, cs4]); subst hq
  exact Kr () rfl (.tmp rfl .nil) [1] en
 intro h7
 have g9 := df h7
 refine KS ?_
 refine Oq Vm (Oq (Vn 1) (Oq (Vfa fo52_1 1) (Oq (VldF sh3 1) (Oq Vadd (Oq (Vn 1) (Oq (Vfa fo52_1 1) (Ost (SclF [1] sh3 [vl ta tk tT, vi (tI + 1)]) (KS ?_))))))))
 refine JK_drawK [0, 1, 3, 7, 0, 16, 48, 112, 240, 511, 1023, 0, 4095, 8191] fmix ?_
 refine Dv [] Vm (Dv [1] (Vn 0) (Dv [1] (Vfa fo52_0 0) (Dv [0] (VldF sh22 0) (Dv [] Vm (Dv [1] (Vn 0) (Dv [1] (Vfa fo52_1 0) (Dv [0] (VldF sh3 0) (Dv [] Vsub (Dv [2] (Vi sl22 0) ?_)))))))))
 have hb10 := ok1 (i := (((tI + 1) - 1) : Int).toNat) ho2 rng
 refine Dv [2] (VldI sh3 0) (Dv [] Vm ?_)
 refine letv (g_Mod (tT.getD (((tI + 1) - 1) : Int).toNat 0) n) fun rv11 hg12 => ?_
 refine Dx [] [] [0] (fun G => vi rv11) [fun G => SP.fact (i64ok rv11 ∧ (0 ≤ rv11 ∧ rv11 < n))] (fun G => xC [] ca17 (fn17 ((tT.getD (((tI + 1) - 1) : Int).toNat 0)) n pre pre pre rv11 hg12)) (Dv [] Va ?_)
 refine Dn ⟨by kernel_rfl, fun G => ?_⟩
 refine Jw2 [(4, vi rv11)] [0, 1, 2] [SP.fact (i64ok rv11 ∧ (0 ≤ rv11 ∧ rv11 < n))] ?_
 refine Jf 3 rfl ?_; rintro ⟨he13, he14⟩
 unfold i64ok at he13
 refine Jk [0, 1] ?_
 have hq := q4 hrr (rv11, (tI + 1)) (by simp only [tp_Next, h4, h7, hg12, cs4]); subst hq
 exact Kr () rfl (.tmp rfl .nil) [0] en
end Go.SL.G
