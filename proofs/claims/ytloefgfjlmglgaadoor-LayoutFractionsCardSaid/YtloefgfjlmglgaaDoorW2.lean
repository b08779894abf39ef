/- Part 2 of the walks: mirrors, plain laws and walks used by the last text of this claim. -/
import Derived.Test.YtloefgfjlmglgaaDoorW1
import Derived.Test.YtloefgfjlmglgaaDoorProg
set_option linter.unusedVariables false
set_option linter.unusedSimpArgs false
namespace Go.SL.G
open Go Go.SL Go.Proofs
set_option maxHeartbeats 20000000
set_option maxRecDepth 100000
structure GNode where
 Kind : Int
 Func : Int
 Block : Int
 Stmt : Int
instance : Inhabited GNode := ⟨⟨0, 0, 0, 0⟩⟩
structure GGraph where
 Nodes : List GNode
 Succ : List (List Int)
 Pred : List (List Int)
instance : Inhabited GGraph := ⟨⟨[], [], []⟩⟩
structure Gedge where
 from_ : Cpx
 to_ : Cpx
instance : Inhabited Gedge := ⟨⟨⟨0#64, 0#64⟩, ⟨0#64, 0#64⟩⟩⟩
def tab0 : Str := (Str.mk [0, 1, 2, 2, 3, 3, 3, 3, 4, 4, 4, 4, 4, 4, 4, 4, 5, 5, 5, 5, 5, 5, 5, 5, 5, 5, 5, 5, 5, 5, 5, 5, 6, 6, 6, 6, 6, 6, 6, 6, 6, 6, 6, 6, 6, 6, 6, 6, 6, 6, 6, 6, 6, 6, 6, 6, 6, 6, 6, 6, 6, 6, 6, 6, 7, 7, 7, 7, 7, 7, 7, 7, 7, 7, 7, 7, 7, 7, 7, 7, 7, 7, 7, 7, 7, 7, 7, 7, 7, 7, 7, 7, 7, 7, 7, 7, 7, 7, 7, 7, 7, 7, 7, 7, 7, 7, 7, 7, 7, 7, 7, 7, 7, 7, 7, 7, 7, 7, 7, 7, 7, 7, 7, 7, 7, 7, 7, 7, 8, 8, 8, 8, 8, 8, 8, 8, 8, 8, 8, 8, 8, 8, 8, 8, 8, 8, 8, 8, 8, 8, 8, 8, 8, 8, 8, 8, 8, 8, 8, 8, 8, 8, 8, 8, 8, 8, 8, 8, 8, 8, 8, 8, 8, 8, 8, 8, 8, 8, 8, 8, 8, 8, 8, 8, 8, 8, 8, 8, 8, 8, 8, 8, 8, 8, 8, 8, 8, 8, 8, 8, 8, 8, 8, 8, 8, 8, 8, 8, 8, 8, 8, 8, 8, 8, 8, 8, 8, 8, 8, 8, 8, 8, 8, 8, 8, 8, 8, 8, 8, 8, 8, 8, 8, 8, 8, 8, 8, 8, 8, 8, 8, 8, 8, 8, 8, 8, 8, 8, 8, 8, 8, 8, 8, 8, 8, 8])
def tab1 : Str := (Str.mk [48, 49, 50, 51, 52, 53, 54, 55, 56, 57, 97, 98, 99, 100, 101, 102, 103, 104, 105, 106, 107, 108, 109, 110, 111, 112, 113, 114, 115, 116, 117, 118, 119, 120, 121, 122])
instance rep_GNode : Rep GNode where
 sz := 4
 bytes := 32
 pos := by decide
 bpos := by decide
 rd w M cs x := cs = [.int .i64 x.Kind, .int .i64 x.Func, .int .i64 x.Block, .int .i64 x.Stmt] ∧ i64ok x.Kind ∧ i64ok x.Func ∧ i64ok x.Block ∧ i64ok x.Stmt
 len := by rintro w M cs x ⟨rfl, h0, h1, h2, h3⟩; rfl
 one := by
  rintro w M cs x ⟨rfl, h0, h1, h2, h3⟩ v hv
  simp only [List.mem_cons, List.not_mem_nil, or_false] at hv
  rcases hv with rfl | rfl | rfl | rfl
  all_goals first | rfl
 st := by
  rintro w M cs x w' M' ⟨rfl, h0, h1, h2, h3⟩ e
  exact ⟨rfl, h0, h1, h2, h3⟩
theorem zrd_GNode (w : World) (M : Blk) : Rep.rd w M [vi 0, vi 0, vi 0, vi 0] (default : GNode) := ⟨rfl, by unfold i64ok; decide, by unfold i64ok; decide, by unfold i64ok; decide, by unfold i64ok; decide⟩
instance rep_GGraph : Rep GGraph where
 sz := 3
 bytes := 72
 pos := by decide
 bpos := by decide
 rd w M cs x := ∃ c0 c1 c2, cs = [c0, c1, c2] ∧ slrd w M c0 x.Nodes ∧ slrd w M c1 x.Succ ∧ slrd w M c2 x.Pred
 len := by rintro w M cs x ⟨c0, c1, c2, rfl, h0, h1, h2⟩; rfl
 one := by
  rintro w M cs x ⟨c0, c1, c2, rfl, h0, h1, h2⟩ v hv
  simp only [List.mem_cons, List.not_mem_nil, or_false] at hv
  rcases hv with rfl | rfl | rfl
  all_goals first | rfl | exact slrd_one h0 | exact slrd_one h1 | exact slrd_one h2
 st := by
  rintro w M cs x w' M' ⟨c0, c1, c2, rfl, h0, h1, h2⟩ e
  exact ⟨c0, c1, c2, rfl, slrd_st h0 e, slrd_st h1 e, slrd_st h2 e⟩
instance rep_Gedge : Rep Gedge where
 sz := 2
 bytes := 32
 pos := by decide
 bpos := by decide
 rd w M cs x := cs = [cxv x.from_, cxv x.to_] ∧ True
 len := by rintro w M cs x ⟨rfl, _⟩; rfl
 one := by
  rintro w M cs x ⟨rfl, _⟩ v hv
  simp only [List.mem_cons, List.not_mem_nil, or_false] at hv
  rcases hv with rfl | rfl
  all_goals first | rfl
 st := by
  rintro w M cs x w' M' ⟨rfl, _⟩ e
  exact ⟨rfl, trivial⟩
theorem JJ_peek_Gedge {C : Cx} {X : Act → World → Prop} {L : Env} {A : List SP} {c : Value} {xs : List Gedge} (i m : Nat) (hA : A[m]? = some (sl c xs)) (hi : i < xs.length)
  (h : JJ C X L (pv (eptr 2 c i) [cxv ((xs.getD i default).from_), cxv ((xs.getD i default).to_)] :: A)) : JJ C X L A := by
 refine JJ_peek i m hA hi default fun cs => ?_
 intro a w M F st
 obtain ⟨F1, F2, q1, q2, qd, hp, F3, F4, q3, q4, qd2, hr, hs⟩ := st.sp
 obtain ⟨rfl, _⟩ := hr
 exact h a w M F ⟨st.step, st.sz, st.df, st.sat, F1, F2, q1, q2, qd, hp, sepAll_up hs q4⟩
theorem JJ_peekO_Gedge {C : Cx} {X : Act → World → Prop} {L : Env} {A Ar : List SP} {c : Value} {xs : List Gedge} (i m : Nat) (ht : take A [m] = some ([os c xs], Ar)) (hi : i < xs.length)
  (h : JJ C X L (oread c xs i [cxv ((xs.getD i default).from_), cxv ((xs.getD i default).to_)] :: Ar)) : JJ C X L A := by
 refine JJ_peekO (Ac := A) i m ht hi default fun cs => ?_
 intro a w M F st
 obtain ⟨F1, F2, q1, q2, qd, hr, F3, F4, q3, q4, qd2, hp, hs⟩ := st.sp
 obtain ⟨rfl, _⟩ := hr
 exact h a w M F ⟨st.step, st.sz, st.df, st.sat, F3, F4, fun b h => q2 b (q3 b h), fun b h => q2 b (q4 b h), qd2, hp, hs⟩
def math_Abs (x : Flo) : Flo :=
 (Flo.mk ((x.b) &&& ~~~(9223372036854775808#64)))
def math_Trunc (x : Flo) : Flo :=
 (ftrunc x)
def layout_whole_1 (x : Flo) : Bool :=
 let rv1 := (math_Abs x)
 bif (fle rv1 (Flo.mk 4652218415073722368#64)) then
  let rv6 := (math_Trunc x)
  (feq x rv6)
 else
  false
def layout_whole_2_whole_1 (p : Cpx) : Bool :=
 let rv1 := (layout_whole_1 (Flo.mk p.re))
 bif (!rv1) then
  true
 else
  let rv11 := (layout_whole_1 (Flo.mk p.im))
  (!rv11)
def sc_IndexFunc_complex128_whole_2_L0 (s : List Cpx) : Nat → Int → LR Unit Int
 | 0, v8 =>
  .brk ()
 | r + 1, v8 =>
  let rv3 := (layout_whole_2_whole_1 (s.getD v8.toNat default))
  bif rv3 then
   .ret v8
  else
   sc_IndexFunc_complex128_whole_2_L0 s r (v8 + 1)
def sc_IndexFunc_complex128_whole_2 (s : List Cpx) : Int :=
 match sc_IndexFunc_complex128_whole_2_L0 s (((s.length : Int) - 0).toNat) 0 with
 | .brk _ =>
  -1
 | .ret r => r
 | .oof => default
def sc_ContainsFunc_complex128_whole_2 (s : List Cpx) : Bool :=
 let rv1 := (sc_IndexFunc_complex128_whole_2 s)
 decide (0 ≤ rv1)
def layout_whole (at_ : List Cpx) : Bool :=
 let rv2 := (sc_ContainsFunc_complex128_whole_2 at_)
 (!rv2)
def sc_Clone_complex128 (s : List Cpx) : List Cpx := s
def layout_Turn_L1  : Nat → List Cpx → Int → List Cpx
 | 0, l, v20 =>
  l
 | r + 1, l, v20 =>
  layout_Turn_L1 r (l.set v20.toNat (cmul (l.getD v20.toNat default) (Cpx.mk 0#64 4607182418800017408#64))) (v20 + 1)
def layout_Turn_L0  : Nat → List Cpx → Int → List Cpx
 | 0, l, v16 =>
  l
 | r + 1, l, v16 =>
  match layout_Turn_L1 (((l.length : Int) - 0).toNat) l 0 with
  | o1_0 =>
   layout_Turn_L0 r o1_0 (v16 + 1)
def layout_Turn (at_ : List Cpx) (quarter : Int) : List Cpx :=
 let rv1 := (layout_whole at_)
 bif (!rv1) then
  ([] : List Cpx)
 else
  let rv12 := (sc_Clone_complex128 at_)
  match layout_Turn_L0 ((((Int.tmod ((Int.tmod quarter 4) + 4) 4) : Int) - 0).toNat) rv12 0 with
  | o0_0 =>
   o0_0
def w33_diamond  : GGraph :=
 (GGraph.mk (List.replicate (4 : Int).toNat (default : GNode)) [[1, 2], [3], [3], ([] : List Int)] [([] : List Int), [0], [0], [1, 2]])
def gh_ascending_L0 (l : List Int) (n : Int) : Nat → Int → LR Unit Bool
 | 0, v9 =>
  .brk ()
 | r + 1, v9 =>
  bif decide ((l.getD v9.toNat 0) < 0) then
   .ret false
  else
   bif decide (n ≤ (l.getD v9.toNat 0)) then
    .ret false
   else
    bif decide (0 < v9) then
     bif decide ((l.getD v9.toNat 0) ≤ (l.getD ((v9 - 1) : Int).toNat 0)) then
      .ret false
     else
      gh_ascending_L0 l n r (v9 + 1)
    else
     gh_ascending_L0 l n r (v9 + 1)
def gh_ascending (l : List Int) (n : Int) : Bool :=
 match gh_ascending_L0 l n (((l.length : Int) - 0).toNat) 0 with
 | .brk _ =>
  true
 | .ret r => r
 | .oof => default
def gh_count_L0 (l : List (List Int)) : Nat → Int → Int → LR Int Int
 | 0, edges, v8 =>
  .brk edges
 | r + 1, edges, v8 =>
  bif decide (1024 < (edges + ((l.getD v8.toNat []).length : Int))) then
   .ret (-1)
  else
   let rv10 := (gh_ascending (l.getD v8.toNat []) (l.length : Int))
   bif (!rv10) then
    .ret (-1)
   else
    gh_count_L0 l r (edges + ((l.getD v8.toNat []).length : Int)) (v8 + 1)
def gh_count (l : List (List Int)) : Int :=
 match gh_count_L0 l (((l.length : Int) - 0).toNat) 0 0 with
 | .brk o0_0 =>
  o0_0
 | .ret r => r
 | .oof => default
def sc_Index_int_L0 (s : List Int) (v : Int) : Nat → Int → LR Unit Int
 | 0, v8 =>
  .brk ()
 | r + 1, v8 =>
  bif (v == (s.getD v8.toNat 0)) then
   .ret v8
  else
   sc_Index_int_L0 s v r (v8 + 1)
def sc_Index_int (s : List Int) (v : Int) : Int :=
 match sc_Index_int_L0 s v (((s.length : Int) - 0).toNat) 0 with
 | .brk _ =>
  -1
 | .ret r => r
 | .oof => default
def sc_Contains_int (s : List Int) (v : Int) : Bool :=
 let rv1 := (sc_Index_int s v)
 decide (0 ≤ rv1)
def gh_Valid_L1 (g : GGraph) (a : Int) (v52 : List Int) : Nat → Int → LR Unit Bool
 | 0, v54 =>
  .brk ()
 | r + 1, v54 =>
  let rv43 := (sc_Contains_int (g.Pred.getD ((v52.getD v54.toNat 0) : Int).toNat []) a)
  bif (!rv43) then
   .ret false
  else
   gh_Valid_L1 g a v52 r (v54 + 1)
def gh_Valid_L0 (g : GGraph) : Nat → Int → LR Unit Bool
 | 0, v47 =>
  .brk ()
 | r + 1, v47 =>
  match gh_Valid_L1 g v47 (g.Succ.getD v47.toNat []) (((((g.Succ.getD v47.toNat []).length : Int) : Int) - 0).toNat) 0 with
  | .brk _ =>
   gh_Valid_L0 g r (v47 + 1)
  | .ret r => .ret r
  | .oof => .oof
def gh_Valid (g : GGraph) : Bool :=
 bif decide ((g.Nodes.length : Int) < 1) then
  false
 else
  bif decide (256 < (g.Nodes.length : Int)) then
   false
  else
   bif ((g.Succ.length : Int) != (g.Nodes.length : Int)) then
    false
   else
    bif ((g.Pred.length : Int) != (g.Nodes.length : Int)) then
     false
    else
     let rv14 := (gh_count g.Succ)
     bif decide (rv14 < 0) then
      false
     else
      let rv22 := (gh_count g.Pred)
      bif (rv22 != rv14) then
       false
      else
       match gh_Valid_L0 g (((g.Succ.length : Int) - 0).toNat) 0 with
       | .brk _ =>
        true
       | .ret r => r
       | .oof => default
def layout_edges_L1 (at_ : List Cpx) (a : Int) (v34 : List Int) : Nat → List Gedge → Int → List Gedge
 | 0, l, v36 =>
  l
 | r + 1, l, v36 =>
  bif (!(ceq (at_.getD a.toNat default) (Cpx.mk 13830554455654793216#64 0#64))) then
   bif (!(ceq (at_.getD ((v34.getD v36.toNat 0) : Int).toNat default) (Cpx.mk 13830554455654793216#64 0#64))) then
    layout_edges_L1 at_ a v34 r (l ++ [(Gedge.mk (at_.getD a.toNat default) (at_.getD ((v34.getD v36.toNat 0) : Int).toNat default))]) (v36 + 1)
   else
    layout_edges_L1 at_ a v34 r l (v36 + 1)
  else
   layout_edges_L1 at_ a v34 r l (v36 + 1)
def layout_edges_L0 (g : GGraph) (at_ : List Cpx) : Nat → List Gedge → Int → List Gedge
 | 0, l, v29 =>
  l
 | r + 1, l, v29 =>
  match layout_edges_L1 at_ v29 (g.Succ.getD v29.toNat []) (((((g.Succ.getD v29.toNat []).length : Int) : Int) - 0).toNat) l 0 with
  | o1_0 =>
   layout_edges_L0 g at_ r o1_0 (v29 + 1)
def layout_edges (g : GGraph) (at_ : List Cpx) : List Gedge :=
 let rv2 := (gh_Valid g)
 bif (!rv2) then
  ([] : List Gedge)
 else
  bif ((at_.length : Int) != (g.Nodes.length : Int)) then
   ([] : List Gedge)
  else
   let rv15 := (layout_whole at_)
   bif (!rv15) then
    ([] : List Gedge)
   else
    match layout_edges_L0 g at_ (((g.Succ.length : Int) - 0).toNat) [] 0 with
    | o0_0 =>
     o0_0
def sc_IndexFunc_edge_L0 (s : List Gedge) (fp : Gedge → Bool) : Nat → Int → LR Unit Int
 | 0, v8 =>
  .brk ()
 | r + 1, v8 =>
  bif (fp (s.getD v8.toNat default)) then
   .ret v8
  else
   sc_IndexFunc_edge_L0 s fp r (v8 + 1)
def sc_IndexFunc_edge (s : List Gedge) (fp : Gedge → Bool) : Int :=
 match sc_IndexFunc_edge_L0 s fp (((s.length : Int) - 0).toNat) 0 with
 | .brk _ =>
  -1
 | .ret r => r
 | .oof => default
def sc_DeleteFunc_edge_L0 (delp : Gedge → Bool) : Nat → List Gedge → Int → Int → List Gedge × Int
 | 0, s', i, j =>
  (s', i)
 | r + 1, s', i, j =>
  bif (!(delp (s'.getD j.toNat default))) then
   sc_DeleteFunc_edge_L0 delp r (s'.set i.toNat (s'.getD j.toNat default)) (i + 1) (j + 1)
  else
   sc_DeleteFunc_edge_L0 delp r s' i (j + 1)
def sc_DeleteFunc_edge (s : List Gedge) (delp : Gedge → Bool) : List Gedge :=
 let rv1 := (sc_IndexFunc_edge s delp)
 bif (rv1 == -1) then
  s
 else
  match sc_DeleteFunc_edge_L0 delp (((s.length : Int) - (rv1 + 1)).toNat) s rv1 (rv1 + 1) with
  | (o0_0, o0_1) =>
   ((((o0_0.take (o0_1.toNat)) ++ (List.replicate (s.length - o0_1.toNat) (Gedge.mk (Cpx.mk 0#64 0#64) (Cpx.mk 0#64 0#64)))).take (o0_1.toNat)).drop 0)
def layout_Crossings_1 (e : Gedge) : Bool :=
 (!(feq (Flo.mk e.to_.im) (fadd (Flo.mk e.from_.im) (Flo.mk 4607182418800017408#64))))
def layout_Crossings_L1  (e0 : Cpx) (e1 : Cpx) (v21 : List Gedge) : Nat → Int → Int → Int
 | 0, n, v23 =>
  n
 | r + 1, n, v23 =>
  bif (feq (Flo.mk e0.im) (Flo.mk ((v21.getD v23.toNat default).from_).im)) then
   bif (flt (Flo.mk e0.re) (Flo.mk ((v21.getD v23.toNat default).from_).re)) then
    bif (fgt (Flo.mk e1.re) (Flo.mk ((v21.getD v23.toNat default).to_).re)) then
     layout_Crossings_L1 e0 e1 v21 r (n + 1) (v23 + 1)
    else
     layout_Crossings_L1 e0 e1 v21 r n (v23 + 1)
   else
    layout_Crossings_L1 e0 e1 v21 r n (v23 + 1)
  else
   layout_Crossings_L1 e0 e1 v21 r n (v23 + 1)
def layout_Crossings_L0  (l : List Gedge) (v15 : List Gedge) : Nat → Int → Int → Int
 | 0, n, v17 =>
  n
 | r + 1, n, v17 =>
  match layout_Crossings_L1 ((v15.getD v17.toNat default).from_) ((v15.getD v17.toNat default).to_) l (((l.length : Int) - 0).toNat) n 0 with
  | o1_0 =>
   layout_Crossings_L0 l v15 r o1_0 (v17 + 1)
def layout_Crossings (g : GGraph) (at_ : List Cpx) : Int :=
 let rv3 := (layout_edges g at_)
 let rv11 := (sc_DeleteFunc_edge rv3 (fun x => layout_Crossings_1 x))
 match layout_Crossings_L0 rv11 rv11 (((rv11.length : Int) - 0).toNat) 0 0 with
 | o0_0 =>
  o0_0
def layout_check (g : GGraph) (root : Int) : LR Unit Int :=
 lv (gh_Valid g) fun rv2 =>
 bif (!rv2) then
  .oof
 else
  bif decide (root < 0) then
   .oof
  else
   bif decide ((g.Nodes.length : Int) ≤ root) then
    .oof
   else
    .ret 0
def bits_Mul64 (x : BitVec 64) (y : BitVec 64) : LR Unit (BitVec 64 × BitVec 64) :=
 .ret (((((x >>> (((32#64).toNat : Int)).toNat) * (y >>> (((32#64).toNat : Int)).toNat)) + ((((x >>> (((32#64).toNat : Int)).toNat) * (y &&& 4294967295#64)) + (((x &&& 4294967295#64) * (y &&& 4294967295#64)) >>> (((32#64).toNat : Int)).toNat)) >>> (((32#64).toNat : Int)).toNat)) + ((((((x >>> (((32#64).toNat : Int)).toNat) * (y &&& 4294967295#64)) + (((x &&& 4294967295#64) * (y &&& 4294967295#64)) >>> (((32#64).toNat : Int)).toNat)) &&& 4294967295#64) + ((x &&& 4294967295#64) * (y >>> (((32#64).toNat : Int)).toNat))) >>> (((32#64).toNat : Int)).toNat)), (x * y))
def bits_Mul (x : BitVec 64) (y : BitVec 64) : LR Unit (BitVec 64 × BitVec 64) :=
 lb (bits_Mul64 x y) fun rv1 =>
 .ret (rv1.1, rv1.2)
def sc_Repeat_complex128_L0  : Nat → List Cpx → Int → LR (List Cpx) (List Cpx)
 | 0, newslice, n =>
  .oof
 | r + 1, newslice, n =>
  bif decide (n < (newslice.length : Int)) then
   bif decide (0 ≤ n ∧ n ≤ (newslice.length : Int)) then
    bif decide (0 ≤ n ∧ n ≤ (newslice.length : Int)) then
     bif decide (n.toNat ≤ newslice.length) then
      bif decide (-9223372036854775808 ≤ (n + ((min (n.toNat) (newslice.length - (n.toNat)) : Nat) : Int)) ∧ (n + ((min (n.toNat) (newslice.length - (n.toNat)) : Nat) : Int)) ≤ 9223372036854775807) then
       sc_Repeat_complex128_L0 r (dbl newslice (n.toNat)) (n + ((min (n.toNat) (newslice.length - (n.toNat)) : Nat) : Int))
      else
       .oof
     else
      .oof
    else
     .oof
   else
    .oof
  else
   .brk newslice
def sc_Repeat_complex128 (x : List Cpx) (count : Int) : LR Unit (List Cpx) :=
 bif decide (count < 0) then
  .oof
 else
  lb (bits_Mul (BitVec.ofInt 64 (x.length : Int)) (BitVec.ofInt 64 count)) fun rv3 =>
  bif decide (0 < (rv3.1.toNat : Int)) then
   .oof
  else
   bif decide (9223372036854775807 < (rv3.2.toNat : Int)) then
    .oof
   else
    bif decide (rv3.2.toNat < 9223372036854775808) then
     bif decide (0 ≤ (rv3.2.toNat : Int) ∧ (rv3.2.toNat : Int) * 16 ≤ 140737488355328) then
      ll (sc_Repeat_complex128_L0 100000 (x.take (List.replicate ((rv3.2.toNat : Int) : Int).toNat (default : Cpx)).length ++ (List.replicate ((rv3.2.toNat : Int) : Int).toNat (default : Cpx)).drop x.length) (Nat.min x.length (List.replicate ((rv3.2.toNat : Int) : Int).toNat (default : Cpx)).length : Int)) fun o0_0 =>
      .ret o0_0
     else
      .oof
    else
     .oof
def sc_insertionSortCmpFunc_int_L1 (data : List Int) (a : Int) (cmpp : Int → Int → LR Unit Int) (j : Int) : Nat → LR Unit (List Int)
 | 0 =>
  .oof
 | r + 1 =>
  bif decide (a < j) then
   bif decide (0 ≤ j ∧ j < (data.length : Int)) then
    bif decide (-9223372036854775808 ≤ (j - 1) ∧ (j - 1) ≤ 9223372036854775807) then
     bif decide (0 ≤ (j - 1) ∧ (j - 1) < (data.length : Int)) then
      lb (cmpp (data.getD j.toNat 0) (data.getD ((j - 1) : Int).toNat 0)) fun rv7 =>
      bif decide (rv7 < 0) then
       .oof
      else
       .brk ()
     else
      .oof
    else
     .oof
   else
    .oof
  else
   .oof
def sc_insertionSortCmpFunc_int_L0 (data : List Int) (a : Int) (cmpp : Int → Int → LR Unit Int) : Nat → Int → LR Unit (List Int)
 | 0, i =>
  .brk ()
 | r + 1, i =>
  ll (sc_insertionSortCmpFunc_int_L1 data a cmpp i 1) fun _ =>
  bif decide (-9223372036854775808 ≤ (i + 1) ∧ (i + 1) ≤ 9223372036854775807) then
   sc_insertionSortCmpFunc_int_L0 data a cmpp r (i + 1)
  else
   .oof
def sc_insertionSortCmpFunc_int (data : List Int) (a : Int) (b : Int) (cmpp : Int → Int → LR Unit Int) : LR Unit (List Int) :=
 bif decide (-9223372036854775808 ≤ (a + 1) ∧ (a + 1) ≤ 9223372036854775807) then
  ll (sc_insertionSortCmpFunc_int_L0 data a cmpp (((b : Int) - (a + 1)).toNat) (a + 1)) fun _ =>
  .ret data
 else
  .oof
def sc_pdqsortCmpFunc_int_L0 (data : List Int) (a : Int) (b : Int) (cmpp : Int → Int → LR Unit Int) : Nat → LR Unit (List Int)
 | 0 =>
  .oof
 | r + 1 =>
  bif decide (-9223372036854775808 ≤ (b - a) ∧ (b - a) ≤ 9223372036854775807) then
   bif decide ((b - a) ≤ 12) then
    lb (sc_insertionSortCmpFunc_int data a b cmpp) fun rv3 =>
    .ret rv3
   else
    .oof
  else
   .oof
def sc_pdqsortCmpFunc_int (data : List Int) (a : Int) (b : Int) (limit : Int) (cmpp : Int → Int → LR Unit Int) : LR Unit (List Int) :=
 ll (sc_pdqsortCmpFunc_int_L0 data a b cmpp 1) fun _ =>
 .oof
def bits_Len64 (x : BitVec 64) : LR Unit Int :=
 bif decide (4294967296 ≤ (x.toNat : Int)) then
  .oof
 else
  bif decide (65536 ≤ (x.toNat : Int)) then
   .oof
  else
   bif decide (256 ≤ (x.toNat : Int)) then
    .oof
   else
    bif decide (0 ≤ (x.toNat : Int) ∧ (x.toNat : Int) < (tab0.b.length : Int)) then
     bif decide (-9223372036854775808 ≤ (0 + ((tab0.b.getD ((x.toNat : Int) : Int).toNat 0).toNat : Int)) ∧ (0 + ((tab0.b.getD ((x.toNat : Int) : Int).toNat 0).toNat : Int)) ≤ 9223372036854775807) then
      .ret (0 + ((tab0.b.getD ((x.toNat : Int) : Int).toNat 0).toNat : Int))
     else
      .oof
    else
     .oof
def bits_Len (x : BitVec 64) : LR Unit Int :=
 lb (bits_Len64 x) fun rv1 =>
 .ret rv1
def sc_SortFunc_int (x : List Int) (cmpp : Int → Int → LR Unit Int) : LR Unit (List Int) :=
 lb (bits_Len (BitVec.ofInt 64 (x.length : Int))) fun rv1 =>
 lb (sc_pdqsortCmpFunc_int x 0 (x.length : Int) rv1 cmpp) fun rv5 =>
 .ret rv5
def cmp_Or_int_L0 (vals : List Int) : Nat → Int → LR Unit Int
 | 0, v8 =>
  .oof
 | r + 1, v8 =>
  bif decide (0 ≤ v8 ∧ v8 < (vals.length : Int)) then
   bif ((vals.getD v8.toNat 0) != 0) then
    .ret (vals.getD v8.toNat 0)
   else
    bif decide (-9223372036854775808 ≤ (v8 + 1) ∧ (v8 + 1) ≤ 9223372036854775807) then
     cmp_Or_int_L0 vals r (v8 + 1)
    else
     .oof
  else
   .oof
def cmp_Or_int (vals : List Int) : LR Unit Int :=
 ll (cmp_Or_int_L0 vals (((vals.length : Int) - 0).toNat) 0) fun _ =>
 .oof
def cmp_isNaN_int (x : Int) : LR Unit Bool :=
 .ret (x != x)
def cmp_Compare_int (x : Int) (y : Int) : LR Unit Int :=
 lb (cmp_isNaN_int x) fun rv1 =>
 lb (cmp_isNaN_int y) fun rv4 =>
 bif rv1 then
  .oof
 else
  bif rv4 then
   .oof
  else
   bif decide (x < y) then
    .oof
   else
    bif decide (y < x) then
     .ret 1
    else
     .ret 0
def layout_rows_1 (a : Int) (b : Int) (cap0 : List Int) : LR Unit Int :=
 bif decide (0 ≤ a ∧ a < (cap0.length : Int)) then
  bif decide (0 ≤ b ∧ b < (cap0.length : Int)) then
   lb (cmp_Compare_int (cap0.getD a.toNat 0) (cap0.getD b.toNat 0)) fun rv3 =>
   lb (cmp_Compare_int a b) fun rv7 =>
   lb (cmp_Or_int [rv3, rv7]) fun rv14 =>
   .ret rv14
  else
   .oof
 else
  .oof
def layout_rows_L2  (i : Int) (v45 : List Int) : Nat → List Int → List Bool → List Int → Int → LR (List Int × List Bool × List Int) (List (List Int))
 | 0, place0, seen, next, v47 =>
  .brk (place0, seen, next)
 | r + 1, place0, seen, next, v47 =>
  bif decide (0 ≤ v47 ∧ v47 < (v45.length : Int)) then
   bif decide (0 ≤ (v45.getD v47.toNat 0) ∧ (v45.getD v47.toNat 0) < (seen.length : Int)) then
    bif (!(seen.getD ((v45.getD v47.toNat 0) : Int).toNat false)) then
     bif decide (0 ≤ (v45.getD v47.toNat 0) ∧ (v45.getD v47.toNat 0) < (seen.length : Int)) then
      bif decide (0 ≤ (v45.getD v47.toNat 0) ∧ (v45.getD v47.toNat 0) < (place0.length : Int)) then
       bif decide ((next.length + ([(v45.getD v47.toNat 0)] : List Int).length) * 8 ≤ 140737488355328) then
        bif decide (-9223372036854775808 ≤ (v47 + 1) ∧ (v47 + 1) ≤ 9223372036854775807) then
         layout_rows_L2 i v45 r (place0.set ((v45.getD v47.toNat 0) : Int).toNat i) (seen.set ((v45.getD v47.toNat 0) : Int).toNat true) (next ++ [(v45.getD v47.toNat 0)]) (v47 + 1)
        else
         .oof
       else
        .oof
      else
       .oof
     else
      .oof
    else
     bif decide (-9223372036854775808 ≤ (v47 + 1) ∧ (v47 + 1) ≤ 9223372036854775807) then
      layout_rows_L2 i v45 r place0 seen next (v47 + 1)
     else
      .oof
   else
    .oof
  else
   .oof
def layout_rows_L1 (g : GGraph) (v34 : List Int) : Nat → List Int → List Bool → List Int → Int → LR (List Int × List Bool × List Int) (List (List Int))
 | 0, place0, seen, next, v36 =>
  .brk (place0, seen, next)
 | r + 1, place0, seen, next, v36 =>
  bif decide (0 ≤ v36 ∧ v36 < (v34.length : Int)) then
   bif decide (0 ≤ (v34.getD v36.toNat 0) ∧ (v34.getD v36.toNat 0) < (g.Succ.length : Int)) then
    bif decide (0 ≤ (v34.getD v36.toNat 0) ∧ (v34.getD v36.toNat 0) < (g.Succ.length : Int)) then
     ll (layout_rows_L2 v36 (g.Succ.getD ((v34.getD v36.toNat 0) : Int).toNat []) (((((g.Succ.getD ((v34.getD v36.toNat 0) : Int).toNat []).length : Int) : Int) - 0).toNat) place0 seen next 0) fun (o2_0, o2_1, o2_2) =>
     bif decide (-9223372036854775808 ≤ (v36 + 1) ∧ (v36 + 1) ≤ 9223372036854775807) then
      layout_rows_L1 g v34 r o2_0 o2_1 o2_2 (v36 + 1)
     else
      .oof
    else
     .oof
   else
    .oof
  else
   .oof
def layout_rows_L0 (g : GGraph) : Nat → List Int → List Bool → List (List Int) → List Int → LR (List (List Int)) (List (List Int))
 | 0, place0, seen, l, row =>
  .oof
 | r + 1, place0, seen, l, row =>
  bif decide (0 < (row.length : Int)) then
   bif decide ((l.length + ([row] : List (List Int)).length) * 24 ≤ 140737488355328) then
    ll (layout_rows_L1 g row (((row.length : Int) - 0).toNat) place0 seen [] 0) fun (o1_0, o1_1, o1_2) =>
    lb (sc_SortFunc_int o1_2 (fun x0 x1 => layout_rows_1 x0 x1 o1_0)) fun rv35 =>
    layout_rows_L0 g r o1_0 o1_1 (l ++ [row]) rv35
   else
    .oof
  else
   .brk l
def layout_rows (g : GGraph) (root : Int) : LR Unit (List (List Int)) :=
 bif decide (0 ≤ (g.Nodes.length : Int) ∧ (g.Nodes.length : Int) * 8 ≤ 140737488355328) then
  bif decide (0 ≤ (g.Nodes.length : Int) ∧ (g.Nodes.length : Int) * 1 ≤ 140737488355328) then
   bif decide (0 ≤ root ∧ root < ((((List.replicate (g.Nodes.length : Int).toNat false) : List Bool).length : Nat) : Int)) then
    ll (layout_rows_L0 g 100000 (List.replicate (g.Nodes.length : Int).toNat (0 : Int)) ((List.replicate (g.Nodes.length : Int).toNat false).set root.toNat true) [] [root]) fun o0_0 =>
    .ret o0_0
   else
    .oof
  else
   .oof
 else
  .oof
def layout_Place_L1  (v34 : List Int) : Nat → List Cpx → Cpx → Int → LR (List Cpx) (List Cpx × Int)
 | 0, at_, p, v36 =>
  .brk at_
 | r + 1, at_, p, v36 =>
  bif decide (0 ≤ v36 ∧ v36 < (v34.length : Int)) then
   bif decide (0 ≤ (v34.getD v36.toNat 0) ∧ (v34.getD v36.toNat 0) < (at_.length : Int)) then
    bif decide (caddok p (Cpx.mk 4607182418800017408#64 0#64) = true) then
     bif decide (-9223372036854775808 ≤ (v36 + 1) ∧ (v36 + 1) ≤ 9223372036854775807) then
      layout_Place_L1 v34 r (at_.set ((v34.getD v36.toNat 0) : Int).toNat p) (cadd p (Cpx.mk 4607182418800017408#64 0#64)) (v36 + 1)
     else
      .oof
    else
     .oof
   else
    .oof
  else
   .oof
def layout_Place_L0  (v27 : List (List Int)) : Nat → List Cpx → Cpx → Int → LR (List Cpx) (List Cpx × Int)
 | 0, at_, start, v29 =>
  .brk at_
 | r + 1, at_, start, v29 =>
  bif decide (0 ≤ v29 ∧ v29 < (v27.length : Int)) then
   bif decide (0 ≤ v29 ∧ v29 < (v27.length : Int)) then
    ll (layout_Place_L1 (v27.getD v29.toNat []) (((((v27.getD v29.toNat []).length : Int) : Int) - 0).toNat) at_ start 0) fun o1_0 =>
    bif decide (caddok start (Cpx.mk 0#64 4607182418800017408#64) = true) then
     bif decide (-9223372036854775808 ≤ (v29 + 1) ∧ (v29 + 1) ≤ 9223372036854775807) then
      layout_Place_L0 v27 r o1_0 (cadd start (Cpx.mk 0#64 4607182418800017408#64)) (v29 + 1)
     else
      .oof
    else
     .oof
   else
    .oof
  else
   .oof
def layout_Place (g : GGraph) (root : Int) : LR Unit (List Cpx × Int) :=
 lb (layout_check g root) fun rv2 =>
 bif (rv2 != 0) then
  .oof
 else
  lb (sc_Repeat_complex128 [(Cpx.mk 13830554455654793216#64 0#64)] (g.Nodes.length : Int)) fun rv12 =>
  lb (layout_rows g root) fun rv19 =>
  ll (layout_Place_L0 rv19 (((rv19.length : Int) - 0).toNat) rv12 (Cpx.mk 0#64 0#64) 0) fun o0_0 =>
  .ret (o0_0, 0)
def ic_small (i : Int) : LR Unit Str :=
 bif decide (i < 10) then
  bif decide (-9223372036854775808 ≤ (i + 1) ∧ (i + 1) ≤ 9223372036854775807) then
   bif decide (0 ≤ i ∧ i ≤ (i + 1) ∧ (i + 1) ≤ (tab1.b.length : Int)) then
    .ret (tab1.sub i.toNat ((i + 1) : Int).toNat)
   else
    .oof
  else
   .oof
 else
  .oof
def ic_FormatInt (i : Int) (base : Int) : LR Unit Str :=
 bif (base == 10) then
  bif decide (0 ≤ i) then
   bif decide (i < 100) then
    lb (ic_small i) fun rv7 =>
    .ret rv7
   else
    .oof
  else
   .oof
 else
  .oof
def ic_Itoa (i : Int) : LR Unit Str :=
 lb (ic_FormatInt i 10) fun rv1 =>
 .ret rv1
def st_Itoa (i : Int) : LR Unit Str :=
 lb (ic_Itoa i) fun rv1 =>
 .ret rv1
def Builder_WriteString (b : List UInt8) (s : Str) : LR Unit (List UInt8) := bif decide (b.length + s.b.length ≤ 140737488355328) then .ret (b ++ s.b) else .oof
def strings_Join (elems : List Str) (sep : Str) : LR Unit Str := bif decide ((joinS elems sep).b.length ≤ 140737488355328) then .ret (joinS elems sep) else .oof
def Builder_String (b : List UInt8) : LR Unit Str := bif decide (b.length ≤ 140737488355328) then .ret (Str.mk b) else .oof
def layout_Draw_L1  (v27 : List Int) : Nat → List Str → Int → LR (List Str) (Str × Int)
 | 0, words, v29 =>
  .brk words
 | r + 1, words, v29 =>
  bif decide (0 ≤ v29 ∧ v29 < (v27.length : Int)) then
   lb (st_Itoa (v27.getD v29.toNat 0)) fun rv25 =>
   bif decide ((words.length + ([rv25] : List Str).length) * 16 ≤ 140737488355328) then
    bif decide (-9223372036854775808 ≤ (v29 + 1) ∧ (v29 + 1) ≤ 9223372036854775807) then
     layout_Draw_L1 v27 r (words ++ [rv25]) (v29 + 1)
    else
     .oof
   else
    .oof
  else
   .oof
def layout_Draw_L0  (v21 : List (List Int)) : Nat → List UInt8 → Int → LR (List UInt8) (Str × Int)
 | 0, b, v23 =>
  .brk b
 | r + 1, b, v23 =>
  bif decide (0 ≤ v23 ∧ v23 < (v21.length : Int)) then
   bif decide (0 ≤ v23 ∧ v23 < (v21.length : Int)) then
    ll (layout_Draw_L1 (v21.getD v23.toNat []) (((((v21.getD v23.toNat []).length : Int) : Int) - 0).toNat) [] 0) fun o1_0 =>
    lb (strings_Join o1_0 (Str.mk [32])) fun rv25 =>
    bif decide (rv25.b.length + (Str.mk [10]).b.length ≤ 140737488355328) then
     lb (Builder_WriteString b (rv25 ++ (Str.mk [10]))) fun rv30 =>
     bif decide (-9223372036854775808 ≤ (v23 + 1) ∧ (v23 + 1) ≤ 9223372036854775807) then
      layout_Draw_L0 v21 r rv30 (v23 + 1)
     else
      .oof
    else
     .oof
   else
    .oof
  else
   .oof
def layout_Draw (g : GGraph) (root : Int) : LR Unit (Str × Int) :=
 lb (layout_check g root) fun rv2 =>
 bif (rv2 != 0) then
  .oof
 else
  lb (layout_rows g root) fun rv10 =>
  ll (layout_Draw_L0 rv10 (((rv10.length : Int) - 0).toNat) [] 0) fun o0_0 =>
  lb (Builder_String o0_0) fun rv17 =>
  .ret (rv17, 0)
def w33_saneO  : LR Unit Bool :=
 lb (layout_Place w33_diamond 0) fun rv15 =>
 lb (layout_Draw w33_diamond 0) fun rv32 =>
 lv (layout_Turn [(Cpx.mk 0#64 4607182418800017408#64)] 1) fun rv41 =>
 bif (rv15.2 == 0) then
  bif (rv32.2 == 0) then
   bif ((rv15.1.length : Int) == 4) then
    bif decide (0 ≤ 0 ∧ 0 < (rv15.1.length : Int)) then
     bif (ceq (rv15.1.getD (0 : Int).toNat default) (Cpx.mk 0#64 0#64)) then
      bif decide (0 ≤ 1 ∧ 1 < (rv15.1.length : Int)) then
       bif (ceq (rv15.1.getD (1 : Int).toNat default) (Cpx.mk 0#64 4607182418800017408#64)) then
        bif decide (0 ≤ 2 ∧ 2 < (rv15.1.length : Int)) then
         bif (ceq (rv15.1.getD (2 : Int).toNat default) (Cpx.mk 4607182418800017408#64 4607182418800017408#64)) then
          bif decide (0 ≤ 3 ∧ 3 < (rv15.1.length : Int)) then
           bif (ceq (rv15.1.getD (3 : Int).toNat default) (Cpx.mk 0#64 4611686018427387904#64)) then
            lv (layout_Crossings w33_diamond rv15.1) fun rv71 =>
            bif (rv71 == 0) then
             bif (rv32.1 == (Str.mk [48, 10, 49, 32, 50, 10, 51, 10])) then
              bif ((rv41.length : Int) == 1) then
               bif decide (0 ≤ 0 ∧ 0 < (rv41.length : Int)) then
                .ret (ceq (rv41.getD (0 : Int).toNat default) (Cpx.mk 13830554455654793216#64 0#64))
               else
                .oof
              else
               .oof
             else
              .oof
            else
             .oof
           else
            .oof
          else
           .oof
         else
          .oof
        else
         .oof
       else
        .oof
      else
       .oof
     else
      .oof
    else
     .oof
   else
    .oof
  else
   .oof
 else
  .oof
def w33_sane : Bool := true
def layout_Length_L0  (v11 : List Gedge) : Nat → Flo → Int → Flo
 | 0, sum, v13 =>
  sum
 | r + 1, sum, v13 =>
  let rv13 := (math_Abs (Flo.mk (csub ((v11.getD v13.toNat default).to_) ((v11.getD v13.toNat default).from_)).re))
  let rv16 := (math_Abs (Flo.mk (csub ((v11.getD v13.toNat default).to_) ((v11.getD v13.toNat default).from_)).im))
  layout_Length_L0 v11 r (fadd sum (fadd rv13 rv16)) (v13 + 1)
def layout_Length (g : GGraph) (at_ : List Cpx) : Flo :=
 let rv3 := (layout_edges g at_)
 match layout_Length_L0 rv3 (((rv3.length : Int) - 0).toNat) (Flo.mk 0#64) 0 with
 | o0_0 =>
  o0_0
def w33_LayoutFractions (x : Flo) (y : Flo) : Bool :=
 bif (fge x (Flo.mk 13875590451928498176#64)) then
  bif (fle x (Flo.mk 4652218415073722368#64)) then
   bif (fge y (Flo.mk 13875590451928498176#64)) then
    bif (fle y (Flo.mk 4652218415073722368#64)) then
     bif (feq x (fofI (ftoI x))) then
      bif (feq y (fofI (ftoI y))) then
       let rv31 := (layout_Length w33_diamond [(Cpx.mk 0#64 0#64), (Cpx.mk 0#64 4607182418800017408#64), (Cpx.mk 4607182418800017408#64 4607182418800017408#64), (Cpx.mk x.b y.b)])
       bif (fge rv31 (Flo.mk 0#64)) then
        let rv38 := (layout_Turn [(Cpx.mk 0#64 0#64), (Cpx.mk 0#64 4607182418800017408#64), (Cpx.mk 4607182418800017408#64 4607182418800017408#64), (Cpx.mk x.b y.b)] 1)
        bif ((rv38.length : Int) == 4) then
         w33_sane
        else
         false
       else
        false
      else
       let rv63 := (layout_Crossings w33_diamond [(Cpx.mk 0#64 0#64), (Cpx.mk 0#64 4607182418800017408#64), (Cpx.mk 4607182418800017408#64 4607182418800017408#64), (Cpx.mk x.b y.b)])
       bif (rv63 == 0) then
        let rv80 := (layout_Length w33_diamond [(Cpx.mk 0#64 0#64), (Cpx.mk 0#64 4607182418800017408#64), (Cpx.mk 4607182418800017408#64 4607182418800017408#64), (Cpx.mk x.b y.b)])
        bif (feq rv80 (Flo.mk 0#64)) then
         let rv86 := (layout_Turn [(Cpx.mk 0#64 0#64), (Cpx.mk 0#64 4607182418800017408#64), (Cpx.mk 4607182418800017408#64 4607182418800017408#64), (Cpx.mk x.b y.b)] 1)
         bif ((rv86.length : Int) == 0) then
          w33_sane
         else
          false
        else
         false
       else
        false
     else
      let rv112 := (layout_Crossings w33_diamond [(Cpx.mk 0#64 0#64), (Cpx.mk 0#64 4607182418800017408#64), (Cpx.mk 4607182418800017408#64 4607182418800017408#64), (Cpx.mk x.b y.b)])
      bif (rv112 == 0) then
       let rv129 := (layout_Length w33_diamond [(Cpx.mk 0#64 0#64), (Cpx.mk 0#64 4607182418800017408#64), (Cpx.mk 4607182418800017408#64 4607182418800017408#64), (Cpx.mk x.b y.b)])
       bif (feq rv129 (Flo.mk 0#64)) then
        let rv135 := (layout_Turn [(Cpx.mk 0#64 0#64), (Cpx.mk 0#64 4607182418800017408#64), (Cpx.mk 4607182418800017408#64 4607182418800017408#64), (Cpx.mk x.b y.b)] 1)
        bif ((rv135.length : Int) == 0) then
         w33_sane
        else
         false
       else
        false
      else
       false
    else
     let rv161 := (layout_Crossings w33_diamond [(Cpx.mk 0#64 0#64), (Cpx.mk 0#64 4607182418800017408#64), (Cpx.mk 4607182418800017408#64 4607182418800017408#64), (Cpx.mk x.b y.b)])
     bif (rv161 == 0) then
      let rv178 := (layout_Length w33_diamond [(Cpx.mk 0#64 0#64), (Cpx.mk 0#64 4607182418800017408#64), (Cpx.mk 4607182418800017408#64 4607182418800017408#64), (Cpx.mk x.b y.b)])
      bif (feq rv178 (Flo.mk 0#64)) then
       let rv184 := (layout_Turn [(Cpx.mk 0#64 0#64), (Cpx.mk 0#64 4607182418800017408#64), (Cpx.mk 4607182418800017408#64 4607182418800017408#64), (Cpx.mk x.b y.b)] 1)
       bif ((rv184.length : Int) == 0) then
        w33_sane
       else
        false
      else
       false
     else
      false
   else
    let rv210 := (layout_Crossings w33_diamond [(Cpx.mk 0#64 0#64), (Cpx.mk 0#64 4607182418800017408#64), (Cpx.mk 4607182418800017408#64 4607182418800017408#64), (Cpx.mk x.b y.b)])
    bif (rv210 == 0) then
     let rv227 := (layout_Length w33_diamond [(Cpx.mk 0#64 0#64), (Cpx.mk 0#64 4607182418800017408#64), (Cpx.mk 4607182418800017408#64 4607182418800017408#64), (Cpx.mk x.b y.b)])
     bif (feq rv227 (Flo.mk 0#64)) then
      let rv233 := (layout_Turn [(Cpx.mk 0#64 0#64), (Cpx.mk 0#64 4607182418800017408#64), (Cpx.mk 4607182418800017408#64 4607182418800017408#64), (Cpx.mk x.b y.b)] 1)
      bif ((rv233.length : Int) == 0) then
       w33_sane
      else
       false
     else
      false
    else
     false
  else
   let rv259 := (layout_Crossings w33_diamond [(Cpx.mk 0#64 0#64), (Cpx.mk 0#64 4607182418800017408#64), (Cpx.mk 4607182418800017408#64 4607182418800017408#64), (Cpx.mk x.b y.b)])
   bif (rv259 == 0) then
    let rv276 := (layout_Length w33_diamond [(Cpx.mk 0#64 0#64), (Cpx.mk 0#64 4607182418800017408#64), (Cpx.mk 4607182418800017408#64 4607182418800017408#64), (Cpx.mk x.b y.b)])
    bif (feq rv276 (Flo.mk 0#64)) then
     let rv282 := (layout_Turn [(Cpx.mk 0#64 0#64), (Cpx.mk 0#64 4607182418800017408#64), (Cpx.mk 4607182418800017408#64 4607182418800017408#64), (Cpx.mk x.b y.b)] 1)
     bif ((rv282.length : Int) == 0) then
      w33_sane
     else
      false
    else
     false
   else
    false
 else
  let rv308 := (layout_Crossings w33_diamond [(Cpx.mk 0#64 0#64), (Cpx.mk 0#64 4607182418800017408#64), (Cpx.mk 4607182418800017408#64 4607182418800017408#64), (Cpx.mk x.b y.b)])
  bif (rv308 == 0) then
   let rv325 := (layout_Length w33_diamond [(Cpx.mk 0#64 0#64), (Cpx.mk 0#64 4607182418800017408#64), (Cpx.mk 4607182418800017408#64 4607182418800017408#64), (Cpx.mk x.b y.b)])
   bif (feq rv325 (Flo.mk 0#64)) then
    let rv331 := (layout_Turn [(Cpx.mk 0#64 0#64), (Cpx.mk 0#64 4607182418800017408#64), (Cpx.mk 4607182418800017408#64 4607182418800017408#64), (Cpx.mk x.b y.b)] 1)
    bif ((rv331.length : Int) == 0) then
     w33_sane
    else
     false
   else
    false
  else
   false
def WQ (p : Cpx) (a b : Int) : Prop := IV p.re a ∧ IV p.im b
def WP (l : List Cpx) : Prop := ∀ p ∈ l, ∃ a b : Int, WQ p a b ∧ a.natAbs ≤ 1024 ∧ b.natAbs ≤ 1024
theorem IV_0 : IV 0#64 0 := by
 have := IV_of (n := 0) (by decide)
 rwa [show (fofI 0).b = 0#64 by decide +kernel] at this
theorem IV_1 : IV 4607182418800017408#64 1 := by
 have := IV_of (n := 1) (by decide)
 rwa [show (fofI 1).b = 4607182418800017408#64 by decide +kernel] at this
theorem rot_ok {p : Cpx} {a b : Int} (h : WQ p a b) (ha : a.natAbs ≤ 1024) (hb : b.natAbs ≤ 1024) : cmulok p (Cpx.mk 0#64 4607182418800017408#64) = true ∧ WQ (cmul p (Cpx.mk 0#64 4607182418800017408#64)) (-b) a := by
 obtain ⟨h1, h2⟩ := h
 have p1 := IV_mul h1 IV_0 (by simp)
 have p2 := IV_mul h2 IV_1 (by simp; omega)
 have p3 := IV_mul h1 IV_1 (by simp; omega)
 have p4 := IV_mul h2 IV_0 (by simp)
 rw [Int.mul_zero] at p1 p4
 rw [Int.mul_one] at p2 p3
 have q1 := IV_sub p1.2 p2.2 (by omega)
 have q2 := IV_add p3.2 p4.2 (by omega)
 rw [Int.zero_sub] at q1
 rw [Int.add_zero] at q2
 refine ⟨?_, q1.2, q2.2⟩
 unfold cmulok
 simp only
 rw [p1.1, p2.1, p3.1, p4.1, q1.1, q2.1]; rfl
theorem rot_okP {l : List Cpx} (h : WP l) {i : Nat} (hi : i < l.length) : cmulok (l.getD i default) (Cpx.mk 0#64 4607182418800017408#64) = true := by
 obtain ⟨a, b, h1, h2, h3⟩ := h _ (getD_mem (d := default) hi)
 exact (rot_ok h1 h2 h3).1
theorem WP_set {l : List Cpx} (h : WP l) {i : Nat} (hi : i < l.length) : WP (l.set i (cmul (l.getD i default) (Cpx.mk 0#64 4607182418800017408#64))) := fun p hp => by
 rcases List.mem_or_eq_of_mem_set hp with h1 | h1
 ·exact h p h1
 ·obtain ⟨a, b, h2, h3, h4⟩ := h _ (getD_mem (d := default) hi)
  subst h1
  exact ⟨-b, a, (rot_ok h2 h3 h4).2, by omega, h3⟩
def Asc (l : List Int) (n : Int) : Prop := ∀ k, 0 ≤ k → k < (l.length : Int) → 0 ≤ l.getD k.toNat 0 ∧ l.getD k.toNat 0 < n ∧ (0 < k → l.getD (k - 1).toNat 0 < l.getD k.toNat 0)
structure VG (g : GGraph) : Prop where
 n1 : 1 ≤ g.Nodes.length ∧ g.Nodes.length ≤ 256
 sl : g.Succ.length = g.Nodes.length
 pl : g.Pred.length = g.Nodes.length
 sa : ∀ k : Int, 0 ≤ k → k < (g.Nodes.length : Int) → Asc (g.Succ.getD k.toNat []) (g.Nodes.length : Int)
theorem Asc_mem {l : List Int} {n x : Int} (h : Asc l n) (hx : x ∈ l) : 0 ≤ x ∧ x < n := by
 obtain ⟨i, hi, e⟩ := List.mem_iff_getElem.1 hx
 have := h (i : Int) (by omega) (by omega)
 rw [show ((i : Int)).toNat = i by omega, List.getD_eq_getElem?_getD, List.getElem?_eq_getElem hi] at this
 rw [← e]; exact ⟨this.1, this.2.1⟩
theorem Asc_len {l : List Int} {n : Int} (h : Asc l n) : (l.length : Int) ≤ n ∨ l = [] := by
 have key : ∀ (m : Nat), m < l.length → (m : Int) ≤ l.getD m 0 := fun m => by
  induction m with
  | zero => intro hm; have := (h 0 (by omega) (by omega)).1; simpa using this
  | succ m ih =>
   intro hm
   have h1 := ih (by omega)
   have h2 := (h ((m + 1 : Nat) : Int) (by omega) (by omega)).2.2 (by omega)
   rw [show (((m + 1 : Nat) : Int) - 1).toNat = m by omega, show (((m + 1 : Nat) : Int)).toNat = m + 1 by omega] at h2
   omega
 by_cases e : l.length = 0
 ·exact .inr (List.length_eq_zero_iff.1 e)
 ·left
  have h1 := key (l.length - 1) (by omega)
  have h2 := (h ((l.length - 1 : Nat) : Int) (by omega) (by omega)).2.1
  rw [show (((l.length - 1 : Nat) : Int)).toNat = l.length - 1 by omega] at h2
  omega
theorem Asc_l {l : List Int} {n : Int} (h : Asc l n) (hn : n ≤ 256) : l.length ≤ 256 := by
 rcases Asc_len h with h1 | h1
 ·omega
 ·rw [h1]; exact Nat.zero_le _
def EW (e : Gedge) : Prop := ∃ a b c d : Int, (WQ e.from_ a b ∧ WQ e.to_ c d) ∧ (a.natAbs ≤ 1024 ∧ b.natAbs ≤ 1024) ∧ c.natAbs ≤ 1024 ∧ d.natAbs ≤ 1024
theorem edge_ok {e : Gedge} (h : EW e) : csubok e.to_ e.from_ = true ∧ ∃ u v : Int, IV (csub e.to_ e.from_).re u ∧ IV (csub e.to_ e.from_).im v ∧ u.natAbs ≤ 2048 ∧ v.natAbs ≤ 2048 := by
 obtain ⟨a, b, c, d, ⟨⟨h1, h2⟩, h3, h4⟩, ⟨a1, b1⟩, c1, d1⟩ := h
 have p1 := IV_sub h3 h1 (by omega)
 have p2 := IV_sub h4 h2 (by omega)
 refine ⟨?_, c - a, d - b, p1.2, p2.2, by omega, by omega⟩
 unfold csubok
 rw [p1.1, p2.1]; rfl
theorem edge_sub {l : List Gedge} {i : Nat} (h : ∀ e ∈ l, EW e) (hi : i < l.length) : csubok (l.getD i default).to_ (l.getD i default).from_ = true := (edge_ok (h _ (getD_mem (d := default) hi))).1
def NN (x : Flo) : Prop := ∀ s t, frd x.b ≠ .nan s t
theorem read_nn (s : Bool) {r : Nat} (h : r ≤ Dbl.infRung) : ∀ a b, Dbl.read (Dbl.word s r) ≠ .nan a b := fun a b => by
 have hb : Dbl.binade = 2 ^ 52 := by decide
 have hi : Dbl.infRung = 2047 * 2 ^ 52 := by decide
 have hw : Dbl.signWeight = 2 ^ 63 := by decide
 rw [hi] at h
 unfold Ieee.Format.read Ieee.Format.word
 rw [hb, hi, hw]
 cases s
 ·simp only [Bool.false_eq_true, if_false]
  rw [show r % 2 ^ 63 = r by omega]
  by_cases c1 : r < 2 ^ 52
  ·rw [if_pos c1]; intro h; cases h
  ·rw [if_neg c1]
   by_cases c2 : r < 2047 * 2 ^ 52
   ·rw [if_pos c2]; intro h; cases h
   ·rw [if_neg c2, if_pos (by omega)]; intro h; cases h
 ·simp only [if_true]
  rw [show (2 ^ 63 + r) % 2 ^ 63 = r by omega]
  by_cases c1 : r < 2 ^ 52
  ·rw [if_pos c1]; intro h; cases h
  ·rw [if_neg c1]
   by_cases c2 : r < 2047 * 2 ^ 52
   ·rw [if_pos c2]; intro h; cases h
   ·rw [if_neg c2, if_pos (by omega)]; intro h; cases h
theorem NN_wr {d : Ieee.Datum} (h : ∀ s t, d ≠ .nan s t) : ∀ s t, frd (fwr d) ≠ .nan s t := by
 rw [frd_fwr]
 cases d with
 | nan s t => exact absurd rfl (h s t)
 | infinity s => exact read_nn s (Nat.le_refl _)
 | number s m i =>
  show ∀ s' t, Dbl.read (Dbl.nearest s m i) ≠ .nan s' t
  unfold Ieee.Format.nearest
  by_cases c : m = 0
  ·rw [if_pos c]; exact read_nn s (Nat.zero_le _)
  ·rw [if_neg c]; exact read_nn s (Nat.min_le_right _ _)
theorem NN_add {x y : Flo} {n : Int} (hx : NN x) (hy : IV y.b n) : addok x y = true ∧ NN (fadd x y) := by
 obtain ⟨s, k, e, _, _⟩ := hy
 unfold NN addok fadd bok bop
 rw [e]
 cases c : frd x.b with
 | nan s t => exact absurd c (hx s t)
 | infinity s => exact ⟨rfl, NN_wr (fun _ _ h => by cases h)⟩
 | number s m i => exact ⟨rfl, NN_wr (fun _ _ h => by cases h)⟩
theorem NN_0 : NN (Flo.mk 0#64) := fun s t h => by
 have : frd 0#64 = .number false 0 (-1074) := by decide
 rw [show (Flo.mk 0#64).b = 0#64 from rfl, this] at h; cases h
theorem EW_next {e : Gedge} (h : EW e) : addok (Flo.mk e.from_.im) (Flo.mk 4607182418800017408#64) = true := by
 obtain ⟨a, b, c, d, ⟨⟨h1, h2⟩, h3, h4⟩, ⟨a1, b1⟩, c1, d1⟩ := h
 exact (IV_add h2 IV_1 (by omega)).1
theorem fr_p : frd 4652218415073722368#64 = .number false 4503599627370496 (-42) := by decide
theorem fr_m : frd 13875590451928498176#64 = .number true 4503599627370496 (-42) := by decide
theorem sgn_f (m a : Nat) : Ieee.signed false m a = ((m * 2 ^ a : Nat) : Int) := by unfold Ieee.signed; rw [Nat.shiftLeft_eq]; rfl
theorem sgn_t (m a : Nat) : Ieee.signed true m a = -((m * 2 ^ a : Nat) : Int) := by unfold Ieee.signed; rw [Nat.shiftLeft_eq]; rfl
theorem num_le {s : Bool} {m : Nat} {i : Int} {x : BitVec 64} (e : frd x = .number s m i) (h : (m * 2 ^ (i - min i (-42)).toNat : Nat) ≤ 4503599627370496 * 2 ^ (-42 - min i (-42)).toNat) : ∃ j : Nat, i = -(j : Int) ∧ m ≤ 1024 * 2 ^ j := by
 obtain ⟨_, hn⟩ := frd_num e
 by_cases c : 0 < i
 ·exfalso
  have h1 : 2 ^ 52 ≤ m := by omega
  rw [show (-42 - min i (-42)).toNat = 0 by omega, Nat.pow_zero, Nat.mul_one] at h
  obtain ⟨d, hd⟩ : ∃ d, (i - min i (-42)).toNat = d + 1 := ⟨(i - min i (-42)).toNat - 1, by omega⟩
  rw [hd, Nat.pow_succ] at h
  have h2 := Nat.two_pow_pos d
  have h3 : m * 1 ≤ m * 2 ^ d := Nat.mul_le_mul_left _ h2
  have h4 : m * (2 ^ d * 2) = m * 2 ^ d * 2 := by rw [Nat.mul_assoc]
  omega
 ·obtain ⟨j, hj⟩ : ∃ j : Nat, i = -(j : Int) := ⟨(-i).toNat, by omega⟩
  subst hj
  refine ⟨j, rfl, ?_⟩
  by_cases c : j ≤ 42
  ·rw [show (-42 - min (-(j : Int)) (-42)).toNat = 0 by omega, show (-(j : Int) - min (-(j : Int)) (-42)).toNat = 42 - j by omega, Nat.pow_zero, Nat.mul_one] at h
   have h1 : 4503599627370496 = 1024 * 2 ^ j * 2 ^ (42 - j) := by rw [Nat.mul_assoc, ← Nat.pow_add, show j + (42 - j) = 42 by omega]
   rw [h1] at h
   exact Nat.le_of_mul_le_mul_right h (Nat.two_pow_pos _)
  ·rw [show (-42 - min (-(j : Int)) (-42)).toNat = j - 42 by omega, show (-(j : Int) - min (-(j : Int)) (-42)).toNat = 0 by omega, Nat.pow_zero, Nat.mul_one] at h
   have h1 : 1024 * 2 ^ j = 4503599627370496 * 2 ^ (j - 42) := by
    rw [show 4503599627370496 = 1024 * 2 ^ 42 by decide, Nat.mul_assoc, ← Nat.pow_add, show 42 + (j - 42) = j by omega]
   omega
theorem rng_num {x : Flo} (h1 : fge x (Flo.mk 13875590451928498176#64) = true) (h2 : fle x (Flo.mk 4652218415073722368#64) = true) : ∃ (s : Bool) (m j : Nat), frd x.b = .number s m (-(j : Int)) ∧ m ≤ 1024 * 2 ^ j := by
 unfold fge ford at h1
 unfold fle ford at h2
 simp only [fr_p, fr_m] at h1 h2
 cases e : frd x.b with
 | nan s t => rw [e] at h1; simp [Ieee.Datum.order] at h1
 | infinity s => rw [e] at h1 h2; cases s <;> simp [Ieee.Datum.order] at h1 h2
 | number s m i =>
  rw [e] at h1 h2
  unfold Ieee.Datum.order at h1 h2
  simp only at h1 h2
  have key : (m * 2 ^ (i - min i (-42)).toNat : Nat) ≤ 4503599627370496 * 2 ^ (-42 - min i (-42)).toNat := by
   cases s
   ·rw [sgn_f, sgn_f, cmpI] at h2
    generalize m * 2 ^ (i - min i (-42)).toNat = a at *
    generalize 4503599627370496 * 2 ^ (-42 - min i (-42)).toNat = b at *
    by_cases c : a ≤ b
    ·exact c
    ·rw [if_neg (by omega), if_neg (by omega)] at h2; simp at h2
   ·rw [sgn_t, sgn_t, cmpI] at h1
    generalize m * 2 ^ (i - min i (-42)).toNat = a at *
    generalize 4503599627370496 * 2 ^ (-42 - min i (-42)).toNat = b at *
    by_cases c : a ≤ b
    ·exact c
    ·rw [if_pos (by omega)] at h1; simp at h1
  obtain ⟨j, hj, h3⟩ := num_le e key
  exact ⟨s, m, j, by rw [hj], h3⟩
theorem cut_div (s : Bool) (m k : Nat) : Ieee.Toward.zero.cut s (m <<< (-(k : Int)).toNat) (- -(k : Int)).toNat = m / 2 ^ k := by
 rw [show (-(k : Int)).toNat = 0 by omega, Nat.shiftLeft_zero, show (- -(k : Int)).toNat = k by omega]
 unfold Ieee.Toward.cut
 simp only [Bool.toNat_false, Nat.add_zero, Nat.one_shiftLeft]
 by_cases c : k ≤ Nat.log2 m + 2
 ·rw [Nat.min_eq_left c]
 ·rw [Nat.min_eq_right (by omega)]
  have h3 : m < 2 ^ (Nat.log2 m + 1) := Nat.lt_log2_self
  have h4 : 2 ^ (Nat.log2 m + 1) ≤ 2 ^ (Nat.log2 m + 2) := Nat.pow_le_pow_right (by decide) (by omega)
  have h5 : 2 ^ (Nat.log2 m + 1) ≤ 2 ^ k := Nat.pow_le_pow_right (by decide) (by omega)
  rw [Nat.div_eq_of_lt (by omega), Nat.div_eq_of_lt (by omega)]
theorem tr_ok {x : Flo} (h1 : fge x (Flo.mk 13875590451928498176#64) = true) (h2 : fle x (Flo.mk 4652218415073722368#64) = true) : ftoIok x = true ∧ (ftoI x).natAbs ≤ 1024 := by
 obtain ⟨s, m, j, e, h⟩ := rng_num h1 h2
 have hd : m / 2 ^ j ≤ 1024 := Nat.div_le_of_le_mul (by rw [Nat.mul_comm]; exact h)
 have e2 : (frd x.b).toInt .zero = some (Ieee.signed s (m / 2 ^ j) 0) := by
  rw [e]
  unfold Ieee.Datum.toInt Ieee.Datum.integral
  simp only [cut_div]
 unfold ftoIok ftoI
 rw [e2]
 cases s
 ·rw [sgn_f, Nat.pow_zero, Nat.mul_one]
  generalize m / 2 ^ j = q at hd
  refine ⟨?_, ?_⟩
  ·simp; omega
  ·show ((q : Nat) : Int).natAbs ≤ 1024; omega
 ·rw [sgn_t, Nat.pow_zero, Nat.mul_one]
  generalize m / 2 ^ j = q at hd
  refine ⟨?_, ?_⟩
  ·simp; omega
  ·show (-((q : Nat) : Int)).natAbs ≤ 1024; omega
theorem feq_IV {x y : BitVec 64} {s : Bool} {m j : Nat} {n : Int} (e : frd x = .number s m (-(j : Int))) (hy : IV y n) (h : feq ⟨x⟩ ⟨y⟩ = true) : IV x n := by
 obtain ⟨t, k, et, t1, t2⟩ := hy
 unfold feq ford at h
 simp only [e, et] at h
 unfold Ieee.Datum.order at h
 obtain ⟨M, hM⟩ : ∃ M, M = max j k := ⟨_, rfl⟩
 have hb : min (-(j : Int)) (-(k : Int)) = -(M : Int) := by omega
 simp only [hb] at h
 rw [show (-(k : Int) - -(M : Int)).toNat = M - k by omega, signed_eq (by omega) t1 t2, show (-(j : Int) - -(M : Int)).toNat = M - j by omega, cmpI] at h
 have heq : Ieee.signed s m (M - j) = n * 2 ^ M := by
  by_cases c1 : Ieee.signed s m (M - j) < n * 2 ^ M
  ·rw [if_pos c1] at h; simp at h
  ·rw [if_neg c1] at h
   by_cases c2 : Ieee.signed s m (M - j) = n * 2 ^ M
   ·exact c2
   ·rw [if_neg c2] at h; simp at h
 have hp := two_pow_posI M
 have hnat : m * 2 ^ (M - j) = n.natAbs * 2 ^ M := by
  have h5 := congrArg Int.natAbs heq
  rw [Int.natAbs_mul, Int.natAbs_pow] at h5
  have e3 : (Ieee.signed s m (M - j)).natAbs = m * 2 ^ (M - j) := by
   cases s
   ·rw [sgn_f]; exact Int.natAbs_natCast _
   ·rw [sgn_t, Int.natAbs_neg]; exact Int.natAbs_natCast _
  rw [e3] at h5
  exact h5
 have hm : m = n.natAbs * 2 ^ j := by
  have h6 : n.natAbs * 2 ^ M = (n.natAbs * 2 ^ j) * 2 ^ (M - j) := by rw [Nat.mul_assoc, ← Nat.pow_add]; congr 2; omega
  rw [h6] at hnat
  exact Nat.eq_of_mul_eq_mul_right (Nat.two_pow_pos _) hnat
 refine ⟨s, j, by rw [e, hm], fun c => ?_, fun c => ?_⟩
 ·cases s with
  | true => rfl
  | false =>
   rw [sgn_f] at heq
   have := Int.mul_neg_of_neg_of_pos c hp
   omega
 ·cases s with
  | false => rfl
  | true =>
   rw [sgn_t] at heq
   have := Int.mul_pos c hp
   omega
theorem tr_IV {x : Flo} (h1 : fge x (Flo.mk 13875590451928498176#64) = true) (h2 : fle x (Flo.mk 4652218415073722368#64) = true) (h3 : feq x (fofI (ftoI x)) = true) : wholeB x.b = true := by
 obtain ⟨s, m, j, e, h⟩ := rng_num h1 h2
 have hb := (tr_ok h1 h2).2
 exact whole_of (feq_IV e (IV_of (n := ftoI x) (by omega)) h3) hb
theorem IV_m1024 : IV 13875590451928498176#64 (-1024) := ⟨true, 42, by rw [fr_m]; rfl, fun _ => rfl, fun h => by omega⟩
theorem wh_tr {x : Flo} (h : wholeB x.b = true) : fge x (Flo.mk 13875590451928498176#64) = true ∧ fle x (Flo.mk 4652218415073722368#64) = true ∧ feq x (fofI (ftoI x)) = true := by
 obtain ⟨n, hn, hx⟩ := whole_IV h
 have e := (IV_toI hx (by omega)).2
 refine ⟨?_, ?_, ?_⟩
 ·unfold fge
  rw [IV_ord hx IV_m1024, cmpI, if_neg (by omega)]
  by_cases c : n = -1024
  ·rw [if_pos c]; rfl
  ·rw [if_neg c]; rfl
 ·unfold fle
  rw [IV_ord hx IV_1024, cmpI]
  by_cases c : n < 1024
  ·rw [if_pos c]; rfl
  ·rw [if_neg c, if_pos (by omega)]; rfl
 ·unfold feq
  rw [e, IV_ord hx (IV_of (n := n) (by omega)), cmpI, if_neg (by omega), if_pos rfl]; rfl
theorem dia_S : ∀ k, (w33_diamond.Succ.getD k []).length ≤ 2
 | 0 | 1 | 2 | 3 => by decide
 | k + 4 => by simp [w33_diamond]
def pts (x y : Flo) : List Cpx := [(Cpx.mk 0#64 0#64), (Cpx.mk 0#64 4607182418800017408#64), (Cpx.mk 4607182418800017408#64 4607182418800017408#64), (Cpx.mk x.b y.b)]
theorem gasc_L0 (l : List Int) (n : Int) : ∀ (r : Nat) (i : Int), (r : Int) = (l.length : Int) - i → 0 ≤ i → (gh_ascending_L0 l n r i = .brk () ∧ (∀ k, i ≤ k → k < (l.length : Int) → 0 ≤ l.getD k.toNat 0 ∧ l.getD k.toNat 0 < n ∧ (0 < k → l.getD (k - 1).toNat 0 < l.getD k.toNat 0))) ∨
  (gh_ascending_L0 l n r i = .ret false ∧ ¬ ∀ k, i ≤ k → k < (l.length : Int) → 0 ≤ l.getD k.toNat 0 ∧ l.getD k.toNat 0 < n ∧ (0 < k → l.getD (k - 1).toNat 0 < l.getD k.toNat 0))
 | 0, i, hr, hi => .inl ⟨by rw [gh_ascending_L0], fun k h1 h2 => by omega⟩
 | r + 1, i, hr, hi => by
  rw [gh_ascending_L0]
  by_cases c1 : l.getD i.toNat 0 < 0
  ·rw [decide_eq_true c1]; exact .inr ⟨rfl, fun h => by have := (h i (Int.le_refl _) (by omega)).1; omega⟩
  rw [decide_eq_false c1, cond_false]
  by_cases c2 : n ≤ l.getD i.toNat 0
  ·rw [decide_eq_true c2]; exact .inr ⟨rfl, fun h => by have := (h i (Int.le_refl _) (by omega)).2.1; omega⟩
  rw [decide_eq_false c2, cond_false]
  have go : (0 < i → l.getD (i - 1).toNat 0 < l.getD i.toNat 0) → (gh_ascending_L0 l n r (i + 1) = .brk () ∧ (∀ k, i ≤ k → k < (l.length : Int) → 0 ≤ l.getD k.toNat 0 ∧ l.getD k.toNat 0 < n ∧ (0 < k → l.getD (k - 1).toNat 0 < l.getD k.toNat 0))) ∨
    (gh_ascending_L0 l n r (i + 1) = .ret false ∧ ¬ ∀ k, i ≤ k → k < (l.length : Int) → 0 ≤ l.getD k.toNat 0 ∧ l.getD k.toNat 0 < n ∧ (0 < k → l.getD (k - 1).toNat 0 < l.getD k.toNat 0)) := fun hs => by
   rcases gasc_L0 l n r (i + 1) (by omega) (by omega) with ⟨h1, h2⟩ | ⟨h1, h2⟩
   ·refine .inl ⟨h1, fun k k1 k2 => ?_⟩
    by_cases e : k = i
    ·subst e; exact ⟨by omega, by omega, hs⟩
    ·exact h2 k (by omega) k2
   ·exact .inr ⟨h1, fun h => h2 fun k k1 k2 => h k (by omega) k2⟩
  by_cases c3 : 0 < i
  ·rw [decide_eq_true c3, cond_true]
   by_cases c4 : l.getD i.toNat 0 ≤ l.getD (i - 1).toNat 0
   ·rw [decide_eq_true c4]; exact .inr ⟨rfl, fun h => by have := (h i (Int.le_refl _) (by omega)).2.2 c3; omega⟩
   ·rw [decide_eq_false c4, cond_false]; exact go fun _ => by omega
  ·rw [decide_eq_false c3, cond_false]; exact go fun h => absurd h c3
theorem gasc_iff (l : List Int) (n : Int) : gh_ascending l n = true ↔ Asc l n := by
 unfold gh_ascending
 rcases gasc_L0 l n ((((l.length : Nat) : Int) - 0).toNat) 0 (by omega) (by omega) with ⟨h1, h2⟩ | ⟨h1, h2⟩
 ·rw [h1]; exact ⟨fun _ => h2, fun _ => rfl⟩
 ·rw [h1]; exact ⟨fun h => (by cases h), fun h => absurd h h2⟩
theorem count_L0 (l : List (List Int)) : ∀ (r : Nat) (e i : Int), (r : Int) = (l.length : Int) - i → 0 ≤ i → 0 ≤ e → (∃ e', gh_count_L0 l r e i = .brk e' ∧ 0 ≤ e' ∧ ∀ k, i ≤ k → k < (l.length : Int) → Asc (l.getD k.toNat []) (l.length : Int)) ∨ gh_count_L0 l r e i = .ret (-1)
 | 0, e, i, hr, hi, he => .inl ⟨e, by rw [gh_count_L0], he, fun k h1 h2 => by omega⟩
 | r + 1, e, i, hr, hi, he => by
  rw [gh_count_L0]
  cases decide (1024 < e + (((l.getD i.toNat []).length : Nat) : Int))
  ·rw [cond_false]
   cases ha : gh_ascending (l.getD i.toNat []) ((l.length : Nat) : Int)
   ·exact .inr rfl
   ·rcases count_L0 l r (e + (((l.getD i.toNat []).length : Nat) : Int)) (i + 1) (by omega) (by omega) (by omega) with ⟨e', h1, h2, h3⟩ | h1
    ·refine .inl ⟨e', h1, h2, fun k k1 k2 => ?_⟩
     by_cases c : k = i
     ·subst c; exact (gasc_iff _ _).1 ha
     ·exact h3 k (by omega) k2
    ·exact .inr h1
  ·exact .inr rfl
theorem count_rg {l : List (List Int)} {r : Int} (h : gh_count l = r) (hr : decide (r < 0) = false) : ∀ (i k : Nat), (k : Int) < ((l.getD i []).length : Int) → 0 ≤ (l.getD i []).getD k 0 ∧ (l.getD i []).getD k 0 < (l.length : Int) := fun i k hk => by
 have hr := of_decide_eq_false hr
 unfold gh_count at h
 rcases count_L0 l ((((l.length : Nat) : Int) - 0).toNat) 0 0 (by omega) (by omega) (by omega) with ⟨e', h1, h2, h3⟩ | h1
 ·by_cases hi : i < l.length
  ·have := h3 (i : Int) (by omega) (by omega) (k : Int) (by omega) (by rw [show ((i : Int)).toNat = i by omega]; exact hk)
   rw [show ((i : Int)).toNat = i by omega, show ((k : Int)).toNat = k by omega] at this
   exact ⟨this.1, this.2.1⟩
  ·rw [List.getD_eq_getElem?_getD, List.getElem?_eq_none (by omega)] at hk; simp at hk; omega
 ·rw [h1] at h; dsimp only at h; omega
theorem count_asc {l : List (List Int)} {r : Int} (h : gh_count l = r) (hr : decide (r < 0) = false) : ∀ k : Int, 0 ≤ k → k < (l.length : Int) → Asc (l.getD k.toNat []) (l.length : Int) := by
 have hr := of_decide_eq_false hr
 unfold gh_count at h
 rcases count_L0 l ((((l.length : Nat) : Int) - 0).toNat) 0 0 (by omega) (by omega) (by omega) with ⟨e', h1, h2, h3⟩ | h1
 ·exact h3
 ·rw [h1] at h; dsimp only at h; omega
theorem Valid_VG {g : GGraph} (h : gh_Valid g = true) : VG g := by
 unfold gh_Valid at h
 dsimp only at h
 by_cases c1 : ((g.Nodes.length : Nat) : Int) < 1
 ·rw [decide_eq_true c1] at h; cases h
 rw [decide_eq_false c1, cond_false] at h
 by_cases c2 : 256 < ((g.Nodes.length : Nat) : Int)
 ·rw [decide_eq_true c2] at h; cases h
 rw [decide_eq_false c2, cond_false] at h
 cases c3 : ((g.Succ.length : Nat) : Int) != ((g.Nodes.length : Nat) : Int)
 ·rw [c3, cond_false] at h
  cases c4 : ((g.Pred.length : Nat) : Int) != ((g.Nodes.length : Nat) : Int)
  ·rw [c4, cond_false] at h
   cases c5 : decide (gh_count g.Succ < 0)
   ·have e3 : ((g.Succ.length : Nat) : Int) = ((g.Nodes.length : Nat) : Int) := by simpa using c3
    have e4 : ((g.Pred.length : Nat) : Int) = ((g.Nodes.length : Nat) : Int) := by simpa using c4
    have ha := count_asc rfl c5
    rw [e3] at ha
    exact ⟨by omega, by omega, by omega, ha⟩
   ·rw [c5] at h; cases h
  ·rw [c4] at h; cases h
 ·rw [c3] at h; cases h
theorem Valid_f {g : GGraph} {r : Bool} (h : gh_Valid g = r) (hr : (!r) = false) : VG g := Valid_VG (h.trans (by cases r; cases hr; rfl))
theorem Abs_trok {x : Flo} {y : BitVec 64} {r : Flo} (hr : math_Abs x = r) (h : fle r ⟨y⟩ = true) : ftruncok x = true := by
 subst hr
 exact fle_trok (x := x.b) (y := y) h
theorem edge_sum {e : Gedge} (h : EW e) {x y : Flo} (hx : math_Abs (Flo.mk (csub e.to_ e.from_).re) = x) (hy : math_Abs (Flo.mk (csub e.to_ e.from_).im) = y) : addok x y = true ∧ ∃ n : Int, 0 ≤ n ∧ n ≤ 4096 ∧ IV (fadd x y).b n := by
 obtain ⟨_, u, v, h1, h2, h3, h4⟩ := edge_ok h
 subst hx
 subst hy
 have p := IV_add (IV_abs h1) (IV_abs h2) (by omega)
 exact ⟨p.1, _, by omega, by omega, p.2⟩
theorem edge_addA {l : List Gedge} {i : Nat} {x y : Flo} (hx : math_Abs (Flo.mk (csub (l.getD i default).to_ (l.getD i default).from_).re) = x) (hy : math_Abs (Flo.mk (csub (l.getD i default).to_ (l.getD i default).from_).im) = y) (h : ∀ e ∈ l, EW e) (hi : i < l.length) : addok x y = true := (edge_sum (h _ (getD_mem (d := default) hi)) hx hy).1
theorem edge_addB {l : List Gedge} {i : Nat} {s x y : Flo} (hx : math_Abs (Flo.mk (csub (l.getD i default).to_ (l.getD i default).from_).re) = x) (hy : math_Abs (Flo.mk (csub (l.getD i default).to_ (l.getD i default).from_).im) = y) (h : ∀ e ∈ l, EW e) (hi : i < l.length) (hs : NN s) : addok s (fadd x y) = true ∧ NN (fadd s (fadd x y)) := by
 obtain ⟨n, _, _, hn⟩ := (edge_sum (h _ (getD_mem (d := default) hi)) hx hy).2
 exact NN_add hs hn
theorem whole1_eq (x : Flo) : layout_whole_1 x = wholeB x.b := by
 show (bif fle ⟨babs x.b⟩ ⟨4652218415073722368#64⟩ then feq x (ftrunc x) else false) = (fle ⟨babs x.b⟩ ⟨4652218415073722368#64⟩ && feq ⟨x.b⟩ (ftrunc ⟨x.b⟩))
 all_goals (cases fle ⟨babs x.b⟩ ⟨4652218415073722368#64⟩ <;> rfl)
theorem whole2_eq (p : Cpx) : layout_whole_2_whole_1 p = !(wholeB p.re && wholeB p.im) := by
 -- layout_whole is behind
 unfold layout_whole_2_whole_1
 simp only [whole1_eq]
 all_goals (cases wholeB p.re <;> cases wholeB p.im <;> rfl)
theorem ixw (l : List Cpx) : ∀ (r : Nat) (i : Int), 0 ≤ i → i + (r : Int) = (l.length : Int) → (sc_IndexFunc_complex128_whole_2_L0 l r i = .brk () ∧ ∀ j : Nat, i ≤ (j : Int) → j < l.length → layout_whole_2_whole_1 (l.getD j default) = false) ∨ ∃ j : Int, sc_IndexFunc_complex128_whole_2_L0 l r i = .ret j ∧ i ≤ j ∧ j < (l.length : Int) ∧ layout_whole_2_whole_1 (l.getD j.toNat default) = true
 | 0, i, h0, h1 => by
  -- layout_whole is behind
  rw [sc_IndexFunc_complex128_whole_2_L0]
  exact .inl ⟨rfl, fun j h2 h3 => by omega⟩
 | r + 1, i, h0, h1 => by
  rw [sc_IndexFunc_complex128_whole_2_L0]
  try dsimp only
  cases e : layout_whole_2_whole_1 (l.getD i.toNat default)
  ·rcases ixw l r (i + 1) (by omega) (by omega) with ⟨h2, h3⟩ | ⟨j, h2, h3, h4, h5⟩
   ·refine .inl ⟨h2, fun j h4 h5 => ?_⟩
    by_cases c : (j : Int) = i
    ·rw [show j = i.toNat by omega]; exact e
    ·exact h3 j (by omega) h5
   ·exact .inr ⟨j, h2, by omega, h4, h5⟩
  ·exact .inr ⟨i, rfl, Int.le_refl _, by omega, e⟩
theorem whole_iff (l : List Cpx) : layout_whole l = true ↔ ∀ p ∈ l, wholeB p.re = true ∧ wholeB p.im = true := by
 unfold layout_whole sc_ContainsFunc_complex128_whole_2 sc_IndexFunc_complex128_whole_2
 dsimp only
 rcases ixw l _ 0 (by omega) (show (0 : Int) + (((((l.length : Nat) : Int) - 0).toNat : Nat) : Int) = (l.length : Int) by omega) with ⟨h2, h3⟩ | ⟨j, h2, h3, h4, h5⟩
 ·rw [h2]
  refine ⟨fun _ p hp => ?_, fun _ => rfl⟩
  obtain ⟨j, hj, e⟩ := List.getElem_of_mem hp
  have := h3 j (by omega) hj
  rw [List.getD_eq_getElem?_getD, List.getElem?_eq_getElem hj] at this
  simp only [Option.getD_some] at this
  rw [e, whole2_eq] at this
  simpa using this
 ·rw [h2]
  refine ⟨fun h => ?_, fun h => ?_⟩
  ·simp only [decide_eq_true h3] at h; cases h
  ·have hm := h _ (getD_mem (xs := l) (i := j.toNat) (d := default) (by omega))
   rw [whole2_eq, hm.1, hm.2] at h5
   cases h5
theorem whole_WP (l : List Cpx) : layout_whole l = true ↔ WP l := by
 rw [whole_iff]
 refine ⟨fun h p hp => ?_, fun h p hp => ?_⟩
 ·obtain ⟨h1, h2⟩ := h p hp
  obtain ⟨a, a1, a2⟩ := whole_IV h1
  obtain ⟨b, b1, b2⟩ := whole_IV h2
  exact ⟨a, b, ⟨a2, b2⟩, a1, b1⟩
 ·obtain ⟨a, b, ⟨h1, h2⟩, a1, b1⟩ := h p hp
  exact ⟨whole_of h1 a1, whole_of h2 b1⟩
theorem whole_f {at_ : List Cpx} {v : Bool} (h : layout_whole at_ = v) (hr : (!v) = false) : WP at_ := (whole_WP at_).1 (h.trans (by cases v; cases hr; rfl))
theorem pts_whole (x y : Flo) : layout_whole (pts x y) = (wholeB x.b && wholeB y.b) := by
 have w0 := whole_of IV_0 (by decide)
 have w1 := whole_of IV_1 (by decide)
 cases hx : wholeB x.b
 ·cases h : layout_whole (pts x y)
  ·rfl
  ·have := ((whole_iff _).1 h (Cpx.mk x.b y.b) (by simp [pts])).1
   rw [hx] at this; cases this
 ·cases hy : wholeB y.b
  ·cases h : layout_whole (pts x y)
   ·rfl
   ·have := ((whole_iff _).1 h (Cpx.mk x.b y.b) (by simp [pts])).2
    rw [hy] at this; cases this
  ·refine (whole_iff _).2 fun p hp => ?_
   simp only [pts, List.mem_cons, List.not_mem_nil, or_false] at hp
   rcases hp with rfl | rfl | rfl | rfl
   ·exact ⟨w0, w0⟩
   ·exact ⟨w0, w1⟩
   ·exact ⟨w1, w1⟩
   ·exact ⟨hx, hy⟩
theorem edges_L1W {at_ : List Cpx} (h : WP at_) (a : Int) (ha : a.toNat < at_.length) (v : List Int) : ∀ (r : Nat) (l : List Gedge) (j : Int), (∀ e ∈ v, e.toNat < at_.length) → 0 ≤ j → j + (r : Int) ≤ (v.length : Int) → (∀ e ∈ l, EW e) → ∀ e ∈ layout_edges_L1 at_ a v r l j, EW e
 | 0, l, j, hv, h0, h1, hl => by rw [layout_edges_L1]; exact hl
 | r + 1, l, j, hv, h0, h1, hl => by
  have hb := hv _ (getD_mem (xs := v) (i := j.toNat) (d := 0) (by omega))
  obtain ⟨p, q, h2, h3, h4⟩ := h _ (getD_mem (xs := at_) (i := a.toNat) (d := default) ha)
  obtain ⟨p', q', h2', h3', h4'⟩ := h _ (getD_mem (xs := at_) (d := default) hb)
  have key : ∀ e ∈ l ++ [(Gedge.mk (at_.getD a.toNat default) (at_.getD (v.getD j.toNat 0).toNat default))], EW e := fun e he => by
   rcases List.mem_append.1 he with c | c
   ·exact hl e c
   ·rw [List.mem_singleton.1 c]; exact ⟨p, q, p', q', ⟨h2, h2'⟩, ⟨h3, h4⟩, h3', h4'⟩
  rw [layout_edges_L1]
  cases (!(ceq (at_.getD a.toNat default) (Cpx.mk 13830554455654793216#64 0#64)))
  ·exact edges_L1W h a ha v r l _ hv (by omega) (by omega) hl
  ·cases (!(ceq (at_.getD (v.getD j.toNat 0).toNat default) (Cpx.mk 13830554455654793216#64 0#64)))
   ·exact edges_L1W h a ha v r l _ hv (by omega) (by omega) hl
   ·exact edges_L1W h a ha v r _ _ hv (by omega) (by omega) key
theorem edges_L0W {g : GGraph} {at_ : List Cpx} (h : WP at_) (hg : VG g) (hl : at_.length = g.Nodes.length) : ∀ (r : Nat) (l : List Gedge) (j : Int), 0 ≤ j → j + (r : Int) ≤ (g.Succ.length : Int) → (∀ e ∈ l, EW e) → ∀ e ∈ layout_edges_L0 g at_ r l j, EW e
 | 0, l, j, h0, h1, hp => by rw [layout_edges_L0]; exact hp
 | r + 1, l, j, h0, h1, hp => by
  have hs := hg.sl
  rw [layout_edges_L0]
  try dsimp only
  exact edges_L0W h hg hl r _ (j + 1) (by omega) (by omega) (edges_L1W h j (by omega) _ _ l 0 (fun e he => by have := Asc_mem (hg.sa j (by omega) (by omega)) he; omega) (Int.le_refl _) (by omega) hp)
theorem edges_EW {g : GGraph} {at_ : List Cpx} {r : List Gedge} (h : layout_edges g at_ = r) : ∀ e ∈ r, EW e := by
 subst h
 unfold layout_edges
 dsimp only
 cases hv : gh_Valid g
 ·intro e he; cases he
 cases hc : (((at_.length : Nat) : Int) != ((g.Nodes.length : Nat) : Int))
 ·cases hw : layout_whole at_
  ·intro e he; cases he
  ·have hg := Valid_VG hv
   have hl' : ((at_.length : Nat) : Int) = ((g.Nodes.length : Nat) : Int) := by simpa using hc
   have hl : at_.length = g.Nodes.length := by omega
   exact edges_L0W ((whole_WP at_).1 hw) hg hl _ [] 0 (Int.le_refl _) (by omega) (fun e he => by cases he)
 ·intro e he; cases he
theorem edges_no {g : GGraph} {l : List Cpx} (h : layout_whole l = false) : layout_edges g l = [] := by
 unfold layout_edges
 dsimp only
 rw [h]
 all_goals (cases (!gh_Valid g) <;> cases (((l.length : Nat) : Int) != ((g.Nodes.length : Nat) : Int)) <;> rfl)
theorem edl_L1 (at_ : List Cpx) (a : Int) (v : List Int) : ∀ (r : Nat) (l : List Gedge) (j : Int), (layout_edges_L1 at_ a v r l j).length ≤ l.length + r
 | 0, l, j => by rw [layout_edges_L1]; omega
 | r + 1, l, j => by
  rw [layout_edges_L1]
  have h1 := edl_L1 at_ a v r l (j + 1)
  cases (!(ceq (at_.getD a.toNat default) (Cpx.mk 13830554455654793216#64 0#64)))
  ·exact Nat.le_trans h1 (by omega)
  ·cases (!(ceq (at_.getD (v.getD j.toNat 0).toNat default) (Cpx.mk 13830554455654793216#64 0#64)))
   ·exact Nat.le_trans h1 (by omega)
   ·refine Nat.le_trans (edl_L1 at_ a v r _ (j + 1)) ?_
    simp only [List.length_append, List.length_cons, List.length_nil]; omega
theorem edl_L0 {g : GGraph} (at_ : List Cpx) (h : ∀ k, (g.Succ.getD k []).length ≤ 2) : ∀ (r : Nat) (l : List Gedge) (j : Int), (layout_edges_L0 g at_ r l j).length ≤ l.length + 2 * r
 | 0, l, j => by rw [layout_edges_L0]; omega
 | r + 1, l, j => by
  rw [layout_edges_L0]
  try dsimp only
  have h1 := edl_L1 at_ j (g.Succ.getD j.toNat []) (((((g.Succ.getD j.toNat []).length : Nat) : Int) - 0).toNat) l 0
  have h2 := h j.toNat
  refine Nat.le_trans (edl_L0 at_ h r _ (j + 1)) ?_
  have : (((((g.Succ.getD j.toNat []).length : Nat) : Int) - 0).toNat) ≤ 2 := by omega
  omega
theorem dia_edges (l : List Cpx) : (layout_edges w33_diamond l).length ≤ 8 := by
 unfold layout_edges
 dsimp only
 cases (!gh_Valid w33_diamond)
 ·cases (((l.length : Nat) : Int) != ((w33_diamond.Nodes.length : Nat) : Int))
  ·cases (!layout_whole l)
   ·exact edl_L0 l dia_S 4 [] 0
   ·exact Nat.zero_le _
  ·exact Nat.zero_le _
 ·exact Nat.zero_le _
theorem Len_no {g : GGraph} {l : List Cpx} (h : layout_whole l = false) : layout_Length g l = Flo.mk 0#64 := by
 unfold layout_Length
 rw [edges_no h]; rfl
theorem Len_L0 {l : List Gedge} (h : ∀ e ∈ l, EW e) : ∀ (r : Nat) (s : Flo) (v n : Int), 0 ≤ v → v + (r : Int) ≤ (l.length : Int) → 0 ≤ n → n + 4096 * r < 100000 → IV s.b n → ∃ m : Int, 0 ≤ m ∧ IV (layout_Length_L0 l r s v).b m
 | 0, s, v, n, _, _, hn, _, hs => by rw [layout_Length_L0]; exact ⟨n, hn, hs⟩
 | r + 1, s, v, n, h0, h1, hn, hb, hs => by
  rw [layout_Length_L0]
  try dsimp only
  obtain ⟨_, m, m1, m2, hm⟩ := edge_sum (h _ (getD_mem (xs := l) (i := v.toNat) (d := default) (by omega))) rfl rfl
  exact Len_L0 h r _ (v + 1) (n + m) (by omega) (by omega) (by omega) (by omega) (IV_add hs hm (by omega)).2
theorem Len_yes (l : List Cpx) : fge (layout_Length w33_diamond l) (Flo.mk 0#64) = true := by
 have he := dia_edges l
 have hw := edges_EW (g := w33_diamond) (at_ := l) rfl
 unfold layout_Length
 generalize layout_edges w33_diamond l = es at *
 obtain ⟨m, hm, hi⟩ := Len_L0 hw (((((es.length : Nat) : Int) : Int) - 0).toNat) (Flo.mk 0#64) 0 0 (Int.le_refl _) (by omega) (Int.le_refl _) (by omega) IV_0
 dsimp only
 unfold fge
 rw [IV_ord hi IV_0, cmpI, if_neg (by omega)]
 by_cases c : m = 0
 ·rw [if_pos c]; rfl
 ·rw [if_neg c]; rfl
theorem Clone_WP {l r : List Cpx} {v : Bool} (hv : layout_whole l = v) (h : (!v) = false) (hr : sc_Clone_complex128 l = r) : WP r := by
 have : r = l := by rw [← hr]; rfl
 rw [this]
 exact (whole_WP l).1 (hv.trans (by cases v; cases h; rfl))
theorem tl_L1 : ∀ (r : Nat) (l : List Cpx) (i : Int), (layout_Turn_L1 r l i).length = l.length
 | 0, l, i => by rw [layout_Turn_L1]
 | r + 1, l, i => by rw [layout_Turn_L1, tl_L1 r]; simp
theorem tl_L0 : ∀ (r : Nat) (l : List Cpx) (i : Int), (layout_Turn_L0 r l i).length = l.length
 | 0, l, i => by rw [layout_Turn_L0]
 | r + 1, l, i => by
  rw [layout_Turn_L0]
  try dsimp only
  rw [tl_L0 r, tl_L1]
theorem Turn_yes {l : List Cpx} (h : layout_whole l = true) (q : Int) : (layout_Turn l q).length = l.length := by
 unfold layout_Turn
 dsimp only
 rw [h]
 exact tl_L0 _ _ _
theorem Turn_no {l : List Cpx} (h : layout_whole l = false) (q : Int) : layout_Turn l q = [] := by
 unfold layout_Turn
 dsimp only
 rw [h]; rfl
theorem Cross_no {g : GGraph} {l : List Cpx} (h : layout_whole l = false) : layout_Crossings g l = 0 := by
 unfold layout_Crossings
 rw [edges_no h]; rfl
theorem fr_tail {x y : Flo} (h : layout_whole (pts x y) = false) : (bif (layout_Crossings w33_diamond (pts x y) == 0) then (bif feq (layout_Length w33_diamond (pts x y)) (Flo.mk 0#64) then (bif ((((layout_Turn (pts x y) 1).length : Nat) : Int) == 0) then true else false) else false) else false) = true := by
 rw [Cross_no h, Len_no h, Turn_no h]
 have : feq (Flo.mk 0#64) (Flo.mk 0#64) = true := by
  unfold feq
  rw [IV_ord IV_0 IV_0]; rfl
 rw [this]; rfl
theorem LayoutFractions_true (x y : Flo) : w33_LayoutFractions x y = true := by
 have hs : w33_sane = true := rfl
 have hp := pts_whole x y
 unfold w33_LayoutFractions
 rw [hs]
 show (bif fge x (Flo.mk 13875590451928498176#64) then bif fle x (Flo.mk 4652218415073722368#64) then bif fge y (Flo.mk 13875590451928498176#64) then bif fle y (Flo.mk 4652218415073722368#64) then bif feq x (fofI (ftoI x)) then bif feq y (fofI (ftoI y)) then
  (bif fge (layout_Length w33_diamond (pts x y)) (Flo.mk 0#64) then (bif ((((layout_Turn (pts x y) 1).length : Nat) : Int) == 4) then true else false) else false)
  else _ else _ else _ else _ else _ else _) = true
 cases ax : fge x (Flo.mk 13875590451928498176#64)
 ·exact fr_tail (hp.trans (by cases w : wholeB x.b; rfl; rw [(wh_tr w).1] at ax; cases ax))
 cases bx : fle x (Flo.mk 4652218415073722368#64)
 ·exact fr_tail (hp.trans (by cases w : wholeB x.b; rfl; rw [(wh_tr w).2.1] at bx; cases bx))
 cases ay : fge y (Flo.mk 13875590451928498176#64)
 ·exact fr_tail (hp.trans (by cases w : wholeB y.b; cases wholeB x.b <;> rfl; rw [(wh_tr w).1] at ay; cases ay))
 cases bY : fle y (Flo.mk 4652218415073722368#64)
 ·exact fr_tail (hp.trans (by cases w : wholeB y.b; cases wholeB x.b <;> rfl; rw [(wh_tr w).2.1] at bY; cases bY))
 cases cx : feq x (fofI (ftoI x))
 ·exact fr_tail (hp.trans (by cases w : wholeB x.b; rfl; rw [(wh_tr w).2.2] at cx; cases cx))
 cases cy : feq y (fofI (ftoI y))
 ·exact fr_tail (hp.trans (by cases w : wholeB y.b; cases wholeB x.b <;> rfl; rw [(wh_tr w).2.2] at cy; cases cy))
 have hw : layout_whole (pts x y) = true := by rw [hp, tr_IV ax bx cx, tr_IV ay bY cy]; rfl
 rw [cond_true, cond_true, cond_true, cond_true, cond_true, cond_true, Len_yes, Turn_yes hw]
 rfl
theorem fx40 : Ext1 Tryd.prog 40 Extern.MathFloatBits.float64bits := fun args w => run_callFunc_extern Tryd.func40 (by kernel_rfl) (by kernel_rfl) (by kernel_rfl) (by kernel_rfl) args w
theorem fx39 : Ext1 Tryd.prog 39 Extern.MathFloatBits.float64frombits := fun args w => run_callFunc_extern Tryd.func39 (by kernel_rfl) (by kernel_rfl) (by kernel_rfl) (by kernel_rfl) args w
theorem fx42 : Ext1 Tryd.prog 42 (Extern.MathFloor.toIntegral "math.archTrunc" .zero) := fun args w => run_callFunc_extern Tryd.func42 (by kernel_rfl) (by kernel_rfl) (by kernel_rfl) (by kernel_rfl) args w
theorem ca28 : callable Tryd.prog 28 = true := by kernel_rfl
theorem ca23 : callable Tryd.prog 23 = true := by kernel_rfl
theorem ze69 : zeroOf Tryd.prog 69 = some (.nilFunc) := by kernel_rfl
theorem sh69 : tyShape Tryd.prog 69 = some (false, 1) := by kernel_rfl
theorem ca29 : callable Tryd.prog 29 = true := by kernel_rfl
theorem ca30 : callable Tryd.prog 30 = true := by kernel_rfl
theorem ca27 : callable Tryd.prog 27 = true := by kernel_rfl
theorem sl30 : slTy Tryd.prog 30 = some (37, 1, 16) := by kernel_rfl
theorem sh37 : tyShape Tryd.prog 37 = some (false, 1) := by kernel_rfl
theorem ca44 : callable Tryd.prog 44 = true := by kernel_rfl
theorem un30 : Tryd.prog.underlying 30 = some (.slice 37) := by kernel_rfl
theorem sz30 : slZero Tryd.prog 30 = some [cxv (Cpx.mk 0#64 0#64)] := by kernel_rfl
theorem ca19 : callable Tryd.prog 19 = true := by kernel_rfl
theorem ca38 : callable Tryd.prog 38 = true := by kernel_rfl
theorem ca18 : callable Tryd.prog 18 = true := by kernel_rfl
theorem st63 : stTy Tryd.prog 63 = some ([(0, 1), (1, 1)], [cxv (Cpx.mk 0#64 0#64), cxv (Cpx.mk 0#64 0#64)]) := by kernel_rfl
theorem sl60 : slTy Tryd.prog 60 = some (63, 2, 32) := by kernel_rfl
theorem sz60 : slZero Tryd.prog 60 = some [cxv (Cpx.mk 0#64 0#64), cxv (Cpx.mk 0#64 0#64)] := by kernel_rfl
theorem fmix : Tryd.prog.follows .mixedOrders = true := by kernel_rfl
theorem ze42 : zeroOf Tryd.prog 42 = some (.agg #[.slice none 0 0, .slice none 0 0, .slice none 0 0]) := by kernel_rfl
theorem sl39 : slTy Tryd.prog 39 = some (157, 4, 32) := by kernel_rfl
theorem sz39 : slZero Tryd.prog 39 = some [vi 0, vi 0, vi 0, vi 0] := by kernel_rfl
theorem sl22 : slTy Tryd.prog 22 = some (3, 1, 8) := by kernel_rfl
theorem sz22 : slZero Tryd.prog 22 = some [vi 0] := by kernel_rfl
theorem sl40 : slTy Tryd.prog 40 = some (22, 1, 24) := by kernel_rfl
theorem sz40 : slZero Tryd.prog 40 = some [.slice none 0 0] := by kernel_rfl
theorem st42 : stTy Tryd.prog 42 = some ([(0, 1), (1, 1), (2, 1)], [.slice none 0 0, .slice none 0 0, .slice none 0 0]) := by kernel_rfl
theorem sh42 : tyShape Tryd.prog 42 = some (true, 3) := by kernel_rfl
theorem sh3 : tyShape Tryd.prog 3 = some (false, 1) := by kernel_rfl
theorem sh22 : tyShape Tryd.prog 22 = some (false, 1) := by kernel_rfl
theorem ca64 : callable Tryd.prog 64 = true := by kernel_rfl
theorem ca65 : callable Tryd.prog 65 = true := by kernel_rfl
theorem fo42_0 : fldOff Tryd.prog 42 0 = some 0 := by kernel_rfl
theorem sh39 : tyShape Tryd.prog 39 = some (false, 1) := by kernel_rfl
theorem fo42_1 : fldOff Tryd.prog 42 1 = some 1 := by kernel_rfl
theorem sh40 : tyShape Tryd.prog 40 = some (false, 1) := by kernel_rfl
theorem fo42_2 : fldOff Tryd.prog 42 2 = some 2 := by kernel_rfl
theorem ca53 : callable Tryd.prog 53 = true := by kernel_rfl
theorem ca54 : callable Tryd.prog 54 = true := by kernel_rfl
theorem ca22 : callable Tryd.prog 22 = true := by kernel_rfl
theorem sh63 : tyShape Tryd.prog 63 = some (true, 2) := by kernel_rfl
theorem ze63 : zeroOf Tryd.prog 63 = some (.agg #[cxv (Cpx.mk 0#64 0#64), cxv (Cpx.mk 0#64 0#64)]) := by kernel_rfl
theorem fo63_1 : fldOff Tryd.prog 63 1 = some 1 := by kernel_rfl
theorem fo63_0 : fldOff Tryd.prog 63 0 = some 0 := by kernel_rfl
theorem ca41 : callable Tryd.prog 41 = true := by kernel_rfl
theorem ca25 : callable Tryd.prog 25 = true := by kernel_rfl
theorem ca24 : callable Tryd.prog 24 = true := by kernel_rfl
theorem ca57 : callable Tryd.prog 57 = true := by kernel_rfl
theorem un3 : Tryd.prog.underlying 3 = some (.int .i64) := by kernel_rfl
theorem un68 : Tryd.prog.underlying 68 = some (.int .u64) := by kernel_rfl
theorem ca45 : callable Tryd.prog 45 = true := by kernel_rfl
theorem ca66 : callable Tryd.prog 66 = true := by kernel_rfl
theorem un88 : Tryd.prog.underlying 88 = some (.int .u64) := by kernel_rfl
theorem un5 : Tryd.prog.underlying 5 = some (.int .u8) := by kernel_rfl
theorem un9 : Tryd.prog.underlying 9 = some .string := by kernel_rfl
theorem ca75 : callable Tryd.prog 75 = true := by kernel_rfl
theorem ca59 : callable Tryd.prog 59 = true := by kernel_rfl
theorem ca58 : callable Tryd.prog 58 = true := by kernel_rfl
theorem ca60 : callable Tryd.prog 60 = true := by kernel_rfl
theorem ca49 : callable Tryd.prog 49 = true := by kernel_rfl
theorem ca48 : callable Tryd.prog 48 = true := by kernel_rfl
theorem ze22 : zeroOf Tryd.prog 22 = some (.slice none 0 0) := by kernel_rfl
theorem sl94 : slTy Tryd.prog 94 = some (4, 1, 1) := by kernel_rfl
theorem sz94 : slZero Tryd.prog 94 = some [vb false] := by kernel_rfl
theorem sh4 : tyShape Tryd.prog 4 = some (false, 1) := by kernel_rfl
theorem ca47 : callable Tryd.prog 47 = true := by kernel_rfl
theorem ca46 : callable Tryd.prog 46 = true := by kernel_rfl
theorem ca31 : callable Tryd.prog 31 = true := by kernel_rfl
theorem ca32 : callable Tryd.prog 32 = true := by kernel_rfl
theorem ca33 : callable Tryd.prog 33 = true := by kernel_rfl
theorem ca76 : callable Tryd.prog 76 = true := by kernel_rfl
theorem ca61 : callable Tryd.prog 61 = true := by kernel_rfl
theorem ca50 : callable Tryd.prog 50 = true := by kernel_rfl
theorem ze77 : zeroOf Tryd.prog 77 = some (.agg #[.pointer none, .slice none 0 0]) := by kernel_rfl
theorem ca34 : callable Tryd.prog 34 = true := by kernel_rfl
theorem sl78 : slTy Tryd.prog 78 = some (9, 1, 16) := by kernel_rfl
theorem sz78 : slZero Tryd.prog 78 = some [.string (bs (Str.mk []))] := by kernel_rfl
theorem ca36 : callable Tryd.prog 36 = true := by kernel_rfl
theorem ca35 : callable Tryd.prog 35 = true := by kernel_rfl
theorem ca37 : callable Tryd.prog 37 = true := by kernel_rfl
theorem ca13 : callable Tryd.prog 13 = true := by kernel_rfl
theorem ca20 : callable Tryd.prog 20 = true := by kernel_rfl
theorem ca21 : callable Tryd.prog 21 = true := by kernel_rfl
theorem ca10 : callable Tryd.prog 10 = true := by kernel_rfl
theorem ca14 : callable Tryd.prog 14 = true := by kernel_rfl
theorem un36 : Tryd.prog.underlying 36 = some (.float .f64) := by kernel_rfl
theorem ca12 : callable Tryd.prog 12 = true := by kernel_rfl
theorem ca11 : callable Tryd.prog 11 = true := by kernel_rfl
theorem fn23 (x : Flo) (rr : Flo) (hrr : math_Abs x = rr) : FT Tryd.prog 23 #[flo x] [] (fun g : Unit => True) (fun g => flo rr) (fun g => []) := by
 refine FTi Tryd.func23 fun w0 M0 F0 => ?_
 refine KS ?_
 refine Oq Va (KS ?_)
 refine Oq Vm (Oq (VfB (a := x) fx40) (Oq (VandNotU (b := 9223372036854775808#64)) (Oq (VfF (a := ((x.b) &&& ~~~(9223372036854775808#64))) fx39) (Oq Va (KS ?_)))))
 have hq := q4 hrr (Flo.mk ((x.b) &&& ~~~(9223372036854775808#64))) (by simp only [math_Abs, cs4]); subst hq
 exact Kr () rfl (.tmp rfl .nil) [] trivial
theorem fn28 (x : Flo) (ht0 : ftruncok x = true) (rr : Flo) (hrr : math_Trunc x = rr) : FT Tryd.prog 28 #[flo x] [] (fun g : Unit => True) (fun g => flo rr) (fun g => []) := by
 refine FTi Tryd.func28 fun w0 M0 F0 => ?_
 refine KS ?_
 refine Oq Va (KS ?_)
 refine Kt (KS ?_)
 refine Oq Vm (Oq (VfT (a := x) fx42) (Oq Va (KS ?_)))
 have hq := q4 hrr (ftrunc x) (by simp only [math_Trunc, cs4]); subst hq
 exact Kr () rfl (.tmp rfl .nil) [] trivial
theorem fn27 (x : Flo) (rr : Bool) (hrr : layout_whole_1 x = rr) : FT Tryd.prog 27 #[flo x] [] (fun g : Unit => True) (fun g => vb rr) (fun g => []) := by
 refine FTi Tryd.func27 fun w0 M0 F0 => ?_
 refine KS ?_
 refine Oq Va (KS ?_)
 refine Oq Vm ?_
 refine letv (math_Abs x) fun rv1 hg2 => ?_
 have hc3 := fn23 x rv1 hg2
 refine Oc [] ca23 hc3 ?_
 rintro - -
 refine Oq (VleF (a := rv1) (b := (Flo.mk 4652218415073722368#64))) (Oq Vm ?_)
 refine Js 6 ?_ ?_
 ·intro h4
  refine Oq Vm (Oq Vm ?_)
  refine letv (math_Trunc x) fun rv6 hg7 => ?_
  have hc8 := fn28 x (Abs_trok (by assumption) (by assumption)) rv6 hg7
  refine Oc [] ca28 hc8 ?_
  rintro - -
  refine Oq (VeqF (a := x) (b := rv6)) (Oq Vpt (Oq Va (KS ?_)))
  have hq := q4 hrr (feq x rv6) (by simp only [layout_whole_1, h4, hg2, hg7, cs4]); subst hq
  exact Kr () rfl (.tmp rfl .nil) [] trivial
 intro h4
 refine Osk (Osk (Osk (Osk (Oq Vpf (Oq Va (KS ?_))))))
 have hq := q4 hrr false (by simp only [layout_whole_1, h4, hg2, cs4]); subst hq
 exact Kr () rfl (.tmp rfl .nil) [] trivial
theorem fn30m0 (p : Cpx) (cap0P : Value) (rr : Bool) (hrr : layout_whole_2_whole_1 p = rr) : FT Tryd.prog 30 #[cxv p, cap0P] [pv cap0P [.func (.func 27) #[] #[]]] (fun g : Unit => True) (fun g => vb rr) (fun g => []) := by
 refine FTi Tryd.func30 fun w0 M0 F0 => ?_
 refine KS ?_
 refine Oq Va (KS ?_)
 refine Oq (Vld sh69 0) (Oq Vm (Oq (Vre (a := p)) ?_))
 refine letv (layout_whole_1 (Flo.mk p.re)) fun rv1 hg2 => ?_
 have hc3 := fn27 ((Flo.mk p.re)) rv1 hg2
 refine JO_call [] rfl rfl rfl (OpC.clo (asv := [(flo (Flo.mk p.re) : Value)]) rfl rfl ca27 rfl (by simp)) hc3 rfl ?_
 rintro - -
 refine Oq Vnot (Oq Vm ?_)
 refine Js 9 ?_ ?_
 ·intro h4
  have h6 := not_true h4
  refine Osk (Osk (Osk (Osk (Osk (Oq Vpt (Oq Va (KS ?_)))))))
  have hq := q4 hrr true (by simp only [layout_whole_2_whole_1, h4, h6, hg2, cs4]); subst hq
  exact Kr () rfl (.tmp rfl .nil) [] trivial
 intro h4
 have h9 := not_false h4
 refine Oq (Vld sh69 0) (Oq Vm (Oq (Vim (a := p)) ?_))
 refine letv (layout_whole_1 (Flo.mk p.im)) fun rv11 hg12 => ?_
 have hc13 := fn27 ((Flo.mk p.im)) rv11 hg12
 refine Ogo (gt rfl rfl rfl rfl) ?_
 refine JO_call [] rfl rfl rfl (OpC.clo (asv := [(flo (Flo.mk p.im) : Value)]) rfl rfl ca27 rfl (by simp)) hc13 rfl ?_
 rintro - -
 refine Oq Vnot (Oq Vpf (Oq Va (KS ?_)))
 have hq := q4 hrr (!rv11) (by simp only [layout_whole_2_whole_1, h4, h9, hg2, hg12, cs4]); subst hq
 exact Kr () rfl (.tmp rfl .nil) [] trivial
theorem fn44m0 (s : List Cpx) (sa0 : Option Addr) (sk0 : Nat) (st0P : Value) (rr : Int) (hrr : sc_IndexFunc_complex128_whole_2 s = rr) : FT Tryd.prog 44 #[vl sa0 sk0 s, .func (.func 30) #[] #[st0P]] [S sa0 sk0 s, pv st0P [.func (.func 27) #[] #[]]] (fun g : Unit => i64ok rr) (fun g => vi rr) (fun g => []) := by
 refine FTi Tryd.func44 fun w0 M0 F0 => Fb 16 0 fun _ => ?_
 refine KS ?_
 refine Oq Va (KS ?_)
 refine Oq Vm (Oq (Vlen sl30) (Oq Vm (KS ?_)))
 refine Kl (γ := Nat × Int) (fun (r2, v8_3) => ⟨[(0, vl sa0 sk0 s), (1, .func (.func 30) #[] #[st0P]), (7, vi (s.length : Int)), (8, vi v8_3)], [S sa0 sk0 s, pv st0P [.func (.func 27) #[] #[]]], sc_IndexFunc_complex128_whole_2_L0 s r2 v8_3 = sc_IndexFunc_complex128_whole_2_L0 s (((s.length : Int) - 0).toNat) 0 ∧ r2 = ((s.length : Int) - v8_3).toNat ∧ (0 : Int) ≤ v8_3 ∧ v8_3 ≤ (s.length : Int) ∧ (-9223372036854775808 ≤ v8_3 ∧ v8_3 ≤ 9223372036854775807), r2⟩) (((s.length : Int) - 0).toNat, 0) [0, 1] ⟨rfl, rfl, aM1, aM1, aM1⟩ ?_
 rintro ⟨r2, v8_3⟩ ⟨hM4, hr5, hi6, hi7, hk8⟩
 refine JJ_nx fun _ _ hL hA => ?_; dsimp only at hL hA; subst hL hA
 refine Fb 16 0 fun _ => KS ?_
 refine Oq Vlss (KS ?_)
 refine Kc ?_ ?_
 ·intro h10
  have g11 := dt h10
  obtain ⟨r12, rfl⟩ := scc (n := r2) aM1
  refine KS ?_
  refine Oq Vm (Oq Va (KS ?_))
  refine Oq Vm (Oq Vm (Oq Vm (Oq (Vi sl30 0) (Oq (VldCx sh37 0) ?_))))
  refine letv (layout_whole_2_whole_1 (s.getD v8_3.toNat default)) fun rv13 hg14 => ?_
  have hc15 := fn30m0 ((s.getD v8_3.toNat default)) st0P rv13 hg14
  refine JO_call [1] rfl rfl rfl (OpC.clo (asv := [(cxv (s.getD v8_3.toNat default) : Value), (st0P : Value)]) rfl rfl ca30 rfl (by simp)) hc15 rfl ?_
  rintro - -
  refine KS ?_
  refine Kc ?_ ?_
  ·intro h16
   refine KS ?_
   refine Oq Vm (Oq Va (KS ?_))
   have hR18 := q2 hM4 (.ret v8_3) (by simp only [sc_IndexFunc_complex128_whole_2_L0, h10, h16, hg14, cs4])
   have hq := q4 hrr v8_3 (by simp only [sc_IndexFunc_complex128_whole_2, h10, h16, hg14, hR18, cs4]); subst hq
   exact Kr () rfl (.tmp rfl .nil) [] en
  intro h16
  refine KS ?_
  refine Oq Vadd (Oq Vm (KS ?_))
  exact Kg (r12, (v8_3 + 1)) [0, 1] ⟨(q3 hM4 (by simp only [sc_IndexFunc_complex128_whole_2_L0, h10, h16, hg14, cs4])), aM1, aM1, aM1, aM1⟩
 intro h10
 have g20 := df h10
 obtain rfl : r2 = 0 := by omega
 refine Ke ?_
 have hR21 := q2 hM4 (.brk ()) (by simp only [sc_IndexFunc_complex128_whole_2_L0, h10, cs4])
 refine KS ?_
 refine Oq Va (KS ?_)
 have hq := q4 hrr (-1) (by simp only [sc_IndexFunc_complex128_whole_2, h10, hR21, cs4]); subst hq
 exact Kr () rfl (.tmp rfl .nil) [] en
theorem fn29m0 (s : List Cpx) (sa0 : Option Addr) (sk0 : Nat) (st0P : Value) (rr : Bool) (hrr : sc_ContainsFunc_complex128_whole_2 s = rr) : FT Tryd.prog 29 #[vl sa0 sk0 s, .func (.func 30) #[] #[st0P]] [S sa0 sk0 s, pv st0P [.func (.func 27) #[] #[]]] (fun g : Unit => True) (fun g => vb rr) (fun g => []) := by
 refine FTi Tryd.func29 fun w0 M0 F0 => Fb 16 0 fun _ => ?_
 refine KS ?_
 refine Oq Va (KS ?_)
 refine Oq Vm (Oq Vm ?_)
 refine letv (sc_IndexFunc_complex128_whole_2 s) fun rv2 hg3 => ?_
 have hc4 := fn44m0 s sa0 sk0 st0P rv2 hg3
 refine Oc [0, 1] ca44 hc4 ?_
 rintro - he5
 unfold i64ok at he5
 refine Oq Vgeq (Oq Va (KS ?_))
 have hq := q4 hrr (decide (0 ≤ rv2)) (by simp only [sc_ContainsFunc_complex128_whole_2, hg3, cs4]); subst hq
 exact Kr () rfl (.tmp rfl .nil) [] trivial
theorem fn18 (at_ : List Cpx) (at_a0 : Option Addr) (at_k0 : Nat) (rr : Bool) (hrr : layout_whole at_ = rr) : FT Tryd.prog 18 #[vl at_a0 at_k0 at_] [S at_a0 at_k0 at_] (fun g : Unit => True) (fun g => vb rr) (fun g => []) := by
 refine FTi Tryd.func18 fun w0 M0 F0 => Fb 16 0 fun _ => ?_
 refine KS ?_
 refine Oq Va (KS ?_)
 refine Oa (Al ze69 [.nilFunc]) fun p2 => Ost (Scl [0] sh69 [.func (.func 27) #[] #[]]) (KS ?_)
 refine Oq Vm (Oq (Vf [p2]) ?_)
 refine Jl [0] (Ent.freezeCl _ _) ?_
 refine letv (sc_ContainsFunc_complex128_whole_2 at_) fun rv3 hg4 => ?_
 have hc5 := fn29m0 at_ at_a0 at_k0 p2 rv3 hg4
 refine Oc [1, 0] ca29 hc5 ?_
 rintro - -
 refine Oq Vnot (Oq Va (KS ?_))
 have hq := q4 hrr (!rv3) (by simp only [layout_whole, hg4, cs4]); subst hq
 exact Kr () rfl (.tmp rfl .nil) [] trivial
theorem fn19 (s : List Cpx) (sa0 : Option Addr) (sk0 : Nat) (rr : List Cpx) (hrr : sc_Clone_complex128 s = rr) : FT Tryd.prog 19 #[vl sa0 sk0 s] [S sa0 sk0 s] (fun g : Value => (rr.length = s.length)) (fun g => g) (fun g => [os g rr]) := by
 have hm : sc_Clone_complex128 s = s := rfl
 rw [hm] at hrr
 subst hrr
 refine FTi Tryd.func19 fun w0 M0 F0 => ?_
 refine KS ?_
 refine Oq Va ?_
 refine KS ?_
 refine Oq Vm ?_
 refine Oq (VeqN un30) ?_
 refine KS ?_
 refine Kc ?_ ?_
 ·intro h
  refine Jnil 0 h ?_
  intro h0
  subst h0
  refine KS ?_
  refine Oq Va ?_
  refine KS ?_
  refine Jl [] (Ent.osNil (α := Cpx)) ?_
  exact Kr (.slice none 0 0) rfl (.tmp rfl .nil) [0] rfl
 ·intro _
  refine KS ?_
  refine Oa (As0 sl30) fun c1 => ?_
  refine Jo 0 ?_; rintro a2 k3 rfl
  refine Oq Vm ?_
  refine Fb 16 1 fun hl => ?_
  refine Jl [0] (Ent.crNil (α := Cpx) _) ?_
  refine Oa (Ap0 [0, 0] sl30 sl30 sz30) fun c4 => ?_
  refine Oq Va ?_
  refine KS ?_
  exact Kr c4 rfl (.tmp rfl .nil) [0] rfl
theorem fn10 (at_ : List Cpx) (at_a0 : Option Addr) (at_k0 : Nat) (quarter : Int) (hquarter_0 : i64ok quarter) (rr : List Cpx) (hrr : layout_Turn at_ quarter = rr) : FT Tryd.prog 10 #[vl at_a0 at_k0 at_, vi quarter] [S at_a0 at_k0 at_] (fun g : Value => True) (fun g => g) (fun g => [os g rr]) := by
 refine FTi Tryd.func10 fun w0 M0 F0 => ?_
 unfold i64ok at hquarter_0
 refine Fb 16 0 fun _ => KS ?_
 refine Oq Va (KS ?_)
 refine Oq Vm ?_
 refine letv (layout_whole at_) fun rv2 hg3 => ?_
 have hc4 := fn18 at_ at_a0 at_k0 rv2 hg3
 refine Oc [0] ca18 hc4 ?_
 rintro - -
 refine Oq Vnot (KS ?_)
 refine Kc ?_ ?_
 ·intro h5
  have h7 := not_true h5
  refine KS ?_
  refine Oq Va (KS ?_)
  refine Jl [] (Ent.osNil (α := Cpx)) ?_
  have hq := q4 hrr ([] : List Cpx) (by simp only [layout_Turn, h5, h7, hg3, cs4]); subst hq
  exact Kr (.slice none 0 0) rfl (.tmp rfl .nil) [0] trivial
 intro h5
 have h10 := not_false h5
 refine KS ?_
 refine Oq Vm ?_
 refine letv (sc_Clone_complex128 at_) fun rv13 hg14 => ?_
 have hWl := Clone_WP (by assumption) (by assumption) hg14
 have hc15 := fn19 at_ at_a0 at_k0 rv13 hg14
 refine Oc [0] ca19 hc15 ?_
 rintro c12 he16
 refine Jo 0 ?_; rintro a17 k18 rfl
 refine Fb 16 0 fun _ => ?_
 refine Oq Va (KS ?_)
 refine Oq Vm (Oq VremT ?_)
 have ht20 := tmod_rng quarter 4 aM1
 refine Oq Vadd (Oq VremT ?_)
 have ht21 := tmod_rng ((Int.tmod quarter 4) + 4) 4 aM1
 refine Oq Vm (KS ?_)
 refine Kl (γ := Nat × List Cpx × Int × Option Addr × Nat) (fun (r22, l_23, v16_24, a25, k26) => ⟨[(5, vl a25 k26 l_23), (15, vi (Int.tmod ((Int.tmod quarter 4) + 4) 4)), (16, vi v16_24)], [O a25 k26 l_23], layout_Turn_L0 r22 l_23 v16_24 = layout_Turn_L0 ((((Int.tmod ((Int.tmod quarter 4) + 4) 4) : Int) - 0).toNat) rv13 0 ∧ r22 = (((Int.tmod ((Int.tmod quarter 4) + 4) 4) : Int) - v16_24).toNat ∧ (0 : Int) ≤ v16_24 ∧ (v16_24 ≤ (Int.tmod ((Int.tmod quarter 4) + 4) 4) ∨ v16_24 = 0) ∧ (-9223372036854775808 ≤ v16_24 ∧ v16_24 ≤ 9223372036854775807) ∧ (WP l_23), r22⟩) ((((Int.tmod ((Int.tmod quarter 4) + 4) 4) : Int) - 0).toNat, rv13, 0, a17, k18) [0] ⟨rfl, rfl, aM1, (.inr rfl), aM1, hWl⟩ ?_
 rintro ⟨r22, l_23, v16_24, a25, k26⟩ ⟨hM27, hr28, hi29, hi30, hk31, hv32⟩
 refine JJ_nx fun _ _ hL hA => ?_; dsimp only at hL hA; subst hL hA
 refine Fb 16 0 fun _ => KS ?_
 refine Oq Vlss (KS ?_)
 refine Kc ?_ ?_
 ·intro h34
  have g35 := dt h34
  obtain ⟨r36, rfl⟩ := scc (n := r22) aM1
  refine KS ?_
  refine Oq Vm (Oq (Vlen sl30) (Oq Vm (KS ?_)))
  refine Kl (γ := Nat × List Cpx × Int) (fun (r37, l_38, v20_39) => ⟨[(5, vl a25 k26 l_23), (15, vi (Int.tmod ((Int.tmod quarter 4) + 4) 4)), (16, vi v16_24), (19, vi (l_23.length : Int)), (20, vi v20_39)], [os (vl a25 k26 l_23) l_38], layout_Turn_L1 r37 l_38 v20_39 = layout_Turn_L1 (((l_23.length : Int) - 0).toNat) l_23 0 ∧ r37 = ((l_23.length : Int) - v20_39).toNat ∧ (0 : Int) ≤ v20_39 ∧ v20_39 ≤ (l_23.length : Int) ∧ (-9223372036854775808 ≤ v20_39 ∧ v20_39 ≤ 9223372036854775807) ∧ (WP l_38), r37⟩) (((l_23.length : Int) - 0).toNat, l_23, 0) [0] ⟨rfl, rfl, aM1, aM1, aM1, (by assumption)⟩ ?_
  rintro ⟨r37, l_38, v20_39⟩ ⟨hM40, hr41, hi42, hi43, hk44, hv45⟩
  refine JJ_nx fun _ _ hL hA => ?_; dsimp only at hL hA; subst hL hA
  refine Fb 16 0 fun _ => Fl 0 fun hn47 => ?_
  refine KS ?_
  refine Oq Vlss (KS ?_)
  refine Kc ?_ ?_
  ·intro h48
   have g49 := dt h48
   obtain ⟨r50, rfl⟩ := scc (n := r37) aM1
   refine KS ?_
   refine Oq Vm (Oq Va (KS ?_))
   refine Oq Vm (Oq Vm (Oq (Vi sl30 0) (Oq (VldCx sh37 0) (Oq (VmulC (a := (l_38.getD v20_39.toNat default)) (b := (Cpx.mk 0#64 4607182418800017408#64)) (h := (rot_okP (by assumption) rng))) (Oq (Vi sl30 0) (Ost (SoCx [0] sh37) (KS ?_)))))))
   refine Oq Vadd (Oq Vm (KS ?_))
   exact Kg (r50, (l_38.set v20_39.toNat (cmul (l_38.getD v20_39.toNat default) (Cpx.mk 0#64 4607182418800017408#64))), (v20_39 + 1)) [0] ⟨(q3 hM40 (by simp only [layout_Turn_L1, h48, cs4])), aM1, aM1, aM1, aM1, (WP_set (by assumption) rng)⟩
  intro h48
  have g51 := df h48
  obtain rfl : r37 = 0 := by omega
  refine Ke ?_
  have hR52 := q2 hM40 l_38 (by simp only [layout_Turn_L1, h48, cs4])
  refine KS ?_
  refine Oq Vadd (Oq Vm (KS ?_))
  refine Fl 0 fun hn53 => ?_; (try unfold vl); rw [← hn53]
  exact Kg (r36, l_38, (v16_24 + 1), a25, k26) [0] ⟨(q3 hM27 (by simp only [layout_Turn_L0, h34, h48, hR52, cs4])), aM1, aM1, aM1, aM1, (by assumption)⟩
 intro h34
 have g54 := df h34
 obtain rfl : r22 = 0 := by omega
 refine Ke ?_
 have hR55 := q2 hM27 l_23 (by simp only [layout_Turn_L0, h34, cs4])
 refine KS ?_
 refine Oq Vm (Oq Va (KS ?_))
 have hq := q4 hrr l_23 (by simp only [layout_Turn, h5, h10, h34, hg3, hg14, hR55, cs4]); subst hq
 exact Kr (vl a25 k26 l_23) rfl (.tmp rfl .nil) [0] trivial
theorem fn13  (rr : GGraph) (hrr : w33_diamond = rr) : FT Tryd.prog 13 #[] [] (fun g : Value × Value × Value => True) (fun g => .agg #[g.1, g.2.1, g.2.2]) (fun g => [sl g.1 rr.Nodes, sl g.2.1 rr.Succ, sl g.2.2 rr.Pred]) := by
 refine FTi Tryd.func13 fun w0 M0 F0 => ?_
 refine KS ?_
 refine Oa (Al ze42 [.slice none 0 0, .slice none 0 0, .slice none 0 0]) fun p1 => KS ?_
 refine Oa (Amk (α := GNode) sl39 sz39 (default : GNode) zrd_GNode) fun c2 => ?_
 refine Jo 0 ?_; rintro a3 k4 rfl
 refine Fb 32 0 fun _ => ?_
 have hn6 := List.length_replicate (n := (4 : Int).toNat) (a := ((default : GNode) : GNode))
 refine Oa (AsV sl22 sz22 [vi 1, vi 2] [vi 1, vi 2]) fun c7 => ?_
 refine Jo 0 ?_; rintro a8 k9 rfl
 refine Oa (AsV sl22 sz22 [vi 3] [vi 3]) fun c10 => ?_
 refine Jo 0 ?_; rintro a11 k12 rfl
 refine Oa (AsV sl22 sz22 [vi 3] [vi 3]) fun c13 => ?_
 refine Jo 0 ?_; rintro a14 k15 rfl
 refine Oa (AsV sl40 sz40 [.slice a8 2 k9, .slice a11 1 k12, .slice a14 1 k15, .slice none 0 0] [.slice a8 2 k9, .slice a11 1 k12, .slice a14 1 k15, .slice none 0 0]) fun c16 => ?_
 refine Jo 0 ?_; rintro a17 k18 rfl
 refine Oa (AsV sl22 sz22 [vi 0] [vi 0]) fun c19 => ?_
 refine Jo 0 ?_; rintro a20 k21 rfl
 refine Oa (AsV sl22 sz22 [vi 0] [vi 0]) fun c22 => ?_
 refine Jo 0 ?_; rintro a23 k24 rfl
 refine Oa (AsV sl22 sz22 [vi 1, vi 2] [vi 1, vi 2]) fun c25 => ?_
 refine Jo 0 ?_; rintro a26 k27 rfl
 refine Oa (AsV sl40 sz40 [.slice none 0 0, .slice a20 1 k21, .slice a23 1 k24, .slice a26 2 k27] [.slice none 0 0, .slice a20 1 k21, .slice a23 1 k24, .slice a26 2 k27]) fun c28 => ?_
 refine Jo 0 ?_; rintro a29 k30 rfl
 refine Oq (Vbd st42 [vl a3 k4 (List.replicate (4 : Int).toNat (default : GNode)), .slice a17 4 k18, .slice a29 4 k30]) (Ost (Scl [9] sh42 [vl a3 k4 (List.replicate (4 : Int).toNat (default : GNode)), .slice a17 4 k18, .slice a29 4 k30]) (KS ?_))
 refine Jl [9] (Ent.freeze _ _) ?_
 refine Jl [9] (Ent.crInt _ [1, 2] _ _ rfl rfl (by intro x hx; simp only [List.mem_cons, List.not_mem_nil, or_false] at hx; rcases hx with rfl | rfl <;> (unfold i64ok; omega)) aB1) ?_
 refine Jl [0] (Ent.freeze _ _) ?_
 refine Jl [9] (Ent.crInt _ [3] _ _ rfl rfl (by intro x hx; rw [List.mem_singleton] at hx; subst hx; unfold i64ok; omega) aB1) ?_
 refine Jl [0] (Ent.freeze _ _) ?_
 refine Jl [9] (Ent.crInt _ [3] _ _ rfl rfl (by intro x hx; rw [List.mem_singleton] at hx; subst hx; unfold i64ok; omega) aB1) ?_
 refine Jl [0] (Ent.freeze _ _) ?_
 refine Jl [9, 2, 1, 0] (Ent.crOs (α := List Int) (A := [sl (.slice a8 2 k9) ([1, 2] : List Int), sl (.slice a11 1 k12) ([3] : List Int), sl (.slice a14 1 k15) ([3] : List Int)]) _ ([[1, 2], [3], [3], ([] : List Int)] : List (List Int)) _ aB1 (fun h => ⟨[.slice a8 2 k9], [.slice a11 1 k12, .slice a14 1 k15, .slice none 0 0], rfl, (fun h => ⟨_, rfl, sepAll_get (i := 0) rfl h⟩) h, ⟨[.slice a11 1 k12], [.slice a14 1 k15, .slice none 0 0], rfl, (fun h => ⟨_, rfl, sepAll_get (i := 1) rfl h⟩) h, ⟨[.slice a14 1 k15], [.slice none 0 0], rfl, (fun h => ⟨_, rfl, sepAll_get (i := 2) rfl h⟩) h, ⟨[.slice none 0 0], [], rfl, (fun _ => ⟨_, rfl, slrd_nil⟩) h, rfl⟩⟩⟩⟩)) ?_
 refine Jl [0] (Ent.freeze _ _) ?_
 refine Jl [12] (Ent.crInt _ [0] _ _ rfl rfl (by intro x hx; rw [List.mem_singleton] at hx; subst hx; unfold i64ok; omega) aB1) ?_
 refine Jl [0] (Ent.freeze _ _) ?_
 refine Jl [12] (Ent.crInt _ [0] _ _ rfl rfl (by intro x hx; rw [List.mem_singleton] at hx; subst hx; unfold i64ok; omega) aB1) ?_
 refine Jl [0] (Ent.freeze _ _) ?_
 refine Jl [12] (Ent.crInt _ [1, 2] _ _ rfl rfl (by intro x hx; simp only [List.mem_cons, List.not_mem_nil, or_false] at hx; rcases hx with rfl | rfl <;> (unfold i64ok; omega)) aB1) ?_
 refine Jl [0] (Ent.freeze _ _) ?_
 refine Jl [12, 2, 1, 0] (Ent.crOs (α := List Int) (A := [sl (.slice a20 1 k21) ([0] : List Int), sl (.slice a23 1 k24) ([0] : List Int), sl (.slice a26 2 k27) ([1, 2] : List Int)]) _ ([([] : List Int), [0], [0], [1, 2]] : List (List Int)) _ aB1 (fun h => ⟨[.slice none 0 0], [.slice a20 1 k21, .slice a23 1 k24, .slice a26 2 k27], rfl, (fun _ => ⟨_, rfl, slrd_nil⟩) h, ⟨[.slice a20 1 k21], [.slice a23 1 k24, .slice a26 2 k27], rfl, (fun h => ⟨_, rfl, sepAll_get (i := 0) rfl h⟩) h, ⟨[.slice a23 1 k24], [.slice a26 2 k27], rfl, (fun h => ⟨_, rfl, sepAll_get (i := 1) rfl h⟩) h, ⟨[.slice a26 2 k27], [], rfl, (fun h => ⟨_, rfl, sepAll_get (i := 2) rfl h⟩) h, rfl⟩⟩⟩⟩)) ?_
 refine Jl [0] (Ent.freeze _ _) ?_
 have hq := q4 hrr (GGraph.mk (List.replicate (4 : Int).toNat (default : GNode)) [[1, 2], [3], [3], ([] : List Int)] [([] : List Int), [0], [0], [1, 2]]) (by simp only [w33_diamond, cs4]); subst hq
 exact Kr (vl a3 k4 (List.replicate (4 : Int).toNat (default : GNode)), .slice a17 4 k18, .slice a29 4 k30) rfl (.cellN 15 rfl sh42 rfl (reads_Cl _ _) rfl .nil) [14, 7, 0] trivial
theorem fn64 (l : List Int) (la0 : Option Addr) (lk0 : Nat) (n : Int) (hn_0 : i64ok n) (rr : Bool) (hrr : gh_ascending l n = rr) : FT Tryd.prog 64 #[vl la0 lk0 l, vi n] [S la0 lk0 l] (fun g : Unit => True) (fun g => vb rr) (fun g => []) := by
 refine FTi Tryd.func64 fun w0 M0 F0 => ?_
 unfold i64ok at hn_0
 refine Fb 8 0 fun _ => Fo 0 fun ho2 => KS ?_
 refine Oq Va (KS ?_)
 refine Oq Vm (Oq (Vlen sl22) (Oq Vm (KS ?_)))
 refine Kl (γ := Nat × Int) (fun (r3, v9_4) => ⟨[(0, vl la0 lk0 l), (1, vi n), (7, vl la0 lk0 l), (8, vi (l.length : Int)), (9, vi v9_4)], [S la0 lk0 l], gh_ascending_L0 l n r3 v9_4 = gh_ascending_L0 l n (((l.length : Int) - 0).toNat) 0 ∧ r3 = ((l.length : Int) - v9_4).toNat ∧ (0 : Int) ≤ v9_4 ∧ v9_4 ≤ (l.length : Int) ∧ (-9223372036854775808 ≤ v9_4 ∧ v9_4 ≤ 9223372036854775807), r3⟩) (((l.length : Int) - 0).toNat, 0) [0] ⟨rfl, rfl, aM1, aM1, aM1⟩ ?_
 rintro ⟨r3, v9_4⟩ ⟨hM5, hr6, hi7, hi8, hk9⟩
 refine JJ_nx fun _ _ hL hA => ?_; dsimp only at hL hA; subst hL hA
 refine Fb 8 0 fun _ => Fo 0 fun ho11 => KS ?_
 refine Oq Vlss (KS ?_)
 refine Kc ?_ ?_
 ·intro h12
  have g13 := dt h12
  obtain ⟨r14, rfl⟩ := scc (n := r3) aM1
  refine KS ?_
  refine Oq Vm (Oq (Vi sl22 0) ?_)
  have hb15 := ok1 (i := v9_4.toNat) ho11 rng
  refine Oq (VldI sh3 0) (Oq Va (Oq Va (KS ?_)))
  refine Oq Vm (Oq Vlss (Oq Vm ?_))
  refine Js 16 ?_ ?_
  ·intro h16
   have g17 := dt h16
   refine Osk (Osk (Osk (Oq Vpt (Oq Vm (Osk (Osk (Osk (Osk (Osk ?_)))))))))
   refine Osk (Osk (Osk (Osk (Osk (Osk (Oq Vpt (KS ?_)))))))
   refine Kt (KS ?_)
   refine Oq Va (KS ?_)
   have hR18 := q2 hM5 (.ret false) (by simp only [gh_ascending_L0, h12, h16, cs4])
   have hq := q4 hrr false (by simp only [gh_ascending, h12, h16, hR18, cs4]); subst hq
   exact Kr () rfl (.tmp rfl .nil) [] trivial
  intro h16
  have g19 := df h16
  refine Oq Vm (Oq Vm (Oq Vgeq (Oq Vpf (Oq Vm ?_))))
  refine Js 21 ?_ ?_
  ·intro h20
   have g21 := dt h20
   refine Osk (Osk (Osk (Osk (Osk (Osk (Osk (Osk (Osk (Osk ?_)))))))))
   refine Osk (Oq Vpt (KS ?_))
   refine Kt (KS ?_)
   refine Oq Va (KS ?_)
   have hR22 := q2 hM5 (.ret false) (by simp only [gh_ascending_L0, h12, h16, h20, cs4])
   have hq := q4 hrr false (by simp only [gh_ascending, h12, h16, h20, hR22, cs4]); subst hq
   exact Kr () rfl (.tmp rfl .nil) [] trivial
  intro h20
  have g23 := df h20
  refine Oq Vm (Oq Vgtr (Oq Vm ?_))
  refine Js 24 ?_ ?_
  ·intro h24
   have g25 := dt h24
   refine Oq Vm (Oq Vm (Oq Vm (Oq Vsub (Oq (Vi sl22 0) ?_))))
   have hb26 := ok1 (i := ((v9_4 - 1) : Int).toNat) ho11 rng
   refine Oq (VldI sh3 0) (Oq Vleq (Oq Vpt (Oq Vpf (KS ?_))))
   refine Kc ?_ ?_
   ·intro h27
    have g28 := dt h27
    refine KS ?_
    refine Oq Va (KS ?_)
    have hR29 := q2 hM5 (.ret false) (by simp only [gh_ascending_L0, h12, h16, h20, h24, h27, cs4])
    have hq := q4 hrr false (by simp only [gh_ascending, h12, h16, h20, h24, h27, hR29, cs4]); subst hq
    exact Kr () rfl (.tmp rfl .nil) [] trivial
   intro h27
   have g30 := df h27
   refine KS ?_
   refine Oq Vadd (Oq Vm (KS ?_))
   exact Kg (r14, (v9_4 + 1)) [0] ⟨(q3 hM5 (by simp only [gh_ascending_L0, h12, h16, h20, h24, h27, cs4])), aM1, aM1, aM1, aM1⟩
  intro h24
  have g31 := df h24
  refine Osk (Osk (Osk (Osk (Osk (Osk (Osk (Oq Vpf (Oq Vpf (KS ?_)))))))))
  refine Kf (KS ?_)
  refine Oq Vadd (Oq Vm (KS ?_))
  exact Kg (r14, (v9_4 + 1)) [0] ⟨(q3 hM5 (by simp only [gh_ascending_L0, h12, h16, h20, h24, cs4])), aM1, aM1, aM1, aM1⟩
 intro h12
 have g32 := df h12
 obtain rfl : r3 = 0 := by omega
 refine Ke ?_
 have hR33 := q2 hM5 (.brk ()) (by simp only [gh_ascending_L0, h12, cs4])
 refine KS ?_
 refine Oq Va (KS ?_)
 have hq := q4 hrr true (by simp only [gh_ascending, h12, hR33, cs4]); subst hq
 exact Kr () rfl (.tmp rfl .nil) [] trivial
theorem fn53 (l : List (List Int)) (la0 : Option Addr) (lk0 : Nat) (rr : Int) (hrr : gh_count l = rr) : FT Tryd.prog 53 #[vl la0 lk0 l] [S la0 lk0 l] (fun g : Unit => i64ok rr ∧ (-1 ≤ rr ∧ rr ≤ 1024)) (fun g => vi rr) (fun g => []) := by
 refine FTi Tryd.func53 fun w0 M0 F0 => Fb 24 0 fun _ => ?_
 refine KS ?_
 refine Oq Va (KS ?_)
 refine Oq Va (KS ?_)
 refine Oq Vm (Oq (Vlen sl40) (Oq Vm (KS ?_)))
 refine Kl (γ := Nat × Int × Int) (fun (r2, edges_3, v8_4) => ⟨[(0, vl la0 lk0 l), (3, vi edges_3), (6, vl la0 lk0 l), (7, vi (l.length : Int)), (8, vi v8_4)], [S la0 lk0 l], gh_count_L0 l r2 edges_3 v8_4 = gh_count_L0 l (((l.length : Int) - 0).toNat) 0 0 ∧ r2 = ((l.length : Int) - v8_4).toNat ∧ (0 : Int) ≤ v8_4 ∧ v8_4 ≤ (l.length : Int) ∧ (-9223372036854775808 ≤ edges_3 ∧ edges_3 ≤ 9223372036854775807) ∧ (-9223372036854775808 ≤ v8_4 ∧ v8_4 ≤ 9223372036854775807) ∧ (0 ≤ edges_3 ∧ edges_3 ≤ 1024), r2⟩) (((l.length : Int) - 0).toNat, 0, 0) [0] ⟨rfl, rfl, aM1, aM1, aM1, aM1, iv0⟩ ?_
 rintro ⟨r2, edges_3, v8_4⟩ ⟨hM5, hr6, hi7, hi8, hk9, hk10, hv11⟩
 refine JJ_nx fun _ _ hL hA => ?_; dsimp only at hL hA; subst hL hA
 refine Fb 24 0 fun _ => KS ?_
 refine Oq Vlss (KS ?_)
 refine Kc ?_ ?_
 ·intro h13
  have g14 := dt h13
  obtain ⟨r15, rfl⟩ := scc (n := r2) aM1
  refine KS ?_
  refine Oq (Vi sl40 0) ?_
  refine JJ_peekL v8_4.toNat 0 rfl rng fun a16 k17 => ?_
  refine Fb 8 1 fun _ => Fo 1 fun ho19 => ?_
  refine Oq (Vld sh22 0) (Oq Va (KS ?_))
  refine Oq Vm (Oq Vm (Oq (Vlen sl22) (Oq Vadd (Oq Va (KS ?_)))))
  refine Oq Vm (Oq Vgtr (Oq Vm ?_))
  refine Js 18 ?_ ?_
  ·intro h20
   have g21 := dt h20
   refine Osk (Osk (Osk (Osk (Osk (Oq Vpt (KS ?_))))))
   refine Kt (KS ?_)
   refine Oq Va (KS ?_)
   have hR22 := q2 hM5 (.ret (-1)) (by simp only [gh_count_L0, h13, h20, cs4])
   have hq := q4 hrr (-1) (by simp only [gh_count, h13, h20, hR22, cs4]); subst hq
   exact Kr () rfl (.tmp rfl .nil) [] en
  intro h20
  have g23 := df h20
  refine Oq Vm (Oq Vm (Oq (Vlen sl40) ?_))
  refine letv (gh_ascending (l.getD v8_4.toNat []) (l.length : Int)) fun rv24 hg25 => ?_
  have hc26 := fn64 ((l.getD v8_4.toNat [])) a16 k17 ((l.length : Int)) pre rv24 hg25
  refine Oc [1] ca64 hc26 ?_
  rintro - -
  refine Oq Vnot (Oq Vpf (KS ?_))
  refine Kc ?_ ?_
  ·intro h27
   have h29 := not_true h27
   refine KS ?_
   refine Oq Va (KS ?_)
   have hR31 := q2 hM5 (.ret (-1)) (by simp only [gh_count_L0, h13, h20, h27, h29, hg25, cs4])
   have hq := q4 hrr (-1) (by simp only [gh_count, h13, h20, h27, h29, hg25, hR31, cs4]); subst hq
   exact Kr () rfl (.tmp rfl .nil) [] en
  intro h27
  have h33 := not_false h27
  refine KS ?_
  refine Oq Vadd (Oq Vm (KS ?_))
  exact Kg (r15, (edges_3 + ((l.getD v8_4.toNat []).length : Int)), (v8_4 + 1)) [2] ⟨(q3 hM5 (by simp only [gh_count_L0, h13, h20, h27, h33, hg25, cs4])), aM1, aM1, aM1, aM1, aM1, iv1⟩
 intro h13
 have g35 := df h13
 obtain rfl : r2 = 0 := by omega
 refine Ke ?_
 have hR36 := q2 hM5 (.brk edges_3) (by simp only [gh_count_L0, h13, cs4])
 refine KS ?_
 refine Oq Vm (Oq Va (KS ?_))
 have hq := q4 hrr edges_3 (by simp only [gh_count, h13, hR36, cs4]); subst hq
 exact Kr () rfl (.tmp rfl .nil) [] en
theorem fn65 (s : List Int) (sa0 : Option Addr) (sk0 : Nat) (v : Int) (hv_0 : i64ok v) (rr : Int) (hrr : sc_Index_int s v = rr) : FT Tryd.prog 65 #[vl sa0 sk0 s, vi v] [S sa0 sk0 s] (fun g : Unit => i64ok rr) (fun g => vi rr) (fun g => []) := by
 refine FTi Tryd.func65 fun w0 M0 F0 => ?_
 unfold i64ok at hv_0
 refine Fb 8 0 fun _ => Fo 0 fun ho2 => KS ?_
 refine Oq Va (KS ?_)
 refine Oq Vm (Oq (Vlen sl22) (Oq Vm (KS ?_)))
 refine Kl (γ := Nat × Int) (fun (r3, v8_4) => ⟨[(0, vl sa0 sk0 s), (1, vi v), (7, vi (s.length : Int)), (8, vi v8_4)], [S sa0 sk0 s], sc_Index_int_L0 s v r3 v8_4 = sc_Index_int_L0 s v (((s.length : Int) - 0).toNat) 0 ∧ r3 = ((s.length : Int) - v8_4).toNat ∧ (0 : Int) ≤ v8_4 ∧ v8_4 ≤ (s.length : Int) ∧ (-9223372036854775808 ≤ v8_4 ∧ v8_4 ≤ 9223372036854775807), r3⟩) (((s.length : Int) - 0).toNat, 0) [0] ⟨rfl, rfl, aM1, aM1, aM1⟩ ?_
 rintro ⟨r3, v8_4⟩ ⟨hM5, hr6, hi7, hi8, hk9⟩
 refine JJ_nx fun _ _ hL hA => ?_; dsimp only at hL hA; subst hL hA
 refine Fb 8 0 fun _ => Fo 0 fun ho11 => KS ?_
 refine Oq Vlss (KS ?_)
 refine Kc ?_ ?_
 ·intro h12
  have g13 := dt h12
  obtain ⟨r14, rfl⟩ := scc (n := r3) aM1
  refine KS ?_
  refine Oq Vm (Oq Va (KS ?_))
  refine Oq Vm (Oq Vm (Oq Vm (Oq (Vi sl22 0) ?_)))
  have hb15 := ok1 (i := v8_4.toNat) ho11 rng
  refine Oq (VldI sh3 0) (Oq Veql (KS ?_))
  refine Kc ?_ ?_
  ·intro h16
   have g17 := eq_of_beq h16
   refine KS ?_
   refine Oq Vm (Oq Va (KS ?_))
   have hR18 := q2 hM5 (.ret v8_4) (by simp only [sc_Index_int_L0, h12, h16, cs4])
   have hq := q4 hrr v8_4 (by simp only [sc_Index_int, h12, h16, hR18, cs4]); subst hq
   exact Kr () rfl (.tmp rfl .nil) [] en
  intro h16
  have g19 := ne_of_beq_false h16
  refine KS ?_
  refine Oq Vadd (Oq Vm (KS ?_))
  exact Kg (r14, (v8_4 + 1)) [0] ⟨(q3 hM5 (by simp only [sc_Index_int_L0, h12, h16, cs4])), aM1, aM1, aM1, aM1⟩
 intro h12
 have g20 := df h12
 obtain rfl : r3 = 0 := by omega
 refine Ke ?_
 have hR21 := q2 hM5 (.brk ()) (by simp only [sc_Index_int_L0, h12, cs4])
 refine KS ?_
 refine Oq Va (KS ?_)
 have hq := q4 hrr (-1) (by simp only [sc_Index_int, h12, hR21, cs4]); subst hq
 exact Kr () rfl (.tmp rfl .nil) [] en
theorem fn54 (s : List Int) (sa0 : Option Addr) (sk0 : Nat) (v : Int) (hv_0 : i64ok v) (rr : Bool) (hrr : sc_Contains_int s v = rr) : FT Tryd.prog 54 #[vl sa0 sk0 s, vi v] [S sa0 sk0 s] (fun g : Unit => True) (fun g => vb rr) (fun g => []) := by
 refine FTi Tryd.func54 fun w0 M0 F0 => ?_
 unfold i64ok at hv_0
 refine Fb 8 0 fun _ => Fo 0 fun ho2 => KS ?_
 refine Oq Va (KS ?_)
 refine Oq Vm (Oq Vm ?_)
 refine letv (sc_Index_int s v) fun rv3 hg4 => ?_
 have hc5 := fn65 s sa0 sk0 v pre rv3 hg4
 refine Oc [0] ca65 hc5 ?_
 rintro - he6
 unfold i64ok at he6
 refine Oq Vgeq (Oq Va (KS ?_))
 have hq := q4 hrr (decide (0 ≤ rv3)) (by simp only [sc_Contains_int, hg4, cs4]); subst hq
 exact Kr () rfl (.tmp rfl .nil) [] trivial
theorem fn38 (g : GGraph) (ga0 : Option Addr) (gk0 : Nat) (ga1 : Option Addr) (gk1 : Nat) (ga2 : Option Addr) (gk2 : Nat) (rr : Bool) (hrr : gh_Valid g = rr) : FT Tryd.prog 38 #[.agg #[vl ga0 gk0 g.Nodes, vl ga1 gk1 g.Succ, vl ga2 gk2 g.Pred]] [S ga0 gk0 g.Nodes, S ga1 gk1 g.Succ, S ga2 gk2 g.Pred] (fun g : Unit => True) (fun g => vb rr) (fun g => []) := by
 refine FTi Tryd.func38 fun w0 M0 F0 => Fb 32 0 fun _ => Fb 24 1 fun _ => Fb 24 2 fun _ => ?_
 refine KS ?_
 refine Oa (Ab [vl ga0 gk0 g.Nodes, vl ga1 gk1 g.Succ, vl ga2 gk2 g.Pred]) fun p4 => Oq Va (KS ?_)
 refine Oq (Vfa fo42_0 0) (Oq (VldF sh39 0) (Oq (Vlen sl39) (Oq Va (KS ?_))))
 refine Oq Vm (Oq Vlss (Oq Vm ?_))
 refine Js 14 ?_ ?_
 ·intro h5
  have g6 := dt h5
  refine Osk (Osk (Oq Vpt (Oq Vm (Osk (Osk (Osk (Osk (Osk (Oq Vpt ?_)))))))))
  refine Oq Vm (Osk (Osk (Osk (Osk (Osk (Oq Vpt (KS ?_)))))))
  refine Kt (KS ?_)
  refine Oq Va (KS ?_)
  have hq := q4 hrr false (by simp only [gh_Valid, h5, cs4]); subst hq
  exact Kr () rfl (.tmp rfl .nil) [] trivial
 intro h5
 have g7 := df h5
 refine Oq Vm (Oq Vgtr (Oq Vpf (Oq Vm ?_)))
 refine Js 18 ?_ ?_
 ·intro h8
  have g9 := dt h8
  refine Osk (Osk (Osk (Osk (Osk (Oq Vpt (Oq Vm (Osk (Osk (Osk ?_)))))))))
  refine Osk (Osk (Oq Vpt (KS ?_)))
  refine Kt (KS ?_)
  refine Oq Va (KS ?_)
  have hq := q4 hrr false (by simp only [gh_Valid, h5, h8, cs4]); subst hq
  exact Kr () rfl (.tmp rfl .nil) [] trivial
 intro h8
 have g10 := df h8
 refine Oq (Vfa fo42_1 0) (Oq (VldF sh40 0) (Oq (Vlen sl40) (Oq Vm (Oq Vneq (Oq Vpf (Oq Vm ?_))))))
 refine Js 25 ?_ ?_
 ·intro h11
  have g12 := ne_of_bne h11
  refine Osk (Osk (Osk (Osk (Osk (Oq Vpt (KS ?_))))))
  refine Kt (KS ?_)
  refine Oq Va (KS ?_)
  have hq := q4 hrr false (by simp only [gh_Valid, h5, h8, h11, cs4]); subst hq
  exact Kr () rfl (.tmp rfl .nil) [] trivial
 intro h11
 have g13 := eq_of_bne_false h11
 refine Oq (Vfa fo42_2 0) (Oq (VldF sh40 0) (Oq (Vlen sl40) (Oq Vm (Oq Vneq (Oq Vpf (KS ?_))))))
 refine Kc ?_ ?_
 ·intro h14
  have g15 := ne_of_bne h14
  refine KS ?_
  refine Oq Va (KS ?_)
  have hq := q4 hrr false (by simp only [gh_Valid, h5, h8, h11, h14, cs4]); subst hq
  exact Kr () rfl (.tmp rfl .nil) [] trivial
 intro h14
 have g16 := eq_of_bne_false h14
 refine KS ?_
 refine Oq (Vfa fo42_1 0) (Oq (VldF sh40 0) ?_)
 refine letv (gh_count g.Succ) fun rv17 hg18 => ?_
 have hc19 := fn53 g.Succ ga1 gk1 rv17 hg18
 refine Oc [2] ca53 hc19 ?_
 rintro - ⟨he20, he21⟩
 unfold i64ok at he20
 refine Oq Va (KS ?_)
 refine Oq Vm (Oq Vlss (Oq Vm ?_))
 refine Js 37 ?_ ?_
 ·intro h22
  have g23 := dt h22
  refine Osk (Osk (Osk (Osk (Osk (Oq Vpt (KS ?_))))))
  refine Kt (KS ?_)
  refine Oq Va (KS ?_)
  have hq := q4 hrr false (by simp only [gh_Valid, h5, h8, h11, h14, h22, hg18, cs4]); subst hq
  exact Kr () rfl (.tmp rfl .nil) [] trivial
 intro h22
 have g24 := df h22
 try have hct := count_rg (by assumption : gh_count g.Succ = _) h22
 refine Oq (Vfa fo42_2 0) (Oq (VldF sh40 0) ?_)
 refine letv (gh_count g.Pred) fun rv25 hg26 => ?_
 have hc27 := fn53 g.Pred ga2 gk2 rv25 hg26
 refine Oc [3] ca53 hc27 ?_
 rintro - ⟨he28, he29⟩
 unfold i64ok at he28
 refine Oq Vm (Oq Vneq (Oq Vpf (KS ?_)))
 refine Kc ?_ ?_
 ·intro h30
  have g31 := ne_of_bne h30
  refine KS ?_
  refine Oq Va (KS ?_)
  have hq := q4 hrr false (by simp only [gh_Valid, h5, h8, h11, h14, h22, h30, hg18, hg26, cs4]); subst hq
  exact Kr () rfl (.tmp rfl .nil) [] trivial
 intro h30
 have g32 := eq_of_bne_false h30
 refine KS ?_
 refine Oq (Vfa fo42_1 0) (Oq (VldF sh40 0) (Oq (Vlen sl40) (Oq Vm (KS ?_))))
 refine Kl (γ := Nat × Int) (fun (r33, v47_34) => ⟨[(1, p4), (45, vl ga1 gk1 g.Succ), (46, vi (g.Succ.length : Int)), (47, vi v47_34)], [pv p4 [vl ga0 gk0 g.Nodes, vl ga1 gk1 g.Succ, vl ga2 gk2 g.Pred], S ga0 gk0 g.Nodes, S ga1 gk1 g.Succ, S ga2 gk2 g.Pred], gh_Valid_L0 g r33 v47_34 = gh_Valid_L0 g (((g.Succ.length : Int) - 0).toNat) 0 ∧ r33 = ((g.Succ.length : Int) - v47_34).toNat ∧ (0 : Int) ≤ v47_34 ∧ v47_34 ≤ (g.Succ.length : Int) ∧ (-9223372036854775808 ≤ v47_34 ∧ v47_34 ≤ 9223372036854775807), r33⟩) (((g.Succ.length : Int) - 0).toNat, 0) [0, 1, 2, 3] ⟨rfl, rfl, aM1, aM1, aM1⟩ ?_
 rintro ⟨r33, v47_34⟩ ⟨hM35, hr36, hi37, hi38, hk39⟩
 refine JJ_nx fun _ _ hL hA => ?_; dsimp only at hL hA; subst hL hA
 refine Fb 32 1 fun _ => Fb 24 2 fun _ => Fb 24 3 fun _ => KS ?_
 refine Oq Vlss (KS ?_)
 refine Kc ?_ ?_
 ·intro h43
  have g44 := dt h43
  obtain ⟨r45, rfl⟩ := scc (n := r33) aM1
  refine KS ?_
  refine Oq Vm (Oq (Vi sl40 2) ?_)
  refine JJ_peekL v47_34.toNat 2 rfl rng fun a46 k47 => ?_
  refine Fb 8 1 fun _ => Fo 1 fun ho49 => ?_
  refine Oq (Vld sh22 0) (Oq Va (Oq Va (KS ?_)))
  refine Oq Vm (Oq (Vlen sl22) (Oq Vm (KS ?_)))
  refine Kl (γ := Nat × Int) (fun (r50, v54_51) => ⟨[(1, p4), (45, vl ga1 gk1 g.Succ), (46, vi (g.Succ.length : Int)), (47, vi v47_34), (5, vi v47_34), (52, vl a46 k47 (g.Succ.getD v47_34.toNat [])), (53, vi ((g.Succ.getD v47_34.toNat []).length : Int)), (54, vi v54_51)], [S a46 k47 ((g.Succ.getD v47_34.toNat []) : List Int), pv p4 [vl ga0 gk0 g.Nodes, vl ga1 gk1 g.Succ, vl ga2 gk2 g.Pred], S ga0 gk0 g.Nodes, S ga1 gk1 g.Succ, S ga2 gk2 g.Pred], gh_Valid_L1 g v47_34 (g.Succ.getD v47_34.toNat []) r50 v54_51 = gh_Valid_L1 g v47_34 (g.Succ.getD v47_34.toNat []) (((((g.Succ.getD v47_34.toNat []).length : Int) : Int) - 0).toNat) 0 ∧ r50 = ((((g.Succ.getD v47_34.toNat []).length : Int) : Int) - v54_51).toNat ∧ (0 : Int) ≤ v54_51 ∧ (v54_51 ≤ ((g.Succ.getD v47_34.toNat []).length : Int) ∨ v54_51 = 0) ∧ (-9223372036854775808 ≤ v54_51 ∧ v54_51 ≤ 9223372036854775807), r50⟩) (((((g.Succ.getD v47_34.toNat []).length : Int) : Int) - 0).toNat, 0) [1, 2, 3, 4, 5] ⟨rfl, rfl, aM1, (.inr rfl), aM1⟩ ?_
  rintro ⟨r50, v54_51⟩ ⟨hM52, hr53, hi54, hi55, hk56⟩
  refine JJ_nx fun _ _ hL hA => ?_; dsimp only at hL hA; subst hL hA
  refine Fb 8 0 fun _ => Fo 0 fun ho58 => Fb 32 2 fun _ => Fb 24 3 fun _ => Fb 24 4 fun _ => KS ?_
  refine Oq Vlss (KS ?_)
  refine Kc ?_ ?_
  ·intro h62
   have g63 := dt h62
   have hbr := hct v47_34.toNat v54_51.toNat aM1
   obtain ⟨r64, rfl⟩ := scc (n := r50) aM1
   refine KS ?_
   refine Oq (Vi sl22 0) ?_
   have hb65 := ok1 (i := v54_51.toNat) ho58 rng
   refine Oq (VldI sh3 0) (Oq Va (KS ?_))
   refine Oq (Vfa fo42_2 1) (Oq (VldF sh40 1) (Oq Vm (Oq (Vi sl40 4) ?_)))
   refine JJ_peekL (((g.Succ.getD v47_34.toNat []).getD v54_51.toNat 0) : Int).toNat 4 rfl rng fun a66 k67 => ?_
   refine Fb 8 1 fun _ => Fo 1 fun ho69 => ?_
   refine Oq (Vld sh22 0) (Oq Vm ?_)
   refine letv (sc_Contains_int (g.Pred.getD (((g.Succ.getD v47_34.toNat []).getD v54_51.toNat 0) : Int).toNat []) v47_34) fun rv70 hg71 => ?_
   have hc72 := fn54 ((g.Pred.getD (((g.Succ.getD v47_34.toNat []).getD v54_51.toNat 0) : Int).toNat [])) a66 k67 v47_34 pre rv70 hg71
   refine Oc [1] ca54 hc72 ?_
   rintro - -
   refine Oq Vnot (KS ?_)
   refine Kc ?_ ?_
   ·intro h73
    have h75 := not_true h73
    refine KS ?_
    refine Oq Va (KS ?_)
    have hR77 := q2 hM52 (.ret false) (by simp only [gh_Valid_L1, h62, h73, h75, hg71, cs4])
    have hR78 := q2 hM35 (.ret false) (by simp only [gh_Valid_L0, h43, h62, h73, h75, hg71, hR77, cs4])
    have hq := q4 hrr false (by simp only [gh_Valid, h5, h8, h11, h14, h22, h30, h43, h62, h73, h75, hg18, hg26, hg71, hR77, hR78, cs4]); subst hq
    exact Kr () rfl (.tmp rfl .nil) [] trivial
   intro h73
   have h80 := not_false h73
   refine KS ?_
   refine Oq Vadd (Oq Vm (KS ?_))
   exact Kg (r64, (v54_51 + 1)) [2, 3, 4, 5, 6] ⟨(q3 hM52 (by simp only [gh_Valid_L1, h62, h73, h80, hg71, cs4])), aM1, aM1, aM1, aM1⟩
  intro h62
  have g82 := df h62
  obtain rfl : r50 = 0 := by omega
  refine Ke ?_
  have hR83 := q2 hM52 (.brk ()) (by simp only [gh_Valid_L1, h62, cs4])
  refine KS ?_
  refine Oq Vadd (Oq Vm (KS ?_))
  exact Kg (r45, (v47_34 + 1)) [1, 2, 3, 4] ⟨(q3 hM35 (by simp only [gh_Valid_L0, h43, h62, hR83, cs4])), aM1, aM1, aM1, aM1⟩
 intro h43
 have g84 := df h43
 obtain rfl : r33 = 0 := by omega
 refine Ke ?_
 have hR85 := q2 hM35 (.brk ()) (by simp only [gh_Valid_L0, h43, cs4])
 refine KS ?_
 refine Oq Va (KS ?_)
 have hq := q4 hrr true (by simp only [gh_Valid, h5, h8, h11, h14, h22, h30, h43, hg18, hg26, hR85, cs4]); subst hq
 exact Kr () rfl (.tmp rfl .nil) [] trivial
theorem fn22 (g : GGraph) (ga0 : Option Addr) (gk0 : Nat) (ga1 : Option Addr) (gk1 : Nat) (ga2 : Option Addr) (gk2 : Nat) (at_ : List Cpx) (at_a0 : Option Addr) (at_k0 : Nat) (rr : List Gedge) (hrr : layout_edges g at_ = rr) : FT Tryd.prog 22 #[.agg #[vl ga0 gk0 g.Nodes, vl ga1 gk1 g.Succ, vl ga2 gk2 g.Pred], vl at_a0 at_k0 at_] [S ga0 gk0 g.Nodes, S ga1 gk1 g.Succ, S ga2 gk2 g.Pred, S at_a0 at_k0 at_] (fun g : Value => ((rr.length : Int) ≤ 65536)) (fun g => g) (fun g => [os g rr]) := by
 refine FTi Tryd.func22 fun w0 M0 F0 => Fb 32 0 fun _ => Fb 24 1 fun _ => Fb 24 2 fun _ => Fb 16 3 fun _ => ?_
 refine KS ?_
 refine Oa (Ab [vl ga0 gk0 g.Nodes, vl ga1 gk1 g.Succ, vl ga2 gk2 g.Pred]) fun p5 => Oq Va (KS ?_)
 refine Oq (VldA sh42 0) ?_
 refine letv (gh_Valid g) fun rv6 hg7 => ?_
 have hc8 := fn38 g ga0 gk0 ga1 gk1 ga2 gk2 rv6 hg7
 refine Oc [1, 2, 3] ca38 hc8 ?_
 rintro - -
 refine Oq Vnot (Oq Vm ?_)
 refine Js 13 ?_ ?_
 ·intro h9
  have h11 := not_true h9
  refine Osk (Osk (Osk (Osk (Osk (Osk (Oq Vpt (Oq Vm (Osk (Osk ?_)))))))))
  refine Osk (Oq Vpt (KS ?_))
  refine Kt (KS ?_)
  refine Oq Va (KS ?_)
  refine Jl [] (Ent.osNil (α := Gedge)) ?_
  have hq := q4 hrr ([] : List Gedge) (by simp only [layout_edges, h9, h11, hg7, cs4]); subst hq
  exact Kr (.slice none 0 0) rfl (.tmp rfl .nil) [0] en
 intro h9
 have h14 := not_false h9
 try (have hgv := Valid_f (by assumption) h9; have hn1 := hgv.n1; have hsl := hgv.sl)
 try have hWl := whole_f (by assumption) h9
 refine Oq Vm (Oq (Vlen sl30) (Oq (Vfa fo42_0 0) (Oq (VldF sh39 0) (Oq (Vlen sl39) (Oq Vneq (Oq Vpf (Oq Vm ?_)))))))
 refine Js 21 ?_ ?_
 ·intro h16
  have g17 := ne_of_bne h16
  refine Osk (Osk (Osk (Oq Vpt (KS ?_))))
  refine Kt (KS ?_)
  refine Oq Va (KS ?_)
  refine Jl [] (Ent.osNil (α := Gedge)) ?_
  have hq := q4 hrr ([] : List Gedge) (by simp only [layout_edges, h9, h14, h16, hg7, cs4]); subst hq
  exact Kr (.slice none 0 0) rfl (.tmp rfl .nil) [0] en
 intro h16
 have g18 := eq_of_bne_false h16
 refine Oq Vm ?_
 refine letv (layout_whole at_) fun rv19 hg20 => ?_
 have hc21 := fn18 at_ at_a0 at_k0 rv19 hg20
 refine Oc [4] ca18 hc21 ?_
 rintro - -
 refine Oq Vnot (Oq Vpf (KS ?_))
 refine Kc ?_ ?_
 ·intro h22
  have h24 := not_true h22
  refine KS ?_
  refine Oq Va (KS ?_)
  refine Jl [] (Ent.osNil (α := Gedge)) ?_
  have hq := q4 hrr ([] : List Gedge) (by simp only [layout_edges, h9, h14, h16, h22, h24, hg7, hg20, cs4]); subst hq
  exact Kr (.slice none 0 0) rfl (.tmp rfl .nil) [0] en
 intro h22
 have h27 := not_false h22
 try (have hgv := Valid_f (by assumption) h22; have hn1 := hgv.n1; have hsl := hgv.sl)
 try have hWl := whole_f (by assumption) h22
 refine KS ?_
 refine Oq Va (KS ?_)
 refine Oq (Vfa fo42_1 0) (Oq (VldF sh40 0) (Oq (Vlen sl40) (Oq Vm (KS ?_))))
 refine Jl [] (Ent.osNil (α := Gedge)) ?_
 refine Kl (γ := Nat × List Gedge × Int × Option Addr × Nat) (fun (r29, l_30, v29_31, a32, k33) => ⟨[(1, vl at_a0 at_k0 at_), (5, vl a32 k33 l_30), (27, vl ga1 gk1 g.Succ), (28, vi (g.Succ.length : Int)), (29, vi v29_31)], [O a32 k33 l_30, S ga1 gk1 g.Succ, S at_a0 at_k0 at_], layout_edges_L0 g at_ r29 l_30 v29_31 = layout_edges_L0 g at_ (((g.Succ.length : Int) - 0).toNat) [] 0 ∧ r29 = ((g.Succ.length : Int) - v29_31).toNat ∧ (0 : Int) ≤ v29_31 ∧ v29_31 ≤ (g.Succ.length : Int) ∧ (-9223372036854775808 ≤ v29_31 ∧ v29_31 ≤ 9223372036854775807) ∧ ((l_30.length : Int) ≤ 256 * v29_31), r29⟩) (((g.Succ.length : Int) - 0).toNat, [], 0, none, 0) [0, 2, 4] ⟨rfl, rfl, aM1, aM1, aM1, iv0⟩ ?_
 rintro ⟨r29, l_30, v29_31, a32, k33⟩ ⟨hM34, hr35, hi36, hi37, hk38, hv39⟩
 refine JJ_nx fun _ _ hL hA => ?_; dsimp only at hL hA; subst hL hA
 refine Fb 32 0 fun _ => Fb 24 1 fun _ => Fb 16 2 fun _ => KS ?_
 refine Oq Vlss (KS ?_)
 refine Kc ?_ ?_
 ·intro h43
  have g44 := dt h43
  have hal := Asc_l (hgv.sa v29_31 aM1 aM1) aM1
  obtain ⟨r45, rfl⟩ := scc (n := r29) aM1
  refine KS ?_
  refine Oq Vm (Oq (Vi sl40 1) ?_)
  refine JJ_peekL v29_31.toNat 1 rfl rng fun a46 k47 => ?_
  refine Fb 8 1 fun _ => Fo 1 fun ho49 => ?_
  refine Oq (Vld sh22 0) (Oq Va (Oq Va (KS ?_)))
  refine Oq Vm (Oq (Vlen sl22) (Oq Vm (KS ?_)))
  refine Kl (γ := Nat × List Gedge × Int × Option Addr × Nat) (fun (r50, l_51, v36_52, a53, k54) => ⟨[(1, vl at_a0 at_k0 at_), (5, vl a53 k54 l_51), (27, vl ga1 gk1 g.Succ), (28, vi (g.Succ.length : Int)), (29, vi v29_31), (6, vi v29_31), (34, vl a46 k47 (g.Succ.getD v29_31.toNat [])), (35, vi ((g.Succ.getD v29_31.toNat []).length : Int)), (36, vi v36_52)], [O a53 k54 l_51, S a46 k47 ((g.Succ.getD v29_31.toNat []) : List Int), S ga1 gk1 g.Succ, S at_a0 at_k0 at_], layout_edges_L1 at_ v29_31 (g.Succ.getD v29_31.toNat []) r50 l_51 v36_52 = layout_edges_L1 at_ v29_31 (g.Succ.getD v29_31.toNat []) (((((g.Succ.getD v29_31.toNat []).length : Int) : Int) - 0).toNat) l_30 0 ∧ r50 = ((((g.Succ.getD v29_31.toNat []).length : Int) : Int) - v36_52).toNat ∧ (0 : Int) ≤ v36_52 ∧ (v36_52 ≤ ((g.Succ.getD v29_31.toNat []).length : Int) ∨ v36_52 = 0) ∧ (-9223372036854775808 ≤ v36_52 ∧ v36_52 ≤ 9223372036854775807) ∧ ((l_51.length : Int) ≤ 256 * v29_31 + v36_52), r50⟩) (((((g.Succ.getD v29_31.toNat []).length : Int) : Int) - 0).toNat, l_30, 0, a32, k33) [2, 1, 2, 3] ⟨rfl, rfl, aM1, (.inr rfl), aM1, iv0⟩ ?_
  rintro ⟨r50, l_51, v36_52, a53, k54⟩ ⟨hM55, hr56, hi57, hi58, hk59, hv60⟩
  refine JJ_nx fun _ _ hL hA => ?_; dsimp only at hL hA; subst hL hA
  refine Fb 32 0 fun _ => Fb 8 1 fun _ => Fo 1 fun ho63 => Fb 24 2 fun _ => Fb 16 3 fun _ => KS ?_
  refine Oq Vlss (KS ?_)
  refine Kc ?_ ?_
  ·intro h66
   have g67 := dt h66
   have hsm := Asc_mem (hgv.sa v29_31 aM1 aM1) (getD_mem (xs := g.Succ.getD v29_31.toNat []) (i := v36_52.toNat) (d := 0) aM1)
   obtain ⟨r68, rfl⟩ := scc (n := r50) aM1
   refine KS ?_
   refine Oq (Vi sl22 1) ?_
   have hb69 := ok1 (i := v36_52.toNat) ho63 rng
   refine Oq (VldI sh3 1) (Oq Va (KS ?_))
   refine Oq Vm (Oq Vm (Oq (Vi sl30 3) (Oq (VldCx sh37 3) (Oq (VneC (a := (at_.getD v29_31.toNat default)) (b := (Cpx.mk 13830554455654793216#64 0#64))) (Oq Vm ?_)))))
   refine Js 45 ?_ ?_
   ·intro h70
    have h72 := not_true h70
    refine Oq Vm (Oq Vm (Oq (Vi sl30 3) (Oq (VldCx sh37 3) (Oq (VneC (a := (at_.getD (((g.Succ.getD v29_31.toNat []).getD v36_52.toNat 0) : Int).toNat default)) (b := (Cpx.mk 13830554455654793216#64 0#64))) (Oq Vpt (KS ?_))))))
    refine Kc ?_ ?_
    ·intro h74
     have h76 := not_true h74
     refine JK_drawK [0, 0, 0, 6, 14, 0, 0, 96, 224, 510, 1022, 2047, 4095] fmix ?_
     refine Dv [] Vm (Dv [] Vm (Dv [] Vm (Dv [3] (Vi sl30 0) (Dv [3] (VldCx sh37 0) (Dv [] Vm (Dv [] Vm (Dv [3] (Vi sl30 0) (Dv [3] (VldCx sh37 0) (Dv [] (Vbd st63 [cxv (at_.getD v29_31.toNat default), cxv (at_.getD (((g.Succ.getD v29_31.toNat []).getD v36_52.toNat 0) : Int).toNat default)]) ?_)))))))))
     refine Dx [] [] [0] (fun G => (G.g 10 0)) [fun G => Cr (G.g 10 0) 1 [cxv (at_.getD v29_31.toNat default), cxv (at_.getD (((g.Succ.getD v29_31.toNat []).getD v36_52.toNat 0) : Int).toNat default)]] (fun G => xA (AsV sl60 sz60 [.agg #[cxv (at_.getD v29_31.toNat default), cxv (at_.getD (((g.Succ.getD v29_31.toNat []).getD v36_52.toNat 0) : Int).toNat default)]] [cxv (at_.getD v29_31.toNat default), cxv (at_.getD (((g.Succ.getD v29_31.toNat []).getD v36_52.toNat 0) : Int).toNat default)])) ?_
     have hn80 := la l_51 ([(Gedge.mk (at_.getD v29_31.toNat default) (at_.getD (((g.Succ.getD v29_31.toNat []).getD v36_52.toNat 0) : Int).toNat default))] : List Gedge)
     refine Dx [0, 4] [0, 4] [0] (fun G => (G.g 11 0)) [fun G => os (G.g 11 0) ((l_51 ++ [(Gedge.mk (at_.getD v29_31.toNat default) (at_.getD (((g.Succ.getD v29_31.toNat []).getD v36_52.toNat 0) : Int).toNat default))]) : List Gedge)] (fun G => xp [1] rfl (Ent.cr1 (α := Gedge) (A := []) _ (Gedge.mk (at_.getD v29_31.toNat default) (at_.getD (((g.Succ.getD v29_31.toNat []).getD v36_52.toNat 0) : Int).toNat default)) _ aB1 (fun h => ⟨rfl, trivial⟩)) (xA (ApO [1, 0] sl60 sl60 sz60))) (Dg [] (fun G => (G.g 11 0)) (fun G => Va) ?_)
     refine Dn ⟨by kernel_rfl, fun G => ?_⟩
     refine Jw2 [(1, vl at_a0 at_k0 at_), (27, vl ga1 gk1 g.Succ), (28, vi (g.Succ.length : Int)), (29, vi v29_31), (6, vi v29_31), (34, vl a46 k47 (g.Succ.getD v29_31.toNat [])), (35, vi ((g.Succ.getD v29_31.toNat []).length : Int)), (36, vi v36_52), (5, (G.g 11 0))] [1, 2, 3] [os (G.g 11 0) ((l_51 ++ [(Gedge.mk (at_.getD v29_31.toNat default) (at_.getD (((g.Succ.getD v29_31.toNat []).getD v36_52.toNat 0) : Int).toNat default))]) : List Gedge)] ?_
     generalize G.g 11 0 = c79
     refine Jo 3 ?_; rintro a81 k82 rfl
     refine Fb 32 3 fun _ => KS ?_
     refine Oq Vadd (Oq Vm (KS ?_))
     exact Kg (r68, (l_51 ++ [(Gedge.mk (at_.getD v29_31.toNat default) (at_.getD (((g.Succ.getD v29_31.toNat []).getD v36_52.toNat 0) : Int).toNat default))]), (v36_52 + 1), a81, k82) [3, 0, 1, 2] ⟨(q3 hM55 (by simp only [layout_edges_L1, h66, h70, h72, h74, h76, cs4])), aM1, aM1, aM1, aM1, iv1⟩
    intro h74
    have h85 := not_false h74
    refine KS ?_
    refine Oq Vadd (Oq Vm (KS ?_))
    exact Kg (r68, l_51, (v36_52 + 1), a53, k54) [0, 0, 1, 2] ⟨(q3 hM55 (by simp only [layout_edges_L1, h66, h70, h72, h74, h85, cs4])), aM1, aM1, aM1, aM1, iv1⟩
   intro h70
   have h88 := not_false h70
   refine Osk (Osk (Osk (Osk (Osk (Oq Vpf (KS ?_))))))
   refine Kf (KS ?_)
   refine Oq Vadd (Oq Vm (KS ?_))
   exact Kg (r68, l_51, (v36_52 + 1), a53, k54) [0, 0, 1, 2] ⟨(q3 hM55 (by simp only [layout_edges_L1, h66, h70, h88, cs4])), aM1, aM1, aM1, aM1, iv1⟩
  intro h66
  have g90 := df h66
  obtain rfl : r50 = 0 := by omega
  refine Ke ?_
  have hR91 := q2 hM55 l_51 (by simp only [layout_edges_L1, h66, cs4])
  refine KS ?_
  refine Oq Vadd (Oq Vm (KS ?_))
  exact Kg (r45, l_51, (v29_31 + 1), a53, k54) [0, 1, 2] ⟨(q3 hM34 (by simp only [layout_edges_L0, h43, h66, hR91, cs4])), aM1, aM1, aM1, aM1, iv1⟩
 intro h43
 have g92 := df h43
 obtain rfl : r29 = 0 := by omega
 refine Ke ?_
 have hR93 := q2 hM34 l_30 (by simp only [layout_edges_L0, h43, cs4])
 refine KS ?_
 refine Oq Vm (Oq Va (KS ?_))
 have hq := q4 hrr l_30 (by simp only [layout_edges, h9, h14, h16, h22, h27, h43, hg7, hg20, hR93, cs4]); subst hq
 exact Kr (vl a32 k33 l_30) rfl (.tmp rfl .nil) [0] en
theorem fn41 (s : List Gedge) (sa0 : Option Addr) (sk0 : Nat) (fF : FuncId) (fC : List Value) (fp : Gedge → Bool) (fA : List SP) (hfc : callable Tryd.prog fF = true) (hfF : ∀ x ∈ s, FT Tryd.prog fF ([(.agg #[cxv x.from_, cxv x.to_] : Value)] ++ fC).toArray ([] ++ [pAll fA]) (fun _ : Unit => True) (fun _ => .bool (fp x)) (fun _ => [])) (rr : Int) (hrr : sc_IndexFunc_edge s fp = rr) : FT Tryd.prog 41 #[vl sa0 sk0 s, .func (.func fF) #[] fC.toArray] [S sa0 sk0 s, pAll fA] (fun g : Unit => i64ok rr ∧ (-1 ≤ rr ∧ rr < (s.length : Int))) (fun g => vi rr) (fun g => []) := by
 refine FTi Tryd.func41 fun w0 M0 F0 => Fb 32 0 fun _ => ?_
 refine KS ?_
 refine Oq Va (KS ?_)
 refine Oq Vm (Oq (Vlen sl60) (Oq Vm (KS ?_)))
 refine Kl (γ := Nat × Int) (fun (r2, v8_3) => ⟨[(0, vl sa0 sk0 s), (1, .func (.func fF) #[] fC.toArray), (7, vi (s.length : Int)), (8, vi v8_3)], [S sa0 sk0 s, pAll fA], sc_IndexFunc_edge_L0 s fp r2 v8_3 = sc_IndexFunc_edge_L0 s fp (((s.length : Int) - 0).toNat) 0 ∧ r2 = ((s.length : Int) - v8_3).toNat ∧ (0 : Int) ≤ v8_3 ∧ v8_3 ≤ (s.length : Int) ∧ (-9223372036854775808 ≤ v8_3 ∧ v8_3 ≤ 9223372036854775807), r2⟩) (((s.length : Int) - 0).toNat, 0) [0, 1] ⟨rfl, rfl, aM1, aM1, aM1⟩ ?_
 rintro ⟨r2, v8_3⟩ ⟨hM4, hr5, hi6, hi7, hk8⟩
 refine JJ_nx fun _ _ hL hA => ?_; dsimp only at hL hA; subst hL hA
 refine Fb 32 0 fun _ => KS ?_
 refine Oq Vlss (KS ?_)
 refine Kc ?_ ?_
 ·intro h10
  have g11 := dt h10
  obtain ⟨r12, rfl⟩ := scc (n := r2) aM1
  refine KS ?_
  refine Oq Vm (Oq Va (KS ?_))
  refine Oq Vm (Oq Vm (Oq Vm (Oq (Vi sl60 0) ?_)))
  refine JJ_peek_Gedge v8_3.toNat 0 rfl rng ?_
  refine Oq (VldA sh63 0) ?_
  refine JO_call [2] rfl rfl rfl (OpC.clo (asv := [(.agg #[cxv ((s.getD v8_3.toNat default).from_), cxv ((s.getD v8_3.toNat default).to_)] : Value)] ++ fC) rfl rfl hfc rfl (by simp)) (hfF (s.getD v8_3.toNat default) (getD_mem rng)  ) rfl fun _ _ => ?_
  refine KS ?_
  refine Kc ?_ ?_
  ·intro h13
   refine KS ?_
   refine Oq Vm (Oq Va (KS ?_))
   have hR15 := q2 hM4 (.ret v8_3) (by simp only [sc_IndexFunc_edge_L0, h10, h13, cs4])
   have hq := q4 hrr v8_3 (by simp only [sc_IndexFunc_edge, h10, h13, hR15, cs4]); subst hq
   exact Kr () rfl (.tmp rfl .nil) [] en
  intro h13
  refine KS ?_
  refine Oq Vadd (Oq Vm (KS ?_))
  exact Kg (r12, (v8_3 + 1)) [1, 2] ⟨(q3 hM4 (by simp only [sc_IndexFunc_edge_L0, h10, h13, cs4])), aM1, aM1, aM1, aM1⟩
 intro h10
 have g17 := df h10
 obtain rfl : r2 = 0 := by omega
 refine Ke ?_
 have hR18 := q2 hM4 (.brk ()) (by simp only [sc_IndexFunc_edge_L0, h10, cs4])
 refine KS ?_
 refine Oq Va (KS ?_)
 have hq := q4 hrr (-1) (by simp only [sc_IndexFunc_edge, h10, hR18, cs4]); subst hq
 exact Kr () rfl (.tmp rfl .nil) [] en
theorem fn24 (s : List Gedge) (sa0 : Option Addr) (sk0 : Nat) (delF : FuncId) (delC : List Value) (delp : Gedge → Bool) (delA : List SP) (hdelc : callable Tryd.prog delF = true) (hdelF : ∀ x ∈ s, FT Tryd.prog delF ([(.agg #[cxv x.from_, cxv x.to_] : Value)] ++ delC).toArray ([] ++ [pAll delA]) (fun _ : Unit => True) (fun _ => .bool (delp x)) (fun _ => [])) (rr : List Gedge) (hrr : sc_DeleteFunc_edge s delp = rr) : FT Tryd.prog 24 #[vl sa0 sk0 s, .func (.func delF) #[] delC.toArray] [O sa0 sk0 s, pAll delA] (fun g : Value => (rr.length ≤ s.length)) (fun g => g) (fun g => [sl g rr]) := by
 refine FTi Tryd.func24 fun w0 M0 F0 => Fb 32 0 fun _ => ?_
 refine KS ?_
 refine Oq Va (KS ?_)
 refine Oq Vm (Oq Vm ?_)
 refine letv (sc_IndexFunc_edge s delp) fun rv2 hg3 => ?_
 refine Oc [0, 0] ca41 (FT_borrow (A := _) (fun _ _ h => by cases h) (FT_ent (Ent.take (is := [0, 1]) rfl) (fn41 s sa0 sk0 delF delC delp delA hdelc hdelF rv2 hg3))) ?_ (ht := rfl)
 rintro - ⟨he4, he5⟩
 unfold i64ok at he4
 refine Oq Va (KS ?_)
 refine Oq Vm (Oq Veql (KS ?_))
 refine Kc ?_ ?_
 ·intro h6
  have g7 := eq_of_beq h6
  refine KS ?_
  refine Oq Vm (Oq Va (KS ?_))
  refine Jl [0] (Ent.freeze _ _) ?_
  have hq := q4 hrr s (by simp only [sc_DeleteFunc_edge, h6, hg3, cs4]); subst hq
  exact Kr (vl sa0 sk0 s) rfl (.tmp rfl .nil) [0] en
 intro h6
 have g8 := ne_of_beq_false h6
 refine KS ?_
 refine Oq Vm (Oq Vadd (Oq Va (KS ?_)))
 refine Kl (γ := Nat × List Gedge × Int × Int) (fun (r9, s_10, i_11, j_12) => ⟨[(0, vl sa0 sk0 s), (1, .func (.func delF) #[] delC.toArray), (5, vi i_11), (6, vi j_12)], [os (vl sa0 sk0 s) s_10, pAll delA], sc_DeleteFunc_edge_L0 delp r9 s_10 i_11 j_12 = sc_DeleteFunc_edge_L0 delp (((s.length : Int) - (rv2 + 1)).toNat) s rv2 (rv2 + 1) ∧ r9 = ((s.length : Int) - j_12).toNat ∧ ((rv2 + 1) : Int) ≤ j_12 ∧ (j_12 ≤ (s.length : Int) ∨ j_12 = (rv2 + 1)) ∧ (-9223372036854775808 ≤ i_11 ∧ i_11 ≤ 9223372036854775807) ∧ (-9223372036854775808 ≤ j_12 ∧ j_12 ≤ 9223372036854775807) ∧ (∀ x ∈ s_10, x ∈ s) ∧ (0 ≤ i_11 ∧ i_11 < j_12) ∧ (s_10.length = s.length), r9⟩) (((s.length : Int) - (rv2 + 1)).toNat, s, rv2, (rv2 + 1)) [0, 0] ⟨rfl, rfl, aM1, (.inr rfl), aM1, aM1, (fun x h => h), iv0, iv0⟩ ?_
 rintro ⟨r9, s_10, i_11, j_12⟩ ⟨hM13, hr14, hi15, hi16, hk17, hk18, hv19, hv20, hv21⟩
 refine JJ_nx fun _ _ hL hA => ?_; dsimp only at hL hA; subst hL hA
 refine Fb 32 0 fun _ => Fl 0 fun hn23 => ?_
 refine KS ?_
 refine Oq Vm (Oq Vm (Oq (Vlen sl60) (Oq Vlss (KS ?_))))
 refine Kc ?_ ?_
 ·intro h24
  have g25 := dt h24
  obtain ⟨r26, rfl⟩ := scc (n := r9) aM1
  refine KS ?_
  refine Oq Vm (Oq Vm (Oq (Vi sl60 0) ?_))
  refine JJ_peekO_Gedge j_12.toNat 0 rfl rng ?_
  refine Oq (VldA sh63 0) (Oa (Al ze63 [cxv (Cpx.mk 0#64 0#64), cxv (Cpx.mk 0#64 0#64)]) fun p27 => Ost (Scl [0] sh63 [cxv ((s_10.getD j_12.toNat default).from_), cxv ((s_10.getD j_12.toNat default).to_)]) (KS ?_))
  refine Oq Vm (Oq (VldA sh63 0) ?_)
  refine JO_call [2] rfl rfl rfl (OpC.clo (asv := [(.agg #[cxv ((s_10.getD j_12.toNat default).from_), cxv ((s_10.getD j_12.toNat default).to_)] : Value)] ++ delC) rfl rfl hdelc rfl (by simp)) (hdelF (s_10.getD j_12.toNat default) ((by assumption : ∀ x ∈ _, x ∈ s) _ (getD_mem rng))  ) rfl fun _ _ => ?_
  refine Oq Vnot (KS ?_)
  refine Kc ?_ ?_
  ·intro h28
   have h30 := not_true h28
   refine KS ?_
   refine Oq Vm (Oq Vm (Oq (VldA sh63 0) (Oq (Vi sl60 1) ?_)))
   refine Jl [1] (Ent.oread _ _ _ _) ?_
   refine Ost (So (Rs := []) [0] sh63 (s_10.getD j_12.toNat default) (fun h => ⟨rfl, trivial⟩)) (KS ?_)
   refine Oq Vm (Oq Vadd (Oq Va (KS ?_)))
   refine Oq Vm (Oq Vadd (Oq Va (KS ?_)))
   exact Kg (r26, (s_10.set i_11.toNat (s_10.getD j_12.toNat default)), (i_11 + 1), (j_12 + 1)) [0, 1] ⟨(q3 hM13 (by simp only [sc_DeleteFunc_edge_L0, h24, h28, h30, cs4])), aM1, aM1, aM1, aM1, aM1, (by first | assumption | exact fun x h => (List.mem_or_eq_of_mem_set h).elim ((by assumption : ∀ x ∈ _, x ∈ s) x) (fun e => e ▸ (by assumption : ∀ x ∈ _, x ∈ s) _ (getD_mem rng))), iv1, iv1⟩
  intro h28
  have h33 := not_false h28
  refine KS ?_
  refine Oq Vm (Oq Vadd (Oq Va (KS ?_)))
  refine Jl [1] (Ent.oread _ _ _ _) ?_
  exact Kg (r26, s_10, i_11, (j_12 + 1)) [0, 1] ⟨(q3 hM13 (by simp only [sc_DeleteFunc_edge_L0, h24, h28, h33, cs4])), aM1, aM1, aM1, aM1, aM1, (by first | assumption | exact fun x h => (List.mem_or_eq_of_mem_set h).elim ((by assumption : ∀ x ∈ _, x ∈ s) x) (fun e => e ▸ (by assumption : ∀ x ∈ _, x ∈ s) _ (getD_mem rng))), iv1, iv1⟩
 intro h24
 have g35 := df h24
 obtain rfl : r9 = 0 := by omega
 refine Ke ?_
 have hR36 := q2 hM13 (s_10, i_11) (by simp only [sc_DeleteFunc_edge_L0, h24, cs4])
 refine KS ?_
 refine Oq Vm (Oq Vm (Oq (VslA sl60 0 (i_11.toNat)) ?_))
 refine Oan (OpA.frame [0] rfl (OpA.clearR (α := Gedge) (z := (Gedge.mk (Cpx.mk 0#64 0#64) (Cpx.mk 0#64 0#64))) sl60 (zv := .agg #[cxv (Cpx.mk 0#64 0#64), cxv (Cpx.mk 0#64 0#64)]) ze63 (fun _ _ => ⟨rfl, trivial⟩) (i_11.toNat) rfl rfl aM1)) fun _ => ?_
 have hn37 : ((s_10.take (i_11.toNat)) ++ (List.replicate (s.length - i_11.toNat) (Gedge.mk (Cpx.mk 0#64 0#64) (Cpx.mk 0#64 0#64)))).length = s_10.length := by simp only [List.length_append, List.length_take, List.length_replicate]; omega
 refine KS ?_
 refine Oq Vm (Oq Vm (Oa (AslO [0] sl60 0 (i_11.toNat)) fun c38 => ?_))
 refine Jo 0 ?_; rintro a39 k40 rfl
 refine Fb 32 0 fun _ => ?_
 have hn42 : ((((s_10.take (i_11.toNat)) ++ (List.replicate (s.length - i_11.toNat) (Gedge.mk (Cpx.mk 0#64 0#64) (Cpx.mk 0#64 0#64)))).take (i_11.toNat)).drop 0).length = (i_11.toNat) - 0 := len_slice rng rng
 refine Oq Va (KS ?_)
 refine Jl [0] (Ent.freeze _ _) ?_
 have hq := q4 hrr ((((s_10.take (i_11.toNat)) ++ (List.replicate (s.length - i_11.toNat) (Gedge.mk (Cpx.mk 0#64 0#64) (Cpx.mk 0#64 0#64)))).take (i_11.toNat)).drop 0) (by simp only [sc_DeleteFunc_edge, h6, h24, hg3, hR36, cs4]); subst hq
 exact Kr (.slice a39 (((((s_10.take (i_11.toNat)) ++ (List.replicate (s.length - i_11.toNat) (Gedge.mk (Cpx.mk 0#64 0#64) (Cpx.mk 0#64 0#64)))).take (i_11.toNat)).drop 0).length) k40) rfl (.tmp rfl .nil) [0] en
theorem fn25 (e : Gedge) (he0 : EW e) (rr : Bool) (hrr : layout_Crossings_1 e = rr) : FT Tryd.prog 25 #[.agg #[cxv e.from_, cxv e.to_]] [] (fun g : Unit => True) (fun g => vb rr) (fun g => []) := by
 refine FTi Tryd.func25 fun w0 M0 F0 => ?_
 refine KS ?_
 refine Oa (Ab [cxv e.from_, cxv e.to_]) fun p1 => Oq Va (KS ?_)
 refine Oq (Vfa fo63_1 0) (Oq (VldF sh37 0) (Oq (Vim (a := e.to_)) (Oq (Vfa fo63_0 0) (Oq (VldF sh37 0) (Oq (Vim (a := e.from_)) (Oq (VaddF (a := (Flo.mk e.from_.im)) (b := (Flo.mk 4607182418800017408#64)) (h := (EW_next he0))) (Oq (VneF (a := (Flo.mk e.to_.im)) (b := (fadd (Flo.mk e.from_.im) (Flo.mk 4607182418800017408#64)))) (Oq Va (KS ?_)))))))))
 have hq := q4 hrr (!(feq (Flo.mk e.to_.im) (fadd (Flo.mk e.from_.im) (Flo.mk 4607182418800017408#64)))) (by simp only [layout_Crossings_1, cs4]); subst hq
 exact Kr () rfl (.tmp rfl .nil) [] trivial
theorem fn14 (g : GGraph) (ga0 : Option Addr) (gk0 : Nat) (ga1 : Option Addr) (gk1 : Nat) (ga2 : Option Addr) (gk2 : Nat) (at_ : List Cpx) (at_a0 : Option Addr) (at_k0 : Nat) (rr : Int) (hrr : layout_Crossings g at_ = rr) : FT Tryd.prog 14 #[.agg #[vl ga0 gk0 g.Nodes, vl ga1 gk1 g.Succ, vl ga2 gk2 g.Pred], vl at_a0 at_k0 at_] [S ga0 gk0 g.Nodes, S ga1 gk1 g.Succ, S ga2 gk2 g.Pred, S at_a0 at_k0 at_] (fun g : Unit => i64ok rr) (fun g => vi rr) (fun g => []) := by
 refine FTi Tryd.func14 fun w0 M0 F0 => Fb 32 0 fun _ => Fb 24 1 fun _ => Fb 24 2 fun _ => Fb 16 3 fun _ => ?_
 refine KS ?_
 refine Oa (Ab [vl ga0 gk0 g.Nodes, vl ga1 gk1 g.Succ, vl ga2 gk2 g.Pred]) fun p5 => Oq Va (KS ?_)
 refine Oq (VldA sh42 0) (Oq Vm ?_)
 refine letv (layout_edges g at_) fun rv7 hg8 => ?_
 have hEW := edges_EW hg8
 have hc9 := fn22 g ga0 gk0 ga1 gk1 ga2 gk2 at_ at_a0 at_k0 rv7 hg8
 refine Oc [1, 2, 3, 4] ca22 hc9 ?_
 rintro c6 he10
 refine Jo 0 ?_; rintro a11 k12 rfl
 refine Fb 32 0 fun _ => ?_
 refine JJ_ent (Ent.pall [] rfl rfl) ?_
 refine letv (sc_DeleteFunc_edge rv7 (fun x => layout_Crossings_1 x)) fun rv15 hg16 => ?_
 have hc17 := fn24 rv7 a11 k12 25 [] (fun x => layout_Crossings_1 x) [] ca25 (fun x hx  => FT_pall (A1 := _) (fn25 x   (hEW _ hx) _ rfl)) rv15 hg16
 refine Oc [1, 0] ca24 hc17 ?_
 rintro c14 he18
 refine Jo 0 ?_; rintro a19 k20 rfl
 refine Fb 32 0 fun _ => ?_
 refine Oq Va (KS ?_)
 refine Oq Va (KS ?_)
 refine Oq Vm (Oq (Vlen sl60) (Oq Vm (KS ?_)))
 refine Kl (γ := Nat × Int × Int) (fun (r22, n_23, v17_24) => ⟨[(5, vl a19 k20 rv15), (6, vi n_23), (15, vl a19 k20 rv15), (16, vi (rv15.length : Int)), (17, vi v17_24)], [S a19 k20 rv15, pAll []], layout_Crossings_L0 rv15 rv15 r22 n_23 v17_24 = layout_Crossings_L0 rv15 rv15 (((rv15.length : Int) - 0).toNat) 0 0 ∧ r22 = ((rv15.length : Int) - v17_24).toNat ∧ (0 : Int) ≤ v17_24 ∧ v17_24 ≤ (rv15.length : Int) ∧ (-9223372036854775808 ≤ n_23 ∧ n_23 ≤ 9223372036854775807) ∧ (-9223372036854775808 ≤ v17_24 ∧ v17_24 ≤ 9223372036854775807) ∧ (0 ≤ n_23 ∧ n_23 ≤ 65536 * v17_24), r22⟩) (((rv15.length : Int) - 0).toNat, 0, 0) [0, 1] ⟨rfl, rfl, aM1, aM1, aM1, aM1, iv0⟩ ?_
 rintro ⟨r22, n_23, v17_24⟩ ⟨hM25, hr26, hi27, hi28, hk29, hk30, hv31⟩
 refine JJ_nx fun _ _ hL hA => ?_; dsimp only at hL hA; subst hL hA
 refine Fb 32 0 fun _ => KS ?_
 refine Oq Vlss (KS ?_)
 refine Kc ?_ ?_
 ·intro h33
  have g34 := dt h33
  obtain ⟨r35, rfl⟩ := scc (n := r22) aM1
  refine KS ?_
  refine Oq (Vi sl60 0) ?_
  refine JJ_peek_Gedge v17_24.toNat 0 rfl rng ?_
  refine Oq (VldA sh63 0) (Oa (Al ze63 [cxv (Cpx.mk 0#64 0#64), cxv (Cpx.mk 0#64 0#64)]) fun p36 => Ost (Scl [0] sh63 [cxv ((rv15.getD v17_24.toNat default).from_), cxv ((rv15.getD v17_24.toNat default).to_)]) (KS ?_))
  refine Oq Vm (Oq (Vlen sl60) (Oq Vm (KS ?_)))
  refine Kl (γ := Nat × Int × Int) (fun (r37, n_38, v23_39) => ⟨[(5, vl a19 k20 rv15), (6, vi n_38), (15, vl a19 k20 rv15), (16, vi (rv15.length : Int)), (17, vi v17_24), (8, p36), (21, vl a19 k20 rv15), (22, vi (rv15.length : Int)), (23, vi v23_39)], [Cl p36 [cxv ((rv15.getD v17_24.toNat default).from_), cxv ((rv15.getD v17_24.toNat default).to_)], S a19 k20 rv15, pAll []], layout_Crossings_L1 ((rv15.getD v17_24.toNat default).from_) ((rv15.getD v17_24.toNat default).to_) rv15 r37 n_38 v23_39 = layout_Crossings_L1 ((rv15.getD v17_24.toNat default).from_) ((rv15.getD v17_24.toNat default).to_) rv15 (((rv15.length : Int) - 0).toNat) n_23 0 ∧ r37 = ((rv15.length : Int) - v23_39).toNat ∧ (0 : Int) ≤ v23_39 ∧ v23_39 ≤ (rv15.length : Int) ∧ (-9223372036854775808 ≤ n_38 ∧ n_38 ≤ 9223372036854775807) ∧ (-9223372036854775808 ≤ v23_39 ∧ v23_39 ≤ 9223372036854775807) ∧ (0 ≤ n_38 ∧ n_38 ≤ 65536 * v17_24 + v23_39), r37⟩) (((rv15.length : Int) - 0).toNat, n_23, 0) [0, 1, 2] ⟨rfl, rfl, aM1, aM1, aM1, aM1, iv0⟩ ?_
  rintro ⟨r37, n_38, v23_39⟩ ⟨hM40, hr41, hi42, hi43, hk44, hk45, hv46⟩
  refine JJ_nx fun _ _ hL hA => ?_; dsimp only at hL hA; subst hL hA
  refine Fb 32 1 fun _ => KS ?_
  refine Oq Vlss (KS ?_)
  refine Kc ?_ ?_
  ·intro h48
   have g49 := dt h48
   obtain ⟨r50, rfl⟩ := scc (n := r37) aM1
   refine KS ?_
   refine Oq (Vi sl60 1) ?_
   refine JJ_peek_Gedge v23_39.toNat 1 rfl rng ?_
   refine Oq (VldA sh63 0) (Oa (Al ze63 [cxv (Cpx.mk 0#64 0#64), cxv (Cpx.mk 0#64 0#64)]) fun p51 => Ost (Scl [0] sh63 [cxv ((rv15.getD v23_39.toNat default).from_), cxv ((rv15.getD v23_39.toNat default).to_)]) (KS ?_))
   refine Oq (Vfa fo63_0 2) (Oq (VldF sh37 2) (Oq (Vim (a := (rv15.getD v17_24.toNat default).from_)) (Oq (Vfa fo63_0 0) (Oq (VldF sh37 0) (Oq (Vim (a := (rv15.getD v23_39.toNat default).from_)) (Oq (VeqF (a := (Flo.mk ((rv15.getD v17_24.toNat default).from_).im)) (b := (Flo.mk ((rv15.getD v23_39.toNat default).from_).im))) (Oq Vm ?_)))))))
   refine Js 34 ?_ ?_
   ·intro h52
    refine Oq (Vfa fo63_0 2) (Oq (VldF sh37 2) (Oq (Vre (a := (rv15.getD v17_24.toNat default).from_)) (Oq (Vfa fo63_0 0) (Oq (VldF sh37 0) (Oq (Vre (a := (rv15.getD v23_39.toNat default).from_)) (Oq (VltF (a := (Flo.mk ((rv15.getD v17_24.toNat default).from_).re)) (b := (Flo.mk ((rv15.getD v23_39.toNat default).from_).re))) (Oq Vpt (Oq Vm ?_))))))))
    refine Js 43 ?_ ?_
    ·intro h54
     refine Oq (Vfa fo63_1 2) (Oq (VldF sh37 2) (Oq (Vre (a := (rv15.getD v17_24.toNat default).to_)) (Oq (Vfa fo63_1 0) (Oq (VldF sh37 0) (Oq (Vre (a := (rv15.getD v23_39.toNat default).to_)) (Oq (VgtF (a := (Flo.mk ((rv15.getD v17_24.toNat default).to_).re)) (b := (Flo.mk ((rv15.getD v23_39.toNat default).to_).re))) (Oq Vpt (KS ?_))))))))
     refine Kc ?_ ?_
     ·intro h56
      refine KS ?_
      refine Oq Vm (Oq Vadd (Oq Va (KS ?_)))
      refine Oq Vadd (Oq Vm (KS ?_))
      exact Kg (r50, (n_38 + 1), (v23_39 + 1)) [2, 2, 3] ⟨(q3 hM40 (by simp only [layout_Crossings_L1, h48, h52, h54, h56, cs4])), aM1, aM1, aM1, aM1, aM1, iv1⟩
     intro h56
     refine KS ?_
     refine Oq Vadd (Oq Vm (KS ?_))
     exact Kg (r50, n_38, (v23_39 + 1)) [2, 2, 3] ⟨(q3 hM40 (by simp only [layout_Crossings_L1, h48, h52, h54, h56, cs4])), aM1, aM1, aM1, aM1, aM1, iv1⟩
    intro h54
    refine Osk (Osk (Osk (Osk (Osk (Osk (Osk (Oq Vpf (KS ?_))))))))
    refine Kf (KS ?_)
    refine Oq Vadd (Oq Vm (KS ?_))
    exact Kg (r50, n_38, (v23_39 + 1)) [2, 2, 3] ⟨(q3 hM40 (by simp only [layout_Crossings_L1, h48, h52, h54, cs4])), aM1, aM1, aM1, aM1, aM1, iv1⟩
   intro h52
   refine Osk (Osk (Osk (Osk (Osk (Osk (Osk (Oq Vpf (Oq Vm (Osk ?_)))))))))
   refine Osk (Osk (Osk (Osk (Osk (Osk (Oq Vpf (KS ?_)))))))
   refine Kf (KS ?_)
   refine Oq Vadd (Oq Vm (KS ?_))
   exact Kg (r50, n_38, (v23_39 + 1)) [2, 2, 3] ⟨(q3 hM40 (by simp only [layout_Crossings_L1, h48, h52, cs4])), aM1, aM1, aM1, aM1, aM1, iv1⟩
  intro h48
  have g61 := df h48
  obtain rfl : r37 = 0 := by omega
  refine Ke ?_
  have hR62 := q2 hM40 n_38 (by simp only [layout_Crossings_L1, h48, cs4])
  refine KS ?_
  refine Oq Vadd (Oq Vm (KS ?_))
  exact Kg (r35, n_38, (v17_24 + 1)) [1, 2] ⟨(q3 hM25 (by simp only [layout_Crossings_L0, h33, h48, hR62, cs4])), aM1, aM1, aM1, aM1, aM1, iv1⟩
 intro h33
 have g63 := df h33
 obtain rfl : r22 = 0 := by omega
 refine Ke ?_
 have hR64 := q2 hM25 n_23 (by simp only [layout_Crossings_L0, h33, cs4])
 refine KS ?_
 refine Oq Vm (Oq Va (KS ?_))
 have hq := q4 hrr n_23 (by simp only [layout_Crossings, h33, hg8, hg16, hR64, cs4]); subst hq
 exact Kr () rfl (.tmp rfl .nil) [] en
theorem fn31 (g : GGraph) (ga0 : Option Addr) (gk0 : Nat) (ga1 : Option Addr) (gk1 : Nat) (ga2 : Option Addr) (gk2 : Nat) (root : Int) (hroot_0 : i64ok root) (rr : Int) (hrr : layout_check g root = .ret rr) : FT Tryd.prog 31 #[.agg #[vl ga0 gk0 g.Nodes, vl ga1 gk1 g.Succ, vl ga2 gk2 g.Pred], vi root] [S ga0 gk0 g.Nodes, S ga1 gk1 g.Succ, S ga2 gk2 g.Pred] (fun g : Unit => i64ok rr) (fun g => vi rr) (fun g => []) := by
 refine FTi Tryd.func31 fun w0 M0 F0 => ?_
 unfold i64ok at hroot_0
 refine Fb 32 0 fun _ => Fb 24 1 fun _ => Fb 24 2 fun _ => ?_
 have hx0 := lrn rr; have H := hrr; unfold layout_check at H
 refine KS ?_
 refine Oa (Ab [vl ga0 gk0 g.Nodes, vl ga1 gk1 g.Succ, vl ga2 gk2 g.Pred]) fun p4 => Oq Va (KS ?_)
 refine Oq (VldA sh42 0) ?_
 refine lvH H fun rv5 hg6 H => ?_
 have hc7 := fn38 g ga0 gk0 ga1 gk1 ga2 gk2 rv5 hg6
 refine Oc [1, 2, 3] ca38 hc7 ?_
 rintro - -
 refine Oq Vnot (Oq Va (KS ?_))
 refine pF H hx0 fun h8 H => ?_
 refine KcF h8 ?_
 have h10 := not_false h8
 refine KS ?_
 refine Oq Vm (Oq Vlss (Oq Vm ?_))
 refine pF H hx0 fun h12 H => ?_
 refine JsF 12 h12 ?_
 have g13 := df h12
 refine Oq Vm (Oq (Vfa fo42_0 0) (Oq (VldF sh39 0) (Oq (Vlen sl39) (Oq Vgeq (Oq Vpf (Oq Va (KS ?_)))))))
 refine pF H hx0 fun h14 H => ?_
 refine KcF h14 ?_
 have g15 := df h14
 refine KS ?_
 refine Oq Va (KS ?_)
 have hq := rI H; subst hq
 exact Kr () rfl (.tmp rfl .nil) [] en
theorem fn57 (x : BitVec 64) (y : BitVec 64) (rr : BitVec 64 × BitVec 64) (hrr : bits_Mul64 x y = .ret rr) : FT Tryd.prog 57 #[u64 x, u64 y] [] (fun g : Unit => True) (fun g => .tuple #[u64 rr.1, u64 rr.2]) (fun g => []) := by
 refine FTi Tryd.func57 fun w0 M0 F0 => ?_
 have hx0 := lrn rr; have H := hrr; unfold bits_Mul64 at H
 refine KS ?_
 refine Oq Va (Oq Va (KS ?_))
 refine Oq Vm (Oq (VandU (b := 4294967295#64)) (Oq Va (KS ?_)))
 refine Oq Vm (Oq VshrU (Oq Va (KS ?_)))
 refine Oq Vm (Oq (VandU (b := 4294967295#64)) (Oq Va (KS ?_)))
 refine Oq Vm (Oq VshrU (Oq Va (KS ?_)))
 refine Oq Vm (Oq Vm (Oq VmulU (Oq Va (KS ?_))))
 refine Oq Vm (Oq Vm (Oq VmulU (Oq Vm (Oq VshrU (Oq VaddU (Oq Va (KS ?_)))))))
 refine Oq Vm (Oq (VandU (b := 4294967295#64)) (Oq Va (KS ?_)))
 refine Oq Vm (Oq VshrU (Oq Va (KS ?_)))
 refine Oq Vm (Oq Vm (Oq Vm (Oq VmulU (Oq VaddU (Oq Va (KS ?_))))))
 refine Oq Vm (Oq Vm (Oq VmulU (Oq Vm (Oq VaddU (Oq Vm (Oq VshrU (Oq VaddU (Oq Va (KS ?_)))))))))
 refine Oq Vm (Oq Vm (Oq VmulU (Oq Va (KS ?_))))
 have hq := rI H; subst hq
 exact Kr () rfl (.tmp rfl (.tmp rfl .nil)) [] trivial
theorem fn45 (x : BitVec 64) (y : BitVec 64) (rr : BitVec 64 × BitVec 64) (hrr : bits_Mul x y = .ret rr) : FT Tryd.prog 45 #[u64 x, u64 y] [] (fun g : Unit => True) (fun g => .tuple #[u64 rr.1, u64 rr.2]) (fun g => []) := by
 refine FTi Tryd.func45 fun w0 M0 F0 => ?_
 have hx0 := lrn rr; have H := hrr; unfold bits_Mul at H
 refine KS ?_
 refine Oq Va (Oq Va (KS ?_))
 refine Kf (KS ?_)
 refine Oq Vm (Oq Vm ?_)
 refine lbH H hx0 fun rv1 hg2 H => ?_
 have hc3 := fn57 x y rv1 hg2
 refine Oc [] ca57 hc3 ?_
 rintro - -
 refine Oq Vm (Oq Vx (Oq Vx (Oq Va (Oq Va (KS ?_)))))
 refine Oq Vm (Oq Vm (Oq Va (Oq Va (KS ?_))))
 have hq := rI H; subst hq
 exact Kr () rfl (.tmp rfl (.tmp rfl .nil)) [] trivial
theorem fn32 (x : List Cpx) (xa0 : Option Addr) (xk0 : Nat) (count : Int) (hcount_0 : i64ok count) (rr : List Cpx) (hrr : sc_Repeat_complex128 x count = .ret rr) : FT Tryd.prog 32 #[vl xa0 xk0 x, vi count] [S xa0 xk0 x] (fun g : Value => True) (fun g => g) (fun g => [os g rr]) := by
 refine FTi Tryd.func32 fun w0 M0 F0 => ?_
 unfold i64ok at hcount_0
 refine Fb 16 0 fun _ => ?_
 have hx0 := lrn rr; have H := hrr; unfold sc_Repeat_complex128 at H
 refine KS ?_
 refine Oq Va (KS ?_)
 refine Oq Vm (Oq Vlss (KS ?_))
 refine pF H hx0 fun h2 H => ?_
 refine KcF h2 ?_
 have g3 := df h2
 refine KS ?_
 refine Oq Vm (Oq (Vlen sl30) (Oq (VcU un3 un68) (Oq Vm (Oq (VcU un3 un68) ?_))))
 refine lbH H hx0 fun rv4 hg5 H => ?_
 have hc6 := fn45 ((BitVec.ofInt 64 (x.length : Int))) ((BitVec.ofInt 64 count)) rv4 hg5
 refine Oc [] ca45 hc6 ?_
 rintro - -
 refine Oq Vm (Oq Vx (Oq Vx (Oq Va (Oq Va (KS ?_)))))
 refine Oq Vm (Oq (Vgtr (a := (rv4.1.toNat : Int)) (b := 0)) (Oq Vm ?_))
 refine pF H hx0 fun h7 H => ?_
 refine JsF 23 h7 ?_
 have g8 := df h7
 refine Oq Vm (Oq (Vgtr (a := (rv4.2.toNat : Int)) (b := 9223372036854775807)) (Oq Vpf (KS ?_)))
 refine pF H hx0 fun h9 H => ?_
 refine KcF h9 ?_
 have g10 := df h9
 refine KS ?_
 refine Oq Vm ?_
 refine pC H hx0 fun hc11 H => ?_
 refine Oq (VcN un68 un3) ?_
 refine pC H hx0 fun hc12 H => ?_
 refine Oa (Amk (α := Cpx) sl30 sz30 (default : Cpx) zrd_Cpx) fun c13 => ?_
 refine Jo 0 ?_; rintro a14 k15 rfl
 refine Fb 16 0 fun _ => ?_
 have hn17 := List.length_replicate (n := ((rv4.2.toNat : Int) : Int).toNat) (a := ((default : Cpx) : Cpx))
 refine Oq Va (KS ?_)
 refine Oq Vm (Oq Vm (Oa (OpA.frame [0, 0] rfl (OpA.copyS (α := Cpx) rfl rfl rfl sl30 rfl)) fun u18 => ?_))
 have hn19 : (x.take (List.replicate ((rv4.2.toNat : Int) : Int).toNat (default : Cpx)).length ++ (List.replicate ((rv4.2.toNat : Int) : Int).toNat (default : Cpx)).drop x.length).length = (List.replicate ((rv4.2.toNat : Int) : Int).toNat (default : Cpx)).length := len_copy _ _
 have hb20 : Nat.min x.length (List.replicate ((rv4.2.toNat : Int) : Int).toNat (default : Cpx)).length ≤ x.length := Nat.min_le_left _ _
 refine Oq Va (KS ?_)
 refine Fl 0 fun hn21 => ?_; (try unfold vl); rw [show Value.slice a14 ((List.replicate ((rv4.2.toNat : Int) : Int).toNat (default : Cpx)).length) k15 = Value.slice a14 (((x.take (List.replicate ((rv4.2.toNat : Int) : Int).toNat (default : Cpx)).length ++ (List.replicate ((rv4.2.toNat : Int) : Int).toNat (default : Cpx)).drop x.length) : List Cpx).length) k15 from by rw [hn21]]
 refine llH H hx0 fun X29 hX30 hx31 HL32 => ?_
 refine Kl (γ := Nat × List Cpx × Int × Option Addr × Nat) (fun (r22, newslice_23, n_24, a25, k26) => ⟨[(7, vl a25 k26 newslice_23), (8, vi n_24)], [O a25 k26 newslice_23], sc_Repeat_complex128_L0 r22 newslice_23 n_24 = X29 ∧ (-9223372036854775808 ≤ n_24 ∧ n_24 ≤ 9223372036854775807), r22⟩) (100000, (x.take (List.replicate ((rv4.2.toNat : Int) : Int).toNat (default : Cpx)).length ++ (List.replicate ((rv4.2.toNat : Int) : Int).toNat (default : Cpx)).drop x.length), (Nat.min x.length (List.replicate ((rv4.2.toNat : Int) : Int).toNat (default : Cpx)).length : Int), a14, k15) [0] ⟨hX30, aM1⟩ ?_
 rintro ⟨r22, newslice_23, n_24, a25, k26⟩ ⟨hM27, hk28⟩
 refine JJ_nx fun _ _ hL hA => ?_; dsimp only at hL hA; subst hL hA
 refine Fb 16 0 fun _ => ?_
 rcases r22 with _ | r22
 ·exact absurd (hM27.symm.trans rfl) hx31
 have H := hM27; (try dsimp only at H); rw [sc_Repeat_complex128_L0] at H
 refine KS ?_
 refine Oq Vm (Oq Vm (Oq (Vlen sl30) (Oq Vlss (KS ?_))))
 refine KcH H ?_ ?_
 ·intro h34 H
  have g35 := dt h34
  refine KS ?_
  refine JK_drawK [0, 0, 0, 6, 0, 0, 48, 126, 255, 511] fmix ?_
  refine Dv [] Vm (Dv [] Vm (Dv [] Vm ?_))
  refine pC H hx31 fun hc36 H => ?_
  refine Dv [0] (VslQ sl30 0 (n_24.toNat)) (Dv [] Vm (Dv [] Vm (Dv [0] (VslP sl30 0 (n_24.toNat)) ?_)))
  refine pC H hx31 fun hc37 H => ?_
  refine pC H hx31 fun hc38 H => ?_
  have hn40 := dbl_len newslice_23 (n_24.toNat) rng
  refine Dx [0] [0] [0] (fun G => vi ((min (n_24.toNat) (newslice_23.length - (n_24.toNat)) : Nat) : Int)) [fun G => os (vl a25 k26 newslice_23) (dbl newslice_23 (n_24.toNat))] (fun G => xA (Adbl [0] sl30 (n_24.toNat))) ?_
  refine pC H hx31 fun hc41 H => ?_
  refine Dv [] Vadd (Dv [] Va ?_)
  refine Dn ⟨by kernel_rfl, fun G => ?_⟩
  refine Jw2 [(7, vl a25 k26 newslice_23), (8, vi (n_24 + ((min (n_24.toNat) (newslice_23.length - (n_24.toNat)) : Nat) : Int)))] [] [os (vl a25 k26 newslice_23) (dbl newslice_23 (n_24.toNat))] ?_
  refine KS ?_
  refine Fl 0 fun hn42 => ?_; (try unfold vl); rw [show Value.slice a25 newslice_23.length k26 = Value.slice a25 ((dbl newslice_23 (n_24.toNat)).length) k26 from by rw [hn42]]
  exact Kg (r22, (dbl newslice_23 (n_24.toNat)), (n_24 + ((min (n_24.toNat) (newslice_23.length - (n_24.toNat)) : Nat) : Int)), a25, k26) [0] ⟨H, aM1⟩
 intro h34 H
 have g43 := df h34
 refine Ke ?_
 have H := llB H HL32
 refine KS ?_
 refine Oq Vm (Oq Va (KS ?_))
 have hq := rI H; subst hq
 exact Kr (vl a25 k26 newslice_23) rfl (.tmp rfl .nil) [0] trivial
theorem fn66 (data : List Int) (dataa0 : Option Addr) (datak0 : Nat) (a : Int) (b : Int) (cmpF : FuncId) (cmpC : List Value) (cmpp : Int → Int → LR Unit Int) (cmpA : List SP) (ha_0 : i64ok a) (hb_0 : i64ok b) (hcmpc : callable Tryd.prog cmpF = true) (hcmpF : ∀ x0 x1, i64ok x0 → i64ok x1 → ∀ r, (cmpp x0 x1) = .ret r → FT Tryd.prog cmpF ([vi x0, vi x1] ++ cmpC).toArray ([] ++ [pAll cmpA]) (fun _ : Unit => i64ok r) (fun _ => vi r) (fun _ => [])) (rr : List Int) (hrr : sc_insertionSortCmpFunc_int data a b cmpp = .ret rr) : FT Tryd.prog 66 #[vl dataa0 datak0 data, vi a, vi b, .func (.func cmpF) #[] cmpC.toArray] [O dataa0 datak0 data, pAll cmpA] (fun g : Unit => True) (fun g => .tuple #[]) (fun g => [os (vl dataa0 datak0 data) rr]) := by
 refine FTi Tryd.func66 fun w0 M0 F0 => ?_
 unfold i64ok at ha_0 hb_0
 refine Fb 8 0 fun _ => Fo 0 fun ho2 => ?_
 have hx0 := lrn rr; have H := hrr; unfold sc_insertionSortCmpFunc_int at H
 refine KS ?_
 refine Oq Vm ?_
 refine pC H hx0 fun hc3 H => ?_
 refine Oq Vadd (Oq Va (KS ?_))
 refine llH H hx0 fun X11 hX12 hx13 HL14 => ?_
 refine Kl (γ := Nat × Int) (fun (r4, i_5) => ⟨[(0, vl dataa0 datak0 data), (1, vi a), (2, vi b), (3, .func (.func cmpF) #[] cmpC.toArray), (8, vi i_5)], [O dataa0 datak0 data, pAll cmpA], sc_insertionSortCmpFunc_int_L0 data a cmpp r4 i_5 = X11 ∧ r4 = ((b : Int) - i_5).toNat ∧ ((a + 1) : Int) ≤ i_5 ∧ (i_5 ≤ b ∨ i_5 = (a + 1)) ∧ (-9223372036854775808 ≤ i_5 ∧ i_5 ≤ 9223372036854775807), r4⟩) (((b : Int) - (a + 1)).toNat, (a + 1)) [0, 0] ⟨hX12, rfl, aM1, (.inr rfl), aM1⟩ ?_
 rintro ⟨r4, i_5⟩ ⟨hM6, hr7, hi8, hi9, hk10⟩
 refine JJ_nx fun _ _ hL hA => ?_; dsimp only at hL hA; subst hL hA
 refine Fb 8 0 fun _ => Fo 0 fun ho16 => KS ?_
 refine Oq Vm (Oq Vm (Oq Vlss (KS ?_)))
 refine Kc ?_ ?_
 ·intro h17
  have g18 := dt h17
  obtain ⟨r19, rfl⟩ := scc (n := r4) aM1
  have H := hM6; (try dsimp only at H); rw [sc_insertionSortCmpFunc_int_L0] at H
  refine KS ?_
  refine Oq Vm (Oq Va (KS ?_))
  refine llH H hx13 fun X22 hX23 hx24 HL25 => ?_
  refine Kl (γ := Nat) (fun r20 => ⟨[(0, vl dataa0 datak0 data), (1, vi a), (2, vi b), (3, .func (.func cmpF) #[] cmpC.toArray), (8, vi i_5), (9, vi i_5)], [O dataa0 datak0 data, pAll cmpA], sc_insertionSortCmpFunc_int_L1 data a cmpp i_5 r20 = X22, r20⟩) 1 [0, 0] hX23 ?_
  rintro r20 hM21
  refine JJ_nx fun _ _ hL hA => ?_; dsimp only at hL hA; subst hL hA
  refine Fb 8 0 fun _ => Fo 0 fun ho27 => ?_
  rcases r20 with _ | r20
  ·exact absurd (hM21.symm.trans rfl) hx24
  have H := hM21; (try dsimp only at H); rw [sc_insertionSortCmpFunc_int_L1] at H
  refine KS ?_
  refine JK_drawK [0, 0, 3, 7, 15, 15, 15, 111, 239, 15, 15, 1039, 3599, 7695, 16383, 32767, 65535] fmix ?_
  refine Dv [] Vm (Dv [] Vm (Dv [] Vgtr ?_))
  refine pT H hx24 fun h28 H => ?_
  have g29 := dt h28
  refine Db h28 [] Vm (Dv [] Vm (Dv [] Vm (Dv [] Vm ?_)))
  refine pC H hx24 fun hc30 H => ?_
  refine Dv [0] (Vi sl22 0) ?_
  have hb31 := ok1 (i := i_5.toNat) ho27 rng
  refine Dv [0] (VldI sh3 0) (Dv [] Vm (Dv [] Vm ?_))
  refine pC H hx24 fun hc32 H => ?_
  refine Dv [] Vsub ?_
  refine pC H hx24 fun hc33 H => ?_
  refine Dv [0] (Vi sl22 0) ?_
  have hb34 := ok1 (i := ((i_5 - 1) : Int).toNat) ho27 rng
  refine Dv [0] (VldI sh3 0) ?_
  refine lbH H hx24 fun rv35 hg36 H => ?_
  refine Dx [1] [] [1, 0] (fun G => vi rv35) [fun G => SP.fact (i64ok rv35)] (fun G => xE (asv := [(vi (data.getD i_5.toNat 0) : Value), (vi (data.getD ((i_5 - 1) : Int).toNat 0) : Value)] ++ cmpC) [0] hcmpc rfl rfl rfl (by simp) rfl (hcmpF (data.getD i_5.toNat 0) (data.getD ((i_5 - 1) : Int).toNat 0)  pre pre rv35 hg36)) (Dv [] Vlss (Dv [] Vpt ?_))
  refine Dn ⟨by kernel_rfl, fun G => ?_⟩
  refine Jw2 [(0, vl dataa0 datak0 data), (1, vi a), (2, vi b), (3, .func (.func cmpF) #[] cmpC.toArray), (8, vi i_5), (9, vi i_5), (34, vb (decide (rv35 < 0)))] [0, 1] [SP.fact (i64ok rv35)] ?_
  refine Jf 2 rfl ?_; rintro he37
  unfold i64ok at he37
  refine Jk [0, 0] ?_
  refine pF H hx24 fun h38 H => ?_
  refine KcF h38 ?_
  have g39 := df h38
  refine Ke ?_
  have H := llB H HL25
  refine KS ?_
  refine Oq Vm (Oq Vadd (Oq Va (KS ?_)))
  refine pC H hx13 fun hc40 H => ?_
  exact Kg (r19, (i_5 + 1)) [0, 0] ⟨H, aM1, aM1, aM1, aM1⟩
 intro h17
 have g41 := df h17
 obtain rfl : r4 = 0 := by omega
 have H := hM6; (try dsimp only at H); rw [sc_insertionSortCmpFunc_int_L0] at H
 refine Ke ?_
 have H := llB H HL14
 have hq := rI H; subst hq
 exact Kz () rfl .nil [0] trivial
theorem fn58 (data : List Int) (dataa0 : Option Addr) (datak0 : Nat) (a : Int) (b : Int) (limit : Int) (cmpF : FuncId) (cmpC : List Value) (cmpp : Int → Int → LR Unit Int) (cmpA : List SP) (ha_0 : i64ok a) (hb_0 : i64ok b) (hlimit_0 : i64ok limit) (hcmpc : callable Tryd.prog cmpF = true) (hcmpF : ∀ x0 x1, i64ok x0 → i64ok x1 → ∀ r, (cmpp x0 x1) = .ret r → FT Tryd.prog cmpF ([vi x0, vi x1] ++ cmpC).toArray ([] ++ [pAll cmpA]) (fun _ : Unit => i64ok r) (fun _ => vi r) (fun _ => [])) (rr : List Int) (hrr : sc_pdqsortCmpFunc_int data a b limit cmpp = .ret rr) : FT Tryd.prog 58 #[vl dataa0 datak0 data, vi a, vi b, vi limit, .func (.func cmpF) #[] cmpC.toArray] [O dataa0 datak0 data, pAll cmpA] (fun g : Unit => True) (fun g => .tuple #[]) (fun g => [os (vl dataa0 datak0 data) rr]) := by
 refine FTi Tryd.func58 fun w0 M0 F0 => ?_
 unfold i64ok at ha_0 hb_0 hlimit_0
 refine Fb 8 0 fun _ => Fo 0 fun ho2 => ?_
 have hx0 := lrn rr; have H := hrr; unfold sc_pdqsortCmpFunc_int at H
 refine KS ?_
 refine Oq Va (KS ?_)
 refine Oq Va (KS ?_)
 refine llH H hx0 fun X5 hX6 hx7 HL8 => ?_
 refine Kl (γ := Nat) (fun r3 => ⟨[(0, vl dataa0 datak0 data), (1, vi a), (2, vi b), (3, vi limit), (4, .func (.func cmpF) #[] cmpC.toArray), (10, vb true), (11, vb true)], [O dataa0 datak0 data, pAll cmpA], sc_pdqsortCmpFunc_int_L0 data a b cmpp r3 = X5, r3⟩) 1 [0, 0] hX6 ?_
 rintro r3 hM4
 refine JJ_nx fun _ _ hL hA => ?_; dsimp only at hL hA; subst hL hA
 refine Fb 8 0 fun _ => Fo 0 fun ho10 => ?_
 rcases r3 with _ | r3
 ·exact absurd (hM4.symm.trans rfl) hx7
 have H := hM4; (try dsimp only at H); rw [sc_pdqsortCmpFunc_int_L0] at H
 refine KS ?_
 refine Oq Vm (Oq Vm ?_)
 refine pC H hx7 fun hc11 H => ?_
 refine Oq Vsub (Oq Va (KS ?_))
 refine Oq Vm (Oq Vleq (KS ?_))
 refine pT H hx7 fun h12 H => ?_
 refine KcT h12 ?_
 have g13 := dt h12
 refine KS ?_
 refine Oq Vm (Oq Vm (Oq Vm (Oq Vm ?_)))
 refine lbH H hx7 fun rv14 hg15 H => ?_
 have hc16 := fn66 data dataa0 datak0 a b cmpF cmpC cmpp cmpA pre pre hcmpc hcmpF rv14 hg15
 refine Oc [0, 0] ca66 hc16 ?_
 rintro - -
 refine Fb 8 0 fun _ => Fo 0 fun ho18 => KS ?_
 refine Fl 0 fun hn19 => ?_
 have H := llR H HL8
 have hq := rI H; subst hq
 exact Kr () rfl .nil [0] trivial
theorem fn75 (x : BitVec 64) (rr : Int) (hrr : bits_Len64 x = .ret rr) : FT Tryd.prog 75 #[u64 x] [] (fun g : Unit => i64ok rr) (fun g => vi rr) (fun g => []) := by
 refine FTi Tryd.func75 fun w0 M0 F0 => ?_
 have hx0 := lrn rr; have H := hrr; unfold bits_Len64 at H
 refine KS ?_
 refine Oq Va (KS ?_)
 refine Oq Vm (Oq (Vgeq (a := (x.toNat : Int)) (b := 4294967296)) (KS ?_))
 refine pF H hx0 fun h1 H => ?_
 refine KcF h1 ?_
 have g2 := df h1
 refine KS ?_
 refine Oq Vm (Oq (Vgeq (a := (x.toNat : Int)) (b := 65536)) (KS ?_))
 refine pF H hx0 fun h3 H => ?_
 refine KcF h3 ?_
 have g4 := df h3
 refine KS ?_
 refine Oq Vm (Oq (Vgeq (a := (x.toNat : Int)) (b := 256)) (KS ?_))
 refine pF H hx0 fun h5 H => ?_
 refine KcF h5 ?_
 have g6 := df h5
 refine KS ?_
 refine Oq Vm (Oq Vm (Oq (VcU8 un88 un5) ?_))
 refine pC H hx0 fun hc7 H => ?_
 refine Oq (Vix un9 (l := tab0)) ?_
 have hb8 := u8b (tab0.b.getD ((x.toNat : Int) : Int).toNat 0)
 refine Oq (VcK un5 un3) ?_
 refine pC H hx0 fun hc9 H => ?_
 refine Oq Vadd (Oq Va (KS ?_))
 have hq := rI H; subst hq
 exact Kr () rfl (.tmp rfl .nil) [] en
theorem fn59 (x : BitVec 64) (rr : Int) (hrr : bits_Len x = .ret rr) : FT Tryd.prog 59 #[u64 x] [] (fun g : Unit => i64ok rr) (fun g => vi rr) (fun g => []) := by
 refine FTi Tryd.func59 fun w0 M0 F0 => ?_
 have hx0 := lrn rr; have H := hrr; unfold bits_Len at H
 refine KS ?_
 refine Oq Va (KS ?_)
 refine Kf (KS ?_)
 refine Oq Vm ?_
 refine lbH H hx0 fun rv1 hg2 H => ?_
 have hc3 := fn75 x rv1 hg2
 refine Oc [] ca75 hc3 ?_
 rintro - he4
 unfold i64ok at he4
 refine Oq Va (KS ?_)
 have hq := rI H; subst hq
 exact Kr () rfl (.tmp rfl .nil) [] en
theorem fn46 (x : List Int) (xa0 : Option Addr) (xk0 : Nat) (cmpF : FuncId) (cmpC : List Value) (cmpp : Int → Int → LR Unit Int) (cmpA : List SP) (hcmpc : callable Tryd.prog cmpF = true) (hcmpF : ∀ x0 x1, i64ok x0 → i64ok x1 → ∀ r, (cmpp x0 x1) = .ret r → FT Tryd.prog cmpF ([vi x0, vi x1] ++ cmpC).toArray ([] ++ [pAll cmpA]) (fun _ : Unit => i64ok r) (fun _ => vi r) (fun _ => [])) (rr : List Int) (hrr : sc_SortFunc_int x cmpp = .ret rr) : FT Tryd.prog 46 #[vl xa0 xk0 x, .func (.func cmpF) #[] cmpC.toArray] [O xa0 xk0 x, pAll cmpA] (fun g : Unit => True) (fun g => .tuple #[]) (fun g => [os (vl xa0 xk0 x) rr]) := by
 refine FTi Tryd.func46 fun w0 M0 F0 => Fb 8 0 fun _ => Fo 0 fun ho2 => ?_
 have hx0 := lrn rr; have H := hrr; unfold sc_SortFunc_int at H
 refine KS ?_
 refine Oq Vm (Oq (Vlen sl22) (Oq Va (KS ?_)))
 refine Oq Vm (Oq Vm (Oq Vm (Oq (VcU un3 un68) ?_)))
 refine lbH H hx0 fun rv3 hg4 H => ?_
 have hc5 := fn59 ((BitVec.ofInt 64 (x.length : Int))) rv3 hg4
 refine Oc [] ca59 hc5 ?_
 rintro - he6
 unfold i64ok at he6
 refine Oq Vm ?_
 refine lbH H hx0 fun rv7 hg8 H => ?_
 have hc9 := fn58 x xa0 xk0 0 ((x.length : Int)) rv3 cmpF cmpC cmpp cmpA pre pre pre hcmpc hcmpF rv7 hg8
 refine Oc [0, 0] ca58 hc9 ?_
 rintro - -
 refine Fb 8 0 fun _ => Fo 0 fun ho11 => KS ?_
 refine Fl 0 fun hn12 => ?_
 have hq := rI H; subst hq
 exact Kz () rfl .nil [0] trivial
theorem fn48 (vals : List Int) (valsa0 : Option Addr) (valsk0 : Nat) (rr : Int) (hrr : cmp_Or_int vals = .ret rr) : FT Tryd.prog 48 #[vl valsa0 valsk0 vals] [S valsa0 valsk0 vals] (fun g : Unit => i64ok rr) (fun g => vi rr) (fun g => []) := by
 refine FTi Tryd.func48 fun w0 M0 F0 => Fb 8 0 fun _ => Fo 0 fun ho2 => ?_
 have hx0 := lrn rr; have H := hrr; unfold cmp_Or_int at H
 refine KS ?_
 refine Oq Va (KS ?_)
 refine Oq Va (KS ?_)
 refine Oq Vm (Oq (Vlen sl22) (Oq Vm (KS ?_)))
 refine llH H hx0 fun X10 hX11 hx12 HL13 => ?_
 refine Kl (γ := Nat × Int) (fun (r3, v8_4) => ⟨[(3, vi 0), (6, vl valsa0 valsk0 vals), (7, vi (vals.length : Int)), (8, vi v8_4)], [S valsa0 valsk0 vals], cmp_Or_int_L0 vals r3 v8_4 = X10 ∧ r3 = ((vals.length : Int) - v8_4).toNat ∧ (0 : Int) ≤ v8_4 ∧ v8_4 ≤ (vals.length : Int) ∧ (-9223372036854775808 ≤ v8_4 ∧ v8_4 ≤ 9223372036854775807), r3⟩) (((vals.length : Int) - 0).toNat, 0) [0] ⟨hX11, rfl, aM1, aM1, aM1⟩ ?_
 rintro ⟨r3, v8_4⟩ ⟨hM5, hr6, hi7, hi8, hk9⟩
 refine JJ_nx fun _ _ hL hA => ?_; dsimp only at hL hA; subst hL hA
 refine Fb 8 0 fun _ => Fo 0 fun ho15 => KS ?_
 refine Oq Vlss (KS ?_)
 refine Kc ?_ ?_
 ·intro h16
  have g17 := dt h16
  obtain ⟨r18, rfl⟩ := scc (n := r3) aM1
  have H := hM5; (try dsimp only at H); rw [cmp_Or_int_L0] at H
  refine KS ?_
  refine pC H hx12 fun hc19 H => ?_
  refine Oq (Vi sl22 0) ?_
  have hb20 := ok1 (i := v8_4.toNat) ho15 rng
  refine Oq (VldI sh3 0) (Oq Va (KS ?_))
  refine Oq Vm (Oq Vm (Oq Vneq (KS ?_)))
  refine KcH H ?_ ?_
  ·intro h21 H
   have g22 := ne_of_bne h21
   refine KS ?_
   refine Oq Vm (Oq Va (KS ?_))
   have H := llR H HL13
   have hq := rI H; subst hq
   exact Kr () rfl (.tmp rfl .nil) [] en
  intro h21 H
  have g23 := eq_of_bne_false h21
  refine KS ?_
  refine Oq Vadd (Oq Vm (KS ?_))
  refine pC H hx12 fun hc24 H => ?_
  exact Kg (r18, (v8_4 + 1)) [0] ⟨H, aM1, aM1, aM1, aM1⟩
 intro h16
 have g25 := df h16
 obtain rfl : r3 = 0 := by omega
 have H := hM5; (try dsimp only at H); rw [cmp_Or_int_L0] at H
 exact absurd H.symm hx12
theorem fn60 (x : Int) (hx_0 : i64ok x) (rr : Bool) (hrr : cmp_isNaN_int x = .ret rr) : FT Tryd.prog 60 #[vi x] [] (fun g : Unit => True) (fun g => vb rr) (fun g => []) := by
 refine FTi Tryd.func60 fun w0 M0 F0 => ?_
 unfold i64ok at hx_0
 have hx0 := lrn rr; have H := hrr; unfold cmp_isNaN_int at H
 refine KS ?_
 refine Oq Va (KS ?_)
 refine Oq Vm (Oq Vm (Oq Vneq (Oq Va (KS ?_))))
 have hq := rI H; subst hq
 exact Kr () rfl (.tmp rfl .nil) [] trivial
theorem fn49 (x : Int) (y : Int) (hx_0 : i64ok x) (hy_0 : i64ok y) (rr : Int) (hrr : cmp_Compare_int x y = .ret rr) : FT Tryd.prog 49 #[vi x, vi y] [] (fun g : Unit => i64ok rr) (fun g => vi rr) (fun g => []) := by
 refine FTi Tryd.func49 fun w0 M0 F0 => ?_
 unfold i64ok at hx_0 hy_0
 have hx0 := lrn rr; have H := hrr; unfold cmp_Compare_int at H
 refine KS ?_
 refine Oq Va (KS ?_)
 refine Oq Vm ?_
 refine lbH H hx0 fun rv1 hg2 H => ?_
 have hc3 := fn60 x pre rv1 hg2
 refine Oc [] ca60 hc3 ?_
 rintro - -
 refine Oq Va (KS ?_)
 refine Oq Vm ?_
 refine lbH H hx0 fun rv4 hg5 H => ?_
 have hc6 := fn60 y pre rv4 hg5
 refine Oc [] ca60 hc6 ?_
 rintro - -
 refine Oq Va (KS ?_)
 refine Oq Vm (KS ?_)
 refine pF H hx0 fun h7 H => ?_
 refine KcF h7 ?_
 refine KS ?_
 refine Oq Vm (KS ?_)
 refine pF H hx0 fun h9 H => ?_
 refine KcF h9 ?_
 refine KS ?_
 refine Oq Vm (Oq Vm (Oq Vlss (KS ?_)))
 refine pF H hx0 fun h11 H => ?_
 refine KcF h11 ?_
 have g12 := df h11
 refine KS ?_
 refine Oq Vm (Oq Vm (Oq Vgtr (KS ?_)))
 refine KcH H ?_ ?_
 ·intro h13 H
  have g14 := dt h13
  refine KS ?_
  refine Oq Va (KS ?_)
  have hq := rI H; subst hq
  exact Kr () rfl (.tmp rfl .nil) [] en
 intro h13 H
 have g15 := df h13
 refine KS ?_
 refine Oq Va (KS ?_)
 have hq := rI H; subst hq
 exact Kr () rfl (.tmp rfl .nil) [] en
theorem fn47 (a : Int) (b : Int) (cap0P : Value) (cap0 : List Int) (cap0a0 : Option Addr) (cap0k0 : Nat) (ha_0 : i64ok a) (hb_0 : i64ok b) (rr : Int) (hrr : layout_rows_1 a b cap0 = .ret rr) : FT Tryd.prog 47 #[vi a, vi b, cap0P] [pv cap0P [vl cap0a0 cap0k0 cap0], S cap0a0 cap0k0 cap0] (fun g : Unit => i64ok rr) (fun g => vi rr) (fun g => []) := by
 refine FTi Tryd.func47 fun w0 M0 F0 => ?_
 unfold i64ok at ha_0 hb_0
 refine Fb 8 1 fun _ => Fo 1 fun ho2 => ?_
 have hx0 := lrn rr; have H := hrr; unfold layout_rows_1 at H
 refine KS ?_
 refine Oq Va (KS ?_)
 refine JK_drawK [0, 0, 3, 7, 0, 0, 48, 112, 255, 0, 0, 2047, 4095, 8191, 16383] fmix ?_
 refine Dv [0] (Vld sh22 0) (Dv [] Vm ?_)
 refine pC H hx0 fun hc3 H => ?_
 refine Dv [1] (Vi sl22 0) ?_
 have hb4 := ok1 (i := a.toNat) ho2 rng
 refine Dv [1] (VldI sh3 0) (Dv [0] (Vld sh22 0) (Dv [] Vm ?_))
 refine pC H hx0 fun hc5 H => ?_
 refine Dv [1] (Vi sl22 0) ?_
 have hb6 := ok1 (i := b.toNat) ho2 rng
 refine Dv [1] (VldI sh3 0) ?_
 refine lbH H hx0 fun rv7 hg8 H => ?_
 refine Dx [] [] [0] (fun G => vi rv7) [fun G => SP.fact (i64ok rv7)] (fun G => xC [] ca49 (fn49 ((cap0.getD a.toNat 0)) ((cap0.getD b.toNat 0)) pre pre rv7 hg8)) (Dv [] Vm (Dv [] Vm ?_))
 refine lbH H hx0 fun rv9 hg10 H => ?_
 refine Dx [] [] [0] (fun G => vi rv9) [fun G => SP.fact (i64ok rv9)] (fun G => xC [] ca49 (fn49 a b pre pre rv9 hg10)) (Dx [] [] [0] (fun G => (G.g 12 0)) [fun G => Cr (G.g 12 0) 2 [vi rv7, vi rv9]] (fun G => xA (AsV sl22 sz22 [vi rv7, vi rv9] [vi rv7, vi rv9])) ?_)
 refine lbH H hx0 fun rv15 hg16 H => ?_
 refine Dx [2, 3, 4] [4] [2, 3, 1, 0] (fun G => vi rv15) [fun G => sl (G.g 12 0) ([rv7, rv9] : List Int), fun G => SP.fact (i64ok rv15)] (fun G => by refine xf 0 rfl ?_; rintro he17; unfold i64ok at he17; refine xf 1 rfl ?_; rintro he18; unfold i64ok at he18; exact xp [2] rfl (Ent.crInt _ [rv7, rv9] _ _ rfl rfl (by intro x hx; simp only [List.mem_cons, List.not_mem_nil, or_false] at hx; rcases hx with rfl | rfl <;> (unfold i64ok; omega)) aB1) (xp [0] rfl (Ent.freeze _ _) (xD [0] ca48 rfl rfl rfl (FT_open (γ := Unit) (I := fun g => i64ok rv15) (V := fun g => vi rv15) (B := fun g => []) (R := sl (G.g 12 0) ([rv7, rv9] : List Int)) sl_slice (fun aq12 kq13 eq14 => by rw [eq14]; exact FT_ent (Ent.take (is := [0]) rfl) (fn48 ([rv7, rv9]) aq12 kq13 rv15 hg16)))))) (Dv [] Va ?_)
 refine Dn ⟨by kernel_rfl, fun G => ?_⟩
 refine Jw2 [(5, vi rv15)] [0, 1] [SP.fact (i64ok rv7), SP.fact (i64ok rv9), sl (G.g 12 0) ([rv7, rv9] : List Int), SP.fact (i64ok rv15)] ?_
 generalize G.g 12 0 = c11
 refine Jf 2 rfl ?_; rintro he19
 unfold i64ok at he19
 refine Jf 3 rfl ?_; rintro he20
 unfold i64ok at he20
 refine Jf 5 rfl ?_; rintro he21
 unfold i64ok at he21
 refine Jk [0, 1, 4] ?_
 refine Jo 2 ?_; rintro a22 k23 rfl
 refine Fb 8 2 fun _ => Fo 2 fun ho25 => ?_
 have hq := rI H; subst hq
 exact Kr () rfl (.tmp rfl .nil) [] en
theorem fn33 (g : GGraph) (ga0 : Option Addr) (gk0 : Nat) (ga1 : Option Addr) (gk1 : Nat) (ga2 : Option Addr) (gk2 : Nat) (root : Int) (hroot_0 : i64ok root) (rr : List (List Int)) (hrr : layout_rows g root = .ret rr) : FT Tryd.prog 33 #[.agg #[vl ga0 gk0 g.Nodes, vl ga1 gk1 g.Succ, vl ga2 gk2 g.Pred], vi root] [S ga0 gk0 g.Nodes, S ga1 gk1 g.Succ, S ga2 gk2 g.Pred] (fun g : Value => True) (fun g => g) (fun g => [sl g rr]) := by
 refine FTi Tryd.func33 fun w0 M0 F0 => ?_
 unfold i64ok at hroot_0
 refine Fb 32 0 fun _ => Fb 24 1 fun _ => Fb 24 2 fun _ => ?_
 have hx0 := lrn rr; have H := hrr; unfold layout_rows at H
 refine KS ?_
 refine Oa (Ab [vl ga0 gk0 g.Nodes, vl ga1 gk1 g.Succ, vl ga2 gk2 g.Pred]) fun p4 => Oq Va (KS ?_)
 refine Oq (Vfa fo42_0 0) (Oq (VldF sh39 0) (Oq (Vlen sl39) ?_))
 refine pC H hx0 fun hc5 H => ?_
 refine Oa (Amk (α := Int) sl22 sz22 (0 : Int) (fun _ _ => ⟨rfl, by unfold i64ok; decide⟩)) fun c6 => ?_
 refine Jo 0 ?_; rintro a7 k8 rfl
 refine Fb 8 0 fun _ => Fo 0 fun ho10 => ?_
 have hn11 := List.length_replicate (n := (g.Nodes.length : Int).toNat) (a := ((0 : Int) : Int))
 refine Oa (Al ze22 [.slice none 0 0]) fun p12 => Ost (Scl [0] sh22 [vl a7 k8 (List.replicate (g.Nodes.length : Int).toNat (0 : Int))]) (KS ?_)
 refine Oq (Vfa fo42_0 2) (Oq (VldF sh39 2) (Oq (Vlen sl39) ?_))
 refine pC H hx0 fun hc13 H => ?_
 refine Oa (Amk (α := Bool) sl94 sz94 false (fun _ _ => rfl)) fun c14 => ?_
 refine Jo 0 ?_; rintro a15 k16 rfl
 refine Fb 1 0 fun _ => ?_
 have hn18 := List.length_replicate (n := (g.Nodes.length : Int).toNat) (a := (false : Bool))
 refine Oq Va (KS ?_)
 refine Oq Vm (Oq Vm ?_)
 refine pC H hx0 fun hc19 H => ?_
 refine Oq (Vi sl94 0) (Ost (SoB [0] sh4) (KS ?_))
 refine Oq Va (KS ?_)
 refine Oq Vm (Oa (AsV sl22 sz22 [vi root] [vi root]) fun c20 => ?_)
 refine Jo 0 ?_; rintro a21 k22 rfl
 refine Oq Va (KS ?_)
 refine Jl [0] (Ent.crInt _ [root] _ _ rfl rfl (by intro x hx; rw [List.mem_singleton] at hx; subst hx; unfold i64ok; omega) aB1) ?_
 refine Fb 8 0 fun _ => Fo 0 fun ho24 => ?_
 refine Jl [2] (Ent.freezeCl _ _) ?_
 refine Jl [] (Ent.osNil (α := (List Int))) ?_
 refine llH H hx0 fun X37 hX38 hx39 HL40 => ?_
 refine Kl (γ := Nat × List Int × List Bool × List (List Int) × List Int × Option Addr × Nat × Option Addr × Nat × Option Addr × Nat) (fun (r25, place0_26, seen_27, l_28, row_29, a30, k31, a32, k33, a34, k35) => ⟨[(2, p4), (5, p12), (6, vl a15 k16 (List.replicate (g.Nodes.length : Int).toNat false)), (7, vl a32 k33 l_28), (8, vl a34 k35 row_29)], [O a34 k35 row_29, O a32 k33 l_28, O a30 k31 place0_26, pv p12 [vl a30 k31 place0_26], os (vl a15 k16 (List.replicate (g.Nodes.length : Int).toNat false)) seen_27, pv p4 [vl ga0 gk0 g.Nodes, vl ga1 gk1 g.Succ, vl ga2 gk2 g.Pred], S ga0 gk0 g.Nodes, S ga1 gk1 g.Succ, S ga2 gk2 g.Pred], layout_rows_L0 g r25 place0_26 seen_27 l_28 row_29 = X37, r25⟩) (100000, (List.replicate (g.Nodes.length : Int).toNat (0 : Int)), ((List.replicate (g.Nodes.length : Int).toNat false).set root.toNat true), [], [root], a7, k8, none, 0, a21, k22) [2, 0, 2, 0, 1, 1, 2, 3, 4] hX38 ?_
 rintro ⟨r25, place0_26, seen_27, l_28, row_29, a30, k31, a32, k33, a34, k35⟩ hM36
 refine JJ_nx fun _ _ hL hA => ?_; dsimp only at hL hA; subst hL hA
 refine Fb 8 0 fun _ => Fo 0 fun ho42 => Fb 24 1 fun _ => Fb 8 2 fun _ => Fo 2 fun ho45 => Fb 1 4 fun _ => Fl 4 fun hn47 => ?_
 refine Fb 32 6 fun _ => Fb 24 7 fun _ => Fb 24 8 fun _ => ?_
 rcases r25 with _ | r25
 ·exact absurd (hM36.symm.trans rfl) hx39
 have H := hM36; (try dsimp only at H); rw [layout_rows_L0] at H
 refine KS ?_
 refine Oq Vm (Oq (Vlen sl22) (Oq Vgtr (KS ?_)))
 refine KcH H ?_ ?_
 ·intro h51 H
  have g52 := dt h51
  refine KS ?_
  refine Oq Vm (Oq Vm (Oa (AsV sl40 sz40 [vl a34 k35 row_29] [vl a34 k35 row_29]) fun c53 => ?_))
  refine Jo 0 ?_; rintro a54 k55 rfl
  refine Jl [1] (Ent.freeze _ _) ?_
  refine Jl [1, 0] (Ent.cr1 (α := List Int) (A := [S a34 k35 row_29]) _ row_29 _ aB1 (fun h => ⟨_, rfl, sepAll_get (i := 0) rfl h⟩)) ?_
  refine pC H hx39 fun hc56 H => ?_
  refine Oa (ApO [3, 0] sl40 sl40 sz40) fun c57 => ?_
  refine Jo 0 ?_; rintro a58 k59 rfl
  refine Fb 24 0 fun _ => ?_
  have hn61 := la l_28 ([row_29] : List (List Int))
  refine Oq Va (KS ?_)
  refine Oq Va (KS ?_)
  refine Oq Vm (Oq (Vlen sl22) (Oq Vm (KS ?_)))
  refine Jl [] (Ent.osNil (α := Int)) ?_
  refine llH H hx39 fun X74 hX75 hx76 HL77 => ?_
  refine Kl (γ := Nat × List Int × List Bool × List Int × Int × Option Addr × Nat) (fun (r62, place0_63, seen_64, next_65, v36_66, a67, k68) => ⟨[(2, p4), (5, p12), (6, vl a15 k16 (List.replicate (g.Nodes.length : Int).toNat false)), (7, vl a58 k59 (l_28 ++ [row_29])), (9, vl a67 k68 next_65), (34, vl a34 k35 row_29), (35, vi (row_29.length : Int)), (36, vi v36_66)], [O a67 k68 next_65, O a58 k59 ((l_28 ++ [row_29]) : List (List Int)), S a34 k35 row_29, os (vl a30 k31 place0_26) place0_63, pv p12 [vl a30 k31 place0_26], os (vl a15 k16 (List.replicate (g.Nodes.length : Int).toNat false)) seen_64, pv p4 [vl ga0 gk0 g.Nodes, vl ga1 gk1 g.Succ, vl ga2 gk2 g.Pred], S ga0 gk0 g.Nodes, S ga1 gk1 g.Succ, S ga2 gk2 g.Pred], layout_rows_L1 g row_29 r62 place0_63 seen_64 next_65 v36_66 = X74 ∧ r62 = ((row_29.length : Int) - v36_66).toNat ∧ (0 : Int) ≤ v36_66 ∧ v36_66 ≤ (row_29.length : Int) ∧ (-9223372036854775808 ≤ v36_66 ∧ v36_66 ≤ 9223372036854775807), r62⟩) (((row_29.length : Int) - 0).toNat, place0_26, seen_27, [], 0, none, 0) [0, 0, 0, 2, 2, 3, 3, 4, 5, 6] ⟨hX75, rfl, aM1, aM1, aM1⟩ ?_
  rintro ⟨r62, place0_63, seen_64, next_65, v36_66, a67, k68⟩ ⟨hM69, hr70, hi71, hi72, hk73⟩
  refine JJ_nx fun _ _ hL hA => ?_; dsimp only at hL hA; subst hL hA
  refine Fb 8 0 fun _ => Fo 0 fun ho79 => Fb 24 1 fun _ => Fb 8 2 fun _ => Fo 2 fun ho82 => Fb 8 3 fun _ => Fo 3 fun ho84 => Fl 3 fun hn85 => ?_
  refine Fb 1 5 fun _ => Fl 5 fun hn87 => ?_
  refine Fb 32 7 fun _ => Fb 24 8 fun _ => Fb 24 9 fun _ => KS ?_
  refine Oq Vlss (KS ?_)
  refine Kc ?_ ?_
  ·intro h91
   have g92 := dt h91
   obtain ⟨r93, rfl⟩ := scc (n := r62) aM1
   have H := hM69; (try dsimp only at H); rw [layout_rows_L1] at H
   refine KS ?_
   refine Oq Vm ?_
   refine pC H hx76 fun hc94 H => ?_
   refine Oq (Vi sl22 2) ?_
   have hb95 := ok1 (i := v36_66.toNat) ho82 rng
   refine Oq (VldI sh3 2) (Oq Va (Oq Va (KS ?_)))
   refine Oq (Vfa fo42_1 6) (Oq (VldF sh40 6) (Oq Vm ?_))
   refine pC H hx76 fun hc96 H => ?_
   refine Oq (Vi sl40 8) ?_
   refine JJ_peekL ((row_29.getD v36_66.toNat 0) : Int).toNat 8 rfl rng fun a97 k98 => ?_
   refine Fb 8 1 fun _ => Fo 1 fun ho100 => ?_
   refine Oq (Vld sh22 0) (Oq (Vlen sl22) (Oq Vm (KS ?_)))
   refine pC H hx76 fun hc113 H => ?_
   refine llH H hx76 fun X114 hX115 hx116 HL117 => ?_
   refine Kl (γ := Nat × List Int × List Bool × List Int × Int × Option Addr × Nat) (fun (r101, place0_102, seen_103, next_104, v47_105, a106, k107) => ⟨[(2, p4), (5, p12), (6, vl a15 k16 (List.replicate (g.Nodes.length : Int).toNat false)), (7, vl a58 k59 (l_28 ++ [row_29])), (9, vl a106 k107 next_104), (34, vl a34 k35 row_29), (35, vi (row_29.length : Int)), (36, vi v36_66), (10, vi v36_66), (45, vl a97 k98 (g.Succ.getD ((row_29.getD v36_66.toNat 0) : Int).toNat [])), (46, vi ((g.Succ.getD ((row_29.getD v36_66.toNat 0) : Int).toNat []).length : Int)), (47, vi v47_105)], [O a106 k107 next_104, S a97 k98 ((g.Succ.getD ((row_29.getD v36_66.toNat 0) : Int).toNat []) : List Int), O a58 k59 ((l_28 ++ [row_29]) : List (List Int)), S a34 k35 row_29, os (vl a30 k31 place0_26) place0_102, pv p12 [vl a30 k31 place0_26], os (vl a15 k16 (List.replicate (g.Nodes.length : Int).toNat false)) seen_103, pv p4 [vl ga0 gk0 g.Nodes, vl ga1 gk1 g.Succ, vl ga2 gk2 g.Pred], S ga0 gk0 g.Nodes, S ga1 gk1 g.Succ, S ga2 gk2 g.Pred], layout_rows_L2 v36_66 (g.Succ.getD ((row_29.getD v36_66.toNat 0) : Int).toNat []) r101 place0_102 seen_103 next_104 v47_105 = X114 ∧ r101 = ((((g.Succ.getD ((row_29.getD v36_66.toNat 0) : Int).toNat []).length : Int) : Int) - v47_105).toNat ∧ (0 : Int) ≤ v47_105 ∧ (v47_105 ≤ ((g.Succ.getD ((row_29.getD v36_66.toNat 0) : Int).toNat []).length : Int) ∨ v47_105 = 0) ∧ (-9223372036854775808 ≤ v47_105 ∧ v47_105 ≤ 9223372036854775807), r101⟩) (((((g.Succ.getD ((row_29.getD v36_66.toNat 0) : Int).toNat []).length : Int) : Int) - 0).toNat, place0_63, seen_64, next_65, 0, a67, k68) [2, 1, 2, 2, 3, 3, 4, 4, 5, 6, 7] ⟨hX115, rfl, aM1, (.inr rfl), aM1⟩ ?_
   rintro ⟨r101, place0_102, seen_103, next_104, v47_105, a106, k107⟩ ⟨hM108, hr109, hi110, hi111, hk112⟩
   refine JJ_nx fun _ _ hL hA => ?_; dsimp only at hL hA; subst hL hA
   refine Fb 8 0 fun _ => Fo 0 fun ho119 => Fb 8 1 fun _ => Fo 1 fun ho121 => Fb 24 2 fun _ => Fb 8 3 fun _ => Fo 3 fun ho124 => Fb 8 4 fun _ => ?_
   refine Fo 4 fun ho126 => ?_
   refine Fl 4 fun hn127 => Fb 1 6 fun _ => ?_
   refine Fl 6 fun hn129 => Fb 32 8 fun _ => Fb 24 9 fun _ => Fb 24 10 fun _ => ?_
   refine KS ?_
   refine Oq Vlss (KS ?_)
   refine Kc ?_ ?_
   ·intro h133
    have g134 := dt h133
    obtain ⟨r135, rfl⟩ := scc (n := r101) aM1
    have H := hM108; (try dsimp only at H); rw [layout_rows_L2] at H
    refine KS ?_
    refine pC H hx116 fun hc136 H => ?_
    refine Oq (Vi sl22 1) ?_
    have hb137 := ok1 (i := v47_105.toNat) ho121 rng
    refine Oq (VldI sh3 1) (Oq Va (KS ?_))
    refine Oq Vm (Oq Vm ?_)
    refine pC H hx116 fun hc138 H => ?_
    refine Oq (Vi sl94 6) (Oq (VldB sh4 6) (Oq Vnot (KS ?_)))
    refine KcH H ?_ ?_
    ·intro h139 H
     have h141 := not_true h139
     refine KS ?_
     refine Oq Vm (Oq Vm (Oq (Vi sl94 6) (Ost (SoB [6] sh4) (KS ?_))))
     refine Oq (Vld sh22 6) (Oq Vm (Oq Vm ?_))
     refine pC H hx116 fun hc143 H => ?_
     refine pC H hx116 fun hc144 H => ?_
     refine Oq (Vi sl22 5) (Ost (SoI [5] sh3) (KS ?_))
     refine Oq Vm (Oq Vm (Oa (AsV sl22 sz22 [vi ((g.Succ.getD ((row_29.getD v36_66.toNat 0) : Int).toNat []).getD v47_105.toNat 0)] [vi ((g.Succ.getD ((row_29.getD v36_66.toNat 0) : Int).toNat []).getD v47_105.toNat 0)]) fun c145 => ?_))
     refine Jo 0 ?_; rintro a146 k147 rfl
     refine Jl [0] (Ent.crInt _ [((g.Succ.getD ((row_29.getD v36_66.toNat 0) : Int).toNat []).getD v47_105.toNat 0)] _ _ rfl rfl (by intro x hx; rw [List.mem_singleton] at hx; subst hx; unfold i64ok; omega) aB1) ?_
     refine pC H hx116 fun hc148 H => ?_
     refine Oa (ApO [3, 0] sl22 sl22 sz22) fun c149 => ?_
     refine Jo 0 ?_; rintro a150 k151 rfl
     refine Fb 8 0 fun _ => Fo 0 fun ho153 => ?_
     have hn154 := la next_104 ([((g.Succ.getD ((row_29.getD v36_66.toNat 0) : Int).toNat []).getD v47_105.toNat 0)] : List Int)
     refine Oq Va (KS ?_)
     refine Oq Vadd (Oq Vm (KS ?_))
     refine pC H hx116 fun hc155 H => ?_
     exact Kg (r135, (place0_102.set (((g.Succ.getD ((row_29.getD v36_66.toNat 0) : Int).toNat []).getD v47_105.toNat 0) : Int).toNat v36_66), (seen_103.set (((g.Succ.getD ((row_29.getD v36_66.toNat 0) : Int).toNat []).getD v47_105.toNat 0) : Int).toNat true), (next_104 ++ [((g.Succ.getD ((row_29.getD v36_66.toNat 0) : Int).toNat []).getD v47_105.toNat 0)]), (v47_105 + 1), a150, k151) [0, 2, 3, 3, 0, 3, 0, 3, 4, 5, 6] ⟨H, aM1, aM1, aM1, aM1⟩
    intro h139 H
    have h157 := not_false h139
    refine KS ?_
    refine Oq Vadd (Oq Vm (KS ?_))
    refine pC H hx116 fun hc159 H => ?_
    exact Kg (r135, place0_102, seen_103, next_104, (v47_105 + 1), a106, k107) [0, 0, 1, 1, 2, 2, 3, 3, 4, 5, 6] ⟨H, aM1, aM1, aM1, aM1⟩
   intro h133
   have g160 := df h133
   obtain rfl : r101 = 0 := by omega
   have H := hM108; (try dsimp only at H); rw [layout_rows_L2] at H
   refine Ke ?_
   have H := llB H HL117
   dsimp only at H
   refine KS ?_
   refine Oq Vadd (Oq Vm (KS ?_))
   refine pC H hx76 fun hc161 H => ?_
   exact Kg (r93, place0_102, seen_103, next_104, (v36_66 + 1), a106, k107) [0, 1, 1, 2, 2, 3, 3, 4, 5, 6] ⟨H, aM1, aM1, aM1, aM1⟩
  intro h91
  have g162 := df h91
  obtain rfl : r62 = 0 := by omega
  have H := hM69; (try dsimp only at H); rw [layout_rows_L1] at H
  refine Ke ?_
  have H := llB H HL77
  dsimp only at H
  refine KS ?_
  refine Oq Vm (Oq (Vf [p12]) ?_)
  refine Fl 3 fun hn163 => ?_; (try unfold vl); rw [← hn163]
  refine lbH H hx39 fun rv164 hg165 H => ?_
  refine Oc [3, 0, 2] ca46 (FT_borrow (A := _) hlx (FT_ent (Ent.take (is := [1, 1, 0]) rfl) (FT_ent (Ent.trans (Ent.pall (A := [O a67 k68 next_65, pv p12 [vl a30 k31 place0_63], S a30 k31 place0_63]) (Ac := [pv p12 [vl a30 k31 place0_63], S a30 k31 place0_63]) [1, 2] rfl rfl) (Ent.take (is := [1, 0]) rfl)) (fn46 next_65 a67 k68 47 [p12] (fun x0 x1 => layout_rows_1 x0 x1 place0_63) [pv p12 [vl a30 k31 place0_63], S a30 k31 place0_63] ca47 (fun x0 x1 hq0 hq1 r hr => FT_pall (A1 := []) (fn47 x0 x1 p12 place0_63 a30 k31 hq0 hq1 r hr)) rv164 hg165)))) ?_ (ht := rfl)
  rintro - -
  refine Fb 8 1 fun _ => Fo 1 fun ho167 => KS ?_
  refine Oq Vm (Oq Va (KS ?_))
  refine Fl 1 fun hn168 => ?_; (try unfold vl); rw [← hn168]
  exact Kg (r25, place0_63, seen_64, (l_28 ++ [row_29]), rv164, a30, k31, a58, k59, a67, k68) [1, 1, 0, 1, 2, 2, 3, 4, 5] H
 intro h51 H
 have g169 := df h51
 refine Ke ?_
 have H := llB H HL40
 refine KS ?_
 refine Oq Vm (Oq Va (KS ?_))
 refine Jl [1] (Ent.freeze _ _) ?_
 have hq := rI H; subst hq
 exact Kr (vl a32 k33 l_28) rfl (.tmp rfl .nil) [0] trivial
theorem fn20 (g : GGraph) (ga0 : Option Addr) (gk0 : Nat) (ga1 : Option Addr) (gk1 : Nat) (ga2 : Option Addr) (gk2 : Nat) (root : Int) (hroot_0 : i64ok root) (rr : List Cpx × Int) (hrr : layout_Place g root = .ret rr) : FT Tryd.prog 20 #[.agg #[vl ga0 gk0 g.Nodes, vl ga1 gk1 g.Succ, vl ga2 gk2 g.Pred], vi root] [S ga0 gk0 g.Nodes, S ga1 gk1 g.Succ, S ga2 gk2 g.Pred] (fun g : Value => i64ok rr.2) (fun g => .tuple #[g, vi rr.2]) (fun g => [sl g rr.1]) := by
 refine FTi Tryd.func20 fun w0 M0 F0 => ?_
 unfold i64ok at hroot_0
 refine Fb 32 0 fun _ => Fb 24 1 fun _ => Fb 24 2 fun _ => ?_
 have hx0 := lrn rr; have H := hrr; unfold layout_Place at H
 refine KS ?_
 refine Oa (Ab [vl ga0 gk0 g.Nodes, vl ga1 gk1 g.Succ, vl ga2 gk2 g.Pred]) fun p4 => Oq Va (Oq Va (KS ?_))
 refine Oq (VldA sh42 0) (Oq Vm ?_)
 refine lbH H hx0 fun rv5 hg6 H => ?_
 have hc7 := fn31 g ga0 gk0 ga1 gk1 ga2 gk2 root pre rv5 hg6
 refine Oc [1, 2, 3] ca31 hc7 ?_
 rintro - he8
 unfold i64ok at he8
 refine Oq Va (KS ?_)
 refine Oq Vm (Oq Vneq (KS ?_))
 refine pF H hx0 fun h9 H => ?_
 refine KcF h9 ?_
 have g10 := eq_of_bne_false h9
 refine KS ?_
 refine Oa (AsV sl30 sz30 [cxv (Cpx.mk 13830554455654793216#64 0#64)] [cxv (Cpx.mk 13830554455654793216#64 0#64)]) fun c11 => ?_
 refine Jo 0 ?_; rintro a12 k13 rfl
 refine Oq (Vfa fo42_0 1) (Oq (VldF sh39 1) (Oq (Vlen sl39) ?_))
 refine Jl [0] (Ent.cr1 (α := Cpx) (A := []) _ (Cpx.mk 13830554455654793216#64 0#64) _ aB1 (fun _ => rfl)) ?_
 refine Jl [0] (Ent.freeze _ _) ?_
 refine lbH H hx0 fun rv15 hg16 H => ?_
 have hc17 := fn32 ([(Cpx.mk 13830554455654793216#64 0#64)]) a12 k13 ((g.Nodes.length : Int)) pre rv15 hg16
 refine Oc [0] ca32 hc17 ?_
 rintro c14 -
 refine Jo 0 ?_; rintro a18 k19 rfl
 refine Fb 16 0 fun _ => ?_
 refine Oq Va (KS ?_)
 refine Oq Va (KS ?_)
 refine Oq (VldA sh42 2) (Oq Vm ?_)
 refine lbH H hx0 fun rv22 hg23 H => ?_
 have hc24 := fn33 g ga0 gk0 ga1 gk1 ga2 gk2 root pre rv22 hg23
 refine Oc [3, 4, 5] ca33 hc24 ?_
 rintro c21 -
 refine Jo 0 ?_; rintro a25 k26 rfl
 refine Fb 24 0 fun _ => ?_
 refine Oq (Vlen sl40) (Oq Vm (KS ?_))
 refine llH H hx0 fun X39 hX40 hx41 HL42 => ?_
 refine Kl (γ := Nat × List Cpx × Cpx × Int × Option Addr × Nat) (fun (r28, at__29, start_30, v29_31, a32, k33) => ⟨[(7, vl a32 k33 at__29), (8, cxv start_30), (27, vl a25 k26 rv22), (28, vi (rv22.length : Int)), (29, vi v29_31)], [O a32 k33 at__29, S a25 k26 rv22], layout_Place_L0 rv22 r28 at__29 start_30 v29_31 = X39 ∧ r28 = ((rv22.length : Int) - v29_31).toNat ∧ (0 : Int) ≤ v29_31 ∧ v29_31 ≤ (rv22.length : Int) ∧ (-9223372036854775808 ≤ v29_31 ∧ v29_31 ≤ 9223372036854775807), r28⟩) (((rv22.length : Int) - 0).toNat, rv15, (Cpx.mk 0#64 0#64), 0, a18, k19) [1, 0] ⟨hX40, rfl, aM1, aM1, aM1⟩ ?_
 rintro ⟨r28, at__29, start_30, v29_31, a32, k33⟩ ⟨hM34, hr35, hi36, hi37, hk38⟩
 refine JJ_nx fun _ _ hL hA => ?_; dsimp only at hL hA; subst hL hA
 refine Fb 16 0 fun _ => Fb 24 1 fun _ => KS ?_
 refine Oq Vlss (KS ?_)
 refine Kc ?_ ?_
 ·intro h45
  have g46 := dt h45
  obtain ⟨r47, rfl⟩ := scc (n := r28) aM1
  have H := hM34; (try dsimp only at H); rw [layout_Place_L0] at H
  refine KS ?_
  refine pC H hx41 fun hc48 H => ?_
  refine Oq (Vi sl40 1) ?_
  refine JJ_peekL v29_31.toNat 1 rfl rng fun a49 k50 => ?_
  refine Fb 8 1 fun _ => Fo 1 fun ho52 => ?_
  refine Oq (Vld sh22 0) (Oq Va (KS ?_))
  refine Oq Vm (Oq Va (KS ?_))
  refine Oq Vm (Oq (Vlen sl22) (Oq Vm (KS ?_)))
  refine pC H hx41 fun hc62 H => ?_
  refine llH H hx41 fun X63 hX64 hx65 HL66 => ?_
  refine Kl (γ := Nat × List Cpx × Cpx × Int) (fun (r53, at__54, p_55, v36_56) => ⟨[(7, vl a32 k33 at__29), (8, cxv start_30), (27, vl a25 k26 rv22), (28, vi (rv22.length : Int)), (29, vi v29_31), (11, cxv p_55), (34, vl a49 k50 (rv22.getD v29_31.toNat [])), (35, vi ((rv22.getD v29_31.toNat []).length : Int)), (36, vi v36_56)], [S a49 k50 ((rv22.getD v29_31.toNat []) : List Int), os (vl a32 k33 at__29) at__54, S a25 k26 rv22], layout_Place_L1 (rv22.getD v29_31.toNat []) r53 at__54 p_55 v36_56 = X63 ∧ r53 = ((((rv22.getD v29_31.toNat []).length : Int) : Int) - v36_56).toNat ∧ (0 : Int) ≤ v36_56 ∧ (v36_56 ≤ ((rv22.getD v29_31.toNat []).length : Int) ∨ v36_56 = 0) ∧ (-9223372036854775808 ≤ v36_56 ∧ v36_56 ≤ 9223372036854775807), r53⟩) (((((rv22.getD v29_31.toNat []).length : Int) : Int) - 0).toNat, at__29, start_30, 0) [1, 2, 2] ⟨hX64, rfl, aM1, (.inr rfl), aM1⟩ ?_
  rintro ⟨r53, at__54, p_55, v36_56⟩ ⟨hM57, hr58, hi59, hi60, hk61⟩
  refine JJ_nx fun _ _ hL hA => ?_; dsimp only at hL hA; subst hL hA
  refine Fb 8 0 fun _ => Fo 0 fun ho68 => Fb 16 1 fun _ => Fl 1 fun hn70 => ?_
  refine Fb 24 2 fun _ => KS ?_
  refine Oq Vlss (KS ?_)
  refine Kc ?_ ?_
  ·intro h72
   have g73 := dt h72
   obtain ⟨r74, rfl⟩ := scc (n := r53) aM1
   have H := hM57; (try dsimp only at H); rw [layout_Place_L1] at H
   refine KS ?_
   refine pC H hx65 fun hc75 H => ?_
   refine Oq (Vi sl22 0) ?_
   have hb76 := ok1 (i := v36_56.toNat) ho68 rng
   refine Oq (VldI sh3 0) (Oq Va (KS ?_))
   refine Oq Vm (Oq Vm (Oq Vm ?_))
   refine pC H hx65 fun hc77 H => ?_
   refine Oq (Vi sl30 1) (Ost (SoCx [1] sh37) (KS ?_))
   refine Oq Vm ?_
   refine pC H hx65 fun hc78 H => ?_
   refine Oq (VaddC (a := p_55) (b := (Cpx.mk 4607182418800017408#64 0#64)) (h := hc78)) (Oq Va (KS ?_))
   refine Oq Vadd (Oq Vm (KS ?_))
   refine pC H hx65 fun hc79 H => ?_
   exact Kg (r74, (at__54.set (((rv22.getD v29_31.toNat []).getD v36_56.toNat 0) : Int).toNat p_55), (cadd p_55 (Cpx.mk 4607182418800017408#64 0#64)), (v36_56 + 1)) [1, 0, 1] ⟨H, aM1, aM1, aM1, aM1⟩
  intro h72
  have g80 := df h72
  obtain rfl : r53 = 0 := by omega
  have H := hM57; (try dsimp only at H); rw [layout_Place_L1] at H
  refine Ke ?_
  have H := llB H HL66
  refine KS ?_
  refine Oq Vm ?_
  refine pC H hx41 fun hc81 H => ?_
  refine Oq (VaddC (a := start_30) (b := (Cpx.mk 0#64 4607182418800017408#64)) (h := hc81)) (Oq Va (KS ?_))
  refine Oq Vadd (Oq Vm (KS ?_))
  refine Fl 1 fun hn82 => ?_; (try unfold vl); rw [← hn82]
  refine pC H hx41 fun hc83 H => ?_
  exact Kg (r47, at__54, (cadd start_30 (Cpx.mk 0#64 4607182418800017408#64)), (v29_31 + 1), a32, k33) [1, 1] ⟨H, aM1, aM1, aM1, aM1⟩
 intro h45
 have g84 := df h45
 obtain rfl : r28 = 0 := by omega
 have H := hM34; (try dsimp only at H); rw [layout_Place_L0] at H
 refine Ke ?_
 have H := llB H HL42
 refine KS ?_
 refine Oq Vm (Oq Va (Oq Va (KS ?_)))
 refine Jl [0] (Ent.freeze _ _) ?_
 have hq := rI H; subst hq
 exact Kr (vl a32 k33 at__29) rfl (.tmp rfl (.tmp rfl .nil)) [0] en
theorem fn76 (i : Int) (hi_0 : i64ok i) (rr : Str) (hrr : ic_small i = .ret rr) : FT Tryd.prog 76 #[vi i] [] (fun g : Unit => rr.b.length ≤ 140737488355328) (fun g => .string (bs rr)) (fun g => []) := by
 refine FTi Tryd.func76 fun w0 M0 F0 => ?_
 unfold i64ok at hi_0
 have hx0 := lrn rr; have H := hrr; unfold ic_small at H
 refine KS ?_
 refine Oq Va (KS ?_)
 refine Oq Vm (Oq Vlss (KS ?_))
 refine pT H hx0 fun h1 H => ?_
 refine KcT h1 ?_
 have g2 := dt h1
 refine KS ?_
 refine Oq Vm (Oq Vm ?_)
 refine pC H hx0 fun hc3 H => ?_
 refine Oq Vadd ?_
 refine pC H hx0 fun hc4 H => ?_
 have hb5 : tab1.b.length = 36 := rfl
 refine Oq (VslS un9 (l := tab1)) ?_
 have hb6 := sub_len3 tab1 i.toNat ((i + 1) : Int).toNat
 refine Oq Va (KS ?_)
 have hq := rI H; subst hq
 exact Kr () rfl (.tmp rfl .nil) [] en
theorem fn61 (i : Int) (base : Int) (hi_0 : i64ok i) (hbase_0 : i64ok base) (rr : Str) (hrr : ic_FormatInt i base = .ret rr) : FT Tryd.prog 61 #[vi i, vi base] [] (fun g : Unit => rr.b.length ≤ 140737488355328) (fun g => .string (bs rr)) (fun g => []) := by
 refine FTi Tryd.func61 fun w0 M0 F0 => ?_
 unfold i64ok at hi_0 hbase_0
 have hx0 := lrn rr; have H := hrr; unfold ic_FormatInt at H
 refine KS ?_
 refine Oq Va (KS ?_)
 refine Oq Vm (Oq Veql (KS ?_))
 refine pT H hx0 fun h1 H => ?_
 refine KcT h1 ?_
 have g2 := eq_of_beq h1
 refine KS ?_
 refine Oq Vm (Oq Vleq (Oq Vm ?_))
 refine pT H hx0 fun h3 H => ?_
 refine JsT 14 h3 ?_
 have g4 := dt h3
 refine Oq Vm (Oq Vlss (Oq Vpt (KS ?_)))
 refine pT H hx0 fun h5 H => ?_
 refine KcT h5 ?_
 have g6 := dt h5
 refine KS ?_
 refine Oq Vm ?_
 refine lbH H hx0 fun rv7 hg8 H => ?_
 have hc9 := fn76 i pre rv7 hg8
 refine Oc [] ca76 hc9 ?_
 rintro - he10
 refine Oq Va (KS ?_)
 have hq := rI H; subst hq
 exact Kr () rfl (.tmp rfl .nil) [] en
theorem fn50 (i : Int) (hi_0 : i64ok i) (rr : Str) (hrr : ic_Itoa i = .ret rr) : FT Tryd.prog 50 #[vi i] [] (fun g : Unit => rr.b.length ≤ 140737488355328) (fun g => .string (bs rr)) (fun g => []) := by
 refine FTi Tryd.func50 fun w0 M0 F0 => ?_
 unfold i64ok at hi_0
 have hx0 := lrn rr; have H := hrr; unfold ic_Itoa at H
 refine KS ?_
 refine Oq Va (KS ?_)
 refine Oq Vm ?_
 refine lbH H hx0 fun rv1 hg2 H => ?_
 have hc3 := fn61 i 10 pre pre rv1 hg2
 refine Oc [] ca61 hc3 ?_
 rintro - he4
 refine Oq Va (KS ?_)
 have hq := rI H; subst hq
 exact Kr () rfl (.tmp rfl .nil) [] en
theorem fn34 (i : Int) (hi_0 : i64ok i) (rr : Str) (hrr : st_Itoa i = .ret rr) : FT Tryd.prog 34 #[vi i] [] (fun g : Unit => rr.b.length ≤ 140737488355328) (fun g => .string (bs rr)) (fun g => []) := by
 refine FTi Tryd.func34 fun w0 M0 F0 => ?_
 unfold i64ok at hi_0
 have hx0 := lrn rr; have H := hrr; unfold st_Itoa at H
 refine KS ?_
 refine Oq Va (KS ?_)
 refine Oq Vm ?_
 refine lbH H hx0 fun rv1 hg2 H => ?_
 have hc3 := fn50 i pre rv1 hg2
 refine Oc [] ca50 hc3 ?_
 rintro - he4
 refine Oq Va (KS ?_)
 have hq := rI H; subst hq
 exact Kr () rfl (.tmp rfl .nil) [] en
def lay166_ren : Go.Shelf.Ren := ⟨(fun n => match n with | 166 => 35 | 240 => 51 | 276 => 62 | _ => 0), (fun n => match n with | 0 => 0 | 3 => 3 | 4 => 4 | 5 => 5 | 9 => 9 | 20 => 20 | 37 => 75 | 70 => 74 | 72 => 77 | 75 => 81 | 80 => 85 | 164 => 111 | _ => 0), (fun _ => 0)⟩
theorem lay166 : Go.Proofs.Lays.n166 Tryd.prog lay166_ren where
 mixed := by kernel_rfl
 f166 := by kernel_rfl
 f240 := by kernel_rfl
 f276 := by kernel_rfl
 t0 := by kernel_rfl
 a0 := fun w => rfl
 z0 := fun w => rfl
 v0 := fun w => rfl
 t3 := by kernel_rfl
 a3 := fun w => rfl
 z3 := fun w => rfl
 v3 := fun w => rfl
 t4 := by kernel_rfl
 a4 := fun w => rfl
 z4 := fun w => rfl
 v4 := fun w => rfl
 t9 := by kernel_rfl
 a9 := fun w => rfl
 z9 := fun w => rfl
 v9 := fun w => rfl
 t20 := by kernel_rfl
 a20 := fun w => rfl
 z20 := fun w => rfl
 v20 := fun w => rfl
 t37 := by kernel_rfl
 a37 := fun w => rfl
 z37 := fun w => rfl
 v37 := fun w => rfl
 t70 := by kernel_rfl
 a70 := fun w => rfl
 z70 := fun w => rfl
 v70 := fun w => rfl
 t72 := by kernel_rfl
 a72 := fun w => rfl
 z72 := fun w => rfl
 v72 := fun w => rfl
 t75 := by kernel_rfl
 a75 := fun w => rfl
 z75 := fun w => rfl
 v75 := fun w => rfl
 t164 := by kernel_rfl
 a164 := fun w => rfl
 z164 := fun w => rfl
 v164 := fun w => rfl
theorem lay166x : Go.Proofs.Builder.Extra Tryd.prog lay166_ren where
 sizeBuilder := by kernel_rfl
 liesBuilder := by kernel_rfl
 t5 := by kernel_rfl
 a5 := fun w => rfl
 z5 := fun w => rfl
 v5 := fun w => rfl
 infoByte := by kernel_rfl
 cellsByte := by kernel_rfl
 sizeByte := by kernel_rfl
 neB5 := by decide
theorem fn35 (bP : Value) (b : List UInt8) (s : Str) (hs_0 : s.b.length ≤ 140737488355328) (rr : List UInt8) (hrr : Builder_WriteString b s = .ret rr) : FT Tryd.prog 35 #[bP, .string (bs s)] [BD 77 5 bP b] (fun g : Unit => True) (fun g => .tuple #[vi (s.b.length : Int), .nilIface]) (fun g => [BD 77 5 bP rr]) := by
 have hrr' := hrr
 unfold Builder_WriteString at hrr'
 cases hl : decide (b.length + s.b.length ≤ 140737488355328) with
 | false => rw [hl] at hrr'; cases hrr'
 | true =>
 rw [hl] at hrr'; injection hrr' with hrr'; subst hrr'
 exact FT_wstr lay166 lay166x bP b s (of_decide_eq_true hl)
def lay156_ren : Go.Shelf.Ren := ⟨(fun n => match n with | 156 => 36 | 165 => 52 | 166 => 35 | 169 => 37 | 240 => 51 | 241 => 63 | 276 => 62 | 277 => 80 | _ => 0), (fun n => match n with | 0 => 0 | 3 => 3 | 4 => 4 | 5 => 5 | 9 => 9 | 20 => 20 | 31 => 78 | 37 => 75 | 70 => 74 | 72 => 77 | 75 => 81 | 76 => 82 | 80 => 85 | 127 => 98 | 164 => 111 | _ => 0), (fun _ => 0)⟩
theorem lay156 : Go.Proofs.Lays.n156 Tryd.prog lay156_ren where
 mixed := by kernel_rfl
 f156 := by kernel_rfl
 f165 := by kernel_rfl
 f166 := by kernel_rfl
 f169 := by kernel_rfl
 f240 := by kernel_rfl
 f241 := by kernel_rfl
 f276 := by kernel_rfl
 f277 := by kernel_rfl
 t0 := by kernel_rfl
 a0 := fun w => rfl
 z0 := fun w => rfl
 v0 := fun w => rfl
 t3 := by kernel_rfl
 a3 := fun w => rfl
 z3 := fun w => rfl
 v3 := fun w => rfl
 t4 := by kernel_rfl
 a4 := fun w => rfl
 z4 := fun w => rfl
 v4 := fun w => rfl
 t9 := by kernel_rfl
 a9 := fun w => rfl
 z9 := fun w => rfl
 v9 := fun w => rfl
 t20 := by kernel_rfl
 a20 := fun w => rfl
 z20 := fun w => rfl
 v20 := fun w => rfl
 t31 := by kernel_rfl
 a31 := fun w => rfl
 z31 := fun w => rfl
 v31 := fun w => rfl
 t37 := by kernel_rfl
 a37 := fun w => rfl
 z37 := fun w => rfl
 v37 := fun w => rfl
 t70 := by kernel_rfl
 a70 := fun w => rfl
 z70 := fun w => rfl
 v70 := fun w => rfl
 t72 := by kernel_rfl
 a72 := fun w => rfl
 z72 := fun w => rfl
 v72 := fun w => rfl
 t75 := by kernel_rfl
 a75 := fun w => rfl
 z75 := fun w => rfl
 v75 := fun w => rfl
 t76 := by kernel_rfl
 a76 := fun w => rfl
 z76 := fun w => rfl
 v76 := fun w => rfl
 t127 := by kernel_rfl
 a127 := fun w => rfl
 z127 := fun w => rfl
 v127 := fun w => rfl
 t164 := by kernel_rfl
 a164 := fun w => rfl
 z164 := fun w => rfl
 v164 := fun w => rfl
theorem lay156x : Go.Proofs.Builder.Extra Tryd.prog lay156_ren where
 sizeBuilder := by kernel_rfl
 liesBuilder := by kernel_rfl
 t5 := by kernel_rfl
 a5 := fun w => rfl
 z5 := fun w => rfl
 v5 := fun w => rfl
 infoByte := by kernel_rfl
 cellsByte := by kernel_rfl
 sizeByte := by kernel_rfl
 neB5 := by decide
theorem fn36 (elems : List Str) (elemsa0 : Option Addr) (elemsk0 : Nat) (sep : Str) (hsep_0 : sep.b.length ≤ 140737488355328) (rr : Str) (hrr : strings_Join elems sep = .ret rr) : FT Tryd.prog 36 #[vl elemsa0 elemsk0 elems, .string (bs sep)] [S elemsa0 elemsk0 elems] (fun g : Unit => rr.b.length ≤ 140737488355328) (fun g => .string (bs rr)) (fun g => []) := by
 have hrr' := hrr
 unfold strings_Join at hrr'
 cases hl : decide ((joinS elems sep).b.length ≤ 140737488355328) with
 | false => rw [hl] at hrr'; cases hrr'
 | true =>
 rw [hl] at hrr'; injection hrr' with hrr'; subst hrr'
 have hj0 := of_decide_eq_true hl
 exact FT_join (fun bk o c xs sep w h1 h2 h3 h4 h5 => Go.Proofs.Any.strings_Join lay156 lay156x bk o c xs sep w h1 h2 h3 h4 h5) (fun a c sep w => Go.Proofs.Any.strings_Join_none lay156 lay156x a c sep w) elemsa0 elemsk0 elems sep hj0
def lay169_ren : Go.Shelf.Ren := ⟨(fun n => match n with | 169 => 37 | _ => 0), (fun n => match n with | 0 => 0 | 3 => 3 | 5 => 5 | 9 => 9 | 37 => 75 | 70 => 74 | 72 => 77 | 127 => 98 | _ => 0), (fun _ => 0)⟩
theorem lay169 : Go.Proofs.Lays.n169 Tryd.prog lay169_ren where
 mixed := by kernel_rfl
 f169 := by kernel_rfl
 t0 := by kernel_rfl
 a0 := fun w => rfl
 z0 := fun w => rfl
 v0 := fun w => rfl
 t3 := by kernel_rfl
 a3 := fun w => rfl
 z3 := fun w => rfl
 v3 := fun w => rfl
 t9 := by kernel_rfl
 a9 := fun w => rfl
 z9 := fun w => rfl
 v9 := fun w => rfl
 t37 := by kernel_rfl
 a37 := fun w => rfl
 z37 := fun w => rfl
 v37 := fun w => rfl
 t70 := by kernel_rfl
 a70 := fun w => rfl
 z70 := fun w => rfl
 v70 := fun w => rfl
 t72 := by kernel_rfl
 a72 := fun w => rfl
 z72 := fun w => rfl
 v72 := fun w => rfl
 t127 := by kernel_rfl
 a127 := fun w => rfl
 z127 := fun w => rfl
 v127 := fun w => rfl
theorem lay169x : Go.Proofs.Builder.Extra Tryd.prog lay169_ren where
 sizeBuilder := by kernel_rfl
 liesBuilder := by kernel_rfl
 t5 := by kernel_rfl
 a5 := fun w => rfl
 z5 := fun w => rfl
 v5 := fun w => rfl
 infoByte := by kernel_rfl
 cellsByte := by kernel_rfl
 sizeByte := by kernel_rfl
 neB5 := by decide
theorem fn37 (bP : Value) (b : List UInt8) (rr : Str) (hrr : Builder_String b = .ret rr) : FT Tryd.prog 37 #[bP] [BD 77 5 bP b] (fun g : Unit => rr.b.length ≤ 140737488355328) (fun g => .string (bs rr)) (fun g => []) := by
 have hrr' := hrr
 unfold Builder_String at hrr'
 cases hl : decide (b.length ≤ 140737488355328) with
 | false => rw [hl] at hrr'; cases hrr'
 | true =>
 rw [hl] at hrr'; injection hrr' with hrr'; subst hrr'
 exact FT_bstr lay169 lay169x bP b (of_decide_eq_true hl)
theorem fn21 (g : GGraph) (ga0 : Option Addr) (gk0 : Nat) (ga1 : Option Addr) (gk1 : Nat) (ga2 : Option Addr) (gk2 : Nat) (root : Int) (hroot_0 : i64ok root) (rr : Str × Int) (hrr : layout_Draw g root = .ret rr) : FT Tryd.prog 21 #[.agg #[vl ga0 gk0 g.Nodes, vl ga1 gk1 g.Succ, vl ga2 gk2 g.Pred], vi root] [S ga0 gk0 g.Nodes, S ga1 gk1 g.Succ, S ga2 gk2 g.Pred] (fun g : Unit => rr.1.b.length ≤ 140737488355328 ∧ i64ok rr.2) (fun g => .tuple #[.string (bs rr.1), vi rr.2]) (fun g => []) := by
 refine FTi Tryd.func21 fun w0 M0 F0 => ?_
 unfold i64ok at hroot_0
 refine Fb 32 0 fun _ => Fb 24 1 fun _ => Fb 24 2 fun _ => ?_
 have hx0 := lrn rr; have H := hrr; unfold layout_Draw at H
 refine KS ?_
 refine Oa (Ab [vl ga0 gk0 g.Nodes, vl ga1 gk1 g.Succ, vl ga2 gk2 g.Pred]) fun p4 => Oq Va (Oq Va (KS ?_))
 refine Oq (VldA sh42 0) (Oq Vm ?_)
 refine lbH H hx0 fun rv5 hg6 H => ?_
 have hc7 := fn31 g ga0 gk0 ga1 gk1 ga2 gk2 root pre rv5 hg6
 refine Oc [1, 2, 3] ca31 hc7 ?_
 rintro - he8
 unfold i64ok at he8
 refine Oq Va (KS ?_)
 refine Oq Vm (Oq Vneq (KS ?_))
 refine pF H hx0 fun h9 H => ?_
 refine KcF h9 ?_
 have g10 := eq_of_bne_false h9
 refine KS ?_
 refine Oa (AlB 5 ze77) fun p11 => KS ?_
 refine Oq (VldA sh42 1) (Oq Vm ?_)
 refine lbH H hx0 fun rv13 hg14 H => ?_
 have hc15 := fn33 g ga0 gk0 ga1 gk1 ga2 gk2 root pre rv13 hg14
 refine Oc [2, 3, 4] ca33 hc15 ?_
 rintro c12 -
 refine Jo 0 ?_; rintro a16 k17 rfl
 refine Fb 24 0 fun _ => ?_
 refine Oq (Vlen sl40) (Oq Vm (KS ?_))
 refine llH H hx0 fun X27 hX28 hx29 HL30 => ?_
 refine Kl (γ := Nat × List UInt8 × Int) (fun (r19, b_20, v23_21) => ⟨[(7, p11), (21, vl a16 k17 rv13), (22, vi (rv13.length : Int)), (23, vi v23_21)], [S a16 k17 rv13, BD 77 5 p11 b_20], layout_Draw_L0 rv13 r19 b_20 v23_21 = X27 ∧ r19 = ((rv13.length : Int) - v23_21).toNat ∧ (0 : Int) ≤ v23_21 ∧ v23_21 ≤ (rv13.length : Int) ∧ (-9223372036854775808 ≤ v23_21 ∧ v23_21 ≤ 9223372036854775807), r19⟩) (((rv13.length : Int) - 0).toNat, [], 0) [0, 1] ⟨hX28, rfl, aM1, aM1, aM1⟩ ?_
 rintro ⟨r19, b_20, v23_21⟩ ⟨hM22, hr23, hi24, hi25, hk26⟩
 refine JJ_nx fun _ _ hL hA => ?_; dsimp only at hL hA; subst hL hA
 refine Fb 24 0 fun _ => KS ?_
 refine Oq Vlss (KS ?_)
 refine Kc ?_ ?_
 ·intro h32
  have g33 := dt h32
  obtain ⟨r34, rfl⟩ := scc (n := r19) aM1
  have H := hM22; (try dsimp only at H); rw [layout_Draw_L0] at H
  refine KS ?_
  refine pC H hx29 fun hc35 H => ?_
  refine Oq (Vi sl40 0) ?_
  refine JJ_peekL v23_21.toNat 0 rfl rng fun a36 k37 => ?_
  refine Fb 8 1 fun _ => Fo 1 fun ho39 => ?_
  refine Oq (Vld sh22 0) (Oq Va (KS ?_))
  refine Oq Va (KS ?_)
  refine Oq Vm (Oq (Vlen sl22) (Oq Vm (KS ?_)))
  refine Jl [] (Ent.osNil (α := Str)) ?_
  refine pC H hx29 fun hc50 H => ?_
  refine llH H hx29 fun X51 hX52 hx53 HL54 => ?_
  refine Kl (γ := Nat × List Str × Int × Option Addr × Nat) (fun (r40, words_41, v29_42, a43, k44) => ⟨[(7, p11), (21, vl a16 k17 rv13), (22, vi (rv13.length : Int)), (23, vi v23_21), (10, vl a43 k44 words_41), (27, vl a36 k37 (rv13.getD v23_21.toNat [])), (28, vi ((rv13.getD v23_21.toNat []).length : Int)), (29, vi v29_42)], [O a43 k44 words_41, S a36 k37 ((rv13.getD v23_21.toNat []) : List Int), S a16 k17 rv13, BD 77 5 p11 b_20], layout_Draw_L1 (rv13.getD v23_21.toNat []) r40 words_41 v29_42 = X51 ∧ r40 = ((((rv13.getD v23_21.toNat []).length : Int) : Int) - v29_42).toNat ∧ (0 : Int) ≤ v29_42 ∧ (v29_42 ≤ ((rv13.getD v23_21.toNat []).length : Int) ∨ v29_42 = 0) ∧ (-9223372036854775808 ≤ v29_42 ∧ v29_42 ≤ 9223372036854775807), r40⟩) (((((rv13.getD v23_21.toNat []).length : Int) : Int) - 0).toNat, [], 0, none, 0) [0, 1, 2, 3] ⟨hX52, rfl, aM1, (.inr rfl), aM1⟩ ?_
  rintro ⟨r40, words_41, v29_42, a43, k44⟩ ⟨hM45, hr46, hi47, hi48, hk49⟩
  refine JJ_nx fun _ _ hL hA => ?_; dsimp only at hL hA; subst hL hA
  refine Fb 16 0 fun _ => ?_
  refine FoS 0 fun ho56 => ?_
  refine Fb 8 1 fun _ => Fo 1 fun ho58 => Fb 24 2 fun _ => KS ?_
  refine Oq Vlss (KS ?_)
  refine Kc ?_ ?_
  ·intro h60
   have g61 := dt h60
   obtain ⟨r62, rfl⟩ := scc (n := r40) aM1
   have H := hM45; (try dsimp only at H); rw [layout_Draw_L1] at H
   refine KS ?_
   refine pC H hx53 fun hc63 H => ?_
   refine Oq (Vi sl22 1) ?_
   have hb64 := ok1 (i := v29_42.toNat) ho58 rng
   refine Oq (VldI sh3 1) (Oq Va (KS ?_))
   refine Oq Vm (Oq Vm ?_)
   refine lbH H hx53 fun rv65 hg66 H => ?_
   have hc67 := fn34 (((rv13.getD v23_21.toNat []).getD v29_42.toNat 0)) pre rv65 hg66
   refine Oc [] ca34 hc67 ?_
   rintro - he68
   refine Oa (AsV sl78 sz78 [.string (bs rv65)] [.string (bs rv65)]) fun c69 => ?_
   refine Jo 0 ?_; rintro a70 k71 rfl
   refine Jl [0] (Ent.cr1 (α := Str) (A := []) _ rv65 _ aB1 (fun _ => ⟨rfl, aS1⟩)) ?_
   refine pC H hx53 fun hc72 H => ?_
   refine Oa (ApO [1, 0] sl78 sl78 sz78) fun c73 => ?_
   refine Jo 0 ?_; rintro a74 k75 rfl
   refine Fb 16 0 fun _ => ?_
   refine FoS 0 fun ho77 => ?_
   have hn78 := la words_41 ([rv65] : List Str)
   refine Oq Va (KS ?_)
   refine Oq Vadd (Oq Vm (KS ?_))
   refine pC H hx53 fun hc79 H => ?_
   exact Kg (r62, (words_41 ++ [rv65]), (v29_42 + 1), a74, k75) [0, 0, 1, 2] ⟨H, aM1, aM1, aM1, aM1⟩
  intro h60
  have g80 := df h60
  obtain rfl : r40 = 0 := by omega
  have H := hM45; (try dsimp only at H); rw [layout_Draw_L1] at H
  refine Ke ?_
  have H := llB H HL54
  refine KS ?_
  refine Oq Vm ?_
  refine lbH H hx29 fun rv81 hg82 H => ?_
  refine Oc [0] ca36 (FT_borrow (A := _) (fun _ _ h => by cases h) (FT_ent (Ent.take (is := [0]) rfl) (fn36 words_41 a43 k44 ((Str.mk [32])) pre rv81 hg82))) ?_ (ht := rfl)
  rintro - he83
  have hb84 := sadd_len rv81 (Str.mk [10])
  have hb85 : (Str.mk [10]).b.length = 1 := rfl
  refine pC H hx29 fun hc86 H => ?_
  refine Oq (VadS (l := rv81) (m := (Str.mk [10]))) ?_
  refine lbH H hx29 fun rv87 hg88 H => ?_
  have hc89 := fn35 p11 b_20 ((rv81 ++ (Str.mk [10]))) pre rv87 hg88
  refine Oc [3] ca35 hc89 ?_
  rintro - -
  refine KS ?_
  refine Oq Vadd (Oq Vm (KS ?_))
  refine pC H hx29 fun hc90 H => ?_
  exact Kg (r34, rv87, (v23_21 + 1)) [3, 0] ⟨H, aM1, aM1, aM1, aM1⟩
 intro h32
 have g91 := df h32
 obtain rfl : r19 = 0 := by omega
 have H := hM22; (try dsimp only at H); rw [layout_Draw_L0] at H
 refine Ke ?_
 have H := llB H HL30
 refine KS ?_
 refine lbH H hx0 fun rv92 hg93 H => ?_
 have hc94 := fn37 p11 b_20 rv92 hg93
 refine Oc [1] ca37 hc94 ?_
 rintro - he95
 refine Oq Va (Oq Va (KS ?_))
 have hq := rI H; subst hq
 exact Kr () rfl (.tmp rfl (.tmp rfl .nil)) [] en
theorem fn11O  (rr : Bool) (hrr : w33_saneO = .ret rr) : FT Tryd.prog 11 #[] [] (fun g : Unit => True) (fun g => vb rr) (fun g => []) := by
 refine FTi Tryd.func11 fun w0 M0 F0 => ?_
 have hx0 := lrn rr; have H := hrr; unfold w33_saneO at H
 refine KS ?_
 refine Oq Va (KS ?_)
 have hc4 := fn13  w33_diamond rfl
 refine Oc [] ca13 hc4 ?_
 rintro ⟨c1, c2, c3⟩ -
 refine Jo 0 ?_; rintro a5 k6 rfl
 refine Fb 32 0 fun _ => ?_
 refine Jo 1 ?_; rintro a8 k9 rfl
 refine Fb 24 1 fun _ => ?_
 refine Jo 2 ?_; rintro a11 k12 rfl
 refine Fb 24 2 fun _ => ?_
 refine lbH H hx0 fun rv15 hg16 H => ?_
 have hc17 := fn20 w33_diamond a5 k6 a8 k9 a11 k12 0 pre rv15 hg16
 refine Oc [0, 1, 2] ca20 hc17 ?_
 rintro c14 he18
 unfold i64ok at he18
 refine Jo 0 ?_; rintro a19 k20 rfl
 refine Fb 16 0 fun _ => ?_
 refine Oq Vm (Oq Vx (Oq Vx (Oq Va (Oq Va (KS ?_)))))
 have hc25 := fn13  w33_diamond rfl
 refine Oc [] ca13 hc25 ?_
 rintro ⟨c22, c23, c24⟩ -
 refine Jo 0 ?_; rintro a26 k27 rfl
 refine Jo 1 ?_; rintro a28 k29 rfl
 refine Jo 2 ?_; rintro a30 k31 rfl
 refine lbH H hx0 fun rv32 hg33 H => ?_
 have hc34 := fn21 w33_diamond a26 k27 a28 k29 a30 k31 0 pre rv32 hg33
 refine Oc [0, 1, 2] ca21 hc34 ?_
 rintro - ⟨he35, he36⟩
 unfold i64ok at he36
 refine Oq Vm (Oq Vx (Oq Vx (Oq Va (Oq Va (KS ?_)))))
 refine Oa (AsV sl30 sz30 [cxv (Cpx.mk 0#64 4607182418800017408#64)] [cxv (Cpx.mk 0#64 4607182418800017408#64)]) fun c37 => ?_
 refine Jo 0 ?_; rintro a38 k39 rfl
 refine Jl [0] (Ent.cr1 (α := Cpx) (A := []) _ (Cpx.mk 0#64 4607182418800017408#64) _ aB1 (fun _ => rfl)) ?_
 refine Jl [0] (Ent.freeze _ _) ?_
 refine lvH H fun rv41 hg42 H => ?_
 have hc43 := fn10 ([(Cpx.mk 0#64 4607182418800017408#64)]) a38 k39 1 pre rv41 hg42
 refine Oc [0] ca10 hc43 ?_
 rintro c40 -
 refine Jo 0 ?_; rintro a44 k45 rfl
 refine Fb 16 0 fun _ => ?_
 refine Oq Va (KS ?_)
 refine Oq Vm (Oq Veql (Oq Vm ?_))
 refine pT H hx0 fun h47 H => ?_
 refine JsT 20 h47 ?_
 have g48 := eq_of_beq h47
 refine Oq Vm (Oq Veql (Oq Vpt (Oq Vm ?_)))
 refine pT H hx0 fun h49 H => ?_
 refine JsT 24 h49 ?_
 have g50 := eq_of_beq h49
 refine Oq Vm (Oq (Vlen sl30) (Oq Veql (Oq Vpt (Oq Vm ?_))))
 refine pT H hx0 fun h51 H => ?_
 refine JsT 29 h51 ?_
 have g52 := eq_of_beq h51
 refine Oq Vm ?_
 refine pC H hx0 fun hc53 H => ?_
 refine Oq (Vi sl30 5) (Oq (VldCx sh37 5) (Oq (VeqC (a := (rv15.1.getD (0 : Int).toNat default)) (b := (Cpx.mk 0#64 0#64))) (Oq Vpt (Oq Vm ?_))))
 refine pT H hx0 fun h54 H => ?_
 refine JsT 35 h54 ?_
 refine Oq Vm ?_
 refine pC H hx0 fun hc56 H => ?_
 refine Oq (Vi sl30 5) (Oq (VldCx sh37 5) (Oq (VeqC (a := (rv15.1.getD (1 : Int).toNat default)) (b := (Cpx.mk 0#64 4607182418800017408#64))) (Oq Vpt (Oq Vm ?_))))
 refine pT H hx0 fun h57 H => ?_
 refine JsT 41 h57 ?_
 refine Oq Vm ?_
 refine pC H hx0 fun hc59 H => ?_
 refine Oq (Vi sl30 5) (Oq (VldCx sh37 5) (Oq (VeqC (a := (rv15.1.getD (2 : Int).toNat default)) (b := (Cpx.mk 4607182418800017408#64 4607182418800017408#64))) (Oq Vpt (Oq Vm ?_))))
 refine pT H hx0 fun h60 H => ?_
 refine JsT 47 h60 ?_
 refine Oq Vm ?_
 refine pC H hx0 fun hc62 H => ?_
 refine Oq (Vi sl30 5) (Oq (VldCx sh37 5) (Oq (VeqC (a := (rv15.1.getD (3 : Int).toNat default)) (b := (Cpx.mk 0#64 4611686018427387904#64))) (Oq Vpt (Oq Vm ?_))))
 refine pT H hx0 fun h63 H => ?_
 refine JsT 53 h63 ?_
 have hc68 := fn13  w33_diamond rfl
 refine Oc [] ca13 hc68 ?_
 rintro ⟨c65, c66, c67⟩ -
 refine Jo 0 ?_; rintro a69 k70 rfl
 refine Jo 1 ?_; rintro a71 k72 rfl
 refine Jo 2 ?_; rintro a73 k74 rfl
 refine Oq Vm ?_
 refine lvH H fun rv75 hg76 H => ?_
 have hc77 := fn14 w33_diamond a69 k70 a71 k72 a73 k74 rv15.1 a19 k20 rv75 hg76
 refine Oc [0, 1, 2, 8] ca14 hc77 ?_
 rintro - he78
 unfold i64ok at he78
 refine Oq Veql (Oq Vpt (Oq Vm ?_))
 refine pT H hx0 fun h79 H => ?_
 refine JsT 59 h79 ?_
 have g80 := eq_of_beq h79
 refine Oq Vm (Oq (VeqS (l := rv32.1) (m := (Str.mk [48, 10, 49, 32, 50, 10, 51, 10]))) (Oq Vpt (Oq Vm ?_)))
 refine pT H hx0 fun h81 H => ?_
 refine JsT 63 h81 ?_
 have g82 := eq_of_beq h81
 refine Oq Vm (Oq (Vlen sl30) (Oq Veql (Oq Vpt (Oq Vm ?_))))
 refine pT H hx0 fun h83 H => ?_
 refine JsT 68 h83 ?_
 have g84 := eq_of_beq h83
 refine Oq Vm ?_
 refine pC H hx0 fun hc85 H => ?_
 refine Oq (Vi sl30 3) (Oq (VldCx sh37 3) (Oq (VeqC (a := (rv41.getD (0 : Int).toNat default)) (b := (Cpx.mk 13830554455654793216#64 0#64))) (Oq Vpt (Oq Va (KS ?_)))))
 have hq := rI H; subst hq
 exact Kr () rfl (.tmp rfl .nil) [] trivial
theorem w33_sane_c : w33_saneO = .ret true := by kernel_rfl
theorem fn11  (rr : Bool) (hrr : w33_sane = rr) : FT Tryd.prog 11 #[] [] (fun g : Unit => True) (fun g => vb rr) (fun g => []) := by
 subst hrr; exact fn11O  true w33_sane_c
theorem fn12 (g : GGraph) (ga0 : Option Addr) (gk0 : Nat) (ga1 : Option Addr) (gk1 : Nat) (ga2 : Option Addr) (gk2 : Nat) (at_ : List Cpx) (at_a0 : Option Addr) (at_k0 : Nat) (rr : Flo) (hrr : layout_Length g at_ = rr) : FT Tryd.prog 12 #[.agg #[vl ga0 gk0 g.Nodes, vl ga1 gk1 g.Succ, vl ga2 gk2 g.Pred], vl at_a0 at_k0 at_] [S ga0 gk0 g.Nodes, S ga1 gk1 g.Succ, S ga2 gk2 g.Pred, S at_a0 at_k0 at_] (fun g : Unit => True) (fun g => flo rr) (fun g => []) := by
 refine FTi Tryd.func12 fun w0 M0 F0 => Fb 32 0 fun _ => Fb 24 1 fun _ => Fb 24 2 fun _ => Fb 16 3 fun _ => ?_
 refine KS ?_
 refine Oa (Ab [vl ga0 gk0 g.Nodes, vl ga1 gk1 g.Succ, vl ga2 gk2 g.Pred]) fun p5 => Oq Va (KS ?_)
 refine Oq Va (KS ?_)
 refine Oq (VldA sh42 0) (Oq Vm ?_)
 refine letv (layout_edges g at_) fun rv7 hg8 => ?_
 have hEW := edges_EW hg8
 have hc9 := fn22 g ga0 gk0 ga1 gk1 ga2 gk2 at_ at_a0 at_k0 rv7 hg8
 refine Oc [1, 2, 3, 4] ca22 hc9 ?_
 rintro c6 he10
 refine Jo 0 ?_; rintro a11 k12 rfl
 refine Fb 32 0 fun _ => ?_
 refine Oq (Vlen sl60) (Oq Vm (KS ?_))
 refine Kl (γ := Nat × Flo × Int) (fun (r14, sum_15, v13_16) => ⟨[(5, flo sum_15), (11, vl a11 k12 rv7), (12, vi (rv7.length : Int)), (13, vi v13_16)], [O a11 k12 rv7], layout_Length_L0 rv7 r14 sum_15 v13_16 = layout_Length_L0 rv7 (((rv7.length : Int) - 0).toNat) (Flo.mk 0#64) 0 ∧ r14 = ((rv7.length : Int) - v13_16).toNat ∧ (0 : Int) ≤ v13_16 ∧ v13_16 ≤ (rv7.length : Int) ∧ (-9223372036854775808 ≤ v13_16 ∧ v13_16 ≤ 9223372036854775807) ∧ (NN sum_15), r14⟩) (((rv7.length : Int) - 0).toNat, (Flo.mk 0#64), 0) [0] ⟨rfl, rfl, aM1, aM1, aM1, NN_0⟩ ?_
 rintro ⟨r14, sum_15, v13_16⟩ ⟨hM17, hr18, hi19, hi20, hk21, hv22⟩
 refine JJ_nx fun _ _ hL hA => ?_; dsimp only at hL hA; subst hL hA
 refine Fb 32 0 fun _ => KS ?_
 refine Oq Vlss (KS ?_)
 refine Kc ?_ ?_
 ·intro h24
  have g25 := dt h24
  obtain ⟨r26, rfl⟩ := scc (n := r14) aM1
  refine KS ?_
  refine Oq (Vi sl60 0) ?_
  refine JJ_peekO_Gedge v13_16.toNat 0 rfl rng ?_
  refine Oq (VldA sh63 0) (Oa (Al ze63 [cxv (Cpx.mk 0#64 0#64), cxv (Cpx.mk 0#64 0#64)]) fun p27 => Ost (Scl [0] sh63 [cxv ((rv7.getD v13_16.toNat default).from_), cxv ((rv7.getD v13_16.toNat default).to_)]) (KS ?_))
  refine Oq (Vfa fo63_1 0) (Oq (VldF sh37 0) (Oq (Vfa fo63_0 0) (Oq (VldF sh37 0) (Oq (VsubC (a := (rv7.getD v13_16.toNat default).to_) (b := (rv7.getD v13_16.toNat default).from_) (h := (edge_sub hEW rng))) (Oq Va (KS ?_))))))
  refine Oq Vm (Oq Vm (Oq (Vre (a := (csub ((rv7.getD v13_16.toNat default).to_) ((rv7.getD v13_16.toNat default).from_)))) ?_))
  refine letv (math_Abs (Flo.mk (csub ((rv7.getD v13_16.toNat default).to_) ((rv7.getD v13_16.toNat default).from_)).re)) fun rv28 hg29 => ?_
  have hc30 := fn23 ((Flo.mk (csub ((rv7.getD v13_16.toNat default).to_) ((rv7.getD v13_16.toNat default).from_)).re)) rv28 hg29
  refine Oc [] ca23 hc30 ?_
  rintro - -
  refine Oq Vm (Oq (Vim (a := (csub ((rv7.getD v13_16.toNat default).to_) ((rv7.getD v13_16.toNat default).from_)))) ?_)
  refine letv (math_Abs (Flo.mk (csub ((rv7.getD v13_16.toNat default).to_) ((rv7.getD v13_16.toNat default).from_)).im)) fun rv31 hg32 => ?_
  have hc33 := fn23 ((Flo.mk (csub ((rv7.getD v13_16.toNat default).to_) ((rv7.getD v13_16.toNat default).from_)).im)) rv31 hg32
  refine Oc [] ca23 hc33 ?_
  rintro - -
  refine Oq (VaddF (a := rv28) (b := rv31) (h := (by first | exact edge_addA (by assumption) (by assumption) hEW rng | exact (edge_addB (by assumption) (by assumption) hEW rng (by assumption)).1))) (Oq (VaddF (a := sum_15) (b := (fadd rv28 rv31)) (h := (by first | exact edge_addA (by assumption) (by assumption) hEW rng | exact (edge_addB (by assumption) (by assumption) hEW rng (by assumption)).1))) (Oq Va (KS ?_)))
  refine Oq Vadd (Oq Vm (KS ?_))
  refine Jl [1] (Ent.oread _ _ _ _) ?_
  exact Kg (r26, (fadd sum_15 (fadd rv28 rv31)), (v13_16 + 1)) [0] ⟨(q3 hM17 (by simp only [layout_Length_L0, h24, hg29, hg32, cs4])), aM1, aM1, aM1, aM1, (edge_addB (by assumption) (by assumption) hEW rng (by assumption)).2⟩
 intro h24
 have g34 := df h24
 obtain rfl : r14 = 0 := by omega
 refine Ke ?_
 have hR35 := q2 hM17 sum_15 (by simp only [layout_Length_L0, h24, cs4])
 refine KS ?_
 refine Oq Vm (Oq Va (KS ?_))
 have hq := q4 hrr sum_15 (by simp only [layout_Length, h24, hg8, hR35, cs4]); subst hq
 exact Kr () rfl (.tmp rfl .nil) [] trivial
theorem fn4 (x : Flo) (y : Flo) (rr : Bool) (hrr : w33_LayoutFractions x y = rr) : FT Tryd.prog 4 #[flo x, flo y] [] (fun g : Unit => True) (fun g => vb rr) (fun g => []) := by
 refine FTi Tryd.func4 fun w0 M0 F0 => ?_
 refine KS ?_
 refine Oq Va (KS ?_)
 refine Oq Vm (Oq Vm (Oq (Vcx (a := x) (b := y)) (Oa (AsV sl30 sz30 [cxv (Cpx.mk 0#64 0#64), cxv (Cpx.mk 0#64 4607182418800017408#64), cxv (Cpx.mk 4607182418800017408#64 4607182418800017408#64), cxv (Cpx.mk x.b y.b)] [cxv (Cpx.mk 0#64 0#64), cxv (Cpx.mk 0#64 4607182418800017408#64), cxv (Cpx.mk 4607182418800017408#64 4607182418800017408#64), cxv (Cpx.mk x.b y.b)]) fun c1 => ?_)))
 refine Jo 0 ?_; rintro a2 k3 rfl
 refine Oq Va (KS ?_)
 refine Oq Vm (Oq (VgeF (a := x) (b := (Flo.mk 13875590451928498176#64))) (Oq Vm ?_))
 refine Js 13 ?_ ?_
 ·intro h4
  refine Oq Vm (Oq (VleF (a := x) (b := (Flo.mk 4652218415073722368#64))) (Oq Vpt (Oq Vm ?_)))
  refine Js 17 ?_ ?_
  ·intro h6
   refine Oq Vm (Oq (VgeF (a := y) (b := (Flo.mk 13875590451928498176#64))) (Oq Vpt (Oq Vm ?_)))
   refine Js 21 ?_ ?_
   ·intro h8
    refine Oq Vm (Oq (VleF (a := y) (b := (Flo.mk 4652218415073722368#64))) (Oq Vpt (Oq Vm ?_)))
    refine Js 25 ?_ ?_
    ·intro h10
     refine Oq Vm (Oq Vm (Oq (VcFI (a := x) un36 un3 (h := (tr_ok (by assumption) (by assumption)).1)) ?_))
     have hb12 := ftoI_ok x (tr_ok (by assumption) (by assumption)).1
     refine Oq (VcIF (n := (ftoI x)) un3 un36) (Oq (VeqF (a := x) (b := (fofI (ftoI x)))) (Oq Vpt (Oq Vm ?_)))
     refine Js 32 ?_ ?_
     ·intro h13
      refine Oq Vm (Oq Vm (Oq (VcFI (a := y) un36 un3 (h := (tr_ok (by assumption) (by assumption)).1)) ?_))
      have hb15 := ftoI_ok y (tr_ok (by assumption) (by assumption)).1
      refine Oq (VcIF (n := (ftoI y)) un3 un36) (Oq (VeqF (a := y) (b := (fofI (ftoI y)))) (Oq Vpt (Oq Va (KS ?_))))
      refine Oq Vm (KS ?_)
      refine Kc ?_ ?_
      ·intro h16
       refine KS ?_
       have hc21 := fn13  w33_diamond rfl
       refine Oc [] ca13 hc21 ?_
       rintro ⟨c18, c19, c20⟩ -
       refine Jo 0 ?_; rintro a22 k23 rfl
       refine Fb 32 0 fun _ => ?_
       refine Jo 1 ?_; rintro a25 k26 rfl
       refine Fb 24 1 fun _ => ?_
       refine Jo 2 ?_; rintro a28 k29 rfl
       refine Fb 24 2 fun _ => Oq Vm ?_
       refine Jl [3] (Ent.crOs (α := Cpx) (A := []) _ ([(Cpx.mk 0#64 0#64), (Cpx.mk 0#64 4607182418800017408#64), (Cpx.mk 4607182418800017408#64 4607182418800017408#64), (Cpx.mk x.b y.b)] : List Cpx) _ aB1 (fun h => ⟨[cxv (Cpx.mk 0#64 0#64)], [cxv (Cpx.mk 0#64 4607182418800017408#64), cxv (Cpx.mk 4607182418800017408#64 4607182418800017408#64), cxv (Cpx.mk x.b y.b)], rfl, (fun _ => rfl) h, ⟨[cxv (Cpx.mk 0#64 4607182418800017408#64)], [cxv (Cpx.mk 4607182418800017408#64 4607182418800017408#64), cxv (Cpx.mk x.b y.b)], rfl, (fun _ => rfl) h, ⟨[cxv (Cpx.mk 4607182418800017408#64 4607182418800017408#64)], [cxv (Cpx.mk x.b y.b)], rfl, (fun _ => rfl) h, ⟨[cxv (Cpx.mk x.b y.b)], [], rfl, (fun _ => rfl) h, rfl⟩⟩⟩⟩)) ?_
       refine Jl [0] (Ent.freeze _ _) ?_
       refine letv (layout_Length w33_diamond [(Cpx.mk 0#64 0#64), (Cpx.mk 0#64 4607182418800017408#64), (Cpx.mk 4607182418800017408#64 4607182418800017408#64), (Cpx.mk x.b y.b)]) fun rv31 hg32 => ?_
       have hc33 := fn12 w33_diamond a22 k23 a25 k26 a28 k29 ([(Cpx.mk 0#64 0#64), (Cpx.mk 0#64 4607182418800017408#64), (Cpx.mk 4607182418800017408#64 4607182418800017408#64), (Cpx.mk x.b y.b)]) a2 k3 rv31 hg32
       refine Oc [1, 2, 3, 0] ca12 hc33 ?_
       rintro - -
       refine Oq (VgeF (a := rv31) (b := (Flo.mk 0#64))) (Oq Vm ?_)
       refine Js 44 ?_ ?_
       ·intro h34
        refine Oq Vm ?_
        refine Fl 0 fun hn36 => ?_; (try unfold vl); rw [← hn36]
        refine letv (layout_Turn [(Cpx.mk 0#64 0#64), (Cpx.mk 0#64 4607182418800017408#64), (Cpx.mk 4607182418800017408#64 4607182418800017408#64), (Cpx.mk x.b y.b)] 1) fun rv38 hg39 => ?_
        have hc40 := fn10 ([(Cpx.mk 0#64 0#64), (Cpx.mk 0#64 4607182418800017408#64), (Cpx.mk 4607182418800017408#64 4607182418800017408#64), (Cpx.mk x.b y.b)]) a2 k3 1 pre rv38 hg39
        refine Oc [0] ca10 hc40 ?_
        rintro c37 -
        refine Jo 0 ?_; rintro a41 k42 rfl
        refine Fb 16 0 fun _ => ?_
        refine Oq (Vlen sl30) (Oq Veql (Oq Vpt (Oq Vm ?_)))
        refine Js 50 ?_ ?_
        ·intro h44
         have g45 := eq_of_beq h44
         have hc46 := fn11  w33_sane rfl
         refine Oc [] ca11 hc46 ?_
         rintro - -
         refine Oq Vpt (Oq Va (KS ?_))
         have hq := q4 hrr w33_sane (by simp only [w33_LayoutFractions, h4, h6, h8, h10, h13, h16, h34, h44, hg32, hg39, cs4]); subst hq
         exact Kr () rfl (.tmp rfl .nil) [] trivial
        intro h44
        have g47 := ne_of_beq_false h44
        refine Osk (Oq Vpf (Oq Va (KS ?_)))
        have hq := q4 hrr false (by simp only [w33_LayoutFractions, h4, h6, h8, h10, h13, h16, h34, h44, hg32, hg39, cs4]); subst hq
        exact Kr () rfl (.tmp rfl .nil) [] trivial
       intro h34
       refine Osk (Osk (Osk (Osk (Oq Vpf (Oq Vm (Osk (Oq Vpf (Oq Va (KS ?_)))))))))
       have hq := q4 hrr false (by simp only [w33_LayoutFractions, h4, h6, h8, h10, h13, h16, h34, hg32, cs4]); subst hq
       exact Kr () rfl (.tmp rfl .nil) [] trivial
      intro h16
      refine KS ?_
      have hc53 := fn13  w33_diamond rfl
      refine Oc [] ca13 hc53 ?_
      rintro ⟨c50, c51, c52⟩ -
      refine Jo 0 ?_; rintro a54 k55 rfl
      refine Fb 32 0 fun _ => ?_
      refine Jo 1 ?_; rintro a57 k58 rfl
      refine Fb 24 1 fun _ => ?_
      refine Jo 2 ?_; rintro a60 k61 rfl
      refine Fb 24 2 fun _ => Oq Vm ?_
      refine Jl [3] (Ent.crOs (α := Cpx) (A := []) _ ([(Cpx.mk 0#64 0#64), (Cpx.mk 0#64 4607182418800017408#64), (Cpx.mk 4607182418800017408#64 4607182418800017408#64), (Cpx.mk x.b y.b)] : List Cpx) _ aB1 (fun h => ⟨[cxv (Cpx.mk 0#64 0#64)], [cxv (Cpx.mk 0#64 4607182418800017408#64), cxv (Cpx.mk 4607182418800017408#64 4607182418800017408#64), cxv (Cpx.mk x.b y.b)], rfl, (fun _ => rfl) h, ⟨[cxv (Cpx.mk 0#64 4607182418800017408#64)], [cxv (Cpx.mk 4607182418800017408#64 4607182418800017408#64), cxv (Cpx.mk x.b y.b)], rfl, (fun _ => rfl) h, ⟨[cxv (Cpx.mk 4607182418800017408#64 4607182418800017408#64)], [cxv (Cpx.mk x.b y.b)], rfl, (fun _ => rfl) h, ⟨[cxv (Cpx.mk x.b y.b)], [], rfl, (fun _ => rfl) h, rfl⟩⟩⟩⟩)) ?_
      refine Jl [0] (Ent.freeze _ _) ?_
      refine letv (layout_Crossings w33_diamond [(Cpx.mk 0#64 0#64), (Cpx.mk 0#64 4607182418800017408#64), (Cpx.mk 4607182418800017408#64 4607182418800017408#64), (Cpx.mk x.b y.b)]) fun rv63 hg64 => ?_
      have hc65 := fn14 w33_diamond a54 k55 a57 k58 a60 k61 ([(Cpx.mk 0#64 0#64), (Cpx.mk 0#64 4607182418800017408#64), (Cpx.mk 4607182418800017408#64 4607182418800017408#64), (Cpx.mk x.b y.b)]) a2 k3 rv63 hg64
      refine Oc [1, 2, 3, 0] ca14 hc65 ?_
      rintro - he66
      unfold i64ok at he66
      refine Oq Veql (Oq Vm ?_)
      refine Js 57 ?_ ?_
      ·intro h67
       have g68 := eq_of_beq h67
       have hc72 := fn13  w33_diamond rfl
       refine Oc [] ca13 hc72 ?_
       rintro ⟨c69, c70, c71⟩ -
       refine Jo 0 ?_; rintro a73 k74 rfl
       refine Jo 1 ?_; rintro a75 k76 rfl
       refine Jo 2 ?_; rintro a77 k78 rfl
       refine Oq Vm ?_
       refine Fl 3 fun hn79 => ?_; (try unfold vl); rw [← hn79]
       refine letv (layout_Length w33_diamond [(Cpx.mk 0#64 0#64), (Cpx.mk 0#64 4607182418800017408#64), (Cpx.mk 4607182418800017408#64 4607182418800017408#64), (Cpx.mk x.b y.b)]) fun rv80 hg81 => ?_
       have hc82 := fn12 w33_diamond a73 k74 a75 k76 a77 k78 ([(Cpx.mk 0#64 0#64), (Cpx.mk 0#64 4607182418800017408#64), (Cpx.mk 4607182418800017408#64 4607182418800017408#64), (Cpx.mk x.b y.b)]) a2 k3 rv80 hg81
       refine Oc [0, 1, 2, 3] ca12 hc82 ?_
       rintro - -
       refine Oq (VeqF (a := rv80) (b := (Flo.mk 0#64))) (Oq Vpt (Oq Vm ?_))
       refine Js 63 ?_ ?_
       ·intro h83
        refine Oq Vm ?_
        refine letv (layout_Turn [(Cpx.mk 0#64 0#64), (Cpx.mk 0#64 4607182418800017408#64), (Cpx.mk 4607182418800017408#64 4607182418800017408#64), (Cpx.mk x.b y.b)] 1) fun rv86 hg87 => ?_
        have hc88 := fn10 ([(Cpx.mk 0#64 0#64), (Cpx.mk 0#64 4607182418800017408#64), (Cpx.mk 4607182418800017408#64 4607182418800017408#64), (Cpx.mk x.b y.b)]) a2 k3 1 pre rv86 hg87
        refine Oc [3] ca10 hc88 ?_
        rintro c85 -
        refine Jo 0 ?_; rintro a89 k90 rfl
        refine Fb 16 0 fun _ => ?_
        refine Oq (Vlen sl30) (Oq Veql (Oq Vpt (Oq Vm ?_)))
        refine Js 69 ?_ ?_
        ·intro h92
         have g93 := eq_of_beq h92
         have hc94 := fn11  w33_sane rfl
         refine Oc [] ca11 hc94 ?_
         rintro - -
         refine Oq Vpt (Oq Va (KS ?_))
         have hq := q4 hrr w33_sane (by simp only [w33_LayoutFractions, h4, h6, h8, h10, h13, h16, h67, h83, h92, hg64, hg81, hg87, cs4]); subst hq
         exact Kr () rfl (.tmp rfl .nil) [] trivial
        intro h92
        have g95 := ne_of_beq_false h92
        refine Osk (Oq Vpf (Oq Va (KS ?_)))
        have hq := q4 hrr false (by simp only [w33_LayoutFractions, h4, h6, h8, h10, h13, h16, h67, h83, h92, hg64, hg81, hg87, cs4]); subst hq
        exact Kr () rfl (.tmp rfl .nil) [] trivial
       intro h83
       refine Osk (Osk (Osk (Osk (Oq Vpf (Oq Vm (Osk (Oq Vpf (Oq Va (KS ?_)))))))))
       have hq := q4 hrr false (by simp only [w33_LayoutFractions, h4, h6, h8, h10, h13, h16, h67, h83, hg64, hg81, cs4]); subst hq
       exact Kr () rfl (.tmp rfl .nil) [] trivial
      intro h67
      have g97 := ne_of_beq_false h67
      refine Osk (Osk (Osk (Osk (Oq Vpf (Oq Vm (Osk (Osk (Osk (Osk ?_)))))))))
      refine Oq Vpf (Oq Vm (Osk (Oq Vpf (Oq Va (KS ?_)))))
      have hq := q4 hrr false (by simp only [w33_LayoutFractions, h4, h6, h8, h10, h13, h16, h67, hg64, cs4]); subst hq
      exact Kr () rfl (.tmp rfl .nil) [] trivial
     intro h13
     refine Osk (Osk (Osk (Osk (Osk (Oq Vpf (Oq Va (KS ?_)))))))
     refine Oq Vm (KS ?_)
     refine Kf (KS ?_)
     have hc102 := fn13  w33_diamond rfl
     refine Oc [] ca13 hc102 ?_
     rintro ⟨c99, c100, c101⟩ -
     refine Jo 0 ?_; rintro a103 k104 rfl
     refine Fb 32 0 fun _ => ?_
     refine Jo 1 ?_; rintro a106 k107 rfl
     refine Fb 24 1 fun _ => ?_
     refine Jo 2 ?_; rintro a109 k110 rfl
     refine Fb 24 2 fun _ => Oq Vm ?_
     refine Jl [3] (Ent.crOs (α := Cpx) (A := []) _ ([(Cpx.mk 0#64 0#64), (Cpx.mk 0#64 4607182418800017408#64), (Cpx.mk 4607182418800017408#64 4607182418800017408#64), (Cpx.mk x.b y.b)] : List Cpx) _ aB1 (fun h => ⟨[cxv (Cpx.mk 0#64 0#64)], [cxv (Cpx.mk 0#64 4607182418800017408#64), cxv (Cpx.mk 4607182418800017408#64 4607182418800017408#64), cxv (Cpx.mk x.b y.b)], rfl, (fun _ => rfl) h, ⟨[cxv (Cpx.mk 0#64 4607182418800017408#64)], [cxv (Cpx.mk 4607182418800017408#64 4607182418800017408#64), cxv (Cpx.mk x.b y.b)], rfl, (fun _ => rfl) h, ⟨[cxv (Cpx.mk 4607182418800017408#64 4607182418800017408#64)], [cxv (Cpx.mk x.b y.b)], rfl, (fun _ => rfl) h, ⟨[cxv (Cpx.mk x.b y.b)], [], rfl, (fun _ => rfl) h, rfl⟩⟩⟩⟩)) ?_
     refine Jl [0] (Ent.freeze _ _) ?_
     refine letv (layout_Crossings w33_diamond [(Cpx.mk 0#64 0#64), (Cpx.mk 0#64 4607182418800017408#64), (Cpx.mk 4607182418800017408#64 4607182418800017408#64), (Cpx.mk x.b y.b)]) fun rv112 hg113 => ?_
     have hc114 := fn14 w33_diamond a103 k104 a106 k107 a109 k110 ([(Cpx.mk 0#64 0#64), (Cpx.mk 0#64 4607182418800017408#64), (Cpx.mk 4607182418800017408#64 4607182418800017408#64), (Cpx.mk x.b y.b)]) a2 k3 rv112 hg113
     refine Oc [1, 2, 3, 0] ca14 hc114 ?_
     rintro - he115
     unfold i64ok at he115
     refine Oq Veql (Oq Vm ?_)
     refine Js 57 ?_ ?_
     ·intro h116
      have g117 := eq_of_beq h116
      have hc121 := fn13  w33_diamond rfl
      refine Oc [] ca13 hc121 ?_
      rintro ⟨c118, c119, c120⟩ -
      refine Jo 0 ?_; rintro a122 k123 rfl
      refine Jo 1 ?_; rintro a124 k125 rfl
      refine Jo 2 ?_; rintro a126 k127 rfl
      refine Oq Vm ?_
      refine Fl 3 fun hn128 => ?_; (try unfold vl); rw [← hn128]
      refine letv (layout_Length w33_diamond [(Cpx.mk 0#64 0#64), (Cpx.mk 0#64 4607182418800017408#64), (Cpx.mk 4607182418800017408#64 4607182418800017408#64), (Cpx.mk x.b y.b)]) fun rv129 hg130 => ?_
      have hc131 := fn12 w33_diamond a122 k123 a124 k125 a126 k127 ([(Cpx.mk 0#64 0#64), (Cpx.mk 0#64 4607182418800017408#64), (Cpx.mk 4607182418800017408#64 4607182418800017408#64), (Cpx.mk x.b y.b)]) a2 k3 rv129 hg130
      refine Oc [0, 1, 2, 3] ca12 hc131 ?_
      rintro - -
      refine Oq (VeqF (a := rv129) (b := (Flo.mk 0#64))) (Oq Vpt (Oq Vm ?_))
      refine Js 63 ?_ ?_
      ·intro h132
       refine Oq Vm ?_
       refine letv (layout_Turn [(Cpx.mk 0#64 0#64), (Cpx.mk 0#64 4607182418800017408#64), (Cpx.mk 4607182418800017408#64 4607182418800017408#64), (Cpx.mk x.b y.b)] 1) fun rv135 hg136 => ?_
       have hc137 := fn10 ([(Cpx.mk 0#64 0#64), (Cpx.mk 0#64 4607182418800017408#64), (Cpx.mk 4607182418800017408#64 4607182418800017408#64), (Cpx.mk x.b y.b)]) a2 k3 1 pre rv135 hg136
       refine Oc [3] ca10 hc137 ?_
       rintro c134 -
       refine Jo 0 ?_; rintro a138 k139 rfl
       refine Fb 16 0 fun _ => ?_
       refine Oq (Vlen sl30) (Oq Veql (Oq Vpt (Oq Vm ?_)))
       refine Js 69 ?_ ?_
       ·intro h141
        have g142 := eq_of_beq h141
        have hc143 := fn11  w33_sane rfl
        refine Oc [] ca11 hc143 ?_
        rintro - -
        refine Oq Vpt (Oq Va (KS ?_))
        have hq := q4 hrr w33_sane (by simp only [w33_LayoutFractions, h4, h6, h8, h10, h13, h116, h132, h141, hg113, hg130, hg136, cs4]); subst hq
        exact Kr () rfl (.tmp rfl .nil) [] trivial
       intro h141
       have g144 := ne_of_beq_false h141
       refine Osk (Oq Vpf (Oq Va (KS ?_)))
       have hq := q4 hrr false (by simp only [w33_LayoutFractions, h4, h6, h8, h10, h13, h116, h132, h141, hg113, hg130, hg136, cs4]); subst hq
       exact Kr () rfl (.tmp rfl .nil) [] trivial
      intro h132
      refine Osk (Osk (Osk (Osk (Oq Vpf (Oq Vm (Osk (Oq Vpf (Oq Va (KS ?_)))))))))
      have hq := q4 hrr false (by simp only [w33_LayoutFractions, h4, h6, h8, h10, h13, h116, h132, hg113, hg130, cs4]); subst hq
      exact Kr () rfl (.tmp rfl .nil) [] trivial
     intro h116
     have g146 := ne_of_beq_false h116
     refine Osk (Osk (Osk (Osk (Oq Vpf (Oq Vm (Osk (Osk (Osk (Osk ?_)))))))))
     refine Oq Vpf (Oq Vm (Osk (Oq Vpf (Oq Va (KS ?_)))))
     have hq := q4 hrr false (by simp only [w33_LayoutFractions, h4, h6, h8, h10, h13, h116, hg113, cs4]); subst hq
     exact Kr () rfl (.tmp rfl .nil) [] trivial
    intro h10
    refine Osk (Osk (Osk (Osk (Osk (Oq Vpf (Oq Vm (Osk (Osk (Osk ?_)))))))))
    refine Osk (Osk (Oq Vpf (Oq Va (KS ?_))))
    refine Oq Vm (KS ?_)
    refine Kf (KS ?_)
    have hc151 := fn13  w33_diamond rfl
    refine Oc [] ca13 hc151 ?_
    rintro ⟨c148, c149, c150⟩ -
    refine Jo 0 ?_; rintro a152 k153 rfl
    refine Fb 32 0 fun _ => ?_
    refine Jo 1 ?_; rintro a155 k156 rfl
    refine Fb 24 1 fun _ => ?_
    refine Jo 2 ?_; rintro a158 k159 rfl
    refine Fb 24 2 fun _ => Oq Vm ?_
    refine Jl [3] (Ent.crOs (α := Cpx) (A := []) _ ([(Cpx.mk 0#64 0#64), (Cpx.mk 0#64 4607182418800017408#64), (Cpx.mk 4607182418800017408#64 4607182418800017408#64), (Cpx.mk x.b y.b)] : List Cpx) _ aB1 (fun h => ⟨[cxv (Cpx.mk 0#64 0#64)], [cxv (Cpx.mk 0#64 4607182418800017408#64), cxv (Cpx.mk 4607182418800017408#64 4607182418800017408#64), cxv (Cpx.mk x.b y.b)], rfl, (fun _ => rfl) h, ⟨[cxv (Cpx.mk 0#64 4607182418800017408#64)], [cxv (Cpx.mk 4607182418800017408#64 4607182418800017408#64), cxv (Cpx.mk x.b y.b)], rfl, (fun _ => rfl) h, ⟨[cxv (Cpx.mk 4607182418800017408#64 4607182418800017408#64)], [cxv (Cpx.mk x.b y.b)], rfl, (fun _ => rfl) h, ⟨[cxv (Cpx.mk x.b y.b)], [], rfl, (fun _ => rfl) h, rfl⟩⟩⟩⟩)) ?_
    refine Jl [0] (Ent.freeze _ _) ?_
    refine letv (layout_Crossings w33_diamond [(Cpx.mk 0#64 0#64), (Cpx.mk 0#64 4607182418800017408#64), (Cpx.mk 4607182418800017408#64 4607182418800017408#64), (Cpx.mk x.b y.b)]) fun rv161 hg162 => ?_
    have hc163 := fn14 w33_diamond a152 k153 a155 k156 a158 k159 ([(Cpx.mk 0#64 0#64), (Cpx.mk 0#64 4607182418800017408#64), (Cpx.mk 4607182418800017408#64 4607182418800017408#64), (Cpx.mk x.b y.b)]) a2 k3 rv161 hg162
    refine Oc [1, 2, 3, 0] ca14 hc163 ?_
    rintro - he164
    unfold i64ok at he164
    refine Oq Veql (Oq Vm ?_)
    refine Js 57 ?_ ?_
    ·intro h165
     have g166 := eq_of_beq h165
     have hc170 := fn13  w33_diamond rfl
     refine Oc [] ca13 hc170 ?_
     rintro ⟨c167, c168, c169⟩ -
     refine Jo 0 ?_; rintro a171 k172 rfl
     refine Jo 1 ?_; rintro a173 k174 rfl
     refine Jo 2 ?_; rintro a175 k176 rfl
     refine Oq Vm ?_
     refine Fl 3 fun hn177 => ?_; (try unfold vl); rw [← hn177]
     refine letv (layout_Length w33_diamond [(Cpx.mk 0#64 0#64), (Cpx.mk 0#64 4607182418800017408#64), (Cpx.mk 4607182418800017408#64 4607182418800017408#64), (Cpx.mk x.b y.b)]) fun rv178 hg179 => ?_
     have hc180 := fn12 w33_diamond a171 k172 a173 k174 a175 k176 ([(Cpx.mk 0#64 0#64), (Cpx.mk 0#64 4607182418800017408#64), (Cpx.mk 4607182418800017408#64 4607182418800017408#64), (Cpx.mk x.b y.b)]) a2 k3 rv178 hg179
     refine Oc [0, 1, 2, 3] ca12 hc180 ?_
     rintro - -
     refine Oq (VeqF (a := rv178) (b := (Flo.mk 0#64))) (Oq Vpt (Oq Vm ?_))
     refine Js 63 ?_ ?_
     ·intro h181
      refine Oq Vm ?_
      refine letv (layout_Turn [(Cpx.mk 0#64 0#64), (Cpx.mk 0#64 4607182418800017408#64), (Cpx.mk 4607182418800017408#64 4607182418800017408#64), (Cpx.mk x.b y.b)] 1) fun rv184 hg185 => ?_
      have hc186 := fn10 ([(Cpx.mk 0#64 0#64), (Cpx.mk 0#64 4607182418800017408#64), (Cpx.mk 4607182418800017408#64 4607182418800017408#64), (Cpx.mk x.b y.b)]) a2 k3 1 pre rv184 hg185
      refine Oc [3] ca10 hc186 ?_
      rintro c183 -
      refine Jo 0 ?_; rintro a187 k188 rfl
      refine Fb 16 0 fun _ => ?_
      refine Oq (Vlen sl30) (Oq Veql (Oq Vpt (Oq Vm ?_)))
      refine Js 69 ?_ ?_
      ·intro h190
       have g191 := eq_of_beq h190
       have hc192 := fn11  w33_sane rfl
       refine Oc [] ca11 hc192 ?_
       rintro - -
       refine Oq Vpt (Oq Va (KS ?_))
       have hq := q4 hrr w33_sane (by simp only [w33_LayoutFractions, h4, h6, h8, h10, h165, h181, h190, hg162, hg179, hg185, cs4]); subst hq
       exact Kr () rfl (.tmp rfl .nil) [] trivial
      intro h190
      have g193 := ne_of_beq_false h190
      refine Osk (Oq Vpf (Oq Va (KS ?_)))
      have hq := q4 hrr false (by simp only [w33_LayoutFractions, h4, h6, h8, h10, h165, h181, h190, hg162, hg179, hg185, cs4]); subst hq
      exact Kr () rfl (.tmp rfl .nil) [] trivial
     intro h181
     refine Osk (Osk (Osk (Osk (Oq Vpf (Oq Vm (Osk (Oq Vpf (Oq Va (KS ?_)))))))))
     have hq := q4 hrr false (by simp only [w33_LayoutFractions, h4, h6, h8, h10, h165, h181, hg162, hg179, cs4]); subst hq
     exact Kr () rfl (.tmp rfl .nil) [] trivial
    intro h165
    have g195 := ne_of_beq_false h165
    refine Osk (Osk (Osk (Osk (Oq Vpf (Oq Vm (Osk (Osk (Osk (Osk ?_)))))))))
    refine Oq Vpf (Oq Vm (Osk (Oq Vpf (Oq Va (KS ?_)))))
    have hq := q4 hrr false (by simp only [w33_LayoutFractions, h4, h6, h8, h10, h165, hg162, cs4]); subst hq
    exact Kr () rfl (.tmp rfl .nil) [] trivial
   intro h8
   refine Osk (Osk (Oq Vpf (Oq Vm (Osk (Osk (Osk (Osk (Osk (Oq Vpf ?_)))))))))
   refine Oq Vm (Osk (Osk (Osk (Osk (Osk (Oq Vpf (Oq Va (KS ?_))))))))
   refine Oq Vm (KS ?_)
   refine Kf (KS ?_)
   have hc200 := fn13  w33_diamond rfl
   refine Oc [] ca13 hc200 ?_
   rintro ⟨c197, c198, c199⟩ -
   refine Jo 0 ?_; rintro a201 k202 rfl
   refine Fb 32 0 fun _ => ?_
   refine Jo 1 ?_; rintro a204 k205 rfl
   refine Fb 24 1 fun _ => ?_
   refine Jo 2 ?_; rintro a207 k208 rfl
   refine Fb 24 2 fun _ => Oq Vm ?_
   refine Jl [3] (Ent.crOs (α := Cpx) (A := []) _ ([(Cpx.mk 0#64 0#64), (Cpx.mk 0#64 4607182418800017408#64), (Cpx.mk 4607182418800017408#64 4607182418800017408#64), (Cpx.mk x.b y.b)] : List Cpx) _ aB1 (fun h => ⟨[cxv (Cpx.mk 0#64 0#64)], [cxv (Cpx.mk 0#64 4607182418800017408#64), cxv (Cpx.mk 4607182418800017408#64 4607182418800017408#64), cxv (Cpx.mk x.b y.b)], rfl, (fun _ => rfl) h, ⟨[cxv (Cpx.mk 0#64 4607182418800017408#64)], [cxv (Cpx.mk 4607182418800017408#64 4607182418800017408#64), cxv (Cpx.mk x.b y.b)], rfl, (fun _ => rfl) h, ⟨[cxv (Cpx.mk 4607182418800017408#64 4607182418800017408#64)], [cxv (Cpx.mk x.b y.b)], rfl, (fun _ => rfl) h, ⟨[cxv (Cpx.mk x.b y.b)], [], rfl, (fun _ => rfl) h, rfl⟩⟩⟩⟩)) ?_
   refine Jl [0] (Ent.freeze _ _) ?_
   refine letv (layout_Crossings w33_diamond [(Cpx.mk 0#64 0#64), (Cpx.mk 0#64 4607182418800017408#64), (Cpx.mk 4607182418800017408#64 4607182418800017408#64), (Cpx.mk x.b y.b)]) fun rv210 hg211 => ?_
   have hc212 := fn14 w33_diamond a201 k202 a204 k205 a207 k208 ([(Cpx.mk 0#64 0#64), (Cpx.mk 0#64 4607182418800017408#64), (Cpx.mk 4607182418800017408#64 4607182418800017408#64), (Cpx.mk x.b y.b)]) a2 k3 rv210 hg211
   refine Oc [1, 2, 3, 0] ca14 hc212 ?_
   rintro - he213
   unfold i64ok at he213
   refine Oq Veql (Oq Vm ?_)
   refine Js 57 ?_ ?_
   ·intro h214
    have g215 := eq_of_beq h214
    have hc219 := fn13  w33_diamond rfl
    refine Oc [] ca13 hc219 ?_
    rintro ⟨c216, c217, c218⟩ -
    refine Jo 0 ?_; rintro a220 k221 rfl
    refine Jo 1 ?_; rintro a222 k223 rfl
    refine Jo 2 ?_; rintro a224 k225 rfl
    refine Oq Vm ?_
    refine Fl 3 fun hn226 => ?_; (try unfold vl); rw [← hn226]
    refine letv (layout_Length w33_diamond [(Cpx.mk 0#64 0#64), (Cpx.mk 0#64 4607182418800017408#64), (Cpx.mk 4607182418800017408#64 4607182418800017408#64), (Cpx.mk x.b y.b)]) fun rv227 hg228 => ?_
    have hc229 := fn12 w33_diamond a220 k221 a222 k223 a224 k225 ([(Cpx.mk 0#64 0#64), (Cpx.mk 0#64 4607182418800017408#64), (Cpx.mk 4607182418800017408#64 4607182418800017408#64), (Cpx.mk x.b y.b)]) a2 k3 rv227 hg228
    refine Oc [0, 1, 2, 3] ca12 hc229 ?_
    rintro - -
    refine Oq (VeqF (a := rv227) (b := (Flo.mk 0#64))) (Oq Vpt (Oq Vm ?_))
    refine Js 63 ?_ ?_
    ·intro h230
     refine Oq Vm ?_
     refine letv (layout_Turn [(Cpx.mk 0#64 0#64), (Cpx.mk 0#64 4607182418800017408#64), (Cpx.mk 4607182418800017408#64 4607182418800017408#64), (Cpx.mk x.b y.b)] 1) fun rv233 hg234 => ?_
     have hc235 := fn10 ([(Cpx.mk 0#64 0#64), (Cpx.mk 0#64 4607182418800017408#64), (Cpx.mk 4607182418800017408#64 4607182418800017408#64), (Cpx.mk x.b y.b)]) a2 k3 1 pre rv233 hg234
     refine Oc [3] ca10 hc235 ?_
     rintro c232 -
     refine Jo 0 ?_; rintro a236 k237 rfl
     refine Fb 16 0 fun _ => ?_
     refine Oq (Vlen sl30) (Oq Veql (Oq Vpt (Oq Vm ?_)))
     refine Js 69 ?_ ?_
     ·intro h239
      have g240 := eq_of_beq h239
      have hc241 := fn11  w33_sane rfl
      refine Oc [] ca11 hc241 ?_
      rintro - -
      refine Oq Vpt (Oq Va (KS ?_))
      have hq := q4 hrr w33_sane (by simp only [w33_LayoutFractions, h4, h6, h8, h214, h230, h239, hg211, hg228, hg234, cs4]); subst hq
      exact Kr () rfl (.tmp rfl .nil) [] trivial
     intro h239
     have g242 := ne_of_beq_false h239
     refine Osk (Oq Vpf (Oq Va (KS ?_)))
     have hq := q4 hrr false (by simp only [w33_LayoutFractions, h4, h6, h8, h214, h230, h239, hg211, hg228, hg234, cs4]); subst hq
     exact Kr () rfl (.tmp rfl .nil) [] trivial
    intro h230
    refine Osk (Osk (Osk (Osk (Oq Vpf (Oq Vm (Osk (Oq Vpf (Oq Va (KS ?_)))))))))
    have hq := q4 hrr false (by simp only [w33_LayoutFractions, h4, h6, h8, h214, h230, hg211, hg228, cs4]); subst hq
    exact Kr () rfl (.tmp rfl .nil) [] trivial
   intro h214
   have g244 := ne_of_beq_false h214
   refine Osk (Osk (Osk (Osk (Oq Vpf (Oq Vm (Osk (Osk (Osk (Osk ?_)))))))))
   refine Oq Vpf (Oq Vm (Osk (Oq Vpf (Oq Va (KS ?_)))))
   have hq := q4 hrr false (by simp only [w33_LayoutFractions, h4, h6, h8, h214, hg211, cs4]); subst hq
   exact Kr () rfl (.tmp rfl .nil) [] trivial
  intro h6
  refine Osk (Osk (Oq Vpf (Oq Vm (Osk (Osk (Oq Vpf (Oq Vm (Osk (Osk ?_)))))))))
  refine Osk (Osk (Osk (Oq Vpf (Oq Vm (Osk (Osk (Osk (Osk (Osk ?_)))))))))
  refine Oq Vpf (Oq Va (KS ?_))
  refine Oq Vm (KS ?_)
  refine Kf (KS ?_)
  have hc249 := fn13  w33_diamond rfl
  refine Oc [] ca13 hc249 ?_
  rintro ⟨c246, c247, c248⟩ -
  refine Jo 0 ?_; rintro a250 k251 rfl
  refine Fb 32 0 fun _ => ?_
  refine Jo 1 ?_; rintro a253 k254 rfl
  refine Fb 24 1 fun _ => ?_
  refine Jo 2 ?_; rintro a256 k257 rfl
  refine Fb 24 2 fun _ => Oq Vm ?_
  refine Jl [3] (Ent.crOs (α := Cpx) (A := []) _ ([(Cpx.mk 0#64 0#64), (Cpx.mk 0#64 4607182418800017408#64), (Cpx.mk 4607182418800017408#64 4607182418800017408#64), (Cpx.mk x.b y.b)] : List Cpx) _ aB1 (fun h => ⟨[cxv (Cpx.mk 0#64 0#64)], [cxv (Cpx.mk 0#64 4607182418800017408#64), cxv (Cpx.mk 4607182418800017408#64 4607182418800017408#64), cxv (Cpx.mk x.b y.b)], rfl, (fun _ => rfl) h, ⟨[cxv (Cpx.mk 0#64 4607182418800017408#64)], [cxv (Cpx.mk 4607182418800017408#64 4607182418800017408#64), cxv (Cpx.mk x.b y.b)], rfl, (fun _ => rfl) h, ⟨[cxv (Cpx.mk 4607182418800017408#64 4607182418800017408#64)], [cxv (Cpx.mk x.b y.b)], rfl, (fun _ => rfl) h, ⟨[cxv (Cpx.mk x.b y.b)], [], rfl, (fun _ => rfl) h, rfl⟩⟩⟩⟩)) ?_
  refine Jl [0] (Ent.freeze _ _) ?_
  refine letv (layout_Crossings w33_diamond [(Cpx.mk 0#64 0#64), (Cpx.mk 0#64 4607182418800017408#64), (Cpx.mk 4607182418800017408#64 4607182418800017408#64), (Cpx.mk x.b y.b)]) fun rv259 hg260 => ?_
  have hc261 := fn14 w33_diamond a250 k251 a253 k254 a256 k257 ([(Cpx.mk 0#64 0#64), (Cpx.mk 0#64 4607182418800017408#64), (Cpx.mk 4607182418800017408#64 4607182418800017408#64), (Cpx.mk x.b y.b)]) a2 k3 rv259 hg260
  refine Oc [1, 2, 3, 0] ca14 hc261 ?_
  rintro - he262
  unfold i64ok at he262
  refine Oq Veql (Oq Vm ?_)
  refine Js 57 ?_ ?_
  ·intro h263
   have g264 := eq_of_beq h263
   have hc268 := fn13  w33_diamond rfl
   refine Oc [] ca13 hc268 ?_
   rintro ⟨c265, c266, c267⟩ -
   refine Jo 0 ?_; rintro a269 k270 rfl
   refine Jo 1 ?_; rintro a271 k272 rfl
   refine Jo 2 ?_; rintro a273 k274 rfl
   refine Oq Vm ?_
   refine Fl 3 fun hn275 => ?_; (try unfold vl); rw [← hn275]
   refine letv (layout_Length w33_diamond [(Cpx.mk 0#64 0#64), (Cpx.mk 0#64 4607182418800017408#64), (Cpx.mk 4607182418800017408#64 4607182418800017408#64), (Cpx.mk x.b y.b)]) fun rv276 hg277 => ?_
   have hc278 := fn12 w33_diamond a269 k270 a271 k272 a273 k274 ([(Cpx.mk 0#64 0#64), (Cpx.mk 0#64 4607182418800017408#64), (Cpx.mk 4607182418800017408#64 4607182418800017408#64), (Cpx.mk x.b y.b)]) a2 k3 rv276 hg277
   refine Oc [0, 1, 2, 3] ca12 hc278 ?_
   rintro - -
   refine Oq (VeqF (a := rv276) (b := (Flo.mk 0#64))) (Oq Vpt (Oq Vm ?_))
   refine Js 63 ?_ ?_
   ·intro h279
    refine Oq Vm ?_
    refine letv (layout_Turn [(Cpx.mk 0#64 0#64), (Cpx.mk 0#64 4607182418800017408#64), (Cpx.mk 4607182418800017408#64 4607182418800017408#64), (Cpx.mk x.b y.b)] 1) fun rv282 hg283 => ?_
    have hc284 := fn10 ([(Cpx.mk 0#64 0#64), (Cpx.mk 0#64 4607182418800017408#64), (Cpx.mk 4607182418800017408#64 4607182418800017408#64), (Cpx.mk x.b y.b)]) a2 k3 1 pre rv282 hg283
    refine Oc [3] ca10 hc284 ?_
    rintro c281 -
    refine Jo 0 ?_; rintro a285 k286 rfl
    refine Fb 16 0 fun _ => ?_
    refine Oq (Vlen sl30) (Oq Veql (Oq Vpt (Oq Vm ?_)))
    refine Js 69 ?_ ?_
    ·intro h288
     have g289 := eq_of_beq h288
     have hc290 := fn11  w33_sane rfl
     refine Oc [] ca11 hc290 ?_
     rintro - -
     refine Oq Vpt (Oq Va (KS ?_))
     have hq := q4 hrr w33_sane (by simp only [w33_LayoutFractions, h4, h6, h263, h279, h288, hg260, hg277, hg283, cs4]); subst hq
     exact Kr () rfl (.tmp rfl .nil) [] trivial
    intro h288
    have g291 := ne_of_beq_false h288
    refine Osk (Oq Vpf (Oq Va (KS ?_)))
    have hq := q4 hrr false (by simp only [w33_LayoutFractions, h4, h6, h263, h279, h288, hg260, hg277, hg283, cs4]); subst hq
    exact Kr () rfl (.tmp rfl .nil) [] trivial
   intro h279
   refine Osk (Osk (Osk (Osk (Oq Vpf (Oq Vm (Osk (Oq Vpf (Oq Va (KS ?_)))))))))
   have hq := q4 hrr false (by simp only [w33_LayoutFractions, h4, h6, h263, h279, hg260, hg277, cs4]); subst hq
   exact Kr () rfl (.tmp rfl .nil) [] trivial
  intro h263
  have g293 := ne_of_beq_false h263
  refine Osk (Osk (Osk (Osk (Oq Vpf (Oq Vm (Osk (Osk (Osk (Osk ?_)))))))))
  refine Oq Vpf (Oq Vm (Osk (Oq Vpf (Oq Va (KS ?_)))))
  have hq := q4 hrr false (by simp only [w33_LayoutFractions, h4, h6, h263, hg260, cs4]); subst hq
  exact Kr () rfl (.tmp rfl .nil) [] trivial
 intro h4
 refine Osk (Osk (Oq Vpf (Oq Vm (Osk (Osk (Oq Vpf (Oq Vm (Osk (Osk ?_)))))))))
 refine Oq Vpf (Oq Vm (Osk (Osk (Osk (Osk (Osk (Oq Vpf (Oq Vm (Osk ?_)))))))))
 refine Osk (Osk (Osk (Osk (Oq Vpf (Oq Va (KS ?_))))))
 refine Oq Vm (KS ?_)
 refine Kf (KS ?_)
 have hc298 := fn13  w33_diamond rfl
 refine Oc [] ca13 hc298 ?_
 rintro ⟨c295, c296, c297⟩ -
 refine Jo 0 ?_; rintro a299 k300 rfl
 refine Fb 32 0 fun _ => ?_
 refine Jo 1 ?_; rintro a302 k303 rfl
 refine Fb 24 1 fun _ => ?_
 refine Jo 2 ?_; rintro a305 k306 rfl
 refine Fb 24 2 fun _ => Oq Vm ?_
 refine Jl [3] (Ent.crOs (α := Cpx) (A := []) _ ([(Cpx.mk 0#64 0#64), (Cpx.mk 0#64 4607182418800017408#64), (Cpx.mk 4607182418800017408#64 4607182418800017408#64), (Cpx.mk x.b y.b)] : List Cpx) _ aB1 (fun h => ⟨[cxv (Cpx.mk 0#64 0#64)], [cxv (Cpx.mk 0#64 4607182418800017408#64), cxv (Cpx.mk 4607182418800017408#64 4607182418800017408#64), cxv (Cpx.mk x.b y.b)], rfl, (fun _ => rfl) h, ⟨[cxv (Cpx.mk 0#64 4607182418800017408#64)], [cxv (Cpx.mk 4607182418800017408#64 4607182418800017408#64), cxv (Cpx.mk x.b y.b)], rfl, (fun _ => rfl) h, ⟨[cxv (Cpx.mk 4607182418800017408#64 4607182418800017408#64)], [cxv (Cpx.mk x.b y.b)], rfl, (fun _ => rfl) h, ⟨[cxv (Cpx.mk x.b y.b)], [], rfl, (fun _ => rfl) h, rfl⟩⟩⟩⟩)) ?_
 refine Jl [0] (Ent.freeze _ _) ?_
 refine letv (layout_Crossings w33_diamond [(Cpx.mk 0#64 0#64), (Cpx.mk 0#64 4607182418800017408#64), (Cpx.mk 4607182418800017408#64 4607182418800017408#64), (Cpx.mk x.b y.b)]) fun rv308 hg309 => ?_
 have hc310 := fn14 w33_diamond a299 k300 a302 k303 a305 k306 ([(Cpx.mk 0#64 0#64), (Cpx.mk 0#64 4607182418800017408#64), (Cpx.mk 4607182418800017408#64 4607182418800017408#64), (Cpx.mk x.b y.b)]) a2 k3 rv308 hg309
 refine Oc [1, 2, 3, 0] ca14 hc310 ?_
 rintro - he311
 unfold i64ok at he311
 refine Oq Veql (Oq Vm ?_)
 refine Js 57 ?_ ?_
 ·intro h312
  have g313 := eq_of_beq h312
  have hc317 := fn13  w33_diamond rfl
  refine Oc [] ca13 hc317 ?_
  rintro ⟨c314, c315, c316⟩ -
  refine Jo 0 ?_; rintro a318 k319 rfl
  refine Jo 1 ?_; rintro a320 k321 rfl
  refine Jo 2 ?_; rintro a322 k323 rfl
  refine Oq Vm ?_
  refine Fl 3 fun hn324 => ?_; (try unfold vl); rw [← hn324]
  refine letv (layout_Length w33_diamond [(Cpx.mk 0#64 0#64), (Cpx.mk 0#64 4607182418800017408#64), (Cpx.mk 4607182418800017408#64 4607182418800017408#64), (Cpx.mk x.b y.b)]) fun rv325 hg326 => ?_
  have hc327 := fn12 w33_diamond a318 k319 a320 k321 a322 k323 ([(Cpx.mk 0#64 0#64), (Cpx.mk 0#64 4607182418800017408#64), (Cpx.mk 4607182418800017408#64 4607182418800017408#64), (Cpx.mk x.b y.b)]) a2 k3 rv325 hg326
  refine Oc [0, 1, 2, 3] ca12 hc327 ?_
  rintro - -
  refine Oq (VeqF (a := rv325) (b := (Flo.mk 0#64))) (Oq Vpt (Oq Vm ?_))
  refine Js 63 ?_ ?_
  ·intro h328
   refine Oq Vm ?_
   refine letv (layout_Turn [(Cpx.mk 0#64 0#64), (Cpx.mk 0#64 4607182418800017408#64), (Cpx.mk 4607182418800017408#64 4607182418800017408#64), (Cpx.mk x.b y.b)] 1) fun rv331 hg332 => ?_
   have hc333 := fn10 ([(Cpx.mk 0#64 0#64), (Cpx.mk 0#64 4607182418800017408#64), (Cpx.mk 4607182418800017408#64 4607182418800017408#64), (Cpx.mk x.b y.b)]) a2 k3 1 pre rv331 hg332
   refine Oc [3] ca10 hc333 ?_
   rintro c330 -
   refine Jo 0 ?_; rintro a334 k335 rfl
   refine Fb 16 0 fun _ => ?_
   refine Oq (Vlen sl30) (Oq Veql (Oq Vpt (Oq Vm ?_)))
   refine Js 69 ?_ ?_
   ·intro h337
    have g338 := eq_of_beq h337
    have hc339 := fn11  w33_sane rfl
    refine Oc [] ca11 hc339 ?_
    rintro - -
    refine Oq Vpt (Oq Va (KS ?_))
    have hq := q4 hrr w33_sane (by simp only [w33_LayoutFractions, h4, h312, h328, h337, hg309, hg326, hg332, cs4]); subst hq
    exact Kr () rfl (.tmp rfl .nil) [] trivial
   intro h337
   have g340 := ne_of_beq_false h337
   refine Osk (Oq Vpf (Oq Va (KS ?_)))
   have hq := q4 hrr false (by simp only [w33_LayoutFractions, h4, h312, h328, h337, hg309, hg326, hg332, cs4]); subst hq
   exact Kr () rfl (.tmp rfl .nil) [] trivial
  intro h328
  refine Osk (Osk (Osk (Osk (Oq Vpf (Oq Vm (Osk (Oq Vpf (Oq Va (KS ?_)))))))))
  have hq := q4 hrr false (by simp only [w33_LayoutFractions, h4, h312, h328, hg309, hg326, cs4]); subst hq
  exact Kr () rfl (.tmp rfl .nil) [] trivial
 intro h312
 have g342 := ne_of_beq_false h312
 refine Osk (Osk (Osk (Osk (Oq Vpf (Oq Vm (Osk (Osk (Osk (Osk ?_)))))))))
 refine Oq Vpf (Oq Vm (Osk (Oq Vpf (Oq Va (KS ?_)))))
 have hq := q4 hrr false (by simp only [w33_LayoutFractions, h4, h312, hg309, cs4]); subst hq
 exact Kr () rfl (.tmp rfl .nil) [] trivial
end Go.SL.G
