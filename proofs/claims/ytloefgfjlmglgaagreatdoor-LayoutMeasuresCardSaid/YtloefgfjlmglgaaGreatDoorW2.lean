/- Part 2 of the walks: mirrors, plain laws and walks used by the last text of this claim. -/
import Derived.Test.YtloefgfjlmglgaaGreatDoorW1
import Derived.Test.YtloefgfjlmglgaaGreatDoorProg
set_option linter.unusedVariables false
set_option linter.unusedSimpArgs false
namespace Go.SL.G
open Go Go.SL Go.Proofs
set_option maxHeartbeats 20000000
set_option maxRecDepth 100000
structure GNode where
 Kind : Int
 Func : Int
 Block : Int
 Stmt : Int
instance : Inhabited GNode := ⟨⟨0, 0, 0, 0⟩⟩
structure GGraph where
 Nodes : List GNode
 Succ : List (List Int)
 Pred : List (List Int)
instance : Inhabited GGraph := ⟨⟨[], [], []⟩⟩
structure GPoint where
 X : Int
 Y : Int
instance : Inhabited GPoint := ⟨⟨0, 0⟩⟩
structure Gedge where
 from_ : Cpx
 to_ : Cpx
instance : Inhabited Gedge := ⟨⟨⟨0#64, 0#64⟩, ⟨0#64, 0#64⟩⟩⟩
def tab0 : Str := (Str.mk [0, 1, 2, 2, 3, 3, 3, 3, 4, 4, 4, 4, 4, 4, 4, 4, 5, 5, 5, 5, 5, 5, 5, 5, 5, 5, 5, 5, 5, 5, 5, 5, 6, 6, 6, 6, 6, 6, 6, 6, 6, 6, 6, 6, 6, 6, 6, 6, 6, 6, 6, 6, 6, 6, 6, 6, 6, 6, 6, 6, 6, 6, 6, 6, 7, 7, 7, 7, 7, 7, 7, 7, 7, 7, 7, 7, 7, 7, 7, 7, 7, 7, 7, 7, 7, 7, 7, 7, 7, 7, 7, 7, 7, 7, 7, 7, 7, 7, 7, 7, 7, 7, 7, 7, 7, 7, 7, 7, 7, 7, 7, 7, 7, 7, 7, 7, 7, 7, 7, 7, 7, 7, 7, 7, 7, 7, 7, 7, 8, 8, 8, 8, 8, 8, 8, 8, 8, 8, 8, 8, 8, 8, 8, 8, 8, 8, 8, 8, 8, 8, 8, 8, 8, 8, 8, 8, 8, 8, 8, 8, 8, 8, 8, 8, 8, 8, 8, 8, 8, 8, 8, 8, 8, 8, 8, 8, 8, 8, 8, 8, 8, 8, 8, 8, 8, 8, 8, 8, 8, 8, 8, 8, 8, 8, 8, 8, 8, 8, 8, 8, 8, 8, 8, 8, 8, 8, 8, 8, 8, 8, 8, 8, 8, 8, 8, 8, 8, 8, 8, 8, 8, 8, 8, 8, 8, 8, 8, 8, 8, 8, 8, 8, 8, 8, 8, 8, 8, 8, 8, 8, 8, 8, 8, 8, 8, 8, 8, 8, 8, 8, 8, 8, 8, 8, 8, 8])
def tab1 : Str := (Str.mk [48, 49, 50, 51, 52, 53, 54, 55, 56, 57, 97, 98, 99, 100, 101, 102, 103, 104, 105, 106, 107, 108, 109, 110, 111, 112, 113, 114, 115, 116, 117, 118, 119, 120, 121, 122])
instance rep_GNode : Rep GNode where
 sz := 4
 bytes := 32
 pos := by decide
 bpos := by decide
 rd w M cs x := cs = [.int .i64 x.Kind, .int .i64 x.Func, .int .i64 x.Block, .int .i64 x.Stmt] ∧ i64ok x.Kind ∧ i64ok x.Func ∧ i64ok x.Block ∧ i64ok x.Stmt
 len := by rintro w M cs x ⟨rfl, h0, h1, h2, h3⟩; rfl
 one := by
  rintro w M cs x ⟨rfl, h0, h1, h2, h3⟩ v hv
  simp only [List.mem_cons, List.not_mem_nil, or_false] at hv
  rcases hv with rfl | rfl | rfl | rfl
  all_goals first | rfl
 st := by
  rintro w M cs x w' M' ⟨rfl, h0, h1, h2, h3⟩ e
  exact ⟨rfl, h0, h1, h2, h3⟩
theorem zrd_GNode (w : World) (M : Blk) : Rep.rd w M [vi 0, vi 0, vi 0, vi 0] (default : GNode) := ⟨rfl, by unfold i64ok; decide, by unfold i64ok; decide, by unfold i64ok; decide, by unfold i64ok; decide⟩
instance rep_GGraph : Rep GGraph where
 sz := 3
 bytes := 72
 pos := by decide
 bpos := by decide
 rd w M cs x := ∃ c0 c1 c2, cs = [c0, c1, c2] ∧ slrd w M c0 x.Nodes ∧ slrd w M c1 x.Succ ∧ slrd w M c2 x.Pred
 len := by rintro w M cs x ⟨c0, c1, c2, rfl, h0, h1, h2⟩; rfl
 one := by
  rintro w M cs x ⟨c0, c1, c2, rfl, h0, h1, h2⟩ v hv
  simp only [List.mem_cons, List.not_mem_nil, or_false] at hv
  rcases hv with rfl | rfl | rfl
  all_goals first | rfl | exact slrd_one h0 | exact slrd_one h1 | exact slrd_one h2
 st := by
  rintro w M cs x w' M' ⟨c0, c1, c2, rfl, h0, h1, h2⟩ e
  exact ⟨c0, c1, c2, rfl, slrd_st h0 e, slrd_st h1 e, slrd_st h2 e⟩
instance rep_GPoint : Rep GPoint where
 sz := 2
 bytes := 16
 pos := by decide
 bpos := by decide
 rd w M cs x := cs = [.int .i64 x.X, .int .i64 x.Y] ∧ i64ok x.X ∧ i64ok x.Y
 len := by rintro w M cs x ⟨rfl, h0, h1⟩; rfl
 one := by
  rintro w M cs x ⟨rfl, h0, h1⟩ v hv
  simp only [List.mem_cons, List.not_mem_nil, or_false] at hv
  rcases hv with rfl | rfl
  all_goals first | rfl
 st := by
  rintro w M cs x w' M' ⟨rfl, h0, h1⟩ e
  exact ⟨rfl, h0, h1⟩
theorem zrd_GPoint (w : World) (M : Blk) : Rep.rd w M [vi 0, vi 0] (default : GPoint) := ⟨rfl, by unfold i64ok; decide, by unfold i64ok; decide⟩
theorem JJ_peek_GPoint {C : Cx} {X : Act → World → Prop} {L : Env} {A : List SP} {c : Value} {xs : List GPoint} (i m : Nat) (hA : A[m]? = some (sl c xs)) (hi : i < xs.length)
  (h : i64ok (xs.getD i default).X → i64ok (xs.getD i default).Y → JJ C X L (pv (eptr 2 c i) [.int .i64 (xs.getD i default).X, .int .i64 (xs.getD i default).Y] :: A)) : JJ C X L A := by
 refine JJ_peek i m hA hi default fun cs => ?_
 intro a w M F st
 obtain ⟨F1, F2, q1, q2, qd, hp, F3, F4, q3, q4, qd2, hr, hs⟩ := st.sp
 obtain ⟨rfl, h0, h1⟩ := hr
 exact h h0 h1 a w M F ⟨st.step, st.sz, st.df, st.sat, F1, F2, q1, q2, qd, hp, sepAll_up hs q4⟩
theorem JJ_peekO_GPoint {C : Cx} {X : Act → World → Prop} {L : Env} {A Ar : List SP} {c : Value} {xs : List GPoint} (i m : Nat) (ht : take A [m] = some ([os c xs], Ar)) (hi : i < xs.length)
  (h : i64ok (xs.getD i default).X → i64ok (xs.getD i default).Y → JJ C X L (oread c xs i [.int .i64 (xs.getD i default).X, .int .i64 (xs.getD i default).Y] :: Ar)) : JJ C X L A := by
 refine JJ_peekO (Ac := A) i m ht hi default fun cs => ?_
 intro a w M F st
 obtain ⟨F1, F2, q1, q2, qd, hr, F3, F4, q3, q4, qd2, hp, hs⟩ := st.sp
 obtain ⟨rfl, h0, h1⟩ := hr
 exact h h0 h1 a w M F ⟨st.step, st.sz, st.df, st.sat, F3, F4, fun b h => q2 b (q3 b h), fun b h => q2 b (q4 b h), qd2, hp, hs⟩
instance rep_Gedge : Rep Gedge where
 sz := 2
 bytes := 32
 pos := by decide
 bpos := by decide
 rd w M cs x := cs = [cxv x.from_, cxv x.to_] ∧ True
 len := by rintro w M cs x ⟨rfl, _⟩; rfl
 one := by
  rintro w M cs x ⟨rfl, _⟩ v hv
  simp only [List.mem_cons, List.not_mem_nil, or_false] at hv
  rcases hv with rfl | rfl
  all_goals first | rfl
 st := by
  rintro w M cs x w' M' ⟨rfl, _⟩ e
  exact ⟨rfl, trivial⟩
theorem JJ_peek_Gedge {C : Cx} {X : Act → World → Prop} {L : Env} {A : List SP} {c : Value} {xs : List Gedge} (i m : Nat) (hA : A[m]? = some (sl c xs)) (hi : i < xs.length)
  (h : JJ C X L (pv (eptr 2 c i) [cxv ((xs.getD i default).from_), cxv ((xs.getD i default).to_)] :: A)) : JJ C X L A := by
 refine JJ_peek i m hA hi default fun cs => ?_
 intro a w M F st
 obtain ⟨F1, F2, q1, q2, qd, hp, F3, F4, q3, q4, qd2, hr, hs⟩ := st.sp
 obtain ⟨rfl, _⟩ := hr
 exact h a w M F ⟨st.step, st.sz, st.df, st.sat, F1, F2, q1, q2, qd, hp, sepAll_up hs q4⟩
theorem JJ_peekO_Gedge {C : Cx} {X : Act → World → Prop} {L : Env} {A Ar : List SP} {c : Value} {xs : List Gedge} (i m : Nat) (ht : take A [m] = some ([os c xs], Ar)) (hi : i < xs.length)
  (h : JJ C X L (oread c xs i [cxv ((xs.getD i default).from_), cxv ((xs.getD i default).to_)] :: Ar)) : JJ C X L A := by
 refine JJ_peekO (Ac := A) i m ht hi default fun cs => ?_
 intro a w M F st
 obtain ⟨F1, F2, q1, q2, qd, hr, F3, F4, q3, q4, qd2, hp, hs⟩ := st.sp
 obtain ⟨rfl, _⟩ := hr
 exact h a w M F ⟨st.step, st.sz, st.df, st.sat, F3, F4, fun b h => q2 b (q3 b h), fun b h => q2 b (q4 b h), qd2, hp, hs⟩
theorem ofInt_ne (n : Int) (h : 1 ≤ n ∧ n ≤ 9223372036854775807) : BitVec.ofInt 64 n ≠ 0 := by
 intro e
 have := congrArg BitVec.toNat e
 rw [BitVec.toNat_ofInt] at this
 simp at this
 omega
theorem mod_range (v n : Int) (h : 1 ≤ n ∧ n ≤ 9223372036854775807) : 0 ≤ (((BitVec.ofInt 64 v) % (BitVec.ofInt 64 n)).toNat : Int) ∧ (((BitVec.ofInt 64 v) % (BitVec.ofInt 64 n)).toNat : Int) < n := by
 rw [BitVec.toNat_umod, BitVec.toNat_ofInt, BitVec.toNat_ofInt]
 have e : (n % ((2 ^ 64 : Nat) : Int)).toNat = n.toNat := by omega
 rw [e]
 have : (v % ((2 ^ 64 : Nat) : Int)).toNat % n.toNat < n.toNat := Nat.mod_lt _ (by omega)
 omega
theorem mod_le (v n : Int) (h : 1 ≤ n ∧ n ≤ 9223372036854775807) : (((BitVec.ofInt 64 v) % (BitVec.ofInt 64 n)).toNat : Int) ≤ 9223372036854775807 := by
 have := mod_range v n h; omega
def r7_Insert_L0 (l : List Int) (n : Int) : Nat → Int → Int
 | 0, i =>
  i
 | r + 1, i =>
  bif decide ((l.getD i.toNat 0) < n) then
   r7_Insert_L0 l n r (i + 1)
  else
   i
def r7_Insert (l : List Int) (n : Int) : List Int :=
 match r7_Insert_L0 l n (((l.length : Int) - 0).toNat) 0 with
 | o0_0 =>
  bif decide (o0_0 < (l.length : Int)) then
   bif ((l.getD o0_0.toNat 0) == n) then
    l
   else
    ((((l.take (o0_0.toNat)).drop 0) ++ [n]) ++ ((l.take l.length).drop (o0_0.toNat)))
  else
   ((((l.take (o0_0.toNat)).drop 0) ++ [n]) ++ ((l.take l.length).drop (o0_0.toNat)))
def g_Mod (v : Int) (n : Int) : Int :=
 (((BitVec.ofInt 64 v) % (BitVec.ofInt 64 n)).toNat : Int)
def tp_Next (tT : List Int) (tI : Int) (n : Int) : Int × Int :=
 bif decide (n ≤ 1) then
  (0, tI)
 else
  bif decide ((tT.length : Int) ≤ tI) then
   (0, tI)
  else
   let rv8 := (g_Mod (tT.getD (((tI + 1) - 1) : Int).toNat 0) n)
   (rv8, (tI + 1))
def tp_SpoilGraph (tT : List Int) (tI : Int) (g : GGraph) : GGraph × Int :=
 let rv25 := (tp_Next tT tI (g.Nodes.length : Int))
 let rv31 := (tp_Next tT rv25.2 4)
 bif (rv31.1 == 0) then
  let rv43 := (tp_Next tT rv31.2 ((g.Nodes.length : Int) + 1))
  let rv50 := (r7_Insert (g.Succ.getD rv25.1.toNat []) rv43.1)
  ((GGraph.mk g.Nodes (g.Succ.set rv25.1.toNat rv50) g.Pred), rv43.2)
 else
  bif (rv31.1 == 1) then
   let rv71 := (tp_Next tT rv31.2 (g.Nodes.length : Int))
   ((GGraph.mk g.Nodes g.Succ (g.Pred.set rv25.1.toNat ((g.Pred.getD rv25.1.toNat []) ++ [(rv71.1 - 1)]))), rv71.2)
  else
   bif (rv31.1 == 2) then
    ((GGraph.mk ((g.Nodes.take g.Nodes.length).drop ((1 : Int).toNat)) g.Succ g.Pred), rv31.2)
   else
    ((GGraph.mk g.Nodes (g.Succ.set rv25.1.toNat ([] : List Int)) g.Pred), rv31.2)
def sc_IndexFunc_edge_L0 (s : List Gedge) (fp : Gedge → Bool) : Nat → Int → LR Unit Int
 | 0, v8 =>
  .brk ()
 | r + 1, v8 =>
  bif (fp (s.getD v8.toNat default)) then
   .ret v8
  else
   sc_IndexFunc_edge_L0 s fp r (v8 + 1)
def sc_IndexFunc_edge (s : List Gedge) (fp : Gedge → Bool) : Int :=
 match sc_IndexFunc_edge_L0 s fp (((s.length : Int) - 0).toNat) 0 with
 | .brk _ =>
  -1
 | .ret r => r
 | .oof => default
def sc_DeleteFunc_edge_L0 (delp : Gedge → Bool) : Nat → List Gedge → Int → Int → List Gedge × Int
 | 0, s', i, j =>
  (s', i)
 | r + 1, s', i, j =>
  bif (!(delp (s'.getD j.toNat default))) then
   sc_DeleteFunc_edge_L0 delp r (s'.set i.toNat (s'.getD j.toNat default)) (i + 1) (j + 1)
  else
   sc_DeleteFunc_edge_L0 delp r s' i (j + 1)
def sc_DeleteFunc_edge (s : List Gedge) (delp : Gedge → Bool) : List Gedge :=
 let rv1 := (sc_IndexFunc_edge s delp)
 bif (rv1 == -1) then
  s
 else
  match sc_DeleteFunc_edge_L0 delp (((s.length : Int) - (rv1 + 1)).toNat) s rv1 (rv1 + 1) with
  | (o0_0, o0_1) =>
   ((((o0_0.take (o0_1.toNat)) ++ (List.replicate (s.length - o0_1.toNat) (Gedge.mk (Cpx.mk 0#64 0#64) (Cpx.mk 0#64 0#64)))).take (o0_1.toNat)).drop 0)
def math_Abs (x : Flo) : Flo :=
 (Flo.mk ((x.b) &&& ~~~(9223372036854775808#64)))
def math_Trunc (x : Flo) : Flo :=
 (ftrunc x)
def layout_whole_1 (x : Flo) : Bool :=
 let rv1 := (math_Abs x)
 bif (fle rv1 (Flo.mk 4652218415073722368#64)) then
  let rv6 := (math_Trunc x)
  (feq x rv6)
 else
  false
def layout_whole_2_whole_1 (p : Cpx) : Bool :=
 let rv1 := (layout_whole_1 (Flo.mk p.re))
 bif (!rv1) then
  true
 else
  let rv11 := (layout_whole_1 (Flo.mk p.im))
  (!rv11)
def sc_IndexFunc_complex128_whole_2_L0 (s : List Cpx) : Nat → Int → LR Unit Int
 | 0, v8 =>
  .brk ()
 | r + 1, v8 =>
  let rv3 := (layout_whole_2_whole_1 (s.getD v8.toNat default))
  bif rv3 then
   .ret v8
  else
   sc_IndexFunc_complex128_whole_2_L0 s r (v8 + 1)
def sc_IndexFunc_complex128_whole_2 (s : List Cpx) : Int :=
 match sc_IndexFunc_complex128_whole_2_L0 s (((s.length : Int) - 0).toNat) 0 with
 | .brk _ =>
  -1
 | .ret r => r
 | .oof => default
def sc_ContainsFunc_complex128_whole_2 (s : List Cpx) : Bool :=
 let rv1 := (sc_IndexFunc_complex128_whole_2 s)
 decide (0 ≤ rv1)
def layout_whole (at_ : List Cpx) : Bool :=
 let rv2 := (sc_ContainsFunc_complex128_whole_2 at_)
 (!rv2)
def gh_ascending_L0 (l : List Int) (n : Int) : Nat → Int → LR Unit Bool
 | 0, v9 =>
  .brk ()
 | r + 1, v9 =>
  bif decide ((l.getD v9.toNat 0) < 0) then
   .ret false
  else
   bif decide (n ≤ (l.getD v9.toNat 0)) then
    .ret false
   else
    bif decide (0 < v9) then
     bif decide ((l.getD v9.toNat 0) ≤ (l.getD ((v9 - 1) : Int).toNat 0)) then
      .ret false
     else
      gh_ascending_L0 l n r (v9 + 1)
    else
     gh_ascending_L0 l n r (v9 + 1)
def gh_ascending (l : List Int) (n : Int) : Bool :=
 match gh_ascending_L0 l n (((l.length : Int) - 0).toNat) 0 with
 | .brk _ =>
  true
 | .ret r => r
 | .oof => default
def gh_count_L0 (l : List (List Int)) : Nat → Int → Int → LR Int Int
 | 0, edges, v8 =>
  .brk edges
 | r + 1, edges, v8 =>
  bif decide (1024 < (edges + ((l.getD v8.toNat []).length : Int))) then
   .ret (-1)
  else
   let rv10 := (gh_ascending (l.getD v8.toNat []) (l.length : Int))
   bif (!rv10) then
    .ret (-1)
   else
    gh_count_L0 l r (edges + ((l.getD v8.toNat []).length : Int)) (v8 + 1)
def gh_count (l : List (List Int)) : Int :=
 match gh_count_L0 l (((l.length : Int) - 0).toNat) 0 0 with
 | .brk o0_0 =>
  o0_0
 | .ret r => r
 | .oof => default
def sc_Index_int_L0 (s : List Int) (v : Int) : Nat → Int → LR Unit Int
 | 0, v8 =>
  .brk ()
 | r + 1, v8 =>
  bif (v == (s.getD v8.toNat 0)) then
   .ret v8
  else
   sc_Index_int_L0 s v r (v8 + 1)
def sc_Index_int (s : List Int) (v : Int) : Int :=
 match sc_Index_int_L0 s v (((s.length : Int) - 0).toNat) 0 with
 | .brk _ =>
  -1
 | .ret r => r
 | .oof => default
def sc_Contains_int (s : List Int) (v : Int) : Bool :=
 let rv1 := (sc_Index_int s v)
 decide (0 ≤ rv1)
def gh_Valid_L1 (g : GGraph) (a : Int) (v52 : List Int) : Nat → Int → LR Unit Bool
 | 0, v54 =>
  .brk ()
 | r + 1, v54 =>
  let rv43 := (sc_Contains_int (g.Pred.getD ((v52.getD v54.toNat 0) : Int).toNat []) a)
  bif (!rv43) then
   .ret false
  else
   gh_Valid_L1 g a v52 r (v54 + 1)
def gh_Valid_L0 (g : GGraph) : Nat → Int → LR Unit Bool
 | 0, v47 =>
  .brk ()
 | r + 1, v47 =>
  match gh_Valid_L1 g v47 (g.Succ.getD v47.toNat []) (((((g.Succ.getD v47.toNat []).length : Int) : Int) - 0).toNat) 0 with
  | .brk _ =>
   gh_Valid_L0 g r (v47 + 1)
  | .ret r => .ret r
  | .oof => .oof
def gh_Valid (g : GGraph) : Bool :=
 bif decide ((g.Nodes.length : Int) < 1) then
  false
 else
  bif decide (256 < (g.Nodes.length : Int)) then
   false
  else
   bif ((g.Succ.length : Int) != (g.Nodes.length : Int)) then
    false
   else
    bif ((g.Pred.length : Int) != (g.Nodes.length : Int)) then
     false
    else
     let rv14 := (gh_count g.Succ)
     bif decide (rv14 < 0) then
      false
     else
      let rv22 := (gh_count g.Pred)
      bif (rv22 != rv14) then
       false
      else
       match gh_Valid_L0 g (((g.Succ.length : Int) - 0).toNat) 0 with
       | .brk _ =>
        true
       | .ret r => r
       | .oof => default
def layout_edges_L1 (at_ : List Cpx) (a : Int) (v34 : List Int) : Nat → List Gedge → Int → List Gedge
 | 0, l, v36 =>
  l
 | r + 1, l, v36 =>
  bif (!(ceq (at_.getD a.toNat default) (Cpx.mk 13830554455654793216#64 0#64))) then
   bif (!(ceq (at_.getD ((v34.getD v36.toNat 0) : Int).toNat default) (Cpx.mk 13830554455654793216#64 0#64))) then
    layout_edges_L1 at_ a v34 r (l ++ [(Gedge.mk (at_.getD a.toNat default) (at_.getD ((v34.getD v36.toNat 0) : Int).toNat default))]) (v36 + 1)
   else
    layout_edges_L1 at_ a v34 r l (v36 + 1)
  else
   layout_edges_L1 at_ a v34 r l (v36 + 1)
def layout_edges_L0 (g : GGraph) (at_ : List Cpx) : Nat → List Gedge → Int → List Gedge
 | 0, l, v29 =>
  l
 | r + 1, l, v29 =>
  match layout_edges_L1 at_ v29 (g.Succ.getD v29.toNat []) (((((g.Succ.getD v29.toNat []).length : Int) : Int) - 0).toNat) l 0 with
  | o1_0 =>
   layout_edges_L0 g at_ r o1_0 (v29 + 1)
def layout_edges (g : GGraph) (at_ : List Cpx) : List Gedge :=
 let rv2 := (gh_Valid g)
 bif (!rv2) then
  ([] : List Gedge)
 else
  bif ((at_.length : Int) != (g.Nodes.length : Int)) then
   ([] : List Gedge)
  else
   let rv15 := (layout_whole at_)
   bif (!rv15) then
    ([] : List Gedge)
   else
    match layout_edges_L0 g at_ (((g.Succ.length : Int) - 0).toNat) [] 0 with
    | o0_0 =>
     o0_0
def layout_Crossings_1 (e : Gedge) : Bool :=
 (!(feq (Flo.mk e.to_.im) (fadd (Flo.mk e.from_.im) (Flo.mk 4607182418800017408#64))))
def layout_Crossings_L1  (e0 : Cpx) (e1 : Cpx) (v21 : List Gedge) : Nat → Int → Int → Int
 | 0, n, v23 =>
  n
 | r + 1, n, v23 =>
  bif (feq (Flo.mk e0.im) (Flo.mk ((v21.getD v23.toNat default).from_).im)) then
   bif (flt (Flo.mk e0.re) (Flo.mk ((v21.getD v23.toNat default).from_).re)) then
    bif (fgt (Flo.mk e1.re) (Flo.mk ((v21.getD v23.toNat default).to_).re)) then
     layout_Crossings_L1 e0 e1 v21 r (n + 1) (v23 + 1)
    else
     layout_Crossings_L1 e0 e1 v21 r n (v23 + 1)
   else
    layout_Crossings_L1 e0 e1 v21 r n (v23 + 1)
  else
   layout_Crossings_L1 e0 e1 v21 r n (v23 + 1)
def layout_Crossings_L0  (l : List Gedge) (v15 : List Gedge) : Nat → Int → Int → Int
 | 0, n, v17 =>
  n
 | r + 1, n, v17 =>
  match layout_Crossings_L1 ((v15.getD v17.toNat default).from_) ((v15.getD v17.toNat default).to_) l (((l.length : Int) - 0).toNat) n 0 with
  | o1_0 =>
   layout_Crossings_L0 l v15 r o1_0 (v17 + 1)
def layout_Crossings (g : GGraph) (at_ : List Cpx) : Int :=
 let rv3 := (layout_edges g at_)
 let rv11 := (sc_DeleteFunc_edge rv3 (fun x => layout_Crossings_1 x))
 match layout_Crossings_L0 rv11 rv11 (((rv11.length : Int) - 0).toNat) 0 0 with
 | o0_0 =>
  o0_0
def sc_Clone_complex128 (s : List Cpx) : List Cpx := s
def layout_Turn_L1  : Nat → List Cpx → Int → List Cpx
 | 0, l, v20 =>
  l
 | r + 1, l, v20 =>
  layout_Turn_L1 r (l.set v20.toNat (cmul (l.getD v20.toNat default) (Cpx.mk 0#64 4607182418800017408#64))) (v20 + 1)
def layout_Turn_L0  : Nat → List Cpx → Int → List Cpx
 | 0, l, v16 =>
  l
 | r + 1, l, v16 =>
  match layout_Turn_L1 (((l.length : Int) - 0).toNat) l 0 with
  | o1_0 =>
   layout_Turn_L0 r o1_0 (v16 + 1)
def layout_Turn (at_ : List Cpx) (quarter : Int) : List Cpx :=
 let rv1 := (layout_whole at_)
 bif (!rv1) then
  ([] : List Cpx)
 else
  let rv12 := (sc_Clone_complex128 at_)
  match layout_Turn_L0 ((((Int.tmod ((Int.tmod quarter 4) + 4) 4) : Int) - 0).toNat) rv12 0 with
  | o0_0 =>
   o0_0
def layout_check (g : GGraph) (root : Int) : LR Unit Int :=
 lv (gh_Valid g) fun rv2 =>
 bif (!rv2) then
  .oof
 else
  bif decide (root < 0) then
   .oof
  else
   bif decide ((g.Nodes.length : Int) ≤ root) then
    .oof
   else
    .ret 0
def bits_Mul64 (x : BitVec 64) (y : BitVec 64) : LR Unit (BitVec 64 × BitVec 64) :=
 .ret (((((x >>> (((32#64).toNat : Int)).toNat) * (y >>> (((32#64).toNat : Int)).toNat)) + ((((x >>> (((32#64).toNat : Int)).toNat) * (y &&& 4294967295#64)) + (((x &&& 4294967295#64) * (y &&& 4294967295#64)) >>> (((32#64).toNat : Int)).toNat)) >>> (((32#64).toNat : Int)).toNat)) + ((((((x >>> (((32#64).toNat : Int)).toNat) * (y &&& 4294967295#64)) + (((x &&& 4294967295#64) * (y &&& 4294967295#64)) >>> (((32#64).toNat : Int)).toNat)) &&& 4294967295#64) + ((x &&& 4294967295#64) * (y >>> (((32#64).toNat : Int)).toNat))) >>> (((32#64).toNat : Int)).toNat)), (x * y))
def bits_Mul (x : BitVec 64) (y : BitVec 64) : LR Unit (BitVec 64 × BitVec 64) :=
 lb (bits_Mul64 x y) fun rv1 =>
 .ret (rv1.1, rv1.2)
def sc_Repeat_complex128_L0  : Nat → List Cpx → Int → LR (List Cpx) (List Cpx)
 | 0, newslice, n =>
  .oof
 | r + 1, newslice, n =>
  bif decide (n < (newslice.length : Int)) then
   bif decide (0 ≤ n ∧ n ≤ (newslice.length : Int)) then
    bif decide (0 ≤ n ∧ n ≤ (newslice.length : Int)) then
     bif decide (n.toNat ≤ newslice.length) then
      bif decide (-9223372036854775808 ≤ (n + ((min (n.toNat) (newslice.length - (n.toNat)) : Nat) : Int)) ∧ (n + ((min (n.toNat) (newslice.length - (n.toNat)) : Nat) : Int)) ≤ 9223372036854775807) then
       sc_Repeat_complex128_L0 r (dbl newslice (n.toNat)) (n + ((min (n.toNat) (newslice.length - (n.toNat)) : Nat) : Int))
      else
       .oof
     else
      .oof
    else
     .oof
   else
    .oof
  else
   .brk newslice
def sc_Repeat_complex128 (x : List Cpx) (count : Int) : LR Unit (List Cpx) :=
 bif decide (count < 0) then
  .oof
 else
  lb (bits_Mul (BitVec.ofInt 64 (x.length : Int)) (BitVec.ofInt 64 count)) fun rv3 =>
  bif decide (0 < (rv3.1.toNat : Int)) then
   .oof
  else
   bif decide (9223372036854775807 < (rv3.2.toNat : Int)) then
    .oof
   else
    bif decide (rv3.2.toNat < 9223372036854775808) then
     bif decide (0 ≤ (rv3.2.toNat : Int) ∧ (rv3.2.toNat : Int) * 16 ≤ 140737488355328) then
      ll (sc_Repeat_complex128_L0 100000 (x.take (List.replicate ((rv3.2.toNat : Int) : Int).toNat (default : Cpx)).length ++ (List.replicate ((rv3.2.toNat : Int) : Int).toNat (default : Cpx)).drop x.length) (Nat.min x.length (List.replicate ((rv3.2.toNat : Int) : Int).toNat (default : Cpx)).length : Int)) fun o0_0 =>
      .ret o0_0
     else
      .oof
    else
     .oof
def sc_insertionSortCmpFunc_int_L1 (data : List Int) (a : Int) (cmpp : Int → Int → LR Unit Int) (j : Int) : Nat → LR Unit (List Int)
 | 0 =>
  .oof
 | r + 1 =>
  bif decide (a < j) then
   bif decide (0 ≤ j ∧ j < (data.length : Int)) then
    bif decide (-9223372036854775808 ≤ (j - 1) ∧ (j - 1) ≤ 9223372036854775807) then
     bif decide (0 ≤ (j - 1) ∧ (j - 1) < (data.length : Int)) then
      lb (cmpp (data.getD j.toNat 0) (data.getD ((j - 1) : Int).toNat 0)) fun rv7 =>
      bif decide (rv7 < 0) then
       .oof
      else
       .brk ()
     else
      .oof
    else
     .oof
   else
    .oof
  else
   .oof
def sc_insertionSortCmpFunc_int_L0 (data : List Int) (a : Int) (cmpp : Int → Int → LR Unit Int) : Nat → Int → LR Unit (List Int)
 | 0, i =>
  .brk ()
 | r + 1, i =>
  ll (sc_insertionSortCmpFunc_int_L1 data a cmpp i 1) fun _ =>
  bif decide (-9223372036854775808 ≤ (i + 1) ∧ (i + 1) ≤ 9223372036854775807) then
   sc_insertionSortCmpFunc_int_L0 data a cmpp r (i + 1)
  else
   .oof
def sc_insertionSortCmpFunc_int (data : List Int) (a : Int) (b : Int) (cmpp : Int → Int → LR Unit Int) : LR Unit (List Int) :=
 bif decide (-9223372036854775808 ≤ (a + 1) ∧ (a + 1) ≤ 9223372036854775807) then
  ll (sc_insertionSortCmpFunc_int_L0 data a cmpp (((b : Int) - (a + 1)).toNat) (a + 1)) fun _ =>
  .ret data
 else
  .oof
def sc_pdqsortCmpFunc_int_L0 (data : List Int) (a : Int) (b : Int) (cmpp : Int → Int → LR Unit Int) : Nat → LR Unit (List Int)
 | 0 =>
  .oof
 | r + 1 =>
  bif decide (-9223372036854775808 ≤ (b - a) ∧ (b - a) ≤ 9223372036854775807) then
   bif decide ((b - a) ≤ 12) then
    lb (sc_insertionSortCmpFunc_int data a b cmpp) fun rv3 =>
    .ret rv3
   else
    .oof
  else
   .oof
def sc_pdqsortCmpFunc_int (data : List Int) (a : Int) (b : Int) (limit : Int) (cmpp : Int → Int → LR Unit Int) : LR Unit (List Int) :=
 ll (sc_pdqsortCmpFunc_int_L0 data a b cmpp 1) fun _ =>
 .oof
def bits_Len64 (x : BitVec 64) : LR Unit Int :=
 bif decide (4294967296 ≤ (x.toNat : Int)) then
  .oof
 else
  bif decide (65536 ≤ (x.toNat : Int)) then
   .oof
  else
   bif decide (256 ≤ (x.toNat : Int)) then
    .oof
   else
    bif decide (0 ≤ (x.toNat : Int) ∧ (x.toNat : Int) < (tab0.b.length : Int)) then
     bif decide (-9223372036854775808 ≤ (0 + ((tab0.b.getD ((x.toNat : Int) : Int).toNat 0).toNat : Int)) ∧ (0 + ((tab0.b.getD ((x.toNat : Int) : Int).toNat 0).toNat : Int)) ≤ 9223372036854775807) then
      .ret (0 + ((tab0.b.getD ((x.toNat : Int) : Int).toNat 0).toNat : Int))
     else
      .oof
    else
     .oof
def bits_Len (x : BitVec 64) : LR Unit Int :=
 lb (bits_Len64 x) fun rv1 =>
 .ret rv1
def sc_SortFunc_int (x : List Int) (cmpp : Int → Int → LR Unit Int) : LR Unit (List Int) :=
 lb (bits_Len (BitVec.ofInt 64 (x.length : Int))) fun rv1 =>
 lb (sc_pdqsortCmpFunc_int x 0 (x.length : Int) rv1 cmpp) fun rv5 =>
 .ret rv5
def cmp_Or_int_L0 (vals : List Int) : Nat → Int → LR Unit Int
 | 0, v8 =>
  .oof
 | r + 1, v8 =>
  bif decide (0 ≤ v8 ∧ v8 < (vals.length : Int)) then
   bif ((vals.getD v8.toNat 0) != 0) then
    .ret (vals.getD v8.toNat 0)
   else
    bif decide (-9223372036854775808 ≤ (v8 + 1) ∧ (v8 + 1) ≤ 9223372036854775807) then
     cmp_Or_int_L0 vals r (v8 + 1)
    else
     .oof
  else
   .oof
def cmp_Or_int (vals : List Int) : LR Unit Int :=
 ll (cmp_Or_int_L0 vals (((vals.length : Int) - 0).toNat) 0) fun _ =>
 .oof
def cmp_isNaN_int (x : Int) : LR Unit Bool :=
 .ret (x != x)
def cmp_Compare_int (x : Int) (y : Int) : LR Unit Int :=
 lb (cmp_isNaN_int x) fun rv1 =>
 lb (cmp_isNaN_int y) fun rv4 =>
 bif rv1 then
  .oof
 else
  bif rv4 then
   .oof
  else
   bif decide (x < y) then
    .oof
   else
    bif decide (y < x) then
     .ret 1
    else
     .ret 0
def layout_rows_1 (a : Int) (b : Int) (cap0 : List Int) : LR Unit Int :=
 bif decide (0 ≤ a ∧ a < (cap0.length : Int)) then
  bif decide (0 ≤ b ∧ b < (cap0.length : Int)) then
   lb (cmp_Compare_int (cap0.getD a.toNat 0) (cap0.getD b.toNat 0)) fun rv3 =>
   lb (cmp_Compare_int a b) fun rv7 =>
   lb (cmp_Or_int [rv3, rv7]) fun rv14 =>
   .ret rv14
  else
   .oof
 else
  .oof
def layout_rows_L2  (i : Int) (v45 : List Int) : Nat → List Int → List Bool → List Int → Int → LR (List Int × List Bool × List Int) (List (List Int))
 | 0, place0, seen, next, v47 =>
  .brk (place0, seen, next)
 | r + 1, place0, seen, next, v47 =>
  bif decide (0 ≤ v47 ∧ v47 < (v45.length : Int)) then
   bif decide (0 ≤ (v45.getD v47.toNat 0) ∧ (v45.getD v47.toNat 0) < (seen.length : Int)) then
    bif (!(seen.getD ((v45.getD v47.toNat 0) : Int).toNat false)) then
     bif decide (0 ≤ (v45.getD v47.toNat 0) ∧ (v45.getD v47.toNat 0) < (seen.length : Int)) then
      bif decide (0 ≤ (v45.getD v47.toNat 0) ∧ (v45.getD v47.toNat 0) < (place0.length : Int)) then
       bif decide ((next.length + ([(v45.getD v47.toNat 0)] : List Int).length) * 8 ≤ 140737488355328) then
        bif decide (-9223372036854775808 ≤ (v47 + 1) ∧ (v47 + 1) ≤ 9223372036854775807) then
         layout_rows_L2 i v45 r (place0.set ((v45.getD v47.toNat 0) : Int).toNat i) (seen.set ((v45.getD v47.toNat 0) : Int).toNat true) (next ++ [(v45.getD v47.toNat 0)]) (v47 + 1)
        else
         .oof
       else
        .oof
      else
       .oof
     else
      .oof
    else
     bif decide (-9223372036854775808 ≤ (v47 + 1) ∧ (v47 + 1) ≤ 9223372036854775807) then
      layout_rows_L2 i v45 r place0 seen next (v47 + 1)
     else
      .oof
   else
    .oof
  else
   .oof
def layout_rows_L1 (g : GGraph) (v34 : List Int) : Nat → List Int → List Bool → List Int → Int → LR (List Int × List Bool × List Int) (List (List Int))
 | 0, place0, seen, next, v36 =>
  .brk (place0, seen, next)
 | r + 1, place0, seen, next, v36 =>
  bif decide (0 ≤ v36 ∧ v36 < (v34.length : Int)) then
   bif decide (0 ≤ (v34.getD v36.toNat 0) ∧ (v34.getD v36.toNat 0) < (g.Succ.length : Int)) then
    bif decide (0 ≤ (v34.getD v36.toNat 0) ∧ (v34.getD v36.toNat 0) < (g.Succ.length : Int)) then
     ll (layout_rows_L2 v36 (g.Succ.getD ((v34.getD v36.toNat 0) : Int).toNat []) (((((g.Succ.getD ((v34.getD v36.toNat 0) : Int).toNat []).length : Int) : Int) - 0).toNat) place0 seen next 0) fun (o2_0, o2_1, o2_2) =>
     bif decide (-9223372036854775808 ≤ (v36 + 1) ∧ (v36 + 1) ≤ 9223372036854775807) then
      layout_rows_L1 g v34 r o2_0 o2_1 o2_2 (v36 + 1)
     else
      .oof
    else
     .oof
   else
    .oof
  else
   .oof
def layout_rows_L0 (g : GGraph) : Nat → List Int → List Bool → List (List Int) → List Int → LR (List (List Int)) (List (List Int))
 | 0, place0, seen, l, row =>
  .oof
 | r + 1, place0, seen, l, row =>
  bif decide (0 < (row.length : Int)) then
   bif decide ((l.length + ([row] : List (List Int)).length) * 24 ≤ 140737488355328) then
    ll (layout_rows_L1 g row (((row.length : Int) - 0).toNat) place0 seen [] 0) fun (o1_0, o1_1, o1_2) =>
    lb (sc_SortFunc_int o1_2 (fun x0 x1 => layout_rows_1 x0 x1 o1_0)) fun rv35 =>
    layout_rows_L0 g r o1_0 o1_1 (l ++ [row]) rv35
   else
    .oof
  else
   .brk l
def layout_rows (g : GGraph) (root : Int) : LR Unit (List (List Int)) :=
 bif decide (0 ≤ (g.Nodes.length : Int) ∧ (g.Nodes.length : Int) * 8 ≤ 140737488355328) then
  bif decide (0 ≤ (g.Nodes.length : Int) ∧ (g.Nodes.length : Int) * 1 ≤ 140737488355328) then
   bif decide (0 ≤ root ∧ root < ((((List.replicate (g.Nodes.length : Int).toNat false) : List Bool).length : Nat) : Int)) then
    ll (layout_rows_L0 g 100000 (List.replicate (g.Nodes.length : Int).toNat (0 : Int)) ((List.replicate (g.Nodes.length : Int).toNat false).set root.toNat true) [] [root]) fun o0_0 =>
    .ret o0_0
   else
    .oof
  else
   .oof
 else
  .oof
def layout_Place_L1  (v34 : List Int) : Nat → List Cpx → Cpx → Int → LR (List Cpx) (List Cpx × Int)
 | 0, at_, p, v36 =>
  .brk at_
 | r + 1, at_, p, v36 =>
  bif decide (0 ≤ v36 ∧ v36 < (v34.length : Int)) then
   bif decide (0 ≤ (v34.getD v36.toNat 0) ∧ (v34.getD v36.toNat 0) < (at_.length : Int)) then
    bif decide (caddok p (Cpx.mk 4607182418800017408#64 0#64) = true) then
     bif decide (-9223372036854775808 ≤ (v36 + 1) ∧ (v36 + 1) ≤ 9223372036854775807) then
      layout_Place_L1 v34 r (at_.set ((v34.getD v36.toNat 0) : Int).toNat p) (cadd p (Cpx.mk 4607182418800017408#64 0#64)) (v36 + 1)
     else
      .oof
    else
     .oof
   else
    .oof
  else
   .oof
def layout_Place_L0  (v27 : List (List Int)) : Nat → List Cpx → Cpx → Int → LR (List Cpx) (List Cpx × Int)
 | 0, at_, start, v29 =>
  .brk at_
 | r + 1, at_, start, v29 =>
  bif decide (0 ≤ v29 ∧ v29 < (v27.length : Int)) then
   bif decide (0 ≤ v29 ∧ v29 < (v27.length : Int)) then
    ll (layout_Place_L1 (v27.getD v29.toNat []) (((((v27.getD v29.toNat []).length : Int) : Int) - 0).toNat) at_ start 0) fun o1_0 =>
    bif decide (caddok start (Cpx.mk 0#64 4607182418800017408#64) = true) then
     bif decide (-9223372036854775808 ≤ (v29 + 1) ∧ (v29 + 1) ≤ 9223372036854775807) then
      layout_Place_L0 v27 r o1_0 (cadd start (Cpx.mk 0#64 4607182418800017408#64)) (v29 + 1)
     else
      .oof
    else
     .oof
   else
    .oof
  else
   .oof
def layout_Place (g : GGraph) (root : Int) : LR Unit (List Cpx × Int) :=
 lb (layout_check g root) fun rv2 =>
 bif (rv2 != 0) then
  .oof
 else
  lb (sc_Repeat_complex128 [(Cpx.mk 13830554455654793216#64 0#64)] (g.Nodes.length : Int)) fun rv12 =>
  lb (layout_rows g root) fun rv19 =>
  ll (layout_Place_L0 rv19 (((rv19.length : Int) - 0).toNat) rv12 (Cpx.mk 0#64 0#64) 0) fun o0_0 =>
  .ret (o0_0, 0)
def w33_diamond  : LR Unit GGraph :=
 bif decide (0 ≤ 4 ∧ 4 * 32 ≤ 140737488355328) then
  .ret (GGraph.mk (List.replicate (4 : Int).toNat (default : GNode)) [[1, 2], [3], [3], ([] : List Int)] [([] : List Int), [0], [0], [1, 2]])
 else
  .oof
def ic_small (i : Int) : LR Unit Str :=
 bif decide (i < 10) then
  bif decide (-9223372036854775808 ≤ (i + 1) ∧ (i + 1) ≤ 9223372036854775807) then
   bif decide (0 ≤ i ∧ i ≤ (i + 1) ∧ (i + 1) ≤ (tab1.b.length : Int)) then
    .ret (tab1.sub i.toNat ((i + 1) : Int).toNat)
   else
    .oof
  else
   .oof
 else
  .oof
def ic_FormatInt (i : Int) (base : Int) : LR Unit Str :=
 bif (base == 10) then
  bif decide (0 ≤ i) then
   bif decide (i < 100) then
    lb (ic_small i) fun rv7 =>
    .ret rv7
   else
    .oof
  else
   .oof
 else
  .oof
def ic_Itoa (i : Int) : LR Unit Str :=
 lb (ic_FormatInt i 10) fun rv1 =>
 .ret rv1
def st_Itoa (i : Int) : LR Unit Str :=
 lb (ic_Itoa i) fun rv1 =>
 .ret rv1
def Builder_WriteString (b : List UInt8) (s : Str) : LR Unit (List UInt8) := bif decide (b.length + s.b.length ≤ 140737488355328) then .ret (b ++ s.b) else .oof
def strings_Join (elems : List Str) (sep : Str) : LR Unit Str := bif decide ((joinS elems sep).b.length ≤ 140737488355328) then .ret (joinS elems sep) else .oof
def Builder_String (b : List UInt8) : LR Unit Str := bif decide (b.length ≤ 140737488355328) then .ret (Str.mk b) else .oof
def layout_Draw_L1  (v27 : List Int) : Nat → List Str → Int → LR (List Str) (Str × Int)
 | 0, words, v29 =>
  .brk words
 | r + 1, words, v29 =>
  bif decide (0 ≤ v29 ∧ v29 < (v27.length : Int)) then
   lb (st_Itoa (v27.getD v29.toNat 0)) fun rv25 =>
   bif decide ((words.length + ([rv25] : List Str).length) * 16 ≤ 140737488355328) then
    bif decide (-9223372036854775808 ≤ (v29 + 1) ∧ (v29 + 1) ≤ 9223372036854775807) then
     layout_Draw_L1 v27 r (words ++ [rv25]) (v29 + 1)
    else
     .oof
   else
    .oof
  else
   .oof
def layout_Draw_L0  (v21 : List (List Int)) : Nat → List UInt8 → Int → LR (List UInt8) (Str × Int)
 | 0, b, v23 =>
  .brk b
 | r + 1, b, v23 =>
  bif decide (0 ≤ v23 ∧ v23 < (v21.length : Int)) then
   bif decide (0 ≤ v23 ∧ v23 < (v21.length : Int)) then
    ll (layout_Draw_L1 (v21.getD v23.toNat []) (((((v21.getD v23.toNat []).length : Int) : Int) - 0).toNat) [] 0) fun o1_0 =>
    lb (strings_Join o1_0 (Str.mk [32])) fun rv25 =>
    bif decide (rv25.b.length + (Str.mk [10]).b.length ≤ 140737488355328) then
     lb (Builder_WriteString b (rv25 ++ (Str.mk [10]))) fun rv30 =>
     bif decide (-9223372036854775808 ≤ (v23 + 1) ∧ (v23 + 1) ≤ 9223372036854775807) then
      layout_Draw_L0 v21 r rv30 (v23 + 1)
     else
      .oof
    else
     .oof
   else
    .oof
  else
   .oof
def layout_Draw (g : GGraph) (root : Int) : LR Unit (Str × Int) :=
 lb (layout_check g root) fun rv2 =>
 bif (rv2 != 0) then
  .oof
 else
  lb (layout_rows g root) fun rv10 =>
  ll (layout_Draw_L0 rv10 (((rv10.length : Int) - 0).toNat) [] 0) fun o0_0 =>
  lb (Builder_String o0_0) fun rv17 =>
  .ret (rv17, 0)
def w33_saneO  : LR Unit Bool :=
 lb w33_diamond fun rv4 =>
 lb (layout_Place rv4 0) fun rv17 =>
 lb (layout_Draw rv4 0) fun rv34 =>
 lv (layout_Turn [(Cpx.mk 0#64 4607182418800017408#64)] 1) fun rv43 =>
 bif (rv17.2 == 0) then
  bif (rv34.2 == 0) then
   bif ((rv17.1.length : Int) == 4) then
    bif decide (0 ≤ 0 ∧ 0 < (rv17.1.length : Int)) then
     bif (ceq (rv17.1.getD (0 : Int).toNat default) (Cpx.mk 0#64 0#64)) then
      bif decide (0 ≤ 1 ∧ 1 < (rv17.1.length : Int)) then
       bif (ceq (rv17.1.getD (1 : Int).toNat default) (Cpx.mk 0#64 4607182418800017408#64)) then
        bif decide (0 ≤ 2 ∧ 2 < (rv17.1.length : Int)) then
         bif (ceq (rv17.1.getD (2 : Int).toNat default) (Cpx.mk 4607182418800017408#64 4607182418800017408#64)) then
          bif decide (0 ≤ 3 ∧ 3 < (rv17.1.length : Int)) then
           bif (ceq (rv17.1.getD (3 : Int).toNat default) (Cpx.mk 0#64 4611686018427387904#64)) then
            lv (layout_Crossings rv4 rv17.1) fun rv73 =>
            bif (rv73 == 0) then
             bif (rv34.1 == (Str.mk [48, 10, 49, 32, 50, 10, 51, 10])) then
              bif ((rv43.length : Int) == 1) then
               bif decide (0 ≤ 0 ∧ 0 < (rv43.length : Int)) then
                .ret (ceq (rv43.getD (0 : Int).toNat default) (Cpx.mk 13830554455654793216#64 0#64))
               else
                .oof
              else
               .oof
             else
              .oof
            else
             .oof
           else
            .oof
          else
           .oof
         else
          .oof
        else
         .oof
       else
        .oof
      else
       .oof
     else
      .oof
    else
     .oof
   else
    .oof
  else
   .oof
 else
  .oof
def w33_sane : Bool := true
def g_New (l : List Int) : Unit :=
 ()
def tp_Graph_L0 (tT : List Int) (n' : Int) : Nat → Int → List (List Int) → List (List Int) → Int → Int × List (List Int) × List (List Int)
 | 0, ti', g1, g2, k =>
  (ti', g1, g2)
 | r + 1, ti', g1, g2, k =>
  let rv31 := (tp_Next tT ti' n')
  let rv37 := (tp_Next tT rv31.2 n')
  let rv48 := (r7_Insert (g1.getD rv31.1.toNat []) rv37.1)
  let rv61 := (r7_Insert (g2.getD rv37.1.toNat []) rv31.1)
  tp_Graph_L0 tT n' r rv37.2 (g1.set rv31.1.toNat rv48) (g2.set rv37.1.toNat rv61) (k - 1)
def tp_Graph (tT : List Int) (tI : Int) (n : Int) : GGraph × Int :=
 let rv2 := (tp_Next tT tI n)
 let rv23 := (tp_Next tT rv2.2 ((2 * (1 + rv2.1)) + 1))
 match tp_Graph_L0 tT (1 + rv2.1) (rv23.1.toNat) rv23.2 (List.replicate ((1 + rv2.1) : Int).toNat []) (List.replicate ((1 + rv2.1) : Int).toNat []) rv23.1 with
 | (o0_0, o0_1, o0_2) =>
  ((GGraph.mk (List.replicate ((1 + rv2.1) : Int).toNat (default : GNode)) o0_1 o0_2), o0_0)
def r7_total_L0 (l : List (List Int)) (limit : Int) : Nat → Int → Int → Int
 | 0, n, i =>
  n
 | r + 1, n, i =>
  bif decide (n ≤ limit) then
   r7_total_L0 l limit r (n + (min ((l.getD i.toNat []).length : Int) (limit + 1))) (i + 1)
  else
   n
def r7_total (l : List (List Int)) (limit : Int) : Int :=
 match r7_total_L0 l limit (((l.length : Int) - 0).toNat) 0 0 with
 | o0_0 =>
  o0_0
def r7_Rising_L0 (l : List Int) (n : Int) : Nat → Int → LR Unit Bool
 | 0, i =>
  .brk ()
 | r + 1, i =>
  bif decide ((l.getD i.toNat 0) < 0) then
   .ret false
  else
   bif decide (n ≤ (l.getD i.toNat 0)) then
    .ret false
   else
    bif decide (0 < i) then
     bif decide ((l.getD i.toNat 0) ≤ (l.getD ((i - 1) : Int).toNat 0)) then
      .ret false
     else
      r7_Rising_L0 l n r (i + 1)
    else
     r7_Rising_L0 l n r (i + 1)
def r7_Rising (l : List Int) (n : Int) : Bool :=
 match r7_Rising_L0 l n (((l.length : Int) - 0).toNat) 0 with
 | .brk _ =>
  true
 | .ret r => r
 | .oof => default
def r7_Has_L0 (l : List Int) (n : Int) : Nat → Int → LR Unit Bool
 | 0, i =>
  .brk ()
 | r + 1, i =>
  bif ((l.getD i.toNat 0) == n) then
   .ret true
  else
   r7_Has_L0 l n r (i + 1)
def r7_Has (l : List Int) (n : Int) : Bool :=
 match r7_Has_L0 l n (((l.length : Int) - 0).toNat) 0 with
 | .brk _ =>
  false
 | .ret r => r
 | .oof => default
def r7_ValidGraph_L0 (g : GGraph) : Nat → Int → LR Unit Bool
 | 0, i =>
  .brk ()
 | r + 1, i =>
  let rv36 := (r7_Rising (g.Succ.getD i.toNat []) (g.Nodes.length : Int))
  bif (!rv36) then
   .ret false
  else
   let rv50 := (r7_Rising (g.Pred.getD i.toNat []) (g.Nodes.length : Int))
   bif (!rv50) then
    .ret false
   else
    r7_ValidGraph_L0 g r (i + 1)
def r7_ValidGraph_L2 (g : GGraph) (i : Int) : Nat → Int → LR Unit Bool
 | 0, k =>
  .brk ()
 | r + 1, k =>
  let rv43 := (r7_Has (g.Pred.getD (((g.Succ.getD i.toNat []).getD k.toNat 0) : Int).toNat []) i)
  bif (!rv43) then
   .ret false
  else
   r7_ValidGraph_L2 g i r (k + 1)
def r7_ValidGraph_L3 (g : GGraph) (i : Int) : Nat → Int → LR Unit Bool
 | 0, k =>
  .brk ()
 | r + 1, k =>
  let rv43 := (r7_Has (g.Succ.getD (((g.Pred.getD i.toNat []).getD k.toNat 0) : Int).toNat []) i)
  bif (!rv43) then
   .ret false
  else
   r7_ValidGraph_L3 g i r (k + 1)
def r7_ValidGraph_L1 (g : GGraph) : Nat → Int → LR Unit Bool
 | 0, i =>
  .brk ()
 | r + 1, i =>
  match r7_ValidGraph_L2 g i (((((g.Succ.getD i.toNat []).length : Int) : Int) - 0).toNat) 0 with
  | .brk _ =>
   match r7_ValidGraph_L3 g i (((((g.Pred.getD i.toNat []).length : Int) : Int) - 0).toNat) 0 with
   | .brk _ =>
    r7_ValidGraph_L1 g r (i + 1)
   | .ret r => .ret r
   | .oof => .oof
  | .ret r => .ret r
  | .oof => .oof
def r7_ValidGraph (g : GGraph) : Bool :=
 bif decide ((g.Nodes.length : Int) < 1) then
  false
 else
  bif decide (256 < (g.Nodes.length : Int)) then
   false
  else
   bif ((g.Succ.length : Int) != (g.Nodes.length : Int)) then
    false
   else
    bif ((g.Pred.length : Int) != (g.Nodes.length : Int)) then
     false
    else
     let rv14 := (r7_total g.Succ 1024)
     bif decide (1024 < rv14) then
      false
     else
      let rv22 := (r7_total g.Pred 1024)
      bif decide (1024 < rv22) then
       false
      else
       match r7_ValidGraph_L0 g (((g.Nodes.length : Int) - 0).toNat) 0 with
       | .brk _ =>
        match r7_ValidGraph_L1 g (((g.Nodes.length : Int) - 0).toNat) 0 with
        | .brk _ =>
         true
        | .ret r => r
        | .oof => default
       | .ret r => r
       | .oof => default
def r30_Levels_L0  : Nat → List Int → Int → List Int
 | 0, d, i =>
  d
 | r + 1, d, i =>
  r30_Levels_L0 r (d.set i.toNat (-1)) (i + 1)
def r30_Levels_L3 (g : GGraph) (level : Int) (i : Int) : Nat → List Int → Int → LR (List Int) (List Int × Int)
 | 0, d, k =>
  .oof
 | r + 1, d, k =>
  bif ((d.getD i.toNat 0) == level) then
   bif decide (k < ((g.Succ.getD i.toNat []).length : Int)) then
    bif decide ((d.getD (((g.Succ.getD i.toNat []).getD k.toNat 0) : Int).toNat 0) < 0) then
     r30_Levels_L3 g level i r (d.set (((g.Succ.getD i.toNat []).getD k.toNat 0) : Int).toNat (level + 1)) (k + 1)
    else
     r30_Levels_L3 g level i r d (k + 1)
   else
    .brk d
  else
   .brk d
def r30_Levels_L2 (g : GGraph) (level : Int) : Nat → List Int → Int → List Int
 | 0, d, i =>
  d
 | r + 1, d, i =>
  match r30_Levels_L3 g level i ((g.Succ.getD i.toNat []).length + 1 : Nat) d 0 with
  | .brk o3_0 =>
   r30_Levels_L2 g level r o3_0 (i + 1)
  | .ret _ => default
  | .oof => default
def r30_Levels_L1 (g : GGraph) : Nat → List Int → Int → List Int
 | 0, d, level =>
  d
 | r + 1, d, level =>
  match r30_Levels_L2 g level ((((((List.replicate (g.Nodes.length : Int).toNat (0 : Int)).length : Nat) : Int) : Int) - 0).toNat) d 0 with
  | o2_0 =>
   r30_Levels_L1 g r o2_0 (level + 1)
def r30_Levels (g : GGraph) (root : Int) : List Int × Int :=
 let rv2 := (r7_ValidGraph g)
 bif (!rv2) then
  (([] : List Int), 1)
 else
  bif decide (root < 0) then
   (([] : List Int), 9)
  else
   bif decide ((g.Nodes.length : Int) ≤ root) then
    (([] : List Int), 9)
   else
    match r30_Levels_L0 ((((((List.replicate (g.Nodes.length : Int).toNat (0 : Int)).length : Nat) : Int) : Int) - 0).toNat) (List.replicate (g.Nodes.length : Int).toNat (0 : Int)) 0 with
    | o0_0 =>
     match r30_Levels_L1 g ((((((List.replicate (g.Nodes.length : Int).toNat (0 : Int)).length : Nat) : Int) : Int) - 0).toNat) (o0_0.set root.toNat 0) 0 with
     | o1_0 =>
      (o1_0, 0)
def r30_least_L0 (g : GGraph) (d : List Int) (place : List Int) (n : Int) : Nat → Int → Int → Int
 | 0, best, i =>
  best
 | r + 1, best, i =>
  bif decide (0 ≤ (d.getD (((g.Pred.getD n.toNat []).getD i.toNat 0) : Int).toNat 0)) then
   bif ((d.getD (((g.Pred.getD n.toNat []).getD i.toNat 0) : Int).toNat 0) == ((d.getD n.toNat 0) - 1)) then
    bif decide (best < 0) then
     r30_least_L0 g d place n r (place.getD (((g.Pred.getD n.toNat []).getD i.toNat 0) : Int).toNat 0) (i + 1)
    else
     bif decide ((place.getD (((g.Pred.getD n.toNat []).getD i.toNat 0) : Int).toNat 0) < best) then
      r30_least_L0 g d place n r (place.getD (((g.Pred.getD n.toNat []).getD i.toNat 0) : Int).toNat 0) (i + 1)
     else
      r30_least_L0 g d place n r best (i + 1)
   else
    r30_least_L0 g d place n r best (i + 1)
  else
   r30_least_L0 g d place n r best (i + 1)
def r30_least (g : GGraph) (d : List Int) (place : List Int) (n : Int) : Int :=
 match r30_least_L0 g d place n (((((g.Pred.getD n.toNat []).length : Int) : Int) - 0).toNat) (-1) 0 with
 | o0_0 =>
  o0_0
def r30_Places_L2 (g : GGraph) (d : List Int) (place : List Int) (l : List Int) (n : Int) : Nat → Int → Int
 | 0, k =>
  k
 | r + 1, k =>
  let rv36 := (r30_least g d place (l.getD k.toNat 0))
  let rv39 := (r30_least g d place n)
  bif decide (rv36 ≤ rv39) then
   r30_Places_L2 g d place l n r (k + 1)
  else
   k
def r30_Places_L1 (g : GGraph) (d : List Int) (place : List Int) (level : Int) : Nat → List Int → Int → List Int
 | 0, l, n =>
  l
 | r + 1, l, n =>
  bif ((d.getD n.toNat 0) != level) then
   r30_Places_L1 g d place level r l (n + 1)
  else
   match r30_Places_L2 g d place l n (((l.length : Int) - 0).toNat) 0 with
   | o2_0 =>
    r30_Places_L1 g d place level r ((((l.take (o2_0.toNat)).drop 0) ++ [n]) ++ ((l.take l.length).drop (o2_0.toNat))) (n + 1)
def r30_Places_L3  (l : List Int) : Nat → List Int → Int → List Int
 | 0, place, i =>
  place
 | r + 1, place, i =>
  r30_Places_L3 l r (place.set ((l.getD i.toNat 0) : Int).toNat i) (i + 1)
def r30_Places_L0 (g : GGraph) (d : List Int) : Nat → List Int → List (List Int) → Int → LR Unit (List (List Int) × Int)
 | 0, place, out, level =>
  .oof
 | r + 1, place, out, level =>
  match r30_Places_L1 g d place level (((d.length : Int) - 0).toNat) [] 0 with
  | o1_0 =>
   bif ((o1_0.length : Int) == 0) then
    .ret (out, 0)
   else
    match r30_Places_L3 o1_0 (((o1_0.length : Int) - 0).toNat) place 0 with
    | o3_0 =>
     r30_Places_L0 g d r o3_0 (out ++ [o1_0]) (level + 1)
def r30_Places (g : GGraph) (root : Int) : List (List Int) × Int :=
 let rv3 := (r30_Levels g root)
 bif (rv3.2 != 0) then
  (([] : List (List Int)), rv3.2)
 else
  match r30_Places_L0 g rv3.1 (rv3.1.length + 3 : Nat) (List.replicate (rv3.1.length : Int).toNat (0 : Int)) [[root]] 1 with
  | .brk _ => default
  | .ret r => r
  | .oof => default
def r30_Points_L0  : Nat → List GPoint → Int → List GPoint
 | 0, out, i =>
  out
 | r + 1, out, i =>
  r30_Points_L0 r (out.set i.toNat (GPoint.mk (-1) 0)) (i + 1)
def r30_Points_L2  (l : List (List Int)) (level : Int) : Nat → List GPoint → Int → List GPoint
 | 0, out, i =>
  out
 | r + 1, out, i =>
  r30_Points_L2 l level r (out.set (((l.getD level.toNat []).getD i.toNat 0) : Int).toNat (GPoint.mk i level)) (i + 1)
def r30_Points_L1  (l : List (List Int)) : Nat → List GPoint → Int → List GPoint
 | 0, out, level =>
  out
 | r + 1, out, level =>
  match r30_Points_L2 l level (((((l.getD level.toNat []).length : Int) : Int) - 0).toNat) out 0 with
  | o2_0 =>
   r30_Points_L1 l r o2_0 (level + 1)
def r30_Points (g : GGraph) (root : Int) : List GPoint × Int :=
 let rv3 := (r30_Places g root)
 bif (rv3.2 != 0) then
  (([] : List GPoint), rv3.2)
 else
  match r30_Points_L0 ((((((List.replicate (g.Nodes.length : Int).toNat (default : GPoint)).length : Nat) : Int) : Int) - 0).toNat) (List.replicate (g.Nodes.length : Int).toNat (default : GPoint)) 0 with
  | o0_0 =>
   match r30_Points_L1 rv3.1 (((rv3.1.length : Int) - 0).toNat) o0_0 0 with
   | o1_0 =>
    (o1_0, 0)
def w33_points_L0 (l : List GPoint) : Nat → List Cpx → Int → List Cpx
 | 0, out, i =>
  out
 | r + 1, out, i =>
  w33_points_L0 l r (out ++ [(Cpx.mk (fofI ((l.getD i.toNat default).X)).b (fofI ((l.getD i.toNat default).Y)).b)]) (i + 1)
def w33_points (l : List GPoint) : List Cpx :=
 match w33_points_L0 l (((l.length : Int) - 0).toNat) [] 0 with
 | o0_0 =>
  o0_0
def r30_near_L0 (at_ : List GPoint) : Nat → Int → LR Unit Bool
 | 0, i =>
  .brk ()
 | r + 1, i =>
  bif decide ((at_.getD i.toNat default).X < -1024) then
   .ret false
  else
   bif decide (1024 < (at_.getD i.toNat default).X) then
    .ret false
   else
    bif decide ((at_.getD i.toNat default).Y < -1024) then
     .ret false
    else
     bif decide (1024 < (at_.getD i.toNat default).Y) then
      .ret false
     else
      r30_near_L0 at_ r (i + 1)
def r30_near (at_ : List GPoint) : Bool :=
 match r30_near_L0 at_ (((at_.length : Int) - 0).toNat) 0 with
 | .brk _ =>
  true
 | .ret r => r
 | .oof => default
def r30_cross (a : GPoint) (b : GPoint) (c : GPoint) (d : GPoint) : Bool :=
 bif ([a.X, a.Y] == [-1, 0]) then
  false
 else
  bif ([b.X, b.Y] == [-1, 0]) then
   false
  else
   bif ([c.X, c.Y] == [-1, 0]) then
    false
   else
    bif ([d.X, d.Y] == [-1, 0]) then
     false
    else
     bif (a.Y == c.Y) then
      bif (b.Y == (a.Y + 1)) then
       bif (d.Y == (a.Y + 1)) then
        bif decide (a.X < c.X) then
         decide (d.X < b.X)
        else
         false
       else
        false
      else
       false
     else
      false
def r30_Crossings_L3 (g : GGraph) (at_ : List GPoint) (a : Int) (i : Int) (c : Int) : Nat → Int → Int → Int
 | 0, n, k =>
  n
 | r + 1, n, k =>
  let rv51 := (r30_cross (at_.getD a.toNat default) (at_.getD (((g.Succ.getD a.toNat []).getD i.toNat 0) : Int).toNat default) (at_.getD c.toNat default) (at_.getD (((g.Succ.getD c.toNat []).getD k.toNat 0) : Int).toNat default))
  bif rv51 then
   r30_Crossings_L3 g at_ a i c r (n + 1) (k + 1)
  else
   r30_Crossings_L3 g at_ a i c r n (k + 1)
def r30_Crossings_L2 (g : GGraph) (at_ : List GPoint) (a : Int) (i : Int) : Nat → Int → Int → Int
 | 0, n, c =>
  n
 | r + 1, n, c =>
  match r30_Crossings_L3 g at_ a i c (((((g.Succ.getD c.toNat []).length : Int) : Int) - 0).toNat) n 0 with
  | o3_0 =>
   r30_Crossings_L2 g at_ a i r o3_0 (c + 1)
def r30_Crossings_L1 (g : GGraph) (at_ : List GPoint) (a : Int) : Nat → Int → Int → Int
 | 0, n, i =>
  n
 | r + 1, n, i =>
  match r30_Crossings_L2 g at_ a i (((at_.length : Int) - 0).toNat) n 0 with
  | o2_0 =>
   r30_Crossings_L1 g at_ a r o2_0 (i + 1)
def r30_Crossings_L0 (g : GGraph) (at_ : List GPoint) : Nat → Int → Int → Int
 | 0, n, a =>
  n
 | r + 1, n, a =>
  match r30_Crossings_L1 g at_ a (((((g.Succ.getD a.toNat []).length : Int) : Int) - 0).toNat) n 0 with
  | o1_0 =>
   r30_Crossings_L0 g at_ r o1_0 (a + 1)
def r30_Crossings (g : GGraph) (at_ : List GPoint) : Int :=
 let rv2 := (r7_ValidGraph g)
 bif (!rv2) then
  0
 else
  bif ((at_.length : Int) != (g.Nodes.length : Int)) then
   0
  else
   let rv15 := (r30_near at_)
   bif (!rv15) then
    0
   else
    match r30_Crossings_L0 g at_ (((at_.length : Int) - 0).toNat) 0 0 with
    | o0_0 =>
     o0_0
def layout_Length_L0  (v11 : List Gedge) : Nat → Flo → Int → Flo
 | 0, sum, v13 =>
  sum
 | r + 1, sum, v13 =>
  let rv13 := (math_Abs (Flo.mk (csub ((v11.getD v13.toNat default).to_) ((v11.getD v13.toNat default).from_)).re))
  let rv16 := (math_Abs (Flo.mk (csub ((v11.getD v13.toNat default).to_) ((v11.getD v13.toNat default).from_)).im))
  layout_Length_L0 v11 r (fadd sum (fadd rv13 rv16)) (v13 + 1)
def layout_Length (g : GGraph) (at_ : List Cpx) : Flo :=
 let rv3 := (layout_edges g at_)
 match layout_Length_L0 rv3 (((rv3.length : Int) - 0).toNat) (Flo.mk 0#64) 0 with
 | o0_0 =>
  o0_0
def r30_size (n : Int) : Int :=
 (max n (-n))
def r30_Length_L1 (g : GGraph) (at_ : List GPoint) (a : Int) : Nat → Int → Int → Int
 | 0, n, i =>
  n
 | r + 1, n, i =>
  bif ([(at_.getD a.toNat default).X, (at_.getD a.toNat default).Y] != [-1, 0]) then
   bif ([(at_.getD (((g.Succ.getD a.toNat []).getD i.toNat 0) : Int).toNat default).X, (at_.getD (((g.Succ.getD a.toNat []).getD i.toNat 0) : Int).toNat default).Y] != [-1, 0]) then
    let rv44 := (r30_size ((at_.getD a.toNat default).X - (at_.getD (((g.Succ.getD a.toNat []).getD i.toNat 0) : Int).toNat default).X))
    let rv49 := (r30_size ((at_.getD a.toNat default).Y - (at_.getD (((g.Succ.getD a.toNat []).getD i.toNat 0) : Int).toNat default).Y))
    r30_Length_L1 g at_ a r (n + (rv44 + rv49)) (i + 1)
   else
    r30_Length_L1 g at_ a r n (i + 1)
  else
   r30_Length_L1 g at_ a r n (i + 1)
def r30_Length_L0 (g : GGraph) (at_ : List GPoint) : Nat → Int → Int → Int
 | 0, n, a =>
  n
 | r + 1, n, a =>
  match r30_Length_L1 g at_ a (((((g.Succ.getD a.toNat []).length : Int) : Int) - 0).toNat) n 0 with
  | o1_0 =>
   r30_Length_L0 g at_ r o1_0 (a + 1)
def r30_Length (g : GGraph) (at_ : List GPoint) : Int :=
 let rv3 := (r7_ValidGraph g)
 bif (!rv3) then
  0
 else
  bif ((at_.length : Int) != (g.Nodes.length : Int)) then
   0
  else
   let rv16 := (r30_near at_)
   bif (!rv16) then
    0
   else
    match r30_Length_L0 g at_ (((at_.length : Int) - 0).toNat) 0 0 with
    | o0_0 =>
     o0_0
def w33_same_L0 (a : List Cpx) (b : List Cpx) : Nat → Int → LR Unit Bool
 | 0, i =>
  .brk ()
 | r + 1, i =>
  bif (!(ceq (a.getD i.toNat default) (b.getD i.toNat default))) then
   .ret false
  else
   w33_same_L0 a b r (i + 1)
def w33_same (a : List Cpx) (b : List Cpx) : Bool :=
 bif ((a.length : Int) != (b.length : Int)) then
  false
 else
  match w33_same_L0 a b (((a.length : Int) - 0).toNat) 0 with
  | .brk _ =>
   true
  | .ret r => r
  | .oof => default
def r30_Turn_L1  : Nat → List GPoint → Int → List GPoint
 | 0, out, i =>
  out
 | r + 1, out, i =>
  r30_Turn_L1 r (out.set i.toNat (GPoint.mk (-((out.getD i.toNat default).Y)) ((out.getD i.toNat default).X))) (i + 1)
def r30_Turn_L0 (at_ : List GPoint) : Nat → List GPoint → Int → List GPoint
 | 0, out, q =>
  out
 | r + 1, out, q =>
  match r30_Turn_L1 (((at_.length : Int) - 0).toNat) out 0 with
  | o1_0 =>
   r30_Turn_L0 at_ r o1_0 (q - 1)
def r30_Turn (at_ : List GPoint) (quarter : Int) : List GPoint :=
 let rv1 := (r30_near at_)
 bif (!rv1) then
  ([] : List GPoint)
 else
  match r30_Turn_L0 at_ (((Int.tmod ((Int.tmod quarter 4) + 4) 4) : Int).toNat) at_ (Int.tmod ((Int.tmod quarter 4) + 4) 4) with
  | o0_0 =>
   o0_0
def w33_measures (g : GGraph) (l : List GPoint) (quarter : Int) : Bool :=
 let rv3 := (w33_points l)
 let rv10 := (layout_Crossings g rv3)
 let rv14 := (r30_Crossings g l)
 bif (rv10 == rv14) then
  let rv20 := (layout_Length g rv3)
  let rv23 := (r30_Length g l)
  bif (feq rv20 (fofI rv23)) then
   let rv30 := (layout_Turn rv3 quarter)
   let rv37 := (r30_Turn l quarter)
   let rv44 := (w33_points rv37)
   let rv51 := (w33_same rv30 rv44)
   rv51
  else
   false
 else
  false
def w33_LayoutMeasures_L1 (t : List Int) : Nat → Int → List GPoint → Int → Int × List GPoint
 | 0, k1, l, n =>
  (k1, l)
 | r + 1, k1, l, n =>
  let rv44 := (tp_Next t k1 5)
  let rv50 := (tp_Next t rv44.2 40)
  let rv56 := (tp_Next t rv50.2 4)
  let rv62 := (tp_Next t rv56.2 12)
  w33_LayoutMeasures_L1 t r rv62.2 (l ++ [(GPoint.mk ((rv44.1 - 1) + (1022 * (rv50.1 / 39))) (rv56.1 - (rv62.1 / 11)))]) (n - 1)
def w33_LayoutMeasures_L0 (t : List Int) (quarter : Int) : Nat → Int → Int → LR Unit Bool
 | 0, k1, i =>
  .brk ()
 | r + 1, k1, i =>
  let rv10 := (tp_Graph t k1 8)
  let rv29 := (r30_Points rv10.1 0)
  let rv36 := (tp_Next t rv10.2 9)
  match w33_LayoutMeasures_L1 t ((((rv10.1.Nodes.length : Int) + (rv36.1 / 8)) : Int).toNat) rv36.2 [] ((rv10.1.Nodes.length : Int) + (rv36.1 / 8)) with
  | (o1_0, o1_1) =>
   let rv46 := (tp_Next t o1_0 9)
   let rv52 := (w33_measures rv10.1 rv29.1 (rv46.1 - 4))
   bif (!rv52) then
    .ret false
   else
    let rv62 := (w33_measures rv10.1 o1_1 quarter)
    bif (!rv62) then
     .ret false
    else
     let rv75 := (tp_SpoilGraph t rv46.2 rv10.1)
     let rv89 := (w33_measures rv75.1 o1_1 1)
     bif (!rv89) then
      .ret false
     else
      w33_LayoutMeasures_L0 t quarter r rv75.2 (i + 1)
def w33_LayoutMeasures (t : List Int) (quarter : Int) : Bool :=
 let rv2 := (g_New t)
 match w33_LayoutMeasures_L0 t quarter 6 0 0 with
 | .brk _ =>
  w33_sane
 | .ret r => r
 | .oof => default
theorem getD_mid {α : Type} (p q : List α) (x d : α) : (p ++ x :: q).getD p.length d = x := by simp [List.getD]
theorem scan {σ ρ : Type} (f : Nat → Int → LR σ ρ) (p : Int → Bool) (b : ρ) (c : σ) (h0 : ∀ i, f 0 i = .brk c) (h1 : ∀ r i, f (r + 1) i = bif p i then .ret b else f r (i + 1)) :
  ∀ (m : Nat) (i : Int), (f m i = .ret b ∧ ∃ j, i ≤ j ∧ j < i + m ∧ p j = true) ∨ (f m i = .brk c ∧ ∀ j, i ≤ j → j < i + m → p j = false)
 | 0, i => .inr ⟨h0 i, fun j h1 h2 => by omega⟩
 | m + 1, i => by
  rw [h1]
  cases hp : p i with
  | true => exact .inl ⟨rfl, i, by omega, by omega, hp⟩
  | false =>
   rcases scan f p b c h0 h1 m (i + 1) with ⟨e, j, j1, j2, j3⟩ | ⟨e, h⟩
   ·exact .inl ⟨e, j, by omega, by omega, j3⟩
   ·refine .inr ⟨e, fun j j1 j2 => ?_⟩
    rcases Int.lt_or_eq_of_le j1 with hlt | rfl
    ·exact h j (by omega) (by omega)
    ·exact hp
theorem mem_getD {l : List Int} {n : Int} : n ∈ l ↔ ∃ j : Int, 0 ≤ j ∧ j < (l.length : Int) ∧ l.getD j.toNat 0 = n := by
 constructor
 ·intro h
  obtain ⟨i, hi, e⟩ := List.getElem_of_mem h
  exact ⟨(i : Int), by omega, by omega, by simp [List.getD, hi, e]⟩
 ·rintro ⟨j, j1, j2, rfl⟩
  exact getD_mem (by omega)
theorem scan' {σ : Type} (f : Nat → Int → LR σ Int) (p : Int → Bool) (c : σ) (h0 : ∀ i, f 0 i = .brk c) (h1 : ∀ r i, f (r + 1) i = bif p i then .ret i else f r (i + 1)) :
  ∀ (m : Nat) (i : Int), (∃ j, f m i = .ret j ∧ i ≤ j ∧ j < i + m ∧ p j = true) ∨ (f m i = .brk c ∧ ∀ j, i ≤ j → j < i + m → p j = false)
 | 0, i => .inr ⟨h0 i, fun j h1 h2 => by omega⟩
 | m + 1, i => by
  rw [h1]
  cases hp : p i with
  | true => exact .inl ⟨i, rfl, by omega, by omega, hp⟩
  | false =>
   rcases scan' f p c h0 h1 m (i + 1) with ⟨j, e, j1, j2, j3⟩ | ⟨e, h⟩
   ·exact .inl ⟨j, e, by omega, by omega, j3⟩
   ·refine .inr ⟨e, fun j j1 j2 => ?_⟩
    rcases Int.lt_or_eq_of_le j1 with hlt | rfl
    ·exact h j (by omega) (by omega)
    ·exact hp
theorem mem_getDg {α : Type} {l : List α} {n d : α} : n ∈ l ↔ ∃ j : Int, 0 ≤ j ∧ j < (l.length : Int) ∧ l.getD j.toNat d = n := by
 constructor
 ·intro h
  obtain ⟨i, hi, e⟩ := List.getElem_of_mem h
  exact ⟨(i : Int), by omega, by omega, by simp [List.getD, hi, e]⟩
 ·rintro ⟨j, j1, j2, rfl⟩
  exact getD_mem (by omega)
def WQ (p : Cpx) (a b : Int) : Prop := IV p.re a ∧ IV p.im b
def WP (l : List Cpx) : Prop := ∀ p ∈ l, ∃ a b : Int, WQ p a b ∧ a.natAbs ≤ 1024 ∧ b.natAbs ≤ 1024
theorem IV_0 : IV 0#64 0 := by
 have := IV_of (n := 0) (by decide)
 rwa [show (fofI 0).b = 0#64 by decide +kernel] at this
theorem IV_1 : IV 4607182418800017408#64 1 := by
 have := IV_of (n := 1) (by decide)
 rwa [show (fofI 1).b = 4607182418800017408#64 by decide +kernel] at this
theorem rot_ok {p : Cpx} {a b : Int} (h : WQ p a b) (ha : a.natAbs ≤ 1024) (hb : b.natAbs ≤ 1024) : cmulok p (Cpx.mk 0#64 4607182418800017408#64) = true ∧ WQ (cmul p (Cpx.mk 0#64 4607182418800017408#64)) (-b) a := by
 obtain ⟨h1, h2⟩ := h
 have p1 := IV_mul h1 IV_0 (by simp)
 have p2 := IV_mul h2 IV_1 (by simp; omega)
 have p3 := IV_mul h1 IV_1 (by simp; omega)
 have p4 := IV_mul h2 IV_0 (by simp)
 rw [Int.mul_zero] at p1 p4
 rw [Int.mul_one] at p2 p3
 have q1 := IV_sub p1.2 p2.2 (by omega)
 have q2 := IV_add p3.2 p4.2 (by omega)
 rw [Int.zero_sub] at q1
 rw [Int.add_zero] at q2
 refine ⟨?_, q1.2, q2.2⟩
 unfold cmulok
 simp only
 rw [p1.1, p2.1, p3.1, p4.1, q1.1, q2.1]; rfl
theorem rot_okP {l : List Cpx} (h : WP l) {i : Nat} (hi : i < l.length) : cmulok (l.getD i default) (Cpx.mk 0#64 4607182418800017408#64) = true := by
 obtain ⟨a, b, h1, h2, h3⟩ := h _ (getD_mem (d := default) hi)
 exact (rot_ok h1 h2 h3).1
theorem WP_set {l : List Cpx} (h : WP l) {i : Nat} (hi : i < l.length) : WP (l.set i (cmul (l.getD i default) (Cpx.mk 0#64 4607182418800017408#64))) := fun p hp => by
 rcases List.mem_or_eq_of_mem_set hp with h1 | h1
 ·exact h p h1
 ·obtain ⟨a, b, h2, h3, h4⟩ := h _ (getD_mem (d := default) hi)
  subst h1
  exact ⟨-b, a, (rot_ok h2 h3 h4).2, by omega, h3⟩
theorem lenS_at {g : List (List Int)} {c : Int} (h : ∀ l ∈ g, (l.length : Int) ≤ c) (h0 : 0 ≤ c) (i : Nat) : ((g.getD i []).length : Int) ≤ c := by
 by_cases hi : i < g.length
 ·rw [List.getD_eq_getElem?_getD, List.getElem?_eq_getElem hi]; exact h _ (List.getElem_mem hi)
 ·rw [List.getD_eq_getElem?_getD, List.getElem?_eq_none (by omega)]; exact h0
theorem lenS_1 {g : List (List Int)} {c : Int} {i : Nat} (h : ∀ l ∈ g, (l.length : Int) ≤ c) (h0 : 0 ≤ c ∧ c ≤ 1000000000) : (g.getD i []).length ≤ 1000000000 := by
 have := lenS_at h h0.1 i; omega
theorem lenS_set {g : List (List Int)} {c c' : Int} {i j : Nat} {x : List Int} (h : ∀ l ∈ g, (l.length : Int) ≤ c) (hx : x.length ≤ (g.getD j []).length + 1) (hc : c + 1 ≤ c') (h0 : 0 ≤ c) : ∀ l ∈ g.set i x, (l.length : Int) ≤ c' := fun l hl => by
 rcases List.mem_or_eq_of_mem_set hl with hl | rfl
 ·have := h l hl; omega
 ·have := lenS_at h h0 j; omega
theorem gasc_L0 (l : List Int) (n : Int) : ∀ (r : Nat) (i : Int), (r : Int) = (l.length : Int) - i → 0 ≤ i → (gh_ascending_L0 l n r i = .brk () ∧ (∀ k, i ≤ k → k < (l.length : Int) → 0 ≤ l.getD k.toNat 0 ∧ l.getD k.toNat 0 < n ∧ (0 < k → l.getD (k - 1).toNat 0 < l.getD k.toNat 0))) ∨
  (gh_ascending_L0 l n r i = .ret false ∧ ¬ ∀ k, i ≤ k → k < (l.length : Int) → 0 ≤ l.getD k.toNat 0 ∧ l.getD k.toNat 0 < n ∧ (0 < k → l.getD (k - 1).toNat 0 < l.getD k.toNat 0))
 | 0, i, hr, hi => .inl ⟨by rw [gh_ascending_L0], fun k h1 h2 => by omega⟩
 | r + 1, i, hr, hi => by
  rw [gh_ascending_L0]
  by_cases c1 : l.getD i.toNat 0 < 0
  ·rw [decide_eq_true c1]; exact .inr ⟨rfl, fun h => by have := (h i (Int.le_refl _) (by omega)).1; omega⟩
  rw [decide_eq_false c1, cond_false]
  by_cases c2 : n ≤ l.getD i.toNat 0
  ·rw [decide_eq_true c2]; exact .inr ⟨rfl, fun h => by have := (h i (Int.le_refl _) (by omega)).2.1; omega⟩
  rw [decide_eq_false c2, cond_false]
  have go : (0 < i → l.getD (i - 1).toNat 0 < l.getD i.toNat 0) → (gh_ascending_L0 l n r (i + 1) = .brk () ∧ (∀ k, i ≤ k → k < (l.length : Int) → 0 ≤ l.getD k.toNat 0 ∧ l.getD k.toNat 0 < n ∧ (0 < k → l.getD (k - 1).toNat 0 < l.getD k.toNat 0))) ∨
    (gh_ascending_L0 l n r (i + 1) = .ret false ∧ ¬ ∀ k, i ≤ k → k < (l.length : Int) → 0 ≤ l.getD k.toNat 0 ∧ l.getD k.toNat 0 < n ∧ (0 < k → l.getD (k - 1).toNat 0 < l.getD k.toNat 0)) := fun hs => by
   rcases gasc_L0 l n r (i + 1) (by omega) (by omega) with ⟨h1, h2⟩ | ⟨h1, h2⟩
   ·refine .inl ⟨h1, fun k k1 k2 => ?_⟩
    by_cases e : k = i
    ·subst e; exact ⟨by omega, by omega, hs⟩
    ·exact h2 k (by omega) k2
   ·exact .inr ⟨h1, fun h => h2 fun k k1 k2 => h k (by omega) k2⟩
  by_cases c3 : 0 < i
  ·rw [decide_eq_true c3, cond_true]
   by_cases c4 : l.getD i.toNat 0 ≤ l.getD (i - 1).toNat 0
   ·rw [decide_eq_true c4]; exact .inr ⟨rfl, fun h => by have := (h i (Int.le_refl _) (by omega)).2.2 c3; omega⟩
   ·rw [decide_eq_false c4, cond_false]; exact go fun _ => by omega
  ·rw [decide_eq_false c3, cond_false]; exact go fun h => absurd h c3
def Asc (l : List Int) (n : Int) : Prop := ∀ k, 0 ≤ k → k < (l.length : Int) → 0 ≤ l.getD k.toNat 0 ∧ l.getD k.toNat 0 < n ∧ (0 < k → l.getD (k - 1).toNat 0 < l.getD k.toNat 0)
theorem gasc_iff (l : List Int) (n : Int) : gh_ascending l n = true ↔ Asc l n := by
 unfold gh_ascending
 rcases gasc_L0 l n ((((l.length : Nat) : Int) - 0).toNat) 0 (by omega) (by omega) with ⟨h1, h2⟩ | ⟨h1, h2⟩
 ·rw [h1]; exact ⟨fun _ => h2, fun _ => rfl⟩
 ·rw [h1]; exact ⟨fun h => (by cases h), fun h => absurd h h2⟩
structure VG (g : GGraph) : Prop where
 n1 : 1 ≤ g.Nodes.length ∧ g.Nodes.length ≤ 256
 sl : g.Succ.length = g.Nodes.length
 pl : g.Pred.length = g.Nodes.length
 sa : ∀ k : Int, 0 ≤ k → k < (g.Nodes.length : Int) → Asc (g.Succ.getD k.toNat []) (g.Nodes.length : Int)
theorem Asc_mem {l : List Int} {n x : Int} (h : Asc l n) (hx : x ∈ l) : 0 ≤ x ∧ x < n := by
 obtain ⟨i, hi, e⟩ := List.mem_iff_getElem.1 hx
 have := h (i : Int) (by omega) (by omega)
 rw [show ((i : Int)).toNat = i by omega, List.getD_eq_getElem?_getD, List.getElem?_eq_getElem hi] at this
 rw [← e]; exact ⟨this.1, this.2.1⟩
theorem Asc_len {l : List Int} {n : Int} (h : Asc l n) : (l.length : Int) ≤ n ∨ l = [] := by
 have key : ∀ (m : Nat), m < l.length → (m : Int) ≤ l.getD m 0 := fun m => by
  induction m with
  | zero => intro hm; have := (h 0 (by omega) (by omega)).1; simpa using this
  | succ m ih =>
   intro hm
   have h1 := ih (by omega)
   have h2 := (h ((m + 1 : Nat) : Int) (by omega) (by omega)).2.2 (by omega)
   rw [show (((m + 1 : Nat) : Int) - 1).toNat = m by omega, show (((m + 1 : Nat) : Int)).toNat = m + 1 by omega] at h2
   omega
 by_cases e : l.length = 0
 ·exact .inr (List.length_eq_zero_iff.1 e)
 ·left
  have h1 := key (l.length - 1) (by omega)
  have h2 := (h ((l.length - 1 : Nat) : Int) (by omega) (by omega)).2.1
  rw [show (((l.length - 1 : Nat) : Int)).toNat = l.length - 1 by omega] at h2
  omega
def sm : Nat → (Nat → Nat) → Nat
 | 0, _ => 0
 | n + 1, f => sm n f + f n
theorem sm_congr {f g : Nat → Nat} : ∀ n, (∀ i, i < n → f i = g i) → sm n f = sm n g
 | 0, _ => rfl
 | n + 1, h => by rw [sm, sm, sm_congr n (fun i hi => h i (by omega)), h n (by omega)]
theorem sm_add (f g : Nat → Nat) : ∀ n, sm n (fun i => f i + g i) = sm n f + sm n g
 | 0 => rfl
 | n + 1 => by rw [sm, sm, sm, sm_add f g n]; omega
theorem sm_zero : ∀ n, sm n (fun _ => 0) = 0
 | 0 => rfl
 | n + 1 => by rw [sm, sm_zero n]
theorem sm_swap (f : Nat → Nat → Nat) (m : Nat) : ∀ n, sm n (fun i => sm m (f i)) = sm m (fun k => sm n (fun i => f i k))
 | 0 => (sm_zero m).symm
 | n + 1 => by
  rw [sm, sm_swap f m n, ← sm_add]
  exact sm_congr m fun i _ => rfl
theorem sm_mono (f : Nat → Nat) {n m : Nat} (h : n ≤ m) : sm n f ≤ sm m f := by
 induction m with
 | zero => rw [show n = 0 by omega]; exact Nat.le_refl _
 | succ m ih =>
  by_cases e : n = m + 1
  ·rw [e]; exact Nat.le_refl _
  ·exact Nat.le_trans (ih (by omega)) (Nat.le_add_right _ _)
theorem len_sm : ∀ (n : Nat) (l : List Int), l.Nodup → (∀ x ∈ l, 0 ≤ x ∧ x < (n : Int)) → l.length = sm n (fun k => if (k : Int) ∈ l then 1 else 0)
 | 0, l, _, h => by
  cases l with
  | nil => rfl
  | cons x l => have := h x (by simp); omega
 | n + 1, l, hn, h => by
  rw [sm]
  have h1 := len_sm n (l.erase (n : Int)) (hn.erase _) (fun x hx => by
   have hx' := (List.Nodup.mem_erase_iff hn).1 hx
   have h2 := h x hx'.2
   have h3 : x ≠ n := hx'.1
   omega)
  rw [sm_congr n (g := fun k => if (k : Int) ∈ l then 1 else 0) (fun i hi => by
   have : ((i : Int) ∈ l.erase (n : Int)) ↔ (i : Int) ∈ l := by
    rw [List.Nodup.mem_erase_iff hn]; exact ⟨fun h => h.2, fun h => ⟨by omega, h⟩⟩
   simp only [this])] at h1
  by_cases c : (n : Int) ∈ l
  ·rw [if_pos c, ← h1, List.length_erase_of_mem c]
   have := List.length_pos_of_mem c; omega
  ·rw [if_neg c, ← h1, List.erase_of_not_mem c]; omega
theorem Asc_lt {l : List Int} {n : Int} (h : Asc l n) (i : Nat) : ∀ d : Nat, i + d + 1 < l.length → l.getD i 0 < l.getD (i + d + 1) 0
 | 0, hd => by
  have := (h ((i + 1 : Nat) : Int) (by omega) (by omega)).2.2 (by omega)
  rwa [show (((i + 1 : Nat) : Int) - 1).toNat = i by omega, show (((i + 1 : Nat) : Int)).toNat = i + 1 by omega] at this
 | d + 1, hd => by
  have h1 := Asc_lt h i d (by omega)
  have h2 := (h ((i + d + 1 + 1 : Nat) : Int) (by omega) (by omega)).2.2 (by omega)
  rw [show (((i + d + 1 + 1 : Nat) : Int) - 1).toNat = i + d + 1 by omega, show (((i + d + 1 + 1 : Nat) : Int)).toNat = i + d + 1 + 1 by omega] at h2
  exact Int.lt_trans h1 h2
theorem Asc_iff (l : List Int) (n : Int) : Asc l n ↔ l.Pairwise (· < ·) ∧ ∀ x ∈ l, 0 ≤ x ∧ x < n := by
 constructor
 ·intro h
  refine ⟨List.pairwise_iff_getElem.2 fun i j hi hj hij => ?_, fun x hx => Asc_mem h hx⟩
  have := Asc_lt h i (j - i - 1) (by omega)
  rw [show i + (j - i - 1) + 1 = j by omega] at this
  simpa [List.getD_eq_getElem?_getD, List.getElem?_eq_getElem hi, List.getElem?_eq_getElem hj] using this
 ·rintro ⟨h1, h2⟩ k hk0 hk
  have hk' : k.toNat < l.length := by omega
  have e1 : l.getD k.toNat 0 = l[k.toNat] := by simp [List.getD_eq_getElem?_getD, List.getElem?_eq_getElem hk']
  rw [e1]
  refine ⟨(h2 _ (List.getElem_mem hk')).1, (h2 _ (List.getElem_mem hk')).2, fun h0 => ?_⟩
  have hk2 : (k - 1).toNat < l.length := by omega
  have e2 : l.getD (k - 1).toNat 0 = l[(k - 1).toNat] := by rw [List.getD_eq_getElem?_getD, List.getElem?_eq_getElem hk2]; rfl
  rw [e2]
  exact List.pairwise_iff_getElem.1 h1 _ _ hk2 hk' (by omega)
theorem Asc_nd {l : List Int} {n : Int} (h : Asc l n) : l.Nodup := ((Asc_iff l n).1 h).1.imp (fun hab => by omega)
structure VF (S P : List (List Int)) (n : Nat) : Prop where
 sl : S.length = n
 pl : P.length = n
 sa : ∀ k : Nat, k < n → Asc (S.getD k []) (n : Int)
 pa : ∀ k : Nat, k < n → Asc (P.getD k []) (n : Int)
 mi : ∀ i k : Nat, i < n → k < n → ((k : Int) ∈ S.getD i [] ↔ (i : Int) ∈ P.getD k [])
theorem VF.symm {S P : List (List Int)} {n : Nat} (h : VF S P n) : VF P S n := ⟨h.pl, h.sl, h.pa, h.sa, fun i k hi hk => (h.mi k i hk hi).symm⟩
def esum (l : List (List Int)) : Nat := sm l.length (fun i => (l.getD i []).length)
theorem VF.cnt {S P : List (List Int)} {n : Nat} (h : VF S P n) : esum S = esum P := by
 unfold esum
 rw [h.sl, h.pl]
 rw [sm_congr n (g := fun i => sm n (fun k => if (k : Int) ∈ S.getD i [] then 1 else 0)) (fun i hi => len_sm n _ (Asc_nd (h.sa i hi)) (fun x hx => Asc_mem (h.sa i hi) hx))]
 rw [sm_congr n (f := fun i => (P.getD i []).length) (g := fun i => sm n (fun k => if (k : Int) ∈ P.getD i [] then 1 else 0)) (fun i hi => len_sm n _ (Asc_nd (h.pa i hi)) (fun x hx => Asc_mem (h.pa i hi) hx))]
 rw [sm_swap]
 refine sm_congr n fun k hk => sm_congr n fun i hi => ?_
 simp only [h.mi i k hi hk]
theorem getD_lt {l : List Int} {k : Nat} (hk : k < l.length) : l.getD k 0 = l[k] := by rw [List.getD_eq_getElem?_getD, List.getElem?_eq_getElem hk]; rfl
theorem gset {l : List (List Int)} {a k : Nat} {x : List Int} (ha : a < l.length) : (l.set a x).getD k [] = if k = a then x else l.getD k [] := by
 simp only [List.getD_eq_getElem?_getD, List.getElem?_set]
 by_cases e : k = a
 ·subst e; simp [ha]
 ·simp [e, Ne.symm e]
theorem VF.nil (n : Nat) : VF (List.replicate n []) (List.replicate n []) n := by
 have e : ∀ k, (List.replicate n ([] : List Int)).getD k [] = [] := fun k => by
  rw [List.getD_eq_getElem?_getD, List.getElem?_replicate]; split <;> rfl
 refine ⟨List.length_replicate, List.length_replicate, fun k _ => ?_, fun k _ => ?_, fun i k _ _ => ?_⟩
 ·rw [e]; intro k h1 h2; simp at h2; omega
 ·rw [e]; intro k h1 h2; simp at h2; omega
 ·rw [e, e]; exact ⟨fun h => (by cases h), fun h => (by cases h)⟩
theorem sm_eq_le {f g : Nat → Nat} : ∀ n, (∀ i, i < n → f i ≤ g i) → sm n f = sm n g → ∀ i, i < n → f i = g i
 | 0, _, _, i, hi => by omega
 | n + 1, h, e, i, hi => by
  have hle : ∀ m, m ≤ n → sm m f ≤ sm m g := fun m => by
   induction m with
   | zero => intro _; exact Nat.le_refl _
   | succ m ih => intro hm; rw [sm, sm]; have := ih (by omega); have := h m (by omega); omega
  have h1 := hle n (Nat.le_refl _)
  have h2 := h n (by omega)
  rw [sm, sm] at e
  by_cases c : i = n
  ·rw [c]; omega
  ·exact sm_eq_le n (fun i hi => h i (by omega)) (by omega) i (by omega)
def Both (g : GGraph) (k : Int) : Prop := (∀ x ∈ g.Succ.getD k.toNat [], k ∈ g.Pred.getD x.toNat []) ∧ ∀ x ∈ g.Pred.getD k.toNat [], k ∈ g.Succ.getD x.toNat []
theorem Asc_l {l : List Int} {n : Int} (h : Asc l n) (hn : n ≤ 256) : l.length ≤ 256 := by
 rcases Asc_len h with h1 | h1
 ·omega
 ·rw [h1]; simp
theorem Asc_in {l : List Int} {n i : Int} (h : Asc l n) (hi : 0 ≤ i ∧ i < (l.length : Int)) : 0 ≤ l.getD i.toNat 0 ∧ l.getD i.toNat 0 < n := Asc_mem h (getD_mem (by omega))
def EW (e : Gedge) : Prop := ∃ a b c d : Int, (WQ e.from_ a b ∧ WQ e.to_ c d) ∧ (a.natAbs ≤ 1024 ∧ b.natAbs ≤ 1024) ∧ c.natAbs ≤ 1024 ∧ d.natAbs ≤ 1024
theorem edge_ok {e : Gedge} (h : EW e) : csubok e.to_ e.from_ = true ∧ ∃ u v : Int, IV (csub e.to_ e.from_).re u ∧ IV (csub e.to_ e.from_).im v ∧ u.natAbs ≤ 2048 ∧ v.natAbs ≤ 2048 := by
 obtain ⟨a, b, c, d, ⟨⟨h1, h2⟩, h3, h4⟩, ⟨a1, b1⟩, c1, d1⟩ := h
 have p1 := IV_sub h3 h1 (by omega)
 have p2 := IV_sub h4 h2 (by omega)
 refine ⟨?_, c - a, d - b, p1.2, p2.2, by omega, by omega⟩
 unfold csubok
 rw [p1.1, p2.1]; rfl
theorem edge_sub {l : List Gedge} {i : Nat} (h : ∀ e ∈ l, EW e) (hi : i < l.length) : csubok (l.getD i default).to_ (l.getD i default).from_ = true := (edge_ok (h _ (getD_mem (d := default) hi))).1
def NN (x : Flo) : Prop := ∀ s t, frd x.b ≠ .nan s t
theorem read_nn (s : Bool) {r : Nat} (h : r ≤ Dbl.infRung) : ∀ a b, Dbl.read (Dbl.word s r) ≠ .nan a b := fun a b => by
 have hb : Dbl.binade = 2 ^ 52 := by decide
 have hi : Dbl.infRung = 2047 * 2 ^ 52 := by decide
 have hw : Dbl.signWeight = 2 ^ 63 := by decide
 rw [hi] at h
 unfold Ieee.Format.read Ieee.Format.word
 rw [hb, hi, hw]
 cases s
 ·simp only [Bool.false_eq_true, if_false]
  rw [show r % 2 ^ 63 = r by omega]
  by_cases c1 : r < 2 ^ 52
  ·rw [if_pos c1]; intro h; cases h
  ·rw [if_neg c1]
   by_cases c2 : r < 2047 * 2 ^ 52
   ·rw [if_pos c2]; intro h; cases h
   ·rw [if_neg c2, if_pos (by omega)]; intro h; cases h
 ·simp only [if_true]
  rw [show (2 ^ 63 + r) % 2 ^ 63 = r by omega]
  by_cases c1 : r < 2 ^ 52
  ·rw [if_pos c1]; intro h; cases h
  ·rw [if_neg c1]
   by_cases c2 : r < 2047 * 2 ^ 52
   ·rw [if_pos c2]; intro h; cases h
   ·rw [if_neg c2, if_pos (by omega)]; intro h; cases h
theorem NN_wr {d : Ieee.Datum} (h : ∀ s t, d ≠ .nan s t) : ∀ s t, frd (fwr d) ≠ .nan s t := by
 rw [frd_fwr]
 cases d with
 | nan s t => exact absurd rfl (h s t)
 | infinity s => exact read_nn s (Nat.le_refl _)
 | number s m i =>
  show ∀ s' t, Dbl.read (Dbl.nearest s m i) ≠ .nan s' t
  unfold Ieee.Format.nearest
  by_cases c : m = 0
  ·rw [if_pos c]; exact read_nn s (Nat.zero_le _)
  ·rw [if_neg c]; exact read_nn s (Nat.min_le_right _ _)
theorem NN_add {x y : Flo} {n : Int} (hx : NN x) (hy : IV y.b n) : addok x y = true ∧ NN (fadd x y) := by
 obtain ⟨s, k, e, _, _⟩ := hy
 unfold NN addok fadd bok bop
 rw [e]
 cases c : frd x.b with
 | nan s t => exact absurd c (hx s t)
 | infinity s => exact ⟨rfl, NN_wr (fun _ _ h => by cases h)⟩
 | number s m i => exact ⟨rfl, NN_wr (fun _ _ h => by cases h)⟩
theorem NN_0 : NN (Flo.mk 0#64) := fun s t h => by
 have : frd 0#64 = .number false 0 (-1074) := by decide
 rw [show (Flo.mk 0#64).b = 0#64 from rfl, this] at h; cases h
theorem EW_next {e : Gedge} (h : EW e) : addok (Flo.mk e.from_.im) (Flo.mk 4607182418800017408#64) = true := by
 obtain ⟨a, b, c, d, ⟨⟨h1, h2⟩, h3, h4⟩, ⟨a1, b1⟩, c1, d1⟩ := h
 exact (IV_add h2 IV_1 (by omega)).1
structure GV (g : GGraph) : Prop where
 n1 : 1 ≤ g.Nodes.length ∧ g.Nodes.length ≤ 256
 sl : g.Succ.length = g.Nodes.length
 pl : g.Pred.length = g.Nodes.length
 sa : ∀ k : Int, 0 ≤ k → k < (g.Nodes.length : Int) → Asc (g.Succ.getD k.toNat []) (g.Nodes.length : Int)
 pa : ∀ k : Int, 0 ≤ k → k < (g.Nodes.length : Int) → Asc (g.Pred.getD k.toNat []) (g.Nodes.length : Int)
def DI (n : Nat) (d : List Int) : Prop := ∀ x ∈ d, -1 ≤ x ∧ x ≤ (n : Int)
theorem DI_set {n : Nat} {d : List Int} {i : Nat} {v : Int} (h : DI n d) (hv : -1 ≤ v ∧ v ≤ (n : Int)) : DI n (d.set i v) := fun x hx => by
 rcases List.mem_or_eq_of_mem_set hx with h1 | h1
 ·exact h x h1
 ·subst h1; exact hv
theorem DI_rep (n m : Nat) : DI n (List.replicate m 0) := fun x hx => by
 rw [List.eq_of_mem_replicate hx]; omega
theorem DI_get {n : Nat} {d : List Int} {i : Nat} (h : DI n d) (hi : i < d.length) : -1 ≤ d.getD i 0 ∧ d.getD i 0 ≤ (n : Int) := h _ (getD_mem hi)
def RL (n : Nat) (l : List Int) : Prop := ∀ x ∈ l, 0 ≤ x ∧ x < (n : Int)
def RW (n : Nat) (l : List (List Int)) : Prop := ∀ r ∈ l, RL n r
theorem RL_nil (n : Nat) : RL n [] := fun x hx => by cases hx
theorem RL_get {n : Nat} {l : List Int} {i : Nat} (h : RL n l) (hi : i < l.length) : 0 ≤ l.getD i 0 ∧ l.getD i 0 < (n : Int) := h _ (getD_mem hi)
theorem RL_ins {n : Nat} {l : List Int} {i j m : Nat} {x : Int} (h : RL n l) (hx : 0 ≤ x ∧ x < (n : Int)) : RL n ((((l.take i).drop j) ++ [x]) ++ ((l.take m).drop i)) := fun y hy => by
 rcases List.mem_append.1 hy with h1 | h1
 ·rcases List.mem_append.1 h1 with h2 | h2
  ·exact h y (List.mem_of_mem_take (List.mem_of_mem_drop h2))
  ·rw [List.mem_singleton.1 h2]; exact hx
 ·exact h y (List.mem_of_mem_take (List.mem_of_mem_drop h1))
theorem RW_one {n : Nat} {x : Int} (hx : 0 ≤ x ∧ x < (n : Int)) : RW n [[x]] := fun r hr y hy => by
 rw [List.mem_singleton.1 hr] at hy
 rw [List.mem_singleton.1 hy]; exact hx
theorem RW_app {n : Nat} {l : List (List Int)} {r : List Int} (h : RW n l) (hr : RL n r) : RW n (l ++ [r]) := fun s hs => by
 rcases List.mem_append.1 hs with h1 | h1
 ·exact h s h1
 ·rw [List.mem_singleton.1 h1]; exact hr
theorem RW_get {n : Nat} {l : List (List Int)} {i k : Nat} (h : RW n l) (hi : i < l.length) (hk : k < (l.getD i []).length) : 0 ≤ (l.getD i []).getD k 0 ∧ (l.getD i []).getD k 0 < (n : Int) := RL_get (h _ (getD_mem hi)) hk
def NP (l : List GPoint) : Prop := ∀ p ∈ l, (-1024 ≤ p.X ∧ p.X ≤ 1024) ∧ -1024 ≤ p.Y ∧ p.Y ≤ 1024
theorem NP_get {l : List GPoint} (h : NP l) {i : Nat} (hi : i < l.length) : (-1024 ≤ (l.getD i default).X ∧ (l.getD i default).X ≤ 1024) ∧ -1024 ≤ (l.getD i default).Y ∧ (l.getD i default).Y ≤ 1024 := h _ (getD_mem hi)
theorem NP_rot {l : List GPoint} (h : NP l) {i j : Nat} (hi : i < l.length) : NP (l.set j (GPoint.mk (-((l.getD i default).Y)) ((l.getD i default).X))) := fun p hp => by
 rcases List.mem_or_eq_of_mem_set hp with h1 | h1
 ·exact h p h1
 ·have := NP_get h hi
  subst h1
  dsimp only
  omega
theorem NP_neg {l : List GPoint} (h : NP l) {i : Nat} (hi : i < l.length) : i64ok (-((l.getD i default).Y)) := by
 have := NP_get h hi
 unfold i64ok; omega
def rot (p : Cpx) : Cpx := cmul p (Cpx.mk 0#64 4607182418800017408#64)
def PR : List Cpx → List (Int × Int) → Prop
 | [], [] => True
 | p :: l, w :: m => (WQ p w.1 w.2 ∧ w.1.natAbs ≤ 1024 ∧ w.2.natAbs ≤ 1024) ∧ PR l m
 | _, _ => False
theorem PR_WP : ∀ {l : List Cpx} {m : List (Int × Int)}, PR l m → WP l
 | [], [], _ => fun p hp => by cases hp
 | p :: l, w :: m, h => fun q hq => by
  rcases List.mem_cons.1 hq with e | e
  ·subst e; exact ⟨w.1, w.2, h.1⟩
  ·exact PR_WP h.2 q e
 | [], _ :: _, h => h.elim
 | _ :: _, [], h => h.elim
def rw2 (w : Int × Int) : Int × Int := (-w.2, w.1)
theorem PR_rot : ∀ {l : List Cpx} {m : List (Int × Int)}, PR l m → PR (l.map rot) (m.map rw2)
 | [], [], _ => trivial
 | p :: l, w :: m, h => ⟨⟨(rot_ok h.1.1 h.1.2.1 h.1.2.2).2, by show (-w.2).natAbs ≤ 1024; have := h.1.2.2; omega, h.1.2.1⟩, PR_rot h.2⟩
 | [], _ :: _, h => h.elim
 | _ :: _, [], h => h.elim
theorem PR_len : ∀ {l : List Cpx} {m : List (Int × Int)}, PR l m → l.length = m.length
 | [], [], _ => rfl
 | p :: l, w :: m, h => by simp [PR_len h.2]
 | [], _ :: _, h => h.elim
 | _ :: _, [], h => h.elim
theorem PR_at : ∀ {l : List Cpx} {m : List (Int × Int)}, PR l m → ∀ i : Nat, i < l.length → WQ (l.getD i default) (m.getD i default).1 (m.getD i default).2
 | [], [], _, i, hi => by simp at hi
 | p :: l, w :: m, h, 0, _ => h.1.1
 | p :: l, w :: m, h, i + 1, hi => by simpa using PR_at h.2 i (by simpa using hi)
 | [], _ :: _, h, _, _ => h.elim
 | _ :: _, [], h, _, _ => h.elim
theorem ceq_of {p q : Cpx} {a b : Int} (hp : WQ p a b) (hq : WQ q a b) : ceq p q = true := by
 unfold ceq
 rw [IV_ord hp.1 hq.1, IV_ord hp.2 hq.2, cmpI, cmpI]
 simp
def rotN : Nat → List Cpx → List Cpx
 | 0, l => l
 | n + 1, l => rotN n (l.map rot)
def rwN : Nat → List (Int × Int) → List (Int × Int)
 | 0, l => l
 | n + 1, l => rwN n (l.map rw2)
theorem PR_rotN : ∀ (n : Nat) {l : List Cpx} {m : List (Int × Int)}, PR l m → PR (rotN n l) (rwN n m)
 | 0, _, _, h => h
 | n + 1, _, _, h => PR_rotN n (PR_rot h)
def qtr (q : Int) : Nat := ((Int.tmod (Int.tmod q 4 + 4) 4 : Int) - 0).toNat
def isum : Nat → Nat → (Nat → Int) → Int
 | 0, _, _ => 0
 | r + 1, i, f => f i + isum r (i + 1) f
theorem isum_congr {f g : Nat → Int} : ∀ (r i : Nat), (∀ j, i ≤ j → j < i + r → f j = g j) → isum r i f = isum r i g
 | 0, _, _ => rfl
 | r + 1, i, h => by rw [isum, isum, h i (Nat.le_refl _) (by omega), isum_congr r (i + 1) (fun j h1 h2 => h j (by omega) (by omega))]
theorem isum_zero : ∀ (r i : Nat), isum r i (fun _ => 0) = 0
 | 0, _ => rfl
 | r + 1, i => by rw [isum, isum_zero r (i + 1)]; rfl
theorem isum_le {f : Nat → Int} {c : Int} : ∀ (r i : Nat), (∀ j, i ≤ j → j < i + r → 0 ≤ f j ∧ f j ≤ c) → 0 ≤ isum r i f ∧ isum r i f ≤ (r : Int) * c
 | 0, _, _ => by simp [isum]
 | r + 1, i, h => by
  have h1 := h i (Nat.le_refl _) (by omega)
  have h2 := isum_le r (i + 1) (fun j h1 h2 => h j (by omega) (by omega))
  rw [isum, show ((r + 1 : Nat) : Int) = (r : Int) + 1 by omega, Int.add_mul, Int.one_mul]
  omega
theorem isum_loop {L : Nat → Int → Int → Int} {f : Nat → Int} (h0 : ∀ n i, L 0 n i = n) (hs : ∀ (r : Nat) (n : Int) (i : Nat), L (r + 1) n (i : Int) = L r (n + f i) ((i : Int) + 1)) : ∀ (r : Nat) (n : Int) (i : Nat), L r n (i : Int) = n + isum r i f
 | 0, n, i => by rw [h0, isum]; omega
 | r + 1, n, i => by
  rw [hs, isum, show ((i : Int) + 1) = ((i + 1 : Nat) : Int) by omega, isum_loop h0 hs r _ (i + 1)]
  omega
theorem isum_list {α : Type} (d : α) (F : α → Int) : ∀ (l p : List α), isum l.length p.length (fun j => F ((p ++ l).getD j d)) = (l.map F).sum
 | [], p => rfl
 | x :: l, p => by
  have := isum_list d F l (p ++ [x])
  rw [List.append_assoc, List.singleton_append, show (p ++ [x]).length = p.length + 1 by simp] at this
  rw [List.length_cons, isum, this, getD_mid p l x d]
  simp
theorem isum_list0 {α : Type} (d : α) (F : α → Int) (l : List α) : isum l.length 0 (fun j => F (l.getD j d)) = (l.map F).sum := by
 have := isum_list d F l []
 simpa using this
theorem sum_filter {α : Type} (q : α → Bool) (F : α → Int) : ∀ l : List α, ((l.filter q).map F).sum = (l.map (fun e => bif q e then F e else 0)).sum
 | [] => rfl
 | x :: l => by
  have := sum_filter q F l
  cases h : q x
  ·simp [h, this]
  ·simp [h, this]
def oc : Cpx := Cpx.mk 13830554455654793216#64 0#64
def kE (at_ : List Cpx) (F : Gedge → Int) (a b : Nat) : Int := bif !(ceq (at_.getD a default) oc) then (bif !(ceq (at_.getD b default) oc) then F (Gedge.mk (at_.getD a default) (at_.getD b default)) else 0) else 0
def sc (g : GGraph) (a i : Nat) : Nat := ((g.Succ.getD a []).getD i 0).toNat
theorem scE1 {σ : Type} (f : Nat → Int → LR σ Int) (p : Int → Bool) (c : σ) (h0 : ∀ i, f 0 i = .brk c) (h1 : ∀ r i, f (r + 1) i = bif p i then .ret i else f r (i + 1)) :
  ∀ (m : Nat) (i : Int), (∃ j, f m i = .ret j ∧ i ≤ j ∧ j < i + m ∧ p j = true ∧ ∀ q, i ≤ q → q < j → p q = false) ∨ (f m i = .brk c ∧ ∀ j, i ≤ j → j < i + m → p j = false)
 | 0, i => .inr ⟨h0 i, fun j h1 h2 => by omega⟩
 | m + 1, i => by
  rw [h1]
  cases e : p i with
  | true => exact .inl ⟨i, rfl, by omega, by omega, e, fun q a b => by omega⟩
  | false =>
   rw [cond_false]
   rcases scE1 f p c h0 h1 m (i + 1) with ⟨j, a, b, d, g, k⟩ | ⟨a, b⟩
   ·refine .inl ⟨j, a, by omega, by omega, g, fun q q0 q1 => ?_⟩
    by_cases z : q = i
    ·subst z; exact e
    ·exact k q (by omega) q1
   ·refine .inr ⟨a, fun j j0 j1 => ?_⟩
    by_cases z : j = i
    ·subst z; exact e
    ·exact b j (by omega) (by omega)
def pt (p : GPoint) : Cpx := Cpx.mk (fofI p.X).b (fofI p.Y).b
def PBd (l : List GPoint) : Prop := ∀ p ∈ l, p.X.natAbs ≤ 1000000 ∧ p.Y.natAbs ≤ 1000000
theorem IV_uniq {x : BitVec 64} {a b : Int} (ha : IV x a) (hb : IV x b) : a = b := by
 have h1 := IV_ord ha ha
 rw [IV_ord ha hb, cmpI, cmpI, if_neg (show ¬ a < a by omega), if_pos rfl] at h1
 by_cases c : a < b
 ·rw [if_pos c] at h1; simp at h1
 ·rw [if_neg c] at h1
  by_cases d : a = b
  ·exact d
  ·rw [if_neg d] at h1; simp at h1
theorem pt_WQ {p : GPoint} (h : p.X.natAbs ≤ 1000000 ∧ p.Y.natAbs ≤ 1000000) : WQ (pt p) p.X p.Y := ⟨IV_of (by omega), IV_of (by omega)⟩
theorem IV_m1 : IV 13830554455654793216#64 (-1) := by
 have := IV_of (n := -1) (by decide)
 rwa [show (fofI (-1)).b = 13830554455654793216#64 by decide +kernel] at this
def outP (p : GPoint) : Bool := p.X == -1 && p.Y == 0
theorem out_pt {p : GPoint} (h : p.X.natAbs ≤ 1000000 ∧ p.Y.natAbs ≤ 1000000) : ceq (pt p) oc = outP p := by
 obtain ⟨h1, h2⟩ := pt_WQ h
 unfold ceq outP oc
 simp only
 rw [IV_ord h1 IV_m1, IV_ord h2 IV_0, cmpI, cmpI]
 by_cases a : p.X = -1
 ·by_cases b : p.Y = 0
  ·rw [a, b]; rfl
  ·rw [a]; by_cases c : p.Y < 0 <;> simp [b, c]
 ·by_cases c : p.X < -1 <;> simp [a, c]
theorem out_l (x y : Int) : ([x, y] == [-1, 0]) = (x == -1 && y == 0) := by
 rw [Bool.eq_iff_iff]; simp
theorem pt_getD {l : List GPoint} {i : Nat} (h : i < l.length) : (l.map pt).getD i default = pt (l.getD i default) := by
 simp [List.getD, h]
def xy (p : GPoint) : Int × Int := (p.X, p.Y)
def rp (p : GPoint) : GPoint := GPoint.mk (-p.Y) p.X
theorem PR_pt : ∀ {l : List GPoint}, NP l → PR (l.map pt) (l.map xy)
 | [], _ => trivial
 | p :: l, h => by
  have hp := h p (by simp)
  exact ⟨⟨pt_WQ (p := p) (by omega), by show p.X.natAbs ≤ 1024; omega, by show p.Y.natAbs ≤ 1024; omega⟩, PR_pt (fun q hq => h q (by simp [hq]))⟩
def rpN : Nat → List GPoint → List GPoint
 | 0, l => l
 | n + 1, l => rpN n (l.map rp)
theorem xy_rp (l : List GPoint) : (l.map rp).map xy = (l.map xy).map rw2 := by
 rw [List.map_map, List.map_map]; rfl
theorem NP_rp {l : List GPoint} (h : NP l) : NP (l.map rp) := fun p hp => by
 obtain ⟨q, hq, rfl⟩ := List.mem_map.1 hp
 have := h q hq
 show (-1024 ≤ -q.Y ∧ -q.Y ≤ 1024) ∧ -1024 ≤ q.X ∧ q.X ≤ 1024
 omega
theorem PR_rpN : ∀ (n : Nat) {l : List GPoint}, NP l → PR ((rpN n l).map pt) (rwN n (l.map xy))
 | 0, l, h => PR_pt h
 | n + 1, l, h => by
  rw [rpN, rwN, ← xy_rp]
  exact PR_rpN n (NP_rp h)
def cdE (e f : Gedge) : Int := bif feq (Flo.mk e.from_.im) (Flo.mk f.from_.im) then (bif flt (Flo.mk e.from_.re) (Flo.mk f.from_.re) then (bif fgt (Flo.mk e.to_.re) (Flo.mk f.to_.re) then 1 else 0) else 0) else 0
def nxP (A B : GPoint) : Bool := !(outP A) && !(outP B) && (B.Y == A.Y + 1)
def cmP (A B C D : GPoint) : Bool := (A.Y == C.Y) && decide (A.X < C.X) && decide (D.X < B.X)
theorem cd_pt {A B C D : GPoint} (ha : A.X.natAbs ≤ 1000000 ∧ A.Y.natAbs ≤ 1000000) (hb : B.X.natAbs ≤ 1000000 ∧ B.Y.natAbs ≤ 1000000) (hc : C.X.natAbs ≤ 1000000 ∧ C.Y.natAbs ≤ 1000000) (hd : D.X.natAbs ≤ 1000000 ∧ D.Y.natAbs ≤ 1000000) : cdE (Gedge.mk (pt A) (pt B)) (Gedge.mk (pt C) (pt D)) = bif cmP A B C D then 1 else 0 := by
 have e1 : feq (Flo.mk (pt A).im) (Flo.mk (pt C).im) = (A.Y == C.Y) := by
  unfold feq
  show (ford (pt A).im (pt C).im == some .eq) = _
  rw [IV_ord (pt_WQ ha).2 (pt_WQ hc).2, cmpI]
  by_cases c : A.Y = C.Y
  ·rw [c]; simp
  ·by_cases d : A.Y < C.Y <;> simp [c, d]
 have e2 : flt (Flo.mk (pt A).re) (Flo.mk (pt C).re) = decide (A.X < C.X) := by
  unfold flt
  show (ford (pt A).re (pt C).re == some .lt) = _
  rw [IV_ord (pt_WQ ha).1 (pt_WQ hc).1, cmpI]
  by_cases d : A.X < C.X
  ·simp [d]
  ·by_cases c : A.X = C.X <;> simp [c, d]
 have e3 : fgt (Flo.mk (pt B).re) (Flo.mk (pt D).re) = decide (D.X < B.X) := by
  unfold fgt
  show (ford (pt B).re (pt D).re == some .gt) = _
  rw [IV_ord (pt_WQ hb).1 (pt_WQ hd).1, cmpI]
  by_cases d : B.X < D.X
  ·have : ¬ D.X < B.X := by omega
   simp [d, this]
  ·by_cases c : B.X = D.X
   ·simp [c]
   ·have : D.X < B.X := by omega
    simp [c, d, this]
 unfold cdE cmP
 dsimp only
 rw [e1, e2, e3]
 all_goals (cases (A.Y == C.Y) <;> cases decide (A.X < C.X) <;> cases decide (D.X < B.X) <;> rfl)
theorem sc_lt {g : GGraph} (hg : VG g) {a i : Nat} (ha : a < g.Nodes.length) (hi : i < (g.Succ.getD a []).length) : sc g a i < g.Nodes.length := by
 have := hg.sa (a : Int) (by omega) (by omega)
 rw [show ((a : Int)).toNat = a by omega] at this
 have := Asc_mem this (getD_mem (d := 0) hi)
 unfold sc; omega
theorem kE_pt {l : List GPoint} {F : Gedge → Int} {a b : Nat} (hb : PBd l) (h1 : a < l.length) (h2 : b < l.length) : kE (l.map pt) F a b = bif !(outP (l.getD a default)) then (bif !(outP (l.getD b default)) then F (Gedge.mk (pt (l.getD a default)) (pt (l.getD b default))) else 0) else 0 := by
 unfold kE
 rw [pt_getD h1, pt_getD h2, out_pt (hb _ (getD_mem h1)), out_pt (hb _ (getD_mem h2))]
def lnE (e : Gedge) : Int := (((ftoI (Flo.mk e.to_.re) - ftoI (Flo.mk e.from_.re)).natAbs : Nat) : Int) + (((ftoI (Flo.mk e.to_.im) - ftoI (Flo.mk e.from_.im)).natAbs : Nat) : Int)
theorem toI_of {x : BitVec 64} {n : Int} (h : IV x n) (hn : n.natAbs ≤ 1024) : ftoI (Flo.mk x) = n := (IV_toI (x := Flo.mk x) h (by omega)).2
def szP (A B : GPoint) : Int := bif !(outP A) then (bif !(outP B) then (((A.X - B.X).natAbs : Nat) : Int) + (((A.Y - B.Y).natAbs : Nat) : Int) else 0) else 0
theorem ln_pt {A B : GPoint} (ha : (-1024 ≤ A.X ∧ A.X ≤ 1024) ∧ -1024 ≤ A.Y ∧ A.Y ≤ 1024) (hb : (-1024 ≤ B.X ∧ B.X ≤ 1024) ∧ -1024 ≤ B.Y ∧ B.Y ≤ 1024) : lnE (Gedge.mk (pt A) (pt B)) = (((A.X - B.X).natAbs : Nat) : Int) + (((A.Y - B.Y).natAbs : Nat) : Int) := by
 have wa := pt_WQ (p := A) (by omega)
 have wb := pt_WQ (p := B) (by omega)
 unfold lnE
 rw [toI_of wa.1 (by omega), toI_of wa.2 (by omega), toI_of wb.1 (by omega), toI_of wb.2 (by omega)]
 omega
theorem PBd_set {l : List GPoint} (h : PBd l) {i : Nat} {x y : Int} (hx : x.natAbs ≤ 1000000) (hy : y.natAbs ≤ 1000000) : PBd (l.set i (GPoint.mk x y)) := fun p hp => by
 rcases List.mem_or_eq_of_mem_set hp with h1 | h1
 ·exact h p h1
 ·subst h1; exact ⟨hx, hy⟩
theorem count_L0 (l : List (List Int)) : ∀ (r : Nat) (e i : Int), (r : Int) = (l.length : Int) - i → 0 ≤ i → 0 ≤ e → (∃ e', gh_count_L0 l r e i = .brk e' ∧ 0 ≤ e' ∧ ∀ k, i ≤ k → k < (l.length : Int) → Asc (l.getD k.toNat []) (l.length : Int)) ∨ gh_count_L0 l r e i = .ret (-1)
 | 0, e, i, hr, hi, he => .inl ⟨e, by rw [gh_count_L0], he, fun k h1 h2 => by omega⟩
 | r + 1, e, i, hr, hi, he => by
  rw [gh_count_L0]
  cases decide (1024 < e + (((l.getD i.toNat []).length : Nat) : Int))
  ·rw [cond_false]
   cases ha : gh_ascending (l.getD i.toNat []) ((l.length : Nat) : Int)
   ·exact .inr rfl
   ·rcases count_L0 l r (e + (((l.getD i.toNat []).length : Nat) : Int)) (i + 1) (by omega) (by omega) (by omega) with ⟨e', h1, h2, h3⟩ | h1
    ·refine .inl ⟨e', h1, h2, fun k k1 k2 => ?_⟩
     by_cases c : k = i
     ·subst c; exact (gasc_iff _ _).1 ha
     ·exact h3 k (by omega) k2
    ·exact .inr h1
  ·exact .inr rfl
theorem count_rg {l : List (List Int)} {r : Int} (h : gh_count l = r) (hr : decide (r < 0) = false) : ∀ (i k : Nat), (k : Int) < ((l.getD i []).length : Int) → 0 ≤ (l.getD i []).getD k 0 ∧ (l.getD i []).getD k 0 < (l.length : Int) := fun i k hk => by
 have hr := of_decide_eq_false hr
 unfold gh_count at h
 rcases count_L0 l ((((l.length : Nat) : Int) - 0).toNat) 0 0 (by omega) (by omega) (by omega) with ⟨e', h1, h2, h3⟩ | h1
 ·by_cases hi : i < l.length
  ·have := h3 (i : Int) (by omega) (by omega) (k : Int) (by omega) (by rw [show ((i : Int)).toNat = i by omega]; exact hk)
   rw [show ((i : Int)).toNat = i by omega, show ((k : Int)).toNat = k by omega] at this
   exact ⟨this.1, this.2.1⟩
  ·rw [List.getD_eq_getElem?_getD, List.getElem?_eq_none (by omega)] at hk; simp at hk; omega
 ·rw [h1] at h; dsimp only at h; omega
theorem count_asc {l : List (List Int)} {r : Int} (h : gh_count l = r) (hr : decide (r < 0) = false) : ∀ k : Int, 0 ≤ k → k < (l.length : Int) → Asc (l.getD k.toNat []) (l.length : Int) := by
 have hr := of_decide_eq_false hr
 unfold gh_count at h
 rcases count_L0 l ((((l.length : Nat) : Int) - 0).toNat) 0 0 (by omega) (by omega) (by omega) with ⟨e', h1, h2, h3⟩ | h1
 ·exact h3
 ·rw [h1] at h; dsimp only at h; omega
theorem count_LV (l : List (List Int)) (ha : ∀ k : Nat, k < l.length → Asc (l.getD k []) (l.length : Int)) (hs : esum l ≤ 1024) : ∀ (r i : Nat), r + i = l.length → gh_count_L0 l r ((sm i (fun i => (l.getD i []).length) : Nat) : Int) (i : Int) = .brk ((esum l : Nat) : Int)
 | 0, i, h => by rw [gh_count_L0, show i = l.length by omega]; rfl
 | r + 1, i, h => by
  have e : ((i : Int)).toNat = i := by omega
  have hm := sm_mono (fun i => (l.getD i []).length) (n := i + 1) (m := l.length) (by omega)
  have hm' : sm (i + 1) (fun i => (l.getD i []).length) ≤ 1024 := Nat.le_trans hm hs
  have e2 : ((sm i (fun i => (l.getD i []).length) : Nat) : Int) + (((l.getD i []).length : Nat) : Int) = ((sm (i + 1) (fun i => (l.getD i []).length) : Nat) : Int) := by
   show _ = ((sm i (fun i => (l.getD i []).length) + (l.getD i []).length : Nat) : Int); omega
  rw [gh_count_L0, e, e2, decide_eq_false (show ¬ (1024 : Int) < _ by omega), cond_false]
  dsimp only
  rw [(gasc_iff _ _).2 (ha i (by omega)), Bool.not_true, cond_false, show (i : Int) + 1 = ((i + 1 : Nat) : Int) by omega]
  exact count_LV l ha hs r (i + 1) (by omega)
theorem count_val {l : List (List Int)} (ha : ∀ k : Nat, k < l.length → Asc (l.getD k []) (l.length : Int)) (hs : esum l ≤ 1024) : gh_count l = ((esum l : Nat) : Int) := by
 unfold gh_count
 have := count_LV l ha hs l.length 0 (by omega)
 rw [show ((((l.length : Nat) : Int) : Int) - 0).toNat = l.length by omega]
 simp only [sm] at this
 rw [show ((0 : Nat) : Int) = 0 from rfl] at this
 rw [this]
theorem count_up {l : List (List Int)} : ∀ (r : Nat) (i : Nat) (e : Int), i + r = l.length → gh_count_L0 l r ((sm i (fun i => (l.getD i []).length) : Nat) : Int) (i : Int) = .brk e → (i = l.length ∨ esum l ≤ 1024) ∧ e = ((esum l : Nat) : Int)
 | 0, i, e, h, hc => by
  rw [gh_count_L0] at hc
  refine ⟨.inl (by omega), ?_⟩
  rw [show i = l.length by omega] at hc
  injection hc with hc
  exact hc.symm
 | r + 1, i, e, h, hc => by
  rw [gh_count_L0, Int.toNat_natCast] at hc
  have e2 : ((sm i (fun i => (l.getD i []).length) : Nat) : Int) + (((l.getD i []).length : Nat) : Int) = ((sm (i + 1) (fun i => (l.getD i []).length) : Nat) : Int) := by
   show _ = ((sm i (fun i => (l.getD i []).length) + (l.getD i []).length : Nat) : Int); omega
  rw [e2, show (i : Int) + 1 = ((i + 1 : Nat) : Int) by omega] at hc
  by_cases c : (1024 : Int) < ((sm (i + 1) (fun i => (l.getD i []).length) : Nat) : Int)
  ·rw [decide_eq_true c] at hc; cases hc
  ·rw [decide_eq_false c, cond_false] at hc
   cases ha : gh_ascending (l.getD i []) ((l.length : Nat) : Int)
   ·rw [ha] at hc; cases hc
   ·rw [ha] at hc
    obtain ⟨a1, a2⟩ := count_up r (i + 1) e (by omega) hc
    refine ⟨.inr ?_, a2⟩
    rcases a1 with a1 | a1
    ·rw [a1] at c
     have : sm l.length (fun i => (l.getD i []).length) = esum l := rfl
     omega
    ·exact a1
theorem count_pos {l : List (List Int)} (h : ¬ gh_count l < 0) : gh_count l = ((esum l : Nat) : Int) ∧ (esum l ≤ 1024 ∨ l.length = 0) ∧ ∀ k : Nat, k < l.length → Asc (l.getD k []) (l.length : Int) := by
 have ha : ∀ k : Nat, k < l.length → Asc (l.getD k []) (l.length : Int) := fun k hk => by
  have := count_asc (l := l) rfl (decide_eq_false h) (k : Int) (by omega) (by omega)
  rwa [Int.toNat_natCast] at this
 unfold gh_count at h ⊢
 have h0 : ((sm 0 (fun i => (l.getD i []).length) : Nat) : Int) = 0 := rfl
 rcases count_L0 l ((((l.length : Nat) : Int) - 0).toNat) 0 0 (by omega) (by omega) (by omega) with ⟨e', h1, -, -⟩ | h1
 ·have h2 := count_up (l := l) ((((l.length : Nat) : Int) - 0).toNat) 0 e' (by omega) (by rw [h0]; exact h1)
  rw [h1]
  exact ⟨h2.2, by have := h2.1; omega, ha⟩
 ·rw [h1] at h; exact absurd (by decide) h
theorem Contains_iff (l : List Int) (n : Int) : sc_Contains_int l n = true ↔ n ∈ l := by
 have := scan' (fun r i => sc_Index_int_L0 l n r i) (fun i => n == l.getD i.toNat 0) () (fun _ => rfl) (fun _ _ => rfl) ((((l.length : Nat) : Int) - 0).toNat) 0
 unfold sc_Contains_int sc_Index_int
 rw [mem_getD]
 rcases this with ⟨j, e, j1, j2, j3⟩ | ⟨e, h⟩
 ·rw [e]
  exact ⟨fun _ => ⟨j, j1, by omega, (eq_of_beq j3).symm⟩, fun _ => by simpa using j1⟩
 ·rw [e]
  refine ⟨fun h => by simp at h, ?_⟩
  rintro ⟨j, j1, j2, j3⟩
  have := h j j1 (by omega)
  simp only [j3] at this; simp at this
theorem Valid_VG {g : GGraph} (h : gh_Valid g = true) : VG g := by
 unfold gh_Valid at h
 dsimp only at h
 by_cases c1 : ((g.Nodes.length : Nat) : Int) < 1
 ·rw [decide_eq_true c1] at h; cases h
 rw [decide_eq_false c1, cond_false] at h
 by_cases c2 : 256 < ((g.Nodes.length : Nat) : Int)
 ·rw [decide_eq_true c2] at h; cases h
 rw [decide_eq_false c2, cond_false] at h
 cases c3 : ((g.Succ.length : Nat) : Int) != ((g.Nodes.length : Nat) : Int)
 ·rw [c3, cond_false] at h
  cases c4 : ((g.Pred.length : Nat) : Int) != ((g.Nodes.length : Nat) : Int)
  ·rw [c4, cond_false] at h
   cases c5 : decide (gh_count g.Succ < 0)
   ·have e3 : ((g.Succ.length : Nat) : Int) = ((g.Nodes.length : Nat) : Int) := by simpa using c3
    have e4 : ((g.Pred.length : Nat) : Int) = ((g.Nodes.length : Nat) : Int) := by simpa using c4
    have ha := count_asc rfl c5
    rw [e3] at ha
    exact ⟨by omega, by omega, by omega, ha⟩
   ·rw [c5] at h; cases h
  ·rw [c4] at h; cases h
 ·rw [c3] at h; cases h
theorem Valid_f {g : GGraph} {r : Bool} (h : gh_Valid g = r) (hr : (!r) = false) : VG g := Valid_VG (h.trans (by cases r; cases hr; rfl))
theorem Valid_L1t {g : GGraph} {a : Int} {v : List Int} (h : ∀ x ∈ v, a ∈ g.Pred.getD x.toNat []) : ∀ (r : Nat) (i : Int), 0 ≤ i → i + (r : Int) ≤ (v.length : Int) → gh_Valid_L1 g a v r i = .brk ()
 | 0, i, _, _ => by rw [gh_Valid_L1]
 | r + 1, i, h0, h1 => by
  rw [gh_Valid_L1]
  rw [(Contains_iff _ _).2 (h _ (getD_mem (by omega))), Bool.not_true, cond_false]
  exact Valid_L1t h r (i + 1) (by omega) (by omega)
theorem Valid_L0t {g : GGraph} (h : ∀ a : Int, 0 ≤ a → a < (g.Succ.length : Int) → ∀ x ∈ g.Succ.getD a.toNat [], a ∈ g.Pred.getD x.toNat []) : ∀ (r : Nat) (i : Int), 0 ≤ i → i + (r : Int) ≤ (g.Succ.length : Int) → gh_Valid_L0 g r i = .brk ()
 | 0, i, _, _ => by rw [gh_Valid_L0]
 | r + 1, i, h0, h1 => by
  rw [gh_Valid_L0, Valid_L1t (h i h0 (by omega)) _ 0 (by omega) (by omega)]
  exact Valid_L0t h r (i + 1) (by omega) (by omega)
theorem Valid_of {g : GGraph} {n : Nat} (hn : g.Nodes.length = n) (h1 : 1 ≤ n) (h2 : n ≤ 256) (h : VF g.Succ g.Pred n) (hs : esum g.Succ ≤ 1024) : gh_Valid g = true := by
 unfold gh_Valid
 have e1 := h.sl; have e2 := h.pl
 dsimp only
 rw [decide_eq_false (by omega), cond_false, decide_eq_false (by omega), cond_false]
 rw [show (((g.Succ.length : Nat) : Int) != ((g.Nodes.length : Nat) : Int)) = false by rw [e1, hn]; simp]
 rw [show (((g.Pred.length : Nat) : Int) != ((g.Nodes.length : Nat) : Int)) = false by rw [e2, hn]; simp]
 have hc := h.cnt
 rw [count_val (l := g.Succ) (fun k hk => by rw [e1]; exact h.sa k (by omega)) hs, count_val (l := g.Pred) (fun k hk => by rw [e2]; exact h.pa k (by omega)) (by omega), hc]
 rw [cond_false, cond_false, decide_eq_false (by omega), cond_false]
 rw [show (((esum g.Pred : Nat) : Int) != ((esum g.Pred : Nat) : Int)) = false by simp, cond_false]
 rw [Valid_L0t (fun a a0 a1 x hx => by
  have hx2 := Asc_mem (h.sa a.toNat (by omega)) hx
  have := (h.mi a.toNat x.toNat (by omega) (by omega)).1 (by rw [show ((x.toNat : Nat) : Int) = x by omega]; exact hx)
  rwa [show ((a.toNat : Nat) : Int) = a by omega] at this) _ 0 (by omega) (by omega)]
theorem Valid_L1r {g : GGraph} {a : Int} {v : List Int} : ∀ (r : Nat) (i : Int), 0 ≤ i → i + (r : Int) = (v.length : Int) → (∃ x ∈ v, a ∉ g.Pred.getD x.toNat []) → (∃ k : Nat, i ≤ (k : Int) ∧ k < v.length ∧ a ∉ g.Pred.getD (v.getD k 0).toNat []) → gh_Valid_L1 g a v r i = .ret false
 | 0, i, h0, h1, _, ⟨k, k1, k2, _⟩ => by omega
 | r + 1, i, h0, h1, hx, ⟨k, k1, k2, k3⟩ => by
  rw [gh_Valid_L1]
  cases hc : sc_Contains_int (g.Pred.getD (v.getD i.toNat 0).toNat []) a
  ·rfl
  ·rw [Bool.not_true, cond_false]
   refine Valid_L1r r (i + 1) (by omega) (by omega) hx ⟨k, ?_, k2, k3⟩
   by_cases e : (k : Int) = i
   ·rw [show k = i.toNat by omega] at k3
    exact absurd ((Contains_iff _ _).1 hc) k3
   ·omega
theorem Valid_L1i {g : GGraph} {a : Int} {v : List Int} : gh_Valid_L1 g a v ((((v.length : Nat) : Int) - 0).toNat) 0 = (if ∀ x ∈ v, a ∈ g.Pred.getD x.toNat [] then .brk () else .ret false) := by
 by_cases h : ∀ x ∈ v, a ∈ g.Pred.getD x.toNat []
 ·rw [if_pos h]; exact Valid_L1t h _ 0 (by omega) (by omega)
 ·rw [if_neg h]
  have h' : ∃ x, ¬ (x ∈ v → a ∈ g.Pred.getD x.toNat []) := Classical.not_forall.1 h
  obtain ⟨x, hx⟩ := h'
  have hx1 : x ∈ v := Classical.byContradiction fun hn => hx fun hm => absurd hm hn
  have hx2 : a ∉ g.Pred.getD x.toNat [] := fun hm => hx fun _ => hm
  obtain ⟨k, hk, e⟩ := List.mem_iff_getElem.1 hx1
  exact Valid_L1r _ 0 (by omega) (by omega) ⟨x, hx1, hx2⟩ ⟨k, by omega, hk, by rw [getD_lt hk, e]; exact hx2⟩
theorem Valid_L0r {g : GGraph} : ∀ (r : Nat) (i : Int), 0 ≤ i → i + (r : Int) = (g.Succ.length : Int) → gh_Valid_L0 g r i ≠ .ret true ∧ (gh_Valid_L0 g r i = .brk () → ∀ a : Int, i ≤ a → a < (g.Succ.length : Int) → ∀ x ∈ g.Succ.getD a.toNat [], a ∈ g.Pred.getD x.toNat [])
 | 0, i, h0, h1 => ⟨by rw [gh_Valid_L0]; exact fun h => (by cases h), fun _ a a1 a2 => by omega⟩
 | r + 1, i, h0, h1 => by
  rw [gh_Valid_L0, Valid_L1i]
  by_cases h : ∀ x ∈ g.Succ.getD i.toNat [], i ∈ g.Pred.getD x.toNat []
  ·rw [if_pos h]
   obtain ⟨a1, a2⟩ := Valid_L0r (g := g) r (i + 1) (by omega) (by omega)
   refine ⟨a1, fun hb a h2 h3 => ?_⟩
   by_cases e : a = i
   ·rw [e]; exact h
   ·exact a2 hb a (by omega) h3
  ·rw [if_neg h]
   exact ⟨fun h => (by cases h), fun h => (by cases h)⟩
theorem gValid_VF {g : GGraph} (h : gh_Valid g = true) : (1 ≤ g.Nodes.length ∧ g.Nodes.length ≤ 256) ∧ VF g.Succ g.Pred g.Nodes.length ∧ esum g.Succ ≤ 1024 := by
 have hg := Valid_VG h
 have hn := hg.n1; have hsl := hg.sl; have hpl := hg.pl
 unfold gh_Valid at h
 dsimp only at h
 rw [decide_eq_false (by omega), cond_false, decide_eq_false (by omega), cond_false] at h
 rw [show (((g.Succ.length : Nat) : Int) != ((g.Nodes.length : Nat) : Int)) = false by rw [hsl]; simp, cond_false] at h
 rw [show (((g.Pred.length : Nat) : Int) != ((g.Nodes.length : Nat) : Int)) = false by rw [hpl]; simp, cond_false] at h
 by_cases c1 : gh_count g.Succ < 0
 ·rw [decide_eq_true c1] at h; cases h
 rw [decide_eq_false c1, cond_false] at h
 cases c2 : gh_count g.Pred != gh_count g.Succ
 ·rw [c2, cond_false] at h
  have e2 : gh_count g.Pred = gh_count g.Succ := by simpa using c2
  obtain ⟨p1, p2, p3⟩ := count_pos c1
  obtain ⟨q1, q2, q3⟩ := count_pos (l := g.Pred) (by omega)
  rw [hsl] at p3
  rw [hpl] at q3
  obtain ⟨v1, v2⟩ := Valid_L0r (g := g) (((((g.Succ.length : Nat) : Int) : Int) - 0).toNat) 0 (by omega) (by omega)
  have v3 : gh_Valid_L0 g (((((g.Succ.length : Nat) : Int) : Int) - 0).toNat) 0 = .brk () := by
   revert h v1
   cases gh_Valid_L0 g (((((g.Succ.length : Nat) : Int) : Int) - 0).toNat) 0 with
   | brk u => intro _ _; rfl
   | ret b => cases b with
    | true => intro _ h; exact absurd rfl h
    | false => intro h; cases h
   | oof => intro h; cases h
  have v4 := v2 v3
  refine ⟨hn, ⟨hsl, hpl, p3, q3, fun i k hi hk => ?_⟩, by omega⟩
  have w1 : sm g.Nodes.length (fun k => sm g.Nodes.length (fun i => if (k : Int) ∈ g.Succ.getD i [] then 1 else 0)) = esum g.Succ := by
   rw [← sm_swap (fun i k => if (k : Int) ∈ g.Succ.getD i [] then 1 else 0)]
   unfold esum
   rw [hsl]
   exact (sm_congr _ fun i hi => len_sm _ _ (Asc_nd (p3 i hi)) (fun x hx => Asc_mem (p3 i hi) hx)).symm
  have w2 : sm g.Nodes.length (fun k => sm g.Nodes.length (fun i => if (i : Int) ∈ g.Pred.getD k [] then 1 else 0)) = esum g.Pred := by
   unfold esum
   rw [hpl]
   exact (sm_congr _ fun i hi => len_sm _ _ (Asc_nd (q3 i hi)) (fun x hx => Asc_mem (q3 i hi) hx)).symm
  have v5 : ∀ i k : Nat, i < g.Nodes.length → (k : Int) ∈ g.Succ.getD i [] → (i : Int) ∈ g.Pred.getD k [] := fun i k hi hm => by
   have := v4 (i : Int) (by omega) (by omega) (k : Int) (by rw [Int.toNat_natCast]; exact hm)
   rwa [Int.toNat_natCast] at this
  have w3 : ∀ k, k < g.Nodes.length → ∀ i, i < g.Nodes.length → (if (k : Int) ∈ g.Succ.getD i [] then 1 else 0) ≤ (if (i : Int) ∈ g.Pred.getD k [] then 1 else 0) := fun k hk i hi => by
   by_cases c : (k : Int) ∈ g.Succ.getD i []
   ·rw [if_pos c, if_pos (v5 i k hi c)]; exact Nat.le_refl _
   ·rw [if_neg c]; exact Nat.zero_le _
  have w4 : ∀ (f f' : Nat → Nat) (n : Nat), (∀ i, i < n → f i ≤ f' i) → sm n f ≤ sm n f' := fun f f' n => by
   induction n with
   | zero => intro _; exact Nat.le_refl _
   | succ m ih => intro hm; rw [sm, sm]; have := ih (fun i hi => hm i (by omega)); have := hm m (by omega); omega
  have w5 := sm_eq_le g.Nodes.length (fun k hk => w4 _ _ _ (w3 k hk)) (by rw [w1, w2]; omega) k hk
  have w6 := sm_eq_le g.Nodes.length (w3 k hk) w5 i hi
  refine ⟨v5 i k hi, fun hm => ?_⟩
  rw [if_pos hm] at w6
  by_cases c : (k : Int) ∈ g.Succ.getD i []
  ·exact c
  ·rw [if_neg c] at w6; cases w6
 ·rw [c2] at h; cases h
theorem Next_rng (t : List Int) (k n : Int) (hn : n ≤ 9223372036854775807) : 0 ≤ (tp_Next t k n).1 ∧ ((tp_Next t k n).1 < n ∨ (tp_Next t k n).1 = 0) := by
 unfold tp_Next
 by_cases h1 : n ≤ 1
 ·simp [h1]
 ·by_cases h2 : (t.length : Int) ≤ k
  ·simp [h1, h2]
  ·simp only [decide_eq_false h1, decide_eq_false h2, cond_false]
   have := mod_range (t.getD (k + 1 - 1).toNat 0) n (by omega)
   unfold g_Mod
   exact ⟨this.1, .inl this.2⟩
theorem Next_lt (t : List Int) (k n : Int) (h1 : 1 ≤ n) (hn : n ≤ 9223372036854775807) : 0 ≤ (tp_Next t k n).1 ∧ (tp_Next t k n).1 < n := by
 have := Next_rng t k n hn; omega
theorem Next_rg (t : List Int) (k n : Int) (hn : n ≤ 9223372036854775807) : 0 ≤ (tp_Next t k n).1 ∧ ((tp_Next t k n).1 < n ∨ (tp_Next t k n).1 = 0) := by
 unfold tp_Next
 by_cases h1 : n ≤ 1
 ·simp [h1]
 ·by_cases h2 : (t.length : Int) ≤ k
  ·simp [h1, h2]
  ·simp only [decide_eq_false h1, decide_eq_false h2, cond_false]
   have := mod_range (t.getD (k + 1 - 1).toNat 0) n (by omega)
   unfold g_Mod
   exact ⟨this.1, .inl this.2⟩
theorem Ins_L0 (l : List Int) (x : Int) : ∀ (r : Nat) (i : Int), 0 ≤ i → i + (r : Int) = (l.length : Int) → ∃ o : Nat, r7_Insert_L0 l x r i = (o : Int) ∧ i.toNat ≤ o ∧ o ≤ l.length ∧ (∀ k, i.toNat ≤ k → k < o → l.getD k 0 < x) ∧ (o < l.length → x ≤ l.getD o 0)
 | 0, i, h0, h => ⟨i.toNat, by rw [r7_Insert_L0]; omega, Nat.le_refl _, by omega, fun k h1 h2 => by omega, fun hh => by omega⟩
 | r + 1, i, h0, h => by
  rw [r7_Insert_L0]
  by_cases c : l.getD i.toNat 0 < x
  ·rw [decide_eq_true c, cond_true]
   obtain ⟨o, h1, h2, h3, h4, h5⟩ := Ins_L0 l x r (i + 1) (by omega) (by omega)
   refine ⟨o, h1, by omega, h3, fun k k1 k2 => ?_, h5⟩
   by_cases e : k = i.toNat
   ·rw [e]; exact c
   ·exact h4 k (by omega) k2
  ·rw [decide_eq_false c, cond_false]
   exact ⟨i.toNat, by omega, Nat.le_refl _, by omega, fun k h1 h2 => by omega, fun hh => by omega⟩
theorem Insert_spec {l : List Int} {n x : Int} (h : Asc l n) (hx : 0 ≤ x ∧ x < n) : Asc (r7_Insert l x) n ∧ ∀ y, y ∈ r7_Insert l x ↔ y = x ∨ y ∈ l := by
 obtain ⟨o, h1, -, h3, h4, h5⟩ := Ins_L0 l x (((((l.length : Nat) : Int) : Int) - 0).toNat) 0 (by omega) (by omega)
 have core : (o < l.length → x < l.getD o 0) → Asc ((((l.take (((o : Nat) : Int) : Int).toNat).drop 0) ++ [x]) ++ ((l.take l.length).drop (((o : Nat) : Int) : Int).toNat)) n ∧ ∀ y, y ∈ ((((l.take (((o : Nat) : Int) : Int).toNat).drop 0) ++ [x]) ++ ((l.take l.length).drop (((o : Nat) : Int) : Int).toNat)) ↔ y = x ∨ y ∈ l := by
  intro hgt
  rw [Int.toNat_natCast, List.drop_zero, List.take_length]
  obtain ⟨p1, p2⟩ := (Asc_iff l n).1 h
  have ht : ∀ y ∈ l.take o, y < x := by
   intro y hy
   obtain ⟨k, hk, e⟩ := List.mem_iff_getElem.1 hy
   rw [List.length_take] at hk
   have := h4 k (by omega) (by omega)
   rw [getD_lt (by omega)] at this
   rw [List.getElem_take] at e
   rw [← e]; exact this
  have hd : ∀ y ∈ l.drop o, x < y := by
   intro y hy
   obtain ⟨k, hk, e⟩ := List.mem_iff_getElem.1 hy
   rw [List.length_drop] at hk
   rw [List.getElem_drop] at e
   have h0 := hgt (by omega)
   by_cases k0 : k = 0
   ·subst k0
    rw [getD_lt (by omega)] at h0
    rw [← e]; exact h0
   ·have h6 := Asc_lt h o (k - 1) (by omega)
    rw [show o + (k - 1) + 1 = o + k by omega, getD_lt (k := o + k) (by omega), e] at h6
    omega
  refine ⟨(Asc_iff _ _).2 ⟨List.pairwise_append.2 ⟨List.pairwise_append.2 ⟨p1.sublist (List.take_sublist _ _), List.pairwise_singleton _ _, fun a ha b hb => ?_⟩, p1.sublist (List.drop_sublist _ _), fun a ha b hb => ?_⟩, fun y hy => ?_⟩, fun y => ?_⟩
  ·rw [List.mem_singleton] at hb; rw [hb]; exact ht a ha
  ·rcases List.mem_append.1 ha with ha | ha
   ·exact Int.lt_trans (ht a ha) (hd b hb)
   ·rw [List.mem_singleton] at ha; rw [ha]; exact hd b hb
  ·rcases List.mem_append.1 hy with hy | hy
   ·rcases List.mem_append.1 hy with hy | hy
    ·exact p2 y (List.mem_of_mem_take hy)
    ·rw [List.mem_singleton] at hy; rw [hy]; exact hx
   ·exact p2 y (List.mem_of_mem_drop hy)
  ·rw [List.mem_append, List.mem_append, List.mem_singleton]
   constructor
   ·rintro ((hy | hy) | hy)
    ·exact .inr (List.mem_of_mem_take hy)
    ·exact .inl hy
    ·exact .inr (List.mem_of_mem_drop hy)
   ·rintro (hy | hy)
    ·exact .inl (.inr hy)
    ·rw [← List.take_append_drop o l, List.mem_append] at hy
     rcases hy with hy | hy
     ·exact .inl (.inl hy)
     ·exact .inr hy
 unfold r7_Insert
 rw [h1]
 dsimp only
 by_cases c : o < l.length
 ·rw [decide_eq_true (by omega : ((o : Nat) : Int) < ((l.length : Nat) : Int)), cond_true]
  have h6 := h5 c
  rw [show (l.getD (((o : Nat) : Int)).toNat 0) = l.getD o 0 by rw [Int.toNat_natCast]]
  by_cases e : l.getD o 0 = x
  ·rw [beq_iff_eq.2 e, cond_true]
   refine ⟨h, fun y => ⟨.inr, ?_⟩⟩
   rintro (rfl | hy)
   ·rw [← e]; exact getD_mem c
   ·exact hy
  ·rw [beq_eq_false_iff_ne.2 e, cond_false]
   exact core fun _ => by omega
 ·rw [decide_eq_false (by omega : ¬ ((o : Nat) : Int) < ((l.length : Nat) : Int)), cond_false]
  exact core fun hh => absurd hh c
theorem VF.ins {S P : List (List Int)} {n a b : Nat} (h : VF S P n) (ha : a < n) (hb : b < n) : VF (S.set a (r7_Insert (S.getD a []) (b : Int))) (P.set b (r7_Insert (P.getD b []) (a : Int))) n := by
 have hA := Insert_spec (h.sa a ha) (x := (b : Int)) (by omega)
 have hB := Insert_spec (h.pa b hb) (x := (a : Int)) (by omega)
 have e1 := h.sl; have e2 := h.pl
 refine ⟨by rw [List.length_set]; exact e1, by rw [List.length_set]; exact e2, fun k hk => ?_, fun k hk => ?_, fun i k hi hk => ?_⟩
 ·rw [gset (by omega)]; split
  ·exact hA.1
  ·exact h.sa k hk
 ·rw [gset (by omega)]; split
  ·exact hB.1
  ·exact h.pa k hk
 ·rw [gset (by omega), gset (by omega)]
  by_cases c1 : i = a
  ·rw [if_pos c1]
   by_cases c2 : k = b
   ·rw [if_pos c2]
    exact ⟨fun _ => (hB.2 _).2 (.inl (by omega)), fun _ => (hA.2 _).2 (.inl (by omega))⟩
   ·rw [if_neg c2, hA.2, ← h.mi i k hi hk, c1]
    exact ⟨fun hh => hh.resolve_left (by omega), .inr⟩
  ·rw [if_neg c1]
   by_cases c2 : k = b
   ·rw [if_pos c2, hB.2, h.mi i k hi hk, c2]
    exact ⟨.inr, fun hh => hh.resolve_left (by omega)⟩
   ·rw [if_neg c2]; exact h.mi i k hi hk
theorem TG_L0 {t : List Int} {n : Int} (hn : 1 ≤ n ∧ n ≤ 1000) : ∀ (r : Nat) (ti : Int) (s p : List (List Int)) (k : Int), VF s p n.toNat → VF (tp_Graph_L0 t n r ti s p k).2.1 (tp_Graph_L0 t n r ti s p k).2.2 n.toNat
 | 0, ti, s, p, k, h => by rw [tp_Graph_L0]; exact h
 | r + 1, ti, s, p, k, h => by
  rw [tp_Graph_L0]
  have h1 := Next_rg t ti n (by omega)
  have h2 := Next_rg t (tp_Next t ti n).2 n (by omega)
  refine TG_L0 hn r _ _ _ _ ?_
  have := h.ins (a := ((tp_Next t ti n).1).toNat) (b := ((tp_Next t (tp_Next t ti n).2 n).1).toNat) (by omega) (by omega)
  rwa [show ((((tp_Next t ti n).1).toNat : Nat) : Int) = (tp_Next t ti n).1 by omega, show ((((tp_Next t (tp_Next t ti n).2 n).1).toNat : Nat) : Int) = (tp_Next t (tp_Next t ti n).2 n).1 by omega] at this
theorem TG_ok (t : List Int) (i m : Int) (hm : 1 ≤ m ∧ m ≤ 1000) : ∃ n : Nat, 1 ≤ n ∧ n ≤ m.toNat ∧ (tp_Graph t i m).1.Nodes.length = n ∧ VF (tp_Graph t i m).1.Succ (tp_Graph t i m).1.Pred n := by
 have h1 := Next_rg t i m (by omega)
 refine ⟨(1 + (tp_Next t i m).1).toNat, by omega, by omega, ?_, ?_⟩
 ·unfold tp_Graph; exact List.length_replicate
 ·have := TG_L0 (t := t) (n := 1 + (tp_Next t i m).1) (by omega) ((tp_Next t (tp_Next t i m).2 ((2 * (1 + (tp_Next t i m).1)) + 1)).1).toNat (tp_Next t (tp_Next t i m).2 ((2 * (1 + (tp_Next t i m).1)) + 1)).2 _ _ ((tp_Next t (tp_Next t i m).2 ((2 * (1 + (tp_Next t i m).1)) + 1)).1) (VF.nil _)
  unfold tp_Graph; exact this
theorem TG_len {t : List Int} {i m : Int} {r : GGraph × Int} (e : tp_Graph t i m = r) (hm : 1 ≤ m ∧ m ≤ 1000) : 1 ≤ r.1.Nodes.length ∧ (r.1.Nodes.length : Int) ≤ m ∧ r.1.Succ.length = r.1.Nodes.length ∧ r.1.Pred.length = r.1.Nodes.length := by
 obtain ⟨n, h1, h2, h3, h4⟩ := TG_ok t i m hm
 rw [e] at h3 h4
 have := h4.sl; have := h4.pl
 omega
theorem TG_ll {t : List Int} {i m : Int} {r : GGraph × Int} (e : tp_Graph t i m = r) (hm : 1 ≤ m ∧ m ≤ 1000) : (∀ l ∈ r.1.Succ, (l.length : Int) ≤ 3000) ∧ ∀ l ∈ r.1.Pred, (l.length : Int) ≤ 3000 := by
 obtain ⟨n, h1, h2, h3, h4⟩ := TG_ok t i m hm
 rw [e] at h4
 have key : ∀ (S : List (List Int)), S.length = n → (∀ k : Nat, k < n → Asc (S.getD k []) (n : Int)) → ∀ l ∈ S, (l.length : Int) ≤ 3000 := fun S hs ha l hl => by
  obtain ⟨k, hk, e⟩ := List.mem_iff_getElem.1 hl
  have := ha k (by omega)
  rw [List.getD_eq_getElem?_getD, List.getElem?_eq_getElem hk] at this
  rw [show (some S[k]).getD [] = S[k] from rfl, e] at this
  rcases Asc_len this with h | h
  ·omega
  ·rw [h]; simp
 exact ⟨key _ h4.sl h4.sa, key _ h4.pl h4.pa⟩
theorem total_big (l : List (List Int)) : ∀ (r : Nat) (n i : Int), 1024 < n → r7_total_L0 l 1024 r n i = n
 | 0, n, i, _ => by rw [r7_total_L0]
 | r + 1, n, i, h => by rw [r7_total_L0, decide_eq_false (by omega), cond_false]
theorem total_L0s (l : List (List Int)) : ∀ (r i : Nat), i + r = l.length → (esum l ≤ 1024 ∧ r7_total_L0 l 1024 r ((sm i (fun i => (l.getD i []).length) : Nat) : Int) (i : Int) = ((esum l : Nat) : Int)) ∨ (1024 < esum l ∧ 1024 < r7_total_L0 l 1024 r ((sm i (fun i => (l.getD i []).length) : Nat) : Int) (i : Int))
 | 0, i, h => by
  rw [r7_total_L0, show i = l.length by omega]
  show (esum l ≤ 1024 ∧ ((esum l : Nat) : Int) = ((esum l : Nat) : Int)) ∨ (1024 < esum l ∧ 1024 < ((esum l : Nat) : Int))
  omega
 | r + 1, i, h => by
  have hm := sm_mono (fun i => (l.getD i []).length) (n := i + 1) (m := l.length) (by omega)
  have hm' : sm (i + 1) (fun i => (l.getD i []).length) ≤ esum l := hm
  have hs : sm (i + 1) (fun i => (l.getD i []).length) = sm i (fun i => (l.getD i []).length) + (l.getD i []).length := rfl
  rw [r7_total_L0, Int.toNat_natCast]
  by_cases c : ((sm i (fun i => (l.getD i []).length) : Nat) : Int) ≤ 1024
  ·rw [decide_eq_true c, cond_true]
   by_cases c2 : (l.getD i []).length ≤ 1025
   ·rw [show ((sm i (fun i => (l.getD i []).length) : Nat) : Int) + min (((l.getD i []).length : Nat) : Int) (1024 + 1) = ((sm (i + 1) (fun i => (l.getD i []).length) : Nat) : Int) by omega, show (i : Int) + 1 = ((i + 1 : Nat) : Int) by omega]
    exact total_L0s l r (i + 1) (by omega)
   ·right
    rw [total_big l r _ _ (by omega)]
    omega
  ·right
   rw [decide_eq_false c, cond_false]
   omega
theorem total_s (l : List (List Int)) : (esum l ≤ 1024 ∧ r7_total l 1024 = ((esum l : Nat) : Int)) ∨ (1024 < esum l ∧ 1024 < r7_total l 1024) := by
 unfold r7_total
 have := total_L0s l l.length 0 (by omega)
 rw [show ((((l.length : Nat) : Int) : Int) - 0).toNat = l.length by omega]
 exact this
theorem Rising_L0e (l : List Int) (n : Int) : ∀ (r : Nat) (i : Int), r7_Rising_L0 l n r i = gh_ascending_L0 l n r i
 | 0, i => by rw [r7_Rising_L0, gh_ascending_L0]
 | r + 1, i => by rw [r7_Rising_L0, gh_ascending_L0]; simp only [Rising_L0e l n r]
theorem Rising_iff (l : List Int) (n : Int) : r7_Rising l n = true ↔ Asc l n := by
 rw [← gasc_iff]
 unfold r7_Rising gh_ascending
 rw [Rising_L0e]
 all_goals cases gh_ascending_L0 l n ((((l.length : Nat) : Int) - 0).toNat) 0 <;> exact Iff.rfl
theorem Has_iff (l : List Int) (n : Int) : r7_Has l n = true ↔ n ∈ l := by
 have := scan (fun r i => r7_Has_L0 l n r i) (fun i => l.getD i.toNat 0 == n) true () (fun _ => rfl) (fun _ _ => rfl) ((((l.length : Nat) : Int) - 0).toNat) 0
 unfold r7_Has
 rw [mem_getD]
 rcases this with ⟨e, j, j1, j2, j3⟩ | ⟨e, h⟩
 ·rw [e]
  exact ⟨fun _ => ⟨j, j1, by omega, by simpa using j3⟩, fun _ => rfl⟩
 ·rw [e]
  refine ⟨fun h => by simp at h, ?_⟩
  rintro ⟨j, j1, j2, j3⟩
  have := h j j1 (by omega)
  simp [-List.getD_eq_getElem?_getD] at this; exact absurd j3 this
theorem Has_false {l : List Int} {n : Int} (h : r7_Has l n = false) : n ∉ l := fun e => by
 rw [(Has_iff l n).2 e] at h; cases h
theorem rV_L0 {g : GGraph} : ∀ (r : Nat) (i : Int), 0 ≤ i → (r7_ValidGraph_L0 g r i = .brk () ∧ ∀ k : Int, i ≤ k → k < i + (r : Int) → Asc (g.Succ.getD k.toNat []) ((g.Nodes.length : Nat) : Int) ∧ Asc (g.Pred.getD k.toNat []) ((g.Nodes.length : Nat) : Int)) ∨
  (r7_ValidGraph_L0 g r i = .ret false ∧ ¬ ∀ k : Int, i ≤ k → k < i + (r : Int) → Asc (g.Succ.getD k.toNat []) ((g.Nodes.length : Nat) : Int) ∧ Asc (g.Pred.getD k.toNat []) ((g.Nodes.length : Nat) : Int))
 | 0, i, h0 => .inl ⟨by rw [r7_ValidGraph_L0], fun k h1 h2 => by omega⟩
 | r + 1, i, h0 => by
  rw [r7_ValidGraph_L0]
  dsimp only
  cases c1 : r7_Rising (g.Succ.getD (i : Int).toNat []) ((g.Nodes.length : Nat) : Int)
  ·refine .inr ⟨rfl, fun h => ?_⟩
   rw [(Rising_iff _ _).2 (h i (by omega) (by omega)).1] at c1; cases c1
  rw [Bool.not_true, cond_false]
  cases c2 : r7_Rising (g.Pred.getD (i : Int).toNat []) ((g.Nodes.length : Nat) : Int)
  ·refine .inr ⟨rfl, fun h => ?_⟩
   rw [(Rising_iff _ _).2 (h i (by omega) (by omega)).2] at c2; cases c2
  rw [Bool.not_true, cond_false]
  rcases rV_L0 (g := g) r (i + 1) (by omega) with ⟨a1, a2⟩ | ⟨a1, a2⟩
  ·refine .inl ⟨a1, fun k h1 h2 => ?_⟩
   by_cases e : k = i
   ·rw [e]; exact ⟨(Rising_iff _ _).1 c1, (Rising_iff _ _).1 c2⟩
   ·exact a2 k (by omega) (by omega)
  ·exact .inr ⟨a1, fun h => a2 fun k h1 h2 => h k (by omega) (by omega)⟩
theorem rV_L2 {g : GGraph} {i : Int} : ∀ (r : Nat) (k : Int), 0 ≤ k → k + (r : Int) = ((g.Succ.getD i.toNat []).length : Int) → (r7_ValidGraph_L2 g i r k = .brk () ∧ ∀ x ∈ (g.Succ.getD i.toNat []).drop k.toNat, i ∈ g.Pred.getD x.toNat []) ∨ (r7_ValidGraph_L2 g i r k = .ret false ∧ ∃ x ∈ g.Succ.getD i.toNat [], i ∉ g.Pred.getD x.toNat [])
 | 0, k, h0, h1 => .inl ⟨by rw [r7_ValidGraph_L2], fun x hx => by rw [List.drop_of_length_le (by omega)] at hx; cases hx⟩
 | r + 1, k, h0, h1 => by
  rw [r7_ValidGraph_L2]
  try dsimp only
  have hk : k.toNat < (g.Succ.getD i.toNat []).length := by omega
  cases c1 : r7_Has (g.Pred.getD (((g.Succ.getD (i : Int).toNat []).getD (k : Int).toNat 0) : Int).toNat []) i
  ·exact .inr ⟨rfl, _, getD_mem hk, Has_false c1⟩
  ·rw [Bool.not_true, cond_false]
   rcases rV_L2 (g := g) (i := i) r (k + 1) (by omega) (by omega) with ⟨a1, a2⟩ | a
   ·refine .inl ⟨a1, fun x hx => ?_⟩
    rw [List.drop_eq_getElem_cons hk] at hx
    rcases List.mem_cons.1 hx with hx | hx
    ·rw [hx, ← getD_lt hk]; exact (Has_iff _ _).1 c1
    ·exact a2 x (by rw [show (k + 1).toNat = k.toNat + 1 by omega]; exact hx)
   ·exact .inr a
theorem rV_L3 {g : GGraph} {i : Int} : ∀ (r : Nat) (k : Int), 0 ≤ k → k + (r : Int) = ((g.Pred.getD i.toNat []).length : Int) → (r7_ValidGraph_L3 g i r k = .brk () ∧ ∀ x ∈ (g.Pred.getD i.toNat []).drop k.toNat, i ∈ g.Succ.getD x.toNat []) ∨ (r7_ValidGraph_L3 g i r k = .ret false ∧ ∃ x ∈ g.Pred.getD i.toNat [], i ∉ g.Succ.getD x.toNat [])
 | 0, k, h0, h1 => .inl ⟨by rw [r7_ValidGraph_L3], fun x hx => by rw [List.drop_of_length_le (by omega)] at hx; cases hx⟩
 | r + 1, k, h0, h1 => by
  rw [r7_ValidGraph_L3]
  try dsimp only
  have hk : k.toNat < (g.Pred.getD i.toNat []).length := by omega
  cases c1 : r7_Has (g.Succ.getD (((g.Pred.getD (i : Int).toNat []).getD (k : Int).toNat 0) : Int).toNat []) i
  ·exact .inr ⟨rfl, _, getD_mem hk, Has_false c1⟩
  ·rw [Bool.not_true, cond_false]
   rcases rV_L3 (g := g) (i := i) r (k + 1) (by omega) (by omega) with ⟨a1, a2⟩ | a
   ·refine .inl ⟨a1, fun x hx => ?_⟩
    rw [List.drop_eq_getElem_cons hk] at hx
    rcases List.mem_cons.1 hx with hx | hx
    ·rw [hx, ← getD_lt hk]; exact (Has_iff _ _).1 c1
    ·exact a2 x (by rw [show (k + 1).toNat = k.toNat + 1 by omega]; exact hx)
   ·exact .inr a
theorem rV_L1 {g : GGraph} : ∀ (r : Nat) (i : Int), 0 ≤ i → (r7_ValidGraph_L1 g r i = .brk () ∧ ∀ k : Int, i ≤ k → k < i + (r : Int) → Both g k) ∨ (r7_ValidGraph_L1 g r i = .ret false ∧ ¬ ∀ k : Int, i ≤ k → k < i + (r : Int) → Both g k)
 | 0, i, h0 => .inl ⟨by rw [r7_ValidGraph_L1], fun k h1 h2 => by omega⟩
 | r + 1, i, h0 => by
  rw [r7_ValidGraph_L1]
  rcases rV_L2 (g := g) (i := i) ((((((g.Succ.getD (i : Int).toNat []).length : Nat) : Int) : Int) - 0).toNat) 0 (by omega) (by omega) with ⟨a1, a2⟩ | ⟨a1, x, a2, a3⟩
  ·rw [a1]
   dsimp only
   rcases rV_L3 (g := g) (i := i) ((((((g.Pred.getD (i : Int).toNat []).length : Nat) : Int) : Int) - 0).toNat) 0 (by omega) (by omega) with ⟨b1, b2⟩ | ⟨b1, x, b2, b3⟩
   ·rw [b1]
    dsimp only
    rcases rV_L1 (g := g) r (i + 1) (by omega) with ⟨c1, c2⟩ | ⟨c1, c2⟩
    ·refine .inl ⟨c1, fun k h1 h2 => ?_⟩
     by_cases e : k = i
     ·rw [e]; exact ⟨a2, b2⟩
     ·exact c2 k (by omega) (by omega)
    ·exact .inr ⟨c1, fun h => c2 fun k h1 h2 => h k (by omega) (by omega)⟩
   ·rw [b1]
    exact .inr ⟨rfl, fun h => b3 ((h i (by omega) (by omega)).2 x b2)⟩
  ·rw [a1]
   exact .inr ⟨rfl, fun h => a3 ((h i (by omega) (by omega)).1 x a2)⟩
theorem rValid_VF {g : GGraph} (h : r7_ValidGraph g = true) : (1 ≤ g.Nodes.length ∧ g.Nodes.length ≤ 256) ∧ VF g.Succ g.Pred g.Nodes.length ∧ esum g.Succ ≤ 1024 := by
 unfold r7_ValidGraph at h
 dsimp only at h
 by_cases c1 : ((g.Nodes.length : Nat) : Int) < 1
 ·rw [decide_eq_true c1] at h; cases h
 rw [decide_eq_false c1, cond_false] at h
 by_cases c2 : 256 < ((g.Nodes.length : Nat) : Int)
 ·rw [decide_eq_true c2] at h; cases h
 rw [decide_eq_false c2, cond_false] at h
 cases c3 : ((g.Succ.length : Nat) : Int) != ((g.Nodes.length : Nat) : Int)
 ·rw [c3, cond_false] at h
  cases c4 : ((g.Pred.length : Nat) : Int) != ((g.Nodes.length : Nat) : Int)
  ·rw [c4, cond_false] at h
   have hsl0 : ((g.Succ.length : Nat) : Int) = ((g.Nodes.length : Nat) : Int) := by simpa using c3
   have hsl : g.Succ.length = g.Nodes.length := by omega
   have hpl0 : ((g.Pred.length : Nat) : Int) = ((g.Nodes.length : Nat) : Int) := by simpa using c4
   have hpl : g.Pred.length = g.Nodes.length := by omega
   rcases total_s g.Succ with ⟨t1, t2⟩ | ⟨t1, t2⟩
   ·rw [t2, decide_eq_false (by omega), cond_false] at h
    rcases total_s g.Pred with ⟨u1, u2⟩ | ⟨u1, u2⟩
    ·rw [u2, decide_eq_false (by omega), cond_false] at h
     rcases rV_L0 (g := g) (((((g.Nodes.length : Nat) : Int) : Int) - 0).toNat) 0 (by omega) with ⟨a1, a2⟩ | ⟨a1, a2⟩
     ·rw [a1] at h
      dsimp only at h
      rcases rV_L1 (g := g) (((((g.Nodes.length : Nat) : Int) : Int) - 0).toNat) 0 (by omega) with ⟨b1, b2⟩ | ⟨b1, b2⟩
      ·refine ⟨by omega, ⟨hsl, hpl, fun k hk => ?_, fun k hk => ?_, fun i k hi hk => ?_⟩, t1⟩
       ·have := (a2 (k : Int) (by omega) (by omega)).1; rwa [Int.toNat_natCast] at this
       ·have := (a2 (k : Int) (by omega) (by omega)).2; rwa [Int.toNat_natCast] at this
       ·have h1 := (b2 (i : Int) (by omega) (by omega)).1 (k : Int)
        have h2 := (b2 (k : Int) (by omega) (by omega)).2 (i : Int)
        rw [Int.toNat_natCast, Int.toNat_natCast] at h1 h2
        exact ⟨h1, h2⟩
      ·rw [b1] at h; cases h
     ·rw [a1] at h; cases h
    ·rw [decide_eq_true u2] at h; cases h
   ·rw [decide_eq_true t2] at h; cases h
  ·rw [c4] at h; cases h
 ·rw [c3] at h; cases h
theorem rValid_of {g : GGraph} {n : Nat} (hn : g.Nodes.length = n) (h1 : 1 ≤ n) (h2 : n ≤ 256) (h : VF g.Succ g.Pred n) (hs : esum g.Succ ≤ 1024) : r7_ValidGraph g = true := by
 unfold r7_ValidGraph
 have e1 := h.sl; have e2 := h.pl; have e3 := h.cnt
 dsimp only
 rw [decide_eq_false (by omega), cond_false, decide_eq_false (by omega), cond_false]
 rw [show (((g.Succ.length : Nat) : Int) != ((g.Nodes.length : Nat) : Int)) = false by rw [e1, hn]; simp, cond_false]
 rw [show (((g.Pred.length : Nat) : Int) != ((g.Nodes.length : Nat) : Int)) = false by rw [e2, hn]; simp, cond_false]
 rcases total_s g.Succ with ⟨t1, t2⟩ | ⟨t1, t2⟩
 ·rw [t2, decide_eq_false (by omega), cond_false]
  rcases total_s g.Pred with ⟨u1, u2⟩ | ⟨u1, u2⟩
  ·rw [u2, decide_eq_false (by omega), cond_false]
   rcases rV_L0 (g := g) (((((g.Nodes.length : Nat) : Int) : Int) - 0).toNat) 0 (by omega) with ⟨a1, a2⟩ | ⟨a1, a2⟩
   ·rw [a1]
    dsimp only
    rcases rV_L1 (g := g) (((((g.Nodes.length : Nat) : Int) : Int) - 0).toNat) 0 (by omega) with ⟨b1, b2⟩ | ⟨b1, b2⟩
    ·rw [b1]
    ·refine absurd (fun k k1 k2 => ⟨fun x hx => ?_, fun x hx => ?_⟩) b2
     ·have hx2 := Asc_mem (h.sa k.toNat (by omega)) hx
      have := (h.mi k.toNat x.toNat (by omega) (by omega)).1 (by rw [show ((x.toNat : Nat) : Int) = x by omega]; exact hx)
      rwa [show ((k.toNat : Nat) : Int) = k by omega] at this
     ·have hx2 := Asc_mem (h.pa k.toNat (by omega)) hx
      have := (h.mi x.toNat k.toNat (by omega) (by omega)).2 (by rw [show ((x.toNat : Nat) : Int) = x by omega]; exact hx)
      rwa [show ((k.toNat : Nat) : Int) = k by omega] at this
   ·refine absurd (fun k k1 k2 => ⟨?_, ?_⟩) a2
    ·have := h.sa k.toNat (by omega); rw [hn]; exact this
    ·have := h.pa k.toNat (by omega); rw [hn]; exact this
  ·omega
 ·omega
theorem rValid_eq (g : GGraph) : r7_ValidGraph g = gh_Valid g := by
 rw [Bool.eq_iff_iff]
 constructor
 ·intro h
  obtain ⟨h1, h2, h3⟩ := rValid_VF h
  exact Valid_of rfl h1.1 h1.2 h2 h3
 ·intro h
  obtain ⟨h1, h2, h3⟩ := gValid_VF h
  exact rValid_of rfl h1.1 h1.2 h2 h3
theorem rVs {g : GGraph} (h : r7_ValidGraph_L0 g (((((g.Nodes.length : Nat) : Int) : Int) - 0).toNat) 0 = .brk ()) {i k : Int} (hi : 0 ≤ i ∧ i < (g.Nodes.length : Int)) (hk : 0 ≤ k ∧ k < ((g.Succ.getD i.toNat []).length : Int)) : 0 ≤ (g.Succ.getD i.toNat []).getD k.toNat 0 ∧ (g.Succ.getD i.toNat []).getD k.toNat 0 < (g.Nodes.length : Int) := by
 rcases rV_L0 (g := g) (((((g.Nodes.length : Nat) : Int) : Int) - 0).toNat) 0 (by omega) with ⟨a1, a2⟩ | ⟨a1, a2⟩
 ·exact Asc_mem (a2 i (by omega) (by omega)).1 (getD_mem (by omega))
 ·rw [a1] at h; cases h
theorem rVp {g : GGraph} (h : r7_ValidGraph_L0 g (((((g.Nodes.length : Nat) : Int) : Int) - 0).toNat) 0 = .brk ()) {i k : Int} (hi : 0 ≤ i ∧ i < (g.Nodes.length : Int)) (hk : 0 ≤ k ∧ k < ((g.Pred.getD i.toNat []).length : Int)) : 0 ≤ (g.Pred.getD i.toNat []).getD k.toNat 0 ∧ (g.Pred.getD i.toNat []).getD k.toNat 0 < (g.Nodes.length : Int) := by
 rcases rV_L0 (g := g) (((((g.Nodes.length : Nat) : Int) : Int) - 0).toNat) 0 (by omega) with ⟨a1, a2⟩ | ⟨a1, a2⟩
 ·exact Asc_mem (a2 i (by omega) (by omega)).2 (getD_mem (by omega))
 ·rw [a1] at h; cases h
theorem rGV {g : GGraph} (h : r7_ValidGraph g = true) : GV g := by
 obtain ⟨h1, h2, _⟩ := rValid_VF h
 exact ⟨h1, h2.sl, h2.pl, fun k k0 k1 => h2.sa k.toNat (by omega), fun k k0 k1 => h2.pa k.toNat (by omega)⟩
theorem rGVf {g : GGraph} {r : Bool} (h : r7_ValidGraph g = r) (hr : (!r) = false) : GV g := rGV (h.trans (by cases r; cases hr; rfl))
theorem Lev3_t {g : GGraph} {level i : Int} : ∀ (r : Nat) (d : List Int) (k : Int), ((g.Succ.getD i.toNat []).length : Int) - k < (r : Int) → 0 ≤ k → k ≤ ((g.Succ.getD i.toNat []).length : Int) → r30_Levels_L3 g level i r d k ≠ LR.oof
 | 0, d, k, h, h0, h1 => by omega
 | r + 1, d, k, h, h0, h1 => by
  rw [r30_Levels_L3]
  cases ((d.getD i.toNat 0) == level)
  ·intro h; cases h
  ·by_cases c : k < ((g.Succ.getD i.toNat []).length : Int)
   ·rw [decide_eq_true c]
    cases decide ((d.getD ((g.Succ.getD i.toNat []).getD k.toNat 0).toNat 0) < 0)
    ·exact Lev3_t r _ (k + 1) (by omega) (by omega) (by omega)
    ·exact Lev3_t r _ (k + 1) (by omega) (by omega) (by omega)
   ·rw [decide_eq_false c]; intro h; cases h
theorem Lev3_s {g : GGraph} {level i : Int} {n : Nat} (hv : -1 ≤ level + 1 ∧ level + 1 ≤ (n : Int)) : ∀ (r : Nat) (d : List Int) (k : Int), ((g.Succ.getD i.toNat []).length : Int) - k < (r : Int) → 0 ≤ k → k ≤ ((g.Succ.getD i.toNat []).length : Int) → DI n d → ∃ o, r30_Levels_L3 g level i r d k = .brk o ∧ o.length = d.length ∧ DI n o
 | 0, d, k, h, h0, h1, _ => by omega
 | r + 1, d, k, h, h0, h1, hd => by
  rw [r30_Levels_L3]
  cases ((d.getD i.toNat 0) == level)
  ·exact ⟨d, rfl, rfl, hd⟩
  ·by_cases c : k < ((g.Succ.getD i.toNat []).length : Int)
   ·rw [decide_eq_true c]
    cases decide ((d.getD ((g.Succ.getD i.toNat []).getD k.toNat 0).toNat 0) < 0)
    ·exact Lev3_s hv r _ (k + 1) (by omega) (by omega) (by omega) hd
    ·obtain ⟨o, o1, o2, o3⟩ := Lev3_s (g := g) (i := i) hv r _ (k + 1) (by omega) (by omega) (by omega) (DI_set (i := ((g.Succ.getD i.toNat []).getD k.toNat 0).toNat) hd hv)
     exact ⟨o, o1, by rw [o2, List.length_set], o3⟩
   ·rw [decide_eq_false c]; exact ⟨d, rfl, rfl, hd⟩
theorem Lev2_s {g : GGraph} {level : Int} {n : Nat} (hv : -1 ≤ level + 1 ∧ level + 1 ≤ (n : Int)) : ∀ (r : Nat) (d : List Int) (i : Int), DI n d → (r30_Levels_L2 g level r d i).length = d.length ∧ DI n (r30_Levels_L2 g level r d i)
 | 0, d, i, hd => by rw [r30_Levels_L2]; exact ⟨rfl, hd⟩
 | r + 1, d, i, hd => by
  obtain ⟨o, o1, o2, o3⟩ := Lev3_s (g := g) (i := i) hv ((g.Succ.getD i.toNat []).length + 1 : Nat) d 0 (by omega) (Int.le_refl _) (by omega) hd
  rw [r30_Levels_L2, o1]
  try dsimp only
  obtain ⟨p1, p2⟩ := Lev2_s hv r o (i + 1) o3
  exact ⟨p1.trans o2, p2⟩
theorem Lev1_s {g : GGraph} {n : Nat} : ∀ (r : Nat) (d : List Int) (v : Int), 0 ≤ v → v + (r : Int) ≤ (n : Int) → DI n d → (r30_Levels_L1 g r d v).length = d.length ∧ DI n (r30_Levels_L1 g r d v)
 | 0, d, v, _, _, hd => by rw [r30_Levels_L1]; exact ⟨rfl, hd⟩
 | r + 1, d, v, h0, h1, hd => by
  rw [r30_Levels_L1]
  try dsimp only
  obtain ⟨p1, p2⟩ := Lev2_s (g := g) (level := v) (n := n) (by omega) ((((((List.replicate (((g.Nodes.length : Nat) : Int) : Int).toNat (0 : Int)).length : Nat) : Int) : Int) - 0).toNat) d 0 hd
  obtain ⟨q1, q2⟩ := Lev1_s r _ (v + 1) (by omega) (by omega) p2
  exact ⟨q1.trans p1, q2⟩
theorem Lev0_s {n : Nat} : ∀ (r : Nat) (d : List Int) (i : Int), DI n d → (r30_Levels_L0 r d i).length = d.length ∧ DI n (r30_Levels_L0 r d i)
 | 0, d, i, hd => by rw [r30_Levels_L0]; exact ⟨rfl, hd⟩
 | r + 1, d, i, hd => by
  rw [r30_Levels_L0]
  obtain ⟨q1, q2⟩ := Lev0_s r _ (i + 1) (DI_set (n := n) (i := i.toNat) (v := -1) hd (by omega))
  exact ⟨q1.trans (by simp), q2⟩
theorem Levels_ok {g : GGraph} {root : Int} {r : List Int × Int} (h : r30_Levels g root = r) (h0 : (r.2 != 0) = false) : GV g ∧ DI g.Nodes.length r.1 ∧ r.1.length = g.Nodes.length ∧ 0 ≤ root ∧ root < (g.Nodes.length : Int) := by
 subst h
 unfold r30_Levels at h0 ⊢
 dsimp only at h0 ⊢
 cases hv : r7_ValidGraph g
 ·rw [hv] at h0; cases h0
 ·rw [hv] at h0
  by_cases c1 : root < 0
  ·rw [decide_eq_true c1] at h0; cases h0
  ·by_cases c2 : ((g.Nodes.length : Nat) : Int) ≤ root
   ·rw [decide_eq_false c1, decide_eq_true c2] at h0; cases h0
   ·rw [decide_eq_false c1, decide_eq_false c2]
    simp only [Bool.not_true, cond_false]
    obtain ⟨a1, a2⟩ := Lev0_s (n := g.Nodes.length) ((((((List.replicate (((g.Nodes.length : Nat) : Int) : Int).toNat (0 : Int)).length : Nat) : Int) : Int) - 0).toNat) (List.replicate (((g.Nodes.length : Nat) : Int) : Int).toNat (0 : Int)) 0 (DI_rep _ _)
    obtain ⟨b1, b2⟩ := Lev1_s (g := g) (n := g.Nodes.length) ((((((List.replicate (((g.Nodes.length : Nat) : Int) : Int).toNat (0 : Int)).length : Nat) : Int) : Int) - 0).toNat) _ 0 (Int.le_refl _) (by simp) (DI_set (i := root.toNat) (v := 0) a2 (by omega))
    refine ⟨rGV hv, b2, ?_, by omega, by omega⟩
    rw [b1, List.length_set, a1]; simp
theorem Lv_L0 : ∀ (r : Nat) (d : List Int) (i : Int), (r30_Levels_L0 r d i).length = d.length
 | 0, d, i => by rw [r30_Levels_L0]
 | r + 1, d, i => by rw [r30_Levels_L0, Lv_L0 r]; simp
theorem Lv_L3 {g : GGraph} {level i : Int} : ∀ (r : Nat) (d : List Int) (k : Int) (o : List Int), r30_Levels_L3 g level i r d k = .brk o → o.length = d.length
 | 0, d, k, o, h => by rw [r30_Levels_L3] at h; cases h
 | r + 1, d, k, o, h => by
  rw [r30_Levels_L3] at h
  cases c1 : ((d.getD i.toNat 0) == level)
  ·rw [c1] at h; injection h with h; rw [← h]
  ·rw [c1] at h
   by_cases c : k < ((g.Succ.getD i.toNat []).length : Int)
   ·rw [decide_eq_true c] at h
    cases c2 : decide ((d.getD ((g.Succ.getD i.toNat []).getD k.toNat 0).toNat 0) < 0)
    ·rw [c2] at h; exact Lv_L3 r _ _ o h
    ·rw [c2] at h; have := Lv_L3 r _ _ o h; simpa using this
   ·rw [decide_eq_false c] at h; injection h with h; rw [← h]
theorem Lv_L2 {g : GGraph} {level : Int} : ∀ (r : Nat) (d : List Int) (i : Int), (r30_Levels_L2 g level r d i).length ≤ d.length
 | 0, d, i => by rw [r30_Levels_L2]; exact Nat.le_refl _
 | r + 1, d, i => by
  rw [r30_Levels_L2]
  cases h : r30_Levels_L3 g level i ((g.Succ.getD i.toNat []).length + 1 : Nat) d 0 with
  | brk o => have := Lv_L2 (g := g) (level := level) r o (i + 1); rw [Lv_L3 _ _ _ _ h] at this; exact this
  | ret o => exact Nat.zero_le _
  | oof => exact Nat.zero_le _
theorem Lv_L1 {g : GGraph} : ∀ (r : Nat) (d : List Int) (v : Int), (r30_Levels_L1 g r d v).length ≤ d.length
 | 0, d, v => by rw [r30_Levels_L1]; exact Nat.le_refl _
 | r + 1, d, v => by
  rw [r30_Levels_L1]
  try dsimp only
  exact Nat.le_trans (Lv_L1 r _ _) (Lv_L2 _ _ _)
theorem Lv_len (g : GGraph) (root : Int) : (r30_Levels g root).1.length ≤ g.Nodes.length := by
 unfold r30_Levels
 dsimp only
 cases (!r7_ValidGraph g)
 ·cases decide (root < 0)
  ·cases decide (((g.Nodes.length : Nat) : Int) ≤ root)
   ·simp only [cond_false]
    refine Nat.le_trans (Lv_L1 _ _ _) ?_
    rw [List.length_set, Lv_L0]; simp
   ·exact Nat.zero_le _
  ·exact Nat.zero_le _
 ·exact Nat.zero_le _
theorem Pl1_nil {g : GGraph} {d place : List Int} {level : Int} (h : ∀ x ∈ d, x ≠ level) : ∀ (r : Nat) (l : List Int) (n : Int), 0 ≤ n → n + (r : Int) ≤ (d.length : Int) → r30_Places_L1 g d place level r l n = l
 | 0, l, n, _, _ => by rw [r30_Places_L1]
 | r + 1, l, n, h0, h1 => by
  rw [r30_Places_L1]
  have h2 : ((d.getD n.toNat 0) != level) = true := by simpa using h _ (getD_mem (xs := d) (i := n.toNat) (d := 0) (by omega))
  rw [h2]
  exact Pl1_nil h r l (n + 1) (by omega) (by omega)
theorem Pl0_t {g : GGraph} {d : List Int} {N : Nat} (hd : DI N d) : ∀ (r : Nat) (place : List Int) (out : List (List Int)) (level : Int), (N : Int) + 1 - level < (r : Int) → level ≤ (N : Int) + 1 → r30_Places_L0 g d r place out level ≠ LR.oof
 | 0, place, out, level, h, h1 => by omega
 | r + 1, place, out, level, h, h1 => by
  rw [r30_Places_L0]
  try dsimp only
  by_cases c : level ≤ (N : Int)
  ·cases (((r30_Places_L1 g d place level (((((d.length : Nat) : Int) : Int) - 0).toNat) [] 0).length : Nat) : Int) == 0
   ·exact Pl0_t hd r _ _ (level + 1) (by omega) (by omega)
   ·intro h; cases h
  ·rw [Pl1_nil (fun x hx => by have := hd x hx; omega) _ _ _ (Int.le_refl _) (by omega)]
   intro h; cases h
theorem Pl1_RL {g : GGraph} {d place : List Int} {level : Int} {n : Nat} (hl : d.length ≤ n) : ∀ (r : Nat) (l : List Int) (k : Int), 0 ≤ k → k + (r : Int) ≤ (d.length : Int) → RL n l → RL n (r30_Places_L1 g d place level r l k)
 | 0, l, k, _, _, h => by rw [r30_Places_L1]; exact h
 | r + 1, l, k, h0, h1, h => by
  rw [r30_Places_L1]
  try dsimp only
  cases ((d.getD k.toNat 0) != level)
  ·exact Pl1_RL hl r _ (k + 1) (by omega) (by omega) (RL_ins h (by omega))
  ·exact Pl1_RL hl r _ (k + 1) (by omega) (by omega) h
theorem Pl0_RW {g : GGraph} {d : List Int} {n : Nat} (hl : d.length ≤ n) : ∀ (r : Nat) (place : List Int) (out : List (List Int)) (level : Int) (o : List (List Int) × Int), RW n out → r30_Places_L0 g d r place out level = .ret o → RW n o.1
 | 0, place, out, level, o, h, e => by rw [r30_Places_L0] at e; cases e
 | r + 1, place, out, level, o, h, e => by
  rw [r30_Places_L0] at e
  try dsimp only at e
  have h1 := Pl1_RL (g := g) (d := d) (place := place) (level := level) hl (((((d.length : Nat) : Int) : Int) - 0).toNat) [] 0 (Int.le_refl _) (by omega) (RL_nil n)
  generalize r30_Places_L1 g d place level (((((d.length : Nat) : Int) : Int) - 0).toNat) [] 0 = x at e h1
  cases c : (((x.length : Nat) : Int) == 0)
  ·rw [c] at e; exact Pl0_RW hl r _ _ (level + 1) o (RW_app h h1) e
  ·rw [c] at e
   injection e with e
   subst e
   exact h
theorem Places_ok {g : GGraph} {root : Int} {r : List (List Int) × Int} (h : r30_Places g root = r) (h0 : (r.2 != 0) = false) : RW g.Nodes.length r.1 ∧ 1 ≤ g.Nodes.length ∧ g.Nodes.length ≤ 256 := by
 subst h
 unfold r30_Places at h0 ⊢
 dsimp only at h0 ⊢
 cases c : ((r30_Levels g root).2 != 0)
 ·obtain ⟨hg, hd, hl, r0, r1⟩ := Levels_ok rfl c
  refine ⟨?_, hg.n1⟩
  rw [cond_false]
  cases e : r30_Places_L0 g (r30_Levels g root).1 ((r30_Levels g root).1.length + 3 : Nat) (List.replicate ((((r30_Levels g root).1.length : Nat) : Int) : Int).toNat (0 : Int)) [[root]] 1 with
  | brk o => exact fun s hs => (by cases hs)
  | oof => exact fun s hs => (by cases hs)
  | ret o => exact Pl0_RW (by omega) _ _ _ _ o (RW_one ⟨r0, r1⟩) e
 ·rw [c, cond_true] at h0
  rw [c] at h0
  cases h0
theorem Pl_L1 {g : GGraph} {d place : List Int} {level : Int} : ∀ (r : Nat) (l : List Int) (n : Int), (r30_Places_L1 g d place level r l n).length ≤ l.length + r
 | 0, l, n => by rw [r30_Places_L1]; exact Nat.le_refl _
 | r + 1, l, n => by
  rw [r30_Places_L1]
  try dsimp only
  cases ((d.getD n.toNat 0) != level)
  ·refine Nat.le_trans (Pl_L1 r _ _) ?_
   simp only [List.length_append, List.length_take, List.length_drop, List.length_cons, List.length_nil]
   omega
  ·exact Nat.le_trans (Pl_L1 r _ _) (by omega)
theorem Pl_L0 {g : GGraph} {d : List Int} {N : Nat} (hd : d.length ≤ N) : ∀ (r : Nat) (place : List Int) (out : List (List Int)) (level : Int) (o : List (List Int) × Int), (∀ s ∈ out, s.length ≤ N + 1) → r30_Places_L0 g d r place out level = .ret o → (∀ s ∈ o.1, s.length ≤ N + 1) ∧ o.1.length ≤ out.length + r
 | 0, place, out, level, o, h, e => by rw [r30_Places_L0] at e; cases e
 | r + 1, place, out, level, o, h, e => by
  rw [r30_Places_L0] at e
  try dsimp only at e
  have h1 := Pl_L1 (g := g) (d := d) (place := place) (level := level) (((((d.length : Nat) : Int) : Int) - 0).toNat) [] 0
  generalize r30_Places_L1 g d place level (((((d.length : Nat) : Int) : Int) - 0).toNat) [] 0 = x at e h1
  cases c : (((x.length : Nat) : Int) == 0)
  ·rw [c] at e
   obtain ⟨p1, p2⟩ := Pl_L0 hd r _ (out ++ [x]) (level + 1) o (fun s hs => by
    rcases List.mem_append.1 hs with h2 | h2
    ·exact h s h2
    ·rw [List.mem_singleton.1 h2]; simp only [List.length_nil] at h1; omega) e
   exact ⟨p1, by simp only [List.length_append, List.length_cons, List.length_nil] at p2; omega⟩
  ·rw [c] at e
   injection e with e
   subst e
   exact ⟨h, by show out.length ≤ out.length + (r + 1); omega⟩
theorem Pl_len {g : GGraph} {N : Nat} (hN : g.Nodes.length ≤ N) (root : Int) : (∀ s ∈ (r30_Places g root).1, s.length ≤ N + 1) ∧ (r30_Places g root).1.length ≤ N + 4 := by
 unfold r30_Places
 dsimp only
 have hl := Lv_len g root
 cases ((r30_Levels g root).2 != 0)
 ·simp only [cond_false]
  cases h : r30_Places_L0 g (r30_Levels g root).1 ((r30_Levels g root).1.length + 3 : Nat) (List.replicate ((((r30_Levels g root).1.length : Nat) : Int) : Int).toNat (0 : Int)) [[root]] 1 with
  | brk o => exact ⟨fun s hs => (by cases hs), Nat.zero_le _⟩
  | oof => exact ⟨fun s hs => (by cases hs), Nat.zero_le _⟩
  | ret o =>
   obtain ⟨p1, p2⟩ := Pl_L0 (N := N) (by omega) _ _ _ _ o (fun s hs => by rw [List.mem_singleton.1 hs]; simp) h
   exact ⟨p1, by show o.1.length ≤ N + 4; simp only [List.length_cons, List.length_nil] at p2; omega⟩
 ·exact ⟨fun s hs => (by cases hs), Nat.zero_le _⟩
theorem Pt_L0 : ∀ (r : Nat) (l : List GPoint) (i : Int), PBd l → PBd (r30_Points_L0 r l i)
 | 0, l, i, h => by rw [r30_Points_L0]; exact h
 | r + 1, l, i, h => by rw [r30_Points_L0]; exact Pt_L0 r _ _ (PBd_set h (by decide) (by decide))
theorem Pt_L2 {m : List (List Int)} {level : Int} (hv : level.natAbs ≤ 1000000) : ∀ (r : Nat) (l : List GPoint) (i : Int), PBd l → 0 ≤ i → i + (r : Int) ≤ 1000000 → PBd (r30_Points_L2 m level r l i)
 | 0, l, i, h, _, _ => by rw [r30_Points_L2]; exact h
 | r + 1, l, i, h, h0, h1 => by rw [r30_Points_L2]; exact Pt_L2 hv r _ _ (PBd_set h (by omega) hv) (by omega) (by omega)
theorem Pt_L1 {m : List (List Int)} (hm : ∀ s ∈ m, s.length ≤ 1000000) : ∀ (r : Nat) (l : List GPoint) (v : Int), PBd l → 0 ≤ v → v + (r : Int) ≤ 1000000 → PBd (r30_Points_L1 m r l v)
 | 0, l, v, h, _, _ => by rw [r30_Points_L1]; exact h
 | r + 1, l, v, h, h0, h1 => by
  rw [r30_Points_L1]
  try dsimp only
  have hs : (m.getD v.toNat []).length ≤ 1000000 := by
   by_cases c : v.toNat < m.length
   ·exact hm _ (getD_mem c)
   ·rw [List.getD_eq_getElem?_getD, List.getElem?_eq_none (by omega)]; simp
  exact Pt_L1 hm r _ (v + 1) (Pt_L2 (by omega) _ _ _ h (Int.le_refl _) (by omega)) (by omega) (by omega)
theorem Points_PBd {g : GGraph} (hN : g.Nodes.length ≤ 100000) (root : Int) : PBd (r30_Points g root).1 := by
 obtain ⟨h1, h2⟩ := Pl_len hN root
 unfold r30_Points
 dsimp only
 cases ((r30_Places g root).2 != 0)
 ·simp only [cond_false]
  refine Pt_L1 (fun s hs => Nat.le_trans (h1 s hs) (by decide)) _ _ 0 (Pt_L0 _ _ _ (fun p hp => ?_)) (Int.le_refl _) (by omega)
  rw [List.eq_of_mem_replicate hp]
  exact ⟨by decide, by decide⟩
 ·intro p hp; cases hp
theorem points_L0e (l : List GPoint) : ∀ (r : Nat) (out : List Cpx) (i : Nat), i + r = l.length → w33_points_L0 l r out (i : Int) = out ++ (l.drop i).map pt
 | 0, out, i, h => by rw [w33_points_L0, List.drop_of_length_le (by omega)]; simp
 | r + 1, out, i, h => by
  have hi : i < l.length := by omega
  rw [w33_points_L0, show ((i : Int) + 1) = ((i + 1 : Nat) : Int) by omega, points_L0e l r _ (i + 1) (by omega), List.drop_eq_getElem_cons hi, show ((i : Int)).toNat = i by omega]
  have : l.getD i default = l[i] := by simp [List.getD, hi]
  rw [this, List.map_cons, List.append_assoc]
  all_goals rfl
theorem points_eq (l : List GPoint) : w33_points l = l.map pt := by
 unfold w33_points
 have := points_L0e l l.length [] 0 (by omega)
 rw [show ((((l.length : Nat) : Int) : Int) - 0).toNat = l.length by omega]
 rw [show ((0 : Nat) : Int) = 0 from rfl] at this
 rw [this]
 simp
theorem Abs_trok {x : Flo} {y : BitVec 64} {r : Flo} (hr : math_Abs x = r) (h : fle r ⟨y⟩ = true) : ftruncok x = true := by
 subst hr
 exact fle_trok (x := x.b) (y := y) h
theorem edge_sum {e : Gedge} (h : EW e) {x y : Flo} (hx : math_Abs (Flo.mk (csub e.to_ e.from_).re) = x) (hy : math_Abs (Flo.mk (csub e.to_ e.from_).im) = y) : addok x y = true ∧ ∃ n : Int, 0 ≤ n ∧ n ≤ 4096 ∧ IV (fadd x y).b n := by
 obtain ⟨_, u, v, h1, h2, h3, h4⟩ := edge_ok h
 subst hx
 subst hy
 have p := IV_add (IV_abs h1) (IV_abs h2) (by omega)
 exact ⟨p.1, _, by omega, by omega, p.2⟩
theorem edge_addA {l : List Gedge} {i : Nat} {x y : Flo} (hx : math_Abs (Flo.mk (csub (l.getD i default).to_ (l.getD i default).from_).re) = x) (hy : math_Abs (Flo.mk (csub (l.getD i default).to_ (l.getD i default).from_).im) = y) (h : ∀ e ∈ l, EW e) (hi : i < l.length) : addok x y = true := (edge_sum (h _ (getD_mem (d := default) hi)) hx hy).1
theorem edge_addB {l : List Gedge} {i : Nat} {s x y : Flo} (hx : math_Abs (Flo.mk (csub (l.getD i default).to_ (l.getD i default).from_).re) = x) (hy : math_Abs (Flo.mk (csub (l.getD i default).to_ (l.getD i default).from_).im) = y) (h : ∀ e ∈ l, EW e) (hi : i < l.length) (hs : NN s) : addok s (fadd x y) = true ∧ NN (fadd s (fadd x y)) := by
 obtain ⟨n, _, _, hn⟩ := (edge_sum (h _ (getD_mem (d := default) hi)) hx hy).2
 exact NN_add hs hn
theorem edge_F {e : Gedge} (h : EW e) : IV (fadd (math_Abs (Flo.mk (csub e.to_ e.from_).re)) (math_Abs (Flo.mk (csub e.to_ e.from_).im))).b (lnE e) ∧ 0 ≤ lnE e ∧ lnE e ≤ 4096 := by
 obtain ⟨a, b, c, d, ⟨⟨h1, h2⟩, h3, h4⟩, ⟨a1, b1⟩, c1, d1⟩ := h
 have p1 := IV_sub h3 h1 (by omega)
 have p2 := IV_sub h4 h2 (by omega)
 have p := IV_add (IV_abs p1.2) (IV_abs p2.2) (by omega)
 unfold lnE
 rw [toI_of h1 a1, toI_of h2 b1, toI_of h3 c1, toI_of h4 d1]
 exact ⟨p.2, by omega, by omega⟩
theorem whole1_eq (x : Flo) : layout_whole_1 x = wholeB x.b := by
 show (bif fle ⟨babs x.b⟩ ⟨4652218415073722368#64⟩ then feq x (ftrunc x) else false) = (fle ⟨babs x.b⟩ ⟨4652218415073722368#64⟩ && feq ⟨x.b⟩ (ftrunc ⟨x.b⟩))
 all_goals (cases fle ⟨babs x.b⟩ ⟨4652218415073722368#64⟩ <;> rfl)
theorem whole2_eq (p : Cpx) : layout_whole_2_whole_1 p = !(wholeB p.re && wholeB p.im) := by
 -- layout_whole is behind
 unfold layout_whole_2_whole_1
 simp only [whole1_eq]
 all_goals (cases wholeB p.re <;> cases wholeB p.im <;> rfl)
theorem ixw (l : List Cpx) : ∀ (r : Nat) (i : Int), 0 ≤ i → i + (r : Int) = (l.length : Int) → (sc_IndexFunc_complex128_whole_2_L0 l r i = .brk () ∧ ∀ j : Nat, i ≤ (j : Int) → j < l.length → layout_whole_2_whole_1 (l.getD j default) = false) ∨ ∃ j : Int, sc_IndexFunc_complex128_whole_2_L0 l r i = .ret j ∧ i ≤ j ∧ j < (l.length : Int) ∧ layout_whole_2_whole_1 (l.getD j.toNat default) = true
 | 0, i, h0, h1 => by
  -- layout_whole is behind
  rw [sc_IndexFunc_complex128_whole_2_L0]
  exact .inl ⟨rfl, fun j h2 h3 => by omega⟩
 | r + 1, i, h0, h1 => by
  rw [sc_IndexFunc_complex128_whole_2_L0]
  try dsimp only
  cases e : layout_whole_2_whole_1 (l.getD i.toNat default)
  ·rcases ixw l r (i + 1) (by omega) (by omega) with ⟨h2, h3⟩ | ⟨j, h2, h3, h4, h5⟩
   ·refine .inl ⟨h2, fun j h4 h5 => ?_⟩
    by_cases c : (j : Int) = i
    ·rw [show j = i.toNat by omega]; exact e
    ·exact h3 j (by omega) h5
   ·exact .inr ⟨j, h2, by omega, h4, h5⟩
  ·exact .inr ⟨i, rfl, Int.le_refl _, by omega, e⟩
theorem whole_iff (l : List Cpx) : layout_whole l = true ↔ ∀ p ∈ l, wholeB p.re = true ∧ wholeB p.im = true := by
 unfold layout_whole sc_ContainsFunc_complex128_whole_2 sc_IndexFunc_complex128_whole_2
 dsimp only
 rcases ixw l _ 0 (by omega) (show (0 : Int) + (((((l.length : Nat) : Int) - 0).toNat : Nat) : Int) = (l.length : Int) by omega) with ⟨h2, h3⟩ | ⟨j, h2, h3, h4, h5⟩
 ·rw [h2]
  refine ⟨fun _ p hp => ?_, fun _ => rfl⟩
  obtain ⟨j, hj, e⟩ := List.getElem_of_mem hp
  have := h3 j (by omega) hj
  rw [List.getD_eq_getElem?_getD, List.getElem?_eq_getElem hj] at this
  simp only [Option.getD_some] at this
  rw [e, whole2_eq] at this
  simpa using this
 ·rw [h2]
  refine ⟨fun h => ?_, fun h => ?_⟩
  ·simp only [decide_eq_true h3] at h; cases h
  ·have hm := h _ (getD_mem (xs := l) (i := j.toNat) (d := default) (by omega))
   rw [whole2_eq, hm.1, hm.2] at h5
   cases h5
theorem whole_WP (l : List Cpx) : layout_whole l = true ↔ WP l := by
 rw [whole_iff]
 refine ⟨fun h p hp => ?_, fun h p hp => ?_⟩
 ·obtain ⟨h1, h2⟩ := h p hp
  obtain ⟨a, a1, a2⟩ := whole_IV h1
  obtain ⟨b, b1, b2⟩ := whole_IV h2
  exact ⟨a, b, ⟨a2, b2⟩, a1, b1⟩
 ·obtain ⟨a, b, ⟨h1, h2⟩, a1, b1⟩ := h p hp
  exact ⟨whole_of h1 a1, whole_of h2 b1⟩
theorem whole_f {at_ : List Cpx} {v : Bool} (h : layout_whole at_ = v) (hr : (!v) = false) : WP at_ := (whole_WP at_).1 (h.trans (by cases v; cases hr; rfl))
theorem edges_L1W {at_ : List Cpx} (h : WP at_) (a : Int) (ha : a.toNat < at_.length) (v : List Int) : ∀ (r : Nat) (l : List Gedge) (j : Int), (∀ e ∈ v, e.toNat < at_.length) → 0 ≤ j → j + (r : Int) ≤ (v.length : Int) → (∀ e ∈ l, EW e) → ∀ e ∈ layout_edges_L1 at_ a v r l j, EW e
 | 0, l, j, hv, h0, h1, hl => by rw [layout_edges_L1]; exact hl
 | r + 1, l, j, hv, h0, h1, hl => by
  have hb := hv _ (getD_mem (xs := v) (i := j.toNat) (d := 0) (by omega))
  obtain ⟨p, q, h2, h3, h4⟩ := h _ (getD_mem (xs := at_) (i := a.toNat) (d := default) ha)
  obtain ⟨p', q', h2', h3', h4'⟩ := h _ (getD_mem (xs := at_) (d := default) hb)
  have key : ∀ e ∈ l ++ [(Gedge.mk (at_.getD a.toNat default) (at_.getD (v.getD j.toNat 0).toNat default))], EW e := fun e he => by
   rcases List.mem_append.1 he with c | c
   ·exact hl e c
   ·rw [List.mem_singleton.1 c]; exact ⟨p, q, p', q', ⟨h2, h2'⟩, ⟨h3, h4⟩, h3', h4'⟩
  rw [layout_edges_L1]
  cases (!(ceq (at_.getD a.toNat default) (Cpx.mk 13830554455654793216#64 0#64)))
  ·exact edges_L1W h a ha v r l _ hv (by omega) (by omega) hl
  ·cases (!(ceq (at_.getD (v.getD j.toNat 0).toNat default) (Cpx.mk 13830554455654793216#64 0#64)))
   ·exact edges_L1W h a ha v r l _ hv (by omega) (by omega) hl
   ·exact edges_L1W h a ha v r _ _ hv (by omega) (by omega) key
theorem edges_L0W {g : GGraph} {at_ : List Cpx} (h : WP at_) (hg : VG g) (hl : at_.length = g.Nodes.length) : ∀ (r : Nat) (l : List Gedge) (j : Int), 0 ≤ j → j + (r : Int) ≤ (g.Succ.length : Int) → (∀ e ∈ l, EW e) → ∀ e ∈ layout_edges_L0 g at_ r l j, EW e
 | 0, l, j, h0, h1, hp => by rw [layout_edges_L0]; exact hp
 | r + 1, l, j, h0, h1, hp => by
  have hs := hg.sl
  rw [layout_edges_L0]
  try dsimp only
  exact edges_L0W h hg hl r _ (j + 1) (by omega) (by omega) (edges_L1W h j (by omega) _ _ l 0 (fun e he => by have := Asc_mem (hg.sa j (by omega) (by omega)) he; omega) (Int.le_refl _) (by omega) hp)
theorem edges_EW {g : GGraph} {at_ : List Cpx} {r : List Gedge} (h : layout_edges g at_ = r) : ∀ e ∈ r, EW e := by
 subst h
 unfold layout_edges
 dsimp only
 cases hv : gh_Valid g
 ·intro e he; cases he
 cases hc : (((at_.length : Nat) : Int) != ((g.Nodes.length : Nat) : Int))
 ·cases hw : layout_whole at_
  ·intro e he; cases he
  ·have hg := Valid_VG hv
   have hl' : ((at_.length : Nat) : Int) = ((g.Nodes.length : Nat) : Int) := by simpa using hc
   have hl : at_.length = g.Nodes.length := by omega
   exact edges_L0W ((whole_WP at_).1 hw) hg hl _ [] 0 (Int.le_refl _) (by omega) (fun e he => by cases he)
 ·intro e he; cases he
theorem edges_no {g : GGraph} {l : List Cpx} (h : layout_whole l = false) : layout_edges g l = [] := by
 unfold layout_edges
 dsimp only
 rw [h]
 all_goals (cases (!gh_Valid g) <;> cases (((l.length : Nat) : Int) != ((g.Nodes.length : Nat) : Int)) <;> rfl)
theorem sE_L1 (at_ : List Cpx) (F : Gedge → Int) (a : Nat) (v : List Int) : ∀ (r : Nat) (l : List Gedge) (j : Nat), ((layout_edges_L1 at_ (a : Int) v r l (j : Int)).map F).sum = (l.map F).sum + isum r j (fun k => kE at_ F a (v.getD k 0).toNat)
 | 0, l, j => by rw [layout_edges_L1, isum]; omega
 | r + 1, l, j => by
  have key : ∀ (l' : List Gedge) (x : Int), (l'.map F).sum = (l.map F).sum + x → ((layout_edges_L1 at_ (a : Int) v r l' ((j : Int) + 1)).map F).sum = (l.map F).sum + (x + isum r (j + 1) (fun k => kE at_ F a (v.getD k 0).toNat)) := fun l' x hx => by
   rw [show ((j : Int) + 1) = ((j + 1 : Nat) : Int) by omega, sE_L1 at_ F a v r l' (j + 1), hx]; omega
  rw [layout_edges_L1, isum]
  rw [show ((a : Int)).toNat = a by omega, show ((j : Int)).toNat = j by omega]
  have hk : kE at_ F a (v.getD j 0).toNat = bif !(ceq (at_.getD a default) oc) then (bif !(ceq (at_.getD (v.getD j 0).toNat default) oc) then F (Gedge.mk (at_.getD a default) (at_.getD (v.getD j 0).toNat default)) else 0) else 0 := rfl
  rw [hk]
  unfold oc
  cases (!(ceq (at_.getD a default) (Cpx.mk 13830554455654793216#64 0#64)))
  ·exact key l 0 (by omega)
  ·cases (!(ceq (at_.getD (v.getD j 0).toNat default) (Cpx.mk 13830554455654793216#64 0#64)))
   ·exact key l 0 (by omega)
   ·exact key _ _ (by simp)
theorem sE_L0 (g : GGraph) (at_ : List Cpx) (F : Gedge → Int) : ∀ (r : Nat) (l : List Gedge) (j : Nat), ((layout_edges_L0 g at_ r l (j : Int)).map F).sum = (l.map F).sum + isum r j (fun a => isum (g.Succ.getD a []).length 0 (fun i => kE at_ F a (sc g a i)))
 | 0, l, j => by rw [layout_edges_L0, isum]; omega
 | r + 1, l, j => by
  rw [layout_edges_L0, isum]
  try dsimp only
  have h1 := sE_L1 at_ F j (g.Succ.getD j []) (g.Succ.getD j []).length l 0
  rw [show ((j : Int) + 1) = ((j + 1 : Nat) : Int) by omega, sE_L0 g at_ F r _ (j + 1), show ((j : Int)).toNat = j by omega, show ((((((g.Succ.getD j []).length : Nat) : Int) : Int) - 0).toNat) = (g.Succ.getD j []).length by omega]
  rw [show (0 : Int) = ((0 : Nat) : Int) from rfl, h1]
  unfold sc
  omega
theorem sum_edges {g : GGraph} {at_ : List Cpx} (hv : gh_Valid g = true) (hl : at_.length = g.Nodes.length) (hw : layout_whole at_ = true) (F : Gedge → Int) : ((layout_edges g at_).map F).sum = isum g.Nodes.length 0 (fun a => isum (g.Succ.getD a []).length 0 (fun i => kE at_ F a (sc g a i))) := by
 have hg := Valid_VG hv
 have h1 := sE_L0 g at_ F g.Succ.length [] 0
 unfold layout_edges
 rw [hv, hw, hl]
 simp only [Bool.not_true, cond_false, bne_self_eq_false]
 rw [show ((((((g.Succ.length : Nat) : Int) : Int) - 0).toNat)) = g.Succ.length by omega]
 rw [show ((0 : Nat) : Int) = 0 from rfl] at h1
 rw [h1, hg.sl]
 simp
theorem dE_L0 (p : Gedge → Bool) (s0 : List Gedge) : ∀ (r : Nat) (s' : List Gedge) (i j : Int) (R : List Gedge × Int), 0 ≤ i → i ≤ j → j + r = (s0.length : Int) → s'.length = s0.length → s'.take i.toNat = (s0.take j.toNat).filter (fun x => !p x) → s'.drop j.toNat = s0.drop j.toNat →
  sc_DeleteFunc_edge_L0 p r s' i j = R → R.1.length = s0.length ∧ (0 ≤ R.2 ∧ R.2 ≤ (s0.length : Int)) ∧ R.1.take R.2.toNat = s0.filter (fun x => !p x)
 | 0, s', i, j, R, h0, h1, h2, hl, ht, hd, e => by
  rw [sc_DeleteFunc_edge_L0] at e
  subst e
  refine ⟨hl, ⟨h0, by omega⟩, ?_⟩
  rw [ht, List.take_of_length_le (by omega)]
 | r + 1, s', i, j, R, h0, h1, h2, hl, ht, hd, e => by
  have hj : j.toNat < s0.length := by omega
  have hj' : j.toNat < s'.length := by omega
  have hx : s'.getD j.toNat default = s0[j.toNat] := by
   have := congrArg (fun l => l[0]?) hd
   simp only [List.getElem?_drop, Nat.add_zero] at this
   simp [List.getD, this, hj]
  have htk : s0.take (j + 1).toNat = s0.take j.toNat ++ [s0[j.toNat]] := by
   rw [show (j + 1).toNat = j.toNat + 1 by omega, List.take_add_one, List.getElem?_eq_getElem hj]; rfl
  have hdj : s'.drop (j + 1).toNat = s0.drop (j + 1).toNat := by
   have := congrArg (List.drop 1) hd
   rw [List.drop_drop, List.drop_drop] at this
   rw [show (j + 1).toNat = j.toNat + 1 by omega]; exact this
  rw [sc_DeleteFunc_edge_L0, hx] at e
  cases c : p s0[j.toNat] with
  | true =>
   rw [c] at e
   exact dE_L0 p s0 r s' i (j + 1) R h0 (by omega) (by omega) hl (by rw [htk, List.filter_append, ht]; simp [c]) hdj e
  | false =>
   rw [c] at e
   refine dE_L0 p s0 r _ (i + 1) (j + 1) R (by omega) (by omega) (by omega) (by rw [List.length_set]; exact hl) ?_ ?_ e
   ·rw [htk, List.filter_append, ← ht, show (i + 1).toNat = i.toNat + 1 by omega, List.take_add_one, List.getElem?_set_self (by omega), List.take_set_of_le (by omega)]
    simp [c]
   ·rw [List.drop_set_of_lt (by omega)]; exact hdj
theorem dE_eq (s : List Gedge) (p : Gedge → Bool) : sc_DeleteFunc_edge s p = s.filter (fun x => !p x) := by
 unfold sc_DeleteFunc_edge sc_IndexFunc_edge
 rcases scE1 (fun r i => sc_IndexFunc_edge_L0 s p r i) (fun i => p (s.getD i.toNat default)) () (fun _ => rfl) (fun _ _ => rfl) ((((s.length : Nat) : Int) - 0).toNat) 0 with ⟨j, e, j1, j2, j3, j4⟩ | ⟨e, h⟩
 ·try dsimp only at e
  rw [e]
  have hne : (j == -1) = false := by simp; omega
  have hj : j.toNat < s.length := by omega
  dsimp only
  rw [hne, cond_false]
  have hpre : ∀ x ∈ s.take j.toNat, (!p x) = true := fun x hx => by
   obtain ⟨i, hi, rfl⟩ := List.mem_iff_getElem.1 hx
   have hi' : i < j.toNat := by rw [List.length_take] at hi; omega
   rw [List.getElem_take]
   have := j4 (i : Int) (by omega) (by omega)
   rw [Int.toNat_natCast] at this
   have hg : s.getD i default = s[i] := by simp [List.getD, show i < s.length by omega]
   rw [hg] at this
   rw [this]; rfl
  have hg : s.getD j.toNat default = s[j.toNat] := by simp [List.getD, hj]
  rw [hg] at j3
  obtain ⟨q1, q2, q3⟩ := dE_L0 p s (((((s.length : Nat) : Int) : Int) - (j + 1)).toNat) s j (j + 1) _ (by omega) (by omega) (by omega) rfl (by
   rw [show (j + 1).toNat = j.toNat + 1 by omega, List.take_add_one, List.getElem?_eq_getElem hj, List.filter_append, List.filter_eq_self.2 hpre]
   simp [j3]) rfl rfl
  generalize sc_DeleteFunc_edge_L0 p (((((s.length : Nat) : Int) : Int) - (j + 1)).toNat) s j (j + 1) = R at q1 q2 q3 ⊢
  obtain ⟨r0, r1⟩ := R
  dsimp only at q1 q2 q3 ⊢
  rw [List.drop_zero, List.take_append_of_le_length (by rw [List.length_take]; omega), List.take_take, Nat.min_self, q3]
 ·try dsimp only at e
  rw [e]
  dsimp only
  simp only [beq_self_eq_true, cond_true]
  symm
  refine List.filter_eq_self.2 fun x hx => ?_
  obtain ⟨j, j1, j2, e3⟩ := (mem_getDg (d := default)).1 hx
  have := h j j1 (by omega)
  rw [e3] at this
  simp [this]
def qE (e : Gedge) : Bool := !(layout_Crossings_1 e)
theorem qE_pt {A B : GPoint} (ha : A.X.natAbs ≤ 1000000 ∧ A.Y.natAbs ≤ 1000000) (hb : B.X.natAbs ≤ 1000000 ∧ B.Y.natAbs ≤ 1000000) : qE (Gedge.mk (pt A) (pt B)) = (B.Y == A.Y + 1) := by
 unfold qE layout_Crossings_1 feq
 have h := IV_add (pt_WQ ha).2 IV_1 (by omega)
 show (!(!(ford (pt B).im (fadd (Flo.mk (pt A).im) (Flo.mk 4607182418800017408#64)).b == some .eq))) = _
 rw [Bool.not_not, show (fadd (Flo.mk (pt A).im) (Flo.mk 4607182418800017408#64)).b = bop Ieee.Datum.sum (pt A).im 4607182418800017408#64 from rfl, IV_ord (pt_WQ hb).2 h.2, cmpI]
 by_cases c : B.Y = A.Y + 1
 ·rw [c]; simp
 ·by_cases d : B.Y < A.Y + 1 <;> simp [c, d]
theorem cr_L1 (e : Gedge) (v : List Gedge) (r : Nat) (n : Int) : ∀ i : Nat, layout_Crossings_L1 e.from_ e.to_ v r n (i : Int) = n + isum r i (fun k => cdE e (v.getD k default)) := by
 refine isum_loop (L := fun r n i => layout_Crossings_L1 e.from_ e.to_ v r n i) (fun n i => by show layout_Crossings_L1 _ _ _ 0 _ _ = _; rw [layout_Crossings_L1]) (fun r n i => ?_) r n
 show layout_Crossings_L1 _ _ _ (r + 1) _ _ = layout_Crossings_L1 _ _ _ _ _ _
 rw [layout_Crossings_L1]
 unfold cdE
 rw [show ((i : Int)).toNat = i by omega]
 cases feq (Flo.mk e.from_.im) (Flo.mk (v.getD i default).from_.im)
 ·simp
 ·cases flt (Flo.mk e.from_.re) (Flo.mk (v.getD i default).from_.re)
  ·simp
  ·cases fgt (Flo.mk e.to_.re) (Flo.mk (v.getD i default).to_.re) <;> simp
theorem cr_L0 (l v : List Gedge) (r : Nat) (n : Int) : ∀ i : Nat, layout_Crossings_L0 l v r n (i : Int) = n + isum r i (fun j => (l.map (cdE (v.getD j default))).sum) := by
 refine isum_loop (L := fun r n i => layout_Crossings_L0 l v r n i) (fun n i => by show layout_Crossings_L0 _ _ 0 _ _ = _; rw [layout_Crossings_L0]) (fun r n i => ?_) r n
 show layout_Crossings_L0 _ _ (r + 1) _ _ = layout_Crossings_L0 _ _ _ _ _
 rw [layout_Crossings_L0]
 try dsimp only
 have := cr_L1 (v.getD i default) l l.length n 0
 rw [isum_list0] at this
 rw [show ((i : Int)).toNat = i by omega, show (((((l.length : Nat) : Int) : Int) - 0).toNat) = l.length by omega]
 rw [show ((0 : Nat) : Int) = 0 from rfl] at this
 rw [this]
theorem cr_sum (g : GGraph) (at_ : List Cpx) : layout_Crossings g at_ = ((layout_edges g at_).map (fun e => bif qE e then ((layout_edges g at_).map (fun f => bif qE f then cdE e f else 0)).sum else 0)).sum := by
 unfold layout_Crossings
 dsimp only
 rw [dE_eq]
 generalize layout_edges g at_ = es
 have h := cr_L0 (es.filter (fun x => !(layout_Crossings_1 x))) (es.filter (fun x => !(layout_Crossings_1 x))) (es.filter (fun x => !(layout_Crossings_1 x))).length 0 0
 rw [show ((0 : Nat) : Int) = 0 from rfl] at h
 rw [show ((((((es.filter (fun x => !(layout_Crossings_1 x))).length : Nat) : Int) : Int) - 0).toNat) = (es.filter (fun x => !(layout_Crossings_1 x))).length by omega, h, Int.zero_add, isum_list0 default (fun e => ((es.filter (fun x => !(layout_Crossings_1 x))).map (cdE e)).sum), sum_filter]
 refine congrArg List.sum (List.map_congr_left fun e _ => ?_)
 rw [sum_filter]
 rfl
theorem near_L0 {l : List GPoint} : ∀ (r : Nat) (i : Int), 0 ≤ i → i + (r : Int) = (l.length : Int) → (r30_near_L0 l r i = .brk () ∧ ∀ j : Nat, i ≤ (j : Int) → j < l.length → (-1024 ≤ (l.getD j default).X ∧ (l.getD j default).X ≤ 1024) ∧ -1024 ≤ (l.getD j default).Y ∧ (l.getD j default).Y ≤ 1024) ∨ (r30_near_L0 l r i = .ret false ∧ ∃ j : Nat, j < l.length ∧ ¬ ((-1024 ≤ (l.getD j default).X ∧ (l.getD j default).X ≤ 1024) ∧ -1024 ≤ (l.getD j default).Y ∧ (l.getD j default).Y ≤ 1024))
 | 0, i, h0, h1 => .inl ⟨by rw [r30_near_L0], fun j h2 h3 => by omega⟩
 | r + 1, i, h0, h1 => by
  have no : ¬ ((-1024 ≤ (l.getD i.toNat default).X ∧ (l.getD i.toNat default).X ≤ 1024) ∧ -1024 ≤ (l.getD i.toNat default).Y ∧ (l.getD i.toNat default).Y ≤ 1024) → ∃ j : Nat, j < l.length ∧ ¬ ((-1024 ≤ (l.getD j default).X ∧ (l.getD j default).X ≤ 1024) ∧ -1024 ≤ (l.getD j default).Y ∧ (l.getD j default).Y ≤ 1024) := fun h => ⟨i.toNat, by omega, h⟩
  rw [r30_near_L0]
  by_cases c1 : (l.getD i.toNat default).X < -1024
  ·rw [decide_eq_true c1]; exact .inr ⟨rfl, no (by omega)⟩
  rw [decide_eq_false c1, cond_false]
  by_cases c2 : 1024 < (l.getD i.toNat default).X
  ·rw [decide_eq_true c2]; exact .inr ⟨rfl, no (by omega)⟩
  rw [decide_eq_false c2, cond_false]
  by_cases c3 : (l.getD i.toNat default).Y < -1024
  ·rw [decide_eq_true c3]; exact .inr ⟨rfl, no (by omega)⟩
  rw [decide_eq_false c3, cond_false]
  by_cases c4 : 1024 < (l.getD i.toNat default).Y
  ·rw [decide_eq_true c4]; exact .inr ⟨rfl, no (by omega)⟩
  rw [decide_eq_false c4, cond_false]
  rcases near_L0 (l := l) r (i + 1) (by omega) (by omega) with ⟨h2, h3⟩ | h2
  ·refine .inl ⟨h2, fun j h4 h5 => ?_⟩
   by_cases c : (j : Int) = i
   ·rw [show j = i.toNat by omega]; omega
   ·exact h3 j (by omega) h5
  ·exact .inr h2
theorem near_iff (l : List GPoint) : r30_near l = true ↔ NP l := by
 unfold r30_near
 rcases near_L0 (l := l) (((((l.length : Nat) : Int) : Int) - 0).toNat) 0 (Int.le_refl _) (by omega) with ⟨h1, h2⟩ | ⟨h1, j, h2, h3⟩
 ·rw [h1]
  refine ⟨fun _ p hp => ?_, fun _ => rfl⟩
  obtain ⟨j, hj, e⟩ := List.getElem_of_mem hp
  have := h2 j (by omega) hj
  rw [List.getD_eq_getElem?_getD, List.getElem?_eq_getElem hj] at this
  rw [← e]; exact this
 ·rw [h1]
  exact ⟨fun h => (by cases h), fun h => absurd (h _ (getD_mem h2)) h3⟩
theorem near_f {l : List GPoint} {r : Bool} (h : r30_near l = r) (hr : (!r) = false) : NP l := (near_iff l).1 (h.trans (by cases r; cases hr; rfl))
theorem whole_pt (l : List GPoint) (h : PBd l) : layout_whole (l.map pt) = r30_near l := by
 have key : ∀ n : Int, n.natAbs ≤ 1000000 → (wholeB (fofI n).b = true ↔ n.natAbs ≤ 1024) := fun n hn => by
  refine ⟨fun hw => ?_, fun h2 => whole_of (IV_of (by omega)) h2⟩
  obtain ⟨m, hm, hi⟩ := whole_IV hw
  rw [IV_uniq (IV_of (n := n) (by omega)) hi]; exact hm
 have e : layout_whole (l.map pt) = true ↔ r30_near l = true := by
  rw [whole_iff, near_iff]
  refine ⟨fun hw p hp => ?_, fun hn p hp => ?_⟩
  ·have h1 := hw (pt p) (List.mem_map_of_mem hp)
   have h2 := h p hp
   have h3 := (key p.X h2.1).1 h1.1
   have h4 := (key p.Y h2.2).1 h1.2
   omega
  ·obtain ⟨q, hq, rfl⟩ := List.mem_map.1 hp
   have h2 := h q hq
   have h3 := hn q hq
   exact ⟨(key q.X h2.1).2 (by omega), (key q.Y h2.2).2 (by omega)⟩
 cases h1 : layout_whole (l.map pt) <;> cases h2 : r30_near l
 ·rfl
 ·rw [e.2 h2] at h1; cases h1
 ·rw [e.1 h1] at h2; cases h2
 ·rfl
theorem edges_or (g : GGraph) (l : List GPoint) (hb : PBd l) : (gh_Valid g = true ∧ l.length = g.Nodes.length ∧ r30_near l = true) ∨ (layout_edges g (l.map pt) = [] ∧ (r7_ValidGraph g = false ∨ l.length ≠ g.Nodes.length ∨ r30_near l = false)) := by
 have hw := whole_pt l hb
 have hv := rValid_eq g
 cases c1 : gh_Valid g
 ·right
  refine ⟨?_, .inl (hv.trans c1)⟩
  unfold layout_edges; dsimp only; rw [c1]; rfl
 ·by_cases c2 : l.length = g.Nodes.length
  ·cases c3 : r30_near l
   ·right
    refine ⟨?_, .inr (.inr rfl)⟩
    exact edges_no (hw.trans c3)
   ·exact .inl ⟨rfl, c2, rfl⟩
  ·right
   refine ⟨?_, .inr (.inl c2)⟩
   unfold layout_edges; dsimp only
   have : ((((l.map pt).length : Nat) : Int) != ((g.Nodes.length : Nat) : Int)) = true := by simp; omega
   rw [c1, this]; rfl
def crP (A B C D : GPoint) : Int := bif r30_cross A B C D then 1 else 0
theorem crP_eq (A B C D : GPoint) : crP A B C D = bif nxP A B then (bif nxP C D then (bif cmP A B C D then 1 else 0) else 0) else 0 := by
 unfold crP r30_cross nxP cmP
 simp only [out_l]
 unfold outP
 generalize (A.X == -1 && A.Y == 0) = oa
 generalize (B.X == -1 && B.Y == 0) = ob
 generalize (C.X == -1 && C.Y == 0) = oc'
 generalize (D.X == -1 && D.Y == 0) = od
 by_cases h : A.Y = C.Y
 ·rw [h]
  cases oa <;> cases ob <;> cases oc' <;> cases od <;> simp <;> (cases (B.Y == C.Y + 1) <;> cases (D.Y == C.Y + 1) <;> simp) <;> (by_cases c : A.X < C.X <;> simp [c])
 ·have : (A.Y == C.Y) = false := by simpa using h
  rw [this]
  cases oa <;> cases ob <;> cases oc' <;> cases od <;> simp <;> (cases (B.Y == A.Y + 1) <;> cases (D.Y == C.Y + 1) <;> simp)
theorem rc_L3 (g : GGraph) (l : List GPoint) (a i c : Nat) (r : Nat) (n : Int) : ∀ k : Nat, r30_Crossings_L3 g l (a : Int) (i : Int) (c : Int) r n (k : Int) = n + isum r k (fun k => crP (l.getD a default) (l.getD (sc g a i) default) (l.getD c default) (l.getD (sc g c k) default)) := by
 refine isum_loop (L := fun r n k => r30_Crossings_L3 g l (a : Int) (i : Int) (c : Int) r n k) (fun n i => by show r30_Crossings_L3 _ _ _ _ _ 0 _ _ = _; rw [r30_Crossings_L3]) (fun r n k => ?_) r n
 show r30_Crossings_L3 _ _ _ _ _ (r + 1) _ _ = r30_Crossings_L3 _ _ _ _ _ _ _ _
 rw [r30_Crossings_L3]
 try dsimp only
 unfold crP sc
 rw [show ((k : Int)).toNat = k by omega, show ((a : Int)).toNat = a by omega, show ((i : Int)).toNat = i by omega, show ((c : Int)).toNat = c by omega]
 cases r30_cross (l.getD a default) (l.getD ((g.Succ.getD a []).getD i 0).toNat default) (l.getD c default) (l.getD ((g.Succ.getD c []).getD k 0).toNat default) <;> simp
theorem rc_L2 (g : GGraph) (l : List GPoint) (a i : Nat) (r : Nat) (n : Int) : ∀ c : Nat, r30_Crossings_L2 g l (a : Int) (i : Int) r n (c : Int) = n + isum r c (fun c => isum (g.Succ.getD c []).length 0 (fun k => crP (l.getD a default) (l.getD (sc g a i) default) (l.getD c default) (l.getD (sc g c k) default))) := by
 refine isum_loop (L := fun r n c => r30_Crossings_L2 g l (a : Int) (i : Int) r n c) (fun n i => by show r30_Crossings_L2 _ _ _ _ 0 _ _ = _; rw [r30_Crossings_L2]) (fun r n c => ?_) r n
 show r30_Crossings_L2 _ _ _ _ (r + 1) _ _ = r30_Crossings_L2 _ _ _ _ _ _ _
 rw [r30_Crossings_L2]
 try dsimp only
 have := rc_L3 g l a i c (g.Succ.getD c []).length n 0
 rw [show ((0 : Nat) : Int) = 0 from rfl] at this
 rw [show ((c : Int)).toNat = c by omega, show ((((((g.Succ.getD c []).length : Nat) : Int) : Int) - 0).toNat) = (g.Succ.getD c []).length by omega, this]
theorem rc_L1 (g : GGraph) (l : List GPoint) (a : Nat) (r : Nat) (n : Int) : ∀ i : Nat, r30_Crossings_L1 g l (a : Int) r n (i : Int) = n + isum r i (fun i => isum l.length 0 (fun c => isum (g.Succ.getD c []).length 0 (fun k => crP (l.getD a default) (l.getD (sc g a i) default) (l.getD c default) (l.getD (sc g c k) default)))) := by
 refine isum_loop (L := fun r n i => r30_Crossings_L1 g l (a : Int) r n i) (fun n i => by show r30_Crossings_L1 _ _ _ 0 _ _ = _; rw [r30_Crossings_L1]) (fun r n i => ?_) r n
 show r30_Crossings_L1 _ _ _ (r + 1) _ _ = r30_Crossings_L1 _ _ _ _ _ _
 rw [r30_Crossings_L1]
 try dsimp only
 have := rc_L2 g l a i l.length n 0
 rw [show ((0 : Nat) : Int) = 0 from rfl] at this
 rw [show (((((l.length : Nat) : Int) : Int) - 0).toNat) = l.length by omega, this]
theorem rc_L0 (g : GGraph) (l : List GPoint) (r : Nat) (n : Int) : ∀ a : Nat, r30_Crossings_L0 g l r n (a : Int) = n + isum r a (fun a => isum (g.Succ.getD a []).length 0 (fun i => isum l.length 0 (fun c => isum (g.Succ.getD c []).length 0 (fun k => crP (l.getD a default) (l.getD (sc g a i) default) (l.getD c default) (l.getD (sc g c k) default))))) := by
 refine isum_loop (L := fun r n a => r30_Crossings_L0 g l r n a) (fun n i => by show r30_Crossings_L0 _ _ 0 _ _ = _; rw [r30_Crossings_L0]) (fun r n a => ?_) r n
 show r30_Crossings_L0 _ _ (r + 1) _ _ = r30_Crossings_L0 _ _ _ _ _
 rw [r30_Crossings_L0]
 try dsimp only
 have := rc_L1 g l a (g.Succ.getD a []).length n 0
 rw [show ((0 : Nat) : Int) = 0 from rfl] at this
 rw [show ((a : Int)).toNat = a by omega, show ((((((g.Succ.getD a []).length : Nat) : Int) : Int) - 0).toNat) = (g.Succ.getD a []).length by omega, this]
theorem Cross_eq (g : GGraph) (l : List GPoint) (hb : PBd l) : layout_Crossings g (l.map pt) = r30_Crossings g l := by
 rcases edges_or g l hb with ⟨hv, hl, hn⟩ | ⟨he, h⟩
 ·have hg := Valid_VG hv
  have hw : layout_whole (l.map pt) = true := (whole_pt l hb).trans hn
  have hlm : (l.map pt).length = g.Nodes.length := by rw [List.length_map]; exact hl
  have e1 := rc_L0 g l l.length 0 0
  rw [show ((0 : Nat) : Int) = 0 from rfl] at e1
  have er : r30_Crossings g l = isum g.Nodes.length 0 (fun a => isum (g.Succ.getD a []).length 0 (fun i => isum g.Nodes.length 0 (fun c => isum (g.Succ.getD c []).length 0 (fun k => crP (l.getD a default) (l.getD (sc g a i) default) (l.getD c default) (l.getD (sc g c k) default))))) := by
   unfold r30_Crossings
   dsimp only
   rw [rValid_eq, hv, hn, hl]
   simp only [Bool.not_true, cond_false, bne_self_eq_false]
   rw [show (((((g.Nodes.length : Nat) : Int) : Int) - 0).toNat) = g.Nodes.length by omega]
   rw [hl] at e1
   rw [e1, Int.zero_add]
  rw [er, cr_sum, sum_edges hv hlm hw]
  refine isum_congr _ _ fun a _ ha => isum_congr _ _ fun i _ hi => ?_
  have ha : a < g.Nodes.length := by omega
  have hi : i < (g.Succ.getD a []).length := by omega
  have hs := sc_lt hg ha hi
  have ba := hb _ (getD_mem (xs := l) (i := a) (d := default) (by omega))
  have bs := hb _ (getD_mem (xs := l) (i := sc g a i) (d := default) (by omega))
  rw [kE_pt hb (by omega) (by omega), qE_pt ba bs]
  have hx : ∀ c k, crP (l.getD a default) (l.getD (sc g a i) default) (l.getD c default) (l.getD (sc g c k) default) = bif nxP (l.getD a default) (l.getD (sc g a i) default) then (bif nxP (l.getD c default) (l.getD (sc g c k) default) then (bif cmP (l.getD a default) (l.getD (sc g a i) default) (l.getD c default) (l.getD (sc g c k) default) then 1 else 0) else 0) else 0 := fun c k => crP_eq _ _ _ _
  simp only [hx]
  cases hq : nxP (l.getD a default) (l.getD (sc g a i) default)
  ·simp only [cond_false, isum_zero]
   unfold nxP at hq
   cases c1 : outP (l.getD a default)
   ·cases c2 : outP (l.getD (sc g a i) default)
    ·rw [c1, c2] at hq
     simp only [Bool.not_false, Bool.true_and] at hq
     rw [hq]; rfl
    ·rfl
   ·rfl
  ·simp only [cond_true]
   unfold nxP at hq
   simp only [Bool.and_eq_true] at hq
   rw [hq.1.1, hq.1.2, hq.2]
   simp only [cond_true]
   rw [sum_edges hv hlm hw]
   refine isum_congr _ _ fun c _ hc => isum_congr _ _ fun k _ hk => ?_
   have hc : c < g.Nodes.length := by omega
   have hk : k < (g.Succ.getD c []).length := by omega
   have hs2 := sc_lt hg hc hk
   have bc := hb _ (getD_mem (xs := l) (i := c) (d := default) (by omega))
   have bk := hb _ (getD_mem (xs := l) (i := sc g c k) (d := default) (by omega))
   rw [kE_pt hb (by omega) (by omega), qE_pt bc bk, cd_pt ba bs bc bk]
   unfold nxP
   all_goals (cases outP (l.getD c default) <;> cases outP (l.getD (sc g c k) default) <;> rfl)
 ·have e1 : layout_Crossings g (l.map pt) = 0 := by unfold layout_Crossings; rw [he]; rfl
  rw [e1]
  unfold r30_Crossings
  dsimp only
  rcases h with h | h | h
  ·rw [h]; rfl
  ·have : (((l.length : Nat) : Int) != ((g.Nodes.length : Nat) : Int)) = true := by simp; omega
   rw [this]
   all_goals (cases (!r7_ValidGraph g) <;> rfl)
  ·rw [h]
   all_goals (cases (!r7_ValidGraph g) <;> cases (((l.length : Nat) : Int) != ((g.Nodes.length : Nat) : Int)) <;> rfl)
theorem Len_F {l : List Gedge} (h : ∀ e ∈ l, EW e) : ∀ (r : Nat) (s : Flo) (n : Int) (v : Nat), v + r ≤ l.length → 0 ≤ n → n + 4096 * (r : Int) ≤ 1000000000000 → IV s.b n → IV (layout_Length_L0 l r s (v : Int)).b (n + isum r v (fun j => lnE (l.getD j default)))
 | 0, s, n, v, _, _, _, hs => by rw [layout_Length_L0, isum, Int.add_zero]; exact hs
 | r + 1, s, n, v, h0, hn, hb, hs => by
  rw [layout_Length_L0, isum]
  try dsimp only
  obtain ⟨p1, p2, p3⟩ := edge_F (h _ (getD_mem (xs := l) (i := v) (d := default) (by omega)))
  rw [show ((v : Int)).toNat = v by omega, show ((v : Int) + 1) = ((v + 1 : Nat) : Int) by omega, ← Int.add_assoc]
  exact Len_F h r _ _ (v + 1) (by omega) (by omega) (by omega) (IV_add hs p1 (by omega)).2
theorem size_eq (n : Int) : r30_size n = ((n.natAbs : Nat) : Int) := by unfold r30_size; omega
theorem rl_L1 (g : GGraph) (l : List GPoint) (a : Nat) (r : Nat) (n : Int) : ∀ i : Nat, r30_Length_L1 g l (a : Int) r n (i : Int) = n + isum r i (fun i => szP (l.getD a default) (l.getD (sc g a i) default)) := by
 refine isum_loop (L := fun r n i => r30_Length_L1 g l (a : Int) r n i) (fun n i => by show r30_Length_L1 _ _ _ 0 _ _ = _; rw [r30_Length_L1]) (fun r n i => ?_) r n
 show r30_Length_L1 _ _ _ (r + 1) _ _ = r30_Length_L1 _ _ _ _ _ _
 rw [r30_Length_L1]
 try dsimp only
 unfold szP sc
 rw [show ((i : Int)).toNat = i by omega, show ((a : Int)).toNat = a by omega, size_eq, size_eq]
 simp only [bne, out_l]
 unfold outP
 cases ((l.getD a default).X == -1 && (l.getD a default).Y == 0)
 ·cases ((l.getD ((g.Succ.getD a []).getD i 0).toNat default).X == -1 && (l.getD ((g.Succ.getD a []).getD i 0).toNat default).Y == 0) <;> simp
 ·simp
theorem rl_L0 (g : GGraph) (l : List GPoint) (r : Nat) (n : Int) : ∀ a : Nat, r30_Length_L0 g l r n (a : Int) = n + isum r a (fun a => isum (g.Succ.getD a []).length 0 (fun i => szP (l.getD a default) (l.getD (sc g a i) default))) := by
 refine isum_loop (L := fun r n a => r30_Length_L0 g l r n a) (fun n i => by show r30_Length_L0 _ _ 0 _ _ = _; rw [r30_Length_L0]) (fun r n a => ?_) r n
 show r30_Length_L0 _ _ (r + 1) _ _ = r30_Length_L0 _ _ _ _ _
 rw [r30_Length_L0]
 try dsimp only
 have := rl_L1 g l a (g.Succ.getD a []).length n 0
 rw [show ((0 : Nat) : Int) = 0 from rfl] at this
 rw [show ((a : Int)).toNat = a by omega, show ((((((g.Succ.getD a []).length : Nat) : Int) : Int) - 0).toNat) = (g.Succ.getD a []).length by omega, this]
theorem Length_eq (g : GGraph) (l : List GPoint) (hb : PBd l) : feq (layout_Length g (l.map pt)) (fofI (r30_Length g l)) = true := by
 rcases edges_or g l hb with ⟨hv, hl, hn⟩ | ⟨he, h⟩
 ·have hg := Valid_VG hv
  have hn1 := hg.n1
  have hp := (near_iff l).1 hn
  have hw : layout_whole (l.map pt) = true := (whole_pt l hb).trans hn
  have hlm : (l.map pt).length = g.Nodes.length := by rw [List.length_map]; exact hl
  have er : r30_Length g l = isum g.Nodes.length 0 (fun a => isum (g.Succ.getD a []).length 0 (fun i => szP (l.getD a default) (l.getD (sc g a i) default))) := by
   have e1 := rl_L0 g l l.length 0 0
   unfold r30_Length
   dsimp only
   rw [rValid_eq, hv, hn, hl]
   simp only [Bool.not_true, cond_false, bne_self_eq_false]
   rw [show (((((g.Nodes.length : Nat) : Int) : Int) - 0).toNat) = g.Nodes.length by omega]
   rw [show ((0 : Nat) : Int) = 0 from rfl, hl] at e1
   rw [e1, Int.zero_add]
  have hW := edges_EW (g := g) (at_ := l.map pt) rfl
  have cnt := sum_edges hv hlm hw (fun _ => 1)
  have slen : ∀ a, a < g.Nodes.length → (g.Succ.getD a []).length ≤ 256 := fun a ha => by
   have := hg.sa (a : Int) (by omega) (by omega)
   rw [show ((a : Int)).toNat = a by omega] at this
   exact Asc_l this (by omega)
  have cl : ((layout_edges g (l.map pt)).length : Int) ≤ 65536 := by
   have e1 : ((layout_edges g (l.map pt)).map (fun _ => (1 : Int))).sum = ((layout_edges g (l.map pt)).length : Int) := by
    generalize layout_edges g (l.map pt) = es
    induction es with
    | nil => rfl
    | cons x es ih => simp only [List.map_cons, List.sum_cons, List.length_cons, ih]; omega
   rw [← e1, cnt]
   have := isum_le (f := fun a => isum (g.Succ.getD a []).length 0 (fun i => kE (l.map pt) (fun _ => 1) a (sc g a i))) (c := 256) g.Nodes.length 0 (fun a _ ha => by
    have h1 := isum_le (f := fun i => kE (l.map pt) (fun _ => 1) a (sc g a i)) (c := 1) (g.Succ.getD a []).length 0 (fun i _ _ => by
     unfold kE
     cases (!(ceq ((l.map pt).getD a default) oc)) <;> cases (!(ceq ((l.map pt).getD (sc g a i) default) oc)) <;> simp)
    have h2 := slen a (by omega)
    omega)
   omega
  have hs := sum_edges hv hlm hw lnE
  have hL := Len_F hW (layout_edges g (l.map pt)).length (Flo.mk 0#64) 0 0 (by omega) (Int.le_refl _) (by omega) IV_0
  rw [isum_list0 default lnE, Int.zero_add, hs] at hL
  have e2 : isum g.Nodes.length 0 (fun a => isum (g.Succ.getD a []).length 0 (fun i => kE (l.map pt) lnE a (sc g a i))) = r30_Length g l := by
   rw [er]
   refine isum_congr _ _ fun a _ ha => isum_congr _ _ fun i _ hi => ?_
   have ha : a < g.Nodes.length := by omega
   have hi : i < (g.Succ.getD a []).length := by omega
   have hs := sc_lt hg ha hi
   rw [kE_pt hb (by omega) (by omega), ln_pt (NP_get hp (by omega)) (NP_get hp (by omega))]
   rfl
  rw [e2] at hL
  have bd : 0 ≤ r30_Length g l ∧ r30_Length g l ≤ (g.Nodes.length : Int) * 1048576 := by
   rw [er]
   refine isum_le (c := 1048576) g.Nodes.length 0 (fun a _ ha => ?_)
   have h1 := isum_le (f := fun i => szP (l.getD a default) (l.getD (sc g a i) default)) (c := 4096) (g.Succ.getD a []).length 0 (fun i _ hi => by
    have hs := sc_lt hg (show a < g.Nodes.length by omega) (show i < (g.Succ.getD a []).length by omega)
    have ha := NP_get hp (i := a) (by omega)
    have hb := NP_get hp (i := sc g a i) (by omega)
    show 0 ≤ szP (l.getD a default) (l.getD (sc g a i) default) ∧ szP (l.getD a default) (l.getD (sc g a i) default) ≤ 4096
    generalize l.getD a default = A at ha
    generalize l.getD (sc g a i) default = B at hb
    unfold szP
    cases outP A <;> cases outP B <;> simp only [Bool.not_true, Bool.not_false, cond_true, cond_false] <;> omega)
   have h2 := slen a (by omega)
   omega
  have e3 : layout_Length g (l.map pt) = layout_Length_L0 (layout_edges g (l.map pt)) (layout_edges g (l.map pt)).length (Flo.mk 0#64) ((0 : Nat) : Int) := by
   unfold layout_Length
   dsimp only
   rw [show ((((((layout_edges g (l.map pt)).length : Nat) : Int) : Int) - 0).toNat) = (layout_edges g (l.map pt)).length by omega]
   rfl
  unfold feq
  rw [e3, IV_ord hL (IV_of (n := r30_Length g l) (by omega)), cmpI, if_neg (by omega), if_pos rfl]
  rfl
 ·have e1 : layout_Length g (l.map pt) = Flo.mk 0#64 := by unfold layout_Length; rw [he]; rfl
  have e2 : r30_Length g l = 0 := by
   unfold r30_Length
   dsimp only
   rcases h with h | h | h
   ·rw [h]; rfl
   ·have : (((l.length : Nat) : Int) != ((g.Nodes.length : Nat) : Int)) = true := by simp; omega
    rw [this]
    all_goals (cases (!r7_ValidGraph g) <;> rfl)
   ·rw [h]
    all_goals (cases (!r7_ValidGraph g) <;> cases (((l.length : Nat) : Int) != ((g.Nodes.length : Nat) : Int)) <;> rfl)
  rw [e1, e2]
  unfold feq
  rw [IV_ord IV_0 (IV_of (n := 0) (by decide))]; rfl
theorem Clone_WP {l r : List Cpx} {v : Bool} (hv : layout_whole l = v) (h : (!v) = false) (hr : sc_Clone_complex128 l = r) : WP r := by
 have : r = l := by rw [← hr]; rfl
 rw [this]
 exact (whole_WP l).1 (hv.trans (by cases v; cases h; rfl))
theorem turn_L1 : ∀ (r : Nat) (a b : List Cpx), b.length = r → layout_Turn_L1 r (a ++ b) (a.length : Int) = a ++ b.map rot
 | 0, a, b, h => by
  have : b = [] := List.eq_nil_of_length_eq_zero h
  subst this
  rw [layout_Turn_L1]; simp
 | r + 1, a, [], h => by simp at h
 | r + 1, a, p :: b, h => by
  rw [layout_Turn_L1]
  have e1 : ((a.length : Int)).toNat = a.length := by omega
  rw [e1]
  have e2 : (a ++ p :: b).getD a.length default = p := getD_mid a b p default
  have e3 : (a ++ p :: b).set a.length (cmul p (Cpx.mk 0#64 4607182418800017408#64)) = (a ++ [rot p]) ++ b := by
   rw [List.set_append_right _ _ (Nat.le_refl _), Nat.sub_self]; simp [rot]
  rw [e2, e3, show (a.length : Int) + 1 = ((a ++ [rot p]).length : Int) by simp, turn_L1 r (a ++ [rot p]) b (by simpa using h)]
  simp
theorem turn_L0 : ∀ (r : Nat) (l : List Cpx) (v : Int), layout_Turn_L0 r l v = rotN r l
 | 0, l, v => by rw [layout_Turn_L0, rotN]
 | r + 1, l, v => by
  have := turn_L1 l.length [] l rfl
  simp only [List.nil_append, List.length_nil] at this
  rw [layout_Turn_L0, show (((((l.length : Nat) : Int) : Int) - 0).toNat) = l.length by omega, show (0 : Int) = ((0 : Nat) : Int) from rfl, this]
  exact turn_L0 r _ _
theorem turn_eq {l : List Cpx} {m : List (Int × Int)} (h : PR l m) (q : Int) : layout_Turn l q = rotN (qtr q) l := by
 unfold layout_Turn
 dsimp only
 rw [(whole_WP l).2 (PR_WP h), turn_L0]
 rfl
theorem rT_L1 : ∀ (r : Nat) (a b : List GPoint), b.length = r → r30_Turn_L1 r (a ++ b) (a.length : Int) = a ++ b.map rp
 | 0, a, b, h => by
  have : b = [] := List.eq_nil_of_length_eq_zero h
  subst this
  rw [r30_Turn_L1]; simp
 | r + 1, a, [], h => by simp at h
 | r + 1, a, p :: b, h => by
  rw [r30_Turn_L1]
  have e1 : ((a.length : Int)).toNat = a.length := by omega
  rw [e1]
  have e2 : (a ++ p :: b).getD a.length default = p := getD_mid a b p default
  have e3 : (a ++ p :: b).set a.length (GPoint.mk (-p.Y) p.X) = (a ++ [rp p]) ++ b := by
   rw [List.set_append_right _ _ (Nat.le_refl _), Nat.sub_self]; simp [rp]
  rw [e2, e3, show (a.length : Int) + 1 = ((a ++ [rp p]).length : Int) by simp, rT_L1 r (a ++ [rp p]) b (by simpa using h)]
  simp
theorem rT_L0 (at_ : List GPoint) : ∀ (r : Nat) (l : List GPoint) (v : Int), l.length = at_.length → r30_Turn_L0 at_ r l v = rpN r l
 | 0, l, v, _ => by rw [r30_Turn_L0, rpN]
 | r + 1, l, v, h => by
  have := rT_L1 l.length [] l rfl
  simp only [List.nil_append, List.length_nil] at this
  rw [r30_Turn_L0, show (((((at_.length : Nat) : Int) : Int) - 0).toNat) = l.length by omega, show (0 : Int) = ((0 : Nat) : Int) from rfl, this]
  exact rT_L0 at_ r _ _ (by simpa using h)
theorem ref_turn {l : List GPoint} (h : NP l) (q : Int) : r30_Turn l q = rpN (qtr q) l := by
 unfold r30_Turn
 dsimp only
 rw [(near_iff l).2 h, rT_L0 l _ l _ rfl]
 unfold qtr
 simp
theorem same_of {l l' : List Cpx} {m : List (Int × Int)} (h : PR l m) (h' : PR l' m) : w33_same l l' = true := by
 have hl : l.length = l'.length := (PR_len h).trans (PR_len h').symm
 have hL : ∀ (r : Nat) (i : Int), 0 ≤ i → i + (r : Int) = (l.length : Int) → w33_same_L0 l l' r i = .brk () := fun r => by
  induction r with
  | zero => intro i _ _; rw [w33_same_L0]
  | succ r ih =>
   intro i h0 h1
   rw [w33_same_L0, ceq_of (PR_at h i.toNat (by omega)) (PR_at h' i.toNat (by omega)), ih (i + 1) (by omega) (by omega)]
   rfl
 unfold w33_same
 rw [hL _ 0 (by omega) (by omega), hl]
 simp
theorem turns_same (l : List GPoint) (hb : PBd l) (q : Int) : w33_same (layout_Turn (w33_points l) q) (w33_points (r30_Turn l q)) = true := by
 rw [points_eq, points_eq]
 cases hn : r30_near l
 ·have h1 : layout_whole (l.map pt) = false := (whole_pt l hb).trans hn
  have e1 : layout_Turn (l.map pt) q = [] := by unfold layout_Turn; dsimp only; rw [h1]; rfl
  have e2 : r30_Turn l q = [] := by unfold r30_Turn; dsimp only; rw [hn]; rfl
  rw [e1, e2]; rfl
 ·have h := (near_iff l).1 hn
  rw [turn_eq (PR_pt h) q, ref_turn h q]
  exact same_of (PR_rotN (qtr q) (PR_pt h)) (PR_rpN (qtr q) h)
theorem measures_true (g : GGraph) (l : List GPoint) (hb : PBd l) (q : Int) : w33_measures g l q = true := by
 unfold w33_measures
 dsimp only
 rw [turns_same l hb q, points_eq, Cross_eq g l hb, Length_eq g l hb]
 simp
theorem SpG_len {t : List Int} {i : Int} {g : GGraph} {r : GGraph × Int} (h : tp_SpoilGraph t i g = r) : r.1.Nodes.length ≤ g.Nodes.length := by
 rw [← h]
 unfold tp_SpoilGraph
 dsimp only
 generalize (tp_Next t (tp_Next t i ((g.Nodes.length : Nat) : Int)).2 4).1 = x
 cases x == 0
 ·rw [cond_false]
  cases x == 1
  ·rw [cond_false]
   cases x == 2
   ·exact Nat.le_refl _
   ·simp
  ·exact Nat.le_refl _
 ·exact Nat.le_refl _
theorem LM_L1 (t : List Int) : ∀ (r : Nat) (k : Int) (l : List GPoint) (n : Int), PBd l → PBd (w33_LayoutMeasures_L1 t r k l n).2
 | 0, k, l, n, h => by rw [w33_LayoutMeasures_L1]; exact h
 | r + 1, k, l, n, h => by
  rw [w33_LayoutMeasures_L1]
  try dsimp only
  have h1 := Next_lt t k 5 (by omega) (by omega)
  generalize tp_Next t k 5 = a at *
  have h2 := Next_lt t a.2 40 (by omega) (by omega)
  generalize tp_Next t a.2 40 = b at *
  have h3 := Next_lt t b.2 4 (by omega) (by omega)
  generalize tp_Next t b.2 4 = c at *
  have h4 := Next_lt t c.2 12 (by omega) (by omega)
  generalize tp_Next t c.2 12 = d at *
  refine LM_L1 t r _ _ _ fun p hp => ?_
  rcases List.mem_append.1 hp with q | q
  ·exact h p q
  ·rw [List.mem_singleton.1 q]
   refine ⟨?_, ?_⟩
   ·show ((a.1 - 1) + (1022 * (b.1 / 39)) : Int).natAbs ≤ 1000000; omega
   ·show (c.1 - (d.1 / 11) : Int).natAbs ≤ 1000000; omega
theorem LM_L0 (t : List Int) (q : Int) : ∀ (r : Nat) (k i : Int), w33_LayoutMeasures_L0 t q r k i = .brk ()
 | 0, k, i => by rw [w33_LayoutMeasures_L0]
 | r + 1, k, i => by
  rw [w33_LayoutMeasures_L0]
  try dsimp only
  obtain ⟨n, n1, n2, n3, _⟩ := TG_ok t k 8 (by omega)
  have p1 := Points_PBd (g := (tp_Graph t k 8).1) (by omega) 0
  have p2 := LM_L1 t (((((tp_Graph t k 8).1.Nodes.length : Nat) : Int) + ((tp_Next t (tp_Graph t k 8).2 9).1 / 8)) : Int).toNat (tp_Next t (tp_Graph t k 8).2 9).2 [] (((tp_Graph t k 8).1.Nodes.length : Nat) + ((tp_Next t (tp_Graph t k 8).2 9).1 / 8)) (fun p hp => by cases hp)
  generalize w33_LayoutMeasures_L1 t (((((tp_Graph t k 8).1.Nodes.length : Nat) : Int) + ((tp_Next t (tp_Graph t k 8).2 9).1 / 8)) : Int).toNat (tp_Next t (tp_Graph t k 8).2 9).2 [] (((tp_Graph t k 8).1.Nodes.length : Nat) + ((tp_Next t (tp_Graph t k 8).2 9).1 / 8)) = R at p2 ⊢
  obtain ⟨o1, o2⟩ := R
  dsimp only
  rw [measures_true _ _ p1, measures_true _ _ p2, measures_true _ _ p2]
  exact LM_L0 t q r _ _
theorem LayoutMeasures_true (t : List Int) (q : Int) : w33_LayoutMeasures t q = true := by
 unfold w33_LayoutMeasures
 dsimp only
 rw [LM_L0]
 rfl
theorem sz22 : slZero Tryz.prog 22 = some [vi 0] := by kernel_rfl
theorem sl22 : slTy Tryz.prog 22 = some (3, 1, 8) := by kernel_rfl
theorem sh3 : tyShape Tryz.prog 3 = some (false, 1) := by kernel_rfl
theorem un3 : Tryz.prog.underlying 3 = some (.int .i64) := by kernel_rfl
theorem un69 : Tryz.prog.underlying 69 = some (.int .u64) := by kernel_rfl
theorem sl26 : slTy Tryz.prog 26 = some (22, 1, 24) := by kernel_rfl
theorem sh22 : tyShape Tryz.prog 22 = some (false, 1) := by kernel_rfl
theorem ca81 : callable Tryz.prog 81 = true := by kernel_rfl
theorem fo44_1 : fldOff Tryz.prog 44 1 = some 1 := by kernel_rfl
theorem fo44_0 : fldOff Tryz.prog 44 0 = some 0 := by kernel_rfl
theorem ca15 : callable Tryz.prog 15 = true := by kernel_rfl
theorem fmix : Tryz.prog.follows .mixedOrders = true := by kernel_rfl
theorem fo28_0 : fldOff Tryz.prog 28 0 = some 0 := by kernel_rfl
theorem sh25 : tyShape Tryz.prog 25 = some (false, 1) := by kernel_rfl
theorem sl25 : slTy Tryz.prog 25 = some (168, 4, 32) := by kernel_rfl
theorem fo28_1 : fldOff Tryz.prog 28 1 = some 1 := by kernel_rfl
theorem sh26 : tyShape Tryz.prog 26 = some (false, 1) := by kernel_rfl
theorem fo28_2 : fldOff Tryz.prog 28 2 = some 2 := by kernel_rfl
theorem ca68 : callable Tryz.prog 68 = true := by kernel_rfl
theorem ca69 : callable Tryz.prog 69 = true := by kernel_rfl
theorem ze28 : zeroOf Tryz.prog 28 = some (.agg #[.slice none 0 0, .slice none 0 0, .slice none 0 0]) := by kernel_rfl
theorem ca8 : callable Tryz.prog 8 = true := by kernel_rfl
theorem sz25 : slZero Tryz.prog 25 = some [vi 0, vi 0, vi 0, vi 0] := by kernel_rfl
theorem sz26 : slZero Tryz.prog 26 = some [.slice none 0 0] := by kernel_rfl
theorem st28 : stTy Tryz.prog 28 = some ([(0, 1), (1, 1), (2, 1)], [.slice none 0 0, .slice none 0 0, .slice none 0 0]) := by kernel_rfl
theorem sh28 : tyShape Tryz.prog 28 = some (true, 3) := by kernel_rfl
theorem ca13 : callable Tryz.prog 13 = true := by kernel_rfl
theorem ca50 : callable Tryz.prog 50 = true := by kernel_rfl
theorem ca40 : callable Tryz.prog 40 = true := by kernel_rfl
theorem st73 : stTy Tryz.prog 73 = some ([(0, 1), (1, 1)], [cxv (Cpx.mk 0#64 0#64), cxv (Cpx.mk 0#64 0#64)]) := by kernel_rfl
theorem sl70 : slTy Tryz.prog 70 = some (73, 2, 32) := by kernel_rfl
theorem sz70 : slZero Tryz.prog 70 = some [cxv (Cpx.mk 0#64 0#64), cxv (Cpx.mk 0#64 0#64)] := by kernel_rfl
theorem sh73 : tyShape Tryz.prog 73 = some (true, 2) := by kernel_rfl
theorem ca49 : callable Tryz.prog 49 = true := by kernel_rfl
theorem ze73 : zeroOf Tryz.prog 73 = some (.agg #[cxv (Cpx.mk 0#64 0#64), cxv (Cpx.mk 0#64 0#64)]) := by kernel_rfl
theorem fx55 : Ext1 Tryz.prog 55 Extern.MathFloatBits.float64bits := fun args w => run_callFunc_extern Tryz.func55 (by kernel_rfl) (by kernel_rfl) (by kernel_rfl) (by kernel_rfl) args w
theorem fx54 : Ext1 Tryz.prog 54 Extern.MathFloatBits.float64frombits := fun args w => run_callFunc_extern Tryz.func54 (by kernel_rfl) (by kernel_rfl) (by kernel_rfl) (by kernel_rfl) args w
theorem fx70 : Ext1 Tryz.prog 70 (Extern.MathFloor.toIntegral "math.archTrunc" .zero) := fun args w => run_callFunc_extern Tryz.func70 (by kernel_rfl) (by kernel_rfl) (by kernel_rfl) (by kernel_rfl) args w
theorem ca57 : callable Tryz.prog 57 = true := by kernel_rfl
theorem ca38 : callable Tryz.prog 38 = true := by kernel_rfl
theorem ze100 : zeroOf Tryz.prog 100 = some (.nilFunc) := by kernel_rfl
theorem sh100 : tyShape Tryz.prog 100 = some (false, 1) := by kernel_rfl
theorem ca58 : callable Tryz.prog 58 = true := by kernel_rfl
theorem ca59 : callable Tryz.prog 59 = true := by kernel_rfl
theorem ca56 : callable Tryz.prog 56 = true := by kernel_rfl
theorem fo36_0 : fldOff Tryz.prog 36 0 = some 0 := by kernel_rfl
theorem un53 : Tryz.prog.underlying 53 = some (.float .f64) := by kernel_rfl
theorem fo36_1 : fldOff Tryz.prog 36 1 = some 1 := by kernel_rfl
theorem sl49 : slTy Tryz.prog 49 = some (63, 1, 16) := by kernel_rfl
theorem sz49 : slZero Tryz.prog 49 = some [cxv (Cpx.mk 0#64 0#64)] := by kernel_rfl
theorem sh63 : tyShape Tryz.prog 63 = some (false, 1) := by kernel_rfl
theorem ca72 : callable Tryz.prog 72 = true := by kernel_rfl
theorem ca82 : callable Tryz.prog 82 = true := by kernel_rfl
theorem fo73_1 : fldOff Tryz.prog 73 1 = some 1 := by kernel_rfl
theorem fo73_0 : fldOff Tryz.prog 73 0 = some 0 := by kernel_rfl
theorem ca33 : callable Tryz.prog 33 = true := by kernel_rfl
theorem ca34 : callable Tryz.prog 34 = true := by kernel_rfl
theorem ca32 : callable Tryz.prog 32 = true := by kernel_rfl
theorem un49 : Tryz.prog.underlying 49 = some (.slice 63) := by kernel_rfl
theorem ca41 : callable Tryz.prog 41 = true := by kernel_rfl
theorem ca74 : callable Tryz.prog 74 = true := by kernel_rfl
theorem ca60 : callable Tryz.prog 60 = true := by kernel_rfl
theorem ca84 : callable Tryz.prog 84 = true := by kernel_rfl
theorem un98 : Tryz.prog.underlying 98 = some (.int .u64) := by kernel_rfl
theorem un5 : Tryz.prog.underlying 5 = some (.int .u8) := by kernel_rfl
theorem un9 : Tryz.prog.underlying 9 = some .string := by kernel_rfl
theorem ca93 : callable Tryz.prog 93 = true := by kernel_rfl
theorem ca76 : callable Tryz.prog 76 = true := by kernel_rfl
theorem ca75 : callable Tryz.prog 75 = true := by kernel_rfl
theorem ca77 : callable Tryz.prog 77 = true := by kernel_rfl
theorem ca64 : callable Tryz.prog 64 = true := by kernel_rfl
theorem ca63 : callable Tryz.prog 63 = true := by kernel_rfl
theorem ze22 : zeroOf Tryz.prog 22 = some (.slice none 0 0) := by kernel_rfl
theorem sl105 : slTy Tryz.prog 105 = some (4, 1, 1) := by kernel_rfl
theorem sz105 : slZero Tryz.prog 105 = some [vb false] := by kernel_rfl
theorem sh4 : tyShape Tryz.prog 4 = some (false, 1) := by kernel_rfl
theorem ca62 : callable Tryz.prog 62 = true := by kernel_rfl
theorem ca61 : callable Tryz.prog 61 = true := by kernel_rfl
theorem ca42 : callable Tryz.prog 42 = true := by kernel_rfl
theorem ca43 : callable Tryz.prog 43 = true := by kernel_rfl
theorem ca44 : callable Tryz.prog 44 = true := by kernel_rfl
theorem ca94 : callable Tryz.prog 94 = true := by kernel_rfl
theorem ca78 : callable Tryz.prog 78 = true := by kernel_rfl
theorem ca65 : callable Tryz.prog 65 = true := by kernel_rfl
theorem ze87 : zeroOf Tryz.prog 87 = some (.agg #[.pointer none, .slice none 0 0]) := by kernel_rfl
theorem ca45 : callable Tryz.prog 45 = true := by kernel_rfl
theorem sl88 : slTy Tryz.prog 88 = some (9, 1, 16) := by kernel_rfl
theorem sz88 : slZero Tryz.prog 88 = some [.string (bs (Str.mk []))] := by kernel_rfl
theorem ca47 : callable Tryz.prog 47 = true := by kernel_rfl
theorem ca46 : callable Tryz.prog 46 = true := by kernel_rfl
theorem ca48 : callable Tryz.prog 48 = true := by kernel_rfl
theorem ca25 : callable Tryz.prog 25 = true := by kernel_rfl
theorem ca24 : callable Tryz.prog 24 = true := by kernel_rfl
theorem ca26 : callable Tryz.prog 26 = true := by kernel_rfl
theorem ca16 : callable Tryz.prog 16 = true := by kernel_rfl
theorem ca17 : callable Tryz.prog 17 = true := by kernel_rfl
theorem ca18 : callable Tryz.prog 18 = true := by kernel_rfl
theorem ca19 : callable Tryz.prog 19 = true := by kernel_rfl
theorem ca20 : callable Tryz.prog 20 = true := by kernel_rfl
theorem ca22 : callable Tryz.prog 22 = true := by kernel_rfl
theorem ca23 : callable Tryz.prog 23 = true := by kernel_rfl
theorem ca21 : callable Tryz.prog 21 = true := by kernel_rfl
theorem st44 : stTy Tryz.prog 44 = some ([(0, 1), (1, 1)], [.slice none 0 0, vi 0]) := by kernel_rfl
theorem ca51 : callable Tryz.prog 51 = true := by kernel_rfl
theorem ca52 : callable Tryz.prog 52 = true := by kernel_rfl
theorem ca53 : callable Tryz.prog 53 = true := by kernel_rfl
theorem ca35 : callable Tryz.prog 35 = true := by kernel_rfl
theorem ca28 : callable Tryz.prog 28 = true := by kernel_rfl
theorem ca31 : callable Tryz.prog 31 = true := by kernel_rfl
theorem ca14 : callable Tryz.prog 14 = true := by kernel_rfl
theorem sl30 : slTy Tryz.prog 30 = some (36, 2, 16) := by kernel_rfl
theorem sz30 : slZero Tryz.prog 30 = some [vi 0, vi 0] := by kernel_rfl
theorem st36 : stTy Tryz.prog 36 = some ([(0, 1), (1, 1)], [vi 0, vi 0]) := by kernel_rfl
theorem sh36 : tyShape Tryz.prog 36 = some (true, 2) := by kernel_rfl
theorem ze36 : zeroOf Tryz.prog 36 = some (.agg #[vi 0, vi 0]) := by kernel_rfl
theorem eqi36 : eqInts Tryz.prog 36 2 = true := by kernel_rfl
theorem ca36 : callable Tryz.prog 36 = true := by kernel_rfl
theorem ca37 : callable Tryz.prog 37 = true := by kernel_rfl
theorem ca39 : callable Tryz.prog 39 = true := by kernel_rfl
theorem ca5 : callable Tryz.prog 5 = true := by kernel_rfl
theorem ca6 : callable Tryz.prog 6 = true := by kernel_rfl
theorem ca7 : callable Tryz.prog 7 = true := by kernel_rfl
theorem ca9 : callable Tryz.prog 9 = true := by kernel_rfl
theorem ca10 : callable Tryz.prog 10 = true := by kernel_rfl
theorem ca11 : callable Tryz.prog 11 = true := by kernel_rfl
theorem fn13 (l : List Int) (la0 : Option Addr) (lk0 : Nat) (n : Int) (hn_0 : i64ok n) (hl0 : l.length ≤ 1000000000) (rr : List Int) (hrr : r7_Insert l n = rr) : FT Tryz.prog 13 #[vl la0 lk0 l, vi n] [S la0 lk0 l] (fun g : Value => (rr.length ≤ l.length + 1)) (fun g => g) (fun g => [sl g rr]) := by
 refine FTi Tryz.func13 fun w0 M0 F0 => ?_
 unfold i64ok at hn_0
 refine Fb 8 0 fun _ => Fo 0 fun ho2 => KS ?_
 refine Oq Va (KS ?_)
 refine Oq Va (KS ?_)
 refine Kl (γ := Nat × Int) (fun (r3, i_4) => ⟨[(0, vl la0 lk0 l), (1, vi n), (5, vi i_4)], [S la0 lk0 l], r7_Insert_L0 l n r3 i_4 = r7_Insert_L0 l n (((l.length : Int) - 0).toNat) 0 ∧ r3 = ((l.length : Int) - i_4).toNat ∧ (0 : Int) ≤ i_4 ∧ i_4 ≤ (l.length : Int) ∧ (-9223372036854775808 ≤ i_4 ∧ i_4 ≤ 9223372036854775807), r3⟩) (((l.length : Int) - 0).toNat, 0) [0] ⟨rfl, rfl, aM1, aM1, aM1⟩ ?_
 rintro ⟨r3, i_4⟩ ⟨hM5, hr6, hi7, hi8, hk9⟩
 refine JJ_nx fun _ _ hL hA => ?_; dsimp only at hL hA; subst hL hA
 refine Fb 8 0 fun _ => Fo 0 fun ho11 => KS ?_
 refine Oq Vm (Oq Vm (Oq (Vlen sl22) (Oq Vlss (Oq Vm ?_))))
 refine Js 11 ?_ ?_
 ·intro h12
  have g13 := dt h12
  obtain ⟨r14, rfl⟩ := scc (n := r3) aM1
  refine Oq Vm (Oq Vm (Oq (Vi sl22 0) ?_))
  have hb15 := ok1 (i := i_4.toNat) ho11 rng
  refine Oq (VldI sh3 0) (Oq Vm (Oq Vlss (Oq Vpt (KS ?_))))
  refine Kc ?_ ?_
  ·intro h16
   have g17 := dt h16
   refine KS ?_
   refine Oq Vm (Oq Vadd (Oq Va (KS ?_)))
   exact Kg (r14, (i_4 + 1)) [0] ⟨(q3 hM5 (by simp only [r7_Insert_L0, h12, h16, cs4])), aM1, aM1, aM1, aM1⟩
  intro h16
  have g18 := df h16
  refine Ke ?_
  have hR19 := q2 hM5 i_4 (by simp only [r7_Insert_L0, h12, h16, cs4])
  refine KS ?_
  refine Oq Vm (Oq Vm (Oq (Vlen sl22) (Oq Vlss (Oq Vm ?_))))
  refine Js 25 ?_ ?_
  ·intro h20
   have g21 := dt h20
   refine Oq Vm (Oq Vm (Oq (Vi sl22 0) ?_))
   have hb22 := ok1 (i := i_4.toNat) ho11 rng
   refine Oq (VldI sh3 0) (Oq Vm (Oq Veql (Oq Vpt (KS ?_))))
   refine Kc ?_ ?_
   ·intro h23
    have g24 := eq_of_beq h23
    refine KS ?_
    refine Oq Vm (Oq Va (KS ?_))
    have hq := q4 hrr l (by simp only [r7_Insert, h12, h16, h20, h23, hR19, cs4]); subst hq
    exact Kr (vl la0 lk0 l) rfl (.tmp rfl .nil) [0] en
   intro h23
   have g25 := ne_of_beq_false h23
   refine KS ?_
   refine Oa (As0 sl22) fun c26 => ?_
   refine Jo 0 ?_; rintro a27 k28 rfl
   refine Oq Vm (Oq Vm (Oa (Asl [1] sl22 0 (i_4.toNat)) fun c29 => ?_))
   refine Jo 0 ?_; rintro a30 k31 rfl
   refine Fb 8 0 fun _ => Fo 0 fun ho33 => ?_
   have hn34 : ((l.take (i_4.toNat)).drop 0).length = (i_4.toNat) - 0 := len_slice rng rng
   refine Jl [1] (Ent.crNil (α := Int) _) ?_
   refine Oa (Ap0 [0, 0] sl22 sl22 sz22) fun c35 => ?_
   refine Jo 0 ?_; rintro a36 k37 rfl
   refine Oq Va (KS ?_)
   refine Oq Vm (Oq Vm (Oa (AsV sl22 sz22 [vi n] [vi n]) fun c38 => ?_))
   refine Jo 0 ?_; rintro a39 k40 rfl
   refine Jl [0] (Ent.crInt _ [n] _ _ rfl rfl (by intro x hx; rw [List.mem_singleton] at hx; subst hx; unfold i64ok; omega) aB1) ?_
   refine Oa (ApO [1, 0] sl22 sl22 sz22) fun c41 => ?_
   refine Jo 0 ?_; rintro a42 k43 rfl
   refine Fb 8 0 fun _ => Fo 0 fun ho45 => ?_
   have hn46 := la ((l.take (i_4.toNat)).drop 0) ([n] : List Int)
   refine Oq Va (KS ?_)
   refine Oq Vm (Oq Vm (Oq Vm (Oa (Asl [2] sl22 (i_4.toNat) l.length) fun c47 => ?_)))
   refine Jo 0 ?_; rintro a48 k49 rfl
   refine Fb 8 0 fun _ => Fo 0 fun ho51 => ?_
   have hn52 : ((l.take l.length).drop (i_4.toNat)).length = l.length - (i_4.toNat) := len_slice rng rng
   refine Oa (Ap [1, 0] sl22 sl22 sz22) fun c53 => ?_
   refine Jo 0 ?_; rintro a54 k55 rfl
   refine Fb 8 0 fun _ => Fo 0 fun ho57 => ?_
   have hn58 := la ((((l.take (i_4.toNat)).drop 0) ++ [n]) : List Int) ((l.take l.length).drop (i_4.toNat))
   refine Oq Va (KS ?_)
   refine Jl [0] (Ent.freeze _ _) ?_
   have hq := q4 hrr ((((l.take (i_4.toNat)).drop 0) ++ [n]) ++ ((l.take l.length).drop (i_4.toNat))) (by simp only [r7_Insert, h12, h16, h20, h23, hR19, cs4]); subst hq
   exact Kr (.slice a54 (((((l.take (i_4.toNat)).drop 0) ++ [n]) ++ ((l.take l.length).drop (i_4.toNat))).length) k55) rfl (.tmp rfl .nil) [0] en
  intro h20
  exact absurd h20 (by first | (simp [h12]; done) | (simp only [bne, h12]; decide) | (simp only [bne, h12, Bool.not_true, Bool.not_false]; decide) | (exfalso; omega) | (intro hq; simp only [bne, hq, Bool.not_false, Bool.not_true, reduceCtorEq] at h12))
 intro h12
 have g59 := df h12
 obtain rfl : r3 = 0 := by omega
 refine Osk (Osk (Osk (Osk (Osk (Osk (Oq Vpf (KS ?_)))))))
 refine Kf ?_
 refine Ke ?_
 have hR60 := q2 hM5 i_4 (by simp only [r7_Insert_L0, h12, cs4])
 refine KS ?_
 refine Oq Vm (Oq Vm (Oq (Vlen sl22) (Oq Vlss (Oq Vm ?_))))
 refine Js 25 ?_ ?_
 ·intro h61
  exact absurd h61 (by first | (simp [h12]; done) | (simp only [bne, h12]; decide) | (simp only [bne, h12, Bool.not_true, Bool.not_false]; decide) | (exfalso; omega) | (intro hq; simp only [bne, hq, Bool.not_false, Bool.not_true, reduceCtorEq] at h12))
 intro h61
 have g62 := df h61
 refine Osk (Osk (Osk (Osk (Osk (Osk (Oq Vpf (KS ?_)))))))
 refine Kf (KS ?_)
 refine Oa (As0 sl22) fun c63 => ?_
 refine Jo 0 ?_; rintro a64 k65 rfl
 refine Oq Vm (Oq Vm (Oa (Asl [1] sl22 0 (i_4.toNat)) fun c66 => ?_))
 refine Jo 0 ?_; rintro a67 k68 rfl
 refine Fb 8 0 fun _ => Fo 0 fun ho70 => ?_
 have hn71 : ((l.take (i_4.toNat)).drop 0).length = (i_4.toNat) - 0 := len_slice rng rng
 refine Jl [1] (Ent.crNil (α := Int) _) ?_
 refine Oa (Ap0 [0, 0] sl22 sl22 sz22) fun c72 => ?_
 refine Jo 0 ?_; rintro a73 k74 rfl
 refine Oq Va (KS ?_)
 refine Oq Vm (Oq Vm (Oa (AsV sl22 sz22 [vi n] [vi n]) fun c75 => ?_))
 refine Jo 0 ?_; rintro a76 k77 rfl
 refine Jl [0] (Ent.crInt _ [n] _ _ rfl rfl (by intro x hx; rw [List.mem_singleton] at hx; subst hx; unfold i64ok; omega) aB1) ?_
 refine Oa (ApO [1, 0] sl22 sl22 sz22) fun c78 => ?_
 refine Jo 0 ?_; rintro a79 k80 rfl
 refine Fb 8 0 fun _ => Fo 0 fun ho82 => ?_
 have hn83 := la ((l.take (i_4.toNat)).drop 0) ([n] : List Int)
 refine Oq Va (KS ?_)
 refine Oq Vm (Oq Vm (Oq Vm (Oa (Asl [2] sl22 (i_4.toNat) l.length) fun c84 => ?_)))
 refine Jo 0 ?_; rintro a85 k86 rfl
 refine Fb 8 0 fun _ => Fo 0 fun ho88 => ?_
 have hn89 : ((l.take l.length).drop (i_4.toNat)).length = l.length - (i_4.toNat) := len_slice rng rng
 refine Oa (Ap [1, 0] sl22 sl22 sz22) fun c90 => ?_
 refine Jo 0 ?_; rintro a91 k92 rfl
 refine Fb 8 0 fun _ => Fo 0 fun ho94 => ?_
 have hn95 := la ((((l.take (i_4.toNat)).drop 0) ++ [n]) : List Int) ((l.take l.length).drop (i_4.toNat))
 refine Oq Va (KS ?_)
 refine Jl [0] (Ent.freeze _ _) ?_
 have hq := q4 hrr ((((l.take (i_4.toNat)).drop 0) ++ [n]) ++ ((l.take l.length).drop (i_4.toNat))) (by simp only [r7_Insert, h12, h61, hR60, cs4]); subst hq
 exact Kr (.slice a91 (((((l.take (i_4.toNat)).drop 0) ++ [n]) ++ ((l.take l.length).drop (i_4.toNat))).length) k92) rfl (.tmp rfl .nil) [0] en
theorem fn15 (v : Int) (n : Int) (hv_0 : i64ok v) (hn_0 : i64ok n) (hn1 : 1 ≤ n) (rr : Int) (hrr : g_Mod v n = rr) : FT Tryz.prog 15 #[vi v, vi n] [] (fun g : Unit => i64ok rr ∧ (0 ≤ rr ∧ rr < n)) (fun g => vi rr) (fun g => []) := by
 refine FTi Tryz.func15 fun w0 M0 F0 => ?_
 unfold i64ok at hv_0 hn_0
 have hm := mod_range v n aM1
 refine KS ?_
 refine Oq Va (KS ?_)
 refine Oq Vm (Oq (VcU un3 un69) (Oq Vm (Oq (VcU un3 un69) (Oq (VremU (ofInt_ne n aM1)) (Oq (VcN un69 un3 (h := (mod_le v n aM1))) (Oq Va (KS ?_)))))))
 have hq := q4 hrr (((BitVec.ofInt 64 v) % (BitVec.ofInt 64 n)).toNat : Int) (by simp only [g_Mod, cs4]); subst hq
 exact Kr () rfl (.tmp rfl .nil) [] en
theorem fn8 (tP : Value) (ta : Option Addr) (tk : Nat) (tT : List Int) (tI : Int) (n : Int) (htI : 0 ≤ tI ∧ tI ≤ (tT.length : Int)) (hn_0 : i64ok n) (rr : Int × Int) (hrr : tp_Next tT tI n = rr) : FT Tryz.prog 8 #[tP, vi n] [Cl tP [vl ta tk tT, vi tI], S ta tk tT] (fun g : Unit => i64ok rr.1 ∧ (0 ≤ rr.2 ∧ rr.2 ≤ (tT.length : Int)) ∧ (0 ≤ rr.1 ∧ (rr.1 < n ∨ rr.1 = 0))) (fun g => vi rr.1) (fun g => [Cl tP [vl ta tk tT, vi rr.2]]) := by
 refine FTi Tryz.func8 fun w0 M0 F0 => ?_
 unfold i64ok at hn_0
 refine Fb 8 1 fun _ => Fo 1 fun ho2 => KS ?_
 refine Oq Va (KS ?_)
 refine Jp 0 fun hp3 => ?_
 refine Kq [0, 1, 3, 7, 15, 31, 63, 7, 135, 391, 903, 1927, 4095, 8191] fmix ?_
 refine Qv [] Vm (Qv [] Vleq ?_)
 refine bool_split (decide (n ≤ 1)) ?_ ?_
 ·intro h4
  have g5 := dt h4
  refine Qb h4 [] Vm (Qs (Qs (Qs (Qs (Qs (Qs (Qs (Qs (Qs ?_)))))))))
  refine Qs (Qv [] Vpt ?_)
  refine Qn ⟨by kernel_rfl, ?_⟩
  refine Kt (KS ?_)
  refine Oq Va (KS ?_)
  have hq := q4 hrr (0, tI) (by simp only [tp_Next, h4, cs4]); subst hq
  exact Kr () rfl (.tmp rfl .nil) [1] en
 intro h4
 have g6 := df h4
 refine Qb h4 [] Vm (Qv [] Vm (Qv [0] (Vn 0) (Qv [0] (Vfa fo44_1 0) (Qv [1] (VldF sh3 0) (Qv [] Vm (Qv [0] (Vn 0) (Qv [0] (Vfa fo44_0 0) (Qv [1] (VldF sh22 0) (Qv [] (Vlen sl22) ?_)))))))))
 refine Qv [] Vgeq (Qv [] Vpf ?_)
 refine Qn ⟨by kernel_rfl, ?_⟩
 refine Kc ?_ ?_
 ·intro h7
  have g8 := dt h7
  refine KS ?_
  refine Oq Va (KS ?_)
  have hq := q4 hrr (0, tI) (by simp only [tp_Next, h4, h7, cs4]); subst hq
  exact Kr () rfl (.tmp rfl .nil) [1] en
 intro h7
 have g9 := df h7
 refine KS ?_
 refine Oq Vm (Oq (Vn 1) (Oq (Vfa fo44_1 1) (Oq (VldF sh3 1) (Oq Vadd (Oq (Vn 1) (Oq (Vfa fo44_1 1) (Ost (SclF [1] sh3 [vl ta tk tT, vi (tI + 1)]) (KS ?_))))))))
 refine JK_drawK [0, 1, 3, 7, 0, 16, 48, 112, 240, 511, 1023, 0, 4095, 8191] fmix ?_
 refine Dv [] Vm (Dv [1] (Vn 0) (Dv [1] (Vfa fo44_0 0) (Dv [0] (VldF sh22 0) (Dv [] Vm (Dv [1] (Vn 0) (Dv [1] (Vfa fo44_1 0) (Dv [0] (VldF sh3 0) (Dv [] Vsub (Dv [2] (Vi sl22 0) ?_)))))))))
 have hb10 := ok1 (i := (((tI + 1) - 1) : Int).toNat) ho2 rng
 refine Dv [2] (VldI sh3 0) (Dv [] Vm ?_)
 refine letv (g_Mod (tT.getD (((tI + 1) - 1) : Int).toNat 0) n) fun rv11 hg12 => ?_
 refine Dx [] [] [0] (fun G => vi rv11) [fun G => SP.fact (i64ok rv11 ∧ (0 ≤ rv11 ∧ rv11 < n))] (fun G => xC [] ca15 (fn15 ((tT.getD (((tI + 1) - 1) : Int).toNat 0)) n pre pre pre rv11 hg12)) (Dv [] Va ?_)
 refine Dn ⟨by kernel_rfl, fun G => ?_⟩
 refine Jw2 [(4, vi rv11)] [0, 1, 2] [SP.fact (i64ok rv11 ∧ (0 ≤ rv11 ∧ rv11 < n))] ?_
 refine Jf 3 rfl ?_; rintro ⟨he13, he14⟩
 unfold i64ok at he13
 refine Jk [0, 1] ?_
 have hq := q4 hrr (rv11, (tI + 1)) (by simp only [tp_Next, h4, h7, hg12, cs4]); subst hq
 exact Kr () rfl (.tmp rfl .nil) [0] en
theorem fn10 (tP : Value) (ta : Option Addr) (tk : Nat) (tT : List Int) (tI : Int) (g : GGraph) (ga0 : Option Addr) (gk0 : Nat) (ga1 : Option Addr) (gk1 : Nat) (ga2 : Option Addr) (gk2 : Nat) (htI : 0 ≤ tI ∧ tI ≤ (tT.length : Int)) (hgl : (1 ≤ g.Nodes.length ∧ g.Nodes.length ≤ 1000 ∧ g.Succ.length = g.Nodes.length ∧ g.Pred.length = g.Nodes.length)) (hgS : (∀ l ∈ g.Succ, (l.length : Int) ≤ 3000)) (hgP : (∀ l ∈ g.Pred, (l.length : Int) ≤ 3000)) (hg12 : g.Nodes.length ≤ 12) (rr : GGraph × Int) (hrr : tp_SpoilGraph tT tI g = rr) : FT Tryz.prog 10 #[tP, .agg #[vl ga0 gk0 g.Nodes, vl ga1 gk1 g.Succ, vl ga2 gk2 g.Pred]] [Cl tP [vl ta tk tT, vi tI], S ta tk tT, S ga0 gk0 g.Nodes, S ga1 gk1 g.Succ, S ga2 gk2 g.Pred] (fun g : Value × Value × Value => (0 ≤ rr.2 ∧ rr.2 ≤ (tT.length : Int)) ∧ (rr.1.Nodes.length ≤ 12)) (fun g => .agg #[g.1, g.2.1, g.2.2]) (fun g => [sl g.1 rr.1.Nodes, sl g.2.1 rr.1.Succ, sl g.2.2 rr.1.Pred, Cl tP [vl ta tk tT, vi rr.2]]) := by
 refine FTi Tryz.func10 fun w0 M0 F0 => Fb 8 1 fun _ => Fo 1 fun ho2 => Fb 32 2 fun _ => Fb 24 3 fun _ => Fb 24 4 fun _ => ?_
 refine KS ?_
 refine Oa (Ab [vl ga0 gk0 g.Nodes, vl ga1 gk1 g.Succ, vl ga2 gk2 g.Pred]) fun p6 => Oa (Al ze28 [.slice none 0 0, .slice none 0 0, .slice none 0 0]) fun p7 => KS ?_
 refine JK_drawK [0, 0, 2, 7, 0, 0, 32, 127, 0, 0, 512, 2047, 4095, 0, 16383] fmix ?_
 refine Dx [] [] [0] (fun G => (G.g 0 0)) [fun G => Cr (G.g 0 0) 0 []] (fun G => xA (As0 sl25)) (Dv [1] (Vfa fo28_0 0) (Dv [1] (VldF sh25 0) (Dx [4, 7] [7] [1, 0] (fun G => (G.g 3 0)) [fun G => os (G.g 3 0) g.Nodes] (fun G => xp [1] rfl (Ent.crNil (α := GNode) _) (xA (Ap0 [0, 0] sl25 sl25 sz25))) (Dx [] [] [0] (fun G => (G.g 4 0)) [fun G => Cr (G.g 4 0) 0 []] (fun G => xA (As0 sl26)) (Dv [1] (Vfa fo28_1 0) (Dv [1] (VldF sh26 0) (Dx [5, 9] [9] [1, 0] (fun G => (G.g 7 0)) [fun G => os (G.g 7 0) g.Succ] (fun G => xp [1] rfl (Ent.crNil (α := List Int) _) (xA (Ap0 [0, 0] sl26 sl26 sz26))) (Dx [] [] [0] (fun G => (G.g 8 0)) [fun G => Cr (G.g 8 0) 0 []] (fun G => xA (As0 sl26)) (Dv [1] (Vfa fo28_2 0) ?_)))))))))
 refine Dv [1] (VldF sh26 0) (Dx [6, 11] [11] [1, 0] (fun G => (G.g 11 0)) [fun G => os (G.g 11 0) g.Pred] (fun G => xp [1] rfl (Ent.crNil (α := List Int) _) (xA (Ap0 [0, 0] sl26 sl26 sz26))) ?_)
 refine Dx [8, 10, 12] [] [0, 0, 0] (fun G => .agg #[(G.g 3 0), (G.g 7 0), (G.g 11 0)]) [] (fun G => xV (v := .agg #[(G.g 3 0), (G.g 7 0), (G.g 11 0)]) (Vo 0 rfl (isO_os _ _) fun aq14 kq15 eq16 => (by rw [eq16]; exact Vo 1 rfl (isO_os _ _) fun aq17 kq18 eq19 => (by rw [eq19]; exact Vo 2 rfl (isO_os _ _) fun aq20 kq21 eq22 => (by rw [eq22]; exact Vbd st28 [.slice aq14 ((g.Nodes : List GNode).length) kq15, .slice aq17 ((g.Succ : List (List Int)).length) kq18, .slice aq20 ((g.Pred : List (List Int)).length) kq21]))))) (Dx [] [] [0] (fun G => (G.g 13 0)) [fun G => Cl (G.g 13 0) [.slice none 0 0, .slice none 0 0, .slice none 0 0]] (fun G => xA (Al ze28 [.slice none 0 0, .slice none 0 0, .slice none 0 0])) (Dx0 [8, 10, 12, 13] [13] [1, 1, 1, 0] [fun G => Cl (G.g 13 0) [(G.g 3 0), (G.g 7 0), (G.g 11 0)]] (fun G => x1 0 rfl os_one fun ho24 => (x1 1 rfl os_one fun ho25 => (x1 2 rfl os_one fun ho26 => (xS (Scl [3] sh28 [(G.g 3 0), (G.g 7 0), (G.g 11 0)] (v := .agg #[(G.g 3 0), (G.g 7 0), (G.g 11 0)]) (h1 := show [(G.g 3 0), (G.g 7 0), (G.g 11 0)].all (·.oneCell') = true from (by simp only [List.all_cons, List.all_nil, ho24, ho25, ho26, Bool.and_true, Bool.true_and] <;> rfl))))))) ?_))
 refine Dn ⟨by kernel_rfl, fun G => ?_⟩
 refine Jw2 [(0, tP), (4, p7), (5, (G.g 13 0))] [0, 1, 2, 3, 4, 5, 6] [os (G.g 3 0) g.Nodes, os (G.g 7 0) g.Succ, os (G.g 11 0) g.Pred, Cl (G.g 13 0) [(G.g 3 0), (G.g 7 0), (G.g 11 0)]] ?_
 generalize G.g 3 0 = c9, G.g 7 0 = c11, G.g 11 0 = c13, G.g 13 0 = p23
 refine Jo 7 ?_; rintro a27 k28 rfl
 refine Jo 8 ?_; rintro a29 k30 rfl
 refine Jo 9 ?_; rintro a31 k32 rfl
 refine KS ?_
 refine Oq Vm (Oq (Vfa fo28_0 10) (Oq (VldF sh25 10) (Oq (Vlen sl25) ?_)))
 refine letv (tp_Next tT tI (g.Nodes.length : Int)) fun rv33 hg34 => ?_
 have hPl_rv33 := lenS_at hgP aM1 rv33.1.toNat
 have hc35 := fn8 tP ta tk tT tI ((g.Nodes.length : Int)) pre pre rv33 hg34
 refine Oc [2, 2] ca8 hc35 ?_
 rintro - ⟨he36, he37, he38⟩
 unfold i64ok at he36
 refine Oq Va (KS ?_)
 refine Oq Vm ?_
 refine letv (tp_Next tT rv33.2 4) fun rv39 hg40 => ?_
 have hPl_rv39 := lenS_at hgP aM1 rv39.1.toNat
 have hc41 := fn8 tP ta tk tT rv33.2 4 pre pre rv39 hg40
 refine Oc [0, 2] ca8 hc41 ?_
 rintro - ⟨he42, he43, he44⟩
 unfold i64ok at he42
 refine KS ?_
 refine Oq Veql (Oq Va (KS ?_))
 refine Kc ?_ ?_
 ·intro h45
  have g46 := eq_of_beq h45
  refine Jp 10 fun hp47 => ?_
  refine JJ_peekOL rv33.1.toNat 9 rfl rng fun a48 k49 => ?_
  refine Fb 8 1 fun _ => Fo 1 fun ho51 => ?_
  refine JK_drawK [0, 1, 0, 0, 8, 0, 56, 120, 0, 0, 512, 1536, 3584, 7936, 16376, 32767, 65535] fmix ?_
  refine Dv [2] (Vfa fo28_1 0) (Dv [12] (VldF sh26 0) (Dv [] Vm (Dv [2] (Vfa fo28_1 0) (Dv [12] (VldF sh26 0) (Dv [] Vm (Dv [0] (Vi sl26 0) (Dv [0] (Vld sh22 0) (Dv [] Vm (Dv [2] (Vfa fo28_0 0) ?_)))))))))
  refine Dv [12] (VldF sh25 0) (Dv [] (Vlen sl25) (Dv [] Vadd ?_))
  refine letv (tp_Next tT rv39.2 ((g.Nodes.length : Int) + 1)) fun rv52 hg53 => ?_
  have hPl_rv52 := lenS_at hgP aM1 rv52.1.toNat
  refine Dx [3, 6] [3] [2, 0, 1] (fun G => vi rv52.1) [fun G => SP.fact (i64ok rv52.1 ∧ (0 ≤ rv52.2 ∧ rv52.2 ≤ (tT.length : Int)) ∧ (0 ≤ rv52.1 ∧ (rv52.1 < ((g.Nodes.length : Int) + 1) ∨ rv52.1 = 0))), fun G => Cl tP [vl ta tk tT, vi rv52.2]] (fun G => xC [0, 0] ca8 (fn8 tP ta tk tT rv39.2 (((g.Nodes.length : Int) + 1)) pre pre rv52 hg53)) ?_
  refine letv (r7_Insert (g.Succ.getD rv33.1.toNat []) rv52.1) fun rv55 hg56 => ?_
  refine Dx [1, 13] [] [2, 3, 0, 1] (fun G => (G.g 14 0)) [fun G => SP.fact ((rv55.length ≤ (g.Succ.getD rv33.1.toNat []).length + 1)), fun G => sl (G.g 14 0) rv55] (fun G => by refine xf 1 rfl ?_; rintro ⟨he57, he58, he59⟩; unfold i64ok at he57; exact xC [0] ca13 (fn13 ((g.Succ.getD rv33.1.toNat [])) a48 k49 rv52.1 pre (lenS_1 hgS aM1) rv55 hg56)) ?_
  refine Dx [0, 15] [] [0, 0] (fun G => (eptr 1 (vl a29 k30 g.Succ) rv33.1.toNat)) [] (fun G => by refine xf 1 rfl ?_; rintro he60; exact xV (Vi sl26 0)) ?_
  refine Dx0 [0, 15, 16] [0] [2, 1, 0] [fun G => os (vl a29 k30 g.Succ) (g.Succ.set rv33.1.toNat rv55)] (fun G => by refine xf 1 rfl ?_; rintro he61; exact xp [0] rfl (Ent.oread _ _ _ _) (x1 2 rfl sl_one fun ho62 => (xS (OpS.frame [0, 1] rfl (OpS.storeOs' (Rs := [sl (G.g 14 0) rv55]) rv55 [(G.g 14 0)] rfl rfl rfl sh22 (cells_of_one ho62) rfl (fun h => ⟨_, rfl, sepAll_get (i := 0) rfl h⟩) rng))))) ?_
  refine Dn ⟨by kernel_rfl, fun G => ?_⟩
  refine Jw2 [(4, p7), (5, p23)] [1, 2, 4, 5, 6, 7, 8, 9, 10, 11, 12] [SP.fact (i64ok rv52.1 ∧ (0 ≤ rv52.2 ∧ rv52.2 ≤ (tT.length : Int)) ∧ (0 ≤ rv52.1 ∧ (rv52.1 < ((g.Nodes.length : Int) + 1) ∨ rv52.1 = 0))), Cl tP [vl ta tk tT, vi rv52.2], SP.fact ((rv55.length ≤ (g.Succ.getD rv33.1.toNat []).length + 1)), sl (G.g 14 0) rv55, os (vl a29 k30 g.Succ) (g.Succ.set rv33.1.toNat rv55)] ?_
  generalize G.g 14 0 = c54
  refine Jf 11 rfl ?_; rintro ⟨he63, he64, he65⟩
  unfold i64ok at he63
  refine Jf 13 rfl ?_; rintro he66
  refine Jk [0, 2, 2, 3, 4, 5, 6, 7, 7, 7, 8, 9, 10] ?_
  refine Jo 11 ?_; rintro a67 k68 rfl
  refine Fb 8 11 fun _ => Fo 11 fun ho70 => KS ?_
  refine Oq (VldA sh28 9) (Ost (Scl [1] sh28 [vl a27 k28 g.Nodes, vl a29 k30 g.Succ, vl a31 k32 g.Pred]) (KS ?_))
  refine Jl [7] (Ent.freeze _ _) ?_
  refine Jl [12] (Ent.freeze _ _) ?_
  refine Jl [9] (Ent.freeze _ _) ?_
  have hq := q4 hrr ((GGraph.mk g.Nodes (g.Succ.set rv33.1.toNat rv55) g.Pred), rv52.2) (by simp only [tp_SpoilGraph, h45, hg34, hg40, hg53, hg56, cs4]); subst hq
  exact Kr (vl a27 k28 g.Nodes, vl a29 k30 g.Succ, vl a31 k32 g.Pred) rfl (.cellN 3 rfl sh28 rfl (reads_Cl _ _) rfl .nil) [2, 1, 0, 11] ⟨en, (Nat.le_trans (SpG_len hrr) hg12)⟩
 intro h45
 have g71 := ne_of_beq_false h45
 refine KS ?_
 refine Oq Veql (Oq Va (KS ?_))
 refine Kc ?_ ?_
 ·intro h72
  have g73 := eq_of_beq h72
  refine Jp 10 fun hp74 => ?_
  refine JJ_peekOL rv33.1.toNat 10 rfl rng fun a75 k76 => ?_
  refine Fb 8 1 fun _ => Fo 1 fun ho78 => ?_
  refine JK_drawK [0, 1, 0, 0, 0, 16, 0, 112, 240, 504, 0, 0, 2048, 6144, 16376, 32760, 65528, 131064, 262143, 524287] fmix ?_
  refine Dv [2] (Vfa fo28_2 0) (Dv [12] (VldF sh26 0) (Dv [] Vm (Dx [] [] [0] (fun G => (G.g 3 0)) [fun G => Cr (G.g 3 0) 0 []] (fun G => xA (As0 sl22)) (Dv [2] (Vfa fo28_2 0) (Dv [12] (VldF sh26 0) (Dv [] Vm (Dv [0] (Vi sl26 0) (Dv [0] (Vld sh22 0) (Dx [1, 13] [13] [1, 0] (fun G => (G.g 9 0)) [fun G => os (G.g 9 0) ((g.Pred.getD rv33.1.toNat []) : List Int)] (fun G => xp [1] rfl (Ent.crNil (α := Int) _) (xA (Ap0 [0, 0] sl22 sl22 sz22))) ?_)))))))))
  refine Dv [] Vm (Dv [2] (Vfa fo28_0 0) (Dv [12] (VldF sh25 0) (Dv [] (Vlen sl25) ?_)))
  refine letv (tp_Next tT rv39.2 (g.Nodes.length : Int)) fun rv81 hg82 => ?_
  have hPl_rv81 := lenS_at hgP aM1 rv81.1.toNat
  refine Dx [3, 6] [3] [2, 0, 1] (fun G => vi rv81.1) [fun G => SP.fact (i64ok rv81.1 ∧ (0 ≤ rv81.2 ∧ rv81.2 ≤ (tT.length : Int)) ∧ (0 ≤ rv81.1 ∧ (rv81.1 < (g.Nodes.length : Int) ∨ rv81.1 = 0))), fun G => Cl tP [vl ta tk tT, vi rv81.2]] (fun G => xC [0, 0] ca8 (fn8 tP ta tk tT rv39.2 ((g.Nodes.length : Int)) pre pre rv81 hg82)) ?_
  refine Dx [15] [] [0] (fun G => vi (rv81.1 - 1)) [] (fun G => by refine xf 0 rfl ?_; rintro ⟨he83, he84, he85⟩; unfold i64ok at he83; exact xV (Vsub)) (Dx [] [] [0] (fun G => (G.g 16 0)) [fun G => Cr (G.g 16 0) 1 [vi (rv81.1 - 1)]] (fun G => xA (AsV sl22 sz22 [vi (rv81.1 - 1)] [vi (rv81.1 - 1)])) ?_)
  have hn88 := la ((g.Pred.getD rv33.1.toNat []) : List Int) ([(rv81.1 - 1)] : List Int)
  refine Dx [14, 15, 17] [14, 17] [1, 0] (fun G => (G.g 17 0)) [fun G => os (G.g 17 0) (((g.Pred.getD rv33.1.toNat []) ++ [(rv81.1 - 1)]) : List Int)] (fun G => by refine xf 1 rfl ?_; rintro ⟨he89, he90, he91⟩; unfold i64ok at he89; exact xp [2] rfl (Ent.crInt _ [(rv81.1 - 1)] _ _ rfl rfl (by intro x hx; rw [List.mem_singleton] at hx; subst hx; unfold i64ok; omega) aB1) (xA (ApO [1, 0] sl22 sl22 sz22))) (Dv [0] (Vi sl26 0) ?_)
  refine Dx0 [0, 15, 18] [0, 18] [3, 1, 0] [fun G => sl (G.g 17 0) (((g.Pred.getD rv33.1.toNat []) ++ [(rv81.1 - 1)]) : List Int), fun G => os (vl a31 k32 g.Pred) ((g.Pred.set rv33.1.toNat ((g.Pred.getD rv33.1.toNat []) ++ [(rv81.1 - 1)])) : List (List Int))] (fun G => by refine xf 1 rfl ?_; rintro ⟨he92, he93, he94⟩; unfold i64ok at he92; exact xp [0] rfl (Ent.oread _ _ _ _) (xp [2] rfl (Ent.freeze _ _) (x1 0 rfl sl_one fun ho95 => (xS (OpS.frame [1, 0] rfl (OpS.storeOs' (Rs := [sl (G.g 17 0) (((g.Pred.getD rv33.1.toNat []) ++ [(rv81.1 - 1)]) : List Int)]) ((g.Pred.getD rv33.1.toNat []) ++ [(rv81.1 - 1)]) [(G.g 17 0)] rfl rfl rfl sh22 (cells_of_one ho95) rfl (fun h => ⟨_, rfl, sepAll_get (i := 0) rfl h⟩) rng)))))) ?_
  refine Dn ⟨by kernel_rfl, fun G => ?_⟩
  refine Jw2 [(4, p7), (5, p23)] [1, 2, 4, 5, 6, 7, 8, 9, 10, 11, 12] [SP.fact (i64ok rv81.1 ∧ (0 ≤ rv81.2 ∧ rv81.2 ≤ (tT.length : Int)) ∧ (0 ≤ rv81.1 ∧ (rv81.1 < (g.Nodes.length : Int) ∨ rv81.1 = 0))), Cl tP [vl ta tk tT, vi rv81.2], sl (G.g 17 0) (((g.Pred.getD rv33.1.toNat []) ++ [(rv81.1 - 1)]) : List Int), os (vl a31 k32 g.Pred) ((g.Pred.set rv33.1.toNat ((g.Pred.getD rv33.1.toNat []) ++ [(rv81.1 - 1)])) : List (List Int))] ?_
  generalize G.g 17 0 = c87
  refine Jf 11 rfl ?_; rintro ⟨he96, he97, he98⟩
  unfold i64ok at he96
  refine Jk [0, 2, 2, 3, 4, 5, 6, 7, 7, 7, 8, 8, 9] ?_
  refine Jo 11 ?_; rintro a99 k100 rfl
  refine Fb 8 11 fun _ => Fo 11 fun ho102 => KS ?_
  refine Oq (VldA sh28 9) (Ost (Scl [1] sh28 [vl a27 k28 g.Nodes, vl a29 k30 g.Succ, vl a31 k32 g.Pred]) (KS ?_))
  refine Jl [7] (Ent.freeze _ _) ?_
  refine Jl [8] (Ent.freeze _ _) ?_
  refine Jl [12] (Ent.freeze _ _) ?_
  have hq := q4 hrr ((GGraph.mk g.Nodes g.Succ (g.Pred.set rv33.1.toNat ((g.Pred.getD rv33.1.toNat []) ++ [(rv81.1 - 1)]))), rv81.2) (by simp only [tp_SpoilGraph, h45, h72, hg34, hg40, hg82, cs4]); subst hq
  exact Kr (vl a27 k28 g.Nodes, vl a29 k30 g.Succ, vl a31 k32 g.Pred) rfl (.cellN 3 rfl sh28 rfl (reads_Cl _ _) rfl .nil) [2, 1, 0, 11] ⟨en, (Nat.le_trans (SpG_len hrr) hg12)⟩
 intro h72
 have g103 := ne_of_beq_false h72
 refine KS ?_
 refine Oq Veql (Oq Va (KS ?_))
 refine Kc ?_ ?_
 ·intro h104
  have g105 := eq_of_beq h104
  refine KS ?_
  refine Oq (Vfa fo28_0 10) (Oq (VldF sh25 10) (Oa (AslO [7] sl25 ((1 : Int).toNat) g.Nodes.length) fun c106 => ?_))
  refine Jo 0 ?_; rintro a107 k108 rfl
  refine Fb 32 0 fun _ => ?_
  have hn110 : ((g.Nodes.take g.Nodes.length).drop ((1 : Int).toNat)).length = g.Nodes.length - ((1 : Int).toNat) := len_slice rng rng
  refine Oq (Vfa fo28_0 10) (Ost (SclF [10] sh25 [vl a107 k108 ((g.Nodes.take g.Nodes.length).drop ((1 : Int).toNat)), vl a29 k30 g.Succ, vl a31 k32 g.Pred]) (KS ?_))
  refine Oq (VldA sh28 0) (Ost (Scl [3] sh28 [vl a107 k108 ((g.Nodes.take g.Nodes.length).drop ((1 : Int).toNat)), vl a29 k30 g.Succ, vl a31 k32 g.Pred]) (KS ?_))
  refine Jl [2] (Ent.freeze _ _) ?_
  refine Jl [9] (Ent.freeze _ _) ?_
  refine Jl [10] (Ent.freeze _ _) ?_
  have hq := q4 hrr ((GGraph.mk ((g.Nodes.take g.Nodes.length).drop ((1 : Int).toNat)) g.Succ g.Pred), rv39.2) (by simp only [tp_SpoilGraph, h45, h72, h104, hg34, hg40, cs4]); subst hq
  exact Kr (vl a107 k108 ((g.Nodes.take g.Nodes.length).drop ((1 : Int).toNat)), vl a29 k30 g.Succ, vl a31 k32 g.Pred) rfl (.cellN 3 rfl sh28 rfl (reads_Cl _ _) rfl .nil) [2, 1, 0, 5] ⟨en, (Nat.le_trans (SpG_len hrr) hg12)⟩
 intro h104
 have g111 := ne_of_beq_false h104
 refine KS ?_
 refine Oq (Vfa fo28_1 10) (Oq (VldF sh26 10) (Oq Vm (Oq (Vi sl26 8) (Ost (So (Rs := []) [8] sh22 ([] : List Int) (fun _ => ⟨_, rfl, slrd_nil⟩)) (KS ?_)))))
 refine Oq (VldA sh28 10) (Ost (Scl [2] sh28 [vl a27 k28 g.Nodes, vl a29 k30 g.Succ, vl a31 k32 g.Pred]) (KS ?_))
 refine Jl [8] (Ent.freeze _ _) ?_
 refine Jl [2] (Ent.freeze _ _) ?_
 refine Jl [9] (Ent.freeze _ _) ?_
 have hq := q4 hrr ((GGraph.mk g.Nodes (g.Succ.set rv33.1.toNat ([] : List Int)) g.Pred), rv39.2) (by simp only [tp_SpoilGraph, h45, h72, h104, hg34, hg40, cs4]); subst hq
 exact Kr (vl a27 k28 g.Nodes, vl a29 k30 g.Succ, vl a31 k32 g.Pred) rfl (.cellN 3 rfl sh28 rfl (reads_Cl _ _) rfl .nil) [2, 1, 0, 4] ⟨en, (Nat.le_trans (SpG_len hrr) hg12)⟩
theorem fn49 (s : List Gedge) (sa0 : Option Addr) (sk0 : Nat) (fF : FuncId) (fC : List Value) (fp : Gedge → Bool) (fA : List SP) (hfc : callable Tryz.prog fF = true) (hfF : ∀ x ∈ s, FT Tryz.prog fF ([(.agg #[cxv x.from_, cxv x.to_] : Value)] ++ fC).toArray ([] ++ [pAll fA]) (fun _ : Unit => True) (fun _ => .bool (fp x)) (fun _ => [])) (rr : Int) (hrr : sc_IndexFunc_edge s fp = rr) : FT Tryz.prog 49 #[vl sa0 sk0 s, .func (.func fF) #[] fC.toArray] [S sa0 sk0 s, pAll fA] (fun g : Unit => i64ok rr ∧ (-1 ≤ rr ∧ rr < (s.length : Int))) (fun g => vi rr) (fun g => []) := by
 refine FTi Tryz.func49 fun w0 M0 F0 => Fb 32 0 fun _ => ?_
 refine KS ?_
 refine Oq Va (KS ?_)
 refine Oq Vm (Oq (Vlen sl70) (Oq Vm (KS ?_)))
 refine Kl (γ := Nat × Int) (fun (r2, v8_3) => ⟨[(0, vl sa0 sk0 s), (1, .func (.func fF) #[] fC.toArray), (7, vi (s.length : Int)), (8, vi v8_3)], [S sa0 sk0 s, pAll fA], sc_IndexFunc_edge_L0 s fp r2 v8_3 = sc_IndexFunc_edge_L0 s fp (((s.length : Int) - 0).toNat) 0 ∧ r2 = ((s.length : Int) - v8_3).toNat ∧ (0 : Int) ≤ v8_3 ∧ v8_3 ≤ (s.length : Int) ∧ (-9223372036854775808 ≤ v8_3 ∧ v8_3 ≤ 9223372036854775807), r2⟩) (((s.length : Int) - 0).toNat, 0) [0, 1] ⟨rfl, rfl, aM1, aM1, aM1⟩ ?_
 rintro ⟨r2, v8_3⟩ ⟨hM4, hr5, hi6, hi7, hk8⟩
 refine JJ_nx fun _ _ hL hA => ?_; dsimp only at hL hA; subst hL hA
 refine Fb 32 0 fun _ => KS ?_
 refine Oq Vlss (KS ?_)
 refine Kc ?_ ?_
 ·intro h10
  have g11 := dt h10
  obtain ⟨r12, rfl⟩ := scc (n := r2) aM1
  refine KS ?_
  refine Oq Vm (Oq Va (KS ?_))
  refine Oq Vm (Oq Vm (Oq Vm (Oq (Vi sl70 0) ?_)))
  refine JJ_peek_Gedge v8_3.toNat 0 rfl rng ?_
  refine Oq (VldA sh73 0) ?_
  refine JO_call [2] rfl rfl rfl (OpC.clo (asv := [(.agg #[cxv ((s.getD v8_3.toNat default).from_), cxv ((s.getD v8_3.toNat default).to_)] : Value)] ++ fC) rfl rfl hfc rfl (by simp)) (hfF (s.getD v8_3.toNat default) (getD_mem rng)  ) rfl fun _ _ => ?_
  refine KS ?_
  refine Kc ?_ ?_
  ·intro h13
   refine KS ?_
   refine Oq Vm (Oq Va (KS ?_))
   have hR15 := q2 hM4 (.ret v8_3) (by simp only [sc_IndexFunc_edge_L0, h10, h13, cs4])
   have hq := q4 hrr v8_3 (by simp only [sc_IndexFunc_edge, h10, h13, hR15, cs4]); subst hq
   exact Kr () rfl (.tmp rfl .nil) [] en
  intro h13
  refine KS ?_
  refine Oq Vadd (Oq Vm (KS ?_))
  exact Kg (r12, (v8_3 + 1)) [1, 2] ⟨(q3 hM4 (by simp only [sc_IndexFunc_edge_L0, h10, h13, cs4])), aM1, aM1, aM1, aM1⟩
 intro h10
 have g17 := df h10
 obtain rfl : r2 = 0 := by omega
 refine Ke ?_
 have hR18 := q2 hM4 (.brk ()) (by simp only [sc_IndexFunc_edge_L0, h10, cs4])
 refine KS ?_
 refine Oq Va (KS ?_)
 have hq := q4 hrr (-1) (by simp only [sc_IndexFunc_edge, h10, hR18, cs4]); subst hq
 exact Kr () rfl (.tmp rfl .nil) [] en
theorem fn32 (s : List Gedge) (sa0 : Option Addr) (sk0 : Nat) (delF : FuncId) (delC : List Value) (delp : Gedge → Bool) (delA : List SP) (hdelc : callable Tryz.prog delF = true) (hdelF : ∀ x ∈ s, FT Tryz.prog delF ([(.agg #[cxv x.from_, cxv x.to_] : Value)] ++ delC).toArray ([] ++ [pAll delA]) (fun _ : Unit => True) (fun _ => .bool (delp x)) (fun _ => [])) (rr : List Gedge) (hrr : sc_DeleteFunc_edge s delp = rr) : FT Tryz.prog 32 #[vl sa0 sk0 s, .func (.func delF) #[] delC.toArray] [O sa0 sk0 s, pAll delA] (fun g : Value => (rr.length ≤ s.length)) (fun g => g) (fun g => [sl g rr]) := by
 refine FTi Tryz.func32 fun w0 M0 F0 => Fb 32 0 fun _ => ?_
 refine KS ?_
 refine Oq Va (KS ?_)
 refine Oq Vm (Oq Vm ?_)
 refine letv (sc_IndexFunc_edge s delp) fun rv2 hg3 => ?_
 refine Oc [0, 0] ca49 (FT_borrow (A := _) (fun _ _ h => by cases h) (FT_ent (Ent.take (is := [0, 1]) rfl) (fn49 s sa0 sk0 delF delC delp delA hdelc hdelF rv2 hg3))) ?_ (ht := rfl)
 rintro - ⟨he4, he5⟩
 unfold i64ok at he4
 refine Oq Va (KS ?_)
 refine Oq Vm (Oq Veql (KS ?_))
 refine Kc ?_ ?_
 ·intro h6
  have g7 := eq_of_beq h6
  refine KS ?_
  refine Oq Vm (Oq Va (KS ?_))
  refine Jl [0] (Ent.freeze _ _) ?_
  have hq := q4 hrr s (by simp only [sc_DeleteFunc_edge, h6, hg3, cs4]); subst hq
  exact Kr (vl sa0 sk0 s) rfl (.tmp rfl .nil) [0] en
 intro h6
 have g8 := ne_of_beq_false h6
 refine KS ?_
 refine Oq Vm (Oq Vadd (Oq Va (KS ?_)))
 refine Kl (γ := Nat × List Gedge × Int × Int) (fun (r9, s_10, i_11, j_12) => ⟨[(0, vl sa0 sk0 s), (1, .func (.func delF) #[] delC.toArray), (5, vi i_11), (6, vi j_12)], [os (vl sa0 sk0 s) s_10, pAll delA], sc_DeleteFunc_edge_L0 delp r9 s_10 i_11 j_12 = sc_DeleteFunc_edge_L0 delp (((s.length : Int) - (rv2 + 1)).toNat) s rv2 (rv2 + 1) ∧ r9 = ((s.length : Int) - j_12).toNat ∧ ((rv2 + 1) : Int) ≤ j_12 ∧ (j_12 ≤ (s.length : Int) ∨ j_12 = (rv2 + 1)) ∧ (-9223372036854775808 ≤ i_11 ∧ i_11 ≤ 9223372036854775807) ∧ (-9223372036854775808 ≤ j_12 ∧ j_12 ≤ 9223372036854775807) ∧ (∀ x ∈ s_10, x ∈ s) ∧ (0 ≤ i_11 ∧ i_11 < j_12) ∧ (s_10.length = s.length), r9⟩) (((s.length : Int) - (rv2 + 1)).toNat, s, rv2, (rv2 + 1)) [0, 0] ⟨rfl, rfl, aM1, (.inr rfl), aM1, aM1, (fun x h => h), iv0, iv0⟩ ?_
 rintro ⟨r9, s_10, i_11, j_12⟩ ⟨hM13, hr14, hi15, hi16, hk17, hk18, hv19, hv20, hv21⟩
 refine JJ_nx fun _ _ hL hA => ?_; dsimp only at hL hA; subst hL hA
 refine Fb 32 0 fun _ => Fl 0 fun hn23 => ?_
 refine KS ?_
 refine Oq Vm (Oq Vm (Oq (Vlen sl70) (Oq Vlss (KS ?_))))
 refine Kc ?_ ?_
 ·intro h24
  have g25 := dt h24
  obtain ⟨r26, rfl⟩ := scc (n := r9) aM1
  refine KS ?_
  refine Oq Vm (Oq Vm (Oq (Vi sl70 0) ?_))
  refine JJ_peekO_Gedge j_12.toNat 0 rfl rng ?_
  refine Oq (VldA sh73 0) (Oa (Al ze73 [cxv (Cpx.mk 0#64 0#64), cxv (Cpx.mk 0#64 0#64)]) fun p27 => Ost (Scl [0] sh73 [cxv ((s_10.getD j_12.toNat default).from_), cxv ((s_10.getD j_12.toNat default).to_)]) (KS ?_))
  refine Oq Vm (Oq (VldA sh73 0) ?_)
  refine JO_call [2] rfl rfl rfl (OpC.clo (asv := [(.agg #[cxv ((s_10.getD j_12.toNat default).from_), cxv ((s_10.getD j_12.toNat default).to_)] : Value)] ++ delC) rfl rfl hdelc rfl (by simp)) (hdelF (s_10.getD j_12.toNat default) ((by assumption : ∀ x ∈ _, x ∈ s) _ (getD_mem rng))  ) rfl fun _ _ => ?_
  refine Oq Vnot (KS ?_)
  refine Kc ?_ ?_
  ·intro h28
   have h30 := not_true h28
   refine KS ?_
   refine Oq Vm (Oq Vm (Oq (VldA sh73 0) (Oq (Vi sl70 1) ?_)))
   refine Jl [1] (Ent.oread _ _ _ _) ?_
   refine Ost (So (Rs := []) [0] sh73 (s_10.getD j_12.toNat default) (fun h => ⟨rfl, trivial⟩)) (KS ?_)
   refine Oq Vm (Oq Vadd (Oq Va (KS ?_)))
   refine Oq Vm (Oq Vadd (Oq Va (KS ?_)))
   exact Kg (r26, (s_10.set i_11.toNat (s_10.getD j_12.toNat default)), (i_11 + 1), (j_12 + 1)) [0, 1] ⟨(q3 hM13 (by simp only [sc_DeleteFunc_edge_L0, h24, h28, h30, cs4])), aM1, aM1, aM1, aM1, aM1, (by first | assumption | exact fun x h => (List.mem_or_eq_of_mem_set h).elim ((by assumption : ∀ x ∈ _, x ∈ s) x) (fun e => e ▸ (by assumption : ∀ x ∈ _, x ∈ s) _ (getD_mem rng))), iv1, iv1⟩
  intro h28
  have h33 := not_false h28
  refine KS ?_
  refine Oq Vm (Oq Vadd (Oq Va (KS ?_)))
  refine Jl [1] (Ent.oread _ _ _ _) ?_
  exact Kg (r26, s_10, i_11, (j_12 + 1)) [0, 1] ⟨(q3 hM13 (by simp only [sc_DeleteFunc_edge_L0, h24, h28, h33, cs4])), aM1, aM1, aM1, aM1, aM1, (by first | assumption | exact fun x h => (List.mem_or_eq_of_mem_set h).elim ((by assumption : ∀ x ∈ _, x ∈ s) x) (fun e => e ▸ (by assumption : ∀ x ∈ _, x ∈ s) _ (getD_mem rng))), iv1, iv1⟩
 intro h24
 have g35 := df h24
 obtain rfl : r9 = 0 := by omega
 refine Ke ?_
 have hR36 := q2 hM13 (s_10, i_11) (by simp only [sc_DeleteFunc_edge_L0, h24, cs4])
 refine KS ?_
 refine Oq Vm (Oq Vm (Oq (VslA sl70 0 (i_11.toNat)) ?_))
 refine Oan (OpA.frame [0] rfl (OpA.clearR (α := Gedge) (z := (Gedge.mk (Cpx.mk 0#64 0#64) (Cpx.mk 0#64 0#64))) sl70 (zv := .agg #[cxv (Cpx.mk 0#64 0#64), cxv (Cpx.mk 0#64 0#64)]) ze73 (fun _ _ => ⟨rfl, trivial⟩) (i_11.toNat) rfl rfl aM1)) fun _ => ?_
 have hn37 : ((s_10.take (i_11.toNat)) ++ (List.replicate (s.length - i_11.toNat) (Gedge.mk (Cpx.mk 0#64 0#64) (Cpx.mk 0#64 0#64)))).length = s_10.length := by simp only [List.length_append, List.length_take, List.length_replicate]; omega
 refine KS ?_
 refine Oq Vm (Oq Vm (Oa (AslO [0] sl70 0 (i_11.toNat)) fun c38 => ?_))
 refine Jo 0 ?_; rintro a39 k40 rfl
 refine Fb 32 0 fun _ => ?_
 have hn42 : ((((s_10.take (i_11.toNat)) ++ (List.replicate (s.length - i_11.toNat) (Gedge.mk (Cpx.mk 0#64 0#64) (Cpx.mk 0#64 0#64)))).take (i_11.toNat)).drop 0).length = (i_11.toNat) - 0 := len_slice rng rng
 refine Oq Va (KS ?_)
 refine Jl [0] (Ent.freeze _ _) ?_
 have hq := q4 hrr ((((s_10.take (i_11.toNat)) ++ (List.replicate (s.length - i_11.toNat) (Gedge.mk (Cpx.mk 0#64 0#64) (Cpx.mk 0#64 0#64)))).take (i_11.toNat)).drop 0) (by simp only [sc_DeleteFunc_edge, h6, h24, hg3, hR36, cs4]); subst hq
 exact Kr (.slice a39 (((((s_10.take (i_11.toNat)) ++ (List.replicate (s.length - i_11.toNat) (Gedge.mk (Cpx.mk 0#64 0#64) (Cpx.mk 0#64 0#64)))).take (i_11.toNat)).drop 0).length) k40) rfl (.tmp rfl .nil) [0] en
theorem fn38 (x : Flo) (rr : Flo) (hrr : math_Abs x = rr) : FT Tryz.prog 38 #[flo x] [] (fun g : Unit => True) (fun g => flo rr) (fun g => []) := by
 refine FTi Tryz.func38 fun w0 M0 F0 => ?_
 refine KS ?_
 refine Oq Va (KS ?_)
 refine Oq Vm (Oq (VfB (a := x) fx55) (Oq (VandNotU (b := 9223372036854775808#64)) (Oq (VfF (a := ((x.b) &&& ~~~(9223372036854775808#64))) fx54) (Oq Va (KS ?_)))))
 have hq := q4 hrr (Flo.mk ((x.b) &&& ~~~(9223372036854775808#64))) (by simp only [math_Abs, cs4]); subst hq
 exact Kr () rfl (.tmp rfl .nil) [] trivial
theorem fn57 (x : Flo) (ht0 : ftruncok x = true) (rr : Flo) (hrr : math_Trunc x = rr) : FT Tryz.prog 57 #[flo x] [] (fun g : Unit => True) (fun g => flo rr) (fun g => []) := by
 refine FTi Tryz.func57 fun w0 M0 F0 => ?_
 refine KS ?_
 refine Oq Va (KS ?_)
 refine Kt (KS ?_)
 refine Oq Vm (Oq (VfT (a := x) fx70) (Oq Va (KS ?_)))
 have hq := q4 hrr (ftrunc x) (by simp only [math_Trunc, cs4]); subst hq
 exact Kr () rfl (.tmp rfl .nil) [] trivial
theorem fn56 (x : Flo) (rr : Bool) (hrr : layout_whole_1 x = rr) : FT Tryz.prog 56 #[flo x] [] (fun g : Unit => True) (fun g => vb rr) (fun g => []) := by
 refine FTi Tryz.func56 fun w0 M0 F0 => ?_
 refine KS ?_
 refine Oq Va (KS ?_)
 refine Oq Vm ?_
 refine letv (math_Abs x) fun rv1 hg2 => ?_
 have hc3 := fn38 x rv1 hg2
 refine Oc [] ca38 hc3 ?_
 rintro - -
 refine Oq (VleF (a := rv1) (b := (Flo.mk 4652218415073722368#64))) (Oq Vm ?_)
 refine Js 6 ?_ ?_
 ·intro h4
  refine Oq Vm (Oq Vm ?_)
  refine letv (math_Trunc x) fun rv6 hg7 => ?_
  have hc8 := fn57 x (Abs_trok (by assumption) (by assumption)) rv6 hg7
  refine Oc [] ca57 hc8 ?_
  rintro - -
  refine Oq (VeqF (a := x) (b := rv6)) (Oq Vpt (Oq Va (KS ?_)))
  have hq := q4 hrr (feq x rv6) (by simp only [layout_whole_1, h4, hg2, hg7, cs4]); subst hq
  exact Kr () rfl (.tmp rfl .nil) [] trivial
 intro h4
 refine Osk (Osk (Osk (Osk (Oq Vpf (Oq Va (KS ?_))))))
 have hq := q4 hrr false (by simp only [layout_whole_1, h4, hg2, cs4]); subst hq
 exact Kr () rfl (.tmp rfl .nil) [] trivial
theorem fn59m0 (p : Cpx) (cap0P : Value) (rr : Bool) (hrr : layout_whole_2_whole_1 p = rr) : FT Tryz.prog 59 #[cxv p, cap0P] [pv cap0P [.func (.func 56) #[] #[]]] (fun g : Unit => True) (fun g => vb rr) (fun g => []) := by
 refine FTi Tryz.func59 fun w0 M0 F0 => ?_
 refine KS ?_
 refine Oq Va (KS ?_)
 refine Oq (Vld sh100 0) (Oq Vm (Oq (Vre (a := p)) ?_))
 refine letv (layout_whole_1 (Flo.mk p.re)) fun rv1 hg2 => ?_
 have hc3 := fn56 ((Flo.mk p.re)) rv1 hg2
 refine JO_call [] rfl rfl rfl (OpC.clo (asv := [(flo (Flo.mk p.re) : Value)]) rfl rfl ca56 rfl (by simp)) hc3 rfl ?_
 rintro - -
 refine Oq Vnot (Oq Vm ?_)
 refine Js 9 ?_ ?_
 ·intro h4
  have h6 := not_true h4
  refine Osk (Osk (Osk (Osk (Osk (Oq Vpt (Oq Va (KS ?_)))))))
  have hq := q4 hrr true (by simp only [layout_whole_2_whole_1, h4, h6, hg2, cs4]); subst hq
  exact Kr () rfl (.tmp rfl .nil) [] trivial
 intro h4
 have h9 := not_false h4
 refine Oq (Vld sh100 0) (Oq Vm (Oq (Vim (a := p)) ?_))
 refine letv (layout_whole_1 (Flo.mk p.im)) fun rv11 hg12 => ?_
 have hc13 := fn56 ((Flo.mk p.im)) rv11 hg12
 refine Ogo (gt rfl rfl rfl rfl) ?_
 refine JO_call [] rfl rfl rfl (OpC.clo (asv := [(flo (Flo.mk p.im) : Value)]) rfl rfl ca56 rfl (by simp)) hc13 rfl ?_
 rintro - -
 refine Oq Vnot (Oq Vpf (Oq Va (KS ?_)))
 have hq := q4 hrr (!rv11) (by simp only [layout_whole_2_whole_1, h4, h9, hg2, hg12, cs4]); subst hq
 exact Kr () rfl (.tmp rfl .nil) [] trivial
theorem fn72m0 (s : List Cpx) (sa0 : Option Addr) (sk0 : Nat) (st0P : Value) (rr : Int) (hrr : sc_IndexFunc_complex128_whole_2 s = rr) : FT Tryz.prog 72 #[vl sa0 sk0 s, .func (.func 59) #[] #[st0P]] [S sa0 sk0 s, pv st0P [.func (.func 56) #[] #[]]] (fun g : Unit => i64ok rr) (fun g => vi rr) (fun g => []) := by
 refine FTi Tryz.func72 fun w0 M0 F0 => Fb 16 0 fun _ => ?_
 refine KS ?_
 refine Oq Va (KS ?_)
 refine Oq Vm (Oq (Vlen sl49) (Oq Vm (KS ?_)))
 refine Kl (γ := Nat × Int) (fun (r2, v8_3) => ⟨[(0, vl sa0 sk0 s), (1, .func (.func 59) #[] #[st0P]), (7, vi (s.length : Int)), (8, vi v8_3)], [S sa0 sk0 s, pv st0P [.func (.func 56) #[] #[]]], sc_IndexFunc_complex128_whole_2_L0 s r2 v8_3 = sc_IndexFunc_complex128_whole_2_L0 s (((s.length : Int) - 0).toNat) 0 ∧ r2 = ((s.length : Int) - v8_3).toNat ∧ (0 : Int) ≤ v8_3 ∧ v8_3 ≤ (s.length : Int) ∧ (-9223372036854775808 ≤ v8_3 ∧ v8_3 ≤ 9223372036854775807), r2⟩) (((s.length : Int) - 0).toNat, 0) [0, 1] ⟨rfl, rfl, aM1, aM1, aM1⟩ ?_
 rintro ⟨r2, v8_3⟩ ⟨hM4, hr5, hi6, hi7, hk8⟩
 refine JJ_nx fun _ _ hL hA => ?_; dsimp only at hL hA; subst hL hA
 refine Fb 16 0 fun _ => KS ?_
 refine Oq Vlss (KS ?_)
 refine Kc ?_ ?_
 ·intro h10
  have g11 := dt h10
  obtain ⟨r12, rfl⟩ := scc (n := r2) aM1
  refine KS ?_
  refine Oq Vm (Oq Va (KS ?_))
  refine Oq Vm (Oq Vm (Oq Vm (Oq (Vi sl49 0) (Oq (VldCx sh63 0) ?_))))
  refine letv (layout_whole_2_whole_1 (s.getD v8_3.toNat default)) fun rv13 hg14 => ?_
  have hc15 := fn59m0 ((s.getD v8_3.toNat default)) st0P rv13 hg14
  refine JO_call [1] rfl rfl rfl (OpC.clo (asv := [(cxv (s.getD v8_3.toNat default) : Value), (st0P : Value)]) rfl rfl ca59 rfl (by simp)) hc15 rfl ?_
  rintro - -
  refine KS ?_
  refine Kc ?_ ?_
  ·intro h16
   refine KS ?_
   refine Oq Vm (Oq Va (KS ?_))
   have hR18 := q2 hM4 (.ret v8_3) (by simp only [sc_IndexFunc_complex128_whole_2_L0, h10, h16, hg14, cs4])
   have hq := q4 hrr v8_3 (by simp only [sc_IndexFunc_complex128_whole_2, h10, h16, hg14, hR18, cs4]); subst hq
   exact Kr () rfl (.tmp rfl .nil) [] en
  intro h16
  refine KS ?_
  refine Oq Vadd (Oq Vm (KS ?_))
  exact Kg (r12, (v8_3 + 1)) [0, 1] ⟨(q3 hM4 (by simp only [sc_IndexFunc_complex128_whole_2_L0, h10, h16, hg14, cs4])), aM1, aM1, aM1, aM1⟩
 intro h10
 have g20 := df h10
 obtain rfl : r2 = 0 := by omega
 refine Ke ?_
 have hR21 := q2 hM4 (.brk ()) (by simp only [sc_IndexFunc_complex128_whole_2_L0, h10, cs4])
 refine KS ?_
 refine Oq Va (KS ?_)
 have hq := q4 hrr (-1) (by simp only [sc_IndexFunc_complex128_whole_2, h10, hR21, cs4]); subst hq
 exact Kr () rfl (.tmp rfl .nil) [] en
theorem fn58m0 (s : List Cpx) (sa0 : Option Addr) (sk0 : Nat) (st0P : Value) (rr : Bool) (hrr : sc_ContainsFunc_complex128_whole_2 s = rr) : FT Tryz.prog 58 #[vl sa0 sk0 s, .func (.func 59) #[] #[st0P]] [S sa0 sk0 s, pv st0P [.func (.func 56) #[] #[]]] (fun g : Unit => True) (fun g => vb rr) (fun g => []) := by
 refine FTi Tryz.func58 fun w0 M0 F0 => Fb 16 0 fun _ => ?_
 refine KS ?_
 refine Oq Va (KS ?_)
 refine Oq Vm (Oq Vm ?_)
 refine letv (sc_IndexFunc_complex128_whole_2 s) fun rv2 hg3 => ?_
 have hc4 := fn72m0 s sa0 sk0 st0P rv2 hg3
 refine Oc [0, 1] ca72 hc4 ?_
 rintro - he5
 unfold i64ok at he5
 refine Oq Vgeq (Oq Va (KS ?_))
 have hq := q4 hrr (decide (0 ≤ rv2)) (by simp only [sc_ContainsFunc_complex128_whole_2, hg3, cs4]); subst hq
 exact Kr () rfl (.tmp rfl .nil) [] trivial
theorem fn40 (at_ : List Cpx) (at_a0 : Option Addr) (at_k0 : Nat) (rr : Bool) (hrr : layout_whole at_ = rr) : FT Tryz.prog 40 #[vl at_a0 at_k0 at_] [S at_a0 at_k0 at_] (fun g : Unit => True) (fun g => vb rr) (fun g => []) := by
 refine FTi Tryz.func40 fun w0 M0 F0 => Fb 16 0 fun _ => ?_
 refine KS ?_
 refine Oq Va (KS ?_)
 refine Oa (Al ze100 [.nilFunc]) fun p2 => Ost (Scl [0] sh100 [.func (.func 56) #[] #[]]) (KS ?_)
 refine Oq Vm (Oq (Vf [p2]) ?_)
 refine Jl [0] (Ent.freezeCl _ _) ?_
 refine letv (sc_ContainsFunc_complex128_whole_2 at_) fun rv3 hg4 => ?_
 have hc5 := fn58m0 at_ at_a0 at_k0 p2 rv3 hg4
 refine Oc [1, 0] ca58 hc5 ?_
 rintro - -
 refine Oq Vnot (Oq Va (KS ?_))
 have hq := q4 hrr (!rv3) (by simp only [layout_whole, hg4, cs4]); subst hq
 exact Kr () rfl (.tmp rfl .nil) [] trivial
theorem fn81 (l : List Int) (la0 : Option Addr) (lk0 : Nat) (n : Int) (hn_0 : i64ok n) (rr : Bool) (hrr : gh_ascending l n = rr) : FT Tryz.prog 81 #[vl la0 lk0 l, vi n] [S la0 lk0 l] (fun g : Unit => True) (fun g => vb rr) (fun g => []) := by
 refine FTi Tryz.func81 fun w0 M0 F0 => ?_
 unfold i64ok at hn_0
 refine Fb 8 0 fun _ => Fo 0 fun ho2 => KS ?_
 refine Oq Va (KS ?_)
 refine Oq Vm (Oq (Vlen sl22) (Oq Vm (KS ?_)))
 refine Kl (γ := Nat × Int) (fun (r3, v9_4) => ⟨[(0, vl la0 lk0 l), (1, vi n), (7, vl la0 lk0 l), (8, vi (l.length : Int)), (9, vi v9_4)], [S la0 lk0 l], gh_ascending_L0 l n r3 v9_4 = gh_ascending_L0 l n (((l.length : Int) - 0).toNat) 0 ∧ r3 = ((l.length : Int) - v9_4).toNat ∧ (0 : Int) ≤ v9_4 ∧ v9_4 ≤ (l.length : Int) ∧ (-9223372036854775808 ≤ v9_4 ∧ v9_4 ≤ 9223372036854775807), r3⟩) (((l.length : Int) - 0).toNat, 0) [0] ⟨rfl, rfl, aM1, aM1, aM1⟩ ?_
 rintro ⟨r3, v9_4⟩ ⟨hM5, hr6, hi7, hi8, hk9⟩
 refine JJ_nx fun _ _ hL hA => ?_; dsimp only at hL hA; subst hL hA
 refine Fb 8 0 fun _ => Fo 0 fun ho11 => KS ?_
 refine Oq Vlss (KS ?_)
 refine Kc ?_ ?_
 ·intro h12
  have g13 := dt h12
  obtain ⟨r14, rfl⟩ := scc (n := r3) aM1
  refine KS ?_
  refine Oq Vm (Oq (Vi sl22 0) ?_)
  have hb15 := ok1 (i := v9_4.toNat) ho11 rng
  refine Oq (VldI sh3 0) (Oq Va (Oq Va (KS ?_)))
  refine Oq Vm (Oq Vlss (Oq Vm ?_))
  refine Js 16 ?_ ?_
  ·intro h16
   have g17 := dt h16
   refine Osk (Osk (Osk (Oq Vpt (Oq Vm (Osk (Osk (Osk (Osk (Osk ?_)))))))))
   refine Osk (Osk (Osk (Osk (Osk (Osk (Oq Vpt (KS ?_)))))))
   refine Kt (KS ?_)
   refine Oq Va (KS ?_)
   have hR18 := q2 hM5 (.ret false) (by simp only [gh_ascending_L0, h12, h16, cs4])
   have hq := q4 hrr false (by simp only [gh_ascending, h12, h16, hR18, cs4]); subst hq
   exact Kr () rfl (.tmp rfl .nil) [] trivial
  intro h16
  have g19 := df h16
  refine Oq Vm (Oq Vm (Oq Vgeq (Oq Vpf (Oq Vm ?_))))
  refine Js 21 ?_ ?_
  ·intro h20
   have g21 := dt h20
   refine Osk (Osk (Osk (Osk (Osk (Osk (Osk (Osk (Osk (Osk ?_)))))))))
   refine Osk (Oq Vpt (KS ?_))
   refine Kt (KS ?_)
   refine Oq Va (KS ?_)
   have hR22 := q2 hM5 (.ret false) (by simp only [gh_ascending_L0, h12, h16, h20, cs4])
   have hq := q4 hrr false (by simp only [gh_ascending, h12, h16, h20, hR22, cs4]); subst hq
   exact Kr () rfl (.tmp rfl .nil) [] trivial
  intro h20
  have g23 := df h20
  refine Oq Vm (Oq Vgtr (Oq Vm ?_))
  refine Js 24 ?_ ?_
  ·intro h24
   have g25 := dt h24
   refine Oq Vm (Oq Vm (Oq Vm (Oq Vsub (Oq (Vi sl22 0) ?_))))
   have hb26 := ok1 (i := ((v9_4 - 1) : Int).toNat) ho11 rng
   refine Oq (VldI sh3 0) (Oq Vleq (Oq Vpt (Oq Vpf (KS ?_))))
   refine Kc ?_ ?_
   ·intro h27
    have g28 := dt h27
    refine KS ?_
    refine Oq Va (KS ?_)
    have hR29 := q2 hM5 (.ret false) (by simp only [gh_ascending_L0, h12, h16, h20, h24, h27, cs4])
    have hq := q4 hrr false (by simp only [gh_ascending, h12, h16, h20, h24, h27, hR29, cs4]); subst hq
    exact Kr () rfl (.tmp rfl .nil) [] trivial
   intro h27
   have g30 := df h27
   refine KS ?_
   refine Oq Vadd (Oq Vm (KS ?_))
   exact Kg (r14, (v9_4 + 1)) [0] ⟨(q3 hM5 (by simp only [gh_ascending_L0, h12, h16, h20, h24, h27, cs4])), aM1, aM1, aM1, aM1⟩
  intro h24
  have g31 := df h24
  refine Osk (Osk (Osk (Osk (Osk (Osk (Osk (Oq Vpf (Oq Vpf (KS ?_)))))))))
  refine Kf (KS ?_)
  refine Oq Vadd (Oq Vm (KS ?_))
  exact Kg (r14, (v9_4 + 1)) [0] ⟨(q3 hM5 (by simp only [gh_ascending_L0, h12, h16, h20, h24, cs4])), aM1, aM1, aM1, aM1⟩
 intro h12
 have g32 := df h12
 obtain rfl : r3 = 0 := by omega
 refine Ke ?_
 have hR33 := q2 hM5 (.brk ()) (by simp only [gh_ascending_L0, h12, cs4])
 refine KS ?_
 refine Oq Va (KS ?_)
 have hq := q4 hrr true (by simp only [gh_ascending, h12, hR33, cs4]); subst hq
 exact Kr () rfl (.tmp rfl .nil) [] trivial
theorem fn68 (l : List (List Int)) (la0 : Option Addr) (lk0 : Nat) (rr : Int) (hrr : gh_count l = rr) : FT Tryz.prog 68 #[vl la0 lk0 l] [S la0 lk0 l] (fun g : Unit => i64ok rr ∧ (-1 ≤ rr ∧ rr ≤ 1024)) (fun g => vi rr) (fun g => []) := by
 refine FTi Tryz.func68 fun w0 M0 F0 => Fb 24 0 fun _ => ?_
 refine KS ?_
 refine Oq Va (KS ?_)
 refine Oq Va (KS ?_)
 refine Oq Vm (Oq (Vlen sl26) (Oq Vm (KS ?_)))
 refine Kl (γ := Nat × Int × Int) (fun (r2, edges_3, v8_4) => ⟨[(0, vl la0 lk0 l), (3, vi edges_3), (6, vl la0 lk0 l), (7, vi (l.length : Int)), (8, vi v8_4)], [S la0 lk0 l], gh_count_L0 l r2 edges_3 v8_4 = gh_count_L0 l (((l.length : Int) - 0).toNat) 0 0 ∧ r2 = ((l.length : Int) - v8_4).toNat ∧ (0 : Int) ≤ v8_4 ∧ v8_4 ≤ (l.length : Int) ∧ (-9223372036854775808 ≤ edges_3 ∧ edges_3 ≤ 9223372036854775807) ∧ (-9223372036854775808 ≤ v8_4 ∧ v8_4 ≤ 9223372036854775807) ∧ (0 ≤ edges_3 ∧ edges_3 ≤ 1024), r2⟩) (((l.length : Int) - 0).toNat, 0, 0) [0] ⟨rfl, rfl, aM1, aM1, aM1, aM1, iv0⟩ ?_
 rintro ⟨r2, edges_3, v8_4⟩ ⟨hM5, hr6, hi7, hi8, hk9, hk10, hv11⟩
 refine JJ_nx fun _ _ hL hA => ?_; dsimp only at hL hA; subst hL hA
 refine Fb 24 0 fun _ => KS ?_
 refine Oq Vlss (KS ?_)
 refine Kc ?_ ?_
 ·intro h13
  have g14 := dt h13
  obtain ⟨r15, rfl⟩ := scc (n := r2) aM1
  refine KS ?_
  refine Oq (Vi sl26 0) ?_
  refine JJ_peekL v8_4.toNat 0 rfl rng fun a16 k17 => ?_
  refine Fb 8 1 fun _ => Fo 1 fun ho19 => ?_
  refine Oq (Vld sh22 0) (Oq Va (KS ?_))
  refine Oq Vm (Oq Vm (Oq (Vlen sl22) (Oq Vadd (Oq Va (KS ?_)))))
  refine Oq Vm (Oq Vgtr (Oq Vm ?_))
  refine Js 18 ?_ ?_
  ·intro h20
   have g21 := dt h20
   refine Osk (Osk (Osk (Osk (Osk (Oq Vpt (KS ?_))))))
   refine Kt (KS ?_)
   refine Oq Va (KS ?_)
   have hR22 := q2 hM5 (.ret (-1)) (by simp only [gh_count_L0, h13, h20, cs4])
   have hq := q4 hrr (-1) (by simp only [gh_count, h13, h20, hR22, cs4]); subst hq
   exact Kr () rfl (.tmp rfl .nil) [] en
  intro h20
  have g23 := df h20
  refine Oq Vm (Oq Vm (Oq (Vlen sl26) ?_))
  refine letv (gh_ascending (l.getD v8_4.toNat []) (l.length : Int)) fun rv24 hg25 => ?_
  have hc26 := fn81 ((l.getD v8_4.toNat [])) a16 k17 ((l.length : Int)) pre rv24 hg25
  refine Oc [1] ca81 hc26 ?_
  rintro - -
  refine Oq Vnot (Oq Vpf (KS ?_))
  refine Kc ?_ ?_
  ·intro h27
   have h29 := not_true h27
   refine KS ?_
   refine Oq Va (KS ?_)
   have hR31 := q2 hM5 (.ret (-1)) (by simp only [gh_count_L0, h13, h20, h27, h29, hg25, cs4])
   have hq := q4 hrr (-1) (by simp only [gh_count, h13, h20, h27, h29, hg25, hR31, cs4]); subst hq
   exact Kr () rfl (.tmp rfl .nil) [] en
  intro h27
  have h33 := not_false h27
  refine KS ?_
  refine Oq Vadd (Oq Vm (KS ?_))
  exact Kg (r15, (edges_3 + ((l.getD v8_4.toNat []).length : Int)), (v8_4 + 1)) [2] ⟨(q3 hM5 (by simp only [gh_count_L0, h13, h20, h27, h33, hg25, cs4])), aM1, aM1, aM1, aM1, aM1, iv1⟩
 intro h13
 have g35 := df h13
 obtain rfl : r2 = 0 := by omega
 refine Ke ?_
 have hR36 := q2 hM5 (.brk edges_3) (by simp only [gh_count_L0, h13, cs4])
 refine KS ?_
 refine Oq Vm (Oq Va (KS ?_))
 have hq := q4 hrr edges_3 (by simp only [gh_count, h13, hR36, cs4]); subst hq
 exact Kr () rfl (.tmp rfl .nil) [] en
theorem fn82 (s : List Int) (sa0 : Option Addr) (sk0 : Nat) (v : Int) (hv_0 : i64ok v) (rr : Int) (hrr : sc_Index_int s v = rr) : FT Tryz.prog 82 #[vl sa0 sk0 s, vi v] [S sa0 sk0 s] (fun g : Unit => i64ok rr) (fun g => vi rr) (fun g => []) := by
 refine FTi Tryz.func82 fun w0 M0 F0 => ?_
 unfold i64ok at hv_0
 refine Fb 8 0 fun _ => Fo 0 fun ho2 => KS ?_
 refine Oq Va (KS ?_)
 refine Oq Vm (Oq (Vlen sl22) (Oq Vm (KS ?_)))
 refine Kl (γ := Nat × Int) (fun (r3, v8_4) => ⟨[(0, vl sa0 sk0 s), (1, vi v), (7, vi (s.length : Int)), (8, vi v8_4)], [S sa0 sk0 s], sc_Index_int_L0 s v r3 v8_4 = sc_Index_int_L0 s v (((s.length : Int) - 0).toNat) 0 ∧ r3 = ((s.length : Int) - v8_4).toNat ∧ (0 : Int) ≤ v8_4 ∧ v8_4 ≤ (s.length : Int) ∧ (-9223372036854775808 ≤ v8_4 ∧ v8_4 ≤ 9223372036854775807), r3⟩) (((s.length : Int) - 0).toNat, 0) [0] ⟨rfl, rfl, aM1, aM1, aM1⟩ ?_
 rintro ⟨r3, v8_4⟩ ⟨hM5, hr6, hi7, hi8, hk9⟩
 refine JJ_nx fun _ _ hL hA => ?_; dsimp only at hL hA; subst hL hA
 refine Fb 8 0 fun _ => Fo 0 fun ho11 => KS ?_
 refine Oq Vlss (KS ?_)
 refine Kc ?_ ?_
 ·intro h12
  have g13 := dt h12
  obtain ⟨r14, rfl⟩ := scc (n := r3) aM1
  refine KS ?_
  refine Oq Vm (Oq Va (KS ?_))
  refine Oq Vm (Oq Vm (Oq Vm (Oq (Vi sl22 0) ?_)))
  have hb15 := ok1 (i := v8_4.toNat) ho11 rng
  refine Oq (VldI sh3 0) (Oq Veql (KS ?_))
  refine Kc ?_ ?_
  ·intro h16
   have g17 := eq_of_beq h16
   refine KS ?_
   refine Oq Vm (Oq Va (KS ?_))
   have hR18 := q2 hM5 (.ret v8_4) (by simp only [sc_Index_int_L0, h12, h16, cs4])
   have hq := q4 hrr v8_4 (by simp only [sc_Index_int, h12, h16, hR18, cs4]); subst hq
   exact Kr () rfl (.tmp rfl .nil) [] en
  intro h16
  have g19 := ne_of_beq_false h16
  refine KS ?_
  refine Oq Vadd (Oq Vm (KS ?_))
  exact Kg (r14, (v8_4 + 1)) [0] ⟨(q3 hM5 (by simp only [sc_Index_int_L0, h12, h16, cs4])), aM1, aM1, aM1, aM1⟩
 intro h12
 have g20 := df h12
 obtain rfl : r3 = 0 := by omega
 refine Ke ?_
 have hR21 := q2 hM5 (.brk ()) (by simp only [sc_Index_int_L0, h12, cs4])
 refine KS ?_
 refine Oq Va (KS ?_)
 have hq := q4 hrr (-1) (by simp only [sc_Index_int, h12, hR21, cs4]); subst hq
 exact Kr () rfl (.tmp rfl .nil) [] en
theorem fn69 (s : List Int) (sa0 : Option Addr) (sk0 : Nat) (v : Int) (hv_0 : i64ok v) (rr : Bool) (hrr : sc_Contains_int s v = rr) : FT Tryz.prog 69 #[vl sa0 sk0 s, vi v] [S sa0 sk0 s] (fun g : Unit => True) (fun g => vb rr) (fun g => []) := by
 refine FTi Tryz.func69 fun w0 M0 F0 => ?_
 unfold i64ok at hv_0
 refine Fb 8 0 fun _ => Fo 0 fun ho2 => KS ?_
 refine Oq Va (KS ?_)
 refine Oq Vm (Oq Vm ?_)
 refine letv (sc_Index_int s v) fun rv3 hg4 => ?_
 have hc5 := fn82 s sa0 sk0 v pre rv3 hg4
 refine Oc [0] ca82 hc5 ?_
 rintro - he6
 unfold i64ok at he6
 refine Oq Vgeq (Oq Va (KS ?_))
 have hq := q4 hrr (decide (0 ≤ rv3)) (by simp only [sc_Contains_int, hg4, cs4]); subst hq
 exact Kr () rfl (.tmp rfl .nil) [] trivial
theorem fn50 (g : GGraph) (ga0 : Option Addr) (gk0 : Nat) (ga1 : Option Addr) (gk1 : Nat) (ga2 : Option Addr) (gk2 : Nat) (rr : Bool) (hrr : gh_Valid g = rr) : FT Tryz.prog 50 #[.agg #[vl ga0 gk0 g.Nodes, vl ga1 gk1 g.Succ, vl ga2 gk2 g.Pred]] [S ga0 gk0 g.Nodes, S ga1 gk1 g.Succ, S ga2 gk2 g.Pred] (fun g : Unit => True) (fun g => vb rr) (fun g => []) := by
 refine FTi Tryz.func50 fun w0 M0 F0 => Fb 32 0 fun _ => Fb 24 1 fun _ => Fb 24 2 fun _ => ?_
 refine KS ?_
 refine Oa (Ab [vl ga0 gk0 g.Nodes, vl ga1 gk1 g.Succ, vl ga2 gk2 g.Pred]) fun p4 => Oq Va (KS ?_)
 refine Oq (Vfa fo28_0 0) (Oq (VldF sh25 0) (Oq (Vlen sl25) (Oq Va (KS ?_))))
 refine Oq Vm (Oq Vlss (Oq Vm ?_))
 refine Js 14 ?_ ?_
 ·intro h5
  have g6 := dt h5
  refine Osk (Osk (Oq Vpt (Oq Vm (Osk (Osk (Osk (Osk (Osk (Oq Vpt ?_)))))))))
  refine Oq Vm (Osk (Osk (Osk (Osk (Osk (Oq Vpt (KS ?_)))))))
  refine Kt (KS ?_)
  refine Oq Va (KS ?_)
  have hq := q4 hrr false (by simp only [gh_Valid, h5, cs4]); subst hq
  exact Kr () rfl (.tmp rfl .nil) [] trivial
 intro h5
 have g7 := df h5
 refine Oq Vm (Oq Vgtr (Oq Vpf (Oq Vm ?_)))
 refine Js 18 ?_ ?_
 ·intro h8
  have g9 := dt h8
  refine Osk (Osk (Osk (Osk (Osk (Oq Vpt (Oq Vm (Osk (Osk (Osk ?_)))))))))
  refine Osk (Osk (Oq Vpt (KS ?_)))
  refine Kt (KS ?_)
  refine Oq Va (KS ?_)
  have hq := q4 hrr false (by simp only [gh_Valid, h5, h8, cs4]); subst hq
  exact Kr () rfl (.tmp rfl .nil) [] trivial
 intro h8
 have g10 := df h8
 refine Oq (Vfa fo28_1 0) (Oq (VldF sh26 0) (Oq (Vlen sl26) (Oq Vm (Oq Vneq (Oq Vpf (Oq Vm ?_))))))
 refine Js 25 ?_ ?_
 ·intro h11
  have g12 := ne_of_bne h11
  refine Osk (Osk (Osk (Osk (Osk (Oq Vpt (KS ?_))))))
  refine Kt (KS ?_)
  refine Oq Va (KS ?_)
  have hq := q4 hrr false (by simp only [gh_Valid, h5, h8, h11, cs4]); subst hq
  exact Kr () rfl (.tmp rfl .nil) [] trivial
 intro h11
 have g13 := eq_of_bne_false h11
 refine Oq (Vfa fo28_2 0) (Oq (VldF sh26 0) (Oq (Vlen sl26) (Oq Vm (Oq Vneq (Oq Vpf (KS ?_))))))
 refine Kc ?_ ?_
 ·intro h14
  have g15 := ne_of_bne h14
  refine KS ?_
  refine Oq Va (KS ?_)
  have hq := q4 hrr false (by simp only [gh_Valid, h5, h8, h11, h14, cs4]); subst hq
  exact Kr () rfl (.tmp rfl .nil) [] trivial
 intro h14
 have g16 := eq_of_bne_false h14
 refine KS ?_
 refine Oq (Vfa fo28_1 0) (Oq (VldF sh26 0) ?_)
 refine letv (gh_count g.Succ) fun rv17 hg18 => ?_
 have hc19 := fn68 g.Succ ga1 gk1 rv17 hg18
 refine Oc [2] ca68 hc19 ?_
 rintro - ⟨he20, he21⟩
 unfold i64ok at he20
 refine Oq Va (KS ?_)
 refine Oq Vm (Oq Vlss (Oq Vm ?_))
 refine Js 37 ?_ ?_
 ·intro h22
  have g23 := dt h22
  refine Osk (Osk (Osk (Osk (Osk (Oq Vpt (KS ?_))))))
  refine Kt (KS ?_)
  refine Oq Va (KS ?_)
  have hq := q4 hrr false (by simp only [gh_Valid, h5, h8, h11, h14, h22, hg18, cs4]); subst hq
  exact Kr () rfl (.tmp rfl .nil) [] trivial
 intro h22
 have g24 := df h22
 try have hct := count_rg (by assumption : gh_count g.Succ = _) h22
 refine Oq (Vfa fo28_2 0) (Oq (VldF sh26 0) ?_)
 refine letv (gh_count g.Pred) fun rv25 hg26 => ?_
 have hc27 := fn68 g.Pred ga2 gk2 rv25 hg26
 refine Oc [3] ca68 hc27 ?_
 rintro - ⟨he28, he29⟩
 unfold i64ok at he28
 refine Oq Vm (Oq Vneq (Oq Vpf (KS ?_)))
 refine Kc ?_ ?_
 ·intro h30
  have g31 := ne_of_bne h30
  refine KS ?_
  refine Oq Va (KS ?_)
  have hq := q4 hrr false (by simp only [gh_Valid, h5, h8, h11, h14, h22, h30, hg18, hg26, cs4]); subst hq
  exact Kr () rfl (.tmp rfl .nil) [] trivial
 intro h30
 have g32 := eq_of_bne_false h30
 refine KS ?_
 refine Oq (Vfa fo28_1 0) (Oq (VldF sh26 0) (Oq (Vlen sl26) (Oq Vm (KS ?_))))
 refine Kl (γ := Nat × Int) (fun (r33, v47_34) => ⟨[(1, p4), (45, vl ga1 gk1 g.Succ), (46, vi (g.Succ.length : Int)), (47, vi v47_34)], [pv p4 [vl ga0 gk0 g.Nodes, vl ga1 gk1 g.Succ, vl ga2 gk2 g.Pred], S ga0 gk0 g.Nodes, S ga1 gk1 g.Succ, S ga2 gk2 g.Pred], gh_Valid_L0 g r33 v47_34 = gh_Valid_L0 g (((g.Succ.length : Int) - 0).toNat) 0 ∧ r33 = ((g.Succ.length : Int) - v47_34).toNat ∧ (0 : Int) ≤ v47_34 ∧ v47_34 ≤ (g.Succ.length : Int) ∧ (-9223372036854775808 ≤ v47_34 ∧ v47_34 ≤ 9223372036854775807), r33⟩) (((g.Succ.length : Int) - 0).toNat, 0) [0, 1, 2, 3] ⟨rfl, rfl, aM1, aM1, aM1⟩ ?_
 rintro ⟨r33, v47_34⟩ ⟨hM35, hr36, hi37, hi38, hk39⟩
 refine JJ_nx fun _ _ hL hA => ?_; dsimp only at hL hA; subst hL hA
 refine Fb 32 1 fun _ => Fb 24 2 fun _ => Fb 24 3 fun _ => KS ?_
 refine Oq Vlss (KS ?_)
 refine Kc ?_ ?_
 ·intro h43
  have g44 := dt h43
  obtain ⟨r45, rfl⟩ := scc (n := r33) aM1
  refine KS ?_
  refine Oq Vm (Oq (Vi sl26 2) ?_)
  refine JJ_peekL v47_34.toNat 2 rfl rng fun a46 k47 => ?_
  refine Fb 8 1 fun _ => Fo 1 fun ho49 => ?_
  refine Oq (Vld sh22 0) (Oq Va (Oq Va (KS ?_)))
  refine Oq Vm (Oq (Vlen sl22) (Oq Vm (KS ?_)))
  refine Kl (γ := Nat × Int) (fun (r50, v54_51) => ⟨[(1, p4), (45, vl ga1 gk1 g.Succ), (46, vi (g.Succ.length : Int)), (47, vi v47_34), (5, vi v47_34), (52, vl a46 k47 (g.Succ.getD v47_34.toNat [])), (53, vi ((g.Succ.getD v47_34.toNat []).length : Int)), (54, vi v54_51)], [S a46 k47 ((g.Succ.getD v47_34.toNat []) : List Int), pv p4 [vl ga0 gk0 g.Nodes, vl ga1 gk1 g.Succ, vl ga2 gk2 g.Pred], S ga0 gk0 g.Nodes, S ga1 gk1 g.Succ, S ga2 gk2 g.Pred], gh_Valid_L1 g v47_34 (g.Succ.getD v47_34.toNat []) r50 v54_51 = gh_Valid_L1 g v47_34 (g.Succ.getD v47_34.toNat []) (((((g.Succ.getD v47_34.toNat []).length : Int) : Int) - 0).toNat) 0 ∧ r50 = ((((g.Succ.getD v47_34.toNat []).length : Int) : Int) - v54_51).toNat ∧ (0 : Int) ≤ v54_51 ∧ (v54_51 ≤ ((g.Succ.getD v47_34.toNat []).length : Int) ∨ v54_51 = 0) ∧ (-9223372036854775808 ≤ v54_51 ∧ v54_51 ≤ 9223372036854775807), r50⟩) (((((g.Succ.getD v47_34.toNat []).length : Int) : Int) - 0).toNat, 0) [1, 2, 3, 4, 5] ⟨rfl, rfl, aM1, (.inr rfl), aM1⟩ ?_
  rintro ⟨r50, v54_51⟩ ⟨hM52, hr53, hi54, hi55, hk56⟩
  refine JJ_nx fun _ _ hL hA => ?_; dsimp only at hL hA; subst hL hA
  refine Fb 8 0 fun _ => Fo 0 fun ho58 => Fb 32 2 fun _ => Fb 24 3 fun _ => Fb 24 4 fun _ => KS ?_
  refine Oq Vlss (KS ?_)
  refine Kc ?_ ?_
  ·intro h62
   have g63 := dt h62
   have hbr := hct v47_34.toNat v54_51.toNat aM1
   obtain ⟨r64, rfl⟩ := scc (n := r50) aM1
   refine KS ?_
   refine Oq (Vi sl22 0) ?_
   have hb65 := ok1 (i := v54_51.toNat) ho58 rng
   refine Oq (VldI sh3 0) (Oq Va (KS ?_))
   refine Oq (Vfa fo28_2 1) (Oq (VldF sh26 1) (Oq Vm (Oq (Vi sl26 4) ?_)))
   refine JJ_peekL (((g.Succ.getD v47_34.toNat []).getD v54_51.toNat 0) : Int).toNat 4 rfl rng fun a66 k67 => ?_
   refine Fb 8 1 fun _ => Fo 1 fun ho69 => ?_
   refine Oq (Vld sh22 0) (Oq Vm ?_)
   refine letv (sc_Contains_int (g.Pred.getD (((g.Succ.getD v47_34.toNat []).getD v54_51.toNat 0) : Int).toNat []) v47_34) fun rv70 hg71 => ?_
   have hc72 := fn69 ((g.Pred.getD (((g.Succ.getD v47_34.toNat []).getD v54_51.toNat 0) : Int).toNat [])) a66 k67 v47_34 pre rv70 hg71
   refine Oc [1] ca69 hc72 ?_
   rintro - -
   refine Oq Vnot (KS ?_)
   refine Kc ?_ ?_
   ·intro h73
    have h75 := not_true h73
    refine KS ?_
    refine Oq Va (KS ?_)
    have hR77 := q2 hM52 (.ret false) (by simp only [gh_Valid_L1, h62, h73, h75, hg71, cs4])
    have hR78 := q2 hM35 (.ret false) (by simp only [gh_Valid_L0, h43, h62, h73, h75, hg71, hR77, cs4])
    have hq := q4 hrr false (by simp only [gh_Valid, h5, h8, h11, h14, h22, h30, h43, h62, h73, h75, hg18, hg26, hg71, hR77, hR78, cs4]); subst hq
    exact Kr () rfl (.tmp rfl .nil) [] trivial
   intro h73
   have h80 := not_false h73
   refine KS ?_
   refine Oq Vadd (Oq Vm (KS ?_))
   exact Kg (r64, (v54_51 + 1)) [2, 3, 4, 5, 6] ⟨(q3 hM52 (by simp only [gh_Valid_L1, h62, h73, h80, hg71, cs4])), aM1, aM1, aM1, aM1⟩
  intro h62
  have g82 := df h62
  obtain rfl : r50 = 0 := by omega
  refine Ke ?_
  have hR83 := q2 hM52 (.brk ()) (by simp only [gh_Valid_L1, h62, cs4])
  refine KS ?_
  refine Oq Vadd (Oq Vm (KS ?_))
  exact Kg (r45, (v47_34 + 1)) [1, 2, 3, 4] ⟨(q3 hM35 (by simp only [gh_Valid_L0, h43, h62, hR83, cs4])), aM1, aM1, aM1, aM1⟩
 intro h43
 have g84 := df h43
 obtain rfl : r33 = 0 := by omega
 refine Ke ?_
 have hR85 := q2 hM35 (.brk ()) (by simp only [gh_Valid_L0, h43, cs4])
 refine KS ?_
 refine Oq Va (KS ?_)
 have hq := q4 hrr true (by simp only [gh_Valid, h5, h8, h11, h14, h22, h30, h43, hg18, hg26, hR85, cs4]); subst hq
 exact Kr () rfl (.tmp rfl .nil) [] trivial
theorem fn33 (g : GGraph) (ga0 : Option Addr) (gk0 : Nat) (ga1 : Option Addr) (gk1 : Nat) (ga2 : Option Addr) (gk2 : Nat) (at_ : List Cpx) (at_a0 : Option Addr) (at_k0 : Nat) (rr : List Gedge) (hrr : layout_edges g at_ = rr) : FT Tryz.prog 33 #[.agg #[vl ga0 gk0 g.Nodes, vl ga1 gk1 g.Succ, vl ga2 gk2 g.Pred], vl at_a0 at_k0 at_] [S ga0 gk0 g.Nodes, S ga1 gk1 g.Succ, S ga2 gk2 g.Pred, S at_a0 at_k0 at_] (fun g : Value => ((rr.length : Int) ≤ 65536)) (fun g => g) (fun g => [os g rr]) := by
 refine FTi Tryz.func33 fun w0 M0 F0 => Fb 32 0 fun _ => Fb 24 1 fun _ => Fb 24 2 fun _ => Fb 16 3 fun _ => ?_
 refine KS ?_
 refine Oa (Ab [vl ga0 gk0 g.Nodes, vl ga1 gk1 g.Succ, vl ga2 gk2 g.Pred]) fun p5 => Oq Va (KS ?_)
 refine Oq (VldA sh28 0) ?_
 refine letv (gh_Valid g) fun rv6 hg7 => ?_
 have hc8 := fn50 g ga0 gk0 ga1 gk1 ga2 gk2 rv6 hg7
 refine Oc [1, 2, 3] ca50 hc8 ?_
 rintro - -
 refine Oq Vnot (Oq Vm ?_)
 refine Js 13 ?_ ?_
 ·intro h9
  have h11 := not_true h9
  refine Osk (Osk (Osk (Osk (Osk (Osk (Oq Vpt (Oq Vm (Osk (Osk ?_)))))))))
  refine Osk (Oq Vpt (KS ?_))
  refine Kt (KS ?_)
  refine Oq Va (KS ?_)
  refine Jl [] (Ent.osNil (α := Gedge)) ?_
  have hq := q4 hrr ([] : List Gedge) (by simp only [layout_edges, h9, h11, hg7, cs4]); subst hq
  exact Kr (.slice none 0 0) rfl (.tmp rfl .nil) [0] en
 intro h9
 have h14 := not_false h9
 try (have hgv := Valid_f (by assumption) h9; have hn1 := hgv.n1; have hsl := hgv.sl)
 try have hWl := whole_f (by assumption) h9
 refine Oq Vm (Oq (Vlen sl49) (Oq (Vfa fo28_0 0) (Oq (VldF sh25 0) (Oq (Vlen sl25) (Oq Vneq (Oq Vpf (Oq Vm ?_)))))))
 refine Js 21 ?_ ?_
 ·intro h16
  have g17 := ne_of_bne h16
  refine Osk (Osk (Osk (Oq Vpt (KS ?_))))
  refine Kt (KS ?_)
  refine Oq Va (KS ?_)
  refine Jl [] (Ent.osNil (α := Gedge)) ?_
  have hq := q4 hrr ([] : List Gedge) (by simp only [layout_edges, h9, h14, h16, hg7, cs4]); subst hq
  exact Kr (.slice none 0 0) rfl (.tmp rfl .nil) [0] en
 intro h16
 have g18 := eq_of_bne_false h16
 refine Oq Vm ?_
 refine letv (layout_whole at_) fun rv19 hg20 => ?_
 have hc21 := fn40 at_ at_a0 at_k0 rv19 hg20
 refine Oc [4] ca40 hc21 ?_
 rintro - -
 refine Oq Vnot (Oq Vpf (KS ?_))
 refine Kc ?_ ?_
 ·intro h22
  have h24 := not_true h22
  refine KS ?_
  refine Oq Va (KS ?_)
  refine Jl [] (Ent.osNil (α := Gedge)) ?_
  have hq := q4 hrr ([] : List Gedge) (by simp only [layout_edges, h9, h14, h16, h22, h24, hg7, hg20, cs4]); subst hq
  exact Kr (.slice none 0 0) rfl (.tmp rfl .nil) [0] en
 intro h22
 have h27 := not_false h22
 try (have hgv := Valid_f (by assumption) h22; have hn1 := hgv.n1; have hsl := hgv.sl)
 try have hWl := whole_f (by assumption) h22
 refine KS ?_
 refine Oq Va (KS ?_)
 refine Oq (Vfa fo28_1 0) (Oq (VldF sh26 0) (Oq (Vlen sl26) (Oq Vm (KS ?_))))
 refine Jl [] (Ent.osNil (α := Gedge)) ?_
 refine Kl (γ := Nat × List Gedge × Int × Option Addr × Nat) (fun (r29, l_30, v29_31, a32, k33) => ⟨[(1, vl at_a0 at_k0 at_), (5, vl a32 k33 l_30), (27, vl ga1 gk1 g.Succ), (28, vi (g.Succ.length : Int)), (29, vi v29_31)], [O a32 k33 l_30, S ga1 gk1 g.Succ, S at_a0 at_k0 at_], layout_edges_L0 g at_ r29 l_30 v29_31 = layout_edges_L0 g at_ (((g.Succ.length : Int) - 0).toNat) [] 0 ∧ r29 = ((g.Succ.length : Int) - v29_31).toNat ∧ (0 : Int) ≤ v29_31 ∧ v29_31 ≤ (g.Succ.length : Int) ∧ (-9223372036854775808 ≤ v29_31 ∧ v29_31 ≤ 9223372036854775807) ∧ ((l_30.length : Int) ≤ 256 * v29_31), r29⟩) (((g.Succ.length : Int) - 0).toNat, [], 0, none, 0) [0, 2, 4] ⟨rfl, rfl, aM1, aM1, aM1, iv0⟩ ?_
 rintro ⟨r29, l_30, v29_31, a32, k33⟩ ⟨hM34, hr35, hi36, hi37, hk38, hv39⟩
 refine JJ_nx fun _ _ hL hA => ?_; dsimp only at hL hA; subst hL hA
 refine Fb 32 0 fun _ => Fb 24 1 fun _ => Fb 16 2 fun _ => KS ?_
 refine Oq Vlss (KS ?_)
 refine Kc ?_ ?_
 ·intro h43
  have g44 := dt h43
  have hal := Asc_l (hgv.sa v29_31 aM1 aM1) aM1
  obtain ⟨r45, rfl⟩ := scc (n := r29) aM1
  refine KS ?_
  refine Oq Vm (Oq (Vi sl26 1) ?_)
  refine JJ_peekL v29_31.toNat 1 rfl rng fun a46 k47 => ?_
  refine Fb 8 1 fun _ => Fo 1 fun ho49 => ?_
  refine Oq (Vld sh22 0) (Oq Va (Oq Va (KS ?_)))
  refine Oq Vm (Oq (Vlen sl22) (Oq Vm (KS ?_)))
  refine Kl (γ := Nat × List Gedge × Int × Option Addr × Nat) (fun (r50, l_51, v36_52, a53, k54) => ⟨[(1, vl at_a0 at_k0 at_), (5, vl a53 k54 l_51), (27, vl ga1 gk1 g.Succ), (28, vi (g.Succ.length : Int)), (29, vi v29_31), (6, vi v29_31), (34, vl a46 k47 (g.Succ.getD v29_31.toNat [])), (35, vi ((g.Succ.getD v29_31.toNat []).length : Int)), (36, vi v36_52)], [O a53 k54 l_51, S a46 k47 ((g.Succ.getD v29_31.toNat []) : List Int), S ga1 gk1 g.Succ, S at_a0 at_k0 at_], layout_edges_L1 at_ v29_31 (g.Succ.getD v29_31.toNat []) r50 l_51 v36_52 = layout_edges_L1 at_ v29_31 (g.Succ.getD v29_31.toNat []) (((((g.Succ.getD v29_31.toNat []).length : Int) : Int) - 0).toNat) l_30 0 ∧ r50 = ((((g.Succ.getD v29_31.toNat []).length : Int) : Int) - v36_52).toNat ∧ (0 : Int) ≤ v36_52 ∧ (v36_52 ≤ ((g.Succ.getD v29_31.toNat []).length : Int) ∨ v36_52 = 0) ∧ (-9223372036854775808 ≤ v36_52 ∧ v36_52 ≤ 9223372036854775807) ∧ ((l_51.length : Int) ≤ 256 * v29_31 + v36_52), r50⟩) (((((g.Succ.getD v29_31.toNat []).length : Int) : Int) - 0).toNat, l_30, 0, a32, k33) [2, 1, 2, 3] ⟨rfl, rfl, aM1, (.inr rfl), aM1, iv0⟩ ?_
  rintro ⟨r50, l_51, v36_52, a53, k54⟩ ⟨hM55, hr56, hi57, hi58, hk59, hv60⟩
  refine JJ_nx fun _ _ hL hA => ?_; dsimp only at hL hA; subst hL hA
  refine Fb 32 0 fun _ => Fb 8 1 fun _ => Fo 1 fun ho63 => Fb 24 2 fun _ => Fb 16 3 fun _ => KS ?_
  refine Oq Vlss (KS ?_)
  refine Kc ?_ ?_
  ·intro h66
   have g67 := dt h66
   have hsm := Asc_mem (hgv.sa v29_31 aM1 aM1) (getD_mem (xs := g.Succ.getD v29_31.toNat []) (i := v36_52.toNat) (d := 0) aM1)
   obtain ⟨r68, rfl⟩ := scc (n := r50) aM1
   refine KS ?_
   refine Oq (Vi sl22 1) ?_
   have hb69 := ok1 (i := v36_52.toNat) ho63 rng
   refine Oq (VldI sh3 1) (Oq Va (KS ?_))
   refine Oq Vm (Oq Vm (Oq (Vi sl49 3) (Oq (VldCx sh63 3) (Oq (VneC (a := (at_.getD v29_31.toNat default)) (b := (Cpx.mk 13830554455654793216#64 0#64))) (Oq Vm ?_)))))
   refine Js 45 ?_ ?_
   ·intro h70
    have h72 := not_true h70
    refine Oq Vm (Oq Vm (Oq (Vi sl49 3) (Oq (VldCx sh63 3) (Oq (VneC (a := (at_.getD (((g.Succ.getD v29_31.toNat []).getD v36_52.toNat 0) : Int).toNat default)) (b := (Cpx.mk 13830554455654793216#64 0#64))) (Oq Vpt (KS ?_))))))
    refine Kc ?_ ?_
    ·intro h74
     have h76 := not_true h74
     refine JK_drawK [0, 0, 0, 6, 14, 0, 0, 96, 224, 510, 1022, 2047, 4095] fmix ?_
     refine Dv [] Vm (Dv [] Vm (Dv [] Vm (Dv [3] (Vi sl49 0) (Dv [3] (VldCx sh63 0) (Dv [] Vm (Dv [] Vm (Dv [3] (Vi sl49 0) (Dv [3] (VldCx sh63 0) (Dv [] (Vbd st73 [cxv (at_.getD v29_31.toNat default), cxv (at_.getD (((g.Succ.getD v29_31.toNat []).getD v36_52.toNat 0) : Int).toNat default)]) ?_)))))))))
     refine Dx [] [] [0] (fun G => (G.g 10 0)) [fun G => Cr (G.g 10 0) 1 [cxv (at_.getD v29_31.toNat default), cxv (at_.getD (((g.Succ.getD v29_31.toNat []).getD v36_52.toNat 0) : Int).toNat default)]] (fun G => xA (AsV sl70 sz70 [.agg #[cxv (at_.getD v29_31.toNat default), cxv (at_.getD (((g.Succ.getD v29_31.toNat []).getD v36_52.toNat 0) : Int).toNat default)]] [cxv (at_.getD v29_31.toNat default), cxv (at_.getD (((g.Succ.getD v29_31.toNat []).getD v36_52.toNat 0) : Int).toNat default)])) ?_
     have hn80 := la l_51 ([(Gedge.mk (at_.getD v29_31.toNat default) (at_.getD (((g.Succ.getD v29_31.toNat []).getD v36_52.toNat 0) : Int).toNat default))] : List Gedge)
     refine Dx [0, 4] [0, 4] [0] (fun G => (G.g 11 0)) [fun G => os (G.g 11 0) ((l_51 ++ [(Gedge.mk (at_.getD v29_31.toNat default) (at_.getD (((g.Succ.getD v29_31.toNat []).getD v36_52.toNat 0) : Int).toNat default))]) : List Gedge)] (fun G => xp [1] rfl (Ent.cr1 (α := Gedge) (A := []) _ (Gedge.mk (at_.getD v29_31.toNat default) (at_.getD (((g.Succ.getD v29_31.toNat []).getD v36_52.toNat 0) : Int).toNat default)) _ aB1 (fun h => ⟨rfl, trivial⟩)) (xA (ApO [1, 0] sl70 sl70 sz70))) (Dg [] (fun G => (G.g 11 0)) (fun G => Va) ?_)
     refine Dn ⟨by kernel_rfl, fun G => ?_⟩
     refine Jw2 [(1, vl at_a0 at_k0 at_), (27, vl ga1 gk1 g.Succ), (28, vi (g.Succ.length : Int)), (29, vi v29_31), (6, vi v29_31), (34, vl a46 k47 (g.Succ.getD v29_31.toNat [])), (35, vi ((g.Succ.getD v29_31.toNat []).length : Int)), (36, vi v36_52), (5, (G.g 11 0))] [1, 2, 3] [os (G.g 11 0) ((l_51 ++ [(Gedge.mk (at_.getD v29_31.toNat default) (at_.getD (((g.Succ.getD v29_31.toNat []).getD v36_52.toNat 0) : Int).toNat default))]) : List Gedge)] ?_
     generalize G.g 11 0 = c79
     refine Jo 3 ?_; rintro a81 k82 rfl
     refine Fb 32 3 fun _ => KS ?_
     refine Oq Vadd (Oq Vm (KS ?_))
     exact Kg (r68, (l_51 ++ [(Gedge.mk (at_.getD v29_31.toNat default) (at_.getD (((g.Succ.getD v29_31.toNat []).getD v36_52.toNat 0) : Int).toNat default))]), (v36_52 + 1), a81, k82) [3, 0, 1, 2] ⟨(q3 hM55 (by simp only [layout_edges_L1, h66, h70, h72, h74, h76, cs4])), aM1, aM1, aM1, aM1, iv1⟩
    intro h74
    have h85 := not_false h74
    refine KS ?_
    refine Oq Vadd (Oq Vm (KS ?_))
    exact Kg (r68, l_51, (v36_52 + 1), a53, k54) [0, 0, 1, 2] ⟨(q3 hM55 (by simp only [layout_edges_L1, h66, h70, h72, h74, h85, cs4])), aM1, aM1, aM1, aM1, iv1⟩
   intro h70
   have h88 := not_false h70
   refine Osk (Osk (Osk (Osk (Osk (Oq Vpf (KS ?_))))))
   refine Kf (KS ?_)
   refine Oq Vadd (Oq Vm (KS ?_))
   exact Kg (r68, l_51, (v36_52 + 1), a53, k54) [0, 0, 1, 2] ⟨(q3 hM55 (by simp only [layout_edges_L1, h66, h70, h88, cs4])), aM1, aM1, aM1, aM1, iv1⟩
  intro h66
  have g90 := df h66
  obtain rfl : r50 = 0 := by omega
  refine Ke ?_
  have hR91 := q2 hM55 l_51 (by simp only [layout_edges_L1, h66, cs4])
  refine KS ?_
  refine Oq Vadd (Oq Vm (KS ?_))
  exact Kg (r45, l_51, (v29_31 + 1), a53, k54) [0, 1, 2] ⟨(q3 hM34 (by simp only [layout_edges_L0, h43, h66, hR91, cs4])), aM1, aM1, aM1, aM1, iv1⟩
 intro h43
 have g92 := df h43
 obtain rfl : r29 = 0 := by omega
 refine Ke ?_
 have hR93 := q2 hM34 l_30 (by simp only [layout_edges_L0, h43, cs4])
 refine KS ?_
 refine Oq Vm (Oq Va (KS ?_))
 have hq := q4 hrr l_30 (by simp only [layout_edges, h9, h14, h16, h22, h27, h43, hg7, hg20, hR93, cs4]); subst hq
 exact Kr (vl a32 k33 l_30) rfl (.tmp rfl .nil) [0] en
theorem fn34 (e : Gedge) (he0 : EW e) (rr : Bool) (hrr : layout_Crossings_1 e = rr) : FT Tryz.prog 34 #[.agg #[cxv e.from_, cxv e.to_]] [] (fun g : Unit => True) (fun g => vb rr) (fun g => []) := by
 refine FTi Tryz.func34 fun w0 M0 F0 => ?_
 refine KS ?_
 refine Oa (Ab [cxv e.from_, cxv e.to_]) fun p1 => Oq Va (KS ?_)
 refine Oq (Vfa fo73_1 0) (Oq (VldF sh63 0) (Oq (Vim (a := e.to_)) (Oq (Vfa fo73_0 0) (Oq (VldF sh63 0) (Oq (Vim (a := e.from_)) (Oq (VaddF (a := (Flo.mk e.from_.im)) (b := (Flo.mk 4607182418800017408#64)) (h := (EW_next he0))) (Oq (VneF (a := (Flo.mk e.to_.im)) (b := (fadd (Flo.mk e.from_.im) (Flo.mk 4607182418800017408#64)))) (Oq Va (KS ?_)))))))))
 have hq := q4 hrr (!(feq (Flo.mk e.to_.im) (fadd (Flo.mk e.from_.im) (Flo.mk 4607182418800017408#64)))) (by simp only [layout_Crossings_1, cs4]); subst hq
 exact Kr () rfl (.tmp rfl .nil) [] trivial
theorem fn17 (g : GGraph) (ga0 : Option Addr) (gk0 : Nat) (ga1 : Option Addr) (gk1 : Nat) (ga2 : Option Addr) (gk2 : Nat) (at_ : List Cpx) (at_a0 : Option Addr) (at_k0 : Nat) (rr : Int) (hrr : layout_Crossings g at_ = rr) : FT Tryz.prog 17 #[.agg #[vl ga0 gk0 g.Nodes, vl ga1 gk1 g.Succ, vl ga2 gk2 g.Pred], vl at_a0 at_k0 at_] [S ga0 gk0 g.Nodes, S ga1 gk1 g.Succ, S ga2 gk2 g.Pred, S at_a0 at_k0 at_] (fun g : Unit => i64ok rr) (fun g => vi rr) (fun g => []) := by
 refine FTi Tryz.func17 fun w0 M0 F0 => Fb 32 0 fun _ => Fb 24 1 fun _ => Fb 24 2 fun _ => Fb 16 3 fun _ => ?_
 refine KS ?_
 refine Oa (Ab [vl ga0 gk0 g.Nodes, vl ga1 gk1 g.Succ, vl ga2 gk2 g.Pred]) fun p5 => Oq Va (KS ?_)
 refine Oq (VldA sh28 0) (Oq Vm ?_)
 refine letv (layout_edges g at_) fun rv7 hg8 => ?_
 have hEW := edges_EW hg8
 have hc9 := fn33 g ga0 gk0 ga1 gk1 ga2 gk2 at_ at_a0 at_k0 rv7 hg8
 refine Oc [1, 2, 3, 4] ca33 hc9 ?_
 rintro c6 he10
 refine Jo 0 ?_; rintro a11 k12 rfl
 refine Fb 32 0 fun _ => ?_
 refine JJ_ent (Ent.pall [] rfl rfl) ?_
 refine letv (sc_DeleteFunc_edge rv7 (fun x => layout_Crossings_1 x)) fun rv15 hg16 => ?_
 have hc17 := fn32 rv7 a11 k12 34 [] (fun x => layout_Crossings_1 x) [] ca34 (fun x hx  => FT_pall (A1 := _) (fn34 x   (hEW _ hx) _ rfl)) rv15 hg16
 refine Oc [1, 0] ca32 hc17 ?_
 rintro c14 he18
 refine Jo 0 ?_; rintro a19 k20 rfl
 refine Fb 32 0 fun _ => ?_
 refine Oq Va (KS ?_)
 refine Oq Va (KS ?_)
 refine Oq Vm (Oq (Vlen sl70) (Oq Vm (KS ?_)))
 refine Kl (γ := Nat × Int × Int) (fun (r22, n_23, v17_24) => ⟨[(5, vl a19 k20 rv15), (6, vi n_23), (15, vl a19 k20 rv15), (16, vi (rv15.length : Int)), (17, vi v17_24)], [S a19 k20 rv15, pAll []], layout_Crossings_L0 rv15 rv15 r22 n_23 v17_24 = layout_Crossings_L0 rv15 rv15 (((rv15.length : Int) - 0).toNat) 0 0 ∧ r22 = ((rv15.length : Int) - v17_24).toNat ∧ (0 : Int) ≤ v17_24 ∧ v17_24 ≤ (rv15.length : Int) ∧ (-9223372036854775808 ≤ n_23 ∧ n_23 ≤ 9223372036854775807) ∧ (-9223372036854775808 ≤ v17_24 ∧ v17_24 ≤ 9223372036854775807) ∧ (0 ≤ n_23 ∧ n_23 ≤ 65536 * v17_24), r22⟩) (((rv15.length : Int) - 0).toNat, 0, 0) [0, 1] ⟨rfl, rfl, aM1, aM1, aM1, aM1, iv0⟩ ?_
 rintro ⟨r22, n_23, v17_24⟩ ⟨hM25, hr26, hi27, hi28, hk29, hk30, hv31⟩
 refine JJ_nx fun _ _ hL hA => ?_; dsimp only at hL hA; subst hL hA
 refine Fb 32 0 fun _ => KS ?_
 refine Oq Vlss (KS ?_)
 refine Kc ?_ ?_
 ·intro h33
  have g34 := dt h33
  obtain ⟨r35, rfl⟩ := scc (n := r22) aM1
  refine KS ?_
  refine Oq (Vi sl70 0) ?_
  refine JJ_peek_Gedge v17_24.toNat 0 rfl rng ?_
  refine Oq (VldA sh73 0) (Oa (Al ze73 [cxv (Cpx.mk 0#64 0#64), cxv (Cpx.mk 0#64 0#64)]) fun p36 => Ost (Scl [0] sh73 [cxv ((rv15.getD v17_24.toNat default).from_), cxv ((rv15.getD v17_24.toNat default).to_)]) (KS ?_))
  refine Oq Vm (Oq (Vlen sl70) (Oq Vm (KS ?_)))
  refine Kl (γ := Nat × Int × Int) (fun (r37, n_38, v23_39) => ⟨[(5, vl a19 k20 rv15), (6, vi n_38), (15, vl a19 k20 rv15), (16, vi (rv15.length : Int)), (17, vi v17_24), (8, p36), (21, vl a19 k20 rv15), (22, vi (rv15.length : Int)), (23, vi v23_39)], [Cl p36 [cxv ((rv15.getD v17_24.toNat default).from_), cxv ((rv15.getD v17_24.toNat default).to_)], S a19 k20 rv15, pAll []], layout_Crossings_L1 ((rv15.getD v17_24.toNat default).from_) ((rv15.getD v17_24.toNat default).to_) rv15 r37 n_38 v23_39 = layout_Crossings_L1 ((rv15.getD v17_24.toNat default).from_) ((rv15.getD v17_24.toNat default).to_) rv15 (((rv15.length : Int) - 0).toNat) n_23 0 ∧ r37 = ((rv15.length : Int) - v23_39).toNat ∧ (0 : Int) ≤ v23_39 ∧ v23_39 ≤ (rv15.length : Int) ∧ (-9223372036854775808 ≤ n_38 ∧ n_38 ≤ 9223372036854775807) ∧ (-9223372036854775808 ≤ v23_39 ∧ v23_39 ≤ 9223372036854775807) ∧ (0 ≤ n_38 ∧ n_38 ≤ 65536 * v17_24 + v23_39), r37⟩) (((rv15.length : Int) - 0).toNat, n_23, 0) [0, 1, 2] ⟨rfl, rfl, aM1, aM1, aM1, aM1, iv0⟩ ?_
  rintro ⟨r37, n_38, v23_39⟩ ⟨hM40, hr41, hi42, hi43, hk44, hk45, hv46⟩
  refine JJ_nx fun _ _ hL hA => ?_; dsimp only at hL hA; subst hL hA
  refine Fb 32 1 fun _ => KS ?_
  refine Oq Vlss (KS ?_)
  refine Kc ?_ ?_
  ·intro h48
   have g49 := dt h48
   obtain ⟨r50, rfl⟩ := scc (n := r37) aM1
   refine KS ?_
   refine Oq (Vi sl70 1) ?_
   refine JJ_peek_Gedge v23_39.toNat 1 rfl rng ?_
   refine Oq (VldA sh73 0) (Oa (Al ze73 [cxv (Cpx.mk 0#64 0#64), cxv (Cpx.mk 0#64 0#64)]) fun p51 => Ost (Scl [0] sh73 [cxv ((rv15.getD v23_39.toNat default).from_), cxv ((rv15.getD v23_39.toNat default).to_)]) (KS ?_))
   refine Oq (Vfa fo73_0 2) (Oq (VldF sh63 2) (Oq (Vim (a := (rv15.getD v17_24.toNat default).from_)) (Oq (Vfa fo73_0 0) (Oq (VldF sh63 0) (Oq (Vim (a := (rv15.getD v23_39.toNat default).from_)) (Oq (VeqF (a := (Flo.mk ((rv15.getD v17_24.toNat default).from_).im)) (b := (Flo.mk ((rv15.getD v23_39.toNat default).from_).im))) (Oq Vm ?_)))))))
   refine Js 34 ?_ ?_
   ·intro h52
    refine Oq (Vfa fo73_0 2) (Oq (VldF sh63 2) (Oq (Vre (a := (rv15.getD v17_24.toNat default).from_)) (Oq (Vfa fo73_0 0) (Oq (VldF sh63 0) (Oq (Vre (a := (rv15.getD v23_39.toNat default).from_)) (Oq (VltF (a := (Flo.mk ((rv15.getD v17_24.toNat default).from_).re)) (b := (Flo.mk ((rv15.getD v23_39.toNat default).from_).re))) (Oq Vpt (Oq Vm ?_))))))))
    refine Js 43 ?_ ?_
    ·intro h54
     refine Oq (Vfa fo73_1 2) (Oq (VldF sh63 2) (Oq (Vre (a := (rv15.getD v17_24.toNat default).to_)) (Oq (Vfa fo73_1 0) (Oq (VldF sh63 0) (Oq (Vre (a := (rv15.getD v23_39.toNat default).to_)) (Oq (VgtF (a := (Flo.mk ((rv15.getD v17_24.toNat default).to_).re)) (b := (Flo.mk ((rv15.getD v23_39.toNat default).to_).re))) (Oq Vpt (KS ?_))))))))
     refine Kc ?_ ?_
     ·intro h56
      refine KS ?_
      refine Oq Vm (Oq Vadd (Oq Va (KS ?_)))
      refine Oq Vadd (Oq Vm (KS ?_))
      exact Kg (r50, (n_38 + 1), (v23_39 + 1)) [2, 2, 3] ⟨(q3 hM40 (by simp only [layout_Crossings_L1, h48, h52, h54, h56, cs4])), aM1, aM1, aM1, aM1, aM1, iv1⟩
     intro h56
     refine KS ?_
     refine Oq Vadd (Oq Vm (KS ?_))
     exact Kg (r50, n_38, (v23_39 + 1)) [2, 2, 3] ⟨(q3 hM40 (by simp only [layout_Crossings_L1, h48, h52, h54, h56, cs4])), aM1, aM1, aM1, aM1, aM1, iv1⟩
    intro h54
    refine Osk (Osk (Osk (Osk (Osk (Osk (Osk (Oq Vpf (KS ?_))))))))
    refine Kf (KS ?_)
    refine Oq Vadd (Oq Vm (KS ?_))
    exact Kg (r50, n_38, (v23_39 + 1)) [2, 2, 3] ⟨(q3 hM40 (by simp only [layout_Crossings_L1, h48, h52, h54, cs4])), aM1, aM1, aM1, aM1, aM1, iv1⟩
   intro h52
   refine Osk (Osk (Osk (Osk (Osk (Osk (Osk (Oq Vpf (Oq Vm (Osk ?_)))))))))
   refine Osk (Osk (Osk (Osk (Osk (Osk (Oq Vpf (KS ?_)))))))
   refine Kf (KS ?_)
   refine Oq Vadd (Oq Vm (KS ?_))
   exact Kg (r50, n_38, (v23_39 + 1)) [2, 2, 3] ⟨(q3 hM40 (by simp only [layout_Crossings_L1, h48, h52, cs4])), aM1, aM1, aM1, aM1, aM1, iv1⟩
  intro h48
  have g61 := df h48
  obtain rfl : r37 = 0 := by omega
  refine Ke ?_
  have hR62 := q2 hM40 n_38 (by simp only [layout_Crossings_L1, h48, cs4])
  refine KS ?_
  refine Oq Vadd (Oq Vm (KS ?_))
  exact Kg (r35, n_38, (v17_24 + 1)) [1, 2] ⟨(q3 hM25 (by simp only [layout_Crossings_L0, h33, h48, hR62, cs4])), aM1, aM1, aM1, aM1, aM1, iv1⟩
 intro h33
 have g63 := df h33
 obtain rfl : r22 = 0 := by omega
 refine Ke ?_
 have hR64 := q2 hM25 n_23 (by simp only [layout_Crossings_L0, h33, cs4])
 refine KS ?_
 refine Oq Vm (Oq Va (KS ?_))
 have hq := q4 hrr n_23 (by simp only [layout_Crossings, h33, hg8, hg16, hR64, cs4]); subst hq
 exact Kr () rfl (.tmp rfl .nil) [] en
theorem fn41 (s : List Cpx) (sa0 : Option Addr) (sk0 : Nat) (rr : List Cpx) (hrr : sc_Clone_complex128 s = rr) : FT Tryz.prog 41 #[vl sa0 sk0 s] [S sa0 sk0 s] (fun g : Value => (rr.length = s.length)) (fun g => g) (fun g => [os g rr]) := by
 have hm : sc_Clone_complex128 s = s := rfl
 rw [hm] at hrr
 subst hrr
 refine FTi Tryz.func41 fun w0 M0 F0 => ?_
 refine KS ?_
 refine Oq Va ?_
 refine KS ?_
 refine Oq Vm ?_
 refine Oq (VeqN un49) ?_
 refine KS ?_
 refine Kc ?_ ?_
 ·intro h
  refine Jnil 0 h ?_
  intro h0
  subst h0
  refine KS ?_
  refine Oq Va ?_
  refine KS ?_
  refine Jl [] (Ent.osNil (α := Cpx)) ?_
  exact Kr (.slice none 0 0) rfl (.tmp rfl .nil) [0] rfl
 ·intro _
  refine KS ?_
  refine Oa (As0 sl49) fun c1 => ?_
  refine Jo 0 ?_; rintro a2 k3 rfl
  refine Oq Vm ?_
  refine Fb 16 1 fun hl => ?_
  refine Jl [0] (Ent.crNil (α := Cpx) _) ?_
  refine Oa (Ap0 [0, 0] sl49 sl49 sz49) fun c4 => ?_
  refine Oq Va ?_
  refine KS ?_
  exact Kr c4 rfl (.tmp rfl .nil) [0] rfl
theorem fn22 (at_ : List Cpx) (at_a0 : Option Addr) (at_k0 : Nat) (quarter : Int) (hquarter_0 : i64ok quarter) (rr : List Cpx) (hrr : layout_Turn at_ quarter = rr) : FT Tryz.prog 22 #[vl at_a0 at_k0 at_, vi quarter] [S at_a0 at_k0 at_] (fun g : Value => True) (fun g => g) (fun g => [os g rr]) := by
 refine FTi Tryz.func22 fun w0 M0 F0 => ?_
 unfold i64ok at hquarter_0
 refine Fb 16 0 fun _ => KS ?_
 refine Oq Va (KS ?_)
 refine Oq Vm ?_
 refine letv (layout_whole at_) fun rv2 hg3 => ?_
 have hc4 := fn40 at_ at_a0 at_k0 rv2 hg3
 refine Oc [0] ca40 hc4 ?_
 rintro - -
 refine Oq Vnot (KS ?_)
 refine Kc ?_ ?_
 ·intro h5
  have h7 := not_true h5
  refine KS ?_
  refine Oq Va (KS ?_)
  refine Jl [] (Ent.osNil (α := Cpx)) ?_
  have hq := q4 hrr ([] : List Cpx) (by simp only [layout_Turn, h5, h7, hg3, cs4]); subst hq
  exact Kr (.slice none 0 0) rfl (.tmp rfl .nil) [0] trivial
 intro h5
 have h10 := not_false h5
 refine KS ?_
 refine Oq Vm ?_
 refine letv (sc_Clone_complex128 at_) fun rv13 hg14 => ?_
 have hWl := Clone_WP (by assumption) (by assumption) hg14
 have hc15 := fn41 at_ at_a0 at_k0 rv13 hg14
 refine Oc [0] ca41 hc15 ?_
 rintro c12 he16
 refine Jo 0 ?_; rintro a17 k18 rfl
 refine Fb 16 0 fun _ => ?_
 refine Oq Va (KS ?_)
 refine Oq Vm (Oq VremT ?_)
 have ht20 := tmod_rng quarter 4 aM1
 refine Oq Vadd (Oq VremT ?_)
 have ht21 := tmod_rng ((Int.tmod quarter 4) + 4) 4 aM1
 refine Oq Vm (KS ?_)
 refine Kl (γ := Nat × List Cpx × Int × Option Addr × Nat) (fun (r22, l_23, v16_24, a25, k26) => ⟨[(5, vl a25 k26 l_23), (15, vi (Int.tmod ((Int.tmod quarter 4) + 4) 4)), (16, vi v16_24)], [O a25 k26 l_23], layout_Turn_L0 r22 l_23 v16_24 = layout_Turn_L0 ((((Int.tmod ((Int.tmod quarter 4) + 4) 4) : Int) - 0).toNat) rv13 0 ∧ r22 = (((Int.tmod ((Int.tmod quarter 4) + 4) 4) : Int) - v16_24).toNat ∧ (0 : Int) ≤ v16_24 ∧ (v16_24 ≤ (Int.tmod ((Int.tmod quarter 4) + 4) 4) ∨ v16_24 = 0) ∧ (-9223372036854775808 ≤ v16_24 ∧ v16_24 ≤ 9223372036854775807) ∧ (WP l_23), r22⟩) ((((Int.tmod ((Int.tmod quarter 4) + 4) 4) : Int) - 0).toNat, rv13, 0, a17, k18) [0] ⟨rfl, rfl, aM1, (.inr rfl), aM1, hWl⟩ ?_
 rintro ⟨r22, l_23, v16_24, a25, k26⟩ ⟨hM27, hr28, hi29, hi30, hk31, hv32⟩
 refine JJ_nx fun _ _ hL hA => ?_; dsimp only at hL hA; subst hL hA
 refine Fb 16 0 fun _ => KS ?_
 refine Oq Vlss (KS ?_)
 refine Kc ?_ ?_
 ·intro h34
  have g35 := dt h34
  obtain ⟨r36, rfl⟩ := scc (n := r22) aM1
  refine KS ?_
  refine Oq Vm (Oq (Vlen sl49) (Oq Vm (KS ?_)))
  refine Kl (γ := Nat × List Cpx × Int) (fun (r37, l_38, v20_39) => ⟨[(5, vl a25 k26 l_23), (15, vi (Int.tmod ((Int.tmod quarter 4) + 4) 4)), (16, vi v16_24), (19, vi (l_23.length : Int)), (20, vi v20_39)], [os (vl a25 k26 l_23) l_38], layout_Turn_L1 r37 l_38 v20_39 = layout_Turn_L1 (((l_23.length : Int) - 0).toNat) l_23 0 ∧ r37 = ((l_23.length : Int) - v20_39).toNat ∧ (0 : Int) ≤ v20_39 ∧ v20_39 ≤ (l_23.length : Int) ∧ (-9223372036854775808 ≤ v20_39 ∧ v20_39 ≤ 9223372036854775807) ∧ (WP l_38), r37⟩) (((l_23.length : Int) - 0).toNat, l_23, 0) [0] ⟨rfl, rfl, aM1, aM1, aM1, (by assumption)⟩ ?_
  rintro ⟨r37, l_38, v20_39⟩ ⟨hM40, hr41, hi42, hi43, hk44, hv45⟩
  refine JJ_nx fun _ _ hL hA => ?_; dsimp only at hL hA; subst hL hA
  refine Fb 16 0 fun _ => Fl 0 fun hn47 => ?_
  refine KS ?_
  refine Oq Vlss (KS ?_)
  refine Kc ?_ ?_
  ·intro h48
   have g49 := dt h48
   obtain ⟨r50, rfl⟩ := scc (n := r37) aM1
   refine KS ?_
   refine Oq Vm (Oq Va (KS ?_))
   refine Oq Vm (Oq Vm (Oq (Vi sl49 0) (Oq (VldCx sh63 0) (Oq (VmulC (a := (l_38.getD v20_39.toNat default)) (b := (Cpx.mk 0#64 4607182418800017408#64)) (h := (rot_okP (by assumption) rng))) (Oq (Vi sl49 0) (Ost (SoCx [0] sh63) (KS ?_)))))))
   refine Oq Vadd (Oq Vm (KS ?_))
   exact Kg (r50, (l_38.set v20_39.toNat (cmul (l_38.getD v20_39.toNat default) (Cpx.mk 0#64 4607182418800017408#64))), (v20_39 + 1)) [0] ⟨(q3 hM40 (by simp only [layout_Turn_L1, h48, cs4])), aM1, aM1, aM1, aM1, (WP_set (by assumption) rng)⟩
  intro h48
  have g51 := df h48
  obtain rfl : r37 = 0 := by omega
  refine Ke ?_
  have hR52 := q2 hM40 l_38 (by simp only [layout_Turn_L1, h48, cs4])
  refine KS ?_
  refine Oq Vadd (Oq Vm (KS ?_))
  refine Fl 0 fun hn53 => ?_; (try unfold vl); rw [← hn53]
  exact Kg (r36, l_38, (v16_24 + 1), a25, k26) [0] ⟨(q3 hM27 (by simp only [layout_Turn_L0, h34, h48, hR52, cs4])), aM1, aM1, aM1, aM1, (by assumption)⟩
 intro h34
 have g54 := df h34
 obtain rfl : r22 = 0 := by omega
 refine Ke ?_
 have hR55 := q2 hM27 l_23 (by simp only [layout_Turn_L0, h34, cs4])
 refine KS ?_
 refine Oq Vm (Oq Va (KS ?_))
 have hq := q4 hrr l_23 (by simp only [layout_Turn, h5, h10, h34, hg3, hg14, hR55, cs4]); subst hq
 exact Kr (vl a25 k26 l_23) rfl (.tmp rfl .nil) [0] trivial
theorem fn42 (g : GGraph) (ga0 : Option Addr) (gk0 : Nat) (ga1 : Option Addr) (gk1 : Nat) (ga2 : Option Addr) (gk2 : Nat) (root : Int) (hroot_0 : i64ok root) (rr : Int) (hrr : layout_check g root = .ret rr) : FT Tryz.prog 42 #[.agg #[vl ga0 gk0 g.Nodes, vl ga1 gk1 g.Succ, vl ga2 gk2 g.Pred], vi root] [S ga0 gk0 g.Nodes, S ga1 gk1 g.Succ, S ga2 gk2 g.Pred] (fun g : Unit => i64ok rr) (fun g => vi rr) (fun g => []) := by
 refine FTi Tryz.func42 fun w0 M0 F0 => ?_
 unfold i64ok at hroot_0
 refine Fb 32 0 fun _ => Fb 24 1 fun _ => Fb 24 2 fun _ => ?_
 have hx0 := lrn rr; have H := hrr; unfold layout_check at H
 refine KS ?_
 refine Oa (Ab [vl ga0 gk0 g.Nodes, vl ga1 gk1 g.Succ, vl ga2 gk2 g.Pred]) fun p4 => Oq Va (KS ?_)
 refine Oq (VldA sh28 0) ?_
 refine lvH H fun rv5 hg6 H => ?_
 have hc7 := fn50 g ga0 gk0 ga1 gk1 ga2 gk2 rv5 hg6
 refine Oc [1, 2, 3] ca50 hc7 ?_
 rintro - -
 refine Oq Vnot (Oq Va (KS ?_))
 refine pF H hx0 fun h8 H => ?_
 refine KcF h8 ?_
 have h10 := not_false h8
 refine KS ?_
 refine Oq Vm (Oq Vlss (Oq Vm ?_))
 refine pF H hx0 fun h12 H => ?_
 refine JsF 12 h12 ?_
 have g13 := df h12
 refine Oq Vm (Oq (Vfa fo28_0 0) (Oq (VldF sh25 0) (Oq (Vlen sl25) (Oq Vgeq (Oq Vpf (Oq Va (KS ?_)))))))
 refine pF H hx0 fun h14 H => ?_
 refine KcF h14 ?_
 have g15 := df h14
 refine KS ?_
 refine Oq Va (KS ?_)
 have hq := rI H; subst hq
 exact Kr () rfl (.tmp rfl .nil) [] en
end Go.SL.G
