/- Part 2 of the walks: mirrors, plain laws and walks used by the last text of this claim. -/
import Derived.Test.YtbmphpfmnpoeiaaGreatW1
import Derived.Test.YtbmphpfmnpoeiaaGreatProg
set_option linter.unusedVariables false
set_option linter.unusedSimpArgs false
namespace Go.SL.G
open Go Go.SL Go.Proofs
structure GSet where
 Width : Int
 Words : List (BitVec 64)
instance : Inhabited GSet := ⟨⟨0, []⟩⟩
structure GCopy where
 From : Int
 To : Int
instance : Inhabited GCopy := ⟨⟨0, 0⟩⟩
structure GTransfer where
 Gen : GSet
 Kill : GSet
 Copies : List GCopy
instance : Inhabited GTransfer := ⟨⟨⟨0, []⟩, ⟨0, []⟩, []⟩⟩
structure GSystem where
 Width : Int
 Deps : List (List Int)
 Transfers : List GTransfer
 Boundary : List GSet
instance : Inhabited GSystem := ⟨⟨0, [], [], []⟩⟩
structure GKnown where
 Node : Int
 Value : GSet
instance : Inhabited GKnown := ⟨⟨0, ⟨0, []⟩⟩⟩
def tab0 : Str := (Str.mk [0, 1, 2, 2, 3, 3, 3, 3, 4, 4, 4, 4, 4, 4, 4, 4, 5, 5, 5, 5, 5, 5, 5, 5, 5, 5, 5, 5, 5, 5, 5, 5, 6, 6, 6, 6, 6, 6, 6, 6, 6, 6, 6, 6, 6, 6, 6, 6, 6, 6, 6, 6, 6, 6, 6, 6, 6, 6, 6, 6, 6, 6, 6, 6, 7, 7, 7, 7, 7, 7, 7, 7, 7, 7, 7, 7, 7, 7, 7, 7, 7, 7, 7, 7, 7, 7, 7, 7, 7, 7, 7, 7, 7, 7, 7, 7, 7, 7, 7, 7, 7, 7, 7, 7, 7, 7, 7, 7, 7, 7, 7, 7, 7, 7, 7, 7, 7, 7, 7, 7, 7, 7, 7, 7, 7, 7, 7, 7, 8, 8, 8, 8, 8, 8, 8, 8, 8, 8, 8, 8, 8, 8, 8, 8, 8, 8, 8, 8, 8, 8, 8, 8, 8, 8, 8, 8, 8, 8, 8, 8, 8, 8, 8, 8, 8, 8, 8, 8, 8, 8, 8, 8, 8, 8, 8, 8, 8, 8, 8, 8, 8, 8, 8, 8, 8, 8, 8, 8, 8, 8, 8, 8, 8, 8, 8, 8, 8, 8, 8, 8, 8, 8, 8, 8, 8, 8, 8, 8, 8, 8, 8, 8, 8, 8, 8, 8, 8, 8, 8, 8, 8, 8, 8, 8, 8, 8, 8, 8, 8, 8, 8, 8, 8, 8, 8, 8, 8, 8, 8, 8, 8, 8, 8, 8, 8, 8, 8, 8, 8, 8, 8, 8, 8, 8, 8, 8])
instance rep_GSet : Rep GSet where
 sz := 2
 bytes := 32
 pos := by decide
 bpos := by decide
 rd w M cs x := ∃ c1, cs = [.int .i64 x.Width, c1] ∧ i64ok x.Width ∧ slrd w M c1 x.Words
 len := by rintro w M cs x ⟨c1, rfl, h0, h1⟩; rfl
 one := by
  rintro w M cs x ⟨c1, rfl, h0, h1⟩ v hv
  simp only [List.mem_cons, List.not_mem_nil, or_false] at hv
  rcases hv with rfl | rfl
  all_goals first | rfl | exact slrd_one h1
 st := by
  rintro w M cs x w' M' ⟨c1, rfl, h0, h1⟩ e
  exact ⟨c1, rfl, h0, slrd_st h1 e⟩
theorem JJ_peek_GSet {C : Cx} {X : Act → World → Prop} {L : Env} {A : List SP} {c : Value} {xs : List GSet} (i m : Nat) (hA : A[m]? = some (sl c xs)) (hi : i < xs.length)
  (h : ∀ (a1 : Option Addr) (k1 : Nat), i64ok (xs.getD i default).Width → JJ C X L (pv (eptr 2 c i) [.int .i64 (xs.getD i default).Width, .slice a1 (xs.getD i default).Words.length k1] :: sl (.slice a1 (xs.getD i default).Words.length k1) (xs.getD i default).Words :: A)) : JJ C X L A := by
 refine JJ_peek i m hA hi default fun cs => ?_
 intro a w M F st
 obtain ⟨F1, F2, q1, q2, qd, hp, F3, F4, q3, q4, qd2, hr, hs⟩ := st.sp
 obtain ⟨c1, rfl, h0, h1⟩ := hr
 have g1 := h1
 obtain ⟨_, a1, k1, rfl, _⟩ := h1
 exact h a1 k1 h0 a w M F ⟨st.step, st.sz, st.df, st.sat, F1, F2, q1, q2, qd, hp, ⟨fun _ => False, _, fun _ h => h.elim, fun _ h => h, fun _ h _ => h, g1, sepAll_up hs q4⟩⟩
instance rep_GCopy : Rep GCopy where
 sz := 2
 bytes := 16
 pos := by decide
 bpos := by decide
 rd w M cs x := cs = [.int .i64 x.From, .int .i64 x.To] ∧ i64ok x.From ∧ i64ok x.To
 len := by rintro w M cs x ⟨rfl, h0, h1⟩; rfl
 one := by
  rintro w M cs x ⟨rfl, h0, h1⟩ v hv
  simp only [List.mem_cons, List.not_mem_nil, or_false] at hv
  rcases hv with rfl | rfl
  all_goals first | rfl
 st := by
  rintro w M cs x w' M' ⟨rfl, h0, h1⟩ e
  exact ⟨rfl, h0, h1⟩
theorem JJ_peek_GCopy {C : Cx} {X : Act → World → Prop} {L : Env} {A : List SP} {c : Value} {xs : List GCopy} (i m : Nat) (hA : A[m]? = some (sl c xs)) (hi : i < xs.length)
  (h : i64ok (xs.getD i default).From → i64ok (xs.getD i default).To → JJ C X L (pv (eptr 2 c i) [.int .i64 (xs.getD i default).From, .int .i64 (xs.getD i default).To] :: A)) : JJ C X L A := by
 refine JJ_peek i m hA hi default fun cs => ?_
 intro a w M F st
 obtain ⟨F1, F2, q1, q2, qd, hp, F3, F4, q3, q4, qd2, hr, hs⟩ := st.sp
 obtain ⟨rfl, h0, h1⟩ := hr
 exact h h0 h1 a w M F ⟨st.step, st.sz, st.df, st.sat, F1, F2, q1, q2, qd, hp, sepAll_up hs q4⟩
instance rep_GTransfer : Rep GTransfer where
 sz := 5
 bytes := 88
 pos := by decide
 bpos := by decide
 rd w M cs x := ∃ c1 c3 c4, cs = [.int .i64 x.Gen.Width, c1, .int .i64 x.Kill.Width, c3, c4] ∧ i64ok x.Gen.Width ∧ slrd w M c1 x.Gen.Words ∧ i64ok x.Kill.Width ∧ slrd w M c3 x.Kill.Words ∧ slrd w M c4 x.Copies
 len := by rintro w M cs x ⟨c1, c3, c4, rfl, h0, h1, h2, h3, h4⟩; rfl
 one := by
  rintro w M cs x ⟨c1, c3, c4, rfl, h0, h1, h2, h3, h4⟩ v hv
  simp only [List.mem_cons, List.not_mem_nil, or_false] at hv
  rcases hv with rfl | rfl | rfl | rfl | rfl
  all_goals first | rfl | exact slrd_one h1 | exact slrd_one h3 | exact slrd_one h4
 st := by
  rintro w M cs x w' M' ⟨c1, c3, c4, rfl, h0, h1, h2, h3, h4⟩ e
  exact ⟨c1, c3, c4, rfl, h0, slrd_st h1 e, h2, slrd_st h3 e, slrd_st h4 e⟩
theorem JJ_peek_GTransfer {C : Cx} {X : Act → World → Prop} {L : Env} {A : List SP} {c : Value} {xs : List GTransfer} (i m : Nat) (hA : A[m]? = some (sl c xs)) (hi : i < xs.length)
  (h : ∀ (a1 : Option Addr) (k1 : Nat) (a3 : Option Addr) (k3 : Nat) (a4 : Option Addr) (k4 : Nat), i64ok ((xs.getD i default).Gen).Width → i64ok ((xs.getD i default).Kill).Width → JJ C X L (pv (eptr 5 c i) [.int .i64 ((xs.getD i default).Gen).Width, .slice a1 ((xs.getD i default).Gen).Words.length k1, .int .i64 ((xs.getD i default).Kill).Width, .slice a3 ((xs.getD i default).Kill).Words.length k3, .slice a4 (xs.getD i default).Copies.length k4] :: sl (.slice a1 ((xs.getD i default).Gen).Words.length k1) ((xs.getD i default).Gen).Words :: sl (.slice a3 ((xs.getD i default).Kill).Words.length k3) ((xs.getD i default).Kill).Words :: sl (.slice a4 (xs.getD i default).Copies.length k4) (xs.getD i default).Copies :: A)) : JJ C X L A := by
 refine JJ_peek i m hA hi default fun cs => ?_
 intro a w M F st
 obtain ⟨F1, F2, q1, q2, qd, hp, F3, F4, q3, q4, qd2, hr, hs⟩ := st.sp
 obtain ⟨c1, c3, c4, rfl, h0, h1, h2, h3, h4⟩ := hr
 have g1 := h1
 obtain ⟨_, a1, k1, rfl, _⟩ := h1
 have g3 := h3
 obtain ⟨_, a3, k3, rfl, _⟩ := h3
 have g4 := h4
 obtain ⟨_, a4, k4, rfl, _⟩ := h4
 exact h a1 k1 a3 k3 a4 k4 h0 h2 a w M F ⟨st.step, st.sz, st.df, st.sat, F1, F2, q1, q2, qd, hp, ⟨fun _ => False, _, fun _ h => h.elim, fun _ h => h, fun _ h _ => h, g1, ⟨fun _ => False, _, fun _ h => h.elim, fun _ h => h, fun _ h _ => h, g3, ⟨fun _ => False, _, fun _ h => h.elim, fun _ h => h, fun _ h _ => h, g4, sepAll_up hs q4⟩⟩⟩⟩
instance rep_GSystem : Rep GSystem where
 sz := 4
 bytes := 80
 pos := by decide
 bpos := by decide
 rd w M cs x := ∃ c1 c2 c3, cs = [.int .i64 x.Width, c1, c2, c3] ∧ i64ok x.Width ∧ slrd w M c1 x.Deps ∧ slrd w M c2 x.Transfers ∧ slrd w M c3 x.Boundary
 len := by rintro w M cs x ⟨c1, c2, c3, rfl, h0, h1, h2, h3⟩; rfl
 one := by
  rintro w M cs x ⟨c1, c2, c3, rfl, h0, h1, h2, h3⟩ v hv
  simp only [List.mem_cons, List.not_mem_nil, or_false] at hv
  rcases hv with rfl | rfl | rfl | rfl
  all_goals first | rfl | exact slrd_one h1 | exact slrd_one h2 | exact slrd_one h3
 st := by
  rintro w M cs x w' M' ⟨c1, c2, c3, rfl, h0, h1, h2, h3⟩ e
  exact ⟨c1, c2, c3, rfl, h0, slrd_st h1 e, slrd_st h2 e, slrd_st h3 e⟩
instance rep_GKnown : Rep GKnown where
 sz := 3
 bytes := 40
 pos := by decide
 bpos := by decide
 rd w M cs x := ∃ c2, cs = [.int .i64 x.Node, .int .i64 x.Value.Width, c2] ∧ i64ok x.Node ∧ i64ok x.Value.Width ∧ slrd w M c2 x.Value.Words
 len := by rintro w M cs x ⟨c2, rfl, h0, h1, h2⟩; rfl
 one := by
  rintro w M cs x ⟨c2, rfl, h0, h1, h2⟩ v hv
  simp only [List.mem_cons, List.not_mem_nil, or_false] at hv
  rcases hv with rfl | rfl | rfl
  all_goals first | rfl | exact slrd_one h2
 st := by
  rintro w M cs x w' M' ⟨c2, rfl, h0, h1, h2⟩ e
  exact ⟨c2, rfl, h0, h1, slrd_st h2 e⟩
theorem JJ_peek_GKnown {C : Cx} {X : Act → World → Prop} {L : Env} {A : List SP} {c : Value} {xs : List GKnown} (i m : Nat) (hA : A[m]? = some (sl c xs)) (hi : i < xs.length)
  (h : ∀ (a2 : Option Addr) (k2 : Nat), i64ok (xs.getD i default).Node → i64ok ((xs.getD i default).Value).Width → JJ C X L (pv (eptr 3 c i) [.int .i64 (xs.getD i default).Node, .int .i64 ((xs.getD i default).Value).Width, .slice a2 ((xs.getD i default).Value).Words.length k2] :: sl (.slice a2 ((xs.getD i default).Value).Words.length k2) ((xs.getD i default).Value).Words :: A)) : JJ C X L A := by
 refine JJ_peek i m hA hi default fun cs => ?_
 intro a w M F st
 obtain ⟨F1, F2, q1, q2, qd, hp, F3, F4, q3, q4, qd2, hr, hs⟩ := st.sp
 obtain ⟨c2, rfl, h0, h1, h2⟩ := hr
 have g2 := h2
 obtain ⟨_, a2, k2, rfl, _⟩ := h2
 exact h a2 k2 h0 h1 a w M F ⟨st.step, st.sz, st.df, st.sat, F1, F2, q1, q2, qd, hp, ⟨fun _ => False, _, fun _ h => h.elim, fun _ h => h, fun _ h _ => h, g2, sepAll_up hs q4⟩⟩
theorem ofInt_ne (n : Int) (h : 1 ≤ n ∧ n ≤ 9223372036854775807) : BitVec.ofInt 64 n ≠ 0 := by
 intro e
 have := congrArg BitVec.toNat e
 rw [BitVec.toNat_ofInt] at this
 simp at this
 omega
theorem mod_range (v n : Int) (h : 1 ≤ n ∧ n ≤ 9223372036854775807) : 0 ≤ (((BitVec.ofInt 64 v) % (BitVec.ofInt 64 n)).toNat : Int) ∧ (((BitVec.ofInt 64 v) % (BitVec.ofInt 64 n)).toNat : Int) < n := by
 rw [BitVec.toNat_umod, BitVec.toNat_ofInt, BitVec.toNat_ofInt]
 have e : (n % ((2 ^ 64 : Nat) : Int)).toNat = n.toNat := by omega
 rw [e]
 have : (v % ((2 ^ 64 : Nat) : Int)).toNat % n.toNat < n.toNat := Nat.mod_lt _ (by omega)
 omega
theorem mod_le (v n : Int) (h : 1 ≤ n ∧ n ≤ 9223372036854775807) : (((BitVec.ofInt 64 v) % (BitVec.ofInt 64 n)).toNat : Int) ≤ 9223372036854775807 := by
 have := mod_range v n h; omega
theorem getD_all {α : Type} {p : α → Prop} {xs : List α} {d : α} (h : ∀ x ∈ xs, p x) (hd : p d) (i : Nat) : p (xs.getD i d) := by
 rw [List.getD_eq_getElem?_getD]
 cases hx : xs[i]? with
 | none => exact hd
 | some x => exact h x (List.mem_of_getElem? hx)
def eq_sized (width : Int) (n : Int) : Bool :=
 bif decide (0 ≤ width) then
  bif decide (width ≤ 256) then
   bif decide (1 ≤ n) then
    decide (n ≤ 256)
   else
    false
  else
   false
 else
  false
def eq_ascending_L0 (l : List Int) (n : Int) : Nat → Int → LR Unit Bool
 | 0, v9 =>
  .brk ()
 | r + 1, v9 =>
  bif decide ((l.getD v9.toNat 0) < 0) then
   .ret false
  else
   bif decide (n ≤ (l.getD v9.toNat 0)) then
    .ret false
   else
    bif decide (0 < v9) then
     bif decide ((l.getD v9.toNat 0) ≤ (l.getD ((v9 - 1) : Int).toNat 0)) then
      .ret false
     else
      eq_ascending_L0 l n r (v9 + 1)
    else
     eq_ascending_L0 l n r (v9 + 1)
def eq_ascending (l : List Int) (n : Int) : Bool :=
 match eq_ascending_L0 l n (((l.length : Int) - 0).toNat) 0 with
 | .brk _ =>
  true
 | .ret r => r
 | .oof => default
def sc_IndexFunc_Set_L0 (s : List GSet) (fp : GSet → Bool) : Nat → Int → LR Unit Int
 | 0, v8 =>
  .brk ()
 | r + 1, v8 =>
  bif (fp (s.getD v8.toNat default)) then
   .ret v8
  else
   sc_IndexFunc_Set_L0 s fp r (v8 + 1)
def sc_IndexFunc_Set (s : List GSet) (fp : GSet → Bool) : Int :=
 match sc_IndexFunc_Set_L0 s fp (((s.length : Int) - 0).toNat) 0 with
 | .brk _ =>
  -1
 | .ret r => r
 | .oof => default
def sc_ContainsFunc_Set (s : List GSet) (fp : GSet → Bool) : Bool :=
 let rv1 := (sc_IndexFunc_Set s fp)
 decide (0 ≤ rv1)
def bt_ranged (width : Int) : Bool :=
 bif decide (0 ≤ width) then
  decide (width ≤ 256)
 else
  false
def bt_words (width : Int) : Int :=
 (((width + 64) - 1) / 64)
def bt_spare (width : Int) : BitVec 64 :=
 (18446744073709551615#64 <<< ((((BitVec.ofInt 64 width) % 64#64).toNat : Int)).toNat)
def bt_Valid (s : GSet) : Bool :=
 let rv2 := (bt_ranged s.Width)
 bif (!rv2) then
  false
 else
  let rv12 := (bt_words s.Width)
  bif ((s.Words.length : Int) != rv12) then
   false
  else
   bif ((s.Width % 64) == 0) then
    true
   else
    let rv23 := (bt_spare s.Width)
    (((s.Words.getD (((s.Words.length : Int) - 1) : Int).toNat 0#64) &&& rv23) == 0#64)
def eq_sets_1 (s : GSet) (cap0 : Int) : Bool :=
 let rv2 := (bt_Valid s)
 bif (!rv2) then
  true
 else
  (s.Width != cap0)
def eq_sets (width : Int) (l : List GSet) : Bool :=
 let rv2 := (sc_ContainsFunc_Set l (fun x => eq_sets_1 x width))
 (!rv2)
def sc_IndexFunc_Transfer_L0 (s : List GTransfer) (fp : GTransfer → Bool) : Nat → Int → LR Unit Int
 | 0, v8 =>
  .brk ()
 | r + 1, v8 =>
  bif (fp (s.getD v8.toNat default)) then
   .ret v8
  else
   sc_IndexFunc_Transfer_L0 s fp r (v8 + 1)
def sc_IndexFunc_Transfer (s : List GTransfer) (fp : GTransfer → Bool) : Int :=
 match sc_IndexFunc_Transfer_L0 s fp (((s.length : Int) - 0).toNat) 0 with
 | .brk _ =>
  -1
 | .ret r => r
 | .oof => default
def sc_ContainsFunc_Transfer (s : List GTransfer) (fp : GTransfer → Bool) : Bool :=
 let rv1 := (sc_IndexFunc_Transfer s fp)
 decide (0 ≤ rv1)
def tf_bit (t : GTransfer) (b : Int) : Bool :=
 bif decide (0 ≤ b) then
  decide (b < t.Gen.Width)
 else
  false
def cmp_Or_int_L0 (vals : List Int) : Nat → Int → LR Unit Int
 | 0, v8 =>
  .brk ()
 | r + 1, v8 =>
  bif ((vals.getD v8.toNat 0) != 0) then
   .ret (vals.getD v8.toNat 0)
  else
   cmp_Or_int_L0 vals r (v8 + 1)
def cmp_Or_int (vals : List Int) : Int :=
 match cmp_Or_int_L0 vals (((vals.length : Int) - 0).toNat) 0 with
 | .brk _ =>
  0
 | .ret r => r
 | .oof => default
def cmp_isNaN_int (x : Int) : Bool :=
 (x != x)
def cmp_Compare_int (x : Int) (y : Int) : Int :=
 let rv1 := (cmp_isNaN_int x)
 let rv4 := (cmp_isNaN_int y)
 bif rv1 then
  bif rv4 then
   0
  else
   -1
 else
  bif rv4 then
   1
  else
   bif decide (x < y) then
    -1
   else
    bif decide (y < x) then
     1
    else
     0
def tf_compare (a : GCopy) (b : GCopy) : Int :=
 let rv3 := (cmp_Compare_int a.From b.From)
 let rv7 := (cmp_Compare_int a.To b.To)
 let rv14 := (cmp_Or_int [rv3, rv7])
 rv14
def tf_Valid_L0 (t : GTransfer) : Nat → Int → LR Unit Bool
 | 0, v33 =>
  .brk ()
 | r + 1, v33 =>
  let rv33 := (tf_bit t ((t.Copies.getD v33.toNat default).From))
  bif (!rv33) then
   .ret false
  else
   let rv43 := (tf_bit t ((t.Copies.getD v33.toNat default).To))
   bif (!rv43) then
    .ret false
   else
    bif decide (0 < v33) then
     let rv57 := (tf_compare (t.Copies.getD ((v33 - 1) : Int).toNat default) (t.Copies.getD v33.toNat default))
     bif decide (0 ≤ rv57) then
      .ret false
     else
      tf_Valid_L0 t r (v33 + 1)
    else
     tf_Valid_L0 t r (v33 + 1)
def tf_Valid (t : GTransfer) : Bool :=
 let rv2 := (bt_Valid t.Gen)
 bif (!rv2) then
  false
 else
  let rv12 := (bt_Valid t.Kill)
  bif (!rv12) then
   false
  else
   bif (t.Gen.Width != t.Kill.Width) then
    false
   else
    bif decide (64 < (t.Copies.length : Int)) then
     false
    else
     match tf_Valid_L0 t (((t.Copies.length : Int) - 0).toNat) 0 with
     | .brk _ =>
      true
     | .ret r => r
     | .oof => default
def eq_fits (width : Int) (f : GTransfer) : Bool :=
 let rv2 := (tf_Valid f)
 bif rv2 then
  (f.Gen.Width == width)
 else
  false
def eq_Valid_1 (f : GTransfer) (cap0 : GSystem) : Bool :=
 let rv2 := (eq_fits cap0.Width f)
 (!rv2)
def eq_Valid_L0 (s : GSystem) : Nat → Int → Int → LR Unit Bool
 | 0, edges, v32 =>
  .brk ()
 | r + 1, edges, v32 =>
  bif decide (1024 < (edges + ((s.Deps.getD v32.toNat []).length : Int))) then
   .ret false
  else
   let rv27 := (eq_ascending (s.Deps.getD v32.toNat []) (s.Deps.length : Int))
   bif (!rv27) then
    .ret false
   else
    eq_Valid_L0 s r (edges + ((s.Deps.getD v32.toNat []).length : Int)) (v32 + 1)
def eq_Valid (s : GSystem) : Bool :=
 let rv2 := (eq_sized s.Width (s.Deps.length : Int))
 bif (!rv2) then
  false
 else
  bif ((s.Transfers.length : Int) != (s.Deps.length : Int)) then
   false
  else
   bif ((s.Boundary.length : Int) != (s.Deps.length : Int)) then
    false
   else
    match eq_Valid_L0 s (((s.Deps.length : Int) - 0).toNat) 0 0 with
    | .brk _ =>
     let rv18 := (eq_sets s.Width s.Boundary)
     bif rv18 then
      let rv23 := (sc_ContainsFunc_Transfer s.Transfers (fun x => eq_Valid_1 x s))
      (!rv23)
     else
      false
    | .ret r => r
    | .oof => default
def sc_IndexFunc_int_L0 (s : List Int) (fp : Int → Bool) : Nat → Int → LR Unit Int
 | 0, v8 =>
  .brk ()
 | r + 1, v8 =>
  bif (fp (s.getD v8.toNat 0)) then
   .ret v8
  else
   sc_IndexFunc_int_L0 s fp r (v8 + 1)
def sc_IndexFunc_int (s : List Int) (fp : Int → Bool) : Int :=
 match sc_IndexFunc_int_L0 s fp (((s.length : Int) - 0).toNat) 0 with
 | .brk _ =>
  -1
 | .ret r => r
 | .oof => default
def sc_ContainsFunc_int (s : List Int) (fp : Int → Bool) : Bool :=
 let rv1 := (sc_IndexFunc_int s fp)
 decide (0 ≤ rv1)
def cn_unknowns_1 (n : Int) (cap0 : GSystem) : Bool :=
 bif decide (n < 0) then
  true
 else
  decide ((cap0.Deps.length : Int) ≤ n)
def cn_unknowns (s : GSystem) (l : List Int) : Bool :=
 let rv2 := (sc_ContainsFunc_int l (fun x => cn_unknowns_1 x s))
 (!rv2)
def sc_IndexFunc_Known_L0 (s : List GKnown) (fp : GKnown → Bool) : Nat → Int → LR Unit Int
 | 0, v8 =>
  .brk ()
 | r + 1, v8 =>
  bif (fp (s.getD v8.toNat default)) then
   .ret v8
  else
   sc_IndexFunc_Known_L0 s fp r (v8 + 1)
def sc_IndexFunc_Known (s : List GKnown) (fp : GKnown → Bool) : Int :=
 match sc_IndexFunc_Known_L0 s fp (((s.length : Int) - 0).toNat) 0 with
 | .brk _ =>
  -1
 | .ret r => r
 | .oof => default
def sc_ContainsFunc_Known (s : List GKnown) (fp : GKnown → Bool) : Bool :=
 let rv1 := (sc_IndexFunc_Known s fp)
 decide (0 ≤ rv1)
def cn_Restrict_1 (k : GKnown) (cap0 : GSystem) : Bool :=
 let rv5 := (cn_unknowns cap0 [k.Node])
 (!rv5)
def cmp_Less_int (x : Int) (y : Int) : Bool :=
 let rv1 := (cmp_isNaN_int x)
 bif rv1 then
  let rv6 := (cmp_isNaN_int y)
  bif (!rv6) then
   true
  else
   decide (x < y)
 else
  decide (x < y)
def sc_insertionSortOrdered_int_L1  : Nat → List Int → Int → List Int
 | 0, data', j =>
  data'
 | r + 1, data', j =>
  let rv7 := (cmp_Less_int (data'.getD j.toNat 0) (data'.getD ((j - 1) : Int).toNat 0))
  bif rv7 then
   sc_insertionSortOrdered_int_L1 r ((data'.set j.toNat (data'.getD ((j - 1) : Int).toNat 0)).set ((j - 1) : Int).toNat (data'.getD j.toNat 0)) (j - 1)
  else
   data'
def sc_insertionSortOrdered_int_L0 (a : Int) : Nat → List Int → Int → List Int
 | 0, data', i =>
  data'
 | r + 1, data', i =>
  match sc_insertionSortOrdered_int_L1 (((i : Int) - a).toNat) data' i with
  | o1_0 =>
   sc_insertionSortOrdered_int_L0 a r o1_0 (i + 1)
def sc_insertionSortOrdered_int (data : List Int) (a : Int) (b : Int) : List Int :=
 match sc_insertionSortOrdered_int_L0 a (((b : Int) - (a + 1)).toNat) data (a + 1) with
 | o0_0 =>
  o0_0
def sc_siftDownOrdered_int_L0 (hi : Int) (first : Int) : Nat → List Int → Int → LR (List Int) (List Int)
 | 0, data', root =>
  .oof
 | r + 1, data', root =>
  bif decide (hi ≤ ((2 * root) + 1)) then
   .brk data'
  else
   bif decide ((((2 * root) + 1) + 1) < hi) then
    let rv8 := (cmp_Less_int (data'.getD ((first + ((2 * root) + 1)) : Int).toNat 0) (data'.getD (((first + ((2 * root) + 1)) + 1) : Int).toNat 0))
    bif rv8 then
     let rv15 := (cmp_Less_int (data'.getD ((first + root) : Int).toNat 0) (data'.getD ((first + (((2 * root) + 1) + 1)) : Int).toNat 0))
     bif (!rv15) then
      .ret data'
     else
      sc_siftDownOrdered_int_L0 hi first r ((data'.set ((first + root) : Int).toNat (data'.getD ((first + (((2 * root) + 1) + 1)) : Int).toNat 0)).set ((first + (((2 * root) + 1) + 1)) : Int).toNat (data'.getD ((first + root) : Int).toNat 0)) (((2 * root) + 1) + 1)
    else
     let rv30 := (cmp_Less_int (data'.getD ((first + root) : Int).toNat 0) (data'.getD ((first + ((2 * root) + 1)) : Int).toNat 0))
     bif (!rv30) then
      .ret data'
     else
      sc_siftDownOrdered_int_L0 hi first r ((data'.set ((first + root) : Int).toNat (data'.getD ((first + ((2 * root) + 1)) : Int).toNat 0)).set ((first + ((2 * root) + 1)) : Int).toNat (data'.getD ((first + root) : Int).toNat 0)) ((2 * root) + 1)
   else
    let rv45 := (cmp_Less_int (data'.getD ((first + root) : Int).toNat 0) (data'.getD ((first + ((2 * root) + 1)) : Int).toNat 0))
    bif (!rv45) then
     .ret data'
    else
     sc_siftDownOrdered_int_L0 hi first r ((data'.set ((first + root) : Int).toNat (data'.getD ((first + ((2 * root) + 1)) : Int).toNat 0)).set ((first + ((2 * root) + 1)) : Int).toNat (data'.getD ((first + root) : Int).toNat 0)) ((2 * root) + 1)
def sc_siftDownOrdered_int (data : List Int) (lo : Int) (hi : Int) (first : Int) : List Int :=
 match sc_siftDownOrdered_int_L0 hi first (hi.toNat + 1) data lo with
 | .brk o0_0 =>
  o0_0
 | .ret r => r
 | .oof => default
def sc_heapSortOrdered_int_L0 (a : Int) (b : Int) : Nat → List Int → Int → LR (List Int) (List Int)
 | 0, data', i =>
  .oof
 | r + 1, data', i =>
  bif decide (0 ≤ i) then
   let rv4 := (sc_siftDownOrdered_int data' i (b - a) a)
   sc_heapSortOrdered_int_L0 a b r rv4 (i - 1)
  else
   .brk data'
def sc_heapSortOrdered_int_L1 (a : Int) : Nat → List Int → Int → LR (List Int) (List Int)
 | 0, data', i =>
  .oof
 | r + 1, data', i =>
  bif decide (0 ≤ i) then
   let rv7 := (sc_siftDownOrdered_int ((data'.set a.toNat (data'.getD ((a + i) : Int).toNat 0)).set ((a + i) : Int).toNat (data'.getD a.toNat 0)) 0 i a)
   sc_heapSortOrdered_int_L1 a r rv7 (i - 1)
  else
   .brk data'
def sc_heapSortOrdered_int (data : List Int) (a : Int) (b : Int) : List Int :=
 match sc_heapSortOrdered_int_L0 a b ((b - a).toNat + 1) data (((b - a) - 1) / 2) with
 | .brk o0_0 =>
  match sc_heapSortOrdered_int_L1 a ((b - a).toNat + 1) o0_0 ((b - a) - 1) with
  | .brk o1_0 =>
   o1_0
  | .ret _ => default
  | .oof => default
 | .ret _ => default
 | .oof => default
def bits_Len64 (x : BitVec 64) : Int :=
 bif decide (256 ≤ (x.toNat : Int)) then
  ((0 + 8) + ((tab0.b.getD (((x >>> (((8#64).toNat : Int)).toNat).toNat : Int) : Int).toNat 0).toNat : Int))
 else
  (0 + ((tab0.b.getD ((x.toNat : Int) : Int).toNat 0).toNat : Int))
def bits_Len (x : BitVec 64) : Int :=
 let rv1 := (bits_Len64 x)
 rv1
def sc_nextPowerOfTwo (length : Int) : BitVec 64 :=
 let rv1 := (bits_Len (BitVec.ofInt 64 length))
 (1#64 <<< (rv1).toNat)
def xorshift_Next (r : BitVec 64) : BitVec 64 × BitVec 64 :=
 ((((r ^^^ (r <<< (((13#64).toNat : Int)).toNat)) ^^^ ((r ^^^ (r <<< (((13#64).toNat : Int)).toNat)) >>> (((7#64).toNat : Int)).toNat)) ^^^ (((r ^^^ (r <<< (((13#64).toNat : Int)).toNat)) ^^^ ((r ^^^ (r <<< (((13#64).toNat : Int)).toNat)) >>> (((7#64).toNat : Int)).toNat)) <<< (((17#64).toNat : Int)).toNat)), (((r ^^^ (r <<< (((13#64).toNat : Int)).toNat)) ^^^ ((r ^^^ (r <<< (((13#64).toNat : Int)).toNat)) >>> (((7#64).toNat : Int)).toNat)) ^^^ (((r ^^^ (r <<< (((13#64).toNat : Int)).toNat)) ^^^ ((r ^^^ (r <<< (((13#64).toNat : Int)).toNat)) >>> (((7#64).toNat : Int)).toNat)) <<< (((17#64).toNat : Int)).toNat)))
def sc_breakPatternsOrdered_int_L0 (a : Int) (b : Int) (modulus : BitVec 64) : Nat → List Int → BitVec 64 → Int → LR (List Int) (List Int)
 | 0, data', random0, idx =>
  .oof
 | r + 1, data', random0, idx =>
  bif decide (idx ≤ ((a + (((b - a) / 4) * 2)) + 1)) then
   let rv9 := (xorshift_Next random0)
   bif decide ((b - a) ≤ ((rv9.1 &&& (modulus - 1#64)).toNat : Int)) then
    sc_breakPatternsOrdered_int_L0 a b modulus r ((data'.set idx.toNat (data'.getD ((a + (((rv9.1 &&& (modulus - 1#64)).toNat : Int) - (b - a))) : Int).toNat 0)).set ((a + (((rv9.1 &&& (modulus - 1#64)).toNat : Int) - (b - a))) : Int).toNat (data'.getD idx.toNat 0)) rv9.2 (idx + 1)
   else
    sc_breakPatternsOrdered_int_L0 a b modulus r ((data'.set idx.toNat (data'.getD ((a + ((rv9.1 &&& (modulus - 1#64)).toNat : Int)) : Int).toNat 0)).set ((a + ((rv9.1 &&& (modulus - 1#64)).toNat : Int)) : Int).toNat (data'.getD idx.toNat 0)) rv9.2 (idx + 1)
  else
   .brk data'
def sc_breakPatternsOrdered_int (data : List Int) (a : Int) (b : Int) : List Int :=
 bif decide (8 ≤ (b - a)) then
  let rv4 := (sc_nextPowerOfTwo (b - a))
  match sc_breakPatternsOrdered_int_L0 a b rv4 4 data (BitVec.ofInt 64 (b - a)) ((a + (((b - a) / 4) * 2)) - 1) with
  | .brk o0_0 =>
   o0_0
  | .ret _ => default
  | .oof => default
 else
  data
def sc_order2Ordered_int (data : List Int) (a : Int) (b : Int) (swaps : Int) : Int × Int × Int :=
 let rv3 := (cmp_Less_int (data.getD b.toNat 0) (data.getD a.toNat 0))
 bif rv3 then
  (b, a, (swaps + 1))
 else
  (a, b, swaps)
def sc_medianOrdered_int (data : List Int) (a : Int) (b : Int) (c : Int) (swaps : Int) : Int × Int :=
 let rv1 := (sc_order2Ordered_int data a b swaps)
 let rv9 := (sc_order2Ordered_int data rv1.2.1 c rv1.2.2)
 let rv17 := (sc_order2Ordered_int data rv1.1 rv9.1 rv9.2.2)
 (rv17.2.1, rv17.2.2)
def sc_medianAdjacentOrdered_int (data : List Int) (a : Int) (swaps : Int) : Int × Int :=
 let rv1 := (sc_medianOrdered_int data (a - 1) a (a + 1) swaps)
 (rv1.1, rv1.2)
def sc_choosePivotOrdered_int (data : List Int) (a : Int) (b : Int) : Int × Int :=
 bif decide (8 ≤ (b - a)) then
  bif decide (50 ≤ (b - a)) then
   let rv6 := (sc_medianAdjacentOrdered_int data (a + (((b - a) / 4) * 1)) 0)
   let rv13 := (sc_medianAdjacentOrdered_int data (a + (((b - a) / 4) * 2)) rv6.2)
   let rv20 := (sc_medianAdjacentOrdered_int data (a + (((b - a) / 4) * 3)) rv13.2)
   let rv27 := (sc_medianOrdered_int data rv6.1 rv13.1 rv20.1 rv20.2)
   bif (rv27.2 == 0) then
    (rv27.1, 1)
   else
    bif (rv27.2 == 12) then
     (rv27.1, 2)
    else
     (rv27.1, 0)
  else
   let rv41 := (sc_medianOrdered_int data (a + (((b - a) / 4) * 1)) (a + (((b - a) / 4) * 2)) (a + (((b - a) / 4) * 3)) 0)
   bif (rv41.2 == 0) then
    (rv41.1, 1)
   else
    bif (rv41.2 == 12) then
     (rv41.1, 2)
    else
     (rv41.1, 0)
 else
  ((a + (((b - a) / 4) * 2)), 1)
def sc_reverseRangeOrdered_int_L0  : Nat → List Int → Int → Int → LR (List Int) (List Int)
 | 0, data', i, j =>
  .oof
 | r + 1, data', i, j =>
  bif decide (i < j) then
   sc_reverseRangeOrdered_int_L0 r ((data'.set i.toNat (data'.getD j.toNat 0)).set j.toNat (data'.getD i.toNat 0)) (i + 1) (j - 1)
  else
   .brk data'
def sc_reverseRangeOrdered_int (data : List Int) (a : Int) (b : Int) : List Int :=
 match sc_reverseRangeOrdered_int_L0 ((b - a).toNat + 1) data a (b - 1) with
 | .brk o0_0 =>
  o0_0
 | .ret _ => default
 | .oof => default
def sc_partialInsertionSortOrdered_int_L1  (data' : List Int) : Nat → Int → Int
 | 0, i =>
  i
 | r + 1, i =>
  let rv7 := (cmp_Less_int (data'.getD i.toNat 0) (data'.getD ((i - 1) : Int).toNat 0))
  bif (!rv7) then
   sc_partialInsertionSortOrdered_int_L1 data' r (i + 1)
  else
   i
def sc_partialInsertionSortOrdered_int_L2  : Nat → List Int → Int → LR (List Int) (Bool × List Int)
 | 0, data', j' =>
  .oof
 | r + 1, data', j' =>
  bif decide (1 ≤ j') then
   let rv18 := (cmp_Less_int (data'.getD j'.toNat 0) (data'.getD ((j' - 1) : Int).toNat 0))
   bif (!rv18) then
    .brk data'
   else
    sc_partialInsertionSortOrdered_int_L2 r ((data'.set j'.toNat (data'.getD ((j' - 1) : Int).toNat 0)).set ((j' - 1) : Int).toNat (data'.getD j'.toNat 0)) (j' - 1)
  else
   .brk data'
def sc_partialInsertionSortOrdered_int_L3  : Nat → List Int → Int → List Int
 | 0, data', j' =>
  data'
 | r + 1, data', j' =>
  let rv21 := (cmp_Less_int (data'.getD j'.toNat 0) (data'.getD ((j' - 1) : Int).toNat 0))
  bif (!rv21) then
   data'
  else
   sc_partialInsertionSortOrdered_int_L3 r ((data'.set j'.toNat (data'.getD ((j' - 1) : Int).toNat 0)).set ((j' - 1) : Int).toNat (data'.getD j'.toNat 0)) (j' + 1)
def sc_partialInsertionSortOrdered_int_L0 (data : List Int) (a : Int) (b : Int) : Nat → List Int → Int → Int → LR (List Int) (Bool × List Int)
 | 0, data', i, j =>
  .brk data'
 | r + 1, data', i, j =>
  match sc_partialInsertionSortOrdered_int_L1 data' (((b : Int) - i).toNat) i with
  | o1_0 =>
   bif (o1_0 == b) then
    .ret (true, data')
   else
    bif decide ((b - a) < 50) then
     .ret (false, data')
    else
     bif decide (2 ≤ (o1_0 - a)) then
      match sc_partialInsertionSortOrdered_int_L2 (data.length + 1) ((data'.set o1_0.toNat (data'.getD ((o1_0 - 1) : Int).toNat 0)).set ((o1_0 - 1) : Int).toNat (data'.getD o1_0.toNat 0)) (o1_0 - 1) with
      | .brk o2_0 =>
       bif decide (2 ≤ (b - o1_0)) then
        match sc_partialInsertionSortOrdered_int_L3 (((b : Int) - (o1_0 + 1)).toNat) o2_0 (o1_0 + 1) with
        | o3_0 =>
         sc_partialInsertionSortOrdered_int_L0 data a b r o3_0 o1_0 (j + 1)
       else
        sc_partialInsertionSortOrdered_int_L0 data a b r o2_0 o1_0 (j + 1)
      | .ret _ => .oof
      | .oof => .oof
     else
      bif decide (2 ≤ (b - o1_0)) then
       match sc_partialInsertionSortOrdered_int_L3 (((b : Int) - (o1_0 + 1)).toNat) ((data'.set o1_0.toNat (data'.getD ((o1_0 - 1) : Int).toNat 0)).set ((o1_0 - 1) : Int).toNat (data'.getD o1_0.toNat 0)) (o1_0 + 1) with
       | o3_0 =>
        sc_partialInsertionSortOrdered_int_L0 data a b r o3_0 o1_0 (j + 1)
      else
       sc_partialInsertionSortOrdered_int_L0 data a b r ((data'.set o1_0.toNat (data'.getD ((o1_0 - 1) : Int).toNat 0)).set ((o1_0 - 1) : Int).toNat (data'.getD o1_0.toNat 0)) o1_0 (j + 1)
def sc_partialInsertionSortOrdered_int (data : List Int) (a : Int) (b : Int) : Bool × List Int :=
 match sc_partialInsertionSortOrdered_int_L0 data a b 5 data (a + 1) 0 with
 | .brk o0_0 =>
  (false, o0_0)
 | .ret r => r
 | .oof => default
def sc_partitionEqualOrdered_int_L1 (a : Int) (data' : List Int) (j : Int) : Nat → Int → LR Int (Int × List Int)
 | 0, i =>
  .oof
 | r + 1, i =>
  bif decide (i ≤ j) then
   let rv7 := (cmp_Less_int (data'.getD a.toNat 0) (data'.getD i.toNat 0))
   bif (!rv7) then
    sc_partitionEqualOrdered_int_L1 a data' j r (i + 1)
   else
    .brk i
  else
   .brk i
def sc_partitionEqualOrdered_int_L2 (a : Int) (data' : List Int) (i : Int) : Nat → Int → LR Int (Int × List Int)
 | 0, j =>
  .oof
 | r + 1, j =>
  bif decide (i ≤ j) then
   let rv8 := (cmp_Less_int (data'.getD a.toNat 0) (data'.getD j.toNat 0))
   bif rv8 then
    sc_partitionEqualOrdered_int_L2 a data' i r (j - 1)
   else
    .brk j
  else
   .brk j
def sc_partitionEqualOrdered_int_L0 (a : Int) (b : Int) : Nat → List Int → Int → Int → LR (List Int × Int) (Int × List Int)
 | 0, data', i, j =>
  .oof
 | r + 1, data', i, j =>
  match sc_partitionEqualOrdered_int_L1 a data' j ((b - a).toNat + 2) i with
  | .brk o1_0 =>
   match sc_partitionEqualOrdered_int_L2 a data' o1_0 ((b - a).toNat + 2) j with
   | .brk o2_0 =>
    bif decide (o2_0 < o1_0) then
     .brk (data', o1_0)
    else
     sc_partitionEqualOrdered_int_L0 a b r ((data'.set o1_0.toNat (data'.getD o2_0.toNat 0)).set o2_0.toNat (data'.getD o1_0.toNat 0)) (o1_0 + 1) (o2_0 - 1)
   | .ret _ => .oof
   | .oof => .oof
  | .ret _ => .oof
  | .oof => .oof
def sc_partitionEqualOrdered_int (data : List Int) (a : Int) (b : Int) (pivot : Int) : Int × List Int :=
 match sc_partitionEqualOrdered_int_L0 a b ((b - a).toNat + 2) ((data.set a.toNat (data.getD pivot.toNat 0)).set pivot.toNat (data.getD a.toNat 0)) (a + 1) (b - 1) with
 | .brk (o0_0, o0_1) =>
  (o0_1, o0_0)
 | .ret _ => default
 | .oof => default
def sc_partitionOrdered_int_L0 (data : List Int) (a : Int) (b : Int) (pivot : Int) : Nat → Int → LR Int (Int × Bool × List Int)
 | 0, i =>
  .oof
 | r + 1, i =>
  bif decide (i ≤ (b - 1)) then
   let rv7 := (cmp_Less_int (((data.set a.toNat (data.getD pivot.toNat 0)).set pivot.toNat (data.getD a.toNat 0)).getD i.toNat 0) (((data.set a.toNat (data.getD pivot.toNat 0)).set pivot.toNat (data.getD a.toNat 0)).getD a.toNat 0))
   bif rv7 then
    sc_partitionOrdered_int_L0 data a b pivot r (i + 1)
   else
    .brk i
  else
   .brk i
def sc_partitionOrdered_int_L1 (data : List Int) (a : Int) (pivot : Int) (i : Int) : Nat → Int → LR Int (Int × Bool × List Int)
 | 0, j =>
  .oof
 | r + 1, j =>
  bif decide (i ≤ j) then
   let rv8 := (cmp_Less_int (((data.set a.toNat (data.getD pivot.toNat 0)).set pivot.toNat (data.getD a.toNat 0)).getD j.toNat 0) (((data.set a.toNat (data.getD pivot.toNat 0)).set pivot.toNat (data.getD a.toNat 0)).getD a.toNat 0))
   bif (!rv8) then
    sc_partitionOrdered_int_L1 data a pivot i r (j - 1)
   else
    .brk j
  else
   .brk j
def sc_partitionOrdered_int_L3 (a : Int) (data' : List Int) (j : Int) : Nat → Int → LR Int (Int × Bool × List Int)
 | 0, i =>
  .oof
 | r + 1, i =>
  bif decide (i ≤ j) then
   let rv16 := (cmp_Less_int (data'.getD i.toNat 0) (data'.getD a.toNat 0))
   bif rv16 then
    sc_partitionOrdered_int_L3 a data' j r (i + 1)
   else
    .brk i
  else
   .brk i
def sc_partitionOrdered_int_L4 (a : Int) (data' : List Int) (i : Int) : Nat → Int → LR Int (Int × Bool × List Int)
 | 0, j =>
  .oof
 | r + 1, j =>
  bif decide (i ≤ j) then
   let rv17 := (cmp_Less_int (data'.getD j.toNat 0) (data'.getD a.toNat 0))
   bif (!rv17) then
    sc_partitionOrdered_int_L4 a data' i r (j - 1)
   else
    .brk j
  else
   .brk j
def sc_partitionOrdered_int_L2 (a : Int) (b : Int) : Nat → List Int → Int → Int → LR (List Int × Int) (Int × Bool × List Int)
 | 0, data', i, j =>
  .oof
 | r + 1, data', i, j =>
  match sc_partitionOrdered_int_L3 a data' j ((b - a).toNat + 2) i with
  | .brk o3_0 =>
   match sc_partitionOrdered_int_L4 a data' o3_0 ((b - a).toNat + 2) j with
   | .brk o4_0 =>
    bif decide (o4_0 < o3_0) then
     .brk (data', o4_0)
    else
     sc_partitionOrdered_int_L2 a b r ((data'.set o3_0.toNat (data'.getD o4_0.toNat 0)).set o4_0.toNat (data'.getD o3_0.toNat 0)) (o3_0 + 1) (o4_0 - 1)
   | .ret _ => .oof
   | .oof => .oof
  | .ret _ => .oof
  | .oof => .oof
def sc_partitionOrdered_int (data : List Int) (a : Int) (b : Int) (pivot : Int) : Int × Bool × List Int :=
 match sc_partitionOrdered_int_L0 data a b pivot ((b - a).toNat + 2) (a + 1) with
 | .brk o0_0 =>
  match sc_partitionOrdered_int_L1 data a pivot o0_0 ((b - a).toNat + 2) (b - 1) with
  | .brk o1_0 =>
   bif decide (o1_0 < o0_0) then
    (o1_0, true, ((((data.set a.toNat (data.getD pivot.toNat 0)).set pivot.toNat (data.getD a.toNat 0)).set o1_0.toNat (((data.set a.toNat (data.getD pivot.toNat 0)).set pivot.toNat (data.getD a.toNat 0)).getD a.toNat 0)).set a.toNat (((data.set a.toNat (data.getD pivot.toNat 0)).set pivot.toNat (data.getD a.toNat 0)).getD o1_0.toNat 0)))
   else
    match sc_partitionOrdered_int_L2 a b ((b - a).toNat + 2) ((((data.set a.toNat (data.getD pivot.toNat 0)).set pivot.toNat (data.getD a.toNat 0)).set o0_0.toNat (((data.set a.toNat (data.getD pivot.toNat 0)).set pivot.toNat (data.getD a.toNat 0)).getD o1_0.toNat 0)).set o1_0.toNat (((data.set a.toNat (data.getD pivot.toNat 0)).set pivot.toNat (data.getD a.toNat 0)).getD o0_0.toNat 0)) (o0_0 + 1) (o1_0 - 1) with
    | .brk (o2_0, o2_1) =>
     (o2_1, false, ((o2_0.set o2_1.toNat (o2_0.getD a.toNat 0)).set a.toNat (o2_0.getD o2_1.toNat 0)))
    | .ret _ => default
    | .oof => default
  | .ret _ => default
  | .oof => default
 | .ret _ => default
 | .oof => default
def sc_pdqsortOrdered_int_F_L0 (rc : List Int → Int → Int → Int → List Int) : Nat → List Int → Int → Int → Int → Bool → Bool → LR Unit (List Int)
 | 0, data', a', b', limit', wasBalanced, wasPartitioned =>
  .oof
 | r + 1, data', a', b', limit', wasBalanced, wasPartitioned =>
  bif decide ((b' - a') ≤ 12) then
   let rv4 := (sc_insertionSortOrdered_int data' a' b')
   .ret rv4
  else
   bif (limit' == 0) then
    let rv15 := (sc_heapSortOrdered_int data' a' b')
    .ret rv15
   else
    bif (!wasBalanced) then
     let rv28 := (sc_breakPatternsOrdered_int data' a' b')
     let rv36 := (sc_choosePivotOrdered_int rv28 a' b')
     bif (rv36.2 == 2) then
      let rv45 := (sc_reverseRangeOrdered_int rv28 a' b')
      bif decide (0 < a') then
       let rv58 := (cmp_Less_int (rv45.getD ((a' - 1) : Int).toNat 0) (rv45.getD (((b' - 1) - (rv36.1 - a')) : Int).toNat 0))
       bif (!rv58) then
        let rv66 := (sc_partitionEqualOrdered_int rv45 a' b' ((b' - 1) - (rv36.1 - a')))
        sc_pdqsortOrdered_int_F_L0 rc r rv66.2 rv66.1 b' (limit' - 1) wasBalanced wasPartitioned
       else
        let rv79 := (sc_partitionOrdered_int rv45 a' b' ((b' - 1) - (rv36.1 - a')))
        bif decide ((rv79.1 - a') < (b' - rv79.1)) then
         let rv91 := (rc rv79.2.2 a' rv79.1 (limit' - 1))
         sc_pdqsortOrdered_int_F_L0 rc r rv91 (rv79.1 + 1) b' (limit' - 1) (decide (((b' - a') / 8) ≤ (rv79.1 - a'))) rv79.2.1
        else
         let rv100 := (rc rv79.2.2 (rv79.1 + 1) b' (limit' - 1))
         sc_pdqsortOrdered_int_F_L0 rc r rv100 a' rv79.1 (limit' - 1) (decide (((b' - a') / 8) ≤ (b' - rv79.1))) rv79.2.1
      else
       let rv109 := (sc_partitionOrdered_int rv45 a' b' ((b' - 1) - (rv36.1 - a')))
       bif decide ((rv109.1 - a') < (b' - rv109.1)) then
        let rv121 := (rc rv109.2.2 a' rv109.1 (limit' - 1))
        sc_pdqsortOrdered_int_F_L0 rc r rv121 (rv109.1 + 1) b' (limit' - 1) (decide (((b' - a') / 8) ≤ (rv109.1 - a'))) rv109.2.1
       else
        let rv130 := (rc rv109.2.2 (rv109.1 + 1) b' (limit' - 1))
        sc_pdqsortOrdered_int_F_L0 rc r rv130 a' rv109.1 (limit' - 1) (decide (((b' - a') / 8) ≤ (b' - rv109.1))) rv109.2.1
     else
      bif decide (0 < a') then
       let rv144 := (cmp_Less_int (rv28.getD ((a' - 1) : Int).toNat 0) (rv28.getD rv36.1.toNat 0))
       bif (!rv144) then
        let rv152 := (sc_partitionEqualOrdered_int rv28 a' b' rv36.1)
        sc_pdqsortOrdered_int_F_L0 rc r rv152.2 rv152.1 b' (limit' - 1) wasBalanced wasPartitioned
       else
        let rv165 := (sc_partitionOrdered_int rv28 a' b' rv36.1)
        bif decide ((rv165.1 - a') < (b' - rv165.1)) then
         let rv177 := (rc rv165.2.2 a' rv165.1 (limit' - 1))
         sc_pdqsortOrdered_int_F_L0 rc r rv177 (rv165.1 + 1) b' (limit' - 1) (decide (((b' - a') / 8) ≤ (rv165.1 - a'))) rv165.2.1
        else
         let rv186 := (rc rv165.2.2 (rv165.1 + 1) b' (limit' - 1))
         sc_pdqsortOrdered_int_F_L0 rc r rv186 a' rv165.1 (limit' - 1) (decide (((b' - a') / 8) ≤ (b' - rv165.1))) rv165.2.1
      else
       let rv195 := (sc_partitionOrdered_int rv28 a' b' rv36.1)
       bif decide ((rv195.1 - a') < (b' - rv195.1)) then
        let rv207 := (rc rv195.2.2 a' rv195.1 (limit' - 1))
        sc_pdqsortOrdered_int_F_L0 rc r rv207 (rv195.1 + 1) b' (limit' - 1) (decide (((b' - a') / 8) ≤ (rv195.1 - a'))) rv195.2.1
       else
        let rv216 := (rc rv195.2.2 (rv195.1 + 1) b' (limit' - 1))
        sc_pdqsortOrdered_int_F_L0 rc r rv216 a' rv195.1 (limit' - 1) (decide (((b' - a') / 8) ≤ (b' - rv195.1))) rv195.2.1
    else
     let rv227 := (sc_choosePivotOrdered_int data' a' b')
     bif (rv227.2 == 2) then
      let rv236 := (sc_reverseRangeOrdered_int data' a' b')
      bif wasPartitioned then
       let rv248 := (sc_partialInsertionSortOrdered_int rv236 a' b')
       bif rv248.1 then
        .ret rv248.2
       else
        bif decide (0 < a') then
         let rv262 := (cmp_Less_int (rv248.2.getD ((a' - 1) : Int).toNat 0) (rv248.2.getD (((b' - 1) - (rv227.1 - a')) : Int).toNat 0))
         bif (!rv262) then
          let rv270 := (sc_partitionEqualOrdered_int rv248.2 a' b' ((b' - 1) - (rv227.1 - a')))
          sc_pdqsortOrdered_int_F_L0 rc r rv270.2 rv270.1 b' limit' wasBalanced wasPartitioned
         else
          let rv283 := (sc_partitionOrdered_int rv248.2 a' b' ((b' - 1) - (rv227.1 - a')))
          bif decide ((rv283.1 - a') < (b' - rv283.1)) then
           let rv295 := (rc rv283.2.2 a' rv283.1 limit')
           sc_pdqsortOrdered_int_F_L0 rc r rv295 (rv283.1 + 1) b' limit' (decide (((b' - a') / 8) ≤ (rv283.1 - a'))) rv283.2.1
          else
           let rv304 := (rc rv283.2.2 (rv283.1 + 1) b' limit')
           sc_pdqsortOrdered_int_F_L0 rc r rv304 a' rv283.1 limit' (decide (((b' - a') / 8) ≤ (b' - rv283.1))) rv283.2.1
        else
         let rv313 := (sc_partitionOrdered_int rv248.2 a' b' ((b' - 1) - (rv227.1 - a')))
         bif decide ((rv313.1 - a') < (b' - rv313.1)) then
          let rv325 := (rc rv313.2.2 a' rv313.1 limit')
          sc_pdqsortOrdered_int_F_L0 rc r rv325 (rv313.1 + 1) b' limit' (decide (((b' - a') / 8) ≤ (rv313.1 - a'))) rv313.2.1
         else
          let rv334 := (rc rv313.2.2 (rv313.1 + 1) b' limit')
          sc_pdqsortOrdered_int_F_L0 rc r rv334 a' rv313.1 limit' (decide (((b' - a') / 8) ≤ (b' - rv313.1))) rv313.2.1
      else
       bif decide (0 < a') then
        let rv346 := (cmp_Less_int (rv236.getD ((a' - 1) : Int).toNat 0) (rv236.getD (((b' - 1) - (rv227.1 - a')) : Int).toNat 0))
        bif (!rv346) then
         let rv354 := (sc_partitionEqualOrdered_int rv236 a' b' ((b' - 1) - (rv227.1 - a')))
         sc_pdqsortOrdered_int_F_L0 rc r rv354.2 rv354.1 b' limit' wasBalanced wasPartitioned
        else
         let rv367 := (sc_partitionOrdered_int rv236 a' b' ((b' - 1) - (rv227.1 - a')))
         bif decide ((rv367.1 - a') < (b' - rv367.1)) then
          let rv379 := (rc rv367.2.2 a' rv367.1 limit')
          sc_pdqsortOrdered_int_F_L0 rc r rv379 (rv367.1 + 1) b' limit' (decide (((b' - a') / 8) ≤ (rv367.1 - a'))) rv367.2.1
         else
          let rv388 := (rc rv367.2.2 (rv367.1 + 1) b' limit')
          sc_pdqsortOrdered_int_F_L0 rc r rv388 a' rv367.1 limit' (decide (((b' - a') / 8) ≤ (b' - rv367.1))) rv367.2.1
       else
        let rv397 := (sc_partitionOrdered_int rv236 a' b' ((b' - 1) - (rv227.1 - a')))
        bif decide ((rv397.1 - a') < (b' - rv397.1)) then
         let rv409 := (rc rv397.2.2 a' rv397.1 limit')
         sc_pdqsortOrdered_int_F_L0 rc r rv409 (rv397.1 + 1) b' limit' (decide (((b' - a') / 8) ≤ (rv397.1 - a'))) rv397.2.1
        else
         let rv418 := (rc rv397.2.2 (rv397.1 + 1) b' limit')
         sc_pdqsortOrdered_int_F_L0 rc r rv418 a' rv397.1 limit' (decide (((b' - a') / 8) ≤ (b' - rv397.1))) rv397.2.1
     else
      bif wasPartitioned then
       bif (rv227.2 == 1) then
        let rv433 := (sc_partialInsertionSortOrdered_int data' a' b')
        bif rv433.1 then
         .ret rv433.2
        else
         bif decide (0 < a') then
          let rv447 := (cmp_Less_int (rv433.2.getD ((a' - 1) : Int).toNat 0) (rv433.2.getD rv227.1.toNat 0))
          bif (!rv447) then
           let rv455 := (sc_partitionEqualOrdered_int rv433.2 a' b' rv227.1)
           sc_pdqsortOrdered_int_F_L0 rc r rv455.2 rv455.1 b' limit' wasBalanced wasPartitioned
          else
           let rv468 := (sc_partitionOrdered_int rv433.2 a' b' rv227.1)
           bif decide ((rv468.1 - a') < (b' - rv468.1)) then
            let rv480 := (rc rv468.2.2 a' rv468.1 limit')
            sc_pdqsortOrdered_int_F_L0 rc r rv480 (rv468.1 + 1) b' limit' (decide (((b' - a') / 8) ≤ (rv468.1 - a'))) rv468.2.1
           else
            let rv489 := (rc rv468.2.2 (rv468.1 + 1) b' limit')
            sc_pdqsortOrdered_int_F_L0 rc r rv489 a' rv468.1 limit' (decide (((b' - a') / 8) ≤ (b' - rv468.1))) rv468.2.1
         else
          let rv498 := (sc_partitionOrdered_int rv433.2 a' b' rv227.1)
          bif decide ((rv498.1 - a') < (b' - rv498.1)) then
           let rv510 := (rc rv498.2.2 a' rv498.1 limit')
           sc_pdqsortOrdered_int_F_L0 rc r rv510 (rv498.1 + 1) b' limit' (decide (((b' - a') / 8) ≤ (rv498.1 - a'))) rv498.2.1
          else
           let rv519 := (rc rv498.2.2 (rv498.1 + 1) b' limit')
           sc_pdqsortOrdered_int_F_L0 rc r rv519 a' rv498.1 limit' (decide (((b' - a') / 8) ≤ (b' - rv498.1))) rv498.2.1
       else
        bif decide (0 < a') then
         let rv531 := (cmp_Less_int (data'.getD ((a' - 1) : Int).toNat 0) (data'.getD rv227.1.toNat 0))
         bif (!rv531) then
          let rv539 := (sc_partitionEqualOrdered_int data' a' b' rv227.1)
          sc_pdqsortOrdered_int_F_L0 rc r rv539.2 rv539.1 b' limit' wasBalanced wasPartitioned
         else
          let rv552 := (sc_partitionOrdered_int data' a' b' rv227.1)
          bif decide ((rv552.1 - a') < (b' - rv552.1)) then
           let rv564 := (rc rv552.2.2 a' rv552.1 limit')
           sc_pdqsortOrdered_int_F_L0 rc r rv564 (rv552.1 + 1) b' limit' (decide (((b' - a') / 8) ≤ (rv552.1 - a'))) rv552.2.1
          else
           let rv573 := (rc rv552.2.2 (rv552.1 + 1) b' limit')
           sc_pdqsortOrdered_int_F_L0 rc r rv573 a' rv552.1 limit' (decide (((b' - a') / 8) ≤ (b' - rv552.1))) rv552.2.1
        else
         let rv582 := (sc_partitionOrdered_int data' a' b' rv227.1)
         bif decide ((rv582.1 - a') < (b' - rv582.1)) then
          let rv594 := (rc rv582.2.2 a' rv582.1 limit')
          sc_pdqsortOrdered_int_F_L0 rc r rv594 (rv582.1 + 1) b' limit' (decide (((b' - a') / 8) ≤ (rv582.1 - a'))) rv582.2.1
         else
          let rv603 := (rc rv582.2.2 (rv582.1 + 1) b' limit')
          sc_pdqsortOrdered_int_F_L0 rc r rv603 a' rv582.1 limit' (decide (((b' - a') / 8) ≤ (b' - rv582.1))) rv582.2.1
      else
       bif decide (0 < a') then
        let rv615 := (cmp_Less_int (data'.getD ((a' - 1) : Int).toNat 0) (data'.getD rv227.1.toNat 0))
        bif (!rv615) then
         let rv623 := (sc_partitionEqualOrdered_int data' a' b' rv227.1)
         sc_pdqsortOrdered_int_F_L0 rc r rv623.2 rv623.1 b' limit' wasBalanced wasPartitioned
        else
         let rv636 := (sc_partitionOrdered_int data' a' b' rv227.1)
         bif decide ((rv636.1 - a') < (b' - rv636.1)) then
          let rv648 := (rc rv636.2.2 a' rv636.1 limit')
          sc_pdqsortOrdered_int_F_L0 rc r rv648 (rv636.1 + 1) b' limit' (decide (((b' - a') / 8) ≤ (rv636.1 - a'))) rv636.2.1
         else
          let rv657 := (rc rv636.2.2 (rv636.1 + 1) b' limit')
          sc_pdqsortOrdered_int_F_L0 rc r rv657 a' rv636.1 limit' (decide (((b' - a') / 8) ≤ (b' - rv636.1))) rv636.2.1
       else
        let rv666 := (sc_partitionOrdered_int data' a' b' rv227.1)
        bif decide ((rv666.1 - a') < (b' - rv666.1)) then
         let rv678 := (rc rv666.2.2 a' rv666.1 limit')
         sc_pdqsortOrdered_int_F_L0 rc r rv678 (rv666.1 + 1) b' limit' (decide (((b' - a') / 8) ≤ (rv666.1 - a'))) rv666.2.1
        else
         let rv687 := (rc rv666.2.2 (rv666.1 + 1) b' limit')
         sc_pdqsortOrdered_int_F_L0 rc r rv687 a' rv666.1 limit' (decide (((b' - a') / 8) ≤ (b' - rv666.1))) rv666.2.1
def sc_pdqsortOrdered_int_F (rc : List Int → Int → Int → Int → List Int) (data : List Int) (a : Int) (b : Int) (limit : Int) : List Int :=
 match sc_pdqsortOrdered_int_F_L0 rc ((b - a).toNat + 1) data a b limit true true with
 | .brk _ => default
 | .ret r => r
 | .oof => default
def sc_pdqsortOrdered_int : Nat → List Int → Int → Int → Int → List Int
 | 0, _, _, _, _ => default
 | fu + 1, data, a, b, limit => sc_pdqsortOrdered_int_F (sc_pdqsortOrdered_int fu) data a b limit
def sc_Sort_int (x : List Int) : List Int :=
 let rv1 := (bits_Len (BitVec.ofInt 64 (x.length : Int)))
 let rv5 := (sc_pdqsortOrdered_int (x.length + 1) x 0 (x.length : Int) rv1)
 rv5
def sc_Clone_int (s : List Int) : List Int := s
def sc_Compact_int_L1  (s2 : Int) : Nat → List Int → Int → Int → List Int × Int
 | 0, s', k, k2 =>
  (s', k)
 | r + 1, s', k, k2 =>
  bif ((s'.getD (s2.toNat + k2.toNat) 0) != (s'.getD (s2.toNat + ((k2 - 1) : Int).toNat) 0)) then
   sc_Compact_int_L1 s2 r (s'.set k.toNat (s'.getD (s2.toNat + k2.toNat) 0)) (k + 1) (k2 + 1)
  else
   sc_Compact_int_L1 s2 r s' k (k2 + 1)
def sc_Compact_int_L0 (s : List Int) : Nat → Int → LR Unit (List Int)
 | 0, k =>
  .brk ()
 | r + 1, k =>
  bif ((s.getD k.toNat 0) == (s.getD ((k - 1) : Int).toNat 0)) then
   match sc_Compact_int_L1 k ((((((s.length - k.toNat) : Nat) : Int) : Int) - 1).toNat) s k 1 with
   | (o1_0, o1_1) =>
    .ret ((((o1_0.take (o1_1.toNat)) ++ (List.replicate (s.length - o1_1.toNat) 0)).take (o1_1.toNat)).drop 0)
  else
   sc_Compact_int_L0 s r (k + 1)
def sc_Compact_int (s : List Int) : List Int :=
 bif decide ((s.length : Int) < 2) then
  s
 else
  match sc_Compact_int_L0 s (((s.length : Int) - 1).toNat) 1 with
  | .brk _ =>
   s
  | .ret r => r
  | .oof => default
def cn_distinct (l : List Int) : Bool :=
 let rv2 := (sc_Clone_int l)
 let rv10 := (sc_Sort_int rv2)
 bif decide (0 < (l.length : Int)) then
  let rv20 := (sc_Compact_int rv10)
  ((rv20.length : Int) == (l.length : Int))
 else
  false
def cn_Restrict_2 (k : GKnown) : Bool :=
 let rv2 := (bt_Valid k.Value)
 (!rv2)
def cn_Restrict_3 (k : GKnown) (cap0 : GSystem) : Bool :=
 (k.Value.Width != cap0.Width)
def sc_Clone_uint64 (s : List (BitVec 64)) : List (BitVec 64) := s
def cn_clone (s : GSet) : GSet :=
 let rv4 := (sc_Clone_uint64 s.Words)
 (GSet.mk s.Width rv4)
def sc_Clone_Copy (s : List GCopy) : List GCopy := s
def cn_Restrict_4 (k : GKnown) (cap0 : Int) : Bool :=
 (k.Node == cap0)
def sc_Index_int_L0 (s : List Int) (v : Int) : Nat → Int → LR Unit Int
 | 0, v8 =>
  .brk ()
 | r + 1, v8 =>
  bif (v == (s.getD v8.toNat 0)) then
   .ret v8
  else
   sc_Index_int_L0 s v r (v8 + 1)
def sc_Index_int (s : List Int) (v : Int) : Int :=
 match sc_Index_int_L0 s v (((s.length : Int) - 0).toNat) 0 with
 | .brk _ =>
  -1
 | .ret r => r
 | .oof => default
def cn_Restrict_L1 (cone : List Int) (v101 : List Int) : Nat → List Int → Int → List Int
 | 0, deps, v103 =>
  deps
 | r + 1, deps, v103 =>
  let rv144 := (sc_Index_int cone (v101.getD v103.toNat 0))
  bif decide (0 ≤ rv144) then
   cn_Restrict_L1 cone v101 r (deps ++ [rv144]) (v103 + 1)
  else
   cn_Restrict_L1 cone v101 r deps (v103 + 1)
def cn_Restrict_L0 (s : GSystem) (cone : List Int) (known : List GKnown) : Nat → List (List Int) → List GTransfer → List GSet → Int → List (List Int) × List GTransfer × List GSet
 | 0, out1, out2, out3, v52 =>
  (out1, out2, out3)
 | r + 1, out1, out2, out3, v52 =>
  let rv69 := (cn_clone ((s.Transfers.getD ((cone.getD v52.toNat 0) : Int).toNat default).Gen))
  let rv77 := (cn_clone ((s.Transfers.getD ((cone.getD v52.toNat 0) : Int).toNat default).Kill))
  let rv85 := (sc_Clone_Copy ((s.Transfers.getD ((cone.getD v52.toNat 0) : Int).toNat default).Copies))
  let rv100 := (sc_IndexFunc_Known known (fun x => cn_Restrict_4 x (cone.getD v52.toNat 0)))
  bif decide (0 ≤ rv100) then
   let rv121 := (cn_clone ((known.getD rv100.toNat default).Value))
   cn_Restrict_L0 s cone known r (out1 ++ [([] : List Int)]) (out2 ++ [(GTransfer.mk rv69 rv77 rv85)]) (out3 ++ [rv121]) (v52 + 1)
  else
   match cn_Restrict_L1 cone (s.Deps.getD ((cone.getD v52.toNat 0) : Int).toNat []) (((((s.Deps.getD ((cone.getD v52.toNat 0) : Int).toNat []).length : Int) : Int) - 0).toNat) [] 0 with
   | o1_0 =>
    let rv144 := (sc_Sort_int o1_0)
    let rv163 := (cn_clone (s.Boundary.getD ((cone.getD v52.toNat 0) : Int).toNat default))
    cn_Restrict_L0 s cone known r (out1 ++ [rv144]) (out2 ++ [(GTransfer.mk rv69 rv77 rv85)]) (out3 ++ [rv163]) (v52 + 1)
def cn_Restrict (s : GSystem) (cone : List Int) (known : List GKnown) : GSystem × Int :=
 let rv3 := (eq_Valid s)
 bif (!rv3) then
  ((GSystem.mk 0 [] [] []), 1)
 else
  let rv13 := (cn_unknowns s cone)
  bif (!rv13) then
   ((GSystem.mk 0 [] [] []), 9)
  else
   let rv23 := (sc_ContainsFunc_Known known (fun x => cn_Restrict_1 x s))
   bif rv23 then
    ((GSystem.mk 0 [] [] []), 9)
   else
    let rv29 := (cn_distinct cone)
    bif (!rv29) then
     ((GSystem.mk 0 [] [] []), 6)
    else
     let rv39 := (sc_ContainsFunc_Known known (fun x => cn_Restrict_2 x))
     bif rv39 then
      ((GSystem.mk 0 [] [] []), 1)
     else
      let rv45 := (sc_ContainsFunc_Known known (fun x => cn_Restrict_3 x s))
      bif rv45 then
       ((GSystem.mk 0 [] [] []), 2)
      else
       match cn_Restrict_L0 s cone known (((cone.length : Int) - 0).toNat) [] [] [] 0 with
       | (o0_0, o0_1, o0_2) =>
        ((GSystem.mk s.Width o0_0 o0_1 o0_2), 0)
def r7_Insert_L0 (l : List Int) (n : Int) : Nat → Int → Int
 | 0, i =>
  i
 | r + 1, i =>
  bif decide ((l.getD i.toNat 0) < n) then
   r7_Insert_L0 l n r (i + 1)
  else
   i
def r7_Insert (l : List Int) (n : Int) : List Int :=
 match r7_Insert_L0 l n (((l.length : Int) - 0).toNat) 0 with
 | o0_0 =>
  bif decide (o0_0 < (l.length : Int)) then
   bif ((l.getD o0_0.toNat 0) == n) then
    l
   else
    ((((l.take (o0_0.toNat)).drop 0) ++ [n]) ++ ((l.take l.length).drop (o0_0.toNat)))
  else
   ((((l.take (o0_0.toNat)).drop 0) ++ [n]) ++ ((l.take l.length).drop (o0_0.toNat)))
def r1_Valid_L0 (s : GSet) : Nat → Int → LR Unit Bool
 | 0, b =>
  .brk ()
 | r + 1, b =>
  bif ((((s.Words.getD ((b / 64) : Int).toNat 0#64) >>> (((BitVec.ofInt 64 (b % 64)).toNat : Int)).toNat) &&& 1#64) == 1#64) then
   .ret false
  else
   r1_Valid_L0 s r (b + 1)
def r1_Valid (s : GSet) : Bool :=
 bif decide (s.Width < 0) then
  false
 else
  bif decide (256 < s.Width) then
   false
  else
   bif ((s.Words.length : Int) != ((s.Width + 63) / 64)) then
    false
   else
    match r1_Valid_L0 s ((((64 * (s.Words.length : Int)) : Int) - s.Width).toNat) s.Width with
    | .brk _ =>
     true
    | .ret r => r
    | .oof => default
def r7_Rising_L0 (l : List Int) (n : Int) : Nat → Int → LR Unit Bool
 | 0, i =>
  .brk ()
 | r + 1, i =>
  bif decide ((l.getD i.toNat 0) < 0) then
   .ret false
  else
   bif decide (n ≤ (l.getD i.toNat 0)) then
    .ret false
   else
    bif decide (0 < i) then
     bif decide ((l.getD i.toNat 0) ≤ (l.getD ((i - 1) : Int).toNat 0)) then
      .ret false
     else
      r7_Rising_L0 l n r (i + 1)
    else
     r7_Rising_L0 l n r (i + 1)
def r7_Rising (l : List Int) (n : Int) : Bool :=
 match r7_Rising_L0 l n (((l.length : Int) - 0).toNat) 0 with
 | .brk _ =>
  true
 | .ret r => r
 | .oof => default
def r1_Before (a : GCopy) (b : GCopy) : Bool :=
 bif decide (a.From < b.From) then
  true
 else
  bif (a.From == b.From) then
   decide (a.To < b.To)
  else
   false
def r1_ValidTransfer_L0 (t : GTransfer) : Nat → Int → LR Unit Bool
 | 0, i =>
  .brk ()
 | r + 1, i =>
  bif decide ((t.Copies.getD i.toNat default).From < 0) then
   .ret false
  else
   bif decide (t.Gen.Width ≤ (t.Copies.getD i.toNat default).From) then
    .ret false
   else
    bif decide ((t.Copies.getD i.toNat default).To < 0) then
     .ret false
    else
     bif decide (t.Gen.Width ≤ (t.Copies.getD i.toNat default).To) then
      .ret false
     else
      bif decide (0 < i) then
       let rv49 := (r1_Before (t.Copies.getD ((i - 1) : Int).toNat default) (t.Copies.getD i.toNat default))
       bif (!rv49) then
        .ret false
       else
        r1_ValidTransfer_L0 t r (i + 1)
      else
       r1_ValidTransfer_L0 t r (i + 1)
def r1_ValidTransfer (t : GTransfer) : Bool :=
 let rv2 := (r1_Valid t.Gen)
 bif (!rv2) then
  false
 else
  let rv12 := (r1_Valid t.Kill)
  bif (!rv12) then
   false
  else
   bif (t.Gen.Width != t.Kill.Width) then
    false
   else
    bif decide (64 < (t.Copies.length : Int)) then
     false
    else
     match r1_ValidTransfer_L0 t (((t.Copies.length : Int) - 0).toNat) 0 with
     | .brk _ =>
      true
     | .ret r => r
     | .oof => default
def r10_Valid_L0 (s : GSystem) : Nat → Int → Int → LR Int Bool
 | 0, edges, i =>
  .brk edges
 | r + 1, edges, i =>
  let rv26 := (r7_Rising (s.Deps.getD i.toNat []) (s.Boundary.length : Int))
  bif (!rv26) then
   .ret false
  else
   let rv47 := (r1_ValidTransfer (s.Transfers.getD i.toNat default))
   bif (!rv47) then
    .ret false
   else
    bif (((s.Transfers.getD i.toNat default).Gen).Width != s.Width) then
     .ret false
    else
     let rv64 := (r1_Valid (s.Boundary.getD i.toNat default))
     bif (!rv64) then
      .ret false
     else
      bif ((s.Boundary.getD i.toNat default).Width != s.Width) then
       .ret false
      else
       r10_Valid_L0 s r (edges + ((s.Deps.getD i.toNat []).length : Int)) (i + 1)
def r10_Valid (s : GSystem) : Bool :=
 bif decide (s.Width < 0) then
  false
 else
  bif decide (256 < s.Width) then
   false
  else
   bif decide ((s.Boundary.length : Int) < 1) then
    false
   else
    bif decide (256 < (s.Boundary.length : Int)) then
     false
    else
     bif ((s.Deps.length : Int) != (s.Boundary.length : Int)) then
      false
     else
      bif ((s.Transfers.length : Int) != (s.Boundary.length : Int)) then
       false
      else
       match r10_Valid_L0 s (((s.Boundary.length : Int) - 0).toNat) 0 0 with
       | .brk o0_0 =>
        decide (o0_0 ≤ 1024)
       | .ret r => r
       | .oof => default
def r14_inside_L0 (s : GSystem) (l : List Int) : Nat → Int → LR Unit Bool
 | 0, i =>
  .brk ()
 | r + 1, i =>
  bif decide ((l.getD i.toNat 0) < 0) then
   .ret false
  else
   bif decide ((s.Boundary.length : Int) ≤ (l.getD i.toNat 0)) then
    .ret false
   else
    r14_inside_L0 s l r (i + 1)
def r14_inside (s : GSystem) (l : List Int) : Bool :=
 match r14_inside_L0 s l (((l.length : Int) - 0).toNat) 0 with
 | .brk _ =>
  true
 | .ret r => r
 | .oof => default
def r14_place_L0 (l : List Int) (n : Int) : Nat → Int → LR Unit Int
 | 0, i =>
  .brk ()
 | r + 1, i =>
  bif ((l.getD i.toNat 0) == n) then
   .ret i
  else
   r14_place_L0 l n r (i + 1)
def r14_place (l : List Int) (n : Int) : Int :=
 match r14_place_L0 l n (((l.length : Int) - 0).toNat) 0 with
 | .brk _ =>
  -1
 | .ret r => r
 | .oof => default
def r14_repeated_L0 (l : List Int) : Nat → Int → LR Unit Bool
 | 0, i =>
  .brk ()
 | r + 1, i =>
  let rv4 := (r14_place l (l.getD i.toNat 0))
  bif (rv4 != i) then
   .ret true
  else
   r14_repeated_L0 l r (i + 1)
def r14_repeated (l : List Int) : Bool :=
 match r14_repeated_L0 l (((l.length : Int) - 0).toNat) 0 with
 | .brk _ =>
  false
 | .ret r => r
 | .oof => default
def r14_find_L0 (k : List GKnown) (n : Int) : Nat → Int → LR Unit Int
 | 0, i =>
  .brk ()
 | r + 1, i =>
  bif ((k.getD i.toNat default).Node == n) then
   .ret i
  else
   r14_find_L0 k n r (i + 1)
def r14_find (k : List GKnown) (n : Int) : Int :=
 match r14_find_L0 k n (((k.length : Int) - 0).toNat) 0 with
 | .brk _ =>
  -1
 | .ret r => r
 | .oof => default
def r14_Restrict_L0 (known : List GKnown) : Nat → List Int → Int → List Int
 | 0, nodes, i =>
  nodes
 | r + 1, nodes, i =>
  r14_Restrict_L0 known r (nodes ++ [(known.getD i.toNat default).Node]) (i + 1)
def r14_Restrict_L1 (known : List GKnown) : Nat → Int → LR Unit (GSystem × Int)
 | 0, i =>
  .brk ()
 | r + 1, i =>
  let rv51 := (r1_Valid ((known.getD i.toNat default).Value))
  bif (!rv51) then
   .ret ((GSystem.mk 0 [] [] []), 1)
  else
   r14_Restrict_L1 known r (i + 1)
def r14_Restrict_L2 (s : GSystem) (known : List GKnown) : Nat → Int → LR Unit (GSystem × Int)
 | 0, i =>
  .brk ()
 | r + 1, i =>
  bif (((known.getD i.toNat default).Value).Width != s.Width) then
   .ret ((GSystem.mk 0 [] [] []), 2)
  else
   r14_Restrict_L2 s known r (i + 1)
def r14_Restrict_L4 (s : GSystem) (cone : List Int) (i : Int) : Nat → List Int → Int → List Int
 | 0, d, j =>
  d
 | r + 1, d, j =>
  let rv106 := (r14_place cone ((s.Deps.getD ((cone.getD i.toNat 0) : Int).toNat []).getD j.toNat 0))
  bif decide (0 ≤ rv106) then
   let rv113 := (r7_Insert d rv106)
   r14_Restrict_L4 s cone i r rv113 (j + 1)
  else
   r14_Restrict_L4 s cone i r d (j + 1)
def r14_Restrict_L3 (s : GSystem) (cone : List Int) (known : List GKnown) : Nat → List (List Int) → List GTransfer → List GSet → Int → List (List Int) × List GTransfer × List GSet
 | 0, q1, q2, q3, i =>
  (q1, q2, q3)
 | r + 1, q1, q2, q3, i =>
  let rv68 := (r14_find known (cone.getD i.toNat 0))
  bif decide (0 ≤ rv68) then
   r14_Restrict_L3 s cone known r (q1 ++ [([] : List Int)]) (q2 ++ [(s.Transfers.getD ((cone.getD i.toNat 0) : Int).toNat default)]) (q3 ++ [((known.getD rv68.toNat default).Value)]) (i + 1)
  else
   match r14_Restrict_L4 s cone i (((((s.Deps.getD ((cone.getD i.toNat 0) : Int).toNat []).length : Int) : Int) - 0).toNat) [] 0 with
   | o4_0 =>
    r14_Restrict_L3 s cone known r (q1 ++ [o4_0]) (q2 ++ [(s.Transfers.getD ((cone.getD i.toNat 0) : Int).toNat default)]) (q3 ++ [(s.Boundary.getD ((cone.getD i.toNat 0) : Int).toNat default)]) (i + 1)
def r14_Restrict (s : GSystem) (cone : List Int) (known : List GKnown) : GSystem × Int :=
 let rv3 := (r10_Valid s)
 bif (!rv3) then
  ((GSystem.mk 0 [] [] []), 1)
 else
  match r14_Restrict_L0 known (((known.length : Int) - 0).toNat) [] 0 with
  | o0_0 =>
   let rv16 := (r14_inside s cone)
   bif (!rv16) then
    ((GSystem.mk 0 [] [] []), 9)
   else
    let rv26 := (r14_inside s o0_0)
    bif (!rv26) then
     ((GSystem.mk 0 [] [] []), 9)
    else
     bif ((cone.length : Int) == 0) then
      ((GSystem.mk 0 [] [] []), 6)
     else
      let rv38 := (r14_repeated cone)
      bif rv38 then
       ((GSystem.mk 0 [] [] []), 6)
      else
       match r14_Restrict_L1 known (((known.length : Int) - 0).toNat) 0 with
       | .brk _ =>
        match r14_Restrict_L2 s known (((known.length : Int) - 0).toNat) 0 with
        | .brk _ =>
         match r14_Restrict_L3 s cone known (((cone.length : Int) - 0).toNat) [] [] [] 0 with
         | (o3_0, o3_1, o3_2) =>
          ((GSystem.mk s.Width o3_0 o3_1 o3_2), 0)
        | .ret r => r
        | .oof => default
       | .ret r => r
       | .oof => default
def r7_Ints_L0 (a : List Int) (b : List Int) : Nat → Int → LR Unit Bool
 | 0, i =>
  .brk ()
 | r + 1, i =>
  bif ((a.getD i.toNat 0) != (b.getD i.toNat 0)) then
   .ret false
  else
   r7_Ints_L0 a b r (i + 1)
def r7_Ints (a : List Int) (b : List Int) : Bool :=
 bif ((a.length : Int) != (b.length : Int)) then
  false
 else
  match r7_Ints_L0 a b (((a.length : Int) - 0).toNat) 0 with
  | .brk _ =>
   true
  | .ret r => r
  | .oof => default
def r7_SameLists_L0 (a : List (List Int)) (b : List (List Int)) : Nat → Int → LR Unit Bool
 | 0, i =>
  .brk ()
 | r + 1, i =>
  let rv14 := (r7_Ints (a.getD i.toNat []) (b.getD i.toNat []))
  bif (!rv14) then
   .ret false
  else
   r7_SameLists_L0 a b r (i + 1)
def r7_SameLists (a : List (List Int)) (b : List (List Int)) : Bool :=
 bif ((a.length : Int) != (b.length : Int)) then
  false
 else
  match r7_SameLists_L0 a b (((a.length : Int) - 0).toNat) 0 with
  | .brk _ =>
   true
  | .ret r => r
  | .oof => default
def r1_Same_L0 (a : GSet) (b : GSet) : Nat → Int → LR Unit Bool
 | 0, i =>
  .brk ()
 | r + 1, i =>
  bif ((a.Words.getD i.toNat 0#64) != (b.Words.getD i.toNat 0#64)) then
   .ret false
  else
   r1_Same_L0 a b r (i + 1)
def r1_Same (a : GSet) (b : GSet) : Bool :=
 bif (a.Width != b.Width) then
  false
 else
  bif ((a.Words.length : Int) != (b.Words.length : Int)) then
   false
  else
   match r1_Same_L0 a b (((a.Words.length : Int) - 0).toNat) 0 with
   | .brk _ =>
    true
   | .ret r => r
   | .oof => default
def r10_SameSets_L0 (a : List GSet) (b : List GSet) : Nat → Int → LR Unit Bool
 | 0, i =>
  .brk ()
 | r + 1, i =>
  let rv14 := (r1_Same (a.getD i.toNat default) (b.getD i.toNat default))
  bif (!rv14) then
   .ret false
  else
   r10_SameSets_L0 a b r (i + 1)
def r10_SameSets (a : List GSet) (b : List GSet) : Bool :=
 bif ((a.length : Int) != (b.length : Int)) then
  false
 else
  match r10_SameSets_L0 a b (((a.length : Int) - 0).toNat) 0 with
  | .brk _ =>
   true
  | .ret r => r
  | .oof => default
def r1_Equals_L0 (f : GTransfer) (g : GTransfer) : Nat → Int → LR Unit Bool
 | 0, i =>
  .brk ()
 | r + 1, i =>
  bif ([(f.Copies.getD i.toNat default).From, (f.Copies.getD i.toNat default).To] != [(g.Copies.getD i.toNat default).From, (g.Copies.getD i.toNat default).To]) then
   .ret false
  else
   r1_Equals_L0 f g r (i + 1)
def r1_Equals (f : GTransfer) (g : GTransfer) : Bool :=
 let rv3 := (r1_Same f.Gen g.Gen)
 bif (!rv3) then
  false
 else
  let rv13 := (r1_Same f.Kill g.Kill)
  bif (!rv13) then
   false
  else
   bif ((f.Copies.length : Int) != (g.Copies.length : Int)) then
    false
   else
    match r1_Equals_L0 f g (((f.Copies.length : Int) - 0).toNat) 0 with
    | .brk _ =>
     true
    | .ret r => r
    | .oof => default
def r10_SameSystem_L0 (a : GSystem) (b : GSystem) : Nat → Int → LR Unit Bool
 | 0, i =>
  .brk ()
 | r + 1, i =>
  let rv53 := (r1_Equals (a.Transfers.getD i.toNat default) (b.Transfers.getD i.toNat default))
  bif (!rv53) then
   .ret false
  else
   r10_SameSystem_L0 a b r (i + 1)
def r10_SameSystem (a : GSystem) (b : GSystem) : Bool :=
 bif (a.Width != b.Width) then
  false
 else
  let rv6 := (r7_SameLists a.Deps b.Deps)
  bif (!rv6) then
   false
  else
   let rv16 := (r10_SameSets a.Boundary b.Boundary)
   bif (!rv16) then
    false
   else
    bif ((a.Transfers.length : Int) != (b.Transfers.length : Int)) then
     false
    else
     match r10_SameSystem_L0 a b (((a.Transfers.length : Int) - 0).toNat) 0 with
     | .brk _ =>
      true
     | .ret r => r
     | .oof => default
def sc_Contains_int (s : List Int) (v : Int) : Bool :=
 let rv1 := (sc_Index_int s v)
 decide (0 ≤ rv1)
def cn_Dependents_L0 (s : GSystem) (cone : List Int) (leaf : List Bool) (i : Int) : Nat → List Int → Int → List Int
 | 0, out, v40 =>
  out
 | r + 1, out, v40 =>
  bif (!(leaf.getD v40.toNat false)) then
   let rv43 := (sc_Contains_int (s.Deps.getD ((cone.getD v40.toNat 0) : Int).toNat []) (cone.getD i.toNat 0))
   bif rv43 then
    cn_Dependents_L0 s cone leaf i r (out ++ [v40]) (v40 + 1)
   else
    cn_Dependents_L0 s cone leaf i r out (v40 + 1)
  else
   cn_Dependents_L0 s cone leaf i r out (v40 + 1)
def cn_Dependents (s : GSystem) (cone : List Int) (leaf : List Bool) (i : Int) : List Int :=
 let rv2 := (eq_Valid s)
 bif (!rv2) then
  ([] : List Int)
 else
  let rv12 := (cn_unknowns s cone)
  bif (!rv12) then
   ([] : List Int)
  else
   bif ((leaf.length : Int) != (cone.length : Int)) then
    ([] : List Int)
   else
    bif decide (i < 0) then
     ([] : List Int)
    else
     bif decide ((cone.length : Int) ≤ i) then
      ([] : List Int)
     else
      match cn_Dependents_L0 s cone leaf i (((cone.length : Int) - 0).toNat) [] 0 with
      | o0_0 =>
       o0_0
def r7_Has_L0 (l : List Int) (n : Int) : Nat → Int → LR Unit Bool
 | 0, i =>
  .brk ()
 | r + 1, i =>
  bif ((l.getD i.toNat 0) == n) then
   .ret true
  else
   r7_Has_L0 l n r (i + 1)
def r7_Has (l : List Int) (n : Int) : Bool :=
 match r7_Has_L0 l n (((l.length : Int) - 0).toNat) 0 with
 | .brk _ =>
  false
 | .ret r => r
 | .oof => default
def r14_Dependents_L0 (s : GSystem) (cone : List Int) (leaf : List Bool) (i : Int) : Nat → List Int → Int → List Int
 | 0, out, j =>
  out
 | r + 1, out, j =>
  bif (!(leaf.getD j.toNat false)) then
   let rv43 := (r7_Has (s.Deps.getD ((cone.getD j.toNat 0) : Int).toNat []) (cone.getD i.toNat 0))
   bif rv43 then
    r14_Dependents_L0 s cone leaf i r (out ++ [j]) (j + 1)
   else
    r14_Dependents_L0 s cone leaf i r out (j + 1)
  else
   r14_Dependents_L0 s cone leaf i r out (j + 1)
def r14_Dependents (s : GSystem) (cone : List Int) (leaf : List Bool) (i : Int) : List Int :=
 let rv2 := (r10_Valid s)
 bif (!rv2) then
  ([] : List Int)
 else
  let rv12 := (r14_inside s cone)
  bif (!rv12) then
   ([] : List Int)
  else
   bif ((leaf.length : Int) != (cone.length : Int)) then
    ([] : List Int)
   else
    bif decide (i < 0) then
     ([] : List Int)
    else
     bif decide ((cone.length : Int) ≤ i) then
      ([] : List Int)
     else
      match r14_Dependents_L0 s cone leaf i (((cone.length : Int) - 0).toNat) [] 0 with
      | o0_0 =>
       o0_0
def g_Huge_L0 (s : GSystem) : Nat → Int → LR Unit Bool
 | 0, i =>
  .brk ()
 | r + 1, i =>
  bif decide (8 < ((s.Deps.getD i.toNat []).length : Int)) then
   .ret true
  else
   g_Huge_L0 s r (i + 1)
def g_Huge_L1 (s : GSystem) : Nat → Int → LR Unit Bool
 | 0, i =>
  .brk ()
 | r + 1, i =>
  bif decide (12 < (((s.Transfers.getD i.toNat default).Copies).length : Int)) then
   .ret true
  else
   g_Huge_L1 s r (i + 1)
def g_Huge (s : GSystem) : Bool :=
 bif decide (6 < (s.Deps.length : Int)) then
  true
 else
  bif decide (6 < (s.Transfers.length : Int)) then
   true
  else
   bif decide (6 < (s.Boundary.length : Int)) then
    true
   else
    bif decide (8 < s.Width) then
     true
    else
     match g_Huge_L0 s (((s.Deps.length : Int) - 0).toNat) 0 with
     | .brk _ =>
      match g_Huge_L1 s (((s.Transfers.length : Int) - 0).toNat) 0 with
      | .brk _ =>
       false
      | .ret r => r
      | .oof => default
     | .ret r => r
     | .oof => default
def sc_Clip_int (s : List Int) : List Int :=
 ((s.take ((s.length : Int).toNat)).drop 0)
def cn_Of_L1  (v61 : List Int) : Nat → List Int → List Bool → Int → Int → List Int × List Bool × Int
 | 0, out, found, cost, v63 =>
  (out, found, cost)
 | r + 1, out, found, cost, v63 =>
  bif (!(found.getD ((v61.getD v63.toNat 0) : Int).toNat false)) then
   cn_Of_L1 v61 r (out ++ [(v61.getD v63.toNat 0)]) (found.set ((v61.getD v63.toNat 0) : Int).toNat true) (cost + 1) (v63 + 1)
  else
   cn_Of_L1 v61 r out found (cost + 1) (v63 + 1)
def cn_Of_L0 (s : GSystem) (leaves : List Int) : Nat → List Int → List Bool → Int → Int → LR (List Int × Int) (List Int × Int × Int)
 | 0, out, found, cost, i =>
  .oof
 | r + 1, out, found, cost, i =>
  bif decide (i < (out.length : Int)) then
   let rv47 := (sc_Contains_int leaves (out.getD i.toNat 0))
   bif rv47 then
    cn_Of_L0 s leaves r out found (cost + 1) (i + 1)
   else
    match cn_Of_L1 (s.Deps.getD ((out.getD i.toNat 0) : Int).toNat []) (((((s.Deps.getD ((out.getD i.toNat 0) : Int).toNat []).length : Int) : Int) - 0).toNat) out found (cost + 1) 0 with
    | (o1_0, o1_1, o1_2) =>
     cn_Of_L0 s leaves r o1_0 o1_1 o1_2 (i + 1)
  else
   .brk (out, cost)
def cn_Of (s : GSystem) (root : Int) (leaves : List Int) : List Int × Int × Int :=
 let rv2 := (eq_Valid s)
 bif (!rv2) then
  (([] : List Int), 0, 1)
 else
  let rv15 := (cn_unknowns s [root])
  bif (!rv15) then
   (([] : List Int), 0, 9)
  else
   let rv24 := (cn_unknowns s leaves)
   bif (!rv24) then
    (([] : List Int), 0, 9)
   else
    match cn_Of_L0 s leaves (s.Deps.length + 1) [root] ((List.replicate (s.Deps.length : Int).toNat false).set root.toNat true) 0 0 with
    | .brk (o0_0, o0_1) =>
     let rv49 := (sc_Clip_int o0_0)
     (rv49, o0_1, 0)
    | .ret _ => default
    | .oof => default
def r1_Empty (width : Int) : GSet :=
 (GSet.mk width (List.replicate (((width + 63) / 64) : Int).toNat 0#64))
def r1_Identity (width : Int) : GTransfer :=
 let rv3 := (r1_Empty width)
 (GTransfer.mk rv3 rv3 [])
def w14_line_L0  : Nat → List (List Int) → List GTransfer → List GSet → Int → List (List Int) × List GTransfer × List GSet
 | 0, s1, s2, s3, i =>
  (s1, s2, s3)
 | r + 1, s1, s2, s3, i =>
  bif decide (0 < i) then
   let rv21 := (r1_Identity 0)
   let rv44 := (r1_Empty 0)
   w14_line_L0 r (s1 ++ [[(i - 1)]]) (s2 ++ [rv21]) (s3 ++ [rv44]) (i + 1)
  else
   let rv73 := (r1_Identity 0)
   let rv96 := (r1_Empty 0)
   w14_line_L0 r (s1 ++ [([] : List Int)]) (s2 ++ [rv73]) (s3 ++ [rv96]) (i + 1)
def w14_line (n : Int) : GSystem :=
 match w14_line_L0 (((n : Int) - 0).toNat) [] [] [] 0 with
 | (o0_0, o0_1, o0_2) =>
  (GSystem.mk 0 o0_0 o0_1 o0_2)
def w14_sane  : Bool :=
 let rv4 := (w14_line 4)
 let rv18 := (cn_Of rv4 2 ([] : List Int))
 let rv42 := (cn_Of rv4 2 [1])
 let rv66 := (cn_Of rv4 2 [2])
 bif (rv18.2.2 == 0) then
  bif (rv42.2.2 == 0) then
   bif (rv66.2.2 == 0) then
    let rv84 := (r7_Ints rv18.1 [2, 1, 0])
    bif rv84 then
     bif (rv18.2.1 == 5) then
      let rv93 := (r7_Ints rv42.1 [2, 1])
      bif rv93 then
       bif (rv42.2.1 == 3) then
        let rv102 := (r7_Ints rv66.1 [2])
        bif rv102 then
         (rv66.2.1 == 1)
        else
         false
       else
        false
      else
       false
     else
      false
    else
     false
   else
    false
  else
   false
 else
  false
def g_New (l : List Int) : Unit :=
 ()
def g_Mod (v : Int) (n : Int) : Int :=
 (((BitVec.ofInt 64 v) % (BitVec.ofInt 64 n)).toNat : Int)
def tp_Next (tT : List Int) (tI : Int) (n : Int) : Int × Int :=
 bif decide (n ≤ 1) then
  (0, tI)
 else
  bif decide ((tT.length : Int) ≤ tI) then
   (0, tI)
  else
   let rv8 := (g_Mod (tT.getD (((tI + 1) - 1) : Int).toNat 0) n)
   (rv8, (tI + 1))
def tp_Width (tT : List Int) (tI : Int) : Int × Int :=
 let rv4 := (tp_Next tT tI 7)
 (([3, 1, 4, 2, 6, 0, 8].getD rv4.1.toNat 0), rv4.2)
def r1_Put (s : GSet) (b : Int) : GSet :=
 let rv4 := (r1_Empty s.Width)
 (GSet.mk rv4.Width ((s.Words.take rv4.Words.length ++ rv4.Words.drop s.Words.length).set ((b / 64) : Int).toNat (((s.Words.take rv4.Words.length ++ rv4.Words.drop s.Words.length).getD ((b / 64) : Int).toNat 0#64) ||| (1#64 <<< (((BitVec.ofInt 64 (b % 64)).toNat : Int)).toNat))))
def tp_Set_L0 (tT : List Int) : Nat → Int → Int → List (BitVec 64) → Int → Int × Int × List (BitVec 64)
 | 0, ti', s0, s1, b =>
  (ti', s0, s1)
 | r + 1, ti', s0, s1, b =>
  let rv15 := (tp_Next tT ti' 3)
  bif (rv15.1 == 1) then
   let rv24 := (r1_Put (GSet.mk s0 s1) b)
   tp_Set_L0 tT r rv15.2 rv24.Width rv24.Words (b + 1)
  else
   tp_Set_L0 tT r rv15.2 s0 s1 (b + 1)
def tp_Set (tT : List Int) (tI : Int) (width : Int) : GSet × Int :=
 let rv3 := (r1_Empty width)
 match tp_Set_L0 tT (((width : Int) - 0).toNat) tI rv3.Width rv3.Words 0 with
 | (o0_0, o0_1, o0_2) =>
  ((GSet.mk o0_1 o0_2), o0_0)
def tp_Transfer_L0 (tT : List Int) : Nat → Int → Int → List (BitVec 64) → Int → List (BitVec 64) → Int → Int × Int × List (BitVec 64) × Int × List (BitVec 64)
 | 0, ti', f0, f1, f2, f3, b =>
  (ti', f0, f1, f2, f3)
 | r + 1, ti', f0, f1, f2, f3, b =>
  let rv22 := (tp_Next tT ti' 6)
  bif (rv22.1 == 1) then
   let rv31 := (r1_Put (GSet.mk f0 f1) b)
   tp_Transfer_L0 tT r rv22.2 rv31.Width rv31.Words f2 f3 (b + 1)
  else
   bif (rv22.1 == 2) then
    let rv45 := (r1_Put (GSet.mk f2 f3) b)
    tp_Transfer_L0 tT r rv22.2 f0 f1 rv45.Width rv45.Words (b + 1)
   else
    bif (rv22.1 == 3) then
     let rv57 := (r1_Put (GSet.mk f2 f3) b)
     tp_Transfer_L0 tT r rv22.2 f0 f1 rv57.Width rv57.Words (b + 1)
    else
     tp_Transfer_L0 tT r rv22.2 f0 f1 f2 f3 (b + 1)
def tp_Transfer_L2 (tT : List Int) (width : Int) (a : Int) : Nat → Int → List GCopy → Int → Int × List GCopy
 | 0, ti', f4, b =>
  (ti', f4)
 | r + 1, ti', f4, b =>
  bif decide ((f4.length : Int) < 12) then
   let rv35 := (tp_Next tT ti' (2 * width))
   bif (rv35.1 == 1) then
    tp_Transfer_L2 tT width a r rv35.2 (f4 ++ [(GCopy.mk a b)]) (b + 1)
   else
    tp_Transfer_L2 tT width a r rv35.2 f4 (b + 1)
  else
   (ti', f4)
def tp_Transfer_L1 (tT : List Int) (width : Int) : Nat → Int → List GCopy → Int → Int × List GCopy
 | 0, ti', f4, a =>
  (ti', f4)
 | r + 1, ti', f4, a =>
  match tp_Transfer_L2 tT width a (((width : Int) - 0).toNat) ti' f4 0 with
  | (o2_0, o2_1) =>
   tp_Transfer_L1 tT width r o2_0 o2_1 (a + 1)
def tp_Transfer (tT : List Int) (tI : Int) (width : Int) : GTransfer × Int :=
 let rv3 := (r1_Empty width)
 match tp_Transfer_L0 tT (((width : Int) - 0).toNat) tI rv3.Width rv3.Words rv3.Width rv3.Words 0 with
 | (o0_0, o0_1, o0_2, o0_3, o0_4) =>
  match tp_Transfer_L1 tT width (((width : Int) - 0).toNat) o0_0 [] 0 with
  | (o1_0, o1_1) =>
   ((GTransfer.mk (GSet.mk o0_1 o0_2) (GSet.mk o0_3 o0_4) o1_1), o1_0)
def tp_System_L1 (tT : List Int) (n' : Int) : Nat → Int → List Int → Int → Int × List Int
 | 0, ti', d, k =>
  (ti', d)
 | r + 1, ti', d, k =>
  let rv25 := (tp_Next tT ti' n')
  let rv32 := (r7_Insert d rv25.1)
  tp_System_L1 tT n' r rv25.2 rv32 (k - 1)
def tp_System_L0 (tT : List Int) (n' : Int) (s0 : Int) : Nat → Int → List (List Int) → List GTransfer → List GSet → Int → Int × List (List Int) × List GTransfer × List GSet
 | 0, ti', s1, s2, s3, i =>
  (ti', s1, s2, s3)
 | r + 1, ti', s1, s2, s3, i =>
  let rv17 := (tp_Next tT ti' 4)
  match tp_System_L1 tT n' (rv17.1.toNat) rv17.2 [] rv17.1 with
  | (o1_0, o1_1) =>
   let rv28 := (r1_Empty s0)
   let rv38 := (tp_Next tT o1_0 3)
   bif (rv38.1 == 1) then
    let rv47 := (tp_Set tT rv38.2 s0)
    let rv76 := (tp_Transfer tT rv47.2 s0)
    tp_System_L0 tT n' s0 r rv76.2 (s1 ++ [o1_1]) (s2 ++ [rv76.1]) (s3 ++ [rv47.1]) (i + 1)
   else
    let rv122 := (tp_Transfer tT rv38.2 s0)
    tp_System_L0 tT n' s0 r rv122.2 (s1 ++ [o1_1]) (s2 ++ [rv122.1]) (s3 ++ [rv28]) (i + 1)
def tp_System (tT : List Int) (tI : Int) (n : Int) : GSystem × Int :=
 let rv2 := (tp_Width tT tI)
 let rv9 := (tp_Next tT rv2.2 n)
 match tp_System_L0 tT (1 + rv9.1) (rv2.1 % 5) ((((1 + rv9.1) : Int) - 0).toNat) rv9.2 [] [] [] 0 with
 | (o0_0, o0_1, o0_2, o0_3) =>
  ((GSystem.mk (rv2.1 % 5) o0_1 o0_2 o0_3), o0_0)
def r14_Cone_L1  (d : List Int) : Nat → List Int → Int → List Int
 | 0, out, k =>
  out
 | r + 1, out, k =>
  let rv56 := (r7_Has out (d.getD k.toNat 0))
  bif (!rv56) then
   r14_Cone_L1 d r (out ++ [(d.getD k.toNat 0)]) (k + 1)
  else
   r14_Cone_L1 d r out (k + 1)
def r14_Cone_L0 (s : GSystem) (leaves : List Int) : Nat → List Int → Int → Int → LR (List Int × Int) (List Int × Int × Int)
 | 0, out, cost, i =>
  .oof
 | r + 1, out, cost, i =>
  bif decide (i < (out.length : Int)) then
   let rv42 := (r7_Has leaves (out.getD i.toNat 0))
   bif rv42 then
    r14_Cone_L0 s leaves r out (cost + 1) (i + 1)
   else
    match r14_Cone_L1 (s.Deps.getD ((out.getD i.toNat 0) : Int).toNat []) (((((s.Deps.getD ((out.getD i.toNat 0) : Int).toNat []).length : Int) : Int) - 0).toNat) out 0 with
    | o1_0 =>
     r14_Cone_L0 s leaves r o1_0 ((cost + 1) + ((s.Deps.getD ((out.getD i.toNat 0) : Int).toNat []).length : Int)) (i + 1)
  else
   .brk (out, cost)
def r14_Cone (s : GSystem) (root : Int) (leaves : List Int) : List Int × Int × Int :=
 let rv2 := (r10_Valid s)
 bif (!rv2) then
  (([] : List Int), 0, 1)
 else
  let rv15 := (r14_inside s [root])
  bif (!rv15) then
   (([] : List Int), 0, 9)
  else
   let rv24 := (r14_inside s leaves)
   bif (!rv24) then
    (([] : List Int), 0, 9)
   else
    match r14_Cone_L0 s leaves (s.Deps.length + 1) [root] 0 0 with
    | .brk (o0_0, o0_1) =>
     (o0_0, o0_1, 0)
    | .ret _ => default
    | .oof => default
def w14_list_L0 (kT : List Int) (n : Int) : Nat → Int → List Int → Int → Int × List Int
 | 0, ti', l, i =>
  (ti', l)
 | r + 1, ti', l, i =>
  let rv9 := (tp_Next kT ti' n)
  let rv15 := (tp_Next kT rv9.2 12)
  w14_list_L0 kT n r rv15.2 (l ++ [(rv9.1 - (rv15.1 / 11))]) (i - 1)
def w14_list (kT : List Int) (kI : Int) (n : Int) : List Int × Int :=
 let rv1 := (tp_Next kT kI 4)
 match w14_list_L0 kT n (rv1.1.toNat) rv1.2 [] rv1.1 with
 | (o0_0, o0_1) =>
  (o0_1, o0_0)
def r10_Empty_L0 (s : GSystem) : Nat → List GSet → Int → List GSet
 | 0, out, n =>
  out
 | r + 1, out, n =>
  let rv5 := (r1_Empty s.Width)
  r10_Empty_L0 s r (out ++ [rv5]) (n + 1)
def r10_Empty (s : GSystem) : List GSet :=
 match r10_Empty_L0 s (((s.Boundary.length : Int) - 0).toNat) [] 0 with
 | o0_0 =>
  o0_0
def r10_values_L0 (v : List GSet) : Nat → Int → LR Unit Int
 | 0, i =>
  .brk ()
 | r + 1, i =>
  let rv11 := (r1_Valid (v.getD i.toNat default))
  bif (!rv11) then
   .ret 1
  else
   r10_values_L0 v r (i + 1)
def r10_values_L1 (s : GSystem) (v : List GSet) : Nat → Int → LR Unit Int
 | 0, i =>
  .brk ()
 | r + 1, i =>
  bif ((v.getD i.toNat default).Width != s.Width) then
   .ret 2
  else
   r10_values_L1 s v r (i + 1)
def r10_values (s : GSystem) (v : List GSet) : Int :=
 bif ((v.length : Int) != (s.Boundary.length : Int)) then
  1
 else
  match r10_values_L0 v (((v.length : Int) - 0).toNat) 0 with
  | .brk _ =>
   match r10_values_L1 s v (((v.length : Int) - 0).toNat) 0 with
   | .brk _ =>
    0
   | .ret r => r
   | .oof => default
  | .ret r => r
  | .oof => default
def r1_Has (s : GSet) (b : Int) : Bool :=
 let rv2 := (r1_Valid s)
 bif rv2 then
  bif decide (0 ≤ b) then
   bif decide (b < s.Width) then
    ((((s.Words.getD ((b / 64) : Int).toNat 0#64) >>> (((BitVec.ofInt 64 (b % 64)).toNat : Int)).toNat) &&& 1#64) == 1#64)
   else
    false
  else
   false
 else
  false
def r1_follows_L0 (t : GTransfer) (a : Int) (b : Int) : Nat → Int → LR Unit Bool
 | 0, i =>
  .brk ()
 | r + 1, i =>
  bif ((t.Copies.getD i.toNat default).From == a) then
   bif ((t.Copies.getD i.toNat default).To == b) then
    .ret true
   else
    r1_follows_L0 t a b r (i + 1)
  else
   r1_follows_L0 t a b r (i + 1)
def r1_follows (t : GTransfer) (a : Int) (b : Int) : Bool :=
 bif (a == b) then
  let rv4 := (r1_Has t.Kill a)
  bif (!rv4) then
   true
  else
   match r1_follows_L0 t a b (((t.Copies.length : Int) - 0).toNat) 0 with
   | .brk _ =>
    false
   | .ret r => r
   | .oof => default
 else
  match r1_follows_L0 t a b (((t.Copies.length : Int) - 0).toNat) 0 with
  | .brk _ =>
   false
  | .ret r => r
  | .oof => default
def r1_value_L1 (t : GTransfer) (s : GSet) (a : Int) : Nat → Int → List (BitVec 64) → Int → LR (Int × List (BitVec 64)) GSet
 | 0, out0, out1, b =>
  .oof
 | r + 1, out0, out1, b =>
  let rv7 := (r1_Has s a)
  bif rv7 then
   bif decide (b < s.Width) then
    let rv14 := (r1_follows t a b)
    bif rv14 then
     let rv20 := (r1_Put (GSet.mk out0 out1) b)
     r1_value_L1 t s a r rv20.Width rv20.Words (b + 1)
    else
     r1_value_L1 t s a r out0 out1 (b + 1)
   else
    .brk (out0, out1)
  else
   .brk (out0, out1)
def r1_value_L0 (t : GTransfer) (s : GSet) : Nat → Int → List (BitVec 64) → Int → Int × List (BitVec 64)
 | 0, out0, out1, a =>
  (out0, out1)
 | r + 1, out0, out1, a =>
  match r1_value_L1 t s a (s.Width.toNat + 1) out0 out1 0 with
  | .brk (o1_0, o1_1) =>
   r1_value_L0 t s r o1_0 o1_1 (a + 1)
  | .ret _ => default
  | .oof => default
def r1_value (t : GTransfer) (s : GSet) : GSet :=
 match r1_value_L0 t s (((s.Width : Int) - 0).toNat) t.Gen.Width t.Gen.Words 0 with
 | (o0_0, o0_1) =>
  (GSet.mk o0_0 o0_1)
def r1_Apply (t : GTransfer) (s : GSet) : GSet × Int :=
 let rv4 := (r1_ValidTransfer t)
 bif (!rv4) then
  ((GSet.mk 0 []), 1)
 else
  let rv14 := (r1_Valid s)
  bif (!rv14) then
   ((GSet.mk 0 []), 1)
  else
   bif (t.Gen.Width != s.Width) then
    ((GSet.mk 0 []), 2)
   else
    let rv28 := (r1_value t s)
    (rv28, 0)
def r1_mix_L0 (a : GSet) (b : GSet) (one : Bool) (two : Bool) (both : Bool) : Nat → Int → List (BitVec 64) → Int → Int × List (BitVec 64)
 | 0, s0, s1, k =>
  (s0, s1)
 | r + 1, s0, s1, k =>
  let rv40 := (r1_Has a k)
  let rv43 := (r1_Has b k)
  bif rv40 then
   bif rv43 then
    bif both then
     let rv53 := (r1_Put (GSet.mk s0 s1) k)
     r1_mix_L0 a b one two both r rv53.Width rv53.Words (k + 1)
    else
     r1_mix_L0 a b one two both r s0 s1 (k + 1)
   else
    bif one then
     let rv82 := (r1_Put (GSet.mk s0 s1) k)
     r1_mix_L0 a b one two both r rv82.Width rv82.Words (k + 1)
    else
     r1_mix_L0 a b one two both r s0 s1 (k + 1)
  else
   bif rv43 then
    bif two then
     let rv107 := (r1_Put (GSet.mk s0 s1) k)
     r1_mix_L0 a b one two both r rv107.Width rv107.Words (k + 1)
    else
     r1_mix_L0 a b one two both r s0 s1 (k + 1)
   else
    r1_mix_L0 a b one two both r s0 s1 (k + 1)
def r1_mix (a : GSet) (b : GSet) (one : Bool) (two : Bool) (both : Bool) : GSet × Int :=
 let rv4 := (r1_Valid a)
 bif (!rv4) then
  ((GSet.mk 0 []), 1)
 else
  let rv14 := (r1_Valid b)
  bif (!rv14) then
   ((GSet.mk 0 []), 1)
  else
   bif (a.Width != b.Width) then
    ((GSet.mk 0 []), 2)
   else
    let rv28 := (r1_Empty a.Width)
    match r1_mix_L0 a b one two both (((a.Width : Int) - 0).toNat) rv28.Width rv28.Words 0 with
    | (o0_0, o0_1) =>
     ((GSet.mk o0_0 o0_1), 0)
def r1_Union (a : GSet) (b : GSet) : GSet × Int :=
 let rv5 := (r1_mix a b true true true)
 (rv5.1, rv5.2)
def r1_Join (a : GSet) (b : GSet) : GSet :=
 let rv5 := (r1_Union a b)
 rv5.1
def r10_right_L0 (s : GSystem) (v : List GSet) (n : Int) : Nat → Int → List (BitVec 64) → Int → Int × List (BitVec 64)
 | 0, out0, out1, i =>
  (out0, out1)
 | r + 1, out0, out1, i =>
  let rv31 := (r1_Apply (s.Transfers.getD (((s.Deps.getD n.toNat []).getD i.toNat 0) : Int).toNat default) (v.getD (((s.Deps.getD n.toNat []).getD i.toNat 0) : Int).toNat default))
  let rv41 := (r1_Join (GSet.mk out0 out1) rv31.1)
  r10_right_L0 s v n r rv41.Width rv41.Words (i + 1)
def r10_right (s : GSystem) (v : List GSet) (n : Int) : GSet :=
 match r10_right_L0 s v n (((((s.Deps.getD n.toNat []).length : Int) : Int) - 0).toNat) ((s.Boundary.getD n.toNat default).Width) ((s.Boundary.getD n.toNat default).Words) 0 with
 | (o0_0, o0_1) =>
  (GSet.mk o0_0 o0_1)
def r10_Right (s : GSystem) (v : List GSet) (n : Int) : GSet × Int :=
 let rv3 := (r10_Valid s)
 bif (!rv3) then
  ((GSet.mk 0 []), 1)
 else
  bif decide (n < 0) then
   ((GSet.mk 0 []), 9)
  else
   bif decide ((s.Boundary.length : Int) ≤ n) then
    ((GSet.mk 0 []), 9)
   else
    let rv19 := (r10_values s v)
    bif (rv19 != 0) then
     ((GSet.mk 0 []), rv19)
    else
     let rv27 := (r10_right s v n)
     (rv27, 0)
def r10_Next_L0 (s : GSystem) (v : List GSet) : Nat → List GSet → Int → LR (List GSet) (List GSet × Int)
 | 0, out, n =>
  .brk out
 | r + 1, out, n =>
  let rv5 := (r10_Right s v n)
  bif (rv5.2 != 0) then
   .ret (([] : List GSet), rv5.2)
  else
   r10_Next_L0 s v r (out ++ [rv5.1]) (n + 1)
def r10_Next (s : GSystem) (v : List GSet) : List GSet × Int :=
 match r10_Next_L0 s v ((((max (s.Boundary.length : Int) 1) : Int) - 0).toNat) [] 0 with
 | .brk o0_0 =>
  (o0_0, 0)
 | .ret r => r
 | .oof => default
def r10_Solve_L0 (s : GSystem) : Nat → List GSet → Int → LR Unit (List GSet × Int × Int)
 | 0, v, round =>
  .oof
 | r + 1, v, round =>
  let rv21 := (r10_Next s v)
  let rv29 := (r10_SameSets rv21.1 v)
  bif rv29 then
   .ret (v, round, 0)
  else
   r10_Solve_L0 s r rv21.1 (round + 1)
def r10_Solve (s : GSystem) : List GSet × Int × Int :=
 let rv2 := (r10_Valid s)
 bif (!rv2) then
  (([] : List GSet), 0, 1)
 else
  let rv13 := (r10_Empty s)
  match r10_Solve_L0 s (s.Boundary.length * s.Width.toNat + 2) rv13 0 with
  | .brk _ => default
  | .ret r => r
  | .oof => default
def w14_known_L0 (kT : List Int) (s : GSystem) (wrong : Bool) (v : List GSet) : Nat → Int → List GKnown → Int → Int × List GKnown
 | 0, ti', out, i =>
  (ti', out)
 | r + 1, ti', out, i =>
  let rv14 := (tp_Next kT ti' 3)
  bif (rv14.1 != 1) then
   w14_known_L0 kT s wrong v r rv14.2 out (i + 1)
  else
   bif wrong then
    let rv30 := (tp_Next kT rv14.2 5)
    bif (rv30.1 == 1) then
     let rv38 := (tp_Next kT rv30.2 2)
     let rv45 := (tp_Set kT rv38.2 (s.Width + rv38.1))
     let rv57 := (tp_Next kT rv45.2 9)
     bif (rv57.1 == 1) then
      let rv65 := (tp_Next kT rv57.2 ((v.length : Int) + 2))
      w14_known_L0 kT s wrong v r rv65.2 (out ++ [(GKnown.mk (rv65.1 - 1) rv45.1)]) (i + 1)
     else
      w14_known_L0 kT s wrong v r rv57.2 (out ++ [(GKnown.mk i rv45.1)]) (i + 1)
    else
     let rv91 := (tp_Next kT rv30.2 9)
     bif (rv91.1 == 1) then
      let rv99 := (tp_Next kT rv91.2 ((v.length : Int) + 2))
      w14_known_L0 kT s wrong v r rv99.2 (out ++ [(GKnown.mk (rv99.1 - 1) (v.getD i.toNat default))]) (i + 1)
     else
      w14_known_L0 kT s wrong v r rv91.2 (out ++ [(GKnown.mk i (v.getD i.toNat default))]) (i + 1)
   else
    w14_known_L0 kT s wrong v r rv14.2 (out ++ [(GKnown.mk i (v.getD i.toNat default))]) (i + 1)
def w14_known (kT : List Int) (kI : Int) (s : GSystem) (wrong : Bool) : List GKnown × Int :=
 let rv3 := (r10_Solve s)
 match w14_known_L0 kT s wrong rv3.1 (((rv3.1.length : Int) - 0).toNat) kI [] 0 with
 | (o0_0, o0_1) =>
  (o0_1, o0_0)
def w14_ConeRestricts_L1 (t : List Int) (l : List Int) : Nat → Int → List Bool → Int → LR (Int × List Bool) Bool
 | 0, k1, leaf, j =>
  .oof
 | r + 1, k1, leaf, j =>
  let rv105 := (tp_Next t k1 9)
  bif decide (j < ((l.length : Int) + (rv105.1 / 8))) then
   let rv113 := (tp_Next t rv105.2 3)
   w14_ConeRestricts_L1 t l r rv113.2 (leaf ++ [(rv113.1 == 1)]) (j + 1)
  else
   .brk (rv105.2, leaf)
def w14_ConeRestricts_L0 (t : List Int) : Nat → Int → Int → LR Unit Bool
 | 0, k1, r' =>
  .brk ()
 | r + 1, k1, r' =>
  let rv11 := (tp_System t k1 6)
  let rv27 := (tp_Next t rv11.2 (rv11.1.Deps.length : Int))
  let rv34 := (r14_Cone rv11.1 rv27.1 ([] : List Int))
  let rv43 := (tp_Next t rv27.2 4)
  bif (rv43.1 == 0) then
   let rv52 := (w14_list t rv43.2 (rv11.1.Deps.length : Int))
   let rv61 := (w14_known t rv52.2 rv11.1 true)
   let rv72 := (cn_Restrict rv11.1 rv52.1 rv61.1)
   let rv90 := (r14_Restrict rv11.1 rv52.1 rv61.1)
   match w14_ConeRestricts_L1 t rv52.1 (fl (rv52.1.length + 2)) rv61.2 [] 0 with
   | .brk (o1_0, o1_1) =>
    let rv109 := (tp_Next t o1_0 ((rv52.1.length : Int) + 2))
    bif (rv72.2 != rv90.2) then
     .ret false
    else
     let rv118 := (r10_SameSystem rv72.1 rv90.1)
     bif (!rv118) then
      .ret false
     else
      let rv129 := (cn_Dependents rv11.1 rv52.1 o1_1 (rv109.1 - 1))
      let rv138 := (r14_Dependents rv11.1 rv52.1 o1_1 (rv109.1 - 1))
      let rv146 := (r7_Ints rv129 rv138)
      bif (!rv146) then
       .ret false
      else
       w14_ConeRestricts_L0 t r rv109.2 (r' + 1)
   | .ret _ => .oof
   | .oof => .oof
  else
   let rv158 := (w14_known t rv43.2 rv11.1 true)
   let rv169 := (cn_Restrict rv11.1 rv34.1 rv158.1)
   let rv187 := (r14_Restrict rv11.1 rv34.1 rv158.1)
   match w14_ConeRestricts_L1 t rv34.1 (fl (rv34.1.length + 2)) rv158.2 [] 0 with
   | .brk (o1_0, o1_1) =>
    let rv206 := (tp_Next t o1_0 ((rv34.1.length : Int) + 2))
    bif (rv169.2 != rv187.2) then
     .ret false
    else
     let rv215 := (r10_SameSystem rv169.1 rv187.1)
     bif (!rv215) then
      .ret false
     else
      let rv226 := (cn_Dependents rv11.1 rv34.1 o1_1 (rv206.1 - 1))
      let rv235 := (r14_Dependents rv11.1 rv34.1 o1_1 (rv206.1 - 1))
      let rv243 := (r7_Ints rv226 rv235)
      bif (!rv243) then
       .ret false
      else
       w14_ConeRestricts_L0 t r rv206.2 (r' + 1)
   | .ret _ => .oof
   | .oof => .oof
def w14_ConeRestricts (t : List Int) (s : GSystem) (c : List Int) (k2 : List GKnown) (i : Int) : Bool :=
 let rv3 := (g_New t)
 match w14_ConeRestricts_L0 t 5 0 0 with
 | .brk _ =>
  let rv6 := (g_Huge s)
  bif rv6 then
   w14_sane
  else
   bif decide (30 < (c.length : Int)) then
    w14_sane
   else
    bif decide (20 < (k2.length : Int)) then
     w14_sane
    else
     let rv24 := (cn_Restrict s c k2)
     let rv42 := (r14_Restrict s c k2)
     bif (rv24.2 == rv42.2) then
      let rv59 := (r10_SameSystem rv24.1 rv42.1)
      bif rv59 then
       let rv70 := (cn_Dependents s c (List.replicate (c.length : Int).toNat false) i)
       let rv83 := (r14_Dependents s c (List.replicate (c.length : Int).toNat false) i)
       let rv91 := (r7_Ints rv70 rv83)
       bif rv91 then
        w14_sane
       else
        false
      else
       false
     else
      false
 | .ret r => r
 | .oof => default
theorem scan {σ ρ : Type} (f : Nat → Int → LR σ ρ) (p : Int → Bool) (b : ρ) (c : σ) (h0 : ∀ i, f 0 i = .brk c) (h1 : ∀ r i, f (r + 1) i = bif p i then .ret b else f r (i + 1)) :
  ∀ (m : Nat) (i : Int), (f m i = .ret b ∧ ∃ j, i ≤ j ∧ j < i + m ∧ p j = true) ∨ (f m i = .brk c ∧ ∀ j, i ≤ j → j < i + m → p j = false)
 | 0, i => .inr ⟨h0 i, fun j h1 h2 => by omega⟩
 | m + 1, i => by
  rw [h1]
  cases hp : p i with
  | true => exact .inl ⟨rfl, i, by omega, by omega, hp⟩
  | false =>
   rcases scan f p b c h0 h1 m (i + 1) with ⟨e, j, j1, j2, j3⟩ | ⟨e, h⟩
   ·exact .inl ⟨e, j, by omega, by omega, j3⟩
   ·refine .inr ⟨e, fun j j1 j2 => ?_⟩
    rcases Int.lt_or_eq_of_le j1 with hlt | rfl
    ·exact h j (by omega) (by omega)
    ·exact hp
theorem mem_getD {l : List Int} {n : Int} : n ∈ l ↔ ∃ j : Int, 0 ≤ j ∧ j < (l.length : Int) ∧ l.getD j.toNat 0 = n := by
 constructor
 ·intro h
  obtain ⟨i, hi, e⟩ := List.getElem_of_mem h
  exact ⟨(i : Int), by omega, by omega, by simp [List.getD, hi, e]⟩
 ·rintro ⟨j, j1, j2, rfl⟩
  exact getD_mem (by omega)
def okOut (n : Int) (out : List Int) : Prop := out.Nodup ∧ ∀ x ∈ out, 0 ≤ x ∧ x < n
theorem nodup_le : ∀ (n : Nat) (l : List Int), l.Nodup → (∀ x ∈ l, 0 ≤ x ∧ x < (n : Int)) → l.length ≤ n
 | 0, [], _, _ => Nat.le_refl _
 | 0, x :: l, _, h => by have := h x (by simp); omega
 | n + 1, l, hn, h => by
  have h1 : (l.erase (n : Int)).length ≤ n := nodup_le n (l.erase (n : Int)) (hn.erase _) (fun x hx => by
   have h2 := (List.Nodup.mem_erase_iff hn).1 hx
   have h3 := h x h2.2
   have h4 := h2.1
   omega)
  by_cases hm : (n : Int) ∈ l
  ·rw [List.length_erase_of_mem hm] at h1; omega
  ·rw [List.erase_of_not_mem hm] at h1; omega
theorem okOut_len {n : Int} {out : List Int} (h : okOut n out) (hn : 0 ≤ n) : (out.length : Int) ≤ n := by
 have := nodup_le n.toNat out h.1 (fun x hx => by have := h.2 x hx; omega)
 omega
theorem scan' {σ : Type} (f : Nat → Int → LR σ Int) (p : Int → Bool) (c : σ) (h0 : ∀ i, f 0 i = .brk c) (h1 : ∀ r i, f (r + 1) i = bif p i then .ret i else f r (i + 1)) :
  ∀ (m : Nat) (i : Int), (∃ j, f m i = .ret j ∧ i ≤ j ∧ j < i + m ∧ p j = true) ∨ (f m i = .brk c ∧ ∀ j, i ≤ j → j < i + m → p j = false)
 | 0, i => .inr ⟨h0 i, fun j h1 h2 => by omega⟩
 | m + 1, i => by
  rw [h1]
  cases hp : p i with
  | true => exact .inl ⟨i, rfl, by omega, by omega, hp⟩
  | false =>
   rcases scan' f p c h0 h1 m (i + 1) with ⟨j, e, j1, j2, j3⟩ | ⟨e, h⟩
   ·exact .inl ⟨j, e, by omega, by omega, j3⟩
   ·refine .inr ⟨e, fun j j1 j2 => ?_⟩
    rcases Int.lt_or_eq_of_le j1 with hlt | rfl
    ·exact h j (by omega) (by omega)
    ·exact hp
theorem mem_getDg {α : Type} {l : List α} {n d : α} : n ∈ l ↔ ∃ j : Int, 0 ≤ j ∧ j < (l.length : Int) ∧ l.getD j.toNat d = n := by
 constructor
 ·intro h
  obtain ⟨i, hi, e⟩ := List.getElem_of_mem h
  exact ⟨(i : Int), by omega, by omega, by simp [List.getD, hi, e]⟩
 ·rintro ⟨j, j1, j2, rfl⟩
  exact getD_mem (by omega)
def bitAt (ws : List (BitVec 64)) (b : Int) : Bool := (ws.getD (b / 64).toNat 0#64).getLsbD (b % 64).toNat
def VSet (s : GSet) : Prop := 0 ≤ s.Width ∧ s.Width ≤ 256 ∧ (s.Words.length : Int) = (s.Width + 63) / 64 ∧ ∀ b : Int, s.Width ≤ b → b < 64 * (s.Words.length : Int) → bitAt s.Words b = false
theorem ofInt_small {n : Int} (h : 0 ≤ n ∧ n < 18446744073709551616) : (((BitVec.ofInt 64 n).toNat : Int)).toNat = n.toNat := by
 rw [BitVec.toNat_ofInt]; omega
theorem bit_test (w : BitVec 64) (k : Nat) : (((w >>> k) &&& 1#64) == 1#64) = w.getLsbD k := by
 rw [BitVec.and_one_eq_setWidth_ofBool_getLsbD, BitVec.getLsbD_ushiftRight, Nat.add_zero]
 all_goals (cases w.getLsbD k <;> rfl)
def VSt (w : Int) (b : GSet) : Prop := VSet b ∧ b.Width = w
def tot (s : GSystem) : Nat → Int → Int
 | 0, _ => 0
 | m + 1, i => ((s.Deps.getD i.toNat []).length : Int) + tot s m (i + 1)
theorem tot_nn (s : GSystem) : ∀ m i, 0 ≤ tot s m i
 | 0, _ => Int.le_refl _
 | m + 1, i => by have := tot_nn s m (i + 1); simp only [tot]; omega
theorem tot_ge (s : GSystem) : ∀ (m : Nat) (i j : Int), i ≤ j → j < i + m → ((s.Deps.getD j.toNat []).length : Int) ≤ tot s m i
 | 0, i, j, h1, h2 => by omega
 | m + 1, i, j, h1, h2 => by
  simp only [tot]
  rcases Int.lt_or_eq_of_le h1 with h | rfl
  ·have := tot_ge s m (i + 1) j (by omega) (by omega); omega
  ·have := tot_nn s m (i + 1); omega
theorem VSet.words {s : GSet} (h : VSet s) : 0 ≤ s.Width ∧ s.Width ≤ 256 ∧ s.Words.length ≤ 4 := by
 obtain ⟨a, b, c, _⟩ := h
 omega
def SetOk (s : GSet) : Prop := -1000 ≤ s.Width ∧ s.Width ≤ 1000 ∧ s.Words.length ≤ 1000
theorem VSet.ok {s : GSet} (h : VSet s) : SetOk s := by have := h.words; unfold SetOk; omega
def okFound (n : Int) (out : List Int) (found : List Bool) : Prop := okOut n out ∧ (found.length : Int) = n ∧ ∀ x : Int, 0 ≤ x → x < n → (found.getD x.toNat false = true ↔ x ∈ out)
theorem okFound_len {n : Int} {out : List Int} {found : List Bool} (h : okFound n out found) : (out.length : Int) ≤ n ∧ (found.length : Int) = n := ⟨okOut_len h.1 (by have := h.2.1; omega), h.2.1⟩
theorem bitAt_replicate (n : Nat) (b : Int) : bitAt (List.replicate n 0#64) b = false := by
 unfold bitAt
 rw [List.getD_eq_getElem?_getD, List.getElem?_replicate]
 split <;> simp
theorem getD_of_lt {l : List Int} {j : Nat} (h : j < l.length) : l.getD j 0 = l[j] := by simp [List.getD, List.getElem?_eq_getElem h]
def RisP (l : List Int) (n : Int) : Prop := (∀ x ∈ l, 0 ≤ x ∧ x < n) ∧ l.Pairwise (· < ·)
theorem tot_le {s : GSystem} {b : Nat} (h : ∀ x ∈ s.Deps, x.length ≤ b) : ∀ (m : Nat) (i : Int), tot s m i ≤ (m : Int) * b
 | 0, i => by simp [tot]
 | m + 1, i => by
  simp only [tot]
  have ih := tot_le h m (i + 1)
  have : ((s.Deps.getD i.toNat []).length : Int) ≤ b := by
   rw [List.getD_eq_getElem?_getD]
   cases hx : s.Deps[i.toNat]? with
   | none => simp
   | some x => have := h x (List.mem_of_getElem? hx); simp; omega
  have e : ((m + 1 : Nat) : Int) * b = (m : Int) * b + b := by rw [Int.natCast_add, Int.add_mul]; simp
  omega
def deps (s : GSystem) (x : Int) : List Int := s.Deps.getD x.toNat []
theorem VSt_w {w : Int} {s : GSet} (h : VSt w s) : 0 ≤ w ∧ w ≤ 256 ∧ s.Width = w ∧ (s.Words.length : Int) = (w + 63) / 64 := by
 obtain ⟨⟨h0, h1, h2, h3⟩, rfl⟩ := h; exact ⟨h0, h1, rfl, h2⟩
theorem bitAt_put {ws : List (BitVec 64)} {b : Int} (hb : 0 ≤ b) (hl : b / 64 < (ws.length : Int)) (x : Int) (hx : 0 ≤ x) : bitAt (ws.set (b / 64).toNat ((ws.getD (b / 64).toNat 0#64) ||| (1#64 <<< (b % 64).toNat))) x = (bitAt ws x || x == b) := by
 unfold bitAt
 simp only [List.getD_eq_getElem?_getD, List.getElem?_set]
 by_cases hq : (b / 64).toNat = (x / 64).toNat
 ·rw [if_pos hq, if_pos (by omega)]
  simp only [Option.getD_some, BitVec.getLsbD_or, BitVec.getLsbD_shiftLeft, BitVec.getLsbD_one, hq]
  congr 1
  rw [Bool.eq_iff_iff]
  simp
  omega
 ·rw [if_neg hq]
  have : (x == b) = false := by rw [beq_eq_false_iff_ne]; intro e; subst e; exact hq rfl
  rw [this, Bool.or_false]
def VVals (s : GSystem) (v : List GSet) : Prop := v.length = s.Boundary.length ∧ ∀ g ∈ v, VSt s.Width g
theorem VVals_at {s : GSystem} {v : List GSet} (h : VVals s v) {n : Int} (h0 : 0 ≤ n) (h1 : n < (s.Boundary.length : Int)) : VSt s.Width (v.getD n.toNat default) :=
 h.2 _ (getD_mem (by rw [h.1]; omega))
def Bd (s : GSystem) (n : Int) : GSet := s.Boundary.getD n.toNat default
def Tr (s : GSystem) (n : Int) : GTransfer := s.Transfers.getD n.toNat default
def vat (v : List GSet) (n : Int) : GSet := v.getD n.toNat default
theorem countP_le {α : Type} {p q : α → Bool} : ∀ {l : List α}, (∀ x ∈ l, p x = true → q x = true) → l.countP p ≤ l.countP q
 | [], _ => by simp
 | a :: l, h => by
  have := countP_le (l := l) fun x hx => h x (List.mem_cons_of_mem _ hx)
  rw [List.countP_cons, List.countP_cons]
  have := h a (List.mem_cons_self ..)
  by_cases ha : p a = true
  ·rw [if_pos ha, if_pos (this ha)]; omega
  ·rw [if_neg ha]; split <;> omega
theorem countP_lt {α : Type} {p q : α → Bool} : ∀ {l : List α}, (∀ x ∈ l, p x = true → q x = true) → (∃ x ∈ l, q x = true ∧ p x = false) → l.countP p < l.countP q
 | [], _, ⟨x, hx, _⟩ => by cases hx
 | a :: l, h, ⟨x, hx, h1, h2⟩ => by
  have hl := countP_le (l := l) fun x hx => h x (List.mem_cons_of_mem _ hx)
  rw [List.countP_cons, List.countP_cons]
  have ha := h a (List.mem_cons_self ..)
  rcases List.mem_cons.1 hx with rfl | hx
  ·rw [if_pos h1, if_neg (by rw [h2]; simp)]; omega
  ·have := countP_lt (l := l) (fun x hx => h x (List.mem_cons_of_mem _ hx)) ⟨x, hx, h1, h2⟩
   by_cases hp : p a = true
   ·rw [if_pos hp, if_pos (ha hp)]; omega
   ·rw [if_neg hp]; split <;> omega
theorem nodup_getD {l : List Int} : l.Nodup ↔ ∀ i j : Int, 0 ≤ i → i < j → j < (l.length : Int) → l.getD i.toNat 0 ≠ l.getD j.toNat 0 := by
 unfold List.Nodup
 rw [List.pairwise_iff_getElem]
 constructor
 ·intro h i j i0 ij jl
  have := h i.toNat j.toNat (by omega) (by omega) (by omega)
  rwa [← getD_of_lt (show i.toNat < l.length by omega), ← getD_of_lt (show j.toNat < l.length by omega)] at this
 ·intro h i j hi hj hij
  have := h (i : Int) (j : Int) (by omega) (by omega) (by omega)
  rwa [Int.toNat_natCast, Int.toNat_natCast, getD_of_lt hi, getD_of_lt hj] at this
theorem dropz {α : Type} [Inhabited α] {l : List α} {v : Int} (h0 : 0 ≤ v) (h : v < (l.length : Int)) : l.drop v.toNat = l.getD v.toNat default :: l.drop (v + 1).toNat := by
 rw [List.drop_eq_getElem_cons (show v.toNat < l.length by omega), show (v + 1).toNat = v.toNat + 1 by omega, List.getD_eq_getElem?_getD, List.getElem?_eq_getElem (show v.toNat < l.length by omega)]; rfl
theorem rvT {a r : Bool} (e : a = r) (h : (!r) = false) : a = true := e.trans (by cases r; cases h; rfl)
def Asc (l : List Int) (n : Int) : Prop := ∀ k, 0 ≤ k → k < (l.length : Int) → 0 ≤ l.getD k.toNat 0 ∧ l.getD k.toNat 0 < n ∧ (0 < k → l.getD (k - 1).toNat 0 < l.getD k.toNat 0)
theorem Asc_mem {l : List Int} {n x : Int} (h : Asc l n) (hx : x ∈ l) : 0 ≤ x ∧ x < n := by
 obtain ⟨i, hi, e⟩ := List.mem_iff_getElem.1 hx
 have := h (i : Int) (by omega) (by omega)
 rw [show ((i : Int)).toNat = i by omega, List.getD_eq_getElem?_getD, List.getElem?_eq_getElem hi] at this
 rw [← e]; exact ⟨this.1, this.2.1⟩
theorem Asc_lt {l : List Int} {n : Int} (h : Asc l n) (i : Nat) : ∀ d : Nat, i + d + 1 < l.length → l.getD i 0 < l.getD (i + d + 1) 0
 | 0, hd => by
  have := (h ((i + 1 : Nat) : Int) (by omega) (by omega)).2.2 (by omega)
  rwa [show (((i + 1 : Nat) : Int) - 1).toNat = i by omega, show (((i + 1 : Nat) : Int)).toNat = i + 1 by omega] at this
 | d + 1, hd => by
  have h1 := Asc_lt h i d (by omega)
  have h2 := (h ((i + d + 1 + 1 : Nat) : Int) (by omega) (by omega)).2.2 (by omega)
  rw [show (((i + d + 1 + 1 : Nat) : Int) - 1).toNat = i + d + 1 by omega, show (((i + d + 1 + 1 : Nat) : Int)).toNat = i + d + 1 + 1 by omega] at h2
  exact Int.lt_trans h1 h2
theorem Asc_iff (l : List Int) (n : Int) : Asc l n ↔ l.Pairwise (· < ·) ∧ ∀ x ∈ l, 0 ≤ x ∧ x < n := by
 constructor
 ·intro h
  refine ⟨List.pairwise_iff_getElem.2 fun i j hi hj hij => ?_, fun x hx => Asc_mem h hx⟩
  have := Asc_lt h i (j - i - 1) (by omega)
  rw [show i + (j - i - 1) + 1 = j by omega] at this
  simpa [List.getD_eq_getElem?_getD, List.getElem?_eq_getElem hi, List.getElem?_eq_getElem hj] using this
 ·rintro ⟨h1, h2⟩ k hk0 hk
  have hk' : k.toNat < l.length := by omega
  have e1 : l.getD k.toNat 0 = l[k.toNat] := by simp [List.getD_eq_getElem?_getD, List.getElem?_eq_getElem hk']
  rw [e1]
  refine ⟨(h2 _ (List.getElem_mem hk')).1, (h2 _ (List.getElem_mem hk')).2, fun h0 => ?_⟩
  have hk2 : (k - 1).toNat < l.length := by omega
  have e2 : l.getD (k - 1).toNat 0 = l[(k - 1).toNat] := by rw [List.getD_eq_getElem?_getD, List.getElem?_eq_getElem hk2]; rfl
  rw [e2]
  exact List.pairwise_iff_getElem.1 h1 _ _ hk2 hk' (by omega)
theorem Asc_nd {l : List Int} {n : Int} (h : Asc l n) : l.Nodup := ((Asc_iff l n).1 h).1.imp (fun hab => by omega)
theorem getD_lt {l : List Int} {k : Nat} (hk : k < l.length) : l.getD k 0 = l[k] := by rw [List.getD_eq_getElem?_getD, List.getElem?_eq_getElem hk]; rfl
section
variable {α : Type} (z : α) (key : α → Int)
def gi (d : List α) (k : Int) : α := d.getD k.toNat z
def swp (d : List α) (i j : Int) : List α := (d.set i.toNat (d.getD j.toNat z)).set j.toNat (d.getD i.toNat z)
theorem swp_len (d : List α) (i j : Int) : (swp z d i j).length = d.length := by simp [swp]
theorem swp_gi {d : List α} {i j k : Int} (hi : 0 ≤ i ∧ i < (d.length : Int)) (hj : 0 ≤ j ∧ j < (d.length : Int)) (hk : 0 ≤ k) : gi z (swp z d i j) k = if k = j then gi z d i else if k = i then gi z d j else gi z d k := by
 unfold gi swp
 simp only [List.getD_eq_getElem?_getD, List.getElem?_set, List.length_set]
 by_cases h1 : k = j
 ·subst h1
  have : k.toNat < d.length := by omega
  simp [this]
 ·have e1 : ¬ j.toNat = k.toNat := by omega
  by_cases h2 : k = i
  ·subst h2
   have : k.toNat < d.length := by omega
   simp [e1, h1, this]
  ·have e2 : ¬ i.toNat = k.toNat := by omega
   simp [e1, e2, h1, h2]
theorem swp_perm {d : List α} {i j : Int} (hi : 0 ≤ i ∧ i < (d.length : Int)) (hj : 0 ≤ j ∧ j < (d.length : Int)) : (swp z d i j).Perm d := by
 unfold swp
 have h1 : i.toNat < d.length := by omega
 have h2 : j.toNat < d.length := by omega
 rw [List.getD_eq_getElem?_getD, List.getD_eq_getElem?_getD, List.getElem?_eq_getElem h1, List.getElem?_eq_getElem h2]
 exact List.set_set_perm h1 h2
structure PI (d d' : List α) (a b : Int) : Prop where
 len : d'.length = d.length
 out : ∀ k, 0 ≤ k → (k < a ∨ b ≤ k) → gi z d' k = gi z d k
 src : ∀ k, a ≤ k → k < b → ∃ m, a ≤ m ∧ m < b ∧ gi z d' k = gi z d m
 perm : d'.Perm d
theorem PI.refl (d : List α) (a b : Int) : PI z d d a b := ⟨rfl, fun _ _ _ => rfl, fun k h1 h2 => ⟨k, h1, h2, rfl⟩, List.Perm.refl _⟩
theorem PI.trans {d1 d2 d3 : List α} {a b : Int} (h1 : PI z d1 d2 a b) (h2 : PI z d2 d3 a b) : PI z d1 d3 a b :=
 ⟨h2.len.trans h1.len, fun k hk hc => (h2.out k hk hc).trans (h1.out k hk hc), fun k hk hc => by
  obtain ⟨m, m1, m2, m3⟩ := h2.src k hk hc
  obtain ⟨n, n1, n2, n3⟩ := h1.src m m1 m2
  exact ⟨n, n1, n2, m3.trans n3⟩, h2.perm.trans h1.perm⟩
theorem PI.mono {d d' : List α} {a b a' b' : Int} (h : PI z d d' a b) (h0 : 0 ≤ a') (ha : a' ≤ a) (hb : b ≤ b') : PI z d d' a' b' :=
 ⟨h.len, fun k hk hc => h.out k hk (by omega), fun k hk hc => by
  by_cases hs : a ≤ k ∧ k < b
  ·obtain ⟨m, m1, m2, m3⟩ := h.src k hs.1 hs.2
   exact ⟨m, by omega, by omega, m3⟩
  ·exact ⟨k, hk, hc, h.out k (by omega) (by omega)⟩, h.perm⟩
theorem PI.swp {d : List α} {a b i j : Int} (h0 : 0 ≤ a) (hb : b ≤ (d.length : Int)) (hi : a ≤ i ∧ i < b) (hj : a ≤ j ∧ j < b) : PI z d (swp z d i j) a b :=
 ⟨swp_len z d i j, fun k hk hc => by rw [swp_gi z ⟨by omega, by omega⟩ ⟨by omega, by omega⟩ hk, if_neg (by omega), if_neg (by omega)], fun k hk hc => by
  rw [swp_gi z ⟨by omega, by omega⟩ ⟨by omega, by omega⟩ (by omega)]
  by_cases h1 : k = j
  ·exact ⟨i, hi.1, hi.2, by rw [if_pos h1]⟩
  ·by_cases h2 : k = i
   ·exact ⟨j, hj.1, hj.2, by rw [if_neg h1, if_pos h2]⟩
   ·exact ⟨k, hk, hc, by rw [if_neg h1, if_neg h2]⟩, swp_perm z ⟨by omega, by omega⟩ ⟨by omega, by omega⟩⟩
def Srt (d : List α) (a b : Int) : Prop := ∀ i j, a ≤ i → i ≤ j → j < b → key (gi z d i) ≤ key (gi z d j)
def LB (d : List α) (a b : Int) : Prop := 0 < a → ∀ j, a ≤ j → j < b → key (gi z d (a - 1)) ≤ key (gi z d j)
theorem LB.pi {d d' : List α} {a b : Int} (h : LB z key d a b) (hp : PI z d d' a b) : LB z key d' a b := fun ha j h1 h2 => by
 obtain ⟨m, m1, m2, m3⟩ := hp.src j h1 h2
 rw [m3, hp.out (a - 1) (by omega) (by omega)]
 exact h ha m m1 m2
structure Hole (d : List α) (a j e : Int) : Prop where
 rg : a ≤ j ∧ j < e
 A : ∀ p q, a ≤ p → p ≤ q → q < e → p ≠ j → q ≠ j → key (gi z d p) ≤ key (gi z d q)
 B : ∀ q, j < q → q < e → key (gi z d j) ≤ key (gi z d q)
theorem Hole.done {d : List α} {a j e : Int} (h : Hole z key d a j e) (hs : j = a ∨ key (gi z d (j - 1)) ≤ key (gi z d j)) : Srt z key d a e := fun p q hp hpq hq => by
 have hr := h.rg
 by_cases h1 : p = j
 ·subst h1
  by_cases h2 : q = p
  ·subst h2; exact Int.le_refl _
  ·exact h.B q (by omega) hq
 ·by_cases h2 : q = j
  ·subst h2
   rcases hs with hs | hs
   ·omega
   ·by_cases h3 : p = q - 1
    ·subst h3; exact hs
    ·exact Int.le_trans (h.A p (q - 1) hp (by omega) (by omega) h1 (by omega)) hs
  ·exact h.A p q hp hpq hq h1 h2
theorem Hole.step {d : List α} {a j e : Int} (h0 : 0 ≤ a) (he : e ≤ (d.length : Int)) (h : Hole z key d a j e) (hj : a < j) (hs : key (gi z d j) < key (gi z d (j - 1))) : Hole z key (swp z d j (j - 1)) a (j - 1) e := by
 have hr := h.rg
 have g : ∀ k, 0 ≤ k → gi z (swp z d j (j - 1)) k = if k = j - 1 then gi z d j else if k = j then gi z d (j - 1) else gi z d k := fun k hk => swp_gi z ⟨by omega, by omega⟩ ⟨by omega, by omega⟩ hk
 refine ⟨⟨by omega, by omega⟩, fun p q hp hpq hq h1 h2 => ?_, fun q hq1 hq2 => ?_⟩
 ·rw [g p (by omega), g q (by omega), if_neg h1, if_neg h2]
  by_cases e1 : p = j
  ·rw [if_pos e1]
   by_cases e2 : q = j
   ·rw [if_pos e2]; exact Int.le_refl _
   ·rw [if_neg e2]; exact h.A (j - 1) q (by omega) (by omega) hq (by omega) e2
  ·rw [if_neg e1]
   by_cases e2 : q = j
   ·rw [if_pos e2]; exact h.A p (j - 1) hp (by omega) (by omega) e1 (by omega)
   ·rw [if_neg e2]; exact h.A p q hp hpq hq e1 e2
 ·rw [g (j - 1) (by omega), if_pos rfl, g q (by omega), if_neg (by omega)]
  by_cases e2 : q = j
  ·rw [if_pos e2]; omega
  ·rw [if_neg e2]; exact h.B q (by omega) hq2
theorem Hole.init {d : List α} {a i : Int} (hi : a ≤ i) (h : Srt z key d a i) : Hole z key d a i (i + 1) :=
 ⟨⟨hi, by omega⟩, fun p q hp hpq hq h1 h2 => h p q hp hpq (by omega), fun q hq1 hq2 => by omega⟩
theorem Srt.pi {d d' : List α} {a b c e : Int} (h : Srt z key d a b) (h0 : 0 ≤ a) (hp : PI z d d' c e) (hd : b ≤ c ∨ e ≤ a) : Srt z key d' a b := fun i j h1 h2 h3 => by
 rw [hp.out i (by omega) (by omega), hp.out j (by omega) (by omega)]; exact h i j h1 h2 h3
end
abbrev idk (x : Int) : Int := x
def Hp (d : List Int) (f lo n : Int) : Prop := ∀ i, lo ≤ i → ∀ c, (c = 2 * i + 1 ∨ c = 2 * i + 2) → c < n → gi 0 d (f + c) ≤ gi 0 d (f + i)
structure Hq (d : List Int) (f lo n rt : Int) : Prop where
 A : ∀ i, lo ≤ i → i ≠ rt → ∀ c, (c = 2 * i + 1 ∨ c = 2 * i + 2) → c < n → gi 0 d (f + c) ≤ gi 0 d (f + i)
 B : ∀ i, lo ≤ i → (rt = 2 * i + 1 ∨ rt = 2 * i + 2) → ∀ c, (c = 2 * rt + 1 ∨ c = 2 * rt + 2) → c < n → gi 0 d (f + c) ≤ gi 0 d (f + i)
theorem Hq.done {d : List Int} {f lo n rt : Int} (h : Hq d f lo n rt) (hs : ∀ c, (c = 2 * rt + 1 ∨ c = 2 * rt + 2) → c < n → gi 0 d (f + c) ≤ gi 0 d (f + rt)) : Hp d f lo n := fun i hi c hc hn => by
 by_cases e : i = rt
 ·subst e; exact hs c hc hn
 ·exact h.A i hi e c hc hn
theorem Hq.step {d : List Int} {f lo n rt c : Int} (h0 : 0 ≤ f) (hl : 0 ≤ lo) (hr : lo ≤ rt) (hb : f + n ≤ (d.length : Int)) (h : Hq d f lo n rt) (hc : c = 2 * rt + 1 ∨ c = 2 * rt + 2) (hn : c < n)
  (h1 : gi 0 d (f + rt) < gi 0 d (f + c)) (h2 : ∀ c', (c' = 2 * rt + 1 ∨ c' = 2 * rt + 2) → c' < n → gi 0 d (f + c') ≤ gi 0 d (f + c)) : Hq (swp 0 d (f + rt) (f + c)) f lo n c := by
 have g : ∀ k, 0 ≤ k → gi 0 (swp 0 d (f + rt) (f + c)) (f + k) = if k = c then gi 0 d (f + rt) else if k = rt then gi 0 d (f + c) else gi 0 d (f + k) := fun k hk => by
  rw [swp_gi 0 ⟨by omega, by omega⟩ ⟨by omega, by omega⟩ (by omega)]
  by_cases e1 : k = c
  ·rw [if_pos (by omega), if_pos e1]
  ·rw [if_neg (by omega), if_neg e1]
   by_cases e2 : k = rt
   ·rw [if_pos (by omega), if_pos e2]
   ·rw [if_neg (by omega), if_neg e2]
 refine ⟨fun i hi hne k hk hkn => ?_, fun i hi hp k hk hkn => ?_⟩
 ·rw [g k (by omega), g i (by omega), if_neg hne]
  by_cases e1 : i = rt
  ·rw [if_pos e1]
   subst e1
   by_cases e2 : k = c
   ·rw [if_pos e2]; omega
   ·rw [if_neg e2, if_neg (by omega)]; exact h2 k hk hkn
  ·rw [if_neg e1]
   by_cases e2 : k = c
   ·omega
   ·rw [if_neg e2]
    by_cases e3 : k = rt
    ·rw [if_pos e3]; subst e3; exact h.B i hi hk c hc hn
    ·rw [if_neg e3]; exact h.A i hi e1 k hk hkn
 ·have hi' : i = rt := by omega
  subst hi'
  rw [g k (by omega), g i (by omega), if_neg (by omega), if_neg (by omega), if_neg (by omega), if_pos rfl]
  exact h.A c (by omega) (by omega) k hk hkn
theorem Hp_max {d : List Int} {f n : Int} (h : Hp d f 0 n) : ∀ (m : Nat) (k : Int), k.toNat ≤ m → 0 ≤ k → k < n → gi 0 d (f + k) ≤ gi 0 d (f + 0)
 | 0, k, hm, hk, hn => by rw [show k = 0 by omega]; exact Int.le_refl _
 | m + 1, k, hm, hk, hn => by
  by_cases e : k = 0
  ·rw [e]; exact Int.le_refl _
  ·exact Int.le_trans (h ((k - 1) / 2) (by omega) k (by omega) hn) (Hp_max h m ((k - 1) / 2) (by omega) (by omega) (by omega))
theorem pt_end {d : List Int} {a b m : Int} (h0 : 0 ≤ a) (hm : a ≤ m ∧ m ≤ b - 1) (hb : b ≤ (d.length : Int)) (hA : ∀ k, a < k → k ≤ m → gi 0 d k < gi 0 d a) (hB : ∀ k, m < k → k < b → gi 0 d a ≤ gi 0 d k) :
  PI 0 d (swp 0 d m a) a b ∧ (∀ k, a ≤ k → k < m → gi 0 (swp 0 d m a) k ≤ gi 0 (swp 0 d m a) m) ∧ (∀ k, m < k → k < b → gi 0 (swp 0 d m a) m ≤ gi 0 (swp 0 d m a) k) := by
 have g : ∀ k, 0 ≤ k → gi 0 (swp 0 d m a) k = if k = a then gi 0 d m else if k = m then gi 0 d a else gi 0 d k := fun k hk => swp_gi 0 ⟨by omega, by omega⟩ ⟨by omega, by omega⟩ hk
 have gm : gi 0 (swp 0 d m a) m = gi 0 d a := by
  rw [g m (by omega)]
  by_cases e : m = a
  ·rw [if_pos e, e]
  ·rw [if_neg e, if_pos rfl]
 refine ⟨PI.swp 0 h0 hb (by omega) (by omega), fun k h1 h2 => ?_, fun k h1 h2 => ?_⟩
 ·rw [gm, g k (by omega)]
  by_cases e : k = a
  ·rw [if_pos e]; have := hA m (by omega) (Int.le_refl _); omega
  ·rw [if_neg e, if_neg (by omega)]; have := hA k (by omega) (by omega); omega
 ·rw [gm, g k (by omega), if_neg (by omega), if_neg (by omega)]; exact hB k h1 h2
theorem tab_ok : ((List.range 256).all fun k => (decide (k = 0) || decide (2 ^ (tab0.b.getD k 0).toNat ≤ 2 * k)) && decide ((tab0.b.getD k 0).toNat ≤ 8)) = true := by kernel_rfl
theorem tab_at {k : Nat} (h : k < 256) : (k = 0 ∨ 2 ^ (tab0.b.getD k 0).toNat ≤ 2 * k) ∧ (tab0.b.getD k 0).toNat ≤ 8 := by
 have := List.all_eq_true.1 tab_ok k (List.mem_range.2 h)
 simpa only [Bool.and_eq_true, Bool.or_eq_true, decide_eq_true_eq] using this
theorem ofI_nat {l : Int} (h : 0 ≤ l ∧ l ≤ 65535) : (BitVec.ofInt 64 l).toNat = l.toNat := by rw [BitVec.toNat_ofInt]; omega
theorem and_lt {x m : BitVec 64} (h : 1 ≤ m.toNat) : (x &&& (m - 1#64)).toNat < m.toNat := by
 rw [BitVec.toNat_and]
 have h1 : (m - 1#64).toNat = m.toNat - 1 := by
  rw [BitVec.toNat_sub]
  have := m.isLt
  simp
  omega
 rw [h1]
 have := Nat.and_le_right (n := x.toNat) (m := m.toNat - 1)
 omega
theorem srt_join {d1 d' : List Int} {a m b : Int} (hm : a ≤ m ∧ m < b) (hA : ∀ k, a ≤ k → k < m → gi 0 d1 k ≤ gi 0 d1 m) (hB : ∀ k, m < k → k < b → gi 0 d1 m ≤ gi 0 d1 k)
  (sl : ∀ k, a ≤ k → k < m → ∃ s, a ≤ s ∧ s < m ∧ gi 0 d' k = gi 0 d1 s) (sm : gi 0 d' m = gi 0 d1 m) (sr : ∀ k, m + 1 ≤ k → k < b → ∃ s, m + 1 ≤ s ∧ s < b ∧ gi 0 d' k = gi 0 d1 s)
  (h1 : Srt 0 idk d' a m) (h2 : Srt 0 idk d' (m + 1) b) : Srt 0 idk d' a b := fun p q hp hpq hq => by
 have lo : ∀ k, a ≤ k → k < m → gi 0 d' k ≤ gi 0 d1 m := fun k k1 k2 => by
  obtain ⟨s, s1, s2, s3⟩ := sl k k1 k2
  rw [s3]; exact hA s s1 s2
 have hi : ∀ k, m < k → k < b → gi 0 d1 m ≤ gi 0 d' k := fun k k1 k2 => by
  obtain ⟨s, s1, s2, s3⟩ := sr k (by omega) k2
  rw [s3]; exact hB s (by omega) s2
 show gi 0 d' p ≤ gi 0 d' q
 by_cases c1 : q < m
 ·exact h1 p q hp hpq c1
 ·by_cases c2 : m < p
  ·exact h2 p q (by omega) hpq hq
  ·by_cases c3 : p = m
   ·subst c3
    by_cases c4 : q = p
    ·subst c4; exact Int.le_refl _
    ·rw [sm]; exact hi q (by omega) hq
   ·have l1 := lo p hp (by omega)
    by_cases c4 : q = m
    ·subst c4; rw [sm]; exact l1
    ·exact Int.le_trans l1 (hi q (by omega) hq)
theorem brk_ne {α β : Type} {x : LR α β} {y : α} (h : x = .brk y) : x ≠ .oof := fun e => by rw [h] at e; cases e
theorem srt_nd {l : List Int} (h : l.Pairwise (· ≤ ·)) : (∀ j : Int, 1 ≤ j → j < (l.length : Int) → l.getD j.toNat 0 ≠ l.getD (j - 1).toNat 0) ↔ l.Nodup := by
 have g : ∀ k : Nat, (hk : k < l.length) → l.getD k 0 = l[k] := fun k hk => by simp [List.getD, hk]
 constructor
 ·intro hne
  refine List.pairwise_iff_getElem.2 fun i j hi hj hij => ?_
  have h3 := hne (j : Int) (by omega) (by omega)
  rw [Int.toNat_natCast, show ((j : Int) - 1).toNat = j - 1 by omega, g _ hj, g (j - 1) (by omega)] at h3
  have h2 := List.pairwise_iff_getElem.1 h (j - 1) j (by omega) hj (by omega)
  by_cases e : i = j - 1
  ·subst e; omega
  ·have h4 := List.pairwise_iff_getElem.1 h i (j - 1) hi (by omega) (by omega)
   omega
 ·intro hn j h1 h2
  rw [g _ (by omega), g _ (by omega)]
  have := List.pairwise_iff_getElem.1 hn (j - 1).toNat j.toNat (by omega) (by omega) (by omega)
  exact fun e => this e.symm
theorem Next_rng (t : List Int) (k n : Int) (hn : n ≤ 9223372036854775807) : 0 ≤ (tp_Next t k n).1 ∧ ((tp_Next t k n).1 < n ∨ (tp_Next t k n).1 = 0) := by
 unfold tp_Next
 by_cases h1 : n ≤ 1
 ·simp [h1]
 ·by_cases h2 : (t.length : Int) ≤ k
  ·simp [h1, h2]
  ·simp only [decide_eq_false h1, decide_eq_false h2, cond_false]
   have := mod_range (t.getD (k + 1 - 1).toNat 0) n (by omega)
   unfold g_Mod
   exact ⟨this.1, .inl this.2⟩
theorem Next_lt (t : List Int) (k n : Int) (h1 : 1 ≤ n) (hn : n ≤ 9223372036854775807) : 0 ≤ (tp_Next t k n).1 ∧ (tp_Next t k n).1 < n := by
 have := Next_rng t k n hn; omega
theorem Next_rg (t : List Int) (k n : Int) (hn : n ≤ 9223372036854775807) : 0 ≤ (tp_Next t k n).1 ∧ ((tp_Next t k n).1 < n ∨ (tp_Next t k n).1 = 0) := by
 unfold tp_Next
 by_cases h1 : n ≤ 1
 ·simp [h1]
 ·by_cases h2 : (t.length : Int) ≤ k
  ·simp [h1, h2]
  ·simp only [decide_eq_false h1, decide_eq_false h2, cond_false]
   have := mod_range (t.getD (k + 1 - 1).toNat 0) n (by omega)
   unfold g_Mod
   exact ⟨this.1, .inl this.2⟩
theorem width_rng (l : List Int) (i : Int) : 0 ≤ (tp_Width l i).1 ∧ (tp_Width l i).1 ≤ 8 := by
 unfold tp_Width
 exact getD_all (p := fun x : Int => 0 ≤ x ∧ x ≤ 8) (by decide) (by decide) _
theorem width_ok (l : List Int) (i : Int) : i64ok (tp_Width l i).1 := by
 have := width_rng l i; unfold i64ok; omega
theorem Insert_L0_spec (l : List Int) (n : Int) : ∀ (m : Nat) (i : Int), 0 ≤ i → i + m = (l.length : Int) → (∀ j : Int, 0 ≤ j → j < i → l.getD j.toNat 0 < n) →
  i ≤ r7_Insert_L0 l n m i ∧ r7_Insert_L0 l n m i ≤ (l.length : Int) ∧ (∀ j : Int, 0 ≤ j → j < r7_Insert_L0 l n m i → l.getD j.toNat 0 < n) ∧ (r7_Insert_L0 l n m i < (l.length : Int) → n ≤ l.getD (r7_Insert_L0 l n m i).toNat 0)
 | 0, i, hi, hm, h => by
  simp only [r7_Insert_L0]
  exact ⟨by omega, by omega, h, fun h' => by omega⟩
 | m + 1, i, hi, hm, h => by
  rw [r7_Insert_L0]
  by_cases hlt : l.getD i.toNat 0 < n
  ·simp only [decide_eq_true hlt, cond_true]
   have := Insert_L0_spec l n m (i + 1) (by omega) (by omega) (fun j j0 j1 => by
    rcases Int.lt_or_eq_of_le (show j ≤ i by omega) with h' | rfl
    ·exact h j j0 h'
    ·exact hlt)
   exact ⟨by omega, this.2.1, this.2.2⟩
  ·simp only [decide_eq_false hlt, cond_false]
   exact ⟨by omega, by omega, h, fun _ => by omega⟩
theorem Insert_spec (l : List Int) (n : Int) : r7_Insert l n = l ∧ n ∈ l ∨ ∃ q : Nat, q ≤ l.length ∧ r7_Insert l n = l.take q ++ [n] ++ l.drop q ∧ (∀ j : Nat, j < q → l.getD j 0 < n) ∧ (q < l.length → n < l.getD q 0) := by
 have hs := Insert_L0_spec l n ((((l.length : Nat) : Int) - 0).toNat) 0 (by omega) (by omega) (fun j h1 h2 => by omega)
 unfold r7_Insert
 simp only
 generalize r7_Insert_L0 l n ((((l.length : Nat) : Int) - 0).toNat) 0 = q at hs
 obtain ⟨h0, h1, h2, h3⟩ := hs
 have e : ((((l.take ((q : Int).toNat)).drop 0)) ++ [n]) ++ ((l.take l.length).drop ((q : Int).toNat)) = l.take q.toNat ++ [n] ++ l.drop q.toNat := by simp
 rw [e]
 by_cases hq : q < (l.length : Int)
 ·simp only [decide_eq_true hq, cond_true]
  by_cases hn : l.getD q.toNat 0 = n
  ·have hb : (l.getD q.toNat 0 == n) = true := by rw [hn]; simp
   rw [hb]
   exact .inl ⟨rfl, hn ▸ getD_mem (by omega)⟩
  ·have hb : (l.getD q.toNat 0 == n) = false := by rw [beq_eq_false_iff_ne]; exact hn
   rw [hb]
   have := h3 hq
   exact .inr ⟨q.toNat, by omega, rfl, fun j hj => by have := h2 (j : Int) (by omega) (by omega); simpa [-List.getD_eq_getElem?_getD] using this, fun _ => by omega⟩
 ·simp only [decide_eq_false hq, cond_false]
  exact .inr ⟨q.toNat, by omega, rfl, fun j hj => by have := h2 (j : Int) (by omega) (by omega); simpa [-List.getD_eq_getElem?_getD] using this, fun h => by omega⟩
theorem Insert_mem (l : List Int) (n x : Int) : x ∈ r7_Insert l n ↔ x ∈ l ∨ x = n := by
 rcases Insert_spec l n with ⟨e, h⟩ | ⟨q, _, e, _, _⟩
 ·rw [e]
  exact ⟨.inl, fun h' => h'.elim id (fun e => e ▸ h)⟩
 ·rw [e]
  have hm : x ∈ l ↔ x ∈ l.take q ∨ x ∈ l.drop q := by
   have := List.mem_append (a := x) (s := l.take q) (t := l.drop q)
   rw [List.take_append_drop] at this; exact this
  rw [hm]
  simp only [List.mem_append, List.mem_singleton]
  constructor
  ·rintro ((h | h) | h)
   ·exact .inl (.inl h)
   ·exact .inr h
   ·exact .inl (.inr h)
  ·rintro ((h | h) | h)
   ·exact .inl (.inl h)
   ·exact .inr h
   ·exact .inl (.inr h)
theorem Insert_RisP {l : List Int} {n x : Int} (h : RisP l n) (hx : 0 ≤ x ∧ x < n) : RisP (r7_Insert l x) n ∧ (r7_Insert l x).length ≤ l.length + 1 := by
 refine ⟨⟨fun y hy => ?_, ?_⟩, ?_⟩
 ·rcases (Insert_mem l x y).1 hy with h' | rfl
  ·exact h.1 y h'
  ·exact hx
 ·rcases Insert_spec l x with ⟨e, _⟩ | ⟨q, hq, e, h1, h2⟩
  ·rw [e]; exact h.2
  ·rw [e, List.pairwise_append, List.pairwise_append]
   refine ⟨⟨h.2.sublist (List.take_sublist q l), by simp, fun a ha b hb => ?_⟩, h.2.sublist (List.drop_sublist q l), fun a ha b hb => ?_⟩
   ·rw [List.mem_singleton] at hb; subst hb
    obtain ⟨j, hj, rfl⟩ := List.mem_iff_getElem.1 ha
    rw [List.length_take] at hj
    have := h1 j (by omega)
    rw [getD_of_lt (by omega)] at this
    simpa using this
   ·have hbx : x < b := by
     obtain ⟨j, hj, rfl⟩ := List.mem_iff_getElem.1 hb
     simp at hj
     have h3 := h2 (by omega)
     rw [getD_of_lt (by omega)] at h3
     rw [List.getElem_drop]
     rcases Nat.eq_zero_or_pos j with rfl | hj0
     ·simpa using h3
     ·have := List.pairwise_iff_getElem.1 h.2 q (q + j) (by omega) (by omega) (by omega)
      omega
    rcases List.mem_append.1 ha with ha | ha
    ·have hax : a < x := by
      obtain ⟨j, hj, rfl⟩ := List.mem_iff_getElem.1 ha
      rw [List.length_take] at hj
      have := h1 j (by omega)
      rw [getD_of_lt (by omega)] at this
      simpa using this
     omega
    ·simp at ha; omega
 ·rcases Insert_spec l x with ⟨e, _⟩ | ⟨q, hq, e, _, _⟩
  ·rw [e]; omega
  ·rw [e]; simp; omega
theorem Ins_L14 (l : List Int) (x : Int) : ∀ (r : Nat) (i : Int), 0 ≤ i → i + (r : Int) = (l.length : Int) → ∃ o : Nat, r7_Insert_L0 l x r i = (o : Int) ∧ i.toNat ≤ o ∧ o ≤ l.length ∧ (∀ k, i.toNat ≤ k → k < o → l.getD k 0 < x) ∧ (o < l.length → x ≤ l.getD o 0)
 | 0, i, h0, h => ⟨i.toNat, by rw [r7_Insert_L0]; omega, Nat.le_refl _, by omega, fun k h1 h2 => by omega, fun hh => by omega⟩
 | r + 1, i, h0, h => by
  rw [r7_Insert_L0]
  by_cases c : l.getD i.toNat 0 < x
  ·rw [decide_eq_true c, cond_true]
   obtain ⟨o, h1, h2, h3, h4, h5⟩ := Ins_L14 l x r (i + 1) (by omega) (by omega)
   refine ⟨o, h1, by omega, h3, fun k k1 k2 => ?_, h5⟩
   by_cases e : k = i.toNat
   ·rw [e]; exact c
   ·exact h4 k (by omega) k2
  ·rw [decide_eq_false c, cond_false]
   exact ⟨i.toNat, by omega, Nat.le_refl _, by omega, fun k h1 h2 => by omega, fun hh => by omega⟩
theorem Ins_sp14 {l : List Int} {n x : Int} (h : Asc l n) (hx : 0 ≤ x ∧ x < n) : Asc (r7_Insert l x) n ∧ ∀ y, y ∈ r7_Insert l x ↔ y = x ∨ y ∈ l := by
 obtain ⟨o, h1, -, h3, h4, h5⟩ := Ins_L14 l x (((((l.length : Nat) : Int) : Int) - 0).toNat) 0 (by omega) (by omega)
 have core : (o < l.length → x < l.getD o 0) → Asc ((((l.take (((o : Nat) : Int) : Int).toNat).drop 0) ++ [x]) ++ ((l.take l.length).drop (((o : Nat) : Int) : Int).toNat)) n ∧ ∀ y, y ∈ ((((l.take (((o : Nat) : Int) : Int).toNat).drop 0) ++ [x]) ++ ((l.take l.length).drop (((o : Nat) : Int) : Int).toNat)) ↔ y = x ∨ y ∈ l := by
  intro hgt
  rw [Int.toNat_natCast, List.drop_zero, List.take_length]
  obtain ⟨p1, p2⟩ := (Asc_iff l n).1 h
  have ht : ∀ y ∈ l.take o, y < x := by
   intro y hy
   obtain ⟨k, hk, e⟩ := List.mem_iff_getElem.1 hy
   rw [List.length_take] at hk
   have := h4 k (by omega) (by omega)
   rw [getD_lt (by omega)] at this
   rw [List.getElem_take] at e
   rw [← e]; exact this
  have hd : ∀ y ∈ l.drop o, x < y := by
   intro y hy
   obtain ⟨k, hk, e⟩ := List.mem_iff_getElem.1 hy
   rw [List.length_drop] at hk
   rw [List.getElem_drop] at e
   have h0 := hgt (by omega)
   by_cases k0 : k = 0
   ·subst k0
    rw [getD_lt (by omega)] at h0
    rw [← e]; exact h0
   ·have h6 := Asc_lt h o (k - 1) (by omega)
    rw [show o + (k - 1) + 1 = o + k by omega, getD_lt (k := o + k) (by omega), e] at h6
    omega
  refine ⟨(Asc_iff _ _).2 ⟨List.pairwise_append.2 ⟨List.pairwise_append.2 ⟨p1.sublist (List.take_sublist _ _), List.pairwise_singleton _ _, fun a ha b hb => ?_⟩, p1.sublist (List.drop_sublist _ _), fun a ha b hb => ?_⟩, fun y hy => ?_⟩, fun y => ?_⟩
  ·rw [List.mem_singleton] at hb; rw [hb]; exact ht a ha
  ·rcases List.mem_append.1 ha with ha | ha
   ·exact Int.lt_trans (ht a ha) (hd b hb)
   ·rw [List.mem_singleton] at ha; rw [ha]; exact hd b hb
  ·rcases List.mem_append.1 hy with hy | hy
   ·rcases List.mem_append.1 hy with hy | hy
    ·exact p2 y (List.mem_of_mem_take hy)
    ·rw [List.mem_singleton] at hy; rw [hy]; exact hx
   ·exact p2 y (List.mem_of_mem_drop hy)
  ·rw [List.mem_append, List.mem_append, List.mem_singleton]
   constructor
   ·rintro ((hy | hy) | hy)
    ·exact .inr (List.mem_of_mem_take hy)
    ·exact .inl hy
    ·exact .inr (List.mem_of_mem_drop hy)
   ·rintro (hy | hy)
    ·exact .inl (.inr hy)
    ·rw [← List.take_append_drop o l, List.mem_append] at hy
     rcases hy with hy | hy
     ·exact .inl (.inl hy)
     ·exact .inr hy
 unfold r7_Insert
 rw [h1]
 dsimp only
 by_cases c : o < l.length
 ·rw [decide_eq_true (by omega : ((o : Nat) : Int) < ((l.length : Nat) : Int)), cond_true]
  have h6 := h5 c
  rw [show (l.getD (((o : Nat) : Int)).toNat 0) = l.getD o 0 by rw [Int.toNat_natCast]]
  by_cases e : l.getD o 0 = x
  ·rw [beq_iff_eq.2 e, cond_true]
   refine ⟨h, fun y => ⟨.inr, ?_⟩⟩
   rintro (rfl | hy)
   ·rw [← e]; exact getD_mem c
   ·exact hy
  ·rw [beq_eq_false_iff_ne.2 e, cond_false]
   exact core fun _ => by omega
 ·rw [decide_eq_false (by omega : ¬ ((o : Nat) : Int) < ((l.length : Nat) : Int)), cond_false]
  exact core fun hh => absurd hh c
theorem Empty_V {w : Int} (h0 : 0 ≤ w) (h1 : w ≤ 256) : VSt w (r1_Empty w) := by
 refine ⟨⟨h0, h1, ?_, fun b _ _ => bitAt_replicate _ b⟩, rfl⟩
 simp [r1_Empty]; omega
theorem Put_V {w : Int} {s : GSet} (h : VSt w s) {b : Int} (hb : 0 ≤ b ∧ b < w) : VSt w (r1_Put s b) := by
 obtain ⟨⟨h0, h1, h2, h3⟩, rfl⟩ := h
 have he : (List.replicate (((s.Width + 63) / 64) : Int).toNat 0#64).length = s.Words.length := by simp; omega
 have e : (r1_Put s b).Words = s.Words.set (b / 64).toNat ((s.Words.getD (b / 64).toNat 0#64) ||| (1#64 <<< (b % 64).toNat)) := by
  unfold r1_Put r1_Empty
  simp only
  have e1 : s.Words.take (List.replicate (((s.Width + 63) / 64) : Int).toNat 0#64).length ++ (List.replicate (((s.Width + 63) / 64) : Int).toNat 0#64).drop s.Words.length = s.Words := by
   rw [he, List.take_length, ← he, List.drop_length, List.append_nil]
  rw [e1, ofInt_small (by omega)]
 refine ⟨⟨h0, h1, ?_, fun c c1 c2 => ?_⟩, rfl⟩
 ·rw [e, List.length_set]; exact h2
 ·rw [e, List.length_set] at c2
  have c1 : s.Width ≤ c := c1
  have := h3 c c1 c2
  rw [e]
  unfold bitAt at this ⊢
  rw [List.getD_eq_getElem?_getD] at this ⊢
  rw [List.getElem?_set]
  by_cases hq : (b / 64).toNat = (c / 64).toNat
  ·rw [if_pos hq, if_pos (by clear e he; omega)]
   simp only [Option.getD_some, BitVec.getLsbD_or]
   rw [List.getD_eq_getElem?_getD, hq, this, Bool.false_or, BitVec.getLsbD_shiftLeft]
   have : ¬ (c % 64).toNat = (b % 64).toNat := by
    omega
   rw [BitVec.getLsbD_one]
   simp
   omega
  ·rw [if_neg hq]; exact this
theorem Put_words {w : Int} {s : GSet} (h : VSt w s) {b : Int} (hb : 0 ≤ b ∧ b < w) : (r1_Put s b).Words = s.Words.set (b / 64).toNat ((s.Words.getD (b / 64).toNat 0#64) ||| (1#64 <<< (b % 64).toNat)) := by
 have hw := VSt_w h
 have he : (List.replicate (((s.Width + 63) / 64) : Int).toNat 0#64).length = s.Words.length := by simp; omega
 unfold r1_Put r1_Empty
 simp only
 have e1 : s.Words.take (List.replicate (((s.Width + 63) / 64) : Int).toNat 0#64).length ++ (List.replicate (((s.Width + 63) / 64) : Int).toNat 0#64).drop s.Words.length = s.Words := by
  rw [he, List.take_length, ← he, List.drop_length, List.append_nil]
 rw [e1, ofInt_small (by omega)]
theorem Set_L0_V {t : List Int} {w : Int} : ∀ (m : Nat) (k : Int) (s0 : Int) (s1 : List (BitVec 64)) (b : Int), 0 ≤ b → b + m ≤ w → VSt w ⟨s0, s1⟩ → VSt w ⟨(tp_Set_L0 t m k s0 s1 b).2.1, (tp_Set_L0 t m k s0 s1 b).2.2⟩
 | 0, k, s0, s1, b, _, _, h => h
 | m + 1, k, s0, s1, b, hb, hm, h => by
  rw [tp_Set_L0]
  cases (tp_Next t k 3).1 == 1 with
  | true => exact Set_L0_V m _ _ _ (b + 1) (by omega) (by omega) (Put_V h ⟨hb, by omega⟩)
  | false => exact Set_L0_V m _ _ _ (b + 1) (by omega) (by omega) h
theorem Set_V (t : List Int) (k : Int) {w : Int} (h0 : 0 ≤ w) (h1 : w ≤ 256) : VSt w (tp_Set t k w).1 := by
 unfold tp_Set
 exact Set_L0_V _ _ _ _ _ (by omega) (by omega) (Empty_V h0 h1)
theorem Transfer_L0_V {t : List Int} {w : Int} : ∀ (m : Nat) (k : Int) (f0 : Int) (f1 : List (BitVec 64)) (f2 : Int) (f3 : List (BitVec 64)) (b : Int), 0 ≤ b → b + m ≤ w → VSt w ⟨f0, f1⟩ → VSt w ⟨f2, f3⟩ →
  VSt w ⟨(tp_Transfer_L0 t m k f0 f1 f2 f3 b).2.1, (tp_Transfer_L0 t m k f0 f1 f2 f3 b).2.2.1⟩ ∧ VSt w ⟨(tp_Transfer_L0 t m k f0 f1 f2 f3 b).2.2.2.1, (tp_Transfer_L0 t m k f0 f1 f2 f3 b).2.2.2.2⟩
 | 0, k, f0, f1, f2, f3, b, _, _, h, h' => ⟨h, h'⟩
 | m + 1, k, f0, f1, f2, f3, b, hb, hm, h, h' => by
  rw [tp_Transfer_L0]
  cases (tp_Next t k 6).1 == 1 with
  | true => exact Transfer_L0_V m _ _ _ _ _ (b + 1) (by omega) (by omega) (Put_V h ⟨hb, by omega⟩) h'
  | false =>
   cases (tp_Next t k 6).1 == 2 with
   | true => exact Transfer_L0_V m _ _ _ _ _ (b + 1) (by omega) (by omega) h (Put_V h' ⟨hb, by omega⟩)
   | false =>
    cases (tp_Next t k 6).1 == 3 with
    | true => exact Transfer_L0_V m _ _ _ _ _ (b + 1) (by omega) (by omega) h (Put_V h' ⟨hb, by omega⟩)
    | false => exact Transfer_L0_V m _ _ _ _ _ (b + 1) (by omega) (by omega) h h'
theorem System_L1_V {t : List Int} {n : Int} (hn : 1 ≤ n ∧ n ≤ 9223372036854775807) : ∀ (m : Nat) (k : Int) (d : List Int) (q : Int), RisP d n → RisP (tp_System_L1 t n m k d q).2 n ∧ (tp_System_L1 t n m k d q).2.length ≤ d.length + m
 | 0, k, d, q, h => ⟨h, by simp [tp_System_L1]⟩
 | m + 1, k, d, q, h => by
  rw [tp_System_L1]
  have hi := Insert_RisP h (Next_lt t k n hn.1 hn.2)
  have := System_L1_V (t := t) hn m (tp_Next t k n).2 _ (q - 1) hi.1
  exact ⟨this.1, by have := this.2; have := hi.2; omega⟩
theorem Rising_mem {l : List Int} {n : Int} (hr : r7_Rising l n = true) : ∀ x ∈ l, 0 ≤ x ∧ x < n := by
 have := scan (fun r i => r7_Rising_L0 l n r i) (fun i => bif decide (l.getD i.toNat 0 < 0) then true else bif decide (n ≤ l.getD i.toNat 0) then true else bif decide (0 < i) then decide (l.getD i.toNat 0 ≤ l.getD (i - 1).toNat 0) else false) false () (fun _ => rfl)
  (fun r i => by
   show r7_Rising_L0 l n (r + 1) i = _
   rw [r7_Rising_L0]
   cases decide (l.getD i.toNat 0 < 0) <;> cases decide (n ≤ l.getD i.toNat 0) <;> cases decide (0 < i) <;> rfl) ((((l.length : Nat) : Int) - 0).toNat) 0
 unfold r7_Rising at hr
 rcases this with ⟨e, j, j1, j2, j3⟩ | ⟨e, h⟩
 ·rw [e] at hr; simp at hr
 ·intro x hx
  obtain ⟨j, j1, j2, rfl⟩ := mem_getD.1 hx
  have := h j j1 (by omega)
  simp [Bool.cond_eq_ite, -List.getD_eq_getElem?_getD] at this
  omega
theorem Rising_mk {l : List Int} {n : Int} (h : RisP l n) : r7_Rising l n = true := by
 have loop : ∀ (m : Nat) (i : Int), 0 ≤ i → i + m ≤ (l.length : Int) → r7_Rising_L0 l n m i = .brk () := by
  intro m
  induction m with
  | zero => intro i _ _; rfl
  | succ m ih =>
   intro i hi hm
   rw [r7_Rising_L0]
   have := h.1 _ (getD_mem (xs := l) (i := i.toNat) (d := 0) (by omega))
   rw [decide_eq_false (by omega), decide_eq_false (by omega)]
   simp only [cond_false]
   rw [ih (i + 1) (by omega) (by omega)]
   by_cases h0 : 0 < i
   ·have hp := List.pairwise_iff_getElem.1 h.2 (i - 1).toNat i.toNat (by omega) (by omega) (by omega)
    have hb : ¬ l.getD i.toNat 0 ≤ l.getD (i - 1).toNat 0 := by
     rw [getD_of_lt (show i.toNat < l.length by omega), getD_of_lt (show (i - 1).toNat < l.length by omega)]; omega
    simp only [decide_eq_true h0, cond_true, decide_eq_false hb, cond_false]
   ·simp only [decide_eq_false h0, cond_false]
 unfold r7_Rising
 rw [loop _ 0 (by omega) (by omega)]
theorem Rising_P {l : List Int} {n : Int} (h : r7_Rising l n = true) : RisP l n := by
 have key : ∀ (m : Nat) (i : Int), 0 ≤ i → r7_Rising_L0 l n m i = .ret false ∨ ∀ j : Int, i ≤ j → j < i + m → 0 < j → l.getD (j - 1).toNat 0 < l.getD j.toNat 0 := by
  intro m
  induction m with
  | zero => intro i _; exact .inr fun j a b => by omega
  | succ m ih =>
   intro i h0
   rw [r7_Rising_L0]
   by_cases a : l.getD i.toNat 0 < 0
   ·exact .inl (by simp only [decide_eq_true a, cond_true])
   by_cases b : n ≤ l.getD i.toNat 0
   ·exact .inl (by simp only [decide_eq_false a, decide_eq_true b, cond_true, cond_false])
   simp only [decide_eq_false a, decide_eq_false b, cond_false]
   by_cases c : 0 < i
   ·simp only [decide_eq_true c, cond_true]
    by_cases d : l.getD i.toNat 0 ≤ l.getD (i - 1).toNat 0
    ·exact .inl (by simp only [decide_eq_true d, cond_true])
    ·simp only [decide_eq_false d, cond_false]
     rcases ih (i + 1) (by omega) with h | h
     ·exact .inl h
     ·refine .inr fun j j1 j2 j3 => ?_
      by_cases e : j = i
      ·subst e; omega
      ·exact h j (by omega) (by omega) j3
   ·simp only [decide_eq_false c, cond_false]
    rcases ih (i + 1) (by omega) with h | h
    ·exact .inl h
    ·exact .inr fun j j1 j2 j3 => h j (by omega) (by omega) j3
 refine ⟨Rising_mem h, ?_⟩
 unfold r7_Rising at h
 rw [show ((((l.length : Nat) : Int) - 0).toNat) = l.length by omega] at h
 rcases key l.length 0 (by omega) with e | e
 ·rw [e] at h; cases h
 ·rw [List.pairwise_iff_getElem]
  have step : ∀ (d i : Nat) (hd : i + d + 1 < l.length), l.getD i 0 < l.getD (i + d + 1) 0 := by
   intro d
   induction d with
   | zero =>
    intro i hd
    have := e ((i : Int) + 1) (by omega) (by omega) (by omega)
    rw [show ((i : Int) + 1 - 1).toNat = i by omega, show ((i : Int) + 1).toNat = i + 0 + 1 by omega] at this
    exact this
   | succ d ih =>
    intro i hd
    have h1 := ih i (by omega)
    have := e ((i : Int) + d + 2) (by omega) (by omega) (by omega)
    rw [show ((i : Int) + d + 2 - 1).toNat = i + d + 1 by omega, show ((i : Int) + d + 2).toNat = i + (d + 1) + 1 by omega] at this
    omega
  intro i j hi hj hij
  have := step (j - i - 1) i (by omega)
  rw [show i + (j - i - 1) + 1 = j by omega, getD_of_lt hi, getD_of_lt hj] at this
  exact this
theorem RValid_iff (s : GSet) : r1_Valid s = true ↔ VSet s := by
 have := scan (fun r i => r1_Valid_L0 s r i) (fun b => (((s.Words.getD ((b / 64) : Int).toNat 0#64) >>> (((BitVec.ofInt 64 (b % 64)).toNat : Int)).toNat) &&& 1#64) == 1#64) false () (fun _ => rfl) (fun _ _ => rfl)
  ((((64 * ((s.Words.length : Nat) : Int)) : Int) - s.Width).toNat) s.Width
 have hb : ∀ b : Int, ((((s.Words.getD ((b / 64) : Int).toNat 0#64) >>> (((BitVec.ofInt 64 (b % 64)).toNat : Int)).toNat) &&& 1#64) == 1#64) = bitAt s.Words b := by
  intro b
  rw [bit_test, ofInt_small (by omega)]; rfl
 simp only [hb] at this
 unfold r1_Valid VSet
 simp only [Bool.cond_eq_ite]
 by_cases h1 : s.Width < 0
 ·simp [h1]; omega
 ·by_cases h2 : 256 < s.Width
  ·simp [h1, h2]; omega
  ·by_cases h3 : (s.Words.length : Int) = (s.Width + 63) / 64
   ·rcases this with ⟨e, j, j1, j2, j3⟩ | ⟨e, h⟩
    ·rw [e]
     simp only [h1, h2, h3, decide_false, bne_self_eq_false, Bool.false_eq_true, if_false, false_iff]
     rintro ⟨_, _, _, h⟩
     rw [h j j1 (by omega)] at j3; cases j3
    ·rw [e]
     simp only [h1, h2, h3, decide_false, bne_self_eq_false, Bool.false_eq_true, if_false, true_iff]
     refine ⟨by omega, by omega, trivial, fun b b1 b2 => h b b1 (by omega)⟩
   ·simp [h1, h2, h3]
theorem RV_w {s : GSet} (h : r1_Valid s = true) : 0 ≤ s.Width ∧ s.Width ≤ 256 ∧ (s.Words.length : Int) = (s.Width + 63) / 64 := by
 have := (RValid_iff s).1 h; exact ⟨this.1, this.2.1, this.2.2.1⟩
theorem VSt_valid {w : Int} {s : GSet} (h : VSt w s) : r1_Valid s = true := (RValid_iff s).2 h.1
def CpOk (w : Int) (l : List GCopy) (a b : Int) : Prop := l.length ≤ 12 ∧ (∀ c ∈ l, (0 ≤ c.From ∧ c.From < w) ∧ (0 ≤ c.To ∧ c.To < w) ∧ (c.From < a ∨ (c.From = a ∧ c.To < b))) ∧ l.Pairwise (fun x y => r1_Before x y = true)
theorem Before_iff (x y : GCopy) : r1_Before x y = true ↔ x.From < y.From ∨ (x.From = y.From ∧ x.To < y.To) := by
 unfold r1_Before
 by_cases h : x.From < y.From
 ·simp [h]
 ·by_cases h2 : x.From = y.From
  ·simp [h2]
  ·simp [h, h2]
theorem CpOk.next {w : Int} {l : List GCopy} {a b a' b' : Int} (h : CpOk w l a b) (hab : a < a' ∨ (a = a' ∧ b ≤ b')) : CpOk w l a' b' :=
 ⟨h.1, fun c hc => ⟨(h.2.1 c hc).1, (h.2.1 c hc).2.1, by have := (h.2.1 c hc).2.2; omega⟩, h.2.2⟩
theorem CpOk.push {w : Int} {l : List GCopy} {a b : Int} (h : CpOk w l a b) (hl : l.length < 12) (ha : 0 ≤ a ∧ a < w) (hb : 0 ≤ b ∧ b < w) : CpOk w (l ++ [⟨a, b⟩]) a (b + 1) := by
 refine ⟨by simp; omega, fun c hc => ?_, ?_⟩
 ·rcases List.mem_append.1 hc with hc | hc
  ·have := h.2.1 c hc; exact ⟨this.1, this.2.1, by omega⟩
  ·simp at hc; subst hc; exact ⟨ha, hb, .inr ⟨rfl, by show b < b + 1; omega⟩⟩
 ·rw [List.pairwise_append]
  refine ⟨h.2.2, by simp, fun x hx y hy => ?_⟩
  simp at hy; subst hy
  rw [Before_iff]
  exact (h.2.1 x hx).2.2
theorem Transfer_L2_V {t : List Int} {w a : Int} (ha : 0 ≤ a ∧ a < w) : ∀ (m : Nat) (k : Int) (l : List GCopy) (b : Int), 0 ≤ b → b + m ≤ w → CpOk w l a b → CpOk w (tp_Transfer_L2 t w a m k l b).2 (a + 1) 0
 | 0, k, l, b, _, _, h => h.next (.inl (by omega))
 | m + 1, k, l, b, hb, hm, h => by
  rw [tp_Transfer_L2]
  by_cases hl : (l.length : Int) < 12
  ·simp only [decide_eq_true hl, cond_true]
   cases (tp_Next t k (2 * w)).1 == 1 with
   | true => exact Transfer_L2_V ha m _ _ (b + 1) (by omega) (by omega) (h.push (by omega) ha ⟨hb, by omega⟩)
   | false => exact Transfer_L2_V ha m _ _ (b + 1) (by omega) (by omega) (h.next (.inr ⟨rfl, by omega⟩))
  ·simp only [decide_eq_false hl, cond_false]
   exact h.next (.inl (by omega))
theorem Transfer_L1_V {t : List Int} {w : Int} : ∀ (m : Nat) (k : Int) (l : List GCopy) (a : Int), 0 ≤ a → a + m ≤ w → CpOk w l a 0 → ∃ a', CpOk w (tp_Transfer_L1 t w m k l a).2 a' 0
 | 0, k, l, a, _, _, h => ⟨a, h⟩
 | m + 1, k, l, a, ha, hm, h => by
  rw [tp_Transfer_L1]
  exact Transfer_L1_V m _ _ (a + 1) (by omega) (by omega) (Transfer_L2_V ⟨ha, by omega⟩ _ _ _ _ (by omega) (by omega) h)
def VTr (w : Int) (t : GTransfer) : Prop := r1_ValidTransfer t = true ∧ t.Gen.Width = w
structure VSys (s : GSystem) : Prop where
 w : 0 ≤ s.Width ∧ s.Width ≤ 256
 n : 1 ≤ s.Deps.length ∧ s.Deps.length ≤ 256
 tl : s.Transfers.length = s.Deps.length
 bl : s.Boundary.length = s.Deps.length
 ris : ∀ j : Int, 0 ≤ j → j < (s.Deps.length : Int) → r7_Rising (s.Deps.getD j.toNat []) (s.Deps.length : Int) = true
 edges : tot s s.Deps.length 0 ≤ 1024
 tr : ∀ t ∈ s.Transfers, VTr s.Width t
 bd : ∀ b ∈ s.Boundary, VSt s.Width b
theorem VSys.dep_len {s : GSystem} (h : VSys s) (j : Int) (h0 : 0 ≤ j) (h1 : j < (s.Deps.length : Int)) : (s.Deps.getD j.toNat []).length ≤ 1024 := by
 have := tot_ge s s.Deps.length 0 j h0 (by omega)
 have := h.edges
 omega
theorem ValidTransfer_parts {t : GTransfer} (h : r1_ValidTransfer t = true) : VSet t.Gen ∧ VSet t.Kill ∧ t.Gen.Width = t.Kill.Width ∧ t.Copies.length ≤ 64 := by
 unfold r1_ValidTransfer at h
 cases h1 : r1_Valid t.Gen with
 | false => simp [h1] at h
 | true =>
  cases h2 : r1_Valid t.Kill with
  | false => simp [h1, h2] at h
  | true =>
   by_cases h3 : t.Gen.Width = t.Kill.Width
   ·by_cases h4 : 64 < (t.Copies.length : Int)
    ·simp [h1, h2, h3, h4] at h
    ·exact ⟨(RValid_iff _).1 h1, (RValid_iff _).1 h2, h3, by omega⟩
   ·simp [h1, h2, h3] at h
def okAt (s : GSystem) (j : Int) : Prop := r7_Rising (s.Deps.getD j.toNat []) (s.Boundary.length : Int) = true ∧ VTr s.Width (s.Transfers.getD j.toNat default) ∧ VSt s.Width (s.Boundary.getD j.toNat default)
theorem okAt_all {s : GSystem} (hd : s.Deps.length = s.Boundary.length) (ht : s.Transfers.length = s.Boundary.length) :
  (∀ j : Int, 0 ≤ j → j < (s.Boundary.length : Int) → okAt s j) ↔ (∀ j : Int, 0 ≤ j → j < (s.Deps.length : Int) → r7_Rising (s.Deps.getD j.toNat []) (s.Deps.length : Int) = true) ∧ (∀ t ∈ s.Transfers, VTr s.Width t) ∧ (∀ b ∈ s.Boundary, VSt s.Width b) := by
 constructor
 ·intro h
  refine ⟨fun j j1 j2 => ?_, fun t ht' => ?_, fun b hb => ?_⟩
  ·have := (h j j1 (by omega)).1; rw [hd]; exact this
  ·obtain ⟨j, j1, j2, rfl⟩ := (mem_getDg (d := default)).1 ht'
   exact (h j j1 (by omega)).2.1
  ·obtain ⟨j, j1, j2, rfl⟩ := (mem_getDg (d := default)).1 hb
   exact (h j j1 (by omega)).2.2
 ·rintro ⟨h1, h2, h3⟩ j j1 j2
  exact ⟨by rw [← hd]; exact h1 j j1 (by omega), h2 _ (getD_mem (by omega)), h3 _ (getD_mem (by omega))⟩
theorem ValidTransfer_mk {t : GTransfer} (hg : VSet t.Gen) (hk : VSet t.Kill) (he : t.Gen.Width = t.Kill.Width) (hl : t.Copies.length ≤ 64) (hc : ∀ c ∈ t.Copies, (0 ≤ c.From ∧ c.From < t.Gen.Width) ∧ (0 ≤ c.To ∧ c.To < t.Gen.Width)) (hs : t.Copies.Pairwise (fun x y => r1_Before x y = true)) :
  r1_ValidTransfer t = true := by
 have loop : ∀ (m : Nat) (i : Int), 0 ≤ i → i + m ≤ (t.Copies.length : Int) → r1_ValidTransfer_L0 t m i = .brk () := by
  intro m
  induction m with
  | zero => intro i _ _; rfl
  | succ m ih =>
   intro i hi hm
   rw [r1_ValidTransfer_L0]
   have := hc _ (getD_mem (xs := t.Copies) (i := i.toNat) (d := default) (by omega))
   rw [decide_eq_false (by omega), decide_eq_false (by omega), decide_eq_false (by omega), decide_eq_false (by omega)]
   simp only [cond_false]
   rw [ih (i + 1) (by omega) (by omega)]
   by_cases h0 : 0 < i
   ·simp only [decide_eq_true h0, cond_true]
    have hb : r1_Before (t.Copies.getD (i - 1).toNat default) (t.Copies.getD i.toNat default) = true := by
     have hp := List.pairwise_iff_getElem.1 hs (i - 1).toNat i.toNat (by omega) (by omega) (by omega)
     have g1 : t.Copies.getD (i - 1).toNat default = t.Copies[(i - 1).toNat]'(by omega) := by rw [List.getD_eq_getElem?_getD, List.getElem?_eq_getElem (show (i - 1).toNat < t.Copies.length by omega)]; rfl
     have g2 : t.Copies.getD i.toNat default = t.Copies[i.toNat]'(by omega) := by rw [List.getD_eq_getElem?_getD, List.getElem?_eq_getElem (show i.toNat < t.Copies.length by omega)]; rfl
     rw [g1, g2]; exact hp
    rw [hb]; rfl
   ·simp only [decide_eq_false h0, cond_false]
 unfold r1_ValidTransfer
 rw [(RValid_iff _).2 hg, (RValid_iff _).2 hk]
 have e1 : (t.Gen.Width != t.Kill.Width) = false := by simp [he]
 have e2 : decide (64 < ((t.Copies.length : Nat) : Int)) = false := decide_eq_false (by omega)
 simp only [Bool.not_true, cond_false, e1, e2]
 rw [loop _ 0 (by omega) (by omega)]
theorem Transfer_V (t : List Int) (k : Int) {w : Int} (h0 : 0 ≤ w) (h1 : w ≤ 256) : VTr w (tp_Transfer t k w).1 := by
 unfold tp_Transfer
 simp only
 have hE := Empty_V h0 h1
 have a := Transfer_L0_V (t := t) (w := w) ((w : Int) - 0).toNat k _ _ _ _ 0 (by omega) (by omega) hE hE
 obtain ⟨a', b⟩ := Transfer_L1_V (t := t) (w := w) ((w : Int) - 0).toNat (tp_Transfer_L0 t ((w : Int) - 0).toNat k (r1_Empty w).Width (r1_Empty w).Words (r1_Empty w).Width (r1_Empty w).Words 0).1 [] 0 (by omega) (by omega) ⟨by simp, by simp, by simp⟩
 refine ⟨ValidTransfer_mk a.1.1 a.2.1 (a.1.2.trans a.2.2.symm) (by have := b.1; simp only; omega) (fun c hc => ?_) b.2.2, a.1.2⟩
 have := b.2.1 c hc
 have hw := a.1.2.symm
 exact ⟨⟨this.1.1, hw ▸ this.1.2⟩, this.2.1.1, hw ▸ this.2.1.2⟩
structure SysP (w n : Int) (s1 : List (List Int)) (s2 : List GTransfer) (s3 : List GSet) (i : Int) : Prop where
 l1 : (s1.length : Int) = i
 l2 : (s2.length : Int) = i
 l3 : (s3.length : Int) = i
 d : ∀ x ∈ s1, RisP x n ∧ x.length ≤ 3
 t : ∀ x ∈ s2, VTr w x
 b : ∀ x ∈ s3, VSt w x
theorem System_L0_V {t : List Int} {w n : Int} (hw : 0 ≤ w ∧ w ≤ 256) (hn : 1 ≤ n ∧ n ≤ 9223372036854775807) : ∀ (m : Nat) (k : Int) (s1 : List (List Int)) (s2 : List GTransfer) (s3 : List GSet) (i : Int), SysP w n s1 s2 s3 i →
  SysP w n (tp_System_L0 t n w m k s1 s2 s3 i).2.1 (tp_System_L0 t n w m k s1 s2 s3 i).2.2.1 (tp_System_L0 t n w m k s1 s2 s3 i).2.2.2 (i + m)
 | 0, k, s1, s2, s3, i, h => by simpa [tp_System_L0] using h
 | m + 1, k, s1, s2, s3, i, h => by
  rw [tp_System_L0]
  simp only
  have h4 := Next_lt t k 4 (by omega) (by omega)
  have hd := System_L1_V hn (tp_Next t k 4).1.toNat (tp_Next t k 4).2 [] (tp_Next t k 4).1 ⟨by simp, by simp⟩ (t := t)
  have add : ∀ {x : List Int} {y : GTransfer} {z : GSet}, (RisP x n ∧ x.length ≤ 3) → VTr w y → VSt w z → SysP w n (s1 ++ [x]) (s2 ++ [y]) (s3 ++ [z]) (i + 1) := fun {x y z} hx hy hz =>
   ⟨by have := h.l1; simp; omega, by have := h.l2; simp; omega, by have := h.l3; simp; omega,
    fun a ha => (List.mem_append.1 ha).elim (h.d a) (fun e => by simp at e; subst e; exact hx),
    fun a ha => (List.mem_append.1 ha).elim (h.t a) (fun e => by simp at e; subst e; exact hy),
    fun a ha => (List.mem_append.1 ha).elim (h.b a) (fun e => by simp at e; subst e; exact hz)⟩
  have hd2 : (tp_System_L1 t n (tp_Next t k 4).1.toNat (tp_Next t k 4).2 [] (tp_Next t k 4).1).2.length ≤ 3 := by
   have := hd.2
   simp only [List.length_nil] at this
   omega
  have e : (i + ((m + 1 : Nat) : Int)) = (i + 1) + m := by omega
  rw [e]
  cases (tp_Next t (tp_System_L1 t n (tp_Next t k 4).1.toNat (tp_Next t k 4).2 [] (tp_Next t k 4).1).1 3).1 == 1 with
  | true => exact System_L0_V hw hn m _ _ _ _ (i + 1) (add ⟨hd.1, hd2⟩ (Transfer_V t _ hw.1 hw.2) (Set_V t _ hw.1 hw.2))
  | false => exact System_L0_V hw hn m _ _ _ _ (i + 1) (add ⟨hd.1, hd2⟩ (Transfer_V t _ hw.1 hw.2) (Empty_V hw.1 hw.2))
theorem System_V (t : List Int) (k : Int) {n : Int} (hn : 0 ≤ n ∧ n ≤ 250) : VSys (tp_System t k n).1 := by
 unfold tp_System
 simp only
 have hw := Next_lt t k 7 (by omega) (by omega)
 have hw2 := width_rng t k
 have hr := Next_rng t (tp_Width t k).2 n (by omega)
 have hN : 1 ≤ 1 + (tp_Next t (tp_Width t k).2 n).1 ∧ 1 + (tp_Next t (tp_Width t k).2 n).1 ≤ 251 := by omega
 have hW : 0 ≤ (tp_Width t k).1 % 5 ∧ (tp_Width t k).1 % 5 ≤ 4 := by omega
 have hL := System_L0_V (t := t) (w := (tp_Width t k).1 % 5) (n := 1 + (tp_Next t (tp_Width t k).2 n).1) (by omega) (by omega) ((1 + (tp_Next t (tp_Width t k).2 n).1) - 0).toNat (tp_Next t (tp_Width t k).2 n).2 [] [] [] 0 ⟨by simp, by simp, by simp, by simp, by simp, by simp⟩
 have e : (0 : Int) + (((1 + (tp_Next t (tp_Width t k).2 n).1) - 0).toNat : Int) = 1 + (tp_Next t (tp_Width t k).2 n).1 := by omega
 rw [e] at hL
 generalize tp_System_L0 t (1 + (tp_Next t (tp_Width t k).2 n).1) ((tp_Width t k).1 % 5) ((1 + (tp_Next t (tp_Width t k).2 n).1) - 0).toNat (tp_Next t (tp_Width t k).2 n).2 [] [] [] 0 = R at hL ⊢
 obtain ⟨r0, r1, r2, r3⟩ := R
 simp only at hL ⊢
 obtain ⟨l1, l2, l3, d, tr, b⟩ := hL
 refine ⟨by simp only; omega, by simp only; omega, by simp only; omega, by simp only; omega, fun j j0 j1 => ?_, ?_, tr, b⟩
 ·simp only at j1 ⊢
  rw [l1]
  exact Rising_mk (d _ (getD_mem (by omega))).1
 ·refine Int.le_trans (tot_le (b := 3) (fun x hx => (d x hx).2) _ _) ?_
  simp only; omega
theorem VSys.dep_any {s : GSystem} (h : VSys s) (i : Nat) : (s.Deps.getD i []).length ≤ 1024 := by
 rcases Nat.lt_or_ge i s.Deps.length with hi | hi
 ·have := h.dep_len (i : Int) (by omega) (by omega)
  simpa using this
 ·rw [List.getD_eq_getElem?_getD, List.getElem?_eq_none hi]; simp
theorem VT_w {t : GTransfer} (h : r1_ValidTransfer t = true) : 0 ≤ t.Gen.Width ∧ t.Gen.Width ≤ 256 ∧ (t.Gen.Words.length : Int) = (t.Gen.Width + 63) / 64 := by
 have := (ValidTransfer_parts h).1; exact ⟨this.1, this.2.1, this.2.2.1⟩
theorem VSys.dep_mem {s : GSystem} (h : VSys s) {j : Int} (h0 : 0 ≤ j) (h1 : j < (s.Deps.length : Int)) : ∀ x ∈ s.Deps.getD j.toNat [], 0 ≤ x ∧ x < (s.Deps.length : Int) := Rising_mem (h.ris j h0 h1)
theorem VSys_trV {s : GSystem} (h : VSys s) {j : Int} (h0 : 0 ≤ j) (h1 : j < (s.Deps.length : Int)) : VTr s.Width (s.Transfers.getD j.toNat default) := h.tr _ (getD_mem (by have := h.tl; omega))
theorem VSys_bdV {s : GSystem} (h : VSys s) {j : Int} (h0 : 0 ≤ j) (h1 : j < (s.Deps.length : Int)) : VSt s.Width (s.Boundary.getD j.toNat default) := h.bd _ (getD_mem (by have := h.bl; omega))
theorem System_small (t : List Int) (k : Int) {n : Int} (hn : 0 ≤ n ∧ n ≤ 250) : ((tp_System t k n).1.Deps.length : Int) ≤ max n 1 ∧ (tp_System t k n).1.Width ≤ 4 ∧ ∀ x ∈ (tp_System t k n).1.Deps, x.length ≤ 3 := by
 unfold tp_System
 simp only
 have hw := Next_lt t k 7 (by omega) (by omega)
 have hw2 := width_rng t k
 have hr := Next_rng t (tp_Width t k).2 n (by omega)
 have hN : 1 ≤ 1 + (tp_Next t (tp_Width t k).2 n).1 ∧ 1 + (tp_Next t (tp_Width t k).2 n).1 ≤ 251 := by omega
 have hW : 0 ≤ (tp_Width t k).1 % 5 ∧ (tp_Width t k).1 % 5 ≤ 4 := by omega
 have hL := System_L0_V (t := t) (w := (tp_Width t k).1 % 5) (n := 1 + (tp_Next t (tp_Width t k).2 n).1) (by omega) (by omega) ((1 + (tp_Next t (tp_Width t k).2 n).1) - 0).toNat (tp_Next t (tp_Width t k).2 n).2 [] [] [] 0 ⟨by simp, by simp, by simp, by simp, by simp, by simp⟩
 have e : (0 : Int) + (((1 + (tp_Next t (tp_Width t k).2 n).1) - 0).toNat : Int) = 1 + (tp_Next t (tp_Width t k).2 n).1 := by omega
 rw [e] at hL
 generalize tp_System_L0 t (1 + (tp_Next t (tp_Width t k).2 n).1) ((tp_Width t k).1 % 5) ((1 + (tp_Next t (tp_Width t k).2 n).1) - 0).toNat (tp_Next t (tp_Width t k).2 n).2 [] [] [] 0 = R at hL ⊢
 obtain ⟨r0, r1, r2, r3⟩ := R
 simp only at hL ⊢
 obtain ⟨l1, l2, l3, d, tr, b⟩ := hL
 exact ⟨by omega, by omega, fun x hx => (d x hx).2⟩
theorem VSys.dep_n {s : GSystem} (h : VSys s) {j : Int} (h0 : 0 ≤ j) (h1 : j < (s.Deps.length : Int)) : (s.Deps.getD j.toNat []).length ≤ s.Deps.length := by
 have hr := Rising_P (h.ris j h0 h1)
 refine nodup_le s.Deps.length _ ?_ hr.1
 exact hr.2.imp fun hab => by omega
theorem System_facts {t : List Int} {k n : Int} {r : GSystem × Int} (h : tp_System t k n = r) (hn : 1 ≤ n ∧ n ≤ 12) : VSys r.1 ∧ r.1.Deps.length ≤ 12 ∧ r.1.Width ≤ 4 := by
 subst h
 have := System_small t k (n := n) (by omega)
 exact ⟨System_V t k (by omega), by omega, this.2.1⟩
theorem deps_nd {s : GSystem} (hv : VSys s) {n : Int} (h : 0 ≤ n ∧ n < (s.Deps.length : Int)) : (s.Deps.getD n.toNat []).Nodup ∧ (s.Deps.getD n.toNat []).length ≤ 65535 := by
 have h1 := Rising_P (hv.ris n h.1 h.2)
 have hn := hv.n
 have hnd : (s.Deps.getD n.toNat []).Nodup := h1.2.imp (fun h => by omega)
 exact ⟨hnd, Nat.le_trans (nodup_le _ _ hnd h1.1) (by omega)⟩
theorem Valid_L0 {s : GSystem} : ∀ (m : Nat) (e i : Int), (r10_Valid_L0 s m e i = .ret false) ∨ ((∃ o, r10_Valid_L0 s m e i = .brk o) ∧ ∀ j, i ≤ j → j < i + m → r7_Rising (s.Deps.getD j.toNat []) (s.Boundary.length : Int) = true)
  | 0, e, i => .inr ⟨⟨e, rfl⟩, fun j h1 h2 => by omega⟩
  | m + 1, e, i => by
    rw [r10_Valid_L0]
    simp only [Bool.cond_eq_ite]
    have ih := Valid_L0 (s := s) m (e + (((s.Deps.getD (i : Int).toNat []).length : Nat) : Int)) (i + 1)
    repeat' split
    all_goals first
      | exact .inl rfl
      | (rcases ih with h | ⟨ho, h⟩
         · exact .inl h
         · refine .inr ⟨ho, fun j j1 j2 => ?_⟩
           rcases Int.lt_or_eq_of_le j1 with hlt | rfl
           · exact h j (by omega) (by omega)
           · simp_all)
theorem Valid_deps {s : GSystem} (hv : r10_Valid s = true) : s.Deps.length = s.Boundary.length ∧ s.Transfers.length = s.Boundary.length ∧ s.Boundary.length ≤ 256 ∧ 1 ≤ s.Boundary.length ∧ ∀ j : Int, 0 ≤ j → j < (s.Boundary.length : Int) → r7_Rising (s.Deps.getD j.toNat []) (s.Boundary.length : Int) = true := by
  unfold r10_Valid at hv
  simp only [Bool.cond_eq_ite] at hv
  repeat' split at hv
  all_goals first
    | (cases hv; done)
    | skip
  all_goals
    rename_i h1 h2 h3 h4 h5 h6 _ _ hL
    first
    | (rcases Valid_L0 (s := s) ((((s.Boundary.length : Nat) : Int) - 0).toNat) 0 0 with h | ⟨⟨o, ho⟩, h⟩
       · rw [h] at hL; cases hL <;> cases hv
       · simp at h1 h2 h3 h4 h5 h6
         exact ⟨by omega, by omega, by omega, by omega, fun j j1 j2 => h j j1 (by omega)⟩)
theorem Valid_dep_mem {s : GSystem} (hv : r10_Valid s = true) {j : Int} (h0 : 0 ≤ j) (h1 : j < (s.Boundary.length : Int)) : ∀ x ∈ s.Deps.getD j.toNat [], 0 ≤ x ∧ x < (s.Boundary.length : Int) :=
 Rising_mem ((Valid_deps hv).2.2.2.2 j h0 h1)
theorem R_L0 (s : GSystem) : ∀ (m : Nat) (e i : Int), (r10_Valid_L0 s m e i = .brk (e + tot s m i) ∧ (∀ j, i ≤ j → j < i + m → okAt s j)) ∨ (r10_Valid_L0 s m e i = .ret false ∧ ¬ (∀ j, i ≤ j → j < i + m → okAt s j))
 | 0, e, i => .inl ⟨by simp [r10_Valid_L0, tot], fun j h1 h2 => by omega⟩
 | m + 1, e, i => by
  rw [r10_Valid_L0]
  have ih := R_L0 s m (e + (((s.Deps.getD (i : Int).toNat []).length : Nat) : Int)) (i + 1)
  by_cases ho : okAt s i
  ·obtain ⟨h1, ⟨h2, h3⟩, h4, h5⟩ := ho
   have h4' := (RValid_iff _).2 h4
   simp only [h1, h2, h3, h4', h5, Bool.not_true, bne_self_eq_false, cond_false]
   rcases ih with ⟨a, b⟩ | ⟨a, b⟩
   ·refine .inl ⟨?_, fun j j1 j2 => ?_⟩
    ·rw [a]; simp only [tot]; congr 1; omega
    ·rcases Int.lt_or_eq_of_le j1 with hlt | rfl
     ·exact b j (by omega) (by omega)
     ·exact ⟨h1, ⟨h2, h3⟩, h4, h5⟩
   ·exact .inr ⟨a, fun h => b fun j j1 j2 => h j (by omega) (by omega)⟩
  ·refine .inr ⟨?_, fun h => ho (h i (by omega) (by omega))⟩
   unfold okAt VTr VSt at ho
   rw [← RValid_iff] at ho
   cases h1 : r7_Rising (s.Deps.getD i.toNat []) (s.Boundary.length : Int) with
   | false => rfl
   | true =>
    cases h2 : r1_ValidTransfer (s.Transfers.getD i.toNat default) with
    | false => rfl
    | true =>
     cases h3 : ((s.Transfers.getD i.toNat default).Gen.Width != s.Width) with
     | true => simp only [h3]; rfl
     | false =>
      cases h4 : r1_Valid (s.Boundary.getD i.toNat default) with
      | false => simp only [h3]; rfl
      | true =>
       cases h5 : ((s.Boundary.getD i.toNat default).Width != s.Width) with
       | true => simp only [h3, h5]; rfl
       | false =>
        exfalso
        apply ho
        rw [h1, h2, h4]
        exact ⟨rfl, ⟨rfl, by simpa [-List.getD_eq_getElem?_getD] using h3⟩, rfl, by simpa [-List.getD_eq_getElem?_getD] using h5⟩
theorem RefValid_iff (s : GSystem) : r10_Valid s = true ↔ VSys s := by
 unfold r10_Valid
 simp only [Bool.cond_eq_ite]
 by_cases h1 : s.Width < 0
 ·simp only [h1, decide_true, if_true]; exact ⟨fun h => (by cases h), fun h => by have := h.w; omega⟩
 by_cases h2 : 256 < s.Width
 ·simp only [h1, h2, decide_true, decide_false, if_true, if_false, Bool.false_eq_true]; exact ⟨fun h => (by cases h), fun h => by have := h.w; omega⟩
 by_cases h3 : (s.Boundary.length : Int) < 1
 ·simp only [h1, h2, h3, decide_true, decide_false, if_true, if_false, Bool.false_eq_true]; exact ⟨fun h => (by cases h), fun h => by have := h.n; have := h.bl; omega⟩
 by_cases h4 : 256 < (s.Boundary.length : Int)
 ·simp only [h1, h2, h3, h4, decide_true, decide_false, if_true, if_false, Bool.false_eq_true]; exact ⟨fun h => (by cases h), fun h => by have := h.n; have := h.bl; omega⟩
 by_cases h5 : (s.Deps.length : Int) = (s.Boundary.length : Int)
 case neg =>
  have h5' : ((s.Deps.length : Int) != (s.Boundary.length : Int)) = true := by simp [h5]
  simp only [h1, h2, h3, h4, h5', decide_true, decide_false, if_true, if_false, Bool.false_eq_true]; exact ⟨fun h => (by cases h), fun h => by have := h.bl; omega⟩
 have h5' : ((s.Deps.length : Int) != (s.Boundary.length : Int)) = false := by simp [h5]
 by_cases h6 : (s.Transfers.length : Int) = (s.Boundary.length : Int)
 case neg =>
  have h6' : ((s.Transfers.length : Int) != (s.Boundary.length : Int)) = true := by simp [h6]
  simp only [h1, h2, h3, h4, h5', h6', decide_true, decide_false, if_true, if_false, Bool.false_eq_true]; exact ⟨fun h => (by cases h), fun h => by have := h.bl; have := h.tl; omega⟩
 have h6' : ((s.Transfers.length : Int) != (s.Boundary.length : Int)) = false := by simp [h6]
 simp only [h1, h2, h3, h4, h5', h6', decide_false, if_false, Bool.false_eq_true]
 have hm : ((((s.Boundary.length : Nat) : Int) : Int) - 0).toNat = s.Boundary.length := by omega
 rw [hm]
 have hall := okAt_all (s := s) (by omega) (by omega)
 rcases R_L0 s s.Boundary.length 0 0 with ⟨e, p⟩ | ⟨e, p⟩
 ·rw [e]
  simp only [decide_eq_true_eq]
  have hp := hall.1 (fun j j1 j2 => p j j1 (by omega))
  constructor
  ·intro h
   exact ⟨by omega, by omega, by omega, by omega, hp.1, by rw [show s.Deps.length = s.Boundary.length by omega]; omega, hp.2.1, hp.2.2⟩
  ·intro h
   have := h.edges
   rw [show s.Deps.length = s.Boundary.length by omega] at this; omega
 ·rw [e]
  exact ⟨fun h => (by cases h), fun h => absurd (fun j j1 j2 => (hall.2 ⟨h.ris, h.tr, h.bd⟩) j j1 (by omega)) p⟩
theorem inside_iff (s : GSystem) (l : List Int) : r14_inside s l = true ↔ ∀ x ∈ l, 0 ≤ x ∧ x < (s.Boundary.length : Int) := by
 have := scan (fun r i => r14_inside_L0 s l r i) (fun i => bif decide (l.getD i.toNat 0 < 0) then true else decide ((s.Boundary.length : Int) ≤ l.getD i.toNat 0)) false () (fun _ => rfl)
  (fun r i => by
   show r14_inside_L0 s l (r + 1) i = _
   rw [r14_inside_L0]
   cases decide (l.getD i.toNat 0 < 0) <;> rfl) ((((l.length : Nat) : Int) - 0).toNat) 0
 unfold r14_inside
 rcases this with ⟨e, j, j1, j2, j3⟩ | ⟨e, h⟩
 ·rw [e]
  refine ⟨fun h => by simp at h, fun h => ?_⟩
  have := h _ (getD_mem (xs := l) (i := j.toNat) (d := 0) (by omega))
  simp [Bool.cond_eq_ite, -List.getD_eq_getElem?_getD] at j3
  omega
 ·rw [e]
  refine ⟨fun _ x hx => ?_, fun _ => rfl⟩
  obtain ⟨j, j1, j2, rfl⟩ := mem_getD.1 hx
  have := h j j1 (by omega)
  simp [Bool.cond_eq_ite, -List.getD_eq_getElem?_getD] at this
  omega
theorem okOut_one {s : GSystem} {root : Int} (h : r14_inside s [root] = true) : okOut (s.Boundary.length : Int) [root] := ⟨by simp, (inside_iff s [root]).1 h⟩
theorem inside_dep {s : GSystem} (hv : VSys s) {l : List Int} (h : r14_inside s l = true) : ∀ x ∈ l, 0 ≤ x ∧ x < (s.Deps.length : Int) := by
 have := (inside_iff s l).1 h; rw [hv.bl] at this; exact this
theorem Has_iff (l : List Int) (n : Int) : r7_Has l n = true ↔ n ∈ l := by
 have := scan (fun r i => r7_Has_L0 l n r i) (fun i => l.getD i.toNat 0 == n) true () (fun _ => rfl) (fun _ _ => rfl) ((((l.length : Nat) : Int) - 0).toNat) 0
 unfold r7_Has
 rw [mem_getD]
 rcases this with ⟨e, j, j1, j2, j3⟩ | ⟨e, h⟩
 ·rw [e]
  exact ⟨fun _ => ⟨j, j1, by omega, by simpa using j3⟩, fun _ => rfl⟩
 ·rw [e]
  refine ⟨fun h => by simp at h, ?_⟩
  rintro ⟨j, j1, j2, j3⟩
  have := h j j1 (by omega)
  simp [-List.getD_eq_getElem?_getD] at this; exact absurd j3 this
theorem Has_false {l : List Int} {n : Int} (h : r7_Has l n = false) : n ∉ l := fun e => by
 rw [(Has_iff l n).2 e] at h; cases h
theorem okOut_push {n : Int} {out : List Int} {x : Int} (h : okOut n out) (hx : r7_Has out x = false) (h0 : 0 ≤ x) (h1 : x < n) : okOut n (out ++ [x]) := by
 have hm := Has_false hx
 refine ⟨?_, fun y hy => ?_⟩
 ·rw [List.nodup_append]
  exact ⟨h.1, by simp, fun a ha b hb => by simp at hb; subst hb; intro e; exact hm (e ▸ ha)⟩
 ·rcases List.mem_append.1 hy with h' | h'
  ·exact h.2 y h'
  ·simp at h'; subst h'; exact ⟨h0, h1⟩
theorem okFound_push {n : Int} {out : List Int} {found : List Bool} {x : Int} (h : okFound n out found) (hx : found.getD x.toNat false = false) (h0 : 0 ≤ x) (h1 : x < n) : okFound n (out ++ [x]) (found.set x.toNat true) := by
 have hm : x ∉ out := fun e => by rw [(h.2.2 x h0 h1).2 e] at hx; cases hx
 refine ⟨okOut_push h.1 (by cases hh : r7_Has out x with | false => rfl | true => exact absurd ((Has_iff out x).1 hh) hm) h0 h1, by simp [h.2.1], fun y y0 y1 => ?_⟩
 have hl := h.2.1
 rw [List.mem_append, List.mem_singleton, ← h.2.2 y y0 y1]
 simp only [List.getD_eq_getElem?_getD, List.getElem?_set]
 by_cases e : x.toNat = y.toNat
 ·have : x = y := by omega
  subst this
  rw [if_pos rfl, if_pos (by omega)]; simp
 ·rw [if_neg e]
  exact ⟨.inl, fun h => h.elim id (fun h => absurd (by rw [h]) e)⟩
theorem Cone_L1_ok {n : Int} {d : List Int} (hd : ∀ x ∈ d, 0 ≤ x ∧ x < n) : ∀ (m : Nat) (out : List Int) (k : Int), 0 ≤ k → k + m ≤ (d.length : Int) → okOut n out → okOut n (r14_Cone_L1 d m out k) ∧ out.length ≤ (r14_Cone_L1 d m out k).length
 | 0, out, k, _, _, h => ⟨h, Nat.le_refl _⟩
 | m + 1, out, k, hk, hk2, h => by
  rw [r14_Cone_L1]
  have hx := hd _ (getD_mem (xs := d) (i := k.toNat) (d := 0) (by omega))
  cases hh : r7_Has out (d.getD k.toNat 0) with
  | true => simp only [Bool.not_true, cond_false]; exact Cone_L1_ok hd m out (k + 1) (by omega) (by omega) h
  | false =>
   simp only [Bool.not_false, cond_true]
   have := Cone_L1_ok hd m (out ++ [d.getD k.toNat 0]) (k + 1) (by omega) (by omega) (okOut_push h hh hx.1 hx.2)
   exact ⟨this.1, by have := this.2; simp only [List.length_append, List.length_cons, List.length_nil] at this; omega⟩
theorem Cone_L0_term {s : GSystem} {leaves : List Int} (hv : r10_Valid s = true) : ∀ (m : Nat) (out : List Int) (cost i : Int), 0 ≤ i → i ≤ (out.length : Int) → (s.Boundary.length : Int) < i + m → okOut (s.Boundary.length : Int) out → r14_Cone_L0 s leaves m out cost i ≠ .oof
 | 0, out, cost, i, h0, hi, h1, h2 => by have := okOut_len h2 (by omega); omega
 | m + 1, out, cost, i, h0, hi, h1, h2 => by
  rw [r14_Cone_L0]
  cases hlt : decide (i < (out.length : Int)) with
  | false => simp only [cond_false]; intro h; cases h
  | true =>
   have hlt := of_decide_eq_true hlt
   have hx := h2.2 _ (getD_mem (xs := out) (i := i.toNat) (d := 0) (by omega))
   simp only [cond_true]
   cases r7_Has leaves (out.getD i.toNat 0) with
   | true => exact Cone_L0_term hv m out (cost + 1) (i + 1) (by omega) (by omega) (by omega) h2
   | false =>
    simp only [cond_false]
    have h3 := Cone_L1_ok (Valid_dep_mem hv hx.1 hx.2) ((((s.Deps.getD (out.getD i.toNat 0).toNat []).length : Nat) : Int) - 0).toNat out 0 (by omega) (by omega) h2
    exact Cone_L0_term hv m _ _ (i + 1) (by omega) (by have := h3.2; omega) (by omega) h3.1
theorem cn_term {s : GSystem} {root : Int} {leaves : List Int} (hv : r10_Valid s = true) (hi : r14_inside s [root] = true) : r14_Cone_L0 s leaves (s.Deps.length + 1) [root] 0 0 ≠ .oof := by
 have := Valid_deps hv
 exact Cone_L0_term hv _ _ _ _ (by omega) (by simp) (by omega) (okOut_one hi)
theorem Cone_L0_ok {s : GSystem} {leaves : List Int} (hv : r10_Valid s = true) : ∀ (m : Nat) (out : List Int) (cost i : Int) (o : List Int) (c : Int), 0 ≤ i → okOut (s.Boundary.length : Int) out → r14_Cone_L0 s leaves m out cost i = .brk (o, c) → okOut (s.Boundary.length : Int) o
 | 0, out, cost, i, o, c, h0, h2, h => by cases h
 | m + 1, out, cost, i, o, c, h0, h2, h => by
  rw [r14_Cone_L0] at h
  by_cases hlt : i < (out.length : Int)
  ·rw [decide_eq_true hlt] at h
   simp only [cond_true] at h
   have hx := h2.2 _ (getD_mem (xs := out) (i := i.toNat) (d := 0) (by omega))
   cases hl : r7_Has leaves (out.getD i.toNat 0) with
   | true => rw [hl] at h; exact Cone_L0_ok hv m out _ _ o c (by omega) h2 h
   | false =>
    rw [hl] at h
    simp only [cond_false] at h
    have h3 := Cone_L1_ok (Valid_dep_mem hv hx.1 hx.2) ((((s.Deps.getD (out.getD i.toNat 0).toNat []).length : Nat) : Int) - 0).toNat out 0 (by omega) (by omega) h2
    exact Cone_L0_ok hv m _ _ _ o c (by omega) h3.1 h
  ·rw [decide_eq_false hlt] at h
   simp only [cond_false] at h
   cases h
   exact h2
theorem list14_L0 (t : List Int) (n : Int) : ∀ (r : Nat) (k : Int) (l : List Int) (i : Int), (w14_list_L0 t n r k l i).2.length = l.length + r
 | 0, k, l, i => by rw [w14_list_L0]; rfl
 | r + 1, k, l, i => by
  rw [w14_list_L0]
  try dsimp only
  rw [list14_L0 t n r, List.length_append]; simp; omega
theorem list14_len (t : List Int) (k n : Int) : (w14_list t k n).1.length ≤ 3 := by
 unfold w14_list
 dsimp only
 have hn := Next_rg t k 4 (by omega)
 have := list14_L0 t n ((tp_Next t k 4).1 : Int).toNat (tp_Next t k 4).2 [] (tp_Next t k 4).1
 show (w14_list_L0 t n ((tp_Next t k 4).1 : Int).toNat (tp_Next t k 4).2 [] (tp_Next t k 4).1).2.length ≤ 3
 rw [this]; simp; omega
theorem list14_f {t : List Int} {k n : Int} {r : List Int × Int} (h : w14_list t k n = r) : r.1.length ≤ 3 := h ▸ list14_len t k n
theorem Empty_L0_eq (s : GSystem) : ∀ (m : Nat) (o : List GSet) (n : Int), r10_Empty_L0 s m o n = o ++ List.replicate m (r1_Empty s.Width)
 | 0, o, n => by simp [r10_Empty_L0]
 | m + 1, o, n => by rw [r10_Empty_L0, Empty_L0_eq s m]; simp [List.replicate_succ]
theorem Empty_eq (s : GSystem) : r10_Empty s = List.replicate s.Boundary.length (r1_Empty s.Width) := by
 unfold r10_Empty
 rw [Empty_L0_eq, show ((((s.Boundary.length : Nat) : Int) - 0).toNat) = s.Boundary.length by omega]; rfl
theorem Empty_VV {s : GSystem} (hv : VSys s) : VVals s (r10_Empty s) := by
 have hw := hv.w
 rw [Empty_eq]
 refine ⟨by simp, fun g hg => ?_⟩
 rw [List.mem_replicate] at hg
 rw [hg.2]; exact Empty_V hw.1 hw.2
theorem values_len {s : GSystem} {v : List GSet} (h : r10_values s v = 0) : v.length = s.Boundary.length := by
 unfold r10_values at h
 by_cases e : (v.length : Int) = (s.Boundary.length : Int)
 ·omega
 ·have : ((v.length : Int) != (s.Boundary.length : Int)) = true := by simp [e]
  simp only [this, cond_true] at h
  cases h
theorem values_0 {s : GSystem} {v : List GSet} (h : VVals s v) : r10_values s v = 0 := by
 have sc := scan (fun r i => r10_values_L0 v r i) (fun i => !(r1_Valid (v.getD i.toNat default))) 1 () (fun _ => rfl) (fun _ _ => rfl) ((((v.length : Nat) : Int) - 0).toNat) 0
 have sc2 := scan (fun r i => r10_values_L1 s v r i) (fun i => (v.getD i.toNat default).Width != s.Width) 2 () (fun _ => rfl) (fun _ _ => rfl) ((((v.length : Nat) : Int) - 0).toNat) 0
 unfold r10_values
 have e : (((v.length : Nat) : Int) != ((s.Boundary.length : Nat) : Int)) = false := by rw [h.1]; simp
 simp only [e, cond_false]
 rcases sc with ⟨_, j, j1, j2, j3⟩ | ⟨e1, _⟩
 ·rw [VSt_valid (VVals_at h j1 (by have := h.1; omega))] at j3; cases j3
 ·rw [e1]
  rcases sc2 with ⟨_, j, j1, j2, j3⟩ | ⟨e2, _⟩
  ·rw [(VVals_at h j1 (by have := h.1; omega)).2] at j3; simp at j3
  ·simp only [e2]
theorem Has_eq {w : Int} {s : GSet} (h : VSt w s) (b : Int) : r1_Has s b = (decide (0 ≤ b) && (decide (b < w) && bitAt s.Words b)) := by
 have hv := VSt_valid h
 have hw := VSt_w h
 unfold r1_Has
 simp only [hv, cond_true]
 by_cases h0 : 0 ≤ b
 ·by_cases h1 : b < s.Width
  ·rw [ofInt_small (by omega), bit_test]
   simp only [decide_eq_true h0, decide_eq_true h1, decide_eq_true (show b < w by omega), cond_true, Bool.true_and]
   rfl
  ·simp only [decide_eq_true h0, decide_eq_false h1, decide_eq_false (show ¬ b < w by omega), cond_true, cond_false, Bool.true_and, Bool.false_and]
 ·simp only [decide_eq_false h0, cond_false, Bool.false_and]
theorem Has_rng {w : Int} {s : GSet} (h : VSt w s) {b : Int} (hb : r1_Has s b = true) : 0 ≤ b ∧ b < w := by
 rw [Has_eq h] at hb; simp at hb; exact ⟨hb.1, hb.2.1⟩
theorem Has_out {w : Int} {s : GSet} (h : VSt w s) {b : Int} (hb : ¬ (0 ≤ b ∧ b < w)) : r1_Has s b = false := by
 cases e : r1_Has s b with
 | false => rfl
 | true => exact absurd (Has_rng h e) hb
theorem set_ext {w : Int} {a b : GSet} (ha : VSt w a) (hb : VSt w b) (h : ∀ x : Int, 0 ≤ x → x < w → r1_Has a x = r1_Has b x) : a = b := by
 have a1 := VSt_w ha; have b1 := VSt_w hb
 obtain ⟨wa, la⟩ := a; obtain ⟨wb, lb⟩ := b
 simp only at a1 b1
 have : la = lb := by
  apply List.ext_getElem (by omega)
  intro i h1 h2
  apply BitVec.eq_of_getLsbD_eq
  intro j hj
  have key : bitAt la (64 * (i : Int) + j) = bitAt lb (64 * (i : Int) + j) := by
   by_cases hx : (64 * (i : Int) + j) < w
   ·have := h (64 * (i : Int) + j) (by omega) hx
    rw [Has_eq ha, Has_eq hb, decide_eq_true (show 0 ≤ (64 * (i : Int) + j) by omega), decide_eq_true hx] at this
    simpa using this
   ·rw [ha.1.2.2.2 _ (by show wa ≤ _; omega) (by show _ < 64 * (la.length : Int); omega), hb.1.2.2.2 _ (by show wb ≤ _; omega) (by show _ < 64 * (lb.length : Int); omega)]
  unfold bitAt at key
  rw [show ((64 * (i : Int) + j) / 64).toNat = i by omega, show ((64 * (i : Int) + j) % 64).toNat = j by omega] at key
  simpa [List.getD, List.getElem?_eq_getElem h1, List.getElem?_eq_getElem h2] using key
 rw [this, a1.2.2.1, b1.2.2.1]
theorem Empty_has {w : Int} (h0 : 0 ≤ w) (h1 : w ≤ 256) (x : Int) : r1_Has (r1_Empty w) x = false := by
 rw [Has_eq (Empty_V h0 h1)]
 have : bitAt (r1_Empty w).Words x = false := bitAt_replicate _ _
 rw [this]; simp
theorem Put_has {w : Int} {s : GSet} (h : VSt w s) {b : Int} (hb : 0 ≤ b ∧ b < w) (x : Int) : r1_Has (r1_Put s b) x = (r1_Has s x || x == b) := by
 have hw := VSt_w h
 rw [Has_eq (Put_V h hb), Has_eq h, Put_words h hb]
 by_cases hx : 0 ≤ x
 ·rw [bitAt_put hb.1 (by omega) x hx]
  by_cases h1 : x < w
  ·simp [hx, h1]
  ·have : (x == b) = false := by rw [beq_eq_false_iff_ne]; omega
   simp [h1, this]
 ·have : (x == b) = false := by rw [beq_eq_false_iff_ne]; omega
  simp [hx, this]
def msel (a b : GSet) (one two both : Bool) (x : Int) : Bool := bif r1_Has a x then bif r1_Has b x then both else one else bif r1_Has b x then two else false
def SSub (a b : GSet) : Prop := ∀ x, r1_Has a x = true → r1_Has b x = true
theorem SSub_trans {a b c : GSet} (h : SSub a b) (k : SSub b c) : SSub a c := fun x hx => k x (h x hx)
theorem SSub_antisymm {w : Int} {a b : GSet} (ha : VSt w a) (hb : VSt w b) (h : SSub a b) (k : SSub b a) : a = b :=
 set_ext ha hb fun x _ _ => by rw [Bool.eq_iff_iff]; exact ⟨h x, k x⟩
def Le (s : GSystem) (v u : List GSet) : Prop := ∀ n : Int, 0 ≤ n → n < (s.Boundary.length : Int) → SSub (vat v n) (vat u n)
theorem Le_trans {s : GSystem} {a b c : List GSet} (h : Le s a b) (k : Le s b c) : Le s a c := fun n a b => SSub_trans (h n a b) (k n a b)
def cnt (n w : Nat) (v : List GSet) : Nat := (List.range (n * w)).countP fun k => r1_Has (vat v ((k / w : Nat) : Int)) ((k % w : Nat) : Int)
theorem cnt_max (n w : Nat) (v : List GSet) : cnt n w v ≤ n * w := by
 have := List.countP_le_length (p := fun k => r1_Has (vat v ((k / w : Nat) : Int)) ((k % w : Nat) : Int)) (l := List.range (n * w))
 rw [List.length_range] at this; exact this
theorem cnt_lt {n w : Nat} {v u : List GSet} (h : ∀ i : Nat, i < n → SSub (vat v (i : Int)) (vat u (i : Int))) (hs : ∃ (i : Nat) (x : Nat), i < n ∧ x < w ∧ r1_Has (vat u (i : Int)) (x : Int) = true ∧ r1_Has (vat v (i : Int)) (x : Int) = false) : cnt n w v < cnt n w u := by
 obtain ⟨i, x, hi, hx, h1, h2⟩ := hs
 have hw : 0 < w := by omega
 refine countP_lt (fun k hk hp => ?_) ⟨i * w + x, ?_, ?_, ?_⟩
 ·rw [List.mem_range] at hk
  exact h _ ((Nat.div_lt_iff_lt_mul hw).2 hk) _ hp
 ·rw [List.mem_range]
  calc i * w + x < i * w + w := by omega
   _ = (i + 1) * w := by rw [Nat.add_mul, Nat.one_mul]
   _ ≤ n * w := Nat.mul_le_mul_right w hi
 ·rw [show (i * w + x) / w = i by rw [Nat.add_comm, Nat.add_mul_div_right _ _ hw, Nat.div_eq_of_lt hx, Nat.zero_add], show (i * w + x) % w = x by rw [Nat.add_comm, Nat.add_mul_mod_self_right, Nat.mod_eq_of_lt hx]]; exact h1
 ·rw [show (i * w + x) / w = i by rw [Nat.add_comm, Nat.add_mul_div_right _ _ hw, Nat.div_eq_of_lt hx, Nat.zero_add], show (i * w + x) % w = x by rw [Nat.add_comm, Nat.add_mul_mod_self_right, Nat.mod_eq_of_lt hx]]; exact h2
theorem vals_ext {s : GSystem} {v u : List GSet} (h1 : VVals s v) (h2 : VVals s u) (h : Le s v u) (k : Le s u v) : v = u := by
 have e1 := h1.1; have e2 := h2.1
 apply List.ext_getElem (by omega)
 intro i i1 i2
 have a := VVals_at h1 (n := (i : Int)) (by omega) (by omega)
 have b := VVals_at h2 (n := (i : Int)) (by omega) (by omega)
 have := SSub_antisymm a b (h i (by omega) (by omega)) (k i (by omega) (by omega))
 simpa [List.getD, List.getElem?_eq_getElem i1, List.getElem?_eq_getElem i2] using this
theorem vals_ne {s : GSystem} {v u : List GSet} (h1 : VVals s v) (h2 : VVals s u) (h : Le s v u) (hne : v ≠ u) : ∃ (i : Nat) (x : Nat), i < s.Boundary.length ∧ x < s.Width.toNat ∧ r1_Has (vat u (i : Int)) (x : Int) = true ∧ r1_Has (vat v (i : Int)) (x : Int) = false := by
 apply Classical.byContradiction
 intro hc
 refine hne (vals_ext h1 h2 h fun n n0 n1 x hx => ?_)
 cases hh : r1_Has (vat v n) x with
 | true => rfl
 | false =>
  exfalso
  have r := Has_rng (VVals_at h2 n0 n1) hx
  refine hc ⟨n.toNat, x.toNat, by omega, by omega, ?_, ?_⟩
  ·rw [Int.toNat_of_nonneg n0, Int.toNat_of_nonneg r.1]; exact hx
  ·rw [Int.toNat_of_nonneg n0, Int.toNat_of_nonneg r.1]; exact hh
theorem Empty_Le {s : GSystem} (hv : VSys s) (z : List GSet) : Le s (r10_Empty s) z := fun n n0 n1 x hx => by
 have hw := hv.w
 rw [Empty_eq] at hx
 unfold vat at hx
 rw [List.getD_eq_getElem?_getD, List.getElem?_replicate, if_pos (by omega)] at hx
 rw [Option.getD_some, Empty_has hw.1 hw.2] at hx; cases hx
theorem value_L1_term (t : GTransfer) (s : GSet) (a : Int) : ∀ (m : Nat) (o0 : Int) (o1 : List (BitVec 64)) (b : Int), 1 ≤ m → s.Width < b + m → r1_value_L1 t s a m o0 o1 b ≠ .oof
 | 0, o0, o1, b, h0, h => by omega
 | m + 1, o0, o1, b, h0, h => by
  rw [r1_value_L1]
  cases r1_Has s a with
  | false => intro h; cases h
  | true =>
   by_cases hb : b < s.Width
   ·simp only [cond_true, decide_eq_true hb]
    cases r1_follows t a b with
    | false => exact value_L1_term t s a m _ _ (b + 1) (by omega) (by omega)
    | true => exact value_L1_term t s a m _ _ (b + 1) (by omega) (by omega)
   ·simp only [cond_true, decide_eq_false hb, cond_false]
    intro h; cases h
theorem value_L1_spec {w : Int} {t : GTransfer} {s : GSet} (hs : VSt w s) {a : Int} : ∀ (m : Nat) (o0 : Int) (o1 : List (BitVec 64)) (b : Int), 0 ≤ b → b ≤ w → w < b + m → VSt w ⟨o0, o1⟩ →
  ∃ p0 p1, r1_value_L1 t s a m o0 o1 b = .brk (p0, p1) ∧ VSt w ⟨p0, p1⟩ ∧ ∀ x, r1_Has ⟨p0, p1⟩ x = (r1_Has ⟨o0, o1⟩ x || (r1_Has s a && (decide (b ≤ x) && decide (x < w) && r1_follows t a x)))
 | 0, o0, o1, b, h0, h1, h2, h => by omega
 | m + 1, o0, o1, b, h0, h1, h2, h => by
  have hw := VSt_w hs
  rw [r1_value_L1]
  cases ha : r1_Has s a with
  | false => exact ⟨o0, o1, rfl, h, fun x => by simp⟩
  | true =>
   by_cases hb : b < s.Width
   ·have hbw : b < w := by omega
    simp only [cond_true, decide_eq_true hb]
    have e2 : ∀ x, x ≠ b → (decide (b + 1 ≤ x) && decide (x < w)) = (decide (b ≤ x) && decide (x < w)) := fun x hx => by
     rw [Bool.eq_iff_iff]; simp; omega
    cases hf : r1_follows t a b with
    | true =>
     obtain ⟨p0, p1, e, hv, hh⟩ := value_L1_spec (t := t) hs (a := a) m (r1_Put ⟨o0, o1⟩ b).Width (r1_Put ⟨o0, o1⟩ b).Words (b + 1) (by omega) (by omega) (by omega) (Put_V h ⟨h0, hbw⟩)
     refine ⟨p0, p1, e, hv, fun x => ?_⟩
     rw [hh x, ha, show (⟨(r1_Put ⟨o0, o1⟩ b).Width, (r1_Put ⟨o0, o1⟩ b).Words⟩ : GSet) = r1_Put ⟨o0, o1⟩ b from rfl, Put_has h ⟨h0, hbw⟩]
     by_cases ex : x = b
     ·subst ex; simp [hf, hbw]
     ·rw [e2 x ex]; simp [show (x == b) = false by rw [beq_eq_false_iff_ne]; exact ex]
    | false =>
     obtain ⟨p0, p1, e, hv, hh⟩ := value_L1_spec hs m o0 o1 (b + 1) (by omega) (by omega) (by omega) h
     refine ⟨p0, p1, e, hv, fun x => ?_⟩
     rw [hh x, ha]
     by_cases ex : x = b
     ·subst ex; simp [hf]
     ·rw [e2 x ex]
   ·simp only [cond_true, decide_eq_false hb, cond_false]
    refine ⟨o0, o1, rfl, h, fun x => ?_⟩
    have : (decide (b ≤ x) && decide (x < w)) = false := by rw [Bool.eq_false_iff]; simp; omega
    rw [this]; simp
theorem value_L0_spec {w : Int} {t : GTransfer} {s : GSet} (hs : VSt w s) : ∀ (m : Nat) (o0 : Int) (o1 : List (BitVec 64)) (a : Int), VSt w ⟨o0, o1⟩ →
  VSt w ⟨(r1_value_L0 t s m o0 o1 a).1, (r1_value_L0 t s m o0 o1 a).2⟩ ∧ ∀ x, r1_Has ⟨(r1_value_L0 t s m o0 o1 a).1, (r1_value_L0 t s m o0 o1 a).2⟩ x = true ↔ (r1_Has ⟨o0, o1⟩ x = true ∨ ∃ c, a ≤ c ∧ c < a + m ∧ r1_Has s c = true ∧ 0 ≤ x ∧ x < w ∧ r1_follows t c x = true)
 | 0, o0, o1, a, h => ⟨h, fun x => by
   constructor
   ·intro h; exact .inl h
   ·rintro (h | ⟨c, c1, c2, _⟩)
    ·exact h
    ·omega⟩
 | m + 1, o0, o1, a, h => by
  have hw := VSt_w hs
  obtain ⟨p0, p1, e, hv, hh⟩ := value_L1_spec (t := t) hs (a := a) (s.Width.toNat + 1) o0 o1 0 (by omega) (by omega) (by omega) h
  rw [r1_value_L0, e]
  obtain ⟨i1, i2⟩ := value_L0_spec (t := t) hs m p0 p1 (a + 1) hv
  refine ⟨i1, fun x => ?_⟩
  simp only
  rw [i2 x, hh x]
  simp only [Bool.or_eq_true, Bool.and_eq_true, decide_eq_true_eq]
  constructor
  ·rintro ((h | ⟨h1, h2, h3⟩) | ⟨c, c1, c2, c3⟩)
   ·exact .inl h
   ·exact .inr ⟨a, by omega, by omega, h1, h2.1, h2.2, h3⟩
   ·exact .inr ⟨c, by omega, by omega, c3⟩
  ·rintro (h | ⟨c, c1, c2, c3, c4, c5, c6⟩)
   ·exact .inl (.inl h)
   ·by_cases hc : c = a
    ·subst hc; exact .inl (.inr ⟨c3, ⟨c4, c5⟩, c6⟩)
    ·exact .inr ⟨c, by omega, by omega, c3, c4, c5, c6⟩
theorem Apply_spec {w : Int} {t : GTransfer} {s : GSet} (ht : VTr w t) (hs : VSt w s) : ∃ g, r1_Apply t s = (g, 0) ∧ VSt w g ∧ ∀ x, r1_Has g x = true ↔ r1_Has t.Gen x = true ∨ ∃ a, r1_Has s a = true ∧ 0 ≤ x ∧ x < w ∧ r1_follows t a x = true := by
 have hw := VSt_w hs
 have hg : VSt w t.Gen := ⟨(ValidTransfer_parts ht.1).1, ht.2⟩
 obtain ⟨i1, i2⟩ := value_L0_spec (t := t) hs (((s.Width : Int) - 0).toNat) t.Gen.Width t.Gen.Words 0 hg
 refine ⟨r1_value t s, ?_, i1, fun x => ?_⟩
 ·unfold r1_Apply
  have e : (t.Gen.Width != s.Width) = false := by rw [ht.2, hw.2.2.1]; simp
  simp only [ht.1, VSt_valid hs, e, Bool.not_true, cond_false]
 ·refine (i2 x).trans ?_
  rw [show (⟨t.Gen.Width, t.Gen.Words⟩ : GSet) = t.Gen from rfl]
  constructor
  ·rintro (h | ⟨c, c1, c2, c3⟩)
   ·exact .inl h
   ·exact .inr ⟨c, c3⟩
  ·rintro (h | ⟨c, c3, c4⟩)
   ·exact .inl h
   ·have := Has_rng hs c3
    exact .inr ⟨c, by omega, by omega, c3, c4⟩
def app (t : GTransfer) (g : GSet) : GSet := (r1_Apply t g).1
theorem app_V {w : Int} {t : GTransfer} {s : GSet} (ht : VTr w t) (hs : VSt w s) : VSt w (app t s) := by
 obtain ⟨g, e, h, _⟩ := Apply_spec ht hs; unfold app; rw [e]; exact h
theorem app_mono {w : Int} {t : GTransfer} {a b : GSet} (ht : VTr w t) (ha : VSt w a) (hb : VSt w b) (h : SSub a b) : SSub (app t a) (app t b) := by
 obtain ⟨g, e, _, hh⟩ := Apply_spec ht ha
 obtain ⟨g', e', _, hh'⟩ := Apply_spec ht hb
 unfold app; rw [e, e']
 intro x hx
 rcases (hh x).1 hx with h1 | ⟨c, c1, c2⟩
 ·exact (hh' x).2 (.inl h1)
 ·exact (hh' x).2 (.inr ⟨c, h c c1, c2⟩)
theorem mix_L0_step (a b : GSet) (one two both : Bool) (r : Nat) (s0 : Int) (s1 : List (BitVec 64)) (k : Int) : r1_mix_L0 a b one two both (r + 1) s0 s1 k = bif msel a b one two both k then r1_mix_L0 a b one two both r (r1_Put ⟨s0, s1⟩ k).Width (r1_Put ⟨s0, s1⟩ k).Words (k + 1) else r1_mix_L0 a b one two both r s0 s1 (k + 1) := by
 rw [r1_mix_L0]
 unfold msel
 all_goals (cases r1_Has a k <;> cases r1_Has b k <;> cases one <;> cases two <;> cases both <;> rfl)
theorem mix_L0_spec {w : Int} {a b : GSet} {one two both : Bool} : ∀ (m : Nat) (s0 : Int) (s1 : List (BitVec 64)) (k : Int), 0 ≤ k → k + m ≤ w → VSt w ⟨s0, s1⟩ →
  VSt w ⟨(r1_mix_L0 a b one two both m s0 s1 k).1, (r1_mix_L0 a b one two both m s0 s1 k).2⟩ ∧ ∀ x, r1_Has ⟨(r1_mix_L0 a b one two both m s0 s1 k).1, (r1_mix_L0 a b one two both m s0 s1 k).2⟩ x = (r1_Has ⟨s0, s1⟩ x || (decide (k ≤ x) && decide (x < k + m) && msel a b one two both x))
 | 0, s0, s1, k, h0, h1, h => ⟨h, fun x => by
   have : (decide (k ≤ x) && decide (x < k + ((0 : Nat) : Int))) = false := by rw [Bool.eq_false_iff]; simp; try omega
   rw [this]; simp [r1_mix_L0]⟩
 | m + 1, s0, s1, k, h0, h1, h => by
  rw [mix_L0_step]
  cases hs : msel a b one two both k with
  | true =>
   simp only [cond_true]
   have hp := Put_V h (b := k) (by omega)
   obtain ⟨i1, i2⟩ := mix_L0_spec (a := a) (b := b) (one := one) (two := two) (both := both) m (r1_Put ⟨s0, s1⟩ k).Width (r1_Put ⟨s0, s1⟩ k).Words (k + 1) (by omega) (by omega) hp
   refine ⟨i1, fun x => ?_⟩
   rw [i2, show (⟨(r1_Put ⟨s0, s1⟩ k).Width, (r1_Put ⟨s0, s1⟩ k).Words⟩ : GSet) = r1_Put ⟨s0, s1⟩ k from rfl, Put_has h (by omega)]
   by_cases e : x = k
   ·subst e
    have q : (decide (x ≤ x) && decide (x < x + ((m + 1 : Nat) : Int))) = true := by simp; omega
    rw [q, hs]; simp
   ·have e1 : (x == k) = false := by rw [beq_eq_false_iff_ne]; exact e
    have e2 : (decide (k + 1 ≤ x) && decide (x < k + 1 + (m : Int))) = (decide (k ≤ x) && decide (x < k + ((m + 1 : Nat) : Int))) := by
     rw [Bool.eq_iff_iff]; simp; omega
    rw [e1, e2, Bool.or_false]
  | false =>
   simp only [cond_false]
   obtain ⟨i1, i2⟩ := mix_L0_spec (a := a) (b := b) (one := one) (two := two) (both := both) m s0 s1 (k + 1) (by omega) (by omega) h
   refine ⟨i1, fun x => ?_⟩
   rw [i2]
   by_cases e : x = k
   ·subst e
    simp [hs]
   ·have e2 : (decide (k + 1 ≤ x) && decide (x < k + 1 + (m : Int))) = (decide (k ≤ x) && decide (x < k + ((m + 1 : Nat) : Int))) := by
     rw [Bool.eq_iff_iff]; simp; omega
    rw [e2]
theorem mix_spec {w : Int} {a b : GSet} {one two both : Bool} (ha : VSt w a) (hb : VSt w b) : ∃ g, r1_mix a b one two both = (g, 0) ∧ VSt w g ∧ ∀ x, r1_Has g x = msel a b one two both x := by
 have a1 := VSt_w ha; have b1 := VSt_w hb
 have hs := mix_L0_spec (w := w) (a := a) (b := b) (one := one) (two := two) (both := both) w.toNat (r1_Empty w).Width (r1_Empty w).Words 0 (by omega) (by omega) (Empty_V a1.1 a1.2.1)
 refine ⟨_, ?_, hs.1, fun x => ?_⟩
 ·unfold r1_mix
  have e : (a.Width != b.Width) = false := by rw [a1.2.2.1, b1.2.2.1]; simp
  simp only [VSt_valid ha, VSt_valid hb, e, Bool.not_true, cond_false]
  rw [a1.2.2.1, show ((w : Int) - 0).toNat = w.toNat by omega]
 ·rw [hs.2, show (⟨(r1_Empty w).Width, (r1_Empty w).Words⟩ : GSet) = r1_Empty w from rfl, Empty_has a1.1 a1.2.1]
  by_cases hx : 0 ≤ x ∧ x < w
  ·rw [decide_eq_true hx.1, decide_eq_true (show x < 0 + (w.toNat : Int) by omega)]; simp
  ·have : (decide (0 ≤ x) && decide (x < 0 + (w.toNat : Int))) = false := by simp; omega
   rw [this]
   unfold msel
   rw [Has_out ha hx, Has_out hb hx]; rfl
theorem Union_spec {w : Int} {a b : GSet} (ha : VSt w a) (hb : VSt w b) : ∃ g, r1_Union a b = (g, 0) ∧ VSt w g ∧ ∀ x, r1_Has g x = (r1_Has a x || r1_Has b x) := by
 obtain ⟨g, e, h1, h2⟩ := mix_spec (one := true) (two := true) (both := true) ha hb
 refine ⟨g, ?_, h1, fun x => ?_⟩
 ·unfold r1_Union; simp only [e]
 ·rw [h2]; unfold msel; cases r1_Has a x <;> cases r1_Has b x <;> rfl
theorem Join_V {w : Int} {a b : GSet} (ha : VSt w a) (hb : VSt w b) : VSt w (r1_Join a b) := by
 obtain ⟨g, e, h1, h2⟩ := Union_spec ha hb
 unfold r1_Join; simp only [e]; exact h1
theorem Join_has {w : Int} {a b : GSet} (ha : VSt w a) (hb : VSt w b) (x : Int) : r1_Has (r1_Join a b) x = (r1_Has a x || r1_Has b x) := by
 obtain ⟨g, e, h1, h2⟩ := Union_spec ha hb
 unfold r1_Join; simp only [e]; exact h2 x
theorem right_L0_spec {s : GSystem} (hv : VSys s) {v : List GSet} (hvv : VVals s v) {n : Int} (h0 : 0 ≤ n) (h1 : n < (s.Deps.length : Int)) : ∀ (m : Nat) (o0 : Int) (o1 : List (BitVec 64)) (i : Int), 0 ≤ i → i + m = ((deps s n).length : Int) → VSt s.Width ⟨o0, o1⟩ →
  VSt s.Width ⟨(r10_right_L0 s v n m o0 o1 i).1, (r10_right_L0 s v n m o0 o1 i).2⟩ ∧ ∀ x, r1_Has ⟨(r10_right_L0 s v n m o0 o1 i).1, (r10_right_L0 s v n m o0 o1 i).2⟩ x = true ↔ r1_Has ⟨o0, o1⟩ x = true ∨ ∃ j : Int, i ≤ j ∧ j < i + m ∧ r1_Has (app (s.Transfers.getD ((deps s n).getD j.toNat 0).toNat default) (v.getD ((deps s n).getD j.toNat 0).toNat default)) x = true
 | 0, o0, o1, i, a, b, h => ⟨h, fun x => by
   constructor
   ·intro h; exact .inl h
   ·rintro (h | ⟨c, c1, c2, _⟩)
    ·exact h
    ·omega⟩
 | m + 1, o0, o1, i, a, b, h => by
  rw [r10_right_L0]
  have hm := hv.dep_mem h0 h1 _ (getD_mem (xs := deps s n) (i := i.toNat) (d := 0) (by omega))
  have hap := app_V (VSys_trV hv hm.1 hm.2) (VVals_at hvv hm.1 (by have := hv.bl; omega))
  have hj := Join_V h hap
  obtain ⟨i1, i2⟩ := right_L0_spec hv hvv h0 h1 m (r1_Join ⟨o0, o1⟩ (app (s.Transfers.getD ((deps s n).getD i.toNat 0).toNat default) (v.getD ((deps s n).getD i.toNat 0).toNat default))).Width (r1_Join ⟨o0, o1⟩ (app (s.Transfers.getD ((deps s n).getD i.toNat 0).toNat default) (v.getD ((deps s n).getD i.toNat 0).toNat default))).Words (i + 1) (by omega) (by omega) hj
  refine ⟨i1, fun x => (i2 x).trans ?_⟩
  rw [show ∀ g : GSet, (⟨g.Width, g.Words⟩ : GSet) = g from fun _ => rfl, Join_has h hap, Bool.or_eq_true]
  constructor
  ·rintro ((h | h) | ⟨j, j1, j2, j3⟩)
   ·exact .inl h
   ·exact .inr ⟨i, by omega, by omega, h⟩
   ·exact .inr ⟨j, by omega, by omega, j3⟩
  ·rintro (h | ⟨j, j1, j2, j3⟩)
   ·exact .inl (.inl h)
   ·by_cases e : j = i
    ·subst e; exact .inl (.inr j3)
    ·exact .inr ⟨j, by omega, by omega, j3⟩
theorem right_V {s : GSystem} (hv : VSys s) {v : List GSet} (hvv : VVals s v) {n : Int} (h0 : 0 ≤ n) (h1 : n < (s.Deps.length : Int)) : VSt s.Width (r10_right s v n) :=
 (right_L0_spec hv hvv h0 h1 ((((((s.Deps.getD (n : Int).toNat []).length : Nat) : Int) : Int) - 0).toNat) ((s.Boundary.getD (n : Int).toNat default).Width) ((s.Boundary.getD (n : Int).toNat default).Words) 0 (by omega) (by unfold deps; omega) (VSys_bdV hv h0 h1)).1
theorem right_iff {s : GSystem} (hv : VSys s) {v : List GSet} (hvv : VVals s v) {n : Int} (h0 : 0 ≤ n) (h1 : n < (s.Deps.length : Int)) (x : Int) : r1_Has (r10_right s v n) x = true ↔ r1_Has (Bd s n) x = true ∨ ∃ m ∈ deps s n, r1_Has (app (Tr s m) (vat v m)) x = true := by
 refine ((right_L0_spec hv hvv h0 h1 ((((((s.Deps.getD (n : Int).toNat []).length : Nat) : Int) : Int) - 0).toNat) ((s.Boundary.getD (n : Int).toNat default).Width) ((s.Boundary.getD (n : Int).toNat default).Words) 0 (by omega) (by unfold deps; omega) (VSys_bdV hv h0 h1)).2 x).trans ?_
 rw [show ∀ g : GSet, (⟨g.Width, g.Words⟩ : GSet) = g from fun _ => rfl]
 constructor
 ·rintro (h | ⟨j, j1, j2, j3⟩)
  ·exact .inl h
  ·exact .inr ⟨_, getD_mem (by unfold deps; omega), j3⟩
 ·rintro (h | ⟨m, hm, h⟩)
  ·exact .inl h
  ·obtain ⟨j, j0, j1, rfl⟩ := mem_getD.1 hm
   exact .inr ⟨j, j0, by unfold deps at j1; omega, h⟩
def Fv (s : GSystem) (v : List GSet) : List GSet := (List.range s.Boundary.length).map fun i : Nat => r10_right s v (i : Int)
theorem Fv_len (s : GSystem) (v : List GSet) : (Fv s v).length = s.Boundary.length := by simp [Fv]
theorem Fv_at (s : GSystem) (v : List GSet) {n : Int} (h0 : 0 ≤ n) (h1 : n < (s.Boundary.length : Int)) : vat (Fv s v) n = r10_right s v n := by
 unfold vat Fv
 rw [List.getD_eq_getElem?_getD, List.getElem?_map, List.getElem?_range (by omega)]
 simp only [Option.map_some, Option.getD_some]
 rw [Int.toNat_of_nonneg h0]
theorem Fv_V {s : GSystem} (hv : VSys s) {v : List GSet} (hvv : VVals s v) : VVals s (Fv s v) := by
 refine ⟨Fv_len s v, fun g hg => ?_⟩
 unfold Fv at hg
 simp only [List.mem_map, List.mem_range] at hg
 obtain ⟨i, hi, rfl⟩ := hg
 exact right_V hv hvv (by omega) (by have := hv.bl; omega)
theorem right_mono {s : GSystem} (hv : VSys s) {v u : List GSet} (h1 : VVals s v) (h2 : VVals s u) (h : Le s v u) {n : Int} (n0 : 0 ≤ n) (n1 : n < (s.Deps.length : Int)) : SSub (r10_right s v n) (r10_right s u n) := fun x hx => by
 rcases (right_iff hv h1 n0 n1 x).1 hx with hx | ⟨m, hm, hx⟩
 ·exact (right_iff hv h2 n0 n1 x).2 (.inl hx)
 ·have md := hv.dep_mem n0 n1 m hm
  have hb := hv.bl
  exact (right_iff hv h2 n0 n1 x).2 (.inr ⟨m, hm, app_mono (VSys_trV hv md.1 md.2) (VVals_at h1 md.1 (by omega)) (VVals_at h2 md.1 (by omega)) (h m md.1 (by omega)) x hx⟩)
theorem Fv_mono {s : GSystem} (hv : VSys s) {v u : List GSet} (h1 : VVals s v) (h2 : VVals s u) (h : Le s v u) : Le s (Fv s v) (Fv s u) := fun n n0 n1 => by
 rw [Fv_at s v n0 n1, Fv_at s u n0 n1]; exact right_mono hv h1 h2 h n0 (by have := hv.bl; omega)
theorem Next_L0_spec {s : GSystem} (hv : VSys s) {v : List GSet} (hvv : VVals s v) : ∀ (m : Nat) (o : List GSet) (n : Int), 0 ≤ n → n + m = (s.Boundary.length : Int) → r10_Next_L0 s v m o n = .brk (o ++ (List.range' n.toNat m).map fun i : Nat => r10_right s v (i : Int))
 | 0, o, n, h0, h1 => by simp [r10_Next_L0]
 | m + 1, o, n, h0, h1 => by
  rw [r10_Next_L0]
  have e : r10_Right s v n = (r10_right s v n, 0) := by
   unfold r10_Right
   simp only [(RefValid_iff s).2 hv, values_0 hvv, decide_eq_false (show ¬ n < 0 by omega), decide_eq_false (show ¬ ((s.Boundary.length : Nat) : Int) ≤ n by omega)]
   rfl
  rw [e]
  simp only [bne_self_eq_false, cond_false]
  rw [Next_L0_spec hv hvv m _ (n + 1) (by omega) (by omega), List.range'_succ, show (n + 1).toNat = n.toNat + 1 by omega]
  simp [Int.toNat_of_nonneg h0]
theorem Next_eq {s : GSystem} (hv : VSys s) {v : List GSet} (hvv : VVals s v) : r10_Next s v = (Fv s v, 0) := by
 have hn := hv.n; have hb := hv.bl
 unfold r10_Next
 rw [show ((((max ((s.Boundary.length : Nat) : Int) 1) : Int) - 0).toNat) = s.Boundary.length by omega, Next_L0_spec hv hvv _ _ _ (by omega) (by omega)]
 simp only [List.nil_append, Fv, List.range_eq_range', Int.toNat_zero]
theorem Same_iff (a b : GSet) : r1_Same a b = true ↔ a = b := by
 obtain ⟨wa, la⟩ := a; obtain ⟨wb, lb⟩ := b
 have sc := scan (fun r i => r1_Same_L0 ⟨wa, la⟩ ⟨wb, lb⟩ r i) (fun i => la.getD i.toNat 0#64 != lb.getD i.toNat 0#64) false () (fun _ => rfl) (fun _ _ => rfl) ((((la.length : Nat) : Int) - 0).toNat) 0
 unfold r1_Same
 by_cases h1 : wa = wb
 case neg => simp [h1]
 by_cases h2 : la.length = lb.length
 case neg =>
  have : (((la.length : Nat) : Int) != ((lb.length : Nat) : Int)) = true := by simp; omega
  simp only [h1, bne_self_eq_false, this, cond_true, cond_false]
  constructor
  ·intro h; cases h
  ·intro h; exact absurd (by cases h; rfl) h2
 have e2 : (((la.length : Nat) : Int) != ((lb.length : Nat) : Int)) = false := by simp [h2]
 simp only [h1, bne_self_eq_false, e2, cond_false]
 subst h1
 rcases sc with ⟨e, j, j1, j2, j3⟩ | ⟨e, h⟩
 ·rw [e]
  constructor
  ·intro h; cases h
  ·intro h; cases h; simp at j3
 ·rw [e]
  constructor
  ·intro _
   have : la = lb := by
    apply List.ext_getElem h2
    intro i i1 i2
    have := h (i : Int) (by omega) (by omega)
    simpa [List.getD, List.getElem?_eq_getElem i1, List.getElem?_eq_getElem i2] using this
   rw [this]
  ·intro _; rfl
theorem Same_refl (a : GSet) : r1_Same a a = true := (Same_iff a a).2 rfl
theorem SameSets_iff (a b : List GSet) : r10_SameSets a b = true ↔ a = b := by
 have sc := scan (fun r i => r10_SameSets_L0 a b r i) (fun i => !(r1_Same (a.getD i.toNat default) (b.getD i.toNat default))) false () (fun _ => rfl) (fun _ _ => rfl) ((((a.length : Nat) : Int) - 0).toNat) 0
 unfold r10_SameSets
 by_cases h2 : a.length = b.length
 case neg =>
  have : (((a.length : Nat) : Int) != ((b.length : Nat) : Int)) = true := by simp; omega
  simp only [this, cond_true]
  constructor
  ·intro h; cases h
  ·intro h; exact absurd (by rw [h]) h2
 have e2 : (((a.length : Nat) : Int) != ((b.length : Nat) : Int)) = false := by simp [h2]
 simp only [e2, cond_false]
 rcases sc with ⟨e, j, j1, j2, j3⟩ | ⟨e, h⟩
 ·rw [e]
  constructor
  ·intro h; cases h
  ·intro h; subst h; rw [Same_refl] at j3; cases j3
 ·rw [e]
  constructor
  ·intro _
   apply List.ext_getElem h2
   intro i i1 i2
   have := h (i : Int) (by omega) (by omega)
   rw [Bool.not_eq_false', Same_iff] at this
   simpa [List.getD, List.getElem?_eq_getElem i1, List.getElem?_eq_getElem i2] using this
  ·intro _; rfl
theorem Solve_L0_spec {s : GSystem} (hv : VSys s) : ∀ (m : Nat) (v : List GSet) (round : Int), VVals s v → Le s v (Fv s v) → s.Boundary.length * s.Width.toNat < cnt s.Boundary.length s.Width.toNat v + m →
  ∃ u r, r10_Solve_L0 s m v round = .ret (u, r, 0) ∧ VVals s u ∧ Fv s u = u ∧ ∀ z, VVals s z → Le s (Fv s z) z → Le s v z → Le s u z
 | 0, v, round, h1, h2, h3 => by have := cnt_max s.Boundary.length s.Width.toNat v; omega
 | m + 1, v, round, h1, h2, h3 => by
  rw [r10_Solve_L0, Next_eq hv h1]
  cases e : r10_SameSets (Fv s v) v with
  | true =>
   have e := (SameSets_iff _ _).1 e
   exact ⟨v, round, rfl, h1, e, fun z _ _ h => h⟩
  | false =>
   have hne : v ≠ Fv s v := fun h => by
    have := (SameSets_iff (Fv s v) v).2 h.symm
    rw [this] at e; cases e
   have hF := Fv_V hv h1
   have hlt := cnt_lt (n := s.Boundary.length) (w := s.Width.toNat) (fun i hi => h2 i (by omega) (by omega)) (vals_ne h1 hF h2 hne)
   obtain ⟨u, r, e1, e2, e3, e4⟩ := Solve_L0_spec hv m (Fv s v) (round + 1) hF (Fv_mono hv h1 hF h2) (by omega)
   exact ⟨u, r, e1, e2, e3, fun z hz hz2 hz3 => e4 z hz hz2 (Le_trans (Fv_mono hv h1 hz hz3) hz2)⟩
theorem Solve_term' {s : GSystem} (hv : VSys s) : ∃ u r, r10_Solve_L0 s (s.Boundary.length * s.Width.toNat + 2) (r10_Empty s) 0 = .ret (u, r, 0) ∧ VVals s u ∧ Fv s u = u ∧ ∀ z, VVals s z → Le s (Fv s z) z → Le s u z := by
 obtain ⟨u, r, e1, e2, e3, e4⟩ := Solve_L0_spec hv (s.Boundary.length * s.Width.toNat + 2) (r10_Empty s) 0 (Empty_VV hv) (Empty_Le hv _) (by omega)
 exact ⟨u, r, e1, e2, e3, fun z h1 h2 => e4 z h1 h2 (Empty_Le hv z)⟩
theorem Solve_term {s : GSystem} {r : List GSet} (h : r10_Valid s = true) (e : r10_Empty s = r) : r10_Solve_L0 s (s.Boundary.length * s.Width.toNat + 2) r 0 ≠ .oof := by
 subst e
 obtain ⟨u, r, e1, _⟩ := Solve_term' ((RefValid_iff s).1 h)
 rw [e1]; intro h; cases h
theorem ascending_eq (l : List Int) (n : Int) : eq_ascending l n = r7_Rising l n := by
 have : ∀ m i, eq_ascending_L0 l n m i = r7_Rising_L0 l n m i := by
  intro m
  induction m with
  | zero => intro i; rfl
  | succ m ih => intro i; rw [eq_ascending_L0, r7_Rising_L0, ih]
 unfold eq_ascending r7_Rising
 rw [this]
 all_goals (generalize r7_Rising_L0 l n (((l.length : Nat) : Int) - 0).toNat 0 = r; cases r <;> rfl)
theorem ranged_iff {w : Int} (h : bt_ranged w = true) : 0 ≤ w ∧ w ≤ 256 := by
 unfold bt_ranged at h
 simp [Bool.cond_eq_ite] at h; omega
theorem spare_bit {w : Int} (h : 0 ≤ w ∧ w ≤ 256) (k : Nat) (hk : k < 64) : (bt_spare w).getLsbD k = decide ((w % 64).toNat ≤ k) := by
 unfold bt_spare
 have e : (((((BitVec.ofInt 64 w) % 64#64).toNat : Int)).toNat) = (w % 64).toNat := by
  rw [BitVec.toNat_umod, BitVec.toNat_ofInt]
  simp; omega
 rw [e, BitVec.getLsbD_shiftLeft]
 have e2 : (18446744073709551615#64) = BitVec.allOnes 64 := by decide
 rw [e2, BitVec.getLsbD_allOnes]
 rw [Bool.eq_iff_iff]
 simp [-Int.toNat_le]
 omega
theorem PValid_iff (s : GSet) : bt_Valid s = true ↔ VSet s := by
 unfold bt_Valid VSet
 simp only [bt_ranged, bt_words, Bool.cond_eq_ite]
 by_cases h1 : 0 ≤ s.Width
 ·by_cases h2 : s.Width ≤ 256
  ·by_cases h3 : (s.Words.length : Int) = (s.Width + 64 - 1) / 64
   ·by_cases h4 : s.Width % 64 = 0
    ·simp only [h1, h2, h3, h4]
     simp
     refine ⟨by omega, fun b b1 b2 => by omega⟩
    ·simp only [h1, h2, decide_true, if_true, Bool.not_true, Bool.false_eq_true, if_false]
     have h3' : ((s.Words.length : Int) != (s.Width + 64 - 1) / 64) = false := by simp [h3]
     have h4' : (s.Width % 64 == 0) = false := by simp [h4]
     rw [h3', h4']
     simp only [Bool.false_eq_true, if_false]
     rw [beq_iff_eq]
     constructor
     ·intro h
      refine ⟨trivial, trivial, by omega, fun b b1 b2 => ?_⟩
      have hq : (b / 64).toNat = ((s.Words.length : Int) - 1).toNat := by omega
      unfold bitAt
      rw [hq]
      have := congrArg (fun v : BitVec 64 => v.getLsbD (b % 64).toNat) h
      simp only [BitVec.getLsbD_and, BitVec.getLsbD_zero] at this
      rw [spare_bit ⟨h1, h2⟩ _ (by omega)] at this
      have hle : (s.Width % 64).toNat ≤ (b % 64).toNat := by omega
      simpa [hle] using this
     ·rintro ⟨_, _, hl, h⟩
      apply BitVec.eq_of_getLsbD_eq
      intro k hk
      rw [BitVec.getLsbD_and, spare_bit ⟨h1, h2⟩ _ hk, BitVec.getLsbD_zero]
      by_cases hle : (s.Width % 64).toNat ≤ k
      ·have := h (64 * ((s.Words.length : Int) - 1) + k) (by omega) (by omega)
       unfold bitAt at this
       rw [show ((64 * ((s.Words.length : Int) - 1) + k) / 64).toNat = ((s.Words.length : Int) - 1).toNat by omega, show ((64 * ((s.Words.length : Int) - 1) + k) % 64).toNat = k by omega] at this
       rw [this]; rfl
      ·simp [hle]
   ·have h3' : ((s.Words.length : Int) != (s.Width + 64 - 1) / 64) = true := by simp [h3]
    simp only [h1, h2, decide_true, if_true, Bool.not_true, Bool.false_eq_true, if_false, h3']
    constructor
    ·intro h; cases h
    ·rintro ⟨_, _, h, _⟩; omega
  ·simp [h1, h2]
 ·simp [h1]
theorem setValid_eq (s : GSet) : bt_Valid s = r1_Valid s := by rw [Bool.eq_iff_iff, PValid_iff, RValid_iff]
theorem IndexFuncS_any (s : List GSet) (fp : GSet → Bool) : sc_ContainsFunc_Set s fp = true ↔ ∃ x ∈ s, fp x = true := by
 have := scan' (fun r i => sc_IndexFunc_Set_L0 s fp r i) (fun i => fp (s.getD i.toNat default)) () (fun _ => rfl) (fun _ _ => rfl) ((((s.length : Nat) : Int) - 0).toNat) 0
 unfold sc_ContainsFunc_Set sc_IndexFunc_Set
 rcases this with ⟨j, e, j1, j2, j3⟩ | ⟨e, h⟩
 ·rw [e]
  exact ⟨fun _ => ⟨_, getD_mem (by omega), j3⟩, fun _ => by simpa using j1⟩
 ·rw [e]
  refine ⟨fun h => by simp at h, ?_⟩
  rintro ⟨x, hx, hf⟩
  obtain ⟨j, j1, j2, rfl⟩ := (mem_getDg (d := default)).1 hx
  rw [h j j1 (by omega)] at hf; cases hf
theorem sets_iff (w : Int) (l : List GSet) : eq_sets w l = true ↔ ∀ b ∈ l, VSt w b := by
 unfold eq_sets
 have h := IndexFuncS_any l (fun x => eq_sets_1 x w)
 have h1 : ∀ x, eq_sets_1 x w = false ↔ VSt w x := by
  intro x
  unfold eq_sets_1 VSt
  rw [← PValid_iff]
  cases bt_Valid x <;> simp
 constructor
 ·intro hh b hb
  cases hc : sc_ContainsFunc_Set l (fun x => eq_sets_1 x w) with
  | true => simp only [hc] at hh; cases hh
  | false =>
   refine (h1 b).1 ?_
   cases e : eq_sets_1 b w with
   | false => rfl
   | true => rw [h.2 ⟨b, hb, e⟩] at hc; cases hc
 ·intro hh
  cases hc : sc_ContainsFunc_Set l (fun x => eq_sets_1 x w) with
  | false => rfl
  | true =>
   obtain ⟨x, hx, e⟩ := h.1 hc
   rw [(h1 x).2 (hh x hx)] at e; cases e
theorem Compare_eq (x y : Int) : cmp_Compare_int x y = if x < y then -1 else if y < x then 1 else 0 := by
 simp [cmp_Compare_int, cmp_isNaN_int, Bool.cond_eq_ite]
theorem Or_two (x y : Int) : cmp_Or_int [x, y] = if x ≠ 0 then x else y := by
 have e : ((((([x, y].length : Nat) : Int) : Int) - 0).toNat) = 2 := rfl
 unfold cmp_Or_int
 rw [e]
 by_cases hx : x = 0
 ·by_cases hy : y = 0
  ·subst hx; subst hy; rfl
  ·subst hx
   have h : (y != 0) = true := by simp [hy]
   simp [cmp_Or_int_L0, h]
 ·have h : (x != 0) = true := by simp [hx]
  simp [cmp_Or_int_L0, h, hx]
theorem compare_eq (a b : GCopy) : decide (0 ≤ tf_compare a b) = !(r1_Before a b) := by
 unfold tf_compare r1_Before
 simp only [Or_two, Compare_eq, Bool.cond_eq_ite]
 rw [Bool.eq_iff_iff]
 by_cases h1 : a.From < b.From
 ·simp [h1]
 ·by_cases h2 : b.From < a.From
  ·have : ¬ a.From = b.From := by omega
   simp [h1, h2, this]
  ·have : a.From = b.From := by omega
   by_cases h3 : a.To < b.To
   ·simp [this, h3]
   ·by_cases h4 : b.To < a.To
    ·simp [this, h3, h4]
    ·simp [this, h3, h4]
theorem transferL_eq (t : GTransfer) : ∀ m i, tf_Valid_L0 t m i = r1_ValidTransfer_L0 t m i := by
 intro m
 induction m with
 | zero => intro i; rfl
 | succ m ih =>
  intro i
  rw [tf_Valid_L0, r1_ValidTransfer_L0]
  simp only [compare_eq, ih, tf_bit, Bool.cond_eq_ite]
  generalize (t.Copies.getD i.toNat default).From = x
  generalize (t.Copies.getD i.toNat default).To = y
  by_cases h1 : x < 0
  ·have : ¬ 0 ≤ x := by omega
   simp [h1, this]
  ·by_cases h2 : t.Gen.Width ≤ x
   ·have : ¬ x < t.Gen.Width := by omega
    simp [h1, h2, this]
   ·by_cases h3 : y < 0
    ·have : ¬ 0 ≤ y := by omega
     have h5 : x < t.Gen.Width := by omega
     have h6 : 0 ≤ x := by omega
     simp [h1, h2, h3, this, h5, h6]
    ·have h5 : x < t.Gen.Width := by omega
     have h6 : 0 ≤ x := by omega
     have h7 : 0 ≤ y := by omega
     by_cases h4 : t.Gen.Width ≤ y
     ·have : ¬ y < t.Gen.Width := by omega
      simp [h1, h2, h3, h4, this, h5, h6, h7]
     ·have : y < t.Gen.Width := by omega
      simp [h1, h2, h3, h4, this, h5, h6, h7]
theorem transferValid_eq (t : GTransfer) : tf_Valid t = r1_ValidTransfer t := by
 unfold tf_Valid r1_ValidTransfer
 simp only [setValid_eq, transferL_eq]
 all_goals (generalize r1_ValidTransfer_L0 t (((((t.Copies.length : Nat) : Int) : Int) - 0).toNat) 0 = r; cases r <;> rfl)
theorem IndexFuncT_any (s : List GTransfer) (fp : GTransfer → Bool) : sc_ContainsFunc_Transfer s fp = true ↔ ∃ x ∈ s, fp x = true := by
 have := scan' (fun r i => sc_IndexFunc_Transfer_L0 s fp r i) (fun i => fp (s.getD i.toNat default)) () (fun _ => rfl) (fun _ _ => rfl) ((((s.length : Nat) : Int) - 0).toNat) 0
 unfold sc_ContainsFunc_Transfer sc_IndexFunc_Transfer
 rcases this with ⟨j, e, j1, j2, j3⟩ | ⟨e, h⟩
 ·rw [e]
  exact ⟨fun _ => ⟨_, getD_mem (by omega), j3⟩, fun _ => by simpa using j1⟩
 ·rw [e]
  refine ⟨fun h => by simp at h, ?_⟩
  rintro ⟨x, hx, hf⟩
  obtain ⟨j, j1, j2, rfl⟩ := (mem_getDg (d := default)).1 hx
  rw [h j j1 (by omega)] at hf; cases hf
theorem trs_iff (s : GSystem) (l : List GTransfer) : (!(sc_ContainsFunc_Transfer l (fun x => eq_Valid_1 x s))) = true ↔ ∀ t ∈ l, VTr s.Width t := by
 have h := IndexFuncT_any l (fun x => eq_Valid_1 x s)
 have h1 : ∀ x, eq_Valid_1 x s = false ↔ VTr s.Width x := by
  intro x
  unfold eq_Valid_1 eq_fits VTr
  rw [transferValid_eq]
  cases r1_ValidTransfer x <;> simp
 constructor
 ·intro hh b hb
  cases hc : sc_ContainsFunc_Transfer l (fun x => eq_Valid_1 x s) with
  | true => simp only [hc] at hh; cases hh
  | false =>
   refine (h1 b).1 ?_
   cases e : eq_Valid_1 b s with
   | false => rfl
   | true => rw [h.2 ⟨b, hb, e⟩] at hc; cases hc
 ·intro hh
  cases hc : sc_ContainsFunc_Transfer l (fun x => eq_Valid_1 x s) with
  | false => rfl
  | true =>
   obtain ⟨x, hx, e⟩ := h.1 hc
   rw [(h1 x).2 (hh x hx)] at e; cases e
theorem E_L0 (s : GSystem) : ∀ (m : Nat) (e i : Int), (eq_Valid_L0 s m e i = .brk () ∧ (∀ j, i ≤ j → j < i + m → r7_Rising (s.Deps.getD j.toNat []) (s.Deps.length : Int) = true) ∧ (m = 0 ∨ e + tot s m i ≤ 1024)) ∨
  (eq_Valid_L0 s m e i = .ret false ∧ ¬ ((∀ j, i ≤ j → j < i + m → r7_Rising (s.Deps.getD j.toNat []) (s.Deps.length : Int) = true) ∧ (m = 0 ∨ e + tot s m i ≤ 1024)))
 | 0, e, i => .inl ⟨rfl, fun j h1 h2 => by omega, .inl rfl⟩
 | m + 1, e, i => by
  rw [eq_Valid_L0]
  simp only [Bool.cond_eq_ite, ascending_eq]
  have ht := tot_nn s m (i + 1)
  have hq : tot s (m + 1) i = ((s.Deps.getD i.toNat []).length : Int) + tot s m (i + 1) := rfl
  by_cases h1 : 1024 < e + ((s.Deps.getD i.toNat []).length : Int)
  ·refine .inr ⟨by rw [decide_eq_true h1]; rfl, ?_⟩
   rintro ⟨_, h⟩; omega
  ·rw [decide_eq_false h1]
   cases h2 : r7_Rising (s.Deps.getD i.toNat []) (s.Deps.length : Int) with
   | false =>
    refine .inr ⟨rfl, ?_⟩
    rintro ⟨h, _⟩
    have := h i (by omega) (by omega); rw [h2] at this; cases this
   | true =>
    rcases E_L0 s m (e + ((s.Deps.getD i.toNat []).length : Int)) (i + 1) with ⟨a, b, c⟩ | ⟨a, b⟩
    ·refine .inl ⟨a, fun j j1 j2 => ?_, .inr ?_⟩
     ·rcases Int.lt_or_eq_of_le j1 with hlt | rfl
      ·exact b j (by omega) (by omega)
      ·exact h2
     ·rw [hq]
      rcases c with rfl | c
      ·simp only [tot]; omega
      ·omega
    ·refine .inr ⟨a, ?_⟩
     rintro ⟨h, h'⟩
     exact b ⟨fun j j1 j2 => h j (by omega) (by omega), .inr (by omega)⟩
theorem EValid_iff (s : GSystem) : eq_Valid s = true ↔ VSys s := by
 unfold eq_Valid
 simp only [eq_sized, Bool.cond_eq_ite]
 by_cases h0 : (0 ≤ s.Width ∧ s.Width ≤ 256) ∧ (1 ≤ (s.Deps.length : Int) ∧ (s.Deps.length : Int) ≤ 256)
 ·obtain ⟨⟨a, b⟩, c, d⟩ := h0
  simp only [a, b, c, d, decide_true, if_true, Bool.not_true, Bool.false_eq_true, if_false]
  by_cases h1 : (s.Transfers.length : Int) = (s.Deps.length : Int)
  ·by_cases h2 : (s.Boundary.length : Int) = (s.Deps.length : Int)
   ·have h1' : ((s.Transfers.length : Int) != (s.Deps.length : Int)) = false := by simp [h1]
    have h2' : ((s.Boundary.length : Int) != (s.Deps.length : Int)) = false := by simp [h2]
    simp only [h1', h2', Bool.false_eq_true, if_false]
    have hm : ((((s.Deps.length : Nat) : Int) : Int) - 0).toNat = s.Deps.length := by omega
    rw [hm]
    rcases E_L0 s s.Deps.length 0 0 with ⟨e, p, q⟩ | ⟨e, p⟩
    ·rw [e]
     simp only
     by_cases h3 : eq_sets s.Width s.Boundary = true
     ·rw [h3]
      simp only [if_true]
      rw [trs_iff]
      exact ⟨fun h => ⟨⟨a, b⟩, by omega, by omega, by omega, fun j j1 j2 => p j j1 (by omega), by omega, h, (sets_iff _ _).1 h3⟩, fun h => h.tr⟩
     ·simp only [h3]
      exact ⟨fun h => by simp at h, fun h => absurd ((sets_iff _ _).2 h.bd) h3⟩
    ·rw [e]
     exact ⟨fun h => (by cases h), fun h => absurd ⟨fun j j1 j2 => h.ris j j1 (by omega), .inr (by have := h.edges; omega)⟩ p⟩
   ·have h1' : ((s.Transfers.length : Int) != (s.Deps.length : Int)) = false := by simp [h1]
    have h2' : ((s.Boundary.length : Int) != (s.Deps.length : Int)) = true := by simp [h2]
    simp only [h1', h2', Bool.false_eq_true, if_false, if_true]
    exact ⟨fun h => (by cases h), fun h => absurd (by have := h.bl; omega) h2⟩
  ·have h1' : ((s.Transfers.length : Int) != (s.Deps.length : Int)) = true := by simp [h1]
   simp only [h1', if_true]
   exact ⟨fun h => (by cases h), fun h => absurd (by have := h.tl; omega) h1⟩
 ·constructor
  ·intro h
   exfalso
   apply h0
   by_cases a : 0 ≤ s.Width
   ·by_cases b : s.Width ≤ 256
    ·by_cases c : 1 ≤ (s.Deps.length : Int)
     ·by_cases d : (s.Deps.length : Int) ≤ 256
      ·exact ⟨⟨a, b⟩, c, d⟩
      ·simp [a, b, c, d] at h
     ·simp [a, b, c] at h
    ·simp [a, b] at h
   ·simp [a] at h
  ·intro h
   exact absurd ⟨h.w, by have := h.n; omega⟩ h0
theorem EValid_L0 {s : GSystem} : ∀ (m : Nat) (e i : Int), (eq_Valid_L0 s m e i = .ret false) ∨ ((eq_Valid_L0 s m e i = .brk ()) ∧ ∀ j, i ≤ j → j < i + m → r7_Rising (s.Deps.getD j.toNat []) (s.Deps.length : Int) = true)
  | 0, e, i => .inr ⟨rfl, fun j h1 h2 => by omega⟩
  | m + 1, e, i => by
    rw [eq_Valid_L0]
    simp only [Bool.cond_eq_ite]
    have ih := EValid_L0 (s := s) m (e + (((s.Deps.getD (i : Int).toNat []).length : Nat) : Int)) (i + 1)
    repeat' split
    all_goals first
      | exact .inl rfl
      | (rcases ih with h | ⟨ho, h⟩
         · exact .inl h
         · refine .inr ⟨ho, fun j j1 j2 => ?_⟩
           rcases Int.lt_or_eq_of_le j1 with hlt | rfl
           · exact h j (by omega) (by omega)
           · rw [← ascending_eq]; simp_all)
theorem EValid_deps {s : GSystem} (hv : eq_Valid s = true) : 1 ≤ s.Deps.length ∧ s.Deps.length ≤ 256 ∧ s.Transfers.length = s.Deps.length ∧ s.Boundary.length = s.Deps.length ∧ ∀ j : Int, 0 ≤ j → j < (s.Deps.length : Int) → r7_Rising (s.Deps.getD j.toNat []) (s.Deps.length : Int) = true := by
 unfold eq_Valid at hv
 simp only [Bool.cond_eq_ite] at hv
 split at hv
 ·cases hv
 ·rename_i h1
  split at hv
  ·cases hv
  ·rename_i h2
   split at hv
   ·cases hv
   ·rename_i h3
    simp [eq_sized, Bool.cond_eq_ite] at h1 h2 h3
    rcases EValid_L0 (s := s) ((((s.Deps.length : Nat) : Int) - 0).toNat) 0 0 with h | ⟨ho, h⟩
    ·rw [h] at hv; cases hv
    ·exact ⟨by omega, by omega, by omega, by omega, fun j j1 j2 => h j j1 (by omega)⟩
theorem EValid_dep_mem {s : GSystem} (hv : eq_Valid s = true) {j : Int} (h0 : 0 ≤ j) (h1 : j < (s.Deps.length : Int)) : ∀ x ∈ s.Deps.getD j.toNat [], 0 ≤ x ∧ x < (s.Deps.length : Int) :=
 Rising_mem ((EValid_deps hv).2.2.2.2 j h0 h1)
theorem Valid_eq (s : GSystem) : eq_Valid s = r10_Valid s := by rw [Bool.eq_iff_iff, EValid_iff, RefValid_iff]
theorem Eval_eq (s : GSystem) : eq_Valid s = r10_Valid s := by rw [Bool.eq_iff_iff, EValid_iff, RefValid_iff]
theorem IndexFunc_any (s : List Int) (fp : Int → Bool) : sc_ContainsFunc_int s fp = true ↔ ∃ x ∈ s, fp x = true := by
 have key : ∀ (m : Nat) (i : Int), 0 ≤ i → (∃ j, sc_IndexFunc_int_L0 s fp m i = .ret j ∧ i ≤ j ∧ j < i + m ∧ fp (s.getD j.toNat 0) = true) ∨ (sc_IndexFunc_int_L0 s fp m i = .brk () ∧ ∀ j, i ≤ j → j < i + m → fp (s.getD j.toNat 0) = false) := by
  intro m
  induction m with
  | zero => intro i _; exact .inr ⟨rfl, fun j h1 h2 => by omega⟩
  | succ m ih =>
   intro i hi
   rw [sc_IndexFunc_int_L0]
   cases hp : fp (s.getD i.toNat 0) with
   | true => exact .inl ⟨i, rfl, by omega, by omega, hp⟩
   | false =>
    rcases ih (i + 1) (by omega) with ⟨j, e, j1, j2, j3⟩ | ⟨e, h⟩
    ·exact .inl ⟨j, e, by omega, by omega, j3⟩
    ·refine .inr ⟨e, fun j j1 j2 => ?_⟩
     rcases Int.lt_or_eq_of_le j1 with hlt | rfl
     ·exact h j (by omega) (by omega)
     ·exact hp
 unfold sc_ContainsFunc_int sc_IndexFunc_int
 rcases key ((((s.length : Nat) : Int) - 0).toNat) 0 (by omega) with ⟨j, e, j1, j2, j3⟩ | ⟨e, h⟩
 ·rw [e]
  exact ⟨fun _ => ⟨_, getD_mem (by omega), j3⟩, fun _ => by simpa using j1⟩
 ·rw [e]
  refine ⟨fun h => by simp at h, ?_⟩
  rintro ⟨x, hx, hf⟩
  obtain ⟨j, j1, j2, rfl⟩ := mem_getD.1 hx
  rw [h j j1 (by omega)] at hf; cases hf
theorem unknowns_iff (s : GSystem) (l : List Int) : cn_unknowns s l = true ↔ ∀ x ∈ l, 0 ≤ x ∧ x < (s.Deps.length : Int) := by
 unfold cn_unknowns
 have h := IndexFunc_any l (fun x => cn_unknowns_1 x s)
 constructor
 ·intro hh x hx
  cases hc : sc_ContainsFunc_int l (fun x => cn_unknowns_1 x s) with
  | true => rw [hc] at hh; cases hh
  | false =>
   have : ¬ cn_unknowns_1 x s = true := fun e => by rw [h.2 ⟨x, hx, e⟩] at hc; cases hc
   simp [cn_unknowns_1, Bool.cond_eq_ite] at this
   omega
 ·intro hh
  cases hc : sc_ContainsFunc_int l (fun x => cn_unknowns_1 x s) with
  | false => rfl
  | true =>
   obtain ⟨x, hx, e⟩ := h.1 hc
   have := hh x hx
   simp [cn_unknowns_1, Bool.cond_eq_ite] at e
   omega
theorem okFound_one {s : GSystem} {root : Int} (h : cn_unknowns s [root] = true) : okFound (s.Deps.length : Int) [root] ((List.replicate (((s.Deps.length : Nat) : Int) : Int).toNat false).set (root : Int).toNat true) := by
 have h1 := (unknowns_iff s [root]).1 h root (by simp)
 refine ⟨⟨by simp, (unknowns_iff s [root]).1 h⟩, by simp, fun x x0 x1 => ?_⟩
 simp only [List.getD_eq_getElem?_getD, List.getElem?_set, List.mem_singleton]
 by_cases e : root.toNat = x.toNat
 ·have : root = x := by omega
  subst this
  rw [if_pos rfl, if_pos (by simp; omega)]; simp
 ·rw [if_neg e]
  simp [List.getElem?_replicate]
  constructor
  ·intro h; split at h <;> simp at h
  ·intro h; subst h; exact absurd rfl e
theorem unknowns_eq {s : GSystem} (hv : VSys s) (l : List Int) : cn_unknowns s l = r14_inside s l := by
 rw [Bool.eq_iff_iff, unknowns_iff, inside_iff]
 have := hv.bl
 constructor
 ·intro h x hx; have := h x hx; omega
 ·intro h x hx; have := h x hx; omega
theorem unk_eq {s : GSystem} (hv : VSys s) (l : List Int) : cn_unknowns s l = r14_inside s l := by
 rw [Bool.eq_iff_iff, unknowns_iff, inside_iff, hv.bl]
theorem IndexFuncK_any (s : List GKnown) (fp : GKnown → Bool) : sc_ContainsFunc_Known s fp = true ↔ ∃ x ∈ s, fp x = true := by
 have := scan' (fun r i => sc_IndexFunc_Known_L0 s fp r i) (fun i => fp (s.getD i.toNat default)) () (fun _ => rfl) (fun _ _ => rfl) ((((s.length : Nat) : Int) - 0).toNat) 0
 unfold sc_ContainsFunc_Known sc_IndexFunc_Known
 rcases this with ⟨j, e, j1, j2, j3⟩ | ⟨e, h⟩
 ·rw [e]
  exact ⟨fun _ => ⟨_, getD_mem (by omega), j3⟩, fun _ => by simpa using j1⟩
 ·rw [e]
  refine ⟨fun h => by simp at h, ?_⟩
  rintro ⟨x, hx, hf⟩
  obtain ⟨j, j1, j2, rfl⟩ := (mem_getDg (d := default)).1 hx
  rw [h j j1 (by omega)] at hf; cases hf
theorem kn1_eq {s : GSystem} (hv : VSys s) (k : List GKnown) : sc_ContainsFunc_Known k (fun x => cn_Restrict_1 x s) = !(r14_inside s (k.map GKnown.Node)) := by
 rw [Bool.eq_iff_iff, IndexFuncK_any, Bool.not_eq_true', Bool.eq_false_iff, ne_eq, inside_iff]
 constructor
 ·rintro ⟨x, hx, h⟩ hall
  unfold cn_Restrict_1 at h
  have h2 := (inside_iff s [x.Node]).2 (fun y hy => by rw [List.mem_singleton] at hy; rw [hy]; exact hall _ (List.mem_map.2 ⟨x, hx, rfl⟩))
  rw [unk_eq hv, h2] at h
  cases h
 ·intro h
  refine Classical.byContradiction fun hn => h fun y hy => ?_
  obtain ⟨x, hx, rfl⟩ := List.mem_map.1 hy
  refine Classical.byContradiction fun h3 => hn ⟨x, hx, ?_⟩
  unfold cn_Restrict_1
  cases e : cn_unknowns s [x.Node]
  ·rfl
  ·rw [unk_eq hv] at e
   exact absurd ((inside_iff s [x.Node]).1 e x.Node (List.mem_singleton.2 rfl)) h3
theorem Len_ok {x : BitVec 64} (h : x.toNat ≤ 65535) : 0 ≤ bits_Len x ∧ bits_Len x ≤ 16 ∧ (x.toNat = 0 ∨ 2 ^ (bits_Len x).toNat ≤ 2 * x.toNat) := by
 unfold bits_Len bits_Len64
 dsimp only
 by_cases c : (256 : Int) ≤ (x.toNat : Int)
 ·rw [decide_eq_true c, cond_true]
  have e8 : (((8#64).toNat : Int)).toNat = 8 := by decide
  rw [e8]
  have e : (x >>> 8).toNat = x.toNat / 256 := by rw [BitVec.toNat_ushiftRight, Nat.shiftRight_eq_div_pow]
  have ek : (((x >>> 8).toNat : Int)).toNat = x.toNat / 256 := by rw [e]; omega
  rw [ek]
  obtain ⟨t1, t2⟩ := tab_at (k := x.toNat / 256) (by omega)
  refine ⟨by omega, by omega, .inr ?_⟩
  rcases t1 with t1 | t1
  ·omega
  ·rw [show (0 + 8 + (((tab0.b.getD (x.toNat / 256) 0).toNat : Nat) : Int)).toNat = 8 + (tab0.b.getD (x.toNat / 256) 0).toNat by omega, Nat.pow_add]
   omega
 ·rw [decide_eq_false c, cond_false]
  have ek : ((x.toNat : Int)).toNat = x.toNat := by omega
  rw [ek]
  obtain ⟨t1, t2⟩ := tab_at (k := x.toNat) (by omega)
  refine ⟨by omega, by omega, ?_⟩
  rw [show (0 + (((tab0.b.getD x.toNat 0).toNat : Nat) : Int)).toNat = (tab0.b.getD x.toNat 0).toNat by omega]
  exact t1
theorem Len_f {x : BitVec 64} {r : Int} (h : bits_Len x = r) (hx : x.toNat ≤ 65535) : 0 ≤ r ∧ r ≤ 16 := by
 have := Len_ok hx; rw [h] at this; omega
theorem Less_eq' (x y : Int) : cmp_Less_int x y = decide (x < y) := by unfold cmp_Less_int cmp_isNaN_int; simp
theorem ins1 {a e : Int} (h0 : 0 ≤ a) : ∀ (r : Nat) (d : List Int) (j : Int), (r : Int) = j - a → e ≤ (d.length : Int) → Hole 0 idk d a j e →
  PI 0 d (sc_insertionSortOrdered_int_L1 r d j) a e ∧ Srt 0 idk (sc_insertionSortOrdered_int_L1 r d j) a e
 | 0, d, j, hr, he, h => by
  rw [sc_insertionSortOrdered_int_L1]
  exact ⟨PI.refl _ _ _ _, h.done 0 idk (.inl (by omega))⟩
 | r + 1, d, j, hr, he, h => by
  rw [sc_insertionSortOrdered_int_L1]
  have hrg := h.rg
  simp only [Less_eq']
  by_cases hs : d.getD j.toNat 0 < d.getD (j - 1).toNat 0
  ·simp only [decide_eq_true hs, cond_true]
   have h2 := h.step 0 idk h0 he (by omega) hs
   have h1 := PI.swp 0 (d := d) (a := a) (b := e) (i := j) (j := j - 1) h0 he (by omega) (by omega)
   obtain ⟨k1, k2⟩ := ins1 h0 r (swp 0 d j (j - 1)) (j - 1) (by omega) (by rw [swp_len]; exact he) h2
   exact ⟨h1.trans 0 k1, k2⟩
  ·simp only [decide_eq_false hs, cond_false]
   exact ⟨PI.refl _ _ _ _, h.done 0 idk (.inr (by show d.getD (j - 1).toNat 0 ≤ d.getD j.toNat 0; omega))⟩
theorem ins0 {a b : Int} (h0 : 0 ≤ a) : ∀ (r : Nat) (d : List Int) (i : Int), (r : Int) = b - i → a < i → b ≤ (d.length : Int) → Srt 0 idk d a i →
  PI 0 d (sc_insertionSortOrdered_int_L0 a r d i) a b ∧ Srt 0 idk (sc_insertionSortOrdered_int_L0 a r d i) a b
 | 0, d, i, hr, hi, hb, h => by
  rw [sc_insertionSortOrdered_int_L0]
  have : b = i := by omega
  subst this
  exact ⟨PI.refl _ _ _ _, h⟩
 | r + 1, d, i, hr, hi, hb, h => by
  rw [sc_insertionSortOrdered_int_L0]
  try dsimp only
  obtain ⟨k1, k2⟩ := ins1 h0 (i - a).toNat d i (by omega) (e := i + 1) (by omega) (Hole.init 0 idk (by omega) h)
  obtain ⟨m1, m2⟩ := ins0 (b := b) h0 r _ (i + 1) (by omega) (by omega) (by rw [k1.len]; exact hb) k2
  exact ⟨(k1.mono 0 h0 (Int.le_refl _) (by omega)).trans 0 m1, m2⟩
theorem ins_ok {d : List Int} {a b : Int} (h0 : 0 ≤ a) (hab : a ≤ b) (hb : b ≤ (d.length : Int)) : PI 0 d (sc_insertionSortOrdered_int d a b) a b ∧ Srt 0 idk (sc_insertionSortOrdered_int d a b) a b := by
 unfold sc_insertionSortOrdered_int
 dsimp only
 by_cases h : a < b
 ·exact ins0 h0 _ d (a + 1) (by omega) (by omega) hb (fun i j h1 h2 h3 => by
   have : i = j := by omega
   subst this; exact Int.le_refl _)
 ·have e : (b - (a + 1)).toNat = 0 := by omega
  rw [e, sc_insertionSortOrdered_int_L0]
  exact ⟨PI.refl _ _ _ _, fun i j h1 h2 h3 => by omega⟩
theorem sift0 {hi f lo : Int} (h0 : 0 ≤ f) (hl : 0 ≤ lo) : ∀ (r : Nat) (d : List Int) (rt : Int), hi - rt < (r : Int) → 0 < r → lo ≤ rt → f + hi ≤ (d.length : Int) → Hq d f lo hi rt →
  ∃ d', (sc_siftDownOrdered_int_L0 hi f r d rt = .brk d' ∨ sc_siftDownOrdered_int_L0 hi f r d rt = .ret d') ∧ PI 0 d d' (f + lo) (f + hi) ∧ Hp d' f lo hi
 | 0, d, rt, hr, hr0, hlr, hb, h => by omega
 | r + 1, d, rt, hr, hr0, hlr, hb, h => by
  rw [sc_siftDownOrdered_int_L0]
  simp only [Less_eq']
  by_cases c1 : hi ≤ 2 * rt + 1
  ·simp only [decide_eq_true c1, cond_true]
   exact ⟨d, .inl rfl, PI.refl _ _ _ _, h.done fun c hc hn => by omega⟩
  ·simp only [decide_eq_false c1, cond_false]
   have go : ∀ c, (c = 2 * rt + 1 ∨ c = 2 * rt + 2) → c < hi → (∀ c', (c' = 2 * rt + 1 ∨ c' = 2 * rt + 2) → c' < hi → gi 0 d (f + c') ≤ gi 0 d (f + c)) →
     ∃ d', ((bif !decide (d.getD (f + rt).toNat 0 < d.getD (f + c).toNat 0) then (.ret d : LR (List Int) (List Int)) else sc_siftDownOrdered_int_L0 hi f r (swp 0 d (f + rt) (f + c)) c) = .brk d' ∨
      (bif !decide (d.getD (f + rt).toNat 0 < d.getD (f + c).toNat 0) then (.ret d : LR (List Int) (List Int)) else sc_siftDownOrdered_int_L0 hi f r (swp 0 d (f + rt) (f + c)) c) = .ret d') ∧ PI 0 d d' (f + lo) (f + hi) ∧ Hp d' f lo hi := fun c hc hn hm => by
    by_cases hs : d.getD (f + rt).toNat 0 < d.getD (f + c).toNat 0
    ·simp only [decide_eq_true hs, Bool.not_true, cond_false]
     have h2 := h.step h0 hl hlr hb hc hn hs hm
     have h1 := PI.swp 0 (d := d) (a := f + lo) (b := f + hi) (i := f + rt) (j := f + c) (by omega) hb (by omega) (by omega)
     obtain ⟨d', k1, k2, k3⟩ := sift0 h0 hl r _ c (by omega) (by omega) (by omega) (by rw [swp_len]; exact hb) h2
     exact ⟨d', k1, h1.trans 0 k2, k3⟩
    ·simp only [decide_eq_false hs, Bool.not_false, cond_true]
     refine ⟨d, .inr rfl, PI.refl _ _ _ _, h.done fun c' h1 h2 => Int.le_trans (hm c' h1 h2) ?_⟩
     show d.getD (f + c).toNat 0 ≤ d.getD (f + rt).toNat 0
     omega
   by_cases c2 : 2 * rt + 1 + 1 < hi
   ·simp only [decide_eq_true c2, cond_true]
    by_cases c3 : d.getD (f + (2 * rt + 1)).toNat 0 < d.getD (f + (2 * rt + 1) + 1).toNat 0
    ·simp only [decide_eq_true c3, cond_true]
     refine go (2 * rt + 1 + 1) (by omega) c2 fun c' h1 h2 => ?_
     rcases h1 with e | e
     ·subst e
      show d.getD (f + (2 * rt + 1)).toNat 0 ≤ d.getD (f + (2 * rt + 1 + 1)).toNat 0
      rw [show f + (2 * rt + 1) + 1 = f + (2 * rt + 1 + 1) by omega] at c3; omega
     ·rw [show c' = 2 * rt + 1 + 1 by omega]; exact Int.le_refl _
    ·simp only [decide_eq_false c3, cond_false]
     refine go (2 * rt + 1) (by omega) (by omega) fun c' h1 h2 => ?_
     rcases h1 with e | e
     ·subst e; exact Int.le_refl _
     ·subst e
      show d.getD (f + (2 * rt + 2)).toNat 0 ≤ d.getD (f + (2 * rt + 1)).toNat 0
      rw [show f + (2 * rt + 1) + 1 = f + (2 * rt + 2) by omega] at c3; omega
   ·simp only [decide_eq_false c2, cond_false]
    refine go (2 * rt + 1) (by omega) (by omega) fun c' h1 h2 => ?_
    rw [show c' = 2 * rt + 1 by omega]; exact Int.le_refl _
theorem sift_ok {d : List Int} {f lo hi : Int} (h0 : 0 ≤ f) (hl : 0 ≤ lo) (hb : f + hi ≤ (d.length : Int)) (h : Hp d f (lo + 1) hi) :
  PI 0 d (sc_siftDownOrdered_int d lo hi f) (f + lo) (f + hi) ∧ Hp (sc_siftDownOrdered_int d lo hi f) f lo hi := by
 obtain ⟨d', k1, k2, k3⟩ := sift0 h0 hl (hi.toNat + 1) d lo (by omega) (by omega) (Int.le_refl _) hb ⟨fun i hi hne => h i (by omega), fun i hi hp => by omega⟩
 unfold sc_siftDownOrdered_int
 rcases k1 with k1 | k1 <;> rw [k1] <;> exact ⟨k2, k3⟩
theorem sift_t {hi f : Int} : ∀ (r : Nat) (d : List Int) (rt : Int), hi - rt < (r : Int) → 0 < r → 0 ≤ rt → sc_siftDownOrdered_int_L0 hi f r d rt ≠ .oof
 | 0, d, rt, hr, hr0, hl => by omega
 | r + 1, d, rt, hr, hr0, hl => by
  rw [sc_siftDownOrdered_int_L0]
  try dsimp only
  by_cases c1 : hi ≤ 2 * rt + 1
  ·rw [decide_eq_true c1]; intro h; cases h
  ·rw [decide_eq_false c1, cond_false]
   have g1 : ∀ d', sc_siftDownOrdered_int_L0 hi f r d' (2 * rt + 1) ≠ .oof := fun d' => sift_t r d' _ (by omega) (by omega) (by omega)
   have g2 : ∀ d', sc_siftDownOrdered_int_L0 hi f r d' (2 * rt + 1 + 1) ≠ .oof := fun d' => sift_t r d' _ (by omega) (by omega) (by omega)
   have g3 : ∀ (c : Bool) (d' : List Int) (X : LR (List Int) (List Int)), X ≠ .oof → (bif !c then .ret d' else X) ≠ .oof := fun c d' X hX => by cases c; (intro h; cases h); exact hX
   cases decide (2 * rt + 1 + 1 < hi)
   ·exact g3 _ _ _ (g1 _)
   ·cases cmp_Less_int (d.getD (f + (2 * rt + 1)).toNat 0) (d.getD (f + (2 * rt + 1) + 1).toNat 0)
    ·exact g3 _ _ _ (g1 _)
    ·exact g3 _ _ _ (g2 _)
theorem heap0 {a b : Int} (h0 : 0 ≤ a) : ∀ (r : Nat) (d : List Int) (i : Int), i + 1 < (r : Int) → -1 ≤ i → b ≤ (d.length : Int) → Hp d a (i + 1) (b - a) →
  ∃ d', sc_heapSortOrdered_int_L0 a b r d i = .brk d' ∧ PI 0 d d' a b ∧ Hp d' a 0 (b - a)
 | 0, d, i, hr, hi, hb, h => by omega
 | r + 1, d, i, hr, hi, hb, h => by
  rw [sc_heapSortOrdered_int_L0]
  by_cases c : 0 ≤ i
  ·simp only [decide_eq_true c, cond_true]
   obtain ⟨k1, k2⟩ := sift_ok (d := d) (f := a) (lo := i) (hi := b - a) h0 c (by omega) h
   have k1' : PI 0 d (sc_siftDownOrdered_int d i (b - a) a) a b := by
    have := k1.mono 0 (a' := a) (b' := b) h0 (by omega) (by omega)
    exact this
   obtain ⟨d', m1, m2, m3⟩ := heap0 h0 r _ (i - 1) (by omega) (by omega) (by rw [k1.len]; exact hb) (by rw [show i - 1 + 1 = i by omega]; exact k2)
   exact ⟨d', m1, k1'.trans 0 m2, m3⟩
  ·simp only [decide_eq_false c, cond_false]
   exact ⟨d, rfl, PI.refl _ _ _ _, by rw [show i + 1 = 0 by omega] at h; exact h⟩
theorem heap1 {a b : Int} (h0 : 0 ≤ a) : ∀ (r : Nat) (d : List Int) (i : Int), i + 1 < (r : Int) → -1 ≤ i → a + i < b → b ≤ (d.length : Int) → Hp d a 0 (i + 1) → Srt 0 idk d (a + i + 1) b → (∀ p q, a ≤ p → p ≤ a + i → a + i < q → q < b → gi 0 d p ≤ gi 0 d q) →
  ∃ d', sc_heapSortOrdered_int_L1 a r d i = .brk d' ∧ PI 0 d d' a b ∧ Srt 0 idk d' a b
 | 0, d, i, hr, hi, hib, hb, h, hs, hq => by omega
 | r + 1, d, i, hr, hi, hib, hb, h, hs, hq => by
  rw [sc_heapSortOrdered_int_L1]
  by_cases c : 0 ≤ i
  ·simp only [decide_eq_true c, cond_true]
   have e0 : (swp 0 d a (a + i)).length = d.length := swp_len 0 _ _ _
   have g : ∀ k, 0 ≤ k → gi 0 (swp 0 d a (a + i)) k = if k = a + i then gi 0 d a else if k = a then gi 0 d (a + i) else gi 0 d k := fun k hk => swp_gi 0 ⟨by omega, by omega⟩ ⟨by omega, by omega⟩ hk
   have p1 := PI.swp 0 (d := d) (a := a) (b := b) (i := a) (j := a + i) h0 hb (by omega) (by omega)
   obtain ⟨k1, k2⟩ := sift_ok (d := swp 0 d a (a + i)) (f := a) (lo := 0) (hi := i) h0 (by omega) (by rw [e0]; omega) (fun j hj c hc hn => by
    rw [g _ (by omega), g _ (by omega), if_neg (by omega), if_neg (by omega), if_neg (by omega), if_neg (by omega)]
    exact h j (by omega) c hc (by omega))
   have k1' := k1.mono 0 (a' := a) (b' := b) h0 (by omega) (by omega)
   have mx : ∀ p, a ≤ p → p ≤ a + i → gi 0 d p ≤ gi 0 d a := fun p h1 h2 => by
    have := Hp_max h (p - a).toNat (p - a) (Nat.le_refl _) (by omega) (by omega)
    rw [show a + (p - a) = p by omega, show a + 0 = a by omega] at this; exact this
   -- what lies behind i has not changed since the swap
   have ou : ∀ q, a + i ≤ q → q < b → gi 0 (sc_siftDownOrdered_int (swp 0 d a (a + i)) 0 i a) q = if q = a + i then gi 0 d a else gi 0 d q := fun q h1 h2 => by
    rw [k1.out q (by omega) (by omega), g q (by omega)]
    by_cases e : q = a + i
    ·rw [if_pos e, if_pos e]
    ·rw [if_neg e, if_neg (by omega), if_neg e]
   obtain ⟨d', m1, m2, m3⟩ := heap1 (b := b) h0 r (sc_siftDownOrdered_int (swp 0 d a (a + i)) 0 i a) (i - 1) (by omega) (by omega) (by omega) (by rw [k1.len, e0]; exact hb) (by rw [show i - 1 + 1 = i by omega]; exact k2)
    (fun p q h1 h2 h3 => by
     show gi 0 _ p ≤ gi 0 _ q
     rw [ou p (by omega) (by omega), ou q (by omega) h3]
     by_cases e1 : p = a + i
     ·rw [if_pos e1]
      by_cases e2 : q = a + i
      ·rw [if_pos e2]; exact Int.le_refl _
      ·rw [if_neg e2]; exact hq a q (Int.le_refl _) (by omega) (by omega) h3
     ·rw [if_neg e1, if_neg (by omega)]
      exact hs p q (by omega) h2 h3)
    (fun p q h1 h2 h3 h4 => by
     rw [ou q (by omega) h4]
     obtain ⟨m, n1, n2, n3⟩ := k1.src p (by omega) (by omega)
     rw [n3, g m (by omega), if_neg (by omega)]
     have hm : (if m = a then gi 0 d (a + i) else gi 0 d m) ≤ gi 0 d a := by
      by_cases e : m = a
      ·rw [if_pos e]; exact mx _ (by omega) (by omega)
      ·rw [if_neg e]; exact mx _ (by omega) (by omega)
     by_cases e : q = a + i
     ·rw [if_pos e]; exact hm
     ·rw [if_neg e]; exact Int.le_trans hm (hq a q (Int.le_refl _) (by omega) (by omega) h4))
   exact ⟨d', m1, (p1.trans 0 k1').trans 0 m2, m3⟩
  ·simp only [decide_eq_false c, cond_false]
   exact ⟨d, rfl, PI.refl _ _ _ _, by rw [show a + i + 1 = a by omega] at hs; exact hs⟩
theorem heap_ok {d : List Int} {a b : Int} (h0 : 0 ≤ a) (hab : a ≤ b) (hb : b ≤ (d.length : Int)) : PI 0 d (sc_heapSortOrdered_int d a b) a b ∧ Srt 0 idk (sc_heapSortOrdered_int d a b) a b := by
 obtain ⟨d1, k1, k2, k3⟩ := heap0 (a := a) (b := b) h0 ((b - a).toNat + 1) d ((b - a - 1) / 2) (by omega) (by omega) hb (fun i hi c hc hn => by omega)
 obtain ⟨d2, m1, m2, m3⟩ := heap1 (a := a) (b := b) h0 ((b - a).toNat + 1) d1 (b - a - 1) (by omega) (by omega) (by omega) (by rw [k2.len]; exact hb) (by rw [show b - a - 1 + 1 = b - a by omega]; exact k3) (fun i j h1 h2 h3 => by omega) (fun p q h1 h2 h3 h4 => by omega)
 unfold sc_heapSortOrdered_int
 rw [k1]; dsimp only; rw [m1]
 exact ⟨k2.trans 0 m2, m3⟩
theorem heap0_t {a b : Int} : ∀ (r : Nat) (d : List Int) (i : Int), i + 1 < (r : Int) → 0 < r → sc_heapSortOrdered_int_L0 a b r d i ≠ .oof
 | 0, d, i, hr, hr0 => by omega
 | r + 1, d, i, hr, hr0 => by
  rw [sc_heapSortOrdered_int_L0]
  by_cases c : 0 ≤ i
  ·rw [decide_eq_true c, cond_true]; exact heap0_t r _ _ (by omega) (by omega)
  ·rw [decide_eq_false c]; intro h; cases h
theorem heap1_t {a : Int} : ∀ (r : Nat) (d : List Int) (i : Int), i + 1 < (r : Int) → 0 < r → sc_heapSortOrdered_int_L1 a r d i ≠ .oof
 | 0, d, i, hr, hr0 => by omega
 | r + 1, d, i, hr, hr0 => by
  rw [sc_heapSortOrdered_int_L1]
  by_cases c : 0 ≤ i
  ·rw [decide_eq_true c, cond_true]; exact heap1_t r _ _ (by omega) (by omega)
  ·rw [decide_eq_false c]; intro h; cases h
theorem npt_ok {l : Int} (h : 1 ≤ l ∧ l ≤ 65535) : 1 ≤ (sc_nextPowerOfTwo l).toNat ∧ (sc_nextPowerOfTwo l).toNat ≤ 2 * l.toNat := by
 have e := ofI_nat (l := l) (by omega)
 obtain ⟨h1, h2, h3⟩ := Len_ok (x := BitVec.ofInt 64 l) (by omega)
 unfold sc_nextPowerOfTwo
 dsimp only
 generalize bits_Len (BitVec.ofInt 64 l) = n at *
 have ep : (1#64 <<< n.toNat).toNat = 2 ^ n.toNat := by
  rw [BitVec.toNat_shiftLeft]
  have : 2 ^ n.toNat ≤ 2 ^ 16 := Nat.pow_le_pow_right (by omega) (by omega)
  rw [Nat.shiftLeft_eq, Nat.mod_eq_of_lt (by simp; omega)]
  simp
 rw [ep]
 have := Nat.one_le_two_pow (n := n.toNat)
 omega
theorem npt_f {l : Int} {r : BitVec 64} (h : sc_nextPowerOfTwo l = r) (hl : 1 ≤ l ∧ l ≤ 65535) : 1 ≤ r.toNat ∧ r.toNat ≤ 2 * l.toNat := h ▸ npt_ok hl
theorem bp0 {a b : Int} {m : BitVec 64} (h0 : 0 ≤ a) (hl : 8 ≤ b - a) (hm : 1 ≤ m.toNat ∧ m.toNat ≤ 2 * (b - a).toNat) : ∀ (r : Nat) (d : List Int) (x : BitVec 64) (i : Int), a + (b - a) / 4 * 2 + 2 - i < (r : Int) → 0 < r → a + (b - a) / 4 * 2 - 1 ≤ i → b ≤ (d.length : Int) →
  ∃ d', sc_breakPatternsOrdered_int_L0 a b m r d x i = .brk d' ∧ PI 0 d d' a b
 | 0, d, x, i, hr, hr0, hi, hb => by omega
 | r + 1, d, x, i, hr, hr0, hi, hb => by
  rw [sc_breakPatternsOrdered_int_L0]
  by_cases c : i ≤ a + (b - a) / 4 * 2 + 1
  ·simp only [decide_eq_true c, cond_true]
   have ha := and_lt (x := (xorshift_Next x).1) (m := m) hm.1
   generalize ((xorshift_Next x).1 &&& (m - 1#64)).toNat = o at *
   by_cases c2 : b - a ≤ (o : Int)
   ·simp only [decide_eq_true c2, cond_true]
    obtain ⟨d', k1, k2⟩ := bp0 h0 hl hm r (swp 0 d i (a + ((o : Int) - (b - a)))) (xorshift_Next x).2 (i + 1) (by omega) (by omega) (by omega) (by rw [swp_len]; exact hb)
    exact ⟨d', k1, (PI.swp 0 (d := d) (a := a) (b := b) (i := i) (j := a + ((o : Int) - (b - a))) h0 hb (by omega) (by omega)).trans 0 k2⟩
   ·simp only [decide_eq_false c2, cond_false]
    obtain ⟨d', k1, k2⟩ := bp0 h0 hl hm r (swp 0 d i (a + (o : Int))) (xorshift_Next x).2 (i + 1) (by omega) (by omega) (by omega) (by rw [swp_len]; exact hb)
    exact ⟨d', k1, (PI.swp 0 (d := d) (a := a) (b := b) (i := i) (j := a + (o : Int)) h0 hb (by omega) (by omega)).trans 0 k2⟩
  ·simp only [decide_eq_false c, cond_false]
   exact ⟨d, rfl, PI.refl _ _ _ _⟩
theorem bp_ok {d : List Int} {a b : Int} (h0 : 0 ≤ a) (hl : 8 ≤ b - a) (hb : b ≤ (d.length : Int)) (hd : d.length ≤ 65535) : PI 0 d (sc_breakPatternsOrdered_int d a b) a b := by
 unfold sc_breakPatternsOrdered_int
 simp only [decide_eq_true hl, cond_true]
 obtain ⟨d', k1, k2⟩ := bp0 (a := a) (b := b) h0 hl (npt_ok (by omega)) 4 d (BitVec.ofInt 64 (b - a)) (a + (b - a) / 4 * 2 - 1) (by omega) (by omega) (by omega) hb
 rw [k1]; exact k2
theorem bp_t {a b : Int} {m : BitVec 64} : ∀ (r : Nat) (d : List Int) (x : BitVec 64) (i : Int), a + (b - a) / 4 * 2 + 2 - i < (r : Int) → 0 < r → sc_breakPatternsOrdered_int_L0 a b m r d x i ≠ .oof
 | 0, d, x, i, hr, hr0 => by omega
 | r + 1, d, x, i, hr, hr0 => by
  rw [sc_breakPatternsOrdered_int_L0]
  by_cases c : i ≤ a + (b - a) / 4 * 2 + 1
  ·simp only [decide_eq_true c, cond_true]
   by_cases c2 : b - a ≤ ((((xorshift_Next x).1 &&& (m - 1#64)).toNat : Nat) : Int)
   ·rw [decide_eq_true c2, cond_true]; exact bp_t r _ _ _ (by omega) (by omega)
   ·rw [decide_eq_false c2, cond_false]; exact bp_t r _ _ _ (by omega) (by omega)
  ·rw [decide_eq_false c]; intro h; cases h
theorem ord2 (d : List Int) (a b s : Int) : ((sc_order2Ordered_int d a b s).1 = a ∧ (sc_order2Ordered_int d a b s).2.1 = b) ∨ ((sc_order2Ordered_int d a b s).1 = b ∧ (sc_order2Ordered_int d a b s).2.1 = a) := by
 unfold sc_order2Ordered_int
 dsimp only
 cases cmp_Less_int (d.getD b.toNat 0) (d.getD a.toNat 0)
 ·exact .inl ⟨rfl, rfl⟩
 ·exact .inr ⟨rfl, rfl⟩
theorem med_ok (d : List Int) (a b c s : Int) : (sc_medianOrdered_int d a b c s).1 = a ∨ (sc_medianOrdered_int d a b c s).1 = b ∨ (sc_medianOrdered_int d a b c s).1 = c := by
 unfold sc_medianOrdered_int
 dsimp only
 have h1 := ord2 d a b s
 generalize sc_order2Ordered_int d a b s = r1 at *
 have h2 := ord2 d r1.2.1 c r1.2.2
 generalize sc_order2Ordered_int d r1.2.1 c r1.2.2 = r2 at *
 have h3 := ord2 d r1.1 r2.1 r2.2.2
 generalize sc_order2Ordered_int d r1.1 r2.1 r2.2.2 = r3 at *
 omega
theorem cp_rng (d : List Int) {a b : Int} (h : 8 ≤ b - a) : a ≤ (sc_choosePivotOrdered_int d a b).1 ∧ (sc_choosePivotOrdered_int d a b).1 < b := by
 unfold sc_choosePivotOrdered_int sc_medianAdjacentOrdered_int
 dsimp only
 rw [decide_eq_true h, cond_true]
 by_cases c : 50 ≤ b - a
 ·rw [decide_eq_true c, cond_true]
  have m1 := med_ok d (a + (b - a) / 4 * 1 - 1) (a + (b - a) / 4 * 1) (a + (b - a) / 4 * 1 + 1) 0
  generalize sc_medianOrdered_int d (a + (b - a) / 4 * 1 - 1) (a + (b - a) / 4 * 1) (a + (b - a) / 4 * 1 + 1) 0 = q1 at *
  have m2 := med_ok d (a + (b - a) / 4 * 2 - 1) (a + (b - a) / 4 * 2) (a + (b - a) / 4 * 2 + 1) q1.2
  generalize sc_medianOrdered_int d (a + (b - a) / 4 * 2 - 1) (a + (b - a) / 4 * 2) (a + (b - a) / 4 * 2 + 1) q1.2 = q2 at *
  have m3 := med_ok d (a + (b - a) / 4 * 3 - 1) (a + (b - a) / 4 * 3) (a + (b - a) / 4 * 3 + 1) q2.2
  generalize sc_medianOrdered_int d (a + (b - a) / 4 * 3 - 1) (a + (b - a) / 4 * 3) (a + (b - a) / 4 * 3 + 1) q2.2 = q3 at *
  have m4 := med_ok d q1.1 q2.1 q3.1 q3.2
  generalize sc_medianOrdered_int d q1.1 q2.1 q3.1 q3.2 = q4 at *
  have hq : a ≤ q4.1 ∧ q4.1 < b := by
   have b1 : a ≤ q1.1 ∧ q1.1 < b := by omega
   have b2 : a ≤ q2.1 ∧ q2.1 < b := by omega
   have b3 : a ≤ q3.1 ∧ q3.1 < b := by omega
   clear m1 m2 m3
   rcases m4 with e | e | e <;> rw [e] <;> assumption
  cases q4.2 == 0
  ·cases q4.2 == 12 <;> exact hq
  ·exact hq
 ·rw [decide_eq_false c, cond_false]
  have m4 := med_ok d (a + (b - a) / 4 * 1) (a + (b - a) / 4 * 2) (a + (b - a) / 4 * 3) 0
  generalize sc_medianOrdered_int d (a + (b - a) / 4 * 1) (a + (b - a) / 4 * 2) (a + (b - a) / 4 * 3) 0 = q4 at *
  have hq : a ≤ q4.1 ∧ q4.1 < b := by omega
  cases q4.2 == 0
  ·cases q4.2 == 12 <;> exact hq
  ·exact hq
theorem rev0 {a b : Int} (h0 : 0 ≤ a) : ∀ (r : Nat) (d : List Int) (i j : Int), j - i < (r : Int) → 0 < r → a ≤ i → j < b → b ≤ (d.length : Int) → ∃ d', sc_reverseRangeOrdered_int_L0 r d i j = .brk d' ∧ PI 0 d d' a b
 | 0, d, i, j, hr, hr0, hi, hj, hb => by omega
 | r + 1, d, i, j, hr, hr0, hi, hj, hb => by
  rw [sc_reverseRangeOrdered_int_L0]
  by_cases c : i < j
  ·simp only [decide_eq_true c, cond_true]
   obtain ⟨d', k1, k2⟩ := rev0 (b := b) h0 r (swp 0 d i j) (i + 1) (j - 1) (by omega) (by omega) (by omega) (by omega) (by rw [swp_len]; exact hb)
   exact ⟨d', k1, (PI.swp 0 (d := d) (a := a) (b := b) (i := i) (j := j) h0 hb (by omega) (by omega)).trans 0 k2⟩
  ·simp only [decide_eq_false c, cond_false]
   exact ⟨d, rfl, PI.refl _ _ _ _⟩
theorem rev_ok {d : List Int} {a b : Int} (h0 : 0 ≤ a) (hab : a ≤ b) (hb : b ≤ (d.length : Int)) : PI 0 d (sc_reverseRangeOrdered_int d a b) a b := by
 obtain ⟨d', k1, k2⟩ := rev0 (b := b) h0 ((b - a).toNat + 1) d a (b - 1) (by omega) (by omega) (Int.le_refl _) (by omega) hb
 unfold sc_reverseRangeOrdered_int
 rw [k1]; exact k2
theorem rev_t : ∀ (r : Nat) (d : List Int) (i j : Int), j - i < (r : Int) → 0 < r → sc_reverseRangeOrdered_int_L0 r d i j ≠ .oof
 | 0, d, i, j, hr, hr0 => by omega
 | r + 1, d, i, j, hr, hr0 => by
  rw [sc_reverseRangeOrdered_int_L0]
  by_cases c : i < j
  ·rw [decide_eq_true c, cond_true]; exact rev_t r _ _ _ (by omega) (by omega)
  ·rw [decide_eq_false c]; intro h; cases h
theorem pin1 {b : Int} (d : List Int) {a : Int} : ∀ (r : Nat) (i : Int), (r : Int) = b - i → a < i → Srt 0 idk d a i → i ≤ sc_partialInsertionSortOrdered_int_L1 d r i ∧ sc_partialInsertionSortOrdered_int_L1 d r i ≤ b ∧ Srt 0 idk d a (sc_partialInsertionSortOrdered_int_L1 d r i) ∧
  (sc_partialInsertionSortOrdered_int_L1 d r i < b → gi 0 d (sc_partialInsertionSortOrdered_int_L1 d r i) < gi 0 d (sc_partialInsertionSortOrdered_int_L1 d r i - 1))
 | 0, i, hr, hi, h => by rw [sc_partialInsertionSortOrdered_int_L1]; exact ⟨by omega, by omega, h, fun _ => by omega⟩
 | r + 1, i, hr, hi, h => by
  rw [sc_partialInsertionSortOrdered_int_L1]
  simp only [Less_eq']
  by_cases s : d.getD i.toNat 0 < d.getD (i - 1).toNat 0
  ·simp only [decide_eq_true s, Bool.not_true, cond_false]
   exact ⟨Int.le_refl _, by omega, h, fun _ => s⟩
  ·simp only [decide_eq_false s, Bool.not_false, cond_true]
   obtain ⟨m1, m2, m3, m4⟩ := pin1 (b := b) d r (i + 1) (by omega) (by omega) ((Hole.init 0 idk (by omega) h).done 0 idk (.inr (by show d.getD (i - 1).toNat 0 ≤ d.getD i.toNat 0; omega)))
   exact ⟨by omega, m2, m3, m4⟩
theorem pin2 {a e b : Int} (h0 : 0 ≤ a) (heb : e ≤ b) : ∀ (r : Nat) (d : List Int) (j : Int), j < (r : Int) → 0 < r → b ≤ (d.length : Int) → LB 0 idk d a b → Hole 0 idk d a j e → ∃ d', sc_partialInsertionSortOrdered_int_L2 r d j = .brk d' ∧ PI 0 d d' a e ∧ Srt 0 idk d' a e
 | 0, d, j, hr, hr0, hb, hl, h => by omega
 | r + 1, d, j, hr, hr0, hb, hl, h => by
  rw [sc_partialInsertionSortOrdered_int_L2]
  have hrg := h.rg
  simp only [Less_eq']
  by_cases c : 1 ≤ j
  ·simp only [decide_eq_true c, cond_true]
   by_cases s : d.getD j.toNat 0 < d.getD (j - 1).toNat 0
   ·simp only [decide_eq_true s, Bool.not_true, cond_false]
    have haj : a < j := by
     have hn : ¬ j = a := fun ej => by
      have := hl (by omega) j (by omega) (by omega)
      subst ej
      have : d.getD (j - 1).toNat 0 ≤ d.getD j.toNat 0 := this
      omega
     omega
    have p1 := PI.swp 0 (d := d) (a := a) (b := e) (i := j) (j := j - 1) h0 (by omega) (by omega) (by omega)
    obtain ⟨d', k1, k2, k3⟩ := pin2 (e := e) h0 heb r (swp 0 d j (j - 1)) (j - 1) (by omega) (by omega) (by rw [swp_len]; exact hb) (hl.pi 0 idk (p1.mono 0 h0 (Int.le_refl _) heb)) (h.step 0 idk h0 (by omega) haj s)
    exact ⟨d', k1, p1.trans 0 k2, k3⟩
   ·simp only [decide_eq_false s, Bool.not_false, cond_true]
    exact ⟨d, rfl, PI.refl _ _ _ _, h.done 0 idk (.inr (by show d.getD (j - 1).toNat 0 ≤ d.getD j.toNat 0; omega))⟩
  ·simp only [decide_eq_false c, cond_false]
   exact ⟨d, rfl, PI.refl _ _ _ _, h.done 0 idk (.inl (by omega))⟩
theorem pin3 {i b : Int} (h0 : 0 ≤ i) : ∀ (r : Nat) (d : List Int) (j : Int), (r : Int) = b - j → i < j → b ≤ (d.length : Int) → PI 0 d (sc_partialInsertionSortOrdered_int_L3 r d j) i b
 | 0, d, j, hr, hi, hb => by rw [sc_partialInsertionSortOrdered_int_L3]; exact PI.refl _ _ _ _
 | r + 1, d, j, hr, hi, hb => by
  rw [sc_partialInsertionSortOrdered_int_L3]
  simp only [Less_eq']
  by_cases s : d.getD j.toNat 0 < d.getD (j - 1).toNat 0
  ·simp only [decide_eq_true s, Bool.not_true, cond_false]
   exact (PI.swp 0 (d := d) (a := i) (b := b) (i := j) (j := j - 1) h0 hb (by omega) (by omega)).trans 0 (pin3 (b := b) h0 r (swp 0 d j (j - 1)) (j + 1) (by omega) (by omega) (by rw [swp_len]; exact hb))
  ·simp only [decide_eq_false s, Bool.not_false, cond_true]
   exact PI.refl _ _ _ _
theorem pin0 {a b : Int} (h0 : 0 ≤ a) (x : List Int) : ∀ (r : Nat) (d : List Int) (i j : Int), a < i → i ≤ b → b ≤ (d.length : Int) → x.length = d.length → Srt 0 idk d a i → LB 0 idk d a b →
  ∃ d', PI 0 d d' a b ∧ (sc_partialInsertionSortOrdered_int_L0 x a b r d i j = .brk d' ∨ sc_partialInsertionSortOrdered_int_L0 x a b r d i j = .ret (false, d') ∨ (sc_partialInsertionSortOrdered_int_L0 x a b r d i j = .ret (true, d') ∧ Srt 0 idk d' a b))
 | 0, d, i, j, hi, hib, hb, hx, hs, hl => ⟨d, PI.refl _ _ _ _, .inl (by rw [sc_partialInsertionSortOrdered_int_L0])⟩
 | r + 1, d, i, j, hi, hib, hb, hx, hs, hl => by
  rw [sc_partialInsertionSortOrdered_int_L0]
  dsimp only
  obtain ⟨m1, m2, m3, m4⟩ := pin1 (b := b) d (a := a) (b - i).toNat i (by omega) hi hs
  generalize sc_partialInsertionSortOrdered_int_L1 d (b - i).toNat i = o at *
  by_cases c1 : o = b
  ·subst c1
   rw [beq_self_eq_true, cond_true]
   exact ⟨d, PI.refl _ _ _ _, .inr (.inr ⟨rfl, m3⟩)⟩
  ·rw [beq_false_of_ne c1, cond_false]
   by_cases c2 : b - a < 50
   ·rw [decide_eq_true c2, cond_true]
    exact ⟨d, PI.refl _ _ _ _, .inr (.inl rfl)⟩
   ·rw [decide_eq_false c2, cond_false]
    have e1 : (d.set o.toNat (d.getD (o - 1).toNat 0)).set (o - 1).toNat (d.getD o.toNat 0) = swp 0 d o (o - 1) := rfl
    rw [e1]
    have p1 := PI.swp 0 (d := d) (a := a) (b := b) (i := o) (j := o - 1) h0 hb (by omega) (by omega)
    have p1' := PI.swp 0 (d := d) (a := o - 1) (b := o + 1) (i := o) (j := o - 1) (by omega) (by omega) (by omega) (by omega)
    -- the left end in order, then the right one shifted
    have fin : ∀ d2, PI 0 d d2 a b → Srt 0 idk d2 a o → ∃ d', PI 0 d d' a b ∧ ∃ q, (q = (bif decide (2 ≤ b - o) then sc_partialInsertionSortOrdered_int_L0 x a b r (sc_partialInsertionSortOrdered_int_L3 (b - (o + 1)).toNat d2 (o + 1)) o (j + 1) else sc_partialInsertionSortOrdered_int_L0 x a b r d2 o (j + 1))) ∧
      (q = .brk d' ∨ q = .ret (false, d') ∨ (q = .ret (true, d') ∧ Srt 0 idk d' a b)) := fun d2 h2 h3 => by
     by_cases c4 : 2 ≤ b - o
     ·rw [decide_eq_true c4, cond_true]
      have p3 := pin3 (i := o) (b := b) (by omega) (b - (o + 1)).toNat d2 (o + 1) (by omega) (by omega) (by rw [h2.len]; exact hb)
      have p4 := h2.trans 0 (p3.mono 0 h0 (by omega) (Int.le_refl _))
      obtain ⟨d', k1, k2⟩ := pin0 h0 x r _ o (j + 1) (by omega) m2 (by rw [p4.len]; exact hb) (by rw [p4.len]; exact hx) (h3.pi 0 idk h0 p3 (.inl (Int.le_refl _))) (hl.pi 0 idk p4)
      exact ⟨d', p4.trans 0 k1, _, rfl, k2⟩
     ·rw [decide_eq_false c4, cond_false]
      obtain ⟨d', k1, k2⟩ := pin0 h0 x r d2 o (j + 1) (by omega) m2 (by rw [h2.len]; exact hb) (by rw [h2.len]; exact hx) h3 (hl.pi 0 idk h2)
      exact ⟨d', h2.trans 0 k1, _, rfl, k2⟩
    by_cases c3 : 2 ≤ o - a
    ·rw [decide_eq_true c3, cond_true]
     have hs1 : Srt 0 idk (swp 0 d o (o - 1)) a (o - 1) := fun p q h1 h2 h3 => by
      rw [p1'.out p (by omega) (by omega), p1'.out q (by omega) (by omega)]; exact m3 p q h1 h2 (by omega)
     obtain ⟨d2, n1, n2, n3⟩ := pin2 (a := a) (e := o) (b := b) h0 m2 (x.length + 1) (swp 0 d o (o - 1)) (o - 1) (by omega) (by omega) (by rw [swp_len]; exact hb) (hl.pi 0 idk p1) (by
      have := Hole.init 0 idk (d := swp 0 d o (o - 1)) (a := a) (i := o - 1) (by omega) hs1
      rwa [show o - 1 + 1 = o by omega] at this)
     rw [n1]
     dsimp only
     obtain ⟨d', k1, q, rfl, k2⟩ := fin d2 (p1.trans 0 (n2.mono 0 h0 (Int.le_refl _) m2)) n3
     exact ⟨d', k1, k2⟩
    ·rw [decide_eq_false c3, cond_false]
     obtain ⟨d', k1, q, rfl, k2⟩ := fin (swp 0 d o (o - 1)) p1 (fun p q h1 h2 h3 => by
      have : p = q := by omega
      subst this; exact Int.le_refl _)
     exact ⟨d', k1, k2⟩
theorem pin_ok {d : List Int} {a b : Int} (h0 : 0 ≤ a) (hab : a < b) (hb : b ≤ (d.length : Int)) (hl : LB 0 idk d a b) : PI 0 d (sc_partialInsertionSortOrdered_int d a b).2 a b ∧ ((sc_partialInsertionSortOrdered_int d a b).1 = true → Srt 0 idk (sc_partialInsertionSortOrdered_int d a b).2 a b) := by
 obtain ⟨d', k1, k2⟩ := pin0 (a := a) (b := b) h0 d 5 d (a + 1) 0 (by omega) (by omega) hb rfl (fun p q h1 h2 h3 => by
  have : p = q := by omega
  subst this; exact Int.le_refl _) hl
 unfold sc_partialInsertionSortOrdered_int
 rcases k2 with k2 | k2 | ⟨k2, k3⟩ <;> rw [k2]
 ·exact ⟨k1, fun h => by cases h⟩
 ·exact ⟨k1, fun h => by cases h⟩
 ·exact ⟨k1, fun _ => k3⟩
theorem pin2_t : ∀ (r : Nat) (d : List Int) (j : Int), j < (r : Int) → 0 < r → sc_partialInsertionSortOrdered_int_L2 r d j ≠ .oof
 | 0, d, j, hr, hr0 => by omega
 | r + 1, d, j, hr, hr0 => by
  rw [sc_partialInsertionSortOrdered_int_L2]
  by_cases c : 1 ≤ j
  ·simp only [decide_eq_true c, cond_true]
   cases cmp_Less_int (d.getD j.toNat 0) (d.getD (j - 1).toNat 0)
   ·intro h; cases h
   ·exact pin2_t r _ _ (by omega) (by omega)
  ·rw [decide_eq_false c]; intro h; cases h
theorem pin2_l : ∀ (r : Nat) (d : List Int) (j : Int), j < (r : Int) → 0 < r → ∃ d', sc_partialInsertionSortOrdered_int_L2 r d j = .brk d' ∧ d'.length = d.length
 | 0, d, j, hr, hr0 => by omega
 | r + 1, d, j, hr, hr0 => by
  rw [sc_partialInsertionSortOrdered_int_L2]
  by_cases c : 1 ≤ j
  ·simp only [decide_eq_true c, cond_true]
   cases cmp_Less_int (d.getD j.toNat 0) (d.getD (j - 1).toNat 0)
   ·exact ⟨d, rfl, rfl⟩
   ·obtain ⟨d', k1, k2⟩ := pin2_l r ((d.set j.toNat (d.getD (j - 1).toNat 0)).set (j - 1).toNat (d.getD j.toNat 0)) (j - 1) (by omega) (by omega)
    exact ⟨d', k1, by rw [k2]; simp⟩
  ·rw [decide_eq_false c]; exact ⟨d, rfl, rfl⟩
theorem pin3_l : ∀ (r : Nat) (d : List Int) (j : Int), (sc_partialInsertionSortOrdered_int_L3 r d j).length = d.length
 | 0, d, j => by rw [sc_partialInsertionSortOrdered_int_L3]
 | r + 1, d, j => by
  rw [sc_partialInsertionSortOrdered_int_L3]
  try dsimp only
  cases cmp_Less_int (d.getD j.toNat 0) (d.getD (j - 1).toNat 0)
  ·rfl
  ·show (sc_partialInsertionSortOrdered_int_L3 r _ (j + 1)).length = _
   rw [pin3_l r]; simp
theorem pin1_r {b : Int} (d : List Int) : ∀ (r : Nat) (i : Int), (r : Int) = b - i → i ≤ sc_partialInsertionSortOrdered_int_L1 d r i ∧ sc_partialInsertionSortOrdered_int_L1 d r i ≤ b
 | 0, i, hr => by rw [sc_partialInsertionSortOrdered_int_L1]; omega
 | r + 1, i, hr => by
  rw [sc_partialInsertionSortOrdered_int_L1]
  try dsimp only
  cases cmp_Less_int (d.getD i.toNat 0) (d.getD (i - 1).toNat 0)
  ·have := pin1_r (b := b) d r (i + 1) (by omega)
   rw [Bool.not_false, cond_true]; omega
  ·rw [Bool.not_true, cond_false]; omega
theorem pin0_l {a b : Int} (x : List Int) (hb : b ≤ (x.length : Int)) : ∀ (r : Nat) (d : List Int) (i j : Int), i ≤ b → d.length = x.length → ∃ d', d'.length = x.length ∧ (sc_partialInsertionSortOrdered_int_L0 x a b r d i j = .brk d' ∨ ∃ t, sc_partialInsertionSortOrdered_int_L0 x a b r d i j = .ret (t, d'))
 | 0, d, i, j, hib, hx => ⟨d, hx, .inl (by rw [sc_partialInsertionSortOrdered_int_L0])⟩
 | r + 1, d, i, j, hib, hx => by
  rw [sc_partialInsertionSortOrdered_int_L0]
  try dsimp only
  obtain ⟨m1, m2⟩ := pin1_r (b := b) d (b - i).toNat i (by omega)
  generalize sc_partialInsertionSortOrdered_int_L1 d (b - i).toNat i = o at *
  have fin : ∀ d2 : List Int, d2.length = x.length → ∃ d', d'.length = x.length ∧ ((bif decide (2 ≤ b - o) then sc_partialInsertionSortOrdered_int_L0 x a b r (sc_partialInsertionSortOrdered_int_L3 (b - (o + 1)).toNat d2 (o + 1)) o (j + 1) else sc_partialInsertionSortOrdered_int_L0 x a b r d2 o (j + 1)) = .brk d' ∨
    ∃ t, (bif decide (2 ≤ b - o) then sc_partialInsertionSortOrdered_int_L0 x a b r (sc_partialInsertionSortOrdered_int_L3 (b - (o + 1)).toNat d2 (o + 1)) o (j + 1) else sc_partialInsertionSortOrdered_int_L0 x a b r d2 o (j + 1)) = .ret (t, d')) := fun d2 h2 => by
   cases decide (2 ≤ b - o)
   ·exact pin0_l x hb r _ _ _ m2 h2
   ·exact pin0_l x hb r _ _ _ m2 (by rw [pin3_l]; exact h2)
  cases o == b
  ·cases decide (b - a < 50)
   ·cases decide (2 ≤ o - a)
    ·exact fin _ (by simp [hx])
    ·obtain ⟨d2, k1, k2⟩ := pin2_l (x.length + 1) ((d.set o.toNat (d.getD (o - 1).toNat 0)).set (o - 1).toNat (d.getD o.toNat 0)) (o - 1) (by omega) (by omega)
     simp only [cond_false, cond_true]
     rw [k1]
     exact fin d2 (by rw [k2]; simp [hx])
   ·exact ⟨d, hx, .inr ⟨false, rfl⟩⟩
  ·exact ⟨d, hx, .inr ⟨true, rfl⟩⟩
theorem pin_l {d : List Int} {a b : Int} (hab : a < b) (hb : b ≤ (d.length : Int)) : (sc_partialInsertionSortOrdered_int d a b).2.length = d.length := by
 obtain ⟨d', k1, k2⟩ := pin0_l (a := a) (b := b) d hb 5 d (a + 1) 0 (by omega) rfl
 unfold sc_partialInsertionSortOrdered_int
 rcases k2 with k2 | ⟨t, k2⟩ <;> rw [k2] <;> exact k1
theorem pe1 (a : Int) (d : List Int) (j : Int) : ∀ (r : Nat) (i : Int), j + 1 - i < (r : Int) → 0 < r → ∃ i', sc_partitionEqualOrdered_int_L1 a d j r i = .brk i' ∧ i ≤ i' ∧ (i' ≤ j + 1 ∨ i' = i) ∧ (∀ k, i ≤ k → k < i' → gi 0 d k ≤ gi 0 d a) ∧ (i' ≤ j → gi 0 d a < gi 0 d i')
 | 0, i, h, h0 => by omega
 | r + 1, i, h, h0 => by
  rw [sc_partitionEqualOrdered_int_L1]
  simp only [Less_eq']
  by_cases c : i ≤ j
  ·simp only [decide_eq_true c, cond_true]
   by_cases s : d.getD a.toNat 0 < d.getD i.toNat 0
   ·simp only [decide_eq_true s, Bool.not_true, cond_false]
    exact ⟨i, rfl, Int.le_refl _, .inr rfl, fun k h1 h2 => by omega, fun _ => s⟩
   ·simp only [decide_eq_false s, Bool.not_false, cond_true]
    obtain ⟨i', m1, m2, m3, m4, m5⟩ := pe1 a d j r (i + 1) (by omega) (by omega)
    refine ⟨i', m1, by omega, .inl (by omega), fun k h1 h2 => ?_, m5⟩
    by_cases e : k = i
    ·subst e; show d.getD k.toNat 0 ≤ d.getD a.toNat 0; omega
    ·exact m4 k (by omega) h2
  ·simp only [decide_eq_false c, cond_false]
   exact ⟨i, rfl, Int.le_refl _, .inr rfl, fun k h1 h2 => by omega, fun h => by omega⟩
theorem pe2 (a : Int) (d : List Int) (i : Int) : ∀ (r : Nat) (j : Int), j + 1 - i < (r : Int) → 0 < r → ∃ j', sc_partitionEqualOrdered_int_L2 a d i r j = .brk j' ∧ j' ≤ j ∧ (i - 1 ≤ j' ∨ j' = j) ∧ (∀ k, j' < k → k ≤ j → gi 0 d a < gi 0 d k) ∧ (i ≤ j' → gi 0 d j' ≤ gi 0 d a)
 | 0, j, h, h0 => by omega
 | r + 1, j, h, h0 => by
  rw [sc_partitionEqualOrdered_int_L2]
  simp only [Less_eq']
  by_cases c : i ≤ j
  ·simp only [decide_eq_true c, cond_true]
   by_cases s : d.getD a.toNat 0 < d.getD j.toNat 0
   ·simp only [decide_eq_true s, cond_true]
    obtain ⟨j', m1, m2, m3, m4, m5⟩ := pe2 a d i r (j - 1) (by omega) (by omega)
    refine ⟨j', m1, by omega, .inl (by omega), fun k h1 h2 => ?_, m5⟩
    by_cases e : k = j
    ·subst e; exact s
    ·exact m4 k h1 (by omega)
   ·simp only [decide_eq_false s, cond_false]
    exact ⟨j, rfl, Int.le_refl _, .inr rfl, fun k h1 h2 => by omega, fun _ => by show d.getD j.toNat 0 ≤ d.getD a.toNat 0; omega⟩
  ·simp only [decide_eq_false c, cond_false]
   exact ⟨j, rfl, Int.le_refl _, .inr rfl, fun k h1 h2 => by omega, fun h => by omega⟩
theorem pe0 {a b : Int} (h0 : 0 ≤ a) : ∀ (r : Nat) (d : List Int) (i j : Int), j + 1 - i < (r : Int) → 0 < r → a + 1 ≤ i → i ≤ b → i ≤ j + 2 → j ≤ b - 1 → b ≤ (d.length : Int) →
  (∀ k, a ≤ k → k < i → gi 0 d k ≤ gi 0 d a) → (∀ k, j < k → k < b → gi 0 d a < gi 0 d k) →
  ∃ d' i', sc_partitionEqualOrdered_int_L0 a b r d i j = .brk (d', i') ∧ a + 1 ≤ i' ∧ i' ≤ b ∧ PI 0 d d' a b ∧ gi 0 d' a = gi 0 d a ∧ (∀ k, a ≤ k → k < i' → gi 0 d' k ≤ gi 0 d' a) ∧ (∀ k, i' ≤ k → k < b → gi 0 d' a < gi 0 d' k)
 | 0, d, i, j, hr, hr0, hi, hib, hij, hj, hb, hA, hB => by omega
 | r + 1, d, i, j, hr, hr0, hi, hib, hij, hj, hb, hA, hB => by
  rw [sc_partitionEqualOrdered_int_L0]
  obtain ⟨i', m1, m2, m3, m4, m5⟩ := pe1 a d j ((b - a).toNat + 2) i (by omega) (by omega)
  obtain ⟨j', n1, n2, n3, n4, n5⟩ := pe2 a d i' ((b - a).toNat + 2) j (by omega) (by omega)
  rw [m1]; dsimp only; rw [n1]; dsimp only
  have hA' : ∀ k, a ≤ k → k < i' → gi 0 d k ≤ gi 0 d a := fun k h1 h2 => by
   by_cases e : k < i
   ·exact hA k h1 e
   ·exact m4 k (by omega) h2
  have hB' : ∀ k, j' < k → k < b → gi 0 d a < gi 0 d k := fun k h1 h2 => by
   by_cases e : j < k
   ·exact hB k e h2
   ·exact n4 k h1 (by omega)
  by_cases c : j' < i'
  ·simp only [decide_eq_true c, cond_true]
   exact ⟨d, i', rfl, by omega, by omega, PI.refl _ _ _ _, rfl, hA', fun k h1 h2 => hB' k (by omega) h2⟩
  ·simp only [decide_eq_false c, cond_false]
   have hl : i' ≠ j' := fun e => by have := m5 (by omega); have := n5 (by omega); subst e; omega
   have g : ∀ k, 0 ≤ k → gi 0 (swp 0 d i' j') k = if k = j' then gi 0 d i' else if k = i' then gi 0 d j' else gi 0 d k := fun k hk => swp_gi 0 ⟨by omega, by omega⟩ ⟨by omega, by omega⟩ hk
   have p1 := PI.swp 0 (d := d) (a := a) (b := b) (i := i') (j := j') h0 hb (by omega) (by omega)
   have ga : gi 0 (swp 0 d i' j') a = gi 0 d a := by rw [g a h0, if_neg (by omega), if_neg (by omega)]
   obtain ⟨d', q, k1, k2, k3, k4, k5, k6, k7⟩ := pe0 (b := b) h0 r (swp 0 d i' j') (i' + 1) (j' - 1) (by omega) (by omega) (by omega) (by omega) (by omega) (by omega) (by rw [swp_len]; exact hb)
    (fun k h1 h2 => by
     rw [ga, g k (by omega), if_neg (by omega)]
     by_cases e : k = i'
     ·rw [if_pos e]; exact n5 (by omega)
     ·rw [if_neg e]; exact hA' k h1 (by omega))
    (fun k h1 h2 => by
     rw [ga, g k (by omega)]
     by_cases e : k = j'
     ·rw [if_pos e]; exact m5 (by omega)
     ·rw [if_neg e, if_neg (by omega)]; exact hB' k (by omega) h2)
   exact ⟨d', q, k1, k2, k3, p1.trans 0 k4, k5.trans ga, k6, k7⟩
theorem pe_ok {d : List Int} {a b p : Int} (h0 : 0 ≤ a) (hp : a ≤ p ∧ p < b) (hb : b ≤ (d.length : Int)) : ∀ {r : Int × List Int}, sc_partitionEqualOrdered_int d a b p = r →
  a < r.1 ∧ r.1 ≤ b ∧ PI 0 d r.2 a b ∧ gi 0 r.2 a = gi 0 d p ∧ (∀ k, a ≤ k → k < r.1 → gi 0 r.2 k ≤ gi 0 d p) ∧ (∀ k, r.1 ≤ k → k < b → gi 0 d p < gi 0 r.2 k) := fun {r} h => by
 subst h
 have g : ∀ k, 0 ≤ k → gi 0 (swp 0 d a p) k = if k = p then gi 0 d a else if k = a then gi 0 d p else gi 0 d k := fun k hk => swp_gi 0 ⟨by omega, by omega⟩ ⟨by omega, by omega⟩ hk
 have ga : gi 0 (swp 0 d a p) a = gi 0 d p := by
  rw [g a h0]
  by_cases e : a = p
  ·rw [if_pos e, e]
  ·rw [if_neg e, if_pos rfl]
 obtain ⟨d', q, k1, k2, k3, k4, k5, k6, k7⟩ := pe0 (b := b) h0 ((b - a).toNat + 2) (swp 0 d a p) (a + 1) (b - 1) (by omega) (by omega) (by omega) (by omega) (by omega) (by omega) (by rw [swp_len]; exact hb)
  (fun k h1 h2 => by rw [show k = a by omega]; exact Int.le_refl _) (fun k h1 h2 => by omega)
 unfold sc_partitionEqualOrdered_int
 have p1 := PI.swp 0 (d := d) (a := a) (b := b) (i := a) (j := p) h0 hb (by omega) (by omega)
 have e : (d.set a.toNat (d.getD p.toNat 0)).set p.toNat (d.getD a.toNat 0) = swp 0 d a p := rfl
 rw [e, k1]
 rw [k5, ga] at k6 k7
 exact ⟨by show a < q; omega, k3, p1.trans 0 k4, k5.trans ga, k6, k7⟩
theorem pe1_t {a : Int} {d : List Int} {j : Int} {r : Nat} {i : Int} (h : j + 1 - i < (r : Int)) (h0 : 0 < r) : sc_partitionEqualOrdered_int_L1 a d j r i ≠ .oof := by
 obtain ⟨_, e, _⟩ := pe1 a d j r i h h0; exact brk_ne e
theorem pe2_t {a : Int} {d : List Int} {i : Int} {r : Nat} {j : Int} (h : j + 1 - i < (r : Int)) (h0 : 0 < r) : sc_partitionEqualOrdered_int_L2 a d i r j ≠ .oof := by
 obtain ⟨_, e, _⟩ := pe2 a d i r j h h0; exact brk_ne e
theorem pe0_t {a b : Int} : ∀ (r : Nat) (d : List Int) (i j : Int), j + 1 - i < (r : Int) → 0 < r → a + 1 ≤ i → i ≤ j + 2 → j ≤ b - 1 → sc_partitionEqualOrdered_int_L0 a b r d i j ≠ .oof
 | 0, d, i, j, hr, hr0, hi, hij, hj => by omega
 | r + 1, d, i, j, hr, hr0, hi, hij, hj => by
  rw [sc_partitionEqualOrdered_int_L0]
  obtain ⟨i', m1, m2, m3, m4, m5⟩ := pe1 a d j ((b - a).toNat + 2) i (by omega) (by omega)
  obtain ⟨j', n1, n2, n3, n4, n5⟩ := pe2 a d i' ((b - a).toNat + 2) j (by omega) (by omega)
  rw [m1]; dsimp only; rw [n1]; dsimp only
  by_cases c : j' < i'
  ·rw [decide_eq_true c]; intro h; cases h
  ·rw [decide_eq_false c, cond_false]; exact pe0_t r _ _ _ (by omega) (by omega) (by omega) (by omega) (by omega)
theorem pt3 (a : Int) (d : List Int) (j : Int) : ∀ (r : Nat) (i : Int), j + 1 - i < (r : Int) → 0 < r → ∃ i', sc_partitionOrdered_int_L3 a d j r i = .brk i' ∧ i ≤ i' ∧ (i' ≤ j + 1 ∨ i' = i) ∧ (∀ k, i ≤ k → k < i' → gi 0 d k < gi 0 d a) ∧ (i' ≤ j → gi 0 d a ≤ gi 0 d i')
 | 0, i, h, h0 => by omega
 | r + 1, i, h, h0 => by
  rw [sc_partitionOrdered_int_L3]
  simp only [Less_eq']
  by_cases c : i ≤ j
  ·simp only [decide_eq_true c, cond_true]
   by_cases s : d.getD i.toNat 0 < d.getD a.toNat 0
   ·simp only [decide_eq_true s, cond_true]
    obtain ⟨i', m1, m2, m3, m4, m5⟩ := pt3 a d j r (i + 1) (by omega) (by omega)
    refine ⟨i', m1, by omega, .inl (by omega), fun k h1 h2 => ?_, m5⟩
    by_cases e : k = i
    ·subst e; exact s
    ·exact m4 k (by omega) h2
   ·simp only [decide_eq_false s, cond_false]
    exact ⟨i, rfl, Int.le_refl _, .inr rfl, fun k h1 h2 => by omega, fun _ => by show d.getD a.toNat 0 ≤ d.getD i.toNat 0; omega⟩
  ·simp only [decide_eq_false c, cond_false]
   exact ⟨i, rfl, Int.le_refl _, .inr rfl, fun k h1 h2 => by omega, fun h => by omega⟩
theorem pt4 (a : Int) (d : List Int) (i : Int) : ∀ (r : Nat) (j : Int), j + 1 - i < (r : Int) → 0 < r → ∃ j', sc_partitionOrdered_int_L4 a d i r j = .brk j' ∧ j' ≤ j ∧ (i - 1 ≤ j' ∨ j' = j) ∧ (∀ k, j' < k → k ≤ j → gi 0 d a ≤ gi 0 d k) ∧ (i ≤ j' → gi 0 d j' < gi 0 d a)
 | 0, j, h, h0 => by omega
 | r + 1, j, h, h0 => by
  rw [sc_partitionOrdered_int_L4]
  simp only [Less_eq']
  by_cases c : i ≤ j
  ·simp only [decide_eq_true c, cond_true]
   by_cases s : d.getD j.toNat 0 < d.getD a.toNat 0
   ·simp only [decide_eq_true s, Bool.not_true, cond_false]
    exact ⟨j, rfl, Int.le_refl _, .inr rfl, fun k h1 h2 => by omega, fun _ => s⟩
   ·simp only [decide_eq_false s, Bool.not_false, cond_true]
    obtain ⟨j', m1, m2, m3, m4, m5⟩ := pt4 a d i r (j - 1) (by omega) (by omega)
    refine ⟨j', m1, by omega, .inl (by omega), fun k h1 h2 => ?_, m5⟩
    by_cases e : k = j
    ·subst e; show d.getD a.toNat 0 ≤ d.getD k.toNat 0; omega
    ·exact m4 k h1 (by omega)
  ·simp only [decide_eq_false c, cond_false]
   exact ⟨j, rfl, Int.le_refl _, .inr rfl, fun k h1 h2 => by omega, fun h => by omega⟩
theorem pt0_eq (d : List Int) (a b p : Int) : ∀ (r : Nat) (i : Int), sc_partitionOrdered_int_L0 d a b p r i = sc_partitionOrdered_int_L3 a (swp 0 d a p) (b - 1) r i
 | 0, i => by rw [sc_partitionOrdered_int_L0, sc_partitionOrdered_int_L3]
 | r + 1, i => by rw [sc_partitionOrdered_int_L0, sc_partitionOrdered_int_L3, pt0_eq d a b p r]; rfl
theorem pt1_eq (d : List Int) (a p i : Int) : ∀ (r : Nat) (j : Int), sc_partitionOrdered_int_L1 d a p i r j = sc_partitionOrdered_int_L4 a (swp 0 d a p) i r j
 | 0, j => by rw [sc_partitionOrdered_int_L1, sc_partitionOrdered_int_L4]
 | r + 1, j => by rw [sc_partitionOrdered_int_L1, sc_partitionOrdered_int_L4, pt1_eq d a p i r]; rfl
theorem pt2 {a b : Int} (h0 : 0 ≤ a) : ∀ (r : Nat) (d : List Int) (i j : Int), j + 1 - i < (r : Int) → 0 < r → a + 1 ≤ i → i ≤ j + 2 → a ≤ j → j ≤ b - 1 → b ≤ (d.length : Int) →
  (∀ k, a < k → k < i → gi 0 d k < gi 0 d a) → (∀ k, j < k → k < b → gi 0 d a ≤ gi 0 d k) →
  ∃ d' j', sc_partitionOrdered_int_L2 a b r d i j = .brk (d', j') ∧ a ≤ j' ∧ j' ≤ b - 1 ∧ PI 0 d d' a b ∧ (∀ k, a < k → k ≤ j' → gi 0 d' k < gi 0 d' a) ∧ (∀ k, j' < k → k < b → gi 0 d' a ≤ gi 0 d' k)
 | 0, d, i, j, hr, hr0, hi, hij, haj, hj, hb, hA, hB => by omega
 | r + 1, d, i, j, hr, hr0, hi, hij, haj, hj, hb, hA, hB => by
  rw [sc_partitionOrdered_int_L2]
  obtain ⟨i', m1, m2, m3, m4, m5⟩ := pt3 a d j ((b - a).toNat + 2) i (by omega) (by omega)
  obtain ⟨j', n1, n2, n3, n4, n5⟩ := pt4 a d i' ((b - a).toNat + 2) j (by omega) (by omega)
  rw [m1]; dsimp only; rw [n1]; dsimp only
  have hA' : ∀ k, a < k → k < i' → gi 0 d k < gi 0 d a := fun k h1 h2 => by
   by_cases e : k < i
   ·exact hA k h1 e
   ·exact m4 k (by omega) h2
  have hB' : ∀ k, j' < k → k < b → gi 0 d a ≤ gi 0 d k := fun k h1 h2 => by
   by_cases e : j < k
   ·exact hB k e h2
   ·exact n4 k h1 (by omega)
  by_cases c : j' < i'
  ·simp only [decide_eq_true c, cond_true]
   exact ⟨d, j', rfl, by omega, by omega, PI.refl _ _ _ _, fun k h1 h2 => hA' k h1 (by omega), hB'⟩
  ·simp only [decide_eq_false c, cond_false]
   have hl : i' ≠ j' := fun e => by have := m5 (by omega); have := n5 (by omega); subst e; omega
   have g : ∀ k, 0 ≤ k → gi 0 (swp 0 d i' j') k = if k = j' then gi 0 d i' else if k = i' then gi 0 d j' else gi 0 d k := fun k hk => swp_gi 0 ⟨by omega, by omega⟩ ⟨by omega, by omega⟩ hk
   have p1 := PI.swp 0 (d := d) (a := a) (b := b) (i := i') (j := j') h0 hb (by omega) (by omega)
   have ga : gi 0 (swp 0 d i' j') a = gi 0 d a := by rw [g a h0, if_neg (by omega), if_neg (by omega)]
   obtain ⟨d', q, k1, k2, k3, k4, k6, k7⟩ := pt2 (b := b) h0 r (swp 0 d i' j') (i' + 1) (j' - 1) (by omega) (by omega) (by omega) (by omega) (by omega) (by omega) (by rw [swp_len]; exact hb)
    (fun k h1 h2 => by
     rw [ga, g k (by omega), if_neg (by omega)]
     by_cases e : k = i'
     ·rw [if_pos e]; exact n5 (by omega)
     ·rw [if_neg e]; exact hA' k h1 (by omega))
    (fun k h1 h2 => by
     rw [ga, g k (by omega)]
     by_cases e : k = j'
     ·rw [if_pos e]; exact m5 (by omega)
     ·rw [if_neg e, if_neg (by omega)]; exact hB' k (by omega) h2)
   exact ⟨d', q, k1, k2, k3, p1.trans 0 k4, k6, k7⟩
theorem pt_ok {d : List Int} {a b p : Int} (h0 : 0 ≤ a) (hp : a ≤ p ∧ p < b) (hb : b ≤ (d.length : Int)) : ∀ {r : Int × Bool × List Int}, sc_partitionOrdered_int d a b p = r →
  a ≤ r.1 ∧ r.1 < b ∧ PI 0 d r.2.2 a b ∧ (∀ k, a ≤ k → k < r.1 → gi 0 r.2.2 k ≤ gi 0 r.2.2 r.1) ∧ (∀ k, r.1 < k → k < b → gi 0 r.2.2 r.1 ≤ gi 0 r.2.2 k) := fun {r} h => by
 subst h
 have p0 := PI.swp 0 (d := d) (a := a) (b := b) (i := a) (j := p) h0 hb (by omega) (by omega)
 have e : (d.set a.toNat (d.getD p.toNat 0)).set p.toNat (d.getD a.toNat 0) = swp 0 d a p := rfl
 unfold sc_partitionOrdered_int
 rw [pt0_eq]
 simp only [pt1_eq, e]
 generalize swp 0 d a p = d0 at p0
 have hb0 : b ≤ (d0.length : Int) := by rw [p0.len]; exact hb
 obtain ⟨i', m1, m2, m3, m4, m5⟩ := pt3 a d0 (b - 1) ((b - a).toNat + 2) (a + 1) (by omega) (by omega)
 rw [m1]; dsimp only
 obtain ⟨j', n1, n2, n3, n4, n5⟩ := pt4 a d0 i' ((b - a).toNat + 2) (b - 1) (by omega) (by omega)
 rw [n1]; dsimp only
 have hA' : ∀ k, a < k → k < i' → gi 0 d0 k < gi 0 d0 a := fun k h1 h2 => m4 k (by omega) h2
 have hB' : ∀ k, j' < k → k < b → gi 0 d0 a ≤ gi 0 d0 k := fun k h1 h2 => n4 k h1 (by omega)
 by_cases c : j' < i'
 ·simp only [decide_eq_true c, cond_true]
  obtain ⟨q1, q2, q3⟩ := pt_end (d := d0) (a := a) (b := b) (m := j') h0 (by omega) hb0 (fun k h1 h2 => hA' k h1 (by omega)) hB'
  exact ⟨by omega, by omega, p0.trans 0 q1, q2, q3⟩
 ·simp only [decide_eq_false c, cond_false]
  have hl : i' ≠ j' := fun e => by have := m5 (by omega); have := n5 (by omega); subst e; omega
  have g : ∀ k, 0 ≤ k → gi 0 (swp 0 d0 i' j') k = if k = j' then gi 0 d0 i' else if k = i' then gi 0 d0 j' else gi 0 d0 k := fun k hk => swp_gi 0 ⟨by omega, by omega⟩ ⟨by omega, by omega⟩ hk
  have p1 := PI.swp 0 (d := d0) (a := a) (b := b) (i := i') (j := j') h0 hb0 (by omega) (by omega)
  have ga : gi 0 (swp 0 d0 i' j') a = gi 0 d0 a := by rw [g a h0, if_neg (by omega), if_neg (by omega)]
  obtain ⟨d', q, k1, k2, k3, k4, k6, k7⟩ := pt2 (b := b) h0 ((b - a).toNat + 2) (swp 0 d0 i' j') (i' + 1) (j' - 1) (by omega) (by omega) (by omega) (by omega) (by omega) (by omega) (by rw [swp_len]; exact hb0)
   (fun k h1 h2 => by
    rw [ga, g k (by omega), if_neg (by omega)]
    by_cases e : k = i'
    ·rw [if_pos e]; exact n5 (by omega)
    ·rw [if_neg e]; exact hA' k h1 (by omega))
   (fun k h1 h2 => by
    rw [ga, g k (by omega)]
    by_cases e : k = j'
    ·rw [if_pos e]; exact m5 (by omega)
    ·rw [if_neg e, if_neg (by omega)]; exact hB' k (by omega) h2)
  have e2 : (d0.set i'.toNat (d0.getD j'.toNat 0)).set j'.toNat (d0.getD i'.toNat 0) = swp 0 d0 i' j' := rfl
  rw [e2, k1]; dsimp only
  obtain ⟨q1, q2, q3⟩ := pt_end (d := d') (a := a) (b := b) (m := q) h0 (by omega) (by rw [k4.len, swp_len]; exact hb0) k6 k7
  exact ⟨by omega, by omega, (p0.trans 0 (p1.trans 0 k4)).trans 0 q1, q2, q3⟩
theorem pt3_t {a : Int} {d : List Int} {j : Int} {r : Nat} {i : Int} (h : j + 1 - i < (r : Int)) (h0 : 0 < r) : sc_partitionOrdered_int_L3 a d j r i ≠ .oof := by
 obtain ⟨_, e, _⟩ := pt3 a d j r i h h0; exact brk_ne e
theorem pt4_t {a : Int} {d : List Int} {i : Int} {r : Nat} {j : Int} (h : j + 1 - i < (r : Int)) (h0 : 0 < r) : sc_partitionOrdered_int_L4 a d i r j ≠ .oof := by
 obtain ⟨_, e, _⟩ := pt4 a d i r j h h0; exact brk_ne e
theorem pt0_t {d : List Int} {a b p : Int} {r : Nat} {i : Int} (h : b - i < (r : Int)) (h0 : 0 < r) : sc_partitionOrdered_int_L0 d a b p r i ≠ .oof := by
 rw [pt0_eq]; exact pt3_t (by omega) h0
theorem pt1_t {d : List Int} {a p i : Int} {r : Nat} {j : Int} (h : j + 1 - i < (r : Int)) (h0 : 0 < r) : sc_partitionOrdered_int_L1 d a p i r j ≠ .oof := by
 rw [pt1_eq]; exact pt4_t h h0
theorem pt2_t {a b : Int} : ∀ (r : Nat) (d : List Int) (i j : Int), j + 1 - i < (r : Int) → 0 < r → a + 1 ≤ i → i ≤ j + 2 → j ≤ b - 1 → sc_partitionOrdered_int_L2 a b r d i j ≠ .oof
 | 0, d, i, j, hr, hr0, hi, hij, hj => by omega
 | r + 1, d, i, j, hr, hr0, hi, hij, hj => by
  rw [sc_partitionOrdered_int_L2]
  obtain ⟨i', m1, m2, m3, m4, m5⟩ := pt3 a d j ((b - a).toNat + 2) i (by omega) (by omega)
  obtain ⟨j', n1, n2, n3, n4, n5⟩ := pt4 a d i' ((b - a).toNat + 2) j (by omega) (by omega)
  rw [m1]; dsimp only; rw [n1]; dsimp only
  by_cases c : j' < i'
  ·rw [decide_eq_true c]; intro h; cases h
  ·rw [decide_eq_false c, cond_false]; exact pt2_t r _ _ _ (by omega) (by omega) (by omega) (by omega) (by omega)
end Go.SL.G
