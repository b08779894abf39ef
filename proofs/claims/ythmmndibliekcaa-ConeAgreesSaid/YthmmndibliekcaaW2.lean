/- Part 2 of the walks: mirrors, plain laws and walks used by the last text of this claim. -/
import Derived.Test.YthmmndibliekcaaW1
import Derived.Test.YthmmndibliekcaaProg
set_option linter.unusedVariables false
set_option linter.unusedSimpArgs false
namespace Go.SL.G
open Go Go.SL Go.Proofs
structure GSet where
  Width : Int
  Words : List (BitVec 64)
instance : Inhabited GSet := ⟨⟨0, []⟩⟩
structure GCopy where
  From : Int
  To : Int
instance : Inhabited GCopy := ⟨⟨0, 0⟩⟩
structure GTransfer where
  Gen : GSet
  Kill : GSet
  Copies : List GCopy
instance : Inhabited GTransfer := ⟨⟨⟨0, []⟩, ⟨0, []⟩, []⟩⟩
structure GSystem where
  Width : Int
  Deps : List (List Int)
  Transfers : List GTransfer
  Boundary : List GSet
instance : Inhabited GSystem := ⟨⟨0, [], [], []⟩⟩
instance rep_GSet : Rep GSet where
  sz := 2
  bytes := 32
  pos := by decide
  bpos := by decide
  rd w M cs x := ∃ c1, cs = [.int .i64 x.Width, c1] ∧ i64ok x.Width ∧ slrd w M c1 x.Words
  len := by rintro w M cs x ⟨c1, rfl, h0, h1⟩; rfl
  one := by
    rintro w M cs x ⟨c1, rfl, h0, h1⟩ v hv
    simp only [List.mem_cons, List.not_mem_nil, or_false] at hv
    rcases hv with rfl | rfl
    all_goals first | rfl | exact slrd_one h1
  st := by
    rintro w M cs x w' M' ⟨c1, rfl, h0, h1⟩ e
    exact ⟨c1, rfl, h0, slrd_st h1 e⟩
theorem JJ_peek_GSet {C : Cx} {X : Act → World → Prop} {L : Env} {A : List SP} {c : Value} {xs : List GSet} (i m : Nat) (hA : A[m]? = some (sl c xs)) (hi : i < xs.length)
    (h : ∀ (a1 : Option Addr) (k1 : Nat), i64ok (xs.getD i default).Width → JJ C X L (pv (eptr 2 c i) [.int .i64 (xs.getD i default).Width, .slice a1 (xs.getD i default).Words.length k1] :: sl (.slice a1 (xs.getD i default).Words.length k1) (xs.getD i default).Words :: A)) : JJ C X L A := by
  refine JJ_peek i m hA hi default fun cs => ?_
  intro a w M F st
  obtain ⟨F1, F2, q1, q2, qd, hp, F3, F4, q3, q4, qd2, hr, hs⟩ := st.sp
  obtain ⟨c1, rfl, h0, h1⟩ := hr
  have g1 := h1
  obtain ⟨_, a1, k1, rfl, _⟩ := h1
  exact h a1 k1 h0 a w M F ⟨st.step, st.sz, st.df, st.sat, F1, F2, q1, q2, qd, hp, ⟨fun _ => False, _, fun _ h => h.elim, fun _ h => h, fun _ h _ => h, g1, sepAll_up hs q4⟩⟩
theorem JJ_peekO_GSet {C : Cx} {X : Act → World → Prop} {L : Env} {A Ar : List SP} {c : Value} {xs : List GSet} (i m : Nat) (ht : take A [m] = some ([os c xs], Ar)) (hi : i < xs.length)
    (h : ∀ (a1 : Option Addr) (k1 : Nat), i64ok (xs.getD i default).Width → JJ C X L (oread c xs i [.int .i64 (xs.getD i default).Width, .slice a1 (xs.getD i default).Words.length k1] :: sl (.slice a1 (xs.getD i default).Words.length k1) (xs.getD i default).Words :: Ar)) : JJ C X L A := by
  refine JJ_peekO (Ac := A) i m ht hi default fun cs => ?_
  intro a w M F st
  obtain ⟨F1, F2, q1, q2, qd, hr, F3, F4, q3, q4, qd2, hp, hs⟩ := st.sp
  obtain ⟨c1, rfl, h0, h1⟩ := hr
  have g1 := h1
  obtain ⟨_, a1, k1, rfl, _⟩ := h1
  exact h a1 k1 h0 a w M F ⟨st.step, st.sz, st.df, st.sat, F3, F4, fun b h => q2 b (q3 b h), fun b h => q2 b (q4 b h), qd2, hp, ⟨fun _ => False, F4, fun _ h => h.elim, fun _ h => h, fun _ h _ => h, g1, hs⟩⟩
instance rep_GCopy : Rep GCopy where
  sz := 2
  bytes := 16
  pos := by decide
  bpos := by decide
  rd w M cs x := cs = [.int .i64 x.From, .int .i64 x.To] ∧ i64ok x.From ∧ i64ok x.To
  len := by rintro w M cs x ⟨rfl, h0, h1⟩; rfl
  one := by
    rintro w M cs x ⟨rfl, h0, h1⟩ v hv
    simp only [List.mem_cons, List.not_mem_nil, or_false] at hv
    rcases hv with rfl | rfl
    all_goals first | rfl
  st := by
    rintro w M cs x w' M' ⟨rfl, h0, h1⟩ e
    exact ⟨rfl, h0, h1⟩
theorem JJ_peek_GCopy {C : Cx} {X : Act → World → Prop} {L : Env} {A : List SP} {c : Value} {xs : List GCopy} (i m : Nat) (hA : A[m]? = some (sl c xs)) (hi : i < xs.length)
    (h : i64ok (xs.getD i default).From → i64ok (xs.getD i default).To → JJ C X L (pv (eptr 2 c i) [.int .i64 (xs.getD i default).From, .int .i64 (xs.getD i default).To] :: A)) : JJ C X L A := by
  refine JJ_peek i m hA hi default fun cs => ?_
  intro a w M F st
  obtain ⟨F1, F2, q1, q2, qd, hp, F3, F4, q3, q4, qd2, hr, hs⟩ := st.sp
  obtain ⟨rfl, h0, h1⟩ := hr
  exact h h0 h1 a w M F ⟨st.step, st.sz, st.df, st.sat, F1, F2, q1, q2, qd, hp, sepAll_up hs q4⟩
theorem JJ_peekO_GCopy {C : Cx} {X : Act → World → Prop} {L : Env} {A Ar : List SP} {c : Value} {xs : List GCopy} (i m : Nat) (ht : take A [m] = some ([os c xs], Ar)) (hi : i < xs.length)
    (h : i64ok (xs.getD i default).From → i64ok (xs.getD i default).To → JJ C X L (oread c xs i [.int .i64 (xs.getD i default).From, .int .i64 (xs.getD i default).To] :: Ar)) : JJ C X L A := by
  refine JJ_peekO (Ac := A) i m ht hi default fun cs => ?_
  intro a w M F st
  obtain ⟨F1, F2, q1, q2, qd, hr, F3, F4, q3, q4, qd2, hp, hs⟩ := st.sp
  obtain ⟨rfl, h0, h1⟩ := hr
  exact h h0 h1 a w M F ⟨st.step, st.sz, st.df, st.sat, F3, F4, fun b h => q2 b (q3 b h), fun b h => q2 b (q4 b h), qd2, hp, hs⟩
instance rep_GTransfer : Rep GTransfer where
  sz := 5
  bytes := 88
  pos := by decide
  bpos := by decide
  rd w M cs x := ∃ c1 c3 c4, cs = [.int .i64 x.Gen.Width, c1, .int .i64 x.Kill.Width, c3, c4] ∧ i64ok x.Gen.Width ∧ slrd w M c1 x.Gen.Words ∧ i64ok x.Kill.Width ∧ slrd w M c3 x.Kill.Words ∧ slrd w M c4 x.Copies
  len := by rintro w M cs x ⟨c1, c3, c4, rfl, h0, h1, h2, h3, h4⟩; rfl
  one := by
    rintro w M cs x ⟨c1, c3, c4, rfl, h0, h1, h2, h3, h4⟩ v hv
    simp only [List.mem_cons, List.not_mem_nil, or_false] at hv
    rcases hv with rfl | rfl | rfl | rfl | rfl
    all_goals first | rfl | exact slrd_one h1 | exact slrd_one h3 | exact slrd_one h4
  st := by
    rintro w M cs x w' M' ⟨c1, c3, c4, rfl, h0, h1, h2, h3, h4⟩ e
    exact ⟨c1, c3, c4, rfl, h0, slrd_st h1 e, h2, slrd_st h3 e, slrd_st h4 e⟩
theorem JJ_peek_GTransfer {C : Cx} {X : Act → World → Prop} {L : Env} {A : List SP} {c : Value} {xs : List GTransfer} (i m : Nat) (hA : A[m]? = some (sl c xs)) (hi : i < xs.length)
    (h : ∀ (a1 : Option Addr) (k1 : Nat) (a3 : Option Addr) (k3 : Nat) (a4 : Option Addr) (k4 : Nat), i64ok ((xs.getD i default).Gen).Width → i64ok ((xs.getD i default).Kill).Width → JJ C X L (pv (eptr 5 c i) [.int .i64 ((xs.getD i default).Gen).Width, .slice a1 ((xs.getD i default).Gen).Words.length k1, .int .i64 ((xs.getD i default).Kill).Width, .slice a3 ((xs.getD i default).Kill).Words.length k3, .slice a4 (xs.getD i default).Copies.length k4] :: sl (.slice a1 ((xs.getD i default).Gen).Words.length k1) ((xs.getD i default).Gen).Words :: sl (.slice a3 ((xs.getD i default).Kill).Words.length k3) ((xs.getD i default).Kill).Words :: sl (.slice a4 (xs.getD i default).Copies.length k4) (xs.getD i default).Copies :: A)) : JJ C X L A := by
  refine JJ_peek i m hA hi default fun cs => ?_
  intro a w M F st
  obtain ⟨F1, F2, q1, q2, qd, hp, F3, F4, q3, q4, qd2, hr, hs⟩ := st.sp
  obtain ⟨c1, c3, c4, rfl, h0, h1, h2, h3, h4⟩ := hr
  have g1 := h1
  obtain ⟨_, a1, k1, rfl, _⟩ := h1
  have g3 := h3
  obtain ⟨_, a3, k3, rfl, _⟩ := h3
  have g4 := h4
  obtain ⟨_, a4, k4, rfl, _⟩ := h4
  exact h a1 k1 a3 k3 a4 k4 h0 h2 a w M F ⟨st.step, st.sz, st.df, st.sat, F1, F2, q1, q2, qd, hp, ⟨fun _ => False, _, fun _ h => h.elim, fun _ h => h, fun _ h _ => h, g1, ⟨fun _ => False, _, fun _ h => h.elim, fun _ h => h, fun _ h _ => h, g3, ⟨fun _ => False, _, fun _ h => h.elim, fun _ h => h, fun _ h _ => h, g4, sepAll_up hs q4⟩⟩⟩⟩
theorem JJ_peekO_GTransfer {C : Cx} {X : Act → World → Prop} {L : Env} {A Ar : List SP} {c : Value} {xs : List GTransfer} (i m : Nat) (ht : take A [m] = some ([os c xs], Ar)) (hi : i < xs.length)
    (h : ∀ (a1 : Option Addr) (k1 : Nat) (a3 : Option Addr) (k3 : Nat) (a4 : Option Addr) (k4 : Nat), i64ok ((xs.getD i default).Gen).Width → i64ok ((xs.getD i default).Kill).Width → JJ C X L (oread c xs i [.int .i64 ((xs.getD i default).Gen).Width, .slice a1 ((xs.getD i default).Gen).Words.length k1, .int .i64 ((xs.getD i default).Kill).Width, .slice a3 ((xs.getD i default).Kill).Words.length k3, .slice a4 (xs.getD i default).Copies.length k4] :: sl (.slice a1 ((xs.getD i default).Gen).Words.length k1) ((xs.getD i default).Gen).Words :: sl (.slice a3 ((xs.getD i default).Kill).Words.length k3) ((xs.getD i default).Kill).Words :: sl (.slice a4 (xs.getD i default).Copies.length k4) (xs.getD i default).Copies :: Ar)) : JJ C X L A := by
  refine JJ_peekO (Ac := A) i m ht hi default fun cs => ?_
  intro a w M F st
  obtain ⟨F1, F2, q1, q2, qd, hr, F3, F4, q3, q4, qd2, hp, hs⟩ := st.sp
  obtain ⟨c1, c3, c4, rfl, h0, h1, h2, h3, h4⟩ := hr
  have g1 := h1
  obtain ⟨_, a1, k1, rfl, _⟩ := h1
  have g3 := h3
  obtain ⟨_, a3, k3, rfl, _⟩ := h3
  have g4 := h4
  obtain ⟨_, a4, k4, rfl, _⟩ := h4
  exact h a1 k1 a3 k3 a4 k4 h0 h2 a w M F ⟨st.step, st.sz, st.df, st.sat, F3, F4, fun b h => q2 b (q3 b h), fun b h => q2 b (q4 b h), qd2, hp, ⟨fun _ => False, F4, fun _ h => h.elim, fun _ h => h, fun _ h _ => h, g1, ⟨fun _ => False, F4, fun _ h => h.elim, fun _ h => h, fun _ h _ => h, g3, ⟨fun _ => False, F4, fun _ h => h.elim, fun _ h => h, fun _ h _ => h, g4, hs⟩⟩⟩⟩
instance rep_GSystem : Rep GSystem where
  sz := 4
  bytes := 80
  pos := by decide
  bpos := by decide
  rd w M cs x := ∃ c1 c2 c3, cs = [.int .i64 x.Width, c1, c2, c3] ∧ i64ok x.Width ∧ slrd w M c1 x.Deps ∧ slrd w M c2 x.Transfers ∧ slrd w M c3 x.Boundary
  len := by rintro w M cs x ⟨c1, c2, c3, rfl, h0, h1, h2, h3⟩; rfl
  one := by
    rintro w M cs x ⟨c1, c2, c3, rfl, h0, h1, h2, h3⟩ v hv
    simp only [List.mem_cons, List.not_mem_nil, or_false] at hv
    rcases hv with rfl | rfl | rfl | rfl
    all_goals first | rfl | exact slrd_one h1 | exact slrd_one h2 | exact slrd_one h3
  st := by
    rintro w M cs x w' M' ⟨c1, c2, c3, rfl, h0, h1, h2, h3⟩ e
    exact ⟨c1, c2, c3, rfl, h0, slrd_st h1 e, slrd_st h2 e, slrd_st h3 e⟩
theorem JJ_peek_GSystem {C : Cx} {X : Act → World → Prop} {L : Env} {A : List SP} {c : Value} {xs : List GSystem} (i m : Nat) (hA : A[m]? = some (sl c xs)) (hi : i < xs.length)
    (h : ∀ (a1 : Option Addr) (k1 : Nat) (a2 : Option Addr) (k2 : Nat) (a3 : Option Addr) (k3 : Nat), i64ok (xs.getD i default).Width → JJ C X L (pv (eptr 4 c i) [.int .i64 (xs.getD i default).Width, .slice a1 (xs.getD i default).Deps.length k1, .slice a2 (xs.getD i default).Transfers.length k2, .slice a3 (xs.getD i default).Boundary.length k3] :: sl (.slice a1 (xs.getD i default).Deps.length k1) (xs.getD i default).Deps :: sl (.slice a2 (xs.getD i default).Transfers.length k2) (xs.getD i default).Transfers :: sl (.slice a3 (xs.getD i default).Boundary.length k3) (xs.getD i default).Boundary :: A)) : JJ C X L A := by
  refine JJ_peek i m hA hi default fun cs => ?_
  intro a w M F st
  obtain ⟨F1, F2, q1, q2, qd, hp, F3, F4, q3, q4, qd2, hr, hs⟩ := st.sp
  obtain ⟨c1, c2, c3, rfl, h0, h1, h2, h3⟩ := hr
  have g1 := h1
  obtain ⟨_, a1, k1, rfl, _⟩ := h1
  have g2 := h2
  obtain ⟨_, a2, k2, rfl, _⟩ := h2
  have g3 := h3
  obtain ⟨_, a3, k3, rfl, _⟩ := h3
  exact h a1 k1 a2 k2 a3 k3 h0 a w M F ⟨st.step, st.sz, st.df, st.sat, F1, F2, q1, q2, qd, hp, ⟨fun _ => False, _, fun _ h => h.elim, fun _ h => h, fun _ h _ => h, g1, ⟨fun _ => False, _, fun _ h => h.elim, fun _ h => h, fun _ h _ => h, g2, ⟨fun _ => False, _, fun _ h => h.elim, fun _ h => h, fun _ h _ => h, g3, sepAll_up hs q4⟩⟩⟩⟩
theorem JJ_peekO_GSystem {C : Cx} {X : Act → World → Prop} {L : Env} {A Ar : List SP} {c : Value} {xs : List GSystem} (i m : Nat) (ht : take A [m] = some ([os c xs], Ar)) (hi : i < xs.length)
    (h : ∀ (a1 : Option Addr) (k1 : Nat) (a2 : Option Addr) (k2 : Nat) (a3 : Option Addr) (k3 : Nat), i64ok (xs.getD i default).Width → JJ C X L (oread c xs i [.int .i64 (xs.getD i default).Width, .slice a1 (xs.getD i default).Deps.length k1, .slice a2 (xs.getD i default).Transfers.length k2, .slice a3 (xs.getD i default).Boundary.length k3] :: sl (.slice a1 (xs.getD i default).Deps.length k1) (xs.getD i default).Deps :: sl (.slice a2 (xs.getD i default).Transfers.length k2) (xs.getD i default).Transfers :: sl (.slice a3 (xs.getD i default).Boundary.length k3) (xs.getD i default).Boundary :: Ar)) : JJ C X L A := by
  refine JJ_peekO (Ac := A) i m ht hi default fun cs => ?_
  intro a w M F st
  obtain ⟨F1, F2, q1, q2, qd, hr, F3, F4, q3, q4, qd2, hp, hs⟩ := st.sp
  obtain ⟨c1, c2, c3, rfl, h0, h1, h2, h3⟩ := hr
  have g1 := h1
  obtain ⟨_, a1, k1, rfl, _⟩ := h1
  have g2 := h2
  obtain ⟨_, a2, k2, rfl, _⟩ := h2
  have g3 := h3
  obtain ⟨_, a3, k3, rfl, _⟩ := h3
  exact h a1 k1 a2 k2 a3 k3 h0 a w M F ⟨st.step, st.sz, st.df, st.sat, F3, F4, fun b h => q2 b (q3 b h), fun b h => q2 b (q4 b h), qd2, hp, ⟨fun _ => False, F4, fun _ h => h.elim, fun _ h => h, fun _ h _ => h, g1, ⟨fun _ => False, F4, fun _ h => h.elim, fun _ h => h, fun _ h _ => h, g2, ⟨fun _ => False, F4, fun _ h => h.elim, fun _ h => h, fun _ h _ => h, g3, hs⟩⟩⟩⟩
theorem ofInt_ne (n : Int) (h : 1 ≤ n ∧ n ≤ 9223372036854775807) : BitVec.ofInt 64 n ≠ 0 := by
  intro e
  have := congrArg BitVec.toNat e
  rw [BitVec.toNat_ofInt] at this
  simp at this
  omega
theorem mod_range (v n : Int) (h : 1 ≤ n ∧ n ≤ 9223372036854775807) : 0 ≤ (((BitVec.ofInt 64 v) % (BitVec.ofInt 64 n)).toNat : Int) ∧ (((BitVec.ofInt 64 v) % (BitVec.ofInt 64 n)).toNat : Int) < n := by
  rw [BitVec.toNat_umod, BitVec.toNat_ofInt, BitVec.toNat_ofInt]
  have e : (n % ((2 ^ 64 : Nat) : Int)).toNat = n.toNat := by omega
  rw [e]
  have : (v % ((2 ^ 64 : Nat) : Int)).toNat % n.toNat < n.toNat := Nat.mod_lt _ (by omega)
  omega
theorem mod_le (v n : Int) (h : 1 ≤ n ∧ n ≤ 9223372036854775807) : (((BitVec.ofInt 64 v) % (BitVec.ofInt 64 n)).toNat : Int) ≤ 9223372036854775807 := by
  have := mod_range v n h; omega
theorem getD_all {α : Type} {p : α → Prop} {xs : List α} {d : α} (h : ∀ x ∈ xs, p x) (hd : p d) (i : Nat) : p (xs.getD i d) := by
  rw [List.getD_eq_getElem?_getD]
  cases hx : xs[i]? with
  | none => exact hd
  | some x => exact h x (List.mem_of_getElem? hx)
/-! flowquery/flqgen.New -/
def flqgen_New (l : List Int) : Unit :=
  ()
/-! flowquery/flqgen.Mod -/
def flqgen_Mod (v : Int) (n : Int) : Int :=
  (((BitVec.ofInt 64 v) % (BitVec.ofInt 64 n)).toNat : Int)
/-! (*flowquery/flqgen.Tape).Next -/
def Tape_Next (tT : List Int) (tI : Int) (n : Int) : Int × Int :=
  bif decide (n ≤ 1) then
    (0, tI)
  else
    bif decide (((tT.length : Nat) : Int) ≤ tI) then
      (0, tI)
    else
      let rv8 := (flqgen_Mod (tT.getD (((tI + 1) - 1) : Int).toNat 0) n)
      (rv8, (tI + 1))
/-! flowquery/flqref7.Insert -/
def flqref7_Insert_L0 (l : List Int) (n : Int) : Nat → Int → Int
  | 0, i =>
    i
  | r + 1, i =>
    bif decide ((l.getD (i : Int).toNat 0) < n) then
      flqref7_Insert_L0 l n r (i + 1)
    else
      i

def flqref7_Insert (l : List Int) (n : Int) : List Int :=
  match flqref7_Insert_L0 l n (((((l.length : Nat) : Int) : Int) - 0).toNat) 0 with
  | o0_0 =>
    bif decide (o0_0 < ((l.length : Nat) : Int)) then
      bif ((l.getD (o0_0 : Int).toNat 0) == n) then
        l
      else
        ((((l.take ((o0_0 : Int).toNat)).drop 0) ++ [n]) ++ ((l.take l.length).drop ((o0_0 : Int).toNat)))
    else
      ((((l.take ((o0_0 : Int).toNat)).drop 0) ++ [n]) ++ ((l.take l.length).drop ((o0_0 : Int).toNat)))
/-! (*flowquery/flqgen.Tape).Width -/
def Tape_Width (tT : List Int) (tI : Int) : Int × Int :=
  let rv4 := (Tape_Next tT tI 7)
  (([3, 1, 4, 2, 6, 0, 8].getD (rv4.1 : Int).toNat 0), rv4.2)
/-! flowquery/flqref1.Empty -/
def flqref1_Empty (width : Int) : GSet :=
  (GSet.mk width (List.replicate (((width + 63) / 64) : Int).toNat 0#64))
/-! flowquery/flqref1.Put -/
def flqref1_Put (s : GSet) (b : Int) : GSet :=
  let rv4 := (flqref1_Empty s.Width)
  (GSet.mk rv4.Width ((s.Words.take rv4.Words.length ++ rv4.Words.drop s.Words.length).set ((b / 64) : Int).toNat (((s.Words.take rv4.Words.length ++ rv4.Words.drop s.Words.length).getD ((b / 64) : Int).toNat 0#64) ||| (1#64 <<< (((BitVec.ofInt 64 (b % 64)).toNat : Int)).toNat))))
/-! (*flowquery/flqgen.Tape).Set -/
def Tape_Set_L0 (tT : List Int) : Nat → Int → Int → List (BitVec 64) → Int → Int × Int × List (BitVec 64)
  | 0, ti', s0, s1, b =>
    (ti', s0, s1)
  | r + 1, ti', s0, s1, b =>
    let rv15 := (Tape_Next tT ti' 3)
    bif (rv15.1 == 1) then
      let rv24 := (flqref1_Put (GSet.mk s0 s1) b)
      Tape_Set_L0 tT r rv15.2 rv24.Width rv24.Words (b + 1)
    else
      Tape_Set_L0 tT r rv15.2 s0 s1 (b + 1)

def Tape_Set (tT : List Int) (tI : Int) (width : Int) : GSet × Int :=
  let rv3 := (flqref1_Empty width)
  match Tape_Set_L0 tT (((width : Int) - 0).toNat) tI rv3.Width rv3.Words 0 with
  | (o0_0, o0_1, o0_2) =>
    ((GSet.mk o0_1 o0_2), o0_0)
/-! (*flowquery/flqgen.Tape).Transfer -/
def Tape_Transfer_L0 (tT : List Int) : Nat → Int → Int → List (BitVec 64) → Int → List (BitVec 64) → Int → Int × Int × List (BitVec 64) × Int × List (BitVec 64)
  | 0, ti', f0, f1, f2, f3, b =>
    (ti', f0, f1, f2, f3)
  | r + 1, ti', f0, f1, f2, f3, b =>
    let rv22 := (Tape_Next tT ti' 6)
    bif (rv22.1 == 1) then
      let rv31 := (flqref1_Put (GSet.mk f0 f1) b)
      Tape_Transfer_L0 tT r rv22.2 rv31.Width rv31.Words f2 f3 (b + 1)
    else
      bif (rv22.1 == 2) then
        let rv46 := (flqref1_Put (GSet.mk f2 f3) b)
        Tape_Transfer_L0 tT r rv22.2 f0 f1 rv46.Width rv46.Words (b + 1)
      else
        bif (rv22.1 == 3) then
          let rv59 := (flqref1_Put (GSet.mk f2 f3) b)
          Tape_Transfer_L0 tT r rv22.2 f0 f1 rv59.Width rv59.Words (b + 1)
        else
          Tape_Transfer_L0 tT r rv22.2 f0 f1 f2 f3 (b + 1)

def Tape_Transfer_L2 (tT : List Int) (width : Int) (a : Int) : Nat → Int → List GCopy → Int → Int × List GCopy
  | 0, ti', f4, b =>
    (ti', f4)
  | r + 1, ti', f4, b =>
    bif decide (((f4.length : Nat) : Int) < 12) then
      let rv35 := (Tape_Next tT ti' (2 * width))
      bif (rv35.1 == 1) then
        Tape_Transfer_L2 tT width a r rv35.2 (f4 ++ [(GCopy.mk a b)]) (b + 1)
      else
        Tape_Transfer_L2 tT width a r rv35.2 f4 (b + 1)
    else
      (ti', f4)

def Tape_Transfer_L1 (tT : List Int) (width : Int) : Nat → Int → List GCopy → Int → Int × List GCopy
  | 0, ti', f4, a =>
    (ti', f4)
  | r + 1, ti', f4, a =>
    match Tape_Transfer_L2 tT width a (((width : Int) - 0).toNat) ti' f4 0 with
    | (o2_0, o2_1) =>
      Tape_Transfer_L1 tT width r o2_0 o2_1 (a + 1)

def Tape_Transfer (tT : List Int) (tI : Int) (width : Int) : GTransfer × Int :=
  let rv3 := (flqref1_Empty width)
  match Tape_Transfer_L0 tT (((width : Int) - 0).toNat) tI rv3.Width rv3.Words rv3.Width rv3.Words 0 with
  | (o0_0, o0_1, o0_2, o0_3, o0_4) =>
    match Tape_Transfer_L1 tT width (((width : Int) - 0).toNat) o0_0 [] 0 with
    | (o1_0, o1_1) =>
      ((GTransfer.mk (GSet.mk o0_1 o0_2) (GSet.mk o0_3 o0_4) o1_1), o1_0)
/-! (*flowquery/flqgen.Tape).System -/
def Tape_System_L1 (tT : List Int) (n' : Int) : Nat → Int → List Int → Int → Int × List Int
  | 0, ti', d, k =>
    (ti', d)
  | r + 1, ti', d, k =>
    let rv25 := (Tape_Next tT ti' n')
    let rv32 := (flqref7_Insert d rv25.1)
    Tape_System_L1 tT n' r rv25.2 rv32 (k - 1)

def Tape_System_L0 (tT : List Int) (n' : Int) (s0 : Int) : Nat → Int → List (List Int) → List GTransfer → List GSet → Int → Int × List (List Int) × List GTransfer × List GSet
  | 0, ti', s1, s2, s3, i =>
    (ti', s1, s2, s3)
  | r + 1, ti', s1, s2, s3, i =>
    let rv17 := (Tape_Next tT ti' 4)
    match Tape_System_L1 tT n' ((rv17.1 : Int).toNat) rv17.2 [] rv17.1 with
    | (o1_0, o1_1) =>
      let rv28 := (flqref1_Empty s0)
      let rv38 := (Tape_Next tT o1_0 3)
      bif (rv38.1 == 1) then
        let rv47 := (Tape_Set tT rv38.2 s0)
        let rv76 := (Tape_Transfer tT rv47.2 s0)
        Tape_System_L0 tT n' s0 r rv76.2 (s1 ++ [o1_1]) (s2 ++ [rv76.1]) (s3 ++ [rv47.1]) (i + 1)
      else
        let rv122 := (Tape_Transfer tT rv38.2 s0)
        Tape_System_L0 tT n' s0 r rv122.2 (s1 ++ [o1_1]) (s2 ++ [rv122.1]) (s3 ++ [rv28]) (i + 1)

def Tape_System (tT : List Int) (tI : Int) (n : Int) : GSystem × Int :=
  let rv2 := (Tape_Width tT tI)
  let rv9 := (Tape_Next tT rv2.2 n)
  match Tape_System_L0 tT (1 + rv9.1) (rv2.1 % 5) ((((1 + rv9.1) : Int) - 0).toNat) rv9.2 [] [] [] 0 with
  | (o0_0, o0_1, o0_2, o0_3) =>
    ((GSystem.mk (rv2.1 % 5) o0_1 o0_2 o0_3), o0_0)
/-! flowquery/flqref7.Has -/
def flqref7_Has_L0 (l : List Int) (n : Int) : Nat → Int → LR Unit Bool
  | 0, i =>
    .brk ()
  | r + 1, i =>
    bif ((l.getD (i : Int).toNat 0) == n) then
      .ret true
    else
      flqref7_Has_L0 l n r (i + 1)

def flqref7_Has (l : List Int) (n : Int) : Bool :=
  match flqref7_Has_L0 l n (((((l.length : Nat) : Int) : Int) - 0).toNat) 0 with
  | .brk _ =>
    false
  | .ret r => r
  | .oof => default
/-! flowquery/flqref7.Rising -/
def flqref7_Rising_L0 (l : List Int) (n : Int) : Nat → Int → LR Unit Bool
  | 0, i =>
    .brk ()
  | r + 1, i =>
    bif decide ((l.getD (i : Int).toNat 0) < 0) then
      .ret false
    else
      bif decide (n ≤ (l.getD (i : Int).toNat 0)) then
        .ret false
      else
        bif decide (0 < i) then
          bif decide ((l.getD (i : Int).toNat 0) ≤ (l.getD ((i - 1) : Int).toNat 0)) then
            .ret false
          else
            flqref7_Rising_L0 l n r (i + 1)
        else
          flqref7_Rising_L0 l n r (i + 1)

def flqref7_Rising (l : List Int) (n : Int) : Bool :=
  match flqref7_Rising_L0 l n (((((l.length : Nat) : Int) : Int) - 0).toNat) 0 with
  | .brk _ =>
    true
  | .ret r => r
  | .oof => default
/-! flowquery/flqref1.Valid -/
def flqref1_Valid_L0 (s : GSet) : Nat → Int → LR Unit Bool
  | 0, b =>
    .brk ()
  | r + 1, b =>
    bif ((((s.Words.getD ((b / 64) : Int).toNat 0#64) >>> (((BitVec.ofInt 64 (b % 64)).toNat : Int)).toNat) &&& 1#64) == 1#64) then
      .ret false
    else
      flqref1_Valid_L0 s r (b + 1)

def flqref1_Valid (s : GSet) : Bool :=
  bif decide (s.Width < 0) then
    false
  else
    bif decide (256 < s.Width) then
      false
    else
      bif (((s.Words.length : Nat) : Int) != ((s.Width + 63) / 64)) then
        false
      else
        match flqref1_Valid_L0 s ((((64 * ((s.Words.length : Nat) : Int)) : Int) - s.Width).toNat) s.Width with
        | .brk _ =>
          true
        | .ret r => r
        | .oof => default
/-! flowquery/flqref1.Before -/
def flqref1_Before (a : GCopy) (b : GCopy) : Bool :=
  bif decide (a.From < b.From) then
    true
  else
    bif (a.From == b.From) then
      decide (a.To < b.To)
    else
      false
/-! flowquery/flqref1.ValidTransfer -/
def flqref1_ValidTransfer_L0 (t : GTransfer) : Nat → Int → LR Unit Bool
  | 0, i =>
    .brk ()
  | r + 1, i =>
    bif decide ((t.Copies.getD (i : Int).toNat default).From < 0) then
      .ret false
    else
      bif decide (t.Gen.Width ≤ (t.Copies.getD (i : Int).toNat default).From) then
        .ret false
      else
        bif decide ((t.Copies.getD (i : Int).toNat default).To < 0) then
          .ret false
        else
          bif decide (t.Gen.Width ≤ (t.Copies.getD (i : Int).toNat default).To) then
            .ret false
          else
            bif decide (0 < i) then
              let rv49 := (flqref1_Before (t.Copies.getD ((i - 1) : Int).toNat default) (t.Copies.getD (i : Int).toNat default))
              bif (!rv49) then
                .ret false
              else
                flqref1_ValidTransfer_L0 t r (i + 1)
            else
              flqref1_ValidTransfer_L0 t r (i + 1)

def flqref1_ValidTransfer (t : GTransfer) : Bool :=
  let rv2 := (flqref1_Valid t.Gen)
  bif (!rv2) then
    false
  else
    let rv12 := (flqref1_Valid t.Kill)
    bif (!rv12) then
      false
    else
      bif (t.Gen.Width != t.Kill.Width) then
        false
      else
        bif decide (64 < ((t.Copies.length : Nat) : Int)) then
          false
        else
          match flqref1_ValidTransfer_L0 t (((((t.Copies.length : Nat) : Int) : Int) - 0).toNat) 0 with
          | .brk _ =>
            true
          | .ret r => r
          | .oof => default
/-! flowquery/flqref10.Valid -/
def flqref10_Valid_L0 (s : GSystem) : Nat → Int → Int → LR Int Bool
  | 0, edges, i =>
    .brk edges
  | r + 1, edges, i =>
    let rv26 := (flqref7_Rising (s.Deps.getD (i : Int).toNat []) ((s.Boundary.length : Nat) : Int))
    bif (!rv26) then
      .ret false
    else
      let rv47 := (flqref1_ValidTransfer (s.Transfers.getD (i : Int).toNat default))
      bif (!rv47) then
        .ret false
      else
        bif (((s.Transfers.getD (i : Int).toNat default).Gen).Width != s.Width) then
          .ret false
        else
          let rv64 := (flqref1_Valid (s.Boundary.getD (i : Int).toNat default))
          bif (!rv64) then
            .ret false
          else
            bif ((s.Boundary.getD (i : Int).toNat default).Width != s.Width) then
              .ret false
            else
              flqref10_Valid_L0 s r (edges + (((s.Deps.getD (i : Int).toNat []).length : Nat) : Int)) (i + 1)

def flqref10_Valid (s : GSystem) : Bool :=
  bif decide (s.Width < 0) then
    false
  else
    bif decide (256 < s.Width) then
      false
    else
      bif decide (((s.Boundary.length : Nat) : Int) < 1) then
        false
      else
        bif decide (256 < ((s.Boundary.length : Nat) : Int)) then
          false
        else
          bif (((s.Deps.length : Nat) : Int) != ((s.Boundary.length : Nat) : Int)) then
            false
          else
            bif (((s.Transfers.length : Nat) : Int) != ((s.Boundary.length : Nat) : Int)) then
              false
            else
              match flqref10_Valid_L0 s (((((s.Boundary.length : Nat) : Int) : Int) - 0).toNat) 0 0 with
              | .brk o0_0 =>
                decide (o0_0 ≤ 1024)
              | .ret r => r
              | .oof => default
/-! flowquery/flqref14.inside -/
def flqref14_inside_L0 (s : GSystem) (l : List Int) : Nat → Int → LR Unit Bool
  | 0, i =>
    .brk ()
  | r + 1, i =>
    bif decide ((l.getD (i : Int).toNat 0) < 0) then
      .ret false
    else
      bif decide (((s.Boundary.length : Nat) : Int) ≤ (l.getD (i : Int).toNat 0)) then
        .ret false
      else
        flqref14_inside_L0 s l r (i + 1)

def flqref14_inside (s : GSystem) (l : List Int) : Bool :=
  match flqref14_inside_L0 s l (((((l.length : Nat) : Int) : Int) - 0).toNat) 0 with
  | .brk _ =>
    true
  | .ret r => r
  | .oof => default
/-! flowquery/flqref14.Cone -/
def flqref14_Cone_L1  (d : List Int) : Nat → List Int → Int → List Int
  | 0, out, k =>
    out
  | r + 1, out, k =>
    let rv56 := (flqref7_Has out (d.getD (k : Int).toNat 0))
    bif (!rv56) then
      flqref14_Cone_L1 d r (out ++ [(d.getD (k : Int).toNat 0)]) (k + 1)
    else
      flqref14_Cone_L1 d r out (k + 1)

def flqref14_Cone_L0 (s : GSystem) (leaves : List Int) : Nat → List Int → Int → Int → LR (List Int × Int) (List Int × Int × Int)
  | 0, out, cost, i =>
    .oof
  | r + 1, out, cost, i =>
    bif decide (i < ((out.length : Nat) : Int)) then
      let rv42 := (flqref7_Has leaves (out.getD (i : Int).toNat 0))
      bif rv42 then
        flqref14_Cone_L0 s leaves r out (cost + 1) (i + 1)
      else
        match flqref14_Cone_L1 (s.Deps.getD ((out.getD (i : Int).toNat 0) : Int).toNat []) ((((((s.Deps.getD ((out.getD (i : Int).toNat 0) : Int).toNat []).length : Nat) : Int) : Int) - 0).toNat) out 0 with
        | o1_0 =>
          flqref14_Cone_L0 s leaves r o1_0 ((cost + 1) + (((s.Deps.getD ((out.getD (i : Int).toNat 0) : Int).toNat []).length : Nat) : Int)) (i + 1)
    else
      .brk (out, cost)

def flqref14_Cone (s : GSystem) (root : Int) (leaves : List Int) : List Int × Int × Int :=
  let rv2 := (flqref10_Valid s)
  bif (!rv2) then
    ([], 0, 1)
  else
    let rv15 := (flqref14_inside s [root])
    bif (!rv15) then
      ([], 0, 9)
    else
      let rv24 := (flqref14_inside s leaves)
      bif (!rv24) then
        ([], 0, 9)
      else
        match flqref14_Cone_L0 s leaves (s.Deps.length + 1) [root] 0 0 with
        | .brk (o0_0, o0_1) =>
          (o0_0, o0_1, 0)
        | .ret _ => default
        | .oof => default
/-! flowquery/equations.sized -/
def equations_sized (width : Int) (n : Int) : Bool :=
  bif decide (0 ≤ width) then
    bif decide (width ≤ 256) then
      bif decide (1 ≤ n) then
        decide (n ≤ 256)
      else
        false
    else
      false
  else
    false
/-! flowquery/equations.ascending -/
def equations_ascending_L0 (l : List Int) (n : Int) : Nat → Int → LR Unit Bool
  | 0, v9 =>
    .brk ()
  | r + 1, v9 =>
    bif decide ((l.getD (v9 : Int).toNat 0) < 0) then
      .ret false
    else
      bif decide (n ≤ (l.getD (v9 : Int).toNat 0)) then
        .ret false
      else
        bif decide (0 < v9) then
          bif decide ((l.getD (v9 : Int).toNat 0) ≤ (l.getD ((v9 - 1) : Int).toNat 0)) then
            .ret false
          else
            equations_ascending_L0 l n r (v9 + 1)
        else
          equations_ascending_L0 l n r (v9 + 1)

def equations_ascending (l : List Int) (n : Int) : Bool :=
  match equations_ascending_L0 l n (((((l.length : Nat) : Int) : Int) - 0).toNat) 0 with
  | .brk _ =>
    true
  | .ret r => r
  | .oof => default
/-! slices.IndexFunc[[]flowquery/api.Set,flowquery/api.Set] -/
def slices_IndexFunc_Set_L0 (s : List GSet) (fp : GSet → Bool) : Nat → Int → LR Unit Int
  | 0, v8 =>
    .brk ()
  | r + 1, v8 =>
    bif (fp (s.getD (v8 : Int).toNat default)) then
      .ret v8
    else
      slices_IndexFunc_Set_L0 s fp r (v8 + 1)

def slices_IndexFunc_Set (s : List GSet) (fp : GSet → Bool) : Int :=
  match slices_IndexFunc_Set_L0 s fp (((((s.length : Nat) : Int) : Int) - 0).toNat) 0 with
  | .brk _ =>
    -1
  | .ret r => r
  | .oof => default
/-! slices.ContainsFunc[[]flowquery/api.Set,flowquery/api.Set] -/
def slices_ContainsFunc_Set (s : List GSet) (fp : GSet → Bool) : Bool :=
  let rv1 := (slices_IndexFunc_Set s fp)
  decide (0 ≤ rv1)
/-! flowquery/bitset.ranged -/
def bitset_ranged (width : Int) : Bool :=
  bif decide (0 ≤ width) then
    decide (width ≤ 256)
  else
    false
/-! flowquery/bitset.words -/
def bitset_words (width : Int) : Int :=
  (((width + 64) - 1) / 64)
/-! flowquery/bitset.spare -/
def bitset_spare (width : Int) : BitVec 64 :=
  (18446744073709551615#64 <<< ((((BitVec.ofInt 64 width) % 64#64).toNat : Int)).toNat)
/-! flowquery/bitset.Valid -/
def bitset_Valid (s : GSet) : Bool :=
  let rv2 := (bitset_ranged s.Width)
  bif (!rv2) then
    false
  else
    let rv12 := (bitset_words s.Width)
    bif (((s.Words.length : Nat) : Int) != rv12) then
      false
    else
      bif ((s.Width % 64) == 0) then
        true
      else
        let rv23 := (bitset_spare s.Width)
        (((s.Words.getD ((((s.Words.length : Nat) : Int) - 1) : Int).toNat 0#64) &&& rv23) == 0#64)
/-! flowquery/equations.sets$1 -/
def equations_sets_1 (s : GSet) (cap0 : Int) : Bool :=
  let rv2 := (bitset_Valid s)
  bif (!rv2) then
    true
  else
    (s.Width != cap0)
/-! flowquery/equations.sets -/
def equations_sets (width : Int) (l : List GSet) : Bool :=
  let rv2 := (slices_ContainsFunc_Set l (fun x => equations_sets_1 x width))
  (!rv2)
/-! slices.IndexFunc[[]flowquery/api.Transfer,flowquery/api.Transfer] -/
def slices_IndexFunc_Transfer_L0 (s : List GTransfer) (fp : GTransfer → Bool) : Nat → Int → LR Unit Int
  | 0, v8 =>
    .brk ()
  | r + 1, v8 =>
    bif (fp (s.getD (v8 : Int).toNat default)) then
      .ret v8
    else
      slices_IndexFunc_Transfer_L0 s fp r (v8 + 1)

def slices_IndexFunc_Transfer (s : List GTransfer) (fp : GTransfer → Bool) : Int :=
  match slices_IndexFunc_Transfer_L0 s fp (((((s.length : Nat) : Int) : Int) - 0).toNat) 0 with
  | .brk _ =>
    -1
  | .ret r => r
  | .oof => default
/-! slices.ContainsFunc[[]flowquery/api.Transfer,flowquery/api.Transfer] -/
def slices_ContainsFunc_Transfer (s : List GTransfer) (fp : GTransfer → Bool) : Bool :=
  let rv1 := (slices_IndexFunc_Transfer s fp)
  decide (0 ≤ rv1)
/-! flowquery/transfer.bit -/
def transfer_bit (t : GTransfer) (b : Int) : Bool :=
  bif decide (0 ≤ b) then
    decide (b < t.Gen.Width)
  else
    false
/-! cmp.Or[int] -/
def cmp_Or_int_L0 (vals : List Int) : Nat → Int → LR Unit Int
  | 0, v8 =>
    .brk ()
  | r + 1, v8 =>
    bif ((vals.getD (v8 : Int).toNat 0) != 0) then
      .ret (vals.getD (v8 : Int).toNat 0)
    else
      cmp_Or_int_L0 vals r (v8 + 1)

def cmp_Or_int (vals : List Int) : Int :=
  match cmp_Or_int_L0 vals (((((vals.length : Nat) : Int) : Int) - 0).toNat) 0 with
  | .brk _ =>
    0
  | .ret r => r
  | .oof => default
/-! cmp.isNaN[int] -/
def cmp_isNaN_int (x : Int) : Bool :=
  (x != x)
/-! cmp.Compare[int] -/
def cmp_Compare_int (x : Int) (y : Int) : Int :=
  let rv1 := (cmp_isNaN_int x)
  let rv4 := (cmp_isNaN_int y)
  bif rv1 then
    bif rv4 then
      0
    else
      -1
  else
    bif rv4 then
      1
    else
      bif decide (x < y) then
        -1
      else
        bif decide (y < x) then
          1
        else
          0
/-! flowquery/transfer.compare -/
def transfer_compare (a : GCopy) (b : GCopy) : Int :=
  let rv3 := (cmp_Compare_int a.From b.From)
  let rv7 := (cmp_Compare_int a.To b.To)
  let rv14 := (cmp_Or_int [rv3, rv7])
  rv14
/-! flowquery/transfer.Valid -/
def transfer_Valid_L0 (t : GTransfer) : Nat → Int → LR Unit Bool
  | 0, v33 =>
    .brk ()
  | r + 1, v33 =>
    let rv33 := (transfer_bit t ((t.Copies.getD (v33 : Int).toNat default).From))
    bif (!rv33) then
      .ret false
    else
      let rv43 := (transfer_bit t ((t.Copies.getD (v33 : Int).toNat default).To))
      bif (!rv43) then
        .ret false
      else
        bif decide (0 < v33) then
          let rv57 := (transfer_compare (t.Copies.getD ((v33 - 1) : Int).toNat default) (t.Copies.getD (v33 : Int).toNat default))
          bif decide (0 ≤ rv57) then
            .ret false
          else
            transfer_Valid_L0 t r (v33 + 1)
        else
          transfer_Valid_L0 t r (v33 + 1)

def transfer_Valid (t : GTransfer) : Bool :=
  let rv2 := (bitset_Valid t.Gen)
  bif (!rv2) then
    false
  else
    let rv12 := (bitset_Valid t.Kill)
    bif (!rv12) then
      false
    else
      bif (t.Gen.Width != t.Kill.Width) then
        false
      else
        bif decide (64 < ((t.Copies.length : Nat) : Int)) then
          false
        else
          match transfer_Valid_L0 t (((((t.Copies.length : Nat) : Int) : Int) - 0).toNat) 0 with
          | .brk _ =>
            true
          | .ret r => r
          | .oof => default
/-! flowquery/equations.fits -/
def equations_fits (width : Int) (f : GTransfer) : Bool :=
  let rv2 := (transfer_Valid f)
  bif rv2 then
    (f.Gen.Width == width)
  else
    false
/-! flowquery/equations.Valid$1 -/
def equations_Valid_1 (f : GTransfer) (cap0 : GSystem) : Bool :=
  let rv2 := (equations_fits cap0.Width f)
  (!rv2)
/-! flowquery/equations.Valid -/
def equations_Valid_L0 (s : GSystem) : Nat → Int → Int → LR Unit Bool
  | 0, edges, v32 =>
    .brk ()
  | r + 1, edges, v32 =>
    bif decide (1024 < (edges + (((s.Deps.getD (v32 : Int).toNat []).length : Nat) : Int))) then
      .ret false
    else
      let rv27 := (equations_ascending (s.Deps.getD (v32 : Int).toNat []) ((s.Deps.length : Nat) : Int))
      bif (!rv27) then
        .ret false
      else
        equations_Valid_L0 s r (edges + (((s.Deps.getD (v32 : Int).toNat []).length : Nat) : Int)) (v32 + 1)

def equations_Valid (s : GSystem) : Bool :=
  let rv2 := (equations_sized s.Width ((s.Deps.length : Nat) : Int))
  bif (!rv2) then
    false
  else
    bif (((s.Transfers.length : Nat) : Int) != ((s.Deps.length : Nat) : Int)) then
      false
    else
      bif (((s.Boundary.length : Nat) : Int) != ((s.Deps.length : Nat) : Int)) then
        false
      else
        match equations_Valid_L0 s (((((s.Deps.length : Nat) : Int) : Int) - 0).toNat) 0 0 with
        | .brk _ =>
          let rv18 := (equations_sets s.Width s.Boundary)
          bif rv18 then
            let rv23 := (slices_ContainsFunc_Transfer s.Transfers (fun x => equations_Valid_1 x s))
            (!rv23)
          else
            false
        | .ret r => r
        | .oof => default
/-! slices.IndexFunc[[]int,int] -/
def slices_IndexFunc_int_L0 (s : List Int) (fp : Int → Bool) : Nat → Int → LR Unit Int
  | 0, v8 =>
    .brk ()
  | r + 1, v8 =>
    bif (fp (s.getD (v8 : Int).toNat 0)) then
      .ret v8
    else
      slices_IndexFunc_int_L0 s fp r (v8 + 1)

def slices_IndexFunc_int (s : List Int) (fp : Int → Bool) : Int :=
  match slices_IndexFunc_int_L0 s fp (((((s.length : Nat) : Int) : Int) - 0).toNat) 0 with
  | .brk _ =>
    -1
  | .ret r => r
  | .oof => default
/-! slices.ContainsFunc[[]int,int] -/
def slices_ContainsFunc_int (s : List Int) (fp : Int → Bool) : Bool :=
  let rv1 := (slices_IndexFunc_int s fp)
  decide (0 ≤ rv1)
/-! flowquery/cone.unknowns$1 -/
def cone_unknowns_1 (n : Int) (cap0 : GSystem) : Bool :=
  bif decide (n < 0) then
    true
  else
    decide (((cap0.Deps.length : Nat) : Int) ≤ n)
/-! flowquery/cone.unknowns -/
def cone_unknowns (s : GSystem) (l : List Int) : Bool :=
  let rv2 := (slices_ContainsFunc_int l (fun x => cone_unknowns_1 x s))
  (!rv2)
/-! slices.Index[[]int,int] -/
def slices_Index_int_L0 (s : List Int) (v : Int) : Nat → Int → LR Unit Int
  | 0, v8 =>
    .brk ()
  | r + 1, v8 =>
    bif (v == (s.getD (v8 : Int).toNat 0)) then
      .ret v8
    else
      slices_Index_int_L0 s v r (v8 + 1)

def slices_Index_int (s : List Int) (v : Int) : Int :=
  match slices_Index_int_L0 s v (((((s.length : Nat) : Int) : Int) - 0).toNat) 0 with
  | .brk _ =>
    -1
  | .ret r => r
  | .oof => default
/-! slices.Contains[[]int,int] -/
def slices_Contains_int (s : List Int) (v : Int) : Bool :=
  let rv1 := (slices_Index_int s v)
  decide (0 ≤ rv1)
/-! slices.Clip[[]int,int] -/
def slices_Clip_int (s : List Int) : List Int :=
  ((s.take ((((s.length : Nat) : Int) : Int).toNat)).drop 0)
/-! flowquery/cone.Of -/
def cone_Of_L1  (v61 : List Int) : Nat → List Int → List Bool → Int → Int → List Int × List Bool × Int
  | 0, out, found, cost, v63 =>
    (out, found, cost)
  | r + 1, out, found, cost, v63 =>
    bif (!(found.getD ((v61.getD (v63 : Int).toNat 0) : Int).toNat false)) then
      cone_Of_L1 v61 r (out ++ [(v61.getD (v63 : Int).toNat 0)]) (found.set ((v61.getD (v63 : Int).toNat 0) : Int).toNat true) (cost + 1) (v63 + 1)
    else
      cone_Of_L1 v61 r out found (cost + 1) (v63 + 1)

def cone_Of_L0 (s : GSystem) (leaves : List Int) : Nat → List Int → List Bool → Int → Int → LR (List Int × Int) (List Int × Int × Int)
  | 0, out, found, cost, i =>
    .oof
  | r + 1, out, found, cost, i =>
    bif decide (i < ((out.length : Nat) : Int)) then
      let rv47 := (slices_Contains_int leaves (out.getD (i : Int).toNat 0))
      bif rv47 then
        cone_Of_L0 s leaves r out found (cost + 1) (i + 1)
      else
        match cone_Of_L1 (s.Deps.getD ((out.getD (i : Int).toNat 0) : Int).toNat []) ((((((s.Deps.getD ((out.getD (i : Int).toNat 0) : Int).toNat []).length : Nat) : Int) : Int) - 0).toNat) out found (cost + 1) 0 with
        | (o1_0, o1_1, o1_2) =>
          cone_Of_L0 s leaves r o1_0 o1_1 o1_2 (i + 1)
    else
      .brk (out, cost)

def cone_Of (s : GSystem) (root : Int) (leaves : List Int) : List Int × Int × Int :=
  let rv2 := (equations_Valid s)
  bif (!rv2) then
    ([], 0, 1)
  else
    let rv15 := (cone_unknowns s [root])
    bif (!rv15) then
      ([], 0, 9)
    else
      let rv24 := (cone_unknowns s leaves)
      bif (!rv24) then
        ([], 0, 9)
      else
        match cone_Of_L0 s leaves (s.Deps.length + 1) [root] ((List.replicate (((s.Deps.length : Nat) : Int) : Int).toNat false).set (root : Int).toNat true) 0 0 with
        | .brk (o0_0, o0_1) =>
          let rv49 := (slices_Clip_int o0_0)
          (rv49, o0_1, 0)
        | .ret _ => default
        | .oof => default
/-! flowquery/cone.Closed$1 -/
def cone_Closed_1 (m : Int) (cap0 : List Bool) : Bool :=
  (!(cap0.getD (m : Int).toNat false))
/-! flowquery/cone.Closed -/
def cone_Closed_L0 (set_ : List Int) : Nat → List Bool → Int → List Bool
  | 0, inside0, v33 =>
    inside0
  | r + 1, inside0, v33 =>
    cone_Closed_L0 set_ r (inside0.set ((set_.getD (v33 : Int).toNat 0) : Int).toNat true) (v33 + 1)

def cone_Closed_L1 (s : GSystem) (set_ : List Int) (leaves : List Int) (inside0 : List Bool) : Nat → Int → LR Unit Bool
  | 0, v43 =>
    .brk ()
  | r + 1, v43 =>
    let rv42 := (slices_Contains_int leaves (set_.getD (v43 : Int).toNat 0))
    bif (!rv42) then
      let rv53 := (slices_ContainsFunc_int (s.Deps.getD ((set_.getD (v43 : Int).toNat 0) : Int).toNat []) (fun x => cone_Closed_1 x inside0))
      bif rv53 then
        .ret false
      else
        cone_Closed_L1 s set_ leaves inside0 r (v43 + 1)
    else
      cone_Closed_L1 s set_ leaves inside0 r (v43 + 1)

def cone_Closed (s : GSystem) (set_ : List Int) (leaves : List Int) : Bool :=
  let rv2 := (equations_Valid s)
  bif (!rv2) then
    false
  else
    let rv12 := (cone_unknowns s set_)
    bif (!rv12) then
      false
    else
      let rv22 := (cone_unknowns s leaves)
      bif (!rv22) then
        false
      else
        match cone_Closed_L0 set_ (((((set_.length : Nat) : Int) : Int) - 0).toNat) (List.replicate (((s.Deps.length : Nat) : Int) : Int).toNat false) 0 with
        | o0_0 =>
          match cone_Closed_L1 s set_ leaves o0_0 (((((set_.length : Nat) : Int) : Int) - 0).toNat) 0 with
          | .brk _ =>
            true
          | .ret r => r
          | .oof => default
/-! flowquery/flqref7.Ints -/
def flqref7_Ints_L0 (a : List Int) (b : List Int) : Nat → Int → LR Unit Bool
  | 0, i =>
    .brk ()
  | r + 1, i =>
    bif ((a.getD (i : Int).toNat 0) != (b.getD (i : Int).toNat 0)) then
      .ret false
    else
      flqref7_Ints_L0 a b r (i + 1)

def flqref7_Ints (a : List Int) (b : List Int) : Bool :=
  bif (((a.length : Nat) : Int) != ((b.length : Nat) : Int)) then
    false
  else
    match flqref7_Ints_L0 a b (((((a.length : Nat) : Int) : Int) - 0).toNat) 0 with
    | .brk _ =>
      true
    | .ret r => r
    | .oof => default
/-! flowquery/flqref14.closed -/
def flqref14_closed_L1 (set_ : List Int) (leaves : List Int) (i : Int) (d : List Int) : Nat → Int → LR Unit Bool
  | 0, k =>
    .brk ()
  | r + 1, k =>
    let rv12 := (flqref7_Has leaves (set_.getD (i : Int).toNat 0))
    bif (!rv12) then
      let rv20 := (flqref7_Has set_ (d.getD (k : Int).toNat 0))
      bif (!rv20) then
        .ret false
      else
        flqref14_closed_L1 set_ leaves i d r (k + 1)
    else
      flqref14_closed_L1 set_ leaves i d r (k + 1)

def flqref14_closed_L0 (s : GSystem) (set_ : List Int) (leaves : List Int) : Nat → Int → LR Unit Bool
  | 0, i =>
    .brk ()
  | r + 1, i =>
    match flqref14_closed_L1 set_ leaves i (s.Deps.getD ((set_.getD (i : Int).toNat 0) : Int).toNat []) ((((((s.Deps.getD ((set_.getD (i : Int).toNat 0) : Int).toNat []).length : Nat) : Int) : Int) - 0).toNat) 0 with
    | .brk _ =>
      flqref14_closed_L0 s set_ leaves r (i + 1)
    | .ret r => .ret r
    | .oof => .oof

def flqref14_closed (s : GSystem) (set_ : List Int) (leaves : List Int) : Bool :=
  match flqref14_closed_L0 s set_ leaves (((((set_.length : Nat) : Int) : Int) - 0).toNat) 0 with
  | .brk _ =>
    true
  | .ret r => r
  | .oof => default
/-! flowquery/flqref14.Closed -/
def flqref14_Closed (s : GSystem) (set_ : List Int) (leaves : List Int) : Bool :=
  let rv2 := (flqref10_Valid s)
  bif rv2 then
    let rv7 := (flqref14_inside s set_)
    bif rv7 then
      let rv12 := (flqref14_inside s leaves)
      bif rv12 then
        let rv17 := (flqref14_closed s set_ leaves)
        rv17
      else
        false
    else
      false
  else
    false
/-! flowquery/flqlaw14.agrees -/
def flqlaw14_agrees (s : GSystem) (root : Int) (leaves : List Int) (set_ : List Int) : Bool :=
  let rv3 := (cone_Of s root leaves)
  let rv13 := (flqref14_Cone s root leaves)
  bif (rv3.2.2 == rv13.2.2) then
    bif (rv3.2.1 == rv13.2.1) then
      let rv26 := (flqref7_Ints rv3.1 rv13.1)
      bif rv26 then
        let rv31 := (cone_Closed s set_ leaves)
        let rv34 := (flqref14_Closed s set_ leaves)
        (rv31 == rv34)
      else
        false
    else
      false
  else
    false
/-! flowquery/flqlaw14.list -/
def flqlaw14_list_L0 (kT : List Int) (n : Int) : Nat → Int → List Int → Int → Int × List Int
  | 0, ti', l, i =>
    (ti', l)
  | r + 1, ti', l, i =>
    let rv9 := (Tape_Next kT ti' n)
    let rv15 := (Tape_Next kT rv9.2 12)
    flqlaw14_list_L0 kT n r rv15.2 (l ++ [(rv9.1 - (rv15.1 / 11))]) (i - 1)

def flqlaw14_list (kT : List Int) (kI : Int) (n : Int) : List Int × Int :=
  let rv1 := (Tape_Next kT kI 4)
  match flqlaw14_list_L0 kT n ((rv1.1 : Int).toNat) rv1.2 [] rv1.1 with
  | (o0_0, o0_1) =>
    (o0_1, o0_0)
/-! (*flowquery/flqgen.Tape).SpoilSet -/
def Tape_SpoilSet (tT : List Int) (tI : Int) (s : GSet) : GSet × Int :=
  let rv11 := (Tape_Next tT tI 4)
  bif (rv11.1 == 0) then
    let rv19 := (Tape_Next tT rv11.2 5)
    ((GSet.mk (s.Width + (rv19.1 - 2)) s.Words), rv19.2)
  else
    bif (rv11.1 == 1) then
      let rv28 := (Tape_Next tT rv11.2 2)
      ((GSet.mk s.Width (s.Words ++ [(BitVec.ofInt 64 rv28.1)])), rv28.2)
    else
      bif (rv11.1 == 2) then
        bif decide (0 < ((s.Words.length : Nat) : Int)) then
          let rv47 := (Tape_Next tT rv11.2 64)
          ((GSet.mk s.Width (s.Words.set ((((s.Words.length : Nat) : Int) - 1) : Int).toNat ((s.Words.getD ((((s.Words.length : Nat) : Int) - 1) : Int).toNat 0#64) ||| (1#64 <<< (((BitVec.ofInt 64 rv47.1).toNat : Int)).toNat)))), rv47.2)
        else
          (s, rv11.2)
      else
        let rv58 := (Tape_Next tT rv11.2 4)
        ((GSet.mk ([-1, 257, 320, 0].getD (rv58.1 : Int).toNat 0) s.Words), rv58.2)
/-! (*flowquery/flqgen.Tape).SpoilTransfer -/
def Tape_SpoilTransfer (tT : List Int) (tI : Int) (f : GTransfer) : GTransfer × Int :=
  let rv11 := (Tape_Next tT tI 5)
  bif (rv11.1 == 0) then
    let rv20 := (Tape_SpoilSet tT rv11.2 f.Gen)
    ((GTransfer.mk rv20.1 f.Kill f.Copies), rv20.2)
  else
    bif (rv11.1 == 1) then
      let rv32 := (Tape_SpoilSet tT rv11.2 f.Kill)
      ((GTransfer.mk f.Gen rv32.1 f.Copies), rv32.2)
    else
      bif (rv11.1 == 2) then
        let rv43 := (Tape_Next tT rv11.2 9)
        let rv49 := (Tape_Next tT rv43.2 9)
        ((GTransfer.mk f.Gen f.Kill (f.Copies ++ [(GCopy.mk (rv43.1 - 1) (rv49.1 - 1))])), rv49.2)
      else
        bif (rv11.1 == 3) then
          let rv66 := (Tape_Next tT rv11.2 4)
          let rv72 := (Tape_Next tT rv66.2 2)
          ((GTransfer.mk f.Gen f.Kill ([(GCopy.mk rv66.1 (f.Gen.Width - rv72.1))] ++ f.Copies)), rv72.2)
        else
          bif decide (0 < ((f.Copies.length : Nat) : Int)) then
            ((GTransfer.mk f.Gen f.Kill (f.Copies ++ [(f.Copies.getD ((((f.Copies.length : Nat) : Int) - 1) : Int).toNat default)])), rv11.2)
          else
            (f, rv11.2)
/-! (*flowquery/flqgen.Tape).SpoilSystem -/
def Tape_SpoilSystem (tT : List Int) (tI : Int) (s : GSystem) : GSystem × Int :=
  let rv25 := (Tape_Next tT tI ((s.Deps.length : Nat) : Int))
  let rv31 := (Tape_Next tT rv25.2 6)
  bif (rv31.1 == 0) then
    ((GSystem.mk (s.Width + 1) s.Deps s.Transfers s.Boundary), rv31.2)
  else
    bif (rv31.1 == 1) then
      let rv52 := (Tape_Next tT rv31.2 (((s.Deps.length : Nat) : Int) + 2))
      ((GSystem.mk s.Width (s.Deps.set (rv25.1 : Int).toNat ((s.Deps.getD (rv25.1 : Int).toNat []) ++ [(rv52.1 - 1)])) s.Transfers s.Boundary), rv52.2)
    else
      bif (rv31.1 == 2) then
        let rv84 := (Tape_SpoilTransfer tT rv31.2 (s.Transfers.getD (rv25.1 : Int).toNat default))
        ((GSystem.mk s.Width s.Deps (s.Transfers.set (rv25.1 : Int).toNat rv84.1) s.Boundary), rv84.2)
      else
        bif (rv31.1 == 3) then
          let rv107 := (Tape_SpoilSet tT rv31.2 (s.Boundary.getD (rv25.1 : Int).toNat default))
          ((GSystem.mk s.Width s.Deps s.Transfers (s.Boundary.set (rv25.1 : Int).toNat rv107.1)), rv107.2)
        else
          bif (rv31.1 == 4) then
            ((GSystem.mk s.Width ((s.Deps.take s.Deps.length).drop ((1 : Int).toNat)) s.Transfers s.Boundary), rv31.2)
          else
            ((GSystem.mk s.Width s.Deps (s.Transfers ++ [(s.Transfers.getD (0 : Int).toNat default)]) s.Boundary), rv31.2)
/-! flowquery/flqgen.Huge -/
def flqgen_Huge_L0 (s : GSystem) : Nat → Int → LR Unit Bool
  | 0, i =>
    .brk ()
  | r + 1, i =>
    bif decide (8 < (((s.Deps.getD (i : Int).toNat []).length : Nat) : Int)) then
      .ret true
    else
      flqgen_Huge_L0 s r (i + 1)

def flqgen_Huge_L1 (s : GSystem) : Nat → Int → LR Unit Bool
  | 0, i =>
    .brk ()
  | r + 1, i =>
    bif decide (12 < ((((s.Transfers.getD (i : Int).toNat default).Copies).length : Nat) : Int)) then
      .ret true
    else
      flqgen_Huge_L1 s r (i + 1)

def flqgen_Huge (s : GSystem) : Bool :=
  bif decide (6 < ((s.Deps.length : Nat) : Int)) then
    true
  else
    bif decide (6 < ((s.Transfers.length : Nat) : Int)) then
      true
    else
      bif decide (6 < ((s.Boundary.length : Nat) : Int)) then
        true
      else
        bif decide (8 < s.Width) then
          true
        else
          match flqgen_Huge_L0 s (((((s.Deps.length : Nat) : Int) : Int) - 0).toNat) 0 with
          | .brk _ =>
            match flqgen_Huge_L1 s (((((s.Transfers.length : Nat) : Int) : Int) - 0).toNat) 0 with
            | .brk _ =>
              false
            | .ret r => r
            | .oof => default
          | .ret r => r
          | .oof => default
/-! flowquery/flqref1.Identity -/
def flqref1_Identity (width : Int) : GTransfer :=
  let rv3 := (flqref1_Empty width)
  (GTransfer.mk rv3 rv3 [])
/-! flowquery/flqlaw14.line -/
def flqlaw14_line_L0  : Nat → List (List Int) → List GTransfer → List GSet → Int → List (List Int) × List GTransfer × List GSet
  | 0, s1, s2, s3, i =>
    (s1, s2, s3)
  | r + 1, s1, s2, s3, i =>
    bif decide (0 < i) then
      let rv21 := (flqref1_Identity 0)
      let rv44 := (flqref1_Empty 0)
      flqlaw14_line_L0 r (s1 ++ [[(i - 1)]]) (s2 ++ [rv21]) (s3 ++ [rv44]) (i + 1)
    else
      let rv73 := (flqref1_Identity 0)
      let rv96 := (flqref1_Empty 0)
      flqlaw14_line_L0 r (s1 ++ [[]]) (s2 ++ [rv73]) (s3 ++ [rv96]) (i + 1)

def flqlaw14_line (n : Int) : GSystem :=
  match flqlaw14_line_L0 (((n : Int) - 0).toNat) [] [] [] 0 with
  | (o0_0, o0_1, o0_2) =>
    (GSystem.mk 0 o0_0 o0_1 o0_2)
/-! flowquery/flqlaw14.sane -/
def flqlaw14_sane  : Bool :=
  let rv4 := (flqlaw14_line 4)
  let rv18 := (cone_Of rv4 2 [])
  let rv42 := (cone_Of rv4 2 [1])
  let rv66 := (cone_Of rv4 2 [2])
  bif (rv18.2.2 == 0) then
    bif (rv42.2.2 == 0) then
      bif (rv66.2.2 == 0) then
        let rv84 := (flqref7_Ints rv18.1 [2, 1, 0])
        bif rv84 then
          bif (rv18.2.1 == 5) then
            let rv93 := (flqref7_Ints rv42.1 [2, 1])
            bif rv93 then
              bif (rv42.2.1 == 3) then
                let rv102 := (flqref7_Ints rv66.1 [2])
                bif rv102 then
                  (rv66.2.1 == 1)
                else
                  false
              else
                false
            else
              false
          else
            false
        else
          false
      else
        false
    else
      false
  else
    false
/-! flowquery/flqlaw14.ConeAgrees -/
def flqlaw14_ConeAgrees_L0 (t : List Int) : Nat → Int → Int → LR Unit Bool
  | 0, k1, i =>
    .brk ()
  | r + 1, k1, i =>
    let rv11 := (Tape_System t k1 7)
    let rv27 := (Tape_Next t rv11.2 ((rv11.1.Deps.length : Nat) : Int))
    let rv34 := (flqref14_Cone rv11.1 rv27.1 [])
    let rv43 := (Tape_Next t rv27.2 ((rv11.1.Deps.length : Nat) : Int))
    let rv50 := (flqlaw14_list t rv43.2 ((rv11.1.Deps.length : Nat) : Int))
    let rv58 := (flqlaw14_agrees rv11.1 rv43.1 rv50.1 rv34.1)
    bif (!rv58) then
      .ret false
    else
      let rv68 := (Tape_Next t rv50.2 (((rv11.1.Deps.length : Nat) : Int) + 2))
      let rv75 := (flqlaw14_list t rv68.2 ((rv11.1.Deps.length : Nat) : Int))
      let rv83 := (flqlaw14_agrees rv11.1 (rv68.1 - 1) [] rv75.1)
      bif (!rv83) then
        .ret false
      else
        let rv96 := (Tape_SpoilSystem t rv75.2 rv11.1)
        let rv110 := (flqlaw14_agrees rv96.1 0 [] rv34.1)
        bif (!rv110) then
          .ret false
        else
          flqlaw14_ConeAgrees_L0 t r rv96.2 (i + 1)

def flqlaw14_ConeAgrees (t : List Int) (s : GSystem) (root : Int) (leaves : List Int) (set_ : List Int) : Bool :=
  let rv3 := (flqgen_New t)
  match flqlaw14_ConeAgrees_L0 t 5 0 0 with
  | .brk _ =>
    let rv6 := (flqgen_Huge s)
    bif rv6 then
      true
    else
      bif decide (30 < ((leaves.length : Nat) : Int)) then
        true
      else
        bif decide (30 < ((set_.length : Nat) : Int)) then
          true
        else
          let rv18 := (flqlaw14_agrees s root leaves set_)
          bif rv18 then
            flqlaw14_sane
          else
            false
  | .ret r => r
  | .oof => default
/-! flowquery/flqlaw14.ConeClosed -/
def flqlaw14_ConeClosed_L0 (t : List Int) : Nat → Int → List Int → Int → List Int
  | 0, k1, set_, i =>
    set_
  | r + 1, k1, set_, i =>
    let rv91 := (Tape_Next t k1 2)
    bif (rv91.1 == 1) then
      let rv100 := (flqref7_Insert set_ i)
      flqlaw14_ConeClosed_L0 t r rv91.2 rv100 (i + 1)
    else
      flqlaw14_ConeClosed_L0 t r rv91.2 set_ (i + 1)

def flqlaw14_ConeClosed_L1  (s0 : Int) (s1 : List (List Int)) (s2 : List GTransfer) (s3 : List GSet) (leaves : List Int) (c : List Int) (set_ : List Int) : Nat → Int → LR Unit Bool
  | 0, i =>
    .oof
  | r + 1, i =>
    let rv92 := (cone_Closed (GSystem.mk s0 s1 s2 s3) set_ leaves)
    bif rv92 then
      bif decide (i < ((c.length : Nat) : Int)) then
        let rv100 := (flqref7_Has set_ (c.getD (i : Int).toNat 0))
        bif (!rv100) then
          .ret false
        else
          flqlaw14_ConeClosed_L1 s0 s1 s2 s3 leaves c set_ r (i + 1)
      else
        .brk ()
    else
      .brk ()

def flqlaw14_ConeClosed (t : List Int) : Bool :=
  let rv2 := (flqgen_New t)
  let rv8 := (Tape_System t 0 7)
  let rv24 := (Tape_Next t rv8.2 ((rv8.1.Deps.length : Nat) : Int))
  let rv30 := (Tape_Next t rv24.2 ((rv8.1.Deps.length : Nat) : Int))
  let rv39 := (Tape_Next t rv30.2 2)
  let rv52 := (cone_Of rv8.1 rv24.1 (([rv30.1].take ((rv39.1 : Int).toNat)).drop 0))
  bif (rv52.2.2 != 0) then
    false
  else
    let rv64 := (cone_Closed rv8.1 rv52.1 (([rv30.1].take ((rv39.1 : Int).toNat)).drop 0))
    bif (!rv64) then
      false
    else
      let rv74 := (flqref7_Has rv52.1 rv24.1)
      bif (!rv74) then
        false
      else
        match flqlaw14_ConeClosed_L0 t (((((rv8.1.Deps.length : Nat) : Int) : Int) - 0).toNat) rv39.2 [rv24.1] 0 with
        | o0_0 =>
          match flqlaw14_ConeClosed_L1 rv8.1.Width rv8.1.Deps rv8.1.Transfers rv8.1.Boundary (([rv30.1].take ((rv39.1 : Int).toNat)).drop 0) rv52.1 o0_0 (rv52.1.length + 1) 0 with
          | .brk _ =>
            flqlaw14_sane
          | .ret r => r
          | .oof => default
theorem width_rng (l : List Int) (i : Int) : 0 ≤ (Tape_Width l i).1 ∧ (Tape_Width l i).1 ≤ 8 := by
  unfold Tape_Width
  exact getD_all (p := fun x : Int => 0 ≤ x ∧ x ≤ 8) (by decide) (by decide) _
theorem width_ok (l : List Int) (i : Int) : i64ok (Tape_Width l i).1 := by
  have := width_rng l i; unfold i64ok; omega
/-- A loop that looks for something. -/
theorem scan {σ ρ : Type} (f : Nat → Int → LR σ ρ) (p : Int → Bool) (b : ρ) (c : σ) (h0 : ∀ i, f 0 i = .brk c) (h1 : ∀ r i, f (r + 1) i = bif p i then .ret b else f r (i + 1)) :
    ∀ (m : Nat) (i : Int), (f m i = .ret b ∧ ∃ j, i ≤ j ∧ j < i + m ∧ p j = true) ∨ (f m i = .brk c ∧ ∀ j, i ≤ j → j < i + m → p j = false)
  | 0, i => .inr ⟨h0 i, fun j h1 h2 => by omega⟩
  | m + 1, i => by
    rw [h1]
    cases hp : p i with
    | true => exact .inl ⟨rfl, i, by omega, by omega, hp⟩
    | false =>
      rcases scan f p b c h0 h1 m (i + 1) with ⟨e, j, j1, j2, j3⟩ | ⟨e, h⟩
      · exact .inl ⟨e, j, by omega, by omega, j3⟩
      · refine .inr ⟨e, fun j j1 j2 => ?_⟩
        rcases Int.lt_or_eq_of_le j1 with hlt | rfl
        · exact h j (by omega) (by omega)
        · exact hp
theorem mem_getD {l : List Int} {n : Int} : n ∈ l ↔ ∃ j : Int, 0 ≤ j ∧ j < (l.length : Int) ∧ l.getD j.toNat 0 = n := by
  constructor
  · intro h
    obtain ⟨i, hi, e⟩ := List.getElem_of_mem h
    exact ⟨(i : Int), by omega, by omega, by simp [List.getD, hi, e]⟩
  · rintro ⟨j, j1, j2, rfl⟩
    exact getD_mem (by omega)
theorem Has_iff (l : List Int) (n : Int) : flqref7_Has l n = true ↔ n ∈ l := by
  have := scan (fun r i => flqref7_Has_L0 l n r i) (fun i => l.getD i.toNat 0 == n) true () (fun _ => rfl) (fun _ _ => rfl) ((((l.length : Nat) : Int) - 0).toNat) 0
  unfold flqref7_Has
  rw [mem_getD]
  rcases this with ⟨e, j, j1, j2, j3⟩ | ⟨e, h⟩
  · rw [e]
    exact ⟨fun _ => ⟨j, j1, by omega, by simpa using j3⟩, fun _ => rfl⟩
  · rw [e]
    refine ⟨fun h => by simp at h, ?_⟩
    rintro ⟨j, j1, j2, j3⟩
    have := h j j1 (by omega)
    simp [-List.getD_eq_getElem?_getD] at this; exact absurd j3 this
theorem Has_false {l : List Int} {n : Int} (h : flqref7_Has l n = false) : n ∉ l := fun e => by
  rw [(Has_iff l n).2 e] at h; cases h
theorem inside_iff (s : GSystem) (l : List Int) : flqref14_inside s l = true ↔ ∀ x ∈ l, 0 ≤ x ∧ x < (s.Boundary.length : Int) := by
  have := scan (fun r i => flqref14_inside_L0 s l r i) (fun i => bif decide (l.getD i.toNat 0 < 0) then true else decide ((s.Boundary.length : Int) ≤ l.getD i.toNat 0)) false () (fun _ => rfl)
    (fun r i => by
      show flqref14_inside_L0 s l (r + 1) i = _
      rw [flqref14_inside_L0]
      cases decide (l.getD i.toNat 0 < 0) <;> rfl) ((((l.length : Nat) : Int) - 0).toNat) 0
  unfold flqref14_inside
  rcases this with ⟨e, j, j1, j2, j3⟩ | ⟨e, h⟩
  · rw [e]
    refine ⟨fun h => by simp at h, fun h => ?_⟩
    have := h _ (getD_mem (xs := l) (i := j.toNat) (d := 0) (by omega))
    simp [Bool.cond_eq_ite, -List.getD_eq_getElem?_getD] at j3
    omega
  · rw [e]
    refine ⟨fun _ x hx => ?_, fun _ => rfl⟩
    obtain ⟨j, j1, j2, rfl⟩ := mem_getD.1 hx
    have := h j j1 (by omega)
    simp [Bool.cond_eq_ite, -List.getD_eq_getElem?_getD] at this
    omega
theorem Rising_mem {l : List Int} {n : Int} (hr : flqref7_Rising l n = true) : ∀ x ∈ l, 0 ≤ x ∧ x < n := by
  have := scan (fun r i => flqref7_Rising_L0 l n r i) (fun i => bif decide (l.getD i.toNat 0 < 0) then true else bif decide (n ≤ l.getD i.toNat 0) then true else bif decide (0 < i) then decide (l.getD i.toNat 0 ≤ l.getD (i - 1).toNat 0) else false) false () (fun _ => rfl)
    (fun r i => by
      show flqref7_Rising_L0 l n (r + 1) i = _
      rw [flqref7_Rising_L0]
      cases decide (l.getD i.toNat 0 < 0) <;> cases decide (n ≤ l.getD i.toNat 0) <;> cases decide (0 < i) <;> rfl) ((((l.length : Nat) : Int) - 0).toNat) 0
  unfold flqref7_Rising at hr
  rcases this with ⟨e, j, j1, j2, j3⟩ | ⟨e, h⟩
  · rw [e] at hr; simp at hr
  · intro x hx
    obtain ⟨j, j1, j2, rfl⟩ := mem_getD.1 hx
    have := h j j1 (by omega)
    simp [Bool.cond_eq_ite, -List.getD_eq_getElem?_getD] at this
    omega
/-- What a valid system's dependencies are. -/
theorem Valid_L0 {s : GSystem} : ∀ (m : Nat) (e i : Int), (flqref10_Valid_L0 s m e i = .ret false) ∨ ((∃ o, flqref10_Valid_L0 s m e i = .brk o) ∧ ∀ j, i ≤ j → j < i + m → flqref7_Rising (s.Deps.getD j.toNat []) (s.Boundary.length : Int) = true)
  | 0, e, i => .inr ⟨⟨e, rfl⟩, fun j h1 h2 => by omega⟩
  | m + 1, e, i => by
    rw [flqref10_Valid_L0]
    simp only [Bool.cond_eq_ite]
    have ih := Valid_L0 (s := s) m (e + (((s.Deps.getD (i : Int).toNat []).length : Nat) : Int)) (i + 1)
    repeat' split
    all_goals first
      | exact .inl rfl
      | (rcases ih with h | ⟨ho, h⟩
         · exact .inl h
         · refine .inr ⟨ho, fun j j1 j2 => ?_⟩
           rcases Int.lt_or_eq_of_le j1 with hlt | rfl
           · exact h j (by omega) (by omega)
           · simp_all)
theorem Valid_deps {s : GSystem} (hv : flqref10_Valid s = true) : s.Deps.length = s.Boundary.length ∧ s.Transfers.length = s.Boundary.length ∧ s.Boundary.length ≤ 256 ∧ 1 ≤ s.Boundary.length ∧ ∀ j : Int, 0 ≤ j → j < (s.Boundary.length : Int) → flqref7_Rising (s.Deps.getD j.toNat []) (s.Boundary.length : Int) = true := by
  unfold flqref10_Valid at hv
  simp only [Bool.cond_eq_ite] at hv
  repeat' split at hv
  all_goals first
    | (cases hv; done)
    | skip
  all_goals
    rename_i h1 h2 h3 h4 h5 h6 _ _ hL
    first
    | (rcases Valid_L0 (s := s) ((((s.Boundary.length : Nat) : Int) - 0).toNat) 0 0 with h | ⟨⟨o, ho⟩, h⟩
       · rw [h] at hL; cases hL <;> cases hv
       · simp at h1 h2 h3 h4 h5 h6
         exact ⟨by omega, by omega, by omega, by omega, fun j j1 j2 => h j j1 (by omega)⟩)
theorem Valid_dep_mem {s : GSystem} (hv : flqref10_Valid s = true) {j : Int} (h0 : 0 ≤ j) (h1 : j < (s.Boundary.length : Int)) : ∀ x ∈ s.Deps.getD j.toNat [], 0 ≤ x ∧ x < (s.Boundary.length : Int) :=
  Rising_mem ((Valid_deps hv).2.2.2.2 j h0 h1)
/-- Distinct numbers below n. -/
def okOut (n : Int) (out : List Int) : Prop := out.Nodup ∧ ∀ x ∈ out, 0 ≤ x ∧ x < n
theorem nodup_le : ∀ (n : Nat) (l : List Int), l.Nodup → (∀ x ∈ l, 0 ≤ x ∧ x < (n : Int)) → l.length ≤ n
  | 0, [], _, _ => Nat.le_refl _
  | 0, x :: l, _, h => by have := h x (by simp); omega
  | n + 1, l, hn, h => by
    have h1 : (l.erase (n : Int)).length ≤ n := nodup_le n (l.erase (n : Int)) (hn.erase _) (fun x hx => by
      have h2 := (List.Nodup.mem_erase_iff hn).1 hx
      have h3 := h x h2.2
      have h4 := h2.1
      omega)
    by_cases hm : (n : Int) ∈ l
    · rw [List.length_erase_of_mem hm] at h1; omega
    · rw [List.erase_of_not_mem hm] at h1; omega
theorem okOut_len {n : Int} {out : List Int} (h : okOut n out) (hn : 0 ≤ n) : (out.length : Int) ≤ n := by
  have := nodup_le n.toNat out h.1 (fun x hx => by have := h.2 x hx; omega)
  omega
theorem okOut_push {n : Int} {out : List Int} {x : Int} (h : okOut n out) (hx : flqref7_Has out x = false) (h0 : 0 ≤ x) (h1 : x < n) : okOut n (out ++ [x]) := by
  have hm := Has_false hx
  refine ⟨?_, fun y hy => ?_⟩
  · rw [List.nodup_append]
    exact ⟨h.1, by simp, fun a ha b hb => by simp at hb; subst hb; intro e; exact hm (e ▸ ha)⟩
  · rcases List.mem_append.1 hy with h' | h'
    · exact h.2 y h'
    · simp at h'; subst h'; exact ⟨h0, h1⟩
theorem Cone_L1_ok {n : Int} {d : List Int} (hd : ∀ x ∈ d, 0 ≤ x ∧ x < n) : ∀ (m : Nat) (out : List Int) (k : Int), 0 ≤ k → k + m ≤ (d.length : Int) → okOut n out → okOut n (flqref14_Cone_L1 d m out k) ∧ out.length ≤ (flqref14_Cone_L1 d m out k).length
  | 0, out, k, _, _, h => ⟨h, Nat.le_refl _⟩
  | m + 1, out, k, hk, hk2, h => by
    rw [flqref14_Cone_L1]
    have hx := hd _ (getD_mem (xs := d) (i := k.toNat) (d := 0) (by omega))
    cases hh : flqref7_Has out (d.getD k.toNat 0) with
    | true => simp only [Bool.not_true, cond_false]; exact Cone_L1_ok hd m out (k + 1) (by omega) (by omega) h
    | false =>
      simp only [Bool.not_false, cond_true]
      have := Cone_L1_ok hd m (out ++ [d.getD k.toNat 0]) (k + 1) (by omega) (by omega) (okOut_push h hh hx.1 hx.2)
      exact ⟨this.1, by have := this.2; simp only [List.length_append, List.length_cons, List.length_nil] at this; omega⟩
theorem Cone_L0_term {s : GSystem} {leaves : List Int} (hv : flqref10_Valid s = true) : ∀ (m : Nat) (out : List Int) (cost i : Int), 0 ≤ i → i ≤ (out.length : Int) → (s.Boundary.length : Int) < i + m → okOut (s.Boundary.length : Int) out → flqref14_Cone_L0 s leaves m out cost i ≠ .oof
  | 0, out, cost, i, h0, hi, h1, h2 => by have := okOut_len h2 (by omega); omega
  | m + 1, out, cost, i, h0, hi, h1, h2 => by
    rw [flqref14_Cone_L0]
    cases hlt : decide (i < (out.length : Int)) with
    | false => simp only [cond_false]; intro h; cases h
    | true =>
      have hlt := of_decide_eq_true hlt
      have hx := h2.2 _ (getD_mem (xs := out) (i := i.toNat) (d := 0) (by omega))
      simp only [cond_true]
      cases flqref7_Has leaves (out.getD i.toNat 0) with
      | true => exact Cone_L0_term hv m out (cost + 1) (i + 1) (by omega) (by omega) (by omega) h2
      | false =>
        simp only [cond_false]
        have h3 := Cone_L1_ok (Valid_dep_mem hv hx.1 hx.2) ((((s.Deps.getD (out.getD i.toNat 0).toNat []).length : Nat) : Int) - 0).toNat out 0 (by omega) (by omega) h2
        exact Cone_L0_term hv m _ _ (i + 1) (by omega) (by have := h3.2; omega) (by omega) h3.1
theorem okOut_one {s : GSystem} {root : Int} (h : flqref14_inside s [root] = true) : okOut (s.Boundary.length : Int) [root] := ⟨by simp, (inside_iff s [root]).1 h⟩
theorem cone_term {s : GSystem} {root : Int} {leaves : List Int} (hv : flqref10_Valid s = true) (hi : flqref14_inside s [root] = true) : flqref14_Cone_L0 s leaves (s.Deps.length + 1) [root] 0 0 ≠ .oof := by
  have := Valid_deps hv
  exact Cone_L0_term hv _ _ _ _ (by omega) (by simp) (by omega) (okOut_one hi)
theorem ranged_iff {w : Int} (h : bitset_ranged w = true) : 0 ≤ w ∧ w ≤ 256 := by
  unfold bitset_ranged at h
  simp [Bool.cond_eq_ite] at h; omega
theorem IndexFunc_any (s : List Int) (fp : Int → Bool) : slices_ContainsFunc_int s fp = true ↔ ∃ x ∈ s, fp x = true := by
  have key : ∀ (m : Nat) (i : Int), 0 ≤ i → (∃ j, slices_IndexFunc_int_L0 s fp m i = .ret j ∧ i ≤ j ∧ j < i + m ∧ fp (s.getD j.toNat 0) = true) ∨ (slices_IndexFunc_int_L0 s fp m i = .brk () ∧ ∀ j, i ≤ j → j < i + m → fp (s.getD j.toNat 0) = false) := by
    intro m
    induction m with
    | zero => intro i _; exact .inr ⟨rfl, fun j h1 h2 => by omega⟩
    | succ m ih =>
      intro i hi
      rw [slices_IndexFunc_int_L0]
      cases hp : fp (s.getD i.toNat 0) with
      | true => exact .inl ⟨i, rfl, by omega, by omega, hp⟩
      | false =>
        rcases ih (i + 1) (by omega) with ⟨j, e, j1, j2, j3⟩ | ⟨e, h⟩
        · exact .inl ⟨j, e, by omega, by omega, j3⟩
        · refine .inr ⟨e, fun j j1 j2 => ?_⟩
          rcases Int.lt_or_eq_of_le j1 with hlt | rfl
          · exact h j (by omega) (by omega)
          · exact hp
  unfold slices_ContainsFunc_int slices_IndexFunc_int
  rcases key ((((s.length : Nat) : Int) - 0).toNat) 0 (by omega) with ⟨j, e, j1, j2, j3⟩ | ⟨e, h⟩
  · rw [e]
    exact ⟨fun _ => ⟨_, getD_mem (by omega), j3⟩, fun _ => by simpa using j1⟩
  · rw [e]
    refine ⟨fun h => by simp at h, ?_⟩
    rintro ⟨x, hx, hf⟩
    obtain ⟨j, j1, j2, rfl⟩ := mem_getD.1 hx
    rw [h j j1 (by omega)] at hf; cases hf
theorem unknowns_iff (s : GSystem) (l : List Int) : cone_unknowns s l = true ↔ ∀ x ∈ l, 0 ≤ x ∧ x < (s.Deps.length : Int) := by
  unfold cone_unknowns
  have h := IndexFunc_any l (fun x => cone_unknowns_1 x s)
  constructor
  · intro hh x hx
    cases hc : slices_ContainsFunc_int l (fun x => cone_unknowns_1 x s) with
    | true => rw [hc] at hh; cases hh
    | false =>
      have : ¬ cone_unknowns_1 x s = true := fun e => by rw [h.2 ⟨x, hx, e⟩] at hc; cases hc
      simp [cone_unknowns_1, Bool.cond_eq_ite] at this
      omega
  · intro hh
    cases hc : slices_ContainsFunc_int l (fun x => cone_unknowns_1 x s) with
    | false => rfl
    | true =>
      obtain ⟨x, hx, e⟩ := h.1 hc
      have := hh x hx
      simp [cone_unknowns_1, Bool.cond_eq_ite] at e
      omega
theorem ascending_eq (l : List Int) (n : Int) : equations_ascending l n = flqref7_Rising l n := by
  have : ∀ m i, equations_ascending_L0 l n m i = flqref7_Rising_L0 l n m i := by
    intro m
    induction m with
    | zero => intro i; rfl
    | succ m ih => intro i; rw [equations_ascending_L0, flqref7_Rising_L0, ih]
  unfold equations_ascending flqref7_Rising
  rw [this]
  all_goals (generalize flqref7_Rising_L0 l n (((l.length : Nat) : Int) - 0).toNat 0 = r; cases r <;> rfl)
/-- What a valid system's dependencies are, by the program's own check. -/
theorem EValid_L0 {s : GSystem} : ∀ (m : Nat) (e i : Int), (equations_Valid_L0 s m e i = .ret false) ∨ ((equations_Valid_L0 s m e i = .brk ()) ∧ ∀ j, i ≤ j → j < i + m → flqref7_Rising (s.Deps.getD j.toNat []) (s.Deps.length : Int) = true)
  | 0, e, i => .inr ⟨rfl, fun j h1 h2 => by omega⟩
  | m + 1, e, i => by
    rw [equations_Valid_L0]
    simp only [Bool.cond_eq_ite]
    have ih := EValid_L0 (s := s) m (e + (((s.Deps.getD (i : Int).toNat []).length : Nat) : Int)) (i + 1)
    repeat' split
    all_goals first
      | exact .inl rfl
      | (rcases ih with h | ⟨ho, h⟩
         · exact .inl h
         · refine .inr ⟨ho, fun j j1 j2 => ?_⟩
           rcases Int.lt_or_eq_of_le j1 with hlt | rfl
           · exact h j (by omega) (by omega)
           · rw [← ascending_eq]; simp_all)
theorem EValid_deps {s : GSystem} (hv : equations_Valid s = true) : 1 ≤ s.Deps.length ∧ s.Deps.length ≤ 256 ∧ s.Transfers.length = s.Deps.length ∧ s.Boundary.length = s.Deps.length ∧ ∀ j : Int, 0 ≤ j → j < (s.Deps.length : Int) → flqref7_Rising (s.Deps.getD j.toNat []) (s.Deps.length : Int) = true := by
  unfold equations_Valid at hv
  simp only [Bool.cond_eq_ite] at hv
  split at hv
  · cases hv
  · rename_i h1
    split at hv
    · cases hv
    · rename_i h2
      split at hv
      · cases hv
      · rename_i h3
        simp [equations_sized, Bool.cond_eq_ite] at h1 h2 h3
        rcases EValid_L0 (s := s) ((((s.Deps.length : Nat) : Int) - 0).toNat) 0 0 with h | ⟨ho, h⟩
        · rw [h] at hv; cases hv
        · exact ⟨by omega, by omega, by omega, by omega, fun j j1 j2 => h j j1 (by omega)⟩
theorem EValid_dep_mem {s : GSystem} (hv : equations_Valid s = true) {j : Int} (h0 : 0 ≤ j) (h1 : j < (s.Deps.length : Int)) : ∀ x ∈ s.Deps.getD j.toNat [], 0 ≤ x ∧ x < (s.Deps.length : Int) :=
  Rising_mem ((EValid_deps hv).2.2.2.2 j h0 h1)
/-- What has been found is what is in the list. -/
def okFound (n : Int) (out : List Int) (found : List Bool) : Prop := okOut n out ∧ (found.length : Int) = n ∧ ∀ x : Int, 0 ≤ x → x < n → (found.getD x.toNat false = true ↔ x ∈ out)
theorem okFound_len {n : Int} {out : List Int} {found : List Bool} (h : okFound n out found) : (out.length : Int) ≤ n ∧ (found.length : Int) = n := ⟨okOut_len h.1 (by have := h.2.1; omega), h.2.1⟩
theorem okFound_push {n : Int} {out : List Int} {found : List Bool} {x : Int} (h : okFound n out found) (hx : found.getD x.toNat false = false) (h0 : 0 ≤ x) (h1 : x < n) : okFound n (out ++ [x]) (found.set x.toNat true) := by
  have hm : x ∉ out := fun e => by rw [(h.2.2 x h0 h1).2 e] at hx; cases hx
  refine ⟨okOut_push h.1 (by cases hh : flqref7_Has out x with | false => rfl | true => exact absurd ((Has_iff out x).1 hh) hm) h0 h1, by simp [h.2.1], fun y y0 y1 => ?_⟩
  have hl := h.2.1
  rw [List.mem_append, List.mem_singleton, ← h.2.2 y y0 y1]
  simp only [List.getD_eq_getElem?_getD, List.getElem?_set]
  by_cases e : x.toNat = y.toNat
  · have : x = y := by omega
    subst this
    rw [if_pos rfl, if_pos (by omega)]; simp
  · rw [if_neg e]
    exact ⟨.inl, fun h => h.elim id (fun h => absurd (by rw [h]) e)⟩
theorem okFound_one {s : GSystem} {root : Int} (h : cone_unknowns s [root] = true) : okFound (s.Deps.length : Int) [root] ((List.replicate (((s.Deps.length : Nat) : Int) : Int).toNat false).set (root : Int).toNat true) := by
  have h1 := (unknowns_iff s [root]).1 h root (by simp)
  refine ⟨⟨by simp, (unknowns_iff s [root]).1 h⟩, by simp, fun x x0 x1 => ?_⟩
  simp only [List.getD_eq_getElem?_getD, List.getElem?_set, List.mem_singleton]
  by_cases e : root.toNat = x.toNat
  · have : root = x := by omega
    subst this
    rw [if_pos rfl, if_pos (by simp; omega)]; simp
  · rw [if_neg e]
    simp [List.getElem?_replicate]
    constructor
    · intro h; split at h <;> simp at h
    · intro h; subst h; exact absurd rfl e
theorem Of_L1_ok {n : Int} {d : List Int} (hd : ∀ x ∈ d, 0 ≤ x ∧ x < n) : ∀ (m : Nat) (out : List Int) (found : List Bool) (cost k : Int), 0 ≤ k → k + m ≤ (d.length : Int) → okFound n out found →
    okFound n (cone_Of_L1 d m out found cost k).1 (cone_Of_L1 d m out found cost k).2.1 ∧ out.length ≤ (cone_Of_L1 d m out found cost k).1.length ∧ (cone_Of_L1 d m out found cost k).2.2 = cost + m ∧ (cone_Of_L1 d m out found cost k).1 = flqref14_Cone_L1 d m out k
  | 0, out, found, cost, k, _, _, h => ⟨h, Nat.le_refl _, by simp [cone_Of_L1], rfl⟩
  | m + 1, out, found, cost, k, hk, hk2, h => by
    rw [cone_Of_L1, flqref14_Cone_L1]
    have hx := hd _ (getD_mem (xs := d) (i := k.toNat) (d := 0) (by omega))
    have hh := h.2.2 _ hx.1 hx.2
    cases hf : found.getD (d.getD k.toNat 0).toNat false with
    | true =>
      have h2 := (Has_iff out _).2 (hh.1 hf)
      simp only [Bool.not_true, cond_false, h2]
      have := Of_L1_ok hd m out found (cost + 1) (k + 1) (by omega) (by omega) h
      exact ⟨this.1, this.2.1, by rw [this.2.2.1]; omega, this.2.2.2⟩
    | false =>
      have h2 : flqref7_Has out (d.getD k.toNat 0) = false := by
        cases h3 : flqref7_Has out (d.getD k.toNat 0) with
        | false => rfl
        | true => rw [hh.2 ((Has_iff out _).1 h3)] at hf; cases hf
      simp only [Bool.not_false, cond_true, h2]
      have := Of_L1_ok hd m (out ++ [d.getD k.toNat 0]) (found.set (d.getD k.toNat 0).toNat true) (cost + 1) (k + 1) (by omega) (by omega) (okFound_push h hf hx.1 hx.2)
      exact ⟨this.1, by have := this.2.1; simp only [List.length_append, List.length_cons, List.length_nil] at this; omega, by rw [this.2.2.1]; omega, this.2.2.2⟩
theorem Of_L0_term {s : GSystem} {leaves : List Int} (hv : equations_Valid s = true) : ∀ (m : Nat) (out : List Int) (found : List Bool) (cost i : Int), 0 ≤ i → i ≤ (out.length : Int) → (s.Deps.length : Int) < i + m → okFound (s.Deps.length : Int) out found → cone_Of_L0 s leaves m out found cost i ≠ .oof
  | 0, out, found, cost, i, h0, hi, h1, h2 => by have := (okFound_len h2).1; omega
  | m + 1, out, found, cost, i, h0, hi, h1, h2 => by
    rw [cone_Of_L0]
    cases hlt : decide (i < (out.length : Int)) with
    | false => simp only [cond_false]; intro h; cases h
    | true =>
      have hlt := of_decide_eq_true hlt
      have hx := h2.1.2 _ (getD_mem (xs := out) (i := i.toNat) (d := 0) (by omega))
      simp only [cond_true]
      cases slices_Contains_int leaves (out.getD i.toNat 0) with
      | true => exact Of_L0_term hv m out found (cost + 1) (i + 1) (by omega) (by omega) (by omega) h2
      | false =>
        simp only [cond_false]
        have h3 := Of_L1_ok (EValid_dep_mem hv hx.1 hx.2) ((((s.Deps.getD (out.getD i.toNat 0).toNat []).length : Nat) : Int) - 0).toNat out found (cost + 1) 0 (by omega) (by omega) h2
        exact Of_L0_term hv m _ _ _ (i + 1) (by omega) (by have := h3.2.1; omega) (by omega) h3.1
theorem of_term {s : GSystem} {root : Int} {leaves : List Int} (hv : equations_Valid s = true) (hi : cone_unknowns s [root] = true) : cone_Of_L0 s leaves (s.Deps.length + 1) [root] ((List.replicate (((s.Deps.length : Nat) : Int) : Int).toNat false).set (root : Int).toNat true) 0 0 ≠ .oof :=
  Of_L0_term hv _ _ _ _ _ (by omega) (by simp) (by omega) (okFound_one hi)
theorem scan' {σ : Type} (f : Nat → Int → LR σ Int) (p : Int → Bool) (c : σ) (h0 : ∀ i, f 0 i = .brk c) (h1 : ∀ r i, f (r + 1) i = bif p i then .ret i else f r (i + 1)) :
    ∀ (m : Nat) (i : Int), (∃ j, f m i = .ret j ∧ i ≤ j ∧ j < i + m ∧ p j = true) ∨ (f m i = .brk c ∧ ∀ j, i ≤ j → j < i + m → p j = false)
  | 0, i => .inr ⟨h0 i, fun j h1 h2 => by omega⟩
  | m + 1, i => by
    rw [h1]
    cases hp : p i with
    | true => exact .inl ⟨i, rfl, by omega, by omega, hp⟩
    | false =>
      rcases scan' f p c h0 h1 m (i + 1) with ⟨j, e, j1, j2, j3⟩ | ⟨e, h⟩
      · exact .inl ⟨j, e, by omega, by omega, j3⟩
      · refine .inr ⟨e, fun j j1 j2 => ?_⟩
        rcases Int.lt_or_eq_of_le j1 with hlt | rfl
        · exact h j (by omega) (by omega)
        · exact hp
theorem mem_getDg {α : Type} {l : List α} {n d : α} : n ∈ l ↔ ∃ j : Int, 0 ≤ j ∧ j < (l.length : Int) ∧ l.getD j.toNat d = n := by
  constructor
  · intro h
    obtain ⟨i, hi, e⟩ := List.getElem_of_mem h
    exact ⟨(i : Int), by omega, by omega, by simp [List.getD, hi, e]⟩
  · rintro ⟨j, j1, j2, rfl⟩
    exact getD_mem (by omega)
theorem Contains_iff (l : List Int) (n : Int) : slices_Contains_int l n = true ↔ n ∈ l := by
  have := scan' (fun r i => slices_Index_int_L0 l n r i) (fun i => n == l.getD i.toNat 0) () (fun _ => rfl) (fun _ _ => rfl) ((((l.length : Nat) : Int) - 0).toNat) 0
  unfold slices_Contains_int slices_Index_int
  rw [mem_getD]
  rcases this with ⟨j, e, j1, j2, j3⟩ | ⟨e, h⟩
  · rw [e]
    exact ⟨fun _ => ⟨j, j1, by omega, (eq_of_beq j3).symm⟩, fun _ => by simpa using j1⟩
  · rw [e]
    refine ⟨fun h => by simp at h, ?_⟩
    rintro ⟨j, j1, j2, j3⟩
    have := h j j1 (by omega)
    simp only [j3] at this; simp at this
theorem Contains_eq (l : List Int) (n : Int) : slices_Contains_int l n = flqref7_Has l n := by
  rw [Bool.eq_iff_iff, Contains_iff, Has_iff]
theorem Ints_self (a : List Int) : flqref7_Ints a a = true := by
  have := scan (fun r i => flqref7_Ints_L0 a a r i) (fun i => a.getD i.toNat 0 != a.getD i.toNat 0) false () (fun _ => rfl) (fun _ _ => rfl) ((((a.length : Nat) : Int) - 0).toNat) 0
  unfold flqref7_Ints
  rcases this with ⟨e, j, j1, j2, j3⟩ | ⟨e, h⟩
  · simp at j3
  · rw [e]; simp
/-! sets -/
def bitAt (ws : List (BitVec 64)) (b : Int) : Bool := (ws.getD (b / 64).toNat 0#64).getLsbD (b % 64).toNat
def VSet (s : GSet) : Prop := 0 ≤ s.Width ∧ s.Width ≤ 256 ∧ (s.Words.length : Int) = (s.Width + 63) / 64 ∧ ∀ b : Int, s.Width ≤ b → b < 64 * (s.Words.length : Int) → bitAt s.Words b = false
theorem ofInt_small {n : Int} (h : 0 ≤ n ∧ n < 18446744073709551616) : (((BitVec.ofInt 64 n).toNat : Int)).toNat = n.toNat := by
  rw [BitVec.toNat_ofInt]; omega
theorem bit_test (w : BitVec 64) (k : Nat) : (((w >>> k) &&& 1#64) == 1#64) = w.getLsbD k := by
  rw [BitVec.and_one_eq_setWidth_ofBool_getLsbD, BitVec.getLsbD_ushiftRight, Nat.add_zero]
  cases w.getLsbD k <;> rfl
theorem RValid_iff (s : GSet) : flqref1_Valid s = true ↔ VSet s := by
  have := scan (fun r i => flqref1_Valid_L0 s r i) (fun b => (((s.Words.getD ((b / 64) : Int).toNat 0#64) >>> (((BitVec.ofInt 64 (b % 64)).toNat : Int)).toNat) &&& 1#64) == 1#64) false () (fun _ => rfl) (fun _ _ => rfl)
    ((((64 * ((s.Words.length : Nat) : Int)) : Int) - s.Width).toNat) s.Width
  have hb : ∀ b : Int, ((((s.Words.getD ((b / 64) : Int).toNat 0#64) >>> (((BitVec.ofInt 64 (b % 64)).toNat : Int)).toNat) &&& 1#64) == 1#64) = bitAt s.Words b := by
    intro b
    rw [bit_test, ofInt_small (by omega)]; rfl
  simp only [hb] at this
  unfold flqref1_Valid VSet
  simp only [Bool.cond_eq_ite]
  by_cases h1 : s.Width < 0
  · simp [h1]; omega
  · by_cases h2 : 256 < s.Width
    · simp [h1, h2]; omega
    · by_cases h3 : (s.Words.length : Int) = (s.Width + 63) / 64
      · rcases this with ⟨e, j, j1, j2, j3⟩ | ⟨e, h⟩
        · rw [e]
          simp only [h1, h2, h3, decide_false, bne_self_eq_false, Bool.false_eq_true, if_false, false_iff]
          rintro ⟨_, _, _, h⟩
          rw [h j j1 (by omega)] at j3; cases j3
        · rw [e]
          simp only [h1, h2, h3, decide_false, bne_self_eq_false, Bool.false_eq_true, if_false, true_iff]
          refine ⟨by omega, by omega, trivial, fun b b1 b2 => h b b1 (by omega)⟩
      · simp [h1, h2, h3]
theorem spare_bit {w : Int} (h : 0 ≤ w ∧ w ≤ 256) (k : Nat) (hk : k < 64) : (bitset_spare w).getLsbD k = decide ((w % 64).toNat ≤ k) := by
  unfold bitset_spare
  have e : (((((BitVec.ofInt 64 w) % 64#64).toNat : Int)).toNat) = (w % 64).toNat := by
    rw [BitVec.toNat_umod, BitVec.toNat_ofInt]
    simp; omega
  rw [e, BitVec.getLsbD_shiftLeft]
  have e2 : (18446744073709551615#64) = BitVec.allOnes 64 := by decide
  rw [e2, BitVec.getLsbD_allOnes]
  rw [Bool.eq_iff_iff]
  simp [-Int.toNat_le]
  omega
theorem PValid_iff (s : GSet) : bitset_Valid s = true ↔ VSet s := by
  unfold bitset_Valid VSet
  simp only [bitset_ranged, bitset_words, Bool.cond_eq_ite]
  by_cases h1 : 0 ≤ s.Width
  · by_cases h2 : s.Width ≤ 256
    · by_cases h3 : (s.Words.length : Int) = (s.Width + 64 - 1) / 64
      · by_cases h4 : s.Width % 64 = 0
        · simp only [h1, h2, h3, h4]
          simp
          refine ⟨by omega, fun b b1 b2 => by omega⟩
        · simp only [h1, h2, decide_true, if_true, Bool.not_true, Bool.false_eq_true, if_false]
          have h3' : ((s.Words.length : Int) != (s.Width + 64 - 1) / 64) = false := by simp [h3]
          have h4' : (s.Width % 64 == 0) = false := by simp [h4]
          rw [h3', h4']
          simp only [Bool.false_eq_true, if_false]
          rw [beq_iff_eq]
          constructor
          · intro h
            refine ⟨trivial, trivial, by omega, fun b b1 b2 => ?_⟩
            have hq : (b / 64).toNat = ((s.Words.length : Int) - 1).toNat := by omega
            unfold bitAt
            rw [hq]
            have := congrArg (fun v : BitVec 64 => v.getLsbD (b % 64).toNat) h
            simp only [BitVec.getLsbD_and, BitVec.getLsbD_zero] at this
            rw [spare_bit ⟨h1, h2⟩ _ (by omega)] at this
            have hle : (s.Width % 64).toNat ≤ (b % 64).toNat := by omega
            simpa [hle] using this
          · rintro ⟨_, _, hl, h⟩
            apply BitVec.eq_of_getLsbD_eq
            intro k hk
            rw [BitVec.getLsbD_and, spare_bit ⟨h1, h2⟩ _ hk, BitVec.getLsbD_zero]
            by_cases hle : (s.Width % 64).toNat ≤ k
            · have := h (64 * ((s.Words.length : Int) - 1) + k) (by omega) (by omega)
              unfold bitAt at this
              rw [show ((64 * ((s.Words.length : Int) - 1) + k) / 64).toNat = ((s.Words.length : Int) - 1).toNat by omega, show ((64 * ((s.Words.length : Int) - 1) + k) % 64).toNat = k by omega] at this
              rw [this]; rfl
            · simp [hle]
      · have h3' : ((s.Words.length : Int) != (s.Width + 64 - 1) / 64) = true := by simp [h3]
        simp only [h1, h2, decide_true, if_true, Bool.not_true, Bool.false_eq_true, if_false, h3']
        constructor
        · intro h; cases h
        · rintro ⟨_, _, h, _⟩; omega
    · simp [h1, h2]
  · simp [h1]
theorem setValid_eq (s : GSet) : bitset_Valid s = flqref1_Valid s := by rw [Bool.eq_iff_iff, PValid_iff, RValid_iff]
theorem Or_two (x y : Int) : cmp_Or_int [x, y] = if x ≠ 0 then x else y := by
  have e : ((((([x, y].length : Nat) : Int) : Int) - 0).toNat) = 2 := rfl
  unfold cmp_Or_int
  rw [e]
  by_cases hx : x = 0
  · by_cases hy : y = 0
    · subst hx; subst hy; rfl
    · subst hx
      have h : (y != 0) = true := by simp [hy]
      simp [cmp_Or_int_L0, h]
  · have h : (x != 0) = true := by simp [hx]
    simp [cmp_Or_int_L0, h, hx]
theorem Compare_eq (x y : Int) : cmp_Compare_int x y = if x < y then -1 else if y < x then 1 else 0 := by
  simp [cmp_Compare_int, cmp_isNaN_int, Bool.cond_eq_ite]
theorem compare_eq (a b : GCopy) : decide (0 ≤ transfer_compare a b) = !(flqref1_Before a b) := by
  unfold transfer_compare flqref1_Before
  simp only [Or_two, Compare_eq, Bool.cond_eq_ite]
  rw [Bool.eq_iff_iff]
  by_cases h1 : a.From < b.From
  · simp [h1]
  · by_cases h2 : b.From < a.From
    · have : ¬ a.From = b.From := by omega
      simp [h1, h2, this]
    · have : a.From = b.From := by omega
      by_cases h3 : a.To < b.To
      · simp [this, h3]
      · by_cases h4 : b.To < a.To
        · simp [this, h3, h4]
        · simp [this, h3, h4]
theorem transferL_eq (t : GTransfer) : ∀ m i, transfer_Valid_L0 t m i = flqref1_ValidTransfer_L0 t m i := by
  intro m
  induction m with
  | zero => intro i; rfl
  | succ m ih =>
    intro i
    rw [transfer_Valid_L0, flqref1_ValidTransfer_L0]
    simp only [compare_eq, ih, transfer_bit, Bool.cond_eq_ite]
    generalize (t.Copies.getD i.toNat default).From = x
    generalize (t.Copies.getD i.toNat default).To = y
    by_cases h1 : x < 0
    · have : ¬ 0 ≤ x := by omega
      simp [h1, this]
    · by_cases h2 : t.Gen.Width ≤ x
      · have : ¬ x < t.Gen.Width := by omega
        simp [h1, h2, this]
      · by_cases h3 : y < 0
        · have : ¬ 0 ≤ y := by omega
          have h5 : x < t.Gen.Width := by omega
          have h6 : 0 ≤ x := by omega
          simp [h1, h2, h3, this, h5, h6]
        · have h5 : x < t.Gen.Width := by omega
          have h6 : 0 ≤ x := by omega
          have h7 : 0 ≤ y := by omega
          by_cases h4 : t.Gen.Width ≤ y
          · have : ¬ y < t.Gen.Width := by omega
            simp [h1, h2, h3, h4, this, h5, h6, h7]
          · have : y < t.Gen.Width := by omega
            simp [h1, h2, h3, h4, this, h5, h6, h7]
theorem transferValid_eq (t : GTransfer) : transfer_Valid t = flqref1_ValidTransfer t := by
  unfold transfer_Valid flqref1_ValidTransfer
  simp only [setValid_eq, transferL_eq]
  all_goals (generalize flqref1_ValidTransfer_L0 t (((((t.Copies.length : Nat) : Int) : Int) - 0).toNat) 0 = r; cases r <;> rfl)
theorem IndexFuncS_any (s : List GSet) (fp : GSet → Bool) : slices_ContainsFunc_Set s fp = true ↔ ∃ x ∈ s, fp x = true := by
  have := scan' (fun r i => slices_IndexFunc_Set_L0 s fp r i) (fun i => fp (s.getD i.toNat default)) () (fun _ => rfl) (fun _ _ => rfl) ((((s.length : Nat) : Int) - 0).toNat) 0
  unfold slices_ContainsFunc_Set slices_IndexFunc_Set
  rcases this with ⟨j, e, j1, j2, j3⟩ | ⟨e, h⟩
  · rw [e]
    exact ⟨fun _ => ⟨_, getD_mem (by omega), j3⟩, fun _ => by simpa using j1⟩
  · rw [e]
    refine ⟨fun h => by simp at h, ?_⟩
    rintro ⟨x, hx, hf⟩
    obtain ⟨j, j1, j2, rfl⟩ := (mem_getDg (d := default)).1 hx
    rw [h j j1 (by omega)] at hf; cases hf
theorem IndexFuncT_any (s : List GTransfer) (fp : GTransfer → Bool) : slices_ContainsFunc_Transfer s fp = true ↔ ∃ x ∈ s, fp x = true := by
  have := scan' (fun r i => slices_IndexFunc_Transfer_L0 s fp r i) (fun i => fp (s.getD i.toNat default)) () (fun _ => rfl) (fun _ _ => rfl) ((((s.length : Nat) : Int) - 0).toNat) 0
  unfold slices_ContainsFunc_Transfer slices_IndexFunc_Transfer
  rcases this with ⟨j, e, j1, j2, j3⟩ | ⟨e, h⟩
  · rw [e]
    exact ⟨fun _ => ⟨_, getD_mem (by omega), j3⟩, fun _ => by simpa using j1⟩
  · rw [e]
    refine ⟨fun h => by simp at h, ?_⟩
    rintro ⟨x, hx, hf⟩
    obtain ⟨j, j1, j2, rfl⟩ := (mem_getDg (d := default)).1 hx
    rw [h j j1 (by omega)] at hf; cases hf
/-! systems -/
def VTr (w : Int) (t : GTransfer) : Prop := flqref1_ValidTransfer t = true ∧ t.Gen.Width = w
def VSt (w : Int) (b : GSet) : Prop := VSet b ∧ b.Width = w
def tot (s : GSystem) : Nat → Int → Int
  | 0, _ => 0
  | m + 1, i => ((s.Deps.getD i.toNat []).length : Int) + tot s m (i + 1)
theorem tot_nn (s : GSystem) : ∀ m i, 0 ≤ tot s m i
  | 0, _ => Int.le_refl _
  | m + 1, i => by have := tot_nn s m (i + 1); simp only [tot]; omega
structure VSys (s : GSystem) : Prop where
  w : 0 ≤ s.Width ∧ s.Width ≤ 256
  n : 1 ≤ s.Deps.length ∧ s.Deps.length ≤ 256
  tl : s.Transfers.length = s.Deps.length
  bl : s.Boundary.length = s.Deps.length
  ris : ∀ j : Int, 0 ≤ j → j < (s.Deps.length : Int) → flqref7_Rising (s.Deps.getD j.toNat []) (s.Deps.length : Int) = true
  edges : tot s s.Deps.length 0 ≤ 1024
  tr : ∀ t ∈ s.Transfers, VTr s.Width t
  bd : ∀ b ∈ s.Boundary, VSt s.Width b
theorem E_L0 (s : GSystem) : ∀ (m : Nat) (e i : Int), (equations_Valid_L0 s m e i = .brk () ∧ (∀ j, i ≤ j → j < i + m → flqref7_Rising (s.Deps.getD j.toNat []) (s.Deps.length : Int) = true) ∧ (m = 0 ∨ e + tot s m i ≤ 1024)) ∨
    (equations_Valid_L0 s m e i = .ret false ∧ ¬ ((∀ j, i ≤ j → j < i + m → flqref7_Rising (s.Deps.getD j.toNat []) (s.Deps.length : Int) = true) ∧ (m = 0 ∨ e + tot s m i ≤ 1024)))
  | 0, e, i => .inl ⟨rfl, fun j h1 h2 => by omega, .inl rfl⟩
  | m + 1, e, i => by
    rw [equations_Valid_L0]
    simp only [Bool.cond_eq_ite, ascending_eq]
    have ht := tot_nn s m (i + 1)
    have hq : tot s (m + 1) i = ((s.Deps.getD i.toNat []).length : Int) + tot s m (i + 1) := rfl
    by_cases h1 : 1024 < e + ((s.Deps.getD i.toNat []).length : Int)
    · refine .inr ⟨by rw [decide_eq_true h1]; rfl, ?_⟩
      rintro ⟨_, h⟩; omega
    · rw [decide_eq_false h1]
      cases h2 : flqref7_Rising (s.Deps.getD i.toNat []) (s.Deps.length : Int) with
      | false =>
        refine .inr ⟨rfl, ?_⟩
        rintro ⟨h, _⟩
        have := h i (by omega) (by omega); rw [h2] at this; cases this
      | true =>
        rcases E_L0 s m (e + ((s.Deps.getD i.toNat []).length : Int)) (i + 1) with ⟨a, b, c⟩ | ⟨a, b⟩
        · refine .inl ⟨a, fun j j1 j2 => ?_, .inr ?_⟩
          · rcases Int.lt_or_eq_of_le j1 with hlt | rfl
            · exact b j (by omega) (by omega)
            · exact h2
          · rw [hq]
            rcases c with rfl | c
            · simp only [tot]; omega
            · omega
        · refine .inr ⟨a, ?_⟩
          rintro ⟨h, h'⟩
          exact b ⟨fun j j1 j2 => h j (by omega) (by omega), .inr (by omega)⟩
theorem sets_iff (w : Int) (l : List GSet) : equations_sets w l = true ↔ ∀ b ∈ l, VSt w b := by
  unfold equations_sets
  have h := IndexFuncS_any l (fun x => equations_sets_1 x w)
  have h1 : ∀ x, equations_sets_1 x w = false ↔ VSt w x := by
    intro x
    unfold equations_sets_1 VSt
    rw [← PValid_iff]
    cases bitset_Valid x <;> simp
  constructor
  · intro hh b hb
    cases hc : slices_ContainsFunc_Set l (fun x => equations_sets_1 x w) with
    | true => simp only [hc] at hh; cases hh
    | false =>
      refine (h1 b).1 ?_
      cases e : equations_sets_1 b w with
      | false => rfl
      | true => rw [h.2 ⟨b, hb, e⟩] at hc; cases hc
  · intro hh
    cases hc : slices_ContainsFunc_Set l (fun x => equations_sets_1 x w) with
    | false => rfl
    | true =>
      obtain ⟨x, hx, e⟩ := h.1 hc
      rw [(h1 x).2 (hh x hx)] at e; cases e
theorem trs_iff (s : GSystem) (l : List GTransfer) : (!(slices_ContainsFunc_Transfer l (fun x => equations_Valid_1 x s))) = true ↔ ∀ t ∈ l, VTr s.Width t := by
  have h := IndexFuncT_any l (fun x => equations_Valid_1 x s)
  have h1 : ∀ x, equations_Valid_1 x s = false ↔ VTr s.Width x := by
    intro x
    unfold equations_Valid_1 equations_fits VTr
    rw [transferValid_eq]
    cases flqref1_ValidTransfer x <;> simp
  constructor
  · intro hh b hb
    cases hc : slices_ContainsFunc_Transfer l (fun x => equations_Valid_1 x s) with
    | true => simp only [hc] at hh; cases hh
    | false =>
      refine (h1 b).1 ?_
      cases e : equations_Valid_1 b s with
      | false => rfl
      | true => rw [h.2 ⟨b, hb, e⟩] at hc; cases hc
  · intro hh
    cases hc : slices_ContainsFunc_Transfer l (fun x => equations_Valid_1 x s) with
    | false => rfl
    | true =>
      obtain ⟨x, hx, e⟩ := h.1 hc
      rw [(h1 x).2 (hh x hx)] at e; cases e
theorem EValid_iff (s : GSystem) : equations_Valid s = true ↔ VSys s := by
  unfold equations_Valid
  simp only [equations_sized, Bool.cond_eq_ite]
  by_cases h0 : (0 ≤ s.Width ∧ s.Width ≤ 256) ∧ (1 ≤ (s.Deps.length : Int) ∧ (s.Deps.length : Int) ≤ 256)
  · obtain ⟨⟨a, b⟩, c, d⟩ := h0
    simp only [a, b, c, d, decide_true, if_true, Bool.not_true, Bool.false_eq_true, if_false]
    by_cases h1 : (s.Transfers.length : Int) = (s.Deps.length : Int)
    · by_cases h2 : (s.Boundary.length : Int) = (s.Deps.length : Int)
      · have h1' : ((s.Transfers.length : Int) != (s.Deps.length : Int)) = false := by simp [h1]
        have h2' : ((s.Boundary.length : Int) != (s.Deps.length : Int)) = false := by simp [h2]
        simp only [h1', h2', Bool.false_eq_true, if_false]
        have hm : ((((s.Deps.length : Nat) : Int) : Int) - 0).toNat = s.Deps.length := by omega
        rw [hm]
        rcases E_L0 s s.Deps.length 0 0 with ⟨e, p, q⟩ | ⟨e, p⟩
        · rw [e]
          simp only
          by_cases h3 : equations_sets s.Width s.Boundary = true
          · rw [h3]
            simp only [if_true]
            rw [trs_iff]
            exact ⟨fun h => ⟨⟨a, b⟩, by omega, by omega, by omega, fun j j1 j2 => p j j1 (by omega), by omega, h, (sets_iff _ _).1 h3⟩, fun h => h.tr⟩
          · simp only [h3]
            exact ⟨fun h => by simp at h, fun h => absurd ((sets_iff _ _).2 h.bd) h3⟩
        · rw [e]
          exact ⟨fun h => (by cases h), fun h => absurd ⟨fun j j1 j2 => h.ris j j1 (by omega), .inr (by have := h.edges; omega)⟩ p⟩
      · have h1' : ((s.Transfers.length : Int) != (s.Deps.length : Int)) = false := by simp [h1]
        have h2' : ((s.Boundary.length : Int) != (s.Deps.length : Int)) = true := by simp [h2]
        simp only [h1', h2', Bool.false_eq_true, if_false, if_true]
        exact ⟨fun h => (by cases h), fun h => absurd (by have := h.bl; omega) h2⟩
    · have h1' : ((s.Transfers.length : Int) != (s.Deps.length : Int)) = true := by simp [h1]
      simp only [h1', if_true]
      exact ⟨fun h => (by cases h), fun h => absurd (by have := h.tl; omega) h1⟩
  · constructor
    · intro h
      exfalso
      apply h0
      by_cases a : 0 ≤ s.Width
      · by_cases b : s.Width ≤ 256
        · by_cases c : 1 ≤ (s.Deps.length : Int)
          · by_cases d : (s.Deps.length : Int) ≤ 256
            · exact ⟨⟨a, b⟩, c, d⟩
            · simp [a, b, c, d] at h
          · simp [a, b, c] at h
        · simp [a, b] at h
      · simp [a] at h
    · intro h
      exact absurd ⟨h.w, by have := h.n; omega⟩ h0
/-! what is known of a valid system -/
theorem tot_ge (s : GSystem) : ∀ (m : Nat) (i j : Int), i ≤ j → j < i + m → ((s.Deps.getD j.toNat []).length : Int) ≤ tot s m i
  | 0, i, j, h1, h2 => by omega
  | m + 1, i, j, h1, h2 => by
    simp only [tot]
    rcases Int.lt_or_eq_of_le h1 with h | rfl
    · have := tot_ge s m (i + 1) j (by omega) (by omega); omega
    · have := tot_nn s m (i + 1); omega
theorem VSys.dep_len {s : GSystem} (h : VSys s) (j : Int) (h0 : 0 ≤ j) (h1 : j < (s.Deps.length : Int)) : (s.Deps.getD j.toNat []).length ≤ 1024 := by
  have := tot_ge s s.Deps.length 0 j h0 (by omega)
  have := h.edges
  omega
theorem VSet.words {s : GSet} (h : VSet s) : 0 ≤ s.Width ∧ s.Width ≤ 256 ∧ s.Words.length ≤ 4 := by
  obtain ⟨a, b, c, _⟩ := h
  omega
theorem ValidTransfer_parts {t : GTransfer} (h : flqref1_ValidTransfer t = true) : VSet t.Gen ∧ VSet t.Kill ∧ t.Gen.Width = t.Kill.Width ∧ t.Copies.length ≤ 64 := by
  unfold flqref1_ValidTransfer at h
  cases h1 : flqref1_Valid t.Gen with
  | false => simp [h1] at h
  | true =>
    cases h2 : flqref1_Valid t.Kill with
    | false => simp [h1, h2] at h
    | true =>
      by_cases h3 : t.Gen.Width = t.Kill.Width
      · by_cases h4 : 64 < (t.Copies.length : Int)
        · simp [h1, h2, h3, h4] at h
        · exact ⟨(RValid_iff _).1 h1, (RValid_iff _).1 h2, h3, by omega⟩
      · simp [h1, h2, h3] at h
theorem VSys.tr_at {s : GSystem} (h : VSys s) {j : Int} (h0 : 0 ≤ j) (h1 : j < (s.Transfers.length : Int)) :
    (0 ≤ (s.Transfers.getD j.toNat default).Gen.Width ∧ (s.Transfers.getD j.toNat default).Gen.Width ≤ 256 ∧ (s.Transfers.getD j.toNat default).Gen.Words.length ≤ 4) ∧
    (0 ≤ (s.Transfers.getD j.toNat default).Kill.Width ∧ (s.Transfers.getD j.toNat default).Kill.Width ≤ 256 ∧ (s.Transfers.getD j.toNat default).Kill.Words.length ≤ 4) ∧ (s.Transfers.getD j.toNat default).Copies.length ≤ 64 := by
  obtain ⟨a, b, c, d⟩ := ValidTransfer_parts (h.tr _ (getD_mem (xs := s.Transfers) (i := j.toNat) (d := default) (by omega))).1
  exact ⟨a.words, b.words, d⟩
theorem VSys.bd_at {s : GSystem} (h : VSys s) {j : Int} (h0 : 0 ≤ j) (h1 : j < (s.Boundary.length : Int)) :
    0 ≤ (s.Boundary.getD j.toNat default).Width ∧ (s.Boundary.getD j.toNat default).Width ≤ 256 ∧ (s.Boundary.getD j.toNat default).Words.length ≤ 4 :=
  (h.bd _ (getD_mem (xs := s.Boundary) (i := j.toNat) (d := default) (by omega))).1.words
def SetOk (s : GSet) : Prop := -1000 ≤ s.Width ∧ s.Width ≤ 1000 ∧ s.Words.length ≤ 1000
def TrOk (t : GTransfer) : Prop := SetOk t.Gen ∧ SetOk t.Kill ∧ t.Copies.length ≤ 1000
theorem VSet.ok {s : GSet} (h : VSet s) : SetOk s := by have := h.words; unfold SetOk; omega
theorem VSys.tr_ok {s : GSystem} (h : VSys s) {t : GTransfer} (ht : t ∈ s.Transfers) : TrOk t := by
  obtain ⟨a, b, c, d⟩ := ValidTransfer_parts (h.tr _ ht).1
  exact ⟨a.ok, b.ok, by omega⟩
theorem VSys.bd_ok {s : GSystem} (h : VSys s) {b : GSet} (hb : b ∈ s.Boundary) : SetOk b := (h.bd _ hb).1.ok
def okAt (s : GSystem) (j : Int) : Prop := flqref7_Rising (s.Deps.getD j.toNat []) (s.Boundary.length : Int) = true ∧ VTr s.Width (s.Transfers.getD j.toNat default) ∧ VSt s.Width (s.Boundary.getD j.toNat default)
theorem R_L0 (s : GSystem) : ∀ (m : Nat) (e i : Int), (flqref10_Valid_L0 s m e i = .brk (e + tot s m i) ∧ (∀ j, i ≤ j → j < i + m → okAt s j)) ∨ (flqref10_Valid_L0 s m e i = .ret false ∧ ¬ (∀ j, i ≤ j → j < i + m → okAt s j))
  | 0, e, i => .inl ⟨by simp [flqref10_Valid_L0, tot], fun j h1 h2 => by omega⟩
  | m + 1, e, i => by
    rw [flqref10_Valid_L0]
    have ih := R_L0 s m (e + (((s.Deps.getD (i : Int).toNat []).length : Nat) : Int)) (i + 1)
    by_cases ho : okAt s i
    · obtain ⟨h1, ⟨h2, h3⟩, h4, h5⟩ := ho
      have h4' := (RValid_iff _).2 h4
      simp only [h1, h2, h3, h4', h5, Bool.not_true, bne_self_eq_false, cond_false]
      rcases ih with ⟨a, b⟩ | ⟨a, b⟩
      · refine .inl ⟨?_, fun j j1 j2 => ?_⟩
        · rw [a]; simp only [tot]; congr 1; omega
        · rcases Int.lt_or_eq_of_le j1 with hlt | rfl
          · exact b j (by omega) (by omega)
          · exact ⟨h1, ⟨h2, h3⟩, h4, h5⟩
      · exact .inr ⟨a, fun h => b fun j j1 j2 => h j (by omega) (by omega)⟩
    · refine .inr ⟨?_, fun h => ho (h i (by omega) (by omega))⟩
      unfold okAt VTr VSt at ho
      rw [← RValid_iff] at ho
      cases h1 : flqref7_Rising (s.Deps.getD i.toNat []) (s.Boundary.length : Int) with
      | false => rfl
      | true =>
        cases h2 : flqref1_ValidTransfer (s.Transfers.getD i.toNat default) with
        | false => rfl
        | true =>
          cases h3 : ((s.Transfers.getD i.toNat default).Gen.Width != s.Width) with
          | true => simp only [h3]; rfl
          | false =>
            cases h4 : flqref1_Valid (s.Boundary.getD i.toNat default) with
            | false => simp only [h3]; rfl
            | true =>
              cases h5 : ((s.Boundary.getD i.toNat default).Width != s.Width) with
              | true => simp only [h3, h5]; rfl
              | false =>
                exfalso
                apply ho
                rw [h1, h2, h4]
                exact ⟨rfl, ⟨rfl, by simpa [-List.getD_eq_getElem?_getD] using h3⟩, rfl, by simpa [-List.getD_eq_getElem?_getD] using h5⟩
theorem okAt_all {s : GSystem} (hd : s.Deps.length = s.Boundary.length) (ht : s.Transfers.length = s.Boundary.length) :
    (∀ j : Int, 0 ≤ j → j < (s.Boundary.length : Int) → okAt s j) ↔ (∀ j : Int, 0 ≤ j → j < (s.Deps.length : Int) → flqref7_Rising (s.Deps.getD j.toNat []) (s.Deps.length : Int) = true) ∧ (∀ t ∈ s.Transfers, VTr s.Width t) ∧ (∀ b ∈ s.Boundary, VSt s.Width b) := by
  constructor
  · intro h
    refine ⟨fun j j1 j2 => ?_, fun t ht' => ?_, fun b hb => ?_⟩
    · have := (h j j1 (by omega)).1; rw [hd]; exact this
    · obtain ⟨j, j1, j2, rfl⟩ := (mem_getDg (d := default)).1 ht'
      exact (h j j1 (by omega)).2.1
    · obtain ⟨j, j1, j2, rfl⟩ := (mem_getDg (d := default)).1 hb
      exact (h j j1 (by omega)).2.2
  · rintro ⟨h1, h2, h3⟩ j j1 j2
    exact ⟨by rw [← hd]; exact h1 j j1 (by omega), h2 _ (getD_mem (by omega)), h3 _ (getD_mem (by omega))⟩
theorem RefValid_iff (s : GSystem) : flqref10_Valid s = true ↔ VSys s := by
  unfold flqref10_Valid
  simp only [Bool.cond_eq_ite]
  by_cases h1 : s.Width < 0
  · simp only [h1, decide_true, if_true]; exact ⟨fun h => (by cases h), fun h => by have := h.w; omega⟩
  by_cases h2 : 256 < s.Width
  · simp only [h1, h2, decide_true, decide_false, if_true, if_false, Bool.false_eq_true]; exact ⟨fun h => (by cases h), fun h => by have := h.w; omega⟩
  by_cases h3 : (s.Boundary.length : Int) < 1
  · simp only [h1, h2, h3, decide_true, decide_false, if_true, if_false, Bool.false_eq_true]; exact ⟨fun h => (by cases h), fun h => by have := h.n; have := h.bl; omega⟩
  by_cases h4 : 256 < (s.Boundary.length : Int)
  · simp only [h1, h2, h3, h4, decide_true, decide_false, if_true, if_false, Bool.false_eq_true]; exact ⟨fun h => (by cases h), fun h => by have := h.n; have := h.bl; omega⟩
  by_cases h5 : (s.Deps.length : Int) = (s.Boundary.length : Int)
  case neg =>
    have h5' : ((s.Deps.length : Int) != (s.Boundary.length : Int)) = true := by simp [h5]
    simp only [h1, h2, h3, h4, h5', decide_true, decide_false, if_true, if_false, Bool.false_eq_true]; exact ⟨fun h => (by cases h), fun h => by have := h.bl; omega⟩
  have h5' : ((s.Deps.length : Int) != (s.Boundary.length : Int)) = false := by simp [h5]
  by_cases h6 : (s.Transfers.length : Int) = (s.Boundary.length : Int)
  case neg =>
    have h6' : ((s.Transfers.length : Int) != (s.Boundary.length : Int)) = true := by simp [h6]
    simp only [h1, h2, h3, h4, h5', h6', decide_true, decide_false, if_true, if_false, Bool.false_eq_true]; exact ⟨fun h => (by cases h), fun h => by have := h.bl; have := h.tl; omega⟩
  have h6' : ((s.Transfers.length : Int) != (s.Boundary.length : Int)) = false := by simp [h6]
  simp only [h1, h2, h3, h4, h5', h6', decide_false, if_false, Bool.false_eq_true]
  have hm : ((((s.Boundary.length : Nat) : Int) : Int) - 0).toNat = s.Boundary.length := by omega
  rw [hm]
  have hall := okAt_all (s := s) (by omega) (by omega)
  rcases R_L0 s s.Boundary.length 0 0 with ⟨e, p⟩ | ⟨e, p⟩
  · rw [e]
    simp only [decide_eq_true_eq]
    have hp := hall.1 (fun j j1 j2 => p j j1 (by omega))
    constructor
    · intro h
      exact ⟨by omega, by omega, by omega, by omega, hp.1, by rw [show s.Deps.length = s.Boundary.length by omega]; omega, hp.2.1, hp.2.2⟩
    · intro h
      have := h.edges
      rw [show s.Deps.length = s.Boundary.length by omega] at this; omega
  · rw [e]
    exact ⟨fun h => (by cases h), fun h => absurd (fun j j1 j2 => (hall.2 ⟨h.ris, h.tr, h.bd⟩) j j1 (by omega)) p⟩
theorem Valid_eq (s : GSystem) : equations_Valid s = flqref10_Valid s := by rw [Bool.eq_iff_iff, EValid_iff, RefValid_iff]
theorem unknowns_eq {s : GSystem} (hv : VSys s) (l : List Int) : cone_unknowns s l = flqref14_inside s l := by
  rw [Bool.eq_iff_iff, unknowns_iff, inside_iff]
  have := hv.bl
  constructor
  · intro h x hx; have := h x hx; omega
  · intro h x hx; have := h x hx; omega
theorem Of_L0_eq {s : GSystem} {leaves : List Int} (hv : equations_Valid s = true) : ∀ (m : Nat) (out : List Int) (found : List Bool) (cost i : Int), 0 ≤ i → okFound (s.Deps.length : Int) out found →
    (cone_Of_L0 s leaves m out found cost i) = flqref14_Cone_L0 s leaves m out cost i
  | 0, out, found, cost, i, _, _ => rfl
  | m + 1, out, found, cost, i, h0, h => by
    rw [cone_Of_L0, flqref14_Cone_L0]
    by_cases hlt : i < (out.length : Int)
    · have hx := h.1.2 _ (getD_mem (xs := out) (i := i.toNat) (d := 0) (by omega))
      simp only [decide_eq_true hlt, cond_true, Contains_eq]
      cases flqref7_Has leaves (out.getD i.toNat 0) with
      | true => exact Of_L0_eq hv m out found (cost + 1) (i + 1) (by omega) h
      | false =>
        simp only [cond_false]
        have h3 := Of_L1_ok (EValid_dep_mem hv hx.1 hx.2) ((((s.Deps.getD (out.getD i.toNat 0).toNat []).length : Nat) : Int) - 0).toNat out found (cost + 1) 0 (by omega) (by omega) h
        rw [Of_L0_eq hv m _ _ _ (i + 1) (by omega) h3.1, h3.2.2.1, h3.2.2.2]
        congr 1
        all_goals omega
    · simp only [decide_eq_false hlt, cond_false]
theorem Clip_eq (l : List Int) : slices_Clip_int l = l := by
  unfold slices_Clip_int
  simp
theorem Cone_eq (s : GSystem) (root : Int) (leaves : List Int) : cone_Of s root leaves = flqref14_Cone s root leaves := by
  unfold cone_Of flqref14_Cone
  rw [← Valid_eq]
  cases hv : equations_Valid s with
  | false => rfl
  | true =>
    have hs := (EValid_iff s).1 hv
    simp only [unknowns_eq hs, Bool.not_true, cond_false]
    cases h1 : flqref14_inside s [root] with
    | false => rfl
    | true =>
      cases h2 : flqref14_inside s leaves with
      | false => rfl
      | true =>
        simp only [Bool.not_true, cond_false]
        rw [Of_L0_eq hv _ _ _ _ _ (by omega) (okFound_one (by rw [unknowns_eq hs]; exact h1))]
        have ht := cone_term (leaves := leaves) (by rw [← Valid_eq]; exact hv) h1
        generalize flqref14_Cone_L0 s leaves (s.Deps.length + 1) [root] 0 0 = r at ht
        cases r with
        | brk p => obtain ⟨p, q⟩ := p; simp only [Clip_eq]
        | ret _ => rfl
        | oof => exact absurd rfl ht
/-! closed sets -/
theorem ClosedL0 {n : Int} {set_ : List Int} : ∀ (m : Nat) (ins : List Bool) (k : Int), 0 ≤ k → k + m ≤ (set_.length : Int) → (ins.length : Int) = n → (∀ x ∈ set_, 0 ≤ x ∧ x < n) →
    ((cone_Closed_L0 set_ m ins k).length : Int) = n ∧ ∀ x : Int, 0 ≤ x → x < n → ((cone_Closed_L0 set_ m ins k).getD x.toNat false = true ↔ (ins.getD x.toNat false = true ∨ ∃ j : Int, k ≤ j ∧ j < k + m ∧ set_.getD j.toNat 0 = x))
  | 0, ins, k, _, _, hl, _ => ⟨hl, fun x _ _ => ⟨.inl, fun h => h.elim id (fun ⟨j, h1, h2, _⟩ => by omega)⟩⟩
  | m + 1, ins, k, hk, hk2, hl, hs => by
    rw [cone_Closed_L0]
    have hx := hs _ (getD_mem (xs := set_) (i := k.toNat) (d := 0) (by omega))
    obtain ⟨a, b⟩ := ClosedL0 (n := n) (set_ := set_) m (ins.set (set_.getD k.toNat 0).toNat true) (k + 1) (by omega) (by omega) (by simp [hl]) hs
    refine ⟨a, fun x x0 x1 => ?_⟩
    rw [b x x0 x1]
    simp only [List.getD_eq_getElem?_getD, List.getElem?_set]
    constructor
    · rintro (h | ⟨j, j1, j2, j3⟩)
      · by_cases e : ((set_[k.toNat]?).getD 0).toNat = x.toNat
        · refine .inr ⟨k, by omega, by omega, ?_⟩
          have : (set_.getD k.toNat 0) = (set_[k.toNat]?).getD 0 := by rw [List.getD_eq_getElem?_getD]
          rw [this] at hx
          omega
        · rw [if_neg e] at h; exact .inl h
      · exact .inr ⟨j, by omega, by omega, j3⟩
    · rintro (h | ⟨j, j1, j2, j3⟩)
      · left
        by_cases e : ((set_[k.toNat]?).getD 0).toNat = x.toNat
        · rw [if_pos e]
          rw [if_pos (by omega)]; rfl
        · rw [if_neg e]; exact h
      · rcases Int.lt_or_eq_of_le j1 with hlt | rfl
        · exact .inr ⟨j, by omega, by omega, j3⟩
        · left
          have e : ((set_[k.toNat]?).getD 0).toNat = x.toNat := by omega
          rw [if_pos e, if_pos (by omega)]; rfl
theorem Closed_L1_iff (s : GSystem) (set_ leaves : List Int) (ins : List Bool) (hin : ∀ x : Int, 0 ≤ x → x < (s.Deps.length : Int) → (ins.getD x.toNat false = true ↔ x ∈ set_)) (hv : equations_Valid s = true) (hs : ∀ x ∈ set_, 0 ≤ x ∧ x < (s.Deps.length : Int)) :
    ∀ (m : Nat) (i : Int), 0 ≤ i → i + m ≤ (set_.length : Int) → cone_Closed_L1 s set_ leaves ins m i = flqref14_closed_L0 s set_ leaves m i := by
  intro m
  induction m with
  | zero => intro i _ _; rfl
  | succ m ih =>
    intro i hi hi2
    rw [cone_Closed_L1, flqref14_closed_L0]
    have hx := hs _ (getD_mem (xs := set_) (i := i.toNat) (d := 0) (by omega))
    have hd := EValid_dep_mem hv hx.1 hx.2
    generalize s.Deps.getD (set_.getD i.toNat 0).toNat [] = d at hd
    simp only [Contains_eq]
    have ih' := ih (i + 1) (by omega) (by omega)
    cases hl : flqref7_Has leaves (set_.getD i.toNat 0) with
    | true =>
      have : ∀ (q : Nat) (k : Int), flqref14_closed_L1 set_ leaves i d q k = .brk () := by
        intro q
        induction q with
        | zero => intro k; rfl
        | succ q ihq => intro k; rw [flqref14_closed_L1]; simp only [hl, Bool.not_true, cond_false]; exact ihq _
      simp only [this, Bool.not_true, cond_false, ih']
    | false =>
      simp only [Bool.not_false, cond_true]
      have sc := scan (fun r k => flqref14_closed_L1 set_ leaves i d r k) (fun k => !(flqref7_Has set_ (d.getD k.toNat 0))) false () (fun _ => rfl) (fun r k => by
        show flqref14_closed_L1 set_ leaves i d (r + 1) k = _
        rw [flqref14_closed_L1]; simp only [hl, Bool.not_false, cond_true]) ((((d.length : Nat) : Int) - 0).toNat) 0
      have any := IndexFunc_any d (fun x => cone_Closed_1 x ins)
      have hc1 : ∀ x ∈ d, cone_Closed_1 x ins = !(flqref7_Has set_ x) := by
        intro x hx
        have hb := hd x hx
        have := hin x hb.1 hb.2
        unfold cone_Closed_1
        congr 1
        rw [Bool.eq_iff_iff, this, Has_iff]
      rcases sc with ⟨e, j, j1, j2, j3⟩ | ⟨e, h⟩
      · have hm := getD_mem (xs := d) (i := j.toNat) (d := 0) (by omega)
        rw [any.2 ⟨_, hm, by rw [hc1 _ hm]; exact j3⟩]
        simp only [cond_true]
        rw [e]
      · have : slices_ContainsFunc_int d (fun x => cone_Closed_1 x ins) = false := by
          cases hc : slices_ContainsFunc_int d (fun x => cone_Closed_1 x ins) with
          | false => rfl
          | true =>
            obtain ⟨x, hx, e2⟩ := any.1 hc
            rw [hc1 x hx] at e2
            obtain ⟨j, j1, j2, rfl⟩ := mem_getD.1 hx
            have := h j j1 (by omega)
            rw [e2] at this; cases this
        rw [this, e]
        simp only [cond_false, ih']
theorem Closed_eq (s : GSystem) (set_ leaves : List Int) : cone_Closed s set_ leaves = flqref14_Closed s set_ leaves := by
  unfold cone_Closed flqref14_Closed
  rw [← Valid_eq]
  cases hv : equations_Valid s with
  | false => rfl
  | true =>
    have hs := (EValid_iff s).1 hv
    simp only [unknowns_eq hs, Bool.not_true, cond_false, cond_true]
    cases h1 : flqref14_inside s set_ with
    | false => rfl
    | true =>
      cases h2 : flqref14_inside s leaves with
      | false => rfl
      | true =>
        simp only [Bool.not_true, cond_false, cond_true]
        have hset := (unknowns_iff s set_).1 (by rw [unknowns_eq hs]; exact h1)
        obtain ⟨a, b⟩ := ClosedL0 (n := (s.Deps.length : Int)) (set_ := set_) ((((set_.length : Nat) : Int) - 0).toNat) (List.replicate (((s.Deps.length : Nat) : Int) : Int).toNat false) 0 (by omega) (by omega) (by simp) hset
        rw [Closed_L1_iff s set_ leaves _ (fun x x0 x1 => by
          rw [b x x0 x1, mem_getD]
          constructor
          · rintro (h | ⟨j, j1, j2, j3⟩)
            · simp [List.getElem?_replicate] at h
              split at h <;> simp at h
            · exact ⟨j, j1, by omega, j3⟩
          · rintro ⟨j, j1, j2, j3⟩
            exact .inr ⟨j, j1, by omega, j3⟩) hv hset _ 0 (by omega) (by omega)]
        unfold flqref14_closed
        generalize flqref14_closed_L0 s set_ leaves ((((set_.length : Nat) : Int) - 0).toNat) 0 = r
        cases r <;> rfl
theorem agrees_true (s : GSystem) (root : Int) (leaves set_ : List Int) : flqlaw14_agrees s root leaves set_ = true := by
  unfold flqlaw14_agrees
  rw [Cone_eq, Closed_eq]
  simp [Ints_self]
/-! the generator's values are valid -/
theorem Next_rng (t : List Int) (k n : Int) (hn : n ≤ 9223372036854775807) : 0 ≤ (Tape_Next t k n).1 ∧ ((Tape_Next t k n).1 < n ∨ (Tape_Next t k n).1 = 0) := by
  unfold Tape_Next
  by_cases h1 : n ≤ 1
  · simp [h1]
  · by_cases h2 : (t.length : Int) ≤ k
    · simp [h1, h2]
    · simp only [decide_eq_false h1, decide_eq_false h2, cond_false]
      have := mod_range (t.getD (k + 1 - 1).toNat 0) n (by omega)
      unfold flqgen_Mod
      exact ⟨this.1, .inl this.2⟩
theorem Next_lt (t : List Int) (k n : Int) (h1 : 1 ≤ n) (hn : n ≤ 9223372036854775807) : 0 ≤ (Tape_Next t k n).1 ∧ (Tape_Next t k n).1 < n := by
  have := Next_rng t k n hn; omega
theorem bitAt_replicate (n : Nat) (b : Int) : bitAt (List.replicate n 0#64) b = false := by
  unfold bitAt
  rw [List.getD_eq_getElem?_getD, List.getElem?_replicate]
  split <;> simp
theorem Empty_V {w : Int} (h0 : 0 ≤ w) (h1 : w ≤ 256) : VSt w (flqref1_Empty w) := by
  refine ⟨⟨h0, h1, ?_, fun b _ _ => bitAt_replicate _ b⟩, rfl⟩
  simp [flqref1_Empty]; omega
theorem Put_V {w : Int} {s : GSet} (h : VSt w s) {b : Int} (hb : 0 ≤ b ∧ b < w) : VSt w (flqref1_Put s b) := by
  obtain ⟨⟨h0, h1, h2, h3⟩, rfl⟩ := h
  have he : (List.replicate (((s.Width + 63) / 64) : Int).toNat 0#64).length = s.Words.length := by simp; omega
  have e : (flqref1_Put s b).Words = s.Words.set (b / 64).toNat ((s.Words.getD (b / 64).toNat 0#64) ||| (1#64 <<< (b % 64).toNat)) := by
    unfold flqref1_Put flqref1_Empty
    simp only
    have e1 : s.Words.take (List.replicate (((s.Width + 63) / 64) : Int).toNat 0#64).length ++ (List.replicate (((s.Width + 63) / 64) : Int).toNat 0#64).drop s.Words.length = s.Words := by
      rw [he, List.take_length, ← he, List.drop_length, List.append_nil]
    rw [e1, ofInt_small (by omega)]
  refine ⟨⟨h0, h1, ?_, fun c c1 c2 => ?_⟩, rfl⟩
  · rw [e, List.length_set]; exact h2
  · rw [e, List.length_set] at c2
    have c1 : s.Width ≤ c := c1
    have := h3 c c1 c2
    rw [e]
    unfold bitAt at this ⊢
    rw [List.getD_eq_getElem?_getD] at this ⊢
    rw [List.getElem?_set]
    by_cases hq : (b / 64).toNat = (c / 64).toNat
    · rw [if_pos hq, if_pos (by clear e he; omega)]
      simp only [Option.getD_some, BitVec.getLsbD_or]
      rw [List.getD_eq_getElem?_getD, hq, this, Bool.false_or, BitVec.getLsbD_shiftLeft]
      have : ¬ (c % 64).toNat = (b % 64).toNat := by
        omega
      rw [BitVec.getLsbD_one]
      simp
      omega
    · rw [if_neg hq]; exact this
theorem Set_L0_V {t : List Int} {w : Int} : ∀ (m : Nat) (k : Int) (s0 : Int) (s1 : List (BitVec 64)) (b : Int), 0 ≤ b → b + m ≤ w → VSt w ⟨s0, s1⟩ → VSt w ⟨(Tape_Set_L0 t m k s0 s1 b).2.1, (Tape_Set_L0 t m k s0 s1 b).2.2⟩
  | 0, k, s0, s1, b, _, _, h => h
  | m + 1, k, s0, s1, b, hb, hm, h => by
    rw [Tape_Set_L0]
    cases (Tape_Next t k 3).1 == 1 with
    | true => exact Set_L0_V m _ _ _ (b + 1) (by omega) (by omega) (Put_V h ⟨hb, by omega⟩)
    | false => exact Set_L0_V m _ _ _ (b + 1) (by omega) (by omega) h
theorem Set_V (t : List Int) (k : Int) {w : Int} (h0 : 0 ≤ w) (h1 : w ≤ 256) : VSt w (Tape_Set t k w).1 := by
  unfold Tape_Set
  exact Set_L0_V _ _ _ _ _ (by omega) (by omega) (Empty_V h0 h1)
theorem Transfer_L0_V {t : List Int} {w : Int} : ∀ (m : Nat) (k : Int) (f0 : Int) (f1 : List (BitVec 64)) (f2 : Int) (f3 : List (BitVec 64)) (b : Int), 0 ≤ b → b + m ≤ w → VSt w ⟨f0, f1⟩ → VSt w ⟨f2, f3⟩ →
    VSt w ⟨(Tape_Transfer_L0 t m k f0 f1 f2 f3 b).2.1, (Tape_Transfer_L0 t m k f0 f1 f2 f3 b).2.2.1⟩ ∧ VSt w ⟨(Tape_Transfer_L0 t m k f0 f1 f2 f3 b).2.2.2.1, (Tape_Transfer_L0 t m k f0 f1 f2 f3 b).2.2.2.2⟩
  | 0, k, f0, f1, f2, f3, b, _, _, h, h' => ⟨h, h'⟩
  | m + 1, k, f0, f1, f2, f3, b, hb, hm, h, h' => by
    rw [Tape_Transfer_L0]
    cases (Tape_Next t k 6).1 == 1 with
    | true => exact Transfer_L0_V m _ _ _ _ _ (b + 1) (by omega) (by omega) (Put_V h ⟨hb, by omega⟩) h'
    | false =>
      cases (Tape_Next t k 6).1 == 2 with
      | true => exact Transfer_L0_V m _ _ _ _ _ (b + 1) (by omega) (by omega) h (Put_V h' ⟨hb, by omega⟩)
      | false =>
        cases (Tape_Next t k 6).1 == 3 with
        | true => exact Transfer_L0_V m _ _ _ _ _ (b + 1) (by omega) (by omega) h (Put_V h' ⟨hb, by omega⟩)
        | false => exact Transfer_L0_V m _ _ _ _ _ (b + 1) (by omega) (by omega) h h'
/-- Copies in their order, all before (a, b). -/
def CpOk (w : Int) (l : List GCopy) (a b : Int) : Prop := l.length ≤ 12 ∧ (∀ c ∈ l, (0 ≤ c.From ∧ c.From < w) ∧ (0 ≤ c.To ∧ c.To < w) ∧ (c.From < a ∨ (c.From = a ∧ c.To < b))) ∧ l.Pairwise (fun x y => flqref1_Before x y = true)
theorem Before_iff (x y : GCopy) : flqref1_Before x y = true ↔ x.From < y.From ∨ (x.From = y.From ∧ x.To < y.To) := by
  unfold flqref1_Before
  by_cases h : x.From < y.From
  · simp [h]
  · by_cases h2 : x.From = y.From
    · simp [h2]
    · simp [h, h2]
theorem CpOk.next {w : Int} {l : List GCopy} {a b a' b' : Int} (h : CpOk w l a b) (hab : a < a' ∨ (a = a' ∧ b ≤ b')) : CpOk w l a' b' :=
  ⟨h.1, fun c hc => ⟨(h.2.1 c hc).1, (h.2.1 c hc).2.1, by have := (h.2.1 c hc).2.2; omega⟩, h.2.2⟩
theorem CpOk.push {w : Int} {l : List GCopy} {a b : Int} (h : CpOk w l a b) (hl : l.length < 12) (ha : 0 ≤ a ∧ a < w) (hb : 0 ≤ b ∧ b < w) : CpOk w (l ++ [⟨a, b⟩]) a (b + 1) := by
  refine ⟨by simp; omega, fun c hc => ?_, ?_⟩
  · rcases List.mem_append.1 hc with hc | hc
    · have := h.2.1 c hc; exact ⟨this.1, this.2.1, by omega⟩
    · simp at hc; subst hc; exact ⟨ha, hb, .inr ⟨rfl, by show b < b + 1; omega⟩⟩
  · rw [List.pairwise_append]
    refine ⟨h.2.2, by simp, fun x hx y hy => ?_⟩
    simp at hy; subst hy
    rw [Before_iff]
    exact (h.2.1 x hx).2.2
theorem Transfer_L2_V {t : List Int} {w a : Int} (ha : 0 ≤ a ∧ a < w) : ∀ (m : Nat) (k : Int) (l : List GCopy) (b : Int), 0 ≤ b → b + m ≤ w → CpOk w l a b → CpOk w (Tape_Transfer_L2 t w a m k l b).2 (a + 1) 0
  | 0, k, l, b, _, _, h => h.next (.inl (by omega))
  | m + 1, k, l, b, hb, hm, h => by
    rw [Tape_Transfer_L2]
    by_cases hl : (l.length : Int) < 12
    · simp only [decide_eq_true hl, cond_true]
      cases (Tape_Next t k (2 * w)).1 == 1 with
      | true => exact Transfer_L2_V ha m _ _ (b + 1) (by omega) (by omega) (h.push (by omega) ha ⟨hb, by omega⟩)
      | false => exact Transfer_L2_V ha m _ _ (b + 1) (by omega) (by omega) (h.next (.inr ⟨rfl, by omega⟩))
    · simp only [decide_eq_false hl, cond_false]
      exact h.next (.inl (by omega))
theorem Transfer_L1_V {t : List Int} {w : Int} : ∀ (m : Nat) (k : Int) (l : List GCopy) (a : Int), 0 ≤ a → a + m ≤ w → CpOk w l a 0 → ∃ a', CpOk w (Tape_Transfer_L1 t w m k l a).2 a' 0
  | 0, k, l, a, _, _, h => ⟨a, h⟩
  | m + 1, k, l, a, ha, hm, h => by
    rw [Tape_Transfer_L1]
    exact Transfer_L1_V m _ _ (a + 1) (by omega) (by omega) (Transfer_L2_V ⟨ha, by omega⟩ _ _ _ _ (by omega) (by omega) h)
theorem ValidTransfer_mk {t : GTransfer} (hg : VSet t.Gen) (hk : VSet t.Kill) (he : t.Gen.Width = t.Kill.Width) (hl : t.Copies.length ≤ 64) (hc : ∀ c ∈ t.Copies, (0 ≤ c.From ∧ c.From < t.Gen.Width) ∧ (0 ≤ c.To ∧ c.To < t.Gen.Width)) (hs : t.Copies.Pairwise (fun x y => flqref1_Before x y = true)) :
    flqref1_ValidTransfer t = true := by
  have loop : ∀ (m : Nat) (i : Int), 0 ≤ i → i + m ≤ (t.Copies.length : Int) → flqref1_ValidTransfer_L0 t m i = .brk () := by
    intro m
    induction m with
    | zero => intro i _ _; rfl
    | succ m ih =>
      intro i hi hm
      rw [flqref1_ValidTransfer_L0]
      have := hc _ (getD_mem (xs := t.Copies) (i := i.toNat) (d := default) (by omega))
      rw [decide_eq_false (by omega), decide_eq_false (by omega), decide_eq_false (by omega), decide_eq_false (by omega)]
      simp only [cond_false]
      rw [ih (i + 1) (by omega) (by omega)]
      by_cases h0 : 0 < i
      · simp only [decide_eq_true h0, cond_true]
        have hb : flqref1_Before (t.Copies.getD (i - 1).toNat default) (t.Copies.getD i.toNat default) = true := by
          have hp := List.pairwise_iff_getElem.1 hs (i - 1).toNat i.toNat (by omega) (by omega) (by omega)
          have g1 : t.Copies.getD (i - 1).toNat default = t.Copies[(i - 1).toNat]'(by omega) := by rw [List.getD_eq_getElem?_getD, List.getElem?_eq_getElem (show (i - 1).toNat < t.Copies.length by omega)]; rfl
          have g2 : t.Copies.getD i.toNat default = t.Copies[i.toNat]'(by omega) := by rw [List.getD_eq_getElem?_getD, List.getElem?_eq_getElem (show i.toNat < t.Copies.length by omega)]; rfl
          rw [g1, g2]; exact hp
        rw [hb]; rfl
      · simp only [decide_eq_false h0, cond_false]
  unfold flqref1_ValidTransfer
  rw [(RValid_iff _).2 hg, (RValid_iff _).2 hk]
  have e1 : (t.Gen.Width != t.Kill.Width) = false := by simp [he]
  have e2 : decide (64 < ((t.Copies.length : Nat) : Int)) = false := decide_eq_false (by omega)
  simp only [Bool.not_true, cond_false, e1, e2]
  rw [loop _ 0 (by omega) (by omega)]
theorem Transfer_V (t : List Int) (k : Int) {w : Int} (h0 : 0 ≤ w) (h1 : w ≤ 256) : VTr w (Tape_Transfer t k w).1 := by
  unfold Tape_Transfer
  simp only
  have hE := Empty_V h0 h1
  have a := Transfer_L0_V (t := t) (w := w) ((w : Int) - 0).toNat k _ _ _ _ 0 (by omega) (by omega) hE hE
  obtain ⟨a', b⟩ := Transfer_L1_V (t := t) (w := w) ((w : Int) - 0).toNat (Tape_Transfer_L0 t ((w : Int) - 0).toNat k (flqref1_Empty w).Width (flqref1_Empty w).Words (flqref1_Empty w).Width (flqref1_Empty w).Words 0).1 [] 0 (by omega) (by omega) ⟨by simp, by simp, by simp⟩
  refine ⟨ValidTransfer_mk a.1.1 a.2.1 (a.1.2.trans a.2.2.symm) (by have := b.1; simp only; omega) (fun c hc => ?_) b.2.2, a.1.2⟩
  have := b.2.1 c hc
  have hw := a.1.2.symm
  exact ⟨⟨this.1.1, hw ▸ this.1.2⟩, this.2.1.1, hw ▸ this.2.1.2⟩
theorem getD_of_lt {l : List Int} {j : Nat} (h : j < l.length) : l.getD j 0 = l[j] := by simp [List.getD, List.getElem?_eq_getElem h]
/-- Numbers below n that rise. -/
def RisP (l : List Int) (n : Int) : Prop := (∀ x ∈ l, 0 ≤ x ∧ x < n) ∧ l.Pairwise (· < ·)
theorem Rising_mk {l : List Int} {n : Int} (h : RisP l n) : flqref7_Rising l n = true := by
  have loop : ∀ (m : Nat) (i : Int), 0 ≤ i → i + m ≤ (l.length : Int) → flqref7_Rising_L0 l n m i = .brk () := by
    intro m
    induction m with
    | zero => intro i _ _; rfl
    | succ m ih =>
      intro i hi hm
      rw [flqref7_Rising_L0]
      have := h.1 _ (getD_mem (xs := l) (i := i.toNat) (d := 0) (by omega))
      rw [decide_eq_false (by omega), decide_eq_false (by omega)]
      simp only [cond_false]
      rw [ih (i + 1) (by omega) (by omega)]
      by_cases h0 : 0 < i
      · have hp := List.pairwise_iff_getElem.1 h.2 (i - 1).toNat i.toNat (by omega) (by omega) (by omega)
        have hb : ¬ l.getD i.toNat 0 ≤ l.getD (i - 1).toNat 0 := by
          rw [getD_of_lt (show i.toNat < l.length by omega), getD_of_lt (show (i - 1).toNat < l.length by omega)]; omega
        simp only [decide_eq_true h0, cond_true, decide_eq_false hb, cond_false]
      · simp only [decide_eq_false h0, cond_false]
  unfold flqref7_Rising
  rw [loop _ 0 (by omega) (by omega)]
theorem Insert_L0_spec (l : List Int) (n : Int) : ∀ (m : Nat) (i : Int), 0 ≤ i → i + m = (l.length : Int) → (∀ j : Int, 0 ≤ j → j < i → l.getD j.toNat 0 < n) →
    i ≤ flqref7_Insert_L0 l n m i ∧ flqref7_Insert_L0 l n m i ≤ (l.length : Int) ∧ (∀ j : Int, 0 ≤ j → j < flqref7_Insert_L0 l n m i → l.getD j.toNat 0 < n) ∧ (flqref7_Insert_L0 l n m i < (l.length : Int) → n ≤ l.getD (flqref7_Insert_L0 l n m i).toNat 0)
  | 0, i, hi, hm, h => by
    simp only [flqref7_Insert_L0]
    exact ⟨by omega, by omega, h, fun h' => by omega⟩
  | m + 1, i, hi, hm, h => by
    rw [flqref7_Insert_L0]
    by_cases hlt : l.getD i.toNat 0 < n
    · simp only [decide_eq_true hlt, cond_true]
      have := Insert_L0_spec l n m (i + 1) (by omega) (by omega) (fun j j0 j1 => by
        rcases Int.lt_or_eq_of_le (show j ≤ i by omega) with h' | rfl
        · exact h j j0 h'
        · exact hlt)
      exact ⟨by omega, this.2.1, this.2.2⟩
    · simp only [decide_eq_false hlt, cond_false]
      exact ⟨by omega, by omega, h, fun _ => by omega⟩
theorem Insert_spec (l : List Int) (n : Int) : flqref7_Insert l n = l ∧ n ∈ l ∨ ∃ q : Nat, q ≤ l.length ∧ flqref7_Insert l n = l.take q ++ [n] ++ l.drop q ∧ (∀ j : Nat, j < q → l.getD j 0 < n) ∧ (q < l.length → n < l.getD q 0) := by
  have hs := Insert_L0_spec l n ((((l.length : Nat) : Int) - 0).toNat) 0 (by omega) (by omega) (fun j h1 h2 => by omega)
  unfold flqref7_Insert
  simp only
  generalize flqref7_Insert_L0 l n ((((l.length : Nat) : Int) - 0).toNat) 0 = q at hs
  obtain ⟨h0, h1, h2, h3⟩ := hs
  have e : ((((l.take ((q : Int).toNat)).drop 0)) ++ [n]) ++ ((l.take l.length).drop ((q : Int).toNat)) = l.take q.toNat ++ [n] ++ l.drop q.toNat := by simp
  rw [e]
  by_cases hq : q < (l.length : Int)
  · simp only [decide_eq_true hq, cond_true]
    by_cases hn : l.getD q.toNat 0 = n
    · have hb : (l.getD q.toNat 0 == n) = true := by rw [hn]; simp
      rw [hb]
      exact .inl ⟨rfl, hn ▸ getD_mem (by omega)⟩
    · have hb : (l.getD q.toNat 0 == n) = false := by rw [beq_eq_false_iff_ne]; exact hn
      rw [hb]
      have := h3 hq
      exact .inr ⟨q.toNat, by omega, rfl, fun j hj => by have := h2 (j : Int) (by omega) (by omega); simpa [-List.getD_eq_getElem?_getD] using this, fun _ => by omega⟩
  · simp only [decide_eq_false hq, cond_false]
    exact .inr ⟨q.toNat, by omega, rfl, fun j hj => by have := h2 (j : Int) (by omega) (by omega); simpa [-List.getD_eq_getElem?_getD] using this, fun h => by omega⟩
theorem Insert_mem (l : List Int) (n x : Int) : x ∈ flqref7_Insert l n ↔ x ∈ l ∨ x = n := by
  rcases Insert_spec l n with ⟨e, h⟩ | ⟨q, _, e, _, _⟩
  · rw [e]
    exact ⟨.inl, fun h' => h'.elim id (fun e => e ▸ h)⟩
  · rw [e]
    have hm : x ∈ l ↔ x ∈ l.take q ∨ x ∈ l.drop q := by
      have := List.mem_append (a := x) (s := l.take q) (t := l.drop q)
      rw [List.take_append_drop] at this; exact this
    rw [hm]
    simp only [List.mem_append, List.mem_singleton]
    constructor
    · rintro ((h | h) | h)
      · exact .inl (.inl h)
      · exact .inr h
      · exact .inl (.inr h)
    · rintro ((h | h) | h)
      · exact .inl (.inl h)
      · exact .inr h
      · exact .inl (.inr h)
theorem Insert_RisP {l : List Int} {n x : Int} (h : RisP l n) (hx : 0 ≤ x ∧ x < n) : RisP (flqref7_Insert l x) n ∧ (flqref7_Insert l x).length ≤ l.length + 1 := by
  refine ⟨⟨fun y hy => ?_, ?_⟩, ?_⟩
  · rcases (Insert_mem l x y).1 hy with h' | rfl
    · exact h.1 y h'
    · exact hx
  · rcases Insert_spec l x with ⟨e, _⟩ | ⟨q, hq, e, h1, h2⟩
    · rw [e]; exact h.2
    · rw [e, List.pairwise_append, List.pairwise_append]
      refine ⟨⟨h.2.sublist (List.take_sublist q l), by simp, fun a ha b hb => ?_⟩, h.2.sublist (List.drop_sublist q l), fun a ha b hb => ?_⟩
      · rw [List.mem_singleton] at hb; subst hb
        obtain ⟨j, hj, rfl⟩ := List.mem_iff_getElem.1 ha
        rw [List.length_take] at hj
        have := h1 j (by omega)
        rw [getD_of_lt (by omega)] at this
        simpa using this
      · have hbx : x < b := by
          obtain ⟨j, hj, rfl⟩ := List.mem_iff_getElem.1 hb
          simp at hj
          have h3 := h2 (by omega)
          rw [getD_of_lt (by omega)] at h3
          rw [List.getElem_drop]
          rcases Nat.eq_zero_or_pos j with rfl | hj0
          · simpa using h3
          · have := List.pairwise_iff_getElem.1 h.2 q (q + j) (by omega) (by omega) (by omega)
            omega
        rcases List.mem_append.1 ha with ha | ha
        · have hax : a < x := by
            obtain ⟨j, hj, rfl⟩ := List.mem_iff_getElem.1 ha
            rw [List.length_take] at hj
            have := h1 j (by omega)
            rw [getD_of_lt (by omega)] at this
            simpa using this
          omega
        · simp at ha; omega
  · rcases Insert_spec l x with ⟨e, _⟩ | ⟨q, hq, e, _, _⟩
    · rw [e]; omega
    · rw [e]; simp; omega
theorem System_L1_V {t : List Int} {n : Int} (hn : 1 ≤ n ∧ n ≤ 9223372036854775807) : ∀ (m : Nat) (k : Int) (d : List Int) (q : Int), RisP d n → RisP (Tape_System_L1 t n m k d q).2 n ∧ (Tape_System_L1 t n m k d q).2.length ≤ d.length + m
  | 0, k, d, q, h => ⟨h, by simp [Tape_System_L1]⟩
  | m + 1, k, d, q, h => by
    rw [Tape_System_L1]
    have hi := Insert_RisP h (Next_lt t k n hn.1 hn.2)
    have := System_L1_V (t := t) hn m (Tape_Next t k n).2 _ (q - 1) hi.1
    exact ⟨this.1, by have := this.2; have := hi.2; omega⟩
/-- What System's loop keeps. -/
structure SysP (w n : Int) (s1 : List (List Int)) (s2 : List GTransfer) (s3 : List GSet) (i : Int) : Prop where
  l1 : (s1.length : Int) = i
  l2 : (s2.length : Int) = i
  l3 : (s3.length : Int) = i
  d : ∀ x ∈ s1, RisP x n ∧ x.length ≤ 3
  t : ∀ x ∈ s2, VTr w x
  b : ∀ x ∈ s3, VSt w x
theorem System_L0_V {t : List Int} {w n : Int} (hw : 0 ≤ w ∧ w ≤ 256) (hn : 1 ≤ n ∧ n ≤ 9223372036854775807) : ∀ (m : Nat) (k : Int) (s1 : List (List Int)) (s2 : List GTransfer) (s3 : List GSet) (i : Int), SysP w n s1 s2 s3 i →
    SysP w n (Tape_System_L0 t n w m k s1 s2 s3 i).2.1 (Tape_System_L0 t n w m k s1 s2 s3 i).2.2.1 (Tape_System_L0 t n w m k s1 s2 s3 i).2.2.2 (i + m)
  | 0, k, s1, s2, s3, i, h => by simpa [Tape_System_L0] using h
  | m + 1, k, s1, s2, s3, i, h => by
    rw [Tape_System_L0]
    simp only
    have h4 := Next_lt t k 4 (by omega) (by omega)
    have hd := System_L1_V hn (Tape_Next t k 4).1.toNat (Tape_Next t k 4).2 [] (Tape_Next t k 4).1 ⟨by simp, by simp⟩ (t := t)
    have add : ∀ {x : List Int} {y : GTransfer} {z : GSet}, (RisP x n ∧ x.length ≤ 3) → VTr w y → VSt w z → SysP w n (s1 ++ [x]) (s2 ++ [y]) (s3 ++ [z]) (i + 1) := fun {x y z} hx hy hz =>
      ⟨by have := h.l1; simp; omega, by have := h.l2; simp; omega, by have := h.l3; simp; omega,
        fun a ha => (List.mem_append.1 ha).elim (h.d a) (fun e => by simp at e; subst e; exact hx),
        fun a ha => (List.mem_append.1 ha).elim (h.t a) (fun e => by simp at e; subst e; exact hy),
        fun a ha => (List.mem_append.1 ha).elim (h.b a) (fun e => by simp at e; subst e; exact hz)⟩
    have hd2 : (Tape_System_L1 t n (Tape_Next t k 4).1.toNat (Tape_Next t k 4).2 [] (Tape_Next t k 4).1).2.length ≤ 3 := by
      have := hd.2
      simp only [List.length_nil] at this
      omega
    have e : (i + ((m + 1 : Nat) : Int)) = (i + 1) + m := by omega
    rw [e]
    cases (Tape_Next t (Tape_System_L1 t n (Tape_Next t k 4).1.toNat (Tape_Next t k 4).2 [] (Tape_Next t k 4).1).1 3).1 == 1 with
    | true => exact System_L0_V hw hn m _ _ _ _ (i + 1) (add ⟨hd.1, hd2⟩ (Transfer_V t _ hw.1 hw.2) (Set_V t _ hw.1 hw.2))
    | false => exact System_L0_V hw hn m _ _ _ _ (i + 1) (add ⟨hd.1, hd2⟩ (Transfer_V t _ hw.1 hw.2) (Empty_V hw.1 hw.2))
theorem tot_le {s : GSystem} {b : Nat} (h : ∀ x ∈ s.Deps, x.length ≤ b) : ∀ (m : Nat) (i : Int), tot s m i ≤ (m : Int) * b
  | 0, i => by simp [tot]
  | m + 1, i => by
    simp only [tot]
    have ih := tot_le h m (i + 1)
    have : ((s.Deps.getD i.toNat []).length : Int) ≤ b := by
      rw [List.getD_eq_getElem?_getD]
      cases hx : s.Deps[i.toNat]? with
      | none => simp
      | some x => have := h x (List.mem_of_getElem? hx); simp; omega
    have e : ((m + 1 : Nat) : Int) * b = (m : Int) * b + b := by rw [Int.natCast_add, Int.add_mul]; simp
    omega
theorem System_V (t : List Int) (k : Int) {n : Int} (hn : 0 ≤ n ∧ n ≤ 250) : VSys (Tape_System t k n).1 := by
  unfold Tape_System
  simp only
  have hw := Next_lt t k 7 (by omega) (by omega)
  have hw2 := width_rng t k
  have hr := Next_rng t (Tape_Width t k).2 n (by omega)
  have hN : 1 ≤ 1 + (Tape_Next t (Tape_Width t k).2 n).1 ∧ 1 + (Tape_Next t (Tape_Width t k).2 n).1 ≤ 251 := by omega
  have hW : 0 ≤ (Tape_Width t k).1 % 5 ∧ (Tape_Width t k).1 % 5 ≤ 4 := by omega
  have hL := System_L0_V (t := t) (w := (Tape_Width t k).1 % 5) (n := 1 + (Tape_Next t (Tape_Width t k).2 n).1) (by omega) (by omega) ((1 + (Tape_Next t (Tape_Width t k).2 n).1) - 0).toNat (Tape_Next t (Tape_Width t k).2 n).2 [] [] [] 0 ⟨by simp, by simp, by simp, by simp, by simp, by simp⟩
  have e : (0 : Int) + (((1 + (Tape_Next t (Tape_Width t k).2 n).1) - 0).toNat : Int) = 1 + (Tape_Next t (Tape_Width t k).2 n).1 := by omega
  rw [e] at hL
  generalize Tape_System_L0 t (1 + (Tape_Next t (Tape_Width t k).2 n).1) ((Tape_Width t k).1 % 5) ((1 + (Tape_Next t (Tape_Width t k).2 n).1) - 0).toNat (Tape_Next t (Tape_Width t k).2 n).2 [] [] [] 0 = R at hL ⊢
  obtain ⟨r0, r1, r2, r3⟩ := R
  simp only at hL ⊢
  obtain ⟨l1, l2, l3, d, tr, b⟩ := hL
  refine ⟨by simp only; omega, by simp only; omega, by simp only; omega, by simp only; omega, fun j j0 j1 => ?_, ?_, tr, b⟩
  · simp only at j1 ⊢
    rw [l1]
    exact Rising_mk (d _ (getD_mem (by omega))).1
  · refine Int.le_trans (tot_le (b := 3) (fun x hx => (d x hx).2) _ _) ?_
    simp only; omega
theorem System_V' {t : List Int} {k n : Int} {r : GSystem × Int} (h : Tape_System t k n = r) (hn : 0 ≤ n ∧ n ≤ 250) : VSys r.1 := h ▸ System_V t k hn
theorem VSys.dep_any {s : GSystem} (h : VSys s) (i : Nat) : (s.Deps.getD i []).length ≤ 1024 := by
  rcases Nat.lt_or_ge i s.Deps.length with hi | hi
  · have := h.dep_len (i : Int) (by omega) (by omega)
    simpa using this
  · rw [List.getD_eq_getElem?_getD, List.getElem?_eq_none hi]; simp
theorem VSys.app_bd {s : GSystem} (h : VSys s) {i n : Nat} (hn : n ≤ 1000) : ((s.Deps.getD i []).length + n) * Rep.bytes Int ≤ maxBytes := by
  have := h.dep_any i
  show (_ + _) * 8 ≤ 140737488355328
  omega
theorem VSys.app_bd0 {s : GSystem} (h : VSys s) {i : Nat} : (s.Deps.getD i []).length * Rep.bytes Int ≤ maxBytes := by
  have := h.dep_any i
  show _ * 8 ≤ 140737488355328
  omega
theorem sane_true : flqlaw14_sane = true := by kernel_rfl
/-! ConeClosed -/
def deps (s : GSystem) (x : Int) : List Int := s.Deps.getD x.toNat []
def ClosedP (s : GSystem) (set_ leaves : List Int) : Prop := ∀ x ∈ set_, x ∉ leaves → ∀ y ∈ deps s x, y ∈ set_
theorem closed_iff (s : GSystem) (set_ leaves : List Int) : flqref14_closed s set_ leaves = true ↔ ClosedP s set_ leaves := by
  have inner : ∀ (i : Int) (d : List Int), (flqref14_closed_L1 set_ leaves i d ((((d.length : Nat) : Int) - 0).toNat) 0 = .brk () ∧ (set_.getD i.toNat 0 ∉ leaves → ∀ y ∈ d, y ∈ set_)) ∨
      (flqref14_closed_L1 set_ leaves i d ((((d.length : Nat) : Int) - 0).toNat) 0 = .ret false ∧ ¬ (set_.getD i.toNat 0 ∉ leaves → ∀ y ∈ d, y ∈ set_)) := by
    intro i d
    have sc := scan (fun r k => flqref14_closed_L1 set_ leaves i d r k) (fun k => !(flqref7_Has leaves (set_.getD i.toNat 0)) && !(flqref7_Has set_ (d.getD k.toNat 0))) false () (fun _ => rfl) (fun r k => by
      show flqref14_closed_L1 set_ leaves i d (r + 1) k = _
      rw [flqref14_closed_L1]
      cases flqref7_Has leaves (set_.getD i.toNat 0) <;> cases flqref7_Has set_ (d.getD k.toNat 0) <;> rfl) ((((d.length : Nat) : Int) - 0).toNat) 0
    rcases sc with ⟨e, j, j1, j2, j3⟩ | ⟨e, h⟩
    · refine .inr ⟨e, fun hh => ?_⟩
      simp only [Bool.and_eq_true, Bool.not_eq_true'] at j3
      have h1 := Has_false j3.1
      exact Has_false j3.2 (hh h1 _ (getD_mem (by omega)))
    · refine .inl ⟨e, fun hl y hy => ?_⟩
      obtain ⟨j, j1, j2, rfl⟩ := mem_getD.1 hy
      have := h j j1 (by omega)
      have hl' : flqref7_Has leaves (set_.getD i.toNat 0) = false := by
        cases hq : flqref7_Has leaves (set_.getD i.toNat 0) with
        | false => rfl
        | true => exact absurd ((Has_iff _ _).1 hq) hl
      rw [hl'] at this
      simp only [Bool.not_false, Bool.true_and, Bool.not_eq_false'] at this
      exact (Has_iff _ _).1 this
  have outer : ∀ (m : Nat) (i : Int), (flqref14_closed_L0 s set_ leaves m i = .brk () ∧ ∀ j, i ≤ j → j < i + m → set_.getD j.toNat 0 ∉ leaves → ∀ y ∈ deps s (set_.getD j.toNat 0), y ∈ set_) ∨
      (flqref14_closed_L0 s set_ leaves m i = .ret false ∧ ¬ ∀ j, i ≤ j → j < i + m → set_.getD j.toNat 0 ∉ leaves → ∀ y ∈ deps s (set_.getD j.toNat 0), y ∈ set_) := by
    intro m
    induction m with
    | zero => intro i; exact .inl ⟨rfl, fun j h1 h2 => by omega⟩
    | succ m ih =>
      intro i
      rw [flqref14_closed_L0]
      rcases inner i (s.Deps.getD (set_.getD i.toNat 0).toNat []) with ⟨e, h⟩ | ⟨e, h⟩
      · rw [e]
        simp only
        rcases ih (i + 1) with ⟨e2, h2⟩ | ⟨e2, h2⟩
        · refine .inl ⟨e2, fun j j1 j2 => ?_⟩
          rcases Int.lt_or_eq_of_le j1 with hlt | rfl
          · exact h2 j (by omega) (by omega)
          · exact h
        · exact .inr ⟨e2, fun hh => h2 fun j j1 j2 => hh j (by omega) (by omega)⟩
      · rw [e]
        exact .inr ⟨rfl, fun hh => h (hh i (by omega) (by omega))⟩
  unfold flqref14_closed
  rcases outer ((((set_.length : Nat) : Int) - 0).toNat) 0 with ⟨e, h⟩ | ⟨e, h⟩
  · rw [e]
    refine ⟨fun _ x hx => ?_, fun _ => rfl⟩
    obtain ⟨j, j1, j2, rfl⟩ := mem_getD.1 hx
    exact h j j1 (by omega)
  · rw [e]
    exact ⟨fun h => (by cases h), fun hh => absurd (fun j j1 j2 => hh _ (getD_mem (by omega))) h⟩
theorem Closed_iff {s : GSystem} (hv : VSys s) (set_ leaves : List Int) : cone_Closed s set_ leaves = true ↔ (∀ x ∈ set_, 0 ≤ x ∧ x < (s.Deps.length : Int)) ∧ (∀ x ∈ leaves, 0 ≤ x ∧ x < (s.Deps.length : Int)) ∧ ClosedP s set_ leaves := by
  rw [Closed_eq]
  unfold flqref14_Closed
  rw [(RefValid_iff s).2 hv]
  simp only [cond_true]
  have hb : (s.Boundary.length : Int) = (s.Deps.length : Int) := by have := hv.bl; omega
  have h1 := inside_iff s set_
  have h2 := inside_iff s leaves
  rw [hb] at h1 h2
  cases e1 : flqref14_inside s set_ with
  | false =>
    simp only [cond_false]
    exact ⟨fun h => (by cases h), fun h => by rw [h1.2 h.1] at e1; cases e1⟩
  | true =>
    cases e2 : flqref14_inside s leaves with
    | false =>
      simp only [cond_true, cond_false]
      exact ⟨fun h => (by cases h), fun h => by rw [h2.2 h.2.1] at e2; cases e2⟩
    | true =>
      simp only [cond_true]
      rw [closed_iff]
      exact ⟨fun h => ⟨h1.1 e1, h2.1 e2, h⟩, fun h => h.2.2⟩
theorem Cone_L1_spec (d : List Int) : ∀ (m : Nat) (out : List Int) (k : Int), 0 ≤ k → k + m ≤ (d.length : Int) →
    (∃ e, flqref14_Cone_L1 d m out k = out ++ e) ∧ (∀ j : Int, k ≤ j → j < k + m → d.getD j.toNat 0 ∈ flqref14_Cone_L1 d m out k) ∧ (∀ x ∈ flqref14_Cone_L1 d m out k, x ∈ out ∨ x ∈ d)
  | 0, out, k, _, _ => ⟨⟨[], by simp [flqref14_Cone_L1]⟩, fun j h1 h2 => by omega, fun x hx => .inl hx⟩
  | m + 1, out, k, hk, hk2 => by
    rw [flqref14_Cone_L1]
    have hx := getD_mem (xs := d) (i := k.toNat) (d := 0) (by omega)
    cases hh : flqref7_Has out (d.getD k.toNat 0) with
    | true =>
      simp only [Bool.not_true, cond_false]
      obtain ⟨⟨e, h1⟩, h2, h3⟩ := Cone_L1_spec d m out (k + 1) (by omega) (by omega)
      refine ⟨⟨e, h1⟩, fun j j1 j2 => ?_, h3⟩
      rcases Int.lt_or_eq_of_le j1 with hlt | rfl
      · exact h2 j (by omega) (by omega)
      · rw [h1]; exact List.mem_append_left _ ((Has_iff _ _).1 hh)
    | false =>
      simp only [Bool.not_false, cond_true]
      obtain ⟨⟨e, h1⟩, h2, h3⟩ := Cone_L1_spec d m (out ++ [d.getD k.toNat 0]) (k + 1) (by omega) (by omega)
      refine ⟨⟨[d.getD k.toNat 0] ++ e, by rw [h1, List.append_assoc]⟩, fun j j1 j2 => ?_, fun x hx' => ?_⟩
      · rcases Int.lt_or_eq_of_le j1 with hlt | rfl
        · exact h2 j (by omega) (by omega)
        · rw [h1]; simp
      · rcases h3 x hx' with h | h
        · rcases List.mem_append.1 h with h | h
          · exact .inl h
          · simp only [List.mem_singleton] at h; subst h; exact .inr hx
        · exact .inr h
theorem getD_append_left {l e : List Int} {j : Int} (h0 : 0 ≤ j) (h1 : j < (l.length : Int)) : (l ++ e).getD j.toNat 0 = l.getD j.toNat 0 := by
  rw [List.getD_eq_getElem?_getD, List.getD_eq_getElem?_getD, List.getElem?_append_left (by omega)]
theorem Cone_L0_spec {s : GSystem} {leaves : List Int} : ∀ (m : Nat) (out : List Int) (cost i : Int) (o : List Int) (c : Int), 0 ≤ i → i ≤ (out.length : Int) →
    (∀ j : Int, 0 ≤ j → j < i → out.getD j.toNat 0 ∉ leaves → ∀ y ∈ deps s (out.getD j.toNat 0), y ∈ out) → flqref14_Cone_L0 s leaves m out cost i = .brk (o, c) →
    (∀ x ∈ out, x ∈ o) ∧ ClosedP s o leaves ∧ ∀ set_, ClosedP s set_ leaves → (∀ x ∈ out, x ∈ set_) → ∀ x ∈ o, x ∈ set_
  | 0, out, cost, i, o, c, _, _, _, h => by cases h
  | m + 1, out, cost, i, o, c, h0, h1, hc, h => by
    rw [flqref14_Cone_L0] at h
    by_cases hlt : i < (out.length : Int)
    · rw [decide_eq_true hlt] at h
      simp only [cond_true] at h
      have hmem := getD_mem (xs := out) (i := i.toNat) (d := 0) (by omega)
      cases hl : flqref7_Has leaves (out.getD i.toNat 0) with
      | true =>
        rw [hl] at h
        exact Cone_L0_spec m out _ _ o c (by omega) (by omega) (fun j j0 j1 hj => by
          rcases Int.lt_or_eq_of_le (show j ≤ i by omega) with h' | rfl
          · exact hc j j0 h' hj
          · exact absurd ((Has_iff _ _).1 hl) hj) h
      | false =>
        rw [hl] at h
        simp only [cond_false] at h
        obtain ⟨⟨e, e1⟩, e2, e3⟩ := Cone_L1_spec (s.Deps.getD (out.getD i.toNat 0).toNat []) ((((s.Deps.getD (out.getD i.toNat 0).toNat []).length : Nat) : Int) - 0).toNat out 0 (by omega) (by omega)
        rw [e1] at h e2 e3
        have e4 : ∀ y ∈ deps s (out.getD i.toNat 0), y ∈ out ++ e := by
          intro y hy
          obtain ⟨j, j1, j2, rfl⟩ := mem_getD.1 hy
          exact e2 j j1 (by unfold deps at j2; omega)
        obtain ⟨a, b, d⟩ := Cone_L0_spec m (out ++ e) _ _ o c (by omega) (by simp only [List.length_append]; omega) (fun j j0 j1 hj y hy => by
          rw [getD_append_left j0 (by omega)] at hj hy
          rcases Int.lt_or_eq_of_le (show j ≤ i by omega) with h' | rfl
          · exact List.mem_append_left _ (hc j j0 h' hj y hy)
          · exact e4 y hy) h
        refine ⟨fun x hx => a x (List.mem_append_left _ hx), b, fun set_ hs ho x hx => d set_ hs (fun y hy => ?_) x hx⟩
        rcases e3 y hy with h' | h'
        · exact ho y h'
        · exact hs _ (ho _ hmem) (Has_false hl) y h'
    · rw [decide_eq_false hlt] at h
      simp only [cond_false] at h
      cases h
      refine ⟨fun x hx => hx, fun x hx hl y hy => ?_, fun set_ _ ho x hx => ho x hx⟩
      obtain ⟨j, j1, j2, rfl⟩ := mem_getD.1 hx
      exact hc j j1 (by omega) hl y hy
theorem Cone_spec {s : GSystem} (hv : VSys s) {root : Int} (hr : 0 ≤ root ∧ root < (s.Deps.length : Int)) {leaves : List Int} (hl : ∀ x ∈ leaves, 0 ≤ x ∧ x < (s.Deps.length : Int)) :
    ∃ out cost, cone_Of s root leaves = (out, cost, 0) ∧ root ∈ out ∧ cone_Closed s out leaves = true ∧ ∀ set_, cone_Closed s set_ leaves = true → root ∈ set_ → ∀ x ∈ out, x ∈ set_ := by
  have hb : (s.Boundary.length : Int) = (s.Deps.length : Int) := by have := hv.bl; omega
  have i1 : flqref14_inside s [root] = true := (inside_iff s [root]).2 (by rw [hb]; simpa using hr)
  have i2 : flqref14_inside s leaves = true := (inside_iff s leaves).2 (by rw [hb]; exact hl)
  have hV := (RefValid_iff s).2 hv
  have ht := cone_term (leaves := leaves) hV i1
  rw [Cone_eq]
  unfold flqref14_Cone
  rw [hV, i1, i2]
  simp only [Bool.not_true, cond_false]
  cases hR : flqref14_Cone_L0 s leaves (s.Deps.length + 1) [root] 0 0 with
  | oof => exact absurd hR ht
  | ret r =>
    exfalso
    have : ∀ (m : Nat) (out : List Int) (cost i : Int), flqref14_Cone_L0 s leaves m out cost i ≠ .ret r := by
      intro m
      induction m with
      | zero => intro out cost i h; cases h
      | succ m ih =>
        intro out cost i h
        rw [flqref14_Cone_L0] at h
        cases hd : decide (i < (out.length : Int)) with
        | false => rw [hd] at h; cases h
        | true =>
          rw [hd] at h
          simp only [cond_true] at h
          cases hl : flqref7_Has leaves (out.getD i.toNat 0) with
          | true => rw [hl] at h; exact ih _ _ _ h
          | false => rw [hl] at h; exact ih _ _ _ h
    exact this _ _ _ _ hR
  | brk p =>
    obtain ⟨out, cost⟩ := p
    obtain ⟨a, b, d⟩ := Cone_L0_spec _ _ _ _ _ _ (by omega) (by simp) (fun j h1 h2 => by omega) hR
    have hin : ∀ x ∈ out, 0 ≤ x ∧ x < (s.Deps.length : Int) := by
      have hall : ClosedP s ((List.range s.Deps.length).map fun k : Nat => (k : Int)) leaves := by
        intro x hx _ y hy
        obtain ⟨k, hk, rfl⟩ := List.mem_map.1 hx
        have := Valid_dep_mem hV (j := (k : Int)) (by omega) (by have := List.mem_range.1 hk; omega) y hy
        exact List.mem_map.2 ⟨y.toNat, List.mem_range.2 (by omega), by omega⟩
      intro x hx
      obtain ⟨k, hk, rfl⟩ := List.mem_map.1 (d _ hall (fun x hx => by
        simp at hx; subst hx
        exact List.mem_map.2 ⟨x.toNat, List.mem_range.2 (by omega), by omega⟩) x hx)
      have := List.mem_range.1 hk
      omega
    refine ⟨out, cost, rfl, a root (by simp), (Closed_iff hv _ _).2 ⟨hin, hl, b⟩, fun set_ hs hr' x hx => ?_⟩
    exact d set_ ((Closed_iff hv _ _).1 hs).2.2 (fun x hx => by simp at hx; subst hx; exact hr') x hx
theorem coneClosed_aux (s0 : Int) (s1 : List (List Int)) (s2 : List GTransfer) (s3 : List GSet) (leaves c set_ : List Int) : ∀ (m : Nat) (i : Int), i ≤ (c.length : Int) → (c.length : Int) < i + m → flqlaw14_ConeClosed_L1 s0 s1 s2 s3 leaves c set_ m i ≠ .oof
  | 0, i, h, h2 => by omega
  | m + 1, i, h, h2 => by
    rw [flqlaw14_ConeClosed_L1]
    cases cone_Closed ⟨s0, s1, s2, s3⟩ set_ leaves with
    | false => intro h; cases h
    | true =>
      by_cases hi : i < (c.length : Int)
      · simp only [cond_true, decide_eq_true hi]
        cases flqref7_Has set_ (c.getD i.toNat 0) with
        | true => exact coneClosed_aux s0 s1 s2 s3 leaves c set_ m (i + 1) (by omega) (by omega)
        | false => intro h; cases h
      · simp only [cond_true, decide_eq_false hi, cond_false]
        intro h; cases h
theorem coneClosed_term {s0 : Int} {s1 : List (List Int)} {s2 : List GTransfer} {s3 : List GSet} {leaves c set_ : List Int} : flqlaw14_ConeClosed_L1 s0 s1 s2 s3 leaves c set_ (c.length + 1) 0 ≠ .oof :=
  coneClosed_aux _ _ _ _ _ _ _ _ _ (by omega) (by omega)
theorem st46 : stTy Try.prog 46 = some ([(0, 1), (1, 1)], [.slice none 0 0, .int .i64 0]) := by kernel_rfl
theorem un3 : Try.prog.underlying 3 = some (.int .i64) := by kernel_rfl
theorem un71 : Try.prog.underlying 71 = some (.int .u64) := by kernel_rfl
theorem fo46_1 : fldOff Try.prog 46 1 = some 1 := by kernel_rfl
theorem fo46_0 : fldOff Try.prog 46 0 = some 0 := by kernel_rfl
theorem sh22 : tyShape Try.prog 22 = some (false, 1) := by kernel_rfl
theorem ca24 : callable Try.prog 24 = true := by kernel_rfl
theorem fmix : Try.prog.follows .mixedOrders = true := by kernel_rfl
theorem sl22 : slTy Try.prog 22 = some (3, 1, 8) := by kernel_rfl
theorem sh3 : tyShape Try.prog 3 = some (false, 1) := by kernel_rfl
theorem sz22 : slZero Try.prog 22 = some [.int .i64 0] := by kernel_rfl
theorem ca8 : callable Try.prog 8 = true := by kernel_rfl
theorem ze50 : zeroOf Try.prog 50 = some (.agg #[.int .i64 0, .slice none 0 0]) := by kernel_rfl
theorem sl48 : slTy Try.prog 48 = some (72, 1, 8) := by kernel_rfl
theorem sz48 : slZero Try.prog 48 = some [u64 (0#64)] := by kernel_rfl
theorem st50 : stTy Try.prog 50 = some ([(0, 1), (1, 1)], [.int .i64 0, .slice none 0 0]) := by kernel_rfl
theorem sh50 : tyShape Try.prog 50 = some (true, 2) := by kernel_rfl
theorem fo50_0 : fldOff Try.prog 50 0 = some 0 := by kernel_rfl
theorem ca19 : callable Try.prog 19 = true := by kernel_rfl
theorem fo50_1 : fldOff Try.prog 50 1 = some 1 := by kernel_rfl
theorem sh48 : tyShape Try.prog 48 = some (false, 1) := by kernel_rfl
theorem sh72 : tyShape Try.prog 72 = some (false, 1) := by kernel_rfl
theorem ca36 : callable Try.prog 36 = true := by kernel_rfl
theorem ze54 : zeroOf Try.prog 54 = some (.agg #[.int .i64 0, .slice none 0 0, .int .i64 0, .slice none 0 0, .slice none 0 0]) := by kernel_rfl
theorem st54 : stTy Try.prog 54 = some ([(0, 2), (2, 2), (4, 1)], [.int .i64 0, .slice none 0 0, .int .i64 0, .slice none 0 0, .slice none 0 0]) := by kernel_rfl
theorem sh54 : tyShape Try.prog 54 = some (true, 5) := by kernel_rfl
theorem fo54_0 : fldOff Try.prog 54 0 = some 0 := by kernel_rfl
theorem fo54_1 : fldOff Try.prog 54 1 = some 2 := by kernel_rfl
theorem fo54_2 : fldOff Try.prog 54 2 = some 4 := by kernel_rfl
theorem sh52 : tyShape Try.prog 52 = some (false, 1) := by kernel_rfl
theorem sl52 : slTy Try.prog 52 = some (68, 2, 16) := by kernel_rfl
theorem st68 : stTy Try.prog 68 = some ([(0, 1), (1, 1)], [.int .i64 0, .int .i64 0]) := by kernel_rfl
theorem sz52 : slZero Try.prog 52 = some [.int .i64 0, .int .i64 0] := by kernel_rfl
theorem ze27 : zeroOf Try.prog 27 = some (.agg #[.int .i64 0, .slice none 0 0, .slice none 0 0, .slice none 0 0]) := by kernel_rfl
theorem ca18 : callable Try.prog 18 = true := by kernel_rfl
theorem st27 : stTy Try.prog 27 = some ([(0, 1), (1, 1), (2, 1), (3, 1)], [.int .i64 0, .slice none 0 0, .slice none 0 0, .slice none 0 0]) := by kernel_rfl
theorem sh27 : tyShape Try.prog 27 = some (true, 4) := by kernel_rfl
theorem ca17 : callable Try.prog 17 = true := by kernel_rfl
theorem fo27_0 : fldOff Try.prog 27 0 = some 0 := by kernel_rfl
theorem ca20 : callable Try.prog 20 = true := by kernel_rfl
theorem fo27_1 : fldOff Try.prog 27 1 = some 1 := by kernel_rfl
theorem sh23 : tyShape Try.prog 23 = some (false, 1) := by kernel_rfl
theorem sl23 : slTy Try.prog 23 = some (22, 1, 24) := by kernel_rfl
theorem sz23 : slZero Try.prog 23 = some [.slice none 0 0] := by kernel_rfl
theorem sz25 : slZero Try.prog 25 = some [.int .i64 0, .slice none 0 0] := by kernel_rfl
theorem fo27_2 : fldOff Try.prog 27 2 = some 2 := by kernel_rfl
theorem sh24 : tyShape Try.prog 24 = some (false, 1) := by kernel_rfl
theorem ca21 : callable Try.prog 21 = true := by kernel_rfl
theorem sl24 : slTy Try.prog 24 = some (54, 5, 88) := by kernel_rfl
theorem sz24 : slZero Try.prog 24 = some [.int .i64 0, .slice none 0 0, .int .i64 0, .slice none 0 0, .slice none 0 0] := by kernel_rfl
theorem fo27_3 : fldOff Try.prog 27 3 = some 3 := by kernel_rfl
theorem sh25 : tyShape Try.prog 25 = some (false, 1) := by kernel_rfl
theorem sl25 : slTy Try.prog 25 = some (50, 2, 32) := by kernel_rfl


theorem fo68_0 : fldOff Try.prog 68 0 = some 0 := by kernel_rfl
theorem fo68_1 : fldOff Try.prog 68 1 = some 1 := by kernel_rfl
theorem ca39 : callable Try.prog 39 = true := by kernel_rfl
theorem sh68 : tyShape Try.prog 68 = some (true, 2) := by kernel_rfl
theorem ze68 : zeroOf Try.prog 68 = some (.agg #[.int .i64 0, .int .i64 0]) := by kernel_rfl
theorem ca51 : callable Try.prog 51 = true := by kernel_rfl
theorem ca37 : callable Try.prog 37 = true := by kernel_rfl
theorem ca38 : callable Try.prog 38 = true := by kernel_rfl
theorem ca22 : callable Try.prog 22 = true := by kernel_rfl
theorem ca23 : callable Try.prog 23 = true := by kernel_rfl
theorem ca16 : callable Try.prog 16 = true := by kernel_rfl



theorem ca57 : callable Try.prog 57 = true := by kernel_rfl



theorem ca58 : callable Try.prog 58 = true := by kernel_rfl
theorem ca59 : callable Try.prog 59 = true := by kernel_rfl
theorem ca60 : callable Try.prog 60 = true := by kernel_rfl
theorem ca54 : callable Try.prog 54 = true := by kernel_rfl
theorem ca53 : callable Try.prog 53 = true := by kernel_rfl
theorem ca52 : callable Try.prog 52 = true := by kernel_rfl

theorem ca55 : callable Try.prog 55 = true := by kernel_rfl



theorem ca65 : callable Try.prog 65 = true := by kernel_rfl
theorem ca64 : callable Try.prog 64 = true := by kernel_rfl
theorem ca63 : callable Try.prog 63 = true := by kernel_rfl
theorem ca61 : callable Try.prog 61 = true := by kernel_rfl
theorem ca62 : callable Try.prog 62 = true := by kernel_rfl
theorem ca56 : callable Try.prog 56 = true := by kernel_rfl
theorem ca47 : callable Try.prog 47 = true := by kernel_rfl
theorem ca42 : callable Try.prog 42 = true := by kernel_rfl
theorem ca43 : callable Try.prog 43 = true := by kernel_rfl
theorem ca44 : callable Try.prog 44 = true := by kernel_rfl
theorem ca46 : callable Try.prog 46 = true := by kernel_rfl
theorem ca45 : callable Try.prog 45 = true := by kernel_rfl

theorem ca50 : callable Try.prog 50 = true := by kernel_rfl

theorem ca48 : callable Try.prog 48 = true := by kernel_rfl
theorem ca34 : callable Try.prog 34 = true := by kernel_rfl

theorem ca49 : callable Try.prog 49 = true := by kernel_rfl

theorem ca30 : callable Try.prog 30 = true := by kernel_rfl
theorem ca31 : callable Try.prog 31 = true := by kernel_rfl
theorem sl62 : slTy Try.prog 62 = some (4, 1, 1) := by kernel_rfl
theorem sz62 : slZero Try.prog 62 = some [.bool false] := by kernel_rfl
theorem sh4 : tyShape Try.prog 4 = some (false, 1) := by kernel_rfl
theorem ca32 : callable Try.prog 32 = true := by kernel_rfl
theorem ca33 : callable Try.prog 33 = true := by kernel_rfl
theorem sh62 : tyShape Try.prog 62 = some (false, 1) := by kernel_rfl
theorem ze62 : zeroOf Try.prog 62 = some (.slice none 0 0) := by kernel_rfl
theorem ca35 : callable Try.prog 35 = true := by kernel_rfl


theorem ca40 : callable Try.prog 40 = true := by kernel_rfl
theorem ca14 : callable Try.prog 14 = true := by kernel_rfl
theorem ca7 : callable Try.prog 7 = true := by kernel_rfl
theorem ca25 : callable Try.prog 25 = true := by kernel_rfl
theorem ca15 : callable Try.prog 15 = true := by kernel_rfl
theorem ca26 : callable Try.prog 26 = true := by kernel_rfl
theorem un4 : Try.prog.underlying 4 = some .bool := by kernel_rfl

theorem un72 : Try.prog.underlying 72 = some (.int .u64) := by kernel_rfl
theorem ca28 : callable Try.prog 28 = true := by kernel_rfl
theorem ca27 : callable Try.prog 27 = true := by kernel_rfl


theorem ca41 : callable Try.prog 41 = true := by kernel_rfl
theorem ca29 : callable Try.prog 29 = true := by kernel_rfl
theorem ca5 : callable Try.prog 5 = true := by kernel_rfl
theorem ca6 : callable Try.prog 6 = true := by kernel_rfl
theorem ca10 : callable Try.prog 10 = true := by kernel_rfl
theorem ca9 : callable Try.prog 9 = true := by kernel_rfl
theorem ca11 : callable Try.prog 11 = true := by kernel_rfl
theorem ca12 : callable Try.prog 12 = true := by kernel_rfl
theorem ca13 : callable Try.prog 13 = true := by kernel_rfl
set_option maxHeartbeats 20000000 in
set_option maxRecDepth 100000 in
/- flowquery/flqgen.New -/
theorem fn5 (l : List Int) (la0 : Option Addr) (lk0 : Nat) (rr : Unit) (hrr : flqgen_New l = rr) :
    FT Try.prog 5 #[.slice la0 l.length lk0] [sl (.slice la0 l.length lk0) (l : List Int)]
      (fun g : Value => True)
      (fun g => g)
      (fun g => [Cl g [.slice la0 l.length lk0, .int .i64 0]]) := by
  refine FT_intro (args := [.slice la0 l.length lk0]) Try.func5 rfl rfl ?_
  intro w0 M0 F0
  refine JJ_fact 0 rfl sl_bytes ?_
  intro hl1
  have hl1 : l.length * 8 ≤ 140737488355328 := hl1
  refine JJ_fact 0 rfl sl_ok ?_
  intro ho2
  refine JK_seq ?_
  refine JK_region ?_
  refine JO_q rfl rfl rfl (OpV.assign rfl rfl) ?_
  refine JO_nil ?_
  refine JK_seq ?_
  refine JK_region ?_
  refine JO_q rfl rfl rfl (OpV.move rfl rfl) ?_
  refine JO_q rfl rfl rfl (OpV.build (rs := #[.slice la0 l.length lk0, .int .i64 0]) rfl st46 (Env.evp_map rfl) rfl) ?_
  refine JO_act rfl rfl rfl (OpA.boxOwn rfl rfl) ?_
  intro p3
  refine JO_q rfl rfl rfl (OpV.assign rfl rfl) ?_
  refine JO_nil ?_
  have hq : rr = () := hrr.symm.trans (by simp only [flqgen_New, cs4])
  replace hrr := hrr.trans hq
  subst rr
  refine JK_return (p3) rfl (.tmp rfl .nil) rfl trivial (Ent.take (is := [0]) rfl)
set_option maxHeartbeats 20000000 in
set_option maxRecDepth 100000 in
/- flowquery/flqgen.Mod -/
theorem fn24 (v : Int) (n : Int) (hv_0 : i64ok v) (hn_0 : i64ok n) (hn1 : 1 ≤ n) (rr : Int) (hrr : flqgen_Mod v n = rr) :
    FT Try.prog 24 #[.int .i64 v, .int .i64 n] []
      (fun g : Unit => i64ok rr ∧ (0 ≤ rr ∧ rr < n))
      (fun g => .int .i64 rr)
      (fun g => []) := by
  refine FT_intro (args := [.int .i64 v, .int .i64 n]) Try.func24 rfl rfl ?_
  intro w0 M0 F0
  have hv_0 : -9223372036854775808 ≤ v ∧ v ≤ 9223372036854775807 := hv_0
  have hn_0 : -9223372036854775808 ≤ n ∧ n ≤ 9223372036854775807 := hn_0
  have hm := mod_range v n (by omega)
  refine JK_seq ?_
  refine JK_region ?_
  refine JO_q rfl rfl rfl (OpV.assign rfl rfl) ?_
  refine JO_nil ?_
  refine JK_seq ?_
  refine JK_region ?_
  refine JO_q rfl rfl rfl (OpV.move rfl rfl) ?_
  refine JO_q rfl rfl rfl (OpV.convU rfl un3 un71 rfl) ?_
  refine JO_q rfl rfl rfl (OpV.move rfl rfl) ?_
  refine JO_q rfl rfl rfl (OpV.convU rfl un3 un71 rfl) ?_
  refine JO_q rfl rfl rfl (OpV.remU (a := (BitVec.ofInt 64 v)) (b := (BitVec.ofInt 64 n)) rfl rfl rfl (ofInt_ne n (by omega))) ?_
  refine JO_q rfl rfl rfl (OpV.convI rfl un71 un3 rfl (mod_le v n (by omega))) ?_
  refine JO_q rfl rfl rfl (OpV.assign rfl rfl) ?_
  refine JO_nil ?_
  have hq : rr = (((BitVec.ofInt 64 v) % (BitVec.ofInt 64 n)).toNat : Int) := hrr.symm.trans (by simp only [flqgen_Mod, cs4])
  replace hrr := hrr.trans hq
  subst rr
  refine JK_return (()) rfl (.tmp rfl .nil) rfl (by refine ⟨?_, ?_⟩ <;> (try dsimp only) <;> first | omega | (unfold i64ok; omega) | (simp only [lens]; omega) | assumption | trivial) (Ent.take (is := []) rfl)
set_option maxHeartbeats 20000000 in
set_option maxRecDepth 100000 in
/- (*flowquery/flqgen.Tape).Next -/
theorem fn8 (tP : Value) (ta : Option Addr) (tk : Nat) (tT : List Int) (tI : Int) (n : Int) (htI : 0 ≤ tI ∧ tI ≤ (tT.length : Int)) (hn_0 : i64ok n) (rr : Int × Int) (hrr : Tape_Next tT tI n = rr) :
    FT Try.prog 8 #[tP, .int .i64 n] [Cl tP [.slice ta tT.length tk, .int .i64 tI], sl (.slice ta tT.length tk) (tT : List Int)]
      (fun g : Unit => i64ok rr.1 ∧ (0 ≤ rr.2 ∧ rr.2 ≤ (tT.length : Int)) ∧ (0 ≤ rr.1 ∧ (rr.1 < n ∨ rr.1 = 0)))
      (fun g => .int .i64 rr.1)
      (fun g => [Cl tP [.slice ta tT.length tk, .int .i64 rr.2]]) := by
  refine FT_intro (args := [tP, .int .i64 n]) Try.func8 rfl rfl ?_
  intro w0 M0 F0
  have hn_0 : -9223372036854775808 ≤ n ∧ n ≤ 9223372036854775807 := hn_0
  refine JJ_fact 1 rfl sl_bytes ?_
  intro hl1
  have hl1 : tT.length * 8 ≤ 140737488355328 := hl1
  refine JJ_fact 1 rfl sl_ok ?_
  intro ho2
  refine JK_seq ?_
  refine JK_region ?_
  refine JO_q rfl rfl rfl (OpV.assign rfl rfl) ?_
  refine JO_nil ?_
  refine JK_seq ?_
  refine JK_seq ?_
  refine bool_split (decide (n ≤ 1)) (fun (h3 : decide (n ≤ 1) = true) => ?_) (fun (h3 : decide (n ≤ 1) = false) => ?_)
  · skip
    have g4 : (n ≤ 1) := of_decide_eq_true h3
    refine JK_drawQ [0, 1, 3, 7, 15, 31, 63, 7, 135, 391, 903, 1927, 4095, 8191] fmix ?_
    refine JQ_v [] (qn rfl) rfl rfl (OpV.move rfl rfl) ?_
    refine JQ_b h3 [] (qn rfl) rfl rfl (OpV.leq rfl rfl rfl) ?_
    refine JQ_v [] (qn rfl) rfl rfl (OpV.move rfl rfl) ?_
    refine JQ_skip (qs rfl rfl rfl _ rfl rfl) rfl ?_
    refine JQ_skip (qs rfl rfl rfl _ rfl rfl) rfl ?_
    refine JQ_skip (qs rfl rfl rfl _ rfl rfl) rfl ?_
    refine JQ_skip (qs rfl rfl rfl _ rfl rfl) rfl ?_
    refine JQ_skip (qs rfl rfl rfl _ rfl rfl) rfl ?_
    refine JQ_skip (qs rfl rfl rfl _ rfl rfl) rfl ?_
    refine JQ_skip (qs rfl rfl rfl _ rfl rfl) rfl ?_
    refine JQ_skip (qs rfl rfl rfl _ rfl rfl) rfl ?_
    refine JQ_skip (qs rfl rfl rfl _ rfl rfl) rfl ?_
    refine JQ_skip (qs rfl rfl rfl _ rfl rfl) rfl ?_
    refine JQ_v [] (qn rfl) rfl rfl (OpV.pickT rfl rfl rfl) ?_
    refine JQ_nil ⟨by kernel_rfl, ?_⟩
    refine JK_condT rfl ?_
    refine JK_seq ?_
    refine JK_region ?_
    refine JO_q rfl rfl rfl (OpV.assign rfl rfl) ?_
    refine JO_nil ?_
    have hq : rr = (0, tI) := hrr.symm.trans (by simp only [Tape_Next, h3, cs4])
    replace hrr := hrr.trans hq
    subst rr
    refine JK_return (()) rfl (.tmp rfl .nil) rfl (by refine ⟨?_, ?_, ?_⟩ <;> (try dsimp only) <;> first | omega | (unfold i64ok; omega) | (simp only [lens]; omega) | assumption | trivial) (Ent.take (is := [0]) rfl)
  · skip
    have g5 : ¬ (n ≤ 1) := of_decide_eq_false h3
    refine JJ_fact 0 rfl isP_Cl ?_
    intro hp6
    refine JJ_addFact hp6 ?_
    refine JK_drawQ [0, 1, 3, 7, 15, 31, 63, 7, 135, 391, 903, 1927, 4095, 8191] fmix ?_
    refine JQ_v [] (qn rfl) rfl rfl (OpV.move rfl rfl) ?_
    refine JQ_b h3 [] (qn rfl) rfl rfl (OpV.leq rfl rfl rfl) ?_
    refine JQ_v [] (qn rfl) rfl rfl (OpV.move rfl rfl) ?_
    refine JQ_v [] (qt rfl rfl rfl rfl) rfl rfl (OpV.move rfl rfl) ?_
    refine JQ_v [0] (qt rfl rfl rfl rfl) rfl rfl (OpV.nilCheck rfl rfl (i := 0) rfl (isPtr_fact _)) ?_
    refine JQ_v [0] (qt rfl rfl rfl rfl) rfl rfl (OpV.fieldAddr rfl rfl fo46_1 (i := 0) rfl (isPtr_fact _)) ?_
    refine JQ_v [1] (qt rfl rfl rfl rfl) rfl rfl (OpV.loadF rfl rfl sh3 (i := 0) rfl (reads_Cl _ _) rfl) ?_
    refine JQ_v [] (qt rfl rfl rfl rfl) rfl rfl (OpV.move rfl rfl) ?_
    refine JQ_v [0] (qt rfl rfl rfl rfl) rfl rfl (OpV.nilCheck rfl rfl (i := 0) rfl (isPtr_fact _)) ?_
    refine JQ_v [0] (qt rfl rfl rfl rfl) rfl rfl (OpV.fieldAddr rfl rfl fo46_0 (i := 0) rfl (isPtr_fact _)) ?_
    refine JQ_v [1] (qt rfl rfl rfl rfl) rfl rfl (OpV.loadF rfl rfl sh22 (i := 0) rfl (reads_Cl _ _) rfl) ?_
    refine JQ_v [] (qt rfl rfl rfl rfl) rfl rfl (OpV.len rfl rfl sl22) ?_
    refine JQ_v [] (qt rfl rfl rfl rfl) rfl rfl (OpV.geq rfl rfl rfl) ?_
    refine JQ_v [] (qn rfl) rfl rfl (OpV.pickF rfl rfl rfl) ?_
    refine JQ_nil ⟨by kernel_rfl, ?_⟩
    refine JK_cond (b := decide (((tT.length : Nat) : Int) ≤ tI)) rfl (fun (h7 : decide (((tT.length : Nat) : Int) ≤ tI) = true) => ?_) (fun (h7 : decide (((tT.length : Nat) : Int) ≤ tI) = false) => ?_)
    · skip
      have g8 : (((tT.length : Nat) : Int) ≤ tI) := of_decide_eq_true h7
      refine JK_seq ?_
      refine JK_region ?_
      refine JO_q rfl rfl rfl (OpV.assign rfl rfl) ?_
      refine JO_nil ?_
      have hq : rr = (0, tI) := hrr.symm.trans (by simp only [Tape_Next, h3, h7, cs4])
      replace hrr := hrr.trans hq
      subst rr
      refine JK_return (()) rfl (.tmp rfl .nil) rfl (by refine ⟨?_, ?_, ?_⟩ <;> (try dsimp only) <;> first | omega | (unfold i64ok; omega) | (simp only [lens]; omega) | assumption | trivial) (Ent.take (is := [1]) rfl)
    · skip
      have g9 : ¬ (((tT.length : Nat) : Int) ≤ tI) := of_decide_eq_false h7
      refine JK_skip ?_
      refine JK_seq ?_
      refine JK_region ?_
      refine JO_q rfl rfl rfl (OpV.move rfl rfl) ?_
      refine JO_q rfl rfl rfl (OpV.nilCheck rfl rfl (i := 1) rfl (isPtr_Cl _ _)) ?_
      refine JO_q rfl rfl rfl (OpV.fieldAddr rfl rfl fo46_1 (i := 1) rfl (isPtr_Cl _ _)) ?_
      refine JO_q rfl rfl rfl (OpV.loadF rfl rfl sh3 (i := 1) rfl (reads_Cl _ _) rfl) ?_
      refine JO_q rfl rfl rfl (OpV.add rfl rfl rfl (by unfold i64ok; omega)) ?_
      refine JO_q rfl rfl rfl (OpV.nilCheck rfl rfl (i := 1) rfl (isPtr_Cl _ _)) ?_
      refine JO_q rfl rfl rfl (OpV.fieldAddr rfl rfl fo46_1 (i := 1) rfl (isPtr_Cl _ _)) ?_
      refine JO_store rfl rfl (OpS.frame [1] rfl (OpS.storeClF [.int .i64 (tI + 1)] [.slice ta tT.length tk, .int .i64 (tI + 1)] rfl rfl rfl sh3 rfl rfl rfl (Nat.le_of_ble_eq_true rfl) rfl)) ?_
      refine JO_nil ?_
      refine JK_seq ?_
      refine letv (flqgen_Mod (tT.getD (((tI + 1) - 1) : Int).toNat 0) n) fun rv11 hg12 => ?_
      have hb10 : -9223372036854775808 ≤ (tT.getD (((tI + 1) - 1) : Int).toNat 0) ∧ (tT.getD (((tI + 1) - 1) : Int).toNat 0) ≤ 9223372036854775807 := getD_ok ho2 (by first | omega | (simp only [lens]; omega) | (simp only [lens] at *; omega))
      refine JK_drawJ [0, 1, 3, 7, 0, 16, 48, 112, 240, 511, 1023, 0, 4095, 8191] [] fmix ?_
      refine JD_v [] (wn rfl) rfl rfl (OpV.move rfl rfl) ?_
      refine JD_v [1] (wn rfl) rfl rfl (OpV.nilCheck rfl rfl (i := 0) rfl (isPtr_fact _)) ?_
      refine JD_v [1] (wn rfl) rfl rfl (OpV.fieldAddr rfl rfl fo46_0 (i := 0) rfl (isPtr_fact _)) ?_
      refine JD_v [0] (wn rfl) rfl rfl (OpV.loadF rfl rfl sh22 (i := 0) rfl (reads_Cl _ _) rfl) ?_
      refine JD_v [] (wn rfl) rfl rfl (OpV.move rfl rfl) ?_
      refine JD_v [1] (wn rfl) rfl rfl (OpV.nilCheck rfl rfl (i := 0) rfl (isPtr_fact _)) ?_
      refine JD_v [1] (wn rfl) rfl rfl (OpV.fieldAddr rfl rfl fo46_1 (i := 0) rfl (isPtr_fact _)) ?_
      refine JD_v [0] (wn rfl) rfl rfl (OpV.loadF rfl rfl sh3 (i := 0) rfl (reads_Cl _ _) rfl) ?_
      refine JD_v [] (wn rfl) rfl rfl (OpV.sub rfl rfl rfl (by unfold i64ok; omega)) ?_
      refine JD_v [2] (wn rfl) rfl rfl (OpV.indexAddr (m := 0) rfl rfl rfl sl22 rfl (isSl_sl _ _) (by first | omega | (simp only [lens]; omega) | (simp only [lens] at *; omega))) ?_
      refine JD_v [2] (wn rfl) rfl rfl (OpV.load rfl rfl sh3 (i := 0) rfl (reads_sl _ _ _ 0 (by first | omega | (simp only [lens]; omega) | (simp only [lens] at *; omega))) rfl) ?_
      refine JD_v [] (wn rfl) rfl rfl (OpV.move rfl rfl) ?_
      refine JD_x [] [] (fun lG => .int .i64 rv11) [⟨some 12, none, [], fun lG => SP.fact (i64ok rv11 ∧ (0 ≤ rv11 ∧ rv11 < n))⟩] (wn rfl) rfl rfl rfl (fun G => by refine OpX.n3 (A' := []) (V' := fun g => .int .i64 rv11) (B' := fun g => [SP.fact (i64ok rv11 ∧ (0 ≤ rv11 ∧ rv11 < n))]) (by kernel_rfl) (by kernel_rfl) (by kernel_rfl) ?_; refine OpX.postR (OpX.frame [] rfl (OpX.ofC (fun _ => []) (fun _ => ()) (fun _ => rfl) (by intro _ _ h; cases h) (OpC.fn rfl ca24 rfl) (fn24 ((tT.getD (((tI + 1) - 1) : Int).toNat 0)) n (by (try dsimp only) <;> first | (unfold i64ok; omega) | omega | assumption) (by (try dsimp only) <;> first | (unfold i64ok; omega) | omega | assumption) (by (try dsimp only) <;> first | (unfold i64ok; omega) | omega | assumption) rv11 hg12))) (fun g => ?_); exact Ent.take (is := [0]) rfl) ?_
      refine JD_v [] (wn rfl) rfl rfl (OpV.assign rfl rfl) ?_
      refine JD_nil ⟨by kernel_rfl, fun G => ?_⟩
      refine JJ_weaken (L' := [(4, .int .i64 rv11)]) (A' := [Cl tP [.slice ta tT.length tk, .int .i64 (tI + 1)], SP.fact (isP tP), sl (.slice ta tT.length tk) (tT : List Int), SP.fact (i64ok rv11 ∧ (0 ≤ rv11 ∧ rv11 < n))]) (Env.sub_all (by kernel_rfl)) (Ent.of_eq (by kernel_rfl)) ?_
      refine JJ_fact 3 rfl (fun h => h) ?_
      rintro ⟨he13, he14⟩
      have he13 : -9223372036854775808 ≤ rv11 ∧ rv11 ≤ 9223372036854775807 := he13
      refine JJ_keep [0, 1] rfl ?_
      have hq : rr = (rv11, (tI + 1)) := hrr.symm.trans (by simp only [Tape_Next, h3, h7, hg12, cs4])
      replace hrr := hrr.trans hq
      subst rr
      refine JK_return (()) rfl (.tmp rfl .nil) rfl (by refine ⟨?_, ?_, ?_⟩ <;> (try dsimp only) <;> first | omega | (unfold i64ok; omega) | (simp only [lens]; omega) | assumption | trivial) (Ent.take (is := [0]) rfl)
set_option maxHeartbeats 20000000 in
set_option maxRecDepth 100000 in
/- flowquery/flqref7.Insert -/
theorem fn17 (l : List Int) (la0 : Option Addr) (lk0 : Nat) (n : Int) (hn_0 : i64ok n) (hl0 : l.length ≤ 1000000000) (rr : List Int) (hrr : flqref7_Insert l n = rr) :
    FT Try.prog 17 #[.slice la0 l.length lk0, .int .i64 n] [sl (.slice la0 l.length lk0) (l : List Int)]
      (fun g : Value => (rr.length ≤ l.length + 1))
      (fun g => g)
      (fun g => [sl (g) (rr : List Int)]) := by
  refine FT_intro (args := [.slice la0 l.length lk0, .int .i64 n]) Try.func17 rfl rfl ?_
  intro w0 M0 F0
  have hn_0 : -9223372036854775808 ≤ n ∧ n ≤ 9223372036854775807 := hn_0
  refine JJ_fact 0 rfl sl_bytes ?_
  intro hl1
  have hl1 : l.length * 8 ≤ 140737488355328 := hl1
  refine JJ_fact 0 rfl sl_ok ?_
  intro ho2
  refine JK_seq ?_
  refine JK_region ?_
  refine JO_q rfl rfl rfl (OpV.assign rfl rfl) ?_
  refine JO_nil ?_
  refine JK_seq ?_
  refine JK_region ?_
  refine JO_q rfl rfl rfl (OpV.assign rfl rfl) ?_
  refine JO_nil ?_
  refine JK_seq ?_
  refine JK_block ?_
  refine JK_loop (γ := Nat × Int) (fun (r3, i_4) => [(0, .slice la0 l.length lk0), (1, .int .i64 n), (5, .int .i64 i_4)]) (fun (r3, i_4) => [sl (.slice la0 l.length lk0) (l : List Int)]) (fun (r3, i_4) => flqref7_Insert_L0 l n r3 i_4 = flqref7_Insert_L0 l n (((((l.length : Nat) : Int) : Int) - 0).toNat) 0 ∧ r3 = ((((l.length : Nat) : Int) : Int) - i_4).toNat ∧ (0 : Int) ≤ i_4 ∧ (i_4 ≤ ((l.length : Nat) : Int) ∨ i_4 = 0) ∧ (-9223372036854775808 ≤ i_4 ∧ i_4 ≤ 9223372036854775807)) (fun (r3, i_4) => r3) (((((l.length : Nat) : Int) : Int) - 0).toNat, 0) ⟨rfl, rfl, (by omega), (.inr rfl), (by omega)⟩ (Env.sub_all rfl) (Ent.take (is := [0]) rfl) ?_
  rintro ⟨r3, i_4⟩ ⟨hM5, hr6, hi7, hi8, hk9⟩
  refine JJ_norm (L := [(0, .slice la0 l.length lk0), (1, .int .i64 n), (5, .int .i64 i_4)]) (A := [sl (.slice la0 l.length lk0) (l : List Int)]) rfl rfl ?_
  refine JJ_fact 0 rfl sl_bytes ?_
  intro hl10
  have hl10 : l.length * 8 ≤ 140737488355328 := hl10
  refine JJ_fact 0 rfl sl_ok ?_
  intro ho11
  refine JK_seq ?_
  refine JK_seq ?_
  refine JK_region ?_
  refine JO_q rfl rfl rfl (OpV.move rfl rfl) ?_
  refine JO_q rfl rfl rfl (OpV.move rfl rfl) ?_
  refine JO_q rfl rfl rfl (OpV.len rfl rfl sl22) ?_
  refine JO_q rfl rfl rfl (OpV.lss rfl rfl rfl) ?_
  refine JO_q rfl rfl rfl (OpV.move rfl rfl) ?_
  refine JJ_split 11 rfl (fun (h12 : decide (i_4 < ((l.length : Nat) : Int)) = true) => ?_) (fun (h12 : decide (i_4 < ((l.length : Nat) : Int)) = false) => ?_)
  · skip
    have g13 : (i_4 < ((l.length : Nat) : Int)) := of_decide_eq_true h12
    obtain ⟨r14, rfl⟩ : ∃ q, r3 = q + 1 := ⟨r3 - 1, by omega⟩
    refine JO_taken rfl rfl rfl rfl ?_
    refine JO_q rfl rfl rfl (OpV.move rfl rfl) ?_
    refine JO_taken rfl rfl rfl rfl ?_
    refine JO_q rfl rfl rfl (OpV.move rfl rfl) ?_
    refine JO_taken rfl rfl rfl rfl ?_
    refine JO_q rfl rfl rfl (OpV.indexAddr (m := 0) rfl rfl rfl sl22 rfl (isSl_sl _ _) (by first | omega | (simp only [lens]; omega) | (simp only [lens] at *; omega))) ?_
    refine JO_taken rfl rfl rfl rfl ?_
    have hb15 : -9223372036854775808 ≤ (l.getD (i_4 : Int).toNat 0) ∧ (l.getD (i_4 : Int).toNat 0) ≤ 9223372036854775807 := getD_ok ho11 (by first | omega | (simp only [lens]; omega) | (simp only [lens] at *; omega))
    refine JO_q rfl rfl rfl (OpV.load rfl rfl sh3 (i := 0) rfl (reads_sl _ _ _ 0 (by first | omega | (simp only [lens]; omega) | (simp only [lens] at *; omega))) rfl) ?_
    refine JO_taken rfl rfl rfl rfl ?_
    refine JO_q rfl rfl rfl (OpV.move rfl rfl) ?_
    refine JO_taken rfl rfl rfl rfl ?_
    refine JO_q rfl rfl rfl (OpV.lss rfl rfl rfl) ?_
    refine JO_q rfl rfl rfl (OpV.pickT rfl rfl rfl) ?_
    refine JO_nil ?_
    refine JK_cond (b := decide ((l.getD (i_4 : Int).toNat 0) < n)) rfl (fun (h16 : decide ((l.getD (i_4 : Int).toNat 0) < n) = true) => ?_) (fun (h16 : decide ((l.getD (i_4 : Int).toNat 0) < n) = false) => ?_)
    · skip
      have g17 : ((l.getD (i_4 : Int).toNat 0) < n) := of_decide_eq_true h16
      refine JK_skip ?_
      refine JK_block ?_
      refine JK_region ?_
      refine JO_q rfl rfl rfl (OpV.move rfl rfl) ?_
      refine JO_q rfl rfl rfl (OpV.add rfl rfl rfl (by unfold i64ok; omega)) ?_
      refine JO_q rfl rfl rfl (OpV.assign rfl rfl) ?_
      refine JO_nil ?_
      refine JK_blk ?_
      refine JK_goal (r14, (i_4 + 1)) ⟨(by rw [← hM5]; simp only [flqref7_Insert_L0, h12, h16, cs4]), (by omega), (by omega), (by omega), (by omega)⟩ (by show r14 < r14 + 1; omega) (Env.sub_all rfl) (Ent.take (is := [0]) rfl)
    · skip
      have g18 : ¬ ((l.getD (i_4 : Int).toNat 0) < n) := of_decide_eq_false h16
      refine JK_exit rfl ?_
      have hR19 : flqref7_Insert_L0 l n (((((l.length : Nat) : Int) : Int) - 0).toNat) 0 = i_4 := by
        rw [← hM5]; simp only [flqref7_Insert_L0, h12, h16, cs4]
      refine JK_seq ?_
      refine JK_seq ?_
      refine JK_region ?_
      refine JO_q rfl rfl rfl (OpV.move rfl rfl) ?_
      refine JO_q rfl rfl rfl (OpV.move rfl rfl) ?_
      refine JO_q rfl rfl rfl (OpV.len rfl rfl sl22) ?_
      refine JO_q rfl rfl rfl (OpV.lss rfl rfl rfl) ?_
      refine JO_q rfl rfl rfl (OpV.move rfl rfl) ?_
      refine JJ_split 25 rfl (fun (h20 : decide (i_4 < ((l.length : Nat) : Int)) = true) => ?_) (fun (h20 : decide (i_4 < ((l.length : Nat) : Int)) = false) => ?_)
      · skip
        have g21 : (i_4 < ((l.length : Nat) : Int)) := of_decide_eq_true h20
        refine JO_taken rfl rfl rfl rfl ?_
        refine JO_q rfl rfl rfl (OpV.move rfl rfl) ?_
        refine JO_taken rfl rfl rfl rfl ?_
        refine JO_q rfl rfl rfl (OpV.move rfl rfl) ?_
        refine JO_taken rfl rfl rfl rfl ?_
        refine JO_q rfl rfl rfl (OpV.indexAddr (m := 0) rfl rfl rfl sl22 rfl (isSl_sl _ _) (by first | omega | (simp only [lens]; omega) | (simp only [lens] at *; omega))) ?_
        refine JO_taken rfl rfl rfl rfl ?_
        have hb22 : -9223372036854775808 ≤ (l.getD (i_4 : Int).toNat 0) ∧ (l.getD (i_4 : Int).toNat 0) ≤ 9223372036854775807 := getD_ok ho11 (by first | omega | (simp only [lens]; omega) | (simp only [lens] at *; omega))
        refine JO_q rfl rfl rfl (OpV.load rfl rfl sh3 (i := 0) rfl (reads_sl _ _ _ 0 (by first | omega | (simp only [lens]; omega) | (simp only [lens] at *; omega))) rfl) ?_
        refine JO_taken rfl rfl rfl rfl ?_
        refine JO_q rfl rfl rfl (OpV.move rfl rfl) ?_
        refine JO_taken rfl rfl rfl rfl ?_
        refine JO_q rfl rfl rfl (OpV.eql rfl rfl rfl) ?_
        refine JO_q rfl rfl rfl (OpV.pickT rfl rfl rfl) ?_
        refine JO_nil ?_
        refine JK_cond (b := ((l.getD (i_4 : Int).toNat 0) == n)) rfl (fun (h23 : ((l.getD (i_4 : Int).toNat 0) == n) = true) => ?_) (fun (h23 : ((l.getD (i_4 : Int).toNat 0) == n) = false) => ?_)
        · skip
          have g24 : (l.getD (i_4 : Int).toNat 0) = n := eq_of_beq h23
          refine JK_seq ?_
          refine JK_region ?_
          refine JO_q rfl rfl rfl (OpV.move rfl rfl) ?_
          refine JO_q rfl rfl rfl (OpV.assign rfl rfl) ?_
          refine JO_nil ?_
          have hq : rr = l := hrr.symm.trans (by simp only [flqref7_Insert, h12, h16, h20, h23, hR19, cs4])
          replace hrr := hrr.trans hq
          subst rr
          refine JK_return (.slice la0 l.length lk0) rfl (.tmp rfl .nil) rfl (by (try dsimp only) <;> first | omega | (unfold i64ok; omega) | (simp only [lens]; omega) | assumption | trivial) (Ent.take (is := [0]) rfl)
        · skip
          have g25 : (l.getD (i_4 : Int).toNat 0) ≠ n := ne_of_beq_false h23
          refine JK_skip ?_
          refine JK_seq ?_
          refine JK_region ?_
          refine JO_act rfl rfl rfl (OpA.buildSlice0 rfl sl22) ?_
          intro c26
          refine JJ_slice 0 rfl Cr_slice ?_
          rintro a27 k28 rfl
          refine JO_q rfl rfl rfl (OpV.move rfl rfl) ?_
          refine JO_q rfl rfl rfl (OpV.move rfl rfl) ?_
          refine JO_act rfl rfl rfl (OpA.frame [1] rfl (OpA.sliceSl 0 ((i_4 : Int).toNat) rfl rfl sl22 rfl rfl ⟨_, natc rfl (by omega)⟩ (by first | omega | (simp only [lens]; omega) | (simp only [lens] at *; omega)) (by first | omega | (simp only [lens]; omega) | (simp only [lens] at *; omega)))) ?_
          intro c29
          refine JJ_slice 0 rfl sl_slice ?_
          rintro a30 k31 rfl
          refine JJ_fact 0 rfl sl_bytes ?_
          intro hl32
          have hl32 : ((l.take ((i_4 : Int).toNat)).drop 0).length * 8 ≤ 140737488355328 := hl32
          refine JJ_fact 0 rfl sl_ok ?_
          intro ho33
          have hn34 : ((l.take ((i_4 : Int).toNat)).drop 0).length = ((i_4 : Int).toNat) - 0 := len_slice (by first | omega | (simp only [lens]; omega) | (simp only [lens] at *; omega)) (by first | omega | (simp only [lens]; omega) | (simp only [lens] at *; omega))
          refine JJ_loc [1] rfl (Ent.crNil (α := Int) _) ?_
          refine JO_act rfl rfl rfl (OpA.frame [0, 0] rfl (OpA.app0 (α := Int) (ys := ((l.take ((i_4 : Int).toNat)).drop 0)) rfl rfl rfl sl22 sl22 sz22 rfl rfl rfl (by show _ * 8 ≤ 140737488355328; first | omega | (simp only [lens]; omega) | (simp only [lens] at *; omega)))) ?_
          intro c35
          refine JJ_slice 0 rfl os_slice ?_
          rintro a36 k37 rfl
          refine JO_q rfl rfl rfl (OpV.assign rfl rfl) ?_
          refine JO_nil ?_
          refine JK_seq ?_
          refine JK_region ?_
          refine JO_q rfl rfl rfl (OpV.move rfl rfl) ?_
          refine JO_q rfl rfl rfl (OpV.move rfl rfl) ?_
          refine JO_act rfl rfl rfl (OpA.buildSliceV [.int .i64 n] [.int .i64 n] rfl sl22 sz22 rfl (Env.evp_map rfl) rfl rfl rfl rfl) ?_
          intro c38
          refine JJ_slice 0 rfl Cr_slice ?_
          rintro a39 k40 rfl
          refine JJ_loc [0] rfl (Ent.crInt _ [n] _ _ rfl rfl (by intro x hx; rw [List.mem_singleton] at hx; subst hx; unfold i64ok; omega) (Nat.le_of_ble_eq_true rfl)) ?_
          refine JO_act rfl rfl rfl (OpA.frame [1, 0] rfl (OpA.appO (α := Int) (xs := ((l.take ((i_4 : Int).toNat)).drop 0)) (ys := [n]) rfl rfl rfl sl22 sl22 sz22 rfl rfl rfl (by show (_ + _) * 8 ≤ 140737488355328; first | omega | (simp only [lens]; omega) | (simp only [lens] at *; omega)))) ?_
          intro c41
          refine JJ_slice 0 rfl os_slice ?_
          rintro a42 k43 rfl
          refine JJ_fact 0 rfl os_bytes ?_
          intro hl44
          have hl44 : (((l.take ((i_4 : Int).toNat)).drop 0) ++ [n]).length * 8 ≤ 140737488355328 := hl44
          refine JJ_fact 0 rfl os_ok ?_
          intro ho45
          have hn46 : ((((l.take ((i_4 : Int).toNat)).drop 0) ++ [n]) : List Int).length = (((l.take ((i_4 : Int).toNat)).drop 0) : List Int).length + ([n] : List Int).length := List.length_append
          refine JO_q rfl rfl rfl (OpV.assign rfl rfl) ?_
          refine JO_nil ?_
          refine JK_seq ?_
          refine JK_region ?_
          refine JO_q rfl rfl rfl (OpV.move rfl rfl) ?_
          refine JO_q rfl rfl rfl (OpV.move rfl rfl) ?_
          refine JO_q rfl rfl rfl (OpV.move rfl rfl) ?_
          refine JO_act rfl rfl rfl (OpA.frame [2] rfl (OpA.sliceSl ((i_4 : Int).toNat) l.length rfl rfl sl22 rfl ⟨_, natc rfl (by omega)⟩ rfl (by first | omega | (simp only [lens]; omega) | (simp only [lens] at *; omega)) (by first | omega | (simp only [lens]; omega) | (simp only [lens] at *; omega)))) ?_
          intro c47
          refine JJ_slice 0 rfl sl_slice ?_
          rintro a48 k49 rfl
          refine JJ_fact 0 rfl sl_bytes ?_
          intro hl50
          have hl50 : ((l.take l.length).drop ((i_4 : Int).toNat)).length * 8 ≤ 140737488355328 := hl50
          refine JJ_fact 0 rfl sl_ok ?_
          intro ho51
          have hn52 : ((l.take l.length).drop ((i_4 : Int).toNat)).length = l.length - ((i_4 : Int).toNat) := len_slice (by first | omega | (simp only [lens]; omega) | (simp only [lens] at *; omega)) (by first | omega | (simp only [lens]; omega) | (simp only [lens] at *; omega))
          refine JO_act rfl rfl rfl (OpA.frame [1, 0] rfl (OpA.app (α := Int) (xs := (((l.take ((i_4 : Int).toNat)).drop 0) ++ [n])) (ys := ((l.take l.length).drop ((i_4 : Int).toNat))) rfl rfl rfl sl22 sl22 sz22 rfl rfl rfl (by show (_ + _) * 8 ≤ 140737488355328; first | omega | (simp only [lens]; omega) | (simp only [lens] at *; omega)))) ?_
          intro c53
          refine JJ_slice 0 rfl os_slice ?_
          rintro a54 k55 rfl
          refine JJ_fact 0 rfl os_bytes ?_
          intro hl56
          have hl56 : ((((l.take ((i_4 : Int).toNat)).drop 0) ++ [n]) ++ ((l.take l.length).drop ((i_4 : Int).toNat))).length * 8 ≤ 140737488355328 := hl56
          refine JJ_fact 0 rfl os_ok ?_
          intro ho57
          have hn58 : (((((l.take ((i_4 : Int).toNat)).drop 0) ++ [n]) ++ ((l.take l.length).drop ((i_4 : Int).toNat))) : List Int).length = ((((l.take ((i_4 : Int).toNat)).drop 0) ++ [n]) : List Int).length + (((l.take l.length).drop ((i_4 : Int).toNat)) : List Int).length := List.length_append
          refine JO_q rfl rfl rfl (OpV.assign rfl rfl) ?_
          refine JO_nil ?_
          refine JJ_loc [0] rfl (Ent.freeze _ _) ?_
          have hq : rr = ((((l.take ((i_4 : Int).toNat)).drop 0) ++ [n]) ++ ((l.take l.length).drop ((i_4 : Int).toNat))) := hrr.symm.trans (by simp only [flqref7_Insert, h12, h16, h20, h23, hR19, cs4])
          replace hrr := hrr.trans hq
          subst rr
          refine JK_return (.slice a54 (((((l.take ((i_4 : Int).toNat)).drop 0) ++ [n]) ++ ((l.take l.length).drop ((i_4 : Int).toNat))).length) k55) rfl (.tmp rfl .nil) rfl (by (try dsimp only) <;> first | omega | (unfold i64ok; omega) | (simp only [lens]; omega) | assumption | trivial) (Ent.take (is := [0]) rfl)
      · skip
        exact absurd (h20.symm.trans h12) (by decide)
  · skip
    have g59 : ¬ (i_4 < ((l.length : Nat) : Int)) := of_decide_eq_false h12
    obtain rfl : r3 = 0 := by omega
    refine JO_skip rfl rfl rfl rfl rfl rfl ?_
    refine JO_skip rfl rfl rfl rfl rfl rfl ?_
    refine JO_skip rfl rfl rfl rfl rfl rfl ?_
    refine JO_skip rfl rfl rfl rfl rfl rfl ?_
    refine JO_skip rfl rfl rfl rfl rfl rfl ?_
    refine JO_skip rfl rfl rfl rfl rfl rfl ?_
    refine JO_q rfl rfl rfl (OpV.pickF rfl rfl rfl) ?_
    refine JO_nil ?_
    refine JK_condF rfl ?_
    refine JK_exit rfl ?_
    have hR60 : flqref7_Insert_L0 l n (((((l.length : Nat) : Int) : Int) - 0).toNat) 0 = i_4 := by
      rw [← hM5]; simp only [flqref7_Insert_L0, h12, cs4]
    refine JK_seq ?_
    refine JK_seq ?_
    refine JK_region ?_
    refine JO_q rfl rfl rfl (OpV.move rfl rfl) ?_
    refine JO_q rfl rfl rfl (OpV.move rfl rfl) ?_
    refine JO_q rfl rfl rfl (OpV.len rfl rfl sl22) ?_
    refine JO_q rfl rfl rfl (OpV.lss rfl rfl rfl) ?_
    refine JO_q rfl rfl rfl (OpV.move rfl rfl) ?_
    refine JJ_split 25 rfl (fun (h61 : decide (i_4 < ((l.length : Nat) : Int)) = true) => ?_) (fun (h61 : decide (i_4 < ((l.length : Nat) : Int)) = false) => ?_)
    · skip
      exact absurd (h61.symm.trans h12) (by decide)
    · skip
      have g62 : ¬ (i_4 < ((l.length : Nat) : Int)) := of_decide_eq_false h61
      refine JO_skip rfl rfl rfl rfl rfl rfl ?_
      refine JO_skip rfl rfl rfl rfl rfl rfl ?_
      refine JO_skip rfl rfl rfl rfl rfl rfl ?_
      refine JO_skip rfl rfl rfl rfl rfl rfl ?_
      refine JO_skip rfl rfl rfl rfl rfl rfl ?_
      refine JO_skip rfl rfl rfl rfl rfl rfl ?_
      refine JO_q rfl rfl rfl (OpV.pickF rfl rfl rfl) ?_
      refine JO_nil ?_
      refine JK_condF rfl ?_
      refine JK_skip ?_
      refine JK_seq ?_
      refine JK_region ?_
      refine JO_act rfl rfl rfl (OpA.buildSlice0 rfl sl22) ?_
      intro c63
      refine JJ_slice 0 rfl Cr_slice ?_
      rintro a64 k65 rfl
      refine JO_q rfl rfl rfl (OpV.move rfl rfl) ?_
      refine JO_q rfl rfl rfl (OpV.move rfl rfl) ?_
      refine JO_act rfl rfl rfl (OpA.frame [1] rfl (OpA.sliceSl 0 ((i_4 : Int).toNat) rfl rfl sl22 rfl rfl ⟨_, natc rfl (by omega)⟩ (by first | omega | (simp only [lens]; omega) | (simp only [lens] at *; omega)) (by first | omega | (simp only [lens]; omega) | (simp only [lens] at *; omega)))) ?_
      intro c66
      refine JJ_slice 0 rfl sl_slice ?_
      rintro a67 k68 rfl
      refine JJ_fact 0 rfl sl_bytes ?_
      intro hl69
      have hl69 : ((l.take ((i_4 : Int).toNat)).drop 0).length * 8 ≤ 140737488355328 := hl69
      refine JJ_fact 0 rfl sl_ok ?_
      intro ho70
      have hn71 : ((l.take ((i_4 : Int).toNat)).drop 0).length = ((i_4 : Int).toNat) - 0 := len_slice (by first | omega | (simp only [lens]; omega) | (simp only [lens] at *; omega)) (by first | omega | (simp only [lens]; omega) | (simp only [lens] at *; omega))
      refine JJ_loc [1] rfl (Ent.crNil (α := Int) _) ?_
      refine JO_act rfl rfl rfl (OpA.frame [0, 0] rfl (OpA.app0 (α := Int) (ys := ((l.take ((i_4 : Int).toNat)).drop 0)) rfl rfl rfl sl22 sl22 sz22 rfl rfl rfl (by show _ * 8 ≤ 140737488355328; first | omega | (simp only [lens]; omega) | (simp only [lens] at *; omega)))) ?_
      intro c72
      refine JJ_slice 0 rfl os_slice ?_
      rintro a73 k74 rfl
      refine JO_q rfl rfl rfl (OpV.assign rfl rfl) ?_
      refine JO_nil ?_
      refine JK_seq ?_
      refine JK_region ?_
      refine JO_q rfl rfl rfl (OpV.move rfl rfl) ?_
      refine JO_q rfl rfl rfl (OpV.move rfl rfl) ?_
      refine JO_act rfl rfl rfl (OpA.buildSliceV [.int .i64 n] [.int .i64 n] rfl sl22 sz22 rfl (Env.evp_map rfl) rfl rfl rfl rfl) ?_
      intro c75
      refine JJ_slice 0 rfl Cr_slice ?_
      rintro a76 k77 rfl
      refine JJ_loc [0] rfl (Ent.crInt _ [n] _ _ rfl rfl (by intro x hx; rw [List.mem_singleton] at hx; subst hx; unfold i64ok; omega) (Nat.le_of_ble_eq_true rfl)) ?_
      refine JO_act rfl rfl rfl (OpA.frame [1, 0] rfl (OpA.appO (α := Int) (xs := ((l.take ((i_4 : Int).toNat)).drop 0)) (ys := [n]) rfl rfl rfl sl22 sl22 sz22 rfl rfl rfl (by show (_ + _) * 8 ≤ 140737488355328; first | omega | (simp only [lens]; omega) | (simp only [lens] at *; omega)))) ?_
      intro c78
      refine JJ_slice 0 rfl os_slice ?_
      rintro a79 k80 rfl
      refine JJ_fact 0 rfl os_bytes ?_
      intro hl81
      have hl81 : (((l.take ((i_4 : Int).toNat)).drop 0) ++ [n]).length * 8 ≤ 140737488355328 := hl81
      refine JJ_fact 0 rfl os_ok ?_
      intro ho82
      have hn83 : ((((l.take ((i_4 : Int).toNat)).drop 0) ++ [n]) : List Int).length = (((l.take ((i_4 : Int).toNat)).drop 0) : List Int).length + ([n] : List Int).length := List.length_append
      refine JO_q rfl rfl rfl (OpV.assign rfl rfl) ?_
      refine JO_nil ?_
      refine JK_seq ?_
      refine JK_region ?_
      refine JO_q rfl rfl rfl (OpV.move rfl rfl) ?_
      refine JO_q rfl rfl rfl (OpV.move rfl rfl) ?_
      refine JO_q rfl rfl rfl (OpV.move rfl rfl) ?_
      refine JO_act rfl rfl rfl (OpA.frame [2] rfl (OpA.sliceSl ((i_4 : Int).toNat) l.length rfl rfl sl22 rfl ⟨_, natc rfl (by omega)⟩ rfl (by first | omega | (simp only [lens]; omega) | (simp only [lens] at *; omega)) (by first | omega | (simp only [lens]; omega) | (simp only [lens] at *; omega)))) ?_
      intro c84
      refine JJ_slice 0 rfl sl_slice ?_
      rintro a85 k86 rfl
      refine JJ_fact 0 rfl sl_bytes ?_
      intro hl87
      have hl87 : ((l.take l.length).drop ((i_4 : Int).toNat)).length * 8 ≤ 140737488355328 := hl87
      refine JJ_fact 0 rfl sl_ok ?_
      intro ho88
      have hn89 : ((l.take l.length).drop ((i_4 : Int).toNat)).length = l.length - ((i_4 : Int).toNat) := len_slice (by first | omega | (simp only [lens]; omega) | (simp only [lens] at *; omega)) (by first | omega | (simp only [lens]; omega) | (simp only [lens] at *; omega))
      refine JO_act rfl rfl rfl (OpA.frame [1, 0] rfl (OpA.app (α := Int) (xs := (((l.take ((i_4 : Int).toNat)).drop 0) ++ [n])) (ys := ((l.take l.length).drop ((i_4 : Int).toNat))) rfl rfl rfl sl22 sl22 sz22 rfl rfl rfl (by show (_ + _) * 8 ≤ 140737488355328; first | omega | (simp only [lens]; omega) | (simp only [lens] at *; omega)))) ?_
      intro c90
      refine JJ_slice 0 rfl os_slice ?_
      rintro a91 k92 rfl
      refine JJ_fact 0 rfl os_bytes ?_
      intro hl93
      have hl93 : ((((l.take ((i_4 : Int).toNat)).drop 0) ++ [n]) ++ ((l.take l.length).drop ((i_4 : Int).toNat))).length * 8 ≤ 140737488355328 := hl93
      refine JJ_fact 0 rfl os_ok ?_
      intro ho94
      have hn95 : (((((l.take ((i_4 : Int).toNat)).drop 0) ++ [n]) ++ ((l.take l.length).drop ((i_4 : Int).toNat))) : List Int).length = ((((l.take ((i_4 : Int).toNat)).drop 0) ++ [n]) : List Int).length + (((l.take l.length).drop ((i_4 : Int).toNat)) : List Int).length := List.length_append
      refine JO_q rfl rfl rfl (OpV.assign rfl rfl) ?_
      refine JO_nil ?_
      refine JJ_loc [0] rfl (Ent.freeze _ _) ?_
      have hq : rr = ((((l.take ((i_4 : Int).toNat)).drop 0) ++ [n]) ++ ((l.take l.length).drop ((i_4 : Int).toNat))) := hrr.symm.trans (by simp only [flqref7_Insert, h12, h61, hR60, cs4])
      replace hrr := hrr.trans hq
      subst rr
      refine JK_return (.slice a91 (((((l.take ((i_4 : Int).toNat)).drop 0) ++ [n]) ++ ((l.take l.length).drop ((i_4 : Int).toNat))).length) k92) rfl (.tmp rfl .nil) rfl (by (try dsimp only) <;> first | omega | (unfold i64ok; omega) | (simp only [lens]; omega) | assumption | trivial) (Ent.take (is := [0]) rfl)
set_option maxHeartbeats 20000000 in
set_option maxRecDepth 100000 in
/- (*flowquery/flqgen.Tape).Width -/
theorem fn18 (tP : Value) (ta : Option Addr) (tk : Nat) (tT : List Int) (tI : Int) (htI : 0 ≤ tI ∧ tI ≤ (tT.length : Int)) (rr : Int × Int) (hrr : Tape_Width tT tI = rr) :
    FT Try.prog 18 #[tP] [Cl tP [.slice ta tT.length tk, .int .i64 tI], sl (.slice ta tT.length tk) (tT : List Int)]
      (fun g : Unit => i64ok rr.1 ∧ (0 ≤ rr.2 ∧ rr.2 ≤ (tT.length : Int)) ∧ (0 ≤ rr.1 ∧ rr.1 ≤ 8))
      (fun g => .int .i64 rr.1)
      (fun g => [Cl tP [.slice ta tT.length tk, .int .i64 rr.2]]) := by
  refine FT_intro (args := [tP]) Try.func18 rfl rfl ?_
  intro w0 M0 F0
  refine JJ_fact 1 rfl sl_bytes ?_
  intro hl1
  have hl1 : tT.length * 8 ≤ 140737488355328 := hl1
  refine JJ_fact 1 rfl sl_ok ?_
  intro ho2
  refine JK_seq ?_
  refine JK_region ?_
  refine JO_q rfl rfl rfl (OpV.assign rfl rfl) ?_
  refine JO_nil ?_
  refine JK_seq ?_
  refine JK_region ?_
  refine JO_act rfl rfl rfl (OpA.buildSliceV [.int .i64 3, .int .i64 1, .int .i64 4, .int .i64 2, .int .i64 6, .int .i64 0, .int .i64 8] [.int .i64 3, .int .i64 1, .int .i64 4, .int .i64 2, .int .i64 6, .int .i64 0, .int .i64 8] rfl sl22 sz22 rfl (Env.evp_map rfl) rfl rfl rfl rfl) ?_
  intro c3
  refine JJ_slice 0 rfl Cr_slice ?_
  rintro a4 k5 rfl
  refine JO_q rfl rfl rfl (OpV.move rfl rfl) ?_
  refine letv (Tape_Next tT tI 7) fun rv6 hg7 => ?_
  have hc8 := fn8 tP ta tk tT tI 7 (by (try dsimp only) <;> first | (unfold i64ok; omega) | omega | assumption) (by (try dsimp only) <;> first | (unfold i64ok; omega) | omega | assumption) rv6 hg7
  refine JO_call [1, 1] rfl rfl rfl (OpC.fn rfl ca8 rfl) (hc8) rfl ?_
  rintro - ⟨he9, he10, he11⟩
  have he9 : -9223372036854775808 ≤ rv6.1 ∧ rv6.1 ≤ 9223372036854775807 := he9
  refine JJ_loc [1] rfl (Ent.crInt _ [3, 1, 4, 2, 6, 0, 8] _ _ rfl rfl (by intro x hx; simp only [List.mem_cons, List.not_mem_nil, or_false] at hx; rcases hx with rfl | rfl | rfl | rfl | rfl | rfl | rfl <;> (unfold i64ok; omega)) (Nat.le_of_ble_eq_true rfl)) ?_
  refine JO_q rfl rfl rfl (OpV.indexAddr (m := 0) rfl rfl rfl sl22 rfl (isSl_os _ _) (by first | omega | (simp only [lens]; omega) | (simp only [lens] at *; omega))) ?_
  refine JO_q rfl rfl rfl (OpV.load rfl rfl sh3 (i := 0) rfl (reads_os _ _ _ 0 (by first | omega | (simp only [lens]; omega) | (simp only [lens] at *; omega))) rfl) ?_
  refine JO_q rfl rfl rfl (OpV.assign rfl rfl) ?_
  refine JO_nil ?_
  have hq : rr = (([3, 1, 4, 2, 6, 0, 8].getD (rv6.1 : Int).toNat 0), rv6.2) := hrr.symm.trans (by simp only [Tape_Width, hg7, cs4])
  replace hrr := hrr.trans hq
  subst rr
  refine JK_return (()) rfl (.tmp rfl .nil) rfl ⟨(by rw [← hrr]; exact width_ok _ _), (by (try dsimp only) <;> first | omega | (unfold i64ok; omega) | (simp only [lens]; omega) | assumption | trivial), (by rw [← hrr]; exact width_rng _ _)⟩ (Ent.take (is := [1]) rfl)
set_option maxHeartbeats 20000000 in
set_option maxRecDepth 100000 in
/- flowquery/flqref1.Empty -/
theorem fn19 (width : Int) (hwidth_0 : i64ok width) (hw0 : 0 ≤ width ∧ width ≤ 1000000) (rr : GSet) (hrr : flqref1_Empty width = rr) :
    FT Try.prog 19 #[.int .i64 width] []
      (fun g : Value => i64ok rr.Width ∧ (rr.Width = width) ∧ (rr.Words.length = (((width : Int) + 63) / 64).toNat))
      (fun g => .agg #[.int .i64 rr.Width, g])
      (fun g => [os (g) (rr.Words : List (BitVec 64))]) := by
  refine FT_intro (args := [.int .i64 width]) Try.func19 rfl rfl ?_
  intro w0 M0 F0
  have hwidth_0 : -9223372036854775808 ≤ width ∧ width ≤ 9223372036854775807 := hwidth_0
  refine JK_seq ?_
  refine JK_region ?_
  refine JO_act rfl rfl rfl (OpA.alloc rfl ze50) ?_
  intro p1
  refine JO_nil ?_
  refine JK_seq ?_
  refine JK_region ?_
  refine JO_q rfl rfl rfl (OpV.move rfl rfl) ?_
  refine JO_q rfl rfl rfl (OpV.move rfl rfl) ?_
  refine JO_q rfl rfl rfl (OpV.add rfl rfl rfl (by unfold i64ok; omega)) ?_
  refine JO_q rfl rfl rfl (OpV.quo rfl rfl rfl (by omega)) ?_
  refine JO_act rfl rfl rfl (OpA.makeSlice (α := BitVec 64) 0#64 rfl rfl rfl sl48 sz48 rfl rfl (by omega) (by omega) (fun _ _ => rfl)) ?_
  intro c2
  refine JJ_slice 0 rfl os_slice ?_
  rintro a3 k4 rfl
  refine JJ_fact 0 rfl os_bytes ?_
  intro hl5
  have hl5 : (List.replicate (((width + 63) / 64) : Int).toNat 0#64).length * 8 ≤ 140737488355328 := hl5
  have hn6 : ((List.replicate (((width + 63) / 64) : Int).toNat 0#64) : List (BitVec 64)).length = (((width + 63) / 64) : Int).toNat := List.length_replicate
  refine JO_q rfl rfl rfl (OpV.build (rs := #[.int .i64 width, .slice a3 ((List.replicate (((width + 63) / 64) : Int).toNat 0#64).length) k4]) rfl st50 (Env.evp_map rfl) rfl) ?_
  refine JO_store rfl rfl (OpS.frame [1] rfl (OpS.storeCl [.int .i64 width, .slice a3 ((List.replicate (((width + 63) / 64) : Int).toNat 0#64).length) k4] [.int .i64 width, .slice a3 ((List.replicate (((width + 63) / 64) : Int).toNat 0#64).length) k4] rfl rfl rfl sh50 rfl rfl rfl (Nat.le_of_ble_eq_true rfl) rfl)) ?_
  refine JO_nil ?_
  have hq : rr = (GSet.mk width (List.replicate (((width + 63) / 64) : Int).toNat 0#64)) := hrr.symm.trans (by simp only [flqref1_Empty, cs4])
  replace hrr := hrr.trans hq
  subst rr
  refine JK_return (.slice a3 ((List.replicate (((width + 63) / 64) : Int).toNat 0#64).length) k4) rfl (.cellN 0 rfl sh50 rfl (reads_Cl _ _) rfl .nil) rfl (by refine ⟨?_, ?_, ?_⟩ <;> (try dsimp only) <;> first | omega | (unfold i64ok; omega) | (simp only [lens]; omega) | assumption | trivial) (Ent.take (is := [1]) rfl)
set_option maxHeartbeats 20000000 in
set_option maxRecDepth 100000 in
/- flowquery/flqref1.Put -/
theorem fn36 (s : GSet) (sa1 : Option Addr) (sk1 : Nat) (b : Int) (hs_0 : i64ok s.Width) (hb_0 : i64ok b) (hb0 : 0 ≤ b ∧ b < s.Width) (hw0 : s.Width ≤ 1000000) (rr : GSet) (hrr : flqref1_Put s b = rr) :
    FT Try.prog 36 #[.agg #[.int .i64 s.Width, .slice sa1 s.Words.length sk1], .int .i64 b] [sl (.slice sa1 s.Words.length sk1) (s.Words : List (BitVec 64))]
      (fun g : Value => i64ok rr.Width ∧ (rr.Width = s.Width) ∧ (rr.Words.length = ((s.Width + 63) / 64).toNat))
      (fun g => .agg #[.int .i64 rr.Width, g])
      (fun g => [os (g) (rr.Words : List (BitVec 64))]) := by
  refine FT_intro (args := [.agg #[.int .i64 s.Width, .slice sa1 s.Words.length sk1], .int .i64 b]) Try.func36 rfl rfl ?_
  intro w0 M0 F0
  have hs_0 : -9223372036854775808 ≤ s.Width ∧ s.Width ≤ 9223372036854775807 := hs_0
  have hb_0 : -9223372036854775808 ≤ b ∧ b ≤ 9223372036854775807 := hb_0
  refine JJ_fact 0 rfl sl_bytes ?_
  intro hl1
  have hl1 : s.Words.length * 8 ≤ 140737488355328 := hl1
  refine JK_seq ?_
  refine JK_region ?_
  refine JO_act rfl rfl rfl (OpA.box rfl rfl) ?_
  intro p2
  refine JO_act rfl rfl rfl (OpA.alloc rfl ze50) ?_
  intro p3
  refine JO_nil ?_
  refine JK_seq ?_
  refine JK_region ?_
  refine JO_q rfl rfl rfl (OpV.fieldAddr rfl rfl fo50_0 (i := 1) rfl (isPtr_pv _ _)) ?_
  refine JO_q rfl rfl rfl (OpV.loadF rfl rfl sh3 (i := 1) rfl (reads_pv _ _) rfl) ?_
  refine letv (flqref1_Empty s.Width) fun rv5 hg6 => ?_
  have hc7 := fn19 s.Width (by (try dsimp only) <;> first | (unfold i64ok; omega) | omega | assumption) (by (try dsimp only) <;> first | (unfold i64ok; omega) | omega | assumption) rv5 hg6
  refine JO_call [] rfl rfl rfl (OpC.fn rfl ca19 rfl) (hc7) rfl ?_
  rintro c4 ⟨he8, he9, he10⟩
  have he8 : -9223372036854775808 ≤ rv5.Width ∧ rv5.Width ≤ 9223372036854775807 := he8
  refine JJ_slice 0 rfl os_slice ?_
  rintro a11 k12 rfl
  refine JJ_fact 0 rfl os_bytes ?_
  intro hl13
  have hl13 : rv5.Words.length * 8 ≤ 140737488355328 := hl13
  refine JO_act rfl rfl rfl (OpA.alloc rfl ze50) ?_
  intro p14
  refine JO_store rfl rfl (OpS.frame [0] rfl (OpS.storeCl [.int .i64 rv5.Width, .slice a11 rv5.Words.length k12] [.int .i64 rv5.Width, .slice a11 rv5.Words.length k12] rfl rfl rfl sh50 rfl rfl rfl (Nat.le_of_ble_eq_true rfl) rfl)) ?_
  refine JO_nil ?_
  refine JK_seq ?_
  refine JK_region ?_
  refine JO_q rfl rfl rfl (OpV.fieldAddr rfl rfl fo50_1 (i := 0) rfl (isPtr_Cl _ _)) ?_
  refine JO_q rfl rfl rfl (OpV.loadF rfl rfl sh48 (i := 0) rfl (reads_Cl _ _) rfl) ?_
  refine JO_q rfl rfl rfl (OpV.fieldAddr rfl rfl fo50_1 (i := 3) rfl (isPtr_pv _ _)) ?_
  refine JO_q rfl rfl rfl (OpV.loadF rfl rfl sh48 (i := 3) rfl (reads_pv _ _) rfl) ?_
  refine JO_act rfl rfl rfl (OpA.frame [1, 3] rfl (OpA.copyS (α := BitVec 64) rfl rfl rfl sl48 rfl)) ?_
  intro u15
  have hn16 : (s.Words.take rv5.Words.length ++ rv5.Words.drop s.Words.length).length = rv5.Words.length := len_copy _ _
  refine JO_nil ?_
  refine JK_seq ?_
  refine JK_region ?_
  refine JO_q rfl rfl rfl (OpV.fieldAddr rfl rfl fo50_1 (i := 1) rfl (isPtr_Cl _ _)) ?_
  refine JO_q rfl rfl rfl (OpV.loadF rfl rfl sh48 (i := 1) rfl (reads_Cl _ _) rfl) ?_
  refine JO_q rfl rfl rfl (OpV.move rfl rfl) ?_
  refine JO_q rfl rfl rfl (OpV.quo rfl rfl rfl (by omega)) ?_
  refine JO_q rfl rfl rfl (OpV.indexAddr (m := 0) rfl rfl rfl sl48 rfl (isSl_os _ _) (by first | omega | (simp only [lens]; omega) | (simp only [lens] at *; omega))) ?_
  refine JO_q rfl rfl rfl (OpV.load rfl rfl sh72 (i := 0) rfl (reads_os _ _ _ 0#64 (by first | omega | (simp only [lens]; omega) | (simp only [lens] at *; omega))) rfl) ?_
  refine JO_q rfl rfl rfl (OpV.move rfl rfl) ?_
  refine JO_q rfl rfl rfl (OpV.rem rfl rfl rfl (by omega)) ?_
  refine JO_q rfl rfl rfl (OpV.convU rfl un3 un71 rfl) ?_
  refine JO_q rfl rfl rfl (OpV.shlU (a := 1#64) (n := ((BitVec.ofInt 64 (b % 64)).toNat : Int)) rfl rfl rfl (by omega)) ?_
  refine JO_q rfl rfl rfl (OpV.orU (a := ((s.Words.take rv5.Words.length ++ rv5.Words.drop s.Words.length).getD ((b / 64) : Int).toNat 0#64)) (b := (1#64 <<< (((BitVec.ofInt 64 (b % 64)).toNat : Int)).toNat)) rfl rfl rfl) ?_
  refine JO_q rfl rfl rfl (OpV.indexAddr (m := 0) rfl rfl rfl sl48 rfl (isSl_os _ _) (by first | omega | (simp only [lens]; omega) | (simp only [lens] at *; omega))) ?_
  refine JO_store rfl rfl (OpS.frame [0] rfl (OpS.storeOsU rfl rfl rfl sh72 (by first | omega | (simp only [lens]; omega) | (simp only [lens] at *; omega)))) ?_
  refine JO_nil ?_
  refine JK_seq ?_
  refine JK_region ?_
  refine JO_q rfl rfl rfl (OpV.loadA rfl rfl sh50 (i := 1) rfl (reads_Cl _ _) rfl) ?_
  refine JO_store rfl rfl (OpS.frame [2] rfl (OpS.storeCl [.int .i64 rv5.Width, .slice a11 rv5.Words.length k12] [.int .i64 rv5.Width, .slice a11 rv5.Words.length k12] rfl rfl rfl sh50 rfl rfl rfl (Nat.le_of_ble_eq_true rfl) rfl)) ?_
  refine JO_nil ?_
  have hq : rr = (GSet.mk rv5.Width ((s.Words.take rv5.Words.length ++ rv5.Words.drop s.Words.length).set ((b / 64) : Int).toNat (((s.Words.take rv5.Words.length ++ rv5.Words.drop s.Words.length).getD ((b / 64) : Int).toNat 0#64) ||| (1#64 <<< (((BitVec.ofInt 64 (b % 64)).toNat : Int)).toNat)))) := hrr.symm.trans (by simp only [flqref1_Put, hg6, cs4])
  replace hrr := hrr.trans hq
  subst rr
  refine JK_return (.slice a11 rv5.Words.length k12) rfl (.cellN 0 rfl sh50 rfl (reads_Cl _ _) rfl .nil) rfl (by refine ⟨?_, ?_, ?_⟩ <;> (try dsimp only) <;> first | omega | (unfold i64ok; omega) | (simp only [lens]; omega) | assumption | trivial) (Ent.take (is := [1]) rfl)
set_option maxHeartbeats 20000000 in
set_option maxRecDepth 100000 in
/- (*flowquery/flqgen.Tape).Set -/
theorem fn20 (tP : Value) (ta : Option Addr) (tk : Nat) (tT : List Int) (tI : Int) (width : Int) (htI : 0 ≤ tI ∧ tI ≤ (tT.length : Int)) (hwidth_0 : i64ok width) (hw0 : 0 ≤ width ∧ width ≤ 1000) (rr : GSet × Int) (hrr : Tape_Set tT tI width = rr) :
    FT Try.prog 20 #[tP, .int .i64 width] [Cl tP [.slice ta tT.length tk, .int .i64 tI], sl (.slice ta tT.length tk) (tT : List Int)]
      (fun g : Value => i64ok rr.1.Width ∧ (0 ≤ rr.2 ∧ rr.2 ≤ (tT.length : Int)) ∧ (rr.1.Width = width) ∧ (rr.1.Words.length = (((width : Int) + 63) / 64).toNat))
      (fun g => .agg #[.int .i64 rr.1.Width, g])
      (fun g => [os (g) (rr.1.Words : List (BitVec 64)), Cl tP [.slice ta tT.length tk, .int .i64 rr.2]]) := by
  refine FT_intro (args := [tP, .int .i64 width]) Try.func20 rfl rfl ?_
  intro w0 M0 F0
  have hwidth_0 : -9223372036854775808 ≤ width ∧ width ≤ 9223372036854775807 := hwidth_0
  refine JJ_fact 1 rfl sl_bytes ?_
  intro hl1
  have hl1 : tT.length * 8 ≤ 140737488355328 := hl1
  refine JJ_fact 1 rfl sl_ok ?_
  intro ho2
  refine JK_seq ?_
  refine JK_region ?_
  refine JO_act rfl rfl rfl (OpA.alloc rfl ze50) ?_
  intro p3
  refine JO_nil ?_
  refine JK_seq ?_
  refine JK_region ?_
  refine JO_q rfl rfl rfl (OpV.move rfl rfl) ?_
  refine letv (flqref1_Empty width) fun rv5 hg6 => ?_
  have hc7 := fn19 width (by (try dsimp only) <;> first | (unfold i64ok; omega) | omega | assumption) (by (try dsimp only) <;> first | (unfold i64ok; omega) | omega | assumption) rv5 hg6
  refine JO_call [] rfl rfl rfl (OpC.fn rfl ca19 rfl) (hc7) rfl ?_
  rintro c4 ⟨he8, he9, he10⟩
  have he8 : -9223372036854775808 ≤ rv5.Width ∧ rv5.Width ≤ 9223372036854775807 := he8
  refine JJ_slice 0 rfl os_slice ?_
  rintro a11 k12 rfl
  refine JJ_fact 0 rfl os_bytes ?_
  intro hl13
  have hl13 : rv5.Words.length * 8 ≤ 140737488355328 := hl13
  refine JO_act rfl rfl rfl (OpA.alloc rfl ze50) ?_
  intro p14
  refine JO_store rfl rfl (OpS.frame [0] rfl (OpS.storeCl [.int .i64 rv5.Width, .slice a11 rv5.Words.length k12] [.int .i64 rv5.Width, .slice a11 rv5.Words.length k12] rfl rfl rfl sh50 rfl rfl rfl (Nat.le_of_ble_eq_true rfl) rfl)) ?_
  refine JO_nil ?_
  refine JK_seq ?_
  refine JK_seq ?_
  refine JK_region ?_
  refine JO_q rfl rfl rfl (OpV.assign rfl rfl) ?_
  refine JO_nil ?_
  refine JK_block ?_
  refine JK_loop (γ := Nat × Int × Int × List (BitVec 64) × Int × Option Addr × Nat) (fun (r15, ti_16, s0_17, s1_18, b_19, a20, k21) => [(0, tP), (1, .int .i64 width), (4, p3), (5, p14), (6, .int .i64 b_19)]) (fun (r15, ti_16, s0_17, s1_18, b_19, a20, k21) => [os (.slice a20 s1_18.length k21) (s1_18 : List (BitVec 64)), Cl p14 [.int .i64 s0_17, .slice a20 s1_18.length k21], Cl p3 [.int .i64 0, .slice none 0 0], Cl tP [.slice ta tT.length tk, .int .i64 ti_16], sl (.slice ta tT.length tk) (tT : List Int)]) (fun (r15, ti_16, s0_17, s1_18, b_19, a20, k21) => Tape_Set_L0 tT r15 ti_16 s0_17 s1_18 b_19 = Tape_Set_L0 tT (((width : Int) - 0).toNat) tI rv5.Width rv5.Words 0 ∧ r15 = ((width : Int) - b_19).toNat ∧ (0 : Int) ≤ b_19 ∧ (b_19 ≤ width ∨ b_19 = 0) ∧ (-9223372036854775808 ≤ ti_16 ∧ ti_16 ≤ 9223372036854775807) ∧ (0 ≤ ti_16 ∧ ti_16 ≤ (tT.length : Int)) ∧ (-9223372036854775808 ≤ s0_17 ∧ s0_17 ≤ 9223372036854775807) ∧ (-9223372036854775808 ≤ b_19 ∧ b_19 ≤ 9223372036854775807) ∧ s0_17 = width ∧ s1_18.length = (((width : Int) + 63) / 64).toNat) (fun (r15, ti_16, s0_17, s1_18, b_19, a20, k21) => r15) (((width : Int) - 0).toNat, tI, rv5.Width, rv5.Words, 0, a11, k12) ⟨rfl, rfl, (by omega), (.inr rfl), (by omega), (by omega), (by omega), (by omega), (by first | omega | (simp only [lens]; omega) | simp), (by first | omega | (simp only [lens]; omega) | simp)⟩ (Env.sub_all rfl) (Ent.take (is := [1, 0, 0, 0, 0]) rfl) ?_
  rintro ⟨r15, ti_16, s0_17, s1_18, b_19, a20, k21⟩ ⟨hM22, hr23, hi24, hi25, hk26, ht27, hk28, hk29, hv30, hv31⟩
  refine JJ_norm (L := [(0, tP), (1, .int .i64 width), (4, p3), (5, p14), (6, .int .i64 b_19)]) (A := [os (.slice a20 s1_18.length k21) (s1_18 : List (BitVec 64)), Cl p14 [.int .i64 s0_17, .slice a20 s1_18.length k21], Cl p3 [.int .i64 0, .slice none 0 0], Cl tP [.slice ta tT.length tk, .int .i64 ti_16], sl (.slice ta tT.length tk) (tT : List Int)]) rfl rfl ?_
  refine JJ_fact 0 rfl os_bytes ?_
  intro hl32
  have hl32 : s1_18.length * 8 ≤ 140737488355328 := hl32
  refine JJ_fact 4 rfl sl_bytes ?_
  intro hl33
  have hl33 : tT.length * 8 ≤ 140737488355328 := hl33
  refine JJ_fact 4 rfl sl_ok ?_
  intro ho34
  refine JK_seq ?_
  refine JK_seq ?_
  refine JK_region ?_
  refine JO_q rfl rfl rfl (OpV.move rfl rfl) ?_
  refine JO_q rfl rfl rfl (OpV.move rfl rfl) ?_
  refine JO_q rfl rfl rfl (OpV.lss rfl rfl rfl) ?_
  refine JO_nil ?_
  refine JK_cond (b := decide (b_19 < width)) rfl (fun (h35 : decide (b_19 < width) = true) => ?_) (fun (h35 : decide (b_19 < width) = false) => ?_)
  · skip
    have g36 : (b_19 < width) := of_decide_eq_true h35
    obtain ⟨r37, rfl⟩ : ∃ q, r15 = q + 1 := ⟨r15 - 1, by omega⟩
    refine JK_skip ?_
    refine JK_seq ?_
    refine JK_block ?_
    refine JK_seq ?_
    refine JK_region ?_
    refine JO_q rfl rfl rfl (OpV.move rfl rfl) ?_
    refine letv (Tape_Next tT ti_16 3) fun rv38 hg39 => ?_
    have hc40 := fn8 tP ta tk tT ti_16 3 (by (try dsimp only) <;> first | (unfold i64ok; omega) | omega | assumption) (by (try dsimp only) <;> first | (unfold i64ok; omega) | omega | assumption) rv38 hg39
    refine JO_call [3, 3] rfl rfl rfl (OpC.fn rfl ca8 rfl) (hc40) rfl ?_
    rintro - ⟨he41, he42, he43⟩
    have he41 : -9223372036854775808 ≤ rv38.1 ∧ rv38.1 ≤ 9223372036854775807 := he41
    refine JO_q rfl rfl rfl (OpV.eql rfl rfl rfl) ?_
    refine JO_nil ?_
    refine JK_cond (b := (rv38.1 == 1)) rfl (fun (h44 : (rv38.1 == 1) = true) => ?_) (fun (h44 : (rv38.1 == 1) = false) => ?_)
    · skip
      have g45 : rv38.1 = 1 := eq_of_beq h44
      refine JK_region ?_
      refine JO_q rfl rfl rfl (OpV.loadA rfl rfl sh50 (i := 2) rfl (reads_Cl _ _) rfl) ?_
      refine JO_q rfl rfl rfl (OpV.move rfl rfl) ?_
      refine JJ_loc [1] rfl (Ent.freeze _ _) ?_
      refine letv (flqref1_Put (GSet.mk s0_17 s1_18) b_19) fun rv47 hg48 => ?_
      have hc49 := fn36 ((GSet.mk s0_17 s1_18)) a20 k21 b_19 (by (try dsimp only) <;> first | (unfold i64ok; omega) | omega | assumption) (by (try dsimp only) <;> first | (unfold i64ok; omega) | omega | assumption) (by (try dsimp only) <;> first | (unfold i64ok; omega) | omega | assumption) (by (try dsimp only) <;> first | (unfold i64ok; omega) | omega | assumption) rv47 hg48
      refine JO_call [0] rfl rfl rfl (OpC.fn rfl ca36 rfl) (hc49) rfl ?_
      rintro c46 ⟨he50, he51, he52⟩
      have he50 : -9223372036854775808 ≤ rv47.Width ∧ rv47.Width ≤ 9223372036854775807 := he50
      have he51 : (rv47.Width = s0_17) := he51
      have he52 : (rv47.Words.length = ((s0_17 + 63) / 64).toNat) := he52
      refine JJ_slice 0 rfl os_slice ?_
      rintro a53 k54 rfl
      refine JJ_fact 0 rfl os_bytes ?_
      intro hl55
      have hl55 : rv47.Words.length * 8 ≤ 140737488355328 := hl55
      refine JO_store rfl rfl (OpS.frame [3] rfl (OpS.storeCl [.int .i64 rv47.Width, .slice a53 rv47.Words.length k54] [.int .i64 rv47.Width, .slice a53 rv47.Words.length k54] rfl rfl rfl sh50 rfl rfl rfl (Nat.le_of_ble_eq_true rfl) rfl)) ?_
      refine JO_nil ?_
      refine JK_blk ?_
      refine JK_region ?_
      refine JO_q rfl rfl rfl (OpV.move rfl rfl) ?_
      refine JO_q rfl rfl rfl (OpV.add rfl rfl rfl (by unfold i64ok; omega)) ?_
      refine JO_q rfl rfl rfl (OpV.assign rfl rfl) ?_
      refine JO_nil ?_
      refine JK_goal (r37, rv38.2, rv47.Width, rv47.Words, (b_19 + 1), a53, k54) ⟨(by rw [← hM22]; simp only [Tape_Set_L0, h35, h44, hg6, hg39, hg48, cs4]), (by omega), (by omega), (by omega), (by omega), (by omega), (by omega), (by omega), (by first | omega | (simp only [lens]; omega) | assumption), (by first | omega | (simp only [lens]; omega) | assumption)⟩ (by show r37 < r37 + 1; omega) (Env.sub_all rfl) (Ent.take (is := [1, 0, 2, 1, 1]) rfl)
    · skip
      have g56 : rv38.1 ≠ 1 := ne_of_beq_false h44
      refine JK_skip ?_
      refine JK_blk ?_
      refine JK_region ?_
      refine JO_q rfl rfl rfl (OpV.move rfl rfl) ?_
      refine JO_q rfl rfl rfl (OpV.add rfl rfl rfl (by unfold i64ok; omega)) ?_
      refine JO_q rfl rfl rfl (OpV.assign rfl rfl) ?_
      refine JO_nil ?_
      refine JK_goal (r37, rv38.2, s0_17, s1_18, (b_19 + 1), a20, k21) ⟨(by rw [← hM22]; simp only [Tape_Set_L0, h35, h44, hg6, hg39, cs4]), (by omega), (by omega), (by omega), (by omega), (by omega), (by omega), (by omega), (by first | omega | (simp only [lens]; omega) | assumption), (by first | omega | (simp only [lens]; omega) | assumption)⟩ (by show r37 < r37 + 1; omega) (Env.sub_all rfl) (Ent.take (is := [1, 1, 1, 0, 0]) rfl)
  · skip
    have g57 : ¬ (b_19 < width) := of_decide_eq_false h35
    obtain rfl : r15 = 0 := by omega
    refine JK_exit rfl ?_
    have hR58 : Tape_Set_L0 tT (((width : Int) - 0).toNat) tI rv5.Width rv5.Words 0 = (ti_16, s0_17, s1_18) := by
      rw [← hM22]; simp only [Tape_Set_L0, h35, hg6, cs4]
    refine JK_seq ?_
    refine JK_region ?_
    refine JO_q rfl rfl rfl (OpV.loadA rfl rfl sh50 (i := 1) rfl (reads_Cl _ _) rfl) ?_
    refine JO_store rfl rfl (OpS.frame [2] rfl (OpS.storeCl [.int .i64 s0_17, .slice a20 s1_18.length k21] [.int .i64 s0_17, .slice a20 s1_18.length k21] rfl rfl rfl sh50 rfl rfl rfl (Nat.le_of_ble_eq_true rfl) rfl)) ?_
    refine JO_nil ?_
    have hq : rr = ((GSet.mk s0_17 s1_18), ti_16) := hrr.symm.trans (by simp only [Tape_Set, h35, hg6, hR58, cs4])
    replace hrr := hrr.trans hq
    subst rr
    refine JK_return (.slice a20 s1_18.length k21) rfl (.cellN 0 rfl sh50 rfl (reads_Cl _ _) rfl .nil) rfl (by refine ⟨?_, ?_, ?_, ?_⟩ <;> (try dsimp only) <;> first | omega | (unfold i64ok; omega) | (simp only [lens]; omega) | assumption | trivial) (Ent.take (is := [1, 2]) rfl)
set_option maxHeartbeats 20000000 in
set_option maxRecDepth 100000 in
/- (*flowquery/flqgen.Tape).Transfer -/
theorem fn21 (tP : Value) (ta : Option Addr) (tk : Nat) (tT : List Int) (tI : Int) (width : Int) (htI : 0 ≤ tI ∧ tI ≤ (tT.length : Int)) (hwidth_0 : i64ok width) (hw0 : 0 ≤ width ∧ width ≤ 1000) (rr : GTransfer × Int) (hrr : Tape_Transfer tT tI width = rr) :
    FT Try.prog 21 #[tP, .int .i64 width] [Cl tP [.slice ta tT.length tk, .int .i64 tI], sl (.slice ta tT.length tk) (tT : List Int)]
      (fun g : Value × Value × Value => i64ok rr.1.Gen.Width ∧ i64ok rr.1.Kill.Width ∧ (0 ≤ rr.2 ∧ rr.2 ≤ (tT.length : Int)) ∧ (rr.1.Gen.Width = width) ∧ (rr.1.Kill.Width = width) ∧ (rr.1.Copies.length ≤ 12))
      (fun g => .agg #[.int .i64 rr.1.Gen.Width, g.1, .int .i64 rr.1.Kill.Width, g.2.1, g.2.2])
      (fun g => [sl (g.1) (rr.1.Gen.Words : List (BitVec 64)), sl (g.2.1) (rr.1.Kill.Words : List (BitVec 64)), sl (g.2.2) (rr.1.Copies : List GCopy), Cl tP [.slice ta tT.length tk, .int .i64 rr.2]]) := by
  refine FT_intro (args := [tP, .int .i64 width]) Try.func21 rfl rfl ?_
  intro w0 M0 F0
  have hwidth_0 : -9223372036854775808 ≤ width ∧ width ≤ 9223372036854775807 := hwidth_0
  refine JJ_fact 1 rfl sl_bytes ?_
  intro hl1
  have hl1 : tT.length * 8 ≤ 140737488355328 := hl1
  refine JJ_fact 1 rfl sl_ok ?_
  intro ho2
  refine JK_seq ?_
  refine JK_region ?_
  refine JO_act rfl rfl rfl (OpA.alloc rfl ze54) ?_
  intro p3
  refine JO_nil ?_
  refine JK_seq ?_
  refine JK_region ?_
  refine JO_q rfl rfl rfl (OpV.move rfl rfl) ?_
  refine letv (flqref1_Empty width) fun rv5 hg6 => ?_
  have hc7 := fn19 width (by (try dsimp only) <;> first | (unfold i64ok; omega) | omega | assumption) (by (try dsimp only) <;> first | (unfold i64ok; omega) | omega | assumption) rv5 hg6
  refine JO_call [] rfl rfl rfl (OpC.fn rfl ca19 rfl) (hc7) rfl ?_
  rintro c4 ⟨he8, he9, he10⟩
  have he8 : -9223372036854775808 ≤ rv5.Width ∧ rv5.Width ≤ 9223372036854775807 := he8
  refine JJ_slice 0 rfl os_slice ?_
  rintro a11 k12 rfl
  refine JJ_fact 0 rfl os_bytes ?_
  intro hl13
  have hl13 : rv5.Words.length * 8 ≤ 140737488355328 := hl13
  refine JO_q rfl rfl rfl (OpV.move rfl rfl) ?_
  have hc15 := fn19 width (by (try dsimp only) <;> first | (unfold i64ok; omega) | omega | assumption) (by (try dsimp only) <;> first | (unfold i64ok; omega) | omega | assumption) rv5 hg6
  refine JO_call [] rfl rfl rfl (OpC.fn rfl ca19 rfl) (hc15) rfl ?_
  rintro c14 ⟨he16, he17, he18⟩
  have he16 : -9223372036854775808 ≤ rv5.Width ∧ rv5.Width ≤ 9223372036854775807 := he16
  refine JJ_slice 0 rfl os_slice ?_
  rintro a19 k20 rfl
  refine JO_q rfl rfl rfl (OpV.build (rs := #[.int .i64 rv5.Width, .slice a11 rv5.Words.length k12, .int .i64 rv5.Width, .slice a19 rv5.Words.length k20, .slice none 0 0]) rfl st54 (Env.evp_map rfl) rfl) ?_
  refine JO_act rfl rfl rfl (OpA.alloc rfl ze54) ?_
  intro p21
  refine JO_store rfl rfl (OpS.frame [0] rfl (OpS.storeCl [.int .i64 rv5.Width, .slice a11 rv5.Words.length k12, .int .i64 rv5.Width, .slice a19 rv5.Words.length k20, .slice none 0 0] [.int .i64 rv5.Width, .slice a11 rv5.Words.length k12, .int .i64 rv5.Width, .slice a19 rv5.Words.length k20, .slice none 0 0] rfl rfl rfl sh54 rfl rfl rfl (Nat.le_of_ble_eq_true rfl) rfl)) ?_
  refine JO_nil ?_
  refine JK_seq ?_
  refine JK_seq ?_
  refine JK_region ?_
  refine JO_q rfl rfl rfl (OpV.assign rfl rfl) ?_
  refine JO_nil ?_
  refine JK_block ?_
  refine JK_loop (γ := Nat × Int × Int × List (BitVec 64) × Int × List (BitVec 64) × Int × Option Addr × Nat × Option Addr × Nat) (fun (r22, ti_23, f0_24, f1_25, f2_26, f3_27, b_28, a29, k30, a31, k32) => [(0, tP), (1, .int .i64 width), (4, p3), (5, p21), (6, .int .i64 b_28)]) (fun (r22, ti_23, f0_24, f1_25, f2_26, f3_27, b_28, a29, k30, a31, k32) => [os (.slice a31 f3_27.length k32) (f3_27 : List (BitVec 64)), os (.slice a29 f1_25.length k30) (f1_25 : List (BitVec 64)), Cl p21 [.int .i64 f0_24, .slice a29 f1_25.length k30, .int .i64 f2_26, .slice a31 f3_27.length k32, .slice none 0 0], Cl p3 [.int .i64 0, .slice none 0 0, .int .i64 0, .slice none 0 0, .slice none 0 0], Cl tP [.slice ta tT.length tk, .int .i64 ti_23], sl (.slice ta tT.length tk) (tT : List Int)]) (fun (r22, ti_23, f0_24, f1_25, f2_26, f3_27, b_28, a29, k30, a31, k32) => Tape_Transfer_L0 tT r22 ti_23 f0_24 f1_25 f2_26 f3_27 b_28 = Tape_Transfer_L0 tT (((width : Int) - 0).toNat) tI rv5.Width rv5.Words rv5.Width rv5.Words 0 ∧ r22 = ((width : Int) - b_28).toNat ∧ (0 : Int) ≤ b_28 ∧ (b_28 ≤ width ∨ b_28 = 0) ∧ (-9223372036854775808 ≤ ti_23 ∧ ti_23 ≤ 9223372036854775807) ∧ (0 ≤ ti_23 ∧ ti_23 ≤ (tT.length : Int)) ∧ (-9223372036854775808 ≤ f0_24 ∧ f0_24 ≤ 9223372036854775807) ∧ (-9223372036854775808 ≤ f2_26 ∧ f2_26 ≤ 9223372036854775807) ∧ (-9223372036854775808 ≤ b_28 ∧ b_28 ≤ 9223372036854775807) ∧ f0_24 = width ∧ f1_25.length = (((width : Int) + 63) / 64).toNat ∧ f2_26 = width ∧ f3_27.length = (((width : Int) + 63) / 64).toNat) (fun (r22, ti_23, f0_24, f1_25, f2_26, f3_27, b_28, a29, k30, a31, k32) => r22) (((width : Int) - 0).toNat, tI, rv5.Width, rv5.Words, rv5.Width, rv5.Words, 0, a11, k12, a19, k20) ⟨rfl, rfl, (by omega), (.inr rfl), (by omega), (by omega), (by omega), (by omega), (by omega), (by first | omega | (simp only [lens]; omega) | simp), (by first | omega | (simp only [lens]; omega) | simp), (by first | omega | (simp only [lens]; omega) | simp), (by first | omega | (simp only [lens]; omega) | simp)⟩ (Env.sub_all rfl) (Ent.take (is := [1, 1, 0, 0, 0, 0]) rfl) ?_
  rintro ⟨r22, ti_23, f0_24, f1_25, f2_26, f3_27, b_28, a29, k30, a31, k32⟩ ⟨hM33, hr34, hi35, hi36, hk37, ht38, hk39, hk40, hk41, hv42, hv43, hv44, hv45⟩
  refine JJ_norm (L := [(0, tP), (1, .int .i64 width), (4, p3), (5, p21), (6, .int .i64 b_28)]) (A := [os (.slice a31 f3_27.length k32) (f3_27 : List (BitVec 64)), os (.slice a29 f1_25.length k30) (f1_25 : List (BitVec 64)), Cl p21 [.int .i64 f0_24, .slice a29 f1_25.length k30, .int .i64 f2_26, .slice a31 f3_27.length k32, .slice none 0 0], Cl p3 [.int .i64 0, .slice none 0 0, .int .i64 0, .slice none 0 0, .slice none 0 0], Cl tP [.slice ta tT.length tk, .int .i64 ti_23], sl (.slice ta tT.length tk) (tT : List Int)]) rfl rfl ?_
  refine JJ_fact 0 rfl os_bytes ?_
  intro hl46
  have hl46 : f3_27.length * 8 ≤ 140737488355328 := hl46
  refine JJ_fact 1 rfl os_bytes ?_
  intro hl47
  have hl47 : f1_25.length * 8 ≤ 140737488355328 := hl47
  refine JJ_fact 5 rfl sl_bytes ?_
  intro hl48
  have hl48 : tT.length * 8 ≤ 140737488355328 := hl48
  refine JJ_fact 5 rfl sl_ok ?_
  intro ho49
  refine JK_seq ?_
  refine JK_seq ?_
  refine JK_region ?_
  refine JO_q rfl rfl rfl (OpV.move rfl rfl) ?_
  refine JO_q rfl rfl rfl (OpV.move rfl rfl) ?_
  refine JO_q rfl rfl rfl (OpV.lss rfl rfl rfl) ?_
  refine JO_nil ?_
  refine JK_cond (b := decide (b_28 < width)) rfl (fun (h50 : decide (b_28 < width) = true) => ?_) (fun (h50 : decide (b_28 < width) = false) => ?_)
  · skip
    have g51 : (b_28 < width) := of_decide_eq_true h50
    obtain ⟨r52, rfl⟩ : ∃ q, r22 = q + 1 := ⟨r22 - 1, by omega⟩
    refine JK_skip ?_
    refine JK_seq ?_
    refine JK_block ?_
    refine JK_seq ?_
    refine JK_region ?_
    refine JO_q rfl rfl rfl (OpV.move rfl rfl) ?_
    refine letv (Tape_Next tT ti_23 6) fun rv53 hg54 => ?_
    have hc55 := fn8 tP ta tk tT ti_23 6 (by (try dsimp only) <;> first | (unfold i64ok; omega) | omega | assumption) (by (try dsimp only) <;> first | (unfold i64ok; omega) | omega | assumption) rv53 hg54
    refine JO_call [4, 4] rfl rfl rfl (OpC.fn rfl ca8 rfl) (hc55) rfl ?_
    rintro - ⟨he56, he57, he58⟩
    have he56 : -9223372036854775808 ≤ rv53.1 ∧ rv53.1 ≤ 9223372036854775807 := he56
    refine JO_nil ?_
    refine JK_block ?_
    refine JK_seq ?_
    refine JK_region ?_
    refine JO_q rfl rfl rfl (OpV.eql rfl rfl rfl) ?_
    refine JO_q rfl rfl rfl (OpV.assign rfl rfl) ?_
    refine JO_nil ?_
    refine JK_cond (b := (rv53.1 == 1)) rfl (fun (h59 : (rv53.1 == 1) = true) => ?_) (fun (h59 : (rv53.1 == 1) = false) => ?_)
    · skip
      have g60 : rv53.1 = 1 := eq_of_beq h59
      refine JK_region ?_
      refine JO_q rfl rfl rfl (OpV.fieldAddr rfl rfl fo54_0 (i := 3) rfl (isPtr_Cl _ _)) ?_
      refine JO_q rfl rfl rfl (OpV.loadAF [.int .i64 f0_24, .slice a29 f1_25.length k30] rfl rfl sh50 (i := 3) rfl (reads_Cl _ _) rfl rfl) ?_
      refine JO_q rfl rfl rfl (OpV.move rfl rfl) ?_
      refine JJ_loc [2] rfl (Ent.freeze _ _) ?_
      refine letv (flqref1_Put (GSet.mk f0_24 f1_25) b_28) fun rv62 hg63 => ?_
      have hc64 := fn36 ((GSet.mk f0_24 f1_25)) a29 k30 b_28 (by (try dsimp only) <;> first | (unfold i64ok; omega) | omega | assumption) (by (try dsimp only) <;> first | (unfold i64ok; omega) | omega | assumption) (by (try dsimp only) <;> first | (unfold i64ok; omega) | omega | assumption) (by (try dsimp only) <;> first | (unfold i64ok; omega) | omega | assumption) rv62 hg63
      refine JO_call [0] rfl rfl rfl (OpC.fn rfl ca36 rfl) (hc64) rfl ?_
      rintro c61 ⟨he65, he66, he67⟩
      have he65 : -9223372036854775808 ≤ rv62.Width ∧ rv62.Width ≤ 9223372036854775807 := he65
      have he66 : (rv62.Width = f0_24) := he66
      have he67 : (rv62.Words.length = ((f0_24 + 63) / 64).toNat) := he67
      refine JJ_slice 0 rfl os_slice ?_
      rintro a68 k69 rfl
      refine JJ_fact 0 rfl os_bytes ?_
      intro hl70
      have hl70 : rv62.Words.length * 8 ≤ 140737488355328 := hl70
      refine JO_q rfl rfl rfl (OpV.fieldAddr rfl rfl fo54_0 (i := 4) rfl (isPtr_Cl _ _)) ?_
      refine JO_store rfl rfl (OpS.frame [4] rfl (OpS.storeClF [.int .i64 rv62.Width, .slice a68 rv62.Words.length k69] [.int .i64 rv62.Width, .slice a68 rv62.Words.length k69, .int .i64 f2_26, .slice a31 f3_27.length k32, .slice none 0 0] rfl rfl rfl sh50 rfl rfl rfl (Nat.le_of_ble_eq_true rfl) rfl)) ?_
      refine JO_nil ?_
      refine JK_blk ?_
      refine JK_blk ?_
      refine JK_region ?_
      refine JO_q rfl rfl rfl (OpV.move rfl rfl) ?_
      refine JO_q rfl rfl rfl (OpV.add rfl rfl rfl (by unfold i64ok; omega)) ?_
      refine JO_q rfl rfl rfl (OpV.assign rfl rfl) ?_
      refine JO_nil ?_
      refine JK_goal (r52, rv53.2, rv62.Width, rv62.Words, f2_26, f3_27, (b_28 + 1), a68, k69, a31, k32) ⟨(by rw [← hM33]; simp only [Tape_Transfer_L0, h50, h59, hg6, hg54, hg63, cs4]), (by omega), (by omega), (by omega), (by omega), (by omega), (by omega), (by omega), (by omega), (by first | omega | (simp only [lens]; omega) | assumption), (by first | omega | (simp only [lens]; omega) | assumption), (by first | omega | (simp only [lens]; omega) | assumption), (by first | omega | (simp only [lens]; omega) | assumption)⟩ (by show r52 < r52 + 1; omega) (Env.sub_all rfl) (Ent.take (is := [4, 1, 0, 2, 1, 1]) rfl)
    · skip
      have g71 : rv53.1 ≠ 1 := ne_of_beq_false h59
      refine JK_seq ?_
      refine JK_seq ?_
      refine JK_region ?_
      refine JO_q rfl rfl rfl (OpV.eql rfl rfl rfl) ?_
      refine JO_q rfl rfl rfl (OpV.assign rfl rfl) ?_
      refine JO_nil ?_
      refine JK_cond (b := (rv53.1 == 2)) rfl (fun (h72 : (rv53.1 == 2) = true) => ?_) (fun (h72 : (rv53.1 == 2) = false) => ?_)
      · skip
        have g73 : rv53.1 = 2 := eq_of_beq h72
        refine JK_skip ?_
        refine JK_cond (b := (rv53.1 == 2)) rfl (fun (h74 : (rv53.1 == 2) = true) => ?_) (fun (h74 : (rv53.1 == 2) = false) => ?_)
        · skip
          have g75 : rv53.1 = 2 := eq_of_beq h74
          refine JK_region ?_
          refine JO_q rfl rfl rfl (OpV.fieldAddr rfl rfl fo54_1 (i := 3) rfl (isPtr_Cl _ _)) ?_
          refine JO_q rfl rfl rfl (OpV.loadAF [.int .i64 f2_26, .slice a31 f3_27.length k32] rfl rfl sh50 (i := 3) rfl (reads_Cl _ _) rfl rfl) ?_
          refine JO_q rfl rfl rfl (OpV.move rfl rfl) ?_
          refine JJ_loc [1] rfl (Ent.freeze _ _) ?_
          refine letv (flqref1_Put (GSet.mk f2_26 f3_27) b_28) fun rv77 hg78 => ?_
          have hc79 := fn36 ((GSet.mk f2_26 f3_27)) a31 k32 b_28 (by (try dsimp only) <;> first | (unfold i64ok; omega) | omega | assumption) (by (try dsimp only) <;> first | (unfold i64ok; omega) | omega | assumption) (by (try dsimp only) <;> first | (unfold i64ok; omega) | omega | assumption) (by (try dsimp only) <;> first | (unfold i64ok; omega) | omega | assumption) rv77 hg78
          refine JO_call [0] rfl rfl rfl (OpC.fn rfl ca36 rfl) (hc79) rfl ?_
          rintro c76 ⟨he80, he81, he82⟩
          have he80 : -9223372036854775808 ≤ rv77.Width ∧ rv77.Width ≤ 9223372036854775807 := he80
          have he81 : (rv77.Width = f2_26) := he81
          have he82 : (rv77.Words.length = ((f2_26 + 63) / 64).toNat) := he82
          refine JJ_slice 0 rfl os_slice ?_
          rintro a83 k84 rfl
          refine JJ_fact 0 rfl os_bytes ?_
          intro hl85
          have hl85 : rv77.Words.length * 8 ≤ 140737488355328 := hl85
          refine JO_q rfl rfl rfl (OpV.fieldAddr rfl rfl fo54_1 (i := 4) rfl (isPtr_Cl _ _)) ?_
          refine JO_store rfl rfl (OpS.frame [4] rfl (OpS.storeClF [.int .i64 rv77.Width, .slice a83 rv77.Words.length k84] [.int .i64 f0_24, .slice a29 f1_25.length k30, .int .i64 rv77.Width, .slice a83 rv77.Words.length k84, .slice none 0 0] rfl rfl rfl sh50 rfl rfl rfl (Nat.le_of_ble_eq_true rfl) rfl)) ?_
          refine JO_nil ?_
          refine JK_blk ?_
          refine JK_blk ?_
          refine JK_region ?_
          refine JO_q rfl rfl rfl (OpV.move rfl rfl) ?_
          refine JO_q rfl rfl rfl (OpV.add rfl rfl rfl (by unfold i64ok; omega)) ?_
          refine JO_q rfl rfl rfl (OpV.assign rfl rfl) ?_
          refine JO_nil ?_
          refine JK_goal (r52, rv53.2, f0_24, f1_25, rv77.Width, rv77.Words, (b_28 + 1), a29, k30, a83, k84) ⟨(by rw [← hM33]; simp only [Tape_Transfer_L0, h50, h59, h72, h74, hg6, hg54, hg78, cs4]), (by omega), (by omega), (by omega), (by omega), (by omega), (by omega), (by omega), (by omega), (by first | omega | (simp only [lens]; omega) | assumption), (by first | omega | (simp only [lens]; omega) | assumption), (by first | omega | (simp only [lens]; omega) | assumption), (by first | omega | (simp only [lens]; omega) | assumption)⟩ (by show r52 < r52 + 1; omega) (Env.sub_all rfl) (Ent.take (is := [1, 3, 0, 2, 1, 1]) rfl)
        · skip
          exact absurd (h74.symm.trans h72) (by decide)
      · skip
        have g86 : rv53.1 ≠ 2 := ne_of_beq_false h72
        refine JK_region ?_
        refine JO_q rfl rfl rfl (OpV.eql rfl rfl rfl) ?_
        refine JO_q rfl rfl rfl (OpV.assign rfl rfl) ?_
        refine JO_nil ?_
        refine JK_cond (b := (rv53.1 == 3)) rfl (fun (h87 : (rv53.1 == 3) = true) => ?_) (fun (h87 : (rv53.1 == 3) = false) => ?_)
        · skip
          have g88 : rv53.1 = 3 := eq_of_beq h87
          refine JK_region ?_
          refine JO_q rfl rfl rfl (OpV.fieldAddr rfl rfl fo54_1 (i := 3) rfl (isPtr_Cl _ _)) ?_
          refine JO_q rfl rfl rfl (OpV.loadAF [.int .i64 f2_26, .slice a31 f3_27.length k32] rfl rfl sh50 (i := 3) rfl (reads_Cl _ _) rfl rfl) ?_
          refine JO_q rfl rfl rfl (OpV.move rfl rfl) ?_
          refine JJ_loc [1] rfl (Ent.freeze _ _) ?_
          refine letv (flqref1_Put (GSet.mk f2_26 f3_27) b_28) fun rv90 hg91 => ?_
          have hc92 := fn36 ((GSet.mk f2_26 f3_27)) a31 k32 b_28 (by (try dsimp only) <;> first | (unfold i64ok; omega) | omega | assumption) (by (try dsimp only) <;> first | (unfold i64ok; omega) | omega | assumption) (by (try dsimp only) <;> first | (unfold i64ok; omega) | omega | assumption) (by (try dsimp only) <;> first | (unfold i64ok; omega) | omega | assumption) rv90 hg91
          refine JO_call [0] rfl rfl rfl (OpC.fn rfl ca36 rfl) (hc92) rfl ?_
          rintro c89 ⟨he93, he94, he95⟩
          have he93 : -9223372036854775808 ≤ rv90.Width ∧ rv90.Width ≤ 9223372036854775807 := he93
          have he94 : (rv90.Width = f2_26) := he94
          have he95 : (rv90.Words.length = ((f2_26 + 63) / 64).toNat) := he95
          refine JJ_slice 0 rfl os_slice ?_
          rintro a96 k97 rfl
          refine JJ_fact 0 rfl os_bytes ?_
          intro hl98
          have hl98 : rv90.Words.length * 8 ≤ 140737488355328 := hl98
          refine JO_q rfl rfl rfl (OpV.fieldAddr rfl rfl fo54_1 (i := 4) rfl (isPtr_Cl _ _)) ?_
          refine JO_store rfl rfl (OpS.frame [4] rfl (OpS.storeClF [.int .i64 rv90.Width, .slice a96 rv90.Words.length k97] [.int .i64 f0_24, .slice a29 f1_25.length k30, .int .i64 rv90.Width, .slice a96 rv90.Words.length k97, .slice none 0 0] rfl rfl rfl sh50 rfl rfl rfl (Nat.le_of_ble_eq_true rfl) rfl)) ?_
          refine JO_nil ?_
          refine JK_blk ?_
          refine JK_blk ?_
          refine JK_region ?_
          refine JO_q rfl rfl rfl (OpV.move rfl rfl) ?_
          refine JO_q rfl rfl rfl (OpV.add rfl rfl rfl (by unfold i64ok; omega)) ?_
          refine JO_q rfl rfl rfl (OpV.assign rfl rfl) ?_
          refine JO_nil ?_
          refine JK_goal (r52, rv53.2, f0_24, f1_25, rv90.Width, rv90.Words, (b_28 + 1), a29, k30, a96, k97) ⟨(by rw [← hM33]; simp only [Tape_Transfer_L0, h50, h59, h72, h87, hg6, hg54, hg91, cs4]), (by omega), (by omega), (by omega), (by omega), (by omega), (by omega), (by omega), (by omega), (by first | omega | (simp only [lens]; omega) | assumption), (by first | omega | (simp only [lens]; omega) | assumption), (by first | omega | (simp only [lens]; omega) | assumption), (by first | omega | (simp only [lens]; omega) | assumption)⟩ (by show r52 < r52 + 1; omega) (Env.sub_all rfl) (Ent.take (is := [1, 3, 0, 2, 1, 1]) rfl)
        · skip
          have g99 : rv53.1 ≠ 3 := ne_of_beq_false h87
          refine JK_skip ?_
          refine JK_blk ?_
          refine JK_blk ?_
          refine JK_region ?_
          refine JO_q rfl rfl rfl (OpV.move rfl rfl) ?_
          refine JO_q rfl rfl rfl (OpV.add rfl rfl rfl (by unfold i64ok; omega)) ?_
          refine JO_q rfl rfl rfl (OpV.assign rfl rfl) ?_
          refine JO_nil ?_
          refine JK_goal (r52, rv53.2, f0_24, f1_25, f2_26, f3_27, (b_28 + 1), a29, k30, a31, k32) ⟨(by rw [← hM33]; simp only [Tape_Transfer_L0, h50, h59, h72, h87, hg6, hg54, cs4]), (by omega), (by omega), (by omega), (by omega), (by omega), (by omega), (by omega), (by omega), (by first | omega | (simp only [lens]; omega) | assumption), (by first | omega | (simp only [lens]; omega) | assumption), (by first | omega | (simp only [lens]; omega) | assumption), (by first | omega | (simp only [lens]; omega) | assumption)⟩ (by show r52 < r52 + 1; omega) (Env.sub_all rfl) (Ent.take (is := [1, 1, 1, 1, 0, 0]) rfl)
  · skip
    have g100 : ¬ (b_28 < width) := of_decide_eq_false h50
    obtain rfl : r22 = 0 := by omega
    refine JK_exit rfl ?_
    have hR101 : Tape_Transfer_L0 tT (((width : Int) - 0).toNat) tI rv5.Width rv5.Words rv5.Width rv5.Words 0 = (ti_23, f0_24, f1_25, f2_26, f3_27) := by
      rw [← hM33]; simp only [Tape_Transfer_L0, h50, hg6, cs4]
    refine JK_seq ?_
    refine JK_seq ?_
    refine JK_region ?_
    refine JO_q rfl rfl rfl (OpV.assign rfl rfl) ?_
    refine JO_nil ?_
    refine JK_block ?_
    refine JJ_loc [] rfl (Ent.osNil (α := GCopy)) ?_
    refine JK_loop (γ := Nat × Int × List GCopy × Int × Option Addr × Nat) (fun (r102, ti_103, f4_104, a_105, a106, k107) => [(0, tP), (1, .int .i64 width), (4, p3), (5, p21), (7, .int .i64 a_105)]) (fun (r102, ti_103, f4_104, a_105, a106, k107) => [os (.slice a106 f4_104.length k107) (f4_104 : List GCopy), os (.slice a31 f3_27.length k32) (f3_27 : List (BitVec 64)), os (.slice a29 f1_25.length k30) (f1_25 : List (BitVec 64)), Cl p21 [.int .i64 f0_24, .slice a29 f1_25.length k30, .int .i64 f2_26, .slice a31 f3_27.length k32, .slice a106 f4_104.length k107], Cl p3 [.int .i64 0, .slice none 0 0, .int .i64 0, .slice none 0 0, .slice none 0 0], Cl tP [.slice ta tT.length tk, .int .i64 ti_103], sl (.slice ta tT.length tk) (tT : List Int)]) (fun (r102, ti_103, f4_104, a_105, a106, k107) => Tape_Transfer_L1 tT width r102 ti_103 f4_104 a_105 = Tape_Transfer_L1 tT width (((width : Int) - 0).toNat) ti_23 [] 0 ∧ r102 = ((width : Int) - a_105).toNat ∧ (0 : Int) ≤ a_105 ∧ (a_105 ≤ width ∨ a_105 = 0) ∧ (-9223372036854775808 ≤ ti_103 ∧ ti_103 ≤ 9223372036854775807) ∧ (0 ≤ ti_103 ∧ ti_103 ≤ (tT.length : Int)) ∧ (-9223372036854775808 ≤ a_105 ∧ a_105 ≤ 9223372036854775807) ∧ f4_104.length ≤ 12) (fun (r102, ti_103, f4_104, a_105, a106, k107) => r102) (((width : Int) - 0).toNat, ti_23, [], 0, none, 0) ⟨rfl, rfl, (by omega), (.inr rfl), (by omega), (by omega), (by omega), (by first | omega | (simp only [lens]; omega) | simp)⟩ (Env.sub_all rfl) (Ent.take (is := [0, 0, 0, 0, 0, 0, 0]) rfl) ?_
    rintro ⟨r102, ti_103, f4_104, a_105, a106, k107⟩ ⟨hM108, hr109, hi110, hi111, hk112, ht113, hk114, hv115⟩
    refine JJ_norm (L := [(0, tP), (1, .int .i64 width), (4, p3), (5, p21), (7, .int .i64 a_105)]) (A := [os (.slice a106 f4_104.length k107) (f4_104 : List GCopy), os (.slice a31 f3_27.length k32) (f3_27 : List (BitVec 64)), os (.slice a29 f1_25.length k30) (f1_25 : List (BitVec 64)), Cl p21 [.int .i64 f0_24, .slice a29 f1_25.length k30, .int .i64 f2_26, .slice a31 f3_27.length k32, .slice a106 f4_104.length k107], Cl p3 [.int .i64 0, .slice none 0 0, .int .i64 0, .slice none 0 0, .slice none 0 0], Cl tP [.slice ta tT.length tk, .int .i64 ti_103], sl (.slice ta tT.length tk) (tT : List Int)]) rfl rfl ?_
    refine JJ_fact 0 rfl os_bytes ?_
    intro hl116
    have hl116 : f4_104.length * 16 ≤ 140737488355328 := hl116
    refine JJ_fact 1 rfl os_bytes ?_
    intro hl117
    have hl117 : f3_27.length * 8 ≤ 140737488355328 := hl117
    refine JJ_fact 2 rfl os_bytes ?_
    intro hl118
    have hl118 : f1_25.length * 8 ≤ 140737488355328 := hl118
    refine JJ_fact 6 rfl sl_bytes ?_
    intro hl119
    have hl119 : tT.length * 8 ≤ 140737488355328 := hl119
    refine JJ_fact 6 rfl sl_ok ?_
    intro ho120
    refine JK_seq ?_
    refine JK_seq ?_
    refine JK_region ?_
    refine JO_q rfl rfl rfl (OpV.move rfl rfl) ?_
    refine JO_q rfl rfl rfl (OpV.move rfl rfl) ?_
    refine JO_q rfl rfl rfl (OpV.lss rfl rfl rfl) ?_
    refine JO_nil ?_
    refine JK_cond (b := decide (a_105 < width)) rfl (fun (h121 : decide (a_105 < width) = true) => ?_) (fun (h121 : decide (a_105 < width) = false) => ?_)
    · skip
      have g122 : (a_105 < width) := of_decide_eq_true h121
      obtain ⟨r123, rfl⟩ : ∃ q, r102 = q + 1 := ⟨r102 - 1, by omega⟩
      refine JK_skip ?_
      refine JK_seq ?_
      refine JK_block ?_
      refine JK_seq ?_
      refine JK_region ?_
      refine JO_q rfl rfl rfl (OpV.assign rfl rfl) ?_
      refine JO_nil ?_
      refine JK_block ?_
      refine JK_loop (γ := Nat × Int × List GCopy × Int × Option Addr × Nat) (fun (r124, ti_125, f4_126, b_127, a128, k129) => [(0, tP), (1, .int .i64 width), (4, p3), (5, p21), (7, .int .i64 a_105), (8, .int .i64 b_127)]) (fun (r124, ti_125, f4_126, b_127, a128, k129) => [os (.slice a128 f4_126.length k129) (f4_126 : List GCopy), os (.slice a31 f3_27.length k32) (f3_27 : List (BitVec 64)), os (.slice a29 f1_25.length k30) (f1_25 : List (BitVec 64)), Cl p21 [.int .i64 f0_24, .slice a29 f1_25.length k30, .int .i64 f2_26, .slice a31 f3_27.length k32, .slice a128 f4_126.length k129], Cl p3 [.int .i64 0, .slice none 0 0, .int .i64 0, .slice none 0 0, .slice none 0 0], Cl tP [.slice ta tT.length tk, .int .i64 ti_125], sl (.slice ta tT.length tk) (tT : List Int)]) (fun (r124, ti_125, f4_126, b_127, a128, k129) => Tape_Transfer_L2 tT width a_105 r124 ti_125 f4_126 b_127 = Tape_Transfer_L2 tT width a_105 (((width : Int) - 0).toNat) ti_103 f4_104 0 ∧ r124 = ((width : Int) - b_127).toNat ∧ (0 : Int) ≤ b_127 ∧ (b_127 ≤ width ∨ b_127 = 0) ∧ (-9223372036854775808 ≤ ti_125 ∧ ti_125 ≤ 9223372036854775807) ∧ (0 ≤ ti_125 ∧ ti_125 ≤ (tT.length : Int)) ∧ (-9223372036854775808 ≤ b_127 ∧ b_127 ≤ 9223372036854775807) ∧ f4_126.length ≤ 12) (fun (r124, ti_125, f4_126, b_127, a128, k129) => r124) (((width : Int) - 0).toNat, ti_103, f4_104, 0, a106, k107) ⟨rfl, rfl, (by omega), (.inr rfl), (by omega), (by omega), (by omega), (by first | omega | (simp only [lens]; omega) | simp)⟩ (Env.sub_all rfl) (Ent.take (is := [0, 0, 0, 0, 0, 0, 0]) rfl) ?_
      rintro ⟨r124, ti_125, f4_126, b_127, a128, k129⟩ ⟨hM130, hr131, hi132, hi133, hk134, ht135, hk136, hv137⟩
      refine JJ_norm (L := [(0, tP), (1, .int .i64 width), (4, p3), (5, p21), (7, .int .i64 a_105), (8, .int .i64 b_127)]) (A := [os (.slice a128 f4_126.length k129) (f4_126 : List GCopy), os (.slice a31 f3_27.length k32) (f3_27 : List (BitVec 64)), os (.slice a29 f1_25.length k30) (f1_25 : List (BitVec 64)), Cl p21 [.int .i64 f0_24, .slice a29 f1_25.length k30, .int .i64 f2_26, .slice a31 f3_27.length k32, .slice a128 f4_126.length k129], Cl p3 [.int .i64 0, .slice none 0 0, .int .i64 0, .slice none 0 0, .slice none 0 0], Cl tP [.slice ta tT.length tk, .int .i64 ti_125], sl (.slice ta tT.length tk) (tT : List Int)]) rfl rfl ?_
      refine JJ_fact 0 rfl os_bytes ?_
      intro hl138
      have hl138 : f4_126.length * 16 ≤ 140737488355328 := hl138
      refine JJ_fact 1 rfl os_bytes ?_
      intro hl139
      have hl139 : f3_27.length * 8 ≤ 140737488355328 := hl139
      refine JJ_fact 2 rfl os_bytes ?_
      intro hl140
      have hl140 : f1_25.length * 8 ≤ 140737488355328 := hl140
      refine JJ_fact 6 rfl sl_bytes ?_
      intro hl141
      have hl141 : tT.length * 8 ≤ 140737488355328 := hl141
      refine JJ_fact 6 rfl sl_ok ?_
      intro ho142
      refine JK_seq ?_
      refine JK_seq ?_
      refine JK_region ?_
      refine JO_q rfl rfl rfl (OpV.move rfl rfl) ?_
      refine JO_q rfl rfl rfl (OpV.move rfl rfl) ?_
      refine JO_q rfl rfl rfl (OpV.lss rfl rfl rfl) ?_
      refine JO_q rfl rfl rfl (OpV.move rfl rfl) ?_
      refine JJ_split 44 rfl (fun (h143 : decide (b_127 < width) = true) => ?_) (fun (h143 : decide (b_127 < width) = false) => ?_)
      · skip
        have g144 : (b_127 < width) := of_decide_eq_true h143
        obtain ⟨r145, rfl⟩ : ∃ q, r124 = q + 1 := ⟨r124 - 1, by omega⟩
        refine JO_taken rfl rfl rfl rfl ?_
        refine JO_q rfl rfl rfl (OpV.fieldAddr rfl rfl fo54_2 (i := 3) rfl (isPtr_Cl _ _)) ?_
        refine JO_taken rfl rfl rfl rfl ?_
        refine JO_q rfl rfl rfl (OpV.loadF rfl rfl sh52 (i := 3) rfl (reads_Cl _ _) rfl) ?_
        refine JO_taken rfl rfl rfl rfl ?_
        refine JO_q rfl rfl rfl (OpV.len rfl rfl sl52) ?_
        refine JO_taken rfl rfl rfl rfl ?_
        refine JO_q rfl rfl rfl (OpV.lss rfl rfl rfl) ?_
        refine JO_q rfl rfl rfl (OpV.pickT rfl rfl rfl) ?_
        refine JO_nil ?_
        refine JK_cond (b := decide (((f4_126.length : Nat) : Int) < 12)) rfl (fun (h146 : decide (((f4_126.length : Nat) : Int) < 12) = true) => ?_) (fun (h146 : decide (((f4_126.length : Nat) : Int) < 12) = false) => ?_)
        · skip
          have g147 : (((f4_126.length : Nat) : Int) < 12) := of_decide_eq_true h146
          refine JK_skip ?_
          refine JK_seq ?_
          refine JK_block ?_
          refine JK_seq ?_
          refine JK_region ?_
          refine JO_q rfl rfl rfl (OpV.move rfl rfl) ?_
          refine JO_q rfl rfl rfl (OpV.move rfl rfl) ?_
          refine JO_q rfl rfl rfl (OpV.mul rfl rfl rfl (by unfold i64ok; omega)) ?_
          refine letv (Tape_Next tT ti_125 (2 * width)) fun rv148 hg149 => ?_
          have hc150 := fn8 tP ta tk tT ti_125 ((2 * width)) (by (try dsimp only) <;> first | (unfold i64ok; omega) | omega | assumption) (by (try dsimp only) <;> first | (unfold i64ok; omega) | omega | assumption) rv148 hg149
          refine JO_call [5, 5] rfl rfl rfl (OpC.fn rfl ca8 rfl) (hc150) rfl ?_
          rintro - ⟨he151, he152, he153⟩
          have he151 : -9223372036854775808 ≤ rv148.1 ∧ rv148.1 ≤ 9223372036854775807 := he151
          refine JO_q rfl rfl rfl (OpV.eql rfl rfl rfl) ?_
          refine JO_nil ?_
          refine JK_cond (b := (rv148.1 == 1)) rfl (fun (h154 : (rv148.1 == 1) = true) => ?_) (fun (h154 : (rv148.1 == 1) = false) => ?_)
          · skip
            have g155 : rv148.1 = 1 := eq_of_beq h154
            refine JK_region ?_
            refine JO_q rfl rfl rfl (OpV.fieldAddr rfl rfl fo54_2 (i := 4) rfl (isPtr_Cl _ _)) ?_
            refine JO_q rfl rfl rfl (OpV.loadF rfl rfl sh52 (i := 4) rfl (reads_Cl _ _) rfl) ?_
            refine JO_q rfl rfl rfl (OpV.move rfl rfl) ?_
            refine JO_q rfl rfl rfl (OpV.move rfl rfl) ?_
            refine JO_q rfl rfl rfl (OpV.build (rs := #[.int .i64 a_105, .int .i64 b_127]) rfl st68 (Env.evp_map rfl) rfl) ?_
            refine JO_act rfl rfl rfl (OpA.buildSliceV [.agg #[.int .i64 a_105, .int .i64 b_127]] [.int .i64 a_105, .int .i64 b_127] rfl sl52 sz52 rfl (Env.evp_map rfl) rfl rfl rfl rfl) ?_
            intro c156
            refine JJ_slice 0 rfl Cr_slice ?_
            rintro a157 k158 rfl
            refine JJ_loc [0] rfl (Ent.cr1 (α := GCopy) (A := []) _ (GCopy.mk a_105 b_127) _ (Nat.le_of_ble_eq_true rfl) (fun h => ⟨rfl, (by unfold i64ok; first | omega | (dsimp only; omega)), (by unfold i64ok; first | omega | (dsimp only; omega))⟩)) ?_
            refine JO_act rfl rfl rfl (OpA.frame [2, 0] rfl (OpA.appO (α := GCopy) (xs := f4_126) (ys := [(GCopy.mk a_105 b_127)]) rfl rfl rfl sl52 sl52 sz52 rfl rfl rfl (by show (_ + _) * 16 ≤ 140737488355328; first | omega | (simp only [lens]; omega) | (simp only [lens] at *; omega)))) ?_
            intro c159
            refine JJ_slice 0 rfl os_slice ?_
            rintro a160 k161 rfl
            refine JJ_fact 0 rfl os_bytes ?_
            intro hl162
            have hl162 : (f4_126 ++ [(GCopy.mk a_105 b_127)]).length * 16 ≤ 140737488355328 := hl162
            have hn163 : ((f4_126 ++ [(GCopy.mk a_105 b_127)]) : List GCopy).length = (f4_126 : List GCopy).length + ([(GCopy.mk a_105 b_127)] : List GCopy).length := List.length_append
            refine JO_q rfl rfl rfl (OpV.fieldAddr rfl rfl fo54_2 (i := 4) rfl (isPtr_Cl _ _)) ?_
            refine JO_store rfl rfl (OpS.frame [4] rfl (OpS.storeClF [.slice a160 ((f4_126 ++ [(GCopy.mk a_105 b_127)]).length) k161] [.int .i64 f0_24, .slice a29 f1_25.length k30, .int .i64 f2_26, .slice a31 f3_27.length k32, .slice a160 ((f4_126 ++ [(GCopy.mk a_105 b_127)]).length) k161] rfl rfl rfl sh52 rfl rfl rfl (Nat.le_of_ble_eq_true rfl) rfl)) ?_
            refine JO_nil ?_
            refine JK_blk ?_
            refine JK_region ?_
            refine JO_q rfl rfl rfl (OpV.move rfl rfl) ?_
            refine JO_q rfl rfl rfl (OpV.add rfl rfl rfl (by unfold i64ok; omega)) ?_
            refine JO_q rfl rfl rfl (OpV.assign rfl rfl) ?_
            refine JO_nil ?_
            refine JK_goal (r145, rv148.2, (f4_126 ++ [(GCopy.mk a_105 b_127)]), (b_127 + 1), a160, k161) ⟨(by rw [← hM130]; simp only [Tape_Transfer_L2, h50, h121, h143, h146, h154, hg6, hR101, hg149, cs4]), (by omega), (by omega), (by omega), (by omega), (by omega), (by omega), (by first | omega | (simp only [lens]; omega) | assumption)⟩ (by show r145 < r145 + 1; omega) (Env.sub_all rfl) (Ent.take (is := [1, 2, 2, 0, 1, 0, 0]) rfl)
          · skip
            have g164 : rv148.1 ≠ 1 := ne_of_beq_false h154
            refine JK_skip ?_
            refine JK_blk ?_
            refine JK_region ?_
            refine JO_q rfl rfl rfl (OpV.move rfl rfl) ?_
            refine JO_q rfl rfl rfl (OpV.add rfl rfl rfl (by unfold i64ok; omega)) ?_
            refine JO_q rfl rfl rfl (OpV.assign rfl rfl) ?_
            refine JO_nil ?_
            refine JK_goal (r145, rv148.2, f4_126, (b_127 + 1), a128, k129) ⟨(by rw [← hM130]; simp only [Tape_Transfer_L2, h50, h121, h143, h146, h154, hg6, hR101, hg149, cs4]), (by omega), (by omega), (by omega), (by omega), (by omega), (by omega), (by first | omega | (simp only [lens]; omega) | assumption)⟩ (by show r145 < r145 + 1; omega) (Env.sub_all rfl) (Ent.take (is := [1, 1, 1, 1, 1, 0, 0]) rfl)
        · skip
          have g165 : ¬ (((f4_126.length : Nat) : Int) < 12) := of_decide_eq_false h146
          refine JK_exit rfl ?_
          have hR166 : Tape_Transfer_L2 tT width a_105 (((width : Int) - 0).toNat) ti_103 f4_104 0 = (ti_125, f4_126) := by
            rw [← hM130]; simp only [Tape_Transfer_L2, h50, h121, h143, h146, hg6, hR101, cs4]
          refine JK_blk ?_
          refine JK_region ?_
          refine JO_q rfl rfl rfl (OpV.move rfl rfl) ?_
          refine JO_q rfl rfl rfl (OpV.add rfl rfl rfl (by unfold i64ok; omega)) ?_
          refine JO_q rfl rfl rfl (OpV.assign rfl rfl) ?_
          refine JO_nil ?_
          refine JK_goal (r123, ti_125, f4_126, (a_105 + 1), a128, k129) ⟨(by rw [← hM108]; simp only [Tape_Transfer_L1, h50, h121, h143, h146, hg6, hR101, hR166, cs4]), (by omega), (by omega), (by omega), (by omega), (by omega), (by omega), (by first | omega | (simp only [lens]; omega) | assumption)⟩ (by show r123 < r123 + 1; omega) (Env.sub_all rfl) (Ent.take (is := [0, 0, 0, 0, 0, 0, 0]) rfl)
      · skip
        have g167 : ¬ (b_127 < width) := of_decide_eq_false h143
        obtain rfl : r124 = 0 := by omega
        refine JO_skip rfl rfl rfl rfl rfl rfl ?_
        refine JO_skip rfl rfl rfl rfl rfl rfl ?_
        refine JO_skip rfl rfl rfl rfl rfl rfl ?_
        refine JO_skip rfl rfl rfl rfl rfl rfl ?_
        refine JO_q rfl rfl rfl (OpV.pickF rfl rfl rfl) ?_
        refine JO_nil ?_
        refine JK_condF rfl ?_
        refine JK_exit rfl ?_
        have hR168 : Tape_Transfer_L2 tT width a_105 (((width : Int) - 0).toNat) ti_103 f4_104 0 = (ti_125, f4_126) := by
          rw [← hM130]; simp only [Tape_Transfer_L2, h50, h121, h143, hg6, hR101, cs4]
        refine JK_blk ?_
        refine JK_region ?_
        refine JO_q rfl rfl rfl (OpV.move rfl rfl) ?_
        refine JO_q rfl rfl rfl (OpV.add rfl rfl rfl (by unfold i64ok; omega)) ?_
        refine JO_q rfl rfl rfl (OpV.assign rfl rfl) ?_
        refine JO_nil ?_
        refine JK_goal (r123, ti_125, f4_126, (a_105 + 1), a128, k129) ⟨(by rw [← hM108]; simp only [Tape_Transfer_L1, h50, h121, h143, hg6, hR101, hR168, cs4]), (by omega), (by omega), (by omega), (by omega), (by omega), (by omega), (by first | omega | (simp only [lens]; omega) | assumption)⟩ (by show r123 < r123 + 1; omega) (Env.sub_all rfl) (Ent.take (is := [0, 0, 0, 0, 0, 0, 0]) rfl)
    · skip
      have g169 : ¬ (a_105 < width) := of_decide_eq_false h121
      obtain rfl : r102 = 0 := by omega
      refine JK_exit rfl ?_
      have hR170 : Tape_Transfer_L1 tT width (((width : Int) - 0).toNat) ti_23 [] 0 = (ti_103, f4_104) := by
        rw [← hM108]; simp only [Tape_Transfer_L1, h50, h121, hg6, hR101, cs4]
      refine JK_seq ?_
      refine JK_region ?_
      refine JO_q rfl rfl rfl (OpV.loadA rfl rfl sh54 (i := 3) rfl (reads_Cl _ _) rfl) ?_
      refine JO_store rfl rfl (OpS.frame [4] rfl (OpS.storeCl [.int .i64 f0_24, .slice a29 f1_25.length k30, .int .i64 f2_26, .slice a31 f3_27.length k32, .slice a106 f4_104.length k107] [.int .i64 f0_24, .slice a29 f1_25.length k30, .int .i64 f2_26, .slice a31 f3_27.length k32, .slice a106 f4_104.length k107] rfl rfl rfl sh54 rfl rfl rfl (Nat.le_of_ble_eq_true rfl) rfl)) ?_
      refine JO_nil ?_
      refine JJ_loc [3] rfl (Ent.freeze _ _) ?_
      refine JJ_loc [3] rfl (Ent.freeze _ _) ?_
      refine JJ_loc [3] rfl (Ent.freeze _ _) ?_
      have hq : rr = ((GTransfer.mk (GSet.mk f0_24 f1_25) (GSet.mk f2_26 f3_27) f4_104), ti_103) := hrr.symm.trans (by simp only [Tape_Transfer, h50, h121, hg6, hR101, hR170, cs4])
      replace hrr := hrr.trans hq
      subst rr
      refine JK_return ((.slice a29 f1_25.length k30, .slice a31 f3_27.length k32, .slice a106 f4_104.length k107)) rfl (.cellN 3 rfl sh54 rfl (reads_Cl _ _) rfl .nil) rfl (by refine ⟨?_, ?_, ?_, ?_, ?_, ?_⟩ <;> (try dsimp only) <;> first | omega | (unfold i64ok; omega) | (simp only [lens]; omega) | assumption | trivial) (Ent.take (is := [2, 1, 0, 5]) rfl)
end Go.SL.G
