/- Part 2 of the walks: mirrors, plain laws and walks used by the last text of this claim. -/
import Derived.Test.YtoifcmbbbngpoaaW1
import Derived.Test.YtoifcmbbbngpoaaProg
set_option linter.unusedVariables false
set_option linter.unusedSimpArgs false
namespace Go.SL.G
open Go Go.SL Go.Proofs
set_option maxHeartbeats 20000000
set_option maxRecDepth 100000
structure GTurn where
  Query : Int
  Quantum : Int
  Steps : Int
  Cost : Int
  Finished : Bool
instance : Inhabited GTurn := ⟨⟨0, 0, 0, 0, false⟩⟩
structure GAccount where
  Query : Int
  Turns : Int
  Steps : Int
  Cost : Int
instance : Inhabited GAccount := ⟨⟨0, 0, 0, 0⟩⟩
def tab0 : Str := (Str.mk [0, 1, 2, 2, 3, 3, 3, 3, 4, 4, 4, 4, 4, 4, 4, 4, 5, 5, 5, 5, 5, 5, 5, 5, 5, 5, 5, 5, 5, 5, 5, 5, 6, 6, 6, 6, 6, 6, 6, 6, 6, 6, 6, 6, 6, 6, 6, 6, 6, 6, 6, 6, 6, 6, 6, 6, 6, 6, 6, 6, 6, 6, 6, 6, 7, 7, 7, 7, 7, 7, 7, 7, 7, 7, 7, 7, 7, 7, 7, 7, 7, 7, 7, 7, 7, 7, 7, 7, 7, 7, 7, 7, 7, 7, 7, 7, 7, 7, 7, 7, 7, 7, 7, 7, 7, 7, 7, 7, 7, 7, 7, 7, 7, 7, 7, 7, 7, 7, 7, 7, 7, 7, 7, 7, 7, 7, 7, 7, 8, 8, 8, 8, 8, 8, 8, 8, 8, 8, 8, 8, 8, 8, 8, 8, 8, 8, 8, 8, 8, 8, 8, 8, 8, 8, 8, 8, 8, 8, 8, 8, 8, 8, 8, 8, 8, 8, 8, 8, 8, 8, 8, 8, 8, 8, 8, 8, 8, 8, 8, 8, 8, 8, 8, 8, 8, 8, 8, 8, 8, 8, 8, 8, 8, 8, 8, 8, 8, 8, 8, 8, 8, 8, 8, 8, 8, 8, 8, 8, 8, 8, 8, 8, 8, 8, 8, 8, 8, 8, 8, 8, 8, 8, 8, 8, 8, 8, 8, 8, 8, 8, 8, 8, 8, 8, 8, 8, 8, 8, 8, 8, 8, 8, 8, 8, 8, 8, 8, 8, 8, 8, 8, 8, 8, 8, 8, 8])
abbrev ev_GAccount (x : GAccount) : Value := .agg #[vi x.Query, vi x.Turns, vi x.Steps, vi x.Cost]
instance rep_GTurn : Rep GTurn where
  sz := 5
  bytes := 40
  pos := by decide
  bpos := by decide
  rd w M cs x := cs = [.int .i64 x.Query, .int .i64 x.Quantum, .int .i64 x.Steps, .int .i64 x.Cost, .bool x.Finished] ∧ i64ok x.Query ∧ i64ok x.Quantum ∧ i64ok x.Steps ∧ i64ok x.Cost
  len := by rintro w M cs x ⟨rfl, h0, h1, h2, h3⟩; rfl
  one := by
    rintro w M cs x ⟨rfl, h0, h1, h2, h3⟩ v hv
    simp only [List.mem_cons, List.not_mem_nil, or_false] at hv
    rcases hv with rfl | rfl | rfl | rfl | rfl
    all_goals first | rfl
  st := by
    rintro w M cs x w' M' ⟨rfl, h0, h1, h2, h3⟩ e
    exact ⟨rfl, h0, h1, h2, h3⟩
theorem JJ_peek_GTurn {C : Cx} {X : Act → World → Prop} {L : Env} {A : List SP} {c : Value} {xs : List GTurn} (i m : Nat) (hA : A[m]? = some (sl c xs)) (hi : i < xs.length)
    (h : i64ok (xs.getD i default).Query → i64ok (xs.getD i default).Quantum → i64ok (xs.getD i default).Steps → i64ok (xs.getD i default).Cost → JJ C X L (pv (eptr 5 c i) [.int .i64 (xs.getD i default).Query, .int .i64 (xs.getD i default).Quantum, .int .i64 (xs.getD i default).Steps, .int .i64 (xs.getD i default).Cost, .bool (xs.getD i default).Finished] :: A)) : JJ C X L A := by
  refine JJ_peek i m hA hi default fun cs => ?_
  intro a w M F st
  obtain ⟨F1, F2, q1, q2, qd, hp, F3, F4, q3, q4, qd2, hr, hs⟩ := st.sp
  obtain ⟨rfl, h0, h1, h2, h3⟩ := hr
  exact h h0 h1 h2 h3 a w M F ⟨st.step, st.sz, st.df, st.sat, F1, F2, q1, q2, qd, hp, sepAll_up hs q4⟩
instance rep_GAccount : Rep GAccount where
  sz := 4
  bytes := 32
  pos := by decide
  bpos := by decide
  rd w M cs x := cs = [.int .i64 x.Query, .int .i64 x.Turns, .int .i64 x.Steps, .int .i64 x.Cost] ∧ i64ok x.Query ∧ i64ok x.Turns ∧ i64ok x.Steps ∧ i64ok x.Cost
  len := by rintro w M cs x ⟨rfl, h0, h1, h2, h3⟩; rfl
  one := by
    rintro w M cs x ⟨rfl, h0, h1, h2, h3⟩ v hv
    simp only [List.mem_cons, List.not_mem_nil, or_false] at hv
    rcases hv with rfl | rfl | rfl | rfl
    all_goals first | rfl
  st := by
    rintro w M cs x w' M' ⟨rfl, h0, h1, h2, h3⟩ e
    exact ⟨rfl, h0, h1, h2, h3⟩
theorem JJ_peek_GAccount {C : Cx} {X : Act → World → Prop} {L : Env} {A : List SP} {c : Value} {xs : List GAccount} (i m : Nat) (hA : A[m]? = some (sl c xs)) (hi : i < xs.length)
    (h : i64ok (xs.getD i default).Query → i64ok (xs.getD i default).Turns → i64ok (xs.getD i default).Steps → i64ok (xs.getD i default).Cost → JJ C X L (pv (eptr 4 c i) [.int .i64 (xs.getD i default).Query, .int .i64 (xs.getD i default).Turns, .int .i64 (xs.getD i default).Steps, .int .i64 (xs.getD i default).Cost] :: A)) : JJ C X L A := by
  refine JJ_peek i m hA hi default fun cs => ?_
  intro a w M F st
  obtain ⟨F1, F2, q1, q2, qd, hp, F3, F4, q3, q4, qd2, hr, hs⟩ := st.sp
  obtain ⟨rfl, h0, h1, h2, h3⟩ := hr
  exact h h0 h1 h2 h3 a w M F ⟨st.step, st.sz, st.df, st.sat, F1, F2, q1, q2, qd, hp, sepAll_up hs q4⟩
theorem JJ_peekO_GAccount {C : Cx} {X : Act → World → Prop} {L : Env} {A Ar : List SP} {c : Value} {xs : List GAccount} (i m : Nat) (ht : take A [m] = some ([os c xs], Ar)) (hi : i < xs.length)
    (h : i64ok (xs.getD i default).Query → i64ok (xs.getD i default).Turns → i64ok (xs.getD i default).Steps → i64ok (xs.getD i default).Cost → JJ C X L (oread c xs i [.int .i64 (xs.getD i default).Query, .int .i64 (xs.getD i default).Turns, .int .i64 (xs.getD i default).Steps, .int .i64 (xs.getD i default).Cost] :: Ar)) : JJ C X L A := by
  refine JJ_peekO (Ac := A) i m ht hi default fun cs => ?_
  intro a w M F st
  obtain ⟨F1, F2, q1, q2, qd, hr, F3, F4, q3, q4, qd2, hp, hs⟩ := st.sp
  obtain ⟨rfl, h0, h1, h2, h3⟩ := hr
  exact h h0 h1 h2 h3 a w M F ⟨st.step, st.sz, st.df, st.sat, F3, F4, fun b h => q2 b (q3 b h), fun b h => q2 b (q4 b h), qd2, hp, hs⟩
theorem JJ_peekO2_GAccount {C : Cx} {X : Act → World → Prop} {L : Env} {A Ar : List SP} {i0 : Nat} {cs0 : List Value} {c : Value} {xs : List GAccount} (i m : Nat) (ht : take A [m] = some ([oread c xs i0 cs0], Ar)) (hi : i < xs.length)
    (h : i64ok (xs.getD i default).Query → i64ok (xs.getD i default).Turns → i64ok (xs.getD i default).Steps → i64ok (xs.getD i default).Cost → JJ C X L (oread2 c xs i0 cs0 i [.int .i64 (xs.getD i default).Query, .int .i64 (xs.getD i default).Turns, .int .i64 (xs.getD i default).Steps, .int .i64 (xs.getD i default).Cost] :: Ar)) : JJ C X L A := by
  refine JJ_peekO2 (Ac := A) i m ht hi default fun cs => ?_
  intro a w M F st
  obtain ⟨F1, F2, q1, q2, qd, hr, F3, F4, q3, q4, qd2, hp, hs⟩ := st.sp
  obtain ⟨rfl, h0, h1, h2, h3⟩ := hr
  exact h h0 h1 h2 h3 a w M F ⟨st.step, st.sz, st.df, st.sat, F3, F4, fun b h => q2 b (q3 b h), fun b h => q2 b (q4 b h), qd2, hp, hs⟩
theorem ofInt_ne (n : Int) (h : 1 ≤ n ∧ n ≤ 9223372036854775807) : BitVec.ofInt 64 n ≠ 0 := by
  intro e
  have := congrArg BitVec.toNat e
  rw [BitVec.toNat_ofInt] at this
  simp at this
  omega
theorem mod_range (v n : Int) (h : 1 ≤ n ∧ n ≤ 9223372036854775807) : 0 ≤ (((BitVec.ofInt 64 v) % (BitVec.ofInt 64 n)).toNat : Int) ∧ (((BitVec.ofInt 64 v) % (BitVec.ofInt 64 n)).toNat : Int) < n := by
  rw [BitVec.toNat_umod, BitVec.toNat_ofInt, BitVec.toNat_ofInt]
  have e : (n % ((2 ^ 64 : Nat) : Int)).toNat = n.toNat := by omega
  rw [e]
  have : (v % ((2 ^ 64 : Nat) : Int)).toNat % n.toNat < n.toNat := Nat.mod_lt _ (by omega)
  omega
theorem mod_le (v n : Int) (h : 1 ≤ n ∧ n ≤ 9223372036854775807) : (((BitVec.ofInt 64 v) % (BitVec.ofInt 64 n)).toNat : Int) ≤ 9223372036854775807 := by
  have := mod_range v n h; omega
def flqgen_New (l : List Int) : Unit :=
  ()
def flqref19_counter (n : Int) : Bool :=
  bif decide (0 ≤ n) then
    decide (n ≤ 1073741824)
  else
    false
def flqref19_ValidLog_L0 (l : List GTurn) : Nat → Int → LR Unit Bool
  | 0, i =>
    .brk ()
  | r + 1, i =>
    let rv11 := (flqref19_counter ((l.getD i.toNat default).Query))
    bif (!rv11) then
      .ret false
    else
      bif decide ((l.getD i.toNat default).Quantum < 0) then
        .ret false
      else
        bif decide (64 < (l.getD i.toNat default).Quantum) then
          .ret false
        else
          let rv27 := (flqref19_counter ((l.getD i.toNat default).Steps))
          bif (!rv27) then
            .ret false
          else
            let rv37 := (flqref19_counter ((l.getD i.toNat default).Cost))
            bif (!rv37) then
              .ret false
            else
              bif decide ((l.getD i.toNat default).Cost < (l.getD i.toNat default).Steps) then
                .ret false
              else
                bif decide ((8 * (l.getD i.toNat default).Steps) < (l.getD i.toNat default).Cost) then
                  .ret false
                else
                  flqref19_ValidLog_L0 l r (i + 1)

def flqref19_ValidLog_L2 (l : List GTurn) (done : List Int) (i : Int) : Nat → Int → LR Unit Bool
  | 0, k =>
    .brk ()
  | r + 1, k =>
    bif ((done.getD k.toNat 0) == (l.getD i.toNat default).Query) then
      .ret false
    else
      flqref19_ValidLog_L2 l done i r (k + 1)

def flqref19_ValidLog_L1 (l : List GTurn) : Nat → List Int → Int → LR Unit Bool
  | 0, done, i =>
    .brk ()
  | r + 1, done, i =>
    match flqref19_ValidLog_L2 l done i (((done.length : Int) - 0).toNat) 0 with
    | .brk _ =>
      bif (l.getD i.toNat default).Finished then
        flqref19_ValidLog_L1 l r (done ++ [(l.getD i.toNat default).Query]) (i + 1)
      else
        flqref19_ValidLog_L1 l r done (i + 1)
    | .ret r => .ret r
    | .oof => .oof

def flqref19_ValidLog (l : List GTurn) : Bool :=
  bif decide (4096 < (l.length : Int)) then
    false
  else
    match flqref19_ValidLog_L0 l (((l.length : Int) - 0).toNat) 0 with
    | .brk _ =>
      match flqref19_ValidLog_L1 l (((l.length : Int) - 0).toNat) [] 0 with
      | .brk _ =>
        true
      | .ret r => r
      | .oof => default
    | .ret r => r
    | .oof => default
def flqlaw23_sameAccounts_L0 (a : List GAccount) (b : List GAccount) : Nat → Int → LR Unit Bool
  | 0, i =>
    .brk ()
  | r + 1, i =>
    bif ([(a.getD i.toNat default).Query, (a.getD i.toNat default).Turns, (a.getD i.toNat default).Steps, (a.getD i.toNat default).Cost] != [(b.getD i.toNat default).Query, (b.getD i.toNat default).Turns, (b.getD i.toNat default).Steps, (b.getD i.toNat default).Cost]) then
      .ret false
    else
      flqlaw23_sameAccounts_L0 a b r (i + 1)

def flqlaw23_sameAccounts (a : List GAccount) (b : List GAccount) : Bool :=
  bif ((a.length : Int) != (b.length : Int)) then
    false
  else
    match flqlaw23_sameAccounts_L0 a b (((a.length : Int) - 0).toNat) 0 with
    | .brk _ =>
      true
    | .ret r => r
    | .oof => default
def counter_Clamp (a : Int) : Int :=
  (min (max a 0) 1073741824)
def counter_Add (a : Int) (b : Int) : Int :=
  let rv1 := (counter_Clamp a)
  let rv6 := (counter_Clamp b)
  let rv11 := (counter_Clamp (rv1 + rv6))
  rv11
def ledger_add (a : GAccount) (x : GTurn) : GAccount :=
  bif decide (0 < x.Quantum) then
    let rv6 := (counter_Add a.Steps x.Steps)
    let rv11 := (counter_Add a.Cost x.Cost)
    (GAccount.mk a.Query (a.Turns + 1) rv6 rv11)
  else
    let rv17 := (counter_Add a.Steps x.Steps)
    let rv22 := (counter_Add a.Cost x.Cost)
    (GAccount.mk a.Query a.Turns rv17 rv22)
def slices_insertionSortCmpFunc_Account_L1 (cmpp : GAccount → GAccount → Int) : Nat → List GAccount → Int → List GAccount
  | 0, data', j =>
    data'
  | r + 1, data', j =>
    bif decide ((cmpp (data'.getD j.toNat default) (data'.getD ((j - 1) : Int).toNat default)) < 0) then
      slices_insertionSortCmpFunc_Account_L1 cmpp r ((data'.set j.toNat (data'.getD ((j - 1) : Int).toNat default)).set ((j - 1) : Int).toNat (data'.getD j.toNat default)) (j - 1)
    else
      data'

def slices_insertionSortCmpFunc_Account_L0 (a : Int) (cmpp : GAccount → GAccount → Int) : Nat → List GAccount → Int → List GAccount
  | 0, data', i =>
    data'
  | r + 1, data', i =>
    match slices_insertionSortCmpFunc_Account_L1 cmpp (((i : Int) - a).toNat) data' i with
    | o1_0 =>
      slices_insertionSortCmpFunc_Account_L0 a cmpp r o1_0 (i + 1)

def slices_insertionSortCmpFunc_Account (data : List GAccount) (a : Int) (b : Int) (cmpp : GAccount → GAccount → Int) : List GAccount :=
  match slices_insertionSortCmpFunc_Account_L0 a cmpp (((b : Int) - (a + 1)).toNat) data (a + 1) with
  | o0_0 =>
    o0_0
def slices_siftDownCmpFunc_Account_L0 (hi : Int) (first : Int) (cmpp : GAccount → GAccount → Int) : Nat → List GAccount → Int → LR (List GAccount) (List GAccount)
  | 0, data', root =>
    .oof
  | r + 1, data', root =>
    bif decide (hi ≤ ((2 * root) + 1)) then
      .brk data'
    else
      bif decide ((((2 * root) + 1) + 1) < hi) then
        bif decide ((cmpp (data'.getD ((first + ((2 * root) + 1)) : Int).toNat default) (data'.getD (((first + ((2 * root) + 1)) + 1) : Int).toNat default)) < 0) then
          bif (!(decide ((cmpp (data'.getD ((first + root) : Int).toNat default) (data'.getD ((first + (((2 * root) + 1) + 1)) : Int).toNat default)) < 0))) then
            .ret data'
          else
            slices_siftDownCmpFunc_Account_L0 hi first cmpp r ((data'.set ((first + root) : Int).toNat (data'.getD ((first + (((2 * root) + 1) + 1)) : Int).toNat default)).set ((first + (((2 * root) + 1) + 1)) : Int).toNat (data'.getD ((first + root) : Int).toNat default)) (((2 * root) + 1) + 1)
        else
          bif (!(decide ((cmpp (data'.getD ((first + root) : Int).toNat default) (data'.getD ((first + ((2 * root) + 1)) : Int).toNat default)) < 0))) then
            .ret data'
          else
            slices_siftDownCmpFunc_Account_L0 hi first cmpp r ((data'.set ((first + root) : Int).toNat (data'.getD ((first + ((2 * root) + 1)) : Int).toNat default)).set ((first + ((2 * root) + 1)) : Int).toNat (data'.getD ((first + root) : Int).toNat default)) ((2 * root) + 1)
      else
        bif (!(decide ((cmpp (data'.getD ((first + root) : Int).toNat default) (data'.getD ((first + ((2 * root) + 1)) : Int).toNat default)) < 0))) then
          .ret data'
        else
          slices_siftDownCmpFunc_Account_L0 hi first cmpp r ((data'.set ((first + root) : Int).toNat (data'.getD ((first + ((2 * root) + 1)) : Int).toNat default)).set ((first + ((2 * root) + 1)) : Int).toNat (data'.getD ((first + root) : Int).toNat default)) ((2 * root) + 1)

def slices_siftDownCmpFunc_Account (data : List GAccount) (lo : Int) (hi : Int) (first : Int) (cmpp : GAccount → GAccount → Int) : List GAccount :=
  match slices_siftDownCmpFunc_Account_L0 hi first cmpp (hi.toNat + 1) data lo with
  | .brk o0_0 =>
    o0_0
  | .ret r => r
  | .oof => default
def slices_heapSortCmpFunc_Account_L0 (a : Int) (b : Int) (cmpp : GAccount → GAccount → Int) : Nat → List GAccount → Int → LR (List GAccount) (List GAccount)
  | 0, data', i =>
    .oof
  | r + 1, data', i =>
    bif decide (0 ≤ i) then
      let rv4 := (slices_siftDownCmpFunc_Account data' i (b - a) a cmpp)
      slices_heapSortCmpFunc_Account_L0 a b cmpp r rv4 (i - 1)
    else
      .brk data'

def slices_heapSortCmpFunc_Account_L1 (a : Int) (cmpp : GAccount → GAccount → Int) : Nat → List GAccount → Int → LR (List GAccount) (List GAccount)
  | 0, data', i =>
    .oof
  | r + 1, data', i =>
    bif decide (0 ≤ i) then
      let rv13 := (slices_siftDownCmpFunc_Account ((data'.set a.toNat (data'.getD ((a + i) : Int).toNat default)).set ((a + i) : Int).toNat (data'.getD a.toNat default)) 0 i a cmpp)
      slices_heapSortCmpFunc_Account_L1 a cmpp r rv13 (i - 1)
    else
      .brk data'

def slices_heapSortCmpFunc_Account (data : List GAccount) (a : Int) (b : Int) (cmpp : GAccount → GAccount → Int) : List GAccount :=
  match slices_heapSortCmpFunc_Account_L0 a b cmpp ((b - a).toNat + 1) data (((b - a) - 1) / 2) with
  | .brk o0_0 =>
    match slices_heapSortCmpFunc_Account_L1 a cmpp ((b - a).toNat + 1) o0_0 ((b - a) - 1) with
    | .brk o1_0 =>
      o1_0
    | .ret _ => default
    | .oof => default
  | .ret _ => default
  | .oof => default
def bits_Len64 (x : BitVec 64) : Int :=
  bif decide (256 ≤ (x.toNat : Int)) then
    ((0 + 8) + ((tab0.b.getD (((x >>> (((8#64).toNat : Int)).toNat).toNat : Int) : Int).toNat 0).toNat : Int))
  else
    (0 + ((tab0.b.getD ((x.toNat : Int) : Int).toNat 0).toNat : Int))
def bits_Len (x : BitVec 64) : Int :=
  let rv1 := (bits_Len64 x)
  rv1
def slices_nextPowerOfTwo (length : Int) : BitVec 64 :=
  let rv1 := (bits_Len (BitVec.ofInt 64 length))
  (1#64 <<< (rv1).toNat)
def xorshift_Next (r : BitVec 64) : BitVec 64 × BitVec 64 :=
  ((((r ^^^ (r <<< (((13#64).toNat : Int)).toNat)) ^^^ ((r ^^^ (r <<< (((13#64).toNat : Int)).toNat)) >>> (((7#64).toNat : Int)).toNat)) ^^^ (((r ^^^ (r <<< (((13#64).toNat : Int)).toNat)) ^^^ ((r ^^^ (r <<< (((13#64).toNat : Int)).toNat)) >>> (((7#64).toNat : Int)).toNat)) <<< (((17#64).toNat : Int)).toNat)), (((r ^^^ (r <<< (((13#64).toNat : Int)).toNat)) ^^^ ((r ^^^ (r <<< (((13#64).toNat : Int)).toNat)) >>> (((7#64).toNat : Int)).toNat)) ^^^ (((r ^^^ (r <<< (((13#64).toNat : Int)).toNat)) ^^^ ((r ^^^ (r <<< (((13#64).toNat : Int)).toNat)) >>> (((7#64).toNat : Int)).toNat)) <<< (((17#64).toNat : Int)).toNat)))
def slices_breakPatternsCmpFunc_Account_L0 (a : Int) (b : Int) (modulus : BitVec 64) : Nat → List GAccount → BitVec 64 → Int → LR (List GAccount) (List GAccount)
  | 0, data', random0, idx =>
    .oof
  | r + 1, data', random0, idx =>
    bif decide (idx ≤ ((a + (((b - a) / 4) * 2)) + 1)) then
      let rv9 := (xorshift_Next random0)
      bif decide ((b - a) ≤ ((rv9.1 &&& (modulus - 1#64)).toNat : Int)) then
        slices_breakPatternsCmpFunc_Account_L0 a b modulus r ((data'.set idx.toNat (data'.getD ((a + (((rv9.1 &&& (modulus - 1#64)).toNat : Int) - (b - a))) : Int).toNat default)).set ((a + (((rv9.1 &&& (modulus - 1#64)).toNat : Int) - (b - a))) : Int).toNat (data'.getD idx.toNat default)) rv9.2 (idx + 1)
      else
        slices_breakPatternsCmpFunc_Account_L0 a b modulus r ((data'.set idx.toNat (data'.getD ((a + ((rv9.1 &&& (modulus - 1#64)).toNat : Int)) : Int).toNat default)).set ((a + ((rv9.1 &&& (modulus - 1#64)).toNat : Int)) : Int).toNat (data'.getD idx.toNat default)) rv9.2 (idx + 1)
    else
      .brk data'

def slices_breakPatternsCmpFunc_Account (data : List GAccount) (a : Int) (b : Int) (cmpp : GAccount → GAccount → Int) : List GAccount :=
  bif decide (8 ≤ (b - a)) then
    let rv4 := (slices_nextPowerOfTwo (b - a))
    match slices_breakPatternsCmpFunc_Account_L0 a b rv4 4 data (BitVec.ofInt 64 (b - a)) ((a + (((b - a) / 4) * 2)) - 1) with
    | .brk o0_0 =>
      o0_0
    | .ret _ => default
    | .oof => default
  else
    data
def slices_order2CmpFunc_Account (data : List GAccount) (a : Int) (b : Int) (swaps : Int) (cmpp : GAccount → GAccount → Int) : Int × Int × Int :=
  bif decide ((cmpp (data.getD b.toNat default) (data.getD a.toNat default)) < 0) then
    (b, a, (swaps + 1))
  else
    (a, b, swaps)
def slices_medianCmpFunc_Account (data : List GAccount) (a : Int) (b : Int) (c : Int) (swaps : Int) (cmpp : GAccount → GAccount → Int) : Int × Int :=
  let rv1 := (slices_order2CmpFunc_Account data a b swaps cmpp)
  let rv9 := (slices_order2CmpFunc_Account data rv1.2.1 c rv1.2.2 cmpp)
  let rv17 := (slices_order2CmpFunc_Account data rv1.1 rv9.1 rv9.2.2 cmpp)
  (rv17.2.1, rv17.2.2)
def slices_medianAdjacentCmpFunc_Account (data : List GAccount) (a : Int) (swaps : Int) (cmpp : GAccount → GAccount → Int) : Int × Int :=
  let rv1 := (slices_medianCmpFunc_Account data (a - 1) a (a + 1) swaps cmpp)
  (rv1.1, rv1.2)
def slices_choosePivotCmpFunc_Account (data : List GAccount) (a : Int) (b : Int) (cmpp : GAccount → GAccount → Int) : Int × Int :=
  bif decide (8 ≤ (b - a)) then
    bif decide (50 ≤ (b - a)) then
      let rv6 := (slices_medianAdjacentCmpFunc_Account data (a + (((b - a) / 4) * 1)) 0 cmpp)
      let rv13 := (slices_medianAdjacentCmpFunc_Account data (a + (((b - a) / 4) * 2)) rv6.2 cmpp)
      let rv20 := (slices_medianAdjacentCmpFunc_Account data (a + (((b - a) / 4) * 3)) rv13.2 cmpp)
      let rv27 := (slices_medianCmpFunc_Account data rv6.1 rv13.1 rv20.1 rv20.2 cmpp)
      bif (rv27.2 == 0) then
        (rv27.1, 1)
      else
        bif (rv27.2 == 12) then
          (rv27.1, 2)
        else
          (rv27.1, 0)
    else
      let rv41 := (slices_medianCmpFunc_Account data (a + (((b - a) / 4) * 1)) (a + (((b - a) / 4) * 2)) (a + (((b - a) / 4) * 3)) 0 cmpp)
      bif (rv41.2 == 0) then
        (rv41.1, 1)
      else
        bif (rv41.2 == 12) then
          (rv41.1, 2)
        else
          (rv41.1, 0)
  else
    ((a + (((b - a) / 4) * 2)), 1)
def slices_reverseRangeCmpFunc_Account_L0  : Nat → List GAccount → Int → Int → LR (List GAccount) (List GAccount)
  | 0, data', i, j =>
    .oof
  | r + 1, data', i, j =>
    bif decide (i < j) then
      slices_reverseRangeCmpFunc_Account_L0 r ((data'.set i.toNat (data'.getD j.toNat default)).set j.toNat (data'.getD i.toNat default)) (i + 1) (j - 1)
    else
      .brk data'

def slices_reverseRangeCmpFunc_Account (data : List GAccount) (a : Int) (b : Int) (cmpp : GAccount → GAccount → Int) : List GAccount :=
  match slices_reverseRangeCmpFunc_Account_L0 ((b - a).toNat + 1) data a (b - 1) with
  | .brk o0_0 =>
    o0_0
  | .ret _ => default
  | .oof => default
def slices_partialInsertionSortCmpFunc_Account_L1 (cmpp : GAccount → GAccount → Int) (data' : List GAccount) : Nat → Int → Int
  | 0, i =>
    i
  | r + 1, i =>
    bif (!(decide ((cmpp (data'.getD i.toNat default) (data'.getD ((i - 1) : Int).toNat default)) < 0))) then
      slices_partialInsertionSortCmpFunc_Account_L1 cmpp data' r (i + 1)
    else
      i

def slices_partialInsertionSortCmpFunc_Account_L2 (cmpp : GAccount → GAccount → Int) : Nat → List GAccount → Int → LR (List GAccount) (Bool × List GAccount)
  | 0, data', j' =>
    .oof
  | r + 1, data', j' =>
    bif decide (1 ≤ j') then
      bif (!(decide ((cmpp (data'.getD j'.toNat default) (data'.getD ((j' - 1) : Int).toNat default)) < 0))) then
        .brk data'
      else
        slices_partialInsertionSortCmpFunc_Account_L2 cmpp r ((data'.set j'.toNat (data'.getD ((j' - 1) : Int).toNat default)).set ((j' - 1) : Int).toNat (data'.getD j'.toNat default)) (j' - 1)
    else
      .brk data'

def slices_partialInsertionSortCmpFunc_Account_L3 (cmpp : GAccount → GAccount → Int) : Nat → List GAccount → Int → List GAccount
  | 0, data', j' =>
    data'
  | r + 1, data', j' =>
    bif (!(decide ((cmpp (data'.getD j'.toNat default) (data'.getD ((j' - 1) : Int).toNat default)) < 0))) then
      data'
    else
      slices_partialInsertionSortCmpFunc_Account_L3 cmpp r ((data'.set j'.toNat (data'.getD ((j' - 1) : Int).toNat default)).set ((j' - 1) : Int).toNat (data'.getD j'.toNat default)) (j' + 1)

def slices_partialInsertionSortCmpFunc_Account_L0 (data : List GAccount) (a : Int) (b : Int) (cmpp : GAccount → GAccount → Int) : Nat → List GAccount → Int → Int → LR (List GAccount) (Bool × List GAccount)
  | 0, data', i, j =>
    .brk data'
  | r + 1, data', i, j =>
    match slices_partialInsertionSortCmpFunc_Account_L1 cmpp data' (((b : Int) - i).toNat) i with
    | o1_0 =>
      bif (o1_0 == b) then
        .ret (true, data')
      else
        bif decide ((b - a) < 50) then
          .ret (false, data')
        else
          bif decide (2 ≤ (o1_0 - a)) then
            match slices_partialInsertionSortCmpFunc_Account_L2 cmpp (data.length + 1) ((data'.set o1_0.toNat (data'.getD ((o1_0 - 1) : Int).toNat default)).set ((o1_0 - 1) : Int).toNat (data'.getD o1_0.toNat default)) (o1_0 - 1) with
            | .brk o2_0 =>
              bif decide (2 ≤ (b - o1_0)) then
                match slices_partialInsertionSortCmpFunc_Account_L3 cmpp (((b : Int) - (o1_0 + 1)).toNat) o2_0 (o1_0 + 1) with
                | o3_0 =>
                  slices_partialInsertionSortCmpFunc_Account_L0 data a b cmpp r o3_0 o1_0 (j + 1)
              else
                slices_partialInsertionSortCmpFunc_Account_L0 data a b cmpp r o2_0 o1_0 (j + 1)
            | .ret _ => .oof
            | .oof => .oof
          else
            bif decide (2 ≤ (b - o1_0)) then
              match slices_partialInsertionSortCmpFunc_Account_L3 cmpp (((b : Int) - (o1_0 + 1)).toNat) ((data'.set o1_0.toNat (data'.getD ((o1_0 - 1) : Int).toNat default)).set ((o1_0 - 1) : Int).toNat (data'.getD o1_0.toNat default)) (o1_0 + 1) with
              | o3_0 =>
                slices_partialInsertionSortCmpFunc_Account_L0 data a b cmpp r o3_0 o1_0 (j + 1)
            else
              slices_partialInsertionSortCmpFunc_Account_L0 data a b cmpp r ((data'.set o1_0.toNat (data'.getD ((o1_0 - 1) : Int).toNat default)).set ((o1_0 - 1) : Int).toNat (data'.getD o1_0.toNat default)) o1_0 (j + 1)

def slices_partialInsertionSortCmpFunc_Account (data : List GAccount) (a : Int) (b : Int) (cmpp : GAccount → GAccount → Int) : Bool × List GAccount :=
  match slices_partialInsertionSortCmpFunc_Account_L0 data a b cmpp 5 data (a + 1) 0 with
  | .brk o0_0 =>
    (false, o0_0)
  | .ret r => r
  | .oof => default
def slices_partitionEqualCmpFunc_Account_L1 (a : Int) (cmpp : GAccount → GAccount → Int) (data' : List GAccount) (j : Int) : Nat → Int → LR Int (Int × List GAccount)
  | 0, i =>
    .oof
  | r + 1, i =>
    bif decide (i ≤ j) then
      bif (!(decide ((cmpp (data'.getD a.toNat default) (data'.getD i.toNat default)) < 0))) then
        slices_partitionEqualCmpFunc_Account_L1 a cmpp data' j r (i + 1)
      else
        .brk i
    else
      .brk i

def slices_partitionEqualCmpFunc_Account_L2 (a : Int) (cmpp : GAccount → GAccount → Int) (data' : List GAccount) (i : Int) : Nat → Int → LR Int (Int × List GAccount)
  | 0, j =>
    .oof
  | r + 1, j =>
    bif decide (i ≤ j) then
      bif decide ((cmpp (data'.getD a.toNat default) (data'.getD j.toNat default)) < 0) then
        slices_partitionEqualCmpFunc_Account_L2 a cmpp data' i r (j - 1)
      else
        .brk j
    else
      .brk j

def slices_partitionEqualCmpFunc_Account_L0 (a : Int) (b : Int) (cmpp : GAccount → GAccount → Int) : Nat → List GAccount → Int → Int → LR (List GAccount × Int) (Int × List GAccount)
  | 0, data', i, j =>
    .oof
  | r + 1, data', i, j =>
    match slices_partitionEqualCmpFunc_Account_L1 a cmpp data' j ((b - a).toNat + 2) i with
    | .brk o1_0 =>
      match slices_partitionEqualCmpFunc_Account_L2 a cmpp data' o1_0 ((b - a).toNat + 2) j with
      | .brk o2_0 =>
        bif decide (o2_0 < o1_0) then
          .brk (data', o1_0)
        else
          slices_partitionEqualCmpFunc_Account_L0 a b cmpp r ((data'.set o1_0.toNat (data'.getD o2_0.toNat default)).set o2_0.toNat (data'.getD o1_0.toNat default)) (o1_0 + 1) (o2_0 - 1)
      | .ret _ => .oof
      | .oof => .oof
    | .ret _ => .oof
    | .oof => .oof

def slices_partitionEqualCmpFunc_Account (data : List GAccount) (a : Int) (b : Int) (pivot : Int) (cmpp : GAccount → GAccount → Int) : Int × List GAccount :=
  match slices_partitionEqualCmpFunc_Account_L0 a b cmpp ((b - a).toNat + 2) ((data.set a.toNat (data.getD pivot.toNat default)).set pivot.toNat (data.getD a.toNat default)) (a + 1) (b - 1) with
  | .brk (o0_0, o0_1) =>
    (o0_1, o0_0)
  | .ret _ => default
  | .oof => default
def slices_partitionCmpFunc_Account_L0 (data : List GAccount) (a : Int) (b : Int) (pivot : Int) (cmpp : GAccount → GAccount → Int) : Nat → Int → LR Int (Int × Bool × List GAccount)
  | 0, i =>
    .oof
  | r + 1, i =>
    bif decide (i ≤ (b - 1)) then
      bif decide ((cmpp (((data.set a.toNat (data.getD pivot.toNat default)).set pivot.toNat (data.getD a.toNat default)).getD i.toNat default) (((data.set a.toNat (data.getD pivot.toNat default)).set pivot.toNat (data.getD a.toNat default)).getD a.toNat default)) < 0) then
        slices_partitionCmpFunc_Account_L0 data a b pivot cmpp r (i + 1)
      else
        .brk i
    else
      .brk i

def slices_partitionCmpFunc_Account_L1 (data : List GAccount) (a : Int) (pivot : Int) (cmpp : GAccount → GAccount → Int) (i : Int) : Nat → Int → LR Int (Int × Bool × List GAccount)
  | 0, j =>
    .oof
  | r + 1, j =>
    bif decide (i ≤ j) then
      bif (!(decide ((cmpp (((data.set a.toNat (data.getD pivot.toNat default)).set pivot.toNat (data.getD a.toNat default)).getD j.toNat default) (((data.set a.toNat (data.getD pivot.toNat default)).set pivot.toNat (data.getD a.toNat default)).getD a.toNat default)) < 0))) then
        slices_partitionCmpFunc_Account_L1 data a pivot cmpp i r (j - 1)
      else
        .brk j
    else
      .brk j

def slices_partitionCmpFunc_Account_L3 (a : Int) (cmpp : GAccount → GAccount → Int) (data' : List GAccount) (j : Int) : Nat → Int → LR Int (Int × Bool × List GAccount)
  | 0, i =>
    .oof
  | r + 1, i =>
    bif decide (i ≤ j) then
      bif decide ((cmpp (data'.getD i.toNat default) (data'.getD a.toNat default)) < 0) then
        slices_partitionCmpFunc_Account_L3 a cmpp data' j r (i + 1)
      else
        .brk i
    else
      .brk i

def slices_partitionCmpFunc_Account_L4 (a : Int) (cmpp : GAccount → GAccount → Int) (data' : List GAccount) (i : Int) : Nat → Int → LR Int (Int × Bool × List GAccount)
  | 0, j =>
    .oof
  | r + 1, j =>
    bif decide (i ≤ j) then
      bif (!(decide ((cmpp (data'.getD j.toNat default) (data'.getD a.toNat default)) < 0))) then
        slices_partitionCmpFunc_Account_L4 a cmpp data' i r (j - 1)
      else
        .brk j
    else
      .brk j

def slices_partitionCmpFunc_Account_L2 (a : Int) (b : Int) (cmpp : GAccount → GAccount → Int) : Nat → List GAccount → Int → Int → LR (List GAccount × Int) (Int × Bool × List GAccount)
  | 0, data', i, j =>
    .oof
  | r + 1, data', i, j =>
    match slices_partitionCmpFunc_Account_L3 a cmpp data' j ((b - a).toNat + 2) i with
    | .brk o3_0 =>
      match slices_partitionCmpFunc_Account_L4 a cmpp data' o3_0 ((b - a).toNat + 2) j with
      | .brk o4_0 =>
        bif decide (o4_0 < o3_0) then
          .brk (data', o4_0)
        else
          slices_partitionCmpFunc_Account_L2 a b cmpp r ((data'.set o3_0.toNat (data'.getD o4_0.toNat default)).set o4_0.toNat (data'.getD o3_0.toNat default)) (o3_0 + 1) (o4_0 - 1)
      | .ret _ => .oof
      | .oof => .oof
    | .ret _ => .oof
    | .oof => .oof

def slices_partitionCmpFunc_Account (data : List GAccount) (a : Int) (b : Int) (pivot : Int) (cmpp : GAccount → GAccount → Int) : Int × Bool × List GAccount :=
  match slices_partitionCmpFunc_Account_L0 data a b pivot cmpp ((b - a).toNat + 2) (a + 1) with
  | .brk o0_0 =>
    match slices_partitionCmpFunc_Account_L1 data a pivot cmpp o0_0 ((b - a).toNat + 2) (b - 1) with
    | .brk o1_0 =>
      bif decide (o1_0 < o0_0) then
        (o1_0, true, ((((data.set a.toNat (data.getD pivot.toNat default)).set pivot.toNat (data.getD a.toNat default)).set o1_0.toNat (((data.set a.toNat (data.getD pivot.toNat default)).set pivot.toNat (data.getD a.toNat default)).getD a.toNat default)).set a.toNat (((data.set a.toNat (data.getD pivot.toNat default)).set pivot.toNat (data.getD a.toNat default)).getD o1_0.toNat default)))
      else
        match slices_partitionCmpFunc_Account_L2 a b cmpp ((b - a).toNat + 2) ((((data.set a.toNat (data.getD pivot.toNat default)).set pivot.toNat (data.getD a.toNat default)).set o0_0.toNat (((data.set a.toNat (data.getD pivot.toNat default)).set pivot.toNat (data.getD a.toNat default)).getD o1_0.toNat default)).set o1_0.toNat (((data.set a.toNat (data.getD pivot.toNat default)).set pivot.toNat (data.getD a.toNat default)).getD o0_0.toNat default)) (o0_0 + 1) (o1_0 - 1) with
        | .brk (o2_0, o2_1) =>
          (o2_1, false, ((o2_0.set o2_1.toNat (o2_0.getD a.toNat default)).set a.toNat (o2_0.getD o2_1.toNat default)))
        | .ret _ => default
        | .oof => default
    | .ret _ => default
    | .oof => default
  | .ret _ => default
  | .oof => default
def slices_pdqsortCmpFunc_Account_F_L0 (rc : List GAccount → Int → Int → Int → (GAccount → GAccount → Int) → List GAccount) (cmpp : GAccount → GAccount → Int) : Nat → List GAccount → Int → Int → Int → Bool → Bool → LR Unit (List GAccount)
  | 0, data', a', b', limit', wasBalanced, wasPartitioned =>
    .oof
  | r + 1, data', a', b', limit', wasBalanced, wasPartitioned =>
    bif decide ((b' - a') ≤ 12) then
      let rv4 := (slices_insertionSortCmpFunc_Account data' a' b' cmpp)
      .ret rv4
    else
      bif (limit' == 0) then
        let rv13 := (slices_heapSortCmpFunc_Account data' a' b' cmpp)
        .ret rv13
      else
        bif (!wasBalanced) then
          let rv24 := (slices_breakPatternsCmpFunc_Account data' a' b' cmpp)
          let rv30 := (slices_choosePivotCmpFunc_Account rv24 a' b' cmpp)
          bif (rv30.2 == 2) then
            let rv39 := (slices_reverseRangeCmpFunc_Account rv24 a' b' cmpp)
            bif decide (0 < a') then
              bif (!(decide ((cmpp (rv39.getD ((a' - 1) : Int).toNat default) (rv39.getD (((b' - 1) - (rv30.1 - a')) : Int).toNat default)) < 0))) then
                let rv62 := (slices_partitionEqualCmpFunc_Account rv39 a' b' ((b' - 1) - (rv30.1 - a')) cmpp)
                slices_pdqsortCmpFunc_Account_F_L0 rc cmpp r rv62.2 rv62.1 b' (limit' - 1) wasBalanced wasPartitioned
              else
                let rv73 := (slices_partitionCmpFunc_Account rv39 a' b' ((b' - 1) - (rv30.1 - a')) cmpp)
                bif decide ((rv73.1 - a') < (b' - rv73.1)) then
                  let rv83 := (rc rv73.2.2 a' rv73.1 (limit' - 1) cmpp)
                  slices_pdqsortCmpFunc_Account_F_L0 rc cmpp r rv83 (rv73.1 + 1) b' (limit' - 1) (decide (((b' - a') / 8) ≤ (rv73.1 - a'))) rv73.2.1
                else
                  let rv90 := (rc rv73.2.2 (rv73.1 + 1) b' (limit' - 1) cmpp)
                  slices_pdqsortCmpFunc_Account_F_L0 rc cmpp r rv90 a' rv73.1 (limit' - 1) (decide (((b' - a') / 8) ≤ (b' - rv73.1))) rv73.2.1
            else
              let rv97 := (slices_partitionCmpFunc_Account rv39 a' b' ((b' - 1) - (rv30.1 - a')) cmpp)
              bif decide ((rv97.1 - a') < (b' - rv97.1)) then
                let rv107 := (rc rv97.2.2 a' rv97.1 (limit' - 1) cmpp)
                slices_pdqsortCmpFunc_Account_F_L0 rc cmpp r rv107 (rv97.1 + 1) b' (limit' - 1) (decide (((b' - a') / 8) ≤ (rv97.1 - a'))) rv97.2.1
              else
                let rv114 := (rc rv97.2.2 (rv97.1 + 1) b' (limit' - 1) cmpp)
                slices_pdqsortCmpFunc_Account_F_L0 rc cmpp r rv114 a' rv97.1 (limit' - 1) (decide (((b' - a') / 8) ≤ (b' - rv97.1))) rv97.2.1
          else
            bif decide (0 < a') then
              bif (!(decide ((cmpp (rv24.getD ((a' - 1) : Int).toNat default) (rv24.getD rv30.1.toNat default)) < 0))) then
                let rv138 := (slices_partitionEqualCmpFunc_Account rv24 a' b' rv30.1 cmpp)
                slices_pdqsortCmpFunc_Account_F_L0 rc cmpp r rv138.2 rv138.1 b' (limit' - 1) wasBalanced wasPartitioned
              else
                let rv149 := (slices_partitionCmpFunc_Account rv24 a' b' rv30.1 cmpp)
                bif decide ((rv149.1 - a') < (b' - rv149.1)) then
                  let rv159 := (rc rv149.2.2 a' rv149.1 (limit' - 1) cmpp)
                  slices_pdqsortCmpFunc_Account_F_L0 rc cmpp r rv159 (rv149.1 + 1) b' (limit' - 1) (decide (((b' - a') / 8) ≤ (rv149.1 - a'))) rv149.2.1
                else
                  let rv166 := (rc rv149.2.2 (rv149.1 + 1) b' (limit' - 1) cmpp)
                  slices_pdqsortCmpFunc_Account_F_L0 rc cmpp r rv166 a' rv149.1 (limit' - 1) (decide (((b' - a') / 8) ≤ (b' - rv149.1))) rv149.2.1
            else
              let rv173 := (slices_partitionCmpFunc_Account rv24 a' b' rv30.1 cmpp)
              bif decide ((rv173.1 - a') < (b' - rv173.1)) then
                let rv183 := (rc rv173.2.2 a' rv173.1 (limit' - 1) cmpp)
                slices_pdqsortCmpFunc_Account_F_L0 rc cmpp r rv183 (rv173.1 + 1) b' (limit' - 1) (decide (((b' - a') / 8) ≤ (rv173.1 - a'))) rv173.2.1
              else
                let rv190 := (rc rv173.2.2 (rv173.1 + 1) b' (limit' - 1) cmpp)
                slices_pdqsortCmpFunc_Account_F_L0 rc cmpp r rv190 a' rv173.1 (limit' - 1) (decide (((b' - a') / 8) ≤ (b' - rv173.1))) rv173.2.1
        else
          let rv199 := (slices_choosePivotCmpFunc_Account data' a' b' cmpp)
          bif (rv199.2 == 2) then
            let rv208 := (slices_reverseRangeCmpFunc_Account data' a' b' cmpp)
            bif wasPartitioned then
              let rv218 := (slices_partialInsertionSortCmpFunc_Account rv208 a' b' cmpp)
              bif rv218.1 then
                .ret rv218.2
              else
                bif decide (0 < a') then
                  bif (!(decide ((cmpp (rv218.2.getD ((a' - 1) : Int).toNat default) (rv218.2.getD (((b' - 1) - (rv199.1 - a')) : Int).toNat default)) < 0))) then
                    let rv242 := (slices_partitionEqualCmpFunc_Account rv218.2 a' b' ((b' - 1) - (rv199.1 - a')) cmpp)
                    slices_pdqsortCmpFunc_Account_F_L0 rc cmpp r rv242.2 rv242.1 b' limit' wasBalanced wasPartitioned
                  else
                    let rv253 := (slices_partitionCmpFunc_Account rv218.2 a' b' ((b' - 1) - (rv199.1 - a')) cmpp)
                    bif decide ((rv253.1 - a') < (b' - rv253.1)) then
                      let rv263 := (rc rv253.2.2 a' rv253.1 limit' cmpp)
                      slices_pdqsortCmpFunc_Account_F_L0 rc cmpp r rv263 (rv253.1 + 1) b' limit' (decide (((b' - a') / 8) ≤ (rv253.1 - a'))) rv253.2.1
                    else
                      let rv270 := (rc rv253.2.2 (rv253.1 + 1) b' limit' cmpp)
                      slices_pdqsortCmpFunc_Account_F_L0 rc cmpp r rv270 a' rv253.1 limit' (decide (((b' - a') / 8) ≤ (b' - rv253.1))) rv253.2.1
                else
                  let rv277 := (slices_partitionCmpFunc_Account rv218.2 a' b' ((b' - 1) - (rv199.1 - a')) cmpp)
                  bif decide ((rv277.1 - a') < (b' - rv277.1)) then
                    let rv287 := (rc rv277.2.2 a' rv277.1 limit' cmpp)
                    slices_pdqsortCmpFunc_Account_F_L0 rc cmpp r rv287 (rv277.1 + 1) b' limit' (decide (((b' - a') / 8) ≤ (rv277.1 - a'))) rv277.2.1
                  else
                    let rv294 := (rc rv277.2.2 (rv277.1 + 1) b' limit' cmpp)
                    slices_pdqsortCmpFunc_Account_F_L0 rc cmpp r rv294 a' rv277.1 limit' (decide (((b' - a') / 8) ≤ (b' - rv277.1))) rv277.2.1
            else
              bif decide (0 < a') then
                bif (!(decide ((cmpp (rv208.getD ((a' - 1) : Int).toNat default) (rv208.getD (((b' - 1) - (rv199.1 - a')) : Int).toNat default)) < 0))) then
                  let rv316 := (slices_partitionEqualCmpFunc_Account rv208 a' b' ((b' - 1) - (rv199.1 - a')) cmpp)
                  slices_pdqsortCmpFunc_Account_F_L0 rc cmpp r rv316.2 rv316.1 b' limit' wasBalanced wasPartitioned
                else
                  let rv327 := (slices_partitionCmpFunc_Account rv208 a' b' ((b' - 1) - (rv199.1 - a')) cmpp)
                  bif decide ((rv327.1 - a') < (b' - rv327.1)) then
                    let rv337 := (rc rv327.2.2 a' rv327.1 limit' cmpp)
                    slices_pdqsortCmpFunc_Account_F_L0 rc cmpp r rv337 (rv327.1 + 1) b' limit' (decide (((b' - a') / 8) ≤ (rv327.1 - a'))) rv327.2.1
                  else
                    let rv344 := (rc rv327.2.2 (rv327.1 + 1) b' limit' cmpp)
                    slices_pdqsortCmpFunc_Account_F_L0 rc cmpp r rv344 a' rv327.1 limit' (decide (((b' - a') / 8) ≤ (b' - rv327.1))) rv327.2.1
              else
                let rv351 := (slices_partitionCmpFunc_Account rv208 a' b' ((b' - 1) - (rv199.1 - a')) cmpp)
                bif decide ((rv351.1 - a') < (b' - rv351.1)) then
                  let rv361 := (rc rv351.2.2 a' rv351.1 limit' cmpp)
                  slices_pdqsortCmpFunc_Account_F_L0 rc cmpp r rv361 (rv351.1 + 1) b' limit' (decide (((b' - a') / 8) ≤ (rv351.1 - a'))) rv351.2.1
                else
                  let rv368 := (rc rv351.2.2 (rv351.1 + 1) b' limit' cmpp)
                  slices_pdqsortCmpFunc_Account_F_L0 rc cmpp r rv368 a' rv351.1 limit' (decide (((b' - a') / 8) ≤ (b' - rv351.1))) rv351.2.1
          else
            bif wasPartitioned then
              bif (rv199.2 == 1) then
                let rv381 := (slices_partialInsertionSortCmpFunc_Account data' a' b' cmpp)
                bif rv381.1 then
                  .ret rv381.2
                else
                  bif decide (0 < a') then
                    bif (!(decide ((cmpp (rv381.2.getD ((a' - 1) : Int).toNat default) (rv381.2.getD rv199.1.toNat default)) < 0))) then
                      let rv405 := (slices_partitionEqualCmpFunc_Account rv381.2 a' b' rv199.1 cmpp)
                      slices_pdqsortCmpFunc_Account_F_L0 rc cmpp r rv405.2 rv405.1 b' limit' wasBalanced wasPartitioned
                    else
                      let rv416 := (slices_partitionCmpFunc_Account rv381.2 a' b' rv199.1 cmpp)
                      bif decide ((rv416.1 - a') < (b' - rv416.1)) then
                        let rv426 := (rc rv416.2.2 a' rv416.1 limit' cmpp)
                        slices_pdqsortCmpFunc_Account_F_L0 rc cmpp r rv426 (rv416.1 + 1) b' limit' (decide (((b' - a') / 8) ≤ (rv416.1 - a'))) rv416.2.1
                      else
                        let rv433 := (rc rv416.2.2 (rv416.1 + 1) b' limit' cmpp)
                        slices_pdqsortCmpFunc_Account_F_L0 rc cmpp r rv433 a' rv416.1 limit' (decide (((b' - a') / 8) ≤ (b' - rv416.1))) rv416.2.1
                  else
                    let rv440 := (slices_partitionCmpFunc_Account rv381.2 a' b' rv199.1 cmpp)
                    bif decide ((rv440.1 - a') < (b' - rv440.1)) then
                      let rv450 := (rc rv440.2.2 a' rv440.1 limit' cmpp)
                      slices_pdqsortCmpFunc_Account_F_L0 rc cmpp r rv450 (rv440.1 + 1) b' limit' (decide (((b' - a') / 8) ≤ (rv440.1 - a'))) rv440.2.1
                    else
                      let rv457 := (rc rv440.2.2 (rv440.1 + 1) b' limit' cmpp)
                      slices_pdqsortCmpFunc_Account_F_L0 rc cmpp r rv457 a' rv440.1 limit' (decide (((b' - a') / 8) ≤ (b' - rv440.1))) rv440.2.1
              else
                bif decide (0 < a') then
                  bif (!(decide ((cmpp (data'.getD ((a' - 1) : Int).toNat default) (data'.getD rv199.1.toNat default)) < 0))) then
                    let rv479 := (slices_partitionEqualCmpFunc_Account data' a' b' rv199.1 cmpp)
                    slices_pdqsortCmpFunc_Account_F_L0 rc cmpp r rv479.2 rv479.1 b' limit' wasBalanced wasPartitioned
                  else
                    let rv490 := (slices_partitionCmpFunc_Account data' a' b' rv199.1 cmpp)
                    bif decide ((rv490.1 - a') < (b' - rv490.1)) then
                      let rv500 := (rc rv490.2.2 a' rv490.1 limit' cmpp)
                      slices_pdqsortCmpFunc_Account_F_L0 rc cmpp r rv500 (rv490.1 + 1) b' limit' (decide (((b' - a') / 8) ≤ (rv490.1 - a'))) rv490.2.1
                    else
                      let rv507 := (rc rv490.2.2 (rv490.1 + 1) b' limit' cmpp)
                      slices_pdqsortCmpFunc_Account_F_L0 rc cmpp r rv507 a' rv490.1 limit' (decide (((b' - a') / 8) ≤ (b' - rv490.1))) rv490.2.1
                else
                  let rv514 := (slices_partitionCmpFunc_Account data' a' b' rv199.1 cmpp)
                  bif decide ((rv514.1 - a') < (b' - rv514.1)) then
                    let rv524 := (rc rv514.2.2 a' rv514.1 limit' cmpp)
                    slices_pdqsortCmpFunc_Account_F_L0 rc cmpp r rv524 (rv514.1 + 1) b' limit' (decide (((b' - a') / 8) ≤ (rv514.1 - a'))) rv514.2.1
                  else
                    let rv531 := (rc rv514.2.2 (rv514.1 + 1) b' limit' cmpp)
                    slices_pdqsortCmpFunc_Account_F_L0 rc cmpp r rv531 a' rv514.1 limit' (decide (((b' - a') / 8) ≤ (b' - rv514.1))) rv514.2.1
            else
              bif decide (0 < a') then
                bif (!(decide ((cmpp (data'.getD ((a' - 1) : Int).toNat default) (data'.getD rv199.1.toNat default)) < 0))) then
                  let rv553 := (slices_partitionEqualCmpFunc_Account data' a' b' rv199.1 cmpp)
                  slices_pdqsortCmpFunc_Account_F_L0 rc cmpp r rv553.2 rv553.1 b' limit' wasBalanced wasPartitioned
                else
                  let rv564 := (slices_partitionCmpFunc_Account data' a' b' rv199.1 cmpp)
                  bif decide ((rv564.1 - a') < (b' - rv564.1)) then
                    let rv574 := (rc rv564.2.2 a' rv564.1 limit' cmpp)
                    slices_pdqsortCmpFunc_Account_F_L0 rc cmpp r rv574 (rv564.1 + 1) b' limit' (decide (((b' - a') / 8) ≤ (rv564.1 - a'))) rv564.2.1
                  else
                    let rv581 := (rc rv564.2.2 (rv564.1 + 1) b' limit' cmpp)
                    slices_pdqsortCmpFunc_Account_F_L0 rc cmpp r rv581 a' rv564.1 limit' (decide (((b' - a') / 8) ≤ (b' - rv564.1))) rv564.2.1
              else
                let rv588 := (slices_partitionCmpFunc_Account data' a' b' rv199.1 cmpp)
                bif decide ((rv588.1 - a') < (b' - rv588.1)) then
                  let rv598 := (rc rv588.2.2 a' rv588.1 limit' cmpp)
                  slices_pdqsortCmpFunc_Account_F_L0 rc cmpp r rv598 (rv588.1 + 1) b' limit' (decide (((b' - a') / 8) ≤ (rv588.1 - a'))) rv588.2.1
                else
                  let rv605 := (rc rv588.2.2 (rv588.1 + 1) b' limit' cmpp)
                  slices_pdqsortCmpFunc_Account_F_L0 rc cmpp r rv605 a' rv588.1 limit' (decide (((b' - a') / 8) ≤ (b' - rv588.1))) rv588.2.1

def slices_pdqsortCmpFunc_Account_F (rc : List GAccount → Int → Int → Int → (GAccount → GAccount → Int) → List GAccount) (data : List GAccount) (a : Int) (b : Int) (limit : Int) (cmpp : GAccount → GAccount → Int) : List GAccount :=
  match slices_pdqsortCmpFunc_Account_F_L0 rc cmpp ((b - a).toNat + 1) data a b limit true true with
  | .brk _ => default
  | .ret r => r
  | .oof => default

def slices_pdqsortCmpFunc_Account : Nat → List GAccount → Int → Int → Int → (GAccount → GAccount → Int) → List GAccount
  | 0, _, _, _, _, _ => default
  | fu + 1, data, a, b, limit, cmpp => slices_pdqsortCmpFunc_Account_F (slices_pdqsortCmpFunc_Account fu) data a b limit cmpp
def slices_SortFunc_Account (x : List GAccount) (cmpp : GAccount → GAccount → Int) : List GAccount :=
  let rv1 := (bits_Len (BitVec.ofInt 64 (x.length : Int)))
  let rv5 := (slices_pdqsortCmpFunc_Account (x.length + 1) x 0 (x.length : Int) rv1 cmpp)
  rv5
def cmp_isNaN_int (x : Int) : Bool :=
  (x != x)
def cmp_Compare_int (x : Int) (y : Int) : Int :=
  let rv1 := (cmp_isNaN_int x)
  let rv4 := (cmp_isNaN_int y)
  bif rv1 then
    bif rv4 then
      0
    else
      -1
  else
    bif rv4 then
      1
    else
      bif decide (x < y) then
        -1
      else
        bif decide (y < x) then
          1
        else
          0
def ledger_Accounts_1 (a : GAccount) (b : GAccount) : Int :=
  let rv3 := (cmp_Compare_int a.Query b.Query)
  rv3
def ledger_between (n : Int) (least : Int) (most : Int) : Bool :=
  bif decide (least ≤ n) then
    decide (n ≤ most)
  else
    false
def ledger_Valid_L0 (l : List GTurn) : Nat → List (Int × Bool) → Int → LR Unit Bool
  | 0, finished, v12 =>
    .brk ()
  | r + 1, finished, v12 =>
    let rv13 := (ledger_between ((l.getD v12.toNat default).Query) 0 1073741824)
    bif (!rv13) then
      .ret false
    else
      let rv23 := (ledger_between ((l.getD v12.toNat default).Quantum) 0 64)
      bif (!rv23) then
        .ret false
      else
        let rv33 := (ledger_between ((l.getD v12.toNat default).Steps) 0 1073741824)
        bif (!rv33) then
          .ret false
        else
          let rv43 := (ledger_between ((l.getD v12.toNat default).Cost) ((l.getD v12.toNat default).Steps) (min (8 * (l.getD v12.toNat default).Steps) 1073741824))
          bif (!rv43) then
            .ret false
          else
            bif ((mget finished ((l.getD v12.toNat default).Query)).getD false) then
              .ret false
            else
              ledger_Valid_L0 l r (mset finished ((l.getD v12.toNat default).Query) ((l.getD v12.toNat default).Finished)) (v12 + 1)

def ledger_Valid (l : List GTurn) : Bool :=
  bif decide (4096 < (l.length : Int)) then
    false
  else
    match ledger_Valid_L0 l (((l.length : Int) - 0).toNat) [] 0 with
    | .brk _ =>
      true
    | .ret r => r
    | .oof => default
def ledger_Accounts_L0 (l : List GTurn) : Nat → List (Int × GAccount) → Int → (List (Int × GAccount))
  | 0, of, v16 =>
    of
  | r + 1, of, v16 =>
    let rv21 := (ledger_add (GAccount.mk ((l.getD v16.toNat default).Query) (((mget of ((l.getD v16.toNat default).Query)).getD (default : GAccount)).Turns) (((mget of ((l.getD v16.toNat default).Query)).getD (default : GAccount)).Steps) (((mget of ((l.getD v16.toNat default).Query)).getD (default : GAccount)).Cost)) (l.getD v16.toNat default))
    ledger_Accounts_L0 l r (mset of ((l.getD v16.toNat default).Query) rv21) (v16 + 1)

def ledger_Accounts_L1  : List (Int × GAccount) → List GAccount → List GAccount
  | [], out =>
    out
  | en1 :: r, out =>
    ledger_Accounts_L1 r (out ++ [en1.2])
theorem ledger_Accounts_L1_app  : ∀ (a b : List (Int × GAccount)) (out : List GAccount), ledger_Accounts_L1 (a ++ b) out = ledger_Accounts_L1 b (ledger_Accounts_L1 a out)
  | [], b, out => rfl
  | en1 :: a, b, out => by
    rw [List.cons_append, ledger_Accounts_L1, ledger_Accounts_L1]
    try simp only [Bool.cond_eq_ite]
    repeat' split
    all_goals exact ledger_Accounts_L1_app  a b _

def ledger_Accounts (l : List GTurn) : List GAccount :=
  let rv1 := (ledger_Valid l)
  bif (!rv1) then
    ([] : List GAccount)
  else
    match ledger_Accounts_L0 l (((l.length : Int) - 0).toNat) [] 0 with
    | o0_0 =>
      match ledger_Accounts_L1 o0_0 [] with
      | o1_0 =>
        let rv18 := (slices_SortFunc_Account o1_0 (fun x0 x1 => ledger_Accounts_1 x0 x1))
        rv18
def flqref1_Clamp (a : Int) : Int :=
  (max 0 (min a 1073741824))
def flqref1_Add (a : Int) (b : Int) : Int :=
  let rv1 := (flqref1_Clamp a)
  let rv6 := (flqref1_Clamp b)
  let rv11 := (flqref1_Clamp (rv1 + rv6))
  rv11
def flqref19_add (a : GAccount) (t : GTurn) : GAccount :=
  bif decide (0 < t.Quantum) then
    let rv6 := (flqref1_Add a.Steps t.Steps)
    let rv11 := (flqref1_Add a.Cost t.Cost)
    (GAccount.mk a.Query (a.Turns + 1) rv6 rv11)
  else
    let rv17 := (flqref1_Add a.Steps t.Steps)
    let rv22 := (flqref1_Add a.Cost t.Cost)
    (GAccount.mk a.Query a.Turns rv17 rv22)
def flqref19_Accounts_L1 (l : List GTurn) (out : List GAccount) (i : Int) : Nat → Int → Int
  | 0, k =>
    k
  | r + 1, k =>
    bif decide ((out.getD k.toNat default).Query < (l.getD i.toNat default).Query) then
      flqref19_Accounts_L1 l out i r (k + 1)
    else
      k

def flqref19_Accounts_L0 (l : List GTurn) : Nat → List GAccount → Int → List GAccount
  | 0, out, i =>
    out
  | r + 1, out, i =>
    match flqref19_Accounts_L1 l out i (((out.length : Int) - 0).toNat) 0 with
    | o1_0 =>
      bif (o1_0 == (out.length : Int)) then
        let rv53 := (flqref19_add (((((out.take (o1_0.toNat)).drop 0) ++ [(GAccount.mk ((l.getD i.toNat default).Query) 0 0 0)]) ++ ((out.take out.length).drop (o1_0.toNat))).getD o1_0.toNat default) (l.getD i.toNat default))
        flqref19_Accounts_L0 l r (((((out.take (o1_0.toNat)).drop 0) ++ [(GAccount.mk ((l.getD i.toNat default).Query) 0 0 0)]) ++ ((out.take out.length).drop (o1_0.toNat))).set o1_0.toNat rv53) (i + 1)
      else
        bif ((out.getD o1_0.toNat default).Query != (l.getD i.toNat default).Query) then
          let rv105 := (flqref19_add (((((out.take (o1_0.toNat)).drop 0) ++ [(GAccount.mk ((l.getD i.toNat default).Query) 0 0 0)]) ++ ((out.take out.length).drop (o1_0.toNat))).getD o1_0.toNat default) (l.getD i.toNat default))
          flqref19_Accounts_L0 l r (((((out.take (o1_0.toNat)).drop 0) ++ [(GAccount.mk ((l.getD i.toNat default).Query) 0 0 0)]) ++ ((out.take out.length).drop (o1_0.toNat))).set o1_0.toNat rv105) (i + 1)
        else
          let rv114 := (flqref19_add (out.getD o1_0.toNat default) (l.getD i.toNat default))
          flqref19_Accounts_L0 l r (out.set o1_0.toNat rv114) (i + 1)

def flqref19_Accounts (l : List GTurn) : List GAccount :=
  let rv1 := (flqref19_ValidLog l)
  bif (!rv1) then
    ([] : List GAccount)
  else
    match flqref19_Accounts_L0 l (((l.length : Int) - 0).toNat) [] 0 with
    | o0_0 =>
      o0_0
def ledger_Total_L0 (l : List GTurn) : Nat → Int → Int → Int → Int → Int → Int × Int × Int × Int
  | 0, out0, out1, out2, out3, v10 =>
    (out0, out1, out2, out3)
  | r + 1, out0, out1, out2, out3, v10 =>
    let rv15 := (ledger_add (GAccount.mk out0 out1 out2 out3) (l.getD v10.toNat default))
    ledger_Total_L0 l r rv15.Query rv15.Turns rv15.Steps rv15.Cost (v10 + 1)

def ledger_Total (l : List GTurn) : GAccount :=
  let rv3 := (ledger_Valid l)
  bif rv3 then
    match ledger_Total_L0 l (((l.length : Int) - 0).toNat) 0 0 0 0 0 with
    | (o0_0, o0_1, o0_2, o0_3) =>
      (GAccount.mk o0_0 o0_1 o0_2 o0_3)
  else
    (GAccount.mk 0 0 0 0)
def flqref19_Total_L0 (l : List GTurn) : Nat → Int → Int → Int → Int → Int → Int × Int × Int × Int
  | 0, a0, a1, a2, a3, i =>
    (a0, a1, a2, a3)
  | r + 1, a0, a1, a2, a3, i =>
    let rv19 := (flqref19_add (GAccount.mk a0 a1 a2 a3) (l.getD i.toNat default))
    flqref19_Total_L0 l r rv19.Query rv19.Turns rv19.Steps rv19.Cost (i + 1)

def flqref19_Total (l : List GTurn) : GAccount :=
  let rv3 := (flqref19_ValidLog l)
  bif (!rv3) then
    (GAccount.mk 0 0 0 0)
  else
    match flqref19_Total_L0 l (((l.length : Int) - 0).toNat) 0 0 0 0 0 with
    | (o0_0, o0_1, o0_2, o0_3) =>
      (GAccount.mk o0_0 o0_1 o0_2 o0_3)
def ledger_greatest_L0 (l : List GTurn) (query : Int) (weightp : GTurn → Int) : Nat → Int → Int → Bool → Int → Int
  | 0, most, sum, inside, v17 =>
    most
  | r + 1, most, sum, inside, v17 =>
    bif ((l.getD v17.toNat default).Query == query) then
      bif decide (0 < (l.getD v17.toNat default).Quantum) then
        bif inside then
          ledger_greatest_L0 l query weightp r (max most sum) 0 true (v17 + 1)
        else
          ledger_greatest_L0 l query weightp r most 0 true (v17 + 1)
      else
        ledger_greatest_L0 l query weightp r most sum inside (v17 + 1)
    else
      ledger_greatest_L0 l query weightp r most (sum + (weightp (l.getD v17.toNat default))) inside (v17 + 1)

def ledger_greatest (l : List GTurn) (query : Int) (weightp : GTurn → Int) : Int :=
  let rv1 := (ledger_Valid l)
  bif (!rv1) then
    0
  else
    match ledger_greatest_L0 l query weightp (((l.length : Int) - 0).toNat) 0 0 false 0 with
    | o0_0 =>
      o0_0
def ledger_Longest_1 (x : GTurn) : Int :=
  x.Cost
def ledger_Longest (l : List GTurn) (query : Int) : Int :=
  let rv1 := (ledger_greatest l query (fun x0 => ledger_Longest_1 x0))
  rv1
def flqref19_Longest_L0 (l : List GTurn) (query : Int) : Nat → Int → Int → Bool → Int → Int
  | 0, best, sum, open_, i =>
    best
  | r + 1, best, sum, open_, i =>
    bif ((l.getD i.toNat default).Query != query) then
      flqref19_Longest_L0 l query r best (sum + (l.getD i.toNat default).Cost) open_ (i + 1)
    else
      bif decide (0 < (l.getD i.toNat default).Quantum) then
        bif open_ then
          flqref19_Longest_L0 l query r (max best sum) 0 true (i + 1)
        else
          flqref19_Longest_L0 l query r best 0 true (i + 1)
      else
        flqref19_Longest_L0 l query r best sum open_ (i + 1)

def flqref19_Longest (l : List GTurn) (query : Int) : Int :=
  let rv1 := (flqref19_ValidLog l)
  bif (!rv1) then
    0
  else
    match flqref19_Longest_L0 l query (((l.length : Int) - 0).toNat) 0 0 false 0 with
    | o0_0 =>
      o0_0
def ledger_Between_1 (x : GTurn) (cap0 : Int) : Int :=
  bif (x.Query == cap0) then
    bif decide (0 < x.Quantum) then
      1
    else
      0
  else
    0
def ledger_Between (l : List GTurn) (a : Int) (b : Int) : Int :=
  let rv2 := (ledger_greatest l a (fun x0 => ledger_Between_1 x0 b))
  rv2
def flqref19_Between_L0 (l : List GTurn) (a : Int) (b : Int) : Nat → Int → Int → Bool → Int → Int
  | 0, best, count, open_, i =>
    best
  | r + 1, best, count, open_, i =>
    bif ((l.getD i.toNat default).Quantum == 0) then
      flqref19_Between_L0 l a b r best count open_ (i + 1)
    else
      bif ((l.getD i.toNat default).Query == b) then
        bif ((l.getD i.toNat default).Query == a) then
          bif open_ then
            flqref19_Between_L0 l a b r (max best (count + 1)) 0 true (i + 1)
          else
            flqref19_Between_L0 l a b r best 0 true (i + 1)
        else
          flqref19_Between_L0 l a b r best (count + 1) open_ (i + 1)
      else
        bif ((l.getD i.toNat default).Query == a) then
          bif open_ then
            flqref19_Between_L0 l a b r (max best count) 0 true (i + 1)
          else
            flqref19_Between_L0 l a b r best 0 true (i + 1)
        else
          flqref19_Between_L0 l a b r best count open_ (i + 1)

def flqref19_Between (l : List GTurn) (a : Int) (b : Int) : Int :=
  let rv1 := (flqref19_ValidLog l)
  bif (!rv1) then
    0
  else
    bif (a == b) then
      0
    else
      match flqref19_Between_L0 l a b (((l.length : Int) - 0).toNat) 0 0 false 0 with
      | o0_0 =>
        o0_0
def flqlaw23_agrees (l : List GTurn) (a : Int) (b : Int) : Bool :=
  let rv1 := (ledger_Valid l)
  let rv4 := (flqref19_ValidLog l)
  bif (rv1 == rv4) then
    let rv10 := (ledger_Accounts l)
    let rv17 := (flqref19_Accounts l)
    let rv23 := (flqlaw23_sameAccounts rv10 rv17)
    bif rv23 then
      let rv28 := (ledger_Total l)
      let rv35 := (flqref19_Total l)
      bif ([rv28.Query, rv28.Turns, rv28.Steps, rv28.Cost] == [rv35.Query, rv35.Turns, rv35.Steps, rv35.Cost]) then
        let rv44 := (ledger_Longest l a)
        let rv48 := (flqref19_Longest l a)
        bif (rv44 == rv48) then
          let rv54 := (ledger_Between l a b)
          let rv58 := (flqref19_Between l a b)
          (rv54 == rv58)
        else
          false
      else
        false
    else
      false
  else
    false
def flqgen_Mod (v : Int) (n : Int) : Int :=
  (((BitVec.ofInt 64 v) % (BitVec.ofInt 64 n)).toNat : Int)
def Tape_Next (tT : List Int) (tI : Int) (n : Int) : Int × Int :=
  bif decide (n ≤ 1) then
    (0, tI)
  else
    bif decide ((tT.length : Int) ≤ tI) then
      (0, tI)
    else
      let rv8 := (flqgen_Mod (tT.getD (((tI + 1) - 1) : Int).toNat 0) n)
      (rv8, (tI + 1))
def flqlaw23_log_L0 (kT : List Int) : Nat → Int → List GTurn → Int → Int × List GTurn
  | 0, ti', l, i =>
    (ti', l)
  | r + 1, ti', l, i =>
    let rv9 := (Tape_Next kT ti' 5)
    let rv15 := (Tape_Next kT rv9.2 4)
    let rv21 := (Tape_Next kT rv15.2 3)
    let rv27 := (Tape_Next kT rv21.2 30)
    let rv33 := (Tape_Next kT rv27.2 ((7 * rv9.1) + 1))
    let rv39 := (Tape_Next kT rv33.2 9)
    let rv46 := (Tape_Next kT rv39.2 40)
    bif (rv46.1 == 1) then
      flqlaw23_log_L0 kT r rv46.2 (l ++ [(GTurn.mk rv15.1 (rv21.1 * rv27.1) rv9.1 ((9 * rv9.1) + 1) (rv39.1 == 8))]) (i - 1)
    else
      bif (rv46.1 == 2) then
        flqlaw23_log_L0 kT r rv46.2 (l ++ [(GTurn.mk rv15.1 (rv21.1 * rv27.1) (-1) (rv9.1 + rv33.1) (rv39.1 == 8))]) (i - 1)
      else
        bif (rv46.1 == 3) then
          flqlaw23_log_L0 kT r rv46.2 (l ++ [(GTurn.mk rv15.1 65 rv9.1 (rv9.1 + rv33.1) (rv39.1 == 8))]) (i - 1)
        else
          bif (rv46.1 == 4) then
            flqlaw23_log_L0 kT r rv46.2 (l ++ [(GTurn.mk rv15.1 (rv21.1 * rv27.1) 1073741824 1073741824 (rv39.1 == 8))]) (i - 1)
          else
            flqlaw23_log_L0 kT r rv46.2 (l ++ [(GTurn.mk rv15.1 (rv21.1 * rv27.1) rv9.1 (rv9.1 + rv33.1) (rv39.1 == 8))]) (i - 1)

def flqlaw23_log (kT : List Int) (kI : Int) : List GTurn × Int :=
  let rv1 := (Tape_Next kT kI 14)
  match flqlaw23_log_L0 kT (rv1.1.toNat) rv1.2 [] rv1.1 with
  | (o0_0, o0_1) =>
    (o0_1, o0_0)
def flqlaw23_sane  : Bool :=
  let rv8 := (ledger_Accounts [(GTurn.mk 1 4 2 5 false), (GTurn.mk 2 4 1 1 false), (GTurn.mk 1 0 1 1 true)])
  let rv17 := (flqlaw23_sameAccounts rv8 [(GAccount.mk 1 1 3 6), (GAccount.mk 2 1 1 1)])
  bif rv17 then
    let rv23 := (ledger_Longest [(GTurn.mk 1 4 2 5 false), (GTurn.mk 2 4 1 1 false), (GTurn.mk 1 0 1 1 true)] 1)
    bif (rv23 == 0) then
      let rv29 := (ledger_Longest [(GTurn.mk 1 4 0 0 false), (GTurn.mk 2 4 1 5 false), (GTurn.mk 1 4 1 1 false)] 1)
      bif (rv29 == 5) then
        let rv36 := (ledger_Between [(GTurn.mk 1 4 0 0 false), (GTurn.mk 2 4 1 5 false), (GTurn.mk 1 4 1 1 false)] 1 2)
        (rv36 == 1)
      else
        false
    else
      false
  else
    false
def flqlaw23_LedgerAgrees_L0 (t : List Int) (a : Int) (b : Int) : Nat → Int → Int → LR Unit Bool
  | 0, k1, i =>
    .brk ()
  | r + 1, k1, i =>
    let rv8 := (flqlaw23_log t k1)
    let rv16 := (Tape_Next t rv8.2 4)
    let rv22 := (Tape_Next t rv16.2 4)
    let rv28 := (flqlaw23_agrees rv8.1 rv16.1 rv22.1)
    bif (!rv28) then
      .ret false
    else
      let rv39 := (flqlaw23_log t rv22.2)
      let rv47 := (flqlaw23_agrees rv39.1 a b)
      bif (!rv47) then
        .ret false
      else
        flqlaw23_LedgerAgrees_L0 t a b r rv39.2 (i + 1)

def flqlaw23_LedgerAgrees (t : List Int) (l : List GTurn) (a : Int) (b : Int) : Bool :=
  let rv2 := (flqgen_New t)
  match flqlaw23_LedgerAgrees_L0 t a b 6 0 0 with
  | .brk _ =>
    bif decide (60 < (l.length : Int)) then
      true
    else
      let rv8 := (flqlaw23_agrees l a b)
      bif rv8 then
        flqlaw23_sane
      else
        false
  | .ret r => r
  | .oof => default
section
variable {α : Type} (z : α) (key : α → Int)
def gi (d : List α) (k : Int) : α := d.getD k.toNat z
def swp (d : List α) (i j : Int) : List α := (d.set i.toNat (d.getD j.toNat z)).set j.toNat (d.getD i.toNat z)
theorem swp_len (d : List α) (i j : Int) : (swp z d i j).length = d.length := by simp [swp]
theorem swp_gi {d : List α} {i j k : Int} (hi : 0 ≤ i ∧ i < (d.length : Int)) (hj : 0 ≤ j ∧ j < (d.length : Int)) (hk : 0 ≤ k) : gi z (swp z d i j) k = if k = j then gi z d i else if k = i then gi z d j else gi z d k := by
  unfold gi swp
  simp only [List.getD_eq_getElem?_getD, List.getElem?_set, List.length_set]
  by_cases h1 : k = j
  · subst h1
    have : k.toNat < d.length := by omega
    simp [this]
  · have e1 : ¬ j.toNat = k.toNat := by omega
    by_cases h2 : k = i
    · subst h2
      have : k.toNat < d.length := by omega
      simp [e1, h1, this]
    · have e2 : ¬ i.toNat = k.toNat := by omega
      simp [e1, e2, h1, h2]
theorem swp_perm {d : List α} {i j : Int} (hi : 0 ≤ i ∧ i < (d.length : Int)) (hj : 0 ≤ j ∧ j < (d.length : Int)) : (swp z d i j).Perm d := by
  unfold swp
  have h1 : i.toNat < d.length := by omega
  have h2 : j.toNat < d.length := by omega
  rw [List.getD_eq_getElem?_getD, List.getD_eq_getElem?_getD, List.getElem?_eq_getElem h1, List.getElem?_eq_getElem h2]
  exact List.set_set_perm h1 h2
structure PI (d d' : List α) (a b : Int) : Prop where
  len : d'.length = d.length
  out : ∀ k, 0 ≤ k → (k < a ∨ b ≤ k) → gi z d' k = gi z d k
  src : ∀ k, a ≤ k → k < b → ∃ m, a ≤ m ∧ m < b ∧ gi z d' k = gi z d m
  perm : d'.Perm d
theorem PI.refl (d : List α) (a b : Int) : PI z d d a b := ⟨rfl, fun _ _ _ => rfl, fun k h1 h2 => ⟨k, h1, h2, rfl⟩, List.Perm.refl _⟩
theorem PI.trans {d1 d2 d3 : List α} {a b : Int} (h1 : PI z d1 d2 a b) (h2 : PI z d2 d3 a b) : PI z d1 d3 a b :=
  ⟨h2.len.trans h1.len, fun k hk hc => (h2.out k hk hc).trans (h1.out k hk hc), fun k hk hc => by
    obtain ⟨m, m1, m2, m3⟩ := h2.src k hk hc
    obtain ⟨n, n1, n2, n3⟩ := h1.src m m1 m2
    exact ⟨n, n1, n2, m3.trans n3⟩, h2.perm.trans h1.perm⟩
theorem PI.mono {d d' : List α} {a b a' b' : Int} (h : PI z d d' a b) (h0 : 0 ≤ a') (ha : a' ≤ a) (hb : b ≤ b') : PI z d d' a' b' :=
  ⟨h.len, fun k hk hc => h.out k hk (by omega), fun k hk hc => by
    by_cases hs : a ≤ k ∧ k < b
    · obtain ⟨m, m1, m2, m3⟩ := h.src k hs.1 hs.2
      exact ⟨m, by omega, by omega, m3⟩
    · exact ⟨k, hk, hc, h.out k (by omega) (by omega)⟩, h.perm⟩
theorem PI.swp {d : List α} {a b i j : Int} (h0 : 0 ≤ a) (hb : b ≤ (d.length : Int)) (hi : a ≤ i ∧ i < b) (hj : a ≤ j ∧ j < b) : PI z d (swp z d i j) a b :=
  ⟨swp_len z d i j, fun k hk hc => by rw [swp_gi z ⟨by omega, by omega⟩ ⟨by omega, by omega⟩ hk, if_neg (by omega), if_neg (by omega)], fun k hk hc => by
    rw [swp_gi z ⟨by omega, by omega⟩ ⟨by omega, by omega⟩ (by omega)]
    by_cases h1 : k = j
    · exact ⟨i, hi.1, hi.2, by rw [if_pos h1]⟩
    · by_cases h2 : k = i
      · exact ⟨j, hj.1, hj.2, by rw [if_neg h1, if_pos h2]⟩
      · exact ⟨k, hk, hc, by rw [if_neg h1, if_neg h2]⟩, swp_perm z ⟨by omega, by omega⟩ ⟨by omega, by omega⟩⟩
def Srt (d : List α) (a b : Int) : Prop := ∀ i j, a ≤ i → i ≤ j → j < b → key (gi z d i) ≤ key (gi z d j)
def LB (d : List α) (a b : Int) : Prop := 0 < a → ∀ j, a ≤ j → j < b → key (gi z d (a - 1)) ≤ key (gi z d j)
theorem LB.pi {d d' : List α} {a b : Int} (h : LB z key d a b) (hp : PI z d d' a b) : LB z key d' a b := fun ha j h1 h2 => by
  obtain ⟨m, m1, m2, m3⟩ := hp.src j h1 h2
  rw [m3, hp.out (a - 1) (by omega) (by omega)]
  exact h ha m m1 m2
structure Hole (d : List α) (a j e : Int) : Prop where
  rg : a ≤ j ∧ j < e
  A : ∀ p q, a ≤ p → p ≤ q → q < e → p ≠ j → q ≠ j → key (gi z d p) ≤ key (gi z d q)
  B : ∀ q, j < q → q < e → key (gi z d j) ≤ key (gi z d q)
theorem Hole.done {d : List α} {a j e : Int} (h : Hole z key d a j e) (hs : j = a ∨ key (gi z d (j - 1)) ≤ key (gi z d j)) : Srt z key d a e := fun p q hp hpq hq => by
  have hr := h.rg
  by_cases h1 : p = j
  · subst h1
    by_cases h2 : q = p
    · subst h2; exact Int.le_refl _
    · exact h.B q (by omega) hq
  · by_cases h2 : q = j
    · subst h2
      rcases hs with hs | hs
      · omega
      · by_cases h3 : p = q - 1
        · subst h3; exact hs
        · exact Int.le_trans (h.A p (q - 1) hp (by omega) (by omega) h1 (by omega)) hs
    · exact h.A p q hp hpq hq h1 h2
theorem Hole.step {d : List α} {a j e : Int} (h0 : 0 ≤ a) (he : e ≤ (d.length : Int)) (h : Hole z key d a j e) (hj : a < j) (hs : key (gi z d j) < key (gi z d (j - 1))) : Hole z key (swp z d j (j - 1)) a (j - 1) e := by
  have hr := h.rg
  have g : ∀ k, 0 ≤ k → gi z (swp z d j (j - 1)) k = if k = j - 1 then gi z d j else if k = j then gi z d (j - 1) else gi z d k := fun k hk => swp_gi z ⟨by omega, by omega⟩ ⟨by omega, by omega⟩ hk
  refine ⟨⟨by omega, by omega⟩, fun p q hp hpq hq h1 h2 => ?_, fun q hq1 hq2 => ?_⟩
  · rw [g p (by omega), g q (by omega), if_neg h1, if_neg h2]
    by_cases e1 : p = j
    · rw [if_pos e1]
      by_cases e2 : q = j
      · rw [if_pos e2]; exact Int.le_refl _
      · rw [if_neg e2]; exact h.A (j - 1) q (by omega) (by omega) hq (by omega) e2
    · rw [if_neg e1]
      by_cases e2 : q = j
      · rw [if_pos e2]; exact h.A p (j - 1) hp (by omega) (by omega) e1 (by omega)
      · rw [if_neg e2]; exact h.A p q hp hpq hq e1 e2
  · rw [g (j - 1) (by omega), if_pos rfl, g q (by omega), if_neg (by omega)]
    by_cases e2 : q = j
    · rw [if_pos e2]; omega
    · rw [if_neg e2]; exact h.B q (by omega) hq2
theorem Hole.init {d : List α} {a i : Int} (hi : a ≤ i) (h : Srt z key d a i) : Hole z key d a i (i + 1) :=
  ⟨⟨hi, by omega⟩, fun p q hp hpq hq h1 h2 => h p q hp hpq (by omega), fun q hq1 hq2 => by omega⟩
theorem Srt.pi {d d' : List α} {a b c e : Int} (h : Srt z key d a b) (h0 : 0 ≤ a) (hp : PI z d d' c e) (hd : b ≤ c ∨ e ≤ a) : Srt z key d' a b := fun i j h1 h2 h3 => by
  rw [hp.out i (by omega) (by omega), hp.out j (by omega) (by omega)]; exact h i j h1 h2 h3
end

abbrev qk (x : GAccount) : Int := x.Query
def Hp (d : List GAccount) (f lo n : Int) : Prop := ∀ i, lo ≤ i → ∀ c, (c = 2 * i + 1 ∨ c = 2 * i + 2) → c < n → GAccount.Query (gi default d (f + c)) ≤ GAccount.Query (gi default d (f + i))
structure Hq (d : List GAccount) (f lo n rt : Int) : Prop where
  A : ∀ i, lo ≤ i → i ≠ rt → ∀ c, (c = 2 * i + 1 ∨ c = 2 * i + 2) → c < n → GAccount.Query (gi default d (f + c)) ≤ GAccount.Query (gi default d (f + i))
  B : ∀ i, lo ≤ i → (rt = 2 * i + 1 ∨ rt = 2 * i + 2) → ∀ c, (c = 2 * rt + 1 ∨ c = 2 * rt + 2) → c < n → GAccount.Query (gi default d (f + c)) ≤ GAccount.Query (gi default d (f + i))
theorem Hq.done {d : List GAccount} {f lo n rt : Int} (h : Hq d f lo n rt) (hs : ∀ c, (c = 2 * rt + 1 ∨ c = 2 * rt + 2) → c < n → GAccount.Query (gi default d (f + c)) ≤ GAccount.Query (gi default d (f + rt))) : Hp d f lo n := fun i hi c hc hn => by
  by_cases e : i = rt
  · subst e; exact hs c hc hn
  · exact h.A i hi e c hc hn
theorem Hq.step {d : List GAccount} {f lo n rt c : Int} (h0 : 0 ≤ f) (hl : 0 ≤ lo) (hr : lo ≤ rt) (hb : f + n ≤ (d.length : Int)) (h : Hq d f lo n rt) (hc : c = 2 * rt + 1 ∨ c = 2 * rt + 2) (hn : c < n)
    (h1 : GAccount.Query (gi default d (f + rt)) < GAccount.Query (gi default d (f + c))) (h2 : ∀ c', (c' = 2 * rt + 1 ∨ c' = 2 * rt + 2) → c' < n → GAccount.Query (gi default d (f + c')) ≤ GAccount.Query (gi default d (f + c))) : Hq (swp default d (f + rt) (f + c)) f lo n c := by
  have g : ∀ k, 0 ≤ k → gi default (swp default d (f + rt) (f + c)) (f + k) = if k = c then gi default d (f + rt) else if k = rt then gi default d (f + c) else gi default d (f + k) := fun k hk => by
    rw [swp_gi default ⟨by omega, by omega⟩ ⟨by omega, by omega⟩ (by omega)]
    by_cases e1 : k = c
    · rw [if_pos (by omega), if_pos e1]
    · rw [if_neg (by omega), if_neg e1]
      by_cases e2 : k = rt
      · rw [if_pos (by omega), if_pos e2]
      · rw [if_neg (by omega), if_neg e2]
  refine ⟨fun i hi hne k hk hkn => ?_, fun i hi hp k hk hkn => ?_⟩
  · rw [g k (by omega), g i (by omega), if_neg hne]
    by_cases e1 : i = rt
    · rw [if_pos e1]
      subst e1
      by_cases e2 : k = c
      · rw [if_pos e2]; omega
      · rw [if_neg e2, if_neg (by omega)]; exact h2 k hk hkn
    · rw [if_neg e1]
      by_cases e2 : k = c
      · omega
      · rw [if_neg e2]
        by_cases e3 : k = rt
        · rw [if_pos e3]; subst e3; exact h.B i hi hk c hc hn
        · rw [if_neg e3]; exact h.A i hi e1 k hk hkn
  · have hi' : i = rt := by omega
    subst hi'
    rw [g k (by omega), g i (by omega), if_neg (by omega), if_neg (by omega), if_neg (by omega), if_pos rfl]
    exact h.A c (by omega) (by omega) k hk hkn
theorem Hp_max {d : List GAccount} {f n : Int} (h : Hp d f 0 n) : ∀ (m : Nat) (k : Int), k.toNat ≤ m → 0 ≤ k → k < n → GAccount.Query (gi default d (f + k)) ≤ GAccount.Query (gi default d (f + 0))
  | 0, k, hm, hk, hn => by rw [show k = 0 by omega]; exact Int.le_refl _
  | m + 1, k, hm, hk, hn => by
    by_cases e : k = 0
    · rw [e]; exact Int.le_refl _
    · exact Int.le_trans (h ((k - 1) / 2) (by omega) k (by omega) hn) (Hp_max h m ((k - 1) / 2) (by omega) (by omega) (by omega))
theorem pt_end {d : List GAccount} {a b m : Int} (h0 : 0 ≤ a) (hm : a ≤ m ∧ m ≤ b - 1) (hb : b ≤ (d.length : Int)) (hA : ∀ k, a < k → k ≤ m → GAccount.Query (gi default d k) < GAccount.Query (gi default d a)) (hB : ∀ k, m < k → k < b → GAccount.Query (gi default d a) ≤ GAccount.Query (gi default d k)) :
    PI default d (swp default d m a) a b ∧ (∀ k, a ≤ k → k < m → GAccount.Query (gi default (swp default d m a) k) ≤ GAccount.Query (gi default (swp default d m a) m)) ∧ (∀ k, m < k → k < b → GAccount.Query (gi default (swp default d m a) m) ≤ GAccount.Query (gi default (swp default d m a) k)) := by
  have g : ∀ k, 0 ≤ k → gi default (swp default d m a) k = if k = a then gi default d m else if k = m then gi default d a else gi default d k := fun k hk => swp_gi default ⟨by omega, by omega⟩ ⟨by omega, by omega⟩ hk
  have gm : gi default (swp default d m a) m = gi default d a := by
    rw [g m (by omega)]
    by_cases e : m = a
    · rw [if_pos e, e]
    · rw [if_neg e, if_pos rfl]
  refine ⟨PI.swp default h0 hb (by omega) (by omega), fun k h1 h2 => ?_, fun k h1 h2 => ?_⟩
  · rw [gm, g k (by omega)]
    by_cases e : k = a
    · rw [if_pos e]; have := hA m (by omega) (Int.le_refl _); omega
    · rw [if_neg e, if_neg (by omega)]; have := hA k (by omega) (by omega); omega
  · rw [gm, g k (by omega), if_neg (by omega), if_neg (by omega)]; exact hB k h1 h2
theorem tab_ok : ((List.range 256).all fun k => (decide (k = 0) || decide (2 ^ (tab0.b.getD k 0).toNat ≤ 2 * k)) && decide ((tab0.b.getD k 0).toNat ≤ 8)) = true := by kernel_rfl
theorem tab_at {k : Nat} (h : k < 256) : (k = 0 ∨ 2 ^ (tab0.b.getD k 0).toNat ≤ 2 * k) ∧ (tab0.b.getD k 0).toNat ≤ 8 := by
  have := List.all_eq_true.1 tab_ok k (List.mem_range.2 h)
  simpa only [Bool.and_eq_true, Bool.or_eq_true, decide_eq_true_eq] using this
theorem ofI_nat {l : Int} (h : 0 ≤ l ∧ l ≤ 65535) : (BitVec.ofInt 64 l).toNat = l.toNat := by rw [BitVec.toNat_ofInt]; omega
theorem and_lt {x m : BitVec 64} (h : 1 ≤ m.toNat) : (x &&& (m - 1#64)).toNat < m.toNat := by
  rw [BitVec.toNat_and]
  have h1 : (m - 1#64).toNat = m.toNat - 1 := by
    rw [BitVec.toNat_sub]
    have := m.isLt
    simp
    omega
  rw [h1]
  have := Nat.and_le_right (n := x.toNat) (m := m.toNat - 1)
  omega
theorem srt_join {d1 d' : List GAccount} {a m b : Int} (hm : a ≤ m ∧ m < b) (hA : ∀ k, a ≤ k → k < m → GAccount.Query (gi default d1 k) ≤ GAccount.Query (gi default d1 m)) (hB : ∀ k, m < k → k < b → GAccount.Query (gi default d1 m) ≤ GAccount.Query (gi default d1 k))
    (sl : ∀ k, a ≤ k → k < m → ∃ s, a ≤ s ∧ s < m ∧ gi default d' k = gi default d1 s) (sm : gi default d' m = gi default d1 m) (sr : ∀ k, m + 1 ≤ k → k < b → ∃ s, m + 1 ≤ s ∧ s < b ∧ gi default d' k = gi default d1 s)
    (h1 : Srt default qk d' a m) (h2 : Srt default qk d' (m + 1) b) : Srt default qk d' a b := fun p q hp hpq hq => by
  have lo : ∀ k, a ≤ k → k < m → GAccount.Query (gi default d' k) ≤ GAccount.Query (gi default d1 m) := fun k k1 k2 => by
    obtain ⟨s, s1, s2, s3⟩ := sl k k1 k2
    rw [s3]; exact hA s s1 s2
  have hi : ∀ k, m < k → k < b → GAccount.Query (gi default d1 m) ≤ GAccount.Query (gi default d' k) := fun k k1 k2 => by
    obtain ⟨s, s1, s2, s3⟩ := sr k (by omega) k2
    rw [s3]; exact hB s (by omega) s2
  show GAccount.Query (gi default d' p) ≤ GAccount.Query (gi default d' q)
  by_cases c1 : q < m
  · exact h1 p q hp hpq c1
  · by_cases c2 : m < p
    · exact h2 p q (by omega) hpq hq
    · by_cases c3 : p = m
      · subst c3
        by_cases c4 : q = p
        · subst c4; exact Int.le_refl _
        · rw [sm]; exact hi q (by omega) hq
      · have l1 := lo p hp (by omega)
        by_cases c4 : q = m
        · subst c4; rw [sm]; exact l1
        · exact Int.le_trans l1 (hi q (by omega) hq)
theorem brk_ne {α β : Type} {x : LR α β} {y : α} (h : x = .brk y) : x ≠ .oof := fun e => by rw [h] at e; cases e
theorem mul_b {a b : Int} (ha : 0 ≤ a ∧ a ≤ 1000) (hb : 0 ≤ b ∧ b ≤ 1000) : i64ok (a * b) := by
  have h1 := Int.mul_nonneg ha.1 hb.1
  have h2 := Int.mul_le_mul_of_nonneg_right ha.2 hb.1
  unfold i64ok; omega
theorem mul_c {a b : Int} (ha : 0 ≤ a ∧ a ≤ 1000) (hb : 0 ≤ b ∧ b ≤ 1000) : 0 ≤ a * b ∧ a * b ≤ 1000000 := by
  have h1 := Int.mul_nonneg ha.1 hb.1
  have h2 := Int.mul_le_mul_of_nonneg_right ha.2 hb.1
  omega
def AccM (of : List (Int × GAccount)) (n : Int) : Prop := ∀ e ∈ of, (0 ≤ e.1 ∧ e.1 ≤ 1073741824) ∧ e.2.Query = e.1 ∧ (0 ≤ e.2.Turns ∧ e.2.Turns ≤ n) ∧ (0 ≤ e.2.Steps ∧ e.2.Steps ≤ 1073741824) ∧ (0 ≤ e.2.Cost ∧ e.2.Cost ≤ 1073741824)
theorem AccM_nil (n : Int) : AccM [] n := fun e he => by simp at he
theorem AccM_get {of : List (Int × GAccount)} {n : Int} (h : AccM of n) (hn : 0 ≤ n) (k : Int) : i64ok ((mget of k).getD (default : GAccount)).Query ∧ (0 ≤ ((mget of k).getD (default : GAccount)).Turns ∧ ((mget of k).getD (default : GAccount)).Turns ≤ n) ∧ (0 ≤ ((mget of k).getD (default : GAccount)).Steps ∧ ((mget of k).getD (default : GAccount)).Steps ≤ 1073741824) ∧ (0 ≤ ((mget of k).getD (default : GAccount)).Cost ∧ ((mget of k).getD (default : GAccount)).Cost ≤ 1073741824) := by
  cases e : mget of k with
  | none =>
    have hd : (default : GAccount) = ⟨0, 0, 0, 0⟩ := rfl
    simp only [Option.getD_none, hd, i64ok]; omega
  | some v =>
    have : ∀ (l : List (Int × GAccount)), mget l k = some v → (k, v) ∈ l := fun l => by
      induction l with
      | nil => intro h; cases h
      | cons a l ih =>
        intro h
        unfold mget at h
        split at h
        · rename_i e1; cases h; subst e1; exact List.mem_cons_self
        · exact List.mem_cons_of_mem _ (ih h)
    have := h _ (this of e)
    dsimp only at this
    simp only [Option.getD_some]
    exact ⟨by unfold i64ok; omega, this.2.2⟩
theorem AccM_set {of : List (Int × GAccount)} {n : Int} (h : AccM of n) {k : Int} {a : GAccount} (hk : 0 ≤ k ∧ k ≤ 1073741824) (ha : a.Query = k ∧ (0 ≤ a.Turns ∧ a.Turns ≤ n + 1) ∧ (0 ≤ a.Steps ∧ a.Steps ≤ 1073741824) ∧ (0 ≤ a.Cost ∧ a.Cost ≤ 1073741824)) : AccM (mset of k a) (n + 1) := by
  induction of with
  | nil => intro e he; simp [mset] at he; subst he; exact ⟨hk, ha⟩
  | cons x of ih =>
    obtain ⟨y, u⟩ := x
    unfold mset
    have h0 : ∀ e ∈ ((y, u) :: of), (0 ≤ e.1 ∧ e.1 ≤ 1073741824) ∧ e.2.Query = e.1 ∧ (0 ≤ e.2.Turns ∧ e.2.Turns ≤ n + 1) ∧ (0 ≤ e.2.Steps ∧ e.2.Steps ≤ 1073741824) ∧ (0 ≤ e.2.Cost ∧ e.2.Cost ≤ 1073741824) := fun e he => by
      obtain ⟨a, b, c, d, f⟩ := h e he; exact ⟨a, b, by omega, d, f⟩
    split
    · intro e he
      rcases List.mem_cons.1 he with rfl | he
      · rename_i e1; exact ⟨by simpa [e1] using hk, by simpa [e1] using ha⟩
      · exact h0 e (List.mem_cons_of_mem _ he)
    · intro e he
      rcases List.mem_cons.1 he with rfl | he
      · exact h0 _ (by simp)
      · exact ih (fun e he => h e (List.mem_cons_of_mem _ he)) e he
theorem mset_len {of : List (Int × GAccount)} (k : Int) (a : GAccount) : (mset of k a).length ≤ of.length + 1 := by
  induction of with
  | nil => simp [mset]
  | cons x of ih =>
    unfold mset
    split
    · simp
    · simp only [List.length_cons]; omega
theorem eq_of_perm_key {α : Type} {key : α → Int} : ∀ {a b : List α}, a.Perm b → a.Pairwise (fun x y => key x < key y) → b.Pairwise (fun x y => key x < key y) → a = b
  | [], b, hp, _, _ => hp.nil_eq
  | x :: a, b, hp, ha, hb => by
    cases b with
    | nil => exact absurd hp.symm.nil_eq (by simp)
    | cons y b =>
      have h1 := List.pairwise_cons.1 ha
      have h2 := List.pairwise_cons.1 hb
      have e : x = y := by
        rcases List.mem_cons.1 (hp.mem_iff.1 (List.mem_cons_self : x ∈ x :: a)) with h | h
        · exact h
        · rcases List.mem_cons.1 (hp.mem_iff.2 (List.mem_cons_self : y ∈ y :: b)) with h' | h'
          · exact h'.symm
          · have := h1.1 _ h'; have := h2.1 _ h; omega
      subst e
      rw [eq_of_perm_key (List.Perm.cons_inv hp) h1.2 h2.2]
theorem pw_lt {l m : List GAccount} (hp : m.Perm l) (hs : m.Pairwise (fun a b => a.Query ≤ b.Query)) (hn : (l.map GAccount.Query).Nodup) : m.Pairwise (fun a b => a.Query < b.Query) := by
  have h2 : (m.map GAccount.Query).Nodup := ((hp.map GAccount.Query).nodup_iff).2 hn
  rw [List.nodup_iff_pairwise_ne, List.pairwise_map] at h2
  exact (hs.and h2).imp fun h => by omega
theorem dropCons {α : Type} (l : List α) (d : α) {i : Int} (h0 : 0 ≤ i) (h1 : i < (l.length : Int)) : l.drop i.toNat = l.getD i.toNat d :: l.drop (i + 1).toNat := by
  have e : (i + 1).toNat = i.toNat + 1 := by omega
  have hi : i.toNat < l.length := by omega
  rw [e, List.drop_eq_getElem_cons hi, List.getD_eq_getElem?_getD, List.getElem?_eq_getElem hi]; rfl
theorem dropNil {α : Type} (l : List α) {i : Int} (h0 : 0 ≤ i) (h1 : i = (l.length : Int)) : l.drop i.toNat = [] := by
  rw [List.drop_eq_nil_iff]; omega
def lrB : LR Unit Bool → Bool
  | .brk _ => true
  | .ret r => r
  | .oof => default
structure LTok (x : GTurn) : Prop where
  q : 0 ≤ x.Query ∧ x.Query ≤ 1073741824
  n : 0 ≤ x.Quantum ∧ x.Quantum ≤ 64
  s : 0 ≤ x.Steps ∧ x.Steps ≤ 1073741824
  c : x.Steps ≤ x.Cost ∧ x.Cost ≤ 1073741824
theorem AccM_ent {of : List (Int × GAccount)} {n : Int} (h : AccM of n) (hn : 0 ≤ n ∧ n ≤ 1000000) {rs r1 r2 : List (Int × GAccount)} {en : Int × GAccount} (hs : ∀ e ∈ rs, e ∈ of) (he : rs = r1 ++ en :: r2) :
    i64ok en.2.Query ∧ i64ok en.2.Turns ∧ i64ok en.2.Steps ∧ i64ok en.2.Cost := by
  have := h en (hs en (by rw [he]; simp))
  unfold i64ok; omega
theorem nx_sub {α : Type} {of rs r1 r2 : List α} {en : α} (he : rs = r1 ++ en :: r2) (hs : ∀ e ∈ rs, e ∈ of) : ∀ e ∈ r1 ++ r2, e ∈ of := fun e h => hs e (by
  rw [he]; rcases List.mem_append.1 h with h | h <;> simp [h])
def dnG : List Int → List GTurn → Bool
  | _, [] => true
  | d, x :: l => !(d.any (fun q => q == x.Query)) && dnG (if x.Finished then d ++ [x.Query] else d) l
def AccO (out : List GAccount) (n : Int) : Prop := ∀ e ∈ out, 0 ≤ e.Turns ∧ e.Turns ≤ n
theorem AccO_nil (n : Int) : AccO [] n := fun e he => by simp at he
theorem AccO_ge {out : List GAccount} {n : Int} (h : AccO out n) (k : Nat) (hn : 0 ≤ n ∧ n ≤ 1000000) : 0 ≤ (out.getD k default).Turns ∧ (out.getD k default).Turns ≤ n ∧ n ≤ 1000000 := by
  rcases Nat.lt_or_ge k out.length with e | e
  · have := h _ (getD_mem (d := default) e); omega
  · rw [List.getD_eq_getElem?_getD, List.getElem?_eq_none e]
    exact ⟨Int.le_refl 0, hn.1, hn.2⟩
theorem AccO_gt {out : List GAccount} {n : Int} (h : AccO out n) (k : Nat) (hn : 0 ≤ n ∧ n ≤ 1000000) : 0 ≤ (out.getD k default).Turns ∧ (out.getD k default).Turns ≤ 1000000 := by
  have := AccO_ge h k hn; omega
theorem AccO_ins {out : List GAccount} {n : Int} (h : AccO out n) (hn : 0 ≤ n) (k j : Nat) (q : Int) : AccO ((((out.take k).drop 0) ++ [GAccount.mk q 0 0 0]) ++ ((out.take j).drop k)) n := fun e he => by
  rcases List.mem_append.1 he with he | he
  · rcases List.mem_append.1 he with he | he
    · exact h e (List.mem_of_mem_take (List.mem_of_mem_drop he))
    · rw [List.mem_singleton] at he; subst he; exact ⟨Int.le_refl 0, hn⟩
  · exact h e (List.mem_of_mem_take (List.mem_of_mem_drop he))
theorem AccO_set {out : List GAccount} {n : Int} (h : AccO out n) {r : GAccount} (k : Nat) (hr : 0 ≤ r.Turns ∧ r.Turns ≤ n + 1) : AccO (out.set k r) (n + 1) := fun e he => by
  rcases List.mem_or_eq_of_mem_set he with he | rfl
  · have := h e he; omega
  · exact hr
theorem msetl {of : List (Int × GAccount)} {n : Int} {k : Int} {a : GAccount} (h : (of.length : Int) ≤ n) : ((mset of k a).length : Int) ≤ n + 1 := by
  have := mset_len (of := of) k a
  omega

theorem mget_mset (f : List (Int × Bool)) (k q : Int) (v : Bool) : mget (mset f k v) q = if k = q then some v else mget f q := by
  induction f with
  | nil => simp [mset, mget]
  | cons a f ih =>
    obtain ⟨a, u⟩ := a
    unfold mset
    by_cases e : a = k
    · subst e
      rw [if_pos rfl, mget, mget]
      by_cases e2 : a = q <;> simp [e2]
    · rw [if_neg e, mget, mget, ih]
      by_cases e2 : a = q
      · subst e2
        have e' : ¬ k = a := fun h => e h.symm
        simp [e']
      · simp [e2]
structure AccE (of : List (Int × GAccount)) (out : List GAccount) : Prop where
  q : ∀ e ∈ of, e.2.Query = e.1
  p : (of.map (·.2)).Perm out
  s : out.Pairwise (fun a b => a.Query < b.Query)
theorem mget_mem {ν : Type} {k : Int} {v : ν} : ∀ {l : List (Int × ν)}, mget l k = some v → (k, v) ∈ l
  | [], h => by cases h
  | (a, u) :: l, h => by
    unfold mget at h
    split at h
    · rename_i e; cases h; subst e; exact List.mem_cons_self
    · exact List.mem_cons_of_mem _ (mget_mem h)
theorem mset_split {k : Int} {v : GAccount} (a : GAccount) : ∀ {of : List (Int × GAccount)}, mget of k = some v → ∃ A B, of = A ++ (k, v) :: B ∧ mset of k a = A ++ (k, a) :: B
  | [], h => by cases h
  | (y, u) :: of, h => by
    unfold mget at h
    by_cases e : y = k
    · subst e
      rw [if_pos rfl] at h; cases h
      exact ⟨[], of, rfl, by simp [mset]⟩
    · rw [if_neg e] at h
      obtain ⟨A, B, h1, h2⟩ := mset_split a h
      exact ⟨(y, u) :: A, B, by rw [h1]; rfl, by rw [mset, if_neg e, h2]; rfl⟩
theorem mset_new {k : Int} (a : GAccount) : ∀ {of : List (Int × GAccount)}, mget of k = none → mset of k a = of ++ [(k, a)]
  | [], h => rfl
  | (y, u) :: of, h => by
    unfold mget at h
    by_cases e : y = k
    · rw [if_pos e] at h; cases h
    · rw [if_neg e] at h
      rw [mset, if_neg e, mset_new a h]; rfl
theorem mset_q {of : List (Int × GAccount)} (h : ∀ e ∈ of, e.2.Query = e.1) {k : Int} {a : GAccount} (ha : a.Query = k) : ∀ e ∈ mset of k a, e.2.Query = e.1 := by
  induction of with
  | nil => intro e he; simp [mset] at he; subst he; exact ha
  | cons y of ih =>
    obtain ⟨y, u⟩ := y
    intro e he
    unfold mset at he
    split at he
    · rename_i e1
      rcases List.mem_cons.1 he with rfl | he
      · exact ha.trans e1.symm
      · exact h e (List.mem_cons_of_mem _ he)
    · rcases List.mem_cons.1 he with rfl | he
      · exact h _ (by simp)
      · exact ih (fun e he => h e (List.mem_cons_of_mem _ he)) e he
theorem set_mid {α : Type} (A B : List α) (x y : α) {k : Nat} (hk : k = A.length) : (A ++ x :: B).set k y = A ++ y :: B := by
  subst hk; simp
theorem getD_mid2 {α : Type} (A B : List α) (x d : α) {k : Nat} (hk : k = A.length) : (A ++ x :: B).getD k d = x := by
  subst hk; simp [List.getD]
theorem between_iff (n a b : Int) : ledger_between n a b = true ↔ a ≤ n ∧ n ≤ b := by
  unfold ledger_between
  cases h : decide (a ≤ n) <;> simp_all <;> omega
theorem between_b {n a b : Int} {r : Bool} (e : ledger_between n a b = r) (h : r = true) : a ≤ n ∧ n ≤ b := (between_iff n a b).1 (e.trans h)
def lvG : List (Int × Bool) → List GTurn → Bool
  | _, [] => true
  | f, x :: l => ledger_between x.Query 0 1073741824 && (ledger_between x.Quantum 0 64 && (ledger_between x.Steps 0 1073741824 && (ledger_between x.Cost x.Steps (min (8 * x.Steps) 1073741824) && (!((mget f x.Query).getD false) && lvG (mset f x.Query x.Finished) l))))
theorem lvG_ok : ∀ (l : List GTurn) (f : List (Int × Bool)), lvG f l = true → ∀ x ∈ l, LTok x
  | [], _, _, x, hx => by simp at hx
  | y :: l, f, h, x, hx => by
    rw [lvG] at h
    simp only [Bool.and_eq_true, between_iff] at h
    obtain ⟨h1, h2, h3, h4, h5, h6⟩ := h
    rcases List.mem_cons.1 hx with rfl | hx
    · exact ⟨h1, h2, h3, by omega⟩
    · exact lvG_ok l _ h6 x hx
def tk (x : GTurn) : Bool := ledger_between x.Query 0 1073741824 && (ledger_between x.Quantum 0 64 && (ledger_between x.Steps 0 1073741824 && ledger_between x.Cost x.Steps (min (8 * x.Steps) 1073741824)))
theorem tk_iff (x : GTurn) : tk x = true ↔ (0 ≤ x.Query ∧ x.Query ≤ 1073741824) ∧ (0 ≤ x.Quantum ∧ x.Quantum ≤ 64) ∧ (0 ≤ x.Steps ∧ x.Steps ≤ 1073741824) ∧ (x.Steps ≤ x.Cost ∧ x.Cost ≤ min (8 * x.Steps) 1073741824) := by
  unfold tk
  simp only [Bool.and_eq_true, between_iff]
theorem tk_ok {x : GTurn} (h : tk x = true) : LTok x := by
  obtain ⟨h1, h2, h3, h4⟩ := (tk_iff x).1 h
  exact ⟨h1, h2, h3, by omega⟩
theorem tk_no {x : GTurn} (h : ¬ ((0 ≤ x.Query ∧ x.Query ≤ 1073741824) ∧ (0 ≤ x.Quantum ∧ x.Quantum ≤ 64) ∧ (0 ≤ x.Steps ∧ x.Steps ≤ 1073741824) ∧ (x.Steps ≤ x.Cost ∧ x.Cost ≤ min (8 * x.Steps) 1073741824))) : tk x = false := by
  cases e : tk x
  · rfl
  · exact absurd ((tk_iff x).1 e) h
theorem lvG_eq : ∀ (l : List GTurn) (f : List (Int × Bool)) (d : List Int), (∀ q, (mget f q).getD false = d.any (fun y => y == q)) → lvG f l = (l.all tk && dnG d l)
  | [], f, d, h => rfl
  | x :: l, f, d, h => by
    have e1 : lvG f (x :: l) = (tk x && (!((mget f x.Query).getD false) && lvG (mset f x.Query x.Finished) l)) := by
      rw [lvG, tk]; simp only [Bool.and_assoc]
    rw [e1, dnG, List.all_cons, h x.Query]
    cases hd : d.any (fun y => y == x.Query)
    · have ih := lvG_eq l (mset f x.Query x.Finished) (if x.Finished then d ++ [x.Query] else d) (fun q => by
        rw [mget_mset]
        by_cases e : x.Query = q
        · subst e
          cases hx : x.Finished
          · simp only [if_true, Option.getD_some, if_false, Bool.false_eq_true]; exact hd.symm
          · simp
        · rw [if_neg e, h q]
          cases x.Finished
          · rfl
          · simp [e])
      rw [ih]
      all_goals (cases tk x <;> cases l.all tk <;> rfl)
    · cases tk x <;> simp
theorem LValid_len {l : List GTurn} (h : ledger_Valid l = true) : l.length ≤ 4096 := by
  unfold ledger_Valid at h
  cases e : decide (4096 < ((l.length : Nat) : Int))
  · have := of_decide_eq_false e; omega
  · rw [e] at h; cases h
theorem lv_L0 (l : List GTurn) : ∀ (m : Nat) (f : List (Int × Bool)) (i : Int), 0 ≤ i → i + m = (l.length : Int) → lrB (ledger_Valid_L0 l m f i) = lvG f (l.drop i.toNat)
  | 0, f, i, h0, h1 => by rw [dropNil l h0 (by omega)]; rfl
  | m + 1, f, i, h0, h1 => by
    rw [dropCons l default h0 (by omega), ledger_Valid_L0, lvG]
    simp only [Bool.cond_eq_ite]
    cases ledger_between (l.getD i.toNat default).Query 0 1073741824 <;> simp only [Bool.not_true, Bool.not_false, Bool.true_and, Bool.false_and, if_true, if_false, reduceIte, Bool.false_eq_true]
    · rfl
    cases ledger_between (l.getD i.toNat default).Quantum 0 64 <;> simp only [Bool.not_true, Bool.not_false, Bool.true_and, Bool.false_and, if_true, if_false, reduceIte, Bool.false_eq_true]
    · rfl
    cases ledger_between (l.getD i.toNat default).Steps 0 1073741824 <;> simp only [Bool.not_true, Bool.not_false, Bool.true_and, Bool.false_and, if_true, if_false, reduceIte, Bool.false_eq_true]
    · rfl
    cases ledger_between (l.getD i.toNat default).Cost (l.getD i.toNat default).Steps (min (8 * (l.getD i.toNat default).Steps) 1073741824) <;> simp only [Bool.not_true, Bool.not_false, Bool.true_and, Bool.false_and, if_true, if_false, reduceIte, Bool.false_eq_true]
    · rfl
    cases (mget f (l.getD i.toNat default).Query).getD false <;> simp only [Bool.not_true, Bool.not_false, Bool.true_and, Bool.false_and, if_true, if_false, reduceIte, Bool.false_eq_true]
    · exact lv_L0 l m _ (i + 1) (by omega) (by omega)
    · rfl
theorem LValid_eq (l : List GTurn) : ledger_Valid l = (decide ((l.length : Int) ≤ 4096) && lvG [] l) := by
  unfold ledger_Valid
  have h := lv_L0 l l.length [] 0 (by omega) (by omega)
  rw [show ((((l.length : Nat) : Int) : Int) - 0).toNat = l.length by omega]
  by_cases e : (4096 : Int) < (l.length : Int)
  · simp [e]; omega
  · have e2 : (l.length : Int) ≤ 4096 := by omega
    simp only [e, e2, decide_false, decide_true, cond_false, Bool.true_and]
    generalize ledger_Valid_L0 l l.length [] 0 = q at h ⊢
    cases q <;> simpa [lrB] using h
theorem LValid_ok {l : List GTurn} (h : ledger_Valid l = true) : ∀ x ∈ l, LTok x := by
  rw [LValid_eq] at h
  exact lvG_ok l [] (Bool.and_eq_true_iff.1 h).2
theorem counter_iff (n : Int) : flqref19_counter n = true ↔ 0 ≤ n ∧ n ≤ 1073741824 := by
  unfold flqref19_counter
  cases h1 : decide (0 ≤ n) <;> simp_all <;> omega
theorem counter_b {n : Int} {r : Bool} (e : flqref19_counter n = r) (h : r = true) : 0 ≤ n ∧ n ≤ 1073741824 := by
  subst e
  unfold flqref19_counter at h
  cases h1 : decide (0 ≤ n) <;> simp_all
theorem rv_L0s (l : List GTurn) (m : Nat) (i : Int) : flqref19_ValidLog_L0 l (m + 1) i = bif tk (l.getD i.toNat default) then flqref19_ValidLog_L0 l m (i + 1) else .ret false := by
  rw [flqref19_ValidLog_L0]
  generalize l.getD i.toNat default = x
  generalize flqref19_ValidLog_L0 l m (i + 1) = R
  have h1 := counter_iff x.Query; have h2 := counter_iff x.Steps; have h3 := counter_iff x.Cost
  generalize flqref19_counter x.Query = c1 at *
  generalize flqref19_counter x.Steps = c2 at *
  generalize flqref19_counter x.Cost = c3 at *
  dsimp only
  cases c1
  · have hn : ¬ (0 ≤ x.Query ∧ x.Query ≤ 1073741824) := fun h => by cases h1.2 h
    rw [tk_no (fun h => hn h.1)]; rfl
  have k1 := h1.1 rfl
  simp only [Bool.not_true, cond_false]
  by_cases e1 : x.Quantum < 0
  · rw [decide_eq_true e1, tk_no (by omega)]; rfl
  rw [decide_eq_false e1, cond_false]
  by_cases e2 : 64 < x.Quantum
  · rw [decide_eq_true e2, tk_no (by omega)]; rfl
  rw [decide_eq_false e2, cond_false]
  cases c2
  · have hn : ¬ (0 ≤ x.Steps ∧ x.Steps ≤ 1073741824) := fun h => by cases h2.2 h
    rw [tk_no (fun h => hn h.2.2.1)]; rfl
  have k2 := h2.1 rfl
  simp only [Bool.not_true, cond_false]
  cases c3
  · have hn : ¬ (0 ≤ x.Cost ∧ x.Cost ≤ 1073741824) := fun h => by cases h3.2 h
    rw [tk_no (fun h => hn (by omega))]; rfl
  have k3 := h3.1 rfl
  simp only [Bool.not_true, cond_false]
  by_cases e3 : x.Cost < x.Steps
  · rw [decide_eq_true e3, tk_no (by omega)]; rfl
  rw [decide_eq_false e3, cond_false]
  by_cases e4 : 8 * x.Steps < x.Cost
  · rw [decide_eq_true e4, tk_no (by omega)]; rfl
  rw [decide_eq_false e4, cond_false, (tk_iff x).2 (by omega)]; rfl
theorem rv_L0 (l : List GTurn) : ∀ (m : Nat) (i : Int), 0 ≤ i → i + m = (l.length : Int) → flqref19_ValidLog_L0 l m i = bif (l.drop i.toNat).all tk then .brk () else .ret false
  | 0, i, h0, h1 => by rw [dropNil l h0 (by omega)]; rfl
  | m + 1, i, h0, h1 => by
    rw [rv_L0s, dropCons l default h0 (by omega), rv_L0 l m (i + 1) (by omega) (by omega), List.all_cons]
    all_goals (cases tk (l.getD i.toNat default) <;> rfl)
theorem rv_L2 (l : List GTurn) (done : List Int) (i : Int) : ∀ (m : Nat) (k : Int), 0 ≤ k → k + m = (done.length : Int) → flqref19_ValidLog_L2 l done i m k = bif (done.drop k.toNat).any (fun q => q == (l.getD i.toNat default).Query) then .ret false else .brk ()
  | 0, k, h0, h1 => by rw [dropNil done h0 (by omega)]; rfl
  | m + 1, k, h0, h1 => by
    rw [flqref19_ValidLog_L2, dropCons done 0 h0 (by omega), rv_L2 l done i m (k + 1) (by omega) (by omega), List.any_cons]
    all_goals (cases (done.getD k.toNat 0 == (l.getD i.toNat default).Query) <;> rfl)
theorem rv_L1 (l : List GTurn) : ∀ (m : Nat) (d : List Int) (i : Int), 0 ≤ i → i + m = (l.length : Int) → flqref19_ValidLog_L1 l m d i = bif dnG d (l.drop i.toNat) then .brk () else .ret false
  | 0, d, i, h0, h1 => by rw [dropNil l h0 (by omega)]; rfl
  | m + 1, d, i, h0, h1 => by
    rw [flqref19_ValidLog_L1, dropCons l default h0 (by omega), rv_L2 l d i _ 0 (by omega) (by omega), dnG, rv_L1 l m _ (i + 1) (by omega) (by omega), rv_L1 l m _ (i + 1) (by omega) (by omega)]
    rw [show (0 : Int).toNat = 0 from rfl, List.drop_zero]
    cases d.any (fun q => q == (l.getD i.toNat default).Query)
    · cases (l.getD i.toNat default).Finished <;> rfl
    · rfl
theorem RValid_eq (l : List GTurn) : flqref19_ValidLog l = (decide ((l.length : Int) ≤ 4096) && (l.all tk && dnG [] l)) := by
  unfold flqref19_ValidLog
  rw [rv_L0 l _ 0 (by omega) (by omega), rv_L1 l _ [] 0 (by omega) (by omega), show (0 : Int).toNat = 0 from rfl, List.drop_zero]
  by_cases e : (4096 : Int) < (l.length : Int)
  · rw [decide_eq_true e, decide_eq_false (by omega)]; rfl
  · rw [decide_eq_false e, decide_eq_true (by omega)]
    all_goals (cases l.all tk <;> cases dnG [] l <;> rfl)
theorem RValid_len {l : List GTurn} (h : flqref19_ValidLog l = true) : l.length ≤ 4096 := by
  rw [RValid_eq, Bool.and_eq_true] at h
  have := of_decide_eq_true h.1
  omega
theorem RValid_ok {l : List GTurn} (h : flqref19_ValidLog l = true) : ∀ x ∈ l, LTok x := fun x hx => by
  rw [RValid_eq, Bool.and_eq_true, Bool.and_eq_true] at h
  exact tk_ok (List.all_eq_true.1 h.2.1 x hx)
theorem Valid23_eq (l : List GTurn) : ledger_Valid l = flqref19_ValidLog l := by
  rw [LValid_eq, RValid_eq, lvG_eq l [] [] (fun q => rfl)]
theorem Len_ok {x : BitVec 64} (h : x.toNat ≤ 65535) : 0 ≤ bits_Len x ∧ bits_Len x ≤ 16 ∧ (x.toNat = 0 ∨ 2 ^ (bits_Len x).toNat ≤ 2 * x.toNat) := by
  unfold bits_Len bits_Len64
  try dsimp only
  by_cases c : (256 : Int) ≤ (x.toNat : Int)
  · rw [decide_eq_true c, cond_true]
    have e8 : (((8#64).toNat : Int)).toNat = 8 := by decide
    rw [e8]
    have e : (x >>> 8).toNat = x.toNat / 256 := by rw [BitVec.toNat_ushiftRight, Nat.shiftRight_eq_div_pow]
    have ek : (((x >>> 8).toNat : Int)).toNat = x.toNat / 256 := by rw [e]; omega
    rw [ek]
    obtain ⟨t1, t2⟩ := tab_at (k := x.toNat / 256) (by omega)
    refine ⟨by omega, by omega, .inr ?_⟩
    rcases t1 with t1 | t1
    · omega
    · rw [show (0 + 8 + (((tab0.b.getD (x.toNat / 256) 0).toNat : Nat) : Int)).toNat = 8 + (tab0.b.getD (x.toNat / 256) 0).toNat by omega, Nat.pow_add]
      omega
  · rw [decide_eq_false c, cond_false]
    have ek : ((x.toNat : Int)).toNat = x.toNat := by omega
    rw [ek]
    obtain ⟨t1, t2⟩ := tab_at (k := x.toNat) (by omega)
    refine ⟨by omega, by omega, ?_⟩
    rw [show (0 + (((tab0.b.getD x.toNat 0).toNat : Nat) : Int)).toNat = (tab0.b.getD x.toNat 0).toNat by omega]
    exact t1
theorem Len_f {x : BitVec 64} {r : Int} (h : bits_Len x = r) (hx : x.toNat ≤ 65535) : 0 ≤ r ∧ r ≤ 16 := by
  have := Len_ok hx; rw [h] at this; omega
theorem ins1g {cm : GAccount → GAccount → Int} : ∀ (r : Nat) (d : List GAccount) (j : Int), (slices_insertionSortCmpFunc_Account_L1 cm r d j).length = d.length
  | 0, d, j => by rw [slices_insertionSortCmpFunc_Account_L1]
  | r + 1, d, j => by
    rw [slices_insertionSortCmpFunc_Account_L1]
    try dsimp only
    cases decide (cm (d.getD j.toNat default) (d.getD (j - 1).toNat default) < 0)
    · rfl
    · rw [cond_true, ins1g r]; simp
theorem ins0g {a : Int} {cm : GAccount → GAccount → Int} : ∀ (r : Nat) (d : List GAccount) (i : Int), (slices_insertionSortCmpFunc_Account_L0 a cm r d i).length = d.length
  | 0, d, i => by rw [slices_insertionSortCmpFunc_Account_L0]
  | r + 1, d, i => by
    rw [slices_insertionSortCmpFunc_Account_L0]
    try dsimp only
    rw [ins0g r, ins1g]
theorem ins_len {cm : GAccount → GAccount → Int} {d : List GAccount} {a b : Int} : (slices_insertionSortCmpFunc_Account d a b cm).length = d.length := by
  unfold slices_insertionSortCmpFunc_Account
  exact ins0g _ _ _
theorem sift_l {cm : GAccount → GAccount → Int} {hi f : Int} : ∀ (r : Nat) (d : List GAccount) (rt : Int), hi - rt < (r : Int) → 0 < r → 0 ≤ rt → ∃ d', d'.length = d.length ∧ (slices_siftDownCmpFunc_Account_L0 hi f cm r d rt = .brk d' ∨ slices_siftDownCmpFunc_Account_L0 hi f cm r d rt = .ret d')
  | 0, d, rt, hr, hr0, hl => by omega
  | r + 1, d, rt, hr, hr0, hl => by
    rw [slices_siftDownCmpFunc_Account_L0]
    try dsimp only
    by_cases c1 : hi ≤ 2 * rt + 1
    · rw [decide_eq_true c1]; exact ⟨d, rfl, .inl rfl⟩
    · rw [decide_eq_false c1, cond_false]
      have g1 : ∀ i j : Nat, ∀ x y, ∃ d', d'.length = d.length ∧ (slices_siftDownCmpFunc_Account_L0 hi f cm r ((d.set i x).set j y) (2 * rt + 1) = .brk d' ∨ slices_siftDownCmpFunc_Account_L0 hi f cm r ((d.set i x).set j y) (2 * rt + 1) = .ret d') := fun i j x y => by
        obtain ⟨d', k1, k2⟩ := sift_l (cm := cm) (hi := hi) (f := f) r ((d.set i x).set j y) (2 * rt + 1) (by omega) (by omega) (by omega)
        exact ⟨d', by rw [k1]; simp, k2⟩
      have g2 : ∀ i j : Nat, ∀ x y, ∃ d', d'.length = d.length ∧ (slices_siftDownCmpFunc_Account_L0 hi f cm r ((d.set i x).set j y) (2 * rt + 1 + 1) = .brk d' ∨ slices_siftDownCmpFunc_Account_L0 hi f cm r ((d.set i x).set j y) (2 * rt + 1 + 1) = .ret d') := fun i j x y => by
        obtain ⟨d', k1, k2⟩ := sift_l (cm := cm) (hi := hi) (f := f) r ((d.set i x).set j y) (2 * rt + 1 + 1) (by omega) (by omega) (by omega)
        exact ⟨d', by rw [k1]; simp, k2⟩
      have g3 : ∀ (c : Bool) (X : LR (List GAccount) (List GAccount)), (∃ d', d'.length = d.length ∧ (X = .brk d' ∨ X = .ret d')) → ∃ d', d'.length = d.length ∧ ((bif !c then .ret d else X) = .brk d' ∨ (bif !c then .ret d else X) = .ret d') := fun c X hX => by cases c; exact ⟨d, rfl, .inr rfl⟩; exact hX
      cases decide (2 * rt + 1 + 1 < hi)
      · exact g3 _ _ (g1 _ _ _ _)
      · cases decide (cm (d.getD (f + (2 * rt + 1)).toNat default) (d.getD (f + (2 * rt + 1) + 1).toNat default) < 0)
        · exact g3 _ _ (g1 _ _ _ _)
        · exact g3 _ _ (g2 _ _ _ _)
theorem sift_len {cm : GAccount → GAccount → Int} {d : List GAccount} {lo hi f : Int} (hl : 0 ≤ lo) : (slices_siftDownCmpFunc_Account d lo hi f cm).length = d.length := by
  obtain ⟨d', k1, k2⟩ := sift_l (cm := cm) (hi := hi) (f := f) (hi.toNat + 1) d lo (by omega) (by omega) hl
  unfold slices_siftDownCmpFunc_Account
  rcases k2 with k2 | k2 <;> rw [k2] <;> exact k1
theorem sift_t {cm : GAccount → GAccount → Int} {hi f : Int} : ∀ (r : Nat) (d : List GAccount) (rt : Int), hi - rt < (r : Int) → 0 < r → 0 ≤ rt → slices_siftDownCmpFunc_Account_L0 hi f cm r d rt ≠ .oof
  | 0, d, rt, hr, hr0, hl => by omega
  | r + 1, d, rt, hr, hr0, hl => by
    rw [slices_siftDownCmpFunc_Account_L0]
    try dsimp only
    by_cases c1 : hi ≤ 2 * rt + 1
    · rw [decide_eq_true c1]; intro h; cases h
    · rw [decide_eq_false c1, cond_false]
      have g1 : ∀ d', slices_siftDownCmpFunc_Account_L0 hi f cm r d' (2 * rt + 1) ≠ .oof := fun d' => sift_t r d' _ (by omega) (by omega) (by omega)
      have g2 : ∀ d', slices_siftDownCmpFunc_Account_L0 hi f cm r d' (2 * rt + 1 + 1) ≠ .oof := fun d' => sift_t r d' _ (by omega) (by omega) (by omega)
      have g3 : ∀ (c : Bool) (d' : List GAccount) (X : LR (List GAccount) (List GAccount)), X ≠ .oof → (bif !c then .ret d' else X) ≠ .oof := fun c d' X hX => by cases c; (intro h; cases h); exact hX
      cases decide (2 * rt + 1 + 1 < hi)
      · exact g3 _ _ _ (g1 _)
      · cases decide (cm (d.getD (f + (2 * rt + 1)).toNat default) (d.getD (f + (2 * rt + 1) + 1).toNat default) < 0)
        · exact g3 _ _ _ (g1 _)
        · exact g3 _ _ _ (g2 _)
theorem heap0_l {cm : GAccount → GAccount → Int} {a b : Int} : ∀ (r : Nat) (d : List GAccount) (i : Int), i + 1 < (r : Int) → 0 < r → ∃ d', slices_heapSortCmpFunc_Account_L0 a b cm r d i = .brk d' ∧ d'.length = d.length
  | 0, d, i, hr, hr0 => by omega
  | r + 1, d, i, hr, hr0 => by
    rw [slices_heapSortCmpFunc_Account_L0]
    by_cases c : 0 ≤ i
    · rw [decide_eq_true c, cond_true]
      obtain ⟨d', k1, k2⟩ := heap0_l (cm := cm) (a := a) (b := b) r (slices_siftDownCmpFunc_Account d i (b - a) a cm) (i - 1) (by omega) (by omega)
      exact ⟨d', k1, by rw [k2, sift_len c]⟩
    · rw [decide_eq_false c]; exact ⟨d, rfl, rfl⟩
theorem heap1_l {cm : GAccount → GAccount → Int} {a : Int} : ∀ (r : Nat) (d : List GAccount) (i : Int), i + 1 < (r : Int) → 0 < r → ∃ d', slices_heapSortCmpFunc_Account_L1 a cm r d i = .brk d' ∧ d'.length = d.length
  | 0, d, i, hr, hr0 => by omega
  | r + 1, d, i, hr, hr0 => by
    rw [slices_heapSortCmpFunc_Account_L1]
    by_cases c : 0 ≤ i
    · rw [decide_eq_true c, cond_true]
      obtain ⟨d', k1, k2⟩ := heap1_l (cm := cm) (a := a) r (slices_siftDownCmpFunc_Account (swp default d a (a + i)) 0 i a cm) (i - 1) (by omega) (by omega)
      exact ⟨d', k1, by rw [k2, sift_len (by omega), swp_len]⟩
    · rw [decide_eq_false c]; exact ⟨d, rfl, rfl⟩
theorem heap_len {cm : GAccount → GAccount → Int} {d : List GAccount} {a b : Int} : (slices_heapSortCmpFunc_Account d a b cm).length = d.length := by
  obtain ⟨d1, k1, k2⟩ := heap0_l (cm := cm) (a := a) (b := b) ((b - a).toNat + 1) d ((b - a - 1) / 2) (by omega) (by omega)
  obtain ⟨d2, m1, m2⟩ := heap1_l (cm := cm) (a := a) ((b - a).toNat + 1) d1 (b - a - 1) (by omega) (by omega)
  unfold slices_heapSortCmpFunc_Account
  rw [k1]; dsimp only; rw [m1]
  exact m2.trans k2
theorem heap0_t {cm : GAccount → GAccount → Int} {a b : Int} : ∀ (r : Nat) (d : List GAccount) (i : Int), i + 1 < (r : Int) → 0 < r → slices_heapSortCmpFunc_Account_L0 a b cm r d i ≠ .oof
  | 0, d, i, hr, hr0 => by omega
  | r + 1, d, i, hr, hr0 => by
    rw [slices_heapSortCmpFunc_Account_L0]
    by_cases c : 0 ≤ i
    · rw [decide_eq_true c, cond_true]; exact heap0_t r _ _ (by omega) (by omega)
    · rw [decide_eq_false c]; intro h; cases h
theorem heap1_t {cm : GAccount → GAccount → Int} {a : Int} : ∀ (r : Nat) (d : List GAccount) (i : Int), i + 1 < (r : Int) → 0 < r → slices_heapSortCmpFunc_Account_L1 a cm r d i ≠ .oof
  | 0, d, i, hr, hr0 => by omega
  | r + 1, d, i, hr, hr0 => by
    rw [slices_heapSortCmpFunc_Account_L1]
    by_cases c : 0 ≤ i
    · rw [decide_eq_true c, cond_true]; exact heap1_t r _ _ (by omega) (by omega)
    · rw [decide_eq_false c]; intro h; cases h
theorem npt_ok {l : Int} (h : 1 ≤ l ∧ l ≤ 65535) : 1 ≤ (slices_nextPowerOfTwo l).toNat ∧ (slices_nextPowerOfTwo l).toNat ≤ 2 * l.toNat := by
  have e := ofI_nat (l := l) (by omega)
  obtain ⟨h1, h2, h3⟩ := Len_ok (x := BitVec.ofInt 64 l) (by omega)
  unfold slices_nextPowerOfTwo
  try dsimp only
  generalize bits_Len (BitVec.ofInt 64 l) = n at *
  have ep : (1#64 <<< n.toNat).toNat = 2 ^ n.toNat := by
    rw [BitVec.toNat_shiftLeft]
    have : 2 ^ n.toNat ≤ 2 ^ 16 := Nat.pow_le_pow_right (by omega) (by omega)
    rw [Nat.shiftLeft_eq, Nat.mod_eq_of_lt (by simp; omega)]
    simp
  rw [ep]
  have := Nat.one_le_two_pow (n := n.toNat)
  omega
theorem npt_f {l : Int} {r : BitVec 64} (h : slices_nextPowerOfTwo l = r) (hl : 1 ≤ l ∧ l ≤ 65535) : 1 ≤ r.toNat ∧ r.toNat ≤ 2 * l.toNat := h ▸ npt_ok hl
theorem bp0 {a b : Int} {m : BitVec 64} (h0 : 0 ≤ a) (hl : 8 ≤ b - a) (hm : 1 ≤ m.toNat ∧ m.toNat ≤ 2 * (b - a).toNat) : ∀ (r : Nat) (d : List GAccount) (x : BitVec 64) (i : Int), a + (b - a) / 4 * 2 + 2 - i < (r : Int) → 0 < r → a + (b - a) / 4 * 2 - 1 ≤ i → b ≤ (d.length : Int) →
    ∃ d', slices_breakPatternsCmpFunc_Account_L0 a b m r d x i = .brk d' ∧ PI default d d' a b
  | 0, d, x, i, hr, hr0, hi, hb => by omega
  | r + 1, d, x, i, hr, hr0, hi, hb => by
    rw [slices_breakPatternsCmpFunc_Account_L0]
    by_cases c : i ≤ a + (b - a) / 4 * 2 + 1
    · simp only [decide_eq_true c, cond_true]
      have ha := and_lt (x := (xorshift_Next x).1) (m := m) hm.1
      generalize ((xorshift_Next x).1 &&& (m - 1#64)).toNat = o at *
      by_cases c2 : b - a ≤ (o : Int)
      · simp only [decide_eq_true c2, cond_true]
        obtain ⟨d', k1, k2⟩ := bp0 h0 hl hm r (swp default d i (a + ((o : Int) - (b - a)))) (xorshift_Next x).2 (i + 1) (by omega) (by omega) (by omega) (by rw [swp_len]; exact hb)
        exact ⟨d', k1, (PI.swp default (d := d) (a := a) (b := b) (i := i) (j := a + ((o : Int) - (b - a))) h0 hb (by omega) (by omega)).trans default k2⟩
      · simp only [decide_eq_false c2, cond_false]
        obtain ⟨d', k1, k2⟩ := bp0 h0 hl hm r (swp default d i (a + (o : Int))) (xorshift_Next x).2 (i + 1) (by omega) (by omega) (by omega) (by rw [swp_len]; exact hb)
        exact ⟨d', k1, (PI.swp default (d := d) (a := a) (b := b) (i := i) (j := a + (o : Int)) h0 hb (by omega) (by omega)).trans default k2⟩
    · simp only [decide_eq_false c, cond_false]
      exact ⟨d, rfl, PI.refl _ _ _ _⟩
theorem bp_ok {cm : GAccount → GAccount → Int} {d : List GAccount} {a b : Int} (h0 : 0 ≤ a) (hl : 8 ≤ b - a) (hb : b ≤ (d.length : Int)) (hd : d.length ≤ 65535) : PI default d (slices_breakPatternsCmpFunc_Account d a b cm) a b := by
  unfold slices_breakPatternsCmpFunc_Account
  simp only [decide_eq_true hl, cond_true]
  obtain ⟨d', k1, k2⟩ := bp0 (a := a) (b := b) h0 hl (npt_ok (by omega)) 4 d (BitVec.ofInt 64 (b - a)) (a + (b - a) / 4 * 2 - 1) (by omega) (by omega) (by omega) hb
  rw [k1]; exact k2
theorem bp_t {a b : Int} {m : BitVec 64} : ∀ (r : Nat) (d : List GAccount) (x : BitVec 64) (i : Int), a + (b - a) / 4 * 2 + 2 - i < (r : Int) → 0 < r → slices_breakPatternsCmpFunc_Account_L0 a b m r d x i ≠ .oof
  | 0, d, x, i, hr, hr0 => by omega
  | r + 1, d, x, i, hr, hr0 => by
    rw [slices_breakPatternsCmpFunc_Account_L0]
    by_cases c : i ≤ a + (b - a) / 4 * 2 + 1
    · simp only [decide_eq_true c, cond_true]
      by_cases c2 : b - a ≤ ((((xorshift_Next x).1 &&& (m - 1#64)).toNat : Nat) : Int)
      · rw [decide_eq_true c2, cond_true]; exact bp_t r _ _ _ (by omega) (by omega)
      · rw [decide_eq_false c2, cond_false]; exact bp_t r _ _ _ (by omega) (by omega)
    · rw [decide_eq_false c]; intro h; cases h
theorem ord2 {cm : GAccount → GAccount → Int} (d : List GAccount) (a b s : Int) : ((slices_order2CmpFunc_Account d a b s cm).1 = a ∧ (slices_order2CmpFunc_Account d a b s cm).2.1 = b) ∨ ((slices_order2CmpFunc_Account d a b s cm).1 = b ∧ (slices_order2CmpFunc_Account d a b s cm).2.1 = a) := by
  unfold slices_order2CmpFunc_Account
  try dsimp only
  cases decide (cm (d.getD b.toNat default) (d.getD a.toNat default) < 0)
  · exact .inl ⟨rfl, rfl⟩
  · exact .inr ⟨rfl, rfl⟩
theorem med_ok {cm : GAccount → GAccount → Int} (d : List GAccount) (a b c s : Int) : (slices_medianCmpFunc_Account d a b c s cm).1 = a ∨ (slices_medianCmpFunc_Account d a b c s cm).1 = b ∨ (slices_medianCmpFunc_Account d a b c s cm).1 = c := by
  unfold slices_medianCmpFunc_Account
  try dsimp only
  have h1 := ord2 (cm := cm) d a b s
  generalize slices_order2CmpFunc_Account d a b s cm = r1 at *
  have h2 := ord2 (cm := cm) d r1.2.1 c r1.2.2
  generalize slices_order2CmpFunc_Account d r1.2.1 c r1.2.2 cm = r2 at *
  have h3 := ord2 (cm := cm) d r1.1 r2.1 r2.2.2
  generalize slices_order2CmpFunc_Account d r1.1 r2.1 r2.2.2 cm = r3 at *
  omega
theorem cp_rng {cm : GAccount → GAccount → Int} (d : List GAccount) {a b : Int} (h : 8 ≤ b - a) : a ≤ (slices_choosePivotCmpFunc_Account d a b cm).1 ∧ (slices_choosePivotCmpFunc_Account d a b cm).1 < b := by
  unfold slices_choosePivotCmpFunc_Account slices_medianAdjacentCmpFunc_Account
  try dsimp only
  rw [decide_eq_true h, cond_true]
  by_cases c : 50 ≤ b - a
  · rw [decide_eq_true c, cond_true]
    have m1 := med_ok (cm := cm) d (a + (b - a) / 4 * 1 - 1) (a + (b - a) / 4 * 1) (a + (b - a) / 4 * 1 + 1) 0
    generalize slices_medianCmpFunc_Account d (a + (b - a) / 4 * 1 - 1) (a + (b - a) / 4 * 1) (a + (b - a) / 4 * 1 + 1) 0 cm = q1 at *
    have m2 := med_ok (cm := cm) d (a + (b - a) / 4 * 2 - 1) (a + (b - a) / 4 * 2) (a + (b - a) / 4 * 2 + 1) q1.2
    generalize slices_medianCmpFunc_Account d (a + (b - a) / 4 * 2 - 1) (a + (b - a) / 4 * 2) (a + (b - a) / 4 * 2 + 1) q1.2 cm = q2 at *
    have m3 := med_ok (cm := cm) d (a + (b - a) / 4 * 3 - 1) (a + (b - a) / 4 * 3) (a + (b - a) / 4 * 3 + 1) q2.2
    generalize slices_medianCmpFunc_Account d (a + (b - a) / 4 * 3 - 1) (a + (b - a) / 4 * 3) (a + (b - a) / 4 * 3 + 1) q2.2 cm = q3 at *
    have m4 := med_ok (cm := cm) d q1.1 q2.1 q3.1 q3.2
    generalize slices_medianCmpFunc_Account d q1.1 q2.1 q3.1 q3.2 cm = q4 at *
    have hq : a ≤ q4.1 ∧ q4.1 < b := by
      have b1 : a ≤ q1.1 ∧ q1.1 < b := by omega
      have b2 : a ≤ q2.1 ∧ q2.1 < b := by omega
      have b3 : a ≤ q3.1 ∧ q3.1 < b := by omega
      clear m1 m2 m3
      rcases m4 with e | e | e <;> rw [e] <;> assumption
    cases q4.2 == 0
    · cases q4.2 == 12 <;> exact hq
    · exact hq
  · rw [decide_eq_false c, cond_false]
    have m4 := med_ok (cm := cm) d (a + (b - a) / 4 * 1) (a + (b - a) / 4 * 2) (a + (b - a) / 4 * 3) 0
    generalize slices_medianCmpFunc_Account d (a + (b - a) / 4 * 1) (a + (b - a) / 4 * 2) (a + (b - a) / 4 * 3) 0 cm = q4 at *
    have hq : a ≤ q4.1 ∧ q4.1 < b := by omega
    cases q4.2 == 0
    · cases q4.2 == 12 <;> exact hq
    · exact hq
theorem rev0 {a b : Int} (h0 : 0 ≤ a) : ∀ (r : Nat) (d : List GAccount) (i j : Int), j - i < (r : Int) → 0 < r → a ≤ i → j < b → b ≤ (d.length : Int) → ∃ d', slices_reverseRangeCmpFunc_Account_L0 r d i j = .brk d' ∧ PI default d d' a b
  | 0, d, i, j, hr, hr0, hi, hj, hb => by omega
  | r + 1, d, i, j, hr, hr0, hi, hj, hb => by
    rw [slices_reverseRangeCmpFunc_Account_L0]
    by_cases c : i < j
    · simp only [decide_eq_true c, cond_true]
      obtain ⟨d', k1, k2⟩ := rev0 (b := b) h0 r (swp default d i j) (i + 1) (j - 1) (by omega) (by omega) (by omega) (by omega) (by rw [swp_len]; exact hb)
      exact ⟨d', k1, (PI.swp default (d := d) (a := a) (b := b) (i := i) (j := j) h0 hb (by omega) (by omega)).trans default k2⟩
    · simp only [decide_eq_false c, cond_false]
      exact ⟨d, rfl, PI.refl _ _ _ _⟩
theorem rev_ok {cm : GAccount → GAccount → Int} {d : List GAccount} {a b : Int} (h0 : 0 ≤ a) (hab : a ≤ b) (hb : b ≤ (d.length : Int)) : PI default d (slices_reverseRangeCmpFunc_Account d a b cm) a b := by
  obtain ⟨d', k1, k2⟩ := rev0 (b := b) h0 ((b - a).toNat + 1) d a (b - 1) (by omega) (by omega) (Int.le_refl _) (by omega) hb
  unfold slices_reverseRangeCmpFunc_Account
  rw [k1]; exact k2
theorem rev_t : ∀ (r : Nat) (d : List GAccount) (i j : Int), j - i < (r : Int) → 0 < r → slices_reverseRangeCmpFunc_Account_L0 r d i j ≠ .oof
  | 0, d, i, j, hr, hr0 => by omega
  | r + 1, d, i, j, hr, hr0 => by
    rw [slices_reverseRangeCmpFunc_Account_L0]
    by_cases c : i < j
    · rw [decide_eq_true c, cond_true]; exact rev_t r _ _ _ (by omega) (by omega)
    · rw [decide_eq_false c]; intro h; cases h
theorem pin2_t {cm : GAccount → GAccount → Int} : ∀ (r : Nat) (d : List GAccount) (j : Int), j < (r : Int) → 0 < r → slices_partialInsertionSortCmpFunc_Account_L2 cm r d j ≠ .oof
  | 0, d, j, hr, hr0 => by omega
  | r + 1, d, j, hr, hr0 => by
    rw [slices_partialInsertionSortCmpFunc_Account_L2]
    by_cases c : 1 ≤ j
    · simp only [decide_eq_true c, cond_true]
      cases decide (cm (d.getD j.toNat default) (d.getD (j - 1).toNat default) < 0)
      · intro h; cases h
      · exact pin2_t r _ _ (by omega) (by omega)
    · rw [decide_eq_false c]; intro h; cases h
theorem pin2_l {cm : GAccount → GAccount → Int} : ∀ (r : Nat) (d : List GAccount) (j : Int), j < (r : Int) → 0 < r → ∃ d', slices_partialInsertionSortCmpFunc_Account_L2 cm r d j = .brk d' ∧ d'.length = d.length
  | 0, d, j, hr, hr0 => by omega
  | r + 1, d, j, hr, hr0 => by
    rw [slices_partialInsertionSortCmpFunc_Account_L2]
    by_cases c : 1 ≤ j
    · simp only [decide_eq_true c, cond_true]
      cases decide (cm (d.getD j.toNat default) (d.getD (j - 1).toNat default) < 0)
      · exact ⟨d, rfl, rfl⟩
      · obtain ⟨d', k1, k2⟩ := pin2_l r ((d.set j.toNat (d.getD (j - 1).toNat default)).set (j - 1).toNat (d.getD j.toNat default)) (j - 1) (by omega) (by omega)
        exact ⟨d', k1, by rw [k2]; simp⟩
    · rw [decide_eq_false c]; exact ⟨d, rfl, rfl⟩
theorem pin3_l {cm : GAccount → GAccount → Int} : ∀ (r : Nat) (d : List GAccount) (j : Int), (slices_partialInsertionSortCmpFunc_Account_L3 cm r d j).length = d.length
  | 0, d, j => by rw [slices_partialInsertionSortCmpFunc_Account_L3]
  | r + 1, d, j => by
    rw [slices_partialInsertionSortCmpFunc_Account_L3]
    try dsimp only
    cases decide (cm (d.getD j.toNat default) (d.getD (j - 1).toNat default) < 0)
    · rfl
    · show (slices_partialInsertionSortCmpFunc_Account_L3 cm r _ (j + 1)).length = _
      rw [pin3_l r]; simp
theorem pin1_r {cm : GAccount → GAccount → Int} {b : Int} (d : List GAccount) : ∀ (r : Nat) (i : Int), (r : Int) = b - i → i ≤ slices_partialInsertionSortCmpFunc_Account_L1 cm d r i ∧ slices_partialInsertionSortCmpFunc_Account_L1 cm d r i ≤ b
  | 0, i, hr => by rw [slices_partialInsertionSortCmpFunc_Account_L1]; omega
  | r + 1, i, hr => by
    rw [slices_partialInsertionSortCmpFunc_Account_L1]
    try dsimp only
    cases decide (cm (d.getD i.toNat default) (d.getD (i - 1).toNat default) < 0)
    · have := pin1_r (cm := cm) (b := b) d r (i + 1) (by omega)
      rw [Bool.not_false, cond_true]; omega
    · rw [Bool.not_true, cond_false]; omega
theorem pin0_l {cm : GAccount → GAccount → Int} {a b : Int} (x : List GAccount) (hb : b ≤ (x.length : Int)) : ∀ (r : Nat) (d : List GAccount) (i j : Int), i ≤ b → d.length = x.length → ∃ d', d'.length = x.length ∧ (slices_partialInsertionSortCmpFunc_Account_L0 x a b cm r d i j = .brk d' ∨ ∃ t, slices_partialInsertionSortCmpFunc_Account_L0 x a b cm r d i j = .ret (t, d'))
  | 0, d, i, j, hib, hx => ⟨d, hx, .inl (by rw [slices_partialInsertionSortCmpFunc_Account_L0])⟩
  | r + 1, d, i, j, hib, hx => by
    rw [slices_partialInsertionSortCmpFunc_Account_L0]
    try dsimp only
    obtain ⟨m1, m2⟩ := pin1_r (b := b) d (b - i).toNat i (by omega)
    generalize slices_partialInsertionSortCmpFunc_Account_L1 cm d (b - i).toNat i = o at *
    have fin : ∀ d2 : List GAccount, d2.length = x.length → ∃ d', d'.length = x.length ∧ ((bif decide (2 ≤ b - o) then slices_partialInsertionSortCmpFunc_Account_L0 x a b cm r (slices_partialInsertionSortCmpFunc_Account_L3 cm (b - (o + 1)).toNat d2 (o + 1)) o (j + 1) else slices_partialInsertionSortCmpFunc_Account_L0 x a b cm r d2 o (j + 1)) = .brk d' ∨
        ∃ t, (bif decide (2 ≤ b - o) then slices_partialInsertionSortCmpFunc_Account_L0 x a b cm r (slices_partialInsertionSortCmpFunc_Account_L3 cm (b - (o + 1)).toNat d2 (o + 1)) o (j + 1) else slices_partialInsertionSortCmpFunc_Account_L0 x a b cm r d2 o (j + 1)) = .ret (t, d')) := fun d2 h2 => by
      cases decide (2 ≤ b - o)
      · exact pin0_l x hb r _ _ _ m2 h2
      · exact pin0_l x hb r _ _ _ m2 (by rw [pin3_l]; exact h2)
    cases o == b
    · cases decide (b - a < 50)
      · cases decide (2 ≤ o - a)
        · exact fin _ (by simp [hx])
        · obtain ⟨d2, k1, k2⟩ := pin2_l (x.length + 1) ((d.set o.toNat (d.getD (o - 1).toNat default)).set (o - 1).toNat (d.getD o.toNat default)) (o - 1) (by omega) (by omega)
          simp only [cond_false, cond_true]
          rw [k1]
          exact fin d2 (by rw [k2]; simp [hx])
      · exact ⟨d, hx, .inr ⟨false, rfl⟩⟩
    · exact ⟨d, hx, .inr ⟨true, rfl⟩⟩
theorem pin_l {cm : GAccount → GAccount → Int} {d : List GAccount} {a b : Int} (hab : a < b) (hb : b ≤ (d.length : Int)) : (slices_partialInsertionSortCmpFunc_Account d a b cm).2.length = d.length := by
  obtain ⟨d', k1, k2⟩ := pin0_l (a := a) (b := b) d hb 5 d (a + 1) 0 (by omega) rfl
  unfold slices_partialInsertionSortCmpFunc_Account
  rcases k2 with k2 | ⟨t, k2⟩ <;> rw [k2] <;> exact k1
theorem pe1g {cm : GAccount → GAccount → Int} (a : Int) (d : List GAccount) (j : Int) : ∀ (r : Nat) (i : Int), j + 1 - i < (r : Int) → 0 < r → ∃ i', slices_partitionEqualCmpFunc_Account_L1 a cm d j r i = .brk i' ∧ i ≤ i' ∧ (i' ≤ j + 1 ∨ i' = i)
  | 0, i, h, h0 => by omega
  | r + 1, i, h, h0 => by
    rw [slices_partitionEqualCmpFunc_Account_L1]
    by_cases c : i ≤ j
    · simp only [decide_eq_true c, cond_true]
      cases decide (cm (d.getD a.toNat default) (d.getD i.toNat default) < 0)
      · obtain ⟨i', m1, m2, m3⟩ := pe1g (cm := cm) a d j r (i + 1) (by omega) (by omega)
        exact ⟨i', m1, by omega, .inl (by omega)⟩
      · exact ⟨i, rfl, Int.le_refl _, .inr rfl⟩
    · simp only [decide_eq_false c, cond_false]
      exact ⟨i, rfl, Int.le_refl _, .inr rfl⟩
theorem pe2g {cm : GAccount → GAccount → Int} (a : Int) (d : List GAccount) (i : Int) : ∀ (r : Nat) (j : Int), j + 1 - i < (r : Int) → 0 < r → ∃ j', slices_partitionEqualCmpFunc_Account_L2 a cm d i r j = .brk j' ∧ j' ≤ j ∧ (i - 1 ≤ j' ∨ j' = j)
  | 0, j, h, h0 => by omega
  | r + 1, j, h, h0 => by
    rw [slices_partitionEqualCmpFunc_Account_L2]
    by_cases c : i ≤ j
    · simp only [decide_eq_true c, cond_true]
      cases decide (cm (d.getD a.toNat default) (d.getD j.toNat default) < 0)
      · exact ⟨j, rfl, Int.le_refl _, .inr rfl⟩
      · obtain ⟨j', m1, m2, m3⟩ := pe2g (cm := cm) a d i r (j - 1) (by omega) (by omega)
        exact ⟨j', m1, by omega, .inl (by omega)⟩
    · simp only [decide_eq_false c, cond_false]
      exact ⟨j, rfl, Int.le_refl _, .inr rfl⟩
theorem pe0g {cm : GAccount → GAccount → Int} {a b : Int} : ∀ (r : Nat) (d : List GAccount) (i j : Int), j + 1 - i < (r : Int) → 0 < r → a + 1 ≤ i → i ≤ b → i ≤ j + 2 → j ≤ b - 1 →
    ∃ d' i', slices_partitionEqualCmpFunc_Account_L0 a b cm r d i j = .brk (d', i') ∧ a + 1 ≤ i' ∧ i' ≤ b ∧ d'.length = d.length
  | 0, d, i, j, hr, hr0, hi, hib, hij, hj => by omega
  | r + 1, d, i, j, hr, hr0, hi, hib, hij, hj => by
    rw [slices_partitionEqualCmpFunc_Account_L0]
    obtain ⟨i', m1, m2, m3⟩ := pe1g (cm := cm) a d j ((b - a).toNat + 2) i (by omega) (by omega)
    obtain ⟨j', n1, n2, n3⟩ := pe2g (cm := cm) a d i' ((b - a).toNat + 2) j (by omega) (by omega)
    rw [m1]; dsimp only; rw [n1]; dsimp only
    by_cases c : j' < i'
    · rw [decide_eq_true c, cond_true]
      exact ⟨d, i', rfl, by omega, by omega, rfl⟩
    · rw [decide_eq_false c, cond_false]
      obtain ⟨d', q, k1, k2, k3, k4⟩ := pe0g (cm := cm) (a := a) (b := b) r (swp default d i' j') (i' + 1) (j' - 1) (by omega) (by omega) (by omega) (by omega) (by omega) (by omega)
      exact ⟨d', q, k1, k2, k3, by rw [k4, swp_len]⟩
theorem pe_okg {cm : GAccount → GAccount → Int} {d : List GAccount} {a b p : Int} (h0 : 0 ≤ a) (hp : a ≤ p ∧ p < b) (hb : b ≤ (d.length : Int)) : ∀ {r : Int × List GAccount}, slices_partitionEqualCmpFunc_Account d a b p cm = r → a < r.1 ∧ r.1 ≤ b ∧ r.2.length = d.length := fun {r} h => by
  subst h
  obtain ⟨d', q, k1, k2, k3, k4⟩ := pe0g (cm := cm) (a := a) (b := b) ((b - a).toNat + 2) (swp default d a p) (a + 1) (b - 1) (by omega) (by omega) (by omega) (by omega) (by omega) (by omega)
  unfold slices_partitionEqualCmpFunc_Account
  have e : (d.set a.toNat (d.getD p.toNat default)).set p.toNat (d.getD a.toNat default) = swp default d a p := rfl
  rw [e, k1]
  exact ⟨by show a < q; omega, k3, by rw [show _ = d'.length from rfl, k4, swp_len]⟩
theorem pe1_t {cm : GAccount → GAccount → Int} {a : Int} {d : List GAccount} {j : Int} {r : Nat} {i : Int} (h : j + 1 - i < (r : Int)) (h0 : 0 < r) : slices_partitionEqualCmpFunc_Account_L1 a cm d j r i ≠ .oof := by
  obtain ⟨_, e, _⟩ := pe1g (cm := cm) a d j r i h h0; exact brk_ne e
theorem pe2_t {cm : GAccount → GAccount → Int} {a : Int} {d : List GAccount} {i : Int} {r : Nat} {j : Int} (h : j + 1 - i < (r : Int)) (h0 : 0 < r) : slices_partitionEqualCmpFunc_Account_L2 a cm d i r j ≠ .oof := by
  obtain ⟨_, e, _⟩ := pe2g (cm := cm) a d i r j h h0; exact brk_ne e
theorem pe0_t {cm : GAccount → GAccount → Int} {a b : Int} : ∀ (r : Nat) (d : List GAccount) (i j : Int), j + 1 - i < (r : Int) → 0 < r → a + 1 ≤ i → i ≤ j + 2 → j ≤ b - 1 → slices_partitionEqualCmpFunc_Account_L0 a b cm r d i j ≠ .oof
  | 0, d, i, j, hr, hr0, hi, hij, hj => by omega
  | r + 1, d, i, j, hr, hr0, hi, hij, hj => by
    rw [slices_partitionEqualCmpFunc_Account_L0]
    obtain ⟨i', m1, m2, m3⟩ := pe1g (cm := cm) a d j ((b - a).toNat + 2) i (by omega) (by omega)
    obtain ⟨j', n1, n2, n3⟩ := pe2g (cm := cm) a d i' ((b - a).toNat + 2) j (by omega) (by omega)
    rw [m1]; dsimp only; rw [n1]; dsimp only
    by_cases c : j' < i'
    · rw [decide_eq_true c]; intro h; cases h
    · rw [decide_eq_false c, cond_false]; exact pe0_t r _ _ _ (by omega) (by omega) (by omega) (by omega) (by omega)
theorem pt0_eq {cm : GAccount → GAccount → Int} (d : List GAccount) (a b p : Int) : ∀ (r : Nat) (i : Int), slices_partitionCmpFunc_Account_L0 d a b p cm r i = slices_partitionCmpFunc_Account_L3 a cm (swp default d a p) (b - 1) r i
  | 0, i => by rw [slices_partitionCmpFunc_Account_L0, slices_partitionCmpFunc_Account_L3]
  | r + 1, i => by rw [slices_partitionCmpFunc_Account_L0, slices_partitionCmpFunc_Account_L3, pt0_eq (cm := cm) d a b p r]; rfl
theorem pt1_eq {cm : GAccount → GAccount → Int} (d : List GAccount) (a p i : Int) : ∀ (r : Nat) (j : Int), slices_partitionCmpFunc_Account_L1 d a p cm i r j = slices_partitionCmpFunc_Account_L4 a cm (swp default d a p) i r j
  | 0, j => by rw [slices_partitionCmpFunc_Account_L1, slices_partitionCmpFunc_Account_L4]
  | r + 1, j => by rw [slices_partitionCmpFunc_Account_L1, slices_partitionCmpFunc_Account_L4, pt1_eq (cm := cm) d a p i r]; rfl
theorem pt3g {cm : GAccount → GAccount → Int} (a : Int) (d : List GAccount) (j : Int) : ∀ (r : Nat) (i : Int), j + 1 - i < (r : Int) → 0 < r → ∃ i', slices_partitionCmpFunc_Account_L3 a cm d j r i = .brk i' ∧ i ≤ i' ∧ (i' ≤ j + 1 ∨ i' = i)
  | 0, i, h, h0 => by omega
  | r + 1, i, h, h0 => by
    rw [slices_partitionCmpFunc_Account_L3]
    by_cases c : i ≤ j
    · simp only [decide_eq_true c, cond_true]
      cases decide (cm (d.getD i.toNat default) (d.getD a.toNat default) < 0)
      · exact ⟨i, rfl, Int.le_refl _, .inr rfl⟩
      · obtain ⟨i', m1, m2, m3⟩ := pt3g (cm := cm) a d j r (i + 1) (by omega) (by omega)
        exact ⟨i', m1, by omega, .inl (by omega)⟩
    · simp only [decide_eq_false c, cond_false]
      exact ⟨i, rfl, Int.le_refl _, .inr rfl⟩
theorem pt4g {cm : GAccount → GAccount → Int} (a : Int) (d : List GAccount) (i : Int) : ∀ (r : Nat) (j : Int), j + 1 - i < (r : Int) → 0 < r → ∃ j', slices_partitionCmpFunc_Account_L4 a cm d i r j = .brk j' ∧ j' ≤ j ∧ (i - 1 ≤ j' ∨ j' = j)
  | 0, j, h, h0 => by omega
  | r + 1, j, h, h0 => by
    rw [slices_partitionCmpFunc_Account_L4]
    by_cases c : i ≤ j
    · simp only [decide_eq_true c, cond_true]
      cases decide (cm (d.getD j.toNat default) (d.getD a.toNat default) < 0)
      · obtain ⟨j', m1, m2, m3⟩ := pt4g (cm := cm) a d i r (j - 1) (by omega) (by omega)
        exact ⟨j', m1, by omega, .inl (by omega)⟩
      · exact ⟨j, rfl, Int.le_refl _, .inr rfl⟩
    · simp only [decide_eq_false c, cond_false]
      exact ⟨j, rfl, Int.le_refl _, .inr rfl⟩
theorem pt2g {cm : GAccount → GAccount → Int} {a b : Int} : ∀ (r : Nat) (d : List GAccount) (i j : Int), j + 1 - i < (r : Int) → 0 < r → a + 1 ≤ i → i ≤ j + 2 → a ≤ j → j ≤ b - 1 →
    ∃ d' j', slices_partitionCmpFunc_Account_L2 a b cm r d i j = .brk (d', j') ∧ a ≤ j' ∧ j' ≤ b - 1 ∧ d'.length = d.length
  | 0, d, i, j, hr, hr0, hi, hij, haj, hj => by omega
  | r + 1, d, i, j, hr, hr0, hi, hij, haj, hj => by
    rw [slices_partitionCmpFunc_Account_L2]
    obtain ⟨i', m1, m2, m3⟩ := pt3g (cm := cm) a d j ((b - a).toNat + 2) i (by omega) (by omega)
    obtain ⟨j', n1, n2, n3⟩ := pt4g (cm := cm) a d i' ((b - a).toNat + 2) j (by omega) (by omega)
    rw [m1]; dsimp only; rw [n1]; dsimp only
    by_cases c : j' < i'
    · rw [decide_eq_true c, cond_true]
      exact ⟨d, j', rfl, by omega, by omega, rfl⟩
    · rw [decide_eq_false c, cond_false]
      obtain ⟨d', q, k1, k2, k3, k4⟩ := pt2g (cm := cm) (a := a) (b := b) r (swp default d i' j') (i' + 1) (j' - 1) (by omega) (by omega) (by omega) (by omega) (by omega) (by omega)
      exact ⟨d', q, k1, k2, k3, by rw [k4, swp_len]⟩
theorem pt_okg {cm : GAccount → GAccount → Int} {d : List GAccount} {a b p : Int} (h0 : 0 ≤ a) (hp : a ≤ p ∧ p < b) (hb : b ≤ (d.length : Int)) : ∀ {r : Int × Bool × List GAccount}, slices_partitionCmpFunc_Account d a b p cm = r → a ≤ r.1 ∧ r.1 < b ∧ r.2.2.length = d.length := fun {r} h => by
  subst h
  have e : (d.set a.toNat (d.getD p.toNat default)).set p.toNat (d.getD a.toNat default) = swp default d a p := rfl
  unfold slices_partitionCmpFunc_Account
  rw [pt0_eq]
  simp only [pt1_eq, e]
  have hl : (swp default d a p).length = d.length := swp_len default _ _ _
  generalize swp default d a p = d0 at hl
  obtain ⟨i', m1, m2, m3⟩ := pt3g (cm := cm) a d0 (b - 1) ((b - a).toNat + 2) (a + 1) (by omega) (by omega)
  rw [m1]; dsimp only
  obtain ⟨j', n1, n2, n3⟩ := pt4g (cm := cm) a d0 i' ((b - a).toNat + 2) (b - 1) (by omega) (by omega)
  rw [n1]; dsimp only
  by_cases c : j' < i'
  · rw [decide_eq_true c, cond_true]
    exact ⟨by omega, by omega, by simp [hl]⟩
  · rw [decide_eq_false c, cond_false]
    obtain ⟨d', q, k1, k2, k3, k4⟩ := pt2g (cm := cm) (a := a) (b := b) ((b - a).toNat + 2) (swp default d0 i' j') (i' + 1) (j' - 1) (by omega) (by omega) (by omega) (by omega) (by omega) (by omega)
    have e2 : (d0.set i'.toNat (d0.getD j'.toNat default)).set j'.toNat (d0.getD i'.toNat default) = swp default d0 i' j' := rfl
    rw [e2, k1]; dsimp only
    exact ⟨by omega, by omega, by simp [k4, swp_len, hl]⟩
theorem pt3_t {cm : GAccount → GAccount → Int} {a : Int} {d : List GAccount} {j : Int} {r : Nat} {i : Int} (h : j + 1 - i < (r : Int)) (h0 : 0 < r) : slices_partitionCmpFunc_Account_L3 a cm d j r i ≠ .oof := by
  obtain ⟨_, e, _⟩ := pt3g (cm := cm) a d j r i h h0; exact brk_ne e
theorem pt4_t {cm : GAccount → GAccount → Int} {a : Int} {d : List GAccount} {i : Int} {r : Nat} {j : Int} (h : j + 1 - i < (r : Int)) (h0 : 0 < r) : slices_partitionCmpFunc_Account_L4 a cm d i r j ≠ .oof := by
  obtain ⟨_, e, _⟩ := pt4g (cm := cm) a d i r j h h0; exact brk_ne e
theorem pt0_t {cm : GAccount → GAccount → Int} {d : List GAccount} {a b p : Int} {r : Nat} {i : Int} (h : b - i < (r : Int)) (h0 : 0 < r) : slices_partitionCmpFunc_Account_L0 d a b p cm r i ≠ .oof := by
  rw [pt0_eq]; exact pt3_t (by omega) h0
theorem pt1_t {cm : GAccount → GAccount → Int} {d : List GAccount} {a p i : Int} {r : Nat} {j : Int} (h : j + 1 - i < (r : Int)) (h0 : 0 < r) : slices_partitionCmpFunc_Account_L1 d a p cm i r j ≠ .oof := by
  rw [pt1_eq]; exact pt4_t h h0
theorem pt2_t {cm : GAccount → GAccount → Int} {a b : Int} : ∀ (r : Nat) (d : List GAccount) (i j : Int), j + 1 - i < (r : Int) → 0 < r → a + 1 ≤ i → i ≤ j + 2 → j ≤ b - 1 → slices_partitionCmpFunc_Account_L2 a b cm r d i j ≠ .oof
  | 0, d, i, j, hr, hr0, hi, hij, hj => by omega
  | r + 1, d, i, j, hr, hr0, hi, hij, hj => by
    rw [slices_partitionCmpFunc_Account_L2]
    obtain ⟨i', m1, m2, m3⟩ := pt3g (cm := cm) a d j ((b - a).toNat + 2) i (by omega) (by omega)
    obtain ⟨j', n1, n2, n3⟩ := pt4g (cm := cm) a d i' ((b - a).toNat + 2) j (by omega) (by omega)
    rw [m1]; dsimp only; rw [n1]; dsimp only
    by_cases c : j' < i'
    · rw [decide_eq_true c]; intro h; cases h
    · rw [decide_eq_false c, cond_false]; exact pt2_t r _ _ _ (by omega) (by omega) (by omega) (by omega) (by omega)
def pdT (cm : GAccount → GAccount → Int) (rc : List GAccount → Int → Int → Int → (GAccount → GAccount → Int) → List GAccount) (r : Nat) (a b lim : Int) (d : List GAccount) (p : Int) : LR Unit (List GAccount) :=
  bif decide (((slices_partitionCmpFunc_Account d a b p cm).1 - a) < (b - (slices_partitionCmpFunc_Account d a b p cm).1)) then
    slices_pdqsortCmpFunc_Account_F_L0 rc cm r (rc (slices_partitionCmpFunc_Account d a b p cm).2.2 a (slices_partitionCmpFunc_Account d a b p cm).1 lim cm) ((slices_partitionCmpFunc_Account d a b p cm).1 + 1) b lim (decide (((b - a) / 8) ≤ ((slices_partitionCmpFunc_Account d a b p cm).1 - a))) (slices_partitionCmpFunc_Account d a b p cm).2.1
  else
    slices_pdqsortCmpFunc_Account_F_L0 rc cm r (rc (slices_partitionCmpFunc_Account d a b p cm).2.2 ((slices_partitionCmpFunc_Account d a b p cm).1 + 1) b lim cm) a (slices_partitionCmpFunc_Account d a b p cm).1 lim (decide (((b - a) / 8) ≤ (b - (slices_partitionCmpFunc_Account d a b p cm).1))) (slices_partitionCmpFunc_Account d a b p cm).2.1
def pdS (cm : GAccount → GAccount → Int) (rc : List GAccount → Int → Int → Int → (GAccount → GAccount → Int) → List GAccount) (r : Nat) (a b lim : Int) (wb wp : Bool) (d : List GAccount) (p : Int) : LR Unit (List GAccount) :=
  bif decide (0 < a) then
    bif (!(decide (cm (d.getD ((a - 1) : Int).toNat default) (d.getD (p : Int).toNat default) < 0))) then
      slices_pdqsortCmpFunc_Account_F_L0 rc cm r (slices_partitionEqualCmpFunc_Account d a b p cm).2 (slices_partitionEqualCmpFunc_Account d a b p cm).1 b lim wb wp
    else pdT cm rc r a b lim d p
  else pdT cm rc r a b lim d p
def pdP (cm : GAccount → GAccount → Int) (rc : List GAccount → Int → Int → Int → (GAccount → GAccount → Int) → List GAccount) (r : Nat) (a b lim : Int) (wb wp : Bool) (d : List GAccount) (p : Int) : LR Unit (List GAccount) :=
  bif (slices_partialInsertionSortCmpFunc_Account d a b cm).1 then .ret (slices_partialInsertionSortCmpFunc_Account d a b cm).2 else pdS cm rc r a b lim wb wp (slices_partialInsertionSortCmpFunc_Account d a b cm).2 p
theorem pdL_eq {cm : GAccount → GAccount → Int} (rc : List GAccount → Int → Int → Int → (GAccount → GAccount → Int) → List GAccount) (r : Nat) (d : List GAccount) (a b lim : Int) (wb wp : Bool) : slices_pdqsortCmpFunc_Account_F_L0 rc cm (r + 1) d a b lim wb wp =
    (bif decide ((b - a) ≤ 12) then .ret (slices_insertionSortCmpFunc_Account d a b cm)
    else bif (lim == 0) then .ret (slices_heapSortCmpFunc_Account d a b cm)
    else bif (!wb) then
      (bif ((slices_choosePivotCmpFunc_Account (slices_breakPatternsCmpFunc_Account d a b cm) a b cm).2 == 2) then
        pdS cm rc r a b (lim - 1) wb wp (slices_reverseRangeCmpFunc_Account (slices_breakPatternsCmpFunc_Account d a b cm) a b cm) ((b - 1) - ((slices_choosePivotCmpFunc_Account (slices_breakPatternsCmpFunc_Account d a b cm) a b cm).1 - a))
      else pdS cm rc r a b (lim - 1) wb wp (slices_breakPatternsCmpFunc_Account d a b cm) (slices_choosePivotCmpFunc_Account (slices_breakPatternsCmpFunc_Account d a b cm) a b cm).1)
    else
      (bif ((slices_choosePivotCmpFunc_Account d a b cm).2 == 2) then
        (bif wp then pdP cm rc r a b lim wb wp (slices_reverseRangeCmpFunc_Account d a b cm) ((b - 1) - ((slices_choosePivotCmpFunc_Account d a b cm).1 - a))
        else pdS cm rc r a b lim wb wp (slices_reverseRangeCmpFunc_Account d a b cm) ((b - 1) - ((slices_choosePivotCmpFunc_Account d a b cm).1 - a)))
      else
        (bif wp then
          (bif ((slices_choosePivotCmpFunc_Account d a b cm).2 == 1) then pdP cm rc r a b lim wb wp d (slices_choosePivotCmpFunc_Account d a b cm).1
          else pdS cm rc r a b lim wb wp d (slices_choosePivotCmpFunc_Account d a b cm).1)
        else pdS cm rc r a b lim wb wp d (slices_choosePivotCmpFunc_Account d a b cm).1))) := by
  rw [slices_pdqsortCmpFunc_Account_F_L0]
  rfl
theorem pdl_l {cm : GAccount → GAccount → Int} {rc : List GAccount → Int → Int → Int → (GAccount → GAccount → Int) → List GAccount} {n N : Nat} (hN : N ≤ 65535)
    (hrc : ∀ (d : List GAccount) (a b lim : Int), 0 ≤ a → a ≤ b → b ≤ (d.length : Int) → d.length ≤ 65535 → (b - a).toNat < n → (rc d a b lim cm).length = d.length) :
    ∀ (r : Nat) (d : List GAccount) (a b lim : Int) (wb wp : Bool), b - a < (r : Int) → 0 < r → (b - a).toNat ≤ n → 0 ≤ a → a ≤ b → b ≤ (d.length : Int) → d.length = N →
      ∃ d', slices_pdqsortCmpFunc_Account_F_L0 rc cm r d a b lim wb wp = .ret d' ∧ d'.length = N
  | 0, d, a, b, lim, wb, wp, hr, hr0, hn, h0, hab, hb, hd => by omega
  | r + 1, d, a, b, lim, wb, wp, hr, hr0, hn, h0, hab, hb, hd => by
    rw [pdL_eq]
    by_cases c0 : b - a ≤ 12
    · rw [decide_eq_true c0, cond_true]
      exact ⟨_, rfl, by rw [ins_len]; exact hd⟩
    rw [decide_eq_false c0, cond_false]
    have fT : ∀ (lim : Int) (d : List GAccount) (p : Int), a ≤ p → p < b → b ≤ (d.length : Int) → d.length = N → ∃ d', pdT cm rc r a b lim d p = .ret d' ∧ d'.length = N := fun lim d p hp1 hp2 hb hd => by
      unfold pdT
      obtain ⟨m1, m2, e⟩ := pt_okg (cm := cm) (d := d) (a := a) (b := b) (p := p) h0 ⟨hp1, hp2⟩ hb rfl
      generalize slices_partitionCmpFunc_Account d a b p cm = q at *
      cases decide (q.1 - a < b - q.1)
      · have k := hrc q.2.2 (q.1 + 1) b lim (by omega) (by omega) (by omega) (by omega) (by omega)
        exact pdl_l hN hrc r _ _ _ _ _ _ (by omega) (by omega) (by omega) h0 m1 (by omega) (by omega)
      · have k := hrc q.2.2 a q.1 lim (by omega) (by omega) (by omega) (by omega) (by omega)
        exact pdl_l hN hrc r _ _ _ _ _ _ (by omega) (by omega) (by omega) (by omega) (by omega) (by omega) (by omega)
    have fS : ∀ (lim : Int) (d : List GAccount) (p : Int), a ≤ p → p < b → b ≤ (d.length : Int) → d.length = N → ∃ d', pdS cm rc r a b lim wb wp d p = .ret d' ∧ d'.length = N := fun lim d p hp1 hp2 hb hd => by
      unfold pdS
      cases decide (0 < a)
      · exact fT lim d p hp1 hp2 hb hd
      · cases decide (cm (d.getD (a - 1).toNat default) (d.getD p.toNat default) < 0)
        · obtain ⟨m1, m2, e⟩ := pe_okg (cm := cm) (d := d) (a := a) (b := b) (p := p) h0 ⟨hp1, hp2⟩ hb rfl
          generalize slices_partitionEqualCmpFunc_Account d a b p cm = q at *
          exact pdl_l hN hrc r _ _ _ _ _ _ (by omega) (by omega) (by omega) (by omega) (by omega) (by omega) (by omega)
        · exact fT lim d p hp1 hp2 hb hd
    have fP : ∀ (d : List GAccount) (p : Int), a ≤ p → p < b → b ≤ (d.length : Int) → d.length = N → ∃ d', pdP cm rc r a b lim wb wp d p = .ret d' ∧ d'.length = N := fun d p hp1 hp2 hb hd => by
      unfold pdP
      have k1 := pin_l (cm := cm) (d := d) (a := a) (b := b) (by omega) hb
      generalize slices_partialInsertionSortCmpFunc_Account d a b cm = q at *
      cases q.1
      · exact fS lim q.2 p hp1 hp2 (by omega) (by omega)
      · exact ⟨q.2, rfl, by omega⟩
    by_cases c1 : lim = 0
    · rw [beq_iff_eq.2 c1, cond_true]
      exact ⟨_, rfl, by rw [heap_len]; exact hd⟩
    rw [beq_false_of_ne c1, cond_false]
    cases wb
    · rw [Bool.not_false, cond_true]
      have p1 := (bp_ok (cm := cm) (d := d) (a := a) (b := b) h0 (by omega) hb (by omega)).len
      generalize slices_breakPatternsCmpFunc_Account d a b cm = d1 at *
      have hp := cp_rng (cm := cm) d1 (a := a) (b := b) (by omega)
      generalize slices_choosePivotCmpFunc_Account d1 a b cm = pv at *
      cases pv.2 == 2
      · exact fS _ d1 _ hp.1 hp.2 (by omega) (by omega)
      · have p2 := (rev_ok (cm := cm) (d := d1) (a := a) (b := b) h0 hab (by omega)).len
        exact fS _ _ _ (by omega) (by omega) (by omega) (by omega)
    · rw [Bool.not_true, cond_false]
      have hp := cp_rng (cm := cm) d (a := a) (b := b) (by omega)
      generalize slices_choosePivotCmpFunc_Account d a b cm = pv at *
      cases pv.2 == 2
      · cases wp
        · exact fS _ d _ hp.1 hp.2 hb hd
        · cases pv.2 == 1
          · exact fS _ d _ hp.1 hp.2 hb hd
          · exact fP d _ hp.1 hp.2 hb hd
      · have p2 := (rev_ok (cm := cm) (d := d) (a := a) (b := b) h0 hab hb).len
        cases wp
        · exact fS _ _ _ (by omega) (by omega) (by omega) (by omega)
        · exact fP _ _ (by omega) (by omega) (by omega) (by omega)
theorem pdl_t {cm : GAccount → GAccount → Int} {rc : List GAccount → Int → Int → Int → (GAccount → GAccount → Int) → List GAccount} {n : Nat} (hrc : ∀ (d : List GAccount) (a b lim : Int), 0 ≤ a → a ≤ b → b ≤ (d.length : Int) → d.length ≤ 65535 → (b - a).toNat < n → (rc d a b lim cm).length = d.length)
    {r : Nat} {d : List GAccount} {a b lim : Int} {wb wp : Bool} (h1 : b - a < (r : Int)) (h2 : 0 < r) (h3 : (b - a).toNat ≤ n) (h4 : 0 ≤ a) (h5 : a ≤ b) (h6 : b ≤ (d.length : Int)) (h7 : d.length ≤ 65535) : slices_pdqsortCmpFunc_Account_F_L0 rc cm r d a b lim wb wp ≠ .oof := by
  obtain ⟨d', k, _⟩ := pdl_l (N := d.length) h7 hrc r d a b lim wb wp h1 h2 h3 h4 h5 h6 rfl
  intro e; rw [k] at e; cases e
theorem pdq_l {cm : GAccount → GAccount → Int} : ∀ (fu : Nat) (d : List GAccount) (a b lim : Int), (b - a).toNat < fu → 0 ≤ a → a ≤ b → b ≤ (d.length : Int) → d.length ≤ 65535 → (slices_pdqsortCmpFunc_Account fu d a b lim cm).length = d.length
  | 0, d, a, b, lim, h, h0, hab, hb, hd => by omega
  | fu + 1, d, a, b, lim, h, h0, hab, hb, hd => by
    rw [slices_pdqsortCmpFunc_Account]
    unfold slices_pdqsortCmpFunc_Account_F
    obtain ⟨d', k1, k2⟩ := pdl_l (rc := slices_pdqsortCmpFunc_Account fu) (n := fu) (N := d.length) hd (fun d a b lim h1 h2 h3 h4 h5 => pdq_l fu d a b lim h5 h1 h2 h3 h4) ((b - a).toNat + 1) d a b lim true true (by omega) (by omega) (by omega) h0 hab hb rfl
    rw [k1]
    exact k2
theorem Compare_eq (x y : Int) : cmp_Compare_int x y = if x < y then -1 else if y < x then 1 else 0 := by
  simp [cmp_Compare_int, cmp_isNaN_int, Bool.cond_eq_ite]
theorem Acc_lt (a b : GAccount) : decide (ledger_Accounts_1 a b < 0) = decide (a.Query < b.Query) := by
  unfold ledger_Accounts_1
  simp only [Compare_eq]
  by_cases h : a.Query < b.Query
  · simp [h]
  · by_cases h2 : b.Query < a.Query <;> simp [h, h2]
def cA : GAccount → GAccount → Int := fun x0 x1 => ledger_Accounts_1 x0 x1
theorem Less_eq' (x y : GAccount) : decide (cA x y < 0) = decide (x.Query < y.Query) := Acc_lt x y
theorem ins1 {a e : Int} (h0 : 0 ≤ a) : ∀ (r : Nat) (d : List GAccount) (j : Int), (r : Int) = j - a → e ≤ (d.length : Int) → Hole default qk d a j e →
    PI default d (slices_insertionSortCmpFunc_Account_L1 cA r d j) a e ∧ Srt default qk (slices_insertionSortCmpFunc_Account_L1 cA r d j) a e
  | 0, d, j, hr, he, h => by
    rw [slices_insertionSortCmpFunc_Account_L1]
    exact ⟨PI.refl _ _ _ _, h.done default qk (.inl (by omega))⟩
  | r + 1, d, j, hr, he, h => by
    rw [slices_insertionSortCmpFunc_Account_L1]
    have hrg := h.rg
    simp only [Less_eq']
    by_cases hs : GAccount.Query (d.getD j.toNat default) < GAccount.Query (d.getD (j - 1).toNat default)
    · simp only [decide_eq_true hs, cond_true]
      have h2 := h.step default qk h0 he (by omega) hs
      have h1 := PI.swp default (d := d) (a := a) (b := e) (i := j) (j := j - 1) h0 he (by omega) (by omega)
      obtain ⟨k1, k2⟩ := ins1 h0 r (swp default d j (j - 1)) (j - 1) (by omega) (by rw [swp_len]; exact he) h2
      exact ⟨h1.trans default k1, k2⟩
    · simp only [decide_eq_false hs, cond_false]
      exact ⟨PI.refl _ _ _ _, h.done default qk (.inr (by show GAccount.Query (d.getD (j - 1).toNat default) ≤ GAccount.Query (d.getD j.toNat default); omega))⟩
theorem ins0 {a b : Int} (h0 : 0 ≤ a) : ∀ (r : Nat) (d : List GAccount) (i : Int), (r : Int) = b - i → a < i → b ≤ (d.length : Int) → Srt default qk d a i →
    PI default d (slices_insertionSortCmpFunc_Account_L0 a cA r d i) a b ∧ Srt default qk (slices_insertionSortCmpFunc_Account_L0 a cA r d i) a b
  | 0, d, i, hr, hi, hb, h => by
    rw [slices_insertionSortCmpFunc_Account_L0]
    have : b = i := by omega
    subst this
    exact ⟨PI.refl _ _ _ _, h⟩
  | r + 1, d, i, hr, hi, hb, h => by
    rw [slices_insertionSortCmpFunc_Account_L0]
    try dsimp only
    obtain ⟨k1, k2⟩ := ins1 h0 (i - a).toNat d i (by omega) (e := i + 1) (by omega) (Hole.init default qk (by omega) h)
    obtain ⟨m1, m2⟩ := ins0 (b := b) h0 r _ (i + 1) (by omega) (by omega) (by rw [k1.len]; exact hb) k2
    exact ⟨(k1.mono default h0 (Int.le_refl _) (by omega)).trans default m1, m2⟩
theorem ins_ok {d : List GAccount} {a b : Int} (h0 : 0 ≤ a) (hab : a ≤ b) (hb : b ≤ (d.length : Int)) : PI default d (slices_insertionSortCmpFunc_Account d a b cA) a b ∧ Srt default qk (slices_insertionSortCmpFunc_Account d a b cA) a b := by
  unfold slices_insertionSortCmpFunc_Account
  try dsimp only
  by_cases h : a < b
  · exact ins0 h0 _ d (a + 1) (by omega) (by omega) hb (fun i j h1 h2 h3 => by
      have : i = j := by omega
      subst this; exact Int.le_refl _)
  · have e : (b - (a + 1)).toNat = 0 := by omega
    rw [e, slices_insertionSortCmpFunc_Account_L0]
    exact ⟨PI.refl _ _ _ _, fun i j h1 h2 h3 => by omega⟩
theorem sift0 {hi f lo : Int} (h0 : 0 ≤ f) (hl : 0 ≤ lo) : ∀ (r : Nat) (d : List GAccount) (rt : Int), hi - rt < (r : Int) → 0 < r → lo ≤ rt → f + hi ≤ (d.length : Int) → Hq d f lo hi rt →
    ∃ d', (slices_siftDownCmpFunc_Account_L0 hi f cA r d rt = .brk d' ∨ slices_siftDownCmpFunc_Account_L0 hi f cA r d rt = .ret d') ∧ PI default d d' (f + lo) (f + hi) ∧ Hp d' f lo hi
  | 0, d, rt, hr, hr0, hlr, hb, h => by omega
  | r + 1, d, rt, hr, hr0, hlr, hb, h => by
    rw [slices_siftDownCmpFunc_Account_L0]
    simp only [Less_eq']
    by_cases c1 : hi ≤ 2 * rt + 1
    · simp only [decide_eq_true c1, cond_true]
      exact ⟨d, .inl rfl, PI.refl _ _ _ _, h.done fun c hc hn => by omega⟩
    · simp only [decide_eq_false c1, cond_false]
      have go : ∀ c, (c = 2 * rt + 1 ∨ c = 2 * rt + 2) → c < hi → (∀ c', (c' = 2 * rt + 1 ∨ c' = 2 * rt + 2) → c' < hi → GAccount.Query (gi default d (f + c')) ≤ GAccount.Query (gi default d (f + c))) →
          ∃ d', ((bif !decide (GAccount.Query (d.getD (f + rt).toNat default) < GAccount.Query (d.getD (f + c).toNat default)) then (.ret d : LR (List GAccount) (List GAccount)) else slices_siftDownCmpFunc_Account_L0 hi f cA r (swp default d (f + rt) (f + c)) c) = .brk d' ∨
            (bif !decide (GAccount.Query (d.getD (f + rt).toNat default) < GAccount.Query (d.getD (f + c).toNat default)) then (.ret d : LR (List GAccount) (List GAccount)) else slices_siftDownCmpFunc_Account_L0 hi f cA r (swp default d (f + rt) (f + c)) c) = .ret d') ∧ PI default d d' (f + lo) (f + hi) ∧ Hp d' f lo hi := fun c hc hn hm => by
        by_cases hs : GAccount.Query (d.getD (f + rt).toNat default) < GAccount.Query (d.getD (f + c).toNat default)
        · simp only [decide_eq_true hs, Bool.not_true, cond_false]
          have h2 := h.step h0 hl hlr hb hc hn hs hm
          have h1 := PI.swp default (d := d) (a := f + lo) (b := f + hi) (i := f + rt) (j := f + c) (by omega) hb (by omega) (by omega)
          obtain ⟨d', k1, k2, k3⟩ := sift0 h0 hl r _ c (by omega) (by omega) (by omega) (by rw [swp_len]; exact hb) h2
          exact ⟨d', k1, h1.trans default k2, k3⟩
        · simp only [decide_eq_false hs, Bool.not_false, cond_true]
          refine ⟨d, .inr rfl, PI.refl _ _ _ _, h.done fun c' h1 h2 => Int.le_trans (hm c' h1 h2) ?_⟩
          show GAccount.Query (d.getD (f + c).toNat default) ≤ GAccount.Query (d.getD (f + rt).toNat default)
          omega
      by_cases c2 : 2 * rt + 1 + 1 < hi
      · simp only [decide_eq_true c2, cond_true]
        by_cases c3 : GAccount.Query (d.getD (f + (2 * rt + 1)).toNat default) < GAccount.Query (d.getD (f + (2 * rt + 1) + 1).toNat default)
        · simp only [decide_eq_true c3, cond_true]
          refine go (2 * rt + 1 + 1) (by omega) c2 fun c' h1 h2 => ?_
          rcases h1 with e | e
          · subst e
            show GAccount.Query (d.getD (f + (2 * rt + 1)).toNat default) ≤ GAccount.Query (d.getD (f + (2 * rt + 1 + 1)).toNat default)
            rw [show f + (2 * rt + 1) + 1 = f + (2 * rt + 1 + 1) by omega] at c3; omega
          · rw [show c' = 2 * rt + 1 + 1 by omega]; exact Int.le_refl _
        · simp only [decide_eq_false c3, cond_false]
          refine go (2 * rt + 1) (by omega) (by omega) fun c' h1 h2 => ?_
          rcases h1 with e | e
          · subst e; exact Int.le_refl _
          · subst e
            show GAccount.Query (d.getD (f + (2 * rt + 2)).toNat default) ≤ GAccount.Query (d.getD (f + (2 * rt + 1)).toNat default)
            rw [show f + (2 * rt + 1) + 1 = f + (2 * rt + 2) by omega] at c3; omega
      · simp only [decide_eq_false c2, cond_false]
        refine go (2 * rt + 1) (by omega) (by omega) fun c' h1 h2 => ?_
        rw [show c' = 2 * rt + 1 by omega]; exact Int.le_refl _
theorem sift_ok {d : List GAccount} {f lo hi : Int} (h0 : 0 ≤ f) (hl : 0 ≤ lo) (hb : f + hi ≤ (d.length : Int)) (h : Hp d f (lo + 1) hi) :
    PI default d (slices_siftDownCmpFunc_Account d lo hi f cA) (f + lo) (f + hi) ∧ Hp (slices_siftDownCmpFunc_Account d lo hi f cA) f lo hi := by
  obtain ⟨d', k1, k2, k3⟩ := sift0 h0 hl (hi.toNat + 1) d lo (by omega) (by omega) (Int.le_refl _) hb ⟨fun i hi hne => h i (by omega), fun i hi hp => by omega⟩
  unfold slices_siftDownCmpFunc_Account
  rcases k1 with k1 | k1 <;> rw [k1] <;> exact ⟨k2, k3⟩
theorem heap0 {a b : Int} (h0 : 0 ≤ a) : ∀ (r : Nat) (d : List GAccount) (i : Int), i + 1 < (r : Int) → -1 ≤ i → b ≤ (d.length : Int) → Hp d a (i + 1) (b - a) →
    ∃ d', slices_heapSortCmpFunc_Account_L0 a b cA r d i = .brk d' ∧ PI default d d' a b ∧ Hp d' a 0 (b - a)
  | 0, d, i, hr, hi, hb, h => by omega
  | r + 1, d, i, hr, hi, hb, h => by
    rw [slices_heapSortCmpFunc_Account_L0]
    by_cases c : 0 ≤ i
    · simp only [decide_eq_true c, cond_true]
      obtain ⟨k1, k2⟩ := sift_ok (d := d) (f := a) (lo := i) (hi := b - a) h0 c (by omega) h
      have k1' : PI default d (slices_siftDownCmpFunc_Account d i (b - a) a cA) a b := by
        have := k1.mono default (a' := a) (b' := b) h0 (by omega) (by omega)
        exact this
      obtain ⟨d', m1, m2, m3⟩ := heap0 h0 r _ (i - 1) (by omega) (by omega) (by rw [k1.len]; exact hb) (by rw [show i - 1 + 1 = i by omega]; exact k2)
      exact ⟨d', m1, k1'.trans default m2, m3⟩
    · simp only [decide_eq_false c, cond_false]
      exact ⟨d, rfl, PI.refl _ _ _ _, by rw [show i + 1 = 0 by omega] at h; exact h⟩
theorem heap1 {a b : Int} (h0 : 0 ≤ a) : ∀ (r : Nat) (d : List GAccount) (i : Int), i + 1 < (r : Int) → -1 ≤ i → a + i < b → b ≤ (d.length : Int) → Hp d a 0 (i + 1) → Srt default qk d (a + i + 1) b → (∀ p q, a ≤ p → p ≤ a + i → a + i < q → q < b → GAccount.Query (gi default d p) ≤ GAccount.Query (gi default d q)) →
    ∃ d', slices_heapSortCmpFunc_Account_L1 a cA r d i = .brk d' ∧ PI default d d' a b ∧ Srt default qk d' a b
  | 0, d, i, hr, hi, hib, hb, h, hs, hq => by omega
  | r + 1, d, i, hr, hi, hib, hb, h, hs, hq => by
    rw [slices_heapSortCmpFunc_Account_L1]
    by_cases c : 0 ≤ i
    · simp only [decide_eq_true c, cond_true]
      have e0 : (swp default d a (a + i)).length = d.length := swp_len default _ _ _
      have g : ∀ k, 0 ≤ k → gi default (swp default d a (a + i)) k = if k = a + i then gi default d a else if k = a then gi default d (a + i) else gi default d k := fun k hk => swp_gi default ⟨by omega, by omega⟩ ⟨by omega, by omega⟩ hk
      have p1 := PI.swp default (d := d) (a := a) (b := b) (i := a) (j := a + i) h0 hb (by omega) (by omega)
      obtain ⟨k1, k2⟩ := sift_ok (d := swp default d a (a + i)) (f := a) (lo := 0) (hi := i) h0 (by omega) (by rw [e0]; omega) (fun j hj c hc hn => by
        rw [g _ (by omega), g _ (by omega), if_neg (by omega), if_neg (by omega), if_neg (by omega), if_neg (by omega)]
        exact h j (by omega) c hc (by omega))
      have k1' := k1.mono default (a' := a) (b' := b) h0 (by omega) (by omega)
      have mx : ∀ p, a ≤ p → p ≤ a + i → GAccount.Query (gi default d p) ≤ GAccount.Query (gi default d a) := fun p h1 h2 => by
        have := Hp_max h (p - a).toNat (p - a) (Nat.le_refl _) (by omega) (by omega)
        rw [show a + (p - a) = p by omega, show a + 0 = a by omega] at this; exact this
      -- what lies behind i has not changed since the swap
      have ou : ∀ q, a + i ≤ q → q < b → gi default (slices_siftDownCmpFunc_Account (swp default d a (a + i)) 0 i a cA) q = if q = a + i then gi default d a else gi default d q := fun q h1 h2 => by
        rw [k1.out q (by omega) (by omega), g q (by omega)]
        by_cases e : q = a + i
        · rw [if_pos e, if_pos e]
        · rw [if_neg e, if_neg (by omega), if_neg e]
      obtain ⟨d', m1, m2, m3⟩ := heap1 (b := b) h0 r (slices_siftDownCmpFunc_Account (swp default d a (a + i)) 0 i a cA) (i - 1) (by omega) (by omega) (by omega) (by rw [k1.len, e0]; exact hb) (by rw [show i - 1 + 1 = i by omega]; exact k2)
        (fun p q h1 h2 h3 => by
          show GAccount.Query (gi default _ p) ≤ GAccount.Query (gi default _ q)
          rw [ou p (by omega) (by omega), ou q (by omega) h3]
          by_cases e1 : p = a + i
          · rw [if_pos e1]
            by_cases e2 : q = a + i
            · rw [if_pos e2]; exact Int.le_refl _
            · rw [if_neg e2]; exact hq a q (Int.le_refl _) (by omega) (by omega) h3
          · rw [if_neg e1, if_neg (by omega)]
            exact hs p q (by omega) h2 h3)
        (fun p q h1 h2 h3 h4 => by
          rw [ou q (by omega) h4]
          obtain ⟨m, n1, n2, n3⟩ := k1.src p (by omega) (by omega)
          rw [n3, g m (by omega), if_neg (by omega)]
          have hm : GAccount.Query (if m = a then gi default d (a + i) else gi default d m) ≤ GAccount.Query (gi default d a) := by
            by_cases e : m = a
            · rw [if_pos e]; exact mx _ (by omega) (by omega)
            · rw [if_neg e]; exact mx _ (by omega) (by omega)
          by_cases e : q = a + i
          · rw [if_pos e]; exact hm
          · rw [if_neg e]; exact Int.le_trans hm (hq a q (Int.le_refl _) (by omega) (by omega) h4))
      exact ⟨d', m1, (p1.trans default k1').trans default m2, m3⟩
    · simp only [decide_eq_false c, cond_false]
      exact ⟨d, rfl, PI.refl _ _ _ _, by rw [show a + i + 1 = a by omega] at hs; exact hs⟩
theorem heap_ok {d : List GAccount} {a b : Int} (h0 : 0 ≤ a) (hab : a ≤ b) (hb : b ≤ (d.length : Int)) : PI default d (slices_heapSortCmpFunc_Account d a b cA) a b ∧ Srt default qk (slices_heapSortCmpFunc_Account d a b cA) a b := by
  obtain ⟨d1, k1, k2, k3⟩ := heap0 (a := a) (b := b) h0 ((b - a).toNat + 1) d ((b - a - 1) / 2) (by omega) (by omega) hb (fun i hi c hc hn => by omega)
  obtain ⟨d2, m1, m2, m3⟩ := heap1 (a := a) (b := b) h0 ((b - a).toNat + 1) d1 (b - a - 1) (by omega) (by omega) (by omega) (by rw [k2.len]; exact hb) (by rw [show b - a - 1 + 1 = b - a by omega]; exact k3) (fun i j h1 h2 h3 => by omega) (fun p q h1 h2 h3 h4 => by omega)
  unfold slices_heapSortCmpFunc_Account
  rw [k1]; dsimp only; rw [m1]
  exact ⟨k2.trans default m2, m3⟩

theorem pe1 (a : Int) (d : List GAccount) (j : Int) : ∀ (r : Nat) (i : Int), j + 1 - i < (r : Int) → 0 < r → ∃ i', slices_partitionEqualCmpFunc_Account_L1 a cA d j r i = .brk i' ∧ i ≤ i' ∧ (i' ≤ j + 1 ∨ i' = i) ∧ (∀ k, i ≤ k → k < i' → GAccount.Query (gi default d k) ≤ GAccount.Query (gi default d a)) ∧ (i' ≤ j → GAccount.Query (gi default d a) < GAccount.Query (gi default d i'))
  | 0, i, h, h0 => by omega
  | r + 1, i, h, h0 => by
    rw [slices_partitionEqualCmpFunc_Account_L1]
    simp only [Less_eq']
    by_cases c : i ≤ j
    · simp only [decide_eq_true c, cond_true]
      by_cases s : GAccount.Query (d.getD a.toNat default) < GAccount.Query (d.getD i.toNat default)
      · simp only [decide_eq_true s, Bool.not_true, cond_false]
        exact ⟨i, rfl, Int.le_refl _, .inr rfl, fun k h1 h2 => by omega, fun _ => s⟩
      · simp only [decide_eq_false s, Bool.not_false, cond_true]
        obtain ⟨i', m1, m2, m3, m4, m5⟩ := pe1 a d j r (i + 1) (by omega) (by omega)
        refine ⟨i', m1, by omega, .inl (by omega), fun k h1 h2 => ?_, m5⟩
        by_cases e : k = i
        · subst e; show GAccount.Query (d.getD k.toNat default) ≤ GAccount.Query (d.getD a.toNat default); omega
        · exact m4 k (by omega) h2
    · simp only [decide_eq_false c, cond_false]
      exact ⟨i, rfl, Int.le_refl _, .inr rfl, fun k h1 h2 => by omega, fun h => by omega⟩
theorem pe2 (a : Int) (d : List GAccount) (i : Int) : ∀ (r : Nat) (j : Int), j + 1 - i < (r : Int) → 0 < r → ∃ j', slices_partitionEqualCmpFunc_Account_L2 a cA d i r j = .brk j' ∧ j' ≤ j ∧ (i - 1 ≤ j' ∨ j' = j) ∧ (∀ k, j' < k → k ≤ j → GAccount.Query (gi default d a) < GAccount.Query (gi default d k)) ∧ (i ≤ j' → GAccount.Query (gi default d j') ≤ GAccount.Query (gi default d a))
  | 0, j, h, h0 => by omega
  | r + 1, j, h, h0 => by
    rw [slices_partitionEqualCmpFunc_Account_L2]
    simp only [Less_eq']
    by_cases c : i ≤ j
    · simp only [decide_eq_true c, cond_true]
      by_cases s : GAccount.Query (d.getD a.toNat default) < GAccount.Query (d.getD j.toNat default)
      · simp only [decide_eq_true s, cond_true]
        obtain ⟨j', m1, m2, m3, m4, m5⟩ := pe2 a d i r (j - 1) (by omega) (by omega)
        refine ⟨j', m1, by omega, .inl (by omega), fun k h1 h2 => ?_, m5⟩
        by_cases e : k = j
        · subst e; exact s
        · exact m4 k h1 (by omega)
      · simp only [decide_eq_false s, cond_false]
        exact ⟨j, rfl, Int.le_refl _, .inr rfl, fun k h1 h2 => by omega, fun _ => by show GAccount.Query (d.getD j.toNat default) ≤ GAccount.Query (d.getD a.toNat default); omega⟩
    · simp only [decide_eq_false c, cond_false]
      exact ⟨j, rfl, Int.le_refl _, .inr rfl, fun k h1 h2 => by omega, fun h => by omega⟩
theorem pe0 {a b : Int} (h0 : 0 ≤ a) : ∀ (r : Nat) (d : List GAccount) (i j : Int), j + 1 - i < (r : Int) → 0 < r → a + 1 ≤ i → i ≤ b → i ≤ j + 2 → j ≤ b - 1 → b ≤ (d.length : Int) →
    (∀ k, a ≤ k → k < i → GAccount.Query (gi default d k) ≤ GAccount.Query (gi default d a)) → (∀ k, j < k → k < b → GAccount.Query (gi default d a) < GAccount.Query (gi default d k)) →
    ∃ d' i', slices_partitionEqualCmpFunc_Account_L0 a b cA r d i j = .brk (d', i') ∧ a + 1 ≤ i' ∧ i' ≤ b ∧ PI default d d' a b ∧ gi default d' a = gi default d a ∧ (∀ k, a ≤ k → k < i' → GAccount.Query (gi default d' k) ≤ GAccount.Query (gi default d' a)) ∧ (∀ k, i' ≤ k → k < b → GAccount.Query (gi default d' a) < GAccount.Query (gi default d' k))
  | 0, d, i, j, hr, hr0, hi, hib, hij, hj, hb, hA, hB => by omega
  | r + 1, d, i, j, hr, hr0, hi, hib, hij, hj, hb, hA, hB => by
    rw [slices_partitionEqualCmpFunc_Account_L0]
    obtain ⟨i', m1, m2, m3, m4, m5⟩ := pe1 a d j ((b - a).toNat + 2) i (by omega) (by omega)
    obtain ⟨j', n1, n2, n3, n4, n5⟩ := pe2 a d i' ((b - a).toNat + 2) j (by omega) (by omega)
    rw [m1]; dsimp only; rw [n1]; dsimp only
    have hA' : ∀ k, a ≤ k → k < i' → GAccount.Query (gi default d k) ≤ GAccount.Query (gi default d a) := fun k h1 h2 => by
      by_cases e : k < i
      · exact hA k h1 e
      · exact m4 k (by omega) h2
    have hB' : ∀ k, j' < k → k < b → GAccount.Query (gi default d a) < GAccount.Query (gi default d k) := fun k h1 h2 => by
      by_cases e : j < k
      · exact hB k e h2
      · exact n4 k h1 (by omega)
    by_cases c : j' < i'
    · simp only [decide_eq_true c, cond_true]
      exact ⟨d, i', rfl, by omega, by omega, PI.refl _ _ _ _, rfl, hA', fun k h1 h2 => hB' k (by omega) h2⟩
    · simp only [decide_eq_false c, cond_false]
      have hl : i' ≠ j' := fun e => by have := m5 (by omega); have := n5 (by omega); subst e; omega
      have g : ∀ k, 0 ≤ k → gi default (swp default d i' j') k = if k = j' then gi default d i' else if k = i' then gi default d j' else gi default d k := fun k hk => swp_gi default ⟨by omega, by omega⟩ ⟨by omega, by omega⟩ hk
      have p1 := PI.swp default (d := d) (a := a) (b := b) (i := i') (j := j') h0 hb (by omega) (by omega)
      have ga : gi default (swp default d i' j') a = gi default d a := by rw [g a h0, if_neg (by omega), if_neg (by omega)]
      obtain ⟨d', q, k1, k2, k3, k4, k5, k6, k7⟩ := pe0 (b := b) h0 r (swp default d i' j') (i' + 1) (j' - 1) (by omega) (by omega) (by omega) (by omega) (by omega) (by omega) (by rw [swp_len]; exact hb)
        (fun k h1 h2 => by
          rw [ga, g k (by omega), if_neg (by omega)]
          by_cases e : k = i'
          · rw [if_pos e]; exact n5 (by omega)
          · rw [if_neg e]; exact hA' k h1 (by omega))
        (fun k h1 h2 => by
          rw [ga, g k (by omega)]
          by_cases e : k = j'
          · rw [if_pos e]; exact m5 (by omega)
          · rw [if_neg e, if_neg (by omega)]; exact hB' k (by omega) h2)
      exact ⟨d', q, k1, k2, k3, p1.trans default k4, k5.trans ga, k6, k7⟩
theorem pe_ok {d : List GAccount} {a b p : Int} (h0 : 0 ≤ a) (hp : a ≤ p ∧ p < b) (hb : b ≤ (d.length : Int)) : ∀ {r : Int × List GAccount}, slices_partitionEqualCmpFunc_Account d a b p cA = r →
    a < r.1 ∧ r.1 ≤ b ∧ PI default d r.2 a b ∧ gi default r.2 a = gi default d p ∧ (∀ k, a ≤ k → k < r.1 → GAccount.Query (gi default r.2 k) ≤ GAccount.Query (gi default d p)) ∧ (∀ k, r.1 ≤ k → k < b → GAccount.Query (gi default d p) < GAccount.Query (gi default r.2 k)) := fun {r} h => by
  subst h
  have g : ∀ k, 0 ≤ k → gi default (swp default d a p) k = if k = p then gi default d a else if k = a then gi default d p else gi default d k := fun k hk => swp_gi default ⟨by omega, by omega⟩ ⟨by omega, by omega⟩ hk
  have ga : gi default (swp default d a p) a = gi default d p := by
    rw [g a h0]
    by_cases e : a = p
    · rw [if_pos e, e]
    · rw [if_neg e, if_pos rfl]
  obtain ⟨d', q, k1, k2, k3, k4, k5, k6, k7⟩ := pe0 (b := b) h0 ((b - a).toNat + 2) (swp default d a p) (a + 1) (b - 1) (by omega) (by omega) (by omega) (by omega) (by omega) (by omega) (by rw [swp_len]; exact hb)
    (fun k h1 h2 => by rw [show k = a by omega]; exact Int.le_refl _) (fun k h1 h2 => by omega)
  unfold slices_partitionEqualCmpFunc_Account
  have p1 := PI.swp default (d := d) (a := a) (b := b) (i := a) (j := p) h0 hb (by omega) (by omega)
  have e : (d.set a.toNat (d.getD p.toNat default)).set p.toNat (d.getD a.toNat default) = swp default d a p := rfl
  rw [e, k1]
  rw [k5, ga] at k6 k7
  exact ⟨by show a < q; omega, k3, p1.trans default k4, k5.trans ga, k6, k7⟩
theorem pt3 (a : Int) (d : List GAccount) (j : Int) : ∀ (r : Nat) (i : Int), j + 1 - i < (r : Int) → 0 < r → ∃ i', slices_partitionCmpFunc_Account_L3 a cA d j r i = .brk i' ∧ i ≤ i' ∧ (i' ≤ j + 1 ∨ i' = i) ∧ (∀ k, i ≤ k → k < i' → GAccount.Query (gi default d k) < GAccount.Query (gi default d a)) ∧ (i' ≤ j → GAccount.Query (gi default d a) ≤ GAccount.Query (gi default d i'))
  | 0, i, h, h0 => by omega
  | r + 1, i, h, h0 => by
    rw [slices_partitionCmpFunc_Account_L3]
    simp only [Less_eq']
    by_cases c : i ≤ j
    · simp only [decide_eq_true c, cond_true]
      by_cases s : GAccount.Query (d.getD i.toNat default) < GAccount.Query (d.getD a.toNat default)
      · simp only [decide_eq_true s, cond_true]
        obtain ⟨i', m1, m2, m3, m4, m5⟩ := pt3 a d j r (i + 1) (by omega) (by omega)
        refine ⟨i', m1, by omega, .inl (by omega), fun k h1 h2 => ?_, m5⟩
        by_cases e : k = i
        · subst e; exact s
        · exact m4 k (by omega) h2
      · simp only [decide_eq_false s, cond_false]
        exact ⟨i, rfl, Int.le_refl _, .inr rfl, fun k h1 h2 => by omega, fun _ => by show GAccount.Query (d.getD a.toNat default) ≤ GAccount.Query (d.getD i.toNat default); omega⟩
    · simp only [decide_eq_false c, cond_false]
      exact ⟨i, rfl, Int.le_refl _, .inr rfl, fun k h1 h2 => by omega, fun h => by omega⟩
theorem pt4 (a : Int) (d : List GAccount) (i : Int) : ∀ (r : Nat) (j : Int), j + 1 - i < (r : Int) → 0 < r → ∃ j', slices_partitionCmpFunc_Account_L4 a cA d i r j = .brk j' ∧ j' ≤ j ∧ (i - 1 ≤ j' ∨ j' = j) ∧ (∀ k, j' < k → k ≤ j → GAccount.Query (gi default d a) ≤ GAccount.Query (gi default d k)) ∧ (i ≤ j' → GAccount.Query (gi default d j') < GAccount.Query (gi default d a))
  | 0, j, h, h0 => by omega
  | r + 1, j, h, h0 => by
    rw [slices_partitionCmpFunc_Account_L4]
    simp only [Less_eq']
    by_cases c : i ≤ j
    · simp only [decide_eq_true c, cond_true]
      by_cases s : GAccount.Query (d.getD j.toNat default) < GAccount.Query (d.getD a.toNat default)
      · simp only [decide_eq_true s, Bool.not_true, cond_false]
        exact ⟨j, rfl, Int.le_refl _, .inr rfl, fun k h1 h2 => by omega, fun _ => s⟩
      · simp only [decide_eq_false s, Bool.not_false, cond_true]
        obtain ⟨j', m1, m2, m3, m4, m5⟩ := pt4 a d i r (j - 1) (by omega) (by omega)
        refine ⟨j', m1, by omega, .inl (by omega), fun k h1 h2 => ?_, m5⟩
        by_cases e : k = j
        · subst e; show GAccount.Query (d.getD a.toNat default) ≤ GAccount.Query (d.getD k.toNat default); omega
        · exact m4 k h1 (by omega)
    · simp only [decide_eq_false c, cond_false]
      exact ⟨j, rfl, Int.le_refl _, .inr rfl, fun k h1 h2 => by omega, fun h => by omega⟩
theorem pt2 {a b : Int} (h0 : 0 ≤ a) : ∀ (r : Nat) (d : List GAccount) (i j : Int), j + 1 - i < (r : Int) → 0 < r → a + 1 ≤ i → i ≤ j + 2 → a ≤ j → j ≤ b - 1 → b ≤ (d.length : Int) →
    (∀ k, a < k → k < i → GAccount.Query (gi default d k) < GAccount.Query (gi default d a)) → (∀ k, j < k → k < b → GAccount.Query (gi default d a) ≤ GAccount.Query (gi default d k)) →
    ∃ d' j', slices_partitionCmpFunc_Account_L2 a b cA r d i j = .brk (d', j') ∧ a ≤ j' ∧ j' ≤ b - 1 ∧ PI default d d' a b ∧ (∀ k, a < k → k ≤ j' → GAccount.Query (gi default d' k) < GAccount.Query (gi default d' a)) ∧ (∀ k, j' < k → k < b → GAccount.Query (gi default d' a) ≤ GAccount.Query (gi default d' k))
  | 0, d, i, j, hr, hr0, hi, hij, haj, hj, hb, hA, hB => by omega
  | r + 1, d, i, j, hr, hr0, hi, hij, haj, hj, hb, hA, hB => by
    rw [slices_partitionCmpFunc_Account_L2]
    obtain ⟨i', m1, m2, m3, m4, m5⟩ := pt3 a d j ((b - a).toNat + 2) i (by omega) (by omega)
    obtain ⟨j', n1, n2, n3, n4, n5⟩ := pt4 a d i' ((b - a).toNat + 2) j (by omega) (by omega)
    rw [m1]; dsimp only; rw [n1]; dsimp only
    have hA' : ∀ k, a < k → k < i' → GAccount.Query (gi default d k) < GAccount.Query (gi default d a) := fun k h1 h2 => by
      by_cases e : k < i
      · exact hA k h1 e
      · exact m4 k (by omega) h2
    have hB' : ∀ k, j' < k → k < b → GAccount.Query (gi default d a) ≤ GAccount.Query (gi default d k) := fun k h1 h2 => by
      by_cases e : j < k
      · exact hB k e h2
      · exact n4 k h1 (by omega)
    by_cases c : j' < i'
    · simp only [decide_eq_true c, cond_true]
      exact ⟨d, j', rfl, by omega, by omega, PI.refl _ _ _ _, fun k h1 h2 => hA' k h1 (by omega), hB'⟩
    · simp only [decide_eq_false c, cond_false]
      have hl : i' ≠ j' := fun e => by have := m5 (by omega); have := n5 (by omega); subst e; omega
      have g : ∀ k, 0 ≤ k → gi default (swp default d i' j') k = if k = j' then gi default d i' else if k = i' then gi default d j' else gi default d k := fun k hk => swp_gi default ⟨by omega, by omega⟩ ⟨by omega, by omega⟩ hk
      have p1 := PI.swp default (d := d) (a := a) (b := b) (i := i') (j := j') h0 hb (by omega) (by omega)
      have ga : gi default (swp default d i' j') a = gi default d a := by rw [g a h0, if_neg (by omega), if_neg (by omega)]
      obtain ⟨d', q, k1, k2, k3, k4, k6, k7⟩ := pt2 (b := b) h0 r (swp default d i' j') (i' + 1) (j' - 1) (by omega) (by omega) (by omega) (by omega) (by omega) (by omega) (by rw [swp_len]; exact hb)
        (fun k h1 h2 => by
          rw [ga, g k (by omega), if_neg (by omega)]
          by_cases e : k = i'
          · rw [if_pos e]; exact n5 (by omega)
          · rw [if_neg e]; exact hA' k h1 (by omega))
        (fun k h1 h2 => by
          rw [ga, g k (by omega)]
          by_cases e : k = j'
          · rw [if_pos e]; exact m5 (by omega)
          · rw [if_neg e, if_neg (by omega)]; exact hB' k (by omega) h2)
      exact ⟨d', q, k1, k2, k3, p1.trans default k4, k6, k7⟩
theorem pt_ok {d : List GAccount} {a b p : Int} (h0 : 0 ≤ a) (hp : a ≤ p ∧ p < b) (hb : b ≤ (d.length : Int)) : ∀ {r : Int × Bool × List GAccount}, slices_partitionCmpFunc_Account d a b p cA = r →
    a ≤ r.1 ∧ r.1 < b ∧ PI default d r.2.2 a b ∧ (∀ k, a ≤ k → k < r.1 → GAccount.Query (gi default r.2.2 k) ≤ GAccount.Query (gi default r.2.2 r.1)) ∧ (∀ k, r.1 < k → k < b → GAccount.Query (gi default r.2.2 r.1) ≤ GAccount.Query (gi default r.2.2 k)) := fun {r} h => by
  subst h
  have p0 := PI.swp default (d := d) (a := a) (b := b) (i := a) (j := p) h0 hb (by omega) (by omega)
  have e : (d.set a.toNat (d.getD p.toNat default)).set p.toNat (d.getD a.toNat default) = swp default d a p := rfl
  unfold slices_partitionCmpFunc_Account
  rw [pt0_eq]
  simp only [pt1_eq, e]
  generalize swp default d a p = d0 at p0
  have hb0 : b ≤ (d0.length : Int) := by rw [p0.len]; exact hb
  obtain ⟨i', m1, m2, m3, m4, m5⟩ := pt3 a d0 (b - 1) ((b - a).toNat + 2) (a + 1) (by omega) (by omega)
  rw [m1]; dsimp only
  obtain ⟨j', n1, n2, n3, n4, n5⟩ := pt4 a d0 i' ((b - a).toNat + 2) (b - 1) (by omega) (by omega)
  rw [n1]; dsimp only
  have hA' : ∀ k, a < k → k < i' → GAccount.Query (gi default d0 k) < GAccount.Query (gi default d0 a) := fun k h1 h2 => m4 k (by omega) h2
  have hB' : ∀ k, j' < k → k < b → GAccount.Query (gi default d0 a) ≤ GAccount.Query (gi default d0 k) := fun k h1 h2 => n4 k h1 (by omega)
  by_cases c : j' < i'
  · simp only [decide_eq_true c, cond_true]
    obtain ⟨q1, q2, q3⟩ := pt_end (d := d0) (a := a) (b := b) (m := j') h0 (by omega) hb0 (fun k h1 h2 => hA' k h1 (by omega)) hB'
    exact ⟨by omega, by omega, p0.trans default q1, q2, q3⟩
  · simp only [decide_eq_false c, cond_false]
    have hl : i' ≠ j' := fun e => by have := m5 (by omega); have := n5 (by omega); subst e; omega
    have g : ∀ k, 0 ≤ k → gi default (swp default d0 i' j') k = if k = j' then gi default d0 i' else if k = i' then gi default d0 j' else gi default d0 k := fun k hk => swp_gi default ⟨by omega, by omega⟩ ⟨by omega, by omega⟩ hk
    have p1 := PI.swp default (d := d0) (a := a) (b := b) (i := i') (j := j') h0 hb0 (by omega) (by omega)
    have ga : gi default (swp default d0 i' j') a = gi default d0 a := by rw [g a h0, if_neg (by omega), if_neg (by omega)]
    obtain ⟨d', q, k1, k2, k3, k4, k6, k7⟩ := pt2 (b := b) h0 ((b - a).toNat + 2) (swp default d0 i' j') (i' + 1) (j' - 1) (by omega) (by omega) (by omega) (by omega) (by omega) (by omega) (by rw [swp_len]; exact hb0)
      (fun k h1 h2 => by
        rw [ga, g k (by omega), if_neg (by omega)]
        by_cases e : k = i'
        · rw [if_pos e]; exact n5 (by omega)
        · rw [if_neg e]; exact hA' k h1 (by omega))
      (fun k h1 h2 => by
        rw [ga, g k (by omega)]
        by_cases e : k = j'
        · rw [if_pos e]; exact m5 (by omega)
        · rw [if_neg e, if_neg (by omega)]; exact hB' k (by omega) h2)
    have e2 : (d0.set i'.toNat (d0.getD j'.toNat default)).set j'.toNat (d0.getD i'.toNat default) = swp default d0 i' j' := rfl
    rw [e2, k1]; dsimp only
    obtain ⟨q1, q2, q3⟩ := pt_end (d := d') (a := a) (b := b) (m := q) h0 (by omega) (by rw [k4.len, swp_len]; exact hb0) k6 k7
    exact ⟨by omega, by omega, (p0.trans default (p1.trans default k4)).trans default q1, q2, q3⟩
theorem pin1 {b : Int} (d : List GAccount) {a : Int} : ∀ (r : Nat) (i : Int), (r : Int) = b - i → a < i → Srt default qk d a i → i ≤ slices_partialInsertionSortCmpFunc_Account_L1 cA d r i ∧ slices_partialInsertionSortCmpFunc_Account_L1 cA d r i ≤ b ∧ Srt default qk d a (slices_partialInsertionSortCmpFunc_Account_L1 cA d r i) ∧
    (slices_partialInsertionSortCmpFunc_Account_L1 cA d r i < b → GAccount.Query (gi default d (slices_partialInsertionSortCmpFunc_Account_L1 cA d r i)) < GAccount.Query (gi default d (slices_partialInsertionSortCmpFunc_Account_L1 cA d r i - 1)))
  | 0, i, hr, hi, h => by rw [slices_partialInsertionSortCmpFunc_Account_L1]; exact ⟨by omega, by omega, h, fun _ => by omega⟩
  | r + 1, i, hr, hi, h => by
    rw [slices_partialInsertionSortCmpFunc_Account_L1]
    simp only [Less_eq']
    by_cases s : GAccount.Query (d.getD i.toNat default) < GAccount.Query (d.getD (i - 1).toNat default)
    · simp only [decide_eq_true s, Bool.not_true, cond_false]
      exact ⟨Int.le_refl _, by omega, h, fun _ => s⟩
    · simp only [decide_eq_false s, Bool.not_false, cond_true]
      obtain ⟨m1, m2, m3, m4⟩ := pin1 (b := b) d r (i + 1) (by omega) (by omega) ((Hole.init default qk (by omega) h).done default qk (.inr (by show GAccount.Query (d.getD (i - 1).toNat default) ≤ GAccount.Query (d.getD i.toNat default); omega)))
      exact ⟨by omega, m2, m3, m4⟩
theorem pin2 {a e b : Int} (h0 : 0 ≤ a) (heb : e ≤ b) : ∀ (r : Nat) (d : List GAccount) (j : Int), j < (r : Int) → 0 < r → b ≤ (d.length : Int) → LB default qk d a b → Hole default qk d a j e → ∃ d', slices_partialInsertionSortCmpFunc_Account_L2 cA r d j = .brk d' ∧ PI default d d' a e ∧ Srt default qk d' a e
  | 0, d, j, hr, hr0, hb, hl, h => by omega
  | r + 1, d, j, hr, hr0, hb, hl, h => by
    rw [slices_partialInsertionSortCmpFunc_Account_L2]
    have hrg := h.rg
    simp only [Less_eq']
    by_cases c : 1 ≤ j
    · simp only [decide_eq_true c, cond_true]
      by_cases s : GAccount.Query (d.getD j.toNat default) < GAccount.Query (d.getD (j - 1).toNat default)
      · simp only [decide_eq_true s, Bool.not_true, cond_false]
        have haj : a < j := by
          have hn : ¬ j = a := fun ej => by
            have := hl (by omega) j (by omega) (by omega)
            subst ej
            have : GAccount.Query (d.getD (j - 1).toNat default) ≤ GAccount.Query (d.getD j.toNat default) := this
            omega
          omega
        have p1 := PI.swp default (d := d) (a := a) (b := e) (i := j) (j := j - 1) h0 (by omega) (by omega) (by omega)
        obtain ⟨d', k1, k2, k3⟩ := pin2 (e := e) h0 heb r (swp default d j (j - 1)) (j - 1) (by omega) (by omega) (by rw [swp_len]; exact hb) (hl.pi default qk (p1.mono default h0 (Int.le_refl _) heb)) (h.step default qk h0 (by omega) haj s)
        exact ⟨d', k1, p1.trans default k2, k3⟩
      · simp only [decide_eq_false s, Bool.not_false, cond_true]
        exact ⟨d, rfl, PI.refl _ _ _ _, h.done default qk (.inr (by show GAccount.Query (d.getD (j - 1).toNat default) ≤ GAccount.Query (d.getD j.toNat default); omega))⟩
    · simp only [decide_eq_false c, cond_false]
      exact ⟨d, rfl, PI.refl _ _ _ _, h.done default qk (.inl (by omega))⟩
theorem pin3 {i b : Int} (h0 : 0 ≤ i) : ∀ (r : Nat) (d : List GAccount) (j : Int), (r : Int) = b - j → i < j → b ≤ (d.length : Int) → PI default d (slices_partialInsertionSortCmpFunc_Account_L3 cA r d j) i b
  | 0, d, j, hr, hi, hb => by rw [slices_partialInsertionSortCmpFunc_Account_L3]; exact PI.refl _ _ _ _
  | r + 1, d, j, hr, hi, hb => by
    rw [slices_partialInsertionSortCmpFunc_Account_L3]
    simp only [Less_eq']
    by_cases s : GAccount.Query (d.getD j.toNat default) < GAccount.Query (d.getD (j - 1).toNat default)
    · simp only [decide_eq_true s, Bool.not_true, cond_false]
      exact (PI.swp default (d := d) (a := i) (b := b) (i := j) (j := j - 1) h0 hb (by omega) (by omega)).trans default (pin3 (b := b) h0 r (swp default d j (j - 1)) (j + 1) (by omega) (by omega) (by rw [swp_len]; exact hb))
    · simp only [decide_eq_false s, Bool.not_false, cond_true]
      exact PI.refl _ _ _ _

theorem pin0 {a b : Int} (h0 : 0 ≤ a) (x : List GAccount) : ∀ (r : Nat) (d : List GAccount) (i j : Int), a < i → i ≤ b → b ≤ (d.length : Int) → x.length = d.length → Srt default qk d a i → LB default qk d a b →
    ∃ d', PI default d d' a b ∧ (slices_partialInsertionSortCmpFunc_Account_L0 x a b cA r d i j = .brk d' ∨ slices_partialInsertionSortCmpFunc_Account_L0 x a b cA r d i j = .ret (false, d') ∨ (slices_partialInsertionSortCmpFunc_Account_L0 x a b cA r d i j = .ret (true, d') ∧ Srt default qk d' a b))
  | 0, d, i, j, hi, hib, hb, hx, hs, hl => ⟨d, PI.refl _ _ _ _, .inl (by rw [slices_partialInsertionSortCmpFunc_Account_L0])⟩
  | r + 1, d, i, j, hi, hib, hb, hx, hs, hl => by
    rw [slices_partialInsertionSortCmpFunc_Account_L0]
    try dsimp only
    obtain ⟨m1, m2, m3, m4⟩ := pin1 (b := b) d (a := a) (b - i).toNat i (by omega) hi hs
    generalize slices_partialInsertionSortCmpFunc_Account_L1 cA d (b - i).toNat i = o at *
    by_cases c1 : o = b
    · subst c1
      rw [beq_self_eq_true, cond_true]
      exact ⟨d, PI.refl _ _ _ _, .inr (.inr ⟨rfl, m3⟩)⟩
    · rw [beq_false_of_ne c1, cond_false]
      by_cases c2 : b - a < 50
      · rw [decide_eq_true c2, cond_true]
        exact ⟨d, PI.refl _ _ _ _, .inr (.inl rfl)⟩
      · rw [decide_eq_false c2, cond_false]
        have e1 : (d.set o.toNat (d.getD (o - 1).toNat default)).set (o - 1).toNat (d.getD o.toNat default) = swp default d o (o - 1) := rfl
        rw [e1]
        have p1 := PI.swp default (d := d) (a := a) (b := b) (i := o) (j := o - 1) h0 hb (by omega) (by omega)
        have p1' := PI.swp default (d := d) (a := o - 1) (b := o + 1) (i := o) (j := o - 1) (by omega) (by omega) (by omega) (by omega)
        -- the left end in order, then the right one shifted
        have fin : ∀ d2, PI default d d2 a b → Srt default qk d2 a o → ∃ d', PI default d d' a b ∧ ∃ q, (q = (bif decide (2 ≤ b - o) then slices_partialInsertionSortCmpFunc_Account_L0 x a b cA r (slices_partialInsertionSortCmpFunc_Account_L3 cA (b - (o + 1)).toNat d2 (o + 1)) o (j + 1) else slices_partialInsertionSortCmpFunc_Account_L0 x a b cA r d2 o (j + 1))) ∧
            (q = .brk d' ∨ q = .ret (false, d') ∨ (q = .ret (true, d') ∧ Srt default qk d' a b)) := fun d2 h2 h3 => by
          by_cases c4 : 2 ≤ b - o
          · rw [decide_eq_true c4, cond_true]
            have p3 := pin3 (i := o) (b := b) (by omega) (b - (o + 1)).toNat d2 (o + 1) (by omega) (by omega) (by rw [h2.len]; exact hb)
            have p4 := h2.trans default (p3.mono default h0 (by omega) (Int.le_refl _))
            obtain ⟨d', k1, k2⟩ := pin0 h0 x r _ o (j + 1) (by omega) m2 (by rw [p4.len]; exact hb) (by rw [p4.len]; exact hx) (h3.pi default qk h0 p3 (.inl (Int.le_refl _))) (hl.pi default qk p4)
            exact ⟨d', p4.trans default k1, _, rfl, k2⟩
          · rw [decide_eq_false c4, cond_false]
            obtain ⟨d', k1, k2⟩ := pin0 h0 x r d2 o (j + 1) (by omega) m2 (by rw [h2.len]; exact hb) (by rw [h2.len]; exact hx) h3 (hl.pi default qk h2)
            exact ⟨d', h2.trans default k1, _, rfl, k2⟩
        by_cases c3 : 2 ≤ o - a
        · rw [decide_eq_true c3, cond_true]
          have hs1 : Srt default qk (swp default d o (o - 1)) a (o - 1) := fun p q h1 h2 h3 => by
            rw [p1'.out p (by omega) (by omega), p1'.out q (by omega) (by omega)]; exact m3 p q h1 h2 (by omega)
          obtain ⟨d2, n1, n2, n3⟩ := pin2 (a := a) (e := o) (b := b) h0 m2 (x.length + 1) (swp default d o (o - 1)) (o - 1) (by omega) (by omega) (by rw [swp_len]; exact hb) (hl.pi default qk p1) (by
            have := Hole.init default qk (d := swp default d o (o - 1)) (a := a) (i := o - 1) (by omega) hs1
            rwa [show o - 1 + 1 = o by omega] at this)
          rw [n1]
          try dsimp only
          obtain ⟨d', k1, q, rfl, k2⟩ := fin d2 (p1.trans default (n2.mono default h0 (Int.le_refl _) m2)) n3
          exact ⟨d', k1, k2⟩
        · rw [decide_eq_false c3, cond_false]
          obtain ⟨d', k1, q, rfl, k2⟩ := fin (swp default d o (o - 1)) p1 (fun p q h1 h2 h3 => by
            have : p = q := by omega
            subst this; exact Int.le_refl _)
          exact ⟨d', k1, k2⟩
theorem pin_ok {d : List GAccount} {a b : Int} (h0 : 0 ≤ a) (hab : a < b) (hb : b ≤ (d.length : Int)) (hl : LB default qk d a b) : PI default d (slices_partialInsertionSortCmpFunc_Account d a b cA).2 a b ∧ ((slices_partialInsertionSortCmpFunc_Account d a b cA).1 = true → Srt default qk (slices_partialInsertionSortCmpFunc_Account d a b cA).2 a b) := by
  obtain ⟨d', k1, k2⟩ := pin0 (a := a) (b := b) h0 d 5 d (a + 1) 0 (by omega) (by omega) hb rfl (fun p q h1 h2 h3 => by
    have : p = q := by omega
    subst this; exact Int.le_refl _) hl
  unfold slices_partialInsertionSortCmpFunc_Account
  rcases k2 with k2 | k2 | ⟨k2, k3⟩ <;> rw [k2]
  · exact ⟨k1, fun h => by cases h⟩
  · exact ⟨k1, fun h => by cases h⟩
  · exact ⟨k1, fun _ => k3⟩

theorem pdl {rc : List GAccount → Int → Int → Int → (GAccount → GAccount → Int) → List GAccount} {n N : Nat} (hN : N ≤ 65535)
    (hrc : ∀ (d : List GAccount) (a b lim : Int), (b - a).toNat < n → 0 ≤ a → a ≤ b → b ≤ (d.length : Int) → d.length = N → LB default qk d a b → PI default d (rc d a b lim cA) a b ∧ Srt default qk (rc d a b lim cA) a b) :
    ∀ (r : Nat) (d : List GAccount) (a b lim : Int) (wb wp : Bool), b - a < (r : Int) → 0 < r → (b - a).toNat ≤ n → 0 ≤ a → a ≤ b → b ≤ (d.length : Int) → d.length = N → LB default qk d a b →
      ∃ d', slices_pdqsortCmpFunc_Account_F_L0 rc cA r d a b lim wb wp = .ret d' ∧ PI default d d' a b ∧ Srt default qk d' a b
  | 0, d, a, b, lim, wb, wp, hr, hr0, hn, h0, hab, hb, hd, hl => by omega
  | r + 1, d, a, b, lim, wb, wp, hr, hr0, hn, h0, hab, hb, hd, hl => by
    rw [pdL_eq]
    by_cases c0 : b - a ≤ 12
    · rw [decide_eq_true c0, cond_true]
      obtain ⟨k1, k2⟩ := ins_ok (d := d) h0 hab hb
      exact ⟨_, rfl, k1, k2⟩
    rw [decide_eq_false c0, cond_false]
    -- what is behind a pivot
    have fT : ∀ (lim : Int) (d : List GAccount) (p : Int), a ≤ p → p < b → b ≤ (d.length : Int) → d.length = N → LB default qk d a b → ∃ d', pdT cA rc r a b lim d p = .ret d' ∧ PI default d d' a b ∧ Srt default qk d' a b := fun lim d p hp1 hp2 hb hd hl => by
      unfold pdT
      obtain ⟨m1, m2, m3, m4, m5⟩ := pt_ok (d := d) (a := a) (b := b) (p := p) h0 ⟨hp1, hp2⟩ hb rfl
      generalize slices_partitionCmpFunc_Account d a b p cA = q at *
      have hb1 : b ≤ (q.2.2.length : Int) := by rw [m3.len]; exact hb
      have hd1 : q.2.2.length = N := by rw [m3.len]; exact hd
      have hl1 := hl.pi default qk m3
      by_cases c : q.1 - a < b - q.1
      · rw [decide_eq_true c, cond_true]
        obtain ⟨k1, k2⟩ := hrc q.2.2 a q.1 lim (by omega) h0 m1 (by omega) hd1 (fun ha j h1 h2 => hl1 ha j h1 (by omega))
        generalize rc q.2.2 a q.1 lim cA = d2 at *
        have em : gi default d2 q.1 = gi default q.2.2 q.1 := k1.out q.1 (by omega) (by omega)
        obtain ⟨d', n1, n2, n3⟩ := pdl hN hrc r d2 (q.1 + 1) b lim (decide ((b - a) / 8 ≤ q.1 - a)) q.2.1 (by omega) (by omega) (by omega) (by omega) (by omega) (by rw [k1.len]; exact hb1) (by rw [k1.len]; exact hd1)
          (fun _ j h1 h2 => by
            show GAccount.Query (gi default d2 (q.1 + 1 - 1)) ≤ GAccount.Query (gi default d2 j)
            rw [show q.1 + 1 - 1 = q.1 by omega, em, k1.out j (by omega) (by omega)]
            exact m5 j (by omega) h2)
        refine ⟨d', n1, (m3.trans default (k1.mono default h0 (Int.le_refl _) (by omega))).trans default (n2.mono default h0 (by omega) (Int.le_refl _)), srt_join (d1 := q.2.2) ⟨m1, m2⟩ m4 m5 (fun k h1 h2 => ?_) ?_ (fun k h1 h2 => ?_) (k2.pi default qk h0 n2 (.inl (by omega))) n3⟩
        · obtain ⟨s, s1, s2, s3⟩ := k1.src k h1 h2
          exact ⟨s, s1, s2, by rw [n2.out k (by omega) (by omega)]; exact s3⟩
        · rw [n2.out q.1 (by omega) (by omega)]; exact em
        · obtain ⟨s, s1, s2, s3⟩ := n2.src k h1 h2
          exact ⟨s, s1, s2, by rw [s3, k1.out s (by omega) (by omega)]⟩
      · rw [decide_eq_false c, cond_false]
        obtain ⟨k1, k2⟩ := hrc q.2.2 (q.1 + 1) b lim (by omega) (by omega) (by omega) hb1 hd1 (fun _ j h1 h2 => by
          show GAccount.Query (gi default _ (q.1 + 1 - 1)) ≤ GAccount.Query (gi default _ j)
          rw [show q.1 + 1 - 1 = q.1 by omega]
          exact m5 j (by omega) h2)
        generalize rc q.2.2 (q.1 + 1) b lim cA = d2 at *
        have em : gi default d2 q.1 = gi default q.2.2 q.1 := k1.out q.1 (by omega) (by omega)
        obtain ⟨d', n1, n2, n3⟩ := pdl hN hrc r d2 a q.1 lim (decide ((b - a) / 8 ≤ b - q.1)) q.2.1 (by omega) (by omega) (by omega) h0 m1 (by rw [k1.len]; omega) (by rw [k1.len]; exact hd1)
          (fun ha j h1 h2 => by
            show GAccount.Query (gi default d2 (a - 1)) ≤ GAccount.Query (gi default d2 j)
            rw [k1.out (a - 1) (by omega) (by omega), k1.out j (by omega) (by omega)]
            exact hl1 ha j h1 (by omega))
        refine ⟨d', n1, (m3.trans default (k1.mono default h0 (by omega) (Int.le_refl _))).trans default (n2.mono default h0 (Int.le_refl _) (by omega)), srt_join (d1 := q.2.2) ⟨m1, m2⟩ m4 m5 (fun k h1 h2 => ?_) ?_ (fun k h1 h2 => ?_) n3 (k2.pi default qk (by omega) n2 (.inr (by omega)))⟩
        · obtain ⟨s, s1, s2, s3⟩ := n2.src k h1 h2
          exact ⟨s, s1, s2, by rw [s3, k1.out s (by omega) (by omega)]⟩
        · rw [n2.out q.1 (by omega) (by omega)]; exact em
        · obtain ⟨s, s1, s2, s3⟩ := k1.src k h1 h2
          exact ⟨s, s1, s2, by rw [n2.out k (by omega) (by omega)]; exact s3⟩
    have fS : ∀ (lim : Int) (d : List GAccount) (p : Int), a ≤ p → p < b → b ≤ (d.length : Int) → d.length = N → LB default qk d a b → ∃ d', pdS cA rc r a b lim wb wp d p = .ret d' ∧ PI default d d' a b ∧ Srt default qk d' a b := fun lim d p hp1 hp2 hb hd hl => by
      unfold pdS
      by_cases c1 : 0 < a
      · rw [decide_eq_true c1, cond_true, Less_eq']
        by_cases c2 : GAccount.Query (d.getD (a - 1).toNat default) < GAccount.Query (d.getD p.toNat default)
        · rw [decide_eq_true c2, Bool.not_true, cond_false]
          exact fT lim d p hp1 hp2 hb hd hl
        · rw [decide_eq_false c2, Bool.not_false, cond_true]
          obtain ⟨m1, m2, m3, m4, m5, m6⟩ := pe_ok (d := d) (a := a) (b := b) (p := p) h0 ⟨hp1, hp2⟩ hb rfl
          generalize slices_partitionEqualCmpFunc_Account d a b p cA = q at *
          have ha := hl c1 p hp1 hp2
          have hpv : GAccount.Query (gi default d p) = GAccount.Query (gi default d (a - 1)) := by
            have h1 : GAccount.Query (gi default d (a - 1)) ≤ GAccount.Query (gi default d p) := ha
            have h2 : ¬ GAccount.Query (gi default d (a - 1)) < GAccount.Query (gi default d p) := c2
            omega
          have hl1 := hl.pi default qk m3
          have hall : ∀ k, a ≤ k → k < q.1 → GAccount.Query (gi default q.2 k) = GAccount.Query (gi default d p) := fun k h1 h2 => by
            have g1 := m5 k h1 h2
            have g2 : GAccount.Query (gi default q.2 (a - 1)) ≤ GAccount.Query (gi default q.2 k) := hl1 c1 k h1 (by omega)
            rw [m3.out (a - 1) (by omega) (by omega)] at g2
            omega
          obtain ⟨d', n1, n2, n3⟩ := pdl hN hrc r q.2 q.1 b lim wb wp (by omega) (by omega) (by omega) (by omega) m2 (by rw [m3.len]; exact hb) (by rw [m3.len]; exact hd)
            (fun _ j h1 h2 => by
              show GAccount.Query (gi default q.2 (q.1 - 1)) ≤ GAccount.Query (gi default q.2 j)
              rw [hall (q.1 - 1) (by omega) (by omega)]
              have := m6 j h1 h2; omega)
          refine ⟨d', n1, m3.trans default (n2.mono default h0 (by omega) (Int.le_refl _)), fun i j h1 h2 h3 => ?_⟩
          show GAccount.Query (gi default d' i) ≤ GAccount.Query (gi default d' j)
          by_cases c3 : q.1 ≤ i
          · exact n3 i j c3 h2 h3
          · rw [n2.out i (by omega) (by omega), hall i h1 (by omega)]
            by_cases c4 : q.1 ≤ j
            · obtain ⟨s, s1, s2, s3⟩ := n2.src j c4 h3
              rw [s3]; have := m6 s s1 s2; omega
            · rw [n2.out j (by omega) (by omega), hall j (by omega) (by omega)]; exact Int.le_refl _
      · rw [decide_eq_false c1, cond_false]
        exact fT lim d p hp1 hp2 hb hd hl
    have fP : ∀ (d : List GAccount) (p : Int), a ≤ p → p < b → b ≤ (d.length : Int) → d.length = N → LB default qk d a b → ∃ d', pdP cA rc r a b lim wb wp d p = .ret d' ∧ PI default d d' a b ∧ Srt default qk d' a b := fun d p hp1 hp2 hb hd hl => by
      unfold pdP
      obtain ⟨k1, k2⟩ := pin_ok (d := d) (a := a) (b := b) h0 (by omega) hb hl
      generalize slices_partialInsertionSortCmpFunc_Account d a b cA = q at *
      cases e : q.1
      · rw [cond_false]
        obtain ⟨d', n1, n2, n3⟩ := fS lim q.2 p hp1 hp2 (by rw [k1.len]; exact hb) (by rw [k1.len]; exact hd) (hl.pi default qk k1)
        exact ⟨d', n1, k1.trans default n2, n3⟩
      · rw [cond_true]
        exact ⟨q.2, rfl, k1, k2 e⟩
    -- what comes ahead
    have via : ∀ (X : LR Unit (List GAccount)) (d1 : List GAccount), PI default d d1 a b → (∃ d', X = .ret d' ∧ PI default d1 d' a b ∧ Srt default qk d' a b) → ∃ d', X = .ret d' ∧ PI default d d' a b ∧ Srt default qk d' a b := fun X d1 p1 ⟨d', n1, n2, n3⟩ => ⟨d', n1, p1.trans default n2, n3⟩
    by_cases c1 : lim = 0
    · rw [beq_iff_eq.2 c1, cond_true]
      obtain ⟨k1, k2⟩ := heap_ok (d := d) h0 hab hb
      exact ⟨_, rfl, k1, k2⟩
    rw [beq_false_of_ne c1, cond_false]
    cases wb
    · rw [Bool.not_false, cond_true]
      have p1 := bp_ok (cm := cA) (d := d) (a := a) (b := b) h0 (by omega) hb (by omega)
      generalize slices_breakPatternsCmpFunc_Account d a b cA = d1 at *
      have hp := cp_rng (cm := cA) d1 (a := a) (b := b) (by omega)
      generalize slices_choosePivotCmpFunc_Account d1 a b cA = pv at *
      have hb1 : b ≤ (d1.length : Int) := by rw [p1.len]; exact hb
      cases pv.2 == 2
      · rw [cond_false]
        exact via _ d1 p1 (fS _ d1 _ hp.1 hp.2 hb1 (by rw [p1.len]; exact hd) (hl.pi default qk p1))
      · rw [cond_true]
        have p2 := rev_ok (cm := cA) (d := d1) (a := a) (b := b) h0 hab hb1
        have p3 := p1.trans default p2
        exact via _ _ p3 (fS _ _ _ (by omega) (by omega) (by rw [p3.len]; exact hb) (by rw [p3.len]; exact hd) (hl.pi default qk p3))
    · rw [Bool.not_true, cond_false]
      have hp := cp_rng (cm := cA) d (a := a) (b := b) (by omega)
      generalize slices_choosePivotCmpFunc_Account d a b cA = pv at *
      cases pv.2 == 2
      · rw [cond_false]
        cases wp
        · rw [cond_false]; exact fS _ d _ hp.1 hp.2 hb hd hl
        · rw [cond_true]
          cases pv.2 == 1
          · rw [cond_false]; exact fS _ d _ hp.1 hp.2 hb hd hl
          · rw [cond_true]; exact fP d _ hp.1 hp.2 hb hd hl
      · rw [cond_true]
        have p2 := rev_ok (cm := cA) (d := d) (a := a) (b := b) h0 hab hb
        cases wp
        · rw [cond_false]; exact via _ _ p2 (fS _ _ _ (by omega) (by omega) (by rw [p2.len]; exact hb) (by rw [p2.len]; exact hd) (hl.pi default qk p2))
        · rw [cond_true]; exact via _ _ p2 (fP _ _ (by omega) (by omega) (by rw [p2.len]; exact hb) (by rw [p2.len]; exact hd) (hl.pi default qk p2))
theorem pdq_ok {N : Nat} (hN : N ≤ 65535) : ∀ (fu : Nat) (d : List GAccount) (a b lim : Int), (b - a).toNat < fu → 0 ≤ a → a ≤ b → b ≤ (d.length : Int) → d.length = N → LB default qk d a b → PI default d (slices_pdqsortCmpFunc_Account fu d a b lim cA) a b ∧ Srt default qk (slices_pdqsortCmpFunc_Account fu d a b lim cA) a b
  | 0, d, a, b, lim, h, h0, hab, hb, hd, hl => by omega
  | fu + 1, d, a, b, lim, h, h0, hab, hb, hd, hl => by
    rw [slices_pdqsortCmpFunc_Account]
    unfold slices_pdqsortCmpFunc_Account_F
    obtain ⟨d', k1, k2, k3⟩ := pdl (rc := slices_pdqsortCmpFunc_Account fu) (n := fu) hN (fun d a b lim h1 h2 h3 h4 h5 h6 => pdq_ok hN fu d a b lim h1 h2 h3 h4 h5 h6) ((b - a).toNat + 1) d a b lim true true (by omega) (by omega) (by omega) h0 hab hb hd hl
    rw [k1]
    exact ⟨k2, k3⟩

theorem SortA_pw (l : List GAccount) (hl : l.length ≤ 65535) : (slices_SortFunc_Account l (fun x0 x1 => ledger_Accounts_1 x0 x1)).Perm l ∧ (slices_SortFunc_Account l (fun x0 x1 => ledger_Accounts_1 x0 x1)).Pairwise (fun a b => a.Query ≤ b.Query) := by
  show (slices_SortFunc_Account l cA).Perm l ∧ (slices_SortFunc_Account l cA).Pairwise (fun a b => a.Query ≤ b.Query)
  unfold slices_SortFunc_Account
  dsimp only
  obtain ⟨k1, k2⟩ := pdq_ok hl (l.length + 1) l 0 (l.length : Int) (bits_Len (BitVec.ofInt 64 ((l.length : Nat) : Int))) (by omega) (by omega) (by omega) (Int.le_refl _) rfl (fun h => by omega)
  generalize slices_pdqsortCmpFunc_Account (l.length + 1) l 0 (l.length : Int) (bits_Len (BitVec.ofInt 64 ((l.length : Nat) : Int))) cA = d' at *
  refine ⟨k1.perm, List.pairwise_iff_getElem.2 fun i j hi hj hij => ?_⟩
  have e := k1.len
  have := k2 (i : Int) (j : Int) (by omega) (by omega) (by omega)
  unfold gi at this
  rw [show ((i : Int)).toNat = i by omega, show ((j : Int)).toNat = j by omega, List.getD_eq_getElem?_getD, List.getD_eq_getElem?_getD, List.getElem?_eq_getElem hi, List.getElem?_eq_getElem hj] at this
  exact this
theorem Acc_L1 : ∀ (l : List (Int × GAccount)) (out : List GAccount), ledger_Accounts_L1 l out = out ++ l.map (·.2)
  | [], out => by simp [ledger_Accounts_L1]
  | e :: l, out => by rw [ledger_Accounts_L1, Acc_L1 l]; simp

theorem Acc_sort {of dn : List (Int × GAccount)} {out : List GAccount} {n : Int} (ho : AccM of n) (hn : (of.map (·.1)).Nodup) (hp : dn.Perm of) (hl : of.length ≤ 65535) (hr : ledger_Accounts_L1 dn [] = out) :
    slices_SortFunc_Account (ledger_Accounts_L1 of []) (fun x0 x1 => ledger_Accounts_1 x0 x1) = slices_SortFunc_Account out (fun x0 x1 => ledger_Accounts_1 x0 x1) := by
  subst hr
  rw [Acc_L1, Acc_L1, List.nil_append, List.nil_append]
  have hk : (of.map (·.2)).map GAccount.Query = of.map (·.1) := by
    rw [List.map_map]
    exact List.map_congr_left fun e he => (ho e he).2.1
  have hq := hp.map (·.2)
  obtain ⟨a1, a2⟩ := SortA_pw (of.map (·.2)) (by simpa using hl)
  obtain ⟨b1, b2⟩ := SortA_pw (dn.map (·.2)) (by rw [hq.length_eq]; simpa using hl)
  exact eq_of_perm_key (a1.trans (hq.symm.trans b1.symm)) (pw_lt a1 a2 (by rw [hk]; exact hn)) (pw_lt (b1.trans hq) b2 (by rw [hk]; exact hn))

theorem Len_of (l : List GTurn) : ∀ (m : Nat) (of : List (Int × GAccount)) (i : Int), (ledger_Accounts_L0 l m of i).length ≤ of.length + m
  | 0, of, i => Nat.le_refl _
  | m + 1, of, i => by
    rw [ledger_Accounts_L0]
    refine Nat.le_trans (Len_of l m _ _) ?_
    have := mset_len (of := of) (l.getD i.toNat default).Query (ledger_add (GAccount.mk ((l.getD i.toNat default).Query) (((mget of ((l.getD i.toNat default).Query)).getD (default : GAccount)).Turns) (((mget of ((l.getD i.toNat default).Query)).getD (default : GAccount)).Steps) (((mget of ((l.getD i.toNat default).Query)).getD (default : GAccount)).Cost)) (l.getD i.toNat default))
    omega
theorem add23_eq (a : GAccount) (x : GTurn) : ledger_add a x = flqref19_add a x := by
  have h : ∀ a b : Int, counter_Add a b = flqref1_Add a b := fun a b => by
    unfold counter_Add flqref1_Add counter_Clamp flqref1_Clamp
    dsimp only
    omega
  unfold ledger_add flqref19_add
  simp only [h]
theorem add23_q (a : GAccount) (x : GTurn) : (flqref19_add a x).Query = a.Query := by
  unfold flqref19_add
  all_goals (cases decide (0 < x.Quantum) <;> rfl)
theorem AccE_step {of : List (Int × GAccount)} {out : List GAccount} (h : AccE of out) (x : GTurn) {P R : List GAccount} (ho : out = P ++ R) (hP : ∀ e ∈ P, e.Query < x.Query) :
    (∀ e R', R = e :: R' → e.Query = x.Query → AccE (mset of x.Query (ledger_add ⟨x.Query, ((mget of x.Query).getD default).Turns, ((mget of x.Query).getD default).Steps, ((mget of x.Query).getD default).Cost⟩ x)) (P ++ flqref19_add e x :: R')) ∧
    ((∀ e ∈ R, x.Query < e.Query) → AccE (mset of x.Query (ledger_add ⟨x.Query, ((mget of x.Query).getD default).Turns, ((mget of x.Query).getD default).Steps, ((mget of x.Query).getD default).Cost⟩ x)) (P ++ flqref19_add ⟨x.Query, 0, 0, 0⟩ x :: R)) := by
  subst ho
  have hs := List.pairwise_append.1 h.s
  refine ⟨fun e R' hR he => ?_, fun hR => ?_⟩
  · subst hR
    have hs2 := List.pairwise_cons.1 hs.2.1
    have hm : e ∈ of.map (·.2) := h.p.mem_iff.2 (by simp)
    obtain ⟨⟨y, u⟩, h1, h2⟩ := List.mem_map.1 hm
    dsimp only at h2; subst h2
    have hy := h.q _ h1
    dsimp only at hy
    have hg : ∃ v, mget of x.Query = some v := by
      cases e1 : mget of x.Query with
      | some v => exact ⟨v, rfl⟩
      | none => exact absurd (List.mem_map.2 ⟨_, h1, by show y = x.Query; omega⟩) (mget_none.1 e1)
    obtain ⟨v, hv⟩ := hg
    have hvm := mget_mem hv
    have hvq := h.q _ hvm
    dsimp only at hvq
    have hvu : v = u := by
      have : v ∈ P ++ u :: R' := h.p.mem_iff.1 (List.mem_map.2 ⟨_, hvm, rfl⟩)
      rcases List.mem_append.1 this with h3 | h3
      · have := hP _ h3; omega
      · rcases List.mem_cons.1 h3 with h3 | h3
        · exact h3
        · have := hs2.1 _ h3; omega
    subst hvu
    have ea : (⟨x.Query, v.Turns, v.Steps, v.Cost⟩ : GAccount) = v := by
      obtain ⟨a, b, c, d⟩ := v
      dsimp only at hvq; subst hvq; rfl
    rw [hv, Option.getD_some, ea, add23_eq]
    have hq := add23_q v x
    obtain ⟨A, B, k1, k2⟩ := mset_split (flqref19_add v x) hv
    refine ⟨mset_q h.q (hq.trans hvq), ?_, ?_⟩
    · rw [k2, List.map_append, List.map_cons]
      have hp := h.p
      rw [k1, List.map_append, List.map_cons] at hp
      have hp2 : (A.map (·.2) ++ B.map (·.2)).Perm (P ++ R') := List.Perm.cons_inv ((List.perm_middle.symm.trans hp).trans List.perm_middle)
      exact (List.perm_middle.trans (hp2.cons _)).trans List.perm_middle.symm
    · refine List.pairwise_append.2 ⟨hs.1, List.pairwise_cons.2 ⟨fun b hb => ?_, hs2.2⟩, fun a ha b hb => ?_⟩
      · have := hs2.1 b hb; omega
      · rcases List.mem_cons.1 hb with rfl | hb
        · have := hP a ha; omega
        · exact hs.2.2 a ha b (List.mem_cons_of_mem _ hb)
  · have hg : mget of x.Query = none := by
      cases e1 : mget of x.Query with
      | none => rfl
      | some v =>
        have hvm := mget_mem e1
        have hvq := h.q _ hvm
        dsimp only at hvq
        have : v ∈ P ++ R := h.p.mem_iff.1 (List.mem_map.2 ⟨_, hvm, rfl⟩)
        rcases List.mem_append.1 this with h3 | h3
        · have := hP _ h3; omega
        · have := hR _ h3; omega
    have ea : (⟨x.Query, (default : GAccount).Turns, (default : GAccount).Steps, (default : GAccount).Cost⟩ : GAccount) = ⟨x.Query, 0, 0, 0⟩ := rfl
    rw [hg, Option.getD_none, ea, add23_eq, mset_new _ hg]
    have hq := add23_q ⟨x.Query, 0, 0, 0⟩ x
    dsimp only at hq
    refine ⟨fun e he => ?_, ?_, ?_⟩
    · rcases List.mem_append.1 he with he | he
      · exact h.q e he
      · rw [List.mem_singleton] at he; subst he; exact hq
    · rw [List.map_append, List.map_cons, List.map_nil]
      exact ((List.perm_append_comm.trans (h.p.cons _))).trans List.perm_middle.symm
    · refine List.pairwise_append.2 ⟨hs.1, List.pairwise_cons.2 ⟨fun b hb => ?_, hs.2.1⟩, fun a ha b hb => ?_⟩
      · have := hR b hb; omega
      · rcases List.mem_cons.1 hb with rfl | hb
        · have := hP a ha; omega
        · exact hs.2.2 a ha b hb
theorem oL1 (l : List GTurn) (out : List GAccount) (i : Int) : ∀ (m : Nat) (k : Int), 0 ≤ k → k + m = (out.length : Int) → (∀ j : Nat, j < k.toNat → (out.getD j default).Query < (l.getD i.toNat default).Query) →
    ∃ k', flqref19_Accounts_L1 l out i m k = k' ∧ 0 ≤ k' ∧ k' ≤ (out.length : Int) ∧ (∀ j : Nat, j < k'.toNat → (out.getD j default).Query < (l.getD i.toNat default).Query) ∧ (k' < (out.length : Int) → ¬ ((out.getD k'.toNat default).Query < (l.getD i.toNat default).Query))
  | 0, k, h0, h1, h => ⟨k, rfl, h0, by omega, h, fun hk => by omega⟩
  | m + 1, k, h0, h1, h => by
    rw [flqref19_Accounts_L1]
    by_cases e : (out.getD k.toNat default).Query < (l.getD i.toNat default).Query
    · rw [decide_eq_true e, cond_true]
      refine oL1 l out i m (k + 1) (by omega) (by omega) fun j hj => ?_
      by_cases ej : j = k.toNat
      · subst ej; exact e
      · exact h j (by omega)
    · rw [decide_eq_false e]
      exact ⟨k, rfl, h0, by omega, h, fun _ => e⟩
theorem AccE_L0 (l : List GTurn) : ∀ (m : Nat) (of : List (Int × GAccount)) (out : List GAccount) (i : Int), AccE of out → AccE (ledger_Accounts_L0 l m of i) (flqref19_Accounts_L0 l m out i)
  | 0, of, out, i, h => h
  | m + 1, of, out, i, h => by
    rw [ledger_Accounts_L0, flqref19_Accounts_L0]
    obtain ⟨k, e1, k0, k1, k2, k3⟩ := oL1 l out i ((((out.length : Nat) : Int) - 0).toNat) 0 (Int.le_refl 0) (by omega) (fun j hj => by omega)
    rw [e1]
    dsimp only
    generalize hx : l.getD i.toNat default = x at *
    have ho : out = out.take k.toNat ++ out.drop k.toNat := (List.take_append_drop _ _).symm
    have hlen : (out.take k.toNat).length = k.toNat := by rw [List.length_take]; omega
    have hP : ∀ e ∈ out.take k.toNat, e.Query < x.Query := fun e he => by
      obtain ⟨j, hj, rfl⟩ := List.mem_iff_getElem.1 he
      rw [hlen] at hj
      have := k2 j hj
      rw [List.getD_eq_getElem?_getD, List.getElem?_eq_getElem (by omega)] at this
      rw [List.getElem_take]; exact this
    have hst := AccE_step h x ho hP
    have hnew : ∀ y : GAccount, (((out.take k.toNat).drop 0 ++ [y]) ++ (out.take out.length).drop k.toNat) = out.take k.toNat ++ y :: out.drop k.toNat := fun y => by
      rw [List.drop_zero, List.take_length]; simp
    by_cases c1 : k = (out.length : Int)
    · rw [beq_iff_eq.2 c1, cond_true, hnew, getD_mid2 _ _ _ _ hlen.symm, set_mid _ _ _ _ hlen.symm]
      refine AccE_L0 l m _ _ _ (hst.2 fun e he => ?_)
      rw [c1, show ((out.length : Int)).toNat = out.length by omega, List.drop_length] at he
      cases he
    · rw [beq_false_of_ne c1, cond_false]
      have hk : k.toNat < out.length := by omega
      have hd := List.drop_eq_getElem_cons hk
      have hge := k3 (by omega)
      have hgd : out.getD k.toNat default = out[k.toNat] := by rw [List.getD_eq_getElem?_getD, List.getElem?_eq_getElem hk]; rfl
      rw [hgd] at hge ⊢
      by_cases c2 : (out[k.toNat]).Query = x.Query
      · have c2' : ((out[k.toNat]).Query != x.Query) = false := by simp [c2]
        rw [c2', cond_false]
        have := hst.1 _ _ hd c2
        have es : out.set k.toNat (flqref19_add (out[k.toNat]) x) = out.take k.toNat ++ flqref19_add (out[k.toNat]) x :: out.drop (k.toNat + 1) := by
          rw [List.set_eq_take_append_cons_drop, if_pos hk]
        rw [es]
        exact AccE_L0 l m _ _ _ this
      · have c2' : ((out[k.toNat]).Query != x.Query) = true := by simp [c2]
        rw [c2', cond_true, hnew, getD_mid2 _ _ _ _ hlen.symm, set_mid _ _ _ _ hlen.symm]
        refine AccE_L0 l m _ _ _ (hst.2 fun e he => ?_)
        have hs := (List.pairwise_append.1 (ho ▸ h.s)).2.1
        rw [hd] at he hs
        rcases List.mem_cons.1 he with rfl | he
        · omega
        · have := (List.pairwise_cons.1 hs).1 _ he; omega
theorem Accs23_eq (l : List GTurn) : ledger_Accounts l = flqref19_Accounts l := by
  unfold ledger_Accounts flqref19_Accounts
  rw [Valid23_eq]
  dsimp only
  cases hv : flqref19_ValidLog l
  · rfl
  · simp only [Bool.not_true, cond_false]
    have hE := AccE_L0 l ((l.length : Int) - 0).toNat [] [] 0 ⟨(fun e he => by cases he), List.Perm.refl _, List.Pairwise.nil⟩
    have hn := Len_of l ((l.length : Int) - 0).toNat [] 0
    have hl := RValid_len hv
    generalize ledger_Accounts_L0 l ((l.length : Int) - 0).toNat [] 0 = of at *
    generalize flqref19_Accounts_L0 l ((l.length : Int) - 0).toNat [] 0 = out at *
    rw [Acc_L1, List.nil_append]
    simp only [List.length_nil] at hn
    obtain ⟨a1, a2⟩ := SortA_pw (of.map (·.2)) (by rw [List.length_map]; omega)
    have hp := a1.trans hE.p
    refine eq_of_perm_key hp ?_ hE.s
    refine pw_lt (l := out) hp a2 ?_
    rw [List.nodup_iff_pairwise_ne, List.pairwise_map]
    exact hE.s.imp fun h => by omega
theorem sameAcc_refl (a : List GAccount) : flqlaw23_sameAccounts a a = true := by
  have h : ∀ (m : Nat) (i : Int), flqlaw23_sameAccounts_L0 a a m i = .brk () := fun m => by
    induction m with
    | zero => intro i; rfl
    | succ m ih => intro i; rw [flqlaw23_sameAccounts_L0, ih]; simp
  unfold flqlaw23_sameAccounts
  rw [h]; simp
theorem Total23_L0 (l : List GTurn) : ∀ (m : Nat) (a b c d i : Int), ledger_Total_L0 l m a b c d i = flqref19_Total_L0 l m a b c d i
  | 0, a, b, c, d, i => rfl
  | m + 1, a, b, c, d, i => by
    rw [ledger_Total_L0, flqref19_Total_L0]
    try dsimp only
    rw [add23_eq, Total23_L0 l m]
theorem Total23_eq (l : List GTurn) : ledger_Total l = flqref19_Total l := by
  unfold ledger_Total flqref19_Total
  rw [Valid23_eq, Total23_L0]
  all_goals (cases flqref19_ValidLog l <;> rfl)
theorem LValid_cost {l : List GTurn} (h : ledger_Valid l = true) : ∀ x ∈ l, 0 ≤ ledger_Longest_1 x ∧ ledger_Longest_1 x ≤ 1073741824 := fun x hx => by
  have := LValid_ok h x hx
  have h1 := this.s; have h2 := this.c
  unfold ledger_Longest_1; omega
theorem Long23_L0 (l : List GTurn) (q : Int) : ∀ (m : Nat) (b s : Int) (o : Bool) (i : Int), ledger_greatest_L0 l q (fun x => ledger_Longest_1 x) m b s o i = flqref19_Longest_L0 l q m b s o i
  | 0, b, s, o, i => rfl
  | m + 1, b, s, o, i => by
    rw [ledger_greatest_L0, flqref19_Longest_L0]
    simp only [Long23_L0 l q m, bne]
    all_goals (cases ((l.getD i.toNat default).Query == q) <;> cases decide (0 < (l.getD i.toNat default).Quantum) <;> cases o <;> rfl)
theorem Long23_eq (l : List GTurn) (q : Int) : ledger_Longest l q = flqref19_Longest l q := by
  unfold ledger_Longest ledger_greatest flqref19_Longest
  rw [Valid23_eq]
  dsimp only
  rw [Long23_L0]
theorem Between1_rng (x : GTurn) (b : Int) : 0 ≤ ledger_Between_1 x b ∧ ledger_Between_1 x b ≤ 1073741824 := by
  unfold ledger_Between_1
  simp only [Bool.cond_eq_ite]
  repeat' split
  all_goals omega
theorem Betw23_same (l : List GTurn) (a : Int) : ∀ (m : Nat) (o : Bool) (i : Int), ledger_greatest_L0 l a (fun x => ledger_Between_1 x a) m 0 0 o i = 0
  | 0, o, i => rfl
  | m + 1, o, i => by
    rw [ledger_greatest_L0]
    have ih := fun o => Betw23_same l a m o (i + 1)
    generalize l.getD i.toNat default = x at *
    unfold ledger_Between_1
    have hm : max (0 : Int) 0 = 0 := rfl
    cases e : (x.Query == a)
    · simp only [cond_false, e, Int.add_zero]; exact ih _
    · simp only [cond_true, hm]
      cases decide (0 < x.Quantum) <;> cases o <;> simp only [cond_true, cond_false] <;> exact ih _
theorem Betw23_L0 (l : List GTurn) (hl : ∀ x ∈ l, LTok x) (a b : Int) (hab : ¬ a = b) : ∀ (m : Nat) (u s : Int) (o : Bool) (i : Int), 0 ≤ i → i + m = (l.length : Int) → ledger_greatest_L0 l a (fun x => ledger_Between_1 x b) m u s o i = flqref19_Between_L0 l a b m u s o i
  | 0, u, s, o, i, h0, h1 => rfl
  | m + 1, u, s, o, i, h0, h1 => by
    have hx := (hl _ (getD_mem (xs := l) (i := i.toNat) (d := default) (by omega))).n
    rw [ledger_greatest_L0, flqref19_Between_L0]
    have ih := fun u s o => Betw23_L0 l hl a b hab m u s o (i + 1) (by omega) (by omega)
    simp only [ih]
    generalize l.getD i.toNat default = x at *
    unfold ledger_Between_1
    by_cases e0 : x.Quantum = 0
    · have : ¬ (0 < x.Quantum) := by omega
      simp only [beq_iff_eq.2 e0, decide_eq_false this, cond_true, cond_false]
      cases (x.Query == a) <;> cases (x.Query == b) <;> simp
    · have : 0 < x.Quantum := by omega
      simp only [beq_false_of_ne e0, decide_eq_true this, cond_true, cond_false]
      by_cases e1 : x.Query = a
      · have e2 : ¬ x.Query = b := fun h => hab (e1.symm.trans h)
        simp only [beq_iff_eq.2 e1, beq_false_of_ne e2, cond_true, cond_false]
      · simp only [beq_false_of_ne e1, cond_false]
        cases (x.Query == b) <;> simp
theorem Betw23_eq (l : List GTurn) (a b : Int) : ledger_Between l a b = flqref19_Between l a b := by
  unfold ledger_Between ledger_greatest flqref19_Between
  rw [Valid23_eq]
  dsimp only
  cases hv : flqref19_ValidLog l
  · rfl
  · simp only [Bool.not_true, cond_false]
    by_cases e : a = b
    · subst e
      rw [Betw23_same]; simp
    · rw [beq_false_of_ne e, cond_false, Betw23_L0 l (RValid_ok hv) a b e _ _ _ _ _ (by omega) (by omega)]
theorem agrees23_true (l : List GTurn) (a b : Int) : flqlaw23_agrees l a b = true := by
  unfold flqlaw23_agrees
  dsimp only
  rw [Valid23_eq, Accs23_eq, Total23_eq, Long23_eq, Betw23_eq, sameAcc_refl]
  simp
theorem sane23_true : flqlaw23_sane = true := by kernel_rfl
theorem LedgerAgrees_true (t : List Int) (l : List GTurn) (a b : Int) : flqlaw23_LedgerAgrees t l a b = true := by
  have h : ∀ (m : Nat) (k i : Int), ∃ k', flqlaw23_LedgerAgrees_L0 t a b m k i = .brk k' := fun m => by
    induction m with
    | zero => intro k i; exact ⟨_, rfl⟩
    | succ m ih =>
      intro k i
      rw [flqlaw23_LedgerAgrees_L0]
      simp only [agrees23_true, Bool.not_true, cond_false]
      exact ih _ _
  unfold flqlaw23_LedgerAgrees
  obtain ⟨k', e⟩ := h 6 0 0
  rw [e, agrees23_true, sane23_true]
  simp
theorem st32 : stTy Try.prog 32 = some ([(0, 1), (1, 1)], [.slice none 0 0, vi 0]) := by kernel_rfl
theorem ca22 : callable Try.prog 22 = true := by kernel_rfl
theorem sz22 : slZero Try.prog 22 = some [vi 0] := by kernel_rfl
theorem ca7 : callable Try.prog 7 = true := by kernel_rfl
theorem st43 : stTy Try.prog 43 = some ([(0, 1), (1, 1), (2, 1), (3, 1), (4, 1)], [vi 0, vi 0, vi 0, vi 0, vb false]) := by kernel_rfl
theorem ze43 : zeroOf Try.prog 43 = some (.agg #[vi 0, vi 0, vi 0, vi 0, vb false]) := by kernel_rfl
theorem sh43 : tyShape Try.prog 43 = some (true, 5) := by kernel_rfl
theorem fo43_3 : fldOff Try.prog 43 3 = some 3 := by kernel_rfl
theorem sl23 : slTy Try.prog 23 = some (43, 5, 40) := by kernel_rfl
theorem sz23 : slZero Try.prog 23 = some [vi 0, vi 0, vi 0, vi 0, vb false] := by kernel_rfl
theorem fo43_2 : fldOff Try.prog 43 2 = some 2 := by kernel_rfl
theorem fo43_1 : fldOff Try.prog 43 1 = some 1 := by kernel_rfl
theorem fo32_1 : fldOff Try.prog 32 1 = some 1 := by kernel_rfl
theorem sh3 : tyShape Try.prog 3 = some (false, 1) := by kernel_rfl
theorem fo32_0 : fldOff Try.prog 32 0 = some 0 := by kernel_rfl
theorem sh22 : tyShape Try.prog 22 = some (false, 1) := by kernel_rfl
theorem sl22 : slTy Try.prog 22 = some (3, 1, 8) := by kernel_rfl
theorem ca20 : callable Try.prog 20 = true := by kernel_rfl
theorem fmix : Try.prog.follows .mixedOrders = true := by kernel_rfl
theorem mt45 : mpTy Try.prog 45 = some (3, 4) := by kernel_rfl
theorem ze4 : zeroOf Try.prog 4 = some (vb false) := by kernel_rfl
theorem fo43_0 : fldOff Try.prog 43 0 = some 0 := by kernel_rfl
theorem ca21 : callable Try.prog 21 = true := by kernel_rfl
theorem fo43_4 : fldOff Try.prog 43 4 = some 4 := by kernel_rfl
theorem sh4 : tyShape Try.prog 4 = some (false, 1) := by kernel_rfl
theorem eqi38 : eqInts Try.prog 38 4 = true := by kernel_rfl
theorem ze38 : zeroOf Try.prog 38 = some (.agg #[vi 0, vi 0, vi 0, vi 0]) := by kernel_rfl
theorem fo38_1 : fldOff Try.prog 38 1 = some 1 := by kernel_rfl
theorem fo38_2 : fldOff Try.prog 38 2 = some 2 := by kernel_rfl
theorem ca31 : callable Try.prog 31 = true := by kernel_rfl
theorem fo38_3 : fldOff Try.prog 38 3 = some 3 := by kernel_rfl
theorem sh38 : tyShape Try.prog 38 = some (true, 4) := by kernel_rfl
theorem sl35 : slTy Try.prog 35 = some (38, 4, 32) := by kernel_rfl
theorem ca36 : callable Try.prog 36 = true := by kernel_rfl
theorem ca48 : callable Try.prog 48 = true := by kernel_rfl
theorem un3 : Try.prog.underlying 3 = some (.int .i64) := by kernel_rfl
theorem un54 : Try.prog.underlying 54 = some (.int .u64) := by kernel_rfl
theorem un68 : Try.prog.underlying 68 = some (.int .u64) := by kernel_rfl
theorem un5 : Try.prog.underlying 5 = some (.int .u8) := by kernel_rfl
theorem un9 : Try.prog.underlying 9 = some .string := by kernel_rfl
theorem ca46 : callable Try.prog 46 = true := by kernel_rfl
theorem ca33 : callable Try.prog 33 = true := by kernel_rfl
theorem sh69 : tyShape Try.prog 69 = some (false, 1) := by kernel_rfl
theorem un69 : Try.prog.underlying 69 = some (.int .u64) := by kernel_rfl
theorem ze69 : zeroOf Try.prog 69 = some (u64 (0#64)) := by kernel_rfl
theorem ca49 : callable Try.prog 49 = true := by kernel_rfl
theorem ca50 : callable Try.prog 50 = true := by kernel_rfl
theorem ca53 : callable Try.prog 53 = true := by kernel_rfl
theorem ca52 : callable Try.prog 52 = true := by kernel_rfl
theorem ze3 : zeroOf Try.prog 3 = some (vi 0) := by kernel_rfl
theorem ca51 : callable Try.prog 51 = true := by kernel_rfl
theorem ca37 : callable Try.prog 37 = true := by kernel_rfl
theorem ca38 : callable Try.prog 38 = true := by kernel_rfl
theorem ca40 : callable Try.prog 40 = true := by kernel_rfl
theorem ca41 : callable Try.prog 41 = true := by kernel_rfl
theorem ca42 : callable Try.prog 42 = true := by kernel_rfl
theorem ca43 : callable Try.prog 43 = true := by kernel_rfl
theorem ca44 : callable Try.prog 44 = true := by kernel_rfl
theorem ca32 : callable Try.prog 32 = true := by kernel_rfl
theorem ca39 : callable Try.prog 39 = true := by kernel_rfl
theorem ca34 : callable Try.prog 34 = true := by kernel_rfl
theorem fo38_0 : fldOff Try.prog 38 0 = some 0 := by kernel_rfl
theorem ca26 : callable Try.prog 26 = true := by kernel_rfl
theorem ca9 : callable Try.prog 9 = true := by kernel_rfl
theorem mt48 : mpTy Try.prog 48 = some (3, 38) := by kernel_rfl
theorem ca23 : callable Try.prog 23 = true := by kernel_rfl
theorem sz35 : slZero Try.prog 35 = some [vi 0, vi 0, vi 0, vi 0] := by kernel_rfl
theorem ca25 : callable Try.prog 25 = true := by kernel_rfl
theorem ca24 : callable Try.prog 24 = true := by kernel_rfl
theorem ca47 : callable Try.prog 47 = true := by kernel_rfl
theorem ca35 : callable Try.prog 35 = true := by kernel_rfl
theorem ca10 : callable Try.prog 10 = true := by kernel_rfl
theorem st38 : stTy Try.prog 38 = some ([(0, 1), (1, 1), (2, 1), (3, 1)], [vi 0, vi 0, vi 0, vi 0]) := by kernel_rfl
theorem ca27 : callable Try.prog 27 = true := by kernel_rfl
theorem ca29 : callable Try.prog 29 = true := by kernel_rfl
theorem ca28 : callable Try.prog 28 = true := by kernel_rfl
theorem ca30 : callable Try.prog 30 = true := by kernel_rfl
theorem un4 : Try.prog.underlying 4 = some .bool := by kernel_rfl
theorem ca12 : callable Try.prog 12 = true := by kernel_rfl
theorem ca13 : callable Try.prog 13 = true := by kernel_rfl
theorem ca11 : callable Try.prog 11 = true := by kernel_rfl
theorem ca14 : callable Try.prog 14 = true := by kernel_rfl
theorem ca15 : callable Try.prog 15 = true := by kernel_rfl
theorem ca16 : callable Try.prog 16 = true := by kernel_rfl
theorem ca17 : callable Try.prog 17 = true := by kernel_rfl
theorem ca18 : callable Try.prog 18 = true := by kernel_rfl
theorem ca19 : callable Try.prog 19 = true := by kernel_rfl
theorem ca4 : callable Try.prog 4 = true := by kernel_rfl
theorem ca6 : callable Try.prog 6 = true := by kernel_rfl
theorem ca5 : callable Try.prog 5 = true := by kernel_rfl
theorem ca8 : callable Try.prog 8 = true := by kernel_rfl
theorem fn4 (l : List Int) (la0 : Option Addr) (lk0 : Nat) (rr : Unit) (hrr : flqgen_New l = rr) : FT Try.prog 4 #[vl la0 lk0 l] [S la0 lk0 l] (fun g : Value => True) (fun g => g) (fun g => [Cl g [vl la0 lk0 l, vi 0]]) := by
 refine FTi Try.func4 fun w0 M0 F0 => ?_
 refine Fb 8 0 fun hl1 => ?_
 refine Fo 0 fun ho2 => ?_
 refine KS ?_
 refine Oq Va (KS ?_)
 refine Oq Vm (Oq (Vbd st32 [vl la0 lk0 l, vi 0]) (Oa (AbO [vl la0 lk0 l, vi 0]) fun p3 => Oq Va (KS ?_)))
 have hq := q4 hrr () (by simp only [flqgen_New, cs4]); subst hq
 exact Kr p3 rfl (.tmp rfl .nil) [0] trivial
theorem fn22 (n : Int) (hn_0 : i64ok n) (rr : Bool) (hrr : flqref19_counter n = rr) : FT Try.prog 22 #[vi n] [] (fun g : Unit => True) (fun g => vb rr) (fun g => []) := by
 refine FTi Try.func22 fun w0 M0 F0 => ?_
 unfold i64ok at hn_0
 refine KS ?_
 refine Oq Va (KS ?_)
 refine Oq Vm (Oq Vgeq (Oq Vm ?_))
 refine Js 5 ?_ ?_
 · intro h1
   have g2 := of_decide_eq_true h1
   refine Oq Vm (Oq Vleq (Oq Vpt (Oq Va (KS ?_))))
   have hq := q4 hrr (decide (n ≤ 1073741824)) (by simp only [flqref19_counter, h1, cs4]); subst hq
   exact Kr () rfl (.tmp rfl .nil) [] trivial
 intro h1
 have g3 := of_decide_eq_false h1
 refine Osk (Osk (Oq Vpf (Oq Va (KS ?_))))
 have hq := q4 hrr false (by simp only [flqref19_counter, h1, cs4]); subst hq
 exact Kr () rfl (.tmp rfl .nil) [] trivial
theorem fn10 (l : List GTurn) (la0 : Option Addr) (lk0 : Nat) (rr : Bool) (hrr : flqref19_ValidLog l = rr) : FT Try.prog 10 #[vl la0 lk0 l] [S la0 lk0 l] (fun g : Unit => True) (fun g => vb rr) (fun g => []) := by
 refine FTi Try.func10 fun w0 M0 F0 => ?_
 refine Fb 40 0 fun hl1 => ?_
 refine KS ?_
 refine Oq Va (KS ?_)
 refine Oq Vm (Oq (Vlen sl23) (Oq Vgtr (KS ?_)))
 refine Kc ?_ ?_
 · intro h2
   have g3 := of_decide_eq_true h2
   refine KS ?_
   refine Oq Va (KS ?_)
   have hq := q4 hrr false (by simp only [flqref19_ValidLog, h2, cs4]); subst hq
   exact Kr () rfl (.tmp rfl .nil) [] trivial
 intro h2
 have g4 := of_decide_eq_false h2
 refine KS ?_
 refine Oq Va (KS ?_)
 refine Kl (γ := Nat × Int) (fun (r5, i_6) => ⟨[(0, vl la0 lk0 l), (3, vi i_6)], [S la0 lk0 l], flqref19_ValidLog_L0 l r5 i_6 = flqref19_ValidLog_L0 l (((l.length : Int) - 0).toNat) 0 ∧ r5 = ((l.length : Int) - i_6).toNat ∧ (0 : Int) ≤ i_6 ∧ i_6 ≤ (l.length : Int) ∧ (-9223372036854775808 ≤ i_6 ∧ i_6 ≤ 9223372036854775807), r5⟩) (((l.length : Int) - 0).toNat, 0) [0] ⟨rfl, rfl, (by omega), (by omega), (by omega)⟩ ?_
 rintro ⟨r5, i_6⟩ ⟨hM7, hr8, hi9, hi10, hk11⟩
 refine JJ_nx fun _ _ hL hA => ?_; dsimp only at hL hA; subst hL hA
 refine Fb 40 0 fun hl12 => ?_
 refine KS ?_
 refine Oq Vm (Oq Vm (Oq (Vlen sl23) (Oq Vlss (KS ?_))))
 refine Kc ?_ ?_
 · intro h13
   have g14 := of_decide_eq_true h13
   obtain ⟨r15, rfl⟩ := scc (n := r5) (by omega)
   refine KS ?_
   refine Oq Vm (Oq Vm (Oq (Vi sl23 0) ?_))
   refine JJ_peek_GTurn i_6.toNat 0 rfl rng fun hb16 hb17 hb18 hb19 => ?_
   unfold i64ok at hb16 hb17 hb18 hb19
   refine Oq (VldA sh43 0) (Oa (Al ze43 [vi 0, vi 0, vi 0, vi 0, vb false]) fun p20 => Ost (Scl [0] sh43 [vi ((l.getD i_6.toNat default).Query), vi ((l.getD i_6.toNat default).Quantum), vi ((l.getD i_6.toNat default).Steps), vi ((l.getD i_6.toNat default).Cost), vb ((l.getD i_6.toNat default).Finished)]) (KS ?_))
   refine Oq (Vfa fo43_0 0) (Oq (VldF sh3 0) ?_)
   refine letv (flqref19_counter ((l.getD i_6.toNat default).Query)) fun rv21 hg22 => ?_
   have hc23 := fn22 ((l.getD i_6.toNat default).Query) pre rv21 hg22
   refine Oc [] ca22 hc23 ?_
   rintro - -
   refine Oq Vnot (Oq Vm ?_)
   refine Js 25 ?_ ?_
   · intro h24
     have h26 := not_true h24
     refine Osk (Osk (Osk (Oq Vpt (Oq Vm (Osk (Osk (Osk (Oq Vpt (Oq Vm ?_)))))))))
     refine Osk (Osk (Osk (Osk (Oq Vpt (Oq Vm (Osk (Osk (Osk (Osk ?_)))))))))
     refine Oq Vpt (Oq Vm (Osk (Osk (Osk (Osk (Osk (Oq Vpt (Oq Vm (Osk ?_)))))))))
     refine Osk (Osk (Osk (Osk (Osk (Oq Vpt (KS ?_))))))
     refine Kt ?_
     refine KS ?_
     refine Oq Va (KS ?_)
     have hR28 := q2 hM7 (.ret false) (by simp only [flqref19_ValidLog_L0, h13, h24, h26, hg22, cs4])
     have hq := q4 hrr false (by simp only [flqref19_ValidLog, h2, h13, h24, h26, hg22, hR28, cs4]); subst hq
     exact Kr () rfl (.tmp rfl .nil) [] trivial
   intro h24
   have h30 := not_false h24
   try have hcb21 := counter_b (by assumption : flqref19_counter _ = rv21) h30
   refine Oq (Vfa fo43_1 0) (Oq (VldF sh3 0) (Oq Vlss (Oq Vpf (Oq Vm ?_))))
   refine Js 30 ?_ ?_
   · intro h32
     have g33 := of_decide_eq_true h32
     refine Osk (Osk (Osk (Oq Vpt (Oq Vm (Osk (Osk (Osk (Osk (Oq Vpt ?_)))))))))
     refine Oq Vm (Osk (Osk (Osk (Osk (Oq Vpt (Oq Vm (Osk (Osk (Osk ?_)))))))))
     refine Osk (Osk (Oq Vpt (Oq Vm (Osk (Osk (Osk (Osk (Osk (Osk ?_)))))))))
     refine Oq Vpt (KS ?_)
     refine Kt ?_
     refine KS ?_
     refine Oq Va (KS ?_)
     have hR34 := q2 hM7 (.ret false) (by simp only [flqref19_ValidLog_L0, h13, h24, h30, h32, hg22, cs4])
     have hq := q4 hrr false (by simp only [flqref19_ValidLog, h2, h13, h24, h30, h32, hg22, hR34, cs4]); subst hq
     exact Kr () rfl (.tmp rfl .nil) [] trivial
   intro h32
   have g35 := of_decide_eq_false h32
   refine Oq (Vfa fo43_1 0) (Oq (VldF sh3 0) (Oq Vgtr (Oq Vpf (Oq Vm ?_))))
   refine Js 35 ?_ ?_
   · intro h36
     have g37 := of_decide_eq_true h36
     refine Osk (Osk (Osk (Osk (Oq Vpt (Oq Vm (Osk (Osk (Osk (Osk ?_)))))))))
     refine Oq Vpt (Oq Vm (Osk (Osk (Osk (Osk (Osk (Oq Vpt (Oq Vm (Osk ?_)))))))))
     refine Osk (Osk (Osk (Osk (Osk (Oq Vpt (KS ?_))))))
     refine Kt ?_
     refine KS ?_
     refine Oq Va (KS ?_)
     have hR38 := q2 hM7 (.ret false) (by simp only [flqref19_ValidLog_L0, h13, h24, h30, h32, h36, hg22, cs4])
     have hq := q4 hrr false (by simp only [flqref19_ValidLog, h2, h13, h24, h30, h32, h36, hg22, hR38, cs4]); subst hq
     exact Kr () rfl (.tmp rfl .nil) [] trivial
   intro h36
   have g39 := of_decide_eq_false h36
   refine Oq (Vfa fo43_2 0) (Oq (VldF sh3 0) ?_)
   refine letv (flqref19_counter ((l.getD i_6.toNat default).Steps)) fun rv40 hg41 => ?_
   have hc42 := fn22 ((l.getD i_6.toNat default).Steps) pre rv40 hg41
   refine Oc [] ca22 hc42 ?_
   rintro - -
   refine Oq Vnot (Oq Vpf (Oq Vm ?_))
   refine Js 41 ?_ ?_
   · intro h43
     have h45 := not_true h43
     refine Osk (Osk (Osk (Osk (Oq Vpt (Oq Vm (Osk (Osk (Osk (Osk ?_)))))))))
     refine Osk (Oq Vpt (Oq Vm (Osk (Osk (Osk (Osk (Osk (Osk (Oq Vpt ?_)))))))))
     refine KS ?_
     refine Kt ?_
     refine KS ?_
     refine Oq Va (KS ?_)
     have hR47 := q2 hM7 (.ret false) (by simp only [flqref19_ValidLog_L0, h13, h24, h30, h32, h36, h43, h45, hg22, hg41, cs4])
     have hq := q4 hrr false (by simp only [flqref19_ValidLog, h2, h13, h24, h30, h32, h36, h43, h45, hg22, hg41, hR47, cs4]); subst hq
     exact Kr () rfl (.tmp rfl .nil) [] trivial
   intro h43
   have h49 := not_false h43
   try have hcb40 := counter_b (by assumption : flqref19_counter _ = rv40) h49
   refine Oq (Vfa fo43_3 0) (Oq (VldF sh3 0) ?_)
   refine letv (flqref19_counter ((l.getD i_6.toNat default).Cost)) fun rv51 hg52 => ?_
   have hc53 := fn22 ((l.getD i_6.toNat default).Cost) pre rv51 hg52
   refine Oc [] ca22 hc53 ?_
   rintro - -
   refine Oq Vnot (Oq Vpf (Oq Vm ?_))
   refine Js 47 ?_ ?_
   · intro h54
     have h56 := not_true h54
     refine Osk (Osk (Osk (Osk (Osk (Oq Vpt (Oq Vm (Osk (Osk (Osk ?_)))))))))
     refine Osk (Osk (Osk (Oq Vpt (KS ?_))))
     refine Kt ?_
     refine KS ?_
     refine Oq Va (KS ?_)
     have hR58 := q2 hM7 (.ret false) (by simp only [flqref19_ValidLog_L0, h13, h24, h30, h32, h36, h43, h49, h54, h56, hg22, hg41, hg52, cs4])
     have hq := q4 hrr false (by simp only [flqref19_ValidLog, h2, h13, h24, h30, h32, h36, h43, h49, h54, h56, hg22, hg41, hg52, hR58, cs4]); subst hq
     exact Kr () rfl (.tmp rfl .nil) [] trivial
   intro h54
   have h60 := not_false h54
   try have hcb51 := counter_b (by assumption : flqref19_counter _ = rv51) h60
   refine Oq (Vfa fo43_3 0) (Oq (VldF sh3 0) (Oq (Vfa fo43_2 0) (Oq (VldF sh3 0) (Oq Vlss (Oq Vpf (Oq Vm ?_))))))
   refine Js 54 ?_ ?_
   · intro h62
     have g63 := of_decide_eq_true h62
     refine Osk (Osk (Osk (Osk (Osk (Osk (Oq Vpt (KS ?_)))))))
     refine Kt ?_
     refine KS ?_
     refine Oq Va (KS ?_)
     have hR64 := q2 hM7 (.ret false) (by simp only [flqref19_ValidLog_L0, h13, h24, h30, h32, h36, h43, h49, h54, h60, h62, hg22, hg41, hg52, cs4])
     have hq := q4 hrr false (by simp only [flqref19_ValidLog, h2, h13, h24, h30, h32, h36, h43, h49, h54, h60, h62, hg22, hg41, hg52, hR64, cs4]); subst hq
     exact Kr () rfl (.tmp rfl .nil) [] trivial
   intro h62
   have g65 := of_decide_eq_false h62
   refine Oq (Vfa fo43_3 0) (Oq (VldF sh3 0) (Oq (Vfa fo43_2 0) (Oq (VldF sh3 0) (Oq Vmul (Oq Vgtr (Oq Vpf (KS ?_)))))))
   refine Kc ?_ ?_
   · intro h66
     have g67 := of_decide_eq_true h66
     refine KS ?_
     refine Oq Va (KS ?_)
     have hR68 := q2 hM7 (.ret false) (by simp only [flqref19_ValidLog_L0, h13, h24, h30, h32, h36, h43, h49, h54, h60, h62, h66, hg22, hg41, hg52, cs4])
     have hq := q4 hrr false (by simp only [flqref19_ValidLog, h2, h13, h24, h30, h32, h36, h43, h49, h54, h60, h62, h66, hg22, hg41, hg52, hR68, cs4]); subst hq
     exact Kr () rfl (.tmp rfl .nil) [] trivial
   intro h66
   have g69 := of_decide_eq_false h66
   refine KS ?_
   refine Oq Vm (Oq Vadd (Oq Va (KS ?_)))
   exact Kg (r15, (i_6 + 1)) [2] ⟨(q3 hM7 (by simp only [flqref19_ValidLog_L0, h13, h24, h30, h32, h36, h43, h49, h54, h60, h62, h66, hg22, hg41, hg52, cs4])), (by omega), (by omega), (by omega), (by omega)⟩
 intro h13
 have g70 := of_decide_eq_false h13
 obtain rfl : r5 = 0 := by omega
 refine Ke ?_
 have hR71 := q2 hM7 (.brk ()) (by simp only [flqref19_ValidLog_L0, h13, cs4])
 refine KS ?_
 refine Oq Va (KS ?_)
 refine Oq Va (KS ?_)
 refine Jl [] (Ent.osNil (α := Int)) ?_
 refine Kl (γ := Nat × List Int × Int × Option Addr × Nat) (fun (r72, done_73, i_74, a75, k76) => ⟨[(0, vl la0 lk0 l), (5, vl a75 k76 done_73), (6, vi i_74)], [O a75 k76 done_73, S la0 lk0 l], flqref19_ValidLog_L1 l r72 done_73 i_74 = flqref19_ValidLog_L1 l (((l.length : Int) - 0).toNat) [] 0 ∧ r72 = ((l.length : Int) - i_74).toNat ∧ (0 : Int) ≤ i_74 ∧ i_74 ≤ (l.length : Int) ∧ (-9223372036854775808 ≤ i_74 ∧ i_74 ≤ 9223372036854775807) ∧ ((done_73.length : Int) ≤ i_74), r72⟩) (((l.length : Int) - 0).toNat, [], 0, none, 0) [0, 0] ⟨rfl, rfl, (by omega), (by omega), (by omega), iv0⟩ ?_
 rintro ⟨r72, done_73, i_74, a75, k76⟩ ⟨hM77, hr78, hi79, hi80, hk81, hv82⟩
 refine JJ_nx fun _ _ hL hA => ?_; dsimp only at hL hA; subst hL hA
 refine Fb 8 0 fun hl83 => ?_
 refine Fo 0 fun ho84 => ?_
 refine Fb 40 1 fun hl85 => ?_
 refine KS ?_
 refine Oq Vm (Oq Vm (Oq (Vlen sl23) (Oq Vlss (KS ?_))))
 refine Kc ?_ ?_
 · intro h86
   have g87 := of_decide_eq_true h86
   obtain ⟨r88, rfl⟩ := scc (n := r72) (by omega)
   refine KS ?_
   refine Oq Va (KS ?_)
   refine Kl (γ := Nat × Int) (fun (r89, k_90) => ⟨[(0, vl la0 lk0 l), (5, vl a75 k76 done_73), (6, vi i_74), (7, vi k_90)], [O a75 k76 done_73, S la0 lk0 l], flqref19_ValidLog_L2 l done_73 i_74 r89 k_90 = flqref19_ValidLog_L2 l done_73 i_74 (((done_73.length : Int) - 0).toNat) 0 ∧ r89 = ((done_73.length : Int) - k_90).toNat ∧ (0 : Int) ≤ k_90 ∧ k_90 ≤ (done_73.length : Int) ∧ (-9223372036854775808 ≤ k_90 ∧ k_90 ≤ 9223372036854775807), r89⟩) (((done_73.length : Int) - 0).toNat, 0) [0, 0] ⟨rfl, rfl, (by omega), (by omega), (by omega)⟩ ?_
   rintro ⟨r89, k_90⟩ ⟨hM91, hr92, hi93, hi94, hk95⟩
   refine JJ_nx fun _ _ hL hA => ?_; dsimp only at hL hA; subst hL hA
   refine Fb 8 0 fun hl96 => ?_
   refine Fo 0 fun ho97 => ?_
   refine Fb 40 1 fun hl98 => ?_
   refine KS ?_
   refine Oq Vm (Oq Vm (Oq (Vlen sl22) (Oq Vlss (KS ?_))))
   refine Kc ?_ ?_
   · intro h99
     have g100 := of_decide_eq_true h99
     obtain ⟨r101, rfl⟩ := scc (n := r89) (by omega)
     refine KS ?_
     refine JJ_peek_GTurn i_74.toNat 1 rfl rng fun hb102 hb103 hb104 hb105 => ?_
     unfold i64ok at hb102 hb103 hb104 hb105
     refine Kq [0, 0, 3, 7, 0, 0, 48, 112, 240, 511] fmix ?_
     refine Qv [] Vm (Qv [] Vm (Qv [1] (Vi sl22 0) ?_))
     have hb106 := ok1 (i := k_90.toNat) ho97 rng
     refine Qv [1] (VldI sh3 0) (Qv [] Vm (Qv [] Vm (Qv [2] (Vi sl23 0) (Qv [0] (Vfa fo43_0 0) (Qv [0] (VldF sh3 0) (Qv [] Veql ?_))))))
     refine Qn ⟨by kernel_rfl, ?_⟩
     refine Kc ?_ ?_
     · intro h107
       have g108 := eq_of_beq h107
       refine KS ?_
       refine Oq Va (KS ?_)
       have hR109 := q2 hM91 (.ret false) (by simp only [flqref19_ValidLog_L2, h99, h107, cs4])
       have hR110 := q2 hM77 (.ret false) (by simp only [flqref19_ValidLog_L1, h86, h99, h107, hR109, cs4])
       have hq := q4 hrr false (by simp only [flqref19_ValidLog, h2, h13, h86, h99, h107, hR71, hR109, hR110, cs4]); subst hq
       exact Kr () rfl (.tmp rfl .nil) [] trivial
     intro h107
     have g111 := ne_of_beq_false h107
     refine KS ?_
     refine Oq Vm (Oq Vadd (Oq Va (KS ?_)))
     exact Kg (r101, (k_90 + 1)) [1, 1] ⟨(q3 hM91 (by simp only [flqref19_ValidLog_L2, h99, h107, cs4])), (by omega), (by omega), (by omega), (by omega)⟩
   intro h99
   have g112 := of_decide_eq_false h99
   obtain rfl : r89 = 0 := by omega
   refine Ke ?_
   have hR113 := q2 hM91 (.brk ()) (by simp only [flqref19_ValidLog_L2, h99, cs4])
   refine KS ?_
   refine Oq Vm (Oq Vm (Oq (Vi sl23 1) ?_))
   refine JJ_peek_GTurn i_74.toNat 1 rfl rng fun hb114 hb115 hb116 hb117 => ?_
   unfold i64ok at hb114 hb115 hb116 hb117
   refine Oq (Vfa fo43_4 0) (Oq (VldF sh4 0) (KS ?_))
   refine Kc ?_ ?_
   · intro h118
     refine KS ?_
     refine Oq Vm (Oq Vm (Oq Vm (Oq (Vi sl23 2) (Oq (Vfa fo43_0 0) (Oq (VldF sh3 0) (Oa (AsV sl22 sz22 [vi ((l.getD i_74.toNat default).Query)] [vi ((l.getD i_74.toNat default).Query)]) fun c120 => ?_))))))
     refine Jo 0 ?_; rintro a121 k122 rfl
     refine Jl [0] (Ent.crInt _ [(l.getD i_74.toNat default).Query] _ _ rfl rfl (by intro x hx; rw [List.mem_singleton] at hx; subst hx; unfold i64ok; omega) (Nat.le_of_ble_eq_true rfl)) ?_
     refine Oa (ApO [2, 0] sl22 sl22 sz22) fun c123 => ?_
     refine Jo 0 ?_; rintro a124 k125 rfl
     refine Fb 8 0 fun hl126 => ?_
     refine Fo 0 fun ho127 => ?_
     have hn128 := la done_73 ([(l.getD i_74.toNat default).Query] : List Int)
     refine Oq Va (KS ?_)
     refine Oq Vm (Oq Vadd (Oq Va (KS ?_)))
     exact Kg (r88, (done_73 ++ [(l.getD i_74.toNat default).Query]), (i_74 + 1), a124, k125) [0, 1] ⟨(q3 hM77 (by simp only [flqref19_ValidLog_L1, h86, h99, h118, hR113, cs4])), (by omega), (by omega), (by omega), (by omega), iv1⟩
   intro h118
   refine KS ?_
   refine Oq Vm (Oq Vadd (Oq Va (KS ?_)))
   exact Kg (r88, done_73, (i_74 + 1), a75, k76) [1, 1] ⟨(q3 hM77 (by simp only [flqref19_ValidLog_L1, h86, h99, h118, hR113, cs4])), (by omega), (by omega), (by omega), (by omega), iv1⟩
 intro h86
 have g130 := of_decide_eq_false h86
 obtain rfl : r72 = 0 := by omega
 refine Ke ?_
 have hR131 := q2 hM77 (.brk ()) (by simp only [flqref19_ValidLog_L1, h86, cs4])
 refine KS ?_
 refine Oq Va (KS ?_)
 have hq := q4 hrr true (by simp only [flqref19_ValidLog, h2, h13, h86, hR71, hR131, cs4]); subst hq
 exact Kr () rfl (.tmp rfl .nil) [] trivial
theorem fn11 (a : List GAccount) (aa0 : Option Addr) (ak0 : Nat) (b : List GAccount) (ba0 : Option Addr) (bk0 : Nat) (rr : Bool) (hrr : flqlaw23_sameAccounts a b = rr) : FT Try.prog 11 #[vl aa0 ak0 a, vl ba0 bk0 b] [S aa0 ak0 a, S ba0 bk0 b] (fun g : Unit => True) (fun g => vb rr) (fun g => []) := by
 refine FTi Try.func11 fun w0 M0 F0 => ?_
 refine Fb 32 0 fun hl1 => ?_
 refine Fb 32 1 fun hl2 => ?_
 refine KS ?_
 refine Oq Va (KS ?_)
 refine Oq Vm (Oq (Vlen sl35) (Oq Vm (Oq (Vlen sl35) (Oq Vneq (KS ?_)))))
 refine Kc ?_ ?_
 · intro h3
   have g4 := ne_of_bne h3
   refine KS ?_
   refine Oq Va (KS ?_)
   have hq := q4 hrr false (by simp only [flqlaw23_sameAccounts, h3, cs4]); subst hq
   exact Kr () rfl (.tmp rfl .nil) [] trivial
 intro h3
 have g5 := eq_of_bne_false h3
 refine KS ?_
 refine Oq Va (KS ?_)
 refine Kl (γ := Nat × Int) (fun (r6, i_7) => ⟨[(0, vl aa0 ak0 a), (1, vl ba0 bk0 b), (5, vi i_7)], [S aa0 ak0 a, S ba0 bk0 b], flqlaw23_sameAccounts_L0 a b r6 i_7 = flqlaw23_sameAccounts_L0 a b (((a.length : Int) - 0).toNat) 0 ∧ r6 = ((a.length : Int) - i_7).toNat ∧ (0 : Int) ≤ i_7 ∧ i_7 ≤ (a.length : Int) ∧ (-9223372036854775808 ≤ i_7 ∧ i_7 ≤ 9223372036854775807), r6⟩) (((a.length : Int) - 0).toNat, 0) [0, 1] ⟨rfl, rfl, (by omega), (by omega), (by omega)⟩ ?_
 rintro ⟨r6, i_7⟩ ⟨hM8, hr9, hi10, hi11, hk12⟩
 refine JJ_nx fun _ _ hL hA => ?_; dsimp only at hL hA; subst hL hA
 refine Fb 32 0 fun hl13 => ?_
 refine Fb 32 1 fun hl14 => ?_
 refine KS ?_
 refine Oq Vm (Oq Vm (Oq (Vlen sl35) (Oq Vlss (KS ?_))))
 refine Kc ?_ ?_
 · intro h15
   have g16 := of_decide_eq_true h15
   obtain ⟨r17, rfl⟩ := scc (n := r6) (by omega)
   refine KS ?_
   refine JJ_peek_GAccount i_7.toNat 0 rfl rng fun hb18 hb19 hb20 hb21 => ?_
   unfold i64ok at hb18 hb19 hb20 hb21
   refine JJ_peek_GAccount i_7.toNat 2 rfl rng fun hb22 hb23 hb24 hb25 => ?_
   unfold i64ok at hb22 hb23 hb24 hb25
   refine Kq [0, 0, 3, 7, 0, 0, 48, 112, 255] fmix ?_
   refine Qv [] Vm (Qv [] Vm (Qv [2] (Vi sl35 0) (Qv [1] (VldA sh38 0) (Qv [] Vm (Qv [] Vm (Qv [3] (Vi sl35 0) (Qv [0] (VldA sh38 0) (Qv [] (VneA eqi38 (l := [(a.getD i_7.toNat default).Query, (a.getD i_7.toNat default).Turns, (a.getD i_7.toNat default).Steps, (a.getD i_7.toNat default).Cost]) (m := [(b.getD i_7.toNat default).Query, (b.getD i_7.toNat default).Turns, (b.getD i_7.toNat default).Steps, (b.getD i_7.toNat default).Cost])) ?_))))))))
   refine Qn ⟨by kernel_rfl, ?_⟩
   refine Kc ?_ ?_
   · intro h26
     have g27 := ne_of_bne h26
     refine KS ?_
     refine Oq Va (KS ?_)
     have hR28 := q2 hM8 (.ret false) (by simp only [flqlaw23_sameAccounts_L0, h15, h26, cs4])
     have hq := q4 hrr false (by simp only [flqlaw23_sameAccounts, h3, h15, h26, hR28, cs4]); subst hq
     exact Kr () rfl (.tmp rfl .nil) [] trivial
   intro h26
   have g29 := eq_of_bne_false h26
   refine KS ?_
   refine Oq Vm (Oq Vadd (Oq Va (KS ?_)))
   exact Kg (r17, (i_7 + 1)) [2, 3] ⟨(q3 hM8 (by simp only [flqlaw23_sameAccounts_L0, h15, h26, cs4])), (by omega), (by omega), (by omega), (by omega)⟩
 intro h15
 have g30 := of_decide_eq_false h15
 obtain rfl : r6 = 0 := by omega
 refine Ke ?_
 have hR31 := q2 hM8 (.brk ()) (by simp only [flqlaw23_sameAccounts_L0, h15, cs4])
 refine KS ?_
 refine Oq Va (KS ?_)
 have hq := q4 hrr true (by simp only [flqlaw23_sameAccounts, h3, h15, hR31, cs4]); subst hq
 exact Kr () rfl (.tmp rfl .nil) [] trivial
theorem fn36 (a : Int) (ha_0 : i64ok a) (rr : Int) (hrr : counter_Clamp a = rr) : FT Try.prog 36 #[vi a] [] (fun g : Unit => i64ok rr ∧ (0 ≤ rr ∧ rr ≤ 1073741824)) (fun g => vi rr) (fun g => []) := by
 refine FTi Try.func36 fun w0 M0 F0 => ?_
 unfold i64ok at ha_0
 refine KS ?_
 refine Oq Va (KS ?_)
 refine Oq Vm (Oq Vmax (Oq Vmin (Oq Va (KS ?_))))
 have hq := q4 hrr (min (max a 0) 1073741824) (by simp only [counter_Clamp, cs4]); subst hq
 exact Kr () rfl (.tmp rfl .nil) [] en
theorem fn31 (a : Int) (b : Int) (ha_0 : i64ok a) (hb_0 : i64ok b) (rr : Int) (hrr : counter_Add a b = rr) : FT Try.prog 31 #[vi a, vi b] [] (fun g : Unit => i64ok rr ∧ (0 ≤ rr ∧ rr ≤ 1073741824)) (fun g => vi rr) (fun g => []) := by
 refine FTi Try.func31 fun w0 M0 F0 => ?_
 unfold i64ok at ha_0 hb_0
 refine KS ?_
 refine Oq Va (KS ?_)
 refine Oq Vm ?_
 refine letv (counter_Clamp a) fun rv1 hg2 => ?_
 have hc3 := fn36 a pre rv1 hg2
 refine Oc [] ca36 hc3 ?_
 rintro - ⟨he4, he5⟩
 unfold i64ok at he4
 refine Oq Vm ?_
 refine letv (counter_Clamp b) fun rv6 hg7 => ?_
 have hc8 := fn36 b pre rv6 hg7
 refine Oc [] ca36 hc8 ?_
 rintro - ⟨he9, he10⟩
 unfold i64ok at he9
 refine Oq Vadd ?_
 refine letv (counter_Clamp (rv1 + rv6)) fun rv11 hg12 => ?_
 have hc13 := fn36 ((rv1 + rv6)) pre rv11 hg12
 refine Oc [] ca36 hc13 ?_
 rintro - ⟨he14, he15⟩
 unfold i64ok at he14
 refine Oq Va (KS ?_)
 have hq := q4 hrr rv11 (by simp only [counter_Add, hg2, hg7, hg12, cs4]); subst hq
 exact Kr () rfl (.tmp rfl .nil) [] en
theorem fn23 (a : GAccount) (x : GTurn) (ha_0 : i64ok a.Query) (ha_1 : i64ok a.Turns) (ha_2 : i64ok a.Steps) (ha_3 : i64ok a.Cost) (hx_0 : i64ok x.Query) (hx_1 : i64ok x.Quantum) (hx_2 : i64ok x.Steps) (hx_3 : i64ok x.Cost) (ht0 : 0 ≤ a.Turns ∧ a.Turns ≤ 1000000) (rr : GAccount) (hrr : ledger_add a x = rr) : FT Try.prog 23 #[.agg #[vi a.Query, vi a.Turns, vi a.Steps, vi a.Cost], .agg #[vi x.Query, vi x.Quantum, vi x.Steps, vi x.Cost, vb x.Finished]] [] (fun g : Unit => i64ok rr.Query ∧ i64ok rr.Turns ∧ i64ok rr.Steps ∧ i64ok rr.Cost ∧ (rr.Query = a.Query ∧ 0 ≤ rr.Turns ∧ rr.Turns ≤ a.Turns + 1 ∧ 0 ≤ rr.Steps ∧ rr.Steps ≤ 1073741824 ∧ 0 ≤ rr.Cost ∧ rr.Cost ≤ 1073741824)) (fun g => .agg #[vi rr.Query, vi rr.Turns, vi rr.Steps, vi rr.Cost]) (fun g => []) := by
 refine FTi Try.func23 fun w0 M0 F0 => ?_
 unfold i64ok at ha_0 ha_1 ha_2 ha_3 hx_0 hx_1 hx_2 hx_3
 refine KS ?_
 refine Oa (AbO [vi a.Query, vi a.Turns, vi a.Steps, vi a.Cost]) fun p1 => Oa (Ab [vi x.Query, vi x.Quantum, vi x.Steps, vi x.Cost, vb x.Finished]) fun p2 => Oa (Al ze38 [vi 0, vi 0, vi 0, vi 0]) fun p3 => KS ?_
 refine Oq (Vfa fo43_1 1) (Oq (VldF sh3 1) (Oq Vgtr (KS ?_)))
 refine Kc ?_ ?_
 · intro h4
   have g5 := of_decide_eq_true h4
   refine KS ?_
   refine Oq (Vfa fo38_1 2) (Oq (VldF sh3 2) (Oq Vadd (Oq (Vfa fo38_1 2) (Ost (SclF [2] sh3 [vi a.Query, vi (a.Turns + 1), vi a.Steps, vi a.Cost]) (KS ?_)))))
   refine Jp 0 fun hp6 => ?_
   refine JK_drawK [0, 1, 0, 4, 15, 0, 32, 0, 128, 511, 127, 2047, 4095, 8191] fmix ?_
   refine Dv [0] (Vfa fo38_2 0) (Dv [1] (VldF sh3 0) (Dv [3] (Vfa fo43_2 0) (Dv [3] (VldF sh3 0) ?_)))
   refine letv (counter_Add a.Steps x.Steps) fun rv7 hg8 => ?_
   refine Dx [] [] [0] (fun G => vi rv7) [fun G => SP.fact (i64ok rv7 ∧ (0 ≤ rv7 ∧ rv7 ≤ 1073741824))] (fun G => xC [] ca31 (fn31 a.Steps x.Steps pre pre rv7 hg8)) (Dv [0] (Vfa fo38_3 0) (Dv [1] (VldF sh3 0) (Dv [3] (Vfa fo43_3 0) (Dv [3] (VldF sh3 0) ?_))))
   refine letv (counter_Add a.Cost x.Cost) fun rv9 hg10 => ?_
   refine Dx [] [] [0] (fun G => vi rv9) [fun G => SP.fact (i64ok rv9 ∧ (0 ≤ rv9 ∧ rv9 ≤ 1073741824))] (fun G => xC [] ca31 (fn31 a.Cost x.Cost pre pre rv9 hg10)) (Dv [0] (Vfa fo38_2 0) (Dx0 [1] [1] [0] [fun G => Cl p1 [vi a.Query, vi (a.Turns + 1), vi rv7, vi a.Cost]] (fun G => xS (SclF [0] sh3 [vi a.Query, vi (a.Turns + 1), vi rv7, vi a.Cost])) (Dv [0] (Vfa fo38_3 0) (Dx0 [6] [6] [0] [fun G => Cl p1 [vi a.Query, vi (a.Turns + 1), vi rv7, vi rv9]] (fun G => xS (SclF [0] sh3 [vi a.Query, vi (a.Turns + 1), vi rv7, vi rv9])) ?_))))
   refine Dn ⟨by kernel_rfl, fun G => ?_⟩
   refine Jw2 [(2, p1), (4, p3)] [0, 2, 3] [SP.fact (i64ok rv7 ∧ (0 ≤ rv7 ∧ rv7 ≤ 1073741824)), SP.fact (i64ok rv9 ∧ (0 ≤ rv9 ∧ rv9 ≤ 1073741824)), Cl p1 [vi a.Query, vi (a.Turns + 1), vi rv7, vi rv9]] ?_
   refine Jf 3 rfl ?_; rintro ⟨he11, he12⟩
   unfold i64ok at he11
   refine Jf 4 rfl ?_; rintro ⟨he13, he14⟩
   unfold i64ok at he13
   refine Jk [1, 1, 4] ?_
   refine KS ?_
   refine Oq (VldA sh38 2) (Ost (Scl [0] sh38 [vi a.Query, vi (a.Turns + 1), vi rv7, vi rv9]) (KS ?_))
   have hq := q4 hrr (GAccount.mk a.Query (a.Turns + 1) rv7 rv9) (by simp only [ledger_add, h4, hg8, hg10, cs4]); subst hq
   exact Kr () rfl (.cellN 0 rfl sh38 rfl (reads_Cl _ _) rfl .nil) [] en
 intro h4
 have g15 := of_decide_eq_false h4
 refine KS ?_
 refine Jp 2 fun hp16 => ?_
 refine JK_drawK [0, 1, 0, 4, 15, 0, 32, 0, 128, 511, 127, 2047, 4095, 8191] fmix ?_
 refine Dv [0] (Vfa fo38_2 0) (Dv [3] (VldF sh3 0) (Dv [2] (Vfa fo43_2 0) (Dv [2] (VldF sh3 0) ?_)))
 refine letv (counter_Add a.Steps x.Steps) fun rv17 hg18 => ?_
 refine Dx [] [] [0] (fun G => vi rv17) [fun G => SP.fact (i64ok rv17 ∧ (0 ≤ rv17 ∧ rv17 ≤ 1073741824))] (fun G => xC [] ca31 (fn31 a.Steps x.Steps pre pre rv17 hg18)) (Dv [0] (Vfa fo38_3 0) (Dv [3] (VldF sh3 0) (Dv [2] (Vfa fo43_3 0) (Dv [2] (VldF sh3 0) ?_))))
 refine letv (counter_Add a.Cost x.Cost) fun rv19 hg20 => ?_
 refine Dx [] [] [0] (fun G => vi rv19) [fun G => SP.fact (i64ok rv19 ∧ (0 ≤ rv19 ∧ rv19 ≤ 1073741824))] (fun G => xC [] ca31 (fn31 a.Cost x.Cost pre pre rv19 hg20)) (Dv [0] (Vfa fo38_2 0) (Dx0 [3] [3] [0] [fun G => Cl p1 [vi a.Query, vi a.Turns, vi rv17, vi a.Cost]] (fun G => xS (SclF [0] sh3 [vi a.Query, vi a.Turns, vi rv17, vi a.Cost])) (Dv [0] (Vfa fo38_3 0) (Dx0 [6] [6] [0] [fun G => Cl p1 [vi a.Query, vi a.Turns, vi rv17, vi rv19]] (fun G => xS (SclF [0] sh3 [vi a.Query, vi a.Turns, vi rv17, vi rv19])) ?_))))
 refine Dn ⟨by kernel_rfl, fun G => ?_⟩
 refine Jw2 [(2, p1), (4, p3)] [0, 1, 2] [SP.fact (i64ok rv17 ∧ (0 ≤ rv17 ∧ rv17 ≤ 1073741824)), SP.fact (i64ok rv19 ∧ (0 ≤ rv19 ∧ rv19 ≤ 1073741824)), Cl p1 [vi a.Query, vi a.Turns, vi rv17, vi rv19]] ?_
 refine Jf 3 rfl ?_; rintro ⟨he21, he22⟩
 unfold i64ok at he21
 refine Jf 4 rfl ?_; rintro ⟨he23, he24⟩
 unfold i64ok at he23
 refine Jk [1, 1, 4] ?_
 refine KS ?_
 refine Oq (VldA sh38 2) (Ost (Scl [0] sh38 [vi a.Query, vi a.Turns, vi rv17, vi rv19]) (KS ?_))
 have hq := q4 hrr (GAccount.mk a.Query a.Turns rv17 rv19) (by simp only [ledger_add, h4, hg18, hg20, cs4]); subst hq
 exact Kr () rfl (.cellN 0 rfl sh38 rfl (reads_Cl _ _) rfl .nil) [] en
theorem fn37 (data : List GAccount) (dataa0 : Option Addr) (datak0 : Nat) (a : Int) (b : Int) (cmpF : FuncId) (cmpC : List Value) (cmpp : GAccount → GAccount → Int) (cmpA : List SP) (ha_0 : i64ok a) (hb_0 : i64ok b) (hcmpc : callable Try.prog cmpF = true) (hcmpF : ∀ x0 x1, i64ok x0.Query → i64ok x0.Turns → i64ok x0.Steps → i64ok x0.Cost → i64ok x1.Query → i64ok x1.Turns → i64ok x1.Steps → i64ok x1.Cost → FT Try.prog cmpF ([(.agg #[vi x0.Query, vi x0.Turns, vi x0.Steps, vi x0.Cost] : Value), (.agg #[vi x1.Query, vi x1.Turns, vi x1.Steps, vi x1.Cost] : Value)] ++ cmpC).toArray ([] ++ [pAll cmpA]) (fun _ : Unit => i64ok (cmpp x0 x1)) (fun _ => vi (cmpp x0 x1)) (fun _ => [])) (ha0 : 0 ≤ a ∧ a ≤ b ∧ b ≤ (data.length : Int) ∧ data.length ≤ 65535) (rr : List GAccount) (hrr : slices_insertionSortCmpFunc_Account data a b cmpp = rr) : FT Try.prog 37 #[vl dataa0 datak0 data, vi a, vi b, .func (.func cmpF) #[] cmpC.toArray] [O dataa0 datak0 data, pAll cmpA] (fun g : Unit => (rr.length = data.length)) (fun g => .tuple #[]) (fun g => [os (vl dataa0 datak0 data) rr]) := by
 refine FTi Try.func37 fun w0 M0 F0 => ?_
 unfold i64ok at ha_0 hb_0
 refine Fb 32 0 fun hl1 => ?_
 refine KS ?_
 refine Oq Vm (Oq Vadd (Oq Va (KS ?_)))
 refine Kl (γ := Nat × List GAccount × Int) (fun (r2, data_3, i_4) => ⟨[(0, vl dataa0 datak0 data), (1, vi a), (2, vi b), (3, .func (.func cmpF) #[] cmpC.toArray), (8, vi i_4)], [os (vl dataa0 datak0 data) data_3, pAll cmpA], slices_insertionSortCmpFunc_Account_L0 a cmpp r2 data_3 i_4 = slices_insertionSortCmpFunc_Account_L0 a cmpp (((b : Int) - (a + 1)).toNat) data (a + 1) ∧ r2 = ((b : Int) - i_4).toNat ∧ ((a + 1) : Int) ≤ i_4 ∧ (i_4 ≤ b ∨ i_4 = (a + 1)) ∧ (-9223372036854775808 ≤ i_4 ∧ i_4 ≤ 9223372036854775807), r2⟩) (((b : Int) - (a + 1)).toNat, data, (a + 1)) [0, 0] ⟨rfl, rfl, (by omega), (.inr rfl), (by omega)⟩ ?_
 rintro ⟨r2, data_3, i_4⟩ ⟨hM5, hr6, hi7, hi8, hk9⟩
 refine JJ_nx fun _ _ hL hA => ?_; dsimp only at hL hA; subst hL hA
 refine Fb 32 0 fun hl10 => ?_
 refine Fl 0 fun hn11 => ?_
 refine KS ?_
 refine Oq Vm (Oq Vm (Oq Vlss (KS ?_)))
 refine Kc ?_ ?_
 · intro h12
   have g13 := of_decide_eq_true h12
   obtain ⟨r14, rfl⟩ := scc (n := r2) (by omega)
   refine KS ?_
   refine Oq Vm (Oq Va (KS ?_))
   refine Kl (γ := Nat × List GAccount × Int) (fun (r15, data_16, j_17) => ⟨[(0, vl dataa0 datak0 data), (1, vi a), (2, vi b), (3, .func (.func cmpF) #[] cmpC.toArray), (8, vi i_4), (9, vi j_17)], [os (vl dataa0 datak0 data) data_16, pAll cmpA], slices_insertionSortCmpFunc_Account_L1 cmpp r15 data_16 j_17 = slices_insertionSortCmpFunc_Account_L1 cmpp (((i_4 : Int) - a).toNat) data_3 i_4 ∧ r15 = ((j_17 : Int) - a).toNat ∧ j_17 ≤ (i_4 : Int) ∧ (-9223372036854775808 ≤ j_17 ∧ j_17 ≤ 9223372036854775807), r15⟩) (((i_4 : Int) - a).toNat, data_3, i_4) [0, 0] ⟨rfl, rfl, (by omega), (by omega)⟩ ?_
   rintro ⟨r15, data_16, j_17⟩ ⟨hM18, hr19, hi20, hk21⟩
   refine JJ_nx fun _ _ hL hA => ?_; dsimp only at hL hA; subst hL hA
   refine Fb 32 0 fun hl22 => ?_
   refine Fl 0 fun hn23 => ?_
   refine KS ?_
   refine bool_split (decide (a < j_17)) ?_ ?_
   · intro h24
     have g25 := of_decide_eq_true h24
     obtain ⟨r26, rfl⟩ := scc (n := r15) (by omega)
     refine JJ_peekO_GAccount j_17.toNat 0 rfl rng fun hb27 hb28 hb29 hb30 => ?_
     unfold i64ok at hb27 hb28 hb29 hb30
     refine JJ_peekO2_GAccount ((j_17 - 1) : Int).toNat 0 rfl rng fun hb31 hb32 hb33 hb34 => ?_
     unfold i64ok at hb31 hb32 hb33 hb34
     refine JK_drawK [0, 0, 3, 7, 15, 15, 15, 111, 239, 15, 15, 1039, 3599, 7695, 16383, 32767, 65535] fmix ?_
     refine Dv [] Vm (Dv [] Vm (Db h24 [] Vgtr (Dv [] Vm (Dv [] Vm (Dv [] Vm (Dv [] Vm (Dv [0] (Vi sl35 0) (Dv [0] (VldA sh38 0) (Dv [] Vm ?_)))))))))
     refine Dv [] Vm (Dv [] Vsub (Dv [0] (Vi sl35 0) (Dv [0] (VldA sh38 0) (Dx [1] [] [1, 0] (fun G => vi (cmpp (data_16.getD j_17.toNat default) (data_16.getD ((j_17 - 1) : Int).toNat default))) [fun G => SP.fact (i64ok (cmpp (data_16.getD j_17.toNat default) (data_16.getD ((j_17 - 1) : Int).toNat default)))] (fun G => xE («as» := [(.agg #[vi ((data_16.getD j_17.toNat default).Query), vi ((data_16.getD j_17.toNat default).Turns), vi ((data_16.getD j_17.toNat default).Steps), vi ((data_16.getD j_17.toNat default).Cost)] : Value), (.agg #[vi ((data_16.getD ((j_17 - 1) : Int).toNat default).Query), vi ((data_16.getD ((j_17 - 1) : Int).toNat default).Turns), vi ((data_16.getD ((j_17 - 1) : Int).toNat default).Steps), vi ((data_16.getD ((j_17 - 1) : Int).toNat default).Cost)] : Value)] ++ cmpC) [0] hcmpc rfl rfl rfl (by simp) rfl (hcmpF (data_16.getD j_17.toNat default) (data_16.getD ((j_17 - 1) : Int).toNat default)  pre pre pre pre pre pre pre pre)) (Dv [] Vlss (Dv [] Vpt ?_))))))
     refine Dn ⟨by kernel_rfl, fun G => ?_⟩
     refine Jw2 [(0, vl dataa0 datak0 data), (1, vi a), (2, vi b), (3, .func (.func cmpF) #[] cmpC.toArray), (8, vi i_4), (9, vi j_17), (34, vb (decide ((cmpp (data_16.getD j_17.toNat default) (data_16.getD ((j_17 - 1) : Int).toNat default)) < 0)))] [0, 1] [SP.fact (i64ok (cmpp (data_16.getD j_17.toNat default) (data_16.getD ((j_17 - 1) : Int).toNat default)))] ?_
     refine Jf 2 rfl ?_; rintro he35
     unfold i64ok at he35
     refine Jk [0, 0] ?_
     refine Kc ?_ ?_
     · intro h36
       have g37 := of_decide_eq_true h36
       refine KS ?_
       refine JK_drawK [0, 0, 0, 0, 8, 0, 0, 64, 224, 480, 0, 0, 3072, 7168, 16355, 32739, 65535, 131071] fmix ?_
       refine Dv [] Vm (Dv [] Vm (Dv [] Vm (Dv [] Vm (Dv [] Vsub (Dv [] Vm (Dv [] Vm (Dv [] Vsub (Dv [0] (Vi sl35 0) (Dv [0] (VldA sh38 0) ?_)))))))))
       refine Dv [] Vm (Dv [] Vm (Dv [0] (Vi sl35 0) (Dv [0] (VldA sh38 0) (Dv [0] (Vi sl35 0) ?_))))
       refine Dx0 [0] [0] [0] [fun G => os (vl dataa0 datak0 data) (data_16.set j_17.toNat (data_16.getD ((j_17 - 1) : Int).toNat default))] (fun G => xp [0] rfl (Ent.oread2 _ _ _ _ _ _) (xS (So (Rs := []) [0] sh38 (data_16.getD ((j_17 - 1) : Int).toNat default) (fun h => ⟨rfl, (by unfold i64ok; first | omega | (dsimp only; omega)), (by unfold i64ok; first | omega | (dsimp only; omega)), (by unfold i64ok; first | omega | (dsimp only; omega)), (by unfold i64ok; first | omega | (dsimp only; omega))⟩)))) (Dv [2] (Vi sl35 0) ?_)
       refine Dx0 [2] [2] [0] [fun G => os (vl dataa0 datak0 data) ((data_16.set j_17.toNat (data_16.getD ((j_17 - 1) : Int).toNat default)).set ((j_17 - 1) : Int).toNat (data_16.getD j_17.toNat default))] (fun G => xS (So (Rs := []) [0] sh38 (data_16.getD j_17.toNat default) (fun h => ⟨rfl, (by unfold i64ok; first | omega | (dsimp only; omega)), (by unfold i64ok; first | omega | (dsimp only; omega)), (by unfold i64ok; first | omega | (dsimp only; omega)), (by unfold i64ok; first | omega | (dsimp only; omega))⟩))) ?_
       refine Dn ⟨by kernel_rfl, fun G => ?_⟩
       refine Jw2 [(0, vl dataa0 datak0 data), (1, vi a), (2, vi b), (3, .func (.func cmpF) #[] cmpC.toArray), (8, vi i_4), (9, vi j_17)] [1] [os (vl dataa0 datak0 data) ((data_16.set j_17.toNat (data_16.getD ((j_17 - 1) : Int).toNat default)).set ((j_17 - 1) : Int).toNat (data_16.getD j_17.toNat default))] ?_
       refine KS ?_
       refine Oq Vm (Oq Vsub (Oq Va (KS ?_)))
       exact Kg (r26, ((data_16.set j_17.toNat (data_16.getD ((j_17 - 1) : Int).toNat default)).set ((j_17 - 1) : Int).toNat (data_16.getD j_17.toNat default)), (j_17 - 1)) [1, 0] ⟨(q3 hM18 (by simp only [slices_insertionSortCmpFunc_Account_L1, h24, h36, cs4])), (by omega), (by omega), (by omega)⟩
     intro h36
     have g38 := of_decide_eq_false h36
     refine Jl [0] (Ent.oread2 _ _ _ _ _ _) ?_
     refine Ke ?_
     have hR39 := q2 hM18 data_16 (by simp only [slices_insertionSortCmpFunc_Account_L1, h24, h36, cs4])
     refine KS ?_
     refine Oq Vm (Oq Vadd (Oq Va (KS ?_)))
     exact Kg (r14, data_16, (i_4 + 1)) [0, 0] ⟨(q3 hM5 (by simp only [slices_insertionSortCmpFunc_Account_L0, h12, h24, h36, hR39, cs4])), (by omega), (by omega), (by omega), (by omega)⟩
   intro h24
   have g40 := of_decide_eq_false h24
   obtain rfl : r15 = 0 := by omega
   refine Kq [0, 0, 3, 7, 15, 15, 15, 111, 239, 15, 15, 1039, 3599, 7695, 16383, 32767, 65535] fmix ?_
   refine Qv [] Vm (Qv [] Vm (Qb h24 [] Vgtr (Qv [] Vm (Qs (Qs (Qs (Qs (Qs (Qs ?_)))))))))
   refine Qs (Qs (Qs (Qs (Qs (Qs (Qv [] Vpf ?_))))))
   refine Qn ⟨by kernel_rfl, ?_⟩
   refine Kf ?_
   refine Ke ?_
   have hR41 := q2 hM18 data_16 (by simp only [slices_insertionSortCmpFunc_Account_L1, h24, cs4])
   refine KS ?_
   refine Oq Vm (Oq Vadd (Oq Va (KS ?_)))
   exact Kg (r14, data_16, (i_4 + 1)) [0, 0] ⟨(q3 hM5 (by simp only [slices_insertionSortCmpFunc_Account_L0, h12, h24, hR41, cs4])), (by omega), (by omega), (by omega), (by omega)⟩
 intro h12
 have g42 := of_decide_eq_false h12
 obtain rfl : r2 = 0 := by omega
 refine Ke ?_
 have hR43 := q2 hM5 data_3 (by simp only [slices_insertionSortCmpFunc_Account_L0, h12, cs4])
 refine Fl 0 fun hn44 => ?_
 have hq := q4 hrr data_3 (by simp only [slices_insertionSortCmpFunc_Account, h12, hR43, cs4]); subst hq
 exact Kz () rfl .nil [0] en
theorem fn48 (data : List GAccount) (dataa0 : Option Addr) (datak0 : Nat) (lo : Int) (hi : Int) (first : Int) (cmpF : FuncId) (cmpC : List Value) (cmpp : GAccount → GAccount → Int) (cmpA : List SP) (hlo_0 : i64ok lo) (hhi_0 : i64ok hi) (hfirst_0 : i64ok first) (hcmpc : callable Try.prog cmpF = true) (hcmpF : ∀ x0 x1, i64ok x0.Query → i64ok x0.Turns → i64ok x0.Steps → i64ok x0.Cost → i64ok x1.Query → i64ok x1.Turns → i64ok x1.Steps → i64ok x1.Cost → FT Try.prog cmpF ([(.agg #[vi x0.Query, vi x0.Turns, vi x0.Steps, vi x0.Cost] : Value), (.agg #[vi x1.Query, vi x1.Turns, vi x1.Steps, vi x1.Cost] : Value)] ++ cmpC).toArray ([] ++ [pAll cmpA]) (fun _ : Unit => i64ok (cmpp x0 x1)) (fun _ => vi (cmpp x0 x1)) (fun _ => [])) (ha0 : 0 ≤ lo ∧ lo ≤ 65535 ∧ 0 ≤ hi ∧ 0 ≤ first ∧ first + hi ≤ (data.length : Int) ∧ data.length ≤ 65535) (rr : List GAccount) (hrr : slices_siftDownCmpFunc_Account data lo hi first cmpp = rr) : FT Try.prog 48 #[vl dataa0 datak0 data, vi lo, vi hi, vi first, .func (.func cmpF) #[] cmpC.toArray] [O dataa0 datak0 data, pAll cmpA] (fun g : Unit => (rr.length = data.length)) (fun g => .tuple #[]) (fun g => [os (vl dataa0 datak0 data) rr]) := by
 refine FTi Try.func48 fun w0 M0 F0 => ?_
 unfold i64ok at hlo_0 hhi_0 hfirst_0
 refine Fb 32 0 fun hl1 => ?_
 refine KS ?_
 refine Oq Vm (Oq Va (KS ?_))
 have hterm8 : slices_siftDownCmpFunc_Account_L0 hi first cmpp (hi.toNat + 1) data lo ≠ LR.oof := (sift_t _ _ _ (by omega) (by omega) (by omega))
 refine Kl (γ := Nat × List GAccount × Int) (fun (r2, data_3, root_4) => ⟨[(0, vl dataa0 datak0 data), (2, vi hi), (3, vi first), (4, .func (.func cmpF) #[] cmpC.toArray), (10, vi root_4)], [os (vl dataa0 datak0 data) data_3, pAll cmpA], slices_siftDownCmpFunc_Account_L0 hi first cmpp r2 data_3 root_4 = slices_siftDownCmpFunc_Account_L0 hi first cmpp (hi.toNat + 1) data lo ∧ (-9223372036854775808 ≤ root_4 ∧ root_4 ≤ 9223372036854775807) ∧ (0 ≤ root_4 ∧ root_4 ≤ 70000), r2⟩) ((hi.toNat + 1), data, lo) [0, 0] ⟨rfl, (by omega), iv0⟩ ?_
 rintro ⟨r2, data_3, root_4⟩ ⟨hM5, hk6, hv7⟩
 refine JJ_nx fun _ _ hL hA => ?_; dsimp only at hL hA; subst hL hA
 refine Fb 32 0 fun hl9 => ?_
 refine Fl 0 fun hn10 => ?_
 rcases r2 with _ | r2
 · exact absurd (hM5.symm.trans rfl) hterm8
 refine KS ?_
 refine Oq Vm (Oq Vmul (Oq Vadd (Oq Va (KS ?_))))
 refine Oq Vm (Oq Vm (Oq Vgeq (KS ?_)))
 refine Kc ?_ ?_
 · intro h11
   have g12 := of_decide_eq_true h11
   refine Ke ?_
   have hR13 := q2 hM5 (.brk data_3) (by simp only [slices_siftDownCmpFunc_Account_L0, h11, cs4])
   refine Fl 0 fun hn14 => ?_
   have hq := q4 hrr data_3 (by simp only [slices_siftDownCmpFunc_Account, h11, hR13, cs4]); subst hq
   exact Kz () rfl .nil [0] en
 intro h11
 have g15 := of_decide_eq_false h11
 refine KS ?_
 refine bool_split (decide ((((2 * root_4) + 1) + 1) < hi)) ?_ ?_
 · intro h16
   have g17 := of_decide_eq_true h16
   refine JJ_peekO_GAccount ((first + ((2 * root_4) + 1)) : Int).toNat 0 rfl rng fun hb18 hb19 hb20 hb21 => ?_
   unfold i64ok at hb18 hb19 hb20 hb21
   refine JJ_peekO2_GAccount (((first + ((2 * root_4) + 1)) + 1) : Int).toNat 0 rfl rng fun hb22 hb23 hb24 hb25 => ?_
   unfold i64ok at hb22 hb23 hb24 hb25
   refine JK_drawK [0, 1, 0, 7, 15, 31, 31, 31, 31, 415, 991, 2015, 31, 31, 31, 24607, 57375, 127007, 258079, 524287, 1048575, 2097151] fmix ?_
   refine Dv [] Vm (Dv [] Vadd (Dv [] Vm (Db h16 [] Vlss (Dv [] Vm (Dv [] Vm (Dv [] Vm (Dv [] Vm (Dv [] Vm (Dv [] Vadd ?_)))))))))
   refine Dv [0] (Vi sl35 0) (Dv [0] (VldA sh38 0) (Dv [] Vm (Dv [] Vm (Dv [] Vm (Dv [] Vadd (Dv [] Vadd (Dv [0] (Vi sl35 0) (Dv [0] (VldA sh38 0) (Dx [1] [] [1, 0] (fun G => vi (cmpp (data_3.getD ((first + ((2 * root_4) + 1)) : Int).toNat default) (data_3.getD (((first + ((2 * root_4) + 1)) + 1) : Int).toNat default))) [fun G => SP.fact (i64ok (cmpp (data_3.getD ((first + ((2 * root_4) + 1)) : Int).toNat default) (data_3.getD (((first + ((2 * root_4) + 1)) + 1) : Int).toNat default)))] (fun G => xE («as» := [(.agg #[vi ((data_3.getD ((first + ((2 * root_4) + 1)) : Int).toNat default).Query), vi ((data_3.getD ((first + ((2 * root_4) + 1)) : Int).toNat default).Turns), vi ((data_3.getD ((first + ((2 * root_4) + 1)) : Int).toNat default).Steps), vi ((data_3.getD ((first + ((2 * root_4) + 1)) : Int).toNat default).Cost)] : Value), (.agg #[vi ((data_3.getD (((first + ((2 * root_4) + 1)) + 1) : Int).toNat default).Query), vi ((data_3.getD (((first + ((2 * root_4) + 1)) + 1) : Int).toNat default).Turns), vi ((data_3.getD (((first + ((2 * root_4) + 1)) + 1) : Int).toNat default).Steps), vi ((data_3.getD (((first + ((2 * root_4) + 1)) + 1) : Int).toNat default).Cost)] : Value)] ++ cmpC) [0] hcmpc rfl rfl rfl (by simp) rfl (hcmpF (data_3.getD ((first + ((2 * root_4) + 1)) : Int).toNat default) (data_3.getD (((first + ((2 * root_4) + 1)) + 1) : Int).toNat default)  pre pre pre pre pre pre pre pre)) ?_)))))))))
   refine Dv [] Vlss (Dv [] Vpt ?_)
   refine Dn ⟨by kernel_rfl, fun G => ?_⟩
   refine Jw2 [(0, vl dataa0 datak0 data), (2, vi hi), (3, vi first), (4, .func (.func cmpF) #[] cmpC.toArray), (10, vi root_4), (11, vi ((2 * root_4) + 1)), (40, vb (decide ((cmpp (data_3.getD ((first + ((2 * root_4) + 1)) : Int).toNat default) (data_3.getD (((first + ((2 * root_4) + 1)) + 1) : Int).toNat default)) < 0)))] [0, 1] [SP.fact (i64ok (cmpp (data_3.getD ((first + ((2 * root_4) + 1)) : Int).toNat default) (data_3.getD (((first + ((2 * root_4) + 1)) + 1) : Int).toNat default)))] ?_
   refine Jf 2 rfl ?_; rintro he26
   unfold i64ok at he26
   refine Jk [0, 0] ?_
   refine Kc ?_ ?_
   · intro h27
     have g28 := of_decide_eq_true h27
     refine KS ?_
     refine Oq Vm (Oq Vadd (Oq Va (KS ?_)))
     refine Jl [0] (Ent.oread2 _ _ _ _ _ _) ?_
     refine JJ_peekO_GAccount ((first + root_4) : Int).toNat 0 rfl rng fun hb29 hb30 hb31 hb32 => ?_
     unfold i64ok at hb29 hb30 hb31 hb32
     refine JJ_peekO2_GAccount ((first + (((2 * root_4) + 1) + 1)) : Int).toNat 0 rfl rng fun hb33 hb34 hb35 hb36 => ?_
     unfold i64ok at hb33 hb34 hb35 hb36
     refine JK_drawK [0, 0, 0, 0, 12, 30, 62, 0, 0, 0, 768, 1920, 3968, 8191, 16383, 32767] fmix ?_
     refine Dv [] Vm (Dv [] Vm (Dv [] Vm (Dv [] Vm (Dv [] Vadd (Dv [0] (Vi sl35 0) (Dv [0] (VldA sh38 0) (Dv [] Vm (Dv [] Vm (Dv [] Vm ?_)))))))))
     refine Dv [] Vadd (Dv [0] (Vi sl35 0) (Dv [0] (VldA sh38 0) (Dx [1] [] [1, 0] (fun G => vi (cmpp (data_3.getD ((first + root_4) : Int).toNat default) (data_3.getD ((first + (((2 * root_4) + 1) + 1)) : Int).toNat default))) [fun G => SP.fact (i64ok (cmpp (data_3.getD ((first + root_4) : Int).toNat default) (data_3.getD ((first + (((2 * root_4) + 1) + 1)) : Int).toNat default)))] (fun G => xE («as» := [(.agg #[vi ((data_3.getD ((first + root_4) : Int).toNat default).Query), vi ((data_3.getD ((first + root_4) : Int).toNat default).Turns), vi ((data_3.getD ((first + root_4) : Int).toNat default).Steps), vi ((data_3.getD ((first + root_4) : Int).toNat default).Cost)] : Value), (.agg #[vi ((data_3.getD ((first + (((2 * root_4) + 1) + 1)) : Int).toNat default).Query), vi ((data_3.getD ((first + (((2 * root_4) + 1) + 1)) : Int).toNat default).Turns), vi ((data_3.getD ((first + (((2 * root_4) + 1) + 1)) : Int).toNat default).Steps), vi ((data_3.getD ((first + (((2 * root_4) + 1) + 1)) : Int).toNat default).Cost)] : Value)] ++ cmpC) [0] hcmpc rfl rfl rfl (by simp) rfl (hcmpF (data_3.getD ((first + root_4) : Int).toNat default) (data_3.getD ((first + (((2 * root_4) + 1) + 1)) : Int).toNat default)  pre pre pre pre pre pre pre pre)) (Dv [] Vlss (Dv [] Vnot ?_)))))
     refine Dn ⟨by kernel_rfl, fun G => ?_⟩
     refine Jw2 [(0, vl dataa0 datak0 data), (2, vi hi), (3, vi first), (4, .func (.func cmpF) #[] cmpC.toArray), (10, vi root_4), (11, vi (((2 * root_4) + 1) + 1)), (58, vb (!(decide ((cmpp (data_3.getD ((first + root_4) : Int).toNat default) (data_3.getD ((first + (((2 * root_4) + 1) + 1)) : Int).toNat default)) < 0))))] [0, 1] [SP.fact (i64ok (cmpp (data_3.getD ((first + root_4) : Int).toNat default) (data_3.getD ((first + (((2 * root_4) + 1) + 1)) : Int).toNat default)))] ?_
     refine Jf 2 rfl ?_; rintro he37
     unfold i64ok at he37
     refine Jk [0, 0] ?_
     refine Kc ?_ ?_
     · intro h38
       have h40 := not_true h38
       have g41 := of_decide_eq_false h40
       refine Jl [0] (Ent.oread2 _ _ _ _ _ _) ?_
       refine Fl 0 fun hn42 => ?_
       have hR43 := q2 hM5 (.ret data_3) (by simp only [slices_siftDownCmpFunc_Account_L0, h11, h16, h27, h38, h40, cs4])
       have hq := q4 hrr data_3 (by simp only [slices_siftDownCmpFunc_Account, h11, h16, h27, h38, h40, hR43, cs4]); subst hq
       exact Kr () rfl .nil [0] en
     intro h38
     have h45 := not_false h38
     have g46 := of_decide_eq_true h45
     refine KS ?_
     refine JK_drawK [0, 0, 0, 6, 0, 0, 0, 96, 0, 0, 0, 1536, 3840, 7936, 0, 0, 0, 98304, 245760, 507904, 1048335, 2096911, 4194303, 8388607] fmix ?_
     refine Dv [] Vm (Dv [] Vm (Dv [] Vm (Dv [] Vadd (Dv [] Vm (Dv [] Vm (Dv [] Vm (Dv [] Vadd (Dv [] Vm (Dv [] Vm ?_)))))))))
     refine Dv [] Vm (Dv [] Vadd (Dv [0] (Vi sl35 0) (Dv [0] (VldA sh38 0) (Dv [] Vm (Dv [] Vm (Dv [] Vm (Dv [] Vadd (Dv [0] (Vi sl35 0) (Dv [0] (VldA sh38 0) ?_)))))))))
     refine Dv [0] (Vi sl35 0) ?_
     refine Dx0 [0] [0] [0] [fun G => os (vl dataa0 datak0 data) (data_3.set ((first + root_4) : Int).toNat (data_3.getD ((first + (((2 * root_4) + 1) + 1)) : Int).toNat default))] (fun G => xp [0] rfl (Ent.oread2 _ _ _ _ _ _) (xS (So (Rs := []) [0] sh38 (data_3.getD ((first + (((2 * root_4) + 1) + 1)) : Int).toNat default) (fun h => ⟨rfl, (by unfold i64ok; first | omega | (dsimp only; omega)), (by unfold i64ok; first | omega | (dsimp only; omega)), (by unfold i64ok; first | omega | (dsimp only; omega)), (by unfold i64ok; first | omega | (dsimp only; omega))⟩)))) (Dv [2] (Vi sl35 0) ?_)
     refine Dx0 [2] [2] [0] [fun G => os (vl dataa0 datak0 data) ((data_3.set ((first + root_4) : Int).toNat (data_3.getD ((first + (((2 * root_4) + 1) + 1)) : Int).toNat default)).set ((first + (((2 * root_4) + 1) + 1)) : Int).toNat (data_3.getD ((first + root_4) : Int).toNat default))] (fun G => xS (So (Rs := []) [0] sh38 (data_3.getD ((first + root_4) : Int).toNat default) (fun h => ⟨rfl, (by unfold i64ok; first | omega | (dsimp only; omega)), (by unfold i64ok; first | omega | (dsimp only; omega)), (by unfold i64ok; first | omega | (dsimp only; omega)), (by unfold i64ok; first | omega | (dsimp only; omega))⟩))) ?_
     refine Dn ⟨by kernel_rfl, fun G => ?_⟩
     refine Jw2 [(0, vl dataa0 datak0 data), (2, vi hi), (3, vi first), (4, .func (.func cmpF) #[] cmpC.toArray), (11, vi (((2 * root_4) + 1) + 1))] [1] [os (vl dataa0 datak0 data) ((data_3.set ((first + root_4) : Int).toNat (data_3.getD ((first + (((2 * root_4) + 1) + 1)) : Int).toNat default)).set ((first + (((2 * root_4) + 1) + 1)) : Int).toNat (data_3.getD ((first + root_4) : Int).toNat default))] ?_
     refine KS ?_
     refine Oq Vm (Oq Va (KS ?_))
     exact Kg (r2, ((data_3.set ((first + root_4) : Int).toNat (data_3.getD ((first + (((2 * root_4) + 1) + 1)) : Int).toNat default)).set ((first + (((2 * root_4) + 1) + 1)) : Int).toNat (data_3.getD ((first + root_4) : Int).toNat default)), (((2 * root_4) + 1) + 1)) [1, 0] ⟨(q3 hM5 (by simp only [slices_siftDownCmpFunc_Account_L0, h11, h16, h27, h38, h45, cs4])), (by omega), iv1⟩
   intro h27
   have g47 := of_decide_eq_false h27
   refine KS ?_
   refine Jl [0] (Ent.oread2 _ _ _ _ _ _) ?_
   refine JJ_peekO_GAccount ((first + root_4) : Int).toNat 0 rfl rng fun hb48 hb49 hb50 hb51 => ?_
   unfold i64ok at hb48 hb49 hb50 hb51
   refine JJ_peekO2_GAccount ((first + ((2 * root_4) + 1)) : Int).toNat 0 rfl rng fun hb52 hb53 hb54 hb55 => ?_
   unfold i64ok at hb52 hb53 hb54 hb55
   refine JK_drawK [0, 0, 0, 0, 12, 30, 62, 0, 0, 0, 768, 1920, 3968, 8191, 16383, 32767] fmix ?_
   refine Dv [] Vm (Dv [] Vm (Dv [] Vm (Dv [] Vm (Dv [] Vadd (Dv [0] (Vi sl35 0) (Dv [0] (VldA sh38 0) (Dv [] Vm (Dv [] Vm (Dv [] Vm ?_)))))))))
   refine Dv [] Vadd (Dv [0] (Vi sl35 0) (Dv [0] (VldA sh38 0) (Dx [1] [] [1, 0] (fun G => vi (cmpp (data_3.getD ((first + root_4) : Int).toNat default) (data_3.getD ((first + ((2 * root_4) + 1)) : Int).toNat default))) [fun G => SP.fact (i64ok (cmpp (data_3.getD ((first + root_4) : Int).toNat default) (data_3.getD ((first + ((2 * root_4) + 1)) : Int).toNat default)))] (fun G => xE («as» := [(.agg #[vi ((data_3.getD ((first + root_4) : Int).toNat default).Query), vi ((data_3.getD ((first + root_4) : Int).toNat default).Turns), vi ((data_3.getD ((first + root_4) : Int).toNat default).Steps), vi ((data_3.getD ((first + root_4) : Int).toNat default).Cost)] : Value), (.agg #[vi ((data_3.getD ((first + ((2 * root_4) + 1)) : Int).toNat default).Query), vi ((data_3.getD ((first + ((2 * root_4) + 1)) : Int).toNat default).Turns), vi ((data_3.getD ((first + ((2 * root_4) + 1)) : Int).toNat default).Steps), vi ((data_3.getD ((first + ((2 * root_4) + 1)) : Int).toNat default).Cost)] : Value)] ++ cmpC) [0] hcmpc rfl rfl rfl (by simp) rfl (hcmpF (data_3.getD ((first + root_4) : Int).toNat default) (data_3.getD ((first + ((2 * root_4) + 1)) : Int).toNat default)  pre pre pre pre pre pre pre pre)) (Dv [] Vlss (Dv [] Vnot ?_)))))
   refine Dn ⟨by kernel_rfl, fun G => ?_⟩
   refine Jw2 [(0, vl dataa0 datak0 data), (2, vi hi), (3, vi first), (4, .func (.func cmpF) #[] cmpC.toArray), (10, vi root_4), (11, vi ((2 * root_4) + 1)), (58, vb (!(decide ((cmpp (data_3.getD ((first + root_4) : Int).toNat default) (data_3.getD ((first + ((2 * root_4) + 1)) : Int).toNat default)) < 0))))] [0, 1] [SP.fact (i64ok (cmpp (data_3.getD ((first + root_4) : Int).toNat default) (data_3.getD ((first + ((2 * root_4) + 1)) : Int).toNat default)))] ?_
   refine Jf 2 rfl ?_; rintro he56
   unfold i64ok at he56
   refine Jk [0, 0] ?_
   refine Kc ?_ ?_
   · intro h57
     have h59 := not_true h57
     have g60 := of_decide_eq_false h59
     refine Jl [0] (Ent.oread2 _ _ _ _ _ _) ?_
     refine Fl 0 fun hn61 => ?_
     have hR62 := q2 hM5 (.ret data_3) (by simp only [slices_siftDownCmpFunc_Account_L0, h11, h16, h27, h57, h59, cs4])
     have hq := q4 hrr data_3 (by simp only [slices_siftDownCmpFunc_Account, h11, h16, h27, h57, h59, hR62, cs4]); subst hq
     exact Kr () rfl .nil [0] en
   intro h57
   have h64 := not_false h57
   have g65 := of_decide_eq_true h64
   refine KS ?_
   refine JK_drawK [0, 0, 0, 6, 0, 0, 0, 96, 0, 0, 0, 1536, 3840, 7936, 0, 0, 0, 98304, 245760, 507904, 1048335, 2096911, 4194303, 8388607] fmix ?_
   refine Dv [] Vm (Dv [] Vm (Dv [] Vm (Dv [] Vadd (Dv [] Vm (Dv [] Vm (Dv [] Vm (Dv [] Vadd (Dv [] Vm (Dv [] Vm ?_)))))))))
   refine Dv [] Vm (Dv [] Vadd (Dv [0] (Vi sl35 0) (Dv [0] (VldA sh38 0) (Dv [] Vm (Dv [] Vm (Dv [] Vm (Dv [] Vadd (Dv [0] (Vi sl35 0) (Dv [0] (VldA sh38 0) ?_)))))))))
   refine Dv [0] (Vi sl35 0) ?_
   refine Dx0 [0] [0] [0] [fun G => os (vl dataa0 datak0 data) (data_3.set ((first + root_4) : Int).toNat (data_3.getD ((first + ((2 * root_4) + 1)) : Int).toNat default))] (fun G => xp [0] rfl (Ent.oread2 _ _ _ _ _ _) (xS (So (Rs := []) [0] sh38 (data_3.getD ((first + ((2 * root_4) + 1)) : Int).toNat default) (fun h => ⟨rfl, (by unfold i64ok; first | omega | (dsimp only; omega)), (by unfold i64ok; first | omega | (dsimp only; omega)), (by unfold i64ok; first | omega | (dsimp only; omega)), (by unfold i64ok; first | omega | (dsimp only; omega))⟩)))) (Dv [2] (Vi sl35 0) ?_)
   refine Dx0 [2] [2] [0] [fun G => os (vl dataa0 datak0 data) ((data_3.set ((first + root_4) : Int).toNat (data_3.getD ((first + ((2 * root_4) + 1)) : Int).toNat default)).set ((first + ((2 * root_4) + 1)) : Int).toNat (data_3.getD ((first + root_4) : Int).toNat default))] (fun G => xS (So (Rs := []) [0] sh38 (data_3.getD ((first + root_4) : Int).toNat default) (fun h => ⟨rfl, (by unfold i64ok; first | omega | (dsimp only; omega)), (by unfold i64ok; first | omega | (dsimp only; omega)), (by unfold i64ok; first | omega | (dsimp only; omega)), (by unfold i64ok; first | omega | (dsimp only; omega))⟩))) ?_
   refine Dn ⟨by kernel_rfl, fun G => ?_⟩
   refine Jw2 [(0, vl dataa0 datak0 data), (2, vi hi), (3, vi first), (4, .func (.func cmpF) #[] cmpC.toArray), (11, vi ((2 * root_4) + 1))] [1] [os (vl dataa0 datak0 data) ((data_3.set ((first + root_4) : Int).toNat (data_3.getD ((first + ((2 * root_4) + 1)) : Int).toNat default)).set ((first + ((2 * root_4) + 1)) : Int).toNat (data_3.getD ((first + root_4) : Int).toNat default))] ?_
   refine KS ?_
   refine Oq Vm (Oq Va (KS ?_))
   exact Kg (r2, ((data_3.set ((first + root_4) : Int).toNat (data_3.getD ((first + ((2 * root_4) + 1)) : Int).toNat default)).set ((first + ((2 * root_4) + 1)) : Int).toNat (data_3.getD ((first + root_4) : Int).toNat default)), ((2 * root_4) + 1)) [1, 0] ⟨(q3 hM5 (by simp only [slices_siftDownCmpFunc_Account_L0, h11, h16, h27, h57, h64, cs4])), (by omega), iv1⟩
 intro h16
 have g66 := of_decide_eq_false h16
 refine Kq [0, 1, 0, 7, 15, 31, 31, 31, 31, 415, 991, 2015, 31, 31, 31, 24607, 57375, 127007, 258079, 524287, 1048575, 2097151] fmix ?_
 refine Qv [] Vm (Qv [] Vadd (Qv [] Vm (Qb h16 [] Vlss (Qv [] Vm (Qs (Qs (Qs (Qs (Qs ?_)))))))))
 refine Qs (Qs (Qs (Qs (Qs (Qs (Qs (Qs (Qs (Qs ?_)))))))))
 refine Qs (Qv [] Vpf ?_)
 refine Qn ⟨by kernel_rfl, ?_⟩
 refine Kf ?_
 refine KS ?_
 refine JJ_peekO_GAccount ((first + root_4) : Int).toNat 0 rfl rng fun hb67 hb68 hb69 hb70 => ?_
 unfold i64ok at hb67 hb68 hb69 hb70
 refine JJ_peekO2_GAccount ((first + ((2 * root_4) + 1)) : Int).toNat 0 rfl rng fun hb71 hb72 hb73 hb74 => ?_
 unfold i64ok at hb71 hb72 hb73 hb74
 refine JK_drawK [0, 0, 0, 0, 12, 30, 62, 0, 0, 0, 768, 1920, 3968, 8191, 16383, 32767] fmix ?_
 refine Dv [] Vm (Dv [] Vm (Dv [] Vm (Dv [] Vm (Dv [] Vadd (Dv [0] (Vi sl35 0) (Dv [0] (VldA sh38 0) (Dv [] Vm (Dv [] Vm (Dv [] Vm ?_)))))))))
 refine Dv [] Vadd (Dv [0] (Vi sl35 0) (Dv [0] (VldA sh38 0) (Dx [1] [] [1, 0] (fun G => vi (cmpp (data_3.getD ((first + root_4) : Int).toNat default) (data_3.getD ((first + ((2 * root_4) + 1)) : Int).toNat default))) [fun G => SP.fact (i64ok (cmpp (data_3.getD ((first + root_4) : Int).toNat default) (data_3.getD ((first + ((2 * root_4) + 1)) : Int).toNat default)))] (fun G => xE («as» := [(.agg #[vi ((data_3.getD ((first + root_4) : Int).toNat default).Query), vi ((data_3.getD ((first + root_4) : Int).toNat default).Turns), vi ((data_3.getD ((first + root_4) : Int).toNat default).Steps), vi ((data_3.getD ((first + root_4) : Int).toNat default).Cost)] : Value), (.agg #[vi ((data_3.getD ((first + ((2 * root_4) + 1)) : Int).toNat default).Query), vi ((data_3.getD ((first + ((2 * root_4) + 1)) : Int).toNat default).Turns), vi ((data_3.getD ((first + ((2 * root_4) + 1)) : Int).toNat default).Steps), vi ((data_3.getD ((first + ((2 * root_4) + 1)) : Int).toNat default).Cost)] : Value)] ++ cmpC) [0] hcmpc rfl rfl rfl (by simp) rfl (hcmpF (data_3.getD ((first + root_4) : Int).toNat default) (data_3.getD ((first + ((2 * root_4) + 1)) : Int).toNat default)  pre pre pre pre pre pre pre pre)) (Dv [] Vlss (Dv [] Vnot ?_)))))
 refine Dn ⟨by kernel_rfl, fun G => ?_⟩
 refine Jw2 [(0, vl dataa0 datak0 data), (2, vi hi), (3, vi first), (4, .func (.func cmpF) #[] cmpC.toArray), (10, vi root_4), (11, vi ((2 * root_4) + 1)), (58, vb (!(decide ((cmpp (data_3.getD ((first + root_4) : Int).toNat default) (data_3.getD ((first + ((2 * root_4) + 1)) : Int).toNat default)) < 0))))] [0, 1] [SP.fact (i64ok (cmpp (data_3.getD ((first + root_4) : Int).toNat default) (data_3.getD ((first + ((2 * root_4) + 1)) : Int).toNat default)))] ?_
 refine Jf 2 rfl ?_; rintro he75
 unfold i64ok at he75
 refine Jk [0, 0] ?_
 refine Kc ?_ ?_
 · intro h76
   have h78 := not_true h76
   have g79 := of_decide_eq_false h78
   refine Jl [0] (Ent.oread2 _ _ _ _ _ _) ?_
   refine Fl 0 fun hn80 => ?_
   have hR81 := q2 hM5 (.ret data_3) (by simp only [slices_siftDownCmpFunc_Account_L0, h11, h16, h76, h78, cs4])
   have hq := q4 hrr data_3 (by simp only [slices_siftDownCmpFunc_Account, h11, h16, h76, h78, hR81, cs4]); subst hq
   exact Kr () rfl .nil [0] en
 intro h76
 have h83 := not_false h76
 have g84 := of_decide_eq_true h83
 refine KS ?_
 refine JK_drawK [0, 0, 0, 6, 0, 0, 0, 96, 0, 0, 0, 1536, 3840, 7936, 0, 0, 0, 98304, 245760, 507904, 1048335, 2096911, 4194303, 8388607] fmix ?_
 refine Dv [] Vm (Dv [] Vm (Dv [] Vm (Dv [] Vadd (Dv [] Vm (Dv [] Vm (Dv [] Vm (Dv [] Vadd (Dv [] Vm (Dv [] Vm ?_)))))))))
 refine Dv [] Vm (Dv [] Vadd (Dv [0] (Vi sl35 0) (Dv [0] (VldA sh38 0) (Dv [] Vm (Dv [] Vm (Dv [] Vm (Dv [] Vadd (Dv [0] (Vi sl35 0) (Dv [0] (VldA sh38 0) ?_)))))))))
 refine Dv [0] (Vi sl35 0) ?_
 refine Dx0 [0] [0] [0] [fun G => os (vl dataa0 datak0 data) (data_3.set ((first + root_4) : Int).toNat (data_3.getD ((first + ((2 * root_4) + 1)) : Int).toNat default))] (fun G => xp [0] rfl (Ent.oread2 _ _ _ _ _ _) (xS (So (Rs := []) [0] sh38 (data_3.getD ((first + ((2 * root_4) + 1)) : Int).toNat default) (fun h => ⟨rfl, (by unfold i64ok; first | omega | (dsimp only; omega)), (by unfold i64ok; first | omega | (dsimp only; omega)), (by unfold i64ok; first | omega | (dsimp only; omega)), (by unfold i64ok; first | omega | (dsimp only; omega))⟩)))) (Dv [2] (Vi sl35 0) ?_)
 refine Dx0 [2] [2] [0] [fun G => os (vl dataa0 datak0 data) ((data_3.set ((first + root_4) : Int).toNat (data_3.getD ((first + ((2 * root_4) + 1)) : Int).toNat default)).set ((first + ((2 * root_4) + 1)) : Int).toNat (data_3.getD ((first + root_4) : Int).toNat default))] (fun G => xS (So (Rs := []) [0] sh38 (data_3.getD ((first + root_4) : Int).toNat default) (fun h => ⟨rfl, (by unfold i64ok; first | omega | (dsimp only; omega)), (by unfold i64ok; first | omega | (dsimp only; omega)), (by unfold i64ok; first | omega | (dsimp only; omega)), (by unfold i64ok; first | omega | (dsimp only; omega))⟩))) ?_
 refine Dn ⟨by kernel_rfl, fun G => ?_⟩
 refine Jw2 [(0, vl dataa0 datak0 data), (2, vi hi), (3, vi first), (4, .func (.func cmpF) #[] cmpC.toArray), (11, vi ((2 * root_4) + 1))] [1] [os (vl dataa0 datak0 data) ((data_3.set ((first + root_4) : Int).toNat (data_3.getD ((first + ((2 * root_4) + 1)) : Int).toNat default)).set ((first + ((2 * root_4) + 1)) : Int).toNat (data_3.getD ((first + root_4) : Int).toNat default))] ?_
 refine KS ?_
 refine Oq Vm (Oq Va (KS ?_))
 exact Kg (r2, ((data_3.set ((first + root_4) : Int).toNat (data_3.getD ((first + ((2 * root_4) + 1)) : Int).toNat default)).set ((first + ((2 * root_4) + 1)) : Int).toNat (data_3.getD ((first + root_4) : Int).toNat default)), ((2 * root_4) + 1)) [1, 0] ⟨(q3 hM5 (by simp only [slices_siftDownCmpFunc_Account_L0, h11, h16, h76, h83, cs4])), (by omega), iv1⟩
theorem fn38 (data : List GAccount) (dataa0 : Option Addr) (datak0 : Nat) (a : Int) (b : Int) (cmpF : FuncId) (cmpC : List Value) (cmpp : GAccount → GAccount → Int) (cmpA : List SP) (ha_0 : i64ok a) (hb_0 : i64ok b) (hcmpc : callable Try.prog cmpF = true) (hcmpF : ∀ x0 x1, i64ok x0.Query → i64ok x0.Turns → i64ok x0.Steps → i64ok x0.Cost → i64ok x1.Query → i64ok x1.Turns → i64ok x1.Steps → i64ok x1.Cost → FT Try.prog cmpF ([(.agg #[vi x0.Query, vi x0.Turns, vi x0.Steps, vi x0.Cost] : Value), (.agg #[vi x1.Query, vi x1.Turns, vi x1.Steps, vi x1.Cost] : Value)] ++ cmpC).toArray ([] ++ [pAll cmpA]) (fun _ : Unit => i64ok (cmpp x0 x1)) (fun _ => vi (cmpp x0 x1)) (fun _ => [])) (ha0 : 0 ≤ a ∧ a ≤ b ∧ b ≤ (data.length : Int) ∧ data.length ≤ 65535 ∧ 1 ≤ b - a) (rr : List GAccount) (hrr : slices_heapSortCmpFunc_Account data a b cmpp = rr) : FT Try.prog 38 #[vl dataa0 datak0 data, vi a, vi b, .func (.func cmpF) #[] cmpC.toArray] [O dataa0 datak0 data, pAll cmpA] (fun g : Unit => (rr.length = data.length)) (fun g => .tuple #[]) (fun g => [os (vl dataa0 datak0 data) rr]) := by
 refine FTi Try.func38 fun w0 M0 F0 => ?_
 unfold i64ok at ha_0 hb_0
 refine Fb 32 0 fun hl1 => ?_
 refine KS ?_
 refine Oq Vm (Oq Va (KS ?_))
 refine Oq Va (KS ?_)
 refine Oq Vm (Oq Vm (Oq Vsub (Oq Va (KS ?_))))
 refine Oq Vm (Oq Vsub (Oq Vquo (Oq Va (KS ?_))))
 have hterm8 : slices_heapSortCmpFunc_Account_L0 a b cmpp ((b - a).toNat + 1) data (((b - a) - 1) / 2) ≠ LR.oof := (heap0_t _ _ _ (by omega) (by omega))
 refine Kl (γ := Nat × List GAccount × Int) (fun (r2, data_3, i_4) => ⟨[(0, vl dataa0 datak0 data), (3, .func (.func cmpF) #[] cmpC.toArray), (8, vi a), (9, vi 0), (10, vi (b - a)), (11, vi i_4)], [os (vl dataa0 datak0 data) data_3, pAll cmpA], slices_heapSortCmpFunc_Account_L0 a b cmpp r2 data_3 i_4 = slices_heapSortCmpFunc_Account_L0 a b cmpp ((b - a).toNat + 1) data (((b - a) - 1) / 2) ∧ (-9223372036854775808 ≤ i_4 ∧ i_4 ≤ 9223372036854775807) ∧ (-1 ≤ i_4 ∧ i_4 ≤ b - a), r2⟩) (((b - a).toNat + 1), data, (((b - a) - 1) / 2)) [0, 0] ⟨rfl, (by omega), iv0⟩ ?_
 rintro ⟨r2, data_3, i_4⟩ ⟨hM5, hk6, hv7⟩
 refine JJ_nx fun _ _ hL hA => ?_; dsimp only at hL hA; subst hL hA
 refine Fb 32 0 fun hl9 => ?_
 refine Fl 0 fun hn10 => ?_
 rcases r2 with _ | r2
 · exact absurd (hM5.symm.trans rfl) hterm8
 refine KS ?_
 refine Oq Vm (Oq Vgeq (KS ?_))
 refine Kc ?_ ?_
 · intro h11
   have g12 := of_decide_eq_true h11
   refine KS ?_
   refine Oq Vm (Oq Vm (Oq Vm (Oq Vm (Oq Vm ?_))))
   refine Fl 0 fun hn13 => ?_; (try unfold vl); rw [← hn13]
   refine letv (slices_siftDownCmpFunc_Account data_3 i_4 (b - a) a cmpp) fun rv14 hg15 => ?_
   have hc16 := fn48 data_3 dataa0 datak0 i_4 ((b - a)) a cmpF cmpC cmpp cmpA pre pre pre hcmpc hcmpF pre rv14 hg15
   refine Oc [0, 0] ca48 hc16 ?_
   rintro - he17
   have hn18 : data_3.length = data.length := by omega
   try unfold vl
   try rw [hn18]
   refine KS ?_
   refine Oq Vm (Oq Vsub (Oq Va (KS ?_)))
   exact Kg (r2, rv14, (i_4 - 1)) [0, 0] ⟨(q3 hM5 (by simp only [slices_heapSortCmpFunc_Account_L0, h11, hg15, cs4])), (by omega), iv1⟩
 intro h11
 have g19 := of_decide_eq_false h11
 refine Ke ?_
 have hR20 := q2 hM5 (.brk data_3) (by simp only [slices_heapSortCmpFunc_Account_L0, h11, cs4])
 refine KS ?_
 refine Oq Vm (Oq Vsub (Oq Va (KS ?_)))
 have hterm27 : slices_heapSortCmpFunc_Account_L1 a cmpp ((b - a).toNat + 1) data_3 ((b - a) - 1) ≠ LR.oof := (heap1_t _ _ _ (by omega) (by omega))
 refine Kl (γ := Nat × List GAccount × Int) (fun (r21, data_22, i_23) => ⟨[(0, vl dataa0 datak0 data), (3, .func (.func cmpF) #[] cmpC.toArray), (8, vi a), (9, vi 0), (12, vi i_23)], [os (vl dataa0 datak0 data) data_22, pAll cmpA], slices_heapSortCmpFunc_Account_L1 a cmpp r21 data_22 i_23 = slices_heapSortCmpFunc_Account_L1 a cmpp ((b - a).toNat + 1) data_3 ((b - a) - 1) ∧ (-9223372036854775808 ≤ i_23 ∧ i_23 ≤ 9223372036854775807) ∧ (-1 ≤ i_23 ∧ i_23 < b - a), r21⟩) (((b - a).toNat + 1), data_3, ((b - a) - 1)) [0, 0] ⟨rfl, (by omega), iv0⟩ ?_
 rintro ⟨r21, data_22, i_23⟩ ⟨hM24, hk25, hv26⟩
 refine JJ_nx fun _ _ hL hA => ?_; dsimp only at hL hA; subst hL hA
 refine Fb 32 0 fun hl28 => ?_
 refine Fl 0 fun hn29 => ?_
 rcases r21 with _ | r21
 · exact absurd (hM24.symm.trans rfl) hterm27
 refine KS ?_
 refine Oq Vm (Oq Vgeq (KS ?_))
 refine Kc ?_ ?_
 · intro h30
   have g31 := of_decide_eq_true h30
   refine KS ?_
   refine JJ_peekO_GAccount ((a + i_23) : Int).toNat 0 rfl rng fun hb32 hb33 hb34 hb35 => ?_
   unfold i64ok at hb32 hb33 hb34 hb35
   refine JJ_peekO2_GAccount a.toNat 0 rfl rng fun hb36 hb37 hb38 hb39 => ?_
   unfold i64ok at hb36 hb37 hb38 hb39
   refine JK_drawK [0, 0, 0, 0, 0, 24, 0, 0, 0, 384, 960, 1984, 0, 0, 12288, 28672, 65475, 131011, 262143, 524287] fmix ?_
   refine Dv [] Vm (Dv [] Vm (Dv [] Vm (Dv [] Vm (Dv [] Vm (Dv [] Vadd (Dv [] Vm (Dv [] Vm (Dv [] Vm (Dv [] Vadd ?_)))))))))
   refine Dv [0] (Vi sl35 0) (Dv [0] (VldA sh38 0) (Dv [] Vm (Dv [] Vm (Dv [0] (Vi sl35 0) (Dv [0] (VldA sh38 0) (Dv [0] (Vi sl35 0) ?_))))))
   refine Dx0 [0] [0] [0] [fun G => os (vl dataa0 datak0 data) (data_22.set a.toNat (data_22.getD ((a + i_23) : Int).toNat default))] (fun G => xp [0] rfl (Ent.oread2 _ _ _ _ _ _) (xS (So (Rs := []) [0] sh38 (data_22.getD ((a + i_23) : Int).toNat default) (fun h => ⟨rfl, (by unfold i64ok; first | omega | (dsimp only; omega)), (by unfold i64ok; first | omega | (dsimp only; omega)), (by unfold i64ok; first | omega | (dsimp only; omega)), (by unfold i64ok; first | omega | (dsimp only; omega))⟩)))) (Dv [2] (Vi sl35 0) ?_)
   refine Dx0 [2] [2] [0] [fun G => os (vl dataa0 datak0 data) ((data_22.set a.toNat (data_22.getD ((a + i_23) : Int).toNat default)).set ((a + i_23) : Int).toNat (data_22.getD a.toNat default))] (fun G => xS (So (Rs := []) [0] sh38 (data_22.getD a.toNat default) (fun h => ⟨rfl, (by unfold i64ok; first | omega | (dsimp only; omega)), (by unfold i64ok; first | omega | (dsimp only; omega)), (by unfold i64ok; first | omega | (dsimp only; omega)), (by unfold i64ok; first | omega | (dsimp only; omega))⟩))) ?_
   refine Dn ⟨by kernel_rfl, fun G => ?_⟩
   refine Jw2 [(0, vl dataa0 datak0 data), (3, .func (.func cmpF) #[] cmpC.toArray), (8, vi a), (9, vi 0), (12, vi i_23)] [1] [os (vl dataa0 datak0 data) ((data_22.set a.toNat (data_22.getD ((a + i_23) : Int).toNat default)).set ((a + i_23) : Int).toNat (data_22.getD a.toNat default))] ?_
   refine KS ?_
   refine Oq Vm (Oq Vm (Oq Vm (Oq Vm (Oq Vm ?_))))
   refine Fl 1 fun hn40 => ?_; (try unfold vl); rw [← hn40]
   refine letv (slices_siftDownCmpFunc_Account ((data_22.set a.toNat (data_22.getD ((a + i_23) : Int).toNat default)).set ((a + i_23) : Int).toNat (data_22.getD a.toNat default)) 0 i_23 a cmpp) fun rv41 hg42 => ?_
   have hc43 := fn48 (((data_22.set a.toNat (data_22.getD ((a + i_23) : Int).toNat default)).set ((a + i_23) : Int).toNat (data_22.getD a.toNat default))) dataa0 datak0 0 i_23 a cmpF cmpC cmpp cmpA pre pre pre hcmpc hcmpF pre rv41 hg42
   refine Oc [1, 0] ca48 hc43 ?_
   rintro - he44
   have hn45 : ((data_22.set a.toNat (data_22.getD ((a + i_23) : Int).toNat default)).set ((a + i_23) : Int).toNat (data_22.getD a.toNat default)).length = data.length := by omega
   try unfold vl
   try rw [hn45]
   refine KS ?_
   refine Oq Vm (Oq Vsub (Oq Va (KS ?_)))
   exact Kg (r21, rv41, (i_23 - 1)) [0, 0] ⟨(q3 hM24 (by simp only [slices_heapSortCmpFunc_Account_L1, h30, hg42, cs4])), (by omega), iv1⟩
 intro h30
 have g46 := of_decide_eq_false h30
 refine Ke ?_
 have hR47 := q2 hM24 (.brk data_22) (by simp only [slices_heapSortCmpFunc_Account_L1, h30, cs4])
 refine Fl 0 fun hn48 => ?_
 have hq := q4 hrr data_22 (by simp only [slices_heapSortCmpFunc_Account, h11, h30, hR20, hR47, cs4]); subst hq
 exact Kz () rfl .nil [0] en
theorem fn46 (x : BitVec 64) (hx0 : x.toNat ≤ 65535) (rr : Int) (hrr : bits_Len64 x = rr) : FT Try.prog 46 #[u64 x] [] (fun g : Unit => i64ok rr) (fun g => vi rr) (fun g => []) := by
 refine FTi Try.func46 fun w0 M0 F0 => ?_
 have hs8 : (x >>> (((8#64).toNat : Int)).toNat).toNat = x.toNat / 256 := by rw [show (((8#64).toNat : Int)).toNat = 8 by decide, BitVec.toNat_ushiftRight, Nat.shiftRight_eq_div_pow]
 have hs9 : (x >>> Int.toNat 8).toNat = x.toNat / 256 := hs8
 have hu8 := u8b (tab0.b.getD (((x >>> Int.toNat 8).toNat : Int)).toNat 0)
 refine KS ?_
 refine Oq Va (KS ?_)
 refine Oq Vm (Oq (Vgeq (a := (x.toNat : Int)) (b := 4294967296)) (KS ?_))
 refine Kc ?_ ?_
 · intro h1
   have g2 := of_decide_eq_true h1
   exfalso; omega
 intro h1
 have g3 := of_decide_eq_false h1
 refine KS ?_
 refine Oq Vm (Oq (Vgeq (a := (x.toNat : Int)) (b := 65536)) (KS ?_))
 refine Kc ?_ ?_
 · intro h4
   have g5 := of_decide_eq_true h4
   exfalso; omega
 intro h4
 have g6 := of_decide_eq_false h4
 refine KS ?_
 refine Oq Vm (Oq (Vgeq (a := (x.toNat : Int)) (b := 256)) (KS ?_))
 refine Kc ?_ ?_
 · intro h7
   have g8 := of_decide_eq_true h7
   refine KS ?_
   refine Oq Vm (Oq VshrU (Oq Va (KS ?_)))
   refine Oq Vm (Oq Vadd (Oq Va (KS ?_)))
   refine Oq Vm (Oq Vm (Oq (VcU8 un68 un5) ?_))
   refine Oq (Vix un9 (l := tab0) (h := ⟨by omega, by rw [show tab0.b.length = 256 from rfl]; omega⟩)) ?_
   have hb9 := u8b (tab0.b.getD (((x >>> (((8#64).toNat : Int)).toNat).toNat : Int) : Int).toNat 0)
   refine Oq (VcK un5 un3) (Oq Vadd (Oq Va (KS ?_)))
   have hq := q4 hrr ((0 + 8) + ((tab0.b.getD (((x >>> (((8#64).toNat : Int)).toNat).toNat : Int) : Int).toNat 0).toNat : Int)) (by simp only [bits_Len64, h1, h4, h7, cs4]); subst hq
   exact Kr () rfl (.tmp rfl .nil) [] en
 intro h7
 have g10 := of_decide_eq_false h7
 refine KS ?_
 refine Oq Vm (Oq Vm (Oq (VcU8 un68 un5) ?_))
 refine Oq (Vix un9 (l := tab0) (h := ⟨by omega, by rw [show tab0.b.length = 256 from rfl]; omega⟩)) ?_
 have hb11 := u8b (tab0.b.getD ((x.toNat : Int) : Int).toNat 0)
 refine Oq (VcK un5 un3) (Oq Vadd (Oq Va (KS ?_)))
 have hq := q4 hrr (0 + ((tab0.b.getD ((x.toNat : Int) : Int).toNat 0).toNat : Int)) (by simp only [bits_Len64, h1, h4, h7, cs4]); subst hq
 exact Kr () rfl (.tmp rfl .nil) [] en
theorem fn33 (x : BitVec 64) (hx0 : x.toNat ≤ 65535) (rr : Int) (hrr : bits_Len x = rr) : FT Try.prog 33 #[u64 x] [] (fun g : Unit => i64ok rr) (fun g => vi rr) (fun g => []) := by
 refine FTi Try.func33 fun w0 M0 F0 => ?_
 refine KS ?_
 refine Oq Va (KS ?_)
 refine Kf ?_
 refine KS ?_
 refine Oq Vm ?_
 refine letv (bits_Len64 x) fun rv1 hg2 => ?_
 have hc3 := fn46 x pre rv1 hg2
 refine Oc [] ca46 hc3 ?_
 rintro - he4
 unfold i64ok at he4
 refine Oq Va (KS ?_)
 have hq := q4 hrr rv1 (by simp only [bits_Len, hg2, cs4]); subst hq
 exact Kr () rfl (.tmp rfl .nil) [] en
theorem fn49 (length : Int) (hlength_0 : i64ok length) (hl0 : 1 ≤ length ∧ length ≤ 65535) (rr : BitVec 64) (hrr : slices_nextPowerOfTwo length = rr) : FT Try.prog 49 #[vi length] [] (fun g : Unit => True) (fun g => u64 rr) (fun g => []) := by
 refine FTi Try.func49 fun w0 M0 F0 => ?_
 unfold i64ok at hlength_0
 refine KS ?_
 refine Oq Va (KS ?_)
 refine Oq Vm (Oq (VcU un3 un54) ?_)
 refine letv (bits_Len (BitVec.ofInt 64 length)) fun rv1 hg2 => ?_
 have hln := Len_f hg2 (by rw [ofI_nat (by omega)]; omega)
 have hc3 := fn33 ((BitVec.ofInt 64 length)) (by rw [ofI_nat (by omega)]; omega) rv1 hg2
 refine Oc [] ca33 hc3 ?_
 rintro - he4
 unfold i64ok at he4
 refine Oq (VshlU (a := 1#64)) (Oq Va (KS ?_))
 have hq := q4 hrr (1#64 <<< (rv1).toNat) (by simp only [slices_nextPowerOfTwo, hg2, cs4]); subst hq
 exact Kr () rfl (.tmp rfl .nil) [] trivial
end Go.SL.G
