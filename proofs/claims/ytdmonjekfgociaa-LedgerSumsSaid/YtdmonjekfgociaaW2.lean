/- Part 2 of the walks: mirrors, plain laws and walks used by the last text of this claim. -/
import Derived.Test.YtdmonjekfgociaaW1
import Derived.Test.YtdmonjekfgociaaProg
set_option linter.unusedVariables false
set_option linter.unusedSimpArgs false
namespace Go.SL.G
open Go Go.SL Go.Proofs
set_option maxHeartbeats 20000000
set_option maxRecDepth 100000
structure GTurn where
  Query : Int
  Quantum : Int
  Steps : Int
  Cost : Int
  Finished : Bool
instance : Inhabited GTurn := ⟨⟨0, 0, 0, 0, false⟩⟩
structure GAccount where
  Query : Int
  Turns : Int
  Steps : Int
  Cost : Int
instance : Inhabited GAccount := ⟨⟨0, 0, 0, 0⟩⟩
def tab0 : Str := (Str.mk [0, 1, 2, 2, 3, 3, 3, 3, 4, 4, 4, 4, 4, 4, 4, 4, 5, 5, 5, 5, 5, 5, 5, 5, 5, 5, 5, 5, 5, 5, 5, 5, 6, 6, 6, 6, 6, 6, 6, 6, 6, 6, 6, 6, 6, 6, 6, 6, 6, 6, 6, 6, 6, 6, 6, 6, 6, 6, 6, 6, 6, 6, 6, 6, 7, 7, 7, 7, 7, 7, 7, 7, 7, 7, 7, 7, 7, 7, 7, 7, 7, 7, 7, 7, 7, 7, 7, 7, 7, 7, 7, 7, 7, 7, 7, 7, 7, 7, 7, 7, 7, 7, 7, 7, 7, 7, 7, 7, 7, 7, 7, 7, 7, 7, 7, 7, 7, 7, 7, 7, 7, 7, 7, 7, 7, 7, 7, 7, 8, 8, 8, 8, 8, 8, 8, 8, 8, 8, 8, 8, 8, 8, 8, 8, 8, 8, 8, 8, 8, 8, 8, 8, 8, 8, 8, 8, 8, 8, 8, 8, 8, 8, 8, 8, 8, 8, 8, 8, 8, 8, 8, 8, 8, 8, 8, 8, 8, 8, 8, 8, 8, 8, 8, 8, 8, 8, 8, 8, 8, 8, 8, 8, 8, 8, 8, 8, 8, 8, 8, 8, 8, 8, 8, 8, 8, 8, 8, 8, 8, 8, 8, 8, 8, 8, 8, 8, 8, 8, 8, 8, 8, 8, 8, 8, 8, 8, 8, 8, 8, 8, 8, 8, 8, 8, 8, 8, 8, 8, 8, 8, 8, 8, 8, 8, 8, 8, 8, 8, 8, 8, 8, 8, 8, 8, 8, 8])
abbrev ev_GAccount (x : GAccount) : Value := .agg #[vi x.Query, vi x.Turns, vi x.Steps, vi x.Cost]
instance rep_GTurn : Rep GTurn where
  sz := 5
  bytes := 40
  pos := by decide
  bpos := by decide
  rd w M cs x := cs = [.int .i64 x.Query, .int .i64 x.Quantum, .int .i64 x.Steps, .int .i64 x.Cost, .bool x.Finished] ∧ i64ok x.Query ∧ i64ok x.Quantum ∧ i64ok x.Steps ∧ i64ok x.Cost
  len := by rintro w M cs x ⟨rfl, h0, h1, h2, h3⟩; rfl
  one := by
    rintro w M cs x ⟨rfl, h0, h1, h2, h3⟩ v hv
    simp only [List.mem_cons, List.not_mem_nil, or_false] at hv
    rcases hv with rfl | rfl | rfl | rfl | rfl
    all_goals first | rfl
  st := by
    rintro w M cs x w' M' ⟨rfl, h0, h1, h2, h3⟩ e
    exact ⟨rfl, h0, h1, h2, h3⟩
theorem JJ_peek_GTurn {C : Cx} {X : Act → World → Prop} {L : Env} {A : List SP} {c : Value} {xs : List GTurn} (i m : Nat) (hA : A[m]? = some (sl c xs)) (hi : i < xs.length)
    (h : i64ok (xs.getD i default).Query → i64ok (xs.getD i default).Quantum → i64ok (xs.getD i default).Steps → i64ok (xs.getD i default).Cost → JJ C X L (pv (eptr 5 c i) [.int .i64 (xs.getD i default).Query, .int .i64 (xs.getD i default).Quantum, .int .i64 (xs.getD i default).Steps, .int .i64 (xs.getD i default).Cost, .bool (xs.getD i default).Finished] :: A)) : JJ C X L A := by
  refine JJ_peek i m hA hi default fun cs => ?_
  intro a w M F st
  obtain ⟨F1, F2, q1, q2, qd, hp, F3, F4, q3, q4, qd2, hr, hs⟩ := st.sp
  obtain ⟨rfl, h0, h1, h2, h3⟩ := hr
  exact h h0 h1 h2 h3 a w M F ⟨st.step, st.sz, st.df, st.sat, F1, F2, q1, q2, qd, hp, sepAll_up hs q4⟩
instance rep_GAccount : Rep GAccount where
  sz := 4
  bytes := 32
  pos := by decide
  bpos := by decide
  rd w M cs x := cs = [.int .i64 x.Query, .int .i64 x.Turns, .int .i64 x.Steps, .int .i64 x.Cost] ∧ i64ok x.Query ∧ i64ok x.Turns ∧ i64ok x.Steps ∧ i64ok x.Cost
  len := by rintro w M cs x ⟨rfl, h0, h1, h2, h3⟩; rfl
  one := by
    rintro w M cs x ⟨rfl, h0, h1, h2, h3⟩ v hv
    simp only [List.mem_cons, List.not_mem_nil, or_false] at hv
    rcases hv with rfl | rfl | rfl | rfl
    all_goals first | rfl
  st := by
    rintro w M cs x w' M' ⟨rfl, h0, h1, h2, h3⟩ e
    exact ⟨rfl, h0, h1, h2, h3⟩
theorem JJ_peek_GAccount {C : Cx} {X : Act → World → Prop} {L : Env} {A : List SP} {c : Value} {xs : List GAccount} (i m : Nat) (hA : A[m]? = some (sl c xs)) (hi : i < xs.length)
    (h : i64ok (xs.getD i default).Query → i64ok (xs.getD i default).Turns → i64ok (xs.getD i default).Steps → i64ok (xs.getD i default).Cost → JJ C X L (pv (eptr 4 c i) [.int .i64 (xs.getD i default).Query, .int .i64 (xs.getD i default).Turns, .int .i64 (xs.getD i default).Steps, .int .i64 (xs.getD i default).Cost] :: A)) : JJ C X L A := by
  refine JJ_peek i m hA hi default fun cs => ?_
  intro a w M F st
  obtain ⟨F1, F2, q1, q2, qd, hp, F3, F4, q3, q4, qd2, hr, hs⟩ := st.sp
  obtain ⟨rfl, h0, h1, h2, h3⟩ := hr
  exact h h0 h1 h2 h3 a w M F ⟨st.step, st.sz, st.df, st.sat, F1, F2, q1, q2, qd, hp, sepAll_up hs q4⟩
theorem JJ_peekO_GAccount {C : Cx} {X : Act → World → Prop} {L : Env} {A Ar : List SP} {c : Value} {xs : List GAccount} (i m : Nat) (ht : take A [m] = some ([os c xs], Ar)) (hi : i < xs.length)
    (h : i64ok (xs.getD i default).Query → i64ok (xs.getD i default).Turns → i64ok (xs.getD i default).Steps → i64ok (xs.getD i default).Cost → JJ C X L (oread c xs i [.int .i64 (xs.getD i default).Query, .int .i64 (xs.getD i default).Turns, .int .i64 (xs.getD i default).Steps, .int .i64 (xs.getD i default).Cost] :: Ar)) : JJ C X L A := by
  refine JJ_peekO (Ac := A) i m ht hi default fun cs => ?_
  intro a w M F st
  obtain ⟨F1, F2, q1, q2, qd, hr, F3, F4, q3, q4, qd2, hp, hs⟩ := st.sp
  obtain ⟨rfl, h0, h1, h2, h3⟩ := hr
  exact h h0 h1 h2 h3 a w M F ⟨st.step, st.sz, st.df, st.sat, F3, F4, fun b h => q2 b (q3 b h), fun b h => q2 b (q4 b h), qd2, hp, hs⟩
theorem JJ_peekO2_GAccount {C : Cx} {X : Act → World → Prop} {L : Env} {A Ar : List SP} {i0 : Nat} {cs0 : List Value} {c : Value} {xs : List GAccount} (i m : Nat) (ht : take A [m] = some ([oread c xs i0 cs0], Ar)) (hi : i < xs.length)
    (h : i64ok (xs.getD i default).Query → i64ok (xs.getD i default).Turns → i64ok (xs.getD i default).Steps → i64ok (xs.getD i default).Cost → JJ C X L (oread2 c xs i0 cs0 i [.int .i64 (xs.getD i default).Query, .int .i64 (xs.getD i default).Turns, .int .i64 (xs.getD i default).Steps, .int .i64 (xs.getD i default).Cost] :: Ar)) : JJ C X L A := by
  refine JJ_peekO2 (Ac := A) i m ht hi default fun cs => ?_
  intro a w M F st
  obtain ⟨F1, F2, q1, q2, qd, hr, F3, F4, q3, q4, qd2, hp, hs⟩ := st.sp
  obtain ⟨rfl, h0, h1, h2, h3⟩ := hr
  exact h h0 h1 h2 h3 a w M F ⟨st.step, st.sz, st.df, st.sat, F3, F4, fun b h => q2 b (q3 b h), fun b h => q2 b (q4 b h), qd2, hp, hs⟩
theorem ofInt_ne (n : Int) (h : 1 ≤ n ∧ n ≤ 9223372036854775807) : BitVec.ofInt 64 n ≠ 0 := by
  intro e
  have := congrArg BitVec.toNat e
  rw [BitVec.toNat_ofInt] at this
  simp at this
  omega
theorem mod_range (v n : Int) (h : 1 ≤ n ∧ n ≤ 9223372036854775807) : 0 ≤ (((BitVec.ofInt 64 v) % (BitVec.ofInt 64 n)).toNat : Int) ∧ (((BitVec.ofInt 64 v) % (BitVec.ofInt 64 n)).toNat : Int) < n := by
  rw [BitVec.toNat_umod, BitVec.toNat_ofInt, BitVec.toNat_ofInt]
  have e : (n % ((2 ^ 64 : Nat) : Int)).toNat = n.toNat := by omega
  rw [e]
  have : (v % ((2 ^ 64 : Nat) : Int)).toNat % n.toNat < n.toNat := Nat.mod_lt _ (by omega)
  omega
theorem mod_le (v n : Int) (h : 1 ≤ n ∧ n ≤ 9223372036854775807) : (((BitVec.ofInt 64 v) % (BitVec.ofInt 64 n)).toNat : Int) ≤ 9223372036854775807 := by
  have := mod_range v n h; omega
def ledger_between (n : Int) (least : Int) (most : Int) : Bool :=
  bif decide (least ≤ n) then
    decide (n ≤ most)
  else
    false
def ledger_Valid_L0 (l : List GTurn) : Nat → List (Int × Bool) → Int → LR Unit Bool
  | 0, finished, v12 =>
    .brk ()
  | r + 1, finished, v12 =>
    let rv12 := (ledger_between ((l.getD v12.toNat default).Query) 0 1073741824)
    bif (!rv12) then
      .ret false
    else
      let rv22 := (ledger_between ((l.getD v12.toNat default).Quantum) 0 64)
      bif (!rv22) then
        .ret false
      else
        let rv32 := (ledger_between ((l.getD v12.toNat default).Steps) 0 1073741824)
        bif (!rv32) then
          .ret false
        else
          let rv42 := (ledger_between ((l.getD v12.toNat default).Cost) ((l.getD v12.toNat default).Steps) (min (8 * (l.getD v12.toNat default).Steps) 1073741824))
          bif (!rv42) then
            .ret false
          else
            bif ((mget finished ((l.getD v12.toNat default).Query)).getD false) then
              .ret false
            else
              ledger_Valid_L0 l r (mset finished ((l.getD v12.toNat default).Query) ((l.getD v12.toNat default).Finished)) (v12 + 1)

def ledger_Valid (l : List GTurn) : Bool :=
  bif decide (4096 < (l.length : Int)) then
    false
  else
    match ledger_Valid_L0 l (((l.length : Int) - 0).toNat) [] 0 with
    | .brk _ =>
      true
    | .ret r => r
    | .oof => default
def counter_Clamp (a : Int) : Int :=
  (min (max a 0) 1073741824)
def counter_Add (a : Int) (b : Int) : Int :=
  let rv1 := (counter_Clamp a)
  let rv6 := (counter_Clamp b)
  let rv11 := (counter_Clamp (rv1 + rv6))
  rv11
def ledger_add (a : GAccount) (x : GTurn) : GAccount :=
  bif decide (0 < x.Quantum) then
    let rv6 := (counter_Add a.Steps x.Steps)
    let rv11 := (counter_Add a.Cost x.Cost)
    (GAccount.mk a.Query (a.Turns + 1) rv6 rv11)
  else
    let rv17 := (counter_Add a.Steps x.Steps)
    let rv22 := (counter_Add a.Cost x.Cost)
    (GAccount.mk a.Query a.Turns rv17 rv22)
def slices_insertionSortCmpFunc_Account_L1 (cmpp : GAccount → GAccount → Int) : Nat → List GAccount → Int → List GAccount
  | 0, data', j =>
    data'
  | r + 1, data', j =>
    bif decide ((cmpp (data'.getD j.toNat default) (data'.getD ((j - 1) : Int).toNat default)) < 0) then
      slices_insertionSortCmpFunc_Account_L1 cmpp r ((data'.set j.toNat (data'.getD ((j - 1) : Int).toNat default)).set ((j - 1) : Int).toNat (data'.getD j.toNat default)) (j - 1)
    else
      data'

def slices_insertionSortCmpFunc_Account_L0 (a : Int) (cmpp : GAccount → GAccount → Int) : Nat → List GAccount → Int → List GAccount
  | 0, data', i =>
    data'
  | r + 1, data', i =>
    match slices_insertionSortCmpFunc_Account_L1 cmpp (((i : Int) - a).toNat) data' i with
    | o1_0 =>
      slices_insertionSortCmpFunc_Account_L0 a cmpp r o1_0 (i + 1)

def slices_insertionSortCmpFunc_Account (data : List GAccount) (a : Int) (b : Int) (cmpp : GAccount → GAccount → Int) : List GAccount :=
  match slices_insertionSortCmpFunc_Account_L0 a cmpp (((b : Int) - (a + 1)).toNat) data (a + 1) with
  | o0_0 =>
    o0_0
def slices_pdqsortCmpFunc_Account_L0 (data : List GAccount) (a : Int) (b : Int) (cmpp : GAccount → GAccount → Int) : Nat → LR Unit (List GAccount)
  | 0 =>
    .oof
  | r + 1 =>
    let rv3 := (slices_insertionSortCmpFunc_Account data a b cmpp)
    .ret rv3

def slices_pdqsortCmpFunc_Account (data : List GAccount) (a : Int) (b : Int) (limit : Int) (cmpp : GAccount → GAccount → Int) : List GAccount :=
  match slices_pdqsortCmpFunc_Account_L0 data a b cmpp 1 with
  | .brk _ => default
  | .ret r => r
  | .oof => default
def bits_Len64 (x : BitVec 64) : Int :=
  (0 + ((tab0.b.getD ((x.toNat : Int) : Int).toNat 0).toNat : Int))
def bits_Len (x : BitVec 64) : Int :=
  let rv1 := (bits_Len64 x)
  rv1
def slices_SortFunc_Account (x : List GAccount) (cmpp : GAccount → GAccount → Int) : List GAccount :=
  let rv1 := (bits_Len (BitVec.ofInt 64 (x.length : Int)))
  let rv5 := (slices_pdqsortCmpFunc_Account x 0 (x.length : Int) rv1 cmpp)
  rv5
def cmp_isNaN_int (x : Int) : Bool :=
  (x != x)
def cmp_Compare_int (x : Int) (y : Int) : Int :=
  let rv1 := (cmp_isNaN_int x)
  let rv4 := (cmp_isNaN_int y)
  bif rv1 then
    bif rv4 then
      0
    else
      -1
  else
    bif rv4 then
      1
    else
      bif decide (x < y) then
        -1
      else
        bif decide (y < x) then
          1
        else
          0
def ledger_Accounts_1 (a : GAccount) (b : GAccount) : Int :=
  let rv3 := (cmp_Compare_int a.Query b.Query)
  rv3
def ledger_Accounts_L0 (l : List GTurn) : Nat → List (Int × GAccount) → Int → (List (Int × GAccount))
  | 0, of, v16 =>
    of
  | r + 1, of, v16 =>
    let rv20 := (ledger_add (GAccount.mk ((l.getD v16.toNat default).Query) (((mget of ((l.getD v16.toNat default).Query)).getD (default : GAccount)).Turns) (((mget of ((l.getD v16.toNat default).Query)).getD (default : GAccount)).Steps) (((mget of ((l.getD v16.toNat default).Query)).getD (default : GAccount)).Cost)) (l.getD v16.toNat default))
    ledger_Accounts_L0 l r (mset of ((l.getD v16.toNat default).Query) rv20) (v16 + 1)

def ledger_Accounts_L1  : List (Int × GAccount) → List GAccount → List GAccount
  | [], out =>
    out
  | en1 :: r, out =>
    ledger_Accounts_L1 r (out ++ [en1.2])
theorem ledger_Accounts_L1_app  : ∀ (a b : List (Int × GAccount)) (out : List GAccount), ledger_Accounts_L1 (a ++ b) out = ledger_Accounts_L1 b (ledger_Accounts_L1 a out)
  | [], b, out => rfl
  | en1 :: a, b, out => by
    rw [List.cons_append, ledger_Accounts_L1, ledger_Accounts_L1]
    try simp only [Bool.cond_eq_ite]
    repeat' split
    all_goals exact ledger_Accounts_L1_app  a b _

def ledger_Accounts (l : List GTurn) : List GAccount :=
  let rv1 := (ledger_Valid l)
  bif (!rv1) then
    []
  else
    match ledger_Accounts_L0 l (((l.length : Int) - 0).toNat) [] 0 with
    | o0_0 =>
      match ledger_Accounts_L1 o0_0 [] with
      | o1_0 =>
        let rv17 := (slices_SortFunc_Account o1_0 (fun x0 x1 => ledger_Accounts_1 x0 x1))
        rv17
def flqlaw23_sameAccounts_L0 (a : List GAccount) (b : List GAccount) : Nat → Int → LR Unit Bool
  | 0, i =>
    .brk ()
  | r + 1, i =>
    bif ([(a.getD i.toNat default).Query, (a.getD i.toNat default).Turns, (a.getD i.toNat default).Steps, (a.getD i.toNat default).Cost] != [(b.getD i.toNat default).Query, (b.getD i.toNat default).Turns, (b.getD i.toNat default).Steps, (b.getD i.toNat default).Cost]) then
      .ret false
    else
      flqlaw23_sameAccounts_L0 a b r (i + 1)

def flqlaw23_sameAccounts (a : List GAccount) (b : List GAccount) : Bool :=
  bif ((a.length : Int) != (b.length : Int)) then
    false
  else
    match flqlaw23_sameAccounts_L0 a b (((a.length : Int) - 0).toNat) 0 with
    | .brk _ =>
      true
    | .ret r => r
    | .oof => default
def ledger_greatest_L0 (l : List GTurn) (query : Int) (weightp : GTurn → Int) : Nat → Int → Int → Bool → Int → Int
  | 0, most, sum, inside, v17 =>
    most
  | r + 1, most, sum, inside, v17 =>
    bif ((l.getD v17.toNat default).Query == query) then
      bif decide (0 < (l.getD v17.toNat default).Quantum) then
        bif inside then
          ledger_greatest_L0 l query weightp r (max most sum) 0 true (v17 + 1)
        else
          ledger_greatest_L0 l query weightp r most 0 true (v17 + 1)
      else
        ledger_greatest_L0 l query weightp r most sum inside (v17 + 1)
    else
      ledger_greatest_L0 l query weightp r most (sum + (weightp (l.getD v17.toNat default))) inside (v17 + 1)

def ledger_greatest (l : List GTurn) (query : Int) (weightp : GTurn → Int) : Int :=
  let rv1 := (ledger_Valid l)
  bif (!rv1) then
    0
  else
    match ledger_greatest_L0 l query weightp (((l.length : Int) - 0).toNat) 0 0 false 0 with
    | o0_0 =>
      o0_0
def ledger_Longest_1 (x : GTurn) : Int :=
  x.Cost
def ledger_Longest (l : List GTurn) (query : Int) : Int :=
  let rv1 := (ledger_greatest l query (fun x0 => ledger_Longest_1 x0))
  rv1
def ledger_Between_1 (x : GTurn) (cap0 : Int) : Int :=
  bif (x.Query == cap0) then
    bif decide (0 < x.Quantum) then
      1
    else
      0
  else
    0
def ledger_Between (l : List GTurn) (a : Int) (b : Int) : Int :=
  let rv2 := (ledger_greatest l a (fun x0 => ledger_Between_1 x0 b))
  rv2
def flqlaw23_sane  : Bool :=
  let rv8 := (ledger_Accounts [(GTurn.mk 1 4 2 5 false), (GTurn.mk 2 4 1 1 false), (GTurn.mk 1 0 1 1 true)])
  let rv17 := (flqlaw23_sameAccounts rv8 [(GAccount.mk 1 1 3 6), (GAccount.mk 2 1 1 1)])
  bif rv17 then
    let rv23 := (ledger_Longest [(GTurn.mk 1 4 2 5 false), (GTurn.mk 2 4 1 1 false), (GTurn.mk 1 0 1 1 true)] 1)
    bif (rv23 == 0) then
      let rv29 := (ledger_Longest [(GTurn.mk 1 4 0 0 false), (GTurn.mk 2 4 1 5 false), (GTurn.mk 1 4 1 1 false)] 1)
      bif (rv29 == 5) then
        let rv36 := (ledger_Between [(GTurn.mk 1 4 0 0 false), (GTurn.mk 2 4 1 5 false), (GTurn.mk 1 4 1 1 false)] 1 2)
        (rv36 == 1)
      else
        false
    else
      false
  else
    false
def flqgen_New (l : List Int) : Unit :=
  ()
def flqgen_Mod (v : Int) (n : Int) : Int :=
  (((BitVec.ofInt 64 v) % (BitVec.ofInt 64 n)).toNat : Int)
def Tape_Next (tT : List Int) (tI : Int) (n : Int) : Int × Int :=
  bif decide (n ≤ 1) then
    (0, tI)
  else
    bif decide ((tT.length : Int) ≤ tI) then
      (0, tI)
    else
      let rv8 := (flqgen_Mod (tT.getD (((tI + 1) - 1) : Int).toNat 0) n)
      (rv8, (tI + 1))
def flqlaw23_log_L0 (kT : List Int) : Nat → Int → List GTurn → Int → Int × List GTurn
  | 0, ti', l, i =>
    (ti', l)
  | r + 1, ti', l, i =>
    let rv9 := (Tape_Next kT ti' 5)
    let rv15 := (Tape_Next kT rv9.2 4)
    let rv21 := (Tape_Next kT rv15.2 3)
    let rv27 := (Tape_Next kT rv21.2 30)
    let rv33 := (Tape_Next kT rv27.2 ((7 * rv9.1) + 1))
    let rv39 := (Tape_Next kT rv33.2 9)
    let rv46 := (Tape_Next kT rv39.2 40)
    bif (rv46.1 == 1) then
      flqlaw23_log_L0 kT r rv46.2 (l ++ [(GTurn.mk rv15.1 (rv21.1 * rv27.1) rv9.1 ((9 * rv9.1) + 1) (rv39.1 == 8))]) (i - 1)
    else
      bif (rv46.1 == 2) then
        flqlaw23_log_L0 kT r rv46.2 (l ++ [(GTurn.mk rv15.1 (rv21.1 * rv27.1) (-1) (rv9.1 + rv33.1) (rv39.1 == 8))]) (i - 1)
      else
        bif (rv46.1 == 3) then
          flqlaw23_log_L0 kT r rv46.2 (l ++ [(GTurn.mk rv15.1 65 rv9.1 (rv9.1 + rv33.1) (rv39.1 == 8))]) (i - 1)
        else
          bif (rv46.1 == 4) then
            flqlaw23_log_L0 kT r rv46.2 (l ++ [(GTurn.mk rv15.1 (rv21.1 * rv27.1) 1073741824 1073741824 (rv39.1 == 8))]) (i - 1)
          else
            flqlaw23_log_L0 kT r rv46.2 (l ++ [(GTurn.mk rv15.1 (rv21.1 * rv27.1) rv9.1 (rv9.1 + rv33.1) (rv39.1 == 8))]) (i - 1)

def flqlaw23_log (kT : List Int) (kI : Int) : List GTurn × Int :=
  let rv1 := (Tape_Next kT kI 14)
  match flqlaw23_log_L0 kT (rv1.1.toNat) rv1.2 [] rv1.1 with
  | (o0_0, o0_1) =>
    (o0_1, o0_0)
def ledger_Total_L0 (l : List GTurn) : Nat → Int → Int → Int → Int → Int → Int × Int × Int × Int
  | 0, out0, out1, out2, out3, v10 =>
    (out0, out1, out2, out3)
  | r + 1, out0, out1, out2, out3, v10 =>
    let rv15 := (ledger_add (GAccount.mk out0 out1 out2 out3) (l.getD v10.toNat default))
    ledger_Total_L0 l r rv15.Query rv15.Turns rv15.Steps rv15.Cost (v10 + 1)

def ledger_Total (l : List GTurn) : GAccount :=
  let rv3 := (ledger_Valid l)
  bif rv3 then
    match ledger_Total_L0 l (((l.length : Int) - 0).toNat) 0 0 0 0 0 with
    | (o0_0, o0_1, o0_2, o0_3) =>
      (GAccount.mk o0_0 o0_1 o0_2 o0_3)
  else
    (GAccount.mk 0 0 0 0)
def flqref1_Clamp (a : Int) : Int :=
  (max 0 (min a 1073741824))
def flqref1_Add (a : Int) (b : Int) : Int :=
  let rv1 := (flqref1_Clamp a)
  let rv6 := (flqref1_Clamp b)
  let rv11 := (flqref1_Clamp (rv1 + rv6))
  rv11
def flqlaw23_LedgerSums_L0  (a : List GAccount) : Nat → Int → Int → Int → Int → LR (Int × Int × Int) Bool
  | 0, all1, all2, all3, i =>
    .brk (all1, all2, all3)
  | r + 1, all1, all2, all3, i =>
    bif decide (0 < i) then
      bif decide ((a.getD i.toNat default).Query ≤ (a.getD ((i - 1) : Int).toNat default).Query) then
        .ret false
      else
        let rv45 := (flqref1_Add all2 ((a.getD i.toNat default).Steps))
        let rv50 := (flqref1_Add all3 ((a.getD i.toNat default).Cost))
        flqlaw23_LedgerSums_L0 a r (all1 + (a.getD i.toNat default).Turns) rv45 rv50 (i + 1)
    else
      let rv60 := (flqref1_Add all2 ((a.getD i.toNat default).Steps))
      let rv65 := (flqref1_Add all3 ((a.getD i.toNat default).Cost))
      flqlaw23_LedgerSums_L0 a r (all1 + (a.getD i.toNat default).Turns) rv60 rv65 (i + 1)

def flqlaw23_LedgerSums (t : List Int) : Bool :=
  let rv2 := (flqgen_New t)
  let rv6 := (flqlaw23_log t 0)
  let rv15 := (ledger_Accounts rv6.1)
  let rv21 := (ledger_Total rv6.1)
  match flqlaw23_LedgerSums_L0 rv15 (((rv15.length : Int) - 0).toNat) 0 0 0 0 with
  | .brk (o0_0, o0_1, o0_2) =>
    bif ([0, o0_0, o0_1, o0_2] == [rv21.Query, rv21.Turns, rv21.Steps, rv21.Cost]) then
      flqlaw23_sane
    else
      false
  | .ret r => r
  | .oof => default
def insK {α : Type} (key : α → Int) (x : α) : List α → List α
  | [] => [x]
  | y :: ys => if key y ≤ key x then y :: insK key x ys else x :: y :: ys
def srtK {α : Type} (key : α → Int) (xs : List α) : List α := xs.foldl (fun l x => insK key x l) []
theorem insK_mem {α : Type} {key : α → Int} {x y : α} : ∀ {l : List α}, y ∈ insK key x l ↔ y = x ∨ y ∈ l
  | [] => by simp [insK]
  | z :: l => by
    rw [insK]
    split
    · rw [List.mem_cons, insK_mem, List.mem_cons]; constructor <;> (rintro (h | h | h) <;> simp [h])
    · simp
theorem insK_len {α : Type} {key : α → Int} {x : α} : ∀ (l : List α), (insK key x l).length = l.length + 1
  | [] => rfl
  | z :: l => by
    rw [insK]
    split
    · rw [List.length_cons, insK_len l]; rfl
    · rfl
theorem insK_sorted {α : Type} {key : α → Int} {x : α} : ∀ {l : List α}, l.Pairwise (fun a b => key a ≤ key b) → (insK key x l).Pairwise (fun a b => key a ≤ key b)
  | [], _ => by simp [insK]
  | z :: l, h => by
    rw [insK]
    have hz := List.pairwise_cons.1 h
    split
    · rename_i e
      refine List.pairwise_cons.2 ⟨fun y hy => ?_, insK_sorted hz.2⟩
      rcases insK_mem.1 hy with rfl | hy
      · exact e
      · exact hz.1 y hy
    · rename_i e
      refine List.pairwise_cons.2 ⟨fun y hy => ?_, h⟩
      rcases List.mem_cons.1 hy with rfl | hy
      · omega
      · have := hz.1 y hy; omega
theorem insK_lt {α : Type} {key : α → Int} {x y : α} (h : key x < key y) : ∀ (p : List α), insK key x (p ++ [y]) = insK key x p ++ [y]
  | [] => by
    have : ¬ key y ≤ key x := by omega
    simp [insK, this]
  | z :: p => by
    rw [List.cons_append, insK, insK]
    split
    · rw [insK_lt h p]; rfl
    · rfl
theorem insK_ge {α : Type} {key : α → Int} {x : α} : ∀ (p : List α), (∀ z ∈ p, key z ≤ key x) → insK key x p = p ++ [x]
  | [], _ => rfl
  | z :: p, h => by
    have hz := h z (List.mem_cons_self ..)
    rw [insK, if_pos hz, insK_ge p fun y hy => h y (List.mem_cons_of_mem _ hy)]; rfl
theorem foldl_insK_len {α : Type} (key : α → Int) : ∀ (q p : List α), (q.foldl (fun l x => insK key x l) p).length = p.length + q.length
  | [], p => rfl
  | x :: q, p => by rw [List.foldl_cons, foldl_insK_len key q, insK_len, List.length_cons]; omega
theorem srtK_len {α : Type} (key : α → Int) (l : List α) : (srtK key l).length = l.length := by
  unfold srtK; rw [foldl_insK_len]; simp
theorem getD_mid {α : Type} (p q : List α) (x d : α) : (p ++ x :: q).getD p.length d = x := by simp [List.getD]
theorem insL1 {α : Type} (key : α → Int) (d : α) (f : Nat → List α → Int → List α) (h0 : ∀ l j, f 0 l j = l)
    (h1 : ∀ r l j, f (r + 1) l j = if key (l.getD j.toNat d) < key (l.getD (j - 1).toNat d) then f r ((l.set j.toNat (l.getD (j - 1).toNat d)).set (j - 1).toNat (l.getD j.toNat d)) (j - 1) else l) :
    ∀ (n : Nat) (p q : List α) (x : α), p.length = n → p.Pairwise (fun a b => key a ≤ key b) → f n (p ++ x :: q) (n : Int) = insK key x p ++ q
  | 0, p, q, x, hp, hs => by
    have : p = [] := List.length_eq_zero_iff.1 hp
    subst this
    rw [h0]; rfl
  | n + 1, p, q, x, hp, hs => by
    obtain ⟨p', y, rfl⟩ : ∃ p' y, p = p' ++ [y] := ⟨p.dropLast, p.getLast (by intro e; subst e; cases hp), (List.dropLast_concat_getLast _).symm⟩
    have hl : p'.length = n := by simp at hp; exact hp
    have e1 : ((n + 1 : Nat) : Int).toNat = n + 1 := by omega
    have e2 : (((n + 1 : Nat) : Int) - 1).toNat = n := by omega
    have g1 : (p' ++ [y] ++ x :: q).getD (n + 1) d = x := by
      have := getD_mid (p' ++ [y]) q x d
      rw [hp] at this; exact this
    have g2 : (p' ++ [y] ++ x :: q).getD n d = y := by
      have := getD_mid p' (x :: q) y d
      rw [hl] at this; simpa using this
    have hs' := List.pairwise_append.1 hs
    rw [h1, e1, e2, g1, g2]
    split
    · rename_i hlt
      have es : ((p' ++ [y] ++ x :: q).set (n + 1) y).set n x = p' ++ x :: (y :: q) := by
        rw [← hl]; simp
      have ej : (((n + 1 : Nat) : Int) - 1) = (n : Int) := by omega
      rw [es, ej, insL1 key d f h0 h1 n p' (y :: q) x hl hs'.1, insK_lt hlt]
      simp
    · rename_i hge
      rw [insK_ge]
      · simp
      · intro z hz
        rcases List.mem_append.1 hz with hz | hz
        · have := hs'.2.2 z hz y (List.mem_cons_self ..); omega
        · rw [List.mem_singleton] at hz; subst hz; omega
theorem insL0 {α : Type} (key : α → Int) (d : α) (f g : Nat → List α → Int → List α) (h0 : ∀ l j, f 0 l j = l)
    (h1 : ∀ r l j, f (r + 1) l j = if key (l.getD j.toNat d) < key (l.getD (j - 1).toNat d) then f r ((l.set j.toNat (l.getD (j - 1).toNat d)).set (j - 1).toNat (l.getD j.toNat d)) (j - 1) else l)
    (k0 : ∀ l i, g 0 l i = l) (k1 : ∀ r l i, g (r + 1) l i = g r (f (i - 0).toNat l i) (i + 1)) :
    ∀ (q p : List α), p.Pairwise (fun a b => key a ≤ key b) → g q.length (p ++ q) (p.length : Int) = q.foldl (fun l x => insK key x l) p
  | [], p, _ => by rw [List.length_nil, k0]; simp
  | x :: q, p, hp => by
    have e : ((p.length : Int) - 0).toNat = p.length := by omega
    rw [List.length_cons, k1, e, insL1 key d f h0 h1 p.length p q x rfl hp, List.foldl_cons, ← insL0 key d f g h0 h1 k0 k1 q _ (insK_sorted hp), insK_len]
    rfl
theorem insAll {α : Type} (key : α → Int) (d : α) (f g : Nat → List α → Int → List α) (h0 : ∀ l j, f 0 l j = l)
    (h1 : ∀ r l j, f (r + 1) l j = if key (l.getD j.toNat d) < key (l.getD (j - 1).toNat d) then f r ((l.set j.toNat (l.getD (j - 1).toNat d)).set (j - 1).toNat (l.getD j.toNat d)) (j - 1) else l)
    (k0 : ∀ l i, g 0 l i = l) (k1 : ∀ r l i, g (r + 1) l i = g r (f (i - 0).toNat l i) (i + 1)) (l : List α) : g ((l.length : Int) - (0 + 1)).toNat l (0 + 1) = srtK key l := by
  cases l with
  | nil => rw [show (((([] : List α).length : Nat) : Int) - (0 + 1)).toNat = 0 from rfl, k0]; rfl
  | cons x q =>
    have e : ((((x :: q).length : Nat) : Int) - (0 + 1)).toNat = q.length := by rw [List.length_cons]; omega
    rw [e]
    exact insL0 key d f g h0 h1 k0 k1 q [x] (List.pairwise_singleton _ _)
theorem ofInt_le {n : Int} (h : 0 ≤ n ∧ n ≤ 255) : (BitVec.ofInt 64 n).toNat ≤ 255 := by
  rw [BitVec.toNat_ofInt]
  omega
theorem srtK_sorted {α : Type} (key : α → Int) (l : List α) : (srtK key l).Pairwise (fun a b => key a ≤ key b) := by
  have h : ∀ (q p : List α), p.Pairwise (fun a b => key a ≤ key b) → (q.foldl (fun l x => insK key x l) p).Pairwise (fun a b => key a ≤ key b) := fun q => by
    induction q with
    | nil => intro p h; exact h
    | cons x q ih => intro p h; exact ih _ (insK_sorted h)
  exact h l [] List.Pairwise.nil

theorem between_iff (n a b : Int) : ledger_between n a b = true ↔ a ≤ n ∧ n ≤ b := by
  unfold ledger_between
  cases h : decide (a ≤ n) <;> simp_all <;> omega
theorem between_b {n a b : Int} {r : Bool} (e : ledger_between n a b = r) (h : r = true) : a ≤ n ∧ n ≤ b := (between_iff n a b).1 (e.trans h)
theorem mul_b {a b : Int} (ha : 0 ≤ a ∧ a ≤ 1000) (hb : 0 ≤ b ∧ b ≤ 1000) : i64ok (a * b) := by
  have h1 := Int.mul_nonneg ha.1 hb.1
  have h2 := Int.mul_le_mul_of_nonneg_right ha.2 hb.1
  unfold i64ok; omega
theorem mul_c {a b : Int} (ha : 0 ≤ a ∧ a ≤ 1000) (hb : 0 ≤ b ∧ b ≤ 1000) : 0 ≤ a * b ∧ a * b ≤ 1000000 := by
  have h1 := Int.mul_nonneg ha.1 hb.1
  have h2 := Int.mul_le_mul_of_nonneg_right ha.2 hb.1
  omega
def AccM (of : List (Int × GAccount)) (n : Int) : Prop := ∀ e ∈ of, (0 ≤ e.1 ∧ e.1 ≤ 11) ∧ e.2.Query = e.1 ∧ (0 ≤ e.2.Turns ∧ e.2.Turns ≤ n) ∧ (0 ≤ e.2.Steps ∧ e.2.Steps ≤ 1073741824) ∧ (0 ≤ e.2.Cost ∧ e.2.Cost ≤ 1073741824)
theorem AccM_nil (n : Int) : AccM [] n := fun e he => by simp at he
theorem AccM_get {of : List (Int × GAccount)} {n : Int} (h : AccM of n) (hn : 0 ≤ n) (k : Int) : i64ok ((mget of k).getD (default : GAccount)).Query ∧ (0 ≤ ((mget of k).getD (default : GAccount)).Turns ∧ ((mget of k).getD (default : GAccount)).Turns ≤ n) ∧ (0 ≤ ((mget of k).getD (default : GAccount)).Steps ∧ ((mget of k).getD (default : GAccount)).Steps ≤ 1073741824) ∧ (0 ≤ ((mget of k).getD (default : GAccount)).Cost ∧ ((mget of k).getD (default : GAccount)).Cost ≤ 1073741824) := by
  cases e : mget of k with
  | none =>
    have hd : (default : GAccount) = ⟨0, 0, 0, 0⟩ := rfl
    simp only [Option.getD_none, hd, i64ok]; omega
  | some v =>
    have : ∀ (l : List (Int × GAccount)), mget l k = some v → (k, v) ∈ l := fun l => by
      induction l with
      | nil => intro h; cases h
      | cons a l ih =>
        intro h
        unfold mget at h
        split at h
        · rename_i e1; cases h; subst e1; exact List.mem_cons_self
        · exact List.mem_cons_of_mem _ (ih h)
    have := h _ (this of e)
    dsimp only at this
    simp only [Option.getD_some]
    exact ⟨by unfold i64ok; omega, this.2.2⟩
theorem AccM_set {of : List (Int × GAccount)} {n : Int} (h : AccM of n) {k : Int} {a : GAccount} (hk : 0 ≤ k ∧ k ≤ 11) (ha : a.Query = k ∧ (0 ≤ a.Turns ∧ a.Turns ≤ n + 1) ∧ (0 ≤ a.Steps ∧ a.Steps ≤ 1073741824) ∧ (0 ≤ a.Cost ∧ a.Cost ≤ 1073741824)) : AccM (mset of k a) (n + 1) := by
  induction of with
  | nil => intro e he; simp [mset] at he; subst he; exact ⟨hk, ha⟩
  | cons x of ih =>
    obtain ⟨y, u⟩ := x
    unfold mset
    have h0 : ∀ e ∈ ((y, u) :: of), (0 ≤ e.1 ∧ e.1 ≤ 11) ∧ e.2.Query = e.1 ∧ (0 ≤ e.2.Turns ∧ e.2.Turns ≤ n + 1) ∧ (0 ≤ e.2.Steps ∧ e.2.Steps ≤ 1073741824) ∧ (0 ≤ e.2.Cost ∧ e.2.Cost ≤ 1073741824) := fun e he => by
      obtain ⟨a, b, c, d, f⟩ := h e he; exact ⟨a, b, by omega, d, f⟩
    split
    · intro e he
      rcases List.mem_cons.1 he with rfl | he
      · rename_i e1; exact ⟨by simpa [e1] using hk, by simpa [e1] using ha⟩
      · exact h0 e (List.mem_cons_of_mem _ he)
    · intro e he
      rcases List.mem_cons.1 he with rfl | he
      · exact h0 _ (by simp)
      · exact ih (fun e he => h e (List.mem_cons_of_mem _ he)) e he
theorem nodup_bound : ∀ (n : Nat) (l : List Int), l.Nodup → (∀ x ∈ l, 0 ≤ x ∧ x < (n : Int)) → l.length ≤ n
  | 0, l, _, h => by
    cases l with
    | nil => simp
    | cons a l => have := h a (by simp); omega
  | n + 1, l, hn, h => by
    by_cases hm : (n : Int) ∈ l
    · have h1 := nodup_bound n (l.erase (n : Int)) (hn.erase _) (fun x hx => by
        have hx' := (List.Nodup.mem_erase_iff hn).1 hx
        have := h x hx'.2
        have := hx'.1
        omega)
      have := List.length_erase_of_mem hm
      omega
    · have h1 := nodup_bound n l hn (fun x hx => by
        have := h x hx
        have : x ≠ (n : Int) := fun e => hm (e ▸ hx)
        omega)
      omega
theorem AccM_len {of : List (Int × GAccount)} {n : Int} (h : AccM of n) (hn : (of.map (·.1)).Nodup) : of.length ≤ 12 := by
  have := nodup_bound 12 (of.map (·.1)) hn (fun x hx => by
    obtain ⟨e, he, rfl⟩ := List.mem_map.1 hx
    have := (h e he).1
    omega)
  simpa using this
theorem insK_perm {α : Type} (key : α → Int) (x : α) : ∀ (l : List α), (insK key x l).Perm (x :: l)
  | [] => List.Perm.refl _
  | y :: l => by
    unfold insK
    split
    · exact ((insK_perm key x l).cons y).trans (List.Perm.swap x y l)
    · exact List.Perm.refl _
theorem srtK_perm0 {α : Type} (key : α → Int) : ∀ (q p : List α), (q.foldl (fun l x => insK key x l) p).Perm (p ++ q)
  | [], p => by simp
  | x :: q, p => by
    rw [List.foldl_cons]
    refine (srtK_perm0 key q (insK key x p)).trans ?_
    refine ((insK_perm key x p).append_right q).trans ?_
    exact (List.perm_middle (a := x) (l₁ := p) (l₂ := q)).symm
theorem srtK_permL {α : Type} (key : α → Int) (l : List α) : (srtK key l).Perm l := by
  have := srtK_perm0 key l []
  rwa [List.nil_append] at this
theorem eq_of_perm_key {α : Type} {key : α → Int} : ∀ {a b : List α}, a.Perm b → a.Pairwise (fun x y => key x < key y) → b.Pairwise (fun x y => key x < key y) → a = b
  | [], b, hp, _, _ => hp.nil_eq
  | x :: a, b, hp, ha, hb => by
    cases b with
    | nil => exact absurd hp.symm.nil_eq (by simp)
    | cons y b =>
      have h1 := List.pairwise_cons.1 ha
      have h2 := List.pairwise_cons.1 hb
      have e : x = y := by
        rcases List.mem_cons.1 (hp.mem_iff.1 (List.mem_cons_self : x ∈ x :: a)) with h | h
        · exact h
        · rcases List.mem_cons.1 (hp.mem_iff.2 (List.mem_cons_self : y ∈ y :: b)) with h' | h'
          · exact h'.symm
          · have := h1.1 _ h'; have := h2.1 _ h; omega
      subst e
      rw [eq_of_perm_key (List.Perm.cons_inv hp) h1.2 h2.2]
theorem srtK_lt {α : Type} (key : α → Int) {l : List α} (hn : (l.map key).Nodup) : (srtK key l).Pairwise (fun x y => key x < key y) := by
  have h1 := srtK_sorted key l
  have h2 : ((srtK key l).map key).Nodup := (((srtK_permL key l).map key).nodup_iff).2 hn
  rw [List.nodup_iff_pairwise_ne, List.pairwise_map] at h2
  exact (h1.and h2).imp fun h => by omega
theorem srtK_of_perm {α : Type} {key : α → Int} {a b : List α} (hp : a.Perm b) (hn : (b.map key).Nodup) : srtK key a = srtK key b :=
  eq_of_perm_key (((srtK_permL key a).trans hp).trans (srtK_permL key b).symm) (srtK_lt key (((hp.map key).nodup_iff).2 hn)) (srtK_lt key hn)
theorem dropCons {α : Type} (l : List α) (d : α) {i : Int} (h0 : 0 ≤ i) (h1 : i < (l.length : Int)) : l.drop i.toNat = l.getD i.toNat d :: l.drop (i + 1).toNat := by
  have e : (i + 1).toNat = i.toNat + 1 := by omega
  have hi : i.toNat < l.length := by omega
  rw [e, List.drop_eq_getElem_cons hi, List.getD_eq_getElem?_getD, List.getElem?_eq_getElem hi]; rfl
theorem dropNil {α : Type} (l : List α) {i : Int} (h0 : 0 ≤ i) (h1 : i = (l.length : Int)) : l.drop i.toNat = [] := by
  rw [List.drop_eq_nil_iff]; omega
def lrB : LR Unit Bool → Bool
  | .brk _ => true
  | .ret r => r
  | .oof => default
def lvG : List (Int × Bool) → List GTurn → Bool
  | _, [] => true
  | f, x :: l => ledger_between x.Query 0 1073741824 && (ledger_between x.Quantum 0 64 && (ledger_between x.Steps 0 1073741824 && (ledger_between x.Cost x.Steps (min (8 * x.Steps) 1073741824) && (!((mget f x.Query).getD false) && lvG (mset f x.Query x.Finished) l))))
structure LTok (x : GTurn) : Prop where
  q : 0 ≤ x.Query ∧ x.Query ≤ 1073741824
  n : 0 ≤ x.Quantum ∧ x.Quantum ≤ 64
  s : 0 ≤ x.Steps ∧ x.Steps ≤ 1073741824
  c : x.Steps ≤ x.Cost ∧ x.Cost ≤ 1073741824
theorem lvG_ok : ∀ (l : List GTurn) (f : List (Int × Bool)), lvG f l = true → ∀ x ∈ l, LTok x
  | [], _, _, x, hx => by simp at hx
  | y :: l, f, h, x, hx => by
    rw [lvG] at h
    simp only [Bool.and_eq_true, between_iff] at h
    obtain ⟨h1, h2, h3, h4, h5, h6⟩ := h
    rcases List.mem_cons.1 hx with rfl | hx
    · exact ⟨h1, h2, h3, by omega⟩
    · exact lvG_ok l _ h6 x hx
theorem AccM_ent {of : List (Int × GAccount)} {n : Int} (h : AccM of n) (hn : 0 ≤ n ∧ n ≤ 1000000) {rs r1 r2 : List (Int × GAccount)} {en : Int × GAccount} (hs : ∀ e ∈ rs, e ∈ of) (he : rs = r1 ++ en :: r2) :
    i64ok en.2.Query ∧ i64ok en.2.Turns ∧ i64ok en.2.Steps ∧ i64ok en.2.Cost := by
  have := h en (hs en (by rw [he]; simp))
  unfold i64ok; omega
theorem nx_sub {α : Type} {of rs r1 r2 : List α} {en : α} (he : rs = r1 ++ en :: r2) (hs : ∀ e ∈ rs, e ∈ of) : ∀ e ∈ r1 ++ r2, e ∈ of := fun e h => hs e (by
  rw [he]; rcases List.mem_append.1 h with h | h <;> simp [h])
def sumK {α : Type} (g : α → Int) : List α → Int
  | [] => 0
  | x :: l => g x + sumK g l
theorem sumK_perm {α : Type} (g : α → Int) {a b : List α} (h : a.Perm b) : sumK g a = sumK g b := by
  induction h with
  | nil => rfl
  | cons x _ ih => simp only [sumK, ih]
  | swap x y l => simp only [sumK]; omega
  | trans _ _ h1 h2 => exact h1.trans h2
theorem sumK_map {α β : Type} (g : β → Int) (f : α → β) : ∀ (l : List α), sumK g (l.map f) = sumK (fun x => g (f x)) l
  | [] => rfl
  | x :: l => by simp only [List.map_cons, sumK, sumK_map g f l]
theorem sumK_mset (g : GAccount → Int) (hg : g default = 0) (k : Int) (a : GAccount) : ∀ (of : List (Int × GAccount)), sumK (fun e => g e.2) (mset of k a) = sumK (fun e => g e.2) of - g ((mget of k).getD default) + g a
  | [] => by simp [mset, mget, sumK, hg]
  | (y, u) :: of => by
    unfold mset mget
    split
    · simp [sumK]; omega
    · simp only [sumK, sumK_mset g hg k a of]; omega
structure AccR (of : List (Int × GAccount)) (n t s c : Int) : Prop where
  m : AccM of n
  tt : t = sumK (fun e => e.2.Turns) of
  ss : s = min (sumK (fun e => e.2.Steps) of) 1073741824
  cc : c = min (sumK (fun e => e.2.Cost) of) 1073741824
  s0 : 0 ≤ s
  c0 : 0 ≤ c
theorem sumK_nn {α : Type} (g : α → Int) : ∀ (l : List α), (∀ x ∈ l, 0 ≤ g x) → 0 ≤ sumK g l ∧ ∀ x ∈ l, g x ≤ sumK g l
  | [], _ => ⟨by simp [sumK], fun x h => by simp at h⟩
  | x :: l, h => by
    have ih := sumK_nn g l (fun y hy => h y (List.mem_cons_of_mem _ hy))
    have hx := h x List.mem_cons_self
    rw [sumK]
    refine ⟨by omega, fun y hy => ?_⟩
    rcases List.mem_cons.1 hy with rfl | hy
    · omega
    · have := ih.2 y hy; omega
theorem mget_mem {ν : Type} {k : Int} {v : ν} : ∀ {l : List (Int × ν)}, mget l k = some v → (k, v) ∈ l
  | [], h => by cases h
  | (a, u) :: l, h => by
    unfold mget at h
    split at h
    · rename_i e; cases h; subst e; exact List.mem_cons_self
    · exact List.mem_cons_of_mem _ (mget_mem h)
theorem mget_le (g : GAccount → Int) (hg : g default = 0) {of : List (Int × GAccount)} (h : ∀ e ∈ of, 0 ≤ g e.2) (k : Int) : g ((mget of k).getD default) ≤ sumK (fun e => g e.2) of := by
  have h1 := sumK_nn (fun e : Int × GAccount => g e.2) of h
  cases e : mget of k with
  | none => simp only [Option.getD_none, hg]; exact h1.1
  | some v => exact h1.2 _ (mget_mem e)
theorem sumK_snocd {α : Type} (g : α → Int) (l : List α) (d : α) {i : Int} (h0 : 0 ≤ i) (h1 : i < (l.length : Int)) : sumK g (l.take (i + 1).toNat) = sumK g (l.take i.toNat) + g (l.getD i.toNat d) := by
  have e : (i + 1).toNat = i.toNat + 1 := by omega
  have hi : i.toNat < l.length := by omega
  have ha : ∀ (a b : List α), sumK g (a ++ b) = sumK g a + sumK g b := fun a b => by
    induction a with
    | nil => simp [sumK]
    | cons x a ih => rw [List.cons_append, sumK, sumK, ih]; omega
  rw [e, List.take_succ_eq_append_getElem hi, ha, List.getD_eq_getElem?_getD, List.getElem?_eq_getElem hi]
  simp [sumK]
theorem mset_keys {κ ν : Type} [DecidableEq κ] (k : κ) (v : ν) : ∀ (l : List (κ × ν)), (mset l k v).map (·.1) = if k ∈ l.map (·.1) then l.map (·.1) else l.map (·.1) ++ [k]
  | [] => by simp [mset]
  | (a, u) :: l => by
    unfold mset
    by_cases e : a = k
    · simp [e]
    · have e' : ¬ k = a := fun h => e h.symm
      rw [if_neg e, List.map_cons, mset_keys k v l]
      by_cases h : k ∈ l.map (·.1)
      · rw [if_pos h, if_pos (by rw [List.map_cons]; exact List.mem_cons_of_mem _ h)]; rfl
      · rw [if_neg h, if_neg (by rw [List.map_cons, List.mem_cons]; rintro (h' | h'); exact e' h'; exact h h')]; rfl
theorem mset_nodup {κ ν : Type} [DecidableEq κ] {l : List (κ × ν)} (h : (l.map (·.1)).Nodup) (k : κ) (v : ν) : ((mset l k v).map (·.1)).Nodup := by
  rw [mset_keys]
  split
  · exact h
  · rename_i hk
    rw [List.nodup_append]
    exact ⟨h, by simp, fun a ha b hb => by rw [List.mem_singleton] at hb; subst hb; exact fun e => hk (e ▸ ha)⟩
theorem LValid_len {l : List GTurn} (h : ledger_Valid l = true) : l.length ≤ 4096 := by
  unfold ledger_Valid at h
  cases e : decide (4096 < ((l.length : Nat) : Int))
  · have := of_decide_eq_false e; omega
  · rw [e] at h; cases h
theorem lv_L0 (l : List GTurn) : ∀ (m : Nat) (f : List (Int × Bool)) (i : Int), 0 ≤ i → i + m = (l.length : Int) → lrB (ledger_Valid_L0 l m f i) = lvG f (l.drop i.toNat)
  | 0, f, i, h0, h1 => by rw [dropNil l h0 (by omega)]; rfl
  | m + 1, f, i, h0, h1 => by
    rw [dropCons l default h0 (by omega), ledger_Valid_L0, lvG]
    simp only [Bool.cond_eq_ite]
    cases ledger_between (l.getD i.toNat default).Query 0 1073741824 <;> simp only [Bool.not_true, Bool.not_false, Bool.true_and, Bool.false_and, if_true, if_false, reduceIte, Bool.false_eq_true]
    · rfl
    cases ledger_between (l.getD i.toNat default).Quantum 0 64 <;> simp only [Bool.not_true, Bool.not_false, Bool.true_and, Bool.false_and, if_true, if_false, reduceIte, Bool.false_eq_true]
    · rfl
    cases ledger_between (l.getD i.toNat default).Steps 0 1073741824 <;> simp only [Bool.not_true, Bool.not_false, Bool.true_and, Bool.false_and, if_true, if_false, reduceIte, Bool.false_eq_true]
    · rfl
    cases ledger_between (l.getD i.toNat default).Cost (l.getD i.toNat default).Steps (min (8 * (l.getD i.toNat default).Steps) 1073741824) <;> simp only [Bool.not_true, Bool.not_false, Bool.true_and, Bool.false_and, if_true, if_false, reduceIte, Bool.false_eq_true]
    · rfl
    cases (mget f (l.getD i.toNat default).Query).getD false <;> simp only [Bool.not_true, Bool.not_false, Bool.true_and, Bool.false_and, if_true, if_false, reduceIte, Bool.false_eq_true]
    · exact lv_L0 l m _ (i + 1) (by omega) (by omega)
    · rfl
theorem LValid_eq (l : List GTurn) : ledger_Valid l = (decide ((l.length : Int) ≤ 4096) && lvG [] l) := by
  unfold ledger_Valid
  have h := lv_L0 l l.length [] 0 (by omega) (by omega)
  rw [show ((((l.length : Nat) : Int) : Int) - 0).toNat = l.length by omega]
  by_cases e : (4096 : Int) < (l.length : Int)
  · simp [e]; omega
  · have e2 : (l.length : Int) ≤ 4096 := by omega
    simp only [e, e2, decide_false, decide_true, cond_false, Bool.true_and]
    generalize ledger_Valid_L0 l l.length [] 0 = q at h ⊢
    cases q <;> simpa [lrB] using h
theorem LValid_ok {l : List GTurn} (h : ledger_Valid l = true) : ∀ x ∈ l, LTok x := by
  rw [LValid_eq] at h
  exact lvG_ok l [] (Bool.and_eq_true_iff.1 h).2
theorem cAdd_eq {a b : Int} (ha : 0 ≤ a ∧ a ≤ 1073741824) (hb : 0 ≤ b ∧ b ≤ 1073741824) : counter_Add a b = min (a + b) 1073741824 := by
  unfold counter_Add counter_Clamp
  dsimp only
  omega
theorem add_parts {a : GAccount} {x : GTurn} (ha : 0 ≤ a.Steps ∧ a.Steps ≤ 1073741824 ∧ 0 ≤ a.Cost ∧ a.Cost ≤ 1073741824) (hx : LTok x) :
    ledger_add a x = ⟨a.Query, a.Turns + (if 0 < x.Quantum then 1 else 0), min (a.Steps + x.Steps) 1073741824, min (a.Cost + x.Cost) 1073741824⟩ := by
  have h1 := hx.s; have h2 := hx.c
  unfold ledger_add
  rw [cAdd_eq (by omega) (by omega), cAdd_eq (by omega) (by omega)]
  by_cases e : 0 < x.Quantum <;> simp [e]
theorem AccR_step {of : List (Int × GAccount)} {n t s c q : Int} (h : AccR of n t s c) (hn : 0 ≤ n) {x : GTurn} (hx : LTok x) (hq : 0 ≤ x.Query ∧ x.Query ≤ 11) :
    AccR (mset of x.Query (ledger_add ⟨x.Query, ((mget of x.Query).getD default).Turns, ((mget of x.Query).getD default).Steps, ((mget of x.Query).getD default).Cost⟩ x)) (n + 1) (ledger_add ⟨q, t, s, c⟩ x).Turns (ledger_add ⟨q, t, s, c⟩ x).Steps (ledger_add ⟨q, t, s, c⟩ x).Cost := by
  have hg := AccM_get h.m hn x.Query
  have h1 := hx.s; have h2 := hx.c
  have hs := h.ss; have hc := h.cc; have ht := h.tt; have hs0 := h.s0; have hc0 := h.c0
  rw [add_parts (a := ⟨x.Query, ((mget of x.Query).getD default).Turns, ((mget of x.Query).getD default).Steps, ((mget of x.Query).getD default).Cost⟩) ⟨by dsimp only; exact hg.2.2.1.1, by dsimp only; exact hg.2.2.1.2, by dsimp only; exact hg.2.2.2.1, by dsimp only; exact hg.2.2.2.2⟩ hx, add_parts (a := ⟨q, t, s, c⟩) ⟨by dsimp only; omega, by dsimp only; omega, by dsimp only; omega, by dsimp only; omega⟩ hx]
  have g1 := mget_le GAccount.Steps rfl (fun e he => (h.m e he).2.2.2.1.1) x.Query
  have g2 := mget_le GAccount.Cost rfl (fun e he => (h.m e he).2.2.2.2.1) x.Query
  refine ⟨AccM_set h.m hq ⟨rfl, ?_, ?_, ?_⟩, ?_, ?_, ?_, ?_, ?_⟩
  · dsimp only
    have := hg.2.1
    split <;> omega
  · dsimp only; omega
  · dsimp only; omega
  · rw [sumK_mset GAccount.Turns rfl]; dsimp only; omega
  · rw [sumK_mset GAccount.Steps rfl]; dsimp only; omega
  · rw [sumK_mset GAccount.Cost rfl]; dsimp only; omega
  · dsimp only; omega
  · dsimp only; omega
theorem Compare_eq (x y : Int) : cmp_Compare_int x y = if x < y then -1 else if y < x then 1 else 0 := by
  simp [cmp_Compare_int, cmp_isNaN_int, Bool.cond_eq_ite]
theorem Acc_lt (a b : GAccount) : decide (ledger_Accounts_1 a b < 0) = decide (a.Query < b.Query) := by
  unfold ledger_Accounts_1
  simp only [Compare_eq]
  by_cases h : a.Query < b.Query
  · simp [h]
  · by_cases h2 : b.Query < a.Query <;> simp [h, h2]
theorem insAcc_eq (l : List GAccount) : slices_insertionSortCmpFunc_Account l 0 (l.length : Int) (fun x0 x1 => ledger_Accounts_1 x0 x1) = srtK GAccount.Query l := by
  unfold slices_insertionSortCmpFunc_Account
  exact insAll GAccount.Query default (slices_insertionSortCmpFunc_Account_L1 fun x0 x1 => ledger_Accounts_1 x0 x1) (slices_insertionSortCmpFunc_Account_L0 0 fun x0 x1 => ledger_Accounts_1 x0 x1) (fun _ _ => rfl) (fun r l j => by rw [slices_insertionSortCmpFunc_Account_L1]; simp only [Acc_lt, Bool.cond_eq_ite, decide_eq_true_eq]) (fun _ _ => rfl) (fun r l i => rfl) l
theorem SortAcc_eq (l : List GAccount) : slices_SortFunc_Account l (fun x0 x1 => ledger_Accounts_1 x0 x1) = srtK GAccount.Query l := insAcc_eq l
theorem Acc_L1 : ∀ (l : List (Int × GAccount)) (out : List GAccount), ledger_Accounts_L1 l out = out ++ l.map (·.2)
  | [], out => by simp [ledger_Accounts_L1]
  | e :: l, out => by rw [ledger_Accounts_L1, Acc_L1 l]; simp

theorem Acc_sort {of dn : List (Int × GAccount)} {out : List GAccount} {n : Int} (ho : AccM of n) (hn : (of.map (·.1)).Nodup) (hp : dn.Perm of) (hr : ledger_Accounts_L1 dn [] = out) :
    slices_SortFunc_Account (ledger_Accounts_L1 of []) (fun x0 x1 => ledger_Accounts_1 x0 x1) = slices_SortFunc_Account out (fun x0 x1 => ledger_Accounts_1 x0 x1) := by
  subst hr
  rw [SortAcc_eq, SortAcc_eq, Acc_L1, Acc_L1, List.nil_append, List.nil_append]
  have hk : (of.map (·.2)).map GAccount.Query = of.map (·.1) := by
    rw [List.map_map]
    exact List.map_congr_left fun e he => (ho e he).2.1
  exact (srtK_of_perm (hp.map (·.2)) (by rw [hk]; exact hn)).symm

theorem acc_nodup (l : List GTurn) : ∀ (m : Nat) (of : List (Int × GAccount)) (i : Int), (of.map (·.1)).Nodup → ((ledger_Accounts_L0 l m of i).map (·.1)).Nodup
  | 0, of, i, h => h
  | m + 1, of, i, h => by rw [ledger_Accounts_L0]; exact acc_nodup l m _ (i + 1) (mset_nodup h _ _)
theorem LValid_cost {l : List GTurn} (h : ledger_Valid l = true) : ∀ x ∈ l, 0 ≤ ledger_Longest_1 x ∧ ledger_Longest_1 x ≤ 1073741824 := fun x hx => by
  have := LValid_ok h x hx
  have h1 := this.s; have h2 := this.c
  unfold ledger_Longest_1; omega
theorem Between1_rng (x : GTurn) (b : Int) : 0 ≤ ledger_Between_1 x b ∧ ledger_Between_1 x b ≤ 1073741824 := by
  unfold ledger_Between_1
  simp only [Bool.cond_eq_ite]
  repeat' split
  all_goals omega
theorem sane23_true : flqlaw23_sane = true := by kernel_rfl
theorem Next_rng (t : List Int) (i n : Int) (hn : 1 ≤ n ∧ n ≤ 9223372036854775807) : 0 ≤ (Tape_Next t i n).1 ∧ ((Tape_Next t i n).1 < n ∨ (Tape_Next t i n).1 = 0) := by
  unfold Tape_Next
  simp only [Bool.cond_eq_ite]
  repeat' split
  all_goals (try dsimp only)
  all_goals (try unfold flqgen_Mod)
  all_goals first | omega | skip
  all_goals
    rename_i hh
    refine (fun hz => ⟨hz.1, .inl hz.2⟩) (mod_range _ _ ?_)
    simp only [decide_eq_true_eq] at *
    omega
theorem log_L0_q (t : List Int) : ∀ (m : Nat) (k : Int) (l : List GTurn) (i : Int), (∀ x ∈ l, 0 ≤ x.Query ∧ x.Query ≤ 11) → ∀ x ∈ (flqlaw23_log_L0 t m k l i).2, 0 ≤ x.Query ∧ x.Query ≤ 11
  | 0, k, l, i, h => h
  | m + 1, k, l, i, h => by
    rw [flqlaw23_log_L0]
    simp only [Bool.cond_eq_ite]
    have hq := fun (j : Int) => Next_rng t j 4 (by omega)
    repeat' split
    all_goals
      refine log_L0_q t m _ _ _ fun x hx => ?_
      rcases List.mem_append.1 hx with hx | hx
      · exact h x hx
      · rw [List.mem_singleton] at hx; subst hx
        dsimp only
        have := hq
        exact (fun (a : Int) (ha : 0 ≤ a ∧ (a < 4 ∨ a = 0)) => (⟨by omega, by omega⟩ : 0 ≤ a ∧ a ≤ 11)) _ (hq _)
theorem log_q {t : List Int} {k : Int} {r : List GTurn × Int} (e : flqlaw23_log t k = r) : ∀ x ∈ r.1, 0 ≤ x.Query ∧ x.Query ≤ 11 := by
  subst e
  have h := log_L0_q t ((Tape_Next t k 14).1 : Int).toNat (Tape_Next t k 14).2 [] (Tape_Next t k 14).1 (fun x hx => by simp at hx)
  unfold flqlaw23_log
  exact h
theorem both_L0 {l : List GTurn} (hl : ∀ x ∈ l, LTok x) (hq : ∀ x ∈ l, 0 ≤ x.Query ∧ x.Query ≤ 11) : ∀ (m : Nat) (of : List (Int × GAccount)) (t s c i : Int), 0 ≤ i → i + m = (l.length : Int) → AccR of i t s c →
    ∃ t' s' c', ledger_Total_L0 l m 0 t s c i = (0, t', s', c') ∧ AccR (ledger_Accounts_L0 l m of i) (l.length : Int) t' s' c'
  | 0, of, t, s, c, i, h0, h1, h => ⟨t, s, c, rfl, by
      have : i = (l.length : Int) := by omega
      rw [ledger_Accounts_L0, ← this]; exact h⟩
  | m + 1, of, t, s, c, i, h0, h1, h => by
    rw [ledger_Total_L0, ledger_Accounts_L0]
    have hm : l.getD i.toNat default ∈ l := getD_mem (by omega)
    have hqq : (ledger_add ⟨0, t, s, c⟩ (l.getD i.toNat default)).Query = 0 := by
      rw [add_parts ⟨h.s0, by have := h.ss; dsimp only; omega, h.c0, by have := h.cc; dsimp only; omega⟩ (hl _ hm)]
    rw [hqq]
    exact both_L0 hl hq m _ _ _ _ (i + 1) (by omega) (by omega) (AccR_step h h0 (hl _ hm) (hq _ hm))
theorem Accounts_b {l : List GTurn} {r : List GAccount} (hq : ∀ x ∈ l, 0 ≤ x.Query ∧ x.Query ≤ 11) (e : ledger_Accounts l = r) : (∀ x ∈ r, (0 ≤ x.Turns ∧ x.Turns ≤ 4096) ∧ (0 ≤ x.Steps ∧ x.Steps ≤ 1073741824) ∧ (0 ≤ x.Cost ∧ x.Cost ≤ 1073741824)) ∧ r.length ≤ 12 := by
  subst e
  unfold ledger_Accounts
  cases hv : ledger_Valid l with
  | false => exact ⟨fun x hx => by simp at hx, by simp⟩
  | true =>
    have h0 : AccR [] 0 0 0 0 := ⟨AccM_nil _, rfl, rfl, rfl, by omega, by omega⟩
    obtain ⟨T, S, C, e1, h1⟩ := both_L0 (LValid_ok hv) hq l.length [] 0 0 0 0 (by omega) (by omega) h0
    have hl : ((((l.length : Nat) : Int) : Int) - 0).toNat = l.length := by omega
    have hlen := LValid_len hv
    simp only [cond_false, Bool.not_true, hl]
    have hnd : ((ledger_Accounts_L0 l l.length [] 0).map (·.1)).Nodup := acc_nodup l l.length [] 0 List.nodup_nil
    generalize ledger_Accounts_L0 l l.length [] 0 = of at h1 hnd
    rw [Acc_L1, List.nil_append, SortAcc_eq]
    refine ⟨fun x hx => ?_, ?_⟩
    · obtain ⟨e, he, rfl⟩ := List.mem_map.1 ((srtK_permL GAccount.Query (of.map (·.2))).mem_iff.1 hx)
      have := h1.m e he
      omega
    · rw [srtK_len, List.length_map]; exact AccM_len h1.m hnd
theorem rAdd_eq {a b : Int} (ha : 0 ≤ a ∧ a ≤ 1073741824) (hb : 0 ≤ b ∧ b ≤ 1073741824) : flqref1_Add a b = min (a + b) 1073741824 := by
  unfold flqref1_Add flqref1_Clamp
  dsimp only
  omega
theorem Sums_L0 {a : List GAccount} (hp : a.Pairwise (fun x y => x.Query < y.Query)) (hb : ∀ x ∈ a, (0 ≤ x.Steps ∧ x.Steps ≤ 1073741824) ∧ (0 ≤ x.Cost ∧ x.Cost ≤ 1073741824)) : ∀ (m : Nat) (t s c i : Int), 0 ≤ i → i + m = (a.length : Int) →
    t = sumK GAccount.Turns (a.take i.toNat) → s = min (sumK GAccount.Steps (a.take i.toNat)) 1073741824 → c = min (sumK GAccount.Cost (a.take i.toNat)) 1073741824 → 0 ≤ s → 0 ≤ c →
    flqlaw23_LedgerSums_L0 a m t s c i = .brk (sumK GAccount.Turns a, min (sumK GAccount.Steps a) 1073741824, min (sumK GAccount.Cost a) 1073741824)
  | 0, t, s, c, i, h0, h1, ht, hs, hc, _, _ => by
    have : i.toNat = a.length := by omega
    rw [this, List.take_length] at ht hs hc
    rw [flqlaw23_LedgerSums_L0, ← ht, ← hs, ← hc]
  | m + 1, t, s, c, i, h0, h1, ht, hs, hc, hs0, hc0 => by
    have hi : i < (a.length : Int) := by omega
    have hm : a.getD i.toNat default ∈ a := getD_mem (by omega)
    have hbb := hb _ hm
    have k1 := sumK_snocd GAccount.Turns a default h0 hi
    have k2 := sumK_snocd GAccount.Steps a default h0 hi
    have k3 := sumK_snocd GAccount.Cost a default h0 hi
    have ih := Sums_L0 hp hb m (t + (a.getD i.toNat default).Turns) (min (s + (a.getD i.toNat default).Steps) 1073741824) (min (c + (a.getD i.toNat default).Cost) 1073741824) (i + 1) (by omega) (by omega) (by omega) (by omega) (by omega) (by omega) (by omega)
    rw [flqlaw23_LedgerSums_L0]
    simp only [rAdd_eq (a := s) (b := (a.getD i.toNat default).Steps) (by omega) (by omega), rAdd_eq (a := c) (b := (a.getD i.toNat default).Cost) (by omega) (by omega)]
    by_cases e : 0 < i
    · have hlt : ¬ ((a.getD i.toNat default).Query ≤ (a.getD (i - 1).toNat default).Query) := by
        have h1 : (i - 1).toNat < a.length := by omega
        have h2 : i.toNat < a.length := by omega
        have := List.pairwise_iff_getElem.1 hp (i - 1).toNat i.toNat h1 h2 (by omega)
        rw [List.getD_eq_getElem?_getD, List.getD_eq_getElem?_getD, List.getElem?_eq_getElem h1, List.getElem?_eq_getElem h2]
        simp only [Option.getD_some]; omega
      simp only [e, hlt, decide_true, decide_false, cond_true, cond_false]
      exact ih
    · simp only [e, decide_false, cond_false]
      exact ih
theorem LedgerSums_true (t : List Int) : flqlaw23_LedgerSums t = true := by
  unfold flqlaw23_LedgerSums
  dsimp only
  have hq := log_q (t := t) (k := 0) rfl
  generalize (flqlaw23_log t 0).1 = l at hq
  have key : ∃ T S C, ledger_Total l = ⟨0, T, S, C⟩ ∧ flqlaw23_LedgerSums_L0 (ledger_Accounts l) ((((ledger_Accounts l).length : Nat) : Int) - 0).toNat 0 0 0 0 = .brk (T, S, C) := by
    unfold ledger_Total ledger_Accounts
    cases hv : ledger_Valid l with
    | false => exact ⟨0, 0, 0, rfl, rfl⟩
    | true =>
      have h0 : AccR [] 0 0 0 0 := ⟨AccM_nil _, rfl, rfl, rfl, by omega, by omega⟩
      obtain ⟨T, S, C, e1, h1⟩ := both_L0 (LValid_ok hv) hq l.length [] 0 0 0 0 (by omega) (by omega) h0
      have hl : ((((l.length : Nat) : Int) : Int) - 0).toNat = l.length := by omega
      refine ⟨T, S, C, ?_, ?_⟩
      · simp only [cond_true, hl, e1]
      · simp only [cond_false, Bool.not_true, hl]
        generalize hof : ledger_Accounts_L0 l l.length [] 0 = of at h1
        rw [Acc_L1, List.nil_append, SortAcc_eq]
        have hnd : (of.map (·.1)).Nodup := by rw [← hof]; exact acc_nodup l l.length [] 0 List.nodup_nil
        have hk : (of.map (·.2)).map GAccount.Query = of.map (·.1) := by
          rw [List.map_map]
          exact List.map_congr_left fun e he => (h1.m e he).2.1
        have hpm := srtK_permL GAccount.Query (of.map (·.2))
        have hb : ∀ x ∈ srtK GAccount.Query (of.map (·.2)), (0 ≤ x.Steps ∧ x.Steps ≤ 1073741824) ∧ (0 ≤ x.Cost ∧ x.Cost ≤ 1073741824) := fun x hx => by
          obtain ⟨e, he, rfl⟩ := List.mem_map.1 (hpm.mem_iff.1 hx)
          have := h1.m e he
          exact ⟨this.2.2.2.1, this.2.2.2.2⟩
        have hL := Sums_L0 (srtK_lt GAccount.Query (by rw [hk]; exact hnd)) hb (srtK GAccount.Query (of.map (·.2))).length 0 0 0 0 (by omega) (by omega) rfl rfl rfl (by omega) (by omega)
        rw [show ((((srtK GAccount.Query (of.map (·.2))).length : Nat) : Int) - 0).toNat = (srtK GAccount.Query (of.map (·.2))).length by omega, hL, sumK_perm _ hpm, sumK_perm _ hpm, sumK_perm _ hpm, sumK_map, sumK_map, sumK_map, ← h1.tt, ← h1.ss, ← h1.cc]
  obtain ⟨T, S, C, e1, e2⟩ := key
  rw [e2, e1]
  simp [sane23_true]
theorem sl22 : slTy Try.prog 22 = some (42, 5, 40) := by kernel_rfl
theorem un3 : Try.prog.underlying 3 = some (.int .i64) := by kernel_rfl
theorem mt40 : mpTy Try.prog 40 = some (3, 4) := by kernel_rfl
theorem ze4 : zeroOf Try.prog 4 = some (vb false) := by kernel_rfl
theorem sh42 : tyShape Try.prog 42 = some (true, 5) := by kernel_rfl
theorem ze42 : zeroOf Try.prog 42 = some (.agg #[vi 0, vi 0, vi 0, vi 0, vb false]) := by kernel_rfl
theorem fo42_0 : fldOff Try.prog 42 0 = some 0 := by kernel_rfl
theorem sh3 : tyShape Try.prog 3 = some (false, 1) := by kernel_rfl
theorem ca15 : callable Try.prog 15 = true := by kernel_rfl
theorem fo42_1 : fldOff Try.prog 42 1 = some 1 := by kernel_rfl
theorem fo42_2 : fldOff Try.prog 42 2 = some 2 := by kernel_rfl
theorem fo42_3 : fldOff Try.prog 42 3 = some 3 := by kernel_rfl
theorem fo42_4 : fldOff Try.prog 42 4 = some 4 := by kernel_rfl
theorem sh4 : tyShape Try.prog 4 = some (false, 1) := by kernel_rfl
theorem ca39 : callable Try.prog 39 = true := by kernel_rfl
theorem ze36 : zeroOf Try.prog 36 = some (.agg #[vi 0, vi 0, vi 0, vi 0]) := by kernel_rfl
theorem fo36_1 : fldOff Try.prog 36 1 = some 1 := by kernel_rfl
theorem fo36_2 : fldOff Try.prog 36 2 = some 2 := by kernel_rfl
theorem ca35 : callable Try.prog 35 = true := by kernel_rfl
theorem fo36_3 : fldOff Try.prog 36 3 = some 3 := by kernel_rfl
theorem sh36 : tyShape Try.prog 36 = some (true, 4) := by kernel_rfl
theorem fmix : Try.prog.follows .mixedOrders = true := by kernel_rfl
theorem sl33 : slTy Try.prog 33 = some (36, 4, 32) := by kernel_rfl
theorem ca40 : callable Try.prog 40 = true := by kernel_rfl
theorem un70 : Try.prog.underlying 70 = some (.int .u64) := by kernel_rfl
theorem un5 : Try.prog.underlying 5 = some (.int .u8) := by kernel_rfl
theorem un9 : Try.prog.underlying 9 = some .string := by kernel_rfl
theorem ca49 : callable Try.prog 49 = true := by kernel_rfl
theorem un56 : Try.prog.underlying 56 = some (.int .u64) := by kernel_rfl
theorem ca37 : callable Try.prog 37 = true := by kernel_rfl
theorem ca36 : callable Try.prog 36 = true := by kernel_rfl
theorem ca38 : callable Try.prog 38 = true := by kernel_rfl
theorem fo36_0 : fldOff Try.prog 36 0 = some 0 := by kernel_rfl
theorem ca28 : callable Try.prog 28 = true := by kernel_rfl
theorem ca6 : callable Try.prog 6 = true := by kernel_rfl
theorem mt49 : mpTy Try.prog 49 = some (3, 36) := by kernel_rfl
theorem ca25 : callable Try.prog 25 = true := by kernel_rfl
theorem sz33 : slZero Try.prog 33 = some [vi 0, vi 0, vi 0, vi 0] := by kernel_rfl
theorem ca27 : callable Try.prog 27 = true := by kernel_rfl
theorem ca26 : callable Try.prog 26 = true := by kernel_rfl
theorem eqi36 : eqInts Try.prog 36 4 = true := by kernel_rfl
theorem ca31 : callable Try.prog 31 = true := by kernel_rfl
theorem ca30 : callable Try.prog 30 = true := by kernel_rfl
theorem ca32 : callable Try.prog 32 = true := by kernel_rfl
theorem st42 : stTy Try.prog 42 = some ([(0, 1), (1, 1), (2, 1), (3, 1), (4, 1)], [vi 0, vi 0, vi 0, vi 0, vb false]) := by kernel_rfl
theorem sz22 : slZero Try.prog 22 = some [vi 0, vi 0, vi 0, vi 0, vb false] := by kernel_rfl
theorem ca12 : callable Try.prog 12 = true := by kernel_rfl
theorem st36 : stTy Try.prog 36 = some ([(0, 1), (1, 1), (2, 1), (3, 1)], [vi 0, vi 0, vi 0, vi 0]) := by kernel_rfl
theorem ca16 : callable Try.prog 16 = true := by kernel_rfl
theorem ca17 : callable Try.prog 17 = true := by kernel_rfl
theorem ca18 : callable Try.prog 18 = true := by kernel_rfl
theorem st48 : stTy Try.prog 48 = some ([(0, 1), (1, 1)], [.slice none 0 0, vi 0]) := by kernel_rfl
theorem fo48_1 : fldOff Try.prog 48 1 = some 1 := by kernel_rfl
theorem fo48_0 : fldOff Try.prog 48 0 = some 0 := by kernel_rfl
theorem sh26 : tyShape Try.prog 26 = some (false, 1) := by kernel_rfl
theorem sl26 : slTy Try.prog 26 = some (3, 1, 8) := by kernel_rfl
theorem ca24 : callable Try.prog 24 = true := by kernel_rfl
theorem ca11 : callable Try.prog 11 = true := by kernel_rfl
theorem ca29 : callable Try.prog 29 = true := by kernel_rfl
theorem ca7 : callable Try.prog 7 = true := by kernel_rfl
theorem ca8 : callable Try.prog 8 = true := by kernel_rfl
theorem ca10 : callable Try.prog 10 = true := by kernel_rfl
theorem ca13 : callable Try.prog 13 = true := by kernel_rfl
theorem ca14 : callable Try.prog 14 = true := by kernel_rfl
theorem fn15 (n : Int) (least : Int) (most : Int) (hn_0 : i64ok n) (hleast_0 : i64ok least) (hmost_0 : i64ok most) (rr : Bool) (hrr : ledger_between n least most = rr) : FT Try.prog 15 #[vi n, vi least, vi most] [] (fun g : Unit => True) (fun g => vb rr) (fun g => []) := by
 refine FTi Try.func15 fun w0 M0 F0 => ?_
 unfold i64ok at hn_0 hleast_0 hmost_0
 refine KS ?_
 refine Oq Va (KS ?_)
 refine Oq Vm (Oq Vm (Oq Vgeq (Oq Vm ?_)))
 refine Js 10 ?_ ?_
 · intro h1
   have g2 := of_decide_eq_true h1
   refine Oq Vm (Oq Vm (Oq Vleq (Oq Vpt (Oq Va (KS ?_)))))
   have hq := q4 hrr (decide (n ≤ most)) (by simp only [ledger_between, h1, cs4]); subst hq
   exact Kr () rfl (.tmp rfl .nil) [] trivial
 intro h1
 have g3 := of_decide_eq_false h1
 refine Osk (Osk (Osk (Oq Vpf (Oq Va (KS ?_)))))
 have hq := q4 hrr false (by simp only [ledger_between, h1, cs4]); subst hq
 exact Kr () rfl (.tmp rfl .nil) [] trivial
theorem fn6 (l : List GTurn) (la0 : Option Addr) (lk0 : Nat) (rr : Bool) (hrr : ledger_Valid l = rr) : FT Try.prog 6 #[vl la0 lk0 l] [S la0 lk0 l] (fun g : Unit => True) (fun g => vb rr) (fun g => []) := by
 refine FTi Try.func6 fun w0 M0 F0 => ?_
 refine Fb 40 0 fun hl1 => ?_
 refine KS ?_
 refine Oq Va (KS ?_)
 refine Oq Vm (Oq (Vlen sl22) (Oq Vgtr (KS ?_)))
 refine Kc ?_ ?_
 · intro h2
   have g3 := of_decide_eq_true h2
   refine KS ?_
   refine Oq Va (KS ?_)
   have hq := q4 hrr false (by simp only [ledger_Valid, h2, cs4]); subst hq
   exact Kr () rfl (.tmp rfl .nil) [] trivial
 intro h2
 have g4 := of_decide_eq_false h2
 refine KS ?_
 refine Oa (Amp (κ := Int) (ν := Bool) (ek := vi) (ev := vb) (ok := i64ok)) fun p5 => Oq Va (KS ?_)
 refine Oq Vm (Oq (Vlen sl22) (Oq Vm (KS ?_)))
 refine Kl (γ := Nat × (List (Int × Bool)) × Int) (fun (r6, finished_7, v12_8) => ⟨[(3, p5), (10, vl la0 lk0 l), (11, vi (l.length : Int)), (12, vi v12_8)], [Mp vi vb i64ok p5 finished_7, S la0 lk0 l], ledger_Valid_L0 l r6 finished_7 v12_8 = ledger_Valid_L0 l (((l.length : Int) - 0).toNat) [] 0 ∧ r6 = ((l.length : Int) - v12_8).toNat ∧ (0 : Int) ≤ v12_8 ∧ v12_8 ≤ (l.length : Int) ∧ (-9223372036854775808 ≤ v12_8 ∧ v12_8 ≤ 9223372036854775807), r6⟩) (((l.length : Int) - 0).toNat, [], 0) [0, 0] ⟨rfl, rfl, (by omega), (by omega), (by omega)⟩ ?_
 rintro ⟨r6, finished_7, v12_8⟩ ⟨hM9, hr10, hi11, hi12, hk13⟩
 refine JJ_nx fun _ _ hL hA => ?_; dsimp only at hL hA; subst hL hA
 refine Fb 40 1 fun hl14 => ?_
 refine KS ?_
 refine Oq Vlss (KS ?_)
 refine Kc ?_ ?_
 · intro h15
   have g16 := of_decide_eq_true h15
   obtain ⟨r17, rfl⟩ := scc (n := r6) (by omega)
   refine KS ?_
   refine Oq (Vi sl22 1) ?_
   refine JJ_peek_GTurn v12_8.toNat 1 rfl rng fun hb18 hb19 hb20 hb21 => ?_
   unfold i64ok at hb18 hb19 hb20 hb21
   refine Oq (VldA sh42 0) (Oa (Al ze42 [vi 0, vi 0, vi 0, vi 0, vb false]) fun p22 => Ost (Scl [0] sh42 [vi ((l.getD v12_8.toNat default).Query), vi ((l.getD v12_8.toNat default).Quantum), vi ((l.getD v12_8.toNat default).Steps), vi ((l.getD v12_8.toNat default).Cost), vb ((l.getD v12_8.toNat default).Finished)]) (KS ?_))
   refine Oq (Vfa fo42_0 0) (Oq (VldF sh3 0) ?_)
   refine letv (ledger_between ((l.getD v12_8.toNat default).Query) 0 1073741824) fun rv23 hg24 => ?_
   have hc25 := fn15 ((l.getD v12_8.toNat default).Query) 0 1073741824 pre pre pre rv23 hg24
   refine Oc [] ca15 hc25 ?_
   rintro - -
   refine Oq Vnot (Oq Vm ?_)
   refine Js 20 ?_ ?_
   · intro h26
     have h28 := not_true h26
     refine Osk (Osk (Osk (Osk (Oq Vpt (Oq Vm (Osk (Osk (Osk (Osk ?_)))))))))
     refine Oq Vpt (Oq Vm (Osk (Osk (Osk (Osk (Osk (Osk (Osk (Osk ?_)))))))))
     refine Osk (Osk (Oq Vpt (Oq Vm (Osk (Osk (Osk (Osk (Oq Vpt (KS ?_)))))))))
     refine Kt ?_
     refine KS ?_
     refine Oq Va (KS ?_)
     have hR30 := q2 hM9 (.ret false) (by simp only [ledger_Valid_L0, h2, h15, h26, h28, hg24, cs4])
     have hq := q4 hrr false (by simp only [ledger_Valid, h2, h15, h26, h28, hg24, hR30, cs4]); subst hq
     exact Kr () rfl (.tmp rfl .nil) [] trivial
   intro h26
   have h32 := not_false h26
   try have hbt23 := between_b (by assumption : ledger_between _ _ _ = rv23) h32
   refine Oq (Vfa fo42_1 0) (Oq (VldF sh3 0) ?_)
   refine letv (ledger_between ((l.getD v12_8.toNat default).Quantum) 0 64) fun rv34 hg35 => ?_
   have hc36 := fn15 ((l.getD v12_8.toNat default).Quantum) 0 64 pre pre pre rv34 hg35
   refine Oc [] ca15 hc36 ?_
   rintro - -
   refine Oq Vnot (Oq Vpf (Oq Vm ?_))
   refine Js 26 ?_ ?_
   · intro h37
     have h39 := not_true h37
     refine Osk (Osk (Osk (Osk (Oq Vpt (Oq Vm (Osk (Osk (Osk (Osk ?_)))))))))
     refine Osk (Osk (Osk (Osk (Osk (Osk (Oq Vpt (Oq Vm (Osk (Osk ?_)))))))))
     refine Osk (Osk (Oq Vpt (KS ?_)))
     refine Kt ?_
     refine KS ?_
     refine Oq Va (KS ?_)
     have hR41 := q2 hM9 (.ret false) (by simp only [ledger_Valid_L0, h2, h15, h26, h32, h37, h39, hg24, hg35, cs4])
     have hq := q4 hrr false (by simp only [ledger_Valid, h2, h15, h26, h32, h37, h39, hg24, hg35, hR41, cs4]); subst hq
     exact Kr () rfl (.tmp rfl .nil) [] trivial
   intro h37
   have h43 := not_false h37
   try have hbt34 := between_b (by assumption : ledger_between _ _ _ = rv34) h43
   refine Oq (Vfa fo42_2 0) (Oq (VldF sh3 0) ?_)
   refine letv (ledger_between ((l.getD v12_8.toNat default).Steps) 0 1073741824) fun rv45 hg46 => ?_
   have hc47 := fn15 ((l.getD v12_8.toNat default).Steps) 0 1073741824 pre pre pre rv45 hg46
   refine Oc [] ca15 hc47 ?_
   rintro - -
   refine Oq Vnot (Oq Vpf (Oq Vm ?_))
   refine Js 32 ?_ ?_
   · intro h48
     have h50 := not_true h48
     refine Osk (Osk (Osk (Osk (Osk (Osk (Osk (Osk (Osk (Osk ?_)))))))))
     refine Oq Vpt (Oq Vm (Osk (Osk (Osk (Osk (Oq Vpt (KS ?_)))))))
     refine Kt ?_
     refine KS ?_
     refine Oq Va (KS ?_)
     have hR52 := q2 hM9 (.ret false) (by simp only [ledger_Valid_L0, h2, h15, h26, h32, h37, h43, h48, h50, hg24, hg35, hg46, cs4])
     have hq := q4 hrr false (by simp only [ledger_Valid, h2, h15, h26, h32, h37, h43, h48, h50, hg24, hg35, hg46, hR52, cs4]); subst hq
     exact Kr () rfl (.tmp rfl .nil) [] trivial
   intro h48
   have h54 := not_false h48
   try have hbt45 := between_b (by assumption : ledger_between _ _ _ = rv45) h54
   refine Oq (Vfa fo42_3 0) (Oq (VldF sh3 0) (Oq (Vfa fo42_2 0) (Oq (VldF sh3 0) (Oq (Vfa fo42_2 0) (Oq (VldF sh3 0) (Oq Vmul (Oq Vmin ?_)))))))
   refine letv (ledger_between ((l.getD v12_8.toNat default).Cost) ((l.getD v12_8.toNat default).Steps) (min (8 * (l.getD v12_8.toNat default).Steps) 1073741824)) fun rv56 hg57 => ?_
   have hc58 := fn15 ((l.getD v12_8.toNat default).Cost) ((l.getD v12_8.toNat default).Steps) ((min (8 * (l.getD v12_8.toNat default).Steps) 1073741824)) pre pre pre rv56 hg57
   refine Oc [] ca15 hc58 ?_
   rintro - -
   refine Oq Vnot (Oq Vpf (Oq Vm ?_))
   refine Js 44 ?_ ?_
   · intro h59
     have h61 := not_true h59
     refine Osk (Osk (Osk (Osk (Oq Vpt (KS ?_)))))
     refine Kt ?_
     refine KS ?_
     refine Oq Va (KS ?_)
     have hR63 := q2 hM9 (.ret false) (by simp only [ledger_Valid_L0, h2, h15, h26, h32, h37, h43, h48, h54, h59, h61, hg24, hg35, hg46, hg57, cs4])
     have hq := q4 hrr false (by simp only [ledger_Valid, h2, h15, h26, h32, h37, h43, h48, h54, h59, h61, hg24, hg35, hg46, hg57, hR63, cs4]); subst hq
     exact Kr () rfl (.tmp rfl .nil) [] trivial
   intro h59
   have h65 := not_false h59
   try have hbt56 := between_b (by assumption : ledger_between _ _ _ = rv56) h65
   refine Oq Vm (Oq (Vfa fo42_0 0) (Oq (VldF sh3 0) (Oq (Vmk1 2 false mt40 (kInt un3) ze4 (ek := vi) (ev := vb) (ok := i64ok) (key := ((l.getD v12_8.toNat default).Query)) pre) (Oq Vpf (KS ?_)))))
   refine Kc ?_ ?_
   · intro h67
     refine KS ?_
     refine Oq Va (KS ?_)
     have hR69 := q2 hM9 (.ret false) (by simp only [ledger_Valid_L0, h2, h15, h26, h32, h37, h43, h48, h54, h59, h65, h67, hg24, hg35, hg46, hg57, cs4])
     have hq := q4 hrr false (by simp only [ledger_Valid, h2, h15, h26, h32, h37, h43, h48, h54, h59, h65, h67, hg24, hg35, hg46, hg57, hR69, cs4]); subst hq
     exact Kr () rfl (.tmp rfl .nil) [] trivial
   intro h67
   refine KS ?_
   refine Oq Vm (Oq (Vfa fo42_0 0) (Oq (VldF sh3 0) (Oq (Vfa fo42_4 0) (Oq (VldF sh4 0) (Ost (Smp [2] mt40 (kInt un3) ((l.getD v12_8.toNat default).Finished) (ek := vi) (ev := vb) (ok := i64ok) (key := ((l.getD v12_8.toNat default).Query)) pre) (KS ?_))))))
   refine Oq Vadd (Oq Vm (KS ?_))
   exact Kg (r17, (mset finished_7 ((l.getD v12_8.toNat default).Query) ((l.getD v12_8.toNat default).Finished)), (v12_8 + 1)) [0, 2] ⟨(q3 hM9 (by simp only [ledger_Valid_L0, h2, h15, h26, h32, h37, h43, h48, h54, h59, h65, h67, hg24, hg35, hg46, hg57, cs4])), (by omega), (by omega), (by omega), (by omega)⟩
 intro h15
 have g71 := of_decide_eq_false h15
 obtain rfl : r6 = 0 := by omega
 refine Ke ?_
 have hR72 := q2 hM9 (.brk ()) (by simp only [ledger_Valid_L0, h2, h15, cs4])
 refine KS ?_
 refine Oq Va (KS ?_)
 have hq := q4 hrr true (by simp only [ledger_Valid, h2, h15, hR72, cs4]); subst hq
 exact Kr () rfl (.tmp rfl .nil) [] trivial
theorem fn39 (a : Int) (ha_0 : i64ok a) (rr : Int) (hrr : counter_Clamp a = rr) : FT Try.prog 39 #[vi a] [] (fun g : Unit => i64ok rr ∧ (0 ≤ rr ∧ rr ≤ 1073741824)) (fun g => vi rr) (fun g => []) := by
 refine FTi Try.func39 fun w0 M0 F0 => ?_
 unfold i64ok at ha_0
 refine KS ?_
 refine Oq Va (KS ?_)
 refine Oq Vm (Oq Vmax (Oq Vmin (Oq Va (KS ?_))))
 have hq := q4 hrr (min (max a 0) 1073741824) (by simp only [counter_Clamp, cs4]); subst hq
 exact Kr () rfl (.tmp rfl .nil) [] en
theorem fn35 (a : Int) (b : Int) (ha_0 : i64ok a) (hb_0 : i64ok b) (rr : Int) (hrr : counter_Add a b = rr) : FT Try.prog 35 #[vi a, vi b] [] (fun g : Unit => i64ok rr ∧ (0 ≤ rr ∧ rr ≤ 1073741824)) (fun g => vi rr) (fun g => []) := by
 refine FTi Try.func35 fun w0 M0 F0 => ?_
 unfold i64ok at ha_0 hb_0
 refine KS ?_
 refine Oq Va (KS ?_)
 refine Oq Vm ?_
 refine letv (counter_Clamp a) fun rv1 hg2 => ?_
 have hc3 := fn39 a pre rv1 hg2
 refine Oc [] ca39 hc3 ?_
 rintro - ⟨he4, he5⟩
 unfold i64ok at he4
 refine Oq Vm ?_
 refine letv (counter_Clamp b) fun rv6 hg7 => ?_
 have hc8 := fn39 b pre rv6 hg7
 refine Oc [] ca39 hc8 ?_
 rintro - ⟨he9, he10⟩
 unfold i64ok at he9
 refine Oq Vadd ?_
 refine letv (counter_Clamp (rv1 + rv6)) fun rv11 hg12 => ?_
 have hc13 := fn39 ((rv1 + rv6)) pre rv11 hg12
 refine Oc [] ca39 hc13 ?_
 rintro - ⟨he14, he15⟩
 unfold i64ok at he14
 refine Oq Va (KS ?_)
 have hq := q4 hrr rv11 (by simp only [counter_Add, hg2, hg7, hg12, cs4]); subst hq
 exact Kr () rfl (.tmp rfl .nil) [] en
theorem fn25 (a : GAccount) (x : GTurn) (ha_0 : i64ok a.Query) (ha_1 : i64ok a.Turns) (ha_2 : i64ok a.Steps) (ha_3 : i64ok a.Cost) (hx_0 : i64ok x.Query) (hx_1 : i64ok x.Quantum) (hx_2 : i64ok x.Steps) (hx_3 : i64ok x.Cost) (ht0 : 0 ≤ a.Turns ∧ a.Turns ≤ 1000000) (rr : GAccount) (hrr : ledger_add a x = rr) : FT Try.prog 25 #[.agg #[vi a.Query, vi a.Turns, vi a.Steps, vi a.Cost], .agg #[vi x.Query, vi x.Quantum, vi x.Steps, vi x.Cost, vb x.Finished]] [] (fun g : Unit => i64ok rr.Query ∧ i64ok rr.Turns ∧ i64ok rr.Steps ∧ i64ok rr.Cost ∧ (rr.Query = a.Query ∧ 0 ≤ rr.Turns ∧ rr.Turns ≤ a.Turns + 1 ∧ 0 ≤ rr.Steps ∧ rr.Steps ≤ 1073741824 ∧ 0 ≤ rr.Cost ∧ rr.Cost ≤ 1073741824)) (fun g => .agg #[vi rr.Query, vi rr.Turns, vi rr.Steps, vi rr.Cost]) (fun g => []) := by
 refine FTi Try.func25 fun w0 M0 F0 => ?_
 unfold i64ok at ha_0 ha_1 ha_2 ha_3 hx_0 hx_1 hx_2 hx_3
 refine KS ?_
 refine Oa (AbO [vi a.Query, vi a.Turns, vi a.Steps, vi a.Cost]) fun p1 => Oa (Ab [vi x.Query, vi x.Quantum, vi x.Steps, vi x.Cost, vb x.Finished]) fun p2 => Oa (Al ze36 [vi 0, vi 0, vi 0, vi 0]) fun p3 => KS ?_
 refine Oq (Vfa fo42_1 1) (Oq (VldF sh3 1) (Oq Vgtr (KS ?_)))
 refine Kc ?_ ?_
 · intro h4
   have g5 := of_decide_eq_true h4
   refine KS ?_
   refine Oq (Vfa fo36_1 2) (Oq (VldF sh3 2) (Oq Vadd (Oq (Vfa fo36_1 2) (Ost (SclF [2] sh3 [vi a.Query, vi (a.Turns + 1), vi a.Steps, vi a.Cost]) (KS ?_)))))
   refine Jp 0 fun hp6 => ?_
   refine JK_drawK [0, 1, 0, 4, 15, 0, 32, 0, 128, 511, 127, 2047, 4095, 8191] fmix ?_
   refine Dv [0] (Vfa fo36_2 0) (Dv [1] (VldF sh3 0) (Dv [3] (Vfa fo42_2 0) (Dv [3] (VldF sh3 0) ?_)))
   refine letv (counter_Add a.Steps x.Steps) fun rv7 hg8 => ?_
   refine Dx [] [] [0] (fun G => vi rv7) [fun G => SP.fact (i64ok rv7 ∧ (0 ≤ rv7 ∧ rv7 ≤ 1073741824))] (fun G => xC [] ca35 (fn35 a.Steps x.Steps pre pre rv7 hg8)) (Dv [0] (Vfa fo36_3 0) (Dv [1] (VldF sh3 0) (Dv [3] (Vfa fo42_3 0) (Dv [3] (VldF sh3 0) ?_))))
   refine letv (counter_Add a.Cost x.Cost) fun rv9 hg10 => ?_
   refine Dx [4] [] [1, 0] (fun G => vi rv9) [fun G => SP.fact (i64ok rv9 ∧ (0 ≤ rv9 ∧ rv9 ≤ 1073741824))] (fun G => by refine xf 0 rfl ?_; rintro ⟨he11, he12⟩; unfold i64ok at he11; exact xC [] ca35 (fn35 a.Cost x.Cost pre pre rv9 hg10)) (Dv [0] (Vfa fo36_2 0) (Dx0 [1] [1] [0] [fun G => Cl p1 [vi a.Query, vi (a.Turns + 1), vi rv7, vi a.Cost]] (fun G => xS (SclF [0] sh3 [vi a.Query, vi (a.Turns + 1), vi rv7, vi a.Cost])) (Dv [0] (Vfa fo36_3 0) (Dx0 [6] [6] [0] [fun G => Cl p1 [vi a.Query, vi (a.Turns + 1), vi rv7, vi rv9]] (fun G => xS (SclF [0] sh3 [vi a.Query, vi (a.Turns + 1), vi rv7, vi rv9])) ?_))))
   refine Dn ⟨by kernel_rfl, fun G => ?_⟩
   refine Jw2 [(2, p1), (4, p3)] [0, 2, 3] [SP.fact (i64ok rv7 ∧ (0 ≤ rv7 ∧ rv7 ≤ 1073741824)), SP.fact (i64ok rv9 ∧ (0 ≤ rv9 ∧ rv9 ≤ 1073741824)), Cl p1 [vi a.Query, vi (a.Turns + 1), vi rv7, vi rv9]] ?_
   refine Jf 3 rfl ?_; rintro ⟨he13, he14⟩
   unfold i64ok at he13
   refine Jf 4 rfl ?_; rintro ⟨he15, he16⟩
   unfold i64ok at he15
   refine Jk [1, 1, 4] ?_
   refine KS ?_
   refine Oq (VldA sh36 2) (Ost (Scl [0] sh36 [vi a.Query, vi (a.Turns + 1), vi rv7, vi rv9]) (KS ?_))
   have hq := q4 hrr (GAccount.mk a.Query (a.Turns + 1) rv7 rv9) (by simp only [ledger_add, h4, hg8, hg10, cs4]); subst hq
   exact Kr () rfl (.cellN 0 rfl sh36 rfl (reads_Cl _ _) rfl .nil) [] en
 intro h4
 have g17 := of_decide_eq_false h4
 refine KS ?_
 refine Jp 2 fun hp18 => ?_
 refine JK_drawK [0, 1, 0, 4, 15, 0, 32, 0, 128, 511, 127, 2047, 4095, 8191] fmix ?_
 refine Dv [0] (Vfa fo36_2 0) (Dv [3] (VldF sh3 0) (Dv [2] (Vfa fo42_2 0) (Dv [2] (VldF sh3 0) ?_)))
 refine letv (counter_Add a.Steps x.Steps) fun rv19 hg20 => ?_
 refine Dx [] [] [0] (fun G => vi rv19) [fun G => SP.fact (i64ok rv19 ∧ (0 ≤ rv19 ∧ rv19 ≤ 1073741824))] (fun G => xC [] ca35 (fn35 a.Steps x.Steps pre pre rv19 hg20)) (Dv [0] (Vfa fo36_3 0) (Dv [3] (VldF sh3 0) (Dv [2] (Vfa fo42_3 0) (Dv [2] (VldF sh3 0) ?_))))
 refine letv (counter_Add a.Cost x.Cost) fun rv21 hg22 => ?_
 refine Dx [4] [] [1, 0] (fun G => vi rv21) [fun G => SP.fact (i64ok rv21 ∧ (0 ≤ rv21 ∧ rv21 ≤ 1073741824))] (fun G => by refine xf 0 rfl ?_; rintro ⟨he23, he24⟩; unfold i64ok at he23; exact xC [] ca35 (fn35 a.Cost x.Cost pre pre rv21 hg22)) (Dv [0] (Vfa fo36_2 0) (Dx0 [3] [3] [0] [fun G => Cl p1 [vi a.Query, vi a.Turns, vi rv19, vi a.Cost]] (fun G => xS (SclF [0] sh3 [vi a.Query, vi a.Turns, vi rv19, vi a.Cost])) (Dv [0] (Vfa fo36_3 0) (Dx0 [6] [6] [0] [fun G => Cl p1 [vi a.Query, vi a.Turns, vi rv19, vi rv21]] (fun G => xS (SclF [0] sh3 [vi a.Query, vi a.Turns, vi rv19, vi rv21])) ?_))))
 refine Dn ⟨by kernel_rfl, fun G => ?_⟩
 refine Jw2 [(2, p1), (4, p3)] [0, 1, 2] [SP.fact (i64ok rv19 ∧ (0 ≤ rv19 ∧ rv19 ≤ 1073741824)), SP.fact (i64ok rv21 ∧ (0 ≤ rv21 ∧ rv21 ≤ 1073741824)), Cl p1 [vi a.Query, vi a.Turns, vi rv19, vi rv21]] ?_
 refine Jf 3 rfl ?_; rintro ⟨he25, he26⟩
 unfold i64ok at he25
 refine Jf 4 rfl ?_; rintro ⟨he27, he28⟩
 unfold i64ok at he27
 refine Jk [1, 1, 4] ?_
 refine KS ?_
 refine Oq (VldA sh36 2) (Ost (Scl [0] sh36 [vi a.Query, vi a.Turns, vi rv19, vi rv21]) (KS ?_))
 have hq := q4 hrr (GAccount.mk a.Query a.Turns rv19 rv21) (by simp only [ledger_add, h4, hg20, hg22, cs4]); subst hq
 exact Kr () rfl (.cellN 0 rfl sh36 rfl (reads_Cl _ _) rfl .nil) [] en
theorem fn40 (data : List GAccount) (dataa0 : Option Addr) (datak0 : Nat) (a : Int) (b : Int) (cmpF : FuncId) (cmpC : List Value) (cmpp : GAccount → GAccount → Int) (cmpA : List SP) (ha_0 : i64ok a) (hb_0 : i64ok b) (hcmpc : callable Try.prog cmpF = true) (hcmpF : ∀ x0 x1, i64ok x0.Query → i64ok x0.Turns → i64ok x0.Steps → i64ok x0.Cost → i64ok x1.Query → i64ok x1.Turns → i64ok x1.Steps → i64ok x1.Cost → FT Try.prog cmpF ([(.agg #[vi x0.Query, vi x0.Turns, vi x0.Steps, vi x0.Cost] : Value), (.agg #[vi x1.Query, vi x1.Turns, vi x1.Steps, vi x1.Cost] : Value)] ++ cmpC).toArray ([] ++ [pAll cmpA]) (fun _ : Unit => i64ok (cmpp x0 x1)) (fun _ => vi (cmpp x0 x1)) (fun _ => [])) (ha0 : 0 ≤ a ∧ a ≤ b ∧ b ≤ (data.length : Int)) (rr : List GAccount) (hrr : slices_insertionSortCmpFunc_Account data a b cmpp = rr) : FT Try.prog 40 #[vl dataa0 datak0 data, vi a, vi b, .func (.func cmpF) #[] cmpC.toArray] [O dataa0 datak0 data, pAll cmpA] (fun g : Unit => True) (fun g => .tuple #[]) (fun g => [os (vl dataa0 datak0 data) rr]) := by
 refine FTi Try.func40 fun w0 M0 F0 => ?_
 unfold i64ok at ha_0 hb_0
 refine Fb 32 0 fun hl1 => ?_
 refine KS ?_
 refine Oq Vm (Oq Vadd (Oq Va (KS ?_)))
 refine Kl (γ := Nat × List GAccount × Int) (fun (r2, data_3, i_4) => ⟨[(0, vl dataa0 datak0 data), (1, vi a), (2, vi b), (3, .func (.func cmpF) #[] cmpC.toArray), (8, vi i_4)], [os (vl dataa0 datak0 data) data_3, pAll cmpA], slices_insertionSortCmpFunc_Account_L0 a cmpp r2 data_3 i_4 = slices_insertionSortCmpFunc_Account_L0 a cmpp (((b : Int) - (a + 1)).toNat) data (a + 1) ∧ r2 = ((b : Int) - i_4).toNat ∧ ((a + 1) : Int) ≤ i_4 ∧ (i_4 ≤ b ∨ i_4 = (a + 1)) ∧ (-9223372036854775808 ≤ i_4 ∧ i_4 ≤ 9223372036854775807), r2⟩) (((b : Int) - (a + 1)).toNat, data, (a + 1)) [0, 0] ⟨rfl, rfl, (by omega), (.inr rfl), (by omega)⟩ ?_
 rintro ⟨r2, data_3, i_4⟩ ⟨hM5, hr6, hi7, hi8, hk9⟩
 refine JJ_nx fun _ _ hL hA => ?_; dsimp only at hL hA; subst hL hA
 refine Fb 32 0 fun hl10 => ?_
 refine Fl 0 fun hn11 => ?_
 refine KS ?_
 refine Oq Vm (Oq Vm (Oq Vlss (KS ?_)))
 refine Kc ?_ ?_
 · intro h12
   have g13 := of_decide_eq_true h12
   obtain ⟨r14, rfl⟩ := scc (n := r2) (by omega)
   refine KS ?_
   refine Oq Vm (Oq Va (KS ?_))
   refine Kl (γ := Nat × List GAccount × Int) (fun (r15, data_16, j_17) => ⟨[(0, vl dataa0 datak0 data), (1, vi a), (2, vi b), (3, .func (.func cmpF) #[] cmpC.toArray), (8, vi i_4), (9, vi j_17)], [os (vl dataa0 datak0 data) data_16, pAll cmpA], slices_insertionSortCmpFunc_Account_L1 cmpp r15 data_16 j_17 = slices_insertionSortCmpFunc_Account_L1 cmpp (((i_4 : Int) - a).toNat) data_3 i_4 ∧ r15 = ((j_17 : Int) - a).toNat ∧ j_17 ≤ (i_4 : Int) ∧ (-9223372036854775808 ≤ j_17 ∧ j_17 ≤ 9223372036854775807), r15⟩) (((i_4 : Int) - a).toNat, data_3, i_4) [0, 0] ⟨rfl, rfl, (by omega), (by omega)⟩ ?_
   rintro ⟨r15, data_16, j_17⟩ ⟨hM18, hr19, hi20, hk21⟩
   refine JJ_nx fun _ _ hL hA => ?_; dsimp only at hL hA; subst hL hA
   refine Fb 32 0 fun hl22 => ?_
   refine Fl 0 fun hn23 => ?_
   refine KS ?_
   refine bool_split (decide (a < j_17)) ?_ ?_
   · intro h24
     have g25 := of_decide_eq_true h24
     obtain ⟨r26, rfl⟩ := scc (n := r15) (by omega)
     refine JJ_peekO_GAccount j_17.toNat 0 rfl rng fun hb27 hb28 hb29 hb30 => ?_
     unfold i64ok at hb27 hb28 hb29 hb30
     refine JJ_peekO2_GAccount ((j_17 - 1) : Int).toNat 0 rfl rng fun hb31 hb32 hb33 hb34 => ?_
     unfold i64ok at hb31 hb32 hb33 hb34
     refine JK_drawK [0, 0, 3, 7, 15, 15, 15, 111, 239, 15, 15, 1039, 3599, 7695, 16383, 32767, 65535] fmix ?_
     refine Dv [] Vm (Dv [] Vm (Db h24 [] Vgtr (Dv [] Vm (Dv [] Vm (Dv [] Vm (Dv [] Vm (Dv [0] (Vi sl33 0) (Dv [0] (VldA sh36 0) (Dv [] Vm ?_)))))))))
     refine Dv [] Vm (Dv [] Vsub (Dv [0] (Vi sl33 0) (Dv [0] (VldA sh36 0) (Dx [1] [] [1, 0] (fun G => vi (cmpp (data_16.getD j_17.toNat default) (data_16.getD ((j_17 - 1) : Int).toNat default))) [fun G => SP.fact (i64ok (cmpp (data_16.getD j_17.toNat default) (data_16.getD ((j_17 - 1) : Int).toNat default)))] (fun G => xE («as» := [(.agg #[vi ((data_16.getD j_17.toNat default).Query), vi ((data_16.getD j_17.toNat default).Turns), vi ((data_16.getD j_17.toNat default).Steps), vi ((data_16.getD j_17.toNat default).Cost)] : Value), (.agg #[vi ((data_16.getD ((j_17 - 1) : Int).toNat default).Query), vi ((data_16.getD ((j_17 - 1) : Int).toNat default).Turns), vi ((data_16.getD ((j_17 - 1) : Int).toNat default).Steps), vi ((data_16.getD ((j_17 - 1) : Int).toNat default).Cost)] : Value)] ++ cmpC) [0] hcmpc rfl rfl rfl (by simp) rfl (hcmpF (data_16.getD j_17.toNat default) (data_16.getD ((j_17 - 1) : Int).toNat default)  pre pre pre pre pre pre pre pre)) (Dv [] Vlss (Dv [] Vpt ?_))))))
     refine Dn ⟨by kernel_rfl, fun G => ?_⟩
     refine Jw2 [(0, vl dataa0 datak0 data), (1, vi a), (2, vi b), (3, .func (.func cmpF) #[] cmpC.toArray), (8, vi i_4), (9, vi j_17), (34, vb (decide ((cmpp (data_16.getD j_17.toNat default) (data_16.getD ((j_17 - 1) : Int).toNat default)) < 0)))] [0, 1] [SP.fact (i64ok (cmpp (data_16.getD j_17.toNat default) (data_16.getD ((j_17 - 1) : Int).toNat default)))] ?_
     refine Jf 2 rfl ?_; rintro he35
     unfold i64ok at he35
     refine Jk [0, 0] ?_
     refine Kc ?_ ?_
     · intro h36
       have g37 := of_decide_eq_true h36
       refine KS ?_
       refine JK_drawK [0, 0, 0, 0, 8, 0, 0, 64, 224, 480, 0, 0, 3072, 7168, 16355, 32739, 65535, 131071] fmix ?_
       refine Dv [] Vm (Dv [] Vm (Dv [] Vm (Dv [] Vm (Dv [] Vsub (Dv [] Vm (Dv [] Vm (Dv [] Vsub (Dv [0] (Vi sl33 0) (Dv [0] (VldA sh36 0) ?_)))))))))
       refine Dv [] Vm (Dv [] Vm (Dv [0] (Vi sl33 0) (Dv [0] (VldA sh36 0) (Dv [0] (Vi sl33 0) ?_))))
       refine Dx0 [0] [0] [0] [fun G => os (vl dataa0 datak0 data) (data_16.set j_17.toNat (data_16.getD ((j_17 - 1) : Int).toNat default))] (fun G => xp [0] rfl (Ent.oread2 _ _ _ _ _ _) (xS (So (Rs := []) [0] sh36 (data_16.getD ((j_17 - 1) : Int).toNat default) (fun h => ⟨rfl, (by unfold i64ok; first | omega | (dsimp only; omega)), (by unfold i64ok; first | omega | (dsimp only; omega)), (by unfold i64ok; first | omega | (dsimp only; omega)), (by unfold i64ok; first | omega | (dsimp only; omega))⟩)))) (Dv [2] (Vi sl33 0) ?_)
       refine Dx0 [2] [2] [0] [fun G => os (vl dataa0 datak0 data) ((data_16.set j_17.toNat (data_16.getD ((j_17 - 1) : Int).toNat default)).set ((j_17 - 1) : Int).toNat (data_16.getD j_17.toNat default))] (fun G => xS (So (Rs := []) [0] sh36 (data_16.getD j_17.toNat default) (fun h => ⟨rfl, (by unfold i64ok; first | omega | (dsimp only; omega)), (by unfold i64ok; first | omega | (dsimp only; omega)), (by unfold i64ok; first | omega | (dsimp only; omega)), (by unfold i64ok; first | omega | (dsimp only; omega))⟩))) ?_
       refine Dn ⟨by kernel_rfl, fun G => ?_⟩
       refine Jw2 [(0, vl dataa0 datak0 data), (1, vi a), (2, vi b), (3, .func (.func cmpF) #[] cmpC.toArray), (8, vi i_4), (9, vi j_17)] [1] [os (vl dataa0 datak0 data) ((data_16.set j_17.toNat (data_16.getD ((j_17 - 1) : Int).toNat default)).set ((j_17 - 1) : Int).toNat (data_16.getD j_17.toNat default))] ?_
       refine KS ?_
       refine Oq Vm (Oq Vsub (Oq Va (KS ?_)))
       exact Kg (r26, ((data_16.set j_17.toNat (data_16.getD ((j_17 - 1) : Int).toNat default)).set ((j_17 - 1) : Int).toNat (data_16.getD j_17.toNat default)), (j_17 - 1)) [1, 0] ⟨(q3 hM18 (by simp only [slices_insertionSortCmpFunc_Account_L1, h12, h24, h36, cs4])), (by omega), (by omega), (by omega)⟩
     intro h36
     have g38 := of_decide_eq_false h36
     refine Jl [0] (Ent.oread2 _ _ _ _ _ _) ?_
     refine Ke ?_
     have hR39 := q2 hM18 data_16 (by simp only [slices_insertionSortCmpFunc_Account_L1, h12, h24, h36, cs4])
     refine KS ?_
     refine Oq Vm (Oq Vadd (Oq Va (KS ?_)))
     exact Kg (r14, data_16, (i_4 + 1)) [0, 0] ⟨(q3 hM5 (by simp only [slices_insertionSortCmpFunc_Account_L0, h12, h24, h36, hR39, cs4])), (by omega), (by omega), (by omega), (by omega)⟩
   intro h24
   have g40 := of_decide_eq_false h24
   obtain rfl : r15 = 0 := by omega
   refine Kq [0, 0, 3, 7, 15, 15, 15, 111, 239, 15, 15, 1039, 3599, 7695, 16383, 32767, 65535] fmix ?_
   refine Qv [] Vm (Qv [] Vm (Qb h24 [] Vgtr (Qv [] Vm (Qs (Qs (Qs (Qs (Qs (Qs ?_)))))))))
   refine Qs (Qs (Qs (Qs (Qs (Qs (Qv [] Vpf ?_))))))
   refine Qn ⟨by kernel_rfl, ?_⟩
   refine Kf ?_
   refine Ke ?_
   have hR41 := q2 hM18 data_16 (by simp only [slices_insertionSortCmpFunc_Account_L1, h12, h24, cs4])
   refine KS ?_
   refine Oq Vm (Oq Vadd (Oq Va (KS ?_)))
   exact Kg (r14, data_16, (i_4 + 1)) [0, 0] ⟨(q3 hM5 (by simp only [slices_insertionSortCmpFunc_Account_L0, h12, h24, hR41, cs4])), (by omega), (by omega), (by omega), (by omega)⟩
 intro h12
 have g42 := of_decide_eq_false h12
 obtain rfl : r2 = 0 := by omega
 refine Ke ?_
 have hR43 := q2 hM5 data_3 (by simp only [slices_insertionSortCmpFunc_Account_L0, h12, cs4])
 have hq := q4 hrr data_3 (by simp only [slices_insertionSortCmpFunc_Account, h12, hR43, cs4]); subst hq
 exact Kz () rfl .nil [0] trivial
theorem fn36 (data : List GAccount) (dataa0 : Option Addr) (datak0 : Nat) (a : Int) (b : Int) (limit : Int) (cmpF : FuncId) (cmpC : List Value) (cmpp : GAccount → GAccount → Int) (cmpA : List SP) (ha_0 : i64ok a) (hb_0 : i64ok b) (hlimit_0 : i64ok limit) (hcmpc : callable Try.prog cmpF = true) (hcmpF : ∀ x0 x1, i64ok x0.Query → i64ok x0.Turns → i64ok x0.Steps → i64ok x0.Cost → i64ok x1.Query → i64ok x1.Turns → i64ok x1.Steps → i64ok x1.Cost → FT Try.prog cmpF ([(.agg #[vi x0.Query, vi x0.Turns, vi x0.Steps, vi x0.Cost] : Value), (.agg #[vi x1.Query, vi x1.Turns, vi x1.Steps, vi x1.Cost] : Value)] ++ cmpC).toArray ([] ++ [pAll cmpA]) (fun _ : Unit => i64ok (cmpp x0 x1)) (fun _ => vi (cmpp x0 x1)) (fun _ => [])) (ha0 : 0 ≤ a ∧ a ≤ b ∧ b ≤ (data.length : Int) ∧ b - a ≤ 12) (rr : List GAccount) (hrr : slices_pdqsortCmpFunc_Account data a b limit cmpp = rr) : FT Try.prog 36 #[vl dataa0 datak0 data, vi a, vi b, vi limit, .func (.func cmpF) #[] cmpC.toArray] [O dataa0 datak0 data, pAll cmpA] (fun g : Unit => True) (fun g => .tuple #[]) (fun g => [os (vl dataa0 datak0 data) rr]) := by
 refine FTi Try.func36 fun w0 M0 F0 => ?_
 unfold i64ok at ha_0 hb_0 hlimit_0
 refine Fb 32 0 fun hl1 => ?_
 refine KS ?_
 refine Oq Va (KS ?_)
 refine Oq Va (KS ?_)
 have hterm4 : slices_pdqsortCmpFunc_Account_L0 data a b cmpp 1 ≠ LR.oof := (by unfold slices_pdqsortCmpFunc_Account_L0; intro h; simp only [Bool.cond_eq_ite] at h; (repeat' split at h) <;> cases h)
 refine Kl (γ := Nat) (fun r2 => ⟨[(0, vl dataa0 datak0 data), (1, vi a), (2, vi b), (3, vi limit), (4, .func (.func cmpF) #[] cmpC.toArray), (10, vb true), (11, vb true)], [O dataa0 datak0 data, pAll cmpA], slices_pdqsortCmpFunc_Account_L0 data a b cmpp r2 = slices_pdqsortCmpFunc_Account_L0 data a b cmpp 1, r2⟩) 1 [0, 0] rfl ?_
 rintro r2 hM3
 refine JJ_nx fun _ _ hL hA => ?_; dsimp only at hL hA; subst hL hA
 refine Fb 32 0 fun hl5 => ?_
 rcases r2 with _ | r2
 · exact absurd (hM3.symm.trans rfl) hterm4
 refine KS ?_
 refine Oq Vm (Oq Vm (Oq Vsub (Oq Va (KS ?_))))
 refine Oq Vm (Oq Vleq (KS ?_))
 refine Kc ?_ ?_
 · intro h6
   have g7 := of_decide_eq_true h6
   refine KS ?_
   refine Oq Vm (Oq Vm (Oq Vm (Oq Vm ?_)))
   refine letv (slices_insertionSortCmpFunc_Account data a b cmpp) fun rv8 hg9 => ?_
   have hc10 := fn40 data dataa0 datak0 a b cmpF cmpC cmpp cmpA pre pre hcmpc hcmpF pre rv8 hg9
   refine Oc [0, 0] ca40 hc10 ?_
   rintro - -
   refine KS ?_
   have hR11 := q2 hM3 (.ret rv8) (by simp only [slices_pdqsortCmpFunc_Account_L0, h6, hg9, cs4])
   have hq := q4 hrr rv8 (by simp only [slices_pdqsortCmpFunc_Account, h6, hg9, hR11, cs4]); subst hq
   exact Kr () rfl .nil [0] trivial
 intro h6
 have g12 := of_decide_eq_false h6
 exfalso; omega
theorem fn49 (x : BitVec 64) (hx0 : x.toNat ≤ 255) (rr : Int) (hrr : bits_Len64 x = rr) : FT Try.prog 49 #[u64 x] [] (fun g : Unit => i64ok rr) (fun g => vi rr) (fun g => []) := by
 refine FTi Try.func49 fun w0 M0 F0 => ?_
 refine KS ?_
 refine Oq Va (KS ?_)
 refine Oq Vm (Oq (Vgeq (a := (x.toNat : Int)) (b := 4294967296)) (KS ?_))
 refine Kc ?_ ?_
 · intro h1
   have g2 := of_decide_eq_true h1
   exfalso; omega
 intro h1
 have g3 := of_decide_eq_false h1
 refine KS ?_
 refine Oq Vm (Oq (Vgeq (a := (x.toNat : Int)) (b := 65536)) (KS ?_))
 refine Kc ?_ ?_
 · intro h4
   have g5 := of_decide_eq_true h4
   exfalso; omega
 intro h4
 have g6 := of_decide_eq_false h4
 refine KS ?_
 refine Oq Vm (Oq (Vgeq (a := (x.toNat : Int)) (b := 256)) (KS ?_))
 refine Kc ?_ ?_
 · intro h7
   have g8 := of_decide_eq_true h7
   exfalso; omega
 intro h7
 have g9 := of_decide_eq_false h7
 refine KS ?_
 refine Oq Vm (Oq Vm (Oq (VcU8 un70 un5) ?_))
 refine Oq (Vix un9 (l := tab0) (h := ⟨by omega, by rw [show tab0.b.length = 256 from rfl]; omega⟩)) ?_
 have hb10 := u8b (tab0.b.getD ((x.toNat : Int) : Int).toNat 0)
 refine Oq (VcK un5 un3) (Oq Vadd (Oq Va (KS ?_)))
 have hq := q4 hrr (0 + ((tab0.b.getD ((x.toNat : Int) : Int).toNat 0).toNat : Int)) (by simp only [bits_Len64, h1, h4, h7, cs4]); subst hq
 exact Kr () rfl (.tmp rfl .nil) [] en
theorem fn37 (x : BitVec 64) (hx0 : x.toNat ≤ 255) (rr : Int) (hrr : bits_Len x = rr) : FT Try.prog 37 #[u64 x] [] (fun g : Unit => i64ok rr) (fun g => vi rr) (fun g => []) := by
 refine FTi Try.func37 fun w0 M0 F0 => ?_
 refine KS ?_
 refine Oq Va (KS ?_)
 refine Kf ?_
 refine KS ?_
 refine Oq Vm ?_
 refine letv (bits_Len64 x) fun rv1 hg2 => ?_
 have hc3 := fn49 x pre rv1 hg2
 refine Oc [] ca49 hc3 ?_
 rintro - he4
 unfold i64ok at he4
 refine Oq Va (KS ?_)
 have hq := q4 hrr rv1 (by simp only [bits_Len, hg2, cs4]); subst hq
 exact Kr () rfl (.tmp rfl .nil) [] en
theorem fn26 (x : List GAccount) (xa0 : Option Addr) (xk0 : Nat) (cmpF : FuncId) (cmpC : List Value) (cmpp : GAccount → GAccount → Int) (cmpA : List SP) (hcmpc : callable Try.prog cmpF = true) (hcmpF : ∀ x0 x1, i64ok x0.Query → i64ok x0.Turns → i64ok x0.Steps → i64ok x0.Cost → i64ok x1.Query → i64ok x1.Turns → i64ok x1.Steps → i64ok x1.Cost → FT Try.prog cmpF ([(.agg #[vi x0.Query, vi x0.Turns, vi x0.Steps, vi x0.Cost] : Value), (.agg #[vi x1.Query, vi x1.Turns, vi x1.Steps, vi x1.Cost] : Value)] ++ cmpC).toArray ([] ++ [pAll cmpA]) (fun _ : Unit => i64ok (cmpp x0 x1)) (fun _ => vi (cmpp x0 x1)) (fun _ => [])) (ha0 : x.length ≤ 12) (rr : List GAccount) (hrr : slices_SortFunc_Account x cmpp = rr) : FT Try.prog 26 #[vl xa0 xk0 x, .func (.func cmpF) #[] cmpC.toArray] [O xa0 xk0 x, pAll cmpA] (fun g : Unit => True) (fun g => .tuple #[]) (fun g => [os (vl xa0 xk0 x) rr]) := by
 refine FTi Try.func26 fun w0 M0 F0 => ?_
 refine Fb 32 0 fun hl1 => ?_
 refine KS ?_
 refine Oq Vm (Oq (Vlen sl33) (Oq Va (KS ?_)))
 refine Oq Vm (Oq Vm (Oq Vm (Oq (VcU un3 un56) ?_)))
 refine letv (bits_Len (BitVec.ofInt 64 (x.length : Int))) fun rv2 hg3 => ?_
 have hc4 := fn37 ((BitVec.ofInt 64 (x.length : Int))) (ofInt_le (by omega)) rv2 hg3
 refine Oc [] ca37 hc4 ?_
 rintro - he5
 unfold i64ok at he5
 refine Oq Vm ?_
 refine letv (slices_pdqsortCmpFunc_Account x 0 (x.length : Int) rv2 cmpp) fun rv6 hg7 => ?_
 have hc8 := fn36 x xa0 xk0 0 ((x.length : Int)) rv2 cmpF cmpC cmpp cmpA pre pre pre hcmpc hcmpF pre rv6 hg7
 refine Oc [0, 0] ca36 hc8 ?_
 rintro - -
 refine KS ?_
 have hq := q4 hrr rv6 (by simp only [slices_SortFunc_Account, hg3, hg7, cs4]); subst hq
 exact Kz () rfl .nil [0] trivial
theorem fn38 (x : Int) (hx_0 : i64ok x) (rr : Bool) (hrr : cmp_isNaN_int x = rr) : FT Try.prog 38 #[vi x] [] (fun g : Unit => True) (fun g => vb rr) (fun g => []) := by
 refine FTi Try.func38 fun w0 M0 F0 => ?_
 unfold i64ok at hx_0
 refine KS ?_
 refine Oq Va (KS ?_)
 refine Oq Vm (Oq Vm (Oq Vneq (Oq Va (KS ?_))))
 have hq := q4 hrr (x != x) (by simp only [cmp_isNaN_int, cs4]); subst hq
 exact Kr () rfl (.tmp rfl .nil) [] trivial
theorem fn28 (x : Int) (y : Int) (hx_0 : i64ok x) (hy_0 : i64ok y) (rr : Int) (hrr : cmp_Compare_int x y = rr) : FT Try.prog 28 #[vi x, vi y] [] (fun g : Unit => i64ok rr) (fun g => vi rr) (fun g => []) := by
 refine FTi Try.func28 fun w0 M0 F0 => ?_
 unfold i64ok at hx_0 hy_0
 refine KS ?_
 refine Oq Va (KS ?_)
 refine Oq Vm ?_
 refine letv (cmp_isNaN_int x) fun rv1 hg2 => ?_
 have hc3 := fn38 x pre rv1 hg2
 refine Oc [] ca38 hc3 ?_
 rintro - -
 refine Oq Va (KS ?_)
 refine Oq Vm ?_
 refine letv (cmp_isNaN_int y) fun rv4 hg5 => ?_
 have hc6 := fn38 y pre rv4 hg5
 refine Oc [] ca38 hc6 ?_
 rintro - -
 refine Oq Va (KS ?_)
 refine Oq Vm (KS ?_)
 refine Kc ?_ ?_
 · intro h7
   refine KS ?_
   refine Oq Vm (KS ?_)
   refine Kc ?_ ?_
   · intro h9
     refine KS ?_
     refine Oq Va (KS ?_)
     have hq := q4 hrr 0 (by simp only [cmp_Compare_int, h7, h9, hg2, hg5, cs4]); subst hq
     exact Kr () rfl (.tmp rfl .nil) [] en
   intro h9
   refine KS ?_
   refine Oq Va (KS ?_)
   have hq := q4 hrr (-1) (by simp only [cmp_Compare_int, h7, h9, hg2, hg5, cs4]); subst hq
   exact Kr () rfl (.tmp rfl .nil) [] en
 intro h7
 refine KS ?_
 refine Oq Vm (KS ?_)
 refine Kc ?_ ?_
 · intro h13
   refine KS ?_
   refine Oq Va (KS ?_)
   have hq := q4 hrr 1 (by simp only [cmp_Compare_int, h7, h13, hg2, hg5, cs4]); subst hq
   exact Kr () rfl (.tmp rfl .nil) [] en
 intro h13
 refine KS ?_
 refine Oq Vm (Oq Vm (Oq Vlss (KS ?_)))
 refine Kc ?_ ?_
 · intro h16
   have g17 := of_decide_eq_true h16
   refine KS ?_
   refine Oq Va (KS ?_)
   have hq := q4 hrr (-1) (by simp only [cmp_Compare_int, h7, h13, h16, hg2, hg5, cs4]); subst hq
   exact Kr () rfl (.tmp rfl .nil) [] en
 intro h16
 have g18 := of_decide_eq_false h16
 refine KS ?_
 refine Oq Vm (Oq Vm (Oq Vgtr (KS ?_)))
 refine Kc ?_ ?_
 · intro h19
   have g20 := of_decide_eq_true h19
   refine KS ?_
   refine Oq Va (KS ?_)
   have hq := q4 hrr 1 (by simp only [cmp_Compare_int, h7, h13, h16, h19, hg2, hg5, cs4]); subst hq
   exact Kr () rfl (.tmp rfl .nil) [] en
 intro h19
 have g21 := of_decide_eq_false h19
 refine KS ?_
 refine Oq Va (KS ?_)
 have hq := q4 hrr 0 (by simp only [cmp_Compare_int, h7, h13, h16, h19, hg2, hg5, cs4]); subst hq
 exact Kr () rfl (.tmp rfl .nil) [] en
theorem fn27 (a : GAccount) (b : GAccount) (ha_0 : i64ok a.Query) (ha_1 : i64ok a.Turns) (ha_2 : i64ok a.Steps) (ha_3 : i64ok a.Cost) (hb_0 : i64ok b.Query) (hb_1 : i64ok b.Turns) (hb_2 : i64ok b.Steps) (hb_3 : i64ok b.Cost) (rr : Int) (hrr : ledger_Accounts_1 a b = rr) : FT Try.prog 27 #[.agg #[vi a.Query, vi a.Turns, vi a.Steps, vi a.Cost], .agg #[vi b.Query, vi b.Turns, vi b.Steps, vi b.Cost]] [] (fun g : Unit => i64ok rr) (fun g => vi rr) (fun g => []) := by
 refine FTi Try.func27 fun w0 M0 F0 => ?_
 unfold i64ok at ha_0 ha_1 ha_2 ha_3 hb_0 hb_1 hb_2 hb_3
 refine KS ?_
 refine Oa (Ab [vi a.Query, vi a.Turns, vi a.Steps, vi a.Cost]) fun p1 => Oa (Ab [vi b.Query, vi b.Turns, vi b.Steps, vi b.Cost]) fun p2 => Oq Va (KS ?_)
 refine Oq (Vfa fo36_0 1) (Oq (VldF sh3 1) (Oq (Vfa fo36_0 0) (Oq (VldF sh3 0) ?_)))
 refine letv (cmp_Compare_int a.Query b.Query) fun rv3 hg4 => ?_
 have hc5 := fn28 a.Query b.Query pre pre rv3 hg4
 refine Oc [] ca28 hc5 ?_
 rintro - he6
 unfold i64ok at he6
 refine Oq Va (KS ?_)
 have hq := q4 hrr rv3 (by simp only [ledger_Accounts_1, hg4, cs4]); subst hq
 exact Kr () rfl (.tmp rfl .nil) [] en
theorem fn12 (l : List GTurn) (la0 : Option Addr) (lk0 : Nat) (hqs : ∀ x ∈ l, 0 ≤ x.Query ∧ x.Query ≤ 11) (rr : List GAccount) (hrr : ledger_Accounts l = rr) : FT Try.prog 12 #[vl la0 lk0 l] [S la0 lk0 l] (fun g : Value => True) (fun g => g) (fun g => [sl g rr]) := by
 refine FTi Try.func12 fun w0 M0 F0 => ?_
 refine Fb 40 0 fun hl1 => ?_
 refine KS ?_
 refine Oq Va (KS ?_)
 refine Oq Vm ?_
 refine letv (ledger_Valid l) fun rv2 hg3 => ?_
 have hc4 := fn6 l la0 lk0 rv2 hg3
 refine Oc [0] ca6 hc4 ?_
 rintro - -
 refine Oq Vnot (KS ?_)
 refine Kc ?_ ?_
 · intro h5
   have h7 := not_true h5
   refine KS ?_
   refine Oq Va (KS ?_)
   refine Jl [] (Ent.slNil (α := GAccount)) ?_
   have hq := q4 hrr [] (by simp only [ledger_Accounts, h5, h7, hg3, cs4]); subst hq
   exact Kr (.slice none 0 0) rfl (.tmp rfl .nil) [0] trivial
 intro h5
 have h10 := not_false h5
 try have hvl := LValid_len (l := l) (by simp only [h5, h10, hg3])
 refine KS ?_
 refine Oa (Amp (κ := Int) (ν := GAccount) (ek := vi) (ev := ev_GAccount) (ok := i64ok)) fun p12 => Oq Va (KS ?_)
 refine Oq Vm (Oq (Vlen sl22) (Oq Vm (KS ?_)))
 refine Kl (γ := Nat × (List (Int × GAccount)) × Int) (fun (r13, of_14, v16_15) => ⟨[(3, p12), (14, vl la0 lk0 l), (15, vi (l.length : Int)), (16, vi v16_15)], [Mp vi ev_GAccount i64ok p12 of_14, S la0 lk0 l], ledger_Accounts_L0 l r13 of_14 v16_15 = ledger_Accounts_L0 l (((l.length : Int) - 0).toNat) [] 0 ∧ r13 = ((l.length : Int) - v16_15).toNat ∧ (0 : Int) ≤ v16_15 ∧ v16_15 ≤ (l.length : Int) ∧ (-9223372036854775808 ≤ v16_15 ∧ v16_15 ≤ 9223372036854775807) ∧ AccM of_14 v16_15, r13⟩) (((l.length : Int) - 0).toNat, [], 0) [0, 0] ⟨rfl, rfl, (by omega), (by omega), (by omega), (AccM_nil _)⟩ ?_
 rintro ⟨r13, of_14, v16_15⟩ ⟨hM16, hr17, hi18, hi19, hk20, hv21⟩
 refine JJ_nx fun _ _ hL hA => ?_; dsimp only at hL hA; subst hL hA
 refine Fb 40 1 fun hl22 => ?_
 refine KS ?_
 refine Oq Vlss (KS ?_)
 refine Kc ?_ ?_
 · intro h23
   have g24 := of_decide_eq_true h23
   have hq := hqs _ (getD_mem (xs := l) (i := v16_15.toNat) (d := default) (by omega))
   obtain ⟨r25, rfl⟩ := scc (n := r13) (by omega)
   refine KS ?_
   refine Oq (Vi sl22 1) ?_
   refine JJ_peek_GTurn v16_15.toNat 1 rfl rng fun hb26 hb27 hb28 hb29 => ?_
   unfold i64ok at hb26 hb27 hb28 hb29
   refine Oq (VldA sh42 0) (Oa (Al ze42 [vi 0, vi 0, vi 0, vi 0, vb false]) fun p30 => Ost (Scl [0] sh42 [vi ((l.getD v16_15.toNat default).Query), vi ((l.getD v16_15.toNat default).Quantum), vi ((l.getD v16_15.toNat default).Steps), vi ((l.getD v16_15.toNat default).Cost), vb ((l.getD v16_15.toNat default).Finished)]) (KS ?_))
   refine Oq Vm (Oq (Vfa fo42_0 0) (Oq (VldF sh3 0) (Oq (Vmk1 2 (default : GAccount) mt49 (kInt un3) ze36 (ek := vi) (ev := ev_GAccount) (ok := i64ok) (key := ((l.getD v16_15.toNat default).Query)) pre) ?_)))
   have hgt := AccM_get (of := of_14) (by assumption) (by omega) ((l.getD v16_15.toNat default).Query); unfold i64ok at hgt
   refine Oa (Al ze36 [vi 0, vi 0, vi 0, vi 0]) fun p31 => Ost (Scl [0] sh36 [vi (((mget of_14 ((l.getD v16_15.toNat default).Query)).getD (default : GAccount)).Query), vi (((mget of_14 ((l.getD v16_15.toNat default).Query)).getD (default : GAccount)).Turns), vi (((mget of_14 ((l.getD v16_15.toNat default).Query)).getD (default : GAccount)).Steps), vi (((mget of_14 ((l.getD v16_15.toNat default).Query)).getD (default : GAccount)).Cost)]) (KS ?_)
   refine Oq (Vfa fo42_0 1) (Oq (VldF sh3 1) (Oq (Vfa fo36_0 0) (Ost (SclF [0] sh3 [vi ((l.getD v16_15.toNat default).Query), vi (((mget of_14 ((l.getD v16_15.toNat default).Query)).getD (default : GAccount)).Turns), vi (((mget of_14 ((l.getD v16_15.toNat default).Query)).getD (default : GAccount)).Steps), vi (((mget of_14 ((l.getD v16_15.toNat default).Query)).getD (default : GAccount)).Cost)]) (KS ?_))))
   refine Jp 1 fun hp32 => ?_
   refine JK_drawK [0, 0, 2, 0, 0, 24, 63] fmix ?_
   refine Dv [] Vm (Dv [0] (Vfa fo42_0 0) (Dv [2] (VldF sh3 0) (Dv [1] (VldA sh36 0) (Dv [2] (VldA sh42 0) ?_))))
   refine letv (ledger_add (GAccount.mk ((l.getD v16_15.toNat default).Query) (((mget of_14 ((l.getD v16_15.toNat default).Query)).getD (default : GAccount)).Turns) (((mget of_14 ((l.getD v16_15.toNat default).Query)).getD (default : GAccount)).Steps) (((mget of_14 ((l.getD v16_15.toNat default).Query)).getD (default : GAccount)).Cost)) (l.getD v16_15.toNat default)) fun rv33 hg34 => ?_
   refine Dx [] [] [0] (fun G => .agg #[vi rv33.Query, vi rv33.Turns, vi rv33.Steps, vi rv33.Cost]) [fun G => SP.fact (i64ok rv33.Query ∧ i64ok rv33.Turns ∧ i64ok rv33.Steps ∧ i64ok rv33.Cost ∧ (rv33.Query = (GAccount.mk ((l.getD v16_15.toNat default).Query) (((mget of_14 ((l.getD v16_15.toNat default).Query)).getD (default : GAccount)).Turns) (((mget of_14 ((l.getD v16_15.toNat default).Query)).getD (default : GAccount)).Steps) (((mget of_14 ((l.getD v16_15.toNat default).Query)).getD (default : GAccount)).Cost)).Query ∧ 0 ≤ rv33.Turns ∧ rv33.Turns ≤ (GAccount.mk ((l.getD v16_15.toNat default).Query) (((mget of_14 ((l.getD v16_15.toNat default).Query)).getD (default : GAccount)).Turns) (((mget of_14 ((l.getD v16_15.toNat default).Query)).getD (default : GAccount)).Steps) (((mget of_14 ((l.getD v16_15.toNat default).Query)).getD (default : GAccount)).Cost)).Turns + 1 ∧ 0 ≤ rv33.Steps ∧ rv33.Steps ≤ 1073741824 ∧ 0 ≤ rv33.Cost ∧ rv33.Cost ≤ 1073741824))] (fun G => xC [] ca25 (fn25 ((GAccount.mk ((l.getD v16_15.toNat default).Query) (((mget of_14 ((l.getD v16_15.toNat default).Query)).getD (default : GAccount)).Turns) (((mget of_14 ((l.getD v16_15.toNat default).Query)).getD (default : GAccount)).Steps) (((mget of_14 ((l.getD v16_15.toNat default).Query)).getD (default : GAccount)).Cost))) ((l.getD v16_15.toNat default)) pre pre pre pre pre pre pre pre pre rv33 hg34)) ?_
   refine Dx0 [4, 6] [4] [1, 0] [fun G => Mp vi ev_GAccount i64ok p12 (mset of_14 ((l.getD v16_15.toNat default).Query) rv33)] (fun G => by refine xf 1 rfl ?_; rintro ⟨he35, he36, he37, he38, he39⟩; unfold i64ok at he35 he36 he37 he38; exact xS (Smp [0] mt49 (kInt un3) rv33 (ek := vi) (ev := ev_GAccount) (ok := i64ok) (key := ((l.getD v16_15.toNat default).Query)) pre)) ?_
   refine Dn ⟨by kernel_rfl, fun G => ?_⟩
   refine Jw2 [(3, p12), (14, vl la0 lk0 l), (15, vi (l.length : Int)), (16, vi v16_15)] [0, 1, 2, 3, 5] [SP.fact (i64ok rv33.Query ∧ i64ok rv33.Turns ∧ i64ok rv33.Steps ∧ i64ok rv33.Cost ∧ (rv33.Query = (GAccount.mk ((l.getD v16_15.toNat default).Query) (((mget of_14 ((l.getD v16_15.toNat default).Query)).getD (default : GAccount)).Turns) (((mget of_14 ((l.getD v16_15.toNat default).Query)).getD (default : GAccount)).Steps) (((mget of_14 ((l.getD v16_15.toNat default).Query)).getD (default : GAccount)).Cost)).Query ∧ 0 ≤ rv33.Turns ∧ rv33.Turns ≤ (GAccount.mk ((l.getD v16_15.toNat default).Query) (((mget of_14 ((l.getD v16_15.toNat default).Query)).getD (default : GAccount)).Turns) (((mget of_14 ((l.getD v16_15.toNat default).Query)).getD (default : GAccount)).Steps) (((mget of_14 ((l.getD v16_15.toNat default).Query)).getD (default : GAccount)).Cost)).Turns + 1 ∧ 0 ≤ rv33.Steps ∧ rv33.Steps ≤ 1073741824 ∧ 0 ≤ rv33.Cost ∧ rv33.Cost ≤ 1073741824)), Mp vi ev_GAccount i64ok p12 (mset of_14 ((l.getD v16_15.toNat default).Query) rv33)] ?_
   refine Jf 5 rfl ?_; rintro ⟨he40, he41, he42, he43, he44⟩
   unfold i64ok at he40 he41 he42 he43
   refine Jk [1, 1, 1, 2, 4] ?_
   refine KS ?_
   refine Oq Vadd (Oq Vm (KS ?_))
   exact Kg (r25, (mset of_14 ((l.getD v16_15.toNat default).Query) rv33), (v16_15 + 1)) [4, 3] ⟨(q3 hM16 (by simp only [ledger_Accounts_L0, h5, h10, h23, hg3, hg34, cs4])), (by omega), (by omega), (by omega), (by omega), (AccM_set (by assumption) (by omega) (by (try dsimp only at *); omega))⟩
 intro h23
 have g45 := of_decide_eq_false h23
 obtain rfl : r13 = 0 := by omega
 refine Ke ?_
 have hR46 := q2 hM16 of_14 (by simp only [ledger_Accounts_L0, h5, h10, h23, hg3, cs4])
 refine KS ?_
 refine Oq Va (KS ?_)
 refine Oq Vm ?_
 refine Jl [0] Ent.mfacts ?_
 refine Jf 0 rfl ?_; intro hmf48
 refine Jk [1, 1] ?_
 have hln0 := AccM_len (by assumption) hmf48.1
 refine Oa (Arg [0] mt49) fun p47 => KS ?_
 refine Jl [] (Ent.osNil (α := GAccount)) ?_
 refine Kl (γ := (List (Int × GAccount)) × (List (Int × GAccount)) × List GAccount × Option Addr × Nat) (fun (dn53, rs54, out_50, a51, k52) => ⟨[(7, vl a51 k52 out_50), (35, p47)], [O a51 k52 out_50, MpI vi ev_GAccount i64ok p12 p47 of_14 (dn53 : List (Int × GAccount)) (rs54 : List (Int × GAccount))], ledger_Accounts_L1 dn53 [] = out_50 ∧ (out_50.length + rs54.length = of_14.length) ∧ (∀ e ∈ rs54, e ∈ of_14), rs54.length⟩) ([], of_14, [], none, 0) [0, 0] ⟨rfl, (by simp), (fun _ h => h)⟩ ?_
 rintro ⟨dn53, rs54, out_50, a51, k52⟩ ⟨hM55, hv56, hv57⟩
 refine JJ_nx fun _ _ hL hA => ?_; dsimp only at hL hA; subst hL hA
 refine Fb 32 0 fun hl58 => ?_
 refine KS ?_
 refine Onx [1] ?_ ?_
 · intro hz59
   have hz59l := congrArg List.length hz59
   refine Oq Vx (KS ?_)
   refine Kf ?_
   refine Ke ?_
   refine Jl [0] Ent.mdone ?_
   refine Jf 0 rfl ?_; intro hpm
   refine Jl [1] (Ent.mperm hpm) ?_
   refine Jk [0, 1] ?_
   refine Jl [0] Ent.mfacts ?_
   refine Jf 0 rfl ?_; intro hmf
   refine Jk [1, 1] ?_
   have hrn := hM55
   have hln := AccM_len (by assumption) hmf.1
   refine KS ?_
   refine Oq Vm ?_
   refine JJ_ent (Ent.pall [] rfl rfl) ?_
   refine letv (slices_SortFunc_Account out_50 (fun x0 x1 => ledger_Accounts_1 x0 x1)) fun rv60 hg61 => ?_
   have hc62 := fn26 out_50 a51 k52 27 [] (fun x0 x1 => ledger_Accounts_1 x0 x1) [] ca27 (fun x0 x1 hq0 hq1 hq2 hq3 hq4 hq5 hq6 hq7 => FT_pall (A1 := []) (fn27 x0 x1  hq0 hq1 hq2 hq3 hq4 hq5 hq6 hq7 _ rfl)) pre rv60 hg61
   refine Oc [2, 0] ca26 hc62 ?_
   rintro - -
   have hgs := (Acc_sort (by assumption) hmf.1 hpm hrn).trans (by assumption : slices_SortFunc_Account out_50 (fun x0 x1 => ledger_Accounts_1 x0 x1) = rv60)
   refine KS ?_
   refine Oq Vm (Oq Va (KS ?_))
   refine Jl [0] (Ent.freeze _ _) ?_
   have hq := q4 hrr rv60 (by simp only [ledger_Accounts, h5, h10, h23, hg3, hR46, hg61, hgs, cs4]); subst hq
   exact Kr (vl a51 k52 out_50) rfl (.tmp rfl .nil) [0] trivial
 intro en63 r64 r65 hz66
 have hz66l := nxe hz66
 have hne := AccM_ent (by assumption) (by omega) (by assumption) hz66; unfold i64ok at hne
 refine Oq Vx (KS ?_)
 refine Kt ?_
 refine KS ?_
 refine Oq (Ven 0) (Oq Vx (Oa (Al ze36 [vi 0, vi 0, vi 0, vi 0]) fun p67 => Ost (Scl [0] sh36 [vi en63.2.Query, vi en63.2.Turns, vi en63.2.Steps, vi en63.2.Cost]) (KS ?_)))
 refine Oq Vm (Oq (VldA sh36 0) (Oa (AsV sl33 sz33 [.agg #[vi en63.2.Query, vi en63.2.Turns, vi en63.2.Steps, vi en63.2.Cost]] [vi en63.2.Query, vi en63.2.Turns, vi en63.2.Steps, vi en63.2.Cost]) fun c68 => ?_))
 refine Jo 0 ?_; rintro a69 k70 rfl
 refine Jl [0] (Ent.cr1 (α := GAccount) (A := []) _ en63.2 _ (Nat.le_of_ble_eq_true rfl) (fun h => ⟨rfl, (by unfold i64ok; first | omega | (dsimp only; omega)), (by unfold i64ok; first | omega | (dsimp only; omega)), (by unfold i64ok; first | omega | (dsimp only; omega)), (by unfold i64ok; first | omega | (dsimp only; omega))⟩)) ?_
 refine Oa (ApO [3, 0] sl33 sl33 sz33) fun c71 => ?_
 refine Jo 0 ?_; rintro a72 k73 rfl
 refine Fb 32 0 fun hl74 => ?_
 have hn75 := la out_50 ([en63.2] : List GAccount)
 refine Oq Va (KS ?_)
 exact Kg ((dn53 ++ [en63]), (r64 ++ r65), (out_50 ++ [en63.2]), a72, k73) [0, 1] ⟨(by rw [ledger_Accounts_L1_app, hM55]; simp only [ledger_Accounts_L1, h5, h10, h23, hg3, hR46, cs4]), (by simp only [List.length_cons, List.length_nil, List.length_append] at *; omega), (nx_sub (by assumption) (by assumption))⟩ (hm := nxl hz66)
theorem fn16 (a : List GAccount) (aa0 : Option Addr) (ak0 : Nat) (b : List GAccount) (ba0 : Option Addr) (bk0 : Nat) (rr : Bool) (hrr : flqlaw23_sameAccounts a b = rr) : FT Try.prog 16 #[vl aa0 ak0 a, vl ba0 bk0 b] [S aa0 ak0 a, S ba0 bk0 b] (fun g : Unit => True) (fun g => vb rr) (fun g => []) := by
 refine FTi Try.func16 fun w0 M0 F0 => ?_
 refine Fb 32 0 fun hl1 => ?_
 refine Fb 32 1 fun hl2 => ?_
 refine KS ?_
 refine Oq Va (KS ?_)
 refine Oq Vm (Oq (Vlen sl33) (Oq Vm (Oq (Vlen sl33) (Oq Vneq (KS ?_)))))
 refine Kc ?_ ?_
 · intro h3
   have g4 := ne_of_bne h3
   refine KS ?_
   refine Oq Va (KS ?_)
   have hq := q4 hrr false (by simp only [flqlaw23_sameAccounts, h3, cs4]); subst hq
   exact Kr () rfl (.tmp rfl .nil) [] trivial
 intro h3
 have g5 := eq_of_bne_false h3
 refine KS ?_
 refine Oq Va (KS ?_)
 refine Kl (γ := Nat × Int) (fun (r6, i_7) => ⟨[(0, vl aa0 ak0 a), (1, vl ba0 bk0 b), (5, vi i_7)], [S aa0 ak0 a, S ba0 bk0 b], flqlaw23_sameAccounts_L0 a b r6 i_7 = flqlaw23_sameAccounts_L0 a b (((a.length : Int) - 0).toNat) 0 ∧ r6 = ((a.length : Int) - i_7).toNat ∧ (0 : Int) ≤ i_7 ∧ i_7 ≤ (a.length : Int) ∧ (-9223372036854775808 ≤ i_7 ∧ i_7 ≤ 9223372036854775807), r6⟩) (((a.length : Int) - 0).toNat, 0) [0, 1] ⟨rfl, rfl, (by omega), (by omega), (by omega)⟩ ?_
 rintro ⟨r6, i_7⟩ ⟨hM8, hr9, hi10, hi11, hk12⟩
 refine JJ_nx fun _ _ hL hA => ?_; dsimp only at hL hA; subst hL hA
 refine Fb 32 0 fun hl13 => ?_
 refine Fb 32 1 fun hl14 => ?_
 refine KS ?_
 refine Oq Vm (Oq Vm (Oq (Vlen sl33) (Oq Vlss (KS ?_))))
 refine Kc ?_ ?_
 · intro h15
   have g16 := of_decide_eq_true h15
   obtain ⟨r17, rfl⟩ := scc (n := r6) (by omega)
   refine KS ?_
   refine JJ_peek_GAccount i_7.toNat 0 rfl rng fun hb18 hb19 hb20 hb21 => ?_
   unfold i64ok at hb18 hb19 hb20 hb21
   refine JJ_peek_GAccount i_7.toNat 2 rfl rng fun hb22 hb23 hb24 hb25 => ?_
   unfold i64ok at hb22 hb23 hb24 hb25
   refine Kq [0, 0, 3, 7, 0, 0, 48, 112, 255] fmix ?_
   refine Qv [] Vm (Qv [] Vm (Qv [2] (Vi sl33 0) (Qv [1] (VldA sh36 0) (Qv [] Vm (Qv [] Vm (Qv [3] (Vi sl33 0) (Qv [0] (VldA sh36 0) (Qv [] (VneA eqi36 (l := [(a.getD i_7.toNat default).Query, (a.getD i_7.toNat default).Turns, (a.getD i_7.toNat default).Steps, (a.getD i_7.toNat default).Cost]) (m := [(b.getD i_7.toNat default).Query, (b.getD i_7.toNat default).Turns, (b.getD i_7.toNat default).Steps, (b.getD i_7.toNat default).Cost])) ?_))))))))
   refine Qn ⟨by kernel_rfl, ?_⟩
   refine Kc ?_ ?_
   · intro h26
     have g27 := ne_of_bne h26
     refine KS ?_
     refine Oq Va (KS ?_)
     have hR28 := q2 hM8 (.ret false) (by simp only [flqlaw23_sameAccounts_L0, h3, h15, h26, cs4])
     have hq := q4 hrr false (by simp only [flqlaw23_sameAccounts, h3, h15, h26, hR28, cs4]); subst hq
     exact Kr () rfl (.tmp rfl .nil) [] trivial
   intro h26
   have g29 := eq_of_bne_false h26
   refine KS ?_
   refine Oq Vm (Oq Vadd (Oq Va (KS ?_)))
   exact Kg (r17, (i_7 + 1)) [2, 3] ⟨(q3 hM8 (by simp only [flqlaw23_sameAccounts_L0, h3, h15, h26, cs4])), (by omega), (by omega), (by omega), (by omega)⟩
 intro h15
 have g30 := of_decide_eq_false h15
 obtain rfl : r6 = 0 := by omega
 refine Ke ?_
 have hR31 := q2 hM8 (.brk ()) (by simp only [flqlaw23_sameAccounts_L0, h3, h15, cs4])
 refine KS ?_
 refine Oq Va (KS ?_)
 have hq := q4 hrr true (by simp only [flqlaw23_sameAccounts, h3, h15, hR31, cs4]); subst hq
 exact Kr () rfl (.tmp rfl .nil) [] trivial
theorem fn30 (l : List GTurn) (la0 : Option Addr) (lk0 : Nat) (query : Int) (weightF : FuncId) (weightC : List Value) (weightp : GTurn → Int) (weightA : List SP) (hquery_0 : i64ok query) (hweightc : callable Try.prog weightF = true) (hweightF : ∀ x0, i64ok x0.Query → i64ok x0.Quantum → i64ok x0.Steps → i64ok x0.Cost → FT Try.prog weightF ([(.agg #[vi x0.Query, vi x0.Quantum, vi x0.Steps, vi x0.Cost, vb x0.Finished] : Value)] ++ weightC).toArray ([] ++ [pAll weightA]) (fun _ : Unit => i64ok (weightp x0)) (fun _ => vi (weightp x0)) (fun _ => [])) (hw : ledger_Valid l = true → ∀ x ∈ l, 0 ≤ weightp x ∧ weightp x ≤ 1073741824) (rr : Int) (hrr : ledger_greatest l query weightp = rr) : FT Try.prog 30 #[vl la0 lk0 l, vi query, .func (.func weightF) #[] weightC.toArray] [S la0 lk0 l, pAll weightA] (fun g : Unit => i64ok rr) (fun g => vi rr) (fun g => []) := by
 refine FTi Try.func30 fun w0 M0 F0 => ?_
 unfold i64ok at hquery_0
 refine Fb 40 0 fun hl1 => ?_
 refine KS ?_
 refine Oq Va (KS ?_)
 refine Oq Vm ?_
 refine letv (ledger_Valid l) fun rv2 hg3 => ?_
 have hc4 := fn6 l la0 lk0 rv2 hg3
 refine Oc [0] ca6 hc4 ?_
 rintro - -
 refine Oq Vnot (KS ?_)
 refine Kc ?_ ?_
 · intro h5
   have h7 := not_true h5
   refine KS ?_
   refine Oq Va (KS ?_)
   have hq := q4 hrr 0 (by simp only [ledger_greatest, h5, h7, hg3, cs4]); subst hq
   exact Kr () rfl (.tmp rfl .nil) [] en
 intro h5
 have h10 := not_false h5
 try have hvl := LValid_len (l := l) (by simp only [h5, h10, hg3])
 try have hww := hw (by simp only [h5, h10, hg3])
 refine KS ?_
 refine Oq Va (Oq Va (Oq Va (KS ?_)))
 refine Oq Vm (Oq (Vlen sl22) (Oq Vm (KS ?_)))
 refine Kl (γ := Nat × Int × Int × Bool × Int) (fun (r12, most_13, sum_14, inside_15, v17_16) => ⟨[(1, vi query), (2, .func (.func weightF) #[] weightC.toArray), (7, vi most_13), (8, vi sum_14), (9, vb inside_15), (15, vl la0 lk0 l), (16, vi (l.length : Int)), (17, vi v17_16)], [S la0 lk0 l, pAll weightA], ledger_greatest_L0 l query weightp r12 most_13 sum_14 inside_15 v17_16 = ledger_greatest_L0 l query weightp (((l.length : Int) - 0).toNat) 0 0 false 0 ∧ r12 = ((l.length : Int) - v17_16).toNat ∧ (0 : Int) ≤ v17_16 ∧ v17_16 ≤ (l.length : Int) ∧ (-9223372036854775808 ≤ most_13 ∧ most_13 ≤ 9223372036854775807) ∧ (-9223372036854775808 ≤ sum_14 ∧ sum_14 ≤ 9223372036854775807) ∧ (-9223372036854775808 ≤ v17_16 ∧ v17_16 ≤ 9223372036854775807) ∧ (0 ≤ sum_14 ∧ sum_14 ≤ 1073741824 * v17_16) ∧ (0 ≤ most_13 ∧ most_13 ≤ 1073741824 * v17_16), r12⟩) (((l.length : Int) - 0).toNat, 0, 0, false, 0) [0, 1] ⟨rfl, rfl, (by omega), (by omega), (by omega), (by omega), (by omega), iv0, iv0⟩ ?_
 rintro ⟨r12, most_13, sum_14, inside_15, v17_16⟩ ⟨hM17, hr18, hi19, hi20, hk21, hk22, hk23, hv24, hv25⟩
 refine JJ_nx fun _ _ hL hA => ?_; dsimp only at hL hA; subst hL hA
 refine Fb 40 0 fun hl26 => ?_
 refine KS ?_
 refine Oq Vlss (KS ?_)
 refine Kc ?_ ?_
 · intro h27
   have g28 := of_decide_eq_true h27
   have hq := hww _ (getD_mem (xs := l) (i := v17_16.toNat) (d := default) (by omega))
   obtain ⟨r29, rfl⟩ := scc (n := r12) (by omega)
   refine KS ?_
   refine Oq (Vi sl22 0) ?_
   refine JJ_peek_GTurn v17_16.toNat 0 rfl rng fun hb30 hb31 hb32 hb33 => ?_
   unfold i64ok at hb30 hb31 hb32 hb33
   refine Oq (VldA sh42 0) (Oa (Al ze42 [vi 0, vi 0, vi 0, vi 0, vb false]) fun p34 => Ost (Scl [0] sh42 [vi ((l.getD v17_16.toNat default).Query), vi ((l.getD v17_16.toNat default).Quantum), vi ((l.getD v17_16.toNat default).Steps), vi ((l.getD v17_16.toNat default).Cost), vb ((l.getD v17_16.toNat default).Finished)]) (KS ?_))
   refine Oq (Vfa fo42_0 0) (Oq (VldF sh3 0) (Oq Vm (Oq Veql (Oq Vm ?_))))
   refine Js 26 ?_ ?_
   · intro h35
     have g36 := eq_of_beq h35
     refine Oq (Vfa fo42_1 0) (Oq (VldF sh3 0) (Oq Vgtr (Oq Vpt (Oq Va (KS ?_)))))
     refine Kc ?_ ?_
     · intro h37
       have g38 := of_decide_eq_true h37
       refine KS ?_
       refine Oq Vm (KS ?_)
       refine Kc ?_ ?_
       · intro h39
         refine KS ?_
         refine Oq Vm (Oq Vm (Oq Vmax (Oq Va (KS ?_))))
         refine Oq Va (Oq Va (KS ?_))
         refine Oq Vadd (Oq Vm (KS ?_))
         exact Kg (r29, (max most_13 sum_14), 0, true, (v17_16 + 1)) [2, 3] ⟨(q3 hM17 (by simp only [ledger_greatest_L0, h5, h10, h27, h35, h37, h39, hg3, cs4])), (by omega), (by omega), (by omega), (by omega), (by omega), (by omega), iv1, iv1⟩
       intro h39
       refine KS ?_
       refine Oq Va (Oq Va (KS ?_))
       refine Oq Vadd (Oq Vm (KS ?_))
       exact Kg (r29, most_13, 0, true, (v17_16 + 1)) [2, 3] ⟨(q3 hM17 (by simp only [ledger_greatest_L0, h5, h10, h27, h35, h37, h39, hg3, cs4])), (by omega), (by omega), (by omega), (by omega), (by omega), (by omega), iv1, iv1⟩
     intro h37
     have g42 := of_decide_eq_false h37
     refine KS ?_
     refine Oq (Vfa fo42_0 0) (Oq (VldF sh3 0) (Oq Vm (Oq Vneq (Oq Va (KS ?_)))))
     refine Kc ?_ ?_
     · intro h43
       exact absurd h43 (by first | (simp [h35]; done) | (simp only [bne, h35]; decide) | (simp only [bne, h35, Bool.not_true, Bool.not_false]; decide) | (exfalso; omega) | (intro hq; simp only [bne, hq, Bool.not_false, Bool.not_true, reduceCtorEq] at h35))
     intro h43
     have g44 := eq_of_bne_false h43
     refine KS ?_
     refine Oq Vadd (Oq Vm (KS ?_))
     exact Kg (r29, most_13, sum_14, inside_15, (v17_16 + 1)) [2, 3] ⟨(q3 hM17 (by simp only [ledger_greatest_L0, h5, h10, h27, h35, h37, h43, hg3, cs4])), (by omega), (by omega), (by omega), (by omega), (by omega), (by omega), iv1, iv1⟩
   intro h35
   have g45 := ne_of_beq_false h35
   refine Osk (Osk (Osk (Oq Vpf (Oq Va (KS ?_)))))
   refine Kf ?_
   refine KS ?_
   refine Oq (Vfa fo42_0 0) (Oq (VldF sh3 0) (Oq Vm (Oq Vneq (Oq Va (KS ?_)))))
   refine Kc ?_ ?_
   · intro h46
     have g47 := ne_of_bne h46
     refine KS ?_
     refine Oq Vm (Oq Vm (Oq (VldA sh42 0) ?_))
     refine JO_call [3] rfl rfl rfl (OpC.clo («as» := [(.agg #[vi ((l.getD v17_16.toNat default).Query), vi ((l.getD v17_16.toNat default).Quantum), vi ((l.getD v17_16.toNat default).Steps), vi ((l.getD v17_16.toNat default).Cost), vb ((l.getD v17_16.toNat default).Finished)] : Value)] ++ weightC) rfl rfl hweightc rfl (by simp)) (hweightF (l.getD v17_16.toNat default)  pre pre pre pre) rfl fun _ he48 => ?_
     unfold i64ok at he48
     refine Oq Vadd (Oq Va (KS ?_))
     refine Oq Vadd (Oq Vm (KS ?_))
     exact Kg (r29, most_13, (sum_14 + (weightp (l.getD v17_16.toNat default))), inside_15, (v17_16 + 1)) [2, 3] ⟨(q3 hM17 (by simp only [ledger_greatest_L0, h5, h10, h27, h35, h46, hg3, cs4])), (by omega), (by omega), (by omega), (by omega), (by omega), (by omega), iv1, iv1⟩
   intro h46
   exact absurd h46 (by first | (simp [h35]; done) | (simp only [bne, h35]; decide) | (simp only [bne, h35, Bool.not_true, Bool.not_false]; decide) | (exfalso; omega) | (intro hq; simp only [bne, hq, Bool.not_false, Bool.not_true, reduceCtorEq] at h35))
 intro h27
 have g49 := of_decide_eq_false h27
 obtain rfl : r12 = 0 := by omega
 refine Ke ?_
 have hR50 := q2 hM17 most_13 (by simp only [ledger_greatest_L0, h5, h10, h27, hg3, cs4])
 refine KS ?_
 refine Oq Vm (Oq Va (KS ?_))
 have hq := q4 hrr most_13 (by simp only [ledger_greatest, h5, h10, h27, hg3, hR50, cs4]); subst hq
 exact Kr () rfl (.tmp rfl .nil) [] en
theorem fn31 (x : GTurn) (hx_0 : i64ok x.Query) (hx_1 : i64ok x.Quantum) (hx_2 : i64ok x.Steps) (hx_3 : i64ok x.Cost) (rr : Int) (hrr : ledger_Longest_1 x = rr) : FT Try.prog 31 #[.agg #[vi x.Query, vi x.Quantum, vi x.Steps, vi x.Cost, vb x.Finished]] [] (fun g : Unit => i64ok rr) (fun g => vi rr) (fun g => []) := by
 refine FTi Try.func31 fun w0 M0 F0 => ?_
 unfold i64ok at hx_0 hx_1 hx_2 hx_3
 refine KS ?_
 refine Oa (Ab [vi x.Query, vi x.Quantum, vi x.Steps, vi x.Cost, vb x.Finished]) fun p1 => Oq Va (KS ?_)
 refine Oq (Vfa fo42_3 0) (Oq (VldF sh3 0) (Oq Va (KS ?_)))
 have hq := q4 hrr x.Cost (by simp only [ledger_Longest_1, cs4]); subst hq
 exact Kr () rfl (.tmp rfl .nil) [] en
theorem fn17 (l : List GTurn) (la0 : Option Addr) (lk0 : Nat) (query : Int) (hquery_0 : i64ok query) (rr : Int) (hrr : ledger_Longest l query = rr) : FT Try.prog 17 #[vl la0 lk0 l, vi query] [S la0 lk0 l] (fun g : Unit => i64ok rr) (fun g => vi rr) (fun g => []) := by
 refine FTi Try.func17 fun w0 M0 F0 => ?_
 unfold i64ok at hquery_0
 refine Fb 40 0 fun hl1 => ?_
 refine KS ?_
 refine Oq Va (KS ?_)
 refine Oq Vm (Oq Vm ?_)
 refine JJ_ent (Ent.pall [] rfl rfl) ?_
 refine letv (ledger_greatest l query (fun x0 => ledger_Longest_1 x0)) fun rv2 hg3 => ?_
 have hc4 := fn30 l la0 lk0 query 31 [] (fun x0 => ledger_Longest_1 x0) [] pre ca31 (fun x0 hq0 hq1 hq2 hq3 => FT_pall (A1 := []) (fn31 x0  hq0 hq1 hq2 hq3 _ rfl)) (fun hv x hx => LValid_cost hv x hx) rv2 hg3
 refine Oc [1, 0] ca30 hc4 ?_
 rintro - he5
 unfold i64ok at he5
 refine Oq Va (KS ?_)
 have hq := q4 hrr rv2 (by simp only [ledger_Longest, hg3, cs4]); subst hq
 exact Kr () rfl (.tmp rfl .nil) [] en
theorem fn32 (x : GTurn) (cap0P : Value) (cap0 : Int) (hx_0 : i64ok x.Query) (hx_1 : i64ok x.Quantum) (hx_2 : i64ok x.Steps) (hx_3 : i64ok x.Cost) (hcap0_0 : i64ok cap0) (rr : Int) (hrr : ledger_Between_1 x cap0 = rr) : FT Try.prog 32 #[.agg #[vi x.Query, vi x.Quantum, vi x.Steps, vi x.Cost, vb x.Finished], cap0P] [pv cap0P [vi cap0]] (fun g : Unit => i64ok rr) (fun g => vi rr) (fun g => []) := by
 refine FTi Try.func32 fun w0 M0 F0 => ?_
 unfold i64ok at hx_0 hx_1 hx_2 hx_3 hcap0_0
 refine KS ?_
 refine Oa (Ab [vi x.Query, vi x.Quantum, vi x.Steps, vi x.Cost, vb x.Finished]) fun p1 => Oq Va (KS ?_)
 refine Oq (Vfa fo42_0 0) (Oq (VldF sh3 0) (Oq (Vld sh3 1) (Oq Veql (Oq Vm ?_))))
 refine Js 8 ?_ ?_
 · intro h2
   have g3 := eq_of_beq h2
   refine Oq (Vfa fo42_1 0) (Oq (VldF sh3 0) (Oq Vgtr (Oq Vpt (KS ?_))))
   refine Kc ?_ ?_
   · intro h4
     have g5 := of_decide_eq_true h4
     refine KS ?_
     refine Oq Va (KS ?_)
     have hq := q4 hrr 1 (by simp only [ledger_Between_1, h2, h4, cs4]); subst hq
     exact Kr () rfl (.tmp rfl .nil) [] en
   intro h4
   have g6 := of_decide_eq_false h4
   refine KS ?_
   refine Oq Va (KS ?_)
   have hq := q4 hrr 0 (by simp only [ledger_Between_1, h2, h4, cs4]); subst hq
   exact Kr () rfl (.tmp rfl .nil) [] en
 intro h2
 have g7 := ne_of_beq_false h2
 refine Osk (Osk (Osk (Oq Vpf (KS ?_))))
 refine Kf ?_
 refine KS ?_
 refine Oq Va (KS ?_)
 have hq := q4 hrr 0 (by simp only [ledger_Between_1, h2, cs4]); subst hq
 exact Kr () rfl (.tmp rfl .nil) [] en
theorem fn18 (l : List GTurn) (la0 : Option Addr) (lk0 : Nat) (a : Int) (b : Int) (ha_0 : i64ok a) (hb_0 : i64ok b) (rr : Int) (hrr : ledger_Between l a b = rr) : FT Try.prog 18 #[vl la0 lk0 l, vi a, vi b] [S la0 lk0 l] (fun g : Unit => i64ok rr) (fun g => vi rr) (fun g => []) := by
 refine FTi Try.func18 fun w0 M0 F0 => ?_
 unfold i64ok at ha_0 hb_0
 refine Fb 40 0 fun hl1 => ?_
 refine KS ?_
 refine Oa (Ab [vi b]) fun p2 => Oq Va (KS ?_)
 refine Oq Vm (Oq Vm (Oq (Vf [p2]) ?_))
 refine JJ_ent (Ent.pall [0] rfl rfl) ?_
 refine letv (ledger_greatest l a (fun x0 => ledger_Between_1 x0 b)) fun rv3 hg4 => ?_
 have hc5 := fn30 l la0 lk0 a 32 [p2] (fun x0 => ledger_Between_1 x0 b) [pv p2 [vi b]] pre ca32 (fun x0 hq0 hq1 hq2 hq3 => FT_pall (A1 := []) (fn32 x0 p2 b hq0 hq1 hq2 hq3 pre _ rfl)) (fun _ x _ => Between1_rng x b) rv3 hg4
 refine Oc [2, 0] ca30 hc5 ?_
 rintro - he6
 unfold i64ok at he6
 refine Oq Va (KS ?_)
 have hq := q4 hrr rv3 (by simp only [ledger_Between, hg4, cs4]); subst hq
 exact Kr () rfl (.tmp rfl .nil) [] en
theorem fn7  (rr : Bool) (hrr : flqlaw23_sane = rr) : FT Try.prog 7 #[] [] (fun g : Unit => True) (fun g => vb rr) (fun g => []) := by
 refine FTi Try.func7 fun w0 M0 F0 => ?_
 refine KS ?_
 refine Oq Va (KS ?_)
 refine Oq (Vbd st42 [vi 1, vi 4, vi 2, vi 5, vb false]) (Oq (Vbd st42 [vi 2, vi 4, vi 1, vi 1, vb false]) (Oq (Vbd st42 [vi 1, vi 0, vi 1, vi 1, vb true]) (Oa (AsV sl22 sz22 [.agg #[vi 1, vi 4, vi 2, vi 5, vb false], .agg #[vi 2, vi 4, vi 1, vi 1, vb false], .agg #[vi 1, vi 0, vi 1, vi 1, vb true]] [vi 1, vi 4, vi 2, vi 5, vb false, vi 2, vi 4, vi 1, vi 1, vb false, vi 1, vi 0, vi 1, vi 1, vb true]) fun c1 => ?_)))
 refine Jo 0 ?_; rintro a2 k3 rfl
 refine Oq Va (KS ?_)
 refine Oq (Vbd st42 [vi 1, vi 4, vi 0, vi 0, vb false]) (Oq (Vbd st42 [vi 2, vi 4, vi 1, vi 5, vb false]) (Oq (Vbd st42 [vi 1, vi 4, vi 1, vi 1, vb false]) (Oa (AsV sl22 sz22 [.agg #[vi 1, vi 4, vi 0, vi 0, vb false], .agg #[vi 2, vi 4, vi 1, vi 5, vb false], .agg #[vi 1, vi 4, vi 1, vi 1, vb false]] [vi 1, vi 4, vi 0, vi 0, vb false, vi 2, vi 4, vi 1, vi 5, vb false, vi 1, vi 4, vi 1, vi 1, vb false]) fun c4 => ?_)))
 refine Jo 0 ?_; rintro a5 k6 rfl
 refine Oq Va (KS ?_)
 refine Oq Vm ?_
 refine Jl [1] (Ent.crOs (α := GTurn) (A := []) _ ([(GTurn.mk 1 4 2 5 false), (GTurn.mk 2 4 1 1 false), (GTurn.mk 1 0 1 1 true)] : List GTurn) _ (Nat.le_of_ble_eq_true rfl) (fun h => ⟨[vi 1, vi 4, vi 2, vi 5, vb false], [vi 2, vi 4, vi 1, vi 1, vb false, vi 1, vi 0, vi 1, vi 1, vb true], rfl, (fun h => ⟨rfl, (by unfold i64ok; first | omega | (dsimp only; omega)), (by unfold i64ok; first | omega | (dsimp only; omega)), (by unfold i64ok; first | omega | (dsimp only; omega)), (by unfold i64ok; first | omega | (dsimp only; omega))⟩) h, ⟨[vi 2, vi 4, vi 1, vi 1, vb false], [vi 1, vi 0, vi 1, vi 1, vb true], rfl, (fun h => ⟨rfl, (by unfold i64ok; first | omega | (dsimp only; omega)), (by unfold i64ok; first | omega | (dsimp only; omega)), (by unfold i64ok; first | omega | (dsimp only; omega)), (by unfold i64ok; first | omega | (dsimp only; omega))⟩) h, ⟨[vi 1, vi 0, vi 1, vi 1, vb true], [], rfl, (fun h => ⟨rfl, (by unfold i64ok; first | omega | (dsimp only; omega)), (by unfold i64ok; first | omega | (dsimp only; omega)), (by unfold i64ok; first | omega | (dsimp only; omega)), (by unfold i64ok; first | omega | (dsimp only; omega))⟩) h, rfl⟩⟩⟩)) ?_
 refine Jl [0] (Ent.freeze _ _) ?_
 refine letv (ledger_Accounts [(GTurn.mk 1 4 2 5 false), (GTurn.mk 2 4 1 1 false), (GTurn.mk 1 0 1 1 true)]) fun rv8 hg9 => ?_
 have hc10 := fn12 ([(GTurn.mk 1 4 2 5 false), (GTurn.mk 2 4 1 1 false), (GTurn.mk 1 0 1 1 true)]) a2 k3 (by intro x hx; simp only [List.mem_cons, List.not_mem_nil, or_false] at hx; rcases hx with rfl | rfl | rfl <;> decide) rv8 hg9
 refine Oc [0] ca12 hc10 ?_
 rintro c7 -
 refine Jo 0 ?_; rintro a11 k12 rfl
 refine Fb 32 0 fun hl13 => ?_
 refine Oq (Vbd st36 [vi 1, vi 1, vi 3, vi 6]) (Oq (Vbd st36 [vi 2, vi 1, vi 1, vi 1]) (Oa (AsV sl33 sz33 [.agg #[vi 1, vi 1, vi 3, vi 6], .agg #[vi 2, vi 1, vi 1, vi 1]] [vi 1, vi 1, vi 3, vi 6, vi 2, vi 1, vi 1, vi 1]) fun c14 => ?_))
 refine Jo 0 ?_; rintro a15 k16 rfl
 refine Jl [0] (Ent.crOs (α := GAccount) (A := []) _ ([(GAccount.mk 1 1 3 6), (GAccount.mk 2 1 1 1)] : List GAccount) _ (Nat.le_of_ble_eq_true rfl) (fun h => ⟨[vi 1, vi 1, vi 3, vi 6], [vi 2, vi 1, vi 1, vi 1], rfl, (fun h => ⟨rfl, (by unfold i64ok; first | omega | (dsimp only; omega)), (by unfold i64ok; first | omega | (dsimp only; omega)), (by unfold i64ok; first | omega | (dsimp only; omega)), (by unfold i64ok; first | omega | (dsimp only; omega))⟩) h, ⟨[vi 2, vi 1, vi 1, vi 1], [], rfl, (fun h => ⟨rfl, (by unfold i64ok; first | omega | (dsimp only; omega)), (by unfold i64ok; first | omega | (dsimp only; omega)), (by unfold i64ok; first | omega | (dsimp only; omega)), (by unfold i64ok; first | omega | (dsimp only; omega))⟩) h, rfl⟩⟩)) ?_
 refine Jl [0] (Ent.freeze _ _) ?_
 refine letv (flqlaw23_sameAccounts rv8 [(GAccount.mk 1 1 3 6), (GAccount.mk 2 1 1 1)]) fun rv17 hg18 => ?_
 have hc19 := fn16 rv8 a11 k12 ([(GAccount.mk 1 1 3 6), (GAccount.mk 2 1 1 1)]) a15 k16 rv17 hg18
 refine Oc [1, 0] ca16 hc19 ?_
 rintro - -
 refine Oq Vm ?_
 refine Js 17 ?_ ?_
 · intro h20
   refine Oq Vm ?_
   refine Fl 2 fun hn22 => ?_; try unfold vl; rw [← hn22]
   refine letv (ledger_Longest [(GTurn.mk 1 4 2 5 false), (GTurn.mk 2 4 1 1 false), (GTurn.mk 1 0 1 1 true)] 1) fun rv23 hg24 => ?_
   have hc25 := fn17 ([(GTurn.mk 1 4 2 5 false), (GTurn.mk 2 4 1 1 false), (GTurn.mk 1 0 1 1 true)]) a2 k3 1 pre rv23 hg24
   refine Oc [2] ca17 hc25 ?_
   rintro - he26
   unfold i64ok at he26
   refine Oq Veql (Oq Vpt (Oq Vm ?_))
   refine Js 22 ?_ ?_
   · intro h27
     have g28 := eq_of_beq h27
     refine Oq Vm ?_
     refine Jl [3] (Ent.crOs (α := GTurn) (A := []) _ ([(GTurn.mk 1 4 0 0 false), (GTurn.mk 2 4 1 5 false), (GTurn.mk 1 4 1 1 false)] : List GTurn) _ (Nat.le_of_ble_eq_true rfl) (fun h => ⟨[vi 1, vi 4, vi 0, vi 0, vb false], [vi 2, vi 4, vi 1, vi 5, vb false, vi 1, vi 4, vi 1, vi 1, vb false], rfl, (fun h => ⟨rfl, (by unfold i64ok; first | omega | (dsimp only; omega)), (by unfold i64ok; first | omega | (dsimp only; omega)), (by unfold i64ok; first | omega | (dsimp only; omega)), (by unfold i64ok; first | omega | (dsimp only; omega))⟩) h, ⟨[vi 2, vi 4, vi 1, vi 5, vb false], [vi 1, vi 4, vi 1, vi 1, vb false], rfl, (fun h => ⟨rfl, (by unfold i64ok; first | omega | (dsimp only; omega)), (by unfold i64ok; first | omega | (dsimp only; omega)), (by unfold i64ok; first | omega | (dsimp only; omega)), (by unfold i64ok; first | omega | (dsimp only; omega))⟩) h, ⟨[vi 1, vi 4, vi 1, vi 1, vb false], [], rfl, (fun h => ⟨rfl, (by unfold i64ok; first | omega | (dsimp only; omega)), (by unfold i64ok; first | omega | (dsimp only; omega)), (by unfold i64ok; first | omega | (dsimp only; omega)), (by unfold i64ok; first | omega | (dsimp only; omega))⟩) h, rfl⟩⟩⟩)) ?_
     refine Jl [0] (Ent.freeze _ _) ?_
     refine letv (ledger_Longest [(GTurn.mk 1 4 0 0 false), (GTurn.mk 2 4 1 5 false), (GTurn.mk 1 4 1 1 false)] 1) fun rv29 hg30 => ?_
     have hc31 := fn17 ([(GTurn.mk 1 4 0 0 false), (GTurn.mk 2 4 1 5 false), (GTurn.mk 1 4 1 1 false)]) a5 k6 1 pre rv29 hg30
     refine Oc [0] ca17 hc31 ?_
     rintro - he32
     unfold i64ok at he32
     refine Oq Veql (Oq Vpt (Oq Vm ?_))
     refine Js 27 ?_ ?_
     · intro h33
       have g34 := eq_of_beq h33
       refine Oq Vm ?_
       refine Fl 0 fun hn35 => ?_; try unfold vl; rw [← hn35]
       refine letv (ledger_Between [(GTurn.mk 1 4 0 0 false), (GTurn.mk 2 4 1 5 false), (GTurn.mk 1 4 1 1 false)] 1 2) fun rv36 hg37 => ?_
       have hc38 := fn18 ([(GTurn.mk 1 4 0 0 false), (GTurn.mk 2 4 1 5 false), (GTurn.mk 1 4 1 1 false)]) a5 k6 1 2 pre pre rv36 hg37
       refine Oc [0] ca18 hc38 ?_
       rintro - he39
       unfold i64ok at he39
       refine Oq Veql (Oq Vpt (Oq Va (KS ?_)))
       have hq := q4 hrr (rv36 == 1) (by simp only [flqlaw23_sane, h20, h27, h33, hg9, hg18, hg24, hg30, hg37, cs4]); subst hq
       exact Kr () rfl (.tmp rfl .nil) [] trivial
     intro h33
     have g40 := ne_of_beq_false h33
     refine Osk (Osk (Osk (Oq Vpf (Oq Va (KS ?_)))))
     have hq := q4 hrr false (by simp only [flqlaw23_sane, h20, h27, h33, hg9, hg18, hg24, hg30, cs4]); subst hq
     exact Kr () rfl (.tmp rfl .nil) [] trivial
   intro h27
   have g41 := ne_of_beq_false h27
   refine Osk (Osk (Osk (Oq Vpf (Oq Vm (Osk (Osk (Osk (Oq Vpf (Oq Va ?_)))))))))
   refine KS ?_
   have hq := q4 hrr false (by simp only [flqlaw23_sane, h20, h27, hg9, hg18, hg24, cs4]); subst hq
   exact Kr () rfl (.tmp rfl .nil) [] trivial
 intro h20
 refine Osk (Osk (Osk (Oq Vpf (Oq Vm (Osk (Osk (Osk (Oq Vpf (Oq Vm ?_)))))))))
 refine Osk (Osk (Osk (Oq Vpf (Oq Va (KS ?_)))))
 have hq := q4 hrr false (by simp only [flqlaw23_sane, h20, hg9, hg18, cs4]); subst hq
 exact Kr () rfl (.tmp rfl .nil) [] trivial
theorem fn8 (l : List Int) (la0 : Option Addr) (lk0 : Nat) (rr : Unit) (hrr : flqgen_New l = rr) : FT Try.prog 8 #[vl la0 lk0 l] [S la0 lk0 l] (fun g : Value => True) (fun g => g) (fun g => [Cl g [vl la0 lk0 l, vi 0]]) := by
 refine FTi Try.func8 fun w0 M0 F0 => ?_
 refine Fb 8 0 fun hl1 => ?_
 refine Fo 0 fun ho2 => ?_
 refine KS ?_
 refine Oq Va (KS ?_)
 refine Oq Vm (Oq (Vbd st48 [vl la0 lk0 l, vi 0]) (Oa (AbO [vl la0 lk0 l, vi 0]) fun p3 => Oq Va (KS ?_)))
 have hq := q4 hrr () (by simp only [flqgen_New, cs4]); subst hq
 exact Kr p3 rfl (.tmp rfl .nil) [0] trivial
theorem fn24 (v : Int) (n : Int) (hv_0 : i64ok v) (hn_0 : i64ok n) (hn1 : 1 ≤ n) (rr : Int) (hrr : flqgen_Mod v n = rr) : FT Try.prog 24 #[vi v, vi n] [] (fun g : Unit => i64ok rr ∧ (0 ≤ rr ∧ rr < n)) (fun g => vi rr) (fun g => []) := by
 refine FTi Try.func24 fun w0 M0 F0 => ?_
 unfold i64ok at hv_0 hn_0
 have hm := mod_range v n (by omega)
 refine KS ?_
 refine Oq Va (KS ?_)
 refine Oq Vm (Oq (VcU un3 un56) (Oq Vm (Oq (VcU un3 un56) (Oq (VremU (ofInt_ne n (by omega))) (Oq (VcN un56 un3 (h := (mod_le v n (by omega)))) (Oq Va (KS ?_)))))))
 have hq := q4 hrr (((BitVec.ofInt 64 v) % (BitVec.ofInt 64 n)).toNat : Int) (by simp only [flqgen_Mod, cs4]); subst hq
 exact Kr () rfl (.tmp rfl .nil) [] en
theorem fn11 (tP : Value) (ta : Option Addr) (tk : Nat) (tT : List Int) (tI : Int) (n : Int) (htI : 0 ≤ tI ∧ tI ≤ (tT.length : Int)) (hn_0 : i64ok n) (rr : Int × Int) (hrr : Tape_Next tT tI n = rr) : FT Try.prog 11 #[tP, vi n] [Cl tP [vl ta tk tT, vi tI], S ta tk tT] (fun g : Unit => i64ok rr.1 ∧ (0 ≤ rr.2 ∧ rr.2 ≤ (tT.length : Int)) ∧ (0 ≤ rr.1 ∧ (rr.1 < n ∨ rr.1 = 0))) (fun g => vi rr.1) (fun g => [Cl tP [vl ta tk tT, vi rr.2]]) := by
 refine FTi Try.func11 fun w0 M0 F0 => ?_
 unfold i64ok at hn_0
 refine Fb 8 1 fun hl1 => ?_
 refine Fo 1 fun ho2 => ?_
 refine KS ?_
 refine Oq Va (KS ?_)
 refine Jp 0 fun hp3 => ?_
 refine Kq [0, 1, 3, 7, 15, 31, 63, 7, 135, 391, 903, 1927, 4095, 8191] fmix ?_
 refine Qv [] Vm (Qv [] Vleq ?_)
 refine bool_split (decide (n ≤ 1)) ?_ ?_
 · intro h4
   have g5 := of_decide_eq_true h4
   refine Qb h4 [] Vm (Qs (Qs (Qs (Qs (Qs (Qs (Qs (Qs (Qs ?_)))))))))
   refine Qs (Qv [] Vpt ?_)
   refine Qn ⟨by kernel_rfl, ?_⟩
   refine Kt ?_
   refine KS ?_
   refine Oq Va (KS ?_)
   have hq := q4 hrr (0, tI) (by simp only [Tape_Next, h4, cs4]); subst hq
   exact Kr () rfl (.tmp rfl .nil) [1] en
 intro h4
 have g6 := of_decide_eq_false h4
 refine Qb h4 [] Vm (Qv [] Vm (Qv [0] (Vn 0) (Qv [0] (Vfa fo48_1 0) (Qv [1] (VldF sh3 0) (Qv [] Vm (Qv [0] (Vn 0) (Qv [0] (Vfa fo48_0 0) (Qv [1] (VldF sh26 0) (Qv [] (Vlen sl26) ?_)))))))))
 refine Qv [] Vgeq (Qv [] Vpf ?_)
 refine Qn ⟨by kernel_rfl, ?_⟩
 refine Kc ?_ ?_
 · intro h7
   have g8 := of_decide_eq_true h7
   refine KS ?_
   refine Oq Va (KS ?_)
   have hq := q4 hrr (0, tI) (by simp only [Tape_Next, h4, h7, cs4]); subst hq
   exact Kr () rfl (.tmp rfl .nil) [1] en
 intro h7
 have g9 := of_decide_eq_false h7
 refine KS ?_
 refine Oq Vm (Oq (Vn 1) (Oq (Vfa fo48_1 1) (Oq (VldF sh3 1) (Oq Vadd (Oq (Vn 1) (Oq (Vfa fo48_1 1) (Ost (SclF [1] sh3 [vl ta tk tT, vi (tI + 1)]) (KS ?_))))))))
 refine JK_drawK [0, 1, 3, 7, 0, 16, 48, 112, 240, 511, 1023, 0, 4095, 8191] fmix ?_
 refine Dv [] Vm (Dv [1] (Vn 0) (Dv [1] (Vfa fo48_0 0) (Dv [0] (VldF sh26 0) (Dv [] Vm (Dv [1] (Vn 0) (Dv [1] (Vfa fo48_1 0) (Dv [0] (VldF sh3 0) (Dv [] Vsub (Dv [2] (Vi sl26 0) ?_)))))))))
 have hb10 := ok1 (i := (((tI + 1) - 1) : Int).toNat) ho2 rng
 refine Dv [2] (VldI sh3 0) (Dv [] Vm ?_)
 refine letv (flqgen_Mod (tT.getD (((tI + 1) - 1) : Int).toNat 0) n) fun rv11 hg12 => ?_
 refine Dx [] [] [0] (fun G => vi rv11) [fun G => SP.fact (i64ok rv11 ∧ (0 ≤ rv11 ∧ rv11 < n))] (fun G => xC [] ca24 (fn24 ((tT.getD (((tI + 1) - 1) : Int).toNat 0)) n pre pre pre rv11 hg12)) (Dv [] Va ?_)
 refine Dn ⟨by kernel_rfl, fun G => ?_⟩
 refine Jw2 [(4, vi rv11)] [0, 1, 2] [SP.fact (i64ok rv11 ∧ (0 ≤ rv11 ∧ rv11 < n))] ?_
 refine Jf 3 rfl ?_; rintro ⟨he13, he14⟩
 unfold i64ok at he13
 refine Jk [0, 1] ?_
 have hq := q4 hrr (rv11, (tI + 1)) (by simp only [Tape_Next, h4, h7, hg12, cs4]); subst hq
 exact Kr () rfl (.tmp rfl .nil) [0] en
theorem fn10 (kP : Value) (ka : Option Addr) (kk : Nat) (kT : List Int) (kI : Int) (hkI : 0 ≤ kI ∧ kI ≤ (kT.length : Int)) (rr : List GTurn × Int) (hrr : flqlaw23_log kT kI = rr) : FT Try.prog 10 #[kP] [Cl kP [vl ka kk kT, vi kI], S ka kk kT] (fun g : Value => (0 ≤ rr.2 ∧ rr.2 ≤ (kT.length : Int)) ∧ (rr.1.length ≤ 13)) (fun g => g) (fun g => [sl g rr.1, Cl kP [vl ka kk kT, vi rr.2]]) := by
 refine FTi Try.func10 fun w0 M0 F0 => ?_
 refine Fb 8 1 fun hl1 => ?_
 refine Fo 1 fun ho2 => ?_
 refine KS ?_
 refine Oq Va (KS ?_)
 refine Oq Va (KS ?_)
 refine Oq Vm ?_
 refine letv (Tape_Next kT kI 14) fun rv3 hg4 => ?_
 have hc5 := fn11 kP ka kk kT kI 14 pre pre rv3 hg4
 refine Oc [0, 0] ca11 hc5 ?_
 rintro - ⟨he6, he7, he8⟩
 unfold i64ok at he6
 skip
 refine Oq Va (KS ?_)
 refine Jl [] (Ent.osNil (α := GTurn)) ?_
 refine Kl (γ := Nat × Int × List GTurn × Int × Option Addr × Nat) (fun (r9, ti_10, l_11, i_12, a13, k14) => ⟨[(0, kP), (3, vl a13 k14 l_11), (4, vi i_12)], [O a13 k14 l_11, Cl kP [vl ka kk kT, vi ti_10], S ka kk kT], flqlaw23_log_L0 kT r9 ti_10 l_11 i_12 = flqlaw23_log_L0 kT (rv3.1.toNat) rv3.2 [] rv3.1 ∧ r9 = i_12.toNat ∧ i_12 ≤ (rv3.1 : Int) ∧ (-9223372036854775808 ≤ ti_10 ∧ ti_10 ≤ 9223372036854775807) ∧ (0 ≤ ti_10 ∧ ti_10 ≤ (kT.length : Int)) ∧ (-9223372036854775808 ≤ i_12 ∧ i_12 ≤ 9223372036854775807) ∧ ((l_11.length : Int) + i_12 ≤ 13 ∧ 0 ≤ i_12), r9⟩) (rv3.1.toNat, rv3.2, [], rv3.1, none, 0) [0, 0, 0] ⟨rfl, rfl, (by omega), (by omega), (by omega), (by omega), iv0⟩ ?_
 rintro ⟨r9, ti_10, l_11, i_12, a13, k14⟩ ⟨hM15, hr16, hi17, hk18, ht19, hk20, hv21⟩
 refine JJ_nx fun _ _ hL hA => ?_; dsimp only at hL hA; subst hL hA
 refine Fb 40 0 fun hl22 => ?_
 refine Fb 8 2 fun hl23 => ?_
 refine Fo 2 fun ho24 => ?_
 refine KS ?_
 refine Oq Vm (Oq Vgtr (KS ?_))
 refine Kc ?_ ?_
 · intro h25
   have g26 := of_decide_eq_true h25
   obtain ⟨r27, rfl⟩ := scc (n := r9) (by omega)
   refine KS ?_
   refine Oq Vm ?_
   refine letv (Tape_Next kT ti_10 5) fun rv28 hg29 => ?_
   have hc30 := fn11 kP ka kk kT ti_10 5 pre pre rv28 hg29
   refine Oc [1, 1] ca11 hc30 ?_
   rintro - ⟨he31, he32, he33⟩
   unfold i64ok at he31
   skip
   refine Oq Va (KS ?_)
   refine Oq Vm ?_
   refine letv (Tape_Next kT rv28.2 4) fun rv34 hg35 => ?_
   have hc36 := fn11 kP ka kk kT rv28.2 4 pre pre rv34 hg35
   refine Oc [0, 1] ca11 hc36 ?_
   rintro - ⟨he37, he38, he39⟩
   unfold i64ok at he37
   skip
   refine Oq Vm ?_
   refine letv (Tape_Next kT rv34.2 3) fun rv40 hg41 => ?_
   have hc42 := fn11 kP ka kk kT rv34.2 3 pre pre rv40 hg41
   refine Oc [0, 1] ca11 hc42 ?_
   rintro - ⟨he43, he44, he45⟩
   unfold i64ok at he43
   skip
   refine Oq Vm ?_
   refine letv (Tape_Next kT rv40.2 30) fun rv46 hg47 => ?_
   have hc48 := fn11 kP ka kk kT rv40.2 30 pre pre rv46 hg47
   refine Oc [0, 1] ca11 hc48 ?_
   rintro - ⟨he49, he50, he51⟩
   unfold i64ok at he49
   have hmq := mul_c (a := rv40.1) (b := rv46.1) (by omega) (by omega)
   refine Oq (Vmul (h := (by first | (unfold i64ok; omega) | exact mul_b (by omega) (by omega)))) (Oq Vm (Oq Vm (Oq Vm (Oq Vm ?_))))
   refine Oq (Vmul (h := (by first | (unfold i64ok; omega) | exact mul_b (by omega) (by omega)))) (Oq Vadd ?_)
   refine letv (Tape_Next kT rv46.2 ((7 * rv28.1) + 1)) fun rv52 hg53 => ?_
   have hc54 := fn11 kP ka kk kT rv46.2 (((7 * rv28.1) + 1)) pre pre rv52 hg53
   refine Oc [0, 1] ca11 hc54 ?_
   rintro - ⟨he55, he56, he57⟩
   unfold i64ok at he55
   skip
   refine Oq Vadd (Oq Vm ?_)
   refine letv (Tape_Next kT rv52.2 9) fun rv58 hg59 => ?_
   have hc60 := fn11 kP ka kk kT rv52.2 9 pre pre rv58 hg59
   refine Oc [0, 1] ca11 hc60 ?_
   rintro - ⟨he61, he62, he63⟩
   unfold i64ok at he61
   skip
   refine Oq Veql (Oq (Vbd st42 [vi rv34.1, vi (rv40.1 * rv46.1), vi rv28.1, vi (rv28.1 + rv52.1), vb (rv58.1 == 8)]) (Oa (Al ze42 [vi 0, vi 0, vi 0, vi 0, vb false]) fun p64 => Ost (Scl [0] sh42 [vi rv34.1, vi (rv40.1 * rv46.1), vi rv28.1, vi (rv28.1 + rv52.1), vb (rv58.1 == 8)]) (KS ?_)))
   refine Oq Vm ?_
   refine letv (Tape_Next kT rv58.2 40) fun rv65 hg66 => ?_
   have hc67 := fn11 kP ka kk kT rv58.2 40 pre pre rv65 hg66
   refine Oc [1, 2] ca11 hc67 ?_
   rintro - ⟨he68, he69, he70⟩
   unfold i64ok at he68
   skip
   refine KS ?_
   refine Oq Veql (Oq Va (KS ?_))
   refine Kc ?_ ?_
   · intro h71
     have g72 := eq_of_beq h71
     refine KS ?_
     refine Oq Vm (Oq Vmul (Oq Vadd (Oq (Vfa fo42_3 1) (Ost (SclF [1] sh3 [vi rv34.1, vi (rv40.1 * rv46.1), vi rv28.1, vi ((9 * rv28.1) + 1), vb (rv58.1 == 8)]) (KS ?_)))))
     refine Oq Vm (Oq (VldA sh42 0) (Oa (AsV sl22 sz22 [.agg #[vi rv34.1, vi (rv40.1 * rv46.1), vi rv28.1, vi ((9 * rv28.1) + 1), vb (rv58.1 == 8)]] [vi rv34.1, vi (rv40.1 * rv46.1), vi rv28.1, vi ((9 * rv28.1) + 1), vb (rv58.1 == 8)]) fun c73 => ?_))
     refine Jo 0 ?_; rintro a74 k75 rfl
     refine Jl [0] (Ent.cr1 (α := GTurn) (A := []) _ (GTurn.mk rv34.1 (rv40.1 * rv46.1) rv28.1 ((9 * rv28.1) + 1) (rv58.1 == 8)) _ (Nat.le_of_ble_eq_true rfl) (fun h => ⟨rfl, (by unfold i64ok; first | omega | (dsimp only; omega)), (by unfold i64ok; first | omega | (dsimp only; omega)), (by unfold i64ok; first | omega | (dsimp only; omega)), (by unfold i64ok; first | omega | (dsimp only; omega))⟩)) ?_
     refine Oa (ApO [3, 0] sl22 sl22 sz22) fun c76 => ?_
     refine Jo 0 ?_; rintro a77 k78 rfl
     refine Fb 40 0 fun hl79 => ?_
     have hn80 := la l_11 ([(GTurn.mk rv34.1 (rv40.1 * rv46.1) rv28.1 ((9 * rv28.1) + 1) (rv58.1 == 8))] : List GTurn)
     refine Oq Va (KS ?_)
     refine Oq Vm (Oq Vsub (Oq Va (KS ?_)))
     exact Kg (r27, rv65.2, (l_11 ++ [(GTurn.mk rv34.1 (rv40.1 * rv46.1) rv28.1 ((9 * rv28.1) + 1) (rv58.1 == 8))]), (i_12 - 1), a77, k78) [0, 1, 1] ⟨(q3 hM15 (by simp only [flqlaw23_log_L0, h25, h71, hg4, hg29, hg35, hg41, hg47, hg53, hg59, hg66, cs4])), (by omega), (by omega), (by omega), (by omega), (by omega), iv1⟩
   intro h71
   have g81 := ne_of_beq_false h71
   refine KS ?_
   refine Oq Veql (Oq Va (KS ?_))
   refine Kc ?_ ?_
   · intro h82
     have g83 := eq_of_beq h82
     refine KS ?_
     refine Oq (Vfa fo42_2 1) (Ost (SclF [1] sh3 [vi rv34.1, vi (rv40.1 * rv46.1), vi (-1), vi (rv28.1 + rv52.1), vb (rv58.1 == 8)]) (KS ?_))
     refine Oq Vm (Oq (VldA sh42 0) (Oa (AsV sl22 sz22 [.agg #[vi rv34.1, vi (rv40.1 * rv46.1), vi (-1), vi (rv28.1 + rv52.1), vb (rv58.1 == 8)]] [vi rv34.1, vi (rv40.1 * rv46.1), vi (-1), vi (rv28.1 + rv52.1), vb (rv58.1 == 8)]) fun c84 => ?_))
     refine Jo 0 ?_; rintro a85 k86 rfl
     refine Jl [0] (Ent.cr1 (α := GTurn) (A := []) _ (GTurn.mk rv34.1 (rv40.1 * rv46.1) (-1) (rv28.1 + rv52.1) (rv58.1 == 8)) _ (Nat.le_of_ble_eq_true rfl) (fun h => ⟨rfl, (by unfold i64ok; first | omega | (dsimp only; omega)), (by unfold i64ok; first | omega | (dsimp only; omega)), (by unfold i64ok; first | omega | (dsimp only; omega)), (by unfold i64ok; first | omega | (dsimp only; omega))⟩)) ?_
     refine Oa (ApO [3, 0] sl22 sl22 sz22) fun c87 => ?_
     refine Jo 0 ?_; rintro a88 k89 rfl
     refine Fb 40 0 fun hl90 => ?_
     have hn91 := la l_11 ([(GTurn.mk rv34.1 (rv40.1 * rv46.1) (-1) (rv28.1 + rv52.1) (rv58.1 == 8))] : List GTurn)
     refine Oq Va (KS ?_)
     refine Oq Vm (Oq Vsub (Oq Va (KS ?_)))
     exact Kg (r27, rv65.2, (l_11 ++ [(GTurn.mk rv34.1 (rv40.1 * rv46.1) (-1) (rv28.1 + rv52.1) (rv58.1 == 8))]), (i_12 - 1), a88, k89) [0, 1, 1] ⟨(q3 hM15 (by simp only [flqlaw23_log_L0, h25, h71, h82, hg4, hg29, hg35, hg41, hg47, hg53, hg59, hg66, cs4])), (by omega), (by omega), (by omega), (by omega), (by omega), iv1⟩
   intro h82
   have g92 := ne_of_beq_false h82
   refine KS ?_
   refine Oq Veql (Oq Va (KS ?_))
   refine Kc ?_ ?_
   · intro h93
     have g94 := eq_of_beq h93
     refine KS ?_
     refine Oq (Vfa fo42_1 1) (Ost (SclF [1] sh3 [vi rv34.1, vi 65, vi rv28.1, vi (rv28.1 + rv52.1), vb (rv58.1 == 8)]) (KS ?_))
     refine Oq Vm (Oq (VldA sh42 0) (Oa (AsV sl22 sz22 [.agg #[vi rv34.1, vi 65, vi rv28.1, vi (rv28.1 + rv52.1), vb (rv58.1 == 8)]] [vi rv34.1, vi 65, vi rv28.1, vi (rv28.1 + rv52.1), vb (rv58.1 == 8)]) fun c95 => ?_))
     refine Jo 0 ?_; rintro a96 k97 rfl
     refine Jl [0] (Ent.cr1 (α := GTurn) (A := []) _ (GTurn.mk rv34.1 65 rv28.1 (rv28.1 + rv52.1) (rv58.1 == 8)) _ (Nat.le_of_ble_eq_true rfl) (fun h => ⟨rfl, (by unfold i64ok; first | omega | (dsimp only; omega)), (by unfold i64ok; first | omega | (dsimp only; omega)), (by unfold i64ok; first | omega | (dsimp only; omega)), (by unfold i64ok; first | omega | (dsimp only; omega))⟩)) ?_
     refine Oa (ApO [3, 0] sl22 sl22 sz22) fun c98 => ?_
     refine Jo 0 ?_; rintro a99 k100 rfl
     refine Fb 40 0 fun hl101 => ?_
     have hn102 := la l_11 ([(GTurn.mk rv34.1 65 rv28.1 (rv28.1 + rv52.1) (rv58.1 == 8))] : List GTurn)
     refine Oq Va (KS ?_)
     refine Oq Vm (Oq Vsub (Oq Va (KS ?_)))
     exact Kg (r27, rv65.2, (l_11 ++ [(GTurn.mk rv34.1 65 rv28.1 (rv28.1 + rv52.1) (rv58.1 == 8))]), (i_12 - 1), a99, k100) [0, 1, 1] ⟨(q3 hM15 (by simp only [flqlaw23_log_L0, h25, h71, h82, h93, hg4, hg29, hg35, hg41, hg47, hg53, hg59, hg66, cs4])), (by omega), (by omega), (by omega), (by omega), (by omega), iv1⟩
   intro h93
   have g103 := ne_of_beq_false h93
   refine KS ?_
   refine Oq Veql (Oq Va (KS ?_))
   refine Kc ?_ ?_
   · intro h104
     have g105 := eq_of_beq h104
     refine KS ?_
     refine Oq (Vfa fo42_2 1) (Ost (SclF [1] sh3 [vi rv34.1, vi (rv40.1 * rv46.1), vi 1073741824, vi (rv28.1 + rv52.1), vb (rv58.1 == 8)]) (Oq (Vfa fo42_3 0) (Ost (SclF [0] sh3 [vi rv34.1, vi (rv40.1 * rv46.1), vi 1073741824, vi 1073741824, vb (rv58.1 == 8)]) (KS ?_))))
     refine Oq Vm (Oq (VldA sh42 0) (Oa (AsV sl22 sz22 [.agg #[vi rv34.1, vi (rv40.1 * rv46.1), vi 1073741824, vi 1073741824, vb (rv58.1 == 8)]] [vi rv34.1, vi (rv40.1 * rv46.1), vi 1073741824, vi 1073741824, vb (rv58.1 == 8)]) fun c106 => ?_))
     refine Jo 0 ?_; rintro a107 k108 rfl
     refine Jl [0] (Ent.cr1 (α := GTurn) (A := []) _ (GTurn.mk rv34.1 (rv40.1 * rv46.1) 1073741824 1073741824 (rv58.1 == 8)) _ (Nat.le_of_ble_eq_true rfl) (fun h => ⟨rfl, (by unfold i64ok; first | omega | (dsimp only; omega)), (by unfold i64ok; first | omega | (dsimp only; omega)), (by unfold i64ok; first | omega | (dsimp only; omega)), (by unfold i64ok; first | omega | (dsimp only; omega))⟩)) ?_
     refine Oa (ApO [3, 0] sl22 sl22 sz22) fun c109 => ?_
     refine Jo 0 ?_; rintro a110 k111 rfl
     refine Fb 40 0 fun hl112 => ?_
     have hn113 := la l_11 ([(GTurn.mk rv34.1 (rv40.1 * rv46.1) 1073741824 1073741824 (rv58.1 == 8))] : List GTurn)
     refine Oq Va (KS ?_)
     refine Oq Vm (Oq Vsub (Oq Va (KS ?_)))
     exact Kg (r27, rv65.2, (l_11 ++ [(GTurn.mk rv34.1 (rv40.1 * rv46.1) 1073741824 1073741824 (rv58.1 == 8))]), (i_12 - 1), a110, k111) [0, 1, 1] ⟨(q3 hM15 (by simp only [flqlaw23_log_L0, h25, h71, h82, h93, h104, hg4, hg29, hg35, hg41, hg47, hg53, hg59, hg66, cs4])), (by omega), (by omega), (by omega), (by omega), (by omega), iv1⟩
   intro h104
   have g114 := ne_of_beq_false h104
   refine KS ?_
   refine Oq Vm (Oq (VldA sh42 1) (Oa (AsV sl22 sz22 [.agg #[vi rv34.1, vi (rv40.1 * rv46.1), vi rv28.1, vi (rv28.1 + rv52.1), vb (rv58.1 == 8)]] [vi rv34.1, vi (rv40.1 * rv46.1), vi rv28.1, vi (rv28.1 + rv52.1), vb (rv58.1 == 8)]) fun c115 => ?_))
   refine Jo 0 ?_; rintro a116 k117 rfl
   refine Jl [0] (Ent.cr1 (α := GTurn) (A := []) _ (GTurn.mk rv34.1 (rv40.1 * rv46.1) rv28.1 (rv28.1 + rv52.1) (rv58.1 == 8)) _ (Nat.le_of_ble_eq_true rfl) (fun h => ⟨rfl, (by unfold i64ok; first | omega | (dsimp only; omega)), (by unfold i64ok; first | omega | (dsimp only; omega)), (by unfold i64ok; first | omega | (dsimp only; omega)), (by unfold i64ok; first | omega | (dsimp only; omega))⟩)) ?_
   refine Oa (ApO [3, 0] sl22 sl22 sz22) fun c118 => ?_
   refine Jo 0 ?_; rintro a119 k120 rfl
   refine Fb 40 0 fun hl121 => ?_
   have hn122 := la l_11 ([(GTurn.mk rv34.1 (rv40.1 * rv46.1) rv28.1 (rv28.1 + rv52.1) (rv58.1 == 8))] : List GTurn)
   refine Oq Va (KS ?_)
   refine Oq Vm (Oq Vsub (Oq Va (KS ?_)))
   exact Kg (r27, rv65.2, (l_11 ++ [(GTurn.mk rv34.1 (rv40.1 * rv46.1) rv28.1 (rv28.1 + rv52.1) (rv58.1 == 8))]), (i_12 - 1), a119, k120) [0, 0, 1] ⟨(q3 hM15 (by simp only [flqlaw23_log_L0, h25, h71, h82, h93, h104, hg4, hg29, hg35, hg41, hg47, hg53, hg59, hg66, cs4])), (by omega), (by omega), (by omega), (by omega), (by omega), iv1⟩
 intro h25
 have g123 := of_decide_eq_false h25
 obtain rfl : r9 = 0 := by omega
 refine Ke ?_
 have hR124 := q2 hM15 (ti_10, l_11) (by simp only [flqlaw23_log_L0, h25, hg4, cs4])
 refine KS ?_
 refine Oq Vm (Oq Va (KS ?_))
 refine Jl [0] (Ent.freeze _ _) ?_
 have hq := q4 hrr (l_11, ti_10) (by simp only [flqlaw23_log, h25, hg4, hR124, cs4]); subst hq
 exact Kr (vl a13 k14 l_11) rfl (.tmp rfl .nil) [0, 1] en
theorem fn13 (l : List GTurn) (la0 : Option Addr) (lk0 : Nat) (rr : GAccount) (hrr : ledger_Total l = rr) : FT Try.prog 13 #[vl la0 lk0 l] [S la0 lk0 l] (fun g : Unit => i64ok rr.Query ∧ i64ok rr.Turns ∧ i64ok rr.Steps ∧ i64ok rr.Cost) (fun g => .agg #[vi rr.Query, vi rr.Turns, vi rr.Steps, vi rr.Cost]) (fun g => []) := by
 refine FTi Try.func13 fun w0 M0 F0 => ?_
 refine Fb 40 0 fun hl1 => ?_
 refine KS ?_
 refine Oa (Al ze36 [vi 0, vi 0, vi 0, vi 0]) fun p2 => KS ?_
 refine Oa (Al ze36 [vi 0, vi 0, vi 0, vi 0]) fun p3 => KS ?_
 refine Oq Vm ?_
 refine letv (ledger_Valid l) fun rv4 hg5 => ?_
 have hc6 := fn6 l la0 lk0 rv4 hg5
 refine Oc [2] ca6 hc6 ?_
 rintro - -
 refine KS ?_
 refine Kc ?_ ?_
 · intro h7
   try have hvl := LValid_len (l := l) (by simp only [h7, hg5])
   refine KS ?_
   refine Oq Vm (Oq (Vlen sl22) (Oq Vm (KS ?_)))
   refine Kl (γ := Nat × Int × Int × Int × Int × Int) (fun (r9, out0_10, out1_11, out2_12, out3_13, v10_14) => ⟨[(2, p2), (3, p3), (8, vl la0 lk0 l), (9, vi (l.length : Int)), (10, vi v10_14)], [Cl p3 [vi out0_10, vi out1_11, vi out2_12, vi out3_13], Cl p2 [vi 0, vi 0, vi 0, vi 0], S la0 lk0 l], ledger_Total_L0 l r9 out0_10 out1_11 out2_12 out3_13 v10_14 = ledger_Total_L0 l (((l.length : Int) - 0).toNat) 0 0 0 0 0 ∧ r9 = ((l.length : Int) - v10_14).toNat ∧ (0 : Int) ≤ v10_14 ∧ v10_14 ≤ (l.length : Int) ∧ (-9223372036854775808 ≤ out0_10 ∧ out0_10 ≤ 9223372036854775807) ∧ (-9223372036854775808 ≤ out1_11 ∧ out1_11 ≤ 9223372036854775807) ∧ (-9223372036854775808 ≤ out2_12 ∧ out2_12 ≤ 9223372036854775807) ∧ (-9223372036854775808 ≤ out3_13 ∧ out3_13 ≤ 9223372036854775807) ∧ (-9223372036854775808 ≤ v10_14 ∧ v10_14 ≤ 9223372036854775807) ∧ (0 ≤ out1_11 ∧ out1_11 ≤ v10_14), r9⟩) (((l.length : Int) - 0).toNat, 0, 0, 0, 0, 0) [0, 0, 0] ⟨rfl, rfl, (by omega), (by omega), (by omega), (by omega), (by omega), (by omega), (by omega), iv0⟩ ?_
   rintro ⟨r9, out0_10, out1_11, out2_12, out3_13, v10_14⟩ ⟨hM15, hr16, hi17, hi18, hk19, hk20, hk21, hk22, hk23, hv24⟩
   refine JJ_nx fun _ _ hL hA => ?_; dsimp only at hL hA; subst hL hA
   refine Fb 40 2 fun hl25 => ?_
   refine KS ?_
   refine Oq Vlss (KS ?_)
   refine Kc ?_ ?_
   · intro h26
     have g27 := of_decide_eq_true h26
     obtain ⟨r28, rfl⟩ := scc (n := r9) (by omega)
     refine KS ?_
     refine Oq (Vi sl22 2) ?_
     refine JJ_peek_GTurn v10_14.toNat 2 rfl rng fun hb29 hb30 hb31 hb32 => ?_
     unfold i64ok at hb29 hb30 hb31 hb32
     refine Oq (VldA sh42 0) (Oa (Al ze42 [vi 0, vi 0, vi 0, vi 0, vb false]) fun p33 => Ost (Scl [0] sh42 [vi ((l.getD v10_14.toNat default).Query), vi ((l.getD v10_14.toNat default).Quantum), vi ((l.getD v10_14.toNat default).Steps), vi ((l.getD v10_14.toNat default).Cost), vb ((l.getD v10_14.toNat default).Finished)]) (KS ?_))
     refine Oq (VldA sh36 2) (Oq (VldA sh42 0) ?_)
     refine letv (ledger_add (GAccount.mk out0_10 out1_11 out2_12 out3_13) (l.getD v10_14.toNat default)) fun rv34 hg35 => ?_
     have hc36 := fn25 ((GAccount.mk out0_10 out1_11 out2_12 out3_13)) ((l.getD v10_14.toNat default)) pre pre pre pre pre pre pre pre pre rv34 hg35
     refine Oc [] ca25 hc36 ?_
     rintro - ⟨he37, he38, he39, he40, he41⟩
     unfold i64ok at he37 he38 he39 he40
     have he41 : (rv34.Query = out0_10 ∧ 0 ≤ rv34.Turns ∧ rv34.Turns ≤ out1_11 + 1 ∧ 0 ≤ rv34.Steps ∧ rv34.Steps ≤ 1073741824 ∧ 0 ≤ rv34.Cost ∧ rv34.Cost ≤ 1073741824) := he41
     refine Ost (Scl [2] sh36 [vi rv34.Query, vi rv34.Turns, vi rv34.Steps, vi rv34.Cost]) (KS ?_)
     refine Oq Vadd (Oq Vm (KS ?_))
     exact Kg (r28, rv34.Query, rv34.Turns, rv34.Steps, rv34.Cost, (v10_14 + 1)) [0, 2, 2] ⟨(q3 hM15 (by simp only [ledger_Total_L0, h7, h26, hg5, hg35, cs4])), (by omega), (by omega), (by omega), (by omega), (by omega), (by omega), (by omega), (by omega), iv1⟩
   intro h26
   have g42 := of_decide_eq_false h26
   obtain rfl : r9 = 0 := by omega
   refine Ke ?_
   have hR43 := q2 hM15 (out0_10, out1_11, out2_12, out3_13) (by simp only [ledger_Total_L0, h7, h26, hg5, cs4])
   refine KS ?_
   refine Oq (VldA sh36 0) (Ost (Scl [1] sh36 [vi out0_10, vi out1_11, vi out2_12, vi out3_13]) (KS ?_))
   have hq := q4 hrr (GAccount.mk out0_10 out1_11 out2_12 out3_13) (by simp only [ledger_Total, h7, h26, hg5, hR43, cs4]); subst hq
   exact Kr () rfl (.cellN 0 rfl sh36 rfl (reads_Cl _ _) rfl .nil) [] en
 intro h7
 refine KS ?_
 refine Oq (VldA sh36 0) (Ost (Scl [1] sh36 [vi 0, vi 0, vi 0, vi 0]) (KS ?_))
 have hq := q4 hrr (GAccount.mk 0 0 0 0) (by simp only [ledger_Total, h7, hg5, cs4]); subst hq
 exact Kr () rfl (.cellN 0 rfl sh36 rfl (reads_Cl _ _) rfl .nil) [] en
theorem fn29 (a : Int) (ha_0 : i64ok a) (rr : Int) (hrr : flqref1_Clamp a = rr) : FT Try.prog 29 #[vi a] [] (fun g : Unit => i64ok rr ∧ (0 ≤ rr ∧ rr ≤ 1073741824)) (fun g => vi rr) (fun g => []) := by
 refine FTi Try.func29 fun w0 M0 F0 => ?_
 unfold i64ok at ha_0
 refine KS ?_
 refine Oq Va (KS ?_)
 refine Oq Vm (Oq Vmin (Oq Vmax (Oq Va (KS ?_))))
 have hq := q4 hrr (max 0 (min a 1073741824)) (by simp only [flqref1_Clamp, cs4]); subst hq
 exact Kr () rfl (.tmp rfl .nil) [] en
theorem fn14 (a : Int) (b : Int) (ha_0 : i64ok a) (hb_0 : i64ok b) (rr : Int) (hrr : flqref1_Add a b = rr) : FT Try.prog 14 #[vi a, vi b] [] (fun g : Unit => i64ok rr ∧ (0 ≤ rr ∧ rr ≤ 1073741824)) (fun g => vi rr) (fun g => []) := by
 refine FTi Try.func14 fun w0 M0 F0 => ?_
 unfold i64ok at ha_0 hb_0
 refine KS ?_
 refine Oq Va (KS ?_)
 refine Oq Vm ?_
 refine letv (flqref1_Clamp a) fun rv1 hg2 => ?_
 have hc3 := fn29 a pre rv1 hg2
 refine Oc [] ca29 hc3 ?_
 rintro - ⟨he4, he5⟩
 unfold i64ok at he4
 refine Oq Vm ?_
 refine letv (flqref1_Clamp b) fun rv6 hg7 => ?_
 have hc8 := fn29 b pre rv6 hg7
 refine Oc [] ca29 hc8 ?_
 rintro - ⟨he9, he10⟩
 unfold i64ok at he9
 refine Oq Vadd ?_
 refine letv (flqref1_Clamp (rv1 + rv6)) fun rv11 hg12 => ?_
 have hc13 := fn29 ((rv1 + rv6)) pre rv11 hg12
 refine Oc [] ca29 hc13 ?_
 rintro - ⟨he14, he15⟩
 unfold i64ok at he14
 refine Oq Va (KS ?_)
 have hq := q4 hrr rv11 (by simp only [flqref1_Add, hg2, hg7, hg12, cs4]); subst hq
 exact Kr () rfl (.tmp rfl .nil) [] en
theorem fn5 (t : List Int) (ta0 : Option Addr) (tk0 : Nat) (rr : Bool) (hrr : flqlaw23_LedgerSums t = rr) : FT Try.prog 5 #[vl ta0 tk0 t] [S ta0 tk0 t] (fun g : Unit => True) (fun g => vb rr) (fun g => []) := by
 refine FTi Try.func5 fun w0 M0 F0 => ?_
 refine Fb 8 0 fun hl1 => ?_
 refine Fo 0 fun ho2 => ?_
 refine KS ?_
 refine Oq Va (KS ?_)
 refine Oq Vm ?_
 refine letv (flqgen_New t) fun rv4 hg5 => ?_
 have hc6 := fn8 t ta0 tk0 rv4 hg5
 refine Oc [0] ca8 hc6 ?_
 rintro c3 -
 refine letv (flqlaw23_log t 0) fun rv8 hg9 => ?_
 have hc10 := fn10 c3 ta0 tk0 t 0 pre rv8 hg9
 refine Oc [0, 0] ca10 hc10 ?_
 rintro c7 ⟨he11, he12⟩
 refine Jo 0 ?_; rintro a13 k14 rfl
 refine Fb 40 0 fun hl15 => ?_
 refine Oq Va (KS ?_)
 refine Oq Vm ?_
 refine letv (ledger_Accounts rv8.1) fun rv17 hg18 => ?_
 have hc19 := fn12 rv8.1 a13 k14 (log_q (by assumption)) rv17 hg18
 refine Oc [0] ca12 hc19 ?_
 rintro c16 -
 refine Jo 0 ?_; rintro a20 k21 rfl
 refine Fb 32 0 fun hl22 => ?_
 have hab := Accounts_b (log_q (by assumption)) (by assumption : ledger_Accounts rv8.1 = rv17)
 have hal := hab.2
 refine Oq Vm ?_
 refine letv (ledger_Total rv8.1) fun rv23 hg24 => ?_
 have hc25 := fn13 rv8.1 a13 k14 rv23 hg24
 refine Oc [1] ca13 hc25 ?_
 rintro - ⟨he26, he27, he28, he29⟩
 unfold i64ok at he26 he27 he28 he29
 refine Oa (Al ze36 [vi 0, vi 0, vi 0, vi 0]) fun p30 => Oq Va (Ost (Scl [0] sh36 [vi rv23.Query, vi rv23.Turns, vi rv23.Steps, vi rv23.Cost]) (KS ?_))
 refine Oa (Al ze36 [vi 0, vi 0, vi 0, vi 0]) fun p31 => KS ?_
 refine Oq Va (KS ?_)
 refine Kl (γ := Nat × Int × Int × Int × Int) (fun (r32, all1_33, all2_34, all3_35, i_36) => ⟨[(5, p30), (4, vl a20 k21 rv17), (6, p31), (7, vi i_36)], [Cl p31 [vi 0, vi all1_33, vi all2_34, vi all3_35], Cl p30 [vi rv23.Query, vi rv23.Turns, vi rv23.Steps, vi rv23.Cost], S a20 k21 rv17], flqlaw23_LedgerSums_L0 rv17 r32 all1_33 all2_34 all3_35 i_36 = flqlaw23_LedgerSums_L0 rv17 (((rv17.length : Int) - 0).toNat) 0 0 0 0 ∧ r32 = ((rv17.length : Int) - i_36).toNat ∧ (0 : Int) ≤ i_36 ∧ i_36 ≤ (rv17.length : Int) ∧ (-9223372036854775808 ≤ all1_33 ∧ all1_33 ≤ 9223372036854775807) ∧ (-9223372036854775808 ≤ all2_34 ∧ all2_34 ≤ 9223372036854775807) ∧ (-9223372036854775808 ≤ all3_35 ∧ all3_35 ≤ 9223372036854775807) ∧ (-9223372036854775808 ≤ i_36 ∧ i_36 ≤ 9223372036854775807) ∧ (0 ≤ all1_33 ∧ all1_33 ≤ 4096 * i_36), r32⟩) (((rv17.length : Int) - 0).toNat, 0, 0, 0, 0) [0, 0, 0] ⟨rfl, rfl, (by omega), (by omega), (by omega), (by omega), (by omega), (by omega), iv0⟩ ?_
 rintro ⟨r32, all1_33, all2_34, all3_35, i_36⟩ ⟨hM37, hr38, hi39, hi40, hk41, hk42, hk43, hk44, hv45⟩
 refine JJ_nx fun _ _ hL hA => ?_; dsimp only at hL hA; subst hL hA
 refine Fb 32 2 fun hl46 => ?_
 refine KS ?_
 refine Oq Vm (Oq Vm (Oq (Vlen sl33) (Oq Vlss (KS ?_))))
 refine Kc ?_ ?_
 · intro h47
   have g48 := of_decide_eq_true h47
   have hqb := hab.1 _ (getD_mem (xs := rv17) (i := i_36.toNat) (d := default) (by omega))
   obtain ⟨r49, rfl⟩ := scc (n := r32) (by omega)
   refine KS ?_
   refine bool_split (decide (0 < i_36)) ?_ ?_
   · intro h50
     have g51 := of_decide_eq_true h50
     refine JJ_peek_GAccount ((i_36 - 1) : Int).toNat 2 rfl rng fun hb52 hb53 hb54 hb55 => ?_
     unfold i64ok at hb52 hb53 hb54 hb55
     refine JJ_peek_GAccount i_36.toNat 3 rfl rng fun hb56 hb57 hb58 hb59 => ?_
     unfold i64ok at hb56 hb57 hb58 hb59
     refine Kq [0, 1, 3, 7, 7, 23, 63, 127, 255, 7, 7, 1543, 3591, 7687, 16383, 32767] fmix ?_
     refine Qv [] Vm (Qb h50 [] Vgtr (Qv [] Vm (Qv [] Vm (Qv [] Vm (Qv [] Vsub (Qv [4] (Vi sl33 0) (Qv [1] (Vfa fo36_0 0) (Qv [1] (VldF sh3 0) (Qv [] Vm ?_)))))))))
     refine Qv [] Vm (Qv [4] (Vi sl33 0) (Qv [0] (Vfa fo36_0 0) (Qv [0] (VldF sh3 0) (Qv [] Vgeq (Qv [] Vpt ?_)))))
     refine Qn ⟨by kernel_rfl, ?_⟩
     refine Kc ?_ ?_
     · intro h60
       have g61 := of_decide_eq_true h60
       refine KS ?_
       refine Oq Va (KS ?_)
       have hR62 := q2 hM37 (.ret false) (by simp only [flqlaw23_LedgerSums_L0, h47, h50, h60, hg5, hg9, hg18, hg24, cs4])
       have hq := q4 hrr false (by simp only [flqlaw23_LedgerSums, h47, h50, h60, hg5, hg9, hg18, hg24, hR62, cs4]); subst hq
       exact Kr () rfl (.tmp rfl .nil) [] trivial
     intro h60
     have g63 := of_decide_eq_false h60
     refine KS ?_
     refine Jp 2 fun hp64 => ?_
     refine JK_drawK [0, 1, 0, 0, 12, 28, 60, 127, 255, 511] fmix ?_
     refine Dv [0] (Vfa fo36_1 0) (Dv [3] (VldF sh3 0) (Dv [] Vm (Dv [] Vm (Dv [5] (Vi sl33 0) (Dv [1] (Vfa fo36_1 0) (Dv [1] (VldF sh3 0) (Dv [] Vadd (Dv [0] (Vfa fo36_1 0) (Dx0 [3] [3] [0] [fun G => Cl p31 [vi 0, vi (all1_33 + (rv17.getD i_36.toNat default).Turns), vi all2_34, vi all3_35]] (fun G => xS (SclF [0] sh3 [vi 0, vi (all1_33 + (rv17.getD i_36.toNat default).Turns), vi all2_34, vi all3_35])) ?_)))))))))
     refine Dn ⟨by kernel_rfl, fun G => ?_⟩
     refine Jw2 [(5, p30), (4, vl a20 k21 rv17), (6, p31), (7, vi i_36)] [0, 1, 2, 4, 5] [Cl p31 [vi 0, vi (all1_33 + (rv17.getD i_36.toNat default).Turns), vi all2_34, vi all3_35]] ?_
     refine Jk [1, 2, 3, 3, 4] ?_
     refine KS ?_
     refine Jp 4 fun hp65 => ?_
     refine JK_drawK [0, 1, 0, 0, 12, 28, 60, 127, 255, 511] fmix ?_
     refine Dv [0] (Vfa fo36_2 0) (Dv [5] (VldF sh3 0) (Dv [] Vm (Dv [] Vm (Dv [4] (Vi sl33 0) (Dv [1] (Vfa fo36_2 0) (Dv [1] (VldF sh3 0) ?_))))))
     refine letv (flqref1_Add all2_34 ((rv17.getD i_36.toNat default).Steps)) fun rv66 hg67 => ?_
     refine Dx [] [] [0] (fun G => vi rv66) [fun G => SP.fact (i64ok rv66 ∧ (0 ≤ rv66 ∧ rv66 ≤ 1073741824))] (fun G => xC [] ca14 (fn14 all2_34 ((rv17.getD i_36.toNat default).Steps) pre pre rv66 hg67)) (Dv [0] (Vfa fo36_2 0) (Dx0 [5] [5] [0] [fun G => Cl p31 [vi 0, vi (all1_33 + (rv17.getD i_36.toNat default).Turns), vi rv66, vi all3_35]] (fun G => xS (SclF [0] sh3 [vi 0, vi (all1_33 + (rv17.getD i_36.toNat default).Turns), vi rv66, vi all3_35])) ?_))
     refine Dn ⟨by kernel_rfl, fun G => ?_⟩
     refine Jw2 [(5, p30), (4, vl a20 k21 rv17), (6, p31), (7, vi i_36)] [0, 1, 2, 3, 4] [SP.fact (i64ok rv66 ∧ (0 ≤ rv66 ∧ rv66 ≤ 1073741824)), Cl p31 [vi 0, vi (all1_33 + (rv17.getD i_36.toNat default).Turns), vi rv66, vi all3_35]] ?_
     refine Jf 5 rfl ?_; rintro ⟨he68, he69⟩
     unfold i64ok at he68
     refine Jk [1, 2, 3, 3, 5] ?_
     refine Jp 4 fun hp70 => ?_
     refine JK_drawK [0, 1, 0, 0, 12, 28, 60, 127, 255, 511] fmix ?_
     refine Dv [0] (Vfa fo36_3 0) (Dv [5] (VldF sh3 0) (Dv [] Vm (Dv [] Vm (Dv [4] (Vi sl33 0) (Dv [1] (Vfa fo36_3 0) (Dv [1] (VldF sh3 0) ?_))))))
     refine letv (flqref1_Add all3_35 ((rv17.getD i_36.toNat default).Cost)) fun rv71 hg72 => ?_
     refine Dx [] [] [0] (fun G => vi rv71) [fun G => SP.fact (i64ok rv71 ∧ (0 ≤ rv71 ∧ rv71 ≤ 1073741824))] (fun G => xC [] ca14 (fn14 all3_35 ((rv17.getD i_36.toNat default).Cost) pre pre rv71 hg72)) (Dv [0] (Vfa fo36_3 0) (Dx0 [5] [5] [0] [fun G => Cl p31 [vi 0, vi (all1_33 + (rv17.getD i_36.toNat default).Turns), vi rv66, vi rv71]] (fun G => xS (SclF [0] sh3 [vi 0, vi (all1_33 + (rv17.getD i_36.toNat default).Turns), vi rv66, vi rv71])) ?_))
     refine Dn ⟨by kernel_rfl, fun G => ?_⟩
     refine Jw2 [(5, p30), (4, vl a20 k21 rv17), (6, p31), (7, vi i_36)] [0, 1, 2, 3, 4] [SP.fact (i64ok rv71 ∧ (0 ≤ rv71 ∧ rv71 ≤ 1073741824)), Cl p31 [vi 0, vi (all1_33 + (rv17.getD i_36.toNat default).Turns), vi rv66, vi rv71]] ?_
     refine Jf 5 rfl ?_; rintro ⟨he73, he74⟩
     unfold i64ok at he73
     refine Jk [1, 2, 3, 3, 5] ?_
     refine KS ?_
     refine Oq Vm (Oq Vadd (Oq Va (KS ?_)))
     exact Kg (r49, (all1_33 + (rv17.getD i_36.toNat default).Turns), rv66, rv71, (i_36 + 1)) [4, 2, 2] ⟨(q3 hM37 (by simp only [flqlaw23_LedgerSums_L0, h47, h50, h60, hg5, hg9, hg18, hg24, hg67, hg72, cs4])), (by omega), (by omega), (by omega), (by omega), (by omega), (by omega), (by omega), iv1⟩
   intro h50
   have g75 := of_decide_eq_false h50
   refine Kq [0, 1, 3, 7, 7, 23, 63, 127, 255, 7, 7, 1543, 3591, 7687, 16383, 32767] fmix ?_
   refine Qv [] Vm (Qb h50 [] Vgtr (Qv [] Vm (Qs (Qs (Qs (Qs (Qs (Qs (Qs ?_)))))))))
   refine Qs (Qs (Qs (Qs (Qs (Qv [] Vpf ?_)))))
   refine Qn ⟨by kernel_rfl, ?_⟩
   refine Kf ?_
   refine KS ?_
   refine Jp 0 fun hp76 => ?_
   refine JJ_peek_GAccount i_36.toNat 3 rfl rng fun hb77 hb78 hb79 hb80 => ?_
   unfold i64ok at hb77 hb78 hb79 hb80
   refine JK_drawK [0, 1, 0, 0, 12, 28, 60, 127, 255, 511] fmix ?_
   refine Dv [1] (Vfa fo36_1 0) (Dv [2] (VldF sh3 0) (Dv [] Vm (Dv [] Vm (Dv [4] (Vi sl33 0) (Dv [0] (Vfa fo36_1 0) (Dv [0] (VldF sh3 0) (Dv [] Vadd (Dv [1] (Vfa fo36_1 0) (Dx0 [2] [2] [0] [fun G => Cl p31 [vi 0, vi (all1_33 + (rv17.getD i_36.toNat default).Turns), vi all2_34, vi all3_35]] (fun G => xS (SclF [0] sh3 [vi 0, vi (all1_33 + (rv17.getD i_36.toNat default).Turns), vi all2_34, vi all3_35])) ?_)))))))))
   refine Dn ⟨by kernel_rfl, fun G => ?_⟩
   refine Jw2 [(5, p30), (4, vl a20 k21 rv17), (6, p31), (7, vi i_36)] [0, 1, 3, 4] [Cl p31 [vi 0, vi (all1_33 + (rv17.getD i_36.toNat default).Turns), vi all2_34, vi all3_35]] ?_
   refine Jk [0, 2, 2, 3] ?_
   refine KS ?_
   refine Jp 3 fun hp81 => ?_
   refine JK_drawK [0, 1, 0, 0, 12, 28, 60, 127, 255, 511] fmix ?_
   refine Dv [0] (Vfa fo36_2 0) (Dv [4] (VldF sh3 0) (Dv [] Vm (Dv [] Vm (Dv [3] (Vi sl33 0) (Dv [1] (Vfa fo36_2 0) (Dv [1] (VldF sh3 0) ?_))))))
   refine letv (flqref1_Add all2_34 ((rv17.getD i_36.toNat default).Steps)) fun rv82 hg83 => ?_
   refine Dx [] [] [0] (fun G => vi rv82) [fun G => SP.fact (i64ok rv82 ∧ (0 ≤ rv82 ∧ rv82 ≤ 1073741824))] (fun G => xC [] ca14 (fn14 all2_34 ((rv17.getD i_36.toNat default).Steps) pre pre rv82 hg83)) (Dv [0] (Vfa fo36_2 0) (Dx0 [4] [4] [0] [fun G => Cl p31 [vi 0, vi (all1_33 + (rv17.getD i_36.toNat default).Turns), vi rv82, vi all3_35]] (fun G => xS (SclF [0] sh3 [vi 0, vi (all1_33 + (rv17.getD i_36.toNat default).Turns), vi rv82, vi all3_35])) ?_))
   refine Dn ⟨by kernel_rfl, fun G => ?_⟩
   refine Jw2 [(5, p30), (4, vl a20 k21 rv17), (6, p31), (7, vi i_36)] [0, 1, 2, 3] [SP.fact (i64ok rv82 ∧ (0 ≤ rv82 ∧ rv82 ≤ 1073741824)), Cl p31 [vi 0, vi (all1_33 + (rv17.getD i_36.toNat default).Turns), vi rv82, vi all3_35]] ?_
   refine Jf 4 rfl ?_; rintro ⟨he84, he85⟩
   unfold i64ok at he84
   refine Jk [1, 2, 2, 4] ?_
   refine Jp 3 fun hp86 => ?_
   refine JK_drawK [0, 1, 0, 0, 12, 28, 60, 127, 255, 511] fmix ?_
   refine Dv [0] (Vfa fo36_3 0) (Dv [4] (VldF sh3 0) (Dv [] Vm (Dv [] Vm (Dv [3] (Vi sl33 0) (Dv [1] (Vfa fo36_3 0) (Dv [1] (VldF sh3 0) ?_))))))
   refine letv (flqref1_Add all3_35 ((rv17.getD i_36.toNat default).Cost)) fun rv87 hg88 => ?_
   refine Dx [] [] [0] (fun G => vi rv87) [fun G => SP.fact (i64ok rv87 ∧ (0 ≤ rv87 ∧ rv87 ≤ 1073741824))] (fun G => xC [] ca14 (fn14 all3_35 ((rv17.getD i_36.toNat default).Cost) pre pre rv87 hg88)) (Dv [0] (Vfa fo36_3 0) (Dx0 [4] [4] [0] [fun G => Cl p31 [vi 0, vi (all1_33 + (rv17.getD i_36.toNat default).Turns), vi rv82, vi rv87]] (fun G => xS (SclF [0] sh3 [vi 0, vi (all1_33 + (rv17.getD i_36.toNat default).Turns), vi rv82, vi rv87])) ?_))
   refine Dn ⟨by kernel_rfl, fun G => ?_⟩
   refine Jw2 [(5, p30), (4, vl a20 k21 rv17), (6, p31), (7, vi i_36)] [0, 1, 2, 3] [SP.fact (i64ok rv87 ∧ (0 ≤ rv87 ∧ rv87 ≤ 1073741824)), Cl p31 [vi 0, vi (all1_33 + (rv17.getD i_36.toNat default).Turns), vi rv82, vi rv87]] ?_
   refine Jf 4 rfl ?_; rintro ⟨he89, he90⟩
   unfold i64ok at he89
   refine Jk [1, 2, 2, 4] ?_
   refine KS ?_
   refine Oq Vm (Oq Vadd (Oq Va (KS ?_)))
   exact Kg (r49, (all1_33 + (rv17.getD i_36.toNat default).Turns), rv82, rv87, (i_36 + 1)) [3, 1, 1] ⟨(q3 hM37 (by simp only [flqlaw23_LedgerSums_L0, h47, h50, hg5, hg9, hg18, hg24, hg83, hg88, cs4])), (by omega), (by omega), (by omega), (by omega), (by omega), (by omega), (by omega), iv1⟩
 intro h47
 have g91 := of_decide_eq_false h47
 obtain rfl : r32 = 0 := by omega
 refine Ke ?_
 have hR92 := q2 hM37 (.brk (all1_33, all2_34, all3_35)) (by simp only [flqlaw23_LedgerSums_L0, h47, hg5, hg9, hg18, hg24, cs4])
 refine KS ?_
 refine Oq (VldA sh36 0) (Oq (VldA sh36 1) (Oq (VeqA eqi36 (l := [0, all1_33, all2_34, all3_35]) (m := [rv23.Query, rv23.Turns, rv23.Steps, rv23.Cost])) (Oq Vm ?_)))
 refine Js 67 ?_ ?_
 · intro h93
   have g94 := eq_of_beq h93
   have hc95 := fn7  flqlaw23_sane rfl
   refine Oc [] ca7 hc95 ?_
   rintro - -
   refine Oq Vpt (Oq Va (KS ?_))
   have hq := q4 hrr flqlaw23_sane (by simp only [flqlaw23_LedgerSums, h47, h93, hg5, hg9, hg18, hg24, hR92, cs4]); subst hq
   exact Kr () rfl (.tmp rfl .nil) [] trivial
 intro h93
 have g96 := ne_of_beq_false h93
 refine Osk (Oq Vpf (Oq Va (KS ?_)))
 have hq := q4 hrr false (by simp only [flqlaw23_LedgerSums, h47, h93, hg5, hg9, hg18, hg24, hR92, cs4]); subst hq
 exact Kr () rfl (.tmp rfl .nil) [] trivial
end Go.SL.G
