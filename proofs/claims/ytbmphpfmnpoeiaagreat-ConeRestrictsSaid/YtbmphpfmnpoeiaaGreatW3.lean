/- Part 3 of the walks: mirrors, plain laws and walks used by the last text of this claim. -/
import Derived.Test.YtbmphpfmnpoeiaaGreatW2
import Derived.Test.YtbmphpfmnpoeiaaGreatProg
set_option linter.unusedVariables false
set_option linter.unusedSimpArgs false
namespace Go.SL.G
open Go Go.SL Go.Proofs
set_option maxHeartbeats 20000000
set_option maxRecDepth 100000
def pdT (rc : List Int → Int → Int → Int → List Int) (r : Nat) (a b lim : Int) (d : List Int) (p : Int) : LR Unit (List Int) :=
 bif decide (((sc_partitionOrdered_int d a b p).1 - a) < (b - (sc_partitionOrdered_int d a b p).1)) then
  sc_pdqsortOrdered_int_F_L0 rc r (rc (sc_partitionOrdered_int d a b p).2.2 a (sc_partitionOrdered_int d a b p).1 lim) ((sc_partitionOrdered_int d a b p).1 + 1) b lim (decide (((b - a) / 8) ≤ ((sc_partitionOrdered_int d a b p).1 - a))) (sc_partitionOrdered_int d a b p).2.1
 else
  sc_pdqsortOrdered_int_F_L0 rc r (rc (sc_partitionOrdered_int d a b p).2.2 ((sc_partitionOrdered_int d a b p).1 + 1) b lim) a (sc_partitionOrdered_int d a b p).1 lim (decide (((b - a) / 8) ≤ (b - (sc_partitionOrdered_int d a b p).1))) (sc_partitionOrdered_int d a b p).2.1
def pdS (rc : List Int → Int → Int → Int → List Int) (r : Nat) (a b lim : Int) (wb wp : Bool) (d : List Int) (p : Int) : LR Unit (List Int) :=
 bif decide (0 < a) then
  bif (!(cmp_Less_int (d.getD ((a - 1) : Int).toNat 0) (d.getD (p : Int).toNat 0))) then
   sc_pdqsortOrdered_int_F_L0 rc r (sc_partitionEqualOrdered_int d a b p).2 (sc_partitionEqualOrdered_int d a b p).1 b lim wb wp
  else pdT rc r a b lim d p
 else pdT rc r a b lim d p
def pdP (rc : List Int → Int → Int → Int → List Int) (r : Nat) (a b lim : Int) (wb wp : Bool) (d : List Int) (p : Int) : LR Unit (List Int) :=
 bif (sc_partialInsertionSortOrdered_int d a b).1 then .ret (sc_partialInsertionSortOrdered_int d a b).2 else pdS rc r a b lim wb wp (sc_partialInsertionSortOrdered_int d a b).2 p
theorem pdL_eq (rc : List Int → Int → Int → Int → List Int) (r : Nat) (d : List Int) (a b lim : Int) (wb wp : Bool) : sc_pdqsortOrdered_int_F_L0 rc (r + 1) d a b lim wb wp =
  (bif decide ((b - a) ≤ 12) then .ret (sc_insertionSortOrdered_int d a b)
  else bif (lim == 0) then .ret (sc_heapSortOrdered_int d a b)
  else bif (!wb) then
   (bif ((sc_choosePivotOrdered_int (sc_breakPatternsOrdered_int d a b) a b).2 == 2) then
    pdS rc r a b (lim - 1) wb wp (sc_reverseRangeOrdered_int (sc_breakPatternsOrdered_int d a b) a b) ((b - 1) - ((sc_choosePivotOrdered_int (sc_breakPatternsOrdered_int d a b) a b).1 - a))
   else pdS rc r a b (lim - 1) wb wp (sc_breakPatternsOrdered_int d a b) (sc_choosePivotOrdered_int (sc_breakPatternsOrdered_int d a b) a b).1)
  else
   (bif ((sc_choosePivotOrdered_int d a b).2 == 2) then
    (bif wp then pdP rc r a b lim wb wp (sc_reverseRangeOrdered_int d a b) ((b - 1) - ((sc_choosePivotOrdered_int d a b).1 - a))
    else pdS rc r a b lim wb wp (sc_reverseRangeOrdered_int d a b) ((b - 1) - ((sc_choosePivotOrdered_int d a b).1 - a)))
   else
    (bif wp then
     (bif ((sc_choosePivotOrdered_int d a b).2 == 1) then pdP rc r a b lim wb wp d (sc_choosePivotOrdered_int d a b).1
     else pdS rc r a b lim wb wp d (sc_choosePivotOrdered_int d a b).1)
    else pdS rc r a b lim wb wp d (sc_choosePivotOrdered_int d a b).1))) := by
 rw [sc_pdqsortOrdered_int_F_L0]
 rfl
theorem pdl {rc : List Int → Int → Int → Int → List Int} {n N : Nat} (hN : N ≤ 65535)
  (hrc : ∀ (d : List Int) (a b lim : Int), (b - a).toNat < n → 0 ≤ a → a ≤ b → b ≤ (d.length : Int) → d.length = N → LB 0 idk d a b → PI 0 d (rc d a b lim) a b ∧ Srt 0 idk (rc d a b lim) a b) :
  ∀ (r : Nat) (d : List Int) (a b lim : Int) (wb wp : Bool), b - a < (r : Int) → 0 < r → (b - a).toNat ≤ n → 0 ≤ a → a ≤ b → b ≤ (d.length : Int) → d.length = N → LB 0 idk d a b →
   ∃ d', sc_pdqsortOrdered_int_F_L0 rc r d a b lim wb wp = .ret d' ∧ PI 0 d d' a b ∧ Srt 0 idk d' a b
 | 0, d, a, b, lim, wb, wp, hr, hr0, hn, h0, hab, hb, hd, hl => by omega
 | r + 1, d, a, b, lim, wb, wp, hr, hr0, hn, h0, hab, hb, hd, hl => by
  rw [pdL_eq]
  by_cases c0 : b - a ≤ 12
  ·rw [decide_eq_true c0, cond_true]
   obtain ⟨k1, k2⟩ := ins_ok (d := d) h0 hab hb
   exact ⟨_, rfl, k1, k2⟩
  rw [decide_eq_false c0, cond_false]
  -- what is behind a pivot
  have fT : ∀ (lim : Int) (d : List Int) (p : Int), a ≤ p → p < b → b ≤ (d.length : Int) → d.length = N → LB 0 idk d a b → ∃ d', pdT rc r a b lim d p = .ret d' ∧ PI 0 d d' a b ∧ Srt 0 idk d' a b := fun lim d p hp1 hp2 hb hd hl => by
   unfold pdT
   obtain ⟨m1, m2, m3, m4, m5⟩ := pt_ok (d := d) (a := a) (b := b) (p := p) h0 ⟨hp1, hp2⟩ hb rfl
   generalize sc_partitionOrdered_int d a b p = q at *
   have hb1 : b ≤ (q.2.2.length : Int) := by rw [m3.len]; exact hb
   have hd1 : q.2.2.length = N := by rw [m3.len]; exact hd
   have hl1 := hl.pi 0 idk m3
   by_cases c : q.1 - a < b - q.1
   ·rw [decide_eq_true c, cond_true]
    obtain ⟨k1, k2⟩ := hrc q.2.2 a q.1 lim (by omega) h0 m1 (by omega) hd1 (fun ha j h1 h2 => hl1 ha j h1 (by omega))
    generalize rc q.2.2 a q.1 lim = d2 at *
    have em : gi 0 d2 q.1 = gi 0 q.2.2 q.1 := k1.out q.1 (by omega) (by omega)
    obtain ⟨d', n1, n2, n3⟩ := pdl hN hrc r d2 (q.1 + 1) b lim (decide ((b - a) / 8 ≤ q.1 - a)) q.2.1 (by omega) (by omega) (by omega) (by omega) (by omega) (by rw [k1.len]; exact hb1) (by rw [k1.len]; exact hd1)
     (fun _ j h1 h2 => by
      show gi 0 d2 (q.1 + 1 - 1) ≤ gi 0 d2 j
      rw [show q.1 + 1 - 1 = q.1 by omega, em, k1.out j (by omega) (by omega)]
      exact m5 j (by omega) h2)
    refine ⟨d', n1, (m3.trans 0 (k1.mono 0 h0 (Int.le_refl _) (by omega))).trans 0 (n2.mono 0 h0 (by omega) (Int.le_refl _)), srt_join (d1 := q.2.2) ⟨m1, m2⟩ m4 m5 (fun k h1 h2 => ?_) ?_ (fun k h1 h2 => ?_) (k2.pi 0 idk h0 n2 (.inl (by omega))) n3⟩
    ·obtain ⟨s, s1, s2, s3⟩ := k1.src k h1 h2
     exact ⟨s, s1, s2, by rw [n2.out k (by omega) (by omega)]; exact s3⟩
    ·rw [n2.out q.1 (by omega) (by omega)]; exact em
    ·obtain ⟨s, s1, s2, s3⟩ := n2.src k h1 h2
     exact ⟨s, s1, s2, by rw [s3, k1.out s (by omega) (by omega)]⟩
   ·rw [decide_eq_false c, cond_false]
    obtain ⟨k1, k2⟩ := hrc q.2.2 (q.1 + 1) b lim (by omega) (by omega) (by omega) hb1 hd1 (fun _ j h1 h2 => by
     show gi 0 _ (q.1 + 1 - 1) ≤ gi 0 _ j
     rw [show q.1 + 1 - 1 = q.1 by omega]
     exact m5 j (by omega) h2)
    generalize rc q.2.2 (q.1 + 1) b lim = d2 at *
    have em : gi 0 d2 q.1 = gi 0 q.2.2 q.1 := k1.out q.1 (by omega) (by omega)
    obtain ⟨d', n1, n2, n3⟩ := pdl hN hrc r d2 a q.1 lim (decide ((b - a) / 8 ≤ b - q.1)) q.2.1 (by omega) (by omega) (by omega) h0 m1 (by rw [k1.len]; omega) (by rw [k1.len]; exact hd1)
     (fun ha j h1 h2 => by
      show gi 0 d2 (a - 1) ≤ gi 0 d2 j
      rw [k1.out (a - 1) (by omega) (by omega), k1.out j (by omega) (by omega)]
      exact hl1 ha j h1 (by omega))
    refine ⟨d', n1, (m3.trans 0 (k1.mono 0 h0 (by omega) (Int.le_refl _))).trans 0 (n2.mono 0 h0 (Int.le_refl _) (by omega)), srt_join (d1 := q.2.2) ⟨m1, m2⟩ m4 m5 (fun k h1 h2 => ?_) ?_ (fun k h1 h2 => ?_) n3 (k2.pi 0 idk (by omega) n2 (.inr (by omega)))⟩
    ·obtain ⟨s, s1, s2, s3⟩ := n2.src k h1 h2
     exact ⟨s, s1, s2, by rw [s3, k1.out s (by omega) (by omega)]⟩
    ·rw [n2.out q.1 (by omega) (by omega)]; exact em
    ·obtain ⟨s, s1, s2, s3⟩ := k1.src k h1 h2
     exact ⟨s, s1, s2, by rw [n2.out k (by omega) (by omega)]; exact s3⟩
  have fS : ∀ (lim : Int) (d : List Int) (p : Int), a ≤ p → p < b → b ≤ (d.length : Int) → d.length = N → LB 0 idk d a b → ∃ d', pdS rc r a b lim wb wp d p = .ret d' ∧ PI 0 d d' a b ∧ Srt 0 idk d' a b := fun lim d p hp1 hp2 hb hd hl => by
   unfold pdS
   by_cases c1 : 0 < a
   ·rw [decide_eq_true c1, cond_true, Less_eq']
    by_cases c2 : d.getD (a - 1).toNat 0 < d.getD p.toNat 0
    ·rw [decide_eq_true c2, Bool.not_true, cond_false]
     exact fT lim d p hp1 hp2 hb hd hl
    ·rw [decide_eq_false c2, Bool.not_false, cond_true]
     obtain ⟨m1, m2, m3, m4, m5, m6⟩ := pe_ok (d := d) (a := a) (b := b) (p := p) h0 ⟨hp1, hp2⟩ hb rfl
     generalize sc_partitionEqualOrdered_int d a b p = q at *
     have ha := hl c1 p hp1 hp2
     have hpv : gi 0 d p = gi 0 d (a - 1) := by
      have h1 : gi 0 d (a - 1) ≤ gi 0 d p := ha
      have h2 : ¬ gi 0 d (a - 1) < gi 0 d p := c2
      omega
     have hl1 := hl.pi 0 idk m3
     have hall : ∀ k, a ≤ k → k < q.1 → gi 0 q.2 k = gi 0 d p := fun k h1 h2 => by
      have g1 := m5 k h1 h2
      have g2 : gi 0 q.2 (a - 1) ≤ gi 0 q.2 k := hl1 c1 k h1 (by omega)
      rw [m3.out (a - 1) (by omega) (by omega)] at g2
      omega
     obtain ⟨d', n1, n2, n3⟩ := pdl hN hrc r q.2 q.1 b lim wb wp (by omega) (by omega) (by omega) (by omega) m2 (by rw [m3.len]; exact hb) (by rw [m3.len]; exact hd)
      (fun _ j h1 h2 => by
       show gi 0 q.2 (q.1 - 1) ≤ gi 0 q.2 j
       rw [hall (q.1 - 1) (by omega) (by omega)]
       have := m6 j h1 h2; omega)
     refine ⟨d', n1, m3.trans 0 (n2.mono 0 h0 (by omega) (Int.le_refl _)), fun i j h1 h2 h3 => ?_⟩
     show gi 0 d' i ≤ gi 0 d' j
     by_cases c3 : q.1 ≤ i
     ·exact n3 i j c3 h2 h3
     ·rw [n2.out i (by omega) (by omega), hall i h1 (by omega)]
      by_cases c4 : q.1 ≤ j
      ·obtain ⟨s, s1, s2, s3⟩ := n2.src j c4 h3
       rw [s3]; have := m6 s s1 s2; omega
      ·rw [n2.out j (by omega) (by omega), hall j (by omega) (by omega)]; exact Int.le_refl _
   ·rw [decide_eq_false c1, cond_false]
    exact fT lim d p hp1 hp2 hb hd hl
  have fP : ∀ (d : List Int) (p : Int), a ≤ p → p < b → b ≤ (d.length : Int) → d.length = N → LB 0 idk d a b → ∃ d', pdP rc r a b lim wb wp d p = .ret d' ∧ PI 0 d d' a b ∧ Srt 0 idk d' a b := fun d p hp1 hp2 hb hd hl => by
   unfold pdP
   obtain ⟨k1, k2⟩ := pin_ok (d := d) (a := a) (b := b) h0 (by omega) hb hl
   generalize sc_partialInsertionSortOrdered_int d a b = q at *
   cases e : q.1
   ·rw [cond_false]
    obtain ⟨d', n1, n2, n3⟩ := fS lim q.2 p hp1 hp2 (by rw [k1.len]; exact hb) (by rw [k1.len]; exact hd) (hl.pi 0 idk k1)
    exact ⟨d', n1, k1.trans 0 n2, n3⟩
   ·rw [cond_true]
    exact ⟨q.2, rfl, k1, k2 e⟩
  -- what comes ahead
  have via : ∀ (X : LR Unit (List Int)) (d1 : List Int), PI 0 d d1 a b → (∃ d', X = .ret d' ∧ PI 0 d1 d' a b ∧ Srt 0 idk d' a b) → ∃ d', X = .ret d' ∧ PI 0 d d' a b ∧ Srt 0 idk d' a b := fun X d1 p1 ⟨d', n1, n2, n3⟩ => ⟨d', n1, p1.trans 0 n2, n3⟩
  by_cases c1 : lim = 0
  ·rw [beq_iff_eq.2 c1, cond_true]
   obtain ⟨k1, k2⟩ := heap_ok (d := d) h0 hab hb
   exact ⟨_, rfl, k1, k2⟩
  rw [beq_false_of_ne c1, cond_false]
  cases wb
  ·rw [Bool.not_false, cond_true]
   have p1 := bp_ok (d := d) (a := a) (b := b) h0 (by omega) hb (by omega)
   generalize sc_breakPatternsOrdered_int d a b = d1 at *
   have hp := cp_rng d1 (a := a) (b := b) (by omega)
   generalize sc_choosePivotOrdered_int d1 a b = pv at *
   have hb1 : b ≤ (d1.length : Int) := by rw [p1.len]; exact hb
   cases pv.2 == 2
   ·rw [cond_false]
    exact via _ d1 p1 (fS _ d1 _ hp.1 hp.2 hb1 (by rw [p1.len]; exact hd) (hl.pi 0 idk p1))
   ·rw [cond_true]
    have p2 := rev_ok (d := d1) (a := a) (b := b) h0 hab hb1
    have p3 := p1.trans 0 p2
    exact via _ _ p3 (fS _ _ _ (by omega) (by omega) (by rw [p3.len]; exact hb) (by rw [p3.len]; exact hd) (hl.pi 0 idk p3))
  ·rw [Bool.not_true, cond_false]
   have hp := cp_rng d (a := a) (b := b) (by omega)
   generalize sc_choosePivotOrdered_int d a b = pv at *
   cases pv.2 == 2
   ·rw [cond_false]
    cases wp
    ·rw [cond_false]; exact fS _ d _ hp.1 hp.2 hb hd hl
    ·rw [cond_true]
     cases pv.2 == 1
     ·rw [cond_false]; exact fS _ d _ hp.1 hp.2 hb hd hl
     ·rw [cond_true]; exact fP d _ hp.1 hp.2 hb hd hl
   ·rw [cond_true]
    have p2 := rev_ok (d := d) (a := a) (b := b) h0 hab hb
    cases wp
    ·rw [cond_false]; exact via _ _ p2 (fS _ _ _ (by omega) (by omega) (by rw [p2.len]; exact hb) (by rw [p2.len]; exact hd) (hl.pi 0 idk p2))
    ·rw [cond_true]; exact via _ _ p2 (fP _ _ (by omega) (by omega) (by rw [p2.len]; exact hb) (by rw [p2.len]; exact hd) (hl.pi 0 idk p2))
theorem pdq_ok {N : Nat} (hN : N ≤ 65535) : ∀ (fu : Nat) (d : List Int) (a b lim : Int), (b - a).toNat < fu → 0 ≤ a → a ≤ b → b ≤ (d.length : Int) → d.length = N → LB 0 idk d a b → PI 0 d (sc_pdqsortOrdered_int fu d a b lim) a b ∧ Srt 0 idk (sc_pdqsortOrdered_int fu d a b lim) a b
 | 0, d, a, b, lim, h, h0, hab, hb, hd, hl => by omega
 | fu + 1, d, a, b, lim, h, h0, hab, hb, hd, hl => by
  rw [sc_pdqsortOrdered_int]
  unfold sc_pdqsortOrdered_int_F
  obtain ⟨d', k1, k2, k3⟩ := pdl (rc := sc_pdqsortOrdered_int fu) (n := fu) hN (fun d a b lim h1 h2 h3 h4 h5 h6 => pdq_ok hN fu d a b lim h1 h2 h3 h4 h5 h6) ((b - a).toNat + 1) d a b lim true true (by omega) (by omega) (by omega) h0 hab hb hd hl
  rw [k1]
  exact ⟨k2, k3⟩
theorem pdl_l {rc : List Int → Int → Int → Int → List Int} {n N : Nat} (hN : N ≤ 65535)
  (hrc : ∀ (d : List Int) (a b lim : Int), 0 ≤ a → a ≤ b → b ≤ (d.length : Int) → d.length ≤ 65535 → (b - a).toNat < n → (rc d a b lim).length = d.length) :
  ∀ (r : Nat) (d : List Int) (a b lim : Int) (wb wp : Bool), b - a < (r : Int) → 0 < r → (b - a).toNat ≤ n → 0 ≤ a → a ≤ b → b ≤ (d.length : Int) → d.length = N →
   ∃ d', sc_pdqsortOrdered_int_F_L0 rc r d a b lim wb wp = .ret d' ∧ d'.length = N
 | 0, d, a, b, lim, wb, wp, hr, hr0, hn, h0, hab, hb, hd => by omega
 | r + 1, d, a, b, lim, wb, wp, hr, hr0, hn, h0, hab, hb, hd => by
  rw [pdL_eq]
  by_cases c0 : b - a ≤ 12
  ·rw [decide_eq_true c0, cond_true]
   exact ⟨_, rfl, by rw [(ins_ok (d := d) h0 hab hb).1.len]; exact hd⟩
  rw [decide_eq_false c0, cond_false]
  have fT : ∀ (lim : Int) (d : List Int) (p : Int), a ≤ p → p < b → b ≤ (d.length : Int) → d.length = N → ∃ d', pdT rc r a b lim d p = .ret d' ∧ d'.length = N := fun lim d p hp1 hp2 hb hd => by
   unfold pdT
   obtain ⟨m1, m2, m3, m4, m5⟩ := pt_ok (d := d) (a := a) (b := b) (p := p) h0 ⟨hp1, hp2⟩ hb rfl
   generalize sc_partitionOrdered_int d a b p = q at *
   have e := m3.len
   cases decide (q.1 - a < b - q.1)
   ·have k := hrc q.2.2 (q.1 + 1) b lim (by omega) (by omega) (by omega) (by omega) (by omega)
    exact pdl_l hN hrc r _ _ _ _ _ _ (by omega) (by omega) (by omega) h0 m1 (by omega) (by omega)
   ·have k := hrc q.2.2 a q.1 lim (by omega) (by omega) (by omega) (by omega) (by omega)
    exact pdl_l hN hrc r _ _ _ _ _ _ (by omega) (by omega) (by omega) (by omega) (by omega) (by omega) (by omega)
  have fS : ∀ (lim : Int) (d : List Int) (p : Int), a ≤ p → p < b → b ≤ (d.length : Int) → d.length = N → ∃ d', pdS rc r a b lim wb wp d p = .ret d' ∧ d'.length = N := fun lim d p hp1 hp2 hb hd => by
   unfold pdS
   cases decide (0 < a)
   ·exact fT lim d p hp1 hp2 hb hd
   ·cases cmp_Less_int (d.getD (a - 1).toNat 0) (d.getD p.toNat 0)
    ·obtain ⟨m1, m2, m3, m4, m5, m6⟩ := pe_ok (d := d) (a := a) (b := b) (p := p) h0 ⟨hp1, hp2⟩ hb rfl
     generalize sc_partitionEqualOrdered_int d a b p = q at *
     have e := m3.len
     exact pdl_l hN hrc r _ _ _ _ _ _ (by omega) (by omega) (by omega) (by omega) (by omega) (by omega) (by omega)
    ·exact fT lim d p hp1 hp2 hb hd
  have fP : ∀ (d : List Int) (p : Int), a ≤ p → p < b → b ≤ (d.length : Int) → d.length = N → ∃ d', pdP rc r a b lim wb wp d p = .ret d' ∧ d'.length = N := fun d p hp1 hp2 hb hd => by
   unfold pdP
   have k1 := pin_l (d := d) (a := a) (b := b) (by omega) hb
   generalize sc_partialInsertionSortOrdered_int d a b = q at *
   cases q.1
   ·exact fS lim q.2 p hp1 hp2 (by omega) (by omega)
   ·exact ⟨q.2, rfl, by omega⟩
  by_cases c1 : lim = 0
  ·rw [beq_iff_eq.2 c1, cond_true]
   exact ⟨_, rfl, by rw [(heap_ok (d := d) h0 hab hb).1.len]; exact hd⟩
  rw [beq_false_of_ne c1, cond_false]
  cases wb
  ·rw [Bool.not_false, cond_true]
   have p1 := (bp_ok (d := d) (a := a) (b := b) h0 (by omega) hb (by omega)).len
   generalize sc_breakPatternsOrdered_int d a b = d1 at *
   have hp := cp_rng d1 (a := a) (b := b) (by omega)
   generalize sc_choosePivotOrdered_int d1 a b = pv at *
   cases pv.2 == 2
   ·exact fS _ d1 _ hp.1 hp.2 (by omega) (by omega)
   ·have p2 := (rev_ok (d := d1) (a := a) (b := b) h0 hab (by omega)).len
    exact fS _ _ _ (by omega) (by omega) (by omega) (by omega)
  ·rw [Bool.not_true, cond_false]
   have hp := cp_rng d (a := a) (b := b) (by omega)
   generalize sc_choosePivotOrdered_int d a b = pv at *
   cases pv.2 == 2
   ·cases wp
    ·exact fS _ d _ hp.1 hp.2 hb hd
    ·cases pv.2 == 1
     ·exact fS _ d _ hp.1 hp.2 hb hd
     ·exact fP d _ hp.1 hp.2 hb hd
   ·have p2 := (rev_ok (d := d) (a := a) (b := b) h0 hab hb).len
    cases wp
    ·exact fS _ _ _ (by omega) (by omega) (by omega) (by omega)
    ·exact fP _ _ (by omega) (by omega) (by omega) (by omega)
theorem pdl_t {rc : List Int → Int → Int → Int → List Int} {n : Nat} (hrc : ∀ (d : List Int) (a b lim : Int), 0 ≤ a → a ≤ b → b ≤ (d.length : Int) → d.length ≤ 65535 → (b - a).toNat < n → (rc d a b lim).length = d.length)
  {r : Nat} {d : List Int} {a b lim : Int} {wb wp : Bool} (h1 : b - a < (r : Int)) (h2 : 0 < r) (h3 : (b - a).toNat ≤ n) (h4 : 0 ≤ a) (h5 : a ≤ b) (h6 : b ≤ (d.length : Int)) (h7 : d.length ≤ 65535) : sc_pdqsortOrdered_int_F_L0 rc r d a b lim wb wp ≠ .oof := by
 obtain ⟨d', k, _⟩ := pdl_l (N := d.length) h7 hrc r d a b lim wb wp h1 h2 h3 h4 h5 h6 rfl
 intro e; rw [k] at e; cases e
theorem pdq_l : ∀ (fu : Nat) (d : List Int) (a b lim : Int), (b - a).toNat < fu → 0 ≤ a → a ≤ b → b ≤ (d.length : Int) → d.length ≤ 65535 → (sc_pdqsortOrdered_int fu d a b lim).length = d.length
 | 0, d, a, b, lim, h, h0, hab, hb, hd => by omega
 | fu + 1, d, a, b, lim, h, h0, hab, hb, hd => by
  rw [sc_pdqsortOrdered_int]
  unfold sc_pdqsortOrdered_int_F
  obtain ⟨d', k1, k2⟩ := pdl_l (rc := sc_pdqsortOrdered_int fu) (n := fu) (N := d.length) hd (fun d a b lim h1 h2 h3 h4 h5 => pdq_l fu d a b lim h5 h1 h2 h3 h4) ((b - a).toNat + 1) d a b lim true true (by omega) (by omega) (by omega) h0 hab hb rfl
  rw [k1]
  exact k2
theorem Sort_pw (l : List Int) (hl : l.length ≤ 65535) : (sc_Sort_int l).Perm l ∧ (sc_Sort_int l).Pairwise (· ≤ ·) := by
 unfold sc_Sort_int
 dsimp only
 obtain ⟨k1, k2⟩ := pdq_ok hl (l.length + 1) l 0 (l.length : Int) (bits_Len (BitVec.ofInt 64 ((l.length : Nat) : Int))) (by omega) (by omega) (by omega) (Int.le_refl _) rfl (fun h => by omega)
 generalize sc_pdqsortOrdered_int (l.length + 1) l 0 (l.length : Int) (bits_Len (BitVec.ofInt 64 ((l.length : Nat) : Int))) = d' at *
 refine ⟨k1.perm, List.pairwise_iff_getElem.2 fun i j hi hj hij => ?_⟩
 have e := k1.len
 have := k2 (i : Int) (j : Int) (by omega) (by omega) (by omega)
 unfold gi at this
 rw [show ((i : Int)).toNat = i by omega, show ((j : Int)).toNat = j by omega, List.getD_eq_getElem?_getD, List.getD_eq_getElem?_getD, List.getElem?_eq_getElem hi, List.getElem?_eq_getElem hj] at this
 exact this
theorem cmp_L1 (s2 : Int) : ∀ (r : Nat) (l : List Int) (k k2 : Int), (sc_Compact_int_L1 s2 r l k k2).1.length = l.length ∧ k ≤ (sc_Compact_int_L1 s2 r l k k2).2 ∧ (sc_Compact_int_L1 s2 r l k k2).2 ≤ k + (r : Int)
 | 0, l, k, k2 => by rw [sc_Compact_int_L1]; exact ⟨rfl, by show k ≤ k; omega, by show k ≤ _; omega⟩
 | r + 1, l, k, k2 => by
  rw [sc_Compact_int_L1]
  cases ((l.getD ((s2 : Int).toNat + (k2 : Int).toNat) 0) != (l.getD ((s2 : Int).toNat + ((k2 - 1) : Int).toNat) 0))
  ·rw [cond_false]
   obtain ⟨a1, a2, a3⟩ := cmp_L1 s2 r l k (k2 + 1)
   exact ⟨a1, a2, by omega⟩
  ·rw [cond_true]
   obtain ⟨a1, a2, a3⟩ := cmp_L1 s2 r (l.set (k : Int).toNat (l.getD ((s2 : Int).toNat + (k2 : Int).toNat) 0)) (k + 1) (k2 + 1)
   rw [List.length_set] at a1
   exact ⟨a1, by omega, by omega⟩
theorem cmp_L0 (l : List Int) : ∀ (r : Nat) (k : Int), 1 ≤ k → k + (r : Int) = (l.length : Int) → (sc_Compact_int_L0 l r k = .brk () ∧ ∀ j : Int, k ≤ j → j < (l.length : Int) → l.getD j.toNat 0 ≠ l.getD (j - 1).toNat 0) ∨ (∃ x, sc_Compact_int_L0 l r k = .ret x ∧ x.length < l.length ∧ ∃ j : Int, k ≤ j ∧ j < (l.length : Int) ∧ l.getD j.toNat 0 = l.getD (j - 1).toNat 0)
 | 0, k, h0, h1 => .inl ⟨by rw [sc_Compact_int_L0], fun j a b => by omega⟩
 | r + 1, k, h0, h1 => by
  rw [sc_Compact_int_L0]
  cases c : ((l.getD (k : Int).toNat 0) == (l.getD ((k - 1) : Int).toNat 0))
  ·rw [cond_false]
   have c' := beq_eq_false_iff_ne.1 c
   rcases cmp_L0 l r (k + 1) (by omega) (by omega) with ⟨a1, a2⟩ | ⟨x, a1, a2, j, j1, j2, j3⟩
   ·refine .inl ⟨a1, fun j h2 h3 => ?_⟩
    by_cases e : j = k
    ·rw [e]; exact c'
    ·exact a2 j (by omega) h3
   ·exact .inr ⟨x, a1, a2, j, by omega, j2, j3⟩
  ·rw [cond_true]
   obtain ⟨b1, b2, b3⟩ := cmp_L1 k ((((((l.length - (k : Int).toNat) : Nat) : Int) : Int) - 1).toNat) l k 1
   rcases e : sc_Compact_int_L1 k ((((((l.length - (k : Int).toNat) : Nat) : Int) : Int) - 1).toNat) l k 1 with ⟨x, y⟩
   rw [e] at b1 b2 b3
   dsimp only at b1 b2 b3 ⊢
   refine .inr ⟨_, rfl, ?_, k, by omega, by omega, eq_of_beq c⟩
   simp only [List.drop_zero, List.length_take, List.length_append, List.length_replicate]
   omega
theorem cmp_len (l : List Int) : (sc_Compact_int l).length = l.length ↔ ∀ j : Int, 1 ≤ j → j < (l.length : Int) → l.getD j.toNat 0 ≠ l.getD (j - 1).toNat 0 := by
 unfold sc_Compact_int
 by_cases c : ((l.length : Nat) : Int) < 2
 ·rw [decide_eq_true c, cond_true]
  exact ⟨fun _ j h1 h2 => by omega, fun _ => rfl⟩
 rw [decide_eq_false c, cond_false]
 rcases cmp_L0 l (((((l.length : Nat) : Int) : Int) - 1).toNat) 1 (by omega) (by omega) with ⟨a1, a2⟩ | ⟨x, a1, a2, j, j1, j2, j3⟩
 ·rw [a1]; exact ⟨fun _ => a2, fun _ => rfl⟩
 ·rw [a1]
  dsimp only
  exact ⟨fun h => by omega, fun h => absurd j3 (h j j1 j2)⟩
theorem cdist_iff {l : List Int} (hl : l.length ≤ 65535) : cn_distinct l = true ↔ l ≠ [] ∧ l.Nodup := by
 obtain ⟨k1, k2⟩ := Sort_pw l hl
 unfold cn_distinct
 dsimp only
 rw [show sc_Clone_int l = l from rfl]
 by_cases c : (0 : Int) < ((l.length : Nat) : Int)
 ·rw [decide_eq_true c, cond_true, beq_iff_eq, ← k1.length_eq]
  have h1 := cmp_len (sc_Sort_int l)
  rw [srt_nd k2, k1.nodup_iff] at h1
  constructor
  ·intro h
   exact ⟨fun e => by rw [e] at c; simp at c, h1.1 (by omega)⟩
  ·rintro ⟨-, h⟩
   have := h1.2 h
   omega
 ·rw [decide_eq_false c, cond_false]
  have : l = [] := List.length_eq_zero_iff.1 (by omega)
  exact ⟨fun h => (by cases h), fun h => absurd this h.1⟩
theorem Index_spec (c : List Int) (m : Int) : (sc_Index_int c m = -1 ∧ m ∉ c) ∨ (0 ≤ sc_Index_int c m ∧ sc_Index_int c m < (c.length : Int) ∧ c.getD (sc_Index_int c m).toNat 0 = m) := by
 have := scan' (fun r i => sc_Index_int_L0 c m r i) (fun i => m == c.getD i.toNat 0) () (fun _ => rfl) (fun _ _ => rfl) ((((c.length : Nat) : Int) - 0).toNat) 0
 unfold sc_Index_int
 rcases this with ⟨j, e, j1, j2, j3⟩ | ⟨e, h⟩
 ·rw [e]; exact .inr ⟨j1, by show j < _; omega, (eq_of_beq j3).symm⟩
 ·rw [e]
  refine .inl ⟨rfl, fun hm => ?_⟩
  obtain ⟨j, j1, j2, j3⟩ := mem_getD.1 hm
  have := h j j1 (by omega)
  rw [j3, beq_self_eq_true] at this; cases this
def posL (c d : List Int) : List Int := (d.map (sc_Index_int c)).filter fun x => decide (0 ≤ x)
theorem mem_posL {c d : List Int} {m : Int} : m ∈ posL c d ↔ ∃ n ∈ d, n ∈ c ∧ m = sc_Index_int c n := by
 unfold posL
 rw [List.mem_filter, List.mem_map]
 constructor
 ·rintro ⟨⟨n, hn, rfl⟩, h⟩
  refine ⟨n, hn, ?_, rfl⟩
  rcases Index_spec c n with ⟨e, _⟩ | ⟨h1, h2, h3⟩
  ·rw [e] at h; simp at h
  ·rw [← h3]; exact getD_mem (by omega)
 ·rintro ⟨n, hn, hc, rfl⟩
  refine ⟨⟨n, hn, rfl⟩, ?_⟩
  rcases Index_spec c n with ⟨_, h⟩ | ⟨h1, _, _⟩
  ·exact absurd hc h
  ·simpa using h1
theorem posL_cons (c d : List Int) (x : Int) : posL c (x :: d) = (if 0 ≤ sc_Index_int c x then [sc_Index_int c x] else []) ++ posL c d := by
 unfold posL
 rw [List.map_cons, List.filter_cons]
 by_cases h : 0 ≤ sc_Index_int c x
 ·simp only [decide_eq_true h, if_true, if_pos h]; rfl
 ·simp only [decide_eq_false h, Bool.false_eq_true, if_false, if_neg h]; rfl
theorem posL_nodup {c : List Int} : ∀ {d : List Int}, d.Nodup → (posL c d).Nodup
 | [], _ => List.nodup_nil
 | x :: d, hd => by
  have hd' := List.nodup_cons.1 hd
  rw [posL_cons]
  split
  ·rename_i h
   refine List.nodup_cons.2 ⟨fun hm => ?_, posL_nodup hd'.2⟩
   obtain ⟨n, hn, hc, e⟩ := mem_posL.1 hm
   rcases Index_spec c x with ⟨e', _⟩ | ⟨_, _, e1⟩
   ·omega
   ·rcases Index_spec c n with ⟨_, e'⟩ | ⟨_, _, e2⟩
    ·exact e' hc
    ·rw [← e, e1] at e2
     rw [← e2] at hn; exact hd'.1 hn
  ·exact posL_nodup hd'.2
theorem posL_len (c d : List Int) : (posL c d).length ≤ d.length := by
 unfold posL
 refine Nat.le_trans (List.length_filter_le _ _) ?_
 rw [List.length_map]; exact Nat.le_refl _
theorem Restrict_L1 (c d : List Int) : ∀ (m : Nat) (o : List Int) (j : Int), 0 ≤ j → j + m = (d.length : Int) → cn_Restrict_L1 c d m o j = o ++ posL c (d.drop j.toNat)
 | 0, o, j, h0, h1 => by rw [List.drop_eq_nil_of_le (by omega)]; simp [cn_Restrict_L1, posL]
 | m + 1, o, j, h0, h1 => by
  rw [cn_Restrict_L1, dropz h0 (by omega), show d.getD j.toNat default = d.getD j.toNat 0 from rfl]
  simp only [Bool.cond_eq_ite, decide_eq_true_eq]
  have ih := fun o' => Restrict_L1 c d m o' (j + 1) (by omega) (by omega)
  rw [posL_cons]
  split
  ·rw [ih, List.append_assoc]
  ·rw [ih, List.nil_append]
theorem place_L0 (l : List Int) (n : Int) : ∀ (m : Nat) (i : Int), 0 ≤ i → i + m = (l.length : Int) → (r14_place_L0 l n m i = .brk () ∧ ∀ j : Int, i ≤ j → j < (l.length : Int) → l.getD j.toNat 0 ≠ n) ∨ ∃ j, r14_place_L0 l n m i = .ret j ∧ i ≤ j ∧ j < (l.length : Int) ∧ l.getD j.toNat 0 = n ∧ ∀ q : Int, i ≤ q → q < j → l.getD q.toNat 0 ≠ n
 | 0, i, h0, h1 => .inl ⟨rfl, fun j a b => by omega⟩
 | m + 1, i, h0, h1 => by
  rw [r14_place_L0]
  by_cases e : l.getD i.toNat 0 = n
  ·refine .inr ⟨i, ?_, by omega, by omega, e, fun q a b => by omega⟩
   simp only [e, beq_self_eq_true, cond_true]
  ·have : (l.getD i.toNat 0 == n) = false := by rw [beq_eq_false_iff_ne]; exact e
   simp only [this, cond_false]
   rcases place_L0 l n m (i + 1) (by omega) (by omega) with ⟨a, b⟩ | ⟨j, a, b, c, d, f⟩
   ·refine .inl ⟨a, fun j j0 j1 => ?_⟩
    rcases Int.lt_or_eq_of_le j0 with h | rfl
    ·exact b j (by omega) j1
    ·exact e
   ·refine .inr ⟨j, a, by omega, c, d, fun q q0 q1 => ?_⟩
    rcases Int.lt_or_eq_of_le q0 with h | rfl
    ·exact f q (by omega) q1
    ·exact e
theorem place_first {l : List Int} {i : Int} (h0 : 0 ≤ i) (h1 : i < (l.length : Int)) : ∃ j, r14_place l (l.getD i.toNat 0) = j ∧ 0 ≤ j ∧ j ≤ i ∧ l.getD j.toNat 0 = l.getD i.toNat 0 ∧ ∀ q : Int, 0 ≤ q → q < j → l.getD q.toNat 0 ≠ l.getD i.toNat 0 := by
 unfold r14_place
 rw [show ((((l.length : Nat) : Int) : Int) - 0).toNat = l.length by omega]
 rcases place_L0 l (l.getD i.toNat 0) l.length 0 (by omega) (by omega) with ⟨a, b⟩ | ⟨j, a, b, c, d, f⟩
 ·exact absurd rfl (b i h0 h1)
 ·rw [a]
  refine ⟨j, rfl, b, ?_, d, f⟩
  rcases Int.lt_or_le i j with h | h
  ·exact absurd rfl (f i h0 h)
  ·exact h
theorem place14_eq (c : List Int) (m : Int) : r14_place c m = sc_Index_int c m := by
 have key : ∀ (r : Nat) (i : Int), r14_place_L0 c m r i = sc_Index_int_L0 c m r i := fun r => by
  induction r with
  | zero => intro i; rw [r14_place_L0, sc_Index_int_L0]
  | succ r ih =>
   intro i
   rw [r14_place_L0, sc_Index_int_L0, ih, show (c.getD (i : Int).toNat 0 == m) = (m == c.getD (i : Int).toNat 0) from Bool.beq_comm ..]
 unfold r14_place sc_Index_int
 rw [key]
 all_goals (cases sc_Index_int_L0 c m (((((c.length : Nat) : Int) : Int) - 0).toNat) 0 <;> rfl)
theorem repeated_iff (l : List Int) : r14_repeated l = false ↔ l.Nodup := by
 have sc := scan (fun r i => r14_repeated_L0 l r i) (fun i => r14_place l (l.getD i.toNat 0) != i) true () (fun _ => rfl) (fun _ _ => rfl) ((((l.length : Nat) : Int) - 0).toNat) 0
 unfold r14_repeated
 rw [nodup_getD]
 rcases sc with ⟨e, j, j1, j2, j3⟩ | ⟨e, h⟩
 ·rw [e]
  refine ⟨fun h => (by cases h), fun h => ?_⟩
  obtain ⟨q, a, b, c, d, f⟩ := place_first j1 (show j < (l.length : Int) by omega)
  rw [a] at j3
  have : q ≠ j := by simpa using j3
  exact absurd d (h q j b (by omega) (by omega))
 ·rw [e]
  refine ⟨fun _ i j i0 ij jl he => ?_, fun _ => rfl⟩
  obtain ⟨q, a, b, c, d, f⟩ := place_first (l := l) (i := j) (by omega) jl
  have h2 := h j (by omega) (by omega)
  rw [a] at h2
  have : q = j := by simpa using h2
  exact f i i0 (by omega) he
theorem find14_eq (k : List GKnown) (n : Int) : sc_IndexFunc_Known k (fun x => cn_Restrict_4 x n) = r14_find k n := by
 have key : ∀ (r : Nat) (i : Int), sc_IndexFunc_Known_L0 k (fun x => cn_Restrict_4 x n) r i = r14_find_L0 k n r i := fun r => by
  induction r with
  | zero => intro i; rw [sc_IndexFunc_Known_L0, r14_find_L0]
  | succ r ih =>
   intro i
   rw [sc_IndexFunc_Known_L0, r14_find_L0, ih]; rfl
 unfold sc_IndexFunc_Known r14_find
 rw [key]
 all_goals (cases r14_find_L0 k n (((((k.length : Nat) : Int) : Int) - 0).toNat) 0 <;> rfl)
theorem nd_L0 (k : List GKnown) : ∀ (r : Nat) (o : List Int) (i : Int), 0 ≤ i → i + (r : Int) = (k.length : Int) → r14_Restrict_L0 k r o i = o ++ (k.drop i.toNat).map GKnown.Node
 | 0, o, i, h0, h1 => by rw [r14_Restrict_L0, List.drop_of_length_le (by omega)]; simp
 | r + 1, o, i, h0, h1 => by
  rw [r14_Restrict_L0, nd_L0 k r _ _ (by omega) (by omega), dropz h0 (by omega)]
  simp
theorem kn2_L1 (k : List GKnown) : (sc_ContainsFunc_Known k (fun x => cn_Restrict_2 x) = false ∧ r14_Restrict_L1 k (((((k.length : Nat) : Int) : Int) - 0).toNat) 0 = .brk ()) ∨ (sc_ContainsFunc_Known k (fun x => cn_Restrict_2 x) = true ∧ r14_Restrict_L1 k (((((k.length : Nat) : Int) : Int) - 0).toNat) 0 = .ret ((GSystem.mk 0 [] [] []), 1)) := by
 have sc := scan (fun r i => r14_Restrict_L1 k r i) (fun i => !(r1_Valid ((k.getD (i : Int).toNat default).Value))) ((GSystem.mk 0 [] [] []), 1) () (fun _ => rfl) (fun _ _ => rfl) (((((k.length : Nat) : Int) : Int) - 0).toNat) 0
 rcases sc with ⟨e, j, j1, j2, j3⟩ | ⟨e, h⟩
 ·refine .inr ⟨(IndexFuncK_any _ _).2 ⟨k.getD j.toNat default, getD_mem (by omega), ?_⟩, e⟩
  unfold cn_Restrict_2
  rw [setValid_eq]; exact j3
 ·refine .inl ⟨?_, e⟩
  rw [Bool.eq_false_iff]
  intro hc
  obtain ⟨x, hx, h2⟩ := (IndexFuncK_any _ _).1 hc
  obtain ⟨j, j0, j1, rfl⟩ := (mem_getDg (d := default)).1 hx
  unfold cn_Restrict_2 at h2
  rw [setValid_eq] at h2
  have h3 := h j j0 (by omega)
  try dsimp only at h3
  rw [h3] at h2
  cases h2
theorem kn3_L2 (s : GSystem) (k : List GKnown) : (sc_ContainsFunc_Known k (fun x => cn_Restrict_3 x s) = false ∧ r14_Restrict_L2 s k (((((k.length : Nat) : Int) : Int) - 0).toNat) 0 = .brk ()) ∨ (sc_ContainsFunc_Known k (fun x => cn_Restrict_3 x s) = true ∧ r14_Restrict_L2 s k (((((k.length : Nat) : Int) : Int) - 0).toNat) 0 = .ret ((GSystem.mk 0 [] [] []), 2)) := by
 have sc := scan (fun r i => r14_Restrict_L2 s k r i) (fun i => ((k.getD (i : Int).toNat default).Value).Width != s.Width) ((GSystem.mk 0 [] [] []), 2) () (fun _ => rfl) (fun _ _ => rfl) (((((k.length : Nat) : Int) : Int) - 0).toNat) 0
 rcases sc with ⟨e, j, j1, j2, j3⟩ | ⟨e, h⟩
 ·exact .inr ⟨(IndexFuncK_any _ _).2 ⟨k.getD j.toNat default, getD_mem (by omega), j3⟩, e⟩
 ·refine .inl ⟨?_, e⟩
  rw [Bool.eq_false_iff]
  intro hc
  obtain ⟨x, hx, h2⟩ := (IndexFuncK_any _ _).1 hc
  obtain ⟨j, j0, j1, rfl⟩ := (mem_getDg (d := default)).1 hx
  unfold cn_Restrict_3 at h2
  have h3 := h j j0 (by omega)
  try dsimp only at h3
  rw [h3] at h2
  cases h2
theorem rR_L4 {s : GSystem} {c : List Int} {i : Int} {d : List Int} (hd : d = s.Deps.getD ((c.getD (i : Int).toNat 0) : Int).toNat []) : ∀ (r : Nat) (o : List Int) (j : Int), 0 ≤ j → j + (r : Int) = (d.length : Int) → Asc o (c.length : Int) →
  Asc (r14_Restrict_L4 s c i r o j) (c.length : Int) ∧ ∀ y, y ∈ r14_Restrict_L4 s c i r o j ↔ y ∈ o ∨ y ∈ posL c (d.drop j.toNat)
 | 0, o, j, h0, h1, ha => by
  rw [r14_Restrict_L4, List.drop_of_length_le (by omega)]
  exact ⟨ha, fun y => ⟨.inl, fun h => h.resolve_right (fun h => by cases h)⟩⟩
 | r + 1, o, j, h0, h1, ha => by
  rw [r14_Restrict_L4]
  dsimp only
  rw [place14_eq, ← hd, dropz h0 (by omega), posL_cons, show d.getD (j : Int).toNat 0 = d.getD j.toNat default from rfl]
  rcases Index_spec c (d.getD j.toNat default) with ⟨e, -⟩ | ⟨e1, e2, -⟩
  ·rw [e, decide_eq_false (by omega), cond_false, if_neg (by omega), List.nil_append]
   exact rR_L4 hd r o (j + 1) (by omega) (by omega) ha
  ·rw [decide_eq_true e1, cond_true, if_pos e1]
   have hI := Ins_sp14 ha ⟨e1, e2⟩
   obtain ⟨b1, b2⟩ := rR_L4 hd r _ (j + 1) (by omega) (by omega) hI.1
   refine ⟨b1, fun y => (b2 y).trans ?_⟩
   rw [hI.2, List.mem_append, List.mem_singleton]
   constructor
   ·rintro ((h | h) | h)
    ·exact .inr (.inl h)
    ·exact .inl h
    ·exact .inr (.inr h)
   ·rintro (h | h | h)
    ·exact .inl (.inr h)
    ·exact .inl (.inl h)
    ·exact .inr h
theorem dep_eq {s : GSystem} {c : List Int} {i : Int} (hd : (s.Deps.getD ((c.getD (i : Int).toNat 0) : Int).toNat []).Nodup) (hl : (s.Deps.getD ((c.getD (i : Int).toNat 0) : Int).toNat []).length ≤ 65535) :
  sc_Sort_int (cn_Restrict_L1 c (s.Deps.getD ((c.getD (i : Int).toNat 0) : Int).toNat []) ((((((s.Deps.getD ((c.getD (i : Int).toNat 0) : Int).toNat []).length : Nat) : Int) : Int) - 0).toNat) [] 0) = r14_Restrict_L4 s c i ((((((s.Deps.getD ((c.getD (i : Int).toNat 0) : Int).toNat []).length : Nat) : Int) : Int) - 0).toNat) [] 0 := by
 have hn : Asc [] (c.length : Int) := fun k h1 h2 => by simp at h2; omega
 obtain ⟨b1, b2⟩ := rR_L4 (s := s) (c := c) (i := i) rfl ((((((s.Deps.getD ((c.getD (i : Int).toNat 0) : Int).toNat []).length : Nat) : Int) : Int) - 0).toNat) [] 0 (by omega) (by omega) hn
 generalize s.Deps.getD ((c.getD (i : Int).toNat 0) : Int).toNat [] = d at *
 rw [Restrict_L1 c d _ [] 0 (by omega) (by omega), List.nil_append, show (0 : Int).toNat = 0 from rfl, List.drop_zero]
 rw [show (0 : Int).toNat = 0 from rfl, List.drop_zero] at b2
 obtain ⟨k1, k2⟩ := Sort_pw (posL c d) (Nat.le_trans (posL_len c d) hl)
 have hnd : (sc_Sort_int (posL c d)).Nodup := k1.nodup_iff.2 (posL_nodup hd)
 have ha : Asc (sc_Sort_int (posL c d)) (c.length : Int) := (Asc_iff _ _).2 ⟨(k2.and hnd).imp (fun hh => by omega), fun x hx => by
  obtain ⟨n, -, hc, rfl⟩ := mem_posL.1 (k1.mem_iff.1 hx)
  rcases Index_spec c n with ⟨-, e⟩ | ⟨e1, e2, -⟩
  ·exact absurd hc e
  ·exact ⟨e1, e2⟩⟩
 exact List.Perm.eq_of_pairwise (le := (· < ·)) (fun x y _ _ h1 h2 => absurd h2 (by omega)) ((Asc_iff _ _).1 ha).1 ((Asc_iff _ _).1 b1).1 ((List.perm_ext_iff_of_nodup hnd (Asc_nd b1)).2 (fun {x} => by
  rw [k1.mem_iff, b2]
  exact ⟨.inr, fun h => h.resolve_left (fun h => by cases h)⟩))
theorem rR_L3 {s : GSystem} {c : List Int} (w : List GKnown) (hd : ∀ x ∈ c, (s.Deps.getD x.toNat []).Nodup ∧ (s.Deps.getD x.toNat []).length ≤ 65535) : ∀ (r : Nat) (o1 : List (List Int)) (o2 : List GTransfer) (o3 : List GSet) (i : Int), 0 ≤ i → i + (r : Int) = (c.length : Int) → cn_Restrict_L0 s c w r o1 o2 o3 i = r14_Restrict_L3 s c w r o1 o2 o3 i
 | 0, o1, o2, o3, i, h0, h1 => by rw [cn_Restrict_L0, r14_Restrict_L3]
 | r + 1, o1, o2, o3, i, h0, h1 => by
  have hq := hd _ (getD_mem (xs := c) (i := i.toNat) (d := 0) (by omega))
  rw [cn_Restrict_L0, r14_Restrict_L3]
  dsimp only
  rw [find14_eq, dep_eq hq.1 hq.2]
  cases decide (0 ≤ r14_find w (c.getD (i : Int).toNat 0))
  ·rw [cond_false, cond_false]
   exact rR_L3 w hd r _ _ _ _ (by omega) (by omega)
  ·rw [cond_true, cond_true]
   exact rR_L3 w hd r _ _ _ _ (by omega) (by omega)
theorem cRestrict_eq (s : GSystem) (c : List Int) (w : List GKnown) (hc : c.length ≤ 65535) : cn_Restrict s c w = r14_Restrict s c w := by
 unfold cn_Restrict r14_Restrict
 rw [Eval_eq]
 cases hv : r10_Valid s
 ·rfl
 have hV := (RefValid_iff s).1 hv
 dsimp only
 rw [Bool.not_true, cond_false, cond_false, nd_L0 w _ [] 0 (by omega) (by omega), List.nil_append, show (0 : Int).toNat = 0 from rfl, List.drop_zero, unk_eq hV, kn1_eq hV]
 cases h2 : r14_inside s c
 ·rfl
 rw [Bool.not_true, cond_false, cond_false]
 cases h3 : r14_inside s (w.map GKnown.Node)
 ·rfl
 rw [Bool.not_true, cond_false, cond_false]
 have hdi := cdist_iff hc
 by_cases h4 : c = []
 ·have : cn_distinct c = false := by rw [Bool.eq_false_iff]; exact fun h => (hdi.1 h).1 h4
  rw [this, h4]; rfl
 rw [show (((c.length : Nat) : Int) == 0) = false from beq_eq_false_iff_ne.2 (fun e => h4 (List.length_eq_zero_iff.1 (by omega))), cond_false]
 cases h5 : r14_repeated c
 ·rw [hdi.2 ⟨h4, (repeated_iff c).1 h5⟩, Bool.not_true, cond_false, cond_false]
  rcases kn2_L1 w with ⟨a1, a2⟩ | ⟨a1, a2⟩
  ·rw [a1, a2, cond_false]
   dsimp only
   rcases kn3_L2 s w with ⟨b1, b2⟩ | ⟨b1, b2⟩
   ·rw [b1, b2, cond_false]
    dsimp only
    rw [rR_L3 w (fun x hx => deps_nd hV (by have := (inside_iff s c).1 h2 x hx; rw [hV.bl] at this; exact this)) _ _ _ _ 0 (by omega) (by omega)]
   ·rw [b1, b2]; rfl
  ·rw [a1, a2]; rfl
 ·have : cn_distinct c = false := by
   rw [Bool.eq_false_iff]
   intro h
   have := (repeated_iff c).2 (hdi.1 h).2
   rw [this] at h5; cases h5
  rw [this]; rfl
theorem Ints_self (a : List Int) : r7_Ints a a = true := by
 have := scan (fun r i => r7_Ints_L0 a a r i) (fun i => a.getD i.toNat 0 != a.getD i.toNat 0) false () (fun _ => rfl) (fun _ _ => rfl) ((((a.length : Nat) : Int) - 0).toNat) 0
 unfold r7_Ints
 rcases this with ⟨e, j, j1, j2, j3⟩ | ⟨e, h⟩
 ·simp at j3
 ·rw [e]; simp
theorem SLc_rf (a : List (List Int)) : r7_SameLists a a = true := by
 have l0 : ∀ (r : Nat) (i : Int), r7_SameLists_L0 a a r i = .brk () := fun r => by
  induction r with
  | zero => intro i; rw [r7_SameLists_L0]
  | succ r ih => intro i; rw [r7_SameLists_L0, Ints_self]; exact ih (i + 1)
 unfold r7_SameLists
 rw [bne_self_eq_false, l0]; rfl
theorem Equals_rf (f : GTransfer) : r1_Equals f f = true := by
 have l0 : ∀ (r : Nat) (i : Int), r1_Equals_L0 f f r i = .brk () := fun r => by
  induction r with
  | zero => intro i; rw [r1_Equals_L0]
  | succ r ih => intro i; rw [r1_Equals_L0, bne_self_eq_false, cond_false, ih]
 have sm : ∀ a : GSet, r1_Same a a = true := fun a => by
  have l1 : ∀ (r : Nat) (i : Int), r1_Same_L0 a a r i = .brk () := fun r => by
   induction r with
   | zero => intro i; rw [r1_Same_L0]
   | succ r ih => intro i; rw [r1_Same_L0, bne_self_eq_false, cond_false, ih]
  unfold r1_Same
  rw [bne_self_eq_false, bne_self_eq_false, l1]; rfl
 unfold r1_Equals
 rw [sm, sm, bne_self_eq_false, l0]; rfl
theorem SSys_rf (s : GSystem) : r10_SameSystem s s = true := by
 have l0 : ∀ (r : Nat) (i : Int), r10_SameSystem_L0 s s r i = .brk () := fun r => by
  induction r with
  | zero => intro i; rw [r10_SameSystem_L0]
  | succ r ih => intro i; rw [r10_SameSystem_L0, Equals_rf]; exact ih (i + 1)
 unfold r10_SameSystem
 rw [bne_self_eq_false, SLc_rf, (SameSets_iff s.Boundary s.Boundary).2 rfl, bne_self_eq_false, l0]; rfl
theorem Contains_iff (l : List Int) (n : Int) : sc_Contains_int l n = true ↔ n ∈ l := by
 have := scan' (fun r i => sc_Index_int_L0 l n r i) (fun i => n == l.getD i.toNat 0) () (fun _ => rfl) (fun _ _ => rfl) ((((l.length : Nat) : Int) - 0).toNat) 0
 unfold sc_Contains_int sc_Index_int
 rw [mem_getD]
 rcases this with ⟨j, e, j1, j2, j3⟩ | ⟨e, h⟩
 ·rw [e]
  exact ⟨fun _ => ⟨j, j1, by omega, (eq_of_beq j3).symm⟩, fun _ => by simpa using j1⟩
 ·rw [e]
  refine ⟨fun h => by simp at h, ?_⟩
  rintro ⟨j, j1, j2, j3⟩
  have := h j j1 (by omega)
  simp only [j3] at this; simp at this
theorem Contains_eq (l : List Int) (n : Int) : sc_Contains_int l n = r7_Has l n := by
 rw [Bool.eq_iff_iff, Contains_iff, Has_iff]
theorem cDep_L0 (s : GSystem) (c : List Int) (lf : List Bool) (i : Int) : ∀ (r : Nat) (o : List Int) (j : Int), cn_Dependents_L0 s c lf i r o j = r14_Dependents_L0 s c lf i r o j
 | 0, o, j => by rw [cn_Dependents_L0, r14_Dependents_L0]
 | r + 1, o, j => by
  have e : ∀ (l : List Int) (x : Int), sc_Contains_int l x = r7_Has l x := fun l x => by rw [Bool.eq_iff_iff, Contains_iff, Has_iff]
  rw [cn_Dependents_L0, r14_Dependents_L0]
  simp only [e, cDep_L0 s c lf i r]
theorem cDep_eq (s : GSystem) (c : List Int) (lf : List Bool) (i : Int) : cn_Dependents s c lf i = r14_Dependents s c lf i := by
 unfold cn_Dependents r14_Dependents
 rw [Eval_eq]
 cases hv : r10_Valid s
 ·rfl
 dsimp only
 rw [unk_eq ((RefValid_iff s).1 hv), cDep_L0]
theorem Clip_eq (l : List Int) : sc_Clip_int l = l := by
 unfold sc_Clip_int
 simp
theorem Of_L1_ok {n : Int} {d : List Int} (hd : ∀ x ∈ d, 0 ≤ x ∧ x < n) : ∀ (m : Nat) (out : List Int) (found : List Bool) (cost k : Int), 0 ≤ k → k + m ≤ (d.length : Int) → okFound n out found →
  okFound n (cn_Of_L1 d m out found cost k).1 (cn_Of_L1 d m out found cost k).2.1 ∧ out.length ≤ (cn_Of_L1 d m out found cost k).1.length ∧ (cn_Of_L1 d m out found cost k).2.2 = cost + m ∧ (cn_Of_L1 d m out found cost k).1 = r14_Cone_L1 d m out k
 | 0, out, found, cost, k, _, _, h => ⟨h, Nat.le_refl _, by simp [cn_Of_L1], rfl⟩
 | m + 1, out, found, cost, k, hk, hk2, h => by
  rw [cn_Of_L1, r14_Cone_L1]
  have hx := hd _ (getD_mem (xs := d) (i := k.toNat) (d := 0) (by omega))
  have hh := h.2.2 _ hx.1 hx.2
  cases hf : found.getD (d.getD k.toNat 0).toNat false with
  | true =>
   have h2 := (Has_iff out _).2 (hh.1 hf)
   simp only [Bool.not_true, cond_false, h2]
   have := Of_L1_ok hd m out found (cost + 1) (k + 1) (by omega) (by omega) h
   exact ⟨this.1, this.2.1, by rw [this.2.2.1]; omega, this.2.2.2⟩
  | false =>
   have h2 : r7_Has out (d.getD k.toNat 0) = false := by
    cases h3 : r7_Has out (d.getD k.toNat 0) with
    | false => rfl
    | true => rw [hh.2 ((Has_iff out _).1 h3)] at hf; cases hf
   simp only [Bool.not_false, cond_true, h2]
   have := Of_L1_ok hd m (out ++ [d.getD k.toNat 0]) (found.set (d.getD k.toNat 0).toNat true) (cost + 1) (k + 1) (by omega) (by omega) (okFound_push h hf hx.1 hx.2)
   exact ⟨this.1, by have := this.2.1; simp only [List.length_append, List.length_cons, List.length_nil] at this; omega, by rw [this.2.2.1]; omega, this.2.2.2⟩
theorem Of_L0_term {s : GSystem} {leaves : List Int} (hv : eq_Valid s = true) : ∀ (m : Nat) (out : List Int) (found : List Bool) (cost i : Int), 0 ≤ i → i ≤ (out.length : Int) → (s.Deps.length : Int) < i + m → okFound (s.Deps.length : Int) out found → cn_Of_L0 s leaves m out found cost i ≠ .oof
 | 0, out, found, cost, i, h0, hi, h1, h2 => by have := (okFound_len h2).1; omega
 | m + 1, out, found, cost, i, h0, hi, h1, h2 => by
  rw [cn_Of_L0]
  cases hlt : decide (i < (out.length : Int)) with
  | false => simp only [cond_false]; intro h; cases h
  | true =>
   have hlt := of_decide_eq_true hlt
   have hx := h2.1.2 _ (getD_mem (xs := out) (i := i.toNat) (d := 0) (by omega))
   simp only [cond_true]
   cases sc_Contains_int leaves (out.getD i.toNat 0) with
   | true => exact Of_L0_term hv m out found (cost + 1) (i + 1) (by omega) (by omega) (by omega) h2
   | false =>
    simp only [cond_false]
    have h3 := Of_L1_ok (EValid_dep_mem hv hx.1 hx.2) ((((s.Deps.getD (out.getD i.toNat 0).toNat []).length : Nat) : Int) - 0).toNat out found (cost + 1) 0 (by omega) (by omega) h2
    exact Of_L0_term hv m _ _ _ (i + 1) (by omega) (by have := h3.2.1; omega) (by omega) h3.1
theorem of_term {s : GSystem} {root : Int} {leaves : List Int} (hv : eq_Valid s = true) (hi : cn_unknowns s [root] = true) : cn_Of_L0 s leaves (s.Deps.length + 1) [root] ((List.replicate (((s.Deps.length : Nat) : Int) : Int).toNat false).set (root : Int).toNat true) 0 0 ≠ .oof :=
 Of_L0_term hv _ _ _ _ _ (by omega) (by simp) (by omega) (okFound_one hi)
theorem Of_L0_eq {s : GSystem} {leaves : List Int} (hv : eq_Valid s = true) : ∀ (m : Nat) (out : List Int) (found : List Bool) (cost i : Int), 0 ≤ i → okFound (s.Deps.length : Int) out found →
  (cn_Of_L0 s leaves m out found cost i) = r14_Cone_L0 s leaves m out cost i
 | 0, out, found, cost, i, _, _ => rfl
 | m + 1, out, found, cost, i, h0, h => by
  rw [cn_Of_L0, r14_Cone_L0]
  by_cases hlt : i < (out.length : Int)
  ·have hx := h.1.2 _ (getD_mem (xs := out) (i := i.toNat) (d := 0) (by omega))
   simp only [decide_eq_true hlt, cond_true, Contains_eq]
   cases r7_Has leaves (out.getD i.toNat 0) with
   | true => exact Of_L0_eq hv m out found (cost + 1) (i + 1) (by omega) h
   | false =>
    simp only [cond_false]
    have h3 := Of_L1_ok (EValid_dep_mem hv hx.1 hx.2) ((((s.Deps.getD (out.getD i.toNat 0).toNat []).length : Nat) : Int) - 0).toNat out found (cost + 1) 0 (by omega) (by omega) h
    rw [Of_L0_eq hv m _ _ _ (i + 1) (by omega) h3.1, h3.2.2.1, h3.2.2.2]
    congr 1
    all_goals omega
  ·simp only [decide_eq_false hlt, cond_false]
theorem Cone_eq (s : GSystem) (root : Int) (leaves : List Int) : cn_Of s root leaves = r14_Cone s root leaves := by
 unfold cn_Of r14_Cone
 rw [← Valid_eq]
 cases hv : eq_Valid s with
 | false => rfl
 | true =>
  have hs := (EValid_iff s).1 hv
  simp only [unknowns_eq hs, Bool.not_true, cond_false]
  cases h1 : r14_inside s [root] with
  | false => rfl
  | true =>
   cases h2 : r14_inside s leaves with
   | false => rfl
   | true =>
    simp only [Bool.not_true, cond_false]
    rw [Of_L0_eq hv _ _ _ _ _ (by omega) (okFound_one (by rw [unknowns_eq hs]; exact h1))]
    have ht := cn_term (leaves := leaves) (by rw [← Valid_eq]; exact hv) h1
    generalize r14_Cone_L0 s leaves (s.Deps.length + 1) [root] 0 0 = r at ht
    cases r with
    | brk p => obtain ⟨p, q⟩ := p; simp only [Clip_eq]
    | ret _ => rfl
    | oof => exact absurd rfl ht
theorem Of_ok {s : GSystem} {root : Int} {leaves : List Int} (hv : VSys s) : okOut (s.Deps.length : Int) (cn_Of s root leaves).1 := by
 have hR := (RefValid_iff s).2 hv
 have hb := hv.bl
 rw [Cone_eq]
 unfold r14_Cone
 simp only [hR, Bool.not_true, cond_false]
 have nil : okOut (s.Deps.length : Int) ([] : List Int) := ⟨List.nodup_nil, by simp⟩
 cases hi : r14_inside s [root] with
 | false => exact nil
 | true =>
  simp only [Bool.not_true, cond_false]
  cases hl : r14_inside s leaves with
  | false => exact nil
  | true =>
   simp only [Bool.not_true, cond_false]
   cases hL : r14_Cone_L0 s leaves (s.Deps.length + 1) [root] 0 0 with
   | brk p =>
    obtain ⟨o, c⟩ := p
    have := Cone_L0_ok hR _ _ _ _ _ _ (by omega) (okOut_one hi) hL
    rw [← hb]; exact this
   | ret p => exact nil
   | oof => exact nil
theorem Of_facts {s : GSystem} {root : Int} {leaves : List Int} {r : List Int × Int × Int} (h : cn_Of s root leaves = r) (hv : VSys s) : r.1.Nodup ∧ r.1.length ≤ s.Deps.length := by
 subst h
 have := Of_ok (root := root) (leaves := leaves) hv
 exact ⟨this.1, by have := okOut_len this (by omega); omega⟩
theorem Cone_len {s : GSystem} {root : Int} {lv : List Int} {r : List Int × Int × Int} (h : r14_Cone s root lv = r) (hv : VSys s) : r.1.length ≤ 256 := by
 have h1 := Of_facts (s := s) (root := root) (leaves := lv) (r := r) (by rw [Cone_eq]; exact h) hv
 have := hv.n
 omega
theorem sane14_true : w14_sane = true := by kernel_rfl
theorem CR_L1 (t : List Int) (l : List Int) : ∀ (r : Nat) (k : Int) (lf : List Bool) (j : Int), 0 ≤ j → j + (r : Int) = (l.length : Int) + 2 → j ≤ (l.length : Int) + 1 → ∃ a, w14_ConeRestricts_L1 t l r k lf j = .brk a
 | 0, k, lf, j, h0, h1, h2 => by omega
 | r + 1, k, lf, j, h0, h1, h2 => by
  rw [w14_ConeRestricts_L1]
  try dsimp only
  have hn := Next_rg t k 9 (by omega)
  by_cases c : j < (((l.length : Nat) : Int) + ((tp_Next t k 9).1 / 8))
  ·rw [decide_eq_true c, cond_true]
   exact CR_L1 t l r _ _ (j + 1) (by omega) (by omega) (by omega)
  ·rw [decide_eq_false c]
   exact ⟨_, rfl⟩
theorem CR_t {t : List Int} {l : List Int} {k : Int} : w14_ConeRestricts_L1 t l (fl (l.length + 2)) k [] 0 ≠ .oof := by
 rw [fl_eq]
 obtain ⟨a, e⟩ := CR_L1 t l (l.length + 2) k [] 0 (by omega) (by omega) (by omega)
 rw [e]; exact fun h => by cases h
theorem CR_L0 (t : List Int) : ∀ (r : Nat) (k i : Int), w14_ConeRestricts_L0 t r k i = .brk ()
 | 0, k, i => by rw [w14_ConeRestricts_L0]
 | r + 1, k, i => by
  rw [w14_ConeRestricts_L0]
  dsimp only
  have hS := System_V t k (n := 6) (by omega)
  cases ((tp_Next t (tp_Next t (tp_System t k 6).2 (((tp_System t k 6).1.Deps.length : Nat) : Int)).2 4).1 == 0)
  ·rw [cond_false]
   have hl := Cone_len (s := (tp_System t k 6).1) (root := (tp_Next t (tp_System t k 6).2 (((tp_System t k 6).1.Deps.length : Nat) : Int)).1) (lv := []) rfl hS
   generalize (r14_Cone (tp_System t k 6).1 (tp_Next t (tp_System t k 6).2 (((tp_System t k 6).1.Deps.length : Nat) : Int)).1 ([] : List Int)).1 = l at *
   generalize w14_known t (tp_Next t (tp_Next t (tp_System t k 6).2 (((tp_System t k 6).1.Deps.length : Nat) : Int)).2 4).2 (tp_System t k 6).1 true = w
   obtain ⟨⟨a0, a1⟩, e⟩ := CR_L1 t l (l.length + 2) w.2 [] 0 (by omega) (by omega) (by omega)
   rw [fl_eq, e, cRestrict_eq _ _ _ (by omega)]
   dsimp only
   rw [cDep_eq, bne_self_eq_false, cond_false, SSys_rf, Bool.not_true, cond_false, Ints_self, Bool.not_true, cond_false]
   exact CR_L0 t r _ _
  ·rw [cond_true]
   have hl := list14_len t (tp_Next t (tp_Next t (tp_System t k 6).2 (((tp_System t k 6).1.Deps.length : Nat) : Int)).2 4).2 (((tp_System t k 6).1.Deps.length : Nat) : Int)
   generalize w14_list t (tp_Next t (tp_Next t (tp_System t k 6).2 (((tp_System t k 6).1.Deps.length : Nat) : Int)).2 4).2 (((tp_System t k 6).1.Deps.length : Nat) : Int) = L at *
   obtain ⟨l, k3⟩ := L
   dsimp only at hl ⊢
   generalize w14_known t k3 (tp_System t k 6).1 true = w
   obtain ⟨⟨a0, a1⟩, e⟩ := CR_L1 t l (l.length + 2) w.2 [] 0 (by omega) (by omega) (by omega)
   rw [fl_eq, e, cRestrict_eq _ _ _ (by omega)]
   dsimp only
   rw [cDep_eq, bne_self_eq_false, cond_false, SSys_rf, Bool.not_true, cond_false, Ints_self, Bool.not_true, cond_false]
   exact CR_L0 t r _ _
theorem ConeRestricts_true (t : List Int) (s : GSystem) (c : List Int) (k2 : List GKnown) (i : Int) : w14_ConeRestricts t s c k2 i = true := by
 unfold w14_ConeRestricts
 dsimp only
 rw [CR_L0]
 dsimp only
 rw [sane14_true]
 cases g_Huge s
 ·rw [cond_false]
  by_cases h1 : 30 < ((c.length : Nat) : Int)
  ·rw [decide_eq_true h1]; rfl
  rw [decide_eq_false h1, cond_false]
  cases decide (20 < ((k2.length : Nat) : Int))
  ·rw [cond_false, cRestrict_eq _ _ _ (by omega), cDep_eq, SSys_rf, Ints_self]
   simp
  ·rfl
 ·rfl
theorem fo48_1 : fldOff Tryz.prog 48 1 = some 1 := by kernel_rfl
theorem sh3 : tyShape Tryz.prog 3 = some (false, 1) := by kernel_rfl
theorem fo48_0 : fldOff Tryz.prog 48 0 = some 0 := by kernel_rfl
theorem sh22 : tyShape Tryz.prog 22 = some (false, 1) := by kernel_rfl
theorem sl22 : slTy Tryz.prog 22 = some (3, 1, 8) := by kernel_rfl
theorem ca26 : callable Tryz.prog 26 = true := by kernel_rfl
theorem fmix : Tryz.prog.follows .mixedOrders = true := by kernel_rfl
theorem ze53 : zeroOf Tryz.prog 53 = some (.agg #[vi 0, .slice none 0 0]) := by kernel_rfl
theorem sl51 : slTy Tryz.prog 51 = some (95, 1, 8) := by kernel_rfl
theorem sz51 : slZero Tryz.prog 51 = some [u64 (0#64)] := by kernel_rfl
theorem st53 : stTy Tryz.prog 53 = some ([(0, 1), (1, 1)], [vi 0, .slice none 0 0]) := by kernel_rfl
theorem sh53 : tyShape Tryz.prog 53 = some (true, 2) := by kernel_rfl
theorem ze27 : zeroOf Tryz.prog 27 = some (.agg #[vi 0, .slice none 0 0, .slice none 0 0, .slice none 0 0]) := by kernel_rfl
theorem ca18 : callable Tryz.prog 18 = true := by kernel_rfl
theorem st27 : stTy Tryz.prog 27 = some ([(0, 1), (1, 1), (2, 1), (3, 1)], [vi 0, .slice none 0 0, .slice none 0 0, .slice none 0 0]) := by kernel_rfl
theorem sh27 : tyShape Tryz.prog 27 = some (true, 4) := by kernel_rfl
theorem ca19 : callable Tryz.prog 19 = true := by kernel_rfl
theorem fo27_0 : fldOff Tryz.prog 27 0 = some 0 := by kernel_rfl
theorem ca21 : callable Tryz.prog 21 = true := by kernel_rfl
theorem fo27_1 : fldOff Tryz.prog 27 1 = some 1 := by kernel_rfl
theorem sh23 : tyShape Tryz.prog 23 = some (false, 1) := by kernel_rfl
theorem sl23 : slTy Tryz.prog 23 = some (22, 1, 24) := by kernel_rfl
theorem sz23 : slZero Tryz.prog 23 = some [.slice none 0 0] := by kernel_rfl
theorem fo27_3 : fldOff Tryz.prog 27 3 = some 3 := by kernel_rfl
theorem sh25 : tyShape Tryz.prog 25 = some (false, 1) := by kernel_rfl
theorem sl25 : slTy Tryz.prog 25 = some (53, 2, 32) := by kernel_rfl
theorem sz25 : slZero Tryz.prog 25 = some [vi 0, .slice none 0 0] := by kernel_rfl
theorem fo27_2 : fldOff Tryz.prog 27 2 = some 2 := by kernel_rfl
theorem sh24 : tyShape Tryz.prog 24 = some (false, 1) := by kernel_rfl
theorem ca22 : callable Tryz.prog 22 = true := by kernel_rfl
theorem sl24 : slTy Tryz.prog 24 = some (57, 5, 88) := by kernel_rfl
theorem sz24 : slZero Tryz.prog 24 = some [vi 0, .slice none 0 0, vi 0, .slice none 0 0, .slice none 0 0] := by kernel_rfl
theorem ca96 : callable Tryz.prog 96 = true := by kernel_rfl
theorem un3 : Tryz.prog.underlying 3 = some (.int .i64) := by kernel_rfl
theorem un84 : Tryz.prog.underlying 84 = some (.int .u64) := by kernel_rfl
theorem ca67 : callable Tryz.prog 67 = true := by kernel_rfl
theorem ca68 : callable Tryz.prog 68 = true := by kernel_rfl
theorem ca69 : callable Tryz.prog 69 = true := by kernel_rfl
theorem fo53_0 : fldOff Tryz.prog 53 0 = some 0 := by kernel_rfl
theorem ca20 : callable Tryz.prog 20 = true := by kernel_rfl
theorem fo53_1 : fldOff Tryz.prog 53 1 = some 1 := by kernel_rfl
theorem sh51 : tyShape Tryz.prog 51 = some (false, 1) := by kernel_rfl
theorem sh95 : tyShape Tryz.prog 95 = some (false, 1) := by kernel_rfl
theorem ca34 : callable Tryz.prog 34 = true := by kernel_rfl
theorem ca79 : callable Tryz.prog 79 = true := by kernel_rfl
theorem ca78 : callable Tryz.prog 78 = true := by kernel_rfl
theorem ze57 : zeroOf Tryz.prog 57 = some (.agg #[vi 0, .slice none 0 0, vi 0, .slice none 0 0, .slice none 0 0]) := by kernel_rfl
theorem st57 : stTy Tryz.prog 57 = some ([(0, 2), (2, 2), (4, 1)], [vi 0, .slice none 0 0, vi 0, .slice none 0 0, .slice none 0 0]) := by kernel_rfl
theorem sh57 : tyShape Tryz.prog 57 = some (true, 5) := by kernel_rfl
theorem fo57_0 : fldOff Tryz.prog 57 0 = some 0 := by kernel_rfl
theorem fo57_1 : fldOff Tryz.prog 57 1 = some 2 := by kernel_rfl
theorem fo57_2 : fldOff Tryz.prog 57 2 = some 4 := by kernel_rfl
theorem sh55 : tyShape Tryz.prog 55 = some (false, 1) := by kernel_rfl
theorem sl55 : slTy Tryz.prog 55 = some (74, 2, 16) := by kernel_rfl
theorem st74 : stTy Tryz.prog 74 = some ([(0, 1), (1, 1)], [vi 0, vi 0]) := by kernel_rfl
theorem sz55 : slZero Tryz.prog 55 = some [vi 0, vi 0] := by kernel_rfl
theorem ca80 : callable Tryz.prog 80 = true := by kernel_rfl
theorem ca104 : callable Tryz.prog 104 = true := by kernel_rfl
theorem sz22 : slZero Tryz.prog 22 = some [vi 0] := by kernel_rfl
theorem ca7 : callable Tryz.prog 7 = true := by kernel_rfl
theorem fo74_0 : fldOff Tryz.prog 74 0 = some 0 := by kernel_rfl
theorem fo74_1 : fldOff Tryz.prog 74 1 = some 1 := by kernel_rfl
theorem ca108 : callable Tryz.prog 108 = true := by kernel_rfl
theorem ca107 : callable Tryz.prog 107 = true := by kernel_rfl
theorem ca43 : callable Tryz.prog 43 = true := by kernel_rfl
theorem sh74 : tyShape Tryz.prog 74 = some (true, 2) := by kernel_rfl
theorem ze74 : zeroOf Tryz.prog 74 = some (.agg #[vi 0, vi 0]) := by kernel_rfl
theorem ca76 : callable Tryz.prog 76 = true := by kernel_rfl
theorem ca97 : callable Tryz.prog 97 = true := by kernel_rfl
theorem ca98 : callable Tryz.prog 98 = true := by kernel_rfl
theorem ca81 : callable Tryz.prog 81 = true := by kernel_rfl
theorem ca62 : callable Tryz.prog 62 = true := by kernel_rfl
theorem ca57 : callable Tryz.prog 57 = true := by kernel_rfl
theorem ca58 : callable Tryz.prog 58 = true := by kernel_rfl
theorem ca59 : callable Tryz.prog 59 = true := by kernel_rfl
theorem ca61 : callable Tryz.prog 61 = true := by kernel_rfl
theorem ca60 : callable Tryz.prog 60 = true := by kernel_rfl
theorem ca82 : callable Tryz.prog 82 = true := by kernel_rfl
theorem ca64 : callable Tryz.prog 64 = true := by kernel_rfl
theorem ca63 : callable Tryz.prog 63 = true := by kernel_rfl
theorem ca27 : callable Tryz.prog 27 = true := by kernel_rfl
theorem st65 : stTy Tryz.prog 65 = some ([(0, 1), (1, 2)], [vi 0, vi 0, .slice none 0 0]) := by kernel_rfl
theorem ze65 : zeroOf Tryz.prog 65 = some (.agg #[vi 0, vi 0, .slice none 0 0]) := by kernel_rfl
theorem sh65 : tyShape Tryz.prog 65 = some (true, 3) := by kernel_rfl
theorem fo65_1 : fldOff Tryz.prog 65 1 = some 1 := by kernel_rfl
theorem fo65_0 : fldOff Tryz.prog 65 0 = some 0 := by kernel_rfl
theorem sl28 : slTy Tryz.prog 28 = some (65, 3, 40) := by kernel_rfl
theorem sz28 : slZero Tryz.prog 28 = some [vi 0, vi 0, .slice none 0 0] := by kernel_rfl
theorem ca38 : callable Tryz.prog 38 = true := by kernel_rfl
theorem ca29 : callable Tryz.prog 29 = true := by kernel_rfl
theorem ca89 : callable Tryz.prog 89 = true := by kernel_rfl
theorem ca99 : callable Tryz.prog 99 = true := by kernel_rfl
theorem un95 : Tryz.prog.underlying 95 = some (.int .u64) := by kernel_rfl
theorem un5 : Tryz.prog.underlying 5 = some (.int .u8) := by kernel_rfl
theorem un9 : Tryz.prog.underlying 9 = some .string := by kernel_rfl
theorem ca93 : callable Tryz.prog 93 = true := by kernel_rfl
theorem ca72 : callable Tryz.prog 72 = true := by kernel_rfl
theorem sh123 : tyShape Tryz.prog 123 = some (false, 1) := by kernel_rfl
theorem un123 : Tryz.prog.underlying 123 = some (.int .u64) := by kernel_rfl
theorem ze123 : zeroOf Tryz.prog 123 = some (u64 (0#64)) := by kernel_rfl
theorem ca100 : callable Tryz.prog 100 = true := by kernel_rfl
theorem ca101 : callable Tryz.prog 101 = true := by kernel_rfl
theorem ca109 : callable Tryz.prog 109 = true := by kernel_rfl
theorem ca103 : callable Tryz.prog 103 = true := by kernel_rfl
theorem ze3 : zeroOf Tryz.prog 3 = some (vi 0) := by kernel_rfl
theorem ca102 : callable Tryz.prog 102 = true := by kernel_rfl
theorem ca83 : callable Tryz.prog 83 = true := by kernel_rfl
theorem ca84 : callable Tryz.prog 84 = true := by kernel_rfl
theorem ca86 : callable Tryz.prog 86 = true := by kernel_rfl
theorem ca87 : callable Tryz.prog 87 = true := by kernel_rfl
theorem ca88 : callable Tryz.prog 88 = true := by kernel_rfl
theorem ca90 : callable Tryz.prog 90 = true := by kernel_rfl
theorem ca91 : callable Tryz.prog 91 = true := by kernel_rfl
theorem ca71 : callable Tryz.prog 71 = true := by kernel_rfl
theorem ca85 : callable Tryz.prog 85 = true := by kernel_rfl
theorem un22 : Tryz.prog.underlying 22 = some (.slice 3) := by kernel_rfl
theorem ca65 : callable Tryz.prog 65 = true := by kernel_rfl
theorem ca41 : callable Tryz.prog 41 = true := by kernel_rfl
theorem ca66 : callable Tryz.prog 66 = true := by kernel_rfl
theorem un51 : Tryz.prog.underlying 51 = some (.slice 95) := by kernel_rfl
theorem ca70 : callable Tryz.prog 70 = true := by kernel_rfl
theorem un55 : Tryz.prog.underlying 55 = some (.slice 74) := by kernel_rfl
theorem ca28 : callable Tryz.prog 28 = true := by kernel_rfl
theorem ca31 : callable Tryz.prog 31 = true := by kernel_rfl
theorem ca30 : callable Tryz.prog 30 = true := by kernel_rfl
theorem ca32 : callable Tryz.prog 32 = true := by kernel_rfl
theorem ca33 : callable Tryz.prog 33 = true := by kernel_rfl
theorem ca35 : callable Tryz.prog 35 = true := by kernel_rfl
theorem ca36 : callable Tryz.prog 36 = true := by kernel_rfl
theorem ca37 : callable Tryz.prog 37 = true := by kernel_rfl
theorem ca39 : callable Tryz.prog 39 = true := by kernel_rfl
theorem ca40 : callable Tryz.prog 40 = true := by kernel_rfl
theorem ca53 : callable Tryz.prog 53 = true := by kernel_rfl
theorem ca54 : callable Tryz.prog 54 = true := by kernel_rfl
theorem ca45 : callable Tryz.prog 45 = true := by kernel_rfl
theorem ca42 : callable Tryz.prog 42 = true := by kernel_rfl
theorem ca44 : callable Tryz.prog 44 = true := by kernel_rfl
theorem ca23 : callable Tryz.prog 23 = true := by kernel_rfl
theorem ca24 : callable Tryz.prog 24 = true := by kernel_rfl
theorem ca25 : callable Tryz.prog 25 = true := by kernel_rfl
theorem ca13 : callable Tryz.prog 13 = true := by kernel_rfl
theorem ca73 : callable Tryz.prog 73 = true := by kernel_rfl
theorem eqi74 : eqInts Tryz.prog 74 2 = true := by kernel_rfl
theorem ca46 : callable Tryz.prog 46 = true := by kernel_rfl
theorem ca48 : callable Tryz.prog 48 = true := by kernel_rfl
theorem ca55 : callable Tryz.prog 55 = true := by kernel_rfl
theorem ca56 : callable Tryz.prog 56 = true := by kernel_rfl
theorem ca47 : callable Tryz.prog 47 = true := by kernel_rfl
theorem sl40 : slTy Tryz.prog 40 = some (4, 1, 1) := by kernel_rfl
theorem sh4 : tyShape Tryz.prog 4 = some (false, 1) := by kernel_rfl
theorem ca49 : callable Tryz.prog 49 = true := by kernel_rfl
theorem sz40 : slZero Tryz.prog 40 = some [vb false] := by kernel_rfl
theorem ca74 : callable Tryz.prog 74 = true := by kernel_rfl
theorem ca75 : callable Tryz.prog 75 = true := by kernel_rfl
theorem ca51 : callable Tryz.prog 51 = true := by kernel_rfl
theorem ca50 : callable Tryz.prog 50 = true := by kernel_rfl
theorem st48 : stTy Tryz.prog 48 = some ([(0, 1), (1, 1)], [.slice none 0 0, vi 0]) := by kernel_rfl
theorem ca52 : callable Tryz.prog 52 = true := by kernel_rfl
theorem ca112 : callable Tryz.prog 112 = true := by kernel_rfl
theorem ca113 : callable Tryz.prog 113 = true := by kernel_rfl
theorem ca110 : callable Tryz.prog 110 = true := by kernel_rfl
theorem ca114 : callable Tryz.prog 114 = true := by kernel_rfl
theorem ca111 : callable Tryz.prog 111 = true := by kernel_rfl
theorem ca105 : callable Tryz.prog 105 = true := by kernel_rfl
theorem ca106 : callable Tryz.prog 106 = true := by kernel_rfl
theorem ca94 : callable Tryz.prog 94 = true := by kernel_rfl
theorem ca95 : callable Tryz.prog 95 = true := by kernel_rfl
theorem ca77 : callable Tryz.prog 77 = true := by kernel_rfl
theorem ca4 : callable Tryz.prog 4 = true := by kernel_rfl
theorem ca5 : callable Tryz.prog 5 = true := by kernel_rfl
theorem ca6 : callable Tryz.prog 6 = true := by kernel_rfl
theorem ca8 : callable Tryz.prog 8 = true := by kernel_rfl
theorem ca9 : callable Tryz.prog 9 = true := by kernel_rfl
theorem ca10 : callable Tryz.prog 10 = true := by kernel_rfl
theorem ca11 : callable Tryz.prog 11 = true := by kernel_rfl
theorem ca12 : callable Tryz.prog 12 = true := by kernel_rfl
theorem ca14 : callable Tryz.prog 14 = true := by kernel_rfl
theorem ca15 : callable Tryz.prog 15 = true := by kernel_rfl
theorem ca16 : callable Tryz.prog 16 = true := by kernel_rfl
theorem ca17 : callable Tryz.prog 17 = true := by kernel_rfl
theorem fn57 (width : Int) (n : Int) (hwidth_0 : i64ok width) (hn_0 : i64ok n) (rr : Bool) (hrr : eq_sized width n = rr) : FT Tryz.prog 57 #[vi width, vi n] [] (fun g : Unit => True) (fun g => vb rr) (fun g => []) := by
 refine FTi Tryz.func57 fun w0 M0 F0 => ?_
 unfold i64ok at hwidth_0 hn_0
 refine KS ?_
 refine Oq Va (KS ?_)
 refine Oq Vm (Oq Vgeq (Oq Vm ?_))
 refine Js 7 ?_ ?_
 ·intro h1
  have g2 := dt h1
  refine Oq Vm (Oq Vleq (Oq Vpt (Oq Vm ?_)))
  refine Js 11 ?_ ?_
  ·intro h3
   have g4 := dt h3
   refine Oq Vm (Oq Vgeq (Oq Vpt (Oq Vm ?_)))
   refine Js 15 ?_ ?_
   ·intro h5
    have g6 := dt h5
    refine Oq Vm (Oq Vleq (Oq Vpt (Oq Va (KS ?_))))
    have hq := q4 hrr (decide (n ≤ 256)) (by simp only [eq_sized, h1, h3, h5, cs4]); subst hq
    exact Kr () rfl (.tmp rfl .nil) [] trivial
   intro h5
   have g7 := df h5
   refine Osk (Osk (Oq Vpf (Oq Va (KS ?_))))
   have hq := q4 hrr false (by simp only [eq_sized, h1, h3, h5, cs4]); subst hq
   exact Kr () rfl (.tmp rfl .nil) [] trivial
  intro h3
  have g8 := df h3
  refine Osk (Osk (Oq Vpf (Oq Vm (Osk (Osk (Oq Vpf (Oq Va (KS ?_))))))))
  have hq := q4 hrr false (by simp only [eq_sized, h1, h3, cs4]); subst hq
  exact Kr () rfl (.tmp rfl .nil) [] trivial
 intro h1
 have g9 := df h1
 refine Osk (Osk (Oq Vpf (Oq Vm (Osk (Osk (Oq Vpf (Oq Vm (Osk (Osk ?_)))))))))
 refine Oq Vpf (Oq Va (KS ?_))
 have hq := q4 hrr false (by simp only [eq_sized, h1, cs4]); subst hq
 exact Kr () rfl (.tmp rfl .nil) [] trivial
theorem fn58 (l : List Int) (la0 : Option Addr) (lk0 : Nat) (n : Int) (hn_0 : i64ok n) (rr : Bool) (hrr : eq_ascending l n = rr) : FT Tryz.prog 58 #[vl la0 lk0 l, vi n] [S la0 lk0 l] (fun g : Unit => True) (fun g => vb rr) (fun g => []) := by
 refine FTi Tryz.func58 fun w0 M0 F0 => ?_
 unfold i64ok at hn_0
 refine Fb 8 0 fun _ => Fo 0 fun ho2 => KS ?_
 refine Oq Va (KS ?_)
 refine Oq Vm (Oq (Vlen sl22) (Oq Vm (KS ?_)))
 refine Kl (γ := Nat × Int) (fun (r3, v9_4) => ⟨[(0, vl la0 lk0 l), (1, vi n), (7, vl la0 lk0 l), (8, vi (l.length : Int)), (9, vi v9_4)], [S la0 lk0 l], eq_ascending_L0 l n r3 v9_4 = eq_ascending_L0 l n (((l.length : Int) - 0).toNat) 0 ∧ r3 = ((l.length : Int) - v9_4).toNat ∧ (0 : Int) ≤ v9_4 ∧ v9_4 ≤ (l.length : Int) ∧ (-9223372036854775808 ≤ v9_4 ∧ v9_4 ≤ 9223372036854775807), r3⟩) (((l.length : Int) - 0).toNat, 0) [0] ⟨rfl, rfl, aM1, aM1, aM1⟩ ?_
 rintro ⟨r3, v9_4⟩ ⟨hM5, hr6, hi7, hi8, hk9⟩
 refine JJ_nx fun _ _ hL hA => ?_; dsimp only at hL hA; subst hL hA
 refine Fb 8 0 fun _ => Fo 0 fun ho11 => KS ?_
 refine Oq Vlss (KS ?_)
 refine Kc ?_ ?_
 ·intro h12
  have g13 := dt h12
  obtain ⟨r14, rfl⟩ := scc (n := r3) aM1
  refine KS ?_
  refine Oq Vm (Oq (Vi sl22 0) ?_)
  have hb15 := ok1 (i := v9_4.toNat) ho11 rng
  refine Oq (VldI sh3 0) (Oq Va (Oq Va (KS ?_)))
  refine Oq Vm (Oq Vlss (Oq Vm ?_))
  refine Js 16 ?_ ?_
  ·intro h16
   have g17 := dt h16
   refine Osk (Osk (Osk (Oq Vpt (Oq Vm (Osk (Osk (Osk (Osk (Osk ?_)))))))))
   refine Osk (Osk (Osk (Osk (Osk (Osk (Oq Vpt (KS ?_)))))))
   refine Kt (KS ?_)
   refine Oq Va (KS ?_)
   have hR18 := q2 hM5 (.ret false) (by simp only [eq_ascending_L0, h12, h16, cs4])
   have hq := q4 hrr false (by simp only [eq_ascending, h12, h16, hR18, cs4]); subst hq
   exact Kr () rfl (.tmp rfl .nil) [] trivial
  intro h16
  have g19 := df h16
  refine Oq Vm (Oq Vm (Oq Vgeq (Oq Vpf (Oq Vm ?_))))
  refine Js 21 ?_ ?_
  ·intro h20
   have g21 := dt h20
   refine Osk (Osk (Osk (Osk (Osk (Osk (Osk (Osk (Osk (Osk ?_)))))))))
   refine Osk (Oq Vpt (KS ?_))
   refine Kt (KS ?_)
   refine Oq Va (KS ?_)
   have hR22 := q2 hM5 (.ret false) (by simp only [eq_ascending_L0, h12, h16, h20, cs4])
   have hq := q4 hrr false (by simp only [eq_ascending, h12, h16, h20, hR22, cs4]); subst hq
   exact Kr () rfl (.tmp rfl .nil) [] trivial
  intro h20
  have g23 := df h20
  refine Oq Vm (Oq Vgtr (Oq Vm ?_))
  refine Js 24 ?_ ?_
  ·intro h24
   have g25 := dt h24
   refine Oq Vm (Oq Vm (Oq Vm (Oq Vsub (Oq (Vi sl22 0) ?_))))
   have hb26 := ok1 (i := ((v9_4 - 1) : Int).toNat) ho11 rng
   refine Oq (VldI sh3 0) (Oq Vleq (Oq Vpt (Oq Vpf (KS ?_))))
   refine Kc ?_ ?_
   ·intro h27
    have g28 := dt h27
    refine KS ?_
    refine Oq Va (KS ?_)
    have hR29 := q2 hM5 (.ret false) (by simp only [eq_ascending_L0, h12, h16, h20, h24, h27, cs4])
    have hq := q4 hrr false (by simp only [eq_ascending, h12, h16, h20, h24, h27, hR29, cs4]); subst hq
    exact Kr () rfl (.tmp rfl .nil) [] trivial
   intro h27
   have g30 := df h27
   refine KS ?_
   refine Oq Vadd (Oq Vm (KS ?_))
   exact Kg (r14, (v9_4 + 1)) [0] ⟨(q3 hM5 (by simp only [eq_ascending_L0, h12, h16, h20, h24, h27, cs4])), aM1, aM1, aM1, aM1⟩
  intro h24
  have g31 := df h24
  refine Osk (Osk (Osk (Osk (Osk (Osk (Osk (Oq Vpf (Oq Vpf (KS ?_)))))))))
  refine Kf (KS ?_)
  refine Oq Vadd (Oq Vm (KS ?_))
  exact Kg (r14, (v9_4 + 1)) [0] ⟨(q3 hM5 (by simp only [eq_ascending_L0, h12, h16, h20, h24, cs4])), aM1, aM1, aM1, aM1⟩
 intro h12
 have g32 := df h12
 obtain rfl : r3 = 0 := by omega
 refine Ke ?_
 have hR33 := q2 hM5 (.brk ()) (by simp only [eq_ascending_L0, h12, cs4])
 refine KS ?_
 refine Oq Va (KS ?_)
 have hq := q4 hrr true (by simp only [eq_ascending, h12, hR33, cs4]); subst hq
 exact Kr () rfl (.tmp rfl .nil) [] trivial
theorem fn96 (s : List GSet) (sa0 : Option Addr) (sk0 : Nat) (fF : FuncId) (fC : List Value) (fp : GSet → Bool) (fA : List SP) (hfc : callable Tryz.prog fF = true) (hfF : ∀ x ∈ s, ∀ (a1 : Option Addr) (k1 : Nat), i64ok x.Width → FT Tryz.prog fF ([(.agg #[vi x.Width, vl a1 k1 x.Words] : Value)] ++ fC).toArray ([S a1 k1 x.Words] ++ [pAll fA]) (fun _ : Unit => True) (fun _ => .bool (fp x)) (fun _ => [])) (rr : Int) (hrr : sc_IndexFunc_Set s fp = rr) : FT Tryz.prog 96 #[vl sa0 sk0 s, .func (.func fF) #[] fC.toArray] [S sa0 sk0 s, pAll fA] (fun g : Unit => i64ok rr) (fun g => vi rr) (fun g => []) := by
 refine FTi Tryz.func96 fun w0 M0 F0 => Fb 32 0 fun _ => ?_
 refine KS ?_
 refine Oq Va (KS ?_)
 refine Oq Vm (Oq (Vlen sl25) (Oq Vm (KS ?_)))
 refine Kl (γ := Nat × Int) (fun (r2, v8_3) => ⟨[(0, vl sa0 sk0 s), (1, .func (.func fF) #[] fC.toArray), (7, vi (s.length : Int)), (8, vi v8_3)], [S sa0 sk0 s, pAll fA], sc_IndexFunc_Set_L0 s fp r2 v8_3 = sc_IndexFunc_Set_L0 s fp (((s.length : Int) - 0).toNat) 0 ∧ r2 = ((s.length : Int) - v8_3).toNat ∧ (0 : Int) ≤ v8_3 ∧ v8_3 ≤ (s.length : Int) ∧ (-9223372036854775808 ≤ v8_3 ∧ v8_3 ≤ 9223372036854775807), r2⟩) (((s.length : Int) - 0).toNat, 0) [0, 1] ⟨rfl, rfl, aM1, aM1, aM1⟩ ?_
 rintro ⟨r2, v8_3⟩ ⟨hM4, hr5, hi6, hi7, hk8⟩
 refine JJ_nx fun _ _ hL hA => ?_; dsimp only at hL hA; subst hL hA
 refine Fb 32 0 fun _ => KS ?_
 refine Oq Vlss (KS ?_)
 refine Kc ?_ ?_
 ·intro h10
  have g11 := dt h10
  obtain ⟨r12, rfl⟩ := scc (n := r2) aM1
  refine KS ?_
  refine Oq Vm (Oq Va (KS ?_))
  refine Oq Vm (Oq Vm (Oq Vm (Oq (Vi sl25 0) ?_)))
  refine JJ_peek_GSet v8_3.toNat 0 rfl rng fun a13 k14 hb15 => ?_
  unfold i64ok at hb15
  refine Fb 8 1 fun _ => Oq (VldA sh53 0) ?_
  refine JO_call [1, 3] rfl rfl rfl (OpC.clo («as» := [(.agg #[vi ((s.getD v8_3.toNat default).Width), vl a13 k14 ((s.getD v8_3.toNat default).Words)] : Value)] ++ fC) rfl rfl hfc rfl (by simp)) (hfF (s.getD v8_3.toNat default) (getD_mem rng) a13 k14 pre) rfl fun _ _ => ?_
  refine KS ?_
  refine Kc ?_ ?_
  ·intro h17
   refine KS ?_
   refine Oq Vm (Oq Va (KS ?_))
   have hR19 := q2 hM4 (.ret v8_3) (by simp only [sc_IndexFunc_Set_L0, h10, h17, cs4])
   have hq := q4 hrr v8_3 (by simp only [sc_IndexFunc_Set, h10, h17, hR19, cs4]); subst hq
   exact Kr () rfl (.tmp rfl .nil) [] en
  intro h17
  refine KS ?_
  refine Oq Vadd (Oq Vm (KS ?_))
  exact Kg (r12, (v8_3 + 1)) [2, 3] ⟨(q3 hM4 (by simp only [sc_IndexFunc_Set_L0, h10, h17, cs4])), aM1, aM1, aM1, aM1⟩
 intro h10
 have g21 := df h10
 obtain rfl : r2 = 0 := by omega
 refine Ke ?_
 have hR22 := q2 hM4 (.brk ()) (by simp only [sc_IndexFunc_Set_L0, h10, cs4])
 refine KS ?_
 refine Oq Va (KS ?_)
 have hq := q4 hrr (-1) (by simp only [sc_IndexFunc_Set, h10, hR22, cs4]); subst hq
 exact Kr () rfl (.tmp rfl .nil) [] en
theorem fn78 (s : List GSet) (sa0 : Option Addr) (sk0 : Nat) (fF : FuncId) (fC : List Value) (fp : GSet → Bool) (fA : List SP) (hfc : callable Tryz.prog fF = true) (hfF : ∀ x ∈ s, ∀ (a1 : Option Addr) (k1 : Nat), i64ok x.Width → FT Tryz.prog fF ([(.agg #[vi x.Width, vl a1 k1 x.Words] : Value)] ++ fC).toArray ([S a1 k1 x.Words] ++ [pAll fA]) (fun _ : Unit => True) (fun _ => .bool (fp x)) (fun _ => [])) (rr : Bool) (hrr : sc_ContainsFunc_Set s fp = rr) : FT Tryz.prog 78 #[vl sa0 sk0 s, .func (.func fF) #[] fC.toArray] [S sa0 sk0 s, pAll fA] (fun g : Unit => True) (fun g => vb rr) (fun g => []) := by
 refine FTi Tryz.func78 fun w0 M0 F0 => Fb 32 0 fun _ => ?_
 refine KS ?_
 refine Oq Va (KS ?_)
 refine Oq Vm (Oq Vm ?_)
 refine letv (sc_IndexFunc_Set s fp) fun rv2 hg3 => ?_
 have hc4 := fn96 s sa0 sk0 fF fC fp fA hfc hfF rv2 hg3
 refine Oc [0, 1] ca96 hc4 ?_
 rintro - he5
 unfold i64ok at he5
 refine Oq Vgeq (Oq Va (KS ?_))
 have hq := q4 hrr (decide (0 ≤ rv2)) (by simp only [sc_ContainsFunc_Set, hg3, cs4]); subst hq
 exact Kr () rfl (.tmp rfl .nil) [] trivial
theorem fn67 (width : Int) (hwidth_0 : i64ok width) (rr : Bool) (hrr : bt_ranged width = rr) : FT Tryz.prog 67 #[vi width] [] (fun g : Unit => True) (fun g => vb rr) (fun g => []) := by
 refine FTi Tryz.func67 fun w0 M0 F0 => ?_
 unfold i64ok at hwidth_0
 refine KS ?_
 refine Oq Va (KS ?_)
 refine Oq Vm (Oq Vgeq (Oq Vm ?_))
 refine Js 5 ?_ ?_
 ·intro h1
  have g2 := dt h1
  refine Oq Vm (Oq Vleq (Oq Vpt (Oq Va (KS ?_))))
  have hq := q4 hrr (decide (width ≤ 256)) (by simp only [bt_ranged, h1, cs4]); subst hq
  exact Kr () rfl (.tmp rfl .nil) [] trivial
 intro h1
 have g3 := df h1
 refine Osk (Osk (Oq Vpf (Oq Va (KS ?_))))
 have hq := q4 hrr false (by simp only [bt_ranged, h1, cs4]); subst hq
 exact Kr () rfl (.tmp rfl .nil) [] trivial
theorem fn68 (width : Int) (hwidth_0 : i64ok width) (hw0 : 0 ≤ width ∧ width ≤ 1000000) (rr : Int) (hrr : bt_words width = rr) : FT Tryz.prog 68 #[vi width] [] (fun g : Unit => i64ok rr ∧ (rr = (width + 63) / 64)) (fun g => vi rr) (fun g => []) := by
 refine FTi Tryz.func68 fun w0 M0 F0 => ?_
 unfold i64ok at hwidth_0
 refine KS ?_
 refine Oq Va (KS ?_)
 refine Oq Vm (Oq Vadd (Oq Vsub (Oq Vquo (Oq Va (KS ?_)))))
 have hq := q4 hrr (((width + 64) - 1) / 64) (by simp only [bt_words, cs4]); subst hq
 exact Kr () rfl (.tmp rfl .nil) [] en
theorem fn69 (width : Int) (hwidth_0 : i64ok width) (rr : BitVec 64) (hrr : bt_spare width = rr) : FT Tryz.prog 69 #[vi width] [] (fun g : Unit => True) (fun g => u64 rr) (fun g => []) := by
 refine FTi Tryz.func69 fun w0 M0 F0 => ?_
 unfold i64ok at hwidth_0
 refine KS ?_
 refine Oq Va (KS ?_)
 refine Oq Vm (Oq (VcU un3 un84) (Oq (VremU (b := 64#64) (by simp)) (Oq (VshlU (a := 18446744073709551615#64)) (Oq Va (KS ?_)))))
 have hq := q4 hrr (18446744073709551615#64 <<< ((((BitVec.ofInt 64 width) % 64#64).toNat : Int)).toNat) (by simp only [bt_spare, cs4]); subst hq
 exact Kr () rfl (.tmp rfl .nil) [] trivial
theorem fn34 (s : GSet) (sa1 : Option Addr) (sk1 : Nat) (hs_0 : i64ok s.Width) (rr : Bool) (hrr : bt_Valid s = rr) : FT Tryz.prog 34 #[.agg #[vi s.Width, vl sa1 sk1 s.Words]] [S sa1 sk1 s.Words] (fun g : Unit => True) (fun g => vb rr) (fun g => []) := by
 refine FTi Tryz.func34 fun w0 M0 F0 => ?_
 unfold i64ok at hs_0
 refine Fb 8 0 fun _ => KS ?_
 refine Oa (Ab [vi s.Width, vl sa1 sk1 s.Words]) fun p2 => Oq Va (KS ?_)
 refine JK_drawK [0, 1, 3, 7, 15, 31, 63, 127, 31, 287, 799, 2047, 4095] fmix ?_
 refine Dv [0] (Vfa fo53_0 0) (Dv [0] (VldF sh3 0) ?_)
 refine letv (bt_ranged s.Width) fun rv3 hg4 => ?_
 refine Dx [] [] [0] (fun G => vb rv3) [fun G => SP.fact (True)] (fun G => xC [] ca67 (fn67 s.Width pre rv3 hg4)) (Dv [] Vnot ?_)
 refine bool_split (!rv3) ?_ ?_
 ·intro h5
  have h7 := not_true h5
  refine Db h5 [] Vm (Ds (Ds (Ds (Ds (Ds (Ds (Ds (Dv [] Vpt ?_))))))))
  refine Dn ⟨by kernel_rfl, fun G => ?_⟩
  refine Jw2 [(1, p2), (15, vb true)] [0, 1] [SP.fact (True)] ?_
  refine Jk [0, 1] (Kt ?_)
  refine KS ?_
  refine Oq Va (KS ?_)
  have hq := q4 hrr false (by simp only [bt_Valid, h5, h7, hg4, cs4]); subst hq
  exact Kr () rfl (.tmp rfl .nil) [] trivial
 intro h5
 have h10 := not_false h5
 try have hrg := ranged_iff (w := s.Width) (by simp only [h5, h10, hg4])
 refine Db h5 [] Vm (Dv [0] (Vfa fo53_1 0) (Dv [0] (VldF sh51 0) (Dv [] (Vlen sl51) (Dv [0] (Vfa fo53_0 0) (Dv [0] (VldF sh3 0) ?_)))))
 refine letv (bt_words s.Width) fun rv12 hg13 => ?_
 refine Dx [] [] [0] (fun G => vi rv12) [fun G => SP.fact (i64ok rv12 ∧ (rv12 = (s.Width + 63) / 64))] (fun G => xC [] ca68 (fn68 s.Width pre pre rv12 hg13)) (Dv [] Vneq (Dv [] Vpf ?_))
 refine Dn ⟨by kernel_rfl, fun G => ?_⟩
 refine Jw2 [(1, p2), (15, vb ((s.Words.length : Int) != rv12))] [0, 1] [SP.fact (True), SP.fact (i64ok rv12 ∧ (rv12 = (s.Width + 63) / 64))] ?_
 refine Jf 3 rfl ?_; rintro ⟨he14, he15⟩
 unfold i64ok at he14
 refine Jk [0, 1] ?_
 refine Kc ?_ ?_
 ·intro h16
  have g17 := ne_of_bne h16
  refine KS ?_
  refine Oq Va (KS ?_)
  have hq := q4 hrr false (by simp only [bt_Valid, h5, h10, h16, hg4, hg13, cs4]); subst hq
  exact Kr () rfl (.tmp rfl .nil) [] trivial
 intro h16
 have g18 := eq_of_bne_false h16
 refine KS ?_
 refine JK_drawK [0, 1, 3, 7, 15, 31, 63, 31, 159, 415, 927, 2047, 4095, 31, 8223, 24607, 65535, 131071, 262143, 524287] fmix ?_
 refine Dv [0] (Vfa fo53_0 0) (Dv [0] (VldF sh3 0) (Dv [] Vrem (Dv [] Veql ?_)))
 refine bool_split ((s.Width % 64) == 0) ?_ ?_
 ·intro h19
  have g20 := eq_of_beq h19
  refine Db h19 [] Vm (Ds (Ds (Ds (Ds (Ds (Ds (Ds (Ds (Ds ?_)))))))))
  refine Ds (Ds (Ds (Ds (Dv [] Vpt (Dv [] Va ?_)))))
  refine Dn ⟨by kernel_rfl, fun G => ?_⟩
  refine Jw2 [(2, vb true)] [0, 1] [] ?_
  have hq := q4 hrr true (by simp only [bt_Valid, h5, h10, h16, h19, hg4, hg13, cs4]); subst hq
  exact Kr () rfl (.tmp rfl .nil) [] trivial
 intro h19
 have g21 := ne_of_beq_false h19
 refine Db h19 [] Vm (Dv [0] (Vfa fo53_1 0) (Dv [0] (VldF sh51 0) (Dv [0] (Vfa fo53_1 0) (Dv [0] (VldF sh51 0) (Dv [] (Vlen sl51) (Dv [] Vsub (Dv [1] (Vi sl51 0) (Dv [1] (VldU sh95 0) (Dv [0] (Vfa fo53_0 0) ?_)))))))))
 refine Dv [0] (VldF sh3 0) ?_
 refine letv (bt_spare s.Width) fun rv22 hg23 => ?_
 refine Dx [] [] [0] (fun G => u64 rv22) [fun G => SP.fact (True)] (fun G => xC [] ca69 (fn69 s.Width pre rv22 hg23)) (Dv [] VandU (Dv [] (VeqlU (b := 0#64)) (Dv [] Vpf (Dv [] Va ?_))))
 refine Dn ⟨by kernel_rfl, fun G => ?_⟩
 refine Jw2 [(2, vb (((s.Words.getD (((s.Words.length : Int) - 1) : Int).toNat 0#64) &&& rv22) == 0#64))] [0, 1] [SP.fact (True)] ?_
 refine Jk [0, 1] ?_
 have hq := q4 hrr (((s.Words.getD (((s.Words.length : Int) - 1) : Int).toNat 0#64) &&& rv22) == 0#64) (by simp only [bt_Valid, h5, h10, h16, h19, hg4, hg13, hg23, cs4]); subst hq
 exact Kr () rfl (.tmp rfl .nil) [] trivial
theorem fn79 (s : GSet) (sa1 : Option Addr) (sk1 : Nat) (cap0P : Value) (cap0 : Int) (hs_0 : i64ok s.Width) (hcap0_0 : i64ok cap0) (rr : Bool) (hrr : eq_sets_1 s cap0 = rr) : FT Tryz.prog 79 #[.agg #[vi s.Width, vl sa1 sk1 s.Words], cap0P] [S sa1 sk1 s.Words, pv cap0P [vi cap0]] (fun g : Unit => True) (fun g => vb rr) (fun g => []) := by
 refine FTi Tryz.func79 fun w0 M0 F0 => ?_
 unfold i64ok at hs_0 hcap0_0
 refine Fb 8 0 fun _ => KS ?_
 refine Oa (Ab [vi s.Width, vl sa1 sk1 s.Words]) fun p2 => Oq Va (KS ?_)
 refine Oq (VldA sh53 0) ?_
 refine letv (bt_Valid s) fun rv3 hg4 => ?_
 have hc5 := fn34 s sa1 sk1 pre rv3 hg4
 refine Oc [1] ca34 hc5 ?_
 rintro - -
 refine Oq Vnot (Oq Vm ?_)
 refine Js 7 ?_ ?_
 ·intro h6
  have h8 := not_true h6
  refine Osk (Osk (Osk (Osk (Oq Vpt (Oq Va (KS ?_))))))
  have hq := q4 hrr true (by simp only [eq_sets_1, h6, h8, hg4, cs4]); subst hq
  exact Kr () rfl (.tmp rfl .nil) [] trivial
 intro h6
 have h11 := not_false h6
 refine Oq (Vfa fo53_0 0) (Oq (VldF sh3 0) (Oq (Vld sh3 2) (Oq Vneq (Oq Vpf (Oq Va (KS ?_))))))
 have hq := q4 hrr (s.Width != cap0) (by simp only [eq_sets_1, h6, h11, hg4, cs4]); subst hq
 exact Kr () rfl (.tmp rfl .nil) [] trivial
theorem fn59 (width : Int) (l : List GSet) (la0 : Option Addr) (lk0 : Nat) (hwidth_0 : i64ok width) (rr : Bool) (hrr : eq_sets width l = rr) : FT Tryz.prog 59 #[vi width, vl la0 lk0 l] [S la0 lk0 l] (fun g : Unit => True) (fun g => vb rr) (fun g => []) := by
 refine FTi Tryz.func59 fun w0 M0 F0 => ?_
 unfold i64ok at hwidth_0
 refine Fb 32 0 fun _ => KS ?_
 refine Oa (Ab [vi width]) fun p2 => Oq Va (KS ?_)
 refine Oq Vm (Oq (Vf [p2]) ?_)
 refine JJ_ent (Ent.pall [0] rfl rfl) ?_
 refine letv (sc_ContainsFunc_Set l (fun x => eq_sets_1 x width)) fun rv3 hg4 => ?_
 have hc5 := fn78 l la0 lk0 79 [p2] (fun x => eq_sets_1 x width) [pv p2 [vi width]] ca79 (fun x hx a1 k1 hq0 => FT_pall (A1 := _) (fn79 x a1 k1 p2 width hq0 pre _ rfl)) rv3 hg4
 refine Oc [2, 0] ca78 hc5 ?_
 rintro - -
 refine Oq Vnot (Oq Va (KS ?_))
 have hq := q4 hrr (!rv3) (by simp only [eq_sets, hg4, cs4]); subst hq
 exact Kr () rfl (.tmp rfl .nil) [] trivial
theorem fn80 (s : List GTransfer) (sa0 : Option Addr) (sk0 : Nat) (fF : FuncId) (fC : List Value) (fp : GTransfer → Bool) (fA : List SP) (hfc : callable Tryz.prog fF = true) (hfF : ∀ x ∈ s, ∀ (a1 : Option Addr) (k1 : Nat) (a3 : Option Addr) (k3 : Nat) (a4 : Option Addr) (k4 : Nat), i64ok x.Gen.Width → i64ok x.Kill.Width → FT Tryz.prog fF ([(.agg #[vi x.Gen.Width, vl a1 k1 x.Gen.Words, vi x.Kill.Width, vl a3 k3 x.Kill.Words, vl a4 k4 x.Copies] : Value)] ++ fC).toArray ([S a1 k1 x.Gen.Words, S a3 k3 x.Kill.Words, S a4 k4 x.Copies] ++ [pAll fA]) (fun _ : Unit => True) (fun _ => .bool (fp x)) (fun _ => [])) (rr : Int) (hrr : sc_IndexFunc_Transfer s fp = rr) : FT Tryz.prog 80 #[vl sa0 sk0 s, .func (.func fF) #[] fC.toArray] [S sa0 sk0 s, pAll fA] (fun g : Unit => i64ok rr) (fun g => vi rr) (fun g => []) := by
 refine FTi Tryz.func80 fun w0 M0 F0 => Fb 88 0 fun _ => ?_
 refine KS ?_
 refine Oq Va (KS ?_)
 refine Oq Vm (Oq (Vlen sl24) (Oq Vm (KS ?_)))
 refine Kl (γ := Nat × Int) (fun (r2, v8_3) => ⟨[(0, vl sa0 sk0 s), (1, .func (.func fF) #[] fC.toArray), (7, vi (s.length : Int)), (8, vi v8_3)], [S sa0 sk0 s, pAll fA], sc_IndexFunc_Transfer_L0 s fp r2 v8_3 = sc_IndexFunc_Transfer_L0 s fp (((s.length : Int) - 0).toNat) 0 ∧ r2 = ((s.length : Int) - v8_3).toNat ∧ (0 : Int) ≤ v8_3 ∧ v8_3 ≤ (s.length : Int) ∧ (-9223372036854775808 ≤ v8_3 ∧ v8_3 ≤ 9223372036854775807), r2⟩) (((s.length : Int) - 0).toNat, 0) [0, 1] ⟨rfl, rfl, aM1, aM1, aM1⟩ ?_
 rintro ⟨r2, v8_3⟩ ⟨hM4, hr5, hi6, hi7, hk8⟩
 refine JJ_nx fun _ _ hL hA => ?_; dsimp only at hL hA; subst hL hA
 refine Fb 88 0 fun _ => KS ?_
 refine Oq Vlss (KS ?_)
 refine Kc ?_ ?_
 ·intro h10
  have g11 := dt h10
  obtain ⟨r12, rfl⟩ := scc (n := r2) aM1
  refine KS ?_
  refine Oq Vm (Oq Va (KS ?_))
  refine Oq Vm (Oq Vm (Oq Vm (Oq (Vi sl24 0) ?_)))
  refine JJ_peek_GTransfer v8_3.toNat 0 rfl rng fun a13 k14 a15 k16 a17 k18 hb19 hb20 => ?_
  unfold i64ok at hb19 hb20
  refine Fb 8 1 fun _ => Fb 8 2 fun _ => Fb 16 3 fun _ => Oq (VldA sh57 0) ?_
  refine JO_call [1, 2, 3, 5] rfl rfl rfl (OpC.clo («as» := [(.agg #[vi (((s.getD v8_3.toNat default).Gen).Width), vl a13 k14 (((s.getD v8_3.toNat default).Gen).Words), vi (((s.getD v8_3.toNat default).Kill).Width), vl a15 k16 (((s.getD v8_3.toNat default).Kill).Words), vl a17 k18 ((s.getD v8_3.toNat default).Copies)] : Value)] ++ fC) rfl rfl hfc rfl (by simp)) (hfF (s.getD v8_3.toNat default) (getD_mem rng) a13 k14 a15 k16 a17 k18 pre pre) rfl fun _ _ => ?_
  refine KS ?_
  refine Kc ?_ ?_
  ·intro h24
   refine KS ?_
   refine Oq Vm (Oq Va (KS ?_))
   have hR26 := q2 hM4 (.ret v8_3) (by simp only [sc_IndexFunc_Transfer_L0, h10, h24, cs4])
   have hq := q4 hrr v8_3 (by simp only [sc_IndexFunc_Transfer, h10, h24, hR26, cs4]); subst hq
   exact Kr () rfl (.tmp rfl .nil) [] en
  intro h24
  refine KS ?_
  refine Oq Vadd (Oq Vm (KS ?_))
  exact Kg (r12, (v8_3 + 1)) [4, 5] ⟨(q3 hM4 (by simp only [sc_IndexFunc_Transfer_L0, h10, h24, cs4])), aM1, aM1, aM1, aM1⟩
 intro h10
 have g28 := df h10
 obtain rfl : r2 = 0 := by omega
 refine Ke ?_
 have hR29 := q2 hM4 (.brk ()) (by simp only [sc_IndexFunc_Transfer_L0, h10, cs4])
 refine KS ?_
 refine Oq Va (KS ?_)
 have hq := q4 hrr (-1) (by simp only [sc_IndexFunc_Transfer, h10, hR29, cs4]); subst hq
 exact Kr () rfl (.tmp rfl .nil) [] en
theorem fn60 (s : List GTransfer) (sa0 : Option Addr) (sk0 : Nat) (fF : FuncId) (fC : List Value) (fp : GTransfer → Bool) (fA : List SP) (hfc : callable Tryz.prog fF = true) (hfF : ∀ x ∈ s, ∀ (a1 : Option Addr) (k1 : Nat) (a3 : Option Addr) (k3 : Nat) (a4 : Option Addr) (k4 : Nat), i64ok x.Gen.Width → i64ok x.Kill.Width → FT Tryz.prog fF ([(.agg #[vi x.Gen.Width, vl a1 k1 x.Gen.Words, vi x.Kill.Width, vl a3 k3 x.Kill.Words, vl a4 k4 x.Copies] : Value)] ++ fC).toArray ([S a1 k1 x.Gen.Words, S a3 k3 x.Kill.Words, S a4 k4 x.Copies] ++ [pAll fA]) (fun _ : Unit => True) (fun _ => .bool (fp x)) (fun _ => [])) (rr : Bool) (hrr : sc_ContainsFunc_Transfer s fp = rr) : FT Tryz.prog 60 #[vl sa0 sk0 s, .func (.func fF) #[] fC.toArray] [S sa0 sk0 s, pAll fA] (fun g : Unit => True) (fun g => vb rr) (fun g => []) := by
 refine FTi Tryz.func60 fun w0 M0 F0 => Fb 88 0 fun _ => ?_
 refine KS ?_
 refine Oq Va (KS ?_)
 refine Oq Vm (Oq Vm ?_)
 refine letv (sc_IndexFunc_Transfer s fp) fun rv2 hg3 => ?_
 have hc4 := fn80 s sa0 sk0 fF fC fp fA hfc hfF rv2 hg3
 refine Oc [0, 1] ca80 hc4 ?_
 rintro - he5
 unfold i64ok at he5
 refine Oq Vgeq (Oq Va (KS ?_))
 have hq := q4 hrr (decide (0 ≤ rv2)) (by simp only [sc_ContainsFunc_Transfer, hg3, cs4]); subst hq
 exact Kr () rfl (.tmp rfl .nil) [] trivial
theorem fn97 (t : GTransfer) (ta1 : Option Addr) (tk1 : Nat) (ta3 : Option Addr) (tk3 : Nat) (ta4 : Option Addr) (tk4 : Nat) (b : Int) (ht_0 : i64ok t.Gen.Width) (ht_2 : i64ok t.Kill.Width) (hb_0 : i64ok b) (rr : Bool) (hrr : tf_bit t b = rr) : FT Tryz.prog 97 #[.agg #[vi t.Gen.Width, vl ta1 tk1 t.Gen.Words, vi t.Kill.Width, vl ta3 tk3 t.Kill.Words, vl ta4 tk4 t.Copies], vi b] [S ta1 tk1 t.Gen.Words, S ta3 tk3 t.Kill.Words, S ta4 tk4 t.Copies] (fun g : Unit => True) (fun g => vb rr) (fun g => []) := by
 refine FTi Tryz.func97 fun w0 M0 F0 => ?_
 unfold i64ok at ht_0 ht_2 hb_0
 refine Fb 8 0 fun _ => Fb 8 1 fun _ => Fb 16 2 fun _ => KS ?_
 refine Oa (Ab [vi t.Gen.Width, vl ta1 tk1 t.Gen.Words, vi t.Kill.Width, vl ta3 tk3 t.Kill.Words, vl ta4 tk4 t.Copies]) fun p4 => Oq Va (KS ?_)
 refine Oq Vm (Oq Vgeq (Oq Vm ?_))
 refine Js 7 ?_ ?_
 ·intro h5
  have g6 := dt h5
  refine Oq Vm (Oq (Vfa fo57_0 0) (Oq (VfaF fo53_0 0) (Oq (VldF sh3 0) (Oq Vlss (Oq Vpt (Oq Va (KS ?_)))))))
  have hq := q4 hrr (decide (b < t.Gen.Width)) (by simp only [tf_bit, h5, cs4]); subst hq
  exact Kr () rfl (.tmp rfl .nil) [] trivial
 intro h5
 have g7 := df h5
 refine Osk (Osk (Osk (Osk (Osk (Oq Vpf (Oq Va (KS ?_)))))))
 have hq := q4 hrr false (by simp only [tf_bit, h5, cs4]); subst hq
 exact Kr () rfl (.tmp rfl .nil) [] trivial
theorem fn107 (vals : List Int) (valsa0 : Option Addr) (valsk0 : Nat) (rr : Int) (hrr : cmp_Or_int vals = rr) : FT Tryz.prog 107 #[vl valsa0 valsk0 vals] [S valsa0 valsk0 vals] (fun g : Unit => i64ok rr) (fun g => vi rr) (fun g => []) := by
 refine FTi Tryz.func107 fun w0 M0 F0 => Fb 8 0 fun _ => Fo 0 fun ho2 => ?_
 refine KS ?_
 refine Oq Va (KS ?_)
 refine Oq Va (KS ?_)
 refine Oq Vm (Oq (Vlen sl22) (Oq Vm (KS ?_)))
 refine Kl (γ := Nat × Int) (fun (r3, v8_4) => ⟨[(3, vi 0), (6, vl valsa0 valsk0 vals), (7, vi (vals.length : Int)), (8, vi v8_4)], [S valsa0 valsk0 vals], cmp_Or_int_L0 vals r3 v8_4 = cmp_Or_int_L0 vals (((vals.length : Int) - 0).toNat) 0 ∧ r3 = ((vals.length : Int) - v8_4).toNat ∧ (0 : Int) ≤ v8_4 ∧ v8_4 ≤ (vals.length : Int) ∧ (-9223372036854775808 ≤ v8_4 ∧ v8_4 ≤ 9223372036854775807), r3⟩) (((vals.length : Int) - 0).toNat, 0) [0] ⟨rfl, rfl, aM1, aM1, aM1⟩ ?_
 rintro ⟨r3, v8_4⟩ ⟨hM5, hr6, hi7, hi8, hk9⟩
 refine JJ_nx fun _ _ hL hA => ?_; dsimp only at hL hA; subst hL hA
 refine Fb 8 0 fun _ => Fo 0 fun ho11 => KS ?_
 refine Oq Vlss (KS ?_)
 refine Kc ?_ ?_
 ·intro h12
  have g13 := dt h12
  obtain ⟨r14, rfl⟩ := scc (n := r3) aM1
  refine KS ?_
  refine Oq (Vi sl22 0) ?_
  have hb15 := ok1 (i := v8_4.toNat) ho11 rng
  refine Oq (VldI sh3 0) (Oq Va (KS ?_))
  refine Oq Vm (Oq Vm (Oq Vneq (KS ?_)))
  refine Kc ?_ ?_
  ·intro h16
   have g17 := ne_of_bne h16
   refine KS ?_
   refine Oq Vm (Oq Va (KS ?_))
   have hR18 := q2 hM5 (.ret (vals.getD v8_4.toNat 0)) (by simp only [cmp_Or_int_L0, h12, h16, cs4])
   have hq := q4 hrr (vals.getD v8_4.toNat 0) (by simp only [cmp_Or_int, h12, h16, hR18, cs4]); subst hq
   exact Kr () rfl (.tmp rfl .nil) [] en
  intro h16
  have g19 := eq_of_bne_false h16
  refine KS ?_
  refine Oq Vadd (Oq Vm (KS ?_))
  exact Kg (r14, (v8_4 + 1)) [0] ⟨(q3 hM5 (by simp only [cmp_Or_int_L0, h12, h16, cs4])), aM1, aM1, aM1, aM1⟩
 intro h12
 have g20 := df h12
 obtain rfl : r3 = 0 := by omega
 refine Ke ?_
 have hR21 := q2 hM5 (.brk ()) (by simp only [cmp_Or_int_L0, h12, cs4])
 refine KS ?_
 refine Oq Vm (Oq Va (KS ?_))
 have hq := q4 hrr 0 (by simp only [cmp_Or_int, h12, hR21, cs4]); subst hq
 exact Kr () rfl (.tmp rfl .nil) [] en
theorem fn104 (x : Int) (hx_0 : i64ok x) (rr : Bool) (hrr : cmp_isNaN_int x = rr) : FT Tryz.prog 104 #[vi x] [] (fun g : Unit => True) (fun g => vb rr) (fun g => []) := by
 refine FTi Tryz.func104 fun w0 M0 F0 => ?_
 unfold i64ok at hx_0
 refine KS ?_
 refine Oq Va (KS ?_)
 refine Oq Vm (Oq Vm (Oq Vneq (Oq Va (KS ?_))))
 have hq := q4 hrr (x != x) (by simp only [cmp_isNaN_int, cs4]); subst hq
 exact Kr () rfl (.tmp rfl .nil) [] trivial
theorem fn108 (x : Int) (y : Int) (hx_0 : i64ok x) (hy_0 : i64ok y) (rr : Int) (hrr : cmp_Compare_int x y = rr) : FT Tryz.prog 108 #[vi x, vi y] [] (fun g : Unit => i64ok rr) (fun g => vi rr) (fun g => []) := by
 refine FTi Tryz.func108 fun w0 M0 F0 => ?_
 unfold i64ok at hx_0 hy_0
 refine KS ?_
 refine Oq Va (KS ?_)
 refine Oq Vm ?_
 refine letv (cmp_isNaN_int x) fun rv1 hg2 => ?_
 have hc3 := fn104 x pre rv1 hg2
 refine Oc [] ca104 hc3 ?_
 rintro - -
 refine Oq Va (KS ?_)
 refine Oq Vm ?_
 refine letv (cmp_isNaN_int y) fun rv4 hg5 => ?_
 have hc6 := fn104 y pre rv4 hg5
 refine Oc [] ca104 hc6 ?_
 rintro - -
 refine Oq Va (KS ?_)
 refine Oq Vm (KS ?_)
 refine Kc ?_ ?_
 ·intro h7
  refine KS ?_
  refine Oq Vm (KS ?_)
  refine Kc ?_ ?_
  ·intro h9
   refine KS ?_
   refine Oq Va (KS ?_)
   have hq := q4 hrr 0 (by simp only [cmp_Compare_int, h7, h9, hg2, hg5, cs4]); subst hq
   exact Kr () rfl (.tmp rfl .nil) [] en
  intro h9
  refine KS ?_
  refine Oq Va (KS ?_)
  have hq := q4 hrr (-1) (by simp only [cmp_Compare_int, h7, h9, hg2, hg5, cs4]); subst hq
  exact Kr () rfl (.tmp rfl .nil) [] en
 intro h7
 refine KS ?_
 refine Oq Vm (KS ?_)
 refine Kc ?_ ?_
 ·intro h13
  refine KS ?_
  refine Oq Va (KS ?_)
  have hq := q4 hrr 1 (by simp only [cmp_Compare_int, h7, h13, hg2, hg5, cs4]); subst hq
  exact Kr () rfl (.tmp rfl .nil) [] en
 intro h13
 refine KS ?_
 refine Oq Vm (Oq Vm (Oq Vlss (KS ?_)))
 refine Kc ?_ ?_
 ·intro h16
  have g17 := dt h16
  refine KS ?_
  refine Oq Va (KS ?_)
  have hq := q4 hrr (-1) (by simp only [cmp_Compare_int, h7, h13, h16, hg2, hg5, cs4]); subst hq
  exact Kr () rfl (.tmp rfl .nil) [] en
 intro h16
 have g18 := df h16
 refine KS ?_
 refine Oq Vm (Oq Vm (Oq Vgtr (KS ?_)))
 refine Kc ?_ ?_
 ·intro h19
  have g20 := dt h19
  refine KS ?_
  refine Oq Va (KS ?_)
  have hq := q4 hrr 1 (by simp only [cmp_Compare_int, h7, h13, h16, h19, hg2, hg5, cs4]); subst hq
  exact Kr () rfl (.tmp rfl .nil) [] en
 intro h19
 have g21 := df h19
 refine KS ?_
 refine Oq Va (KS ?_)
 have hq := q4 hrr 0 (by simp only [cmp_Compare_int, h7, h13, h16, h19, hg2, hg5, cs4]); subst hq
 exact Kr () rfl (.tmp rfl .nil) [] en
theorem fn98 (a : GCopy) (b : GCopy) (ha_0 : i64ok a.From) (ha_1 : i64ok a.To) (hb_0 : i64ok b.From) (hb_1 : i64ok b.To) (rr : Int) (hrr : tf_compare a b = rr) : FT Tryz.prog 98 #[.agg #[vi a.From, vi a.To], .agg #[vi b.From, vi b.To]] [] (fun g : Unit => i64ok rr) (fun g => vi rr) (fun g => []) := by
 refine FTi Tryz.func98 fun w0 M0 F0 => ?_
 unfold i64ok at ha_0 ha_1 hb_0 hb_1
 refine KS ?_
 refine Oa (Ab [vi a.From, vi a.To]) fun p1 => Oa (Ab [vi b.From, vi b.To]) fun p2 => Oq Va (KS ?_)
 refine JK_drawK [0, 1, 0, 4, 15, 0, 32, 0, 128, 511, 1023, 2047, 4095] fmix ?_
 refine Dv [1] (Vfa fo74_0 0) (Dv [1] (VldF sh3 0) (Dv [0] (Vfa fo74_0 0) (Dv [0] (VldF sh3 0) ?_)))
 refine letv (cmp_Compare_int a.From b.From) fun rv3 hg4 => ?_
 refine Dx [] [] [0] (fun G => vi rv3) [fun G => SP.fact (i64ok rv3)] (fun G => xC [] ca108 (fn108 a.From b.From pre pre rv3 hg4)) (Dv [1] (Vfa fo74_1 0) (Dv [1] (VldF sh3 0) (Dv [0] (Vfa fo74_1 0) (Dv [0] (VldF sh3 0) ?_))))
 refine letv (cmp_Compare_int a.To b.To) fun rv5 hg6 => ?_
 refine Dx [] [] [0] (fun G => vi rv5) [fun G => SP.fact (i64ok rv5)] (fun G => xC [] ca108 (fn108 a.To b.To pre pre rv5 hg6)) (Dx [] [] [0] (fun G => (G.g 10 0)) [fun G => Cr (G.g 10 0) 2 [vi rv3, vi rv5]] (fun G => xA (AsV sl22 sz22 [vi rv3, vi rv5] [vi rv3, vi rv5])) ?_)
 refine letv (cmp_Or_int [rv3, rv5]) fun rv11 hg12 => ?_
 refine Dx [2, 3, 4] [4] [2, 3, 1, 0] (fun G => vi rv11) [fun G => sl (G.g 10 0) ([rv3, rv5] : List Int), fun G => SP.fact (i64ok rv11)] (fun G => by refine xf 0 rfl ?_; rintro he13; unfold i64ok at he13; refine xf 1 rfl ?_; rintro he14; unfold i64ok at he14; exact xp [2] rfl (Ent.crInt _ [rv3, rv5] _ _ rfl rfl (by intro x hx; simp only [List.mem_cons, List.not_mem_nil, or_false] at hx; rcases hx with rfl | rfl <;> (unfold i64ok; omega)) aB1) (xp [0] rfl (Ent.freeze _ _) (xD [0] ca107 rfl rfl rfl (FT_open (γ := Unit) (I := fun g => i64ok rv11) (V := fun g => vi rv11) (B := fun g => []) (R := sl (G.g 10 0) ([rv3, rv5] : List Int)) sl_slice (fun aq8 kq9 eq10 => by rw [eq10]; exact FT_ent (Ent.take (is := [0]) rfl) (fn107 ([rv3, rv5]) aq8 kq9 rv11 hg12)))))) (Dv [] Va ?_)
 refine Dn ⟨by kernel_rfl, fun G => ?_⟩
 refine Jw2 [(4, vi rv11)] [0, 1] [SP.fact (i64ok rv3), SP.fact (i64ok rv5), sl (G.g 10 0) ([rv3, rv5] : List Int), SP.fact (i64ok rv11)] ?_
 generalize G.g 10 0 = c7
 refine Jf 2 rfl ?_; rintro he15
 unfold i64ok at he15
 refine Jf 3 rfl ?_; rintro he16
 unfold i64ok at he16
 refine Jf 5 rfl ?_; rintro he17
 unfold i64ok at he17
 refine Jk [0, 1, 4] ?_
 refine Jo 2 ?_; rintro a18 k19 rfl
 refine Fb 8 2 fun _ => Fo 2 fun ho21 => ?_
 have hq := q4 hrr rv11 (by simp only [tf_compare, hg4, hg6, hg12, cs4]); subst hq
 exact Kr () rfl (.tmp rfl .nil) [] en
theorem fn81 (t : GTransfer) (ta1 : Option Addr) (tk1 : Nat) (ta3 : Option Addr) (tk3 : Nat) (ta4 : Option Addr) (tk4 : Nat) (ht_0 : i64ok t.Gen.Width) (ht_2 : i64ok t.Kill.Width) (rr : Bool) (hrr : tf_Valid t = rr) : FT Tryz.prog 81 #[.agg #[vi t.Gen.Width, vl ta1 tk1 t.Gen.Words, vi t.Kill.Width, vl ta3 tk3 t.Kill.Words, vl ta4 tk4 t.Copies]] [S ta1 tk1 t.Gen.Words, S ta3 tk3 t.Kill.Words, S ta4 tk4 t.Copies] (fun g : Unit => True) (fun g => vb rr) (fun g => []) := by
 refine FTi Tryz.func81 fun w0 M0 F0 => ?_
 unfold i64ok at ht_0 ht_2
 refine Fb 8 0 fun _ => Fb 8 1 fun _ => Fb 16 2 fun _ => KS ?_
 refine Oa (Ab [vi t.Gen.Width, vl ta1 tk1 t.Gen.Words, vi t.Kill.Width, vl ta3 tk3 t.Kill.Words, vl ta4 tk4 t.Copies]) fun p4 => Oq Va (KS ?_)
 refine Oq (Vfa fo57_0 0) (Oq (VldG sh53 0 [vi t.Gen.Width, vl ta1 tk1 t.Gen.Words]) ?_)
 refine letv (bt_Valid t.Gen) fun rv5 hg6 => ?_
 have hc7 := fn34 t.Gen ta1 tk1 pre rv5 hg6
 refine Oc [1] ca34 hc7 ?_
 rintro - -
 refine Oq Vnot (Oq Vm ?_)
 refine Js 9 ?_ ?_
 ·intro h8
  have h10 := not_true h8
  refine Osk (Osk (Osk (Osk (Oq Vpt (Oq Vm (Osk (Osk (Osk (Osk ?_)))))))))
  refine Osk (Osk (Osk (Oq Vpt (Oq Vm (Osk (Osk (Osk (Osk (Oq Vpt ?_)))))))))
  refine KS ?_
  refine Kt (KS ?_)
  refine Oq Va (KS ?_)
  have hq := q4 hrr false (by simp only [tf_Valid, h8, h10, hg6, cs4]); subst hq
  exact Kr () rfl (.tmp rfl .nil) [] trivial
 intro h8
 have h13 := not_false h8
 refine Oq (Vfa fo57_1 0) (Oq (VldG sh53 0 [vi t.Kill.Width, vl ta3 tk3 t.Kill.Words]) ?_)
 refine letv (bt_Valid t.Kill) fun rv15 hg16 => ?_
 have hc17 := fn34 t.Kill ta3 tk3 pre rv15 hg16
 refine Oc [2] ca34 hc17 ?_
 rintro - -
 refine Oq Vnot (Oq Vpf (Oq Vm ?_))
 refine Js 15 ?_ ?_
 ·intro h18
  have h20 := not_true h18
  refine Osk (Osk (Osk (Osk (Osk (Osk (Osk (Oq Vpt (Oq Vm (Osk ?_)))))))))
  refine Osk (Osk (Osk (Oq Vpt (KS ?_))))
  refine Kt (KS ?_)
  refine Oq Va (KS ?_)
  have hq := q4 hrr false (by simp only [tf_Valid, h8, h13, h18, h20, hg6, hg16, cs4]); subst hq
  exact Kr () rfl (.tmp rfl .nil) [] trivial
 intro h18
 have h23 := not_false h18
 refine Oq (Vfa fo57_0 0) (Oq (VfaF fo53_0 0) (Oq (VldF sh3 0) (Oq (Vfa fo57_1 0) (Oq (VfaF fo53_0 0) (Oq (VldF sh3 0) (Oq Vneq (Oq Vpf (Oq Vm ?_))))))))
 refine Js 24 ?_ ?_
 ·intro h25
  have g26 := ne_of_bne h25
  refine Osk (Osk (Osk (Osk (Oq Vpt (KS ?_)))))
  refine Kt (KS ?_)
  refine Oq Va (KS ?_)
  have hq := q4 hrr false (by simp only [tf_Valid, h8, h13, h18, h23, h25, hg6, hg16, cs4]); subst hq
  exact Kr () rfl (.tmp rfl .nil) [] trivial
 intro h25
 have g27 := eq_of_bne_false h25
 refine Oq (Vfa fo57_2 0) (Oq (VldF sh55 0) (Oq (Vlen sl55) (Oq Vgtr (Oq Vpf (KS ?_)))))
 refine Kc ?_ ?_
 ·intro h28
  have g29 := dt h28
  refine KS ?_
  refine Oq Va (KS ?_)
  have hq := q4 hrr false (by simp only [tf_Valid, h8, h13, h18, h23, h25, h28, hg6, hg16, cs4]); subst hq
  exact Kr () rfl (.tmp rfl .nil) [] trivial
 intro h28
 have g30 := df h28
 refine KS ?_
 refine Oq (Vfa fo57_2 0) (Oq (VldF sh55 0) (Oq (Vlen sl55) (Oq Vm (KS ?_))))
 refine Kl (γ := Nat × Int) (fun (r31, v33_32) => ⟨[(1, p4), (31, vl ta4 tk4 t.Copies), (32, vi (t.Copies.length : Int)), (33, vi v33_32)], [pv p4 [vi t.Gen.Width, vl ta1 tk1 t.Gen.Words, vi t.Kill.Width, vl ta3 tk3 t.Kill.Words, vl ta4 tk4 t.Copies], S ta1 tk1 t.Gen.Words, S ta3 tk3 t.Kill.Words, S ta4 tk4 t.Copies], tf_Valid_L0 t r31 v33_32 = tf_Valid_L0 t (((t.Copies.length : Int) - 0).toNat) 0 ∧ r31 = ((t.Copies.length : Int) - v33_32).toNat ∧ (0 : Int) ≤ v33_32 ∧ v33_32 ≤ (t.Copies.length : Int) ∧ (-9223372036854775808 ≤ v33_32 ∧ v33_32 ≤ 9223372036854775807), r31⟩) (((t.Copies.length : Int) - 0).toNat, 0) [0, 1, 2, 3] ⟨rfl, rfl, aM1, aM1, aM1⟩ ?_
 rintro ⟨r31, v33_32⟩ ⟨hM33, hr34, hi35, hi36, hk37⟩
 refine JJ_nx fun _ _ hL hA => ?_; dsimp only at hL hA; subst hL hA
 refine Fb 8 1 fun _ => Fb 8 2 fun _ => Fb 16 3 fun _ => KS ?_
 refine Oq Vlss (KS ?_)
 refine Kc ?_ ?_
 ·intro h41
  have g42 := dt h41
  obtain ⟨r43, rfl⟩ := scc (n := r31) aM1
  refine KS ?_
  refine Oq Vm (Oq (Vi sl55 3) ?_)
  refine JJ_peek_GCopy v33_32.toNat 3 rfl rng fun hb44 hb45 => ?_
  unfold i64ok at hb44 hb45
  refine Oq (VldA sh74 0) (Oa (Al ze74 [vi 0, vi 0]) fun p46 => Oq Va (Ost (Scl [0] sh74 [vi ((t.Copies.getD v33_32.toNat default).From), vi ((t.Copies.getD v33_32.toNat default).To)]) (KS ?_)))
  refine Jp 0 fun hp47 => ?_
  refine letv (tf_bit t ((t.Copies.getD v33_32.toNat default).From)) fun rv48 hg49 => ?_
  refine bool_split (!rv48) ?_ ?_
  ·intro h50
   have h52 := not_true h50
   refine JK_drawK [0, 0, 2, 7, 15, 31, 63, 63, 191, 511, 1023, 2047, 4095, 8191, 16383, 32767, 65535, 131071, 65535, 327679, 1048575, 2097151, 65535, 8388607, 16777215, 33554431, 67108863] fmix ?_
   refine Dv [3] (VldA sh57 0) (Dv [0] (Vfa fo74_0 0) (Dv [1] (VldF sh3 0) (Dx [4, 5, 6] [] [1, 2, 3, 0] (fun G => vb rv48) [fun G => SP.fact (True)] (fun G => xC [0, 1, 2] ca97 (fn97 t ta1 tk1 ta3 tk3 ta4 tk4 ((t.Copies.getD v33_32.toNat default).From) pre pre pre rv48 hg49)) (Db h50 [] Vnot (Dv [] Vm (Ds (Ds (Ds (Ds ?_)))))))))
   refine Ds (Dv [] Vpt (Dv [] Vm (Ds (Ds (Ds (Ds (Ds (Ds (Ds ?_)))))))))
   refine Ds (Ds (Ds (Ds (Ds (Ds (Dv [] Vpt ?_))))))
   refine Dn ⟨by kernel_rfl, fun G => ?_⟩
   refine Jw2 [(1, p4), (31, vl ta4 tk4 t.Copies), (32, vi (t.Copies.length : Int)), (33, vi v33_32), (64, vb true)] [0, 1, 2, 3, 4, 5, 6] [SP.fact (True)] ?_
   refine Jk [1, 1, 2, 3, 4, 5] (Kt ?_)
   refine KS ?_
   refine Oq Va (KS ?_)
   have hR54 := q2 hM33 (.ret false) (by simp only [tf_Valid_L0, h41, h50, h52, hg49, cs4])
   have hq := q4 hrr false (by simp only [tf_Valid, h8, h13, h18, h23, h25, h28, h41, h50, h52, hg6, hg16, hg49, hR54, cs4]); subst hq
   exact Kr () rfl (.tmp rfl .nil) [] trivial
  intro h50
  have h56 := not_false h50
  refine letv (tf_bit t ((t.Copies.getD v33_32.toNat default).To)) fun rv58 hg59 => ?_
  refine bool_split (!rv58) ?_ ?_
  ·intro h60
   have h62 := not_true h60
   refine JK_drawK [0, 0, 2, 7, 15, 31, 63, 63, 191, 511, 1023, 2047, 4095, 8191, 16383, 32767, 65535, 131071, 65535, 327679, 1048575, 2097151, 65535, 8388607, 16777215, 33554431, 67108863] fmix ?_
   refine Dv [3] (VldA sh57 0) (Dv [0] (Vfa fo74_0 0) (Dv [1] (VldF sh3 0) (Dx [4, 5, 6] [] [1, 2, 3, 0] (fun G => vb rv48) [fun G => SP.fact (True)] (fun G => xC [0, 1, 2] ca97 (fn97 t ta1 tk1 ta3 tk3 ta4 tk4 ((t.Copies.getD v33_32.toNat default).From) pre pre pre rv48 hg49)) (Db h50 [] Vnot (Dv [] Vm (Dv [3] (VldA sh57 0) (Dv [0] (Vfa fo74_1 0) (Dv [1] (VldF sh3 0) (Dx [4, 5, 6] [] [1, 2, 3, 0] (fun G => vb rv58) [fun G => SP.fact (True)] (fun G => xC [0, 1, 2] ca97 (fn97 t ta1 tk1 ta3 tk3 ta4 tk4 ((t.Copies.getD v33_32.toNat default).To) pre pre pre rv58 hg59)) ?_)))))))))
   refine Db h60 [] Vnot (Dv [] Vpf (Dv [] Vm (Ds (Ds (Ds (Ds (Ds (Ds (Ds ?_)))))))))
   refine Ds (Ds (Ds (Ds (Ds (Ds (Dv [] Vpt ?_))))))
   refine Dn ⟨by kernel_rfl, fun G => ?_⟩
   refine Jw2 [(1, p4), (31, vl ta4 tk4 t.Copies), (32, vi (t.Copies.length : Int)), (33, vi v33_32), (64, vb true)] [0, 1, 2, 3, 4, 5, 6] [SP.fact (True), SP.fact (True)] ?_
   refine Jk [1, 1, 2, 3, 4, 5] (Kt ?_)
   refine KS ?_
   refine Oq Va (KS ?_)
   have hR64 := q2 hM33 (.ret false) (by simp only [tf_Valid_L0, h41, h50, h56, h60, h62, hg49, hg59, cs4])
   have hq := q4 hrr false (by simp only [tf_Valid, h8, h13, h18, h23, h25, h28, h41, h50, h56, h60, h62, hg6, hg16, hg49, hg59, hR64, cs4]); subst hq
   exact Kr () rfl (.tmp rfl .nil) [] trivial
  intro h60
  have h66 := not_false h60
  refine bool_split (decide (0 < v33_32)) ?_ ?_
  ·intro h68
   have g69 := dt h68
   refine JJ_peek_GCopy ((v33_32 - 1) : Int).toNat 6 rfl rng fun hb70 hb71 => ?_
   unfold i64ok at hb70 hb71
   refine JK_drawK [0, 0, 2, 7, 15, 31, 63, 63, 191, 511, 1023, 2047, 4095, 8191, 16383, 32767, 65535, 131071, 65535, 327679, 1048575, 2097151, 65535, 8388607, 16777215, 33554431, 67108863] fmix ?_
   refine Dv [4] (VldA sh57 0) (Dv [1] (Vfa fo74_0 0) (Dv [2] (VldF sh3 0) (Dx [5, 6, 7] [] [1, 2, 3, 0] (fun G => vb rv48) [fun G => SP.fact (True)] (fun G => xC [0, 1, 2] ca97 (fn97 t ta1 tk1 ta3 tk3 ta4 tk4 ((t.Copies.getD v33_32.toNat default).From) pre pre pre rv48 hg49)) (Db h50 [] Vnot (Dv [] Vm (Dv [4] (VldA sh57 0) (Dv [1] (Vfa fo74_1 0) (Dv [2] (VldF sh3 0) (Dx [5, 6, 7] [] [1, 2, 3, 0] (fun G => vb rv58) [fun G => SP.fact (True)] (fun G => xC [0, 1, 2] ca97 (fn97 t ta1 tk1 ta3 tk3 ta4 tk4 ((t.Copies.getD v33_32.toNat default).To) pre pre pre rv58 hg59)) ?_)))))))))
   refine Db h60 [] Vnot (Dv [] Vpf (Dv [] Vm (Dv [] Vm (Db h68 [] Vgtr (Dv [] Vm (Dv [4] (Vfa fo57_2 0) (Dv [4] (VldF sh55 0) (Dv [] Vm (Dv [] Vsub ?_)))))))))
   refine Dv [7] (Vi sl55 0) (Dv [0] (VldA sh74 0) (Dv [2] (VldA sh74 0) ?_))
   refine letv (tf_compare (t.Copies.getD ((v33_32 - 1) : Int).toNat default) (t.Copies.getD v33_32.toNat default)) fun rv72 hg73 => ?_
   refine Dx [] [] [0] (fun G => vi rv72) [fun G => SP.fact (i64ok rv72)] (fun G => xC [] ca98 (fn98 ((t.Copies.getD ((v33_32 - 1) : Int).toNat default)) ((t.Copies.getD v33_32.toNat default)) pre pre pre pre rv72 hg73)) (Dv [] Vgeq (Dv [] Vpt (Dv [] Vpf ?_)))
   refine Dn ⟨by kernel_rfl, fun G => ?_⟩
   refine Jw2 [(1, p4), (31, vl ta4 tk4 t.Copies), (32, vi (t.Copies.length : Int)), (33, vi v33_32), (64, vb (decide (0 ≤ rv72)))] [0, 1, 2, 3, 4, 5, 6, 7] [SP.fact (True), SP.fact (True), SP.fact (i64ok rv72)] ?_
   refine Jf 10 rfl ?_; rintro he74
   unfold i64ok at he74
   refine Jk [0, 2, 2, 3, 4, 5, 6] ?_
   refine Kc ?_ ?_
   ·intro h75
    have g76 := dt h75
    refine KS ?_
    refine Oq Va (KS ?_)
    have hR77 := q2 hM33 (.ret false) (by simp only [tf_Valid_L0, h41, h50, h56, h60, h66, h68, h75, hg49, hg59, hg73, cs4])
    have hq := q4 hrr false (by simp only [tf_Valid, h8, h13, h18, h23, h25, h28, h41, h50, h56, h60, h66, h68, h75, hg6, hg16, hg49, hg59, hg73, hR77, cs4]); subst hq
    exact Kr () rfl (.tmp rfl .nil) [] trivial
   intro h75
   have g78 := df h75
   refine KS ?_
   refine Oq Vadd (Oq Vm (KS ?_))
   exact Kg (r43, (v33_32 + 1)) [3, 4, 5, 6] ⟨(q3 hM33 (by simp only [tf_Valid_L0, h41, h50, h56, h60, h66, h68, h75, hg49, hg59, hg73, cs4])), aM1, aM1, aM1, aM1⟩
  intro h68
  have g79 := df h68
  refine JK_drawK [0, 0, 2, 7, 15, 31, 63, 63, 191, 511, 1023, 2047, 4095, 8191, 16383, 32767, 65535, 131071, 65535, 327679, 1048575, 2097151, 65535, 8388607, 16777215, 33554431, 67108863] fmix ?_
  refine Dv [3] (VldA sh57 0) (Dv [0] (Vfa fo74_0 0) (Dv [1] (VldF sh3 0) (Dx [4, 5, 6] [] [1, 2, 3, 0] (fun G => vb rv48) [fun G => SP.fact (True)] (fun G => xC [0, 1, 2] ca97 (fn97 t ta1 tk1 ta3 tk3 ta4 tk4 ((t.Copies.getD v33_32.toNat default).From) pre pre pre rv48 hg49)) (Db h50 [] Vnot (Dv [] Vm (Dv [3] (VldA sh57 0) (Dv [0] (Vfa fo74_1 0) (Dv [1] (VldF sh3 0) (Dx [4, 5, 6] [] [1, 2, 3, 0] (fun G => vb rv58) [fun G => SP.fact (True)] (fun G => xC [0, 1, 2] ca97 (fn97 t ta1 tk1 ta3 tk3 ta4 tk4 ((t.Copies.getD v33_32.toNat default).To) pre pre pre rv58 hg59)) ?_)))))))))
  refine Db h60 [] Vnot (Dv [] Vpf (Dv [] Vm (Dv [] Vm (Db h68 [] Vgtr (Dv [] Vm (Ds (Ds (Ds (Ds ?_)))))))))
  refine Ds (Ds (Ds (Ds (Ds (Dv [] Vpf (Dv [] Vpf ?_))))))
  refine Dn ⟨by kernel_rfl, fun G => ?_⟩
  refine Jw2 [(1, p4), (31, vl ta4 tk4 t.Copies), (32, vi (t.Copies.length : Int)), (33, vi v33_32), (64, vb false)] [0, 1, 2, 3, 4, 5, 6] [SP.fact (True), SP.fact (True)] ?_
  refine Jk [1, 1, 2, 3, 4, 5] (Kf ?_)
  refine KS ?_
  refine Oq Vadd (Oq Vm (KS ?_))
  exact Kg (r43, (v33_32 + 1)) [2, 3, 4, 5] ⟨(q3 hM33 (by simp only [tf_Valid_L0, h41, h50, h56, h60, h66, h68, hg49, hg59, cs4])), aM1, aM1, aM1, aM1⟩
 intro h41
 have g80 := df h41
 obtain rfl : r31 = 0 := by omega
 refine Ke ?_
 have hR81 := q2 hM33 (.brk ()) (by simp only [tf_Valid_L0, h41, cs4])
 refine KS ?_
 refine Oq Va (KS ?_)
 have hq := q4 hrr true (by simp only [tf_Valid, h8, h13, h18, h23, h25, h28, h41, hg6, hg16, hR81, cs4]); subst hq
 exact Kr () rfl (.tmp rfl .nil) [] trivial
theorem fn62 (width : Int) (f : GTransfer) (fa1 : Option Addr) (fk1 : Nat) (fa3 : Option Addr) (fk3 : Nat) (fa4 : Option Addr) (fk4 : Nat) (hwidth_0 : i64ok width) (hf_0 : i64ok f.Gen.Width) (hf_2 : i64ok f.Kill.Width) (rr : Bool) (hrr : eq_fits width f = rr) : FT Tryz.prog 62 #[vi width, .agg #[vi f.Gen.Width, vl fa1 fk1 f.Gen.Words, vi f.Kill.Width, vl fa3 fk3 f.Kill.Words, vl fa4 fk4 f.Copies]] [S fa1 fk1 f.Gen.Words, S fa3 fk3 f.Kill.Words, S fa4 fk4 f.Copies] (fun g : Unit => True) (fun g => vb rr) (fun g => []) := by
 refine FTi Tryz.func62 fun w0 M0 F0 => ?_
 unfold i64ok at hwidth_0 hf_0 hf_2
 refine Fb 8 0 fun _ => Fb 8 1 fun _ => Fb 16 2 fun _ => KS ?_
 refine Oa (Ab [vi f.Gen.Width, vl fa1 fk1 f.Gen.Words, vi f.Kill.Width, vl fa3 fk3 f.Kill.Words, vl fa4 fk4 f.Copies]) fun p4 => Oq Va (KS ?_)
 refine Oq (VldA sh57 0) ?_
 refine letv (tf_Valid f) fun rv5 hg6 => ?_
 have hc7 := fn81 f fa1 fk1 fa3 fk3 fa4 fk4 pre pre rv5 hg6
 refine Oc [1, 2, 3] ca81 hc7 ?_
 rintro - -
 refine Oq Vm ?_
 refine Js 7 ?_ ?_
 ·intro h8
  refine Oq (Vfa fo57_0 0) (Oq (VfaF fo53_0 0) (Oq (VldF sh3 0) (Oq Vm (Oq Veql (Oq Vpt (Oq Va (KS ?_)))))))
  have hq := q4 hrr (f.Gen.Width == width) (by simp only [eq_fits, h8, hg6, cs4]); subst hq
  exact Kr () rfl (.tmp rfl .nil) [] trivial
 intro h8
 refine Osk (Osk (Osk (Osk (Osk (Oq Vpf (Oq Va (KS ?_)))))))
 have hq := q4 hrr false (by simp only [eq_fits, h8, hg6, cs4]); subst hq
 exact Kr () rfl (.tmp rfl .nil) [] trivial
theorem fn61 (f : GTransfer) (fa1 : Option Addr) (fk1 : Nat) (fa3 : Option Addr) (fk3 : Nat) (fa4 : Option Addr) (fk4 : Nat) (cap0P : Value) (cap0 : GSystem) (cap0a1 : Option Addr) (cap0k1 : Nat) (cap0a2 : Option Addr) (cap0k2 : Nat) (cap0a3 : Option Addr) (cap0k3 : Nat) (hf_0 : i64ok f.Gen.Width) (hf_2 : i64ok f.Kill.Width) (hcap0_0 : i64ok cap0.Width) (rr : Bool) (hrr : eq_Valid_1 f cap0 = rr) : FT Tryz.prog 61 #[.agg #[vi f.Gen.Width, vl fa1 fk1 f.Gen.Words, vi f.Kill.Width, vl fa3 fk3 f.Kill.Words, vl fa4 fk4 f.Copies], cap0P] [S fa1 fk1 f.Gen.Words, S fa3 fk3 f.Kill.Words, S fa4 fk4 f.Copies, pv cap0P [vi cap0.Width, vl cap0a1 cap0k1 cap0.Deps, vl cap0a2 cap0k2 cap0.Transfers, vl cap0a3 cap0k3 cap0.Boundary], S cap0a1 cap0k1 cap0.Deps, S cap0a2 cap0k2 cap0.Transfers, S cap0a3 cap0k3 cap0.Boundary] (fun g : Unit => True) (fun g => vb rr) (fun g => []) := by
 refine FTi Tryz.func61 fun w0 M0 F0 => ?_
 unfold i64ok at hf_0 hf_2 hcap0_0
 refine Fb 8 0 fun _ => Fb 8 1 fun _ => Fb 16 2 fun _ => Fb 24 4 fun _ => Fb 88 5 fun _ => Fb 32 6 fun _ => KS ?_
 refine Oa (Ab [vi f.Gen.Width, vl fa1 fk1 f.Gen.Words, vi f.Kill.Width, vl fa3 fk3 f.Kill.Words, vl fa4 fk4 f.Copies]) fun p7 => Oq Va (KS ?_)
 refine Oq (Vfa fo27_0 4) (Oq (VldF sh3 4) (Oq (VldA sh57 0) ?_))
 refine letv (eq_fits cap0.Width f) fun rv8 hg9 => ?_
 have hc10 := fn62 cap0.Width f fa1 fk1 fa3 fk3 fa4 fk4 pre pre pre rv8 hg9
 refine Oc [1, 2, 3] ca62 hc10 ?_
 rintro - -
 refine Oq Vnot (Oq Va (KS ?_))
 have hq := q4 hrr (!rv8) (by simp only [eq_Valid_1, hg9, cs4]); subst hq
 exact Kr () rfl (.tmp rfl .nil) [] trivial
theorem fn28 (s : GSystem) (sa1 : Option Addr) (sk1 : Nat) (sa2 : Option Addr) (sk2 : Nat) (sa3 : Option Addr) (sk3 : Nat) (hs_0 : i64ok s.Width) (rr : Bool) (hrr : eq_Valid s = rr) : FT Tryz.prog 28 #[.agg #[vi s.Width, vl sa1 sk1 s.Deps, vl sa2 sk2 s.Transfers, vl sa3 sk3 s.Boundary]] [S sa1 sk1 s.Deps, S sa2 sk2 s.Transfers, S sa3 sk3 s.Boundary] (fun g : Unit => True) (fun g => vb rr) (fun g => []) := by
 refine FTi Tryz.func28 fun w0 M0 F0 => ?_
 unfold i64ok at hs_0
 refine Fb 24 0 fun _ => Fb 88 1 fun _ => Fb 32 2 fun _ => KS ?_
 refine Oa (Ab [vi s.Width, vl sa1 sk1 s.Deps, vl sa2 sk2 s.Transfers, vl sa3 sk3 s.Boundary]) fun p4 => Oq Va (KS ?_)
 refine Oq (Vfa fo27_1 0) (Oq (VldF sh23 0) (Oq (Vlen sl23) (Oq Va (KS ?_))))
 refine Oq (Vfa fo27_0 0) (Oq (VldF sh3 0) (Oq Vm ?_))
 refine letv (eq_sized s.Width (s.Deps.length : Int)) fun rv5 hg6 => ?_
 have hc7 := fn57 s.Width ((s.Deps.length : Int)) pre pre rv5 hg6
 refine Oc [] ca57 hc7 ?_
 rintro - -
 refine Oq Vnot (Oq Vm ?_)
 refine Js 15 ?_ ?_
 ·intro h8
  have h10 := not_true h8
  refine Osk (Osk (Osk (Osk (Osk (Oq Vpt (Oq Vm (Osk (Osk (Osk ?_)))))))))
  refine Osk (Osk (Oq Vpt (KS ?_)))
  refine Kt (KS ?_)
  refine Oq Va (KS ?_)
  have hq := q4 hrr false (by simp only [eq_Valid, h8, h10, hg6, cs4]); subst hq
  exact Kr () rfl (.tmp rfl .nil) [] trivial
 intro h8
 have h13 := not_false h8
 refine Oq (Vfa fo27_2 0) (Oq (VldF sh24 0) (Oq (Vlen sl24) (Oq Vm (Oq Vneq (Oq Vpf (Oq Vm ?_))))))
 refine Js 22 ?_ ?_
 ·intro h15
  have g16 := ne_of_bne h15
  refine Osk (Osk (Osk (Osk (Osk (Oq Vpt (KS ?_))))))
  refine Kt (KS ?_)
  refine Oq Va (KS ?_)
  have hq := q4 hrr false (by simp only [eq_Valid, h8, h13, h15, hg6, cs4]); subst hq
  exact Kr () rfl (.tmp rfl .nil) [] trivial
 intro h15
 have g17 := eq_of_bne_false h15
 refine Oq (Vfa fo27_3 0) (Oq (VldF sh25 0) (Oq (Vlen sl25) (Oq Vm (Oq Vneq (Oq Vpf (KS ?_))))))
 refine Kc ?_ ?_
 ·intro h18
  have g19 := ne_of_bne h18
  refine KS ?_
  refine Oq Va (KS ?_)
  have hq := q4 hrr false (by simp only [eq_Valid, h8, h13, h15, h18, hg6, cs4]); subst hq
  exact Kr () rfl (.tmp rfl .nil) [] trivial
 intro h18
 have g20 := eq_of_bne_false h18
 refine KS ?_
 refine Oq Va (KS ?_)
 refine Oq (Vfa fo27_1 0) (Oq (VldF sh23 0) (Oq (Vlen sl23) (Oq Vm (KS ?_))))
 refine Kl (γ := Nat × Int × Int) (fun (r21, edges_22, v32_23) => ⟨[(1, p4), (3, vi (s.Deps.length : Int)), (4, vi edges_22), (30, vl sa1 sk1 s.Deps), (31, vi (s.Deps.length : Int)), (32, vi v32_23)], [pv p4 [vi s.Width, vl sa1 sk1 s.Deps, vl sa2 sk2 s.Transfers, vl sa3 sk3 s.Boundary], S sa1 sk1 s.Deps, S sa2 sk2 s.Transfers, S sa3 sk3 s.Boundary], eq_Valid_L0 s r21 edges_22 v32_23 = eq_Valid_L0 s (((s.Deps.length : Int) - 0).toNat) 0 0 ∧ r21 = ((s.Deps.length : Int) - v32_23).toNat ∧ (0 : Int) ≤ v32_23 ∧ v32_23 ≤ (s.Deps.length : Int) ∧ (-9223372036854775808 ≤ edges_22 ∧ edges_22 ≤ 9223372036854775807) ∧ (-9223372036854775808 ≤ v32_23 ∧ v32_23 ≤ 9223372036854775807) ∧ 0 ≤ edges_22 ∧ edges_22 ≤ 1024, r21⟩) (((s.Deps.length : Int) - 0).toNat, 0, 0) [0, 1, 2, 3] ⟨rfl, rfl, aM1, aM1, aM1, aM1, iv0⟩ ?_
 rintro ⟨r21, edges_22, v32_23⟩ ⟨hM24, hr25, hi26, hi27, hk28, hk29, hv30⟩
 refine JJ_nx fun _ _ hL hA => ?_; dsimp only at hL hA; subst hL hA
 refine Fb 24 1 fun _ => Fb 88 2 fun _ => Fb 32 3 fun _ => KS ?_
 refine Oq Vlss (KS ?_)
 refine Kc ?_ ?_
 ·intro h34
  have g35 := dt h34
  obtain ⟨r36, rfl⟩ := scc (n := r21) aM1
  refine KS ?_
  refine Oq (Vi sl23 1) ?_
  refine JJ_peekL v32_23.toNat 1 rfl rng fun a37 k38 => ?_
  refine Fb 8 1 fun _ => Fo 1 fun ho40 => ?_
  refine Oq (Vld sh22 0) (Oq Va (KS ?_))
  refine Oq Vm (Oq Vm (Oq (Vlen sl22) (Oq Vadd (Oq Va (KS ?_)))))
  refine Oq Vm (Oq Vgtr (Oq Vm ?_))
  refine Js 42 ?_ ?_
  ·intro h41
   have g42 := dt h41
   refine Osk (Osk (Osk (Osk (Oq Vpt (KS ?_)))))
   refine Kt (KS ?_)
   refine Oq Va (KS ?_)
   have hR43 := q2 hM24 (.ret false) (by simp only [eq_Valid_L0, h34, h41, cs4])
   have hq := q4 hrr false (by simp only [eq_Valid, h8, h13, h15, h18, h34, h41, hg6, hR43, cs4]); subst hq
   exact Kr () rfl (.tmp rfl .nil) [] trivial
  intro h41
  have g44 := df h41
  refine Oq Vm (Oq Vm ?_)
  refine letv (eq_ascending (s.Deps.getD v32_23.toNat []) (s.Deps.length : Int)) fun rv45 hg46 => ?_
  have hc47 := fn58 ((s.Deps.getD v32_23.toNat [])) a37 k38 ((s.Deps.length : Int)) pre rv45 hg46
  refine Oc [1] ca58 hc47 ?_
  rintro - -
  refine Oq Vnot (Oq Vpf (KS ?_))
  refine Kc ?_ ?_
  ·intro h48
   have h50 := not_true h48
   refine KS ?_
   refine Oq Va (KS ?_)
   have hR52 := q2 hM24 (.ret false) (by simp only [eq_Valid_L0, h34, h41, h48, h50, hg46, cs4])
   have hq := q4 hrr false (by simp only [eq_Valid, h8, h13, h15, h18, h34, h41, h48, h50, hg6, hg46, hR52, cs4]); subst hq
   exact Kr () rfl (.tmp rfl .nil) [] trivial
  intro h48
  have h54 := not_false h48
  refine KS ?_
  refine Oq Vadd (Oq Vm (KS ?_))
  exact Kg (r36, (edges_22 + ((s.Deps.getD v32_23.toNat []).length : Int)), (v32_23 + 1)) [2, 3, 4, 5] ⟨(q3 hM24 (by simp only [eq_Valid_L0, h34, h41, h48, h54, hg46, cs4])), aM1, aM1, aM1, aM1, aM1, iv1⟩
 intro h34
 have g56 := df h34
 obtain rfl : r21 = 0 := by omega
 refine Ke ?_
 have hR57 := q2 hM24 (.brk ()) (by simp only [eq_Valid_L0, h34, cs4])
 refine KS ?_
 refine Oq (Vfa fo27_0 0) (Oq (VldF sh3 0) (Oq (Vfa fo27_3 0) (Oq (VldF sh25 0) ?_)))
 refine letv (eq_sets s.Width s.Boundary) fun rv58 hg59 => ?_
 have hc60 := fn59 s.Width s.Boundary sa3 sk3 pre rv58 hg59
 refine Oc [3] ca59 hc60 ?_
 rintro - -
 refine Oq Vm ?_
 refine Js 54 ?_ ?_
 ·intro h61
  refine Oq (Vfa fo27_2 0) (Oq (VldF sh24 0) (Oq (Vf [p4]) ?_))
  refine JJ_ent (Ent.pall [0, 1, 2, 3] rfl rfl) ?_
  refine letv (sc_ContainsFunc_Transfer s.Transfers (fun x => eq_Valid_1 x s)) fun rv63 hg64 => ?_
  have hc65 := fn60 s.Transfers sa2 sk2 61 [p4] (fun x => eq_Valid_1 x s) [pv p4 [vi s.Width, vl sa1 sk1 s.Deps, vl sa2 sk2 s.Transfers, vl sa3 sk3 s.Boundary], S sa1 sk1 s.Deps, S sa2 sk2 s.Transfers, S sa3 sk3 s.Boundary] ca61 (fun x hx a1 k1 a3 k3 a4 k4 hq0 hq2 => FT_pall (A1 := _) (fn61 x a1 k1 a3 k3 a4 k4 p4 s sa1 sk1 sa2 sk2 sa3 sk3 hq0 hq2 pre _ rfl)) rv63 hg64
  refine Oc [3, 0] ca60 hc65 ?_
  rintro - -
  refine Oq Vnot (Oq Vpt (Oq Va (KS ?_)))
  have hq := q4 hrr (!rv63) (by simp only [eq_Valid, h8, h13, h15, h18, h34, h61, hg6, hR57, hg59, hg64, cs4]); subst hq
  exact Kr () rfl (.tmp rfl .nil) [] trivial
 intro h61
 refine Osk (Osk (Osk (Osk (Osk (Oq Vpf (Oq Va (KS ?_)))))))
 have hq := q4 hrr false (by simp only [eq_Valid, h8, h13, h15, h18, h34, h61, hg6, hR57, hg59, cs4]); subst hq
 exact Kr () rfl (.tmp rfl .nil) [] trivial
theorem fn82 (s : List Int) (sa0 : Option Addr) (sk0 : Nat) (fF : FuncId) (fC : List Value) (fp : Int → Bool) (fA : List SP) (hfc : callable Tryz.prog fF = true) (hfF : ∀ x ∈ s, i64ok x → FT Tryz.prog fF ([(vi x : Value)] ++ fC).toArray ([] ++ [pAll fA]) (fun _ : Unit => True) (fun _ => .bool (fp x)) (fun _ => [])) (rr : Int) (hrr : sc_IndexFunc_int s fp = rr) : FT Tryz.prog 82 #[vl sa0 sk0 s, .func (.func fF) #[] fC.toArray] [S sa0 sk0 s, pAll fA] (fun g : Unit => i64ok rr) (fun g => vi rr) (fun g => []) := by
 refine FTi Tryz.func82 fun w0 M0 F0 => Fb 8 0 fun _ => Fo 0 fun ho2 => ?_
 refine KS ?_
 refine Oq Va (KS ?_)
 refine Oq Vm (Oq (Vlen sl22) (Oq Vm (KS ?_)))
 refine Kl (γ := Nat × Int) (fun (r3, v8_4) => ⟨[(0, vl sa0 sk0 s), (1, .func (.func fF) #[] fC.toArray), (7, vi (s.length : Int)), (8, vi v8_4)], [S sa0 sk0 s, pAll fA], sc_IndexFunc_int_L0 s fp r3 v8_4 = sc_IndexFunc_int_L0 s fp (((s.length : Int) - 0).toNat) 0 ∧ r3 = ((s.length : Int) - v8_4).toNat ∧ (0 : Int) ≤ v8_4 ∧ v8_4 ≤ (s.length : Int) ∧ (-9223372036854775808 ≤ v8_4 ∧ v8_4 ≤ 9223372036854775807), r3⟩) (((s.length : Int) - 0).toNat, 0) [0, 1] ⟨rfl, rfl, aM1, aM1, aM1⟩ ?_
 rintro ⟨r3, v8_4⟩ ⟨hM5, hr6, hi7, hi8, hk9⟩
 refine JJ_nx fun _ _ hL hA => ?_; dsimp only at hL hA; subst hL hA
 refine Fb 8 0 fun _ => Fo 0 fun ho11 => KS ?_
 refine Oq Vlss (KS ?_)
 refine Kc ?_ ?_
 ·intro h12
  have g13 := dt h12
  obtain ⟨r14, rfl⟩ := scc (n := r3) aM1
  refine KS ?_
  refine Oq Vm (Oq Va (KS ?_))
  refine Oq Vm (Oq Vm (Oq Vm (Oq (Vi sl22 0) ?_)))
  have hb15 := ok1 (i := v8_4.toNat) ho11 rng
  refine Oq (VldI sh3 0) ?_
  refine JO_call [1] rfl rfl rfl (OpC.clo («as» := [(vi (s.getD v8_4.toNat 0) : Value)] ++ fC) rfl rfl hfc rfl (by simp)) (hfF (s.getD v8_4.toNat 0) (getD_mem rng)  pre) rfl fun _ _ => ?_
  refine KS ?_
  refine Kc ?_ ?_
  ·intro h16
   refine KS ?_
   refine Oq Vm (Oq Va (KS ?_))
   have hR18 := q2 hM5 (.ret v8_4) (by simp only [sc_IndexFunc_int_L0, h12, h16, cs4])
   have hq := q4 hrr v8_4 (by simp only [sc_IndexFunc_int, h12, h16, hR18, cs4]); subst hq
   exact Kr () rfl (.tmp rfl .nil) [] en
  intro h16
  refine KS ?_
  refine Oq Vadd (Oq Vm (KS ?_))
  exact Kg (r14, (v8_4 + 1)) [0, 1] ⟨(q3 hM5 (by simp only [sc_IndexFunc_int_L0, h12, h16, cs4])), aM1, aM1, aM1, aM1⟩
 intro h12
 have g20 := df h12
 obtain rfl : r3 = 0 := by omega
 refine Ke ?_
 have hR21 := q2 hM5 (.brk ()) (by simp only [sc_IndexFunc_int_L0, h12, cs4])
 refine KS ?_
 refine Oq Va (KS ?_)
 have hq := q4 hrr (-1) (by simp only [sc_IndexFunc_int, h12, hR21, cs4]); subst hq
 exact Kr () rfl (.tmp rfl .nil) [] en
theorem fn63 (s : List Int) (sa0 : Option Addr) (sk0 : Nat) (fF : FuncId) (fC : List Value) (fp : Int → Bool) (fA : List SP) (hfc : callable Tryz.prog fF = true) (hfF : ∀ x ∈ s, i64ok x → FT Tryz.prog fF ([(vi x : Value)] ++ fC).toArray ([] ++ [pAll fA]) (fun _ : Unit => True) (fun _ => .bool (fp x)) (fun _ => [])) (rr : Bool) (hrr : sc_ContainsFunc_int s fp = rr) : FT Tryz.prog 63 #[vl sa0 sk0 s, .func (.func fF) #[] fC.toArray] [S sa0 sk0 s, pAll fA] (fun g : Unit => True) (fun g => vb rr) (fun g => []) := by
 refine FTi Tryz.func63 fun w0 M0 F0 => Fb 8 0 fun _ => Fo 0 fun ho2 => ?_
 refine KS ?_
 refine Oq Va (KS ?_)
 refine Oq Vm (Oq Vm ?_)
 refine letv (sc_IndexFunc_int s fp) fun rv3 hg4 => ?_
 have hc5 := fn82 s sa0 sk0 fF fC fp fA hfc hfF rv3 hg4
 refine Oc [0, 1] ca82 hc5 ?_
 rintro - he6
 unfold i64ok at he6
 refine Oq Vgeq (Oq Va (KS ?_))
 have hq := q4 hrr (decide (0 ≤ rv3)) (by simp only [sc_ContainsFunc_int, hg4, cs4]); subst hq
 exact Kr () rfl (.tmp rfl .nil) [] trivial
theorem fn64 (n : Int) (cap0P : Value) (cap0 : GSystem) (cap0a1 : Option Addr) (cap0k1 : Nat) (cap0a2 : Option Addr) (cap0k2 : Nat) (cap0a3 : Option Addr) (cap0k3 : Nat) (hn_0 : i64ok n) (hcap0_0 : i64ok cap0.Width) (rr : Bool) (hrr : cn_unknowns_1 n cap0 = rr) : FT Tryz.prog 64 #[vi n, cap0P] [pv cap0P [vi cap0.Width, vl cap0a1 cap0k1 cap0.Deps, vl cap0a2 cap0k2 cap0.Transfers, vl cap0a3 cap0k3 cap0.Boundary], S cap0a1 cap0k1 cap0.Deps, S cap0a2 cap0k2 cap0.Transfers, S cap0a3 cap0k3 cap0.Boundary] (fun g : Unit => True) (fun g => vb rr) (fun g => []) := by
 refine FTi Tryz.func64 fun w0 M0 F0 => ?_
 unfold i64ok at hn_0 hcap0_0
 refine Fb 24 1 fun _ => Fb 88 2 fun _ => Fb 32 3 fun _ => KS ?_
 refine Oq Va (KS ?_)
 refine Oq Vm (Oq Vlss (Oq Vm ?_))
 refine Js 6 ?_ ?_
 ·intro h4
  have g5 := dt h4
  refine Osk (Osk (Osk (Osk (Osk (Oq Vpt (Oq Va (KS ?_)))))))
  have hq := q4 hrr true (by simp only [cn_unknowns_1, h4, cs4]); subst hq
  exact Kr () rfl (.tmp rfl .nil) [] trivial
 intro h4
 have g6 := df h4
 refine Oq Vm (Oq (Vfa fo27_1 0) (Oq (VldF sh23 0) (Oq (Vlen sl23) (Oq Vgeq (Oq Vpf (Oq Va (KS ?_)))))))
 have hq := q4 hrr (decide ((cap0.Deps.length : Int) ≤ n)) (by simp only [cn_unknowns_1, h4, cs4]); subst hq
 exact Kr () rfl (.tmp rfl .nil) [] trivial
theorem fn29 (s : GSystem) (sa1 : Option Addr) (sk1 : Nat) (sa2 : Option Addr) (sk2 : Nat) (sa3 : Option Addr) (sk3 : Nat) (l : List Int) (la0 : Option Addr) (lk0 : Nat) (hs_0 : i64ok s.Width) (rr : Bool) (hrr : cn_unknowns s l = rr) : FT Tryz.prog 29 #[.agg #[vi s.Width, vl sa1 sk1 s.Deps, vl sa2 sk2 s.Transfers, vl sa3 sk3 s.Boundary], vl la0 lk0 l] [S sa1 sk1 s.Deps, S sa2 sk2 s.Transfers, S sa3 sk3 s.Boundary, S la0 lk0 l] (fun g : Unit => True) (fun g => vb rr) (fun g => []) := by
 refine FTi Tryz.func29 fun w0 M0 F0 => ?_
 unfold i64ok at hs_0
 refine Fb 24 0 fun _ => Fb 88 1 fun _ => Fb 32 2 fun _ => Fb 8 3 fun _ => Fo 3 fun ho5 => KS ?_
 refine Oa (Ab [vi s.Width, vl sa1 sk1 s.Deps, vl sa2 sk2 s.Transfers, vl sa3 sk3 s.Boundary]) fun p6 => Oq Va (KS ?_)
 refine Oq Vm (Oq (Vf [p6]) ?_)
 refine JJ_ent (Ent.pall [0, 1, 2, 3] rfl rfl) ?_
 refine letv (sc_ContainsFunc_int l (fun x => cn_unknowns_1 x s)) fun rv7 hg8 => ?_
 have hc9 := fn63 l la0 lk0 64 [p6] (fun x => cn_unknowns_1 x s) [pv p6 [vi s.Width, vl sa1 sk1 s.Deps, vl sa2 sk2 s.Transfers, vl sa3 sk3 s.Boundary], S sa1 sk1 s.Deps, S sa2 sk2 s.Transfers, S sa3 sk3 s.Boundary] ca64 (fun x hx hq0 => FT_pall (A1 := _) (fn64 x  p6 s sa1 sk1 sa2 sk2 sa3 sk3 hq0 pre _ rfl)) rv7 hg8
 refine Oc [5, 0] ca63 hc9 ?_
 rintro - -
 refine Oq Vnot (Oq Va (KS ?_))
 have hq := q4 hrr (!rv7) (by simp only [cn_unknowns, hg8, cs4]); subst hq
 exact Kr () rfl (.tmp rfl .nil) [] trivial
theorem fn38 (s : List GKnown) (sa0 : Option Addr) (sk0 : Nat) (fF : FuncId) (fC : List Value) (fp : GKnown → Bool) (fA : List SP) (hfc : callable Tryz.prog fF = true) (hfF : ∀ x ∈ s, ∀ (a2 : Option Addr) (k2 : Nat), i64ok x.Node → i64ok x.Value.Width → FT Tryz.prog fF ([(.agg #[vi x.Node, vi x.Value.Width, vl a2 k2 x.Value.Words] : Value)] ++ fC).toArray ([S a2 k2 x.Value.Words] ++ [pAll fA]) (fun _ : Unit => True) (fun _ => .bool (fp x)) (fun _ => [])) (rr : Int) (hrr : sc_IndexFunc_Known s fp = rr) : FT Tryz.prog 38 #[vl sa0 sk0 s, .func (.func fF) #[] fC.toArray] [S sa0 sk0 s, pAll fA] (fun g : Unit => i64ok rr ∧ (-1 ≤ rr ∧ rr < (s.length : Int))) (fun g => vi rr) (fun g => []) := by
 refine FTi Tryz.func38 fun w0 M0 F0 => Fb 40 0 fun _ => ?_
 refine KS ?_
 refine Oq Va (KS ?_)
 refine Oq Vm (Oq (Vlen sl28) (Oq Vm (KS ?_)))
 refine Kl (γ := Nat × Int) (fun (r2, v8_3) => ⟨[(0, vl sa0 sk0 s), (1, .func (.func fF) #[] fC.toArray), (7, vi (s.length : Int)), (8, vi v8_3)], [S sa0 sk0 s, pAll fA], sc_IndexFunc_Known_L0 s fp r2 v8_3 = sc_IndexFunc_Known_L0 s fp (((s.length : Int) - 0).toNat) 0 ∧ r2 = ((s.length : Int) - v8_3).toNat ∧ (0 : Int) ≤ v8_3 ∧ v8_3 ≤ (s.length : Int) ∧ (-9223372036854775808 ≤ v8_3 ∧ v8_3 ≤ 9223372036854775807), r2⟩) (((s.length : Int) - 0).toNat, 0) [0, 1] ⟨rfl, rfl, aM1, aM1, aM1⟩ ?_
 rintro ⟨r2, v8_3⟩ ⟨hM4, hr5, hi6, hi7, hk8⟩
 refine JJ_nx fun _ _ hL hA => ?_; dsimp only at hL hA; subst hL hA
 refine Fb 40 0 fun _ => KS ?_
 refine Oq Vlss (KS ?_)
 refine Kc ?_ ?_
 ·intro h10
  have g11 := dt h10
  obtain ⟨r12, rfl⟩ := scc (n := r2) aM1
  refine KS ?_
  refine Oq Vm (Oq Va (KS ?_))
  refine Oq Vm (Oq Vm (Oq Vm (Oq (Vi sl28 0) ?_)))
  refine JJ_peek_GKnown v8_3.toNat 0 rfl rng fun a13 k14 hb15 hb16 => ?_
  unfold i64ok at hb15 hb16
  refine Fb 8 1 fun _ => Oq (VldA sh65 0) ?_
  refine JO_call [1, 3] rfl rfl rfl (OpC.clo («as» := [(.agg #[vi ((s.getD v8_3.toNat default).Node), vi (((s.getD v8_3.toNat default).Value).Width), vl a13 k14 (((s.getD v8_3.toNat default).Value).Words)] : Value)] ++ fC) rfl rfl hfc rfl (by simp)) (hfF (s.getD v8_3.toNat default) (getD_mem rng) a13 k14 pre pre) rfl fun _ _ => ?_
  refine KS ?_
  refine Kc ?_ ?_
  ·intro h18
   refine KS ?_
   refine Oq Vm (Oq Va (KS ?_))
   have hR20 := q2 hM4 (.ret v8_3) (by simp only [sc_IndexFunc_Known_L0, h10, h18, cs4])
   have hq := q4 hrr v8_3 (by simp only [sc_IndexFunc_Known, h10, h18, hR20, cs4]); subst hq
   exact Kr () rfl (.tmp rfl .nil) [] en
  intro h18
  refine KS ?_
  refine Oq Vadd (Oq Vm (KS ?_))
  exact Kg (r12, (v8_3 + 1)) [2, 3] ⟨(q3 hM4 (by simp only [sc_IndexFunc_Known_L0, h10, h18, cs4])), aM1, aM1, aM1, aM1⟩
 intro h10
 have g22 := df h10
 obtain rfl : r2 = 0 := by omega
 refine Ke ?_
 have hR23 := q2 hM4 (.brk ()) (by simp only [sc_IndexFunc_Known_L0, h10, cs4])
 refine KS ?_
 refine Oq Va (KS ?_)
 have hq := q4 hrr (-1) (by simp only [sc_IndexFunc_Known, h10, hR23, cs4]); subst hq
 exact Kr () rfl (.tmp rfl .nil) [] en
theorem fn30 (s : List GKnown) (sa0 : Option Addr) (sk0 : Nat) (fF : FuncId) (fC : List Value) (fp : GKnown → Bool) (fA : List SP) (hfc : callable Tryz.prog fF = true) (hfF : ∀ x ∈ s, ∀ (a2 : Option Addr) (k2 : Nat), i64ok x.Node → i64ok x.Value.Width → FT Tryz.prog fF ([(.agg #[vi x.Node, vi x.Value.Width, vl a2 k2 x.Value.Words] : Value)] ++ fC).toArray ([S a2 k2 x.Value.Words] ++ [pAll fA]) (fun _ : Unit => True) (fun _ => .bool (fp x)) (fun _ => [])) (rr : Bool) (hrr : sc_ContainsFunc_Known s fp = rr) : FT Tryz.prog 30 #[vl sa0 sk0 s, .func (.func fF) #[] fC.toArray] [S sa0 sk0 s, pAll fA] (fun g : Unit => True) (fun g => vb rr) (fun g => []) := by
 refine FTi Tryz.func30 fun w0 M0 F0 => Fb 40 0 fun _ => ?_
 refine KS ?_
 refine Oq Va (KS ?_)
 refine Oq Vm (Oq Vm ?_)
 refine letv (sc_IndexFunc_Known s fp) fun rv2 hg3 => ?_
 have hc4 := fn38 s sa0 sk0 fF fC fp fA hfc hfF rv2 hg3
 refine Oc [0, 1] ca38 hc4 ?_
 rintro - ⟨he5, he6⟩
 unfold i64ok at he5
 refine Oq Vgeq (Oq Va (KS ?_))
 have hq := q4 hrr (decide (0 ≤ rv2)) (by simp only [sc_ContainsFunc_Known, hg3, cs4]); subst hq
 exact Kr () rfl (.tmp rfl .nil) [] trivial
theorem fn31 (k : GKnown) (ka2 : Option Addr) (kk2 : Nat) (cap0P : Value) (cap0 : GSystem) (cap0a1 : Option Addr) (cap0k1 : Nat) (cap0a2 : Option Addr) (cap0k2 : Nat) (cap0a3 : Option Addr) (cap0k3 : Nat) (hk_0 : i64ok k.Node) (hk_1 : i64ok k.Value.Width) (hcap0_0 : i64ok cap0.Width) (rr : Bool) (hrr : cn_Restrict_1 k cap0 = rr) : FT Tryz.prog 31 #[.agg #[vi k.Node, vi k.Value.Width, vl ka2 kk2 k.Value.Words], cap0P] [S ka2 kk2 k.Value.Words, pv cap0P [vi cap0.Width, vl cap0a1 cap0k1 cap0.Deps, vl cap0a2 cap0k2 cap0.Transfers, vl cap0a3 cap0k3 cap0.Boundary], S cap0a1 cap0k1 cap0.Deps, S cap0a2 cap0k2 cap0.Transfers, S cap0a3 cap0k3 cap0.Boundary] (fun g : Unit => True) (fun g => vb rr) (fun g => []) := by
 refine FTi Tryz.func31 fun w0 M0 F0 => ?_
 unfold i64ok at hk_0 hk_1 hcap0_0
 refine Fb 8 0 fun _ => Fb 24 2 fun _ => Fb 88 3 fun _ => Fb 32 4 fun _ => KS ?_
 refine Oa (Ab [vi k.Node, vi k.Value.Width, vl ka2 kk2 k.Value.Words]) fun p5 => Oq Va (KS ?_)
 refine Oq (VldA sh27 2) (Oq (Vfa fo65_0 0) (Oq (VldF sh3 0) (Oa (AsV sl22 sz22 [vi k.Node] [vi k.Node]) fun c6 => ?_)))
 refine Jo 0 ?_; rintro a7 k8 rfl
 refine Jl [0] (Ent.crInt _ [k.Node] _ _ rfl rfl (by intro x hx; rw [List.mem_singleton] at hx; subst hx; unfold i64ok; omega) aB1) ?_
 refine letv (cn_unknowns cap0 [k.Node]) fun rv9 hg10 => ?_
 refine Oc [0, 3, 4, 5] ca29 (FT_borrow (A := _) (fun _ _ h => by cases h) (FT_ent (Ent.take (is := [1, 2, 3, 0]) rfl) (fn29 cap0 cap0a1 cap0k1 cap0a2 cap0k2 cap0a3 cap0k3 ([k.Node]) a7 k8 pre rv9 hg10))) ?_ (ht := rfl)
 rintro - -
 refine Oq Vnot (Oq Va (KS ?_))
 have hq := q4 hrr (!rv9) (by simp only [cn_Restrict_1, hg10, cs4]); subst hq
 exact Kr () rfl (.tmp rfl .nil) [] trivial
theorem fn89 (x : Int) (y : Int) (hx_0 : i64ok x) (hy_0 : i64ok y) (rr : Bool) (hrr : cmp_Less_int x y = rr) : FT Tryz.prog 89 #[vi x, vi y] [] (fun g : Unit => True) (fun g => vb rr) (fun g => []) := by
 refine FTi Tryz.func89 fun w0 M0 F0 => ?_
 unfold i64ok at hx_0 hy_0
 refine KS ?_
 refine Oq Va (KS ?_)
 refine Oq Vm ?_
 refine letv (cmp_isNaN_int x) fun rv1 hg2 => ?_
 have hc3 := fn104 x pre rv1 hg2
 refine Oc [] ca104 hc3 ?_
 rintro - -
 refine Oq Vm ?_
 refine Js 7 ?_ ?_
 ·intro h4
  refine Oq Vm ?_
  refine letv (cmp_isNaN_int y) fun rv6 hg7 => ?_
  have hc8 := fn104 y pre rv6 hg7
  refine Oc [] ca104 hc8 ?_
  rintro - -
  refine Oq Vnot (Oq Vpt (Oq Vm ?_))
  refine Js 12 ?_ ?_
  ·intro h9
   have h11 := not_true h9
   refine Osk (Osk (Osk (Oq Vpt (Oq Va (KS ?_)))))
   have hq := q4 hrr true (by simp only [cmp_Less_int, h4, h9, h11, hg2, hg7, cs4]); subst hq
   exact Kr () rfl (.tmp rfl .nil) [] trivial
  intro h9
  have h14 := not_false h9
  refine Oq Vm (Oq Vm (Oq Vlss (Oq Vpf (Oq Va (KS ?_)))))
  have hq := q4 hrr (decide (x < y)) (by simp only [cmp_Less_int, h4, h9, h14, hg2, hg7, cs4]); subst hq
  exact Kr () rfl (.tmp rfl .nil) [] trivial
 intro h4
 refine Osk (Osk (Osk (Oq Vpf (Oq Vm (Oq Vm (Oq Vm (Oq Vlss (Oq Vpf (Oq Va ?_)))))))))
 refine KS ?_
 have hq := q4 hrr (decide (x < y)) (by simp only [cmp_Less_int, h4, hg2, cs4]); subst hq
 exact Kr () rfl (.tmp rfl .nil) [] trivial
theorem fn83 (data : List Int) (dataa0 : Option Addr) (datak0 : Nat) (a : Int) (b : Int) (ha_0 : i64ok a) (hb_0 : i64ok b) (ha0 : 0 ≤ a ∧ a ≤ b ∧ b ≤ (data.length : Int) ∧ data.length ≤ 65535) (rr : List Int) (hrr : sc_insertionSortOrdered_int data a b = rr) : FT Tryz.prog 83 #[vl dataa0 datak0 data, vi a, vi b] [O dataa0 datak0 data] (fun g : Unit => (rr.length = data.length)) (fun g => .tuple #[]) (fun g => [os (vl dataa0 datak0 data) rr]) := by
 refine FTi Tryz.func83 fun w0 M0 F0 => ?_
 unfold i64ok at ha_0 hb_0
 refine Fb 8 0 fun _ => Fo 0 fun ho2 => KS ?_
 refine Oq Vm (Oq Vadd (Oq Va (KS ?_)))
 refine Kl (γ := Nat × List Int × Int) (fun (r3, data_4, i_5) => ⟨[(0, vl dataa0 datak0 data), (1, vi a), (2, vi b), (6, vi i_5)], [os (vl dataa0 datak0 data) data_4], sc_insertionSortOrdered_int_L0 a r3 data_4 i_5 = sc_insertionSortOrdered_int_L0 a (((b : Int) - (a + 1)).toNat) data (a + 1) ∧ r3 = ((b : Int) - i_5).toNat ∧ ((a + 1) : Int) ≤ i_5 ∧ (i_5 ≤ b ∨ i_5 = (a + 1)) ∧ (-9223372036854775808 ≤ i_5 ∧ i_5 ≤ 9223372036854775807), r3⟩) (((b : Int) - (a + 1)).toNat, data, (a + 1)) [0] ⟨rfl, rfl, aM1, (.inr rfl), aM1⟩ ?_
 rintro ⟨r3, data_4, i_5⟩ ⟨hM6, hr7, hi8, hi9, hk10⟩
 refine JJ_nx fun _ _ hL hA => ?_; dsimp only at hL hA; subst hL hA
 refine Fb 8 0 fun _ => Fo 0 fun ho12 => Fl 0 fun hn13 => ?_
 refine KS ?_
 refine Oq Vm (Oq Vm (Oq Vlss (KS ?_)))
 refine Kc ?_ ?_
 ·intro h14
  have g15 := dt h14
  obtain ⟨r16, rfl⟩ := scc (n := r3) aM1
  refine KS ?_
  refine Oq Vm (Oq Va (KS ?_))
  refine Kl (γ := Nat × List Int × Int) (fun (r17, data_18, j_19) => ⟨[(0, vl dataa0 datak0 data), (1, vi a), (2, vi b), (6, vi i_5), (7, vi j_19)], [os (vl dataa0 datak0 data) data_18], sc_insertionSortOrdered_int_L1 r17 data_18 j_19 = sc_insertionSortOrdered_int_L1 (((i_5 : Int) - a).toNat) data_4 i_5 ∧ r17 = ((j_19 : Int) - a).toNat ∧ j_19 ≤ (i_5 : Int) ∧ (-9223372036854775808 ≤ j_19 ∧ j_19 ≤ 9223372036854775807), r17⟩) (((i_5 : Int) - a).toNat, data_4, i_5) [0] ⟨rfl, rfl, aM1, aM1⟩ ?_
  rintro ⟨r17, data_18, j_19⟩ ⟨hM20, hr21, hi22, hk23⟩
  refine JJ_nx fun _ _ hL hA => ?_; dsimp only at hL hA; subst hL hA
  refine Fb 8 0 fun _ => Fo 0 fun ho25 => Fl 0 fun hn26 => ?_
  refine KS ?_
  refine JK_drawK [0, 0, 3, 7, 15, 15, 63, 127, 15, 15, 527, 1807, 3855, 8191, 16383] fmix ?_
  refine Dv [] Vm (Dv [] Vm (Dv [] Vgtr ?_))
  refine bool_split (decide (a < j_19)) ?_ ?_
  ·intro h27
   have g28 := dt h27
   obtain ⟨r29, rfl⟩ := scc (n := r17) aM1
   refine Db h27 [] Vm (Dv [] Vm (Dv [] Vm (Dv [0] (Vi sl22 0) ?_)))
   have hb30 := ok1 (i := j_19.toNat) ho25 rng
   refine Dv [0] (VldI sh3 0) (Dv [] Vm (Dv [] Vm (Dv [] Vsub (Dv [0] (Vi sl22 0) ?_))))
   have hb31 := ok1 (i := ((j_19 - 1) : Int).toNat) ho25 rng
   refine Dv [0] (VldI sh3 0) ?_
   refine letv (cmp_Less_int (data_18.getD j_19.toNat 0) (data_18.getD ((j_19 - 1) : Int).toNat 0)) fun rv32 hg33 => ?_
   refine Dx [] [] [0] (fun G => vb rv32) [fun G => SP.fact (True)] (fun G => xC [] ca89 (fn89 ((data_18.getD j_19.toNat 0)) ((data_18.getD ((j_19 - 1) : Int).toNat 0)) pre pre rv32 hg33)) (Dv [] Vpt ?_)
   refine Dn ⟨by kernel_rfl, fun G => ?_⟩
   refine Jw2 [(0, vl dataa0 datak0 data), (1, vi a), (2, vi b), (6, vi i_5), (7, vi j_19), (30, vb rv32)] [0] [SP.fact (True)] ?_
   refine Jk [0] ?_
   refine Kc ?_ ?_
   ·intro h34
    refine KS ?_
    refine JK_drawK [0, 0, 0, 0, 8, 0, 0, 64, 224, 480, 0, 0, 3072, 7168, 16355, 32739, 65535, 131071] fmix ?_
    refine Dv [] Vm (Dv [] Vm (Dv [] Vm (Dv [] Vm (Dv [] Vsub (Dv [] Vm (Dv [] Vm (Dv [] Vsub (Dv [0] (Vi sl22 0) ?_))))))))
    have hb36 := ok1 (i := ((j_19 - 1) : Int).toNat) ho25 rng
    refine Dv [0] (VldI sh3 0) (Dv [] Vm (Dv [] Vm (Dv [0] (Vi sl22 0) ?_)))
    have hb37 := ok1 (i := j_19.toNat) ho25 rng
    refine Dv [0] (VldI sh3 0) (Dv [0] (Vi sl22 0) (Dx0 [0] [0] [0] [fun G => os (vl dataa0 datak0 data) (data_18.set j_19.toNat (data_18.getD ((j_19 - 1) : Int).toNat 0))] (fun G => xS (SoI [0] sh3)) (Dv [1] (Vi sl22 0) (Dx0 [1] [1] [0] [fun G => os (vl dataa0 datak0 data) ((data_18.set j_19.toNat (data_18.getD ((j_19 - 1) : Int).toNat 0)).set ((j_19 - 1) : Int).toNat (data_18.getD j_19.toNat 0))] (fun G => xS (SoI [0] sh3)) ?_))))
    refine Dn ⟨by kernel_rfl, fun G => ?_⟩
    refine Jw2 [(0, vl dataa0 datak0 data), (1, vi a), (2, vi b), (6, vi i_5), (7, vi j_19)] [] [os (vl dataa0 datak0 data) ((data_18.set j_19.toNat (data_18.getD ((j_19 - 1) : Int).toNat 0)).set ((j_19 - 1) : Int).toNat (data_18.getD j_19.toNat 0))] ?_
    refine KS ?_
    refine Oq Vm (Oq Vsub (Oq Va (KS ?_)))
    exact Kg (r29, ((data_18.set j_19.toNat (data_18.getD ((j_19 - 1) : Int).toNat 0)).set ((j_19 - 1) : Int).toNat (data_18.getD j_19.toNat 0)), (j_19 - 1)) [0] ⟨(q3 hM20 (by simp only [sc_insertionSortOrdered_int_L1, h27, h34, hg33, cs4])), aM1, aM1, aM1⟩
   intro h34
   refine Ke ?_
   have hR39 := q2 hM20 data_18 (by simp only [sc_insertionSortOrdered_int_L1, h27, h34, hg33, cs4])
   refine KS ?_
   refine Oq Vm (Oq Vadd (Oq Va (KS ?_)))
   exact Kg (r16, data_18, (i_5 + 1)) [0] ⟨(q3 hM6 (by simp only [sc_insertionSortOrdered_int_L0, h14, h27, h34, hg33, hR39, cs4])), aM1, aM1, aM1, aM1⟩
  intro h27
  have g40 := df h27
  obtain rfl : r17 = 0 := by omega
  refine Db h27 [] Vm (Ds (Ds (Ds (Ds (Ds (Ds (Ds (Ds (Ds ?_)))))))))
  refine Ds (Dv [] Vpf ?_)
  refine Dn ⟨by kernel_rfl, fun G => ?_⟩
  refine Jw2 [(0, vl dataa0 datak0 data), (1, vi a), (2, vi b), (6, vi i_5), (7, vi j_19), (30, vb false)] [0] [] ?_
  refine Kf ?_
  refine Ke ?_
  have hR41 := q2 hM20 data_18 (by simp only [sc_insertionSortOrdered_int_L1, h27, cs4])
  refine KS ?_
  refine Oq Vm (Oq Vadd (Oq Va (KS ?_)))
  exact Kg (r16, data_18, (i_5 + 1)) [0] ⟨(q3 hM6 (by simp only [sc_insertionSortOrdered_int_L0, h14, h27, hR41, cs4])), aM1, aM1, aM1, aM1⟩
 intro h14
 have g42 := df h14
 obtain rfl : r3 = 0 := by omega
 refine Ke ?_
 have hR43 := q2 hM6 data_4 (by simp only [sc_insertionSortOrdered_int_L0, h14, cs4])
 refine Fl 0 fun hn44 => ?_
 have hq := q4 hrr data_4 (by simp only [sc_insertionSortOrdered_int, h14, hR43, cs4]); subst hq
 exact Kz () rfl .nil [0] en
theorem fn99 (data : List Int) (dataa0 : Option Addr) (datak0 : Nat) (lo : Int) (hi : Int) (first : Int) (hlo_0 : i64ok lo) (hhi_0 : i64ok hi) (hfirst_0 : i64ok first) (ha0 : 0 ≤ lo ∧ lo ≤ 65535 ∧ 0 ≤ hi ∧ 0 ≤ first ∧ first + hi ≤ (data.length : Int) ∧ data.length ≤ 65535) (rr : List Int) (hrr : sc_siftDownOrdered_int data lo hi first = rr) : FT Tryz.prog 99 #[vl dataa0 datak0 data, vi lo, vi hi, vi first] [O dataa0 datak0 data] (fun g : Unit => (rr.length = data.length)) (fun g => .tuple #[]) (fun g => [os (vl dataa0 datak0 data) rr]) := by
 refine FTi Tryz.func99 fun w0 M0 F0 => ?_
 unfold i64ok at hlo_0 hhi_0 hfirst_0
 refine Fb 8 0 fun _ => Fo 0 fun ho2 => KS ?_
 refine Oq Vm (Oq Va (KS ?_))
 have hterm9 : sc_siftDownOrdered_int_L0 hi first (hi.toNat + 1) data lo ≠ LR.oof := (sift_t _ _ _ aM1 aM1 aM1)
 refine Kl (γ := Nat × List Int × Int) (fun (r3, data_4, root_5) => ⟨[(0, vl dataa0 datak0 data), (2, vi hi), (3, vi first), (8, vi root_5)], [os (vl dataa0 datak0 data) data_4], sc_siftDownOrdered_int_L0 hi first r3 data_4 root_5 = sc_siftDownOrdered_int_L0 hi first (hi.toNat + 1) data lo ∧ (-9223372036854775808 ≤ root_5 ∧ root_5 ≤ 9223372036854775807) ∧ (0 ≤ root_5 ∧ root_5 ≤ 70000), r3⟩) ((hi.toNat + 1), data, lo) [0] ⟨rfl, aM1, iv0⟩ ?_
 rintro ⟨r3, data_4, root_5⟩ ⟨hM6, hk7, hv8⟩
 refine JJ_nx fun _ _ hL hA => ?_; dsimp only at hL hA; subst hL hA
 refine Fb 8 0 fun _ => Fo 0 fun ho11 => Fl 0 fun hn12 => ?_
 rcases r3 with _ | r3
 ·exact absurd (hM6.symm.trans rfl) hterm9
 refine KS ?_
 refine Oq Vm (Oq Vmul (Oq Vadd (Oq Va (KS ?_))))
 refine Oq Vm (Oq Vm (Oq Vgeq (KS ?_)))
 refine Kc ?_ ?_
 ·intro h13
  have g14 := dt h13
  refine Ke ?_
  have hR15 := q2 hM6 (.brk data_4) (by simp only [sc_siftDownOrdered_int_L0, h13, cs4])
  refine Fl 0 fun hn16 => ?_
  have hq := q4 hrr data_4 (by simp only [sc_siftDownOrdered_int, h13, hR15, cs4]); subst hq
  exact Kz () rfl .nil [0] en
 intro h13
 have g17 := df h13
 refine KS ?_
 refine JK_drawK [0, 1, 0, 7, 15, 31, 31, 31, 223, 511, 1023, 31, 31, 31, 12319, 28703, 63519, 129055, 262143, 524287] fmix ?_
 refine Dv [] Vm (Dv [] Vadd (Dv [] Vm (Dv [] Vlss ?_)))
 refine bool_split (decide ((((2 * root_5) + 1) + 1) < hi)) ?_ ?_
 ·intro h18
  have g19 := dt h18
  refine Db h18 [] Vm (Dv [] Vm (Dv [] Vm (Dv [] Vm (Dv [] Vadd (Dv [0] (Vi sl22 0) ?_)))))
  have hb20 := ok1 (i := ((first + ((2 * root_5) + 1)) : Int).toNat) ho11 rng
  refine Dv [0] (VldI sh3 0) (Dv [] Vm (Dv [] Vm (Dv [] Vm (Dv [] Vadd (Dv [] Vadd (Dv [0] (Vi sl22 0) ?_))))))
  have hb21 := ok1 (i := (((first + ((2 * root_5) + 1)) + 1) : Int).toNat) ho11 rng
  refine Dv [0] (VldI sh3 0) ?_
  refine letv (cmp_Less_int (data_4.getD ((first + ((2 * root_5) + 1)) : Int).toNat 0) (data_4.getD (((first + ((2 * root_5) + 1)) + 1) : Int).toNat 0)) fun rv22 hg23 => ?_
  refine Dx [] [] [0] (fun G => vb rv22) [fun G => SP.fact (True)] (fun G => xC [] ca89 (fn89 ((data_4.getD ((first + ((2 * root_5) + 1)) : Int).toNat 0)) ((data_4.getD (((first + ((2 * root_5) + 1)) + 1) : Int).toNat 0)) pre pre rv22 hg23)) (Dv [] Vpt ?_)
  refine Dn ⟨by kernel_rfl, fun G => ?_⟩
  refine Jw2 [(0, vl dataa0 datak0 data), (2, vi hi), (3, vi first), (8, vi root_5), (9, vi ((2 * root_5) + 1)), (36, vb rv22)] [0] [SP.fact (True)] ?_
  refine Jk [0] ?_
  refine Kc ?_ ?_
  ·intro h24
   refine KS ?_
   refine Oq Vm (Oq Vadd (Oq Va (KS ?_)))
   refine JK_drawK [0, 0, 0, 6, 15, 31, 0, 0, 0, 384, 960, 1984, 4095, 8191] fmix ?_
   refine Dv [] Vm (Dv [] Vm (Dv [] Vm (Dv [] Vadd (Dv [0] (Vi sl22 0) ?_))))
   have hb26 := ok1 (i := ((first + root_5) : Int).toNat) ho11 rng
   refine Dv [0] (VldI sh3 0) (Dv [] Vm (Dv [] Vm (Dv [] Vm (Dv [] Vadd (Dv [0] (Vi sl22 0) ?_)))))
   have hb27 := ok1 (i := ((first + (((2 * root_5) + 1) + 1)) : Int).toNat) ho11 rng
   refine Dv [0] (VldI sh3 0) ?_
   refine letv (cmp_Less_int (data_4.getD ((first + root_5) : Int).toNat 0) (data_4.getD ((first + (((2 * root_5) + 1) + 1)) : Int).toNat 0)) fun rv28 hg29 => ?_
   refine Dx [] [] [0] (fun G => vb rv28) [fun G => SP.fact (True)] (fun G => xC [] ca89 (fn89 ((data_4.getD ((first + root_5) : Int).toNat 0)) ((data_4.getD ((first + (((2 * root_5) + 1) + 1)) : Int).toNat 0)) pre pre rv28 hg29)) (Dv [] Vnot ?_)
   refine Dn ⟨by kernel_rfl, fun G => ?_⟩
   refine Jw2 [(0, vl dataa0 datak0 data), (2, vi hi), (3, vi first), (8, vi root_5), (9, vi (((2 * root_5) + 1) + 1)), (52, vb (!rv28))] [0] [SP.fact (True)] ?_
   refine Jk [0] ?_
   refine Kc ?_ ?_
   ·intro h30
    have h32 := not_true h30
    refine Fl 0 fun hn34 => ?_
    have hR35 := q2 hM6 (.ret data_4) (by simp only [sc_siftDownOrdered_int_L0, h13, h18, h24, h30, h32, hg23, hg29, cs4])
    have hq := q4 hrr data_4 (by simp only [sc_siftDownOrdered_int, h13, h18, h24, h30, h32, hg23, hg29, hR35, cs4]); subst hq
    exact Kr () rfl .nil [0] en
   intro h30
   have h37 := not_false h30
   refine KS ?_
   refine JK_drawK [0, 0, 0, 6, 0, 0, 0, 96, 0, 0, 0, 1536, 3840, 7936, 0, 0, 0, 98304, 245760, 507904, 1048335, 2096911, 4194303, 8388607] fmix ?_
   refine Dv [] Vm (Dv [] Vm (Dv [] Vm (Dv [] Vadd (Dv [] Vm (Dv [] Vm (Dv [] Vm (Dv [] Vadd (Dv [] Vm (Dv [] Vm ?_)))))))))
   refine Dv [] Vm (Dv [] Vadd (Dv [0] (Vi sl22 0) ?_))
   have hb39 := ok1 (i := ((first + (((2 * root_5) + 1) + 1)) : Int).toNat) ho11 rng
   refine Dv [0] (VldI sh3 0) (Dv [] Vm (Dv [] Vm (Dv [] Vm (Dv [] Vadd (Dv [0] (Vi sl22 0) ?_)))))
   have hb40 := ok1 (i := ((first + root_5) : Int).toNat) ho11 rng
   refine Dv [0] (VldI sh3 0) (Dv [0] (Vi sl22 0) (Dx0 [0] [0] [0] [fun G => os (vl dataa0 datak0 data) (data_4.set ((first + root_5) : Int).toNat (data_4.getD ((first + (((2 * root_5) + 1) + 1)) : Int).toNat 0))] (fun G => xS (SoI [0] sh3)) (Dv [1] (Vi sl22 0) (Dx0 [1] [1] [0] [fun G => os (vl dataa0 datak0 data) ((data_4.set ((first + root_5) : Int).toNat (data_4.getD ((first + (((2 * root_5) + 1) + 1)) : Int).toNat 0)).set ((first + (((2 * root_5) + 1) + 1)) : Int).toNat (data_4.getD ((first + root_5) : Int).toNat 0))] (fun G => xS (SoI [0] sh3)) ?_))))
   refine Dn ⟨by kernel_rfl, fun G => ?_⟩
   refine Jw2 [(0, vl dataa0 datak0 data), (2, vi hi), (3, vi first), (9, vi (((2 * root_5) + 1) + 1))] [] [os (vl dataa0 datak0 data) ((data_4.set ((first + root_5) : Int).toNat (data_4.getD ((first + (((2 * root_5) + 1) + 1)) : Int).toNat 0)).set ((first + (((2 * root_5) + 1) + 1)) : Int).toNat (data_4.getD ((first + root_5) : Int).toNat 0))] ?_
   refine KS ?_
   refine Oq Vm (Oq Va (KS ?_))
   exact Kg (r3, ((data_4.set ((first + root_5) : Int).toNat (data_4.getD ((first + (((2 * root_5) + 1) + 1)) : Int).toNat 0)).set ((first + (((2 * root_5) + 1) + 1)) : Int).toNat (data_4.getD ((first + root_5) : Int).toNat 0)), (((2 * root_5) + 1) + 1)) [0] ⟨(q3 hM6 (by simp only [sc_siftDownOrdered_int_L0, h13, h18, h24, h30, h37, hg23, hg29, cs4])), aM1, iv1⟩
  intro h24
  refine KS ?_
  refine JK_drawK [0, 0, 0, 6, 15, 31, 0, 0, 0, 384, 960, 1984, 4095, 8191] fmix ?_
  refine Dv [] Vm (Dv [] Vm (Dv [] Vm (Dv [] Vadd (Dv [0] (Vi sl22 0) ?_))))
  have hb42 := ok1 (i := ((first + root_5) : Int).toNat) ho11 rng
  refine Dv [0] (VldI sh3 0) (Dv [] Vm (Dv [] Vm (Dv [] Vm (Dv [] Vadd (Dv [0] (Vi sl22 0) ?_)))))
  have hb43 := ok1 (i := ((first + ((2 * root_5) + 1)) : Int).toNat) ho11 rng
  refine Dv [0] (VldI sh3 0) ?_
  refine letv (cmp_Less_int (data_4.getD ((first + root_5) : Int).toNat 0) (data_4.getD ((first + ((2 * root_5) + 1)) : Int).toNat 0)) fun rv44 hg45 => ?_
  refine Dx [] [] [0] (fun G => vb rv44) [fun G => SP.fact (True)] (fun G => xC [] ca89 (fn89 ((data_4.getD ((first + root_5) : Int).toNat 0)) ((data_4.getD ((first + ((2 * root_5) + 1)) : Int).toNat 0)) pre pre rv44 hg45)) (Dv [] Vnot ?_)
  refine Dn ⟨by kernel_rfl, fun G => ?_⟩
  refine Jw2 [(0, vl dataa0 datak0 data), (2, vi hi), (3, vi first), (8, vi root_5), (9, vi ((2 * root_5) + 1)), (52, vb (!rv44))] [0] [SP.fact (True)] ?_
  refine Jk [0] ?_
  refine Kc ?_ ?_
  ·intro h46
   have h48 := not_true h46
   refine Fl 0 fun hn50 => ?_
   have hR51 := q2 hM6 (.ret data_4) (by simp only [sc_siftDownOrdered_int_L0, h13, h18, h24, h46, h48, hg23, hg45, cs4])
   have hq := q4 hrr data_4 (by simp only [sc_siftDownOrdered_int, h13, h18, h24, h46, h48, hg23, hg45, hR51, cs4]); subst hq
   exact Kr () rfl .nil [0] en
  intro h46
  have h53 := not_false h46
  refine KS ?_
  refine JK_drawK [0, 0, 0, 6, 0, 0, 0, 96, 0, 0, 0, 1536, 3840, 7936, 0, 0, 0, 98304, 245760, 507904, 1048335, 2096911, 4194303, 8388607] fmix ?_
  refine Dv [] Vm (Dv [] Vm (Dv [] Vm (Dv [] Vadd (Dv [] Vm (Dv [] Vm (Dv [] Vm (Dv [] Vadd (Dv [] Vm (Dv [] Vm ?_)))))))))
  refine Dv [] Vm (Dv [] Vadd (Dv [0] (Vi sl22 0) ?_))
  have hb55 := ok1 (i := ((first + ((2 * root_5) + 1)) : Int).toNat) ho11 rng
  refine Dv [0] (VldI sh3 0) (Dv [] Vm (Dv [] Vm (Dv [] Vm (Dv [] Vadd (Dv [0] (Vi sl22 0) ?_)))))
  have hb56 := ok1 (i := ((first + root_5) : Int).toNat) ho11 rng
  refine Dv [0] (VldI sh3 0) (Dv [0] (Vi sl22 0) (Dx0 [0] [0] [0] [fun G => os (vl dataa0 datak0 data) (data_4.set ((first + root_5) : Int).toNat (data_4.getD ((first + ((2 * root_5) + 1)) : Int).toNat 0))] (fun G => xS (SoI [0] sh3)) (Dv [1] (Vi sl22 0) (Dx0 [1] [1] [0] [fun G => os (vl dataa0 datak0 data) ((data_4.set ((first + root_5) : Int).toNat (data_4.getD ((first + ((2 * root_5) + 1)) : Int).toNat 0)).set ((first + ((2 * root_5) + 1)) : Int).toNat (data_4.getD ((first + root_5) : Int).toNat 0))] (fun G => xS (SoI [0] sh3)) ?_))))
  refine Dn ⟨by kernel_rfl, fun G => ?_⟩
  refine Jw2 [(0, vl dataa0 datak0 data), (2, vi hi), (3, vi first), (9, vi ((2 * root_5) + 1))] [] [os (vl dataa0 datak0 data) ((data_4.set ((first + root_5) : Int).toNat (data_4.getD ((first + ((2 * root_5) + 1)) : Int).toNat 0)).set ((first + ((2 * root_5) + 1)) : Int).toNat (data_4.getD ((first + root_5) : Int).toNat 0))] ?_
  refine KS ?_
  refine Oq Vm (Oq Va (KS ?_))
  exact Kg (r3, ((data_4.set ((first + root_5) : Int).toNat (data_4.getD ((first + ((2 * root_5) + 1)) : Int).toNat 0)).set ((first + ((2 * root_5) + 1)) : Int).toNat (data_4.getD ((first + root_5) : Int).toNat 0)), ((2 * root_5) + 1)) [0] ⟨(q3 hM6 (by simp only [sc_siftDownOrdered_int_L0, h13, h18, h24, h46, h53, hg23, hg45, cs4])), aM1, iv1⟩
 intro h18
 have g57 := df h18
 refine Db h18 [] Vm (Ds (Ds (Ds (Ds (Ds (Ds (Ds (Ds (Ds ?_)))))))))
 refine Ds (Ds (Ds (Ds (Ds (Dv [] Vpf ?_)))))
 refine Dn ⟨by kernel_rfl, fun G => ?_⟩
 refine Jw2 [(0, vl dataa0 datak0 data), (2, vi hi), (3, vi first), (8, vi root_5), (9, vi ((2 * root_5) + 1)), (36, vb false)] [0] [] ?_
 refine Kf (KS ?_)
 refine JK_drawK [0, 0, 0, 6, 15, 31, 0, 0, 0, 384, 960, 1984, 4095, 8191] fmix ?_
 refine Dv [] Vm (Dv [] Vm (Dv [] Vm (Dv [] Vadd (Dv [0] (Vi sl22 0) ?_))))
 have hb58 := ok1 (i := ((first + root_5) : Int).toNat) ho11 rng
 refine Dv [0] (VldI sh3 0) (Dv [] Vm (Dv [] Vm (Dv [] Vm (Dv [] Vadd (Dv [0] (Vi sl22 0) ?_)))))
 have hb59 := ok1 (i := ((first + ((2 * root_5) + 1)) : Int).toNat) ho11 rng
 refine Dv [0] (VldI sh3 0) ?_
 refine letv (cmp_Less_int (data_4.getD ((first + root_5) : Int).toNat 0) (data_4.getD ((first + ((2 * root_5) + 1)) : Int).toNat 0)) fun rv60 hg61 => ?_
 refine Dx [] [] [0] (fun G => vb rv60) [fun G => SP.fact (True)] (fun G => xC [] ca89 (fn89 ((data_4.getD ((first + root_5) : Int).toNat 0)) ((data_4.getD ((first + ((2 * root_5) + 1)) : Int).toNat 0)) pre pre rv60 hg61)) (Dv [] Vnot ?_)
 refine Dn ⟨by kernel_rfl, fun G => ?_⟩
 refine Jw2 [(0, vl dataa0 datak0 data), (2, vi hi), (3, vi first), (8, vi root_5), (9, vi ((2 * root_5) + 1)), (52, vb (!rv60))] [0] [SP.fact (True)] ?_
 refine Jk [0] ?_
 refine Kc ?_ ?_
 ·intro h62
  have h64 := not_true h62
  refine Fl 0 fun hn66 => ?_
  have hR67 := q2 hM6 (.ret data_4) (by simp only [sc_siftDownOrdered_int_L0, h13, h18, h62, h64, hg61, cs4])
  have hq := q4 hrr data_4 (by simp only [sc_siftDownOrdered_int, h13, h18, h62, h64, hg61, hR67, cs4]); subst hq
  exact Kr () rfl .nil [0] en
 intro h62
 have h69 := not_false h62
 refine KS ?_
 refine JK_drawK [0, 0, 0, 6, 0, 0, 0, 96, 0, 0, 0, 1536, 3840, 7936, 0, 0, 0, 98304, 245760, 507904, 1048335, 2096911, 4194303, 8388607] fmix ?_
 refine Dv [] Vm (Dv [] Vm (Dv [] Vm (Dv [] Vadd (Dv [] Vm (Dv [] Vm (Dv [] Vm (Dv [] Vadd (Dv [] Vm (Dv [] Vm ?_)))))))))
 refine Dv [] Vm (Dv [] Vadd (Dv [0] (Vi sl22 0) ?_))
 have hb71 := ok1 (i := ((first + ((2 * root_5) + 1)) : Int).toNat) ho11 rng
 refine Dv [0] (VldI sh3 0) (Dv [] Vm (Dv [] Vm (Dv [] Vm (Dv [] Vadd (Dv [0] (Vi sl22 0) ?_)))))
 have hb72 := ok1 (i := ((first + root_5) : Int).toNat) ho11 rng
 refine Dv [0] (VldI sh3 0) (Dv [0] (Vi sl22 0) (Dx0 [0] [0] [0] [fun G => os (vl dataa0 datak0 data) (data_4.set ((first + root_5) : Int).toNat (data_4.getD ((first + ((2 * root_5) + 1)) : Int).toNat 0))] (fun G => xS (SoI [0] sh3)) (Dv [1] (Vi sl22 0) (Dx0 [1] [1] [0] [fun G => os (vl dataa0 datak0 data) ((data_4.set ((first + root_5) : Int).toNat (data_4.getD ((first + ((2 * root_5) + 1)) : Int).toNat 0)).set ((first + ((2 * root_5) + 1)) : Int).toNat (data_4.getD ((first + root_5) : Int).toNat 0))] (fun G => xS (SoI [0] sh3)) ?_))))
 refine Dn ⟨by kernel_rfl, fun G => ?_⟩
 refine Jw2 [(0, vl dataa0 datak0 data), (2, vi hi), (3, vi first), (9, vi ((2 * root_5) + 1))] [] [os (vl dataa0 datak0 data) ((data_4.set ((first + root_5) : Int).toNat (data_4.getD ((first + ((2 * root_5) + 1)) : Int).toNat 0)).set ((first + ((2 * root_5) + 1)) : Int).toNat (data_4.getD ((first + root_5) : Int).toNat 0))] ?_
 refine KS ?_
 refine Oq Vm (Oq Va (KS ?_))
 exact Kg (r3, ((data_4.set ((first + root_5) : Int).toNat (data_4.getD ((first + ((2 * root_5) + 1)) : Int).toNat 0)).set ((first + ((2 * root_5) + 1)) : Int).toNat (data_4.getD ((first + root_5) : Int).toNat 0)), ((2 * root_5) + 1)) [0] ⟨(q3 hM6 (by simp only [sc_siftDownOrdered_int_L0, h13, h18, h62, h69, hg61, cs4])), aM1, iv1⟩
theorem fn84 (data : List Int) (dataa0 : Option Addr) (datak0 : Nat) (a : Int) (b : Int) (ha_0 : i64ok a) (hb_0 : i64ok b) (ha0 : 0 ≤ a ∧ a ≤ b ∧ b ≤ (data.length : Int) ∧ data.length ≤ 65535 ∧ 1 ≤ b - a) (rr : List Int) (hrr : sc_heapSortOrdered_int data a b = rr) : FT Tryz.prog 84 #[vl dataa0 datak0 data, vi a, vi b] [O dataa0 datak0 data] (fun g : Unit => (rr.length = data.length)) (fun g => .tuple #[]) (fun g => [os (vl dataa0 datak0 data) rr]) := by
 refine FTi Tryz.func84 fun w0 M0 F0 => ?_
 unfold i64ok at ha_0 hb_0
 refine Fb 8 0 fun _ => Fo 0 fun ho2 => KS ?_
 refine Oq Vm (Oq Va (KS ?_))
 refine Oq Va (KS ?_)
 refine Oq Vm (Oq Vm (Oq Vsub (Oq Va (KS ?_))))
 refine Oq Vm (Oq Vsub (Oq Vquo (Oq Va (KS ?_))))
 have hterm9 : sc_heapSortOrdered_int_L0 a b ((b - a).toNat + 1) data (((b - a) - 1) / 2) ≠ LR.oof := (heap0_t _ _ _ aM1 aM1)
 refine Kl (γ := Nat × List Int × Int) (fun (r3, data_4, i_5) => ⟨[(0, vl dataa0 datak0 data), (6, vi a), (7, vi 0), (8, vi (b - a)), (9, vi i_5)], [os (vl dataa0 datak0 data) data_4], sc_heapSortOrdered_int_L0 a b r3 data_4 i_5 = sc_heapSortOrdered_int_L0 a b ((b - a).toNat + 1) data (((b - a) - 1) / 2) ∧ (-9223372036854775808 ≤ i_5 ∧ i_5 ≤ 9223372036854775807) ∧ (-1 ≤ i_5 ∧ i_5 ≤ b - a), r3⟩) (((b - a).toNat + 1), data, (((b - a) - 1) / 2)) [0] ⟨rfl, aM1, iv0⟩ ?_
 rintro ⟨r3, data_4, i_5⟩ ⟨hM6, hk7, hv8⟩
 refine JJ_nx fun _ _ hL hA => ?_; dsimp only at hL hA; subst hL hA
 refine Fb 8 0 fun _ => Fo 0 fun ho11 => Fl 0 fun hn12 => ?_
 rcases r3 with _ | r3
 ·exact absurd (hM6.symm.trans rfl) hterm9
 refine KS ?_
 refine Oq Vm (Oq Vgeq (KS ?_))
 refine Kc ?_ ?_
 ·intro h13
  have g14 := dt h13
  refine KS ?_
  refine Oq Vm (Oq Vm (Oq Vm (Oq Vm ?_)))
  refine Fl 0 fun hn15 => ?_; (try unfold vl); rw [← hn15]
  refine letv (sc_siftDownOrdered_int data_4 i_5 (b - a) a) fun rv16 hg17 => ?_
  have hc18 := fn99 data_4 dataa0 datak0 i_5 ((b - a)) a pre pre pre pre rv16 hg17
  refine Oc [0] ca99 hc18 ?_
  rintro - he19
  have hn20 : data_4.length = data.length := by omega
  try unfold vl
  try rw [hn20]
  refine Fb 8 0 fun _ => Fo 0 fun ho22 => KS ?_
  refine Oq Vm (Oq Vsub (Oq Va (KS ?_)))
  exact Kg (r3, rv16, (i_5 - 1)) [0] ⟨(q3 hM6 (by simp only [sc_heapSortOrdered_int_L0, h13, hg17, cs4])), aM1, iv1⟩
 intro h13
 have g23 := df h13
 refine Ke ?_
 have hR24 := q2 hM6 (.brk data_4) (by simp only [sc_heapSortOrdered_int_L0, h13, cs4])
 refine KS ?_
 refine Oq Vm (Oq Vsub (Oq Va (KS ?_)))
 have hterm31 : sc_heapSortOrdered_int_L1 a ((b - a).toNat + 1) data_4 ((b - a) - 1) ≠ LR.oof := (heap1_t _ _ _ aM1 aM1)
 refine Kl (γ := Nat × List Int × Int) (fun (r25, data_26, i_27) => ⟨[(0, vl dataa0 datak0 data), (6, vi a), (7, vi 0), (10, vi i_27)], [os (vl dataa0 datak0 data) data_26], sc_heapSortOrdered_int_L1 a r25 data_26 i_27 = sc_heapSortOrdered_int_L1 a ((b - a).toNat + 1) data_4 ((b - a) - 1) ∧ (-9223372036854775808 ≤ i_27 ∧ i_27 ≤ 9223372036854775807) ∧ (-1 ≤ i_27 ∧ i_27 < b - a), r25⟩) (((b - a).toNat + 1), data_4, ((b - a) - 1)) [0] ⟨rfl, aM1, iv0⟩ ?_
 rintro ⟨r25, data_26, i_27⟩ ⟨hM28, hk29, hv30⟩
 refine JJ_nx fun _ _ hL hA => ?_; dsimp only at hL hA; subst hL hA
 refine Fb 8 0 fun _ => Fo 0 fun ho33 => Fl 0 fun hn34 => ?_
 rcases r25 with _ | r25
 ·exact absurd (hM28.symm.trans rfl) hterm31
 refine KS ?_
 refine Oq Vm (Oq Vgeq (KS ?_))
 refine Kc ?_ ?_
 ·intro h35
  have g36 := dt h35
  refine KS ?_
  refine JK_drawK [0, 0, 0, 0, 0, 24, 0, 0, 0, 384, 960, 1984, 0, 0, 12288, 28672, 65475, 131011, 262143, 524287] fmix ?_
  refine Dv [] Vm (Dv [] Vm (Dv [] Vm (Dv [] Vm (Dv [] Vm (Dv [] Vadd (Dv [] Vm (Dv [] Vm (Dv [] Vm (Dv [] Vadd ?_)))))))))
  refine Dv [0] (Vi sl22 0) ?_
  have hb37 := ok1 (i := ((a + i_27) : Int).toNat) ho33 rng
  refine Dv [0] (VldI sh3 0) (Dv [] Vm (Dv [] Vm (Dv [0] (Vi sl22 0) ?_)))
  have hb38 := ok1 (i := a.toNat) ho33 rng
  refine Dv [0] (VldI sh3 0) (Dv [0] (Vi sl22 0) (Dx0 [0] [0] [0] [fun G => os (vl dataa0 datak0 data) (data_26.set a.toNat (data_26.getD ((a + i_27) : Int).toNat 0))] (fun G => xS (SoI [0] sh3)) (Dv [1] (Vi sl22 0) (Dx0 [1] [1] [0] [fun G => os (vl dataa0 datak0 data) ((data_26.set a.toNat (data_26.getD ((a + i_27) : Int).toNat 0)).set ((a + i_27) : Int).toNat (data_26.getD a.toNat 0))] (fun G => xS (SoI [0] sh3)) ?_))))
  refine Dn ⟨by kernel_rfl, fun G => ?_⟩
  refine Jw2 [(0, vl dataa0 datak0 data), (6, vi a), (7, vi 0), (10, vi i_27)] [] [os (vl dataa0 datak0 data) ((data_26.set a.toNat (data_26.getD ((a + i_27) : Int).toNat 0)).set ((a + i_27) : Int).toNat (data_26.getD a.toNat 0))] ?_
  refine KS ?_
  refine Oq Vm (Oq Vm (Oq Vm (Oq Vm ?_)))
  refine Fl 0 fun hn39 => ?_; (try unfold vl); rw [← hn39]
  refine letv (sc_siftDownOrdered_int ((data_26.set a.toNat (data_26.getD ((a + i_27) : Int).toNat 0)).set ((a + i_27) : Int).toNat (data_26.getD a.toNat 0)) 0 i_27 a) fun rv40 hg41 => ?_
  have hc42 := fn99 (((data_26.set a.toNat (data_26.getD ((a + i_27) : Int).toNat 0)).set ((a + i_27) : Int).toNat (data_26.getD a.toNat 0))) dataa0 datak0 0 i_27 a pre pre pre pre rv40 hg41
  refine Oc [0] ca99 hc42 ?_
  rintro - he43
  have hn44 : ((data_26.set a.toNat (data_26.getD ((a + i_27) : Int).toNat 0)).set ((a + i_27) : Int).toNat (data_26.getD a.toNat 0)).length = data.length := by omega
  try unfold vl
  try rw [hn44]
  refine Fb 8 0 fun _ => Fo 0 fun ho46 => KS ?_
  refine Oq Vm (Oq Vsub (Oq Va (KS ?_)))
  exact Kg (r25, rv40, (i_27 - 1)) [0] ⟨(q3 hM28 (by simp only [sc_heapSortOrdered_int_L1, h35, hg41, cs4])), aM1, iv1⟩
 intro h35
 have g47 := df h35
 refine Ke ?_
 have hR48 := q2 hM28 (.brk data_26) (by simp only [sc_heapSortOrdered_int_L1, h35, cs4])
 refine Fl 0 fun hn49 => ?_
 have hq := q4 hrr data_26 (by simp only [sc_heapSortOrdered_int, h13, h35, hR24, hR48, cs4]); subst hq
 exact Kz () rfl .nil [0] en
theorem fn93 (x : BitVec 64) (hx0 : x.toNat ≤ 65535) (rr : Int) (hrr : bits_Len64 x = rr) : FT Tryz.prog 93 #[u64 x] [] (fun g : Unit => i64ok rr) (fun g => vi rr) (fun g => []) := by
 refine FTi Tryz.func93 fun w0 M0 F0 => ?_
 have hs8 : (x >>> (((8#64).toNat : Int)).toNat).toNat = x.toNat / 256 := by rw [show (((8#64).toNat : Int)).toNat = 8 by decide, BitVec.toNat_ushiftRight, Nat.shiftRight_eq_div_pow]
 have hs9 : (x >>> Int.toNat 8).toNat = x.toNat / 256 := hs8
 have hu8 := u8b (tab0.b.getD (((x >>> Int.toNat 8).toNat : Int)).toNat 0)
 refine KS ?_
 refine Oq Va (KS ?_)
 refine Oq Vm (Oq (Vgeq (a := (x.toNat : Int)) (b := 4294967296)) (KS ?_))
 refine Kc ?_ ?_
 ·intro h1
  have g2 := dt h1
  exfalso; omega
 intro h1
 have g3 := df h1
 refine KS ?_
 refine Oq Vm (Oq (Vgeq (a := (x.toNat : Int)) (b := 65536)) (KS ?_))
 refine Kc ?_ ?_
 ·intro h4
  have g5 := dt h4
  exfalso; omega
 intro h4
 have g6 := df h4
 refine KS ?_
 refine Oq Vm (Oq (Vgeq (a := (x.toNat : Int)) (b := 256)) (KS ?_))
 refine Kc ?_ ?_
 ·intro h7
  have g8 := dt h7
  refine KS ?_
  refine Oq Vm (Oq VshrU (Oq Va (KS ?_)))
  refine Oq Vm (Oq Vadd (Oq Va (KS ?_)))
  refine Oq Vm (Oq Vm (Oq (VcU8 un95 un5) ?_))
  refine Oq (Vix un9 (l := tab0) (h := ⟨by omega, by rw [show tab0.b.length = 256 from rfl]; omega⟩)) ?_
  have hb9 := u8b (tab0.b.getD (((x >>> (((8#64).toNat : Int)).toNat).toNat : Int) : Int).toNat 0)
  refine Oq (VcK un5 un3) (Oq Vadd (Oq Va (KS ?_)))
  have hq := q4 hrr ((0 + 8) + ((tab0.b.getD (((x >>> (((8#64).toNat : Int)).toNat).toNat : Int) : Int).toNat 0).toNat : Int)) (by simp only [bits_Len64, h1, h4, h7, cs4]); subst hq
  exact Kr () rfl (.tmp rfl .nil) [] en
 intro h7
 have g10 := df h7
 refine KS ?_
 refine Oq Vm (Oq Vm (Oq (VcU8 un95 un5) ?_))
 refine Oq (Vix un9 (l := tab0) (h := ⟨by omega, by rw [show tab0.b.length = 256 from rfl]; omega⟩)) ?_
 have hb11 := u8b (tab0.b.getD ((x.toNat : Int) : Int).toNat 0)
 refine Oq (VcK un5 un3) (Oq Vadd (Oq Va (KS ?_)))
 have hq := q4 hrr (0 + ((tab0.b.getD ((x.toNat : Int) : Int).toNat 0).toNat : Int)) (by simp only [bits_Len64, h1, h4, h7, cs4]); subst hq
 exact Kr () rfl (.tmp rfl .nil) [] en
theorem fn72 (x : BitVec 64) (hx0 : x.toNat ≤ 65535) (rr : Int) (hrr : bits_Len x = rr) : FT Tryz.prog 72 #[u64 x] [] (fun g : Unit => i64ok rr) (fun g => vi rr) (fun g => []) := by
 refine FTi Tryz.func72 fun w0 M0 F0 => ?_
 refine KS ?_
 refine Oq Va (KS ?_)
 refine Kf (KS ?_)
 refine Oq Vm ?_
 refine letv (bits_Len64 x) fun rv1 hg2 => ?_
 have hc3 := fn93 x pre rv1 hg2
 refine Oc [] ca93 hc3 ?_
 rintro - he4
 unfold i64ok at he4
 refine Oq Va (KS ?_)
 have hq := q4 hrr rv1 (by simp only [bits_Len, hg2, cs4]); subst hq
 exact Kr () rfl (.tmp rfl .nil) [] en
theorem fn100 (length : Int) (hlength_0 : i64ok length) (hl0 : 1 ≤ length ∧ length ≤ 65535) (rr : BitVec 64) (hrr : sc_nextPowerOfTwo length = rr) : FT Tryz.prog 100 #[vi length] [] (fun g : Unit => True) (fun g => u64 rr) (fun g => []) := by
 refine FTi Tryz.func100 fun w0 M0 F0 => ?_
 unfold i64ok at hlength_0
 refine KS ?_
 refine Oq Va (KS ?_)
 refine Oq Vm (Oq (VcU un3 un84) ?_)
 refine letv (bits_Len (BitVec.ofInt 64 length)) fun rv1 hg2 => ?_
 have hln := Len_f hg2 (by rw [ofI_nat aM1]; omega)
 have hc3 := fn72 ((BitVec.ofInt 64 length)) (by rw [ofI_nat aM1]; omega) rv1 hg2
 refine Oc [] ca72 hc3 ?_
 rintro - he4
 unfold i64ok at he4
 refine Oq (VshlU (a := 1#64)) (Oq Va (KS ?_))
 have hq := q4 hrr (1#64 <<< (rv1).toNat) (by simp only [sc_nextPowerOfTwo, hg2, cs4]); subst hq
 exact Kr () rfl (.tmp rfl .nil) [] trivial
theorem fn101 (rP : Value) (r : BitVec 64) (rr : BitVec 64 × BitVec 64) (hrr : xorshift_Next r = rr) : FT Tryz.prog 101 #[rP] [Cl rP [u64 r]] (fun g : Unit => True) (fun g => u64 rr.1) (fun g => [Cl rP [u64 rr.2]]) := by
 refine FTi Tryz.func101 fun w0 M0 F0 => ?_
 refine KS ?_
 refine Oq Va (KS ?_)
 refine Jp 0 fun hp1 => ?_
 refine JK_drawK [0, 1, 3, 0, 8, 24, 56, 127, 255, 511] fmix ?_
 refine Dv [] Vm (Dv [0] (Vn 0) (Dv [1] (Vld sh123 0) (Dv [] Vm (Dv [0] (Vn 0) (Dv [1] (Vld sh123 0) (Dv [] VshlU (Dv [] VxorU (Dv [0] (Vn 0) (Dx0 [1] [1] [0] [fun G => Cl rP [u64 (r ^^^ (r <<< (((13#64).toNat : Int)).toNat))]] (fun G => xS (Scl [0] sh123 [u64 (r ^^^ (r <<< (((13#64).toNat : Int)).toNat))])) ?_)))))))))
 refine Dn ⟨by kernel_rfl, fun G => ?_⟩
 refine Jw2 [(0, rP)] [0] [Cl rP [u64 (r ^^^ (r <<< (((13#64).toNat : Int)).toNat))]] ?_
 refine Jk [1] ?_
 refine KS ?_
 refine Jp 0 fun hp2 => ?_
 refine JK_drawK [0, 1, 3, 0, 8, 24, 56, 127, 255, 511] fmix ?_
 refine Dv [] Vm (Dv [0] (Vn 0) (Dv [1] (Vld sh123 0) (Dv [] Vm (Dv [0] (Vn 0) (Dv [1] (Vld sh123 0) (Dv [] VshrU (Dv [] VxorU (Dv [0] (Vn 0) (Dx0 [1] [1] [0] [fun G => Cl rP [u64 ((r ^^^ (r <<< (((13#64).toNat : Int)).toNat)) ^^^ ((r ^^^ (r <<< (((13#64).toNat : Int)).toNat)) >>> (((7#64).toNat : Int)).toNat))]] (fun G => xS (Scl [0] sh123 [u64 ((r ^^^ (r <<< (((13#64).toNat : Int)).toNat)) ^^^ ((r ^^^ (r <<< (((13#64).toNat : Int)).toNat)) >>> (((7#64).toNat : Int)).toNat))])) ?_)))))))))
 refine Dn ⟨by kernel_rfl, fun G => ?_⟩
 refine Jw2 [(0, rP)] [0] [Cl rP [u64 ((r ^^^ (r <<< (((13#64).toNat : Int)).toNat)) ^^^ ((r ^^^ (r <<< (((13#64).toNat : Int)).toNat)) >>> (((7#64).toNat : Int)).toNat))]] ?_
 refine Jk [1] ?_
 refine KS ?_
 refine Jp 0 fun hp3 => ?_
 refine JK_drawK [0, 1, 3, 0, 8, 24, 56, 127, 255, 511] fmix ?_
 refine Dv [] Vm (Dv [0] (Vn 0) (Dv [1] (Vld sh123 0) (Dv [] Vm (Dv [0] (Vn 0) (Dv [1] (Vld sh123 0) (Dv [] VshlU (Dv [] VxorU (Dv [0] (Vn 0) (Dx0 [1] [1] [0] [fun G => Cl rP [u64 (((r ^^^ (r <<< (((13#64).toNat : Int)).toNat)) ^^^ ((r ^^^ (r <<< (((13#64).toNat : Int)).toNat)) >>> (((7#64).toNat : Int)).toNat)) ^^^ (((r ^^^ (r <<< (((13#64).toNat : Int)).toNat)) ^^^ ((r ^^^ (r <<< (((13#64).toNat : Int)).toNat)) >>> (((7#64).toNat : Int)).toNat)) <<< (((17#64).toNat : Int)).toNat))]] (fun G => xS (Scl [0] sh123 [u64 (((r ^^^ (r <<< (((13#64).toNat : Int)).toNat)) ^^^ ((r ^^^ (r <<< (((13#64).toNat : Int)).toNat)) >>> (((7#64).toNat : Int)).toNat)) ^^^ (((r ^^^ (r <<< (((13#64).toNat : Int)).toNat)) ^^^ ((r ^^^ (r <<< (((13#64).toNat : Int)).toNat)) >>> (((7#64).toNat : Int)).toNat)) <<< (((17#64).toNat : Int)).toNat))])) ?_)))))))))
 refine Dn ⟨by kernel_rfl, fun G => ?_⟩
 refine Jw2 [(0, rP)] [0] [Cl rP [u64 (((r ^^^ (r <<< (((13#64).toNat : Int)).toNat)) ^^^ ((r ^^^ (r <<< (((13#64).toNat : Int)).toNat)) >>> (((7#64).toNat : Int)).toNat)) ^^^ (((r ^^^ (r <<< (((13#64).toNat : Int)).toNat)) ^^^ ((r ^^^ (r <<< (((13#64).toNat : Int)).toNat)) >>> (((7#64).toNat : Int)).toNat)) <<< (((17#64).toNat : Int)).toNat))]] ?_
 refine Jk [1] ?_
 refine KS ?_
 refine Oq Vm (Oq (Vn 0) (Oq (Vld sh123 0) (Oq Va (KS ?_))))
 have hq := q4 hrr ((((r ^^^ (r <<< (((13#64).toNat : Int)).toNat)) ^^^ ((r ^^^ (r <<< (((13#64).toNat : Int)).toNat)) >>> (((7#64).toNat : Int)).toNat)) ^^^ (((r ^^^ (r <<< (((13#64).toNat : Int)).toNat)) ^^^ ((r ^^^ (r <<< (((13#64).toNat : Int)).toNat)) >>> (((7#64).toNat : Int)).toNat)) <<< (((17#64).toNat : Int)).toNat)), (((r ^^^ (r <<< (((13#64).toNat : Int)).toNat)) ^^^ ((r ^^^ (r <<< (((13#64).toNat : Int)).toNat)) >>> (((7#64).toNat : Int)).toNat)) ^^^ (((r ^^^ (r <<< (((13#64).toNat : Int)).toNat)) ^^^ ((r ^^^ (r <<< (((13#64).toNat : Int)).toNat)) >>> (((7#64).toNat : Int)).toNat)) <<< (((17#64).toNat : Int)).toNat))) (by simp only [xorshift_Next, cs4]); subst hq
 exact Kr () rfl (.tmp rfl .nil) [0] trivial
theorem fn85 (data : List Int) (dataa0 : Option Addr) (datak0 : Nat) (a : Int) (b : Int) (ha_0 : i64ok a) (hb_0 : i64ok b) (ha0 : 0 ≤ a ∧ a ≤ b ∧ b ≤ (data.length : Int) ∧ data.length ≤ 65535) (rr : List Int) (hrr : sc_breakPatternsOrdered_int data a b = rr) : FT Tryz.prog 85 #[vl dataa0 datak0 data, vi a, vi b] [O dataa0 datak0 data] (fun g : Unit => (rr.length = data.length)) (fun g => .tuple #[]) (fun g => [os (vl dataa0 datak0 data) rr]) := by
 refine FTi Tryz.func85 fun w0 M0 F0 => ?_
 unfold i64ok at ha_0 hb_0
 refine Fb 8 0 fun _ => Fo 0 fun ho2 => KS ?_
 refine Oq Vm (Oq Vm (Oq Vsub (Oq Va (KS ?_))))
 refine Oq Vm (Oq Vgeq (KS ?_))
 refine Kc ?_ ?_
 ·intro h3
  have g4 := dt h3
  refine KS ?_
  refine Oq Vm (Oq (VcU un3 un123) (Oa (Al ze123 [u64 (0#64)]) fun p5 => Ost (Scl [0] sh123 [u64 (BitVec.ofInt 64 (b - a))]) (KS ?_)))
  refine Oq Vm ?_
  refine letv (sc_nextPowerOfTwo (b - a)) fun rv6 hg7 => ?_
  have hmd := npt_f hg7 aM1
  have hc8 := fn100 ((b - a)) pre pre rv6 hg7
  refine Oc [] ca100 hc8 ?_
  rintro - -
  refine Oq Va (KS ?_)
  refine Oq Vm (Oq Vm (Oq Vquo (Oq Vmul (Oq Vadd (Oq Vsub (Oq Va (KS ?_)))))))
  have hterm16 : sc_breakPatternsOrdered_int_L0 a b rv6 4 data (BitVec.ofInt 64 (b - a)) ((a + (((b - a) / 4) * 2)) - 1) ≠ LR.oof := (bp_t _ _ _ _ aM1 aM1)
  refine Kl (γ := Nat × List Int × BitVec 64 × Int) (fun (r9, data_10, random0_11, idx_12) => ⟨[(0, vl dataa0 datak0 data), (1, vi a), (6, vi (b - a)), (7, p5), (8, u64 rv6), (9, vi idx_12)], [Cl p5 [u64 random0_11], os (vl dataa0 datak0 data) data_10], sc_breakPatternsOrdered_int_L0 a b rv6 r9 data_10 random0_11 idx_12 = sc_breakPatternsOrdered_int_L0 a b rv6 4 data (BitVec.ofInt 64 (b - a)) ((a + (((b - a) / 4) * 2)) - 1) ∧ (-9223372036854775808 ≤ idx_12 ∧ idx_12 ≤ 9223372036854775807) ∧ (a + (b - a) / 4 * 2 - 1 ≤ idx_12 ∧ idx_12 ≤ a + (b - a) / 4 * 2 + 2), r9⟩) (4, data, (BitVec.ofInt 64 (b - a)), ((a + (((b - a) / 4) * 2)) - 1)) [0, 0] ⟨rfl, aM1, iv0⟩ ?_
  rintro ⟨r9, data_10, random0_11, idx_12⟩ ⟨hM13, hk14, hv15⟩
  refine JJ_nx fun _ _ hL hA => ?_; dsimp only at hL hA; subst hL hA
  refine Fb 8 1 fun _ => Fo 1 fun ho18 => Fl 1 fun hn19 => ?_
  rcases r9 with _ | r9
  ·exact absurd (hM13.symm.trans rfl) hterm16
  refine KS ?_
  refine Oq Vm (Oq Vm (Oq Vm (Oq Vquo (Oq Vmul (Oq Vadd (Oq Vadd (Oq Vleq (KS ?_))))))))
  refine Kc ?_ ?_
  ·intro h20
   have g21 := dt h20
   refine KS ?_
   refine letv (xorshift_Next random0_11) fun rv22 hg23 => ?_
   have hal := and_lt (x := rv22.1) hmd.1
   have hc24 := fn101 p5 random0_11 rv22 hg23
   refine Oc [0] ca101 hc24 ?_
   rintro - -
   refine Oq Vm (Oq (VsubU (b := 1#64)) (Oq VandU (Oq (VcN un84 un3) (Oq Va (KS ?_)))))
   refine Oq Vm (Oq Vm (Oq Vgeq (KS ?_)))
   refine Kc ?_ ?_
   ·intro h25
    have g26 := dt h25
    refine KS ?_
    refine Oq Vm (Oq Vm (Oq Vsub (Oq Va (KS ?_))))
    refine JK_drawK [0, 0, 0, 0, 0, 24, 0, 0, 0, 384, 960, 1984, 0, 0, 12288, 28672, 65475, 131011, 262143, 524287] fmix ?_
    refine Dv [] Vm (Dv [] Vm (Dv [] Vm (Dv [] Vm (Dv [] Vm (Dv [] Vadd (Dv [] Vm (Dv [] Vm (Dv [] Vm (Dv [] Vadd ?_)))))))))
    refine Dv [1] (Vi sl22 0) ?_
    have hb27 := ok1 (i := ((a + (((rv22.1 &&& (rv6 - 1#64)).toNat : Int) - (b - a))) : Int).toNat) ho18 rng
    refine Dv [1] (VldI sh3 0) (Dv [] Vm (Dv [] Vm (Dv [1] (Vi sl22 0) ?_)))
    have hb28 := ok1 (i := idx_12.toNat) ho18 rng
    refine Dv [1] (VldI sh3 0) (Dv [1] (Vi sl22 0) (Dx0 [1] [1] [0] [fun G => os (vl dataa0 datak0 data) (data_10.set idx_12.toNat (data_10.getD ((a + (((rv22.1 &&& (rv6 - 1#64)).toNat : Int) - (b - a))) : Int).toNat 0))] (fun G => xS (SoI [0] sh3)) (Dv [2] (Vi sl22 0) (Dx0 [2] [2] [0] [fun G => os (vl dataa0 datak0 data) ((data_10.set idx_12.toNat (data_10.getD ((a + (((rv22.1 &&& (rv6 - 1#64)).toNat : Int) - (b - a))) : Int).toNat 0)).set ((a + (((rv22.1 &&& (rv6 - 1#64)).toNat : Int) - (b - a))) : Int).toNat (data_10.getD idx_12.toNat 0))] (fun G => xS (SoI [0] sh3)) ?_))))
    refine Dn ⟨by kernel_rfl, fun G => ?_⟩
    refine Jw2 [(0, vl dataa0 datak0 data), (1, vi a), (6, vi (b - a)), (7, p5), (8, u64 rv6), (9, vi idx_12)] [0] [os (vl dataa0 datak0 data) ((data_10.set idx_12.toNat (data_10.getD ((a + (((rv22.1 &&& (rv6 - 1#64)).toNat : Int) - (b - a))) : Int).toNat 0)).set ((a + (((rv22.1 &&& (rv6 - 1#64)).toNat : Int) - (b - a))) : Int).toNat (data_10.getD idx_12.toNat 0))] ?_
    refine KS ?_
    refine Oq Vm (Oq Vadd (Oq Va (KS ?_)))
    exact Kg (r9, ((data_10.set idx_12.toNat (data_10.getD ((a + (((rv22.1 &&& (rv6 - 1#64)).toNat : Int) - (b - a))) : Int).toNat 0)).set ((a + (((rv22.1 &&& (rv6 - 1#64)).toNat : Int) - (b - a))) : Int).toNat (data_10.getD idx_12.toNat 0)), rv22.2, (idx_12 + 1)) [0, 0] ⟨(q3 hM13 (by simp only [sc_breakPatternsOrdered_int_L0, h20, h25, hg23, cs4])), aM1, iv1⟩
   intro h25
   have g29 := df h25
   refine KS ?_
   refine JK_drawK [0, 0, 0, 0, 0, 24, 0, 0, 0, 384, 960, 1984, 0, 0, 12288, 28672, 65475, 131011, 262143, 524287] fmix ?_
   refine Dv [] Vm (Dv [] Vm (Dv [] Vm (Dv [] Vm (Dv [] Vm (Dv [] Vadd (Dv [] Vm (Dv [] Vm (Dv [] Vm (Dv [] Vadd ?_)))))))))
   refine Dv [1] (Vi sl22 0) ?_
   have hb30 := ok1 (i := ((a + ((rv22.1 &&& (rv6 - 1#64)).toNat : Int)) : Int).toNat) ho18 rng
   refine Dv [1] (VldI sh3 0) (Dv [] Vm (Dv [] Vm (Dv [1] (Vi sl22 0) ?_)))
   have hb31 := ok1 (i := idx_12.toNat) ho18 rng
   refine Dv [1] (VldI sh3 0) (Dv [1] (Vi sl22 0) (Dx0 [1] [1] [0] [fun G => os (vl dataa0 datak0 data) (data_10.set idx_12.toNat (data_10.getD ((a + ((rv22.1 &&& (rv6 - 1#64)).toNat : Int)) : Int).toNat 0))] (fun G => xS (SoI [0] sh3)) (Dv [2] (Vi sl22 0) (Dx0 [2] [2] [0] [fun G => os (vl dataa0 datak0 data) ((data_10.set idx_12.toNat (data_10.getD ((a + ((rv22.1 &&& (rv6 - 1#64)).toNat : Int)) : Int).toNat 0)).set ((a + ((rv22.1 &&& (rv6 - 1#64)).toNat : Int)) : Int).toNat (data_10.getD idx_12.toNat 0))] (fun G => xS (SoI [0] sh3)) ?_))))
   refine Dn ⟨by kernel_rfl, fun G => ?_⟩
   refine Jw2 [(0, vl dataa0 datak0 data), (1, vi a), (6, vi (b - a)), (7, p5), (8, u64 rv6), (9, vi idx_12)] [0] [os (vl dataa0 datak0 data) ((data_10.set idx_12.toNat (data_10.getD ((a + ((rv22.1 &&& (rv6 - 1#64)).toNat : Int)) : Int).toNat 0)).set ((a + ((rv22.1 &&& (rv6 - 1#64)).toNat : Int)) : Int).toNat (data_10.getD idx_12.toNat 0))] ?_
   refine KS ?_
   refine Oq Vm (Oq Vadd (Oq Va (KS ?_)))
   exact Kg (r9, ((data_10.set idx_12.toNat (data_10.getD ((a + ((rv22.1 &&& (rv6 - 1#64)).toNat : Int)) : Int).toNat 0)).set ((a + ((rv22.1 &&& (rv6 - 1#64)).toNat : Int)) : Int).toNat (data_10.getD idx_12.toNat 0)), rv22.2, (idx_12 + 1)) [0, 0] ⟨(q3 hM13 (by simp only [sc_breakPatternsOrdered_int_L0, h20, h25, hg23, cs4])), aM1, iv1⟩
  intro h20
  have g32 := df h20
  refine Ke ?_
  have hR33 := q2 hM13 (.brk data_10) (by simp only [sc_breakPatternsOrdered_int_L0, h20, cs4])
  refine Fl 1 fun hn34 => ?_
  have hq := q4 hrr data_10 (by simp only [sc_breakPatternsOrdered_int, h3, h20, hg7, hR33, cs4]); subst hq
  exact Kz () rfl .nil [1] en
 intro h3
 have g35 := df h3
 refine KS ?_
 have hq := q4 hrr data (by simp only [sc_breakPatternsOrdered_int, h3, cs4]); subst hq
 exact Kz () rfl .nil [0] en
theorem fn109 (data : List Int) (dataa0 : Option Addr) (datak0 : Nat) (a : Int) (b : Int) (swapsP : Value) (swaps : Int) (ha_0 : i64ok a) (hb_0 : i64ok b) (hswaps_0 : i64ok swaps) (ha0 : 0 ≤ a ∧ a < (data.length : Int) ∧ 0 ≤ b ∧ b < (data.length : Int)) (hs0 : 0 ≤ swaps ∧ swaps ≤ 1000) (rr : Int × Int × Int) (hrr : sc_order2Ordered_int data a b swaps = rr) : FT Tryz.prog 109 #[vl dataa0 datak0 data, vi a, vi b, swapsP] [S dataa0 datak0 data, Cl swapsP [vi swaps]] (fun g : Unit => i64ok rr.1 ∧ i64ok rr.2.1 ∧ i64ok rr.2.2 ∧ ((rr.1 = a ∧ rr.2.1 = b) ∨ (rr.1 = b ∧ rr.2.1 = a)) ∧ (0 ≤ rr.2.2 ∧ rr.2.2 ≤ swaps + 1)) (fun g => .tuple #[vi rr.1, vi rr.2.1]) (fun g => [Cl swapsP [vi rr.2.2]]) := by
 refine FTi Tryz.func109 fun w0 M0 F0 => ?_
 unfold i64ok at ha_0 hb_0 hswaps_0
 refine Fb 8 0 fun _ => Fo 0 fun ho2 => KS ?_
 refine Oq Va (Oq Va (KS ?_))
 refine JK_drawK [0, 0, 3, 7, 0, 0, 48, 112, 255] fmix ?_
 refine Dv [] Vm (Dv [] Vm (Dv [0] (Vi sl22 0) ?_))
 have hb3 := ok1 (i := b.toNat) ho2 rng
 refine Dv [0] (VldI sh3 0) (Dv [] Vm (Dv [] Vm (Dv [0] (Vi sl22 0) ?_)))
 have hb4 := ok1 (i := a.toNat) ho2 rng
 refine Dv [0] (VldI sh3 0) ?_
 refine letv (cmp_Less_int (data.getD b.toNat 0) (data.getD a.toNat 0)) fun rv5 hg6 => Dx [] [] [0] (fun G => vb rv5) [fun G => SP.fact (True)] (fun G => xC [] ca89 (fn89 ((data.getD b.toNat 0)) ((data.getD a.toNat 0)) pre pre rv5 hg6)) ?_
 refine Dn ⟨by kernel_rfl, fun G => ?_⟩
 refine Jw2 [(1, vi a), (2, vi b), (3, swapsP), (18, vb rv5)] [0, 1] [SP.fact (True)] ?_
 refine Jk [0, 1] ?_
 refine Kc ?_ ?_
 ·intro h7
  refine KS ?_
  refine Oq Vm (Oq (Vn 1) (Oq (Vld sh3 1) (Oq Vadd (Oq (Vn 1) (Ost (Scl [1] sh3 [vi (swaps + 1)]) (KS ?_))))))
  refine Oq Vm (Oq Vm (Oq Va (Oq Va (KS ?_))))
  have hq := q4 hrr (b, a, (swaps + 1)) (by simp only [sc_order2Ordered_int, h7, hg6, cs4]); subst hq
  exact Kr () rfl (.tmp rfl (.tmp rfl .nil)) [0] en
 intro h7
 refine KS ?_
 refine Oq Vm (Oq Vm (Oq Va (Oq Va (KS ?_))))
 have hq := q4 hrr (a, b, swaps) (by simp only [sc_order2Ordered_int, h7, hg6, cs4]); subst hq
 exact Kr () rfl (.tmp rfl (.tmp rfl .nil)) [1] en
theorem fn103 (data : List Int) (dataa0 : Option Addr) (datak0 : Nat) (a : Int) (b : Int) (c : Int) (swapsP : Value) (swaps : Int) (ha_0 : i64ok a) (hb_0 : i64ok b) (hc_0 : i64ok c) (hswaps_0 : i64ok swaps) (ha0 : 0 ≤ a ∧ a < (data.length : Int) ∧ 0 ≤ b ∧ b < (data.length : Int) ∧ 0 ≤ c ∧ c < (data.length : Int)) (hs0 : 0 ≤ swaps ∧ swaps ≤ 900) (rr : Int × Int) (hrr : sc_medianOrdered_int data a b c swaps = rr) : FT Tryz.prog 103 #[vl dataa0 datak0 data, vi a, vi b, vi c, swapsP] [S dataa0 datak0 data, Cl swapsP [vi swaps]] (fun g : Unit => i64ok rr.1 ∧ i64ok rr.2 ∧ (rr.1 = a ∨ rr.1 = b ∨ rr.1 = c) ∧ (0 ≤ rr.2 ∧ rr.2 ≤ swaps + 3)) (fun g => vi rr.1) (fun g => [Cl swapsP [vi rr.2]]) := by
 refine FTi Tryz.func103 fun w0 M0 F0 => ?_
 unfold i64ok at ha_0 hb_0 hc_0 hswaps_0
 refine Fb 8 0 fun _ => Fo 0 fun ho2 => KS ?_
 refine Oq Va (KS ?_)
 refine Oq Vm (Oq Vm (Oq Vm (Oq Vm ?_)))
 refine letv (sc_order2Ordered_int data a b swaps) fun rv3 hg4 => ?_
 have hc5 := fn109 data dataa0 datak0 a b swapsP swaps pre pre pre pre pre rv3 hg4
 refine Oc [0, 1] ca109 hc5 ?_
 rintro - ⟨he6, he7, he8, he9, he10⟩
 unfold i64ok at he6 he7 he8
 refine Oq Vm (Oq Vx (Oq Vx (Oq Va (Oq Va (KS ?_)))))
 refine Oq Vm (Oq Vm (Oq Vm (Oq Vm ?_)))
 refine letv (sc_order2Ordered_int data rv3.2.1 c rv3.2.2) fun rv11 hg12 => ?_
 have hc13 := fn109 data dataa0 datak0 rv3.2.1 c swapsP rv3.2.2 pre pre pre pre pre rv11 hg12
 refine Oc [1, 0] ca109 hc13 ?_
 rintro - ⟨he14, he15, he16, he17, he18⟩
 unfold i64ok at he14 he15 he16
 refine Oq Vm (Oq Vx (Oq Vx (Oq Va (Oq Va (KS ?_)))))
 refine Oq Vm (Oq Vm (Oq Vm (Oq Vm ?_)))
 refine letv (sc_order2Ordered_int data rv3.1 rv11.1 rv11.2.2) fun rv19 hg20 => ?_
 have hc21 := fn109 data dataa0 datak0 rv3.1 rv11.1 swapsP rv11.2.2 pre pre pre pre pre rv19 hg20
 refine Oc [1, 0] ca109 hc21 ?_
 rintro - ⟨he22, he23, he24, he25, he26⟩
 unfold i64ok at he22 he23 he24
 refine Oq Vm (Oq Vx (Oq Vx (Oq Va (Oq Va (KS ?_)))))
 refine Oq Vm (Oq Va (KS ?_))
 have hq := q4 hrr (rv19.2.1, rv19.2.2) (by simp only [sc_medianOrdered_int, hg4, hg12, hg20, cs4]); subst hq
 exact Kr () rfl (.tmp rfl .nil) [0] en
theorem fn102 (data : List Int) (dataa0 : Option Addr) (datak0 : Nat) (a : Int) (swapsP : Value) (swaps : Int) (ha_0 : i64ok a) (hswaps_0 : i64ok swaps) (ha0 : 1 ≤ a ∧ a + 1 < (data.length : Int)) (hs0 : 0 ≤ swaps ∧ swaps ≤ 900) (rr : Int × Int) (hrr : sc_medianAdjacentOrdered_int data a swaps = rr) : FT Tryz.prog 102 #[vl dataa0 datak0 data, vi a, swapsP] [S dataa0 datak0 data, Cl swapsP [vi swaps]] (fun g : Unit => i64ok rr.1 ∧ i64ok rr.2 ∧ (a - 1 ≤ rr.1 ∧ rr.1 ≤ a + 1) ∧ (0 ≤ rr.2 ∧ rr.2 ≤ swaps + 3)) (fun g => vi rr.1) (fun g => [Cl swapsP [vi rr.2]]) := by
 refine FTi Tryz.func102 fun w0 M0 F0 => ?_
 unfold i64ok at ha_0 hswaps_0
 refine Fb 8 0 fun _ => Fo 0 fun ho2 => KS ?_
 refine Oq Va (KS ?_)
 refine Oq Vm (Oq Vm (Oq Vsub (Oq Vm (Oq Vm (Oq Vadd (Oq Vm ?_))))))
 refine letv (sc_medianOrdered_int data (a - 1) a (a + 1) swaps) fun rv3 hg4 => ?_
 have hc5 := fn103 data dataa0 datak0 ((a - 1)) a ((a + 1)) swapsP swaps pre pre pre pre pre pre rv3 hg4
 refine Oc [0, 1] ca103 hc5 ?_
 rintro - ⟨he6, he7, he8, he9⟩
 unfold i64ok at he6 he7
 refine Oq Va (KS ?_)
 have hq := q4 hrr (rv3.1, rv3.2) (by simp only [sc_medianAdjacentOrdered_int, hg4, cs4]); subst hq
 exact Kr () rfl (.tmp rfl .nil) [0] en
theorem fn86 (data : List Int) (dataa0 : Option Addr) (datak0 : Nat) (a : Int) (b : Int) (ha_0 : i64ok a) (hb_0 : i64ok b) (ha0 : 0 ≤ a ∧ a ≤ b ∧ b ≤ (data.length : Int) ∧ data.length ≤ 65535 ∧ 8 ≤ b - a) (rr : Int × Int) (hrr : sc_choosePivotOrdered_int data a b = rr) : FT Tryz.prog 86 #[vl dataa0 datak0 data, vi a, vi b] [S dataa0 datak0 data] (fun g : Unit => i64ok rr.1 ∧ i64ok rr.2 ∧ (a ≤ rr.1 ∧ rr.1 < b)) (fun g => .tuple #[vi rr.1, vi rr.2]) (fun g => []) := by
 refine FTi Tryz.func86 fun w0 M0 F0 => ?_
 unfold i64ok at ha_0 hb_0
 refine Fb 8 0 fun _ => Fo 0 fun ho2 => KS ?_
 refine Oq Va (Oq Va (KS ?_))
 refine Oq Vm (Oq Vm (Oq Vsub (Oq Va (KS ?_))))
 refine Oa (Al ze3 [vi 0]) fun p3 => KS ?_
 refine Oq Vm (Oq Vm (Oq Vquo (Oq Vmul (Oq Vadd (Oq Va (KS ?_))))))
 refine Oq Vm (Oq Vm (Oq Vquo (Oq Vmul (Oq Vadd (Oq Va (KS ?_))))))
 refine Oq Vm (Oq Vm (Oq Vquo (Oq Vmul (Oq Vadd (Oq Va (KS ?_))))))
 refine Oq Vm (Oq Vgeq (KS ?_))
 refine Kc ?_ ?_
 ·intro h4
  have g5 := dt h4
  refine KS ?_
  refine Oq Vm (Oq Vgeq (KS ?_))
  refine Kc ?_ ?_
  ·intro h6
   have g7 := dt h6
   refine KS ?_
   refine Oq Vm (Oq Vm ?_)
   refine letv (sc_medianAdjacentOrdered_int data (a + (((b - a) / 4) * 1)) 0) fun rv8 hg9 => ?_
   have hc10 := fn102 data dataa0 datak0 ((a + (((b - a) / 4) * 1))) p3 0 pre pre pre pre rv8 hg9
   refine Oc [1, 0] ca102 hc10 ?_
   rintro - ⟨he11, he12, he13, he14⟩
   unfold i64ok at he11 he12
   refine Oq Va (KS ?_)
   refine Oq Vm (Oq Vm ?_)
   refine letv (sc_medianAdjacentOrdered_int data (a + (((b - a) / 4) * 2)) rv8.2) fun rv15 hg16 => ?_
   have hc17 := fn102 data dataa0 datak0 ((a + (((b - a) / 4) * 2))) p3 rv8.2 pre pre pre pre rv15 hg16
   refine Oc [1, 0] ca102 hc17 ?_
   rintro - ⟨he18, he19, he20, he21⟩
   unfold i64ok at he18 he19
   refine Oq Va (KS ?_)
   refine Oq Vm (Oq Vm ?_)
   refine letv (sc_medianAdjacentOrdered_int data (a + (((b - a) / 4) * 3)) rv15.2) fun rv22 hg23 => ?_
   have hc24 := fn102 data dataa0 datak0 ((a + (((b - a) / 4) * 3))) p3 rv15.2 pre pre pre pre rv22 hg23
   refine Oc [1, 0] ca102 hc24 ?_
   rintro - ⟨he25, he26, he27, he28⟩
   unfold i64ok at he25 he26
   refine Oq Va (KS ?_)
   refine Oq Vm (Oq Vm (Oq Vm (Oq Vm ?_)))
   refine letv (sc_medianOrdered_int data rv8.1 rv15.1 rv22.1 rv22.2) fun rv29 hg30 => ?_
   have hc31 := fn103 data dataa0 datak0 rv8.1 rv15.1 rv22.1 p3 rv22.2 pre pre pre pre pre pre rv29 hg30
   refine Oc [1, 0] ca103 hc31 ?_
   rintro - ⟨he32, he33, he34, he35⟩
   unfold i64ok at he32 he33
   refine Oq Va (KS ?_)
   refine Oq (Vld sh3 0) (KS ?_)
   refine Oq Veql (Oq Va (KS ?_))
   refine Kc ?_ ?_
   ·intro h36
    have g37 := eq_of_beq h36
    refine KS ?_
    refine Oq Vm (Oq Va (Oq Va (KS ?_)))
    have hq := q4 hrr (rv29.1, 1) (by simp only [sc_choosePivotOrdered_int, h4, h6, h36, hg9, hg16, hg23, hg30, cs4]); subst hq
    exact Kr () rfl (.tmp rfl (.tmp rfl .nil)) [] ⟨en, en, (hrr ▸ cp_rng _ aM1)⟩
   intro h36
   have g38 := ne_of_beq_false h36
   refine KS ?_
   refine Oq Veql (Oq Va (KS ?_))
   refine Kc ?_ ?_
   ·intro h39
    have g40 := eq_of_beq h39
    refine KS ?_
    refine Oq Vm (Oq Va (Oq Va (KS ?_)))
    have hq := q4 hrr (rv29.1, 2) (by simp only [sc_choosePivotOrdered_int, h4, h6, h36, h39, hg9, hg16, hg23, hg30, cs4]); subst hq
    exact Kr () rfl (.tmp rfl (.tmp rfl .nil)) [] ⟨en, en, (hrr ▸ cp_rng _ aM1)⟩
   intro h39
   have g41 := ne_of_beq_false h39
   refine KS ?_
   refine Oq Vm (Oq Va (Oq Va (KS ?_)))
   have hq := q4 hrr (rv29.1, 0) (by simp only [sc_choosePivotOrdered_int, h4, h6, h36, h39, hg9, hg16, hg23, hg30, cs4]); subst hq
   exact Kr () rfl (.tmp rfl (.tmp rfl .nil)) [] ⟨en, en, (hrr ▸ cp_rng _ aM1)⟩
  intro h6
  have g42 := df h6
  refine KS ?_
  refine Oq Vm (Oq Vm (Oq Vm (Oq Vm ?_)))
  refine letv (sc_medianOrdered_int data (a + (((b - a) / 4) * 1)) (a + (((b - a) / 4) * 2)) (a + (((b - a) / 4) * 3)) 0) fun rv43 hg44 => ?_
  have hc45 := fn103 data dataa0 datak0 ((a + (((b - a) / 4) * 1))) ((a + (((b - a) / 4) * 2))) ((a + (((b - a) / 4) * 3))) p3 0 pre pre pre pre pre pre rv43 hg44
  refine Oc [1, 0] ca103 hc45 ?_
  rintro - ⟨he46, he47, he48, he49⟩
  unfold i64ok at he46 he47
  refine Oq Va (KS ?_)
  refine Oq (Vld sh3 0) (KS ?_)
  refine Oq Veql (Oq Va (KS ?_))
  refine Kc ?_ ?_
  ·intro h50
   have g51 := eq_of_beq h50
   refine KS ?_
   refine Oq Vm (Oq Va (Oq Va (KS ?_)))
   have hq := q4 hrr (rv43.1, 1) (by simp only [sc_choosePivotOrdered_int, h4, h6, h50, hg44, cs4]); subst hq
   exact Kr () rfl (.tmp rfl (.tmp rfl .nil)) [] ⟨en, en, (hrr ▸ cp_rng _ aM1)⟩
  intro h50
  have g52 := ne_of_beq_false h50
  refine KS ?_
  refine Oq Veql (Oq Va (KS ?_))
  refine Kc ?_ ?_
  ·intro h53
   have g54 := eq_of_beq h53
   refine KS ?_
   refine Oq Vm (Oq Va (Oq Va (KS ?_)))
   have hq := q4 hrr (rv43.1, 2) (by simp only [sc_choosePivotOrdered_int, h4, h6, h50, h53, hg44, cs4]); subst hq
   exact Kr () rfl (.tmp rfl (.tmp rfl .nil)) [] ⟨en, en, (hrr ▸ cp_rng _ aM1)⟩
  intro h53
  have g55 := ne_of_beq_false h53
  refine KS ?_
  refine Oq Vm (Oq Va (Oq Va (KS ?_)))
  have hq := q4 hrr (rv43.1, 0) (by simp only [sc_choosePivotOrdered_int, h4, h6, h50, h53, hg44, cs4]); subst hq
  exact Kr () rfl (.tmp rfl (.tmp rfl .nil)) [] ⟨en, en, (hrr ▸ cp_rng _ aM1)⟩
 intro h4
 have g56 := df h4
 refine KS ?_
 refine Oq (Vld sh3 0) (KS ?_)
 refine Oq Veql (Oq Va (KS ?_))
 refine Kt (KS ?_)
 refine Oq Vm (Oq Va (Oq Va (KS ?_)))
 have hq := q4 hrr ((a + (((b - a) / 4) * 2)), 1) (by simp only [sc_choosePivotOrdered_int, h4, cs4]); subst hq
 exact Kr () rfl (.tmp rfl (.tmp rfl .nil)) [] ⟨en, en, (hrr ▸ cp_rng _ aM1)⟩
theorem fn87 (data : List Int) (dataa0 : Option Addr) (datak0 : Nat) (a : Int) (b : Int) (ha_0 : i64ok a) (hb_0 : i64ok b) (ha0 : 0 ≤ a ∧ a ≤ b ∧ b ≤ (data.length : Int) ∧ data.length ≤ 65535) (rr : List Int) (hrr : sc_reverseRangeOrdered_int data a b = rr) : FT Tryz.prog 87 #[vl dataa0 datak0 data, vi a, vi b] [O dataa0 datak0 data] (fun g : Unit => (rr.length = data.length)) (fun g => .tuple #[]) (fun g => [os (vl dataa0 datak0 data) rr]) := by
 refine FTi Tryz.func87 fun w0 M0 F0 => ?_
 unfold i64ok at ha_0 hb_0
 refine Fb 8 0 fun _ => Fo 0 fun ho2 => KS ?_
 refine Oq Vm (Oq Va (KS ?_))
 refine Oq Vm (Oq Vsub (Oq Va (KS ?_)))
 have hterm11 : sc_reverseRangeOrdered_int_L0 ((b - a).toNat + 1) data a (b - 1) ≠ LR.oof := (rev_t _ _ _ _ aM1 aM1)
 refine Kl (γ := Nat × List Int × Int × Int) (fun (r3, data_4, i_5, j_6) => ⟨[(0, vl dataa0 datak0 data), (6, vi i_5), (7, vi j_6)], [os (vl dataa0 datak0 data) data_4], sc_reverseRangeOrdered_int_L0 r3 data_4 i_5 j_6 = sc_reverseRangeOrdered_int_L0 ((b - a).toNat + 1) data a (b - 1) ∧ (-9223372036854775808 ≤ i_5 ∧ i_5 ≤ 9223372036854775807) ∧ (-9223372036854775808 ≤ j_6 ∧ j_6 ≤ 9223372036854775807) ∧ (a ≤ i_5 ∧ j_6 < b ∧ -1 ≤ j_6), r3⟩) (((b - a).toNat + 1), data, a, (b - 1)) [0] ⟨rfl, aM1, aM1, iv0⟩ ?_
 rintro ⟨r3, data_4, i_5, j_6⟩ ⟨hM7, hk8, hk9, hv10⟩
 refine JJ_nx fun _ _ hL hA => ?_; dsimp only at hL hA; subst hL hA
 refine Fb 8 0 fun _ => Fo 0 fun ho13 => Fl 0 fun hn14 => ?_
 rcases r3 with _ | r3
 ·exact absurd (hM7.symm.trans rfl) hterm11
 refine KS ?_
 refine Oq Vm (Oq Vm (Oq Vlss (KS ?_)))
 refine Kc ?_ ?_
 ·intro h15
  have g16 := dt h15
  refine KS ?_
  refine JK_drawK [0, 0, 0, 0, 0, 0, 48, 112, 0, 0, 768, 1792, 4083, 8179, 16383, 32767] fmix ?_
  refine Dv [] Vm (Dv [] Vm (Dv [] Vm (Dv [] Vm (Dv [] Vm (Dv [] Vm (Dv [0] (Vi sl22 0) ?_))))))
  have hb17 := ok1 (i := j_6.toNat) ho13 rng
  refine Dv [0] (VldI sh3 0) (Dv [] Vm (Dv [] Vm (Dv [0] (Vi sl22 0) ?_)))
  have hb18 := ok1 (i := i_5.toNat) ho13 rng
  refine Dv [0] (VldI sh3 0) (Dv [0] (Vi sl22 0) (Dx0 [0] [0] [0] [fun G => os (vl dataa0 datak0 data) (data_4.set i_5.toNat (data_4.getD j_6.toNat 0))] (fun G => xS (SoI [0] sh3)) (Dv [1] (Vi sl22 0) (Dx0 [1] [1] [0] [fun G => os (vl dataa0 datak0 data) ((data_4.set i_5.toNat (data_4.getD j_6.toNat 0)).set j_6.toNat (data_4.getD i_5.toNat 0))] (fun G => xS (SoI [0] sh3)) ?_))))
  refine Dn ⟨by kernel_rfl, fun G => ?_⟩
  refine Jw2 [(0, vl dataa0 datak0 data), (6, vi i_5), (7, vi j_6)] [] [os (vl dataa0 datak0 data) ((data_4.set i_5.toNat (data_4.getD j_6.toNat 0)).set j_6.toNat (data_4.getD i_5.toNat 0))] ?_
  refine KS ?_
  refine Oq Vm (Oq Vadd (Oq Va (KS ?_)))
  refine Oq Vm (Oq Vsub (Oq Va (KS ?_)))
  exact Kg (r3, ((data_4.set i_5.toNat (data_4.getD j_6.toNat 0)).set j_6.toNat (data_4.getD i_5.toNat 0)), (i_5 + 1), (j_6 - 1)) [0] ⟨(q3 hM7 (by simp only [sc_reverseRangeOrdered_int_L0, h15, cs4])), aM1, aM1, iv1⟩
 intro h15
 have g19 := df h15
 refine Ke ?_
 have hR20 := q2 hM7 (.brk data_4) (by simp only [sc_reverseRangeOrdered_int_L0, h15, cs4])
 refine Fl 0 fun hn21 => ?_
 have hq := q4 hrr data_4 (by simp only [sc_reverseRangeOrdered_int, h15, hR20, cs4]); subst hq
 exact Kz () rfl .nil [0] en
theorem fn88 (data : List Int) (dataa0 : Option Addr) (datak0 : Nat) (a : Int) (b : Int) (ha_0 : i64ok a) (hb_0 : i64ok b) (ha0 : 0 ≤ a ∧ a ≤ b ∧ b ≤ (data.length : Int) ∧ data.length ≤ 65535 ∧ 1 ≤ b - a) (rr : Bool × List Int) (hrr : sc_partialInsertionSortOrdered_int data a b = rr) : FT Tryz.prog 88 #[vl dataa0 datak0 data, vi a, vi b] [O dataa0 datak0 data] (fun g : Unit => (rr.2.length = data.length)) (fun g => vb rr.1) (fun g => [os (vl dataa0 datak0 data) rr.2]) := by
 refine FTi Tryz.func88 fun w0 M0 F0 => ?_
 unfold i64ok at ha_0 hb_0
 refine Fb 8 0 fun _ => Fo 0 fun ho2 => KS ?_
 refine Oq Va (KS ?_)
 refine Oq Vm (Oq Vadd (Oq Va (KS ?_)))
 refine Oq Va (KS ?_)
 refine Kl (γ := Nat × List Int × Int × Int) (fun (r3, data_4, i_5, j_6) => ⟨[(0, vl dataa0 datak0 data), (1, vi a), (2, vi b), (7, vi i_5), (8, vi j_6)], [os (vl dataa0 datak0 data) data_4], sc_partialInsertionSortOrdered_int_L0 data a b r3 data_4 i_5 j_6 = sc_partialInsertionSortOrdered_int_L0 data a b 5 data (a + 1) 0 ∧ r3 = ((5 : Int) - j_6).toNat ∧ (0 : Int) ≤ j_6 ∧ j_6 ≤ 5 ∧ (-9223372036854775808 ≤ i_5 ∧ i_5 ≤ 9223372036854775807) ∧ (-9223372036854775808 ≤ j_6 ∧ j_6 ≤ 9223372036854775807) ∧ (a < i_5 ∧ i_5 ≤ b), r3⟩) (5, data, (a + 1), 0) [0] ⟨rfl, rfl, aM1, aM1, aM1, aM1, iv0⟩ ?_
 rintro ⟨r3, data_4, i_5, j_6⟩ ⟨hM7, hr8, hi9, hi10, hk11, hk12, hv13⟩
 refine JJ_nx fun _ _ hL hA => ?_; dsimp only at hL hA; subst hL hA
 refine Fb 8 0 fun _ => Fo 0 fun ho15 => Fl 0 fun hn16 => ?_
 refine KS ?_
 refine Oq Vm (Oq Vlss (KS ?_))
 refine Kc ?_ ?_
 ·intro h17
  have g18 := dt h17
  obtain ⟨r19, rfl⟩ := scc (n := r3) aM1
  refine KS ?_
  refine KjD (γ := Int) (fun i_21 => ⟨[(0, vl dataa0 datak0 data), (1, vi a), (2, vi b), (7, vi i_21), (8, vi j_6)], [os (vl dataa0 datak0 data) data_4], sc_partialInsertionSortOrdered_int_L1 data_4 (((b : Int) - i_5).toNat) i_5 = i_21 ∧ (i_5 : Int) ≤ i_21 ∧ (i_21 ≤ b ∨ i_21 = i_5) ∧ (-9223372036854775808 ≤ i_21 ∧ i_21 ≤ 9223372036854775807), 0⟩) ?_ ?_
  ·skip
   refine Kl (γ := Nat × Int) (fun (r20, i_21) => ⟨[(0, vl dataa0 datak0 data), (1, vi a), (2, vi b), (7, vi i_21), (8, vi j_6)], [os (vl dataa0 datak0 data) data_4], sc_partialInsertionSortOrdered_int_L1 data_4 r20 i_21 = sc_partialInsertionSortOrdered_int_L1 data_4 (((b : Int) - i_5).toNat) i_5 ∧ r20 = ((b : Int) - i_21).toNat ∧ (i_5 : Int) ≤ i_21 ∧ (i_21 ≤ b ∨ i_21 = i_5) ∧ (-9223372036854775808 ≤ i_21 ∧ i_21 ≤ 9223372036854775807), r20⟩) (((b : Int) - i_5).toNat, i_5) [0] ⟨rfl, rfl, aM1, (.inr rfl), aM1⟩ ?_
   rintro ⟨r20, i_21⟩ ⟨hM22, hr23, hi24, hi25, hk26⟩
   refine JJ_nx fun _ _ hL hA => ?_; dsimp only at hL hA; subst hL hA
   refine Fb 8 0 fun _ => Fo 0 fun ho29 => Fl 0 fun hn30 => ?_
   refine KS ?_
   refine JK_drawK [0, 0, 3, 7, 15, 15, 63, 127, 15, 15, 527, 1807, 3855, 8191, 16383, 32767] fmix ?_
   refine Dv [] Vm (Dv [] Vm (Dv [] Vlss ?_))
   refine bool_split (decide (i_21 < b)) ?_ ?_
   ·intro h31
    have g32 := dt h31
    obtain ⟨r33, rfl⟩ := scc (n := r20) aM1
    refine Db h31 [] Vm (Dv [] Vm (Dv [] Vm (Dv [0] (Vi sl22 0) ?_)))
    have hb34 := ok1 (i := i_21.toNat) ho29 rng
    refine Dv [0] (VldI sh3 0) (Dv [] Vm (Dv [] Vm (Dv [] Vsub (Dv [0] (Vi sl22 0) ?_))))
    have hb35 := ok1 (i := ((i_21 - 1) : Int).toNat) ho29 rng
    refine Dv [0] (VldI sh3 0) ?_
    refine letv (cmp_Less_int (data_4.getD i_21.toNat 0) (data_4.getD ((i_21 - 1) : Int).toNat 0)) fun rv36 hg37 => ?_
    refine Dx [] [] [0] (fun G => vb rv36) [fun G => SP.fact (True)] (fun G => xC [] ca89 (fn89 ((data_4.getD i_21.toNat 0)) ((data_4.getD ((i_21 - 1) : Int).toNat 0)) pre pre rv36 hg37)) (Dv [] Vnot (Dv [] Vpt ?_))
    refine Dn ⟨by kernel_rfl, fun G => ?_⟩
    refine Jw2 [(0, vl dataa0 datak0 data), (1, vi a), (2, vi b), (7, vi i_21), (8, vi j_6), (32, vb (!rv36))] [0] [SP.fact (True)] ?_
    refine Jk [0] ?_
    refine Kc ?_ ?_
    ·intro h38
     have h40 := not_true h38
     refine KS ?_
     refine Oq Vm (Oq Vadd (Oq Va (KS ?_)))
     exact Kg (r33, (i_21 + 1)) [0] ⟨(q3 hM22 (by simp only [sc_partialInsertionSortOrdered_int_L1, h31, h38, h40, hg37, cs4])), aM1, aM1, aM1, aM1⟩
    intro h38
    have h43 := not_false h38
    refine Ke ?_
    have hR45 := q2 hM22 i_21 (by simp only [sc_partialInsertionSortOrdered_int_L1, h31, h38, h43, hg37, cs4])
    exact Kg i_21 [0] ⟨(by assumption), (by first | assumption | omega), (by first | assumption | omega), (by first | assumption | omega)⟩
   intro h31
   have g46 := df h31
   obtain rfl : r20 = 0 := by omega
   refine Db h31 [] Vm (Ds (Ds (Ds (Ds (Ds (Ds (Ds (Ds (Ds ?_)))))))))
   refine Ds (Ds (Dv [] Vpf ?_))
   refine Dn ⟨by kernel_rfl, fun G => ?_⟩
   refine Jw2 [(0, vl dataa0 datak0 data), (1, vi a), (2, vi b), (7, vi i_21), (8, vi j_6), (32, vb false)] [0] [] ?_
   refine Kf ?_
   refine Ke ?_
   have hR47 := q2 hM22 i_21 (by simp only [sc_partialInsertionSortOrdered_int_L1, h31, cs4])
   exact Kg i_21 [0] ⟨(by assumption), (by first | assumption | omega), (by first | assumption | omega), (by first | assumption | omega)⟩
  rintro i_21 ⟨hR27, hi24, hi25, hk26⟩
  refine JJ_nx fun _ _ hL hA => ?_; dsimp only at hL hA; subst hL hA
  refine Fb 8 0 fun _ => Fo 0 fun ho49 => Fl 0 fun hn50 => ?_
  refine KS ?_
  refine Oq Vm (Oq Vm (Oq Veql (KS ?_)))
  refine Kc ?_ ?_
  ·intro h51
   have g52 := eq_of_beq h51
   refine KS ?_
   refine Oq Va (KS ?_)
   refine Fl 0 fun hn53 => ?_
   have hR54 := q2 hM7 (.ret (true, data_4)) (by simp only [sc_partialInsertionSortOrdered_int_L0, h17, h51, hR27, cs4])
   have hq := q4 hrr (true, data_4) (by simp only [sc_partialInsertionSortOrdered_int, h17, h51, hR27, hR54, cs4]); subst hq
   exact Kr () rfl (.tmp rfl .nil) [0] en
  intro h51
  have g55 := ne_of_beq_false h51
  refine KS ?_
  refine Oq Vm (Oq Vm (Oq Vsub (Oq Vlss (KS ?_))))
  refine Kc ?_ ?_
  ·intro h56
   have g57 := dt h56
   refine KS ?_
   refine Oq Va (KS ?_)
   refine Fl 0 fun hn58 => ?_
   have hR59 := q2 hM7 (.ret (false, data_4)) (by simp only [sc_partialInsertionSortOrdered_int_L0, h17, h51, h56, hR27, cs4])
   have hq := q4 hrr (false, data_4) (by simp only [sc_partialInsertionSortOrdered_int, h17, h51, h56, hR27, hR59, cs4]); subst hq
   exact Kr () rfl (.tmp rfl .nil) [0] en
  intro h56
  have g60 := df h56
  refine KS ?_
  refine JK_drawK [0, 0, 0, 0, 8, 0, 0, 64, 224, 480, 0, 0, 3072, 7168, 16355, 32739, 65535, 131071] fmix ?_
  refine Dv [] Vm (Dv [] Vm (Dv [] Vm (Dv [] Vm (Dv [] Vsub (Dv [] Vm (Dv [] Vm (Dv [] Vsub (Dv [0] (Vi sl22 0) ?_))))))))
  have hb61 := ok1 (i := ((i_21 - 1) : Int).toNat) ho49 rng
  refine Dv [0] (VldI sh3 0) (Dv [] Vm (Dv [] Vm (Dv [0] (Vi sl22 0) ?_)))
  have hb62 := ok1 (i := i_21.toNat) ho49 rng
  refine Dv [0] (VldI sh3 0) (Dv [0] (Vi sl22 0) (Dx0 [0] [0] [0] [fun G => os (vl dataa0 datak0 data) (data_4.set i_21.toNat (data_4.getD ((i_21 - 1) : Int).toNat 0))] (fun G => xS (SoI [0] sh3)) (Dv [1] (Vi sl22 0) (Dx0 [1] [1] [0] [fun G => os (vl dataa0 datak0 data) ((data_4.set i_21.toNat (data_4.getD ((i_21 - 1) : Int).toNat 0)).set ((i_21 - 1) : Int).toNat (data_4.getD i_21.toNat 0))] (fun G => xS (SoI [0] sh3)) ?_))))
  refine Dn ⟨by kernel_rfl, fun G => ?_⟩
  refine Jw2 [(0, vl dataa0 datak0 data), (1, vi a), (2, vi b), (7, vi i_21), (8, vi j_6)] [] [os (vl dataa0 datak0 data) ((data_4.set i_21.toNat (data_4.getD ((i_21 - 1) : Int).toNat 0)).set ((i_21 - 1) : Int).toNat (data_4.getD i_21.toNat 0))] ?_
  refine KS ?_
  refine Oq Vm (Oq Vm (Oq Vsub (Oq Vgeq (KS ?_))))
  refine Kc ?_ ?_
  ·intro h63
   have g64 := dt h63
   refine KS ?_
   refine Oq Vm (Oq Vsub (Oq Va (KS ?_)))
   have hterm71 : sc_partialInsertionSortOrdered_int_L2 (data.length + 1) ((data_4.set i_21.toNat (data_4.getD ((i_21 - 1) : Int).toNat 0)).set ((i_21 - 1) : Int).toNat (data_4.getD i_21.toNat 0)) (i_21 - 1) ≠ LR.oof := (pin2_t _ _ _ aM1 aM1)
   refine KjD (γ := List Int × Int) (fun (data_66, j_67) => ⟨[(0, vl dataa0 datak0 data), (1, vi a), (2, vi b), (7, vi i_21), (8, vi j_6)], [os (vl dataa0 datak0 data) data_66], sc_partialInsertionSortOrdered_int_L2 (data.length + 1) ((data_4.set i_21.toNat (data_4.getD ((i_21 - 1) : Int).toNat 0)).set ((i_21 - 1) : Int).toNat (data_4.getD i_21.toNat 0)) (i_21 - 1) = .brk data_66 ∧ (-9223372036854775808 ≤ j_67 ∧ j_67 ≤ 9223372036854775807) ∧ (0 ≤ j_67 ∧ j_67 ≤ b - 1), 0⟩) ?_ ?_
   ·skip
    refine Kl (γ := Nat × List Int × Int) (fun (r65, data_66, j_67) => ⟨[(0, vl dataa0 datak0 data), (1, vi a), (2, vi b), (7, vi i_21), (8, vi j_6), (9, vi j_67)], [os (vl dataa0 datak0 data) data_66], sc_partialInsertionSortOrdered_int_L2 r65 data_66 j_67 = sc_partialInsertionSortOrdered_int_L2 (data.length + 1) ((data_4.set i_21.toNat (data_4.getD ((i_21 - 1) : Int).toNat 0)).set ((i_21 - 1) : Int).toNat (data_4.getD i_21.toNat 0)) (i_21 - 1) ∧ (-9223372036854775808 ≤ j_67 ∧ j_67 ≤ 9223372036854775807) ∧ (0 ≤ j_67 ∧ j_67 ≤ b - 1), r65⟩) ((data.length + 1), ((data_4.set i_21.toNat (data_4.getD ((i_21 - 1) : Int).toNat 0)).set ((i_21 - 1) : Int).toNat (data_4.getD i_21.toNat 0)), (i_21 - 1)) [0] ⟨rfl, aM1, iv0⟩ ?_
    rintro ⟨r65, data_66, j_67⟩ ⟨hM68, hk69, hv70⟩
    refine JJ_nx fun _ _ hL hA => ?_; dsimp only at hL hA; subst hL hA
    refine Fb 8 0 fun _ => Fo 0 fun ho74 => Fl 0 fun hn75 => ?_
    rcases r65 with _ | r65
    ·exact absurd (hM68.symm.trans rfl) hterm71
    refine KS ?_
    refine Oq Vm (Oq Vgeq (KS ?_))
    refine Kc ?_ ?_
    ·intro h76
     have g77 := dt h76
     refine KS ?_
     refine JK_drawK [0, 0, 3, 7, 0, 0, 32, 112, 240, 511, 1023] fmix ?_
     refine Dv [] Vm (Dv [] Vm (Dv [0] (Vi sl22 0) ?_))
     have hb78 := ok1 (i := j_67.toNat) ho74 rng
     refine Dv [0] (VldI sh3 0) (Dv [] Vm (Dv [] Vm (Dv [] Vsub (Dv [0] (Vi sl22 0) ?_))))
     have hb79 := ok1 (i := ((j_67 - 1) : Int).toNat) ho74 rng
     refine Dv [0] (VldI sh3 0) ?_
     refine letv (cmp_Less_int (data_66.getD j_67.toNat 0) (data_66.getD ((j_67 - 1) : Int).toNat 0)) fun rv80 hg81 => ?_
     refine Dx [] [] [0] (fun G => vb rv80) [fun G => SP.fact (True)] (fun G => xC [] ca89 (fn89 ((data_66.getD j_67.toNat 0)) ((data_66.getD ((j_67 - 1) : Int).toNat 0)) pre pre rv80 hg81)) (Dv [] Vnot ?_)
     refine Dn ⟨by kernel_rfl, fun G => ?_⟩
     refine Jw2 [(0, vl dataa0 datak0 data), (1, vi a), (2, vi b), (7, vi i_21), (8, vi j_6), (9, vi j_67), (78, vb (!rv80))] [0] [SP.fact (True)] ?_
     refine Jk [0] ?_
     refine Kc ?_ ?_
     ·intro h82
      have h84 := not_true h82
      refine Ke ?_
      have hR86 := q2 hM68 (.brk data_66) (by simp only [sc_partialInsertionSortOrdered_int_L2, h76, h82, h84, hg81, cs4])
      exact Kg (data_66, j_67) [0] ⟨(by assumption), (by first | assumption | omega), (by first | assumption | omega)⟩
     intro h82
     have h88 := not_false h82
     refine KS ?_
     refine JK_drawK [0, 0, 0, 0, 8, 0, 0, 64, 224, 480, 0, 0, 3072, 7168, 16355, 32739, 65535, 131071] fmix ?_
     refine Dv [] Vm (Dv [] Vm (Dv [] Vm (Dv [] Vm (Dv [] Vsub (Dv [] Vm (Dv [] Vm (Dv [] Vsub (Dv [0] (Vi sl22 0) ?_))))))))
     have hb90 := ok1 (i := ((j_67 - 1) : Int).toNat) ho74 rng
     refine Dv [0] (VldI sh3 0) (Dv [] Vm (Dv [] Vm (Dv [0] (Vi sl22 0) ?_)))
     have hb91 := ok1 (i := j_67.toNat) ho74 rng
     refine Dv [0] (VldI sh3 0) (Dv [0] (Vi sl22 0) (Dx0 [0] [0] [0] [fun G => os (vl dataa0 datak0 data) (data_66.set j_67.toNat (data_66.getD ((j_67 - 1) : Int).toNat 0))] (fun G => xS (SoI [0] sh3)) (Dv [1] (Vi sl22 0) (Dx0 [1] [1] [0] [fun G => os (vl dataa0 datak0 data) ((data_66.set j_67.toNat (data_66.getD ((j_67 - 1) : Int).toNat 0)).set ((j_67 - 1) : Int).toNat (data_66.getD j_67.toNat 0))] (fun G => xS (SoI [0] sh3)) ?_))))
     refine Dn ⟨by kernel_rfl, fun G => ?_⟩
     refine Jw2 [(0, vl dataa0 datak0 data), (1, vi a), (2, vi b), (7, vi i_21), (8, vi j_6), (9, vi j_67)] [] [os (vl dataa0 datak0 data) ((data_66.set j_67.toNat (data_66.getD ((j_67 - 1) : Int).toNat 0)).set ((j_67 - 1) : Int).toNat (data_66.getD j_67.toNat 0))] ?_
     refine KS ?_
     refine Oq Vm (Oq Vsub (Oq Va (KS ?_)))
     exact Kg (r65, ((data_66.set j_67.toNat (data_66.getD ((j_67 - 1) : Int).toNat 0)).set ((j_67 - 1) : Int).toNat (data_66.getD j_67.toNat 0)), (j_67 - 1)) [0] ⟨(q3 hM68 (by simp only [sc_partialInsertionSortOrdered_int_L2, h76, h82, h88, hg81, cs4])), aM1, iv1⟩
    intro h76
    have g92 := df h76
    refine Ke ?_
    have hR93 := q2 hM68 (.brk data_66) (by simp only [sc_partialInsertionSortOrdered_int_L2, h76, cs4])
    exact Kg (data_66, j_67) [0] ⟨(by assumption), (by first | assumption | omega), (by first | assumption | omega)⟩
   rintro ⟨data_66, j_67⟩ ⟨hR72, hk69, hv70⟩
   refine JJ_nx fun _ _ hL hA => ?_; dsimp only at hL hA; subst hL hA
   refine Fb 8 0 fun _ => Fo 0 fun ho95 => Fl 0 fun hn96 => ?_
   refine KS ?_
   refine Oq Vm (Oq Vm (Oq Vsub (Oq Vgeq (KS ?_))))
   refine Kc ?_ ?_
   ·intro h97
    have g98 := dt h97
    refine KS ?_
    refine Oq Vm (Oq Vadd (Oq Va (KS ?_)))
    refine KjD (γ := List Int × Int) (fun (data_100, j_101) => ⟨[(0, vl dataa0 datak0 data), (1, vi a), (2, vi b), (7, vi i_21), (8, vi j_6)], [os (vl dataa0 datak0 data) data_100], sc_partialInsertionSortOrdered_int_L3 (((b : Int) - (i_21 + 1)).toNat) data_66 (i_21 + 1) = data_100 ∧ ((i_21 + 1) : Int) ≤ j_101 ∧ (j_101 ≤ b ∨ j_101 = (i_21 + 1)) ∧ (-9223372036854775808 ≤ j_101 ∧ j_101 ≤ 9223372036854775807), 0⟩) ?_ ?_
    ·skip
     refine Kl (γ := Nat × List Int × Int) (fun (r99, data_100, j_101) => ⟨[(0, vl dataa0 datak0 data), (1, vi a), (2, vi b), (7, vi i_21), (8, vi j_6), (10, vi j_101)], [os (vl dataa0 datak0 data) data_100], sc_partialInsertionSortOrdered_int_L3 r99 data_100 j_101 = sc_partialInsertionSortOrdered_int_L3 (((b : Int) - (i_21 + 1)).toNat) data_66 (i_21 + 1) ∧ r99 = ((b : Int) - j_101).toNat ∧ ((i_21 + 1) : Int) ≤ j_101 ∧ (j_101 ≤ b ∨ j_101 = (i_21 + 1)) ∧ (-9223372036854775808 ≤ j_101 ∧ j_101 ≤ 9223372036854775807), r99⟩) (((b : Int) - (i_21 + 1)).toNat, data_66, (i_21 + 1)) [0] ⟨rfl, rfl, aM1, (.inr rfl), aM1⟩ ?_
     rintro ⟨r99, data_100, j_101⟩ ⟨hM102, hr103, hi104, hi105, hk106⟩
     refine JJ_nx fun _ _ hL hA => ?_; dsimp only at hL hA; subst hL hA
     refine Fb 8 0 fun _ => Fo 0 fun ho109 => Fl 0 fun hn110 => ?_
     refine KS ?_
     refine Oq Vm (Oq Vm (Oq Vlss (KS ?_)))
     refine Kc ?_ ?_
     ·intro h111
      have g112 := dt h111
      obtain ⟨r113, rfl⟩ := scc (n := r99) aM1
      refine KS ?_
      refine JK_drawK [0, 0, 3, 7, 0, 0, 32, 112, 240, 511, 1023] fmix ?_
      refine Dv [] Vm (Dv [] Vm (Dv [0] (Vi sl22 0) ?_))
      have hb114 := ok1 (i := j_101.toNat) ho109 rng
      refine Dv [0] (VldI sh3 0) (Dv [] Vm (Dv [] Vm (Dv [] Vsub (Dv [0] (Vi sl22 0) ?_))))
      have hb115 := ok1 (i := ((j_101 - 1) : Int).toNat) ho109 rng
      refine Dv [0] (VldI sh3 0) ?_
      refine letv (cmp_Less_int (data_100.getD j_101.toNat 0) (data_100.getD ((j_101 - 1) : Int).toNat 0)) fun rv116 hg117 => ?_
      refine Dx [] [] [0] (fun G => vb rv116) [fun G => SP.fact (True)] (fun G => xC [] ca89 (fn89 ((data_100.getD j_101.toNat 0)) ((data_100.getD ((j_101 - 1) : Int).toNat 0)) pre pre rv116 hg117)) (Dv [] Vnot ?_)
      refine Dn ⟨by kernel_rfl, fun G => ?_⟩
      refine Jw2 [(0, vl dataa0 datak0 data), (1, vi a), (2, vi b), (7, vi i_21), (8, vi j_6), (10, vi j_101), (116, vb (!rv116))] [0] [SP.fact (True)] ?_
      refine Jk [0] ?_
      refine Kc ?_ ?_
      ·intro h118
       have h120 := not_true h118
       refine Ke ?_
       have hR122 := q2 hM102 data_100 (by simp only [sc_partialInsertionSortOrdered_int_L3, h111, h118, h120, hg117, cs4])
       exact Kg (data_100, j_101) [0] ⟨(by assumption), (by first | assumption | omega), (by first | assumption | omega), (by first | assumption | omega)⟩
      intro h118
      have h124 := not_false h118
      refine KS ?_
      refine JK_drawK [0, 0, 0, 0, 8, 0, 0, 64, 224, 480, 0, 0, 3072, 7168, 16355, 32739, 65535, 131071] fmix ?_
      refine Dv [] Vm (Dv [] Vm (Dv [] Vm (Dv [] Vm (Dv [] Vsub (Dv [] Vm (Dv [] Vm (Dv [] Vsub (Dv [0] (Vi sl22 0) ?_))))))))
      have hb126 := ok1 (i := ((j_101 - 1) : Int).toNat) ho109 rng
      refine Dv [0] (VldI sh3 0) (Dv [] Vm (Dv [] Vm (Dv [0] (Vi sl22 0) ?_)))
      have hb127 := ok1 (i := j_101.toNat) ho109 rng
      refine Dv [0] (VldI sh3 0) (Dv [0] (Vi sl22 0) (Dx0 [0] [0] [0] [fun G => os (vl dataa0 datak0 data) (data_100.set j_101.toNat (data_100.getD ((j_101 - 1) : Int).toNat 0))] (fun G => xS (SoI [0] sh3)) (Dv [1] (Vi sl22 0) (Dx0 [1] [1] [0] [fun G => os (vl dataa0 datak0 data) ((data_100.set j_101.toNat (data_100.getD ((j_101 - 1) : Int).toNat 0)).set ((j_101 - 1) : Int).toNat (data_100.getD j_101.toNat 0))] (fun G => xS (SoI [0] sh3)) ?_))))
      refine Dn ⟨by kernel_rfl, fun G => ?_⟩
      refine Jw2 [(0, vl dataa0 datak0 data), (1, vi a), (2, vi b), (7, vi i_21), (8, vi j_6), (10, vi j_101)] [] [os (vl dataa0 datak0 data) ((data_100.set j_101.toNat (data_100.getD ((j_101 - 1) : Int).toNat 0)).set ((j_101 - 1) : Int).toNat (data_100.getD j_101.toNat 0))] ?_
      refine KS ?_
      refine Oq Vm (Oq Vadd (Oq Va (KS ?_)))
      exact Kg (r113, ((data_100.set j_101.toNat (data_100.getD ((j_101 - 1) : Int).toNat 0)).set ((j_101 - 1) : Int).toNat (data_100.getD j_101.toNat 0)), (j_101 + 1)) [0] ⟨(q3 hM102 (by simp only [sc_partialInsertionSortOrdered_int_L3, h111, h118, h124, hg117, cs4])), aM1, aM1, aM1, aM1⟩
     intro h111
     have g128 := df h111
     obtain rfl : r99 = 0 := by omega
     refine Ke ?_
     have hR129 := q2 hM102 data_100 (by simp only [sc_partialInsertionSortOrdered_int_L3, h111, cs4])
     exact Kg (data_100, j_101) [0] ⟨(by assumption), (by first | assumption | omega), (by first | assumption | omega), (by first | assumption | omega)⟩
    rintro ⟨data_100, j_101⟩ ⟨hR107, hi104, hi105, hk106⟩
    refine JJ_nx fun _ _ hL hA => ?_; dsimp only at hL hA; subst hL hA
    refine Fb 8 0 fun _ => Fo 0 fun ho131 => Fl 0 fun hn132 => ?_
    refine KS ?_
    refine Oq Vm (Oq Vadd (Oq Va (KS ?_)))
    exact Kg (r19, data_100, i_21, (j_6 + 1)) [0] ⟨(q3 hM7 (by simp only [sc_partialInsertionSortOrdered_int_L0, h17, h51, h56, h63, h97, hR27, hR72, hR107, cs4])), aM1, aM1, aM1, aM1, aM1, iv1⟩
   intro h97
   have g133 := df h97
   refine KS ?_
   refine Oq Vm (Oq Vadd (Oq Va (KS ?_)))
   exact Kg (r19, data_66, i_21, (j_6 + 1)) [0] ⟨(q3 hM7 (by simp only [sc_partialInsertionSortOrdered_int_L0, h17, h51, h56, h63, h97, hR27, hR72, cs4])), aM1, aM1, aM1, aM1, aM1, iv1⟩
  intro h63
  have g134 := df h63
  refine KS ?_
  refine Oq Vm (Oq Vm (Oq Vsub (Oq Vgeq (KS ?_))))
  refine Kc ?_ ?_
  ·intro h135
   have g136 := dt h135
   refine KS ?_
   refine Oq Vm (Oq Vadd (Oq Va (KS ?_)))
   refine KjD (γ := List Int × Int) (fun (data_138, j_139) => ⟨[(0, vl dataa0 datak0 data), (1, vi a), (2, vi b), (7, vi i_21), (8, vi j_6)], [os (vl dataa0 datak0 data) data_138], sc_partialInsertionSortOrdered_int_L3 (((b : Int) - (i_21 + 1)).toNat) ((data_4.set i_21.toNat (data_4.getD ((i_21 - 1) : Int).toNat 0)).set ((i_21 - 1) : Int).toNat (data_4.getD i_21.toNat 0)) (i_21 + 1) = data_138 ∧ ((i_21 + 1) : Int) ≤ j_139 ∧ (j_139 ≤ b ∨ j_139 = (i_21 + 1)) ∧ (-9223372036854775808 ≤ j_139 ∧ j_139 ≤ 9223372036854775807), 0⟩) ?_ ?_
   ·skip
    refine Kl (γ := Nat × List Int × Int) (fun (r137, data_138, j_139) => ⟨[(0, vl dataa0 datak0 data), (1, vi a), (2, vi b), (7, vi i_21), (8, vi j_6), (10, vi j_139)], [os (vl dataa0 datak0 data) data_138], sc_partialInsertionSortOrdered_int_L3 r137 data_138 j_139 = sc_partialInsertionSortOrdered_int_L3 (((b : Int) - (i_21 + 1)).toNat) ((data_4.set i_21.toNat (data_4.getD ((i_21 - 1) : Int).toNat 0)).set ((i_21 - 1) : Int).toNat (data_4.getD i_21.toNat 0)) (i_21 + 1) ∧ r137 = ((b : Int) - j_139).toNat ∧ ((i_21 + 1) : Int) ≤ j_139 ∧ (j_139 ≤ b ∨ j_139 = (i_21 + 1)) ∧ (-9223372036854775808 ≤ j_139 ∧ j_139 ≤ 9223372036854775807), r137⟩) (((b : Int) - (i_21 + 1)).toNat, ((data_4.set i_21.toNat (data_4.getD ((i_21 - 1) : Int).toNat 0)).set ((i_21 - 1) : Int).toNat (data_4.getD i_21.toNat 0)), (i_21 + 1)) [0] ⟨rfl, rfl, aM1, (.inr rfl), aM1⟩ ?_
    rintro ⟨r137, data_138, j_139⟩ ⟨hM140, hr141, hi142, hi143, hk144⟩
    refine JJ_nx fun _ _ hL hA => ?_; dsimp only at hL hA; subst hL hA
    refine Fb 8 0 fun _ => Fo 0 fun ho147 => Fl 0 fun hn148 => ?_
    refine KS ?_
    refine Oq Vm (Oq Vm (Oq Vlss (KS ?_)))
    refine Kc ?_ ?_
    ·intro h149
     have g150 := dt h149
     obtain ⟨r151, rfl⟩ := scc (n := r137) aM1
     refine KS ?_
     refine JK_drawK [0, 0, 3, 7, 0, 0, 32, 112, 240, 511, 1023] fmix ?_
     refine Dv [] Vm (Dv [] Vm (Dv [0] (Vi sl22 0) ?_))
     have hb152 := ok1 (i := j_139.toNat) ho147 rng
     refine Dv [0] (VldI sh3 0) (Dv [] Vm (Dv [] Vm (Dv [] Vsub (Dv [0] (Vi sl22 0) ?_))))
     have hb153 := ok1 (i := ((j_139 - 1) : Int).toNat) ho147 rng
     refine Dv [0] (VldI sh3 0) ?_
     refine letv (cmp_Less_int (data_138.getD j_139.toNat 0) (data_138.getD ((j_139 - 1) : Int).toNat 0)) fun rv154 hg155 => ?_
     refine Dx [] [] [0] (fun G => vb rv154) [fun G => SP.fact (True)] (fun G => xC [] ca89 (fn89 ((data_138.getD j_139.toNat 0)) ((data_138.getD ((j_139 - 1) : Int).toNat 0)) pre pre rv154 hg155)) (Dv [] Vnot ?_)
     refine Dn ⟨by kernel_rfl, fun G => ?_⟩
     refine Jw2 [(0, vl dataa0 datak0 data), (1, vi a), (2, vi b), (7, vi i_21), (8, vi j_6), (10, vi j_139), (116, vb (!rv154))] [0] [SP.fact (True)] ?_
     refine Jk [0] ?_
     refine Kc ?_ ?_
     ·intro h156
      have h158 := not_true h156
      refine Ke ?_
      have hR160 := q2 hM140 data_138 (by simp only [sc_partialInsertionSortOrdered_int_L3, h149, h156, h158, hg155, cs4])
      exact Kg (data_138, j_139) [0] ⟨(by assumption), (by first | assumption | omega), (by first | assumption | omega), (by first | assumption | omega)⟩
     intro h156
     have h162 := not_false h156
     refine KS ?_
     refine JK_drawK [0, 0, 0, 0, 8, 0, 0, 64, 224, 480, 0, 0, 3072, 7168, 16355, 32739, 65535, 131071] fmix ?_
     refine Dv [] Vm (Dv [] Vm (Dv [] Vm (Dv [] Vm (Dv [] Vsub (Dv [] Vm (Dv [] Vm (Dv [] Vsub (Dv [0] (Vi sl22 0) ?_))))))))
     have hb164 := ok1 (i := ((j_139 - 1) : Int).toNat) ho147 rng
     refine Dv [0] (VldI sh3 0) (Dv [] Vm (Dv [] Vm (Dv [0] (Vi sl22 0) ?_)))
     have hb165 := ok1 (i := j_139.toNat) ho147 rng
     refine Dv [0] (VldI sh3 0) (Dv [0] (Vi sl22 0) (Dx0 [0] [0] [0] [fun G => os (vl dataa0 datak0 data) (data_138.set j_139.toNat (data_138.getD ((j_139 - 1) : Int).toNat 0))] (fun G => xS (SoI [0] sh3)) (Dv [1] (Vi sl22 0) (Dx0 [1] [1] [0] [fun G => os (vl dataa0 datak0 data) ((data_138.set j_139.toNat (data_138.getD ((j_139 - 1) : Int).toNat 0)).set ((j_139 - 1) : Int).toNat (data_138.getD j_139.toNat 0))] (fun G => xS (SoI [0] sh3)) ?_))))
     refine Dn ⟨by kernel_rfl, fun G => ?_⟩
     refine Jw2 [(0, vl dataa0 datak0 data), (1, vi a), (2, vi b), (7, vi i_21), (8, vi j_6), (10, vi j_139)] [] [os (vl dataa0 datak0 data) ((data_138.set j_139.toNat (data_138.getD ((j_139 - 1) : Int).toNat 0)).set ((j_139 - 1) : Int).toNat (data_138.getD j_139.toNat 0))] ?_
     refine KS ?_
     refine Oq Vm (Oq Vadd (Oq Va (KS ?_)))
     exact Kg (r151, ((data_138.set j_139.toNat (data_138.getD ((j_139 - 1) : Int).toNat 0)).set ((j_139 - 1) : Int).toNat (data_138.getD j_139.toNat 0)), (j_139 + 1)) [0] ⟨(q3 hM140 (by simp only [sc_partialInsertionSortOrdered_int_L3, h149, h156, h162, hg155, cs4])), aM1, aM1, aM1, aM1⟩
    intro h149
    have g166 := df h149
    obtain rfl : r137 = 0 := by omega
    refine Ke ?_
    have hR167 := q2 hM140 data_138 (by simp only [sc_partialInsertionSortOrdered_int_L3, h149, cs4])
    exact Kg (data_138, j_139) [0] ⟨(by assumption), (by first | assumption | omega), (by first | assumption | omega), (by first | assumption | omega)⟩
   rintro ⟨data_138, j_139⟩ ⟨hR145, hi142, hi143, hk144⟩
   refine JJ_nx fun _ _ hL hA => ?_; dsimp only at hL hA; subst hL hA
   refine Fb 8 0 fun _ => Fo 0 fun ho169 => Fl 0 fun hn170 => ?_
   refine KS ?_
   refine Oq Vm (Oq Vadd (Oq Va (KS ?_)))
   exact Kg (r19, data_138, i_21, (j_6 + 1)) [0] ⟨(q3 hM7 (by simp only [sc_partialInsertionSortOrdered_int_L0, h17, h51, h56, h63, h135, hR27, hR145, cs4])), aM1, aM1, aM1, aM1, aM1, iv1⟩
  intro h135
  have g171 := df h135
  refine KS ?_
  refine Oq Vm (Oq Vadd (Oq Va (KS ?_)))
  exact Kg (r19, ((data_4.set i_21.toNat (data_4.getD ((i_21 - 1) : Int).toNat 0)).set ((i_21 - 1) : Int).toNat (data_4.getD i_21.toNat 0)), i_21, (j_6 + 1)) [0] ⟨(q3 hM7 (by simp only [sc_partialInsertionSortOrdered_int_L0, h17, h51, h56, h63, h135, hR27, cs4])), aM1, aM1, aM1, aM1, aM1, iv1⟩
 intro h17
 have g172 := df h17
 obtain rfl : r3 = 0 := by omega
 refine Ke ?_
 have hR173 := q2 hM7 (.brk data_4) (by simp only [sc_partialInsertionSortOrdered_int_L0, h17, cs4])
 refine KS ?_
 refine Oq Va (KS ?_)
 refine Fl 0 fun hn174 => ?_
 have hq := q4 hrr (false, data_4) (by simp only [sc_partialInsertionSortOrdered_int, h17, hR173, cs4]); subst hq
 exact Kr () rfl (.tmp rfl .nil) [0] en
theorem fn90 (data : List Int) (dataa0 : Option Addr) (datak0 : Nat) (a : Int) (b : Int) (pivot : Int) (ha_0 : i64ok a) (hb_0 : i64ok b) (hpivot_0 : i64ok pivot) (ha0 : 0 ≤ a ∧ a ≤ b ∧ b ≤ (data.length : Int) ∧ data.length ≤ 65535 ∧ a ≤ pivot ∧ pivot < b) (rr : Int × List Int) (hrr : sc_partitionEqualOrdered_int data a b pivot = rr) : FT Tryz.prog 90 #[vl dataa0 datak0 data, vi a, vi b, vi pivot] [O dataa0 datak0 data] (fun g : Unit => i64ok rr.1 ∧ (a < rr.1 ∧ rr.1 ≤ b) ∧ (rr.2.length = data.length)) (fun g => vi rr.1) (fun g => [os (vl dataa0 datak0 data) rr.2]) := by
 refine FTi Tryz.func90 fun w0 M0 F0 => ?_
 unfold i64ok at ha_0 hb_0 hpivot_0
 refine Fb 8 0 fun _ => Fo 0 fun ho2 => KS ?_
 refine Oq Va (KS ?_)
 refine JK_drawK [0, 0, 0, 0, 0, 0, 48, 112, 0, 0, 768, 1792, 4083, 8179, 16383, 32767] fmix ?_
 refine Dv [] Vm (Dv [] Vm (Dv [] Vm (Dv [] Vm (Dv [] Vm (Dv [] Vm (Dv [0] (Vi sl22 0) ?_))))))
 have hb3 := ok1 (i := pivot.toNat) ho2 rng
 refine Dv [0] (VldI sh3 0) (Dv [] Vm (Dv [] Vm (Dv [0] (Vi sl22 0) ?_)))
 have hb4 := ok1 (i := a.toNat) ho2 rng
 refine Dv [0] (VldI sh3 0) (Dv [0] (Vi sl22 0) (Dx0 [0] [0] [0] [fun G => os (vl dataa0 datak0 data) (data.set a.toNat (data.getD pivot.toNat 0))] (fun G => xS (SoI [0] sh3)) (Dv [1] (Vi sl22 0) (Dx0 [1] [1] [0] [fun G => os (vl dataa0 datak0 data) ((data.set a.toNat (data.getD pivot.toNat 0)).set pivot.toNat (data.getD a.toNat 0))] (fun G => xS (SoI [0] sh3)) ?_))))
 refine Dn ⟨by kernel_rfl, fun G => ?_⟩
 refine Jw2 [(0, vl dataa0 datak0 data), (1, vi a), (2, vi b)] [] [os (vl dataa0 datak0 data) ((data.set a.toNat (data.getD pivot.toNat 0)).set pivot.toNat (data.getD a.toNat 0))] ?_
 refine KS ?_
 refine Oq Vm (Oq Vadd (Oq Vm (Oq Vsub (Oq Va (Oq Va (KS ?_))))))
 have hterm13 : sc_partitionEqualOrdered_int_L0 a b ((b - a).toNat + 2) ((data.set a.toNat (data.getD pivot.toNat 0)).set pivot.toNat (data.getD a.toNat 0)) (a + 1) (b - 1) ≠ LR.oof := (pe0_t _ _ _ _ aM1 aM1 aM1 aM1 aM1)
 refine Kl (γ := Nat × List Int × Int × Int) (fun (r5, data_6, i_7, j_8) => ⟨[(0, vl dataa0 datak0 data), (1, vi a), (9, vi i_7), (10, vi j_8)], [os (vl dataa0 datak0 data) data_6], sc_partitionEqualOrdered_int_L0 a b r5 data_6 i_7 j_8 = sc_partitionEqualOrdered_int_L0 a b ((b - a).toNat + 2) ((data.set a.toNat (data.getD pivot.toNat 0)).set pivot.toNat (data.getD a.toNat 0)) (a + 1) (b - 1) ∧ (-9223372036854775808 ≤ i_7 ∧ i_7 ≤ 9223372036854775807) ∧ (-9223372036854775808 ≤ j_8 ∧ j_8 ≤ 9223372036854775807) ∧ (a + 1 ≤ i_7 ∧ i_7 ≤ j_8 + 2 ∧ j_8 ≤ b - 1 ∧ i_7 ≤ b), r5⟩) (((b - a).toNat + 2), ((data.set a.toNat (data.getD pivot.toNat 0)).set pivot.toNat (data.getD a.toNat 0)), (a + 1), (b - 1)) [0] ⟨rfl, aM1, aM1, iv0⟩ ?_
 rintro ⟨r5, data_6, i_7, j_8⟩ ⟨hM9, hk10, hk11, hv12⟩
 refine JJ_nx fun _ _ hL hA => ?_; dsimp only at hL hA; subst hL hA
 refine Fb 8 0 fun _ => Fo 0 fun ho15 => Fl 0 fun hn16 => ?_
 rcases r5 with _ | r5
 ·exact absurd (hM9.symm.trans rfl) hterm13
 refine KS ?_
 have hterm22 : sc_partitionEqualOrdered_int_L1 a data_6 j_8 ((b - a).toNat + 2) i_7 ≠ LR.oof := (pe1_t aM1 aM1)
 refine KjD (γ := Int) (fun i_18 => ⟨[(0, vl dataa0 datak0 data), (1, vi a), (9, vi i_18), (10, vi j_8)], [os (vl dataa0 datak0 data) data_6], sc_partitionEqualOrdered_int_L1 a data_6 j_8 ((b - a).toNat + 2) i_7 = .brk i_18 ∧ (-9223372036854775808 ≤ i_18 ∧ i_18 ≤ 9223372036854775807) ∧ (i_7 ≤ i_18 ∧ (i_18 ≤ j_8 + 1 ∨ i_18 = i_7)), 0⟩) ?_ ?_
 ·skip
  refine Kl (γ := Nat × Int) (fun (r17, i_18) => ⟨[(0, vl dataa0 datak0 data), (1, vi a), (9, vi i_18), (10, vi j_8)], [os (vl dataa0 datak0 data) data_6], sc_partitionEqualOrdered_int_L1 a data_6 j_8 r17 i_18 = sc_partitionEqualOrdered_int_L1 a data_6 j_8 ((b - a).toNat + 2) i_7 ∧ (-9223372036854775808 ≤ i_18 ∧ i_18 ≤ 9223372036854775807) ∧ (i_7 ≤ i_18 ∧ (i_18 ≤ j_8 + 1 ∨ i_18 = i_7)), r17⟩) (((b - a).toNat + 2), i_7) [0] ⟨rfl, aM1, iv0⟩ ?_
  rintro ⟨r17, i_18⟩ ⟨hM19, hk20, hv21⟩
  refine JJ_nx fun _ _ hL hA => ?_; dsimp only at hL hA; subst hL hA
  refine Fb 8 0 fun _ => Fo 0 fun ho25 => Fl 0 fun hn26 => ?_
  rcases r17 with _ | r17
  ·exact absurd (hM19.symm.trans rfl) hterm22
  refine KS ?_
  refine JK_drawK [0, 0, 3, 7, 15, 15, 63, 127, 15, 15, 783, 1807, 4095, 8191, 16383] fmix ?_
  refine Dv [] Vm (Dv [] Vm (Dv [] Vleq ?_))
  refine bool_split (decide (i_18 ≤ j_8)) ?_ ?_
  ·intro h27
   have g28 := dt h27
   refine Db h27 [] Vm (Dv [] Vm (Dv [] Vm (Dv [0] (Vi sl22 0) ?_)))
   have hb29 := ok1 (i := a.toNat) ho25 rng
   refine Dv [0] (VldI sh3 0) (Dv [] Vm (Dv [] Vm (Dv [0] (Vi sl22 0) ?_)))
   have hb30 := ok1 (i := i_18.toNat) ho25 rng
   refine Dv [0] (VldI sh3 0) ?_
   refine letv (cmp_Less_int (data_6.getD a.toNat 0) (data_6.getD i_18.toNat 0)) fun rv31 hg32 => ?_
   refine Dx [] [] [0] (fun G => vb rv31) [fun G => SP.fact (True)] (fun G => xC [] ca89 (fn89 ((data_6.getD a.toNat 0)) ((data_6.getD i_18.toNat 0)) pre pre rv31 hg32)) (Dv [] Vnot (Dv [] Vpt ?_))
   refine Dn ⟨by kernel_rfl, fun G => ?_⟩
   refine Jw2 [(0, vl dataa0 datak0 data), (1, vi a), (9, vi i_18), (10, vi j_8), (43, vb (!rv31))] [0] [SP.fact (True)] ?_
   refine Jk [0] ?_
   refine Kc ?_ ?_
   ·intro h33
    have h35 := not_true h33
    refine KS ?_
    refine Oq Vm (Oq Vadd (Oq Va (KS ?_)))
    exact Kg (r17, (i_18 + 1)) [0] ⟨(q3 hM19 (by simp only [sc_partitionEqualOrdered_int_L1, h27, h33, h35, hg32, cs4])), aM1, iv1⟩
   intro h33
   have h38 := not_false h33
   refine Ke ?_
   have hR40 := q2 hM19 (.brk i_18) (by simp only [sc_partitionEqualOrdered_int_L1, h27, h33, h38, hg32, cs4])
   exact Kg i_18 [0] ⟨(by assumption), (by first | assumption | omega), (by first | assumption | omega)⟩
  intro h27
  have g41 := df h27
  refine Db h27 [] Vm (Ds (Ds (Ds (Ds (Ds (Ds (Ds (Ds (Ds ?_)))))))))
  refine Ds (Dv [] Vpf ?_)
  refine Dn ⟨by kernel_rfl, fun G => ?_⟩
  refine Jw2 [(0, vl dataa0 datak0 data), (1, vi a), (9, vi i_18), (10, vi j_8), (43, vb false)] [0] [] ?_
  refine Kf ?_
  refine Ke ?_
  have hR42 := q2 hM19 (.brk i_18) (by simp only [sc_partitionEqualOrdered_int_L1, h27, cs4])
  exact Kg i_18 [0] ⟨(by assumption), (by first | assumption | omega), (by first | assumption | omega)⟩
 rintro i_18 ⟨hR23, hk20, hv21⟩
 refine JJ_nx fun _ _ hL hA => ?_; dsimp only at hL hA; subst hL hA
 refine Fb 8 0 fun _ => Fo 0 fun ho44 => Fl 0 fun hn45 => ?_
 refine KS ?_
 have hterm51 : sc_partitionEqualOrdered_int_L2 a data_6 i_18 ((b - a).toNat + 2) j_8 ≠ LR.oof := (pe2_t aM1 aM1)
 refine KjD (γ := Int) (fun j_47 => ⟨[(0, vl dataa0 datak0 data), (1, vi a), (9, vi i_18), (10, vi j_47)], [os (vl dataa0 datak0 data) data_6], sc_partitionEqualOrdered_int_L2 a data_6 i_18 ((b - a).toNat + 2) j_8 = .brk j_47 ∧ (-9223372036854775808 ≤ j_47 ∧ j_47 ≤ 9223372036854775807) ∧ (j_47 ≤ j_8 ∧ (i_18 - 1 ≤ j_47 ∨ j_47 = j_8)), 0⟩) ?_ ?_
 ·skip
  refine Kl (γ := Nat × Int) (fun (r46, j_47) => ⟨[(0, vl dataa0 datak0 data), (1, vi a), (9, vi i_18), (10, vi j_47)], [os (vl dataa0 datak0 data) data_6], sc_partitionEqualOrdered_int_L2 a data_6 i_18 r46 j_47 = sc_partitionEqualOrdered_int_L2 a data_6 i_18 ((b - a).toNat + 2) j_8 ∧ (-9223372036854775808 ≤ j_47 ∧ j_47 ≤ 9223372036854775807) ∧ (j_47 ≤ j_8 ∧ (i_18 - 1 ≤ j_47 ∨ j_47 = j_8)), r46⟩) (((b - a).toNat + 2), j_8) [0] ⟨rfl, aM1, iv0⟩ ?_
  rintro ⟨r46, j_47⟩ ⟨hM48, hk49, hv50⟩
  refine JJ_nx fun _ _ hL hA => ?_; dsimp only at hL hA; subst hL hA
  refine Fb 8 0 fun _ => Fo 0 fun ho54 => Fl 0 fun hn55 => ?_
  rcases r46 with _ | r46
  ·exact absurd (hM48.symm.trans rfl) hterm51
  refine KS ?_
  refine JK_drawK [0, 0, 3, 7, 15, 15, 63, 127, 15, 15, 783, 1807, 4095, 8191] fmix ?_
  refine Dv [] Vm (Dv [] Vm (Dv [] Vleq ?_))
  refine bool_split (decide (i_18 ≤ j_47)) ?_ ?_
  ·intro h56
   have g57 := dt h56
   refine Db h56 [] Vm (Dv [] Vm (Dv [] Vm (Dv [0] (Vi sl22 0) ?_)))
   have hb58 := ok1 (i := a.toNat) ho54 rng
   refine Dv [0] (VldI sh3 0) (Dv [] Vm (Dv [] Vm (Dv [0] (Vi sl22 0) ?_)))
   have hb59 := ok1 (i := j_47.toNat) ho54 rng
   refine Dv [0] (VldI sh3 0) ?_
   refine letv (cmp_Less_int (data_6.getD a.toNat 0) (data_6.getD j_47.toNat 0)) fun rv60 hg61 => ?_
   refine Dx [] [] [0] (fun G => vb rv60) [fun G => SP.fact (True)] (fun G => xC [] ca89 (fn89 ((data_6.getD a.toNat 0)) ((data_6.getD j_47.toNat 0)) pre pre rv60 hg61)) (Dv [] Vpt ?_)
   refine Dn ⟨by kernel_rfl, fun G => ?_⟩
   refine Jw2 [(0, vl dataa0 datak0 data), (1, vi a), (9, vi i_18), (10, vi j_47), (59, vb rv60)] [0] [SP.fact (True)] ?_
   refine Jk [0] ?_
   refine Kc ?_ ?_
   ·intro h62
    refine KS ?_
    refine Oq Vm (Oq Vsub (Oq Va (KS ?_)))
    exact Kg (r46, (j_47 - 1)) [0] ⟨(q3 hM48 (by simp only [sc_partitionEqualOrdered_int_L2, h56, h62, hg61, cs4])), aM1, iv1⟩
   intro h62
   refine Ke ?_
   have hR65 := q2 hM48 (.brk j_47) (by simp only [sc_partitionEqualOrdered_int_L2, h56, h62, hg61, cs4])
   exact Kg j_47 [0] ⟨(by assumption), (by first | assumption | omega), (by first | assumption | omega)⟩
  intro h56
  have g66 := df h56
  refine Db h56 [] Vm (Ds (Ds (Ds (Ds (Ds (Ds (Ds (Ds (Ds ?_)))))))))
  refine Dv [] Vpf ?_
  refine Dn ⟨by kernel_rfl, fun G => ?_⟩
  refine Jw2 [(0, vl dataa0 datak0 data), (1, vi a), (9, vi i_18), (10, vi j_47), (59, vb false)] [0] [] ?_
  refine Kf ?_
  refine Ke ?_
  have hR67 := q2 hM48 (.brk j_47) (by simp only [sc_partitionEqualOrdered_int_L2, h56, cs4])
  exact Kg j_47 [0] ⟨(by assumption), (by first | assumption | omega), (by first | assumption | omega)⟩
 rintro j_47 ⟨hR52, hk49, hv50⟩
 refine JJ_nx fun _ _ hL hA => ?_; dsimp only at hL hA; subst hL hA
 refine Fb 8 0 fun _ => Fo 0 fun ho69 => Fl 0 fun hn70 => ?_
 refine KS ?_
 refine Oq Vm (Oq Vm (Oq Vgtr (KS ?_)))
 refine Kc ?_ ?_
 ·intro h71
  have g72 := dt h71
  refine Ke ?_
  have hR73 := q2 hM9 (.brk (data_6, i_18)) (by simp only [sc_partitionEqualOrdered_int_L0, h71, hR23, hR52, cs4])
  refine KS ?_
  refine Oq Vm (Oq Va (KS ?_))
  refine Fl 0 fun hn74 => ?_
  have hq := q4 hrr (i_18, data_6) (by simp only [sc_partitionEqualOrdered_int, h71, hR23, hR52, hR73, cs4]); subst hq
  exact Kr () rfl (.tmp rfl .nil) [0] en
 intro h71
 have g75 := df h71
 refine KS ?_
 refine JK_drawK [0, 0, 0, 0, 0, 0, 48, 112, 0, 0, 768, 1792, 4083, 8179, 16383, 32767] fmix ?_
 refine Dv [] Vm (Dv [] Vm (Dv [] Vm (Dv [] Vm (Dv [] Vm (Dv [] Vm (Dv [0] (Vi sl22 0) ?_))))))
 have hb76 := ok1 (i := j_47.toNat) ho69 rng
 refine Dv [0] (VldI sh3 0) (Dv [] Vm (Dv [] Vm (Dv [0] (Vi sl22 0) ?_)))
 have hb77 := ok1 (i := i_18.toNat) ho69 rng
 refine Dv [0] (VldI sh3 0) (Dv [0] (Vi sl22 0) (Dx0 [0] [0] [0] [fun G => os (vl dataa0 datak0 data) (data_6.set i_18.toNat (data_6.getD j_47.toNat 0))] (fun G => xS (SoI [0] sh3)) (Dv [1] (Vi sl22 0) (Dx0 [1] [1] [0] [fun G => os (vl dataa0 datak0 data) ((data_6.set i_18.toNat (data_6.getD j_47.toNat 0)).set j_47.toNat (data_6.getD i_18.toNat 0))] (fun G => xS (SoI [0] sh3)) ?_))))
 refine Dn ⟨by kernel_rfl, fun G => ?_⟩
 refine Jw2 [(0, vl dataa0 datak0 data), (1, vi a), (9, vi i_18), (10, vi j_47)] [] [os (vl dataa0 datak0 data) ((data_6.set i_18.toNat (data_6.getD j_47.toNat 0)).set j_47.toNat (data_6.getD i_18.toNat 0))] ?_
 refine KS ?_
 refine Oq Vm (Oq Vadd (Oq Va (KS ?_)))
 refine Oq Vm (Oq Vsub (Oq Va (KS ?_)))
 exact Kg (r5, ((data_6.set i_18.toNat (data_6.getD j_47.toNat 0)).set j_47.toNat (data_6.getD i_18.toNat 0)), (i_18 + 1), (j_47 - 1)) [0] ⟨(q3 hM9 (by simp only [sc_partitionEqualOrdered_int_L0, h71, hR23, hR52, cs4])), aM1, aM1, iv1⟩
theorem fn91 (data : List Int) (dataa0 : Option Addr) (datak0 : Nat) (a : Int) (b : Int) (pivot : Int) (ha_0 : i64ok a) (hb_0 : i64ok b) (hpivot_0 : i64ok pivot) (ha0 : 0 ≤ a ∧ a ≤ b ∧ b ≤ (data.length : Int) ∧ data.length ≤ 65535 ∧ a ≤ pivot ∧ pivot < b) (rr : Int × Bool × List Int) (hrr : sc_partitionOrdered_int data a b pivot = rr) : FT Tryz.prog 91 #[vl dataa0 datak0 data, vi a, vi b, vi pivot] [O dataa0 datak0 data] (fun g : Unit => i64ok rr.1 ∧ (a ≤ rr.1 ∧ rr.1 < b) ∧ (rr.2.2.length = data.length)) (fun g => .tuple #[vi rr.1, vb rr.2.1]) (fun g => [os (vl dataa0 datak0 data) rr.2.2]) := by
 refine FTi Tryz.func91 fun w0 M0 F0 => ?_
 unfold i64ok at ha_0 hb_0 hpivot_0
 refine Fb 8 0 fun _ => Fo 0 fun ho2 => KS ?_
 refine Oq Va (Oq Va (KS ?_))
 refine JK_drawK [0, 0, 0, 0, 0, 0, 48, 112, 0, 0, 768, 1792, 4083, 8179, 16383, 32767] fmix ?_
 refine Dv [] Vm (Dv [] Vm (Dv [] Vm (Dv [] Vm (Dv [] Vm (Dv [] Vm (Dv [0] (Vi sl22 0) ?_))))))
 have hb3 := ok1 (i := pivot.toNat) ho2 rng
 refine Dv [0] (VldI sh3 0) (Dv [] Vm (Dv [] Vm (Dv [0] (Vi sl22 0) ?_)))
 have hb4 := ok1 (i := a.toNat) ho2 rng
 refine Dv [0] (VldI sh3 0) (Dv [0] (Vi sl22 0) (Dx0 [0] [0] [0] [fun G => os (vl dataa0 datak0 data) (data.set a.toNat (data.getD pivot.toNat 0))] (fun G => xS (SoI [0] sh3)) (Dv [1] (Vi sl22 0) (Dx0 [1] [1] [0] [fun G => os (vl dataa0 datak0 data) ((data.set a.toNat (data.getD pivot.toNat 0)).set pivot.toNat (data.getD a.toNat 0))] (fun G => xS (SoI [0] sh3)) ?_))))
 refine Dn ⟨by kernel_rfl, fun G => ?_⟩
 refine Jw2 [(0, vl dataa0 datak0 data), (1, vi a), (2, vi b)] [] [os (vl dataa0 datak0 data) ((data.set a.toNat (data.getD pivot.toNat 0)).set pivot.toNat (data.getD a.toNat 0))] ?_
 refine KS ?_
 refine Oq Vm (Oq Vadd (Oq Vm (Oq Vsub (Oq Va (Oq Va (KS ?_))))))
 have hterm10 : sc_partitionOrdered_int_L0 data a b pivot ((b - a).toNat + 2) (a + 1) ≠ LR.oof := (pt0_t aM1 aM1)
 refine KjD (γ := Int) (fun i_6 => ⟨[(0, vl dataa0 datak0 data), (1, vi a), (10, vi i_6), (11, vi (b - 1))], [os (vl dataa0 datak0 data) ((data.set a.toNat (data.getD pivot.toNat 0)).set pivot.toNat (data.getD a.toNat 0))], sc_partitionOrdered_int_L0 data a b pivot ((b - a).toNat + 2) (a + 1) = .brk i_6 ∧ (-9223372036854775808 ≤ i_6 ∧ i_6 ≤ 9223372036854775807) ∧ (a + 1 ≤ i_6 ∧ i_6 ≤ b), 0⟩) ?_ ?_
 ·skip
  refine Kl (γ := Nat × Int) (fun (r5, i_6) => ⟨[(0, vl dataa0 datak0 data), (1, vi a), (10, vi i_6), (11, vi (b - 1))], [os (vl dataa0 datak0 data) ((data.set a.toNat (data.getD pivot.toNat 0)).set pivot.toNat (data.getD a.toNat 0))], sc_partitionOrdered_int_L0 data a b pivot r5 i_6 = sc_partitionOrdered_int_L0 data a b pivot ((b - a).toNat + 2) (a + 1) ∧ (-9223372036854775808 ≤ i_6 ∧ i_6 ≤ 9223372036854775807) ∧ (a + 1 ≤ i_6 ∧ i_6 ≤ b), r5⟩) (((b - a).toNat + 2), (a + 1)) [0] ⟨rfl, aM1, iv0⟩ ?_
  rintro ⟨r5, i_6⟩ ⟨hM7, hk8, hv9⟩
  refine JJ_nx fun _ _ hL hA => ?_; dsimp only at hL hA; subst hL hA
  refine Fb 8 0 fun _ => Fo 0 fun ho13 => Fl 0 fun hn14 => ?_
  rcases r5 with _ | r5
  ·exact absurd (hM7.symm.trans rfl) hterm10
  refine KS ?_
  refine JK_drawK [0, 0, 3, 7, 15, 15, 63, 127, 15, 15, 783, 1807, 4095, 8191] fmix ?_
  refine Dv [] Vm (Dv [] Vm (Dv [] Vleq ?_))
  refine bool_split (decide (i_6 ≤ (b - 1))) ?_ ?_
  ·intro h15
   have g16 := dt h15
   refine Db h15 [] Vm (Dv [] Vm (Dv [] Vm (Dv [0] (Vi sl22 0) ?_)))
   have hb17 := ok1 (i := i_6.toNat) ho13 rng
   refine Dv [0] (VldI sh3 0) (Dv [] Vm (Dv [] Vm (Dv [0] (Vi sl22 0) ?_)))
   have hb18 := ok1 (i := a.toNat) ho13 rng
   refine Dv [0] (VldI sh3 0) ?_
   refine letv (cmp_Less_int (((data.set a.toNat (data.getD pivot.toNat 0)).set pivot.toNat (data.getD a.toNat 0)).getD i_6.toNat 0) (((data.set a.toNat (data.getD pivot.toNat 0)).set pivot.toNat (data.getD a.toNat 0)).getD a.toNat 0)) fun rv19 hg20 => ?_
   refine Dx [] [] [0] (fun G => vb rv19) [fun G => SP.fact (True)] (fun G => xC [] ca89 (fn89 ((((data.set a.toNat (data.getD pivot.toNat 0)).set pivot.toNat (data.getD a.toNat 0)).getD i_6.toNat 0)) ((((data.set a.toNat (data.getD pivot.toNat 0)).set pivot.toNat (data.getD a.toNat 0)).getD a.toNat 0)) pre pre rv19 hg20)) (Dv [] Vpt ?_)
   refine Dn ⟨by kernel_rfl, fun G => ?_⟩
   refine Jw2 [(0, vl dataa0 datak0 data), (1, vi a), (10, vi i_6), (11, vi (b - 1)), (43, vb rv19)] [0] [SP.fact (True)] ?_
   refine Jk [0] ?_
   refine Kc ?_ ?_
   ·intro h21
    refine KS ?_
    refine Oq Vm (Oq Vadd (Oq Va (KS ?_)))
    exact Kg (r5, (i_6 + 1)) [0] ⟨(q3 hM7 (by simp only [sc_partitionOrdered_int_L0, h15, h21, hg20, cs4])), aM1, iv1⟩
   intro h21
   refine Ke ?_
   have hR24 := q2 hM7 (.brk i_6) (by simp only [sc_partitionOrdered_int_L0, h15, h21, hg20, cs4])
   exact Kg i_6 [0] ⟨(by assumption), (by first | assumption | omega), (by first | assumption | omega)⟩
  intro h15
  have g25 := df h15
  refine Db h15 [] Vm (Ds (Ds (Ds (Ds (Ds (Ds (Ds (Ds (Ds ?_)))))))))
  refine Dv [] Vpf ?_
  refine Dn ⟨by kernel_rfl, fun G => ?_⟩
  refine Jw2 [(0, vl dataa0 datak0 data), (1, vi a), (10, vi i_6), (11, vi (b - 1)), (43, vb false)] [0] [] ?_
  refine Kf ?_
  refine Ke ?_
  have hR26 := q2 hM7 (.brk i_6) (by simp only [sc_partitionOrdered_int_L0, h15, cs4])
  exact Kg i_6 [0] ⟨(by assumption), (by first | assumption | omega), (by first | assumption | omega)⟩
 rintro i_6 ⟨hR11, hk8, hv9⟩
 refine JJ_nx fun _ _ hL hA => ?_; dsimp only at hL hA; subst hL hA
 refine Fb 8 0 fun _ => Fo 0 fun ho28 => Fl 0 fun hn29 => ?_
 refine KS ?_
 have hterm35 : sc_partitionOrdered_int_L1 data a pivot i_6 ((b - a).toNat + 2) (b - 1) ≠ LR.oof := (pt1_t aM1 aM1)
 refine KjD (γ := Int) (fun j_31 => ⟨[(0, vl dataa0 datak0 data), (1, vi a), (10, vi i_6), (11, vi j_31)], [os (vl dataa0 datak0 data) ((data.set a.toNat (data.getD pivot.toNat 0)).set pivot.toNat (data.getD a.toNat 0))], sc_partitionOrdered_int_L1 data a pivot i_6 ((b - a).toNat + 2) (b - 1) = .brk j_31 ∧ (-9223372036854775808 ≤ j_31 ∧ j_31 ≤ 9223372036854775807) ∧ (i_6 - 1 ≤ j_31 ∧ j_31 ≤ b - 1), 0⟩) ?_ ?_
 ·skip
  refine Kl (γ := Nat × Int) (fun (r30, j_31) => ⟨[(0, vl dataa0 datak0 data), (1, vi a), (10, vi i_6), (11, vi j_31)], [os (vl dataa0 datak0 data) ((data.set a.toNat (data.getD pivot.toNat 0)).set pivot.toNat (data.getD a.toNat 0))], sc_partitionOrdered_int_L1 data a pivot i_6 r30 j_31 = sc_partitionOrdered_int_L1 data a pivot i_6 ((b - a).toNat + 2) (b - 1) ∧ (-9223372036854775808 ≤ j_31 ∧ j_31 ≤ 9223372036854775807) ∧ (i_6 - 1 ≤ j_31 ∧ j_31 ≤ b - 1), r30⟩) (((b - a).toNat + 2), (b - 1)) [0] ⟨rfl, aM1, iv0⟩ ?_
  rintro ⟨r30, j_31⟩ ⟨hM32, hk33, hv34⟩
  refine JJ_nx fun _ _ hL hA => ?_; dsimp only at hL hA; subst hL hA
  refine Fb 8 0 fun _ => Fo 0 fun ho38 => Fl 0 fun hn39 => ?_
  rcases r30 with _ | r30
  ·exact absurd (hM32.symm.trans rfl) hterm35
  refine KS ?_
  refine JK_drawK [0, 0, 3, 7, 15, 15, 63, 127, 15, 15, 783, 1807, 4095, 8191, 16383] fmix ?_
  refine Dv [] Vm (Dv [] Vm (Dv [] Vleq ?_))
  refine bool_split (decide (i_6 ≤ j_31)) ?_ ?_
  ·intro h40
   have g41 := dt h40
   refine Db h40 [] Vm (Dv [] Vm (Dv [] Vm (Dv [0] (Vi sl22 0) ?_)))
   have hb42 := ok1 (i := j_31.toNat) ho38 rng
   refine Dv [0] (VldI sh3 0) (Dv [] Vm (Dv [] Vm (Dv [0] (Vi sl22 0) ?_)))
   have hb43 := ok1 (i := a.toNat) ho38 rng
   refine Dv [0] (VldI sh3 0) ?_
   refine letv (cmp_Less_int (((data.set a.toNat (data.getD pivot.toNat 0)).set pivot.toNat (data.getD a.toNat 0)).getD j_31.toNat 0) (((data.set a.toNat (data.getD pivot.toNat 0)).set pivot.toNat (data.getD a.toNat 0)).getD a.toNat 0)) fun rv44 hg45 => ?_
   refine Dx [] [] [0] (fun G => vb rv44) [fun G => SP.fact (True)] (fun G => xC [] ca89 (fn89 ((((data.set a.toNat (data.getD pivot.toNat 0)).set pivot.toNat (data.getD a.toNat 0)).getD j_31.toNat 0)) ((((data.set a.toNat (data.getD pivot.toNat 0)).set pivot.toNat (data.getD a.toNat 0)).getD a.toNat 0)) pre pre rv44 hg45)) (Dv [] Vnot (Dv [] Vpt ?_))
   refine Dn ⟨by kernel_rfl, fun G => ?_⟩
   refine Jw2 [(0, vl dataa0 datak0 data), (1, vi a), (10, vi i_6), (11, vi j_31), (60, vb (!rv44))] [0] [SP.fact (True)] ?_
   refine Jk [0] ?_
   refine Kc ?_ ?_
   ·intro h46
    have h48 := not_true h46
    refine KS ?_
    refine Oq Vm (Oq Vsub (Oq Va (KS ?_)))
    exact Kg (r30, (j_31 - 1)) [0] ⟨(q3 hM32 (by simp only [sc_partitionOrdered_int_L1, h40, h46, h48, hg45, cs4])), aM1, iv1⟩
   intro h46
   have h51 := not_false h46
   refine Ke ?_
   have hR53 := q2 hM32 (.brk j_31) (by simp only [sc_partitionOrdered_int_L1, h40, h46, h51, hg45, cs4])
   exact Kg j_31 [0] ⟨(by assumption), (by first | assumption | omega), (by first | assumption | omega)⟩
  intro h40
  have g54 := df h40
  refine Db h40 [] Vm (Ds (Ds (Ds (Ds (Ds (Ds (Ds (Ds (Ds ?_)))))))))
  refine Ds (Dv [] Vpf ?_)
  refine Dn ⟨by kernel_rfl, fun G => ?_⟩
  refine Jw2 [(0, vl dataa0 datak0 data), (1, vi a), (10, vi i_6), (11, vi j_31), (60, vb false)] [0] [] ?_
  refine Kf ?_
  refine Ke ?_
  have hR55 := q2 hM32 (.brk j_31) (by simp only [sc_partitionOrdered_int_L1, h40, cs4])
  exact Kg j_31 [0] ⟨(by assumption), (by first | assumption | omega), (by first | assumption | omega)⟩
 rintro j_31 ⟨hR36, hk33, hv34⟩
 refine JJ_nx fun _ _ hL hA => ?_; dsimp only at hL hA; subst hL hA
 refine Fb 8 0 fun _ => Fo 0 fun ho57 => Fl 0 fun hn58 => ?_
 refine KS ?_
 refine Oq Vm (Oq Vm (Oq Vgtr (KS ?_)))
 refine Kc ?_ ?_
 ·intro h59
  have g60 := dt h59
  refine KS ?_
  refine JK_drawK [0, 0, 0, 0, 0, 0, 48, 112, 0, 0, 768, 1792, 4083, 8179, 16383, 32767] fmix ?_
  refine Dv [] Vm (Dv [] Vm (Dv [] Vm (Dv [] Vm (Dv [] Vm (Dv [] Vm (Dv [0] (Vi sl22 0) ?_))))))
  have hb61 := ok1 (i := a.toNat) ho57 rng
  refine Dv [0] (VldI sh3 0) (Dv [] Vm (Dv [] Vm (Dv [0] (Vi sl22 0) ?_)))
  have hb62 := ok1 (i := j_31.toNat) ho57 rng
  refine Dv [0] (VldI sh3 0) (Dv [0] (Vi sl22 0) (Dx0 [0] [0] [0] [fun G => os (vl dataa0 datak0 data) (((data.set a.toNat (data.getD pivot.toNat 0)).set pivot.toNat (data.getD a.toNat 0)).set j_31.toNat (((data.set a.toNat (data.getD pivot.toNat 0)).set pivot.toNat (data.getD a.toNat 0)).getD a.toNat 0))] (fun G => xS (SoI [0] sh3)) (Dv [1] (Vi sl22 0) (Dx0 [1] [1] [0] [fun G => os (vl dataa0 datak0 data) ((((data.set a.toNat (data.getD pivot.toNat 0)).set pivot.toNat (data.getD a.toNat 0)).set j_31.toNat (((data.set a.toNat (data.getD pivot.toNat 0)).set pivot.toNat (data.getD a.toNat 0)).getD a.toNat 0)).set a.toNat (((data.set a.toNat (data.getD pivot.toNat 0)).set pivot.toNat (data.getD a.toNat 0)).getD j_31.toNat 0))] (fun G => xS (SoI [0] sh3)) ?_))))
  refine Dn ⟨by kernel_rfl, fun G => ?_⟩
  refine Jw2 [(0, vl dataa0 datak0 data), (11, vi j_31)] [] [os (vl dataa0 datak0 data) ((((data.set a.toNat (data.getD pivot.toNat 0)).set pivot.toNat (data.getD a.toNat 0)).set j_31.toNat (((data.set a.toNat (data.getD pivot.toNat 0)).set pivot.toNat (data.getD a.toNat 0)).getD a.toNat 0)).set a.toNat (((data.set a.toNat (data.getD pivot.toNat 0)).set pivot.toNat (data.getD a.toNat 0)).getD j_31.toNat 0))] ?_
  refine KS ?_
  refine Oq Vm (Oq Va (Oq Va (KS ?_)))
  refine Fl 0 fun hn63 => ?_
  have hq := q4 hrr (j_31, true, ((((data.set a.toNat (data.getD pivot.toNat 0)).set pivot.toNat (data.getD a.toNat 0)).set j_31.toNat (((data.set a.toNat (data.getD pivot.toNat 0)).set pivot.toNat (data.getD a.toNat 0)).getD a.toNat 0)).set a.toNat (((data.set a.toNat (data.getD pivot.toNat 0)).set pivot.toNat (data.getD a.toNat 0)).getD j_31.toNat 0))) (by simp only [sc_partitionOrdered_int, h59, hR11, hR36, cs4]); subst hq
  exact Kr () rfl (.tmp rfl (.tmp rfl .nil)) [0] en
 intro h59
 have g64 := df h59
 refine KS ?_
 refine JK_drawK [0, 0, 0, 0, 0, 0, 48, 112, 0, 0, 768, 1792, 4083, 8179, 16383, 32767] fmix ?_
 refine Dv [] Vm (Dv [] Vm (Dv [] Vm (Dv [] Vm (Dv [] Vm (Dv [] Vm (Dv [0] (Vi sl22 0) ?_))))))
 have hb65 := ok1 (i := j_31.toNat) ho57 rng
 refine Dv [0] (VldI sh3 0) (Dv [] Vm (Dv [] Vm (Dv [0] (Vi sl22 0) ?_)))
 have hb66 := ok1 (i := i_6.toNat) ho57 rng
 refine Dv [0] (VldI sh3 0) (Dv [0] (Vi sl22 0) (Dx0 [0] [0] [0] [fun G => os (vl dataa0 datak0 data) (((data.set a.toNat (data.getD pivot.toNat 0)).set pivot.toNat (data.getD a.toNat 0)).set i_6.toNat (((data.set a.toNat (data.getD pivot.toNat 0)).set pivot.toNat (data.getD a.toNat 0)).getD j_31.toNat 0))] (fun G => xS (SoI [0] sh3)) (Dv [1] (Vi sl22 0) (Dx0 [1] [1] [0] [fun G => os (vl dataa0 datak0 data) ((((data.set a.toNat (data.getD pivot.toNat 0)).set pivot.toNat (data.getD a.toNat 0)).set i_6.toNat (((data.set a.toNat (data.getD pivot.toNat 0)).set pivot.toNat (data.getD a.toNat 0)).getD j_31.toNat 0)).set j_31.toNat (((data.set a.toNat (data.getD pivot.toNat 0)).set pivot.toNat (data.getD a.toNat 0)).getD i_6.toNat 0))] (fun G => xS (SoI [0] sh3)) ?_))))
 refine Dn ⟨by kernel_rfl, fun G => ?_⟩
 refine Jw2 [(0, vl dataa0 datak0 data), (1, vi a), (10, vi i_6), (11, vi j_31)] [] [os (vl dataa0 datak0 data) ((((data.set a.toNat (data.getD pivot.toNat 0)).set pivot.toNat (data.getD a.toNat 0)).set i_6.toNat (((data.set a.toNat (data.getD pivot.toNat 0)).set pivot.toNat (data.getD a.toNat 0)).getD j_31.toNat 0)).set j_31.toNat (((data.set a.toNat (data.getD pivot.toNat 0)).set pivot.toNat (data.getD a.toNat 0)).getD i_6.toNat 0))] ?_
 refine KS ?_
 refine Oq Vm (Oq Vadd (Oq Va (KS ?_)))
 refine Oq Vm (Oq Vsub (Oq Va (KS ?_)))
 have hterm75 : sc_partitionOrdered_int_L2 a b ((b - a).toNat + 2) ((((data.set a.toNat (data.getD pivot.toNat 0)).set pivot.toNat (data.getD a.toNat 0)).set i_6.toNat (((data.set a.toNat (data.getD pivot.toNat 0)).set pivot.toNat (data.getD a.toNat 0)).getD j_31.toNat 0)).set j_31.toNat (((data.set a.toNat (data.getD pivot.toNat 0)).set pivot.toNat (data.getD a.toNat 0)).getD i_6.toNat 0)) (i_6 + 1) (j_31 - 1) ≠ LR.oof := (pt2_t _ _ _ _ aM1 aM1 aM1 aM1 aM1)
 refine Kl (γ := Nat × List Int × Int × Int) (fun (r67, data_68, i_69, j_70) => ⟨[(0, vl dataa0 datak0 data), (1, vi a), (10, vi i_69), (11, vi j_70)], [os (vl dataa0 datak0 data) data_68], sc_partitionOrdered_int_L2 a b r67 data_68 i_69 j_70 = sc_partitionOrdered_int_L2 a b ((b - a).toNat + 2) ((((data.set a.toNat (data.getD pivot.toNat 0)).set pivot.toNat (data.getD a.toNat 0)).set i_6.toNat (((data.set a.toNat (data.getD pivot.toNat 0)).set pivot.toNat (data.getD a.toNat 0)).getD j_31.toNat 0)).set j_31.toNat (((data.set a.toNat (data.getD pivot.toNat 0)).set pivot.toNat (data.getD a.toNat 0)).getD i_6.toNat 0)) (i_6 + 1) (j_31 - 1) ∧ (-9223372036854775808 ≤ i_69 ∧ i_69 ≤ 9223372036854775807) ∧ (-9223372036854775808 ≤ j_70 ∧ j_70 ≤ 9223372036854775807) ∧ (a + 1 ≤ i_69 ∧ i_69 ≤ j_70 + 2 ∧ j_70 ≤ b - 1 ∧ a ≤ j_70), r67⟩) (((b - a).toNat + 2), ((((data.set a.toNat (data.getD pivot.toNat 0)).set pivot.toNat (data.getD a.toNat 0)).set i_6.toNat (((data.set a.toNat (data.getD pivot.toNat 0)).set pivot.toNat (data.getD a.toNat 0)).getD j_31.toNat 0)).set j_31.toNat (((data.set a.toNat (data.getD pivot.toNat 0)).set pivot.toNat (data.getD a.toNat 0)).getD i_6.toNat 0)), (i_6 + 1), (j_31 - 1)) [0] ⟨rfl, aM1, aM1, iv0⟩ ?_
 rintro ⟨r67, data_68, i_69, j_70⟩ ⟨hM71, hk72, hk73, hv74⟩
 refine JJ_nx fun _ _ hL hA => ?_; dsimp only at hL hA; subst hL hA
 refine Fb 8 0 fun _ => Fo 0 fun ho77 => Fl 0 fun hn78 => ?_
 rcases r67 with _ | r67
 ·exact absurd (hM71.symm.trans rfl) hterm75
 refine KS ?_
 have hterm84 : sc_partitionOrdered_int_L3 a data_68 j_70 ((b - a).toNat + 2) i_69 ≠ LR.oof := (pt3_t aM1 aM1)
 refine KjD (γ := Int) (fun i_80 => ⟨[(0, vl dataa0 datak0 data), (1, vi a), (10, vi i_80), (11, vi j_70)], [os (vl dataa0 datak0 data) data_68], sc_partitionOrdered_int_L3 a data_68 j_70 ((b - a).toNat + 2) i_69 = .brk i_80 ∧ (-9223372036854775808 ≤ i_80 ∧ i_80 ≤ 9223372036854775807) ∧ (i_69 ≤ i_80 ∧ (i_80 ≤ j_70 + 1 ∨ i_80 = i_69)), 0⟩) ?_ ?_
 ·skip
  refine Kl (γ := Nat × Int) (fun (r79, i_80) => ⟨[(0, vl dataa0 datak0 data), (1, vi a), (10, vi i_80), (11, vi j_70)], [os (vl dataa0 datak0 data) data_68], sc_partitionOrdered_int_L3 a data_68 j_70 r79 i_80 = sc_partitionOrdered_int_L3 a data_68 j_70 ((b - a).toNat + 2) i_69 ∧ (-9223372036854775808 ≤ i_80 ∧ i_80 ≤ 9223372036854775807) ∧ (i_69 ≤ i_80 ∧ (i_80 ≤ j_70 + 1 ∨ i_80 = i_69)), r79⟩) (((b - a).toNat + 2), i_69) [0] ⟨rfl, aM1, iv0⟩ ?_
  rintro ⟨r79, i_80⟩ ⟨hM81, hk82, hv83⟩
  refine JJ_nx fun _ _ hL hA => ?_; dsimp only at hL hA; subst hL hA
  refine Fb 8 0 fun _ => Fo 0 fun ho87 => Fl 0 fun hn88 => ?_
  rcases r79 with _ | r79
  ·exact absurd (hM81.symm.trans rfl) hterm84
  refine KS ?_
  refine JK_drawK [0, 0, 3, 7, 15, 15, 63, 127, 15, 15, 783, 1807, 4095, 8191] fmix ?_
  refine Dv [] Vm (Dv [] Vm (Dv [] Vleq ?_))
  refine bool_split (decide (i_80 ≤ j_70)) ?_ ?_
  ·intro h89
   have g90 := dt h89
   refine Db h89 [] Vm (Dv [] Vm (Dv [] Vm (Dv [0] (Vi sl22 0) ?_)))
   have hb91 := ok1 (i := i_80.toNat) ho87 rng
   refine Dv [0] (VldI sh3 0) (Dv [] Vm (Dv [] Vm (Dv [0] (Vi sl22 0) ?_)))
   have hb92 := ok1 (i := a.toNat) ho87 rng
   refine Dv [0] (VldI sh3 0) ?_
   refine letv (cmp_Less_int (data_68.getD i_80.toNat 0) (data_68.getD a.toNat 0)) fun rv93 hg94 => ?_
   refine Dx [] [] [0] (fun G => vb rv93) [fun G => SP.fact (True)] (fun G => xC [] ca89 (fn89 ((data_68.getD i_80.toNat 0)) ((data_68.getD a.toNat 0)) pre pre rv93 hg94)) (Dv [] Vpt ?_)
   refine Dn ⟨by kernel_rfl, fun G => ?_⟩
   refine Jw2 [(0, vl dataa0 datak0 data), (1, vi a), (10, vi i_80), (11, vi j_70), (112, vb rv93)] [0] [SP.fact (True)] ?_
   refine Jk [0] ?_
   refine Kc ?_ ?_
   ·intro h95
    refine KS ?_
    refine Oq Vm (Oq Vadd (Oq Va (KS ?_)))
    exact Kg (r79, (i_80 + 1)) [0] ⟨(q3 hM81 (by simp only [sc_partitionOrdered_int_L3, h89, h95, hg94, cs4])), aM1, iv1⟩
   intro h95
   refine Ke ?_
   have hR98 := q2 hM81 (.brk i_80) (by simp only [sc_partitionOrdered_int_L3, h89, h95, hg94, cs4])
   exact Kg i_80 [0] ⟨(by assumption), (by first | assumption | omega), (by first | assumption | omega)⟩
  intro h89
  have g99 := df h89
  refine Db h89 [] Vm (Ds (Ds (Ds (Ds (Ds (Ds (Ds (Ds (Ds ?_)))))))))
  refine Dv [] Vpf ?_
  refine Dn ⟨by kernel_rfl, fun G => ?_⟩
  refine Jw2 [(0, vl dataa0 datak0 data), (1, vi a), (10, vi i_80), (11, vi j_70), (112, vb false)] [0] [] ?_
  refine Kf ?_
  refine Ke ?_
  have hR100 := q2 hM81 (.brk i_80) (by simp only [sc_partitionOrdered_int_L3, h89, cs4])
  exact Kg i_80 [0] ⟨(by assumption), (by first | assumption | omega), (by first | assumption | omega)⟩
 rintro i_80 ⟨hR85, hk82, hv83⟩
 refine JJ_nx fun _ _ hL hA => ?_; dsimp only at hL hA; subst hL hA
 refine Fb 8 0 fun _ => Fo 0 fun ho102 => Fl 0 fun hn103 => ?_
 refine KS ?_
 have hterm109 : sc_partitionOrdered_int_L4 a data_68 i_80 ((b - a).toNat + 2) j_70 ≠ LR.oof := (pt4_t aM1 aM1)
 refine KjD (γ := Int) (fun j_105 => ⟨[(0, vl dataa0 datak0 data), (1, vi a), (10, vi i_80), (11, vi j_105)], [os (vl dataa0 datak0 data) data_68], sc_partitionOrdered_int_L4 a data_68 i_80 ((b - a).toNat + 2) j_70 = .brk j_105 ∧ (-9223372036854775808 ≤ j_105 ∧ j_105 ≤ 9223372036854775807) ∧ (j_105 ≤ j_70 ∧ (i_80 - 1 ≤ j_105 ∨ j_105 = j_70)), 0⟩) ?_ ?_
 ·skip
  refine Kl (γ := Nat × Int) (fun (r104, j_105) => ⟨[(0, vl dataa0 datak0 data), (1, vi a), (10, vi i_80), (11, vi j_105)], [os (vl dataa0 datak0 data) data_68], sc_partitionOrdered_int_L4 a data_68 i_80 r104 j_105 = sc_partitionOrdered_int_L4 a data_68 i_80 ((b - a).toNat + 2) j_70 ∧ (-9223372036854775808 ≤ j_105 ∧ j_105 ≤ 9223372036854775807) ∧ (j_105 ≤ j_70 ∧ (i_80 - 1 ≤ j_105 ∨ j_105 = j_70)), r104⟩) (((b - a).toNat + 2), j_70) [0] ⟨rfl, aM1, iv0⟩ ?_
  rintro ⟨r104, j_105⟩ ⟨hM106, hk107, hv108⟩
  refine JJ_nx fun _ _ hL hA => ?_; dsimp only at hL hA; subst hL hA
  refine Fb 8 0 fun _ => Fo 0 fun ho112 => Fl 0 fun hn113 => ?_
  rcases r104 with _ | r104
  ·exact absurd (hM106.symm.trans rfl) hterm109
  refine KS ?_
  refine JK_drawK [0, 0, 3, 7, 15, 15, 63, 127, 15, 15, 783, 1807, 4095, 8191, 16383] fmix ?_
  refine Dv [] Vm (Dv [] Vm (Dv [] Vleq ?_))
  refine bool_split (decide (i_80 ≤ j_105)) ?_ ?_
  ·intro h114
   have g115 := dt h114
   refine Db h114 [] Vm (Dv [] Vm (Dv [] Vm (Dv [0] (Vi sl22 0) ?_)))
   have hb116 := ok1 (i := j_105.toNat) ho112 rng
   refine Dv [0] (VldI sh3 0) (Dv [] Vm (Dv [] Vm (Dv [0] (Vi sl22 0) ?_)))
   have hb117 := ok1 (i := a.toNat) ho112 rng
   refine Dv [0] (VldI sh3 0) ?_
   refine letv (cmp_Less_int (data_68.getD j_105.toNat 0) (data_68.getD a.toNat 0)) fun rv118 hg119 => ?_
   refine Dx [] [] [0] (fun G => vb rv118) [fun G => SP.fact (True)] (fun G => xC [] ca89 (fn89 ((data_68.getD j_105.toNat 0)) ((data_68.getD a.toNat 0)) pre pre rv118 hg119)) (Dv [] Vnot (Dv [] Vpt ?_))
   refine Dn ⟨by kernel_rfl, fun G => ?_⟩
   refine Jw2 [(0, vl dataa0 datak0 data), (1, vi a), (10, vi i_80), (11, vi j_105), (129, vb (!rv118))] [0] [SP.fact (True)] ?_
   refine Jk [0] ?_
   refine Kc ?_ ?_
   ·intro h120
    have h122 := not_true h120
    refine KS ?_
    refine Oq Vm (Oq Vsub (Oq Va (KS ?_)))
    exact Kg (r104, (j_105 - 1)) [0] ⟨(q3 hM106 (by simp only [sc_partitionOrdered_int_L4, h114, h120, h122, hg119, cs4])), aM1, iv1⟩
   intro h120
   have h125 := not_false h120
   refine Ke ?_
   have hR127 := q2 hM106 (.brk j_105) (by simp only [sc_partitionOrdered_int_L4, h114, h120, h125, hg119, cs4])
   exact Kg j_105 [0] ⟨(by assumption), (by first | assumption | omega), (by first | assumption | omega)⟩
  intro h114
  have g128 := df h114
  refine Db h114 [] Vm (Ds (Ds (Ds (Ds (Ds (Ds (Ds (Ds (Ds ?_)))))))))
  refine Ds (Dv [] Vpf ?_)
  refine Dn ⟨by kernel_rfl, fun G => ?_⟩
  refine Jw2 [(0, vl dataa0 datak0 data), (1, vi a), (10, vi i_80), (11, vi j_105), (129, vb false)] [0] [] ?_
  refine Kf ?_
  refine Ke ?_
  have hR129 := q2 hM106 (.brk j_105) (by simp only [sc_partitionOrdered_int_L4, h114, cs4])
  exact Kg j_105 [0] ⟨(by assumption), (by first | assumption | omega), (by first | assumption | omega)⟩
 rintro j_105 ⟨hR110, hk107, hv108⟩
 refine JJ_nx fun _ _ hL hA => ?_; dsimp only at hL hA; subst hL hA
 refine Fb 8 0 fun _ => Fo 0 fun ho131 => Fl 0 fun hn132 => ?_
 refine KS ?_
 refine Oq Vm (Oq Vm (Oq Vgtr (KS ?_)))
 refine Kc ?_ ?_
 ·intro h133
  have g134 := dt h133
  refine Ke ?_
  have hR135 := q2 hM71 (.brk (data_68, j_105)) (by simp only [sc_partitionOrdered_int_L2, h133, hR85, hR110, cs4])
  refine KS ?_
  refine JK_drawK [0, 0, 0, 0, 0, 0, 48, 112, 0, 0, 768, 1792, 4083, 8179, 16383, 32767] fmix ?_
  refine Dv [] Vm (Dv [] Vm (Dv [] Vm (Dv [] Vm (Dv [] Vm (Dv [] Vm (Dv [0] (Vi sl22 0) ?_))))))
  have hb136 := ok1 (i := a.toNat) ho131 rng
  refine Dv [0] (VldI sh3 0) (Dv [] Vm (Dv [] Vm (Dv [0] (Vi sl22 0) ?_)))
  have hb137 := ok1 (i := j_105.toNat) ho131 rng
  refine Dv [0] (VldI sh3 0) (Dv [0] (Vi sl22 0) (Dx0 [0] [0] [0] [fun G => os (vl dataa0 datak0 data) (data_68.set j_105.toNat (data_68.getD a.toNat 0))] (fun G => xS (SoI [0] sh3)) (Dv [1] (Vi sl22 0) (Dx0 [1] [1] [0] [fun G => os (vl dataa0 datak0 data) ((data_68.set j_105.toNat (data_68.getD a.toNat 0)).set a.toNat (data_68.getD j_105.toNat 0))] (fun G => xS (SoI [0] sh3)) ?_))))
  refine Dn ⟨by kernel_rfl, fun G => ?_⟩
  refine Jw2 [(0, vl dataa0 datak0 data), (11, vi j_105)] [] [os (vl dataa0 datak0 data) ((data_68.set j_105.toNat (data_68.getD a.toNat 0)).set a.toNat (data_68.getD j_105.toNat 0))] ?_
  refine KS ?_
  refine Oq Vm (Oq Va (Oq Va (KS ?_)))
  refine Fl 0 fun hn138 => ?_
  have hq := q4 hrr (j_105, false, ((data_68.set j_105.toNat (data_68.getD a.toNat 0)).set a.toNat (data_68.getD j_105.toNat 0))) (by simp only [sc_partitionOrdered_int, h59, h133, hR11, hR36, hR85, hR110, hR135, cs4]); subst hq
  exact Kr () rfl (.tmp rfl (.tmp rfl .nil)) [0] en
 intro h133
 have g139 := df h133
 refine KS ?_
 refine JK_drawK [0, 0, 0, 0, 0, 0, 48, 112, 0, 0, 768, 1792, 4083, 8179, 16383, 32767] fmix ?_
 refine Dv [] Vm (Dv [] Vm (Dv [] Vm (Dv [] Vm (Dv [] Vm (Dv [] Vm (Dv [0] (Vi sl22 0) ?_))))))
 have hb140 := ok1 (i := j_105.toNat) ho131 rng
 refine Dv [0] (VldI sh3 0) (Dv [] Vm (Dv [] Vm (Dv [0] (Vi sl22 0) ?_)))
 have hb141 := ok1 (i := i_80.toNat) ho131 rng
 refine Dv [0] (VldI sh3 0) (Dv [0] (Vi sl22 0) (Dx0 [0] [0] [0] [fun G => os (vl dataa0 datak0 data) (data_68.set i_80.toNat (data_68.getD j_105.toNat 0))] (fun G => xS (SoI [0] sh3)) (Dv [1] (Vi sl22 0) (Dx0 [1] [1] [0] [fun G => os (vl dataa0 datak0 data) ((data_68.set i_80.toNat (data_68.getD j_105.toNat 0)).set j_105.toNat (data_68.getD i_80.toNat 0))] (fun G => xS (SoI [0] sh3)) ?_))))
 refine Dn ⟨by kernel_rfl, fun G => ?_⟩
 refine Jw2 [(0, vl dataa0 datak0 data), (1, vi a), (10, vi i_80), (11, vi j_105)] [] [os (vl dataa0 datak0 data) ((data_68.set i_80.toNat (data_68.getD j_105.toNat 0)).set j_105.toNat (data_68.getD i_80.toNat 0))] ?_
 refine KS ?_
 refine Oq Vm (Oq Vadd (Oq Va (KS ?_)))
 refine Oq Vm (Oq Vsub (Oq Va (KS ?_)))
 exact Kg (r67, ((data_68.set i_80.toNat (data_68.getD j_105.toNat 0)).set j_105.toNat (data_68.getD i_80.toNat 0)), (i_80 + 1), (j_105 - 1)) [0] ⟨(q3 hM71 (by simp only [sc_partitionOrdered_int_L2, h133, hR85, hR110, cs4])), aM1, aM1, iv1⟩
end Go.SL.G
