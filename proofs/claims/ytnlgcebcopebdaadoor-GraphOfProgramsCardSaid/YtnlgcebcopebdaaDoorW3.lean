/- Part 3 of the walks: mirrors, plain laws and walks used by the last text of this claim. -/
import Derived.Test.YtnlgcebcopebdaaDoorW2
import Derived.Test.YtnlgcebcopebdaaDoorProg
set_option linter.unusedVariables false
set_option linter.unusedSimpArgs false
namespace Go.SL.G
open Go Go.SL Go.Proofs
set_option maxHeartbeats 20000000
set_option maxRecDepth 100000
theorem pt3 (a : Int) (d : List Int) (j : Int) : ∀ (r : Nat) (i : Int), j + 1 - i < (r : Int) -> 0 < r -> ∃ i', QaG a d j r i = .brk i' /\ i <= i' /\ (i' <= j + 1 \/ i' = i) /\ (∀ k, i <= k -> k < i' -> gi 0 d k < gi 0 d a) /\ (i' <= j -> gi 0 d a <= gi 0 d i')
 | 0, i, h, h0 => by omega
 | r + 1, i, h, h0 => by
  rw [QaG]
  simp only [Qfl]
  by_cases c : i <= j
  ·simp only [decide_eq_true c, cond_true]
   by_cases s : d.getD i.toNat 0 < d.getD a.toNat 0
   ·simp only [decide_eq_true s, cond_true]
    obtain ⟨i', m1, m2, m3, m4, m5⟩ := pt3 a d j r (i + 1) (by omega) (by omega)
    refine ⟨i', m1, by omega, .inl (by omega), fun k h1 h2 => ?_, m5⟩
    by_cases e : k = i
    ·subst e; exact s
    ·exact m4 k (by omega) h2
   ·simp only [decide_eq_false s, cond_false]
    exact ⟨i, rfl, Int.le_refl _, .inr rfl, fun k h1 h2 => by omega, fun _ => by show d.getD a.toNat 0 <= d.getD i.toNat 0; omega⟩
  ·simp only [decide_eq_false c, cond_false]
   exact ⟨i, rfl, Int.le_refl _, .inr rfl, fun k h1 h2 => by omega, fun h => by omega⟩
theorem pt4 (a : Int) (d : List Int) (i : Int) : ∀ (r : Nat) (j : Int), j + 1 - i < (r : Int) -> 0 < r -> ∃ j', QaF a d i r j = .brk j' /\ j' <= j /\ (i - 1 <= j' \/ j' = j) /\ (∀ k, j' < k -> k <= j -> gi 0 d a <= gi 0 d k) /\ (i <= j' -> gi 0 d j' < gi 0 d a)
 | 0, j, h, h0 => by omega
 | r + 1, j, h, h0 => by
  rw [QaF]
  simp only [Qfl]
  by_cases c : i <= j
  ·simp only [decide_eq_true c, cond_true]
   by_cases s : d.getD j.toNat 0 < d.getD a.toNat 0
   ·simp only [decide_eq_true s, Bool.not_true, cond_false]
    exact ⟨j, rfl, Int.le_refl _, .inr rfl, fun k h1 h2 => by omega, fun _ => s⟩
   ·simp only [decide_eq_false s, Bool.not_false, cond_true]
    obtain ⟨j', m1, m2, m3, m4, m5⟩ := pt4 a d i r (j - 1) (by omega) (by omega)
    refine ⟨j', m1, by omega, .inl (by omega), fun k h1 h2 => ?_, m5⟩
    by_cases e : k = j
    ·subst e; show d.getD a.toNat 0 <= d.getD k.toNat 0; omega
    ·exact m4 k h1 (by omega)
  ·simp only [decide_eq_false c, cond_false]
   exact ⟨j, rfl, Int.le_refl _, .inr rfl, fun k h1 h2 => by omega, fun h => by omega⟩
theorem Qmy (d : List Int) (a b p : Int) : ∀ (r : Nat) (i : Int), QaU d a b p r i = QaG a (swp 0 d a p) (b - 1) r i
 | 0, i => by rw [QaU, QaG]
 | r + 1, i => by rw [QaU, QaG, Qmy d a b p r]; rfl
theorem Qnj (d : List Int) (a p i : Int) : ∀ (r : Nat) (j : Int), QaT d a p i r j = QaF a (swp 0 d a p) i r j
 | 0, j => by rw [QaT, QaF]
 | r + 1, j => by rw [QaT, QaF, Qnj d a p i r]; rfl
theorem pt2 {a b : Int} (h0 : 0 <= a) : ∀ (r : Nat) (d : List Int) (i j : Int), j + 1 - i < (r : Int) -> 0 < r -> a + 1 <= i -> i <= j + 2 -> a <= j -> j <= b - 1 -> b <= (d.length : Int) ->
  (∀ k, a < k -> k < i -> gi 0 d k < gi 0 d a) -> (∀ k, j < k -> k < b -> gi 0 d a <= gi 0 d k) ->
  ∃ d' j', Qa4 a b r d i j = .brk (d', j') /\ a <= j' /\ j' <= b - 1 /\ PI 0 d d' a b /\ (∀ k, a < k -> k <= j' -> gi 0 d' k < gi 0 d' a) /\ (∀ k, j' < k -> k < b -> gi 0 d' a <= gi 0 d' k)
 | 0, d, i, j, hr, hr0, hi, hij, haj, hj, hb, hA, hB => by omega
 | r + 1, d, i, j, hr, hr0, hi, hij, haj, hj, hb, hA, hB => by
  rw [Qa4]
  obtain ⟨i', m1, m2, m3, m4, m5⟩ := pt3 a d j ((b - a).toNat + 2) i (by omega) (by omega)
  obtain ⟨j', n1, n2, n3, n4, n5⟩ := pt4 a d i' ((b - a).toNat + 2) j (by omega) (by omega)
  rw [m1]; dsimp only; rw [n1]; dsimp only
  have hA' : ∀ k, a < k -> k < i' -> gi 0 d k < gi 0 d a := fun k h1 h2 => by
   by_cases e : k < i
   ·exact hA k h1 e
   ·exact m4 k (by omega) h2
  have hB' : ∀ k, j' < k -> k < b -> gi 0 d a <= gi 0 d k := fun k h1 h2 => by
   by_cases e : j < k
   ·exact hB k e h2
   ·exact n4 k h1 (by omega)
  by_cases c : j' < i'
  ·simp only [decide_eq_true c, cond_true]
   exact ⟨d, j', rfl, by omega, by omega, PI.refl _ _ _ _, fun k h1 h2 => hA' k h1 (by omega), hB'⟩
  ·simp only [decide_eq_false c, cond_false]
   have hl : i' ≠ j' := fun e => by have := m5 (by omega); have := n5 (by omega); subst e; omega
   have g : ∀ k, 0 <= k -> gi 0 (swp 0 d i' j') k = if k = j' then gi 0 d i' else if k = i' then gi 0 d j' else gi 0 d k := fun k hk => Qhx 0 ⟨by omega, by omega⟩ ⟨by omega, by omega⟩ hk
   have p1 := PI.swp 0 (d := d) (a := a) (b := b) (i := i') (j := j') h0 hb (by omega) (by omega)
   have ga : gi 0 (swp 0 d i' j') a = gi 0 d a := by rw [g a h0, if_neg (by omega), if_neg (by omega)]
   obtain ⟨d', q, k1, k2, k3, k4, k6, k7⟩ := pt2 (b := b) h0 r (swp 0 d i' j') (i' + 1) (j' - 1) (by omega) (by omega) (by omega) (by omega) (by omega) (by omega) (by rw [QeN]; exact hb)
    (fun k h1 h2 => by
     rw [ga, g k (by omega), if_neg (by omega)]
     by_cases e : k = i'
     ·rw [if_pos e]; exact n5 (by omega)
     ·rw [if_neg e]; exact hA' k h1 (by omega))
    (fun k h1 h2 => by
     rw [ga, g k (by omega)]
     by_cases e : k = j'
     ·rw [if_pos e]; exact m5 (by omega)
     ·rw [if_neg e, if_neg (by omega)]; exact hB' k (by omega) h2)
   exact ⟨d', q, k1, k2, k3, p1.trans 0 k4, k6, k7⟩
theorem Qsi {d : List Int} {a b p : Int} (h0 : 0 <= a) (hp : a <= p /\ p < b) (hb : b <= (d.length : Int)) : ∀ {r : Int × Bool × List Int}, Qae d a b p = r ->
  a <= r.1 /\ r.1 < b /\ PI 0 d r.2.2 a b /\ (∀ k, a <= k -> k < r.1 -> gi 0 r.2.2 k <= gi 0 r.2.2 r.1) /\ (∀ k, r.1 < k -> k < b -> gi 0 r.2.2 r.1 <= gi 0 r.2.2 k) := fun {r} h => by
 subst h
 have p0 := PI.swp 0 (d := d) (a := a) (b := b) (i := a) (j := p) h0 hb (by omega) (by omega)
 have e : (d.set a.toNat (d.getD p.toNat 0)).set p.toNat (d.getD a.toNat 0) = swp 0 d a p := rfl
 unfold Qae
 rw [Qmy]
 simp only [Qnj, e]
 generalize swp 0 d a p = d0 at p0
 have hb0 : b <= (d0.length : Int) := by rw [p0.len]; exact hb
 obtain ⟨i', m1, m2, m3, m4, m5⟩ := pt3 a d0 (b - 1) ((b - a).toNat + 2) (a + 1) (by omega) (by omega)
 rw [m1]; dsimp only
 obtain ⟨j', n1, n2, n3, n4, n5⟩ := pt4 a d0 i' ((b - a).toNat + 2) (b - 1) (by omega) (by omega)
 rw [n1]; dsimp only
 have hA' : ∀ k, a < k -> k < i' -> gi 0 d0 k < gi 0 d0 a := fun k h1 h2 => m4 k (by omega) h2
 have hB' : ∀ k, j' < k -> k < b -> gi 0 d0 a <= gi 0 d0 k := fun k h1 h2 => n4 k h1 (by omega)
 by_cases c : j' < i'
 ·simp only [decide_eq_true c, cond_true]
  obtain ⟨q1, q2, q3⟩ := QoW (d := d0) (a := a) (b := b) (m := j') h0 (by omega) hb0 (fun k h1 h2 => hA' k h1 (by omega)) hB'
  exact ⟨by omega, by omega, p0.trans 0 q1, q2, q3⟩
 ·simp only [decide_eq_false c, cond_false]
  have hl : i' ≠ j' := fun e => by have := m5 (by omega); have := n5 (by omega); subst e; omega
  have g : ∀ k, 0 <= k -> gi 0 (swp 0 d0 i' j') k = if k = j' then gi 0 d0 i' else if k = i' then gi 0 d0 j' else gi 0 d0 k := fun k hk => Qhx 0 ⟨by omega, by omega⟩ ⟨by omega, by omega⟩ hk
  have p1 := PI.swp 0 (d := d0) (a := a) (b := b) (i := i') (j := j') h0 hb0 (by omega) (by omega)
  have ga : gi 0 (swp 0 d0 i' j') a = gi 0 d0 a := by rw [g a h0, if_neg (by omega), if_neg (by omega)]
  obtain ⟨d', q, k1, k2, k3, k4, k6, k7⟩ := pt2 (b := b) h0 ((b - a).toNat + 2) (swp 0 d0 i' j') (i' + 1) (j' - 1) (by omega) (by omega) (by omega) (by omega) (by omega) (by omega) (by rw [QeN]; exact hb0)
   (fun k h1 h2 => by
    rw [ga, g k (by omega), if_neg (by omega)]
    by_cases e : k = i'
    ·rw [if_pos e]; exact n5 (by omega)
    ·rw [if_neg e]; exact hA' k h1 (by omega))
   (fun k h1 h2 => by
    rw [ga, g k (by omega)]
    by_cases e : k = j'
    ·rw [if_pos e]; exact m5 (by omega)
    ·rw [if_neg e, if_neg (by omega)]; exact hB' k (by omega) h2)
  have e2 : (d0.set i'.toNat (d0.getD j'.toNat 0)).set j'.toNat (d0.getD i'.toNat 0) = swp 0 d0 i' j' := rfl
  rw [e2, k1]; dsimp only
  obtain ⟨q1, q2, q3⟩ := QoW (d := d') (a := a) (b := b) (m := q) h0 (by omega) (by rw [k4.len, QeN]; exact hb0) k6 k7
  exact ⟨by omega, by omega, (p0.trans 0 (p1.trans 0 k4)).trans 0 q1, q2, q3⟩
theorem Qsc {a : Int} {d : List Int} {j : Int} {r : Nat} {i : Int} (h : j + 1 - i < (r : Int)) (h0 : 0 < r) : QaG a d j r i ≠ .oof := by
 obtain ⟨_, e, _⟩ := pt3 a d j r i h h0; exact QlH e
theorem QrJ {a : Int} {d : List Int} {i : Int} {r : Nat} {j : Int} (h : j + 1 - i < (r : Int)) (h0 : 0 < r) : QaF a d i r j ≠ .oof := by
 obtain ⟨_, e, _⟩ := pt4 a d i r j h h0; exact QlH e
theorem QsT {d : List Int} {a b p : Int} {r : Nat} {i : Int} (h : b - i < (r : Int)) (h0 : 0 < r) : QaU d a b p r i ≠ .oof := by
 rw [Qmy]; exact Qsc (by omega) h0
theorem Qtd {d : List Int} {a p i : Int} {r : Nat} {j : Int} (h : j + 1 - i < (r : Int)) (h0 : 0 < r) : QaT d a p i r j ≠ .oof := by
 rw [Qnj]; exact QrJ h h0
theorem Qr4 {a b : Int} : ∀ (r : Nat) (d : List Int) (i j : Int), j + 1 - i < (r : Int) -> 0 < r -> a + 1 <= i -> i <= j + 2 -> j <= b - 1 -> Qa4 a b r d i j ≠ .oof
 | 0, d, i, j, hr, hr0, hi, hij, hj => by omega
 | r + 1, d, i, j, hr, hr0, hi, hij, hj => by
  rw [Qa4]
  obtain ⟨i', m1, m2, m3, m4, m5⟩ := pt3 a d j ((b - a).toNat + 2) i (by omega) (by omega)
  obtain ⟨j', n1, n2, n3, n4, n5⟩ := pt4 a d i' ((b - a).toNat + 2) j (by omega) (by omega)
  rw [m1]; dsimp only; rw [n1]; dsimp only
  by_cases c : j' < i'
  ·rw [decide_eq_true c]; intro h; cases h
  ·rw [decide_eq_false c, cond_false]; exact Qr4 r _ _ _ (by omega) (by omega) (by omega) (by omega) (by omega)
def pdT (rc : List Int -> Int -> Int -> Int -> List Int) (r : Nat) (a b lim : Int) (d : List Int) (p : Int) : LR Unit (List Int) :=
 bif decide (((Qae d a b p).1 - a) < (b - (Qae d a b p).1)) then
  Qaa rc r (rc (Qae d a b p).2.2 a (Qae d a b p).1 lim) ((Qae d a b p).1 + 1) b lim (decide (((b - a) / 8) <= ((Qae d a b p).1 - a))) (Qae d a b p).2.1
 else
  Qaa rc r (rc (Qae d a b p).2.2 ((Qae d a b p).1 + 1) b lim) a (Qae d a b p).1 lim (decide (((b - a) / 8) <= (b - (Qae d a b p).1))) (Qae d a b p).2.1
def pdS (rc : List Int -> Int -> Int -> Int -> List Int) (r : Nat) (a b lim : Int) (wb wp : Bool) (d : List Int) (p : Int) : LR Unit (List Int) :=
 bif decide (0 < a) then
  bif (!(Qar (d.getD ((a - 1) : Int).toNat 0) (d.getD (p : Int).toNat 0))) then
   Qaa rc r (Qao d a b p).2 (Qao d a b p).1 b lim wb wp
  else pdT rc r a b lim d p
 else pdT rc r a b lim d p
def pdP (rc : List Int -> Int -> Int -> Int -> List Int) (r : Nat) (a b lim : Int) (wb wp : Bool) (d : List Int) (p : Int) : LR Unit (List Int) :=
 bif (Qam d a b).1 then .ret (Qam d a b).2 else pdS rc r a b lim wb wp (Qam d a b).2 p
theorem Qo1 (rc : List Int -> Int -> Int -> Int -> List Int) (r : Nat) (d : List Int) (a b lim : Int) (wb wp : Bool) : Qaa rc (r + 1) d a b lim wb wp =
  (bif decide ((b - a) <= 12) then .ret (Qbu d a b)
  else bif (lim == 0) then .ret (QbM d a b)
  else bif (!wb) then
   (bif ((Qal (QaJ d a b) a b).2 == 2) then
    pdS rc r a b (lim - 1) wb wp (Qa3 (QaJ d a b) a b) ((b - 1) - ((Qal (QaJ d a b) a b).1 - a))
   else pdS rc r a b (lim - 1) wb wp (QaJ d a b) (Qal (QaJ d a b) a b).1)
  else
   (bif ((Qal d a b).2 == 2) then
    (bif wp then pdP rc r a b lim wb wp (Qa3 d a b) ((b - 1) - ((Qal d a b).1 - a))
    else pdS rc r a b lim wb wp (Qa3 d a b) ((b - 1) - ((Qal d a b).1 - a)))
   else
    (bif wp then
     (bif ((Qal d a b).2 == 1) then pdP rc r a b lim wb wp d (Qal d a b).1
     else pdS rc r a b lim wb wp d (Qal d a b).1)
    else pdS rc r a b lim wb wp d (Qal d a b).1))) := by
 rw [Qaa]
 rfl
theorem pdl {rc : List Int -> Int -> Int -> Int -> List Int} {n N : Nat} (hN : N <= 65535)
  (hrc : ∀ (d : List Int) (a b lim : Int), (b - a).toNat < n -> 0 <= a -> a <= b -> b <= (d.length : Int) -> d.length = N -> LB 0 idk d a b -> PI 0 d (rc d a b lim) a b /\ Srt 0 idk (rc d a b lim) a b) :
  ∀ (r : Nat) (d : List Int) (a b lim : Int) (wb wp : Bool), b - a < (r : Int) -> 0 < r -> (b - a).toNat <= n -> 0 <= a -> a <= b -> b <= (d.length : Int) -> d.length = N -> LB 0 idk d a b ->
   ∃ d', Qaa rc r d a b lim wb wp = .ret d' /\ PI 0 d d' a b /\ Srt 0 idk d' a b
 | 0, d, a, b, lim, wb, wp, hr, hr0, hn, h0, hab, hb, hd, hl => by omega
 | r + 1, d, a, b, lim, wb, wp, hr, hr0, hn, h0, hab, hb, hd, hl => by
  rw [Qo1]
  by_cases c0 : b - a <= 12
  ·rw [decide_eq_true c0, cond_true]
   obtain ⟨k1, k2⟩ := Qpn (d := d) h0 hab hb
   exact ⟨_, rfl, k1, k2⟩
  rw [decide_eq_false c0, cond_false]
  -- what is behind a pivot
  have fT : ∀ (lim : Int) (d : List Int) (p : Int), a <= p -> p < b -> b <= (d.length : Int) -> d.length = N -> LB 0 idk d a b -> ∃ d', pdT rc r a b lim d p = .ret d' /\ PI 0 d d' a b /\ Srt 0 idk d' a b := fun lim d p hp1 hp2 hb hd hl => by
   unfold pdT
   obtain ⟨m1, m2, m3, m4, m5⟩ := Qsi (d := d) (a := a) (b := b) (p := p) h0 ⟨hp1, hp2⟩ hb rfl
   generalize Qae d a b p = q at *
   have hb1 : b <= (q.2.2.length : Int) := by rw [m3.len]; exact hb
   have hd1 : q.2.2.length = N := by rw [m3.len]; exact hd
   have hl1 := hl.pi 0 idk m3
   by_cases c : q.1 - a < b - q.1
   ·rw [decide_eq_true c, cond_true]
    obtain ⟨k1, k2⟩ := hrc q.2.2 a q.1 lim (by omega) h0 m1 (by omega) hd1 (fun ha j h1 h2 => hl1 ha j h1 (by omega))
    generalize rc q.2.2 a q.1 lim = d2 at *
    have em : gi 0 d2 q.1 = gi 0 q.2.2 q.1 := k1.out q.1 (by omega) (by omega)
    obtain ⟨d', n1, n2, n3⟩ := pdl hN hrc r d2 (q.1 + 1) b lim (decide ((b - a) / 8 <= q.1 - a)) q.2.1 (by omega) (by omega) (by omega) (by omega) (by omega) (by rw [k1.len]; exact hb1) (by rw [k1.len]; exact hd1)
     (fun _ j h1 h2 => by
      show gi 0 d2 (q.1 + 1 - 1) <= gi 0 d2 j
      rw [show q.1 + 1 - 1 = q.1 by omega, em, k1.out j (by omega) (by omega)]
      exact m5 j (by omega) h2)
    refine ⟨d', n1, (m3.trans 0 (k1.mono 0 h0 (Int.le_refl _) (by omega))).trans 0 (n2.mono 0 h0 (by omega) (Int.le_refl _)), QlD (d1 := q.2.2) ⟨m1, m2⟩ m4 m5 (fun k h1 h2 => ?_) ?_ (fun k h1 h2 => ?_) (k2.pi 0 idk h0 n2 (.inl (by omega))) n3⟩
    ·obtain ⟨s, s1, s2, s3⟩ := k1.src k h1 h2
     exact ⟨s, s1, s2, by rw [n2.out k (by omega) (by omega)]; exact s3⟩
    ·rw [n2.out q.1 (by omega) (by omega)]; exact em
    ·obtain ⟨s, s1, s2, s3⟩ := n2.src k h1 h2
     exact ⟨s, s1, s2, by rw [s3, k1.out s (by omega) (by omega)]⟩
   ·rw [decide_eq_false c, cond_false]
    obtain ⟨k1, k2⟩ := hrc q.2.2 (q.1 + 1) b lim (by omega) (by omega) (by omega) hb1 hd1 (fun _ j h1 h2 => by
     show gi 0 _ (q.1 + 1 - 1) <= gi 0 _ j
     rw [show q.1 + 1 - 1 = q.1 by omega]
     exact m5 j (by omega) h2)
    generalize rc q.2.2 (q.1 + 1) b lim = d2 at *
    have em : gi 0 d2 q.1 = gi 0 q.2.2 q.1 := k1.out q.1 (by omega) (by omega)
    obtain ⟨d', n1, n2, n3⟩ := pdl hN hrc r d2 a q.1 lim (decide ((b - a) / 8 <= b - q.1)) q.2.1 (by omega) (by omega) (by omega) h0 m1 (by rw [k1.len]; omega) (by rw [k1.len]; exact hd1)
     (fun ha j h1 h2 => by
      show gi 0 d2 (a - 1) <= gi 0 d2 j
      rw [k1.out (a - 1) (by omega) (by omega), k1.out j (by omega) (by omega)]
      exact hl1 ha j h1 (by omega))
    refine ⟨d', n1, (m3.trans 0 (k1.mono 0 h0 (by omega) (Int.le_refl _))).trans 0 (n2.mono 0 h0 (Int.le_refl _) (by omega)), QlD (d1 := q.2.2) ⟨m1, m2⟩ m4 m5 (fun k h1 h2 => ?_) ?_ (fun k h1 h2 => ?_) n3 (k2.pi 0 idk (by omega) n2 (.inr (by omega)))⟩
    ·obtain ⟨s, s1, s2, s3⟩ := n2.src k h1 h2
     exact ⟨s, s1, s2, by rw [s3, k1.out s (by omega) (by omega)]⟩
    ·rw [n2.out q.1 (by omega) (by omega)]; exact em
    ·obtain ⟨s, s1, s2, s3⟩ := k1.src k h1 h2
     exact ⟨s, s1, s2, by rw [n2.out k (by omega) (by omega)]; exact s3⟩
  have fS : ∀ (lim : Int) (d : List Int) (p : Int), a <= p -> p < b -> b <= (d.length : Int) -> d.length = N -> LB 0 idk d a b -> ∃ d', pdS rc r a b lim wb wp d p = .ret d' /\ PI 0 d d' a b /\ Srt 0 idk d' a b := fun lim d p hp1 hp2 hb hd hl => by
   unfold pdS
   by_cases c1 : 0 < a
   ·rw [decide_eq_true c1, cond_true, Qfl]
    by_cases c2 : d.getD (a - 1).toNat 0 < d.getD p.toNat 0
    ·rw [decide_eq_true c2, Bool.not_true, cond_false]
     exact fT lim d p hp1 hp2 hb hd hl
    ·rw [decide_eq_false c2, Bool.not_false, cond_true]
     obtain ⟨m1, m2, m3, m4, m5, m6⟩ := QrC (d := d) (a := a) (b := b) (p := p) h0 ⟨hp1, hp2⟩ hb rfl
     generalize Qao d a b p = q at *
     have ha := hl c1 p hp1 hp2
     have hpv : gi 0 d p = gi 0 d (a - 1) := by
      have h1 : gi 0 d (a - 1) <= gi 0 d p := ha
      have h2 : ¬ gi 0 d (a - 1) < gi 0 d p := c2
      omega
     have hl1 := hl.pi 0 idk m3
     have hall : ∀ k, a <= k -> k < q.1 -> gi 0 q.2 k = gi 0 d p := fun k h1 h2 => by
      have g1 := m5 k h1 h2
      have g2 : gi 0 q.2 (a - 1) <= gi 0 q.2 k := hl1 c1 k h1 (by omega)
      rw [m3.out (a - 1) (by omega) (by omega)] at g2
      omega
     obtain ⟨d', n1, n2, n3⟩ := pdl hN hrc r q.2 q.1 b lim wb wp (by omega) (by omega) (by omega) (by omega) m2 (by rw [m3.len]; exact hb) (by rw [m3.len]; exact hd)
      (fun _ j h1 h2 => by
       show gi 0 q.2 (q.1 - 1) <= gi 0 q.2 j
       rw [hall (q.1 - 1) (by omega) (by omega)]
       have := m6 j h1 h2; omega)
     refine ⟨d', n1, m3.trans 0 (n2.mono 0 h0 (by omega) (Int.le_refl _)), fun i j h1 h2 h3 => ?_⟩
     show gi 0 d' i <= gi 0 d' j
     by_cases c3 : q.1 <= i
     ·exact n3 i j c3 h2 h3
     ·rw [n2.out i (by omega) (by omega), hall i h1 (by omega)]
      by_cases c4 : q.1 <= j
      ·obtain ⟨s, s1, s2, s3⟩ := n2.src j c4 h3
       rw [s3]; have := m6 s s1 s2; omega
      ·rw [n2.out j (by omega) (by omega), hall j (by omega) (by omega)]; exact Int.le_refl _
   ·rw [decide_eq_false c1, cond_false]
    exact fT lim d p hp1 hp2 hb hd hl
  have fP : ∀ (d : List Int) (p : Int), a <= p -> p < b -> b <= (d.length : Int) -> d.length = N -> LB 0 idk d a b -> ∃ d', pdP rc r a b lim wb wp d p = .ret d' /\ PI 0 d d' a b /\ Srt 0 idk d' a b := fun d p hp1 hp2 hb hd hl => by
   unfold pdP
   obtain ⟨k1, k2⟩ := QrX (d := d) (a := a) (b := b) h0 (by omega) hb hl
   generalize Qam d a b = q at *
   cases e : q.1
   ·rw [cond_false]
    obtain ⟨d', n1, n2, n3⟩ := fS lim q.2 p hp1 hp2 (by rw [k1.len]; exact hb) (by rw [k1.len]; exact hd) (hl.pi 0 idk k1)
    exact ⟨d', n1, k1.trans 0 n2, n3⟩
   ·rw [cond_true]
    exact ⟨q.2, rfl, k1, k2 e⟩
  -- what comes ahead
  have via : ∀ (X : LR Unit (List Int)) (d1 : List Int), PI 0 d d1 a b -> (∃ d', X = .ret d' /\ PI 0 d1 d' a b /\ Srt 0 idk d' a b) -> ∃ d', X = .ret d' /\ PI 0 d d' a b /\ Srt 0 idk d' a b := fun X d1 p1 ⟨d', n1, n2, n3⟩ => ⟨d', n1, p1.trans 0 n2, n3⟩
  by_cases c1 : lim = 0
  ·rw [beq_iff_eq.2 c1, cond_true]
   obtain ⟨k1, k2⟩ := QmI (d := d) h0 hab hb
   exact ⟨_, rfl, k1, k2⟩
  rw [beq_false_of_ne c1, cond_false]
  cases wb
  ·rw [Bool.not_false, cond_true]
   have p1 := Qq4 (d := d) (a := a) (b := b) h0 (by omega) hb (by omega)
   generalize QaJ d a b = d1 at *
   have hp := Qg1 d1 (a := a) (b := b) (by omega)
   generalize Qal d1 a b = pv at *
   have hb1 : b <= (d1.length : Int) := by rw [p1.len]; exact hb
   cases pv.2 == 2
   ·rw [cond_false]
    exact via _ d1 p1 (fS _ d1 _ hp.1 hp.2 hb1 (by rw [p1.len]; exact hd) (hl.pi 0 idk p1))
   ·rw [cond_true]
    have p2 := Qlt (d := d1) (a := a) (b := b) h0 hab hb1
    have p3 := p1.trans 0 p2
    exact via _ _ p3 (fS _ _ _ (by omega) (by omega) (by rw [p3.len]; exact hb) (by rw [p3.len]; exact hd) (hl.pi 0 idk p3))
  ·rw [Bool.not_true, cond_false]
   have hp := Qg1 d (a := a) (b := b) (by omega)
   generalize Qal d a b = pv at *
   cases pv.2 == 2
   ·rw [cond_false]
    cases wp
    ·rw [cond_false]; exact fS _ d _ hp.1 hp.2 hb hd hl
    ·rw [cond_true]
     cases pv.2 == 1
     ·rw [cond_false]; exact fS _ d _ hp.1 hp.2 hb hd hl
     ·rw [cond_true]; exact fP d _ hp.1 hp.2 hb hd hl
   ·rw [cond_true]
    have p2 := Qlt (d := d) (a := a) (b := b) h0 hab hb
    cases wp
    ·rw [cond_false]; exact via _ _ p2 (fS _ _ _ (by omega) (by omega) (by rw [p2.len]; exact hb) (by rw [p2.len]; exact hd) (hl.pi 0 idk p2))
    ·rw [cond_true]; exact via _ _ p2 (fP _ _ (by omega) (by omega) (by rw [p2.len]; exact hb) (by rw [p2.len]; exact hd) (hl.pi 0 idk p2))
theorem QoI {N : Nat} (hN : N <= 65535) : ∀ (fu : Nat) (d : List Int) (a b lim : Int), (b - a).toNat < fu -> 0 <= a -> a <= b -> b <= (d.length : Int) -> d.length = N -> LB 0 idk d a b -> PI 0 d (Qa6 fu d a b lim) a b /\ Srt 0 idk (Qa6 fu d a b lim) a b
 | 0, d, a, b, lim, h, h0, hab, hb, hd, hl => by omega
 | fu + 1, d, a, b, lim, h, h0, hab, hb, hd, hl => by
  rw [Qa6]
  unfold QbJ
  obtain ⟨d', k1, k2, k3⟩ := pdl (rc := Qa6 fu) (n := fu) hN (fun d a b lim h1 h2 h3 h4 h5 h6 => QoI hN fu d a b lim h1 h2 h3 h4 h5 h6) ((b - a).toNat + 1) d a b lim true true (by omega) (by omega) (by omega) h0 hab hb hd hl
  rw [k1]
  exact ⟨k2, k3⟩
theorem QmW {rc : List Int -> Int -> Int -> Int -> List Int} {n N : Nat} (hN : N <= 65535)
  (hrc : ∀ (d : List Int) (a b lim : Int), 0 <= a -> a <= b -> b <= (d.length : Int) -> d.length <= 65535 -> (b - a).toNat < n -> (rc d a b lim).length = d.length) :
  ∀ (r : Nat) (d : List Int) (a b lim : Int) (wb wp : Bool), b - a < (r : Int) -> 0 < r -> (b - a).toNat <= n -> 0 <= a -> a <= b -> b <= (d.length : Int) -> d.length = N ->
   ∃ d', Qaa rc r d a b lim wb wp = .ret d' /\ d'.length = N
 | 0, d, a, b, lim, wb, wp, hr, hr0, hn, h0, hab, hb, hd => by omega
 | r + 1, d, a, b, lim, wb, wp, hr, hr0, hn, h0, hab, hb, hd => by
  rw [Qo1]
  by_cases c0 : b - a <= 12
  ·rw [decide_eq_true c0, cond_true]
   exact ⟨_, rfl, by rw [(Qpn (d := d) h0 hab hb).1.len]; exact hd⟩
  rw [decide_eq_false c0, cond_false]
  have fT : ∀ (lim : Int) (d : List Int) (p : Int), a <= p -> p < b -> b <= (d.length : Int) -> d.length = N -> ∃ d', pdT rc r a b lim d p = .ret d' /\ d'.length = N := fun lim d p hp1 hp2 hb hd => by
   unfold pdT
   obtain ⟨m1, m2, m3, m4, m5⟩ := Qsi (d := d) (a := a) (b := b) (p := p) h0 ⟨hp1, hp2⟩ hb rfl
   generalize Qae d a b p = q at *
   have e := m3.len
   cases decide (q.1 - a < b - q.1)
   ·have k := hrc q.2.2 (q.1 + 1) b lim (by omega) (by omega) (by omega) (by omega) (by omega)
    exact QmW hN hrc r _ _ _ _ _ _ (by omega) (by omega) (by omega) h0 m1 (by omega) (by omega)
   ·have k := hrc q.2.2 a q.1 lim (by omega) (by omega) (by omega) (by omega) (by omega)
    exact QmW hN hrc r _ _ _ _ _ _ (by omega) (by omega) (by omega) (by omega) (by omega) (by omega) (by omega)
  have fS : ∀ (lim : Int) (d : List Int) (p : Int), a <= p -> p < b -> b <= (d.length : Int) -> d.length = N -> ∃ d', pdS rc r a b lim wb wp d p = .ret d' /\ d'.length = N := fun lim d p hp1 hp2 hb hd => by
   unfold pdS
   cases decide (0 < a)
   ·exact fT lim d p hp1 hp2 hb hd
   ·cases Qar (d.getD (a - 1).toNat 0) (d.getD p.toNat 0)
    ·obtain ⟨m1, m2, m3, m4, m5, m6⟩ := QrC (d := d) (a := a) (b := b) (p := p) h0 ⟨hp1, hp2⟩ hb rfl
     generalize Qao d a b p = q at *
     have e := m3.len
     exact QmW hN hrc r _ _ _ _ _ _ (by omega) (by omega) (by omega) (by omega) (by omega) (by omega) (by omega)
    ·exact fT lim d p hp1 hp2 hb hd
  have fP : ∀ (d : List Int) (p : Int), a <= p -> p < b -> b <= (d.length : Int) -> d.length = N -> ∃ d', pdP rc r a b lim wb wp d p = .ret d' /\ d'.length = N := fun d p hp1 hp2 hb hd => by
   unfold pdP
   have k1 := Qs4 (d := d) (a := a) (b := b) (by omega) hb
   generalize Qam d a b = q at *
   cases q.1
   ·exact fS lim q.2 p hp1 hp2 (by omega) (by omega)
   ·exact ⟨q.2, rfl, by omega⟩
  by_cases c1 : lim = 0
  ·rw [beq_iff_eq.2 c1, cond_true]
   exact ⟨_, rfl, by rw [(QmI (d := d) h0 hab hb).1.len]; exact hd⟩
  rw [beq_false_of_ne c1, cond_false]
  cases wb
  ·rw [Bool.not_false, cond_true]
   have p1 := (Qq4 (d := d) (a := a) (b := b) h0 (by omega) hb (by omega)).len
   generalize QaJ d a b = d1 at *
   have hp := Qg1 d1 (a := a) (b := b) (by omega)
   generalize Qal d1 a b = pv at *
   cases pv.2 == 2
   ·exact fS _ d1 _ hp.1 hp.2 (by omega) (by omega)
   ·have p2 := (Qlt (d := d1) (a := a) (b := b) h0 hab (by omega)).len
    exact fS _ _ _ (by omega) (by omega) (by omega) (by omega)
  ·rw [Bool.not_true, cond_false]
   have hp := Qg1 d (a := a) (b := b) (by omega)
   generalize Qal d a b = pv at *
   cases pv.2 == 2
   ·cases wp
    ·exact fS _ d _ hp.1 hp.2 hb hd
    ·cases pv.2 == 1
     ·exact fS _ d _ hp.1 hp.2 hb hd
     ·exact fP d _ hp.1 hp.2 hb hd
   ·have p2 := (Qlt (d := d) (a := a) (b := b) h0 hab hb).len
    cases wp
    ·exact fS _ _ _ (by omega) (by omega) (by omega) (by omega)
    ·exact fP _ _ (by omega) (by omega) (by omega) (by omega)
theorem QtK {rc : List Int -> Int -> Int -> Int -> List Int} {n : Nat} (hrc : ∀ (d : List Int) (a b lim : Int), 0 <= a -> a <= b -> b <= (d.length : Int) -> d.length <= 65535 -> (b - a).toNat < n -> (rc d a b lim).length = d.length)
  {r : Nat} {d : List Int} {a b lim : Int} {wb wp : Bool} (h1 : b - a < (r : Int)) (h2 : 0 < r) (h3 : (b - a).toNat <= n) (h4 : 0 <= a) (h5 : a <= b) (h6 : b <= (d.length : Int)) (h7 : d.length <= 65535) : Qaa rc r d a b lim wb wp ≠ .oof := by
 obtain ⟨d', k, _⟩ := QmW (N := d.length) h7 hrc r d a b lim wb wp h1 h2 h3 h4 h5 h6 rfl
 intro e; rw [k] at e; cases e
theorem Qrt : ∀ (fu : Nat) (d : List Int) (a b lim : Int), (b - a).toNat < fu -> 0 <= a -> a <= b -> b <= (d.length : Int) -> d.length <= 65535 -> (Qa6 fu d a b lim).length = d.length
 | 0, d, a, b, lim, h, h0, hab, hb, hd => by omega
 | fu + 1, d, a, b, lim, h, h0, hab, hb, hd => by
  rw [Qa6]
  unfold QbJ
  obtain ⟨d', k1, k2⟩ := QmW (rc := Qa6 fu) (n := fu) (N := d.length) hd (fun d a b lim h1 h2 h3 h4 h5 => Qrt fu d a b lim h5 h1 h2 h3 h4) ((b - a).toNat + 1) d a b lim true true (by omega) (by omega) (by omega) h0 hab hb rfl
  rw [k1]
  exact k2
theorem Qqm (l : List Int) (hl : l.length <= 65535) : (Qca l).Perm l /\ (Qca l).Pairwise (· <= ·) := by
 unfold Qca
 dsimp only
 obtain ⟨k1, k2⟩ := QoI hl (l.length + 1) l 0 (l.length : Int) (Qen (BitVec.ofInt 64 ((l.length : Nat) : Int))) (by omega) (by omega) (by omega) (Int.le_refl _) rfl (fun h => by omega)
 generalize Qa6 (l.length + 1) l 0 (l.length : Int) (Qen (BitVec.ofInt 64 ((l.length : Nat) : Int))) = d' at *
 refine ⟨k1.perm, List.pairwise_iff_getElem.2 fun i j hi hj hij => ?_⟩
 have e := k1.len
 have := k2 (i : Int) (j : Int) (by omega) (by omega) (by omega)
 unfold gi at this
 rw [show ((i : Int)).toNat = i by omega, show ((j : Int)).toNat = j by omega, List.getD_eq_getElem?_getD, List.getD_eq_getElem?_getD, List.getElem?_eq_getElem hi, List.getElem?_eq_getElem hj] at this
 exact this
theorem QlK {l : List Int} {n : Nat} (h : EdL n l) (hn : n <= 20000) : Asc (Qca l) (n : Int) /\ (∀ x, x ∈ Qca l ↔ x ∈ l) /\ (Qca l).length = l.length := by
 obtain ⟨k1, k2⟩ := Qqm l (by have := Qjp h; omega)
 have hd : (Qca l).Nodup := k1.nodup_iff.2 h.1
 exact ⟨(QmS _ _).2 ⟨(k2.and hd).imp (fun hh => by omega), fun x hx => h.2 x (k1.mem_iff.1 hx)⟩, fun x => k1.mem_iff, k1.length_eq⟩
theorem QoY (l : List Qay) : ∀ (r : Nat) (m : List (Qay × Int)) (v : Int), v + (r : Int) = (l.length : Int) -> 0 <= v -> (∀ k, 0 <= (Qea m k).getD 0 /\ ((Qea m k).getD 0 < (l.length : Int) \/ (Qea m k).getD 0 = 0)) ->
  ∀ k, 0 <= (Qea (Qce l r m v) k).getD 0 /\ ((Qea (Qce l r m v) k).getD 0 < (l.length : Int) \/ (Qea (Qce l r m v) k).getD 0 = 0)
 | 0, m, v, hr, hv, h => by rw [Qce]; exact h
 | r + 1, m, v, hr, hv, h => by
  rw [Qce]
  refine QoY l r _ _ (by omega) (by omega) fun k => ?_
  rw [Qfm]
  split
  ·exact ⟨hv, .inl (by show v < _; omega)⟩
  ·exact h k
theorem Qm6 {l : List Qay} {m : List (Qay × Int)} (h : Qce l (((((l.length : Nat) : Int) : Int) - 0).toNat) [] 0 = m) (h0 : 0 < l.length) (hn : l.length <= 20000) :
  BOk (QaD.mk (Qbn.mk l (List.replicate (((l.length : Nat) : Int) : Int).toNat []) (List.replicate (((l.length : Nat) : Int) : Int).toNat [])) m) := by
 have e : (((l.length : Nat) : Int)).toNat = l.length := by omega
 have hm := QoY l (((((l.length : Nat) : Int) : Int) - 0).toNat) [] 0 (by omega) (by omega) (fun k => ⟨Int.le_refl _, .inr rfl⟩)
 rw [h] at hm
 refine ⟨by simp, by simpa using h0, by simpa using hn, fun x hx => ?_, fun x hx => ?_, fun i k h1 h2 h3 h4 => ?_, fun k => ?_⟩
 ·rw [List.eq_of_mem_replicate hx]; exact Qno _
 ·rw [List.eq_of_mem_replicate hx]; exact Qno _
 ·have gn : ∀ (n i : Nat), (List.replicate n ([] : List Int)).getD i [] = [] := fun n i => by
   rw [List.getD_eq_getElem?_getD, List.getElem?_replicate]; split <;> rfl
  show k ∈ (List.replicate _ []).getD _ [] ↔ i ∈ (List.replicate _ []).getD _ []
  rw [gn, gn]; simp
 ·have := hm k
  simp only [List.length_replicate, e]
  refine ⟨this.1, ?_⟩
  show (Qea m k).getD 0 < _
  omega
theorem bL1 (p : Qaj) (l : List Qay) : ∀ (r : Nat) (v : Int) (b : QaD), 0 <= v -> v + (r : Int) = (l.length : Int) ->
  (match QcC p l r b.g.Nodes b.g.Succ b.g.Pred b.number v with | (o0, o1, o2, o3) => QaD.mk (Qbn.mk o0 o1 o2) o3) = bed b ((l.drop v.toNat).flatMap (ned b.number p))
 | 0, v, b, h0, h1 => by rw [QcC, List.drop_of_length_le (by omega)]; rfl
 | r + 1, v, b, h0, h1 => by
  rw [QcC, Qek h0 (by omega), List.flatMap_cons, Qpv]
  have h2 := bL1 p l r (v + 1) (bed b (ned b.number p (l.getD v.toNat default))) (by omega) (by omega)
  refine Eq.trans ?_ (h2.trans (by rw [(Qlc _ _).1]))
  unfold ned
  by_cases c1 : (l.getD v.toNat default).Kind = 1
  ·rw [beq_iff_eq.2 c1, cond_true, if_pos c1]; rfl
  rw [beq_eq_false_iff_ne.2 c1, cond_false, if_neg c1]
  by_cases c3 : (l.getD v.toNat default).Kind = 3
  ·rw [beq_iff_eq.2 c3, cond_true, if_pos c3]
   dsimp only
   rw [Qn0]
   rfl
  ·rw [beq_eq_false_iff_ne.2 c3, cond_false, if_neg c3]; rfl
theorem bL2 : ∀ (r : Nat) (v : Int) (b1 b2 : List (List Int)), 0 <= v -> v + (r : Int) = (b1.length : Int) -> b2.length = b1.length ->
  (QcZ r b1 b2 v).1.length = b1.length /\ (QcZ r b1 b2 v).2.length = b1.length /\ ∀ k : Nat, k < b1.length ->
   (QcZ r b1 b2 v).1.getD k [] = (if v <= (k : Int) then Qca (b1.getD k []) else b1.getD k []) /\ (QcZ r b1 b2 v).2.getD k [] = (if v <= (k : Int) then Qca (b2.getD k []) else b2.getD k [])
 | 0, v, b1, b2, h0, h1, h2 => by
  rw [QcZ]
  refine ⟨rfl, h2, fun k hk => ?_⟩
  rw [if_neg (by omega), if_neg (by omega)]; exact ⟨rfl, rfl⟩
 | r + 1, v, b1, b2, h0, h1, h2 => by
  rw [QcZ]
  obtain ⟨a1, a2, a3⟩ := bL2 r (v + 1) (b1.set v.toNat (Qca (b1.getD v.toNat []))) (b2.set v.toNat (Qca (b2.getD v.toNat []))) (by omega) (by rw [List.length_set]; omega) (by rw [List.length_set, List.length_set]; exact h2)
  rw [List.length_set] at a1 a2 a3
  refine ⟨a1, a2, fun k hk => ?_⟩
  obtain ⟨c1, c2⟩ := a3 k hk
  rw [QsA (by omega)] at c1
  rw [QsA (by omega)] at c2
  by_cases e : k = v.toNat
  ·have q1 : ¬ v + 1 <= (k : Int) := by omega
   have q2 : v <= (k : Int) := by omega
   simp only [if_neg q1, if_pos q2, if_pos e] at c1 c2 ⊢
   rw [e] at c1 c2 ⊢
   exact ⟨c1, c2⟩
  ·simp only [if_neg e] at c1 c2
   by_cases c : v <= (k : Int)
   ·have q1 : v + 1 <= (k : Int) := by omega
    simp only [if_pos q1, if_pos c] at c1 c2 ⊢
    exact ⟨c1, c2⟩
   ·have q1 : ¬ v + 1 <= (k : Int) := by omega
    simp only [if_neg q1, if_neg c] at c1 c2 ⊢
    exact ⟨c1, c2⟩
def Qkv (l : List Qay) : List (Qay × Int) := Qce l (((((l.length : Nat) : Int) : Int) - 0).toNat) [] 0
theorem Qpe {l : List Qay} (hn : l.Nodup) : ∀ (r : Nat) (m : List (Qay × Int)) (v : Int), 0 <= v -> v + (r : Int) = (l.length : Int) -> (∀ j : Nat, (j : Int) < v -> Qea m (l.getD j default) = some (j : Int)) ->
  ∀ j : Nat, j < l.length -> Qea (Qce l r m v) (l.getD j default) = some (j : Int)
 | 0, m, v, h0, h1, h => by rw [Qce]; exact fun j hj => h j (by omega)
 | r + 1, m, v, h0, h1, h => by
  rw [Qce]
  refine Qpe hn r _ _ (by omega) (by omega) fun j hj => ?_
  rw [Qfm]
  by_cases e : (j : Int) = v
  ·rw [show v.toNat = j by omega, if_pos rfl, e]
  ·rw [if_neg, h j (by omega)]
   intro hh
   have h1' : v.toNat < l.length := by omega
   have h2' : j < l.length := by omega
   rw [List.getD_eq_getElem?_getD, List.getD_eq_getElem?_getD, List.getElem?_eq_getElem h1', List.getElem?_eq_getElem h2'] at hh
   exact absurd hh (fun hh => by
    have h3 := List.pairwise_iff_getElem.1 hn
    rcases Nat.lt_trichotomy v.toNat j with c | c | c
    ·exact h3 _ _ h1' h2' c hh
    ·omega
    ·exact h3 _ _ h2' h1' c hh.symm)
theorem Qsl {l : List Qay} (hn : l.Nodup) {j : Nat} (hj : j < l.length) : nmb (Qkv l) (l.getD j default) = (j : Int) := by
 unfold nmb Qkv
 rw [Qpe hn _ [] 0 (by omega) (by omega) (fun j hj => by omega) j hj]; rfl
theorem QsH (i k : Int) (S : List Qax) : ∀ (r : Nat) (a b v : Int), 0 <= v -> v + (r : Int) = (S.length : Int) -> (Qbj S r a b v).1 = a + ((nS i k v (S.drop v.toNat)).length : Int)
 | 0, a, b, v, _, _ => by rw [Qbj, List.drop_eq_nil_of_le (by omega), nS]; simp
 | r + 1, a, b, v, h0, h1 => by
  rw [Qbj, Qek h0 (by omega), nS, List.length_append]
  cases e : (S.getD v.toNat default).Op == 3
  ·cases (S.getD v.toNat default).Op == 8
   ·simp only [cond_false]; rw [QsH i k S r _ _ _ (by omega) (by omega)]; simp; omega
   ·simp only [cond_true, cond_false]; rw [QsH i k S r _ _ _ (by omega) (by omega)]; simp; omega
  ·simp only [cond_true]; rw [QsH i k S r _ _ _ (by omega) (by omega)]; simp; omega
theorem Quc (p : Qaj) (i : Int) : ∀ (r : Nat) (a b v : Int), 0 <= v -> v + (r : Int) = ((p.Funcs.getD i.toNat default).Blocks.length : Int) -> (Qbz p i r a b v).1 = a + ((nB i v ((p.Funcs.getD i.toNat default).Blocks.drop v.toNat)).length : Int)
 | 0, a, b, v, _, _ => by rw [Qbz, List.drop_eq_nil_of_le (by omega), nB]; simp
 | r + 1, a, b, v, h0, h1 => by
  rw [Qbz, Qek h0 (by omega), nB, List.length_append]
  have h2 := QsH i v (((p.Funcs.getD i.toNat default).Blocks.getD v.toNat default).Stmts) ((((((p.Funcs.getD i.toNat default).Blocks.getD v.toNat default).Stmts.length : Nat) : Int) - 0).toNat) a b 0 (by omega) (by omega)
  rcases e : Qbj (((p.Funcs.getD i.toNat default).Blocks.getD v.toNat default).Stmts) ((((((p.Funcs.getD i.toNat default).Blocks.getD v.toNat default).Stmts.length : Nat) : Int) - 0).toNat) a b 0 with ⟨x, y⟩
  rw [e] at h2
  dsimp only at h2 ⊢
  rw [Quc p i r x y (v + 1) (by omega) (by omega), h2, show (0 : Int).toNat = 0 from rfl, List.drop_zero]
  omega
theorem QuA (p : Qaj) : ∀ (r : Nat) (a b v : Int), 0 <= v -> v + (r : Int) = (p.Funcs.length : Int) -> (QcA p r a b v).1 = a + ((nF v (p.Funcs.drop v.toNat)).length : Int)
 | 0, a, b, v, _, _ => by rw [QcA, List.drop_eq_nil_of_le (by omega), nF]; simp
 | r + 1, a, b, v, h0, h1 => by
  rw [QcA, Qek h0 (by omega), nF]
  have h2 := Quc p v ((((p.Funcs.getD v.toNat default).Blocks.length : Nat) : Int) - 0).toNat (a + 2) (b + 1) 0 (by omega) (by omega)
  rcases e : Qbz p v ((((p.Funcs.getD v.toNat default).Blocks.length : Nat) : Int) - 0).toNat (a + 2) (b + 1) 0 with ⟨x, y⟩
  rw [e] at h2
  dsimp only at h2 ⊢
  rw [QuA p r x y (v + 1) (by omega) (by omega), h2, show (0 : Int).toNat = 0 from rfl, List.drop_zero]
  simp
  omega
theorem QsF (m : List (Qay × Int)) (p : Qaj) (i k : Int) (S : List Qax) (hS : S = (((p.Funcs.getD i.toNat default).Blocks).getD k.toNat default).Stmts) (ho : ∀ s ∈ S, Qaz s = true) : ∀ (r : Nat) (a b v : Int), 0 <= v -> v + (r : Int) = (S.length : Int) -> b + (((nS i k v (S.drop v.toNat)).flatMap (ned m p)).length : Int) <= (Qbj S r a b v).2
 | 0, a, b, v, _, _ => by rw [Qbj, List.drop_eq_nil_of_le (by omega), nS]; simp
 | r + 1, a, b, v, h0, h1 => by
  have hs := QpF (m := m) (p := p) (n := Qay.mk 3 i k v) (ho (S.getD v.toNat default) (Qb4 (by omega)))
  have e3 : ned m p (Qay.mk 3 i k v) = sed m p (Qay.mk 3 i k v) (S.getD v.toNat default) := by
   unfold ned stO
   rw [if_neg (show ¬ (3 : Int) = 1 by decide), if_pos rfl]
   show sed m p _ ((((p.Funcs.getD i.toNat default).Blocks).getD k.toNat default).Stmts.getD v.toNat default) = _
   rw [<- hS]
  have e4 : ned m p (Qay.mk 4 i k v) = [] := by unfold ned; rw [if_neg (show ¬ (4 : Int) = 1 by decide), if_neg (show ¬ (4 : Int) = 3 by decide)]
  rw [Qbj, Qek h0 (by omega), nS, List.flatMap_append, List.length_append]
  cases e : (S.getD v.toNat default).Op == 3
  ·have c3 : (S.getD v.toNat default).Op ≠ 3 := ne_of_beq_false e
   rw [if_neg c3] at hs
   simp only [cond_false, List.flatMap_cons, List.flatMap_nil, List.append_nil]
   rw [e3]
   cases e8 : (S.getD v.toNat default).Op == 8
   ·rw [if_neg (ne_of_beq_false e8)] at hs
    rw [cond_false]
    have := QsF m p i k S hS ho r (a + 1) (b + 1) (v + 1) (by omega) (by omega)
    omega
   ·rw [if_pos (eq_of_beq e8)] at hs
    rw [cond_true]
    have := QsF m p i k S hS ho r (a + 1) (b + 2) (v + 1) (by omega) (by omega)
    omega
  ·rw [if_pos (eq_of_beq e)] at hs
   simp only [cond_true, List.flatMap_cons, List.flatMap_nil, List.append_nil]
   rw [e3, e4, List.append_nil]
   have := QsF m p i k S hS ho r (a + 1 + 1) (b + 3) (v + 1) (by omega) (by omega)
   omega
theorem QtS (m : List (Qay × Int)) (p : Qaj) (i : Int) (ho : ∀ b ∈ (p.Funcs.getD i.toNat default).Blocks, ∀ s ∈ b.Stmts, Qaz s = true) : ∀ (r : Nat) (a b v : Int), 0 <= v -> v + (r : Int) = ((p.Funcs.getD i.toNat default).Blocks.length : Int) -> b + (((nB i v ((p.Funcs.getD i.toNat default).Blocks.drop v.toNat)).flatMap (ned m p)).length : Int) <= (Qbz p i r a b v).2
 | 0, a, b, v, _, _ => by rw [Qbz, List.drop_eq_nil_of_le (by omega), nB]; simp
 | r + 1, a, b, v, h0, h1 => by
  rw [Qbz, Qek h0 (by omega), nB, List.flatMap_append, List.length_append]
  have h2 := QsF m p i v (((p.Funcs.getD i.toNat default).Blocks.getD v.toNat default).Stmts) rfl (ho _ (Qb4 (by omega))) ((((((p.Funcs.getD i.toNat default).Blocks.getD v.toNat default).Stmts.length : Nat) : Int) - 0).toNat) a b 0 (by omega) (by omega)
  rcases e : Qbj (((p.Funcs.getD i.toNat default).Blocks.getD v.toNat default).Stmts) ((((((p.Funcs.getD i.toNat default).Blocks.getD v.toNat default).Stmts.length : Nat) : Int) - 0).toNat) a b 0 with ⟨x, y⟩
  rw [e] at h2
  dsimp only at h2 ⊢
  have h3 := QtS m p i ho r x y (v + 1) (by omega) (by omega)
  rw [show (0 : Int).toNat = 0 from rfl, List.drop_zero] at h2
  omega
theorem Qua (m : List (Qay × Int)) (p : Qaj) (ho : ∀ f ∈ p.Funcs, ∀ b ∈ f.Blocks, ∀ s ∈ b.Stmts, Qaz s = true) : ∀ (r : Nat) (a b v : Int), 0 <= v -> v + (r : Int) = (p.Funcs.length : Int) -> b + (((nF v (p.Funcs.drop v.toNat)).flatMap (ned m p)).length : Int) <= (QcA p r a b v).2
 | 0, a, b, v, _, _ => by rw [QcA, List.drop_eq_nil_of_le (by omega), nF]; simp
 | r + 1, a, b, v, h0, h1 => by
  rw [QcA, Qek h0 (by omega), nF]
  have h2 := QtS m p v (ho _ (Qb4 (by omega))) ((((p.Funcs.getD v.toNat default).Blocks.length : Nat) : Int) - 0).toNat (a + 2) (b + 1) 0 (by omega) (by omega)
  rcases e : Qbz p v ((((p.Funcs.getD v.toNat default).Blocks.length : Nat) : Int) - 0).toNat (a + 2) (b + 1) 0 with ⟨x, y⟩
  rw [e] at h2
  dsimp only at h2 ⊢
  have h3 := Qua m p ho r x y (v + 1) (by omega) (by omega)
  rw [show (0 : Int).toNat = 0 from rfl, List.drop_zero] at h2
  have e1 : (ned m p (Qay.mk 1 v (-1) (-1))).length = 1 := by unfold ned; rw [if_pos rfl]; rfl
  have e2 : ned m p (Qay.mk 2 v (-1) (-1)) = [] := by unfold ned; rw [if_neg (show ¬ (2 : Int) = 1 by decide), if_neg (show ¬ (2 : Int) = 3 by decide)]
  simp only [List.flatMap_append, List.flatMap_cons, List.flatMap_nil, List.append_nil, List.length_append, e1, e2, List.length_nil]
  omega
theorem QlL {p : Qaj} (hv : QcH p = true) (m : List (Qay × Int)) : (Qfj p).1 = ((nF 0 p.Funcs).length : Int) /\ (((nF 0 p.Funcs).flatMap (ned m p)).length : Int) <= (Qfj p).2 := by
 have h := QuA p (((p.Funcs.length : Nat) : Int) - 0).toNat 0 0 0 (by omega) (by omega)
 have h' := Qua m p (Qph hv) (((p.Funcs.length : Nat) : Int) - 0).toNat 0 0 0 (by omega) (by omega)
 rw [show (0 : Int).toNat = 0 from rfl, List.drop_zero] at h h'
 unfold Qfj
 rw [hv]
 dsimp only
 simp only [Bool.not_true, cond_false]
 exact ⟨by omega, by omega⟩
theorem zt2 (S : List Qax) : ∀ (r : Nat) (a b v : Int), Qbo S r a b v = Qbj S r a b v
 | 0, a, b, v => by
  -- QcM is behind
  rw [Qbo, Qbj]
 | r + 1, a, b, v => by
  rw [Qbo, Qbj]
  try dsimp only
  unfold QdK
  cases (S.getD v.toNat default).Op == 3
  ·cases (S.getD v.toNat default).Op == 8
   ·simp only [cond_false]; exact zt2 S r _ _ _
   ·simp only [cond_false, cond_true]; exact zt2 S r _ _ _
  ·simp only [cond_true]; exact zt2 S r _ _ _
theorem zt1 (p : Qaj) (i : Int) : ∀ (r : Nat) (a b v : Int), Qbp ((p.Funcs.getD i.toNat default).Blocks) r a b v = Qbz p i r a b v
 | 0, a, b, v => by
  -- QcM is behind
  rw [Qbp, Qbz]
 | r + 1, a, b, v => by
  rw [Qbp, Qbz, zt2]
  generalize Qbj _ _ a b 0 = R
  exact zt1 p i r R.1 R.2 (v + 1)
theorem zu2 (S : List Qax) : ∀ (r : Nat) (a b v c d : Int), Qbj S r (a + c) (b + d) v = ((Qbj S r a b v).1 + c, (Qbj S r a b v).2 + d)
 | 0, a, b, v, c, d => by rw [Qbj, Qbj]
 | r + 1, a, b, v, c, d => by
  rw [Qbj, Qbj]
  cases (S.getD v.toNat default).Op == 3
  ·cases (S.getD v.toNat default).Op == 8
   ·simp only [cond_false]; rw [<- zu2 S r, show a + c + 1 = a + 1 + c by omega, show b + d + 1 = b + 1 + d by omega]
   ·simp only [cond_false, cond_true]; rw [<- zu2 S r, show a + c + 1 = a + 1 + c by omega, show b + d + 2 = b + 2 + d by omega]
  ·simp only [cond_true]; rw [<- zu2 S r, show a + c + 1 + 1 = a + 1 + 1 + c by omega, show b + d + 3 = b + 3 + d by omega]
theorem zu1 (p : Qaj) (i : Int) : ∀ (r : Nat) (a b v c d : Int), Qbz p i r (a + c) (b + d) v = ((Qbz p i r a b v).1 + c, (Qbz p i r a b v).2 + d)
 | 0, a, b, v, c, d => by rw [Qbz, Qbz]
 | r + 1, a, b, v, c, d => by
  rw [Qbz, Qbz, zu2]
  exact zu1 p i r _ _ _ c d
theorem zt0 (p : Qaj) : ∀ (r : Nat) (a b v : Int), Qbx p r (a + 2 * (r : Int)) (b + (r : Int)) v = QcA p r a b v
 | 0, a, b, v => by
  -- QcM is behind
  rw [Qbx, QcA]; simp
 | r + 1, a, b, v => by
  rw [Qbx, QcA, zt1]
  have h := zu1 p v ((((p.Funcs.getD v.toNat default).Blocks.length : Nat) : Int) - 0).toNat (a + 2) (b + 1) 0 (2 * (r : Int)) (r : Int)
  rw [show a + 2 * ((r + 1 : Nat) : Int) = a + 2 + 2 * (r : Int) by omega, show b + ((r + 1 : Nat) : Int) = b + 1 + (r : Int) by omega, h]
  exact zt0 p r _ _ (v + 1)
theorem QkA (p : Qaj) : QcM p = Qfj p := by
 unfold QcM Qfj Qdy
 rw [QhQ]
 cases QcH p
 ·rfl
 ·have h := zt0 p ((((p.Funcs.length : Nat) : Int) - 0).toNat) 0 0 0
  rw [show (((((p.Funcs.length : Nat) : Int) - 0).toNat : Nat) : Int) = ((p.Funcs.length : Nat) : Int) by omega, Int.zero_add, Int.zero_add] at h
  dsimp only
  simp only [Bool.not_true, cond_false]
  rw [h]
theorem Ql0 {p : Qaj} (hc : ((Qcz p).2 != 0) = false) : ∃ S P : List (List Int), QfI p = (Qbn.mk (nF 0 p.Funcs) S P, 0) /\ VF S P (nF 0 p.Funcs).length /\
  (∀ i k, 0 <= i -> i < ((nF 0 p.Funcs).length : Int) -> (k ∈ S.getD i.toNat [] ↔ (i, k) ∈ (nF 0 p.Funcs).flatMap (ned (Qkv (nF 0 p.Funcs)) p))) /\
  Qib S <= ((nF 0 p.Funcs).flatMap (ned (Qkv (nF 0 p.Funcs)) p)).length /\ 1 <= (nF 0 p.Funcs).length /\ (nF 0 p.Funcs).length <= 256 := by
 have hl : Qfv p = nF 0 p.Funcs := by rw [Qki, hc, cond_false]
 have hv := Qnu rfl hc
 have h0 := QkC hl rfl hc
 have hsz := Qm3 hc
 rw [QkA] at hsz
 have hsz2 := (QlL hv (Qkv (nF 0 p.Funcs))).1
 have hb := Qm6 (l := nF 0 p.Funcs) (m := Qkv (nF 0 p.Funcs)) rfl h0 (by omega)
 have hL1 := bL1 p (nF 0 p.Funcs) (((((nF 0 p.Funcs).length : Nat) : Int) - 0).toNat) 0 (QaD.mk (Qbn.mk (nF 0 p.Funcs) (List.replicate ((((nF 0 p.Funcs).length : Nat) : Int) : Int).toNat []) (List.replicate ((((nF 0 p.Funcs).length : Nat) : Int) : Int).toNat [])) (Qkv (nF 0 p.Funcs))) (by omega) (by omega)
 rw [show (0 : Int).toNat = 0 from rfl, List.drop_zero] at hL1
 have hlen : (QaD.mk (Qbn.mk (nF 0 p.Funcs) (List.replicate ((((nF 0 p.Funcs).length : Nat) : Int) : Int).toNat ([] : List Int)) (List.replicate ((((nF 0 p.Funcs).length : Nat) : Int) : Int).toNat [])) (Qkv (nF 0 p.Funcs))).g.Succ.length = (nF 0 p.Funcs).length := by
  show (List.replicate _ _).length = _
  rw [List.length_replicate]; omega
 have hnn := (Qlc ((nF 0 p.Funcs).flatMap (ned (Qkv (nF 0 p.Funcs)) p)) (QaD.mk (Qbn.mk (nF 0 p.Funcs) (List.replicate ((((nF 0 p.Funcs).length : Nat) : Int) : Int).toNat []) (List.replicate ((((nF 0 p.Funcs).length : Nat) : Int) : Int).toNat [])) (Qkv (nF 0 p.Funcs)))).2
 obtain ⟨c1, c2, c3, c4⟩ := QoE ((nF 0 p.Funcs).flatMap (ned (Qkv (nF 0 p.Funcs)) p)) _ hb (fun e he => by
  obtain ⟨n, _, hn⟩ := List.mem_flatMap.1 he
  exact Qqt hb.num p n e hn)
 rw [hlen] at c2 c3
 unfold QfI
 dsimp only at hL1 hnn ⊢
 rw [hc, cond_false, hl]
 change (match QcC p (nF 0 p.Funcs) _ _ _ _ (Qkv (nF 0 p.Funcs)) 0 with | (o0, o1, o2, o3) => QaD.mk (Qbn.mk o0 o1 o2) o3) = bed _ ((nF 0 p.Funcs).flatMap (ned (Qkv (nF 0 p.Funcs)) p)) at hL1
 rw [show Qce (nF 0 p.Funcs) (((((nF 0 p.Funcs).length : Nat) : Int) : Int) - 0).toNat [] 0 = Qkv (nF 0 p.Funcs) from rfl]
 generalize bed _ ((nF 0 p.Funcs).flatMap (ned (Qkv (nF 0 p.Funcs)) p)) = B at *
 rcases e1 : QcC p (nF 0 p.Funcs) (((((nF 0 p.Funcs).length : Nat) : Int) : Int) - 0).toNat (nF 0 p.Funcs) (List.replicate ((((nF 0 p.Funcs).length : Nat) : Int) : Int).toNat []) (List.replicate ((((nF 0 p.Funcs).length : Nat) : Int) : Int).toNat []) (Qkv (nF 0 p.Funcs)) 0 with ⟨x0, x1, x2, x3⟩
 rw [e1] at hL1
 dsimp only at hL1 ⊢
 subst hL1
 dsimp only at hnn c1 c2 c3 c4
 obtain ⟨d1, d2, d3⟩ := bL2 (((((nF 0 p.Funcs).length : Nat) : Int) : Int) - 0).toNat 0 x1 x2 (by omega) (by omega) c1.ps
 rcases e2 : QcZ (((((nF 0 p.Funcs).length : Nat) : Int) : Int) - 0).toNat x1 x2 0 with ⟨y1, y2⟩
 rw [e2] at d1 d2 d3
 dsimp only at d1 d2 d3 ⊢
 have gS : ∀ k : Nat, k < (nF 0 p.Funcs).length -> Asc (y1.getD k []) ((nF 0 p.Funcs).length : Int) /\ (∀ x, x ∈ y1.getD k [] ↔ x ∈ x1.getD k []) /\ (y1.getD k []).length = (x1.getD k []).length := fun k hk => by
  have h3 := (d3 k (by omega)).1
  rw [if_pos (by omega)] at h3
  have h4 := QlK (c1.su (x1.getD k []) (Qgx (i := (k : Int)) (show 0 <= (k : Int) /\ (k : Int) < (x1.length : Int) by omega))) c1.nb
  rw [h3]
  rw [show (QaD.mk (Qbn.mk x0 x1 x2) x3).g.Succ.length = (nF 0 p.Funcs).length from c2] at h4
  exact h4
 have gP : ∀ k : Nat, k < (nF 0 p.Funcs).length -> Asc (y2.getD k []) ((nF 0 p.Funcs).length : Int) /\ (∀ x, x ∈ y2.getD k [] ↔ x ∈ x2.getD k []) := fun k hk => by
  have h3 := (d3 k (by omega)).2
  rw [if_pos (by omega)] at h3
  have h4 := QlK (c1.pr (x2.getD k []) (Qgx (i := (k : Int)) (show 0 <= (k : Int) /\ (k : Int) < (x2.length : Int) by have := c1.ps; dsimp only at this; omega))) c1.nb
  rw [h3]
  rw [show (QaD.mk (Qbn.mk x0 x1 x2) x3).g.Succ.length = (nF 0 p.Funcs).length from c2] at h4
  exact ⟨h4.1, h4.2.1⟩
 refine ⟨y1, y2, by rw [hnn], ⟨by omega, by omega, fun k hk => (gS k hk).1, fun k hk => (gP k hk).1, fun i k hi hk => ?_⟩, fun i k h1 h2 => ?_, ?_, by omega, by omega⟩
 ·rw [(gS i hi).2.1, (gP k hk).2]
  have := c1.mi (i : Int) (k : Int) (by omega) (by dsimp only; omega) (by omega) (by dsimp only; omega)
  rwa [Int.toNat_natCast, Int.toNat_natCast] at this
 ·rw [(gS i.toNat (by omega)).2.1, c3 i k h1 h2]
  refine ⟨fun hh => hh.resolve_left fun hx => ?_, .inr⟩
  rw [List.getD_eq_getElem?_getD, List.getElem?_replicate] at hx
  split at hx <;> cases hx
 ·have e5 : Qib y1 = Qib x1 := by
   unfold Qib
   rw [d1]
   exact QfH _ fun k hk => (gS k (by omega)).2.2
  have e6 : Qib (List.replicate ((((nF 0 p.Funcs).length : Nat) : Int) : Int).toNat ([] : List Int)) = 0 := by
   unfold Qib
   refine (QfH _ (g := fun _ => 0) fun k hk => ?_).trans (Qk9 _)
   rw [List.getD_eq_getElem?_getD, List.getElem?_replicate]
   split <;> rfl
  omega
theorem QmZ (l : List Int) (n : Int) : ∀ (r : Nat) (i : Int), (r : Int) = (l.length : Int) - i -> 0 <= i -> (Qbs l n r i = .brk () /\ (∀ k, i <= k -> k < (l.length : Int) -> 0 <= l.getD k.toNat 0 /\ l.getD k.toNat 0 < n /\ (0 < k -> l.getD (k - 1).toNat 0 < l.getD k.toNat 0))) \/
  (Qbs l n r i = .ret false /\ ¬ ∀ k, i <= k -> k < (l.length : Int) -> 0 <= l.getD k.toNat 0 /\ l.getD k.toNat 0 < n /\ (0 < k -> l.getD (k - 1).toNat 0 < l.getD k.toNat 0))
 | 0, i, hr, hi => .inl ⟨by rw [Qbs], fun k h1 h2 => by omega⟩
 | r + 1, i, hr, hi => by
  rw [Qbs]
  by_cases c1 : l.getD i.toNat 0 < 0
  ·rw [decide_eq_true c1]; exact .inr ⟨rfl, fun h => by have := (h i (Int.le_refl _) (by omega)).1; omega⟩
  rw [decide_eq_false c1, cond_false]
  by_cases c2 : n <= l.getD i.toNat 0
  ·rw [decide_eq_true c2]; exact .inr ⟨rfl, fun h => by have := (h i (Int.le_refl _) (by omega)).2.1; omega⟩
  rw [decide_eq_false c2, cond_false]
  have go : (0 < i -> l.getD (i - 1).toNat 0 < l.getD i.toNat 0) -> (Qbs l n r (i + 1) = .brk () /\ (∀ k, i <= k -> k < (l.length : Int) -> 0 <= l.getD k.toNat 0 /\ l.getD k.toNat 0 < n /\ (0 < k -> l.getD (k - 1).toNat 0 < l.getD k.toNat 0))) \/
    (Qbs l n r (i + 1) = .ret false /\ ¬ ∀ k, i <= k -> k < (l.length : Int) -> 0 <= l.getD k.toNat 0 /\ l.getD k.toNat 0 < n /\ (0 < k -> l.getD (k - 1).toNat 0 < l.getD k.toNat 0)) := fun hs => by
   rcases QmZ l n r (i + 1) (by omega) (by omega) with ⟨h1, h2⟩ | ⟨h1, h2⟩
   ·refine .inl ⟨h1, fun k k1 k2 => ?_⟩
    by_cases e : k = i
    ·subst e; exact ⟨by omega, by omega, hs⟩
    ·exact h2 k (by omega) k2
   ·exact .inr ⟨h1, fun h => h2 fun k k1 k2 => h k (by omega) k2⟩
  by_cases c3 : 0 < i
  ·rw [decide_eq_true c3, cond_true]
   by_cases c4 : l.getD i.toNat 0 <= l.getD (i - 1).toNat 0
   ·rw [decide_eq_true c4]; exact .inr ⟨rfl, fun h => by have := (h i (Int.le_refl _) (by omega)).2.2 c3; omega⟩
   ·rw [decide_eq_false c4, cond_false]; exact go fun _ => by omega
  ·rw [decide_eq_false c3, cond_false]; exact go fun h => absurd h c3
theorem QlZ (l : List Int) (n : Int) : Qds l n = true ↔ Asc l n := by
 unfold Qds
 rcases QmZ l n ((((l.length : Nat) : Int) - 0).toNat) 0 (by omega) (by omega) with ⟨h1, h2⟩ | ⟨h1, h2⟩
 ·rw [h1]; exact ⟨fun _ => h2, fun _ => rfl⟩
 ·rw [h1]; exact ⟨fun h => (by cases h), fun h => absurd h h2⟩
theorem Qkq (l : List (List Int)) : ∀ (r : Nat) (e i : Int), (r : Int) = (l.length : Int) - i -> 0 <= i -> 0 <= e -> (∃ e', QcB l r e i = .brk e' /\ 0 <= e' /\ ∀ k, i <= k -> k < (l.length : Int) -> Asc (l.getD k.toNat []) (l.length : Int)) \/ QcB l r e i = .ret (-1)
 | 0, e, i, hr, hi, he => .inl ⟨e, by rw [QcB], he, fun k h1 h2 => by omega⟩
 | r + 1, e, i, hr, hi, he => by
  rw [QcB]
  cases decide (1024 < e + (((l.getD i.toNat []).length : Nat) : Int))
  ·rw [cond_false]
   cases ha : Qds (l.getD i.toNat []) ((l.length : Nat) : Int)
   ·exact .inr rfl
   ·rcases Qkq l r (e + (((l.getD i.toNat []).length : Nat) : Int)) (i + 1) (by omega) (by omega) (by omega) with ⟨e', h1, h2, h3⟩ | h1
    ·refine .inl ⟨e', h1, h2, fun k k1 k2 => ?_⟩
     by_cases c : k = i
     ·subst c; exact (QlZ _ _).1 ha
     ·exact h3 k (by omega) k2
    ·exact .inr h1
  ·exact .inr rfl
theorem QnY {l : List (List Int)} {r : Int} (h : QdC l = r) (hr : decide (r < 0) = false) : ∀ (i k : Nat), (k : Int) < ((l.getD i []).length : Int) -> 0 <= (l.getD i []).getD k 0 /\ (l.getD i []).getD k 0 < (l.length : Int) := fun i k hk => by
 have hr := of_decide_eq_false hr
 unfold QdC at h
 rcases Qkq l ((((l.length : Nat) : Int) - 0).toNat) 0 0 (by omega) (by omega) (by omega) with ⟨e', h1, h2, h3⟩ | h1
 ·by_cases hi : i < l.length
  ·have := h3 (i : Int) (by omega) (by omega) (k : Int) (by omega) (by rw [show ((i : Int)).toNat = i by omega]; exact hk)
   rw [show ((i : Int)).toNat = i by omega, show ((k : Int)).toNat = k by omega] at this
   exact ⟨this.1, this.2.1⟩
  ·rw [List.getD_eq_getElem?_getD, List.getElem?_eq_none (by omega)] at hk; simp at hk; omega
 ·rw [h1] at h; dsimp only at h; omega
theorem Qna {l : List (List Int)} {r : Int} (h : QdC l = r) (hr : decide (r < 0) = false) : ∀ k : Int, 0 <= k -> k < (l.length : Int) -> Asc (l.getD k.toNat []) (l.length : Int) := by
 have hr := of_decide_eq_false hr
 unfold QdC at h
 rcases Qkq l ((((l.length : Nat) : Int) - 0).toNat) 0 0 (by omega) (by omega) (by omega) with ⟨e', h1, h2, h3⟩ | h1
 ·exact h3
 ·rw [h1] at h; dsimp only at h; omega
theorem QlG (l : List (List Int)) (ha : ∀ k : Nat, k < l.length -> Asc (l.getD k []) (l.length : Int)) (hs : Qib l <= 1024) : ∀ (r i : Nat), r + i = l.length -> QcB l r ((sm i (fun i => (l.getD i []).length) : Nat) : Int) (i : Int) = .brk ((Qib l : Nat) : Int)
 | 0, i, h => by rw [QcB, show i = l.length by omega]; rfl
 | r + 1, i, h => by
  have e : ((i : Int)).toNat = i := by omega
  have hm := Qpx (fun i => (l.getD i []).length) (n := i + 1) (m := l.length) (by omega)
  have hm' : sm (i + 1) (fun i => (l.getD i []).length) <= 1024 := Nat.le_trans hm hs
  have e2 : ((sm i (fun i => (l.getD i []).length) : Nat) : Int) + (((l.getD i []).length : Nat) : Int) = ((sm (i + 1) (fun i => (l.getD i []).length) : Nat) : Int) := by
   show _ = ((sm i (fun i => (l.getD i []).length) + (l.getD i []).length : Nat) : Int); omega
  rw [QcB, e, e2, decide_eq_false (show ¬ (1024 : Int) < _ by omega), cond_false]
  dsimp only
  rw [(QlZ _ _).2 (ha i (by omega)), Bool.not_true, cond_false, show (i : Int) + 1 = ((i + 1 : Nat) : Int) by omega]
  exact QlG l ha hs r (i + 1) (by omega)
theorem QiY {l : List (List Int)} (ha : ∀ k : Nat, k < l.length -> Asc (l.getD k []) (l.length : Int)) (hs : Qib l <= 1024) : QdC l = ((Qib l : Nat) : Int) := by
 unfold QdC
 have := QlG l ha hs l.length 0 (by omega)
 rw [show ((((l.length : Nat) : Int) : Int) - 0).toNat = l.length by omega]
 simp only [sm] at this
 rw [show ((0 : Nat) : Int) = 0 from rfl] at this
 rw [this]
theorem Qow {g : Qbn} (h : Qde g = true) : VG g := by
 unfold Qde at h
 dsimp only at h
 by_cases c1 : ((g.Nodes.length : Nat) : Int) < 1
 ·rw [decide_eq_true c1] at h; cases h
 rw [decide_eq_false c1, cond_false] at h
 by_cases c2 : 256 < ((g.Nodes.length : Nat) : Int)
 ·rw [decide_eq_true c2] at h; cases h
 rw [decide_eq_false c2, cond_false] at h
 cases c3 : ((g.Succ.length : Nat) : Int) != ((g.Nodes.length : Nat) : Int)
 ·rw [c3, cond_false] at h
  cases c4 : ((g.Pred.length : Nat) : Int) != ((g.Nodes.length : Nat) : Int)
  ·rw [c4, cond_false] at h
   cases c5 : decide (QdC g.Succ < 0)
   ·have e3 : ((g.Succ.length : Nat) : Int) = ((g.Nodes.length : Nat) : Int) := by simpa using c3
    have e4 : ((g.Pred.length : Nat) : Int) = ((g.Nodes.length : Nat) : Int) := by simpa using c4
    have ha := Qna rfl c5
    rw [e3] at ha
    exact ⟨by omega, by omega, by omega, ha⟩
   ·rw [c5] at h; cases h
  ·rw [c4] at h; cases h
 ·rw [c3] at h; cases h
theorem Qqe {g : Qbn} {r : Bool} (h : Qde g = r) (hr : (!r) = false) : VG g := Qow (h.trans (by cases r; cases hr; rfl))
theorem QkK {g : Qbn} {a : Int} {v : List Int} (h : ∀ x ∈ v, a ∈ g.Pred.getD x.toNat []) : ∀ (r : Nat) (i : Int), 0 <= i -> i + (r : Int) <= (v.length : Int) -> QdW g a v r i = .brk ()
 | 0, i, _, _ => by rw [QdW]
 | r + 1, i, h0, h1 => by
  rw [QdW]
  rw [(Qg7 _ _).2 (h _ (Qb4 (by omega))), Bool.not_true, cond_false]
  exact QkK h r (i + 1) (by omega) (by omega)
theorem Qk3 {g : Qbn} (h : ∀ a : Int, 0 <= a -> a < (g.Succ.length : Int) -> ∀ x ∈ g.Succ.getD a.toNat [], a ∈ g.Pred.getD x.toNat []) : ∀ (r : Nat) (i : Int), 0 <= i -> i + (r : Int) <= (g.Succ.length : Int) -> QdV g r i = .brk ()
 | 0, i, _, _ => by rw [QdV]
 | r + 1, i, h0, h1 => by
  rw [QdV, QkK (h i h0 (by omega)) _ 0 (by omega) (by omega)]
  exact Qk3 h r (i + 1) (by omega) (by omega)
theorem Qn1 {g : Qbn} {n : Nat} (hn : g.Nodes.length = n) (h1 : 1 <= n) (h2 : n <= 256) (h : VF g.Succ g.Pred n) (hs : Qib g.Succ <= 1024) : Qde g = true := by
 unfold Qde
 have e1 := h.sl; have e2 := h.pl
 dsimp only
 rw [decide_eq_false (by omega), cond_false, decide_eq_false (by omega), cond_false]
 rw [show (((g.Succ.length : Nat) : Int) != ((g.Nodes.length : Nat) : Int)) = false by rw [e1, hn]; simp]
 rw [show (((g.Pred.length : Nat) : Int) != ((g.Nodes.length : Nat) : Int)) = false by rw [e2, hn]; simp]
 have hc := h.cnt
 rw [QiY (l := g.Succ) (fun k hk => by rw [e1]; exact h.sa k (by omega)) hs, QiY (l := g.Pred) (fun k hk => by rw [e2]; exact h.pa k (by omega)) (by omega), hc]
 rw [cond_false, cond_false, decide_eq_false (by omega), cond_false]
 rw [show (((Qib g.Pred : Nat) : Int) != ((Qib g.Pred : Nat) : Int)) = false by simp, cond_false]
 rw [Qk3 (fun a a0 a1 x hx => by
  have hx2 := Qje (h.sa a.toNat (by omega)) hx
  have := (h.mi a.toNat x.toNat (by omega) (by omega)).1 (by rw [show ((x.toNat : Nat) : Int) = x by omega]; exact hx)
  rwa [show ((a.toNat : Nat) : Int) = a by omega] at this) _ 0 (by omega) (by omega)]
theorem QnZ {g : Qbn} {n : Nat} (h : Qde g = true) (hf : VF g.Succ g.Pred n) (hs : Qib g.Succ <= 1024) : QfJ g = ((Qib g.Succ : Nat) : Int) := by
 unfold QfJ
 rw [h]
 exact QiY (fun k hk => by rw [hf.sl]; exact hf.sa k (by have := hf.sl; omega)) hs
theorem QeC (text : Str) (c : Int) : ∀ (r : Nat) (col i : Int), (0 <= i /\ i <= (text.b.length : Int)) /\ (text.b.length : Int) - i < (r : Int) -> QaB text c r col i ≠ LR.oof /\ ∀ o j, QaB text c r col i = .brk (o, j) -> i <= j /\ j <= (text.b.length : Int) /\ j - i = o - col
 | 0, col, i, h => by omega
 | r + 1, col, i, h => by
  rw [QaB]
  simp only [Bool.cond_eq_ite, decide_eq_true_eq]
  have ih := fun (hi : i < (text.b.length : Int)) => QeC text c r (col + 1) (i + 1) (by omega)
  have stop : (LR.brk (col, i) : LR (Int × Int) (List QaN × Int × Int × Int)) ≠ LR.oof /\ ∀ o j, (LR.brk (col, i) : LR (Int × Int) (List QaN × Int × Int × Int)) = .brk (o, j) -> i <= j /\ j <= (text.b.length : Int) /\ j - i = o - col := ⟨fun h => (by cases h), fun o j h => by cases h; omega⟩
  repeat' split
  all_goals first
   | exact stop
   | (have h3 := ih (by assumption); exact ⟨h3.1, fun o j h => by have := h3.2 o j h; omega⟩)
theorem QgC (text : Str) (i : Int) : ∀ (r : Nat) (n : Int), (0 <= i + n /\ i + n <= (text.b.length : Int)) /\ (text.b.length : Int) - (i + n) < (r : Int) -> QbH text i r n ≠ LR.oof /\ ∀ o, QbH text i r n = .brk o -> n <= o /\ i + o <= (text.b.length : Int)
 | 0, n, h => by omega
 | r + 1, n, h => by
  rw [QbH]
  simp only [Bool.cond_eq_ite, decide_eq_true_eq]
  have ih := fun (hi : i + n < (text.b.length : Int)) => QgC text i r (n + 1) (by omega)
  have stop : (LR.brk n : LR Int (List QaN × Int × Int × Int)) ≠ LR.oof /\ ∀ o, (LR.brk n : LR Int (List QaN × Int × Int × Int)) = .brk o -> n <= o /\ i + o <= (text.b.length : Int) := ⟨fun h => (by cases h), fun o h => by cases h; omega⟩
  repeat' split
  all_goals first
   | exact stop
   | (have h3 := ih (by assumption); exact ⟨h3.1, fun o h => by have := h3.2 o h; omega⟩)
theorem Qme {text : Str} {c : Int} {r : Nat} {col i o j : Int} (h0 : 0 <= i /\ i < (text.b.length : Int)) (hc : c = 35) (ht : ((text.b.getD i.toNat 0).toNat : Int) = 35) (hr : (text.b.length : Int) < (r : Int)) (h : QaB text c r col i = .brk (o, j)) : i + 1 <= j /\ j <= (text.b.length : Int) := by
 obtain ⟨q, rfl⟩ : ∃ q, r = q + 1 := ⟨r - 1, by omega⟩
 subst hc
 rw [QaB] at h
 simp only [beq_self_eq_true, cond_true, decide_eq_true h0.2, ht, show ((35 : Int) != 10) = true from rfl] at h
 have := (QeC text 35 q (col + 1) (i + 1) (by omega)).2 o j h
 omega
theorem QlA {text : Str} {c : Int} {r : Nat} {col i o j : Int} (hc : c ≠ 35) (hr : 1 <= r) (h : QaB text c r col i = .brk (o, j)) : o = col /\ j = i := by
 obtain ⟨q, rfl⟩ : ∃ q, r = q + 1 := ⟨r - 1, by omega⟩
 rw [QaB] at h
 have e : (c == 35) = false := by simp [hc]
 simp only [e, cond_false] at h
 cases h; exact ⟨rfl, rfl⟩
theorem Ql7 {text : Str} {r : Nat} {i o : Int} (h0 : 0 <= i /\ i < (text.b.length : Int)) (hl : QbQ ((text.b.getD i.toNat 0).toNat : Int) = true) (hr : (text.b.length : Int) < (r : Int)) (h : QbH text i r 0 = .brk o) : 1 <= o /\ i + o <= (text.b.length : Int) := by
 obtain ⟨q, rfl⟩ : ∃ q, r = q + 1 := ⟨r - 1, by omega⟩
 rw [QbH] at h
 simp only [Int.add_zero, decide_eq_true h0.2, hl, cond_true] at h
 exact (QgC text i q 1 (by omega)).2 o h
theorem QkL (text : Str) (c : Int) : ∀ (r : Nat) (col i : Int) (x : List QaN × Int × Int × Int), QaB text c r col i ≠ LR.ret x
 | 0, col, i, x => fun h => by cases h
 | r + 1, col, i, x => by
  rw [QaB]
  simp only [Bool.cond_eq_ite]
  repeat' split
  all_goals first | (intro h; cases h; done) | exact QkL text c r _ _ _
theorem QkY (text : Str) (i : Int) : ∀ (r : Nat) (n : Int) (x : List QaN × Int × Int × Int), QbH text i r n ≠ LR.ret x
 | 0, n, x => fun h => by cases h
 | r + 1, n, x => by
  rw [QbH]
  simp only [Bool.cond_eq_ite]
  repeat' split
  all_goals first | (intro h; cases h; done) | exact QkY text i r _ _
theorem QkN (text : Str) : ∀ (r : Nat) (out : List QaN) (line col : Int) (op : Bool) (i : Int), (0 <= i /\ i <= (text.b.length : Int)) /\ (text.b.length : Int) - i < (r : Int) -> Qak text r out line col op i ≠ LR.oof
 | 0, out, line, col, op, i, h => by omega
 | r + 1, out, line, col, op, i, h => by
  rw [Qak]
  by_cases hi : i < (text.b.length : Int)
  ·have t1 := fun c col => QeC text c (text.b.length + 1) col i (by omega)
   have t2 := QgC text i (text.b.length + 1) 0 (by omega)
   have ih := fun out line col op j (hj : i + 1 <= j /\ j <= (text.b.length : Int)) => QkN text r out line col op j (by omega)
   simp only [decide_eq_true hi, cond_true]
   simp only [Bool.cond_eq_ite, beq_iff_eq, decide_eq_true_eq, bne_iff_ne]
   refine iteInduction (motive := fun x => x ≠ LR.oof) (fun _ => ih _ _ _ _ _ (by omega)) fun _ => ?_
   refine iteInduction (motive := fun x => x ≠ LR.oof) (fun _ => ih _ _ _ _ _ (by omega)) fun _ => ?_
   repeat' split
   all_goals first
    | (intro h; cases h; done)
    | exact ih _ _ _ _ _ (by omega)
    | (rename_i e; exact absurd e (t1 _ _).1)
    | (rename_i e; exact absurd e t2.1)
    | (rename_i e; exact absurd e (QkL _ _ _ _ _ _))
    | (rename_i e; exact absurd e (QkY _ _ _ _ _))
    | (have h1 := (t1 _ _).2 _ _ (by assumption); exact ih _ _ _ _ _ (by omega))
    | (exfalso; have e1 := QlA (text := text) (c := ((text.b.getD i.toNat 0).toNat : Int)) (r := text.b.length + 1) (col := col) (i := i) (by omega) (by omega) (by assumption); obtain ⟨rfl, rfl⟩ := e1; omega)
    | (have e1 := QlA (text := text) (c := ((text.b.getD i.toNat 0).toNat : Int)) (r := text.b.length + 1) (col := col) (i := i) (by omega) (by omega) (by assumption); obtain ⟨rfl, rfl⟩ := e1; exact ih _ _ _ _ _ (by omega))
    | (have h1 := Qme (text := text) (c := ((text.b.getD i.toNat 0).toNat : Int)) (r := text.b.length + 1) (col := col) (i := i) ⟨h.1.1, hi⟩ (by assumption) (by assumption) (by omega) (by assumption); exact ih _ _ _ _ _ (by omega))
    | (have h1 := Ql7 (text := text) (r := text.b.length + 1) (i := i) ⟨h.1.1, hi⟩ (by assumption) (by omega) (by assumption); exact ih _ _ _ _ _ (by omega))
  ·simp only [decide_eq_false hi, cond_false]
   intro h; cases h
theorem Qnb {p : Qab} {w : Str} (h : QeE p w = true) : p.at_ < (p.l.length : Int) := by
 unfold QeE at h
 simp only [Bool.cond_eq_ite] at h
 repeat' split at h
 all_goals first | (have := of_decide_eq_true (by assumption : decide (p.at_ < (p.l.length : Int)) = true); omega) | (cases h)
theorem QjP {p : Qab} {w : Str} {r : Bool} (e : QeE p w = r) (h : r = true) : p.at_ < (p.l.length : Int) := Qnb (e.trans h)
theorem QgT (p : Qab) (e : Int) : (QbO p e).at_ = p.at_ := by
 unfold QbO
 simp only [Bool.cond_eq_ite]
 split <;> rfl
theorem QiT {n a : Int} {p : Qab} {e : Int} (h : Adv n a p.at_) : Adv n a (QbO p e).at_ := by rw [QgT]; exact h
theorem QlX {n a : Int} {p : Qab} {w : Str} (hl : (p.l.length : Int) = n) (h : Adv n a p.at_) : Adv n a (Qdm p w).at_ := by
 unfold Qdm
 cases e : QeE p w with
 | true => have := Qnb e; simp only [Bool.not_true, cond_false]; exact ⟨by have := h.1; omega, by omega⟩
 | false => simp only [Bool.not_false, cond_true, QgT]; exact h
theorem Qg5 {p : Qab} (h : QbG p = true) : p.at_ < (p.l.length : Int) := by
 unfold QbG at h
 simp only [Bool.cond_eq_ite] at h
 repeat' split at h
 all_goals first | (cases h; done) | (rename_i h1 _; exact of_decide_eq_true h1) | skip
 all_goals first | (have := of_decide_eq_true (by assumption : decide (p.at_ < (p.l.length : Int)) = true); omega) | (cases h)
theorem QfT {p : Qab} {r : Bool} (e : QbG p = r) (h : r = true) : p.at_ < (p.l.length : Int) := Qg5 (e.trans h)
theorem Qj3 {p : Qab} (h : QbG p = true) : (Qbi p).2 = Qab.mk p.l (p.at_ + 1) p.Err := by
 unfold Qbi
 simp only [h, Bool.not_true, cond_false]
theorem Qqj {p : Qab} (h : QbG p = false) : (Qbi p).2.at_ = p.at_ := by
 unfold Qbi
 simp only [h, Bool.not_false, cond_true, QgT]
theorem QiS {n a : Int} {p : Qab} (hl : (p.l.length : Int) = n) (h : Adv n a p.at_) : Adv n a (Qbi p).2.at_ := by
 cases e : QbG p with
 | true => have := Qg5 e; rw [Qj3 e]; exact ⟨by have := h.1; dsimp only; omega, by dsimp only; omega⟩
 | false => rw [Qqj e]; exact h
theorem Qjl {p : Qab} {k : Int} (h : Qcn p k = true) : p.at_ < (p.l.length : Int) := by
 unfold Qcn at h
 simp only [Bool.cond_eq_ite] at h
 repeat' split at h
 all_goals first | (have := of_decide_eq_true (by assumption : decide (p.at_ < (p.l.length : Int)) = true); omega) | (cases h)
theorem QfV {p : Qab} {k : Int} {r : Bool} (e : Qcn p k = r) (h : r = true) : p.at_ < (p.l.length : Int) := Qjl (e.trans h)
theorem QlI {n a x e k : Int} {l : List QaN} (hl : (l.length : Int) = n) (hk : ¬ (!Qcn (Qab.mk l x e) k) = true) (h : Adv n a x) : Adv n a (x + 1) := by
 have : Qcn (Qab.mk l x e) k = true := by simpa using hk
 have := Qjl this
 dsimp only at this
 exact ⟨by have := h.1; omega, by omega⟩
theorem Qig {n a : Int} {p : Qab} (hl : (p.l.length : Int) = n) (h : Adv n a p.at_) : Adv n a (QbV p).at_ := by
 unfold QbV
 cases e : Qcn p 3 with
 | true => have := Qjl e; simp only [Bool.not_true, cond_false]; exact ⟨by have := h.1; omega, by omega⟩
 | false => simp only [Bool.not_false, cond_true, QgT]; exact h
theorem QkS {p : Qab} (h : QdR p = true) : p.at_ < (p.l.length : Int) := by
 have key : ∀ (m : Nat) (i : Int), QdQ p m i = .ret true -> p.at_ < (p.l.length : Int) := fun m => by
  induction m with
  | zero => intro i h; cases h
  | succ m ih =>
   intro i h
   rw [QdQ] at h
   simp only [Bool.cond_eq_ite] at h
   split at h
   ·exact Qnb (by assumption)
   ·exact ih _ h
 unfold QdR at h
 split at h
 ·exact Qg5 h
 ·rename_i r e
  subst h
  exact key _ _ e
 ·cases h
theorem QhD {p : Qab} {hv : Int} : ∀ (r : Nat) (p1 p2 : Int) (out : List Str), (0 <= p1 /\ p1 <= (p.l.length : Int)) /\ (p.l.length : Int) - p1 < (r : Int) -> QdL p hv r p1 p2 out ≠ LR.oof /\ (∀ a b o, QdL p hv r p1 p2 out = .brk (a, b, o) -> Adv p.l.length p1 a) /\ (∀ x, QdL p hv r p1 p2 out = .ret x -> Adv p.l.length p1 x.2.at_)
 | 0, p1, p2, out, h => by omega
 | r + 1, p1, p2, out, h => by
  rw [QdL]
  cases e : QbG (Qab.mk p.l p1 p2) with
  | false => exact ⟨fun h => (by cases h), fun a b o h' => (by cases h'; exact ⟨Int.le_refl _, h.1.2⟩), fun x h => (by cases h)⟩
  | true =>
   have hlt := Qg5 e
   dsimp only at hlt
   simp only [cond_true, Qj3 e]
   have ih := fun o => QhD (p := p) (hv := hv) r (p1 + 1) p2 o (by omega)
   simp only [Bool.cond_eq_ite]
   split
   ·refine ⟨fun h => (by cases h), fun a b o h => (by cases h), fun x h' => ?_⟩
    cases h'
    rw [QgT]; exact ⟨Int.le_refl _, h.1.2⟩
   ·have k := ih (out ++ [(Qbi { l := p.l, at_ := p1, Err := p2 }).fst])
    exact ⟨k.1, fun a b o h' => by have := k.2.1 a b o h'; exact ⟨by have := this.1; omega, this.2⟩, fun x h' => by have := k.2.2 x h'; exact ⟨by have := this.1; omega, this.2⟩⟩
theorem QlB {n a : Int} {p : Qab} {v : Int} (hl : (p.l.length : Int) = n) (h0 : 0 <= a) (h : Adv n a p.at_) : Adv n a (QgP p v).2.at_ := by
 have k := QhD (p := p) (hv := v) (p.l.length + 1) p.at_ p.Err [] (by have := h.1; have := h.2; omega)
 subst hl
 unfold QgP
 split
 ·rename_i e; exact Qei h (k.2.1 _ _ _ e)
 ·rename_i e; exact Qei h (k.2.2 _ e)
 ·rename_i e; exact absurd e k.1
theorem Qg3 {p : Qab} : ∀ (r : Nat) (p1 p2 : Int) (out : List Str), (0 <= p1 /\ p1 <= (p.l.length : Int)) /\ (p.l.length : Int) - p1 < (r : Int) -> Qdl p r p1 p2 out ≠ LR.oof /\ (∀ a b o, Qdl p r p1 p2 out = .brk (a, b, o) -> Adv p.l.length p1 a) /\ (∀ x, Qdl p r p1 p2 out = .ret x -> Adv p.l.length p1 x.2.at_)
 | 0, p1, p2, out, h => by omega
 | r + 1, p1, p2, out, h => by
  rw [Qdl]
  cases e : QbG (Qab.mk p.l p1 p2) with
  | false => exact ⟨fun h => (by cases h), fun a b o h' => (by cases h'; exact ⟨Int.le_refl _, h.1.2⟩), fun x h => (by cases h)⟩
  | true =>
   have hlt := Qg5 e
   dsimp only at hlt
   simp only [cond_true, Qj3 e]
   have ih := fun o => Qg3 (p := p) r (p1 + 1) p2 o (by omega)
   simp only [Bool.cond_eq_ite]
   split
   ·refine ⟨fun h => (by cases h), fun a b o h => (by cases h), fun x h' => ?_⟩
    cases h'
    rw [QgT]; exact ⟨Int.le_refl _, h.1.2⟩
   ·have k := ih (out ++ [(Qbi { l := p.l, at_ := p1, Err := p2 }).fst])
    exact ⟨k.1, fun a b o h' => by have := k.2.1 a b o h'; exact ⟨by have := this.1; omega, this.2⟩, fun x h' => by have := k.2.2 x h'; exact ⟨by have := this.1; omega, this.2⟩⟩
theorem QkE {n a : Int} {p : Qab} (hl : (p.l.length : Int) = n) (h0 : 0 <= a) (h : Adv n a p.at_) : Adv n a (QfM p).2.at_ := by
 have k := Qg3 (p := p) (p.l.length + 1) p.at_ p.Err [] (by have := h.1; have := h.2; omega)
 subst hl
 unfold QfM
 split
 ·rename_i e; exact Qei h (k.2.1 _ _ _ e)
 ·rename_i e; exact Qei h (k.2.2 _ e)
 ·rename_i e; exact absurd e k.1
theorem Qoi {p : Qab} (h0 : 0 <= p.at_) (hb : QdR p = true) : Adv p.l.length (p.at_ + 1) (QcP p).2.at_ := by
 have hlt := QkS hb
 have st : Adv p.l.length (p.at_ + 1) (p.at_ + 1) := ⟨Int.le_refl _, by omega⟩
 unfold QcP
 cases e : QbG p with
 | false =>
  simp only [Bool.not_false, cond_true, Bool.cond_eq_ite, if_true, if_false, Bool.false_eq_true]
  repeat' split
  all_goals (repeat first | exact st | (refine Qig rfl ?_; try dsimp only) | (refine QlI rfl (by assumption) ?_; try dsimp only) | (refine QiS rfl ?_; try dsimp only) | (refine QiT ?_; try dsimp only) | (refine QkE rfl (by omega) ?_; try dsimp only) | (refine QlB rfl (by omega) ?_; try dsimp only))
 | true =>
  have nm : ∀ x y : List UInt8, x ≠ y -> (Str.mk x == Str.mk y) = false := fun x y h => by
   rw [beq_eq_false_iff_ne]; intro h'; injection h' with h'; exact h h'
  simp only [Bool.not_true, cond_false, nm [] _ (List.cons_ne_nil _ _).symm, Qj3 e]
  simp only [Bool.cond_eq_ite, if_true, if_false, Bool.false_eq_true]
  repeat' split
  all_goals (repeat first | exact st | (refine Qig rfl ?_; try dsimp only) | (refine QlI rfl (by assumption) ?_; try dsimp only) | (refine QiS rfl ?_; try dsimp only) | (refine QiT ?_; try dsimp only) | (refine QkE rfl (by omega) ?_; try dsimp only) | (refine QlB rfl (by omega) ?_; try dsimp only))
theorem Qge {p : Qab} {b0 : Str} : ∀ (r : Nat) (p1 p2 : Int) (out : List Qax), (0 <= p1 /\ p1 <= (p.l.length : Int)) /\ (p.l.length : Int) - p1 < (r : Int) -> QbU p b0 r p1 p2 out ≠ LR.oof /\ (∀ a b o, QbU p b0 r p1 p2 out = .brk (a, b, o) -> Adv p.l.length p1 a) /\ (∀ x, QbU p b0 r p1 p2 out = .ret x -> Adv p.l.length p1 x.2.at_)
 | 0, p1, p2, out, h => by omega
 | r + 1, p1, p2, out, h => by
  rw [QbU]
  cases e : QdR (Qab.mk p.l p1 p2) with
  | false => exact ⟨fun h => (by cases h), fun a b o h' => (by cases h'; exact ⟨Int.le_refl _, h.1.2⟩), fun x h => (by cases h)⟩
  | true =>
   have st := Qoi (p := Qab.mk p.l p1 p2) h.1.1 e
   dsimp only at st
   have s1 := st.1
   have s2 := st.2
   simp only [cond_true]
   have ih := fun o => Qge (p := p) (b0 := b0) r (QcP (Qab.mk p.l p1 p2)).2.at_ (QcP (Qab.mk p.l p1 p2)).2.Err o (by omega)
   simp only [Bool.cond_eq_ite]
   split
   ·refine ⟨fun h => (by cases h), fun a b o h => (by cases h), fun x h' => ?_⟩
    cases h'
    rw [QgT]; exact ⟨Int.le_refl _, h.1.2⟩
   ·have k := ih (out ++ [(QcP (Qab.mk p.l p1 p2)).1])
    exact ⟨k.1, fun a b o h' => by have := k.2.1 a b o h'; exact ⟨by have := this.1; omega, this.2⟩, fun x h' => by have := k.2.2 x h'; exact ⟨by have := this.1; omega, this.2⟩⟩
theorem QmQ {p : Qab} {c : Int} (w : Adv p.l.length c (Qdm p (Str.mk [98, 108, 111, 99, 107])).at_) (h0 : 0 <= c) : Adv p.l.length c (Qel p).2.at_ := by
 have n := QiS (p := Qab.mk p.l (Qdm p (Str.mk [98, 108, 111, 99, 107])).at_ (Qdm p (Str.mk [98, 108, 111, 99, 107])).Err) rfl w
 unfold Qel
 simp only
 generalize hq : QbV _ = q
 have e : Adv p.l.length c q.at_ := by rw [<- hq]; exact Qig rfl n
 have k := fun a b (ha : Adv p.l.length c a) => Qge (p := p) (b0 := (Qbi (Qab.mk p.l (Qdm p (Str.mk [98, 108, 111, 99, 107])).at_ (Qdm p (Str.mk [98, 108, 111, 99, 107])).Err)).1) (p.l.length + 1) a b [] (by have := ha.1; have := ha.2; omega)
 cases QdR (Qab.mk p.l q.at_ q.Err) with
 | true =>
  simp only [Bool.not_true, cond_false]
  split
  ·rename_i e'; exact Qei e ((k _ _ e).2.1 _ _ _ e')
  ·rename_i e'; exact Qei e ((k _ _ e).2.2 _ e')
  ·rename_i e'; exact absurd e' (k _ _ e).1
 | false =>
  simp only [Bool.not_false, cond_true]
  have f := QiT (p := Qab.mk p.l q.at_ q.Err) (e := 4) e
  split
  ·rename_i e'; exact Qei f ((k _ _ f).2.1 _ _ _ e')
  ·rename_i e'; exact Qei f ((k _ _ f).2.2 _ e')
  ·rename_i e'; exact absurd e' (k _ _ f).1
theorem Ql5 {p : Qab} (h : Adv p.l.length p.at_ p.at_) (h0 : 0 <= p.at_) (hw : QeE p (Str.mk [98, 108, 111, 99, 107]) = true) : Adv p.l.length (p.at_ + 1) (Qel p).2.at_ := by
 have hlt := Qnb hw
 refine QmQ ?_ (by omega)
 unfold Qdm
 simp only [hw, Bool.not_true, cond_false]
 exact ⟨Int.le_refl _, by omega⟩
theorem QeV {p : Qab} {f0 : Str} : ∀ (r : Nat) (p1 p2 : Int) (out : List QaM), (0 <= p1 /\ p1 <= (p.l.length : Int)) /\ (p.l.length : Int) - p1 < (r : Int) -> Qbr p f0 r p1 p2 out ≠ LR.oof /\ (∀ a b o, Qbr p f0 r p1 p2 out = .brk (a, b, o) -> Adv p.l.length p1 a) /\ (∀ x, Qbr p f0 r p1 p2 out = .ret x -> Adv p.l.length p1 x.2.at_)
 | 0, p1, p2, out, h => by omega
 | r + 1, p1, p2, out, h => by
  rw [Qbr]
  cases e : QeE (Qab.mk p.l p1 p2) (Str.mk [98, 108, 111, 99, 107]) with
  | false => exact ⟨fun h => (by cases h), fun a b o h' => (by cases h'; exact ⟨Int.le_refl _, h.1.2⟩), fun x h => (by cases h)⟩
  | true =>
   have st := Ql5 (p := Qab.mk p.l p1 p2) ⟨Int.le_refl _, h.1.2⟩ h.1.1 e
   dsimp only at st
   have s1 := st.1
   have s2 := st.2
   simp only [cond_true]
   have ih := fun o => QeV (p := p) (f0 := f0) r (Qel (Qab.mk p.l p1 p2)).2.at_ (Qel (Qab.mk p.l p1 p2)).2.Err o (by omega)
   simp only [Bool.cond_eq_ite]
   split
   ·refine ⟨fun h => (by cases h), fun a b o h => (by cases h), fun x h' => ?_⟩
    cases h'
    rw [QgT]; exact ⟨Int.le_refl _, h.1.2⟩
   ·have k := ih (out ++ [(Qel (Qab.mk p.l p1 p2)).1])
    exact ⟨k.1, fun a b o h' => by have := k.2.1 a b o h'; exact ⟨by have := this.1; omega, this.2⟩, fun x h' => by have := k.2.2 x h'; exact ⟨by have := this.1; omega, this.2⟩⟩
theorem Qk2 {p : Qab} {c : Int} (w : Adv p.l.length c (Qdm p (Str.mk [102, 117, 110, 99])).at_) (h0 : 0 <= c) : Adv p.l.length c (QcO p).2.at_ := by
 have n := QiS (p := Qab.mk p.l (Qdm p (Str.mk [102, 117, 110, 99])).at_ (Qdm p (Str.mk [102, 117, 110, 99])).Err) rfl w
 unfold QcO
 simp only
 generalize hq : QbV _ = q
 have e : Adv p.l.length c q.at_ := by rw [<- hq]; exact Qig rfl n
 have k := fun a b (ha : Adv p.l.length c a) => QeV (p := p) (f0 := (Qbi (Qab.mk p.l (Qdm p (Str.mk [102, 117, 110, 99])).at_ (Qdm p (Str.mk [102, 117, 110, 99])).Err)).1) (p.l.length + 1) a b [] (by have := ha.1; have := ha.2; omega)
 cases QeE (Qab.mk p.l q.at_ q.Err) (Str.mk [98, 108, 111, 99, 107]) with
 | true =>
  simp only [Bool.not_true, cond_false]
  split
  ·rename_i e'
   refine Qig rfl ?_
   dsimp only
   refine QlX rfl ?_
   exact Qei e ((k _ _ e).2.1 _ _ _ e')
  ·rename_i e'; exact Qei e ((k _ _ e).2.2 _ e')
  ·rename_i e'; exact absurd e' (k _ _ e).1
 | false =>
  simp only [Bool.not_false, cond_true]
  have f := QiT (p := Qab.mk p.l q.at_ q.Err) (e := 4) e
  split
  ·rename_i e'
   refine Qig rfl ?_
   dsimp only
   refine QlX rfl ?_
   exact Qei f ((k _ _ f).2.1 _ _ _ e')
  ·rename_i e'; exact Qei f ((k _ _ f).2.2 _ e')
  ·rename_i e'; exact absurd e' (k _ _ f).1
theorem Qke {p : Qab} (h : Adv p.l.length p.at_ p.at_) (h0 : 0 <= p.at_) (hw : QeE p (Str.mk [102, 117, 110, 99]) = true) : Adv p.l.length (p.at_ + 1) (QcO p).2.at_ := by
 have hlt := Qnb hw
 refine Qk2 ?_ (by omega)
 unfold Qdm
 simp only [hw, Bool.not_true, cond_false]
 exact ⟨Int.le_refl _, by omega⟩
theorem QoX {t : Str} {r : Qaj × Int × Int × Int} (h : QbX t = r) (e : PSm (QbX t).1 = true) : PSm r.1 = true := h ▸ e
theorem Qg0 {l : List QaN} : ∀ (r : Nat) (p1 p2 : Int) (out : List Qbv), (0 <= p1 /\ p1 <= (l.length : Int)) /\ (l.length : Int) - p1 < (r : Int) -> QbT l r p1 p2 out ≠ LR.oof /\ (∀ a b o, QbT l r p1 p2 out = .brk (a, b, o) -> Adv l.length p1 a) /\ (∀ x, QbT l r p1 p2 out ≠ .ret x)
 | 0, p1, p2, out, h => by omega
 | r + 1, p1, p2, out, h => by
  rw [QbT]
  cases e : QeE (Qab.mk l p1 p2) (Str.mk [102, 117, 110, 99]) with
  | false => exact ⟨fun h => (by cases h), fun a b o h' => (by cases h'; exact ⟨Int.le_refl _, h.1.2⟩), fun x h => (by cases h)⟩
  | true =>
   have st := Qke (p := Qab.mk l p1 p2) ⟨Int.le_refl _, h.1.2⟩ h.1.1 e
   dsimp only at st
   have s1 := st.1
   have s2 := st.2
   simp only [cond_true]
   have ih := fun o => Qg0 (l := l) r (QcO (Qab.mk l p1 p2)).2.at_ (QcO (Qab.mk l p1 p2)).2.Err o (by omega)
   simp only [Bool.cond_eq_ite]
   split
   ·refine ⟨fun h => (by cases h), fun a b o h' => ?_, fun x h' => (by cases h')⟩
    cases h'
    rw [QgT]; exact ⟨Int.le_refl _, h.1.2⟩
   ·have k := ih (out ++ [(QcO (Qab.mk l p1 p2)).1])
    exact ⟨k.1, fun a b o h' => by have := k.2.1 a b o h'; exact ⟨by have := this.1; omega, this.2⟩, k.2.2⟩
theorem Qmh : Qfw = true := by kernel_rfl
theorem QpD {N : List Qay} {S : List (List Int)} (h : ∀ i : Int, 0 <= i -> i < (N.length : Int) -> S.getD i.toNat [] = [] -> (N.getD i.toNat default).Kind = 2) : ∀ (r : Nat) (i : Int), 0 <= i -> i + (r : Int) <= (N.length : Int) -> Qbm N S r i = .brk ()
 | 0, i, _, _ => by rw [Qbm]
 | r + 1, i, h0, h1 => by
  rw [Qbm]
  cases e : ((((S.getD (i : Int).toNat []).length : Nat) : Int) == 0)
  ·rw [cond_false]; exact QpD h r (i + 1) (by omega) (by omega)
  ·have e1 := eq_of_beq e
   rw [cond_true, h i h0 (by omega) (List.length_eq_zero_iff.1 (by omega))]
   exact QpD h r (i + 1) (by omega) (by omega)
theorem Qhq (t : List Int) : Qb3 t = true := by
 have hp : DrP (Qd4 t 0).1 := Qmc rfl
 unfold Qb3
 dsimp only
 generalize (Qd4 t 0).1 = p at *
 have hc : ((Qcz p).2 != 0) = false := by rw [Qod hp]; rfl
 have hl : Qfv p = nF 0 p.Funcs := by rw [Qki, hc, cond_false]
 obtain ⟨S, P, e, hvf, hed, hes, hn1, hn2⟩ := Ql0 hc
 have hs := QlL (Qha hp) (Qkv (nF 0 p.Funcs))
 have hlim := Qm3 hc
 rw [QkA] at hlim
 have hval : Qde (Qbn.mk (nF 0 p.Funcs) S P) = true := Qn1 (g := Qbn.mk (nF 0 p.Funcs) S P) rfl hn1 hn2 hvf (by show Qib S <= 1024; omega)
 have hE := QnZ hval hvf (by show Qib S <= 1024; omega)
 dsimp only at hE
 have hnd : (nF 0 p.Funcs).Nodup := (QrV p.Funcs 0 (QpG hp)).imp (fun h hh => by rw [hh] at h; omega)
 rw [e]
 dsimp only
 rw [hval, hE]
 rw [show ((0 : Int) != 0) = false by decide, cond_false, Bool.not_true, cond_false, decide_eq_false (by omega), cond_false]
 rw [show ((((nF 0 p.Funcs).length : Nat) : Int) == 0) = false from beq_eq_false_iff_ne.2 (by omega), cond_false]
 rw [QpD (fun i h0 h1 h2 => ?_) _ 0 (by omega) (by omega)]
 ·exact Qmh
 ·by_cases hk : ((nF 0 p.Funcs).getD i.toNat default).Kind = 2
  ·exact hk
  ·exfalso
   obtain ⟨k, hk⟩ := QrF (Qha hp) (fun n hn => Qnd (by rw [hl]; exact hn)) (m := Qkv (nF 0 p.Funcs)) (Qb4 (d := default) (i := i.toNat) (xs := nF 0 p.Funcs) (by omega)) hk
   rw [Qsl hnd (by omega), show ((i.toNat : Nat) : Int) = i by omega] at hk
   have := (hed i k h0 h1).2 hk
   rw [h2] at this
   cases this
theorem Qlp : Qdo Tryd.prog 52 1 = some 1 := by kernel_rfl
theorem Qpi : Qdo Tryd.prog 52 0 = some 0 := by kernel_rfl
theorem QkW : Qbw Tryd.prog 22 = some (false, 1) := by kernel_rfl
theorem Qb2 : Qgh Tryd.prog 22 = some (3, 1, 8) := by kernel_rfl
theorem Qv6 : Qap Tryd.prog 44 = true := by kernel_rfl
theorem Qet : Qdo Tryd.prog 62 1 = some 1 := by kernel_rfl
theorem Qdg : Qdo Tryd.prog 62 2 = some 2 := by kernel_rfl
theorem Qeq : Qbw Tryd.prog 54 = some (false, 1) := by kernel_rfl
theorem Qdi : Qdo Tryd.prog 62 3 = some 3 := by kernel_rfl
theorem Quk : Qap Tryd.prog 92 = true := by kernel_rfl
theorem Qdw : Qdo Tryd.prog 62 0 = some 0 := by kernel_rfl
theorem sh3 : Qbw Tryd.prog 3 = some (false, 1) := by kernel_rfl
theorem Qc8 : Tryd.prog.follows .mixedOrders = true := by kernel_rfl
theorem QiB : Qdo Tryd.prog 72 0 = some 0 := by kernel_rfl
theorem Qgz : Qdo Tryd.prog 32 1 = some 1 := by kernel_rfl
theorem QjR : Qbw Tryd.prog 30 = some (false, 1) := by kernel_rfl
theorem Qi6 : Qgh Tryd.prog 30 = some (22, 1, 24) := by kernel_rfl
theorem Qur : Qap Tryd.prog 31 = true := by kernel_rfl
theorem Qp8 : Qeu Tryd.prog 22 = some [vi 0] := by kernel_rfl
theorem Qjg : Qdo Tryd.prog 32 2 = some 2 := by kernel_rfl
theorem QuU : Qap Tryd.prog 58 = true := by kernel_rfl
theorem Qu6 : Qap Tryd.prog 59 = true := by kernel_rfl
theorem Qlz : Qdo Tryd.prog 32 0 = some 0 := by kernel_rfl
theorem QsG : Qbw Tryd.prog 29 = some (false, 1) := by kernel_rfl
theorem Qs9 : Qap Tryd.prog 30 = true := by kernel_rfl
theorem QuM : Qap Tryd.prog 23 = true := by kernel_rfl
theorem Qjj : Qgh Tryd.prog 29 = some (41, 4, 32) := by kernel_rfl
theorem QoQ : Qeu Tryd.prog 29 = some [vi 0, vi 0, vi 0, vi 0] := by kernel_rfl
theorem Qul : Qap Tryd.prog 10 = true := by kernel_rfl
theorem Qtp : Qe1 Tryd.prog 32 = some (.agg #[.slice none 0 0, .slice none 0 0, .slice none 0 0]) := by kernel_rfl
theorem QuH : QlF Tryd.prog 32 = some ([(0, 1), (1, 1), (2, 1)], [.slice none 0 0, .slice none 0 0, .slice none 0 0]) := by kernel_rfl
theorem QmP : Qbw Tryd.prog 32 = some (true, 3) := by kernel_rfl
theorem Qwk : Qap Tryd.prog 24 = true := by kernel_rfl
theorem QuO : Qeu Tryd.prog 30 = some [.slice none 0 0] := by kernel_rfl
theorem Qvb : QlF Tryd.prog 72 = some ([(0, 3), (3, 1)], [.slice none 0 0, .slice none 0 0, .slice none 0 0, .map none]) := by kernel_rfl
theorem Qo9 : Qdo Tryd.prog 41 0 = some 0 := by kernel_rfl
theorem Qvp : Qap Tryd.prog 27 = true := by kernel_rfl
theorem QuB : Qap Tryd.prog 28 = true := by kernel_rfl
theorem QpW : QlF Tryd.prog 94 = some ([(0, 1), (1, 1), (2, 1), (3, 1)], [vi 0, .string (bs (Str.mk [])), vi 0, vi 0]) := by kernel_rfl
theorem QeR : Qgh Tryd.prog 84 = some (94, 4, 40) := by kernel_rfl
theorem QlV : Qeu Tryd.prog 84 = some [vi 0, .string (bs (Str.mk [])), vi 0, vi 0] := by kernel_rfl
theorem un9 : Tryd.prog.underlying 9 = some .string := by kernel_rfl
theorem QrA : Qap Tryd.prog 60 = true := by kernel_rfl
theorem Qo0 : Qap Tryd.prog 61 = true := by kernel_rfl
theorem QuZ : Qap Tryd.prog 91 = true := by kernel_rfl
theorem sh9 : Qbw Tryd.prog 9 = some (false, 1) := by kernel_rfl
theorem Qcx : Qdo Tryd.prog 89 2 = some 2 := by kernel_rfl
theorem Qgn : Qbw Tryd.prog 33 = some (false, 1) := by kernel_rfl
theorem QbR : Qdo Tryd.prog 89 1 = some 1 := by kernel_rfl
theorem Qgy : Qdo Tryd.prog 89 0 = some 0 := by kernel_rfl
theorem Ql6 : Qbw Tryd.prog 84 = some (false, 1) := by kernel_rfl
theorem Qnv : Qdo Tryd.prog 94 0 = some 0 := by kernel_rfl
theorem Qly : Qdo Tryd.prog 94 1 = some 1 := by kernel_rfl
theorem Qpb : Qap Tryd.prog 37 = true := by kernel_rfl
theorem QjL : Qap Tryd.prog 38 = true := by kernel_rfl
theorem Qcy : Qgh Tryd.prog 54 = some (9, 1, 16) := by kernel_rfl
theorem Qe3 : Qeu Tryd.prog 54 = some [.string (bs (Str.mk []))] := by kernel_rfl
theorem Qr8 : Qap Tryd.prog 56 = true := by kernel_rfl
theorem Qro : Qap Tryd.prog 93 = true := by kernel_rfl
theorem Qtm : Qap Tryd.prog 94 = true := by kernel_rfl
theorem QiP : Qap Tryd.prog 63 = true := by kernel_rfl
theorem Qqr : Qe1 Tryd.prog 62 = some (.agg #[vi 0, .string (bs (Str.mk [])), .slice none 0 0, .slice none 0 0]) := by kernel_rfl
theorem QnK : Qap Tryd.prog 22 = true := by kernel_rfl
theorem QnH : QlF Tryd.prog 62 = some ([(0, 1), (1, 1), (2, 1), (3, 1)], [vi 0, .string (bs (Str.mk [])), .slice none 0 0, .slice none 0 0]) := by kernel_rfl
theorem QdZ : Qdo Tryd.prog 25 0 = some 0 := by kernel_rfl
theorem Qia : Qbw Tryd.prog 23 = some (false, 1) := by kernel_rfl
theorem QgV : Qgh Tryd.prog 23 = some (57, 2, 40) := by kernel_rfl
theorem Qhk : Qbw Tryd.prog 57 = some (true, 2) := by kernel_rfl
theorem QnG : Qe1 Tryd.prog 57 = some (.agg #[.string (bs (Str.mk [])), .slice none 0 0]) := by kernel_rfl
theorem Qk4 : Qdo Tryd.prog 57 0 = some 0 := by kernel_rfl
theorem Qd0 : Qdo Tryd.prog 57 1 = some 1 := by kernel_rfl
theorem Qic : Qbw Tryd.prog 55 = some (false, 1) := by kernel_rfl
theorem QgJ : Qgh Tryd.prog 55 = some (60, 2, 40) := by kernel_rfl
theorem Qg2 : Qbw Tryd.prog 60 = some (true, 2) := by kernel_rfl
theorem QnE : Qe1 Tryd.prog 60 = some (.agg #[.string (bs (Str.mk [])), .slice none 0 0]) := by kernel_rfl
theorem Qk1 : Qdo Tryd.prog 60 0 = some 0 := by kernel_rfl
theorem QdO : Qdo Tryd.prog 60 1 = some 1 := by kernel_rfl
theorem QhV : Qbw Tryd.prog 58 = some (false, 1) := by kernel_rfl
theorem QgE : Qgh Tryd.prog 58 = some (62, 4, 72) := by kernel_rfl
theorem QdF : Qbw Tryd.prog 62 = some (true, 4) := by kernel_rfl
theorem Qv0 : Qap Tryd.prog 57 = true := by kernel_rfl
theorem QqY : Qap Tryd.prog 111 = true := by kernel_rfl
theorem QjC : Qap Tryd.prog 64 = true := by kernel_rfl
theorem Qrd : Qap Tryd.prog 112 = true := by kernel_rfl
theorem QsI : Qap Tryd.prog 62 = true := by kernel_rfl
theorem Qtt : Qap Tryd.prog 95 = true := by kernel_rfl
theorem Quv : Qap Tryd.prog 96 = true := by kernel_rfl
theorem QqM : Qe1 Tryd.prog 25 = some (.agg #[.slice none 0 0]) := by kernel_rfl
theorem QvW : QlF Tryd.prog 57 = some ([(0, 1), (1, 1)], [.string (bs (Str.mk [])), .slice none 0 0]) := by kernel_rfl
theorem Qvq : QlF Tryd.prog 60 = some ([(0, 1), (1, 1)], [.string (bs (Str.mk [])), .slice none 0 0]) := by kernel_rfl
theorem QuT : Qap Tryd.prog 20 = true := by kernel_rfl
theorem Qmp : Qeu Tryd.prog 58 = some [vi 0, .string (bs (Str.mk [])), .slice none 0 0, .slice none 0 0] := by kernel_rfl
theorem Quw : Qap Tryd.prog 21 = true := by kernel_rfl
theorem QnF : Qeu Tryd.prog 55 = some [.string (bs (Str.mk [])), .slice none 0 0] := by kernel_rfl
theorem QqK : Qeu Tryd.prog 23 = some [.string (bs (Str.mk [])), .slice none 0 0] := by kernel_rfl
theorem Qec : Qbw Tryd.prog 25 = some (true, 1) := by kernel_rfl
theorem Quo : Qap Tryd.prog 65 = true := by kernel_rfl
theorem QvL : Qap Tryd.prog 36 = true := by kernel_rfl
theorem QkU : QlF Tryd.prog 25 = some ([(0, 1)], [.slice none 0 0]) := by kernel_rfl
theorem Qwf : QlF Tryd.prog 89 = some ([(0, 1), (1, 1), (2, 1)], [.slice none 0 0, vi 0, vi 0]) := by kernel_rfl
theorem Qud : Qap Tryd.prog 39 = true := by kernel_rfl
theorem Qix : Qdo Tryd.prog 94 2 = some 2 := by kernel_rfl
theorem Qiv : Qdo Tryd.prog 94 3 = some 3 := by kernel_rfl
theorem Qti : Qap Tryd.prog 113 = true := by kernel_rfl
theorem Qux : Qap Tryd.prog 97 = true := by kernel_rfl
theorem Qtj : Qap Tryd.prog 117 = true := by kernel_rfl
theorem QtH : Qap Tryd.prog 114 = true := by kernel_rfl
theorem QvK : Qap Tryd.prog 98 = true := by kernel_rfl
theorem Qvk : Qap Tryd.prog 99 = true := by kernel_rfl
theorem QtC : Qap Tryd.prog 100 = true := by kernel_rfl
theorem Qvr : Tryd.prog.underlying 54 = some (.slice 9) := by kernel_rfl
theorem Qtv : Qap Tryd.prog 115 = true := by kernel_rfl
theorem QsV : Qap Tryd.prog 67 = true := by kernel_rfl
theorem Qkm : Qap Tryd.prog 101 = true := by kernel_rfl
theorem Qj0 : Qap Tryd.prog 103 = true := by kernel_rfl
theorem Qj4 : Qap Tryd.prog 102 = true := by kernel_rfl
theorem Qu5 : Qap Tryd.prog 70 = true := by kernel_rfl
theorem Qu9 : Qap Tryd.prog 69 = true := by kernel_rfl
theorem Qu2 : Qap Tryd.prog 68 = true := by kernel_rfl
theorem Qi3 : QqL Tryd.prog 100 = some (9, 4) := by kernel_rfl
theorem ze4 : Qe1 Tryd.prog 4 = some (vb false) := by kernel_rfl
theorem QsO : Qap Tryd.prog 104 = true := by kernel_rfl
theorem un4 : Tryd.prog.underlying 4 = some .bool := by kernel_rfl
theorem QpM : Qe1 Tryd.prog 41 = some (.agg #[vi 0, vi 0, vi 0, vi 0]) := by kernel_rfl
theorem Qu8 : Qap Tryd.prog 72 = true := by kernel_rfl
theorem QvX : Qap Tryd.prog 71 = true := by kernel_rfl
theorem Qle : QlF Tryd.prog 41 = some ([(0, 1), (1, 1), (2, 1), (3, 1)], [vi 0, vi 0, vi 0, vi 0]) := by kernel_rfl
theorem Qhn : Qbw Tryd.prog 41 = some (true, 4) := by kernel_rfl
theorem Qt4 : Qap Tryd.prog 73 = true := by kernel_rfl
theorem Qsz : Qap Tryd.prog 45 = true := by kernel_rfl
theorem ze3 : Qe1 Tryd.prog 3 = some (vi 0) := by kernel_rfl
theorem Qug : Qap Tryd.prog 74 = true := by kernel_rfl
theorem Qve : Qap Tryd.prog 75 = true := by kernel_rfl
theorem Qpu : Qbw Tryd.prog 100 = some (false, 1) := by kernel_rfl
theorem Qtl : Qe1 Tryd.prog 100 = some (.map none) := by kernel_rfl
theorem Qu0 : Qe1 Tryd.prog 54 = some (.slice none 0 0) := by kernel_rfl
theorem Qth : Qe1 Tryd.prog 115 = some (.nilFunc) := by kernel_rfl
theorem Qqf : Qbw Tryd.prog 115 = some (false, 1) := by kernel_rfl
theorem QvJ : Qap Tryd.prog 77 = true := by kernel_rfl
theorem QuS : Qap Tryd.prog 76 = true := by kernel_rfl
theorem Qvo : Qap Tryd.prog 47 = true := by kernel_rfl
theorem Qu3 : Qap Tryd.prog 46 = true := by kernel_rfl
theorem Qv8 : Qap Tryd.prog 48 = true := by kernel_rfl
theorem Qv3 : Qap Tryd.prog 49 = true := by kernel_rfl
theorem QvH : Qap Tryd.prog 50 = true := by kernel_rfl
theorem QvU : Qju Tryd.prog 41 4 = true := by kernel_rfl
theorem QiQ : KK Tryd.prog 41 Qch Qb7 := QpX (fun x : Qay => [x.Kind, x.Func, x.Block, x.Stmt]) Qb7 QvU (fun x y h => by cases x; cases y; simpa using h) (fun _ => rfl) (fun x hx y hy => by simp only [List.mem_cons, List.not_mem_nil, or_false] at hy; obtain ⟨h0, h1, h2, h3⟩ := hx; rcases hy with rfl | rfl | rfl | rfl <;> assumption)
theorem QsB : QqL Tryd.prog 70 = some (41, 3) := by kernel_rfl
theorem Qlv : Qdo Tryd.prog 72 1 = some 3 := by kernel_rfl
theorem QsJ : Qbw Tryd.prog 70 = some (false, 1) := by kernel_rfl
theorem Qwg : Qap Tryd.prog 79 = true := by kernel_rfl
theorem Qwm : Qap Tryd.prog 78 = true := by kernel_rfl
theorem Qp9 : Qap Tryd.prog 26 = true := by kernel_rfl
theorem Qjk : Qdo Tryd.prog 41 1 = some 1 := by kernel_rfl
theorem Qnx : Qdo Tryd.prog 41 2 = some 2 := by kernel_rfl
theorem QmM : Qdo Tryd.prog 41 3 = some 3 := by kernel_rfl
theorem Qub : Qap Tryd.prog 51 = true := by kernel_rfl
theorem Qo6 : Qap Tryd.prog 25 = true := by kernel_rfl
theorem Qvj : Qap Tryd.prog 53 = true := by kernel_rfl
theorem QvR : Qap Tryd.prog 52 = true := by kernel_rfl
theorem Qsh : Qap Tryd.prog 110 = true := by kernel_rfl
theorem Qjf : Qap Tryd.prog 86 = true := by kernel_rfl
theorem Qq8 : Qap Tryd.prog 105 = true := by kernel_rfl
theorem un3 : Tryd.prog.underlying 3 = some (.int .i64) := by kernel_rfl
theorem Ql3 : Tryd.prog.underlying 111 = some (.int .u64) := by kernel_rfl
theorem QqU : Tryd.prog.underlying 138 = some (.int .u64) := by kernel_rfl
theorem un5 : Tryd.prog.underlying 5 = some (.int .u8) := by kernel_rfl
theorem Qvt : Qap Tryd.prog 90 = true := by kernel_rfl
theorem QtY : Qap Tryd.prog 55 = true := by kernel_rfl
theorem Qjs : Qbw Tryd.prog 147 = some (false, 1) := by kernel_rfl
theorem Qs6 : Tryd.prog.underlying 147 = some (.int .u64) := by kernel_rfl
theorem QtF : Qe1 Tryd.prog 147 = some (u64 (0#64)) := by kernel_rfl
theorem Qs5 : Qap Tryd.prog 106 = true := by kernel_rfl
theorem QsQ : Qap Tryd.prog 107 = true := by kernel_rfl
theorem QpB : Qap Tryd.prog 116 = true := by kernel_rfl
theorem Qpt : Qap Tryd.prog 109 = true := by kernel_rfl
theorem Qqq : Qap Tryd.prog 108 = true := by kernel_rfl
theorem Qv2 : Qap Tryd.prog 80 = true := by kernel_rfl
theorem QuX : Qap Tryd.prog 81 = true := by kernel_rfl
theorem QuK : Qap Tryd.prog 83 = true := by kernel_rfl
theorem Qt2 : Qap Tryd.prog 84 = true := by kernel_rfl
theorem Qus : Qap Tryd.prog 85 = true := by kernel_rfl
theorem Qqo : Qap Tryd.prog 87 = true := by kernel_rfl
theorem QlC : Qap Tryd.prog 88 = true := by kernel_rfl
theorem QhO : Qap Tryd.prog 54 = true := by kernel_rfl
theorem Qv9 : Qap Tryd.prog 82 = true := by kernel_rfl
theorem Qva : Qap Tryd.prog 16 = true := by kernel_rfl
theorem ca8 : Qap Tryd.prog 8 = true := by kernel_rfl
theorem Qtx : Qap Tryd.prog 17 = true := by kernel_rfl
theorem QtZ : Qap Tryd.prog 11 = true := by kernel_rfl
theorem Qwi : QlF Tryd.prog 52 = some ([(0, 1), (1, 1)], [.slice none 0 0, vi 0]) := by kernel_rfl
theorem Qmm : Qap Tryd.prog 19 = true := by kernel_rfl
theorem Qu4 : Qap Tryd.prog 29 = true := by kernel_rfl
theorem ca6 : Qap Tryd.prog 6 = true := by kernel_rfl
theorem ca7 : Qap Tryd.prog 7 = true := by kernel_rfl
theorem ca9 : Qap Tryd.prog 9 = true := by kernel_rfl
theorem QvI : Qap Tryd.prog 12 = true := by kernel_rfl
theorem QvB (l : List Int) (la0 : Option Addr) (lk0 : Nat) (n : Int) (Qoy : Qac n) (rr : Bool) (hrr : Qds l n = rr) : FT Tryd.prog 58 #[vl la0 lk0 l, vi n] [S la0 lk0 l] (fun g : Unit => True) (fun g => vb rr) (fun g => []) := by
 refine FTi Tryd.func58 fun w0 M0 F0 => ?_
 unfold Qac at Qoy
 refine Fb 8 0 fun _ => Fo 0 fun ho2 => KS ?_
 refine Oq Va (KS ?_)
 refine Oq Vm (Oq (QcE Qb2) (Oq Vm (KS ?_)))
 refine Kl (γ := Nat × Int) (fun (r3, Qmr) => ⟨[(0, vl la0 lk0 l), (1, vi n), (7, vl la0 lk0 l), (8, vi (l.length : Int)), (9, vi Qmr)], [S la0 lk0 l], Qbs l n r3 Qmr = Qbs l n (((l.length : Int) - 0).toNat) 0 /\ r3 = ((l.length : Int) - Qmr).toNat /\ (0 : Int) <= Qmr /\ Qmr <= (l.length : Int) /\ (-9223372036854775808 <= Qmr /\ Qmr <= 9223372036854775807), r3⟩) (((l.length : Int) - 0).toNat, 0) [0] ⟨rfl, rfl, aM1, aM1, aM1⟩ ?_
 rintro ⟨r3, Qmr⟩ ⟨hM5, hr6, hi7, hi8, hk9⟩
 refine QbB fun _ _ hL hA => ?_; dsimp only at hL hA; subst hL hA
 refine Fb 8 0 fun _ => Fo 0 fun ho11 => KS ?_
 refine Oq Qcu (KS ?_)
 refine Kc ?_ ?_
 ·intro h12
  have g13 := dt h12
  obtain ⟨r14, rfl⟩ := scc (n := r3) aM1
  refine KS ?_
  refine Oq Vm (Oq (Vi Qb2 0) ?_)
  have hb15 := ok1 (i := Qmr.toNat) ho11 rng
  refine Oq (QdG sh3 0) (Oq Va (Oq Va (KS ?_)))
  refine Oq Vm (Oq Qcu (Oq Vm ?_))
  refine Js 16 ?_ ?_
  ·intro h16
   have g17 := dt h16
   refine Osk (Osk (Osk (Oq Vpt (Oq Vm (Osk (Osk (Osk (Osk (Osk ?_)))))))))
   refine Osk (Osk (Osk (Osk (Osk (Osk (Oq Vpt (KS ?_)))))))
   refine Kt (KS ?_)
   refine Oq Va (KS ?_)
   have hR18 := q2 hM5 (.ret false) (by simp only [Qbs, h12, h16, cs4])
   have hq := q4 hrr false (by simp only [Qds, h12, h16, hR18, cs4]); subst hq
   exact Kr () rfl (.tmp rfl .nil) [] trivial
  intro h16
  have g19 := df h16
  refine Oq Vm (Oq Vm (Oq QeU (Oq Vpf (Oq Vm ?_))))
  refine Js 21 ?_ ?_
  ·intro h20
   have g21 := dt h20
   refine Osk (Osk (Osk (Osk (Osk (Osk (Osk (Osk (Osk (Osk ?_)))))))))
   refine Osk (Oq Vpt (KS ?_))
   refine Kt (KS ?_)
   refine Oq Va (KS ?_)
   have hR22 := q2 hM5 (.ret false) (by simp only [Qbs, h12, h16, h20, cs4])
   have hq := q4 hrr false (by simp only [Qds, h12, h16, h20, hR22, cs4]); subst hq
   exact Kr () rfl (.tmp rfl .nil) [] trivial
  intro h20
  have g23 := df h20
  refine Oq Vm (Oq QhM (Oq Vm ?_))
  refine Js 24 ?_ ?_
  ·intro h24
   have g25 := dt h24
   refine Oq Vm (Oq Vm (Oq Vm (Oq QdE (Oq (Vi Qb2 0) ?_))))
   have hb26 := ok1 (i := ((Qmr - 1) : Int).toNat) ho11 rng
   refine Oq (QdG sh3 0) (Oq Qh8 (Oq Vpt (Oq Vpf (KS ?_))))
   refine Kc ?_ ?_
   ·intro h27
    have g28 := dt h27
    refine KS ?_
    refine Oq Va (KS ?_)
    have hR29 := q2 hM5 (.ret false) (by simp only [Qbs, h12, h16, h20, h24, h27, cs4])
    have hq := q4 hrr false (by simp only [Qds, h12, h16, h20, h24, h27, hR29, cs4]); subst hq
    exact Kr () rfl (.tmp rfl .nil) [] trivial
   intro h27
   have g30 := df h27
   refine KS ?_
   refine Oq Qbd (Oq Vm (KS ?_))
   exact Kg (r14, (Qmr + 1)) [0] ⟨(q3 hM5 (by simp only [Qbs, h12, h16, h20, h24, h27, cs4])), aM1, aM1, aM1, aM1⟩
  intro h24
  have g31 := df h24
  refine Osk (Osk (Osk (Osk (Osk (Osk (Osk (Oq Vpf (Oq Vpf (KS ?_)))))))))
  refine Kf (KS ?_)
  refine Oq Qbd (Oq Vm (KS ?_))
  exact Kg (r14, (Qmr + 1)) [0] ⟨(q3 hM5 (by simp only [Qbs, h12, h16, h20, h24, cs4])), aM1, aM1, aM1, aM1⟩
 intro h12
 have g32 := df h12
 obtain rfl : r3 = 0 := by omega
 refine Ke ?_
 have hR33 := q2 hM5 (.brk ()) (by simp only [Qbs, h12, cs4])
 refine KS ?_
 refine Oq Va (KS ?_)
 have hq := q4 hrr true (by simp only [Qds, h12, hR33, cs4]); subst hq
 exact Kr () rfl (.tmp rfl .nil) [] trivial
theorem Qs2 (l : List (List Int)) (la0 : Option Addr) (lk0 : Nat) (rr : Int) (hrr : QdC l = rr) : FT Tryd.prog 30 #[vl la0 lk0 l] [S la0 lk0 l] (fun g : Unit => Qac rr /\ (-1 <= rr /\ rr <= 1024)) (fun g => vi rr) (fun g => []) := by
 refine FTi Tryd.func30 fun w0 M0 F0 => Fb 24 0 fun _ => ?_
 refine KS ?_
 refine Oq Va (KS ?_)
 refine Oq Va (KS ?_)
 refine Oq Vm (Oq (QcE Qi6) (Oq Vm (KS ?_)))
 refine Kl (γ := Nat × Int × Int) (fun (r2, Qgs, Qff) => ⟨[(0, vl la0 lk0 l), (3, vi Qgs), (6, vl la0 lk0 l), (7, vi (l.length : Int)), (8, vi Qff)], [S la0 lk0 l], QcB l r2 Qgs Qff = QcB l (((l.length : Int) - 0).toNat) 0 0 /\ r2 = ((l.length : Int) - Qff).toNat /\ (0 : Int) <= Qff /\ Qff <= (l.length : Int) /\ (-9223372036854775808 <= Qgs /\ Qgs <= 9223372036854775807) /\ (-9223372036854775808 <= Qff /\ Qff <= 9223372036854775807) /\ (0 <= Qgs /\ Qgs <= 1024), r2⟩) (((l.length : Int) - 0).toNat, 0, 0) [0] ⟨rfl, rfl, aM1, aM1, aM1, aM1, iv0⟩ ?_
 rintro ⟨r2, Qgs, Qff⟩ ⟨hM5, hr6, hi7, hi8, hk9, hk10, hv11⟩
 refine QbB fun _ _ hL hA => ?_; dsimp only at hL hA; subst hL hA
 refine Fb 24 0 fun _ => KS ?_
 refine Oq Qcu (KS ?_)
 refine Kc ?_ ?_
 ·intro h13
  have g14 := dt h13
  obtain ⟨r15, rfl⟩ := scc (n := r2) aM1
  refine KS ?_
  refine Oq (Vi Qi6 0) ?_
  refine Qgf Qff.toNat 0 rfl rng fun a16 k17 => ?_
  refine Fb 8 1 fun _ => Fo 1 fun ho19 => ?_
  refine Oq (Vld QkW 0) (Oq Va (KS ?_))
  refine Oq Vm (Oq Vm (Oq (QcE Qb2) (Oq Qbd (Oq Va (KS ?_)))))
  refine Oq Vm (Oq QhM (Oq Vm ?_))
  refine Js 18 ?_ ?_
  ·intro h20
   have g21 := dt h20
   refine Osk (Osk (Osk (Osk (Osk (Oq Vpt (KS ?_))))))
   refine Kt (KS ?_)
   refine Oq Va (KS ?_)
   have hR22 := q2 hM5 (.ret (-1)) (by simp only [QcB, h13, h20, cs4])
   have hq := q4 hrr (-1) (by simp only [QdC, h13, h20, hR22, cs4]); subst hq
   exact Kr () rfl (.tmp rfl .nil) [] en
  intro h20
  have g23 := df h20
  refine Oq Vm (Oq Vm (Oq (QcE Qi6) ?_))
  refine QaO (Qds (l.getD Qff.toNat []) (l.length : Int)) fun rv24 hg25 => ?_
  have hc26 := QvB ((l.getD Qff.toNat [])) a16 k17 ((l.length : Int)) pre rv24 hg25
  refine Oc [1] QuU hc26 ?_
  rintro - -
  refine Oq QeP (Oq Vpf (KS ?_))
  refine Kc ?_ ?_
  ·intro h27
   have h29 := not_true h27
   refine KS ?_
   refine Oq Va (KS ?_)
   have hR31 := q2 hM5 (.ret (-1)) (by simp only [QcB, h13, h20, h27, h29, hg25, cs4])
   have hq := q4 hrr (-1) (by simp only [QdC, h13, h20, h27, h29, hg25, hR31, cs4]); subst hq
   exact Kr () rfl (.tmp rfl .nil) [] en
  intro h27
  have h33 := not_false h27
  refine KS ?_
  refine Oq Qbd (Oq Vm (KS ?_))
  exact Kg (r15, (Qgs + ((l.getD Qff.toNat []).length : Int)), (Qff + 1)) [2] ⟨(q3 hM5 (by simp only [QcB, h13, h20, h27, h33, hg25, cs4])), aM1, aM1, aM1, aM1, aM1, iv1⟩
 intro h13
 have g35 := df h13
 obtain rfl : r2 = 0 := by omega
 refine Ke ?_
 have hR36 := q2 hM5 (.brk Qgs) (by simp only [QcB, h13, cs4])
 refine KS ?_
 refine Oq Vm (Oq Va (KS ?_))
 have hq := q4 hrr Qgs (by simp only [QdC, h13, hR36, cs4]); subst hq
 exact Kr () rfl (.tmp rfl .nil) [] en
theorem Qvh (s : List Int) (sa0 : Option Addr) (sk0 : Nat) (v : Int) (QqC : Qac v) (rr : Int) (hrr : QeS s v = rr) : FT Tryd.prog 59 #[vl sa0 sk0 s, vi v] [S sa0 sk0 s] (fun g : Unit => Qac rr) (fun g => vi rr) (fun g => []) := by
 refine FTi Tryd.func59 fun w0 M0 F0 => ?_
 unfold Qac at QqC
 refine Fb 8 0 fun _ => Fo 0 fun ho2 => KS ?_
 refine Oq Va (KS ?_)
 refine Oq Vm (Oq (QcE Qb2) (Oq Vm (KS ?_)))
 refine Kl (γ := Nat × Int) (fun (r3, Qff) => ⟨[(0, vl sa0 sk0 s), (1, vi v), (7, vi (s.length : Int)), (8, vi Qff)], [S sa0 sk0 s], Qdb s v r3 Qff = Qdb s v (((s.length : Int) - 0).toNat) 0 /\ r3 = ((s.length : Int) - Qff).toNat /\ (0 : Int) <= Qff /\ Qff <= (s.length : Int) /\ (-9223372036854775808 <= Qff /\ Qff <= 9223372036854775807), r3⟩) (((s.length : Int) - 0).toNat, 0) [0] ⟨rfl, rfl, aM1, aM1, aM1⟩ ?_
 rintro ⟨r3, Qff⟩ ⟨hM5, hr6, hi7, hi8, hk9⟩
 refine QbB fun _ _ hL hA => ?_; dsimp only at hL hA; subst hL hA
 refine Fb 8 0 fun _ => Fo 0 fun ho11 => KS ?_
 refine Oq Qcu (KS ?_)
 refine Kc ?_ ?_
 ·intro h12
  have g13 := dt h12
  obtain ⟨r14, rfl⟩ := scc (n := r3) aM1
  refine KS ?_
  refine Oq Vm (Oq Va (KS ?_))
  refine Oq Vm (Oq Vm (Oq Vm (Oq (Vi Qb2 0) ?_)))
  have hb15 := ok1 (i := Qff.toNat) ho11 rng
  refine Oq (QdG sh3 0) (Oq Qby (KS ?_))
  refine Kc ?_ ?_
  ·intro h16
   have g17 := eq_of_beq h16
   refine KS ?_
   refine Oq Vm (Oq Va (KS ?_))
   have hR18 := q2 hM5 (.ret Qff) (by simp only [Qdb, h12, h16, cs4])
   have hq := q4 hrr Qff (by simp only [QeS, h12, h16, hR18, cs4]); subst hq
   exact Kr () rfl (.tmp rfl .nil) [] en
  intro h16
  have g19 := ne_of_beq_false h16
  refine KS ?_
  refine Oq Qbd (Oq Vm (KS ?_))
  exact Kg (r14, (Qff + 1)) [0] ⟨(q3 hM5 (by simp only [Qdb, h12, h16, cs4])), aM1, aM1, aM1, aM1⟩
 intro h12
 have g20 := df h12
 obtain rfl : r3 = 0 := by omega
 refine Ke ?_
 have hR21 := q2 hM5 (.brk ()) (by simp only [Qdb, h12, cs4])
 refine KS ?_
 refine Oq Va (KS ?_)
 have hq := q4 hrr (-1) (by simp only [QeS, h12, hR21, cs4]); subst hq
 exact Kr () rfl (.tmp rfl .nil) [] en
theorem Que (s : List Int) (sa0 : Option Addr) (sk0 : Nat) (v : Int) (QqC : Qac v) (rr : Bool) (hrr : Qcc s v = rr) : FT Tryd.prog 31 #[vl sa0 sk0 s, vi v] [S sa0 sk0 s] (fun g : Unit => True) (fun g => vb rr) (fun g => []) := by
 refine FTi Tryd.func31 fun w0 M0 F0 => ?_
 unfold Qac at QqC
 refine Fb 8 0 fun _ => Fo 0 fun ho2 => KS ?_
 refine Oq Va (KS ?_)
 refine Oq Vm (Oq Vm ?_)
 refine QaO (QeS s v) fun rv3 hg4 => ?_
 have hc5 := Qvh s sa0 sk0 v pre rv3 hg4
 refine Oc [0] Qu6 hc5 ?_
 rintro - he6
 unfold Qac at he6
 refine Oq QeU (Oq Va (KS ?_))
 have hq := q4 hrr (decide (0 <= rv3)) (by simp only [Qcc, hg4, cs4]); subst hq
 exact Kr () rfl (.tmp rfl .nil) [] trivial
theorem QuF (g : Qbn) (ga0 : Option Addr) (gk0 : Nat) (ga1 : Option Addr) (gk1 : Nat) (ga2 : Option Addr) (gk2 : Nat) (rr : Bool) (hrr : Qde g = rr) : FT Tryd.prog 10 #[.agg #[vl ga0 gk0 g.Nodes, vl ga1 gk1 g.Succ, vl ga2 gk2 g.Pred]] [S ga0 gk0 g.Nodes, S ga1 gk1 g.Succ, S ga2 gk2 g.Pred] (fun g : Unit => True) (fun g => vb rr) (fun g => []) := by
 refine FTi Tryd.func10 fun w0 M0 F0 => Fb 32 0 fun _ => Fb 24 1 fun _ => Fb 24 2 fun _ => ?_
 refine KS ?_
 refine Oa (Ab [vl ga0 gk0 g.Nodes, vl ga1 gk1 g.Succ, vl ga2 gk2 g.Pred]) fun p4 => Oq Va (KS ?_)
 refine Oq (Vfa Qlz 0) (Oq (QaQ QsG 0) (Oq (QcE Qjj) (Oq Va (KS ?_))))
 refine Oq Vm (Oq Qcu (Oq Vm ?_))
 refine Js 14 ?_ ?_
 ·intro h5
  have g6 := dt h5
  refine Osk (Osk (Oq Vpt (Oq Vm (Osk (Osk (Osk (Osk (Osk (Oq Vpt ?_)))))))))
  refine Oq Vm (Osk (Osk (Osk (Osk (Osk (Oq Vpt (KS ?_)))))))
  refine Kt (KS ?_)
  refine Oq Va (KS ?_)
  have hq := q4 hrr false (by simp only [Qde, h5, cs4]); subst hq
  exact Kr () rfl (.tmp rfl .nil) [] trivial
 intro h5
 have g7 := df h5
 refine Oq Vm (Oq QhM (Oq Vpf (Oq Vm ?_)))
 refine Js 18 ?_ ?_
 ·intro h8
  have g9 := dt h8
  refine Osk (Osk (Osk (Osk (Osk (Oq Vpt (Oq Vm (Osk (Osk (Osk ?_)))))))))
  refine Osk (Osk (Oq Vpt (KS ?_)))
  refine Kt (KS ?_)
  refine Oq Va (KS ?_)
  have hq := q4 hrr false (by simp only [Qde, h5, h8, cs4]); subst hq
  exact Kr () rfl (.tmp rfl .nil) [] trivial
 intro h8
 have g10 := df h8
 refine Oq (Vfa Qgz 0) (Oq (QaQ QjR 0) (Oq (QcE Qi6) (Oq Vm (Oq QgA (Oq Vpf (Oq Vm ?_))))))
 refine Js 25 ?_ ?_
 ·intro h11
  have g12 := QbL h11
  refine Osk (Osk (Osk (Osk (Osk (Oq Vpt (KS ?_))))))
  refine Kt (KS ?_)
  refine Oq Va (KS ?_)
  have hq := q4 hrr false (by simp only [Qde, h5, h8, h11, cs4]); subst hq
  exact Kr () rfl (.tmp rfl .nil) [] trivial
 intro h11
 have g13 := QaA h11
 refine Oq (Vfa Qjg 0) (Oq (QaQ QjR 0) (Oq (QcE Qi6) (Oq Vm (Oq QgA (Oq Vpf (KS ?_))))))
 refine Kc ?_ ?_
 ·intro h14
  have g15 := QbL h14
  refine KS ?_
  refine Oq Va (KS ?_)
  have hq := q4 hrr false (by simp only [Qde, h5, h8, h11, h14, cs4]); subst hq
  exact Kr () rfl (.tmp rfl .nil) [] trivial
 intro h14
 have g16 := QaA h14
 refine KS ?_
 refine Oq (Vfa Qgz 0) (Oq (QaQ QjR 0) ?_)
 refine QaO (QdC g.Succ) fun rv17 hg18 => ?_
 have hc19 := Qs2 g.Succ ga1 gk1 rv17 hg18
 refine Oc [2] Qs9 hc19 ?_
 rintro - ⟨he20, he21⟩
 unfold Qac at he20
 refine Oq Va (KS ?_)
 refine Oq Vm (Oq Qcu (Oq Vm ?_))
 refine Js 37 ?_ ?_
 ·intro h22
  have g23 := dt h22
  refine Osk (Osk (Osk (Osk (Osk (Oq Vpt (KS ?_))))))
  refine Kt (KS ?_)
  refine Oq Va (KS ?_)
  have hq := q4 hrr false (by simp only [Qde, h5, h8, h11, h14, h22, hg18, cs4]); subst hq
  exact Kr () rfl (.tmp rfl .nil) [] trivial
 intro h22
 have g24 := df h22
 try have hct := QnY (by assumption : QdC g.Succ = _) h22
 refine Oq (Vfa Qjg 0) (Oq (QaQ QjR 0) ?_)
 refine QaO (QdC g.Pred) fun rv25 hg26 => ?_
 have hc27 := Qs2 g.Pred ga2 gk2 rv25 hg26
 refine Oc [3] Qs9 hc27 ?_
 rintro - ⟨he28, he29⟩
 unfold Qac at he28
 refine Oq Vm (Oq QgA (Oq Vpf (KS ?_)))
 refine Kc ?_ ?_
 ·intro h30
  have g31 := QbL h30
  refine KS ?_
  refine Oq Va (KS ?_)
  have hq := q4 hrr false (by simp only [Qde, h5, h8, h11, h14, h22, h30, hg18, hg26, cs4]); subst hq
  exact Kr () rfl (.tmp rfl .nil) [] trivial
 intro h30
 have g32 := QaA h30
 refine KS ?_
 refine Oq (Vfa Qgz 0) (Oq (QaQ QjR 0) (Oq (QcE Qi6) (Oq Vm (KS ?_))))
 refine Kl (γ := Nat × Int) (fun (r33, QdT) => ⟨[(1, p4), (45, vl ga1 gk1 g.Succ), (46, vi (g.Succ.length : Int)), (47, vi QdT)], [pv p4 [vl ga0 gk0 g.Nodes, vl ga1 gk1 g.Succ, vl ga2 gk2 g.Pred], S ga0 gk0 g.Nodes, S ga1 gk1 g.Succ, S ga2 gk2 g.Pred], QdV g r33 QdT = QdV g (((g.Succ.length : Int) - 0).toNat) 0 /\ r33 = ((g.Succ.length : Int) - QdT).toNat /\ (0 : Int) <= QdT /\ QdT <= (g.Succ.length : Int) /\ (-9223372036854775808 <= QdT /\ QdT <= 9223372036854775807), r33⟩) (((g.Succ.length : Int) - 0).toNat, 0) [0, 1, 2, 3] ⟨rfl, rfl, aM1, aM1, aM1⟩ ?_
 rintro ⟨r33, QdT⟩ ⟨hM35, hr36, hi37, hi38, hk39⟩
 refine QbB fun _ _ hL hA => ?_; dsimp only at hL hA; subst hL hA
 refine Fb 32 1 fun _ => Fb 24 2 fun _ => Fb 24 3 fun _ => KS ?_
 refine Oq Qcu (KS ?_)
 refine Kc ?_ ?_
 ·intro h43
  have g44 := dt h43
  obtain ⟨r45, rfl⟩ := scc (n := r33) aM1
  refine KS ?_
  refine Oq Vm (Oq (Vi Qi6 2) ?_)
  refine Qgf QdT.toNat 2 rfl rng fun a46 k47 => ?_
  refine Fb 8 1 fun _ => Fo 1 fun ho49 => ?_
  refine Oq (Vld QkW 0) (Oq Va (Oq Va (KS ?_)))
  refine Oq Vm (Oq (QcE Qb2) (Oq Vm (KS ?_)))
  refine Kl (γ := Nat × Int) (fun (r50, Qf4) => ⟨[(1, p4), (45, vl ga1 gk1 g.Succ), (46, vi (g.Succ.length : Int)), (47, vi QdT), (5, vi QdT), (52, vl a46 k47 (g.Succ.getD QdT.toNat [])), (53, vi ((g.Succ.getD QdT.toNat []).length : Int)), (54, vi Qf4)], [S a46 k47 ((g.Succ.getD QdT.toNat []) : List Int), pv p4 [vl ga0 gk0 g.Nodes, vl ga1 gk1 g.Succ, vl ga2 gk2 g.Pred], S ga0 gk0 g.Nodes, S ga1 gk1 g.Succ, S ga2 gk2 g.Pred], QdW g QdT (g.Succ.getD QdT.toNat []) r50 Qf4 = QdW g QdT (g.Succ.getD QdT.toNat []) (((((g.Succ.getD QdT.toNat []).length : Int) : Int) - 0).toNat) 0 /\ r50 = ((((g.Succ.getD QdT.toNat []).length : Int) : Int) - Qf4).toNat /\ (0 : Int) <= Qf4 /\ (Qf4 <= ((g.Succ.getD QdT.toNat []).length : Int) \/ Qf4 = 0) /\ (-9223372036854775808 <= Qf4 /\ Qf4 <= 9223372036854775807), r50⟩) (((((g.Succ.getD QdT.toNat []).length : Int) : Int) - 0).toNat, 0) [1, 2, 3, 4, 5] ⟨rfl, rfl, aM1, (.inr rfl), aM1⟩ ?_
  rintro ⟨r50, Qf4⟩ ⟨hM52, hr53, hi54, hi55, hk56⟩
  refine QbB fun _ _ hL hA => ?_; dsimp only at hL hA; subst hL hA
  refine Fb 8 0 fun _ => Fo 0 fun ho58 => Fb 32 2 fun _ => Fb 24 3 fun _ => Fb 24 4 fun _ => KS ?_
  refine Oq Qcu (KS ?_)
  refine Kc ?_ ?_
  ·intro h62
   have g63 := dt h62
   have hbr := hct QdT.toNat Qf4.toNat aM1
   obtain ⟨r64, rfl⟩ := scc (n := r50) aM1
   refine KS ?_
   refine Oq (Vi Qb2 0) ?_
   have hb65 := ok1 (i := Qf4.toNat) ho58 rng
   refine Oq (QdG sh3 0) (Oq Va (KS ?_))
   refine Oq (Vfa Qjg 1) (Oq (QaQ QjR 1) (Oq Vm (Oq (Vi Qi6 4) ?_)))
   refine Qgf (((g.Succ.getD QdT.toNat []).getD Qf4.toNat 0) : Int).toNat 4 rfl rng fun a66 k67 => ?_
   refine Fb 8 1 fun _ => Fo 1 fun ho69 => ?_
   refine Oq (Vld QkW 0) (Oq Vm ?_)
   refine QaO (Qcc (g.Pred.getD (((g.Succ.getD QdT.toNat []).getD Qf4.toNat 0) : Int).toNat []) QdT) fun rv70 hg71 => ?_
   have hc72 := Que ((g.Pred.getD (((g.Succ.getD QdT.toNat []).getD Qf4.toNat 0) : Int).toNat [])) a66 k67 QdT pre rv70 hg71
   refine Oc [1] Qur hc72 ?_
   rintro - -
   refine Oq QeP (KS ?_)
   refine Kc ?_ ?_
   ·intro h73
    have h75 := not_true h73
    refine KS ?_
    refine Oq Va (KS ?_)
    have hR77 := q2 hM52 (.ret false) (by simp only [QdW, h5, h8, h11, h14, h22, h30, h43, h62, h73, h75, hg18, hg26, hg71, cs4])
    have hR78 := q2 hM35 (.ret false) (by simp only [QdV, h5, h8, h11, h14, h22, h30, h43, h62, h73, h75, hg18, hg26, hg71, hR77, cs4])
    have hq := q4 hrr false (by simp only [Qde, h5, h8, h11, h14, h22, h30, h43, h62, h73, h75, hg18, hg26, hg71, hR77, hR78, cs4]); subst hq
    exact Kr () rfl (.tmp rfl .nil) [] trivial
   intro h73
   have h80 := not_false h73
   refine KS ?_
   refine Oq Qbd (Oq Vm (KS ?_))
   exact Kg (r64, (Qf4 + 1)) [2, 3, 4, 5, 6] ⟨(q3 hM52 (by simp only [QdW, h5, h8, h11, h14, h22, h30, h43, h62, h73, h80, hg18, hg26, hg71, cs4])), aM1, aM1, aM1, aM1⟩
  intro h62
  have g82 := df h62
  obtain rfl : r50 = 0 := by omega
  refine Ke ?_
  have hR83 := q2 hM52 (.brk ()) (by simp only [QdW, h5, h8, h11, h14, h22, h30, h43, h62, hg18, hg26, cs4])
  refine KS ?_
  refine Oq Qbd (Oq Vm (KS ?_))
  exact Kg (r45, (QdT + 1)) [1, 2, 3, 4] ⟨(q3 hM35 (by simp only [QdV, h5, h8, h11, h14, h22, h30, h43, h62, hg18, hg26, hR83, cs4])), aM1, aM1, aM1, aM1⟩
 intro h43
 have g84 := df h43
 obtain rfl : r33 = 0 := by omega
 refine Ke ?_
 have hR85 := q2 hM35 (.brk ()) (by simp only [QdV, h5, h8, h11, h14, h22, h30, h43, hg18, hg26, cs4])
 refine KS ?_
 refine Oq Va (KS ?_)
 have hq := q4 hrr true (by simp only [Qde, h5, h8, h11, h14, h22, h30, h43, hg18, hg26, hR85, cs4]); subst hq
 exact Kr () rfl (.tmp rfl .nil) [] trivial
theorem QuC (g : Qbn) (ga0 : Option Addr) (gk0 : Nat) (ga1 : Option Addr) (gk1 : Nat) (ga2 : Option Addr) (gk2 : Nat) (rr : Int) (hrr : QfJ g = rr) : FT Tryd.prog 11 #[.agg #[vl ga0 gk0 g.Nodes, vl ga1 gk1 g.Succ, vl ga2 gk2 g.Pred]] [S ga0 gk0 g.Nodes, S ga1 gk1 g.Succ, S ga2 gk2 g.Pred] (fun g : Unit => Qac rr) (fun g => vi rr) (fun g => []) := by
 refine FTi Tryd.func11 fun w0 M0 F0 => Fb 32 0 fun _ => Fb 24 1 fun _ => Fb 24 2 fun _ => ?_
 refine KS ?_
 refine Oa (Ab [vl ga0 gk0 g.Nodes, vl ga1 gk1 g.Succ, vl ga2 gk2 g.Pred]) fun p4 => Oq Va (KS ?_)
 refine Oq (Qc9 QmP 0) ?_
 refine QaO (Qde g) fun rv5 hg6 => ?_
 have hc7 := QuF g ga0 gk0 ga1 gk1 ga2 gk2 rv5 hg6
 refine Oc [1, 2, 3] Qul hc7 ?_
 rintro - -
 refine Oq QeP (KS ?_)
 refine Kc ?_ ?_
 ·intro h8
  have h10 := not_true h8
  refine KS ?_
  refine Oq Va (KS ?_)
  have hq := q4 hrr 0 (by simp only [QfJ, h8, h10, hg6, cs4]); subst hq
  exact Kr () rfl (.tmp rfl .nil) [] en
 intro h8
 have h13 := not_false h8
 refine KS ?_
 refine Oq (Vfa Qgz 0) (Oq (QaQ QjR 0) ?_)
 refine QaO (QdC g.Succ) fun rv15 hg16 => ?_
 have hc17 := Qs2 g.Succ ga1 gk1 rv15 hg16
 refine Oc [2] Qs9 hc17 ?_
 rintro - ⟨he18, he19⟩
 unfold Qac at he18
 refine Oq Va (KS ?_)
 have hq := q4 hrr rv15 (by simp only [QfJ, h8, h13, hg6, hg16, cs4]); subst hq
 exact Kr () rfl (.tmp rfl .nil) [] en
theorem Qrk (c : Int) (QqQ : 0 <= c /\ c <= 255) (rr : Bool) (hrr : QbQ c = rr) : FT Tryd.prog 60 #[.int .u8 c] [] (fun g : Unit => True) (fun g => vb rr) (fun g => []) := by
 refine FTi Tryd.func60 fun w0 M0 F0 => ?_
 refine KS ?_
 refine Oq Va (KS ?_)
 refine Oq Vm (Oq QeU (Oq Vm ?_))
 refine Js 5 ?_ ?_
 ·intro h1
  have g2 := dt h1
  refine Oq Vm (Oq Qh8 (Oq Vpt (Oq Vm ?_)))
  refine Js 9 ?_ ?_
  ·intro h3
   have g4 := dt h3
   refine Osk (Osk (Osk (Osk (Osk (Osk (Oq Vpt (Oq Vm (Osk (Osk ?_)))))))))
   refine Oq Vpt (Oq Va (KS ?_))
   have hq := q4 hrr true (by simp only [QbQ, h1, h3, cs4]); subst hq
   exact Kr () rfl (.tmp rfl .nil) [] trivial
  intro h3
  have g5 := df h3
  refine Oq Vm (Oq QeU (Oq Vm ?_))
  refine Js 12 ?_ ?_
  ·intro h6
   have g7 := dt h6
   refine Oq Vm (Oq Qh8 (Oq Vpt (Oq Vpf (Oq Vm ?_))))
   refine Js 17 ?_ ?_
   ·intro h8
    have g9 := dt h8
    refine Osk (Osk (Oq Vpt (Oq Va (KS ?_))))
    have hq := q4 hrr true (by simp only [QbQ, h1, h3, h6, h8, cs4]); subst hq
    exact Kr () rfl (.tmp rfl .nil) [] trivial
   intro h8
   have g10 := df h8
   refine Oq Vm (Oq Qby (Oq Vpf (Oq Va (KS ?_))))
   have hq := q4 hrr (c == 95) (by simp only [QbQ, h1, h3, h6, h8, cs4]); subst hq
   exact Kr () rfl (.tmp rfl .nil) [] trivial
  intro h6
  have g11 := df h6
  refine Osk (Osk (Oq Vpf (Oq Vpf (Oq Vm (Oq Vm (Oq Qby (Oq Vpf (Oq Va (KS ?_)))))))))
  have hq := q4 hrr (c == 95) (by simp only [QbQ, h1, h3, h6, cs4]); subst hq
  exact Kr () rfl (.tmp rfl .nil) [] trivial
 intro h1
 have g12 := df h1
 refine Osk (Osk (Oq Vpf (Oq Vm (Oq Vm (Oq QeU (Oq Vm ?_))))))
 refine Js 12 ?_ ?_
 ·intro h13
  have g14 := dt h13
  refine Oq Vm (Oq Qh8 (Oq Vpt (Oq Vpf (Oq Vm ?_))))
  refine Js 17 ?_ ?_
  ·intro h15
   have g16 := dt h15
   refine Osk (Osk (Oq Vpt (Oq Va (KS ?_))))
   have hq := q4 hrr true (by simp only [QbQ, h1, h13, h15, cs4]); subst hq
   exact Kr () rfl (.tmp rfl .nil) [] trivial
  intro h15
  have g17 := df h15
  refine Oq Vm (Oq Qby (Oq Vpf (Oq Va (KS ?_))))
  have hq := q4 hrr (c == 95) (by simp only [QbQ, h1, h13, h15, cs4]); subst hq
  exact Kr () rfl (.tmp rfl .nil) [] trivial
 intro h13
 have g18 := df h13
 refine Osk (Osk (Oq Vpf (Oq Vpf (Oq Vm (Oq Vm (Oq Qby (Oq Vpf (Oq Va (KS ?_)))))))))
 have hq := q4 hrr (c == 95) (by simp only [QbQ, h1, h13, cs4]); subst hq
 exact Kr () rfl (.tmp rfl .nil) [] trivial
theorem QoK (c : Int) (QqQ : 0 <= c /\ c <= 255) (rr : Bool) (hrr : Qd1 c = rr) : FT Tryd.prog 61 #[.int .u8 c] [] (fun g : Unit => True) (fun g => vb rr) (fun g => []) := by
 refine FTi Tryd.func61 fun w0 M0 F0 => ?_
 refine KS ?_
 refine Oq Va (KS ?_)
 refine Oq Vm (Oq QeU (Oq Vm ?_))
 refine Js 5 ?_ ?_
 ·intro h1
  have g2 := dt h1
  refine Oq Vm (Oq Qh8 (Oq Vpt (Oq Va (KS ?_))))
  have hq := q4 hrr (decide (c <= 57)) (by simp only [Qd1, h1, cs4]); subst hq
  exact Kr () rfl (.tmp rfl .nil) [] trivial
 intro h1
 have g3 := df h1
 refine Osk (Osk (Oq Vpf (Oq Va (KS ?_))))
 have hq := q4 hrr false (by simp only [Qd1, h1, cs4]); subst hq
 exact Kr () rfl (.tmp rfl .nil) [] trivial
theorem QvM (text : Str) (QqD : text.b.length <= 140737488355328) (rr : List QaN × Int × Int × Int) (hrr : Qfd text = rr) : FT Tryd.prog 36 #[.string (bs text)] [] (fun g : Value => Qac rr.2.1 /\ Qac rr.2.2.1 /\ Qac rr.2.2.2) (fun g => .tuple #[g, vi rr.2.1, vi rr.2.2.1, vi rr.2.2.2]) (fun g => [sl g rr.1]) := by
 refine FTi Tryd.func36 fun w0 M0 F0 => ?_
 refine KS ?_
 refine Oq Va (Oq Va (Oq Va (Oq Va (KS ?_))))
 refine Oq Vm (Oq (VlS un9 (l := text)) (Oq QhM (KS ?_)))
 refine Kc ?_ ?_
 ·intro h1
  have g2 := dt h1
  refine KS ?_
  refine Oq Va (Oq Va (Oq Va (Oq Va (KS ?_))))
  refine Jl [] (Ent.slNil (α := QaN)) ?_
  have hq := q4 hrr ([], 0, 0, 7) (by simp only [Qfd, h1, cs4]); subst hq
  exact Kr (.slice none 0 0) rfl (.tmp rfl (.tmp rfl (.tmp rfl (.tmp rfl .nil)))) [0] en
 intro h1
 have g3 := df h1
 refine KS ?_
 refine Oq Va (KS ?_)
 refine Oq Va (Oq Va (Oq Va (KS ?_)))
 refine Oq Va (KS ?_)
 refine Jl [] (Ent.osNil (α := QaN)) ?_
 have hterm20 : Qak text (text.b.length + 1) [] 1 1 false 0 ≠ LR.oof := (QkN _ _ _ _ _ _ _ aM1)
 refine Kl (γ := Nat × List QaN × Int × Int × Bool × Int × Option Addr × Nat) (fun (r4, Qbq, Qau, Qba, open__8, i_9, a10, k11) => ⟨[(0, .string (bs text)), (6, vl a10 k11 Qbq), (7, vi Qau), (8, vi Qba), (9, vb open__8), (10, vi i_9)], [O a10 k11 Qbq], Qak text r4 Qbq Qau Qba open__8 i_9 = Qak text (text.b.length + 1) [] 1 1 false 0 /\ (-9223372036854775808 <= Qau /\ Qau <= 9223372036854775807) /\ (-9223372036854775808 <= Qba /\ Qba <= 9223372036854775807) /\ (-9223372036854775808 <= i_9 /\ i_9 <= 9223372036854775807) /\ (0 <= i_9 /\ i_9 <= (text.b.length : Int)) /\ (0 <= Qau /\ Qau <= i_9 + 1) /\ (0 <= Qba /\ Qba <= i_9 + 1) /\ (Qbq.length + r4 <= text.b.length + 1), r4⟩) ((text.b.length + 1), [], 1, 1, false, 0, none, 0) [0] ⟨rfl, aM1, aM1, aM1, iv0, iv0, iv0, iv0⟩ ?_
 rintro ⟨r4, Qbq, Qau, Qba, open__8, i_9, a10, k11⟩ ⟨hM12, hk13, hk14, hk15, hv16, hv17, hv18, hv19⟩
 refine QbB fun _ _ hL hA => ?_; dsimp only at hL hA; subst hL hA
 refine Fb 40 0 fun _ => ?_
 rcases r4 with _ | r4
 ·exact absurd (hM12.symm.trans rfl) hterm20
 refine KS ?_
 refine Oq Vm (Oq Vm (Oq (VlS un9 (l := text)) (Oq Qcu (KS ?_))))
 refine Kc ?_ ?_
 ·intro h22
  have g23 := dt h22
  refine KS ?_
  refine Oq Vm (Oq Vm (Oq (Vix un9 (l := text)) ?_))
  have hb24 := u8b (text.b.getD i_9.toNat 0)
  refine Oq Va (KS ?_)
  refine Oq Vm (Oq Qby (Oq Vm ?_))
  refine Js 28 ?_ ?_
  ·intro h25
   have g26 := eq_of_beq h25
   refine Osk (Osk (Oq Vpt (Oq Va (KS ?_))))
   refine Kt (KS ?_)
   refine Oq Vm (Oq Qbd (Oq Vm (Oq Qbd (Oq Va (Oq Va (KS ?_))))))
   exact Kg (r4, Qbq, Qau, (Qba + 1), open__8, (i_9 + 1), a10, k11) [0] ⟨(q3 hM12 (by simp only [Qak, h1, h22, h25, cs4])), aM1, aM1, aM1, iv1, iv1, iv1, iv1⟩
  intro h25
  have g27 := ne_of_beq_false h25
  refine Oq Vm (Oq Qby (Oq Vpf (Oq Va (KS ?_))))
  refine Kc ?_ ?_
  ·intro h28
   have g29 := eq_of_beq h28
   refine KS ?_
   refine Oq Vm (Oq Qbd (Oq Vm (Oq Qbd (Oq Va (Oq Va (KS ?_))))))
   exact Kg (r4, Qbq, Qau, (Qba + 1), open__8, (i_9 + 1), a10, k11) [0] ⟨(q3 hM12 (by simp only [Qak, h1, h22, h25, h28, cs4])), aM1, aM1, aM1, iv1, iv1, iv1, iv1⟩
  intro h28
  have g30 := ne_of_beq_false h28
  refine KS ?_
  refine Oq Vm (Oq Qby (Oq Vm ?_))
  refine Js 39 ?_ ?_
  ·intro h31
   have g32 := eq_of_beq h31
   refine Osk (Osk (Oq Vpt (Oq Vm (Osk (Osk (Oq Vpt (Oq Va (KS ?_))))))))
   refine Kt (KS ?_)
   refine Oq Vm (KS ?_)
   refine Kc ?_ ?_
   ·intro h33
    refine KS ?_
    refine Oq Vm (Oq Vm (Oq Vm (Oq (Vbd QpW [vi 3, .string (bs (Str.mk [])), vi Qau, vi Qba]) (Oa (AsV QeR QlV [.agg #[vi 3, .string (bs (Str.mk [])), vi Qau, vi Qba]] [vi 3, .string (bs (Str.mk [])), vi Qau, vi Qba]) fun c35 => ?_))))
    refine Jo 0 ?_; rintro a36 k37 rfl
    refine Jl [0] (Ent.cr1 (α := QaN) (A := []) _ (QaN.mk 3 (Str.mk []) Qau Qba) _ aB1 (fun h => ⟨rfl, aL1, aS1, aL1, aL1⟩)) ?_
    refine Oa (ApO [1, 0] QeR QeR QlV) fun c38 => ?_
    refine Jo 0 ?_; rintro a39 k40 rfl
    refine Fb 40 0 fun _ => ?_
    have hn42 := la Qbq ([(QaN.mk 3 (Str.mk []) Qau Qba)] : List QaN)
    refine Oq Va (KS ?_)
    refine Oq Va (KS ?_)
    have hterm51 : QaB text ((text.b.getD i_9.toNat 0).toNat : Int) (text.b.length + 1) Qba i_9 ≠ LR.oof := (QeC _ _ _ _ _ aM1).1
    refine Kl (γ := Nat × Int × Int) (fun (r43, Qev, Qhr) => ⟨[(0, .string (bs text)), (7, vi Qau), (8, vi Qev), (10, vi Qhr), (11, .int .u8 ((text.b.getD i_9.toNat 0).toNat : Int)), (6, vl a39 k40 (Qbq ++ [(QaN.mk 3 (Str.mk []) Qau Qba)])), (9, vb false)], [O a39 k40 ((Qbq ++ [(QaN.mk 3 (Str.mk []) Qau Qba)]) : List QaN)], QaB text ((text.b.getD i_9.toNat 0).toNat : Int) r43 Qev Qhr = QaB text ((text.b.getD i_9.toNat 0).toNat : Int) (text.b.length + 1) Qba i_9 /\ (-9223372036854775808 <= Qev /\ Qev <= 9223372036854775807) /\ (-9223372036854775808 <= Qhr /\ Qhr <= 9223372036854775807) /\ (i_9 <= Qhr /\ Qhr <= (text.b.length : Int) /\ Qba <= Qev /\ Qev <= Qba + (Qhr - i_9)) /\ (((text.b.getD i_9.toNat 0).toNat : Int) = 35 \/ Qhr = i_9), r43⟩) ((text.b.length + 1), Qba, i_9) [0] ⟨rfl, aM1, aM1, iv0, iv0⟩ ?_
    rintro ⟨r43, Qev, Qhr⟩ ⟨hM46, hk47, hk48, hv49, hv50⟩
    refine QbB fun _ _ hL hA => ?_; dsimp only at hL hA; subst hL hA
    refine Fb 40 0 fun _ => ?_
    rcases r43 with _ | r43
    ·exact absurd (hM46.symm.trans rfl) hterm51
    refine KS ?_
    refine Oq Vm (Oq Qby (Oq Vm ?_))
    refine Js 56 ?_ ?_
    ·intro h53
     have g54 := eq_of_beq h53
     refine Oq Vm (Oq Vm (Oq (VlS un9 (l := text)) (Oq Qcu (Oq Vpt (Oq Vm ?_)))))
     refine Js 62 ?_ ?_
     ·intro h55
      have g56 := dt h55
      refine Oq Vm (Oq Vm (Oq (Vix un9 (l := text)) ?_))
      have hb57 := u8b (text.b.getD Qhr.toNat 0)
      refine Oq QgA (Oq Vpt (KS ?_))
      refine Kc ?_ ?_
      ·intro h58
       have g59 := QbL h58
       refine KS ?_
       refine Oq Vm (Oq Qbd (Oq Vm (Oq Qbd (Oq Va (Oq Va (KS ?_))))))
       exact Kg (r43, (Qev + 1), (Qhr + 1)) [0] ⟨(q3 hM46 (by simp only [QaB, h1, h22, h25, h28, h31, h33, h53, h55, h58, cs4])), aM1, aM1, iv1, iv1⟩
      intro h58
      have g60 := QaA h58
      refine Ke ?_
      have hR61 := q2 hM46 (.brk (Qev, Qhr)) (by simp only [QaB, h1, h22, h25, h28, h31, h33, h53, h55, h58, cs4])
      refine KS ?_
      refine Oq Vm (Oq Qby (KS ?_))
      refine Kc ?_ ?_
      ·intro h62
       have g63 := eq_of_beq h62
       refine KS ?_
       refine Oq Vm (Oq Qbd (Oq Vm (Oq Qbd (Oq Va (Oq Va (KS ?_))))))
       refine Oq Vm (Oq Vm (Oq (VlS un9 (l := text)) (Oq Qcu (Oq Vm ?_))))
       refine Js 82 ?_ ?_
       ·intro h64
        have g65 := dt h64
        refine Oq Vm (Oq Vm (Oq (Vix un9 (l := text)) ?_))
        have hb66 := u8b (text.b.getD ((Qhr + 1) : Int).toNat 0)
        refine Oq Qby (Oq Vpt (Oq Vm ?_))
        refine Js 88 ?_ ?_
        ·intro h67
         have g68 := eq_of_beq h67
         refine Oq Vm (Oq QgA (Oq Vpt (KS ?_)))
         refine Kc ?_ ?_
         ·intro h69
          exact absurd h69 (by first | (simp [h62]; done) | (simp only [bne, h62]; decide) | (simp only [bne, h62, Bool.not_true, Bool.not_false]; decide) | (exfalso; omega) | (intro hq; simp only [bne, hq, Bool.not_false, Bool.not_true, reduceCtorEq] at h62))
         intro h69
         have g70 := QaA h69
         refine KS ?_
         exact Kg (r4, (Qbq ++ [(QaN.mk 3 (Str.mk []) Qau Qba)]), Qau, (Qev + 1), false, (Qhr + 1), a39, k40) [0] ⟨(q3 hM12 (by simp only [Qak, h1, h22, h25, h28, h31, h33, h53, h55, h58, h62, h64, h67, h69, hR61, cs4])), aM1, aM1, aM1, iv1, iv1, iv1, iv1⟩
        intro h67
        have g71 := ne_of_beq_false h67
        refine Osk (Osk (Oq Vpf (KS ?_)))
        refine Kf (KS ?_)
        exact Kg (r4, (Qbq ++ [(QaN.mk 3 (Str.mk []) Qau Qba)]), Qau, (Qev + 1), false, (Qhr + 1), a39, k40) [0] ⟨(q3 hM12 (by simp only [Qak, h1, h22, h25, h28, h31, h33, h53, h55, h58, h62, h64, h67, hR61, cs4])), aM1, aM1, aM1, iv1, iv1, iv1, iv1⟩
       intro h64
       have g72 := df h64
       refine Osk (Osk (Osk (Osk (Oq Vpf (Oq Vm (Osk (Osk (Oq Vpf (KS ?_)))))))))
       refine Kf (KS ?_)
       exact Kg (r4, (Qbq ++ [(QaN.mk 3 (Str.mk []) Qau Qba)]), Qau, (Qev + 1), false, (Qhr + 1), a39, k40) [0] ⟨(q3 hM12 (by simp only [Qak, h1, h22, h25, h28, h31, h33, h53, h55, h58, h62, h64, hR61, cs4])), aM1, aM1, aM1, iv1, iv1, iv1, iv1⟩
      intro h62
      have g73 := ne_of_beq_false h62
      refine KS ?_
      refine Oq Vm (Oq Vm (Oq (VlS un9 (l := text)) (Oq Qcu (Oq Vm ?_))))
      refine Js 82 ?_ ?_
      ·intro h74
       have g75 := dt h74
       refine Oq Vm (Oq Vm (Oq (Vix un9 (l := text)) ?_))
       have hb76 := u8b (text.b.getD Qhr.toNat 0)
       refine Oq Qby (Oq Vpt (Oq Vm ?_))
       refine Js 88 ?_ ?_
       ·intro h77
        have g78 := eq_of_beq h77
        refine Oq Vm (Oq QgA (Oq Vpt (KS ?_)))
        refine Kc ?_ ?_
        ·intro h79
         have g80 := QbL h79
         refine KS ?_
         refine Oq Vm (Oq Qbd (Oq Vm (Oq Qbd (Oq Va (Oq Va (Oq Va (KS ?_)))))))
         exact Kg (r4, (Qbq ++ [(QaN.mk 3 (Str.mk []) Qau Qba)]), (Qau + 1), 1, false, (Qhr + 1), a39, k40) [0] ⟨(q3 hM12 (by simp only [Qak, h1, h22, h25, h28, h31, h33, h53, h55, h58, h62, h74, h77, h79, hR61, cs4])), aM1, aM1, aM1, iv1, iv1, iv1, iv1⟩
        intro h79
        exact absurd h79 (by first | (simp [h62]; done) | (simp only [bne, h62]; decide) | (simp only [bne, h62, Bool.not_true, Bool.not_false]; decide) | (exfalso; omega) | (intro hq; simp only [bne, hq, Bool.not_false, Bool.not_true, reduceCtorEq] at h62))
       intro h77
       exact absurd h77 (by first | (simp [h58]; done) | (simp only [bne, h58]; decide) | (simp only [bne, h58, Bool.not_true, Bool.not_false]; decide) | (exfalso; omega) | (intro hq; simp only [bne, hq, Bool.not_false, Bool.not_true, reduceCtorEq] at h58))
      intro h74
      exact absurd h74 (by first | (simp [h55]; done) | (simp only [bne, h55]; decide) | (simp only [bne, h55, Bool.not_true, Bool.not_false]; decide) | (exfalso; omega) | (intro hq; simp only [bne, hq, Bool.not_false, Bool.not_true, reduceCtorEq] at h55))
     intro h55
     have g81 := df h55
     refine Osk (Osk (Osk (Osk (Oq Vpf (KS ?_)))))
     refine Kf ?_
     refine Ke ?_
     have hR82 := q2 hM46 (.brk (Qev, Qhr)) (by simp only [QaB, h1, h22, h25, h28, h31, h33, h53, h55, cs4])
     refine KS ?_
     refine Oq Vm (Oq Qby (KS ?_))
     refine Kc ?_ ?_
     ·intro h83
      have g84 := eq_of_beq h83
      refine KS ?_
      refine Oq Vm (Oq Qbd (Oq Vm (Oq Qbd (Oq Va (Oq Va (KS ?_))))))
      refine Oq Vm (Oq Vm (Oq (VlS un9 (l := text)) (Oq Qcu (Oq Vm ?_))))
      refine Js 82 ?_ ?_
      ·intro h85
       have g86 := dt h85
       refine Oq Vm (Oq Vm (Oq (Vix un9 (l := text)) ?_))
       have hb87 := u8b (text.b.getD ((Qhr + 1) : Int).toNat 0)
       refine Oq Qby (Oq Vpt (Oq Vm ?_))
       refine Js 88 ?_ ?_
       ·intro h88
        have g89 := eq_of_beq h88
        refine Oq Vm (Oq QgA (Oq Vpt (KS ?_)))
        refine Kc ?_ ?_
        ·intro h90
         exact absurd h90 (by first | (simp [h83]; done) | (simp only [bne, h83]; decide) | (simp only [bne, h83, Bool.not_true, Bool.not_false]; decide) | (exfalso; omega) | (intro hq; simp only [bne, hq, Bool.not_false, Bool.not_true, reduceCtorEq] at h83))
        intro h90
        have g91 := QaA h90
        refine KS ?_
        exact Kg (r4, (Qbq ++ [(QaN.mk 3 (Str.mk []) Qau Qba)]), Qau, (Qev + 1), false, (Qhr + 1), a39, k40) [0] ⟨(q3 hM12 (by simp only [Qak, h1, h22, h25, h28, h31, h33, h53, h55, h83, h85, h88, h90, hR82, cs4])), aM1, aM1, aM1, iv1, iv1, iv1, iv1⟩
       intro h88
       have g92 := ne_of_beq_false h88
       refine Osk (Osk (Oq Vpf (KS ?_)))
       refine Kf (KS ?_)
       exact Kg (r4, (Qbq ++ [(QaN.mk 3 (Str.mk []) Qau Qba)]), Qau, (Qev + 1), false, (Qhr + 1), a39, k40) [0] ⟨(q3 hM12 (by simp only [Qak, h1, h22, h25, h28, h31, h33, h53, h55, h83, h85, h88, hR82, cs4])), aM1, aM1, aM1, iv1, iv1, iv1, iv1⟩
      intro h85
      have g93 := df h85
      refine Osk (Osk (Osk (Osk (Oq Vpf (Oq Vm (Osk (Osk (Oq Vpf (KS ?_)))))))))
      refine Kf (KS ?_)
      exact Kg (r4, (Qbq ++ [(QaN.mk 3 (Str.mk []) Qau Qba)]), Qau, (Qev + 1), false, (Qhr + 1), a39, k40) [0] ⟨(q3 hM12 (by simp only [Qak, h1, h22, h25, h28, h31, h33, h53, h55, h83, h85, hR82, cs4])), aM1, aM1, aM1, iv1, iv1, iv1, iv1⟩
     intro h83
     have g94 := ne_of_beq_false h83
     refine KS ?_
     refine Oq Vm (Oq Vm (Oq (VlS un9 (l := text)) (Oq Qcu (Oq Vm ?_))))
     refine Js 82 ?_ ?_
     ·intro h95
      exact absurd h95 (by first | (simp [h55]; done) | (simp only [bne, h55]; decide) | (simp only [bne, h55, Bool.not_true, Bool.not_false]; decide) | (exfalso; omega) | (intro hq; simp only [bne, hq, Bool.not_false, Bool.not_true, reduceCtorEq] at h55))
     intro h95
     have g96 := df h95
     refine Osk (Osk (Osk (Osk (Oq Vpf (Oq Vm (Osk (Osk (Oq Vpf (KS ?_)))))))))
     refine Kf (KS ?_)
     exact Kg (r4, (Qbq ++ [(QaN.mk 3 (Str.mk []) Qau Qba)]), Qau, Qev, false, Qhr, a39, k40) [0] ⟨(q3 hM12 (by simp only [Qak, h1, h22, h25, h28, h31, h33, h53, h55, h83, h95, hR82, cs4])), aM1, aM1, aM1, iv1, iv1, iv1, iv1⟩
    intro h53
    have g97 := ne_of_beq_false h53
    refine Osk (Osk (Osk (Osk (Oq Vpf (Oq Vm (Osk (Osk (Osk (Osk ?_)))))))))
    refine Oq Vpf (KS ?_)
    refine Kf ?_
    refine Ke ?_
    have hR98 := q2 hM46 (.brk (Qev, Qhr)) (by simp only [QaB, h1, h22, h25, h28, h31, h33, h53, cs4])
    refine KS ?_
    refine Oq Vm (Oq Qby (KS ?_))
    refine Kc ?_ ?_
    ·intro h99
     have g100 := eq_of_beq h99
     refine KS ?_
     refine Oq Vm (Oq Qbd (Oq Vm (Oq Qbd (Oq Va (Oq Va (KS ?_))))))
     refine Oq Vm (Oq Vm (Oq (VlS un9 (l := text)) (Oq Qcu (Oq Vm ?_))))
     refine Js 82 ?_ ?_
     ·intro h101
      have g102 := dt h101
      refine Oq Vm (Oq Vm (Oq (Vix un9 (l := text)) ?_))
      have hb103 := u8b (text.b.getD ((Qhr + 1) : Int).toNat 0)
      refine Oq Qby (Oq Vpt (Oq Vm ?_))
      refine Js 88 ?_ ?_
      ·intro h104
       have g105 := eq_of_beq h104
       refine Oq Vm (Oq QgA (Oq Vpt (KS ?_)))
       refine Kc ?_ ?_
       ·intro h106
        exact absurd h106 (by first | (simp [h99]; done) | (simp only [bne, h99]; decide) | (simp only [bne, h99, Bool.not_true, Bool.not_false]; decide) | (exfalso; omega) | (intro hq; simp only [bne, hq, Bool.not_false, Bool.not_true, reduceCtorEq] at h99))
       intro h106
       have g107 := QaA h106
       refine KS ?_
       exact Kg (r4, (Qbq ++ [(QaN.mk 3 (Str.mk []) Qau Qba)]), Qau, (Qev + 1), false, (Qhr + 1), a39, k40) [0] ⟨(q3 hM12 (by simp only [Qak, h1, h22, h25, h28, h31, h33, h53, h99, h101, h104, h106, hR98, cs4])), aM1, aM1, aM1, iv1, iv1, iv1, iv1⟩
      intro h104
      have g108 := ne_of_beq_false h104
      refine Osk (Osk (Oq Vpf (KS ?_)))
      refine Kf (KS ?_)
      exact Kg (r4, (Qbq ++ [(QaN.mk 3 (Str.mk []) Qau Qba)]), Qau, (Qev + 1), false, (Qhr + 1), a39, k40) [0] ⟨(q3 hM12 (by simp only [Qak, h1, h22, h25, h28, h31, h33, h53, h99, h101, h104, hR98, cs4])), aM1, aM1, aM1, iv1, iv1, iv1, iv1⟩
     intro h101
     have g109 := df h101
     refine Osk (Osk (Osk (Osk (Oq Vpf (Oq Vm (Osk (Osk (Oq Vpf (KS ?_)))))))))
     refine Kf (KS ?_)
     exact Kg (r4, (Qbq ++ [(QaN.mk 3 (Str.mk []) Qau Qba)]), Qau, (Qev + 1), false, (Qhr + 1), a39, k40) [0] ⟨(q3 hM12 (by simp only [Qak, h1, h22, h25, h28, h31, h33, h53, h99, h101, hR98, cs4])), aM1, aM1, aM1, iv1, iv1, iv1, iv1⟩
    intro h99
    have g110 := ne_of_beq_false h99
    refine KS ?_
    refine Oq Vm (Oq Vm (Oq (VlS un9 (l := text)) (Oq Qcu (Oq Vm ?_))))
    refine Js 82 ?_ ?_
    ·intro h111
     have g112 := dt h111
     refine Oq Vm (Oq Vm (Oq (Vix un9 (l := text)) ?_))
     have hb113 := u8b (text.b.getD Qhr.toNat 0)
     refine Oq Qby (Oq Vpt (Oq Vm ?_))
     refine Js 88 ?_ ?_
     ·intro h114
      have g115 := eq_of_beq h114
      refine Oq Vm (Oq QgA (Oq Vpt (KS ?_)))
      refine Kc ?_ ?_
      ·intro h116
       have g117 := QbL h116
       refine KS ?_
       refine Oq Vm (Oq Qbd (Oq Vm (Oq Qbd (Oq Va (Oq Va (Oq Va (KS ?_)))))))
       exact Kg (r4, (Qbq ++ [(QaN.mk 3 (Str.mk []) Qau Qba)]), (Qau + 1), 1, false, (Qhr + 1), a39, k40) [0] ⟨(q3 hM12 (by simp only [Qak, h1, h22, h25, h28, h31, h33, h53, h99, h111, h114, h116, hR98, cs4])), aM1, aM1, aM1, iv1, iv1, iv1, iv1⟩
      intro h116
      exact absurd h116 (by first | (simp [h99]; done) | (simp only [bne, h99]; decide) | (simp only [bne, h99, Bool.not_true, Bool.not_false]; decide) | (exfalso; omega) | (intro hq; simp only [bne, hq, Bool.not_false, Bool.not_true, reduceCtorEq] at h99))
     intro h114
     have g118 := ne_of_beq_false h114
     refine Osk (Osk (Oq Vpf (KS ?_)))
     refine Kf (KS ?_)
     exact Kg (r4, (Qbq ++ [(QaN.mk 3 (Str.mk []) Qau Qba)]), Qau, Qev, false, Qhr, a39, k40) [0] ⟨(q3 hM12 (by simp only [Qak, h1, h22, h25, h28, h31, h33, h53, h99, h111, h114, hR98, cs4])), aM1, aM1, aM1, iv1, iv1, iv1, iv1⟩
    intro h111
    have g119 := df h111
    refine Osk (Osk (Osk (Osk (Oq Vpf (Oq Vm (Osk (Osk (Oq Vpf (KS ?_)))))))))
    refine Kf (KS ?_)
    exact Kg (r4, (Qbq ++ [(QaN.mk 3 (Str.mk []) Qau Qba)]), Qau, Qev, false, Qhr, a39, k40) [0] ⟨(q3 hM12 (by simp only [Qak, h1, h22, h25, h28, h31, h33, h53, h99, h111, hR98, cs4])), aM1, aM1, aM1, iv1, iv1, iv1, iv1⟩
   intro h33
   refine KS ?_
   refine Oq Va (KS ?_)
   have hterm129 : QaB text ((text.b.getD i_9.toNat 0).toNat : Int) (text.b.length + 1) Qba i_9 ≠ LR.oof := (QeC _ _ _ _ _ aM1).1
   refine Kl (γ := Nat × Int × Int) (fun (r121, Qdz, QeH) => ⟨[(0, .string (bs text)), (6, vl a10 k11 Qbq), (7, vi Qau), (8, vi Qdz), (10, vi QeH), (11, .int .u8 ((text.b.getD i_9.toNat 0).toNat : Int)), (9, vb false)], [O a10 k11 Qbq], QaB text ((text.b.getD i_9.toNat 0).toNat : Int) r121 Qdz QeH = QaB text ((text.b.getD i_9.toNat 0).toNat : Int) (text.b.length + 1) Qba i_9 /\ (-9223372036854775808 <= Qdz /\ Qdz <= 9223372036854775807) /\ (-9223372036854775808 <= QeH /\ QeH <= 9223372036854775807) /\ (i_9 <= QeH /\ QeH <= (text.b.length : Int) /\ Qba <= Qdz /\ Qdz <= Qba + (QeH - i_9)) /\ (((text.b.getD i_9.toNat 0).toNat : Int) = 35 \/ QeH = i_9), r121⟩) ((text.b.length + 1), Qba, i_9) [0] ⟨rfl, aM1, aM1, iv0, iv0⟩ ?_
   rintro ⟨r121, Qdz, QeH⟩ ⟨hM124, hk125, hk126, hv127, hv128⟩
   refine QbB fun _ _ hL hA => ?_; dsimp only at hL hA; subst hL hA
   refine Fb 40 0 fun _ => ?_
   rcases r121 with _ | r121
   ·exact absurd (hM124.symm.trans rfl) hterm129
   refine KS ?_
   refine Oq Vm (Oq Qby (Oq Vm ?_))
   refine Js 56 ?_ ?_
   ·intro h131
    have g132 := eq_of_beq h131
    refine Oq Vm (Oq Vm (Oq (VlS un9 (l := text)) (Oq Qcu (Oq Vpt (Oq Vm ?_)))))
    refine Js 62 ?_ ?_
    ·intro h133
     have g134 := dt h133
     refine Oq Vm (Oq Vm (Oq (Vix un9 (l := text)) ?_))
     have hb135 := u8b (text.b.getD QeH.toNat 0)
     refine Oq QgA (Oq Vpt (KS ?_))
     refine Kc ?_ ?_
     ·intro h136
      have g137 := QbL h136
      refine KS ?_
      refine Oq Vm (Oq Qbd (Oq Vm (Oq Qbd (Oq Va (Oq Va (KS ?_))))))
      exact Kg (r121, (Qdz + 1), (QeH + 1)) [0] ⟨(q3 hM124 (by simp only [QaB, h1, h22, h25, h28, h31, h33, h131, h133, h136, cs4])), aM1, aM1, iv1, iv1⟩
     intro h136
     have g138 := QaA h136
     refine Ke ?_
     have hR139 := q2 hM124 (.brk (Qdz, QeH)) (by simp only [QaB, h1, h22, h25, h28, h31, h33, h131, h133, h136, cs4])
     refine KS ?_
     refine Oq Vm (Oq Qby (KS ?_))
     refine Kc ?_ ?_
     ·intro h140
      have g141 := eq_of_beq h140
      refine KS ?_
      refine Oq Vm (Oq Qbd (Oq Vm (Oq Qbd (Oq Va (Oq Va (KS ?_))))))
      refine Oq Vm (Oq Vm (Oq (VlS un9 (l := text)) (Oq Qcu (Oq Vm ?_))))
      refine Js 82 ?_ ?_
      ·intro h142
       have g143 := dt h142
       refine Oq Vm (Oq Vm (Oq (Vix un9 (l := text)) ?_))
       have hb144 := u8b (text.b.getD ((QeH + 1) : Int).toNat 0)
       refine Oq Qby (Oq Vpt (Oq Vm ?_))
       refine Js 88 ?_ ?_
       ·intro h145
        have g146 := eq_of_beq h145
        refine Oq Vm (Oq QgA (Oq Vpt (KS ?_)))
        refine Kc ?_ ?_
        ·intro h147
         exact absurd h147 (by first | (simp [h140]; done) | (simp only [bne, h140]; decide) | (simp only [bne, h140, Bool.not_true, Bool.not_false]; decide) | (exfalso; omega) | (intro hq; simp only [bne, hq, Bool.not_false, Bool.not_true, reduceCtorEq] at h140))
        intro h147
        have g148 := QaA h147
        refine KS ?_
        exact Kg (r4, Qbq, Qau, (Qdz + 1), false, (QeH + 1), a10, k11) [0] ⟨(q3 hM12 (by simp only [Qak, h1, h22, h25, h28, h31, h33, h131, h133, h136, h140, h142, h145, h147, hR139, cs4])), aM1, aM1, aM1, iv1, iv1, iv1, iv1⟩
       intro h145
       have g149 := ne_of_beq_false h145
       refine Osk (Osk (Oq Vpf (KS ?_)))
       refine Kf (KS ?_)
       exact Kg (r4, Qbq, Qau, (Qdz + 1), false, (QeH + 1), a10, k11) [0] ⟨(q3 hM12 (by simp only [Qak, h1, h22, h25, h28, h31, h33, h131, h133, h136, h140, h142, h145, hR139, cs4])), aM1, aM1, aM1, iv1, iv1, iv1, iv1⟩
      intro h142
      have g150 := df h142
      refine Osk (Osk (Osk (Osk (Oq Vpf (Oq Vm (Osk (Osk (Oq Vpf (KS ?_)))))))))
      refine Kf (KS ?_)
      exact Kg (r4, Qbq, Qau, (Qdz + 1), false, (QeH + 1), a10, k11) [0] ⟨(q3 hM12 (by simp only [Qak, h1, h22, h25, h28, h31, h33, h131, h133, h136, h140, h142, hR139, cs4])), aM1, aM1, aM1, iv1, iv1, iv1, iv1⟩
     intro h140
     have g151 := ne_of_beq_false h140
     refine KS ?_
     refine Oq Vm (Oq Vm (Oq (VlS un9 (l := text)) (Oq Qcu (Oq Vm ?_))))
     refine Js 82 ?_ ?_
     ·intro h152
      have g153 := dt h152
      refine Oq Vm (Oq Vm (Oq (Vix un9 (l := text)) ?_))
      have hb154 := u8b (text.b.getD QeH.toNat 0)
      refine Oq Qby (Oq Vpt (Oq Vm ?_))
      refine Js 88 ?_ ?_
      ·intro h155
       have g156 := eq_of_beq h155
       refine Oq Vm (Oq QgA (Oq Vpt (KS ?_)))
       refine Kc ?_ ?_
       ·intro h157
        have g158 := QbL h157
        refine KS ?_
        refine Oq Vm (Oq Qbd (Oq Vm (Oq Qbd (Oq Va (Oq Va (Oq Va (KS ?_)))))))
        exact Kg (r4, Qbq, (Qau + 1), 1, false, (QeH + 1), a10, k11) [0] ⟨(q3 hM12 (by simp only [Qak, h1, h22, h25, h28, h31, h33, h131, h133, h136, h140, h152, h155, h157, hR139, cs4])), aM1, aM1, aM1, iv1, iv1, iv1, iv1⟩
       intro h157
       exact absurd h157 (by first | (simp [h140]; done) | (simp only [bne, h140]; decide) | (simp only [bne, h140, Bool.not_true, Bool.not_false]; decide) | (exfalso; omega) | (intro hq; simp only [bne, hq, Bool.not_false, Bool.not_true, reduceCtorEq] at h140))
      intro h155
      exact absurd h155 (by first | (simp [h136]; done) | (simp only [bne, h136]; decide) | (simp only [bne, h136, Bool.not_true, Bool.not_false]; decide) | (exfalso; omega) | (intro hq; simp only [bne, hq, Bool.not_false, Bool.not_true, reduceCtorEq] at h136))
     intro h152
     exact absurd h152 (by first | (simp [h133]; done) | (simp only [bne, h133]; decide) | (simp only [bne, h133, Bool.not_true, Bool.not_false]; decide) | (exfalso; omega) | (intro hq; simp only [bne, hq, Bool.not_false, Bool.not_true, reduceCtorEq] at h133))
    intro h133
    have g159 := df h133
    refine Osk (Osk (Osk (Osk (Oq Vpf (KS ?_)))))
    refine Kf ?_
    refine Ke ?_
    have hR160 := q2 hM124 (.brk (Qdz, QeH)) (by simp only [QaB, h1, h22, h25, h28, h31, h33, h131, h133, cs4])
    refine KS ?_
    refine Oq Vm (Oq Qby (KS ?_))
    refine Kc ?_ ?_
    ·intro h161
     have g162 := eq_of_beq h161
     refine KS ?_
     refine Oq Vm (Oq Qbd (Oq Vm (Oq Qbd (Oq Va (Oq Va (KS ?_))))))
     refine Oq Vm (Oq Vm (Oq (VlS un9 (l := text)) (Oq Qcu (Oq Vm ?_))))
     refine Js 82 ?_ ?_
     ·intro h163
      have g164 := dt h163
      refine Oq Vm (Oq Vm (Oq (Vix un9 (l := text)) ?_))
      have hb165 := u8b (text.b.getD ((QeH + 1) : Int).toNat 0)
      refine Oq Qby (Oq Vpt (Oq Vm ?_))
      refine Js 88 ?_ ?_
      ·intro h166
       have g167 := eq_of_beq h166
       refine Oq Vm (Oq QgA (Oq Vpt (KS ?_)))
       refine Kc ?_ ?_
       ·intro h168
        exact absurd h168 (by first | (simp [h161]; done) | (simp only [bne, h161]; decide) | (simp only [bne, h161, Bool.not_true, Bool.not_false]; decide) | (exfalso; omega) | (intro hq; simp only [bne, hq, Bool.not_false, Bool.not_true, reduceCtorEq] at h161))
       intro h168
       have g169 := QaA h168
       refine KS ?_
       exact Kg (r4, Qbq, Qau, (Qdz + 1), false, (QeH + 1), a10, k11) [0] ⟨(q3 hM12 (by simp only [Qak, h1, h22, h25, h28, h31, h33, h131, h133, h161, h163, h166, h168, hR160, cs4])), aM1, aM1, aM1, iv1, iv1, iv1, iv1⟩
      intro h166
      have g170 := ne_of_beq_false h166
      refine Osk (Osk (Oq Vpf (KS ?_)))
      refine Kf (KS ?_)
      exact Kg (r4, Qbq, Qau, (Qdz + 1), false, (QeH + 1), a10, k11) [0] ⟨(q3 hM12 (by simp only [Qak, h1, h22, h25, h28, h31, h33, h131, h133, h161, h163, h166, hR160, cs4])), aM1, aM1, aM1, iv1, iv1, iv1, iv1⟩
     intro h163
     have g171 := df h163
     refine Osk (Osk (Osk (Osk (Oq Vpf (Oq Vm (Osk (Osk (Oq Vpf (KS ?_)))))))))
     refine Kf (KS ?_)
     exact Kg (r4, Qbq, Qau, (Qdz + 1), false, (QeH + 1), a10, k11) [0] ⟨(q3 hM12 (by simp only [Qak, h1, h22, h25, h28, h31, h33, h131, h133, h161, h163, hR160, cs4])), aM1, aM1, aM1, iv1, iv1, iv1, iv1⟩
    intro h161
    have g172 := ne_of_beq_false h161
    refine KS ?_
    refine Oq Vm (Oq Vm (Oq (VlS un9 (l := text)) (Oq Qcu (Oq Vm ?_))))
    refine Js 82 ?_ ?_
    ·intro h173
     exact absurd h173 (by first | (simp [h133]; done) | (simp only [bne, h133]; decide) | (simp only [bne, h133, Bool.not_true, Bool.not_false]; decide) | (exfalso; omega) | (intro hq; simp only [bne, hq, Bool.not_false, Bool.not_true, reduceCtorEq] at h133))
    intro h173
    have g174 := df h173
    refine Osk (Osk (Osk (Osk (Oq Vpf (Oq Vm (Osk (Osk (Oq Vpf (KS ?_)))))))))
    refine Kf (KS ?_)
    exact Kg (r4, Qbq, Qau, Qdz, false, QeH, a10, k11) [0] ⟨(q3 hM12 (by simp only [Qak, h1, h22, h25, h28, h31, h33, h131, h133, h161, h173, hR160, cs4])), aM1, aM1, aM1, iv1, iv1, iv1, iv1⟩
   intro h131
   have g175 := ne_of_beq_false h131
   refine Osk (Osk (Osk (Osk (Oq Vpf (Oq Vm (Osk (Osk (Osk (Osk ?_)))))))))
   refine Oq Vpf (KS ?_)
   refine Kf ?_
   refine Ke ?_
   have hR176 := q2 hM124 (.brk (Qdz, QeH)) (by simp only [QaB, h1, h22, h25, h28, h31, h33, h131, cs4])
   refine KS ?_
   refine Oq Vm (Oq Qby (KS ?_))
   refine Kc ?_ ?_
   ·intro h177
    have g178 := eq_of_beq h177
    refine KS ?_
    refine Oq Vm (Oq Qbd (Oq Vm (Oq Qbd (Oq Va (Oq Va (KS ?_))))))
    refine Oq Vm (Oq Vm (Oq (VlS un9 (l := text)) (Oq Qcu (Oq Vm ?_))))
    refine Js 82 ?_ ?_
    ·intro h179
     have g180 := dt h179
     refine Oq Vm (Oq Vm (Oq (Vix un9 (l := text)) ?_))
     have hb181 := u8b (text.b.getD ((QeH + 1) : Int).toNat 0)
     refine Oq Qby (Oq Vpt (Oq Vm ?_))
     refine Js 88 ?_ ?_
     ·intro h182
      have g183 := eq_of_beq h182
      refine Oq Vm (Oq QgA (Oq Vpt (KS ?_)))
      refine Kc ?_ ?_
      ·intro h184
       exact absurd h184 (by first | (simp [h177]; done) | (simp only [bne, h177]; decide) | (simp only [bne, h177, Bool.not_true, Bool.not_false]; decide) | (exfalso; omega) | (intro hq; simp only [bne, hq, Bool.not_false, Bool.not_true, reduceCtorEq] at h177))
      intro h184
      have g185 := QaA h184
      refine KS ?_
      exact Kg (r4, Qbq, Qau, (Qdz + 1), false, (QeH + 1), a10, k11) [0] ⟨(q3 hM12 (by simp only [Qak, h1, h22, h25, h28, h31, h33, h131, h177, h179, h182, h184, hR176, cs4])), aM1, aM1, aM1, iv1, iv1, iv1, iv1⟩
     intro h182
     have g186 := ne_of_beq_false h182
     refine Osk (Osk (Oq Vpf (KS ?_)))
     refine Kf (KS ?_)
     exact Kg (r4, Qbq, Qau, (Qdz + 1), false, (QeH + 1), a10, k11) [0] ⟨(q3 hM12 (by simp only [Qak, h1, h22, h25, h28, h31, h33, h131, h177, h179, h182, hR176, cs4])), aM1, aM1, aM1, iv1, iv1, iv1, iv1⟩
    intro h179
    have g187 := df h179
    refine Osk (Osk (Osk (Osk (Oq Vpf (Oq Vm (Osk (Osk (Oq Vpf (KS ?_)))))))))
    refine Kf (KS ?_)
    exact Kg (r4, Qbq, Qau, (Qdz + 1), false, (QeH + 1), a10, k11) [0] ⟨(q3 hM12 (by simp only [Qak, h1, h22, h25, h28, h31, h33, h131, h177, h179, hR176, cs4])), aM1, aM1, aM1, iv1, iv1, iv1, iv1⟩
   intro h177
   have g188 := ne_of_beq_false h177
   refine KS ?_
   refine Oq Vm (Oq Vm (Oq (VlS un9 (l := text)) (Oq Qcu (Oq Vm ?_))))
   refine Js 82 ?_ ?_
   ·intro h189
    have g190 := dt h189
    refine Oq Vm (Oq Vm (Oq (Vix un9 (l := text)) ?_))
    have hb191 := u8b (text.b.getD QeH.toNat 0)
    refine Oq Qby (Oq Vpt (Oq Vm ?_))
    refine Js 88 ?_ ?_
    ·intro h192
     have g193 := eq_of_beq h192
     refine Oq Vm (Oq QgA (Oq Vpt (KS ?_)))
     refine Kc ?_ ?_
     ·intro h194
      have g195 := QbL h194
      refine KS ?_
      refine Oq Vm (Oq Qbd (Oq Vm (Oq Qbd (Oq Va (Oq Va (Oq Va (KS ?_)))))))
      exact Kg (r4, Qbq, (Qau + 1), 1, false, (QeH + 1), a10, k11) [0] ⟨(q3 hM12 (by simp only [Qak, h1, h22, h25, h28, h31, h33, h131, h177, h189, h192, h194, hR176, cs4])), aM1, aM1, aM1, iv1, iv1, iv1, iv1⟩
     intro h194
     exact absurd h194 (by first | (simp [h177]; done) | (simp only [bne, h177]; decide) | (simp only [bne, h177, Bool.not_true, Bool.not_false]; decide) | (exfalso; omega) | (intro hq; simp only [bne, hq, Bool.not_false, Bool.not_true, reduceCtorEq] at h177))
    intro h192
    have g196 := ne_of_beq_false h192
    refine Osk (Osk (Oq Vpf (KS ?_)))
    refine Kf (KS ?_)
    exact Kg (r4, Qbq, Qau, Qdz, false, QeH, a10, k11) [0] ⟨(q3 hM12 (by simp only [Qak, h1, h22, h25, h28, h31, h33, h131, h177, h189, h192, hR176, cs4])), aM1, aM1, aM1, iv1, iv1, iv1, iv1⟩
   intro h189
   have g197 := df h189
   refine Osk (Osk (Osk (Osk (Oq Vpf (Oq Vm (Osk (Osk (Oq Vpf (KS ?_)))))))))
   refine Kf (KS ?_)
   exact Kg (r4, Qbq, Qau, Qdz, false, QeH, a10, k11) [0] ⟨(q3 hM12 (by simp only [Qak, h1, h22, h25, h28, h31, h33, h131, h177, h189, hR176, cs4])), aM1, aM1, aM1, iv1, iv1, iv1, iv1⟩
  intro h31
  have g198 := ne_of_beq_false h31
  refine Oq Vm (Oq Qby (Oq Vpf (Oq Vm ?_)))
  refine Js 43 ?_ ?_
  ·intro h199
   have g200 := eq_of_beq h199
   refine Osk (Osk (Oq Vpt (Oq Va (KS ?_))))
   refine Kt (KS ?_)
   refine Oq Vm (KS ?_)
   refine Kc ?_ ?_
   ·intro h201
    refine KS ?_
    refine Oq Vm (Oq Vm (Oq Vm (Oq (Vbd QpW [vi 3, .string (bs (Str.mk [])), vi Qau, vi Qba]) (Oa (AsV QeR QlV [.agg #[vi 3, .string (bs (Str.mk [])), vi Qau, vi Qba]] [vi 3, .string (bs (Str.mk [])), vi Qau, vi Qba]) fun c203 => ?_))))
    refine Jo 0 ?_; rintro a204 k205 rfl
    refine Jl [0] (Ent.cr1 (α := QaN) (A := []) _ (QaN.mk 3 (Str.mk []) Qau Qba) _ aB1 (fun h => ⟨rfl, aL1, aS1, aL1, aL1⟩)) ?_
    refine Oa (ApO [1, 0] QeR QeR QlV) fun c206 => ?_
    refine Jo 0 ?_; rintro a207 k208 rfl
    refine Fb 40 0 fun _ => ?_
    have hn210 := la Qbq ([(QaN.mk 3 (Str.mk []) Qau Qba)] : List QaN)
    refine Oq Va (KS ?_)
    refine Oq Va (KS ?_)
    have hterm219 : QaB text ((text.b.getD i_9.toNat 0).toNat : Int) (text.b.length + 1) Qba i_9 ≠ LR.oof := (QeC _ _ _ _ _ aM1).1
    refine Kl (γ := Nat × Int × Int) (fun (r211, Qd7, Qfn) => ⟨[(0, .string (bs text)), (7, vi Qau), (8, vi Qd7), (10, vi Qfn), (11, .int .u8 ((text.b.getD i_9.toNat 0).toNat : Int)), (6, vl a207 k208 (Qbq ++ [(QaN.mk 3 (Str.mk []) Qau Qba)])), (9, vb false)], [O a207 k208 ((Qbq ++ [(QaN.mk 3 (Str.mk []) Qau Qba)]) : List QaN)], QaB text ((text.b.getD i_9.toNat 0).toNat : Int) r211 Qd7 Qfn = QaB text ((text.b.getD i_9.toNat 0).toNat : Int) (text.b.length + 1) Qba i_9 /\ (-9223372036854775808 <= Qd7 /\ Qd7 <= 9223372036854775807) /\ (-9223372036854775808 <= Qfn /\ Qfn <= 9223372036854775807) /\ (i_9 <= Qfn /\ Qfn <= (text.b.length : Int) /\ Qba <= Qd7 /\ Qd7 <= Qba + (Qfn - i_9)) /\ (((text.b.getD i_9.toNat 0).toNat : Int) = 35 \/ Qfn = i_9), r211⟩) ((text.b.length + 1), Qba, i_9) [0] ⟨rfl, aM1, aM1, iv0, iv0⟩ ?_
    rintro ⟨r211, Qd7, Qfn⟩ ⟨hM214, hk215, hk216, hv217, hv218⟩
    refine QbB fun _ _ hL hA => ?_; dsimp only at hL hA; subst hL hA
    refine Fb 40 0 fun _ => ?_
    rcases r211 with _ | r211
    ·exact absurd (hM214.symm.trans rfl) hterm219
    refine KS ?_
    refine Oq Vm (Oq Qby (Oq Vm ?_))
    refine Js 56 ?_ ?_
    ·intro h221
     have g222 := eq_of_beq h221
     refine Oq Vm (Oq Vm (Oq (VlS un9 (l := text)) (Oq Qcu (Oq Vpt (Oq Vm ?_)))))
     refine Js 62 ?_ ?_
     ·intro h223
      have g224 := dt h223
      refine Oq Vm (Oq Vm (Oq (Vix un9 (l := text)) ?_))
      have hb225 := u8b (text.b.getD Qfn.toNat 0)
      refine Oq QgA (Oq Vpt (KS ?_))
      refine Kc ?_ ?_
      ·intro h226
       have g227 := QbL h226
       refine KS ?_
       refine Oq Vm (Oq Qbd (Oq Vm (Oq Qbd (Oq Va (Oq Va (KS ?_))))))
       exact Kg (r211, (Qd7 + 1), (Qfn + 1)) [0] ⟨(q3 hM214 (by simp only [QaB, h1, h22, h25, h28, h31, h199, h201, h221, h223, h226, cs4])), aM1, aM1, iv1, iv1⟩
      intro h226
      have g228 := QaA h226
      refine Ke ?_
      have hR229 := q2 hM214 (.brk (Qd7, Qfn)) (by simp only [QaB, h1, h22, h25, h28, h31, h199, h201, h221, h223, h226, cs4])
      refine KS ?_
      refine Oq Vm (Oq Qby (KS ?_))
      refine Kc ?_ ?_
      ·intro h230
       have g231 := eq_of_beq h230
       refine KS ?_
       refine Oq Vm (Oq Qbd (Oq Vm (Oq Qbd (Oq Va (Oq Va (KS ?_))))))
       refine Oq Vm (Oq Vm (Oq (VlS un9 (l := text)) (Oq Qcu (Oq Vm ?_))))
       refine Js 82 ?_ ?_
       ·intro h232
        have g233 := dt h232
        refine Oq Vm (Oq Vm (Oq (Vix un9 (l := text)) ?_))
        have hb234 := u8b (text.b.getD ((Qfn + 1) : Int).toNat 0)
        refine Oq Qby (Oq Vpt (Oq Vm ?_))
        refine Js 88 ?_ ?_
        ·intro h235
         have g236 := eq_of_beq h235
         refine Oq Vm (Oq QgA (Oq Vpt (KS ?_)))
         refine Kc ?_ ?_
         ·intro h237
          exact absurd h237 (by first | (simp [h230]; done) | (simp only [bne, h230]; decide) | (simp only [bne, h230, Bool.not_true, Bool.not_false]; decide) | (exfalso; omega) | (intro hq; simp only [bne, hq, Bool.not_false, Bool.not_true, reduceCtorEq] at h230))
         intro h237
         have g238 := QaA h237
         refine KS ?_
         exact Kg (r4, (Qbq ++ [(QaN.mk 3 (Str.mk []) Qau Qba)]), Qau, (Qd7 + 1), false, (Qfn + 1), a207, k208) [0] ⟨(q3 hM12 (by simp only [Qak, h1, h22, h25, h28, h31, h199, h201, h221, h223, h226, h230, h232, h235, h237, hR229, cs4])), aM1, aM1, aM1, iv1, iv1, iv1, iv1⟩
        intro h235
        have g239 := ne_of_beq_false h235
        refine Osk (Osk (Oq Vpf (KS ?_)))
        refine Kf (KS ?_)
        exact Kg (r4, (Qbq ++ [(QaN.mk 3 (Str.mk []) Qau Qba)]), Qau, (Qd7 + 1), false, (Qfn + 1), a207, k208) [0] ⟨(q3 hM12 (by simp only [Qak, h1, h22, h25, h28, h31, h199, h201, h221, h223, h226, h230, h232, h235, hR229, cs4])), aM1, aM1, aM1, iv1, iv1, iv1, iv1⟩
       intro h232
       have g240 := df h232
       refine Osk (Osk (Osk (Osk (Oq Vpf (Oq Vm (Osk (Osk (Oq Vpf (KS ?_)))))))))
       refine Kf (KS ?_)
       exact Kg (r4, (Qbq ++ [(QaN.mk 3 (Str.mk []) Qau Qba)]), Qau, (Qd7 + 1), false, (Qfn + 1), a207, k208) [0] ⟨(q3 hM12 (by simp only [Qak, h1, h22, h25, h28, h31, h199, h201, h221, h223, h226, h230, h232, hR229, cs4])), aM1, aM1, aM1, iv1, iv1, iv1, iv1⟩
      intro h230
      exact absurd h230 (by first | (simp [h199]; done) | (simp only [bne, h199]; decide) | (simp only [bne, h199, Bool.not_true, Bool.not_false]; decide) | (exfalso; omega) | (intro hq; simp only [bne, hq, Bool.not_false, Bool.not_true, reduceCtorEq] at h199))
     intro h223
     have g241 := df h223
     refine Osk (Osk (Osk (Osk (Oq Vpf (KS ?_)))))
     refine Kf ?_
     refine Ke ?_
     have hR242 := q2 hM214 (.brk (Qd7, Qfn)) (by simp only [QaB, h1, h22, h25, h28, h31, h199, h201, h221, h223, cs4])
     refine KS ?_
     refine Oq Vm (Oq Qby (KS ?_))
     refine Kc ?_ ?_
     ·intro h243
      have g244 := eq_of_beq h243
      refine KS ?_
      refine Oq Vm (Oq Qbd (Oq Vm (Oq Qbd (Oq Va (Oq Va (KS ?_))))))
      refine Oq Vm (Oq Vm (Oq (VlS un9 (l := text)) (Oq Qcu (Oq Vm ?_))))
      refine Js 82 ?_ ?_
      ·intro h245
       have g246 := dt h245
       refine Oq Vm (Oq Vm (Oq (Vix un9 (l := text)) ?_))
       have hb247 := u8b (text.b.getD ((Qfn + 1) : Int).toNat 0)
       refine Oq Qby (Oq Vpt (Oq Vm ?_))
       refine Js 88 ?_ ?_
       ·intro h248
        have g249 := eq_of_beq h248
        refine Oq Vm (Oq QgA (Oq Vpt (KS ?_)))
        refine Kc ?_ ?_
        ·intro h250
         exact absurd h250 (by first | (simp [h243]; done) | (simp only [bne, h243]; decide) | (simp only [bne, h243, Bool.not_true, Bool.not_false]; decide) | (exfalso; omega) | (intro hq; simp only [bne, hq, Bool.not_false, Bool.not_true, reduceCtorEq] at h243))
        intro h250
        have g251 := QaA h250
        refine KS ?_
        exact Kg (r4, (Qbq ++ [(QaN.mk 3 (Str.mk []) Qau Qba)]), Qau, (Qd7 + 1), false, (Qfn + 1), a207, k208) [0] ⟨(q3 hM12 (by simp only [Qak, h1, h22, h25, h28, h31, h199, h201, h221, h223, h243, h245, h248, h250, hR242, cs4])), aM1, aM1, aM1, iv1, iv1, iv1, iv1⟩
       intro h248
       have g252 := ne_of_beq_false h248
       refine Osk (Osk (Oq Vpf (KS ?_)))
       refine Kf (KS ?_)
       exact Kg (r4, (Qbq ++ [(QaN.mk 3 (Str.mk []) Qau Qba)]), Qau, (Qd7 + 1), false, (Qfn + 1), a207, k208) [0] ⟨(q3 hM12 (by simp only [Qak, h1, h22, h25, h28, h31, h199, h201, h221, h223, h243, h245, h248, hR242, cs4])), aM1, aM1, aM1, iv1, iv1, iv1, iv1⟩
      intro h245
      have g253 := df h245
      refine Osk (Osk (Osk (Osk (Oq Vpf (Oq Vm (Osk (Osk (Oq Vpf (KS ?_)))))))))
      refine Kf (KS ?_)
      exact Kg (r4, (Qbq ++ [(QaN.mk 3 (Str.mk []) Qau Qba)]), Qau, (Qd7 + 1), false, (Qfn + 1), a207, k208) [0] ⟨(q3 hM12 (by simp only [Qak, h1, h22, h25, h28, h31, h199, h201, h221, h223, h243, h245, hR242, cs4])), aM1, aM1, aM1, iv1, iv1, iv1, iv1⟩
     intro h243
     exact absurd h243 (by first | (simp [h199]; done) | (simp only [bne, h199]; decide) | (simp only [bne, h199, Bool.not_true, Bool.not_false]; decide) | (exfalso; omega) | (intro hq; simp only [bne, hq, Bool.not_false, Bool.not_true, reduceCtorEq] at h199))
    intro h221
    have g254 := ne_of_beq_false h221
    refine Osk (Osk (Osk (Osk (Oq Vpf (Oq Vm (Osk (Osk (Osk (Osk ?_)))))))))
    refine Oq Vpf (KS ?_)
    refine Kf ?_
    refine Ke ?_
    have hR255 := q2 hM214 (.brk (Qd7, Qfn)) (by simp only [QaB, h1, h22, h25, h28, h31, h199, h201, h221, cs4])
    refine KS ?_
    refine Oq Vm (Oq Qby (KS ?_))
    refine Kc ?_ ?_
    ·intro h256
     have g257 := eq_of_beq h256
     refine KS ?_
     refine Oq Vm (Oq Qbd (Oq Vm (Oq Qbd (Oq Va (Oq Va (KS ?_))))))
     refine Oq Vm (Oq Vm (Oq (VlS un9 (l := text)) (Oq Qcu (Oq Vm ?_))))
     refine Js 82 ?_ ?_
     ·intro h258
      have g259 := dt h258
      refine Oq Vm (Oq Vm (Oq (Vix un9 (l := text)) ?_))
      have hb260 := u8b (text.b.getD ((Qfn + 1) : Int).toNat 0)
      refine Oq Qby (Oq Vpt (Oq Vm ?_))
      refine Js 88 ?_ ?_
      ·intro h261
       have g262 := eq_of_beq h261
       refine Oq Vm (Oq QgA (Oq Vpt (KS ?_)))
       refine Kc ?_ ?_
       ·intro h263
        exact absurd h263 (by first | (simp [h256]; done) | (simp only [bne, h256]; decide) | (simp only [bne, h256, Bool.not_true, Bool.not_false]; decide) | (exfalso; omega) | (intro hq; simp only [bne, hq, Bool.not_false, Bool.not_true, reduceCtorEq] at h256))
       intro h263
       have g264 := QaA h263
       refine KS ?_
       exact Kg (r4, (Qbq ++ [(QaN.mk 3 (Str.mk []) Qau Qba)]), Qau, (Qd7 + 1), false, (Qfn + 1), a207, k208) [0] ⟨(q3 hM12 (by simp only [Qak, h1, h22, h25, h28, h31, h199, h201, h221, h256, h258, h261, h263, hR255, cs4])), aM1, aM1, aM1, iv1, iv1, iv1, iv1⟩
      intro h261
      have g265 := ne_of_beq_false h261
      refine Osk (Osk (Oq Vpf (KS ?_)))
      refine Kf (KS ?_)
      exact Kg (r4, (Qbq ++ [(QaN.mk 3 (Str.mk []) Qau Qba)]), Qau, (Qd7 + 1), false, (Qfn + 1), a207, k208) [0] ⟨(q3 hM12 (by simp only [Qak, h1, h22, h25, h28, h31, h199, h201, h221, h256, h258, h261, hR255, cs4])), aM1, aM1, aM1, iv1, iv1, iv1, iv1⟩
     intro h258
     have g266 := df h258
     refine Osk (Osk (Osk (Osk (Oq Vpf (Oq Vm (Osk (Osk (Oq Vpf (KS ?_)))))))))
     refine Kf (KS ?_)
     exact Kg (r4, (Qbq ++ [(QaN.mk 3 (Str.mk []) Qau Qba)]), Qau, (Qd7 + 1), false, (Qfn + 1), a207, k208) [0] ⟨(q3 hM12 (by simp only [Qak, h1, h22, h25, h28, h31, h199, h201, h221, h256, h258, hR255, cs4])), aM1, aM1, aM1, iv1, iv1, iv1, iv1⟩
    intro h256
    exact absurd h256 (by first | (simp [h199]; done) | (simp only [bne, h199]; decide) | (simp only [bne, h199, Bool.not_true, Bool.not_false]; decide) | (exfalso; omega) | (intro hq; simp only [bne, hq, Bool.not_false, Bool.not_true, reduceCtorEq] at h199))
   intro h201
   refine KS ?_
   refine Oq Va (KS ?_)
   have hterm276 : QaB text ((text.b.getD i_9.toNat 0).toNat : Int) (text.b.length + 1) Qba i_9 ≠ LR.oof := (QeC _ _ _ _ _ aM1).1
   refine Kl (γ := Nat × Int × Int) (fun (r268, Qd8, Qfo) => ⟨[(0, .string (bs text)), (6, vl a10 k11 Qbq), (7, vi Qau), (8, vi Qd8), (10, vi Qfo), (11, .int .u8 ((text.b.getD i_9.toNat 0).toNat : Int)), (9, vb false)], [O a10 k11 Qbq], QaB text ((text.b.getD i_9.toNat 0).toNat : Int) r268 Qd8 Qfo = QaB text ((text.b.getD i_9.toNat 0).toNat : Int) (text.b.length + 1) Qba i_9 /\ (-9223372036854775808 <= Qd8 /\ Qd8 <= 9223372036854775807) /\ (-9223372036854775808 <= Qfo /\ Qfo <= 9223372036854775807) /\ (i_9 <= Qfo /\ Qfo <= (text.b.length : Int) /\ Qba <= Qd8 /\ Qd8 <= Qba + (Qfo - i_9)) /\ (((text.b.getD i_9.toNat 0).toNat : Int) = 35 \/ Qfo = i_9), r268⟩) ((text.b.length + 1), Qba, i_9) [0] ⟨rfl, aM1, aM1, iv0, iv0⟩ ?_
   rintro ⟨r268, Qd8, Qfo⟩ ⟨hM271, hk272, hk273, hv274, hv275⟩
   refine QbB fun _ _ hL hA => ?_; dsimp only at hL hA; subst hL hA
   refine Fb 40 0 fun _ => ?_
   rcases r268 with _ | r268
   ·exact absurd (hM271.symm.trans rfl) hterm276
   refine KS ?_
   refine Oq Vm (Oq Qby (Oq Vm ?_))
   refine Js 56 ?_ ?_
   ·intro h278
    have g279 := eq_of_beq h278
    refine Oq Vm (Oq Vm (Oq (VlS un9 (l := text)) (Oq Qcu (Oq Vpt (Oq Vm ?_)))))
    refine Js 62 ?_ ?_
    ·intro h280
     have g281 := dt h280
     refine Oq Vm (Oq Vm (Oq (Vix un9 (l := text)) ?_))
     have hb282 := u8b (text.b.getD Qfo.toNat 0)
     refine Oq QgA (Oq Vpt (KS ?_))
     refine Kc ?_ ?_
     ·intro h283
      have g284 := QbL h283
      refine KS ?_
      refine Oq Vm (Oq Qbd (Oq Vm (Oq Qbd (Oq Va (Oq Va (KS ?_))))))
      exact Kg (r268, (Qd8 + 1), (Qfo + 1)) [0] ⟨(q3 hM271 (by simp only [QaB, h1, h22, h25, h28, h31, h199, h201, h278, h280, h283, cs4])), aM1, aM1, iv1, iv1⟩
     intro h283
     have g285 := QaA h283
     refine Ke ?_
     have hR286 := q2 hM271 (.brk (Qd8, Qfo)) (by simp only [QaB, h1, h22, h25, h28, h31, h199, h201, h278, h280, h283, cs4])
     refine KS ?_
     refine Oq Vm (Oq Qby (KS ?_))
     refine Kc ?_ ?_
     ·intro h287
      have g288 := eq_of_beq h287
      refine KS ?_
      refine Oq Vm (Oq Qbd (Oq Vm (Oq Qbd (Oq Va (Oq Va (KS ?_))))))
      refine Oq Vm (Oq Vm (Oq (VlS un9 (l := text)) (Oq Qcu (Oq Vm ?_))))
      refine Js 82 ?_ ?_
      ·intro h289
       have g290 := dt h289
       refine Oq Vm (Oq Vm (Oq (Vix un9 (l := text)) ?_))
       have hb291 := u8b (text.b.getD ((Qfo + 1) : Int).toNat 0)
       refine Oq Qby (Oq Vpt (Oq Vm ?_))
       refine Js 88 ?_ ?_
       ·intro h292
        have g293 := eq_of_beq h292
        refine Oq Vm (Oq QgA (Oq Vpt (KS ?_)))
        refine Kc ?_ ?_
        ·intro h294
         exact absurd h294 (by first | (simp [h287]; done) | (simp only [bne, h287]; decide) | (simp only [bne, h287, Bool.not_true, Bool.not_false]; decide) | (exfalso; omega) | (intro hq; simp only [bne, hq, Bool.not_false, Bool.not_true, reduceCtorEq] at h287))
        intro h294
        have g295 := QaA h294
        refine KS ?_
        exact Kg (r4, Qbq, Qau, (Qd8 + 1), false, (Qfo + 1), a10, k11) [0] ⟨(q3 hM12 (by simp only [Qak, h1, h22, h25, h28, h31, h199, h201, h278, h280, h283, h287, h289, h292, h294, hR286, cs4])), aM1, aM1, aM1, iv1, iv1, iv1, iv1⟩
       intro h292
       have g296 := ne_of_beq_false h292
       refine Osk (Osk (Oq Vpf (KS ?_)))
       refine Kf (KS ?_)
       exact Kg (r4, Qbq, Qau, (Qd8 + 1), false, (Qfo + 1), a10, k11) [0] ⟨(q3 hM12 (by simp only [Qak, h1, h22, h25, h28, h31, h199, h201, h278, h280, h283, h287, h289, h292, hR286, cs4])), aM1, aM1, aM1, iv1, iv1, iv1, iv1⟩
      intro h289
      have g297 := df h289
      refine Osk (Osk (Osk (Osk (Oq Vpf (Oq Vm (Osk (Osk (Oq Vpf (KS ?_)))))))))
      refine Kf (KS ?_)
      exact Kg (r4, Qbq, Qau, (Qd8 + 1), false, (Qfo + 1), a10, k11) [0] ⟨(q3 hM12 (by simp only [Qak, h1, h22, h25, h28, h31, h199, h201, h278, h280, h283, h287, h289, hR286, cs4])), aM1, aM1, aM1, iv1, iv1, iv1, iv1⟩
     intro h287
     exact absurd h287 (by first | (simp [h199]; done) | (simp only [bne, h199]; decide) | (simp only [bne, h199, Bool.not_true, Bool.not_false]; decide) | (exfalso; omega) | (intro hq; simp only [bne, hq, Bool.not_false, Bool.not_true, reduceCtorEq] at h199))
    intro h280
    have g298 := df h280
    refine Osk (Osk (Osk (Osk (Oq Vpf (KS ?_)))))
    refine Kf ?_
    refine Ke ?_
    have hR299 := q2 hM271 (.brk (Qd8, Qfo)) (by simp only [QaB, h1, h22, h25, h28, h31, h199, h201, h278, h280, cs4])
    refine KS ?_
    refine Oq Vm (Oq Qby (KS ?_))
    refine Kc ?_ ?_
    ·intro h300
     have g301 := eq_of_beq h300
     refine KS ?_
     refine Oq Vm (Oq Qbd (Oq Vm (Oq Qbd (Oq Va (Oq Va (KS ?_))))))
     refine Oq Vm (Oq Vm (Oq (VlS un9 (l := text)) (Oq Qcu (Oq Vm ?_))))
     refine Js 82 ?_ ?_
     ·intro h302
      have g303 := dt h302
      refine Oq Vm (Oq Vm (Oq (Vix un9 (l := text)) ?_))
      have hb304 := u8b (text.b.getD ((Qfo + 1) : Int).toNat 0)
      refine Oq Qby (Oq Vpt (Oq Vm ?_))
      refine Js 88 ?_ ?_
      ·intro h305
       have g306 := eq_of_beq h305
       refine Oq Vm (Oq QgA (Oq Vpt (KS ?_)))
       refine Kc ?_ ?_
       ·intro h307
        exact absurd h307 (by first | (simp [h300]; done) | (simp only [bne, h300]; decide) | (simp only [bne, h300, Bool.not_true, Bool.not_false]; decide) | (exfalso; omega) | (intro hq; simp only [bne, hq, Bool.not_false, Bool.not_true, reduceCtorEq] at h300))
       intro h307
       have g308 := QaA h307
       refine KS ?_
       exact Kg (r4, Qbq, Qau, (Qd8 + 1), false, (Qfo + 1), a10, k11) [0] ⟨(q3 hM12 (by simp only [Qak, h1, h22, h25, h28, h31, h199, h201, h278, h280, h300, h302, h305, h307, hR299, cs4])), aM1, aM1, aM1, iv1, iv1, iv1, iv1⟩
      intro h305
      have g309 := ne_of_beq_false h305
      refine Osk (Osk (Oq Vpf (KS ?_)))
      refine Kf (KS ?_)
      exact Kg (r4, Qbq, Qau, (Qd8 + 1), false, (Qfo + 1), a10, k11) [0] ⟨(q3 hM12 (by simp only [Qak, h1, h22, h25, h28, h31, h199, h201, h278, h280, h300, h302, h305, hR299, cs4])), aM1, aM1, aM1, iv1, iv1, iv1, iv1⟩
     intro h302
     have g310 := df h302
     refine Osk (Osk (Osk (Osk (Oq Vpf (Oq Vm (Osk (Osk (Oq Vpf (KS ?_)))))))))
     refine Kf (KS ?_)
     exact Kg (r4, Qbq, Qau, (Qd8 + 1), false, (Qfo + 1), a10, k11) [0] ⟨(q3 hM12 (by simp only [Qak, h1, h22, h25, h28, h31, h199, h201, h278, h280, h300, h302, hR299, cs4])), aM1, aM1, aM1, iv1, iv1, iv1, iv1⟩
    intro h300
    exact absurd h300 (by first | (simp [h199]; done) | (simp only [bne, h199]; decide) | (simp only [bne, h199, Bool.not_true, Bool.not_false]; decide) | (exfalso; omega) | (intro hq; simp only [bne, hq, Bool.not_false, Bool.not_true, reduceCtorEq] at h199))
   intro h278
   have g311 := ne_of_beq_false h278
   refine Osk (Osk (Osk (Osk (Oq Vpf (Oq Vm (Osk (Osk (Osk (Osk ?_)))))))))
   refine Oq Vpf (KS ?_)
   refine Kf ?_
   refine Ke ?_
   have hR312 := q2 hM271 (.brk (Qd8, Qfo)) (by simp only [QaB, h1, h22, h25, h28, h31, h199, h201, h278, cs4])
   refine KS ?_
   refine Oq Vm (Oq Qby (KS ?_))
   refine Kc ?_ ?_
   ·intro h313
    have g314 := eq_of_beq h313
    refine KS ?_
    refine Oq Vm (Oq Qbd (Oq Vm (Oq Qbd (Oq Va (Oq Va (KS ?_))))))
    refine Oq Vm (Oq Vm (Oq (VlS un9 (l := text)) (Oq Qcu (Oq Vm ?_))))
    refine Js 82 ?_ ?_
    ·intro h315
     have g316 := dt h315
     refine Oq Vm (Oq Vm (Oq (Vix un9 (l := text)) ?_))
     have hb317 := u8b (text.b.getD ((Qfo + 1) : Int).toNat 0)
     refine Oq Qby (Oq Vpt (Oq Vm ?_))
     refine Js 88 ?_ ?_
     ·intro h318
      have g319 := eq_of_beq h318
      refine Oq Vm (Oq QgA (Oq Vpt (KS ?_)))
      refine Kc ?_ ?_
      ·intro h320
       exact absurd h320 (by first | (simp [h313]; done) | (simp only [bne, h313]; decide) | (simp only [bne, h313, Bool.not_true, Bool.not_false]; decide) | (exfalso; omega) | (intro hq; simp only [bne, hq, Bool.not_false, Bool.not_true, reduceCtorEq] at h313))
      intro h320
      have g321 := QaA h320
      refine KS ?_
      exact Kg (r4, Qbq, Qau, (Qd8 + 1), false, (Qfo + 1), a10, k11) [0] ⟨(q3 hM12 (by simp only [Qak, h1, h22, h25, h28, h31, h199, h201, h278, h313, h315, h318, h320, hR312, cs4])), aM1, aM1, aM1, iv1, iv1, iv1, iv1⟩
     intro h318
     have g322 := ne_of_beq_false h318
     refine Osk (Osk (Oq Vpf (KS ?_)))
     refine Kf (KS ?_)
     exact Kg (r4, Qbq, Qau, (Qd8 + 1), false, (Qfo + 1), a10, k11) [0] ⟨(q3 hM12 (by simp only [Qak, h1, h22, h25, h28, h31, h199, h201, h278, h313, h315, h318, hR312, cs4])), aM1, aM1, aM1, iv1, iv1, iv1, iv1⟩
    intro h315
    have g323 := df h315
    refine Osk (Osk (Osk (Osk (Oq Vpf (Oq Vm (Osk (Osk (Oq Vpf (KS ?_)))))))))
    refine Kf (KS ?_)
    exact Kg (r4, Qbq, Qau, (Qd8 + 1), false, (Qfo + 1), a10, k11) [0] ⟨(q3 hM12 (by simp only [Qak, h1, h22, h25, h28, h31, h199, h201, h278, h313, h315, hR312, cs4])), aM1, aM1, aM1, iv1, iv1, iv1, iv1⟩
   intro h313
   exact absurd h313 (by first | (simp [h199]; done) | (simp only [bne, h199]; decide) | (simp only [bne, h199, Bool.not_true, Bool.not_false]; decide) | (exfalso; omega) | (intro hq; simp only [bne, hq, Bool.not_false, Bool.not_true, reduceCtorEq] at h199))
  intro h199
  have g324 := ne_of_beq_false h199
  refine Oq Vm (Oq Qby (Oq Vpf (Oq Va (KS ?_))))
  refine Kc ?_ ?_
  ·intro h325
   have g326 := eq_of_beq h325
   refine KS ?_
   refine Oq Vm (KS ?_)
   refine Kc ?_ ?_
   ·intro h327
    refine KS ?_
    refine Oq Vm (Oq Vm (Oq Vm (Oq (Vbd QpW [vi 3, .string (bs (Str.mk [])), vi Qau, vi Qba]) (Oa (AsV QeR QlV [.agg #[vi 3, .string (bs (Str.mk [])), vi Qau, vi Qba]] [vi 3, .string (bs (Str.mk [])), vi Qau, vi Qba]) fun c329 => ?_))))
    refine Jo 0 ?_; rintro a330 k331 rfl
    refine Jl [0] (Ent.cr1 (α := QaN) (A := []) _ (QaN.mk 3 (Str.mk []) Qau Qba) _ aB1 (fun h => ⟨rfl, aL1, aS1, aL1, aL1⟩)) ?_
    refine Oa (ApO [1, 0] QeR QeR QlV) fun c332 => ?_
    refine Jo 0 ?_; rintro a333 k334 rfl
    refine Fb 40 0 fun _ => ?_
    have hn336 := la Qbq ([(QaN.mk 3 (Str.mk []) Qau Qba)] : List QaN)
    refine Oq Va (KS ?_)
    refine Oq Va (KS ?_)
    have hterm345 : QaB text ((text.b.getD i_9.toNat 0).toNat : Int) (text.b.length + 1) Qba i_9 ≠ LR.oof := (QeC _ _ _ _ _ aM1).1
    refine Kl (γ := Nat × Int × Int) (fun (r337, Qf5, Qhs) => ⟨[(0, .string (bs text)), (7, vi Qau), (8, vi Qf5), (10, vi Qhs), (11, .int .u8 ((text.b.getD i_9.toNat 0).toNat : Int)), (6, vl a333 k334 (Qbq ++ [(QaN.mk 3 (Str.mk []) Qau Qba)])), (9, vb false)], [O a333 k334 ((Qbq ++ [(QaN.mk 3 (Str.mk []) Qau Qba)]) : List QaN)], QaB text ((text.b.getD i_9.toNat 0).toNat : Int) r337 Qf5 Qhs = QaB text ((text.b.getD i_9.toNat 0).toNat : Int) (text.b.length + 1) Qba i_9 /\ (-9223372036854775808 <= Qf5 /\ Qf5 <= 9223372036854775807) /\ (-9223372036854775808 <= Qhs /\ Qhs <= 9223372036854775807) /\ (i_9 <= Qhs /\ Qhs <= (text.b.length : Int) /\ Qba <= Qf5 /\ Qf5 <= Qba + (Qhs - i_9)) /\ (((text.b.getD i_9.toNat 0).toNat : Int) = 35 \/ Qhs = i_9), r337⟩) ((text.b.length + 1), Qba, i_9) [0] ⟨rfl, aM1, aM1, iv0, iv0⟩ ?_
    rintro ⟨r337, Qf5, Qhs⟩ ⟨hM340, hk341, hk342, hv343, hv344⟩
    refine QbB fun _ _ hL hA => ?_; dsimp only at hL hA; subst hL hA
    refine Fb 40 0 fun _ => ?_
    rcases r337 with _ | r337
    ·exact absurd (hM340.symm.trans rfl) hterm345
    refine KS ?_
    refine Oq Vm (Oq Qby (Oq Vm ?_))
    refine Js 56 ?_ ?_
    ·intro h347
     have g348 := eq_of_beq h347
     refine Oq Vm (Oq Vm (Oq (VlS un9 (l := text)) (Oq Qcu (Oq Vpt (Oq Vm ?_)))))
     refine Js 62 ?_ ?_
     ·intro h349
      have g350 := dt h349
      refine Oq Vm (Oq Vm (Oq (Vix un9 (l := text)) ?_))
      have hb351 := u8b (text.b.getD Qhs.toNat 0)
      refine Oq QgA (Oq Vpt (KS ?_))
      refine Kc ?_ ?_
      ·intro h352
       have g353 := QbL h352
       refine KS ?_
       refine Oq Vm (Oq Qbd (Oq Vm (Oq Qbd (Oq Va (Oq Va (KS ?_))))))
       exact Kg (r337, (Qf5 + 1), (Qhs + 1)) [0] ⟨(q3 hM340 (by simp only [QaB, h1, h22, h25, h28, h31, h199, h325, h327, h347, h349, h352, cs4])), aM1, aM1, iv1, iv1⟩
      intro h352
      have g354 := QaA h352
      refine Ke ?_
      have hR355 := q2 hM340 (.brk (Qf5, Qhs)) (by simp only [QaB, h1, h22, h25, h28, h31, h199, h325, h327, h347, h349, h352, cs4])
      refine KS ?_
      refine Oq Vm (Oq Qby (KS ?_))
      refine Kc ?_ ?_
      ·intro h356
       exact absurd h356 (by first | (simp [h199]; done) | (simp only [bne, h199]; decide) | (simp only [bne, h199, Bool.not_true, Bool.not_false]; decide) | (exfalso; omega) | (intro hq; simp only [bne, hq, Bool.not_false, Bool.not_true, reduceCtorEq] at h199))
      intro h356
      have g357 := ne_of_beq_false h356
      refine KS ?_
      refine Oq Vm (Oq Vm (Oq (VlS un9 (l := text)) (Oq Qcu (Oq Vm ?_))))
      refine Js 82 ?_ ?_
      ·intro h358
       have g359 := dt h358
       refine Oq Vm (Oq Vm (Oq (Vix un9 (l := text)) ?_))
       have hb360 := u8b (text.b.getD Qhs.toNat 0)
       refine Oq Qby (Oq Vpt (Oq Vm ?_))
       refine Js 88 ?_ ?_
       ·intro h361
        have g362 := eq_of_beq h361
        refine Oq Vm (Oq QgA (Oq Vpt (KS ?_)))
        refine Kc ?_ ?_
        ·intro h363
         have g364 := QbL h363
         refine KS ?_
         refine Oq Vm (Oq Qbd (Oq Vm (Oq Qbd (Oq Va (Oq Va (Oq Va (KS ?_)))))))
         exact Kg (r4, (Qbq ++ [(QaN.mk 3 (Str.mk []) Qau Qba)]), (Qau + 1), 1, false, (Qhs + 1), a333, k334) [0] ⟨(q3 hM12 (by simp only [Qak, h1, h22, h25, h28, h31, h199, h325, h327, h347, h349, h352, h356, h358, h361, h363, hR355, cs4])), aM1, aM1, aM1, iv1, iv1, iv1, iv1⟩
        intro h363
        exact absurd h363 (by first | (simp [h356]; done) | (simp only [bne, h356]; decide) | (simp only [bne, h356, Bool.not_true, Bool.not_false]; decide) | (exfalso; omega) | (intro hq; simp only [bne, hq, Bool.not_false, Bool.not_true, reduceCtorEq] at h356))
       intro h361
       exact absurd h361 (by first | (simp [h352]; done) | (simp only [bne, h352]; decide) | (simp only [bne, h352, Bool.not_true, Bool.not_false]; decide) | (exfalso; omega) | (intro hq; simp only [bne, hq, Bool.not_false, Bool.not_true, reduceCtorEq] at h352))
      intro h358
      exact absurd h358 (by first | (simp [h349]; done) | (simp only [bne, h349]; decide) | (simp only [bne, h349, Bool.not_true, Bool.not_false]; decide) | (exfalso; omega) | (intro hq; simp only [bne, hq, Bool.not_false, Bool.not_true, reduceCtorEq] at h349))
     intro h349
     have g365 := df h349
     refine Osk (Osk (Osk (Osk (Oq Vpf (KS ?_)))))
     refine Kf ?_
     refine Ke ?_
     have hR366 := q2 hM340 (.brk (Qf5, Qhs)) (by simp only [QaB, h1, h22, h25, h28, h31, h199, h325, h327, h347, h349, cs4])
     refine KS ?_
     refine Oq Vm (Oq Qby (KS ?_))
     refine Kc ?_ ?_
     ·intro h367
      exact absurd h367 (by first | (simp [h199]; done) | (simp only [bne, h199]; decide) | (simp only [bne, h199, Bool.not_true, Bool.not_false]; decide) | (exfalso; omega) | (intro hq; simp only [bne, hq, Bool.not_false, Bool.not_true, reduceCtorEq] at h199))
     intro h367
     have g368 := ne_of_beq_false h367
     refine KS ?_
     refine Oq Vm (Oq Vm (Oq (VlS un9 (l := text)) (Oq Qcu (Oq Vm ?_))))
     refine Js 82 ?_ ?_
     ·intro h369
      exact absurd h369 (by first | (simp [h349]; done) | (simp only [bne, h349]; decide) | (simp only [bne, h349, Bool.not_true, Bool.not_false]; decide) | (exfalso; omega) | (intro hq; simp only [bne, hq, Bool.not_false, Bool.not_true, reduceCtorEq] at h349))
     intro h369
     have g370 := df h369
     refine Osk (Osk (Osk (Osk (Oq Vpf (Oq Vm (Osk (Osk (Oq Vpf (KS ?_)))))))))
     refine Kf (KS ?_)
     exact Kg (r4, (Qbq ++ [(QaN.mk 3 (Str.mk []) Qau Qba)]), Qau, Qf5, false, Qhs, a333, k334) [0] ⟨(q3 hM12 (by simp only [Qak, h1, h22, h25, h28, h31, h199, h325, h327, h347, h349, h367, h369, hR366, cs4])), aM1, aM1, aM1, iv1, iv1, iv1, iv1⟩
    intro h347
    exact absurd h347 (by first | (simp [h325]; done) | (simp only [bne, h325]; decide) | (simp only [bne, h325, Bool.not_true, Bool.not_false]; decide) | (exfalso; omega) | (intro hq; simp only [bne, hq, Bool.not_false, Bool.not_true, reduceCtorEq] at h325))
   intro h327
   refine KS ?_
   refine Oq Va (KS ?_)
   have hterm380 : QaB text ((text.b.getD i_9.toNat 0).toNat : Int) (text.b.length + 1) Qba i_9 ≠ LR.oof := (QeC _ _ _ _ _ aM1).1
   refine Kl (γ := Nat × Int × Int) (fun (r372, Qf6, Qht) => ⟨[(0, .string (bs text)), (6, vl a10 k11 Qbq), (7, vi Qau), (8, vi Qf6), (10, vi Qht), (11, .int .u8 ((text.b.getD i_9.toNat 0).toNat : Int)), (9, vb false)], [O a10 k11 Qbq], QaB text ((text.b.getD i_9.toNat 0).toNat : Int) r372 Qf6 Qht = QaB text ((text.b.getD i_9.toNat 0).toNat : Int) (text.b.length + 1) Qba i_9 /\ (-9223372036854775808 <= Qf6 /\ Qf6 <= 9223372036854775807) /\ (-9223372036854775808 <= Qht /\ Qht <= 9223372036854775807) /\ (i_9 <= Qht /\ Qht <= (text.b.length : Int) /\ Qba <= Qf6 /\ Qf6 <= Qba + (Qht - i_9)) /\ (((text.b.getD i_9.toNat 0).toNat : Int) = 35 \/ Qht = i_9), r372⟩) ((text.b.length + 1), Qba, i_9) [0] ⟨rfl, aM1, aM1, iv0, iv0⟩ ?_
   rintro ⟨r372, Qf6, Qht⟩ ⟨hM375, hk376, hk377, hv378, hv379⟩
   refine QbB fun _ _ hL hA => ?_; dsimp only at hL hA; subst hL hA
   refine Fb 40 0 fun _ => ?_
   rcases r372 with _ | r372
   ·exact absurd (hM375.symm.trans rfl) hterm380
   refine KS ?_
   refine Oq Vm (Oq Qby (Oq Vm ?_))
   refine Js 56 ?_ ?_
   ·intro h382
    have g383 := eq_of_beq h382
    refine Oq Vm (Oq Vm (Oq (VlS un9 (l := text)) (Oq Qcu (Oq Vpt (Oq Vm ?_)))))
    refine Js 62 ?_ ?_
    ·intro h384
     have g385 := dt h384
     refine Oq Vm (Oq Vm (Oq (Vix un9 (l := text)) ?_))
     have hb386 := u8b (text.b.getD Qht.toNat 0)
     refine Oq QgA (Oq Vpt (KS ?_))
     refine Kc ?_ ?_
     ·intro h387
      have g388 := QbL h387
      refine KS ?_
      refine Oq Vm (Oq Qbd (Oq Vm (Oq Qbd (Oq Va (Oq Va (KS ?_))))))
      exact Kg (r372, (Qf6 + 1), (Qht + 1)) [0] ⟨(q3 hM375 (by simp only [QaB, h1, h22, h25, h28, h31, h199, h325, h327, h382, h384, h387, cs4])), aM1, aM1, iv1, iv1⟩
     intro h387
     have g389 := QaA h387
     refine Ke ?_
     have hR390 := q2 hM375 (.brk (Qf6, Qht)) (by simp only [QaB, h1, h22, h25, h28, h31, h199, h325, h327, h382, h384, h387, cs4])
     refine KS ?_
     refine Oq Vm (Oq Qby (KS ?_))
     refine Kc ?_ ?_
     ·intro h391
      exact absurd h391 (by first | (simp [h199]; done) | (simp only [bne, h199]; decide) | (simp only [bne, h199, Bool.not_true, Bool.not_false]; decide) | (exfalso; omega) | (intro hq; simp only [bne, hq, Bool.not_false, Bool.not_true, reduceCtorEq] at h199))
     intro h391
     have g392 := ne_of_beq_false h391
     refine KS ?_
     refine Oq Vm (Oq Vm (Oq (VlS un9 (l := text)) (Oq Qcu (Oq Vm ?_))))
     refine Js 82 ?_ ?_
     ·intro h393
      have g394 := dt h393
      refine Oq Vm (Oq Vm (Oq (Vix un9 (l := text)) ?_))
      have hb395 := u8b (text.b.getD Qht.toNat 0)
      refine Oq Qby (Oq Vpt (Oq Vm ?_))
      refine Js 88 ?_ ?_
      ·intro h396
       have g397 := eq_of_beq h396
       refine Oq Vm (Oq QgA (Oq Vpt (KS ?_)))
       refine Kc ?_ ?_
       ·intro h398
        have g399 := QbL h398
        refine KS ?_
        refine Oq Vm (Oq Qbd (Oq Vm (Oq Qbd (Oq Va (Oq Va (Oq Va (KS ?_)))))))
        exact Kg (r4, Qbq, (Qau + 1), 1, false, (Qht + 1), a10, k11) [0] ⟨(q3 hM12 (by simp only [Qak, h1, h22, h25, h28, h31, h199, h325, h327, h382, h384, h387, h391, h393, h396, h398, hR390, cs4])), aM1, aM1, aM1, iv1, iv1, iv1, iv1⟩
       intro h398
       exact absurd h398 (by first | (simp [h391]; done) | (simp only [bne, h391]; decide) | (simp only [bne, h391, Bool.not_true, Bool.not_false]; decide) | (exfalso; omega) | (intro hq; simp only [bne, hq, Bool.not_false, Bool.not_true, reduceCtorEq] at h391))
      intro h396
      exact absurd h396 (by first | (simp [h387]; done) | (simp only [bne, h387]; decide) | (simp only [bne, h387, Bool.not_true, Bool.not_false]; decide) | (exfalso; omega) | (intro hq; simp only [bne, hq, Bool.not_false, Bool.not_true, reduceCtorEq] at h387))
     intro h393
     exact absurd h393 (by first | (simp [h384]; done) | (simp only [bne, h384]; decide) | (simp only [bne, h384, Bool.not_true, Bool.not_false]; decide) | (exfalso; omega) | (intro hq; simp only [bne, hq, Bool.not_false, Bool.not_true, reduceCtorEq] at h384))
    intro h384
    have g400 := df h384
    refine Osk (Osk (Osk (Osk (Oq Vpf (KS ?_)))))
    refine Kf ?_
    refine Ke ?_
    have hR401 := q2 hM375 (.brk (Qf6, Qht)) (by simp only [QaB, h1, h22, h25, h28, h31, h199, h325, h327, h382, h384, cs4])
    refine KS ?_
    refine Oq Vm (Oq Qby (KS ?_))
    refine Kc ?_ ?_
    ·intro h402
     exact absurd h402 (by first | (simp [h199]; done) | (simp only [bne, h199]; decide) | (simp only [bne, h199, Bool.not_true, Bool.not_false]; decide) | (exfalso; omega) | (intro hq; simp only [bne, hq, Bool.not_false, Bool.not_true, reduceCtorEq] at h199))
    intro h402
    have g403 := ne_of_beq_false h402
    refine KS ?_
    refine Oq Vm (Oq Vm (Oq (VlS un9 (l := text)) (Oq Qcu (Oq Vm ?_))))
    refine Js 82 ?_ ?_
    ·intro h404
     exact absurd h404 (by first | (simp [h384]; done) | (simp only [bne, h384]; decide) | (simp only [bne, h384, Bool.not_true, Bool.not_false]; decide) | (exfalso; omega) | (intro hq; simp only [bne, hq, Bool.not_false, Bool.not_true, reduceCtorEq] at h384))
    intro h404
    have g405 := df h404
    refine Osk (Osk (Osk (Osk (Oq Vpf (Oq Vm (Osk (Osk (Oq Vpf (KS ?_)))))))))
    refine Kf (KS ?_)
    exact Kg (r4, Qbq, Qau, Qf6, false, Qht, a10, k11) [0] ⟨(q3 hM12 (by simp only [Qak, h1, h22, h25, h28, h31, h199, h325, h327, h382, h384, h402, h404, hR401, cs4])), aM1, aM1, aM1, iv1, iv1, iv1, iv1⟩
   intro h382
   exact absurd h382 (by first | (simp [h325]; done) | (simp only [bne, h325]; decide) | (simp only [bne, h325, Bool.not_true, Bool.not_false]; decide) | (exfalso; omega) | (intro hq; simp only [bne, hq, Bool.not_false, Bool.not_true, reduceCtorEq] at h325))
  intro h325
  have g406 := ne_of_beq_false h325
  refine KS ?_
  refine Oq Vm (Oq Qby (Oq Va (KS ?_)))
  refine Kc ?_ ?_
  ·intro h407
   have g408 := eq_of_beq h407
   refine KS ?_
   refine Oq Vm (Oq Vm (Oq Vm (Oq (Vbd QpW [vi 2, .string (bs (Str.mk [61])), vi Qau, vi Qba]) (Oa (AsV QeR QlV [.agg #[vi 2, .string (bs (Str.mk [61])), vi Qau, vi Qba]] [vi 2, .string (bs (Str.mk [61])), vi Qau, vi Qba]) fun c409 => ?_))))
   refine Jo 0 ?_; rintro a410 k411 rfl
   refine Jl [0] (Ent.cr1 (α := QaN) (A := []) _ (QaN.mk 2 (Str.mk [61]) Qau Qba) _ aB1 (fun h => ⟨rfl, aL1, aS1, aL1, aL1⟩)) ?_
   refine Oa (ApO [1, 0] QeR QeR QlV) fun c412 => ?_
   refine Jo 0 ?_; rintro a413 k414 rfl
   refine Fb 40 0 fun _ => ?_
   have hn416 := la Qbq ([(QaN.mk 2 (Str.mk [61]) Qau Qba)] : List QaN)
   refine Oq Va (KS ?_)
   refine Oq Vm (Oq Qbd (Oq Vm (Oq Qbd (Oq Va (Oq Va (Oq Va (KS ?_)))))))
   exact Kg (r4, (Qbq ++ [(QaN.mk 2 (Str.mk [61]) Qau Qba)]), Qau, (Qba + 1), true, (i_9 + 1), a413, k414) [0] ⟨(q3 hM12 (by simp only [Qak, h1, h22, h25, h28, h31, h199, h325, h407, cs4])), aM1, aM1, aM1, iv1, iv1, iv1, iv1⟩
  intro h407
  have g417 := ne_of_beq_false h407
  refine KS ?_
  refine Oq Vm ?_
  refine QaO (QbQ ((text.b.getD i_9.toNat 0).toNat : Int)) fun rv418 hg419 => ?_
  have hc420 := Qrk (((text.b.getD i_9.toNat 0).toNat : Int)) pre rv418 hg419
  refine Oc [] QrA hc420 ?_
  rintro - -
  refine Oq Vm ?_
  refine Js 112 ?_ ?_
  ·intro h421
   refine Osk (Osk (Oq Vpt (Oq Va (KS ?_))))
   refine Kt (KS ?_)
   refine Oq Va (KS ?_)
   have hterm428 : QbH text i_9 (text.b.length + 1) 0 ≠ LR.oof := (QgC _ _ _ _ aM1).1
   refine Kl (γ := Nat × Int) (fun (r423, Qew) => ⟨[(0, .string (bs text)), (6, vl a10 k11 Qbq), (7, vi Qau), (8, vi Qba), (10, vi i_9), (11, .int .u8 ((text.b.getD i_9.toNat 0).toNat : Int)), (12, vi Qew)], [O a10 k11 Qbq], QbH text i_9 r423 Qew = QbH text i_9 (text.b.length + 1) 0 /\ (-9223372036854775808 <= Qew /\ Qew <= 9223372036854775807) /\ (0 <= Qew /\ i_9 + Qew <= (text.b.length : Int)), r423⟩) ((text.b.length + 1), 0) [0] ⟨rfl, aM1, iv0⟩ ?_
   rintro ⟨r423, Qew⟩ ⟨hM425, hk426, hv427⟩
   refine QbB fun _ _ hL hA => ?_; dsimp only at hL hA; subst hL hA
   refine Fb 40 0 fun _ => ?_
   rcases r423 with _ | r423
   ·exact absurd (hM425.symm.trans rfl) hterm428
   refine KS ?_
   refine Oq Vm (Oq Vm (Oq Qbd (Oq Vm (Oq (VlS un9 (l := text)) (Oq Qcu (Oq Vm ?_))))))
   refine Js 122 ?_ ?_
   ·intro h430
    have g431 := dt h430
    refine Oq Vm (Oq Vm (Oq Vm (Oq Qbd (Oq (Vix un9 (l := text)) ?_))))
    have hb432 := u8b (text.b.getD ((i_9 + Qew) : Int).toNat 0)
    refine QaO (QbQ ((text.b.getD ((i_9 + Qew) : Int).toNat 0).toNat : Int)) fun rv433 hg434 => ?_
    have hc435 := Qrk (((text.b.getD ((i_9 + Qew) : Int).toNat 0).toNat : Int)) pre rv433 hg434
    refine Oc [] QrA hc435 ?_
    rintro - -
    refine Oq Vm ?_
    refine Js 129 ?_ ?_
    ·intro h436
     refine Osk (Osk (Osk (Osk (Osk (Osk (Oq Vpt (Oq Vpt (KS ?_))))))))
     refine Kt (KS ?_)
     refine Oq Vm (Oq Qbd (Oq Va (KS ?_)))
     exact Kg (r423, (Qew + 1)) [0] ⟨(q3 hM425 (by simp only [QbH, h1, h22, h25, h28, h31, h199, h325, h407, h421, h430, h436, hg419, hg434, cs4])), aM1, iv1⟩
    intro h436
    refine Oq Vm (Oq Vm (Oq Vm (Oq Qbd (Oq (Vix un9 (l := text)) ?_))))
    have hb439 := u8b (text.b.getD ((i_9 + Qew) : Int).toNat 0)
    refine QaO (Qd1 ((text.b.getD ((i_9 + Qew) : Int).toNat 0).toNat : Int)) fun rv440 hg441 => ?_
    have hc442 := QoK (((text.b.getD ((i_9 + Qew) : Int).toNat 0).toNat : Int)) pre rv440 hg441
    refine Oc [] Qo0 hc442 ?_
    rintro - -
    refine Oq Vpf (Oq Vpt (KS ?_))
    refine Kc ?_ ?_
    ·intro h443
     refine KS ?_
     refine Oq Vm (Oq Qbd (Oq Va (KS ?_)))
     exact Kg (r423, (Qew + 1)) [0] ⟨(q3 hM425 (by simp only [QbH, h1, h22, h25, h28, h31, h199, h325, h407, h421, h430, h436, h443, hg419, hg434, hg441, cs4])), aM1, iv1⟩
    intro h443
    refine Ke ?_
    have hR446 := q2 hM425 (.brk Qew) (by simp only [QbH, h1, h22, h25, h28, h31, h199, h325, h407, h421, h430, h436, h443, hg419, hg434, hg441, cs4])
    refine KS ?_
    refine Oq Vm ?_
    refine QaO (Qd1 ((text.b.getD i_9.toNat 0).toNat : Int)) fun rv447 hg448 => ?_
    have hc449 := QoK (((text.b.getD i_9.toNat 0).toNat : Int)) pre rv447 hg448
    refine Oc [] Qo0 hc449 ?_
    rintro - -
    refine KS ?_
    refine Kc ?_ ?_
    ·intro h450
     refine KS ?_
     refine Oq Vm (Oq Vm (Oq Va (Oq Va (Oq Va (Oq Va (KS ?_))))))
     refine Jl [] (Ent.slNil (α := QaN)) ?_
     have hR452 := q2 hM12 (.ret ([], Qau, Qba, 4)) (by simp only [Qak, h1, h22, h25, h28, h31, h199, h325, h407, h421, h430, h436, h443, h450, hg419, hg434, hg441, hR446, hg448, cs4])
     have hq := q4 hrr ([], Qau, Qba, 4) (by simp only [Qfd, h1, h22, h25, h28, h31, h199, h325, h407, h421, h430, h436, h443, h450, hg419, hg434, hg441, hR446, hg448, hR452, cs4]); subst hq
     exact Kr (.slice none 0 0) rfl (.tmp rfl (.tmp rfl (.tmp rfl (.tmp rfl .nil)))) [0] en
    intro h450
    refine KS ?_
    refine Oq Vm (Oq QhM (KS ?_))
    refine Kc ?_ ?_
    ·intro h454
     have g455 := dt h454
     refine KS ?_
     refine Oq Vm (Oq Vm (Oq Va (Oq Va (Oq Va (Oq Va (KS ?_))))))
     refine Jl [] (Ent.slNil (α := QaN)) ?_
     have hR456 := q2 hM12 (.ret ([], Qau, Qba, 7)) (by simp only [Qak, h1, h22, h25, h28, h31, h199, h325, h407, h421, h430, h436, h443, h450, h454, hg419, hg434, hg441, hR446, hg448, cs4])
     have hq := q4 hrr ([], Qau, Qba, 7) (by simp only [Qfd, h1, h22, h25, h28, h31, h199, h325, h407, h421, h430, h436, h443, h450, h454, hg419, hg434, hg441, hR446, hg448, hR456, cs4]); subst hq
     exact Kr (.slice none 0 0) rfl (.tmp rfl (.tmp rfl (.tmp rfl (.tmp rfl .nil)))) [0] en
    intro h454
    have g457 := df h454
    refine KS ?_
    refine Oq Vm (Oq Vm (Oq Vm (Oq Vm (Oq Vm (Oq Qbd (Oq (Qut un9 (l := text)) ?_))))))
    have hb458 := QlS text i_9.toNat ((i_9 + Qew) : Int).toNat
    refine Oq Vm (Oq Vm (Oq (Vbd QpW [vi 1, .string (bs (text.sub i_9.toNat ((i_9 + Qew) : Int).toNat)), vi Qau, vi Qba]) (Oa (AsV QeR QlV [.agg #[vi 1, .string (bs (text.sub i_9.toNat ((i_9 + Qew) : Int).toNat)), vi Qau, vi Qba]] [vi 1, .string (bs (text.sub i_9.toNat ((i_9 + Qew) : Int).toNat)), vi Qau, vi Qba]) fun c459 => ?_)))
    refine Jo 0 ?_; rintro a460 k461 rfl
    refine Jl [0] (Ent.cr1 (α := QaN) (A := []) _ (QaN.mk 1 (text.sub i_9.toNat ((i_9 + Qew) : Int).toNat) Qau Qba) _ aB1 (fun h => ⟨rfl, aL1, aS1, aL1, aL1⟩)) ?_
    refine Oa (ApO [1, 0] QeR QeR QlV) fun c462 => ?_
    refine Jo 0 ?_; rintro a463 k464 rfl
    refine Fb 40 0 fun _ => ?_
    have hn466 := la Qbq ([(QaN.mk 1 (text.sub i_9.toNat ((i_9 + Qew) : Int).toNat) Qau Qba)] : List QaN)
    refine Oq Va (KS ?_)
    refine Oq Vm (Oq Vm (Oq Qbd (Oq Vm (Oq Vm (Oq Qbd (Oq Va (Oq Va (Oq Va (KS ?_)))))))))
    exact Kg (r4, (Qbq ++ [(QaN.mk 1 (text.sub i_9.toNat ((i_9 + Qew) : Int).toNat) Qau Qba)]), Qau, (Qba + Qew), true, (i_9 + Qew), a463, k464) [0] ⟨(q3 hM12 (by simp only [Qak, h1, h22, h25, h28, h31, h199, h325, h407, h421, h430, h436, h443, h450, h454, hg419, hg434, hg441, hR446, hg448, cs4])), aM1, aM1, aM1, iv1, iv1, iv1, iv1⟩
   intro h430
   have g467 := df h430
   refine Osk (Osk (Osk (Osk (Osk (Osk (Osk (Osk (Osk (Osk ?_)))))))))
   refine Osk (Osk (Osk (Osk (Oq Vpf (KS ?_)))))
   refine Kf ?_
   refine Ke ?_
   have hR468 := q2 hM425 (.brk Qew) (by simp only [QbH, h1, h22, h25, h28, h31, h199, h325, h407, h421, h430, hg419, cs4])
   refine KS ?_
   refine Oq Vm ?_
   refine QaO (Qd1 ((text.b.getD i_9.toNat 0).toNat : Int)) fun rv469 hg470 => ?_
   have hc471 := QoK (((text.b.getD i_9.toNat 0).toNat : Int)) pre rv469 hg470
   refine Oc [] Qo0 hc471 ?_
   rintro - -
   refine KS ?_
   refine Kc ?_ ?_
   ·intro h472
    refine KS ?_
    refine Oq Vm (Oq Vm (Oq Va (Oq Va (Oq Va (Oq Va (KS ?_))))))
    refine Jl [] (Ent.slNil (α := QaN)) ?_
    have hR474 := q2 hM12 (.ret ([], Qau, Qba, 4)) (by simp only [Qak, h1, h22, h25, h28, h31, h199, h325, h407, h421, h430, h472, hg419, hR468, hg470, cs4])
    have hq := q4 hrr ([], Qau, Qba, 4) (by simp only [Qfd, h1, h22, h25, h28, h31, h199, h325, h407, h421, h430, h472, hg419, hR468, hg470, hR474, cs4]); subst hq
    exact Kr (.slice none 0 0) rfl (.tmp rfl (.tmp rfl (.tmp rfl (.tmp rfl .nil)))) [0] en
   intro h472
   refine KS ?_
   refine Oq Vm (Oq QhM (KS ?_))
   refine Kc ?_ ?_
   ·intro h476
    have g477 := dt h476
    refine KS ?_
    refine Oq Vm (Oq Vm (Oq Va (Oq Va (Oq Va (Oq Va (KS ?_))))))
    refine Jl [] (Ent.slNil (α := QaN)) ?_
    have hR478 := q2 hM12 (.ret ([], Qau, Qba, 7)) (by simp only [Qak, h1, h22, h25, h28, h31, h199, h325, h407, h421, h430, h472, h476, hg419, hR468, hg470, cs4])
    have hq := q4 hrr ([], Qau, Qba, 7) (by simp only [Qfd, h1, h22, h25, h28, h31, h199, h325, h407, h421, h430, h472, h476, hg419, hR468, hg470, hR478, cs4]); subst hq
    exact Kr (.slice none 0 0) rfl (.tmp rfl (.tmp rfl (.tmp rfl (.tmp rfl .nil)))) [0] en
   intro h476
   have g479 := df h476
   refine KS ?_
   refine Oq Vm (Oq Vm (Oq Vm (Oq Vm (Oq Vm (Oq Qbd (Oq (Qut un9 (l := text)) ?_))))))
   have hb480 := QlS text i_9.toNat ((i_9 + Qew) : Int).toNat
   refine Oq Vm (Oq Vm (Oq (Vbd QpW [vi 1, .string (bs (text.sub i_9.toNat ((i_9 + Qew) : Int).toNat)), vi Qau, vi Qba]) (Oa (AsV QeR QlV [.agg #[vi 1, .string (bs (text.sub i_9.toNat ((i_9 + Qew) : Int).toNat)), vi Qau, vi Qba]] [vi 1, .string (bs (text.sub i_9.toNat ((i_9 + Qew) : Int).toNat)), vi Qau, vi Qba]) fun c481 => ?_)))
   refine Jo 0 ?_; rintro a482 k483 rfl
   refine Jl [0] (Ent.cr1 (α := QaN) (A := []) _ (QaN.mk 1 (text.sub i_9.toNat ((i_9 + Qew) : Int).toNat) Qau Qba) _ aB1 (fun h => ⟨rfl, aL1, aS1, aL1, aL1⟩)) ?_
   refine Oa (ApO [1, 0] QeR QeR QlV) fun c484 => ?_
   refine Jo 0 ?_; rintro a485 k486 rfl
   refine Fb 40 0 fun _ => ?_
   have hn488 := la Qbq ([(QaN.mk 1 (text.sub i_9.toNat ((i_9 + Qew) : Int).toNat) Qau Qba)] : List QaN)
   refine Oq Va (KS ?_)
   refine Oq Vm (Oq Vm (Oq Qbd (Oq Vm (Oq Vm (Oq Qbd (Oq Va (Oq Va (Oq Va (KS ?_)))))))))
   exact Kg (r4, (Qbq ++ [(QaN.mk 1 (text.sub i_9.toNat ((i_9 + Qew) : Int).toNat) Qau Qba)]), Qau, (Qba + Qew), true, (i_9 + Qew), a485, k486) [0] ⟨(q3 hM12 (by simp only [Qak, h1, h22, h25, h28, h31, h199, h325, h407, h421, h430, h472, h476, hg419, hR468, hg470, cs4])), aM1, aM1, aM1, iv1, iv1, iv1, iv1⟩
  intro h421
  refine Oq Vm ?_
  refine QaO (Qd1 ((text.b.getD i_9.toNat 0).toNat : Int)) fun rv490 hg491 => ?_
  have hc492 := QoK (((text.b.getD i_9.toNat 0).toNat : Int)) pre rv490 hg491
  refine Oc [] Qo0 hc492 ?_
  rintro - -
  refine Oq Vpf (Oq Va (KS ?_))
  refine Kc ?_ ?_
  ·intro h493
   refine KS ?_
   refine Oq Va (KS ?_)
   have hterm500 : QbH text i_9 (text.b.length + 1) 0 ≠ LR.oof := (QgC _ _ _ _ aM1).1
   refine Kl (γ := Nat × Int) (fun (r495, Qhb) => ⟨[(0, .string (bs text)), (6, vl a10 k11 Qbq), (7, vi Qau), (8, vi Qba), (10, vi i_9), (11, .int .u8 ((text.b.getD i_9.toNat 0).toNat : Int)), (12, vi Qhb)], [O a10 k11 Qbq], QbH text i_9 r495 Qhb = QbH text i_9 (text.b.length + 1) 0 /\ (-9223372036854775808 <= Qhb /\ Qhb <= 9223372036854775807) /\ (0 <= Qhb /\ i_9 + Qhb <= (text.b.length : Int)), r495⟩) ((text.b.length + 1), 0) [0] ⟨rfl, aM1, iv0⟩ ?_
   rintro ⟨r495, Qhb⟩ ⟨hM497, hk498, hv499⟩
   refine QbB fun _ _ hL hA => ?_; dsimp only at hL hA; subst hL hA
   refine Fb 40 0 fun _ => ?_
   rcases r495 with _ | r495
   ·exact absurd (hM497.symm.trans rfl) hterm500
   refine KS ?_
   refine Oq Vm (Oq Vm (Oq Qbd (Oq Vm (Oq (VlS un9 (l := text)) (Oq Qcu (Oq Vm ?_))))))
   refine Js 122 ?_ ?_
   ·intro h502
    have g503 := dt h502
    refine Oq Vm (Oq Vm (Oq Vm (Oq Qbd (Oq (Vix un9 (l := text)) ?_))))
    have hb504 := u8b (text.b.getD ((i_9 + Qhb) : Int).toNat 0)
    refine QaO (QbQ ((text.b.getD ((i_9 + Qhb) : Int).toNat 0).toNat : Int)) fun rv505 hg506 => ?_
    have hc507 := Qrk (((text.b.getD ((i_9 + Qhb) : Int).toNat 0).toNat : Int)) pre rv505 hg506
    refine Oc [] QrA hc507 ?_
    rintro - -
    refine Oq Vm ?_
    refine Js 129 ?_ ?_
    ·intro h508
     refine Osk (Osk (Osk (Osk (Osk (Osk (Oq Vpt (Oq Vpt (KS ?_))))))))
     refine Kt (KS ?_)
     refine Oq Vm (Oq Qbd (Oq Va (KS ?_)))
     exact Kg (r495, (Qhb + 1)) [0] ⟨(q3 hM497 (by simp only [QbH, h1, h22, h25, h28, h31, h199, h325, h407, h421, h493, h502, h508, hg419, hg491, hg506, cs4])), aM1, iv1⟩
    intro h508
    refine Oq Vm (Oq Vm (Oq Vm (Oq Qbd (Oq (Vix un9 (l := text)) ?_))))
    have hb511 := u8b (text.b.getD ((i_9 + Qhb) : Int).toNat 0)
    refine QaO (Qd1 ((text.b.getD ((i_9 + Qhb) : Int).toNat 0).toNat : Int)) fun rv512 hg513 => ?_
    have hc514 := QoK (((text.b.getD ((i_9 + Qhb) : Int).toNat 0).toNat : Int)) pre rv512 hg513
    refine Oc [] Qo0 hc514 ?_
    rintro - -
    refine Oq Vpf (Oq Vpt (KS ?_))
    refine Kc ?_ ?_
    ·intro h515
     refine KS ?_
     refine Oq Vm (Oq Qbd (Oq Va (KS ?_)))
     exact Kg (r495, (Qhb + 1)) [0] ⟨(q3 hM497 (by simp only [QbH, h1, h22, h25, h28, h31, h199, h325, h407, h421, h493, h502, h508, h515, hg419, hg491, hg506, hg513, cs4])), aM1, iv1⟩
    intro h515
    refine Ke ?_
    have hR518 := q2 hM497 (.brk Qhb) (by simp only [QbH, h1, h22, h25, h28, h31, h199, h325, h407, h421, h493, h502, h508, h515, hg419, hg491, hg506, hg513, cs4])
    refine KS ?_
    refine Oq Vm ?_
    have hc519 := QoK (((text.b.getD i_9.toNat 0).toNat : Int)) pre rv490 hg491
    refine Oc [] Qo0 hc519 ?_
    rintro - -
    refine KS ?_
    refine Kc ?_ ?_
    ·intro h520
     refine KS ?_
     refine Oq Vm (Oq Vm (Oq Va (Oq Va (Oq Va (Oq Va (KS ?_))))))
     refine Jl [] (Ent.slNil (α := QaN)) ?_
     have hR522 := q2 hM12 (.ret ([], Qau, Qba, 4)) (by simp only [Qak, h1, h22, h25, h28, h31, h199, h325, h407, h421, h493, h502, h508, h515, h520, hg419, hg491, hg506, hg513, hR518, cs4])
     have hq := q4 hrr ([], Qau, Qba, 4) (by simp only [Qfd, h1, h22, h25, h28, h31, h199, h325, h407, h421, h493, h502, h508, h515, h520, hg419, hg491, hg506, hg513, hR518, hR522, cs4]); subst hq
     exact Kr (.slice none 0 0) rfl (.tmp rfl (.tmp rfl (.tmp rfl (.tmp rfl .nil)))) [0] en
    intro h520
    exact absurd h520 (by first | (simp [h493]; done) | (simp only [bne, h493]; decide) | (simp only [bne, h493, Bool.not_true, Bool.not_false]; decide) | (exfalso; omega) | (intro hq; simp only [bne, hq, Bool.not_false, Bool.not_true, reduceCtorEq] at h493))
   intro h502
   have g523 := df h502
   refine Osk (Osk (Osk (Osk (Osk (Osk (Osk (Osk (Osk (Osk ?_)))))))))
   refine Osk (Osk (Osk (Osk (Oq Vpf (KS ?_)))))
   refine Kf ?_
   refine Ke ?_
   have hR524 := q2 hM497 (.brk Qhb) (by simp only [QbH, h1, h22, h25, h28, h31, h199, h325, h407, h421, h493, h502, hg419, hg491, cs4])
   refine KS ?_
   refine Oq Vm ?_
   have hc525 := QoK (((text.b.getD i_9.toNat 0).toNat : Int)) pre rv490 hg491
   refine Oc [] Qo0 hc525 ?_
   rintro - -
   refine KS ?_
   refine Kc ?_ ?_
   ·intro h526
    refine KS ?_
    refine Oq Vm (Oq Vm (Oq Va (Oq Va (Oq Va (Oq Va (KS ?_))))))
    refine Jl [] (Ent.slNil (α := QaN)) ?_
    have hR528 := q2 hM12 (.ret ([], Qau, Qba, 4)) (by simp only [Qak, h1, h22, h25, h28, h31, h199, h325, h407, h421, h493, h502, h526, hg419, hg491, hR524, cs4])
    have hq := q4 hrr ([], Qau, Qba, 4) (by simp only [Qfd, h1, h22, h25, h28, h31, h199, h325, h407, h421, h493, h502, h526, hg419, hg491, hR524, hR528, cs4]); subst hq
    exact Kr (.slice none 0 0) rfl (.tmp rfl (.tmp rfl (.tmp rfl (.tmp rfl .nil)))) [0] en
   intro h526
   exact absurd h526 (by first | (simp [h493]; done) | (simp only [bne, h493]; decide) | (simp only [bne, h493, Bool.not_true, Bool.not_false]; decide) | (exfalso; omega) | (intro hq; simp only [bne, hq, Bool.not_false, Bool.not_true, reduceCtorEq] at h493))
  intro h493
  refine KS ?_
  refine Oq Vm (Oq Vm (Oq Va (Oq Va (Oq Va (Oq Va (KS ?_))))))
  refine Jl [] (Ent.slNil (α := QaN)) ?_
  have hR530 := q2 hM12 (.ret ([], Qau, Qba, 4)) (by simp only [Qak, h1, h22, h25, h28, h31, h199, h325, h407, h421, h493, hg419, hg491, cs4])
  have hq := q4 hrr ([], Qau, Qba, 4) (by simp only [Qfd, h1, h22, h25, h28, h31, h199, h325, h407, h421, h493, hg419, hg491, hR530, cs4]); subst hq
  exact Kr (.slice none 0 0) rfl (.tmp rfl (.tmp rfl (.tmp rfl (.tmp rfl .nil)))) [0] en
 intro h22
 have g531 := df h22
 refine Ke ?_
 have hR532 := q2 hM12 (.brk (Qbq, Qau, Qba, open__8)) (by simp only [Qak, h1, h22, cs4])
 refine KS ?_
 refine Oq Vm (KS ?_)
 refine Kc ?_ ?_
 ·intro h533
  refine KS ?_
  refine Oq Vm (Oq Vm (Oq Vm (Oq (Vbd QpW [vi 3, .string (bs (Str.mk [])), vi Qau, vi Qba]) (Oa (AsV QeR QlV [.agg #[vi 3, .string (bs (Str.mk [])), vi Qau, vi Qba]] [vi 3, .string (bs (Str.mk [])), vi Qau, vi Qba]) fun c535 => ?_))))
  refine Jo 0 ?_; rintro a536 k537 rfl
  refine Jl [0] (Ent.cr1 (α := QaN) (A := []) _ (QaN.mk 3 (Str.mk []) Qau Qba) _ aB1 (fun h => ⟨rfl, aL1, aS1, aL1, aL1⟩)) ?_
  refine Oa (ApO [1, 0] QeR QeR QlV) fun c538 => ?_
  refine Jo 0 ?_; rintro a539 k540 rfl
  refine Fb 40 0 fun _ => ?_
  have hn542 := la Qbq ([(QaN.mk 3 (Str.mk []) Qau Qba)] : List QaN)
  refine Oq Va (KS ?_)
  refine Oq Vm (Oq Va (Oq Va (Oq Va (Oq Va (KS ?_)))))
  refine Jl [0] (Ent.freeze _ _) ?_
  have hq := q4 hrr ((Qbq ++ [(QaN.mk 3 (Str.mk []) Qau Qba)]), 0, 0, 0) (by simp only [Qfd, h1, h22, h533, hR532, cs4]); subst hq
  exact Kr (vl a539 k540 (Qbq ++ [(QaN.mk 3 (Str.mk []) Qau Qba)])) rfl (.tmp rfl (.tmp rfl (.tmp rfl (.tmp rfl .nil)))) [0] en
 intro h533
 refine KS ?_
 refine Oq Vm (Oq Va (Oq Va (Oq Va (Oq Va (KS ?_)))))
 refine Jl [0] (Ent.freeze _ _) ?_
 have hq := q4 hrr (Qbq, 0, 0, 0) (by simp only [Qfd, h1, h22, h533, hR532, cs4]); subst hq
 exact Kr (vl a10 k11 Qbq) rfl (.tmp rfl (.tmp rfl (.tmp rfl (.tmp rfl .nil)))) [0] en
theorem Qpl (pP : Value) (p : Qab) (pa0 : Option Addr) (pk0 : Nat) (word : Str) (QiC : Qac p.at_) (QiD : Qac p.Err) (QtM : word.b.length <= 140737488355328) (hpa : (0 <= p.at_ /\ p.at_ <= (p.l.length : Int))) (rr : Bool) (hrr : QeE p word = rr) : FT Tryd.prog 37 #[pP, .string (bs word)] [Cl pP [vl pa0 pk0 p.l, vi p.at_, vi p.Err], S pa0 pk0 p.l] (fun g : Unit => True) (fun g => vb rr) (fun g => [Cl pP [vl pa0 pk0 p.l, vi p.at_, vi p.Err]]) := by
 refine FTi Tryd.func37 fun w0 M0 F0 => ?_
 unfold Qac at QiC QiD
 refine Fb 40 1 fun _ => KS ?_
 refine Oq Va (KS ?_)
 refine Jp 0 fun hp2 => ?_
 refine QbI (p.Err == 0) ?_ ?_
 ·intro h3
  have g4 := eq_of_beq h3
  refine QbI (decide (p.at_ < (p.l.length : Int))) ?_ ?_
  ·intro h5
   have g6 := dt h5
   refine QbZ p.at_.toNat 2 rfl rng fun hb7 hb8 hb9 hb10 => ?_
   unfold Qac at hb7 hb9 hb10
   refine Kq [0, 1, 3, 7, 15, 31, 63, 127, 255, 511, 63, 1087, 3135, 7231, 15423, 32767, 65535, 131071, 262143, 524287, 1048575, 2097151, 262143, 4456447, 12845055, 29622271, 67108863, 134217727, 268435455, 536870911, 1073741823, 2147483647, 4294967295, 8589934591, 17179869183, 34359738367, 4294967295, 73014444031, 210453397503, 485331304447, 1099511627775, 2199023255551, 4398046511103, 4294967295, 17592186044415, 35184372088831, 70368744177663] Qc8 ?_
   refine Qv [] Vm (Qv [1] (Vn 0) (Qv [1] (Vfa Qcx 0) (Qv [2] (QaQ Qgn 0) (Qb h3 [] Qby (Qv [] Vm (Qv [] Vm (Qv [1] (Vn 0) (Qv [1] (Vfa QbR 0) (Qv [2] (QaQ sh3 0) ?_)))))))))
   refine Qv [] Vm (Qv [1] (Vn 0) (Qv [1] (Vfa Qgy 0) (Qv [2] (QaQ Ql6 0) (Qv [] (QcE QeR) (Qb h5 [] Qcu (Qv [] Vpt (Qv [] Vm (Qv [] Vm (Qv [1] (Vn 0) ?_)))))))))
   refine Qv [1] (Vfa Qgy 0) (Qv [2] (QaQ Ql6 0) (Qv [] Vm (Qv [1] (Vn 0) (Qv [1] (Vfa QbR 0) (Qv [2] (QaQ sh3 0) (Qv [3] (Vi QeR 0) (Qv [0] (Vfa Qnv 0) (Qv [0] (QaQ sh3 0) (Qv [] Qby ?_)))))))))
   refine Qv [] Vpt ?_
   refine QbI ((p.l.getD p.at_.toNat default).Kind == 1) ?_ ?_
   ·intro h11
    have g12 := eq_of_beq h11
    refine Qb h11 [] Vm (Qv [] Vm (Qv [1] (Vn 0) (Qv [1] (Vfa Qgy 0) (Qv [2] (QaQ Ql6 0) (Qv [] Vm (Qv [1] (Vn 0) (Qv [1] (Vfa QbR 0) (Qv [2] (QaQ sh3 0) (Qv [3] (Vi QeR 0) ?_)))))))))
    refine Qv [0] (Vfa Qly 0) (Qv [0] (QaQ sh9 0) (Qv [] Vm (Qv [] (Qhj (l := (p.l.getD p.at_.toNat default).Text) (m := word)) (Qv [] Vpt (Qv [] Va ?_)))))
    refine Qn ⟨by kernel_rfl, ?_⟩
    have hq := q4 hrr ((p.l.getD p.at_.toNat default).Text == word) (by simp only [QeE, h3, h5, h11, cs4]); subst hq
    exact Kr () rfl (.tmp rfl .nil) [2] trivial
   intro h11
   have g13 := ne_of_beq_false h11
   refine Qb h11 [] Vm (Qs (Qs (Qs (Qs (Qs (Qs (Qs (Qs (Qs ?_)))))))))
   refine Qs (Qs (Qs (Qs (Qv [] Vpf (Qv [] Va ?_)))))
   refine Qn ⟨by kernel_rfl, ?_⟩
   have hq := q4 hrr false (by simp only [QeE, h3, h5, h11, cs4]); subst hq
   exact Kr () rfl (.tmp rfl .nil) [2] trivial
  intro h5
  have g14 := df h5
  refine Kq [0, 1, 3, 7, 15, 31, 63, 127, 255, 511, 63, 1087, 3135, 7231, 15423, 32767, 65535, 131071, 262143, 524287, 1048575, 2097151, 262143, 4456447, 12845055, 29622271, 67108863, 134217727, 268435455, 536870911, 1073741823, 2147483647, 4294967295, 8589934591, 17179869183, 34359738367, 4294967295, 73014444031, 210453397503, 485331304447, 1099511627775, 2199023255551, 4398046511103, 4294967295, 17592186044415, 35184372088831, 70368744177663] Qc8 ?_
  refine Qv [] Vm (Qv [0] (Vn 0) (Qv [0] (Vfa Qcx 0) (Qv [1] (QaQ Qgn 0) (Qb h3 [] Qby (Qv [] Vm (Qv [] Vm (Qv [0] (Vn 0) (Qv [0] (Vfa QbR 0) (Qv [1] (QaQ sh3 0) ?_)))))))))
  refine Qv [] Vm (Qv [0] (Vn 0) (Qv [0] (Vfa Qgy 0) (Qv [1] (QaQ Ql6 0) (Qv [] (QcE QeR) (Qb h5 [] Qcu (Qv [] Vpt (Qv [] Vm (Qs (Qs ?_)))))))))
  refine Qs (Qs (Qs (Qs (Qs (Qs (Qs (Qs (Qs (Qs ?_)))))))))
  refine Qv [] Vpf (Qv [] Vm (Qs (Qs (Qs (Qs (Qs (Qs (Qs (Qs ?_)))))))))
  refine Qs (Qs (Qs (Qs (Qs (Qv [] Vpf (Qv [] Va ?_))))))
  refine Qn ⟨by kernel_rfl, ?_⟩
  have hq := q4 hrr false (by simp only [QeE, h3, h5, cs4]); subst hq
  exact Kr () rfl (.tmp rfl .nil) [1] trivial
 intro h3
 have g15 := ne_of_beq_false h3
 refine Kq [0, 1, 3, 7, 15, 31, 63, 127, 255, 511, 63, 1087, 3135, 7231, 15423, 32767, 65535, 131071, 262143, 524287, 1048575, 2097151, 262143, 4456447, 12845055, 29622271, 67108863, 134217727, 268435455, 536870911, 1073741823, 2147483647, 4294967295, 8589934591, 17179869183, 34359738367, 4294967295, 73014444031, 210453397503, 485331304447, 1099511627775, 2199023255551, 4398046511103, 4294967295, 17592186044415, 35184372088831, 70368744177663] Qc8 ?_
 refine Qv [] Vm (Qv [0] (Vn 0) (Qv [0] (Vfa Qcx 0) (Qv [1] (QaQ Qgn 0) (Qb h3 [] Qby (Qv [] Vm (Qs (Qs (Qs (Qs ?_)))))))))
 refine Qs (Qs (Qs (Qs (Qs (Qs (Qv [] Vpf (Qv [] Vm (Qs (Qs ?_)))))))))
 refine Qs (Qs (Qs (Qs (Qs (Qs (Qs (Qs (Qs (Qs ?_)))))))))
 refine Qv [] Vpf (Qv [] Vm (Qs (Qs (Qs (Qs (Qs (Qs (Qs (Qs ?_)))))))))
 refine Qs (Qs (Qs (Qs (Qs (Qv [] Vpf (Qv [] Va ?_))))))
 refine Qn ⟨by kernel_rfl, ?_⟩
 have hq := q4 hrr false (by simp only [QeE, h3, cs4]); subst hq
 exact Kr () rfl (.tmp rfl .nil) [1] trivial
theorem QjU (pP : Value) (p : Qab) (pa0 : Option Addr) (pk0 : Nat) (e : Int) (QiC : Qac p.at_) (QiD : Qac p.Err) (Qwq : Qac e) (hpa : (0 <= p.at_ /\ p.at_ <= (p.l.length : Int))) (rr : Qab) (hrr : QbO p e = rr) : FT Tryd.prog 38 #[pP, vi e] [Cl pP [vl pa0 pk0 p.l, vi p.at_, vi p.Err], S pa0 pk0 p.l] (fun g : Unit => Qac rr.at_ /\ Qac rr.Err /\ (0 <= rr.at_ /\ rr.at_ <= (p.l.length : Int))) (fun g => .tuple #[]) (fun g => [Cl pP [vl pa0 pk0 p.l, vi rr.at_, vi rr.Err]]) := by
 refine FTi Tryd.func38 fun w0 M0 F0 => ?_
 unfold Qac at QiC QiD Qwq
 refine Fb 40 1 fun _ => KS ?_
 refine Oq Vm (Oq (Vn 0) (Oq (Vfa Qcx 0) (Oq (QaQ Qgn 0) (Oq Qby (KS ?_)))))
 refine Kc ?_ ?_
 ·intro h2
  have g3 := eq_of_beq h2
  refine KS ?_
  refine Oq Vm (Oq Vm (Oq (Vn 0) (Oq (Vfa Qcx 0) (Ost (Qfk [0] Qgn [vl pa0 pk0 p.l, vi p.at_, vi e]) (KS ?_)))))
  have hq := q4 hrr (Qab.mk p.l p.at_ e) (by simp only [QbO, h2, cs4]); subst hq
  exact Kz () rfl .nil [0] en
 intro h2
 have g4 := ne_of_beq_false h2
 refine KS ?_
 have hq := q4 hrr p (by simp only [QbO, h2, cs4]); subst hq
 exact Kz () rfl .nil [0] en
theorem Qsy (pP : Value) (p : Qab) (pa0 : Option Addr) (pk0 : Nat) (w : Str) (QiC : Qac p.at_) (QiD : Qac p.Err) (Qwx : w.b.length <= 140737488355328) (hpa : (0 <= p.at_ /\ p.at_ <= (p.l.length : Int))) (rr : Qab) (hrr : Qdm p w = rr) : FT Tryd.prog 62 #[pP, .string (bs w)] [Cl pP [vl pa0 pk0 p.l, vi p.at_, vi p.Err], S pa0 pk0 p.l] (fun g : Unit => Qac rr.at_ /\ Qac rr.Err /\ (0 <= rr.at_ /\ rr.at_ <= (p.l.length : Int))) (fun g => .tuple #[]) (fun g => [Cl pP [vl pa0 pk0 p.l, vi rr.at_, vi rr.Err]]) := by
 refine FTi Tryd.func62 fun w0 M0 F0 => ?_
 unfold Qac at QiC QiD
 refine Fb 40 1 fun _ => KS ?_
 refine Oq Vm (Oq Vm ?_)
 refine QaO (QeE p w) fun rv2 hg3 => ?_
 have hc4 := Qpl pP p pa0 pk0 w pre pre pre pre rv2 hg3
 refine Oc [0, 0] Qpb hc4 ?_
 rintro - -
 refine Oq QeP (KS ?_)
 refine Kc ?_ ?_
 ·intro h5
  have h7 := not_true h5
  refine KS ?_
  refine Oq Vm ?_
  refine QaO (QbO p 4) fun rv9 hg10 => ?_
  have hc11 := QjU pP p pa0 pk0 4 pre pre pre pre rv9 hg10
  refine Oc [0, 0] QjL hc11 ?_
  rintro - ⟨he12, he13, he14⟩
  unfold Qac at he12 he13
  refine KS ?_
  have hq := q4 hrr (Qab.mk p.l rv9.at_ rv9.Err) (by simp only [Qdm, h5, h7, hg3, hg10, cs4]); subst hq
  exact Kr () rfl .nil [0] en
 intro h5
 have h16 := not_false h5
 try (have hlt := QjP (by assumption : QeE _ _ = rv2) h16; try dsimp only at hlt)
 try (have hlt := QfT (by assumption : QbG _ = rv2) h16; try dsimp only at hlt)
 try (have hlt := QfV (by assumption : Qcn _ _ = rv2) h16; try dsimp only at hlt)
 refine KS ?_
 refine Oq Vm (Oq (Vn 0) (Oq (Vfa QbR 0) (Oq (QaQ sh3 0) (Oq Qbd (Oq (Vn 0) (Oq (Vfa QbR 0) (Ost (Qfk [0] sh3 [vl pa0 pk0 p.l, vi (p.at_ + 1), vi p.Err]) (KS ?_))))))))
 have hq := q4 hrr (Qab.mk p.l (p.at_ + 1) p.Err) (by simp only [Qdm, h5, h16, hg3, cs4]); subst hq
 exact Kz () rfl .nil [0] en
theorem Qvc  (rr : List Str) (hrr : Qco = rr) : FT Tryd.prog 91 #[] [] (fun g : Value => True) (fun g => g) (fun g => [sl g rr]) := by
 refine FTi Tryd.func91 fun w0 M0 F0 => ?_
 refine KS ?_
 refine Oq Va (KS ?_)
 refine Oa (AsV Qcy Qe3 [.string (bs (Str.mk [102, 117, 110, 99])), .string (bs (Str.mk [98, 108, 111, 99, 107])), .string (bs (Str.mk [101, 110, 100])), .string (bs (Str.mk [117, 115, 101])), .string (bs (Str.mk [99, 97, 108, 108])), .string (bs (Str.mk [115, 111, 117, 114, 99, 101])), .string (bs (Str.mk [115, 105, 110, 107])), .string (bs (Str.mk [115, 97, 110, 105, 116, 105, 122, 101])), .string (bs (Str.mk [103, 111, 116, 111])), .string (bs (Str.mk [98, 114, 97, 110, 99, 104])), .string (bs (Str.mk [114, 101, 116, 117, 114, 110]))] [.string (bs (Str.mk [102, 117, 110, 99])), .string (bs (Str.mk [98, 108, 111, 99, 107])), .string (bs (Str.mk [101, 110, 100])), .string (bs (Str.mk [117, 115, 101])), .string (bs (Str.mk [99, 97, 108, 108])), .string (bs (Str.mk [115, 111, 117, 114, 99, 101])), .string (bs (Str.mk [115, 105, 110, 107])), .string (bs (Str.mk [115, 97, 110, 105, 116, 105, 122, 101])), .string (bs (Str.mk [103, 111, 116, 111])), .string (bs (Str.mk [98, 114, 97, 110, 99, 104])), .string (bs (Str.mk [114, 101, 116, 117, 114, 110]))]) fun c1 => ?_
 refine Jo 0 ?_; rintro a2 k3 rfl
 refine Oq Va (KS ?_)
 refine Jl [0] (Ent.crOs (α := Str) (A := []) _ ([(Str.mk [102, 117, 110, 99]), (Str.mk [98, 108, 111, 99, 107]), (Str.mk [101, 110, 100]), (Str.mk [117, 115, 101]), (Str.mk [99, 97, 108, 108]), (Str.mk [115, 111, 117, 114, 99, 101]), (Str.mk [115, 105, 110, 107]), (Str.mk [115, 97, 110, 105, 116, 105, 122, 101]), (Str.mk [103, 111, 116, 111]), (Str.mk [98, 114, 97, 110, 99, 104]), (Str.mk [114, 101, 116, 117, 114, 110])] : List Str) _ aB1 (fun h => ⟨[.string (bs (Str.mk [102, 117, 110, 99]))], [.string (bs (Str.mk [98, 108, 111, 99, 107])), .string (bs (Str.mk [101, 110, 100])), .string (bs (Str.mk [117, 115, 101])), .string (bs (Str.mk [99, 97, 108, 108])), .string (bs (Str.mk [115, 111, 117, 114, 99, 101])), .string (bs (Str.mk [115, 105, 110, 107])), .string (bs (Str.mk [115, 97, 110, 105, 116, 105, 122, 101])), .string (bs (Str.mk [103, 111, 116, 111])), .string (bs (Str.mk [98, 114, 97, 110, 99, 104])), .string (bs (Str.mk [114, 101, 116, 117, 114, 110]))], rfl, (fun _ => ⟨rfl, by first | omega | (simp; done) | (dsimp only; omega) | exact Qcf rfl⟩) h, ⟨[.string (bs (Str.mk [98, 108, 111, 99, 107]))], [.string (bs (Str.mk [101, 110, 100])), .string (bs (Str.mk [117, 115, 101])), .string (bs (Str.mk [99, 97, 108, 108])), .string (bs (Str.mk [115, 111, 117, 114, 99, 101])), .string (bs (Str.mk [115, 105, 110, 107])), .string (bs (Str.mk [115, 97, 110, 105, 116, 105, 122, 101])), .string (bs (Str.mk [103, 111, 116, 111])), .string (bs (Str.mk [98, 114, 97, 110, 99, 104])), .string (bs (Str.mk [114, 101, 116, 117, 114, 110]))], rfl, (fun _ => ⟨rfl, by first | omega | (simp; done) | (dsimp only; omega) | exact Qcf rfl⟩) h, ⟨[.string (bs (Str.mk [101, 110, 100]))], [.string (bs (Str.mk [117, 115, 101])), .string (bs (Str.mk [99, 97, 108, 108])), .string (bs (Str.mk [115, 111, 117, 114, 99, 101])), .string (bs (Str.mk [115, 105, 110, 107])), .string (bs (Str.mk [115, 97, 110, 105, 116, 105, 122, 101])), .string (bs (Str.mk [103, 111, 116, 111])), .string (bs (Str.mk [98, 114, 97, 110, 99, 104])), .string (bs (Str.mk [114, 101, 116, 117, 114, 110]))], rfl, (fun _ => ⟨rfl, by first | omega | (simp; done) | (dsimp only; omega) | exact Qcf rfl⟩) h, ⟨[.string (bs (Str.mk [117, 115, 101]))], [.string (bs (Str.mk [99, 97, 108, 108])), .string (bs (Str.mk [115, 111, 117, 114, 99, 101])), .string (bs (Str.mk [115, 105, 110, 107])), .string (bs (Str.mk [115, 97, 110, 105, 116, 105, 122, 101])), .string (bs (Str.mk [103, 111, 116, 111])), .string (bs (Str.mk [98, 114, 97, 110, 99, 104])), .string (bs (Str.mk [114, 101, 116, 117, 114, 110]))], rfl, (fun _ => ⟨rfl, by first | omega | (simp; done) | (dsimp only; omega) | exact Qcf rfl⟩) h, ⟨[.string (bs (Str.mk [99, 97, 108, 108]))], [.string (bs (Str.mk [115, 111, 117, 114, 99, 101])), .string (bs (Str.mk [115, 105, 110, 107])), .string (bs (Str.mk [115, 97, 110, 105, 116, 105, 122, 101])), .string (bs (Str.mk [103, 111, 116, 111])), .string (bs (Str.mk [98, 114, 97, 110, 99, 104])), .string (bs (Str.mk [114, 101, 116, 117, 114, 110]))], rfl, (fun _ => ⟨rfl, by first | omega | (simp; done) | (dsimp only; omega) | exact Qcf rfl⟩) h, ⟨[.string (bs (Str.mk [115, 111, 117, 114, 99, 101]))], [.string (bs (Str.mk [115, 105, 110, 107])), .string (bs (Str.mk [115, 97, 110, 105, 116, 105, 122, 101])), .string (bs (Str.mk [103, 111, 116, 111])), .string (bs (Str.mk [98, 114, 97, 110, 99, 104])), .string (bs (Str.mk [114, 101, 116, 117, 114, 110]))], rfl, (fun _ => ⟨rfl, by first | omega | (simp; done) | (dsimp only; omega) | exact Qcf rfl⟩) h, ⟨[.string (bs (Str.mk [115, 105, 110, 107]))], [.string (bs (Str.mk [115, 97, 110, 105, 116, 105, 122, 101])), .string (bs (Str.mk [103, 111, 116, 111])), .string (bs (Str.mk [98, 114, 97, 110, 99, 104])), .string (bs (Str.mk [114, 101, 116, 117, 114, 110]))], rfl, (fun _ => ⟨rfl, by first | omega | (simp; done) | (dsimp only; omega) | exact Qcf rfl⟩) h, ⟨[.string (bs (Str.mk [115, 97, 110, 105, 116, 105, 122, 101]))], [.string (bs (Str.mk [103, 111, 116, 111])), .string (bs (Str.mk [98, 114, 97, 110, 99, 104])), .string (bs (Str.mk [114, 101, 116, 117, 114, 110]))], rfl, (fun _ => ⟨rfl, by first | omega | (simp; done) | (dsimp only; omega) | exact Qcf rfl⟩) h, ⟨[.string (bs (Str.mk [103, 111, 116, 111]))], [.string (bs (Str.mk [98, 114, 97, 110, 99, 104])), .string (bs (Str.mk [114, 101, 116, 117, 114, 110]))], rfl, (fun _ => ⟨rfl, by first | omega | (simp; done) | (dsimp only; omega) | exact Qcf rfl⟩) h, ⟨[.string (bs (Str.mk [98, 114, 97, 110, 99, 104]))], [.string (bs (Str.mk [114, 101, 116, 117, 114, 110]))], rfl, (fun _ => ⟨rfl, by first | omega | (simp; done) | (dsimp only; omega) | exact Qcf rfl⟩) h, ⟨[.string (bs (Str.mk [114, 101, 116, 117, 114, 110]))], [], rfl, (fun _ => ⟨rfl, by first | omega | (simp; done) | (dsimp only; omega) | exact Qcf rfl⟩) h, rfl⟩⟩⟩⟩⟩⟩⟩⟩⟩⟩⟩)) ?_
 refine Jl [0] (Ent.freeze _ _) ?_
 have hq := q4 hrr [(Str.mk [102, 117, 110, 99]), (Str.mk [98, 108, 111, 99, 107]), (Str.mk [101, 110, 100]), (Str.mk [117, 115, 101]), (Str.mk [99, 97, 108, 108]), (Str.mk [115, 111, 117, 114, 99, 101]), (Str.mk [115, 105, 110, 107]), (Str.mk [115, 97, 110, 105, 116, 105, 122, 101]), (Str.mk [103, 111, 116, 111]), (Str.mk [98, 114, 97, 110, 99, 104]), (Str.mk [114, 101, 116, 117, 114, 110])] (by simp only [Qco, cs4]); subst hq
 exact Kr (.slice a2 11 k3) rfl (.tmp rfl .nil) [0] trivial
theorem QqZ (s : Str) (Qkw : s.b.length <= 140737488355328) (rr : Bool) (hrr : Qbc s = rr) : FT Tryd.prog 56 #[.string (bs s)] [] (fun g : Unit => True) (fun g => vb rr) (fun g => []) := by
 refine FTi Tryd.func56 fun w0 M0 F0 => ?_
 refine KS ?_
 refine Oq Va (KS ?_)
 refine Oq Vm (Oq (VlS un9 (l := s)) (Oq Qby (Oq Vm ?_)))
 refine Js 9 ?_ ?_
 ·intro h1
  have g2 := eq_of_beq h1
  refine Osk (Osk (Osk (Oq Vpt (Oq Vm (Osk (Osk (Osk (Osk (Oq Vpt ?_)))))))))
  refine Oq Vm (Osk (Osk (Osk (Oq Vpt (KS ?_)))))
  refine Kt (KS ?_)
  refine Oq Va (KS ?_)
  have hq := q4 hrr false (by simp only [Qbc, h1, cs4]); subst hq
  exact Kr () rfl (.tmp rfl .nil) [] trivial
 intro h1
 have g3 := ne_of_beq_false h1
 refine Oq Vm (Oq (VlS un9 (l := s)) (Oq QhM (Oq Vpf (Oq Vm ?_))))
 refine Js 14 ?_ ?_
 ·intro h4
  have g5 := dt h4
  refine Osk (Osk (Osk (Osk (Oq Vpt (Oq Vm (Osk (Osk (Osk (Oq Vpt ?_)))))))))
  refine KS ?_
  refine Kt (KS ?_)
  refine Oq Va (KS ?_)
  have hq := q4 hrr false (by simp only [Qbc, h1, h4, cs4]); subst hq
  exact Kr () rfl (.tmp rfl .nil) [] trivial
 intro h4
 have g6 := df h4
 refine Oq Vm (Oq (Vix un9 (l := s)) ?_)
 have hb7 := u8b (s.b.getD (0 : Int).toNat 0)
 refine QaO (QbQ ((s.b.getD (0 : Int).toNat 0).toNat : Int)) fun rv8 hg9 => ?_
 have hc10 := Qrk (((s.b.getD (0 : Int).toNat 0).toNat : Int)) pre rv8 hg9
 refine Oc [] QrA hc10 ?_
 rintro - -
 refine Oq QeP (Oq Vpf (Oq Vm ?_))
 refine Js 20 ?_ ?_
 ·intro h11
  have h13 := not_true h11
  refine Osk (Osk (Osk (Oq Vpt (KS ?_))))
  refine Kt (KS ?_)
  refine Oq Va (KS ?_)
  have hq := q4 hrr false (by simp only [Qbc, h1, h4, h11, h13, hg9, cs4]); subst hq
  exact Kr () rfl (.tmp rfl .nil) [] trivial
 intro h11
 have h16 := not_false h11
 refine Oq Vm (Oq (Vix un9 (l := s)) ?_)
 have hb18 := u8b (s.b.getD (0 : Int).toNat 0)
 refine Oq Qby (Oq Vpf (KS ?_))
 refine Kc ?_ ?_
 ·intro h19
  have g20 := eq_of_beq h19
  refine KS ?_
  refine Oq Va (KS ?_)
  have hq := q4 hrr false (by simp only [Qbc, h1, h4, h11, h16, h19, hg9, cs4]); subst hq
  exact Kr () rfl (.tmp rfl .nil) [] trivial
 intro h19
 have g21 := ne_of_beq_false h19
 refine KS ?_
 refine Oq Va (KS ?_)
 refine Kl (γ := Nat × Int) (fun (r22, Qk6) => ⟨[(0, .string (bs s)), (3, vi Qk6)], [], QcG s r22 Qk6 = QcG s (((s.b.length : Int) - 0).toNat) 0 /\ r22 = ((s.b.length : Int) - Qk6).toNat /\ (0 : Int) <= Qk6 /\ Qk6 <= (s.b.length : Int) /\ (-9223372036854775808 <= Qk6 /\ Qk6 <= 9223372036854775807), r22⟩) (((s.b.length : Int) - 0).toNat, 0) [] ⟨rfl, rfl, aM1, aM1, aM1⟩ ?_
 rintro ⟨r22, Qk6⟩ ⟨hM24, hr25, hi26, hi27, hk28⟩
 refine QbB fun _ _ hL hA => ?_; dsimp only at hL hA; subst hL hA
 refine KS ?_
 refine Oq Vm (Oq Vm (Oq (VlS un9 (l := s)) (Oq Qcu (KS ?_))))
 refine Kc ?_ ?_
 ·intro h29
  have g30 := dt h29
  obtain ⟨r31, rfl⟩ := scc (n := r22) aM1
  refine KS ?_
  refine Oq Vm (Oq Vm (Oq (Vix un9 (l := s)) ?_))
  have hb32 := u8b (s.b.getD Qk6.toNat 0)
  refine QaO (QbQ ((s.b.getD Qk6.toNat 0).toNat : Int)) fun rv33 hg34 => ?_
  have hc35 := Qrk (((s.b.getD Qk6.toNat 0).toNat : Int)) pre rv33 hg34
  refine Oc [] QrA hc35 ?_
  rintro - -
  refine Oq QeP (Oq Vm ?_)
  refine Js 36 ?_ ?_
  ·intro h36
   have h38 := not_true h36
   refine Oq Vm (Oq Vm (Oq (Vix un9 (l := s)) ?_))
   have hb40 := u8b (s.b.getD Qk6.toNat 0)
   refine QaO (Qd1 ((s.b.getD Qk6.toNat 0).toNat : Int)) fun rv41 hg42 => ?_
   have hc43 := QoK (((s.b.getD Qk6.toNat 0).toNat : Int)) pre rv41 hg42
   refine Oc [] Qo0 hc43 ?_
   rintro - -
   refine Oq QeP (Oq Vpt (KS ?_))
   refine Kc ?_ ?_
   ·intro h44
    have h46 := not_true h44
    refine KS ?_
    refine Oq Va (KS ?_)
    have hR48 := q2 hM24 (.ret false) (by simp only [QcG, h1, h4, h11, h16, h19, h29, h36, h38, h44, h46, hg9, hg34, hg42, cs4])
    have hq := q4 hrr false (by simp only [Qbc, h1, h4, h11, h16, h19, h29, h36, h38, h44, h46, hg9, hg34, hg42, hR48, cs4]); subst hq
    exact Kr () rfl (.tmp rfl .nil) [] trivial
   intro h44
   have h50 := not_false h44
   refine KS ?_
   refine Oq Vm (Oq Qbd (Oq Va (KS ?_)))
   exact Kg (r31, (Qk6 + 1)) [] ⟨(q3 hM24 (by simp only [QcG, h1, h4, h11, h16, h19, h29, h36, h38, h44, h50, hg9, hg34, hg42, cs4])), aM1, aM1, aM1, aM1⟩
  intro h36
  have h53 := not_false h36
  refine Osk (Osk (Osk (Osk (Osk (Oq Vpf (KS ?_))))))
  refine Kf (KS ?_)
  refine Oq Vm (Oq Qbd (Oq Va (KS ?_)))
  exact Kg (r31, (Qk6 + 1)) [] ⟨(q3 hM24 (by simp only [QcG, h1, h4, h11, h16, h19, h29, h36, h53, hg9, hg34, cs4])), aM1, aM1, aM1, aM1⟩
 intro h29
 have g55 := df h29
 obtain rfl : r22 = 0 := by omega
 refine Ke ?_
 have hR56 := q2 hM24 (.brk ()) (by simp only [QcG, h1, h4, h11, h16, h19, h29, hg9, cs4])
 refine KS ?_
 have hc58 := Qvc  Qco rfl
 refine Oc [] QuZ hc58 ?_
 rintro c57 -
 refine Jo 0 ?_; rintro a59 k60 rfl
 refine Fb 16 0 fun _ => ?_
 refine FoS 0 fun ho62 => ?_
 refine Oq Va (KS ?_)
 refine Oq Va (KS ?_)
 refine Kl (γ := Nat × Int) (fun (r63, QnA) => ⟨[(0, .string (bs s)), (4, vl a59 k60 Qco), (5, vi QnA)], [S a59 k60 Qco], Qda s r63 QnA = Qda s (((Qco.length : Int) - 0).toNat) 0 /\ r63 = ((Qco.length : Int) - QnA).toNat /\ (0 : Int) <= QnA /\ QnA <= (Qco.length : Int) /\ (-9223372036854775808 <= QnA /\ QnA <= 9223372036854775807), r63⟩) (((Qco.length : Int) - 0).toNat, 0) [0] ⟨rfl, rfl, aM1, aM1, aM1⟩ ?_
 rintro ⟨r63, QnA⟩ ⟨hM65, hr66, hi67, hi68, hk69⟩
 refine QbB fun _ _ hL hA => ?_; dsimp only at hL hA; subst hL hA
 refine Fb 16 0 fun _ => ?_
 refine FoS 0 fun ho71 => ?_
 refine KS ?_
 refine Oq Vm (Oq Vm (Oq (QcE Qcy) (Oq Qcu (KS ?_))))
 refine Kc ?_ ?_
 ·intro h72
  have g73 := dt h72
  obtain ⟨r74, rfl⟩ := scc (n := r63) aM1
  refine KS ?_
  refine Oq Vm (Oq Vm (Oq (Vi Qcy 0) ?_))
  have hb75 := okS (i := QnA.toNat) ho71 rng
  refine Oq (Qk5 sh9 0) (Oq Vm (Oq (Qhj (l := (Qco.getD QnA.toNat default)) (m := s)) (KS ?_)))
  refine Kc ?_ ?_
  ·intro h76
   have g77 := eq_of_beq h76
   refine KS ?_
   refine Oq Va (KS ?_)
   have hR78 := q2 hM65 (.ret false) (by simp only [Qda, h1, h4, h11, h16, h19, h29, h72, h76, hg9, hR56, cs4])
   have hq := q4 hrr false (by simp only [Qbc, h1, h4, h11, h16, h19, h29, h72, h76, hg9, hR56, hR78, cs4]); subst hq
   exact Kr () rfl (.tmp rfl .nil) [] trivial
  intro h76
  have g79 := ne_of_beq_false h76
  refine KS ?_
  refine Oq Vm (Oq Qbd (Oq Va (KS ?_)))
  exact Kg (r74, (QnA + 1)) [0] ⟨(q3 hM65 (by simp only [Qda, h1, h4, h11, h16, h19, h29, h72, h76, hg9, hR56, cs4])), aM1, aM1, aM1, aM1⟩
 intro h72
 have g80 := df h72
 obtain rfl : r63 = 0 := by omega
 refine Ke ?_
 have hR81 := q2 hM65 (.brk ()) (by simp only [Qda, h1, h4, h11, h16, h19, h29, h72, hg9, hR56, cs4])
 refine KS ?_
 refine Oq Va (KS ?_)
 have hq := q4 hrr true (by simp only [Qbc, h1, h4, h11, h16, h19, h29, h72, hg9, hR56, hR81, cs4]); subst hq
 exact Kr () rfl (.tmp rfl .nil) [] trivial
theorem Qrs (pP : Value) (p : Qab) (pa0 : Option Addr) (pk0 : Nat) (QiC : Qac p.at_) (QiD : Qac p.Err) (hpa : (0 <= p.at_ /\ p.at_ <= (p.l.length : Int))) (rr : Bool) (hrr : QbG p = rr) : FT Tryd.prog 93 #[pP] [Cl pP [vl pa0 pk0 p.l, vi p.at_, vi p.Err], S pa0 pk0 p.l] (fun g : Unit => True) (fun g => vb rr) (fun g => [Cl pP [vl pa0 pk0 p.l, vi p.at_, vi p.Err]]) := by
 refine FTi Tryd.func93 fun w0 M0 F0 => ?_
 unfold Qac at QiC QiD
 refine Fb 40 1 fun _ => KS ?_
 refine Oq Va (KS ?_)
 refine Jp 0 fun hp2 => ?_
 refine QbI (p.Err == 0) ?_ ?_
 ·intro h3
  have g4 := eq_of_beq h3
  refine QbI (decide (p.at_ < (p.l.length : Int))) ?_ ?_
  ·intro h5
   have g6 := dt h5
   refine QbZ p.at_.toNat 2 rfl rng fun hb7 hb8 hb9 hb10 => ?_
   unfold Qac at hb7 hb9 hb10
   refine Qav [0, 1, 3, 7, 15, 31, 63, 127, 255, 511, 63, 1087, 3135, 7231, 15423, 32767, 65535, 131071, 262143, 524287, 1048575, 2097151, 262143, 4456447, 12845055, 29622271, 67108863, 134217727, 268435455, 536870911, 1073741823, 2147483647, 4294967295, 8589934591, 17179869183, 34359738367, 4294967295, 73014444031, 210453397503, 485331304447, 1099511627775, 2199023255551, 4398046511103, 8796093022207, 17592186044415, 35184372088831] Qc8 ?_
   refine Dv [] Vm (Dv [1] (Vn 0) (Dv [1] (Vfa Qcx 0) (Dv [2] (QaQ Qgn 0) (Db h3 [] Qby (Dv [] Vm (Dv [] Vm (Dv [1] (Vn 0) (Dv [1] (Vfa QbR 0) (Dv [2] (QaQ sh3 0) ?_)))))))))
   refine Dv [] Vm (Dv [1] (Vn 0) (Dv [1] (Vfa Qgy 0) (Dv [2] (QaQ Ql6 0) (Dv [] (QcE QeR) (Db h5 [] Qcu (Dv [] Vpt (Dv [] Vm (Dv [] Vm (Dv [1] (Vn 0) ?_)))))))))
   refine Dv [1] (Vfa Qgy 0) (Dv [2] (QaQ Ql6 0) (Dv [] Vm (Dv [1] (Vn 0) (Dv [1] (Vfa QbR 0) (Dv [2] (QaQ sh3 0) (Dv [3] (Vi QeR 0) (Dv [0] (Vfa Qnv 0) (Dv [0] (QaQ sh3 0) (Dv [] Qby ?_)))))))))
   refine Dv [] Vpt ?_
   refine QbI ((p.l.getD p.at_.toNat default).Kind == 1) ?_ ?_
   ·intro h11
    have g12 := eq_of_beq h11
    refine Db h11 [] Vm (Dv [] Vm (Dv [1] (Vn 0) (Dv [1] (Vfa Qgy 0) (Dv [2] (QaQ Ql6 0) (Dv [] Vm (Dv [1] (Vn 0) (Dv [1] (Vfa QbR 0) (Dv [2] (QaQ sh3 0) (Dv [3] (Vi QeR 0) ?_)))))))))
    refine Dv [0] (Vfa Qly 0) (Dv [0] (QaQ sh9 0) ?_)
    refine QaO (Qbc ((p.l.getD p.at_.toNat default).Text)) fun rv13 hg14 => ?_
    refine Dx [] [] [0] (fun G => vb rv13) [fun G => SP.fact (True)] (fun G => xC [] Qr8 (QqZ ((p.l.getD p.at_.toNat default).Text) pre rv13 hg14)) (Dv [] Vpt (Dv [] Va ?_))
    refine Dn ⟨by kernel_rfl, fun G => ?_⟩
    refine Jw2 [(2, vb rv13)] [0, 1, 2, 3] [SP.fact (True)] ?_
    refine Jk [0, 2, 2] ?_
    have hq := q4 hrr rv13 (by simp only [QbG, h3, h5, h11, hg14, cs4]); subst hq
    exact Kr () rfl (.tmp rfl .nil) [1] trivial
   intro h11
   have g15 := ne_of_beq_false h11
   refine Db h11 [] Vm (Ds (Ds (Ds (Ds (Ds (Ds (Ds (Ds (Ds ?_)))))))))
   refine Ds (Ds (Ds (Dv [] Vpf (Dv [] Va ?_))))
   refine Dn ⟨by kernel_rfl, fun G => ?_⟩
   refine Jw2 [(2, vb false)] [0, 1, 2, 3] [] ?_
   refine Jk [0, 2, 2] ?_
   have hq := q4 hrr false (by simp only [QbG, h3, h5, h11, cs4]); subst hq
   exact Kr () rfl (.tmp rfl .nil) [1] trivial
  intro h5
  have g16 := df h5
  refine Kq [0, 1, 3, 7, 15, 31, 63, 127, 255, 511, 63, 1087, 3135, 7231, 15423, 32767, 65535, 131071, 262143, 524287, 1048575, 2097151, 262143, 4456447, 12845055, 29622271, 67108863, 134217727, 268435455, 536870911, 1073741823, 2147483647, 4294967295, 8589934591, 17179869183, 34359738367, 4294967295, 73014444031, 210453397503, 485331304447, 1099511627775, 2199023255551, 4398046511103, 8796093022207, 17592186044415, 35184372088831] Qc8 ?_
  refine Qv [] Vm (Qv [0] (Vn 0) (Qv [0] (Vfa Qcx 0) (Qv [1] (QaQ Qgn 0) (Qb h3 [] Qby (Qv [] Vm (Qv [] Vm (Qv [0] (Vn 0) (Qv [0] (Vfa QbR 0) (Qv [1] (QaQ sh3 0) ?_)))))))))
  refine Qv [] Vm (Qv [0] (Vn 0) (Qv [0] (Vfa Qgy 0) (Qv [1] (QaQ Ql6 0) (Qv [] (QcE QeR) (Qb h5 [] Qcu (Qv [] Vpt (Qv [] Vm (Qs (Qs ?_)))))))))
  refine Qs (Qs (Qs (Qs (Qs (Qs (Qs (Qs (Qs (Qs ?_)))))))))
  refine Qv [] Vpf (Qv [] Vm (Qs (Qs (Qs (Qs (Qs (Qs (Qs (Qs ?_)))))))))
  refine Qs (Qs (Qs (Qs (Qv [] Vpf (Qv [] Va ?_)))))
  refine Qn ⟨by kernel_rfl, ?_⟩
  have hq := q4 hrr false (by simp only [QbG, h3, h5, cs4]); subst hq
  exact Kr () rfl (.tmp rfl .nil) [1] trivial
 intro h3
 have g17 := ne_of_beq_false h3
 refine Kq [0, 1, 3, 7, 15, 31, 63, 127, 255, 511, 63, 1087, 3135, 7231, 15423, 32767, 65535, 131071, 262143, 524287, 1048575, 2097151, 262143, 4456447, 12845055, 29622271, 67108863, 134217727, 268435455, 536870911, 1073741823, 2147483647, 4294967295, 8589934591, 17179869183, 34359738367, 4294967295, 73014444031, 210453397503, 485331304447, 1099511627775, 2199023255551, 4398046511103, 8796093022207, 17592186044415, 35184372088831] Qc8 ?_
 refine Qv [] Vm (Qv [0] (Vn 0) (Qv [0] (Vfa Qcx 0) (Qv [1] (QaQ Qgn 0) (Qb h3 [] Qby (Qv [] Vm (Qs (Qs (Qs (Qs ?_)))))))))
 refine Qs (Qs (Qs (Qs (Qs (Qs (Qv [] Vpf (Qv [] Vm (Qs (Qs ?_)))))))))
 refine Qs (Qs (Qs (Qs (Qs (Qs (Qs (Qs (Qs (Qs ?_)))))))))
 refine Qv [] Vpf (Qv [] Vm (Qs (Qs (Qs (Qs (Qs (Qs (Qs (Qs ?_)))))))))
 refine Qs (Qs (Qs (Qs (Qv [] Vpf (Qv [] Va ?_)))))
 refine Qn ⟨by kernel_rfl, ?_⟩
 have hq := q4 hrr false (by simp only [QbG, h3, cs4]); subst hq
 exact Kr () rfl (.tmp rfl .nil) [1] trivial
theorem QiN (pP : Value) (p : Qab) (pa0 : Option Addr) (pk0 : Nat) (QiC : Qac p.at_) (QiD : Qac p.Err) (hpa : (0 <= p.at_ /\ p.at_ <= (p.l.length : Int))) (rr : Str × Qab) (hrr : Qbi p = rr) : FT Tryd.prog 63 #[pP] [Cl pP [vl pa0 pk0 p.l, vi p.at_, vi p.Err], S pa0 pk0 p.l] (fun g : Unit => rr.1.b.length <= 140737488355328 /\ Qac rr.2.at_ /\ Qac rr.2.Err /\ (0 <= rr.2.at_ /\ rr.2.at_ <= (p.l.length : Int))) (fun g => .string (bs rr.1)) (fun g => [Cl pP [vl pa0 pk0 p.l, vi rr.2.at_, vi rr.2.Err]]) := by
 refine FTi Tryd.func63 fun w0 M0 F0 => ?_
 unfold Qac at QiC QiD
 refine Fb 40 1 fun _ => KS ?_
 refine Oq Va (KS ?_)
 refine Oq Vm ?_
 refine QaO (QbG p) fun rv2 hg3 => ?_
 have hc4 := Qrs pP p pa0 pk0 pre pre pre rv2 hg3
 refine Oc [0, 0] Qro hc4 ?_
 rintro - -
 refine Oq QeP (KS ?_)
 refine Kc ?_ ?_
 ·intro h5
  have h7 := not_true h5
  refine KS ?_
  refine Oq Vm ?_
  refine QaO (QbO p 4) fun rv9 hg10 => ?_
  have hc11 := QjU pP p pa0 pk0 4 pre pre pre pre rv9 hg10
  refine Oc [0, 0] QjL hc11 ?_
  rintro - ⟨he12, he13, he14⟩
  unfold Qac at he12 he13
  refine KS ?_
  refine Oq Va (KS ?_)
  have hq := q4 hrr ((Str.mk []), (Qab.mk p.l rv9.at_ rv9.Err)) (by simp only [Qbi, h5, h7, hg3, hg10, cs4]); subst hq
  exact Kr () rfl (.tmp rfl .nil) [0] en
 intro h5
 have h16 := not_false h5
 try (have hlt := QjP (by assumption : QeE _ _ = rv2) h16; try dsimp only at hlt)
 try (have hlt := QfT (by assumption : QbG _ = rv2) h16; try dsimp only at hlt)
 try (have hlt := QfV (by assumption : Qcn _ _ = rv2) h16; try dsimp only at hlt)
 refine KS ?_
 refine Oq Vm (Oq (Vn 0) (Oq (Vfa QbR 0) (Oq (QaQ sh3 0) (Oq Qbd (Oq (Vn 0) (Oq (Vfa QbR 0) (Ost (Qfk [0] sh3 [vl pa0 pk0 p.l, vi (p.at_ + 1), vi p.Err]) (KS ?_))))))))
 refine Jp 0 fun hp18 => ?_
 refine QbZ (((p.at_ + 1) - 1) : Int).toNat 2 rfl rng fun hb19 hb20 hb21 hb22 => ?_
 unfold Qac at hb19 hb21 hb22
 refine Kq [0, 1, 3, 7, 0, 16, 48, 112, 240, 511, 1023, 2047, 4095] Qc8 ?_
 refine Qv [] Vm (Qv [1] (Vn 0) (Qv [1] (Vfa Qgy 0) (Qv [2] (QaQ Ql6 0) (Qv [] Vm (Qv [1] (Vn 0) (Qv [1] (Vfa QbR 0) (Qv [2] (QaQ sh3 0) (Qv [] QdE (Qv [3] (Vi QeR 0) ?_)))))))))
 refine Qv [0] (Vfa Qly 0) (Qv [0] (QaQ sh9 0) (Qv [] Va ?_))
 refine Qn ⟨by kernel_rfl, ?_⟩
 have hq := q4 hrr ((p.l.getD (((p.at_ + 1) - 1) : Int).toNat default).Text, (Qab.mk p.l (p.at_ + 1) p.Err)) (by simp only [Qbi, h5, h16, hg3, cs4]); subst hq
 exact Kr () rfl (.tmp rfl .nil) [2] en
theorem Qty (pP : Value) (p : Qab) (pa0 : Option Addr) (pk0 : Nat) (k : Int) (QiC : Qac p.at_) (QiD : Qac p.Err) (Qwr : Qac k) (hpa : (0 <= p.at_ /\ p.at_ <= (p.l.length : Int))) (rr : Bool) (hrr : Qcn p k = rr) : FT Tryd.prog 94 #[pP, vi k] [Cl pP [vl pa0 pk0 p.l, vi p.at_, vi p.Err], S pa0 pk0 p.l] (fun g : Unit => True) (fun g => vb rr) (fun g => [Cl pP [vl pa0 pk0 p.l, vi p.at_, vi p.Err]]) := by
 refine FTi Tryd.func94 fun w0 M0 F0 => ?_
 unfold Qac at QiC QiD Qwr
 refine Fb 40 1 fun _ => KS ?_
 refine Oq Va (KS ?_)
 refine Jp 0 fun hp2 => ?_
 refine QbI (p.Err == 0) ?_ ?_
 ·intro h3
  have g4 := eq_of_beq h3
  refine QbI (decide (p.at_ < (p.l.length : Int))) ?_ ?_
  ·intro h5
   have g6 := dt h5
   refine QbZ p.at_.toNat 2 rfl rng fun hb7 hb8 hb9 hb10 => ?_
   unfold Qac at hb7 hb9 hb10
   refine Kq [0, 1, 3, 7, 15, 31, 63, 127, 255, 511, 63, 1087, 3135, 7231, 15423, 32767, 65535, 131071, 262143, 524287, 1048575, 2097151, 262143, 4456447, 12845055, 29622271, 67108863, 134217727, 268435455, 262143, 1073741823, 2147483647, 4294967295] Qc8 ?_
   refine Qv [] Vm (Qv [1] (Vn 0) (Qv [1] (Vfa Qcx 0) (Qv [2] (QaQ Qgn 0) (Qb h3 [] Qby (Qv [] Vm (Qv [] Vm (Qv [1] (Vn 0) (Qv [1] (Vfa QbR 0) (Qv [2] (QaQ sh3 0) ?_)))))))))
   refine Qv [] Vm (Qv [1] (Vn 0) (Qv [1] (Vfa Qgy 0) (Qv [2] (QaQ Ql6 0) (Qv [] (QcE QeR) (Qb h5 [] Qcu (Qv [] Vpt (Qv [] Vm (Qv [] Vm (Qv [1] (Vn 0) ?_)))))))))
   refine Qv [1] (Vfa Qgy 0) (Qv [2] (QaQ Ql6 0) (Qv [] Vm (Qv [1] (Vn 0) (Qv [1] (Vfa QbR 0) (Qv [2] (QaQ sh3 0) (Qv [3] (Vi QeR 0) (Qv [0] (Vfa Qnv 0) (Qv [0] (QaQ sh3 0) (Qv [] Vm ?_)))))))))
   refine Qv [] Qby (Qv [] Vpt (Qv [] Va ?_))
   refine Qn ⟨by kernel_rfl, ?_⟩
   have hq := q4 hrr ((p.l.getD p.at_.toNat default).Kind == k) (by simp only [Qcn, h3, h5, cs4]); subst hq
   exact Kr () rfl (.tmp rfl .nil) [2] trivial
  intro h5
  have g11 := df h5
  refine Kq [0, 1, 3, 7, 15, 31, 63, 127, 255, 511, 63, 1087, 3135, 7231, 15423, 32767, 65535, 131071, 262143, 524287, 1048575, 2097151, 262143, 4456447, 12845055, 29622271, 67108863, 134217727, 268435455, 262143, 1073741823, 2147483647, 4294967295] Qc8 ?_
  refine Qv [] Vm (Qv [0] (Vn 0) (Qv [0] (Vfa Qcx 0) (Qv [1] (QaQ Qgn 0) (Qb h3 [] Qby (Qv [] Vm (Qv [] Vm (Qv [0] (Vn 0) (Qv [0] (Vfa QbR 0) (Qv [1] (QaQ sh3 0) ?_)))))))))
  refine Qv [] Vm (Qv [0] (Vn 0) (Qv [0] (Vfa Qgy 0) (Qv [1] (QaQ Ql6 0) (Qv [] (QcE QeR) (Qb h5 [] Qcu (Qv [] Vpt (Qv [] Vm (Qs (Qs ?_)))))))))
  refine Qs (Qs (Qs (Qs (Qs (Qs (Qs (Qs (Qs (Qs ?_)))))))))
  refine Qs (Qv [] Vpf (Qv [] Va ?_))
  refine Qn ⟨by kernel_rfl, ?_⟩
  have hq := q4 hrr false (by simp only [Qcn, h3, h5, cs4]); subst hq
  exact Kr () rfl (.tmp rfl .nil) [1] trivial
 intro h3
 have g12 := ne_of_beq_false h3
 refine Kq [0, 1, 3, 7, 15, 31, 63, 127, 255, 511, 63, 1087, 3135, 7231, 15423, 32767, 65535, 131071, 262143, 524287, 1048575, 2097151, 262143, 4456447, 12845055, 29622271, 67108863, 134217727, 268435455, 262143, 1073741823, 2147483647, 4294967295] Qc8 ?_
 refine Qv [] Vm (Qv [0] (Vn 0) (Qv [0] (Vfa Qcx 0) (Qv [1] (QaQ Qgn 0) (Qb h3 [] Qby (Qv [] Vm (Qs (Qs (Qs (Qs ?_)))))))))
 refine Qs (Qs (Qs (Qs (Qs (Qs (Qv [] Vpf (Qv [] Vm (Qs (Qs ?_)))))))))
 refine Qs (Qs (Qs (Qs (Qs (Qs (Qs (Qs (Qs (Qs ?_)))))))))
 refine Qs (Qv [] Vpf (Qv [] Va ?_))
 refine Qn ⟨by kernel_rfl, ?_⟩
 have hq := q4 hrr false (by simp only [Qcn, h3, cs4]); subst hq
 exact Kr () rfl (.tmp rfl .nil) [1] trivial
theorem QjB (pP : Value) (p : Qab) (pa0 : Option Addr) (pk0 : Nat) (QiC : Qac p.at_) (QiD : Qac p.Err) (hpa : (0 <= p.at_ /\ p.at_ <= (p.l.length : Int))) (rr : Qab) (hrr : QbV p = rr) : FT Tryd.prog 64 #[pP] [Cl pP [vl pa0 pk0 p.l, vi p.at_, vi p.Err], S pa0 pk0 p.l] (fun g : Unit => Qac rr.at_ /\ Qac rr.Err /\ (0 <= rr.at_ /\ rr.at_ <= (p.l.length : Int))) (fun g => .tuple #[]) (fun g => [Cl pP [vl pa0 pk0 p.l, vi rr.at_, vi rr.Err]]) := by
 refine FTi Tryd.func64 fun w0 M0 F0 => ?_
 unfold Qac at QiC QiD
 refine Fb 40 1 fun _ => KS ?_
 refine Oq Vm ?_
 refine QaO (Qcn p 3) fun rv2 hg3 => ?_
 have hc4 := Qty pP p pa0 pk0 3 pre pre pre pre rv2 hg3
 refine Oc [0, 0] Qtm hc4 ?_
 rintro - -
 refine Oq QeP (KS ?_)
 refine Kc ?_ ?_
 ·intro h5
  have h7 := not_true h5
  refine KS ?_
  refine Oq Vm ?_
  refine QaO (QbO p 4) fun rv9 hg10 => ?_
  have hc11 := QjU pP p pa0 pk0 4 pre pre pre pre rv9 hg10
  refine Oc [0, 0] QjL hc11 ?_
  rintro - ⟨he12, he13, he14⟩
  unfold Qac at he12 he13
  refine KS ?_
  have hq := q4 hrr (Qab.mk p.l rv9.at_ rv9.Err) (by simp only [QbV, h5, h7, hg3, hg10, cs4]); subst hq
  exact Kr () rfl .nil [0] en
 intro h5
 have h16 := not_false h5
 try (have hlt := QjP (by assumption : QeE _ _ = rv2) h16; try dsimp only at hlt)
 try (have hlt := QfT (by assumption : QbG _ = rv2) h16; try dsimp only at hlt)
 try (have hlt := QfV (by assumption : Qcn _ _ = rv2) h16; try dsimp only at hlt)
 refine KS ?_
 refine Oq Vm (Oq (Vn 0) (Oq (Vfa QbR 0) (Oq (QaQ sh3 0) (Oq Qbd (Oq (Vn 0) (Oq (Vfa QbR 0) (Ost (Qfk [0] sh3 [vl pa0 pk0 p.l, vi (p.at_ + 1), vi p.Err]) (KS ?_))))))))
 have hq := q4 hrr (Qab.mk p.l (p.at_ + 1) p.Err) (by simp only [QbV, h5, h16, hg3, cs4]); subst hq
 exact Kz () rfl .nil [0] en
theorem QsL (pP : Value) (p : Qab) (pa0 : Option Addr) (pk0 : Nat) (QiC : Qac p.at_) (QiD : Qac p.Err) (hpa : (0 <= p.at_ /\ p.at_ <= (p.l.length : Int))) (rr : Bool) (hrr : QdR p = rr) : FT Tryd.prog 95 #[pP] [Cl pP [vl pa0 pk0 p.l, vi p.at_, vi p.Err], S pa0 pk0 p.l] (fun g : Unit => True) (fun g => vb rr) (fun g => [Cl pP [vl pa0 pk0 p.l, vi p.at_, vi p.Err]]) := by
 refine FTi Tryd.func95 fun w0 M0 F0 => ?_
 unfold Qac at QiC QiD
 refine Fb 40 1 fun _ => KS ?_
 refine Oq Va (KS ?_)
 refine Oa (AsV Qcy Qe3 [.string (bs (Str.mk [117, 115, 101])), .string (bs (Str.mk [99, 97, 108, 108])), .string (bs (Str.mk [115, 111, 117, 114, 99, 101])), .string (bs (Str.mk [115, 105, 110, 107])), .string (bs (Str.mk [115, 97, 110, 105, 116, 105, 122, 101])), .string (bs (Str.mk [103, 111, 116, 111])), .string (bs (Str.mk [98, 114, 97, 110, 99, 104])), .string (bs (Str.mk [114, 101, 116, 117, 114, 110]))] [.string (bs (Str.mk [117, 115, 101])), .string (bs (Str.mk [99, 97, 108, 108])), .string (bs (Str.mk [115, 111, 117, 114, 99, 101])), .string (bs (Str.mk [115, 105, 110, 107])), .string (bs (Str.mk [115, 97, 110, 105, 116, 105, 122, 101])), .string (bs (Str.mk [103, 111, 116, 111])), .string (bs (Str.mk [98, 114, 97, 110, 99, 104])), .string (bs (Str.mk [114, 101, 116, 117, 114, 110]))]) fun c2 => ?_
 refine Jo 0 ?_; rintro a3 k4 rfl
 refine Oq Va (KS ?_)
 refine Oq Va (KS ?_)
 refine Jl [0] (Ent.crOs (α := Str) (A := []) _ ([(Str.mk [117, 115, 101]), (Str.mk [99, 97, 108, 108]), (Str.mk [115, 111, 117, 114, 99, 101]), (Str.mk [115, 105, 110, 107]), (Str.mk [115, 97, 110, 105, 116, 105, 122, 101]), (Str.mk [103, 111, 116, 111]), (Str.mk [98, 114, 97, 110, 99, 104]), (Str.mk [114, 101, 116, 117, 114, 110])] : List Str) _ aB1 (fun h => ⟨[.string (bs (Str.mk [117, 115, 101]))], [.string (bs (Str.mk [99, 97, 108, 108])), .string (bs (Str.mk [115, 111, 117, 114, 99, 101])), .string (bs (Str.mk [115, 105, 110, 107])), .string (bs (Str.mk [115, 97, 110, 105, 116, 105, 122, 101])), .string (bs (Str.mk [103, 111, 116, 111])), .string (bs (Str.mk [98, 114, 97, 110, 99, 104])), .string (bs (Str.mk [114, 101, 116, 117, 114, 110]))], rfl, (fun _ => ⟨rfl, by first | omega | (simp; done) | (dsimp only; omega) | exact Qcf rfl⟩) h, ⟨[.string (bs (Str.mk [99, 97, 108, 108]))], [.string (bs (Str.mk [115, 111, 117, 114, 99, 101])), .string (bs (Str.mk [115, 105, 110, 107])), .string (bs (Str.mk [115, 97, 110, 105, 116, 105, 122, 101])), .string (bs (Str.mk [103, 111, 116, 111])), .string (bs (Str.mk [98, 114, 97, 110, 99, 104])), .string (bs (Str.mk [114, 101, 116, 117, 114, 110]))], rfl, (fun _ => ⟨rfl, by first | omega | (simp; done) | (dsimp only; omega) | exact Qcf rfl⟩) h, ⟨[.string (bs (Str.mk [115, 111, 117, 114, 99, 101]))], [.string (bs (Str.mk [115, 105, 110, 107])), .string (bs (Str.mk [115, 97, 110, 105, 116, 105, 122, 101])), .string (bs (Str.mk [103, 111, 116, 111])), .string (bs (Str.mk [98, 114, 97, 110, 99, 104])), .string (bs (Str.mk [114, 101, 116, 117, 114, 110]))], rfl, (fun _ => ⟨rfl, by first | omega | (simp; done) | (dsimp only; omega) | exact Qcf rfl⟩) h, ⟨[.string (bs (Str.mk [115, 105, 110, 107]))], [.string (bs (Str.mk [115, 97, 110, 105, 116, 105, 122, 101])), .string (bs (Str.mk [103, 111, 116, 111])), .string (bs (Str.mk [98, 114, 97, 110, 99, 104])), .string (bs (Str.mk [114, 101, 116, 117, 114, 110]))], rfl, (fun _ => ⟨rfl, by first | omega | (simp; done) | (dsimp only; omega) | exact Qcf rfl⟩) h, ⟨[.string (bs (Str.mk [115, 97, 110, 105, 116, 105, 122, 101]))], [.string (bs (Str.mk [103, 111, 116, 111])), .string (bs (Str.mk [98, 114, 97, 110, 99, 104])), .string (bs (Str.mk [114, 101, 116, 117, 114, 110]))], rfl, (fun _ => ⟨rfl, by first | omega | (simp; done) | (dsimp only; omega) | exact Qcf rfl⟩) h, ⟨[.string (bs (Str.mk [103, 111, 116, 111]))], [.string (bs (Str.mk [98, 114, 97, 110, 99, 104])), .string (bs (Str.mk [114, 101, 116, 117, 114, 110]))], rfl, (fun _ => ⟨rfl, by first | omega | (simp; done) | (dsimp only; omega) | exact Qcf rfl⟩) h, ⟨[.string (bs (Str.mk [98, 114, 97, 110, 99, 104]))], [.string (bs (Str.mk [114, 101, 116, 117, 114, 110]))], rfl, (fun _ => ⟨rfl, by first | omega | (simp; done) | (dsimp only; omega) | exact Qcf rfl⟩) h, ⟨[.string (bs (Str.mk [114, 101, 116, 117, 114, 110]))], [], rfl, (fun _ => ⟨rfl, by first | omega | (simp; done) | (dsimp only; omega) | exact Qcf rfl⟩) h, rfl⟩⟩⟩⟩⟩⟩⟩⟩)) ?_
 refine Fb 16 0 fun _ => ?_
 refine FoS 0 fun ho6 => ?_
 refine Kl (γ := Nat × Int) (fun (r7, i_8) => ⟨[(0, pP), (3, .slice a3 8 k4), (4, vi i_8)], [os (.slice a3 8 k4) ([(Str.mk [117, 115, 101]), (Str.mk [99, 97, 108, 108]), (Str.mk [115, 111, 117, 114, 99, 101]), (Str.mk [115, 105, 110, 107]), (Str.mk [115, 97, 110, 105, 116, 105, 122, 101]), (Str.mk [103, 111, 116, 111]), (Str.mk [98, 114, 97, 110, 99, 104]), (Str.mk [114, 101, 116, 117, 114, 110])] : List Str), Cl pP [vl pa0 pk0 p.l, vi p.at_, vi p.Err], S pa0 pk0 p.l], QdQ p r7 i_8 = QdQ p (((((8 : Nat) : Int) : Int) - 0).toNat) 0 /\ r7 = ((((8 : Nat) : Int) : Int) - i_8).toNat /\ (0 : Int) <= i_8 /\ (i_8 <= ((8 : Nat) : Int) \/ i_8 = 0) /\ (-9223372036854775808 <= i_8 /\ i_8 <= 9223372036854775807), r7⟩) (((((8 : Nat) : Int) : Int) - 0).toNat, 0) [0, 0, 0] ⟨rfl, rfl, aM1, (.inr rfl), aM1⟩ ?_
 rintro ⟨r7, i_8⟩ ⟨hM9, hr10, hi11, hi12, hk13⟩
 refine QbB fun _ _ hL hA => ?_; dsimp only at hL hA; subst hL hA
 refine Fb 16 0 fun _ => ?_
 refine FoS 0 fun ho15 => ?_
 refine Fl 0 fun hn16 => Fb 40 2 fun _ => ?_
 refine KS ?_
 refine Oq Vm (Oq Vm (Oq (QcE Qcy) (Oq Qcu (KS ?_))))
 refine Kc ?_ ?_
 ·intro h18
  have g19 := dt h18
  obtain ⟨r20, rfl⟩ := scc (n := r7) aM1
  refine KS ?_
  refine Oq Vm (Oq Vm (Oq Vm (Oq (Vi Qcy 0) ?_)))
  have hb21 := okS (i := i_8.toNat) ho15 rng
  refine Oq (Qk5 sh9 0) ?_
  refine QaO (QeE p ([(Str.mk [117, 115, 101]), (Str.mk [99, 97, 108, 108]), (Str.mk [115, 111, 117, 114, 99, 101]), (Str.mk [115, 105, 110, 107]), (Str.mk [115, 97, 110, 105, 116, 105, 122, 101]), (Str.mk [103, 111, 116, 111]), (Str.mk [98, 114, 97, 110, 99, 104]), (Str.mk [114, 101, 116, 117, 114, 110])].getD i_8.toNat default)) fun rv22 hg23 => ?_
  have hc24 := Qpl pP p pa0 pk0 (([(Str.mk [117, 115, 101]), (Str.mk [99, 97, 108, 108]), (Str.mk [115, 111, 117, 114, 99, 101]), (Str.mk [115, 105, 110, 107]), (Str.mk [115, 97, 110, 105, 116, 105, 122, 101]), (Str.mk [103, 111, 116, 111]), (Str.mk [98, 114, 97, 110, 99, 104]), (Str.mk [114, 101, 116, 117, 114, 110])].getD i_8.toNat default)) pre pre pre pre rv22 hg23
  refine Oc [1, 1] Qpb hc24 ?_
  rintro - -
  refine KS ?_
  refine Kc ?_ ?_
  ·intro h25
   refine KS ?_
   refine Oq Va (KS ?_)
   have hR27 := q2 hM9 (.ret true) (by simp only [QdQ, h18, h25, hg23, cs4])
   have hq := q4 hrr true (by simp only [QdR, h18, h25, hg23, hR27, cs4]); subst hq
   exact Kr () rfl (.tmp rfl .nil) [0] trivial
  intro h25
  refine KS ?_
  refine Oq Vm (Oq Qbd (Oq Va (KS ?_)))
  exact Kg (r20, (i_8 + 1)) [1, 0, 0] ⟨(q3 hM9 (by simp only [QdQ, h18, h25, hg23, cs4])), aM1, aM1, aM1, aM1⟩
 intro h18
 have g29 := df h18
 obtain rfl : r7 = 0 := by omega
 refine Ke ?_
 have hR30 := q2 hM9 (.brk ()) (by simp only [QdQ, h18, cs4])
 refine KS ?_
 refine Oq Vm ?_
 refine QaO (QbG p) fun rv31 hg32 => ?_
 have hc33 := Qrs pP p pa0 pk0 pre pre pre rv31 hg32
 refine Oc [1, 1] Qro hc33 ?_
 rintro - -
 refine Oq Va (KS ?_)
 have hq := q4 hrr rv31 (by simp only [QdR, h18, hR30, hg32, cs4]); subst hq
 exact Kr () rfl (.tmp rfl .nil) [0] trivial
theorem Qry (pP : Value) (p : Qab) (pa0 : Option Addr) (pk0 : Nat) (have_ : Int) (QiC : Qac p.at_) (QiD : Qac p.Err) (hhave__0 : Qac have_) (hpa : (0 <= p.at_ /\ p.at_ <= (p.l.length : Int))) (hh : have_ = 1) (rr : List Str × Qab) (hrr : QgP p have_ = rr) : FT Tryd.prog 111 #[pP, vi have_] [Cl pP [vl pa0 pk0 p.l, vi p.at_, vi p.Err], S pa0 pk0 p.l] (fun g : Value => Qac rr.2.at_ /\ Qac rr.2.Err /\ (0 <= rr.2.at_ /\ rr.2.at_ <= (p.l.length : Int)) /\ (rr.1.length <= 3)) (fun g => g) (fun g => [sl g rr.1, Cl pP [vl pa0 pk0 p.l, vi rr.2.at_, vi rr.2.Err]]) := by
 refine FTi Tryd.func111 fun w0 M0 F0 => ?_
 unfold Qac at QiC QiD hhave__0
 refine Fb 40 1 fun _ => KS ?_
 refine Oq Va (KS ?_)
 refine Oq Va (KS ?_)
 refine Jl [] (Ent.osNil (α := Str)) ?_
 have hterm13 : QdL p have_ (p.l.length + 1) p.at_ p.Err [] ≠ LR.oof := (QhD _ _ _ _ aM1).1
 refine Kl (γ := Nat × Int × Int × List Str × Option Addr × Nat) (fun (r2, QhG, Qin, Qbq, a6, k7) => ⟨[(0, pP), (1, vi have_), (5, vl a6 k7 Qbq)], [O a6 k7 Qbq, Cl pP [vl pa0 pk0 p.l, vi QhG, vi Qin], S pa0 pk0 p.l], QdL p have_ r2 QhG Qin Qbq = QdL p have_ (p.l.length + 1) p.at_ p.Err [] /\ (-9223372036854775808 <= QhG /\ QhG <= 9223372036854775807) /\ (-9223372036854775808 <= Qin /\ Qin <= 9223372036854775807) /\ (0 <= QhG /\ QhG <= (p.l.length : Int)) /\ (Qbq.length <= 3), r2⟩) ((p.l.length + 1), p.at_, p.Err, [], none, 0) [0, 0, 0] ⟨rfl, aM1, aM1, iv0, iv0⟩ ?_
 rintro ⟨r2, QhG, Qin, Qbq, a6, k7⟩ ⟨hM8, hk9, hk10, hv11, hv12⟩
 refine QbB fun _ _ hL hA => ?_; dsimp only at hL hA; subst hL hA
 refine Fb 16 0 fun _ => ?_
 refine FoS 0 fun ho15 => ?_
 refine Fb 40 2 fun _ => ?_
 rcases r2 with _ | r2
 ·exact absurd (hM8.symm.trans rfl) hterm13
 refine KS ?_
 refine Oq Vm ?_
 refine QaO (QbG (Qab.mk p.l QhG Qin)) fun rv17 hg18 => ?_
 have hc19 := Qrs pP (Qab.mk p.l QhG Qin) pa0 pk0 pre pre pre rv17 hg18
 refine Oc [1, 1] Qro hc19 ?_
 rintro - -
 refine KS ?_
 refine Kc ?_ ?_
 ·intro h20
  refine KS ?_
  refine Oq Vm (Oq Vm (Oq (QcE Qcy) (Oq Qbd (Oq Qby (KS ?_)))))
  refine Kc ?_ ?_
  ·intro h22
   have g23 := eq_of_beq h22
   refine KS ?_
   refine Oq Vm ?_
   refine QaO (QbO (Qab.mk p.l QhG Qin) 7) fun rv24 hg25 => ?_
   have hc26 := QjU pP (Qab.mk p.l QhG Qin) pa0 pk0 7 pre pre pre pre rv24 hg25
   refine Oc [0, 1] QjL hc26 ?_
   rintro - ⟨he27, he28, he29⟩
   unfold Qac at he27 he28
   have he29 : (0 <= rv24.at_ /\ rv24.at_ <= (p.l.length : Int)) := he29
   refine KS ?_
   refine Oq Va (KS ?_)
   refine Jl [] (Ent.slNil (α := Str)) ?_
   have hR30 := q2 hM8 (.ret ([], (Qab.mk p.l rv24.at_ rv24.Err))) (by simp only [QdL, h20, h22, hg18, hg25, cs4])
   have hq := q4 hrr ([], (Qab.mk p.l rv24.at_ rv24.Err)) (by simp only [QgP, h20, h22, hg18, hg25, hR30, cs4]); subst hq
   exact Kr (.slice none 0 0) rfl (.tmp rfl .nil) [0, 1] en
  intro h22
  have g31 := ne_of_beq_false h22
  refine KS ?_
  refine Oq Vm (Oq Vm ?_)
  refine QaO (Qbi (Qab.mk p.l QhG Qin)) fun rv32 hg33 => ?_
  have hc34 := QiN pP (Qab.mk p.l QhG Qin) pa0 pk0 pre pre pre rv32 hg33
  refine Oc [0, 1] QiP hc34 ?_
  rintro - ⟨he35, he36, he37, he38⟩
  unfold Qac at he36 he37
  have he38 : (0 <= rv32.2.at_ /\ rv32.2.at_ <= (p.l.length : Int)) := he38
  refine Oa (AsV Qcy Qe3 [.string (bs rv32.1)] [.string (bs rv32.1)]) fun c39 => ?_
  refine Jo 0 ?_; rintro a40 k41 rfl
  refine Jl [0] (Ent.cr1 (α := Str) (A := []) _ rv32.1 _ aB1 (fun _ => ⟨rfl, aS1⟩)) ?_
  refine Oa (ApO [2, 0] Qcy Qcy Qe3) fun c42 => ?_
  refine Jo 0 ?_; rintro a43 k44 rfl
  refine Fb 16 0 fun _ => ?_
  refine FoS 0 fun ho46 => ?_
  have hn47 := la Qbq ([rv32.1] : List Str)
  refine Oq Va (KS ?_)
  exact Kg (r2, rv32.2.at_, rv32.2.Err, (Qbq ++ [rv32.1]), a43, k44) [0, 0, 0] ⟨(q3 hM8 (by simp only [QdL, h20, h22, hg18, hg33, cs4])), aM1, aM1, iv1, iv1⟩
 intro h20
 refine Ke ?_
 have hR49 := q2 hM8 (.brk (QhG, Qin, Qbq)) (by simp only [QdL, h20, hg18, cs4])
 refine KS ?_
 refine Oq Vm (Oq Va (KS ?_))
 refine Jl [1] (Ent.freeze _ _) ?_
 have hq := q4 hrr (Qbq, (Qab.mk p.l QhG Qin)) (by simp only [QgP, h20, hg18, hR49, cs4]); subst hq
 exact Kr (vl a6 k7 Qbq) rfl (.tmp rfl .nil) [0, 1] en
theorem QrP (pP : Value) (p : Qab) (pa0 : Option Addr) (pk0 : Nat) (QiC : Qac p.at_) (QiD : Qac p.Err) (hpa : (0 <= p.at_ /\ p.at_ <= (p.l.length : Int))) (rr : List Str × Qab) (hrr : QfM p = rr) : FT Tryd.prog 112 #[pP] [Cl pP [vl pa0 pk0 p.l, vi p.at_, vi p.Err], S pa0 pk0 p.l] (fun g : Value => Qac rr.2.at_ /\ Qac rr.2.Err /\ (0 <= rr.2.at_ /\ rr.2.at_ <= (p.l.length : Int)) /\ (rr.1.length <= 4)) (fun g => g) (fun g => [sl g rr.1, Cl pP [vl pa0 pk0 p.l, vi rr.2.at_, vi rr.2.Err]]) := by
 refine FTi Tryd.func112 fun w0 M0 F0 => ?_
 unfold Qac at QiC QiD
 refine Fb 40 1 fun _ => KS ?_
 refine Oq Va (KS ?_)
 refine Oq Va (KS ?_)
 refine Jl [] (Ent.osNil (α := Str)) ?_
 have hterm13 : Qdl p (p.l.length + 1) p.at_ p.Err [] ≠ LR.oof := (Qg3 _ _ _ _ aM1).1
 refine Kl (γ := Nat × Int × Int × List Str × Option Addr × Nat) (fun (r2, QhG, Qin, Qbq, a6, k7) => ⟨[(0, pP), (3, vl a6 k7 Qbq)], [O a6 k7 Qbq, Cl pP [vl pa0 pk0 p.l, vi QhG, vi Qin], S pa0 pk0 p.l], Qdl p r2 QhG Qin Qbq = Qdl p (p.l.length + 1) p.at_ p.Err [] /\ (-9223372036854775808 <= QhG /\ QhG <= 9223372036854775807) /\ (-9223372036854775808 <= Qin /\ Qin <= 9223372036854775807) /\ (0 <= QhG /\ QhG <= (p.l.length : Int)) /\ (Qbq.length <= 4), r2⟩) ((p.l.length + 1), p.at_, p.Err, [], none, 0) [0, 0, 0] ⟨rfl, aM1, aM1, iv0, iv0⟩ ?_
 rintro ⟨r2, QhG, Qin, Qbq, a6, k7⟩ ⟨hM8, hk9, hk10, hv11, hv12⟩
 refine QbB fun _ _ hL hA => ?_; dsimp only at hL hA; subst hL hA
 refine Fb 16 0 fun _ => ?_
 refine FoS 0 fun ho15 => ?_
 refine Fb 40 2 fun _ => ?_
 rcases r2 with _ | r2
 ·exact absurd (hM8.symm.trans rfl) hterm13
 refine KS ?_
 refine Oq Vm ?_
 refine QaO (QbG (Qab.mk p.l QhG Qin)) fun rv17 hg18 => ?_
 have hc19 := Qrs pP (Qab.mk p.l QhG Qin) pa0 pk0 pre pre pre rv17 hg18
 refine Oc [1, 1] Qro hc19 ?_
 rintro - -
 refine KS ?_
 refine Kc ?_ ?_
 ·intro h20
  refine KS ?_
  refine Oq Vm (Oq (QcE Qcy) (Oq Qby (KS ?_)))
  refine Kc ?_ ?_
  ·intro h22
   have g23 := eq_of_beq h22
   refine KS ?_
   refine Oq Vm ?_
   refine QaO (QbO (Qab.mk p.l QhG Qin) 7) fun rv24 hg25 => ?_
   have hc26 := QjU pP (Qab.mk p.l QhG Qin) pa0 pk0 7 pre pre pre pre rv24 hg25
   refine Oc [0, 1] QjL hc26 ?_
   rintro - ⟨he27, he28, he29⟩
   unfold Qac at he27 he28
   have he29 : (0 <= rv24.at_ /\ rv24.at_ <= (p.l.length : Int)) := he29
   refine KS ?_
   refine Oq Va (KS ?_)
   refine Jl [] (Ent.slNil (α := Str)) ?_
   have hR30 := q2 hM8 (.ret ([], (Qab.mk p.l rv24.at_ rv24.Err))) (by simp only [Qdl, h20, h22, hg18, hg25, cs4])
   have hq := q4 hrr ([], (Qab.mk p.l rv24.at_ rv24.Err)) (by simp only [QfM, h20, h22, hg18, hg25, hR30, cs4]); subst hq
   exact Kr (.slice none 0 0) rfl (.tmp rfl .nil) [0, 1] en
  intro h22
  have g31 := ne_of_beq_false h22
  refine KS ?_
  refine Oq Vm (Oq Vm ?_)
  refine QaO (Qbi (Qab.mk p.l QhG Qin)) fun rv32 hg33 => ?_
  have hc34 := QiN pP (Qab.mk p.l QhG Qin) pa0 pk0 pre pre pre rv32 hg33
  refine Oc [0, 1] QiP hc34 ?_
  rintro - ⟨he35, he36, he37, he38⟩
  unfold Qac at he36 he37
  have he38 : (0 <= rv32.2.at_ /\ rv32.2.at_ <= (p.l.length : Int)) := he38
  refine Oa (AsV Qcy Qe3 [.string (bs rv32.1)] [.string (bs rv32.1)]) fun c39 => ?_
  refine Jo 0 ?_; rintro a40 k41 rfl
  refine Jl [0] (Ent.cr1 (α := Str) (A := []) _ rv32.1 _ aB1 (fun _ => ⟨rfl, aS1⟩)) ?_
  refine Oa (ApO [2, 0] Qcy Qcy Qe3) fun c42 => ?_
  refine Jo 0 ?_; rintro a43 k44 rfl
  refine Fb 16 0 fun _ => ?_
  refine FoS 0 fun ho46 => ?_
  have hn47 := la Qbq ([rv32.1] : List Str)
  refine Oq Va (KS ?_)
  exact Kg (r2, rv32.2.at_, rv32.2.Err, (Qbq ++ [rv32.1]), a43, k44) [0, 0, 0] ⟨(q3 hM8 (by simp only [Qdl, h20, h22, hg18, hg33, cs4])), aM1, aM1, iv1, iv1⟩
 intro h20
 refine Ke ?_
 have hR49 := q2 hM8 (.brk (QhG, Qin, Qbq)) (by simp only [Qdl, h20, hg18, cs4])
 refine KS ?_
 refine Oq Vm (Oq Va (KS ?_))
 refine Jl [1] (Ent.freeze _ _) ?_
 have hq := q4 hrr (Qbq, (Qab.mk p.l QhG Qin)) (by simp only [QfM, h20, hg18, hR49, cs4]); subst hq
 exact Kr (vl a6 k7 Qbq) rfl (.tmp rfl .nil) [0, 1] en
end Go.SL.G
