/- Part 5 of the walks: mirrors, plain laws and walks used by the last text of this claim. -/
import Derived.Test.YtbccjgpbflaibaaGreatW4
import Derived.Test.YtbccjgpbflaibaaGreatProg
set_option linter.unusedVariables false
set_option linter.unusedSimpArgs false
namespace Go.SL.G
open Go Go.SL Go.Proofs
set_option maxHeartbeats 20000000
set_option maxRecDepth 100000
theorem fn106 (t : GTransfer) (ta1 : Option Addr) (tk1 : Nat) (ta3 : Option Addr) (tk3 : Nat) (ta4 : Option Addr) (tk4 : Nat) (a : Int) (b : Int) (ht_0 : i64ok t.Gen.Width) (ht_2 : i64ok t.Kill.Width) (ha_0 : i64ok a) (hb_0 : i64ok b) (rr : Bool) (hrr : r1_follows t a b = rr) : FT Tryz.prog 106 #[.agg #[vi t.Gen.Width, vl ta1 tk1 t.Gen.Words, vi t.Kill.Width, vl ta3 tk3 t.Kill.Words, vl ta4 tk4 t.Copies], vi a, vi b] [S ta1 tk1 t.Gen.Words, S ta3 tk3 t.Kill.Words, S ta4 tk4 t.Copies] (fun g : Unit => True) (fun g => vb rr) (fun g => []) := by
 refine FTi Tryz.func106 fun w0 M0 F0 => ?_
 unfold i64ok at ht_0 ht_2 ha_0 hb_0
 refine Fb 8 0 fun _ => Fb 8 1 fun _ => Fb 16 2 fun _ => KS ?_
 refine Oa (Ab [vi t.Gen.Width, vl ta1 tk1 t.Gen.Words, vi t.Kill.Width, vl ta3 tk3 t.Kill.Words, vl ta4 tk4 t.Copies]) fun p4 => Oq Va (KS ?_)
 refine Oq Vm (Oq Vm (Oq Veql (Oq Vm ?_)))
 refine Js 11 ?_ ?_
 ·intro h5
  have g6 := eq_of_beq h5
  refine Oq (Vfa fo65_1 0) (Oq (VldG sh42 0 [vi t.Kill.Width, vl ta3 tk3 t.Kill.Words]) (Oq Vm ?_))
  refine letv (r1_Has t.Kill a) fun rv7 hg8 => ?_
  have hc9 := fn21 t.Kill ta3 tk3 a pre pre rv7 hg8
  refine Oc [2] ca21 hc9 ?_
  rintro - -
  refine Oq Vnot (Oq Vpt (KS ?_))
  refine Kc ?_ ?_
  ·intro h10
   have h12 := not_true h10
   refine KS ?_
   refine Oq Va (KS ?_)
   have hq := q4 hrr true (by simp only [r1_follows, h5, h10, h12, hg8, cs4]); subst hq
   exact Kr () rfl (.tmp rfl .nil) [] trivial
  intro h10
  have h15 := not_false h10
  refine KS ?_
  refine Oq Va (KS ?_)
  refine Kl (γ := Nat × Int) (fun (r17, i_18) => ⟨[(1, vi a), (2, vi b), (3, p4), (7, vi i_18)], [pv p4 [vi t.Gen.Width, vl ta1 tk1 t.Gen.Words, vi t.Kill.Width, vl ta3 tk3 t.Kill.Words, vl ta4 tk4 t.Copies], S ta1 tk1 t.Gen.Words, S ta3 tk3 t.Kill.Words, S ta4 tk4 t.Copies], r1_follows_L0 t a b r17 i_18 = r1_follows_L0 t a b (((t.Copies.length : Int) - 0).toNat) 0 ∧ r17 = ((t.Copies.length : Int) - i_18).toNat ∧ (0 : Int) ≤ i_18 ∧ i_18 ≤ (t.Copies.length : Int) ∧ (-9223372036854775808 ≤ i_18 ∧ i_18 ≤ 9223372036854775807), r17⟩) (((t.Copies.length : Int) - 0).toNat, 0) [0, 1, 2, 3] ⟨rfl, rfl, aM1, aM1, aM1⟩ ?_
  rintro ⟨r17, i_18⟩ ⟨hM19, hr20, hi21, hi22, hk23⟩
  refine JJ_nx fun _ _ hL hA => ?_; dsimp only at hL hA; subst hL hA
  refine Fb 8 1 fun _ => Fb 8 2 fun _ => Fb 16 3 fun _ => KS ?_
  refine Oq Vm (Oq (Vfa fo65_2 0) (Oq (VldF sh63 0) (Oq (Vlen sl63) (Oq Vlss (KS ?_)))))
  refine Kc ?_ ?_
  ·intro h27
   have g28 := dt h27
   obtain ⟨r29, rfl⟩ := scc (n := r17) aM1
   refine KS ?_
   refine Oq (Vfa fo65_2 0) (Oq (VldF sh63 0) (Oq Vm (Oq (Vi sl63 3) ?_)))
   refine JJ_peek_GCopy i_18.toNat 3 rfl rng fun hb30 hb31 => ?_
   unfold i64ok at hb30 hb31
   refine Oq (Vfa fo105_0 0) (Oq (VldF sh3 0) (Oq Vm (Oq Veql (Oq Vm ?_))))
   refine Js 33 ?_ ?_
   ·intro h32
    have g33 := eq_of_beq h32
    refine Oq (Vfa fo65_2 1) (Oq (VldF sh63 1) (Oq Vm (Oq (Vi sl63 4) (Oq (Vfa fo105_1 0) (Oq (VldF sh3 0) (Oq Vm (Oq Veql (Oq Vpt (KS ?_)))))))))
    refine Kc ?_ ?_
    ·intro h34
     have g35 := eq_of_beq h34
     refine KS ?_
     refine Oq Va (KS ?_)
     have hR36 := q2 hM19 (.ret true) (by simp only [r1_follows_L0, h27, h32, h34, cs4])
     have hq := q4 hrr true (by simp only [r1_follows, h5, h10, h15, h27, h32, h34, hg8, hR36, cs4]); subst hq
     exact Kr () rfl (.tmp rfl .nil) [] trivial
    intro h34
    have g37 := ne_of_beq_false h34
    refine KS ?_
    refine Oq Vm (Oq Vadd (Oq Va (KS ?_)))
    exact Kg (r29, (i_18 + 1)) [1, 2, 3, 4] ⟨(q3 hM19 (by simp only [r1_follows_L0, h27, h32, h34, cs4])), aM1, aM1, aM1, aM1⟩
   intro h32
   have g38 := ne_of_beq_false h32
   refine Osk (Osk (Osk (Osk (Osk (Osk (Osk (Osk (Oq Vpf (KS ?_)))))))))
   refine Kf (KS ?_)
   refine Oq Vm (Oq Vadd (Oq Va (KS ?_)))
   exact Kg (r29, (i_18 + 1)) [1, 2, 3, 4] ⟨(q3 hM19 (by simp only [r1_follows_L0, h27, h32, cs4])), aM1, aM1, aM1, aM1⟩
  intro h27
  have g39 := df h27
  obtain rfl : r17 = 0 := by omega
  refine Ke ?_
  have hR40 := q2 hM19 (.brk ()) (by simp only [r1_follows_L0, h27, cs4])
  refine KS ?_
  refine Oq Va (KS ?_)
  have hq := q4 hrr false (by simp only [r1_follows, h5, h10, h15, h27, hg8, hR40, cs4]); subst hq
  exact Kr () rfl (.tmp rfl .nil) [] trivial
 intro h5
 have g41 := ne_of_beq_false h5
 refine Osk (Osk (Osk (Osk (Osk (Oq Vpf (KS ?_))))))
 refine Kf (KS ?_)
 refine Oq Va (KS ?_)
 refine Kl (γ := Nat × Int) (fun (r42, i_43) => ⟨[(1, vi a), (2, vi b), (3, p4), (7, vi i_43)], [pv p4 [vi t.Gen.Width, vl ta1 tk1 t.Gen.Words, vi t.Kill.Width, vl ta3 tk3 t.Kill.Words, vl ta4 tk4 t.Copies], S ta1 tk1 t.Gen.Words, S ta3 tk3 t.Kill.Words, S ta4 tk4 t.Copies], r1_follows_L0 t a b r42 i_43 = r1_follows_L0 t a b (((t.Copies.length : Int) - 0).toNat) 0 ∧ r42 = ((t.Copies.length : Int) - i_43).toNat ∧ (0 : Int) ≤ i_43 ∧ i_43 ≤ (t.Copies.length : Int) ∧ (-9223372036854775808 ≤ i_43 ∧ i_43 ≤ 9223372036854775807), r42⟩) (((t.Copies.length : Int) - 0).toNat, 0) [0, 1, 2, 3] ⟨rfl, rfl, aM1, aM1, aM1⟩ ?_
 rintro ⟨r42, i_43⟩ ⟨hM44, hr45, hi46, hi47, hk48⟩
 refine JJ_nx fun _ _ hL hA => ?_; dsimp only at hL hA; subst hL hA
 refine Fb 8 1 fun _ => Fb 8 2 fun _ => Fb 16 3 fun _ => KS ?_
 refine Oq Vm (Oq (Vfa fo65_2 0) (Oq (VldF sh63 0) (Oq (Vlen sl63) (Oq Vlss (KS ?_)))))
 refine Kc ?_ ?_
 ·intro h52
  have g53 := dt h52
  obtain ⟨r54, rfl⟩ := scc (n := r42) aM1
  refine KS ?_
  refine Oq (Vfa fo65_2 0) (Oq (VldF sh63 0) (Oq Vm (Oq (Vi sl63 3) ?_)))
  refine JJ_peek_GCopy i_43.toNat 3 rfl rng fun hb55 hb56 => ?_
  unfold i64ok at hb55 hb56
  refine Oq (Vfa fo105_0 0) (Oq (VldF sh3 0) (Oq Vm (Oq Veql (Oq Vm ?_))))
  refine Js 33 ?_ ?_
  ·intro h57
   have g58 := eq_of_beq h57
   refine Oq (Vfa fo65_2 1) (Oq (VldF sh63 1) (Oq Vm (Oq (Vi sl63 4) (Oq (Vfa fo105_1 0) (Oq (VldF sh3 0) (Oq Vm (Oq Veql (Oq Vpt (KS ?_)))))))))
   refine Kc ?_ ?_
   ·intro h59
    have g60 := eq_of_beq h59
    refine KS ?_
    refine Oq Va (KS ?_)
    have hR61 := q2 hM44 (.ret true) (by simp only [r1_follows_L0, h52, h57, h59, cs4])
    have hq := q4 hrr true (by simp only [r1_follows, h5, h52, h57, h59, hR61, cs4]); subst hq
    exact Kr () rfl (.tmp rfl .nil) [] trivial
   intro h59
   have g62 := ne_of_beq_false h59
   refine KS ?_
   refine Oq Vm (Oq Vadd (Oq Va (KS ?_)))
   exact Kg (r54, (i_43 + 1)) [1, 2, 3, 4] ⟨(q3 hM44 (by simp only [r1_follows_L0, h52, h57, h59, cs4])), aM1, aM1, aM1, aM1⟩
  intro h57
  have g63 := ne_of_beq_false h57
  refine Osk (Osk (Osk (Osk (Osk (Osk (Osk (Osk (Oq Vpf (KS ?_)))))))))
  refine Kf (KS ?_)
  refine Oq Vm (Oq Vadd (Oq Va (KS ?_)))
  exact Kg (r54, (i_43 + 1)) [1, 2, 3, 4] ⟨(q3 hM44 (by simp only [r1_follows_L0, h52, h57, cs4])), aM1, aM1, aM1, aM1⟩
 intro h52
 have g64 := df h52
 obtain rfl : r42 = 0 := by omega
 refine Ke ?_
 have hR65 := q2 hM44 (.brk ()) (by simp only [r1_follows_L0, h52, cs4])
 refine KS ?_
 refine Oq Va (KS ?_)
 have hq := q4 hrr false (by simp only [r1_follows, h5, h52, hR65, cs4]); subst hq
 exact Kr () rfl (.tmp rfl .nil) [] trivial
theorem fn153 (t : GTransfer) (ta1 : Option Addr) (tk1 : Nat) (ta3 : Option Addr) (tk3 : Nat) (ta4 : Option Addr) (tk4 : Nat) (s : GSet) (sa1 : Option Addr) (sk1 : Nat) (ht_0 : i64ok t.Gen.Width) (ht_2 : i64ok t.Kill.Width) (hs_0 : i64ok s.Width) (ht : r1_ValidTransfer t = true) (hw : t.Gen.Width = s.Width) (rr : GSet) (hrr : r1_value t s = rr) : FT Tryz.prog 153 #[.agg #[vi t.Gen.Width, vl ta1 tk1 t.Gen.Words, vi t.Kill.Width, vl ta3 tk3 t.Kill.Words, vl ta4 tk4 t.Copies], .agg #[vi s.Width, vl sa1 sk1 s.Words]] [S ta1 tk1 t.Gen.Words, S ta3 tk3 t.Kill.Words, S ta4 tk4 t.Copies, S sa1 sk1 s.Words] (fun g : Value => i64ok rr.Width) (fun g => .agg #[vi rr.Width, g]) (fun g => [sl g rr.Words]) := by
 refine FTi Tryz.func153 fun w0 M0 F0 => ?_
 unfold i64ok at ht_0 ht_2 hs_0
 refine Fb 8 0 fun _ => Fb 8 1 fun _ => Fb 16 2 fun _ => Fb 8 3 fun _ => ?_
 have hvt := VT_w ht
 refine KS ?_
 refine Oa (Ab [vi t.Gen.Width, vl ta1 tk1 t.Gen.Words, vi t.Kill.Width, vl ta3 tk3 t.Kill.Words, vl ta4 tk4 t.Copies]) fun p5 => Oa (Ab [vi s.Width, vl sa1 sk1 s.Words]) fun p6 => Oa (Al ze42 [vi 0, .slice none 0 0]) fun p7 => KS ?_
 refine Oq (Vfa fo65_0 2) (Oq (VldG sh42 2 [vi t.Gen.Width, vl ta1 tk1 t.Gen.Words]) (Oa (Al ze42 [vi 0, .slice none 0 0]) fun p8 => Ost (Scl [0] sh42 [vi t.Gen.Width, vl ta1 tk1 t.Gen.Words]) (KS ?_)))
 refine Oq Va (KS ?_)
 refine Kl (γ := Nat × Int × List (BitVec 64) × Int × Option Addr × Nat) (fun (r9, out0_10, out1_11, a_12, a13, k14) => ⟨[(2, p5), (3, p6), (4, p7), (5, p8), (6, vi a_12)], [S a13 k14 out1_11, Cl p8 [vi out0_10, vl a13 k14 out1_11], Cl p7 [vi 0, .slice none 0 0], pv p6 [vi s.Width, vl sa1 sk1 s.Words], pv p5 [vi t.Gen.Width, vl ta1 tk1 t.Gen.Words, vi t.Kill.Width, vl ta3 tk3 t.Kill.Words, vl ta4 tk4 t.Copies], S ta1 tk1 t.Gen.Words, S ta3 tk3 t.Kill.Words, S ta4 tk4 t.Copies, S sa1 sk1 s.Words], r1_value_L0 t s r9 out0_10 out1_11 a_12 = r1_value_L0 t s (((s.Width : Int) - 0).toNat) t.Gen.Width t.Gen.Words 0 ∧ r9 = ((s.Width : Int) - a_12).toNat ∧ (0 : Int) ≤ a_12 ∧ (a_12 ≤ s.Width ∨ a_12 = 0) ∧ (-9223372036854775808 ≤ out0_10 ∧ out0_10 ≤ 9223372036854775807) ∧ (-9223372036854775808 ≤ a_12 ∧ a_12 ≤ 9223372036854775807) ∧ out0_10 = s.Width ∧ out1_11.length = ((s.Width + 63) / 64).toNat, r9⟩) (((s.Width : Int) - 0).toNat, t.Gen.Width, t.Gen.Words, 0, ta1, tk1) [4, 0, 0, 0, 1, 2, 3, 4, 5] ⟨rfl, rfl, aM1, (.inr rfl), aM1, aM1, iv0, iv0⟩ ?_
 rintro ⟨r9, out0_10, out1_11, a_12, a13, k14⟩ ⟨hM15, hr16, hi17, hi18, hk19, hk20, hv21, hv22⟩
 refine JJ_nx fun _ _ hL hA => ?_; dsimp only at hL hA; subst hL hA
 refine Fb 8 0 fun _ => Fb 8 5 fun _ => Fb 8 6 fun _ => Fb 16 7 fun _ => Fb 8 8 fun _ => KS ?_
 refine Oq Vm (Oq (Vfa fo42_0 3) (Oq (VldF sh3 3) (Oq Vlss (KS ?_))))
 refine Kc ?_ ?_
 ·intro h28
  have g29 := dt h28
  obtain ⟨r30, rfl⟩ := scc (n := r9) aM1
  refine KS ?_
  refine Oq Va (KS ?_)
  have hterm43 : r1_value_L1 t s a_12 (s.Width.toNat + 1) out0_10 out1_11 0 ≠ LR.oof := value_L1_term _ _ _ _ _ _ _ aM1 aM1
  refine Kl (γ := Nat × Int × List (BitVec 64) × Int × Option Addr × Nat) (fun (r31, out0_32, out1_33, b_34, a35, k36) => ⟨[(2, p5), (3, p6), (4, p7), (5, p8), (6, vi a_12), (7, vi b_34)], [S a35 k36 out1_33, Cl p8 [vi out0_32, vl a35 k36 out1_33], Cl p7 [vi 0, .slice none 0 0], pv p6 [vi s.Width, vl sa1 sk1 s.Words], pv p5 [vi t.Gen.Width, vl ta1 tk1 t.Gen.Words, vi t.Kill.Width, vl ta3 tk3 t.Kill.Words, vl ta4 tk4 t.Copies], S ta1 tk1 t.Gen.Words, S ta3 tk3 t.Kill.Words, S ta4 tk4 t.Copies, S sa1 sk1 s.Words], r1_value_L1 t s a_12 r31 out0_32 out1_33 b_34 = r1_value_L1 t s a_12 (s.Width.toNat + 1) out0_10 out1_11 0 ∧ (-9223372036854775808 ≤ out0_32 ∧ out0_32 ≤ 9223372036854775807) ∧ (-9223372036854775808 ≤ b_34 ∧ b_34 ≤ 9223372036854775807) ∧ out0_32 = s.Width ∧ out1_33.length = ((s.Width + 63) / 64).toNat ∧ 0 ≤ b_34, r31⟩) ((s.Width.toNat + 1), out0_10, out1_11, 0, a13, k14) [0, 1, 1, 1, 2, 3, 4, 5, 6] ⟨rfl, aM1, aM1, iv0, iv0, iv0⟩ ?_
  rintro ⟨r31, out0_32, out1_33, b_34, a35, k36⟩ ⟨hM37, hk38, hk39, hv40, hv41, hv42⟩
  refine JJ_nx fun _ _ hL hA => ?_; dsimp only at hL hA; subst hL hA
  refine Fb 8 0 fun _ => Fb 8 5 fun _ => Fb 8 6 fun _ => Fb 16 7 fun _ => Fb 8 8 fun _ => ?_
  rcases r31 with _ | r31
  ·exact absurd (hM37.symm.trans rfl) hterm43
  refine KS ?_
  refine Oq (VldA sh42 3) (Oq Vm ?_)
  refine letv (r1_Has s a_12) fun rv49 hg50 => ?_
  have hc51 := fn21 s sa1 sk1 a_12 pre pre rv49 hg50
  refine Oc [8] ca21 hc51 ?_
  rintro - -
  refine Oq Vm ?_
  refine Js 19 ?_ ?_
  ·intro h52
   refine Oq Vm (Oq (Vfa fo42_0 3) (Oq (VldF sh3 3) (Oq Vlss (Oq Vpt (KS ?_)))))
   refine Kc ?_ ?_
   ·intro h54
    have g55 := dt h54
    refine KS ?_
    refine Oq (VldA sh65 4) (Oq Vm (Oq Vm ?_))
    refine letv (r1_follows t a_12 b_34) fun rv56 hg57 => ?_
    have hc58 := fn106 t ta1 tk1 ta3 tk3 ta4 tk4 a_12 b_34 pre pre pre pre rv56 hg57
    refine Oc [5, 6, 7] ca106 hc58 ?_
    rintro - -
    refine KS ?_
    refine Kc ?_ ?_
    ·intro h59
     refine KS ?_
     refine Oq (VldA sh42 1) (Oq Vm ?_)
     refine letv (r1_Put (GSet.mk out0_32 out1_33) b_34) fun rv62 hg63 => ?_
     have hc64 := fn41 ((GSet.mk out0_32 out1_33)) a35 k36 b_34 pre pre pre pre rv62 hg63
     refine Oc [0] ca41 hc64 ?_
     rintro c61 ⟨he65, he66, he67⟩
     unfold i64ok at he65
     have he66 : (rv62.Width = out0_32) := he66
     have he67 : (rv62.Words.length = ((out0_32 + 63) / 64).toNat) := he67
     refine Jo 0 ?_; rintro a68 k69 rfl
     refine Fb 8 0 fun _ => ?_
     refine Ost (Scl [2] sh42 [vi rv62.Width, vl a68 k69 rv62.Words]) (KS ?_)
     refine Oq Vm (Oq Vadd (Oq Va (KS ?_)))
     refine Jl [1] (Ent.freeze _ _) ?_
     exact Kg (r31, rv62.Width, rv62.Words, (b_34 + 1), a68, k69) [0, 1, 2, 2, 3, 4, 5, 6, 7] ⟨(q3 hM37 (by simp only [r1_value_L1, h52, h54, h59, hg50, hg57, hg63, cs4])), aM1, aM1, iv1, iv1, iv1⟩
    intro h59
    refine KS ?_
    refine Oq Vm (Oq Vadd (Oq Va (KS ?_)))
    exact Kg (r31, out0_32, out1_33, (b_34 + 1), a35, k36) [0, 1, 1, 1, 2, 3, 4, 5, 6] ⟨(q3 hM37 (by simp only [r1_value_L1, h52, h54, h59, hg50, hg57, cs4])), aM1, aM1, iv1, iv1, iv1⟩
   intro h54
   have g72 := df h54
   refine Ke ?_
   have hR73 := q2 hM37 (.brk (out0_32, out1_33)) (by simp only [r1_value_L1, h52, h54, hg50, cs4])
   refine KS ?_
   refine Oq Vm (Oq Vadd (Oq Va (KS ?_)))
   exact Kg (r30, out0_32, out1_33, (a_12 + 1), a35, k36) [0, 1, 1, 1, 2, 3, 4, 5, 6] ⟨(q3 hM15 (by simp only [r1_value_L0, h28, h52, h54, hg50, hR73, cs4])), aM1, aM1, aM1, aM1, aM1, iv1, iv1⟩
  intro h52
  refine Osk (Osk (Osk (Osk (Oq Vpf (KS ?_)))))
  refine Kf ?_
  refine Ke ?_
  have hR75 := q2 hM37 (.brk (out0_32, out1_33)) (by simp only [r1_value_L1, h52, hg50, cs4])
  refine KS ?_
  refine Oq Vm (Oq Vadd (Oq Va (KS ?_)))
  exact Kg (r30, out0_32, out1_33, (a_12 + 1), a35, k36) [0, 1, 1, 1, 2, 3, 4, 5, 6] ⟨(q3 hM15 (by simp only [r1_value_L0, h28, h52, hg50, hR75, cs4])), aM1, aM1, aM1, aM1, aM1, iv1, iv1⟩
 intro h28
 have g76 := df h28
 obtain rfl : r9 = 0 := by omega
 refine Ke ?_
 have hR77 := q2 hM15 (out0_10, out1_11) (by simp only [r1_value_L0, h28, cs4])
 refine KS ?_
 refine Oq (VldA sh42 1) (Ost (Scl [2] sh42 [vi out0_10, vl a13 k14 out1_11]) (KS ?_))
 have hq := q4 hrr (GSet.mk out0_10 out1_11) (by simp only [r1_value, h28, hR77, cs4]); subst hq
 exact Kr (vl a13 k14 out1_11) rfl (.cellN 0 rfl sh42 rfl (reads_Cl _ _) rfl .nil) [1] en
theorem fn169 (t : GTransfer) (ta1 : Option Addr) (tk1 : Nat) (ta3 : Option Addr) (tk3 : Nat) (ta4 : Option Addr) (tk4 : Nat) (ht_0 : i64ok t.Gen.Width) (ht_2 : i64ok t.Kill.Width) (rr : GTable) (hrr : r1_table t = .ret rr) : FT Tryz.prog 169 #[.agg #[vi t.Gen.Width, vl ta1 tk1 t.Gen.Words, vi t.Kill.Width, vl ta3 tk3 t.Kill.Words, vl ta4 tk4 t.Copies]] [S ta1 tk1 t.Gen.Words, S ta3 tk3 t.Kill.Words, S ta4 tk4 t.Copies] (fun g : Value × Value => i64ok rr.Zero.Width) (fun g => .agg #[vi rr.Zero.Width, g.1, g.2]) (fun g => [sl g.1 rr.Zero.Words, sl g.2 rr.One]) := by
 refine FTi Tryz.func169 fun w0 M0 F0 => ?_
 unfold i64ok at ht_0 ht_2
 refine Fb 8 0 fun _ => Fb 8 1 fun _ => Fb 16 2 fun _ => ?_
 have hx0 := lrn rr; have H := hrr; unfold r1_table at H
 refine KS ?_
 refine Oa (Ab [vi t.Gen.Width, vl ta1 tk1 t.Gen.Words, vi t.Kill.Width, vl ta3 tk3 t.Kill.Words, vl ta4 tk4 t.Copies]) fun p4 => Oa (Al ze210 [vi 0, .slice none 0 0, .slice none 0 0]) fun p5 => KS ?_
 refine Oq (Vfa fo65_0 1) (Oq (VldG sh42 1 [vi t.Gen.Width, vl ta1 tk1 t.Gen.Words]) (Oq (Vbd st210 [vi t.Gen.Width, vl ta1 tk1 t.Gen.Words, .slice none 0 0]) (Oa (Al ze210 [vi 0, .slice none 0 0, .slice none 0 0]) fun p6 => Ost (Scl [0] sh210 [vi t.Gen.Width, vl ta1 tk1 t.Gen.Words, .slice none 0 0]) (KS ?_))))
 refine Oq Va (KS ?_)
 refine Jl [] (Ent.osNil (α := GSet)) ?_
 refine llH H hx0 fun X17 hX18 hx19 HL20 => ?_
 refine Kl (γ := Nat × List GSet × Int × Option Addr × Nat) (fun (r7, x2_8, b_9, a10, k11) => ⟨[(1, p4), (2, p5), (3, p6), (4, vi b_9)], [O a10 k11 x2_8, Cl p6 [vi t.Gen.Width, vl ta1 tk1 t.Gen.Words, vl a10 k11 x2_8], Cl p5 [vi 0, .slice none 0 0, .slice none 0 0], pv p4 [vi t.Gen.Width, vl ta1 tk1 t.Gen.Words, vi t.Kill.Width, vl ta3 tk3 t.Kill.Words, vl ta4 tk4 t.Copies], S ta1 tk1 t.Gen.Words, S ta3 tk3 t.Kill.Words, S ta4 tk4 t.Copies], r1_table_L0 t r7 x2_8 b_9 = X17 ∧ r7 = ((t.Gen.Width : Int) - b_9).toNat ∧ (0 : Int) ≤ b_9 ∧ (b_9 ≤ t.Gen.Width ∨ b_9 = 0) ∧ (-9223372036854775808 ≤ b_9 ∧ b_9 ≤ 9223372036854775807), r7⟩) (((t.Gen.Width : Int) - 0).toNat, [], 0, none, 0) [0, 0, 0, 0, 1, 2, 3] ⟨hX18, rfl, aM1, (.inr rfl), aM1⟩ ?_
 rintro ⟨r7, x2_8, b_9, a10, k11⟩ ⟨hM12, hr13, hi14, hi15, hk16⟩
 refine JJ_nx fun _ _ hL hA => ?_; dsimp only at hL hA; subst hL hA
 refine Fb 32 0 fun _ => Fb 8 4 fun _ => Fb 8 5 fun _ => Fb 16 6 fun _ => KS ?_
 refine Oq Vm (Oq (Vfa fo65_0 3) (Oq (VfaF fo42_0 3) (Oq (VldF sh3 3) (Oq Vlss (KS ?_)))))
 refine Kc ?_ ?_
 ·intro h25
  have g26 := dt h25
  obtain ⟨r27, rfl⟩ := scc (n := r7) aM1
  have H := hM12; (try dsimp only at H); rw [r1_table_L0] at H
  refine KS ?_
  refine Jp 1 fun hp28 => ?_
  refine JK_drawK [0, 1, 0, 0, 8, 24, 56, 0, 248, 508, 1020, 2047, 4095, 8191] fmix ?_
  refine Dv [0] (Vfa fo210_1 0) (Dv [2] (VldF sh25 0) (Dv [4] (VldA sh65 0) (Dv [4] (Vfa fo65_0 0) (Dv [4] (VfaF fo42_0 0) (Dv [4] (VldF sh3 0) ?_)))))
  refine pC H hx19 fun hc29 H => ?_
  refine lvH H fun rv31 hg32 H => ?_
  refine Dx [] [] [0, 1] (fun G => .agg #[vi rv31.Width, (G.g 6 0)]) [fun G => SP.fact (i64ok rv31.Width ∧ (rv31.Width = t.Gen.Width) ∧ (rv31.Words.length = (((t.Gen.Width : Int) + 63) / 64).toNat)), fun G => os (G.g 6 0) rv31.Words] (fun G => xC [] ca29 (fn29 t.Gen.Width pre pre rv31 hg32)) (Dv [] Vm ?_)
  refine pC H hx19 fun hc36 H => ?_
  refine pC H hx19 fun hc37 H => ?_
  refine lvH H fun rv39 hg40 H => ?_
  refine Dx [8, 9] [] [3, 1, 0, 1] (fun G => .agg #[vi rv39.Width, (G.g 8 0)]) [fun G => SP.fact (i64ok rv39.Width ∧ (rv39.Width = rv31.Width) ∧ (rv39.Words.length = ((rv31.Width + 63) / 64).toNat)), fun G => os (G.g 8 0) rv39.Words] (fun G => by refine xf 0 rfl ?_; rintro ⟨he41, he42, he43⟩; unfold i64ok at he41; exact xD [1] ca41 rfl rfl rfl (FT_open (γ := Value) (I := fun g => i64ok rv39.Width ∧ (rv39.Width = rv31.Width) ∧ (rv39.Words.length = ((rv31.Width + 63) / 64).toNat)) (V := fun g => .agg #[vi rv39.Width, g]) (B := fun g => [os (G.g 6 0) rv31.Words, os g rv39.Words]) (R := os (G.g 6 0) rv31.Words) os_slice (fun aq33 kq34 eq35 => by rw [eq35]; exact FT_ent (Ent.take (is := [0]) rfl) (FT_borrow (A := _) hlx (FT_ent (Ent.take (is := [0]) rfl) (fn41 rv31 aq33 kq34 b_9 pre pre pre pre rv39 hg40)))))) ?_
  refine pC H hx19 fun hc47 H => ?_
  refine pC H hx19 fun hc48 H => ?_
  refine lvH H fun rv50 hg51 H => ?_
  refine Dx [5, 6, 7, 8, 10, 11] [11] [3, 4, 5, 6, 7, 2, 0, 1] (fun G => .agg #[vi rv50.Width, (G.g 9 0)]) [fun G => sl (G.g 8 0) rv39.Words, fun G => SP.fact (i64ok rv50.Width), fun G => sl (G.g 9 0) rv50.Words] (fun G => by refine xf 3 rfl ?_; rintro ⟨he52, he53, he54⟩; unfold i64ok at he52; refine xf 4 rfl ?_; rintro ⟨he55, he56, he57⟩; unfold i64ok at he55; exact xp [5] rfl (Ent.freeze _ _) (xD [0, 1, 2, 3] ca153 rfl rfl rfl (FT_open (γ := Value) (I := fun g => i64ok rv50.Width) (V := fun g => .agg #[vi rv50.Width, g]) (B := fun g => [sl g rv50.Words]) (R := sl (G.g 8 0) rv39.Words) sl_slice (fun aq44 kq45 eq46 => by rw [eq46]; exact FT_ent (Ent.take (is := [1, 2, 3, 0]) rfl) (fn153 t ta1 tk1 ta3 tk3 ta4 tk4 rv39 aq44 kq45 pre pre pre pre pre rv50 hg51))))) (Dx [] [] [0] (fun G => (G.g 10 0)) [fun G => Cr (G.g 10 0) 1 [vi rv50.Width, (G.g 9 0)]] (fun G => xA (AsV sl25 sz25 [.agg #[vi rv50.Width, (G.g 9 0)]] [vi rv50.Width, (G.g 9 0)])) ?_)
  refine pC H hx19 fun hc59 H => ?_
  have hn61 := la x2_8 ([rv50] : List GSet)
  refine Dx [1, 13, 14, 15] [1, 15] [2, 1, 0] (fun G => (G.g 11 0)) [fun G => os (G.g 11 0) ((x2_8 ++ [rv50]) : List GSet)] (fun G => by refine xf 1 rfl ?_; rintro he62; unfold i64ok at he62; exact xp [3, 2] rfl (Ent.cr1 (α := GSet) (A := [sl (G.g 9 0) rv50.Words]) _ rv50 _ aB1 (fun h => ⟨_, rfl, aL1, sepAll_get (i := 0) rfl h⟩)) (xA (ApO [2, 0] sl25 sl25 sz25))) (Dv [0] (Vfa fo210_1 0) (Dx0 [2, 16] [2] [1, 0] [fun G => Cl p6 [vi t.Gen.Width, vl ta1 tk1 t.Gen.Words, (G.g 11 0)]] (fun G => x1 1 rfl os_one fun ho63 => (xS (OpS.frame [0] rfl (OpS.storeClF [(G.g 11 0)] [vi t.Gen.Width, vl ta1 tk1 t.Gen.Words, (G.g 11 0)] rfl rfl rfl sh25 (cells_of_one ho63) rfl (by simp only [List.all_cons, List.all_nil, ho63, Bool.and_true, Bool.true_and] <;> rfl) aB1 rfl)))) ?_))
  refine Dn ⟨by kernel_rfl, fun G => ?_⟩
  refine Jw2 [(1, p4), (2, p5), (3, p6), (4, vi b_9)] [0, 3, 4, 5, 6, 7] [SP.fact (i64ok rv31.Width ∧ (rv31.Width = t.Gen.Width) ∧ (rv31.Words.length = (((t.Gen.Width : Int) + 63) / 64).toNat)), os (G.g 6 0) rv31.Words, SP.fact (i64ok rv39.Width ∧ (rv39.Width = rv31.Width) ∧ (rv39.Words.length = ((rv31.Width + 63) / 64).toNat)), sl (G.g 8 0) rv39.Words, SP.fact (i64ok rv50.Width), sl (G.g 9 0) rv50.Words, os (G.g 11 0) ((x2_8 ++ [rv50]) : List GSet), Cl p6 [vi t.Gen.Width, vl ta1 tk1 t.Gen.Words, (G.g 11 0)]] ?_
  generalize G.g 6 0 = c30, G.g 8 0 = c38, G.g 9 0 = c49, G.g 11 0 = c60
  refine Jf 6 rfl ?_; rintro ⟨he64, he65, he66⟩
  unfold i64ok at he64
  refine Jf 8 rfl ?_; rintro ⟨he67, he68, he69⟩
  unfold i64ok at he67
  refine Jf 10 rfl ?_; rintro he70
  unfold i64ok at he70
  refine Jk [1, 1, 2, 3, 4, 6, 7, 9, 10, 10] ?_
  refine Jo 5 ?_; rintro a71 k72 rfl
  refine Fb 8 5 fun _ => ?_
  refine Jo 6 ?_; rintro a74 k75 rfl
  refine Fb 8 6 fun _ => ?_
  refine Jo 7 ?_; rintro a77 k78 rfl
  refine Fb 8 7 fun _ => ?_
  refine Jo 8 ?_; rintro a80 k81 rfl
  refine Fb 32 8 fun _ => KS ?_
  refine Oq Vm (Oq Vadd (Oq Va (KS ?_)))
  refine pC H hx19 fun hc83 H => ?_
  exact Kg (r27, (x2_8 ++ [rv50]), (b_9 + 1), a80, k81) [8, 8, 0, 0, 1, 2, 3] ⟨H, aM1, aM1, aM1, aM1⟩
 intro h25
 have g84 := df h25
 obtain rfl : r7 = 0 := by omega
 have H := hM12; (try dsimp only at H); rw [r1_table_L0] at H
 refine Ke ?_
 have H := llB H HL20
 refine KS ?_
 refine Oq (VldA sh210 1) (Ost (Scl [2] sh210 [vi t.Gen.Width, vl ta1 tk1 t.Gen.Words, vl a10 k11 x2_8]) (KS ?_))
 refine Jl [1] (Ent.freeze _ _) ?_
 have hq := rI H; subst hq
 exact Kr (vl ta1 tk1 t.Gen.Words, vl a10 k11 x2_8) rfl (.cellN 1 rfl sh210 rfl (reads_Cl _ _) rfl .nil) [4, 0] en
theorem fn107 (a : GCopy) (b : GCopy) (ha_0 : i64ok a.From) (ha_1 : i64ok a.To) (hb_0 : i64ok b.From) (hb_1 : i64ok b.To) (rr : Bool) (hrr : r1_Before a b = rr) : FT Tryz.prog 107 #[.agg #[vi a.From, vi a.To], .agg #[vi b.From, vi b.To]] [] (fun g : Unit => True) (fun g => vb rr) (fun g => []) := by
 refine FTi Tryz.func107 fun w0 M0 F0 => ?_
 unfold i64ok at ha_0 ha_1 hb_0 hb_1
 refine KS ?_
 refine Oa (Ab [vi a.From, vi a.To]) fun p1 => Oa (Ab [vi b.From, vi b.To]) fun p2 => Oq Va (KS ?_)
 refine Oq (Vfa fo105_0 1) (Oq (VldF sh3 1) (Oq (Vfa fo105_0 0) (Oq (VldF sh3 0) (Oq Vlss (Oq Vm ?_)))))
 refine Js 10 ?_ ?_
 ·intro h3
  have g4 := dt h3
  refine Osk (Osk (Osk (Osk (Osk (Osk (Osk (Osk (Osk (Osk ?_)))))))))
  refine Osk (Osk (Oq Vpt (Oq Va (KS ?_))))
  have hq := q4 hrr true (by simp only [r1_Before, h3, cs4]); subst hq
  exact Kr () rfl (.tmp rfl .nil) [] trivial
 intro h3
 have g5 := df h3
 refine Oq (Vfa fo105_0 1) (Oq (VldF sh3 1) (Oq (Vfa fo105_0 0) (Oq (VldF sh3 0) (Oq Veql (Oq Vm ?_)))))
 refine Js 16 ?_ ?_
 ·intro h6
  have g7 := eq_of_beq h6
  refine Oq (Vfa fo105_1 1) (Oq (VldF sh3 1) (Oq (Vfa fo105_1 0) (Oq (VldF sh3 0) (Oq Vlss (Oq Vpt (Oq Vpf (Oq Va (KS ?_))))))))
  have hq := q4 hrr (decide (a.To < b.To)) (by simp only [r1_Before, h3, h6, cs4]); subst hq
  exact Kr () rfl (.tmp rfl .nil) [] trivial
 intro h6
 have g8 := ne_of_beq_false h6
 refine Osk (Osk (Osk (Osk (Osk (Oq Vpf (Oq Vpf (Oq Va (KS ?_))))))))
 have hq := q4 hrr false (by simp only [r1_Before, h3, h6, cs4]); subst hq
 exact Kr () rfl (.tmp rfl .nil) [] trivial
theorem fn68 (t : GTransfer) (ta1 : Option Addr) (tk1 : Nat) (ta3 : Option Addr) (tk3 : Nat) (ta4 : Option Addr) (tk4 : Nat) (ht_0 : i64ok t.Gen.Width) (ht_2 : i64ok t.Kill.Width) (rr : Bool) (hrr : r1_ValidTransfer t = rr) : FT Tryz.prog 68 #[.agg #[vi t.Gen.Width, vl ta1 tk1 t.Gen.Words, vi t.Kill.Width, vl ta3 tk3 t.Kill.Words, vl ta4 tk4 t.Copies]] [S ta1 tk1 t.Gen.Words, S ta3 tk3 t.Kill.Words, S ta4 tk4 t.Copies] (fun g : Unit => True) (fun g => vb rr) (fun g => []) := by
 refine FTi Tryz.func68 fun w0 M0 F0 => ?_
 unfold i64ok at ht_0 ht_2
 refine Fb 8 0 fun _ => Fb 8 1 fun _ => Fb 16 2 fun _ => KS ?_
 refine Oa (Ab [vi t.Gen.Width, vl ta1 tk1 t.Gen.Words, vi t.Kill.Width, vl ta3 tk3 t.Kill.Words, vl ta4 tk4 t.Copies]) fun p4 => Oq Va (KS ?_)
 refine Oq (Vfa fo65_0 0) (Oq (VldG sh42 0 [vi t.Gen.Width, vl ta1 tk1 t.Gen.Words]) ?_)
 refine letv (r1_Valid t.Gen) fun rv5 hg6 => ?_
 have hc7 := fn53 t.Gen ta1 tk1 pre rv5 hg6
 refine Oc [1] ca53 hc7 ?_
 rintro - -
 refine Oq Vnot (Oq Vm ?_)
 refine Js 10 ?_ ?_
 ·intro h8
  have h10 := not_true h8
  refine Osk (Osk (Osk (Osk (Oq Vpt (Oq Vm (Osk (Osk (Osk (Osk ?_)))))))))
  refine Osk (Osk (Osk (Oq Vpt (Oq Vm (Osk (Osk (Osk (Osk (Oq Vpt ?_)))))))))
  refine KS ?_
  refine Kt (KS ?_)
  refine Oq Va (KS ?_)
  have hq := q4 hrr false (by simp only [r1_ValidTransfer, h8, h10, hg6, cs4]); subst hq
  exact Kr () rfl (.tmp rfl .nil) [] trivial
 intro h8
 have h13 := not_false h8
 refine Oq (Vfa fo65_1 0) (Oq (VldG sh42 0 [vi t.Kill.Width, vl ta3 tk3 t.Kill.Words]) ?_)
 refine letv (r1_Valid t.Kill) fun rv15 hg16 => ?_
 have hc17 := fn53 t.Kill ta3 tk3 pre rv15 hg16
 refine Oc [2] ca53 hc17 ?_
 rintro - -
 refine Oq Vnot (Oq Vpf (Oq Vm ?_))
 refine Js 16 ?_ ?_
 ·intro h18
  have h20 := not_true h18
  refine Osk (Osk (Osk (Osk (Osk (Osk (Osk (Oq Vpt (Oq Vm (Osk ?_)))))))))
  refine Osk (Osk (Osk (Oq Vpt (KS ?_))))
  refine Kt (KS ?_)
  refine Oq Va (KS ?_)
  have hq := q4 hrr false (by simp only [r1_ValidTransfer, h8, h13, h18, h20, hg6, hg16, cs4]); subst hq
  exact Kr () rfl (.tmp rfl .nil) [] trivial
 intro h18
 have h23 := not_false h18
 refine Oq (Vfa fo65_0 0) (Oq (VfaF fo42_0 0) (Oq (VldF sh3 0) (Oq (Vfa fo65_1 0) (Oq (VfaF fo42_0 0) (Oq (VldF sh3 0) (Oq Vneq (Oq Vpf (Oq Vm ?_))))))))
 refine Js 25 ?_ ?_
 ·intro h25
  have g26 := ne_of_bne h25
  refine Osk (Osk (Osk (Osk (Oq Vpt (KS ?_)))))
  refine Kt (KS ?_)
  refine Oq Va (KS ?_)
  have hq := q4 hrr false (by simp only [r1_ValidTransfer, h8, h13, h18, h23, h25, hg6, hg16, cs4]); subst hq
  exact Kr () rfl (.tmp rfl .nil) [] trivial
 intro h25
 have g27 := eq_of_bne_false h25
 refine Oq (Vfa fo65_2 0) (Oq (VldF sh63 0) (Oq (Vlen sl63) (Oq Vgtr (Oq Vpf (KS ?_)))))
 refine Kc ?_ ?_
 ·intro h28
  have g29 := dt h28
  refine KS ?_
  refine Oq Va (KS ?_)
  have hq := q4 hrr false (by simp only [r1_ValidTransfer, h8, h13, h18, h23, h25, h28, hg6, hg16, cs4]); subst hq
  exact Kr () rfl (.tmp rfl .nil) [] trivial
 intro h28
 have g30 := df h28
 refine KS ?_
 refine Oq (Vfa fo65_0 0) (Oq (VfaF fo42_0 0) (Oq (VldF sh3 0) (Oq Va (KS ?_))))
 refine Oq Va (KS ?_)
 refine Kl (γ := Nat × Int) (fun (r31, i_32) => ⟨[(1, p4), (3, vi t.Gen.Width), (4, vi i_32)], [pv p4 [vi t.Gen.Width, vl ta1 tk1 t.Gen.Words, vi t.Kill.Width, vl ta3 tk3 t.Kill.Words, vl ta4 tk4 t.Copies], S ta1 tk1 t.Gen.Words, S ta3 tk3 t.Kill.Words, S ta4 tk4 t.Copies], r1_ValidTransfer_L0 t r31 i_32 = r1_ValidTransfer_L0 t (((t.Copies.length : Int) - 0).toNat) 0 ∧ r31 = ((t.Copies.length : Int) - i_32).toNat ∧ (0 : Int) ≤ i_32 ∧ i_32 ≤ (t.Copies.length : Int) ∧ (-9223372036854775808 ≤ i_32 ∧ i_32 ≤ 9223372036854775807), r31⟩) (((t.Copies.length : Int) - 0).toNat, 0) [0, 1, 2, 3] ⟨rfl, rfl, aM1, aM1, aM1⟩ ?_
 rintro ⟨r31, i_32⟩ ⟨hM33, hr34, hi35, hi36, hk37⟩
 refine JJ_nx fun _ _ hL hA => ?_; dsimp only at hL hA; subst hL hA
 refine Fb 8 1 fun _ => Fb 8 2 fun _ => Fb 16 3 fun _ => KS ?_
 refine Oq Vm (Oq (Vfa fo65_2 0) (Oq (VldF sh63 0) (Oq (Vlen sl63) (Oq Vlss (KS ?_)))))
 refine Kc ?_ ?_
 ·intro h41
  have g42 := dt h41
  obtain ⟨r43, rfl⟩ := scc (n := r31) aM1
  refine KS ?_
  refine Oq (Vfa fo65_2 0) (Oq (VldF sh63 0) (Oq Vm (Oq (Vi sl63 3) ?_)))
  refine JJ_peek_GCopy i_32.toNat 3 rfl rng fun hb44 hb45 => ?_
  unfold i64ok at hb44 hb45
  refine Oq (VldA sh105 0) (Oa (Al ze105 [vi 0, vi 0]) fun p46 => Ost (Scl [0] sh105 [vi ((t.Copies.getD i_32.toNat default).From), vi ((t.Copies.getD i_32.toNat default).To)]) (KS ?_))
  refine Jp 0 fun hp47 => ?_
  refine bool_split (decide ((t.Copies.getD i_32.toNat default).From < 0)) ?_ ?_
  ·intro h48
   have g49 := dt h48
   refine Kq [0, 1, 3, 7, 15, 31, 15, 127, 255, 511, 1023, 2047, 4095, 8191, 16383, 32767, 65535, 32767, 262143, 524287, 1048575, 2097151, 4194303, 8388607, 16777215, 33554431, 16777215, 83886079, 268435455, 536870911, 16777215, 2147483647, 4294967295, 8589934591, 17179869183] fmix ?_
   refine Qv [0] (Vfa fo105_0 0) (Qv [1] (VldF sh3 0) (Qb h48 [] Vlss (Qv [] Vm (Qs (Qs (Qs (Qs (Qv [] Vpt (Qv [] Vm ?_)))))))))
   refine Qs (Qs (Qs (Qv [] Vpt (Qv [] Vm (Qs (Qs (Qs (Qs (Qv [] Vpt ?_)))))))))
   refine Qv [] Vm (Qs (Qs (Qs (Qs (Qs (Qs (Qs (Qs (Qs ?_)))))))))
   refine Qs (Qs (Qs (Qs (Qv [] Vpt ?_))))
   refine Qn ⟨by kernel_rfl, ?_⟩
   refine Kt (KS ?_)
   refine Oq Va (KS ?_)
   have hR50 := q2 hM33 (.ret false) (by simp only [r1_ValidTransfer_L0, h41, h48, cs4])
   have hq := q4 hrr false (by simp only [r1_ValidTransfer, h8, h13, h18, h23, h25, h28, h41, h48, hg6, hg16, hR50, cs4]); subst hq
   exact Kr () rfl (.tmp rfl .nil) [] trivial
  intro h48
  have g51 := df h48
  refine bool_split (decide (t.Gen.Width ≤ (t.Copies.getD i_32.toNat default).From)) ?_ ?_
  ·intro h52
   have g53 := dt h52
   refine Kq [0, 1, 3, 7, 15, 31, 15, 127, 255, 511, 1023, 2047, 4095, 8191, 16383, 32767, 65535, 32767, 262143, 524287, 1048575, 2097151, 4194303, 8388607, 16777215, 33554431, 16777215, 83886079, 268435455, 536870911, 16777215, 2147483647, 4294967295, 8589934591, 17179869183] fmix ?_
   refine Qv [0] (Vfa fo105_0 0) (Qv [1] (VldF sh3 0) (Qb h48 [] Vlss (Qv [] Vm (Qv [0] (Vfa fo105_0 0) (Qv [1] (VldF sh3 0) (Qv [] Vm (Qb h52 [] Vgeq (Qv [] Vpf (Qv [] Vm ?_)))))))))
   refine Qs (Qs (Qs (Qv [] Vpt (Qv [] Vm (Qs (Qs (Qs (Qs (Qv [] Vpt ?_)))))))))
   refine Qv [] Vm (Qs (Qs (Qs (Qs (Qs (Qs (Qs (Qs (Qs ?_)))))))))
   refine Qs (Qs (Qs (Qs (Qv [] Vpt ?_))))
   refine Qn ⟨by kernel_rfl, ?_⟩
   refine Kt (KS ?_)
   refine Oq Va (KS ?_)
   have hR54 := q2 hM33 (.ret false) (by simp only [r1_ValidTransfer_L0, h41, h48, h52, cs4])
   have hq := q4 hrr false (by simp only [r1_ValidTransfer, h8, h13, h18, h23, h25, h28, h41, h48, h52, hg6, hg16, hR54, cs4]); subst hq
   exact Kr () rfl (.tmp rfl .nil) [] trivial
  intro h52
  have g55 := df h52
  refine bool_split (decide ((t.Copies.getD i_32.toNat default).To < 0)) ?_ ?_
  ·intro h56
   have g57 := dt h56
   refine Kq [0, 1, 3, 7, 15, 31, 15, 127, 255, 511, 1023, 2047, 4095, 8191, 16383, 32767, 65535, 32767, 262143, 524287, 1048575, 2097151, 4194303, 8388607, 16777215, 33554431, 16777215, 83886079, 268435455, 536870911, 16777215, 2147483647, 4294967295, 8589934591, 17179869183] fmix ?_
   refine Qv [0] (Vfa fo105_0 0) (Qv [1] (VldF sh3 0) (Qb h48 [] Vlss (Qv [] Vm (Qv [0] (Vfa fo105_0 0) (Qv [1] (VldF sh3 0) (Qv [] Vm (Qb h52 [] Vgeq (Qv [] Vpf (Qv [] Vm ?_)))))))))
   refine Qv [0] (Vfa fo105_1 0) (Qv [1] (VldF sh3 0) (Qb h56 [] Vlss (Qv [] Vpf (Qv [] Vm (Qs (Qs (Qs (Qs (Qv [] Vpt ?_)))))))))
   refine Qv [] Vm (Qs (Qs (Qs (Qs (Qs (Qs (Qs (Qs (Qs ?_)))))))))
   refine Qs (Qs (Qs (Qs (Qv [] Vpt ?_))))
   refine Qn ⟨by kernel_rfl, ?_⟩
   refine Kt (KS ?_)
   refine Oq Va (KS ?_)
   have hR58 := q2 hM33 (.ret false) (by simp only [r1_ValidTransfer_L0, h41, h48, h52, h56, cs4])
   have hq := q4 hrr false (by simp only [r1_ValidTransfer, h8, h13, h18, h23, h25, h28, h41, h48, h52, h56, hg6, hg16, hR58, cs4]); subst hq
   exact Kr () rfl (.tmp rfl .nil) [] trivial
  intro h56
  have g59 := df h56
  refine bool_split (decide (t.Gen.Width ≤ (t.Copies.getD i_32.toNat default).To)) ?_ ?_
  ·intro h60
   have g61 := dt h60
   refine Kq [0, 1, 3, 7, 15, 31, 15, 127, 255, 511, 1023, 2047, 4095, 8191, 16383, 32767, 65535, 32767, 262143, 524287, 1048575, 2097151, 4194303, 8388607, 16777215, 33554431, 16777215, 83886079, 268435455, 536870911, 16777215, 2147483647, 4294967295, 8589934591, 17179869183] fmix ?_
   refine Qv [0] (Vfa fo105_0 0) (Qv [1] (VldF sh3 0) (Qb h48 [] Vlss (Qv [] Vm (Qv [0] (Vfa fo105_0 0) (Qv [1] (VldF sh3 0) (Qv [] Vm (Qb h52 [] Vgeq (Qv [] Vpf (Qv [] Vm ?_)))))))))
   refine Qv [0] (Vfa fo105_1 0) (Qv [1] (VldF sh3 0) (Qb h56 [] Vlss (Qv [] Vpf (Qv [] Vm (Qv [0] (Vfa fo105_1 0) (Qv [1] (VldF sh3 0) (Qv [] Vm (Qb h60 [] Vgeq (Qv [] Vpf ?_)))))))))
   refine Qv [] Vm (Qs (Qs (Qs (Qs (Qs (Qs (Qs (Qs (Qs ?_)))))))))
   refine Qs (Qs (Qs (Qs (Qv [] Vpt ?_))))
   refine Qn ⟨by kernel_rfl, ?_⟩
   refine Kt (KS ?_)
   refine Oq Va (KS ?_)
   have hR62 := q2 hM33 (.ret false) (by simp only [r1_ValidTransfer_L0, h41, h48, h52, h56, h60, cs4])
   have hq := q4 hrr false (by simp only [r1_ValidTransfer, h8, h13, h18, h23, h25, h28, h41, h48, h52, h56, h60, hg6, hg16, hR62, cs4]); subst hq
   exact Kr () rfl (.tmp rfl .nil) [] trivial
  intro h60
  have g63 := df h60
  refine bool_split (decide (0 < i_32)) ?_ ?_
  ·intro h64
   have g65 := dt h64
   refine JJ_peek_GCopy ((i_32 - 1) : Int).toNat 6 rfl rng fun hb66 hb67 => ?_
   unfold i64ok at hb66 hb67
   refine JK_drawK [0, 1, 3, 7, 15, 31, 15, 127, 255, 511, 1023, 2047, 4095, 8191, 16383, 32767, 65535, 32767, 262143, 524287, 1048575, 2097151, 4194303, 8388607, 16777215, 33554431, 16777215, 83886079, 268435455, 536870911, 16777215, 2147483647, 4294967295, 8589934591, 17179869183] fmix ?_
   refine Dv [1] (Vfa fo105_0 0) (Dv [2] (VldF sh3 0) (Db h48 [] Vlss (Dv [] Vm (Dv [1] (Vfa fo105_0 0) (Dv [2] (VldF sh3 0) (Dv [] Vm (Db h52 [] Vgeq (Dv [] Vpf (Dv [] Vm ?_)))))))))
   refine Dv [1] (Vfa fo105_1 0) (Dv [2] (VldF sh3 0) (Db h56 [] Vlss (Dv [] Vpf (Dv [] Vm (Dv [1] (Vfa fo105_1 0) (Dv [2] (VldF sh3 0) (Dv [] Vm (Db h60 [] Vgeq (Dv [] Vpf ?_)))))))))
   refine Dv [] Vm (Dv [] Vm (Db h64 [] Vgtr (Dv [] Vm (Dv [4] (Vfa fo65_2 0) (Dv [4] (VldF sh63 0) (Dv [] Vm (Dv [] Vsub (Dv [7] (Vi sl63 0) (Dv [0] (VldA sh105 0) ?_)))))))))
   refine Dv [2] (VldA sh105 0) ?_
   refine letv (r1_Before (t.Copies.getD ((i_32 - 1) : Int).toNat default) (t.Copies.getD i_32.toNat default)) fun rv68 hg69 => ?_
   refine Dx [] [] [0] (fun G => vb rv68) [fun G => SP.fact (True)] (fun G => xC [] ca107 (fn107 ((t.Copies.getD ((i_32 - 1) : Int).toNat default)) ((t.Copies.getD i_32.toNat default)) pre pre pre pre rv68 hg69)) (Dv [] Vnot (Dv [] Vpt (Dv [] Vpf ?_)))
   refine Dn ⟨by kernel_rfl, fun G => ?_⟩
   refine Jw2 [(1, p4), (3, vi t.Gen.Width), (4, vi i_32), (80, vb (!rv68))] [0, 1, 2, 3, 4, 5, 6, 7] [SP.fact (True)] ?_
   refine Jk [0, 2, 2, 3, 4, 5, 6] ?_
   refine Kc ?_ ?_
   ·intro h70
    have h72 := not_true h70
    refine KS ?_
    refine Oq Va (KS ?_)
    have hR74 := q2 hM33 (.ret false) (by simp only [r1_ValidTransfer_L0, h41, h48, h52, h56, h60, h64, h70, h72, hg69, cs4])
    have hq := q4 hrr false (by simp only [r1_ValidTransfer, h8, h13, h18, h23, h25, h28, h41, h48, h52, h56, h60, h64, h70, h72, hg6, hg16, hg69, hR74, cs4]); subst hq
    exact Kr () rfl (.tmp rfl .nil) [] trivial
   intro h70
   have h76 := not_false h70
   refine KS ?_
   refine Oq Vm (Oq Vadd (Oq Va (KS ?_)))
   exact Kg (r43, (i_32 + 1)) [3, 4, 5, 6] ⟨(q3 hM33 (by simp only [r1_ValidTransfer_L0, h41, h48, h52, h56, h60, h64, h70, h76, hg69, cs4])), aM1, aM1, aM1, aM1⟩
  intro h64
  have g78 := df h64
  refine Kq [0, 1, 3, 7, 15, 31, 15, 127, 255, 511, 1023, 2047, 4095, 8191, 16383, 32767, 65535, 32767, 262143, 524287, 1048575, 2097151, 4194303, 8388607, 16777215, 33554431, 16777215, 83886079, 268435455, 536870911, 16777215, 2147483647, 4294967295, 8589934591, 17179869183] fmix ?_
  refine Qv [0] (Vfa fo105_0 0) (Qv [1] (VldF sh3 0) (Qb h48 [] Vlss (Qv [] Vm (Qv [0] (Vfa fo105_0 0) (Qv [1] (VldF sh3 0) (Qv [] Vm (Qb h52 [] Vgeq (Qv [] Vpf (Qv [] Vm ?_)))))))))
  refine Qv [0] (Vfa fo105_1 0) (Qv [1] (VldF sh3 0) (Qb h56 [] Vlss (Qv [] Vpf (Qv [] Vm (Qv [0] (Vfa fo105_1 0) (Qv [1] (VldF sh3 0) (Qv [] Vm (Qb h60 [] Vgeq (Qv [] Vpf ?_)))))))))
  refine Qv [] Vm (Qv [] Vm (Qb h64 [] Vgtr (Qv [] Vm (Qs (Qs (Qs (Qs (Qs (Qs ?_)))))))))
  refine Qs (Qs (Qs (Qv [] Vpf (Qv [] Vpf ?_))))
  refine Qn ⟨by kernel_rfl, ?_⟩
  refine Kf (KS ?_)
  refine Oq Vm (Oq Vadd (Oq Va (KS ?_)))
  exact Kg (r43, (i_32 + 1)) [3, 4, 5, 6] ⟨(q3 hM33 (by simp only [r1_ValidTransfer_L0, h41, h48, h52, h56, h60, h64, cs4])), aM1, aM1, aM1, aM1⟩
 intro h41
 have g79 := df h41
 obtain rfl : r31 = 0 := by omega
 refine Ke ?_
 have hR80 := q2 hM33 (.brk ()) (by simp only [r1_ValidTransfer_L0, h41, cs4])
 refine KS ?_
 refine Oq Va (KS ?_)
 have hq := q4 hrr true (by simp only [r1_ValidTransfer, h8, h13, h18, h23, h25, h28, h41, hg6, hg16, hR80, cs4]); subst hq
 exact Kr () rfl (.tmp rfl .nil) [] trivial
theorem fn133 (t : GTransfer) (ta1 : Option Addr) (tk1 : Nat) (ta3 : Option Addr) (tk3 : Nat) (ta4 : Option Addr) (tk4 : Nat) (ht_0 : i64ok t.Gen.Width) (ht_2 : i64ok t.Kill.Width) (rr : GTransfer × Int) (hrr : r1_Canon t = .ret rr) : FT Tryz.prog 133 #[.agg #[vi t.Gen.Width, vl ta1 tk1 t.Gen.Words, vi t.Kill.Width, vl ta3 tk3 t.Kill.Words, vl ta4 tk4 t.Copies]] [S ta1 tk1 t.Gen.Words, S ta3 tk3 t.Kill.Words, S ta4 tk4 t.Copies] (fun g : Value × Value × Value => i64ok rr.1.Gen.Width ∧ i64ok rr.1.Kill.Width ∧ i64ok rr.2) (fun g => .tuple #[.agg #[vi rr.1.Gen.Width, g.1, vi rr.1.Kill.Width, g.2.1, g.2.2], vi rr.2]) (fun g => [sl g.1 rr.1.Gen.Words, sl g.2.1 rr.1.Kill.Words, sl g.2.2 rr.1.Copies]) := by
 refine FTi Tryz.func133 fun w0 M0 F0 => ?_
 unfold i64ok at ht_0 ht_2
 refine Fb 8 0 fun _ => Fb 8 1 fun _ => Fb 16 2 fun _ => ?_
 have hx0 := lrn rr; have H := hrr; unfold r1_Canon at H
 refine KS ?_
 refine Oa (Ab [vi t.Gen.Width, vl ta1 tk1 t.Gen.Words, vi t.Kill.Width, vl ta3 tk3 t.Kill.Words, vl ta4 tk4 t.Copies]) fun p4 => Oa (Al ze65 [vi 0, .slice none 0 0, vi 0, .slice none 0 0, .slice none 0 0]) fun p5 => Oq Va (KS ?_)
 refine Oq (VldA sh65 1) ?_
 refine lvH H fun rv6 hg7 H => ?_
 have hc8 := fn68 t ta1 tk1 ta3 tk3 ta4 tk4 pre pre rv6 hg7
 refine Oc [2, 3, 4] ca68 hc8 ?_
 rintro - -
 refine Oq Vnot (KS ?_)
 refine pF H hx0 fun h9 H => ?_
 refine KcF h9 ?_
 have h11 := not_false h9
 refine KS ?_
 refine Oq (VldA sh65 1) ?_
 refine lbH H hx0 fun rv15 hg16 H => ?_
 have hc17 := fn169 t ta1 tk1 ta3 tk3 ta4 tk4 pre pre rv15 hg16
 refine Oc [2, 3, 4] ca169 hc17 ?_
 rintro ⟨c13, c14⟩ he18
 unfold i64ok at he18
 refine Jo 0 ?_; rintro a19 k20 rfl
 refine Fb 8 0 fun _ => ?_
 refine Jo 1 ?_; rintro a22 k23 rfl
 refine Fb 32 1 fun _ => ?_
 refine lbH H hx0 fun rv28 hg29 H => ?_
 have hc30 := fn168 rv15 a19 k20 a22 k23 pre rv28 hg29
 refine Oc [0, 1] ca168 hc30 ?_
 rintro ⟨c25, c26, c27⟩ ⟨he31, he32⟩
 unfold i64ok at he31 he32
 refine Jo 0 ?_; rintro a33 k34 rfl
 refine Fb 8 0 fun _ => ?_
 refine Jo 1 ?_; rintro a36 k37 rfl
 refine Fb 8 1 fun _ => ?_
 refine Jo 2 ?_; rintro a39 k40 rfl
 refine Fb 16 2 fun _ => ?_
 refine Oq Vm (Oq Vx (Oq Vx (Oa (Al ze65 [vi 0, .slice none 0 0, vi 0, .slice none 0 0, .slice none 0 0]) fun p42 => Ost (Scl [0] sh65 [vi rv28.1.Gen.Width, vl a33 k34 rv28.1.Gen.Words, vi rv28.1.Kill.Width, vl a36 k37 rv28.1.Kill.Words, vl a39 k40 rv28.1.Copies]) (Oq Va (KS ?_)))))
 refine Oq (VldA sh65 0) (Ost (Scl [6] sh65 [vi rv28.1.Gen.Width, vl a33 k34 rv28.1.Gen.Words, vi rv28.1.Kill.Width, vl a36 k37 rv28.1.Kill.Words, vl a39 k40 rv28.1.Copies]) (Oq Va (KS ?_)))
 have hq := rI H; subst hq
 exact Kr (vl a33 k34 rv28.1.Gen.Words, vl a36 k37 rv28.1.Kill.Words, vl a39 k40 rv28.1.Copies) rfl (.cellN 0 rfl sh65 rfl (reads_Cl _ _) rfl (.tmp rfl .nil)) [2, 3, 4] en
theorem fn134 (l : List GFact) (la0 : Option Addr) (lk0 : Nat) (v : Int) (hv_0 : i64ok v) (rr : GSet) (hrr : r10_bits l v = .ret rr) : FT Tryz.prog 134 #[vl la0 lk0 l, vi v] [S la0 lk0 l] (fun g : Value => i64ok rr.Width) (fun g => .agg #[vi rr.Width, g]) (fun g => [sl g rr.Words]) := by
 refine FTi Tryz.func134 fun w0 M0 F0 => ?_
 unfold i64ok at hv_0
 refine Fb 16 0 fun _ => ?_
 have hx0 := lrn rr; have H := hrr; unfold r10_bits at H
 refine KS ?_
 refine Oa (Al ze42 [vi 0, .slice none 0 0]) fun p2 => KS ?_
 refine Oq Vm (Oq (Vlen sl130) ?_)
 refine pC H hx0 fun hc3 H => ?_
 refine lvH H fun rv5 hg6 H => ?_
 have hc7 := fn29 ((l.length : Int)) pre pre rv5 hg6
 refine Oc [] ca29 hc7 ?_
 rintro c4 ⟨he8, he9, he10⟩
 unfold i64ok at he8
 refine Jo 0 ?_; rintro a11 k12 rfl
 refine Fb 8 0 fun _ => ?_
 refine Oa (Al ze42 [vi 0, .slice none 0 0]) fun p14 => Ost (Scl [0] sh42 [vi rv5.Width, vl a11 k12 rv5.Words]) (KS ?_)
 refine Oq Va (KS ?_)
 refine llH H hx0 fun X27 hX28 hx29 HL30 => ?_
 refine Kl (γ := Nat × Int × List (BitVec 64) × Int × Option Addr × Nat) (fun (r15, s0_16, s1_17, i_18, a19, k20) => ⟨[(0, vl la0 lk0 l), (1, vi v), (4, p2), (5, p14), (6, vi i_18)], [O a19 k20 s1_17, Cl p14 [vi s0_16, vl a19 k20 s1_17], Cl p2 [vi 0, .slice none 0 0], S la0 lk0 l], r10_bits_L0 l v r15 s0_16 s1_17 i_18 = X27 ∧ r15 = ((l.length : Int) - i_18).toNat ∧ (0 : Int) ≤ i_18 ∧ i_18 ≤ (l.length : Int) ∧ (-9223372036854775808 ≤ s0_16 ∧ s0_16 ≤ 9223372036854775807) ∧ (-9223372036854775808 ≤ i_18 ∧ i_18 ≤ 9223372036854775807), r15⟩) (((l.length : Int) - 0).toNat, rv5.Width, rv5.Words, 0, a11, k12) [1, 0, 0, 0] ⟨hX28, rfl, aM1, aM1, aM1, aM1⟩ ?_
 rintro ⟨r15, s0_16, s1_17, i_18, a19, k20⟩ ⟨hM21, hr22, hi23, hi24, hk25, hk26⟩
 refine JJ_nx fun _ _ hL hA => ?_; dsimp only at hL hA; subst hL hA
 refine Fb 8 0 fun _ => Fb 16 3 fun _ => KS ?_
 refine Oq Vm (Oq Vm (Oq (Vlen sl130) (Oq Vlss (KS ?_))))
 refine Kc ?_ ?_
 ·intro h33
  have g34 := dt h33
  obtain ⟨r35, rfl⟩ := scc (n := r15) aM1
  have H := hM21; (try dsimp only at H); rw [r10_bits_L0] at H
  refine KS ?_
  refine Oq Vm (Oq Vm ?_)
  refine pC H hx29 fun hc36 H => ?_
  refine Oq (Vi sl130 3) ?_
  refine JJ_peek_GFact i_18.toNat 3 rfl rng fun hb37 hb38 => ?_
  unfold i64ok at hb37 hb38
  refine Oq (Vfa fo174_1 0) (Oq (VldF sh3 0) (Oq Vm (Oq Veql (KS ?_))))
  refine pC H hx29 fun hc40 H => ?_
  refine pT H hx29 fun h39 H => ?_
  refine KcT h39 ?_
  have g41 := eq_of_beq h39
  refine KS ?_
  refine Oq (VldA sh42 2) (Oq Vm ?_)
  refine pC H hx29 fun hc42 H => ?_
  refine pC H hx29 fun hc43 H => ?_
  refine lvH H fun rv45 hg46 H => ?_
  refine Oc [1] ca41 (FT_borrow (A := _) hlx (FT_ent (Ent.take (is := [0]) rfl) (fn41 ((GSet.mk s0_16 s1_17)) a19 k20 i_18 pre pre pre pre rv45 hg46))) ?_ (ht := rfl)
  rintro c44 ⟨he47, he48, he49⟩
  unfold i64ok at he47
  have he48 : (rv45.Width = s0_16) := he48
  have he49 : (rv45.Words.length = ((s0_16 + 63) / 64).toNat) := he49
  refine Jo 1 ?_; rintro a50 k51 rfl
  refine Fb 8 1 fun _ => ?_
  refine Ost (Scl [3] sh42 [vi rv45.Width, vl a50 k51 rv45.Words]) (KS ?_)
  refine Oq Vm (Oq Vadd (Oq Va (KS ?_)))
  refine pC H hx29 fun hc53 H => ?_
  exact Kg (r35, rv45.Width, rv45.Words, (i_18 + 1), a50, k51) [2, 0, 2, 2] ⟨H, aM1, aM1, aM1, aM1, aM1⟩
 intro h33
 have g54 := df h33
 obtain rfl : r15 = 0 := by omega
 have H := hM21; (try dsimp only at H); rw [r10_bits_L0] at H
 refine Ke ?_
 have H := llB H HL30
 dsimp only at H
 refine KS ?_
 refine Oq (VldA sh42 1) (Ost (Scl [2] sh42 [vi s0_16, vl a19 k20 s1_17]) (KS ?_))
 refine Jl [1] (Ent.freeze _ _) ?_
 have hq := rI H; subst hq
 exact Kr (vl a19 k20 s1_17) rfl (.cellN 1 rfl sh42 rfl (reads_Cl _ _) rfl .nil) [0] en
theorem fn92 (p : GProgram) (pa0 : Option Addr) (pk0 : Nat) (kind : Int) (l : List GFact) (la0 : Option Addr) (lk0 : Nat) (node : Int) (s : GStmt) (sa2 : Option Addr) (sk2 : Nat) (sa3 : Option Addr) (sk3 : Nat) (hkind_0 : i64ok kind) (hnode_0 : i64ok node) (hs_0 : i64ok s.Op) (hs_1 : s.Def.b.length ≤ 140737488355328) (rr : GTransfer) (hrr : r10_transfer p kind l node s = .ret rr) : FT Tryz.prog 92 #[.agg #[vl pa0 pk0 p.Funcs], vi kind, vl la0 lk0 l, vi node, .agg #[vi s.Op, .string (bs s.Def), vl sa2 sk2 s.Uses, vl sa3 sk3 s.Targets]] [S pa0 pk0 p.Funcs, S la0 lk0 l, S sa2 sk2 s.Uses, S sa3 sk3 s.Targets] (fun g : Value × Value × Value => i64ok rr.Gen.Width ∧ i64ok rr.Kill.Width) (fun g => .agg #[vi rr.Gen.Width, g.1, vi rr.Kill.Width, g.2.1, g.2.2]) (fun g => [sl g.1 rr.Gen.Words, sl g.2.1 rr.Kill.Words, sl g.2.2 rr.Copies]) := by
 refine FTi Tryz.func92 fun w0 M0 F0 => ?_
 unfold i64ok at hkind_0 hnode_0 hs_0
 refine Fb 40 0 fun _ => Fb 16 1 fun _ => Fb 16 2 fun _ => ?_
 refine FoS 2 fun ho4 => ?_
 refine Fb 16 3 fun _ => ?_
 refine FoS 3 fun ho6 => ?_
 have hx0 := lrn rr; have H := hrr; unfold r10_transfer at H
 refine KS ?_
 refine Oa (Ab [vl pa0 pk0 p.Funcs]) fun p7 => Oa (Ab [vi s.Op, .string (bs s.Def), vl sa2 sk2 s.Uses, vl sa3 sk3 s.Targets]) fun p8 => Oa (Al ze65 [vi 0, .slice none 0 0, vi 0, .slice none 0 0, .slice none 0 0]) fun p9 => KS ?_
 refine Oq Vm (Oq (Vlen sl130) ?_)
 refine lbH H hx0 fun rv13 hg14 H => ?_
 have hc15 := fn132 ((l.length : Int)) pre rv13 hg14
 refine Oc [] ca132 hc15 ?_
 rintro ⟨c10, c11, c12⟩ ⟨he16, he17⟩
 unfold i64ok at he16 he17
 refine Jo 0 ?_; rintro a18 k19 rfl
 refine Fb 8 0 fun _ => ?_
 refine Jo 1 ?_; rintro a21 k22 rfl
 refine Fb 8 1 fun _ => ?_
 refine Jo 2 ?_; rintro a24 k25 rfl
 refine Fb 16 2 fun _ => ?_
 refine Oa (Al ze65 [vi 0, .slice none 0 0, vi 0, .slice none 0 0, .slice none 0 0]) fun p27 => Ost (Scl [0] sh65 [vi rv13.Gen.Width, vl a18 k19 rv13.Gen.Words, vi rv13.Kill.Width, vl a21 k22 rv13.Kill.Words, vl a24 k25 rv13.Copies]) (KS ?_)
 refine Oq (VldA sh84 6) ?_
 refine lbH H hx0 fun rv29 hg30 H => ?_
 have hc31 := fn126 p pa0 pk0 rv29 hg30
 refine Oc [7] ca126 hc31 ?_
 rintro c28 -
 refine Jo 0 ?_; rintro a32 k33 rfl
 refine Fb 16 0 fun _ => ?_
 refine FoS 0 fun ho35 => ?_
 refine Oq Va (KS ?_)
 refine Oq Vm (Oq Veql (KS ?_))
 refine pF H hx0 fun h36 H => ?_
 refine KcF h36 ?_
 have g37 := ne_of_beq_false h36
 refine KS ?_
 refine Oq (VldA sh140 6) ?_
 refine lbH H hx0 fun rv38 hg39 H => ?_
 have hc40 := fn128 s sa2 sk2 sa3 sk3 pre pre rv38 hg39
 refine Oc [10, 11] ca128 hc40 ?_
 rintro - -
 refine Oq Vnot (KS ?_)
 refine KcH H ?_ ?_
 ·intro h41 H
  have h43 := not_true h41
  refine KS ?_
  refine Oq (VldA sh65 1) ?_
  refine Jl [4] (Ent.freeze _ _) ?_
  refine lbH H hx0 fun rv48 hg49 H => ?_
  have hc50 := fn133 rv13 a18 k19 a21 k22 a24 k25 pre pre rv48 hg49
  refine Oc [3, 4, 0] ca133 hc50 ?_
  rintro ⟨c45, c46, c47⟩ ⟨he51, he52, he53⟩
  unfold i64ok at he51 he52 he53
  refine Jo 0 ?_; rintro a54 k55 rfl
  refine Fb 8 0 fun _ => ?_
  refine Jo 1 ?_; rintro a57 k58 rfl
  refine Fb 8 1 fun _ => ?_
  refine Jo 2 ?_; rintro a60 k61 rfl
  refine Fb 16 2 fun _ => ?_
  refine Oq Vm (Oq Vx (Oq Vx (Oa (Al ze65 [vi 0, .slice none 0 0, vi 0, .slice none 0 0, .slice none 0 0]) fun p63 => Ost (Scl [0] sh65 [vi rv48.1.Gen.Width, vl a54 k55 rv48.1.Gen.Words, vi rv48.1.Kill.Width, vl a57 k58 rv48.1.Kill.Words, vl a60 k61 rv48.1.Copies]) (Oq Va (KS ?_)))))
  refine Oq (VldA sh65 0) (Ost (Scl [9] sh65 [vi rv48.1.Gen.Width, vl a54 k55 rv48.1.Gen.Words, vi rv48.1.Kill.Width, vl a57 k58 rv48.1.Kill.Words, vl a60 k61 rv48.1.Copies]) (KS ?_))
  have hq := rI H; subst hq
  exact Kr (vl a54 k55 rv48.1.Gen.Words, vl a57 k58 rv48.1.Kill.Words, vl a60 k61 rv48.1.Copies) rfl (.cellN 0 rfl sh65 rfl (reads_Cl _ _) rfl .nil) [2, 3, 4] en
 intro h41 H
 have h65 := not_false h41
 refine KS ?_
 refine Oq Vm (Oq (Vfa fo140_1 6) (Oq (VldF sh9 6) ?_))
 refine lbH H hx0 fun rv67 hg68 H => ?_
 have hc69 := fn129 rv29 a32 k33 s.Def pre rv67 hg68
 refine Oc [0] ca129 hc69 ?_
 rintro - he70
 unfold i64ok at he70
 refine Oq Va (KS ?_)
 refine Oq Vm (Oq Vm ?_)
 refine lbH H hx0 fun rv72 hg73 H => ?_
 have hc74 := fn134 l la0 lk0 rv67 pre rv72 hg73
 refine Oc [9] ca134 hc74 ?_
 rintro c71 he75
 unfold i64ok at he75
 refine Jo 0 ?_; rintro a76 k77 rfl
 refine Fb 8 0 fun _ => ?_
 refine Oq (Vfa fo65_1 2) (Ost (SclF [2] sh42 [vi rv13.Gen.Width, vl a18 k19 rv13.Gen.Words, vi rv72.Width, vl a76 k77 rv72.Words, vl a24 k25 rv13.Copies]) (KS ?_))
 refine Oq Vm (Oq Veql (Oq Va (KS ?_)))
 refine pT H hx0 fun h79 H => ?_
 refine KcT h79 ?_
 have g80 := eq_of_beq h79
 refine KS ?_
 refine Oq Va (KS ?_)
 refine llH H hx0 fun X93 hX94 hx95 HL96 => ?_
 refine Kl (γ := Nat × Int × List (BitVec 64) × Int × Option Addr × Nat) (fun (r81, t0_82, t1_83, i_84, a85, k86) => ⟨[(2, vl la0 lk0 l), (3, vi node), (10, p9), (11, p27), (17, vi i_84)], [S a85 k86 t1_83, Cl p27 [vi t0_82, vl a85 k86 t1_83, vi rv72.Width, vl a76 k77 rv72.Words, vl a24 k25 rv13.Copies], S a76 k77 rv72.Words, O a24 k25 rv13.Copies, Cl p9 [vi 0, .slice none 0 0, vi 0, .slice none 0 0, .slice none 0 0], S la0 lk0 l], r10_transfer_L1 l node r81 t0_82 t1_83 i_84 = X93 ∧ r81 = ((l.length : Int) - i_84).toNat ∧ (0 : Int) ≤ i_84 ∧ i_84 ≤ (l.length : Int) ∧ (-9223372036854775808 ≤ t0_82 ∧ t0_82 ≤ 9223372036854775807) ∧ (-9223372036854775808 ≤ i_84 ∧ i_84 ≤ 9223372036854775807), r81⟩) (((l.length : Int) - 0).toNat, rv13.Gen.Width, rv13.Gen.Words, 0, a18, k19) [3, 0, 0, 4, 4, 7] ⟨hX94, rfl, aM1, aM1, aM1, aM1⟩ ?_
 rintro ⟨r81, t0_82, t1_83, i_84, a85, k86⟩ ⟨hM87, hr88, hi89, hi90, hk91, hk92⟩
 refine JJ_nx fun _ _ hL hA => ?_; dsimp only at hL hA; subst hL hA
 refine Fb 8 0 fun _ => Fb 8 2 fun _ => Fb 16 3 fun _ => Fb 16 5 fun _ => KS ?_
 refine Oq Vm (Oq Vm (Oq (Vlen sl130) (Oq Vlss (KS ?_))))
 refine Kc ?_ ?_
 ·intro h101
  have g102 := dt h101
  obtain ⟨r103, rfl⟩ := scc (n := r81) aM1
  have H := hM87; (try dsimp only at H); rw [r10_transfer_L1] at H
  refine KS ?_
  refine Oq Vm (Oq Vm ?_)
  refine pC H hx95 fun hc104 H => ?_
  refine Oq (Vi sl130 5) ?_
  refine JJ_peek_GFact i_84.toNat 5 rfl rng fun hb105 hb106 => ?_
  unfold i64ok at hb105 hb106
  refine Oq (Vfa fo174_0 0) (Oq (VldF sh3 0) (Oq Vm (Oq Veql (KS ?_))))
  refine pC H hx95 fun hc108 H => ?_
  refine pT H hx95 fun h107 H => ?_
  refine KcT h107 ?_
  have g109 := eq_of_beq h107
  refine KS ?_
  refine Oq (Vfa fo65_0 2) (Oq (VldG sh42 2 [vi t0_82, vl a85 k86 t1_83]) (Oq Vm ?_))
  refine pC H hx95 fun hc110 H => ?_
  refine pC H hx95 fun hc111 H => ?_
  refine lvH H fun rv113 hg114 H => ?_
  have hc115 := fn41 ((GSet.mk t0_82 t1_83)) a85 k86 i_84 pre pre pre pre rv113 hg114
  refine Oc [1] ca41 hc115 ?_
  rintro c112 ⟨he116, he117, he118⟩
  unfold i64ok at he116
  have he117 : (rv113.Width = t0_82) := he117
  have he118 : (rv113.Words.length = ((t0_82 + 63) / 64).toNat) := he118
  refine Jo 0 ?_; rintro a119 k120 rfl
  refine Fb 8 0 fun _ => ?_
  refine Oq (Vfa fo65_0 3) (Ost (SclF [3] sh42 [vi rv113.Width, vl a119 k120 rv113.Words, vi rv72.Width, vl a76 k77 rv72.Words, vl a24 k25 rv13.Copies]) (KS ?_))
  refine Oq Vm (Oq Vadd (Oq Va (KS ?_)))
  refine Jl [1] (Ent.freeze _ _) ?_
  refine pC H hx95 fun hc122 H => ?_
  exact Kg (r103, rv113.Width, rv113.Words, (i_84 + 1), a119, k120) [0, 1, 3, 4, 4, 4] ⟨H, aM1, aM1, aM1, aM1, aM1⟩
 intro h101
 have g123 := df h101
 obtain rfl : r81 = 0 := by omega
 have H := hM87; (try dsimp only at H); rw [r10_transfer_L1] at H
 refine Ke ?_
 have H := llB H HL96
 dsimp only at H
 refine KS ?_
 refine Oq (VldA sh65 1) ?_
 refine Jl [3] (Ent.freeze _ _) ?_
 refine lbH H hx0 fun rv127 hg128 H => ?_
 have hc129 := fn133 ((GTransfer.mk (GSet.mk t0_82 t1_83) rv72 rv13.Copies)) a85 k86 a76 k77 a24 k25 pre pre rv127 hg128
 refine Oc [1, 3, 0] ca133 hc129 ?_
 rintro ⟨c124, c125, c126⟩ ⟨he130, he131, he132⟩
 unfold i64ok at he130 he131 he132
 refine Jo 0 ?_; rintro a133 k134 rfl
 refine Fb 8 0 fun _ => ?_
 refine Jo 1 ?_; rintro a136 k137 rfl
 refine Fb 8 1 fun _ => ?_
 refine Jo 2 ?_; rintro a139 k140 rfl
 refine Fb 16 2 fun _ => ?_
 refine Oq Vm (Oq Vx (Oq Vx (Oa (Al ze65 [vi 0, .slice none 0 0, vi 0, .slice none 0 0, .slice none 0 0]) fun p142 => Ost (Scl [0] sh65 [vi rv127.1.Gen.Width, vl a133 k134 rv127.1.Gen.Words, vi rv127.1.Kill.Width, vl a136 k137 rv127.1.Kill.Words, vl a139 k140 rv127.1.Copies]) (Oq Va (KS ?_)))))
 refine Oq (VldA sh65 0) (Ost (Scl [8] sh65 [vi rv127.1.Gen.Width, vl a133 k134 rv127.1.Gen.Words, vi rv127.1.Kill.Width, vl a136 k137 rv127.1.Kill.Words, vl a139 k140 rv127.1.Copies]) (KS ?_))
 have hq := rI H; subst hq
 exact Kr (vl a133 k134 rv127.1.Gen.Words, vl a136 k137 rv127.1.Kill.Words, vl a139 k140 rv127.1.Copies) rfl (.cellN 0 rfl sh65 rfl (reads_Cl _ _) rfl .nil) [2, 3, 4] en
theorem fn51 (p : GProgram) (pa0 : Option Addr) (pk0 : Nat) (kind : Int) (hkind_0 : i64ok kind) (rr : GSystem × Int) (hrr : r10_Of p kind = .ret rr) : FT Tryz.prog 51 #[.agg #[vl pa0 pk0 p.Funcs], vi kind] [S pa0 pk0 p.Funcs] (fun g : Value × Value × Value => i64ok rr.1.Width ∧ i64ok rr.2) (fun g => .tuple #[.agg #[vi rr.1.Width, g.1, g.2.1, g.2.2], vi rr.2]) (fun g => [sl g.1 rr.1.Deps, sl g.2.1 rr.1.Transfers, sl g.2.2 rr.1.Boundary]) := by
 refine FTi Tryz.func51 fun w0 M0 F0 => ?_
 unfold i64ok at hkind_0
 refine Fb 40 0 fun _ => ?_
 have hx0 := lrn rr; have H := hrr; unfold r10_Of at H
 refine KS ?_
 refine Oa (Ab [vl pa0 pk0 p.Funcs]) fun p2 => Oa (Al ze27 [vi 0, .slice none 0 0, .slice none 0 0, .slice none 0 0]) fun p3 => Oq Va (KS ?_)
 refine Oq (VldA sh84 1) (Oq Vm ?_)
 refine lbH H hx0 fun rv5 hg6 H => ?_
 have hc7 := fn88 p pa0 pk0 kind pre rv5 hg6
 refine Oc [2] ca88 hc7 ?_
 rintro c4 he8
 unfold i64ok at he8
 refine Jo 0 ?_; rintro a9 k10 rfl
 refine Fb 16 0 fun _ => ?_
 refine Oq Vm (Oq Vx (Oq Vx (Oq Va (Oq Va (KS ?_)))))
 refine Oq Vm (Oq Vneq (KS ?_))
 refine pF H hx0 fun h12 H => ?_
 refine KcF h12 ?_
 have g13 := eq_of_bne_false h12
 refine KS ?_
 refine Oq (VldA sh84 2) ?_
 refine lbH H hx0 fun rv17 hg18 H => ?_
 have hc19 := fn89 p pa0 pk0 rv17 hg18
 refine Oc [3] ca89 hc19 ?_
 rintro ⟨c14, c15, c16⟩ he20
 unfold i64ok at he20
 refine Jo 0 ?_; rintro a21 k22 rfl
 refine Fb 32 0 fun _ => ?_
 refine Jo 1 ?_; rintro a24 k25 rfl
 refine Fb 24 1 fun _ => ?_
 refine Jo 2 ?_; rintro a27 k28 rfl
 refine Fb 24 2 fun _ => ?_
 refine Oq Vm (Oq Vx (Oq Vx (Oa (Al ze135 [.slice none 0 0, .slice none 0 0, .slice none 0 0]) fun p30 => Ost (Scl [0] sh135 [vl a21 k22 rv17.1.Nodes, vl a24 k25 rv17.1.Succ, vl a27 k28 rv17.1.Pred]) (Oq Va (KS ?_)))))
 refine Oq Vm (Oq (Vlen sl130) (Oq (Vbd st27 [vi (rv5.1.length : Int), .slice none 0 0, .slice none 0 0, .slice none 0 0]) (Oa (Al ze27 [vi 0, .slice none 0 0, .slice none 0 0, .slice none 0 0]) fun p31 => Ost (Scl [0] sh27 [vi (rv5.1.length : Int), .slice none 0 0, .slice none 0 0, .slice none 0 0]) (KS ?_))))
 refine Oq Va (KS ?_)
 refine Jl [] (Ent.osNil (α := (List Int))) ?_
 refine Jl [] (Ent.osNil (α := GTransfer)) ?_
 refine Jl [] (Ent.osNil (α := GSet)) ?_
 refine llH H hx0 fun X48 hX49 hx50 HL51 => ?_
 refine Kl (γ := Nat × List (List Int) × List GTransfer × List GSet × Int × Option Addr × Nat × Option Addr × Nat × Option Addr × Nat) (fun (r32, s1_33, s2_34, s3_35, i_36, a37, k38, a39, k40, a41, k42) => ⟨[(1, vi kind), (2, p2), (4, p3), (6, vl a9 k10 rv5.1), (8, p30), (10, p31), (11, vi i_36)], [O a41 k42 s3_35, O a39 k40 s2_34, O a37 k38 s1_33, Cl p31 [vi (rv5.1.length : Int), vl a37 k38 s1_33, vl a39 k40 s2_34, vl a41 k42 s3_35], Cl p30 [vl a21 k22 rv17.1.Nodes, vl a24 k25 rv17.1.Succ, vl a27 k28 rv17.1.Pred], S a21 k22 rv17.1.Nodes, S a24 k25 rv17.1.Succ, S a27 k28 rv17.1.Pred, S a9 k10 rv5.1, Cl p3 [vi 0, .slice none 0 0, .slice none 0 0, .slice none 0 0], pv p2 [vl pa0 pk0 p.Funcs], S pa0 pk0 p.Funcs], r10_Of_L0 p kind rv5.1 rv17.1.Nodes rv17.1.Pred r32 s1_33 s2_34 s3_35 i_36 = X48 ∧ r32 = ((rv17.1.Nodes.length : Int) - i_36).toNat ∧ (0 : Int) ≤ i_36 ∧ i_36 ≤ (rv17.1.Nodes.length : Int) ∧ (-9223372036854775808 ≤ i_36 ∧ i_36 ≤ 9223372036854775807), r32⟩) (((rv17.1.Nodes.length : Int) - 0).toNat, [], [], [], 0, none, 0, none, 0, none, 0) [0, 0, 0, 0, 0, 0, 1, 2, 3, 4, 4, 5] ⟨hX49, rfl, aM1, aM1, aM1⟩ ?_
 rintro ⟨r32, s1_33, s2_34, s3_35, i_36, a37, k38, a39, k40, a41, k42⟩ ⟨hM43, hr44, hi45, hi46, hk47⟩
 refine JJ_nx fun _ _ hL hA => ?_; dsimp only at hL hA; subst hL hA
 refine Fb 32 0 fun _ => Fb 88 1 fun _ => Fb 24 2 fun _ => Fb 32 5 fun _ => Fb 24 6 fun _ => Fb 24 7 fun _ => Fb 16 8 fun _ => Fb 40 11 fun _ => KS ?_
 refine Oq Vm (Oq (Vfa fo135_0 4) (Oq (VldF sh133 4) (Oq (Vlen sl133) (Oq Vlss (KS ?_)))))
 refine Kc ?_ ?_
 ·intro h60
  have g61 := dt h60
  obtain ⟨r62, rfl⟩ := scc (n := r32) aM1
  have H := hM43; (try dsimp only at H); rw [r10_Of_L0] at H
  refine KS ?_
  refine Oq (Vfa fo135_2 4) (Oq (VldF sh23 4) (Oq Vm ?_))
  refine pC H hx50 fun hc63 H => ?_
  refine Oq (Vi sl23 7) ?_
  refine JJ_peekL i_36.toNat 7 rfl rng fun a64 k65 => ?_
  refine Fb 8 1 fun _ => Fo 1 fun ho67 => ?_
  refine Oq (Vld sh22 0) (Oq Va (KS ?_))
  refine Oq Vm (Oq Veql (KS ?_))
  refine pC H hx50 fun hc69 H => ?_
  refine pF H hx50 fun h68 H => ?_
  refine KcF h68 ?_
  have g70 := ne_of_beq_false h68
  refine KS ?_
  refine Oa (Al ze140 [vi 0, .string (bs (Str.mk [])), .slice none 0 0, .slice none 0 0]) fun p71 => KS ?_
  refine Oq (Vfa fo135_0 7) (Oq (VldF sh133 7) (Oq Vm ?_))
  refine pC H hx50 fun hc72 H => ?_
  refine Oq (Vi sl133 8) ?_
  refine JJ_peek_GNode i_36.toNat 8 rfl rng fun hb73 hb74 hb75 hb76 => ?_
  unfold i64ok at hb73 hb74 hb75 hb76
  refine Oq (Vfa fo142_0 0) (Oq (VldF sh3 0) (Oq Veql (KS ?_)))
  refine pC H hx50 fun hc78 H => ?_
  refine KcH H ?_ ?_
  ·intro h77 H
   have g79 := eq_of_beq h77
   refine Jp 8 fun hp80 => ?_
   refine JK_drawK [0, 0, 2, 0, 14, 30, 63, 127, 255, 255, 511] fmix ?_
   refine Dv [15] (VldA sh84 0) (Dv [0] (Vfa fo135_0 0) (Dv [9] (VldF sh133 0) (Dv [] Vm (Dv [10] (Vi sl133 0) (Dv [1] (VldA sh142 0) ?_)))))
   refine pC H hx50 fun hc85 H => ?_
   refine lbH H hx50 fun rv83 hg84 H => ?_
   refine Dx [16] [] [3, 0, 1, 2] (fun G => .tuple #[.agg #[vi rv83.1.Op, .string (bs rv83.1.Def), (G.g 6 0), (G.g 6 1)], vb rv83.2]) [fun G => SP.fact (i64ok rv83.1.Op ∧ rv83.1.Def.b.length ≤ 140737488355328), fun G => sl (G.g 6 0) rv83.1.Uses, fun G => sl (G.g 6 1) rv83.1.Targets] (fun G => xC [0] ca90 (fn90 p pa0 pk0 ((rv17.1.Nodes.getD i_36.toNat default)) pre pre pre pre rv83 hg84)) (Dg [] (fun G => .tuple #[.agg #[vi rv83.1.Op, .string (bs rv83.1.Def), (G.g 6 0), (G.g 6 1)], vb rv83.2]) (fun G => Vm) (Dg [] (fun G => .agg #[vi rv83.1.Op, .string (bs rv83.1.Def), (G.g 6 0), (G.g 6 1)]) (fun G => Vx) (Dv [] Vx (Dx0 [2, 18, 19] [2] [1, 2, 0] [fun G => Cl p71 [vi rv83.1.Op, .string (bs rv83.1.Def), (G.g 6 0), (G.g 6 1)]] (fun G => x1 1 rfl sl_one fun ho86 => (x1 2 rfl sl_one fun ho87 => (xS (Scl [0] sh140 [vi rv83.1.Op, .string (bs rv83.1.Def), (G.g 6 0), (G.g 6 1)] (v := .agg #[vi rv83.1.Op, .string (bs rv83.1.Def), (G.g 6 0), (G.g 6 1)]) (h1 := show [vi rv83.1.Op, .string (bs rv83.1.Def), (G.g 6 0), (G.g 6 1)].all (·.oneCell') = true from (by simp only [List.all_cons, List.all_nil, ho86, ho87, Bool.and_true, Bool.true_and] <;> rfl)))))) ?_))))
   refine Dn ⟨by kernel_rfl, fun G => ?_⟩
   refine Jw2 [(1, vi kind), (2, p2), (4, p3), (6, vl a9 k10 rv5.1), (8, p30), (10, p31), (11, vi i_36), (12, vl a64 k65 (rv17.1.Pred.getD i_36.toNat [])), (13, p71)] [0, 1, 3, 4, 5, 6, 7, 8, 9, 10, 11, 12, 13, 14, 15, 16] [SP.fact (i64ok rv83.1.Op ∧ rv83.1.Def.b.length ≤ 140737488355328), sl (G.g 6 0) rv83.1.Uses, sl (G.g 6 1) rv83.1.Targets, Cl p71 [vi rv83.1.Op, .string (bs rv83.1.Def), (G.g 6 0), (G.g 6 1)]] ?_
   generalize G.g 6 0 = c81, G.g 6 1 = c82
   refine Jf 16 rfl ?_; rintro ⟨he88, he89⟩
   unfold i64ok at he88
   refine Jk [1, 2, 3, 4, 4, 4, 4, 4, 4, 5, 6, 7, 8, 8, 9, 11, 12, 13] ?_
   refine Jo 15 ?_; rintro a90 k91 rfl
   refine Fb 16 15 fun _ => ?_
   refine FoS 15 fun ho93 => ?_
   refine Jo 16 ?_; rintro a94 k95 rfl
   refine Fb 16 16 fun _ => ?_
   refine FoS 16 fun ho97 => ?_
   refine KS ?_
   refine Oq Vm (Oq (Vlen sl130) ?_)
   refine pC H hx50 fun hc98 H => ?_
   refine lvH H fun rv100 hg101 H => ?_
   have hc102 := fn29 ((rv5.1.length : Int)) pre pre rv100 hg101
   refine Oc [] ca29 hc102 ?_
   rintro c99 ⟨he103, he104, he105⟩
   unfold i64ok at he103
   refine Jo 0 ?_; rintro a106 k107 rfl
   refine Fb 8 0 fun _ => ?_
   refine Oa (Al ze42 [vi 0, .slice none 0 0]) fun p109 => Ost (Scl [0] sh42 [vi rv100.Width, vl a106 k107 rv100.Words]) (KS ?_)
   refine Oq Vm (Oq Veql (Oq Vm ?_))
   refine pF H hx50 fun h110 H => ?_
   refine JsF 74 h110 ?_
   have g111 := ne_of_beq_false h110
   refine Osk (Osk (Oq Vpf (KS ?_)))
   refine Kf (KS ?_)
   refine Jp 8 fun hp112 => ?_
   refine JK_drawK [0, 1, 0, 0, 12, 28, 63, 127, 255] fmix ?_
   refine Dv [0] (Vfa fo27_1 0) (Dv [9] (VldF sh23 0) (Dx [] [] [0] (fun G => (G.g 2 0)) [fun G => Cr (G.g 2 0) 0 []] (fun G => xA (As0 sl22)) (Dv [] Vm (Dx [5, 21] [21] [1, 0] (fun G => (G.g 4 0)) [fun G => os (G.g 4 0) ((rv17.1.Pred.getD i_36.toNat []) : List Int)] (fun G => xp [1] rfl (Ent.crNil (α := Int) _) (xA (Ap0 [0, 0] sl22 sl22 sz22))) (Dx [22] [] [1, 0] (fun G => (G.g 5 0)) [fun G => Cr (G.g 5 0) 1 [(G.g 4 0)]] (fun G => x1 0 rfl os_one fun ho116 => (xA (AsV sl23 sz23 [(G.g 4 0)] [(G.g 4 0)] (hv := congrArg (fun a : Array Value => Nat.beq a.size 1 && true) ((show ∀ v : Value, v.oneCell' = true → v.cells = #[v] from fun v h => by cases v <;> first | rfl | cases h) _ ho116)) (hc := congrArg (fun a : Array Value => a.toList ++ []) ((show ∀ v : Value, v.oneCell' = true → v.cells = #[v] from fun v h => by cases v <;> first | rfl | cases h) _ ho116))))) ?_)))))
   refine pC H hx50 fun hc117 H => ?_
   have hn119 := la s1_33 ([(rv17.1.Pred.getD i_36.toNat [])] : List (List Int))
   refine Dx [8, 22, 23] [8, 22, 23] [1, 0] (fun G => (G.g 6 0)) [fun G => sl (G.g 4 0) ((rv17.1.Pred.getD i_36.toNat []) : List Int), fun G => os (G.g 6 0) ((s1_33 ++ [(rv17.1.Pred.getD i_36.toNat [])]) : List (List Int))] (fun G => xp [1] rfl (Ent.freeze _ _) (xp [2, 0] rfl (Ent.cr1 (α := List Int) (A := [sl (G.g 4 0) ((rv17.1.Pred.getD i_36.toNat []) : List Int)]) _ (rv17.1.Pred.getD i_36.toNat []) _ aB1 (fun h => ⟨_, rfl, sepAll_get (i := 0) rfl h⟩)) (xA (ApO [3, 0] sl23 sl23 sz23)))) (Dv [0] (Vfa fo27_1 0) (Dx0 [9, 25] [9] [1, 0] [fun G => Cl p31 [vi (rv5.1.length : Int), (G.g 6 0), vl a39 k40 s2_34, vl a41 k42 s3_35]] (fun G => x1 1 rfl os_one fun ho120 => (xS (OpS.frame [0] rfl (OpS.storeClF [(G.g 6 0)] [vi (rv5.1.length : Int), (G.g 6 0), vl a39 k40 s2_34, vl a41 k42 s3_35] rfl rfl rfl sh23 (cells_of_one ho120) rfl (by simp only [List.all_cons, List.all_nil, ho120, Bool.and_true, Bool.true_and] <;> rfl) aB1 rfl)))) ?_))
   refine Dn ⟨by kernel_rfl, fun G => ?_⟩
   refine Jw2 [(1, vi kind), (2, p2), (4, p3), (6, vl a9 k10 rv5.1), (8, p30), (10, p31), (11, vi i_36), (13, p71), (14, p109)] [0, 1, 2, 3, 4, 5, 6, 7, 10, 11, 12, 13, 14, 15, 16, 17, 18, 19, 20] [sl (G.g 4 0) ((rv17.1.Pred.getD i_36.toNat []) : List Int), os (G.g 6 0) ((s1_33 ++ [(rv17.1.Pred.getD i_36.toNat [])]) : List (List Int)), Cl p31 [vi (rv5.1.length : Int), (G.g 6 0), vl a39 k40 s2_34, vl a41 k42 s3_35]] ?_
   generalize G.g 4 0 = c114, G.g 6 0 = c118
   refine Jk [1, 1, 1, 2, 3, 4, 4, 4, 4, 5, 6, 7, 8, 8, 9, 10, 11, 12, 12, 13, 13] ?_
   refine Jo 18 ?_; rintro a121 k122 rfl
   refine Jo 19 ?_; rintro a123 k124 rfl
   refine Fb 24 19 fun _ => KS ?_
   refine Jp 20 fun hp126 => ?_
   refine JK_drawK [0, 1, 0, 0, 0, 0, 0, 124, 252, 511, 1023, 2047] fmix ?_
   refine Dv [0] (Vfa fo27_2 0) (Dv [21] (VldF sh24 0) (Dv [14] (VldA sh84 0) (Dv [] Vm (Dv [] Vm (Dv [] Vm (Dv [18] (VldA sh140 0) ?_))))))
   refine lbH H hx50 fun rv130 hg131 H => ?_
   refine Dx [12, 15, 16, 17] [] [4, 5, 6, 7, 0, 1, 2, 3] (fun G => .agg #[vi rv130.Gen.Width, (G.g 7 0), vi rv130.Kill.Width, (G.g 7 1), (G.g 7 2)]) [fun G => SP.fact (i64ok rv130.Gen.Width ∧ i64ok rv130.Kill.Width), fun G => sl (G.g 7 0) rv130.Gen.Words, fun G => sl (G.g 7 1) rv130.Kill.Words, fun G => sl (G.g 7 2) rv130.Copies] (fun G => xC [1, 0, 2, 3] ca92 (fn92 p pa0 pk0 kind rv5.1 a9 k10 i_36 rv83.1 a90 k91 a94 k95 pre pre pre pre rv130 hg131)) (Dx [] [] [0] (fun G => (G.g 8 0)) [fun G => Cr (G.g 8 0) 1 [vi rv130.Gen.Width, (G.g 7 0), vi rv130.Kill.Width, (G.g 7 1), (G.g 7 2)]] (fun G => xA (AsV sl24 sz24 [.agg #[vi rv130.Gen.Width, (G.g 7 0), vi rv130.Kill.Width, (G.g 7 1), (G.g 7 2)]] [vi rv130.Gen.Width, (G.g 7 0), vi rv130.Kill.Width, (G.g 7 1), (G.g 7 2)])) ?_)
   refine pC H hx50 fun hc133 H => ?_
   have hn135 := la s2_34 ([rv130] : List GTransfer)
   refine Dx [7, 22, 23, 24, 25, 26] [7, 26] [4, 1, 2, 3, 0] (fun G => (G.g 9 0)) [fun G => os (G.g 9 0) ((s2_34 ++ [rv130]) : List GTransfer)] (fun G => by refine xf 1 rfl ?_; rintro ⟨he136, he137⟩; unfold i64ok at he136 he137; exact xp [5, 2, 3, 4] rfl (Ent.cr1 (α := GTransfer) (A := [sl (G.g 7 0) rv130.Gen.Words, sl (G.g 7 1) rv130.Kill.Words, sl (G.g 7 2) rv130.Copies]) _ rv130 _ aB1 (fun h => ⟨_, _, _, rfl, aL1, sepAll_get (i := 0) rfl h, aL1, sepAll_get (i := 1) rfl h, sepAll_get (i := 2) rfl h⟩)) (xA (ApO [4, 0] sl24 sl24 sz24))) (Dv [0] (Vfa fo27_2 0) (Dx0 [21, 27] [21] [1, 0] [fun G => Cl p31 [vi (rv5.1.length : Int), vl a123 k124 (s1_33 ++ [(rv17.1.Pred.getD i_36.toNat [])]), (G.g 9 0), vl a41 k42 s3_35]] (fun G => x1 1 rfl os_one fun ho138 => (xS (OpS.frame [0] rfl (OpS.storeClF [(G.g 9 0)] [vi (rv5.1.length : Int), vl a123 k124 (s1_33 ++ [(rv17.1.Pred.getD i_36.toNat [])]), (G.g 9 0), vl a41 k42 s3_35] rfl rfl rfl sh24 (cells_of_one ho138) rfl (by simp only [List.all_cons, List.all_nil, ho138, Bool.and_true, Bool.true_and] <;> rfl) aB1 rfl)))) ?_))
   refine Dn ⟨by kernel_rfl, fun G => ?_⟩
   refine Jw2 [(1, vi kind), (2, p2), (4, p3), (6, vl a9 k10 rv5.1), (8, p30), (10, p31), (11, vi i_36), (14, p109)] [0, 1, 2, 3, 4, 5, 6, 8, 9, 10, 11, 12, 13, 14, 15, 16, 17, 18, 19, 20] [SP.fact (i64ok rv130.Gen.Width ∧ i64ok rv130.Kill.Width), sl (G.g 7 0) rv130.Gen.Words, sl (G.g 7 1) rv130.Kill.Words, sl (G.g 7 2) rv130.Copies, os (G.g 9 0) ((s2_34 ++ [rv130]) : List GTransfer), Cl p31 [vi (rv5.1.length : Int), vl a123 k124 (s1_33 ++ [(rv17.1.Pred.getD i_36.toNat [])]), (G.g 9 0), vl a41 k42 s3_35]] ?_
   generalize G.g 7 0 = c127, G.g 7 1 = c128, G.g 7 2 = c129, G.g 9 0 = c134
   refine Jf 20 rfl ?_; rintro ⟨he139, he140⟩
   unfold i64ok at he139 he140
   refine Jk [1, 1, 1, 2, 3, 4, 4, 4, 5, 6, 7, 8, 8, 9, 10, 11, 12, 12, 13, 14, 15, 16, 17, 17] ?_
   refine Jo 19 ?_; rintro a141 k142 rfl
   refine Fb 8 19 fun _ => ?_
   refine Jo 20 ?_; rintro a144 k145 rfl
   refine Fb 8 20 fun _ => ?_
   refine Jo 21 ?_; rintro a147 k148 rfl
   refine Fb 16 21 fun _ => ?_
   refine Jo 22 ?_; rintro a150 k151 rfl
   refine Fb 88 22 fun _ => KS ?_
   refine Oq (Vfa fo27_3 23) (Oq (VldF sh25 23) (Oq (VldA sh42 0) (Oa (AsV sl25 sz25 [.agg #[vi rv100.Width, vl a106 k107 rv100.Words]] [vi rv100.Width, vl a106 k107 rv100.Words]) fun c153 => ?_)))
   refine Jo 0 ?_; rintro a154 k155 rfl
   refine Jl [2] (Ent.freeze _ _) ?_
   refine Jl [1, 0] (Ent.cr1 (α := GSet) (A := [S a106 k107 rv100.Words]) _ rv100 _ aB1 (fun h => ⟨_, rfl, aL1, sepAll_get (i := 0) rfl h⟩)) ?_
   refine pC H hx50 fun hc156 H => ?_
   refine Oa (ApO [7, 0] sl25 sl25 sz25) fun c157 => ?_
   refine Jo 0 ?_; rintro a158 k159 rfl
   refine Fb 32 0 fun _ => ?_
   have hn161 := la s3_35 ([rv100] : List GSet)
   refine Oq (Vfa fo27_3 24) (Ost (SclF [24] sh25 [vi (rv5.1.length : Int), vl a123 k124 (s1_33 ++ [(rv17.1.Pred.getD i_36.toNat [])]), vl a150 k151 (s2_34 ++ [rv130]), vl a158 k159 (s3_35 ++ [rv100])]) (KS ?_))
   refine Oq Vm (Oq Vadd (Oq Va (KS ?_)))
   refine pC H hx50 fun hc162 H => ?_
   exact Kg (r62, (s1_33 ++ [(rv17.1.Pred.getD i_36.toNat [])]), (s2_34 ++ [rv130]), (s3_35 ++ [rv100]), (i_36 + 1), a123, k124, a150, k151, a158, k159) [1, 23, 19, 0, 6, 6, 7, 8, 9, 10, 10, 11] ⟨H, aM1, aM1, aM1, aM1⟩
  intro h77 H
  have g163 := ne_of_beq_false h77
  refine KS ?_
  refine Oq Vm (Oq (Vlen sl130) ?_)
  refine pC H hx50 fun hc164 H => ?_
  refine lvH H fun rv166 hg167 H => ?_
  have hc168 := fn29 ((rv5.1.length : Int)) pre pre rv166 hg167
  refine Oc [] ca29 hc168 ?_
  rintro c165 ⟨he169, he170, he171⟩
  unfold i64ok at he169
  refine Jo 0 ?_; rintro a172 k173 rfl
  refine Fb 8 0 fun _ => ?_
  refine Oa (Al ze42 [vi 0, .slice none 0 0]) fun p175 => Ost (Scl [0] sh42 [vi rv166.Width, vl a172 k173 rv166.Words]) (KS ?_)
  refine Oq Vm (Oq Veql (Oq Vm ?_))
  refine pF H hx50 fun h176 H => ?_
  refine JsF 74 h176 ?_
  have g177 := ne_of_beq_false h176
  refine Osk (Osk (Oq Vpf (KS ?_)))
  refine Kf (KS ?_)
  refine Jp 9 fun hp178 => ?_
  refine JK_drawK [0, 1, 0, 0, 12, 28, 63, 127, 255] fmix ?_
  refine Dv [0] (Vfa fo27_1 0) (Dv [10] (VldF sh23 0) (Dx [] [] [0] (fun G => (G.g 2 0)) [fun G => Cr (G.g 2 0) 0 []] (fun G => xA (As0 sl22)) (Dv [] Vm (Dx [6, 19] [19] [1, 0] (fun G => (G.g 4 0)) [fun G => os (G.g 4 0) ((rv17.1.Pred.getD i_36.toNat []) : List Int)] (fun G => xp [1] rfl (Ent.crNil (α := Int) _) (xA (Ap0 [0, 0] sl22 sl22 sz22))) (Dx [20] [] [1, 0] (fun G => (G.g 5 0)) [fun G => Cr (G.g 5 0) 1 [(G.g 4 0)]] (fun G => x1 0 rfl os_one fun ho182 => (xA (AsV sl23 sz23 [(G.g 4 0)] [(G.g 4 0)] (hv := congrArg (fun a : Array Value => Nat.beq a.size 1 && true) ((show ∀ v : Value, v.oneCell' = true → v.cells = #[v] from fun v h => by cases v <;> first | rfl | cases h) _ ho182)) (hc := congrArg (fun a : Array Value => a.toList ++ []) ((show ∀ v : Value, v.oneCell' = true → v.cells = #[v] from fun v h => by cases v <;> first | rfl | cases h) _ ho182))))) ?_)))))
  refine pC H hx50 fun hc183 H => ?_
  have hn185 := la s1_33 ([(rv17.1.Pred.getD i_36.toNat [])] : List (List Int))
  refine Dx [9, 20, 21] [9, 20, 21] [1, 0] (fun G => (G.g 6 0)) [fun G => sl (G.g 4 0) ((rv17.1.Pred.getD i_36.toNat []) : List Int), fun G => os (G.g 6 0) ((s1_33 ++ [(rv17.1.Pred.getD i_36.toNat [])]) : List (List Int))] (fun G => xp [1] rfl (Ent.freeze _ _) (xp [2, 0] rfl (Ent.cr1 (α := List Int) (A := [sl (G.g 4 0) ((rv17.1.Pred.getD i_36.toNat []) : List Int)]) _ (rv17.1.Pred.getD i_36.toNat []) _ aB1 (fun h => ⟨_, rfl, sepAll_get (i := 0) rfl h⟩)) (xA (ApO [3, 0] sl23 sl23 sz23)))) (Dv [0] (Vfa fo27_1 0) (Dx0 [10, 23] [10] [1, 0] [fun G => Cl p31 [vi (rv5.1.length : Int), (G.g 6 0), vl a39 k40 s2_34, vl a41 k42 s3_35]] (fun G => x1 1 rfl os_one fun ho186 => (xS (OpS.frame [0] rfl (OpS.storeClF [(G.g 6 0)] [vi (rv5.1.length : Int), (G.g 6 0), vl a39 k40 s2_34, vl a41 k42 s3_35] rfl rfl rfl sh23 (cells_of_one ho186) rfl (by simp only [List.all_cons, List.all_nil, ho186, Bool.and_true, Bool.true_and] <;> rfl) aB1 rfl)))) ?_))
  refine Dn ⟨by kernel_rfl, fun G => ?_⟩
  refine Jw2 [(1, vi kind), (2, p2), (4, p3), (6, vl a9 k10 rv5.1), (8, p30), (10, p31), (11, vi i_36), (13, p71), (14, p175)] [0, 1, 2, 3, 4, 5, 6, 7, 8, 11, 12, 13, 14, 15, 16, 17, 18] [sl (G.g 4 0) ((rv17.1.Pred.getD i_36.toNat []) : List Int), os (G.g 6 0) ((s1_33 ++ [(rv17.1.Pred.getD i_36.toNat [])]) : List (List Int)), Cl p31 [vi (rv5.1.length : Int), (G.g 6 0), vl a39 k40 s2_34, vl a41 k42 s3_35]] ?_
  generalize G.g 4 0 = c180, G.g 6 0 = c184
  refine Jk [1, 1, 1, 2, 2, 3, 4, 4, 4, 4, 5, 6, 7, 8, 8, 9, 10, 11, 11] ?_
  refine Jo 16 ?_; rintro a187 k188 rfl
  refine Jo 17 ?_; rintro a189 k190 rfl
  refine Fb 24 17 fun _ => KS ?_
  refine Jp 18 fun hp192 => ?_
  refine JK_drawK [0, 1, 0, 0, 0, 0, 0, 124, 252, 511, 1023, 2047] fmix ?_
  refine Dv [0] (Vfa fo27_2 0) (Dv [19] (VldF sh24 0) (Dv [15] (VldA sh84 0) (Dv [] Vm (Dv [] Vm (Dv [] Vm (Dv [4] (VldA sh140 0) ?_))))))
  refine lbH H hx50 fun rv196 hg197 H => ?_
  refine Dx [13, 16] [] [5, 6, 4, 0, 1, 2, 3] (fun G => .agg #[vi rv196.Gen.Width, (G.g 7 0), vi rv196.Kill.Width, (G.g 7 1), (G.g 7 2)]) [fun G => sl (.slice none 0 0) ([] : List Str), fun G => SP.fact (i64ok rv196.Gen.Width ∧ i64ok rv196.Kill.Width), fun G => sl (G.g 7 0) rv196.Gen.Words, fun G => sl (G.g 7 1) rv196.Kill.Words, fun G => sl (G.g 7 2) rv196.Copies] (fun G => xp [] rfl (Ent.slNil (α := Str)) (xC [2, 1, 0, 0] ca92 (fn92 p pa0 pk0 kind rv5.1 a9 k10 i_36 ((GStmt.mk 0 (Str.mk []) [] [])) none 0 none 0 pre pre pre pre rv196 hg197))) (Dx [] [] [0] (fun G => (G.g 8 0)) [fun G => Cr (G.g 8 0) 1 [vi rv196.Gen.Width, (G.g 7 0), vi rv196.Kill.Width, (G.g 7 1), (G.g 7 2)]] (fun G => xA (AsV sl24 sz24 [.agg #[vi rv196.Gen.Width, (G.g 7 0), vi rv196.Kill.Width, (G.g 7 1), (G.g 7 2)]] [vi rv196.Gen.Width, (G.g 7 0), vi rv196.Kill.Width, (G.g 7 1), (G.g 7 2)])) ?_)
  refine pC H hx50 fun hc199 H => ?_
  have hn201 := la s2_34 ([rv196] : List GTransfer)
  refine Dx [8, 21, 22, 23, 24, 25] [8, 25] [4, 1, 2, 3, 0] (fun G => (G.g 9 0)) [fun G => os (G.g 9 0) ((s2_34 ++ [rv196]) : List GTransfer)] (fun G => by refine xf 1 rfl ?_; rintro ⟨he202, he203⟩; unfold i64ok at he202 he203; exact xp [5, 2, 3, 4] rfl (Ent.cr1 (α := GTransfer) (A := [sl (G.g 7 0) rv196.Gen.Words, sl (G.g 7 1) rv196.Kill.Words, sl (G.g 7 2) rv196.Copies]) _ rv196 _ aB1 (fun h => ⟨_, _, _, rfl, aL1, sepAll_get (i := 0) rfl h, aL1, sepAll_get (i := 1) rfl h, sepAll_get (i := 2) rfl h⟩)) (xA (ApO [4, 0] sl24 sl24 sz24))) (Dv [0] (Vfa fo27_2 0) (Dx0 [19, 26] [19] [1, 0] [fun G => Cl p31 [vi (rv5.1.length : Int), vl a189 k190 (s1_33 ++ [(rv17.1.Pred.getD i_36.toNat [])]), (G.g 9 0), vl a41 k42 s3_35]] (fun G => x1 1 rfl os_one fun ho204 => (xS (OpS.frame [0] rfl (OpS.storeClF [(G.g 9 0)] [vi (rv5.1.length : Int), vl a189 k190 (s1_33 ++ [(rv17.1.Pred.getD i_36.toNat [])]), (G.g 9 0), vl a41 k42 s3_35] rfl rfl rfl sh24 (cells_of_one ho204) rfl (by simp only [List.all_cons, List.all_nil, ho204, Bool.and_true, Bool.true_and] <;> rfl) aB1 rfl)))) ?_))
  refine Dn ⟨by kernel_rfl, fun G => ?_⟩
  refine Jw2 [(1, vi kind), (2, p2), (4, p3), (6, vl a9 k10 rv5.1), (8, p30), (10, p31), (11, vi i_36), (14, p175)] [0, 1, 2, 3, 4, 5, 6, 7, 9, 10, 11, 12, 13, 14, 15, 16, 17, 18] [sl (.slice none 0 0) ([] : List Str), SP.fact (i64ok rv196.Gen.Width ∧ i64ok rv196.Kill.Width), sl (G.g 7 0) rv196.Gen.Words, sl (G.g 7 1) rv196.Kill.Words, sl (G.g 7 2) rv196.Copies, os (G.g 9 0) ((s2_34 ++ [rv196]) : List GTransfer), Cl p31 [vi (rv5.1.length : Int), vl a189 k190 (s1_33 ++ [(rv17.1.Pred.getD i_36.toNat [])]), (G.g 9 0), vl a41 k42 s3_35]] ?_
  generalize G.g 7 0 = c193, G.g 7 1 = c194, G.g 7 2 = c195, G.g 9 0 = c200
  refine Jf 19 rfl ?_; rintro ⟨he205, he206⟩
  unfold i64ok at he205 he206
  refine Jk [1, 1, 1, 2, 2, 3, 4, 4, 4, 5, 6, 7, 8, 8, 9, 10, 11, 11, 13, 14, 15, 16, 16] ?_
  refine Jo 18 ?_; rintro a207 k208 rfl
  refine Fb 8 18 fun _ => ?_
  refine Jo 19 ?_; rintro a210 k211 rfl
  refine Fb 8 19 fun _ => ?_
  refine Jo 20 ?_; rintro a213 k214 rfl
  refine Fb 16 20 fun _ => ?_
  refine Jo 21 ?_; rintro a216 k217 rfl
  refine Fb 88 21 fun _ => KS ?_
  refine Oq (Vfa fo27_3 22) (Oq (VldF sh25 22) (Oq (VldA sh42 0) (Oa (AsV sl25 sz25 [.agg #[vi rv166.Width, vl a172 k173 rv166.Words]] [vi rv166.Width, vl a172 k173 rv166.Words]) fun c219 => ?_)))
  refine Jo 0 ?_; rintro a220 k221 rfl
  refine Jl [2] (Ent.freeze _ _) ?_
  refine Jl [1, 0] (Ent.cr1 (α := GSet) (A := [S a172 k173 rv166.Words]) _ rv166 _ aB1 (fun h => ⟨_, rfl, aL1, sepAll_get (i := 0) rfl h⟩)) ?_
  refine pC H hx50 fun hc222 H => ?_
  refine Oa (ApO [8, 0] sl25 sl25 sz25) fun c223 => ?_
  refine Jo 0 ?_; rintro a224 k225 rfl
  refine Fb 32 0 fun _ => ?_
  have hn227 := la s3_35 ([rv166] : List GSet)
  refine Oq (Vfa fo27_3 23) (Ost (SclF [23] sh25 [vi (rv5.1.length : Int), vl a189 k190 (s1_33 ++ [(rv17.1.Pred.getD i_36.toNat [])]), vl a216 k217 (s2_34 ++ [rv196]), vl a224 k225 (s3_35 ++ [rv166])]) (KS ?_))
  refine Oq Vm (Oq Vadd (Oq Va (KS ?_)))
  refine pC H hx50 fun hc228 H => ?_
  exact Kg (r62, (s1_33 ++ [(rv17.1.Pred.getD i_36.toNat [])]), (s2_34 ++ [rv196]), (s3_35 ++ [rv166]), (i_36 + 1), a189, k190, a216, k217, a224, k225) [1, 22, 17, 0, 7, 7, 8, 9, 10, 11, 11, 12] ⟨H, aM1, aM1, aM1, aM1⟩
 intro h60
 have g229 := df h60
 obtain rfl : r32 = 0 := by omega
 have H := hM43; (try dsimp only at H); rw [r10_Of_L0] at H
 refine Ke ?_
 have H := llB H HL51
 dsimp only at H
 refine KS ?_
 refine Oq (VldA sh27 3) (Ost (Scl [9] sh27 [vi (rv5.1.length : Int), vl a37 k38 s1_33, vl a39 k40 s2_34, vl a41 k42 s3_35]) (Oq Va (KS ?_)))
 refine Jl [3] (Ent.freeze _ _) ?_
 refine Jl [3] (Ent.freeze _ _) ?_
 refine Jl [3] (Ent.freeze _ _) ?_
 have hq := rI H; subst hq
 exact Kr (vl a37 k38 s1_33, vl a39 k40 s2_34, vl a41 k42 s3_35) rfl (.cellN 3 rfl sh27 rfl (reads_Cl _ _) rfl (.tmp rfl .nil)) [2, 1, 0] en
theorem fn52 (a : List GHop) (aa0 : Option Addr) (ak0 : Nat) (b : List GHop) (ba0 : Option Addr) (bk0 : Nat) (rr : Bool) (hrr : w16_sameHops a b = .ret rr) : FT Tryz.prog 52 #[vl aa0 ak0 a, vl ba0 bk0 b] [S aa0 ak0 a, S ba0 bk0 b] (fun g : Unit => True) (fun g => vb rr) (fun g => []) := by
 refine FTi Tryz.func52 fun w0 M0 F0 => Fb 16 0 fun _ => Fb 16 1 fun _ => ?_
 have hx0 := lrn rr; have H := hrr; unfold w16_sameHops at H
 refine KS ?_
 refine Oq Va (KS ?_)
 refine Oq Vm (Oq (Vlen sl28) (Oq Vm (Oq (Vlen sl28) (Oq Vneq (KS ?_)))))
 refine pF H hx0 fun h3 H => ?_
 refine KcF h3 ?_
 have g4 := eq_of_bne_false h3
 refine KS ?_
 refine Oq Va (KS ?_)
 refine llH H hx0 fun X12 hX13 hx14 HL15 => ?_
 refine Kl (γ := Nat × Int) (fun (r5, i_6) => ⟨[(0, vl aa0 ak0 a), (1, vl ba0 bk0 b), (5, vi i_6)], [S aa0 ak0 a, S ba0 bk0 b], w16_sameHops_L0 a b r5 i_6 = X12 ∧ r5 = ((a.length : Int) - i_6).toNat ∧ (0 : Int) ≤ i_6 ∧ i_6 ≤ (a.length : Int) ∧ (-9223372036854775808 ≤ i_6 ∧ i_6 ≤ 9223372036854775807), r5⟩) (((a.length : Int) - 0).toNat, 0) [0, 1] ⟨hX13, rfl, aM1, aM1, aM1⟩ ?_
 rintro ⟨r5, i_6⟩ ⟨hM7, hr8, hi9, hi10, hk11⟩
 refine JJ_nx fun _ _ hL hA => ?_; dsimp only at hL hA; subst hL hA
 refine Fb 16 0 fun _ => Fb 16 1 fun _ => KS ?_
 refine Oq Vm (Oq Vm (Oq (Vlen sl28) (Oq Vlss (KS ?_))))
 refine Kc ?_ ?_
 ·intro h18
  have g19 := dt h18
  obtain ⟨r20, rfl⟩ := scc (n := r5) aM1
  have H := hM7; (try dsimp only at H); rw [w16_sameHops_L0] at H
  refine KS ?_
  refine pC H hx14 fun hc21 H => ?_
  refine JJ_peek_GHop i_6.toNat 0 rfl rng fun hb22 hb23 => ?_
  unfold i64ok at hb22 hb23
  refine pC H hx14 fun hc24 H => ?_
  refine pC H hx14 fun hc25 H => ?_
  refine JJ_peek_GHop i_6.toNat 2 rfl rng fun hb26 hb27 => ?_
  unfold i64ok at hb26 hb27
  refine Kq [0, 0, 3, 7, 0, 0, 48, 112, 255] fmix ?_
  refine Qv [] Vm (Qv [] Vm (Qv [2] (Vi sl28 0) (Qv [1] (VldA sh37 0) (Qv [] Vm (Qv [] Vm (Qv [3] (Vi sl28 0) (Qv [0] (VldA sh37 0) (Qv [] (VneA eqi37 (l := [(a.getD i_6.toNat default).Node, (a.getD i_6.toNat default).Bit]) (m := [(b.getD i_6.toNat default).Node, (b.getD i_6.toNat default).Bit])) ?_))))))))
  refine Qn ⟨by kernel_rfl, ?_⟩
  refine pC H hx14 fun hc29 H => ?_
  refine pF H hx14 fun h28 H => ?_
  refine KcF h28 ?_
  have g30 := eq_of_bne_false h28
  refine KS ?_
  refine Oq Vm (Oq Vadd (Oq Va (KS ?_)))
  refine pC H hx14 fun hc31 H => ?_
  exact Kg (r20, (i_6 + 1)) [2, 3] ⟨H, aM1, aM1, aM1, aM1⟩
 intro h18
 have g32 := df h18
 obtain rfl : r5 = 0 := by omega
 have H := hM7; (try dsimp only at H); rw [w16_sameHops_L0] at H
 refine Ke ?_
 have H := llB H HL15
 refine KS ?_
 refine Oq Va (KS ?_)
 have hq := rI H; subst hq
 exact Kr () rfl (.tmp rfl .nil) [] trivial
theorem fn20O  (rr : Bool) (hrr : w16_saneO = .ret rr) : FT Tryz.prog 20 #[] [] (fun g : Unit => True) (fun g => vb rr) (fun g => []) := by
 refine FTi Tryz.func20 fun w0 M0 F0 => ?_
 have hx0 := lrn rr; have H := hrr; unfold w16_saneO at H
 refine KS ?_
 refine Oq Va (KS ?_)
 refine lbH H hx0 fun rv2 hg3 H => ?_
 have hc4 := fn50 ((Str.mk [102, 117, 110, 99, 32, 109, 59, 32, 98, 108, 111, 99, 107, 32, 98, 59, 32, 120, 32, 61, 32, 121, 59, 32, 117, 115, 101, 32, 120, 59, 32, 114, 101, 116, 117, 114, 110, 59, 32, 101, 110, 100])) pre rv2 hg3
 refine Oc [] ca50 hc4 ?_
 rintro c1 ⟨he5, he6, he7⟩
 unfold i64ok at he5 he6 he7
 refine Jo 0 ?_; rintro a8 k9 rfl
 refine Fb 40 0 fun _ => ?_
 refine Oq Vm (Oq Vx (Oq Vx (Oq Vx (Oq Vx (Oa (Al ze84 [.slice none 0 0]) fun p11 => Ost (Scl [0] sh84 [vl a8 k9 rv2.1.Funcs]) (Oq Va (Oq Va (Oq Va ?_))))))))
 refine KS ?_
 refine Oq (VldA sh84 0) ?_
 refine lbH H hx0 fun rv15 hg16 H => ?_
 have hc17 := fn51 rv2.1 a8 k9 1 pre rv15 hg16
 refine Oc [1] ca51 hc17 ?_
 rintro ⟨c12, c13, c14⟩ ⟨he18, he19⟩
 unfold i64ok at he18 he19
 refine Jo 0 ?_; rintro a20 k21 rfl
 refine Fb 24 0 fun _ => ?_
 refine Jo 1 ?_; rintro a23 k24 rfl
 refine Fb 88 1 fun _ => ?_
 refine Jo 2 ?_; rintro a26 k27 rfl
 refine Fb 32 2 fun _ => ?_
 refine Oq Vm (Oq Vx (Oq Vx (Oa (Al ze27 [vi 0, .slice none 0 0, .slice none 0 0, .slice none 0 0]) fun p29 => Ost (Scl [0] sh27 [vi rv15.1.Width, vl a20 k21 rv15.1.Deps, vl a23 k24 rv15.1.Transfers, vl a26 k27 rv15.1.Boundary]) (Oq Va (KS ?_)))))
 refine Oq (VldA sh27 0) ?_
 refine lvH H fun rv31 hg32 H => ?_
 have hc33 := fn25 rv15.1 a20 k21 a23 k24 a26 k27 3 0 pre pre pre rv31 hg32
 refine Oc [1, 2, 3] ca25 hc33 ?_
 rintro c30 he34
 unfold i64ok at he34
 refine Jo 0 ?_; rintro a35 k36 rfl
 refine Fb 16 0 fun _ => ?_
 refine Oq Vm (Oq Vx (Oq Vx (Oq Vx (Oq Va (Oq Va (Oq Va (KS ?_)))))))
 refine Oq (Vbd st37 [vi 2, vi 0]) (Oq (Vbd st37 [vi 3, vi 0]) (Oa (AsV sl28 sz28 [.agg #[vi 2, vi 0], .agg #[vi 3, vi 0]] [vi 2, vi 0, vi 3, vi 0]) fun c38 => ?_))
 refine Jo 0 ?_; rintro a39 k40 rfl
 refine Oq Va (KS ?_)
 refine Oq Vm (Oq Veql (Oq Vm ?_))
 refine pT H hx0 fun h41 H => ?_
 refine JsT 33 h41 ?_
 have g42 := eq_of_beq h41
 refine Oq Vm (Oq Vpt (Oq Vm ?_))
 refine pT H hx0 fun h43 H => ?_
 refine JsT 36 h43 ?_
 refine Oq Vm (Oq Vm ?_)
 refine Jl [0] (Ent.crOs (α := GHop) (A := []) _ ([(GHop.mk 2 0), (GHop.mk 3 0)] : List GHop) _ aB1 (fun h => ⟨[vi 2, vi 0], [vi 3, vi 0], rfl, (fun h => ⟨rfl, aL1, aL1⟩) h, ⟨[vi 3, vi 0], [], rfl, (fun h => ⟨rfl, aL1, aL1⟩) h, rfl⟩⟩)) ?_
 refine Jl [0] (Ent.freeze _ _) ?_
 refine lbH H hx0 fun rv45 hg46 H => ?_
 have hc47 := fn52 rv31.1 a35 k36 ([(GHop.mk 2 0), (GHop.mk 3 0)]) a39 k40 rv45 hg46
 refine Oc [1, 0] ca52 hc47 ?_
 rintro - -
 refine Oq Vpt (Oq Vm ?_)
 refine pT H hx0 fun h48 H => ?_
 refine JsT 41 h48 ?_
 refine Oq (VldA sh27 2) (Oq Vm ?_)
 refine lvH H fun rv50 hg51 H => ?_
 have hc52 := fn14 rv15.1 a20 k21 a23 k24 a26 k27 3 0 ([(GHop.mk 2 0), (GHop.mk 3 0)]) a39 k40 pre pre pre rv50 hg51
 refine Oc [3, 4, 5, 0] ca14 hc52 ?_
 rintro - -
 refine Oq Vpt (Oq Va (KS ?_))
 have hq := rI H; subst hq
 exact Kr () rfl (.tmp rfl .nil) [] trivial
theorem w16_sane_c : w16_saneO = .ret true := by kernel_rfl
theorem fn20  (rr : Bool) (hrr : w16_sane = rr) : FT Tryz.prog 20 #[] [] (fun g : Unit => True) (fun g => vb rr) (fun g => []) := by
 subst hrr; exact fn20O  true w16_sane_c
theorem fn139 (s1 : List GSet) (s1a0 : Option Addr) (s1k0 : Nat) (s2 : List GSet) (s2a0 : Option Addr) (s2k0 : Nat) (eqF : FuncId) (eqC : List Value) (eqp : GSet → GSet → Bool) (eqA : List SP) (heqc : callable Tryz.prog eqF = true) (heqF : ∀ x0 x1, ∀ (a0 : Option Addr) (k0 : Nat) (a2 : Option Addr) (k2 : Nat), i64ok x0.Width → i64ok x1.Width → FT Tryz.prog eqF ([(.agg #[vi x0.Width, vl a0 k0 x0.Words] : Value), (.agg #[vi x1.Width, vl a2 k2 x1.Words] : Value)] ++ eqC).toArray ([S a0 k0 x0.Words, S a2 k2 x1.Words] ++ [pAll eqA]) (fun _ : Unit => True) (fun _ => vb (eqp x0 x1)) (fun _ => [])) (rr : Bool) (hrr : sc_EqualFunc_Set s1 s2 eqp = rr) : FT Tryz.prog 139 #[vl s1a0 s1k0 s1, vl s2a0 s2k0 s2, .func (.func eqF) #[] eqC.toArray] [S s1a0 s1k0 s1, S s2a0 s2k0 s2, pAll eqA] (fun g : Unit => True) (fun g => vb rr) (fun g => []) := by
 refine FTi Tryz.func139 fun w0 M0 F0 => Fb 32 0 fun _ => Fb 32 1 fun _ => ?_
 refine KS ?_
 refine Oq Va (KS ?_)
 refine Oq Vm (Oq (Vlen sl25) (Oq Vm (Oq (Vlen sl25) (Oq Vneq (KS ?_)))))
 refine Kc ?_ ?_
 ·intro h3
  have g4 := ne_of_bne h3
  refine KS ?_
  refine Oq Va (KS ?_)
  have hq := q4 hrr false (by simp only [sc_EqualFunc_Set, h3, cs4]); subst hq
  exact Kr () rfl (.tmp rfl .nil) [] trivial
 intro h3
 have g5 := eq_of_bne_false h3
 refine KS ?_
 refine Oq Vm (Oq (Vlen sl25) (Oq Vm (KS ?_)))
 refine Kl (γ := Nat × Int) (fun (r6, v17_7) => ⟨[(1, vl s2a0 s2k0 s2), (2, .func (.func eqF) #[] eqC.toArray), (15, vl s1a0 s1k0 s1), (16, vi (s1.length : Int)), (17, vi v17_7)], [S s1a0 s1k0 s1, S s2a0 s2k0 s2, pAll eqA], sc_EqualFunc_Set_L0 s1 s2 eqp r6 v17_7 = sc_EqualFunc_Set_L0 s1 s2 eqp (((s1.length : Int) - 0).toNat) 0 ∧ r6 = ((s1.length : Int) - v17_7).toNat ∧ (0 : Int) ≤ v17_7 ∧ v17_7 ≤ (s1.length : Int) ∧ (-9223372036854775808 ≤ v17_7 ∧ v17_7 ≤ 9223372036854775807), r6⟩) (((s1.length : Int) - 0).toNat, 0) [0, 1, 2] ⟨rfl, rfl, aM1, aM1, aM1⟩ ?_
 rintro ⟨r6, v17_7⟩ ⟨hM8, hr9, hi10, hi11, hk12⟩
 refine JJ_nx fun _ _ hL hA => ?_; dsimp only at hL hA; subst hL hA
 refine Fb 32 0 fun _ => Fb 32 1 fun _ => KS ?_
 refine Oq Vlss (KS ?_)
 refine Kc ?_ ?_
 ·intro h15
  have g16 := dt h15
  obtain ⟨r17, rfl⟩ := scc (n := r6) aM1
  refine KS ?_
  refine Oq Vm (Oq (Vi sl25 0) ?_)
  refine JJ_peek_GSet v17_7.toNat 0 rfl rng fun a18 k19 hb20 => ?_
  unfold i64ok at hb20
  refine Fb 8 1 fun _ => ?_
  refine Oq (VldA sh42 0) (Oa (Al ze42 [vi 0, .slice none 0 0]) fun p22 => Oq Va (Ost (Scl [0] sh42 [vi ((s1.getD v17_7.toNat default).Width), vl a18 k19 ((s1.getD v17_7.toNat default).Words)]) (KS ?_)))
  refine Oq Vm (Oq Vm (Oq (Vi sl25 4) ?_))
  refine JJ_peek_GSet v17_7.toNat 4 rfl rng fun a23 k24 hb25 => ?_
  unfold i64ok at hb25
  refine Fb 8 1 fun _ => ?_
  refine Oq (VldA sh42 0) (Oa (Al ze42 [vi 0, .slice none 0 0]) fun p27 => Ost (Scl [0] sh42 [vi ((s2.getD v17_7.toNat default).Width), vl a23 k24 ((s2.getD v17_7.toNat default).Words)]) (KS ?_))
  refine Oq Vm (Oq (VldA sh42 3) (Oq (VldA sh42 0) ?_))
  refine JO_call [5, 2, 8] rfl rfl rfl (OpC.clo (asv := [(.agg #[vi ((s1.getD v17_7.toNat default).Width), vl a18 k19 ((s1.getD v17_7.toNat default).Words)] : Value), (.agg #[vi ((s2.getD v17_7.toNat default).Width), vl a23 k24 ((s2.getD v17_7.toNat default).Words)] : Value)] ++ eqC) rfl rfl heqc rfl (by simp)) (heqF (s1.getD v17_7.toNat default) (s2.getD v17_7.toNat default) a18 k19 a23 k24 pre pre) rfl fun _ _ => ?_
  refine Oq Vnot (KS ?_)
  refine Kc ?_ ?_
  ·intro h29
   have h31 := not_true h29
   refine KS ?_
   refine Oq Va (KS ?_)
   have hR33 := q2 hM8 (.ret false) (by simp only [sc_EqualFunc_Set_L0, h15, h29, h31, cs4])
   have hq := q4 hrr false (by simp only [sc_EqualFunc_Set, h3, h15, h29, h31, hR33, cs4]); subst hq
   exact Kr () rfl (.tmp rfl .nil) [] trivial
  intro h29
  have h35 := not_false h29
  refine KS ?_
  refine Oq Vadd (Oq Vm (KS ?_))
  exact Kg (r17, (v17_7 + 1)) [6, 7, 8] ⟨(q3 hM8 (by simp only [sc_EqualFunc_Set_L0, h15, h29, h35, cs4])), aM1, aM1, aM1, aM1⟩
 intro h15
 have g37 := df h15
 obtain rfl : r6 = 0 := by omega
 refine Ke ?_
 have hR38 := q2 hM8 (.brk ()) (by simp only [sc_EqualFunc_Set_L0, h15, cs4])
 refine KS ?_
 refine Oq Va (KS ?_)
 have hq := q4 hrr true (by simp only [sc_EqualFunc_Set, h3, h15, hR38, cs4]); subst hq
 exact Kr () rfl (.tmp rfl .nil) [] trivial
theorem fn171 (s1 : List (BitVec 64)) (s1a0 : Option Addr) (s1k0 : Nat) (s2 : List (BitVec 64)) (s2a0 : Option Addr) (s2k0 : Nat) (rr : Bool) (hrr : sc_Equal_uint64 s1 s2 = rr) : FT Tryz.prog 171 #[vl s1a0 s1k0 s1, vl s2a0 s2k0 s2] [S s1a0 s1k0 s1, S s2a0 s2k0 s2] (fun g : Unit => True) (fun g => vb rr) (fun g => []) := by
 refine FTi Tryz.func171 fun w0 M0 F0 => Fb 8 0 fun _ => Fb 8 1 fun _ => ?_
 refine KS ?_
 refine Oq Va (KS ?_)
 refine Oq Vm (Oq (Vlen sl40) (Oq Vm (Oq (Vlen sl40) (Oq Vneq (KS ?_)))))
 refine Kc ?_ ?_
 ·intro h3
  have g4 := ne_of_bne h3
  refine KS ?_
  refine Oq Va (KS ?_)
  have hq := q4 hrr false (by simp only [sc_Equal_uint64, h3, cs4]); subst hq
  exact Kr () rfl (.tmp rfl .nil) [] trivial
 intro h3
 have g5 := eq_of_bne_false h3
 refine KS ?_
 refine Oq Vm (Oq (Vlen sl40) (Oq Vm (KS ?_)))
 refine Kl (γ := Nat × Int) (fun (r6, v13_7) => ⟨[(0, vl s1a0 s1k0 s1), (1, vl s2a0 s2k0 s2), (12, vi (s1.length : Int)), (13, vi v13_7)], [S s1a0 s1k0 s1, S s2a0 s2k0 s2], sc_Equal_uint64_L0 s1 s2 r6 v13_7 = sc_Equal_uint64_L0 s1 s2 (((s1.length : Int) - 0).toNat) 0 ∧ r6 = ((s1.length : Int) - v13_7).toNat ∧ (0 : Int) ≤ v13_7 ∧ v13_7 ≤ (s1.length : Int) ∧ (-9223372036854775808 ≤ v13_7 ∧ v13_7 ≤ 9223372036854775807), r6⟩) (((s1.length : Int) - 0).toNat, 0) [0, 1] ⟨rfl, rfl, aM1, aM1, aM1⟩ ?_
 rintro ⟨r6, v13_7⟩ ⟨hM8, hr9, hi10, hi11, hk12⟩
 refine JJ_nx fun _ _ hL hA => ?_; dsimp only at hL hA; subst hL hA
 refine Fb 8 0 fun _ => Fb 8 1 fun _ => KS ?_
 refine Oq Vlss (KS ?_)
 refine Kc ?_ ?_
 ·intro h15
  have g16 := dt h15
  obtain ⟨r17, rfl⟩ := scc (n := r6) aM1
  refine KS ?_
  refine Oq Vm (Oq Va (KS ?_))
  refine Kq [0, 0, 3, 7, 0, 0, 48, 112, 255] fmix ?_
  refine Qv [] Vm (Qv [] Vm (Qv [0] (Vi sl40 0) (Qv [0] (VldU sh91 0) (Qv [] Vm (Qv [] Vm (Qv [1] (Vi sl40 0) (Qv [1] (VldU sh91 0) (Qv [] VneqU ?_))))))))
  refine Qn ⟨by kernel_rfl, ?_⟩
  refine Kc ?_ ?_
  ·intro h18
   have g19 := ne_of_bne h18
   refine KS ?_
   refine Oq Va (KS ?_)
   have hR20 := q2 hM8 (.ret false) (by simp only [sc_Equal_uint64_L0, h15, h18, cs4])
   have hq := q4 hrr false (by simp only [sc_Equal_uint64, h3, h15, h18, hR20, cs4]); subst hq
   exact Kr () rfl (.tmp rfl .nil) [] trivial
  intro h18
  have g21 := eq_of_bne_false h18
  refine KS ?_
  refine Oq Vadd (Oq Vm (KS ?_))
  exact Kg (r17, (v13_7 + 1)) [0, 1] ⟨(q3 hM8 (by simp only [sc_Equal_uint64_L0, h15, h18, cs4])), aM1, aM1, aM1, aM1⟩
 intro h15
 have g22 := df h15
 obtain rfl : r6 = 0 := by omega
 refine Ke ?_
 have hR23 := q2 hM8 (.brk ()) (by simp only [sc_Equal_uint64_L0, h15, cs4])
 refine KS ?_
 refine Oq Va (KS ?_)
 have hq := q4 hrr true (by simp only [sc_Equal_uint64, h3, h15, hR23, cs4]); subst hq
 exact Kr () rfl (.tmp rfl .nil) [] trivial
theorem fn140 (a : GSet) (aa1 : Option Addr) (ak1 : Nat) (b : GSet) (ba1 : Option Addr) (bk1 : Nat) (ha_0 : i64ok a.Width) (hb_0 : i64ok b.Width) (rr : Bool) (hrr : bt_Equal a b = rr) : FT Tryz.prog 140 #[.agg #[vi a.Width, vl aa1 ak1 a.Words], .agg #[vi b.Width, vl ba1 bk1 b.Words]] [S aa1 ak1 a.Words, S ba1 bk1 b.Words] (fun g : Unit => True) (fun g => vb rr) (fun g => []) := by
 refine FTi Tryz.func140 fun w0 M0 F0 => ?_
 unfold i64ok at ha_0 hb_0
 refine Fb 8 0 fun _ => Fb 8 1 fun _ => KS ?_
 refine Oa (Ab [vi a.Width, vl aa1 ak1 a.Words]) fun p3 => Oa (Ab [vi b.Width, vl ba1 bk1 b.Words]) fun p4 => Oq Va (KS ?_)
 refine Oq (VldA sh42 1) ?_
 refine letv (bt_Valid a) fun rv5 hg6 => ?_
 have hc7 := fn79 a aa1 ak1 pre rv5 hg6
 refine Oc [2] ca79 hc7 ?_
 rintro - -
 refine Oq Vm ?_
 refine Js 7 ?_ ?_
 ·intro h8
  refine Oq (VldA sh42 0) ?_
  refine letv (bt_Valid b) fun rv10 hg11 => ?_
  have hc12 := fn79 b ba1 bk1 pre rv10 hg11
  refine Oc [3] ca79 hc12 ?_
  rintro - -
  refine Oq Vpt (Oq Vm ?_)
  refine Js 11 ?_ ?_
  ·intro h13
   refine Oq (Vfa fo42_0 1) (Oq (VldF sh3 1) (Oq (Vfa fo42_0 0) (Oq (VldF sh3 0) (Oq Veql (Oq Vpt (Oq Vm ?_))))))
   refine Js 18 ?_ ?_
   ·intro h15
    have g16 := eq_of_beq h15
    refine Oq (Vfa fo42_1 1) (Oq (VldF sh40 1) (Oq (Vfa fo42_1 0) (Oq (VldF sh40 0) ?_)))
    refine letv (sc_Equal_uint64 a.Words b.Words) fun rv17 hg18 => ?_
    have hc19 := fn171 a.Words aa1 ak1 b.Words ba1 bk1 rv17 hg18
    refine Oc [2, 3] ca171 hc19 ?_
    rintro - -
    refine Oq Vpt (Oq Va (KS ?_))
    have hq := q4 hrr rv17 (by simp only [bt_Equal, h8, h13, h15, hg6, hg11, hg18, cs4]); subst hq
    exact Kr () rfl (.tmp rfl .nil) [] trivial
   intro h15
   have g20 := ne_of_beq_false h15
   refine Osk (Osk (Osk (Osk (Osk (Oq Vpf (Oq Va (KS ?_)))))))
   have hq := q4 hrr false (by simp only [bt_Equal, h8, h13, h15, hg6, hg11, cs4]); subst hq
   exact Kr () rfl (.tmp rfl .nil) [] trivial
  intro h13
  refine Osk (Osk (Osk (Osk (Osk (Oq Vpf (Oq Vm (Osk (Osk (Osk ?_)))))))))
  refine Osk (Osk (Oq Vpf (Oq Va (KS ?_))))
  have hq := q4 hrr false (by simp only [bt_Equal, h8, h13, hg6, hg11, cs4]); subst hq
  exact Kr () rfl (.tmp rfl .nil) [] trivial
 intro h8
 refine Osk (Osk (Oq Vpf (Oq Vm (Osk (Osk (Osk (Osk (Osk (Oq Vpf ?_)))))))))
 refine Oq Vm (Osk (Osk (Osk (Osk (Osk (Oq Vpf (Oq Va (KS ?_))))))))
 have hq := q4 hrr false (by simp only [bt_Equal, h8, hg6, cs4]); subst hq
 exact Kr () rfl (.tmp rfl .nil) [] trivial
theorem fn100 (a : List GSet) (aa0 : Option Addr) (ak0 : Nat) (b : List GSet) (ba0 : Option Addr) (bk0 : Nat) (rr : Bool) (hrr : fx_equal a b = rr) : FT Tryz.prog 100 #[vl aa0 ak0 a, vl ba0 bk0 b] [S aa0 ak0 a, S ba0 bk0 b] (fun g : Unit => True) (fun g => vb rr) (fun g => []) := by
 refine FTi Tryz.func100 fun w0 M0 F0 => Fb 32 0 fun _ => Fb 32 1 fun _ => ?_
 refine KS ?_
 refine Oq Va (KS ?_)
 refine Oq Vm (Oq Vm ?_)
 refine JJ_ent (Ent.pall [] rfl rfl) ?_
 refine letv (sc_EqualFunc_Set a b (fun x0 x1 => bt_Equal x0 x1)) fun rv3 hg4 => ?_
 have hc5 := fn139 a aa0 ak0 b ba0 bk0 140 [] (fun x0 x1 => bt_Equal x0 x1) [] ca140 (fun x0 x1 a0 k0 a2 k2 hq0 hq1 => FT_pall (A1 := _) (fn140 x0 a0 k0 x1 a2 k2  hq0 hq1 _ rfl)) rv3 hg4
 refine Oc [1, 2, 0] ca139 hc5 ?_
 rintro - -
 refine Oq Va (KS ?_)
 have hq := q4 hrr rv3 (by simp only [fx_equal, hg4, cs4]); subst hq
 exact Kr () rfl (.tmp rfl .nil) [] trivial
theorem fn138 (width : Int) (hwidth_0 : i64ok width) (rr : GSet × Int) (hrr : bt_Empty width = rr) : FT Tryz.prog 138 #[vi width] [] (fun g : Value => i64ok rr.1.Width ∧ i64ok rr.2) (fun g => .tuple #[.agg #[vi rr.1.Width, g], vi rr.2]) (fun g => [sl g rr.1.Words]) := by
 refine FTi Tryz.func138 fun w0 M0 F0 => ?_
 unfold i64ok at hwidth_0
 refine KS ?_
 refine Oa (Al ze42 [vi 0, .slice none 0 0]) fun p1 => Oq Va (KS ?_)
 refine Oq Vm ?_
 refine letv (bt_ranged width) fun rv2 hg3 => ?_
 have hc4 := fn113 width pre rv2 hg3
 refine Oc [] ca113 hc4 ?_
 rintro - -
 refine Oq Vnot (KS ?_)
 refine Kc ?_ ?_
 ·intro h5
  have h7 := not_true h5
  refine KS ?_
  refine Oq (Vbd st42 [vi 0, .slice none 0 0]) (Ost (Scl [0] sh42 [vi 0, .slice none 0 0]) (Oq Va (KS ?_)))
  refine Jl [] (Ent.slNil (α := BitVec 64)) ?_
  have hq := q4 hrr ((GSet.mk 0 []), 3) (by simp only [bt_Empty, h5, h7, hg3, cs4]); subst hq
  exact Kr (.slice none 0 0) rfl (.cellN 1 rfl sh42 rfl (reads_Cl _ _) rfl (.tmp rfl .nil)) [0] en
 intro h5
 have h10 := not_false h5
 have hrg := ranged_iff (w := width) (by simp only [h5, h10, hg3])
 refine KS ?_
 refine Oq Vm (Oq Vm ?_)
 refine letv (bt_words width) fun rv12 hg13 => ?_
 have hc14 := fn114 width pre pre rv12 hg13
 refine Oc [] ca114 hc14 ?_
 rintro - ⟨he15, he16⟩
 unfold i64ok at he15
 refine Oa (Amk (α := BitVec 64) sl40 sz40 0#64 (fun _ _ => rfl)) fun c17 => ?_
 refine Jo 0 ?_; rintro a18 k19 rfl
 refine Fb 8 0 fun _ => ?_
 have hn21 := List.length_replicate (n := rv12.toNat) (a := (0#64 : BitVec 64))
 refine Oq (Vbd st42 [vi width, vl a18 k19 (List.replicate rv12.toNat 0#64)]) (Ost (Scl [1] sh42 [vi width, vl a18 k19 (List.replicate rv12.toNat 0#64)]) (Oq Va (KS ?_)))
 refine Jl [1] (Ent.freeze _ _) ?_
 have hq := q4 hrr ((GSet.mk width (List.replicate rv12.toNat 0#64)), 0) (by simp only [bt_Empty, h5, h10, hg3, hg13, cs4]); subst hq
 exact Kr (vl a18 k19 (List.replicate rv12.toNat 0#64)) rfl (.cellN 1 rfl sh42 rfl (reads_Cl _ _) rfl (.tmp rfl .nil)) [0] en
theorem fn99 (width : Int) (n : Int) (hwidth_0 : i64ok width) (hn_0 : i64ok n) (hn0 : 0 ≤ n ∧ n ≤ 256 ∧ 0 ≤ width ∧ width ≤ 256) (rr : List GSet) (hrr : fx_empty width n = rr) : FT Tryz.prog 99 #[vi width, vi n] [] (fun g : Value => True) (fun g => g) (fun g => [sl g rr]) := by
 refine FTi Tryz.func99 fun w0 M0 F0 => ?_
 unfold i64ok at hwidth_0 hn_0
 refine KS ?_
 refine Oq Va (KS ?_)
 refine Oq Vm (Oa (Amk (α := GSet) sl25 sz25 (default : GSet) zrd_GSet) fun c1 => ?_)
 refine Jo 0 ?_; rintro a2 k3 rfl
 refine Fb 32 0 fun _ => ?_
 have hn5 := List.length_replicate (n := n.toNat) (a := ((default : GSet) : GSet))
 refine Oq Va (KS ?_)
 refine Oq Vm (Oq (Vlen sl25) (Oq Vm (KS ?_)))
 refine Kl (γ := Nat × List GSet × Int) (fun (r6, out_7, v11_8) => ⟨[(0, vi width), (5, vl a2 k3 (List.replicate n.toNat (default : GSet))), (10, vi ((List.replicate n.toNat (default : GSet)).length : Int)), (11, vi v11_8)], [os (vl a2 k3 (List.replicate n.toNat (default : GSet))) out_7], fx_empty_L0 width r6 out_7 v11_8 = fx_empty_L0 width (((((List.replicate n.toNat (default : GSet)).length : Int) : Int) - 0).toNat) (List.replicate n.toNat (default : GSet)) 0 ∧ r6 = ((((List.replicate n.toNat (default : GSet)).length : Int) : Int) - v11_8).toNat ∧ (0 : Int) ≤ v11_8 ∧ (v11_8 ≤ ((List.replicate n.toNat (default : GSet)).length : Int) ∨ v11_8 = 0) ∧ (-9223372036854775808 ≤ v11_8 ∧ v11_8 ≤ 9223372036854775807) ∧ (out_7.length : Int) = n, r6⟩) (((((List.replicate n.toNat (default : GSet)).length : Int) : Int) - 0).toNat, (List.replicate n.toNat (default : GSet)), 0) [0] ⟨rfl, rfl, aM1, (.inr rfl), aM1, iv0⟩ ?_
 rintro ⟨r6, out_7, v11_8⟩ ⟨hM9, hr10, hi11, hi12, hk13, hv14⟩
 refine JJ_nx fun _ _ hL hA => ?_; dsimp only at hL hA; subst hL hA
 refine Fb 32 0 fun _ => Fl 0 fun hn16 => ?_
 refine KS ?_
 refine Oq Vlss (KS ?_)
 refine Kc ?_ ?_
 ·intro h17
  have g18 := dt h17
  obtain ⟨r19, rfl⟩ := scc (n := r6) aM1
  refine KS ?_
  refine Oq Vm (Oq Va (KS ?_))
  refine Oq Vm (Oq Vm (Oq Vm ?_))
  refine letv (bt_Empty width) fun rv21 hg22 => ?_
  have hc23 := fn138 width pre rv21 hg22
  refine Oc [] ca138 hc23 ?_
  rintro c20 ⟨he24, he25⟩
  unfold i64ok at he24 he25
  refine Jo 0 ?_; rintro a26 k27 rfl
  refine Fb 8 0 fun _ => ?_
  refine Oq Vm (Oq Vx (Oq Vx (Oq (Vi sl25 1) ?_)))
  refine Ost (So (Rs := [S a26 k27 rv21.1.Words]) [1, 0] sh42 rv21.1 (fun h => ⟨_, rfl, aL1, sepAll_get (i := 0) rfl h⟩)) (KS ?_)
  refine Oq Vadd (Oq Vm (KS ?_))
  exact Kg (r19, (out_7.set v11_8.toNat rv21.1), (v11_8 + 1)) [0] ⟨(q3 hM9 (by simp only [fx_empty_L0, h17, hg22, cs4])), aM1, aM1, aM1, aM1, iv1⟩
 intro h17
 have g29 := df h17
 obtain rfl : r6 = 0 := by omega
 refine Ke ?_
 have hR30 := q2 hM9 out_7 (by simp only [fx_empty_L0, h17, cs4])
 refine KS ?_
 refine Oq Vm (Oq Va (KS ?_))
 refine Jl [0] (Ent.freeze _ _) ?_
 have hq := q4 hrr out_7 (by simp only [fx_empty, h17, hR30, cs4]); subst hq
 exact Kr (vl a2 k3 (List.replicate n.toNat (default : GSet))) rfl (.tmp rfl .nil) [0] trivial
theorem fn57 (width : Int) (n : Int) (stepF : FuncId) (stepC : List Value) (stepp : (List GSet) → (List GSet)) (stepA : List SP) (hwidth_0 : i64ok width) (hn_0 : i64ok n) (hstepc : callable Tryz.prog stepF = true) (hstepF : ∀ x0, ∀ (a0 : Option Addr) (k0 : Nat), FT Tryz.prog stepF ([(vl a0 k0 x0 : Value)] ++ stepC).toArray ([S a0 k0 x0] ++ [pAll stepA]) (fun g : Value => True) (fun g => g) (fun g => [sl g (stepp x0)])) (hw0 : 0 ≤ width ∧ width ≤ 256 ∧ 0 ≤ n ∧ n ≤ 256) (hst : RoundsOk width n stepp) (rr : List GSet × Int) (hrr : fx_rounds width n stepp = rr) : FT Tryz.prog 57 #[vi width, vi n, .func (.func stepF) #[] stepC.toArray] [pAll stepA] (fun g : Value => i64ok rr.2) (fun g => .tuple #[g, vi rr.2]) (fun g => [sl g rr.1]) := by
 refine FTi Tryz.func57 fun w0 M0 F0 => ?_
 unfold i64ok at hwidth_0 hn_0
 have hbb : n.toNat * width.toNat ≤ 256 * 256 := Nat.mul_le_mul aM1 aM1
 refine KS ?_
 refine Oq Va (Oq Va (KS ?_))
 refine Oq Vm (Oq Vm ?_)
 refine letv (fx_empty width n) fun rv2 hg3 => ?_
 have hc4 := fn99 width n pre pre pre rv2 hg3
 refine Oc [] ca99 hc4 ?_
 rintro c1 -
 refine Jo 0 ?_; rintro a5 k6 rfl
 refine Fb 32 0 fun _ => ?_
 refine Oq Va (KS ?_)
 refine Oq Vm (Oq Vm ?_)
 refine JO_call [0, 1] rfl rfl rfl (OpC.clo (asv := [(vl a5 k6 rv2 : Value)] ++ stepC) rfl rfl hstepc rfl (by simp)) (hstepF rv2 a5 k6 ) rfl fun c9 _ => ?_
 refine Jo 0 ?_; rintro a10 k11 rfl
 refine Fb 32 0 fun _ => ?_
 refine Oq Va (KS ?_)
 refine Oq Va (KS ?_)
 have hterm24 : fx_rounds_L0 stepp (n.toNat * width.toNat + 2) rv2 (stepp rv2) 0 ≠ LR.oof := (by have h := hst; unfold RoundsOk at h; simp only [hg3] at h; exact h)
 refine Kl (γ := Nat × List GSet × List GSet × Int × Option Addr × Nat × Option Addr × Nat) (fun (r13, now_14, next_15, round_16, a17, k18, a19, k20) => ⟨[(2, .func (.func stepF) #[] stepC.toArray), (8, vl a17 k18 now_14), (9, vl a19 k20 next_15), (10, vi round_16)], [S a19 k20 next_15, S a17 k18 now_14, pAll stepA], fx_rounds_L0 stepp r13 now_14 next_15 round_16 = fx_rounds_L0 stepp (n.toNat * width.toNat + 2) rv2 (stepp rv2) 0 ∧ (-9223372036854775808 ≤ round_16 ∧ round_16 ≤ 9223372036854775807) ∧ 0 ≤ round_16 ∧ round_16 + (r13 : Int) = ((n.toNat * width.toNat + 2 : Nat) : Int), r13⟩) ((n.toNat * width.toNat + 2), rv2, (stepp rv2), 0, a5, k6, a10, k11) [0, 1, 2] ⟨rfl, aM1, iv0⟩ ?_
 rintro ⟨r13, now_14, next_15, round_16, a17, k18, a19, k20⟩ ⟨hM21, hk22, hv23⟩
 refine JJ_nx fun _ _ hL hA => ?_; dsimp only at hL hA; subst hL hA
 refine Fb 32 0 fun _ => Fb 32 1 fun _ => ?_
 rcases r13 with _ | r13
 ·exact absurd (hM21.symm.trans rfl) hterm24
 refine KS ?_
 refine Oq Vm (Oq Vm ?_)
 refine letv (fx_equal now_14 next_15) fun rv27 hg28 => ?_
 have hc29 := fn100 now_14 a17 k18 next_15 a19 k20 rv27 hg28
 refine Oc [1, 0] ca100 hc29 ?_
 rintro - -
 refine Oq Vnot (KS ?_)
 refine Kc ?_ ?_
 ·intro h30
  have h32 := not_true h30
  refine KS ?_
  refine Oq Vm (Oq Vm (Oq Vm ?_))
  refine JO_call [0, 2] rfl rfl rfl (OpC.clo (asv := [(vl a19 k20 next_15 : Value)] ++ stepC) rfl rfl hstepc rfl (by simp)) (hstepF next_15 a19 k20 ) rfl fun c35 _ => ?_
  refine Jo 0 ?_; rintro a36 k37 rfl
  refine Fb 32 0 fun _ => ?_
  refine Oq Vm (Oq Vadd (Oq Va (Oq Va (Oq Va (KS ?_)))))
  exact Kg (r13, next_15, (stepp next_15), (round_16 + 1), a19, k20, a36, k37) [0, 1, 3] ⟨(q3 hM21 (by simp only [fx_rounds_L0, h30, h32, hg28, cs4])), aM1, iv1⟩
 intro h30
 have h40 := not_false h30
 refine Ke ?_
 have hR42 := q2 hM21 (.brk (now_14, round_16)) (by simp only [fx_rounds_L0, h30, h40, hg28, cs4])
 refine KS ?_
 refine Oq Vm (Oq Vm (Oq Va (Oq Va (KS ?_))))
 have hq := q4 hrr (now_14, round_16) (by simp only [fx_rounds, h30, h40, hg3, hg28, hR42, cs4]); subst hq
 exact Kr (vl a17 k18 now_14) rfl (.tmp rfl (.tmp rfl .nil)) [1] en
theorem fn58 (now : List GSet) (nowa0 : Option Addr) (nowk0 : Nat) (cap0P : Value) (cap0 : GSystem) (cap0a1 : Option Addr) (cap0k1 : Nat) (cap0a2 : Option Addr) (cap0k2 : Nat) (cap0a3 : Option Addr) (cap0k3 : Nat) (hcap0_0 : i64ok cap0.Width) (rr : List GSet) (hrr : fx_Solve_1 now cap0 = rr) : FT Tryz.prog 58 #[vl nowa0 nowk0 now, cap0P] [S nowa0 nowk0 now, pv cap0P [vi cap0.Width, vl cap0a1 cap0k1 cap0.Deps, vl cap0a2 cap0k2 cap0.Transfers, vl cap0a3 cap0k3 cap0.Boundary], S cap0a1 cap0k1 cap0.Deps, S cap0a2 cap0k2 cap0.Transfers, S cap0a3 cap0k3 cap0.Boundary] (fun g : Value => True) (fun g => g) (fun g => [sl g rr]) := by
 refine FTi Tryz.func58 fun w0 M0 F0 => ?_
 unfold i64ok at hcap0_0
 refine Fb 32 0 fun _ => Fb 24 2 fun _ => Fb 88 3 fun _ => Fb 32 4 fun _ => KS ?_
 refine Oq Va (KS ?_)
 refine Oq (VldA sh27 1) (Oq Vm ?_)
 refine letv (fx_Next cap0 now) fun rv6 hg7 => ?_
 have hc8 := fn59 cap0 cap0a1 cap0k1 cap0a2 cap0k2 cap0a3 cap0k3 now nowa0 nowk0 pre rv6 hg7
 refine Oc [2, 3, 4, 0] ca59 hc8 ?_
 rintro c5 he9
 unfold i64ok at he9
 refine Jo 0 ?_; rintro a10 k11 rfl
 refine Fb 32 0 fun _ => ?_
 refine Oq Vm (Oq Vx (Oq Vx (Oq Va (Oq Va (KS ?_)))))
 refine Oq Vm (Oq Va (KS ?_))
 have hq := q4 hrr rv6.1 (by simp only [fx_Solve_1, hg7, cs4]); subst hq
 exact Kr (vl a10 k11 rv6.1) rfl (.tmp rfl .nil) [0] trivial
theorem fn24 (s : GSystem) (sa1 : Option Addr) (sk1 : Nat) (sa2 : Option Addr) (sk2 : Nat) (sa3 : Option Addr) (sk3 : Nat) (hs_0 : i64ok s.Width) (rr : List GSet × Int × Int) (hrr : fx_Solve s = rr) : FT Tryz.prog 24 #[.agg #[vi s.Width, vl sa1 sk1 s.Deps, vl sa2 sk2 s.Transfers, vl sa3 sk3 s.Boundary]] [S sa1 sk1 s.Deps, S sa2 sk2 s.Transfers, S sa3 sk3 s.Boundary] (fun g : Value => i64ok rr.2.1 ∧ i64ok rr.2.2) (fun g => .tuple #[g, vi rr.2.1, vi rr.2.2]) (fun g => [sl g rr.1]) := by
 refine FTi Tryz.func24 fun w0 M0 F0 => ?_
 unfold i64ok at hs_0
 refine Fb 24 0 fun _ => Fb 88 1 fun _ => Fb 32 2 fun _ => KS ?_
 refine Oa (Ab [vi s.Width, vl sa1 sk1 s.Deps, vl sa2 sk2 s.Transfers, vl sa3 sk3 s.Boundary]) fun p4 => Oq Va (Oq Va (Oq Va (KS ?_)))
 refine Oq (VldA sh27 0) ?_
 refine letv (eq_Valid s) fun rv5 hg6 => ?_
 have hc7 := fn56 s sa1 sk1 sa2 sk2 sa3 sk3 pre rv5 hg6
 refine Oc [1, 2, 3] ca56 hc7 ?_
 rintro - -
 refine Oq Vnot (KS ?_)
 refine Kc ?_ ?_
 ·intro h8
  have h10 := not_true h8
  refine KS ?_
  refine Oq Va (Oq Va (Oq Va (KS ?_)))
  refine Jl [] (Ent.slNil (α := GSet)) ?_
  have hq := q4 hrr (([] : List GSet), 0, 1) (by simp only [fx_Solve, h8, h10, hg6, cs4]); subst hq
  exact Kr (.slice none 0 0) rfl (.tmp rfl (.tmp rfl (.tmp rfl .nil))) [0] en
 intro h8
 have h13 := not_false h8
 try (have hvs := (EValid_iff s).1 (by simp only [h8, h13, hg6]); have hv1 := hvs.n; have hv4 := hvs.w)
 refine KS ?_
 refine Oq (Vfa fo27_0 0) (Oq (VldF sh3 0) (Oq (Vfa fo27_1 0) (Oq (VldF sh23 0) (Oq (Vlen sl23) (Oq (Vf [p4]) ?_)))))
 refine JJ_ent (Ent.pall [0, 1, 2, 3] rfl rfl) ?_
 refine letv (fx_rounds s.Width (s.Deps.length : Int) (fun x0 => fx_Solve_1 x0 s)) fun rv16 hg17 => ?_
 have hc18 := fn57 s.Width ((s.Deps.length : Int)) 58 [p4] (fun x0 => fx_Solve_1 x0 s) [pv p4 [vi s.Width, vl sa1 sk1 s.Deps, vl sa2 sk2 s.Transfers, vl sa3 sk3 s.Boundary], S sa1 sk1 s.Deps, S sa2 sk2 s.Transfers, S sa3 sk3 s.Boundary] pre pre ca58 (fun x0 a0 k0 => FT_pall (A1 := _) (fn58 x0 a0 k0 p4 s sa1 sk1 sa2 sk2 sa3 sk3 pre _ rfl)) pre (rounds_ok hvs) rv16 hg17
 refine Oc [0] ca57 hc18 ?_
 rintro c15 he19
 unfold i64ok at he19
 refine Jo 0 ?_; rintro a20 k21 rfl
 refine Fb 32 0 fun _ => ?_
 refine Oq Vm (Oq Vx (Oq Vx (Oq Va (Oq Va (KS ?_)))))
 refine Oq Vm (Oq Vm (Oq Va (Oq Va (Oq Va (KS ?_)))))
 have hq := q4 hrr (rv16.1, rv16.2, 0) (by simp only [fx_Solve, h8, h13, hg6, hg17, cs4]); subst hq
 exact Kr (vl a20 k21 rv16.1) rfl (.tmp rfl (.tmp rfl (.tmp rfl .nil))) [0] en
theorem fn26 (s : GSystem) (sa1 : Option Addr) (sk1 : Nat) (sa2 : Option Addr) (sk2 : Nat) (sa3 : Option Addr) (sk3 : Nat) (n : Int) (bit : Int) (hs_0 : i64ok s.Width) (hn_0 : i64ok n) (hbit_0 : i64ok bit) (rr : List GSet × Bool × Int) (hrr : wt_Absent s n bit = rr) : FT Tryz.prog 26 #[.agg #[vi s.Width, vl sa1 sk1 s.Deps, vl sa2 sk2 s.Transfers, vl sa3 sk3 s.Boundary], vi n, vi bit] [S sa1 sk1 s.Deps, S sa2 sk2 s.Transfers, S sa3 sk3 s.Boundary] (fun g : Value => i64ok rr.2.2) (fun g => .tuple #[g, vb rr.2.1, vi rr.2.2]) (fun g => [sl g rr.1]) := by
 refine FTi Tryz.func26 fun w0 M0 F0 => ?_
 unfold i64ok at hs_0 hn_0 hbit_0
 refine Fb 24 0 fun _ => Fb 88 1 fun _ => Fb 32 2 fun _ => KS ?_
 refine Oa (Ab [vi s.Width, vl sa1 sk1 s.Deps, vl sa2 sk2 s.Transfers, vl sa3 sk3 s.Boundary]) fun p4 => Oq Va (Oq Va (Oq Va (KS ?_)))
 refine Oq (VldA sh27 0) (Oq Vm (Oq Vm ?_))
 refine letv (wt_arguments s n bit) fun rv5 hg6 => ?_
 have hc7 := fn42 s sa1 sk1 sa2 sk2 sa3 sk3 n bit pre pre pre rv5 hg6
 refine Oc [1, 2, 3] ca42 hc7 ?_
 rintro - he8
 unfold i64ok at he8
 refine Oq Va (KS ?_)
 refine Oq Vm (Oq Vneq (KS ?_))
 refine Kc ?_ ?_
 ·intro h9
  have g10 := ne_of_bne h9
  refine KS ?_
  refine Oq Vm (Oq Va (Oq Va (Oq Va (KS ?_))))
  refine Jl [] (Ent.slNil (α := GSet)) ?_
  have hq := q4 hrr (([] : List GSet), false, rv5) (by simp only [wt_Absent, h9, hg6, cs4]); subst hq
  exact Kr (.slice none 0 0) rfl (.tmp rfl (.tmp rfl (.tmp rfl .nil))) [0] en
 intro h9
 have g11 := eq_of_bne_false h9
 have hwa := wargs_0 (by assumption : wt_arguments s _ _ = rv5) h9; have hwb := hwa.1.bl; have hww := hwa.1.w; have hwn := hwa.1.n; have hwt := hwa.1.tl; have hdw := dw_le hwa.1; have hwr : HopR s (GHop.mk n bit) := hwa.2
 refine KS ?_
 refine Oq (VldA sh27 0) ?_
 refine letv (fx_Solve s) fun rv13 hg14 => ?_
 have hc15 := fn24 s sa1 sk1 sa2 sk2 sa3 sk3 pre rv13 hg14
 refine Oc [1, 2, 3] ca24 hc15 ?_
 rintro c12 ⟨he16, he17⟩
 unfold i64ok at he16 he17
 refine Jo 0 ?_; rintro a18 k19 rfl
 refine Fb 32 0 fun _ => ?_
 have hsl := pSolve_len (by assumption : fx_Solve s = rv13) hwa.1
 refine Oq Vm (Oq Vx (Oq Vx (Oq Vx (Oq Va (Oq Va (Oq Va (KS ?_)))))))
 refine Oq Vm (Oq Vm (Oq (Vi sl25 0) ?_))
 refine JJ_peek_GSet n.toNat 0 rfl rng fun a21 k22 hb23 => ?_
 unfold i64ok at hb23
 refine Fb 8 1 fun _ => ?_
 refine Oq (VldA sh42 0) (Oq Vm ?_)
 refine letv (bt_Has (rv13.1.getD n.toNat default) bit) fun rv25 hg26 => ?_
 have hc27 := fn47 ((rv13.1.getD n.toNat default)) a21 k22 bit pre pre rv25 hg26
 refine Oc [1] ca47 hc27 ?_
 rintro - -
 refine KS ?_
 refine Kc ?_ ?_
 ·intro h28
  refine KS ?_
  refine Oq Va (Oq Va (Oq Va (KS ?_)))
  refine Jl [] (Ent.slNil (α := GSet)) ?_
  have hq := q4 hrr (([] : List GSet), false, 0) (by simp only [wt_Absent, h9, h28, hg6, hg14, hg26, cs4]); subst hq
  exact Kr (.slice none 0 0) rfl (.tmp rfl (.tmp rfl (.tmp rfl .nil))) [0] en
 intro h28
 refine KS ?_
 refine Oq Vm (Oq Va (Oq Va (Oq Va (KS ?_))))
 have hq := q4 hrr (rv13.1, true, 0) (by simp only [wt_Absent, h9, h28, hg6, hg14, hg26, cs4]); subst hq
 exact Kr (vl a18 k19 rv13.1) rfl (.tmp rfl (.tmp rfl (.tmp rfl .nil))) [2] en
theorem fn7 (l : List Int) (la0 : Option Addr) (lk0 : Nat) (rr : Unit) (hrr : g_New l = rr) : FT Tryz.prog 7 #[vl la0 lk0 l] [S la0 lk0 l] (fun g : Value => True) (fun g => g) (fun g => [Cl g [vl la0 lk0 l, vi 0]]) := by
 refine FTi Tryz.func7 fun w0 M0 F0 => Fb 8 0 fun _ => Fo 0 fun ho2 => ?_
 refine KS ?_
 refine Oq Va (KS ?_)
 refine Oq Vm (Oq (Vbd st60 [vl la0 lk0 l, vi 0]) (Oa (AbO [vl la0 lk0 l, vi 0]) fun p3 => Oq Va (KS ?_)))
 have hq := q4 hrr () (by simp only [g_New, cs4]); subst hq
 exact Kr p3 rfl (.tmp rfl .nil) [0] trivial
theorem fn31 (v : Int) (n : Int) (hv_0 : i64ok v) (hn_0 : i64ok n) (hn1 : 1 ≤ n) (rr : Int) (hrr : g_Mod v n = rr) : FT Tryz.prog 31 #[vi v, vi n] [] (fun g : Unit => i64ok rr ∧ (0 ≤ rr ∧ rr < n)) (fun g => vi rr) (fun g => []) := by
 refine FTi Tryz.func31 fun w0 M0 F0 => ?_
 unfold i64ok at hv_0 hn_0
 have hm := mod_range v n aM1
 refine KS ?_
 refine Oq Va (KS ?_)
 refine Oq Vm (Oq (VcU un3 un92) (Oq Vm (Oq (VcU un3 un92) (Oq (VremU (ofInt_ne n aM1)) (Oq (VcN un92 un3 (h := (mod_le v n aM1))) (Oq Va (KS ?_)))))))
 have hq := q4 hrr (((BitVec.ofInt 64 v) % (BitVec.ofInt 64 n)).toNat : Int) (by simp only [g_Mod, cs4]); subst hq
 exact Kr () rfl (.tmp rfl .nil) [] en
theorem fn9 (tP : Value) (ta : Option Addr) (tk : Nat) (tT : List Int) (tI : Int) (n : Int) (htI : 0 ≤ tI ∧ tI ≤ (tT.length : Int)) (hn_0 : i64ok n) (rr : Int × Int) (hrr : tp_Next tT tI n = rr) : FT Tryz.prog 9 #[tP, vi n] [Cl tP [vl ta tk tT, vi tI], S ta tk tT] (fun g : Unit => i64ok rr.1 ∧ (0 ≤ rr.2 ∧ rr.2 ≤ (tT.length : Int)) ∧ (0 ≤ rr.1 ∧ (rr.1 < n ∨ rr.1 = 0))) (fun g => vi rr.1) (fun g => [Cl tP [vl ta tk tT, vi rr.2]]) := by
 refine FTi Tryz.func9 fun w0 M0 F0 => ?_
 unfold i64ok at hn_0
 refine Fb 8 1 fun _ => Fo 1 fun ho2 => KS ?_
 refine Oq Va (KS ?_)
 refine Jp 0 fun hp3 => ?_
 refine Kq [0, 1, 3, 7, 15, 31, 63, 7, 135, 391, 903, 1927, 4095, 8191] fmix ?_
 refine Qv [] Vm (Qv [] Vleq ?_)
 refine bool_split (decide (n ≤ 1)) ?_ ?_
 ·intro h4
  have g5 := dt h4
  refine Qb h4 [] Vm (Qs (Qs (Qs (Qs (Qs (Qs (Qs (Qs (Qs ?_)))))))))
  refine Qs (Qv [] Vpt ?_)
  refine Qn ⟨by kernel_rfl, ?_⟩
  refine Kt (KS ?_)
  refine Oq Va (KS ?_)
  have hq := q4 hrr (0, tI) (by simp only [tp_Next, h4, cs4]); subst hq
  exact Kr () rfl (.tmp rfl .nil) [1] en
 intro h4
 have g6 := df h4
 refine Qb h4 [] Vm (Qv [] Vm (Qv [0] (Vn 0) (Qv [0] (Vfa fo60_1 0) (Qv [1] (VldF sh3 0) (Qv [] Vm (Qv [0] (Vn 0) (Qv [0] (Vfa fo60_0 0) (Qv [1] (VldF sh22 0) (Qv [] (Vlen sl22) ?_)))))))))
 refine Qv [] Vgeq (Qv [] Vpf ?_)
 refine Qn ⟨by kernel_rfl, ?_⟩
 refine Kc ?_ ?_
 ·intro h7
  have g8 := dt h7
  refine KS ?_
  refine Oq Va (KS ?_)
  have hq := q4 hrr (0, tI) (by simp only [tp_Next, h4, h7, cs4]); subst hq
  exact Kr () rfl (.tmp rfl .nil) [1] en
 intro h7
 have g9 := df h7
 refine KS ?_
 refine Oq Vm (Oq (Vn 1) (Oq (Vfa fo60_1 1) (Oq (VldF sh3 1) (Oq Vadd (Oq (Vn 1) (Oq (Vfa fo60_1 1) (Ost (SclF [1] sh3 [vl ta tk tT, vi (tI + 1)]) (KS ?_))))))))
 refine JK_drawK [0, 1, 3, 7, 0, 16, 48, 112, 240, 511, 1023, 0, 4095, 8191] fmix ?_
 refine Dv [] Vm (Dv [1] (Vn 0) (Dv [1] (Vfa fo60_0 0) (Dv [0] (VldF sh22 0) (Dv [] Vm (Dv [1] (Vn 0) (Dv [1] (Vfa fo60_1 0) (Dv [0] (VldF sh3 0) (Dv [] Vsub (Dv [2] (Vi sl22 0) ?_)))))))))
 have hb10 := ok1 (i := (((tI + 1) - 1) : Int).toNat) ho2 rng
 refine Dv [2] (VldI sh3 0) (Dv [] Vm ?_)
 refine letv (g_Mod (tT.getD (((tI + 1) - 1) : Int).toNat 0) n) fun rv11 hg12 => ?_
 refine Dx [] [] [0] (fun G => vi rv11) [fun G => SP.fact (i64ok rv11 ∧ (0 ≤ rv11 ∧ rv11 < n))] (fun G => xC [] ca31 (fn31 ((tT.getD (((tI + 1) - 1) : Int).toNat 0)) n pre pre pre rv11 hg12)) (Dv [] Va ?_)
 refine Dn ⟨by kernel_rfl, fun G => ?_⟩
 refine Jw2 [(4, vi rv11)] [0, 1, 2] [SP.fact (i64ok rv11 ∧ (0 ≤ rv11 ∧ rv11 < n))] ?_
 refine Jf 3 rfl ?_; rintro ⟨he13, he14⟩
 unfold i64ok at he13
 refine Jk [0, 1] ?_
 have hq := q4 hrr (rv11, (tI + 1)) (by simp only [tp_Next, h4, h7, hg12, cs4]); subst hq
 exact Kr () rfl (.tmp rfl .nil) [0] en
theorem fn13 (tP : Value) (ta : Option Addr) (tk : Nat) (tT : List Int) (tI : Int) (width : Int) (htI : 0 ≤ tI ∧ tI ≤ (tT.length : Int)) (hwidth_0 : i64ok width) (hw0 : 0 ≤ width ∧ width ≤ 1000) (rr : GSet × Int) (hrr : tp_Set tT tI width = rr) : FT Tryz.prog 13 #[tP, vi width] [Cl tP [vl ta tk tT, vi tI], S ta tk tT] (fun g : Value => i64ok rr.1.Width ∧ (0 ≤ rr.2 ∧ rr.2 ≤ (tT.length : Int)) ∧ (rr.1.Width = width) ∧ (rr.1.Words.length = (((width : Int) + 63) / 64).toNat)) (fun g => .agg #[vi rr.1.Width, g]) (fun g => [os g rr.1.Words, Cl tP [vl ta tk tT, vi rr.2]]) := by
 refine FTi Tryz.func13 fun w0 M0 F0 => ?_
 unfold i64ok at hwidth_0
 refine Fb 8 1 fun _ => Fo 1 fun ho2 => KS ?_
 refine Oa (Al ze42 [vi 0, .slice none 0 0]) fun p3 => KS ?_
 refine Oq Vm ?_
 refine letv (r1_Empty width) fun rv5 hg6 => ?_
 have hc7 := fn29 width pre pre rv5 hg6
 refine Oc [] ca29 hc7 ?_
 rintro c4 ⟨he8, he9, he10⟩
 unfold i64ok at he8
 refine Jo 0 ?_; rintro a11 k12 rfl
 refine Fb 8 0 fun _ => ?_
 refine Oa (Al ze42 [vi 0, .slice none 0 0]) fun p14 => Ost (Scl [0] sh42 [vi rv5.Width, vl a11 k12 rv5.Words]) (KS ?_)
 refine Oq Va (KS ?_)
 refine Kl (γ := Nat × Int × Int × List (BitVec 64) × Int × Option Addr × Nat) (fun (r15, ti_16, s0_17, s1_18, b_19, a20, k21) => ⟨[(0, tP), (1, vi width), (4, p3), (5, p14), (6, vi b_19)], [O a20 k21 s1_18, Cl p14 [vi s0_17, vl a20 k21 s1_18], Cl p3 [vi 0, .slice none 0 0], Cl tP [vl ta tk tT, vi ti_16], S ta tk tT], tp_Set_L0 tT r15 ti_16 s0_17 s1_18 b_19 = tp_Set_L0 tT (((width : Int) - 0).toNat) tI rv5.Width rv5.Words 0 ∧ r15 = ((width : Int) - b_19).toNat ∧ (0 : Int) ≤ b_19 ∧ (b_19 ≤ width ∨ b_19 = 0) ∧ (-9223372036854775808 ≤ ti_16 ∧ ti_16 ≤ 9223372036854775807) ∧ (0 ≤ ti_16 ∧ ti_16 ≤ (tT.length : Int)) ∧ (-9223372036854775808 ≤ s0_17 ∧ s0_17 ≤ 9223372036854775807) ∧ (-9223372036854775808 ≤ b_19 ∧ b_19 ≤ 9223372036854775807) ∧ s0_17 = width ∧ s1_18.length = (((width : Int) + 63) / 64).toNat, r15⟩) (((width : Int) - 0).toNat, tI, rv5.Width, rv5.Words, 0, a11, k12) [1, 0, 0, 0, 0] ⟨rfl, rfl, aM1, (.inr rfl), aM1, aM1, aM1, aM1, iv0, iv0⟩ ?_
 rintro ⟨r15, ti_16, s0_17, s1_18, b_19, a20, k21⟩ ⟨hM22, hr23, hi24, hi25, hk26, ht27, hk28, hk29, hv30, hv31⟩
 refine JJ_nx fun _ _ hL hA => ?_; dsimp only at hL hA; subst hL hA
 refine Fb 8 0 fun _ => Fb 8 4 fun _ => Fo 4 fun ho34 => KS ?_
 refine Oq Vm (Oq Vm (Oq Vlss (KS ?_)))
 refine Kc ?_ ?_
 ·intro h35
  have g36 := dt h35
  obtain ⟨r37, rfl⟩ := scc (n := r15) aM1
  refine KS ?_
  refine Oq Vm ?_
  refine letv (tp_Next tT ti_16 3) fun rv38 hg39 => ?_
  have hc40 := fn9 tP ta tk tT ti_16 3 pre pre rv38 hg39
  refine Oc [3, 3] ca9 hc40 ?_
  rintro - ⟨he41, he42, he43⟩
  unfold i64ok at he41
  refine Oq Veql (KS ?_)
  refine Kc ?_ ?_
  ·intro h44
   have g45 := eq_of_beq h44
   refine KS ?_
   refine Oq (VldA sh42 2) (Oq Vm ?_)
   refine letv (r1_Put (GSet.mk s0_17 s1_18) b_19) fun rv47 hg48 => ?_
   refine Oc [1] ca41 (FT_borrow (A := _) hlx (FT_ent (Ent.take (is := [0]) rfl) (fn41 ((GSet.mk s0_17 s1_18)) a20 k21 b_19 pre pre pre pre rv47 hg48))) ?_ (ht := rfl)
   rintro c46 ⟨he49, he50, he51⟩
   unfold i64ok at he49
   have he50 : (rv47.Width = s0_17) := he50
   have he51 : (rv47.Words.length = ((s0_17 + 63) / 64).toNat) := he51
   refine Jo 1 ?_; rintro a52 k53 rfl
   refine Fb 8 1 fun _ => ?_
   refine Ost (Scl [3] sh42 [vi rv47.Width, vl a52 k53 rv47.Words]) (KS ?_)
   refine Oq Vm (Oq Vadd (Oq Va (KS ?_)))
   exact Kg (r37, rv38.2, rv47.Width, rv47.Words, (b_19 + 1), a52, k53) [2, 0, 2, 1, 1] ⟨(q3 hM22 (by simp only [tp_Set_L0, h35, h44, hg39, hg48, cs4])), aM1, aM1, aM1, aM1, aM1, aM1, aM1, iv1, iv1⟩
  intro h44
  have g55 := ne_of_beq_false h44
  refine KS ?_
  refine Oq Vm (Oq Vadd (Oq Va (KS ?_)))
  exact Kg (r37, rv38.2, s0_17, s1_18, (b_19 + 1), a20, k21) [1, 1, 1, 0, 0] ⟨(q3 hM22 (by simp only [tp_Set_L0, h35, h44, hg39, cs4])), aM1, aM1, aM1, aM1, aM1, aM1, aM1, iv1, iv1⟩
 intro h35
 have g56 := df h35
 obtain rfl : r15 = 0 := by omega
 refine Ke ?_
 have hR57 := q2 hM22 (ti_16, s0_17, s1_18) (by simp only [tp_Set_L0, h35, cs4])
 refine KS ?_
 refine Oq (VldA sh42 1) (Ost (Scl [2] sh42 [vi s0_17, vl a20 k21 s1_18]) (KS ?_))
 have hq := q4 hrr ((GSet.mk s0_17 s1_18), ti_16) (by simp only [tp_Set, h35, hg6, hR57, cs4]); subst hq
 exact Kr (vl a20 k21 s1_18) rfl (.cellN 0 rfl sh42 rfl (reads_Cl _ _) rfl .nil) [1, 2] en
theorem fn27 (tP : Value) (ta : Option Addr) (tk : Nat) (tT : List Int) (tI : Int) (htI : 0 ≤ tI ∧ tI ≤ (tT.length : Int)) (rr : Int × Int) (hrr : tp_Width tT tI = rr) : FT Tryz.prog 27 #[tP] [Cl tP [vl ta tk tT, vi tI], S ta tk tT] (fun g : Unit => i64ok rr.1 ∧ (0 ≤ rr.2 ∧ rr.2 ≤ (tT.length : Int)) ∧ (0 ≤ rr.1 ∧ rr.1 ≤ 8)) (fun g => vi rr.1) (fun g => [Cl tP [vl ta tk tT, vi rr.2]]) := by
 refine FTi Tryz.func27 fun w0 M0 F0 => Fb 8 1 fun _ => Fo 1 fun ho2 => ?_
 refine KS ?_
 refine Oq Va (KS ?_)
 refine Oa (AsV sl22 sz22 [vi 3, vi 1, vi 4, vi 2, vi 6, vi 0, vi 8] [vi 3, vi 1, vi 4, vi 2, vi 6, vi 0, vi 8]) fun c3 => ?_
 refine Jo 0 ?_; rintro a4 k5 rfl
 refine Oq Vm ?_
 refine letv (tp_Next tT tI 7) fun rv6 hg7 => ?_
 have hc8 := fn9 tP ta tk tT tI 7 pre pre rv6 hg7
 refine Oc [1, 1] ca9 hc8 ?_
 rintro - ⟨he9, he10, he11⟩
 unfold i64ok at he9
 refine Jl [1] (Ent.crInt _ [3, 1, 4, 2, 6, 0, 8] _ _ rfl rfl (by intro x hx; simp only [List.mem_cons, List.not_mem_nil, or_false] at hx; rcases hx with rfl | rfl | rfl | rfl | rfl | rfl | rfl <;> (unfold i64ok; omega)) aB1) ?_
 refine Oq (Vi sl22 0) (Oq (VldI sh3 0) (Oq Va (KS ?_)))
 have hq := q4 hrr (([3, 1, 4, 2, 6, 0, 8].getD rv6.1.toNat 0), rv6.2) (by simp only [tp_Width, hg7, cs4]); subst hq
 exact Kr () rfl (.tmp rfl .nil) [1] ⟨(by rw [← hrr]; exact width_ok _ _), en, (by rw [← hrr]; exact width_rng _ _)⟩
theorem fn30 (tP : Value) (ta : Option Addr) (tk : Nat) (tT : List Int) (tI : Int) (width : Int) (htI : 0 ≤ tI ∧ tI ≤ (tT.length : Int)) (hwidth_0 : i64ok width) (hw0 : 0 ≤ width ∧ width ≤ 1000) (rr : GTransfer × Int) (hrr : tp_Transfer tT tI width = rr) : FT Tryz.prog 30 #[tP, vi width] [Cl tP [vl ta tk tT, vi tI], S ta tk tT] (fun g : Value × Value × Value => i64ok rr.1.Gen.Width ∧ i64ok rr.1.Kill.Width ∧ (0 ≤ rr.2 ∧ rr.2 ≤ (tT.length : Int)) ∧ (rr.1.Gen.Width = width) ∧ (rr.1.Kill.Width = width) ∧ (rr.1.Copies.length ≤ 12)) (fun g => .agg #[vi rr.1.Gen.Width, g.1, vi rr.1.Kill.Width, g.2.1, g.2.2]) (fun g => [sl g.1 rr.1.Gen.Words, sl g.2.1 rr.1.Kill.Words, sl g.2.2 rr.1.Copies, Cl tP [vl ta tk tT, vi rr.2]]) := by
 refine FTi Tryz.func30 fun w0 M0 F0 => ?_
 unfold i64ok at hwidth_0
 refine Fb 8 1 fun _ => Fo 1 fun ho2 => KS ?_
 refine Oa (Al ze65 [vi 0, .slice none 0 0, vi 0, .slice none 0 0, .slice none 0 0]) fun p3 => KS ?_
 refine Oq Vm ?_
 refine letv (r1_Empty width) fun rv5 hg6 => ?_
 have hc7 := fn29 width pre pre rv5 hg6
 refine Oc [] ca29 hc7 ?_
 rintro c4 ⟨he8, he9, he10⟩
 unfold i64ok at he8
 refine Jo 0 ?_; rintro a11 k12 rfl
 refine Fb 8 0 fun _ => Oq Vm ?_
 have hc15 := fn29 width pre pre rv5 hg6
 refine Oc [] ca29 hc15 ?_
 rintro c14 ⟨he16, he17, he18⟩
 unfold i64ok at he16
 refine Jo 0 ?_; rintro a19 k20 rfl
 refine Oq (Vbd st65 [vi rv5.Width, vl a11 k12 rv5.Words, vi rv5.Width, vl a19 k20 rv5.Words, .slice none 0 0]) (Oa (Al ze65 [vi 0, .slice none 0 0, vi 0, .slice none 0 0, .slice none 0 0]) fun p21 => Ost (Scl [0] sh65 [vi rv5.Width, vl a11 k12 rv5.Words, vi rv5.Width, vl a19 k20 rv5.Words, .slice none 0 0]) (KS ?_))
 refine Oq Va (KS ?_)
 refine Kl (γ := Nat × Int × Int × List (BitVec 64) × Int × List (BitVec 64) × Int × Option Addr × Nat × Option Addr × Nat) (fun (r22, ti_23, f0_24, f1_25, f2_26, f3_27, b_28, a29, k30, a31, k32) => ⟨[(0, tP), (1, vi width), (4, p3), (5, p21), (6, vi b_28)], [O a31 k32 f3_27, O a29 k30 f1_25, Cl p21 [vi f0_24, vl a29 k30 f1_25, vi f2_26, vl a31 k32 f3_27, .slice none 0 0], Cl p3 [vi 0, .slice none 0 0, vi 0, .slice none 0 0, .slice none 0 0], Cl tP [vl ta tk tT, vi ti_23], S ta tk tT], tp_Transfer_L0 tT r22 ti_23 f0_24 f1_25 f2_26 f3_27 b_28 = tp_Transfer_L0 tT (((width : Int) - 0).toNat) tI rv5.Width rv5.Words rv5.Width rv5.Words 0 ∧ r22 = ((width : Int) - b_28).toNat ∧ (0 : Int) ≤ b_28 ∧ (b_28 ≤ width ∨ b_28 = 0) ∧ (-9223372036854775808 ≤ ti_23 ∧ ti_23 ≤ 9223372036854775807) ∧ (0 ≤ ti_23 ∧ ti_23 ≤ (tT.length : Int)) ∧ (-9223372036854775808 ≤ f0_24 ∧ f0_24 ≤ 9223372036854775807) ∧ (-9223372036854775808 ≤ f2_26 ∧ f2_26 ≤ 9223372036854775807) ∧ (-9223372036854775808 ≤ b_28 ∧ b_28 ≤ 9223372036854775807) ∧ f0_24 = width ∧ f1_25.length = (((width : Int) + 63) / 64).toNat ∧ f2_26 = width ∧ f3_27.length = (((width : Int) + 63) / 64).toNat, r22⟩) (((width : Int) - 0).toNat, tI, rv5.Width, rv5.Words, rv5.Width, rv5.Words, 0, a11, k12, a19, k20) [1, 1, 0, 0, 0, 0] ⟨rfl, rfl, aM1, (.inr rfl), aM1, aM1, aM1, aM1, aM1, iv0, iv0, iv0, iv0⟩ ?_
 rintro ⟨r22, ti_23, f0_24, f1_25, f2_26, f3_27, b_28, a29, k30, a31, k32⟩ ⟨hM33, hr34, hi35, hi36, hk37, ht38, hk39, hk40, hk41, hv42, hv43, hv44, hv45⟩
 refine JJ_nx fun _ _ hL hA => ?_; dsimp only at hL hA; subst hL hA
 refine Fb 8 0 fun _ => Fb 8 1 fun _ => Fb 8 5 fun _ => Fo 5 fun ho49 => KS ?_
 refine Oq Vm (Oq Vm (Oq Vlss (KS ?_)))
 refine Kc ?_ ?_
 ·intro h50
  have g51 := dt h50
  obtain ⟨r52, rfl⟩ := scc (n := r22) aM1
  refine KS ?_
  refine Oq Vm ?_
  refine letv (tp_Next tT ti_23 6) fun rv53 hg54 => ?_
  have hc55 := fn9 tP ta tk tT ti_23 6 pre pre rv53 hg54
  refine Oc [4, 4] ca9 hc55 ?_
  rintro - ⟨he56, he57, he58⟩
  unfold i64ok at he56
  refine KS ?_
  refine Oq Veql (Oq Va (KS ?_))
  refine Kc ?_ ?_
  ·intro h59
   have g60 := eq_of_beq h59
   refine KS ?_
   refine Oq (Vfa fo65_0 3) (Oq (VldG sh42 3 [vi f0_24, vl a29 k30 f1_25]) (Oq Vm ?_))
   refine letv (r1_Put (GSet.mk f0_24 f1_25) b_28) fun rv62 hg63 => ?_
   refine Oc [2] ca41 (FT_borrow (A := _) hlx (FT_ent (Ent.take (is := [0]) rfl) (fn41 ((GSet.mk f0_24 f1_25)) a29 k30 b_28 pre pre pre pre rv62 hg63))) ?_ (ht := rfl)
   rintro c61 ⟨he64, he65, he66⟩
   unfold i64ok at he64
   have he65 : (rv62.Width = f0_24) := he65
   have he66 : (rv62.Words.length = ((f0_24 + 63) / 64).toNat) := he66
   refine Jo 1 ?_; rintro a67 k68 rfl
   refine Fb 8 1 fun _ => ?_
   refine Oq (Vfa fo65_0 4) (Ost (SclF [4] sh42 [vi rv62.Width, vl a67 k68 rv62.Words, vi f2_26, vl a31 k32 f3_27, .slice none 0 0]) (KS ?_))
   refine Oq Vm (Oq Vadd (Oq Va (KS ?_)))
   exact Kg (r52, rv53.2, rv62.Width, rv62.Words, f2_26, f3_27, (b_28 + 1), a67, k68, a31, k32) [4, 2, 0, 2, 1, 1] ⟨(q3 hM33 (by simp only [tp_Transfer_L0, h50, h59, hg54, hg63, cs4])), aM1, aM1, aM1, aM1, aM1, aM1, aM1, aM1, iv1, iv1, iv1, iv1⟩
  intro h59
  have g70 := ne_of_beq_false h59
  refine KS ?_
  refine Oq Veql (Oq Va (KS ?_))
  refine Kc ?_ ?_
  ·intro h71
   have g72 := eq_of_beq h71
   refine KS ?_
   refine Kc ?_ ?_
   ·intro h73
    have g74 := eq_of_beq h73
    refine KS ?_
    refine Oq (Vfa fo65_1 3) (Oq (VldG sh42 3 [vi f2_26, vl a31 k32 f3_27]) (Oq Vm ?_))
    refine letv (r1_Put (GSet.mk f2_26 f3_27) b_28) fun rv76 hg77 => ?_
    refine Oc [1] ca41 (FT_borrow (A := _) hlx (FT_ent (Ent.take (is := [0]) rfl) (fn41 ((GSet.mk f2_26 f3_27)) a31 k32 b_28 pre pre pre pre rv76 hg77))) ?_ (ht := rfl)
    rintro c75 ⟨he78, he79, he80⟩
    unfold i64ok at he78
    have he79 : (rv76.Width = f2_26) := he79
    have he80 : (rv76.Words.length = ((f2_26 + 63) / 64).toNat) := he80
    refine Jo 1 ?_; rintro a81 k82 rfl
    refine Fb 8 1 fun _ => ?_
    refine Oq (Vfa fo65_1 4) (Ost (SclF [4] sh42 [vi f0_24, vl a29 k30 f1_25, vi rv76.Width, vl a81 k82 rv76.Words, .slice none 0 0]) (KS ?_))
    refine Oq Vm (Oq Vadd (Oq Va (KS ?_)))
    exact Kg (r52, rv53.2, f0_24, f1_25, rv76.Width, rv76.Words, (b_28 + 1), a29, k30, a81, k82) [2, 3, 0, 2, 1, 1] ⟨(q3 hM33 (by simp only [tp_Transfer_L0, h50, h59, h71, h73, hg54, hg77, cs4])), aM1, aM1, aM1, aM1, aM1, aM1, aM1, aM1, iv1, iv1, iv1, iv1⟩
   intro h73
   exact absurd h73 (by first | (simp [h71]; done) | (simp only [bne, h71]; decide) | (simp only [bne, h71, Bool.not_true, Bool.not_false]; decide) | (exfalso; omega) | (intro hq; simp only [bne, hq, Bool.not_false, Bool.not_true, reduceCtorEq] at h71))
  intro h71
  have g84 := ne_of_beq_false h71
  refine KS ?_
  refine Oq Veql (Oq Va (KS ?_))
  refine Kc ?_ ?_
  ·intro h85
   have g86 := eq_of_beq h85
   refine KS ?_
   refine Oq (Vfa fo65_1 3) (Oq (VldG sh42 3 [vi f2_26, vl a31 k32 f3_27]) (Oq Vm ?_))
   refine letv (r1_Put (GSet.mk f2_26 f3_27) b_28) fun rv88 hg89 => ?_
   refine Oc [1] ca41 (FT_borrow (A := _) hlx (FT_ent (Ent.take (is := [0]) rfl) (fn41 ((GSet.mk f2_26 f3_27)) a31 k32 b_28 pre pre pre pre rv88 hg89))) ?_ (ht := rfl)
   rintro c87 ⟨he90, he91, he92⟩
   unfold i64ok at he90
   have he91 : (rv88.Width = f2_26) := he91
   have he92 : (rv88.Words.length = ((f2_26 + 63) / 64).toNat) := he92
   refine Jo 1 ?_; rintro a93 k94 rfl
   refine Fb 8 1 fun _ => ?_
   refine Oq (Vfa fo65_1 4) (Ost (SclF [4] sh42 [vi f0_24, vl a29 k30 f1_25, vi rv88.Width, vl a93 k94 rv88.Words, .slice none 0 0]) (KS ?_))
   refine Oq Vm (Oq Vadd (Oq Va (KS ?_)))
   exact Kg (r52, rv53.2, f0_24, f1_25, rv88.Width, rv88.Words, (b_28 + 1), a29, k30, a93, k94) [2, 3, 0, 2, 1, 1] ⟨(q3 hM33 (by simp only [tp_Transfer_L0, h50, h59, h71, h85, hg54, hg89, cs4])), aM1, aM1, aM1, aM1, aM1, aM1, aM1, aM1, iv1, iv1, iv1, iv1⟩
  intro h85
  have g96 := ne_of_beq_false h85
  refine KS ?_
  refine Oq Vm (Oq Vadd (Oq Va (KS ?_)))
  exact Kg (r52, rv53.2, f0_24, f1_25, f2_26, f3_27, (b_28 + 1), a29, k30, a31, k32) [1, 1, 1, 1, 0, 0] ⟨(q3 hM33 (by simp only [tp_Transfer_L0, h50, h59, h71, h85, hg54, cs4])), aM1, aM1, aM1, aM1, aM1, aM1, aM1, aM1, iv1, iv1, iv1, iv1⟩
 intro h50
 have g97 := df h50
 obtain rfl : r22 = 0 := by omega
 refine Ke ?_
 have hR98 := q2 hM33 (ti_23, f0_24, f1_25, f2_26, f3_27) (by simp only [tp_Transfer_L0, h50, cs4])
 refine KS ?_
 refine Oq Va (KS ?_)
 refine Jl [] (Ent.osNil (α := GCopy)) ?_
 refine Kl (γ := Nat × Int × List GCopy × Int × Option Addr × Nat) (fun (r99, ti_100, f4_101, a_102, a103, k104) => ⟨[(0, tP), (1, vi width), (4, p3), (5, p21), (7, vi a_102)], [O a103 k104 f4_101, O a31 k32 f3_27, O a29 k30 f1_25, Cl p21 [vi f0_24, vl a29 k30 f1_25, vi f2_26, vl a31 k32 f3_27, vl a103 k104 f4_101], Cl p3 [vi 0, .slice none 0 0, vi 0, .slice none 0 0, .slice none 0 0], Cl tP [vl ta tk tT, vi ti_100], S ta tk tT], tp_Transfer_L1 tT width r99 ti_100 f4_101 a_102 = tp_Transfer_L1 tT width (((width : Int) - 0).toNat) ti_23 [] 0 ∧ r99 = ((width : Int) - a_102).toNat ∧ (0 : Int) ≤ a_102 ∧ (a_102 ≤ width ∨ a_102 = 0) ∧ (-9223372036854775808 ≤ ti_100 ∧ ti_100 ≤ 9223372036854775807) ∧ (0 ≤ ti_100 ∧ ti_100 ≤ (tT.length : Int)) ∧ (-9223372036854775808 ≤ a_102 ∧ a_102 ≤ 9223372036854775807) ∧ f4_101.length ≤ 12, r99⟩) (((width : Int) - 0).toNat, ti_23, [], 0, none, 0) [0, 0, 0, 0, 0, 0, 0] ⟨rfl, rfl, aM1, (.inr rfl), aM1, aM1, aM1, iv0⟩ ?_
 rintro ⟨r99, ti_100, f4_101, a_102, a103, k104⟩ ⟨hM105, hr106, hi107, hi108, hk109, ht110, hk111, hv112⟩
 refine JJ_nx fun _ _ hL hA => ?_; dsimp only at hL hA; subst hL hA
 refine Fb 16 0 fun _ => Fb 8 1 fun _ => Fb 8 2 fun _ => Fb 8 6 fun _ => Fo 6 fun ho117 => KS ?_
 refine Oq Vm (Oq Vm (Oq Vlss (KS ?_)))
 refine Kc ?_ ?_
 ·intro h118
  have g119 := dt h118
  obtain ⟨r120, rfl⟩ := scc (n := r99) aM1
  refine KS ?_
  refine Oq Va (KS ?_)
  refine Kl (γ := Nat × Int × List GCopy × Int × Option Addr × Nat) (fun (r121, ti_122, f4_123, b_124, a125, k126) => ⟨[(0, tP), (1, vi width), (4, p3), (5, p21), (7, vi a_102), (8, vi b_124)], [O a125 k126 f4_123, O a31 k32 f3_27, O a29 k30 f1_25, Cl p21 [vi f0_24, vl a29 k30 f1_25, vi f2_26, vl a31 k32 f3_27, vl a125 k126 f4_123], Cl p3 [vi 0, .slice none 0 0, vi 0, .slice none 0 0, .slice none 0 0], Cl tP [vl ta tk tT, vi ti_122], S ta tk tT], tp_Transfer_L2 tT width a_102 r121 ti_122 f4_123 b_124 = tp_Transfer_L2 tT width a_102 (((width : Int) - 0).toNat) ti_100 f4_101 0 ∧ r121 = ((width : Int) - b_124).toNat ∧ (0 : Int) ≤ b_124 ∧ (b_124 ≤ width ∨ b_124 = 0) ∧ (-9223372036854775808 ≤ ti_122 ∧ ti_122 ≤ 9223372036854775807) ∧ (0 ≤ ti_122 ∧ ti_122 ≤ (tT.length : Int)) ∧ (-9223372036854775808 ≤ b_124 ∧ b_124 ≤ 9223372036854775807) ∧ f4_123.length ≤ 12, r121⟩) (((width : Int) - 0).toNat, ti_100, f4_101, 0, a103, k104) [0, 0, 0, 0, 0, 0, 0] ⟨rfl, rfl, aM1, (.inr rfl), aM1, aM1, aM1, iv0⟩ ?_
  rintro ⟨r121, ti_122, f4_123, b_124, a125, k126⟩ ⟨hM127, hr128, hi129, hi130, hk131, ht132, hk133, hv134⟩
  refine JJ_nx fun _ _ hL hA => ?_; dsimp only at hL hA; subst hL hA
  refine Fb 16 0 fun _ => Fb 8 1 fun _ => Fb 8 2 fun _ => Fb 8 6 fun _ => Fo 6 fun ho139 => KS ?_
  refine Oq Vm (Oq Vm (Oq Vlss (Oq Vm ?_)))
  refine Js 44 ?_ ?_
  ·intro h140
   have g141 := dt h140
   obtain ⟨r142, rfl⟩ := scc (n := r121) aM1
   refine Oq (Vfa fo65_2 3) (Oq (VldF sh63 3) (Oq (Vlen sl63) (Oq Vlss (Oq Vpt (KS ?_)))))
   refine Kc ?_ ?_
   ·intro h143
    have g144 := dt h143
    refine KS ?_
    refine Oq Vm (Oq Vm (Oq Vmul ?_))
    refine letv (tp_Next tT ti_122 (2 * width)) fun rv145 hg146 => ?_
    have hc147 := fn9 tP ta tk tT ti_122 ((2 * width)) pre pre rv145 hg146
    refine Oc [5, 5] ca9 hc147 ?_
    rintro - ⟨he148, he149, he150⟩
    unfold i64ok at he148
    refine Oq Veql (KS ?_)
    refine Kc ?_ ?_
    ·intro h151
     have g152 := eq_of_beq h151
     refine KS ?_
     refine Oq (Vfa fo65_2 4) (Oq (VldF sh63 4) (Oq Vm (Oq Vm (Oq (Vbd st105 [vi a_102, vi b_124]) (Oa (AsV sl63 sz63 [.agg #[vi a_102, vi b_124]] [vi a_102, vi b_124]) fun c153 => ?_)))))
     refine Jo 0 ?_; rintro a154 k155 rfl
     refine Jl [0] (Ent.cr1 (α := GCopy) (A := []) _ (GCopy.mk a_102 b_124) _ aB1 (fun h => ⟨rfl, aL1, aL1⟩)) ?_
     refine Oa (ApO [2, 0] sl63 sl63 sz63) fun c156 => ?_
     refine Jo 0 ?_; rintro a157 k158 rfl
     refine Fb 16 0 fun _ => ?_
     have hn160 := la f4_123 ([(GCopy.mk a_102 b_124)] : List GCopy)
     refine Oq (Vfa fo65_2 4) (Ost (SclF [4] sh63 [vi f0_24, vl a29 k30 f1_25, vi f2_26, vl a31 k32 f3_27, vl a157 k158 (f4_123 ++ [(GCopy.mk a_102 b_124)])]) (KS ?_))
     refine Oq Vm (Oq Vadd (Oq Va (KS ?_)))
     exact Kg (r142, rv145.2, (f4_123 ++ [(GCopy.mk a_102 b_124)]), (b_124 + 1), a157, k158) [1, 2, 2, 0, 1, 0, 0] ⟨(q3 hM127 (by simp only [tp_Transfer_L2, h140, h143, h151, hg146, cs4])), aM1, aM1, aM1, aM1, aM1, aM1, iv1⟩
    intro h151
    have g161 := ne_of_beq_false h151
    refine KS ?_
    refine Oq Vm (Oq Vadd (Oq Va (KS ?_)))
    exact Kg (r142, rv145.2, f4_123, (b_124 + 1), a125, k126) [1, 1, 1, 1, 1, 0, 0] ⟨(q3 hM127 (by simp only [tp_Transfer_L2, h140, h143, h151, hg146, cs4])), aM1, aM1, aM1, aM1, aM1, aM1, iv1⟩
   intro h143
   have g162 := df h143
   refine Ke ?_
   have hR163 := q2 hM127 (ti_122, f4_123) (by simp only [tp_Transfer_L2, h140, h143, cs4])
   refine KS ?_
   refine Oq Vm (Oq Vadd (Oq Va (KS ?_)))
   exact Kg (r120, ti_122, f4_123, (a_102 + 1), a125, k126) [0, 0, 0, 0, 0, 0, 0] ⟨(q3 hM105 (by simp only [tp_Transfer_L1, h118, h140, h143, hR163, cs4])), aM1, aM1, aM1, aM1, aM1, aM1, iv1⟩
  intro h140
  have g164 := df h140
  obtain rfl : r121 = 0 := by omega
  refine Osk (Osk (Osk (Osk (Oq Vpf (KS ?_)))))
  refine Kf ?_
  refine Ke ?_
  have hR165 := q2 hM127 (ti_122, f4_123) (by simp only [tp_Transfer_L2, h140, cs4])
  refine KS ?_
  refine Oq Vm (Oq Vadd (Oq Va (KS ?_)))
  exact Kg (r120, ti_122, f4_123, (a_102 + 1), a125, k126) [0, 0, 0, 0, 0, 0, 0] ⟨(q3 hM105 (by simp only [tp_Transfer_L1, h118, h140, hR165, cs4])), aM1, aM1, aM1, aM1, aM1, aM1, iv1⟩
 intro h118
 have g166 := df h118
 obtain rfl : r99 = 0 := by omega
 refine Ke ?_
 have hR167 := q2 hM105 (ti_100, f4_101) (by simp only [tp_Transfer_L1, h118, cs4])
 refine KS ?_
 refine Oq (VldA sh65 3) (Ost (Scl [4] sh65 [vi f0_24, vl a29 k30 f1_25, vi f2_26, vl a31 k32 f3_27, vl a103 k104 f4_101]) (KS ?_))
 refine Jl [3] (Ent.freeze _ _) ?_
 refine Jl [3] (Ent.freeze _ _) ?_
 refine Jl [3] (Ent.freeze _ _) ?_
 have hq := q4 hrr ((GTransfer.mk (GSet.mk f0_24 f1_25) (GSet.mk f2_26 f3_27) f4_101), ti_100) (by simp only [tp_Transfer, h50, h118, hg6, hR98, hR167, cs4]); subst hq
 exact Kr (vl a29 k30 f1_25, vl a31 k32 f3_27, vl a103 k104 f4_101) rfl (.cellN 3 rfl sh65 rfl (reads_Cl _ _) rfl .nil) [2, 1, 0, 5] en
theorem fn8 (tP : Value) (ta : Option Addr) (tk : Nat) (tT : List Int) (tI : Int) (n : Int) (htI : 0 ≤ tI ∧ tI ≤ (tT.length : Int)) (hn_0 : i64ok n) (hn0 : 0 ≤ n ∧ n ≤ 1000) (rr : GSystem × Int) (hrr : tp_System tT tI n = rr) : FT Tryz.prog 8 #[tP, vi n] [Cl tP [vl ta tk tT, vi tI], S ta tk tT] (fun g : Value × Value × Value => i64ok rr.1.Width ∧ (0 ≤ rr.2 ∧ rr.2 ≤ (tT.length : Int)) ∧ (rr.1.Deps.length ≤ 1001)) (fun g => .agg #[vi rr.1.Width, g.1, g.2.1, g.2.2]) (fun g => [sl g.1 rr.1.Deps, sl g.2.1 rr.1.Transfers, sl g.2.2 rr.1.Boundary, Cl tP [vl ta tk tT, vi rr.2]]) := by
 refine FTi Tryz.func8 fun w0 M0 F0 => ?_
 unfold i64ok at hn_0
 refine Fb 8 1 fun _ => Fo 1 fun ho2 => KS ?_
 refine Oa (Al ze27 [vi 0, .slice none 0 0, .slice none 0 0, .slice none 0 0]) fun p3 => KS ?_
 refine Oq Vm ?_
 refine letv (tp_Width tT tI) fun rv4 hg5 => ?_
 have hc6 := fn27 tP ta tk tT tI pre rv4 hg5
 refine Oc [1, 1] ca27 hc6 ?_
 rintro - ⟨he7, he8, he9⟩
 unfold i64ok at he7
 refine Oq Vrem (Oq (Vbd st27 [vi (rv4.1 % 5), .slice none 0 0, .slice none 0 0, .slice none 0 0]) (Oa (Al ze27 [vi 0, .slice none 0 0, .slice none 0 0, .slice none 0 0]) fun p10 => Ost (Scl [0] sh27 [vi (rv4.1 % 5), .slice none 0 0, .slice none 0 0, .slice none 0 0]) (KS ?_)))
 refine Oq Vm (Oq Vm ?_)
 refine letv (tp_Next tT rv4.2 n) fun rv11 hg12 => ?_
 have hc13 := fn9 tP ta tk tT rv4.2 n pre pre rv11 hg12
 refine Oc [1, 2] ca9 hc13 ?_
 rintro - ⟨he14, he15, he16⟩
 unfold i64ok at he14
 refine Oq Vadd (Oq Va (KS ?_))
 refine Oq Va (KS ?_)
 refine Jl [] (Ent.osNil (α := (List Int))) ?_
 refine Jl [] (Ent.osNil (α := GTransfer)) ?_
 refine Jl [] (Ent.osNil (α := GSet)) ?_
 refine Kl (γ := Nat × Int × List (List Int) × List GTransfer × List GSet × Int × Option Addr × Nat × Option Addr × Nat × Option Addr × Nat) (fun (r17, ti_18, s1_19, s2_20, s3_21, i_22, a23, k24, a25, k26, a27, k28) => ⟨[(0, tP), (4, p3), (5, p10), (1, vi (1 + rv11.1)), (6, vi i_22)], [O a27 k28 s3_21, O a25 k26 s2_20, O a23 k24 s1_19, Cl tP [vl ta tk tT, vi ti_18], Cl p10 [vi (rv4.1 % 5), vl a23 k24 s1_19, vl a25 k26 s2_20, vl a27 k28 s3_21], Cl p3 [vi 0, .slice none 0 0, .slice none 0 0, .slice none 0 0], S ta tk tT], tp_System_L0 tT (1 + rv11.1) (rv4.1 % 5) r17 ti_18 s1_19 s2_20 s3_21 i_22 = tp_System_L0 tT (1 + rv11.1) (rv4.1 % 5) ((((1 + rv11.1) : Int) - 0).toNat) rv11.2 [] [] [] 0 ∧ r17 = (((1 + rv11.1) : Int) - i_22).toNat ∧ (0 : Int) ≤ i_22 ∧ i_22 ≤ (1 + rv11.1) ∧ (-9223372036854775808 ≤ ti_18 ∧ ti_18 ≤ 9223372036854775807) ∧ (0 ≤ ti_18 ∧ ti_18 ≤ (tT.length : Int)) ∧ (-9223372036854775808 ≤ i_22 ∧ i_22 ≤ 9223372036854775807) ∧ (s1_19.length : Int) = i_22 ∧ (s2_20.length : Int) = i_22 ∧ (s3_21.length : Int) = i_22, r17⟩) ((((1 + rv11.1) : Int) - 0).toNat, rv11.2, [], [], [], 0, none, 0, none, 0, none, 0) [0, 0, 0, 0, 0, 0, 0] ⟨rfl, rfl, aM1, aM1, aM1, aM1, aM1, iv0, iv0, iv0⟩ ?_
 rintro ⟨r17, ti_18, s1_19, s2_20, s3_21, i_22, a23, k24, a25, k26, a27, k28⟩ ⟨hM29, hr30, hi31, hi32, hk33, ht34, hk35, hv36, hv37, hv38⟩
 refine JJ_nx fun _ _ hL hA => ?_; dsimp only at hL hA; subst hL hA
 refine Fb 32 0 fun _ => Fb 88 1 fun _ => Fb 24 2 fun _ => Fb 8 6 fun _ => Fo 6 fun ho43 => KS ?_
 refine Oq Vm (Oq Vm (Oq Vlss (KS ?_)))
 refine Kc ?_ ?_
 ·intro h44
  have g45 := dt h44
  obtain ⟨r46, rfl⟩ := scc (n := r17) aM1
  refine KS ?_
  refine Oq Va (KS ?_)
  refine Oq Vm ?_
  refine letv (tp_Next tT ti_18 4) fun rv47 hg48 => ?_
  have hc49 := fn9 tP ta tk tT ti_18 4 pre pre rv47 hg48
  refine Oc [3, 5] ca9 hc49 ?_
  rintro - ⟨he50, he51, he52⟩
  unfold i64ok at he50
  refine Oq Va (KS ?_)
  refine Jl [] (Ent.slNil (α := Int)) ?_
  refine Kl (γ := Nat × Int × List Int × Int × Option Addr × Nat) (fun (r53, ti_54, d_55, k_56, a57, k58) => ⟨[(0, tP), (4, p3), (5, p10), (1, vi (1 + rv11.1)), (6, vi i_22), (7, vl a57 k58 d_55), (8, vi k_56)], [S a57 k58 d_55, Cl tP [vl ta tk tT, vi ti_54], O a27 k28 s3_21, O a25 k26 s2_20, O a23 k24 s1_19, Cl p10 [vi (rv4.1 % 5), vl a23 k24 s1_19, vl a25 k26 s2_20, vl a27 k28 s3_21], Cl p3 [vi 0, .slice none 0 0, .slice none 0 0, .slice none 0 0], S ta tk tT], tp_System_L1 tT (1 + rv11.1) r53 ti_54 d_55 k_56 = tp_System_L1 tT (1 + rv11.1) (rv47.1.toNat) rv47.2 [] rv47.1 ∧ r53 = k_56.toNat ∧ k_56 ≤ (rv47.1 : Int) ∧ (-9223372036854775808 ≤ ti_54 ∧ ti_54 ≤ 9223372036854775807) ∧ (0 ≤ ti_54 ∧ ti_54 ≤ (tT.length : Int)) ∧ (-9223372036854775808 ≤ k_56 ∧ k_56 ≤ 9223372036854775807) ∧ (d_55.length : Int) + k_56 ≤ 4, r53⟩) (rv47.1.toNat, rv47.2, [], rv47.1, none, 0) [0, 1, 1, 1, 1, 1, 1, 1] ⟨rfl, rfl, aM1, aM1, aM1, aM1, iv0⟩ ?_
  rintro ⟨r53, ti_54, d_55, k_56, a57, k58⟩ ⟨hM59, hr60, hi61, hk62, ht63, hk64, hv65⟩
  refine JJ_nx fun _ _ hL hA => ?_; dsimp only at hL hA; subst hL hA
  refine Fb 8 0 fun _ => Fo 0 fun ho67 => Fb 32 2 fun _ => Fb 88 3 fun _ => Fb 24 4 fun _ => Fb 8 7 fun _ => Fo 7 fun ho72 => KS ?_
  refine Oq Vm (Oq Vgtr (KS ?_))
  refine Kc ?_ ?_
  ·intro h73
   have g74 := dt h73
   obtain ⟨r75, rfl⟩ := scc (n := r53) aM1
   refine KS ?_
   refine Oq Vm (Oq Vm (Oq Vm ?_))
   refine letv (tp_Next tT ti_54 (1 + rv11.1)) fun rv76 hg77 => ?_
   have hc78 := fn9 tP ta tk tT ti_54 ((1 + rv11.1)) pre pre rv76 hg77
   refine Oc [1, 6] ca9 hc78 ?_
   rintro - ⟨he79, he80, he81⟩
   unfold i64ok at he79
   refine letv (r7_Insert d_55 rv76.1) fun rv83 hg84 => ?_
   have hc85 := fn28 d_55 a57 k58 rv76.1 pre pre rv83 hg84
   refine Oc [1] ca28 hc85 ?_
   rintro c82 he86
   refine Jo 0 ?_; rintro a87 k88 rfl
   refine Fb 8 0 fun _ => Fo 0 fun ho90 => ?_
   refine Oq Va (KS ?_)
   refine Oq Vm (Oq Vsub (Oq Va (KS ?_)))
   exact Kg (r75, rv76.2, rv83, (k_56 - 1), a87, k88) [0, 1, 2, 2, 2, 2, 2, 2] ⟨(q3 hM59 (by simp only [tp_System_L1, h73, hg77, hg84, cs4])), aM1, aM1, aM1, aM1, aM1, iv1⟩
  intro h73
  have g91 := df h73
  obtain rfl : r53 = 0 := by omega
  refine Ke ?_
  have hR92 := q2 hM59 (ti_54, d_55) (by simp only [tp_System_L1, h73, cs4])
  refine KS ?_
  refine Oq (Vfa fo27_0 5) (Oq (VldF sh3 5) ?_)
  refine letv (r1_Empty (rv4.1 % 5)) fun rv94 hg95 => ?_
  have hc96 := fn29 ((rv4.1 % 5)) pre pre rv94 hg95
  refine Oc [] ca29 hc96 ?_
  rintro c93 ⟨he97, he98, he99⟩
  unfold i64ok at he97
  refine Jo 0 ?_; rintro a100 k101 rfl
  refine Fb 8 0 fun _ => ?_
  refine Oa (Al ze42 [vi 0, .slice none 0 0]) fun p103 => Ost (Scl [0] sh42 [vi rv94.Width, vl a100 k101 rv94.Words]) (KS ?_)
  refine Oq Vm ?_
  refine letv (tp_Next tT ti_54 3) fun rv104 hg105 => ?_
  have hc106 := fn9 tP ta tk tT ti_54 3 pre pre rv104 hg105
  refine Oc [3, 8] ca9 hc106 ?_
  rintro - ⟨he107, he108, he109⟩
  unfold i64ok at he107
  refine Oq Veql (KS ?_)
  refine Kc ?_ ?_
  ·intro h110
   have g111 := eq_of_beq h110
   refine KS ?_
   refine Oq Vm (Oq (Vfa fo27_0 7) (Oq (VldF sh3 7) ?_))
   refine letv (tp_Set tT rv104.2 (rv4.1 % 5)) fun rv113 hg114 => ?_
   have hc115 := fn13 tP ta tk tT rv104.2 ((rv4.1 % 5)) pre pre pre rv113 hg114
   refine Oc [0, 8] ca13 hc115 ?_
   rintro c112 ⟨he116, he117, he118, he119⟩
   unfold i64ok at he116
   refine Jo 0 ?_; rintro a120 k121 rfl
   refine Fb 8 0 fun _ => ?_
   refine Ost (Scl [2] sh42 [vi rv113.1.Width, vl a120 k121 rv113.1.Words]) (KS ?_)
   refine Jp 8 fun hp123 => ?_
   refine JK_drawK [0, 1, 0, 4, 15, 0, 32, 0, 128, 511, 0, 1024, 0, 0, 8192, 29695, 62463, 131071, 27775, 524287, 1048575, 2097151, 4194303, 8388607] fmix ?_
   refine Dv [0] (Vfa fo27_1 0) (Dv [9] (VldF sh23 0) (Dv [] Vm (Dx [] [] [0] (fun G => (G.g 3 0)) [fun G => Cr (G.g 3 0) 1 [vl a57 k58 d_55]] (fun G => xA (AsV sl23 sz23 [vl a57 k58 d_55] [vl a57 k58 d_55])) ?_)))
   have hn126 := la s1_19 ([d_55] : List (List Int))
   refine Dx [5, 8, 12] [8, 12] [1, 0] (fun G => (G.g 4 0)) [fun G => os (G.g 4 0) ((s1_19 ++ [d_55]) : List (List Int))] (fun G => xp [2, 0] rfl (Ent.cr1 (α := List Int) (A := [S a57 k58 d_55]) _ d_55 _ aB1 (fun h => ⟨_, rfl, sepAll_get (i := 0) rfl h⟩)) (xA (ApO [3, 0] sl23 sl23 sz23))) (Dv [0] (Vfa fo27_3 0) (Dv [9] (VldF sh25 0) (Dv [1] (VldA sh42 0) (Dx [] [] [0] (fun G => (G.g 8 0)) [fun G => Cr (G.g 8 0) 1 [vi rv113.1.Width, vl a120 k121 rv113.1.Words]] (fun G => xA (AsV sl25 sz25 [.agg #[vi rv113.1.Width, vl a120 k121 rv113.1.Words]] [vi rv113.1.Width, vl a120 k121 rv113.1.Words])) ?_))))
   have hn129 := la s3_21 ([rv113.1] : List GSet)
   refine Dx [2, 6, 14] [2, 6, 14] [1, 0] (fun G => (G.g 9 0)) [fun G => S a120 k121 rv113.1.Words, fun G => os (G.g 9 0) ((s3_21 ++ [rv113.1]) : List GSet)] (fun G => xp [0] rfl (Ent.freeze _ _) (xp [2, 0] rfl (Ent.cr1 (α := GSet) (A := [S a120 k121 rv113.1.Words]) _ rv113.1 _ aB1 (fun h => ⟨_, rfl, aL1, sepAll_get (i := 0) rfl h⟩)) (xA (ApO [3, 0] sl25 sl25 sz25)))) (Dv [0] (Vfa fo27_2 0) (Dv [9] (VldF sh24 0) (Dv [] Vm (Dv [0] (Vfa fo27_0 0) (Dv [9] (VldF sh3 0) ?_)))))
   refine letv (tp_Transfer tT rv113.2 (rv4.1 % 5)) fun rv133 hg134 => ?_
   refine Dx [3, 11] [3] [5, 0, 1, 2, 3, 4] (fun G => .agg #[vi rv133.1.Gen.Width, (G.g 15 0), vi rv133.1.Kill.Width, (G.g 15 1), (G.g 15 2)]) [fun G => SP.fact (i64ok rv133.1.Gen.Width ∧ i64ok rv133.1.Kill.Width ∧ (0 ≤ rv133.2 ∧ rv133.2 ≤ (tT.length : Int)) ∧ (rv133.1.Gen.Width = (rv4.1 % 5)) ∧ (rv133.1.Kill.Width = (rv4.1 % 5)) ∧ (rv133.1.Copies.length ≤ 12)), fun G => sl (G.g 15 0) rv133.1.Gen.Words, fun G => sl (G.g 15 1) rv133.1.Kill.Words, fun G => sl (G.g 15 2) rv133.1.Copies, fun G => Cl tP [vl ta tk tT, vi rv133.2]] (fun G => xC [0, 0] ca30 (fn30 tP ta tk tT rv113.2 ((rv4.1 % 5)) pre pre pre rv133 hg134)) (Dx [] [] [0] (fun G => (G.g 16 0)) [fun G => Cr (G.g 16 0) 1 [vi rv133.1.Gen.Width, (G.g 15 0), vi rv133.1.Kill.Width, (G.g 15 1), (G.g 15 2)]] (fun G => xA (AsV sl24 sz24 [.agg #[vi rv133.1.Gen.Width, (G.g 15 0), vi rv133.1.Kill.Width, (G.g 15 1), (G.g 15 2)]] [vi rv133.1.Gen.Width, (G.g 15 0), vi rv133.1.Kill.Width, (G.g 15 1), (G.g 15 2)])) ?_)
   have hn137 := la s2_20 ([rv133.1] : List GTransfer)
   refine Dx [7, 17, 18, 19, 20, 22] [7, 22] [4, 1, 2, 3, 0] (fun G => (G.g 17 0)) [fun G => os (G.g 17 0) ((s2_20 ++ [rv133.1]) : List GTransfer)] (fun G => by refine xf 1 rfl ?_; rintro ⟨he138, he139, he140, he141, he142, he143⟩; unfold i64ok at he138 he139; exact xp [5, 2, 3, 4] rfl (Ent.cr1 (α := GTransfer) (A := [sl (G.g 15 0) rv133.1.Gen.Words, sl (G.g 15 1) rv133.1.Kill.Words, sl (G.g 15 2) rv133.1.Copies]) _ rv133.1 _ aB1 (fun h => ⟨_, _, _, rfl, aL1, sepAll_get (i := 0) rfl h, aL1, sepAll_get (i := 1) rfl h, sepAll_get (i := 2) rfl h⟩)) (xA (ApO [4, 0] sl24 sl24 sz24))) (Dv [0] (Vfa fo27_1 0) (Dx0 [9, 13] [9] [1, 0] [fun G => Cl p10 [vi (rv4.1 % 5), (G.g 4 0), vl a25 k26 s2_20, vl a27 k28 s3_21]] (fun G => x1 1 rfl os_one fun ho144 => (xS (OpS.frame [0] rfl (OpS.storeClF [(G.g 4 0)] [vi (rv4.1 % 5), (G.g 4 0), vl a25 k26 s2_20, vl a27 k28 s3_21] rfl rfl rfl sh23 (cells_of_one ho144) rfl (by simp only [List.all_cons, List.all_nil, ho144, Bool.and_true, Bool.true_and] <;> rfl) aB1 rfl)))) (Dv [0] (Vfa fo27_3 0) (Dx0 [16, 24] [24] [1, 0] [fun G => Cl p10 [vi (rv4.1 % 5), (G.g 4 0), vl a25 k26 s2_20, (G.g 9 0)]] (fun G => x1 0 rfl os_one fun ho145 => (xS (OpS.frame [1] rfl (OpS.storeClF [(G.g 9 0)] [vi (rv4.1 % 5), (G.g 4 0), vl a25 k26 s2_20, (G.g 9 0)] rfl rfl rfl sh25 (cells_of_one ho145) rfl (by simp only [List.all_cons, List.all_nil, ho145, Bool.and_true, Bool.true_and] <;> rfl) aB1 rfl)))) (Dv [0] (Vfa fo27_2 0) (Dx0 [23, 25] [25] [1, 0] [fun G => Cl p10 [vi (rv4.1 % 5), (G.g 4 0), (G.g 17 0), (G.g 9 0)]] (fun G => x1 0 rfl os_one fun ho146 => (xS (OpS.frame [1] rfl (OpS.storeClF [(G.g 17 0)] [vi (rv4.1 % 5), (G.g 4 0), (G.g 17 0), (G.g 9 0)] rfl rfl rfl sh24 (cells_of_one ho146) rfl (by simp only [List.all_cons, List.all_nil, ho146, Bool.and_true, Bool.true_and] <;> rfl) aB1 rfl)))) ?_))))))
   refine Dn ⟨by kernel_rfl, fun G => ?_⟩
   refine Jw2 [(0, tP), (4, p3), (5, p10), (1, vi (1 + rv11.1)), (6, vi i_22)] [0, 1, 4, 5, 10, 11] [os (G.g 4 0) ((s1_19 ++ [d_55]) : List (List Int)), S a120 k121 rv113.1.Words, os (G.g 9 0) ((s3_21 ++ [rv113.1]) : List GSet), SP.fact (i64ok rv133.1.Gen.Width ∧ i64ok rv133.1.Kill.Width ∧ (0 ≤ rv133.2 ∧ rv133.2 ≤ (tT.length : Int)) ∧ (rv133.1.Gen.Width = (rv4.1 % 5)) ∧ (rv133.1.Kill.Width = (rv4.1 % 5)) ∧ (rv133.1.Copies.length ≤ 12)), sl (G.g 15 0) rv133.1.Gen.Words, sl (G.g 15 1) rv133.1.Kill.Words, sl (G.g 15 2) rv133.1.Copies, Cl tP [vl ta tk tT, vi rv133.2], os (G.g 17 0) ((s2_20 ++ [rv133.1]) : List GTransfer), Cl p10 [vi (rv4.1 % 5), (G.g 4 0), (G.g 17 0), (G.g 9 0)]] ?_
   generalize G.g 4 0 = c125, G.g 9 0 = c128, G.g 15 0 = c130, G.g 15 1 = c131, G.g 15 2 = c132, G.g 17 0 = c136
   refine Jf 9 rfl ?_; rintro ⟨he147, he148, he149, he150, he151, he152⟩
   unfold i64ok at he147 he148
   refine Jk [1, 1, 1, 2, 2, 3, 3, 4, 5, 6, 7, 8, 8, 8] ?_
   refine Jo 5 ?_; rintro a153 k154 rfl
   refine Fb 24 5 fun _ => ?_
   refine Jo 7 ?_; rintro a156 k157 rfl
   refine Fb 32 7 fun _ => ?_
   refine Jo 8 ?_; rintro a159 k160 rfl
   refine Fb 8 8 fun _ => ?_
   refine Jo 9 ?_; rintro a162 k163 rfl
   refine Fb 8 9 fun _ => ?_
   refine Jo 10 ?_; rintro a165 k166 rfl
   refine Fb 16 10 fun _ => ?_
   refine Jo 12 ?_; rintro a168 k169 rfl
   refine Fb 88 12 fun _ => KS ?_
   refine Oq Vm (Oq Vadd (Oq Va (KS ?_)))
   exact Kg (r46, rv133.2, (s1_19 ++ [d_55]), (s2_20 ++ [rv133.1]), (s3_21 ++ [rv113.1]), (i_22 + 1), a153, k154, a168, k169, a156, k157) [7, 11, 5, 9, 9, 3, 3] ⟨(q3 hM29 (by simp only [tp_System_L0, h44, h73, h110, hg48, hR92, hg95, hg105, hg114, hg134, cs4])), aM1, aM1, aM1, aM1, aM1, aM1, iv1, iv1, iv1⟩
  intro h110
  have g171 := ne_of_beq_false h110
  refine KS ?_
  refine Jp 7 fun hp172 => ?_
  refine JK_drawK [0, 1, 0, 4, 15, 0, 32, 0, 128, 511, 0, 1024, 0, 0, 8192, 29695, 62463, 131071, 27775, 524287, 1048575, 2097151, 4194303, 8388607] fmix ?_
  refine Dv [0] (Vfa fo27_1 0) (Dv [8] (VldF sh23 0) (Dv [] Vm (Dx [] [] [0] (fun G => (G.g 3 0)) [fun G => Cr (G.g 3 0) 1 [vl a57 k58 d_55]] (fun G => xA (AsV sl23 sz23 [vl a57 k58 d_55] [vl a57 k58 d_55])) ?_)))
  have hn175 := la s1_19 ([d_55] : List (List Int))
  refine Dx [4, 7, 11] [7, 11] [1, 0] (fun G => (G.g 4 0)) [fun G => os (G.g 4 0) ((s1_19 ++ [d_55]) : List (List Int))] (fun G => xp [2, 0] rfl (Ent.cr1 (α := List Int) (A := [S a57 k58 d_55]) _ d_55 _ aB1 (fun h => ⟨_, rfl, sepAll_get (i := 0) rfl h⟩)) (xA (ApO [3, 0] sl23 sl23 sz23))) (Dv [0] (Vfa fo27_3 0) (Dv [8] (VldF sh25 0) (Dv [2] (VldA sh42 0) (Dx [] [] [0] (fun G => (G.g 8 0)) [fun G => Cr (G.g 8 0) 1 [vi rv94.Width, vl a100 k101 rv94.Words]] (fun G => xA (AsV sl25 sz25 [.agg #[vi rv94.Width, vl a100 k101 rv94.Words]] [vi rv94.Width, vl a100 k101 rv94.Words])) ?_))))
  have hn178 := la s3_21 ([rv94] : List GSet)
  refine Dx [3, 5, 13] [3, 5, 13] [1, 0] (fun G => (G.g 9 0)) [fun G => S a100 k101 rv94.Words, fun G => os (G.g 9 0) ((s3_21 ++ [rv94]) : List GSet)] (fun G => xp [0] rfl (Ent.freeze _ _) (xp [2, 0] rfl (Ent.cr1 (α := GSet) (A := [S a100 k101 rv94.Words]) _ rv94 _ aB1 (fun h => ⟨_, rfl, aL1, sepAll_get (i := 0) rfl h⟩)) (xA (ApO [3, 0] sl25 sl25 sz25)))) (Dv [0] (Vfa fo27_2 0) (Dv [8] (VldF sh24 0) (Dv [] Vm (Dv [0] (Vfa fo27_0 0) (Dv [8] (VldF sh3 0) ?_)))))
  refine letv (tp_Transfer tT rv104.2 (rv4.1 % 5)) fun rv182 hg183 => ?_
  refine Dx [1, 10] [1] [5, 0, 1, 2, 3, 4] (fun G => .agg #[vi rv182.1.Gen.Width, (G.g 15 0), vi rv182.1.Kill.Width, (G.g 15 1), (G.g 15 2)]) [fun G => SP.fact (i64ok rv182.1.Gen.Width ∧ i64ok rv182.1.Kill.Width ∧ (0 ≤ rv182.2 ∧ rv182.2 ≤ (tT.length : Int)) ∧ (rv182.1.Gen.Width = (rv4.1 % 5)) ∧ (rv182.1.Kill.Width = (rv4.1 % 5)) ∧ (rv182.1.Copies.length ≤ 12)), fun G => sl (G.g 15 0) rv182.1.Gen.Words, fun G => sl (G.g 15 1) rv182.1.Kill.Words, fun G => sl (G.g 15 2) rv182.1.Copies, fun G => Cl tP [vl ta tk tT, vi rv182.2]] (fun G => xC [0, 0] ca30 (fn30 tP ta tk tT rv104.2 ((rv4.1 % 5)) pre pre pre rv182 hg183)) (Dx [] [] [0] (fun G => (G.g 16 0)) [fun G => Cr (G.g 16 0) 1 [vi rv182.1.Gen.Width, (G.g 15 0), vi rv182.1.Kill.Width, (G.g 15 1), (G.g 15 2)]] (fun G => xA (AsV sl24 sz24 [.agg #[vi rv182.1.Gen.Width, (G.g 15 0), vi rv182.1.Kill.Width, (G.g 15 1), (G.g 15 2)]] [vi rv182.1.Gen.Width, (G.g 15 0), vi rv182.1.Kill.Width, (G.g 15 1), (G.g 15 2)])) ?_)
  have hn186 := la s2_20 ([rv182.1] : List GTransfer)
  refine Dx [6, 16, 17, 18, 19, 21] [6, 21] [4, 1, 2, 3, 0] (fun G => (G.g 17 0)) [fun G => os (G.g 17 0) ((s2_20 ++ [rv182.1]) : List GTransfer)] (fun G => by refine xf 1 rfl ?_; rintro ⟨he187, he188, he189, he190, he191, he192⟩; unfold i64ok at he187 he188; exact xp [5, 2, 3, 4] rfl (Ent.cr1 (α := GTransfer) (A := [sl (G.g 15 0) rv182.1.Gen.Words, sl (G.g 15 1) rv182.1.Kill.Words, sl (G.g 15 2) rv182.1.Copies]) _ rv182.1 _ aB1 (fun h => ⟨_, _, _, rfl, aL1, sepAll_get (i := 0) rfl h, aL1, sepAll_get (i := 1) rfl h, sepAll_get (i := 2) rfl h⟩)) (xA (ApO [4, 0] sl24 sl24 sz24))) (Dv [0] (Vfa fo27_1 0) (Dx0 [8, 12] [8] [1, 0] [fun G => Cl p10 [vi (rv4.1 % 5), (G.g 4 0), vl a25 k26 s2_20, vl a27 k28 s3_21]] (fun G => x1 1 rfl os_one fun ho193 => (xS (OpS.frame [0] rfl (OpS.storeClF [(G.g 4 0)] [vi (rv4.1 % 5), (G.g 4 0), vl a25 k26 s2_20, vl a27 k28 s3_21] rfl rfl rfl sh23 (cells_of_one ho193) rfl (by simp only [List.all_cons, List.all_nil, ho193, Bool.and_true, Bool.true_and] <;> rfl) aB1 rfl)))) (Dv [0] (Vfa fo27_3 0) (Dx0 [15, 23] [23] [1, 0] [fun G => Cl p10 [vi (rv4.1 % 5), (G.g 4 0), vl a25 k26 s2_20, (G.g 9 0)]] (fun G => x1 0 rfl os_one fun ho194 => (xS (OpS.frame [1] rfl (OpS.storeClF [(G.g 9 0)] [vi (rv4.1 % 5), (G.g 4 0), vl a25 k26 s2_20, (G.g 9 0)] rfl rfl rfl sh25 (cells_of_one ho194) rfl (by simp only [List.all_cons, List.all_nil, ho194, Bool.and_true, Bool.true_and] <;> rfl) aB1 rfl)))) (Dv [0] (Vfa fo27_2 0) (Dx0 [22, 24] [24] [1, 0] [fun G => Cl p10 [vi (rv4.1 % 5), (G.g 4 0), (G.g 17 0), (G.g 9 0)]] (fun G => x1 0 rfl os_one fun ho195 => (xS (OpS.frame [1] rfl (OpS.storeClF [(G.g 17 0)] [vi (rv4.1 % 5), (G.g 4 0), (G.g 17 0), (G.g 9 0)] rfl rfl rfl sh24 (cells_of_one ho195) rfl (by simp only [List.all_cons, List.all_nil, ho195, Bool.and_true, Bool.true_and] <;> rfl) aB1 rfl)))) ?_))))))
  refine Dn ⟨by kernel_rfl, fun G => ?_⟩
  refine Jw2 [(0, tP), (4, p3), (5, p10), (1, vi (1 + rv11.1)), (6, vi i_22)] [0, 2, 4, 9, 10] [os (G.g 4 0) ((s1_19 ++ [d_55]) : List (List Int)), S a100 k101 rv94.Words, os (G.g 9 0) ((s3_21 ++ [rv94]) : List GSet), SP.fact (i64ok rv182.1.Gen.Width ∧ i64ok rv182.1.Kill.Width ∧ (0 ≤ rv182.2 ∧ rv182.2 ≤ (tT.length : Int)) ∧ (rv182.1.Gen.Width = (rv4.1 % 5)) ∧ (rv182.1.Kill.Width = (rv4.1 % 5)) ∧ (rv182.1.Copies.length ≤ 12)), sl (G.g 15 0) rv182.1.Gen.Words, sl (G.g 15 1) rv182.1.Kill.Words, sl (G.g 15 2) rv182.1.Copies, Cl tP [vl ta tk tT, vi rv182.2], os (G.g 17 0) ((s2_20 ++ [rv182.1]) : List GTransfer), Cl p10 [vi (rv4.1 % 5), (G.g 4 0), (G.g 17 0), (G.g 9 0)]] ?_
  generalize G.g 4 0 = c174, G.g 9 0 = c177, G.g 15 0 = c179, G.g 15 1 = c180, G.g 15 2 = c181, G.g 17 0 = c185
  refine Jf 8 rfl ?_; rintro ⟨he196, he197, he198, he199, he200, he201⟩
  unfold i64ok at he196 he197
  refine Jk [1, 1, 2, 2, 3, 3, 4, 5, 6, 7, 8, 8, 8] ?_
  refine Jo 4 ?_; rintro a202 k203 rfl
  refine Fb 24 4 fun _ => ?_
  refine Jo 6 ?_; rintro a205 k206 rfl
  refine Fb 32 6 fun _ => ?_
  refine Jo 7 ?_; rintro a208 k209 rfl
  refine Fb 8 7 fun _ => ?_
  refine Jo 8 ?_; rintro a211 k212 rfl
  refine Fb 8 8 fun _ => ?_
  refine Jo 9 ?_; rintro a214 k215 rfl
  refine Fb 16 9 fun _ => ?_
  refine Jo 11 ?_; rintro a217 k218 rfl
  refine Fb 88 11 fun _ => KS ?_
  refine Oq Vm (Oq Vadd (Oq Va (KS ?_)))
  exact Kg (r46, rv182.2, (s1_19 ++ [d_55]), (s2_20 ++ [rv182.1]), (s3_21 ++ [rv94]), (i_22 + 1), a202, k203, a217, k218, a205, k206) [6, 10, 4, 8, 8, 2, 2] ⟨(q3 hM29 (by simp only [tp_System_L0, h44, h73, h110, hg48, hR92, hg95, hg105, hg183, cs4])), aM1, aM1, aM1, aM1, aM1, aM1, iv1, iv1, iv1⟩
 intro h44
 have g220 := df h44
 obtain rfl : r17 = 0 := by omega
 refine Ke ?_
 have hR221 := q2 hM29 (ti_18, s1_19, s2_20, s3_21) (by simp only [tp_System_L0, h44, cs4])
 refine KS ?_
 refine Oq (VldA sh27 4) (Ost (Scl [5] sh27 [vi (rv4.1 % 5), vl a23 k24 s1_19, vl a25 k26 s2_20, vl a27 k28 s3_21]) (KS ?_))
 refine Jl [3] (Ent.freeze _ _) ?_
 refine Jl [3] (Ent.freeze _ _) ?_
 refine Jl [3] (Ent.freeze _ _) ?_
 have hq := q4 hrr ((GSystem.mk (rv4.1 % 5) s1_19 s2_20 s3_21), ti_18) (by simp only [tp_System, h44, hg5, hg12, hR221, cs4]); subst hq
 exact Kr (vl a23 k24 s1_19, vl a25 k26 s2_20, vl a27 k28 s3_21) rfl (.cellN 3 rfl sh27 rfl (reads_Cl _ _) rfl .nil) [2, 1, 0, 4] en
theorem fn6 (t : List Int) (ta0 : Option Addr) (tk0 : Nat) (rr : Bool) (hrr : w16_WitnessDecides t = rr) : FT Tryz.prog 6 #[vl ta0 tk0 t] [S ta0 tk0 t] (fun g : Unit => True) (fun g => vb rr) (fun g => []) := by
 refine FTi Tryz.func6 fun w0 M0 F0 => Fb 8 0 fun _ => Fo 0 fun ho2 => ?_
 refine KS ?_
 refine Oq Va (KS ?_)
 refine Oq Vm ?_
 refine letv (g_New t) fun rv4 hg5 => ?_
 have hc6 := fn7 t ta0 tk0 rv4 hg5
 refine Oc [0] ca7 hc6 ?_
 rintro c3 -
 refine letv (tp_System t 0 5) fun rv10 hg11 => ?_
 have hc12 := fn8 c3 ta0 tk0 t 0 5 pre pre pre rv10 hg11
 refine Oc [0, 0] ca8 hc12 ?_
 rintro ⟨c7, c8, c9⟩ ⟨he13, he14, he15⟩
 unfold i64ok at he13
 refine Jo 0 ?_; rintro a16 k17 rfl
 refine Fb 24 0 fun _ => ?_
 refine Jo 1 ?_; rintro a19 k20 rfl
 refine Fb 88 1 fun _ => ?_
 refine Jo 2 ?_; rintro a22 k23 rfl
 refine Fb 32 2 fun _ => ?_
 have hds := System_facts (by assumption : tp_System t 0 5 = rv10) aM1
 obtain ⟨hd1, hd2, hd3⟩ := hds
 have hv1 := hd1.n
 have hv2 := hd1.tl
 have hv3 := hd1.bl
 have hv4 := hd1.w
 have hv5 := hd1.dep_len
 have hdw := dw_le hd1
 have hdn : (0 : Int) ≤ (rv10.1.Deps.length : Int) * rv10.1.Width := Int.mul_nonneg aM1 aM1
 refine Oa (Al ze27 [vi 0, .slice none 0 0, .slice none 0 0, .slice none 0 0]) fun p25 => Ost (Scl [0] sh27 [vi rv10.1.Width, vl a16 k17 rv10.1.Deps, vl a19 k20 rv10.1.Transfers, vl a22 k23 rv10.1.Boundary]) (KS ?_)
 refine Oq (VldA sh27 0) ?_
 refine letv (fx_Solve rv10.1) fun rv27 hg28 => ?_
 have hc29 := fn24 rv10.1 a16 k17 a19 k20 a22 k23 pre rv27 hg28
 refine Oc [1, 2, 3] ca24 hc29 ?_
 rintro c26 ⟨he30, he31⟩
 unfold i64ok at he30 he31
 refine Jo 0 ?_; rintro a32 k33 rfl
 refine Fb 32 0 fun _ => ?_
 have hsl := pSolve_len (by assumption : fx_Solve rv10.1 = rv27) hd1
 refine Oq Vm (Oq Vx (Oq Vx (Oq Vx (Oq Va (Oq Va (Oq Va (KS ?_)))))))
 refine Oq Vm (Oq Vneq (KS ?_))
 refine Kc ?_ ?_
 ·intro h35
  have g36 := ne_of_bne h35
  refine KS ?_
  refine Oq Va (KS ?_)
  have hq := q4 hrr false (by unfold w16_WitnessDecides; simp only [h35, hg5, hg11, hg28, cs4, beq_true, beq_false]); subst hq
  exact Kr () rfl (.tmp rfl .nil) [] trivial
 intro h35
 have g37 := eq_of_bne_false h35
 refine KS ?_
 refine Oq Va (KS ?_)
 refine Kl (γ := Nat × Int) (fun (r38, n_39) => ⟨[(3, p25), (4, vl a32 k33 rv27.1), (7, vi n_39)], [S a32 k33 rv27.1, Cl p25 [vi rv10.1.Width, vl a16 k17 rv10.1.Deps, vl a19 k20 rv10.1.Transfers, vl a22 k23 rv10.1.Boundary], S a16 k17 rv10.1.Deps, S a19 k20 rv10.1.Transfers, S a22 k23 rv10.1.Boundary], w16_WitnessDecides_L0 rv10.1.Width rv10.1.Deps rv10.1.Transfers rv10.1.Boundary rv27.1 r38 n_39 = w16_WitnessDecides_L0 rv10.1.Width rv10.1.Deps rv10.1.Transfers rv10.1.Boundary rv27.1 (((rv10.1.Deps.length : Int) - 0).toNat) 0 ∧ r38 = ((rv10.1.Deps.length : Int) - n_39).toNat ∧ (0 : Int) ≤ n_39 ∧ n_39 ≤ (rv10.1.Deps.length : Int) ∧ (-9223372036854775808 ≤ n_39 ∧ n_39 ≤ 9223372036854775807), r38⟩) (((rv10.1.Deps.length : Int) - 0).toNat, 0) [0, 1, 1, 2, 3] ⟨rfl, rfl, aM1, aM1, aM1⟩ ?_
 rintro ⟨r38, n_39⟩ ⟨hM40, hr41, hi42, hi43, hk44⟩
 refine JJ_nx fun _ _ hL hA => ?_; dsimp only at hL hA; subst hL hA
 refine Fb 32 0 fun _ => Fb 24 2 fun _ => Fb 88 3 fun _ => Fb 32 4 fun _ => KS ?_
 refine Oq Vm (Oq (Vfa fo27_1 1) (Oq (VldF sh23 1) (Oq (Vlen sl23) (Oq Vlss (KS ?_)))))
 refine Kc ?_ ?_
 ·intro h49
  have g50 := dt h49
  obtain ⟨r51, rfl⟩ := scc (n := r38) aM1
  refine KS ?_
  refine Oq Va (KS ?_)
  refine Kl (γ := Nat × Int) (fun (r52, b_53) => ⟨[(3, p25), (4, vl a32 k33 rv27.1), (7, vi n_39), (8, vi b_53)], [S a32 k33 rv27.1, Cl p25 [vi rv10.1.Width, vl a16 k17 rv10.1.Deps, vl a19 k20 rv10.1.Transfers, vl a22 k23 rv10.1.Boundary], S a16 k17 rv10.1.Deps, S a19 k20 rv10.1.Transfers, S a22 k23 rv10.1.Boundary], w16_WitnessDecides_L1 rv10.1.Width rv10.1.Deps rv10.1.Transfers rv10.1.Boundary rv27.1 n_39 r52 b_53 = w16_WitnessDecides_L1 rv10.1.Width rv10.1.Deps rv10.1.Transfers rv10.1.Boundary rv27.1 n_39 (((rv10.1.Width : Int) - 0).toNat) 0 ∧ r52 = ((rv10.1.Width : Int) - b_53).toNat ∧ (0 : Int) ≤ b_53 ∧ (b_53 ≤ rv10.1.Width ∨ b_53 = 0) ∧ (-9223372036854775808 ≤ b_53 ∧ b_53 ≤ 9223372036854775807), r52⟩) (((rv10.1.Width : Int) - 0).toNat, 0) [0, 1, 1, 2, 3] ⟨rfl, rfl, aM1, (.inr rfl), aM1⟩ ?_
  rintro ⟨r52, b_53⟩ ⟨hM54, hr55, hi56, hi57, hk58⟩
  refine JJ_nx fun _ _ hL hA => ?_; dsimp only at hL hA; subst hL hA
  refine Fb 32 0 fun _ => Fb 24 2 fun _ => Fb 88 3 fun _ => Fb 32 4 fun _ => KS ?_
  refine Oq Vm (Oq (Vfa fo27_0 1) (Oq (VldF sh3 1) (Oq Vlss (KS ?_))))
  refine Kc ?_ ?_
  ·intro h63
   have g64 := dt h63
   obtain ⟨r65, rfl⟩ := scc (n := r52) aM1
   refine KS ?_
   refine Oq (VldA sh27 1) (Oq Vm (Oq Vm ?_))
   refine letv (wt_Find rv10.1 n_39 b_53) fun rv67 hg68 => ?_
   have hc69 := fn25 rv10.1 a16 k17 a19 k20 a22 k23 n_39 b_53 pre pre pre rv67 hg68
   refine Oc [2, 3, 4] ca25 hc69 ?_
   rintro c66 he70
   unfold i64ok at he70
   refine Jo 0 ?_; rintro a71 k72 rfl
   refine Fb 16 0 fun _ => ?_
   refine Oq Vm (Oq Vx (Oq Vx (Oq Vx (Oq Va (Oq Va (Oq Va (KS ?_)))))))
   refine Oq (VldA sh27 2) (Oq Vm (Oq Vm ?_))
   refine letv (wt_Absent rv10.1 n_39 b_53) fun rv75 hg76 => ?_
   have hc77 := fn26 rv10.1 a16 k17 a19 k20 a22 k23 n_39 b_53 pre pre pre rv75 hg76
   refine Oc [3, 4, 5] ca26 hc77 ?_
   rintro c74 he78
   unfold i64ok at he78
   refine Jo 0 ?_; rintro a79 k80 rfl
   refine Fb 32 0 fun _ => ?_
   refine Oq Vm (Oq Vx (Oq Vx (Oq Vx (Oq Va (Oq Va (Oq Va (KS ?_)))))))
   refine Oq Vm (Oq Vneq (Oq Vm ?_))
   refine Js 57 ?_ ?_
   ·intro h82
    have g83 := ne_of_bne h82
    refine Osk (Osk (Oq Vpt (Oq Vm (Osk (Osk (Osk (Oq Vpt (Oq Vm (Osk ?_)))))))))
    refine Osk (Osk (Osk (Osk (Osk (Osk (Osk (Oq Vpt (Oq Vm (Osk ?_)))))))))
    refine Osk (Osk (Osk (Osk (Osk (Osk (Osk (Osk (Oq Vpt (KS ?_)))))))))
    refine Kt (KS ?_)
    refine Oq Va (KS ?_)
    have hR84 := q2 hM54 (.ret false) (by simp only [w16_WitnessDecides_L1, h63, h82, hg68, hg76, cs4, beq_true, beq_false])
    have hR85 := q2 hM40 (.ret false) (by simp only [w16_WitnessDecides_L0, h49, h63, h82, hg68, hg76, hR84, cs4, beq_true, beq_false])
    have hq := q4 hrr false (by unfold w16_WitnessDecides; simp only [h35, h49, h63, h82, hg5, hg11, hg28, hg68, hg76, hR84, hR85, cs4, beq_true, beq_false]); subst hq
    exact Kr () rfl (.tmp rfl .nil) [] trivial
   intro h82
   have g86 := eq_of_bne_false h82
   refine Oq Vm (Oq Vneq (Oq Vpf (Oq Vm ?_)))
   refine Js 61 ?_ ?_
   ·intro h87
    have g88 := ne_of_bne h87
    refine Osk (Osk (Osk (Oq Vpt (Oq Vm (Osk (Osk (Osk (Osk (Osk ?_)))))))))
    refine Osk (Osk (Osk (Oq Vpt (Oq Vm (Osk (Osk (Osk (Osk (Osk ?_)))))))))
    refine Osk (Osk (Osk (Osk (Oq Vpt (KS ?_)))))
    refine Kt (KS ?_)
    refine Oq Va (KS ?_)
    have hR89 := q2 hM54 (.ret false) (by simp only [w16_WitnessDecides_L1, h63, h82, h87, hg68, hg76, cs4, beq_true, beq_false])
    have hR90 := q2 hM40 (.ret false) (by simp only [w16_WitnessDecides_L0, h49, h63, h82, h87, hg68, hg76, hR89, cs4, beq_true, beq_false])
    have hq := q4 hrr false (by unfold w16_WitnessDecides; simp only [h35, h49, h63, h82, h87, hg5, hg11, hg28, hg68, hg76, hR89, hR90, cs4, beq_true, beq_false]); subst hq
    exact Kr () rfl (.tmp rfl .nil) [] trivial
   intro h87
   have g91 := eq_of_bne_false h87
   refine Oq Vm (Oq Vm (Oq (Veb un4) (Oq Vpf (Oq Vm ?_))))
   refine Js 66 ?_ ?_
   ·intro h92
    refine Osk (Osk (Osk (Osk (Osk (Osk (Osk (Osk (Oq Vpt (Oq Vm ?_)))))))))
    refine Osk (Osk (Osk (Osk (Osk (Osk (Osk (Osk (Osk (Oq Vpt ?_)))))))))
    refine KS ?_
    refine Kt (KS ?_)
    refine Oq Va (KS ?_)
    have hR94 := q2 hM54 (.ret false) (by simp only [w16_WitnessDecides_L1, h63, h82, h87, h92, hg68, hg76, cs4, beq_true, beq_false])
    have hR95 := q2 hM40 (.ret false) (by simp only [w16_WitnessDecides_L0, h49, h63, h82, h87, h92, hg68, hg76, hR94, cs4, beq_true, beq_false])
    have hq := q4 hrr false (by unfold w16_WitnessDecides; simp only [h35, h49, h63, h82, h87, h92, hg5, hg11, hg28, hg68, hg76, hR94, hR95, cs4, beq_true, beq_false]); subst hq
    exact Kr () rfl (.tmp rfl .nil) [] trivial
   intro h92
   refine Oq Vm (Oq Vm (Oq Vm (Oq (Vi sl25 2) ?_)))
   refine JJ_peek_GSet n_39.toNat 2 rfl rng fun a97 k98 hb99 => ?_
   unfold i64ok at hb99
   refine Fb 8 1 fun _ => ?_
   refine Oq (VldA sh42 0) (Oq Vm ?_)
   refine letv (r1_Has (rv27.1.getD n_39.toNat default) b_53) fun rv101 hg102 => ?_
   have hc103 := fn21 ((rv27.1.getD n_39.toNat default)) a97 k98 b_53 pre pre rv101 hg102
   refine Oc [1] ca21 hc103 ?_
   rintro - -
   refine Oq (Vnb un4) (Oq Vpf (Oq Vm ?_))
   refine Js 76 ?_ ?_
   ·intro h104
    refine Osk (Osk (Osk (Osk (Osk (Osk (Osk (Osk (Osk (Oq Vpt ?_)))))))))
    refine KS ?_
    refine Kt (KS ?_)
    refine Oq Va (KS ?_)
    have hR106 := q2 hM54 (.ret false) (by simp only [w16_WitnessDecides_L1, h63, h82, h87, h92, h104, hg68, hg76, hg102, cs4, beq_true, beq_false])
    have hR107 := q2 hM40 (.ret false) (by simp only [w16_WitnessDecides_L0, h49, h63, h82, h87, h92, h104, hg68, hg76, hg102, hR106, cs4, beq_true, beq_false])
    have hq := q4 hrr false (by unfold w16_WitnessDecides; simp only [h35, h49, h63, h82, h87, h92, h104, hg5, hg11, hg28, hg68, hg76, hg102, hR106, hR107, cs4, beq_true, beq_false]); subst hq
    exact Kr () rfl (.tmp rfl .nil) [] trivial
   intro h104
   refine Oq Vm (Oq (Vlen sl28) (Oq (Vfa fo27_1 5) (Oq (VldF sh23 5) (Oq (Vlen sl23) (Oq (Vfa fo27_0 5) (Oq (VldF sh3 5) (Oq Vmul (Oq Vgtr (Oq Vpf ?_)))))))))
   refine KS ?_
   refine Kc ?_ ?_
   ·intro h109
    have g110 := dt h109
    refine KS ?_
    refine Oq Va (KS ?_)
    have hR111 := q2 hM54 (.ret false) (by simp only [w16_WitnessDecides_L1, h63, h82, h87, h92, h104, h109, hg68, hg76, hg102, cs4, beq_true, beq_false])
    have hR112 := q2 hM40 (.ret false) (by simp only [w16_WitnessDecides_L0, h49, h63, h82, h87, h92, h104, h109, hg68, hg76, hg102, hR111, cs4, beq_true, beq_false])
    have hq := q4 hrr false (by unfold w16_WitnessDecides; simp only [h35, h49, h63, h82, h87, h92, h104, h109, hg5, hg11, hg28, hg68, hg76, hg102, hR111, hR112, cs4, beq_true, beq_false]); subst hq
    exact Kr () rfl (.tmp rfl .nil) [] trivial
   intro h109
   have g113 := df h109
   refine KS ?_
   refine Oq Vm (Oq Vm ?_)
   refine Js 88 ?_ ?_
   ·intro h114
    have h116 := h92; rw [h114] at h116
    have h117 := h104; rw [h114] at h117
    refine Oq (VldA sh27 5) (Oq Vm (Oq Vm (Oq Vm ?_)))
    refine letv (wt_Check rv10.1 n_39 b_53 rv67.1) fun rv118 hg119 => ?_
    have hc120 := fn14 rv10.1 a16 k17 a19 k20 a22 k23 n_39 b_53 rv67.1 a71 k72 pre pre pre rv118 hg119
    refine Oc [6, 7, 8, 3] ca14 hc120 ?_
    rintro - -
    refine Oq Vnot (Oq Vpt (Oq Vm ?_))
    refine Js 96 ?_ ?_
    ·intro h121
     have h123 := not_true h121
     refine Osk (Osk (Osk (Osk (Osk (Osk (Osk (Osk (Osk (Oq Vpt ?_)))))))))
     refine KS ?_
     refine Kt (KS ?_)
     refine Oq Va (KS ?_)
     have hR125 := q2 hM54 (.ret false) (by simp only [w16_WitnessDecides_L1, h63, h82, h87, h92, h104, h109, h114, h121, h123, hg68, hg76, hg102, h116, h117, hg119, cs4, beq_true, beq_false])
     have hR126 := q2 hM40 (.ret false) (by simp only [w16_WitnessDecides_L0, h49, h63, h82, h87, h92, h104, h109, h114, h121, h123, hg68, hg76, hg102, h116, h117, hg119, hR125, cs4, beq_true, beq_false])
     have hq := q4 hrr false (by unfold w16_WitnessDecides; simp only [h35, h49, h63, h82, h87, h92, h104, h109, h114, h121, h123, hg5, hg11, hg28, hg68, hg76, hg102, h116, h117, hg119, hR125, hR126, cs4, beq_true, beq_false]); subst hq
     exact Kr () rfl (.tmp rfl .nil) [] trivial
    intro h121
    have h128 := not_false h121
    refine Oq Vm (Oq Vm ?_)
    refine Js 98 ?_ ?_
    ·intro h130
     exact absurd h92 (by rw [h114, h130]; decide)
    intro h130
    have h132 := h92; rw [h130] at h132
    refine Osk (Osk (Osk (Osk (Osk (Osk (Oq Vpf (Oq Vpf (KS ?_))))))))
    refine Kf (KS ?_)
    refine Oq Vm (Oq Vadd (Oq Va (KS ?_)))
    exact Kg (r65, (b_53 + 1)) [4, 5, 5, 6, 7] ⟨(q3 hM54 (by simp only [w16_WitnessDecides_L1, h63, h82, h87, h92, h104, h109, h114, h121, h128, h130, hg68, hg76, hg102, h116, h117, hg119, h132, cs4, beq_true, beq_false])), aM1, aM1, aM1, aM1⟩
   intro h114
   have h134 := h92; rw [h114] at h134
   have h135 := h104; rw [h114] at h135
   refine Osk (Osk (Osk (Osk (Osk (Osk (Oq Vpf (Oq Vm (Oq Vm (Oq Vm ?_)))))))))
   refine Js 98 ?_ ?_
   ·intro h136
    have h138 := h92; rw [h136] at h138
    refine Oq (VldA sh27 5) (Oq Vm (Oq Vm (Oq Vm ?_)))
    refine letv (wt_CheckAbsent rv10.1 n_39 b_53 rv75.1) fun rv139 hg140 => ?_
    have hc141 := fn16 rv10.1 a16 k17 a19 k20 a22 k23 n_39 b_53 rv75.1 a79 k80 pre pre pre rv139 hg140
    refine Oc [6, 7, 8, 2] ca16 hc141 ?_
    rintro - -
    refine Oq Vnot (Oq Vpt (Oq Vpf (KS ?_)))
    refine Kc ?_ ?_
    ·intro h142
     have h144 := not_true h142
     refine KS ?_
     refine Oq Va (KS ?_)
     have hR146 := q2 hM54 (.ret false) (by simp only [w16_WitnessDecides_L1, h63, h82, h87, h92, h104, h109, h114, h136, h142, h144, hg68, hg76, hg102, h134, h135, h138, hg140, cs4, beq_true, beq_false])
     have hR147 := q2 hM40 (.ret false) (by simp only [w16_WitnessDecides_L0, h49, h63, h82, h87, h92, h104, h109, h114, h136, h142, h144, hg68, hg76, hg102, h134, h135, h138, hg140, hR146, cs4, beq_true, beq_false])
     have hq := q4 hrr false (by unfold w16_WitnessDecides; simp only [h35, h49, h63, h82, h87, h92, h104, h109, h114, h136, h142, h144, hg5, hg11, hg28, hg68, hg76, hg102, h134, h135, h138, hg140, hR146, hR147, cs4, beq_true, beq_false]); subst hq
     exact Kr () rfl (.tmp rfl .nil) [] trivial
    intro h142
    have h149 := not_false h142
    refine KS ?_
    refine Oq Vm (Oq Vadd (Oq Va (KS ?_)))
    exact Kg (r65, (b_53 + 1)) [4, 5, 5, 6, 7] ⟨(q3 hM54 (by simp only [w16_WitnessDecides_L1, h63, h82, h87, h92, h104, h109, h114, h136, h142, h149, hg68, hg76, hg102, h134, h135, h138, hg140, cs4, beq_true, beq_false])), aM1, aM1, aM1, aM1⟩
   intro h136
   exact absurd h92 (by rw [h114, h136]; decide)
  intro h63
  have g151 := df h63
  obtain rfl : r52 = 0 := by omega
  refine Ke ?_
  have hR152 := q2 hM54 (.brk ()) (by simp only [w16_WitnessDecides_L1, h63, cs4, beq_true, beq_false])
  refine KS ?_
  refine Oq Vm (Oq Vadd (Oq Va (KS ?_)))
  exact Kg (r51, (n_39 + 1)) [0, 1, 1, 2, 3] ⟨(q3 hM40 (by simp only [w16_WitnessDecides_L0, h49, h63, hR152, cs4, beq_true, beq_false])), aM1, aM1, aM1, aM1⟩
 intro h49
 have g153 := df h49
 obtain rfl : r38 = 0 := by omega
 refine Ke ?_
 have hR154 := q2 hM40 (.brk ()) (by simp only [w16_WitnessDecides_L0, h49, cs4, beq_true, beq_false])
 refine KS ?_
 have hc155 := fn20  w16_sane rfl
 refine Oc [] ca20 hc155 ?_
 rintro - -
 refine Oq Va (KS ?_)
 have hq := q4 hrr w16_sane (by unfold w16_WitnessDecides; simp only [h35, h49, hg5, hg11, hg28, hR154, cs4, beq_true, beq_false]); subst hq
 exact Kr () rfl (.tmp rfl .nil) [] trivial
end Go.SL.G
