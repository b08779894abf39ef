/- Part 4 of the walks: mirrors, plain laws and walks used by the last text of this claim. -/
import Derived.Test.YtnlgcebcopebdaaGreatDoorW3
import Derived.Test.YtnlgcebcopebdaaGreatDoorProg
set_option linter.unusedVariables false
set_option linter.unusedSimpArgs false
namespace Go.SL.G
open Go Go.SL Go.Proofs
set_option maxHeartbeats 20000000
set_option maxRecDepth 100000
theorem fn51 (text : Str) (htext_0 : text.b.length ≤ 140737488355328) (rr : List GToken × Int × Int × Int) (hrr : r4_Scan text = rr) : FT Tryz.prog 51 #[.string (bs text)] [] (fun g : Value => i64ok rr.2.1 ∧ i64ok rr.2.2.1 ∧ i64ok rr.2.2.2) (fun g => .tuple #[g, vi rr.2.1, vi rr.2.2.1, vi rr.2.2.2]) (fun g => [sl g rr.1]) := by
 refine FTi Tryz.func51 fun w0 M0 F0 => ?_
 refine KS ?_
 refine Oq Va (Oq Va (Oq Va (Oq Va (KS ?_))))
 refine Oq Vm (Oq (VlS un9 (l := text)) (Oq Vgtr (KS ?_)))
 refine Kc ?_ ?_
 ·intro h1
  have g2 := dt h1
  refine KS ?_
  refine Oq Va (Oq Va (Oq Va (Oq Va (KS ?_))))
  refine Jl [] (Ent.slNil (α := GToken)) ?_
  have hq := q4 hrr (([] : List GToken), 0, 0, 7) (by simp only [r4_Scan, h1, cs4]); subst hq
  exact Kr (.slice none 0 0) rfl (.tmp rfl (.tmp rfl (.tmp rfl (.tmp rfl .nil)))) [0] en
 intro h1
 have g3 := df h1
 refine KS ?_
 refine Oq Va (KS ?_)
 refine Oq Va (Oq Va (Oq Va (KS ?_)))
 refine Oq Va (KS ?_)
 refine Jl [] (Ent.osNil (α := GToken)) ?_
 have hterm20 : r4_Scan_L0 text (text.b.length + 1) [] 1 1 false 0 ≠ LR.oof := (Scan_term _ _ _ _ _ _ _ aM1)
 refine Kl (γ := Nat × List GToken × Int × Int × Bool × Int × Option Addr × Nat) (fun (r4, out_5, line_6, col_7, open__8, i_9, a10, k11) => ⟨[(0, .string (bs text)), (6, vl a10 k11 out_5), (7, vi line_6), (8, vi col_7), (9, vb open__8), (10, vi i_9)], [O a10 k11 out_5], r4_Scan_L0 text r4 out_5 line_6 col_7 open__8 i_9 = r4_Scan_L0 text (text.b.length + 1) [] 1 1 false 0 ∧ (-9223372036854775808 ≤ line_6 ∧ line_6 ≤ 9223372036854775807) ∧ (-9223372036854775808 ≤ col_7 ∧ col_7 ≤ 9223372036854775807) ∧ (-9223372036854775808 ≤ i_9 ∧ i_9 ≤ 9223372036854775807) ∧ (0 ≤ i_9 ∧ i_9 ≤ (text.b.length : Int)) ∧ (0 ≤ line_6 ∧ line_6 ≤ i_9 + 1) ∧ (0 ≤ col_7 ∧ col_7 ≤ i_9 + 1) ∧ (out_5.length + r4 ≤ text.b.length + 1), r4⟩) ((text.b.length + 1), [], 1, 1, false, 0, none, 0) [0] ⟨rfl, aM1, aM1, aM1, iv0, iv0, iv0, iv0⟩ ?_
 rintro ⟨r4, out_5, line_6, col_7, open__8, i_9, a10, k11⟩ ⟨hM12, hk13, hk14, hk15, hv16, hv17, hv18, hv19⟩
 refine JJ_nx fun _ _ hL hA => ?_; dsimp only at hL hA; subst hL hA
 refine Fb 40 0 fun _ => ?_
 rcases r4 with _ | r4
 ·exact absurd (hM12.symm.trans rfl) hterm20
 refine KS ?_
 refine Oq Vm (Oq Vm (Oq (VlS un9 (l := text)) (Oq Vlss (KS ?_))))
 refine Kc ?_ ?_
 ·intro h22
  have g23 := dt h22
  refine KS ?_
  refine Oq Vm (Oq Vm (Oq (Vix un9 (l := text)) ?_))
  have hb24 := u8b (text.b.getD i_9.toNat 0)
  refine Oq Va (KS ?_)
  refine Oq Vm (Oq Veql (Oq Vm ?_))
  refine Js 28 ?_ ?_
  ·intro h25
   have g26 := eq_of_beq h25
   refine Osk (Osk (Oq Vpt (Oq Va (KS ?_))))
   refine Kt (KS ?_)
   refine Oq Vm (Oq Vadd (Oq Vm (Oq Vadd (Oq Va (Oq Va (KS ?_))))))
   exact Kg (r4, out_5, line_6, (col_7 + 1), open__8, (i_9 + 1), a10, k11) [0] ⟨(q3 hM12 (by simp only [r4_Scan_L0, h22, h25, cs4])), aM1, aM1, aM1, iv1, iv1, iv1, iv1⟩
  intro h25
  have g27 := ne_of_beq_false h25
  refine Oq Vm (Oq Veql (Oq Vpf (Oq Va (KS ?_))))
  refine Kc ?_ ?_
  ·intro h28
   have g29 := eq_of_beq h28
   refine KS ?_
   refine Oq Vm (Oq Vadd (Oq Vm (Oq Vadd (Oq Va (Oq Va (KS ?_))))))
   exact Kg (r4, out_5, line_6, (col_7 + 1), open__8, (i_9 + 1), a10, k11) [0] ⟨(q3 hM12 (by simp only [r4_Scan_L0, h22, h25, h28, cs4])), aM1, aM1, aM1, iv1, iv1, iv1, iv1⟩
  intro h28
  have g30 := ne_of_beq_false h28
  refine KS ?_
  refine Oq Vm (Oq Veql (Oq Vm ?_))
  refine Js 39 ?_ ?_
  ·intro h31
   have g32 := eq_of_beq h31
   refine Osk (Osk (Oq Vpt (Oq Vm (Osk (Osk (Oq Vpt (Oq Va (KS ?_))))))))
   refine Kt (KS ?_)
   refine Oq Vm (KS ?_)
   refine Kc ?_ ?_
   ·intro h33
    refine KS ?_
    refine Oq Vm (Oq Vm (Oq Vm (Oq (Vbd st105 [vi 3, .string (bs (Str.mk [])), vi line_6, vi col_7]) (Oa (AsV sl95 sz95 [.agg #[vi 3, .string (bs (Str.mk [])), vi line_6, vi col_7]] [vi 3, .string (bs (Str.mk [])), vi line_6, vi col_7]) fun c35 => ?_))))
    refine Jo 0 ?_; rintro a36 k37 rfl
    refine Jl [0] (Ent.cr1 (α := GToken) (A := []) _ (GToken.mk 3 (Str.mk []) line_6 col_7) _ aB1 (fun h => ⟨rfl, aL1, aS1, aL1, aL1⟩)) ?_
    refine Oa (ApO [1, 0] sl95 sl95 sz95) fun c38 => ?_
    refine Jo 0 ?_; rintro a39 k40 rfl
    refine Fb 40 0 fun _ => ?_
    have hn42 := la out_5 ([(GToken.mk 3 (Str.mk []) line_6 col_7)] : List GToken)
    refine Oq Va (KS ?_)
    refine Oq Va (KS ?_)
    have hterm51 : r4_Scan_L1 text ((text.b.getD i_9.toNat 0).toNat : Int) (text.b.length + 1) col_7 i_9 ≠ LR.oof := (Scan1_term _ _ _ _ _ aM1).1
    refine Kl (γ := Nat × Int × Int) (fun (r43, col_44, i_45) => ⟨[(0, .string (bs text)), (7, vi line_6), (8, vi col_44), (10, vi i_45), (11, .int .u8 ((text.b.getD i_9.toNat 0).toNat : Int)), (6, vl a39 k40 (out_5 ++ [(GToken.mk 3 (Str.mk []) line_6 col_7)])), (9, vb false)], [O a39 k40 ((out_5 ++ [(GToken.mk 3 (Str.mk []) line_6 col_7)]) : List GToken)], r4_Scan_L1 text ((text.b.getD i_9.toNat 0).toNat : Int) r43 col_44 i_45 = r4_Scan_L1 text ((text.b.getD i_9.toNat 0).toNat : Int) (text.b.length + 1) col_7 i_9 ∧ (-9223372036854775808 ≤ col_44 ∧ col_44 ≤ 9223372036854775807) ∧ (-9223372036854775808 ≤ i_45 ∧ i_45 ≤ 9223372036854775807) ∧ (i_9 ≤ i_45 ∧ i_45 ≤ (text.b.length : Int) ∧ col_7 ≤ col_44 ∧ col_44 ≤ col_7 + (i_45 - i_9)) ∧ (((text.b.getD i_9.toNat 0).toNat : Int) = 35 ∨ i_45 = i_9), r43⟩) ((text.b.length + 1), col_7, i_9) [0] ⟨rfl, aM1, aM1, iv0, iv0⟩ ?_
    rintro ⟨r43, col_44, i_45⟩ ⟨hM46, hk47, hk48, hv49, hv50⟩
    refine JJ_nx fun _ _ hL hA => ?_; dsimp only at hL hA; subst hL hA
    refine Fb 40 0 fun _ => ?_
    rcases r43 with _ | r43
    ·exact absurd (hM46.symm.trans rfl) hterm51
    refine KS ?_
    refine Oq Vm (Oq Veql (Oq Vm ?_))
    refine Js 56 ?_ ?_
    ·intro h53
     have g54 := eq_of_beq h53
     refine Oq Vm (Oq Vm (Oq (VlS un9 (l := text)) (Oq Vlss (Oq Vpt (Oq Vm ?_)))))
     refine Js 62 ?_ ?_
     ·intro h55
      have g56 := dt h55
      refine Oq Vm (Oq Vm (Oq (Vix un9 (l := text)) ?_))
      have hb57 := u8b (text.b.getD i_45.toNat 0)
      refine Oq Vneq (Oq Vpt (KS ?_))
      refine Kc ?_ ?_
      ·intro h58
       have g59 := ne_of_bne h58
       refine KS ?_
       refine Oq Vm (Oq Vadd (Oq Vm (Oq Vadd (Oq Va (Oq Va (KS ?_))))))
       exact Kg (r43, (col_44 + 1), (i_45 + 1)) [0] ⟨(q3 hM46 (by simp only [r4_Scan_L1, h53, h55, h58, cs4])), aM1, aM1, iv1, iv1⟩
      intro h58
      have g60 := eq_of_bne_false h58
      refine Ke ?_
      have hR61 := q2 hM46 (.brk (col_44, i_45)) (by simp only [r4_Scan_L1, h53, h55, h58, cs4])
      refine KS ?_
      refine Oq Vm (Oq Veql (KS ?_))
      refine Kc ?_ ?_
      ·intro h62
       have g63 := eq_of_beq h62
       refine KS ?_
       refine Oq Vm (Oq Vadd (Oq Vm (Oq Vadd (Oq Va (Oq Va (KS ?_))))))
       refine Oq Vm (Oq Vm (Oq (VlS un9 (l := text)) (Oq Vlss (Oq Vm ?_))))
       refine Js 82 ?_ ?_
       ·intro h64
        have g65 := dt h64
        refine Oq Vm (Oq Vm (Oq (Vix un9 (l := text)) ?_))
        have hb66 := u8b (text.b.getD ((i_45 + 1) : Int).toNat 0)
        refine Oq Veql (Oq Vpt (Oq Vm ?_))
        refine Js 88 ?_ ?_
        ·intro h67
         have g68 := eq_of_beq h67
         refine Oq Vm (Oq Vneq (Oq Vpt (KS ?_)))
         refine Kc ?_ ?_
         ·intro h69
          exact absurd h69 (by first | (simp [h62]; done) | (simp only [bne, h62]; decide) | (simp only [bne, h62, Bool.not_true, Bool.not_false]; decide) | (exfalso; omega) | (intro hq; simp only [bne, hq, Bool.not_false, Bool.not_true, reduceCtorEq] at h62))
         intro h69
         have g70 := eq_of_bne_false h69
         refine KS ?_
         exact Kg (r4, (out_5 ++ [(GToken.mk 3 (Str.mk []) line_6 col_7)]), line_6, (col_44 + 1), false, (i_45 + 1), a39, k40) [0] ⟨(q3 hM12 (by simp only [r4_Scan_L0, h22, h25, h28, h31, h33, h53, h55, h58, h62, h64, h67, h69, hR61, cs4])), aM1, aM1, aM1, iv1, iv1, iv1, iv1⟩
        intro h67
        have g71 := ne_of_beq_false h67
        refine Osk (Osk (Oq Vpf (KS ?_)))
        refine Kf (KS ?_)
        exact Kg (r4, (out_5 ++ [(GToken.mk 3 (Str.mk []) line_6 col_7)]), line_6, (col_44 + 1), false, (i_45 + 1), a39, k40) [0] ⟨(q3 hM12 (by simp only [r4_Scan_L0, h22, h25, h28, h31, h33, h53, h55, h58, h62, h64, h67, hR61, cs4])), aM1, aM1, aM1, iv1, iv1, iv1, iv1⟩
       intro h64
       have g72 := df h64
       refine Osk (Osk (Osk (Osk (Oq Vpf (Oq Vm (Osk (Osk (Oq Vpf (KS ?_)))))))))
       refine Kf (KS ?_)
       exact Kg (r4, (out_5 ++ [(GToken.mk 3 (Str.mk []) line_6 col_7)]), line_6, (col_44 + 1), false, (i_45 + 1), a39, k40) [0] ⟨(q3 hM12 (by simp only [r4_Scan_L0, h22, h25, h28, h31, h33, h53, h55, h58, h62, h64, hR61, cs4])), aM1, aM1, aM1, iv1, iv1, iv1, iv1⟩
      intro h62
      have g73 := ne_of_beq_false h62
      refine KS ?_
      refine Oq Vm (Oq Vm (Oq (VlS un9 (l := text)) (Oq Vlss (Oq Vm ?_))))
      refine Js 82 ?_ ?_
      ·intro h74
       have g75 := dt h74
       refine Oq Vm (Oq Vm (Oq (Vix un9 (l := text)) ?_))
       have hb76 := u8b (text.b.getD i_45.toNat 0)
       refine Oq Veql (Oq Vpt (Oq Vm ?_))
       refine Js 88 ?_ ?_
       ·intro h77
        have g78 := eq_of_beq h77
        refine Oq Vm (Oq Vneq (Oq Vpt (KS ?_)))
        refine Kc ?_ ?_
        ·intro h79
         have g80 := ne_of_bne h79
         refine KS ?_
         refine Oq Vm (Oq Vadd (Oq Vm (Oq Vadd (Oq Va (Oq Va (Oq Va (KS ?_)))))))
         exact Kg (r4, (out_5 ++ [(GToken.mk 3 (Str.mk []) line_6 col_7)]), (line_6 + 1), 1, false, (i_45 + 1), a39, k40) [0] ⟨(q3 hM12 (by simp only [r4_Scan_L0, h22, h25, h28, h31, h33, h53, h55, h58, h62, h74, h77, h79, hR61, cs4])), aM1, aM1, aM1, iv1, iv1, iv1, iv1⟩
        intro h79
        exact absurd h79 (by first | (simp [h62]; done) | (simp only [bne, h62]; decide) | (simp only [bne, h62, Bool.not_true, Bool.not_false]; decide) | (exfalso; omega) | (intro hq; simp only [bne, hq, Bool.not_false, Bool.not_true, reduceCtorEq] at h62))
       intro h77
       exact absurd h77 (by first | (simp [h58]; done) | (simp only [bne, h58]; decide) | (simp only [bne, h58, Bool.not_true, Bool.not_false]; decide) | (exfalso; omega) | (intro hq; simp only [bne, hq, Bool.not_false, Bool.not_true, reduceCtorEq] at h58))
      intro h74
      exact absurd h74 (by first | (simp [h55]; done) | (simp only [bne, h55]; decide) | (simp only [bne, h55, Bool.not_true, Bool.not_false]; decide) | (exfalso; omega) | (intro hq; simp only [bne, hq, Bool.not_false, Bool.not_true, reduceCtorEq] at h55))
     intro h55
     have g81 := df h55
     refine Osk (Osk (Osk (Osk (Oq Vpf (KS ?_)))))
     refine Kf ?_
     refine Ke ?_
     have hR82 := q2 hM46 (.brk (col_44, i_45)) (by simp only [r4_Scan_L1, h53, h55, cs4])
     refine KS ?_
     refine Oq Vm (Oq Veql (KS ?_))
     refine Kc ?_ ?_
     ·intro h83
      have g84 := eq_of_beq h83
      refine KS ?_
      refine Oq Vm (Oq Vadd (Oq Vm (Oq Vadd (Oq Va (Oq Va (KS ?_))))))
      refine Oq Vm (Oq Vm (Oq (VlS un9 (l := text)) (Oq Vlss (Oq Vm ?_))))
      refine Js 82 ?_ ?_
      ·intro h85
       have g86 := dt h85
       refine Oq Vm (Oq Vm (Oq (Vix un9 (l := text)) ?_))
       have hb87 := u8b (text.b.getD ((i_45 + 1) : Int).toNat 0)
       refine Oq Veql (Oq Vpt (Oq Vm ?_))
       refine Js 88 ?_ ?_
       ·intro h88
        have g89 := eq_of_beq h88
        refine Oq Vm (Oq Vneq (Oq Vpt (KS ?_)))
        refine Kc ?_ ?_
        ·intro h90
         exact absurd h90 (by first | (simp [h83]; done) | (simp only [bne, h83]; decide) | (simp only [bne, h83, Bool.not_true, Bool.not_false]; decide) | (exfalso; omega) | (intro hq; simp only [bne, hq, Bool.not_false, Bool.not_true, reduceCtorEq] at h83))
        intro h90
        have g91 := eq_of_bne_false h90
        refine KS ?_
        exact Kg (r4, (out_5 ++ [(GToken.mk 3 (Str.mk []) line_6 col_7)]), line_6, (col_44 + 1), false, (i_45 + 1), a39, k40) [0] ⟨(q3 hM12 (by simp only [r4_Scan_L0, h22, h25, h28, h31, h33, h53, h55, h83, h85, h88, h90, hR82, cs4])), aM1, aM1, aM1, iv1, iv1, iv1, iv1⟩
       intro h88
       have g92 := ne_of_beq_false h88
       refine Osk (Osk (Oq Vpf (KS ?_)))
       refine Kf (KS ?_)
       exact Kg (r4, (out_5 ++ [(GToken.mk 3 (Str.mk []) line_6 col_7)]), line_6, (col_44 + 1), false, (i_45 + 1), a39, k40) [0] ⟨(q3 hM12 (by simp only [r4_Scan_L0, h22, h25, h28, h31, h33, h53, h55, h83, h85, h88, hR82, cs4])), aM1, aM1, aM1, iv1, iv1, iv1, iv1⟩
      intro h85
      have g93 := df h85
      refine Osk (Osk (Osk (Osk (Oq Vpf (Oq Vm (Osk (Osk (Oq Vpf (KS ?_)))))))))
      refine Kf (KS ?_)
      exact Kg (r4, (out_5 ++ [(GToken.mk 3 (Str.mk []) line_6 col_7)]), line_6, (col_44 + 1), false, (i_45 + 1), a39, k40) [0] ⟨(q3 hM12 (by simp only [r4_Scan_L0, h22, h25, h28, h31, h33, h53, h55, h83, h85, hR82, cs4])), aM1, aM1, aM1, iv1, iv1, iv1, iv1⟩
     intro h83
     have g94 := ne_of_beq_false h83
     refine KS ?_
     refine Oq Vm (Oq Vm (Oq (VlS un9 (l := text)) (Oq Vlss (Oq Vm ?_))))
     refine Js 82 ?_ ?_
     ·intro h95
      exact absurd h95 (by first | (simp [h55]; done) | (simp only [bne, h55]; decide) | (simp only [bne, h55, Bool.not_true, Bool.not_false]; decide) | (exfalso; omega) | (intro hq; simp only [bne, hq, Bool.not_false, Bool.not_true, reduceCtorEq] at h55))
     intro h95
     have g96 := df h95
     refine Osk (Osk (Osk (Osk (Oq Vpf (Oq Vm (Osk (Osk (Oq Vpf (KS ?_)))))))))
     refine Kf (KS ?_)
     exact Kg (r4, (out_5 ++ [(GToken.mk 3 (Str.mk []) line_6 col_7)]), line_6, col_44, false, i_45, a39, k40) [0] ⟨(q3 hM12 (by simp only [r4_Scan_L0, h22, h25, h28, h31, h33, h53, h55, h83, h95, hR82, cs4])), aM1, aM1, aM1, iv1, iv1, iv1, iv1⟩
    intro h53
    have g97 := ne_of_beq_false h53
    refine Osk (Osk (Osk (Osk (Oq Vpf (Oq Vm (Osk (Osk (Osk (Osk ?_)))))))))
    refine Oq Vpf (KS ?_)
    refine Kf ?_
    refine Ke ?_
    have hR98 := q2 hM46 (.brk (col_44, i_45)) (by simp only [r4_Scan_L1, h53, cs4])
    refine KS ?_
    refine Oq Vm (Oq Veql (KS ?_))
    refine Kc ?_ ?_
    ·intro h99
     have g100 := eq_of_beq h99
     refine KS ?_
     refine Oq Vm (Oq Vadd (Oq Vm (Oq Vadd (Oq Va (Oq Va (KS ?_))))))
     refine Oq Vm (Oq Vm (Oq (VlS un9 (l := text)) (Oq Vlss (Oq Vm ?_))))
     refine Js 82 ?_ ?_
     ·intro h101
      have g102 := dt h101
      refine Oq Vm (Oq Vm (Oq (Vix un9 (l := text)) ?_))
      have hb103 := u8b (text.b.getD ((i_45 + 1) : Int).toNat 0)
      refine Oq Veql (Oq Vpt (Oq Vm ?_))
      refine Js 88 ?_ ?_
      ·intro h104
       have g105 := eq_of_beq h104
       refine Oq Vm (Oq Vneq (Oq Vpt (KS ?_)))
       refine Kc ?_ ?_
       ·intro h106
        exact absurd h106 (by first | (simp [h99]; done) | (simp only [bne, h99]; decide) | (simp only [bne, h99, Bool.not_true, Bool.not_false]; decide) | (exfalso; omega) | (intro hq; simp only [bne, hq, Bool.not_false, Bool.not_true, reduceCtorEq] at h99))
       intro h106
       have g107 := eq_of_bne_false h106
       refine KS ?_
       exact Kg (r4, (out_5 ++ [(GToken.mk 3 (Str.mk []) line_6 col_7)]), line_6, (col_44 + 1), false, (i_45 + 1), a39, k40) [0] ⟨(q3 hM12 (by simp only [r4_Scan_L0, h22, h25, h28, h31, h33, h53, h99, h101, h104, h106, hR98, cs4])), aM1, aM1, aM1, iv1, iv1, iv1, iv1⟩
      intro h104
      have g108 := ne_of_beq_false h104
      refine Osk (Osk (Oq Vpf (KS ?_)))
      refine Kf (KS ?_)
      exact Kg (r4, (out_5 ++ [(GToken.mk 3 (Str.mk []) line_6 col_7)]), line_6, (col_44 + 1), false, (i_45 + 1), a39, k40) [0] ⟨(q3 hM12 (by simp only [r4_Scan_L0, h22, h25, h28, h31, h33, h53, h99, h101, h104, hR98, cs4])), aM1, aM1, aM1, iv1, iv1, iv1, iv1⟩
     intro h101
     have g109 := df h101
     refine Osk (Osk (Osk (Osk (Oq Vpf (Oq Vm (Osk (Osk (Oq Vpf (KS ?_)))))))))
     refine Kf (KS ?_)
     exact Kg (r4, (out_5 ++ [(GToken.mk 3 (Str.mk []) line_6 col_7)]), line_6, (col_44 + 1), false, (i_45 + 1), a39, k40) [0] ⟨(q3 hM12 (by simp only [r4_Scan_L0, h22, h25, h28, h31, h33, h53, h99, h101, hR98, cs4])), aM1, aM1, aM1, iv1, iv1, iv1, iv1⟩
    intro h99
    have g110 := ne_of_beq_false h99
    refine KS ?_
    refine Oq Vm (Oq Vm (Oq (VlS un9 (l := text)) (Oq Vlss (Oq Vm ?_))))
    refine Js 82 ?_ ?_
    ·intro h111
     have g112 := dt h111
     refine Oq Vm (Oq Vm (Oq (Vix un9 (l := text)) ?_))
     have hb113 := u8b (text.b.getD i_45.toNat 0)
     refine Oq Veql (Oq Vpt (Oq Vm ?_))
     refine Js 88 ?_ ?_
     ·intro h114
      have g115 := eq_of_beq h114
      refine Oq Vm (Oq Vneq (Oq Vpt (KS ?_)))
      refine Kc ?_ ?_
      ·intro h116
       have g117 := ne_of_bne h116
       refine KS ?_
       refine Oq Vm (Oq Vadd (Oq Vm (Oq Vadd (Oq Va (Oq Va (Oq Va (KS ?_)))))))
       exact Kg (r4, (out_5 ++ [(GToken.mk 3 (Str.mk []) line_6 col_7)]), (line_6 + 1), 1, false, (i_45 + 1), a39, k40) [0] ⟨(q3 hM12 (by simp only [r4_Scan_L0, h22, h25, h28, h31, h33, h53, h99, h111, h114, h116, hR98, cs4])), aM1, aM1, aM1, iv1, iv1, iv1, iv1⟩
      intro h116
      exact absurd h116 (by first | (simp [h99]; done) | (simp only [bne, h99]; decide) | (simp only [bne, h99, Bool.not_true, Bool.not_false]; decide) | (exfalso; omega) | (intro hq; simp only [bne, hq, Bool.not_false, Bool.not_true, reduceCtorEq] at h99))
     intro h114
     have g118 := ne_of_beq_false h114
     refine Osk (Osk (Oq Vpf (KS ?_)))
     refine Kf (KS ?_)
     exact Kg (r4, (out_5 ++ [(GToken.mk 3 (Str.mk []) line_6 col_7)]), line_6, col_44, false, i_45, a39, k40) [0] ⟨(q3 hM12 (by simp only [r4_Scan_L0, h22, h25, h28, h31, h33, h53, h99, h111, h114, hR98, cs4])), aM1, aM1, aM1, iv1, iv1, iv1, iv1⟩
    intro h111
    have g119 := df h111
    refine Osk (Osk (Osk (Osk (Oq Vpf (Oq Vm (Osk (Osk (Oq Vpf (KS ?_)))))))))
    refine Kf (KS ?_)
    exact Kg (r4, (out_5 ++ [(GToken.mk 3 (Str.mk []) line_6 col_7)]), line_6, col_44, false, i_45, a39, k40) [0] ⟨(q3 hM12 (by simp only [r4_Scan_L0, h22, h25, h28, h31, h33, h53, h99, h111, hR98, cs4])), aM1, aM1, aM1, iv1, iv1, iv1, iv1⟩
   intro h33
   refine KS ?_
   refine Oq Va (KS ?_)
   have hterm129 : r4_Scan_L1 text ((text.b.getD i_9.toNat 0).toNat : Int) (text.b.length + 1) col_7 i_9 ≠ LR.oof := (Scan1_term _ _ _ _ _ aM1).1
   refine Kl (γ := Nat × Int × Int) (fun (r121, col_122, i_123) => ⟨[(0, .string (bs text)), (6, vl a10 k11 out_5), (7, vi line_6), (8, vi col_122), (10, vi i_123), (11, .int .u8 ((text.b.getD i_9.toNat 0).toNat : Int)), (9, vb false)], [O a10 k11 out_5], r4_Scan_L1 text ((text.b.getD i_9.toNat 0).toNat : Int) r121 col_122 i_123 = r4_Scan_L1 text ((text.b.getD i_9.toNat 0).toNat : Int) (text.b.length + 1) col_7 i_9 ∧ (-9223372036854775808 ≤ col_122 ∧ col_122 ≤ 9223372036854775807) ∧ (-9223372036854775808 ≤ i_123 ∧ i_123 ≤ 9223372036854775807) ∧ (i_9 ≤ i_123 ∧ i_123 ≤ (text.b.length : Int) ∧ col_7 ≤ col_122 ∧ col_122 ≤ col_7 + (i_123 - i_9)) ∧ (((text.b.getD i_9.toNat 0).toNat : Int) = 35 ∨ i_123 = i_9), r121⟩) ((text.b.length + 1), col_7, i_9) [0] ⟨rfl, aM1, aM1, iv0, iv0⟩ ?_
   rintro ⟨r121, col_122, i_123⟩ ⟨hM124, hk125, hk126, hv127, hv128⟩
   refine JJ_nx fun _ _ hL hA => ?_; dsimp only at hL hA; subst hL hA
   refine Fb 40 0 fun _ => ?_
   rcases r121 with _ | r121
   ·exact absurd (hM124.symm.trans rfl) hterm129
   refine KS ?_
   refine Oq Vm (Oq Veql (Oq Vm ?_))
   refine Js 56 ?_ ?_
   ·intro h131
    have g132 := eq_of_beq h131
    refine Oq Vm (Oq Vm (Oq (VlS un9 (l := text)) (Oq Vlss (Oq Vpt (Oq Vm ?_)))))
    refine Js 62 ?_ ?_
    ·intro h133
     have g134 := dt h133
     refine Oq Vm (Oq Vm (Oq (Vix un9 (l := text)) ?_))
     have hb135 := u8b (text.b.getD i_123.toNat 0)
     refine Oq Vneq (Oq Vpt (KS ?_))
     refine Kc ?_ ?_
     ·intro h136
      have g137 := ne_of_bne h136
      refine KS ?_
      refine Oq Vm (Oq Vadd (Oq Vm (Oq Vadd (Oq Va (Oq Va (KS ?_))))))
      exact Kg (r121, (col_122 + 1), (i_123 + 1)) [0] ⟨(q3 hM124 (by simp only [r4_Scan_L1, h131, h133, h136, cs4])), aM1, aM1, iv1, iv1⟩
     intro h136
     have g138 := eq_of_bne_false h136
     refine Ke ?_
     have hR139 := q2 hM124 (.brk (col_122, i_123)) (by simp only [r4_Scan_L1, h131, h133, h136, cs4])
     refine KS ?_
     refine Oq Vm (Oq Veql (KS ?_))
     refine Kc ?_ ?_
     ·intro h140
      have g141 := eq_of_beq h140
      refine KS ?_
      refine Oq Vm (Oq Vadd (Oq Vm (Oq Vadd (Oq Va (Oq Va (KS ?_))))))
      refine Oq Vm (Oq Vm (Oq (VlS un9 (l := text)) (Oq Vlss (Oq Vm ?_))))
      refine Js 82 ?_ ?_
      ·intro h142
       have g143 := dt h142
       refine Oq Vm (Oq Vm (Oq (Vix un9 (l := text)) ?_))
       have hb144 := u8b (text.b.getD ((i_123 + 1) : Int).toNat 0)
       refine Oq Veql (Oq Vpt (Oq Vm ?_))
       refine Js 88 ?_ ?_
       ·intro h145
        have g146 := eq_of_beq h145
        refine Oq Vm (Oq Vneq (Oq Vpt (KS ?_)))
        refine Kc ?_ ?_
        ·intro h147
         exact absurd h147 (by first | (simp [h140]; done) | (simp only [bne, h140]; decide) | (simp only [bne, h140, Bool.not_true, Bool.not_false]; decide) | (exfalso; omega) | (intro hq; simp only [bne, hq, Bool.not_false, Bool.not_true, reduceCtorEq] at h140))
        intro h147
        have g148 := eq_of_bne_false h147
        refine KS ?_
        exact Kg (r4, out_5, line_6, (col_122 + 1), false, (i_123 + 1), a10, k11) [0] ⟨(q3 hM12 (by simp only [r4_Scan_L0, h22, h25, h28, h31, h33, h131, h133, h136, h140, h142, h145, h147, hR139, cs4])), aM1, aM1, aM1, iv1, iv1, iv1, iv1⟩
       intro h145
       have g149 := ne_of_beq_false h145
       refine Osk (Osk (Oq Vpf (KS ?_)))
       refine Kf (KS ?_)
       exact Kg (r4, out_5, line_6, (col_122 + 1), false, (i_123 + 1), a10, k11) [0] ⟨(q3 hM12 (by simp only [r4_Scan_L0, h22, h25, h28, h31, h33, h131, h133, h136, h140, h142, h145, hR139, cs4])), aM1, aM1, aM1, iv1, iv1, iv1, iv1⟩
      intro h142
      have g150 := df h142
      refine Osk (Osk (Osk (Osk (Oq Vpf (Oq Vm (Osk (Osk (Oq Vpf (KS ?_)))))))))
      refine Kf (KS ?_)
      exact Kg (r4, out_5, line_6, (col_122 + 1), false, (i_123 + 1), a10, k11) [0] ⟨(q3 hM12 (by simp only [r4_Scan_L0, h22, h25, h28, h31, h33, h131, h133, h136, h140, h142, hR139, cs4])), aM1, aM1, aM1, iv1, iv1, iv1, iv1⟩
     intro h140
     have g151 := ne_of_beq_false h140
     refine KS ?_
     refine Oq Vm (Oq Vm (Oq (VlS un9 (l := text)) (Oq Vlss (Oq Vm ?_))))
     refine Js 82 ?_ ?_
     ·intro h152
      have g153 := dt h152
      refine Oq Vm (Oq Vm (Oq (Vix un9 (l := text)) ?_))
      have hb154 := u8b (text.b.getD i_123.toNat 0)
      refine Oq Veql (Oq Vpt (Oq Vm ?_))
      refine Js 88 ?_ ?_
      ·intro h155
       have g156 := eq_of_beq h155
       refine Oq Vm (Oq Vneq (Oq Vpt (KS ?_)))
       refine Kc ?_ ?_
       ·intro h157
        have g158 := ne_of_bne h157
        refine KS ?_
        refine Oq Vm (Oq Vadd (Oq Vm (Oq Vadd (Oq Va (Oq Va (Oq Va (KS ?_)))))))
        exact Kg (r4, out_5, (line_6 + 1), 1, false, (i_123 + 1), a10, k11) [0] ⟨(q3 hM12 (by simp only [r4_Scan_L0, h22, h25, h28, h31, h33, h131, h133, h136, h140, h152, h155, h157, hR139, cs4])), aM1, aM1, aM1, iv1, iv1, iv1, iv1⟩
       intro h157
       exact absurd h157 (by first | (simp [h140]; done) | (simp only [bne, h140]; decide) | (simp only [bne, h140, Bool.not_true, Bool.not_false]; decide) | (exfalso; omega) | (intro hq; simp only [bne, hq, Bool.not_false, Bool.not_true, reduceCtorEq] at h140))
      intro h155
      exact absurd h155 (by first | (simp [h136]; done) | (simp only [bne, h136]; decide) | (simp only [bne, h136, Bool.not_true, Bool.not_false]; decide) | (exfalso; omega) | (intro hq; simp only [bne, hq, Bool.not_false, Bool.not_true, reduceCtorEq] at h136))
     intro h152
     exact absurd h152 (by first | (simp [h133]; done) | (simp only [bne, h133]; decide) | (simp only [bne, h133, Bool.not_true, Bool.not_false]; decide) | (exfalso; omega) | (intro hq; simp only [bne, hq, Bool.not_false, Bool.not_true, reduceCtorEq] at h133))
    intro h133
    have g159 := df h133
    refine Osk (Osk (Osk (Osk (Oq Vpf (KS ?_)))))
    refine Kf ?_
    refine Ke ?_
    have hR160 := q2 hM124 (.brk (col_122, i_123)) (by simp only [r4_Scan_L1, h131, h133, cs4])
    refine KS ?_
    refine Oq Vm (Oq Veql (KS ?_))
    refine Kc ?_ ?_
    ·intro h161
     have g162 := eq_of_beq h161
     refine KS ?_
     refine Oq Vm (Oq Vadd (Oq Vm (Oq Vadd (Oq Va (Oq Va (KS ?_))))))
     refine Oq Vm (Oq Vm (Oq (VlS un9 (l := text)) (Oq Vlss (Oq Vm ?_))))
     refine Js 82 ?_ ?_
     ·intro h163
      have g164 := dt h163
      refine Oq Vm (Oq Vm (Oq (Vix un9 (l := text)) ?_))
      have hb165 := u8b (text.b.getD ((i_123 + 1) : Int).toNat 0)
      refine Oq Veql (Oq Vpt (Oq Vm ?_))
      refine Js 88 ?_ ?_
      ·intro h166
       have g167 := eq_of_beq h166
       refine Oq Vm (Oq Vneq (Oq Vpt (KS ?_)))
       refine Kc ?_ ?_
       ·intro h168
        exact absurd h168 (by first | (simp [h161]; done) | (simp only [bne, h161]; decide) | (simp only [bne, h161, Bool.not_true, Bool.not_false]; decide) | (exfalso; omega) | (intro hq; simp only [bne, hq, Bool.not_false, Bool.not_true, reduceCtorEq] at h161))
       intro h168
       have g169 := eq_of_bne_false h168
       refine KS ?_
       exact Kg (r4, out_5, line_6, (col_122 + 1), false, (i_123 + 1), a10, k11) [0] ⟨(q3 hM12 (by simp only [r4_Scan_L0, h22, h25, h28, h31, h33, h131, h133, h161, h163, h166, h168, hR160, cs4])), aM1, aM1, aM1, iv1, iv1, iv1, iv1⟩
      intro h166
      have g170 := ne_of_beq_false h166
      refine Osk (Osk (Oq Vpf (KS ?_)))
      refine Kf (KS ?_)
      exact Kg (r4, out_5, line_6, (col_122 + 1), false, (i_123 + 1), a10, k11) [0] ⟨(q3 hM12 (by simp only [r4_Scan_L0, h22, h25, h28, h31, h33, h131, h133, h161, h163, h166, hR160, cs4])), aM1, aM1, aM1, iv1, iv1, iv1, iv1⟩
     intro h163
     have g171 := df h163
     refine Osk (Osk (Osk (Osk (Oq Vpf (Oq Vm (Osk (Osk (Oq Vpf (KS ?_)))))))))
     refine Kf (KS ?_)
     exact Kg (r4, out_5, line_6, (col_122 + 1), false, (i_123 + 1), a10, k11) [0] ⟨(q3 hM12 (by simp only [r4_Scan_L0, h22, h25, h28, h31, h33, h131, h133, h161, h163, hR160, cs4])), aM1, aM1, aM1, iv1, iv1, iv1, iv1⟩
    intro h161
    have g172 := ne_of_beq_false h161
    refine KS ?_
    refine Oq Vm (Oq Vm (Oq (VlS un9 (l := text)) (Oq Vlss (Oq Vm ?_))))
    refine Js 82 ?_ ?_
    ·intro h173
     exact absurd h173 (by first | (simp [h133]; done) | (simp only [bne, h133]; decide) | (simp only [bne, h133, Bool.not_true, Bool.not_false]; decide) | (exfalso; omega) | (intro hq; simp only [bne, hq, Bool.not_false, Bool.not_true, reduceCtorEq] at h133))
    intro h173
    have g174 := df h173
    refine Osk (Osk (Osk (Osk (Oq Vpf (Oq Vm (Osk (Osk (Oq Vpf (KS ?_)))))))))
    refine Kf (KS ?_)
    exact Kg (r4, out_5, line_6, col_122, false, i_123, a10, k11) [0] ⟨(q3 hM12 (by simp only [r4_Scan_L0, h22, h25, h28, h31, h33, h131, h133, h161, h173, hR160, cs4])), aM1, aM1, aM1, iv1, iv1, iv1, iv1⟩
   intro h131
   have g175 := ne_of_beq_false h131
   refine Osk (Osk (Osk (Osk (Oq Vpf (Oq Vm (Osk (Osk (Osk (Osk ?_)))))))))
   refine Oq Vpf (KS ?_)
   refine Kf ?_
   refine Ke ?_
   have hR176 := q2 hM124 (.brk (col_122, i_123)) (by simp only [r4_Scan_L1, h131, cs4])
   refine KS ?_
   refine Oq Vm (Oq Veql (KS ?_))
   refine Kc ?_ ?_
   ·intro h177
    have g178 := eq_of_beq h177
    refine KS ?_
    refine Oq Vm (Oq Vadd (Oq Vm (Oq Vadd (Oq Va (Oq Va (KS ?_))))))
    refine Oq Vm (Oq Vm (Oq (VlS un9 (l := text)) (Oq Vlss (Oq Vm ?_))))
    refine Js 82 ?_ ?_
    ·intro h179
     have g180 := dt h179
     refine Oq Vm (Oq Vm (Oq (Vix un9 (l := text)) ?_))
     have hb181 := u8b (text.b.getD ((i_123 + 1) : Int).toNat 0)
     refine Oq Veql (Oq Vpt (Oq Vm ?_))
     refine Js 88 ?_ ?_
     ·intro h182
      have g183 := eq_of_beq h182
      refine Oq Vm (Oq Vneq (Oq Vpt (KS ?_)))
      refine Kc ?_ ?_
      ·intro h184
       exact absurd h184 (by first | (simp [h177]; done) | (simp only [bne, h177]; decide) | (simp only [bne, h177, Bool.not_true, Bool.not_false]; decide) | (exfalso; omega) | (intro hq; simp only [bne, hq, Bool.not_false, Bool.not_true, reduceCtorEq] at h177))
      intro h184
      have g185 := eq_of_bne_false h184
      refine KS ?_
      exact Kg (r4, out_5, line_6, (col_122 + 1), false, (i_123 + 1), a10, k11) [0] ⟨(q3 hM12 (by simp only [r4_Scan_L0, h22, h25, h28, h31, h33, h131, h177, h179, h182, h184, hR176, cs4])), aM1, aM1, aM1, iv1, iv1, iv1, iv1⟩
     intro h182
     have g186 := ne_of_beq_false h182
     refine Osk (Osk (Oq Vpf (KS ?_)))
     refine Kf (KS ?_)
     exact Kg (r4, out_5, line_6, (col_122 + 1), false, (i_123 + 1), a10, k11) [0] ⟨(q3 hM12 (by simp only [r4_Scan_L0, h22, h25, h28, h31, h33, h131, h177, h179, h182, hR176, cs4])), aM1, aM1, aM1, iv1, iv1, iv1, iv1⟩
    intro h179
    have g187 := df h179
    refine Osk (Osk (Osk (Osk (Oq Vpf (Oq Vm (Osk (Osk (Oq Vpf (KS ?_)))))))))
    refine Kf (KS ?_)
    exact Kg (r4, out_5, line_6, (col_122 + 1), false, (i_123 + 1), a10, k11) [0] ⟨(q3 hM12 (by simp only [r4_Scan_L0, h22, h25, h28, h31, h33, h131, h177, h179, hR176, cs4])), aM1, aM1, aM1, iv1, iv1, iv1, iv1⟩
   intro h177
   have g188 := ne_of_beq_false h177
   refine KS ?_
   refine Oq Vm (Oq Vm (Oq (VlS un9 (l := text)) (Oq Vlss (Oq Vm ?_))))
   refine Js 82 ?_ ?_
   ·intro h189
    have g190 := dt h189
    refine Oq Vm (Oq Vm (Oq (Vix un9 (l := text)) ?_))
    have hb191 := u8b (text.b.getD i_123.toNat 0)
    refine Oq Veql (Oq Vpt (Oq Vm ?_))
    refine Js 88 ?_ ?_
    ·intro h192
     have g193 := eq_of_beq h192
     refine Oq Vm (Oq Vneq (Oq Vpt (KS ?_)))
     refine Kc ?_ ?_
     ·intro h194
      have g195 := ne_of_bne h194
      refine KS ?_
      refine Oq Vm (Oq Vadd (Oq Vm (Oq Vadd (Oq Va (Oq Va (Oq Va (KS ?_)))))))
      exact Kg (r4, out_5, (line_6 + 1), 1, false, (i_123 + 1), a10, k11) [0] ⟨(q3 hM12 (by simp only [r4_Scan_L0, h22, h25, h28, h31, h33, h131, h177, h189, h192, h194, hR176, cs4])), aM1, aM1, aM1, iv1, iv1, iv1, iv1⟩
     intro h194
     exact absurd h194 (by first | (simp [h177]; done) | (simp only [bne, h177]; decide) | (simp only [bne, h177, Bool.not_true, Bool.not_false]; decide) | (exfalso; omega) | (intro hq; simp only [bne, hq, Bool.not_false, Bool.not_true, reduceCtorEq] at h177))
    intro h192
    have g196 := ne_of_beq_false h192
    refine Osk (Osk (Oq Vpf (KS ?_)))
    refine Kf (KS ?_)
    exact Kg (r4, out_5, line_6, col_122, false, i_123, a10, k11) [0] ⟨(q3 hM12 (by simp only [r4_Scan_L0, h22, h25, h28, h31, h33, h131, h177, h189, h192, hR176, cs4])), aM1, aM1, aM1, iv1, iv1, iv1, iv1⟩
   intro h189
   have g197 := df h189
   refine Osk (Osk (Osk (Osk (Oq Vpf (Oq Vm (Osk (Osk (Oq Vpf (KS ?_)))))))))
   refine Kf (KS ?_)
   exact Kg (r4, out_5, line_6, col_122, false, i_123, a10, k11) [0] ⟨(q3 hM12 (by simp only [r4_Scan_L0, h22, h25, h28, h31, h33, h131, h177, h189, hR176, cs4])), aM1, aM1, aM1, iv1, iv1, iv1, iv1⟩
  intro h31
  have g198 := ne_of_beq_false h31
  refine Oq Vm (Oq Veql (Oq Vpf (Oq Vm ?_)))
  refine Js 43 ?_ ?_
  ·intro h199
   have g200 := eq_of_beq h199
   refine Osk (Osk (Oq Vpt (Oq Va (KS ?_))))
   refine Kt (KS ?_)
   refine Oq Vm (KS ?_)
   refine Kc ?_ ?_
   ·intro h201
    refine KS ?_
    refine Oq Vm (Oq Vm (Oq Vm (Oq (Vbd st105 [vi 3, .string (bs (Str.mk [])), vi line_6, vi col_7]) (Oa (AsV sl95 sz95 [.agg #[vi 3, .string (bs (Str.mk [])), vi line_6, vi col_7]] [vi 3, .string (bs (Str.mk [])), vi line_6, vi col_7]) fun c203 => ?_))))
    refine Jo 0 ?_; rintro a204 k205 rfl
    refine Jl [0] (Ent.cr1 (α := GToken) (A := []) _ (GToken.mk 3 (Str.mk []) line_6 col_7) _ aB1 (fun h => ⟨rfl, aL1, aS1, aL1, aL1⟩)) ?_
    refine Oa (ApO [1, 0] sl95 sl95 sz95) fun c206 => ?_
    refine Jo 0 ?_; rintro a207 k208 rfl
    refine Fb 40 0 fun _ => ?_
    have hn210 := la out_5 ([(GToken.mk 3 (Str.mk []) line_6 col_7)] : List GToken)
    refine Oq Va (KS ?_)
    refine Oq Va (KS ?_)
    have hterm219 : r4_Scan_L1 text ((text.b.getD i_9.toNat 0).toNat : Int) (text.b.length + 1) col_7 i_9 ≠ LR.oof := (Scan1_term _ _ _ _ _ aM1).1
    refine Kl (γ := Nat × Int × Int) (fun (r211, col_212, i_213) => ⟨[(0, .string (bs text)), (7, vi line_6), (8, vi col_212), (10, vi i_213), (11, .int .u8 ((text.b.getD i_9.toNat 0).toNat : Int)), (6, vl a207 k208 (out_5 ++ [(GToken.mk 3 (Str.mk []) line_6 col_7)])), (9, vb false)], [O a207 k208 ((out_5 ++ [(GToken.mk 3 (Str.mk []) line_6 col_7)]) : List GToken)], r4_Scan_L1 text ((text.b.getD i_9.toNat 0).toNat : Int) r211 col_212 i_213 = r4_Scan_L1 text ((text.b.getD i_9.toNat 0).toNat : Int) (text.b.length + 1) col_7 i_9 ∧ (-9223372036854775808 ≤ col_212 ∧ col_212 ≤ 9223372036854775807) ∧ (-9223372036854775808 ≤ i_213 ∧ i_213 ≤ 9223372036854775807) ∧ (i_9 ≤ i_213 ∧ i_213 ≤ (text.b.length : Int) ∧ col_7 ≤ col_212 ∧ col_212 ≤ col_7 + (i_213 - i_9)) ∧ (((text.b.getD i_9.toNat 0).toNat : Int) = 35 ∨ i_213 = i_9), r211⟩) ((text.b.length + 1), col_7, i_9) [0] ⟨rfl, aM1, aM1, iv0, iv0⟩ ?_
    rintro ⟨r211, col_212, i_213⟩ ⟨hM214, hk215, hk216, hv217, hv218⟩
    refine JJ_nx fun _ _ hL hA => ?_; dsimp only at hL hA; subst hL hA
    refine Fb 40 0 fun _ => ?_
    rcases r211 with _ | r211
    ·exact absurd (hM214.symm.trans rfl) hterm219
    refine KS ?_
    refine Oq Vm (Oq Veql (Oq Vm ?_))
    refine Js 56 ?_ ?_
    ·intro h221
     have g222 := eq_of_beq h221
     refine Oq Vm (Oq Vm (Oq (VlS un9 (l := text)) (Oq Vlss (Oq Vpt (Oq Vm ?_)))))
     refine Js 62 ?_ ?_
     ·intro h223
      have g224 := dt h223
      refine Oq Vm (Oq Vm (Oq (Vix un9 (l := text)) ?_))
      have hb225 := u8b (text.b.getD i_213.toNat 0)
      refine Oq Vneq (Oq Vpt (KS ?_))
      refine Kc ?_ ?_
      ·intro h226
       have g227 := ne_of_bne h226
       refine KS ?_
       refine Oq Vm (Oq Vadd (Oq Vm (Oq Vadd (Oq Va (Oq Va (KS ?_))))))
       exact Kg (r211, (col_212 + 1), (i_213 + 1)) [0] ⟨(q3 hM214 (by simp only [r4_Scan_L1, h221, h223, h226, cs4])), aM1, aM1, iv1, iv1⟩
      intro h226
      have g228 := eq_of_bne_false h226
      refine Ke ?_
      have hR229 := q2 hM214 (.brk (col_212, i_213)) (by simp only [r4_Scan_L1, h221, h223, h226, cs4])
      refine KS ?_
      refine Oq Vm (Oq Veql (KS ?_))
      refine Kc ?_ ?_
      ·intro h230
       have g231 := eq_of_beq h230
       refine KS ?_
       refine Oq Vm (Oq Vadd (Oq Vm (Oq Vadd (Oq Va (Oq Va (KS ?_))))))
       refine Oq Vm (Oq Vm (Oq (VlS un9 (l := text)) (Oq Vlss (Oq Vm ?_))))
       refine Js 82 ?_ ?_
       ·intro h232
        have g233 := dt h232
        refine Oq Vm (Oq Vm (Oq (Vix un9 (l := text)) ?_))
        have hb234 := u8b (text.b.getD ((i_213 + 1) : Int).toNat 0)
        refine Oq Veql (Oq Vpt (Oq Vm ?_))
        refine Js 88 ?_ ?_
        ·intro h235
         have g236 := eq_of_beq h235
         refine Oq Vm (Oq Vneq (Oq Vpt (KS ?_)))
         refine Kc ?_ ?_
         ·intro h237
          exact absurd h237 (by first | (simp [h230]; done) | (simp only [bne, h230]; decide) | (simp only [bne, h230, Bool.not_true, Bool.not_false]; decide) | (exfalso; omega) | (intro hq; simp only [bne, hq, Bool.not_false, Bool.not_true, reduceCtorEq] at h230))
         intro h237
         have g238 := eq_of_bne_false h237
         refine KS ?_
         exact Kg (r4, (out_5 ++ [(GToken.mk 3 (Str.mk []) line_6 col_7)]), line_6, (col_212 + 1), false, (i_213 + 1), a207, k208) [0] ⟨(q3 hM12 (by simp only [r4_Scan_L0, h22, h25, h28, h31, h199, h201, h221, h223, h226, h230, h232, h235, h237, hR229, cs4])), aM1, aM1, aM1, iv1, iv1, iv1, iv1⟩
        intro h235
        have g239 := ne_of_beq_false h235
        refine Osk (Osk (Oq Vpf (KS ?_)))
        refine Kf (KS ?_)
        exact Kg (r4, (out_5 ++ [(GToken.mk 3 (Str.mk []) line_6 col_7)]), line_6, (col_212 + 1), false, (i_213 + 1), a207, k208) [0] ⟨(q3 hM12 (by simp only [r4_Scan_L0, h22, h25, h28, h31, h199, h201, h221, h223, h226, h230, h232, h235, hR229, cs4])), aM1, aM1, aM1, iv1, iv1, iv1, iv1⟩
       intro h232
       have g240 := df h232
       refine Osk (Osk (Osk (Osk (Oq Vpf (Oq Vm (Osk (Osk (Oq Vpf (KS ?_)))))))))
       refine Kf (KS ?_)
       exact Kg (r4, (out_5 ++ [(GToken.mk 3 (Str.mk []) line_6 col_7)]), line_6, (col_212 + 1), false, (i_213 + 1), a207, k208) [0] ⟨(q3 hM12 (by simp only [r4_Scan_L0, h22, h25, h28, h31, h199, h201, h221, h223, h226, h230, h232, hR229, cs4])), aM1, aM1, aM1, iv1, iv1, iv1, iv1⟩
      intro h230
      exact absurd h230 (by first | (simp [h199]; done) | (simp only [bne, h199]; decide) | (simp only [bne, h199, Bool.not_true, Bool.not_false]; decide) | (exfalso; omega) | (intro hq; simp only [bne, hq, Bool.not_false, Bool.not_true, reduceCtorEq] at h199))
     intro h223
     have g241 := df h223
     refine Osk (Osk (Osk (Osk (Oq Vpf (KS ?_)))))
     refine Kf ?_
     refine Ke ?_
     have hR242 := q2 hM214 (.brk (col_212, i_213)) (by simp only [r4_Scan_L1, h221, h223, cs4])
     refine KS ?_
     refine Oq Vm (Oq Veql (KS ?_))
     refine Kc ?_ ?_
     ·intro h243
      have g244 := eq_of_beq h243
      refine KS ?_
      refine Oq Vm (Oq Vadd (Oq Vm (Oq Vadd (Oq Va (Oq Va (KS ?_))))))
      refine Oq Vm (Oq Vm (Oq (VlS un9 (l := text)) (Oq Vlss (Oq Vm ?_))))
      refine Js 82 ?_ ?_
      ·intro h245
       have g246 := dt h245
       refine Oq Vm (Oq Vm (Oq (Vix un9 (l := text)) ?_))
       have hb247 := u8b (text.b.getD ((i_213 + 1) : Int).toNat 0)
       refine Oq Veql (Oq Vpt (Oq Vm ?_))
       refine Js 88 ?_ ?_
       ·intro h248
        have g249 := eq_of_beq h248
        refine Oq Vm (Oq Vneq (Oq Vpt (KS ?_)))
        refine Kc ?_ ?_
        ·intro h250
         exact absurd h250 (by first | (simp [h243]; done) | (simp only [bne, h243]; decide) | (simp only [bne, h243, Bool.not_true, Bool.not_false]; decide) | (exfalso; omega) | (intro hq; simp only [bne, hq, Bool.not_false, Bool.not_true, reduceCtorEq] at h243))
        intro h250
        have g251 := eq_of_bne_false h250
        refine KS ?_
        exact Kg (r4, (out_5 ++ [(GToken.mk 3 (Str.mk []) line_6 col_7)]), line_6, (col_212 + 1), false, (i_213 + 1), a207, k208) [0] ⟨(q3 hM12 (by simp only [r4_Scan_L0, h22, h25, h28, h31, h199, h201, h221, h223, h243, h245, h248, h250, hR242, cs4])), aM1, aM1, aM1, iv1, iv1, iv1, iv1⟩
       intro h248
       have g252 := ne_of_beq_false h248
       refine Osk (Osk (Oq Vpf (KS ?_)))
       refine Kf (KS ?_)
       exact Kg (r4, (out_5 ++ [(GToken.mk 3 (Str.mk []) line_6 col_7)]), line_6, (col_212 + 1), false, (i_213 + 1), a207, k208) [0] ⟨(q3 hM12 (by simp only [r4_Scan_L0, h22, h25, h28, h31, h199, h201, h221, h223, h243, h245, h248, hR242, cs4])), aM1, aM1, aM1, iv1, iv1, iv1, iv1⟩
      intro h245
      have g253 := df h245
      refine Osk (Osk (Osk (Osk (Oq Vpf (Oq Vm (Osk (Osk (Oq Vpf (KS ?_)))))))))
      refine Kf (KS ?_)
      exact Kg (r4, (out_5 ++ [(GToken.mk 3 (Str.mk []) line_6 col_7)]), line_6, (col_212 + 1), false, (i_213 + 1), a207, k208) [0] ⟨(q3 hM12 (by simp only [r4_Scan_L0, h22, h25, h28, h31, h199, h201, h221, h223, h243, h245, hR242, cs4])), aM1, aM1, aM1, iv1, iv1, iv1, iv1⟩
     intro h243
     exact absurd h243 (by first | (simp [h199]; done) | (simp only [bne, h199]; decide) | (simp only [bne, h199, Bool.not_true, Bool.not_false]; decide) | (exfalso; omega) | (intro hq; simp only [bne, hq, Bool.not_false, Bool.not_true, reduceCtorEq] at h199))
    intro h221
    have g254 := ne_of_beq_false h221
    refine Osk (Osk (Osk (Osk (Oq Vpf (Oq Vm (Osk (Osk (Osk (Osk ?_)))))))))
    refine Oq Vpf (KS ?_)
    refine Kf ?_
    refine Ke ?_
    have hR255 := q2 hM214 (.brk (col_212, i_213)) (by simp only [r4_Scan_L1, h221, cs4])
    refine KS ?_
    refine Oq Vm (Oq Veql (KS ?_))
    refine Kc ?_ ?_
    ·intro h256
     have g257 := eq_of_beq h256
     refine KS ?_
     refine Oq Vm (Oq Vadd (Oq Vm (Oq Vadd (Oq Va (Oq Va (KS ?_))))))
     refine Oq Vm (Oq Vm (Oq (VlS un9 (l := text)) (Oq Vlss (Oq Vm ?_))))
     refine Js 82 ?_ ?_
     ·intro h258
      have g259 := dt h258
      refine Oq Vm (Oq Vm (Oq (Vix un9 (l := text)) ?_))
      have hb260 := u8b (text.b.getD ((i_213 + 1) : Int).toNat 0)
      refine Oq Veql (Oq Vpt (Oq Vm ?_))
      refine Js 88 ?_ ?_
      ·intro h261
       have g262 := eq_of_beq h261
       refine Oq Vm (Oq Vneq (Oq Vpt (KS ?_)))
       refine Kc ?_ ?_
       ·intro h263
        exact absurd h263 (by first | (simp [h256]; done) | (simp only [bne, h256]; decide) | (simp only [bne, h256, Bool.not_true, Bool.not_false]; decide) | (exfalso; omega) | (intro hq; simp only [bne, hq, Bool.not_false, Bool.not_true, reduceCtorEq] at h256))
       intro h263
       have g264 := eq_of_bne_false h263
       refine KS ?_
       exact Kg (r4, (out_5 ++ [(GToken.mk 3 (Str.mk []) line_6 col_7)]), line_6, (col_212 + 1), false, (i_213 + 1), a207, k208) [0] ⟨(q3 hM12 (by simp only [r4_Scan_L0, h22, h25, h28, h31, h199, h201, h221, h256, h258, h261, h263, hR255, cs4])), aM1, aM1, aM1, iv1, iv1, iv1, iv1⟩
      intro h261
      have g265 := ne_of_beq_false h261
      refine Osk (Osk (Oq Vpf (KS ?_)))
      refine Kf (KS ?_)
      exact Kg (r4, (out_5 ++ [(GToken.mk 3 (Str.mk []) line_6 col_7)]), line_6, (col_212 + 1), false, (i_213 + 1), a207, k208) [0] ⟨(q3 hM12 (by simp only [r4_Scan_L0, h22, h25, h28, h31, h199, h201, h221, h256, h258, h261, hR255, cs4])), aM1, aM1, aM1, iv1, iv1, iv1, iv1⟩
     intro h258
     have g266 := df h258
     refine Osk (Osk (Osk (Osk (Oq Vpf (Oq Vm (Osk (Osk (Oq Vpf (KS ?_)))))))))
     refine Kf (KS ?_)
     exact Kg (r4, (out_5 ++ [(GToken.mk 3 (Str.mk []) line_6 col_7)]), line_6, (col_212 + 1), false, (i_213 + 1), a207, k208) [0] ⟨(q3 hM12 (by simp only [r4_Scan_L0, h22, h25, h28, h31, h199, h201, h221, h256, h258, hR255, cs4])), aM1, aM1, aM1, iv1, iv1, iv1, iv1⟩
    intro h256
    exact absurd h256 (by first | (simp [h199]; done) | (simp only [bne, h199]; decide) | (simp only [bne, h199, Bool.not_true, Bool.not_false]; decide) | (exfalso; omega) | (intro hq; simp only [bne, hq, Bool.not_false, Bool.not_true, reduceCtorEq] at h199))
   intro h201
   refine KS ?_
   refine Oq Va (KS ?_)
   have hterm276 : r4_Scan_L1 text ((text.b.getD i_9.toNat 0).toNat : Int) (text.b.length + 1) col_7 i_9 ≠ LR.oof := (Scan1_term _ _ _ _ _ aM1).1
   refine Kl (γ := Nat × Int × Int) (fun (r268, col_269, i_270) => ⟨[(0, .string (bs text)), (6, vl a10 k11 out_5), (7, vi line_6), (8, vi col_269), (10, vi i_270), (11, .int .u8 ((text.b.getD i_9.toNat 0).toNat : Int)), (9, vb false)], [O a10 k11 out_5], r4_Scan_L1 text ((text.b.getD i_9.toNat 0).toNat : Int) r268 col_269 i_270 = r4_Scan_L1 text ((text.b.getD i_9.toNat 0).toNat : Int) (text.b.length + 1) col_7 i_9 ∧ (-9223372036854775808 ≤ col_269 ∧ col_269 ≤ 9223372036854775807) ∧ (-9223372036854775808 ≤ i_270 ∧ i_270 ≤ 9223372036854775807) ∧ (i_9 ≤ i_270 ∧ i_270 ≤ (text.b.length : Int) ∧ col_7 ≤ col_269 ∧ col_269 ≤ col_7 + (i_270 - i_9)) ∧ (((text.b.getD i_9.toNat 0).toNat : Int) = 35 ∨ i_270 = i_9), r268⟩) ((text.b.length + 1), col_7, i_9) [0] ⟨rfl, aM1, aM1, iv0, iv0⟩ ?_
   rintro ⟨r268, col_269, i_270⟩ ⟨hM271, hk272, hk273, hv274, hv275⟩
   refine JJ_nx fun _ _ hL hA => ?_; dsimp only at hL hA; subst hL hA
   refine Fb 40 0 fun _ => ?_
   rcases r268 with _ | r268
   ·exact absurd (hM271.symm.trans rfl) hterm276
   refine KS ?_
   refine Oq Vm (Oq Veql (Oq Vm ?_))
   refine Js 56 ?_ ?_
   ·intro h278
    have g279 := eq_of_beq h278
    refine Oq Vm (Oq Vm (Oq (VlS un9 (l := text)) (Oq Vlss (Oq Vpt (Oq Vm ?_)))))
    refine Js 62 ?_ ?_
    ·intro h280
     have g281 := dt h280
     refine Oq Vm (Oq Vm (Oq (Vix un9 (l := text)) ?_))
     have hb282 := u8b (text.b.getD i_270.toNat 0)
     refine Oq Vneq (Oq Vpt (KS ?_))
     refine Kc ?_ ?_
     ·intro h283
      have g284 := ne_of_bne h283
      refine KS ?_
      refine Oq Vm (Oq Vadd (Oq Vm (Oq Vadd (Oq Va (Oq Va (KS ?_))))))
      exact Kg (r268, (col_269 + 1), (i_270 + 1)) [0] ⟨(q3 hM271 (by simp only [r4_Scan_L1, h278, h280, h283, cs4])), aM1, aM1, iv1, iv1⟩
     intro h283
     have g285 := eq_of_bne_false h283
     refine Ke ?_
     have hR286 := q2 hM271 (.brk (col_269, i_270)) (by simp only [r4_Scan_L1, h278, h280, h283, cs4])
     refine KS ?_
     refine Oq Vm (Oq Veql (KS ?_))
     refine Kc ?_ ?_
     ·intro h287
      have g288 := eq_of_beq h287
      refine KS ?_
      refine Oq Vm (Oq Vadd (Oq Vm (Oq Vadd (Oq Va (Oq Va (KS ?_))))))
      refine Oq Vm (Oq Vm (Oq (VlS un9 (l := text)) (Oq Vlss (Oq Vm ?_))))
      refine Js 82 ?_ ?_
      ·intro h289
       have g290 := dt h289
       refine Oq Vm (Oq Vm (Oq (Vix un9 (l := text)) ?_))
       have hb291 := u8b (text.b.getD ((i_270 + 1) : Int).toNat 0)
       refine Oq Veql (Oq Vpt (Oq Vm ?_))
       refine Js 88 ?_ ?_
       ·intro h292
        have g293 := eq_of_beq h292
        refine Oq Vm (Oq Vneq (Oq Vpt (KS ?_)))
        refine Kc ?_ ?_
        ·intro h294
         exact absurd h294 (by first | (simp [h287]; done) | (simp only [bne, h287]; decide) | (simp only [bne, h287, Bool.not_true, Bool.not_false]; decide) | (exfalso; omega) | (intro hq; simp only [bne, hq, Bool.not_false, Bool.not_true, reduceCtorEq] at h287))
        intro h294
        have g295 := eq_of_bne_false h294
        refine KS ?_
        exact Kg (r4, out_5, line_6, (col_269 + 1), false, (i_270 + 1), a10, k11) [0] ⟨(q3 hM12 (by simp only [r4_Scan_L0, h22, h25, h28, h31, h199, h201, h278, h280, h283, h287, h289, h292, h294, hR286, cs4])), aM1, aM1, aM1, iv1, iv1, iv1, iv1⟩
       intro h292
       have g296 := ne_of_beq_false h292
       refine Osk (Osk (Oq Vpf (KS ?_)))
       refine Kf (KS ?_)
       exact Kg (r4, out_5, line_6, (col_269 + 1), false, (i_270 + 1), a10, k11) [0] ⟨(q3 hM12 (by simp only [r4_Scan_L0, h22, h25, h28, h31, h199, h201, h278, h280, h283, h287, h289, h292, hR286, cs4])), aM1, aM1, aM1, iv1, iv1, iv1, iv1⟩
      intro h289
      have g297 := df h289
      refine Osk (Osk (Osk (Osk (Oq Vpf (Oq Vm (Osk (Osk (Oq Vpf (KS ?_)))))))))
      refine Kf (KS ?_)
      exact Kg (r4, out_5, line_6, (col_269 + 1), false, (i_270 + 1), a10, k11) [0] ⟨(q3 hM12 (by simp only [r4_Scan_L0, h22, h25, h28, h31, h199, h201, h278, h280, h283, h287, h289, hR286, cs4])), aM1, aM1, aM1, iv1, iv1, iv1, iv1⟩
     intro h287
     exact absurd h287 (by first | (simp [h199]; done) | (simp only [bne, h199]; decide) | (simp only [bne, h199, Bool.not_true, Bool.not_false]; decide) | (exfalso; omega) | (intro hq; simp only [bne, hq, Bool.not_false, Bool.not_true, reduceCtorEq] at h199))
    intro h280
    have g298 := df h280
    refine Osk (Osk (Osk (Osk (Oq Vpf (KS ?_)))))
    refine Kf ?_
    refine Ke ?_
    have hR299 := q2 hM271 (.brk (col_269, i_270)) (by simp only [r4_Scan_L1, h278, h280, cs4])
    refine KS ?_
    refine Oq Vm (Oq Veql (KS ?_))
    refine Kc ?_ ?_
    ·intro h300
     have g301 := eq_of_beq h300
     refine KS ?_
     refine Oq Vm (Oq Vadd (Oq Vm (Oq Vadd (Oq Va (Oq Va (KS ?_))))))
     refine Oq Vm (Oq Vm (Oq (VlS un9 (l := text)) (Oq Vlss (Oq Vm ?_))))
     refine Js 82 ?_ ?_
     ·intro h302
      have g303 := dt h302
      refine Oq Vm (Oq Vm (Oq (Vix un9 (l := text)) ?_))
      have hb304 := u8b (text.b.getD ((i_270 + 1) : Int).toNat 0)
      refine Oq Veql (Oq Vpt (Oq Vm ?_))
      refine Js 88 ?_ ?_
      ·intro h305
       have g306 := eq_of_beq h305
       refine Oq Vm (Oq Vneq (Oq Vpt (KS ?_)))
       refine Kc ?_ ?_
       ·intro h307
        exact absurd h307 (by first | (simp [h300]; done) | (simp only [bne, h300]; decide) | (simp only [bne, h300, Bool.not_true, Bool.not_false]; decide) | (exfalso; omega) | (intro hq; simp only [bne, hq, Bool.not_false, Bool.not_true, reduceCtorEq] at h300))
       intro h307
       have g308 := eq_of_bne_false h307
       refine KS ?_
       exact Kg (r4, out_5, line_6, (col_269 + 1), false, (i_270 + 1), a10, k11) [0] ⟨(q3 hM12 (by simp only [r4_Scan_L0, h22, h25, h28, h31, h199, h201, h278, h280, h300, h302, h305, h307, hR299, cs4])), aM1, aM1, aM1, iv1, iv1, iv1, iv1⟩
      intro h305
      have g309 := ne_of_beq_false h305
      refine Osk (Osk (Oq Vpf (KS ?_)))
      refine Kf (KS ?_)
      exact Kg (r4, out_5, line_6, (col_269 + 1), false, (i_270 + 1), a10, k11) [0] ⟨(q3 hM12 (by simp only [r4_Scan_L0, h22, h25, h28, h31, h199, h201, h278, h280, h300, h302, h305, hR299, cs4])), aM1, aM1, aM1, iv1, iv1, iv1, iv1⟩
     intro h302
     have g310 := df h302
     refine Osk (Osk (Osk (Osk (Oq Vpf (Oq Vm (Osk (Osk (Oq Vpf (KS ?_)))))))))
     refine Kf (KS ?_)
     exact Kg (r4, out_5, line_6, (col_269 + 1), false, (i_270 + 1), a10, k11) [0] ⟨(q3 hM12 (by simp only [r4_Scan_L0, h22, h25, h28, h31, h199, h201, h278, h280, h300, h302, hR299, cs4])), aM1, aM1, aM1, iv1, iv1, iv1, iv1⟩
    intro h300
    exact absurd h300 (by first | (simp [h199]; done) | (simp only [bne, h199]; decide) | (simp only [bne, h199, Bool.not_true, Bool.not_false]; decide) | (exfalso; omega) | (intro hq; simp only [bne, hq, Bool.not_false, Bool.not_true, reduceCtorEq] at h199))
   intro h278
   have g311 := ne_of_beq_false h278
   refine Osk (Osk (Osk (Osk (Oq Vpf (Oq Vm (Osk (Osk (Osk (Osk ?_)))))))))
   refine Oq Vpf (KS ?_)
   refine Kf ?_
   refine Ke ?_
   have hR312 := q2 hM271 (.brk (col_269, i_270)) (by simp only [r4_Scan_L1, h278, cs4])
   refine KS ?_
   refine Oq Vm (Oq Veql (KS ?_))
   refine Kc ?_ ?_
   ·intro h313
    have g314 := eq_of_beq h313
    refine KS ?_
    refine Oq Vm (Oq Vadd (Oq Vm (Oq Vadd (Oq Va (Oq Va (KS ?_))))))
    refine Oq Vm (Oq Vm (Oq (VlS un9 (l := text)) (Oq Vlss (Oq Vm ?_))))
    refine Js 82 ?_ ?_
    ·intro h315
     have g316 := dt h315
     refine Oq Vm (Oq Vm (Oq (Vix un9 (l := text)) ?_))
     have hb317 := u8b (text.b.getD ((i_270 + 1) : Int).toNat 0)
     refine Oq Veql (Oq Vpt (Oq Vm ?_))
     refine Js 88 ?_ ?_
     ·intro h318
      have g319 := eq_of_beq h318
      refine Oq Vm (Oq Vneq (Oq Vpt (KS ?_)))
      refine Kc ?_ ?_
      ·intro h320
       exact absurd h320 (by first | (simp [h313]; done) | (simp only [bne, h313]; decide) | (simp only [bne, h313, Bool.not_true, Bool.not_false]; decide) | (exfalso; omega) | (intro hq; simp only [bne, hq, Bool.not_false, Bool.not_true, reduceCtorEq] at h313))
      intro h320
      have g321 := eq_of_bne_false h320
      refine KS ?_
      exact Kg (r4, out_5, line_6, (col_269 + 1), false, (i_270 + 1), a10, k11) [0] ⟨(q3 hM12 (by simp only [r4_Scan_L0, h22, h25, h28, h31, h199, h201, h278, h313, h315, h318, h320, hR312, cs4])), aM1, aM1, aM1, iv1, iv1, iv1, iv1⟩
     intro h318
     have g322 := ne_of_beq_false h318
     refine Osk (Osk (Oq Vpf (KS ?_)))
     refine Kf (KS ?_)
     exact Kg (r4, out_5, line_6, (col_269 + 1), false, (i_270 + 1), a10, k11) [0] ⟨(q3 hM12 (by simp only [r4_Scan_L0, h22, h25, h28, h31, h199, h201, h278, h313, h315, h318, hR312, cs4])), aM1, aM1, aM1, iv1, iv1, iv1, iv1⟩
    intro h315
    have g323 := df h315
    refine Osk (Osk (Osk (Osk (Oq Vpf (Oq Vm (Osk (Osk (Oq Vpf (KS ?_)))))))))
    refine Kf (KS ?_)
    exact Kg (r4, out_5, line_6, (col_269 + 1), false, (i_270 + 1), a10, k11) [0] ⟨(q3 hM12 (by simp only [r4_Scan_L0, h22, h25, h28, h31, h199, h201, h278, h313, h315, hR312, cs4])), aM1, aM1, aM1, iv1, iv1, iv1, iv1⟩
   intro h313
   exact absurd h313 (by first | (simp [h199]; done) | (simp only [bne, h199]; decide) | (simp only [bne, h199, Bool.not_true, Bool.not_false]; decide) | (exfalso; omega) | (intro hq; simp only [bne, hq, Bool.not_false, Bool.not_true, reduceCtorEq] at h199))
  intro h199
  have g324 := ne_of_beq_false h199
  refine Oq Vm (Oq Veql (Oq Vpf (Oq Va (KS ?_))))
  refine Kc ?_ ?_
  ·intro h325
   have g326 := eq_of_beq h325
   refine KS ?_
   refine Oq Vm (KS ?_)
   refine Kc ?_ ?_
   ·intro h327
    refine KS ?_
    refine Oq Vm (Oq Vm (Oq Vm (Oq (Vbd st105 [vi 3, .string (bs (Str.mk [])), vi line_6, vi col_7]) (Oa (AsV sl95 sz95 [.agg #[vi 3, .string (bs (Str.mk [])), vi line_6, vi col_7]] [vi 3, .string (bs (Str.mk [])), vi line_6, vi col_7]) fun c329 => ?_))))
    refine Jo 0 ?_; rintro a330 k331 rfl
    refine Jl [0] (Ent.cr1 (α := GToken) (A := []) _ (GToken.mk 3 (Str.mk []) line_6 col_7) _ aB1 (fun h => ⟨rfl, aL1, aS1, aL1, aL1⟩)) ?_
    refine Oa (ApO [1, 0] sl95 sl95 sz95) fun c332 => ?_
    refine Jo 0 ?_; rintro a333 k334 rfl
    refine Fb 40 0 fun _ => ?_
    have hn336 := la out_5 ([(GToken.mk 3 (Str.mk []) line_6 col_7)] : List GToken)
    refine Oq Va (KS ?_)
    refine Oq Va (KS ?_)
    have hterm345 : r4_Scan_L1 text ((text.b.getD i_9.toNat 0).toNat : Int) (text.b.length + 1) col_7 i_9 ≠ LR.oof := (Scan1_term _ _ _ _ _ aM1).1
    refine Kl (γ := Nat × Int × Int) (fun (r337, col_338, i_339) => ⟨[(0, .string (bs text)), (7, vi line_6), (8, vi col_338), (10, vi i_339), (11, .int .u8 ((text.b.getD i_9.toNat 0).toNat : Int)), (6, vl a333 k334 (out_5 ++ [(GToken.mk 3 (Str.mk []) line_6 col_7)])), (9, vb false)], [O a333 k334 ((out_5 ++ [(GToken.mk 3 (Str.mk []) line_6 col_7)]) : List GToken)], r4_Scan_L1 text ((text.b.getD i_9.toNat 0).toNat : Int) r337 col_338 i_339 = r4_Scan_L1 text ((text.b.getD i_9.toNat 0).toNat : Int) (text.b.length + 1) col_7 i_9 ∧ (-9223372036854775808 ≤ col_338 ∧ col_338 ≤ 9223372036854775807) ∧ (-9223372036854775808 ≤ i_339 ∧ i_339 ≤ 9223372036854775807) ∧ (i_9 ≤ i_339 ∧ i_339 ≤ (text.b.length : Int) ∧ col_7 ≤ col_338 ∧ col_338 ≤ col_7 + (i_339 - i_9)) ∧ (((text.b.getD i_9.toNat 0).toNat : Int) = 35 ∨ i_339 = i_9), r337⟩) ((text.b.length + 1), col_7, i_9) [0] ⟨rfl, aM1, aM1, iv0, iv0⟩ ?_
    rintro ⟨r337, col_338, i_339⟩ ⟨hM340, hk341, hk342, hv343, hv344⟩
    refine JJ_nx fun _ _ hL hA => ?_; dsimp only at hL hA; subst hL hA
    refine Fb 40 0 fun _ => ?_
    rcases r337 with _ | r337
    ·exact absurd (hM340.symm.trans rfl) hterm345
    refine KS ?_
    refine Oq Vm (Oq Veql (Oq Vm ?_))
    refine Js 56 ?_ ?_
    ·intro h347
     have g348 := eq_of_beq h347
     refine Oq Vm (Oq Vm (Oq (VlS un9 (l := text)) (Oq Vlss (Oq Vpt (Oq Vm ?_)))))
     refine Js 62 ?_ ?_
     ·intro h349
      have g350 := dt h349
      refine Oq Vm (Oq Vm (Oq (Vix un9 (l := text)) ?_))
      have hb351 := u8b (text.b.getD i_339.toNat 0)
      refine Oq Vneq (Oq Vpt (KS ?_))
      refine Kc ?_ ?_
      ·intro h352
       have g353 := ne_of_bne h352
       refine KS ?_
       refine Oq Vm (Oq Vadd (Oq Vm (Oq Vadd (Oq Va (Oq Va (KS ?_))))))
       exact Kg (r337, (col_338 + 1), (i_339 + 1)) [0] ⟨(q3 hM340 (by simp only [r4_Scan_L1, h347, h349, h352, cs4])), aM1, aM1, iv1, iv1⟩
      intro h352
      have g354 := eq_of_bne_false h352
      refine Ke ?_
      have hR355 := q2 hM340 (.brk (col_338, i_339)) (by simp only [r4_Scan_L1, h347, h349, h352, cs4])
      refine KS ?_
      refine Oq Vm (Oq Veql (KS ?_))
      refine Kc ?_ ?_
      ·intro h356
       exact absurd h356 (by first | (simp [h199]; done) | (simp only [bne, h199]; decide) | (simp only [bne, h199, Bool.not_true, Bool.not_false]; decide) | (exfalso; omega) | (intro hq; simp only [bne, hq, Bool.not_false, Bool.not_true, reduceCtorEq] at h199))
      intro h356
      have g357 := ne_of_beq_false h356
      refine KS ?_
      refine Oq Vm (Oq Vm (Oq (VlS un9 (l := text)) (Oq Vlss (Oq Vm ?_))))
      refine Js 82 ?_ ?_
      ·intro h358
       have g359 := dt h358
       refine Oq Vm (Oq Vm (Oq (Vix un9 (l := text)) ?_))
       have hb360 := u8b (text.b.getD i_339.toNat 0)
       refine Oq Veql (Oq Vpt (Oq Vm ?_))
       refine Js 88 ?_ ?_
       ·intro h361
        have g362 := eq_of_beq h361
        refine Oq Vm (Oq Vneq (Oq Vpt (KS ?_)))
        refine Kc ?_ ?_
        ·intro h363
         have g364 := ne_of_bne h363
         refine KS ?_
         refine Oq Vm (Oq Vadd (Oq Vm (Oq Vadd (Oq Va (Oq Va (Oq Va (KS ?_)))))))
         exact Kg (r4, (out_5 ++ [(GToken.mk 3 (Str.mk []) line_6 col_7)]), (line_6 + 1), 1, false, (i_339 + 1), a333, k334) [0] ⟨(q3 hM12 (by simp only [r4_Scan_L0, h22, h25, h28, h31, h199, h325, h327, h347, h349, h352, h356, h358, h361, h363, hR355, cs4])), aM1, aM1, aM1, iv1, iv1, iv1, iv1⟩
        intro h363
        exact absurd h363 (by first | (simp [h356]; done) | (simp only [bne, h356]; decide) | (simp only [bne, h356, Bool.not_true, Bool.not_false]; decide) | (exfalso; omega) | (intro hq; simp only [bne, hq, Bool.not_false, Bool.not_true, reduceCtorEq] at h356))
       intro h361
       exact absurd h361 (by first | (simp [h352]; done) | (simp only [bne, h352]; decide) | (simp only [bne, h352, Bool.not_true, Bool.not_false]; decide) | (exfalso; omega) | (intro hq; simp only [bne, hq, Bool.not_false, Bool.not_true, reduceCtorEq] at h352))
      intro h358
      exact absurd h358 (by first | (simp [h349]; done) | (simp only [bne, h349]; decide) | (simp only [bne, h349, Bool.not_true, Bool.not_false]; decide) | (exfalso; omega) | (intro hq; simp only [bne, hq, Bool.not_false, Bool.not_true, reduceCtorEq] at h349))
     intro h349
     have g365 := df h349
     refine Osk (Osk (Osk (Osk (Oq Vpf (KS ?_)))))
     refine Kf ?_
     refine Ke ?_
     have hR366 := q2 hM340 (.brk (col_338, i_339)) (by simp only [r4_Scan_L1, h347, h349, cs4])
     refine KS ?_
     refine Oq Vm (Oq Veql (KS ?_))
     refine Kc ?_ ?_
     ·intro h367
      exact absurd h367 (by first | (simp [h199]; done) | (simp only [bne, h199]; decide) | (simp only [bne, h199, Bool.not_true, Bool.not_false]; decide) | (exfalso; omega) | (intro hq; simp only [bne, hq, Bool.not_false, Bool.not_true, reduceCtorEq] at h199))
     intro h367
     have g368 := ne_of_beq_false h367
     refine KS ?_
     refine Oq Vm (Oq Vm (Oq (VlS un9 (l := text)) (Oq Vlss (Oq Vm ?_))))
     refine Js 82 ?_ ?_
     ·intro h369
      exact absurd h369 (by first | (simp [h349]; done) | (simp only [bne, h349]; decide) | (simp only [bne, h349, Bool.not_true, Bool.not_false]; decide) | (exfalso; omega) | (intro hq; simp only [bne, hq, Bool.not_false, Bool.not_true, reduceCtorEq] at h349))
     intro h369
     have g370 := df h369
     refine Osk (Osk (Osk (Osk (Oq Vpf (Oq Vm (Osk (Osk (Oq Vpf (KS ?_)))))))))
     refine Kf (KS ?_)
     exact Kg (r4, (out_5 ++ [(GToken.mk 3 (Str.mk []) line_6 col_7)]), line_6, col_338, false, i_339, a333, k334) [0] ⟨(q3 hM12 (by simp only [r4_Scan_L0, h22, h25, h28, h31, h199, h325, h327, h347, h349, h367, h369, hR366, cs4])), aM1, aM1, aM1, iv1, iv1, iv1, iv1⟩
    intro h347
    exact absurd h347 (by first | (simp [h325]; done) | (simp only [bne, h325]; decide) | (simp only [bne, h325, Bool.not_true, Bool.not_false]; decide) | (exfalso; omega) | (intro hq; simp only [bne, hq, Bool.not_false, Bool.not_true, reduceCtorEq] at h325))
   intro h327
   refine KS ?_
   refine Oq Va (KS ?_)
   have hterm380 : r4_Scan_L1 text ((text.b.getD i_9.toNat 0).toNat : Int) (text.b.length + 1) col_7 i_9 ≠ LR.oof := (Scan1_term _ _ _ _ _ aM1).1
   refine Kl (γ := Nat × Int × Int) (fun (r372, col_373, i_374) => ⟨[(0, .string (bs text)), (6, vl a10 k11 out_5), (7, vi line_6), (8, vi col_373), (10, vi i_374), (11, .int .u8 ((text.b.getD i_9.toNat 0).toNat : Int)), (9, vb false)], [O a10 k11 out_5], r4_Scan_L1 text ((text.b.getD i_9.toNat 0).toNat : Int) r372 col_373 i_374 = r4_Scan_L1 text ((text.b.getD i_9.toNat 0).toNat : Int) (text.b.length + 1) col_7 i_9 ∧ (-9223372036854775808 ≤ col_373 ∧ col_373 ≤ 9223372036854775807) ∧ (-9223372036854775808 ≤ i_374 ∧ i_374 ≤ 9223372036854775807) ∧ (i_9 ≤ i_374 ∧ i_374 ≤ (text.b.length : Int) ∧ col_7 ≤ col_373 ∧ col_373 ≤ col_7 + (i_374 - i_9)) ∧ (((text.b.getD i_9.toNat 0).toNat : Int) = 35 ∨ i_374 = i_9), r372⟩) ((text.b.length + 1), col_7, i_9) [0] ⟨rfl, aM1, aM1, iv0, iv0⟩ ?_
   rintro ⟨r372, col_373, i_374⟩ ⟨hM375, hk376, hk377, hv378, hv379⟩
   refine JJ_nx fun _ _ hL hA => ?_; dsimp only at hL hA; subst hL hA
   refine Fb 40 0 fun _ => ?_
   rcases r372 with _ | r372
   ·exact absurd (hM375.symm.trans rfl) hterm380
   refine KS ?_
   refine Oq Vm (Oq Veql (Oq Vm ?_))
   refine Js 56 ?_ ?_
   ·intro h382
    have g383 := eq_of_beq h382
    refine Oq Vm (Oq Vm (Oq (VlS un9 (l := text)) (Oq Vlss (Oq Vpt (Oq Vm ?_)))))
    refine Js 62 ?_ ?_
    ·intro h384
     have g385 := dt h384
     refine Oq Vm (Oq Vm (Oq (Vix un9 (l := text)) ?_))
     have hb386 := u8b (text.b.getD i_374.toNat 0)
     refine Oq Vneq (Oq Vpt (KS ?_))
     refine Kc ?_ ?_
     ·intro h387
      have g388 := ne_of_bne h387
      refine KS ?_
      refine Oq Vm (Oq Vadd (Oq Vm (Oq Vadd (Oq Va (Oq Va (KS ?_))))))
      exact Kg (r372, (col_373 + 1), (i_374 + 1)) [0] ⟨(q3 hM375 (by simp only [r4_Scan_L1, h382, h384, h387, cs4])), aM1, aM1, iv1, iv1⟩
     intro h387
     have g389 := eq_of_bne_false h387
     refine Ke ?_
     have hR390 := q2 hM375 (.brk (col_373, i_374)) (by simp only [r4_Scan_L1, h382, h384, h387, cs4])
     refine KS ?_
     refine Oq Vm (Oq Veql (KS ?_))
     refine Kc ?_ ?_
     ·intro h391
      exact absurd h391 (by first | (simp [h199]; done) | (simp only [bne, h199]; decide) | (simp only [bne, h199, Bool.not_true, Bool.not_false]; decide) | (exfalso; omega) | (intro hq; simp only [bne, hq, Bool.not_false, Bool.not_true, reduceCtorEq] at h199))
     intro h391
     have g392 := ne_of_beq_false h391
     refine KS ?_
     refine Oq Vm (Oq Vm (Oq (VlS un9 (l := text)) (Oq Vlss (Oq Vm ?_))))
     refine Js 82 ?_ ?_
     ·intro h393
      have g394 := dt h393
      refine Oq Vm (Oq Vm (Oq (Vix un9 (l := text)) ?_))
      have hb395 := u8b (text.b.getD i_374.toNat 0)
      refine Oq Veql (Oq Vpt (Oq Vm ?_))
      refine Js 88 ?_ ?_
      ·intro h396
       have g397 := eq_of_beq h396
       refine Oq Vm (Oq Vneq (Oq Vpt (KS ?_)))
       refine Kc ?_ ?_
       ·intro h398
        have g399 := ne_of_bne h398
        refine KS ?_
        refine Oq Vm (Oq Vadd (Oq Vm (Oq Vadd (Oq Va (Oq Va (Oq Va (KS ?_)))))))
        exact Kg (r4, out_5, (line_6 + 1), 1, false, (i_374 + 1), a10, k11) [0] ⟨(q3 hM12 (by simp only [r4_Scan_L0, h22, h25, h28, h31, h199, h325, h327, h382, h384, h387, h391, h393, h396, h398, hR390, cs4])), aM1, aM1, aM1, iv1, iv1, iv1, iv1⟩
       intro h398
       exact absurd h398 (by first | (simp [h391]; done) | (simp only [bne, h391]; decide) | (simp only [bne, h391, Bool.not_true, Bool.not_false]; decide) | (exfalso; omega) | (intro hq; simp only [bne, hq, Bool.not_false, Bool.not_true, reduceCtorEq] at h391))
      intro h396
      exact absurd h396 (by first | (simp [h387]; done) | (simp only [bne, h387]; decide) | (simp only [bne, h387, Bool.not_true, Bool.not_false]; decide) | (exfalso; omega) | (intro hq; simp only [bne, hq, Bool.not_false, Bool.not_true, reduceCtorEq] at h387))
     intro h393
     exact absurd h393 (by first | (simp [h384]; done) | (simp only [bne, h384]; decide) | (simp only [bne, h384, Bool.not_true, Bool.not_false]; decide) | (exfalso; omega) | (intro hq; simp only [bne, hq, Bool.not_false, Bool.not_true, reduceCtorEq] at h384))
    intro h384
    have g400 := df h384
    refine Osk (Osk (Osk (Osk (Oq Vpf (KS ?_)))))
    refine Kf ?_
    refine Ke ?_
    have hR401 := q2 hM375 (.brk (col_373, i_374)) (by simp only [r4_Scan_L1, h382, h384, cs4])
    refine KS ?_
    refine Oq Vm (Oq Veql (KS ?_))
    refine Kc ?_ ?_
    ·intro h402
     exact absurd h402 (by first | (simp [h199]; done) | (simp only [bne, h199]; decide) | (simp only [bne, h199, Bool.not_true, Bool.not_false]; decide) | (exfalso; omega) | (intro hq; simp only [bne, hq, Bool.not_false, Bool.not_true, reduceCtorEq] at h199))
    intro h402
    have g403 := ne_of_beq_false h402
    refine KS ?_
    refine Oq Vm (Oq Vm (Oq (VlS un9 (l := text)) (Oq Vlss (Oq Vm ?_))))
    refine Js 82 ?_ ?_
    ·intro h404
     exact absurd h404 (by first | (simp [h384]; done) | (simp only [bne, h384]; decide) | (simp only [bne, h384, Bool.not_true, Bool.not_false]; decide) | (exfalso; omega) | (intro hq; simp only [bne, hq, Bool.not_false, Bool.not_true, reduceCtorEq] at h384))
    intro h404
    have g405 := df h404
    refine Osk (Osk (Osk (Osk (Oq Vpf (Oq Vm (Osk (Osk (Oq Vpf (KS ?_)))))))))
    refine Kf (KS ?_)
    exact Kg (r4, out_5, line_6, col_373, false, i_374, a10, k11) [0] ⟨(q3 hM12 (by simp only [r4_Scan_L0, h22, h25, h28, h31, h199, h325, h327, h382, h384, h402, h404, hR401, cs4])), aM1, aM1, aM1, iv1, iv1, iv1, iv1⟩
   intro h382
   exact absurd h382 (by first | (simp [h325]; done) | (simp only [bne, h325]; decide) | (simp only [bne, h325, Bool.not_true, Bool.not_false]; decide) | (exfalso; omega) | (intro hq; simp only [bne, hq, Bool.not_false, Bool.not_true, reduceCtorEq] at h325))
  intro h325
  have g406 := ne_of_beq_false h325
  refine KS ?_
  refine Oq Vm (Oq Veql (Oq Va (KS ?_)))
  refine Kc ?_ ?_
  ·intro h407
   have g408 := eq_of_beq h407
   refine KS ?_
   refine Oq Vm (Oq Vm (Oq Vm (Oq (Vbd st105 [vi 2, .string (bs (Str.mk [61])), vi line_6, vi col_7]) (Oa (AsV sl95 sz95 [.agg #[vi 2, .string (bs (Str.mk [61])), vi line_6, vi col_7]] [vi 2, .string (bs (Str.mk [61])), vi line_6, vi col_7]) fun c409 => ?_))))
   refine Jo 0 ?_; rintro a410 k411 rfl
   refine Jl [0] (Ent.cr1 (α := GToken) (A := []) _ (GToken.mk 2 (Str.mk [61]) line_6 col_7) _ aB1 (fun h => ⟨rfl, aL1, aS1, aL1, aL1⟩)) ?_
   refine Oa (ApO [1, 0] sl95 sl95 sz95) fun c412 => ?_
   refine Jo 0 ?_; rintro a413 k414 rfl
   refine Fb 40 0 fun _ => ?_
   have hn416 := la out_5 ([(GToken.mk 2 (Str.mk [61]) line_6 col_7)] : List GToken)
   refine Oq Va (KS ?_)
   refine Oq Vm (Oq Vadd (Oq Vm (Oq Vadd (Oq Va (Oq Va (Oq Va (KS ?_)))))))
   exact Kg (r4, (out_5 ++ [(GToken.mk 2 (Str.mk [61]) line_6 col_7)]), line_6, (col_7 + 1), true, (i_9 + 1), a413, k414) [0] ⟨(q3 hM12 (by simp only [r4_Scan_L0, h22, h25, h28, h31, h199, h325, h407, cs4])), aM1, aM1, aM1, iv1, iv1, iv1, iv1⟩
  intro h407
  have g417 := ne_of_beq_false h407
  refine KS ?_
  refine Oq Vm ?_
  refine letv (r4_letter ((text.b.getD i_9.toNat 0).toNat : Int)) fun rv418 hg419 => ?_
  have hc420 := fn82 (((text.b.getD i_9.toNat 0).toNat : Int)) pre rv418 hg419
  refine Oc [] ca82 hc420 ?_
  rintro - -
  refine Oq Vm ?_
  refine Js 112 ?_ ?_
  ·intro h421
   refine Osk (Osk (Oq Vpt (Oq Va (KS ?_))))
   refine Kt (KS ?_)
   refine Oq Va (KS ?_)
   have hterm428 : r4_Scan_L2 text i_9 (text.b.length + 1) 0 ≠ LR.oof := (Scan2_term _ _ _ _ aM1).1
   refine Kl (γ := Nat × Int) (fun (r423, n_424) => ⟨[(0, .string (bs text)), (6, vl a10 k11 out_5), (7, vi line_6), (8, vi col_7), (10, vi i_9), (11, .int .u8 ((text.b.getD i_9.toNat 0).toNat : Int)), (12, vi n_424)], [O a10 k11 out_5], r4_Scan_L2 text i_9 r423 n_424 = r4_Scan_L2 text i_9 (text.b.length + 1) 0 ∧ (-9223372036854775808 ≤ n_424 ∧ n_424 ≤ 9223372036854775807) ∧ (0 ≤ n_424 ∧ i_9 + n_424 ≤ (text.b.length : Int)), r423⟩) ((text.b.length + 1), 0) [0] ⟨rfl, aM1, iv0⟩ ?_
   rintro ⟨r423, n_424⟩ ⟨hM425, hk426, hv427⟩
   refine JJ_nx fun _ _ hL hA => ?_; dsimp only at hL hA; subst hL hA
   refine Fb 40 0 fun _ => ?_
   rcases r423 with _ | r423
   ·exact absurd (hM425.symm.trans rfl) hterm428
   refine KS ?_
   refine Oq Vm (Oq Vm (Oq Vadd (Oq Vm (Oq (VlS un9 (l := text)) (Oq Vlss (Oq Vm ?_))))))
   refine Js 122 ?_ ?_
   ·intro h430
    have g431 := dt h430
    refine Oq Vm (Oq Vm (Oq Vm (Oq Vadd (Oq (Vix un9 (l := text)) ?_))))
    have hb432 := u8b (text.b.getD ((i_9 + n_424) : Int).toNat 0)
    refine letv (r4_letter ((text.b.getD ((i_9 + n_424) : Int).toNat 0).toNat : Int)) fun rv433 hg434 => ?_
    have hc435 := fn82 (((text.b.getD ((i_9 + n_424) : Int).toNat 0).toNat : Int)) pre rv433 hg434
    refine Oc [] ca82 hc435 ?_
    rintro - -
    refine Oq Vm ?_
    refine Js 129 ?_ ?_
    ·intro h436
     refine Osk (Osk (Osk (Osk (Osk (Osk (Oq Vpt (Oq Vpt (KS ?_))))))))
     refine Kt (KS ?_)
     refine Oq Vm (Oq Vadd (Oq Va (KS ?_)))
     exact Kg (r423, (n_424 + 1)) [0] ⟨(q3 hM425 (by simp only [r4_Scan_L2, h430, h436, hg434, cs4])), aM1, iv1⟩
    intro h436
    refine Oq Vm (Oq Vm (Oq Vm (Oq Vadd (Oq (Vix un9 (l := text)) ?_))))
    have hb439 := u8b (text.b.getD ((i_9 + n_424) : Int).toNat 0)
    refine letv (r4_digit ((text.b.getD ((i_9 + n_424) : Int).toNat 0).toNat : Int)) fun rv440 hg441 => ?_
    have hc442 := fn83 (((text.b.getD ((i_9 + n_424) : Int).toNat 0).toNat : Int)) pre rv440 hg441
    refine Oc [] ca83 hc442 ?_
    rintro - -
    refine Oq Vpf (Oq Vpt (KS ?_))
    refine Kc ?_ ?_
    ·intro h443
     refine KS ?_
     refine Oq Vm (Oq Vadd (Oq Va (KS ?_)))
     exact Kg (r423, (n_424 + 1)) [0] ⟨(q3 hM425 (by simp only [r4_Scan_L2, h430, h436, h443, hg434, hg441, cs4])), aM1, iv1⟩
    intro h443
    refine Ke ?_
    have hR446 := q2 hM425 (.brk n_424) (by simp only [r4_Scan_L2, h430, h436, h443, hg434, hg441, cs4])
    refine KS ?_
    refine Oq Vm ?_
    refine letv (r4_digit ((text.b.getD i_9.toNat 0).toNat : Int)) fun rv447 hg448 => ?_
    have hc449 := fn83 (((text.b.getD i_9.toNat 0).toNat : Int)) pre rv447 hg448
    refine Oc [] ca83 hc449 ?_
    rintro - -
    refine KS ?_
    refine Kc ?_ ?_
    ·intro h450
     refine KS ?_
     refine Oq Vm (Oq Vm (Oq Va (Oq Va (Oq Va (Oq Va (KS ?_))))))
     refine Jl [] (Ent.slNil (α := GToken)) ?_
     have hR452 := q2 hM12 (.ret (([] : List GToken), line_6, col_7, 4)) (by simp only [r4_Scan_L0, h22, h25, h28, h31, h199, h325, h407, h421, h430, h436, h443, h450, hg419, hg434, hg441, hR446, hg448, cs4])
     have hq := q4 hrr (([] : List GToken), line_6, col_7, 4) (by simp only [r4_Scan, h1, h22, h25, h28, h31, h199, h325, h407, h421, h430, h436, h443, h450, hg419, hg434, hg441, hR446, hg448, hR452, cs4]); subst hq
     exact Kr (.slice none 0 0) rfl (.tmp rfl (.tmp rfl (.tmp rfl (.tmp rfl .nil)))) [0] en
    intro h450
    refine KS ?_
    refine Oq Vm (Oq Vgtr (KS ?_))
    refine Kc ?_ ?_
    ·intro h454
     have g455 := dt h454
     refine KS ?_
     refine Oq Vm (Oq Vm (Oq Va (Oq Va (Oq Va (Oq Va (KS ?_))))))
     refine Jl [] (Ent.slNil (α := GToken)) ?_
     have hR456 := q2 hM12 (.ret (([] : List GToken), line_6, col_7, 7)) (by simp only [r4_Scan_L0, h22, h25, h28, h31, h199, h325, h407, h421, h430, h436, h443, h450, h454, hg419, hg434, hg441, hR446, hg448, cs4])
     have hq := q4 hrr (([] : List GToken), line_6, col_7, 7) (by simp only [r4_Scan, h1, h22, h25, h28, h31, h199, h325, h407, h421, h430, h436, h443, h450, h454, hg419, hg434, hg441, hR446, hg448, hR456, cs4]); subst hq
     exact Kr (.slice none 0 0) rfl (.tmp rfl (.tmp rfl (.tmp rfl (.tmp rfl .nil)))) [0] en
    intro h454
    have g457 := df h454
    refine KS ?_
    refine Oq Vm (Oq Vm (Oq Vm (Oq Vm (Oq Vm (Oq Vadd (Oq (VslS un9 (l := text)) ?_))))))
    have hb458 := sub_len3 text i_9.toNat ((i_9 + n_424) : Int).toNat
    refine Oq Vm (Oq Vm (Oq (Vbd st105 [vi 1, .string (bs (text.sub i_9.toNat ((i_9 + n_424) : Int).toNat)), vi line_6, vi col_7]) (Oa (AsV sl95 sz95 [.agg #[vi 1, .string (bs (text.sub i_9.toNat ((i_9 + n_424) : Int).toNat)), vi line_6, vi col_7]] [vi 1, .string (bs (text.sub i_9.toNat ((i_9 + n_424) : Int).toNat)), vi line_6, vi col_7]) fun c459 => ?_)))
    refine Jo 0 ?_; rintro a460 k461 rfl
    refine Jl [0] (Ent.cr1 (α := GToken) (A := []) _ (GToken.mk 1 (text.sub i_9.toNat ((i_9 + n_424) : Int).toNat) line_6 col_7) _ aB1 (fun h => ⟨rfl, aL1, aS1, aL1, aL1⟩)) ?_
    refine Oa (ApO [1, 0] sl95 sl95 sz95) fun c462 => ?_
    refine Jo 0 ?_; rintro a463 k464 rfl
    refine Fb 40 0 fun _ => ?_
    have hn466 := la out_5 ([(GToken.mk 1 (text.sub i_9.toNat ((i_9 + n_424) : Int).toNat) line_6 col_7)] : List GToken)
    refine Oq Va (KS ?_)
    refine Oq Vm (Oq Vm (Oq Vadd (Oq Vm (Oq Vm (Oq Vadd (Oq Va (Oq Va (Oq Va (KS ?_)))))))))
    exact Kg (r4, (out_5 ++ [(GToken.mk 1 (text.sub i_9.toNat ((i_9 + n_424) : Int).toNat) line_6 col_7)]), line_6, (col_7 + n_424), true, (i_9 + n_424), a463, k464) [0] ⟨(q3 hM12 (by simp only [r4_Scan_L0, h22, h25, h28, h31, h199, h325, h407, h421, h430, h436, h443, h450, h454, hg419, hg434, hg441, hR446, hg448, cs4])), aM1, aM1, aM1, iv1, iv1, iv1, iv1⟩
   intro h430
   have g467 := df h430
   refine Osk (Osk (Osk (Osk (Osk (Osk (Osk (Osk (Osk (Osk ?_)))))))))
   refine Osk (Osk (Osk (Osk (Oq Vpf (KS ?_)))))
   refine Kf ?_
   refine Ke ?_
   have hR468 := q2 hM425 (.brk n_424) (by simp only [r4_Scan_L2, h430, cs4])
   refine KS ?_
   refine Oq Vm ?_
   refine letv (r4_digit ((text.b.getD i_9.toNat 0).toNat : Int)) fun rv469 hg470 => ?_
   have hc471 := fn83 (((text.b.getD i_9.toNat 0).toNat : Int)) pre rv469 hg470
   refine Oc [] ca83 hc471 ?_
   rintro - -
   refine KS ?_
   refine Kc ?_ ?_
   ·intro h472
    refine KS ?_
    refine Oq Vm (Oq Vm (Oq Va (Oq Va (Oq Va (Oq Va (KS ?_))))))
    refine Jl [] (Ent.slNil (α := GToken)) ?_
    have hR474 := q2 hM12 (.ret (([] : List GToken), line_6, col_7, 4)) (by simp only [r4_Scan_L0, h22, h25, h28, h31, h199, h325, h407, h421, h430, h472, hg419, hR468, hg470, cs4])
    have hq := q4 hrr (([] : List GToken), line_6, col_7, 4) (by simp only [r4_Scan, h1, h22, h25, h28, h31, h199, h325, h407, h421, h430, h472, hg419, hR468, hg470, hR474, cs4]); subst hq
    exact Kr (.slice none 0 0) rfl (.tmp rfl (.tmp rfl (.tmp rfl (.tmp rfl .nil)))) [0] en
   intro h472
   refine KS ?_
   refine Oq Vm (Oq Vgtr (KS ?_))
   refine Kc ?_ ?_
   ·intro h476
    have g477 := dt h476
    refine KS ?_
    refine Oq Vm (Oq Vm (Oq Va (Oq Va (Oq Va (Oq Va (KS ?_))))))
    refine Jl [] (Ent.slNil (α := GToken)) ?_
    have hR478 := q2 hM12 (.ret (([] : List GToken), line_6, col_7, 7)) (by simp only [r4_Scan_L0, h22, h25, h28, h31, h199, h325, h407, h421, h430, h472, h476, hg419, hR468, hg470, cs4])
    have hq := q4 hrr (([] : List GToken), line_6, col_7, 7) (by simp only [r4_Scan, h1, h22, h25, h28, h31, h199, h325, h407, h421, h430, h472, h476, hg419, hR468, hg470, hR478, cs4]); subst hq
    exact Kr (.slice none 0 0) rfl (.tmp rfl (.tmp rfl (.tmp rfl (.tmp rfl .nil)))) [0] en
   intro h476
   have g479 := df h476
   refine KS ?_
   refine Oq Vm (Oq Vm (Oq Vm (Oq Vm (Oq Vm (Oq Vadd (Oq (VslS un9 (l := text)) ?_))))))
   have hb480 := sub_len3 text i_9.toNat ((i_9 + n_424) : Int).toNat
   refine Oq Vm (Oq Vm (Oq (Vbd st105 [vi 1, .string (bs (text.sub i_9.toNat ((i_9 + n_424) : Int).toNat)), vi line_6, vi col_7]) (Oa (AsV sl95 sz95 [.agg #[vi 1, .string (bs (text.sub i_9.toNat ((i_9 + n_424) : Int).toNat)), vi line_6, vi col_7]] [vi 1, .string (bs (text.sub i_9.toNat ((i_9 + n_424) : Int).toNat)), vi line_6, vi col_7]) fun c481 => ?_)))
   refine Jo 0 ?_; rintro a482 k483 rfl
   refine Jl [0] (Ent.cr1 (α := GToken) (A := []) _ (GToken.mk 1 (text.sub i_9.toNat ((i_9 + n_424) : Int).toNat) line_6 col_7) _ aB1 (fun h => ⟨rfl, aL1, aS1, aL1, aL1⟩)) ?_
   refine Oa (ApO [1, 0] sl95 sl95 sz95) fun c484 => ?_
   refine Jo 0 ?_; rintro a485 k486 rfl
   refine Fb 40 0 fun _ => ?_
   have hn488 := la out_5 ([(GToken.mk 1 (text.sub i_9.toNat ((i_9 + n_424) : Int).toNat) line_6 col_7)] : List GToken)
   refine Oq Va (KS ?_)
   refine Oq Vm (Oq Vm (Oq Vadd (Oq Vm (Oq Vm (Oq Vadd (Oq Va (Oq Va (Oq Va (KS ?_)))))))))
   exact Kg (r4, (out_5 ++ [(GToken.mk 1 (text.sub i_9.toNat ((i_9 + n_424) : Int).toNat) line_6 col_7)]), line_6, (col_7 + n_424), true, (i_9 + n_424), a485, k486) [0] ⟨(q3 hM12 (by simp only [r4_Scan_L0, h22, h25, h28, h31, h199, h325, h407, h421, h430, h472, h476, hg419, hR468, hg470, cs4])), aM1, aM1, aM1, iv1, iv1, iv1, iv1⟩
  intro h421
  refine Oq Vm ?_
  refine letv (r4_digit ((text.b.getD i_9.toNat 0).toNat : Int)) fun rv490 hg491 => ?_
  have hc492 := fn83 (((text.b.getD i_9.toNat 0).toNat : Int)) pre rv490 hg491
  refine Oc [] ca83 hc492 ?_
  rintro - -
  refine Oq Vpf (Oq Va (KS ?_))
  refine Kc ?_ ?_
  ·intro h493
   refine KS ?_
   refine Oq Va (KS ?_)
   have hterm500 : r4_Scan_L2 text i_9 (text.b.length + 1) 0 ≠ LR.oof := (Scan2_term _ _ _ _ aM1).1
   refine Kl (γ := Nat × Int) (fun (r495, n_496) => ⟨[(0, .string (bs text)), (6, vl a10 k11 out_5), (7, vi line_6), (8, vi col_7), (10, vi i_9), (11, .int .u8 ((text.b.getD i_9.toNat 0).toNat : Int)), (12, vi n_496)], [O a10 k11 out_5], r4_Scan_L2 text i_9 r495 n_496 = r4_Scan_L2 text i_9 (text.b.length + 1) 0 ∧ (-9223372036854775808 ≤ n_496 ∧ n_496 ≤ 9223372036854775807) ∧ (0 ≤ n_496 ∧ i_9 + n_496 ≤ (text.b.length : Int)), r495⟩) ((text.b.length + 1), 0) [0] ⟨rfl, aM1, iv0⟩ ?_
   rintro ⟨r495, n_496⟩ ⟨hM497, hk498, hv499⟩
   refine JJ_nx fun _ _ hL hA => ?_; dsimp only at hL hA; subst hL hA
   refine Fb 40 0 fun _ => ?_
   rcases r495 with _ | r495
   ·exact absurd (hM497.symm.trans rfl) hterm500
   refine KS ?_
   refine Oq Vm (Oq Vm (Oq Vadd (Oq Vm (Oq (VlS un9 (l := text)) (Oq Vlss (Oq Vm ?_))))))
   refine Js 122 ?_ ?_
   ·intro h502
    have g503 := dt h502
    refine Oq Vm (Oq Vm (Oq Vm (Oq Vadd (Oq (Vix un9 (l := text)) ?_))))
    have hb504 := u8b (text.b.getD ((i_9 + n_496) : Int).toNat 0)
    refine letv (r4_letter ((text.b.getD ((i_9 + n_496) : Int).toNat 0).toNat : Int)) fun rv505 hg506 => ?_
    have hc507 := fn82 (((text.b.getD ((i_9 + n_496) : Int).toNat 0).toNat : Int)) pre rv505 hg506
    refine Oc [] ca82 hc507 ?_
    rintro - -
    refine Oq Vm ?_
    refine Js 129 ?_ ?_
    ·intro h508
     refine Osk (Osk (Osk (Osk (Osk (Osk (Oq Vpt (Oq Vpt (KS ?_))))))))
     refine Kt (KS ?_)
     refine Oq Vm (Oq Vadd (Oq Va (KS ?_)))
     exact Kg (r495, (n_496 + 1)) [0] ⟨(q3 hM497 (by simp only [r4_Scan_L2, h502, h508, hg506, cs4])), aM1, iv1⟩
    intro h508
    refine Oq Vm (Oq Vm (Oq Vm (Oq Vadd (Oq (Vix un9 (l := text)) ?_))))
    have hb511 := u8b (text.b.getD ((i_9 + n_496) : Int).toNat 0)
    refine letv (r4_digit ((text.b.getD ((i_9 + n_496) : Int).toNat 0).toNat : Int)) fun rv512 hg513 => ?_
    have hc514 := fn83 (((text.b.getD ((i_9 + n_496) : Int).toNat 0).toNat : Int)) pre rv512 hg513
    refine Oc [] ca83 hc514 ?_
    rintro - -
    refine Oq Vpf (Oq Vpt (KS ?_))
    refine Kc ?_ ?_
    ·intro h515
     refine KS ?_
     refine Oq Vm (Oq Vadd (Oq Va (KS ?_)))
     exact Kg (r495, (n_496 + 1)) [0] ⟨(q3 hM497 (by simp only [r4_Scan_L2, h502, h508, h515, hg506, hg513, cs4])), aM1, iv1⟩
    intro h515
    refine Ke ?_
    have hR518 := q2 hM497 (.brk n_496) (by simp only [r4_Scan_L2, h502, h508, h515, hg506, hg513, cs4])
    refine KS ?_
    refine Oq Vm ?_
    have hc519 := fn83 (((text.b.getD i_9.toNat 0).toNat : Int)) pre rv490 hg491
    refine Oc [] ca83 hc519 ?_
    rintro - -
    refine KS ?_
    refine Kc ?_ ?_
    ·intro h520
     refine KS ?_
     refine Oq Vm (Oq Vm (Oq Va (Oq Va (Oq Va (Oq Va (KS ?_))))))
     refine Jl [] (Ent.slNil (α := GToken)) ?_
     have hR522 := q2 hM12 (.ret (([] : List GToken), line_6, col_7, 4)) (by simp only [r4_Scan_L0, h22, h25, h28, h31, h199, h325, h407, h421, h493, h502, h508, h515, h520, hg419, hg491, hg506, hg513, hR518, cs4])
     have hq := q4 hrr (([] : List GToken), line_6, col_7, 4) (by simp only [r4_Scan, h1, h22, h25, h28, h31, h199, h325, h407, h421, h493, h502, h508, h515, h520, hg419, hg491, hg506, hg513, hR518, hR522, cs4]); subst hq
     exact Kr (.slice none 0 0) rfl (.tmp rfl (.tmp rfl (.tmp rfl (.tmp rfl .nil)))) [0] en
    intro h520
    exact absurd h520 (by first | (simp [h493]; done) | (simp only [bne, h493]; decide) | (simp only [bne, h493, Bool.not_true, Bool.not_false]; decide) | (exfalso; omega) | (intro hq; simp only [bne, hq, Bool.not_false, Bool.not_true, reduceCtorEq] at h493))
   intro h502
   have g523 := df h502
   refine Osk (Osk (Osk (Osk (Osk (Osk (Osk (Osk (Osk (Osk ?_)))))))))
   refine Osk (Osk (Osk (Osk (Oq Vpf (KS ?_)))))
   refine Kf ?_
   refine Ke ?_
   have hR524 := q2 hM497 (.brk n_496) (by simp only [r4_Scan_L2, h502, cs4])
   refine KS ?_
   refine Oq Vm ?_
   have hc525 := fn83 (((text.b.getD i_9.toNat 0).toNat : Int)) pre rv490 hg491
   refine Oc [] ca83 hc525 ?_
   rintro - -
   refine KS ?_
   refine Kc ?_ ?_
   ·intro h526
    refine KS ?_
    refine Oq Vm (Oq Vm (Oq Va (Oq Va (Oq Va (Oq Va (KS ?_))))))
    refine Jl [] (Ent.slNil (α := GToken)) ?_
    have hR528 := q2 hM12 (.ret (([] : List GToken), line_6, col_7, 4)) (by simp only [r4_Scan_L0, h22, h25, h28, h31, h199, h325, h407, h421, h493, h502, h526, hg419, hg491, hR524, cs4])
    have hq := q4 hrr (([] : List GToken), line_6, col_7, 4) (by simp only [r4_Scan, h1, h22, h25, h28, h31, h199, h325, h407, h421, h493, h502, h526, hg419, hg491, hR524, hR528, cs4]); subst hq
    exact Kr (.slice none 0 0) rfl (.tmp rfl (.tmp rfl (.tmp rfl (.tmp rfl .nil)))) [0] en
   intro h526
   exact absurd h526 (by first | (simp [h493]; done) | (simp only [bne, h493]; decide) | (simp only [bne, h493, Bool.not_true, Bool.not_false]; decide) | (exfalso; omega) | (intro hq; simp only [bne, hq, Bool.not_false, Bool.not_true, reduceCtorEq] at h493))
  intro h493
  refine KS ?_
  refine Oq Vm (Oq Vm (Oq Va (Oq Va (Oq Va (Oq Va (KS ?_))))))
  refine Jl [] (Ent.slNil (α := GToken)) ?_
  have hR530 := q2 hM12 (.ret (([] : List GToken), line_6, col_7, 4)) (by simp only [r4_Scan_L0, h22, h25, h28, h31, h199, h325, h407, h421, h493, hg419, hg491, cs4])
  have hq := q4 hrr (([] : List GToken), line_6, col_7, 4) (by simp only [r4_Scan, h1, h22, h25, h28, h31, h199, h325, h407, h421, h493, hg419, hg491, hR530, cs4]); subst hq
  exact Kr (.slice none 0 0) rfl (.tmp rfl (.tmp rfl (.tmp rfl (.tmp rfl .nil)))) [0] en
 intro h22
 have g531 := df h22
 refine Ke ?_
 have hR532 := q2 hM12 (.brk (out_5, line_6, col_7, open__8)) (by simp only [r4_Scan_L0, h22, cs4])
 refine KS ?_
 refine Oq Vm (KS ?_)
 refine Kc ?_ ?_
 ·intro h533
  refine KS ?_
  refine Oq Vm (Oq Vm (Oq Vm (Oq (Vbd st105 [vi 3, .string (bs (Str.mk [])), vi line_6, vi col_7]) (Oa (AsV sl95 sz95 [.agg #[vi 3, .string (bs (Str.mk [])), vi line_6, vi col_7]] [vi 3, .string (bs (Str.mk [])), vi line_6, vi col_7]) fun c535 => ?_))))
  refine Jo 0 ?_; rintro a536 k537 rfl
  refine Jl [0] (Ent.cr1 (α := GToken) (A := []) _ (GToken.mk 3 (Str.mk []) line_6 col_7) _ aB1 (fun h => ⟨rfl, aL1, aS1, aL1, aL1⟩)) ?_
  refine Oa (ApO [1, 0] sl95 sl95 sz95) fun c538 => ?_
  refine Jo 0 ?_; rintro a539 k540 rfl
  refine Fb 40 0 fun _ => ?_
  have hn542 := la out_5 ([(GToken.mk 3 (Str.mk []) line_6 col_7)] : List GToken)
  refine Oq Va (KS ?_)
  refine Oq Vm (Oq Va (Oq Va (Oq Va (Oq Va (KS ?_)))))
  refine Jl [0] (Ent.freeze _ _) ?_
  have hq := q4 hrr ((out_5 ++ [(GToken.mk 3 (Str.mk []) line_6 col_7)]), 0, 0, 0) (by simp only [r4_Scan, h1, h22, h533, hR532, cs4]); subst hq
  exact Kr (vl a539 k540 (out_5 ++ [(GToken.mk 3 (Str.mk []) line_6 col_7)])) rfl (.tmp rfl (.tmp rfl (.tmp rfl (.tmp rfl .nil)))) [0] en
 intro h533
 refine KS ?_
 refine Oq Vm (Oq Va (Oq Va (Oq Va (Oq Va (KS ?_)))))
 refine Jl [0] (Ent.freeze _ _) ?_
 have hq := q4 hrr (out_5, 0, 0, 0) (by simp only [r4_Scan, h1, h22, h533, hR532, cs4]); subst hq
 exact Kr (vl a10 k11 out_5) rfl (.tmp rfl (.tmp rfl (.tmp rfl (.tmp rfl .nil)))) [0] en
theorem fn52 (pP : Value) (p : Gparser) (pa0 : Option Addr) (pk0 : Nat) (word : Str) (hp_1 : i64ok p.at_) (hp_2 : i64ok p.Err) (hword_0 : word.b.length ≤ 140737488355328) (hpa : (0 ≤ p.at_ ∧ p.at_ ≤ (p.l.length : Int))) (rr : Bool) (hrr : pz_is p word = rr) : FT Tryz.prog 52 #[pP, .string (bs word)] [Cl pP [vl pa0 pk0 p.l, vi p.at_, vi p.Err], S pa0 pk0 p.l] (fun g : Unit => True) (fun g => vb rr) (fun g => [Cl pP [vl pa0 pk0 p.l, vi p.at_, vi p.Err]]) := by
 refine FTi Tryz.func52 fun w0 M0 F0 => ?_
 unfold i64ok at hp_1 hp_2
 refine Fb 40 1 fun _ => KS ?_
 refine Oq Va (KS ?_)
 refine Jp 0 fun hp2 => ?_
 refine bool_split (p.Err == 0) ?_ ?_
 ·intro h3
  have g4 := eq_of_beq h3
  refine bool_split (decide (p.at_ < (p.l.length : Int))) ?_ ?_
  ·intro h5
   have g6 := dt h5
   refine JJ_peek_GToken p.at_.toNat 2 rfl rng fun hb7 hb8 hb9 hb10 => ?_
   unfold i64ok at hb7 hb9 hb10
   refine Kq [0, 1, 3, 7, 15, 31, 63, 127, 255, 511, 63, 1087, 3135, 7231, 15423, 32767, 65535, 131071, 262143, 524287, 1048575, 2097151, 262143, 4456447, 12845055, 29622271, 67108863, 134217727, 268435455, 536870911, 1073741823, 2147483647, 4294967295, 8589934591, 17179869183, 34359738367, 4294967295, 73014444031, 210453397503, 485331304447, 1099511627775, 2199023255551, 4398046511103, 4294967295, 17592186044415, 35184372088831, 70368744177663] fmix ?_
   refine Qv [] Vm (Qv [1] (Vn 0) (Qv [1] (Vfa fo100_2 0) (Qv [2] (VldF sh42 0) (Qb h3 [] Veql (Qv [] Vm (Qv [] Vm (Qv [1] (Vn 0) (Qv [1] (Vfa fo100_1 0) (Qv [2] (VldF sh3 0) ?_)))))))))
   refine Qv [] Vm (Qv [1] (Vn 0) (Qv [1] (Vfa fo100_0 0) (Qv [2] (VldF sh95 0) (Qv [] (Vlen sl95) (Qb h5 [] Vlss (Qv [] Vpt (Qv [] Vm (Qv [] Vm (Qv [1] (Vn 0) ?_)))))))))
   refine Qv [1] (Vfa fo100_0 0) (Qv [2] (VldF sh95 0) (Qv [] Vm (Qv [1] (Vn 0) (Qv [1] (Vfa fo100_1 0) (Qv [2] (VldF sh3 0) (Qv [3] (Vi sl95 0) (Qv [0] (Vfa fo105_0 0) (Qv [0] (VldF sh3 0) (Qv [] Veql ?_)))))))))
   refine Qv [] Vpt ?_
   refine bool_split ((p.l.getD p.at_.toNat default).Kind == 1) ?_ ?_
   ·intro h11
    have g12 := eq_of_beq h11
    refine Qb h11 [] Vm (Qv [] Vm (Qv [1] (Vn 0) (Qv [1] (Vfa fo100_0 0) (Qv [2] (VldF sh95 0) (Qv [] Vm (Qv [1] (Vn 0) (Qv [1] (Vfa fo100_1 0) (Qv [2] (VldF sh3 0) (Qv [3] (Vi sl95 0) ?_)))))))))
    refine Qv [0] (Vfa fo105_1 0) (Qv [0] (VldF sh9 0) (Qv [] Vm (Qv [] (VeqS (l := (p.l.getD p.at_.toNat default).Text) (m := word)) (Qv [] Vpt (Qv [] Va ?_)))))
    refine Qn ⟨by kernel_rfl, ?_⟩
    have hq := q4 hrr ((p.l.getD p.at_.toNat default).Text == word) (by simp only [pz_is, h3, h5, h11, cs4]); subst hq
    exact Kr () rfl (.tmp rfl .nil) [2] trivial
   intro h11
   have g13 := ne_of_beq_false h11
   refine Qb h11 [] Vm (Qs (Qs (Qs (Qs (Qs (Qs (Qs (Qs (Qs ?_)))))))))
   refine Qs (Qs (Qs (Qs (Qv [] Vpf (Qv [] Va ?_)))))
   refine Qn ⟨by kernel_rfl, ?_⟩
   have hq := q4 hrr false (by simp only [pz_is, h3, h5, h11, cs4]); subst hq
   exact Kr () rfl (.tmp rfl .nil) [2] trivial
  intro h5
  have g14 := df h5
  refine Kq [0, 1, 3, 7, 15, 31, 63, 127, 255, 511, 63, 1087, 3135, 7231, 15423, 32767, 65535, 131071, 262143, 524287, 1048575, 2097151, 262143, 4456447, 12845055, 29622271, 67108863, 134217727, 268435455, 536870911, 1073741823, 2147483647, 4294967295, 8589934591, 17179869183, 34359738367, 4294967295, 73014444031, 210453397503, 485331304447, 1099511627775, 2199023255551, 4398046511103, 4294967295, 17592186044415, 35184372088831, 70368744177663] fmix ?_
  refine Qv [] Vm (Qv [0] (Vn 0) (Qv [0] (Vfa fo100_2 0) (Qv [1] (VldF sh42 0) (Qb h3 [] Veql (Qv [] Vm (Qv [] Vm (Qv [0] (Vn 0) (Qv [0] (Vfa fo100_1 0) (Qv [1] (VldF sh3 0) ?_)))))))))
  refine Qv [] Vm (Qv [0] (Vn 0) (Qv [0] (Vfa fo100_0 0) (Qv [1] (VldF sh95 0) (Qv [] (Vlen sl95) (Qb h5 [] Vlss (Qv [] Vpt (Qv [] Vm (Qs (Qs ?_)))))))))
  refine Qs (Qs (Qs (Qs (Qs (Qs (Qs (Qs (Qs (Qs ?_)))))))))
  refine Qv [] Vpf (Qv [] Vm (Qs (Qs (Qs (Qs (Qs (Qs (Qs (Qs ?_)))))))))
  refine Qs (Qs (Qs (Qs (Qs (Qv [] Vpf (Qv [] Va ?_))))))
  refine Qn ⟨by kernel_rfl, ?_⟩
  have hq := q4 hrr false (by simp only [pz_is, h3, h5, cs4]); subst hq
  exact Kr () rfl (.tmp rfl .nil) [1] trivial
 intro h3
 have g15 := ne_of_beq_false h3
 refine Kq [0, 1, 3, 7, 15, 31, 63, 127, 255, 511, 63, 1087, 3135, 7231, 15423, 32767, 65535, 131071, 262143, 524287, 1048575, 2097151, 262143, 4456447, 12845055, 29622271, 67108863, 134217727, 268435455, 536870911, 1073741823, 2147483647, 4294967295, 8589934591, 17179869183, 34359738367, 4294967295, 73014444031, 210453397503, 485331304447, 1099511627775, 2199023255551, 4398046511103, 4294967295, 17592186044415, 35184372088831, 70368744177663] fmix ?_
 refine Qv [] Vm (Qv [0] (Vn 0) (Qv [0] (Vfa fo100_2 0) (Qv [1] (VldF sh42 0) (Qb h3 [] Veql (Qv [] Vm (Qs (Qs (Qs (Qs ?_)))))))))
 refine Qs (Qs (Qs (Qs (Qs (Qs (Qv [] Vpf (Qv [] Vm (Qs (Qs ?_)))))))))
 refine Qs (Qs (Qs (Qs (Qs (Qs (Qs (Qs (Qs (Qs ?_)))))))))
 refine Qv [] Vpf (Qv [] Vm (Qs (Qs (Qs (Qs (Qs (Qs (Qs (Qs ?_)))))))))
 refine Qs (Qs (Qs (Qs (Qs (Qv [] Vpf (Qv [] Va ?_))))))
 refine Qn ⟨by kernel_rfl, ?_⟩
 have hq := q4 hrr false (by simp only [pz_is, h3, cs4]); subst hq
 exact Kr () rfl (.tmp rfl .nil) [1] trivial
theorem fn53 (pP : Value) (p : Gparser) (pa0 : Option Addr) (pk0 : Nat) (e : Int) (hp_1 : i64ok p.at_) (hp_2 : i64ok p.Err) (he_0 : i64ok e) (hpa : (0 ≤ p.at_ ∧ p.at_ ≤ (p.l.length : Int))) (rr : Gparser) (hrr : pz_fail p e = rr) : FT Tryz.prog 53 #[pP, vi e] [Cl pP [vl pa0 pk0 p.l, vi p.at_, vi p.Err], S pa0 pk0 p.l] (fun g : Unit => i64ok rr.at_ ∧ i64ok rr.Err ∧ (0 ≤ rr.at_ ∧ rr.at_ ≤ (p.l.length : Int))) (fun g => .tuple #[]) (fun g => [Cl pP [vl pa0 pk0 p.l, vi rr.at_, vi rr.Err]]) := by
 refine FTi Tryz.func53 fun w0 M0 F0 => ?_
 unfold i64ok at hp_1 hp_2 he_0
 refine Fb 40 1 fun _ => KS ?_
 refine Oq Vm (Oq (Vn 0) (Oq (Vfa fo100_2 0) (Oq (VldF sh42 0) (Oq Veql (KS ?_)))))
 refine Kc ?_ ?_
 ·intro h2
  have g3 := eq_of_beq h2
  refine KS ?_
  refine Oq Vm (Oq Vm (Oq (Vn 0) (Oq (Vfa fo100_2 0) (Ost (SclF [0] sh42 [vl pa0 pk0 p.l, vi p.at_, vi e]) (KS ?_)))))
  have hq := q4 hrr (Gparser.mk p.l p.at_ e) (by simp only [pz_fail, h2, cs4]); subst hq
  exact Kz () rfl .nil [0] en
 intro h2
 have g4 := ne_of_beq_false h2
 refine KS ?_
 have hq := q4 hrr p (by simp only [pz_fail, h2, cs4]); subst hq
 exact Kz () rfl .nil [0] en
theorem fn84 (pP : Value) (p : Gparser) (pa0 : Option Addr) (pk0 : Nat) (w : Str) (hp_1 : i64ok p.at_) (hp_2 : i64ok p.Err) (hw_0 : w.b.length ≤ 140737488355328) (hpa : (0 ≤ p.at_ ∧ p.at_ ≤ (p.l.length : Int))) (rr : Gparser) (hrr : pz_word p w = rr) : FT Tryz.prog 84 #[pP, .string (bs w)] [Cl pP [vl pa0 pk0 p.l, vi p.at_, vi p.Err], S pa0 pk0 p.l] (fun g : Unit => i64ok rr.at_ ∧ i64ok rr.Err ∧ (0 ≤ rr.at_ ∧ rr.at_ ≤ (p.l.length : Int))) (fun g => .tuple #[]) (fun g => [Cl pP [vl pa0 pk0 p.l, vi rr.at_, vi rr.Err]]) := by
 refine FTi Tryz.func84 fun w0 M0 F0 => ?_
 unfold i64ok at hp_1 hp_2
 refine Fb 40 1 fun _ => KS ?_
 refine Oq Vm (Oq Vm ?_)
 refine letv (pz_is p w) fun rv2 hg3 => ?_
 have hc4 := fn52 pP p pa0 pk0 w pre pre pre pre rv2 hg3
 refine Oc [0, 0] ca52 hc4 ?_
 rintro - -
 refine Oq Vnot (KS ?_)
 refine Kc ?_ ?_
 ·intro h5
  have h7 := not_true h5
  refine KS ?_
  refine Oq Vm ?_
  refine letv (pz_fail p 4) fun rv9 hg10 => ?_
  have hc11 := fn53 pP p pa0 pk0 4 pre pre pre pre rv9 hg10
  refine Oc [0, 0] ca53 hc11 ?_
  rintro - ⟨he12, he13, he14⟩
  unfold i64ok at he12 he13
  refine KS ?_
  have hq := q4 hrr (Gparser.mk p.l rv9.at_ rv9.Err) (by simp only [pz_word, h5, h7, hg3, hg10, cs4]); subst hq
  exact Kr () rfl .nil [0] en
 intro h5
 have h16 := not_false h5
 try (have hlt := is_lt2 (by assumption : pz_is _ _ = rv2) h16; try dsimp only at hlt)
 try (have hlt := isName_lt2 (by assumption : pz_isName _ = rv2) h16; try dsimp only at hlt)
 try (have hlt := isKind_lt2 (by assumption : pz_isKind _ _ = rv2) h16; try dsimp only at hlt)
 refine KS ?_
 refine Oq Vm (Oq (Vn 0) (Oq (Vfa fo100_1 0) (Oq (VldF sh3 0) (Oq Vadd (Oq (Vn 0) (Oq (Vfa fo100_1 0) (Ost (SclF [0] sh3 [vl pa0 pk0 p.l, vi (p.at_ + 1), vi p.Err]) (KS ?_))))))))
 have hq := q4 hrr (Gparser.mk p.l (p.at_ + 1) p.Err) (by simp only [pz_word, h5, h16, hg3, cs4]); subst hq
 exact Kz () rfl .nil [0] en
theorem fn136  (rr : List Str) (hrr : r4_Keywords = rr) : FT Tryz.prog 136 #[] [] (fun g : Value => True) (fun g => g) (fun g => [sl g rr]) := by
 refine FTi Tryz.func136 fun w0 M0 F0 => ?_
 refine KS ?_
 refine Oq Va (KS ?_)
 refine Oa (AsV sl51 sz51 [.string (bs (Str.mk [102, 117, 110, 99])), .string (bs (Str.mk [98, 108, 111, 99, 107])), .string (bs (Str.mk [101, 110, 100])), .string (bs (Str.mk [117, 115, 101])), .string (bs (Str.mk [99, 97, 108, 108])), .string (bs (Str.mk [115, 111, 117, 114, 99, 101])), .string (bs (Str.mk [115, 105, 110, 107])), .string (bs (Str.mk [115, 97, 110, 105, 116, 105, 122, 101])), .string (bs (Str.mk [103, 111, 116, 111])), .string (bs (Str.mk [98, 114, 97, 110, 99, 104])), .string (bs (Str.mk [114, 101, 116, 117, 114, 110]))] [.string (bs (Str.mk [102, 117, 110, 99])), .string (bs (Str.mk [98, 108, 111, 99, 107])), .string (bs (Str.mk [101, 110, 100])), .string (bs (Str.mk [117, 115, 101])), .string (bs (Str.mk [99, 97, 108, 108])), .string (bs (Str.mk [115, 111, 117, 114, 99, 101])), .string (bs (Str.mk [115, 105, 110, 107])), .string (bs (Str.mk [115, 97, 110, 105, 116, 105, 122, 101])), .string (bs (Str.mk [103, 111, 116, 111])), .string (bs (Str.mk [98, 114, 97, 110, 99, 104])), .string (bs (Str.mk [114, 101, 116, 117, 114, 110]))]) fun c1 => ?_
 refine Jo 0 ?_; rintro a2 k3 rfl
 refine Oq Va (KS ?_)
 refine Jl [0] (Ent.crOs (α := Str) (A := []) _ ([(Str.mk [102, 117, 110, 99]), (Str.mk [98, 108, 111, 99, 107]), (Str.mk [101, 110, 100]), (Str.mk [117, 115, 101]), (Str.mk [99, 97, 108, 108]), (Str.mk [115, 111, 117, 114, 99, 101]), (Str.mk [115, 105, 110, 107]), (Str.mk [115, 97, 110, 105, 116, 105, 122, 101]), (Str.mk [103, 111, 116, 111]), (Str.mk [98, 114, 97, 110, 99, 104]), (Str.mk [114, 101, 116, 117, 114, 110])] : List Str) _ aB1 (fun h => ⟨[.string (bs (Str.mk [102, 117, 110, 99]))], [.string (bs (Str.mk [98, 108, 111, 99, 107])), .string (bs (Str.mk [101, 110, 100])), .string (bs (Str.mk [117, 115, 101])), .string (bs (Str.mk [99, 97, 108, 108])), .string (bs (Str.mk [115, 111, 117, 114, 99, 101])), .string (bs (Str.mk [115, 105, 110, 107])), .string (bs (Str.mk [115, 97, 110, 105, 116, 105, 122, 101])), .string (bs (Str.mk [103, 111, 116, 111])), .string (bs (Str.mk [98, 114, 97, 110, 99, 104])), .string (bs (Str.mk [114, 101, 116, 117, 114, 110]))], rfl, (fun _ => ⟨rfl, by first | omega | (simp; done) | (dsimp only; omega) | exact lit_bl rfl⟩) h, ⟨[.string (bs (Str.mk [98, 108, 111, 99, 107]))], [.string (bs (Str.mk [101, 110, 100])), .string (bs (Str.mk [117, 115, 101])), .string (bs (Str.mk [99, 97, 108, 108])), .string (bs (Str.mk [115, 111, 117, 114, 99, 101])), .string (bs (Str.mk [115, 105, 110, 107])), .string (bs (Str.mk [115, 97, 110, 105, 116, 105, 122, 101])), .string (bs (Str.mk [103, 111, 116, 111])), .string (bs (Str.mk [98, 114, 97, 110, 99, 104])), .string (bs (Str.mk [114, 101, 116, 117, 114, 110]))], rfl, (fun _ => ⟨rfl, by first | omega | (simp; done) | (dsimp only; omega) | exact lit_bl rfl⟩) h, ⟨[.string (bs (Str.mk [101, 110, 100]))], [.string (bs (Str.mk [117, 115, 101])), .string (bs (Str.mk [99, 97, 108, 108])), .string (bs (Str.mk [115, 111, 117, 114, 99, 101])), .string (bs (Str.mk [115, 105, 110, 107])), .string (bs (Str.mk [115, 97, 110, 105, 116, 105, 122, 101])), .string (bs (Str.mk [103, 111, 116, 111])), .string (bs (Str.mk [98, 114, 97, 110, 99, 104])), .string (bs (Str.mk [114, 101, 116, 117, 114, 110]))], rfl, (fun _ => ⟨rfl, by first | omega | (simp; done) | (dsimp only; omega) | exact lit_bl rfl⟩) h, ⟨[.string (bs (Str.mk [117, 115, 101]))], [.string (bs (Str.mk [99, 97, 108, 108])), .string (bs (Str.mk [115, 111, 117, 114, 99, 101])), .string (bs (Str.mk [115, 105, 110, 107])), .string (bs (Str.mk [115, 97, 110, 105, 116, 105, 122, 101])), .string (bs (Str.mk [103, 111, 116, 111])), .string (bs (Str.mk [98, 114, 97, 110, 99, 104])), .string (bs (Str.mk [114, 101, 116, 117, 114, 110]))], rfl, (fun _ => ⟨rfl, by first | omega | (simp; done) | (dsimp only; omega) | exact lit_bl rfl⟩) h, ⟨[.string (bs (Str.mk [99, 97, 108, 108]))], [.string (bs (Str.mk [115, 111, 117, 114, 99, 101])), .string (bs (Str.mk [115, 105, 110, 107])), .string (bs (Str.mk [115, 97, 110, 105, 116, 105, 122, 101])), .string (bs (Str.mk [103, 111, 116, 111])), .string (bs (Str.mk [98, 114, 97, 110, 99, 104])), .string (bs (Str.mk [114, 101, 116, 117, 114, 110]))], rfl, (fun _ => ⟨rfl, by first | omega | (simp; done) | (dsimp only; omega) | exact lit_bl rfl⟩) h, ⟨[.string (bs (Str.mk [115, 111, 117, 114, 99, 101]))], [.string (bs (Str.mk [115, 105, 110, 107])), .string (bs (Str.mk [115, 97, 110, 105, 116, 105, 122, 101])), .string (bs (Str.mk [103, 111, 116, 111])), .string (bs (Str.mk [98, 114, 97, 110, 99, 104])), .string (bs (Str.mk [114, 101, 116, 117, 114, 110]))], rfl, (fun _ => ⟨rfl, by first | omega | (simp; done) | (dsimp only; omega) | exact lit_bl rfl⟩) h, ⟨[.string (bs (Str.mk [115, 105, 110, 107]))], [.string (bs (Str.mk [115, 97, 110, 105, 116, 105, 122, 101])), .string (bs (Str.mk [103, 111, 116, 111])), .string (bs (Str.mk [98, 114, 97, 110, 99, 104])), .string (bs (Str.mk [114, 101, 116, 117, 114, 110]))], rfl, (fun _ => ⟨rfl, by first | omega | (simp; done) | (dsimp only; omega) | exact lit_bl rfl⟩) h, ⟨[.string (bs (Str.mk [115, 97, 110, 105, 116, 105, 122, 101]))], [.string (bs (Str.mk [103, 111, 116, 111])), .string (bs (Str.mk [98, 114, 97, 110, 99, 104])), .string (bs (Str.mk [114, 101, 116, 117, 114, 110]))], rfl, (fun _ => ⟨rfl, by first | omega | (simp; done) | (dsimp only; omega) | exact lit_bl rfl⟩) h, ⟨[.string (bs (Str.mk [103, 111, 116, 111]))], [.string (bs (Str.mk [98, 114, 97, 110, 99, 104])), .string (bs (Str.mk [114, 101, 116, 117, 114, 110]))], rfl, (fun _ => ⟨rfl, by first | omega | (simp; done) | (dsimp only; omega) | exact lit_bl rfl⟩) h, ⟨[.string (bs (Str.mk [98, 114, 97, 110, 99, 104]))], [.string (bs (Str.mk [114, 101, 116, 117, 114, 110]))], rfl, (fun _ => ⟨rfl, by first | omega | (simp; done) | (dsimp only; omega) | exact lit_bl rfl⟩) h, ⟨[.string (bs (Str.mk [114, 101, 116, 117, 114, 110]))], [], rfl, (fun _ => ⟨rfl, by first | omega | (simp; done) | (dsimp only; omega) | exact lit_bl rfl⟩) h, rfl⟩⟩⟩⟩⟩⟩⟩⟩⟩⟩⟩)) ?_
 refine Jl [0] (Ent.freeze _ _) ?_
 have hq := q4 hrr [(Str.mk [102, 117, 110, 99]), (Str.mk [98, 108, 111, 99, 107]), (Str.mk [101, 110, 100]), (Str.mk [117, 115, 101]), (Str.mk [99, 97, 108, 108]), (Str.mk [115, 111, 117, 114, 99, 101]), (Str.mk [115, 105, 110, 107]), (Str.mk [115, 97, 110, 105, 116, 105, 122, 101]), (Str.mk [103, 111, 116, 111]), (Str.mk [98, 114, 97, 110, 99, 104]), (Str.mk [114, 101, 116, 117, 114, 110])] (by simp only [r4_Keywords, cs4]); subst hq
 exact Kr (.slice a2 11 k3) rfl (.tmp rfl .nil) [0] trivial
theorem fn114 (s : Str) (hs_0 : s.b.length ≤ 140737488355328) (rr : Bool) (hrr : r4_IsName s = rr) : FT Tryz.prog 114 #[.string (bs s)] [] (fun g : Unit => True) (fun g => vb rr) (fun g => []) := by
 refine FTi Tryz.func114 fun w0 M0 F0 => ?_
 refine KS ?_
 refine Oq Va (KS ?_)
 refine Oq Vm (Oq (VlS un9 (l := s)) (Oq Veql (Oq Vm ?_)))
 refine Js 9 ?_ ?_
 ·intro h1
  have g2 := eq_of_beq h1
  refine Osk (Osk (Osk (Oq Vpt (Oq Vm (Osk (Osk (Osk (Osk (Oq Vpt ?_)))))))))
  refine Oq Vm (Osk (Osk (Osk (Oq Vpt (KS ?_)))))
  refine Kt (KS ?_)
  refine Oq Va (KS ?_)
  have hq := q4 hrr false (by simp only [r4_IsName, h1, cs4]); subst hq
  exact Kr () rfl (.tmp rfl .nil) [] trivial
 intro h1
 have g3 := ne_of_beq_false h1
 refine Oq Vm (Oq (VlS un9 (l := s)) (Oq Vgtr (Oq Vpf (Oq Vm ?_))))
 refine Js 14 ?_ ?_
 ·intro h4
  have g5 := dt h4
  refine Osk (Osk (Osk (Osk (Oq Vpt (Oq Vm (Osk (Osk (Osk (Oq Vpt ?_)))))))))
  refine KS ?_
  refine Kt (KS ?_)
  refine Oq Va (KS ?_)
  have hq := q4 hrr false (by simp only [r4_IsName, h1, h4, cs4]); subst hq
  exact Kr () rfl (.tmp rfl .nil) [] trivial
 intro h4
 have g6 := df h4
 refine Oq Vm (Oq (Vix un9 (l := s)) ?_)
 have hb7 := u8b (s.b.getD (0 : Int).toNat 0)
 refine letv (r4_letter ((s.b.getD (0 : Int).toNat 0).toNat : Int)) fun rv8 hg9 => ?_
 have hc10 := fn82 (((s.b.getD (0 : Int).toNat 0).toNat : Int)) pre rv8 hg9
 refine Oc [] ca82 hc10 ?_
 rintro - -
 refine Oq Vnot (Oq Vpf (Oq Vm ?_))
 refine Js 20 ?_ ?_
 ·intro h11
  have h13 := not_true h11
  refine Osk (Osk (Osk (Oq Vpt (KS ?_))))
  refine Kt (KS ?_)
  refine Oq Va (KS ?_)
  have hq := q4 hrr false (by simp only [r4_IsName, h1, h4, h11, h13, hg9, cs4]); subst hq
  exact Kr () rfl (.tmp rfl .nil) [] trivial
 intro h11
 have h16 := not_false h11
 refine Oq Vm (Oq (Vix un9 (l := s)) ?_)
 have hb18 := u8b (s.b.getD (0 : Int).toNat 0)
 refine Oq Veql (Oq Vpf (KS ?_))
 refine Kc ?_ ?_
 ·intro h19
  have g20 := eq_of_beq h19
  refine KS ?_
  refine Oq Va (KS ?_)
  have hq := q4 hrr false (by simp only [r4_IsName, h1, h4, h11, h16, h19, hg9, cs4]); subst hq
  exact Kr () rfl (.tmp rfl .nil) [] trivial
 intro h19
 have g21 := ne_of_beq_false h19
 refine KS ?_
 refine Oq Va (KS ?_)
 refine Kl (γ := Nat × Int) (fun (r22, i_23) => ⟨[(0, .string (bs s)), (3, vi i_23)], [], r4_IsName_L0 s r22 i_23 = r4_IsName_L0 s (((s.b.length : Int) - 0).toNat) 0 ∧ r22 = ((s.b.length : Int) - i_23).toNat ∧ (0 : Int) ≤ i_23 ∧ i_23 ≤ (s.b.length : Int) ∧ (-9223372036854775808 ≤ i_23 ∧ i_23 ≤ 9223372036854775807), r22⟩) (((s.b.length : Int) - 0).toNat, 0) [] ⟨rfl, rfl, aM1, aM1, aM1⟩ ?_
 rintro ⟨r22, i_23⟩ ⟨hM24, hr25, hi26, hi27, hk28⟩
 refine JJ_nx fun _ _ hL hA => ?_; dsimp only at hL hA; subst hL hA
 refine KS ?_
 refine Oq Vm (Oq Vm (Oq (VlS un9 (l := s)) (Oq Vlss (KS ?_))))
 refine Kc ?_ ?_
 ·intro h29
  have g30 := dt h29
  obtain ⟨r31, rfl⟩ := scc (n := r22) aM1
  refine KS ?_
  refine Oq Vm (Oq Vm (Oq (Vix un9 (l := s)) ?_))
  have hb32 := u8b (s.b.getD i_23.toNat 0)
  refine letv (r4_letter ((s.b.getD i_23.toNat 0).toNat : Int)) fun rv33 hg34 => ?_
  have hc35 := fn82 (((s.b.getD i_23.toNat 0).toNat : Int)) pre rv33 hg34
  refine Oc [] ca82 hc35 ?_
  rintro - -
  refine Oq Vnot (Oq Vm ?_)
  refine Js 36 ?_ ?_
  ·intro h36
   have h38 := not_true h36
   refine Oq Vm (Oq Vm (Oq (Vix un9 (l := s)) ?_))
   have hb40 := u8b (s.b.getD i_23.toNat 0)
   refine letv (r4_digit ((s.b.getD i_23.toNat 0).toNat : Int)) fun rv41 hg42 => ?_
   have hc43 := fn83 (((s.b.getD i_23.toNat 0).toNat : Int)) pre rv41 hg42
   refine Oc [] ca83 hc43 ?_
   rintro - -
   refine Oq Vnot (Oq Vpt (KS ?_))
   refine Kc ?_ ?_
   ·intro h44
    have h46 := not_true h44
    refine KS ?_
    refine Oq Va (KS ?_)
    have hR48 := q2 hM24 (.ret false) (by simp only [r4_IsName_L0, h29, h36, h38, h44, h46, hg34, hg42, cs4])
    have hq := q4 hrr false (by simp only [r4_IsName, h1, h4, h11, h16, h19, h29, h36, h38, h44, h46, hg9, hg34, hg42, hR48, cs4]); subst hq
    exact Kr () rfl (.tmp rfl .nil) [] trivial
   intro h44
   have h50 := not_false h44
   refine KS ?_
   refine Oq Vm (Oq Vadd (Oq Va (KS ?_)))
   exact Kg (r31, (i_23 + 1)) [] ⟨(q3 hM24 (by simp only [r4_IsName_L0, h29, h36, h38, h44, h50, hg34, hg42, cs4])), aM1, aM1, aM1, aM1⟩
  intro h36
  have h53 := not_false h36
  refine Osk (Osk (Osk (Osk (Osk (Oq Vpf (KS ?_))))))
  refine Kf (KS ?_)
  refine Oq Vm (Oq Vadd (Oq Va (KS ?_)))
  exact Kg (r31, (i_23 + 1)) [] ⟨(q3 hM24 (by simp only [r4_IsName_L0, h29, h36, h53, hg34, cs4])), aM1, aM1, aM1, aM1⟩
 intro h29
 have g55 := df h29
 obtain rfl : r22 = 0 := by omega
 refine Ke ?_
 have hR56 := q2 hM24 (.brk ()) (by simp only [r4_IsName_L0, h29, cs4])
 refine KS ?_
 have hc58 := fn136  r4_Keywords rfl
 refine Oc [] ca136 hc58 ?_
 rintro c57 -
 refine Jo 0 ?_; rintro a59 k60 rfl
 refine Fb 16 0 fun _ => ?_
 refine FoS 0 fun ho62 => ?_
 refine Oq Va (KS ?_)
 refine Oq Va (KS ?_)
 refine Kl (γ := Nat × Int) (fun (r63, i_64) => ⟨[(0, .string (bs s)), (4, vl a59 k60 r4_Keywords), (5, vi i_64)], [S a59 k60 r4_Keywords], r4_IsName_L1 s r63 i_64 = r4_IsName_L1 s (((r4_Keywords.length : Int) - 0).toNat) 0 ∧ r63 = ((r4_Keywords.length : Int) - i_64).toNat ∧ (0 : Int) ≤ i_64 ∧ i_64 ≤ (r4_Keywords.length : Int) ∧ (-9223372036854775808 ≤ i_64 ∧ i_64 ≤ 9223372036854775807), r63⟩) (((r4_Keywords.length : Int) - 0).toNat, 0) [0] ⟨rfl, rfl, aM1, aM1, aM1⟩ ?_
 rintro ⟨r63, i_64⟩ ⟨hM65, hr66, hi67, hi68, hk69⟩
 refine JJ_nx fun _ _ hL hA => ?_; dsimp only at hL hA; subst hL hA
 refine Fb 16 0 fun _ => ?_
 refine FoS 0 fun ho71 => ?_
 refine KS ?_
 refine Oq Vm (Oq Vm (Oq (Vlen sl51) (Oq Vlss (KS ?_))))
 refine Kc ?_ ?_
 ·intro h72
  have g73 := dt h72
  obtain ⟨r74, rfl⟩ := scc (n := r63) aM1
  refine KS ?_
  refine Oq Vm (Oq Vm (Oq (Vi sl51 0) ?_))
  have hb75 := okS (i := i_64.toNat) ho71 rng
  refine Oq (VldS sh9 0) (Oq Vm (Oq (VeqS (l := (r4_Keywords.getD i_64.toNat default)) (m := s)) (KS ?_)))
  refine Kc ?_ ?_
  ·intro h76
   have g77 := eq_of_beq h76
   refine KS ?_
   refine Oq Va (KS ?_)
   have hR78 := q2 hM65 (.ret false) (by simp only [r4_IsName_L1, h72, h76, cs4])
   have hq := q4 hrr false (by simp only [r4_IsName, h1, h4, h11, h16, h19, h29, h72, h76, hg9, hR56, hR78, cs4]); subst hq
   exact Kr () rfl (.tmp rfl .nil) [] trivial
  intro h76
  have g79 := ne_of_beq_false h76
  refine KS ?_
  refine Oq Vm (Oq Vadd (Oq Va (KS ?_)))
  exact Kg (r74, (i_64 + 1)) [0] ⟨(q3 hM65 (by simp only [r4_IsName_L1, h72, h76, cs4])), aM1, aM1, aM1, aM1⟩
 intro h72
 have g80 := df h72
 obtain rfl : r63 = 0 := by omega
 refine Ke ?_
 have hR81 := q2 hM65 (.brk ()) (by simp only [r4_IsName_L1, h72, cs4])
 refine KS ?_
 refine Oq Va (KS ?_)
 have hq := q4 hrr true (by simp only [r4_IsName, h1, h4, h11, h16, h19, h29, h72, hg9, hR56, hR81, cs4]); subst hq
 exact Kr () rfl (.tmp rfl .nil) [] trivial
theorem fn118 (pP : Value) (p : Gparser) (pa0 : Option Addr) (pk0 : Nat) (hp_1 : i64ok p.at_) (hp_2 : i64ok p.Err) (hpa : (0 ≤ p.at_ ∧ p.at_ ≤ (p.l.length : Int))) (rr : Bool) (hrr : pz_isName p = rr) : FT Tryz.prog 118 #[pP] [Cl pP [vl pa0 pk0 p.l, vi p.at_, vi p.Err], S pa0 pk0 p.l] (fun g : Unit => True) (fun g => vb rr) (fun g => [Cl pP [vl pa0 pk0 p.l, vi p.at_, vi p.Err]]) := by
 refine FTi Tryz.func118 fun w0 M0 F0 => ?_
 unfold i64ok at hp_1 hp_2
 refine Fb 40 1 fun _ => KS ?_
 refine Oq Va (KS ?_)
 refine Jp 0 fun hp2 => ?_
 refine bool_split (p.Err == 0) ?_ ?_
 ·intro h3
  have g4 := eq_of_beq h3
  refine bool_split (decide (p.at_ < (p.l.length : Int))) ?_ ?_
  ·intro h5
   have g6 := dt h5
   refine JJ_peek_GToken p.at_.toNat 2 rfl rng fun hb7 hb8 hb9 hb10 => ?_
   unfold i64ok at hb7 hb9 hb10
   refine JK_drawK [0, 1, 3, 7, 15, 31, 63, 127, 255, 511, 63, 1087, 3135, 7231, 15423, 32767, 65535, 131071, 262143, 524287, 1048575, 2097151, 262143, 4456447, 12845055, 29622271, 67108863, 134217727, 268435455, 536870911, 1073741823, 2147483647, 4294967295, 8589934591, 17179869183, 34359738367, 4294967295, 73014444031, 210453397503, 485331304447, 1099511627775, 2199023255551, 4398046511103, 8796093022207, 17592186044415, 35184372088831] fmix ?_
   refine Dv [] Vm (Dv [1] (Vn 0) (Dv [1] (Vfa fo100_2 0) (Dv [2] (VldF sh42 0) (Db h3 [] Veql (Dv [] Vm (Dv [] Vm (Dv [1] (Vn 0) (Dv [1] (Vfa fo100_1 0) (Dv [2] (VldF sh3 0) ?_)))))))))
   refine Dv [] Vm (Dv [1] (Vn 0) (Dv [1] (Vfa fo100_0 0) (Dv [2] (VldF sh95 0) (Dv [] (Vlen sl95) (Db h5 [] Vlss (Dv [] Vpt (Dv [] Vm (Dv [] Vm (Dv [1] (Vn 0) ?_)))))))))
   refine Dv [1] (Vfa fo100_0 0) (Dv [2] (VldF sh95 0) (Dv [] Vm (Dv [1] (Vn 0) (Dv [1] (Vfa fo100_1 0) (Dv [2] (VldF sh3 0) (Dv [3] (Vi sl95 0) (Dv [0] (Vfa fo105_0 0) (Dv [0] (VldF sh3 0) (Dv [] Veql ?_)))))))))
   refine Dv [] Vpt ?_
   refine bool_split ((p.l.getD p.at_.toNat default).Kind == 1) ?_ ?_
   ·intro h11
    have g12 := eq_of_beq h11
    refine Db h11 [] Vm (Dv [] Vm (Dv [1] (Vn 0) (Dv [1] (Vfa fo100_0 0) (Dv [2] (VldF sh95 0) (Dv [] Vm (Dv [1] (Vn 0) (Dv [1] (Vfa fo100_1 0) (Dv [2] (VldF sh3 0) (Dv [3] (Vi sl95 0) ?_)))))))))
    refine Dv [0] (Vfa fo105_1 0) (Dv [0] (VldF sh9 0) ?_)
    refine letv (r4_IsName ((p.l.getD p.at_.toNat default).Text)) fun rv13 hg14 => ?_
    refine Dx [] [] [0] (fun G => vb rv13) [fun G => SP.fact (True)] (fun G => xC [] ca114 (fn114 ((p.l.getD p.at_.toNat default).Text) pre rv13 hg14)) (Dv [] Vpt (Dv [] Va ?_))
    refine Dn ⟨by kernel_rfl, fun G => ?_⟩
    refine Jw2 [(2, vb rv13)] [0, 1, 2, 3] [SP.fact (True)] ?_
    refine Jk [0, 2, 2] ?_
    have hq := q4 hrr rv13 (by simp only [pz_isName, h3, h5, h11, hg14, cs4]); subst hq
    exact Kr () rfl (.tmp rfl .nil) [1] trivial
   intro h11
   have g15 := ne_of_beq_false h11
   refine Db h11 [] Vm (Ds (Ds (Ds (Ds (Ds (Ds (Ds (Ds (Ds ?_)))))))))
   refine Ds (Ds (Ds (Dv [] Vpf (Dv [] Va ?_))))
   refine Dn ⟨by kernel_rfl, fun G => ?_⟩
   refine Jw2 [(2, vb false)] [0, 1, 2, 3] [] ?_
   refine Jk [0, 2, 2] ?_
   have hq := q4 hrr false (by simp only [pz_isName, h3, h5, h11, cs4]); subst hq
   exact Kr () rfl (.tmp rfl .nil) [1] trivial
  intro h5
  have g16 := df h5
  refine Kq [0, 1, 3, 7, 15, 31, 63, 127, 255, 511, 63, 1087, 3135, 7231, 15423, 32767, 65535, 131071, 262143, 524287, 1048575, 2097151, 262143, 4456447, 12845055, 29622271, 67108863, 134217727, 268435455, 536870911, 1073741823, 2147483647, 4294967295, 8589934591, 17179869183, 34359738367, 4294967295, 73014444031, 210453397503, 485331304447, 1099511627775, 2199023255551, 4398046511103, 8796093022207, 17592186044415, 35184372088831] fmix ?_
  refine Qv [] Vm (Qv [0] (Vn 0) (Qv [0] (Vfa fo100_2 0) (Qv [1] (VldF sh42 0) (Qb h3 [] Veql (Qv [] Vm (Qv [] Vm (Qv [0] (Vn 0) (Qv [0] (Vfa fo100_1 0) (Qv [1] (VldF sh3 0) ?_)))))))))
  refine Qv [] Vm (Qv [0] (Vn 0) (Qv [0] (Vfa fo100_0 0) (Qv [1] (VldF sh95 0) (Qv [] (Vlen sl95) (Qb h5 [] Vlss (Qv [] Vpt (Qv [] Vm (Qs (Qs ?_)))))))))
  refine Qs (Qs (Qs (Qs (Qs (Qs (Qs (Qs (Qs (Qs ?_)))))))))
  refine Qv [] Vpf (Qv [] Vm (Qs (Qs (Qs (Qs (Qs (Qs (Qs (Qs ?_)))))))))
  refine Qs (Qs (Qs (Qs (Qv [] Vpf (Qv [] Va ?_)))))
  refine Qn ⟨by kernel_rfl, ?_⟩
  have hq := q4 hrr false (by simp only [pz_isName, h3, h5, cs4]); subst hq
  exact Kr () rfl (.tmp rfl .nil) [1] trivial
 intro h3
 have g17 := ne_of_beq_false h3
 refine Kq [0, 1, 3, 7, 15, 31, 63, 127, 255, 511, 63, 1087, 3135, 7231, 15423, 32767, 65535, 131071, 262143, 524287, 1048575, 2097151, 262143, 4456447, 12845055, 29622271, 67108863, 134217727, 268435455, 536870911, 1073741823, 2147483647, 4294967295, 8589934591, 17179869183, 34359738367, 4294967295, 73014444031, 210453397503, 485331304447, 1099511627775, 2199023255551, 4398046511103, 8796093022207, 17592186044415, 35184372088831] fmix ?_
 refine Qv [] Vm (Qv [0] (Vn 0) (Qv [0] (Vfa fo100_2 0) (Qv [1] (VldF sh42 0) (Qb h3 [] Veql (Qv [] Vm (Qs (Qs (Qs (Qs ?_)))))))))
 refine Qs (Qs (Qs (Qs (Qs (Qs (Qv [] Vpf (Qv [] Vm (Qs (Qs ?_)))))))))
 refine Qs (Qs (Qs (Qs (Qs (Qs (Qs (Qs (Qs (Qs ?_)))))))))
 refine Qv [] Vpf (Qv [] Vm (Qs (Qs (Qs (Qs (Qs (Qs (Qs (Qs ?_)))))))))
 refine Qs (Qs (Qs (Qs (Qv [] Vpf (Qv [] Va ?_)))))
 refine Qn ⟨by kernel_rfl, ?_⟩
 have hq := q4 hrr false (by simp only [pz_isName, h3, cs4]); subst hq
 exact Kr () rfl (.tmp rfl .nil) [1] trivial
theorem fn85 (pP : Value) (p : Gparser) (pa0 : Option Addr) (pk0 : Nat) (hp_1 : i64ok p.at_) (hp_2 : i64ok p.Err) (hpa : (0 ≤ p.at_ ∧ p.at_ ≤ (p.l.length : Int))) (rr : Str × Gparser) (hrr : pz_name p = rr) : FT Tryz.prog 85 #[pP] [Cl pP [vl pa0 pk0 p.l, vi p.at_, vi p.Err], S pa0 pk0 p.l] (fun g : Unit => rr.1.b.length ≤ 140737488355328 ∧ i64ok rr.2.at_ ∧ i64ok rr.2.Err ∧ (0 ≤ rr.2.at_ ∧ rr.2.at_ ≤ (p.l.length : Int))) (fun g => .string (bs rr.1)) (fun g => [Cl pP [vl pa0 pk0 p.l, vi rr.2.at_, vi rr.2.Err]]) := by
 refine FTi Tryz.func85 fun w0 M0 F0 => ?_
 unfold i64ok at hp_1 hp_2
 refine Fb 40 1 fun _ => KS ?_
 refine Oq Va (KS ?_)
 refine Oq Vm ?_
 refine letv (pz_isName p) fun rv2 hg3 => ?_
 have hc4 := fn118 pP p pa0 pk0 pre pre pre rv2 hg3
 refine Oc [0, 0] ca118 hc4 ?_
 rintro - -
 refine Oq Vnot (KS ?_)
 refine Kc ?_ ?_
 ·intro h5
  have h7 := not_true h5
  refine KS ?_
  refine Oq Vm ?_
  refine letv (pz_fail p 4) fun rv9 hg10 => ?_
  have hc11 := fn53 pP p pa0 pk0 4 pre pre pre pre rv9 hg10
  refine Oc [0, 0] ca53 hc11 ?_
  rintro - ⟨he12, he13, he14⟩
  unfold i64ok at he12 he13
  refine KS ?_
  refine Oq Va (KS ?_)
  have hq := q4 hrr ((Str.mk []), (Gparser.mk p.l rv9.at_ rv9.Err)) (by simp only [pz_name, h5, h7, hg3, hg10, cs4]); subst hq
  exact Kr () rfl (.tmp rfl .nil) [0] en
 intro h5
 have h16 := not_false h5
 try (have hlt := is_lt2 (by assumption : pz_is _ _ = rv2) h16; try dsimp only at hlt)
 try (have hlt := isName_lt2 (by assumption : pz_isName _ = rv2) h16; try dsimp only at hlt)
 try (have hlt := isKind_lt2 (by assumption : pz_isKind _ _ = rv2) h16; try dsimp only at hlt)
 refine KS ?_
 refine Oq Vm (Oq (Vn 0) (Oq (Vfa fo100_1 0) (Oq (VldF sh3 0) (Oq Vadd (Oq (Vn 0) (Oq (Vfa fo100_1 0) (Ost (SclF [0] sh3 [vl pa0 pk0 p.l, vi (p.at_ + 1), vi p.Err]) (KS ?_))))))))
 refine Jp 0 fun hp18 => ?_
 refine JJ_peek_GToken (((p.at_ + 1) - 1) : Int).toNat 2 rfl rng fun hb19 hb20 hb21 hb22 => ?_
 unfold i64ok at hb19 hb21 hb22
 refine Kq [0, 1, 3, 7, 0, 16, 48, 112, 240, 511, 1023, 2047, 4095] fmix ?_
 refine Qv [] Vm (Qv [1] (Vn 0) (Qv [1] (Vfa fo100_0 0) (Qv [2] (VldF sh95 0) (Qv [] Vm (Qv [1] (Vn 0) (Qv [1] (Vfa fo100_1 0) (Qv [2] (VldF sh3 0) (Qv [] Vsub (Qv [3] (Vi sl95 0) ?_)))))))))
 refine Qv [0] (Vfa fo105_1 0) (Qv [0] (VldF sh9 0) (Qv [] Va ?_))
 refine Qn ⟨by kernel_rfl, ?_⟩
 have hq := q4 hrr ((p.l.getD (((p.at_ + 1) - 1) : Int).toNat default).Text, (Gparser.mk p.l (p.at_ + 1) p.Err)) (by simp only [pz_name, h5, h16, hg3, cs4]); subst hq
 exact Kr () rfl (.tmp rfl .nil) [2] en
theorem fn119 (pP : Value) (p : Gparser) (pa0 : Option Addr) (pk0 : Nat) (k : Int) (hp_1 : i64ok p.at_) (hp_2 : i64ok p.Err) (hk_0 : i64ok k) (hpa : (0 ≤ p.at_ ∧ p.at_ ≤ (p.l.length : Int))) (rr : Bool) (hrr : pz_isKind p k = rr) : FT Tryz.prog 119 #[pP, vi k] [Cl pP [vl pa0 pk0 p.l, vi p.at_, vi p.Err], S pa0 pk0 p.l] (fun g : Unit => True) (fun g => vb rr) (fun g => [Cl pP [vl pa0 pk0 p.l, vi p.at_, vi p.Err]]) := by
 refine FTi Tryz.func119 fun w0 M0 F0 => ?_
 unfold i64ok at hp_1 hp_2 hk_0
 refine Fb 40 1 fun _ => KS ?_
 refine Oq Va (KS ?_)
 refine Jp 0 fun hp2 => ?_
 refine bool_split (p.Err == 0) ?_ ?_
 ·intro h3
  have g4 := eq_of_beq h3
  refine bool_split (decide (p.at_ < (p.l.length : Int))) ?_ ?_
  ·intro h5
   have g6 := dt h5
   refine JJ_peek_GToken p.at_.toNat 2 rfl rng fun hb7 hb8 hb9 hb10 => ?_
   unfold i64ok at hb7 hb9 hb10
   refine Kq [0, 1, 3, 7, 15, 31, 63, 127, 255, 511, 63, 1087, 3135, 7231, 15423, 32767, 65535, 131071, 262143, 524287, 1048575, 2097151, 262143, 4456447, 12845055, 29622271, 67108863, 134217727, 268435455, 262143, 1073741823, 2147483647, 4294967295] fmix ?_
   refine Qv [] Vm (Qv [1] (Vn 0) (Qv [1] (Vfa fo100_2 0) (Qv [2] (VldF sh42 0) (Qb h3 [] Veql (Qv [] Vm (Qv [] Vm (Qv [1] (Vn 0) (Qv [1] (Vfa fo100_1 0) (Qv [2] (VldF sh3 0) ?_)))))))))
   refine Qv [] Vm (Qv [1] (Vn 0) (Qv [1] (Vfa fo100_0 0) (Qv [2] (VldF sh95 0) (Qv [] (Vlen sl95) (Qb h5 [] Vlss (Qv [] Vpt (Qv [] Vm (Qv [] Vm (Qv [1] (Vn 0) ?_)))))))))
   refine Qv [1] (Vfa fo100_0 0) (Qv [2] (VldF sh95 0) (Qv [] Vm (Qv [1] (Vn 0) (Qv [1] (Vfa fo100_1 0) (Qv [2] (VldF sh3 0) (Qv [3] (Vi sl95 0) (Qv [0] (Vfa fo105_0 0) (Qv [0] (VldF sh3 0) (Qv [] Vm ?_)))))))))
   refine Qv [] Veql (Qv [] Vpt (Qv [] Va ?_))
   refine Qn ⟨by kernel_rfl, ?_⟩
   have hq := q4 hrr ((p.l.getD p.at_.toNat default).Kind == k) (by simp only [pz_isKind, h3, h5, cs4]); subst hq
   exact Kr () rfl (.tmp rfl .nil) [2] trivial
  intro h5
  have g11 := df h5
  refine Kq [0, 1, 3, 7, 15, 31, 63, 127, 255, 511, 63, 1087, 3135, 7231, 15423, 32767, 65535, 131071, 262143, 524287, 1048575, 2097151, 262143, 4456447, 12845055, 29622271, 67108863, 134217727, 268435455, 262143, 1073741823, 2147483647, 4294967295] fmix ?_
  refine Qv [] Vm (Qv [0] (Vn 0) (Qv [0] (Vfa fo100_2 0) (Qv [1] (VldF sh42 0) (Qb h3 [] Veql (Qv [] Vm (Qv [] Vm (Qv [0] (Vn 0) (Qv [0] (Vfa fo100_1 0) (Qv [1] (VldF sh3 0) ?_)))))))))
  refine Qv [] Vm (Qv [0] (Vn 0) (Qv [0] (Vfa fo100_0 0) (Qv [1] (VldF sh95 0) (Qv [] (Vlen sl95) (Qb h5 [] Vlss (Qv [] Vpt (Qv [] Vm (Qs (Qs ?_)))))))))
  refine Qs (Qs (Qs (Qs (Qs (Qs (Qs (Qs (Qs (Qs ?_)))))))))
  refine Qs (Qv [] Vpf (Qv [] Va ?_))
  refine Qn ⟨by kernel_rfl, ?_⟩
  have hq := q4 hrr false (by simp only [pz_isKind, h3, h5, cs4]); subst hq
  exact Kr () rfl (.tmp rfl .nil) [1] trivial
 intro h3
 have g12 := ne_of_beq_false h3
 refine Kq [0, 1, 3, 7, 15, 31, 63, 127, 255, 511, 63, 1087, 3135, 7231, 15423, 32767, 65535, 131071, 262143, 524287, 1048575, 2097151, 262143, 4456447, 12845055, 29622271, 67108863, 134217727, 268435455, 262143, 1073741823, 2147483647, 4294967295] fmix ?_
 refine Qv [] Vm (Qv [0] (Vn 0) (Qv [0] (Vfa fo100_2 0) (Qv [1] (VldF sh42 0) (Qb h3 [] Veql (Qv [] Vm (Qs (Qs (Qs (Qs ?_)))))))))
 refine Qs (Qs (Qs (Qs (Qs (Qs (Qv [] Vpf (Qv [] Vm (Qs (Qs ?_)))))))))
 refine Qs (Qs (Qs (Qs (Qs (Qs (Qs (Qs (Qs (Qs ?_)))))))))
 refine Qs (Qv [] Vpf (Qv [] Va ?_))
 refine Qn ⟨by kernel_rfl, ?_⟩
 have hq := q4 hrr false (by simp only [pz_isKind, h3, cs4]); subst hq
 exact Kr () rfl (.tmp rfl .nil) [1] trivial
theorem fn86 (pP : Value) (p : Gparser) (pa0 : Option Addr) (pk0 : Nat) (hp_1 : i64ok p.at_) (hp_2 : i64ok p.Err) (hpa : (0 ≤ p.at_ ∧ p.at_ ≤ (p.l.length : Int))) (rr : Gparser) (hrr : pz_end p = rr) : FT Tryz.prog 86 #[pP] [Cl pP [vl pa0 pk0 p.l, vi p.at_, vi p.Err], S pa0 pk0 p.l] (fun g : Unit => i64ok rr.at_ ∧ i64ok rr.Err ∧ (0 ≤ rr.at_ ∧ rr.at_ ≤ (p.l.length : Int))) (fun g => .tuple #[]) (fun g => [Cl pP [vl pa0 pk0 p.l, vi rr.at_, vi rr.Err]]) := by
 refine FTi Tryz.func86 fun w0 M0 F0 => ?_
 unfold i64ok at hp_1 hp_2
 refine Fb 40 1 fun _ => KS ?_
 refine Oq Vm ?_
 refine letv (pz_isKind p 3) fun rv2 hg3 => ?_
 have hc4 := fn119 pP p pa0 pk0 3 pre pre pre pre rv2 hg3
 refine Oc [0, 0] ca119 hc4 ?_
 rintro - -
 refine Oq Vnot (KS ?_)
 refine Kc ?_ ?_
 ·intro h5
  have h7 := not_true h5
  refine KS ?_
  refine Oq Vm ?_
  refine letv (pz_fail p 4) fun rv9 hg10 => ?_
  have hc11 := fn53 pP p pa0 pk0 4 pre pre pre pre rv9 hg10
  refine Oc [0, 0] ca53 hc11 ?_
  rintro - ⟨he12, he13, he14⟩
  unfold i64ok at he12 he13
  refine KS ?_
  have hq := q4 hrr (Gparser.mk p.l rv9.at_ rv9.Err) (by simp only [pz_end, h5, h7, hg3, hg10, cs4]); subst hq
  exact Kr () rfl .nil [0] en
 intro h5
 have h16 := not_false h5
 try (have hlt := is_lt2 (by assumption : pz_is _ _ = rv2) h16; try dsimp only at hlt)
 try (have hlt := isName_lt2 (by assumption : pz_isName _ = rv2) h16; try dsimp only at hlt)
 try (have hlt := isKind_lt2 (by assumption : pz_isKind _ _ = rv2) h16; try dsimp only at hlt)
 refine KS ?_
 refine Oq Vm (Oq (Vn 0) (Oq (Vfa fo100_1 0) (Oq (VldF sh3 0) (Oq Vadd (Oq (Vn 0) (Oq (Vfa fo100_1 0) (Ost (SclF [0] sh3 [vl pa0 pk0 p.l, vi (p.at_ + 1), vi p.Err]) (KS ?_))))))))
 have hq := q4 hrr (Gparser.mk p.l (p.at_ + 1) p.Err) (by simp only [pz_end, h5, h16, hg3, cs4]); subst hq
 exact Kz () rfl .nil [0] en
theorem fn120 (pP : Value) (p : Gparser) (pa0 : Option Addr) (pk0 : Nat) (hp_1 : i64ok p.at_) (hp_2 : i64ok p.Err) (hpa : (0 ≤ p.at_ ∧ p.at_ ≤ (p.l.length : Int))) (rr : Bool) (hrr : pz_begins p = rr) : FT Tryz.prog 120 #[pP] [Cl pP [vl pa0 pk0 p.l, vi p.at_, vi p.Err], S pa0 pk0 p.l] (fun g : Unit => True) (fun g => vb rr) (fun g => [Cl pP [vl pa0 pk0 p.l, vi p.at_, vi p.Err]]) := by
 refine FTi Tryz.func120 fun w0 M0 F0 => ?_
 unfold i64ok at hp_1 hp_2
 refine Fb 40 1 fun _ => KS ?_
 refine Oq Va (KS ?_)
 refine Oa (AsV sl51 sz51 [.string (bs (Str.mk [117, 115, 101])), .string (bs (Str.mk [99, 97, 108, 108])), .string (bs (Str.mk [115, 111, 117, 114, 99, 101])), .string (bs (Str.mk [115, 105, 110, 107])), .string (bs (Str.mk [115, 97, 110, 105, 116, 105, 122, 101])), .string (bs (Str.mk [103, 111, 116, 111])), .string (bs (Str.mk [98, 114, 97, 110, 99, 104])), .string (bs (Str.mk [114, 101, 116, 117, 114, 110]))] [.string (bs (Str.mk [117, 115, 101])), .string (bs (Str.mk [99, 97, 108, 108])), .string (bs (Str.mk [115, 111, 117, 114, 99, 101])), .string (bs (Str.mk [115, 105, 110, 107])), .string (bs (Str.mk [115, 97, 110, 105, 116, 105, 122, 101])), .string (bs (Str.mk [103, 111, 116, 111])), .string (bs (Str.mk [98, 114, 97, 110, 99, 104])), .string (bs (Str.mk [114, 101, 116, 117, 114, 110]))]) fun c2 => ?_
 refine Jo 0 ?_; rintro a3 k4 rfl
 refine Oq Va (KS ?_)
 refine Oq Va (KS ?_)
 refine Jl [0] (Ent.crOs (α := Str) (A := []) _ ([(Str.mk [117, 115, 101]), (Str.mk [99, 97, 108, 108]), (Str.mk [115, 111, 117, 114, 99, 101]), (Str.mk [115, 105, 110, 107]), (Str.mk [115, 97, 110, 105, 116, 105, 122, 101]), (Str.mk [103, 111, 116, 111]), (Str.mk [98, 114, 97, 110, 99, 104]), (Str.mk [114, 101, 116, 117, 114, 110])] : List Str) _ aB1 (fun h => ⟨[.string (bs (Str.mk [117, 115, 101]))], [.string (bs (Str.mk [99, 97, 108, 108])), .string (bs (Str.mk [115, 111, 117, 114, 99, 101])), .string (bs (Str.mk [115, 105, 110, 107])), .string (bs (Str.mk [115, 97, 110, 105, 116, 105, 122, 101])), .string (bs (Str.mk [103, 111, 116, 111])), .string (bs (Str.mk [98, 114, 97, 110, 99, 104])), .string (bs (Str.mk [114, 101, 116, 117, 114, 110]))], rfl, (fun _ => ⟨rfl, by first | omega | (simp; done) | (dsimp only; omega) | exact lit_bl rfl⟩) h, ⟨[.string (bs (Str.mk [99, 97, 108, 108]))], [.string (bs (Str.mk [115, 111, 117, 114, 99, 101])), .string (bs (Str.mk [115, 105, 110, 107])), .string (bs (Str.mk [115, 97, 110, 105, 116, 105, 122, 101])), .string (bs (Str.mk [103, 111, 116, 111])), .string (bs (Str.mk [98, 114, 97, 110, 99, 104])), .string (bs (Str.mk [114, 101, 116, 117, 114, 110]))], rfl, (fun _ => ⟨rfl, by first | omega | (simp; done) | (dsimp only; omega) | exact lit_bl rfl⟩) h, ⟨[.string (bs (Str.mk [115, 111, 117, 114, 99, 101]))], [.string (bs (Str.mk [115, 105, 110, 107])), .string (bs (Str.mk [115, 97, 110, 105, 116, 105, 122, 101])), .string (bs (Str.mk [103, 111, 116, 111])), .string (bs (Str.mk [98, 114, 97, 110, 99, 104])), .string (bs (Str.mk [114, 101, 116, 117, 114, 110]))], rfl, (fun _ => ⟨rfl, by first | omega | (simp; done) | (dsimp only; omega) | exact lit_bl rfl⟩) h, ⟨[.string (bs (Str.mk [115, 105, 110, 107]))], [.string (bs (Str.mk [115, 97, 110, 105, 116, 105, 122, 101])), .string (bs (Str.mk [103, 111, 116, 111])), .string (bs (Str.mk [98, 114, 97, 110, 99, 104])), .string (bs (Str.mk [114, 101, 116, 117, 114, 110]))], rfl, (fun _ => ⟨rfl, by first | omega | (simp; done) | (dsimp only; omega) | exact lit_bl rfl⟩) h, ⟨[.string (bs (Str.mk [115, 97, 110, 105, 116, 105, 122, 101]))], [.string (bs (Str.mk [103, 111, 116, 111])), .string (bs (Str.mk [98, 114, 97, 110, 99, 104])), .string (bs (Str.mk [114, 101, 116, 117, 114, 110]))], rfl, (fun _ => ⟨rfl, by first | omega | (simp; done) | (dsimp only; omega) | exact lit_bl rfl⟩) h, ⟨[.string (bs (Str.mk [103, 111, 116, 111]))], [.string (bs (Str.mk [98, 114, 97, 110, 99, 104])), .string (bs (Str.mk [114, 101, 116, 117, 114, 110]))], rfl, (fun _ => ⟨rfl, by first | omega | (simp; done) | (dsimp only; omega) | exact lit_bl rfl⟩) h, ⟨[.string (bs (Str.mk [98, 114, 97, 110, 99, 104]))], [.string (bs (Str.mk [114, 101, 116, 117, 114, 110]))], rfl, (fun _ => ⟨rfl, by first | omega | (simp; done) | (dsimp only; omega) | exact lit_bl rfl⟩) h, ⟨[.string (bs (Str.mk [114, 101, 116, 117, 114, 110]))], [], rfl, (fun _ => ⟨rfl, by first | omega | (simp; done) | (dsimp only; omega) | exact lit_bl rfl⟩) h, rfl⟩⟩⟩⟩⟩⟩⟩⟩)) ?_
 refine Fb 16 0 fun _ => ?_
 refine FoS 0 fun ho6 => ?_
 refine Kl (γ := Nat × Int) (fun (r7, i_8) => ⟨[(0, pP), (3, .slice a3 8 k4), (4, vi i_8)], [os (.slice a3 8 k4) ([(Str.mk [117, 115, 101]), (Str.mk [99, 97, 108, 108]), (Str.mk [115, 111, 117, 114, 99, 101]), (Str.mk [115, 105, 110, 107]), (Str.mk [115, 97, 110, 105, 116, 105, 122, 101]), (Str.mk [103, 111, 116, 111]), (Str.mk [98, 114, 97, 110, 99, 104]), (Str.mk [114, 101, 116, 117, 114, 110])] : List Str), Cl pP [vl pa0 pk0 p.l, vi p.at_, vi p.Err], S pa0 pk0 p.l], pz_begins_L0 p r7 i_8 = pz_begins_L0 p (((((8 : Nat) : Int) : Int) - 0).toNat) 0 ∧ r7 = ((((8 : Nat) : Int) : Int) - i_8).toNat ∧ (0 : Int) ≤ i_8 ∧ (i_8 ≤ ((8 : Nat) : Int) ∨ i_8 = 0) ∧ (-9223372036854775808 ≤ i_8 ∧ i_8 ≤ 9223372036854775807), r7⟩) (((((8 : Nat) : Int) : Int) - 0).toNat, 0) [0, 0, 0] ⟨rfl, rfl, aM1, (.inr rfl), aM1⟩ ?_
 rintro ⟨r7, i_8⟩ ⟨hM9, hr10, hi11, hi12, hk13⟩
 refine JJ_nx fun _ _ hL hA => ?_; dsimp only at hL hA; subst hL hA
 refine Fb 16 0 fun _ => ?_
 refine FoS 0 fun ho15 => ?_
 refine Fl 0 fun hn16 => Fb 40 2 fun _ => ?_
 refine KS ?_
 refine Oq Vm (Oq Vm (Oq (Vlen sl51) (Oq Vlss (KS ?_))))
 refine Kc ?_ ?_
 ·intro h18
  have g19 := dt h18
  obtain ⟨r20, rfl⟩ := scc (n := r7) aM1
  refine KS ?_
  refine Oq Vm (Oq Vm (Oq Vm (Oq (Vi sl51 0) ?_)))
  have hb21 := okS (i := i_8.toNat) ho15 rng
  refine Oq (VldS sh9 0) ?_
  refine letv (pz_is p ([(Str.mk [117, 115, 101]), (Str.mk [99, 97, 108, 108]), (Str.mk [115, 111, 117, 114, 99, 101]), (Str.mk [115, 105, 110, 107]), (Str.mk [115, 97, 110, 105, 116, 105, 122, 101]), (Str.mk [103, 111, 116, 111]), (Str.mk [98, 114, 97, 110, 99, 104]), (Str.mk [114, 101, 116, 117, 114, 110])].getD i_8.toNat default)) fun rv22 hg23 => ?_
  have hc24 := fn52 pP p pa0 pk0 (([(Str.mk [117, 115, 101]), (Str.mk [99, 97, 108, 108]), (Str.mk [115, 111, 117, 114, 99, 101]), (Str.mk [115, 105, 110, 107]), (Str.mk [115, 97, 110, 105, 116, 105, 122, 101]), (Str.mk [103, 111, 116, 111]), (Str.mk [98, 114, 97, 110, 99, 104]), (Str.mk [114, 101, 116, 117, 114, 110])].getD i_8.toNat default)) pre pre pre pre rv22 hg23
  refine Oc [1, 1] ca52 hc24 ?_
  rintro - -
  refine KS ?_
  refine Kc ?_ ?_
  ·intro h25
   refine KS ?_
   refine Oq Va (KS ?_)
   have hR27 := q2 hM9 (.ret true) (by simp only [pz_begins_L0, h18, h25, hg23, cs4])
   have hq := q4 hrr true (by simp only [pz_begins, h18, h25, hg23, hR27, cs4]); subst hq
   exact Kr () rfl (.tmp rfl .nil) [0] trivial
  intro h25
  refine KS ?_
  refine Oq Vm (Oq Vadd (Oq Va (KS ?_)))
  exact Kg (r20, (i_8 + 1)) [1, 0, 0] ⟨(q3 hM9 (by simp only [pz_begins_L0, h18, h25, hg23, cs4])), aM1, aM1, aM1, aM1⟩
 intro h18
 have g29 := df h18
 obtain rfl : r7 = 0 := by omega
 refine Ke ?_
 have hR30 := q2 hM9 (.brk ()) (by simp only [pz_begins_L0, h18, cs4])
 refine KS ?_
 refine Oq Vm ?_
 refine letv (pz_isName p) fun rv31 hg32 => ?_
 have hc33 := fn118 pP p pa0 pk0 pre pre pre rv31 hg32
 refine Oc [1, 1] ca118 hc33 ?_
 rintro - -
 refine Oq Va (KS ?_)
 have hq := q4 hrr rv31 (by simp only [pz_begins, h18, hR30, hg32, cs4]); subst hq
 exact Kr () rfl (.tmp rfl .nil) [0] trivial
theorem fn138 (pP : Value) (p : Gparser) (pa0 : Option Addr) (pk0 : Nat) (have_ : Int) (hp_1 : i64ok p.at_) (hp_2 : i64ok p.Err) (hhave__0 : i64ok have_) (hpa : (0 ≤ p.at_ ∧ p.at_ ≤ (p.l.length : Int))) (hh : have_ = 1) (rr : List Str × Gparser) (hrr : pz_more p have_ = rr) : FT Tryz.prog 138 #[pP, vi have_] [Cl pP [vl pa0 pk0 p.l, vi p.at_, vi p.Err], S pa0 pk0 p.l] (fun g : Value => i64ok rr.2.at_ ∧ i64ok rr.2.Err ∧ (0 ≤ rr.2.at_ ∧ rr.2.at_ ≤ (p.l.length : Int)) ∧ (rr.1.length ≤ 3)) (fun g => g) (fun g => [sl g rr.1, Cl pP [vl pa0 pk0 p.l, vi rr.2.at_, vi rr.2.Err]]) := by
 refine FTi Tryz.func138 fun w0 M0 F0 => ?_
 unfold i64ok at hp_1 hp_2 hhave__0
 refine Fb 40 1 fun _ => KS ?_
 refine Oq Va (KS ?_)
 refine Oq Va (KS ?_)
 refine Jl [] (Ent.osNil (α := Str)) ?_
 have hterm13 : pz_more_L0 p have_ (p.l.length + 1) p.at_ p.Err [] ≠ LR.oof := (more_L0_adv _ _ _ _ aM1).1
 refine Kl (γ := Nat × Int × Int × List Str × Option Addr × Nat) (fun (r2, p1_3, p2_4, out_5, a6, k7) => ⟨[(0, pP), (1, vi have_), (5, vl a6 k7 out_5)], [O a6 k7 out_5, Cl pP [vl pa0 pk0 p.l, vi p1_3, vi p2_4], S pa0 pk0 p.l], pz_more_L0 p have_ r2 p1_3 p2_4 out_5 = pz_more_L0 p have_ (p.l.length + 1) p.at_ p.Err [] ∧ (-9223372036854775808 ≤ p1_3 ∧ p1_3 ≤ 9223372036854775807) ∧ (-9223372036854775808 ≤ p2_4 ∧ p2_4 ≤ 9223372036854775807) ∧ (0 ≤ p1_3 ∧ p1_3 ≤ (p.l.length : Int)) ∧ (out_5.length ≤ 3), r2⟩) ((p.l.length + 1), p.at_, p.Err, [], none, 0) [0, 0, 0] ⟨rfl, aM1, aM1, iv0, iv0⟩ ?_
 rintro ⟨r2, p1_3, p2_4, out_5, a6, k7⟩ ⟨hM8, hk9, hk10, hv11, hv12⟩
 refine JJ_nx fun _ _ hL hA => ?_; dsimp only at hL hA; subst hL hA
 refine Fb 16 0 fun _ => ?_
 refine FoS 0 fun ho15 => ?_
 refine Fb 40 2 fun _ => ?_
 rcases r2 with _ | r2
 ·exact absurd (hM8.symm.trans rfl) hterm13
 refine KS ?_
 refine Oq Vm ?_
 refine letv (pz_isName (Gparser.mk p.l p1_3 p2_4)) fun rv17 hg18 => ?_
 have hc19 := fn118 pP (Gparser.mk p.l p1_3 p2_4) pa0 pk0 pre pre pre rv17 hg18
 refine Oc [1, 1] ca118 hc19 ?_
 rintro - -
 refine KS ?_
 refine Kc ?_ ?_
 ·intro h20
  refine KS ?_
  refine Oq Vm (Oq Vm (Oq (Vlen sl51) (Oq Vadd (Oq Veql (KS ?_)))))
  refine Kc ?_ ?_
  ·intro h22
   have g23 := eq_of_beq h22
   refine KS ?_
   refine Oq Vm ?_
   refine letv (pz_fail (Gparser.mk p.l p1_3 p2_4) 7) fun rv24 hg25 => ?_
   have hc26 := fn53 pP (Gparser.mk p.l p1_3 p2_4) pa0 pk0 7 pre pre pre pre rv24 hg25
   refine Oc [0, 1] ca53 hc26 ?_
   rintro - ⟨he27, he28, he29⟩
   unfold i64ok at he27 he28
   have he29 : (0 ≤ rv24.at_ ∧ rv24.at_ ≤ (p.l.length : Int)) := he29
   refine KS ?_
   refine Oq Va (KS ?_)
   refine Jl [] (Ent.slNil (α := Str)) ?_
   have hR30 := q2 hM8 (.ret (([] : List Str), (Gparser.mk p.l rv24.at_ rv24.Err))) (by simp only [pz_more_L0, h20, h22, hg18, hg25, cs4])
   have hq := q4 hrr (([] : List Str), (Gparser.mk p.l rv24.at_ rv24.Err)) (by simp only [pz_more, h20, h22, hg18, hg25, hR30, cs4]); subst hq
   exact Kr (.slice none 0 0) rfl (.tmp rfl .nil) [0, 1] en
  intro h22
  have g31 := ne_of_beq_false h22
  refine KS ?_
  refine Oq Vm (Oq Vm ?_)
  refine letv (pz_name (Gparser.mk p.l p1_3 p2_4)) fun rv32 hg33 => ?_
  have hc34 := fn85 pP (Gparser.mk p.l p1_3 p2_4) pa0 pk0 pre pre pre rv32 hg33
  refine Oc [0, 1] ca85 hc34 ?_
  rintro - ⟨he35, he36, he37, he38⟩
  unfold i64ok at he36 he37
  have he38 : (0 ≤ rv32.2.at_ ∧ rv32.2.at_ ≤ (p.l.length : Int)) := he38
  refine Oa (AsV sl51 sz51 [.string (bs rv32.1)] [.string (bs rv32.1)]) fun c39 => ?_
  refine Jo 0 ?_; rintro a40 k41 rfl
  refine Jl [0] (Ent.cr1 (α := Str) (A := []) _ rv32.1 _ aB1 (fun _ => ⟨rfl, aS1⟩)) ?_
  refine Oa (ApO [2, 0] sl51 sl51 sz51) fun c42 => ?_
  refine Jo 0 ?_; rintro a43 k44 rfl
  refine Fb 16 0 fun _ => ?_
  refine FoS 0 fun ho46 => ?_
  have hn47 := la out_5 ([rv32.1] : List Str)
  refine Oq Va (KS ?_)
  exact Kg (r2, rv32.2.at_, rv32.2.Err, (out_5 ++ [rv32.1]), a43, k44) [0, 0, 0] ⟨(q3 hM8 (by simp only [pz_more_L0, h20, h22, hg18, hg33, cs4])), aM1, aM1, iv1, iv1⟩
 intro h20
 refine Ke ?_
 have hR49 := q2 hM8 (.brk (p1_3, p2_4, out_5)) (by simp only [pz_more_L0, h20, hg18, cs4])
 refine KS ?_
 refine Oq Vm (Oq Va (KS ?_))
 refine Jl [1] (Ent.freeze _ _) ?_
 have hq := q4 hrr (out_5, (Gparser.mk p.l p1_3 p2_4)) (by simp only [pz_more, h20, hg18, hR49, cs4]); subst hq
 exact Kr (vl a6 k7 out_5) rfl (.tmp rfl .nil) [0, 1] en
theorem fn139 (pP : Value) (p : Gparser) (pa0 : Option Addr) (pk0 : Nat) (hp_1 : i64ok p.at_) (hp_2 : i64ok p.Err) (hpa : (0 ≤ p.at_ ∧ p.at_ ≤ (p.l.length : Int))) (rr : List Str × Gparser) (hrr : pz_names p = rr) : FT Tryz.prog 139 #[pP] [Cl pP [vl pa0 pk0 p.l, vi p.at_, vi p.Err], S pa0 pk0 p.l] (fun g : Value => i64ok rr.2.at_ ∧ i64ok rr.2.Err ∧ (0 ≤ rr.2.at_ ∧ rr.2.at_ ≤ (p.l.length : Int)) ∧ (rr.1.length ≤ 4)) (fun g => g) (fun g => [sl g rr.1, Cl pP [vl pa0 pk0 p.l, vi rr.2.at_, vi rr.2.Err]]) := by
 refine FTi Tryz.func139 fun w0 M0 F0 => ?_
 unfold i64ok at hp_1 hp_2
 refine Fb 40 1 fun _ => KS ?_
 refine Oq Va (KS ?_)
 refine Oq Va (KS ?_)
 refine Jl [] (Ent.osNil (α := Str)) ?_
 have hterm13 : pz_names_L0 p (p.l.length + 1) p.at_ p.Err [] ≠ LR.oof := (names_L0_adv _ _ _ _ aM1).1
 refine Kl (γ := Nat × Int × Int × List Str × Option Addr × Nat) (fun (r2, p1_3, p2_4, out_5, a6, k7) => ⟨[(0, pP), (3, vl a6 k7 out_5)], [O a6 k7 out_5, Cl pP [vl pa0 pk0 p.l, vi p1_3, vi p2_4], S pa0 pk0 p.l], pz_names_L0 p r2 p1_3 p2_4 out_5 = pz_names_L0 p (p.l.length + 1) p.at_ p.Err [] ∧ (-9223372036854775808 ≤ p1_3 ∧ p1_3 ≤ 9223372036854775807) ∧ (-9223372036854775808 ≤ p2_4 ∧ p2_4 ≤ 9223372036854775807) ∧ (0 ≤ p1_3 ∧ p1_3 ≤ (p.l.length : Int)) ∧ (out_5.length ≤ 4), r2⟩) ((p.l.length + 1), p.at_, p.Err, [], none, 0) [0, 0, 0] ⟨rfl, aM1, aM1, iv0, iv0⟩ ?_
 rintro ⟨r2, p1_3, p2_4, out_5, a6, k7⟩ ⟨hM8, hk9, hk10, hv11, hv12⟩
 refine JJ_nx fun _ _ hL hA => ?_; dsimp only at hL hA; subst hL hA
 refine Fb 16 0 fun _ => ?_
 refine FoS 0 fun ho15 => ?_
 refine Fb 40 2 fun _ => ?_
 rcases r2 with _ | r2
 ·exact absurd (hM8.symm.trans rfl) hterm13
 refine KS ?_
 refine Oq Vm ?_
 refine letv (pz_isName (Gparser.mk p.l p1_3 p2_4)) fun rv17 hg18 => ?_
 have hc19 := fn118 pP (Gparser.mk p.l p1_3 p2_4) pa0 pk0 pre pre pre rv17 hg18
 refine Oc [1, 1] ca118 hc19 ?_
 rintro - -
 refine KS ?_
 refine Kc ?_ ?_
 ·intro h20
  refine KS ?_
  refine Oq Vm (Oq (Vlen sl51) (Oq Veql (KS ?_)))
  refine Kc ?_ ?_
  ·intro h22
   have g23 := eq_of_beq h22
   refine KS ?_
   refine Oq Vm ?_
   refine letv (pz_fail (Gparser.mk p.l p1_3 p2_4) 7) fun rv24 hg25 => ?_
   have hc26 := fn53 pP (Gparser.mk p.l p1_3 p2_4) pa0 pk0 7 pre pre pre pre rv24 hg25
   refine Oc [0, 1] ca53 hc26 ?_
   rintro - ⟨he27, he28, he29⟩
   unfold i64ok at he27 he28
   have he29 : (0 ≤ rv24.at_ ∧ rv24.at_ ≤ (p.l.length : Int)) := he29
   refine KS ?_
   refine Oq Va (KS ?_)
   refine Jl [] (Ent.slNil (α := Str)) ?_
   have hR30 := q2 hM8 (.ret (([] : List Str), (Gparser.mk p.l rv24.at_ rv24.Err))) (by simp only [pz_names_L0, h20, h22, hg18, hg25, cs4])
   have hq := q4 hrr (([] : List Str), (Gparser.mk p.l rv24.at_ rv24.Err)) (by simp only [pz_names, h20, h22, hg18, hg25, hR30, cs4]); subst hq
   exact Kr (.slice none 0 0) rfl (.tmp rfl .nil) [0, 1] en
  intro h22
  have g31 := ne_of_beq_false h22
  refine KS ?_
  refine Oq Vm (Oq Vm ?_)
  refine letv (pz_name (Gparser.mk p.l p1_3 p2_4)) fun rv32 hg33 => ?_
  have hc34 := fn85 pP (Gparser.mk p.l p1_3 p2_4) pa0 pk0 pre pre pre rv32 hg33
  refine Oc [0, 1] ca85 hc34 ?_
  rintro - ⟨he35, he36, he37, he38⟩
  unfold i64ok at he36 he37
  have he38 : (0 ≤ rv32.2.at_ ∧ rv32.2.at_ ≤ (p.l.length : Int)) := he38
  refine Oa (AsV sl51 sz51 [.string (bs rv32.1)] [.string (bs rv32.1)]) fun c39 => ?_
  refine Jo 0 ?_; rintro a40 k41 rfl
  refine Jl [0] (Ent.cr1 (α := Str) (A := []) _ rv32.1 _ aB1 (fun _ => ⟨rfl, aS1⟩)) ?_
  refine Oa (ApO [2, 0] sl51 sl51 sz51) fun c42 => ?_
  refine Jo 0 ?_; rintro a43 k44 rfl
  refine Fb 16 0 fun _ => ?_
  refine FoS 0 fun ho46 => ?_
  have hn47 := la out_5 ([rv32.1] : List Str)
  refine Oq Va (KS ?_)
  exact Kg (r2, rv32.2.at_, rv32.2.Err, (out_5 ++ [rv32.1]), a43, k44) [0, 0, 0] ⟨(q3 hM8 (by simp only [pz_names_L0, h20, h22, hg18, hg33, cs4])), aM1, aM1, iv1, iv1⟩
 intro h20
 refine Ke ?_
 have hR49 := q2 hM8 (.brk (p1_3, p2_4, out_5)) (by simp only [pz_names_L0, h20, hg18, cs4])
 refine KS ?_
 refine Oq Vm (Oq Va (KS ?_))
 refine Jl [1] (Ent.freeze _ _) ?_
 have hq := q4 hrr (out_5, (Gparser.mk p.l p1_3 p2_4)) (by simp only [pz_names, h20, hg18, hR49, cs4]); subst hq
 exact Kr (vl a6 k7 out_5) rfl (.tmp rfl .nil) [0, 1] en
theorem fn121 (pP : Value) (p : Gparser) (pa0 : Option Addr) (pk0 : Nat) (hp_1 : i64ok p.at_) (hp_2 : i64ok p.Err) (hpa : (0 ≤ p.at_ ∧ p.at_ ≤ (p.l.length : Int))) (hb : pz_begins p = true) (rr : GStmt × Gparser) (hrr : pz_stmt p = rr) : FT Tryz.prog 121 #[pP] [Cl pP [vl pa0 pk0 p.l, vi p.at_, vi p.Err], S pa0 pk0 p.l] (fun g : Value × Value => i64ok rr.1.Op ∧ rr.1.Def.b.length ≤ 140737488355328 ∧ i64ok rr.2.at_ ∧ i64ok rr.2.Err ∧ (0 ≤ rr.2.at_ ∧ rr.2.at_ ≤ (p.l.length : Int))) (fun g => .agg #[vi rr.1.Op, .string (bs rr.1.Def), g.1, g.2]) (fun g => [sl g.1 rr.1.Uses, sl g.2 rr.1.Targets, Cl pP [vl pa0 pk0 p.l, vi rr.2.at_, vi rr.2.Err]]) := by
 refine FTi Tryz.func121 fun w0 M0 F0 => ?_
 unfold i64ok at hp_1 hp_2
 refine Fb 40 1 fun _ => ?_
 have hbl := begins_lt hb
 refine KS ?_
 refine Oa (Al ze59 [vi 0, .string (bs (Str.mk [])), .slice none 0 0, .slice none 0 0]) fun p2 => KS ?_
 refine Oa (Al ze59 [vi 0, .string (bs (Str.mk [])), .slice none 0 0, .slice none 0 0]) fun p3 => KS ?_
 refine Oq Va (KS ?_)
 refine Oq Vm ?_
 refine letv (pz_isName p) fun rv4 hg5 => ?_
 have hc6 := fn118 pP p pa0 pk0 pre pre pre rv4 hg5
 refine Oc [2, 2] ca118 hc6 ?_
 rintro - -
 refine Oq Vnot (KS ?_)
 refine Kc ?_ ?_
 ·intro h7
  have h9 := not_true h7
  refine KS ?_
  refine Jp 0 fun hp11 => ?_
  refine JJ_peek_GToken p.at_.toNat 4 rfl rng fun hb12 hb13 hb14 hb15 => ?_
  unfold i64ok at hb12 hb14 hb15
  refine Kq [0, 1, 3, 7, 0, 16, 48, 112, 255, 511, 1023, 2047] fmix ?_
  refine Qv [] Vm (Qv [1] (Vn 0) (Qv [1] (Vfa fo100_0 0) (Qv [2] (VldF sh95 0) (Qv [] Vm (Qv [1] (Vn 0) (Qv [1] (Vfa fo100_1 0) (Qv [2] (VldF sh3 0) (Qv [5] (Vi sl95 0) (Qv [0] (Vfa fo105_1 0) ?_)))))))))
  refine Qv [0] (VldF sh9 0) (Qv [] Va ?_)
  refine Qn ⟨by kernel_rfl, ?_⟩
  refine KS ?_
  refine Oq Vm (Oq (Vn 2) (Oq (Vfa fo100_1 2) (Oq (VldF sh3 2) (Oq Vadd (Oq (Vn 2) (Oq (Vfa fo100_1 2) (Ost (SclF [2] sh3 [vl pa0 pk0 p.l, vi (p.at_ + 1), vi p.Err]) (KS ?_))))))))
  refine Oq Vm (KS ?_)
  refine Oq (VeqS (l := (p.l.getD p.at_.toNat default).Text) (m := (Str.mk [117, 115, 101]))) (Oq Va (KS ?_))
  refine Kc ?_ ?_
  ·intro h16
   have g17 := eq_of_beq h16
   refine KS ?_
   refine Oq Vm ?_
   refine letv (pz_name (Gparser.mk p.l (p.at_ + 1) p.Err)) fun rv18 hg19 => ?_
   have hc20 := fn85 pP (Gparser.mk p.l (p.at_ + 1) p.Err) pa0 pk0 pre pre pre rv18 hg19
   refine Oc [0, 4] ca85 hc20 ?_
   rintro - ⟨he21, he22, he23, he24⟩
   unfold i64ok at he22 he23
   have he24 : (0 ≤ rv18.2.at_ ∧ rv18.2.at_ ≤ (p.l.length : Int)) := he24
   refine Oa (AsV sl51 sz51 [.string (bs rv18.1)] [.string (bs rv18.1)]) fun c25 => ?_
   refine Jo 0 ?_; rintro a26 k27 rfl
   refine Oq (Vfa fo59_0 4) (Ost (SclF [4] sh3 [vi 2, .string (bs (Str.mk [])), .slice none 0 0, .slice none 0 0]) (Oq (Vfa fo59_2 0) (Ost (SclF [0] sh51 [vi 2, .string (bs (Str.mk [])), .slice a26 1 k27, .slice none 0 0]) (KS ?_))))
   refine Jp 0 fun hp28 => ?_
   refine JK_drawK [0, 1, 0, 4, 15, 31, 63] fmix ?_
   refine Dv [0] (Vfa fo59_2 0) (Dv [1] (VldF sh51 0) (Dv [] Vm ?_))
   refine letv (pz_more (Gparser.mk p.l rv18.2.at_ rv18.2.Err) 1) fun rv30 hg31 => Dx [3, 7] [3] [3, 0, 1, 2] (fun G => (G.g 3 0)) [fun G => SP.fact (i64ok rv30.2.at_ ∧ i64ok rv30.2.Err ∧ (0 ≤ rv30.2.at_ ∧ rv30.2.at_ ≤ ((Gparser.mk p.l rv18.2.at_ rv18.2.Err).l.length : Int)) ∧ (rv30.1.length ≤ 3)), fun G => sl (G.g 3 0) rv30.1, fun G => Cl pP [vl pa0 pk0 p.l, vi rv30.2.at_, vi rv30.2.Err]] (fun G => xC [0, 0] ca138 (fn138 pP (Gparser.mk p.l rv18.2.at_ rv18.2.Err) pa0 pk0 1 pre pre pre pre pre rv30 hg31)) ?_
   have hn33 : ([rv18.1] ++ rv30.1 : List Str).length = 1 + rv30.1.length := la ([rv18.1] : List Str) rv30.1
   refine Dx [2, 8, 9] [2] [1, 2, 0] (fun G => (G.g 4 0)) [fun G => os (G.g 4 0) (([rv18.1] ++ rv30.1) : List Str)] (fun G => by refine xf 1 rfl ?_; rintro ⟨he34, he35, he36, he37⟩; unfold i64ok at he34 he35; exact xp [0] rfl (Ent.cr1 (α := Str) (A := []) _ rv18.1 _ aB1 (fun _ => ⟨rfl, aS1⟩)) (xA (Ap [0, 1] sl51 sl51 sz51))) (Dv [0] (Vfa fo59_2 0) (Dx0 [1, 11] [1] [1, 0] [fun G => Cl p3 [vi 2, .string (bs (Str.mk [])), (G.g 4 0), .slice none 0 0]] (fun G => x1 1 rfl os_one fun ho38 => (xS (OpS.frame [0] rfl (OpS.storeClF [(G.g 4 0)] [vi 2, .string (bs (Str.mk [])), (G.g 4 0), .slice none 0 0] rfl rfl rfl sh51 (cells_of_one ho38) rfl (by simp only [List.all_cons, List.all_nil, ho38, Bool.and_true, Bool.true_and] <;> rfl) aB1 rfl)))) ?_))
   refine Dn ⟨by kernel_rfl, fun G => ?_⟩
   refine Jw2 [(0, pP), (2, p2), (3, p3)] [0, 4, 5, 6, 7] [SP.fact (i64ok rv30.2.at_ ∧ i64ok rv30.2.Err ∧ (0 ≤ rv30.2.at_ ∧ rv30.2.at_ ≤ ((Gparser.mk p.l rv18.2.at_ rv18.2.Err).l.length : Int)) ∧ (rv30.1.length ≤ 3)), sl (G.g 3 0) rv30.1, Cl pP [vl pa0 pk0 p.l, vi rv30.2.at_, vi rv30.2.Err], os (G.g 4 0) (([rv18.1] ++ rv30.1) : List Str), Cl p3 [vi 2, .string (bs (Str.mk [])), (G.g 4 0), .slice none 0 0]] ?_
   generalize G.g 3 0 = c29, G.g 4 0 = c32
   refine Jf 5 rfl ?_; rintro ⟨he39, he40, he41, he42⟩
   unfold i64ok at he39 he40
   refine Jk [1, 3, 3, 5, 6, 6, 6] ?_
   refine Jo 3 ?_; rintro a43 k44 rfl
   refine Fb 16 3 fun _ => ?_
   refine FoS 3 fun ho46 => ?_
   refine Jo 5 ?_; rintro a47 k48 rfl
   refine Fb 16 5 fun _ => ?_
   refine FoS 5 fun ho50 => ?_
   refine KS ?_
   refine Oq Vm ?_
   refine letv (pz_end (Gparser.mk p.l rv30.2.at_ rv30.2.Err)) fun rv51 hg52 => ?_
   have hc53 := fn86 pP (Gparser.mk p.l rv30.2.at_ rv30.2.Err) pa0 pk0 pre pre pre rv51 hg52
   refine Oc [4, 2] ca86 hc53 ?_
   rintro - ⟨he54, he55, he56⟩
   unfold i64ok at he54 he55
   have he56 : (0 ≤ rv51.at_ ∧ rv51.at_ ≤ (p.l.length : Int)) := he56
   refine KS ?_
   refine Oq (VldA sh59 6) (Ost (Scl [2] sh59 [vi 2, .string (bs (Str.mk [])), vl a47 k48 ([rv18.1] ++ rv30.1), .slice none 0 0]) (KS ?_))
   refine Jl [5] (Ent.freeze _ _) ?_
   refine Jl [] (Ent.slNil (α := Str)) ?_
   have hq := q4 hrr ((GStmt.mk 2 (Str.mk []) ([rv18.1] ++ rv30.1) []), (Gparser.mk p.l rv51.at_ rv51.Err)) (by simp only [pz_stmt, h7, h9, h16, hg5, hg19, hg31, hg52, cs4]); subst hq
   exact Kr (vl a47 k48 ([rv18.1] ++ rv30.1), .slice none 0 0) rfl (.cellN 2 rfl sh59 rfl (reads_Cl _ _) rfl .nil) [1, 0, 3] en
  intro h16
  have g57 := ne_of_beq_false h16
  refine KS ?_
  refine Oq (VeqS (l := (p.l.getD p.at_.toNat default).Text) (m := (Str.mk [99, 97, 108, 108]))) (Oq Va (KS ?_))
  refine Kc ?_ ?_
  ·intro h58
   have g59 := eq_of_beq h58
   refine KS ?_
   refine Oq Vm ?_
   refine letv (pz_name (Gparser.mk p.l (p.at_ + 1) p.Err)) fun rv60 hg61 => ?_
   have hc62 := fn85 pP (Gparser.mk p.l (p.at_ + 1) p.Err) pa0 pk0 pre pre pre rv60 hg61
   refine Oc [0, 4] ca85 hc62 ?_
   rintro - ⟨he63, he64, he65, he66⟩
   unfold i64ok at he64 he65
   have he66 : (0 ≤ rv60.2.at_ ∧ rv60.2.at_ ≤ (p.l.length : Int)) := he66
   refine Oa (AsV sl51 sz51 [.string (bs rv60.1)] [.string (bs rv60.1)]) fun c67 => ?_
   refine Jo 0 ?_; rintro a68 k69 rfl
   refine Oq (Vfa fo59_0 4) (Ost (SclF [4] sh3 [vi 3, .string (bs (Str.mk [])), .slice none 0 0, .slice none 0 0]) (Oq (Vfa fo59_3 0) (Ost (SclF [0] sh51 [vi 3, .string (bs (Str.mk [])), .slice none 0 0, .slice a68 1 k69]) (KS ?_))))
   refine Oq Vm ?_
   refine letv (pz_end (Gparser.mk p.l rv60.2.at_ rv60.2.Err)) fun rv70 hg71 => ?_
   have hc72 := fn86 pP (Gparser.mk p.l rv60.2.at_ rv60.2.Err) pa0 pk0 pre pre pre rv70 hg71
   refine Oc [2, 5] ca86 hc72 ?_
   rintro - ⟨he73, he74, he75⟩
   unfold i64ok at he73 he74
   have he75 : (0 ≤ rv70.at_ ∧ rv70.at_ ≤ (p.l.length : Int)) := he75
   refine KS ?_
   refine Oq (VldA sh59 1) (Ost (Scl [5] sh59 [vi 3, .string (bs (Str.mk [])), .slice none 0 0, .slice a68 1 k69]) (KS ?_))
   refine Jl [3] (Ent.cr1 (α := Str) (A := []) _ rv60.1 _ aB1 (fun _ => ⟨rfl, aS1⟩)) ?_
   refine Jl [0] (Ent.freeze _ _) ?_
   refine Jl [] (Ent.slNil (α := Str)) ?_
   have hq := q4 hrr ((GStmt.mk 3 (Str.mk []) [] [rv60.1]), (Gparser.mk p.l rv70.at_ rv70.Err)) (by simp only [pz_stmt, h7, h9, h16, h58, hg5, hg61, hg71, cs4]); subst hq
   exact Kr (.slice none 0 0, .slice a68 1 k69) rfl (.cellN 2 rfl sh59 rfl (reads_Cl _ _) rfl .nil) [0, 1, 3] en
  intro h58
  have g76 := ne_of_beq_false h58
  refine KS ?_
  refine Oq (VeqS (l := (p.l.getD p.at_.toNat default).Text) (m := (Str.mk [115, 111, 117, 114, 99, 101]))) (Oq Va (KS ?_))
  refine Kc ?_ ?_
  ·intro h77
   have g78 := eq_of_beq h77
   refine KS ?_
   refine Oq Vm ?_
   refine letv (pz_name (Gparser.mk p.l (p.at_ + 1) p.Err)) fun rv79 hg80 => ?_
   have hc81 := fn85 pP (Gparser.mk p.l (p.at_ + 1) p.Err) pa0 pk0 pre pre pre rv79 hg80
   refine Oc [0, 4] ca85 hc81 ?_
   rintro - ⟨he82, he83, he84, he85⟩
   unfold i64ok at he83 he84
   have he85 : (0 ≤ rv79.2.at_ ∧ rv79.2.at_ ≤ (p.l.length : Int)) := he85
   refine Oq (Vfa fo59_0 3) (Ost (SclF [3] sh3 [vi 4, .string (bs (Str.mk [])), .slice none 0 0, .slice none 0 0]) (Oq (Vfa fo59_1 0) (Ost (SclF [0] sh9 [vi 4, .string (bs rv79.1), .slice none 0 0, .slice none 0 0]) (KS ?_))))
   refine Oq Vm ?_
   refine letv (pz_end (Gparser.mk p.l rv79.2.at_ rv79.2.Err)) fun rv86 hg87 => ?_
   have hc88 := fn86 pP (Gparser.mk p.l rv79.2.at_ rv79.2.Err) pa0 pk0 pre pre pre rv86 hg87
   refine Oc [1, 4] ca86 hc88 ?_
   rintro - ⟨he89, he90, he91⟩
   unfold i64ok at he89 he90
   have he91 : (0 ≤ rv86.at_ ∧ rv86.at_ ≤ (p.l.length : Int)) := he91
   refine KS ?_
   refine Oq (VldA sh59 1) (Ost (Scl [4] sh59 [vi 4, .string (bs rv79.1), .slice none 0 0, .slice none 0 0]) (KS ?_))
   refine Jl [] (Ent.slNil (α := Str)) ?_
   have hq := q4 hrr ((GStmt.mk 4 rv79.1 [] []), (Gparser.mk p.l rv86.at_ rv86.Err)) (by simp only [pz_stmt, h7, h9, h16, h58, h77, hg5, hg80, hg87, cs4]); subst hq
   exact Kr (.slice none 0 0, .slice none 0 0) rfl (.cellN 1 rfl sh59 rfl (reads_Cl _ _) rfl .nil) [0, 0, 2] en
  intro h77
  have g92 := ne_of_beq_false h77
  refine KS ?_
  refine Oq (VeqS (l := (p.l.getD p.at_.toNat default).Text) (m := (Str.mk [115, 105, 110, 107]))) (Oq Va (KS ?_))
  refine Kc ?_ ?_
  ·intro h93
   have g94 := eq_of_beq h93
   refine KS ?_
   refine Oq Vm ?_
   refine letv (pz_name (Gparser.mk p.l (p.at_ + 1) p.Err)) fun rv95 hg96 => ?_
   have hc97 := fn85 pP (Gparser.mk p.l (p.at_ + 1) p.Err) pa0 pk0 pre pre pre rv95 hg96
   refine Oc [0, 4] ca85 hc97 ?_
   rintro - ⟨he98, he99, he100, he101⟩
   unfold i64ok at he99 he100
   have he101 : (0 ≤ rv95.2.at_ ∧ rv95.2.at_ ≤ (p.l.length : Int)) := he101
   refine Oa (AsV sl51 sz51 [.string (bs rv95.1)] [.string (bs rv95.1)]) fun c102 => ?_
   refine Jo 0 ?_; rintro a103 k104 rfl
   refine Oq (Vfa fo59_0 4) (Ost (SclF [4] sh3 [vi 5, .string (bs (Str.mk [])), .slice none 0 0, .slice none 0 0]) (Oq (Vfa fo59_2 0) (Ost (SclF [0] sh51 [vi 5, .string (bs (Str.mk [])), .slice a103 1 k104, .slice none 0 0]) (KS ?_))))
   refine Oq Vm ?_
   refine letv (pz_end (Gparser.mk p.l rv95.2.at_ rv95.2.Err)) fun rv105 hg106 => ?_
   have hc107 := fn86 pP (Gparser.mk p.l rv95.2.at_ rv95.2.Err) pa0 pk0 pre pre pre rv105 hg106
   refine Oc [2, 5] ca86 hc107 ?_
   rintro - ⟨he108, he109, he110⟩
   unfold i64ok at he108 he109
   have he110 : (0 ≤ rv105.at_ ∧ rv105.at_ ≤ (p.l.length : Int)) := he110
   refine KS ?_
   refine Oq (VldA sh59 1) (Ost (Scl [5] sh59 [vi 5, .string (bs (Str.mk [])), .slice a103 1 k104, .slice none 0 0]) (KS ?_))
   refine Jl [3] (Ent.cr1 (α := Str) (A := []) _ rv95.1 _ aB1 (fun _ => ⟨rfl, aS1⟩)) ?_
   refine Jl [0] (Ent.freeze _ _) ?_
   refine Jl [] (Ent.slNil (α := Str)) ?_
   have hq := q4 hrr ((GStmt.mk 5 (Str.mk []) [rv95.1] []), (Gparser.mk p.l rv105.at_ rv105.Err)) (by simp only [pz_stmt, h7, h9, h16, h58, h77, h93, hg5, hg96, hg106, cs4]); subst hq
   exact Kr (.slice a103 1 k104, .slice none 0 0) rfl (.cellN 2 rfl sh59 rfl (reads_Cl _ _) rfl .nil) [1, 0, 3] en
  intro h93
  have g111 := ne_of_beq_false h93
  refine KS ?_
  refine Oq (VeqS (l := (p.l.getD p.at_.toNat default).Text) (m := (Str.mk [115, 97, 110, 105, 116, 105, 122, 101]))) (Oq Va (KS ?_))
  refine Kc ?_ ?_
  ·intro h112
   have g113 := eq_of_beq h112
   refine KS ?_
   refine Oq Vm ?_
   refine letv (pz_name (Gparser.mk p.l (p.at_ + 1) p.Err)) fun rv114 hg115 => ?_
   have hc116 := fn85 pP (Gparser.mk p.l (p.at_ + 1) p.Err) pa0 pk0 pre pre pre rv114 hg115
   refine Oc [0, 4] ca85 hc116 ?_
   rintro - ⟨he117, he118, he119, he120⟩
   unfold i64ok at he118 he119
   have he120 : (0 ≤ rv114.2.at_ ∧ rv114.2.at_ ≤ (p.l.length : Int)) := he120
   refine Oq (Vfa fo59_0 3) (Ost (SclF [3] sh3 [vi 6, .string (bs (Str.mk [])), .slice none 0 0, .slice none 0 0]) (Oq (Vfa fo59_1 0) (Ost (SclF [0] sh9 [vi 6, .string (bs rv114.1), .slice none 0 0, .slice none 0 0]) (KS ?_))))
   refine Oq Vm ?_
   refine letv (pz_end (Gparser.mk p.l rv114.2.at_ rv114.2.Err)) fun rv121 hg122 => ?_
   have hc123 := fn86 pP (Gparser.mk p.l rv114.2.at_ rv114.2.Err) pa0 pk0 pre pre pre rv121 hg122
   refine Oc [1, 4] ca86 hc123 ?_
   rintro - ⟨he124, he125, he126⟩
   unfold i64ok at he124 he125
   have he126 : (0 ≤ rv121.at_ ∧ rv121.at_ ≤ (p.l.length : Int)) := he126
   refine KS ?_
   refine Oq (VldA sh59 1) (Ost (Scl [4] sh59 [vi 6, .string (bs rv114.1), .slice none 0 0, .slice none 0 0]) (KS ?_))
   refine Jl [] (Ent.slNil (α := Str)) ?_
   have hq := q4 hrr ((GStmt.mk 6 rv114.1 [] []), (Gparser.mk p.l rv121.at_ rv121.Err)) (by simp only [pz_stmt, h7, h9, h16, h58, h77, h93, h112, hg5, hg115, hg122, cs4]); subst hq
   exact Kr (.slice none 0 0, .slice none 0 0) rfl (.cellN 1 rfl sh59 rfl (reads_Cl _ _) rfl .nil) [0, 0, 2] en
  intro h112
  have g127 := ne_of_beq_false h112
  refine KS ?_
  refine Oq (VeqS (l := (p.l.getD p.at_.toNat default).Text) (m := (Str.mk [103, 111, 116, 111]))) (Oq Va (KS ?_))
  refine Kc ?_ ?_
  ·intro h128
   have g129 := eq_of_beq h128
   refine KS ?_
   refine Oq Vm ?_
   refine letv (pz_name (Gparser.mk p.l (p.at_ + 1) p.Err)) fun rv130 hg131 => ?_
   have hc132 := fn85 pP (Gparser.mk p.l (p.at_ + 1) p.Err) pa0 pk0 pre pre pre rv130 hg131
   refine Oc [0, 4] ca85 hc132 ?_
   rintro - ⟨he133, he134, he135, he136⟩
   unfold i64ok at he134 he135
   have he136 : (0 ≤ rv130.2.at_ ∧ rv130.2.at_ ≤ (p.l.length : Int)) := he136
   refine Oa (AsV sl51 sz51 [.string (bs rv130.1)] [.string (bs rv130.1)]) fun c137 => ?_
   refine Jo 0 ?_; rintro a138 k139 rfl
   refine Oq (Vfa fo59_0 4) (Ost (SclF [4] sh3 [vi 7, .string (bs (Str.mk [])), .slice none 0 0, .slice none 0 0]) (Oq (Vfa fo59_3 0) (Ost (SclF [0] sh51 [vi 7, .string (bs (Str.mk [])), .slice none 0 0, .slice a138 1 k139]) (KS ?_))))
   refine Oq Vm ?_
   refine letv (pz_end (Gparser.mk p.l rv130.2.at_ rv130.2.Err)) fun rv140 hg141 => ?_
   have hc142 := fn86 pP (Gparser.mk p.l rv130.2.at_ rv130.2.Err) pa0 pk0 pre pre pre rv140 hg141
   refine Oc [2, 5] ca86 hc142 ?_
   rintro - ⟨he143, he144, he145⟩
   unfold i64ok at he143 he144
   have he145 : (0 ≤ rv140.at_ ∧ rv140.at_ ≤ (p.l.length : Int)) := he145
   refine KS ?_
   refine Oq (VldA sh59 1) (Ost (Scl [5] sh59 [vi 7, .string (bs (Str.mk [])), .slice none 0 0, .slice a138 1 k139]) (KS ?_))
   refine Jl [3] (Ent.cr1 (α := Str) (A := []) _ rv130.1 _ aB1 (fun _ => ⟨rfl, aS1⟩)) ?_
   refine Jl [0] (Ent.freeze _ _) ?_
   refine Jl [] (Ent.slNil (α := Str)) ?_
   have hq := q4 hrr ((GStmt.mk 7 (Str.mk []) [] [rv130.1]), (Gparser.mk p.l rv140.at_ rv140.Err)) (by simp only [pz_stmt, h7, h9, h16, h58, h77, h93, h112, h128, hg5, hg131, hg141, cs4]); subst hq
   exact Kr (.slice none 0 0, .slice a138 1 k139) rfl (.cellN 2 rfl sh59 rfl (reads_Cl _ _) rfl .nil) [0, 1, 3] en
  intro h128
  have g146 := ne_of_beq_false h128
  refine KS ?_
  refine Oq (VeqS (l := (p.l.getD p.at_.toNat default).Text) (m := (Str.mk [98, 114, 97, 110, 99, 104]))) (Oq Va (KS ?_))
  refine Kc ?_ ?_
  ·intro h147
   have g148 := eq_of_beq h147
   refine KS ?_
   refine Oq Vm ?_
   refine letv (pz_name (Gparser.mk p.l (p.at_ + 1) p.Err)) fun rv149 hg150 => ?_
   have hc151 := fn85 pP (Gparser.mk p.l (p.at_ + 1) p.Err) pa0 pk0 pre pre pre rv149 hg150
   refine Oc [0, 4] ca85 hc151 ?_
   rintro - ⟨he152, he153, he154, he155⟩
   unfold i64ok at he153 he154
   have he155 : (0 ≤ rv149.2.at_ ∧ rv149.2.at_ ≤ (p.l.length : Int)) := he155
   refine Oa (AsV sl51 sz51 [.string (bs rv149.1)] [.string (bs rv149.1)]) fun c156 => ?_
   refine Jo 0 ?_; rintro a157 k158 rfl
   refine Oq (Vfa fo59_0 4) (Ost (SclF [4] sh3 [vi 8, .string (bs (Str.mk [])), .slice none 0 0, .slice none 0 0]) (Oq (Vfa fo59_2 0) (Ost (SclF [0] sh51 [vi 8, .string (bs (Str.mk [])), .slice a157 1 k158, .slice none 0 0]) (KS ?_))))
   refine Oq Vm ?_
   refine letv (pz_name (Gparser.mk p.l rv149.2.at_ rv149.2.Err)) fun rv159 hg160 => ?_
   have hc161 := fn85 pP (Gparser.mk p.l rv149.2.at_ rv149.2.Err) pa0 pk0 pre pre pre rv159 hg160
   refine Oc [2, 5] ca85 hc161 ?_
   rintro - ⟨he162, he163, he164, he165⟩
   unfold i64ok at he163 he164
   have he165 : (0 ≤ rv159.2.at_ ∧ rv159.2.at_ ≤ (p.l.length : Int)) := he165
   refine Oa (AsV sl51 sz51 [.string (bs rv159.1)] [.string (bs rv159.1)]) fun c166 => ?_
   refine Jo 0 ?_; rintro a167 k168 rfl
   refine Oq (Vfa fo59_3 2) (Ost (SclF [2] sh51 [vi 8, .string (bs (Str.mk [])), .slice a157 1 k158, .slice a167 1 k168]) (KS ?_))
   refine Jp 0 fun hp169 => ?_
   refine JK_drawK [0, 1, 0, 4, 12, 31, 63, 127] fmix ?_
   refine Dv [0] (Vfa fo59_3 0) (Dv [1] (VldF sh51 0) (Dv [] Vm ?_))
   refine letv (pz_name (Gparser.mk p.l rv159.2.at_ rv159.2.Err)) fun rv170 hg171 => ?_
   refine Dx [3, 8] [3] [2, 0, 1] (fun G => .string (bs rv170.1)) [fun G => SP.fact (rv170.1.b.length ≤ 140737488355328 ∧ i64ok rv170.2.at_ ∧ i64ok rv170.2.Err ∧ (0 ≤ rv170.2.at_ ∧ rv170.2.at_ ≤ ((Gparser.mk p.l rv159.2.at_ rv159.2.Err).l.length : Int))), fun G => Cl pP [vl pa0 pk0 p.l, vi rv170.2.at_, vi rv170.2.Err]] (fun G => xC [0, 0] ca85 (fn85 pP (Gparser.mk p.l rv159.2.at_ rv159.2.Err) pa0 pk0 pre pre pre rv170 hg171)) (Dx [] [] [0] (fun G => (G.g 4 0)) [fun G => Cr (G.g 4 0) 1 [.string (bs rv170.1)]] (fun G => xA (AsV sl51 sz51 [.string (bs rv170.1)] [.string (bs rv170.1)])) ?_)
   have hn174 : ([rv159.1] ++ [rv170.1] : List Str).length = 1 + 1 := la ([rv159.1] : List Str) ([rv170.1] : List Str)
   refine Dx [2, 9, 11] [2, 11] [1, 0] (fun G => (G.g 5 0)) [fun G => os (G.g 5 0) (([rv159.1] ++ [rv170.1]) : List Str)] (fun G => by refine xf 1 rfl ?_; rintro ⟨he175, he176, he177, he178⟩; unfold i64ok at he176 he177; exact xp [0] rfl (Ent.cr1 (α := Str) (A := []) _ rv159.1 _ aB1 (fun _ => ⟨rfl, aS1⟩)) (xp [2] rfl (Ent.cr1 (α := Str) (A := []) _ rv170.1 _ aB1 (fun _ => ⟨rfl, aS1⟩)) (xA (ApO [1, 0] sl51 sl51 sz51)))) (Dv [0] (Vfa fo59_3 0) (Dx0 [1, 12] [1] [1, 0] [fun G => Cl p3 [vi 8, .string (bs (Str.mk [])), .slice a157 1 k158, (G.g 5 0)]] (fun G => x1 1 rfl os_one fun ho179 => (xS (OpS.frame [0] rfl (OpS.storeClF [(G.g 5 0)] [vi 8, .string (bs (Str.mk [])), .slice a157 1 k158, (G.g 5 0)] rfl rfl rfl sh51 (cells_of_one ho179) rfl (by simp only [List.all_cons, List.all_nil, ho179, Bool.and_true, Bool.true_and] <;> rfl) aB1 rfl)))) ?_))
   refine Dn ⟨by kernel_rfl, fun G => ?_⟩
   refine Jw2 [(0, pP), (2, p2), (3, p3)] [0, 4, 5, 6, 7, 8] [SP.fact (rv170.1.b.length ≤ 140737488355328 ∧ i64ok rv170.2.at_ ∧ i64ok rv170.2.Err ∧ (0 ≤ rv170.2.at_ ∧ rv170.2.at_ ≤ ((Gparser.mk p.l rv159.2.at_ rv159.2.Err).l.length : Int))), Cl pP [vl pa0 pk0 p.l, vi rv170.2.at_, vi rv170.2.Err], os (G.g 5 0) (([rv159.1] ++ [rv170.1]) : List Str), Cl p3 [vi 8, .string (bs (Str.mk [])), .slice a157 1 k158, (G.g 5 0)]] ?_
   generalize G.g 5 0 = c173
   refine Jf 6 rfl ?_; rintro ⟨he180, he181, he182, he183⟩
   unfold i64ok at he181 he182
   refine Jk [1, 1, 3, 3, 5, 5, 5] ?_
   refine Jo 5 ?_; rintro a184 k185 rfl
   refine Fb 16 5 fun _ => ?_
   refine FoS 5 fun ho187 => ?_
   refine KS ?_
   refine Oq Vm ?_
   refine letv (pz_end (Gparser.mk p.l rv170.2.at_ rv170.2.Err)) fun rv188 hg189 => ?_
   have hc190 := fn86 pP (Gparser.mk p.l rv170.2.at_ rv170.2.Err) pa0 pk0 pre pre pre rv188 hg189
   refine Oc [4, 3] ca86 hc190 ?_
   rintro - ⟨he191, he192, he193⟩
   unfold i64ok at he191 he192
   have he193 : (0 ≤ rv188.at_ ∧ rv188.at_ ≤ (p.l.length : Int)) := he193
   refine KS ?_
   refine Oq (VldA sh59 6) (Ost (Scl [3] sh59 [vi 8, .string (bs (Str.mk [])), .slice a157 1 k158, vl a184 k185 ([rv159.1] ++ [rv170.1])]) (KS ?_))
   refine Jl [2] (Ent.cr1 (α := Str) (A := []) _ rv149.1 _ aB1 (fun _ => ⟨rfl, aS1⟩)) ?_
   refine Jl [0] (Ent.freeze _ _) ?_
   refine Jl [5] (Ent.freeze _ _) ?_
   have hq := q4 hrr ((GStmt.mk 8 (Str.mk []) [rv149.1] ([rv159.1] ++ [rv170.1])), (Gparser.mk p.l rv188.at_ rv188.Err)) (by simp only [pz_stmt, h7, h9, h16, h58, h77, h93, h112, h128, h147, hg5, hg150, hg160, hg171, hg189, cs4]); subst hq
   exact Kr (.slice a157 1 k158, vl a184 k185 ([rv159.1] ++ [rv170.1])) rfl (.cellN 2 rfl sh59 rfl (reads_Cl _ _) rfl .nil) [1, 0, 3] en
  intro h147
  have g194 := ne_of_beq_false h147
  refine KS ?_
  refine Oq (VeqS (l := (p.l.getD p.at_.toNat default).Text) (m := (Str.mk [114, 101, 116, 117, 114, 110]))) (Oq Va (KS ?_))
  refine Kc ?_ ?_
  ·intro h195
   have g196 := eq_of_beq h195
   refine KS ?_
   refine Oq (Vfa fo59_0 3) (Ost (SclF [3] sh3 [vi 9, .string (bs (Str.mk [])), .slice none 0 0, .slice none 0 0]) (KS ?_))
   refine Oq Vm ?_
   refine letv (pz_end (Gparser.mk p.l (p.at_ + 1) p.Err)) fun rv197 hg198 => ?_
   have hc199 := fn86 pP (Gparser.mk p.l (p.at_ + 1) p.Err) pa0 pk0 pre pre pre rv197 hg198
   refine Oc [1, 4] ca86 hc199 ?_
   rintro - ⟨he200, he201, he202⟩
   unfold i64ok at he200 he201
   have he202 : (0 ≤ rv197.at_ ∧ rv197.at_ ≤ (p.l.length : Int)) := he202
   refine KS ?_
   refine Oq (VldA sh59 1) (Ost (Scl [4] sh59 [vi 9, .string (bs (Str.mk [])), .slice none 0 0, .slice none 0 0]) (KS ?_))
   refine Jl [] (Ent.slNil (α := Str)) ?_
   have hq := q4 hrr ((GStmt.mk 9 (Str.mk []) [] []), (Gparser.mk p.l rv197.at_ rv197.Err)) (by simp only [pz_stmt, h7, h9, h16, h58, h77, h93, h112, h128, h147, h195, hg5, hg198, cs4]); subst hq
   exact Kr (.slice none 0 0, .slice none 0 0) rfl (.cellN 1 rfl sh59 rfl (reads_Cl _ _) rfl .nil) [0, 0, 2] en
  intro h195
  have g203 := ne_of_beq_false h195
  refine KS ?_
  refine Oq Vm ?_
  refine letv (pz_name (Gparser.mk p.l (p.at_ + 1) p.Err)) fun rv204 hg205 => ?_
  have hc206 := fn85 pP (Gparser.mk p.l (p.at_ + 1) p.Err) pa0 pk0 pre pre pre rv204 hg205
  refine Oc [0, 4] ca85 hc206 ?_
  rintro - ⟨he207, he208, he209, he210⟩
  unfold i64ok at he208 he209
  have he210 : (0 ≤ rv204.2.at_ ∧ rv204.2.at_ ≤ (p.l.length : Int)) := he210
  refine Oq (Vfa fo59_0 3) (Ost (SclF [3] sh3 [vi 1, .string (bs (Str.mk [])), .slice none 0 0, .slice none 0 0]) (Oq (Vfa fo59_1 0) (Ost (SclF [0] sh9 [vi 1, .string (bs rv204.1), .slice none 0 0, .slice none 0 0]) (KS ?_))))
  refine Oq Vm ?_
  refine letv (pz_isKind (Gparser.mk p.l rv204.2.at_ rv204.2.Err) 2) fun rv211 hg212 => ?_
  have hc213 := fn119 pP (Gparser.mk p.l rv204.2.at_ rv204.2.Err) pa0 pk0 2 pre pre pre pre rv211 hg212
  refine Oc [1, 4] ca119 hc213 ?_
  rintro - -
  refine Oq Vnot (KS ?_)
  refine Kc ?_ ?_
  ·intro h214
   have h216 := not_true h214
   refine KS ?_
   refine Oq Vm ?_
   refine letv (pz_fail (Gparser.mk p.l rv204.2.at_ rv204.2.Err) 4) fun rv218 hg219 => ?_
   have hc220 := fn53 pP (Gparser.mk p.l rv204.2.at_ rv204.2.Err) pa0 pk0 4 pre pre pre pre rv218 hg219
   refine Oc [0, 4] ca53 hc220 ?_
   rintro - ⟨he221, he222, he223⟩
   unfold i64ok at he221 he222
   have he223 : (0 ≤ rv218.at_ ∧ rv218.at_ ≤ (p.l.length : Int)) := he223
   refine KS ?_
   refine Oq (VldA sh59 1) (Ost (Scl [4] sh59 [vi 1, .string (bs rv204.1), .slice none 0 0, .slice none 0 0]) (KS ?_))
   refine Jl [] (Ent.slNil (α := Str)) ?_
   have hq := q4 hrr ((GStmt.mk 1 rv204.1 [] []), (Gparser.mk p.l rv218.at_ rv218.Err)) (by simp only [pz_stmt, h7, h9, h16, h58, h77, h93, h112, h128, h147, h195, h214, h216, hg5, hg205, hg212, hg219, cs4]); subst hq
   exact Kr (.slice none 0 0, .slice none 0 0) rfl (.cellN 1 rfl sh59 rfl (reads_Cl _ _) rfl .nil) [0, 0, 2] en
  intro h214
  have h225 := not_false h214
  try (have hlt := is_lt2 (by assumption : pz_is _ _ = rv211) h225; try dsimp only at hlt)
  try (have hlt := isName_lt2 (by assumption : pz_isName _ = rv211) h225; try dsimp only at hlt)
  try (have hlt := isKind_lt2 (by assumption : pz_isKind _ _ = rv211) h225; try dsimp only at hlt)
  refine KS ?_
  refine Oq Vm (Oq (Vn 0) (Oq (Vfa fo100_1 0) (Oq (VldF sh3 0) (Oq Vadd (Oq (Vn 0) (Oq (Vfa fo100_1 0) (Ost (SclF [0] sh3 [vl pa0 pk0 p.l, vi (rv204.2.at_ + 1), vi rv204.2.Err]) (KS ?_))))))))
  refine Oq Vm ?_
  refine letv (pz_names (Gparser.mk p.l (rv204.2.at_ + 1) rv204.2.Err)) fun rv228 hg229 => ?_
  have hc230 := fn139 pP (Gparser.mk p.l (rv204.2.at_ + 1) rv204.2.Err) pa0 pk0 pre pre pre rv228 hg229
  refine Oc [0, 4] ca139 hc230 ?_
  rintro c227 ⟨he231, he232, he233, he234⟩
  unfold i64ok at he231 he232
  have he233 : (0 ≤ rv228.2.at_ ∧ rv228.2.at_ ≤ (p.l.length : Int)) := he233
  refine Jo 0 ?_; rintro a235 k236 rfl
  refine Fb 16 0 fun _ => ?_
  refine FoS 0 fun ho238 => ?_
  refine Oq (Vfa fo59_2 2) (Ost (SclF [2] sh51 [vi 1, .string (bs rv204.1), vl a235 k236 rv228.1, .slice none 0 0]) (KS ?_))
  refine Oq Vm ?_
  refine letv (pz_end (Gparser.mk p.l rv228.2.at_ rv228.2.Err)) fun rv239 hg240 => ?_
  have hc241 := fn86 pP (Gparser.mk p.l rv228.2.at_ rv228.2.Err) pa0 pk0 pre pre pre rv239 hg240
  refine Oc [2, 5] ca86 hc241 ?_
  rintro - ⟨he242, he243, he244⟩
  unfold i64ok at he242 he243
  have he244 : (0 ≤ rv239.at_ ∧ rv239.at_ ≤ (p.l.length : Int)) := he244
  refine KS ?_
  refine Oq (VldA sh59 1) (Ost (Scl [5] sh59 [vi 1, .string (bs rv204.1), vl a235 k236 rv228.1, .slice none 0 0]) (KS ?_))
  refine Jl [] (Ent.slNil (α := Str)) ?_
  have hq := q4 hrr ((GStmt.mk 1 rv204.1 rv228.1 []), (Gparser.mk p.l rv239.at_ rv239.Err)) (by simp only [pz_stmt, h7, h9, h16, h58, h77, h93, h112, h128, h147, h195, h214, h225, hg5, hg205, hg212, hg229, hg240, cs4]); subst hq
  exact Kr (vl a235 k236 rv228.1, .slice none 0 0) rfl (.cellN 1 rfl sh59 rfl (reads_Cl _ _) rfl .nil) [4, 0, 2] en
 intro h7
 have h246 := not_false h7
 try (have hlt := is_lt2 (by assumption : pz_is _ _ = rv4) h246; try dsimp only at hlt)
 try (have hlt := isName_lt2 (by assumption : pz_isName _ = rv4) h246; try dsimp only at hlt)
 try (have hlt := isKind_lt2 (by assumption : pz_isKind _ _ = rv4) h246; try dsimp only at hlt)
 refine KS ?_
 refine Oq Vm (KS ?_)
 refine Oq (VeqS (l := (Str.mk [])) (m := (Str.mk [117, 115, 101]))) (Oq Va (KS ?_))
 refine Kc ?_ ?_
 ·intro h248
  have g249 := eq_of_beq h248
  refine KS ?_
  refine Oq Vm ?_
  refine letv (pz_name p) fun rv250 hg251 => ?_
  have hc252 := fn85 pP p pa0 pk0 pre pre pre rv250 hg251
  refine Oc [0, 2] ca85 hc252 ?_
  rintro - ⟨he253, he254, he255, he256⟩
  unfold i64ok at he254 he255
  refine Oa (AsV sl51 sz51 [.string (bs rv250.1)] [.string (bs rv250.1)]) fun c257 => ?_
  refine Jo 0 ?_; rintro a258 k259 rfl
  refine Oq (Vfa fo59_0 2) (Ost (SclF [2] sh3 [vi 2, .string (bs (Str.mk [])), .slice none 0 0, .slice none 0 0]) (Oq (Vfa fo59_2 0) (Ost (SclF [0] sh51 [vi 2, .string (bs (Str.mk [])), .slice a258 1 k259, .slice none 0 0]) (KS ?_))))
  refine Jp 0 fun hp260 => ?_
  refine JK_drawK [0, 1, 0, 4, 15, 31, 63] fmix ?_
  refine Dv [0] (Vfa fo59_2 0) (Dv [1] (VldF sh51 0) (Dv [] Vm ?_))
  refine letv (pz_more (Gparser.mk p.l rv250.2.at_ rv250.2.Err) 1) fun rv262 hg263 => Dx [3, 5] [3] [3, 0, 1, 2] (fun G => (G.g 3 0)) [fun G => SP.fact (i64ok rv262.2.at_ ∧ i64ok rv262.2.Err ∧ (0 ≤ rv262.2.at_ ∧ rv262.2.at_ ≤ ((Gparser.mk p.l rv250.2.at_ rv250.2.Err).l.length : Int)) ∧ (rv262.1.length ≤ 3)), fun G => sl (G.g 3 0) rv262.1, fun G => Cl pP [vl pa0 pk0 p.l, vi rv262.2.at_, vi rv262.2.Err]] (fun G => xC [0, 0] ca138 (fn138 pP (Gparser.mk p.l rv250.2.at_ rv250.2.Err) pa0 pk0 1 pre pre pre pre pre rv262 hg263)) ?_
  have hn265 : ([rv250.1] ++ rv262.1 : List Str).length = 1 + rv262.1.length := la ([rv250.1] : List Str) rv262.1
  refine Dx [2, 6, 7] [2] [1, 2, 0] (fun G => (G.g 4 0)) [fun G => os (G.g 4 0) (([rv250.1] ++ rv262.1) : List Str)] (fun G => by refine xf 1 rfl ?_; rintro ⟨he266, he267, he268, he269⟩; unfold i64ok at he266 he267; exact xp [0] rfl (Ent.cr1 (α := Str) (A := []) _ rv250.1 _ aB1 (fun _ => ⟨rfl, aS1⟩)) (xA (Ap [0, 1] sl51 sl51 sz51))) (Dv [0] (Vfa fo59_2 0) (Dx0 [1, 9] [1] [1, 0] [fun G => Cl p3 [vi 2, .string (bs (Str.mk [])), (G.g 4 0), .slice none 0 0]] (fun G => x1 1 rfl os_one fun ho270 => (xS (OpS.frame [0] rfl (OpS.storeClF [(G.g 4 0)] [vi 2, .string (bs (Str.mk [])), (G.g 4 0), .slice none 0 0] rfl rfl rfl sh51 (cells_of_one ho270) rfl (by simp only [List.all_cons, List.all_nil, ho270, Bool.and_true, Bool.true_and] <;> rfl) aB1 rfl)))) ?_))
  refine Dn ⟨by kernel_rfl, fun G => ?_⟩
  refine Jw2 [(0, pP), (2, p2), (3, p3)] [0, 4, 5] [SP.fact (i64ok rv262.2.at_ ∧ i64ok rv262.2.Err ∧ (0 ≤ rv262.2.at_ ∧ rv262.2.at_ ≤ ((Gparser.mk p.l rv250.2.at_ rv250.2.Err).l.length : Int)) ∧ (rv262.1.length ≤ 3)), sl (G.g 3 0) rv262.1, Cl pP [vl pa0 pk0 p.l, vi rv262.2.at_, vi rv262.2.Err], os (G.g 4 0) (([rv250.1] ++ rv262.1) : List Str), Cl p3 [vi 2, .string (bs (Str.mk [])), (G.g 4 0), .slice none 0 0]] ?_
  generalize G.g 3 0 = c261, G.g 4 0 = c264
  refine Jf 3 rfl ?_; rintro ⟨he271, he272, he273, he274⟩
  unfold i64ok at he271 he272
  refine Jk [1, 1, 3, 4, 4, 4] ?_
  refine Jo 2 ?_; rintro a275 k276 rfl
  refine Fb 16 2 fun _ => ?_
  refine FoS 2 fun ho278 => ?_
  refine Jo 4 ?_; rintro a279 k280 rfl
  refine Fb 16 4 fun _ => ?_
  refine FoS 4 fun ho282 => ?_
  refine KS ?_
  refine Oq Vm ?_
  refine letv (pz_end (Gparser.mk p.l rv262.2.at_ rv262.2.Err)) fun rv283 hg284 => ?_
  have hc285 := fn86 pP (Gparser.mk p.l rv262.2.at_ rv262.2.Err) pa0 pk0 pre pre pre rv283 hg284
  refine Oc [3, 1] ca86 hc285 ?_
  rintro - ⟨he286, he287, he288⟩
  unfold i64ok at he286 he287
  have he288 : (0 ≤ rv283.at_ ∧ rv283.at_ ≤ (p.l.length : Int)) := he288
  refine KS ?_
  refine Oq (VldA sh59 5) (Ost (Scl [1] sh59 [vi 2, .string (bs (Str.mk [])), vl a279 k280 ([rv250.1] ++ rv262.1), .slice none 0 0]) (KS ?_))
  refine Jl [4] (Ent.freeze _ _) ?_
  refine Jl [] (Ent.slNil (α := Str)) ?_
  have hq := q4 hrr ((GStmt.mk 2 (Str.mk []) ([rv250.1] ++ rv262.1) []), (Gparser.mk p.l rv283.at_ rv283.Err)) (by simp only [pz_stmt, h7, h246, h248, hg5, hg251, hg263, hg284, cs4]); subst hq
  exact Kr (vl a279 k280 ([rv250.1] ++ rv262.1), .slice none 0 0) rfl (.cellN 2 rfl sh59 rfl (reads_Cl _ _) rfl .nil) [1, 0, 3] en
 intro h248
 have g289 := ne_of_beq_false h248
 refine KS ?_
 refine Oq (VeqS (l := (Str.mk [])) (m := (Str.mk [99, 97, 108, 108]))) (Oq Va (KS ?_))
 refine Kc ?_ ?_
 ·intro h290
  have g291 := eq_of_beq h290
  refine KS ?_
  refine Oq Vm ?_
  refine letv (pz_name p) fun rv292 hg293 => ?_
  have hc294 := fn85 pP p pa0 pk0 pre pre pre rv292 hg293
  refine Oc [0, 2] ca85 hc294 ?_
  rintro - ⟨he295, he296, he297, he298⟩
  unfold i64ok at he296 he297
  refine Oa (AsV sl51 sz51 [.string (bs rv292.1)] [.string (bs rv292.1)]) fun c299 => ?_
  refine Jo 0 ?_; rintro a300 k301 rfl
  refine Oq (Vfa fo59_0 2) (Ost (SclF [2] sh3 [vi 3, .string (bs (Str.mk [])), .slice none 0 0, .slice none 0 0]) (Oq (Vfa fo59_3 0) (Ost (SclF [0] sh51 [vi 3, .string (bs (Str.mk [])), .slice none 0 0, .slice a300 1 k301]) (KS ?_))))
  refine Oq Vm ?_
  refine letv (pz_end (Gparser.mk p.l rv292.2.at_ rv292.2.Err)) fun rv302 hg303 => ?_
  have hc304 := fn86 pP (Gparser.mk p.l rv292.2.at_ rv292.2.Err) pa0 pk0 pre pre pre rv302 hg303
  refine Oc [2, 3] ca86 hc304 ?_
  rintro - ⟨he305, he306, he307⟩
  unfold i64ok at he305 he306
  have he307 : (0 ≤ rv302.at_ ∧ rv302.at_ ≤ (p.l.length : Int)) := he307
  refine KS ?_
  refine Oq (VldA sh59 1) (Ost (Scl [3] sh59 [vi 3, .string (bs (Str.mk [])), .slice none 0 0, .slice a300 1 k301]) (KS ?_))
  refine Jl [3] (Ent.cr1 (α := Str) (A := []) _ rv292.1 _ aB1 (fun _ => ⟨rfl, aS1⟩)) ?_
  refine Jl [0] (Ent.freeze _ _) ?_
  refine Jl [] (Ent.slNil (α := Str)) ?_
  have hq := q4 hrr ((GStmt.mk 3 (Str.mk []) [] [rv292.1]), (Gparser.mk p.l rv302.at_ rv302.Err)) (by simp only [pz_stmt, h7, h246, h248, h290, hg5, hg293, hg303, cs4]); subst hq
  exact Kr (.slice none 0 0, .slice a300 1 k301) rfl (.cellN 2 rfl sh59 rfl (reads_Cl _ _) rfl .nil) [0, 1, 3] en
 intro h290
 have g308 := ne_of_beq_false h290
 refine KS ?_
 refine Oq (VeqS (l := (Str.mk [])) (m := (Str.mk [115, 111, 117, 114, 99, 101]))) (Oq Va (KS ?_))
 refine Kc ?_ ?_
 ·intro h309
  have g310 := eq_of_beq h309
  refine KS ?_
  refine Oq Vm ?_
  refine letv (pz_name p) fun rv311 hg312 => ?_
  have hc313 := fn85 pP p pa0 pk0 pre pre pre rv311 hg312
  refine Oc [0, 2] ca85 hc313 ?_
  rintro - ⟨he314, he315, he316, he317⟩
  unfold i64ok at he315 he316
  refine Oq (Vfa fo59_0 1) (Ost (SclF [1] sh3 [vi 4, .string (bs (Str.mk [])), .slice none 0 0, .slice none 0 0]) (Oq (Vfa fo59_1 0) (Ost (SclF [0] sh9 [vi 4, .string (bs rv311.1), .slice none 0 0, .slice none 0 0]) (KS ?_))))
  refine Oq Vm ?_
  refine letv (pz_end (Gparser.mk p.l rv311.2.at_ rv311.2.Err)) fun rv318 hg319 => ?_
  have hc320 := fn86 pP (Gparser.mk p.l rv311.2.at_ rv311.2.Err) pa0 pk0 pre pre pre rv318 hg319
  refine Oc [1, 2] ca86 hc320 ?_
  rintro - ⟨he321, he322, he323⟩
  unfold i64ok at he321 he322
  have he323 : (0 ≤ rv318.at_ ∧ rv318.at_ ≤ (p.l.length : Int)) := he323
  refine KS ?_
  refine Oq (VldA sh59 1) (Ost (Scl [2] sh59 [vi 4, .string (bs rv311.1), .slice none 0 0, .slice none 0 0]) (KS ?_))
  refine Jl [] (Ent.slNil (α := Str)) ?_
  have hq := q4 hrr ((GStmt.mk 4 rv311.1 [] []), (Gparser.mk p.l rv318.at_ rv318.Err)) (by simp only [pz_stmt, h7, h246, h248, h290, h309, hg5, hg312, hg319, cs4]); subst hq
  exact Kr (.slice none 0 0, .slice none 0 0) rfl (.cellN 1 rfl sh59 rfl (reads_Cl _ _) rfl .nil) [0, 0, 2] en
 intro h309
 have g324 := ne_of_beq_false h309
 refine KS ?_
 refine Oq (VeqS (l := (Str.mk [])) (m := (Str.mk [115, 105, 110, 107]))) (Oq Va (KS ?_))
 refine Kc ?_ ?_
 ·intro h325
  have g326 := eq_of_beq h325
  refine KS ?_
  refine Oq Vm ?_
  refine letv (pz_name p) fun rv327 hg328 => ?_
  have hc329 := fn85 pP p pa0 pk0 pre pre pre rv327 hg328
  refine Oc [0, 2] ca85 hc329 ?_
  rintro - ⟨he330, he331, he332, he333⟩
  unfold i64ok at he331 he332
  refine Oa (AsV sl51 sz51 [.string (bs rv327.1)] [.string (bs rv327.1)]) fun c334 => ?_
  refine Jo 0 ?_; rintro a335 k336 rfl
  refine Oq (Vfa fo59_0 2) (Ost (SclF [2] sh3 [vi 5, .string (bs (Str.mk [])), .slice none 0 0, .slice none 0 0]) (Oq (Vfa fo59_2 0) (Ost (SclF [0] sh51 [vi 5, .string (bs (Str.mk [])), .slice a335 1 k336, .slice none 0 0]) (KS ?_))))
  refine Oq Vm ?_
  refine letv (pz_end (Gparser.mk p.l rv327.2.at_ rv327.2.Err)) fun rv337 hg338 => ?_
  have hc339 := fn86 pP (Gparser.mk p.l rv327.2.at_ rv327.2.Err) pa0 pk0 pre pre pre rv337 hg338
  refine Oc [2, 3] ca86 hc339 ?_
  rintro - ⟨he340, he341, he342⟩
  unfold i64ok at he340 he341
  have he342 : (0 ≤ rv337.at_ ∧ rv337.at_ ≤ (p.l.length : Int)) := he342
  refine KS ?_
  refine Oq (VldA sh59 1) (Ost (Scl [3] sh59 [vi 5, .string (bs (Str.mk [])), .slice a335 1 k336, .slice none 0 0]) (KS ?_))
  refine Jl [3] (Ent.cr1 (α := Str) (A := []) _ rv327.1 _ aB1 (fun _ => ⟨rfl, aS1⟩)) ?_
  refine Jl [0] (Ent.freeze _ _) ?_
  refine Jl [] (Ent.slNil (α := Str)) ?_
  have hq := q4 hrr ((GStmt.mk 5 (Str.mk []) [rv327.1] []), (Gparser.mk p.l rv337.at_ rv337.Err)) (by simp only [pz_stmt, h7, h246, h248, h290, h309, h325, hg5, hg328, hg338, cs4]); subst hq
  exact Kr (.slice a335 1 k336, .slice none 0 0) rfl (.cellN 2 rfl sh59 rfl (reads_Cl _ _) rfl .nil) [1, 0, 3] en
 intro h325
 have g343 := ne_of_beq_false h325
 refine KS ?_
 refine Oq (VeqS (l := (Str.mk [])) (m := (Str.mk [115, 97, 110, 105, 116, 105, 122, 101]))) (Oq Va (KS ?_))
 refine Kc ?_ ?_
 ·intro h344
  have g345 := eq_of_beq h344
  refine KS ?_
  refine Oq Vm ?_
  refine letv (pz_name p) fun rv346 hg347 => ?_
  have hc348 := fn85 pP p pa0 pk0 pre pre pre rv346 hg347
  refine Oc [0, 2] ca85 hc348 ?_
  rintro - ⟨he349, he350, he351, he352⟩
  unfold i64ok at he350 he351
  refine Oq (Vfa fo59_0 1) (Ost (SclF [1] sh3 [vi 6, .string (bs (Str.mk [])), .slice none 0 0, .slice none 0 0]) (Oq (Vfa fo59_1 0) (Ost (SclF [0] sh9 [vi 6, .string (bs rv346.1), .slice none 0 0, .slice none 0 0]) (KS ?_))))
  refine Oq Vm ?_
  refine letv (pz_end (Gparser.mk p.l rv346.2.at_ rv346.2.Err)) fun rv353 hg354 => ?_
  have hc355 := fn86 pP (Gparser.mk p.l rv346.2.at_ rv346.2.Err) pa0 pk0 pre pre pre rv353 hg354
  refine Oc [1, 2] ca86 hc355 ?_
  rintro - ⟨he356, he357, he358⟩
  unfold i64ok at he356 he357
  have he358 : (0 ≤ rv353.at_ ∧ rv353.at_ ≤ (p.l.length : Int)) := he358
  refine KS ?_
  refine Oq (VldA sh59 1) (Ost (Scl [2] sh59 [vi 6, .string (bs rv346.1), .slice none 0 0, .slice none 0 0]) (KS ?_))
  refine Jl [] (Ent.slNil (α := Str)) ?_
  have hq := q4 hrr ((GStmt.mk 6 rv346.1 [] []), (Gparser.mk p.l rv353.at_ rv353.Err)) (by simp only [pz_stmt, h7, h246, h248, h290, h309, h325, h344, hg5, hg347, hg354, cs4]); subst hq
  exact Kr (.slice none 0 0, .slice none 0 0) rfl (.cellN 1 rfl sh59 rfl (reads_Cl _ _) rfl .nil) [0, 0, 2] en
 intro h344
 have g359 := ne_of_beq_false h344
 refine KS ?_
 refine Oq (VeqS (l := (Str.mk [])) (m := (Str.mk [103, 111, 116, 111]))) (Oq Va (KS ?_))
 refine Kc ?_ ?_
 ·intro h360
  have g361 := eq_of_beq h360
  refine KS ?_
  refine Oq Vm ?_
  refine letv (pz_name p) fun rv362 hg363 => ?_
  have hc364 := fn85 pP p pa0 pk0 pre pre pre rv362 hg363
  refine Oc [0, 2] ca85 hc364 ?_
  rintro - ⟨he365, he366, he367, he368⟩
  unfold i64ok at he366 he367
  refine Oa (AsV sl51 sz51 [.string (bs rv362.1)] [.string (bs rv362.1)]) fun c369 => ?_
  refine Jo 0 ?_; rintro a370 k371 rfl
  refine Oq (Vfa fo59_0 2) (Ost (SclF [2] sh3 [vi 7, .string (bs (Str.mk [])), .slice none 0 0, .slice none 0 0]) (Oq (Vfa fo59_3 0) (Ost (SclF [0] sh51 [vi 7, .string (bs (Str.mk [])), .slice none 0 0, .slice a370 1 k371]) (KS ?_))))
  refine Oq Vm ?_
  refine letv (pz_end (Gparser.mk p.l rv362.2.at_ rv362.2.Err)) fun rv372 hg373 => ?_
  have hc374 := fn86 pP (Gparser.mk p.l rv362.2.at_ rv362.2.Err) pa0 pk0 pre pre pre rv372 hg373
  refine Oc [2, 3] ca86 hc374 ?_
  rintro - ⟨he375, he376, he377⟩
  unfold i64ok at he375 he376
  have he377 : (0 ≤ rv372.at_ ∧ rv372.at_ ≤ (p.l.length : Int)) := he377
  refine KS ?_
  refine Oq (VldA sh59 1) (Ost (Scl [3] sh59 [vi 7, .string (bs (Str.mk [])), .slice none 0 0, .slice a370 1 k371]) (KS ?_))
  refine Jl [3] (Ent.cr1 (α := Str) (A := []) _ rv362.1 _ aB1 (fun _ => ⟨rfl, aS1⟩)) ?_
  refine Jl [0] (Ent.freeze _ _) ?_
  refine Jl [] (Ent.slNil (α := Str)) ?_
  have hq := q4 hrr ((GStmt.mk 7 (Str.mk []) [] [rv362.1]), (Gparser.mk p.l rv372.at_ rv372.Err)) (by simp only [pz_stmt, h7, h246, h248, h290, h309, h325, h344, h360, hg5, hg363, hg373, cs4]); subst hq
  exact Kr (.slice none 0 0, .slice a370 1 k371) rfl (.cellN 2 rfl sh59 rfl (reads_Cl _ _) rfl .nil) [0, 1, 3] en
 intro h360
 have g378 := ne_of_beq_false h360
 refine KS ?_
 refine Oq (VeqS (l := (Str.mk [])) (m := (Str.mk [98, 114, 97, 110, 99, 104]))) (Oq Va (KS ?_))
 refine Kc ?_ ?_
 ·intro h379
  have g380 := eq_of_beq h379
  refine KS ?_
  refine Oq Vm ?_
  refine letv (pz_name p) fun rv381 hg382 => ?_
  have hc383 := fn85 pP p pa0 pk0 pre pre pre rv381 hg382
  refine Oc [0, 2] ca85 hc383 ?_
  rintro - ⟨he384, he385, he386, he387⟩
  unfold i64ok at he385 he386
  refine Oa (AsV sl51 sz51 [.string (bs rv381.1)] [.string (bs rv381.1)]) fun c388 => ?_
  refine Jo 0 ?_; rintro a389 k390 rfl
  refine Oq (Vfa fo59_0 2) (Ost (SclF [2] sh3 [vi 8, .string (bs (Str.mk [])), .slice none 0 0, .slice none 0 0]) (Oq (Vfa fo59_2 0) (Ost (SclF [0] sh51 [vi 8, .string (bs (Str.mk [])), .slice a389 1 k390, .slice none 0 0]) (KS ?_))))
  refine Oq Vm ?_
  refine letv (pz_name (Gparser.mk p.l rv381.2.at_ rv381.2.Err)) fun rv391 hg392 => ?_
  have hc393 := fn85 pP (Gparser.mk p.l rv381.2.at_ rv381.2.Err) pa0 pk0 pre pre pre rv391 hg392
  refine Oc [2, 3] ca85 hc393 ?_
  rintro - ⟨he394, he395, he396, he397⟩
  unfold i64ok at he395 he396
  have he397 : (0 ≤ rv391.2.at_ ∧ rv391.2.at_ ≤ (p.l.length : Int)) := he397
  refine Oa (AsV sl51 sz51 [.string (bs rv391.1)] [.string (bs rv391.1)]) fun c398 => ?_
  refine Jo 0 ?_; rintro a399 k400 rfl
  refine Oq (Vfa fo59_3 2) (Ost (SclF [2] sh51 [vi 8, .string (bs (Str.mk [])), .slice a389 1 k390, .slice a399 1 k400]) (KS ?_))
  refine Jp 0 fun hp401 => ?_
  refine JK_drawK [0, 1, 0, 4, 12, 31, 63, 127] fmix ?_
  refine Dv [0] (Vfa fo59_3 0) (Dv [1] (VldF sh51 0) (Dv [] Vm ?_))
  refine letv (pz_name (Gparser.mk p.l rv391.2.at_ rv391.2.Err)) fun rv402 hg403 => ?_
  refine Dx [3, 6] [3] [2, 0, 1] (fun G => .string (bs rv402.1)) [fun G => SP.fact (rv402.1.b.length ≤ 140737488355328 ∧ i64ok rv402.2.at_ ∧ i64ok rv402.2.Err ∧ (0 ≤ rv402.2.at_ ∧ rv402.2.at_ ≤ ((Gparser.mk p.l rv391.2.at_ rv391.2.Err).l.length : Int))), fun G => Cl pP [vl pa0 pk0 p.l, vi rv402.2.at_, vi rv402.2.Err]] (fun G => xC [0, 0] ca85 (fn85 pP (Gparser.mk p.l rv391.2.at_ rv391.2.Err) pa0 pk0 pre pre pre rv402 hg403)) (Dx [] [] [0] (fun G => (G.g 4 0)) [fun G => Cr (G.g 4 0) 1 [.string (bs rv402.1)]] (fun G => xA (AsV sl51 sz51 [.string (bs rv402.1)] [.string (bs rv402.1)])) ?_)
  have hn406 : ([rv391.1] ++ [rv402.1] : List Str).length = 1 + 1 := la ([rv391.1] : List Str) ([rv402.1] : List Str)
  refine Dx [2, 7, 9] [2, 9] [1, 0] (fun G => (G.g 5 0)) [fun G => os (G.g 5 0) (([rv391.1] ++ [rv402.1]) : List Str)] (fun G => by refine xf 1 rfl ?_; rintro ⟨he407, he408, he409, he410⟩; unfold i64ok at he408 he409; exact xp [0] rfl (Ent.cr1 (α := Str) (A := []) _ rv391.1 _ aB1 (fun _ => ⟨rfl, aS1⟩)) (xp [2] rfl (Ent.cr1 (α := Str) (A := []) _ rv402.1 _ aB1 (fun _ => ⟨rfl, aS1⟩)) (xA (ApO [1, 0] sl51 sl51 sz51)))) (Dv [0] (Vfa fo59_3 0) (Dx0 [1, 10] [1] [1, 0] [fun G => Cl p3 [vi 8, .string (bs (Str.mk [])), .slice a389 1 k390, (G.g 5 0)]] (fun G => x1 1 rfl os_one fun ho411 => (xS (OpS.frame [0] rfl (OpS.storeClF [(G.g 5 0)] [vi 8, .string (bs (Str.mk [])), .slice a389 1 k390, (G.g 5 0)] rfl rfl rfl sh51 (cells_of_one ho411) rfl (by simp only [List.all_cons, List.all_nil, ho411, Bool.and_true, Bool.true_and] <;> rfl) aB1 rfl)))) ?_))
  refine Dn ⟨by kernel_rfl, fun G => ?_⟩
  refine Jw2 [(0, pP), (2, p2), (3, p3)] [0, 4, 5, 6] [SP.fact (rv402.1.b.length ≤ 140737488355328 ∧ i64ok rv402.2.at_ ∧ i64ok rv402.2.Err ∧ (0 ≤ rv402.2.at_ ∧ rv402.2.at_ ≤ ((Gparser.mk p.l rv391.2.at_ rv391.2.Err).l.length : Int))), Cl pP [vl pa0 pk0 p.l, vi rv402.2.at_, vi rv402.2.Err], os (G.g 5 0) (([rv391.1] ++ [rv402.1]) : List Str), Cl p3 [vi 8, .string (bs (Str.mk [])), .slice a389 1 k390, (G.g 5 0)]] ?_
  generalize G.g 5 0 = c405
  refine Jf 4 rfl ?_; rintro ⟨he412, he413, he414, he415⟩
  unfold i64ok at he413 he414
  refine Jk [1, 1, 1, 3, 3, 3] ?_
  refine Jo 4 ?_; rintro a416 k417 rfl
  refine Fb 16 4 fun _ => ?_
  refine FoS 4 fun ho419 => ?_
  refine KS ?_
  refine Oq Vm ?_
  refine letv (pz_end (Gparser.mk p.l rv402.2.at_ rv402.2.Err)) fun rv420 hg421 => ?_
  have hc422 := fn86 pP (Gparser.mk p.l rv402.2.at_ rv402.2.Err) pa0 pk0 pre pre pre rv420 hg421
  refine Oc [3, 2] ca86 hc422 ?_
  rintro - ⟨he423, he424, he425⟩
  unfold i64ok at he423 he424
  have he425 : (0 ≤ rv420.at_ ∧ rv420.at_ ≤ (p.l.length : Int)) := he425
  refine KS ?_
  refine Oq (VldA sh59 5) (Ost (Scl [2] sh59 [vi 8, .string (bs (Str.mk [])), .slice a389 1 k390, vl a416 k417 ([rv391.1] ++ [rv402.1])]) (KS ?_))
  refine Jl [2] (Ent.cr1 (α := Str) (A := []) _ rv381.1 _ aB1 (fun _ => ⟨rfl, aS1⟩)) ?_
  refine Jl [0] (Ent.freeze _ _) ?_
  refine Jl [4] (Ent.freeze _ _) ?_
  have hq := q4 hrr ((GStmt.mk 8 (Str.mk []) [rv381.1] ([rv391.1] ++ [rv402.1])), (Gparser.mk p.l rv420.at_ rv420.Err)) (by simp only [pz_stmt, h7, h246, h248, h290, h309, h325, h344, h360, h379, hg5, hg382, hg392, hg403, hg421, cs4]); subst hq
  exact Kr (.slice a389 1 k390, vl a416 k417 ([rv391.1] ++ [rv402.1])) rfl (.cellN 2 rfl sh59 rfl (reads_Cl _ _) rfl .nil) [1, 0, 3] en
 intro h379
 have g426 := ne_of_beq_false h379
 refine KS ?_
 refine Oq (VeqS (l := (Str.mk [])) (m := (Str.mk [114, 101, 116, 117, 114, 110]))) (Oq Va (KS ?_))
 refine Kc ?_ ?_
 ·intro h427
  have g428 := eq_of_beq h427
  refine KS ?_
  refine Oq (Vfa fo59_0 1) (Ost (SclF [1] sh3 [vi 9, .string (bs (Str.mk [])), .slice none 0 0, .slice none 0 0]) (KS ?_))
  refine Oq Vm ?_
  refine letv (pz_end p) fun rv429 hg430 => ?_
  have hc431 := fn86 pP p pa0 pk0 pre pre pre rv429 hg430
  refine Oc [1, 2] ca86 hc431 ?_
  rintro - ⟨he432, he433, he434⟩
  unfold i64ok at he432 he433
  refine KS ?_
  refine Oq (VldA sh59 1) (Ost (Scl [2] sh59 [vi 9, .string (bs (Str.mk [])), .slice none 0 0, .slice none 0 0]) (KS ?_))
  refine Jl [] (Ent.slNil (α := Str)) ?_
  have hq := q4 hrr ((GStmt.mk 9 (Str.mk []) [] []), (Gparser.mk p.l rv429.at_ rv429.Err)) (by simp only [pz_stmt, h7, h246, h248, h290, h309, h325, h344, h360, h379, h427, hg5, hg430, cs4]); subst hq
  exact Kr (.slice none 0 0, .slice none 0 0) rfl (.cellN 1 rfl sh59 rfl (reads_Cl _ _) rfl .nil) [0, 0, 2] en
 intro h427
 have g435 := ne_of_beq_false h427
 refine KS ?_
 refine Oq Vm ?_
 refine letv (pz_name p) fun rv436 hg437 => ?_
 have hc438 := fn85 pP p pa0 pk0 pre pre pre rv436 hg437
 refine Oc [0, 2] ca85 hc438 ?_
 rintro - ⟨he439, he440, he441, he442⟩
 unfold i64ok at he440 he441
 refine Oq (Vfa fo59_0 1) (Ost (SclF [1] sh3 [vi 1, .string (bs (Str.mk [])), .slice none 0 0, .slice none 0 0]) (Oq (Vfa fo59_1 0) (Ost (SclF [0] sh9 [vi 1, .string (bs rv436.1), .slice none 0 0, .slice none 0 0]) (KS ?_))))
 refine Oq Vm ?_
 refine letv (pz_isKind (Gparser.mk p.l rv436.2.at_ rv436.2.Err) 2) fun rv443 hg444 => ?_
 have hc445 := fn119 pP (Gparser.mk p.l rv436.2.at_ rv436.2.Err) pa0 pk0 2 pre pre pre pre rv443 hg444
 refine Oc [1, 2] ca119 hc445 ?_
 rintro - -
 refine Oq Vnot (KS ?_)
 refine Kc ?_ ?_
 ·intro h446
  have h448 := not_true h446
  refine KS ?_
  refine Oq Vm ?_
  refine letv (pz_fail (Gparser.mk p.l rv436.2.at_ rv436.2.Err) 4) fun rv450 hg451 => ?_
  have hc452 := fn53 pP (Gparser.mk p.l rv436.2.at_ rv436.2.Err) pa0 pk0 4 pre pre pre pre rv450 hg451
  refine Oc [0, 2] ca53 hc452 ?_
  rintro - ⟨he453, he454, he455⟩
  unfold i64ok at he453 he454
  have he455 : (0 ≤ rv450.at_ ∧ rv450.at_ ≤ (p.l.length : Int)) := he455
  refine KS ?_
  refine Oq (VldA sh59 1) (Ost (Scl [2] sh59 [vi 1, .string (bs rv436.1), .slice none 0 0, .slice none 0 0]) (KS ?_))
  refine Jl [] (Ent.slNil (α := Str)) ?_
  have hq := q4 hrr ((GStmt.mk 1 rv436.1 [] []), (Gparser.mk p.l rv450.at_ rv450.Err)) (by simp only [pz_stmt, h7, h246, h248, h290, h309, h325, h344, h360, h379, h427, h446, h448, hg5, hg437, hg444, hg451, cs4]); subst hq
  exact Kr (.slice none 0 0, .slice none 0 0) rfl (.cellN 1 rfl sh59 rfl (reads_Cl _ _) rfl .nil) [0, 0, 2] en
 intro h446
 have h457 := not_false h446
 try (have hlt := is_lt2 (by assumption : pz_is _ _ = rv443) h457; try dsimp only at hlt)
 try (have hlt := isName_lt2 (by assumption : pz_isName _ = rv443) h457; try dsimp only at hlt)
 try (have hlt := isKind_lt2 (by assumption : pz_isKind _ _ = rv443) h457; try dsimp only at hlt)
 refine KS ?_
 refine Oq Vm (Oq (Vn 0) (Oq (Vfa fo100_1 0) (Oq (VldF sh3 0) (Oq Vadd (Oq (Vn 0) (Oq (Vfa fo100_1 0) (Ost (SclF [0] sh3 [vl pa0 pk0 p.l, vi (rv436.2.at_ + 1), vi rv436.2.Err]) (KS ?_))))))))
 refine Oq Vm ?_
 refine letv (pz_names (Gparser.mk p.l (rv436.2.at_ + 1) rv436.2.Err)) fun rv460 hg461 => ?_
 have hc462 := fn139 pP (Gparser.mk p.l (rv436.2.at_ + 1) rv436.2.Err) pa0 pk0 pre pre pre rv460 hg461
 refine Oc [0, 2] ca139 hc462 ?_
 rintro c459 ⟨he463, he464, he465, he466⟩
 unfold i64ok at he463 he464
 have he465 : (0 ≤ rv460.2.at_ ∧ rv460.2.at_ ≤ (p.l.length : Int)) := he465
 refine Jo 0 ?_; rintro a467 k468 rfl
 refine Fb 16 0 fun _ => ?_
 refine FoS 0 fun ho470 => ?_
 refine Oq (Vfa fo59_2 2) (Ost (SclF [2] sh51 [vi 1, .string (bs rv436.1), vl a467 k468 rv460.1, .slice none 0 0]) (KS ?_))
 refine Oq Vm ?_
 refine letv (pz_end (Gparser.mk p.l rv460.2.at_ rv460.2.Err)) fun rv471 hg472 => ?_
 have hc473 := fn86 pP (Gparser.mk p.l rv460.2.at_ rv460.2.Err) pa0 pk0 pre pre pre rv471 hg472
 refine Oc [2, 3] ca86 hc473 ?_
 rintro - ⟨he474, he475, he476⟩
 unfold i64ok at he474 he475
 have he476 : (0 ≤ rv471.at_ ∧ rv471.at_ ≤ (p.l.length : Int)) := he476
 refine KS ?_
 refine Oq (VldA sh59 1) (Ost (Scl [3] sh59 [vi 1, .string (bs rv436.1), vl a467 k468 rv460.1, .slice none 0 0]) (KS ?_))
 refine Jl [] (Ent.slNil (α := Str)) ?_
 have hq := q4 hrr ((GStmt.mk 1 rv436.1 rv460.1 []), (Gparser.mk p.l rv471.at_ rv471.Err)) (by simp only [pz_stmt, h7, h246, h248, h290, h309, h325, h344, h360, h379, h427, h446, h457, hg5, hg437, hg444, hg461, hg472, cs4]); subst hq
 exact Kr (vl a467 k468 rv460.1, .slice none 0 0) rfl (.cellN 1 rfl sh59 rfl (reads_Cl _ _) rfl .nil) [4, 0, 2] en
theorem fn87 (pP : Value) (p : Gparser) (pa0 : Option Addr) (pk0 : Nat) (hp_1 : i64ok p.at_) (hp_2 : i64ok p.Err) (hpa : (0 ≤ p.at_ ∧ p.at_ ≤ (p.l.length : Int))) (rr : GBlock × Gparser) (hrr : pz_block p = rr) : FT Tryz.prog 87 #[pP] [Cl pP [vl pa0 pk0 p.l, vi p.at_, vi p.Err], S pa0 pk0 p.l] (fun g : Value => rr.1.Name.b.length ≤ 140737488355328 ∧ i64ok rr.2.at_ ∧ i64ok rr.2.Err ∧ (0 ≤ rr.2.at_ ∧ rr.2.at_ ≤ (p.l.length : Int))) (fun g => .agg #[.string (bs rr.1.Name), g]) (fun g => [sl g rr.1.Stmts, Cl pP [vl pa0 pk0 p.l, vi rr.2.at_, vi rr.2.Err]]) := by
 refine FTi Tryz.func87 fun w0 M0 F0 => ?_
 unfold i64ok at hp_1 hp_2
 refine Fb 40 1 fun _ => KS ?_
 refine Oa (Al ze57 [.string (bs (Str.mk [])), .slice none 0 0]) fun p2 => KS ?_
 refine Oa (Al ze57 [.string (bs (Str.mk [])), .slice none 0 0]) fun p3 => KS ?_
 refine Oq Vm ?_
 refine letv (pz_word p (Str.mk [98, 108, 111, 99, 107])) fun rv4 hg5 => ?_
 have hc6 := fn84 pP p pa0 pk0 ((Str.mk [98, 108, 111, 99, 107])) pre pre pre pre rv4 hg5
 refine Oc [2, 2] ca84 hc6 ?_
 rintro - ⟨he7, he8, he9⟩
 unfold i64ok at he7 he8
 refine KS ?_
 refine Oq Vm ?_
 refine letv (pz_name (Gparser.mk p.l rv4.at_ rv4.Err)) fun rv10 hg11 => ?_
 have hc12 := fn85 pP (Gparser.mk p.l rv4.at_ rv4.Err) pa0 pk0 pre pre pre rv10 hg11
 refine Oc [0, 2] ca85 hc12 ?_
 rintro - ⟨he13, he14, he15, he16⟩
 unfold i64ok at he14 he15
 have he16 : (0 ≤ rv10.2.at_ ∧ rv10.2.at_ ≤ (p.l.length : Int)) := he16
 refine Oq (Vfa fo57_0 1) (Ost (SclF [1] sh9 [.string (bs rv10.1), .slice none 0 0]) (KS ?_))
 refine Oq Vm ?_
 refine letv (pz_end (Gparser.mk p.l rv10.2.at_ rv10.2.Err)) fun rv17 hg18 => ?_
 have hc19 := fn86 pP (Gparser.mk p.l rv10.2.at_ rv10.2.Err) pa0 pk0 pre pre pre rv17 hg18
 refine Oc [1, 2] ca86 hc19 ?_
 rintro - ⟨he20, he21, he22⟩
 unfold i64ok at he20 he21
 have he22 : (0 ≤ rv17.at_ ∧ rv17.at_ ≤ (p.l.length : Int)) := he22
 refine KS ?_
 refine Oq Vm ?_
 refine letv (pz_begins (Gparser.mk p.l rv17.at_ rv17.Err)) fun rv23 hg24 => ?_
 have hc25 := fn120 pP (Gparser.mk p.l rv17.at_ rv17.Err) pa0 pk0 pre pre pre rv23 hg24
 refine Oc [0, 2] ca120 hc25 ?_
 rintro - -
 refine Oq Vnot (KS ?_)
 refine Kc ?_ ?_
 ·intro h26
  have h28 := not_true h26
  refine KS ?_
  refine Oq Vm ?_
  refine letv (pz_fail (Gparser.mk p.l rv17.at_ rv17.Err) 4) fun rv30 hg31 => ?_
  have hc32 := fn53 pP (Gparser.mk p.l rv17.at_ rv17.Err) pa0 pk0 4 pre pre pre pre rv30 hg31
  refine Oc [0, 2] ca53 hc32 ?_
  rintro - ⟨he33, he34, he35⟩
  unfold i64ok at he33 he34
  have he35 : (0 ≤ rv30.at_ ∧ rv30.at_ ≤ (p.l.length : Int)) := he35
  refine KS ?_
  refine Jl [] (Ent.osNil (α := GStmt)) ?_
  have hterm47 : pz_block_L0 p rv10.1 (p.l.length + 1) rv30.at_ rv30.Err [] ≠ LR.oof := (block_L0_adv _ _ _ _ aM1).1
  refine Kl (γ := Nat × Int × Int × List GStmt × Option Addr × Nat) (fun (r36, p1_37, p2_38, b1_39, a40, k41) => ⟨[(0, pP), (2, p2), (3, p3)], [O a40 k41 b1_39, Cl pP [vl pa0 pk0 p.l, vi p1_37, vi p2_38], Cl p3 [.string (bs rv10.1), vl a40 k41 b1_39], Cl p2 [.string (bs (Str.mk [])), .slice none 0 0], S pa0 pk0 p.l], pz_block_L0 p rv10.1 r36 p1_37 p2_38 b1_39 = pz_block_L0 p rv10.1 (p.l.length + 1) rv30.at_ rv30.Err [] ∧ (-9223372036854775808 ≤ p1_37 ∧ p1_37 ≤ 9223372036854775807) ∧ (-9223372036854775808 ≤ p2_38 ∧ p2_38 ≤ 9223372036854775807) ∧ (0 ≤ p1_37 ∧ p1_37 ≤ (p.l.length : Int)) ∧ (b1_39.length ≤ 32), r36⟩) ((p.l.length + 1), rv30.at_, rv30.Err, [], none, 0) [0, 0, 0, 0, 0] ⟨rfl, aM1, aM1, iv0, iv0⟩ ?_
  rintro ⟨r36, p1_37, p2_38, b1_39, a40, k41⟩ ⟨hM42, hk43, hk44, hv45, hv46⟩
  refine JJ_nx fun _ _ hL hA => ?_; dsimp only at hL hA; subst hL hA
  refine Fb 72 0 fun _ => Fb 40 4 fun _ => ?_
  rcases r36 with _ | r36
  ·exact absurd (hM42.symm.trans rfl) hterm47
  refine KS ?_
  refine Oq Vm ?_
  refine letv (pz_begins (Gparser.mk p.l p1_37 p2_38)) fun rv50 hg51 => ?_
  have hc52 := fn120 pP (Gparser.mk p.l p1_37 p2_38) pa0 pk0 pre pre pre rv50 hg51
  refine Oc [1, 3] ca120 hc52 ?_
  rintro - -
  refine KS ?_
  refine Kc ?_ ?_
  ·intro h53
   refine KS ?_
   refine Oq (Vfa fo57_1 2) (Oq (VldF sh55 2) (Oq (Vlen sl55) (Oq Veql (KS ?_))))
   refine Kc ?_ ?_
   ·intro h55
    have g56 := eq_of_beq h55
    refine KS ?_
    refine Oq Vm ?_
    refine letv (pz_fail (Gparser.mk p.l p1_37 p2_38) 7) fun rv57 hg58 => ?_
    have hc59 := fn53 pP (Gparser.mk p.l p1_37 p2_38) pa0 pk0 7 pre pre pre pre rv57 hg58
    refine Oc [0, 3] ca53 hc59 ?_
    rintro - ⟨he60, he61, he62⟩
    unfold i64ok at he60 he61
    have he62 : (0 ≤ rv57.at_ ∧ rv57.at_ ≤ (p.l.length : Int)) := he62
    refine KS ?_
    refine Oq (VldA sh57 2) (Ost (Scl [3] sh57 [.string (bs rv10.1), vl a40 k41 b1_39]) (KS ?_))
    refine Jl [2] (Ent.freeze _ _) ?_
    have hR63 := q2 hM42 (.ret ((GBlock.mk rv10.1 b1_39), (Gparser.mk p.l rv57.at_ rv57.Err))) (by simp only [pz_block_L0, h53, h55, hg51, hg58, cs4])
    have hq := q4 hrr ((GBlock.mk rv10.1 b1_39), (Gparser.mk p.l rv57.at_ rv57.Err)) (by simp only [pz_block, h26, h28, h53, h55, hg5, hg11, hg18, hg24, hg31, hg51, hg58, hR63, cs4]); subst hq
    exact Kr (vl a40 k41 b1_39) rfl (.cellN 1 rfl sh57 rfl (reads_Cl _ _) rfl .nil) [0, 2] en
   intro h55
   have g64 := ne_of_beq_false h55
   refine KS ?_
   refine Jp 2 fun hp65 => ?_
   refine JK_drawK [0, 1, 0, 4, 12, 31, 63, 127] fmix ?_
   refine Dv [0] (Vfa fo57_1 0) (Dv [3] (VldF sh55 0) (Dv [] Vm ?_))
   refine letv (pz_stmt (Gparser.mk p.l p1_37 p2_38)) fun rv68 hg69 => ?_
   refine Dx [1, 5] [1] [4, 0, 1, 2, 3] (fun G => .agg #[vi rv68.1.Op, .string (bs rv68.1.Def), (G.g 3 0), (G.g 3 1)]) [fun G => SP.fact (i64ok rv68.1.Op ∧ rv68.1.Def.b.length ≤ 140737488355328 ∧ i64ok rv68.2.at_ ∧ i64ok rv68.2.Err ∧ (0 ≤ rv68.2.at_ ∧ rv68.2.at_ ≤ ((Gparser.mk p.l p1_37 p2_38).l.length : Int))), fun G => sl (G.g 3 0) rv68.1.Uses, fun G => sl (G.g 3 1) rv68.1.Targets, fun G => Cl pP [vl pa0 pk0 p.l, vi rv68.2.at_, vi rv68.2.Err]] (fun G => xC [0, 0] ca121 (fn121 pP (Gparser.mk p.l p1_37 p2_38) pa0 pk0 pre pre pre (by simp only [h26, h28, h53, h55, hg5, hg11, hg18, hg24, hg31, hg51]) rv68 hg69)) (Dx [] [] [0] (fun G => (G.g 4 0)) [fun G => Cr (G.g 4 0) 1 [vi rv68.1.Op, .string (bs rv68.1.Def), (G.g 3 0), (G.g 3 1)]] (fun G => xA (AsV sl55 sz55 [.agg #[vi rv68.1.Op, .string (bs rv68.1.Def), (G.g 3 0), (G.g 3 1)]] [vi rv68.1.Op, .string (bs rv68.1.Def), (G.g 3 0), (G.g 3 1)])) ?_)
   have hn72 := la b1_39 ([rv68.1] : List GStmt)
   refine Dx [2, 6, 7, 8, 10] [2, 10] [3, 1, 2, 0] (fun G => (G.g 5 0)) [fun G => os (G.g 5 0) ((b1_39 ++ [rv68.1]) : List GStmt)] (fun G => by refine xf 1 rfl ?_; rintro ⟨he73, he74, he75, he76, he77⟩; unfold i64ok at he73 he75 he76; exact xp [4, 2, 3] rfl (Ent.cr1 (α := GStmt) (A := [sl (G.g 3 0) rv68.1.Uses, sl (G.g 3 1) rv68.1.Targets]) _ rv68.1 _ aB1 (fun h => ⟨_, _, rfl, aL1, aS1, sepAll_get (i := 0) rfl h, sepAll_get (i := 1) rfl h⟩)) (xA (ApO [3, 0] sl55 sl55 sz55))) (Dv [0] (Vfa fo57_1 0) (Dx0 [3, 11] [3] [1, 0] [fun G => Cl p3 [.string (bs rv10.1), (G.g 5 0)]] (fun G => x1 1 rfl os_one fun ho78 => (xS (OpS.frame [0] rfl (OpS.storeClF [(G.g 5 0)] [.string (bs rv10.1), (G.g 5 0)] rfl rfl rfl sh55 (cells_of_one ho78) rfl (by simp only [List.all_cons, List.all_nil, ho78, Bool.and_true, Bool.true_and] <;> rfl) aB1 rfl)))) ?_))
   refine Dn ⟨by kernel_rfl, fun G => ?_⟩
   refine Jw2 [(0, pP), (2, p2), (3, p3)] [0, 4, 5] [SP.fact (i64ok rv68.1.Op ∧ rv68.1.Def.b.length ≤ 140737488355328 ∧ i64ok rv68.2.at_ ∧ i64ok rv68.2.Err ∧ (0 ≤ rv68.2.at_ ∧ rv68.2.at_ ≤ ((Gparser.mk p.l p1_37 p2_38).l.length : Int))), sl (G.g 3 0) rv68.1.Uses, sl (G.g 3 1) rv68.1.Targets, Cl pP [vl pa0 pk0 p.l, vi rv68.2.at_, vi rv68.2.Err], os (G.g 5 0) ((b1_39 ++ [rv68.1]) : List GStmt), Cl p3 [.string (bs rv10.1), (G.g 5 0)]] ?_
   generalize G.g 3 0 = c66, G.g 3 1 = c67, G.g 5 0 = c71
   refine Jf 3 rfl ?_; rintro ⟨he79, he80, he81, he82, he83⟩
   unfold i64ok at he79 he81 he82
   refine Jk [1, 1, 3, 4, 5, 5, 5] ?_
   refine Jo 2 ?_; rintro a84 k85 rfl
   refine Fb 16 2 fun _ => ?_
   refine FoS 2 fun ho87 => ?_
   refine Jo 3 ?_; rintro a88 k89 rfl
   refine Fb 16 3 fun _ => ?_
   refine FoS 3 fun ho91 => ?_
   refine Jo 5 ?_; rintro a92 k93 rfl
   refine Fb 72 5 fun _ => KS ?_
   exact Kg (r36, rv68.2.at_, rv68.2.Err, (b1_39 ++ [rv68.1]), a92, k93) [5, 4, 4, 0, 0] ⟨(q3 hM42 (by simp only [pz_block_L0, h53, h55, hg51, hg69, cs4])), aM1, aM1, iv1, iv1⟩
  intro h53
  refine Ke ?_
  have hR96 := q2 hM42 (.brk (p1_37, p2_38, b1_39)) (by simp only [pz_block_L0, h53, hg51, cs4])
  refine KS ?_
  refine Oq (VldA sh57 2) (Ost (Scl [3] sh57 [.string (bs rv10.1), vl a40 k41 b1_39]) (KS ?_))
  refine Jl [2] (Ent.freeze _ _) ?_
  have hq := q4 hrr ((GBlock.mk rv10.1 b1_39), (Gparser.mk p.l p1_37 p2_38)) (by simp only [pz_block, h26, h28, h53, hg5, hg11, hg18, hg24, hg31, hg51, hR96, cs4]); subst hq
  exact Kr (vl a40 k41 b1_39) rfl (.cellN 1 rfl sh57 rfl (reads_Cl _ _) rfl .nil) [0, 2] en
 intro h26
 have h98 := not_false h26
 refine KS ?_
 refine Jl [] (Ent.osNil (α := GStmt)) ?_
 have hterm111 : pz_block_L0 p rv10.1 (p.l.length + 1) rv17.at_ rv17.Err [] ≠ LR.oof := (block_L0_adv _ _ _ _ aM1).1
 refine Kl (γ := Nat × Int × Int × List GStmt × Option Addr × Nat) (fun (r100, p1_101, p2_102, b1_103, a104, k105) => ⟨[(0, pP), (2, p2), (3, p3)], [O a104 k105 b1_103, Cl pP [vl pa0 pk0 p.l, vi p1_101, vi p2_102], Cl p3 [.string (bs rv10.1), vl a104 k105 b1_103], Cl p2 [.string (bs (Str.mk [])), .slice none 0 0], S pa0 pk0 p.l], pz_block_L0 p rv10.1 r100 p1_101 p2_102 b1_103 = pz_block_L0 p rv10.1 (p.l.length + 1) rv17.at_ rv17.Err [] ∧ (-9223372036854775808 ≤ p1_101 ∧ p1_101 ≤ 9223372036854775807) ∧ (-9223372036854775808 ≤ p2_102 ∧ p2_102 ≤ 9223372036854775807) ∧ (0 ≤ p1_101 ∧ p1_101 ≤ (p.l.length : Int)) ∧ (b1_103.length ≤ 32), r100⟩) ((p.l.length + 1), rv17.at_, rv17.Err, [], none, 0) [0, 0, 0, 0, 0] ⟨rfl, aM1, aM1, iv0, iv0⟩ ?_
 rintro ⟨r100, p1_101, p2_102, b1_103, a104, k105⟩ ⟨hM106, hk107, hk108, hv109, hv110⟩
 refine JJ_nx fun _ _ hL hA => ?_; dsimp only at hL hA; subst hL hA
 refine Fb 72 0 fun _ => Fb 40 4 fun _ => ?_
 rcases r100 with _ | r100
 ·exact absurd (hM106.symm.trans rfl) hterm111
 refine KS ?_
 refine Oq Vm ?_
 refine letv (pz_begins (Gparser.mk p.l p1_101 p2_102)) fun rv114 hg115 => ?_
 have hc116 := fn120 pP (Gparser.mk p.l p1_101 p2_102) pa0 pk0 pre pre pre rv114 hg115
 refine Oc [1, 3] ca120 hc116 ?_
 rintro - -
 refine KS ?_
 refine Kc ?_ ?_
 ·intro h117
  refine KS ?_
  refine Oq (Vfa fo57_1 2) (Oq (VldF sh55 2) (Oq (Vlen sl55) (Oq Veql (KS ?_))))
  refine Kc ?_ ?_
  ·intro h119
   have g120 := eq_of_beq h119
   refine KS ?_
   refine Oq Vm ?_
   refine letv (pz_fail (Gparser.mk p.l p1_101 p2_102) 7) fun rv121 hg122 => ?_
   have hc123 := fn53 pP (Gparser.mk p.l p1_101 p2_102) pa0 pk0 7 pre pre pre pre rv121 hg122
   refine Oc [0, 3] ca53 hc123 ?_
   rintro - ⟨he124, he125, he126⟩
   unfold i64ok at he124 he125
   have he126 : (0 ≤ rv121.at_ ∧ rv121.at_ ≤ (p.l.length : Int)) := he126
   refine KS ?_
   refine Oq (VldA sh57 2) (Ost (Scl [3] sh57 [.string (bs rv10.1), vl a104 k105 b1_103]) (KS ?_))
   refine Jl [2] (Ent.freeze _ _) ?_
   have hR127 := q2 hM106 (.ret ((GBlock.mk rv10.1 b1_103), (Gparser.mk p.l rv121.at_ rv121.Err))) (by simp only [pz_block_L0, h117, h119, hg115, hg122, cs4])
   have hq := q4 hrr ((GBlock.mk rv10.1 b1_103), (Gparser.mk p.l rv121.at_ rv121.Err)) (by simp only [pz_block, h26, h98, h117, h119, hg5, hg11, hg18, hg24, hg115, hg122, hR127, cs4]); subst hq
   exact Kr (vl a104 k105 b1_103) rfl (.cellN 1 rfl sh57 rfl (reads_Cl _ _) rfl .nil) [0, 2] en
  intro h119
  have g128 := ne_of_beq_false h119
  refine KS ?_
  refine Jp 2 fun hp129 => ?_
  refine JK_drawK [0, 1, 0, 4, 12, 31, 63, 127] fmix ?_
  refine Dv [0] (Vfa fo57_1 0) (Dv [3] (VldF sh55 0) (Dv [] Vm ?_))
  refine letv (pz_stmt (Gparser.mk p.l p1_101 p2_102)) fun rv132 hg133 => ?_
  refine Dx [1, 5] [1] [4, 0, 1, 2, 3] (fun G => .agg #[vi rv132.1.Op, .string (bs rv132.1.Def), (G.g 3 0), (G.g 3 1)]) [fun G => SP.fact (i64ok rv132.1.Op ∧ rv132.1.Def.b.length ≤ 140737488355328 ∧ i64ok rv132.2.at_ ∧ i64ok rv132.2.Err ∧ (0 ≤ rv132.2.at_ ∧ rv132.2.at_ ≤ ((Gparser.mk p.l p1_101 p2_102).l.length : Int))), fun G => sl (G.g 3 0) rv132.1.Uses, fun G => sl (G.g 3 1) rv132.1.Targets, fun G => Cl pP [vl pa0 pk0 p.l, vi rv132.2.at_, vi rv132.2.Err]] (fun G => xC [0, 0] ca121 (fn121 pP (Gparser.mk p.l p1_101 p2_102) pa0 pk0 pre pre pre (by simp only [h26, h98, h117, h119, hg5, hg11, hg18, hg24, hg115]) rv132 hg133)) (Dx [] [] [0] (fun G => (G.g 4 0)) [fun G => Cr (G.g 4 0) 1 [vi rv132.1.Op, .string (bs rv132.1.Def), (G.g 3 0), (G.g 3 1)]] (fun G => xA (AsV sl55 sz55 [.agg #[vi rv132.1.Op, .string (bs rv132.1.Def), (G.g 3 0), (G.g 3 1)]] [vi rv132.1.Op, .string (bs rv132.1.Def), (G.g 3 0), (G.g 3 1)])) ?_)
  have hn136 := la b1_103 ([rv132.1] : List GStmt)
  refine Dx [2, 6, 7, 8, 10] [2, 10] [3, 1, 2, 0] (fun G => (G.g 5 0)) [fun G => os (G.g 5 0) ((b1_103 ++ [rv132.1]) : List GStmt)] (fun G => by refine xf 1 rfl ?_; rintro ⟨he137, he138, he139, he140, he141⟩; unfold i64ok at he137 he139 he140; exact xp [4, 2, 3] rfl (Ent.cr1 (α := GStmt) (A := [sl (G.g 3 0) rv132.1.Uses, sl (G.g 3 1) rv132.1.Targets]) _ rv132.1 _ aB1 (fun h => ⟨_, _, rfl, aL1, aS1, sepAll_get (i := 0) rfl h, sepAll_get (i := 1) rfl h⟩)) (xA (ApO [3, 0] sl55 sl55 sz55))) (Dv [0] (Vfa fo57_1 0) (Dx0 [3, 11] [3] [1, 0] [fun G => Cl p3 [.string (bs rv10.1), (G.g 5 0)]] (fun G => x1 1 rfl os_one fun ho142 => (xS (OpS.frame [0] rfl (OpS.storeClF [(G.g 5 0)] [.string (bs rv10.1), (G.g 5 0)] rfl rfl rfl sh55 (cells_of_one ho142) rfl (by simp only [List.all_cons, List.all_nil, ho142, Bool.and_true, Bool.true_and] <;> rfl) aB1 rfl)))) ?_))
  refine Dn ⟨by kernel_rfl, fun G => ?_⟩
  refine Jw2 [(0, pP), (2, p2), (3, p3)] [0, 4, 5] [SP.fact (i64ok rv132.1.Op ∧ rv132.1.Def.b.length ≤ 140737488355328 ∧ i64ok rv132.2.at_ ∧ i64ok rv132.2.Err ∧ (0 ≤ rv132.2.at_ ∧ rv132.2.at_ ≤ ((Gparser.mk p.l p1_101 p2_102).l.length : Int))), sl (G.g 3 0) rv132.1.Uses, sl (G.g 3 1) rv132.1.Targets, Cl pP [vl pa0 pk0 p.l, vi rv132.2.at_, vi rv132.2.Err], os (G.g 5 0) ((b1_103 ++ [rv132.1]) : List GStmt), Cl p3 [.string (bs rv10.1), (G.g 5 0)]] ?_
  generalize G.g 3 0 = c130, G.g 3 1 = c131, G.g 5 0 = c135
  refine Jf 3 rfl ?_; rintro ⟨he143, he144, he145, he146, he147⟩
  unfold i64ok at he143 he145 he146
  refine Jk [1, 1, 3, 4, 5, 5, 5] ?_
  refine Jo 2 ?_; rintro a148 k149 rfl
  refine Fb 16 2 fun _ => ?_
  refine FoS 2 fun ho151 => ?_
  refine Jo 3 ?_; rintro a152 k153 rfl
  refine Fb 16 3 fun _ => ?_
  refine FoS 3 fun ho155 => ?_
  refine Jo 5 ?_; rintro a156 k157 rfl
  refine Fb 72 5 fun _ => KS ?_
  exact Kg (r100, rv132.2.at_, rv132.2.Err, (b1_103 ++ [rv132.1]), a156, k157) [5, 4, 4, 0, 0] ⟨(q3 hM106 (by simp only [pz_block_L0, h117, h119, hg115, hg133, cs4])), aM1, aM1, iv1, iv1⟩
 intro h117
 refine Ke ?_
 have hR160 := q2 hM106 (.brk (p1_101, p2_102, b1_103)) (by simp only [pz_block_L0, h117, hg115, cs4])
 refine KS ?_
 refine Oq (VldA sh57 2) (Ost (Scl [3] sh57 [.string (bs rv10.1), vl a104 k105 b1_103]) (KS ?_))
 refine Jl [2] (Ent.freeze _ _) ?_
 have hq := q4 hrr ((GBlock.mk rv10.1 b1_103), (Gparser.mk p.l p1_101 p2_102)) (by simp only [pz_block, h26, h98, h117, hg5, hg11, hg18, hg24, hg115, hR160, cs4]); subst hq
 exact Kr (vl a104 k105 b1_103) rfl (.cellN 1 rfl sh57 rfl (reads_Cl _ _) rfl .nil) [0, 2] en
theorem fn54 (pP : Value) (p : Gparser) (pa0 : Option Addr) (pk0 : Nat) (hp_1 : i64ok p.at_) (hp_2 : i64ok p.Err) (hpa : (0 ≤ p.at_ ∧ p.at_ ≤ (p.l.length : Int))) (rr : GFunc × Gparser) (hrr : pz_function p = rr) : FT Tryz.prog 54 #[pP] [Cl pP [vl pa0 pk0 p.l, vi p.at_, vi p.Err], S pa0 pk0 p.l] (fun g : Value => rr.1.Name.b.length ≤ 140737488355328 ∧ i64ok rr.2.at_ ∧ i64ok rr.2.Err ∧ (0 ≤ rr.2.at_ ∧ rr.2.at_ ≤ (p.l.length : Int))) (fun g => .agg #[.string (bs rr.1.Name), g]) (fun g => [sl g rr.1.Blocks, Cl pP [vl pa0 pk0 p.l, vi rr.2.at_, vi rr.2.Err]]) := by
 refine FTi Tryz.func54 fun w0 M0 F0 => ?_
 unfold i64ok at hp_1 hp_2
 refine Fb 40 1 fun _ => KS ?_
 refine Oa (Al ze54 [.string (bs (Str.mk [])), .slice none 0 0]) fun p2 => KS ?_
 refine Oa (Al ze54 [.string (bs (Str.mk [])), .slice none 0 0]) fun p3 => KS ?_
 refine Oq Vm ?_
 refine letv (pz_word p (Str.mk [102, 117, 110, 99])) fun rv4 hg5 => ?_
 have hc6 := fn84 pP p pa0 pk0 ((Str.mk [102, 117, 110, 99])) pre pre pre pre rv4 hg5
 refine Oc [2, 2] ca84 hc6 ?_
 rintro - ⟨he7, he8, he9⟩
 unfold i64ok at he7 he8
 refine KS ?_
 refine Oq Vm ?_
 refine letv (pz_name (Gparser.mk p.l rv4.at_ rv4.Err)) fun rv10 hg11 => ?_
 have hc12 := fn85 pP (Gparser.mk p.l rv4.at_ rv4.Err) pa0 pk0 pre pre pre rv10 hg11
 refine Oc [0, 2] ca85 hc12 ?_
 rintro - ⟨he13, he14, he15, he16⟩
 unfold i64ok at he14 he15
 have he16 : (0 ≤ rv10.2.at_ ∧ rv10.2.at_ ≤ (p.l.length : Int)) := he16
 refine Oq (Vfa fo54_0 1) (Ost (SclF [1] sh9 [.string (bs rv10.1), .slice none 0 0]) (KS ?_))
 refine Oq Vm ?_
 refine letv (pz_end (Gparser.mk p.l rv10.2.at_ rv10.2.Err)) fun rv17 hg18 => ?_
 have hc19 := fn86 pP (Gparser.mk p.l rv10.2.at_ rv10.2.Err) pa0 pk0 pre pre pre rv17 hg18
 refine Oc [1, 2] ca86 hc19 ?_
 rintro - ⟨he20, he21, he22⟩
 unfold i64ok at he20 he21
 have he22 : (0 ≤ rv17.at_ ∧ rv17.at_ ≤ (p.l.length : Int)) := he22
 refine KS ?_
 refine Oq Vm ?_
 refine letv (pz_is (Gparser.mk p.l rv17.at_ rv17.Err) (Str.mk [98, 108, 111, 99, 107])) fun rv23 hg24 => ?_
 have hc25 := fn52 pP (Gparser.mk p.l rv17.at_ rv17.Err) pa0 pk0 ((Str.mk [98, 108, 111, 99, 107])) pre pre pre pre rv23 hg24
 refine Oc [0, 2] ca52 hc25 ?_
 rintro - -
 refine Oq Vnot (KS ?_)
 refine Kc ?_ ?_
 ·intro h26
  have h28 := not_true h26
  refine KS ?_
  refine Oq Vm ?_
  refine letv (pz_fail (Gparser.mk p.l rv17.at_ rv17.Err) 4) fun rv30 hg31 => ?_
  have hc32 := fn53 pP (Gparser.mk p.l rv17.at_ rv17.Err) pa0 pk0 4 pre pre pre pre rv30 hg31
  refine Oc [0, 2] ca53 hc32 ?_
  rintro - ⟨he33, he34, he35⟩
  unfold i64ok at he33 he34
  have he35 : (0 ≤ rv30.at_ ∧ rv30.at_ ≤ (p.l.length : Int)) := he35
  refine KS ?_
  refine Jl [] (Ent.osNil (α := GBlock)) ?_
  have hterm47 : pz_function_L0 p rv10.1 (p.l.length + 1) rv30.at_ rv30.Err [] ≠ LR.oof := (function_L0_adv _ _ _ _ aM1).1
  refine Kl (γ := Nat × Int × Int × List GBlock × Option Addr × Nat) (fun (r36, p1_37, p2_38, f1_39, a40, k41) => ⟨[(0, pP), (2, p2), (3, p3)], [O a40 k41 f1_39, Cl pP [vl pa0 pk0 p.l, vi p1_37, vi p2_38], Cl p3 [.string (bs rv10.1), vl a40 k41 f1_39], Cl p2 [.string (bs (Str.mk [])), .slice none 0 0], S pa0 pk0 p.l], pz_function_L0 p rv10.1 r36 p1_37 p2_38 f1_39 = pz_function_L0 p rv10.1 (p.l.length + 1) rv30.at_ rv30.Err [] ∧ (-9223372036854775808 ≤ p1_37 ∧ p1_37 ≤ 9223372036854775807) ∧ (-9223372036854775808 ≤ p2_38 ∧ p2_38 ≤ 9223372036854775807) ∧ (0 ≤ p1_37 ∧ p1_37 ≤ (p.l.length : Int)) ∧ (f1_39.length ≤ 16), r36⟩) ((p.l.length + 1), rv30.at_, rv30.Err, [], none, 0) [0, 0, 0, 0, 0] ⟨rfl, aM1, aM1, iv0, iv0⟩ ?_
  rintro ⟨r36, p1_37, p2_38, f1_39, a40, k41⟩ ⟨hM42, hk43, hk44, hv45, hv46⟩
  refine JJ_nx fun _ _ hL hA => ?_; dsimp only at hL hA; subst hL hA
  refine Fb 40 0 fun _ => Fb 40 4 fun _ => ?_
  rcases r36 with _ | r36
  ·exact absurd (hM42.symm.trans rfl) hterm47
  refine KS ?_
  refine Oq Vm ?_
  refine letv (pz_is (Gparser.mk p.l p1_37 p2_38) (Str.mk [98, 108, 111, 99, 107])) fun rv50 hg51 => ?_
  have hc52 := fn52 pP (Gparser.mk p.l p1_37 p2_38) pa0 pk0 ((Str.mk [98, 108, 111, 99, 107])) pre pre pre pre rv50 hg51
  refine Oc [1, 3] ca52 hc52 ?_
  rintro - -
  refine KS ?_
  refine Kc ?_ ?_
  ·intro h53
   refine KS ?_
   refine Oq (Vfa fo54_1 2) (Oq (VldF sh52 2) (Oq (Vlen sl52) (Oq Veql (KS ?_))))
   refine Kc ?_ ?_
   ·intro h55
    have g56 := eq_of_beq h55
    refine KS ?_
    refine Oq Vm ?_
    refine letv (pz_fail (Gparser.mk p.l p1_37 p2_38) 7) fun rv57 hg58 => ?_
    have hc59 := fn53 pP (Gparser.mk p.l p1_37 p2_38) pa0 pk0 7 pre pre pre pre rv57 hg58
    refine Oc [0, 3] ca53 hc59 ?_
    rintro - ⟨he60, he61, he62⟩
    unfold i64ok at he60 he61
    have he62 : (0 ≤ rv57.at_ ∧ rv57.at_ ≤ (p.l.length : Int)) := he62
    refine KS ?_
    refine Oq (VldA sh54 2) (Ost (Scl [3] sh54 [.string (bs rv10.1), vl a40 k41 f1_39]) (KS ?_))
    refine Jl [2] (Ent.freeze _ _) ?_
    have hR63 := q2 hM42 (.ret ((GFunc.mk rv10.1 f1_39), (Gparser.mk p.l rv57.at_ rv57.Err))) (by simp only [pz_function_L0, h53, h55, hg51, hg58, cs4])
    have hq := q4 hrr ((GFunc.mk rv10.1 f1_39), (Gparser.mk p.l rv57.at_ rv57.Err)) (by simp only [pz_function, h26, h28, h53, h55, hg5, hg11, hg18, hg24, hg31, hg51, hg58, hR63, cs4]); subst hq
    exact Kr (vl a40 k41 f1_39) rfl (.cellN 1 rfl sh54 rfl (reads_Cl _ _) rfl .nil) [0, 2] en
   intro h55
   have g64 := ne_of_beq_false h55
   refine KS ?_
   refine Jp 2 fun hp65 => ?_
   refine JK_drawK [0, 1, 0, 4, 12, 31, 63, 127] fmix ?_
   refine Dv [0] (Vfa fo54_1 0) (Dv [3] (VldF sh52 0) (Dv [] Vm ?_))
   refine letv (pz_block (Gparser.mk p.l p1_37 p2_38)) fun rv67 hg68 => ?_
   refine Dx [1, 5] [1] [3, 0, 1, 2] (fun G => .agg #[.string (bs rv67.1.Name), (G.g 3 0)]) [fun G => SP.fact (rv67.1.Name.b.length ≤ 140737488355328 ∧ i64ok rv67.2.at_ ∧ i64ok rv67.2.Err ∧ (0 ≤ rv67.2.at_ ∧ rv67.2.at_ ≤ ((Gparser.mk p.l p1_37 p2_38).l.length : Int))), fun G => sl (G.g 3 0) rv67.1.Stmts, fun G => Cl pP [vl pa0 pk0 p.l, vi rv67.2.at_, vi rv67.2.Err]] (fun G => xC [0, 0] ca87 (fn87 pP (Gparser.mk p.l p1_37 p2_38) pa0 pk0 pre pre pre rv67 hg68)) (Dx [] [] [0] (fun G => (G.g 4 0)) [fun G => Cr (G.g 4 0) 1 [.string (bs rv67.1.Name), (G.g 3 0)]] (fun G => xA (AsV sl52 sz52 [.agg #[.string (bs rv67.1.Name), (G.g 3 0)]] [.string (bs rv67.1.Name), (G.g 3 0)])) ?_)
   have hn71 := la f1_39 ([rv67.1] : List GBlock)
   refine Dx [2, 6, 7, 9] [2, 9] [2, 1, 0] (fun G => (G.g 5 0)) [fun G => os (G.g 5 0) ((f1_39 ++ [rv67.1]) : List GBlock)] (fun G => by refine xf 1 rfl ?_; rintro ⟨he72, he73, he74, he75⟩; unfold i64ok at he73 he74; exact xp [3, 2] rfl (Ent.cr1 (α := GBlock) (A := [sl (G.g 3 0) rv67.1.Stmts]) _ rv67.1 _ aB1 (fun h => ⟨_, rfl, aS1, sepAll_get (i := 0) rfl h⟩)) (xA (ApO [2, 0] sl52 sl52 sz52))) (Dv [0] (Vfa fo54_1 0) (Dx0 [3, 10] [3] [1, 0] [fun G => Cl p3 [.string (bs rv10.1), (G.g 5 0)]] (fun G => x1 1 rfl os_one fun ho76 => (xS (OpS.frame [0] rfl (OpS.storeClF [(G.g 5 0)] [.string (bs rv10.1), (G.g 5 0)] rfl rfl rfl sh52 (cells_of_one ho76) rfl (by simp only [List.all_cons, List.all_nil, ho76, Bool.and_true, Bool.true_and] <;> rfl) aB1 rfl)))) ?_))
   refine Dn ⟨by kernel_rfl, fun G => ?_⟩
   refine Jw2 [(0, pP), (2, p2), (3, p3)] [0, 4, 5] [SP.fact (rv67.1.Name.b.length ≤ 140737488355328 ∧ i64ok rv67.2.at_ ∧ i64ok rv67.2.Err ∧ (0 ≤ rv67.2.at_ ∧ rv67.2.at_ ≤ ((Gparser.mk p.l p1_37 p2_38).l.length : Int))), sl (G.g 3 0) rv67.1.Stmts, Cl pP [vl pa0 pk0 p.l, vi rv67.2.at_, vi rv67.2.Err], os (G.g 5 0) ((f1_39 ++ [rv67.1]) : List GBlock), Cl p3 [.string (bs rv10.1), (G.g 5 0)]] ?_
   generalize G.g 3 0 = c66, G.g 5 0 = c70
   refine Jf 3 rfl ?_; rintro ⟨he77, he78, he79, he80⟩
   unfold i64ok at he78 he79
   refine Jk [1, 1, 3, 4, 4, 4] ?_
   refine Jo 2 ?_; rintro a81 k82 rfl
   refine Fb 72 2 fun _ => ?_
   refine Jo 4 ?_; rintro a84 k85 rfl
   refine Fb 40 4 fun _ => KS ?_
   exact Kg (r36, rv67.2.at_, rv67.2.Err, (f1_39 ++ [rv67.1]), a84, k85) [4, 3, 3, 0, 0] ⟨(q3 hM42 (by simp only [pz_function_L0, h53, h55, hg51, hg68, cs4])), aM1, aM1, iv1, iv1⟩
  intro h53
  refine Ke ?_
  have hR88 := q2 hM42 (.brk (p1_37, p2_38, f1_39)) (by simp only [pz_function_L0, h53, hg51, cs4])
  refine KS ?_
  refine Oq Vm ?_
  refine letv (pz_word (Gparser.mk p.l p1_37 p2_38) (Str.mk [101, 110, 100])) fun rv89 hg90 => ?_
  have hc91 := fn84 pP (Gparser.mk p.l p1_37 p2_38) pa0 pk0 ((Str.mk [101, 110, 100])) pre pre pre pre rv89 hg90
  refine Oc [0, 3] ca84 hc91 ?_
  rintro - ⟨he92, he93, he94⟩
  unfold i64ok at he92 he93
  have he94 : (0 ≤ rv89.at_ ∧ rv89.at_ ≤ (p.l.length : Int)) := he94
  refine KS ?_
  refine Oq Vm ?_
  refine letv (pz_end (Gparser.mk p.l rv89.at_ rv89.Err)) fun rv95 hg96 => ?_
  have hc97 := fn86 pP (Gparser.mk p.l rv89.at_ rv89.Err) pa0 pk0 pre pre pre rv95 hg96
  refine Oc [0, 3] ca86 hc97 ?_
  rintro - ⟨he98, he99, he100⟩
  unfold i64ok at he98 he99
  have he100 : (0 ≤ rv95.at_ ∧ rv95.at_ ≤ (p.l.length : Int)) := he100
  refine KS ?_
  refine Oq (VldA sh54 2) (Ost (Scl [3] sh54 [.string (bs rv10.1), vl a40 k41 f1_39]) (KS ?_))
  refine Jl [2] (Ent.freeze _ _) ?_
  have hq := q4 hrr ((GFunc.mk rv10.1 f1_39), (Gparser.mk p.l rv95.at_ rv95.Err)) (by simp only [pz_function, h26, h28, h53, hg5, hg11, hg18, hg24, hg31, hg51, hR88, hg90, hg96, cs4]); subst hq
  exact Kr (vl a40 k41 f1_39) rfl (.cellN 1 rfl sh54 rfl (reads_Cl _ _) rfl .nil) [0, 2] en
 intro h26
 have h102 := not_false h26
 refine KS ?_
 refine Jl [] (Ent.osNil (α := GBlock)) ?_
 have hterm115 : pz_function_L0 p rv10.1 (p.l.length + 1) rv17.at_ rv17.Err [] ≠ LR.oof := (function_L0_adv _ _ _ _ aM1).1
 refine Kl (γ := Nat × Int × Int × List GBlock × Option Addr × Nat) (fun (r104, p1_105, p2_106, f1_107, a108, k109) => ⟨[(0, pP), (2, p2), (3, p3)], [O a108 k109 f1_107, Cl pP [vl pa0 pk0 p.l, vi p1_105, vi p2_106], Cl p3 [.string (bs rv10.1), vl a108 k109 f1_107], Cl p2 [.string (bs (Str.mk [])), .slice none 0 0], S pa0 pk0 p.l], pz_function_L0 p rv10.1 r104 p1_105 p2_106 f1_107 = pz_function_L0 p rv10.1 (p.l.length + 1) rv17.at_ rv17.Err [] ∧ (-9223372036854775808 ≤ p1_105 ∧ p1_105 ≤ 9223372036854775807) ∧ (-9223372036854775808 ≤ p2_106 ∧ p2_106 ≤ 9223372036854775807) ∧ (0 ≤ p1_105 ∧ p1_105 ≤ (p.l.length : Int)) ∧ (f1_107.length ≤ 16), r104⟩) ((p.l.length + 1), rv17.at_, rv17.Err, [], none, 0) [0, 0, 0, 0, 0] ⟨rfl, aM1, aM1, iv0, iv0⟩ ?_
 rintro ⟨r104, p1_105, p2_106, f1_107, a108, k109⟩ ⟨hM110, hk111, hk112, hv113, hv114⟩
 refine JJ_nx fun _ _ hL hA => ?_; dsimp only at hL hA; subst hL hA
 refine Fb 40 0 fun _ => Fb 40 4 fun _ => ?_
 rcases r104 with _ | r104
 ·exact absurd (hM110.symm.trans rfl) hterm115
 refine KS ?_
 refine Oq Vm ?_
 refine letv (pz_is (Gparser.mk p.l p1_105 p2_106) (Str.mk [98, 108, 111, 99, 107])) fun rv118 hg119 => ?_
 have hc120 := fn52 pP (Gparser.mk p.l p1_105 p2_106) pa0 pk0 ((Str.mk [98, 108, 111, 99, 107])) pre pre pre pre rv118 hg119
 refine Oc [1, 3] ca52 hc120 ?_
 rintro - -
 refine KS ?_
 refine Kc ?_ ?_
 ·intro h121
  refine KS ?_
  refine Oq (Vfa fo54_1 2) (Oq (VldF sh52 2) (Oq (Vlen sl52) (Oq Veql (KS ?_))))
  refine Kc ?_ ?_
  ·intro h123
   have g124 := eq_of_beq h123
   refine KS ?_
   refine Oq Vm ?_
   refine letv (pz_fail (Gparser.mk p.l p1_105 p2_106) 7) fun rv125 hg126 => ?_
   have hc127 := fn53 pP (Gparser.mk p.l p1_105 p2_106) pa0 pk0 7 pre pre pre pre rv125 hg126
   refine Oc [0, 3] ca53 hc127 ?_
   rintro - ⟨he128, he129, he130⟩
   unfold i64ok at he128 he129
   have he130 : (0 ≤ rv125.at_ ∧ rv125.at_ ≤ (p.l.length : Int)) := he130
   refine KS ?_
   refine Oq (VldA sh54 2) (Ost (Scl [3] sh54 [.string (bs rv10.1), vl a108 k109 f1_107]) (KS ?_))
   refine Jl [2] (Ent.freeze _ _) ?_
   have hR131 := q2 hM110 (.ret ((GFunc.mk rv10.1 f1_107), (Gparser.mk p.l rv125.at_ rv125.Err))) (by simp only [pz_function_L0, h121, h123, hg119, hg126, cs4])
   have hq := q4 hrr ((GFunc.mk rv10.1 f1_107), (Gparser.mk p.l rv125.at_ rv125.Err)) (by simp only [pz_function, h26, h102, h121, h123, hg5, hg11, hg18, hg24, hg119, hg126, hR131, cs4]); subst hq
   exact Kr (vl a108 k109 f1_107) rfl (.cellN 1 rfl sh54 rfl (reads_Cl _ _) rfl .nil) [0, 2] en
  intro h123
  have g132 := ne_of_beq_false h123
  refine KS ?_
  refine Jp 2 fun hp133 => ?_
  refine JK_drawK [0, 1, 0, 4, 12, 31, 63, 127] fmix ?_
  refine Dv [0] (Vfa fo54_1 0) (Dv [3] (VldF sh52 0) (Dv [] Vm ?_))
  refine letv (pz_block (Gparser.mk p.l p1_105 p2_106)) fun rv135 hg136 => ?_
  refine Dx [1, 5] [1] [3, 0, 1, 2] (fun G => .agg #[.string (bs rv135.1.Name), (G.g 3 0)]) [fun G => SP.fact (rv135.1.Name.b.length ≤ 140737488355328 ∧ i64ok rv135.2.at_ ∧ i64ok rv135.2.Err ∧ (0 ≤ rv135.2.at_ ∧ rv135.2.at_ ≤ ((Gparser.mk p.l p1_105 p2_106).l.length : Int))), fun G => sl (G.g 3 0) rv135.1.Stmts, fun G => Cl pP [vl pa0 pk0 p.l, vi rv135.2.at_, vi rv135.2.Err]] (fun G => xC [0, 0] ca87 (fn87 pP (Gparser.mk p.l p1_105 p2_106) pa0 pk0 pre pre pre rv135 hg136)) (Dx [] [] [0] (fun G => (G.g 4 0)) [fun G => Cr (G.g 4 0) 1 [.string (bs rv135.1.Name), (G.g 3 0)]] (fun G => xA (AsV sl52 sz52 [.agg #[.string (bs rv135.1.Name), (G.g 3 0)]] [.string (bs rv135.1.Name), (G.g 3 0)])) ?_)
  have hn139 := la f1_107 ([rv135.1] : List GBlock)
  refine Dx [2, 6, 7, 9] [2, 9] [2, 1, 0] (fun G => (G.g 5 0)) [fun G => os (G.g 5 0) ((f1_107 ++ [rv135.1]) : List GBlock)] (fun G => by refine xf 1 rfl ?_; rintro ⟨he140, he141, he142, he143⟩; unfold i64ok at he141 he142; exact xp [3, 2] rfl (Ent.cr1 (α := GBlock) (A := [sl (G.g 3 0) rv135.1.Stmts]) _ rv135.1 _ aB1 (fun h => ⟨_, rfl, aS1, sepAll_get (i := 0) rfl h⟩)) (xA (ApO [2, 0] sl52 sl52 sz52))) (Dv [0] (Vfa fo54_1 0) (Dx0 [3, 10] [3] [1, 0] [fun G => Cl p3 [.string (bs rv10.1), (G.g 5 0)]] (fun G => x1 1 rfl os_one fun ho144 => (xS (OpS.frame [0] rfl (OpS.storeClF [(G.g 5 0)] [.string (bs rv10.1), (G.g 5 0)] rfl rfl rfl sh52 (cells_of_one ho144) rfl (by simp only [List.all_cons, List.all_nil, ho144, Bool.and_true, Bool.true_and] <;> rfl) aB1 rfl)))) ?_))
  refine Dn ⟨by kernel_rfl, fun G => ?_⟩
  refine Jw2 [(0, pP), (2, p2), (3, p3)] [0, 4, 5] [SP.fact (rv135.1.Name.b.length ≤ 140737488355328 ∧ i64ok rv135.2.at_ ∧ i64ok rv135.2.Err ∧ (0 ≤ rv135.2.at_ ∧ rv135.2.at_ ≤ ((Gparser.mk p.l p1_105 p2_106).l.length : Int))), sl (G.g 3 0) rv135.1.Stmts, Cl pP [vl pa0 pk0 p.l, vi rv135.2.at_, vi rv135.2.Err], os (G.g 5 0) ((f1_107 ++ [rv135.1]) : List GBlock), Cl p3 [.string (bs rv10.1), (G.g 5 0)]] ?_
  generalize G.g 3 0 = c134, G.g 5 0 = c138
  refine Jf 3 rfl ?_; rintro ⟨he145, he146, he147, he148⟩
  unfold i64ok at he146 he147
  refine Jk [1, 1, 3, 4, 4, 4] ?_
  refine Jo 2 ?_; rintro a149 k150 rfl
  refine Fb 72 2 fun _ => ?_
  refine Jo 4 ?_; rintro a152 k153 rfl
  refine Fb 40 4 fun _ => KS ?_
  exact Kg (r104, rv135.2.at_, rv135.2.Err, (f1_107 ++ [rv135.1]), a152, k153) [4, 3, 3, 0, 0] ⟨(q3 hM110 (by simp only [pz_function_L0, h121, h123, hg119, hg136, cs4])), aM1, aM1, iv1, iv1⟩
 intro h121
 refine Ke ?_
 have hR156 := q2 hM110 (.brk (p1_105, p2_106, f1_107)) (by simp only [pz_function_L0, h121, hg119, cs4])
 refine KS ?_
 refine Oq Vm ?_
 refine letv (pz_word (Gparser.mk p.l p1_105 p2_106) (Str.mk [101, 110, 100])) fun rv157 hg158 => ?_
 have hc159 := fn84 pP (Gparser.mk p.l p1_105 p2_106) pa0 pk0 ((Str.mk [101, 110, 100])) pre pre pre pre rv157 hg158
 refine Oc [0, 3] ca84 hc159 ?_
 rintro - ⟨he160, he161, he162⟩
 unfold i64ok at he160 he161
 have he162 : (0 ≤ rv157.at_ ∧ rv157.at_ ≤ (p.l.length : Int)) := he162
 refine KS ?_
 refine Oq Vm ?_
 refine letv (pz_end (Gparser.mk p.l rv157.at_ rv157.Err)) fun rv163 hg164 => ?_
 have hc165 := fn86 pP (Gparser.mk p.l rv157.at_ rv157.Err) pa0 pk0 pre pre pre rv163 hg164
 refine Oc [0, 3] ca86 hc165 ?_
 rintro - ⟨he166, he167, he168⟩
 unfold i64ok at he166 he167
 have he168 : (0 ≤ rv163.at_ ∧ rv163.at_ ≤ (p.l.length : Int)) := he168
 refine KS ?_
 refine Oq (VldA sh54 2) (Ost (Scl [3] sh54 [.string (bs rv10.1), vl a108 k109 f1_107]) (KS ?_))
 refine Jl [2] (Ent.freeze _ _) ?_
 have hq := q4 hrr ((GFunc.mk rv10.1 f1_107), (Gparser.mk p.l rv163.at_ rv163.Err)) (by simp only [pz_function, h26, h102, h121, hg5, hg11, hg18, hg24, hg119, hR156, hg158, hg164, cs4]); subst hq
 exact Kr (vl a108 k109 f1_107) rfl (.cellN 1 rfl sh54 rfl (reads_Cl _ _) rfl .nil) [0, 2] en
theorem fn27 (text : Str) (htext_0 : text.b.length ≤ 140737488355328) (rr : GProgram × Int × Int × Int) (hrr : r4_Parse text = rr) : FT Tryz.prog 27 #[.string (bs text)] [] (fun g : Value => i64ok rr.2.1 ∧ i64ok rr.2.2.1 ∧ i64ok rr.2.2.2) (fun g => .tuple #[.agg #[g], vi rr.2.1, vi rr.2.2.1, vi rr.2.2.2]) (fun g => [sl g rr.1.Funcs]) := by
 refine FTi Tryz.func27 fun w0 M0 F0 => ?_
 refine KS ?_
 refine Oa (Al ze25 [.slice none 0 0]) fun p1 => Oq Va (Oq Va (Oq Va (KS ?_)))
 refine Oq Vm ?_
 refine letv (r4_Scan text) fun rv3 hg4 => ?_
 have hc5 := fn51 text pre rv3 hg4
 refine Oc [] ca51 hc5 ?_
 rintro c2 ⟨he6, he7, he8⟩
 unfold i64ok at he6 he7 he8
 refine Jo 0 ?_; rintro a9 k10 rfl
 refine Fb 40 0 fun _ => ?_
 refine Oq Vm (Oq Vx (Oq Vx (Oq Vx (Oq Vx (Oq Va (Oq Va (Oq Va (Oq Va (KS ?_)))))))))
 refine Oq Vm (Oq Vneq (KS ?_))
 refine Kc ?_ ?_
 ·intro h12
  have g13 := ne_of_bne h12
  refine KS ?_
  refine Oq (Vbd st25 [.slice none 0 0]) (Oq Vm (Oq Vm (Oq Vm (Ost (Scl [1] sh25 [.slice none 0 0]) (Oq Va (Oq Va (Oq Va (KS ?_))))))))
  refine Jl [] (Ent.slNil (α := GFunc)) ?_
  have hq := q4 hrr ((GProgram.mk []), rv3.2.1, rv3.2.2.1, rv3.2.2.2) (by simp only [r4_Parse, h12, hg4, cs4]); subst hq
  exact Kr (.slice none 0 0) rfl (.cellN 1 rfl sh25 rfl (reads_Cl _ _) rfl (.tmp rfl (.tmp rfl (.tmp rfl .nil)))) [0] en
 intro h12
 have g14 := eq_of_bne_false h12
 refine KS ?_
 refine Oq Vm (Oq (Vbd st100 [vl a9 k10 rv3.1, vi 0, vi 0]) (Oa (AbO [vl a9 k10 rv3.1, vi 0, vi 0]) fun p15 => Oq Va (KS ?_)))
 refine Oa (Al ze25 [.slice none 0 0]) fun p16 => KS ?_
 refine Oq Vm ?_
 refine letv (pz_is (Gparser.mk rv3.1 0 0) (Str.mk [102, 117, 110, 99])) fun rv17 hg18 => ?_
 have hc19 := fn52 p15 (Gparser.mk rv3.1 0 0) a9 k10 ((Str.mk [102, 117, 110, 99])) pre pre pre pre rv17 hg18
 refine Oc [1, 1] ca52 hc19 ?_
 rintro - -
 refine Oq Vnot (KS ?_)
 refine Kc ?_ ?_
 ·intro h20
  have h22 := not_true h20
  refine KS ?_
  refine Oq Vm ?_
  refine letv (pz_fail (Gparser.mk rv3.1 0 0) 4) fun rv24 hg25 => ?_
  have hc26 := fn53 p15 (Gparser.mk rv3.1 0 0) a9 k10 4 pre pre pre pre rv24 hg25
  refine Oc [0, 1] ca53 hc26 ?_
  rintro - ⟨he27, he28, he29⟩
  unfold i64ok at he27 he28
  have he29 : (0 ≤ rv24.at_ ∧ rv24.at_ ≤ (rv3.1.length : Int)) := he29
  refine KS ?_
  refine Jl [] (Ent.osNil (α := GFunc)) ?_
  have hterm41 : r4_Parse_L0 rv3.1 (rv3.1.length + 1) rv24.at_ rv24.Err [] ≠ LR.oof := (Parse_L0_adv _ _ _ _ aM1).1
  refine Kl (γ := Nat × Int × Int × List GFunc × Option Addr × Nat) (fun (r30, p1_31, p2_32, out0_33, a34, k35) => ⟨[(2, p1), (6, vl a9 k10 rv3.1), (10, p15), (11, p16)], [O a34 k35 out0_33, Cl p15 [vl a9 k10 rv3.1, vi p1_31, vi p2_32], Cl p16 [vl a34 k35 out0_33], S a9 k10 rv3.1, Cl p1 [.slice none 0 0]], r4_Parse_L0 rv3.1 r30 p1_31 p2_32 out0_33 = r4_Parse_L0 rv3.1 (rv3.1.length + 1) rv24.at_ rv24.Err [] ∧ (-9223372036854775808 ≤ p1_31 ∧ p1_31 ≤ 9223372036854775807) ∧ (-9223372036854775808 ≤ p2_32 ∧ p2_32 ≤ 9223372036854775807) ∧ (0 ≤ p1_31 ∧ p1_31 ≤ (rv3.1.length : Int)) ∧ (out0_33.length ≤ 8), r30⟩) ((rv3.1.length + 1), rv24.at_, rv24.Err, [], none, 0) [0, 0, 0, 0, 1] ⟨rfl, aM1, aM1, iv0, iv0⟩ ?_
  rintro ⟨r30, p1_31, p2_32, out0_33, a34, k35⟩ ⟨hM36, hk37, hk38, hv39, hv40⟩
  refine JJ_nx fun _ _ hL hA => ?_; dsimp only at hL hA; subst hL hA
  refine Fb 40 0 fun _ => Fb 40 3 fun _ => ?_
  rcases r30 with _ | r30
  ·exact absurd (hM36.symm.trans rfl) hterm41
  refine KS ?_
  refine Oq Vm ?_
  refine letv (pz_is (Gparser.mk rv3.1 p1_31 p2_32) (Str.mk [102, 117, 110, 99])) fun rv44 hg45 => ?_
  have hc46 := fn52 p15 (Gparser.mk rv3.1 p1_31 p2_32) a9 k10 ((Str.mk [102, 117, 110, 99])) pre pre pre pre rv44 hg45
  refine Oc [1, 2] ca52 hc46 ?_
  rintro - -
  refine KS ?_
  refine Kc ?_ ?_
  ·intro h47
   refine KS ?_
   refine Oq (Vfa fo25_0 2) (Oq (VldF sh23 2) (Oq (Vlen sl23) (Oq Veql (KS ?_))))
   refine Kc ?_ ?_
   ·intro h49
    have g50 := eq_of_beq h49
    refine KS ?_
    refine Oq Vm ?_
    refine letv (pz_fail (Gparser.mk rv3.1 p1_31 p2_32) 7) fun rv51 hg52 => ?_
    have hc53 := fn53 p15 (Gparser.mk rv3.1 p1_31 p2_32) a9 k10 7 pre pre pre pre rv51 hg52
    refine Oc [0, 2] ca53 hc53 ?_
    rintro - ⟨he54, he55, he56⟩
    unfold i64ok at he54 he55
    have he56 : (0 ≤ rv51.at_ ∧ rv51.at_ ≤ (rv3.1.length : Int)) := he56
    refine KS ?_
    refine Ke ?_
    have hR57 := q2 hM36 (.brk (rv51.at_, rv51.Err, out0_33)) (by simp only [r4_Parse_L0, h47, h49, hg45, hg52, cs4])
    refine KS ?_
    refine Oq Vm (Oq (Vn 0) (Oq (Vfa fo100_2 0) (Oq (VldF sh42 0) (Oq Veql (Oq Vm ?_)))))
    refine Js 53 ?_ ?_
    ·intro h58
     have g59 := eq_of_beq h58
     refine Oq Vm (Oq (Vn 0) (Oq (Vfa fo100_1 0) (Oq (VldF sh3 0) (Oq Vm (Oq (Vlen sl95) (Oq Vlss (Oq Vpt (KS ?_))))))))
     refine Kc ?_ ?_
     ·intro h60
      have g61 := dt h60
      refine KS ?_
      refine Oq Vm ?_
      refine letv (pz_fail (Gparser.mk rv3.1 rv51.at_ rv51.Err) 4) fun rv62 hg63 => ?_
      have hc64 := fn53 p15 (Gparser.mk rv3.1 rv51.at_ rv51.Err) a9 k10 4 pre pre pre pre rv62 hg63
      refine Oc [0, 2] ca53 hc64 ?_
      rintro - ⟨he65, he66, he67⟩
      unfold i64ok at he65 he66
      have he67 : (0 ≤ rv62.at_ ∧ rv62.at_ ≤ (rv3.1.length : Int)) := he67
      refine KS ?_
      refine Oq Vm (Oq (Vn 0) (Oq (Vfa fo100_2 0) (Oq (VldF sh42 0) (Oq Veql (KS ?_)))))
      refine Kc ?_ ?_
      ·intro h68
       have g69 := eq_of_beq h68
       refine KS ?_
       refine Oq (VldA sh25 2) (Ost (Scl [4] sh25 [vl a34 k35 out0_33]) (Oq Va (Oq Va (Oq Va (KS ?_)))))
       refine Jl [2] (Ent.freeze _ _) ?_
       have hq := q4 hrr ((GProgram.mk out0_33), 0, 0, 0) (by simp only [r4_Parse, h12, h20, h22, h47, h49, h58, h60, h68, hg4, hg18, hg25, hg45, hg52, hR57, hg63, cs4]); subst hq
       exact Kr (vl a34 k35 out0_33) rfl (.cellN 1 rfl sh25 rfl (reads_Cl _ _) rfl (.tmp rfl (.tmp rfl (.tmp rfl .nil)))) [0] en
      intro h68
      have g70 := ne_of_beq_false h68
      refine KS ?_
      refine Oq Vm (Oq (Vn 0) (Oq (Vfa fo100_1 0) (Oq (VldF sh3 0) (Oq Vm (Oq (Vlen sl95) (Oq Vlss (KS ?_)))))))
      refine Kc ?_ ?_
      ·intro h71
       have g72 := dt h71
       refine KS ?_
       refine Jp 0 fun hp73 => ?_
       refine JJ_peek_GToken rv62.at_.toNat 4 rfl rng fun hb74 hb75 hb76 hb77 => ?_
       unfold i64ok at hb74 hb76 hb77
       refine JK_drawK [0, 0, 0, 4, 12, 28, 62, 126, 254, 0, 0, 1024, 3072, 7168, 15872, 32256, 65024, 0, 131072, 393216, 917504, 1, 2097663, 6422527, 16777215] fmix ?_
       refine Dv [] (Vbd st25 [.slice none 0 0]) (Dv [] Vm (Dv [] Vm (Dv [1] (Vn 0) (Dv [1] (Vfa fo100_1 0) (Dv [2] (VldF sh3 0) (Dv [5] (Vi sl95 0) (Dv [0] (Vfa fo105_2 0) (Dv [0] (VldF sh3 0) (Dv [] Vm ?_)))))))))
       refine Dv [] Vm (Dv [1] (Vn 0) (Dv [1] (Vfa fo100_1 0) (Dv [2] (VldF sh3 0) (Dv [5] (Vi sl95 0) (Dv [0] (Vfa fo105_3 0) (Dv [0] (VldF sh3 0) (Dv [] Vm (Dv [1] (Vn 0) (Dv [1] (Vfa fo100_2 0) ?_)))))))))
       refine Dv [2] (VldF sh42 0) (Dx0 [6] [6] [0] [fun G => Cl p1 [.slice none 0 0]] (fun G => xS (Scl [0] sh25 [.slice none 0 0])) (Dv [] Va (Dv [] Va (Dv [] Va ?_))))
       refine Dn ⟨by kernel_rfl, fun G => ?_⟩
       refine Jw2 [(2, p1), (3, vi ((rv3.1.getD rv62.at_.toNat default).Line)), (4, vi ((rv3.1.getD rv62.at_.toNat default).Col)), (5, vi rv62.Err)] [0, 1, 2, 3, 4, 5] [Cl p1 [.slice none 0 0]] ?_
       refine Jk [0, 2, 2, 2, 2, 3] ?_
       refine Jl [] (Ent.slNil (α := GFunc)) ?_
       have hq := q4 hrr ((GProgram.mk []), (rv3.1.getD rv62.at_.toNat default).Line, (rv3.1.getD rv62.at_.toNat default).Col, rv62.Err) (by simp only [r4_Parse, h12, h20, h22, h47, h49, h58, h60, h68, h71, hg4, hg18, hg25, hg45, hg52, hR57, hg63, cs4]); subst hq
       exact Kr (.slice none 0 0) rfl (.cellN 6 rfl sh25 rfl (reads_Cl _ _) rfl (.tmp rfl (.tmp rfl (.tmp rfl .nil)))) [0] en
      intro h71
      have g78 := df h71
      refine KS ?_
      refine Jp 0 fun hp79 => ?_
      refine JK_drawK [0, 0, 2, 6, 14, 1, 33, 97, 255] fmix ?_
      refine Dv [] (Vbd st25 [.slice none 0 0]) (Dv [] Vm (Dv [0] (Vn 0) (Dv [0] (Vfa fo100_2 0) (Dv [1] (VldF sh42 0) (Dx0 [5] [5] [0] [fun G => Cl p1 [.slice none 0 0]] (fun G => xS (Scl [0] sh25 [.slice none 0 0])) (Dv [] Va (Dv [] Va (Dv [] Va ?_))))))))
      refine Dn ⟨by kernel_rfl, fun G => ?_⟩
      refine Jw2 [(2, p1), (3, vi 0), (4, vi 0), (5, vi rv62.Err)] [0, 1, 2, 3, 4] [Cl p1 [.slice none 0 0]] ?_
      refine Jk [1, 1, 1, 1, 2] ?_
      refine Jl [] (Ent.slNil (α := GFunc)) ?_
      have hq := q4 hrr ((GProgram.mk []), 0, 0, rv62.Err) (by simp only [r4_Parse, h12, h20, h22, h47, h49, h58, h60, h68, h71, hg4, hg18, hg25, hg45, hg52, hR57, hg63, cs4]); subst hq
      exact Kr (.slice none 0 0) rfl (.cellN 5 rfl sh25 rfl (reads_Cl _ _) rfl (.tmp rfl (.tmp rfl (.tmp rfl .nil)))) [0] en
     intro h60
     have g80 := df h60
     refine KS ?_
     refine Oq Vm (Oq (Vn 0) (Oq (Vfa fo100_2 0) (Oq (VldF sh42 0) (Oq Veql (KS ?_)))))
     refine Kc ?_ ?_
     ·intro h81
      have g82 := eq_of_beq h81
      refine KS ?_
      refine Oq (VldA sh25 2) (Ost (Scl [4] sh25 [vl a34 k35 out0_33]) (Oq Va (Oq Va (Oq Va (KS ?_)))))
      refine Jl [2] (Ent.freeze _ _) ?_
      have hq := q4 hrr ((GProgram.mk out0_33), 0, 0, 0) (by simp only [r4_Parse, h12, h20, h22, h47, h49, h58, h60, h81, hg4, hg18, hg25, hg45, hg52, hR57, cs4]); subst hq
      exact Kr (vl a34 k35 out0_33) rfl (.cellN 1 rfl sh25 rfl (reads_Cl _ _) rfl (.tmp rfl (.tmp rfl (.tmp rfl .nil)))) [0] en
     intro h81
     exact absurd h81 (by first | (simp [h58]; done) | (simp only [bne, h58]; decide) | (simp only [bne, h58, Bool.not_true, Bool.not_false]; decide) | (exfalso; omega) | (intro hq; simp only [bne, hq, Bool.not_false, Bool.not_true, reduceCtorEq] at h58))
    intro h58
    have g83 := ne_of_beq_false h58
    refine Osk (Osk (Osk (Osk (Osk (Osk (Osk (Oq Vpf (KS ?_))))))))
    refine Kf (KS ?_)
    refine Oq Vm (Oq (Vn 0) (Oq (Vfa fo100_2 0) (Oq (VldF sh42 0) (Oq Veql (KS ?_)))))
    refine Kc ?_ ?_
    ·intro h84
     exact absurd h84 (by first | (simp [h58]; done) | (simp only [bne, h58]; decide) | (simp only [bne, h58, Bool.not_true, Bool.not_false]; decide) | (exfalso; omega) | (intro hq; simp only [bne, hq, Bool.not_false, Bool.not_true, reduceCtorEq] at h58))
    intro h84
    have g85 := ne_of_beq_false h84
    refine KS ?_
    refine Oq Vm (Oq (Vn 0) (Oq (Vfa fo100_1 0) (Oq (VldF sh3 0) (Oq Vm (Oq (Vlen sl95) (Oq Vlss (KS ?_)))))))
    refine Kc ?_ ?_
    ·intro h86
     have g87 := dt h86
     refine KS ?_
     refine Jp 0 fun hp88 => ?_
     refine JJ_peek_GToken rv51.at_.toNat 4 rfl rng fun hb89 hb90 hb91 hb92 => ?_
     unfold i64ok at hb89 hb91 hb92
     refine JK_drawK [0, 0, 0, 4, 12, 28, 62, 126, 254, 0, 0, 1024, 3072, 7168, 15872, 32256, 65024, 0, 131072, 393216, 917504, 1, 2097663, 6422527, 16777215] fmix ?_
     refine Dv [] (Vbd st25 [.slice none 0 0]) (Dv [] Vm (Dv [] Vm (Dv [1] (Vn 0) (Dv [1] (Vfa fo100_1 0) (Dv [2] (VldF sh3 0) (Dv [5] (Vi sl95 0) (Dv [0] (Vfa fo105_2 0) (Dv [0] (VldF sh3 0) (Dv [] Vm ?_)))))))))
     refine Dv [] Vm (Dv [1] (Vn 0) (Dv [1] (Vfa fo100_1 0) (Dv [2] (VldF sh3 0) (Dv [5] (Vi sl95 0) (Dv [0] (Vfa fo105_3 0) (Dv [0] (VldF sh3 0) (Dv [] Vm (Dv [1] (Vn 0) (Dv [1] (Vfa fo100_2 0) ?_)))))))))
     refine Dv [2] (VldF sh42 0) (Dx0 [6] [6] [0] [fun G => Cl p1 [.slice none 0 0]] (fun G => xS (Scl [0] sh25 [.slice none 0 0])) (Dv [] Va (Dv [] Va (Dv [] Va ?_))))
     refine Dn ⟨by kernel_rfl, fun G => ?_⟩
     refine Jw2 [(2, p1), (3, vi ((rv3.1.getD rv51.at_.toNat default).Line)), (4, vi ((rv3.1.getD rv51.at_.toNat default).Col)), (5, vi rv51.Err)] [0, 1, 2, 3, 4, 5] [Cl p1 [.slice none 0 0]] ?_
     refine Jk [0, 2, 2, 2, 2, 3] ?_
     refine Jl [] (Ent.slNil (α := GFunc)) ?_
     have hq := q4 hrr ((GProgram.mk []), (rv3.1.getD rv51.at_.toNat default).Line, (rv3.1.getD rv51.at_.toNat default).Col, rv51.Err) (by simp only [r4_Parse, h12, h20, h22, h47, h49, h58, h84, h86, hg4, hg18, hg25, hg45, hg52, hR57, cs4]); subst hq
     exact Kr (.slice none 0 0) rfl (.cellN 6 rfl sh25 rfl (reads_Cl _ _) rfl (.tmp rfl (.tmp rfl (.tmp rfl .nil)))) [0] en
    intro h86
    have g93 := df h86
    refine KS ?_
    refine Jp 0 fun hp94 => ?_
    refine JK_drawK [0, 0, 2, 6, 14, 1, 33, 97, 255] fmix ?_
    refine Dv [] (Vbd st25 [.slice none 0 0]) (Dv [] Vm (Dv [0] (Vn 0) (Dv [0] (Vfa fo100_2 0) (Dv [1] (VldF sh42 0) (Dx0 [5] [5] [0] [fun G => Cl p1 [.slice none 0 0]] (fun G => xS (Scl [0] sh25 [.slice none 0 0])) (Dv [] Va (Dv [] Va (Dv [] Va ?_))))))))
    refine Dn ⟨by kernel_rfl, fun G => ?_⟩
    refine Jw2 [(2, p1), (3, vi 0), (4, vi 0), (5, vi rv51.Err)] [0, 1, 2, 3, 4] [Cl p1 [.slice none 0 0]] ?_
    refine Jk [1, 1, 1, 1, 2] ?_
    refine Jl [] (Ent.slNil (α := GFunc)) ?_
    have hq := q4 hrr ((GProgram.mk []), 0, 0, rv51.Err) (by simp only [r4_Parse, h12, h20, h22, h47, h49, h58, h84, h86, hg4, hg18, hg25, hg45, hg52, hR57, cs4]); subst hq
    exact Kr (.slice none 0 0) rfl (.cellN 5 rfl sh25 rfl (reads_Cl _ _) rfl (.tmp rfl (.tmp rfl (.tmp rfl .nil)))) [0] en
   intro h49
   have g95 := ne_of_beq_false h49
   refine KS ?_
   refine Jp 2 fun hp96 => ?_
   refine JK_drawK [0, 1, 0, 4, 12, 31, 63, 127] fmix ?_
   refine Dv [0] (Vfa fo25_0 0) (Dv [3] (VldF sh23 0) (Dv [] Vm ?_))
   refine letv (pz_function (Gparser.mk rv3.1 p1_31 p2_32)) fun rv98 hg99 => ?_
   refine Dx [1, 4] [1] [3, 0, 1, 2] (fun G => .agg #[.string (bs rv98.1.Name), (G.g 3 0)]) [fun G => SP.fact (rv98.1.Name.b.length ≤ 140737488355328 ∧ i64ok rv98.2.at_ ∧ i64ok rv98.2.Err ∧ (0 ≤ rv98.2.at_ ∧ rv98.2.at_ ≤ ((Gparser.mk rv3.1 p1_31 p2_32).l.length : Int))), fun G => sl (G.g 3 0) rv98.1.Blocks, fun G => Cl p15 [vl a9 k10 rv3.1, vi rv98.2.at_, vi rv98.2.Err]] (fun G => xC [0, 0] ca54 (fn54 p15 (Gparser.mk rv3.1 p1_31 p2_32) a9 k10 pre pre pre rv98 hg99)) (Dx [] [] [0] (fun G => (G.g 4 0)) [fun G => Cr (G.g 4 0) 1 [.string (bs rv98.1.Name), (G.g 3 0)]] (fun G => xA (AsV sl23 sz23 [.agg #[.string (bs rv98.1.Name), (G.g 3 0)]] [.string (bs rv98.1.Name), (G.g 3 0)])) ?_)
   have hn102 := la out0_33 ([rv98.1] : List GFunc)
   refine Dx [2, 6, 7, 9] [2, 9] [2, 1, 0] (fun G => (G.g 5 0)) [fun G => os (G.g 5 0) ((out0_33 ++ [rv98.1]) : List GFunc)] (fun G => by refine xf 1 rfl ?_; rintro ⟨he103, he104, he105, he106⟩; unfold i64ok at he104 he105; exact xp [3, 2] rfl (Ent.cr1 (α := GFunc) (A := [sl (G.g 3 0) rv98.1.Blocks]) _ rv98.1 _ aB1 (fun h => ⟨_, rfl, aS1, sepAll_get (i := 0) rfl h⟩)) (xA (ApO [2, 0] sl23 sl23 sz23))) (Dv [0] (Vfa fo25_0 0) (Dx0 [3, 10] [3] [1, 0] [fun G => Cl p16 [(G.g 5 0)]] (fun G => x1 1 rfl os_one fun ho107 => (xS (OpS.frame [0] rfl (OpS.storeClF [(G.g 5 0)] [(G.g 5 0)] rfl rfl rfl sh23 (cells_of_one ho107) rfl (by simp only [List.all_cons, List.all_nil, ho107, Bool.and_true, Bool.true_and] <;> rfl) aB1 rfl)))) ?_))
   refine Dn ⟨by kernel_rfl, fun G => ?_⟩
   refine Jw2 [(2, p1), (6, vl a9 k10 rv3.1), (10, p15), (11, p16)] [0, 4, 5] [SP.fact (rv98.1.Name.b.length ≤ 140737488355328 ∧ i64ok rv98.2.at_ ∧ i64ok rv98.2.Err ∧ (0 ≤ rv98.2.at_ ∧ rv98.2.at_ ≤ ((Gparser.mk rv3.1 p1_31 p2_32).l.length : Int))), sl (G.g 3 0) rv98.1.Blocks, Cl p15 [vl a9 k10 rv3.1, vi rv98.2.at_, vi rv98.2.Err], os (G.g 5 0) ((out0_33 ++ [rv98.1]) : List GFunc), Cl p16 [(G.g 5 0)]] ?_
   generalize G.g 3 0 = c97, G.g 5 0 = c101
   refine Jf 3 rfl ?_; rintro ⟨he108, he109, he110, he111⟩
   unfold i64ok at he109 he110
   refine Jk [1, 2, 3, 4, 4, 4] ?_
   refine Jo 2 ?_; rintro a112 k113 rfl
   refine Fb 40 2 fun _ => ?_
   refine Jo 4 ?_; rintro a115 k116 rfl
   refine Fb 40 4 fun _ => KS ?_
   exact Kg (r30, rv98.2.at_, rv98.2.Err, (out0_33 ++ [rv98.1]), a115, k116) [4, 3, 3, 0, 1] ⟨(q3 hM36 (by simp only [r4_Parse_L0, h47, h49, hg45, hg99, cs4])), aM1, aM1, iv1, iv1⟩
  intro h47
  refine Ke ?_
  have hR119 := q2 hM36 (.brk (p1_31, p2_32, out0_33)) (by simp only [r4_Parse_L0, h47, hg45, cs4])
  refine KS ?_
  refine Oq Vm (Oq (Vn 0) (Oq (Vfa fo100_2 0) (Oq (VldF sh42 0) (Oq Veql (Oq Vm ?_)))))
  refine Js 53 ?_ ?_
  ·intro h120
   have g121 := eq_of_beq h120
   refine Oq Vm (Oq (Vn 0) (Oq (Vfa fo100_1 0) (Oq (VldF sh3 0) (Oq Vm (Oq (Vlen sl95) (Oq Vlss (Oq Vpt (KS ?_))))))))
   refine Kc ?_ ?_
   ·intro h122
    have g123 := dt h122
    refine KS ?_
    refine Oq Vm ?_
    refine letv (pz_fail (Gparser.mk rv3.1 p1_31 p2_32) 4) fun rv124 hg125 => ?_
    have hc126 := fn53 p15 (Gparser.mk rv3.1 p1_31 p2_32) a9 k10 4 pre pre pre pre rv124 hg125
    refine Oc [0, 2] ca53 hc126 ?_
    rintro - ⟨he127, he128, he129⟩
    unfold i64ok at he127 he128
    have he129 : (0 ≤ rv124.at_ ∧ rv124.at_ ≤ (rv3.1.length : Int)) := he129
    refine KS ?_
    refine Oq Vm (Oq (Vn 0) (Oq (Vfa fo100_2 0) (Oq (VldF sh42 0) (Oq Veql (KS ?_)))))
    refine Kc ?_ ?_
    ·intro h130
     have g131 := eq_of_beq h130
     refine KS ?_
     refine Oq (VldA sh25 2) (Ost (Scl [4] sh25 [vl a34 k35 out0_33]) (Oq Va (Oq Va (Oq Va (KS ?_)))))
     refine Jl [2] (Ent.freeze _ _) ?_
     have hq := q4 hrr ((GProgram.mk out0_33), 0, 0, 0) (by simp only [r4_Parse, h12, h20, h22, h47, h120, h122, h130, hg4, hg18, hg25, hg45, hR119, hg125, cs4]); subst hq
     exact Kr (vl a34 k35 out0_33) rfl (.cellN 1 rfl sh25 rfl (reads_Cl _ _) rfl (.tmp rfl (.tmp rfl (.tmp rfl .nil)))) [0] en
    intro h130
    have g132 := ne_of_beq_false h130
    refine KS ?_
    refine Oq Vm (Oq (Vn 0) (Oq (Vfa fo100_1 0) (Oq (VldF sh3 0) (Oq Vm (Oq (Vlen sl95) (Oq Vlss (KS ?_)))))))
    refine Kc ?_ ?_
    ·intro h133
     have g134 := dt h133
     refine KS ?_
     refine Jp 0 fun hp135 => ?_
     refine JJ_peek_GToken rv124.at_.toNat 4 rfl rng fun hb136 hb137 hb138 hb139 => ?_
     unfold i64ok at hb136 hb138 hb139
     refine JK_drawK [0, 0, 0, 4, 12, 28, 62, 126, 254, 0, 0, 1024, 3072, 7168, 15872, 32256, 65024, 0, 131072, 393216, 917504, 1, 2097663, 6422527, 16777215] fmix ?_
     refine Dv [] (Vbd st25 [.slice none 0 0]) (Dv [] Vm (Dv [] Vm (Dv [1] (Vn 0) (Dv [1] (Vfa fo100_1 0) (Dv [2] (VldF sh3 0) (Dv [5] (Vi sl95 0) (Dv [0] (Vfa fo105_2 0) (Dv [0] (VldF sh3 0) (Dv [] Vm ?_)))))))))
     refine Dv [] Vm (Dv [1] (Vn 0) (Dv [1] (Vfa fo100_1 0) (Dv [2] (VldF sh3 0) (Dv [5] (Vi sl95 0) (Dv [0] (Vfa fo105_3 0) (Dv [0] (VldF sh3 0) (Dv [] Vm (Dv [1] (Vn 0) (Dv [1] (Vfa fo100_2 0) ?_)))))))))
     refine Dv [2] (VldF sh42 0) (Dx0 [6] [6] [0] [fun G => Cl p1 [.slice none 0 0]] (fun G => xS (Scl [0] sh25 [.slice none 0 0])) (Dv [] Va (Dv [] Va (Dv [] Va ?_))))
     refine Dn ⟨by kernel_rfl, fun G => ?_⟩
     refine Jw2 [(2, p1), (3, vi ((rv3.1.getD rv124.at_.toNat default).Line)), (4, vi ((rv3.1.getD rv124.at_.toNat default).Col)), (5, vi rv124.Err)] [0, 1, 2, 3, 4, 5] [Cl p1 [.slice none 0 0]] ?_
     refine Jk [0, 2, 2, 2, 2, 3] ?_
     refine Jl [] (Ent.slNil (α := GFunc)) ?_
     have hq := q4 hrr ((GProgram.mk []), (rv3.1.getD rv124.at_.toNat default).Line, (rv3.1.getD rv124.at_.toNat default).Col, rv124.Err) (by simp only [r4_Parse, h12, h20, h22, h47, h120, h122, h130, h133, hg4, hg18, hg25, hg45, hR119, hg125, cs4]); subst hq
     exact Kr (.slice none 0 0) rfl (.cellN 6 rfl sh25 rfl (reads_Cl _ _) rfl (.tmp rfl (.tmp rfl (.tmp rfl .nil)))) [0] en
    intro h133
    have g140 := df h133
    refine KS ?_
    refine Jp 0 fun hp141 => ?_
    refine JK_drawK [0, 0, 2, 6, 14, 1, 33, 97, 255] fmix ?_
    refine Dv [] (Vbd st25 [.slice none 0 0]) (Dv [] Vm (Dv [0] (Vn 0) (Dv [0] (Vfa fo100_2 0) (Dv [1] (VldF sh42 0) (Dx0 [5] [5] [0] [fun G => Cl p1 [.slice none 0 0]] (fun G => xS (Scl [0] sh25 [.slice none 0 0])) (Dv [] Va (Dv [] Va (Dv [] Va ?_))))))))
    refine Dn ⟨by kernel_rfl, fun G => ?_⟩
    refine Jw2 [(2, p1), (3, vi 0), (4, vi 0), (5, vi rv124.Err)] [0, 1, 2, 3, 4] [Cl p1 [.slice none 0 0]] ?_
    refine Jk [1, 1, 1, 1, 2] ?_
    refine Jl [] (Ent.slNil (α := GFunc)) ?_
    have hq := q4 hrr ((GProgram.mk []), 0, 0, rv124.Err) (by simp only [r4_Parse, h12, h20, h22, h47, h120, h122, h130, h133, hg4, hg18, hg25, hg45, hR119, hg125, cs4]); subst hq
    exact Kr (.slice none 0 0) rfl (.cellN 5 rfl sh25 rfl (reads_Cl _ _) rfl (.tmp rfl (.tmp rfl (.tmp rfl .nil)))) [0] en
   intro h122
   have g142 := df h122
   refine KS ?_
   refine Oq Vm (Oq (Vn 0) (Oq (Vfa fo100_2 0) (Oq (VldF sh42 0) (Oq Veql (KS ?_)))))
   refine Kc ?_ ?_
   ·intro h143
    have g144 := eq_of_beq h143
    refine KS ?_
    refine Oq (VldA sh25 2) (Ost (Scl [4] sh25 [vl a34 k35 out0_33]) (Oq Va (Oq Va (Oq Va (KS ?_)))))
    refine Jl [2] (Ent.freeze _ _) ?_
    have hq := q4 hrr ((GProgram.mk out0_33), 0, 0, 0) (by simp only [r4_Parse, h12, h20, h22, h47, h120, h122, h143, hg4, hg18, hg25, hg45, hR119, cs4]); subst hq
    exact Kr (vl a34 k35 out0_33) rfl (.cellN 1 rfl sh25 rfl (reads_Cl _ _) rfl (.tmp rfl (.tmp rfl (.tmp rfl .nil)))) [0] en
   intro h143
   exact absurd h143 (by first | (simp [h120]; done) | (simp only [bne, h120]; decide) | (simp only [bne, h120, Bool.not_true, Bool.not_false]; decide) | (exfalso; omega) | (intro hq; simp only [bne, hq, Bool.not_false, Bool.not_true, reduceCtorEq] at h120))
  intro h120
  have g145 := ne_of_beq_false h120
  refine Osk (Osk (Osk (Osk (Osk (Osk (Osk (Oq Vpf (KS ?_))))))))
  refine Kf (KS ?_)
  refine Oq Vm (Oq (Vn 0) (Oq (Vfa fo100_2 0) (Oq (VldF sh42 0) (Oq Veql (KS ?_)))))
  refine Kc ?_ ?_
  ·intro h146
   exact absurd h146 (by first | (simp [h120]; done) | (simp only [bne, h120]; decide) | (simp only [bne, h120, Bool.not_true, Bool.not_false]; decide) | (exfalso; omega) | (intro hq; simp only [bne, hq, Bool.not_false, Bool.not_true, reduceCtorEq] at h120))
  intro h146
  have g147 := ne_of_beq_false h146
  refine KS ?_
  refine Oq Vm (Oq (Vn 0) (Oq (Vfa fo100_1 0) (Oq (VldF sh3 0) (Oq Vm (Oq (Vlen sl95) (Oq Vlss (KS ?_)))))))
  refine Kc ?_ ?_
  ·intro h148
   have g149 := dt h148
   refine KS ?_
   refine Jp 0 fun hp150 => ?_
   refine JJ_peek_GToken p1_31.toNat 4 rfl rng fun hb151 hb152 hb153 hb154 => ?_
   unfold i64ok at hb151 hb153 hb154
   refine JK_drawK [0, 0, 0, 4, 12, 28, 62, 126, 254, 0, 0, 1024, 3072, 7168, 15872, 32256, 65024, 0, 131072, 393216, 917504, 1, 2097663, 6422527, 16777215] fmix ?_
   refine Dv [] (Vbd st25 [.slice none 0 0]) (Dv [] Vm (Dv [] Vm (Dv [1] (Vn 0) (Dv [1] (Vfa fo100_1 0) (Dv [2] (VldF sh3 0) (Dv [5] (Vi sl95 0) (Dv [0] (Vfa fo105_2 0) (Dv [0] (VldF sh3 0) (Dv [] Vm ?_)))))))))
   refine Dv [] Vm (Dv [1] (Vn 0) (Dv [1] (Vfa fo100_1 0) (Dv [2] (VldF sh3 0) (Dv [5] (Vi sl95 0) (Dv [0] (Vfa fo105_3 0) (Dv [0] (VldF sh3 0) (Dv [] Vm (Dv [1] (Vn 0) (Dv [1] (Vfa fo100_2 0) ?_)))))))))
   refine Dv [2] (VldF sh42 0) (Dx0 [6] [6] [0] [fun G => Cl p1 [.slice none 0 0]] (fun G => xS (Scl [0] sh25 [.slice none 0 0])) (Dv [] Va (Dv [] Va (Dv [] Va ?_))))
   refine Dn ⟨by kernel_rfl, fun G => ?_⟩
   refine Jw2 [(2, p1), (3, vi ((rv3.1.getD p1_31.toNat default).Line)), (4, vi ((rv3.1.getD p1_31.toNat default).Col)), (5, vi p2_32)] [0, 1, 2, 3, 4, 5] [Cl p1 [.slice none 0 0]] ?_
   refine Jk [0, 2, 2, 2, 2, 3] ?_
   refine Jl [] (Ent.slNil (α := GFunc)) ?_
   have hq := q4 hrr ((GProgram.mk []), (rv3.1.getD p1_31.toNat default).Line, (rv3.1.getD p1_31.toNat default).Col, p2_32) (by simp only [r4_Parse, h12, h20, h22, h47, h120, h146, h148, hg4, hg18, hg25, hg45, hR119, cs4]); subst hq
   exact Kr (.slice none 0 0) rfl (.cellN 6 rfl sh25 rfl (reads_Cl _ _) rfl (.tmp rfl (.tmp rfl (.tmp rfl .nil)))) [0] en
  intro h148
  have g155 := df h148
  refine KS ?_
  refine Jp 0 fun hp156 => ?_
  refine JK_drawK [0, 0, 2, 6, 14, 1, 33, 97, 255] fmix ?_
  refine Dv [] (Vbd st25 [.slice none 0 0]) (Dv [] Vm (Dv [0] (Vn 0) (Dv [0] (Vfa fo100_2 0) (Dv [1] (VldF sh42 0) (Dx0 [5] [5] [0] [fun G => Cl p1 [.slice none 0 0]] (fun G => xS (Scl [0] sh25 [.slice none 0 0])) (Dv [] Va (Dv [] Va (Dv [] Va ?_))))))))
  refine Dn ⟨by kernel_rfl, fun G => ?_⟩
  refine Jw2 [(2, p1), (3, vi 0), (4, vi 0), (5, vi p2_32)] [0, 1, 2, 3, 4] [Cl p1 [.slice none 0 0]] ?_
  refine Jk [1, 1, 1, 1, 2] ?_
  refine Jl [] (Ent.slNil (α := GFunc)) ?_
  have hq := q4 hrr ((GProgram.mk []), 0, 0, p2_32) (by simp only [r4_Parse, h12, h20, h22, h47, h120, h146, h148, hg4, hg18, hg25, hg45, hR119, cs4]); subst hq
  exact Kr (.slice none 0 0) rfl (.cellN 5 rfl sh25 rfl (reads_Cl _ _) rfl (.tmp rfl (.tmp rfl (.tmp rfl .nil)))) [0] en
 intro h20
 have h158 := not_false h20
 refine KS ?_
 refine Jl [] (Ent.osNil (α := GFunc)) ?_
 have hterm171 : r4_Parse_L0 rv3.1 (rv3.1.length + 1) 0 0 [] ≠ LR.oof := (Parse_L0_adv _ _ _ _ aM1).1
 refine Kl (γ := Nat × Int × Int × List GFunc × Option Addr × Nat) (fun (r160, p1_161, p2_162, out0_163, a164, k165) => ⟨[(2, p1), (6, vl a9 k10 rv3.1), (10, p15), (11, p16)], [O a164 k165 out0_163, Cl p15 [vl a9 k10 rv3.1, vi p1_161, vi p2_162], Cl p16 [vl a164 k165 out0_163], S a9 k10 rv3.1, Cl p1 [.slice none 0 0]], r4_Parse_L0 rv3.1 r160 p1_161 p2_162 out0_163 = r4_Parse_L0 rv3.1 (rv3.1.length + 1) 0 0 [] ∧ (-9223372036854775808 ≤ p1_161 ∧ p1_161 ≤ 9223372036854775807) ∧ (-9223372036854775808 ≤ p2_162 ∧ p2_162 ≤ 9223372036854775807) ∧ (0 ≤ p1_161 ∧ p1_161 ≤ (rv3.1.length : Int)) ∧ (out0_163.length ≤ 8), r160⟩) ((rv3.1.length + 1), 0, 0, [], none, 0) [0, 0, 0, 0, 1] ⟨rfl, aM1, aM1, iv0, iv0⟩ ?_
 rintro ⟨r160, p1_161, p2_162, out0_163, a164, k165⟩ ⟨hM166, hk167, hk168, hv169, hv170⟩
 refine JJ_nx fun _ _ hL hA => ?_; dsimp only at hL hA; subst hL hA
 refine Fb 40 0 fun _ => Fb 40 3 fun _ => ?_
 rcases r160 with _ | r160
 ·exact absurd (hM166.symm.trans rfl) hterm171
 refine KS ?_
 refine Oq Vm ?_
 refine letv (pz_is (Gparser.mk rv3.1 p1_161 p2_162) (Str.mk [102, 117, 110, 99])) fun rv174 hg175 => ?_
 have hc176 := fn52 p15 (Gparser.mk rv3.1 p1_161 p2_162) a9 k10 ((Str.mk [102, 117, 110, 99])) pre pre pre pre rv174 hg175
 refine Oc [1, 2] ca52 hc176 ?_
 rintro - -
 refine KS ?_
 refine Kc ?_ ?_
 ·intro h177
  refine KS ?_
  refine Oq (Vfa fo25_0 2) (Oq (VldF sh23 2) (Oq (Vlen sl23) (Oq Veql (KS ?_))))
  refine Kc ?_ ?_
  ·intro h179
   have g180 := eq_of_beq h179
   refine KS ?_
   refine Oq Vm ?_
   refine letv (pz_fail (Gparser.mk rv3.1 p1_161 p2_162) 7) fun rv181 hg182 => ?_
   have hc183 := fn53 p15 (Gparser.mk rv3.1 p1_161 p2_162) a9 k10 7 pre pre pre pre rv181 hg182
   refine Oc [0, 2] ca53 hc183 ?_
   rintro - ⟨he184, he185, he186⟩
   unfold i64ok at he184 he185
   have he186 : (0 ≤ rv181.at_ ∧ rv181.at_ ≤ (rv3.1.length : Int)) := he186
   refine KS ?_
   refine Ke ?_
   have hR187 := q2 hM166 (.brk (rv181.at_, rv181.Err, out0_163)) (by simp only [r4_Parse_L0, h177, h179, hg175, hg182, cs4])
   refine KS ?_
   refine Oq Vm (Oq (Vn 0) (Oq (Vfa fo100_2 0) (Oq (VldF sh42 0) (Oq Veql (Oq Vm ?_)))))
   refine Js 53 ?_ ?_
   ·intro h188
    have g189 := eq_of_beq h188
    refine Oq Vm (Oq (Vn 0) (Oq (Vfa fo100_1 0) (Oq (VldF sh3 0) (Oq Vm (Oq (Vlen sl95) (Oq Vlss (Oq Vpt (KS ?_))))))))
    refine Kc ?_ ?_
    ·intro h190
     have g191 := dt h190
     refine KS ?_
     refine Oq Vm ?_
     refine letv (pz_fail (Gparser.mk rv3.1 rv181.at_ rv181.Err) 4) fun rv192 hg193 => ?_
     have hc194 := fn53 p15 (Gparser.mk rv3.1 rv181.at_ rv181.Err) a9 k10 4 pre pre pre pre rv192 hg193
     refine Oc [0, 2] ca53 hc194 ?_
     rintro - ⟨he195, he196, he197⟩
     unfold i64ok at he195 he196
     have he197 : (0 ≤ rv192.at_ ∧ rv192.at_ ≤ (rv3.1.length : Int)) := he197
     refine KS ?_
     refine Oq Vm (Oq (Vn 0) (Oq (Vfa fo100_2 0) (Oq (VldF sh42 0) (Oq Veql (KS ?_)))))
     refine Kc ?_ ?_
     ·intro h198
      have g199 := eq_of_beq h198
      refine KS ?_
      refine Oq (VldA sh25 2) (Ost (Scl [4] sh25 [vl a164 k165 out0_163]) (Oq Va (Oq Va (Oq Va (KS ?_)))))
      refine Jl [2] (Ent.freeze _ _) ?_
      have hq := q4 hrr ((GProgram.mk out0_163), 0, 0, 0) (by simp only [r4_Parse, h12, h20, h158, h177, h179, h188, h190, h198, hg4, hg18, hg175, hg182, hR187, hg193, cs4]); subst hq
      exact Kr (vl a164 k165 out0_163) rfl (.cellN 1 rfl sh25 rfl (reads_Cl _ _) rfl (.tmp rfl (.tmp rfl (.tmp rfl .nil)))) [0] en
     intro h198
     have g200 := ne_of_beq_false h198
     refine KS ?_
     refine Oq Vm (Oq (Vn 0) (Oq (Vfa fo100_1 0) (Oq (VldF sh3 0) (Oq Vm (Oq (Vlen sl95) (Oq Vlss (KS ?_)))))))
     refine Kc ?_ ?_
     ·intro h201
      have g202 := dt h201
      refine KS ?_
      refine Jp 0 fun hp203 => ?_
      refine JJ_peek_GToken rv192.at_.toNat 4 rfl rng fun hb204 hb205 hb206 hb207 => ?_
      unfold i64ok at hb204 hb206 hb207
      refine JK_drawK [0, 0, 0, 4, 12, 28, 62, 126, 254, 0, 0, 1024, 3072, 7168, 15872, 32256, 65024, 0, 131072, 393216, 917504, 1, 2097663, 6422527, 16777215] fmix ?_
      refine Dv [] (Vbd st25 [.slice none 0 0]) (Dv [] Vm (Dv [] Vm (Dv [1] (Vn 0) (Dv [1] (Vfa fo100_1 0) (Dv [2] (VldF sh3 0) (Dv [5] (Vi sl95 0) (Dv [0] (Vfa fo105_2 0) (Dv [0] (VldF sh3 0) (Dv [] Vm ?_)))))))))
      refine Dv [] Vm (Dv [1] (Vn 0) (Dv [1] (Vfa fo100_1 0) (Dv [2] (VldF sh3 0) (Dv [5] (Vi sl95 0) (Dv [0] (Vfa fo105_3 0) (Dv [0] (VldF sh3 0) (Dv [] Vm (Dv [1] (Vn 0) (Dv [1] (Vfa fo100_2 0) ?_)))))))))
      refine Dv [2] (VldF sh42 0) (Dx0 [6] [6] [0] [fun G => Cl p1 [.slice none 0 0]] (fun G => xS (Scl [0] sh25 [.slice none 0 0])) (Dv [] Va (Dv [] Va (Dv [] Va ?_))))
      refine Dn ⟨by kernel_rfl, fun G => ?_⟩
      refine Jw2 [(2, p1), (3, vi ((rv3.1.getD rv192.at_.toNat default).Line)), (4, vi ((rv3.1.getD rv192.at_.toNat default).Col)), (5, vi rv192.Err)] [0, 1, 2, 3, 4, 5] [Cl p1 [.slice none 0 0]] ?_
      refine Jk [0, 2, 2, 2, 2, 3] ?_
      refine Jl [] (Ent.slNil (α := GFunc)) ?_
      have hq := q4 hrr ((GProgram.mk []), (rv3.1.getD rv192.at_.toNat default).Line, (rv3.1.getD rv192.at_.toNat default).Col, rv192.Err) (by simp only [r4_Parse, h12, h20, h158, h177, h179, h188, h190, h198, h201, hg4, hg18, hg175, hg182, hR187, hg193, cs4]); subst hq
      exact Kr (.slice none 0 0) rfl (.cellN 6 rfl sh25 rfl (reads_Cl _ _) rfl (.tmp rfl (.tmp rfl (.tmp rfl .nil)))) [0] en
     intro h201
     have g208 := df h201
     refine KS ?_
     refine Jp 0 fun hp209 => ?_
     refine JK_drawK [0, 0, 2, 6, 14, 1, 33, 97, 255] fmix ?_
     refine Dv [] (Vbd st25 [.slice none 0 0]) (Dv [] Vm (Dv [0] (Vn 0) (Dv [0] (Vfa fo100_2 0) (Dv [1] (VldF sh42 0) (Dx0 [5] [5] [0] [fun G => Cl p1 [.slice none 0 0]] (fun G => xS (Scl [0] sh25 [.slice none 0 0])) (Dv [] Va (Dv [] Va (Dv [] Va ?_))))))))
     refine Dn ⟨by kernel_rfl, fun G => ?_⟩
     refine Jw2 [(2, p1), (3, vi 0), (4, vi 0), (5, vi rv192.Err)] [0, 1, 2, 3, 4] [Cl p1 [.slice none 0 0]] ?_
     refine Jk [1, 1, 1, 1, 2] ?_
     refine Jl [] (Ent.slNil (α := GFunc)) ?_
     have hq := q4 hrr ((GProgram.mk []), 0, 0, rv192.Err) (by simp only [r4_Parse, h12, h20, h158, h177, h179, h188, h190, h198, h201, hg4, hg18, hg175, hg182, hR187, hg193, cs4]); subst hq
     exact Kr (.slice none 0 0) rfl (.cellN 5 rfl sh25 rfl (reads_Cl _ _) rfl (.tmp rfl (.tmp rfl (.tmp rfl .nil)))) [0] en
    intro h190
    have g210 := df h190
    refine KS ?_
    refine Oq Vm (Oq (Vn 0) (Oq (Vfa fo100_2 0) (Oq (VldF sh42 0) (Oq Veql (KS ?_)))))
    refine Kc ?_ ?_
    ·intro h211
     have g212 := eq_of_beq h211
     refine KS ?_
     refine Oq (VldA sh25 2) (Ost (Scl [4] sh25 [vl a164 k165 out0_163]) (Oq Va (Oq Va (Oq Va (KS ?_)))))
     refine Jl [2] (Ent.freeze _ _) ?_
     have hq := q4 hrr ((GProgram.mk out0_163), 0, 0, 0) (by simp only [r4_Parse, h12, h20, h158, h177, h179, h188, h190, h211, hg4, hg18, hg175, hg182, hR187, cs4]); subst hq
     exact Kr (vl a164 k165 out0_163) rfl (.cellN 1 rfl sh25 rfl (reads_Cl _ _) rfl (.tmp rfl (.tmp rfl (.tmp rfl .nil)))) [0] en
    intro h211
    exact absurd h211 (by first | (simp [h188]; done) | (simp only [bne, h188]; decide) | (simp only [bne, h188, Bool.not_true, Bool.not_false]; decide) | (exfalso; omega) | (intro hq; simp only [bne, hq, Bool.not_false, Bool.not_true, reduceCtorEq] at h188))
   intro h188
   have g213 := ne_of_beq_false h188
   refine Osk (Osk (Osk (Osk (Osk (Osk (Osk (Oq Vpf (KS ?_))))))))
   refine Kf (KS ?_)
   refine Oq Vm (Oq (Vn 0) (Oq (Vfa fo100_2 0) (Oq (VldF sh42 0) (Oq Veql (KS ?_)))))
   refine Kc ?_ ?_
   ·intro h214
    exact absurd h214 (by first | (simp [h188]; done) | (simp only [bne, h188]; decide) | (simp only [bne, h188, Bool.not_true, Bool.not_false]; decide) | (exfalso; omega) | (intro hq; simp only [bne, hq, Bool.not_false, Bool.not_true, reduceCtorEq] at h188))
   intro h214
   have g215 := ne_of_beq_false h214
   refine KS ?_
   refine Oq Vm (Oq (Vn 0) (Oq (Vfa fo100_1 0) (Oq (VldF sh3 0) (Oq Vm (Oq (Vlen sl95) (Oq Vlss (KS ?_)))))))
   refine Kc ?_ ?_
   ·intro h216
    have g217 := dt h216
    refine KS ?_
    refine Jp 0 fun hp218 => ?_
    refine JJ_peek_GToken rv181.at_.toNat 4 rfl rng fun hb219 hb220 hb221 hb222 => ?_
    unfold i64ok at hb219 hb221 hb222
    refine JK_drawK [0, 0, 0, 4, 12, 28, 62, 126, 254, 0, 0, 1024, 3072, 7168, 15872, 32256, 65024, 0, 131072, 393216, 917504, 1, 2097663, 6422527, 16777215] fmix ?_
    refine Dv [] (Vbd st25 [.slice none 0 0]) (Dv [] Vm (Dv [] Vm (Dv [1] (Vn 0) (Dv [1] (Vfa fo100_1 0) (Dv [2] (VldF sh3 0) (Dv [5] (Vi sl95 0) (Dv [0] (Vfa fo105_2 0) (Dv [0] (VldF sh3 0) (Dv [] Vm ?_)))))))))
    refine Dv [] Vm (Dv [1] (Vn 0) (Dv [1] (Vfa fo100_1 0) (Dv [2] (VldF sh3 0) (Dv [5] (Vi sl95 0) (Dv [0] (Vfa fo105_3 0) (Dv [0] (VldF sh3 0) (Dv [] Vm (Dv [1] (Vn 0) (Dv [1] (Vfa fo100_2 0) ?_)))))))))
    refine Dv [2] (VldF sh42 0) (Dx0 [6] [6] [0] [fun G => Cl p1 [.slice none 0 0]] (fun G => xS (Scl [0] sh25 [.slice none 0 0])) (Dv [] Va (Dv [] Va (Dv [] Va ?_))))
    refine Dn ⟨by kernel_rfl, fun G => ?_⟩
    refine Jw2 [(2, p1), (3, vi ((rv3.1.getD rv181.at_.toNat default).Line)), (4, vi ((rv3.1.getD rv181.at_.toNat default).Col)), (5, vi rv181.Err)] [0, 1, 2, 3, 4, 5] [Cl p1 [.slice none 0 0]] ?_
    refine Jk [0, 2, 2, 2, 2, 3] ?_
    refine Jl [] (Ent.slNil (α := GFunc)) ?_
    have hq := q4 hrr ((GProgram.mk []), (rv3.1.getD rv181.at_.toNat default).Line, (rv3.1.getD rv181.at_.toNat default).Col, rv181.Err) (by simp only [r4_Parse, h12, h20, h158, h177, h179, h188, h214, h216, hg4, hg18, hg175, hg182, hR187, cs4]); subst hq
    exact Kr (.slice none 0 0) rfl (.cellN 6 rfl sh25 rfl (reads_Cl _ _) rfl (.tmp rfl (.tmp rfl (.tmp rfl .nil)))) [0] en
   intro h216
   have g223 := df h216
   refine KS ?_
   refine Jp 0 fun hp224 => ?_
   refine JK_drawK [0, 0, 2, 6, 14, 1, 33, 97, 255] fmix ?_
   refine Dv [] (Vbd st25 [.slice none 0 0]) (Dv [] Vm (Dv [0] (Vn 0) (Dv [0] (Vfa fo100_2 0) (Dv [1] (VldF sh42 0) (Dx0 [5] [5] [0] [fun G => Cl p1 [.slice none 0 0]] (fun G => xS (Scl [0] sh25 [.slice none 0 0])) (Dv [] Va (Dv [] Va (Dv [] Va ?_))))))))
   refine Dn ⟨by kernel_rfl, fun G => ?_⟩
   refine Jw2 [(2, p1), (3, vi 0), (4, vi 0), (5, vi rv181.Err)] [0, 1, 2, 3, 4] [Cl p1 [.slice none 0 0]] ?_
   refine Jk [1, 1, 1, 1, 2] ?_
   refine Jl [] (Ent.slNil (α := GFunc)) ?_
   have hq := q4 hrr ((GProgram.mk []), 0, 0, rv181.Err) (by simp only [r4_Parse, h12, h20, h158, h177, h179, h188, h214, h216, hg4, hg18, hg175, hg182, hR187, cs4]); subst hq
   exact Kr (.slice none 0 0) rfl (.cellN 5 rfl sh25 rfl (reads_Cl _ _) rfl (.tmp rfl (.tmp rfl (.tmp rfl .nil)))) [0] en
  intro h179
  have g225 := ne_of_beq_false h179
  refine KS ?_
  refine Jp 2 fun hp226 => ?_
  refine JK_drawK [0, 1, 0, 4, 12, 31, 63, 127] fmix ?_
  refine Dv [0] (Vfa fo25_0 0) (Dv [3] (VldF sh23 0) (Dv [] Vm ?_))
  refine letv (pz_function (Gparser.mk rv3.1 p1_161 p2_162)) fun rv228 hg229 => ?_
  refine Dx [1, 4] [1] [3, 0, 1, 2] (fun G => .agg #[.string (bs rv228.1.Name), (G.g 3 0)]) [fun G => SP.fact (rv228.1.Name.b.length ≤ 140737488355328 ∧ i64ok rv228.2.at_ ∧ i64ok rv228.2.Err ∧ (0 ≤ rv228.2.at_ ∧ rv228.2.at_ ≤ ((Gparser.mk rv3.1 p1_161 p2_162).l.length : Int))), fun G => sl (G.g 3 0) rv228.1.Blocks, fun G => Cl p15 [vl a9 k10 rv3.1, vi rv228.2.at_, vi rv228.2.Err]] (fun G => xC [0, 0] ca54 (fn54 p15 (Gparser.mk rv3.1 p1_161 p2_162) a9 k10 pre pre pre rv228 hg229)) (Dx [] [] [0] (fun G => (G.g 4 0)) [fun G => Cr (G.g 4 0) 1 [.string (bs rv228.1.Name), (G.g 3 0)]] (fun G => xA (AsV sl23 sz23 [.agg #[.string (bs rv228.1.Name), (G.g 3 0)]] [.string (bs rv228.1.Name), (G.g 3 0)])) ?_)
  have hn232 := la out0_163 ([rv228.1] : List GFunc)
  refine Dx [2, 6, 7, 9] [2, 9] [2, 1, 0] (fun G => (G.g 5 0)) [fun G => os (G.g 5 0) ((out0_163 ++ [rv228.1]) : List GFunc)] (fun G => by refine xf 1 rfl ?_; rintro ⟨he233, he234, he235, he236⟩; unfold i64ok at he234 he235; exact xp [3, 2] rfl (Ent.cr1 (α := GFunc) (A := [sl (G.g 3 0) rv228.1.Blocks]) _ rv228.1 _ aB1 (fun h => ⟨_, rfl, aS1, sepAll_get (i := 0) rfl h⟩)) (xA (ApO [2, 0] sl23 sl23 sz23))) (Dv [0] (Vfa fo25_0 0) (Dx0 [3, 10] [3] [1, 0] [fun G => Cl p16 [(G.g 5 0)]] (fun G => x1 1 rfl os_one fun ho237 => (xS (OpS.frame [0] rfl (OpS.storeClF [(G.g 5 0)] [(G.g 5 0)] rfl rfl rfl sh23 (cells_of_one ho237) rfl (by simp only [List.all_cons, List.all_nil, ho237, Bool.and_true, Bool.true_and] <;> rfl) aB1 rfl)))) ?_))
  refine Dn ⟨by kernel_rfl, fun G => ?_⟩
  refine Jw2 [(2, p1), (6, vl a9 k10 rv3.1), (10, p15), (11, p16)] [0, 4, 5] [SP.fact (rv228.1.Name.b.length ≤ 140737488355328 ∧ i64ok rv228.2.at_ ∧ i64ok rv228.2.Err ∧ (0 ≤ rv228.2.at_ ∧ rv228.2.at_ ≤ ((Gparser.mk rv3.1 p1_161 p2_162).l.length : Int))), sl (G.g 3 0) rv228.1.Blocks, Cl p15 [vl a9 k10 rv3.1, vi rv228.2.at_, vi rv228.2.Err], os (G.g 5 0) ((out0_163 ++ [rv228.1]) : List GFunc), Cl p16 [(G.g 5 0)]] ?_
  generalize G.g 3 0 = c227, G.g 5 0 = c231
  refine Jf 3 rfl ?_; rintro ⟨he238, he239, he240, he241⟩
  unfold i64ok at he239 he240
  refine Jk [1, 2, 3, 4, 4, 4] ?_
  refine Jo 2 ?_; rintro a242 k243 rfl
  refine Fb 40 2 fun _ => ?_
  refine Jo 4 ?_; rintro a245 k246 rfl
  refine Fb 40 4 fun _ => KS ?_
  exact Kg (r160, rv228.2.at_, rv228.2.Err, (out0_163 ++ [rv228.1]), a245, k246) [4, 3, 3, 0, 1] ⟨(q3 hM166 (by simp only [r4_Parse_L0, h177, h179, hg175, hg229, cs4])), aM1, aM1, iv1, iv1⟩
 intro h177
 refine Ke ?_
 have hR249 := q2 hM166 (.brk (p1_161, p2_162, out0_163)) (by simp only [r4_Parse_L0, h177, hg175, cs4])
 refine KS ?_
 refine Oq Vm (Oq (Vn 0) (Oq (Vfa fo100_2 0) (Oq (VldF sh42 0) (Oq Veql (Oq Vm ?_)))))
 refine Js 53 ?_ ?_
 ·intro h250
  have g251 := eq_of_beq h250
  refine Oq Vm (Oq (Vn 0) (Oq (Vfa fo100_1 0) (Oq (VldF sh3 0) (Oq Vm (Oq (Vlen sl95) (Oq Vlss (Oq Vpt (KS ?_))))))))
  refine Kc ?_ ?_
  ·intro h252
   have g253 := dt h252
   refine KS ?_
   refine Oq Vm ?_
   refine letv (pz_fail (Gparser.mk rv3.1 p1_161 p2_162) 4) fun rv254 hg255 => ?_
   have hc256 := fn53 p15 (Gparser.mk rv3.1 p1_161 p2_162) a9 k10 4 pre pre pre pre rv254 hg255
   refine Oc [0, 2] ca53 hc256 ?_
   rintro - ⟨he257, he258, he259⟩
   unfold i64ok at he257 he258
   have he259 : (0 ≤ rv254.at_ ∧ rv254.at_ ≤ (rv3.1.length : Int)) := he259
   refine KS ?_
   refine Oq Vm (Oq (Vn 0) (Oq (Vfa fo100_2 0) (Oq (VldF sh42 0) (Oq Veql (KS ?_)))))
   refine Kc ?_ ?_
   ·intro h260
    have g261 := eq_of_beq h260
    refine KS ?_
    refine Oq (VldA sh25 2) (Ost (Scl [4] sh25 [vl a164 k165 out0_163]) (Oq Va (Oq Va (Oq Va (KS ?_)))))
    refine Jl [2] (Ent.freeze _ _) ?_
    have hq := q4 hrr ((GProgram.mk out0_163), 0, 0, 0) (by simp only [r4_Parse, h12, h20, h158, h177, h250, h252, h260, hg4, hg18, hg175, hR249, hg255, cs4]); subst hq
    exact Kr (vl a164 k165 out0_163) rfl (.cellN 1 rfl sh25 rfl (reads_Cl _ _) rfl (.tmp rfl (.tmp rfl (.tmp rfl .nil)))) [0] en
   intro h260
   have g262 := ne_of_beq_false h260
   refine KS ?_
   refine Oq Vm (Oq (Vn 0) (Oq (Vfa fo100_1 0) (Oq (VldF sh3 0) (Oq Vm (Oq (Vlen sl95) (Oq Vlss (KS ?_)))))))
   refine Kc ?_ ?_
   ·intro h263
    have g264 := dt h263
    refine KS ?_
    refine Jp 0 fun hp265 => ?_
    refine JJ_peek_GToken rv254.at_.toNat 4 rfl rng fun hb266 hb267 hb268 hb269 => ?_
    unfold i64ok at hb266 hb268 hb269
    refine JK_drawK [0, 0, 0, 4, 12, 28, 62, 126, 254, 0, 0, 1024, 3072, 7168, 15872, 32256, 65024, 0, 131072, 393216, 917504, 1, 2097663, 6422527, 16777215] fmix ?_
    refine Dv [] (Vbd st25 [.slice none 0 0]) (Dv [] Vm (Dv [] Vm (Dv [1] (Vn 0) (Dv [1] (Vfa fo100_1 0) (Dv [2] (VldF sh3 0) (Dv [5] (Vi sl95 0) (Dv [0] (Vfa fo105_2 0) (Dv [0] (VldF sh3 0) (Dv [] Vm ?_)))))))))
    refine Dv [] Vm (Dv [1] (Vn 0) (Dv [1] (Vfa fo100_1 0) (Dv [2] (VldF sh3 0) (Dv [5] (Vi sl95 0) (Dv [0] (Vfa fo105_3 0) (Dv [0] (VldF sh3 0) (Dv [] Vm (Dv [1] (Vn 0) (Dv [1] (Vfa fo100_2 0) ?_)))))))))
    refine Dv [2] (VldF sh42 0) (Dx0 [6] [6] [0] [fun G => Cl p1 [.slice none 0 0]] (fun G => xS (Scl [0] sh25 [.slice none 0 0])) (Dv [] Va (Dv [] Va (Dv [] Va ?_))))
    refine Dn ⟨by kernel_rfl, fun G => ?_⟩
    refine Jw2 [(2, p1), (3, vi ((rv3.1.getD rv254.at_.toNat default).Line)), (4, vi ((rv3.1.getD rv254.at_.toNat default).Col)), (5, vi rv254.Err)] [0, 1, 2, 3, 4, 5] [Cl p1 [.slice none 0 0]] ?_
    refine Jk [0, 2, 2, 2, 2, 3] ?_
    refine Jl [] (Ent.slNil (α := GFunc)) ?_
    have hq := q4 hrr ((GProgram.mk []), (rv3.1.getD rv254.at_.toNat default).Line, (rv3.1.getD rv254.at_.toNat default).Col, rv254.Err) (by simp only [r4_Parse, h12, h20, h158, h177, h250, h252, h260, h263, hg4, hg18, hg175, hR249, hg255, cs4]); subst hq
    exact Kr (.slice none 0 0) rfl (.cellN 6 rfl sh25 rfl (reads_Cl _ _) rfl (.tmp rfl (.tmp rfl (.tmp rfl .nil)))) [0] en
   intro h263
   have g270 := df h263
   refine KS ?_
   refine Jp 0 fun hp271 => ?_
   refine JK_drawK [0, 0, 2, 6, 14, 1, 33, 97, 255] fmix ?_
   refine Dv [] (Vbd st25 [.slice none 0 0]) (Dv [] Vm (Dv [0] (Vn 0) (Dv [0] (Vfa fo100_2 0) (Dv [1] (VldF sh42 0) (Dx0 [5] [5] [0] [fun G => Cl p1 [.slice none 0 0]] (fun G => xS (Scl [0] sh25 [.slice none 0 0])) (Dv [] Va (Dv [] Va (Dv [] Va ?_))))))))
   refine Dn ⟨by kernel_rfl, fun G => ?_⟩
   refine Jw2 [(2, p1), (3, vi 0), (4, vi 0), (5, vi rv254.Err)] [0, 1, 2, 3, 4] [Cl p1 [.slice none 0 0]] ?_
   refine Jk [1, 1, 1, 1, 2] ?_
   refine Jl [] (Ent.slNil (α := GFunc)) ?_
   have hq := q4 hrr ((GProgram.mk []), 0, 0, rv254.Err) (by simp only [r4_Parse, h12, h20, h158, h177, h250, h252, h260, h263, hg4, hg18, hg175, hR249, hg255, cs4]); subst hq
   exact Kr (.slice none 0 0) rfl (.cellN 5 rfl sh25 rfl (reads_Cl _ _) rfl (.tmp rfl (.tmp rfl (.tmp rfl .nil)))) [0] en
  intro h252
  have g272 := df h252
  refine KS ?_
  refine Oq Vm (Oq (Vn 0) (Oq (Vfa fo100_2 0) (Oq (VldF sh42 0) (Oq Veql (KS ?_)))))
  refine Kc ?_ ?_
  ·intro h273
   have g274 := eq_of_beq h273
   refine KS ?_
   refine Oq (VldA sh25 2) (Ost (Scl [4] sh25 [vl a164 k165 out0_163]) (Oq Va (Oq Va (Oq Va (KS ?_)))))
   refine Jl [2] (Ent.freeze _ _) ?_
   have hq := q4 hrr ((GProgram.mk out0_163), 0, 0, 0) (by simp only [r4_Parse, h12, h20, h158, h177, h250, h252, h273, hg4, hg18, hg175, hR249, cs4]); subst hq
   exact Kr (vl a164 k165 out0_163) rfl (.cellN 1 rfl sh25 rfl (reads_Cl _ _) rfl (.tmp rfl (.tmp rfl (.tmp rfl .nil)))) [0] en
  intro h273
  exact absurd h273 (by first | (simp [h250]; done) | (simp only [bne, h250]; decide) | (simp only [bne, h250, Bool.not_true, Bool.not_false]; decide) | (exfalso; omega) | (intro hq; simp only [bne, hq, Bool.not_false, Bool.not_true, reduceCtorEq] at h250))
 intro h250
 have g275 := ne_of_beq_false h250
 refine Osk (Osk (Osk (Osk (Osk (Osk (Osk (Oq Vpf (KS ?_))))))))
 refine Kf (KS ?_)
 refine Oq Vm (Oq (Vn 0) (Oq (Vfa fo100_2 0) (Oq (VldF sh42 0) (Oq Veql (KS ?_)))))
 refine Kc ?_ ?_
 ·intro h276
  exact absurd h276 (by first | (simp [h250]; done) | (simp only [bne, h250]; decide) | (simp only [bne, h250, Bool.not_true, Bool.not_false]; decide) | (exfalso; omega) | (intro hq; simp only [bne, hq, Bool.not_false, Bool.not_true, reduceCtorEq] at h250))
 intro h276
 have g277 := ne_of_beq_false h276
 refine KS ?_
 refine Oq Vm (Oq (Vn 0) (Oq (Vfa fo100_1 0) (Oq (VldF sh3 0) (Oq Vm (Oq (Vlen sl95) (Oq Vlss (KS ?_)))))))
 refine Kc ?_ ?_
 ·intro h278
  have g279 := dt h278
  refine KS ?_
  refine Jp 0 fun hp280 => ?_
  refine JJ_peek_GToken p1_161.toNat 4 rfl rng fun hb281 hb282 hb283 hb284 => ?_
  unfold i64ok at hb281 hb283 hb284
  refine JK_drawK [0, 0, 0, 4, 12, 28, 62, 126, 254, 0, 0, 1024, 3072, 7168, 15872, 32256, 65024, 0, 131072, 393216, 917504, 1, 2097663, 6422527, 16777215] fmix ?_
  refine Dv [] (Vbd st25 [.slice none 0 0]) (Dv [] Vm (Dv [] Vm (Dv [1] (Vn 0) (Dv [1] (Vfa fo100_1 0) (Dv [2] (VldF sh3 0) (Dv [5] (Vi sl95 0) (Dv [0] (Vfa fo105_2 0) (Dv [0] (VldF sh3 0) (Dv [] Vm ?_)))))))))
  refine Dv [] Vm (Dv [1] (Vn 0) (Dv [1] (Vfa fo100_1 0) (Dv [2] (VldF sh3 0) (Dv [5] (Vi sl95 0) (Dv [0] (Vfa fo105_3 0) (Dv [0] (VldF sh3 0) (Dv [] Vm (Dv [1] (Vn 0) (Dv [1] (Vfa fo100_2 0) ?_)))))))))
  refine Dv [2] (VldF sh42 0) (Dx0 [6] [6] [0] [fun G => Cl p1 [.slice none 0 0]] (fun G => xS (Scl [0] sh25 [.slice none 0 0])) (Dv [] Va (Dv [] Va (Dv [] Va ?_))))
  refine Dn ⟨by kernel_rfl, fun G => ?_⟩
  refine Jw2 [(2, p1), (3, vi ((rv3.1.getD p1_161.toNat default).Line)), (4, vi ((rv3.1.getD p1_161.toNat default).Col)), (5, vi p2_162)] [0, 1, 2, 3, 4, 5] [Cl p1 [.slice none 0 0]] ?_
  refine Jk [0, 2, 2, 2, 2, 3] ?_
  refine Jl [] (Ent.slNil (α := GFunc)) ?_
  have hq := q4 hrr ((GProgram.mk []), (rv3.1.getD p1_161.toNat default).Line, (rv3.1.getD p1_161.toNat default).Col, p2_162) (by simp only [r4_Parse, h12, h20, h158, h177, h250, h276, h278, hg4, hg18, hg175, hR249, cs4]); subst hq
  exact Kr (.slice none 0 0) rfl (.cellN 6 rfl sh25 rfl (reads_Cl _ _) rfl (.tmp rfl (.tmp rfl (.tmp rfl .nil)))) [0] en
 intro h278
 have g285 := df h278
 refine KS ?_
 refine Jp 0 fun hp286 => ?_
 refine JK_drawK [0, 0, 2, 6, 14, 1, 33, 97, 255] fmix ?_
 refine Dv [] (Vbd st25 [.slice none 0 0]) (Dv [] Vm (Dv [0] (Vn 0) (Dv [0] (Vfa fo100_2 0) (Dv [1] (VldF sh42 0) (Dx0 [5] [5] [0] [fun G => Cl p1 [.slice none 0 0]] (fun G => xS (Scl [0] sh25 [.slice none 0 0])) (Dv [] Va (Dv [] Va (Dv [] Va ?_))))))))
 refine Dn ⟨by kernel_rfl, fun G => ?_⟩
 refine Jw2 [(2, p1), (3, vi 0), (4, vi 0), (5, vi p2_162)] [0, 1, 2, 3, 4] [Cl p1 [.slice none 0 0]] ?_
 refine Jk [1, 1, 1, 1, 2] ?_
 refine Jl [] (Ent.slNil (α := GFunc)) ?_
 have hq := q4 hrr ((GProgram.mk []), 0, 0, p2_162) (by simp only [r4_Parse, h12, h20, h158, h177, h250, h276, h278, hg4, hg18, hg175, hR249, cs4]); subst hq
 exact Kr (.slice none 0 0) rfl (.cellN 5 rfl sh25 rfl (reads_Cl _ _) rfl (.tmp rfl (.tmp rfl (.tmp rfl .nil)))) [0] en
theorem fn88 (l : List Int) (la0 : Option Addr) (lk0 : Nat) (n : Int) (hn_0 : i64ok n) (rr : Bool) (hrr : gh_ascending l n = rr) : FT Tryz.prog 88 #[vl la0 lk0 l, vi n] [S la0 lk0 l] (fun g : Unit => True) (fun g => vb rr) (fun g => []) := by
 refine FTi Tryz.func88 fun w0 M0 F0 => ?_
 unfold i64ok at hn_0
 refine Fb 8 0 fun _ => Fo 0 fun ho2 => KS ?_
 refine Oq Va (KS ?_)
 refine Oq Vm (Oq (Vlen sl22) (Oq Vm (KS ?_)))
 refine Kl (γ := Nat × Int) (fun (r3, v9_4) => ⟨[(0, vl la0 lk0 l), (1, vi n), (7, vl la0 lk0 l), (8, vi (l.length : Int)), (9, vi v9_4)], [S la0 lk0 l], gh_ascending_L0 l n r3 v9_4 = gh_ascending_L0 l n (((l.length : Int) - 0).toNat) 0 ∧ r3 = ((l.length : Int) - v9_4).toNat ∧ (0 : Int) ≤ v9_4 ∧ v9_4 ≤ (l.length : Int) ∧ (-9223372036854775808 ≤ v9_4 ∧ v9_4 ≤ 9223372036854775807), r3⟩) (((l.length : Int) - 0).toNat, 0) [0] ⟨rfl, rfl, aM1, aM1, aM1⟩ ?_
 rintro ⟨r3, v9_4⟩ ⟨hM5, hr6, hi7, hi8, hk9⟩
 refine JJ_nx fun _ _ hL hA => ?_; dsimp only at hL hA; subst hL hA
 refine Fb 8 0 fun _ => Fo 0 fun ho11 => KS ?_
 refine Oq Vlss (KS ?_)
 refine Kc ?_ ?_
 ·intro h12
  have g13 := dt h12
  obtain ⟨r14, rfl⟩ := scc (n := r3) aM1
  refine KS ?_
  refine Oq Vm (Oq (Vi sl22 0) ?_)
  have hb15 := ok1 (i := v9_4.toNat) ho11 rng
  refine Oq (VldI sh3 0) (Oq Va (Oq Va (KS ?_)))
  refine Oq Vm (Oq Vlss (Oq Vm ?_))
  refine Js 16 ?_ ?_
  ·intro h16
   have g17 := dt h16
   refine Osk (Osk (Osk (Oq Vpt (Oq Vm (Osk (Osk (Osk (Osk (Osk ?_)))))))))
   refine Osk (Osk (Osk (Osk (Osk (Osk (Oq Vpt (KS ?_)))))))
   refine Kt (KS ?_)
   refine Oq Va (KS ?_)
   have hR18 := q2 hM5 (.ret false) (by simp only [gh_ascending_L0, h12, h16, cs4])
   have hq := q4 hrr false (by simp only [gh_ascending, h12, h16, hR18, cs4]); subst hq
   exact Kr () rfl (.tmp rfl .nil) [] trivial
  intro h16
  have g19 := df h16
  refine Oq Vm (Oq Vm (Oq Vgeq (Oq Vpf (Oq Vm ?_))))
  refine Js 21 ?_ ?_
  ·intro h20
   have g21 := dt h20
   refine Osk (Osk (Osk (Osk (Osk (Osk (Osk (Osk (Osk (Osk ?_)))))))))
   refine Osk (Oq Vpt (KS ?_))
   refine Kt (KS ?_)
   refine Oq Va (KS ?_)
   have hR22 := q2 hM5 (.ret false) (by simp only [gh_ascending_L0, h12, h16, h20, cs4])
   have hq := q4 hrr false (by simp only [gh_ascending, h12, h16, h20, hR22, cs4]); subst hq
   exact Kr () rfl (.tmp rfl .nil) [] trivial
  intro h20
  have g23 := df h20
  refine Oq Vm (Oq Vgtr (Oq Vm ?_))
  refine Js 24 ?_ ?_
  ·intro h24
   have g25 := dt h24
   refine Oq Vm (Oq Vm (Oq Vm (Oq Vsub (Oq (Vi sl22 0) ?_))))
   have hb26 := ok1 (i := ((v9_4 - 1) : Int).toNat) ho11 rng
   refine Oq (VldI sh3 0) (Oq Vleq (Oq Vpt (Oq Vpf (KS ?_))))
   refine Kc ?_ ?_
   ·intro h27
    have g28 := dt h27
    refine KS ?_
    refine Oq Va (KS ?_)
    have hR29 := q2 hM5 (.ret false) (by simp only [gh_ascending_L0, h12, h16, h20, h24, h27, cs4])
    have hq := q4 hrr false (by simp only [gh_ascending, h12, h16, h20, h24, h27, hR29, cs4]); subst hq
    exact Kr () rfl (.tmp rfl .nil) [] trivial
   intro h27
   have g30 := df h27
   refine KS ?_
   refine Oq Vadd (Oq Vm (KS ?_))
   exact Kg (r14, (v9_4 + 1)) [0] ⟨(q3 hM5 (by simp only [gh_ascending_L0, h12, h16, h20, h24, h27, cs4])), aM1, aM1, aM1, aM1⟩
  intro h24
  have g31 := df h24
  refine Osk (Osk (Osk (Osk (Osk (Osk (Osk (Oq Vpf (Oq Vpf (KS ?_)))))))))
  refine Kf (KS ?_)
  refine Oq Vadd (Oq Vm (KS ?_))
  exact Kg (r14, (v9_4 + 1)) [0] ⟨(q3 hM5 (by simp only [gh_ascending_L0, h12, h16, h20, h24, cs4])), aM1, aM1, aM1, aM1⟩
 intro h12
 have g32 := df h12
 obtain rfl : r3 = 0 := by omega
 refine Ke ?_
 have hR33 := q2 hM5 (.brk ()) (by simp only [gh_ascending_L0, h12, cs4])
 refine KS ?_
 refine Oq Va (KS ?_)
 have hq := q4 hrr true (by simp only [gh_ascending, h12, hR33, cs4]); subst hq
 exact Kr () rfl (.tmp rfl .nil) [] trivial
theorem fn55 (l : List (List Int)) (la0 : Option Addr) (lk0 : Nat) (rr : Int) (hrr : gh_count l = rr) : FT Tryz.prog 55 #[vl la0 lk0 l] [S la0 lk0 l] (fun g : Unit => i64ok rr ∧ (-1 ≤ rr ∧ rr ≤ 1024)) (fun g => vi rr) (fun g => []) := by
 refine FTi Tryz.func55 fun w0 M0 F0 => Fb 24 0 fun _ => ?_
 refine KS ?_
 refine Oq Va (KS ?_)
 refine Oq Va (KS ?_)
 refine Oq Vm (Oq (Vlen sl34) (Oq Vm (KS ?_)))
 refine Kl (γ := Nat × Int × Int) (fun (r2, edges_3, v8_4) => ⟨[(0, vl la0 lk0 l), (3, vi edges_3), (6, vl la0 lk0 l), (7, vi (l.length : Int)), (8, vi v8_4)], [S la0 lk0 l], gh_count_L0 l r2 edges_3 v8_4 = gh_count_L0 l (((l.length : Int) - 0).toNat) 0 0 ∧ r2 = ((l.length : Int) - v8_4).toNat ∧ (0 : Int) ≤ v8_4 ∧ v8_4 ≤ (l.length : Int) ∧ (-9223372036854775808 ≤ edges_3 ∧ edges_3 ≤ 9223372036854775807) ∧ (-9223372036854775808 ≤ v8_4 ∧ v8_4 ≤ 9223372036854775807) ∧ (0 ≤ edges_3 ∧ edges_3 ≤ 1024), r2⟩) (((l.length : Int) - 0).toNat, 0, 0) [0] ⟨rfl, rfl, aM1, aM1, aM1, aM1, iv0⟩ ?_
 rintro ⟨r2, edges_3, v8_4⟩ ⟨hM5, hr6, hi7, hi8, hk9, hk10, hv11⟩
 refine JJ_nx fun _ _ hL hA => ?_; dsimp only at hL hA; subst hL hA
 refine Fb 24 0 fun _ => KS ?_
 refine Oq Vlss (KS ?_)
 refine Kc ?_ ?_
 ·intro h13
  have g14 := dt h13
  obtain ⟨r15, rfl⟩ := scc (n := r2) aM1
  refine KS ?_
  refine Oq (Vi sl34 0) ?_
  refine JJ_peekL v8_4.toNat 0 rfl rng fun a16 k17 => ?_
  refine Fb 8 1 fun _ => Fo 1 fun ho19 => ?_
  refine Oq (Vld sh22 0) (Oq Va (KS ?_))
  refine Oq Vm (Oq Vm (Oq (Vlen sl22) (Oq Vadd (Oq Va (KS ?_)))))
  refine Oq Vm (Oq Vgtr (Oq Vm ?_))
  refine Js 18 ?_ ?_
  ·intro h20
   have g21 := dt h20
   refine Osk (Osk (Osk (Osk (Osk (Oq Vpt (KS ?_))))))
   refine Kt (KS ?_)
   refine Oq Va (KS ?_)
   have hR22 := q2 hM5 (.ret (-1)) (by simp only [gh_count_L0, h13, h20, cs4])
   have hq := q4 hrr (-1) (by simp only [gh_count, h13, h20, hR22, cs4]); subst hq
   exact Kr () rfl (.tmp rfl .nil) [] en
  intro h20
  have g23 := df h20
  refine Oq Vm (Oq Vm (Oq (Vlen sl34) ?_))
  refine letv (gh_ascending (l.getD v8_4.toNat []) (l.length : Int)) fun rv24 hg25 => ?_
  have hc26 := fn88 ((l.getD v8_4.toNat [])) a16 k17 ((l.length : Int)) pre rv24 hg25
  refine Oc [1] ca88 hc26 ?_
  rintro - -
  refine Oq Vnot (Oq Vpf (KS ?_))
  refine Kc ?_ ?_
  ·intro h27
   have h29 := not_true h27
   refine KS ?_
   refine Oq Va (KS ?_)
   have hR31 := q2 hM5 (.ret (-1)) (by simp only [gh_count_L0, h13, h20, h27, h29, hg25, cs4])
   have hq := q4 hrr (-1) (by simp only [gh_count, h13, h20, h27, h29, hg25, hR31, cs4]); subst hq
   exact Kr () rfl (.tmp rfl .nil) [] en
  intro h27
  have h33 := not_false h27
  refine KS ?_
  refine Oq Vadd (Oq Vm (KS ?_))
  exact Kg (r15, (edges_3 + ((l.getD v8_4.toNat []).length : Int)), (v8_4 + 1)) [2] ⟨(q3 hM5 (by simp only [gh_count_L0, h13, h20, h27, h33, hg25, cs4])), aM1, aM1, aM1, aM1, aM1, iv1⟩
 intro h13
 have g35 := df h13
 obtain rfl : r2 = 0 := by omega
 refine Ke ?_
 have hR36 := q2 hM5 (.brk edges_3) (by simp only [gh_count_L0, h13, cs4])
 refine KS ?_
 refine Oq Vm (Oq Va (KS ?_))
 have hq := q4 hrr edges_3 (by simp only [gh_count, h13, hR36, cs4]); subst hq
 exact Kr () rfl (.tmp rfl .nil) [] en
theorem fn31 (g : GGraph) (ga0 : Option Addr) (gk0 : Nat) (ga1 : Option Addr) (gk1 : Nat) (ga2 : Option Addr) (gk2 : Nat) (rr : Bool) (hrr : gh_Valid g = rr) : FT Tryz.prog 31 #[.agg #[vl ga0 gk0 g.Nodes, vl ga1 gk1 g.Succ, vl ga2 gk2 g.Pred]] [S ga0 gk0 g.Nodes, S ga1 gk1 g.Succ, S ga2 gk2 g.Pred] (fun g : Unit => True) (fun g => vb rr) (fun g => []) := by
 refine FTi Tryz.func31 fun w0 M0 F0 => Fb 32 0 fun _ => Fb 24 1 fun _ => Fb 24 2 fun _ => ?_
 refine KS ?_
 refine Oa (Ab [vl ga0 gk0 g.Nodes, vl ga1 gk1 g.Succ, vl ga2 gk2 g.Pred]) fun p4 => Oq Va (KS ?_)
 refine Oq (Vfa fo36_0 0) (Oq (VldF sh33 0) (Oq (Vlen sl33) (Oq Va (KS ?_))))
 refine Oq Vm (Oq Vlss (Oq Vm ?_))
 refine Js 14 ?_ ?_
 ·intro h5
  have g6 := dt h5
  refine Osk (Osk (Oq Vpt (Oq Vm (Osk (Osk (Osk (Osk (Osk (Oq Vpt ?_)))))))))
  refine Oq Vm (Osk (Osk (Osk (Osk (Osk (Oq Vpt (KS ?_)))))))
  refine Kt (KS ?_)
  refine Oq Va (KS ?_)
  have hq := q4 hrr false (by simp only [gh_Valid, h5, cs4]); subst hq
  exact Kr () rfl (.tmp rfl .nil) [] trivial
 intro h5
 have g7 := df h5
 refine Oq Vm (Oq Vgtr (Oq Vpf (Oq Vm ?_)))
 refine Js 18 ?_ ?_
 ·intro h8
  have g9 := dt h8
  refine Osk (Osk (Osk (Osk (Osk (Oq Vpt (Oq Vm (Osk (Osk (Osk ?_)))))))))
  refine Osk (Osk (Oq Vpt (KS ?_)))
  refine Kt (KS ?_)
  refine Oq Va (KS ?_)
  have hq := q4 hrr false (by simp only [gh_Valid, h5, h8, cs4]); subst hq
  exact Kr () rfl (.tmp rfl .nil) [] trivial
 intro h8
 have g10 := df h8
 refine Oq (Vfa fo36_1 0) (Oq (VldF sh34 0) (Oq (Vlen sl34) (Oq Vm (Oq Vneq (Oq Vpf (Oq Vm ?_))))))
 refine Js 25 ?_ ?_
 ·intro h11
  have g12 := ne_of_bne h11
  refine Osk (Osk (Osk (Osk (Osk (Oq Vpt (KS ?_))))))
  refine Kt (KS ?_)
  refine Oq Va (KS ?_)
  have hq := q4 hrr false (by simp only [gh_Valid, h5, h8, h11, cs4]); subst hq
  exact Kr () rfl (.tmp rfl .nil) [] trivial
 intro h11
 have g13 := eq_of_bne_false h11
 refine Oq (Vfa fo36_2 0) (Oq (VldF sh34 0) (Oq (Vlen sl34) (Oq Vm (Oq Vneq (Oq Vpf (KS ?_))))))
 refine Kc ?_ ?_
 ·intro h14
  have g15 := ne_of_bne h14
  refine KS ?_
  refine Oq Va (KS ?_)
  have hq := q4 hrr false (by simp only [gh_Valid, h5, h8, h11, h14, cs4]); subst hq
  exact Kr () rfl (.tmp rfl .nil) [] trivial
 intro h14
 have g16 := eq_of_bne_false h14
 refine KS ?_
 refine Oq (Vfa fo36_1 0) (Oq (VldF sh34 0) ?_)
 refine letv (gh_count g.Succ) fun rv17 hg18 => ?_
 have hc19 := fn55 g.Succ ga1 gk1 rv17 hg18
 refine Oc [2] ca55 hc19 ?_
 rintro - ⟨he20, he21⟩
 unfold i64ok at he20
 refine Oq Va (KS ?_)
 refine Oq Vm (Oq Vlss (Oq Vm ?_))
 refine Js 37 ?_ ?_
 ·intro h22
  have g23 := dt h22
  refine Osk (Osk (Osk (Osk (Osk (Oq Vpt (KS ?_))))))
  refine Kt (KS ?_)
  refine Oq Va (KS ?_)
  have hq := q4 hrr false (by simp only [gh_Valid, h5, h8, h11, h14, h22, hg18, cs4]); subst hq
  exact Kr () rfl (.tmp rfl .nil) [] trivial
 intro h22
 have g24 := df h22
 try have hct := count_rg (by assumption : gh_count g.Succ = _) h22
 refine Oq (Vfa fo36_2 0) (Oq (VldF sh34 0) ?_)
 refine letv (gh_count g.Pred) fun rv25 hg26 => ?_
 have hc27 := fn55 g.Pred ga2 gk2 rv25 hg26
 refine Oc [3] ca55 hc27 ?_
 rintro - ⟨he28, he29⟩
 unfold i64ok at he28
 refine Oq Vm (Oq Vneq (Oq Vpf (KS ?_)))
 refine Kc ?_ ?_
 ·intro h30
  have g31 := ne_of_bne h30
  refine KS ?_
  refine Oq Va (KS ?_)
  have hq := q4 hrr false (by simp only [gh_Valid, h5, h8, h11, h14, h22, h30, hg18, hg26, cs4]); subst hq
  exact Kr () rfl (.tmp rfl .nil) [] trivial
 intro h30
 have g32 := eq_of_bne_false h30
 refine KS ?_
 refine Oq (Vfa fo36_1 0) (Oq (VldF sh34 0) (Oq (Vlen sl34) (Oq Vm (KS ?_))))
 refine Kl (γ := Nat × Int) (fun (r33, v47_34) => ⟨[(1, p4), (45, vl ga1 gk1 g.Succ), (46, vi (g.Succ.length : Int)), (47, vi v47_34)], [pv p4 [vl ga0 gk0 g.Nodes, vl ga1 gk1 g.Succ, vl ga2 gk2 g.Pred], S ga0 gk0 g.Nodes, S ga1 gk1 g.Succ, S ga2 gk2 g.Pred], gh_Valid_L0 g r33 v47_34 = gh_Valid_L0 g (((g.Succ.length : Int) - 0).toNat) 0 ∧ r33 = ((g.Succ.length : Int) - v47_34).toNat ∧ (0 : Int) ≤ v47_34 ∧ v47_34 ≤ (g.Succ.length : Int) ∧ (-9223372036854775808 ≤ v47_34 ∧ v47_34 ≤ 9223372036854775807), r33⟩) (((g.Succ.length : Int) - 0).toNat, 0) [0, 1, 2, 3] ⟨rfl, rfl, aM1, aM1, aM1⟩ ?_
 rintro ⟨r33, v47_34⟩ ⟨hM35, hr36, hi37, hi38, hk39⟩
 refine JJ_nx fun _ _ hL hA => ?_; dsimp only at hL hA; subst hL hA
 refine Fb 32 1 fun _ => Fb 24 2 fun _ => Fb 24 3 fun _ => KS ?_
 refine Oq Vlss (KS ?_)
 refine Kc ?_ ?_
 ·intro h43
  have g44 := dt h43
  obtain ⟨r45, rfl⟩ := scc (n := r33) aM1
  refine KS ?_
  refine Oq Vm (Oq (Vi sl34 2) ?_)
  refine JJ_peekL v47_34.toNat 2 rfl rng fun a46 k47 => ?_
  refine Fb 8 1 fun _ => Fo 1 fun ho49 => ?_
  refine Oq (Vld sh22 0) (Oq Va (Oq Va (KS ?_)))
  refine Oq Vm (Oq (Vlen sl22) (Oq Vm (KS ?_)))
  refine Kl (γ := Nat × Int) (fun (r50, v54_51) => ⟨[(1, p4), (45, vl ga1 gk1 g.Succ), (46, vi (g.Succ.length : Int)), (47, vi v47_34), (5, vi v47_34), (52, vl a46 k47 (g.Succ.getD v47_34.toNat [])), (53, vi ((g.Succ.getD v47_34.toNat []).length : Int)), (54, vi v54_51)], [S a46 k47 ((g.Succ.getD v47_34.toNat []) : List Int), pv p4 [vl ga0 gk0 g.Nodes, vl ga1 gk1 g.Succ, vl ga2 gk2 g.Pred], S ga0 gk0 g.Nodes, S ga1 gk1 g.Succ, S ga2 gk2 g.Pred], gh_Valid_L1 g v47_34 (g.Succ.getD v47_34.toNat []) r50 v54_51 = gh_Valid_L1 g v47_34 (g.Succ.getD v47_34.toNat []) (((((g.Succ.getD v47_34.toNat []).length : Int) : Int) - 0).toNat) 0 ∧ r50 = ((((g.Succ.getD v47_34.toNat []).length : Int) : Int) - v54_51).toNat ∧ (0 : Int) ≤ v54_51 ∧ (v54_51 ≤ ((g.Succ.getD v47_34.toNat []).length : Int) ∨ v54_51 = 0) ∧ (-9223372036854775808 ≤ v54_51 ∧ v54_51 ≤ 9223372036854775807), r50⟩) (((((g.Succ.getD v47_34.toNat []).length : Int) : Int) - 0).toNat, 0) [1, 2, 3, 4, 5] ⟨rfl, rfl, aM1, (.inr rfl), aM1⟩ ?_
  rintro ⟨r50, v54_51⟩ ⟨hM52, hr53, hi54, hi55, hk56⟩
  refine JJ_nx fun _ _ hL hA => ?_; dsimp only at hL hA; subst hL hA
  refine Fb 8 0 fun _ => Fo 0 fun ho58 => Fb 32 2 fun _ => Fb 24 3 fun _ => Fb 24 4 fun _ => KS ?_
  refine Oq Vlss (KS ?_)
  refine Kc ?_ ?_
  ·intro h62
   have g63 := dt h62
   have hbr := hct v47_34.toNat v54_51.toNat aM1
   obtain ⟨r64, rfl⟩ := scc (n := r50) aM1
   refine KS ?_
   refine Oq (Vi sl22 0) ?_
   have hb65 := ok1 (i := v54_51.toNat) ho58 rng
   refine Oq (VldI sh3 0) (Oq Va (KS ?_))
   refine Oq (Vfa fo36_2 1) (Oq (VldF sh34 1) (Oq Vm (Oq (Vi sl34 4) ?_)))
   refine JJ_peekL (((g.Succ.getD v47_34.toNat []).getD v54_51.toNat 0) : Int).toNat 4 rfl rng fun a66 k67 => ?_
   refine Fb 8 1 fun _ => Fo 1 fun ho69 => ?_
   refine Oq (Vld sh22 0) (Oq Vm ?_)
   refine letv (sc_Contains_int (g.Pred.getD (((g.Succ.getD v47_34.toNat []).getD v54_51.toNat 0) : Int).toNat []) v47_34) fun rv70 hg71 => ?_
   have hc72 := fn58 ((g.Pred.getD (((g.Succ.getD v47_34.toNat []).getD v54_51.toNat 0) : Int).toNat [])) a66 k67 v47_34 pre rv70 hg71
   refine Oc [1] ca58 hc72 ?_
   rintro - -
   refine Oq Vnot (KS ?_)
   refine Kc ?_ ?_
   ·intro h73
    have h75 := not_true h73
    refine KS ?_
    refine Oq Va (KS ?_)
    have hR77 := q2 hM52 (.ret false) (by simp only [gh_Valid_L1, h62, h73, h75, hg71, cs4])
    have hR78 := q2 hM35 (.ret false) (by simp only [gh_Valid_L0, h43, h62, h73, h75, hg71, hR77, cs4])
    have hq := q4 hrr false (by simp only [gh_Valid, h5, h8, h11, h14, h22, h30, h43, h62, h73, h75, hg18, hg26, hg71, hR77, hR78, cs4]); subst hq
    exact Kr () rfl (.tmp rfl .nil) [] trivial
   intro h73
   have h80 := not_false h73
   refine KS ?_
   refine Oq Vadd (Oq Vm (KS ?_))
   exact Kg (r64, (v54_51 + 1)) [2, 3, 4, 5, 6] ⟨(q3 hM52 (by simp only [gh_Valid_L1, h62, h73, h80, hg71, cs4])), aM1, aM1, aM1, aM1⟩
  intro h62
  have g82 := df h62
  obtain rfl : r50 = 0 := by omega
  refine Ke ?_
  have hR83 := q2 hM52 (.brk ()) (by simp only [gh_Valid_L1, h62, cs4])
  refine KS ?_
  refine Oq Vadd (Oq Vm (KS ?_))
  exact Kg (r45, (v47_34 + 1)) [1, 2, 3, 4] ⟨(q3 hM35 (by simp only [gh_Valid_L0, h43, h62, hR83, cs4])), aM1, aM1, aM1, aM1⟩
 intro h43
 have g84 := df h43
 obtain rfl : r33 = 0 := by omega
 refine Ke ?_
 have hR85 := q2 hM35 (.brk ()) (by simp only [gh_Valid_L0, h43, cs4])
 refine KS ?_
 refine Oq Va (KS ?_)
 have hq := q4 hrr true (by simp only [gh_Valid, h5, h8, h11, h14, h22, h30, h43, hg18, hg26, hR85, cs4]); subst hq
 exact Kr () rfl (.tmp rfl .nil) [] trivial
theorem fn28 (g : GGraph) (ga0 : Option Addr) (gk0 : Nat) (ga1 : Option Addr) (gk1 : Nat) (ga2 : Option Addr) (gk2 : Nat) (rr : Int) (hrr : gh_Edges g = rr) : FT Tryz.prog 28 #[.agg #[vl ga0 gk0 g.Nodes, vl ga1 gk1 g.Succ, vl ga2 gk2 g.Pred]] [S ga0 gk0 g.Nodes, S ga1 gk1 g.Succ, S ga2 gk2 g.Pred] (fun g : Unit => i64ok rr) (fun g => vi rr) (fun g => []) := by
 refine FTi Tryz.func28 fun w0 M0 F0 => Fb 32 0 fun _ => Fb 24 1 fun _ => Fb 24 2 fun _ => ?_
 refine KS ?_
 refine Oa (Ab [vl ga0 gk0 g.Nodes, vl ga1 gk1 g.Succ, vl ga2 gk2 g.Pred]) fun p4 => Oq Va (KS ?_)
 refine Oq (VldA sh36 0) ?_
 refine letv (gh_Valid g) fun rv5 hg6 => ?_
 have hc7 := fn31 g ga0 gk0 ga1 gk1 ga2 gk2 rv5 hg6
 refine Oc [1, 2, 3] ca31 hc7 ?_
 rintro - -
 refine Oq Vnot (KS ?_)
 refine Kc ?_ ?_
 ·intro h8
  have h10 := not_true h8
  refine KS ?_
  refine Oq Va (KS ?_)
  have hq := q4 hrr 0 (by simp only [gh_Edges, h8, h10, hg6, cs4]); subst hq
  exact Kr () rfl (.tmp rfl .nil) [] en
 intro h8
 have h13 := not_false h8
 refine KS ?_
 refine Oq (Vfa fo36_1 0) (Oq (VldF sh34 0) ?_)
 refine letv (gh_count g.Succ) fun rv15 hg16 => ?_
 have hc17 := fn55 g.Succ ga1 gk1 rv15 hg16
 refine Oc [2] ca55 hc17 ?_
 rintro - ⟨he18, he19⟩
 unfold i64ok at he18
 refine Oq Va (KS ?_)
 have hq := q4 hrr rv15 (by simp only [gh_Edges, h8, h13, hg6, hg16, cs4]); subst hq
 exact Kr () rfl (.tmp rfl .nil) [] en
end Go.SL.G
