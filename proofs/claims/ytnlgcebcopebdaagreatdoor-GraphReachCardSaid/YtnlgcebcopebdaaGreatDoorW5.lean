/- Part 5 of the walks: mirrors, plain laws and walks used by the last text of this claim. -/
import Derived.Test.YtnlgcebcopebdaaGreatDoorW4
import Derived.Test.YtnlgcebcopebdaaGreatDoorProg
set_option linter.unusedVariables false
set_option linter.unusedSimpArgs false
namespace Go.SL.G
open Go Go.SL Go.Proofs
set_option maxHeartbeats 20000000
set_option maxRecDepth 100000
theorem Qu3 (text : Str) (Qqf : text.b.length <= 140737488355328) (rr : List Qax × Int × Int × Int) (hrr : QeX text = rr) : FT Tryz.prog 51 #[.string (bs text)] [] (fun g : Value => Qac rr.2.1 /\ Qac rr.2.2.1 /\ Qac rr.2.2.2) (fun g => .tuple #[g, vi rr.2.1, vi rr.2.2.1, vi rr.2.2.2]) (fun g => [sl g rr.1]) := by
 refine FTi Tryz.func51 fun w0 M0 F0 => ?_
 refine KS ?_
 refine Oq Va (Oq Va (Oq Va (Oq Va (KS ?_))))
 refine Oq Vm (Oq (VlS un9 (l := text)) (Oq Qih (KS ?_)))
 refine Kc ?_ ?_
 ·intro h1
  have g2 := dt h1
  refine KS ?_
  refine Oq Va (Oq Va (Oq Va (Oq Va (KS ?_))))
  refine Jl [] (Ent.slNil (α := Qax)) ?_
  have hq := q4 hrr (([] : List Qax), 0, 0, 7) (by simp only [QeX, h1, cs4]); subst hq
  exact Kr (.slice none 0 0) rfl (.tmp rfl (.tmp rfl (.tmp rfl (.tmp rfl .nil)))) [0] en
 intro h1
 have g3 := df h1
 refine KS ?_
 refine Oq Va (KS ?_)
 refine Oq Va (Oq Va (Oq Va (KS ?_)))
 refine Oq Va (KS ?_)
 refine Jl [] (Ent.osNil (α := Qax)) ?_
 have hterm20 : Qaj text (text.b.length + 1) [] 1 1 false 0 ≠ LR.oof := (QkU _ _ _ _ _ _ _ aM1)
 refine Kl (γ := Nat × List Qax × Int × Int × Bool × Int × Option Addr × Nat) (fun (r4, Qbf, Qau, Qa3, open__8, i_9, a10, k11) => ⟨[(0, .string (bs text)), (6, vl a10 k11 Qbf), (7, vi Qau), (8, vi Qa3), (9, vb open__8), (10, vi i_9)], [O a10 k11 Qbf], Qaj text r4 Qbf Qau Qa3 open__8 i_9 = Qaj text (text.b.length + 1) [] 1 1 false 0 /\ (-9223372036854775808 <= Qau /\ Qau <= 9223372036854775807) /\ (-9223372036854775808 <= Qa3 /\ Qa3 <= 9223372036854775807) /\ (-9223372036854775808 <= i_9 /\ i_9 <= 9223372036854775807) /\ (0 <= i_9 /\ i_9 <= (text.b.length : Int)) /\ (0 <= Qau /\ Qau <= i_9 + 1) /\ (0 <= Qa3 /\ Qa3 <= i_9 + 1) /\ (Qbf.length + r4 <= text.b.length + 1), r4⟩) ((text.b.length + 1), [], 1, 1, false, 0, none, 0) [0] ⟨rfl, aM1, aM1, aM1, iv0, iv0, iv0, iv0⟩ ?_
 rintro ⟨r4, Qbf, Qau, Qa3, open__8, i_9, a10, k11⟩ ⟨hM12, hk13, hk14, hk15, hv16, hv17, hv18, hv19⟩
 refine Qbt fun _ _ hL hA => ?_; dsimp only at hL hA; subst hL hA
 refine Fb 40 0 fun _ => ?_
 rcases r4 with _ | r4
 ·exact absurd (hM12.symm.trans rfl) hterm20
 refine KS ?_
 refine Oq Vm (Oq Vm (Oq (VlS un9 (l := text)) (Oq Qcg (KS ?_))))
 refine Kc ?_ ?_
 ·intro h22
  have g23 := dt h22
  refine KS ?_
  refine Oq Vm (Oq Vm (Oq (Vix un9 (l := text)) ?_))
  have hb24 := u8b (text.b.getD i_9.toNat 0)
  refine Oq Va (KS ?_)
  refine Oq Vm (Oq QbB (Oq Vm ?_))
  refine Js 28 ?_ ?_
  ·intro h25
   have g26 := eq_of_beq h25
   refine Osk (Osk (Oq Vpt (Oq Va (KS ?_))))
   refine Kt (KS ?_)
   refine Oq Vm (Oq Qbb (Oq Vm (Oq Qbb (Oq Va (Oq Va (KS ?_))))))
   exact Kg (r4, Qbf, Qau, (Qa3 + 1), open__8, (i_9 + 1), a10, k11) [0] ⟨(q3 hM12 (by simp only [Qaj, h1, h22, h25, cs4])), aM1, aM1, aM1, iv1, iv1, iv1, iv1⟩
  intro h25
  have g27 := ne_of_beq_false h25
  refine Oq Vm (Oq QbB (Oq Vpf (Oq Va (KS ?_))))
  refine Kc ?_ ?_
  ·intro h28
   have g29 := eq_of_beq h28
   refine KS ?_
   refine Oq Vm (Oq Qbb (Oq Vm (Oq Qbb (Oq Va (Oq Va (KS ?_))))))
   exact Kg (r4, Qbf, Qau, (Qa3 + 1), open__8, (i_9 + 1), a10, k11) [0] ⟨(q3 hM12 (by simp only [Qaj, h1, h22, h25, h28, cs4])), aM1, aM1, aM1, iv1, iv1, iv1, iv1⟩
  intro h28
  have g30 := ne_of_beq_false h28
  refine KS ?_
  refine Oq Vm (Oq QbB (Oq Vm ?_))
  refine Js 39 ?_ ?_
  ·intro h31
   have g32 := eq_of_beq h31
   refine Osk (Osk (Oq Vpt (Oq Vm (Osk (Osk (Oq Vpt (Oq Va (KS ?_))))))))
   refine Kt (KS ?_)
   refine Oq Vm (KS ?_)
   refine Kc ?_ ?_
   ·intro h33
    refine KS ?_
    refine Oq Vm (Oq Vm (Oq Vm (Oq (Vbd Qlg [vi 3, .string (bs (Str.mk [])), vi Qau, vi Qa3]) (Oa (AsV QeD QlA [.agg #[vi 3, .string (bs (Str.mk [])), vi Qau, vi Qa3]] [vi 3, .string (bs (Str.mk [])), vi Qau, vi Qa3]) fun c35 => ?_))))
    refine Jo 0 ?_; rintro a36 k37 rfl
    refine Jl [0] (Ent.cr1 (α := Qax) (A := []) _ (Qax.mk 3 (Str.mk []) Qau Qa3) _ aB1 (fun h => ⟨rfl, aL1, aS1, aL1, aL1⟩)) ?_
    refine Oa (ApO [1, 0] QeD QeD QlA) fun c38 => ?_
    refine Jo 0 ?_; rintro a39 k40 rfl
    refine Fb 40 0 fun _ => ?_
    have hn42 := la Qbf ([(Qax.mk 3 (Str.mk []) Qau Qa3)] : List Qax)
    refine Oq Va (KS ?_)
    refine Oq Va (KS ?_)
    have hterm51 : Qay text ((text.b.getD i_9.toNat 0).toNat : Int) (text.b.length + 1) Qa3 i_9 ≠ LR.oof := (Qei _ _ _ _ _ aM1).1
    refine Kl (γ := Nat × Int × Int) (fun (r43, Qee, Qhg) => ⟨[(0, .string (bs text)), (7, vi Qau), (8, vi Qee), (10, vi Qhg), (11, .int .u8 ((text.b.getD i_9.toNat 0).toNat : Int)), (6, vl a39 k40 (Qbf ++ [(Qax.mk 3 (Str.mk []) Qau Qa3)])), (9, vb false)], [O a39 k40 ((Qbf ++ [(Qax.mk 3 (Str.mk []) Qau Qa3)]) : List Qax)], Qay text ((text.b.getD i_9.toNat 0).toNat : Int) r43 Qee Qhg = Qay text ((text.b.getD i_9.toNat 0).toNat : Int) (text.b.length + 1) Qa3 i_9 /\ (-9223372036854775808 <= Qee /\ Qee <= 9223372036854775807) /\ (-9223372036854775808 <= Qhg /\ Qhg <= 9223372036854775807) /\ (i_9 <= Qhg /\ Qhg <= (text.b.length : Int) /\ Qa3 <= Qee /\ Qee <= Qa3 + (Qhg - i_9)) /\ (((text.b.getD i_9.toNat 0).toNat : Int) = 35 \/ Qhg = i_9), r43⟩) ((text.b.length + 1), Qa3, i_9) [0] ⟨rfl, aM1, aM1, iv0, iv0⟩ ?_
    rintro ⟨r43, Qee, Qhg⟩ ⟨hM46, hk47, hk48, hv49, hv50⟩
    refine Qbt fun _ _ hL hA => ?_; dsimp only at hL hA; subst hL hA
    refine Fb 40 0 fun _ => ?_
    rcases r43 with _ | r43
    ·exact absurd (hM46.symm.trans rfl) hterm51
    refine KS ?_
    refine Oq Vm (Oq QbB (Oq Vm ?_))
    refine Js 56 ?_ ?_
    ·intro h53
     have g54 := eq_of_beq h53
     refine Oq Vm (Oq Vm (Oq (VlS un9 (l := text)) (Oq Qcg (Oq Vpt (Oq Vm ?_)))))
     refine Js 62 ?_ ?_
     ·intro h55
      have g56 := dt h55
      refine Oq Vm (Oq Vm (Oq (Vix un9 (l := text)) ?_))
      have hb57 := u8b (text.b.getD Qhg.toNat 0)
      refine Oq QgE (Oq Vpt (KS ?_))
      refine Kc ?_ ?_
      ·intro h58
       have g59 := QbH h58
       refine KS ?_
       refine Oq Vm (Oq Qbb (Oq Vm (Oq Qbb (Oq Va (Oq Va (KS ?_))))))
       exact Kg (r43, (Qee + 1), (Qhg + 1)) [0] ⟨(q3 hM46 (by simp only [Qay, h1, h22, h25, h28, h31, h33, h53, h55, h58, cs4])), aM1, aM1, iv1, iv1⟩
      intro h58
      have g60 := Qaz h58
      refine Ke ?_
      have hR61 := q2 hM46 (.brk (Qee, Qhg)) (by simp only [Qay, h1, h22, h25, h28, h31, h33, h53, h55, h58, cs4])
      refine KS ?_
      refine Oq Vm (Oq QbB (KS ?_))
      refine Kc ?_ ?_
      ·intro h62
       have g63 := eq_of_beq h62
       refine KS ?_
       refine Oq Vm (Oq Qbb (Oq Vm (Oq Qbb (Oq Va (Oq Va (KS ?_))))))
       refine Oq Vm (Oq Vm (Oq (VlS un9 (l := text)) (Oq Qcg (Oq Vm ?_))))
       refine Js 82 ?_ ?_
       ·intro h64
        have g65 := dt h64
        refine Oq Vm (Oq Vm (Oq (Vix un9 (l := text)) ?_))
        have hb66 := u8b (text.b.getD ((Qhg + 1) : Int).toNat 0)
        refine Oq QbB (Oq Vpt (Oq Vm ?_))
        refine Js 88 ?_ ?_
        ·intro h67
         have g68 := eq_of_beq h67
         refine Oq Vm (Oq QgE (Oq Vpt (KS ?_)))
         refine Kc ?_ ?_
         ·intro h69
          exact absurd h69 (by first | (simp [h62]; done) | (simp only [bne, h62]; decide) | (simp only [bne, h62, Bool.not_true, Bool.not_false]; decide) | (exfalso; omega) | (intro hq; simp only [bne, hq, Bool.not_false, Bool.not_true, reduceCtorEq] at h62))
         intro h69
         have g70 := Qaz h69
         refine KS ?_
         exact Kg (r4, (Qbf ++ [(Qax.mk 3 (Str.mk []) Qau Qa3)]), Qau, (Qee + 1), false, (Qhg + 1), a39, k40) [0] ⟨(q3 hM12 (by simp only [Qaj, h1, h22, h25, h28, h31, h33, h53, h55, h58, h62, h64, h67, h69, hR61, cs4])), aM1, aM1, aM1, iv1, iv1, iv1, iv1⟩
        intro h67
        have g71 := ne_of_beq_false h67
        refine Osk (Osk (Oq Vpf (KS ?_)))
        refine Kf (KS ?_)
        exact Kg (r4, (Qbf ++ [(Qax.mk 3 (Str.mk []) Qau Qa3)]), Qau, (Qee + 1), false, (Qhg + 1), a39, k40) [0] ⟨(q3 hM12 (by simp only [Qaj, h1, h22, h25, h28, h31, h33, h53, h55, h58, h62, h64, h67, hR61, cs4])), aM1, aM1, aM1, iv1, iv1, iv1, iv1⟩
       intro h64
       have g72 := df h64
       refine Osk (Osk (Osk (Osk (Oq Vpf (Oq Vm (Osk (Osk (Oq Vpf (KS ?_)))))))))
       refine Kf (KS ?_)
       exact Kg (r4, (Qbf ++ [(Qax.mk 3 (Str.mk []) Qau Qa3)]), Qau, (Qee + 1), false, (Qhg + 1), a39, k40) [0] ⟨(q3 hM12 (by simp only [Qaj, h1, h22, h25, h28, h31, h33, h53, h55, h58, h62, h64, hR61, cs4])), aM1, aM1, aM1, iv1, iv1, iv1, iv1⟩
      intro h62
      have g73 := ne_of_beq_false h62
      refine KS ?_
      refine Oq Vm (Oq Vm (Oq (VlS un9 (l := text)) (Oq Qcg (Oq Vm ?_))))
      refine Js 82 ?_ ?_
      ·intro h74
       have g75 := dt h74
       refine Oq Vm (Oq Vm (Oq (Vix un9 (l := text)) ?_))
       have hb76 := u8b (text.b.getD Qhg.toNat 0)
       refine Oq QbB (Oq Vpt (Oq Vm ?_))
       refine Js 88 ?_ ?_
       ·intro h77
        have g78 := eq_of_beq h77
        refine Oq Vm (Oq QgE (Oq Vpt (KS ?_)))
        refine Kc ?_ ?_
        ·intro h79
         have g80 := QbH h79
         refine KS ?_
         refine Oq Vm (Oq Qbb (Oq Vm (Oq Qbb (Oq Va (Oq Va (Oq Va (KS ?_)))))))
         exact Kg (r4, (Qbf ++ [(Qax.mk 3 (Str.mk []) Qau Qa3)]), (Qau + 1), 1, false, (Qhg + 1), a39, k40) [0] ⟨(q3 hM12 (by simp only [Qaj, h1, h22, h25, h28, h31, h33, h53, h55, h58, h62, h74, h77, h79, hR61, cs4])), aM1, aM1, aM1, iv1, iv1, iv1, iv1⟩
        intro h79
        exact absurd h79 (by first | (simp [h62]; done) | (simp only [bne, h62]; decide) | (simp only [bne, h62, Bool.not_true, Bool.not_false]; decide) | (exfalso; omega) | (intro hq; simp only [bne, hq, Bool.not_false, Bool.not_true, reduceCtorEq] at h62))
       intro h77
       exact absurd h77 (by first | (simp [h58]; done) | (simp only [bne, h58]; decide) | (simp only [bne, h58, Bool.not_true, Bool.not_false]; decide) | (exfalso; omega) | (intro hq; simp only [bne, hq, Bool.not_false, Bool.not_true, reduceCtorEq] at h58))
      intro h74
      exact absurd h74 (by first | (simp [h55]; done) | (simp only [bne, h55]; decide) | (simp only [bne, h55, Bool.not_true, Bool.not_false]; decide) | (exfalso; omega) | (intro hq; simp only [bne, hq, Bool.not_false, Bool.not_true, reduceCtorEq] at h55))
     intro h55
     have g81 := df h55
     refine Osk (Osk (Osk (Osk (Oq Vpf (KS ?_)))))
     refine Kf ?_
     refine Ke ?_
     have hR82 := q2 hM46 (.brk (Qee, Qhg)) (by simp only [Qay, h1, h22, h25, h28, h31, h33, h53, h55, cs4])
     refine KS ?_
     refine Oq Vm (Oq QbB (KS ?_))
     refine Kc ?_ ?_
     ·intro h83
      have g84 := eq_of_beq h83
      refine KS ?_
      refine Oq Vm (Oq Qbb (Oq Vm (Oq Qbb (Oq Va (Oq Va (KS ?_))))))
      refine Oq Vm (Oq Vm (Oq (VlS un9 (l := text)) (Oq Qcg (Oq Vm ?_))))
      refine Js 82 ?_ ?_
      ·intro h85
       have g86 := dt h85
       refine Oq Vm (Oq Vm (Oq (Vix un9 (l := text)) ?_))
       have hb87 := u8b (text.b.getD ((Qhg + 1) : Int).toNat 0)
       refine Oq QbB (Oq Vpt (Oq Vm ?_))
       refine Js 88 ?_ ?_
       ·intro h88
        have g89 := eq_of_beq h88
        refine Oq Vm (Oq QgE (Oq Vpt (KS ?_)))
        refine Kc ?_ ?_
        ·intro h90
         exact absurd h90 (by first | (simp [h83]; done) | (simp only [bne, h83]; decide) | (simp only [bne, h83, Bool.not_true, Bool.not_false]; decide) | (exfalso; omega) | (intro hq; simp only [bne, hq, Bool.not_false, Bool.not_true, reduceCtorEq] at h83))
        intro h90
        have g91 := Qaz h90
        refine KS ?_
        exact Kg (r4, (Qbf ++ [(Qax.mk 3 (Str.mk []) Qau Qa3)]), Qau, (Qee + 1), false, (Qhg + 1), a39, k40) [0] ⟨(q3 hM12 (by simp only [Qaj, h1, h22, h25, h28, h31, h33, h53, h55, h83, h85, h88, h90, hR82, cs4])), aM1, aM1, aM1, iv1, iv1, iv1, iv1⟩
       intro h88
       have g92 := ne_of_beq_false h88
       refine Osk (Osk (Oq Vpf (KS ?_)))
       refine Kf (KS ?_)
       exact Kg (r4, (Qbf ++ [(Qax.mk 3 (Str.mk []) Qau Qa3)]), Qau, (Qee + 1), false, (Qhg + 1), a39, k40) [0] ⟨(q3 hM12 (by simp only [Qaj, h1, h22, h25, h28, h31, h33, h53, h55, h83, h85, h88, hR82, cs4])), aM1, aM1, aM1, iv1, iv1, iv1, iv1⟩
      intro h85
      have g93 := df h85
      refine Osk (Osk (Osk (Osk (Oq Vpf (Oq Vm (Osk (Osk (Oq Vpf (KS ?_)))))))))
      refine Kf (KS ?_)
      exact Kg (r4, (Qbf ++ [(Qax.mk 3 (Str.mk []) Qau Qa3)]), Qau, (Qee + 1), false, (Qhg + 1), a39, k40) [0] ⟨(q3 hM12 (by simp only [Qaj, h1, h22, h25, h28, h31, h33, h53, h55, h83, h85, hR82, cs4])), aM1, aM1, aM1, iv1, iv1, iv1, iv1⟩
     intro h83
     have g94 := ne_of_beq_false h83
     refine KS ?_
     refine Oq Vm (Oq Vm (Oq (VlS un9 (l := text)) (Oq Qcg (Oq Vm ?_))))
     refine Js 82 ?_ ?_
     ·intro h95
      exact absurd h95 (by first | (simp [h55]; done) | (simp only [bne, h55]; decide) | (simp only [bne, h55, Bool.not_true, Bool.not_false]; decide) | (exfalso; omega) | (intro hq; simp only [bne, hq, Bool.not_false, Bool.not_true, reduceCtorEq] at h55))
     intro h95
     have g96 := df h95
     refine Osk (Osk (Osk (Osk (Oq Vpf (Oq Vm (Osk (Osk (Oq Vpf (KS ?_)))))))))
     refine Kf (KS ?_)
     exact Kg (r4, (Qbf ++ [(Qax.mk 3 (Str.mk []) Qau Qa3)]), Qau, Qee, false, Qhg, a39, k40) [0] ⟨(q3 hM12 (by simp only [Qaj, h1, h22, h25, h28, h31, h33, h53, h55, h83, h95, hR82, cs4])), aM1, aM1, aM1, iv1, iv1, iv1, iv1⟩
    intro h53
    have g97 := ne_of_beq_false h53
    refine Osk (Osk (Osk (Osk (Oq Vpf (Oq Vm (Osk (Osk (Osk (Osk ?_)))))))))
    refine Oq Vpf (KS ?_)
    refine Kf ?_
    refine Ke ?_
    have hR98 := q2 hM46 (.brk (Qee, Qhg)) (by simp only [Qay, h1, h22, h25, h28, h31, h33, h53, cs4])
    refine KS ?_
    refine Oq Vm (Oq QbB (KS ?_))
    refine Kc ?_ ?_
    ·intro h99
     have g100 := eq_of_beq h99
     refine KS ?_
     refine Oq Vm (Oq Qbb (Oq Vm (Oq Qbb (Oq Va (Oq Va (KS ?_))))))
     refine Oq Vm (Oq Vm (Oq (VlS un9 (l := text)) (Oq Qcg (Oq Vm ?_))))
     refine Js 82 ?_ ?_
     ·intro h101
      have g102 := dt h101
      refine Oq Vm (Oq Vm (Oq (Vix un9 (l := text)) ?_))
      have hb103 := u8b (text.b.getD ((Qhg + 1) : Int).toNat 0)
      refine Oq QbB (Oq Vpt (Oq Vm ?_))
      refine Js 88 ?_ ?_
      ·intro h104
       have g105 := eq_of_beq h104
       refine Oq Vm (Oq QgE (Oq Vpt (KS ?_)))
       refine Kc ?_ ?_
       ·intro h106
        exact absurd h106 (by first | (simp [h99]; done) | (simp only [bne, h99]; decide) | (simp only [bne, h99, Bool.not_true, Bool.not_false]; decide) | (exfalso; omega) | (intro hq; simp only [bne, hq, Bool.not_false, Bool.not_true, reduceCtorEq] at h99))
       intro h106
       have g107 := Qaz h106
       refine KS ?_
       exact Kg (r4, (Qbf ++ [(Qax.mk 3 (Str.mk []) Qau Qa3)]), Qau, (Qee + 1), false, (Qhg + 1), a39, k40) [0] ⟨(q3 hM12 (by simp only [Qaj, h1, h22, h25, h28, h31, h33, h53, h99, h101, h104, h106, hR98, cs4])), aM1, aM1, aM1, iv1, iv1, iv1, iv1⟩
      intro h104
      have g108 := ne_of_beq_false h104
      refine Osk (Osk (Oq Vpf (KS ?_)))
      refine Kf (KS ?_)
      exact Kg (r4, (Qbf ++ [(Qax.mk 3 (Str.mk []) Qau Qa3)]), Qau, (Qee + 1), false, (Qhg + 1), a39, k40) [0] ⟨(q3 hM12 (by simp only [Qaj, h1, h22, h25, h28, h31, h33, h53, h99, h101, h104, hR98, cs4])), aM1, aM1, aM1, iv1, iv1, iv1, iv1⟩
     intro h101
     have g109 := df h101
     refine Osk (Osk (Osk (Osk (Oq Vpf (Oq Vm (Osk (Osk (Oq Vpf (KS ?_)))))))))
     refine Kf (KS ?_)
     exact Kg (r4, (Qbf ++ [(Qax.mk 3 (Str.mk []) Qau Qa3)]), Qau, (Qee + 1), false, (Qhg + 1), a39, k40) [0] ⟨(q3 hM12 (by simp only [Qaj, h1, h22, h25, h28, h31, h33, h53, h99, h101, hR98, cs4])), aM1, aM1, aM1, iv1, iv1, iv1, iv1⟩
    intro h99
    have g110 := ne_of_beq_false h99
    refine KS ?_
    refine Oq Vm (Oq Vm (Oq (VlS un9 (l := text)) (Oq Qcg (Oq Vm ?_))))
    refine Js 82 ?_ ?_
    ·intro h111
     have g112 := dt h111
     refine Oq Vm (Oq Vm (Oq (Vix un9 (l := text)) ?_))
     have hb113 := u8b (text.b.getD Qhg.toNat 0)
     refine Oq QbB (Oq Vpt (Oq Vm ?_))
     refine Js 88 ?_ ?_
     ·intro h114
      have g115 := eq_of_beq h114
      refine Oq Vm (Oq QgE (Oq Vpt (KS ?_)))
      refine Kc ?_ ?_
      ·intro h116
       have g117 := QbH h116
       refine KS ?_
       refine Oq Vm (Oq Qbb (Oq Vm (Oq Qbb (Oq Va (Oq Va (Oq Va (KS ?_)))))))
       exact Kg (r4, (Qbf ++ [(Qax.mk 3 (Str.mk []) Qau Qa3)]), (Qau + 1), 1, false, (Qhg + 1), a39, k40) [0] ⟨(q3 hM12 (by simp only [Qaj, h1, h22, h25, h28, h31, h33, h53, h99, h111, h114, h116, hR98, cs4])), aM1, aM1, aM1, iv1, iv1, iv1, iv1⟩
      intro h116
      exact absurd h116 (by first | (simp [h99]; done) | (simp only [bne, h99]; decide) | (simp only [bne, h99, Bool.not_true, Bool.not_false]; decide) | (exfalso; omega) | (intro hq; simp only [bne, hq, Bool.not_false, Bool.not_true, reduceCtorEq] at h99))
     intro h114
     have g118 := ne_of_beq_false h114
     refine Osk (Osk (Oq Vpf (KS ?_)))
     refine Kf (KS ?_)
     exact Kg (r4, (Qbf ++ [(Qax.mk 3 (Str.mk []) Qau Qa3)]), Qau, Qee, false, Qhg, a39, k40) [0] ⟨(q3 hM12 (by simp only [Qaj, h1, h22, h25, h28, h31, h33, h53, h99, h111, h114, hR98, cs4])), aM1, aM1, aM1, iv1, iv1, iv1, iv1⟩
    intro h111
    have g119 := df h111
    refine Osk (Osk (Osk (Osk (Oq Vpf (Oq Vm (Osk (Osk (Oq Vpf (KS ?_)))))))))
    refine Kf (KS ?_)
    exact Kg (r4, (Qbf ++ [(Qax.mk 3 (Str.mk []) Qau Qa3)]), Qau, Qee, false, Qhg, a39, k40) [0] ⟨(q3 hM12 (by simp only [Qaj, h1, h22, h25, h28, h31, h33, h53, h99, h111, hR98, cs4])), aM1, aM1, aM1, iv1, iv1, iv1, iv1⟩
   intro h33
   refine KS ?_
   refine Oq Va (KS ?_)
   have hterm129 : Qay text ((text.b.getD i_9.toNat 0).toNat : Int) (text.b.length + 1) Qa3 i_9 ≠ LR.oof := (Qei _ _ _ _ _ aM1).1
   refine Kl (γ := Nat × Int × Int) (fun (r121, Qdb, Qes) => ⟨[(0, .string (bs text)), (6, vl a10 k11 Qbf), (7, vi Qau), (8, vi Qdb), (10, vi Qes), (11, .int .u8 ((text.b.getD i_9.toNat 0).toNat : Int)), (9, vb false)], [O a10 k11 Qbf], Qay text ((text.b.getD i_9.toNat 0).toNat : Int) r121 Qdb Qes = Qay text ((text.b.getD i_9.toNat 0).toNat : Int) (text.b.length + 1) Qa3 i_9 /\ (-9223372036854775808 <= Qdb /\ Qdb <= 9223372036854775807) /\ (-9223372036854775808 <= Qes /\ Qes <= 9223372036854775807) /\ (i_9 <= Qes /\ Qes <= (text.b.length : Int) /\ Qa3 <= Qdb /\ Qdb <= Qa3 + (Qes - i_9)) /\ (((text.b.getD i_9.toNat 0).toNat : Int) = 35 \/ Qes = i_9), r121⟩) ((text.b.length + 1), Qa3, i_9) [0] ⟨rfl, aM1, aM1, iv0, iv0⟩ ?_
   rintro ⟨r121, Qdb, Qes⟩ ⟨hM124, hk125, hk126, hv127, hv128⟩
   refine Qbt fun _ _ hL hA => ?_; dsimp only at hL hA; subst hL hA
   refine Fb 40 0 fun _ => ?_
   rcases r121 with _ | r121
   ·exact absurd (hM124.symm.trans rfl) hterm129
   refine KS ?_
   refine Oq Vm (Oq QbB (Oq Vm ?_))
   refine Js 56 ?_ ?_
   ·intro h131
    have g132 := eq_of_beq h131
    refine Oq Vm (Oq Vm (Oq (VlS un9 (l := text)) (Oq Qcg (Oq Vpt (Oq Vm ?_)))))
    refine Js 62 ?_ ?_
    ·intro h133
     have g134 := dt h133
     refine Oq Vm (Oq Vm (Oq (Vix un9 (l := text)) ?_))
     have hb135 := u8b (text.b.getD Qes.toNat 0)
     refine Oq QgE (Oq Vpt (KS ?_))
     refine Kc ?_ ?_
     ·intro h136
      have g137 := QbH h136
      refine KS ?_
      refine Oq Vm (Oq Qbb (Oq Vm (Oq Qbb (Oq Va (Oq Va (KS ?_))))))
      exact Kg (r121, (Qdb + 1), (Qes + 1)) [0] ⟨(q3 hM124 (by simp only [Qay, h1, h22, h25, h28, h31, h33, h131, h133, h136, cs4])), aM1, aM1, iv1, iv1⟩
     intro h136
     have g138 := Qaz h136
     refine Ke ?_
     have hR139 := q2 hM124 (.brk (Qdb, Qes)) (by simp only [Qay, h1, h22, h25, h28, h31, h33, h131, h133, h136, cs4])
     refine KS ?_
     refine Oq Vm (Oq QbB (KS ?_))
     refine Kc ?_ ?_
     ·intro h140
      have g141 := eq_of_beq h140
      refine KS ?_
      refine Oq Vm (Oq Qbb (Oq Vm (Oq Qbb (Oq Va (Oq Va (KS ?_))))))
      refine Oq Vm (Oq Vm (Oq (VlS un9 (l := text)) (Oq Qcg (Oq Vm ?_))))
      refine Js 82 ?_ ?_
      ·intro h142
       have g143 := dt h142
       refine Oq Vm (Oq Vm (Oq (Vix un9 (l := text)) ?_))
       have hb144 := u8b (text.b.getD ((Qes + 1) : Int).toNat 0)
       refine Oq QbB (Oq Vpt (Oq Vm ?_))
       refine Js 88 ?_ ?_
       ·intro h145
        have g146 := eq_of_beq h145
        refine Oq Vm (Oq QgE (Oq Vpt (KS ?_)))
        refine Kc ?_ ?_
        ·intro h147
         exact absurd h147 (by first | (simp [h140]; done) | (simp only [bne, h140]; decide) | (simp only [bne, h140, Bool.not_true, Bool.not_false]; decide) | (exfalso; omega) | (intro hq; simp only [bne, hq, Bool.not_false, Bool.not_true, reduceCtorEq] at h140))
        intro h147
        have g148 := Qaz h147
        refine KS ?_
        exact Kg (r4, Qbf, Qau, (Qdb + 1), false, (Qes + 1), a10, k11) [0] ⟨(q3 hM12 (by simp only [Qaj, h1, h22, h25, h28, h31, h33, h131, h133, h136, h140, h142, h145, h147, hR139, cs4])), aM1, aM1, aM1, iv1, iv1, iv1, iv1⟩
       intro h145
       have g149 := ne_of_beq_false h145
       refine Osk (Osk (Oq Vpf (KS ?_)))
       refine Kf (KS ?_)
       exact Kg (r4, Qbf, Qau, (Qdb + 1), false, (Qes + 1), a10, k11) [0] ⟨(q3 hM12 (by simp only [Qaj, h1, h22, h25, h28, h31, h33, h131, h133, h136, h140, h142, h145, hR139, cs4])), aM1, aM1, aM1, iv1, iv1, iv1, iv1⟩
      intro h142
      have g150 := df h142
      refine Osk (Osk (Osk (Osk (Oq Vpf (Oq Vm (Osk (Osk (Oq Vpf (KS ?_)))))))))
      refine Kf (KS ?_)
      exact Kg (r4, Qbf, Qau, (Qdb + 1), false, (Qes + 1), a10, k11) [0] ⟨(q3 hM12 (by simp only [Qaj, h1, h22, h25, h28, h31, h33, h131, h133, h136, h140, h142, hR139, cs4])), aM1, aM1, aM1, iv1, iv1, iv1, iv1⟩
     intro h140
     have g151 := ne_of_beq_false h140
     refine KS ?_
     refine Oq Vm (Oq Vm (Oq (VlS un9 (l := text)) (Oq Qcg (Oq Vm ?_))))
     refine Js 82 ?_ ?_
     ·intro h152
      have g153 := dt h152
      refine Oq Vm (Oq Vm (Oq (Vix un9 (l := text)) ?_))
      have hb154 := u8b (text.b.getD Qes.toNat 0)
      refine Oq QbB (Oq Vpt (Oq Vm ?_))
      refine Js 88 ?_ ?_
      ·intro h155
       have g156 := eq_of_beq h155
       refine Oq Vm (Oq QgE (Oq Vpt (KS ?_)))
       refine Kc ?_ ?_
       ·intro h157
        have g158 := QbH h157
        refine KS ?_
        refine Oq Vm (Oq Qbb (Oq Vm (Oq Qbb (Oq Va (Oq Va (Oq Va (KS ?_)))))))
        exact Kg (r4, Qbf, (Qau + 1), 1, false, (Qes + 1), a10, k11) [0] ⟨(q3 hM12 (by simp only [Qaj, h1, h22, h25, h28, h31, h33, h131, h133, h136, h140, h152, h155, h157, hR139, cs4])), aM1, aM1, aM1, iv1, iv1, iv1, iv1⟩
       intro h157
       exact absurd h157 (by first | (simp [h140]; done) | (simp only [bne, h140]; decide) | (simp only [bne, h140, Bool.not_true, Bool.not_false]; decide) | (exfalso; omega) | (intro hq; simp only [bne, hq, Bool.not_false, Bool.not_true, reduceCtorEq] at h140))
      intro h155
      exact absurd h155 (by first | (simp [h136]; done) | (simp only [bne, h136]; decide) | (simp only [bne, h136, Bool.not_true, Bool.not_false]; decide) | (exfalso; omega) | (intro hq; simp only [bne, hq, Bool.not_false, Bool.not_true, reduceCtorEq] at h136))
     intro h152
     exact absurd h152 (by first | (simp [h133]; done) | (simp only [bne, h133]; decide) | (simp only [bne, h133, Bool.not_true, Bool.not_false]; decide) | (exfalso; omega) | (intro hq; simp only [bne, hq, Bool.not_false, Bool.not_true, reduceCtorEq] at h133))
    intro h133
    have g159 := df h133
    refine Osk (Osk (Osk (Osk (Oq Vpf (KS ?_)))))
    refine Kf ?_
    refine Ke ?_
    have hR160 := q2 hM124 (.brk (Qdb, Qes)) (by simp only [Qay, h1, h22, h25, h28, h31, h33, h131, h133, cs4])
    refine KS ?_
    refine Oq Vm (Oq QbB (KS ?_))
    refine Kc ?_ ?_
    ·intro h161
     have g162 := eq_of_beq h161
     refine KS ?_
     refine Oq Vm (Oq Qbb (Oq Vm (Oq Qbb (Oq Va (Oq Va (KS ?_))))))
     refine Oq Vm (Oq Vm (Oq (VlS un9 (l := text)) (Oq Qcg (Oq Vm ?_))))
     refine Js 82 ?_ ?_
     ·intro h163
      have g164 := dt h163
      refine Oq Vm (Oq Vm (Oq (Vix un9 (l := text)) ?_))
      have hb165 := u8b (text.b.getD ((Qes + 1) : Int).toNat 0)
      refine Oq QbB (Oq Vpt (Oq Vm ?_))
      refine Js 88 ?_ ?_
      ·intro h166
       have g167 := eq_of_beq h166
       refine Oq Vm (Oq QgE (Oq Vpt (KS ?_)))
       refine Kc ?_ ?_
       ·intro h168
        exact absurd h168 (by first | (simp [h161]; done) | (simp only [bne, h161]; decide) | (simp only [bne, h161, Bool.not_true, Bool.not_false]; decide) | (exfalso; omega) | (intro hq; simp only [bne, hq, Bool.not_false, Bool.not_true, reduceCtorEq] at h161))
       intro h168
       have g169 := Qaz h168
       refine KS ?_
       exact Kg (r4, Qbf, Qau, (Qdb + 1), false, (Qes + 1), a10, k11) [0] ⟨(q3 hM12 (by simp only [Qaj, h1, h22, h25, h28, h31, h33, h131, h133, h161, h163, h166, h168, hR160, cs4])), aM1, aM1, aM1, iv1, iv1, iv1, iv1⟩
      intro h166
      have g170 := ne_of_beq_false h166
      refine Osk (Osk (Oq Vpf (KS ?_)))
      refine Kf (KS ?_)
      exact Kg (r4, Qbf, Qau, (Qdb + 1), false, (Qes + 1), a10, k11) [0] ⟨(q3 hM12 (by simp only [Qaj, h1, h22, h25, h28, h31, h33, h131, h133, h161, h163, h166, hR160, cs4])), aM1, aM1, aM1, iv1, iv1, iv1, iv1⟩
     intro h163
     have g171 := df h163
     refine Osk (Osk (Osk (Osk (Oq Vpf (Oq Vm (Osk (Osk (Oq Vpf (KS ?_)))))))))
     refine Kf (KS ?_)
     exact Kg (r4, Qbf, Qau, (Qdb + 1), false, (Qes + 1), a10, k11) [0] ⟨(q3 hM12 (by simp only [Qaj, h1, h22, h25, h28, h31, h33, h131, h133, h161, h163, hR160, cs4])), aM1, aM1, aM1, iv1, iv1, iv1, iv1⟩
    intro h161
    have g172 := ne_of_beq_false h161
    refine KS ?_
    refine Oq Vm (Oq Vm (Oq (VlS un9 (l := text)) (Oq Qcg (Oq Vm ?_))))
    refine Js 82 ?_ ?_
    ·intro h173
     exact absurd h173 (by first | (simp [h133]; done) | (simp only [bne, h133]; decide) | (simp only [bne, h133, Bool.not_true, Bool.not_false]; decide) | (exfalso; omega) | (intro hq; simp only [bne, hq, Bool.not_false, Bool.not_true, reduceCtorEq] at h133))
    intro h173
    have g174 := df h173
    refine Osk (Osk (Osk (Osk (Oq Vpf (Oq Vm (Osk (Osk (Oq Vpf (KS ?_)))))))))
    refine Kf (KS ?_)
    exact Kg (r4, Qbf, Qau, Qdb, false, Qes, a10, k11) [0] ⟨(q3 hM12 (by simp only [Qaj, h1, h22, h25, h28, h31, h33, h131, h133, h161, h173, hR160, cs4])), aM1, aM1, aM1, iv1, iv1, iv1, iv1⟩
   intro h131
   have g175 := ne_of_beq_false h131
   refine Osk (Osk (Osk (Osk (Oq Vpf (Oq Vm (Osk (Osk (Osk (Osk ?_)))))))))
   refine Oq Vpf (KS ?_)
   refine Kf ?_
   refine Ke ?_
   have hR176 := q2 hM124 (.brk (Qdb, Qes)) (by simp only [Qay, h1, h22, h25, h28, h31, h33, h131, cs4])
   refine KS ?_
   refine Oq Vm (Oq QbB (KS ?_))
   refine Kc ?_ ?_
   ·intro h177
    have g178 := eq_of_beq h177
    refine KS ?_
    refine Oq Vm (Oq Qbb (Oq Vm (Oq Qbb (Oq Va (Oq Va (KS ?_))))))
    refine Oq Vm (Oq Vm (Oq (VlS un9 (l := text)) (Oq Qcg (Oq Vm ?_))))
    refine Js 82 ?_ ?_
    ·intro h179
     have g180 := dt h179
     refine Oq Vm (Oq Vm (Oq (Vix un9 (l := text)) ?_))
     have hb181 := u8b (text.b.getD ((Qes + 1) : Int).toNat 0)
     refine Oq QbB (Oq Vpt (Oq Vm ?_))
     refine Js 88 ?_ ?_
     ·intro h182
      have g183 := eq_of_beq h182
      refine Oq Vm (Oq QgE (Oq Vpt (KS ?_)))
      refine Kc ?_ ?_
      ·intro h184
       exact absurd h184 (by first | (simp [h177]; done) | (simp only [bne, h177]; decide) | (simp only [bne, h177, Bool.not_true, Bool.not_false]; decide) | (exfalso; omega) | (intro hq; simp only [bne, hq, Bool.not_false, Bool.not_true, reduceCtorEq] at h177))
      intro h184
      have g185 := Qaz h184
      refine KS ?_
      exact Kg (r4, Qbf, Qau, (Qdb + 1), false, (Qes + 1), a10, k11) [0] ⟨(q3 hM12 (by simp only [Qaj, h1, h22, h25, h28, h31, h33, h131, h177, h179, h182, h184, hR176, cs4])), aM1, aM1, aM1, iv1, iv1, iv1, iv1⟩
     intro h182
     have g186 := ne_of_beq_false h182
     refine Osk (Osk (Oq Vpf (KS ?_)))
     refine Kf (KS ?_)
     exact Kg (r4, Qbf, Qau, (Qdb + 1), false, (Qes + 1), a10, k11) [0] ⟨(q3 hM12 (by simp only [Qaj, h1, h22, h25, h28, h31, h33, h131, h177, h179, h182, hR176, cs4])), aM1, aM1, aM1, iv1, iv1, iv1, iv1⟩
    intro h179
    have g187 := df h179
    refine Osk (Osk (Osk (Osk (Oq Vpf (Oq Vm (Osk (Osk (Oq Vpf (KS ?_)))))))))
    refine Kf (KS ?_)
    exact Kg (r4, Qbf, Qau, (Qdb + 1), false, (Qes + 1), a10, k11) [0] ⟨(q3 hM12 (by simp only [Qaj, h1, h22, h25, h28, h31, h33, h131, h177, h179, hR176, cs4])), aM1, aM1, aM1, iv1, iv1, iv1, iv1⟩
   intro h177
   have g188 := ne_of_beq_false h177
   refine KS ?_
   refine Oq Vm (Oq Vm (Oq (VlS un9 (l := text)) (Oq Qcg (Oq Vm ?_))))
   refine Js 82 ?_ ?_
   ·intro h189
    have g190 := dt h189
    refine Oq Vm (Oq Vm (Oq (Vix un9 (l := text)) ?_))
    have hb191 := u8b (text.b.getD Qes.toNat 0)
    refine Oq QbB (Oq Vpt (Oq Vm ?_))
    refine Js 88 ?_ ?_
    ·intro h192
     have g193 := eq_of_beq h192
     refine Oq Vm (Oq QgE (Oq Vpt (KS ?_)))
     refine Kc ?_ ?_
     ·intro h194
      have g195 := QbH h194
      refine KS ?_
      refine Oq Vm (Oq Qbb (Oq Vm (Oq Qbb (Oq Va (Oq Va (Oq Va (KS ?_)))))))
      exact Kg (r4, Qbf, (Qau + 1), 1, false, (Qes + 1), a10, k11) [0] ⟨(q3 hM12 (by simp only [Qaj, h1, h22, h25, h28, h31, h33, h131, h177, h189, h192, h194, hR176, cs4])), aM1, aM1, aM1, iv1, iv1, iv1, iv1⟩
     intro h194
     exact absurd h194 (by first | (simp [h177]; done) | (simp only [bne, h177]; decide) | (simp only [bne, h177, Bool.not_true, Bool.not_false]; decide) | (exfalso; omega) | (intro hq; simp only [bne, hq, Bool.not_false, Bool.not_true, reduceCtorEq] at h177))
    intro h192
    have g196 := ne_of_beq_false h192
    refine Osk (Osk (Oq Vpf (KS ?_)))
    refine Kf (KS ?_)
    exact Kg (r4, Qbf, Qau, Qdb, false, Qes, a10, k11) [0] ⟨(q3 hM12 (by simp only [Qaj, h1, h22, h25, h28, h31, h33, h131, h177, h189, h192, hR176, cs4])), aM1, aM1, aM1, iv1, iv1, iv1, iv1⟩
   intro h189
   have g197 := df h189
   refine Osk (Osk (Osk (Osk (Oq Vpf (Oq Vm (Osk (Osk (Oq Vpf (KS ?_)))))))))
   refine Kf (KS ?_)
   exact Kg (r4, Qbf, Qau, Qdb, false, Qes, a10, k11) [0] ⟨(q3 hM12 (by simp only [Qaj, h1, h22, h25, h28, h31, h33, h131, h177, h189, hR176, cs4])), aM1, aM1, aM1, iv1, iv1, iv1, iv1⟩
  intro h31
  have g198 := ne_of_beq_false h31
  refine Oq Vm (Oq QbB (Oq Vpf (Oq Vm ?_)))
  refine Js 43 ?_ ?_
  ·intro h199
   have g200 := eq_of_beq h199
   refine Osk (Osk (Oq Vpt (Oq Va (KS ?_))))
   refine Kt (KS ?_)
   refine Oq Vm (KS ?_)
   refine Kc ?_ ?_
   ·intro h201
    refine KS ?_
    refine Oq Vm (Oq Vm (Oq Vm (Oq (Vbd Qlg [vi 3, .string (bs (Str.mk [])), vi Qau, vi Qa3]) (Oa (AsV QeD QlA [.agg #[vi 3, .string (bs (Str.mk [])), vi Qau, vi Qa3]] [vi 3, .string (bs (Str.mk [])), vi Qau, vi Qa3]) fun c203 => ?_))))
    refine Jo 0 ?_; rintro a204 k205 rfl
    refine Jl [0] (Ent.cr1 (α := Qax) (A := []) _ (Qax.mk 3 (Str.mk []) Qau Qa3) _ aB1 (fun h => ⟨rfl, aL1, aS1, aL1, aL1⟩)) ?_
    refine Oa (ApO [1, 0] QeD QeD QlA) fun c206 => ?_
    refine Jo 0 ?_; rintro a207 k208 rfl
    refine Fb 40 0 fun _ => ?_
    have hn210 := la Qbf ([(Qax.mk 3 (Str.mk []) Qau Qa3)] : List Qax)
    refine Oq Va (KS ?_)
    refine Oq Va (KS ?_)
    have hterm219 : Qay text ((text.b.getD i_9.toNat 0).toNat : Int) (text.b.length + 1) Qa3 i_9 ≠ LR.oof := (Qei _ _ _ _ _ aM1).1
    refine Kl (γ := Nat × Int × Int) (fun (r211, QdL, Qfg) => ⟨[(0, .string (bs text)), (7, vi Qau), (8, vi QdL), (10, vi Qfg), (11, .int .u8 ((text.b.getD i_9.toNat 0).toNat : Int)), (6, vl a207 k208 (Qbf ++ [(Qax.mk 3 (Str.mk []) Qau Qa3)])), (9, vb false)], [O a207 k208 ((Qbf ++ [(Qax.mk 3 (Str.mk []) Qau Qa3)]) : List Qax)], Qay text ((text.b.getD i_9.toNat 0).toNat : Int) r211 QdL Qfg = Qay text ((text.b.getD i_9.toNat 0).toNat : Int) (text.b.length + 1) Qa3 i_9 /\ (-9223372036854775808 <= QdL /\ QdL <= 9223372036854775807) /\ (-9223372036854775808 <= Qfg /\ Qfg <= 9223372036854775807) /\ (i_9 <= Qfg /\ Qfg <= (text.b.length : Int) /\ Qa3 <= QdL /\ QdL <= Qa3 + (Qfg - i_9)) /\ (((text.b.getD i_9.toNat 0).toNat : Int) = 35 \/ Qfg = i_9), r211⟩) ((text.b.length + 1), Qa3, i_9) [0] ⟨rfl, aM1, aM1, iv0, iv0⟩ ?_
    rintro ⟨r211, QdL, Qfg⟩ ⟨hM214, hk215, hk216, hv217, hv218⟩
    refine Qbt fun _ _ hL hA => ?_; dsimp only at hL hA; subst hL hA
    refine Fb 40 0 fun _ => ?_
    rcases r211 with _ | r211
    ·exact absurd (hM214.symm.trans rfl) hterm219
    refine KS ?_
    refine Oq Vm (Oq QbB (Oq Vm ?_))
    refine Js 56 ?_ ?_
    ·intro h221
     have g222 := eq_of_beq h221
     refine Oq Vm (Oq Vm (Oq (VlS un9 (l := text)) (Oq Qcg (Oq Vpt (Oq Vm ?_)))))
     refine Js 62 ?_ ?_
     ·intro h223
      have g224 := dt h223
      refine Oq Vm (Oq Vm (Oq (Vix un9 (l := text)) ?_))
      have hb225 := u8b (text.b.getD Qfg.toNat 0)
      refine Oq QgE (Oq Vpt (KS ?_))
      refine Kc ?_ ?_
      ·intro h226
       have g227 := QbH h226
       refine KS ?_
       refine Oq Vm (Oq Qbb (Oq Vm (Oq Qbb (Oq Va (Oq Va (KS ?_))))))
       exact Kg (r211, (QdL + 1), (Qfg + 1)) [0] ⟨(q3 hM214 (by simp only [Qay, h1, h22, h25, h28, h31, h199, h201, h221, h223, h226, cs4])), aM1, aM1, iv1, iv1⟩
      intro h226
      have g228 := Qaz h226
      refine Ke ?_
      have hR229 := q2 hM214 (.brk (QdL, Qfg)) (by simp only [Qay, h1, h22, h25, h28, h31, h199, h201, h221, h223, h226, cs4])
      refine KS ?_
      refine Oq Vm (Oq QbB (KS ?_))
      refine Kc ?_ ?_
      ·intro h230
       have g231 := eq_of_beq h230
       refine KS ?_
       refine Oq Vm (Oq Qbb (Oq Vm (Oq Qbb (Oq Va (Oq Va (KS ?_))))))
       refine Oq Vm (Oq Vm (Oq (VlS un9 (l := text)) (Oq Qcg (Oq Vm ?_))))
       refine Js 82 ?_ ?_
       ·intro h232
        have g233 := dt h232
        refine Oq Vm (Oq Vm (Oq (Vix un9 (l := text)) ?_))
        have hb234 := u8b (text.b.getD ((Qfg + 1) : Int).toNat 0)
        refine Oq QbB (Oq Vpt (Oq Vm ?_))
        refine Js 88 ?_ ?_
        ·intro h235
         have g236 := eq_of_beq h235
         refine Oq Vm (Oq QgE (Oq Vpt (KS ?_)))
         refine Kc ?_ ?_
         ·intro h237
          exact absurd h237 (by first | (simp [h230]; done) | (simp only [bne, h230]; decide) | (simp only [bne, h230, Bool.not_true, Bool.not_false]; decide) | (exfalso; omega) | (intro hq; simp only [bne, hq, Bool.not_false, Bool.not_true, reduceCtorEq] at h230))
         intro h237
         have g238 := Qaz h237
         refine KS ?_
         exact Kg (r4, (Qbf ++ [(Qax.mk 3 (Str.mk []) Qau Qa3)]), Qau, (QdL + 1), false, (Qfg + 1), a207, k208) [0] ⟨(q3 hM12 (by simp only [Qaj, h1, h22, h25, h28, h31, h199, h201, h221, h223, h226, h230, h232, h235, h237, hR229, cs4])), aM1, aM1, aM1, iv1, iv1, iv1, iv1⟩
        intro h235
        have g239 := ne_of_beq_false h235
        refine Osk (Osk (Oq Vpf (KS ?_)))
        refine Kf (KS ?_)
        exact Kg (r4, (Qbf ++ [(Qax.mk 3 (Str.mk []) Qau Qa3)]), Qau, (QdL + 1), false, (Qfg + 1), a207, k208) [0] ⟨(q3 hM12 (by simp only [Qaj, h1, h22, h25, h28, h31, h199, h201, h221, h223, h226, h230, h232, h235, hR229, cs4])), aM1, aM1, aM1, iv1, iv1, iv1, iv1⟩
       intro h232
       have g240 := df h232
       refine Osk (Osk (Osk (Osk (Oq Vpf (Oq Vm (Osk (Osk (Oq Vpf (KS ?_)))))))))
       refine Kf (KS ?_)
       exact Kg (r4, (Qbf ++ [(Qax.mk 3 (Str.mk []) Qau Qa3)]), Qau, (QdL + 1), false, (Qfg + 1), a207, k208) [0] ⟨(q3 hM12 (by simp only [Qaj, h1, h22, h25, h28, h31, h199, h201, h221, h223, h226, h230, h232, hR229, cs4])), aM1, aM1, aM1, iv1, iv1, iv1, iv1⟩
      intro h230
      exact absurd h230 (by first | (simp [h199]; done) | (simp only [bne, h199]; decide) | (simp only [bne, h199, Bool.not_true, Bool.not_false]; decide) | (exfalso; omega) | (intro hq; simp only [bne, hq, Bool.not_false, Bool.not_true, reduceCtorEq] at h199))
     intro h223
     have g241 := df h223
     refine Osk (Osk (Osk (Osk (Oq Vpf (KS ?_)))))
     refine Kf ?_
     refine Ke ?_
     have hR242 := q2 hM214 (.brk (QdL, Qfg)) (by simp only [Qay, h1, h22, h25, h28, h31, h199, h201, h221, h223, cs4])
     refine KS ?_
     refine Oq Vm (Oq QbB (KS ?_))
     refine Kc ?_ ?_
     ·intro h243
      have g244 := eq_of_beq h243
      refine KS ?_
      refine Oq Vm (Oq Qbb (Oq Vm (Oq Qbb (Oq Va (Oq Va (KS ?_))))))
      refine Oq Vm (Oq Vm (Oq (VlS un9 (l := text)) (Oq Qcg (Oq Vm ?_))))
      refine Js 82 ?_ ?_
      ·intro h245
       have g246 := dt h245
       refine Oq Vm (Oq Vm (Oq (Vix un9 (l := text)) ?_))
       have hb247 := u8b (text.b.getD ((Qfg + 1) : Int).toNat 0)
       refine Oq QbB (Oq Vpt (Oq Vm ?_))
       refine Js 88 ?_ ?_
       ·intro h248
        have g249 := eq_of_beq h248
        refine Oq Vm (Oq QgE (Oq Vpt (KS ?_)))
        refine Kc ?_ ?_
        ·intro h250
         exact absurd h250 (by first | (simp [h243]; done) | (simp only [bne, h243]; decide) | (simp only [bne, h243, Bool.not_true, Bool.not_false]; decide) | (exfalso; omega) | (intro hq; simp only [bne, hq, Bool.not_false, Bool.not_true, reduceCtorEq] at h243))
        intro h250
        have g251 := Qaz h250
        refine KS ?_
        exact Kg (r4, (Qbf ++ [(Qax.mk 3 (Str.mk []) Qau Qa3)]), Qau, (QdL + 1), false, (Qfg + 1), a207, k208) [0] ⟨(q3 hM12 (by simp only [Qaj, h1, h22, h25, h28, h31, h199, h201, h221, h223, h243, h245, h248, h250, hR242, cs4])), aM1, aM1, aM1, iv1, iv1, iv1, iv1⟩
       intro h248
       have g252 := ne_of_beq_false h248
       refine Osk (Osk (Oq Vpf (KS ?_)))
       refine Kf (KS ?_)
       exact Kg (r4, (Qbf ++ [(Qax.mk 3 (Str.mk []) Qau Qa3)]), Qau, (QdL + 1), false, (Qfg + 1), a207, k208) [0] ⟨(q3 hM12 (by simp only [Qaj, h1, h22, h25, h28, h31, h199, h201, h221, h223, h243, h245, h248, hR242, cs4])), aM1, aM1, aM1, iv1, iv1, iv1, iv1⟩
      intro h245
      have g253 := df h245
      refine Osk (Osk (Osk (Osk (Oq Vpf (Oq Vm (Osk (Osk (Oq Vpf (KS ?_)))))))))
      refine Kf (KS ?_)
      exact Kg (r4, (Qbf ++ [(Qax.mk 3 (Str.mk []) Qau Qa3)]), Qau, (QdL + 1), false, (Qfg + 1), a207, k208) [0] ⟨(q3 hM12 (by simp only [Qaj, h1, h22, h25, h28, h31, h199, h201, h221, h223, h243, h245, hR242, cs4])), aM1, aM1, aM1, iv1, iv1, iv1, iv1⟩
     intro h243
     exact absurd h243 (by first | (simp [h199]; done) | (simp only [bne, h199]; decide) | (simp only [bne, h199, Bool.not_true, Bool.not_false]; decide) | (exfalso; omega) | (intro hq; simp only [bne, hq, Bool.not_false, Bool.not_true, reduceCtorEq] at h199))
    intro h221
    have g254 := ne_of_beq_false h221
    refine Osk (Osk (Osk (Osk (Oq Vpf (Oq Vm (Osk (Osk (Osk (Osk ?_)))))))))
    refine Oq Vpf (KS ?_)
    refine Kf ?_
    refine Ke ?_
    have hR255 := q2 hM214 (.brk (QdL, Qfg)) (by simp only [Qay, h1, h22, h25, h28, h31, h199, h201, h221, cs4])
    refine KS ?_
    refine Oq Vm (Oq QbB (KS ?_))
    refine Kc ?_ ?_
    ·intro h256
     have g257 := eq_of_beq h256
     refine KS ?_
     refine Oq Vm (Oq Qbb (Oq Vm (Oq Qbb (Oq Va (Oq Va (KS ?_))))))
     refine Oq Vm (Oq Vm (Oq (VlS un9 (l := text)) (Oq Qcg (Oq Vm ?_))))
     refine Js 82 ?_ ?_
     ·intro h258
      have g259 := dt h258
      refine Oq Vm (Oq Vm (Oq (Vix un9 (l := text)) ?_))
      have hb260 := u8b (text.b.getD ((Qfg + 1) : Int).toNat 0)
      refine Oq QbB (Oq Vpt (Oq Vm ?_))
      refine Js 88 ?_ ?_
      ·intro h261
       have g262 := eq_of_beq h261
       refine Oq Vm (Oq QgE (Oq Vpt (KS ?_)))
       refine Kc ?_ ?_
       ·intro h263
        exact absurd h263 (by first | (simp [h256]; done) | (simp only [bne, h256]; decide) | (simp only [bne, h256, Bool.not_true, Bool.not_false]; decide) | (exfalso; omega) | (intro hq; simp only [bne, hq, Bool.not_false, Bool.not_true, reduceCtorEq] at h256))
       intro h263
       have g264 := Qaz h263
       refine KS ?_
       exact Kg (r4, (Qbf ++ [(Qax.mk 3 (Str.mk []) Qau Qa3)]), Qau, (QdL + 1), false, (Qfg + 1), a207, k208) [0] ⟨(q3 hM12 (by simp only [Qaj, h1, h22, h25, h28, h31, h199, h201, h221, h256, h258, h261, h263, hR255, cs4])), aM1, aM1, aM1, iv1, iv1, iv1, iv1⟩
      intro h261
      have g265 := ne_of_beq_false h261
      refine Osk (Osk (Oq Vpf (KS ?_)))
      refine Kf (KS ?_)
      exact Kg (r4, (Qbf ++ [(Qax.mk 3 (Str.mk []) Qau Qa3)]), Qau, (QdL + 1), false, (Qfg + 1), a207, k208) [0] ⟨(q3 hM12 (by simp only [Qaj, h1, h22, h25, h28, h31, h199, h201, h221, h256, h258, h261, hR255, cs4])), aM1, aM1, aM1, iv1, iv1, iv1, iv1⟩
     intro h258
     have g266 := df h258
     refine Osk (Osk (Osk (Osk (Oq Vpf (Oq Vm (Osk (Osk (Oq Vpf (KS ?_)))))))))
     refine Kf (KS ?_)
     exact Kg (r4, (Qbf ++ [(Qax.mk 3 (Str.mk []) Qau Qa3)]), Qau, (QdL + 1), false, (Qfg + 1), a207, k208) [0] ⟨(q3 hM12 (by simp only [Qaj, h1, h22, h25, h28, h31, h199, h201, h221, h256, h258, hR255, cs4])), aM1, aM1, aM1, iv1, iv1, iv1, iv1⟩
    intro h256
    exact absurd h256 (by first | (simp [h199]; done) | (simp only [bne, h199]; decide) | (simp only [bne, h199, Bool.not_true, Bool.not_false]; decide) | (exfalso; omega) | (intro hq; simp only [bne, hq, Bool.not_false, Bool.not_true, reduceCtorEq] at h199))
   intro h201
   refine KS ?_
   refine Oq Va (KS ?_)
   have hterm276 : Qay text ((text.b.getD i_9.toNat 0).toNat : Int) (text.b.length + 1) Qa3 i_9 ≠ LR.oof := (Qei _ _ _ _ _ aM1).1
   refine Kl (γ := Nat × Int × Int) (fun (r268, QdM, Qfh) => ⟨[(0, .string (bs text)), (6, vl a10 k11 Qbf), (7, vi Qau), (8, vi QdM), (10, vi Qfh), (11, .int .u8 ((text.b.getD i_9.toNat 0).toNat : Int)), (9, vb false)], [O a10 k11 Qbf], Qay text ((text.b.getD i_9.toNat 0).toNat : Int) r268 QdM Qfh = Qay text ((text.b.getD i_9.toNat 0).toNat : Int) (text.b.length + 1) Qa3 i_9 /\ (-9223372036854775808 <= QdM /\ QdM <= 9223372036854775807) /\ (-9223372036854775808 <= Qfh /\ Qfh <= 9223372036854775807) /\ (i_9 <= Qfh /\ Qfh <= (text.b.length : Int) /\ Qa3 <= QdM /\ QdM <= Qa3 + (Qfh - i_9)) /\ (((text.b.getD i_9.toNat 0).toNat : Int) = 35 \/ Qfh = i_9), r268⟩) ((text.b.length + 1), Qa3, i_9) [0] ⟨rfl, aM1, aM1, iv0, iv0⟩ ?_
   rintro ⟨r268, QdM, Qfh⟩ ⟨hM271, hk272, hk273, hv274, hv275⟩
   refine Qbt fun _ _ hL hA => ?_; dsimp only at hL hA; subst hL hA
   refine Fb 40 0 fun _ => ?_
   rcases r268 with _ | r268
   ·exact absurd (hM271.symm.trans rfl) hterm276
   refine KS ?_
   refine Oq Vm (Oq QbB (Oq Vm ?_))
   refine Js 56 ?_ ?_
   ·intro h278
    have g279 := eq_of_beq h278
    refine Oq Vm (Oq Vm (Oq (VlS un9 (l := text)) (Oq Qcg (Oq Vpt (Oq Vm ?_)))))
    refine Js 62 ?_ ?_
    ·intro h280
     have g281 := dt h280
     refine Oq Vm (Oq Vm (Oq (Vix un9 (l := text)) ?_))
     have hb282 := u8b (text.b.getD Qfh.toNat 0)
     refine Oq QgE (Oq Vpt (KS ?_))
     refine Kc ?_ ?_
     ·intro h283
      have g284 := QbH h283
      refine KS ?_
      refine Oq Vm (Oq Qbb (Oq Vm (Oq Qbb (Oq Va (Oq Va (KS ?_))))))
      exact Kg (r268, (QdM + 1), (Qfh + 1)) [0] ⟨(q3 hM271 (by simp only [Qay, h1, h22, h25, h28, h31, h199, h201, h278, h280, h283, cs4])), aM1, aM1, iv1, iv1⟩
     intro h283
     have g285 := Qaz h283
     refine Ke ?_
     have hR286 := q2 hM271 (.brk (QdM, Qfh)) (by simp only [Qay, h1, h22, h25, h28, h31, h199, h201, h278, h280, h283, cs4])
     refine KS ?_
     refine Oq Vm (Oq QbB (KS ?_))
     refine Kc ?_ ?_
     ·intro h287
      have g288 := eq_of_beq h287
      refine KS ?_
      refine Oq Vm (Oq Qbb (Oq Vm (Oq Qbb (Oq Va (Oq Va (KS ?_))))))
      refine Oq Vm (Oq Vm (Oq (VlS un9 (l := text)) (Oq Qcg (Oq Vm ?_))))
      refine Js 82 ?_ ?_
      ·intro h289
       have g290 := dt h289
       refine Oq Vm (Oq Vm (Oq (Vix un9 (l := text)) ?_))
       have hb291 := u8b (text.b.getD ((Qfh + 1) : Int).toNat 0)
       refine Oq QbB (Oq Vpt (Oq Vm ?_))
       refine Js 88 ?_ ?_
       ·intro h292
        have g293 := eq_of_beq h292
        refine Oq Vm (Oq QgE (Oq Vpt (KS ?_)))
        refine Kc ?_ ?_
        ·intro h294
         exact absurd h294 (by first | (simp [h287]; done) | (simp only [bne, h287]; decide) | (simp only [bne, h287, Bool.not_true, Bool.not_false]; decide) | (exfalso; omega) | (intro hq; simp only [bne, hq, Bool.not_false, Bool.not_true, reduceCtorEq] at h287))
        intro h294
        have g295 := Qaz h294
        refine KS ?_
        exact Kg (r4, Qbf, Qau, (QdM + 1), false, (Qfh + 1), a10, k11) [0] ⟨(q3 hM12 (by simp only [Qaj, h1, h22, h25, h28, h31, h199, h201, h278, h280, h283, h287, h289, h292, h294, hR286, cs4])), aM1, aM1, aM1, iv1, iv1, iv1, iv1⟩
       intro h292
       have g296 := ne_of_beq_false h292
       refine Osk (Osk (Oq Vpf (KS ?_)))
       refine Kf (KS ?_)
       exact Kg (r4, Qbf, Qau, (QdM + 1), false, (Qfh + 1), a10, k11) [0] ⟨(q3 hM12 (by simp only [Qaj, h1, h22, h25, h28, h31, h199, h201, h278, h280, h283, h287, h289, h292, hR286, cs4])), aM1, aM1, aM1, iv1, iv1, iv1, iv1⟩
      intro h289
      have g297 := df h289
      refine Osk (Osk (Osk (Osk (Oq Vpf (Oq Vm (Osk (Osk (Oq Vpf (KS ?_)))))))))
      refine Kf (KS ?_)
      exact Kg (r4, Qbf, Qau, (QdM + 1), false, (Qfh + 1), a10, k11) [0] ⟨(q3 hM12 (by simp only [Qaj, h1, h22, h25, h28, h31, h199, h201, h278, h280, h283, h287, h289, hR286, cs4])), aM1, aM1, aM1, iv1, iv1, iv1, iv1⟩
     intro h287
     exact absurd h287 (by first | (simp [h199]; done) | (simp only [bne, h199]; decide) | (simp only [bne, h199, Bool.not_true, Bool.not_false]; decide) | (exfalso; omega) | (intro hq; simp only [bne, hq, Bool.not_false, Bool.not_true, reduceCtorEq] at h199))
    intro h280
    have g298 := df h280
    refine Osk (Osk (Osk (Osk (Oq Vpf (KS ?_)))))
    refine Kf ?_
    refine Ke ?_
    have hR299 := q2 hM271 (.brk (QdM, Qfh)) (by simp only [Qay, h1, h22, h25, h28, h31, h199, h201, h278, h280, cs4])
    refine KS ?_
    refine Oq Vm (Oq QbB (KS ?_))
    refine Kc ?_ ?_
    ·intro h300
     have g301 := eq_of_beq h300
     refine KS ?_
     refine Oq Vm (Oq Qbb (Oq Vm (Oq Qbb (Oq Va (Oq Va (KS ?_))))))
     refine Oq Vm (Oq Vm (Oq (VlS un9 (l := text)) (Oq Qcg (Oq Vm ?_))))
     refine Js 82 ?_ ?_
     ·intro h302
      have g303 := dt h302
      refine Oq Vm (Oq Vm (Oq (Vix un9 (l := text)) ?_))
      have hb304 := u8b (text.b.getD ((Qfh + 1) : Int).toNat 0)
      refine Oq QbB (Oq Vpt (Oq Vm ?_))
      refine Js 88 ?_ ?_
      ·intro h305
       have g306 := eq_of_beq h305
       refine Oq Vm (Oq QgE (Oq Vpt (KS ?_)))
       refine Kc ?_ ?_
       ·intro h307
        exact absurd h307 (by first | (simp [h300]; done) | (simp only [bne, h300]; decide) | (simp only [bne, h300, Bool.not_true, Bool.not_false]; decide) | (exfalso; omega) | (intro hq; simp only [bne, hq, Bool.not_false, Bool.not_true, reduceCtorEq] at h300))
       intro h307
       have g308 := Qaz h307
       refine KS ?_
       exact Kg (r4, Qbf, Qau, (QdM + 1), false, (Qfh + 1), a10, k11) [0] ⟨(q3 hM12 (by simp only [Qaj, h1, h22, h25, h28, h31, h199, h201, h278, h280, h300, h302, h305, h307, hR299, cs4])), aM1, aM1, aM1, iv1, iv1, iv1, iv1⟩
      intro h305
      have g309 := ne_of_beq_false h305
      refine Osk (Osk (Oq Vpf (KS ?_)))
      refine Kf (KS ?_)
      exact Kg (r4, Qbf, Qau, (QdM + 1), false, (Qfh + 1), a10, k11) [0] ⟨(q3 hM12 (by simp only [Qaj, h1, h22, h25, h28, h31, h199, h201, h278, h280, h300, h302, h305, hR299, cs4])), aM1, aM1, aM1, iv1, iv1, iv1, iv1⟩
     intro h302
     have g310 := df h302
     refine Osk (Osk (Osk (Osk (Oq Vpf (Oq Vm (Osk (Osk (Oq Vpf (KS ?_)))))))))
     refine Kf (KS ?_)
     exact Kg (r4, Qbf, Qau, (QdM + 1), false, (Qfh + 1), a10, k11) [0] ⟨(q3 hM12 (by simp only [Qaj, h1, h22, h25, h28, h31, h199, h201, h278, h280, h300, h302, hR299, cs4])), aM1, aM1, aM1, iv1, iv1, iv1, iv1⟩
    intro h300
    exact absurd h300 (by first | (simp [h199]; done) | (simp only [bne, h199]; decide) | (simp only [bne, h199, Bool.not_true, Bool.not_false]; decide) | (exfalso; omega) | (intro hq; simp only [bne, hq, Bool.not_false, Bool.not_true, reduceCtorEq] at h199))
   intro h278
   have g311 := ne_of_beq_false h278
   refine Osk (Osk (Osk (Osk (Oq Vpf (Oq Vm (Osk (Osk (Osk (Osk ?_)))))))))
   refine Oq Vpf (KS ?_)
   refine Kf ?_
   refine Ke ?_
   have hR312 := q2 hM271 (.brk (QdM, Qfh)) (by simp only [Qay, h1, h22, h25, h28, h31, h199, h201, h278, cs4])
   refine KS ?_
   refine Oq Vm (Oq QbB (KS ?_))
   refine Kc ?_ ?_
   ·intro h313
    have g314 := eq_of_beq h313
    refine KS ?_
    refine Oq Vm (Oq Qbb (Oq Vm (Oq Qbb (Oq Va (Oq Va (KS ?_))))))
    refine Oq Vm (Oq Vm (Oq (VlS un9 (l := text)) (Oq Qcg (Oq Vm ?_))))
    refine Js 82 ?_ ?_
    ·intro h315
     have g316 := dt h315
     refine Oq Vm (Oq Vm (Oq (Vix un9 (l := text)) ?_))
     have hb317 := u8b (text.b.getD ((Qfh + 1) : Int).toNat 0)
     refine Oq QbB (Oq Vpt (Oq Vm ?_))
     refine Js 88 ?_ ?_
     ·intro h318
      have g319 := eq_of_beq h318
      refine Oq Vm (Oq QgE (Oq Vpt (KS ?_)))
      refine Kc ?_ ?_
      ·intro h320
       exact absurd h320 (by first | (simp [h313]; done) | (simp only [bne, h313]; decide) | (simp only [bne, h313, Bool.not_true, Bool.not_false]; decide) | (exfalso; omega) | (intro hq; simp only [bne, hq, Bool.not_false, Bool.not_true, reduceCtorEq] at h313))
      intro h320
      have g321 := Qaz h320
      refine KS ?_
      exact Kg (r4, Qbf, Qau, (QdM + 1), false, (Qfh + 1), a10, k11) [0] ⟨(q3 hM12 (by simp only [Qaj, h1, h22, h25, h28, h31, h199, h201, h278, h313, h315, h318, h320, hR312, cs4])), aM1, aM1, aM1, iv1, iv1, iv1, iv1⟩
     intro h318
     have g322 := ne_of_beq_false h318
     refine Osk (Osk (Oq Vpf (KS ?_)))
     refine Kf (KS ?_)
     exact Kg (r4, Qbf, Qau, (QdM + 1), false, (Qfh + 1), a10, k11) [0] ⟨(q3 hM12 (by simp only [Qaj, h1, h22, h25, h28, h31, h199, h201, h278, h313, h315, h318, hR312, cs4])), aM1, aM1, aM1, iv1, iv1, iv1, iv1⟩
    intro h315
    have g323 := df h315
    refine Osk (Osk (Osk (Osk (Oq Vpf (Oq Vm (Osk (Osk (Oq Vpf (KS ?_)))))))))
    refine Kf (KS ?_)
    exact Kg (r4, Qbf, Qau, (QdM + 1), false, (Qfh + 1), a10, k11) [0] ⟨(q3 hM12 (by simp only [Qaj, h1, h22, h25, h28, h31, h199, h201, h278, h313, h315, hR312, cs4])), aM1, aM1, aM1, iv1, iv1, iv1, iv1⟩
   intro h313
   exact absurd h313 (by first | (simp [h199]; done) | (simp only [bne, h199]; decide) | (simp only [bne, h199, Bool.not_true, Bool.not_false]; decide) | (exfalso; omega) | (intro hq; simp only [bne, hq, Bool.not_false, Bool.not_true, reduceCtorEq] at h199))
  intro h199
  have g324 := ne_of_beq_false h199
  refine Oq Vm (Oq QbB (Oq Vpf (Oq Va (KS ?_))))
  refine Kc ?_ ?_
  ·intro h325
   have g326 := eq_of_beq h325
   refine KS ?_
   refine Oq Vm (KS ?_)
   refine Kc ?_ ?_
   ·intro h327
    refine KS ?_
    refine Oq Vm (Oq Vm (Oq Vm (Oq (Vbd Qlg [vi 3, .string (bs (Str.mk [])), vi Qau, vi Qa3]) (Oa (AsV QeD QlA [.agg #[vi 3, .string (bs (Str.mk [])), vi Qau, vi Qa3]] [vi 3, .string (bs (Str.mk [])), vi Qau, vi Qa3]) fun c329 => ?_))))
    refine Jo 0 ?_; rintro a330 k331 rfl
    refine Jl [0] (Ent.cr1 (α := Qax) (A := []) _ (Qax.mk 3 (Str.mk []) Qau Qa3) _ aB1 (fun h => ⟨rfl, aL1, aS1, aL1, aL1⟩)) ?_
    refine Oa (ApO [1, 0] QeD QeD QlA) fun c332 => ?_
    refine Jo 0 ?_; rintro a333 k334 rfl
    refine Fb 40 0 fun _ => ?_
    have hn336 := la Qbf ([(Qax.mk 3 (Str.mk []) Qau Qa3)] : List Qax)
    refine Oq Va (KS ?_)
    refine Oq Va (KS ?_)
    have hterm345 : Qay text ((text.b.getD i_9.toNat 0).toNat : Int) (text.b.length + 1) Qa3 i_9 ≠ LR.oof := (Qei _ _ _ _ _ aM1).1
    refine Kl (γ := Nat × Int × Int) (fun (r337, QfX, Qhh) => ⟨[(0, .string (bs text)), (7, vi Qau), (8, vi QfX), (10, vi Qhh), (11, .int .u8 ((text.b.getD i_9.toNat 0).toNat : Int)), (6, vl a333 k334 (Qbf ++ [(Qax.mk 3 (Str.mk []) Qau Qa3)])), (9, vb false)], [O a333 k334 ((Qbf ++ [(Qax.mk 3 (Str.mk []) Qau Qa3)]) : List Qax)], Qay text ((text.b.getD i_9.toNat 0).toNat : Int) r337 QfX Qhh = Qay text ((text.b.getD i_9.toNat 0).toNat : Int) (text.b.length + 1) Qa3 i_9 /\ (-9223372036854775808 <= QfX /\ QfX <= 9223372036854775807) /\ (-9223372036854775808 <= Qhh /\ Qhh <= 9223372036854775807) /\ (i_9 <= Qhh /\ Qhh <= (text.b.length : Int) /\ Qa3 <= QfX /\ QfX <= Qa3 + (Qhh - i_9)) /\ (((text.b.getD i_9.toNat 0).toNat : Int) = 35 \/ Qhh = i_9), r337⟩) ((text.b.length + 1), Qa3, i_9) [0] ⟨rfl, aM1, aM1, iv0, iv0⟩ ?_
    rintro ⟨r337, QfX, Qhh⟩ ⟨hM340, hk341, hk342, hv343, hv344⟩
    refine Qbt fun _ _ hL hA => ?_; dsimp only at hL hA; subst hL hA
    refine Fb 40 0 fun _ => ?_
    rcases r337 with _ | r337
    ·exact absurd (hM340.symm.trans rfl) hterm345
    refine KS ?_
    refine Oq Vm (Oq QbB (Oq Vm ?_))
    refine Js 56 ?_ ?_
    ·intro h347
     have g348 := eq_of_beq h347
     refine Oq Vm (Oq Vm (Oq (VlS un9 (l := text)) (Oq Qcg (Oq Vpt (Oq Vm ?_)))))
     refine Js 62 ?_ ?_
     ·intro h349
      have g350 := dt h349
      refine Oq Vm (Oq Vm (Oq (Vix un9 (l := text)) ?_))
      have hb351 := u8b (text.b.getD Qhh.toNat 0)
      refine Oq QgE (Oq Vpt (KS ?_))
      refine Kc ?_ ?_
      ·intro h352
       have g353 := QbH h352
       refine KS ?_
       refine Oq Vm (Oq Qbb (Oq Vm (Oq Qbb (Oq Va (Oq Va (KS ?_))))))
       exact Kg (r337, (QfX + 1), (Qhh + 1)) [0] ⟨(q3 hM340 (by simp only [Qay, h1, h22, h25, h28, h31, h199, h325, h327, h347, h349, h352, cs4])), aM1, aM1, iv1, iv1⟩
      intro h352
      have g354 := Qaz h352
      refine Ke ?_
      have hR355 := q2 hM340 (.brk (QfX, Qhh)) (by simp only [Qay, h1, h22, h25, h28, h31, h199, h325, h327, h347, h349, h352, cs4])
      refine KS ?_
      refine Oq Vm (Oq QbB (KS ?_))
      refine Kc ?_ ?_
      ·intro h356
       exact absurd h356 (by first | (simp [h199]; done) | (simp only [bne, h199]; decide) | (simp only [bne, h199, Bool.not_true, Bool.not_false]; decide) | (exfalso; omega) | (intro hq; simp only [bne, hq, Bool.not_false, Bool.not_true, reduceCtorEq] at h199))
      intro h356
      have g357 := ne_of_beq_false h356
      refine KS ?_
      refine Oq Vm (Oq Vm (Oq (VlS un9 (l := text)) (Oq Qcg (Oq Vm ?_))))
      refine Js 82 ?_ ?_
      ·intro h358
       have g359 := dt h358
       refine Oq Vm (Oq Vm (Oq (Vix un9 (l := text)) ?_))
       have hb360 := u8b (text.b.getD Qhh.toNat 0)
       refine Oq QbB (Oq Vpt (Oq Vm ?_))
       refine Js 88 ?_ ?_
       ·intro h361
        have g362 := eq_of_beq h361
        refine Oq Vm (Oq QgE (Oq Vpt (KS ?_)))
        refine Kc ?_ ?_
        ·intro h363
         have g364 := QbH h363
         refine KS ?_
         refine Oq Vm (Oq Qbb (Oq Vm (Oq Qbb (Oq Va (Oq Va (Oq Va (KS ?_)))))))
         exact Kg (r4, (Qbf ++ [(Qax.mk 3 (Str.mk []) Qau Qa3)]), (Qau + 1), 1, false, (Qhh + 1), a333, k334) [0] ⟨(q3 hM12 (by simp only [Qaj, h1, h22, h25, h28, h31, h199, h325, h327, h347, h349, h352, h356, h358, h361, h363, hR355, cs4])), aM1, aM1, aM1, iv1, iv1, iv1, iv1⟩
        intro h363
        exact absurd h363 (by first | (simp [h356]; done) | (simp only [bne, h356]; decide) | (simp only [bne, h356, Bool.not_true, Bool.not_false]; decide) | (exfalso; omega) | (intro hq; simp only [bne, hq, Bool.not_false, Bool.not_true, reduceCtorEq] at h356))
       intro h361
       exact absurd h361 (by first | (simp [h352]; done) | (simp only [bne, h352]; decide) | (simp only [bne, h352, Bool.not_true, Bool.not_false]; decide) | (exfalso; omega) | (intro hq; simp only [bne, hq, Bool.not_false, Bool.not_true, reduceCtorEq] at h352))
      intro h358
      exact absurd h358 (by first | (simp [h349]; done) | (simp only [bne, h349]; decide) | (simp only [bne, h349, Bool.not_true, Bool.not_false]; decide) | (exfalso; omega) | (intro hq; simp only [bne, hq, Bool.not_false, Bool.not_true, reduceCtorEq] at h349))
     intro h349
     have g365 := df h349
     refine Osk (Osk (Osk (Osk (Oq Vpf (KS ?_)))))
     refine Kf ?_
     refine Ke ?_
     have hR366 := q2 hM340 (.brk (QfX, Qhh)) (by simp only [Qay, h1, h22, h25, h28, h31, h199, h325, h327, h347, h349, cs4])
     refine KS ?_
     refine Oq Vm (Oq QbB (KS ?_))
     refine Kc ?_ ?_
     ·intro h367
      exact absurd h367 (by first | (simp [h199]; done) | (simp only [bne, h199]; decide) | (simp only [bne, h199, Bool.not_true, Bool.not_false]; decide) | (exfalso; omega) | (intro hq; simp only [bne, hq, Bool.not_false, Bool.not_true, reduceCtorEq] at h199))
     intro h367
     have g368 := ne_of_beq_false h367
     refine KS ?_
     refine Oq Vm (Oq Vm (Oq (VlS un9 (l := text)) (Oq Qcg (Oq Vm ?_))))
     refine Js 82 ?_ ?_
     ·intro h369
      exact absurd h369 (by first | (simp [h349]; done) | (simp only [bne, h349]; decide) | (simp only [bne, h349, Bool.not_true, Bool.not_false]; decide) | (exfalso; omega) | (intro hq; simp only [bne, hq, Bool.not_false, Bool.not_true, reduceCtorEq] at h349))
     intro h369
     have g370 := df h369
     refine Osk (Osk (Osk (Osk (Oq Vpf (Oq Vm (Osk (Osk (Oq Vpf (KS ?_)))))))))
     refine Kf (KS ?_)
     exact Kg (r4, (Qbf ++ [(Qax.mk 3 (Str.mk []) Qau Qa3)]), Qau, QfX, false, Qhh, a333, k334) [0] ⟨(q3 hM12 (by simp only [Qaj, h1, h22, h25, h28, h31, h199, h325, h327, h347, h349, h367, h369, hR366, cs4])), aM1, aM1, aM1, iv1, iv1, iv1, iv1⟩
    intro h347
    exact absurd h347 (by first | (simp [h325]; done) | (simp only [bne, h325]; decide) | (simp only [bne, h325, Bool.not_true, Bool.not_false]; decide) | (exfalso; omega) | (intro hq; simp only [bne, hq, Bool.not_false, Bool.not_true, reduceCtorEq] at h325))
   intro h327
   refine KS ?_
   refine Oq Va (KS ?_)
   have hterm380 : Qay text ((text.b.getD i_9.toNat 0).toNat : Int) (text.b.length + 1) Qa3 i_9 ≠ LR.oof := (Qei _ _ _ _ _ aM1).1
   refine Kl (γ := Nat × Int × Int) (fun (r372, QfY, Qhi) => ⟨[(0, .string (bs text)), (6, vl a10 k11 Qbf), (7, vi Qau), (8, vi QfY), (10, vi Qhi), (11, .int .u8 ((text.b.getD i_9.toNat 0).toNat : Int)), (9, vb false)], [O a10 k11 Qbf], Qay text ((text.b.getD i_9.toNat 0).toNat : Int) r372 QfY Qhi = Qay text ((text.b.getD i_9.toNat 0).toNat : Int) (text.b.length + 1) Qa3 i_9 /\ (-9223372036854775808 <= QfY /\ QfY <= 9223372036854775807) /\ (-9223372036854775808 <= Qhi /\ Qhi <= 9223372036854775807) /\ (i_9 <= Qhi /\ Qhi <= (text.b.length : Int) /\ Qa3 <= QfY /\ QfY <= Qa3 + (Qhi - i_9)) /\ (((text.b.getD i_9.toNat 0).toNat : Int) = 35 \/ Qhi = i_9), r372⟩) ((text.b.length + 1), Qa3, i_9) [0] ⟨rfl, aM1, aM1, iv0, iv0⟩ ?_
   rintro ⟨r372, QfY, Qhi⟩ ⟨hM375, hk376, hk377, hv378, hv379⟩
   refine Qbt fun _ _ hL hA => ?_; dsimp only at hL hA; subst hL hA
   refine Fb 40 0 fun _ => ?_
   rcases r372 with _ | r372
   ·exact absurd (hM375.symm.trans rfl) hterm380
   refine KS ?_
   refine Oq Vm (Oq QbB (Oq Vm ?_))
   refine Js 56 ?_ ?_
   ·intro h382
    have g383 := eq_of_beq h382
    refine Oq Vm (Oq Vm (Oq (VlS un9 (l := text)) (Oq Qcg (Oq Vpt (Oq Vm ?_)))))
    refine Js 62 ?_ ?_
    ·intro h384
     have g385 := dt h384
     refine Oq Vm (Oq Vm (Oq (Vix un9 (l := text)) ?_))
     have hb386 := u8b (text.b.getD Qhi.toNat 0)
     refine Oq QgE (Oq Vpt (KS ?_))
     refine Kc ?_ ?_
     ·intro h387
      have g388 := QbH h387
      refine KS ?_
      refine Oq Vm (Oq Qbb (Oq Vm (Oq Qbb (Oq Va (Oq Va (KS ?_))))))
      exact Kg (r372, (QfY + 1), (Qhi + 1)) [0] ⟨(q3 hM375 (by simp only [Qay, h1, h22, h25, h28, h31, h199, h325, h327, h382, h384, h387, cs4])), aM1, aM1, iv1, iv1⟩
     intro h387
     have g389 := Qaz h387
     refine Ke ?_
     have hR390 := q2 hM375 (.brk (QfY, Qhi)) (by simp only [Qay, h1, h22, h25, h28, h31, h199, h325, h327, h382, h384, h387, cs4])
     refine KS ?_
     refine Oq Vm (Oq QbB (KS ?_))
     refine Kc ?_ ?_
     ·intro h391
      exact absurd h391 (by first | (simp [h199]; done) | (simp only [bne, h199]; decide) | (simp only [bne, h199, Bool.not_true, Bool.not_false]; decide) | (exfalso; omega) | (intro hq; simp only [bne, hq, Bool.not_false, Bool.not_true, reduceCtorEq] at h199))
     intro h391
     have g392 := ne_of_beq_false h391
     refine KS ?_
     refine Oq Vm (Oq Vm (Oq (VlS un9 (l := text)) (Oq Qcg (Oq Vm ?_))))
     refine Js 82 ?_ ?_
     ·intro h393
      have g394 := dt h393
      refine Oq Vm (Oq Vm (Oq (Vix un9 (l := text)) ?_))
      have hb395 := u8b (text.b.getD Qhi.toNat 0)
      refine Oq QbB (Oq Vpt (Oq Vm ?_))
      refine Js 88 ?_ ?_
      ·intro h396
       have g397 := eq_of_beq h396
       refine Oq Vm (Oq QgE (Oq Vpt (KS ?_)))
       refine Kc ?_ ?_
       ·intro h398
        have g399 := QbH h398
        refine KS ?_
        refine Oq Vm (Oq Qbb (Oq Vm (Oq Qbb (Oq Va (Oq Va (Oq Va (KS ?_)))))))
        exact Kg (r4, Qbf, (Qau + 1), 1, false, (Qhi + 1), a10, k11) [0] ⟨(q3 hM12 (by simp only [Qaj, h1, h22, h25, h28, h31, h199, h325, h327, h382, h384, h387, h391, h393, h396, h398, hR390, cs4])), aM1, aM1, aM1, iv1, iv1, iv1, iv1⟩
       intro h398
       exact absurd h398 (by first | (simp [h391]; done) | (simp only [bne, h391]; decide) | (simp only [bne, h391, Bool.not_true, Bool.not_false]; decide) | (exfalso; omega) | (intro hq; simp only [bne, hq, Bool.not_false, Bool.not_true, reduceCtorEq] at h391))
      intro h396
      exact absurd h396 (by first | (simp [h387]; done) | (simp only [bne, h387]; decide) | (simp only [bne, h387, Bool.not_true, Bool.not_false]; decide) | (exfalso; omega) | (intro hq; simp only [bne, hq, Bool.not_false, Bool.not_true, reduceCtorEq] at h387))
     intro h393
     exact absurd h393 (by first | (simp [h384]; done) | (simp only [bne, h384]; decide) | (simp only [bne, h384, Bool.not_true, Bool.not_false]; decide) | (exfalso; omega) | (intro hq; simp only [bne, hq, Bool.not_false, Bool.not_true, reduceCtorEq] at h384))
    intro h384
    have g400 := df h384
    refine Osk (Osk (Osk (Osk (Oq Vpf (KS ?_)))))
    refine Kf ?_
    refine Ke ?_
    have hR401 := q2 hM375 (.brk (QfY, Qhi)) (by simp only [Qay, h1, h22, h25, h28, h31, h199, h325, h327, h382, h384, cs4])
    refine KS ?_
    refine Oq Vm (Oq QbB (KS ?_))
    refine Kc ?_ ?_
    ·intro h402
     exact absurd h402 (by first | (simp [h199]; done) | (simp only [bne, h199]; decide) | (simp only [bne, h199, Bool.not_true, Bool.not_false]; decide) | (exfalso; omega) | (intro hq; simp only [bne, hq, Bool.not_false, Bool.not_true, reduceCtorEq] at h199))
    intro h402
    have g403 := ne_of_beq_false h402
    refine KS ?_
    refine Oq Vm (Oq Vm (Oq (VlS un9 (l := text)) (Oq Qcg (Oq Vm ?_))))
    refine Js 82 ?_ ?_
    ·intro h404
     exact absurd h404 (by first | (simp [h384]; done) | (simp only [bne, h384]; decide) | (simp only [bne, h384, Bool.not_true, Bool.not_false]; decide) | (exfalso; omega) | (intro hq; simp only [bne, hq, Bool.not_false, Bool.not_true, reduceCtorEq] at h384))
    intro h404
    have g405 := df h404
    refine Osk (Osk (Osk (Osk (Oq Vpf (Oq Vm (Osk (Osk (Oq Vpf (KS ?_)))))))))
    refine Kf (KS ?_)
    exact Kg (r4, Qbf, Qau, QfY, false, Qhi, a10, k11) [0] ⟨(q3 hM12 (by simp only [Qaj, h1, h22, h25, h28, h31, h199, h325, h327, h382, h384, h402, h404, hR401, cs4])), aM1, aM1, aM1, iv1, iv1, iv1, iv1⟩
   intro h382
   exact absurd h382 (by first | (simp [h325]; done) | (simp only [bne, h325]; decide) | (simp only [bne, h325, Bool.not_true, Bool.not_false]; decide) | (exfalso; omega) | (intro hq; simp only [bne, hq, Bool.not_false, Bool.not_true, reduceCtorEq] at h325))
  intro h325
  have g406 := ne_of_beq_false h325
  refine KS ?_
  refine Oq Vm (Oq QbB (Oq Va (KS ?_)))
  refine Kc ?_ ?_
  ·intro h407
   have g408 := eq_of_beq h407
   refine KS ?_
   refine Oq Vm (Oq Vm (Oq Vm (Oq (Vbd Qlg [vi 2, .string (bs (Str.mk [61])), vi Qau, vi Qa3]) (Oa (AsV QeD QlA [.agg #[vi 2, .string (bs (Str.mk [61])), vi Qau, vi Qa3]] [vi 2, .string (bs (Str.mk [61])), vi Qau, vi Qa3]) fun c409 => ?_))))
   refine Jo 0 ?_; rintro a410 k411 rfl
   refine Jl [0] (Ent.cr1 (α := Qax) (A := []) _ (Qax.mk 2 (Str.mk [61]) Qau Qa3) _ aB1 (fun h => ⟨rfl, aL1, aS1, aL1, aL1⟩)) ?_
   refine Oa (ApO [1, 0] QeD QeD QlA) fun c412 => ?_
   refine Jo 0 ?_; rintro a413 k414 rfl
   refine Fb 40 0 fun _ => ?_
   have hn416 := la Qbf ([(Qax.mk 2 (Str.mk [61]) Qau Qa3)] : List Qax)
   refine Oq Va (KS ?_)
   refine Oq Vm (Oq Qbb (Oq Vm (Oq Qbb (Oq Va (Oq Va (Oq Va (KS ?_)))))))
   exact Kg (r4, (Qbf ++ [(Qax.mk 2 (Str.mk [61]) Qau Qa3)]), Qau, (Qa3 + 1), true, (i_9 + 1), a413, k414) [0] ⟨(q3 hM12 (by simp only [Qaj, h1, h22, h25, h28, h31, h199, h325, h407, cs4])), aM1, aM1, aM1, iv1, iv1, iv1, iv1⟩
  intro h407
  have g417 := ne_of_beq_false h407
  refine KS ?_
  refine Oq Vm ?_
  refine QaK (QbG ((text.b.getD i_9.toNat 0).toNat : Int)) fun rv418 hg419 => ?_
  have hc420 := Qrf (((text.b.getD i_9.toNat 0).toNat : Int)) pre rv418 hg419
  refine Oc [] QqZ hc420 ?_
  rintro - -
  refine Oq Vm ?_
  refine Js 112 ?_ ?_
  ·intro h421
   refine Osk (Osk (Oq Vpt (Oq Va (KS ?_))))
   refine Kt (KS ?_)
   refine Oq Va (KS ?_)
   have hterm428 : Qbv text i_9 (text.b.length + 1) 0 ≠ LR.oof := (Qgl _ _ _ _ aM1).1
   refine Kl (γ := Nat × Int) (fun (r423, Qef) => ⟨[(0, .string (bs text)), (6, vl a10 k11 Qbf), (7, vi Qau), (8, vi Qa3), (10, vi i_9), (11, .int .u8 ((text.b.getD i_9.toNat 0).toNat : Int)), (12, vi Qef)], [O a10 k11 Qbf], Qbv text i_9 r423 Qef = Qbv text i_9 (text.b.length + 1) 0 /\ (-9223372036854775808 <= Qef /\ Qef <= 9223372036854775807) /\ (0 <= Qef /\ i_9 + Qef <= (text.b.length : Int)), r423⟩) ((text.b.length + 1), 0) [0] ⟨rfl, aM1, iv0⟩ ?_
   rintro ⟨r423, Qef⟩ ⟨hM425, hk426, hv427⟩
   refine Qbt fun _ _ hL hA => ?_; dsimp only at hL hA; subst hL hA
   refine Fb 40 0 fun _ => ?_
   rcases r423 with _ | r423
   ·exact absurd (hM425.symm.trans rfl) hterm428
   refine KS ?_
   refine Oq Vm (Oq Vm (Oq Qbb (Oq Vm (Oq (VlS un9 (l := text)) (Oq Qcg (Oq Vm ?_))))))
   refine Js 122 ?_ ?_
   ·intro h430
    have g431 := dt h430
    refine Oq Vm (Oq Vm (Oq Vm (Oq Qbb (Oq (Vix un9 (l := text)) ?_))))
    have hb432 := u8b (text.b.getD ((i_9 + Qef) : Int).toNat 0)
    refine QaK (QbG ((text.b.getD ((i_9 + Qef) : Int).toNat 0).toNat : Int)) fun rv433 hg434 => ?_
    have hc435 := Qrf (((text.b.getD ((i_9 + Qef) : Int).toNat 0).toNat : Int)) pre rv433 hg434
    refine Oc [] QqZ hc435 ?_
    rintro - -
    refine Oq Vm ?_
    refine Js 129 ?_ ?_
    ·intro h436
     refine Osk (Osk (Osk (Osk (Osk (Osk (Oq Vpt (Oq Vpt (KS ?_))))))))
     refine Kt (KS ?_)
     refine Oq Vm (Oq Qbb (Oq Va (KS ?_)))
     exact Kg (r423, (Qef + 1)) [0] ⟨(q3 hM425 (by simp only [Qbv, h1, h22, h25, h28, h31, h199, h325, h407, h421, h430, h436, hg419, hg434, cs4])), aM1, iv1⟩
    intro h436
    refine Oq Vm (Oq Vm (Oq Vm (Oq Qbb (Oq (Vix un9 (l := text)) ?_))))
    have hb439 := u8b (text.b.getD ((i_9 + Qef) : Int).toNat 0)
    refine QaK (Qdz ((text.b.getD ((i_9 + Qef) : Int).toNat 0).toNat : Int)) fun rv440 hg441 => ?_
    have hc442 := Qoj (((text.b.getD ((i_9 + Qef) : Int).toNat 0).toNat : Int)) pre rv440 hg441
    refine Oc [] QoR hc442 ?_
    rintro - -
    refine Oq Vpf (Oq Vpt (KS ?_))
    refine Kc ?_ ?_
    ·intro h443
     refine KS ?_
     refine Oq Vm (Oq Qbb (Oq Va (KS ?_)))
     exact Kg (r423, (Qef + 1)) [0] ⟨(q3 hM425 (by simp only [Qbv, h1, h22, h25, h28, h31, h199, h325, h407, h421, h430, h436, h443, hg419, hg434, hg441, cs4])), aM1, iv1⟩
    intro h443
    refine Ke ?_
    have hR446 := q2 hM425 (.brk Qef) (by simp only [Qbv, h1, h22, h25, h28, h31, h199, h325, h407, h421, h430, h436, h443, hg419, hg434, hg441, cs4])
    refine KS ?_
    refine Oq Vm ?_
    refine QaK (Qdz ((text.b.getD i_9.toNat 0).toNat : Int)) fun rv447 hg448 => ?_
    have hc449 := Qoj (((text.b.getD i_9.toNat 0).toNat : Int)) pre rv447 hg448
    refine Oc [] QoR hc449 ?_
    rintro - -
    refine KS ?_
    refine Kc ?_ ?_
    ·intro h450
     refine KS ?_
     refine Oq Vm (Oq Vm (Oq Va (Oq Va (Oq Va (Oq Va (KS ?_))))))
     refine Jl [] (Ent.slNil (α := Qax)) ?_
     have hR452 := q2 hM12 (.ret (([] : List Qax), Qau, Qa3, 4)) (by simp only [Qaj, h1, h22, h25, h28, h31, h199, h325, h407, h421, h430, h436, h443, h450, hg419, hg434, hg441, hR446, hg448, cs4])
     have hq := q4 hrr (([] : List Qax), Qau, Qa3, 4) (by simp only [QeX, h1, h22, h25, h28, h31, h199, h325, h407, h421, h430, h436, h443, h450, hg419, hg434, hg441, hR446, hg448, hR452, cs4]); subst hq
     exact Kr (.slice none 0 0) rfl (.tmp rfl (.tmp rfl (.tmp rfl (.tmp rfl .nil)))) [0] en
    intro h450
    refine KS ?_
    refine Oq Vm (Oq Qih (KS ?_))
    refine Kc ?_ ?_
    ·intro h454
     have g455 := dt h454
     refine KS ?_
     refine Oq Vm (Oq Vm (Oq Va (Oq Va (Oq Va (Oq Va (KS ?_))))))
     refine Jl [] (Ent.slNil (α := Qax)) ?_
     have hR456 := q2 hM12 (.ret (([] : List Qax), Qau, Qa3, 7)) (by simp only [Qaj, h1, h22, h25, h28, h31, h199, h325, h407, h421, h430, h436, h443, h450, h454, hg419, hg434, hg441, hR446, hg448, cs4])
     have hq := q4 hrr (([] : List Qax), Qau, Qa3, 7) (by simp only [QeX, h1, h22, h25, h28, h31, h199, h325, h407, h421, h430, h436, h443, h450, h454, hg419, hg434, hg441, hR446, hg448, hR456, cs4]); subst hq
     exact Kr (.slice none 0 0) rfl (.tmp rfl (.tmp rfl (.tmp rfl (.tmp rfl .nil)))) [0] en
    intro h454
    have g457 := df h454
    refine KS ?_
    refine Oq Vm (Oq Vm (Oq Vm (Oq Vm (Oq Vm (Oq Qbb (Oq (Qt1 un9 (l := text)) ?_))))))
    have hb458 := Qls text i_9.toNat ((i_9 + Qef) : Int).toNat
    refine Oq Vm (Oq Vm (Oq (Vbd Qlg [vi 1, .string (bs (text.sub i_9.toNat ((i_9 + Qef) : Int).toNat)), vi Qau, vi Qa3]) (Oa (AsV QeD QlA [.agg #[vi 1, .string (bs (text.sub i_9.toNat ((i_9 + Qef) : Int).toNat)), vi Qau, vi Qa3]] [vi 1, .string (bs (text.sub i_9.toNat ((i_9 + Qef) : Int).toNat)), vi Qau, vi Qa3]) fun c459 => ?_)))
    refine Jo 0 ?_; rintro a460 k461 rfl
    refine Jl [0] (Ent.cr1 (α := Qax) (A := []) _ (Qax.mk 1 (text.sub i_9.toNat ((i_9 + Qef) : Int).toNat) Qau Qa3) _ aB1 (fun h => ⟨rfl, aL1, aS1, aL1, aL1⟩)) ?_
    refine Oa (ApO [1, 0] QeD QeD QlA) fun c462 => ?_
    refine Jo 0 ?_; rintro a463 k464 rfl
    refine Fb 40 0 fun _ => ?_
    have hn466 := la Qbf ([(Qax.mk 1 (text.sub i_9.toNat ((i_9 + Qef) : Int).toNat) Qau Qa3)] : List Qax)
    refine Oq Va (KS ?_)
    refine Oq Vm (Oq Vm (Oq Qbb (Oq Vm (Oq Vm (Oq Qbb (Oq Va (Oq Va (Oq Va (KS ?_)))))))))
    exact Kg (r4, (Qbf ++ [(Qax.mk 1 (text.sub i_9.toNat ((i_9 + Qef) : Int).toNat) Qau Qa3)]), Qau, (Qa3 + Qef), true, (i_9 + Qef), a463, k464) [0] ⟨(q3 hM12 (by simp only [Qaj, h1, h22, h25, h28, h31, h199, h325, h407, h421, h430, h436, h443, h450, h454, hg419, hg434, hg441, hR446, hg448, cs4])), aM1, aM1, aM1, iv1, iv1, iv1, iv1⟩
   intro h430
   have g467 := df h430
   refine Osk (Osk (Osk (Osk (Osk (Osk (Osk (Osk (Osk (Osk ?_)))))))))
   refine Osk (Osk (Osk (Osk (Oq Vpf (KS ?_)))))
   refine Kf ?_
   refine Ke ?_
   have hR468 := q2 hM425 (.brk Qef) (by simp only [Qbv, h1, h22, h25, h28, h31, h199, h325, h407, h421, h430, hg419, cs4])
   refine KS ?_
   refine Oq Vm ?_
   refine QaK (Qdz ((text.b.getD i_9.toNat 0).toNat : Int)) fun rv469 hg470 => ?_
   have hc471 := Qoj (((text.b.getD i_9.toNat 0).toNat : Int)) pre rv469 hg470
   refine Oc [] QoR hc471 ?_
   rintro - -
   refine KS ?_
   refine Kc ?_ ?_
   ·intro h472
    refine KS ?_
    refine Oq Vm (Oq Vm (Oq Va (Oq Va (Oq Va (Oq Va (KS ?_))))))
    refine Jl [] (Ent.slNil (α := Qax)) ?_
    have hR474 := q2 hM12 (.ret (([] : List Qax), Qau, Qa3, 4)) (by simp only [Qaj, h1, h22, h25, h28, h31, h199, h325, h407, h421, h430, h472, hg419, hR468, hg470, cs4])
    have hq := q4 hrr (([] : List Qax), Qau, Qa3, 4) (by simp only [QeX, h1, h22, h25, h28, h31, h199, h325, h407, h421, h430, h472, hg419, hR468, hg470, hR474, cs4]); subst hq
    exact Kr (.slice none 0 0) rfl (.tmp rfl (.tmp rfl (.tmp rfl (.tmp rfl .nil)))) [0] en
   intro h472
   refine KS ?_
   refine Oq Vm (Oq Qih (KS ?_))
   refine Kc ?_ ?_
   ·intro h476
    have g477 := dt h476
    refine KS ?_
    refine Oq Vm (Oq Vm (Oq Va (Oq Va (Oq Va (Oq Va (KS ?_))))))
    refine Jl [] (Ent.slNil (α := Qax)) ?_
    have hR478 := q2 hM12 (.ret (([] : List Qax), Qau, Qa3, 7)) (by simp only [Qaj, h1, h22, h25, h28, h31, h199, h325, h407, h421, h430, h472, h476, hg419, hR468, hg470, cs4])
    have hq := q4 hrr (([] : List Qax), Qau, Qa3, 7) (by simp only [QeX, h1, h22, h25, h28, h31, h199, h325, h407, h421, h430, h472, h476, hg419, hR468, hg470, hR478, cs4]); subst hq
    exact Kr (.slice none 0 0) rfl (.tmp rfl (.tmp rfl (.tmp rfl (.tmp rfl .nil)))) [0] en
   intro h476
   have g479 := df h476
   refine KS ?_
   refine Oq Vm (Oq Vm (Oq Vm (Oq Vm (Oq Vm (Oq Qbb (Oq (Qt1 un9 (l := text)) ?_))))))
   have hb480 := Qls text i_9.toNat ((i_9 + Qef) : Int).toNat
   refine Oq Vm (Oq Vm (Oq (Vbd Qlg [vi 1, .string (bs (text.sub i_9.toNat ((i_9 + Qef) : Int).toNat)), vi Qau, vi Qa3]) (Oa (AsV QeD QlA [.agg #[vi 1, .string (bs (text.sub i_9.toNat ((i_9 + Qef) : Int).toNat)), vi Qau, vi Qa3]] [vi 1, .string (bs (text.sub i_9.toNat ((i_9 + Qef) : Int).toNat)), vi Qau, vi Qa3]) fun c481 => ?_)))
   refine Jo 0 ?_; rintro a482 k483 rfl
   refine Jl [0] (Ent.cr1 (α := Qax) (A := []) _ (Qax.mk 1 (text.sub i_9.toNat ((i_9 + Qef) : Int).toNat) Qau Qa3) _ aB1 (fun h => ⟨rfl, aL1, aS1, aL1, aL1⟩)) ?_
   refine Oa (ApO [1, 0] QeD QeD QlA) fun c484 => ?_
   refine Jo 0 ?_; rintro a485 k486 rfl
   refine Fb 40 0 fun _ => ?_
   have hn488 := la Qbf ([(Qax.mk 1 (text.sub i_9.toNat ((i_9 + Qef) : Int).toNat) Qau Qa3)] : List Qax)
   refine Oq Va (KS ?_)
   refine Oq Vm (Oq Vm (Oq Qbb (Oq Vm (Oq Vm (Oq Qbb (Oq Va (Oq Va (Oq Va (KS ?_)))))))))
   exact Kg (r4, (Qbf ++ [(Qax.mk 1 (text.sub i_9.toNat ((i_9 + Qef) : Int).toNat) Qau Qa3)]), Qau, (Qa3 + Qef), true, (i_9 + Qef), a485, k486) [0] ⟨(q3 hM12 (by simp only [Qaj, h1, h22, h25, h28, h31, h199, h325, h407, h421, h430, h472, h476, hg419, hR468, hg470, cs4])), aM1, aM1, aM1, iv1, iv1, iv1, iv1⟩
  intro h421
  refine Oq Vm ?_
  refine QaK (Qdz ((text.b.getD i_9.toNat 0).toNat : Int)) fun rv490 hg491 => ?_
  have hc492 := Qoj (((text.b.getD i_9.toNat 0).toNat : Int)) pre rv490 hg491
  refine Oc [] QoR hc492 ?_
  rintro - -
  refine Oq Vpf (Oq Va (KS ?_))
  refine Kc ?_ ?_
  ·intro h493
   refine KS ?_
   refine Oq Va (KS ?_)
   have hterm500 : Qbv text i_9 (text.b.length + 1) 0 ≠ LR.oof := (Qgl _ _ _ _ aM1).1
   refine Kl (γ := Nat × Int) (fun (r495, Qg3) => ⟨[(0, .string (bs text)), (6, vl a10 k11 Qbf), (7, vi Qau), (8, vi Qa3), (10, vi i_9), (11, .int .u8 ((text.b.getD i_9.toNat 0).toNat : Int)), (12, vi Qg3)], [O a10 k11 Qbf], Qbv text i_9 r495 Qg3 = Qbv text i_9 (text.b.length + 1) 0 /\ (-9223372036854775808 <= Qg3 /\ Qg3 <= 9223372036854775807) /\ (0 <= Qg3 /\ i_9 + Qg3 <= (text.b.length : Int)), r495⟩) ((text.b.length + 1), 0) [0] ⟨rfl, aM1, iv0⟩ ?_
   rintro ⟨r495, Qg3⟩ ⟨hM497, hk498, hv499⟩
   refine Qbt fun _ _ hL hA => ?_; dsimp only at hL hA; subst hL hA
   refine Fb 40 0 fun _ => ?_
   rcases r495 with _ | r495
   ·exact absurd (hM497.symm.trans rfl) hterm500
   refine KS ?_
   refine Oq Vm (Oq Vm (Oq Qbb (Oq Vm (Oq (VlS un9 (l := text)) (Oq Qcg (Oq Vm ?_))))))
   refine Js 122 ?_ ?_
   ·intro h502
    have g503 := dt h502
    refine Oq Vm (Oq Vm (Oq Vm (Oq Qbb (Oq (Vix un9 (l := text)) ?_))))
    have hb504 := u8b (text.b.getD ((i_9 + Qg3) : Int).toNat 0)
    refine QaK (QbG ((text.b.getD ((i_9 + Qg3) : Int).toNat 0).toNat : Int)) fun rv505 hg506 => ?_
    have hc507 := Qrf (((text.b.getD ((i_9 + Qg3) : Int).toNat 0).toNat : Int)) pre rv505 hg506
    refine Oc [] QqZ hc507 ?_
    rintro - -
    refine Oq Vm ?_
    refine Js 129 ?_ ?_
    ·intro h508
     refine Osk (Osk (Osk (Osk (Osk (Osk (Oq Vpt (Oq Vpt (KS ?_))))))))
     refine Kt (KS ?_)
     refine Oq Vm (Oq Qbb (Oq Va (KS ?_)))
     exact Kg (r495, (Qg3 + 1)) [0] ⟨(q3 hM497 (by simp only [Qbv, h1, h22, h25, h28, h31, h199, h325, h407, h421, h493, h502, h508, hg419, hg491, hg506, cs4])), aM1, iv1⟩
    intro h508
    refine Oq Vm (Oq Vm (Oq Vm (Oq Qbb (Oq (Vix un9 (l := text)) ?_))))
    have hb511 := u8b (text.b.getD ((i_9 + Qg3) : Int).toNat 0)
    refine QaK (Qdz ((text.b.getD ((i_9 + Qg3) : Int).toNat 0).toNat : Int)) fun rv512 hg513 => ?_
    have hc514 := Qoj (((text.b.getD ((i_9 + Qg3) : Int).toNat 0).toNat : Int)) pre rv512 hg513
    refine Oc [] QoR hc514 ?_
    rintro - -
    refine Oq Vpf (Oq Vpt (KS ?_))
    refine Kc ?_ ?_
    ·intro h515
     refine KS ?_
     refine Oq Vm (Oq Qbb (Oq Va (KS ?_)))
     exact Kg (r495, (Qg3 + 1)) [0] ⟨(q3 hM497 (by simp only [Qbv, h1, h22, h25, h28, h31, h199, h325, h407, h421, h493, h502, h508, h515, hg419, hg491, hg506, hg513, cs4])), aM1, iv1⟩
    intro h515
    refine Ke ?_
    have hR518 := q2 hM497 (.brk Qg3) (by simp only [Qbv, h1, h22, h25, h28, h31, h199, h325, h407, h421, h493, h502, h508, h515, hg419, hg491, hg506, hg513, cs4])
    refine KS ?_
    refine Oq Vm ?_
    have hc519 := Qoj (((text.b.getD i_9.toNat 0).toNat : Int)) pre rv490 hg491
    refine Oc [] QoR hc519 ?_
    rintro - -
    refine KS ?_
    refine Kc ?_ ?_
    ·intro h520
     refine KS ?_
     refine Oq Vm (Oq Vm (Oq Va (Oq Va (Oq Va (Oq Va (KS ?_))))))
     refine Jl [] (Ent.slNil (α := Qax)) ?_
     have hR522 := q2 hM12 (.ret (([] : List Qax), Qau, Qa3, 4)) (by simp only [Qaj, h1, h22, h25, h28, h31, h199, h325, h407, h421, h493, h502, h508, h515, h520, hg419, hg491, hg506, hg513, hR518, cs4])
     have hq := q4 hrr (([] : List Qax), Qau, Qa3, 4) (by simp only [QeX, h1, h22, h25, h28, h31, h199, h325, h407, h421, h493, h502, h508, h515, h520, hg419, hg491, hg506, hg513, hR518, hR522, cs4]); subst hq
     exact Kr (.slice none 0 0) rfl (.tmp rfl (.tmp rfl (.tmp rfl (.tmp rfl .nil)))) [0] en
    intro h520
    exact absurd h520 (by first | (simp [h493]; done) | (simp only [bne, h493]; decide) | (simp only [bne, h493, Bool.not_true, Bool.not_false]; decide) | (exfalso; omega) | (intro hq; simp only [bne, hq, Bool.not_false, Bool.not_true, reduceCtorEq] at h493))
   intro h502
   have g523 := df h502
   refine Osk (Osk (Osk (Osk (Osk (Osk (Osk (Osk (Osk (Osk ?_)))))))))
   refine Osk (Osk (Osk (Osk (Oq Vpf (KS ?_)))))
   refine Kf ?_
   refine Ke ?_
   have hR524 := q2 hM497 (.brk Qg3) (by simp only [Qbv, h1, h22, h25, h28, h31, h199, h325, h407, h421, h493, h502, hg419, hg491, cs4])
   refine KS ?_
   refine Oq Vm ?_
   have hc525 := Qoj (((text.b.getD i_9.toNat 0).toNat : Int)) pre rv490 hg491
   refine Oc [] QoR hc525 ?_
   rintro - -
   refine KS ?_
   refine Kc ?_ ?_
   ·intro h526
    refine KS ?_
    refine Oq Vm (Oq Vm (Oq Va (Oq Va (Oq Va (Oq Va (KS ?_))))))
    refine Jl [] (Ent.slNil (α := Qax)) ?_
    have hR528 := q2 hM12 (.ret (([] : List Qax), Qau, Qa3, 4)) (by simp only [Qaj, h1, h22, h25, h28, h31, h199, h325, h407, h421, h493, h502, h526, hg419, hg491, hR524, cs4])
    have hq := q4 hrr (([] : List Qax), Qau, Qa3, 4) (by simp only [QeX, h1, h22, h25, h28, h31, h199, h325, h407, h421, h493, h502, h526, hg419, hg491, hR524, hR528, cs4]); subst hq
    exact Kr (.slice none 0 0) rfl (.tmp rfl (.tmp rfl (.tmp rfl (.tmp rfl .nil)))) [0] en
   intro h526
   exact absurd h526 (by first | (simp [h493]; done) | (simp only [bne, h493]; decide) | (simp only [bne, h493, Bool.not_true, Bool.not_false]; decide) | (exfalso; omega) | (intro hq; simp only [bne, hq, Bool.not_false, Bool.not_true, reduceCtorEq] at h493))
  intro h493
  refine KS ?_
  refine Oq Vm (Oq Vm (Oq Va (Oq Va (Oq Va (Oq Va (KS ?_))))))
  refine Jl [] (Ent.slNil (α := Qax)) ?_
  have hR530 := q2 hM12 (.ret (([] : List Qax), Qau, Qa3, 4)) (by simp only [Qaj, h1, h22, h25, h28, h31, h199, h325, h407, h421, h493, hg419, hg491, cs4])
  have hq := q4 hrr (([] : List Qax), Qau, Qa3, 4) (by simp only [QeX, h1, h22, h25, h28, h31, h199, h325, h407, h421, h493, hg419, hg491, hR530, cs4]); subst hq
  exact Kr (.slice none 0 0) rfl (.tmp rfl (.tmp rfl (.tmp rfl (.tmp rfl .nil)))) [0] en
 intro h22
 have g531 := df h22
 refine Ke ?_
 have hR532 := q2 hM12 (.brk (Qbf, Qau, Qa3, open__8)) (by simp only [Qaj, h1, h22, cs4])
 refine KS ?_
 refine Oq Vm (KS ?_)
 refine Kc ?_ ?_
 ·intro h533
  refine KS ?_
  refine Oq Vm (Oq Vm (Oq Vm (Oq (Vbd Qlg [vi 3, .string (bs (Str.mk [])), vi Qau, vi Qa3]) (Oa (AsV QeD QlA [.agg #[vi 3, .string (bs (Str.mk [])), vi Qau, vi Qa3]] [vi 3, .string (bs (Str.mk [])), vi Qau, vi Qa3]) fun c535 => ?_))))
  refine Jo 0 ?_; rintro a536 k537 rfl
  refine Jl [0] (Ent.cr1 (α := Qax) (A := []) _ (Qax.mk 3 (Str.mk []) Qau Qa3) _ aB1 (fun h => ⟨rfl, aL1, aS1, aL1, aL1⟩)) ?_
  refine Oa (ApO [1, 0] QeD QeD QlA) fun c538 => ?_
  refine Jo 0 ?_; rintro a539 k540 rfl
  refine Fb 40 0 fun _ => ?_
  have hn542 := la Qbf ([(Qax.mk 3 (Str.mk []) Qau Qa3)] : List Qax)
  refine Oq Va (KS ?_)
  refine Oq Vm (Oq Va (Oq Va (Oq Va (Oq Va (KS ?_)))))
  refine Jl [0] (Ent.freeze _ _) ?_
  have hq := q4 hrr ((Qbf ++ [(Qax.mk 3 (Str.mk []) Qau Qa3)]), 0, 0, 0) (by simp only [QeX, h1, h22, h533, hR532, cs4]); subst hq
  exact Kr (vl a539 k540 (Qbf ++ [(Qax.mk 3 (Str.mk []) Qau Qa3)])) rfl (.tmp rfl (.tmp rfl (.tmp rfl (.tmp rfl .nil)))) [0] en
 intro h533
 refine KS ?_
 refine Oq Vm (Oq Va (Oq Va (Oq Va (Oq Va (KS ?_)))))
 refine Jl [0] (Ent.freeze _ _) ?_
 have hq := q4 hrr (Qbf, 0, 0, 0) (by simp only [QeX, h1, h22, h533, hR532, cs4]); subst hq
 exact Kr (vl a10 k11 Qbf) rfl (.tmp rfl (.tmp rfl (.tmp rfl (.tmp rfl .nil)))) [0] en
theorem Qom (pP : Value) (p : Qab) (pa0 : Option Addr) (pk0 : Nat) (word : Str) (QiA : Qac p.at_) (QiB : Qac p.Err) (QtW : word.b.length <= 140737488355328) (hpa : (0 <= p.at_ /\ p.at_ <= (p.l.length : Int))) (rr : Bool) (hrr : Qeh p word = rr) : FT Tryz.prog 52 #[pP, .string (bs word)] [Cl pP [vl pa0 pk0 p.l, vi p.at_, vi p.Err], S pa0 pk0 p.l] (fun g : Unit => True) (fun g => vb rr) (fun g => [Cl pP [vl pa0 pk0 p.l, vi p.at_, vi p.Err]]) := by
 refine FTi Tryz.func52 fun w0 M0 F0 => ?_
 unfold Qac at QiA QiB
 refine Fb 40 1 fun _ => KS ?_
 refine Oq Va (KS ?_)
 refine Jp 0 fun hp2 => ?_
 refine Qbl (p.Err == 0) ?_ ?_
 ·intro h3
  have g4 := eq_of_beq h3
  refine Qbl (decide (p.at_ < (p.l.length : Int))) ?_ ?_
  ·intro h5
   have g6 := dt h5
   refine QbO p.at_.toNat 2 rfl rng fun hb7 hb8 hb9 hb10 => ?_
   unfold Qac at hb7 hb9 hb10
   refine Kq [0, 1, 3, 7, 15, 31, 63, 127, 255, 511, 63, 1087, 3135, 7231, 15423, 32767, 65535, 131071, 262143, 524287, 1048575, 2097151, 262143, 4456447, 12845055, 29622271, 67108863, 134217727, 268435455, 536870911, 1073741823, 2147483647, 4294967295, 8589934591, 17179869183, 34359738367, 4294967295, 73014444031, 210453397503, 485331304447, 1099511627775, 2199023255551, 4398046511103, 4294967295, 17592186044415, 35184372088831, 70368744177663] Qcz ?_
   refine Qv [] Vm (Qv [1] (Vn 0) (Qv [1] (Vfa Qbz 0) (Qv [2] (QaV Qf9 0) (Qb h3 [] QbB (Qv [] Vm (Qv [] Vm (Qv [1] (Vn 0) (Qv [1] (Vfa Qbj 0) (Qv [2] (QaV sh3 0) ?_)))))))))
   refine Qv [] Vm (Qv [1] (Vn 0) (Qv [1] (Vfa Qe3 0) (Qv [2] (QaV Ql3 0) (Qv [] (Qcn QeD) (Qb h5 [] Qcg (Qv [] Vpt (Qv [] Vm (Qv [] Vm (Qv [1] (Vn 0) ?_)))))))))
   refine Qv [1] (Vfa Qe3 0) (Qv [2] (QaV Ql3 0) (Qv [] Vm (Qv [1] (Vn 0) (Qv [1] (Vfa Qbj 0) (Qv [2] (QaV sh3 0) (Qv [3] (Vi QeD 0) (Qv [0] (Vfa Qll 0) (Qv [0] (QaV sh3 0) (Qv [] QbB ?_)))))))))
   refine Qv [] Vpt ?_
   refine Qbl ((p.l.getD p.at_.toNat default).Kind == 1) ?_ ?_
   ·intro h11
    have g12 := eq_of_beq h11
    refine Qb h11 [] Vm (Qv [] Vm (Qv [1] (Vn 0) (Qv [1] (Vfa Qe3 0) (Qv [2] (QaV Ql3 0) (Qv [] Vm (Qv [1] (Vn 0) (Qv [1] (Vfa Qbj 0) (Qv [2] (QaV sh3 0) (Qv [3] (Vi QeD 0) ?_)))))))))
    refine Qv [0] (Vfa Qkk 0) (Qv [0] (QaV sh9 0) (Qv [] Vm (Qv [] (Qh3 (l := (p.l.getD p.at_.toNat default).Text) (m := word)) (Qv [] Vpt (Qv [] Va ?_)))))
    refine Qn ⟨by kernel_rfl, ?_⟩
    have hq := q4 hrr ((p.l.getD p.at_.toNat default).Text == word) (by simp only [Qeh, h3, h5, h11, cs4]); subst hq
    exact Kr () rfl (.tmp rfl .nil) [2] trivial
   intro h11
   have g13 := ne_of_beq_false h11
   refine Qb h11 [] Vm (Qs (Qs (Qs (Qs (Qs (Qs (Qs (Qs (Qs ?_)))))))))
   refine Qs (Qs (Qs (Qs (Qv [] Vpf (Qv [] Va ?_)))))
   refine Qn ⟨by kernel_rfl, ?_⟩
   have hq := q4 hrr false (by simp only [Qeh, h3, h5, h11, cs4]); subst hq
   exact Kr () rfl (.tmp rfl .nil) [2] trivial
  intro h5
  have g14 := df h5
  refine Kq [0, 1, 3, 7, 15, 31, 63, 127, 255, 511, 63, 1087, 3135, 7231, 15423, 32767, 65535, 131071, 262143, 524287, 1048575, 2097151, 262143, 4456447, 12845055, 29622271, 67108863, 134217727, 268435455, 536870911, 1073741823, 2147483647, 4294967295, 8589934591, 17179869183, 34359738367, 4294967295, 73014444031, 210453397503, 485331304447, 1099511627775, 2199023255551, 4398046511103, 4294967295, 17592186044415, 35184372088831, 70368744177663] Qcz ?_
  refine Qv [] Vm (Qv [0] (Vn 0) (Qv [0] (Vfa Qbz 0) (Qv [1] (QaV Qf9 0) (Qb h3 [] QbB (Qv [] Vm (Qv [] Vm (Qv [0] (Vn 0) (Qv [0] (Vfa Qbj 0) (Qv [1] (QaV sh3 0) ?_)))))))))
  refine Qv [] Vm (Qv [0] (Vn 0) (Qv [0] (Vfa Qe3 0) (Qv [1] (QaV Ql3 0) (Qv [] (Qcn QeD) (Qb h5 [] Qcg (Qv [] Vpt (Qv [] Vm (Qs (Qs ?_)))))))))
  refine Qs (Qs (Qs (Qs (Qs (Qs (Qs (Qs (Qs (Qs ?_)))))))))
  refine Qv [] Vpf (Qv [] Vm (Qs (Qs (Qs (Qs (Qs (Qs (Qs (Qs ?_)))))))))
  refine Qs (Qs (Qs (Qs (Qs (Qv [] Vpf (Qv [] Va ?_))))))
  refine Qn ⟨by kernel_rfl, ?_⟩
  have hq := q4 hrr false (by simp only [Qeh, h3, h5, cs4]); subst hq
  exact Kr () rfl (.tmp rfl .nil) [1] trivial
 intro h3
 have g15 := ne_of_beq_false h3
 refine Kq [0, 1, 3, 7, 15, 31, 63, 127, 255, 511, 63, 1087, 3135, 7231, 15423, 32767, 65535, 131071, 262143, 524287, 1048575, 2097151, 262143, 4456447, 12845055, 29622271, 67108863, 134217727, 268435455, 536870911, 1073741823, 2147483647, 4294967295, 8589934591, 17179869183, 34359738367, 4294967295, 73014444031, 210453397503, 485331304447, 1099511627775, 2199023255551, 4398046511103, 4294967295, 17592186044415, 35184372088831, 70368744177663] Qcz ?_
 refine Qv [] Vm (Qv [0] (Vn 0) (Qv [0] (Vfa Qbz 0) (Qv [1] (QaV Qf9 0) (Qb h3 [] QbB (Qv [] Vm (Qs (Qs (Qs (Qs ?_)))))))))
 refine Qs (Qs (Qs (Qs (Qs (Qs (Qv [] Vpf (Qv [] Vm (Qs (Qs ?_)))))))))
 refine Qs (Qs (Qs (Qs (Qs (Qs (Qs (Qs (Qs (Qs ?_)))))))))
 refine Qv [] Vpf (Qv [] Vm (Qs (Qs (Qs (Qs (Qs (Qs (Qs (Qs ?_)))))))))
 refine Qs (Qs (Qs (Qs (Qs (Qv [] Vpf (Qv [] Va ?_))))))
 refine Qn ⟨by kernel_rfl, ?_⟩
 have hq := q4 hrr false (by simp only [Qeh, h3, cs4]); subst hq
 exact Kr () rfl (.tmp rfl .nil) [1] trivial
theorem QjI (pP : Value) (p : Qab) (pa0 : Option Addr) (pk0 : Nat) (e : Int) (QiA : Qac p.at_) (QiB : Qac p.Err) (QvW : Qac e) (hpa : (0 <= p.at_ /\ p.at_ <= (p.l.length : Int))) (rr : Qab) (hrr : QbD p e = rr) : FT Tryz.prog 53 #[pP, vi e] [Cl pP [vl pa0 pk0 p.l, vi p.at_, vi p.Err], S pa0 pk0 p.l] (fun g : Unit => Qac rr.at_ /\ Qac rr.Err /\ (0 <= rr.at_ /\ rr.at_ <= (p.l.length : Int))) (fun g => .tuple #[]) (fun g => [Cl pP [vl pa0 pk0 p.l, vi rr.at_, vi rr.Err]]) := by
 refine FTi Tryz.func53 fun w0 M0 F0 => ?_
 unfold Qac at QiA QiB QvW
 refine Fb 40 1 fun _ => KS ?_
 refine Oq Vm (Oq (Vn 0) (Oq (Vfa Qbz 0) (Oq (QaV Qf9 0) (Oq QbB (KS ?_)))))
 refine Kc ?_ ?_
 ·intro h2
  have g3 := eq_of_beq h2
  refine KS ?_
  refine Oq Vm (Oq Vm (Oq (Vn 0) (Oq (Vfa Qbz 0) (Ost (QfJ [0] Qf9 [vl pa0 pk0 p.l, vi p.at_, vi e]) (KS ?_)))))
  have hq := q4 hrr (Qab.mk p.l p.at_ e) (by simp only [QbD, h2, cs4]); subst hq
  exact Kz () rfl .nil [0] en
 intro h2
 have g4 := ne_of_beq_false h2
 refine KS ?_
 have hq := q4 hrr p (by simp only [QbD, h2, cs4]); subst hq
 exact Kz () rfl .nil [0] en
theorem Qr9 (pP : Value) (p : Qab) (pa0 : Option Addr) (pk0 : Nat) (w : Str) (QiA : Qac p.at_) (QiB : Qac p.Err) (QvZ : w.b.length <= 140737488355328) (hpa : (0 <= p.at_ /\ p.at_ <= (p.l.length : Int))) (rr : Qab) (hrr : QcQ p w = rr) : FT Tryz.prog 84 #[pP, .string (bs w)] [Cl pP [vl pa0 pk0 p.l, vi p.at_, vi p.Err], S pa0 pk0 p.l] (fun g : Unit => Qac rr.at_ /\ Qac rr.Err /\ (0 <= rr.at_ /\ rr.at_ <= (p.l.length : Int))) (fun g => .tuple #[]) (fun g => [Cl pP [vl pa0 pk0 p.l, vi rr.at_, vi rr.Err]]) := by
 refine FTi Tryz.func84 fun w0 M0 F0 => ?_
 unfold Qac at QiA QiB
 refine Fb 40 1 fun _ => KS ?_
 refine Oq Vm (Oq Vm ?_)
 refine QaK (Qeh p w) fun rv2 hg3 => ?_
 have hc4 := Qom pP p pa0 pk0 w pre pre pre pre rv2 hg3
 refine Oc [0, 0] QoD hc4 ?_
 rintro - -
 refine Oq QeT (KS ?_)
 refine Kc ?_ ?_
 ·intro h5
  have h7 := not_true h5
  refine KS ?_
  refine Oq Vm ?_
  refine QaK (QbD p 4) fun rv9 hg10 => ?_
  have hc11 := QjI pP p pa0 pk0 4 pre pre pre pre rv9 hg10
  refine Oc [0, 0] QjJ hc11 ?_
  rintro - ⟨he12, he13, he14⟩
  unfold Qac at he12 he13
  refine KS ?_
  have hq := q4 hrr (Qab.mk p.l rv9.at_ rv9.Err) (by simp only [QcQ, h5, h7, hg3, hg10, cs4]); subst hq
  exact Kr () rfl .nil [0] en
 intro h5
 have h16 := not_false h5
 try (have hlt := Qjz (by assumption : Qeh _ _ = rv2) h16; try dsimp only at hlt)
 try (have hlt := QfK (by assumption : Qbs _ = rv2) h16; try dsimp only at hlt)
 try (have hlt := QfL (by assumption : Qb3 _ _ = rv2) h16; try dsimp only at hlt)
 refine KS ?_
 refine Oq Vm (Oq (Vn 0) (Oq (Vfa Qbj 0) (Oq (QaV sh3 0) (Oq Qbb (Oq (Vn 0) (Oq (Vfa Qbj 0) (Ost (QfJ [0] sh3 [vl pa0 pk0 p.l, vi (p.at_ + 1), vi p.Err]) (KS ?_))))))))
 have hq := q4 hrr (Qab.mk p.l (p.at_ + 1) p.Err) (by simp only [QcQ, h5, h16, hg3, cs4]); subst hq
 exact Kz () rfl .nil [0] en
theorem QsN  (rr : List Str) (hrr : Qb5 = rr) : FT Tryz.prog 136 #[] [] (fun g : Value => True) (fun g => g) (fun g => [sl g rr]) := by
 refine FTi Tryz.func136 fun w0 M0 F0 => ?_
 refine KS ?_
 refine Oq Va (KS ?_)
 refine Oa (AsV QcS Qgh [.string (bs (Str.mk [102, 117, 110, 99])), .string (bs (Str.mk [98, 108, 111, 99, 107])), .string (bs (Str.mk [101, 110, 100])), .string (bs (Str.mk [117, 115, 101])), .string (bs (Str.mk [99, 97, 108, 108])), .string (bs (Str.mk [115, 111, 117, 114, 99, 101])), .string (bs (Str.mk [115, 105, 110, 107])), .string (bs (Str.mk [115, 97, 110, 105, 116, 105, 122, 101])), .string (bs (Str.mk [103, 111, 116, 111])), .string (bs (Str.mk [98, 114, 97, 110, 99, 104])), .string (bs (Str.mk [114, 101, 116, 117, 114, 110]))] [.string (bs (Str.mk [102, 117, 110, 99])), .string (bs (Str.mk [98, 108, 111, 99, 107])), .string (bs (Str.mk [101, 110, 100])), .string (bs (Str.mk [117, 115, 101])), .string (bs (Str.mk [99, 97, 108, 108])), .string (bs (Str.mk [115, 111, 117, 114, 99, 101])), .string (bs (Str.mk [115, 105, 110, 107])), .string (bs (Str.mk [115, 97, 110, 105, 116, 105, 122, 101])), .string (bs (Str.mk [103, 111, 116, 111])), .string (bs (Str.mk [98, 114, 97, 110, 99, 104])), .string (bs (Str.mk [114, 101, 116, 117, 114, 110]))]) fun c1 => ?_
 refine Jo 0 ?_; rintro a2 k3 rfl
 refine Oq Va (KS ?_)
 refine Jl [0] (Ent.crOs (α := Str) (A := []) _ ([(Str.mk [102, 117, 110, 99]), (Str.mk [98, 108, 111, 99, 107]), (Str.mk [101, 110, 100]), (Str.mk [117, 115, 101]), (Str.mk [99, 97, 108, 108]), (Str.mk [115, 111, 117, 114, 99, 101]), (Str.mk [115, 105, 110, 107]), (Str.mk [115, 97, 110, 105, 116, 105, 122, 101]), (Str.mk [103, 111, 116, 111]), (Str.mk [98, 114, 97, 110, 99, 104]), (Str.mk [114, 101, 116, 117, 114, 110])] : List Str) _ aB1 (fun h => ⟨[.string (bs (Str.mk [102, 117, 110, 99]))], [.string (bs (Str.mk [98, 108, 111, 99, 107])), .string (bs (Str.mk [101, 110, 100])), .string (bs (Str.mk [117, 115, 101])), .string (bs (Str.mk [99, 97, 108, 108])), .string (bs (Str.mk [115, 111, 117, 114, 99, 101])), .string (bs (Str.mk [115, 105, 110, 107])), .string (bs (Str.mk [115, 97, 110, 105, 116, 105, 122, 101])), .string (bs (Str.mk [103, 111, 116, 111])), .string (bs (Str.mk [98, 114, 97, 110, 99, 104])), .string (bs (Str.mk [114, 101, 116, 117, 114, 110]))], rfl, (fun _ => ⟨rfl, by first | omega | (simp; done) | (dsimp only; omega) | exact QeC rfl⟩) h, ⟨[.string (bs (Str.mk [98, 108, 111, 99, 107]))], [.string (bs (Str.mk [101, 110, 100])), .string (bs (Str.mk [117, 115, 101])), .string (bs (Str.mk [99, 97, 108, 108])), .string (bs (Str.mk [115, 111, 117, 114, 99, 101])), .string (bs (Str.mk [115, 105, 110, 107])), .string (bs (Str.mk [115, 97, 110, 105, 116, 105, 122, 101])), .string (bs (Str.mk [103, 111, 116, 111])), .string (bs (Str.mk [98, 114, 97, 110, 99, 104])), .string (bs (Str.mk [114, 101, 116, 117, 114, 110]))], rfl, (fun _ => ⟨rfl, by first | omega | (simp; done) | (dsimp only; omega) | exact QeC rfl⟩) h, ⟨[.string (bs (Str.mk [101, 110, 100]))], [.string (bs (Str.mk [117, 115, 101])), .string (bs (Str.mk [99, 97, 108, 108])), .string (bs (Str.mk [115, 111, 117, 114, 99, 101])), .string (bs (Str.mk [115, 105, 110, 107])), .string (bs (Str.mk [115, 97, 110, 105, 116, 105, 122, 101])), .string (bs (Str.mk [103, 111, 116, 111])), .string (bs (Str.mk [98, 114, 97, 110, 99, 104])), .string (bs (Str.mk [114, 101, 116, 117, 114, 110]))], rfl, (fun _ => ⟨rfl, by first | omega | (simp; done) | (dsimp only; omega) | exact QeC rfl⟩) h, ⟨[.string (bs (Str.mk [117, 115, 101]))], [.string (bs (Str.mk [99, 97, 108, 108])), .string (bs (Str.mk [115, 111, 117, 114, 99, 101])), .string (bs (Str.mk [115, 105, 110, 107])), .string (bs (Str.mk [115, 97, 110, 105, 116, 105, 122, 101])), .string (bs (Str.mk [103, 111, 116, 111])), .string (bs (Str.mk [98, 114, 97, 110, 99, 104])), .string (bs (Str.mk [114, 101, 116, 117, 114, 110]))], rfl, (fun _ => ⟨rfl, by first | omega | (simp; done) | (dsimp only; omega) | exact QeC rfl⟩) h, ⟨[.string (bs (Str.mk [99, 97, 108, 108]))], [.string (bs (Str.mk [115, 111, 117, 114, 99, 101])), .string (bs (Str.mk [115, 105, 110, 107])), .string (bs (Str.mk [115, 97, 110, 105, 116, 105, 122, 101])), .string (bs (Str.mk [103, 111, 116, 111])), .string (bs (Str.mk [98, 114, 97, 110, 99, 104])), .string (bs (Str.mk [114, 101, 116, 117, 114, 110]))], rfl, (fun _ => ⟨rfl, by first | omega | (simp; done) | (dsimp only; omega) | exact QeC rfl⟩) h, ⟨[.string (bs (Str.mk [115, 111, 117, 114, 99, 101]))], [.string (bs (Str.mk [115, 105, 110, 107])), .string (bs (Str.mk [115, 97, 110, 105, 116, 105, 122, 101])), .string (bs (Str.mk [103, 111, 116, 111])), .string (bs (Str.mk [98, 114, 97, 110, 99, 104])), .string (bs (Str.mk [114, 101, 116, 117, 114, 110]))], rfl, (fun _ => ⟨rfl, by first | omega | (simp; done) | (dsimp only; omega) | exact QeC rfl⟩) h, ⟨[.string (bs (Str.mk [115, 105, 110, 107]))], [.string (bs (Str.mk [115, 97, 110, 105, 116, 105, 122, 101])), .string (bs (Str.mk [103, 111, 116, 111])), .string (bs (Str.mk [98, 114, 97, 110, 99, 104])), .string (bs (Str.mk [114, 101, 116, 117, 114, 110]))], rfl, (fun _ => ⟨rfl, by first | omega | (simp; done) | (dsimp only; omega) | exact QeC rfl⟩) h, ⟨[.string (bs (Str.mk [115, 97, 110, 105, 116, 105, 122, 101]))], [.string (bs (Str.mk [103, 111, 116, 111])), .string (bs (Str.mk [98, 114, 97, 110, 99, 104])), .string (bs (Str.mk [114, 101, 116, 117, 114, 110]))], rfl, (fun _ => ⟨rfl, by first | omega | (simp; done) | (dsimp only; omega) | exact QeC rfl⟩) h, ⟨[.string (bs (Str.mk [103, 111, 116, 111]))], [.string (bs (Str.mk [98, 114, 97, 110, 99, 104])), .string (bs (Str.mk [114, 101, 116, 117, 114, 110]))], rfl, (fun _ => ⟨rfl, by first | omega | (simp; done) | (dsimp only; omega) | exact QeC rfl⟩) h, ⟨[.string (bs (Str.mk [98, 114, 97, 110, 99, 104]))], [.string (bs (Str.mk [114, 101, 116, 117, 114, 110]))], rfl, (fun _ => ⟨rfl, by first | omega | (simp; done) | (dsimp only; omega) | exact QeC rfl⟩) h, ⟨[.string (bs (Str.mk [114, 101, 116, 117, 114, 110]))], [], rfl, (fun _ => ⟨rfl, by first | omega | (simp; done) | (dsimp only; omega) | exact QeC rfl⟩) h, rfl⟩⟩⟩⟩⟩⟩⟩⟩⟩⟩⟩)) ?_
 refine Jl [0] (Ent.freeze _ _) ?_
 have hq := q4 hrr [(Str.mk [102, 117, 110, 99]), (Str.mk [98, 108, 111, 99, 107]), (Str.mk [101, 110, 100]), (Str.mk [117, 115, 101]), (Str.mk [99, 97, 108, 108]), (Str.mk [115, 111, 117, 114, 99, 101]), (Str.mk [115, 105, 110, 107]), (Str.mk [115, 97, 110, 105, 116, 105, 122, 101]), (Str.mk [103, 111, 116, 111]), (Str.mk [98, 114, 97, 110, 99, 104]), (Str.mk [114, 101, 116, 117, 114, 110])] (by simp only [Qb5, cs4]); subst hq
 exact Kr (.slice a2 11 k3) rfl (.tmp rfl .nil) [0] trivial
theorem Qsp (s : Str) (Qk1 : s.b.length <= 140737488355328) (rr : Bool) (hrr : Qbm s = rr) : FT Tryz.prog 114 #[.string (bs s)] [] (fun g : Unit => True) (fun g => vb rr) (fun g => []) := by
 refine FTi Tryz.func114 fun w0 M0 F0 => ?_
 refine KS ?_
 refine Oq Va (KS ?_)
 refine Oq Vm (Oq (VlS un9 (l := s)) (Oq QbB (Oq Vm ?_)))
 refine Js 9 ?_ ?_
 ·intro h1
  have g2 := eq_of_beq h1
  refine Osk (Osk (Osk (Oq Vpt (Oq Vm (Osk (Osk (Osk (Osk (Oq Vpt ?_)))))))))
  refine Oq Vm (Osk (Osk (Osk (Oq Vpt (KS ?_)))))
  refine Kt (KS ?_)
  refine Oq Va (KS ?_)
  have hq := q4 hrr false (by simp only [Qbm, h1, cs4]); subst hq
  exact Kr () rfl (.tmp rfl .nil) [] trivial
 intro h1
 have g3 := ne_of_beq_false h1
 refine Oq Vm (Oq (VlS un9 (l := s)) (Oq Qih (Oq Vpf (Oq Vm ?_))))
 refine Js 14 ?_ ?_
 ·intro h4
  have g5 := dt h4
  refine Osk (Osk (Osk (Osk (Oq Vpt (Oq Vm (Osk (Osk (Osk (Oq Vpt ?_)))))))))
  refine KS ?_
  refine Kt (KS ?_)
  refine Oq Va (KS ?_)
  have hq := q4 hrr false (by simp only [Qbm, h1, h4, cs4]); subst hq
  exact Kr () rfl (.tmp rfl .nil) [] trivial
 intro h4
 have g6 := df h4
 refine Oq Vm (Oq (Vix un9 (l := s)) ?_)
 have hb7 := u8b (s.b.getD (0 : Int).toNat 0)
 refine QaK (QbG ((s.b.getD (0 : Int).toNat 0).toNat : Int)) fun rv8 hg9 => ?_
 have hc10 := Qrf (((s.b.getD (0 : Int).toNat 0).toNat : Int)) pre rv8 hg9
 refine Oc [] QqZ hc10 ?_
 rintro - -
 refine Oq QeT (Oq Vpf (Oq Vm ?_))
 refine Js 20 ?_ ?_
 ·intro h11
  have h13 := not_true h11
  refine Osk (Osk (Osk (Oq Vpt (KS ?_))))
  refine Kt (KS ?_)
  refine Oq Va (KS ?_)
  have hq := q4 hrr false (by simp only [Qbm, h1, h4, h11, h13, hg9, cs4]); subst hq
  exact Kr () rfl (.tmp rfl .nil) [] trivial
 intro h11
 have h16 := not_false h11
 refine Oq Vm (Oq (Vix un9 (l := s)) ?_)
 have hb18 := u8b (s.b.getD (0 : Int).toNat 0)
 refine Oq QbB (Oq Vpf (KS ?_))
 refine Kc ?_ ?_
 ·intro h19
  have g20 := eq_of_beq h19
  refine KS ?_
  refine Oq Va (KS ?_)
  have hq := q4 hrr false (by simp only [Qbm, h1, h4, h11, h16, h19, hg9, cs4]); subst hq
  exact Kr () rfl (.tmp rfl .nil) [] trivial
 intro h19
 have g21 := ne_of_beq_false h19
 refine KS ?_
 refine Oq Va (KS ?_)
 refine Kl (γ := Nat × Int) (fun (r22, Qk2) => ⟨[(0, .string (bs s)), (3, vi Qk2)], [], Qcj s r22 Qk2 = Qcj s (((s.b.length : Int) - 0).toNat) 0 /\ r22 = ((s.b.length : Int) - Qk2).toNat /\ (0 : Int) <= Qk2 /\ Qk2 <= (s.b.length : Int) /\ (-9223372036854775808 <= Qk2 /\ Qk2 <= 9223372036854775807), r22⟩) (((s.b.length : Int) - 0).toNat, 0) [] ⟨rfl, rfl, aM1, aM1, aM1⟩ ?_
 rintro ⟨r22, Qk2⟩ ⟨hM24, hr25, hi26, hi27, hk28⟩
 refine Qbt fun _ _ hL hA => ?_; dsimp only at hL hA; subst hL hA
 refine KS ?_
 refine Oq Vm (Oq Vm (Oq (VlS un9 (l := s)) (Oq Qcg (KS ?_))))
 refine Kc ?_ ?_
 ·intro h29
  have g30 := dt h29
  obtain ⟨r31, rfl⟩ := scc (n := r22) aM1
  refine KS ?_
  refine Oq Vm (Oq Vm (Oq (Vix un9 (l := s)) ?_))
  have hb32 := u8b (s.b.getD Qk2.toNat 0)
  refine QaK (QbG ((s.b.getD Qk2.toNat 0).toNat : Int)) fun rv33 hg34 => ?_
  have hc35 := Qrf (((s.b.getD Qk2.toNat 0).toNat : Int)) pre rv33 hg34
  refine Oc [] QqZ hc35 ?_
  rintro - -
  refine Oq QeT (Oq Vm ?_)
  refine Js 36 ?_ ?_
  ·intro h36
   have h38 := not_true h36
   refine Oq Vm (Oq Vm (Oq (Vix un9 (l := s)) ?_))
   have hb40 := u8b (s.b.getD Qk2.toNat 0)
   refine QaK (Qdz ((s.b.getD Qk2.toNat 0).toNat : Int)) fun rv41 hg42 => ?_
   have hc43 := Qoj (((s.b.getD Qk2.toNat 0).toNat : Int)) pre rv41 hg42
   refine Oc [] QoR hc43 ?_
   rintro - -
   refine Oq QeT (Oq Vpt (KS ?_))
   refine Kc ?_ ?_
   ·intro h44
    have h46 := not_true h44
    refine KS ?_
    refine Oq Va (KS ?_)
    have hR48 := q2 hM24 (.ret false) (by simp only [Qcj, h1, h4, h11, h16, h19, h29, h36, h38, h44, h46, hg9, hg34, hg42, cs4])
    have hq := q4 hrr false (by simp only [Qbm, h1, h4, h11, h16, h19, h29, h36, h38, h44, h46, hg9, hg34, hg42, hR48, cs4]); subst hq
    exact Kr () rfl (.tmp rfl .nil) [] trivial
   intro h44
   have h50 := not_false h44
   refine KS ?_
   refine Oq Vm (Oq Qbb (Oq Va (KS ?_)))
   exact Kg (r31, (Qk2 + 1)) [] ⟨(q3 hM24 (by simp only [Qcj, h1, h4, h11, h16, h19, h29, h36, h38, h44, h50, hg9, hg34, hg42, cs4])), aM1, aM1, aM1, aM1⟩
  intro h36
  have h53 := not_false h36
  refine Osk (Osk (Osk (Osk (Osk (Oq Vpf (KS ?_))))))
  refine Kf (KS ?_)
  refine Oq Vm (Oq Qbb (Oq Va (KS ?_)))
  exact Kg (r31, (Qk2 + 1)) [] ⟨(q3 hM24 (by simp only [Qcj, h1, h4, h11, h16, h19, h29, h36, h53, hg9, hg34, cs4])), aM1, aM1, aM1, aM1⟩
 intro h29
 have g55 := df h29
 obtain rfl : r22 = 0 := by omega
 refine Ke ?_
 have hR56 := q2 hM24 (.brk ()) (by simp only [Qcj, h1, h4, h11, h16, h19, h29, hg9, cs4])
 refine KS ?_
 have hc58 := QsN  Qb5 rfl
 refine Oc [] Qsn hc58 ?_
 rintro c57 -
 refine Jo 0 ?_; rintro a59 k60 rfl
 refine Fb 16 0 fun _ => ?_
 refine FoS 0 fun ho62 => ?_
 refine Oq Va (KS ?_)
 refine Oq Va (KS ?_)
 refine Kl (γ := Nat × Int) (fun (r63, Qno) => ⟨[(0, .string (bs s)), (4, vl a59 k60 Qb5), (5, vi Qno)], [S a59 k60 Qb5], QcF s r63 Qno = QcF s (((Qb5.length : Int) - 0).toNat) 0 /\ r63 = ((Qb5.length : Int) - Qno).toNat /\ (0 : Int) <= Qno /\ Qno <= (Qb5.length : Int) /\ (-9223372036854775808 <= Qno /\ Qno <= 9223372036854775807), r63⟩) (((Qb5.length : Int) - 0).toNat, 0) [0] ⟨rfl, rfl, aM1, aM1, aM1⟩ ?_
 rintro ⟨r63, Qno⟩ ⟨hM65, hr66, hi67, hi68, hk69⟩
 refine Qbt fun _ _ hL hA => ?_; dsimp only at hL hA; subst hL hA
 refine Fb 16 0 fun _ => ?_
 refine FoS 0 fun ho71 => ?_
 refine KS ?_
 refine Oq Vm (Oq Vm (Oq (Qcn QcS) (Oq Qcg (KS ?_))))
 refine Kc ?_ ?_
 ·intro h72
  have g73 := dt h72
  obtain ⟨r74, rfl⟩ := scc (n := r63) aM1
  refine KS ?_
  refine Oq Vm (Oq Vm (Oq (Vi QcS 0) ?_))
  have hb75 := okS (i := Qno.toNat) ho71 rng
  refine Oq (QnK sh9 0) (Oq Vm (Oq (Qh3 (l := (Qb5.getD Qno.toNat default)) (m := s)) (KS ?_)))
  refine Kc ?_ ?_
  ·intro h76
   have g77 := eq_of_beq h76
   refine KS ?_
   refine Oq Va (KS ?_)
   have hR78 := q2 hM65 (.ret false) (by simp only [QcF, h1, h4, h11, h16, h19, h29, h72, h76, hg9, hR56, cs4])
   have hq := q4 hrr false (by simp only [Qbm, h1, h4, h11, h16, h19, h29, h72, h76, hg9, hR56, hR78, cs4]); subst hq
   exact Kr () rfl (.tmp rfl .nil) [] trivial
  intro h76
  have g79 := ne_of_beq_false h76
  refine KS ?_
  refine Oq Vm (Oq Qbb (Oq Va (KS ?_)))
  exact Kg (r74, (Qno + 1)) [0] ⟨(q3 hM65 (by simp only [QcF, h1, h4, h11, h16, h19, h29, h72, h76, hg9, hR56, cs4])), aM1, aM1, aM1, aM1⟩
 intro h72
 have g80 := df h72
 obtain rfl : r63 = 0 := by omega
 refine Ke ?_
 have hR81 := q2 hM65 (.brk ()) (by simp only [QcF, h1, h4, h11, h16, h19, h29, h72, hg9, hR56, cs4])
 refine KS ?_
 refine Oq Va (KS ?_)
 have hq := q4 hrr true (by simp only [Qbm, h1, h4, h11, h16, h19, h29, h72, hg9, hR56, hR81, cs4]); subst hq
 exact Kr () rfl (.tmp rfl .nil) [] trivial
theorem Qnf (pP : Value) (p : Qab) (pa0 : Option Addr) (pk0 : Nat) (QiA : Qac p.at_) (QiB : Qac p.Err) (hpa : (0 <= p.at_ /\ p.at_ <= (p.l.length : Int))) (rr : Bool) (hrr : Qbs p = rr) : FT Tryz.prog 118 #[pP] [Cl pP [vl pa0 pk0 p.l, vi p.at_, vi p.Err], S pa0 pk0 p.l] (fun g : Unit => True) (fun g => vb rr) (fun g => [Cl pP [vl pa0 pk0 p.l, vi p.at_, vi p.Err]]) := by
 refine FTi Tryz.func118 fun w0 M0 F0 => ?_
 unfold Qac at QiA QiB
 refine Fb 40 1 fun _ => KS ?_
 refine Oq Va (KS ?_)
 refine Jp 0 fun hp2 => ?_
 refine Qbl (p.Err == 0) ?_ ?_
 ·intro h3
  have g4 := eq_of_beq h3
  refine Qbl (decide (p.at_ < (p.l.length : Int))) ?_ ?_
  ·intro h5
   have g6 := dt h5
   refine QbO p.at_.toNat 2 rfl rng fun hb7 hb8 hb9 hb10 => ?_
   unfold Qac at hb7 hb9 hb10
   refine Qat [0, 1, 3, 7, 15, 31, 63, 127, 255, 511, 63, 1087, 3135, 7231, 15423, 32767, 65535, 131071, 262143, 524287, 1048575, 2097151, 262143, 4456447, 12845055, 29622271, 67108863, 134217727, 268435455, 536870911, 1073741823, 2147483647, 4294967295, 8589934591, 17179869183, 34359738367, 4294967295, 73014444031, 210453397503, 485331304447, 1099511627775, 2199023255551, 4398046511103, 8796093022207, 17592186044415, 35184372088831] Qcz ?_
   refine Dv [] Vm (Dv [1] (Vn 0) (Dv [1] (Vfa Qbz 0) (Dv [2] (QaV Qf9 0) (Db h3 [] QbB (Dv [] Vm (Dv [] Vm (Dv [1] (Vn 0) (Dv [1] (Vfa Qbj 0) (Dv [2] (QaV sh3 0) ?_)))))))))
   refine Dv [] Vm (Dv [1] (Vn 0) (Dv [1] (Vfa Qe3 0) (Dv [2] (QaV Ql3 0) (Dv [] (Qcn QeD) (Db h5 [] Qcg (Dv [] Vpt (Dv [] Vm (Dv [] Vm (Dv [1] (Vn 0) ?_)))))))))
   refine Dv [1] (Vfa Qe3 0) (Dv [2] (QaV Ql3 0) (Dv [] Vm (Dv [1] (Vn 0) (Dv [1] (Vfa Qbj 0) (Dv [2] (QaV sh3 0) (Dv [3] (Vi QeD 0) (Dv [0] (Vfa Qll 0) (Dv [0] (QaV sh3 0) (Dv [] QbB ?_)))))))))
   refine Dv [] Vpt ?_
   refine Qbl ((p.l.getD p.at_.toNat default).Kind == 1) ?_ ?_
   ·intro h11
    have g12 := eq_of_beq h11
    refine Db h11 [] Vm (Dv [] Vm (Dv [1] (Vn 0) (Dv [1] (Vfa Qe3 0) (Dv [2] (QaV Ql3 0) (Dv [] Vm (Dv [1] (Vn 0) (Dv [1] (Vfa Qbj 0) (Dv [2] (QaV sh3 0) (Dv [3] (Vi QeD 0) ?_)))))))))
    refine Dv [0] (Vfa Qkk 0) (Dv [0] (QaV sh9 0) ?_)
    refine QaK (Qbm ((p.l.getD p.at_.toNat default).Text)) fun rv13 hg14 => ?_
    refine Dx [] [] [0] (fun G => vb rv13) [fun G => SP.fact (True)] (fun G => xC [] Qtw (Qsp ((p.l.getD p.at_.toNat default).Text) pre rv13 hg14)) (Dv [] Vpt (Dv [] Va ?_))
    refine Dn ⟨by kernel_rfl, fun G => ?_⟩
    refine Jw2 [(2, vb rv13)] [0, 1, 2, 3] [SP.fact (True)] ?_
    refine Jk [0, 2, 2] ?_
    have hq := q4 hrr rv13 (by simp only [Qbs, h3, h5, h11, hg14, cs4]); subst hq
    exact Kr () rfl (.tmp rfl .nil) [1] trivial
   intro h11
   have g15 := ne_of_beq_false h11
   refine Db h11 [] Vm (Ds (Ds (Ds (Ds (Ds (Ds (Ds (Ds (Ds ?_)))))))))
   refine Ds (Ds (Ds (Dv [] Vpf (Dv [] Va ?_))))
   refine Dn ⟨by kernel_rfl, fun G => ?_⟩
   refine Jw2 [(2, vb false)] [0, 1, 2, 3] [] ?_
   refine Jk [0, 2, 2] ?_
   have hq := q4 hrr false (by simp only [Qbs, h3, h5, h11, cs4]); subst hq
   exact Kr () rfl (.tmp rfl .nil) [1] trivial
  intro h5
  have g16 := df h5
  refine Kq [0, 1, 3, 7, 15, 31, 63, 127, 255, 511, 63, 1087, 3135, 7231, 15423, 32767, 65535, 131071, 262143, 524287, 1048575, 2097151, 262143, 4456447, 12845055, 29622271, 67108863, 134217727, 268435455, 536870911, 1073741823, 2147483647, 4294967295, 8589934591, 17179869183, 34359738367, 4294967295, 73014444031, 210453397503, 485331304447, 1099511627775, 2199023255551, 4398046511103, 8796093022207, 17592186044415, 35184372088831] Qcz ?_
  refine Qv [] Vm (Qv [0] (Vn 0) (Qv [0] (Vfa Qbz 0) (Qv [1] (QaV Qf9 0) (Qb h3 [] QbB (Qv [] Vm (Qv [] Vm (Qv [0] (Vn 0) (Qv [0] (Vfa Qbj 0) (Qv [1] (QaV sh3 0) ?_)))))))))
  refine Qv [] Vm (Qv [0] (Vn 0) (Qv [0] (Vfa Qe3 0) (Qv [1] (QaV Ql3 0) (Qv [] (Qcn QeD) (Qb h5 [] Qcg (Qv [] Vpt (Qv [] Vm (Qs (Qs ?_)))))))))
  refine Qs (Qs (Qs (Qs (Qs (Qs (Qs (Qs (Qs (Qs ?_)))))))))
  refine Qv [] Vpf (Qv [] Vm (Qs (Qs (Qs (Qs (Qs (Qs (Qs (Qs ?_)))))))))
  refine Qs (Qs (Qs (Qs (Qv [] Vpf (Qv [] Va ?_)))))
  refine Qn ⟨by kernel_rfl, ?_⟩
  have hq := q4 hrr false (by simp only [Qbs, h3, h5, cs4]); subst hq
  exact Kr () rfl (.tmp rfl .nil) [1] trivial
 intro h3
 have g17 := ne_of_beq_false h3
 refine Kq [0, 1, 3, 7, 15, 31, 63, 127, 255, 511, 63, 1087, 3135, 7231, 15423, 32767, 65535, 131071, 262143, 524287, 1048575, 2097151, 262143, 4456447, 12845055, 29622271, 67108863, 134217727, 268435455, 536870911, 1073741823, 2147483647, 4294967295, 8589934591, 17179869183, 34359738367, 4294967295, 73014444031, 210453397503, 485331304447, 1099511627775, 2199023255551, 4398046511103, 8796093022207, 17592186044415, 35184372088831] Qcz ?_
 refine Qv [] Vm (Qv [0] (Vn 0) (Qv [0] (Vfa Qbz 0) (Qv [1] (QaV Qf9 0) (Qb h3 [] QbB (Qv [] Vm (Qs (Qs (Qs (Qs ?_)))))))))
 refine Qs (Qs (Qs (Qs (Qs (Qs (Qv [] Vpf (Qv [] Vm (Qs (Qs ?_)))))))))
 refine Qs (Qs (Qs (Qs (Qs (Qs (Qs (Qs (Qs (Qs ?_)))))))))
 refine Qv [] Vpf (Qv [] Vm (Qs (Qs (Qs (Qs (Qs (Qs (Qs (Qs ?_)))))))))
 refine Qs (Qs (Qs (Qs (Qv [] Vpf (Qv [] Va ?_)))))
 refine Qn ⟨by kernel_rfl, ?_⟩
 have hq := q4 hrr false (by simp only [Qbs, h3, cs4]); subst hq
 exact Kr () rfl (.tmp rfl .nil) [1] trivial
theorem QiN (pP : Value) (p : Qab) (pa0 : Option Addr) (pk0 : Nat) (QiA : Qac p.at_) (QiB : Qac p.Err) (hpa : (0 <= p.at_ /\ p.at_ <= (p.l.length : Int))) (rr : Str × Qab) (hrr : Qa8 p = rr) : FT Tryz.prog 85 #[pP] [Cl pP [vl pa0 pk0 p.l, vi p.at_, vi p.Err], S pa0 pk0 p.l] (fun g : Unit => rr.1.b.length <= 140737488355328 /\ Qac rr.2.at_ /\ Qac rr.2.Err /\ (0 <= rr.2.at_ /\ rr.2.at_ <= (p.l.length : Int))) (fun g => .string (bs rr.1)) (fun g => [Cl pP [vl pa0 pk0 p.l, vi rr.2.at_, vi rr.2.Err]]) := by
 refine FTi Tryz.func85 fun w0 M0 F0 => ?_
 unfold Qac at QiA QiB
 refine Fb 40 1 fun _ => KS ?_
 refine Oq Va (KS ?_)
 refine Oq Vm ?_
 refine QaK (Qbs p) fun rv2 hg3 => ?_
 have hc4 := Qnf pP p pa0 pk0 pre pre pre rv2 hg3
 refine Oc [0, 0] Qni hc4 ?_
 rintro - -
 refine Oq QeT (KS ?_)
 refine Kc ?_ ?_
 ·intro h5
  have h7 := not_true h5
  refine KS ?_
  refine Oq Vm ?_
  refine QaK (QbD p 4) fun rv9 hg10 => ?_
  have hc11 := QjI pP p pa0 pk0 4 pre pre pre pre rv9 hg10
  refine Oc [0, 0] QjJ hc11 ?_
  rintro - ⟨he12, he13, he14⟩
  unfold Qac at he12 he13
  refine KS ?_
  refine Oq Va (KS ?_)
  have hq := q4 hrr ((Str.mk []), (Qab.mk p.l rv9.at_ rv9.Err)) (by simp only [Qa8, h5, h7, hg3, hg10, cs4]); subst hq
  exact Kr () rfl (.tmp rfl .nil) [0] en
 intro h5
 have h16 := not_false h5
 try (have hlt := Qjz (by assumption : Qeh _ _ = rv2) h16; try dsimp only at hlt)
 try (have hlt := QfK (by assumption : Qbs _ = rv2) h16; try dsimp only at hlt)
 try (have hlt := QfL (by assumption : Qb3 _ _ = rv2) h16; try dsimp only at hlt)
 refine KS ?_
 refine Oq Vm (Oq (Vn 0) (Oq (Vfa Qbj 0) (Oq (QaV sh3 0) (Oq Qbb (Oq (Vn 0) (Oq (Vfa Qbj 0) (Ost (QfJ [0] sh3 [vl pa0 pk0 p.l, vi (p.at_ + 1), vi p.Err]) (KS ?_))))))))
 refine Jp 0 fun hp18 => ?_
 refine QbO (((p.at_ + 1) - 1) : Int).toNat 2 rfl rng fun hb19 hb20 hb21 hb22 => ?_
 unfold Qac at hb19 hb21 hb22
 refine Kq [0, 1, 3, 7, 0, 16, 48, 112, 240, 511, 1023, 2047, 4095] Qcz ?_
 refine Qv [] Vm (Qv [1] (Vn 0) (Qv [1] (Vfa Qe3 0) (Qv [2] (QaV Ql3 0) (Qv [] Vm (Qv [1] (Vn 0) (Qv [1] (Vfa Qbj 0) (Qv [2] (QaV sh3 0) (Qv [] Qdf (Qv [3] (Vi QeD 0) ?_)))))))))
 refine Qv [0] (Vfa Qkk 0) (Qv [0] (QaV sh9 0) (Qv [] Va ?_))
 refine Qn ⟨by kernel_rfl, ?_⟩
 have hq := q4 hrr ((p.l.getD (((p.at_ + 1) - 1) : Int).toNat default).Text, (Qab.mk p.l (p.at_ + 1) p.Err)) (by simp only [Qa8, h5, h16, hg3, cs4]); subst hq
 exact Kr () rfl (.tmp rfl .nil) [2] en
theorem QpZ (pP : Value) (p : Qab) (pa0 : Option Addr) (pk0 : Nat) (k : Int) (QiA : Qac p.at_) (QiB : Qac p.Err) (QvX : Qac k) (hpa : (0 <= p.at_ /\ p.at_ <= (p.l.length : Int))) (rr : Bool) (hrr : Qb3 p k = rr) : FT Tryz.prog 119 #[pP, vi k] [Cl pP [vl pa0 pk0 p.l, vi p.at_, vi p.Err], S pa0 pk0 p.l] (fun g : Unit => True) (fun g => vb rr) (fun g => [Cl pP [vl pa0 pk0 p.l, vi p.at_, vi p.Err]]) := by
 refine FTi Tryz.func119 fun w0 M0 F0 => ?_
 unfold Qac at QiA QiB QvX
 refine Fb 40 1 fun _ => KS ?_
 refine Oq Va (KS ?_)
 refine Jp 0 fun hp2 => ?_
 refine Qbl (p.Err == 0) ?_ ?_
 ·intro h3
  have g4 := eq_of_beq h3
  refine Qbl (decide (p.at_ < (p.l.length : Int))) ?_ ?_
  ·intro h5
   have g6 := dt h5
   refine QbO p.at_.toNat 2 rfl rng fun hb7 hb8 hb9 hb10 => ?_
   unfold Qac at hb7 hb9 hb10
   refine Kq [0, 1, 3, 7, 15, 31, 63, 127, 255, 511, 63, 1087, 3135, 7231, 15423, 32767, 65535, 131071, 262143, 524287, 1048575, 2097151, 262143, 4456447, 12845055, 29622271, 67108863, 134217727, 268435455, 262143, 1073741823, 2147483647, 4294967295] Qcz ?_
   refine Qv [] Vm (Qv [1] (Vn 0) (Qv [1] (Vfa Qbz 0) (Qv [2] (QaV Qf9 0) (Qb h3 [] QbB (Qv [] Vm (Qv [] Vm (Qv [1] (Vn 0) (Qv [1] (Vfa Qbj 0) (Qv [2] (QaV sh3 0) ?_)))))))))
   refine Qv [] Vm (Qv [1] (Vn 0) (Qv [1] (Vfa Qe3 0) (Qv [2] (QaV Ql3 0) (Qv [] (Qcn QeD) (Qb h5 [] Qcg (Qv [] Vpt (Qv [] Vm (Qv [] Vm (Qv [1] (Vn 0) ?_)))))))))
   refine Qv [1] (Vfa Qe3 0) (Qv [2] (QaV Ql3 0) (Qv [] Vm (Qv [1] (Vn 0) (Qv [1] (Vfa Qbj 0) (Qv [2] (QaV sh3 0) (Qv [3] (Vi QeD 0) (Qv [0] (Vfa Qll 0) (Qv [0] (QaV sh3 0) (Qv [] Vm ?_)))))))))
   refine Qv [] QbB (Qv [] Vpt (Qv [] Va ?_))
   refine Qn ⟨by kernel_rfl, ?_⟩
   have hq := q4 hrr ((p.l.getD p.at_.toNat default).Kind == k) (by simp only [Qb3, h3, h5, cs4]); subst hq
   exact Kr () rfl (.tmp rfl .nil) [2] trivial
  intro h5
  have g11 := df h5
  refine Kq [0, 1, 3, 7, 15, 31, 63, 127, 255, 511, 63, 1087, 3135, 7231, 15423, 32767, 65535, 131071, 262143, 524287, 1048575, 2097151, 262143, 4456447, 12845055, 29622271, 67108863, 134217727, 268435455, 262143, 1073741823, 2147483647, 4294967295] Qcz ?_
  refine Qv [] Vm (Qv [0] (Vn 0) (Qv [0] (Vfa Qbz 0) (Qv [1] (QaV Qf9 0) (Qb h3 [] QbB (Qv [] Vm (Qv [] Vm (Qv [0] (Vn 0) (Qv [0] (Vfa Qbj 0) (Qv [1] (QaV sh3 0) ?_)))))))))
  refine Qv [] Vm (Qv [0] (Vn 0) (Qv [0] (Vfa Qe3 0) (Qv [1] (QaV Ql3 0) (Qv [] (Qcn QeD) (Qb h5 [] Qcg (Qv [] Vpt (Qv [] Vm (Qs (Qs ?_)))))))))
  refine Qs (Qs (Qs (Qs (Qs (Qs (Qs (Qs (Qs (Qs ?_)))))))))
  refine Qs (Qv [] Vpf (Qv [] Va ?_))
  refine Qn ⟨by kernel_rfl, ?_⟩
  have hq := q4 hrr false (by simp only [Qb3, h3, h5, cs4]); subst hq
  exact Kr () rfl (.tmp rfl .nil) [1] trivial
 intro h3
 have g12 := ne_of_beq_false h3
 refine Kq [0, 1, 3, 7, 15, 31, 63, 127, 255, 511, 63, 1087, 3135, 7231, 15423, 32767, 65535, 131071, 262143, 524287, 1048575, 2097151, 262143, 4456447, 12845055, 29622271, 67108863, 134217727, 268435455, 262143, 1073741823, 2147483647, 4294967295] Qcz ?_
 refine Qv [] Vm (Qv [0] (Vn 0) (Qv [0] (Vfa Qbz 0) (Qv [1] (QaV Qf9 0) (Qb h3 [] QbB (Qv [] Vm (Qs (Qs (Qs (Qs ?_)))))))))
 refine Qs (Qs (Qs (Qs (Qs (Qs (Qv [] Vpf (Qv [] Vm (Qs (Qs ?_)))))))))
 refine Qs (Qs (Qs (Qs (Qs (Qs (Qs (Qs (Qs (Qs ?_)))))))))
 refine Qs (Qv [] Vpf (Qv [] Va ?_))
 refine Qn ⟨by kernel_rfl, ?_⟩
 have hq := q4 hrr false (by simp only [Qb3, h3, cs4]); subst hq
 exact Kr () rfl (.tmp rfl .nil) [1] trivial
theorem Qjo (pP : Value) (p : Qab) (pa0 : Option Addr) (pk0 : Nat) (QiA : Qac p.at_) (QiB : Qac p.Err) (hpa : (0 <= p.at_ /\ p.at_ <= (p.l.length : Int))) (rr : Qab) (hrr : QbL p = rr) : FT Tryz.prog 86 #[pP] [Cl pP [vl pa0 pk0 p.l, vi p.at_, vi p.Err], S pa0 pk0 p.l] (fun g : Unit => Qac rr.at_ /\ Qac rr.Err /\ (0 <= rr.at_ /\ rr.at_ <= (p.l.length : Int))) (fun g => .tuple #[]) (fun g => [Cl pP [vl pa0 pk0 p.l, vi rr.at_, vi rr.Err]]) := by
 refine FTi Tryz.func86 fun w0 M0 F0 => ?_
 unfold Qac at QiA QiB
 refine Fb 40 1 fun _ => KS ?_
 refine Oq Vm ?_
 refine QaK (Qb3 p 3) fun rv2 hg3 => ?_
 have hc4 := QpZ pP p pa0 pk0 3 pre pre pre pre rv2 hg3
 refine Oc [0, 0] Qo0 hc4 ?_
 rintro - -
 refine Oq QeT (KS ?_)
 refine Kc ?_ ?_
 ·intro h5
  have h7 := not_true h5
  refine KS ?_
  refine Oq Vm ?_
  refine QaK (QbD p 4) fun rv9 hg10 => ?_
  have hc11 := QjI pP p pa0 pk0 4 pre pre pre pre rv9 hg10
  refine Oc [0, 0] QjJ hc11 ?_
  rintro - ⟨he12, he13, he14⟩
  unfold Qac at he12 he13
  refine KS ?_
  have hq := q4 hrr (Qab.mk p.l rv9.at_ rv9.Err) (by simp only [QbL, h5, h7, hg3, hg10, cs4]); subst hq
  exact Kr () rfl .nil [0] en
 intro h5
 have h16 := not_false h5
 try (have hlt := Qjz (by assumption : Qeh _ _ = rv2) h16; try dsimp only at hlt)
 try (have hlt := QfK (by assumption : Qbs _ = rv2) h16; try dsimp only at hlt)
 try (have hlt := QfL (by assumption : Qb3 _ _ = rv2) h16; try dsimp only at hlt)
 refine KS ?_
 refine Oq Vm (Oq (Vn 0) (Oq (Vfa Qbj 0) (Oq (QaV sh3 0) (Oq Qbb (Oq (Vn 0) (Oq (Vfa Qbj 0) (Ost (QfJ [0] sh3 [vl pa0 pk0 p.l, vi (p.at_ + 1), vi p.Err]) (KS ?_))))))))
 have hq := q4 hrr (Qab.mk p.l (p.at_ + 1) p.Err) (by simp only [QbL, h5, h16, hg3, cs4]); subst hq
 exact Kz () rfl .nil [0] en
theorem Qp6 (pP : Value) (p : Qab) (pa0 : Option Addr) (pk0 : Nat) (QiA : Qac p.at_) (QiB : Qac p.Err) (hpa : (0 <= p.at_ /\ p.at_ <= (p.l.length : Int))) (rr : Bool) (hrr : Qdm p = rr) : FT Tryz.prog 120 #[pP] [Cl pP [vl pa0 pk0 p.l, vi p.at_, vi p.Err], S pa0 pk0 p.l] (fun g : Unit => True) (fun g => vb rr) (fun g => [Cl pP [vl pa0 pk0 p.l, vi p.at_, vi p.Err]]) := by
 refine FTi Tryz.func120 fun w0 M0 F0 => ?_
 unfold Qac at QiA QiB
 refine Fb 40 1 fun _ => KS ?_
 refine Oq Va (KS ?_)
 refine Oa (AsV QcS Qgh [.string (bs (Str.mk [117, 115, 101])), .string (bs (Str.mk [99, 97, 108, 108])), .string (bs (Str.mk [115, 111, 117, 114, 99, 101])), .string (bs (Str.mk [115, 105, 110, 107])), .string (bs (Str.mk [115, 97, 110, 105, 116, 105, 122, 101])), .string (bs (Str.mk [103, 111, 116, 111])), .string (bs (Str.mk [98, 114, 97, 110, 99, 104])), .string (bs (Str.mk [114, 101, 116, 117, 114, 110]))] [.string (bs (Str.mk [117, 115, 101])), .string (bs (Str.mk [99, 97, 108, 108])), .string (bs (Str.mk [115, 111, 117, 114, 99, 101])), .string (bs (Str.mk [115, 105, 110, 107])), .string (bs (Str.mk [115, 97, 110, 105, 116, 105, 122, 101])), .string (bs (Str.mk [103, 111, 116, 111])), .string (bs (Str.mk [98, 114, 97, 110, 99, 104])), .string (bs (Str.mk [114, 101, 116, 117, 114, 110]))]) fun c2 => ?_
 refine Jo 0 ?_; rintro a3 k4 rfl
 refine Oq Va (KS ?_)
 refine Oq Va (KS ?_)
 refine Jl [0] (Ent.crOs (α := Str) (A := []) _ ([(Str.mk [117, 115, 101]), (Str.mk [99, 97, 108, 108]), (Str.mk [115, 111, 117, 114, 99, 101]), (Str.mk [115, 105, 110, 107]), (Str.mk [115, 97, 110, 105, 116, 105, 122, 101]), (Str.mk [103, 111, 116, 111]), (Str.mk [98, 114, 97, 110, 99, 104]), (Str.mk [114, 101, 116, 117, 114, 110])] : List Str) _ aB1 (fun h => ⟨[.string (bs (Str.mk [117, 115, 101]))], [.string (bs (Str.mk [99, 97, 108, 108])), .string (bs (Str.mk [115, 111, 117, 114, 99, 101])), .string (bs (Str.mk [115, 105, 110, 107])), .string (bs (Str.mk [115, 97, 110, 105, 116, 105, 122, 101])), .string (bs (Str.mk [103, 111, 116, 111])), .string (bs (Str.mk [98, 114, 97, 110, 99, 104])), .string (bs (Str.mk [114, 101, 116, 117, 114, 110]))], rfl, (fun _ => ⟨rfl, by first | omega | (simp; done) | (dsimp only; omega) | exact QeC rfl⟩) h, ⟨[.string (bs (Str.mk [99, 97, 108, 108]))], [.string (bs (Str.mk [115, 111, 117, 114, 99, 101])), .string (bs (Str.mk [115, 105, 110, 107])), .string (bs (Str.mk [115, 97, 110, 105, 116, 105, 122, 101])), .string (bs (Str.mk [103, 111, 116, 111])), .string (bs (Str.mk [98, 114, 97, 110, 99, 104])), .string (bs (Str.mk [114, 101, 116, 117, 114, 110]))], rfl, (fun _ => ⟨rfl, by first | omega | (simp; done) | (dsimp only; omega) | exact QeC rfl⟩) h, ⟨[.string (bs (Str.mk [115, 111, 117, 114, 99, 101]))], [.string (bs (Str.mk [115, 105, 110, 107])), .string (bs (Str.mk [115, 97, 110, 105, 116, 105, 122, 101])), .string (bs (Str.mk [103, 111, 116, 111])), .string (bs (Str.mk [98, 114, 97, 110, 99, 104])), .string (bs (Str.mk [114, 101, 116, 117, 114, 110]))], rfl, (fun _ => ⟨rfl, by first | omega | (simp; done) | (dsimp only; omega) | exact QeC rfl⟩) h, ⟨[.string (bs (Str.mk [115, 105, 110, 107]))], [.string (bs (Str.mk [115, 97, 110, 105, 116, 105, 122, 101])), .string (bs (Str.mk [103, 111, 116, 111])), .string (bs (Str.mk [98, 114, 97, 110, 99, 104])), .string (bs (Str.mk [114, 101, 116, 117, 114, 110]))], rfl, (fun _ => ⟨rfl, by first | omega | (simp; done) | (dsimp only; omega) | exact QeC rfl⟩) h, ⟨[.string (bs (Str.mk [115, 97, 110, 105, 116, 105, 122, 101]))], [.string (bs (Str.mk [103, 111, 116, 111])), .string (bs (Str.mk [98, 114, 97, 110, 99, 104])), .string (bs (Str.mk [114, 101, 116, 117, 114, 110]))], rfl, (fun _ => ⟨rfl, by first | omega | (simp; done) | (dsimp only; omega) | exact QeC rfl⟩) h, ⟨[.string (bs (Str.mk [103, 111, 116, 111]))], [.string (bs (Str.mk [98, 114, 97, 110, 99, 104])), .string (bs (Str.mk [114, 101, 116, 117, 114, 110]))], rfl, (fun _ => ⟨rfl, by first | omega | (simp; done) | (dsimp only; omega) | exact QeC rfl⟩) h, ⟨[.string (bs (Str.mk [98, 114, 97, 110, 99, 104]))], [.string (bs (Str.mk [114, 101, 116, 117, 114, 110]))], rfl, (fun _ => ⟨rfl, by first | omega | (simp; done) | (dsimp only; omega) | exact QeC rfl⟩) h, ⟨[.string (bs (Str.mk [114, 101, 116, 117, 114, 110]))], [], rfl, (fun _ => ⟨rfl, by first | omega | (simp; done) | (dsimp only; omega) | exact QeC rfl⟩) h, rfl⟩⟩⟩⟩⟩⟩⟩⟩)) ?_
 refine Fb 16 0 fun _ => ?_
 refine FoS 0 fun ho6 => ?_
 refine Kl (γ := Nat × Int) (fun (r7, i_8) => ⟨[(0, pP), (3, .slice a3 8 k4), (4, vi i_8)], [os (.slice a3 8 k4) ([(Str.mk [117, 115, 101]), (Str.mk [99, 97, 108, 108]), (Str.mk [115, 111, 117, 114, 99, 101]), (Str.mk [115, 105, 110, 107]), (Str.mk [115, 97, 110, 105, 116, 105, 122, 101]), (Str.mk [103, 111, 116, 111]), (Str.mk [98, 114, 97, 110, 99, 104]), (Str.mk [114, 101, 116, 117, 114, 110])] : List Str), Cl pP [vl pa0 pk0 p.l, vi p.at_, vi p.Err], S pa0 pk0 p.l], Qdo p r7 i_8 = Qdo p (((((8 : Nat) : Int) : Int) - 0).toNat) 0 /\ r7 = ((((8 : Nat) : Int) : Int) - i_8).toNat /\ (0 : Int) <= i_8 /\ (i_8 <= ((8 : Nat) : Int) \/ i_8 = 0) /\ (-9223372036854775808 <= i_8 /\ i_8 <= 9223372036854775807), r7⟩) (((((8 : Nat) : Int) : Int) - 0).toNat, 0) [0, 0, 0] ⟨rfl, rfl, aM1, (.inr rfl), aM1⟩ ?_
 rintro ⟨r7, i_8⟩ ⟨hM9, hr10, hi11, hi12, hk13⟩
 refine Qbt fun _ _ hL hA => ?_; dsimp only at hL hA; subst hL hA
 refine Fb 16 0 fun _ => ?_
 refine FoS 0 fun ho15 => ?_
 refine Fl 0 fun hn16 => Fb 40 2 fun _ => ?_
 refine KS ?_
 refine Oq Vm (Oq Vm (Oq (Qcn QcS) (Oq Qcg (KS ?_))))
 refine Kc ?_ ?_
 ·intro h18
  have g19 := dt h18
  obtain ⟨r20, rfl⟩ := scc (n := r7) aM1
  refine KS ?_
  refine Oq Vm (Oq Vm (Oq Vm (Oq (Vi QcS 0) ?_)))
  have hb21 := okS (i := i_8.toNat) ho15 rng
  refine Oq (QnK sh9 0) ?_
  refine QaK (Qeh p ([(Str.mk [117, 115, 101]), (Str.mk [99, 97, 108, 108]), (Str.mk [115, 111, 117, 114, 99, 101]), (Str.mk [115, 105, 110, 107]), (Str.mk [115, 97, 110, 105, 116, 105, 122, 101]), (Str.mk [103, 111, 116, 111]), (Str.mk [98, 114, 97, 110, 99, 104]), (Str.mk [114, 101, 116, 117, 114, 110])].getD i_8.toNat default)) fun rv22 hg23 => ?_
  have hc24 := Qom pP p pa0 pk0 (([(Str.mk [117, 115, 101]), (Str.mk [99, 97, 108, 108]), (Str.mk [115, 111, 117, 114, 99, 101]), (Str.mk [115, 105, 110, 107]), (Str.mk [115, 97, 110, 105, 116, 105, 122, 101]), (Str.mk [103, 111, 116, 111]), (Str.mk [98, 114, 97, 110, 99, 104]), (Str.mk [114, 101, 116, 117, 114, 110])].getD i_8.toNat default)) pre pre pre pre rv22 hg23
  refine Oc [1, 1] QoD hc24 ?_
  rintro - -
  refine KS ?_
  refine Kc ?_ ?_
  ·intro h25
   refine KS ?_
   refine Oq Va (KS ?_)
   have hR27 := q2 hM9 (.ret true) (by simp only [Qdo, h18, h25, hg23, cs4])
   have hq := q4 hrr true (by simp only [Qdm, h18, h25, hg23, hR27, cs4]); subst hq
   exact Kr () rfl (.tmp rfl .nil) [0] trivial
  intro h25
  refine KS ?_
  refine Oq Vm (Oq Qbb (Oq Va (KS ?_)))
  exact Kg (r20, (i_8 + 1)) [1, 0, 0] ⟨(q3 hM9 (by simp only [Qdo, h18, h25, hg23, cs4])), aM1, aM1, aM1, aM1⟩
 intro h18
 have g29 := df h18
 obtain rfl : r7 = 0 := by omega
 refine Ke ?_
 have hR30 := q2 hM9 (.brk ()) (by simp only [Qdo, h18, cs4])
 refine KS ?_
 refine Oq Vm ?_
 refine QaK (Qbs p) fun rv31 hg32 => ?_
 have hc33 := Qnf pP p pa0 pk0 pre pre pre rv31 hg32
 refine Oc [1, 1] Qni hc33 ?_
 rintro - -
 refine Oq Va (KS ?_)
 have hq := q4 hrr rv31 (by simp only [Qdm, h18, hR30, hg32, cs4]); subst hq
 exact Kr () rfl (.tmp rfl .nil) [0] trivial
theorem Qq7 (pP : Value) (p : Qab) (pa0 : Option Addr) (pk0 : Nat) (have_ : Int) (QiA : Qac p.at_) (QiB : Qac p.Err) (hhave__0 : Qac have_) (hpa : (0 <= p.at_ /\ p.at_ <= (p.l.length : Int))) (hh : have_ = 1) (rr : List Str × Qab) (hrr : QgA p have_ = rr) : FT Tryz.prog 138 #[pP, vi have_] [Cl pP [vl pa0 pk0 p.l, vi p.at_, vi p.Err], S pa0 pk0 p.l] (fun g : Value => Qac rr.2.at_ /\ Qac rr.2.Err /\ (0 <= rr.2.at_ /\ rr.2.at_ <= (p.l.length : Int)) /\ (rr.1.length <= 3)) (fun g => g) (fun g => [sl g rr.1, Cl pP [vl pa0 pk0 p.l, vi rr.2.at_, vi rr.2.Err]]) := by
 refine FTi Tryz.func138 fun w0 M0 F0 => ?_
 unfold Qac at QiA QiB hhave__0
 refine Fb 40 1 fun _ => KS ?_
 refine Oq Va (KS ?_)
 refine Oq Va (KS ?_)
 refine Jl [] (Ent.osNil (α := Str)) ?_
 have hterm13 : Qdk p have_ (p.l.length + 1) p.at_ p.Err [] ≠ LR.oof := (Qhs _ _ _ _ aM1).1
 refine Kl (γ := Nat × Int × Int × List Str × Option Addr × Nat) (fun (r2, QhC, Qik, Qbf, a6, k7) => ⟨[(0, pP), (1, vi have_), (5, vl a6 k7 Qbf)], [O a6 k7 Qbf, Cl pP [vl pa0 pk0 p.l, vi QhC, vi Qik], S pa0 pk0 p.l], Qdk p have_ r2 QhC Qik Qbf = Qdk p have_ (p.l.length + 1) p.at_ p.Err [] /\ (-9223372036854775808 <= QhC /\ QhC <= 9223372036854775807) /\ (-9223372036854775808 <= Qik /\ Qik <= 9223372036854775807) /\ (0 <= QhC /\ QhC <= (p.l.length : Int)) /\ (Qbf.length <= 3), r2⟩) ((p.l.length + 1), p.at_, p.Err, [], none, 0) [0, 0, 0] ⟨rfl, aM1, aM1, iv0, iv0⟩ ?_
 rintro ⟨r2, QhC, Qik, Qbf, a6, k7⟩ ⟨hM8, hk9, hk10, hv11, hv12⟩
 refine Qbt fun _ _ hL hA => ?_; dsimp only at hL hA; subst hL hA
 refine Fb 16 0 fun _ => ?_
 refine FoS 0 fun ho15 => ?_
 refine Fb 40 2 fun _ => ?_
 rcases r2 with _ | r2
 ·exact absurd (hM8.symm.trans rfl) hterm13
 refine KS ?_
 refine Oq Vm ?_
 refine QaK (Qbs (Qab.mk p.l QhC Qik)) fun rv17 hg18 => ?_
 have hc19 := Qnf pP (Qab.mk p.l QhC Qik) pa0 pk0 pre pre pre rv17 hg18
 refine Oc [1, 1] Qni hc19 ?_
 rintro - -
 refine KS ?_
 refine Kc ?_ ?_
 ·intro h20
  refine KS ?_
  refine Oq Vm (Oq Vm (Oq (Qcn QcS) (Oq Qbb (Oq QbB (KS ?_)))))
  refine Kc ?_ ?_
  ·intro h22
   have g23 := eq_of_beq h22
   refine KS ?_
   refine Oq Vm ?_
   refine QaK (QbD (Qab.mk p.l QhC Qik) 7) fun rv24 hg25 => ?_
   have hc26 := QjI pP (Qab.mk p.l QhC Qik) pa0 pk0 7 pre pre pre pre rv24 hg25
   refine Oc [0, 1] QjJ hc26 ?_
   rintro - ⟨he27, he28, he29⟩
   unfold Qac at he27 he28
   have he29 : (0 <= rv24.at_ /\ rv24.at_ <= (p.l.length : Int)) := he29
   refine KS ?_
   refine Oq Va (KS ?_)
   refine Jl [] (Ent.slNil (α := Str)) ?_
   have hR30 := q2 hM8 (.ret (([] : List Str), (Qab.mk p.l rv24.at_ rv24.Err))) (by simp only [Qdk, h20, h22, hg18, hg25, cs4])
   have hq := q4 hrr (([] : List Str), (Qab.mk p.l rv24.at_ rv24.Err)) (by simp only [QgA, h20, h22, hg18, hg25, hR30, cs4]); subst hq
   exact Kr (.slice none 0 0) rfl (.tmp rfl .nil) [0, 1] en
  intro h22
  have g31 := ne_of_beq_false h22
  refine KS ?_
  refine Oq Vm (Oq Vm ?_)
  refine QaK (Qa8 (Qab.mk p.l QhC Qik)) fun rv32 hg33 => ?_
  have hc34 := QiN pP (Qab.mk p.l QhC Qik) pa0 pk0 pre pre pre rv32 hg33
  refine Oc [0, 1] QiG hc34 ?_
  rintro - ⟨he35, he36, he37, he38⟩
  unfold Qac at he36 he37
  have he38 : (0 <= rv32.2.at_ /\ rv32.2.at_ <= (p.l.length : Int)) := he38
  refine Oa (AsV QcS Qgh [.string (bs rv32.1)] [.string (bs rv32.1)]) fun c39 => ?_
  refine Jo 0 ?_; rintro a40 k41 rfl
  refine Jl [0] (Ent.cr1 (α := Str) (A := []) _ rv32.1 _ aB1 (fun _ => ⟨rfl, aS1⟩)) ?_
  refine Oa (ApO [2, 0] QcS QcS Qgh) fun c42 => ?_
  refine Jo 0 ?_; rintro a43 k44 rfl
  refine Fb 16 0 fun _ => ?_
  refine FoS 0 fun ho46 => ?_
  have hn47 := la Qbf ([rv32.1] : List Str)
  refine Oq Va (KS ?_)
  exact Kg (r2, rv32.2.at_, rv32.2.Err, (Qbf ++ [rv32.1]), a43, k44) [0, 0, 0] ⟨(q3 hM8 (by simp only [Qdk, h20, h22, hg18, hg33, cs4])), aM1, aM1, iv1, iv1⟩
 intro h20
 refine Ke ?_
 have hR49 := q2 hM8 (.brk (QhC, Qik, Qbf)) (by simp only [Qdk, h20, hg18, cs4])
 refine KS ?_
 refine Oq Vm (Oq Va (KS ?_))
 refine Jl [1] (Ent.freeze _ _) ?_
 have hq := q4 hrr (Qbf, (Qab.mk p.l QhC Qik)) (by simp only [QgA, h20, hg18, hR49, cs4]); subst hq
 exact Kr (vl a6 k7 Qbf) rfl (.tmp rfl .nil) [0, 1] en
theorem QrU (pP : Value) (p : Qab) (pa0 : Option Addr) (pk0 : Nat) (QiA : Qac p.at_) (QiB : Qac p.Err) (hpa : (0 <= p.at_ /\ p.at_ <= (p.l.length : Int))) (rr : List Str × Qab) (hrr : QfC p = rr) : FT Tryz.prog 139 #[pP] [Cl pP [vl pa0 pk0 p.l, vi p.at_, vi p.Err], S pa0 pk0 p.l] (fun g : Value => Qac rr.2.at_ /\ Qac rr.2.Err /\ (0 <= rr.2.at_ /\ rr.2.at_ <= (p.l.length : Int)) /\ (rr.1.length <= 4)) (fun g => g) (fun g => [sl g rr.1, Cl pP [vl pa0 pk0 p.l, vi rr.2.at_, vi rr.2.Err]]) := by
 refine FTi Tryz.func139 fun w0 M0 F0 => ?_
 unfold Qac at QiA QiB
 refine Fb 40 1 fun _ => KS ?_
 refine Oq Va (KS ?_)
 refine Oq Va (KS ?_)
 refine Jl [] (Ent.osNil (α := Str)) ?_
 have hterm13 : QcM p (p.l.length + 1) p.at_ p.Err [] ≠ LR.oof := (QgV _ _ _ _ aM1).1
 refine Kl (γ := Nat × Int × Int × List Str × Option Addr × Nat) (fun (r2, QhC, Qik, Qbf, a6, k7) => ⟨[(0, pP), (3, vl a6 k7 Qbf)], [O a6 k7 Qbf, Cl pP [vl pa0 pk0 p.l, vi QhC, vi Qik], S pa0 pk0 p.l], QcM p r2 QhC Qik Qbf = QcM p (p.l.length + 1) p.at_ p.Err [] /\ (-9223372036854775808 <= QhC /\ QhC <= 9223372036854775807) /\ (-9223372036854775808 <= Qik /\ Qik <= 9223372036854775807) /\ (0 <= QhC /\ QhC <= (p.l.length : Int)) /\ (Qbf.length <= 4), r2⟩) ((p.l.length + 1), p.at_, p.Err, [], none, 0) [0, 0, 0] ⟨rfl, aM1, aM1, iv0, iv0⟩ ?_
 rintro ⟨r2, QhC, Qik, Qbf, a6, k7⟩ ⟨hM8, hk9, hk10, hv11, hv12⟩
 refine Qbt fun _ _ hL hA => ?_; dsimp only at hL hA; subst hL hA
 refine Fb 16 0 fun _ => ?_
 refine FoS 0 fun ho15 => ?_
 refine Fb 40 2 fun _ => ?_
 rcases r2 with _ | r2
 ·exact absurd (hM8.symm.trans rfl) hterm13
 refine KS ?_
 refine Oq Vm ?_
 refine QaK (Qbs (Qab.mk p.l QhC Qik)) fun rv17 hg18 => ?_
 have hc19 := Qnf pP (Qab.mk p.l QhC Qik) pa0 pk0 pre pre pre rv17 hg18
 refine Oc [1, 1] Qni hc19 ?_
 rintro - -
 refine KS ?_
 refine Kc ?_ ?_
 ·intro h20
  refine KS ?_
  refine Oq Vm (Oq (Qcn QcS) (Oq QbB (KS ?_)))
  refine Kc ?_ ?_
  ·intro h22
   have g23 := eq_of_beq h22
   refine KS ?_
   refine Oq Vm ?_
   refine QaK (QbD (Qab.mk p.l QhC Qik) 7) fun rv24 hg25 => ?_
   have hc26 := QjI pP (Qab.mk p.l QhC Qik) pa0 pk0 7 pre pre pre pre rv24 hg25
   refine Oc [0, 1] QjJ hc26 ?_
   rintro - ⟨he27, he28, he29⟩
   unfold Qac at he27 he28
   have he29 : (0 <= rv24.at_ /\ rv24.at_ <= (p.l.length : Int)) := he29
   refine KS ?_
   refine Oq Va (KS ?_)
   refine Jl [] (Ent.slNil (α := Str)) ?_
   have hR30 := q2 hM8 (.ret (([] : List Str), (Qab.mk p.l rv24.at_ rv24.Err))) (by simp only [QcM, h20, h22, hg18, hg25, cs4])
   have hq := q4 hrr (([] : List Str), (Qab.mk p.l rv24.at_ rv24.Err)) (by simp only [QfC, h20, h22, hg18, hg25, hR30, cs4]); subst hq
   exact Kr (.slice none 0 0) rfl (.tmp rfl .nil) [0, 1] en
  intro h22
  have g31 := ne_of_beq_false h22
  refine KS ?_
  refine Oq Vm (Oq Vm ?_)
  refine QaK (Qa8 (Qab.mk p.l QhC Qik)) fun rv32 hg33 => ?_
  have hc34 := QiN pP (Qab.mk p.l QhC Qik) pa0 pk0 pre pre pre rv32 hg33
  refine Oc [0, 1] QiG hc34 ?_
  rintro - ⟨he35, he36, he37, he38⟩
  unfold Qac at he36 he37
  have he38 : (0 <= rv32.2.at_ /\ rv32.2.at_ <= (p.l.length : Int)) := he38
  refine Oa (AsV QcS Qgh [.string (bs rv32.1)] [.string (bs rv32.1)]) fun c39 => ?_
  refine Jo 0 ?_; rintro a40 k41 rfl
  refine Jl [0] (Ent.cr1 (α := Str) (A := []) _ rv32.1 _ aB1 (fun _ => ⟨rfl, aS1⟩)) ?_
  refine Oa (ApO [2, 0] QcS QcS Qgh) fun c42 => ?_
  refine Jo 0 ?_; rintro a43 k44 rfl
  refine Fb 16 0 fun _ => ?_
  refine FoS 0 fun ho46 => ?_
  have hn47 := la Qbf ([rv32.1] : List Str)
  refine Oq Va (KS ?_)
  exact Kg (r2, rv32.2.at_, rv32.2.Err, (Qbf ++ [rv32.1]), a43, k44) [0, 0, 0] ⟨(q3 hM8 (by simp only [QcM, h20, h22, hg18, hg33, cs4])), aM1, aM1, iv1, iv1⟩
 intro h20
 refine Ke ?_
 have hR49 := q2 hM8 (.brk (QhC, Qik, Qbf)) (by simp only [QcM, h20, hg18, cs4])
 refine KS ?_
 refine Oq Vm (Oq Va (KS ?_))
 refine Jl [1] (Ent.freeze _ _) ?_
 have hq := q4 hrr (Qbf, (Qab.mk p.l QhC Qik)) (by simp only [QfC, h20, hg18, hR49, cs4]); subst hq
 exact Kr (vl a6 k7 Qbf) rfl (.tmp rfl .nil) [0, 1] en
theorem QrV (pP : Value) (p : Qab) (pa0 : Option Addr) (pk0 : Nat) (QiA : Qac p.at_) (QiB : Qac p.Err) (hpa : (0 <= p.at_ /\ p.at_ <= (p.l.length : Int))) (hb : Qdm p = true) (rr : Qbc × Qab) (hrr : Qcp p = rr) : FT Tryz.prog 121 #[pP] [Cl pP [vl pa0 pk0 p.l, vi p.at_, vi p.Err], S pa0 pk0 p.l] (fun g : Value × Value => Qac rr.1.Op /\ rr.1.Def.b.length <= 140737488355328 /\ Qac rr.2.at_ /\ Qac rr.2.Err /\ (0 <= rr.2.at_ /\ rr.2.at_ <= (p.l.length : Int))) (fun g => .agg #[vi rr.1.Op, .string (bs rr.1.Def), g.1, g.2]) (fun g => [sl g.1 rr.1.Uses, sl g.2 rr.1.Targets, Cl pP [vl pa0 pk0 p.l, vi rr.2.at_, vi rr.2.Err]]) := by
 refine FTi Tryz.func121 fun w0 M0 F0 => ?_
 unfold Qac at QiA QiB
 refine Fb 40 1 fun _ => ?_
 have hbl := QkC hb
 refine KS ?_
 refine Oa (Al Qqg [vi 0, .string (bs (Str.mk [])), .slice none 0 0, .slice none 0 0]) fun p2 => KS ?_
 refine Oa (Al Qqg [vi 0, .string (bs (Str.mk [])), .slice none 0 0, .slice none 0 0]) fun p3 => KS ?_
 refine Oq Va (KS ?_)
 refine Oq Vm ?_
 refine QaK (Qbs p) fun rv4 hg5 => ?_
 have hc6 := Qnf pP p pa0 pk0 pre pre pre rv4 hg5
 refine Oc [2, 2] Qni hc6 ?_
 rintro - -
 refine Oq QeT (KS ?_)
 refine Kc ?_ ?_
 ·intro h7
  have h9 := not_true h7
  refine KS ?_
  refine Jp 0 fun hp11 => ?_
  refine QbO p.at_.toNat 4 rfl rng fun hb12 hb13 hb14 hb15 => ?_
  unfold Qac at hb12 hb14 hb15
  refine Kq [0, 1, 3, 7, 0, 16, 48, 112, 255, 511, 1023, 2047] Qcz ?_
  refine Qv [] Vm (Qv [1] (Vn 0) (Qv [1] (Vfa Qe3 0) (Qv [2] (QaV Ql3 0) (Qv [] Vm (Qv [1] (Vn 0) (Qv [1] (Vfa Qbj 0) (Qv [2] (QaV sh3 0) (Qv [5] (Vi QeD 0) (Qv [0] (Vfa Qkk 0) ?_)))))))))
  refine Qv [0] (QaV sh9 0) (Qv [] Va ?_)
  refine Qn ⟨by kernel_rfl, ?_⟩
  refine KS ?_
  refine Oq Vm (Oq (Vn 2) (Oq (Vfa Qbj 2) (Oq (QaV sh3 2) (Oq Qbb (Oq (Vn 2) (Oq (Vfa Qbj 2) (Ost (QfJ [2] sh3 [vl pa0 pk0 p.l, vi (p.at_ + 1), vi p.Err]) (KS ?_))))))))
  refine Oq Vm (KS ?_)
  refine Oq (Qh3 (l := (p.l.getD p.at_.toNat default).Text) (m := (Str.mk [117, 115, 101]))) (Oq Va (KS ?_))
  refine Kc ?_ ?_
  ·intro h16
   have g17 := eq_of_beq h16
   refine KS ?_
   refine Oq Vm ?_
   refine QaK (Qa8 (Qab.mk p.l (p.at_ + 1) p.Err)) fun rv18 hg19 => ?_
   have hc20 := QiN pP (Qab.mk p.l (p.at_ + 1) p.Err) pa0 pk0 pre pre pre rv18 hg19
   refine Oc [0, 4] QiG hc20 ?_
   rintro - ⟨he21, he22, he23, he24⟩
   unfold Qac at he22 he23
   have he24 : (0 <= rv18.2.at_ /\ rv18.2.at_ <= (p.l.length : Int)) := he24
   refine Oa (AsV QcS Qgh [.string (bs rv18.1)] [.string (bs rv18.1)]) fun c25 => ?_
   refine Jo 0 ?_; rintro a26 k27 rfl
   refine Oq (Vfa Qdn 4) (Ost (QfJ [4] sh3 [vi 2, .string (bs (Str.mk [])), .slice none 0 0, .slice none 0 0]) (Oq (Vfa Qc0 0) (Ost (QfJ [0] Qeq [vi 2, .string (bs (Str.mk [])), .slice a26 1 k27, .slice none 0 0]) (KS ?_))))
   refine Jp 0 fun hp28 => ?_
   refine Qat [0, 1, 0, 4, 15, 31, 63] Qcz ?_
   refine Dv [0] (Vfa Qc0 0) (Dv [1] (QaV Qeq 0) (Dv [] Vm ?_))
   refine QaK (QgA (Qab.mk p.l rv18.2.at_ rv18.2.Err) 1) fun rv30 hg31 => Dx [3, 7] [3] [3, 0, 1, 2] (fun G => (G.g 3 0)) [fun G => SP.fact (Qac rv30.2.at_ /\ Qac rv30.2.Err /\ (0 <= rv30.2.at_ /\ rv30.2.at_ <= ((Qab.mk p.l rv18.2.at_ rv18.2.Err).l.length : Int)) /\ (rv30.1.length <= 3)), fun G => sl (G.g 3 0) rv30.1, fun G => Cl pP [vl pa0 pk0 p.l, vi rv30.2.at_, vi rv30.2.Err]] (fun G => xC [0, 0] QrT (Qq7 pP (Qab.mk p.l rv18.2.at_ rv18.2.Err) pa0 pk0 1 pre pre pre pre pre rv30 hg31)) ?_
   have hn33 : ([rv18.1] ++ rv30.1 : List Str).length = 1 + rv30.1.length := la ([rv18.1] : List Str) rv30.1
   refine Dx [2, 8, 9] [2] [1, 2, 0] (fun G => (G.g 4 0)) [fun G => os (G.g 4 0) (([rv18.1] ++ rv30.1) : List Str)] (fun G => by refine xf 1 rfl ?_; rintro ⟨he34, he35, he36, he37⟩; unfold Qac at he34 he35; exact xp [0] rfl (Ent.cr1 (α := Str) (A := []) _ rv18.1 _ aB1 (fun _ => ⟨rfl, aS1⟩)) (xA (Ap [0, 1] QcS QcS Qgh))) (Dv [0] (Vfa Qc0 0) (Dx0 [1, 11] [1] [1, 0] [fun G => Cl p3 [vi 2, .string (bs (Str.mk [])), (G.g 4 0), .slice none 0 0]] (fun G => x1 1 rfl Qfd fun ho38 => (xS (OpS.frame [0] rfl (OpS.storeClF [(G.g 4 0)] [vi 2, .string (bs (Str.mk [])), (G.g 4 0), .slice none 0 0] rfl rfl rfl Qeq (Qb9 ho38) rfl (by simp only [List.all_cons, List.all_nil, ho38, Bool.and_true, Bool.true_and] <;> rfl) aB1 rfl)))) ?_))
   refine Dn ⟨by kernel_rfl, fun G => ?_⟩
   refine Jw2 [(0, pP), (2, p2), (3, p3)] [0, 4, 5, 6, 7] [SP.fact (Qac rv30.2.at_ /\ Qac rv30.2.Err /\ (0 <= rv30.2.at_ /\ rv30.2.at_ <= ((Qab.mk p.l rv18.2.at_ rv18.2.Err).l.length : Int)) /\ (rv30.1.length <= 3)), sl (G.g 3 0) rv30.1, Cl pP [vl pa0 pk0 p.l, vi rv30.2.at_, vi rv30.2.Err], os (G.g 4 0) (([rv18.1] ++ rv30.1) : List Str), Cl p3 [vi 2, .string (bs (Str.mk [])), (G.g 4 0), .slice none 0 0]] ?_
   generalize G.g 3 0 = c29, G.g 4 0 = c32
   refine Jf 5 rfl ?_; rintro ⟨he39, he40, he41, he42⟩
   unfold Qac at he39 he40
   refine Jk [1, 3, 3, 5, 6, 6, 6] ?_
   refine Jo 3 ?_; rintro a43 k44 rfl
   refine Fb 16 3 fun _ => ?_
   refine FoS 3 fun ho46 => ?_
   refine Jo 5 ?_; rintro a47 k48 rfl
   refine Fb 16 5 fun _ => ?_
   refine FoS 5 fun ho50 => ?_
   refine KS ?_
   refine Oq Vm ?_
   refine QaK (QbL (Qab.mk p.l rv30.2.at_ rv30.2.Err)) fun rv51 hg52 => ?_
   have hc53 := Qjo pP (Qab.mk p.l rv30.2.at_ rv30.2.Err) pa0 pk0 pre pre pre rv51 hg52
   refine Oc [4, 2] Qjq hc53 ?_
   rintro - ⟨he54, he55, he56⟩
   unfold Qac at he54 he55
   have he56 : (0 <= rv51.at_ /\ rv51.at_ <= (p.l.length : Int)) := he56
   refine KS ?_
   refine Oq (QcR QdZ 6) (Ost (Scl [2] QdZ [vi 2, .string (bs (Str.mk [])), vl a47 k48 ([rv18.1] ++ rv30.1), .slice none 0 0]) (KS ?_))
   refine Jl [5] (Ent.freeze _ _) ?_
   refine Jl [] (Ent.slNil (α := Str)) ?_
   have hq := q4 hrr ((Qbc.mk 2 (Str.mk []) ([rv18.1] ++ rv30.1) []), (Qab.mk p.l rv51.at_ rv51.Err)) (by simp only [Qcp, h7, h9, h16, hg5, hg19, hg31, hg52, cs4]); subst hq
   exact Kr (vl a47 k48 ([rv18.1] ++ rv30.1), .slice none 0 0) rfl (.cellN 2 rfl QdZ rfl (QaB _ _) rfl .nil) [1, 0, 3] en
  intro h16
  have g57 := ne_of_beq_false h16
  refine KS ?_
  refine Oq (Qh3 (l := (p.l.getD p.at_.toNat default).Text) (m := (Str.mk [99, 97, 108, 108]))) (Oq Va (KS ?_))
  refine Kc ?_ ?_
  ·intro h58
   have g59 := eq_of_beq h58
   refine KS ?_
   refine Oq Vm ?_
   refine QaK (Qa8 (Qab.mk p.l (p.at_ + 1) p.Err)) fun rv60 hg61 => ?_
   have hc62 := QiN pP (Qab.mk p.l (p.at_ + 1) p.Err) pa0 pk0 pre pre pre rv60 hg61
   refine Oc [0, 4] QiG hc62 ?_
   rintro - ⟨he63, he64, he65, he66⟩
   unfold Qac at he64 he65
   have he66 : (0 <= rv60.2.at_ /\ rv60.2.at_ <= (p.l.length : Int)) := he66
   refine Oa (AsV QcS Qgh [.string (bs rv60.1)] [.string (bs rv60.1)]) fun c67 => ?_
   refine Jo 0 ?_; rintro a68 k69 rfl
   refine Oq (Vfa Qdn 4) (Ost (QfJ [4] sh3 [vi 3, .string (bs (Str.mk [])), .slice none 0 0, .slice none 0 0]) (Oq (Vfa Qc4 0) (Ost (QfJ [0] Qeq [vi 3, .string (bs (Str.mk [])), .slice none 0 0, .slice a68 1 k69]) (KS ?_))))
   refine Oq Vm ?_
   refine QaK (QbL (Qab.mk p.l rv60.2.at_ rv60.2.Err)) fun rv70 hg71 => ?_
   have hc72 := Qjo pP (Qab.mk p.l rv60.2.at_ rv60.2.Err) pa0 pk0 pre pre pre rv70 hg71
   refine Oc [2, 5] Qjq hc72 ?_
   rintro - ⟨he73, he74, he75⟩
   unfold Qac at he73 he74
   have he75 : (0 <= rv70.at_ /\ rv70.at_ <= (p.l.length : Int)) := he75
   refine KS ?_
   refine Oq (QcR QdZ 1) (Ost (Scl [5] QdZ [vi 3, .string (bs (Str.mk [])), .slice none 0 0, .slice a68 1 k69]) (KS ?_))
   refine Jl [3] (Ent.cr1 (α := Str) (A := []) _ rv60.1 _ aB1 (fun _ => ⟨rfl, aS1⟩)) ?_
   refine Jl [0] (Ent.freeze _ _) ?_
   refine Jl [] (Ent.slNil (α := Str)) ?_
   have hq := q4 hrr ((Qbc.mk 3 (Str.mk []) [] [rv60.1]), (Qab.mk p.l rv70.at_ rv70.Err)) (by simp only [Qcp, h7, h9, h16, h58, hg5, hg61, hg71, cs4]); subst hq
   exact Kr (.slice none 0 0, .slice a68 1 k69) rfl (.cellN 2 rfl QdZ rfl (QaB _ _) rfl .nil) [0, 1, 3] en
  intro h58
  have g76 := ne_of_beq_false h58
  refine KS ?_
  refine Oq (Qh3 (l := (p.l.getD p.at_.toNat default).Text) (m := (Str.mk [115, 111, 117, 114, 99, 101]))) (Oq Va (KS ?_))
  refine Kc ?_ ?_
  ·intro h77
   have g78 := eq_of_beq h77
   refine KS ?_
   refine Oq Vm ?_
   refine QaK (Qa8 (Qab.mk p.l (p.at_ + 1) p.Err)) fun rv79 hg80 => ?_
   have hc81 := QiN pP (Qab.mk p.l (p.at_ + 1) p.Err) pa0 pk0 pre pre pre rv79 hg80
   refine Oc [0, 4] QiG hc81 ?_
   rintro - ⟨he82, he83, he84, he85⟩
   unfold Qac at he83 he84
   have he85 : (0 <= rv79.2.at_ /\ rv79.2.at_ <= (p.l.length : Int)) := he85
   refine Oq (Vfa Qdn 3) (Ost (QfJ [3] sh3 [vi 4, .string (bs (Str.mk [])), .slice none 0 0, .slice none 0 0]) (Oq (Vfa Qfu 0) (Ost (QfJ [0] sh9 [vi 4, .string (bs rv79.1), .slice none 0 0, .slice none 0 0]) (KS ?_))))
   refine Oq Vm ?_
   refine QaK (QbL (Qab.mk p.l rv79.2.at_ rv79.2.Err)) fun rv86 hg87 => ?_
   have hc88 := Qjo pP (Qab.mk p.l rv79.2.at_ rv79.2.Err) pa0 pk0 pre pre pre rv86 hg87
   refine Oc [1, 4] Qjq hc88 ?_
   rintro - ⟨he89, he90, he91⟩
   unfold Qac at he89 he90
   have he91 : (0 <= rv86.at_ /\ rv86.at_ <= (p.l.length : Int)) := he91
   refine KS ?_
   refine Oq (QcR QdZ 1) (Ost (Scl [4] QdZ [vi 4, .string (bs rv79.1), .slice none 0 0, .slice none 0 0]) (KS ?_))
   refine Jl [] (Ent.slNil (α := Str)) ?_
   have hq := q4 hrr ((Qbc.mk 4 rv79.1 [] []), (Qab.mk p.l rv86.at_ rv86.Err)) (by simp only [Qcp, h7, h9, h16, h58, h77, hg5, hg80, hg87, cs4]); subst hq
   exact Kr (.slice none 0 0, .slice none 0 0) rfl (.cellN 1 rfl QdZ rfl (QaB _ _) rfl .nil) [0, 0, 2] en
  intro h77
  have g92 := ne_of_beq_false h77
  refine KS ?_
  refine Oq (Qh3 (l := (p.l.getD p.at_.toNat default).Text) (m := (Str.mk [115, 105, 110, 107]))) (Oq Va (KS ?_))
  refine Kc ?_ ?_
  ·intro h93
   have g94 := eq_of_beq h93
   refine KS ?_
   refine Oq Vm ?_
   refine QaK (Qa8 (Qab.mk p.l (p.at_ + 1) p.Err)) fun rv95 hg96 => ?_
   have hc97 := QiN pP (Qab.mk p.l (p.at_ + 1) p.Err) pa0 pk0 pre pre pre rv95 hg96
   refine Oc [0, 4] QiG hc97 ?_
   rintro - ⟨he98, he99, he100, he101⟩
   unfold Qac at he99 he100
   have he101 : (0 <= rv95.2.at_ /\ rv95.2.at_ <= (p.l.length : Int)) := he101
   refine Oa (AsV QcS Qgh [.string (bs rv95.1)] [.string (bs rv95.1)]) fun c102 => ?_
   refine Jo 0 ?_; rintro a103 k104 rfl
   refine Oq (Vfa Qdn 4) (Ost (QfJ [4] sh3 [vi 5, .string (bs (Str.mk [])), .slice none 0 0, .slice none 0 0]) (Oq (Vfa Qc0 0) (Ost (QfJ [0] Qeq [vi 5, .string (bs (Str.mk [])), .slice a103 1 k104, .slice none 0 0]) (KS ?_))))
   refine Oq Vm ?_
   refine QaK (QbL (Qab.mk p.l rv95.2.at_ rv95.2.Err)) fun rv105 hg106 => ?_
   have hc107 := Qjo pP (Qab.mk p.l rv95.2.at_ rv95.2.Err) pa0 pk0 pre pre pre rv105 hg106
   refine Oc [2, 5] Qjq hc107 ?_
   rintro - ⟨he108, he109, he110⟩
   unfold Qac at he108 he109
   have he110 : (0 <= rv105.at_ /\ rv105.at_ <= (p.l.length : Int)) := he110
   refine KS ?_
   refine Oq (QcR QdZ 1) (Ost (Scl [5] QdZ [vi 5, .string (bs (Str.mk [])), .slice a103 1 k104, .slice none 0 0]) (KS ?_))
   refine Jl [3] (Ent.cr1 (α := Str) (A := []) _ rv95.1 _ aB1 (fun _ => ⟨rfl, aS1⟩)) ?_
   refine Jl [0] (Ent.freeze _ _) ?_
   refine Jl [] (Ent.slNil (α := Str)) ?_
   have hq := q4 hrr ((Qbc.mk 5 (Str.mk []) [rv95.1] []), (Qab.mk p.l rv105.at_ rv105.Err)) (by simp only [Qcp, h7, h9, h16, h58, h77, h93, hg5, hg96, hg106, cs4]); subst hq
   exact Kr (.slice a103 1 k104, .slice none 0 0) rfl (.cellN 2 rfl QdZ rfl (QaB _ _) rfl .nil) [1, 0, 3] en
  intro h93
  have g111 := ne_of_beq_false h93
  refine KS ?_
  refine Oq (Qh3 (l := (p.l.getD p.at_.toNat default).Text) (m := (Str.mk [115, 97, 110, 105, 116, 105, 122, 101]))) (Oq Va (KS ?_))
  refine Kc ?_ ?_
  ·intro h112
   have g113 := eq_of_beq h112
   refine KS ?_
   refine Oq Vm ?_
   refine QaK (Qa8 (Qab.mk p.l (p.at_ + 1) p.Err)) fun rv114 hg115 => ?_
   have hc116 := QiN pP (Qab.mk p.l (p.at_ + 1) p.Err) pa0 pk0 pre pre pre rv114 hg115
   refine Oc [0, 4] QiG hc116 ?_
   rintro - ⟨he117, he118, he119, he120⟩
   unfold Qac at he118 he119
   have he120 : (0 <= rv114.2.at_ /\ rv114.2.at_ <= (p.l.length : Int)) := he120
   refine Oq (Vfa Qdn 3) (Ost (QfJ [3] sh3 [vi 6, .string (bs (Str.mk [])), .slice none 0 0, .slice none 0 0]) (Oq (Vfa Qfu 0) (Ost (QfJ [0] sh9 [vi 6, .string (bs rv114.1), .slice none 0 0, .slice none 0 0]) (KS ?_))))
   refine Oq Vm ?_
   refine QaK (QbL (Qab.mk p.l rv114.2.at_ rv114.2.Err)) fun rv121 hg122 => ?_
   have hc123 := Qjo pP (Qab.mk p.l rv114.2.at_ rv114.2.Err) pa0 pk0 pre pre pre rv121 hg122
   refine Oc [1, 4] Qjq hc123 ?_
   rintro - ⟨he124, he125, he126⟩
   unfold Qac at he124 he125
   have he126 : (0 <= rv121.at_ /\ rv121.at_ <= (p.l.length : Int)) := he126
   refine KS ?_
   refine Oq (QcR QdZ 1) (Ost (Scl [4] QdZ [vi 6, .string (bs rv114.1), .slice none 0 0, .slice none 0 0]) (KS ?_))
   refine Jl [] (Ent.slNil (α := Str)) ?_
   have hq := q4 hrr ((Qbc.mk 6 rv114.1 [] []), (Qab.mk p.l rv121.at_ rv121.Err)) (by simp only [Qcp, h7, h9, h16, h58, h77, h93, h112, hg5, hg115, hg122, cs4]); subst hq
   exact Kr (.slice none 0 0, .slice none 0 0) rfl (.cellN 1 rfl QdZ rfl (QaB _ _) rfl .nil) [0, 0, 2] en
  intro h112
  have g127 := ne_of_beq_false h112
  refine KS ?_
  refine Oq (Qh3 (l := (p.l.getD p.at_.toNat default).Text) (m := (Str.mk [103, 111, 116, 111]))) (Oq Va (KS ?_))
  refine Kc ?_ ?_
  ·intro h128
   have g129 := eq_of_beq h128
   refine KS ?_
   refine Oq Vm ?_
   refine QaK (Qa8 (Qab.mk p.l (p.at_ + 1) p.Err)) fun rv130 hg131 => ?_
   have hc132 := QiN pP (Qab.mk p.l (p.at_ + 1) p.Err) pa0 pk0 pre pre pre rv130 hg131
   refine Oc [0, 4] QiG hc132 ?_
   rintro - ⟨he133, he134, he135, he136⟩
   unfold Qac at he134 he135
   have he136 : (0 <= rv130.2.at_ /\ rv130.2.at_ <= (p.l.length : Int)) := he136
   refine Oa (AsV QcS Qgh [.string (bs rv130.1)] [.string (bs rv130.1)]) fun c137 => ?_
   refine Jo 0 ?_; rintro a138 k139 rfl
   refine Oq (Vfa Qdn 4) (Ost (QfJ [4] sh3 [vi 7, .string (bs (Str.mk [])), .slice none 0 0, .slice none 0 0]) (Oq (Vfa Qc4 0) (Ost (QfJ [0] Qeq [vi 7, .string (bs (Str.mk [])), .slice none 0 0, .slice a138 1 k139]) (KS ?_))))
   refine Oq Vm ?_
   refine QaK (QbL (Qab.mk p.l rv130.2.at_ rv130.2.Err)) fun rv140 hg141 => ?_
   have hc142 := Qjo pP (Qab.mk p.l rv130.2.at_ rv130.2.Err) pa0 pk0 pre pre pre rv140 hg141
   refine Oc [2, 5] Qjq hc142 ?_
   rintro - ⟨he143, he144, he145⟩
   unfold Qac at he143 he144
   have he145 : (0 <= rv140.at_ /\ rv140.at_ <= (p.l.length : Int)) := he145
   refine KS ?_
   refine Oq (QcR QdZ 1) (Ost (Scl [5] QdZ [vi 7, .string (bs (Str.mk [])), .slice none 0 0, .slice a138 1 k139]) (KS ?_))
   refine Jl [3] (Ent.cr1 (α := Str) (A := []) _ rv130.1 _ aB1 (fun _ => ⟨rfl, aS1⟩)) ?_
   refine Jl [0] (Ent.freeze _ _) ?_
   refine Jl [] (Ent.slNil (α := Str)) ?_
   have hq := q4 hrr ((Qbc.mk 7 (Str.mk []) [] [rv130.1]), (Qab.mk p.l rv140.at_ rv140.Err)) (by simp only [Qcp, h7, h9, h16, h58, h77, h93, h112, h128, hg5, hg131, hg141, cs4]); subst hq
   exact Kr (.slice none 0 0, .slice a138 1 k139) rfl (.cellN 2 rfl QdZ rfl (QaB _ _) rfl .nil) [0, 1, 3] en
  intro h128
  have g146 := ne_of_beq_false h128
  refine KS ?_
  refine Oq (Qh3 (l := (p.l.getD p.at_.toNat default).Text) (m := (Str.mk [98, 114, 97, 110, 99, 104]))) (Oq Va (KS ?_))
  refine Kc ?_ ?_
  ·intro h147
   have g148 := eq_of_beq h147
   refine KS ?_
   refine Oq Vm ?_
   refine QaK (Qa8 (Qab.mk p.l (p.at_ + 1) p.Err)) fun rv149 hg150 => ?_
   have hc151 := QiN pP (Qab.mk p.l (p.at_ + 1) p.Err) pa0 pk0 pre pre pre rv149 hg150
   refine Oc [0, 4] QiG hc151 ?_
   rintro - ⟨he152, he153, he154, he155⟩
   unfold Qac at he153 he154
   have he155 : (0 <= rv149.2.at_ /\ rv149.2.at_ <= (p.l.length : Int)) := he155
   refine Oa (AsV QcS Qgh [.string (bs rv149.1)] [.string (bs rv149.1)]) fun c156 => ?_
   refine Jo 0 ?_; rintro a157 k158 rfl
   refine Oq (Vfa Qdn 4) (Ost (QfJ [4] sh3 [vi 8, .string (bs (Str.mk [])), .slice none 0 0, .slice none 0 0]) (Oq (Vfa Qc0 0) (Ost (QfJ [0] Qeq [vi 8, .string (bs (Str.mk [])), .slice a157 1 k158, .slice none 0 0]) (KS ?_))))
   refine Oq Vm ?_
   refine QaK (Qa8 (Qab.mk p.l rv149.2.at_ rv149.2.Err)) fun rv159 hg160 => ?_
   have hc161 := QiN pP (Qab.mk p.l rv149.2.at_ rv149.2.Err) pa0 pk0 pre pre pre rv159 hg160
   refine Oc [2, 5] QiG hc161 ?_
   rintro - ⟨he162, he163, he164, he165⟩
   unfold Qac at he163 he164
   have he165 : (0 <= rv159.2.at_ /\ rv159.2.at_ <= (p.l.length : Int)) := he165
   refine Oa (AsV QcS Qgh [.string (bs rv159.1)] [.string (bs rv159.1)]) fun c166 => ?_
   refine Jo 0 ?_; rintro a167 k168 rfl
   refine Oq (Vfa Qc4 2) (Ost (QfJ [2] Qeq [vi 8, .string (bs (Str.mk [])), .slice a157 1 k158, .slice a167 1 k168]) (KS ?_))
   refine Jp 0 fun hp169 => ?_
   refine Qat [0, 1, 0, 4, 12, 31, 63, 127] Qcz ?_
   refine Dv [0] (Vfa Qc4 0) (Dv [1] (QaV Qeq 0) (Dv [] Vm ?_))
   refine QaK (Qa8 (Qab.mk p.l rv159.2.at_ rv159.2.Err)) fun rv170 hg171 => ?_
   refine Dx [3, 8] [3] [2, 0, 1] (fun G => .string (bs rv170.1)) [fun G => SP.fact (rv170.1.b.length <= 140737488355328 /\ Qac rv170.2.at_ /\ Qac rv170.2.Err /\ (0 <= rv170.2.at_ /\ rv170.2.at_ <= ((Qab.mk p.l rv159.2.at_ rv159.2.Err).l.length : Int))), fun G => Cl pP [vl pa0 pk0 p.l, vi rv170.2.at_, vi rv170.2.Err]] (fun G => xC [0, 0] QiG (QiN pP (Qab.mk p.l rv159.2.at_ rv159.2.Err) pa0 pk0 pre pre pre rv170 hg171)) (Dx [] [] [0] (fun G => (G.g 4 0)) [fun G => Cr (G.g 4 0) 1 [.string (bs rv170.1)]] (fun G => xA (AsV QcS Qgh [.string (bs rv170.1)] [.string (bs rv170.1)])) ?_)
   have hn174 : ([rv159.1] ++ [rv170.1] : List Str).length = 1 + 1 := la ([rv159.1] : List Str) ([rv170.1] : List Str)
   refine Dx [2, 9, 11] [2, 11] [1, 0] (fun G => (G.g 5 0)) [fun G => os (G.g 5 0) (([rv159.1] ++ [rv170.1]) : List Str)] (fun G => by refine xf 1 rfl ?_; rintro ⟨he175, he176, he177, he178⟩; unfold Qac at he176 he177; exact xp [0] rfl (Ent.cr1 (α := Str) (A := []) _ rv159.1 _ aB1 (fun _ => ⟨rfl, aS1⟩)) (xp [2] rfl (Ent.cr1 (α := Str) (A := []) _ rv170.1 _ aB1 (fun _ => ⟨rfl, aS1⟩)) (xA (ApO [1, 0] QcS QcS Qgh)))) (Dv [0] (Vfa Qc4 0) (Dx0 [1, 12] [1] [1, 0] [fun G => Cl p3 [vi 8, .string (bs (Str.mk [])), .slice a157 1 k158, (G.g 5 0)]] (fun G => x1 1 rfl Qfd fun ho179 => (xS (OpS.frame [0] rfl (OpS.storeClF [(G.g 5 0)] [vi 8, .string (bs (Str.mk [])), .slice a157 1 k158, (G.g 5 0)] rfl rfl rfl Qeq (Qb9 ho179) rfl (by simp only [List.all_cons, List.all_nil, ho179, Bool.and_true, Bool.true_and] <;> rfl) aB1 rfl)))) ?_))
   refine Dn ⟨by kernel_rfl, fun G => ?_⟩
   refine Jw2 [(0, pP), (2, p2), (3, p3)] [0, 4, 5, 6, 7, 8] [SP.fact (rv170.1.b.length <= 140737488355328 /\ Qac rv170.2.at_ /\ Qac rv170.2.Err /\ (0 <= rv170.2.at_ /\ rv170.2.at_ <= ((Qab.mk p.l rv159.2.at_ rv159.2.Err).l.length : Int))), Cl pP [vl pa0 pk0 p.l, vi rv170.2.at_, vi rv170.2.Err], os (G.g 5 0) (([rv159.1] ++ [rv170.1]) : List Str), Cl p3 [vi 8, .string (bs (Str.mk [])), .slice a157 1 k158, (G.g 5 0)]] ?_
   generalize G.g 5 0 = c173
   refine Jf 6 rfl ?_; rintro ⟨he180, he181, he182, he183⟩
   unfold Qac at he181 he182
   refine Jk [1, 1, 3, 3, 5, 5, 5] ?_
   refine Jo 5 ?_; rintro a184 k185 rfl
   refine Fb 16 5 fun _ => ?_
   refine FoS 5 fun ho187 => ?_
   refine KS ?_
   refine Oq Vm ?_
   refine QaK (QbL (Qab.mk p.l rv170.2.at_ rv170.2.Err)) fun rv188 hg189 => ?_
   have hc190 := Qjo pP (Qab.mk p.l rv170.2.at_ rv170.2.Err) pa0 pk0 pre pre pre rv188 hg189
   refine Oc [4, 3] Qjq hc190 ?_
   rintro - ⟨he191, he192, he193⟩
   unfold Qac at he191 he192
   have he193 : (0 <= rv188.at_ /\ rv188.at_ <= (p.l.length : Int)) := he193
   refine KS ?_
   refine Oq (QcR QdZ 6) (Ost (Scl [3] QdZ [vi 8, .string (bs (Str.mk [])), .slice a157 1 k158, vl a184 k185 ([rv159.1] ++ [rv170.1])]) (KS ?_))
   refine Jl [2] (Ent.cr1 (α := Str) (A := []) _ rv149.1 _ aB1 (fun _ => ⟨rfl, aS1⟩)) ?_
   refine Jl [0] (Ent.freeze _ _) ?_
   refine Jl [5] (Ent.freeze _ _) ?_
   have hq := q4 hrr ((Qbc.mk 8 (Str.mk []) [rv149.1] ([rv159.1] ++ [rv170.1])), (Qab.mk p.l rv188.at_ rv188.Err)) (by simp only [Qcp, h7, h9, h16, h58, h77, h93, h112, h128, h147, hg5, hg150, hg160, hg171, hg189, cs4]); subst hq
   exact Kr (.slice a157 1 k158, vl a184 k185 ([rv159.1] ++ [rv170.1])) rfl (.cellN 2 rfl QdZ rfl (QaB _ _) rfl .nil) [1, 0, 3] en
  intro h147
  have g194 := ne_of_beq_false h147
  refine KS ?_
  refine Oq (Qh3 (l := (p.l.getD p.at_.toNat default).Text) (m := (Str.mk [114, 101, 116, 117, 114, 110]))) (Oq Va (KS ?_))
  refine Kc ?_ ?_
  ·intro h195
   have g196 := eq_of_beq h195
   refine KS ?_
   refine Oq (Vfa Qdn 3) (Ost (QfJ [3] sh3 [vi 9, .string (bs (Str.mk [])), .slice none 0 0, .slice none 0 0]) (KS ?_))
   refine Oq Vm ?_
   refine QaK (QbL (Qab.mk p.l (p.at_ + 1) p.Err)) fun rv197 hg198 => ?_
   have hc199 := Qjo pP (Qab.mk p.l (p.at_ + 1) p.Err) pa0 pk0 pre pre pre rv197 hg198
   refine Oc [1, 4] Qjq hc199 ?_
   rintro - ⟨he200, he201, he202⟩
   unfold Qac at he200 he201
   have he202 : (0 <= rv197.at_ /\ rv197.at_ <= (p.l.length : Int)) := he202
   refine KS ?_
   refine Oq (QcR QdZ 1) (Ost (Scl [4] QdZ [vi 9, .string (bs (Str.mk [])), .slice none 0 0, .slice none 0 0]) (KS ?_))
   refine Jl [] (Ent.slNil (α := Str)) ?_
   have hq := q4 hrr ((Qbc.mk 9 (Str.mk []) [] []), (Qab.mk p.l rv197.at_ rv197.Err)) (by simp only [Qcp, h7, h9, h16, h58, h77, h93, h112, h128, h147, h195, hg5, hg198, cs4]); subst hq
   exact Kr (.slice none 0 0, .slice none 0 0) rfl (.cellN 1 rfl QdZ rfl (QaB _ _) rfl .nil) [0, 0, 2] en
  intro h195
  have g203 := ne_of_beq_false h195
  refine KS ?_
  refine Oq Vm ?_
  refine QaK (Qa8 (Qab.mk p.l (p.at_ + 1) p.Err)) fun rv204 hg205 => ?_
  have hc206 := QiN pP (Qab.mk p.l (p.at_ + 1) p.Err) pa0 pk0 pre pre pre rv204 hg205
  refine Oc [0, 4] QiG hc206 ?_
  rintro - ⟨he207, he208, he209, he210⟩
  unfold Qac at he208 he209
  have he210 : (0 <= rv204.2.at_ /\ rv204.2.at_ <= (p.l.length : Int)) := he210
  refine Oq (Vfa Qdn 3) (Ost (QfJ [3] sh3 [vi 1, .string (bs (Str.mk [])), .slice none 0 0, .slice none 0 0]) (Oq (Vfa Qfu 0) (Ost (QfJ [0] sh9 [vi 1, .string (bs rv204.1), .slice none 0 0, .slice none 0 0]) (KS ?_))))
  refine Oq Vm ?_
  refine QaK (Qb3 (Qab.mk p.l rv204.2.at_ rv204.2.Err) 2) fun rv211 hg212 => ?_
  have hc213 := QpZ pP (Qab.mk p.l rv204.2.at_ rv204.2.Err) pa0 pk0 2 pre pre pre pre rv211 hg212
  refine Oc [1, 4] Qo0 hc213 ?_
  rintro - -
  refine Oq QeT (KS ?_)
  refine Kc ?_ ?_
  ·intro h214
   have h216 := not_true h214
   refine KS ?_
   refine Oq Vm ?_
   refine QaK (QbD (Qab.mk p.l rv204.2.at_ rv204.2.Err) 4) fun rv218 hg219 => ?_
   have hc220 := QjI pP (Qab.mk p.l rv204.2.at_ rv204.2.Err) pa0 pk0 4 pre pre pre pre rv218 hg219
   refine Oc [0, 4] QjJ hc220 ?_
   rintro - ⟨he221, he222, he223⟩
   unfold Qac at he221 he222
   have he223 : (0 <= rv218.at_ /\ rv218.at_ <= (p.l.length : Int)) := he223
   refine KS ?_
   refine Oq (QcR QdZ 1) (Ost (Scl [4] QdZ [vi 1, .string (bs rv204.1), .slice none 0 0, .slice none 0 0]) (KS ?_))
   refine Jl [] (Ent.slNil (α := Str)) ?_
   have hq := q4 hrr ((Qbc.mk 1 rv204.1 [] []), (Qab.mk p.l rv218.at_ rv218.Err)) (by simp only [Qcp, h7, h9, h16, h58, h77, h93, h112, h128, h147, h195, h214, h216, hg5, hg205, hg212, hg219, cs4]); subst hq
   exact Kr (.slice none 0 0, .slice none 0 0) rfl (.cellN 1 rfl QdZ rfl (QaB _ _) rfl .nil) [0, 0, 2] en
  intro h214
  have h225 := not_false h214
  try (have hlt := Qjz (by assumption : Qeh _ _ = rv211) h225; try dsimp only at hlt)
  try (have hlt := QfK (by assumption : Qbs _ = rv211) h225; try dsimp only at hlt)
  try (have hlt := QfL (by assumption : Qb3 _ _ = rv211) h225; try dsimp only at hlt)
  refine KS ?_
  refine Oq Vm (Oq (Vn 0) (Oq (Vfa Qbj 0) (Oq (QaV sh3 0) (Oq Qbb (Oq (Vn 0) (Oq (Vfa Qbj 0) (Ost (QfJ [0] sh3 [vl pa0 pk0 p.l, vi (rv204.2.at_ + 1), vi rv204.2.Err]) (KS ?_))))))))
  refine Oq Vm ?_
  refine QaK (QfC (Qab.mk p.l (rv204.2.at_ + 1) rv204.2.Err)) fun rv228 hg229 => ?_
  have hc230 := QrU pP (Qab.mk p.l (rv204.2.at_ + 1) rv204.2.Err) pa0 pk0 pre pre pre rv228 hg229
  refine Oc [0, 4] Qrp hc230 ?_
  rintro c227 ⟨he231, he232, he233, he234⟩
  unfold Qac at he231 he232
  have he233 : (0 <= rv228.2.at_ /\ rv228.2.at_ <= (p.l.length : Int)) := he233
  refine Jo 0 ?_; rintro a235 k236 rfl
  refine Fb 16 0 fun _ => ?_
  refine FoS 0 fun ho238 => ?_
  refine Oq (Vfa Qc0 2) (Ost (QfJ [2] Qeq [vi 1, .string (bs rv204.1), vl a235 k236 rv228.1, .slice none 0 0]) (KS ?_))
  refine Oq Vm ?_
  refine QaK (QbL (Qab.mk p.l rv228.2.at_ rv228.2.Err)) fun rv239 hg240 => ?_
  have hc241 := Qjo pP (Qab.mk p.l rv228.2.at_ rv228.2.Err) pa0 pk0 pre pre pre rv239 hg240
  refine Oc [2, 5] Qjq hc241 ?_
  rintro - ⟨he242, he243, he244⟩
  unfold Qac at he242 he243
  have he244 : (0 <= rv239.at_ /\ rv239.at_ <= (p.l.length : Int)) := he244
  refine KS ?_
  refine Oq (QcR QdZ 1) (Ost (Scl [5] QdZ [vi 1, .string (bs rv204.1), vl a235 k236 rv228.1, .slice none 0 0]) (KS ?_))
  refine Jl [] (Ent.slNil (α := Str)) ?_
  have hq := q4 hrr ((Qbc.mk 1 rv204.1 rv228.1 []), (Qab.mk p.l rv239.at_ rv239.Err)) (by simp only [Qcp, h7, h9, h16, h58, h77, h93, h112, h128, h147, h195, h214, h225, hg5, hg205, hg212, hg229, hg240, cs4]); subst hq
  exact Kr (vl a235 k236 rv228.1, .slice none 0 0) rfl (.cellN 1 rfl QdZ rfl (QaB _ _) rfl .nil) [4, 0, 2] en
 intro h7
 have h246 := not_false h7
 try (have hlt := Qjz (by assumption : Qeh _ _ = rv4) h246; try dsimp only at hlt)
 try (have hlt := QfK (by assumption : Qbs _ = rv4) h246; try dsimp only at hlt)
 try (have hlt := QfL (by assumption : Qb3 _ _ = rv4) h246; try dsimp only at hlt)
 refine KS ?_
 refine Oq Vm (KS ?_)
 refine Oq (Qh3 (l := (Str.mk [])) (m := (Str.mk [117, 115, 101]))) (Oq Va (KS ?_))
 refine Kc ?_ ?_
 ·intro h248
  have g249 := eq_of_beq h248
  refine KS ?_
  refine Oq Vm ?_
  refine QaK (Qa8 p) fun rv250 hg251 => ?_
  have hc252 := QiN pP p pa0 pk0 pre pre pre rv250 hg251
  refine Oc [0, 2] QiG hc252 ?_
  rintro - ⟨he253, he254, he255, he256⟩
  unfold Qac at he254 he255
  refine Oa (AsV QcS Qgh [.string (bs rv250.1)] [.string (bs rv250.1)]) fun c257 => ?_
  refine Jo 0 ?_; rintro a258 k259 rfl
  refine Oq (Vfa Qdn 2) (Ost (QfJ [2] sh3 [vi 2, .string (bs (Str.mk [])), .slice none 0 0, .slice none 0 0]) (Oq (Vfa Qc0 0) (Ost (QfJ [0] Qeq [vi 2, .string (bs (Str.mk [])), .slice a258 1 k259, .slice none 0 0]) (KS ?_))))
  refine Jp 0 fun hp260 => ?_
  refine Qat [0, 1, 0, 4, 15, 31, 63] Qcz ?_
  refine Dv [0] (Vfa Qc0 0) (Dv [1] (QaV Qeq 0) (Dv [] Vm ?_))
  refine QaK (QgA (Qab.mk p.l rv250.2.at_ rv250.2.Err) 1) fun rv262 hg263 => Dx [3, 5] [3] [3, 0, 1, 2] (fun G => (G.g 3 0)) [fun G => SP.fact (Qac rv262.2.at_ /\ Qac rv262.2.Err /\ (0 <= rv262.2.at_ /\ rv262.2.at_ <= ((Qab.mk p.l rv250.2.at_ rv250.2.Err).l.length : Int)) /\ (rv262.1.length <= 3)), fun G => sl (G.g 3 0) rv262.1, fun G => Cl pP [vl pa0 pk0 p.l, vi rv262.2.at_, vi rv262.2.Err]] (fun G => xC [0, 0] QrT (Qq7 pP (Qab.mk p.l rv250.2.at_ rv250.2.Err) pa0 pk0 1 pre pre pre pre pre rv262 hg263)) ?_
  have hn265 : ([rv250.1] ++ rv262.1 : List Str).length = 1 + rv262.1.length := la ([rv250.1] : List Str) rv262.1
  refine Dx [2, 6, 7] [2] [1, 2, 0] (fun G => (G.g 4 0)) [fun G => os (G.g 4 0) (([rv250.1] ++ rv262.1) : List Str)] (fun G => by refine xf 1 rfl ?_; rintro ⟨he266, he267, he268, he269⟩; unfold Qac at he266 he267; exact xp [0] rfl (Ent.cr1 (α := Str) (A := []) _ rv250.1 _ aB1 (fun _ => ⟨rfl, aS1⟩)) (xA (Ap [0, 1] QcS QcS Qgh))) (Dv [0] (Vfa Qc0 0) (Dx0 [1, 9] [1] [1, 0] [fun G => Cl p3 [vi 2, .string (bs (Str.mk [])), (G.g 4 0), .slice none 0 0]] (fun G => x1 1 rfl Qfd fun ho270 => (xS (OpS.frame [0] rfl (OpS.storeClF [(G.g 4 0)] [vi 2, .string (bs (Str.mk [])), (G.g 4 0), .slice none 0 0] rfl rfl rfl Qeq (Qb9 ho270) rfl (by simp only [List.all_cons, List.all_nil, ho270, Bool.and_true, Bool.true_and] <;> rfl) aB1 rfl)))) ?_))
  refine Dn ⟨by kernel_rfl, fun G => ?_⟩
  refine Jw2 [(0, pP), (2, p2), (3, p3)] [0, 4, 5] [SP.fact (Qac rv262.2.at_ /\ Qac rv262.2.Err /\ (0 <= rv262.2.at_ /\ rv262.2.at_ <= ((Qab.mk p.l rv250.2.at_ rv250.2.Err).l.length : Int)) /\ (rv262.1.length <= 3)), sl (G.g 3 0) rv262.1, Cl pP [vl pa0 pk0 p.l, vi rv262.2.at_, vi rv262.2.Err], os (G.g 4 0) (([rv250.1] ++ rv262.1) : List Str), Cl p3 [vi 2, .string (bs (Str.mk [])), (G.g 4 0), .slice none 0 0]] ?_
  generalize G.g 3 0 = c261, G.g 4 0 = c264
  refine Jf 3 rfl ?_; rintro ⟨he271, he272, he273, he274⟩
  unfold Qac at he271 he272
  refine Jk [1, 1, 3, 4, 4, 4] ?_
  refine Jo 2 ?_; rintro a275 k276 rfl
  refine Fb 16 2 fun _ => ?_
  refine FoS 2 fun ho278 => ?_
  refine Jo 4 ?_; rintro a279 k280 rfl
  refine Fb 16 4 fun _ => ?_
  refine FoS 4 fun ho282 => ?_
  refine KS ?_
  refine Oq Vm ?_
  refine QaK (QbL (Qab.mk p.l rv262.2.at_ rv262.2.Err)) fun rv283 hg284 => ?_
  have hc285 := Qjo pP (Qab.mk p.l rv262.2.at_ rv262.2.Err) pa0 pk0 pre pre pre rv283 hg284
  refine Oc [3, 1] Qjq hc285 ?_
  rintro - ⟨he286, he287, he288⟩
  unfold Qac at he286 he287
  have he288 : (0 <= rv283.at_ /\ rv283.at_ <= (p.l.length : Int)) := he288
  refine KS ?_
  refine Oq (QcR QdZ 5) (Ost (Scl [1] QdZ [vi 2, .string (bs (Str.mk [])), vl a279 k280 ([rv250.1] ++ rv262.1), .slice none 0 0]) (KS ?_))
  refine Jl [4] (Ent.freeze _ _) ?_
  refine Jl [] (Ent.slNil (α := Str)) ?_
  have hq := q4 hrr ((Qbc.mk 2 (Str.mk []) ([rv250.1] ++ rv262.1) []), (Qab.mk p.l rv283.at_ rv283.Err)) (by simp only [Qcp, h7, h246, h248, hg5, hg251, hg263, hg284, cs4]); subst hq
  exact Kr (vl a279 k280 ([rv250.1] ++ rv262.1), .slice none 0 0) rfl (.cellN 2 rfl QdZ rfl (QaB _ _) rfl .nil) [1, 0, 3] en
 intro h248
 have g289 := ne_of_beq_false h248
 refine KS ?_
 refine Oq (Qh3 (l := (Str.mk [])) (m := (Str.mk [99, 97, 108, 108]))) (Oq Va (KS ?_))
 refine Kc ?_ ?_
 ·intro h290
  have g291 := eq_of_beq h290
  refine KS ?_
  refine Oq Vm ?_
  refine QaK (Qa8 p) fun rv292 hg293 => ?_
  have hc294 := QiN pP p pa0 pk0 pre pre pre rv292 hg293
  refine Oc [0, 2] QiG hc294 ?_
  rintro - ⟨he295, he296, he297, he298⟩
  unfold Qac at he296 he297
  refine Oa (AsV QcS Qgh [.string (bs rv292.1)] [.string (bs rv292.1)]) fun c299 => ?_
  refine Jo 0 ?_; rintro a300 k301 rfl
  refine Oq (Vfa Qdn 2) (Ost (QfJ [2] sh3 [vi 3, .string (bs (Str.mk [])), .slice none 0 0, .slice none 0 0]) (Oq (Vfa Qc4 0) (Ost (QfJ [0] Qeq [vi 3, .string (bs (Str.mk [])), .slice none 0 0, .slice a300 1 k301]) (KS ?_))))
  refine Oq Vm ?_
  refine QaK (QbL (Qab.mk p.l rv292.2.at_ rv292.2.Err)) fun rv302 hg303 => ?_
  have hc304 := Qjo pP (Qab.mk p.l rv292.2.at_ rv292.2.Err) pa0 pk0 pre pre pre rv302 hg303
  refine Oc [2, 3] Qjq hc304 ?_
  rintro - ⟨he305, he306, he307⟩
  unfold Qac at he305 he306
  have he307 : (0 <= rv302.at_ /\ rv302.at_ <= (p.l.length : Int)) := he307
  refine KS ?_
  refine Oq (QcR QdZ 1) (Ost (Scl [3] QdZ [vi 3, .string (bs (Str.mk [])), .slice none 0 0, .slice a300 1 k301]) (KS ?_))
  refine Jl [3] (Ent.cr1 (α := Str) (A := []) _ rv292.1 _ aB1 (fun _ => ⟨rfl, aS1⟩)) ?_
  refine Jl [0] (Ent.freeze _ _) ?_
  refine Jl [] (Ent.slNil (α := Str)) ?_
  have hq := q4 hrr ((Qbc.mk 3 (Str.mk []) [] [rv292.1]), (Qab.mk p.l rv302.at_ rv302.Err)) (by simp only [Qcp, h7, h246, h248, h290, hg5, hg293, hg303, cs4]); subst hq
  exact Kr (.slice none 0 0, .slice a300 1 k301) rfl (.cellN 2 rfl QdZ rfl (QaB _ _) rfl .nil) [0, 1, 3] en
 intro h290
 have g308 := ne_of_beq_false h290
 refine KS ?_
 refine Oq (Qh3 (l := (Str.mk [])) (m := (Str.mk [115, 111, 117, 114, 99, 101]))) (Oq Va (KS ?_))
 refine Kc ?_ ?_
 ·intro h309
  have g310 := eq_of_beq h309
  refine KS ?_
  refine Oq Vm ?_
  refine QaK (Qa8 p) fun rv311 hg312 => ?_
  have hc313 := QiN pP p pa0 pk0 pre pre pre rv311 hg312
  refine Oc [0, 2] QiG hc313 ?_
  rintro - ⟨he314, he315, he316, he317⟩
  unfold Qac at he315 he316
  refine Oq (Vfa Qdn 1) (Ost (QfJ [1] sh3 [vi 4, .string (bs (Str.mk [])), .slice none 0 0, .slice none 0 0]) (Oq (Vfa Qfu 0) (Ost (QfJ [0] sh9 [vi 4, .string (bs rv311.1), .slice none 0 0, .slice none 0 0]) (KS ?_))))
  refine Oq Vm ?_
  refine QaK (QbL (Qab.mk p.l rv311.2.at_ rv311.2.Err)) fun rv318 hg319 => ?_
  have hc320 := Qjo pP (Qab.mk p.l rv311.2.at_ rv311.2.Err) pa0 pk0 pre pre pre rv318 hg319
  refine Oc [1, 2] Qjq hc320 ?_
  rintro - ⟨he321, he322, he323⟩
  unfold Qac at he321 he322
  have he323 : (0 <= rv318.at_ /\ rv318.at_ <= (p.l.length : Int)) := he323
  refine KS ?_
  refine Oq (QcR QdZ 1) (Ost (Scl [2] QdZ [vi 4, .string (bs rv311.1), .slice none 0 0, .slice none 0 0]) (KS ?_))
  refine Jl [] (Ent.slNil (α := Str)) ?_
  have hq := q4 hrr ((Qbc.mk 4 rv311.1 [] []), (Qab.mk p.l rv318.at_ rv318.Err)) (by simp only [Qcp, h7, h246, h248, h290, h309, hg5, hg312, hg319, cs4]); subst hq
  exact Kr (.slice none 0 0, .slice none 0 0) rfl (.cellN 1 rfl QdZ rfl (QaB _ _) rfl .nil) [0, 0, 2] en
 intro h309
 have g324 := ne_of_beq_false h309
 refine KS ?_
 refine Oq (Qh3 (l := (Str.mk [])) (m := (Str.mk [115, 105, 110, 107]))) (Oq Va (KS ?_))
 refine Kc ?_ ?_
 ·intro h325
  have g326 := eq_of_beq h325
  refine KS ?_
  refine Oq Vm ?_
  refine QaK (Qa8 p) fun rv327 hg328 => ?_
  have hc329 := QiN pP p pa0 pk0 pre pre pre rv327 hg328
  refine Oc [0, 2] QiG hc329 ?_
  rintro - ⟨he330, he331, he332, he333⟩
  unfold Qac at he331 he332
  refine Oa (AsV QcS Qgh [.string (bs rv327.1)] [.string (bs rv327.1)]) fun c334 => ?_
  refine Jo 0 ?_; rintro a335 k336 rfl
  refine Oq (Vfa Qdn 2) (Ost (QfJ [2] sh3 [vi 5, .string (bs (Str.mk [])), .slice none 0 0, .slice none 0 0]) (Oq (Vfa Qc0 0) (Ost (QfJ [0] Qeq [vi 5, .string (bs (Str.mk [])), .slice a335 1 k336, .slice none 0 0]) (KS ?_))))
  refine Oq Vm ?_
  refine QaK (QbL (Qab.mk p.l rv327.2.at_ rv327.2.Err)) fun rv337 hg338 => ?_
  have hc339 := Qjo pP (Qab.mk p.l rv327.2.at_ rv327.2.Err) pa0 pk0 pre pre pre rv337 hg338
  refine Oc [2, 3] Qjq hc339 ?_
  rintro - ⟨he340, he341, he342⟩
  unfold Qac at he340 he341
  have he342 : (0 <= rv337.at_ /\ rv337.at_ <= (p.l.length : Int)) := he342
  refine KS ?_
  refine Oq (QcR QdZ 1) (Ost (Scl [3] QdZ [vi 5, .string (bs (Str.mk [])), .slice a335 1 k336, .slice none 0 0]) (KS ?_))
  refine Jl [3] (Ent.cr1 (α := Str) (A := []) _ rv327.1 _ aB1 (fun _ => ⟨rfl, aS1⟩)) ?_
  refine Jl [0] (Ent.freeze _ _) ?_
  refine Jl [] (Ent.slNil (α := Str)) ?_
  have hq := q4 hrr ((Qbc.mk 5 (Str.mk []) [rv327.1] []), (Qab.mk p.l rv337.at_ rv337.Err)) (by simp only [Qcp, h7, h246, h248, h290, h309, h325, hg5, hg328, hg338, cs4]); subst hq
  exact Kr (.slice a335 1 k336, .slice none 0 0) rfl (.cellN 2 rfl QdZ rfl (QaB _ _) rfl .nil) [1, 0, 3] en
 intro h325
 have g343 := ne_of_beq_false h325
 refine KS ?_
 refine Oq (Qh3 (l := (Str.mk [])) (m := (Str.mk [115, 97, 110, 105, 116, 105, 122, 101]))) (Oq Va (KS ?_))
 refine Kc ?_ ?_
 ·intro h344
  have g345 := eq_of_beq h344
  refine KS ?_
  refine Oq Vm ?_
  refine QaK (Qa8 p) fun rv346 hg347 => ?_
  have hc348 := QiN pP p pa0 pk0 pre pre pre rv346 hg347
  refine Oc [0, 2] QiG hc348 ?_
  rintro - ⟨he349, he350, he351, he352⟩
  unfold Qac at he350 he351
  refine Oq (Vfa Qdn 1) (Ost (QfJ [1] sh3 [vi 6, .string (bs (Str.mk [])), .slice none 0 0, .slice none 0 0]) (Oq (Vfa Qfu 0) (Ost (QfJ [0] sh9 [vi 6, .string (bs rv346.1), .slice none 0 0, .slice none 0 0]) (KS ?_))))
  refine Oq Vm ?_
  refine QaK (QbL (Qab.mk p.l rv346.2.at_ rv346.2.Err)) fun rv353 hg354 => ?_
  have hc355 := Qjo pP (Qab.mk p.l rv346.2.at_ rv346.2.Err) pa0 pk0 pre pre pre rv353 hg354
  refine Oc [1, 2] Qjq hc355 ?_
  rintro - ⟨he356, he357, he358⟩
  unfold Qac at he356 he357
  have he358 : (0 <= rv353.at_ /\ rv353.at_ <= (p.l.length : Int)) := he358
  refine KS ?_
  refine Oq (QcR QdZ 1) (Ost (Scl [2] QdZ [vi 6, .string (bs rv346.1), .slice none 0 0, .slice none 0 0]) (KS ?_))
  refine Jl [] (Ent.slNil (α := Str)) ?_
  have hq := q4 hrr ((Qbc.mk 6 rv346.1 [] []), (Qab.mk p.l rv353.at_ rv353.Err)) (by simp only [Qcp, h7, h246, h248, h290, h309, h325, h344, hg5, hg347, hg354, cs4]); subst hq
  exact Kr (.slice none 0 0, .slice none 0 0) rfl (.cellN 1 rfl QdZ rfl (QaB _ _) rfl .nil) [0, 0, 2] en
 intro h344
 have g359 := ne_of_beq_false h344
 refine KS ?_
 refine Oq (Qh3 (l := (Str.mk [])) (m := (Str.mk [103, 111, 116, 111]))) (Oq Va (KS ?_))
 refine Kc ?_ ?_
 ·intro h360
  have g361 := eq_of_beq h360
  refine KS ?_
  refine Oq Vm ?_
  refine QaK (Qa8 p) fun rv362 hg363 => ?_
  have hc364 := QiN pP p pa0 pk0 pre pre pre rv362 hg363
  refine Oc [0, 2] QiG hc364 ?_
  rintro - ⟨he365, he366, he367, he368⟩
  unfold Qac at he366 he367
  refine Oa (AsV QcS Qgh [.string (bs rv362.1)] [.string (bs rv362.1)]) fun c369 => ?_
  refine Jo 0 ?_; rintro a370 k371 rfl
  refine Oq (Vfa Qdn 2) (Ost (QfJ [2] sh3 [vi 7, .string (bs (Str.mk [])), .slice none 0 0, .slice none 0 0]) (Oq (Vfa Qc4 0) (Ost (QfJ [0] Qeq [vi 7, .string (bs (Str.mk [])), .slice none 0 0, .slice a370 1 k371]) (KS ?_))))
  refine Oq Vm ?_
  refine QaK (QbL (Qab.mk p.l rv362.2.at_ rv362.2.Err)) fun rv372 hg373 => ?_
  have hc374 := Qjo pP (Qab.mk p.l rv362.2.at_ rv362.2.Err) pa0 pk0 pre pre pre rv372 hg373
  refine Oc [2, 3] Qjq hc374 ?_
  rintro - ⟨he375, he376, he377⟩
  unfold Qac at he375 he376
  have he377 : (0 <= rv372.at_ /\ rv372.at_ <= (p.l.length : Int)) := he377
  refine KS ?_
  refine Oq (QcR QdZ 1) (Ost (Scl [3] QdZ [vi 7, .string (bs (Str.mk [])), .slice none 0 0, .slice a370 1 k371]) (KS ?_))
  refine Jl [3] (Ent.cr1 (α := Str) (A := []) _ rv362.1 _ aB1 (fun _ => ⟨rfl, aS1⟩)) ?_
  refine Jl [0] (Ent.freeze _ _) ?_
  refine Jl [] (Ent.slNil (α := Str)) ?_
  have hq := q4 hrr ((Qbc.mk 7 (Str.mk []) [] [rv362.1]), (Qab.mk p.l rv372.at_ rv372.Err)) (by simp only [Qcp, h7, h246, h248, h290, h309, h325, h344, h360, hg5, hg363, hg373, cs4]); subst hq
  exact Kr (.slice none 0 0, .slice a370 1 k371) rfl (.cellN 2 rfl QdZ rfl (QaB _ _) rfl .nil) [0, 1, 3] en
 intro h360
 have g378 := ne_of_beq_false h360
 refine KS ?_
 refine Oq (Qh3 (l := (Str.mk [])) (m := (Str.mk [98, 114, 97, 110, 99, 104]))) (Oq Va (KS ?_))
 refine Kc ?_ ?_
 ·intro h379
  have g380 := eq_of_beq h379
  refine KS ?_
  refine Oq Vm ?_
  refine QaK (Qa8 p) fun rv381 hg382 => ?_
  have hc383 := QiN pP p pa0 pk0 pre pre pre rv381 hg382
  refine Oc [0, 2] QiG hc383 ?_
  rintro - ⟨he384, he385, he386, he387⟩
  unfold Qac at he385 he386
  refine Oa (AsV QcS Qgh [.string (bs rv381.1)] [.string (bs rv381.1)]) fun c388 => ?_
  refine Jo 0 ?_; rintro a389 k390 rfl
  refine Oq (Vfa Qdn 2) (Ost (QfJ [2] sh3 [vi 8, .string (bs (Str.mk [])), .slice none 0 0, .slice none 0 0]) (Oq (Vfa Qc0 0) (Ost (QfJ [0] Qeq [vi 8, .string (bs (Str.mk [])), .slice a389 1 k390, .slice none 0 0]) (KS ?_))))
  refine Oq Vm ?_
  refine QaK (Qa8 (Qab.mk p.l rv381.2.at_ rv381.2.Err)) fun rv391 hg392 => ?_
  have hc393 := QiN pP (Qab.mk p.l rv381.2.at_ rv381.2.Err) pa0 pk0 pre pre pre rv391 hg392
  refine Oc [2, 3] QiG hc393 ?_
  rintro - ⟨he394, he395, he396, he397⟩
  unfold Qac at he395 he396
  have he397 : (0 <= rv391.2.at_ /\ rv391.2.at_ <= (p.l.length : Int)) := he397
  refine Oa (AsV QcS Qgh [.string (bs rv391.1)] [.string (bs rv391.1)]) fun c398 => ?_
  refine Jo 0 ?_; rintro a399 k400 rfl
  refine Oq (Vfa Qc4 2) (Ost (QfJ [2] Qeq [vi 8, .string (bs (Str.mk [])), .slice a389 1 k390, .slice a399 1 k400]) (KS ?_))
  refine Jp 0 fun hp401 => ?_
  refine Qat [0, 1, 0, 4, 12, 31, 63, 127] Qcz ?_
  refine Dv [0] (Vfa Qc4 0) (Dv [1] (QaV Qeq 0) (Dv [] Vm ?_))
  refine QaK (Qa8 (Qab.mk p.l rv391.2.at_ rv391.2.Err)) fun rv402 hg403 => ?_
  refine Dx [3, 6] [3] [2, 0, 1] (fun G => .string (bs rv402.1)) [fun G => SP.fact (rv402.1.b.length <= 140737488355328 /\ Qac rv402.2.at_ /\ Qac rv402.2.Err /\ (0 <= rv402.2.at_ /\ rv402.2.at_ <= ((Qab.mk p.l rv391.2.at_ rv391.2.Err).l.length : Int))), fun G => Cl pP [vl pa0 pk0 p.l, vi rv402.2.at_, vi rv402.2.Err]] (fun G => xC [0, 0] QiG (QiN pP (Qab.mk p.l rv391.2.at_ rv391.2.Err) pa0 pk0 pre pre pre rv402 hg403)) (Dx [] [] [0] (fun G => (G.g 4 0)) [fun G => Cr (G.g 4 0) 1 [.string (bs rv402.1)]] (fun G => xA (AsV QcS Qgh [.string (bs rv402.1)] [.string (bs rv402.1)])) ?_)
  have hn406 : ([rv391.1] ++ [rv402.1] : List Str).length = 1 + 1 := la ([rv391.1] : List Str) ([rv402.1] : List Str)
  refine Dx [2, 7, 9] [2, 9] [1, 0] (fun G => (G.g 5 0)) [fun G => os (G.g 5 0) (([rv391.1] ++ [rv402.1]) : List Str)] (fun G => by refine xf 1 rfl ?_; rintro ⟨he407, he408, he409, he410⟩; unfold Qac at he408 he409; exact xp [0] rfl (Ent.cr1 (α := Str) (A := []) _ rv391.1 _ aB1 (fun _ => ⟨rfl, aS1⟩)) (xp [2] rfl (Ent.cr1 (α := Str) (A := []) _ rv402.1 _ aB1 (fun _ => ⟨rfl, aS1⟩)) (xA (ApO [1, 0] QcS QcS Qgh)))) (Dv [0] (Vfa Qc4 0) (Dx0 [1, 10] [1] [1, 0] [fun G => Cl p3 [vi 8, .string (bs (Str.mk [])), .slice a389 1 k390, (G.g 5 0)]] (fun G => x1 1 rfl Qfd fun ho411 => (xS (OpS.frame [0] rfl (OpS.storeClF [(G.g 5 0)] [vi 8, .string (bs (Str.mk [])), .slice a389 1 k390, (G.g 5 0)] rfl rfl rfl Qeq (Qb9 ho411) rfl (by simp only [List.all_cons, List.all_nil, ho411, Bool.and_true, Bool.true_and] <;> rfl) aB1 rfl)))) ?_))
  refine Dn ⟨by kernel_rfl, fun G => ?_⟩
  refine Jw2 [(0, pP), (2, p2), (3, p3)] [0, 4, 5, 6] [SP.fact (rv402.1.b.length <= 140737488355328 /\ Qac rv402.2.at_ /\ Qac rv402.2.Err /\ (0 <= rv402.2.at_ /\ rv402.2.at_ <= ((Qab.mk p.l rv391.2.at_ rv391.2.Err).l.length : Int))), Cl pP [vl pa0 pk0 p.l, vi rv402.2.at_, vi rv402.2.Err], os (G.g 5 0) (([rv391.1] ++ [rv402.1]) : List Str), Cl p3 [vi 8, .string (bs (Str.mk [])), .slice a389 1 k390, (G.g 5 0)]] ?_
  generalize G.g 5 0 = c405
  refine Jf 4 rfl ?_; rintro ⟨he412, he413, he414, he415⟩
  unfold Qac at he413 he414
  refine Jk [1, 1, 1, 3, 3, 3] ?_
  refine Jo 4 ?_; rintro a416 k417 rfl
  refine Fb 16 4 fun _ => ?_
  refine FoS 4 fun ho419 => ?_
  refine KS ?_
  refine Oq Vm ?_
  refine QaK (QbL (Qab.mk p.l rv402.2.at_ rv402.2.Err)) fun rv420 hg421 => ?_
  have hc422 := Qjo pP (Qab.mk p.l rv402.2.at_ rv402.2.Err) pa0 pk0 pre pre pre rv420 hg421
  refine Oc [3, 2] Qjq hc422 ?_
  rintro - ⟨he423, he424, he425⟩
  unfold Qac at he423 he424
  have he425 : (0 <= rv420.at_ /\ rv420.at_ <= (p.l.length : Int)) := he425
  refine KS ?_
  refine Oq (QcR QdZ 5) (Ost (Scl [2] QdZ [vi 8, .string (bs (Str.mk [])), .slice a389 1 k390, vl a416 k417 ([rv391.1] ++ [rv402.1])]) (KS ?_))
  refine Jl [2] (Ent.cr1 (α := Str) (A := []) _ rv381.1 _ aB1 (fun _ => ⟨rfl, aS1⟩)) ?_
  refine Jl [0] (Ent.freeze _ _) ?_
  refine Jl [4] (Ent.freeze _ _) ?_
  have hq := q4 hrr ((Qbc.mk 8 (Str.mk []) [rv381.1] ([rv391.1] ++ [rv402.1])), (Qab.mk p.l rv420.at_ rv420.Err)) (by simp only [Qcp, h7, h246, h248, h290, h309, h325, h344, h360, h379, hg5, hg382, hg392, hg403, hg421, cs4]); subst hq
  exact Kr (.slice a389 1 k390, vl a416 k417 ([rv391.1] ++ [rv402.1])) rfl (.cellN 2 rfl QdZ rfl (QaB _ _) rfl .nil) [1, 0, 3] en
 intro h379
 have g426 := ne_of_beq_false h379
 refine KS ?_
 refine Oq (Qh3 (l := (Str.mk [])) (m := (Str.mk [114, 101, 116, 117, 114, 110]))) (Oq Va (KS ?_))
 refine Kc ?_ ?_
 ·intro h427
  have g428 := eq_of_beq h427
  refine KS ?_
  refine Oq (Vfa Qdn 1) (Ost (QfJ [1] sh3 [vi 9, .string (bs (Str.mk [])), .slice none 0 0, .slice none 0 0]) (KS ?_))
  refine Oq Vm ?_
  refine QaK (QbL p) fun rv429 hg430 => ?_
  have hc431 := Qjo pP p pa0 pk0 pre pre pre rv429 hg430
  refine Oc [1, 2] Qjq hc431 ?_
  rintro - ⟨he432, he433, he434⟩
  unfold Qac at he432 he433
  refine KS ?_
  refine Oq (QcR QdZ 1) (Ost (Scl [2] QdZ [vi 9, .string (bs (Str.mk [])), .slice none 0 0, .slice none 0 0]) (KS ?_))
  refine Jl [] (Ent.slNil (α := Str)) ?_
  have hq := q4 hrr ((Qbc.mk 9 (Str.mk []) [] []), (Qab.mk p.l rv429.at_ rv429.Err)) (by simp only [Qcp, h7, h246, h248, h290, h309, h325, h344, h360, h379, h427, hg5, hg430, cs4]); subst hq
  exact Kr (.slice none 0 0, .slice none 0 0) rfl (.cellN 1 rfl QdZ rfl (QaB _ _) rfl .nil) [0, 0, 2] en
 intro h427
 have g435 := ne_of_beq_false h427
 refine KS ?_
 refine Oq Vm ?_
 refine QaK (Qa8 p) fun rv436 hg437 => ?_
 have hc438 := QiN pP p pa0 pk0 pre pre pre rv436 hg437
 refine Oc [0, 2] QiG hc438 ?_
 rintro - ⟨he439, he440, he441, he442⟩
 unfold Qac at he440 he441
 refine Oq (Vfa Qdn 1) (Ost (QfJ [1] sh3 [vi 1, .string (bs (Str.mk [])), .slice none 0 0, .slice none 0 0]) (Oq (Vfa Qfu 0) (Ost (QfJ [0] sh9 [vi 1, .string (bs rv436.1), .slice none 0 0, .slice none 0 0]) (KS ?_))))
 refine Oq Vm ?_
 refine QaK (Qb3 (Qab.mk p.l rv436.2.at_ rv436.2.Err) 2) fun rv443 hg444 => ?_
 have hc445 := QpZ pP (Qab.mk p.l rv436.2.at_ rv436.2.Err) pa0 pk0 2 pre pre pre pre rv443 hg444
 refine Oc [1, 2] Qo0 hc445 ?_
 rintro - -
 refine Oq QeT (KS ?_)
 refine Kc ?_ ?_
 ·intro h446
  have h448 := not_true h446
  refine KS ?_
  refine Oq Vm ?_
  refine QaK (QbD (Qab.mk p.l rv436.2.at_ rv436.2.Err) 4) fun rv450 hg451 => ?_
  have hc452 := QjI pP (Qab.mk p.l rv436.2.at_ rv436.2.Err) pa0 pk0 4 pre pre pre pre rv450 hg451
  refine Oc [0, 2] QjJ hc452 ?_
  rintro - ⟨he453, he454, he455⟩
  unfold Qac at he453 he454
  have he455 : (0 <= rv450.at_ /\ rv450.at_ <= (p.l.length : Int)) := he455
  refine KS ?_
  refine Oq (QcR QdZ 1) (Ost (Scl [2] QdZ [vi 1, .string (bs rv436.1), .slice none 0 0, .slice none 0 0]) (KS ?_))
  refine Jl [] (Ent.slNil (α := Str)) ?_
  have hq := q4 hrr ((Qbc.mk 1 rv436.1 [] []), (Qab.mk p.l rv450.at_ rv450.Err)) (by simp only [Qcp, h7, h246, h248, h290, h309, h325, h344, h360, h379, h427, h446, h448, hg5, hg437, hg444, hg451, cs4]); subst hq
  exact Kr (.slice none 0 0, .slice none 0 0) rfl (.cellN 1 rfl QdZ rfl (QaB _ _) rfl .nil) [0, 0, 2] en
 intro h446
 have h457 := not_false h446
 try (have hlt := Qjz (by assumption : Qeh _ _ = rv443) h457; try dsimp only at hlt)
 try (have hlt := QfK (by assumption : Qbs _ = rv443) h457; try dsimp only at hlt)
 try (have hlt := QfL (by assumption : Qb3 _ _ = rv443) h457; try dsimp only at hlt)
 refine KS ?_
 refine Oq Vm (Oq (Vn 0) (Oq (Vfa Qbj 0) (Oq (QaV sh3 0) (Oq Qbb (Oq (Vn 0) (Oq (Vfa Qbj 0) (Ost (QfJ [0] sh3 [vl pa0 pk0 p.l, vi (rv436.2.at_ + 1), vi rv436.2.Err]) (KS ?_))))))))
 refine Oq Vm ?_
 refine QaK (QfC (Qab.mk p.l (rv436.2.at_ + 1) rv436.2.Err)) fun rv460 hg461 => ?_
 have hc462 := QrU pP (Qab.mk p.l (rv436.2.at_ + 1) rv436.2.Err) pa0 pk0 pre pre pre rv460 hg461
 refine Oc [0, 2] Qrp hc462 ?_
 rintro c459 ⟨he463, he464, he465, he466⟩
 unfold Qac at he463 he464
 have he465 : (0 <= rv460.2.at_ /\ rv460.2.at_ <= (p.l.length : Int)) := he465
 refine Jo 0 ?_; rintro a467 k468 rfl
 refine Fb 16 0 fun _ => ?_
 refine FoS 0 fun ho470 => ?_
 refine Oq (Vfa Qc0 2) (Ost (QfJ [2] Qeq [vi 1, .string (bs rv436.1), vl a467 k468 rv460.1, .slice none 0 0]) (KS ?_))
 refine Oq Vm ?_
 refine QaK (QbL (Qab.mk p.l rv460.2.at_ rv460.2.Err)) fun rv471 hg472 => ?_
 have hc473 := Qjo pP (Qab.mk p.l rv460.2.at_ rv460.2.Err) pa0 pk0 pre pre pre rv471 hg472
 refine Oc [2, 3] Qjq hc473 ?_
 rintro - ⟨he474, he475, he476⟩
 unfold Qac at he474 he475
 have he476 : (0 <= rv471.at_ /\ rv471.at_ <= (p.l.length : Int)) := he476
 refine KS ?_
 refine Oq (QcR QdZ 1) (Ost (Scl [3] QdZ [vi 1, .string (bs rv436.1), vl a467 k468 rv460.1, .slice none 0 0]) (KS ?_))
 refine Jl [] (Ent.slNil (α := Str)) ?_
 have hq := q4 hrr ((Qbc.mk 1 rv436.1 rv460.1 []), (Qab.mk p.l rv471.at_ rv471.Err)) (by simp only [Qcp, h7, h246, h248, h290, h309, h325, h344, h360, h379, h427, h446, h457, hg5, hg437, hg444, hg461, hg472, cs4]); subst hq
 exact Kr (vl a467 k468 rv460.1, .slice none 0 0) rfl (.cellN 1 rfl QdZ rfl (QaB _ _) rfl .nil) [4, 0, 2] en
theorem Qt2 (pP : Value) (p : Qab) (pa0 : Option Addr) (pk0 : Nat) (QiA : Qac p.at_) (QiB : Qac p.Err) (hpa : (0 <= p.at_ /\ p.at_ <= (p.l.length : Int))) (rr : Qbp × Qab) (hrr : Qd1 p = rr) : FT Tryz.prog 87 #[pP] [Cl pP [vl pa0 pk0 p.l, vi p.at_, vi p.Err], S pa0 pk0 p.l] (fun g : Value => rr.1.Name.b.length <= 140737488355328 /\ Qac rr.2.at_ /\ Qac rr.2.Err /\ (0 <= rr.2.at_ /\ rr.2.at_ <= (p.l.length : Int))) (fun g => .agg #[.string (bs rr.1.Name), g]) (fun g => [sl g rr.1.Stmts, Cl pP [vl pa0 pk0 p.l, vi rr.2.at_, vi rr.2.Err]]) := by
 refine FTi Tryz.func87 fun w0 M0 F0 => ?_
 unfold Qac at QiA QiB
 refine Fb 40 1 fun _ => KS ?_
 refine Oa (Al Qon [.string (bs (Str.mk [])), .slice none 0 0]) fun p2 => KS ?_
 refine Oa (Al Qon [.string (bs (Str.mk [])), .slice none 0 0]) fun p3 => KS ?_
 refine Oq Vm ?_
 refine QaK (QcQ p (Str.mk [98, 108, 111, 99, 107])) fun rv4 hg5 => ?_
 have hc6 := Qr9 pP p pa0 pk0 ((Str.mk [98, 108, 111, 99, 107])) pre pre pre pre rv4 hg5
 refine Oc [2, 2] Qr8 hc6 ?_
 rintro - ⟨he7, he8, he9⟩
 unfold Qac at he7 he8
 refine KS ?_
 refine Oq Vm ?_
 refine QaK (Qa8 (Qab.mk p.l rv4.at_ rv4.Err)) fun rv10 hg11 => ?_
 have hc12 := QiN pP (Qab.mk p.l rv4.at_ rv4.Err) pa0 pk0 pre pre pre rv10 hg11
 refine Oc [0, 2] QiG hc12 ?_
 rintro - ⟨he13, he14, he15, he16⟩
 unfold Qac at he14 he15
 have he16 : (0 <= rv10.2.at_ /\ rv10.2.at_ <= (p.l.length : Int)) := he16
 refine Oq (Vfa Qlr 1) (Ost (QfJ [1] sh9 [.string (bs rv10.1), .slice none 0 0]) (KS ?_))
 refine Oq Vm ?_
 refine QaK (QbL (Qab.mk p.l rv10.2.at_ rv10.2.Err)) fun rv17 hg18 => ?_
 have hc19 := Qjo pP (Qab.mk p.l rv10.2.at_ rv10.2.Err) pa0 pk0 pre pre pre rv17 hg18
 refine Oc [1, 2] Qjq hc19 ?_
 rintro - ⟨he20, he21, he22⟩
 unfold Qac at he20 he21
 have he22 : (0 <= rv17.at_ /\ rv17.at_ <= (p.l.length : Int)) := he22
 refine KS ?_
 refine Oq Vm ?_
 refine QaK (Qdm (Qab.mk p.l rv17.at_ rv17.Err)) fun rv23 hg24 => ?_
 have hc25 := Qp6 pP (Qab.mk p.l rv17.at_ rv17.Err) pa0 pk0 pre pre pre rv23 hg24
 refine Oc [0, 2] Qps hc25 ?_
 rintro - -
 refine Oq QeT (KS ?_)
 refine Kc ?_ ?_
 ·intro h26
  have h28 := not_true h26
  refine KS ?_
  refine Oq Vm ?_
  refine QaK (QbD (Qab.mk p.l rv17.at_ rv17.Err) 4) fun rv30 hg31 => ?_
  have hc32 := QjI pP (Qab.mk p.l rv17.at_ rv17.Err) pa0 pk0 4 pre pre pre pre rv30 hg31
  refine Oc [0, 2] QjJ hc32 ?_
  rintro - ⟨he33, he34, he35⟩
  unfold Qac at he33 he34
  have he35 : (0 <= rv30.at_ /\ rv30.at_ <= (p.l.length : Int)) := he35
  refine KS ?_
  refine Jl [] (Ent.osNil (α := Qbc)) ?_
  have hterm47 : QbK p rv10.1 (p.l.length + 1) rv30.at_ rv30.Err [] ≠ LR.oof := (Qf7 _ _ _ _ aM1).1
  refine Kl (γ := Nat × Int × Int × List Qbc × Option Addr × Nat) (fun (r36, Qd6, Qet, Qg4, a40, k41) => ⟨[(0, pP), (2, p2), (3, p3)], [O a40 k41 Qg4, Cl pP [vl pa0 pk0 p.l, vi Qd6, vi Qet], Cl p3 [.string (bs rv10.1), vl a40 k41 Qg4], Cl p2 [.string (bs (Str.mk [])), .slice none 0 0], S pa0 pk0 p.l], QbK p rv10.1 r36 Qd6 Qet Qg4 = QbK p rv10.1 (p.l.length + 1) rv30.at_ rv30.Err [] /\ (-9223372036854775808 <= Qd6 /\ Qd6 <= 9223372036854775807) /\ (-9223372036854775808 <= Qet /\ Qet <= 9223372036854775807) /\ (0 <= Qd6 /\ Qd6 <= (p.l.length : Int)) /\ (Qg4.length <= 32), r36⟩) ((p.l.length + 1), rv30.at_, rv30.Err, [], none, 0) [0, 0, 0, 0, 0] ⟨rfl, aM1, aM1, iv0, iv0⟩ ?_
  rintro ⟨r36, Qd6, Qet, Qg4, a40, k41⟩ ⟨hM42, hk43, hk44, hv45, hv46⟩
  refine Qbt fun _ _ hL hA => ?_; dsimp only at hL hA; subst hL hA
  refine Fb 72 0 fun _ => Fb 40 4 fun _ => ?_
  rcases r36 with _ | r36
  ·exact absurd (hM42.symm.trans rfl) hterm47
  refine KS ?_
  refine Oq Vm ?_
  refine QaK (Qdm (Qab.mk p.l Qd6 Qet)) fun rv50 hg51 => ?_
  have hc52 := Qp6 pP (Qab.mk p.l Qd6 Qet) pa0 pk0 pre pre pre rv50 hg51
  refine Oc [1, 3] Qps hc52 ?_
  rintro - -
  refine KS ?_
  refine Kc ?_ ?_
  ·intro h53
   refine KS ?_
   refine Oq (Vfa Qfv 2) (Oq (QaV Qk0 2) (Oq (Qcn Qji) (Oq QbB (KS ?_))))
   refine Kc ?_ ?_
   ·intro h55
    have g56 := eq_of_beq h55
    refine KS ?_
    refine Oq Vm ?_
    refine QaK (QbD (Qab.mk p.l Qd6 Qet) 7) fun rv57 hg58 => ?_
    have hc59 := QjI pP (Qab.mk p.l Qd6 Qet) pa0 pk0 7 pre pre pre pre rv57 hg58
    refine Oc [0, 3] QjJ hc59 ?_
    rintro - ⟨he60, he61, he62⟩
    unfold Qac at he60 he61
    have he62 : (0 <= rv57.at_ /\ rv57.at_ <= (p.l.length : Int)) := he62
    refine KS ?_
    refine Oq (QcR QhN 2) (Ost (Scl [3] QhN [.string (bs rv10.1), vl a40 k41 Qg4]) (KS ?_))
    refine Jl [2] (Ent.freeze _ _) ?_
    have hR63 := q2 hM42 (.ret ((Qbp.mk rv10.1 Qg4), (Qab.mk p.l rv57.at_ rv57.Err))) (by simp only [QbK, h26, h28, h53, h55, hg5, hg11, hg18, hg24, hg31, hg51, hg58, cs4])
    have hq := q4 hrr ((Qbp.mk rv10.1 Qg4), (Qab.mk p.l rv57.at_ rv57.Err)) (by simp only [Qd1, h26, h28, h53, h55, hg5, hg11, hg18, hg24, hg31, hg51, hg58, hR63, cs4]); subst hq
    exact Kr (vl a40 k41 Qg4) rfl (.cellN 1 rfl QhN rfl (QaB _ _) rfl .nil) [0, 2] en
   intro h55
   have g64 := ne_of_beq_false h55
   refine KS ?_
   refine Jp 2 fun hp65 => ?_
   refine Qat [0, 1, 0, 4, 12, 31, 63, 127] Qcz ?_
   refine Dv [0] (Vfa Qfv 0) (Dv [3] (QaV Qk0 0) (Dv [] Vm ?_))
   refine QaK (Qcp (Qab.mk p.l Qd6 Qet)) fun rv68 hg69 => ?_
   refine Dx [1, 5] [1] [4, 0, 1, 2, 3] (fun G => .agg #[vi rv68.1.Op, .string (bs rv68.1.Def), (G.g 3 0), (G.g 3 1)]) [fun G => SP.fact (Qac rv68.1.Op /\ rv68.1.Def.b.length <= 140737488355328 /\ Qac rv68.2.at_ /\ Qac rv68.2.Err /\ (0 <= rv68.2.at_ /\ rv68.2.at_ <= ((Qab.mk p.l Qd6 Qet).l.length : Int))), fun G => sl (G.g 3 0) rv68.1.Uses, fun G => sl (G.g 3 1) rv68.1.Targets, fun G => Cl pP [vl pa0 pk0 p.l, vi rv68.2.at_, vi rv68.2.Err]] (fun G => xC [0, 0] QqW (QrV pP (Qab.mk p.l Qd6 Qet) pa0 pk0 pre pre pre (by simp only [h26, h28, h53, h55, hg5, hg11, hg18, hg24, hg31, hg51]) rv68 hg69)) (Dx [] [] [0] (fun G => (G.g 4 0)) [fun G => Cr (G.g 4 0) 1 [vi rv68.1.Op, .string (bs rv68.1.Def), (G.g 3 0), (G.g 3 1)]] (fun G => xA (AsV Qji Qse [.agg #[vi rv68.1.Op, .string (bs rv68.1.Def), (G.g 3 0), (G.g 3 1)]] [vi rv68.1.Op, .string (bs rv68.1.Def), (G.g 3 0), (G.g 3 1)])) ?_)
   have hn72 := la Qg4 ([rv68.1] : List Qbc)
   refine Dx [2, 6, 7, 8, 10] [2, 10] [3, 1, 2, 0] (fun G => (G.g 5 0)) [fun G => os (G.g 5 0) ((Qg4 ++ [rv68.1]) : List Qbc)] (fun G => by refine xf 1 rfl ?_; rintro ⟨he73, he74, he75, he76, he77⟩; unfold Qac at he73 he75 he76; exact xp [4, 2, 3] rfl (Ent.cr1 (α := Qbc) (A := [sl (G.g 3 0) rv68.1.Uses, sl (G.g 3 1) rv68.1.Targets]) _ rv68.1 _ aB1 (fun h => ⟨_, _, rfl, aL1, aS1, Qbe (i := 0) rfl h, Qbe (i := 1) rfl h⟩)) (xA (ApO [3, 0] Qji Qji Qse))) (Dv [0] (Vfa Qfv 0) (Dx0 [3, 11] [3] [1, 0] [fun G => Cl p3 [.string (bs rv10.1), (G.g 5 0)]] (fun G => x1 1 rfl Qfd fun ho78 => (xS (OpS.frame [0] rfl (OpS.storeClF [(G.g 5 0)] [.string (bs rv10.1), (G.g 5 0)] rfl rfl rfl Qk0 (Qb9 ho78) rfl (by simp only [List.all_cons, List.all_nil, ho78, Bool.and_true, Bool.true_and] <;> rfl) aB1 rfl)))) ?_))
   refine Dn ⟨by kernel_rfl, fun G => ?_⟩
   refine Jw2 [(0, pP), (2, p2), (3, p3)] [0, 4, 5] [SP.fact (Qac rv68.1.Op /\ rv68.1.Def.b.length <= 140737488355328 /\ Qac rv68.2.at_ /\ Qac rv68.2.Err /\ (0 <= rv68.2.at_ /\ rv68.2.at_ <= ((Qab.mk p.l Qd6 Qet).l.length : Int))), sl (G.g 3 0) rv68.1.Uses, sl (G.g 3 1) rv68.1.Targets, Cl pP [vl pa0 pk0 p.l, vi rv68.2.at_, vi rv68.2.Err], os (G.g 5 0) ((Qg4 ++ [rv68.1]) : List Qbc), Cl p3 [.string (bs rv10.1), (G.g 5 0)]] ?_
   generalize G.g 3 0 = c66, G.g 3 1 = c67, G.g 5 0 = c71
   refine Jf 3 rfl ?_; rintro ⟨he79, he80, he81, he82, he83⟩
   unfold Qac at he79 he81 he82
   refine Jk [1, 1, 3, 4, 5, 5, 5] ?_
   refine Jo 2 ?_; rintro a84 k85 rfl
   refine Fb 16 2 fun _ => ?_
   refine FoS 2 fun ho87 => ?_
   refine Jo 3 ?_; rintro a88 k89 rfl
   refine Fb 16 3 fun _ => ?_
   refine FoS 3 fun ho91 => ?_
   refine Jo 5 ?_; rintro a92 k93 rfl
   refine Fb 72 5 fun _ => KS ?_
   exact Kg (r36, rv68.2.at_, rv68.2.Err, (Qg4 ++ [rv68.1]), a92, k93) [5, 4, 4, 0, 0] ⟨(q3 hM42 (by simp only [QbK, h26, h28, h53, h55, hg5, hg11, hg18, hg24, hg31, hg51, hg69, cs4])), aM1, aM1, iv1, iv1⟩
  intro h53
  refine Ke ?_
  have hR96 := q2 hM42 (.brk (Qd6, Qet, Qg4)) (by simp only [QbK, h26, h28, h53, hg5, hg11, hg18, hg24, hg31, hg51, cs4])
  refine KS ?_
  refine Oq (QcR QhN 2) (Ost (Scl [3] QhN [.string (bs rv10.1), vl a40 k41 Qg4]) (KS ?_))
  refine Jl [2] (Ent.freeze _ _) ?_
  have hq := q4 hrr ((Qbp.mk rv10.1 Qg4), (Qab.mk p.l Qd6 Qet)) (by simp only [Qd1, h26, h28, h53, hg5, hg11, hg18, hg24, hg31, hg51, hR96, cs4]); subst hq
  exact Kr (vl a40 k41 Qg4) rfl (.cellN 1 rfl QhN rfl (QaB _ _) rfl .nil) [0, 2] en
 intro h26
 have h98 := not_false h26
 refine KS ?_
 refine Jl [] (Ent.osNil (α := Qbc)) ?_
 have hterm111 : QbK p rv10.1 (p.l.length + 1) rv17.at_ rv17.Err [] ≠ LR.oof := (Qf7 _ _ _ _ aM1).1
 refine Kl (γ := Nat × Int × Int × List Qbc × Option Addr × Nat) (fun (r100, Qfi, QfZ, Qfj, a104, k105) => ⟨[(0, pP), (2, p2), (3, p3)], [O a104 k105 Qfj, Cl pP [vl pa0 pk0 p.l, vi Qfi, vi QfZ], Cl p3 [.string (bs rv10.1), vl a104 k105 Qfj], Cl p2 [.string (bs (Str.mk [])), .slice none 0 0], S pa0 pk0 p.l], QbK p rv10.1 r100 Qfi QfZ Qfj = QbK p rv10.1 (p.l.length + 1) rv17.at_ rv17.Err [] /\ (-9223372036854775808 <= Qfi /\ Qfi <= 9223372036854775807) /\ (-9223372036854775808 <= QfZ /\ QfZ <= 9223372036854775807) /\ (0 <= Qfi /\ Qfi <= (p.l.length : Int)) /\ (Qfj.length <= 32), r100⟩) ((p.l.length + 1), rv17.at_, rv17.Err, [], none, 0) [0, 0, 0, 0, 0] ⟨rfl, aM1, aM1, iv0, iv0⟩ ?_
 rintro ⟨r100, Qfi, QfZ, Qfj, a104, k105⟩ ⟨hM106, hk107, hk108, hv109, hv110⟩
 refine Qbt fun _ _ hL hA => ?_; dsimp only at hL hA; subst hL hA
 refine Fb 72 0 fun _ => Fb 40 4 fun _ => ?_
 rcases r100 with _ | r100
 ·exact absurd (hM106.symm.trans rfl) hterm111
 refine KS ?_
 refine Oq Vm ?_
 refine QaK (Qdm (Qab.mk p.l Qfi QfZ)) fun rv114 hg115 => ?_
 have hc116 := Qp6 pP (Qab.mk p.l Qfi QfZ) pa0 pk0 pre pre pre rv114 hg115
 refine Oc [1, 3] Qps hc116 ?_
 rintro - -
 refine KS ?_
 refine Kc ?_ ?_
 ·intro h117
  refine KS ?_
  refine Oq (Vfa Qfv 2) (Oq (QaV Qk0 2) (Oq (Qcn Qji) (Oq QbB (KS ?_))))
  refine Kc ?_ ?_
  ·intro h119
   have g120 := eq_of_beq h119
   refine KS ?_
   refine Oq Vm ?_
   refine QaK (QbD (Qab.mk p.l Qfi QfZ) 7) fun rv121 hg122 => ?_
   have hc123 := QjI pP (Qab.mk p.l Qfi QfZ) pa0 pk0 7 pre pre pre pre rv121 hg122
   refine Oc [0, 3] QjJ hc123 ?_
   rintro - ⟨he124, he125, he126⟩
   unfold Qac at he124 he125
   have he126 : (0 <= rv121.at_ /\ rv121.at_ <= (p.l.length : Int)) := he126
   refine KS ?_
   refine Oq (QcR QhN 2) (Ost (Scl [3] QhN [.string (bs rv10.1), vl a104 k105 Qfj]) (KS ?_))
   refine Jl [2] (Ent.freeze _ _) ?_
   have hR127 := q2 hM106 (.ret ((Qbp.mk rv10.1 Qfj), (Qab.mk p.l rv121.at_ rv121.Err))) (by simp only [QbK, h26, h98, h117, h119, hg5, hg11, hg18, hg24, hg115, hg122, cs4])
   have hq := q4 hrr ((Qbp.mk rv10.1 Qfj), (Qab.mk p.l rv121.at_ rv121.Err)) (by simp only [Qd1, h26, h98, h117, h119, hg5, hg11, hg18, hg24, hg115, hg122, hR127, cs4]); subst hq
   exact Kr (vl a104 k105 Qfj) rfl (.cellN 1 rfl QhN rfl (QaB _ _) rfl .nil) [0, 2] en
  intro h119
  have g128 := ne_of_beq_false h119
  refine KS ?_
  refine Jp 2 fun hp129 => ?_
  refine Qat [0, 1, 0, 4, 12, 31, 63, 127] Qcz ?_
  refine Dv [0] (Vfa Qfv 0) (Dv [3] (QaV Qk0 0) (Dv [] Vm ?_))
  refine QaK (Qcp (Qab.mk p.l Qfi QfZ)) fun rv132 hg133 => ?_
  refine Dx [1, 5] [1] [4, 0, 1, 2, 3] (fun G => .agg #[vi rv132.1.Op, .string (bs rv132.1.Def), (G.g 3 0), (G.g 3 1)]) [fun G => SP.fact (Qac rv132.1.Op /\ rv132.1.Def.b.length <= 140737488355328 /\ Qac rv132.2.at_ /\ Qac rv132.2.Err /\ (0 <= rv132.2.at_ /\ rv132.2.at_ <= ((Qab.mk p.l Qfi QfZ).l.length : Int))), fun G => sl (G.g 3 0) rv132.1.Uses, fun G => sl (G.g 3 1) rv132.1.Targets, fun G => Cl pP [vl pa0 pk0 p.l, vi rv132.2.at_, vi rv132.2.Err]] (fun G => xC [0, 0] QqW (QrV pP (Qab.mk p.l Qfi QfZ) pa0 pk0 pre pre pre (by simp only [h26, h98, h117, h119, hg5, hg11, hg18, hg24, hg115]) rv132 hg133)) (Dx [] [] [0] (fun G => (G.g 4 0)) [fun G => Cr (G.g 4 0) 1 [vi rv132.1.Op, .string (bs rv132.1.Def), (G.g 3 0), (G.g 3 1)]] (fun G => xA (AsV Qji Qse [.agg #[vi rv132.1.Op, .string (bs rv132.1.Def), (G.g 3 0), (G.g 3 1)]] [vi rv132.1.Op, .string (bs rv132.1.Def), (G.g 3 0), (G.g 3 1)])) ?_)
  have hn136 := la Qfj ([rv132.1] : List Qbc)
  refine Dx [2, 6, 7, 8, 10] [2, 10] [3, 1, 2, 0] (fun G => (G.g 5 0)) [fun G => os (G.g 5 0) ((Qfj ++ [rv132.1]) : List Qbc)] (fun G => by refine xf 1 rfl ?_; rintro ⟨he137, he138, he139, he140, he141⟩; unfold Qac at he137 he139 he140; exact xp [4, 2, 3] rfl (Ent.cr1 (α := Qbc) (A := [sl (G.g 3 0) rv132.1.Uses, sl (G.g 3 1) rv132.1.Targets]) _ rv132.1 _ aB1 (fun h => ⟨_, _, rfl, aL1, aS1, Qbe (i := 0) rfl h, Qbe (i := 1) rfl h⟩)) (xA (ApO [3, 0] Qji Qji Qse))) (Dv [0] (Vfa Qfv 0) (Dx0 [3, 11] [3] [1, 0] [fun G => Cl p3 [.string (bs rv10.1), (G.g 5 0)]] (fun G => x1 1 rfl Qfd fun ho142 => (xS (OpS.frame [0] rfl (OpS.storeClF [(G.g 5 0)] [.string (bs rv10.1), (G.g 5 0)] rfl rfl rfl Qk0 (Qb9 ho142) rfl (by simp only [List.all_cons, List.all_nil, ho142, Bool.and_true, Bool.true_and] <;> rfl) aB1 rfl)))) ?_))
  refine Dn ⟨by kernel_rfl, fun G => ?_⟩
  refine Jw2 [(0, pP), (2, p2), (3, p3)] [0, 4, 5] [SP.fact (Qac rv132.1.Op /\ rv132.1.Def.b.length <= 140737488355328 /\ Qac rv132.2.at_ /\ Qac rv132.2.Err /\ (0 <= rv132.2.at_ /\ rv132.2.at_ <= ((Qab.mk p.l Qfi QfZ).l.length : Int))), sl (G.g 3 0) rv132.1.Uses, sl (G.g 3 1) rv132.1.Targets, Cl pP [vl pa0 pk0 p.l, vi rv132.2.at_, vi rv132.2.Err], os (G.g 5 0) ((Qfj ++ [rv132.1]) : List Qbc), Cl p3 [.string (bs rv10.1), (G.g 5 0)]] ?_
  generalize G.g 3 0 = c130, G.g 3 1 = c131, G.g 5 0 = c135
  refine Jf 3 rfl ?_; rintro ⟨he143, he144, he145, he146, he147⟩
  unfold Qac at he143 he145 he146
  refine Jk [1, 1, 3, 4, 5, 5, 5] ?_
  refine Jo 2 ?_; rintro a148 k149 rfl
  refine Fb 16 2 fun _ => ?_
  refine FoS 2 fun ho151 => ?_
  refine Jo 3 ?_; rintro a152 k153 rfl
  refine Fb 16 3 fun _ => ?_
  refine FoS 3 fun ho155 => ?_
  refine Jo 5 ?_; rintro a156 k157 rfl
  refine Fb 72 5 fun _ => KS ?_
  exact Kg (r100, rv132.2.at_, rv132.2.Err, (Qfj ++ [rv132.1]), a156, k157) [5, 4, 4, 0, 0] ⟨(q3 hM106 (by simp only [QbK, h26, h98, h117, h119, hg5, hg11, hg18, hg24, hg115, hg133, cs4])), aM1, aM1, iv1, iv1⟩
 intro h117
 refine Ke ?_
 have hR160 := q2 hM106 (.brk (Qfi, QfZ, Qfj)) (by simp only [QbK, h26, h98, h117, hg5, hg11, hg18, hg24, hg115, cs4])
 refine KS ?_
 refine Oq (QcR QhN 2) (Ost (Scl [3] QhN [.string (bs rv10.1), vl a104 k105 Qfj]) (KS ?_))
 refine Jl [2] (Ent.freeze _ _) ?_
 have hq := q4 hrr ((Qbp.mk rv10.1 Qfj), (Qab.mk p.l Qfi QfZ)) (by simp only [Qd1, h26, h98, h117, hg5, hg11, hg18, hg24, hg115, hR160, cs4]); subst hq
 exact Kr (vl a104 k105 Qfj) rfl (.cellN 1 rfl QhN rfl (QaB _ _) rfl .nil) [0, 2] en
theorem Qt5 (pP : Value) (p : Qab) (pa0 : Option Addr) (pk0 : Nat) (QiA : Qac p.at_) (QiB : Qac p.Err) (hpa : (0 <= p.at_ /\ p.at_ <= (p.l.length : Int))) (rr : QbR × Qab) (hrr : Qco p = rr) : FT Tryz.prog 54 #[pP] [Cl pP [vl pa0 pk0 p.l, vi p.at_, vi p.Err], S pa0 pk0 p.l] (fun g : Value => rr.1.Name.b.length <= 140737488355328 /\ Qac rr.2.at_ /\ Qac rr.2.Err /\ (0 <= rr.2.at_ /\ rr.2.at_ <= (p.l.length : Int))) (fun g => .agg #[.string (bs rr.1.Name), g]) (fun g => [sl g rr.1.Blocks, Cl pP [vl pa0 pk0 p.l, vi rr.2.at_, vi rr.2.Err]]) := by
 refine FTi Tryz.func54 fun w0 M0 F0 => ?_
 unfold Qac at QiA QiB
 refine Fb 40 1 fun _ => KS ?_
 refine Oa (Al QoO [.string (bs (Str.mk [])), .slice none 0 0]) fun p2 => KS ?_
 refine Oa (Al QoO [.string (bs (Str.mk [])), .slice none 0 0]) fun p3 => KS ?_
 refine Oq Vm ?_
 refine QaK (QcQ p (Str.mk [102, 117, 110, 99])) fun rv4 hg5 => ?_
 have hc6 := Qr9 pP p pa0 pk0 ((Str.mk [102, 117, 110, 99])) pre pre pre pre rv4 hg5
 refine Oc [2, 2] Qr8 hc6 ?_
 rintro - ⟨he7, he8, he9⟩
 unfold Qac at he7 he8
 refine KS ?_
 refine Oq Vm ?_
 refine QaK (Qa8 (Qab.mk p.l rv4.at_ rv4.Err)) fun rv10 hg11 => ?_
 have hc12 := QiN pP (Qab.mk p.l rv4.at_ rv4.Err) pa0 pk0 pre pre pre rv10 hg11
 refine Oc [0, 2] QiG hc12 ?_
 rintro - ⟨he13, he14, he15, he16⟩
 unfold Qac at he14 he15
 have he16 : (0 <= rv10.2.at_ /\ rv10.2.at_ <= (p.l.length : Int)) := he16
 refine Oq (Vfa Qlo 1) (Ost (QfJ [1] sh9 [.string (bs rv10.1), .slice none 0 0]) (KS ?_))
 refine Oq Vm ?_
 refine QaK (QbL (Qab.mk p.l rv10.2.at_ rv10.2.Err)) fun rv17 hg18 => ?_
 have hc19 := Qjo pP (Qab.mk p.l rv10.2.at_ rv10.2.Err) pa0 pk0 pre pre pre rv17 hg18
 refine Oc [1, 2] Qjq hc19 ?_
 rintro - ⟨he20, he21, he22⟩
 unfold Qac at he20 he21
 have he22 : (0 <= rv17.at_ /\ rv17.at_ <= (p.l.length : Int)) := he22
 refine KS ?_
 refine Oq Vm ?_
 refine QaK (Qeh (Qab.mk p.l rv17.at_ rv17.Err) (Str.mk [98, 108, 111, 99, 107])) fun rv23 hg24 => ?_
 have hc25 := Qom pP (Qab.mk p.l rv17.at_ rv17.Err) pa0 pk0 ((Str.mk [98, 108, 111, 99, 107])) pre pre pre pre rv23 hg24
 refine Oc [0, 2] QoD hc25 ?_
 rintro - -
 refine Oq QeT (KS ?_)
 refine Kc ?_ ?_
 ·intro h26
  have h28 := not_true h26
  refine KS ?_
  refine Oq Vm ?_
  refine QaK (QbD (Qab.mk p.l rv17.at_ rv17.Err) 4) fun rv30 hg31 => ?_
  have hc32 := QjI pP (Qab.mk p.l rv17.at_ rv17.Err) pa0 pk0 4 pre pre pre pre rv30 hg31
  refine Oc [0, 2] QjJ hc32 ?_
  rintro - ⟨he33, he34, he35⟩
  unfold Qac at he33 he34
  have he35 : (0 <= rv30.at_ /\ rv30.at_ <= (p.l.length : Int)) := he35
  refine KS ?_
  refine Jl [] (Ent.osNil (α := Qbp)) ?_
  have hterm47 : Qbg p rv10.1 (p.l.length + 1) rv30.at_ rv30.Err [] ≠ LR.oof := (QeO _ _ _ _ aM1).1
  refine Kl (γ := Nat × Int × Int × List Qbp × Option Addr × Nat) (fun (r36, Qd6, Qet, Qg5, a40, k41) => ⟨[(0, pP), (2, p2), (3, p3)], [O a40 k41 Qg5, Cl pP [vl pa0 pk0 p.l, vi Qd6, vi Qet], Cl p3 [.string (bs rv10.1), vl a40 k41 Qg5], Cl p2 [.string (bs (Str.mk [])), .slice none 0 0], S pa0 pk0 p.l], Qbg p rv10.1 r36 Qd6 Qet Qg5 = Qbg p rv10.1 (p.l.length + 1) rv30.at_ rv30.Err [] /\ (-9223372036854775808 <= Qd6 /\ Qd6 <= 9223372036854775807) /\ (-9223372036854775808 <= Qet /\ Qet <= 9223372036854775807) /\ (0 <= Qd6 /\ Qd6 <= (p.l.length : Int)) /\ (Qg5.length <= 16), r36⟩) ((p.l.length + 1), rv30.at_, rv30.Err, [], none, 0) [0, 0, 0, 0, 0] ⟨rfl, aM1, aM1, iv0, iv0⟩ ?_
  rintro ⟨r36, Qd6, Qet, Qg5, a40, k41⟩ ⟨hM42, hk43, hk44, hv45, hv46⟩
  refine Qbt fun _ _ hL hA => ?_; dsimp only at hL hA; subst hL hA
  refine Fb 40 0 fun _ => Fb 40 4 fun _ => ?_
  rcases r36 with _ | r36
  ·exact absurd (hM42.symm.trans rfl) hterm47
  refine KS ?_
  refine Oq Vm ?_
  refine QaK (Qeh (Qab.mk p.l Qd6 Qet) (Str.mk [98, 108, 111, 99, 107])) fun rv50 hg51 => ?_
  have hc52 := Qom pP (Qab.mk p.l Qd6 Qet) pa0 pk0 ((Str.mk [98, 108, 111, 99, 107])) pre pre pre pre rv50 hg51
  refine Oc [1, 3] QoD hc52 ?_
  rintro - -
  refine KS ?_
  refine Kc ?_ ?_
  ·intro h53
   refine KS ?_
   refine Oq (Vfa Qfx 2) (Oq (QaV QkZ 2) (Oq (Qcn Qit) (Oq QbB (KS ?_))))
   refine Kc ?_ ?_
   ·intro h55
    have g56 := eq_of_beq h55
    refine KS ?_
    refine Oq Vm ?_
    refine QaK (QbD (Qab.mk p.l Qd6 Qet) 7) fun rv57 hg58 => ?_
    have hc59 := QjI pP (Qab.mk p.l Qd6 Qet) pa0 pk0 7 pre pre pre pre rv57 hg58
    refine Oc [0, 3] QjJ hc59 ?_
    rintro - ⟨he60, he61, he62⟩
    unfold Qac at he60 he61
    have he62 : (0 <= rv57.at_ /\ rv57.at_ <= (p.l.length : Int)) := he62
    refine KS ?_
    refine Oq (QcR QhD 2) (Ost (Scl [3] QhD [.string (bs rv10.1), vl a40 k41 Qg5]) (KS ?_))
    refine Jl [2] (Ent.freeze _ _) ?_
    have hR63 := q2 hM42 (.ret ((QbR.mk rv10.1 Qg5), (Qab.mk p.l rv57.at_ rv57.Err))) (by simp only [Qbg, h26, h28, h53, h55, hg5, hg11, hg18, hg24, hg31, hg51, hg58, cs4])
    have hq := q4 hrr ((QbR.mk rv10.1 Qg5), (Qab.mk p.l rv57.at_ rv57.Err)) (by simp only [Qco, h26, h28, h53, h55, hg5, hg11, hg18, hg24, hg31, hg51, hg58, hR63, cs4]); subst hq
    exact Kr (vl a40 k41 Qg5) rfl (.cellN 1 rfl QhD rfl (QaB _ _) rfl .nil) [0, 2] en
   intro h55
   have g64 := ne_of_beq_false h55
   refine KS ?_
   refine Jp 2 fun hp65 => ?_
   refine Qat [0, 1, 0, 4, 12, 31, 63, 127] Qcz ?_
   refine Dv [0] (Vfa Qfx 0) (Dv [3] (QaV QkZ 0) (Dv [] Vm ?_))
   refine QaK (Qd1 (Qab.mk p.l Qd6 Qet)) fun rv67 hg68 => ?_
   refine Dx [1, 5] [1] [3, 0, 1, 2] (fun G => .agg #[.string (bs rv67.1.Name), (G.g 3 0)]) [fun G => SP.fact (rv67.1.Name.b.length <= 140737488355328 /\ Qac rv67.2.at_ /\ Qac rv67.2.Err /\ (0 <= rv67.2.at_ /\ rv67.2.at_ <= ((Qab.mk p.l Qd6 Qet).l.length : Int))), fun G => sl (G.g 3 0) rv67.1.Stmts, fun G => Cl pP [vl pa0 pk0 p.l, vi rv67.2.at_, vi rv67.2.Err]] (fun G => xC [0, 0] Qt9 (Qt2 pP (Qab.mk p.l Qd6 Qet) pa0 pk0 pre pre pre rv67 hg68)) (Dx [] [] [0] (fun G => (G.g 4 0)) [fun G => Cr (G.g 4 0) 1 [.string (bs rv67.1.Name), (G.g 3 0)]] (fun G => xA (AsV Qit Qsa [.agg #[.string (bs rv67.1.Name), (G.g 3 0)]] [.string (bs rv67.1.Name), (G.g 3 0)])) ?_)
   have hn71 := la Qg5 ([rv67.1] : List Qbp)
   refine Dx [2, 6, 7, 9] [2, 9] [2, 1, 0] (fun G => (G.g 5 0)) [fun G => os (G.g 5 0) ((Qg5 ++ [rv67.1]) : List Qbp)] (fun G => by refine xf 1 rfl ?_; rintro ⟨he72, he73, he74, he75⟩; unfold Qac at he73 he74; exact xp [3, 2] rfl (Ent.cr1 (α := Qbp) (A := [sl (G.g 3 0) rv67.1.Stmts]) _ rv67.1 _ aB1 (fun h => ⟨_, rfl, aS1, Qbe (i := 0) rfl h⟩)) (xA (ApO [2, 0] Qit Qit Qsa))) (Dv [0] (Vfa Qfx 0) (Dx0 [3, 10] [3] [1, 0] [fun G => Cl p3 [.string (bs rv10.1), (G.g 5 0)]] (fun G => x1 1 rfl Qfd fun ho76 => (xS (OpS.frame [0] rfl (OpS.storeClF [(G.g 5 0)] [.string (bs rv10.1), (G.g 5 0)] rfl rfl rfl QkZ (Qb9 ho76) rfl (by simp only [List.all_cons, List.all_nil, ho76, Bool.and_true, Bool.true_and] <;> rfl) aB1 rfl)))) ?_))
   refine Dn ⟨by kernel_rfl, fun G => ?_⟩
   refine Jw2 [(0, pP), (2, p2), (3, p3)] [0, 4, 5] [SP.fact (rv67.1.Name.b.length <= 140737488355328 /\ Qac rv67.2.at_ /\ Qac rv67.2.Err /\ (0 <= rv67.2.at_ /\ rv67.2.at_ <= ((Qab.mk p.l Qd6 Qet).l.length : Int))), sl (G.g 3 0) rv67.1.Stmts, Cl pP [vl pa0 pk0 p.l, vi rv67.2.at_, vi rv67.2.Err], os (G.g 5 0) ((Qg5 ++ [rv67.1]) : List Qbp), Cl p3 [.string (bs rv10.1), (G.g 5 0)]] ?_
   generalize G.g 3 0 = c66, G.g 5 0 = c70
   refine Jf 3 rfl ?_; rintro ⟨he77, he78, he79, he80⟩
   unfold Qac at he78 he79
   refine Jk [1, 1, 3, 4, 4, 4] ?_
   refine Jo 2 ?_; rintro a81 k82 rfl
   refine Fb 72 2 fun _ => ?_
   refine Jo 4 ?_; rintro a84 k85 rfl
   refine Fb 40 4 fun _ => KS ?_
   exact Kg (r36, rv67.2.at_, rv67.2.Err, (Qg5 ++ [rv67.1]), a84, k85) [4, 3, 3, 0, 0] ⟨(q3 hM42 (by simp only [Qbg, h26, h28, h53, h55, hg5, hg11, hg18, hg24, hg31, hg51, hg68, cs4])), aM1, aM1, iv1, iv1⟩
  intro h53
  refine Ke ?_
  have hR88 := q2 hM42 (.brk (Qd6, Qet, Qg5)) (by simp only [Qbg, h26, h28, h53, hg5, hg11, hg18, hg24, hg31, hg51, cs4])
  refine KS ?_
  refine Oq Vm ?_
  refine QaK (QcQ (Qab.mk p.l Qd6 Qet) (Str.mk [101, 110, 100])) fun rv89 hg90 => ?_
  have hc91 := Qr9 pP (Qab.mk p.l Qd6 Qet) pa0 pk0 ((Str.mk [101, 110, 100])) pre pre pre pre rv89 hg90
  refine Oc [0, 3] Qr8 hc91 ?_
  rintro - ⟨he92, he93, he94⟩
  unfold Qac at he92 he93
  have he94 : (0 <= rv89.at_ /\ rv89.at_ <= (p.l.length : Int)) := he94
  refine KS ?_
  refine Oq Vm ?_
  refine QaK (QbL (Qab.mk p.l rv89.at_ rv89.Err)) fun rv95 hg96 => ?_
  have hc97 := Qjo pP (Qab.mk p.l rv89.at_ rv89.Err) pa0 pk0 pre pre pre rv95 hg96
  refine Oc [0, 3] Qjq hc97 ?_
  rintro - ⟨he98, he99, he100⟩
  unfold Qac at he98 he99
  have he100 : (0 <= rv95.at_ /\ rv95.at_ <= (p.l.length : Int)) := he100
  refine KS ?_
  refine Oq (QcR QhD 2) (Ost (Scl [3] QhD [.string (bs rv10.1), vl a40 k41 Qg5]) (KS ?_))
  refine Jl [2] (Ent.freeze _ _) ?_
  have hq := q4 hrr ((QbR.mk rv10.1 Qg5), (Qab.mk p.l rv95.at_ rv95.Err)) (by simp only [Qco, h26, h28, h53, hg5, hg11, hg18, hg24, hg31, hg51, hR88, hg90, hg96, cs4]); subst hq
  exact Kr (vl a40 k41 Qg5) rfl (.cellN 1 rfl QhD rfl (QaB _ _) rfl .nil) [0, 2] en
 intro h26
 have h102 := not_false h26
 refine KS ?_
 refine Jl [] (Ent.osNil (α := Qbp)) ?_
 have hterm115 : Qbg p rv10.1 (p.l.length + 1) rv17.at_ rv17.Err [] ≠ LR.oof := (QeO _ _ _ _ aM1).1
 refine Kl (γ := Nat × Int × Int × List Qbp × Option Addr × Nat) (fun (r104, QeV, Qfz, Qfk, a108, k109) => ⟨[(0, pP), (2, p2), (3, p3)], [O a108 k109 Qfk, Cl pP [vl pa0 pk0 p.l, vi QeV, vi Qfz], Cl p3 [.string (bs rv10.1), vl a108 k109 Qfk], Cl p2 [.string (bs (Str.mk [])), .slice none 0 0], S pa0 pk0 p.l], Qbg p rv10.1 r104 QeV Qfz Qfk = Qbg p rv10.1 (p.l.length + 1) rv17.at_ rv17.Err [] /\ (-9223372036854775808 <= QeV /\ QeV <= 9223372036854775807) /\ (-9223372036854775808 <= Qfz /\ Qfz <= 9223372036854775807) /\ (0 <= QeV /\ QeV <= (p.l.length : Int)) /\ (Qfk.length <= 16), r104⟩) ((p.l.length + 1), rv17.at_, rv17.Err, [], none, 0) [0, 0, 0, 0, 0] ⟨rfl, aM1, aM1, iv0, iv0⟩ ?_
 rintro ⟨r104, QeV, Qfz, Qfk, a108, k109⟩ ⟨hM110, hk111, hk112, hv113, hv114⟩
 refine Qbt fun _ _ hL hA => ?_; dsimp only at hL hA; subst hL hA
 refine Fb 40 0 fun _ => Fb 40 4 fun _ => ?_
 rcases r104 with _ | r104
 ·exact absurd (hM110.symm.trans rfl) hterm115
 refine KS ?_
 refine Oq Vm ?_
 refine QaK (Qeh (Qab.mk p.l QeV Qfz) (Str.mk [98, 108, 111, 99, 107])) fun rv118 hg119 => ?_
 have hc120 := Qom pP (Qab.mk p.l QeV Qfz) pa0 pk0 ((Str.mk [98, 108, 111, 99, 107])) pre pre pre pre rv118 hg119
 refine Oc [1, 3] QoD hc120 ?_
 rintro - -
 refine KS ?_
 refine Kc ?_ ?_
 ·intro h121
  refine KS ?_
  refine Oq (Vfa Qfx 2) (Oq (QaV QkZ 2) (Oq (Qcn Qit) (Oq QbB (KS ?_))))
  refine Kc ?_ ?_
  ·intro h123
   have g124 := eq_of_beq h123
   refine KS ?_
   refine Oq Vm ?_
   refine QaK (QbD (Qab.mk p.l QeV Qfz) 7) fun rv125 hg126 => ?_
   have hc127 := QjI pP (Qab.mk p.l QeV Qfz) pa0 pk0 7 pre pre pre pre rv125 hg126
   refine Oc [0, 3] QjJ hc127 ?_
   rintro - ⟨he128, he129, he130⟩
   unfold Qac at he128 he129
   have he130 : (0 <= rv125.at_ /\ rv125.at_ <= (p.l.length : Int)) := he130
   refine KS ?_
   refine Oq (QcR QhD 2) (Ost (Scl [3] QhD [.string (bs rv10.1), vl a108 k109 Qfk]) (KS ?_))
   refine Jl [2] (Ent.freeze _ _) ?_
   have hR131 := q2 hM110 (.ret ((QbR.mk rv10.1 Qfk), (Qab.mk p.l rv125.at_ rv125.Err))) (by simp only [Qbg, h26, h102, h121, h123, hg5, hg11, hg18, hg24, hg119, hg126, cs4])
   have hq := q4 hrr ((QbR.mk rv10.1 Qfk), (Qab.mk p.l rv125.at_ rv125.Err)) (by simp only [Qco, h26, h102, h121, h123, hg5, hg11, hg18, hg24, hg119, hg126, hR131, cs4]); subst hq
   exact Kr (vl a108 k109 Qfk) rfl (.cellN 1 rfl QhD rfl (QaB _ _) rfl .nil) [0, 2] en
  intro h123
  have g132 := ne_of_beq_false h123
  refine KS ?_
  refine Jp 2 fun hp133 => ?_
  refine Qat [0, 1, 0, 4, 12, 31, 63, 127] Qcz ?_
  refine Dv [0] (Vfa Qfx 0) (Dv [3] (QaV QkZ 0) (Dv [] Vm ?_))
  refine QaK (Qd1 (Qab.mk p.l QeV Qfz)) fun rv135 hg136 => ?_
  refine Dx [1, 5] [1] [3, 0, 1, 2] (fun G => .agg #[.string (bs rv135.1.Name), (G.g 3 0)]) [fun G => SP.fact (rv135.1.Name.b.length <= 140737488355328 /\ Qac rv135.2.at_ /\ Qac rv135.2.Err /\ (0 <= rv135.2.at_ /\ rv135.2.at_ <= ((Qab.mk p.l QeV Qfz).l.length : Int))), fun G => sl (G.g 3 0) rv135.1.Stmts, fun G => Cl pP [vl pa0 pk0 p.l, vi rv135.2.at_, vi rv135.2.Err]] (fun G => xC [0, 0] Qt9 (Qt2 pP (Qab.mk p.l QeV Qfz) pa0 pk0 pre pre pre rv135 hg136)) (Dx [] [] [0] (fun G => (G.g 4 0)) [fun G => Cr (G.g 4 0) 1 [.string (bs rv135.1.Name), (G.g 3 0)]] (fun G => xA (AsV Qit Qsa [.agg #[.string (bs rv135.1.Name), (G.g 3 0)]] [.string (bs rv135.1.Name), (G.g 3 0)])) ?_)
  have hn139 := la Qfk ([rv135.1] : List Qbp)
  refine Dx [2, 6, 7, 9] [2, 9] [2, 1, 0] (fun G => (G.g 5 0)) [fun G => os (G.g 5 0) ((Qfk ++ [rv135.1]) : List Qbp)] (fun G => by refine xf 1 rfl ?_; rintro ⟨he140, he141, he142, he143⟩; unfold Qac at he141 he142; exact xp [3, 2] rfl (Ent.cr1 (α := Qbp) (A := [sl (G.g 3 0) rv135.1.Stmts]) _ rv135.1 _ aB1 (fun h => ⟨_, rfl, aS1, Qbe (i := 0) rfl h⟩)) (xA (ApO [2, 0] Qit Qit Qsa))) (Dv [0] (Vfa Qfx 0) (Dx0 [3, 10] [3] [1, 0] [fun G => Cl p3 [.string (bs rv10.1), (G.g 5 0)]] (fun G => x1 1 rfl Qfd fun ho144 => (xS (OpS.frame [0] rfl (OpS.storeClF [(G.g 5 0)] [.string (bs rv10.1), (G.g 5 0)] rfl rfl rfl QkZ (Qb9 ho144) rfl (by simp only [List.all_cons, List.all_nil, ho144, Bool.and_true, Bool.true_and] <;> rfl) aB1 rfl)))) ?_))
  refine Dn ⟨by kernel_rfl, fun G => ?_⟩
  refine Jw2 [(0, pP), (2, p2), (3, p3)] [0, 4, 5] [SP.fact (rv135.1.Name.b.length <= 140737488355328 /\ Qac rv135.2.at_ /\ Qac rv135.2.Err /\ (0 <= rv135.2.at_ /\ rv135.2.at_ <= ((Qab.mk p.l QeV Qfz).l.length : Int))), sl (G.g 3 0) rv135.1.Stmts, Cl pP [vl pa0 pk0 p.l, vi rv135.2.at_, vi rv135.2.Err], os (G.g 5 0) ((Qfk ++ [rv135.1]) : List Qbp), Cl p3 [.string (bs rv10.1), (G.g 5 0)]] ?_
  generalize G.g 3 0 = c134, G.g 5 0 = c138
  refine Jf 3 rfl ?_; rintro ⟨he145, he146, he147, he148⟩
  unfold Qac at he146 he147
  refine Jk [1, 1, 3, 4, 4, 4] ?_
  refine Jo 2 ?_; rintro a149 k150 rfl
  refine Fb 72 2 fun _ => ?_
  refine Jo 4 ?_; rintro a152 k153 rfl
  refine Fb 40 4 fun _ => KS ?_
  exact Kg (r104, rv135.2.at_, rv135.2.Err, (Qfk ++ [rv135.1]), a152, k153) [4, 3, 3, 0, 0] ⟨(q3 hM110 (by simp only [Qbg, h26, h102, h121, h123, hg5, hg11, hg18, hg24, hg119, hg136, cs4])), aM1, aM1, iv1, iv1⟩
 intro h121
 refine Ke ?_
 have hR156 := q2 hM110 (.brk (QeV, Qfz, Qfk)) (by simp only [Qbg, h26, h102, h121, hg5, hg11, hg18, hg24, hg119, cs4])
 refine KS ?_
 refine Oq Vm ?_
 refine QaK (QcQ (Qab.mk p.l QeV Qfz) (Str.mk [101, 110, 100])) fun rv157 hg158 => ?_
 have hc159 := Qr9 pP (Qab.mk p.l QeV Qfz) pa0 pk0 ((Str.mk [101, 110, 100])) pre pre pre pre rv157 hg158
 refine Oc [0, 3] Qr8 hc159 ?_
 rintro - ⟨he160, he161, he162⟩
 unfold Qac at he160 he161
 have he162 : (0 <= rv157.at_ /\ rv157.at_ <= (p.l.length : Int)) := he162
 refine KS ?_
 refine Oq Vm ?_
 refine QaK (QbL (Qab.mk p.l rv157.at_ rv157.Err)) fun rv163 hg164 => ?_
 have hc165 := Qjo pP (Qab.mk p.l rv157.at_ rv157.Err) pa0 pk0 pre pre pre rv163 hg164
 refine Oc [0, 3] Qjq hc165 ?_
 rintro - ⟨he166, he167, he168⟩
 unfold Qac at he166 he167
 have he168 : (0 <= rv163.at_ /\ rv163.at_ <= (p.l.length : Int)) := he168
 refine KS ?_
 refine Oq (QcR QhD 2) (Ost (Scl [3] QhD [.string (bs rv10.1), vl a108 k109 Qfk]) (KS ?_))
 refine Jl [2] (Ent.freeze _ _) ?_
 have hq := q4 hrr ((QbR.mk rv10.1 Qfk), (Qab.mk p.l rv163.at_ rv163.Err)) (by simp only [Qco, h26, h102, h121, hg5, hg11, hg18, hg24, hg119, hR156, hg158, hg164, cs4]); subst hq
 exact Kr (vl a108 k109 Qfk) rfl (.cellN 1 rfl QhD rfl (QaB _ _) rfl .nil) [0, 2] en
theorem Qu7 (text : Str) (Qqf : text.b.length <= 140737488355328) (rr : Qav × Int × Int × Int) (hrr : QbN text = rr) : FT Tryz.prog 27 #[.string (bs text)] [] (fun g : Value => Qac rr.2.1 /\ Qac rr.2.2.1 /\ Qac rr.2.2.2) (fun g => .tuple #[.agg #[g], vi rr.2.1, vi rr.2.2.1, vi rr.2.2.2]) (fun g => [sl g rr.1.Funcs]) := by
 refine FTi Tryz.func27 fun w0 M0 F0 => ?_
 refine KS ?_
 refine Oa (Al QsA [.slice none 0 0]) fun p1 => Oq Va (Oq Va (Oq Va (KS ?_)))
 refine Oq Vm ?_
 refine QaK (QeX text) fun rv3 hg4 => ?_
 have hc5 := Qu3 text pre rv3 hg4
 refine Oc [] Qvd hc5 ?_
 rintro c2 ⟨he6, he7, he8⟩
 unfold Qac at he6 he7 he8
 refine Jo 0 ?_; rintro a9 k10 rfl
 refine Fb 40 0 fun _ => ?_
 refine Oq Vm (Oq Vx (Oq Vx (Oq Vx (Oq Vx (Oq Va (Oq Va (Oq Va (Oq Va (KS ?_)))))))))
 refine Oq Vm (Oq QgE (KS ?_))
 refine Kc ?_ ?_
 ·intro h12
  have g13 := QbH h12
  refine KS ?_
  refine Oq (Vbd QkK [.slice none 0 0]) (Oq Vm (Oq Vm (Oq Vm (Ost (Scl [1] Qd3 [.slice none 0 0]) (Oq Va (Oq Va (Oq Va (KS ?_))))))))
  refine Jl [] (Ent.slNil (α := QbR)) ?_
  have hq := q4 hrr ((Qav.mk []), rv3.2.1, rv3.2.2.1, rv3.2.2.2) (by simp only [QbN, h12, hg4, cs4]); subst hq
  exact Kr (.slice none 0 0) rfl (.cellN 1 rfl Qd3 rfl (QaB _ _) rfl (.tmp rfl (.tmp rfl (.tmp rfl .nil)))) [0] en
 intro h12
 have g14 := Qaz h12
 refine KS ?_
 refine Oq Vm (Oq (Vbd QtF [vl a9 k10 rv3.1, vi 0, vi 0]) (Oa (AbO [vl a9 k10 rv3.1, vi 0, vi 0]) fun p15 => Oq Va (KS ?_)))
 refine Oa (Al QsA [.slice none 0 0]) fun p16 => KS ?_
 refine Oq Vm ?_
 refine QaK (Qeh (Qab.mk rv3.1 0 0) (Str.mk [102, 117, 110, 99])) fun rv17 hg18 => ?_
 have hc19 := Qom p15 (Qab.mk rv3.1 0 0) a9 k10 ((Str.mk [102, 117, 110, 99])) pre pre pre pre rv17 hg18
 refine Oc [1, 1] QoD hc19 ?_
 rintro - -
 refine Oq QeT (KS ?_)
 refine Kc ?_ ?_
 ·intro h20
  have h22 := not_true h20
  refine KS ?_
  refine Oq Vm ?_
  refine QaK (QbD (Qab.mk rv3.1 0 0) 4) fun rv24 hg25 => ?_
  have hc26 := QjI p15 (Qab.mk rv3.1 0 0) a9 k10 4 pre pre pre pre rv24 hg25
  refine Oc [0, 1] QjJ hc26 ?_
  rintro - ⟨he27, he28, he29⟩
  unfold Qac at he27 he28
  have he29 : (0 <= rv24.at_ /\ rv24.at_ <= (rv3.1.length : Int)) := he29
  refine KS ?_
  refine Jl [] (Ent.osNil (α := QbR)) ?_
  have hterm41 : QbJ rv3.1 (rv3.1.length + 1) rv24.at_ rv24.Err [] ≠ LR.oof := (QgS _ _ _ _ aM1).1
  refine Kl (γ := Nat × Int × Int × List QbR × Option Addr × Nat) (fun (r30, Qf0, Qgr, Qdc, a34, k35) => ⟨[(2, p1), (6, vl a9 k10 rv3.1), (10, p15), (11, p16)], [O a34 k35 Qdc, Cl p15 [vl a9 k10 rv3.1, vi Qf0, vi Qgr], Cl p16 [vl a34 k35 Qdc], S a9 k10 rv3.1, Cl p1 [.slice none 0 0]], QbJ rv3.1 r30 Qf0 Qgr Qdc = QbJ rv3.1 (rv3.1.length + 1) rv24.at_ rv24.Err [] /\ (-9223372036854775808 <= Qf0 /\ Qf0 <= 9223372036854775807) /\ (-9223372036854775808 <= Qgr /\ Qgr <= 9223372036854775807) /\ (0 <= Qf0 /\ Qf0 <= (rv3.1.length : Int)) /\ (Qdc.length <= 8), r30⟩) ((rv3.1.length + 1), rv24.at_, rv24.Err, [], none, 0) [0, 0, 0, 0, 1] ⟨rfl, aM1, aM1, iv0, iv0⟩ ?_
  rintro ⟨r30, Qf0, Qgr, Qdc, a34, k35⟩ ⟨hM36, hk37, hk38, hv39, hv40⟩
  refine Qbt fun _ _ hL hA => ?_; dsimp only at hL hA; subst hL hA
  refine Fb 40 0 fun _ => Fb 40 3 fun _ => ?_
  rcases r30 with _ | r30
  ·exact absurd (hM36.symm.trans rfl) hterm41
  refine KS ?_
  refine Oq Vm ?_
  refine QaK (Qeh (Qab.mk rv3.1 Qf0 Qgr) (Str.mk [102, 117, 110, 99])) fun rv44 hg45 => ?_
  have hc46 := Qom p15 (Qab.mk rv3.1 Qf0 Qgr) a9 k10 ((Str.mk [102, 117, 110, 99])) pre pre pre pre rv44 hg45
  refine Oc [1, 2] QoD hc46 ?_
  rintro - -
  refine KS ?_
  refine Kc ?_ ?_
  ·intro h47
   refine KS ?_
   refine Oq (Vfa QeP 2) (Oq (QaV QjO 2) (Oq (Qcn Qh1) (Oq QbB (KS ?_))))
   refine Kc ?_ ?_
   ·intro h49
    have g50 := eq_of_beq h49
    refine KS ?_
    refine Oq Vm ?_
    refine QaK (QbD (Qab.mk rv3.1 Qf0 Qgr) 7) fun rv51 hg52 => ?_
    have hc53 := QjI p15 (Qab.mk rv3.1 Qf0 Qgr) a9 k10 7 pre pre pre pre rv51 hg52
    refine Oc [0, 2] QjJ hc53 ?_
    rintro - ⟨he54, he55, he56⟩
    unfold Qac at he54 he55
    have he56 : (0 <= rv51.at_ /\ rv51.at_ <= (rv3.1.length : Int)) := he56
    refine KS ?_
    refine Ke ?_
    have hR57 := q2 hM36 (.brk (rv51.at_, rv51.Err, Qdc)) (by simp only [QbJ, h12, h20, h22, h47, h49, hg4, hg18, hg25, hg45, hg52, cs4])
    refine KS ?_
    refine Oq Vm (Oq (Vn 0) (Oq (Vfa Qbz 0) (Oq (QaV Qf9 0) (Oq QbB (Oq Vm ?_)))))
    refine Js 53 ?_ ?_
    ·intro h58
     have g59 := eq_of_beq h58
     refine Oq Vm (Oq (Vn 0) (Oq (Vfa Qbj 0) (Oq (QaV sh3 0) (Oq Vm (Oq (Qcn QeD) (Oq Qcg (Oq Vpt (KS ?_))))))))
     refine Kc ?_ ?_
     ·intro h60
      have g61 := dt h60
      refine KS ?_
      refine Oq Vm ?_
      refine QaK (QbD (Qab.mk rv3.1 rv51.at_ rv51.Err) 4) fun rv62 hg63 => ?_
      have hc64 := QjI p15 (Qab.mk rv3.1 rv51.at_ rv51.Err) a9 k10 4 pre pre pre pre rv62 hg63
      refine Oc [0, 2] QjJ hc64 ?_
      rintro - ⟨he65, he66, he67⟩
      unfold Qac at he65 he66
      have he67 : (0 <= rv62.at_ /\ rv62.at_ <= (rv3.1.length : Int)) := he67
      refine KS ?_
      refine Oq Vm (Oq (Vn 0) (Oq (Vfa Qbz 0) (Oq (QaV Qf9 0) (Oq QbB (KS ?_)))))
      refine Kc ?_ ?_
      ·intro h68
       have g69 := eq_of_beq h68
       refine KS ?_
       refine Oq (QcR Qd3 2) (Ost (Scl [4] Qd3 [vl a34 k35 Qdc]) (Oq Va (Oq Va (Oq Va (KS ?_)))))
       refine Jl [2] (Ent.freeze _ _) ?_
       have hq := q4 hrr ((Qav.mk Qdc), 0, 0, 0) (by simp only [QbN, h12, h20, h22, h47, h49, h58, h60, h68, hg4, hg18, hg25, hg45, hg52, hR57, hg63, cs4]); subst hq
       exact Kr (vl a34 k35 Qdc) rfl (.cellN 1 rfl Qd3 rfl (QaB _ _) rfl (.tmp rfl (.tmp rfl (.tmp rfl .nil)))) [0] en
      intro h68
      have g70 := ne_of_beq_false h68
      refine KS ?_
      refine Oq Vm (Oq (Vn 0) (Oq (Vfa Qbj 0) (Oq (QaV sh3 0) (Oq Vm (Oq (Qcn QeD) (Oq Qcg (KS ?_)))))))
      refine Kc ?_ ?_
      ·intro h71
       have g72 := dt h71
       refine KS ?_
       refine Jp 0 fun hp73 => ?_
       refine QbO rv62.at_.toNat 4 rfl rng fun hb74 hb75 hb76 hb77 => ?_
       unfold Qac at hb74 hb76 hb77
       refine Qat [0, 0, 0, 4, 12, 28, 62, 126, 254, 0, 0, 1024, 3072, 7168, 15872, 32256, 65024, 0, 131072, 393216, 917504, 1, 2097663, 6422527, 16777215] Qcz ?_
       refine Dv [] (Vbd QkK [.slice none 0 0]) (Dv [] Vm (Dv [] Vm (Dv [1] (Vn 0) (Dv [1] (Vfa Qbj 0) (Dv [2] (QaV sh3 0) (Dv [5] (Vi QeD 0) (Dv [0] (Vfa QgO 0) (Dv [0] (QaV sh3 0) (Dv [] Vm ?_)))))))))
       refine Dv [] Vm (Dv [1] (Vn 0) (Dv [1] (Vfa Qbj 0) (Dv [2] (QaV sh3 0) (Dv [5] (Vi QeD 0) (Dv [0] (Vfa QgX 0) (Dv [0] (QaV sh3 0) (Dv [] Vm (Dv [1] (Vn 0) (Dv [1] (Vfa Qbz 0) ?_)))))))))
       refine Dv [2] (QaV Qf9 0) (Dx0 [6] [6] [0] [fun G => Cl p1 [.slice none 0 0]] (fun G => xS (Scl [0] Qd3 [.slice none 0 0])) (Dv [] Va (Dv [] Va (Dv [] Va ?_))))
       refine Dn ⟨by kernel_rfl, fun G => ?_⟩
       refine Jw2 [(2, p1), (3, vi ((rv3.1.getD rv62.at_.toNat default).Line)), (4, vi ((rv3.1.getD rv62.at_.toNat default).Col)), (5, vi rv62.Err)] [0, 1, 2, 3, 4, 5] [Cl p1 [.slice none 0 0]] ?_
       refine Jk [0, 2, 2, 2, 2, 3] ?_
       refine Jl [] (Ent.slNil (α := QbR)) ?_
       have hq := q4 hrr ((Qav.mk []), (rv3.1.getD rv62.at_.toNat default).Line, (rv3.1.getD rv62.at_.toNat default).Col, rv62.Err) (by simp only [QbN, h12, h20, h22, h47, h49, h58, h60, h68, h71, hg4, hg18, hg25, hg45, hg52, hR57, hg63, cs4]); subst hq
       exact Kr (.slice none 0 0) rfl (.cellN 6 rfl Qd3 rfl (QaB _ _) rfl (.tmp rfl (.tmp rfl (.tmp rfl .nil)))) [0] en
      intro h71
      have g78 := df h71
      refine KS ?_
      refine Jp 0 fun hp79 => ?_
      refine Qat [0, 0, 2, 6, 14, 1, 33, 97, 255] Qcz ?_
      refine Dv [] (Vbd QkK [.slice none 0 0]) (Dv [] Vm (Dv [0] (Vn 0) (Dv [0] (Vfa Qbz 0) (Dv [1] (QaV Qf9 0) (Dx0 [5] [5] [0] [fun G => Cl p1 [.slice none 0 0]] (fun G => xS (Scl [0] Qd3 [.slice none 0 0])) (Dv [] Va (Dv [] Va (Dv [] Va ?_))))))))
      refine Dn ⟨by kernel_rfl, fun G => ?_⟩
      refine Jw2 [(2, p1), (3, vi 0), (4, vi 0), (5, vi rv62.Err)] [0, 1, 2, 3, 4] [Cl p1 [.slice none 0 0]] ?_
      refine Jk [1, 1, 1, 1, 2] ?_
      refine Jl [] (Ent.slNil (α := QbR)) ?_
      have hq := q4 hrr ((Qav.mk []), 0, 0, rv62.Err) (by simp only [QbN, h12, h20, h22, h47, h49, h58, h60, h68, h71, hg4, hg18, hg25, hg45, hg52, hR57, hg63, cs4]); subst hq
      exact Kr (.slice none 0 0) rfl (.cellN 5 rfl Qd3 rfl (QaB _ _) rfl (.tmp rfl (.tmp rfl (.tmp rfl .nil)))) [0] en
     intro h60
     have g80 := df h60
     refine KS ?_
     refine Oq Vm (Oq (Vn 0) (Oq (Vfa Qbz 0) (Oq (QaV Qf9 0) (Oq QbB (KS ?_)))))
     refine Kc ?_ ?_
     ·intro h81
      have g82 := eq_of_beq h81
      refine KS ?_
      refine Oq (QcR Qd3 2) (Ost (Scl [4] Qd3 [vl a34 k35 Qdc]) (Oq Va (Oq Va (Oq Va (KS ?_)))))
      refine Jl [2] (Ent.freeze _ _) ?_
      have hq := q4 hrr ((Qav.mk Qdc), 0, 0, 0) (by simp only [QbN, h12, h20, h22, h47, h49, h58, h60, h81, hg4, hg18, hg25, hg45, hg52, hR57, cs4]); subst hq
      exact Kr (vl a34 k35 Qdc) rfl (.cellN 1 rfl Qd3 rfl (QaB _ _) rfl (.tmp rfl (.tmp rfl (.tmp rfl .nil)))) [0] en
     intro h81
     exact absurd h81 (by first | (simp [h58]; done) | (simp only [bne, h58]; decide) | (simp only [bne, h58, Bool.not_true, Bool.not_false]; decide) | (exfalso; omega) | (intro hq; simp only [bne, hq, Bool.not_false, Bool.not_true, reduceCtorEq] at h58))
    intro h58
    have g83 := ne_of_beq_false h58
    refine Osk (Osk (Osk (Osk (Osk (Osk (Osk (Oq Vpf (KS ?_))))))))
    refine Kf (KS ?_)
    refine Oq Vm (Oq (Vn 0) (Oq (Vfa Qbz 0) (Oq (QaV Qf9 0) (Oq QbB (KS ?_)))))
    refine Kc ?_ ?_
    ·intro h84
     exact absurd h84 (by first | (simp [h58]; done) | (simp only [bne, h58]; decide) | (simp only [bne, h58, Bool.not_true, Bool.not_false]; decide) | (exfalso; omega) | (intro hq; simp only [bne, hq, Bool.not_false, Bool.not_true, reduceCtorEq] at h58))
    intro h84
    have g85 := ne_of_beq_false h84
    refine KS ?_
    refine Oq Vm (Oq (Vn 0) (Oq (Vfa Qbj 0) (Oq (QaV sh3 0) (Oq Vm (Oq (Qcn QeD) (Oq Qcg (KS ?_)))))))
    refine Kc ?_ ?_
    ·intro h86
     have g87 := dt h86
     refine KS ?_
     refine Jp 0 fun hp88 => ?_
     refine QbO rv51.at_.toNat 4 rfl rng fun hb89 hb90 hb91 hb92 => ?_
     unfold Qac at hb89 hb91 hb92
     refine Qat [0, 0, 0, 4, 12, 28, 62, 126, 254, 0, 0, 1024, 3072, 7168, 15872, 32256, 65024, 0, 131072, 393216, 917504, 1, 2097663, 6422527, 16777215] Qcz ?_
     refine Dv [] (Vbd QkK [.slice none 0 0]) (Dv [] Vm (Dv [] Vm (Dv [1] (Vn 0) (Dv [1] (Vfa Qbj 0) (Dv [2] (QaV sh3 0) (Dv [5] (Vi QeD 0) (Dv [0] (Vfa QgO 0) (Dv [0] (QaV sh3 0) (Dv [] Vm ?_)))))))))
     refine Dv [] Vm (Dv [1] (Vn 0) (Dv [1] (Vfa Qbj 0) (Dv [2] (QaV sh3 0) (Dv [5] (Vi QeD 0) (Dv [0] (Vfa QgX 0) (Dv [0] (QaV sh3 0) (Dv [] Vm (Dv [1] (Vn 0) (Dv [1] (Vfa Qbz 0) ?_)))))))))
     refine Dv [2] (QaV Qf9 0) (Dx0 [6] [6] [0] [fun G => Cl p1 [.slice none 0 0]] (fun G => xS (Scl [0] Qd3 [.slice none 0 0])) (Dv [] Va (Dv [] Va (Dv [] Va ?_))))
     refine Dn ⟨by kernel_rfl, fun G => ?_⟩
     refine Jw2 [(2, p1), (3, vi ((rv3.1.getD rv51.at_.toNat default).Line)), (4, vi ((rv3.1.getD rv51.at_.toNat default).Col)), (5, vi rv51.Err)] [0, 1, 2, 3, 4, 5] [Cl p1 [.slice none 0 0]] ?_
     refine Jk [0, 2, 2, 2, 2, 3] ?_
     refine Jl [] (Ent.slNil (α := QbR)) ?_
     have hq := q4 hrr ((Qav.mk []), (rv3.1.getD rv51.at_.toNat default).Line, (rv3.1.getD rv51.at_.toNat default).Col, rv51.Err) (by simp only [QbN, h12, h20, h22, h47, h49, h58, h84, h86, hg4, hg18, hg25, hg45, hg52, hR57, cs4]); subst hq
     exact Kr (.slice none 0 0) rfl (.cellN 6 rfl Qd3 rfl (QaB _ _) rfl (.tmp rfl (.tmp rfl (.tmp rfl .nil)))) [0] en
    intro h86
    have g93 := df h86
    refine KS ?_
    refine Jp 0 fun hp94 => ?_
    refine Qat [0, 0, 2, 6, 14, 1, 33, 97, 255] Qcz ?_
    refine Dv [] (Vbd QkK [.slice none 0 0]) (Dv [] Vm (Dv [0] (Vn 0) (Dv [0] (Vfa Qbz 0) (Dv [1] (QaV Qf9 0) (Dx0 [5] [5] [0] [fun G => Cl p1 [.slice none 0 0]] (fun G => xS (Scl [0] Qd3 [.slice none 0 0])) (Dv [] Va (Dv [] Va (Dv [] Va ?_))))))))
    refine Dn ⟨by kernel_rfl, fun G => ?_⟩
    refine Jw2 [(2, p1), (3, vi 0), (4, vi 0), (5, vi rv51.Err)] [0, 1, 2, 3, 4] [Cl p1 [.slice none 0 0]] ?_
    refine Jk [1, 1, 1, 1, 2] ?_
    refine Jl [] (Ent.slNil (α := QbR)) ?_
    have hq := q4 hrr ((Qav.mk []), 0, 0, rv51.Err) (by simp only [QbN, h12, h20, h22, h47, h49, h58, h84, h86, hg4, hg18, hg25, hg45, hg52, hR57, cs4]); subst hq
    exact Kr (.slice none 0 0) rfl (.cellN 5 rfl Qd3 rfl (QaB _ _) rfl (.tmp rfl (.tmp rfl (.tmp rfl .nil)))) [0] en
   intro h49
   have g95 := ne_of_beq_false h49
   refine KS ?_
   refine Jp 2 fun hp96 => ?_
   refine Qat [0, 1, 0, 4, 12, 31, 63, 127] Qcz ?_
   refine Dv [0] (Vfa QeP 0) (Dv [3] (QaV QjO 0) (Dv [] Vm ?_))
   refine QaK (Qco (Qab.mk rv3.1 Qf0 Qgr)) fun rv98 hg99 => ?_
   refine Dx [1, 4] [1] [3, 0, 1, 2] (fun G => .agg #[.string (bs rv98.1.Name), (G.g 3 0)]) [fun G => SP.fact (rv98.1.Name.b.length <= 140737488355328 /\ Qac rv98.2.at_ /\ Qac rv98.2.Err /\ (0 <= rv98.2.at_ /\ rv98.2.at_ <= ((Qab.mk rv3.1 Qf0 Qgr).l.length : Int))), fun G => sl (G.g 3 0) rv98.1.Blocks, fun G => Cl p15 [vl a9 k10 rv3.1, vi rv98.2.at_, vi rv98.2.Err]] (fun G => xC [0, 0] Qum (Qt5 p15 (Qab.mk rv3.1 Qf0 Qgr) a9 k10 pre pre pre rv98 hg99)) (Dx [] [] [0] (fun G => (G.g 4 0)) [fun G => Cr (G.g 4 0) 1 [.string (bs rv98.1.Name), (G.g 3 0)]] (fun G => xA (AsV Qh1 Qsi [.agg #[.string (bs rv98.1.Name), (G.g 3 0)]] [.string (bs rv98.1.Name), (G.g 3 0)])) ?_)
   have hn102 := la Qdc ([rv98.1] : List QbR)
   refine Dx [2, 6, 7, 9] [2, 9] [2, 1, 0] (fun G => (G.g 5 0)) [fun G => os (G.g 5 0) ((Qdc ++ [rv98.1]) : List QbR)] (fun G => by refine xf 1 rfl ?_; rintro ⟨he103, he104, he105, he106⟩; unfold Qac at he104 he105; exact xp [3, 2] rfl (Ent.cr1 (α := QbR) (A := [sl (G.g 3 0) rv98.1.Blocks]) _ rv98.1 _ aB1 (fun h => ⟨_, rfl, aS1, Qbe (i := 0) rfl h⟩)) (xA (ApO [2, 0] Qh1 Qh1 Qsi))) (Dv [0] (Vfa QeP 0) (Dx0 [3, 10] [3] [1, 0] [fun G => Cl p16 [(G.g 5 0)]] (fun G => x1 1 rfl Qfd fun ho107 => (xS (OpS.frame [0] rfl (OpS.storeClF [(G.g 5 0)] [(G.g 5 0)] rfl rfl rfl QjO (Qb9 ho107) rfl (by simp only [List.all_cons, List.all_nil, ho107, Bool.and_true, Bool.true_and] <;> rfl) aB1 rfl)))) ?_))
   refine Dn ⟨by kernel_rfl, fun G => ?_⟩
   refine Jw2 [(2, p1), (6, vl a9 k10 rv3.1), (10, p15), (11, p16)] [0, 4, 5] [SP.fact (rv98.1.Name.b.length <= 140737488355328 /\ Qac rv98.2.at_ /\ Qac rv98.2.Err /\ (0 <= rv98.2.at_ /\ rv98.2.at_ <= ((Qab.mk rv3.1 Qf0 Qgr).l.length : Int))), sl (G.g 3 0) rv98.1.Blocks, Cl p15 [vl a9 k10 rv3.1, vi rv98.2.at_, vi rv98.2.Err], os (G.g 5 0) ((Qdc ++ [rv98.1]) : List QbR), Cl p16 [(G.g 5 0)]] ?_
   generalize G.g 3 0 = c97, G.g 5 0 = c101
   refine Jf 3 rfl ?_; rintro ⟨he108, he109, he110, he111⟩
   unfold Qac at he109 he110
   refine Jk [1, 2, 3, 4, 4, 4] ?_
   refine Jo 2 ?_; rintro a112 k113 rfl
   refine Fb 40 2 fun _ => ?_
   refine Jo 4 ?_; rintro a115 k116 rfl
   refine Fb 40 4 fun _ => KS ?_
   exact Kg (r30, rv98.2.at_, rv98.2.Err, (Qdc ++ [rv98.1]), a115, k116) [4, 3, 3, 0, 1] ⟨(q3 hM36 (by simp only [QbJ, h12, h20, h22, h47, h49, hg4, hg18, hg25, hg45, hg99, cs4])), aM1, aM1, iv1, iv1⟩
  intro h47
  refine Ke ?_
  have hR119 := q2 hM36 (.brk (Qf0, Qgr, Qdc)) (by simp only [QbJ, h12, h20, h22, h47, hg4, hg18, hg25, hg45, cs4])
  refine KS ?_
  refine Oq Vm (Oq (Vn 0) (Oq (Vfa Qbz 0) (Oq (QaV Qf9 0) (Oq QbB (Oq Vm ?_)))))
  refine Js 53 ?_ ?_
  ·intro h120
   have g121 := eq_of_beq h120
   refine Oq Vm (Oq (Vn 0) (Oq (Vfa Qbj 0) (Oq (QaV sh3 0) (Oq Vm (Oq (Qcn QeD) (Oq Qcg (Oq Vpt (KS ?_))))))))
   refine Kc ?_ ?_
   ·intro h122
    have g123 := dt h122
    refine KS ?_
    refine Oq Vm ?_
    refine QaK (QbD (Qab.mk rv3.1 Qf0 Qgr) 4) fun rv124 hg125 => ?_
    have hc126 := QjI p15 (Qab.mk rv3.1 Qf0 Qgr) a9 k10 4 pre pre pre pre rv124 hg125
    refine Oc [0, 2] QjJ hc126 ?_
    rintro - ⟨he127, he128, he129⟩
    unfold Qac at he127 he128
    have he129 : (0 <= rv124.at_ /\ rv124.at_ <= (rv3.1.length : Int)) := he129
    refine KS ?_
    refine Oq Vm (Oq (Vn 0) (Oq (Vfa Qbz 0) (Oq (QaV Qf9 0) (Oq QbB (KS ?_)))))
    refine Kc ?_ ?_
    ·intro h130
     have g131 := eq_of_beq h130
     refine KS ?_
     refine Oq (QcR Qd3 2) (Ost (Scl [4] Qd3 [vl a34 k35 Qdc]) (Oq Va (Oq Va (Oq Va (KS ?_)))))
     refine Jl [2] (Ent.freeze _ _) ?_
     have hq := q4 hrr ((Qav.mk Qdc), 0, 0, 0) (by simp only [QbN, h12, h20, h22, h47, h120, h122, h130, hg4, hg18, hg25, hg45, hR119, hg125, cs4]); subst hq
     exact Kr (vl a34 k35 Qdc) rfl (.cellN 1 rfl Qd3 rfl (QaB _ _) rfl (.tmp rfl (.tmp rfl (.tmp rfl .nil)))) [0] en
    intro h130
    have g132 := ne_of_beq_false h130
    refine KS ?_
    refine Oq Vm (Oq (Vn 0) (Oq (Vfa Qbj 0) (Oq (QaV sh3 0) (Oq Vm (Oq (Qcn QeD) (Oq Qcg (KS ?_)))))))
    refine Kc ?_ ?_
    ·intro h133
     have g134 := dt h133
     refine KS ?_
     refine Jp 0 fun hp135 => ?_
     refine QbO rv124.at_.toNat 4 rfl rng fun hb136 hb137 hb138 hb139 => ?_
     unfold Qac at hb136 hb138 hb139
     refine Qat [0, 0, 0, 4, 12, 28, 62, 126, 254, 0, 0, 1024, 3072, 7168, 15872, 32256, 65024, 0, 131072, 393216, 917504, 1, 2097663, 6422527, 16777215] Qcz ?_
     refine Dv [] (Vbd QkK [.slice none 0 0]) (Dv [] Vm (Dv [] Vm (Dv [1] (Vn 0) (Dv [1] (Vfa Qbj 0) (Dv [2] (QaV sh3 0) (Dv [5] (Vi QeD 0) (Dv [0] (Vfa QgO 0) (Dv [0] (QaV sh3 0) (Dv [] Vm ?_)))))))))
     refine Dv [] Vm (Dv [1] (Vn 0) (Dv [1] (Vfa Qbj 0) (Dv [2] (QaV sh3 0) (Dv [5] (Vi QeD 0) (Dv [0] (Vfa QgX 0) (Dv [0] (QaV sh3 0) (Dv [] Vm (Dv [1] (Vn 0) (Dv [1] (Vfa Qbz 0) ?_)))))))))
     refine Dv [2] (QaV Qf9 0) (Dx0 [6] [6] [0] [fun G => Cl p1 [.slice none 0 0]] (fun G => xS (Scl [0] Qd3 [.slice none 0 0])) (Dv [] Va (Dv [] Va (Dv [] Va ?_))))
     refine Dn ⟨by kernel_rfl, fun G => ?_⟩
     refine Jw2 [(2, p1), (3, vi ((rv3.1.getD rv124.at_.toNat default).Line)), (4, vi ((rv3.1.getD rv124.at_.toNat default).Col)), (5, vi rv124.Err)] [0, 1, 2, 3, 4, 5] [Cl p1 [.slice none 0 0]] ?_
     refine Jk [0, 2, 2, 2, 2, 3] ?_
     refine Jl [] (Ent.slNil (α := QbR)) ?_
     have hq := q4 hrr ((Qav.mk []), (rv3.1.getD rv124.at_.toNat default).Line, (rv3.1.getD rv124.at_.toNat default).Col, rv124.Err) (by simp only [QbN, h12, h20, h22, h47, h120, h122, h130, h133, hg4, hg18, hg25, hg45, hR119, hg125, cs4]); subst hq
     exact Kr (.slice none 0 0) rfl (.cellN 6 rfl Qd3 rfl (QaB _ _) rfl (.tmp rfl (.tmp rfl (.tmp rfl .nil)))) [0] en
    intro h133
    have g140 := df h133
    refine KS ?_
    refine Jp 0 fun hp141 => ?_
    refine Qat [0, 0, 2, 6, 14, 1, 33, 97, 255] Qcz ?_
    refine Dv [] (Vbd QkK [.slice none 0 0]) (Dv [] Vm (Dv [0] (Vn 0) (Dv [0] (Vfa Qbz 0) (Dv [1] (QaV Qf9 0) (Dx0 [5] [5] [0] [fun G => Cl p1 [.slice none 0 0]] (fun G => xS (Scl [0] Qd3 [.slice none 0 0])) (Dv [] Va (Dv [] Va (Dv [] Va ?_))))))))
    refine Dn ⟨by kernel_rfl, fun G => ?_⟩
    refine Jw2 [(2, p1), (3, vi 0), (4, vi 0), (5, vi rv124.Err)] [0, 1, 2, 3, 4] [Cl p1 [.slice none 0 0]] ?_
    refine Jk [1, 1, 1, 1, 2] ?_
    refine Jl [] (Ent.slNil (α := QbR)) ?_
    have hq := q4 hrr ((Qav.mk []), 0, 0, rv124.Err) (by simp only [QbN, h12, h20, h22, h47, h120, h122, h130, h133, hg4, hg18, hg25, hg45, hR119, hg125, cs4]); subst hq
    exact Kr (.slice none 0 0) rfl (.cellN 5 rfl Qd3 rfl (QaB _ _) rfl (.tmp rfl (.tmp rfl (.tmp rfl .nil)))) [0] en
   intro h122
   have g142 := df h122
   refine KS ?_
   refine Oq Vm (Oq (Vn 0) (Oq (Vfa Qbz 0) (Oq (QaV Qf9 0) (Oq QbB (KS ?_)))))
   refine Kc ?_ ?_
   ·intro h143
    have g144 := eq_of_beq h143
    refine KS ?_
    refine Oq (QcR Qd3 2) (Ost (Scl [4] Qd3 [vl a34 k35 Qdc]) (Oq Va (Oq Va (Oq Va (KS ?_)))))
    refine Jl [2] (Ent.freeze _ _) ?_
    have hq := q4 hrr ((Qav.mk Qdc), 0, 0, 0) (by simp only [QbN, h12, h20, h22, h47, h120, h122, h143, hg4, hg18, hg25, hg45, hR119, cs4]); subst hq
    exact Kr (vl a34 k35 Qdc) rfl (.cellN 1 rfl Qd3 rfl (QaB _ _) rfl (.tmp rfl (.tmp rfl (.tmp rfl .nil)))) [0] en
   intro h143
   exact absurd h143 (by first | (simp [h120]; done) | (simp only [bne, h120]; decide) | (simp only [bne, h120, Bool.not_true, Bool.not_false]; decide) | (exfalso; omega) | (intro hq; simp only [bne, hq, Bool.not_false, Bool.not_true, reduceCtorEq] at h120))
  intro h120
  have g145 := ne_of_beq_false h120
  refine Osk (Osk (Osk (Osk (Osk (Osk (Osk (Oq Vpf (KS ?_))))))))
  refine Kf (KS ?_)
  refine Oq Vm (Oq (Vn 0) (Oq (Vfa Qbz 0) (Oq (QaV Qf9 0) (Oq QbB (KS ?_)))))
  refine Kc ?_ ?_
  ·intro h146
   exact absurd h146 (by first | (simp [h120]; done) | (simp only [bne, h120]; decide) | (simp only [bne, h120, Bool.not_true, Bool.not_false]; decide) | (exfalso; omega) | (intro hq; simp only [bne, hq, Bool.not_false, Bool.not_true, reduceCtorEq] at h120))
  intro h146
  have g147 := ne_of_beq_false h146
  refine KS ?_
  refine Oq Vm (Oq (Vn 0) (Oq (Vfa Qbj 0) (Oq (QaV sh3 0) (Oq Vm (Oq (Qcn QeD) (Oq Qcg (KS ?_)))))))
  refine Kc ?_ ?_
  ·intro h148
   have g149 := dt h148
   refine KS ?_
   refine Jp 0 fun hp150 => ?_
   refine QbO Qf0.toNat 4 rfl rng fun hb151 hb152 hb153 hb154 => ?_
   unfold Qac at hb151 hb153 hb154
   refine Qat [0, 0, 0, 4, 12, 28, 62, 126, 254, 0, 0, 1024, 3072, 7168, 15872, 32256, 65024, 0, 131072, 393216, 917504, 1, 2097663, 6422527, 16777215] Qcz ?_
   refine Dv [] (Vbd QkK [.slice none 0 0]) (Dv [] Vm (Dv [] Vm (Dv [1] (Vn 0) (Dv [1] (Vfa Qbj 0) (Dv [2] (QaV sh3 0) (Dv [5] (Vi QeD 0) (Dv [0] (Vfa QgO 0) (Dv [0] (QaV sh3 0) (Dv [] Vm ?_)))))))))
   refine Dv [] Vm (Dv [1] (Vn 0) (Dv [1] (Vfa Qbj 0) (Dv [2] (QaV sh3 0) (Dv [5] (Vi QeD 0) (Dv [0] (Vfa QgX 0) (Dv [0] (QaV sh3 0) (Dv [] Vm (Dv [1] (Vn 0) (Dv [1] (Vfa Qbz 0) ?_)))))))))
   refine Dv [2] (QaV Qf9 0) (Dx0 [6] [6] [0] [fun G => Cl p1 [.slice none 0 0]] (fun G => xS (Scl [0] Qd3 [.slice none 0 0])) (Dv [] Va (Dv [] Va (Dv [] Va ?_))))
   refine Dn ⟨by kernel_rfl, fun G => ?_⟩
   refine Jw2 [(2, p1), (3, vi ((rv3.1.getD Qf0.toNat default).Line)), (4, vi ((rv3.1.getD Qf0.toNat default).Col)), (5, vi Qgr)] [0, 1, 2, 3, 4, 5] [Cl p1 [.slice none 0 0]] ?_
   refine Jk [0, 2, 2, 2, 2, 3] ?_
   refine Jl [] (Ent.slNil (α := QbR)) ?_
   have hq := q4 hrr ((Qav.mk []), (rv3.1.getD Qf0.toNat default).Line, (rv3.1.getD Qf0.toNat default).Col, Qgr) (by simp only [QbN, h12, h20, h22, h47, h120, h146, h148, hg4, hg18, hg25, hg45, hR119, cs4]); subst hq
   exact Kr (.slice none 0 0) rfl (.cellN 6 rfl Qd3 rfl (QaB _ _) rfl (.tmp rfl (.tmp rfl (.tmp rfl .nil)))) [0] en
  intro h148
  have g155 := df h148
  refine KS ?_
  refine Jp 0 fun hp156 => ?_
  refine Qat [0, 0, 2, 6, 14, 1, 33, 97, 255] Qcz ?_
  refine Dv [] (Vbd QkK [.slice none 0 0]) (Dv [] Vm (Dv [0] (Vn 0) (Dv [0] (Vfa Qbz 0) (Dv [1] (QaV Qf9 0) (Dx0 [5] [5] [0] [fun G => Cl p1 [.slice none 0 0]] (fun G => xS (Scl [0] Qd3 [.slice none 0 0])) (Dv [] Va (Dv [] Va (Dv [] Va ?_))))))))
  refine Dn ⟨by kernel_rfl, fun G => ?_⟩
  refine Jw2 [(2, p1), (3, vi 0), (4, vi 0), (5, vi Qgr)] [0, 1, 2, 3, 4] [Cl p1 [.slice none 0 0]] ?_
  refine Jk [1, 1, 1, 1, 2] ?_
  refine Jl [] (Ent.slNil (α := QbR)) ?_
  have hq := q4 hrr ((Qav.mk []), 0, 0, Qgr) (by simp only [QbN, h12, h20, h22, h47, h120, h146, h148, hg4, hg18, hg25, hg45, hR119, cs4]); subst hq
  exact Kr (.slice none 0 0) rfl (.cellN 5 rfl Qd3 rfl (QaB _ _) rfl (.tmp rfl (.tmp rfl (.tmp rfl .nil)))) [0] en
 intro h20
 have h158 := not_false h20
 refine KS ?_
 refine Jl [] (Ent.osNil (α := QbR)) ?_
 have hterm171 : QbJ rv3.1 (rv3.1.length + 1) 0 0 [] ≠ LR.oof := (QgS _ _ _ _ aM1).1
 refine Kl (γ := Nat × Int × Int × List QbR × Option Addr × Nat) (fun (r160, Qeg, QeH, Qct, a164, k165) => ⟨[(2, p1), (6, vl a9 k10 rv3.1), (10, p15), (11, p16)], [O a164 k165 Qct, Cl p15 [vl a9 k10 rv3.1, vi Qeg, vi QeH], Cl p16 [vl a164 k165 Qct], S a9 k10 rv3.1, Cl p1 [.slice none 0 0]], QbJ rv3.1 r160 Qeg QeH Qct = QbJ rv3.1 (rv3.1.length + 1) 0 0 [] /\ (-9223372036854775808 <= Qeg /\ Qeg <= 9223372036854775807) /\ (-9223372036854775808 <= QeH /\ QeH <= 9223372036854775807) /\ (0 <= Qeg /\ Qeg <= (rv3.1.length : Int)) /\ (Qct.length <= 8), r160⟩) ((rv3.1.length + 1), 0, 0, [], none, 0) [0, 0, 0, 0, 1] ⟨rfl, aM1, aM1, iv0, iv0⟩ ?_
 rintro ⟨r160, Qeg, QeH, Qct, a164, k165⟩ ⟨hM166, hk167, hk168, hv169, hv170⟩
 refine Qbt fun _ _ hL hA => ?_; dsimp only at hL hA; subst hL hA
 refine Fb 40 0 fun _ => Fb 40 3 fun _ => ?_
 rcases r160 with _ | r160
 ·exact absurd (hM166.symm.trans rfl) hterm171
 refine KS ?_
 refine Oq Vm ?_
 refine QaK (Qeh (Qab.mk rv3.1 Qeg QeH) (Str.mk [102, 117, 110, 99])) fun rv174 hg175 => ?_
 have hc176 := Qom p15 (Qab.mk rv3.1 Qeg QeH) a9 k10 ((Str.mk [102, 117, 110, 99])) pre pre pre pre rv174 hg175
 refine Oc [1, 2] QoD hc176 ?_
 rintro - -
 refine KS ?_
 refine Kc ?_ ?_
 ·intro h177
  refine KS ?_
  refine Oq (Vfa QeP 2) (Oq (QaV QjO 2) (Oq (Qcn Qh1) (Oq QbB (KS ?_))))
  refine Kc ?_ ?_
  ·intro h179
   have g180 := eq_of_beq h179
   refine KS ?_
   refine Oq Vm ?_
   refine QaK (QbD (Qab.mk rv3.1 Qeg QeH) 7) fun rv181 hg182 => ?_
   have hc183 := QjI p15 (Qab.mk rv3.1 Qeg QeH) a9 k10 7 pre pre pre pre rv181 hg182
   refine Oc [0, 2] QjJ hc183 ?_
   rintro - ⟨he184, he185, he186⟩
   unfold Qac at he184 he185
   have he186 : (0 <= rv181.at_ /\ rv181.at_ <= (rv3.1.length : Int)) := he186
   refine KS ?_
   refine Ke ?_
   have hR187 := q2 hM166 (.brk (rv181.at_, rv181.Err, Qct)) (by simp only [QbJ, h12, h20, h158, h177, h179, hg4, hg18, hg175, hg182, cs4])
   refine KS ?_
   refine Oq Vm (Oq (Vn 0) (Oq (Vfa Qbz 0) (Oq (QaV Qf9 0) (Oq QbB (Oq Vm ?_)))))
   refine Js 53 ?_ ?_
   ·intro h188
    have g189 := eq_of_beq h188
    refine Oq Vm (Oq (Vn 0) (Oq (Vfa Qbj 0) (Oq (QaV sh3 0) (Oq Vm (Oq (Qcn QeD) (Oq Qcg (Oq Vpt (KS ?_))))))))
    refine Kc ?_ ?_
    ·intro h190
     have g191 := dt h190
     refine KS ?_
     refine Oq Vm ?_
     refine QaK (QbD (Qab.mk rv3.1 rv181.at_ rv181.Err) 4) fun rv192 hg193 => ?_
     have hc194 := QjI p15 (Qab.mk rv3.1 rv181.at_ rv181.Err) a9 k10 4 pre pre pre pre rv192 hg193
     refine Oc [0, 2] QjJ hc194 ?_
     rintro - ⟨he195, he196, he197⟩
     unfold Qac at he195 he196
     have he197 : (0 <= rv192.at_ /\ rv192.at_ <= (rv3.1.length : Int)) := he197
     refine KS ?_
     refine Oq Vm (Oq (Vn 0) (Oq (Vfa Qbz 0) (Oq (QaV Qf9 0) (Oq QbB (KS ?_)))))
     refine Kc ?_ ?_
     ·intro h198
      have g199 := eq_of_beq h198
      refine KS ?_
      refine Oq (QcR Qd3 2) (Ost (Scl [4] Qd3 [vl a164 k165 Qct]) (Oq Va (Oq Va (Oq Va (KS ?_)))))
      refine Jl [2] (Ent.freeze _ _) ?_
      have hq := q4 hrr ((Qav.mk Qct), 0, 0, 0) (by simp only [QbN, h12, h20, h158, h177, h179, h188, h190, h198, hg4, hg18, hg175, hg182, hR187, hg193, cs4]); subst hq
      exact Kr (vl a164 k165 Qct) rfl (.cellN 1 rfl Qd3 rfl (QaB _ _) rfl (.tmp rfl (.tmp rfl (.tmp rfl .nil)))) [0] en
     intro h198
     have g200 := ne_of_beq_false h198
     refine KS ?_
     refine Oq Vm (Oq (Vn 0) (Oq (Vfa Qbj 0) (Oq (QaV sh3 0) (Oq Vm (Oq (Qcn QeD) (Oq Qcg (KS ?_)))))))
     refine Kc ?_ ?_
     ·intro h201
      have g202 := dt h201
      refine KS ?_
      refine Jp 0 fun hp203 => ?_
      refine QbO rv192.at_.toNat 4 rfl rng fun hb204 hb205 hb206 hb207 => ?_
      unfold Qac at hb204 hb206 hb207
      refine Qat [0, 0, 0, 4, 12, 28, 62, 126, 254, 0, 0, 1024, 3072, 7168, 15872, 32256, 65024, 0, 131072, 393216, 917504, 1, 2097663, 6422527, 16777215] Qcz ?_
      refine Dv [] (Vbd QkK [.slice none 0 0]) (Dv [] Vm (Dv [] Vm (Dv [1] (Vn 0) (Dv [1] (Vfa Qbj 0) (Dv [2] (QaV sh3 0) (Dv [5] (Vi QeD 0) (Dv [0] (Vfa QgO 0) (Dv [0] (QaV sh3 0) (Dv [] Vm ?_)))))))))
      refine Dv [] Vm (Dv [1] (Vn 0) (Dv [1] (Vfa Qbj 0) (Dv [2] (QaV sh3 0) (Dv [5] (Vi QeD 0) (Dv [0] (Vfa QgX 0) (Dv [0] (QaV sh3 0) (Dv [] Vm (Dv [1] (Vn 0) (Dv [1] (Vfa Qbz 0) ?_)))))))))
      refine Dv [2] (QaV Qf9 0) (Dx0 [6] [6] [0] [fun G => Cl p1 [.slice none 0 0]] (fun G => xS (Scl [0] Qd3 [.slice none 0 0])) (Dv [] Va (Dv [] Va (Dv [] Va ?_))))
      refine Dn ⟨by kernel_rfl, fun G => ?_⟩
      refine Jw2 [(2, p1), (3, vi ((rv3.1.getD rv192.at_.toNat default).Line)), (4, vi ((rv3.1.getD rv192.at_.toNat default).Col)), (5, vi rv192.Err)] [0, 1, 2, 3, 4, 5] [Cl p1 [.slice none 0 0]] ?_
      refine Jk [0, 2, 2, 2, 2, 3] ?_
      refine Jl [] (Ent.slNil (α := QbR)) ?_
      have hq := q4 hrr ((Qav.mk []), (rv3.1.getD rv192.at_.toNat default).Line, (rv3.1.getD rv192.at_.toNat default).Col, rv192.Err) (by simp only [QbN, h12, h20, h158, h177, h179, h188, h190, h198, h201, hg4, hg18, hg175, hg182, hR187, hg193, cs4]); subst hq
      exact Kr (.slice none 0 0) rfl (.cellN 6 rfl Qd3 rfl (QaB _ _) rfl (.tmp rfl (.tmp rfl (.tmp rfl .nil)))) [0] en
     intro h201
     have g208 := df h201
     refine KS ?_
     refine Jp 0 fun hp209 => ?_
     refine Qat [0, 0, 2, 6, 14, 1, 33, 97, 255] Qcz ?_
     refine Dv [] (Vbd QkK [.slice none 0 0]) (Dv [] Vm (Dv [0] (Vn 0) (Dv [0] (Vfa Qbz 0) (Dv [1] (QaV Qf9 0) (Dx0 [5] [5] [0] [fun G => Cl p1 [.slice none 0 0]] (fun G => xS (Scl [0] Qd3 [.slice none 0 0])) (Dv [] Va (Dv [] Va (Dv [] Va ?_))))))))
     refine Dn ⟨by kernel_rfl, fun G => ?_⟩
     refine Jw2 [(2, p1), (3, vi 0), (4, vi 0), (5, vi rv192.Err)] [0, 1, 2, 3, 4] [Cl p1 [.slice none 0 0]] ?_
     refine Jk [1, 1, 1, 1, 2] ?_
     refine Jl [] (Ent.slNil (α := QbR)) ?_
     have hq := q4 hrr ((Qav.mk []), 0, 0, rv192.Err) (by simp only [QbN, h12, h20, h158, h177, h179, h188, h190, h198, h201, hg4, hg18, hg175, hg182, hR187, hg193, cs4]); subst hq
     exact Kr (.slice none 0 0) rfl (.cellN 5 rfl Qd3 rfl (QaB _ _) rfl (.tmp rfl (.tmp rfl (.tmp rfl .nil)))) [0] en
    intro h190
    have g210 := df h190
    refine KS ?_
    refine Oq Vm (Oq (Vn 0) (Oq (Vfa Qbz 0) (Oq (QaV Qf9 0) (Oq QbB (KS ?_)))))
    refine Kc ?_ ?_
    ·intro h211
     have g212 := eq_of_beq h211
     refine KS ?_
     refine Oq (QcR Qd3 2) (Ost (Scl [4] Qd3 [vl a164 k165 Qct]) (Oq Va (Oq Va (Oq Va (KS ?_)))))
     refine Jl [2] (Ent.freeze _ _) ?_
     have hq := q4 hrr ((Qav.mk Qct), 0, 0, 0) (by simp only [QbN, h12, h20, h158, h177, h179, h188, h190, h211, hg4, hg18, hg175, hg182, hR187, cs4]); subst hq
     exact Kr (vl a164 k165 Qct) rfl (.cellN 1 rfl Qd3 rfl (QaB _ _) rfl (.tmp rfl (.tmp rfl (.tmp rfl .nil)))) [0] en
    intro h211
    exact absurd h211 (by first | (simp [h188]; done) | (simp only [bne, h188]; decide) | (simp only [bne, h188, Bool.not_true, Bool.not_false]; decide) | (exfalso; omega) | (intro hq; simp only [bne, hq, Bool.not_false, Bool.not_true, reduceCtorEq] at h188))
   intro h188
   have g213 := ne_of_beq_false h188
   refine Osk (Osk (Osk (Osk (Osk (Osk (Osk (Oq Vpf (KS ?_))))))))
   refine Kf (KS ?_)
   refine Oq Vm (Oq (Vn 0) (Oq (Vfa Qbz 0) (Oq (QaV Qf9 0) (Oq QbB (KS ?_)))))
   refine Kc ?_ ?_
   ·intro h214
    exact absurd h214 (by first | (simp [h188]; done) | (simp only [bne, h188]; decide) | (simp only [bne, h188, Bool.not_true, Bool.not_false]; decide) | (exfalso; omega) | (intro hq; simp only [bne, hq, Bool.not_false, Bool.not_true, reduceCtorEq] at h188))
   intro h214
   have g215 := ne_of_beq_false h214
   refine KS ?_
   refine Oq Vm (Oq (Vn 0) (Oq (Vfa Qbj 0) (Oq (QaV sh3 0) (Oq Vm (Oq (Qcn QeD) (Oq Qcg (KS ?_)))))))
   refine Kc ?_ ?_
   ·intro h216
    have g217 := dt h216
    refine KS ?_
    refine Jp 0 fun hp218 => ?_
    refine QbO rv181.at_.toNat 4 rfl rng fun hb219 hb220 hb221 hb222 => ?_
    unfold Qac at hb219 hb221 hb222
    refine Qat [0, 0, 0, 4, 12, 28, 62, 126, 254, 0, 0, 1024, 3072, 7168, 15872, 32256, 65024, 0, 131072, 393216, 917504, 1, 2097663, 6422527, 16777215] Qcz ?_
    refine Dv [] (Vbd QkK [.slice none 0 0]) (Dv [] Vm (Dv [] Vm (Dv [1] (Vn 0) (Dv [1] (Vfa Qbj 0) (Dv [2] (QaV sh3 0) (Dv [5] (Vi QeD 0) (Dv [0] (Vfa QgO 0) (Dv [0] (QaV sh3 0) (Dv [] Vm ?_)))))))))
    refine Dv [] Vm (Dv [1] (Vn 0) (Dv [1] (Vfa Qbj 0) (Dv [2] (QaV sh3 0) (Dv [5] (Vi QeD 0) (Dv [0] (Vfa QgX 0) (Dv [0] (QaV sh3 0) (Dv [] Vm (Dv [1] (Vn 0) (Dv [1] (Vfa Qbz 0) ?_)))))))))
    refine Dv [2] (QaV Qf9 0) (Dx0 [6] [6] [0] [fun G => Cl p1 [.slice none 0 0]] (fun G => xS (Scl [0] Qd3 [.slice none 0 0])) (Dv [] Va (Dv [] Va (Dv [] Va ?_))))
    refine Dn ⟨by kernel_rfl, fun G => ?_⟩
    refine Jw2 [(2, p1), (3, vi ((rv3.1.getD rv181.at_.toNat default).Line)), (4, vi ((rv3.1.getD rv181.at_.toNat default).Col)), (5, vi rv181.Err)] [0, 1, 2, 3, 4, 5] [Cl p1 [.slice none 0 0]] ?_
    refine Jk [0, 2, 2, 2, 2, 3] ?_
    refine Jl [] (Ent.slNil (α := QbR)) ?_
    have hq := q4 hrr ((Qav.mk []), (rv3.1.getD rv181.at_.toNat default).Line, (rv3.1.getD rv181.at_.toNat default).Col, rv181.Err) (by simp only [QbN, h12, h20, h158, h177, h179, h188, h214, h216, hg4, hg18, hg175, hg182, hR187, cs4]); subst hq
    exact Kr (.slice none 0 0) rfl (.cellN 6 rfl Qd3 rfl (QaB _ _) rfl (.tmp rfl (.tmp rfl (.tmp rfl .nil)))) [0] en
   intro h216
   have g223 := df h216
   refine KS ?_
   refine Jp 0 fun hp224 => ?_
   refine Qat [0, 0, 2, 6, 14, 1, 33, 97, 255] Qcz ?_
   refine Dv [] (Vbd QkK [.slice none 0 0]) (Dv [] Vm (Dv [0] (Vn 0) (Dv [0] (Vfa Qbz 0) (Dv [1] (QaV Qf9 0) (Dx0 [5] [5] [0] [fun G => Cl p1 [.slice none 0 0]] (fun G => xS (Scl [0] Qd3 [.slice none 0 0])) (Dv [] Va (Dv [] Va (Dv [] Va ?_))))))))
   refine Dn ⟨by kernel_rfl, fun G => ?_⟩
   refine Jw2 [(2, p1), (3, vi 0), (4, vi 0), (5, vi rv181.Err)] [0, 1, 2, 3, 4] [Cl p1 [.slice none 0 0]] ?_
   refine Jk [1, 1, 1, 1, 2] ?_
   refine Jl [] (Ent.slNil (α := QbR)) ?_
   have hq := q4 hrr ((Qav.mk []), 0, 0, rv181.Err) (by simp only [QbN, h12, h20, h158, h177, h179, h188, h214, h216, hg4, hg18, hg175, hg182, hR187, cs4]); subst hq
   exact Kr (.slice none 0 0) rfl (.cellN 5 rfl Qd3 rfl (QaB _ _) rfl (.tmp rfl (.tmp rfl (.tmp rfl .nil)))) [0] en
  intro h179
  have g225 := ne_of_beq_false h179
  refine KS ?_
  refine Jp 2 fun hp226 => ?_
  refine Qat [0, 1, 0, 4, 12, 31, 63, 127] Qcz ?_
  refine Dv [0] (Vfa QeP 0) (Dv [3] (QaV QjO 0) (Dv [] Vm ?_))
  refine QaK (Qco (Qab.mk rv3.1 Qeg QeH)) fun rv228 hg229 => ?_
  refine Dx [1, 4] [1] [3, 0, 1, 2] (fun G => .agg #[.string (bs rv228.1.Name), (G.g 3 0)]) [fun G => SP.fact (rv228.1.Name.b.length <= 140737488355328 /\ Qac rv228.2.at_ /\ Qac rv228.2.Err /\ (0 <= rv228.2.at_ /\ rv228.2.at_ <= ((Qab.mk rv3.1 Qeg QeH).l.length : Int))), fun G => sl (G.g 3 0) rv228.1.Blocks, fun G => Cl p15 [vl a9 k10 rv3.1, vi rv228.2.at_, vi rv228.2.Err]] (fun G => xC [0, 0] Qum (Qt5 p15 (Qab.mk rv3.1 Qeg QeH) a9 k10 pre pre pre rv228 hg229)) (Dx [] [] [0] (fun G => (G.g 4 0)) [fun G => Cr (G.g 4 0) 1 [.string (bs rv228.1.Name), (G.g 3 0)]] (fun G => xA (AsV Qh1 Qsi [.agg #[.string (bs rv228.1.Name), (G.g 3 0)]] [.string (bs rv228.1.Name), (G.g 3 0)])) ?_)
  have hn232 := la Qct ([rv228.1] : List QbR)
  refine Dx [2, 6, 7, 9] [2, 9] [2, 1, 0] (fun G => (G.g 5 0)) [fun G => os (G.g 5 0) ((Qct ++ [rv228.1]) : List QbR)] (fun G => by refine xf 1 rfl ?_; rintro ⟨he233, he234, he235, he236⟩; unfold Qac at he234 he235; exact xp [3, 2] rfl (Ent.cr1 (α := QbR) (A := [sl (G.g 3 0) rv228.1.Blocks]) _ rv228.1 _ aB1 (fun h => ⟨_, rfl, aS1, Qbe (i := 0) rfl h⟩)) (xA (ApO [2, 0] Qh1 Qh1 Qsi))) (Dv [0] (Vfa QeP 0) (Dx0 [3, 10] [3] [1, 0] [fun G => Cl p16 [(G.g 5 0)]] (fun G => x1 1 rfl Qfd fun ho237 => (xS (OpS.frame [0] rfl (OpS.storeClF [(G.g 5 0)] [(G.g 5 0)] rfl rfl rfl QjO (Qb9 ho237) rfl (by simp only [List.all_cons, List.all_nil, ho237, Bool.and_true, Bool.true_and] <;> rfl) aB1 rfl)))) ?_))
  refine Dn ⟨by kernel_rfl, fun G => ?_⟩
  refine Jw2 [(2, p1), (6, vl a9 k10 rv3.1), (10, p15), (11, p16)] [0, 4, 5] [SP.fact (rv228.1.Name.b.length <= 140737488355328 /\ Qac rv228.2.at_ /\ Qac rv228.2.Err /\ (0 <= rv228.2.at_ /\ rv228.2.at_ <= ((Qab.mk rv3.1 Qeg QeH).l.length : Int))), sl (G.g 3 0) rv228.1.Blocks, Cl p15 [vl a9 k10 rv3.1, vi rv228.2.at_, vi rv228.2.Err], os (G.g 5 0) ((Qct ++ [rv228.1]) : List QbR), Cl p16 [(G.g 5 0)]] ?_
  generalize G.g 3 0 = c227, G.g 5 0 = c231
  refine Jf 3 rfl ?_; rintro ⟨he238, he239, he240, he241⟩
  unfold Qac at he239 he240
  refine Jk [1, 2, 3, 4, 4, 4] ?_
  refine Jo 2 ?_; rintro a242 k243 rfl
  refine Fb 40 2 fun _ => ?_
  refine Jo 4 ?_; rintro a245 k246 rfl
  refine Fb 40 4 fun _ => KS ?_
  exact Kg (r160, rv228.2.at_, rv228.2.Err, (Qct ++ [rv228.1]), a245, k246) [4, 3, 3, 0, 1] ⟨(q3 hM166 (by simp only [QbJ, h12, h20, h158, h177, h179, hg4, hg18, hg175, hg229, cs4])), aM1, aM1, iv1, iv1⟩
 intro h177
 refine Ke ?_
 have hR249 := q2 hM166 (.brk (Qeg, QeH, Qct)) (by simp only [QbJ, h12, h20, h158, h177, hg4, hg18, hg175, cs4])
 refine KS ?_
 refine Oq Vm (Oq (Vn 0) (Oq (Vfa Qbz 0) (Oq (QaV Qf9 0) (Oq QbB (Oq Vm ?_)))))
 refine Js 53 ?_ ?_
 ·intro h250
  have g251 := eq_of_beq h250
  refine Oq Vm (Oq (Vn 0) (Oq (Vfa Qbj 0) (Oq (QaV sh3 0) (Oq Vm (Oq (Qcn QeD) (Oq Qcg (Oq Vpt (KS ?_))))))))
  refine Kc ?_ ?_
  ·intro h252
   have g253 := dt h252
   refine KS ?_
   refine Oq Vm ?_
   refine QaK (QbD (Qab.mk rv3.1 Qeg QeH) 4) fun rv254 hg255 => ?_
   have hc256 := QjI p15 (Qab.mk rv3.1 Qeg QeH) a9 k10 4 pre pre pre pre rv254 hg255
   refine Oc [0, 2] QjJ hc256 ?_
   rintro - ⟨he257, he258, he259⟩
   unfold Qac at he257 he258
   have he259 : (0 <= rv254.at_ /\ rv254.at_ <= (rv3.1.length : Int)) := he259
   refine KS ?_
   refine Oq Vm (Oq (Vn 0) (Oq (Vfa Qbz 0) (Oq (QaV Qf9 0) (Oq QbB (KS ?_)))))
   refine Kc ?_ ?_
   ·intro h260
    have g261 := eq_of_beq h260
    refine KS ?_
    refine Oq (QcR Qd3 2) (Ost (Scl [4] Qd3 [vl a164 k165 Qct]) (Oq Va (Oq Va (Oq Va (KS ?_)))))
    refine Jl [2] (Ent.freeze _ _) ?_
    have hq := q4 hrr ((Qav.mk Qct), 0, 0, 0) (by simp only [QbN, h12, h20, h158, h177, h250, h252, h260, hg4, hg18, hg175, hR249, hg255, cs4]); subst hq
    exact Kr (vl a164 k165 Qct) rfl (.cellN 1 rfl Qd3 rfl (QaB _ _) rfl (.tmp rfl (.tmp rfl (.tmp rfl .nil)))) [0] en
   intro h260
   have g262 := ne_of_beq_false h260
   refine KS ?_
   refine Oq Vm (Oq (Vn 0) (Oq (Vfa Qbj 0) (Oq (QaV sh3 0) (Oq Vm (Oq (Qcn QeD) (Oq Qcg (KS ?_)))))))
   refine Kc ?_ ?_
   ·intro h263
    have g264 := dt h263
    refine KS ?_
    refine Jp 0 fun hp265 => ?_
    refine QbO rv254.at_.toNat 4 rfl rng fun hb266 hb267 hb268 hb269 => ?_
    unfold Qac at hb266 hb268 hb269
    refine Qat [0, 0, 0, 4, 12, 28, 62, 126, 254, 0, 0, 1024, 3072, 7168, 15872, 32256, 65024, 0, 131072, 393216, 917504, 1, 2097663, 6422527, 16777215] Qcz ?_
    refine Dv [] (Vbd QkK [.slice none 0 0]) (Dv [] Vm (Dv [] Vm (Dv [1] (Vn 0) (Dv [1] (Vfa Qbj 0) (Dv [2] (QaV sh3 0) (Dv [5] (Vi QeD 0) (Dv [0] (Vfa QgO 0) (Dv [0] (QaV sh3 0) (Dv [] Vm ?_)))))))))
    refine Dv [] Vm (Dv [1] (Vn 0) (Dv [1] (Vfa Qbj 0) (Dv [2] (QaV sh3 0) (Dv [5] (Vi QeD 0) (Dv [0] (Vfa QgX 0) (Dv [0] (QaV sh3 0) (Dv [] Vm (Dv [1] (Vn 0) (Dv [1] (Vfa Qbz 0) ?_)))))))))
    refine Dv [2] (QaV Qf9 0) (Dx0 [6] [6] [0] [fun G => Cl p1 [.slice none 0 0]] (fun G => xS (Scl [0] Qd3 [.slice none 0 0])) (Dv [] Va (Dv [] Va (Dv [] Va ?_))))
    refine Dn ⟨by kernel_rfl, fun G => ?_⟩
    refine Jw2 [(2, p1), (3, vi ((rv3.1.getD rv254.at_.toNat default).Line)), (4, vi ((rv3.1.getD rv254.at_.toNat default).Col)), (5, vi rv254.Err)] [0, 1, 2, 3, 4, 5] [Cl p1 [.slice none 0 0]] ?_
    refine Jk [0, 2, 2, 2, 2, 3] ?_
    refine Jl [] (Ent.slNil (α := QbR)) ?_
    have hq := q4 hrr ((Qav.mk []), (rv3.1.getD rv254.at_.toNat default).Line, (rv3.1.getD rv254.at_.toNat default).Col, rv254.Err) (by simp only [QbN, h12, h20, h158, h177, h250, h252, h260, h263, hg4, hg18, hg175, hR249, hg255, cs4]); subst hq
    exact Kr (.slice none 0 0) rfl (.cellN 6 rfl Qd3 rfl (QaB _ _) rfl (.tmp rfl (.tmp rfl (.tmp rfl .nil)))) [0] en
   intro h263
   have g270 := df h263
   refine KS ?_
   refine Jp 0 fun hp271 => ?_
   refine Qat [0, 0, 2, 6, 14, 1, 33, 97, 255] Qcz ?_
   refine Dv [] (Vbd QkK [.slice none 0 0]) (Dv [] Vm (Dv [0] (Vn 0) (Dv [0] (Vfa Qbz 0) (Dv [1] (QaV Qf9 0) (Dx0 [5] [5] [0] [fun G => Cl p1 [.slice none 0 0]] (fun G => xS (Scl [0] Qd3 [.slice none 0 0])) (Dv [] Va (Dv [] Va (Dv [] Va ?_))))))))
   refine Dn ⟨by kernel_rfl, fun G => ?_⟩
   refine Jw2 [(2, p1), (3, vi 0), (4, vi 0), (5, vi rv254.Err)] [0, 1, 2, 3, 4] [Cl p1 [.slice none 0 0]] ?_
   refine Jk [1, 1, 1, 1, 2] ?_
   refine Jl [] (Ent.slNil (α := QbR)) ?_
   have hq := q4 hrr ((Qav.mk []), 0, 0, rv254.Err) (by simp only [QbN, h12, h20, h158, h177, h250, h252, h260, h263, hg4, hg18, hg175, hR249, hg255, cs4]); subst hq
   exact Kr (.slice none 0 0) rfl (.cellN 5 rfl Qd3 rfl (QaB _ _) rfl (.tmp rfl (.tmp rfl (.tmp rfl .nil)))) [0] en
  intro h252
  have g272 := df h252
  refine KS ?_
  refine Oq Vm (Oq (Vn 0) (Oq (Vfa Qbz 0) (Oq (QaV Qf9 0) (Oq QbB (KS ?_)))))
  refine Kc ?_ ?_
  ·intro h273
   have g274 := eq_of_beq h273
   refine KS ?_
   refine Oq (QcR Qd3 2) (Ost (Scl [4] Qd3 [vl a164 k165 Qct]) (Oq Va (Oq Va (Oq Va (KS ?_)))))
   refine Jl [2] (Ent.freeze _ _) ?_
   have hq := q4 hrr ((Qav.mk Qct), 0, 0, 0) (by simp only [QbN, h12, h20, h158, h177, h250, h252, h273, hg4, hg18, hg175, hR249, cs4]); subst hq
   exact Kr (vl a164 k165 Qct) rfl (.cellN 1 rfl Qd3 rfl (QaB _ _) rfl (.tmp rfl (.tmp rfl (.tmp rfl .nil)))) [0] en
  intro h273
  exact absurd h273 (by first | (simp [h250]; done) | (simp only [bne, h250]; decide) | (simp only [bne, h250, Bool.not_true, Bool.not_false]; decide) | (exfalso; omega) | (intro hq; simp only [bne, hq, Bool.not_false, Bool.not_true, reduceCtorEq] at h250))
 intro h250
 have g275 := ne_of_beq_false h250
 refine Osk (Osk (Osk (Osk (Osk (Osk (Osk (Oq Vpf (KS ?_))))))))
 refine Kf (KS ?_)
 refine Oq Vm (Oq (Vn 0) (Oq (Vfa Qbz 0) (Oq (QaV Qf9 0) (Oq QbB (KS ?_)))))
 refine Kc ?_ ?_
 ·intro h276
  exact absurd h276 (by first | (simp [h250]; done) | (simp only [bne, h250]; decide) | (simp only [bne, h250, Bool.not_true, Bool.not_false]; decide) | (exfalso; omega) | (intro hq; simp only [bne, hq, Bool.not_false, Bool.not_true, reduceCtorEq] at h250))
 intro h276
 have g277 := ne_of_beq_false h276
 refine KS ?_
 refine Oq Vm (Oq (Vn 0) (Oq (Vfa Qbj 0) (Oq (QaV sh3 0) (Oq Vm (Oq (Qcn QeD) (Oq Qcg (KS ?_)))))))
 refine Kc ?_ ?_
 ·intro h278
  have g279 := dt h278
  refine KS ?_
  refine Jp 0 fun hp280 => ?_
  refine QbO Qeg.toNat 4 rfl rng fun hb281 hb282 hb283 hb284 => ?_
  unfold Qac at hb281 hb283 hb284
  refine Qat [0, 0, 0, 4, 12, 28, 62, 126, 254, 0, 0, 1024, 3072, 7168, 15872, 32256, 65024, 0, 131072, 393216, 917504, 1, 2097663, 6422527, 16777215] Qcz ?_
  refine Dv [] (Vbd QkK [.slice none 0 0]) (Dv [] Vm (Dv [] Vm (Dv [1] (Vn 0) (Dv [1] (Vfa Qbj 0) (Dv [2] (QaV sh3 0) (Dv [5] (Vi QeD 0) (Dv [0] (Vfa QgO 0) (Dv [0] (QaV sh3 0) (Dv [] Vm ?_)))))))))
  refine Dv [] Vm (Dv [1] (Vn 0) (Dv [1] (Vfa Qbj 0) (Dv [2] (QaV sh3 0) (Dv [5] (Vi QeD 0) (Dv [0] (Vfa QgX 0) (Dv [0] (QaV sh3 0) (Dv [] Vm (Dv [1] (Vn 0) (Dv [1] (Vfa Qbz 0) ?_)))))))))
  refine Dv [2] (QaV Qf9 0) (Dx0 [6] [6] [0] [fun G => Cl p1 [.slice none 0 0]] (fun G => xS (Scl [0] Qd3 [.slice none 0 0])) (Dv [] Va (Dv [] Va (Dv [] Va ?_))))
  refine Dn ⟨by kernel_rfl, fun G => ?_⟩
  refine Jw2 [(2, p1), (3, vi ((rv3.1.getD Qeg.toNat default).Line)), (4, vi ((rv3.1.getD Qeg.toNat default).Col)), (5, vi QeH)] [0, 1, 2, 3, 4, 5] [Cl p1 [.slice none 0 0]] ?_
  refine Jk [0, 2, 2, 2, 2, 3] ?_
  refine Jl [] (Ent.slNil (α := QbR)) ?_
  have hq := q4 hrr ((Qav.mk []), (rv3.1.getD Qeg.toNat default).Line, (rv3.1.getD Qeg.toNat default).Col, QeH) (by simp only [QbN, h12, h20, h158, h177, h250, h276, h278, hg4, hg18, hg175, hR249, cs4]); subst hq
  exact Kr (.slice none 0 0) rfl (.cellN 6 rfl Qd3 rfl (QaB _ _) rfl (.tmp rfl (.tmp rfl (.tmp rfl .nil)))) [0] en
 intro h278
 have g285 := df h278
 refine KS ?_
 refine Jp 0 fun hp286 => ?_
 refine Qat [0, 0, 2, 6, 14, 1, 33, 97, 255] Qcz ?_
 refine Dv [] (Vbd QkK [.slice none 0 0]) (Dv [] Vm (Dv [0] (Vn 0) (Dv [0] (Vfa Qbz 0) (Dv [1] (QaV Qf9 0) (Dx0 [5] [5] [0] [fun G => Cl p1 [.slice none 0 0]] (fun G => xS (Scl [0] Qd3 [.slice none 0 0])) (Dv [] Va (Dv [] Va (Dv [] Va ?_))))))))
 refine Dn ⟨by kernel_rfl, fun G => ?_⟩
 refine Jw2 [(2, p1), (3, vi 0), (4, vi 0), (5, vi QeH)] [0, 1, 2, 3, 4] [Cl p1 [.slice none 0 0]] ?_
 refine Jk [1, 1, 1, 1, 2] ?_
 refine Jl [] (Ent.slNil (α := QbR)) ?_
 have hq := q4 hrr ((Qav.mk []), 0, 0, QeH) (by simp only [QbN, h12, h20, h158, h177, h250, h276, h278, hg4, hg18, hg175, hR249, cs4]); subst hq
 exact Kr (.slice none 0 0) rfl (.cellN 5 rfl Qd3 rfl (QaB _ _) rfl (.tmp rfl (.tmp rfl (.tmp rfl .nil)))) [0] en
theorem QuC (l : List Int) (la0 : Option Addr) (lk0 : Nat) (n : Int) (QkY : Qac n) (rr : Bool) (hrr : Qc1 l n = rr) : FT Tryz.prog 88 #[vl la0 lk0 l, vi n] [S la0 lk0 l] (fun g : Unit => True) (fun g => vb rr) (fun g => []) := by
 refine FTi Tryz.func88 fun w0 M0 F0 => ?_
 unfold Qac at QkY
 refine Fb 8 0 fun _ => Fo 0 fun ho2 => KS ?_
 refine Oq Va (KS ?_)
 refine Oq Vm (Oq (Qcn Qbo) (Oq Vm (KS ?_)))
 refine Kl (γ := Nat × Int) (fun (r3, Qmh) => ⟨[(0, vl la0 lk0 l), (1, vi n), (7, vl la0 lk0 l), (8, vi (l.length : Int)), (9, vi Qmh)], [S la0 lk0 l], Qbh l n r3 Qmh = Qbh l n (((l.length : Int) - 0).toNat) 0 /\ r3 = ((l.length : Int) - Qmh).toNat /\ (0 : Int) <= Qmh /\ Qmh <= (l.length : Int) /\ (-9223372036854775808 <= Qmh /\ Qmh <= 9223372036854775807), r3⟩) (((l.length : Int) - 0).toNat, 0) [0] ⟨rfl, rfl, aM1, aM1, aM1⟩ ?_
 rintro ⟨r3, Qmh⟩ ⟨hM5, hr6, hi7, hi8, hk9⟩
 refine Qbt fun _ _ hL hA => ?_; dsimp only at hL hA; subst hL hA
 refine Fb 8 0 fun _ => Fo 0 fun ho11 => KS ?_
 refine Oq Qcg (KS ?_)
 refine Kc ?_ ?_
 ·intro h12
  have g13 := dt h12
  obtain ⟨r14, rfl⟩ := scc (n := r3) aM1
  refine KS ?_
  refine Oq Vm (Oq (Vi Qbo 0) ?_)
  have hb15 := ok1 (i := Qmh.toNat) ho11 rng
  refine Oq (Qc7 sh3 0) (Oq Va (Oq Va (KS ?_)))
  refine Oq Vm (Oq Qcg (Oq Vm ?_))
  refine Js 16 ?_ ?_
  ·intro h16
   have g17 := dt h16
   refine Osk (Osk (Osk (Oq Vpt (Oq Vm (Osk (Osk (Osk (Osk (Osk ?_)))))))))
   refine Osk (Osk (Osk (Osk (Osk (Osk (Oq Vpt (KS ?_)))))))
   refine Kt (KS ?_)
   refine Oq Va (KS ?_)
   have hR18 := q2 hM5 (.ret false) (by simp only [Qbh, h12, h16, cs4])
   have hq := q4 hrr false (by simp only [Qc1, h12, h16, hR18, cs4]); subst hq
   exact Kr () rfl (.tmp rfl .nil) [] trivial
  intro h16
  have g19 := df h16
  refine Oq Vm (Oq Vm (Oq QeI (Oq Vpf (Oq Vm ?_))))
  refine Js 21 ?_ ?_
  ·intro h20
   have g21 := dt h20
   refine Osk (Osk (Osk (Osk (Osk (Osk (Osk (Osk (Osk (Osk ?_)))))))))
   refine Osk (Oq Vpt (KS ?_))
   refine Kt (KS ?_)
   refine Oq Va (KS ?_)
   have hR22 := q2 hM5 (.ret false) (by simp only [Qbh, h12, h16, h20, cs4])
   have hq := q4 hrr false (by simp only [Qc1, h12, h16, h20, hR22, cs4]); subst hq
   exact Kr () rfl (.tmp rfl .nil) [] trivial
  intro h20
  have g23 := df h20
  refine Oq Vm (Oq Qih (Oq Vm ?_))
  refine Js 24 ?_ ?_
  ·intro h24
   have g25 := dt h24
   refine Oq Vm (Oq Vm (Oq Vm (Oq Qdf (Oq (Vi Qbo 0) ?_))))
   have hb26 := ok1 (i := ((Qmh - 1) : Int).toNat) ho11 rng
   refine Oq (Qc7 sh3 0) (Oq Qh8 (Oq Vpt (Oq Vpf (KS ?_))))
   refine Kc ?_ ?_
   ·intro h27
    have g28 := dt h27
    refine KS ?_
    refine Oq Va (KS ?_)
    have hR29 := q2 hM5 (.ret false) (by simp only [Qbh, h12, h16, h20, h24, h27, cs4])
    have hq := q4 hrr false (by simp only [Qc1, h12, h16, h20, h24, h27, hR29, cs4]); subst hq
    exact Kr () rfl (.tmp rfl .nil) [] trivial
   intro h27
   have g30 := df h27
   refine KS ?_
   refine Oq Qbb (Oq Vm (KS ?_))
   exact Kg (r14, (Qmh + 1)) [0] ⟨(q3 hM5 (by simp only [Qbh, h12, h16, h20, h24, h27, cs4])), aM1, aM1, aM1, aM1⟩
  intro h24
  have g31 := df h24
  refine Osk (Osk (Osk (Osk (Osk (Osk (Osk (Oq Vpf (Oq Vpf (KS ?_)))))))))
  refine Kf (KS ?_)
  refine Oq Qbb (Oq Vm (KS ?_))
  exact Kg (r14, (Qmh + 1)) [0] ⟨(q3 hM5 (by simp only [Qbh, h12, h16, h20, h24, cs4])), aM1, aM1, aM1, aM1⟩
 intro h12
 have g32 := df h12
 obtain rfl : r3 = 0 := by omega
 refine Ke ?_
 have hR33 := q2 hM5 (.brk ()) (by simp only [Qbh, h12, cs4])
 refine KS ?_
 refine Oq Va (KS ?_)
 have hq := q4 hrr true (by simp only [Qc1, h12, hR33, cs4]); subst hq
 exact Kr () rfl (.tmp rfl .nil) [] trivial
theorem QtC (l : List (List Int)) (la0 : Option Addr) (lk0 : Nat) (rr : Int) (hrr : Qdd l = rr) : FT Tryz.prog 55 #[vl la0 lk0 l] [S la0 lk0 l] (fun g : Unit => Qac rr /\ (-1 <= rr /\ rr <= 1024)) (fun g => vi rr) (fun g => []) := by
 refine FTi Tryz.func55 fun w0 M0 F0 => Fb 24 0 fun _ => ?_
 refine KS ?_
 refine Oq Va (KS ?_)
 refine Oq Va (KS ?_)
 refine Oq Vm (Oq (Qcn Qg8) (Oq Vm (KS ?_)))
 refine Kl (γ := Nat × Int × Int) (fun (r2, Qgg, Qds) => ⟨[(0, vl la0 lk0 l), (3, vi Qgg), (6, vl la0 lk0 l), (7, vi (l.length : Int)), (8, vi Qds)], [S la0 lk0 l], Qcf l r2 Qgg Qds = Qcf l (((l.length : Int) - 0).toNat) 0 0 /\ r2 = ((l.length : Int) - Qds).toNat /\ (0 : Int) <= Qds /\ Qds <= (l.length : Int) /\ (-9223372036854775808 <= Qgg /\ Qgg <= 9223372036854775807) /\ (-9223372036854775808 <= Qds /\ Qds <= 9223372036854775807) /\ (0 <= Qgg /\ Qgg <= 1024), r2⟩) (((l.length : Int) - 0).toNat, 0, 0) [0] ⟨rfl, rfl, aM1, aM1, aM1, aM1, iv0⟩ ?_
 rintro ⟨r2, Qgg, Qds⟩ ⟨hM5, hr6, hi7, hi8, hk9, hk10, hv11⟩
 refine Qbt fun _ _ hL hA => ?_; dsimp only at hL hA; subst hL hA
 refine Fb 24 0 fun _ => KS ?_
 refine Oq Qcg (KS ?_)
 refine Kc ?_ ?_
 ·intro h13
  have g14 := dt h13
  obtain ⟨r15, rfl⟩ := scc (n := r2) aM1
  refine KS ?_
  refine Oq (Vi Qg8 0) ?_
  refine QfB Qds.toNat 0 rfl rng fun a16 k17 => ?_
  refine Fb 8 1 fun _ => Fo 1 fun ho19 => ?_
  refine Oq (Vld Qjr 0) (Oq Va (KS ?_))
  refine Oq Vm (Oq Vm (Oq (Qcn Qbo) (Oq Qbb (Oq Va (KS ?_)))))
  refine Oq Vm (Oq Qih (Oq Vm ?_))
  refine Js 18 ?_ ?_
  ·intro h20
   have g21 := dt h20
   refine Osk (Osk (Osk (Osk (Osk (Oq Vpt (KS ?_))))))
   refine Kt (KS ?_)
   refine Oq Va (KS ?_)
   have hR22 := q2 hM5 (.ret (-1)) (by simp only [Qcf, h13, h20, cs4])
   have hq := q4 hrr (-1) (by simp only [Qdd, h13, h20, hR22, cs4]); subst hq
   exact Kr () rfl (.tmp rfl .nil) [] en
  intro h20
  have g23 := df h20
  refine Oq Vm (Oq Vm (Oq (Qcn Qg8) ?_))
  refine QaK (Qc1 (l.getD Qds.toNat []) (l.length : Int)) fun rv24 hg25 => ?_
  have hc26 := QuC ((l.getD Qds.toNat [])) a16 k17 ((l.length : Int)) pre rv24 hg25
  refine Oc [1] QuV hc26 ?_
  rintro - -
  refine Oq QeT (Oq Vpf (KS ?_))
  refine Kc ?_ ?_
  ·intro h27
   have h29 := not_true h27
   refine KS ?_
   refine Oq Va (KS ?_)
   have hR31 := q2 hM5 (.ret (-1)) (by simp only [Qcf, h13, h20, h27, h29, hg25, cs4])
   have hq := q4 hrr (-1) (by simp only [Qdd, h13, h20, h27, h29, hg25, hR31, cs4]); subst hq
   exact Kr () rfl (.tmp rfl .nil) [] en
  intro h27
  have h33 := not_false h27
  refine KS ?_
  refine Oq Qbb (Oq Vm (KS ?_))
  exact Kg (r15, (Qgg + ((l.getD Qds.toNat []).length : Int)), (Qds + 1)) [2] ⟨(q3 hM5 (by simp only [Qcf, h13, h20, h27, h33, hg25, cs4])), aM1, aM1, aM1, aM1, aM1, iv1⟩
 intro h13
 have g35 := df h13
 obtain rfl : r2 = 0 := by omega
 refine Ke ?_
 have hR36 := q2 hM5 (.brk Qgg) (by simp only [Qcf, h13, cs4])
 refine KS ?_
 refine Oq Vm (Oq Va (KS ?_))
 have hq := q4 hrr Qgg (by simp only [Qdd, h13, hR36, cs4]); subst hq
 exact Kr () rfl (.tmp rfl .nil) [] en
theorem Qs6 (g : QaP) (ga0 : Option Addr) (gk0 : Nat) (ga1 : Option Addr) (gk1 : Nat) (ga2 : Option Addr) (gk2 : Nat) (rr : Bool) (hrr : Qck g = rr) : FT Tryz.prog 31 #[.agg #[vl ga0 gk0 g.Nodes, vl ga1 gk1 g.Succ, vl ga2 gk2 g.Pred]] [S ga0 gk0 g.Nodes, S ga1 gk1 g.Succ, S ga2 gk2 g.Pred] (fun g : Unit => True) (fun g => vb rr) (fun g => []) := by
 refine FTi Tryz.func31 fun w0 M0 F0 => Fb 32 0 fun _ => Fb 24 1 fun _ => Fb 24 2 fun _ => ?_
 refine KS ?_
 refine Oa (Ab [vl ga0 gk0 g.Nodes, vl ga1 gk1 g.Succ, vl ga2 gk2 g.Pred]) fun p4 => Oq Va (KS ?_)
 refine Oq (Vfa QjF 0) (Oq (QaV Qqq 0) (Oq (Qcn Qh0) (Oq Va (KS ?_))))
 refine Oq Vm (Oq Qcg (Oq Vm ?_))
 refine Js 14 ?_ ?_
 ·intro h5
  have g6 := dt h5
  refine Osk (Osk (Oq Vpt (Oq Vm (Osk (Osk (Osk (Osk (Osk (Oq Vpt ?_)))))))))
  refine Oq Vm (Osk (Osk (Osk (Osk (Osk (Oq Vpt (KS ?_)))))))
  refine Kt (KS ?_)
  refine Oq Va (KS ?_)
  have hq := q4 hrr false (by simp only [Qck, h5, cs4]); subst hq
  exact Kr () rfl (.tmp rfl .nil) [] trivial
 intro h5
 have g7 := df h5
 refine Oq Vm (Oq Qih (Oq Vpf (Oq Vm ?_)))
 refine Js 18 ?_ ?_
 ·intro h8
  have g9 := dt h8
  refine Osk (Osk (Osk (Osk (Osk (Oq Vpt (Oq Vm (Osk (Osk (Osk ?_)))))))))
  refine Osk (Osk (Oq Vpt (KS ?_)))
  refine Kt (KS ?_)
  refine Oq Va (KS ?_)
  have hq := q4 hrr false (by simp only [Qck, h5, h8, cs4]); subst hq
  exact Kr () rfl (.tmp rfl .nil) [] trivial
 intro h8
 have g10 := df h8
 refine Oq (Vfa Qfw 0) (Oq (QaV Qiq 0) (Oq (Qcn Qg8) (Oq Vm (Oq QgE (Oq Vpf (Oq Vm ?_))))))
 refine Js 25 ?_ ?_
 ·intro h11
  have g12 := QbH h11
  refine Osk (Osk (Osk (Osk (Osk (Oq Vpt (KS ?_))))))
  refine Kt (KS ?_)
  refine Oq Va (KS ?_)
  have hq := q4 hrr false (by simp only [Qck, h5, h8, h11, cs4]); subst hq
  exact Kr () rfl (.tmp rfl .nil) [] trivial
 intro h11
 have g13 := Qaz h11
 refine Oq (Vfa Qhj 0) (Oq (QaV Qiq 0) (Oq (Qcn Qg8) (Oq Vm (Oq QgE (Oq Vpf (KS ?_))))))
 refine Kc ?_ ?_
 ·intro h14
  have g15 := QbH h14
  refine KS ?_
  refine Oq Va (KS ?_)
  have hq := q4 hrr false (by simp only [Qck, h5, h8, h11, h14, cs4]); subst hq
  exact Kr () rfl (.tmp rfl .nil) [] trivial
 intro h14
 have g16 := Qaz h14
 refine KS ?_
 refine Oq (Vfa Qfw 0) (Oq (QaV Qiq 0) ?_)
 refine QaK (Qdd g.Succ) fun rv17 hg18 => ?_
 have hc19 := QtC g.Succ ga1 gk1 rv17 hg18
 refine Oc [2] Qty hc19 ?_
 rintro - ⟨he20, he21⟩
 unfold Qac at he20
 refine Oq Va (KS ?_)
 refine Oq Vm (Oq Qcg (Oq Vm ?_))
 refine Js 37 ?_ ?_
 ·intro h22
  have g23 := dt h22
  refine Osk (Osk (Osk (Osk (Osk (Oq Vpt (KS ?_))))))
  refine Kt (KS ?_)
  refine Oq Va (KS ?_)
  have hq := q4 hrr false (by simp only [Qck, h5, h8, h11, h14, h22, hg18, cs4]); subst hq
  exact Kr () rfl (.tmp rfl .nil) [] trivial
 intro h22
 have g24 := df h22
 try have hct := QnR (by assumption : Qdd g.Succ = _) h22
 refine Oq (Vfa Qhj 0) (Oq (QaV Qiq 0) ?_)
 refine QaK (Qdd g.Pred) fun rv25 hg26 => ?_
 have hc27 := QtC g.Pred ga2 gk2 rv25 hg26
 refine Oc [3] Qty hc27 ?_
 rintro - ⟨he28, he29⟩
 unfold Qac at he28
 refine Oq Vm (Oq QgE (Oq Vpf (KS ?_)))
 refine Kc ?_ ?_
 ·intro h30
  have g31 := QbH h30
  refine KS ?_
  refine Oq Va (KS ?_)
  have hq := q4 hrr false (by simp only [Qck, h5, h8, h11, h14, h22, h30, hg18, hg26, cs4]); subst hq
  exact Kr () rfl (.tmp rfl .nil) [] trivial
 intro h30
 have g32 := Qaz h30
 refine KS ?_
 refine Oq (Vfa Qfw 0) (Oq (QaV Qiq 0) (Oq (Qcn Qg8) (Oq Vm (KS ?_))))
 refine Kl (γ := Nat × Int) (fun (r33, Qdr) => ⟨[(1, p4), (45, vl ga1 gk1 g.Succ), (46, vi (g.Succ.length : Int)), (47, vi Qdr)], [pv p4 [vl ga0 gk0 g.Nodes, vl ga1 gk1 g.Succ, vl ga2 gk2 g.Pred], S ga0 gk0 g.Nodes, S ga1 gk1 g.Succ, S ga2 gk2 g.Pred], Qdt g r33 Qdr = Qdt g (((g.Succ.length : Int) - 0).toNat) 0 /\ r33 = ((g.Succ.length : Int) - Qdr).toNat /\ (0 : Int) <= Qdr /\ Qdr <= (g.Succ.length : Int) /\ (-9223372036854775808 <= Qdr /\ Qdr <= 9223372036854775807), r33⟩) (((g.Succ.length : Int) - 0).toNat, 0) [0, 1, 2, 3] ⟨rfl, rfl, aM1, aM1, aM1⟩ ?_
 rintro ⟨r33, Qdr⟩ ⟨hM35, hr36, hi37, hi38, hk39⟩
 refine Qbt fun _ _ hL hA => ?_; dsimp only at hL hA; subst hL hA
 refine Fb 32 1 fun _ => Fb 24 2 fun _ => Fb 24 3 fun _ => KS ?_
 refine Oq Qcg (KS ?_)
 refine Kc ?_ ?_
 ·intro h43
  have g44 := dt h43
  obtain ⟨r45, rfl⟩ := scc (n := r33) aM1
  refine KS ?_
  refine Oq Vm (Oq (Vi Qg8 2) ?_)
  refine QfB Qdr.toNat 2 rfl rng fun a46 k47 => ?_
  refine Fb 8 1 fun _ => Fo 1 fun ho49 => ?_
  refine Oq (Vld Qjr 0) (Oq Va (Oq Va (KS ?_)))
  refine Oq Vm (Oq (Qcn Qbo) (Oq Vm (KS ?_)))
  refine Kl (γ := Nat × Int) (fun (r50, Qf1) => ⟨[(1, p4), (45, vl ga1 gk1 g.Succ), (46, vi (g.Succ.length : Int)), (47, vi Qdr), (5, vi Qdr), (52, vl a46 k47 (g.Succ.getD Qdr.toNat [])), (53, vi ((g.Succ.getD Qdr.toNat []).length : Int)), (54, vi Qf1)], [S a46 k47 ((g.Succ.getD Qdr.toNat []) : List Int), pv p4 [vl ga0 gk0 g.Nodes, vl ga1 gk1 g.Succ, vl ga2 gk2 g.Pred], S ga0 gk0 g.Nodes, S ga1 gk1 g.Succ, S ga2 gk2 g.Pred], Qdw g Qdr (g.Succ.getD Qdr.toNat []) r50 Qf1 = Qdw g Qdr (g.Succ.getD Qdr.toNat []) (((((g.Succ.getD Qdr.toNat []).length : Int) : Int) - 0).toNat) 0 /\ r50 = ((((g.Succ.getD Qdr.toNat []).length : Int) : Int) - Qf1).toNat /\ (0 : Int) <= Qf1 /\ (Qf1 <= ((g.Succ.getD Qdr.toNat []).length : Int) \/ Qf1 = 0) /\ (-9223372036854775808 <= Qf1 /\ Qf1 <= 9223372036854775807), r50⟩) (((((g.Succ.getD Qdr.toNat []).length : Int) : Int) - 0).toNat, 0) [1, 2, 3, 4, 5] ⟨rfl, rfl, aM1, (.inr rfl), aM1⟩ ?_
  rintro ⟨r50, Qf1⟩ ⟨hM52, hr53, hi54, hi55, hk56⟩
  refine Qbt fun _ _ hL hA => ?_; dsimp only at hL hA; subst hL hA
  refine Fb 8 0 fun _ => Fo 0 fun ho58 => Fb 32 2 fun _ => Fb 24 3 fun _ => Fb 24 4 fun _ => KS ?_
  refine Oq Qcg (KS ?_)
  refine Kc ?_ ?_
  ·intro h62
   have g63 := dt h62
   have hbr := hct Qdr.toNat Qf1.toNat aM1
   obtain ⟨r64, rfl⟩ := scc (n := r50) aM1
   refine KS ?_
   refine Oq (Vi Qbo 0) ?_
   have hb65 := ok1 (i := Qf1.toNat) ho58 rng
   refine Oq (Qc7 sh3 0) (Oq Va (KS ?_))
   refine Oq (Vfa Qhj 1) (Oq (QaV Qiq 1) (Oq Vm (Oq (Vi Qg8 4) ?_)))
   refine QfB (((g.Succ.getD Qdr.toNat []).getD Qf1.toNat 0) : Int).toNat 4 rfl rng fun a66 k67 => ?_
   refine Fb 8 1 fun _ => Fo 1 fun ho69 => ?_
   refine Oq (Vld Qjr 0) (Oq Vm ?_)
   refine QaK (Qcs (g.Pred.getD (((g.Succ.getD Qdr.toNat []).getD Qf1.toNat 0) : Int).toNat []) Qdr) fun rv70 hg71 => ?_
   have hc72 := Qt4 ((g.Pred.getD (((g.Succ.getD Qdr.toNat []).getD Qf1.toNat 0) : Int).toNat [])) a66 k67 Qdr pre rv70 hg71
   refine Oc [1] Qt0 hc72 ?_
   rintro - -
   refine Oq QeT (KS ?_)
   refine Kc ?_ ?_
   ·intro h73
    have h75 := not_true h73
    refine KS ?_
    refine Oq Va (KS ?_)
    have hR77 := q2 hM52 (.ret false) (by simp only [Qdw, h5, h8, h11, h14, h22, h30, h43, h62, h73, h75, hg18, hg26, hg71, cs4])
    have hR78 := q2 hM35 (.ret false) (by simp only [Qdt, h5, h8, h11, h14, h22, h30, h43, h62, h73, h75, hg18, hg26, hg71, hR77, cs4])
    have hq := q4 hrr false (by simp only [Qck, h5, h8, h11, h14, h22, h30, h43, h62, h73, h75, hg18, hg26, hg71, hR77, hR78, cs4]); subst hq
    exact Kr () rfl (.tmp rfl .nil) [] trivial
   intro h73
   have h80 := not_false h73
   refine KS ?_
   refine Oq Qbb (Oq Vm (KS ?_))
   exact Kg (r64, (Qf1 + 1)) [2, 3, 4, 5, 6] ⟨(q3 hM52 (by simp only [Qdw, h5, h8, h11, h14, h22, h30, h43, h62, h73, h80, hg18, hg26, hg71, cs4])), aM1, aM1, aM1, aM1⟩
  intro h62
  have g82 := df h62
  obtain rfl : r50 = 0 := by omega
  refine Ke ?_
  have hR83 := q2 hM52 (.brk ()) (by simp only [Qdw, h5, h8, h11, h14, h22, h30, h43, h62, hg18, hg26, cs4])
  refine KS ?_
  refine Oq Qbb (Oq Vm (KS ?_))
  exact Kg (r45, (Qdr + 1)) [1, 2, 3, 4] ⟨(q3 hM35 (by simp only [Qdt, h5, h8, h11, h14, h22, h30, h43, h62, hg18, hg26, hR83, cs4])), aM1, aM1, aM1, aM1⟩
 intro h43
 have g84 := df h43
 obtain rfl : r33 = 0 := by omega
 refine Ke ?_
 have hR85 := q2 hM35 (.brk ()) (by simp only [Qdt, h5, h8, h11, h14, h22, h30, h43, hg18, hg26, cs4])
 refine KS ?_
 refine Oq Va (KS ?_)
 have hq := q4 hrr true (by simp only [Qck, h5, h8, h11, h14, h22, h30, h43, hg18, hg26, hR85, cs4]); subst hq
 exact Kr () rfl (.tmp rfl .nil) [] trivial
theorem Qvu (g : QaP) (ga0 : Option Addr) (gk0 : Nat) (ga1 : Option Addr) (gk1 : Nat) (ga2 : Option Addr) (gk2 : Nat) (rr : Int) (hrr : QhL g = rr) : FT Tryz.prog 28 #[.agg #[vl ga0 gk0 g.Nodes, vl ga1 gk1 g.Succ, vl ga2 gk2 g.Pred]] [S ga0 gk0 g.Nodes, S ga1 gk1 g.Succ, S ga2 gk2 g.Pred] (fun g : Unit => Qac rr) (fun g => vi rr) (fun g => []) := by
 refine FTi Tryz.func28 fun w0 M0 F0 => Fb 32 0 fun _ => Fb 24 1 fun _ => Fb 24 2 fun _ => ?_
 refine KS ?_
 refine Oa (Ab [vl ga0 gk0 g.Nodes, vl ga1 gk1 g.Succ, vl ga2 gk2 g.Pred]) fun p4 => Oq Va (KS ?_)
 refine Oq (QcR QiO 0) ?_
 refine QaK (Qck g) fun rv5 hg6 => ?_
 have hc7 := Qs6 g ga0 gk0 ga1 gk1 ga2 gk2 rv5 hg6
 refine Oc [1, 2, 3] Qtt hc7 ?_
 rintro - -
 refine Oq QeT (KS ?_)
 refine Kc ?_ ?_
 ·intro h8
  have h10 := not_true h8
  refine KS ?_
  refine Oq Va (KS ?_)
  have hq := q4 hrr 0 (by simp only [QhL, h8, h10, hg6, cs4]); subst hq
  exact Kr () rfl (.tmp rfl .nil) [] en
 intro h8
 have h13 := not_false h8
 refine KS ?_
 refine Oq (Vfa Qfw 0) (Oq (QaV Qiq 0) ?_)
 refine QaK (Qdd g.Succ) fun rv15 hg16 => ?_
 have hc17 := QtC g.Succ ga1 gk1 rv15 hg16
 refine Oc [2] Qty hc17 ?_
 rintro - ⟨he18, he19⟩
 unfold Qac at he18
 refine Oq Va (KS ?_)
 have hq := q4 hrr rv15 (by simp only [QhL, h8, h13, hg6, hg16, cs4]); subst hq
 exact Kr () rfl (.tmp rfl .nil) [] en
end Go.SL.G
