/- Part 4 of the walks: mirrors, plain laws and walks used by the last text of this claim. -/
import Derived.Test.YtodlobcpbdkjpaaGreatDoorW3
import Derived.Test.YtodlobcpbdkjpaaGreatDoorProg
set_option linter.unusedVariables false
set_option linter.unusedSimpArgs false
namespace Go.SL.G
open Go Go.SL Go.Proofs
set_option maxHeartbeats 20000000
set_option maxRecDepth 100000
theorem fn14 (b : List UInt8) (ba0 : Option Addr) (bk0 : Nat) (hb0 : b.length ≤ 1000000) (rr : GState × Int) (hrr : resume_Decode b = rr) : FT Tryz.prog 14 #[vl ba0 bk0 b] [S ba0 bk0 b] (fun g : Value × Value × Value × Value => i64ok rr.1.Phase ∧ i64ok rr.1.At ∧ i64ok rr.1.Edge ∧ i64ok rr.1.Steps ∧ i64ok rr.2) (fun g => .tuple #[.agg #[vi rr.1.Phase, g.1, g.2.1, vi rr.1.At, vi rr.1.Edge, g.2.2.1, g.2.2.2, vi rr.1.Steps], vi rr.2]) (fun g => [sl g.1 rr.1.Cone, sl g.2.1 rr.1.Leaf, sl g.2.2.1 rr.1.Values, sl g.2.2.2 rr.1.Queue]) := by
 refine FTi Tryz.func14 fun w0 M0 F0 => Fb 1 0 fun _ => ?_
 refine KS ?_
 refine Oa (Al ze26 [vi 0, .slice none 0 0, .slice none 0 0, vi 0, vi 0, .slice none 0 0, .slice none 0 0, vi 0]) fun p2 => Oq Va (KS ?_)
 refine Oq Vm ?_
 refine letv (uvarint_Open b) fun rv5 hg6 => ?_
 have hc7 := fn33 b ba0 bk0 pre rv5 hg6
 refine Oc [1] ca33 hc7 ?_
 rintro ⟨c3, c4⟩ he8
 unfold i64ok at he8
 refine Oq Vm (Oq Vx (Oq Vx (Oq Va (Oq Va (KS ?_)))))
 refine Oq Vm (Oq Vneq (KS ?_))
 refine Kc ?_ ?_
 ·intro h9
  have g10 := ne_of_bne h9
  refine KS ?_
  refine Oq (Vbd st26 [vi 0, .slice none 0 0, .slice none 0 0, vi 0, vi 0, .slice none 0 0, .slice none 0 0, vi 0]) (Oq Vm (Ost (Scl [1] sh26 [vi 0, .slice none 0 0, .slice none 0 0, vi 0, vi 0, .slice none 0 0, .slice none 0 0, vi 0]) (Oq Va (KS ?_))))
  refine Jl [] (Ent.slNil (α := Int)) ?_
  refine Jl [] (Ent.slNil (α := Bool)) ?_
  refine Jl [] (Ent.slNil (α := GSet)) ?_
  have hq := q4 hrr ((GState.mk 0 [] [] 0 0 [] [] 0), rv5) (by simp only [resume_Decode, h9, hg6, cs4]); subst hq
  exact Kr (.slice none 0 0, .slice none 0 0, .slice none 0 0, .slice none 0 0) rfl (.cellN 3 rfl sh26 rfl (reads_Cl _ _) rfl (.tmp rfl .nil)) [2, 1, 0, 2] en
 intro h9
 have g11 := eq_of_bne_false h9
 refine Jl [0] (Ent.cndE (bneT h9)) ?_
 refine Jo 1 ?_; rintro a12 k13 rfl
 refine Fb 1 1 fun _ => KS ?_
 refine Oq Vm ?_
 refine letv (resume_Read (GReader.mk ((b.take ((((b.length : Int) - 4) : Int).toNat)).drop 0) 0 false)) fun rv19 hg20 => ?_
 have hc21 := fn34 c3 (GReader.mk ((b.take ((((b.length : Int) - 4) : Int).toNat)).drop 0) 0 false) a12 k13 pre pre pre rv19 hg20
 refine Oc [0, 0] ca34 hc21 ?_
 rintro ⟨c15, c16, c17, c18⟩ ⟨he22, he23, he24, he25, he26, he27⟩
 unfold i64ok at he22 he23 he24 he25 he26
 have he27 : (0 ≤ rv19.2.at_ ∧ rv19.2.at_ ≤ (((b.take ((((b.length : Int) - 4) : Int).toNat)).drop 0).length : Int)) := he27
 refine Jo 0 ?_; rintro a28 k29 rfl
 refine Fb 8 0 fun _ => Fo 0 fun ho31 => ?_
 refine Jo 1 ?_; rintro a32 k33 rfl
 refine Fb 1 1 fun _ => ?_
 refine Jo 2 ?_; rintro a35 k36 rfl
 refine Fb 32 2 fun _ => ?_
 refine Jo 3 ?_; rintro a38 k39 rfl
 refine Fb 8 3 fun _ => Fo 3 fun ho41 => ?_
 refine Oa (Al ze26 [vi 0, .slice none 0 0, .slice none 0 0, vi 0, vi 0, .slice none 0 0, .slice none 0 0, vi 0]) fun p42 => Ost (Scl [0] sh26 [vi rv19.1.Phase, vl a28 k29 rv19.1.Cone, vl a32 k33 rv19.1.Leaf, vi rv19.1.At, vi rv19.1.Edge, vl a35 k36 rv19.1.Values, vl a38 k39 rv19.1.Queue, vi rv19.1.Steps]) (KS ?_)
 refine Oq Vm ?_
 refine letv (Reader_Done (GReader.mk ((b.take ((((b.length : Int) - 4) : Int).toNat)).drop 0) rv19.2.at_ rv19.2.Bad)) fun rv43 hg44 => ?_
 have hc45 := fn35 c3 (GReader.mk ((b.take ((((b.length : Int) - 4) : Int).toNat)).drop 0) rv19.2.at_ rv19.2.Bad) a12 k13 pre rv43 hg44
 refine Oc [5, 5] ca35 hc45 ?_
 rintro - -
 refine Oq Vnot (KS ?_)
 refine Kc ?_ ?_
 ·intro h46
  have h48 := not_true h46
  refine KS ?_
  refine Oq (Vbd st26 [vi 0, .slice none 0 0, .slice none 0 0, vi 0, vi 0, .slice none 0 0, .slice none 0 0, vi 0]) (Ost (Scl [7] sh26 [vi 0, .slice none 0 0, .slice none 0 0, vi 0, vi 0, .slice none 0 0, .slice none 0 0, vi 0]) (Oq Va (KS ?_)))
  refine Jl [] (Ent.slNil (α := Int)) ?_
  refine Jl [] (Ent.slNil (α := Bool)) ?_
  refine Jl [] (Ent.slNil (α := GSet)) ?_
  have hq := q4 hrr ((GState.mk 0 [] [] 0 0 [] [] 0), 13) (by simp only [resume_Decode, h9, h46, h48, hg6, hg20, hg44, cs4]); subst hq
  exact Kr (.slice none 0 0, .slice none 0 0, .slice none 0 0, .slice none 0 0) rfl (.cellN 3 rfl sh26 rfl (reads_Cl _ _) rfl (.tmp rfl .nil)) [2, 1, 0, 2] en
 intro h46
 have h51 := not_false h46
 refine KS ?_
 refine Oq (VldA sh26 1) (Ost (Scl [7] sh26 [vi rv19.1.Phase, vl a28 k29 rv19.1.Cone, vl a32 k33 rv19.1.Leaf, vi rv19.1.At, vi rv19.1.Edge, vl a35 k36 rv19.1.Values, vl a38 k39 rv19.1.Queue, vi rv19.1.Steps]) (Oq Va (KS ?_)))
 have hq := q4 hrr (rv19.1, 0) (by simp only [resume_Decode, h9, h46, h51, hg6, hg20, hg44, cs4]); subst hq
 exact Kr (vl a28 k29 rv19.1.Cone, vl a32 k33 rv19.1.Leaf, vl a35 k36 rv19.1.Values, vl a38 k39 rv19.1.Queue) rfl (.cellN 0 rfl sh26 rfl (reads_Cl _ _) rfl (.tmp rfl .nil)) [3, 4, 5, 6] en
theorem fn36 (a : List Int) (aa0 : Option Addr) (ak0 : Nat) (b : List Int) (ba0 : Option Addr) (bk0 : Nat) (rr : Bool) (hrr : r7_Ints a b = rr) : FT Tryz.prog 36 #[vl aa0 ak0 a, vl ba0 bk0 b] [S aa0 ak0 a, S ba0 bk0 b] (fun g : Unit => True) (fun g => vb rr) (fun g => []) := by
 refine FTi Tryz.func36 fun w0 M0 F0 => Fb 8 0 fun _ => Fo 0 fun ho2 => Fb 8 1 fun _ => Fo 1 fun ho4 => ?_
 refine KS ?_
 refine Oq Va (KS ?_)
 refine Oq Vm (Oq (Vlen sl22) (Oq Vm (Oq (Vlen sl22) (Oq Vneq (KS ?_)))))
 refine Kc ?_ ?_
 ·intro h5
  have g6 := ne_of_bne h5
  refine KS ?_
  refine Oq Va (KS ?_)
  have hq := q4 hrr false (by simp only [r7_Ints, h5, cs4]); subst hq
  exact Kr () rfl (.tmp rfl .nil) [] trivial
 intro h5
 have g7 := eq_of_bne_false h5
 refine KS ?_
 refine Oq Va (KS ?_)
 refine Kl (γ := Nat × Int) (fun (r8, i_9) => ⟨[(0, vl aa0 ak0 a), (1, vl ba0 bk0 b), (5, vi i_9)], [S aa0 ak0 a, S ba0 bk0 b], r7_Ints_L0 a b r8 i_9 = r7_Ints_L0 a b (((a.length : Int) - 0).toNat) 0 ∧ r8 = ((a.length : Int) - i_9).toNat ∧ (0 : Int) ≤ i_9 ∧ i_9 ≤ (a.length : Int) ∧ (-9223372036854775808 ≤ i_9 ∧ i_9 ≤ 9223372036854775807), r8⟩) (((a.length : Int) - 0).toNat, 0) [0, 1] ⟨rfl, rfl, aM1, aM1, aM1⟩ ?_
 rintro ⟨r8, i_9⟩ ⟨hM10, hr11, hi12, hi13, hk14⟩
 refine JJ_nx fun _ _ hL hA => ?_; dsimp only at hL hA; subst hL hA
 refine Fb 8 0 fun _ => Fo 0 fun ho16 => Fb 8 1 fun _ => Fo 1 fun ho18 => KS ?_
 refine Oq Vm (Oq Vm (Oq (Vlen sl22) (Oq Vlss (KS ?_))))
 refine Kc ?_ ?_
 ·intro h19
  have g20 := dt h19
  obtain ⟨r21, rfl⟩ := scc (n := r8) aM1
  refine KS ?_
  refine Kq [0, 0, 3, 7, 0, 0, 48, 112, 255] fmix ?_
  refine Qv [] Vm (Qv [] Vm (Qv [0] (Vi sl22 0) ?_))
  have hb22 := ok1 (i := i_9.toNat) ho16 rng
  refine Qv [0] (VldI sh3 0) (Qv [] Vm (Qv [] Vm (Qv [1] (Vi sl22 0) ?_)))
  have hb23 := ok1 (i := i_9.toNat) ho18 rng
  refine Qv [1] (VldI sh3 0) (Qv [] Vneq ?_)
  refine Qn ⟨by kernel_rfl, ?_⟩
  refine Kc ?_ ?_
  ·intro h24
   have g25 := ne_of_bne h24
   refine KS ?_
   refine Oq Va (KS ?_)
   have hR26 := q2 hM10 (.ret false) (by simp only [r7_Ints_L0, h19, h24, cs4])
   have hq := q4 hrr false (by simp only [r7_Ints, h5, h19, h24, hR26, cs4]); subst hq
   exact Kr () rfl (.tmp rfl .nil) [] trivial
  intro h24
  have g27 := eq_of_bne_false h24
  refine KS ?_
  refine Oq Vm (Oq Vadd (Oq Va (KS ?_)))
  exact Kg (r21, (i_9 + 1)) [0, 1] ⟨(q3 hM10 (by simp only [r7_Ints_L0, h19, h24, cs4])), aM1, aM1, aM1, aM1⟩
 intro h19
 have g28 := df h19
 obtain rfl : r8 = 0 := by omega
 refine Ke ?_
 have hR29 := q2 hM10 (.brk ()) (by simp only [r7_Ints_L0, h19, cs4])
 refine KS ?_
 refine Oq Va (KS ?_)
 have hq := q4 hrr true (by simp only [r7_Ints, h5, h19, hR29, cs4]); subst hq
 exact Kr () rfl (.tmp rfl .nil) [] trivial
theorem fn25 (a : GSet) (aa1 : Option Addr) (ak1 : Nat) (b : GSet) (ba1 : Option Addr) (bk1 : Nat) (ha_0 : i64ok a.Width) (hb_0 : i64ok b.Width) (rr : Bool) (hrr : r1_Same a b = rr) : FT Tryz.prog 25 #[.agg #[vi a.Width, vl aa1 ak1 a.Words], .agg #[vi b.Width, vl ba1 bk1 b.Words]] [S aa1 ak1 a.Words, S ba1 bk1 b.Words] (fun g : Unit => True) (fun g => vb rr) (fun g => []) := by
 refine FTi Tryz.func25 fun w0 M0 F0 => ?_
 unfold i64ok at ha_0 hb_0
 refine Fb 8 0 fun _ => Fb 8 1 fun _ => KS ?_
 refine Oa (Ab [vi a.Width, vl aa1 ak1 a.Words]) fun p3 => Oa (Ab [vi b.Width, vl ba1 bk1 b.Words]) fun p4 => Oq Va (KS ?_)
 refine Oq (Vfa fo39_0 1) (Oq (VldF sh3 1) (Oq (Vfa fo39_0 0) (Oq (VldF sh3 0) (Oq Vneq (Oq Vm ?_)))))
 refine Js 11 ?_ ?_
 ·intro h5
  have g6 := ne_of_bne h5
  refine Osk (Osk (Osk (Osk (Osk (Osk (Osk (Oq Vpt (KS ?_))))))))
  refine Kt (KS ?_)
  refine Oq Va (KS ?_)
  have hq := q4 hrr false (by simp only [r1_Same, h5, cs4]); subst hq
  exact Kr () rfl (.tmp rfl .nil) [] trivial
 intro h5
 have g7 := eq_of_bne_false h5
 refine Oq (Vfa fo39_1 1) (Oq (VldF sh37 1) (Oq (Vlen sl37) (Oq (Vfa fo39_1 0) (Oq (VldF sh37 0) (Oq (Vlen sl37) (Oq Vneq (Oq Vpf (KS ?_))))))))
 refine Kc ?_ ?_
 ·intro h8
  have g9 := ne_of_bne h8
  refine KS ?_
  refine Oq Va (KS ?_)
  have hq := q4 hrr false (by simp only [r1_Same, h5, h8, cs4]); subst hq
  exact Kr () rfl (.tmp rfl .nil) [] trivial
 intro h8
 have g10 := eq_of_bne_false h8
 refine KS ?_
 refine Oq Va (KS ?_)
 refine Kl (γ := Nat × Int) (fun (r11, i_12) => ⟨[(2, p3), (3, p4), (5, vi i_12)], [pv p4 [vi b.Width, vl ba1 bk1 b.Words], pv p3 [vi a.Width, vl aa1 ak1 a.Words], S aa1 ak1 a.Words, S ba1 bk1 b.Words], r1_Same_L0 a b r11 i_12 = r1_Same_L0 a b (((a.Words.length : Int) - 0).toNat) 0 ∧ r11 = ((a.Words.length : Int) - i_12).toNat ∧ (0 : Int) ≤ i_12 ∧ i_12 ≤ (a.Words.length : Int) ∧ (-9223372036854775808 ≤ i_12 ∧ i_12 ≤ 9223372036854775807), r11⟩) (((a.Words.length : Int) - 0).toNat, 0) [0, 1, 2, 3] ⟨rfl, rfl, aM1, aM1, aM1⟩ ?_
 rintro ⟨r11, i_12⟩ ⟨hM13, hr14, hi15, hi16, hk17⟩
 refine JJ_nx fun _ _ hL hA => ?_; dsimp only at hL hA; subst hL hA
 refine Fb 8 2 fun _ => Fb 8 3 fun _ => KS ?_
 refine Oq Vm (Oq (Vfa fo39_1 1) (Oq (VldF sh37 1) (Oq (Vlen sl37) (Oq Vlss (KS ?_)))))
 refine Kc ?_ ?_
 ·intro h20
  have g21 := dt h20
  obtain ⟨r22, rfl⟩ := scc (n := r11) aM1
  refine KS ?_
  refine Kq [0, 1, 0, 7, 15, 0, 32, 0, 224, 480, 1023] fmix ?_
  refine Qv [1] (Vfa fo39_1 0) (Qv [1] (VldF sh37 0) (Qv [] Vm (Qv [2] (Vi sl37 0) (Qv [2] (VldU sh68 0) (Qv [0] (Vfa fo39_1 0) (Qv [0] (VldF sh37 0) (Qv [] Vm (Qv [3] (Vi sl37 0) (Qv [3] (VldU sh68 0) ?_)))))))))
  refine Qv [] VneqU ?_
  refine Qn ⟨by kernel_rfl, ?_⟩
  refine Kc ?_ ?_
  ·intro h23
   have g24 := ne_of_bne h23
   refine KS ?_
   refine Oq Va (KS ?_)
   have hR25 := q2 hM13 (.ret false) (by simp only [r1_Same_L0, h20, h23, cs4])
   have hq := q4 hrr false (by simp only [r1_Same, h5, h8, h20, h23, hR25, cs4]); subst hq
   exact Kr () rfl (.tmp rfl .nil) [] trivial
  intro h23
  have g26 := eq_of_bne_false h23
  refine KS ?_
  refine Oq Vm (Oq Vadd (Oq Va (KS ?_)))
  exact Kg (r22, (i_12 + 1)) [0, 1, 2, 3] ⟨(q3 hM13 (by simp only [r1_Same_L0, h20, h23, cs4])), aM1, aM1, aM1, aM1⟩
 intro h20
 have g27 := df h20
 obtain rfl : r11 = 0 := by omega
 refine Ke ?_
 have hR28 := q2 hM13 (.brk ()) (by simp only [r1_Same_L0, h20, cs4])
 refine KS ?_
 refine Oq Va (KS ?_)
 have hq := q4 hrr true (by simp only [r1_Same, h5, h8, h20, hR28, cs4]); subst hq
 exact Kr () rfl (.tmp rfl .nil) [] trivial
theorem fn37 (a : List GSet) (aa0 : Option Addr) (ak0 : Nat) (b : List GSet) (ba0 : Option Addr) (bk0 : Nat) (rr : Bool) (hrr : r10_SameSets a b = rr) : FT Tryz.prog 37 #[vl aa0 ak0 a, vl ba0 bk0 b] [S aa0 ak0 a, S ba0 bk0 b] (fun g : Unit => True) (fun g => vb rr) (fun g => []) := by
 refine FTi Tryz.func37 fun w0 M0 F0 => Fb 32 0 fun _ => Fb 32 1 fun _ => ?_
 refine KS ?_
 refine Oq Va (KS ?_)
 refine Oq Vm (Oq (Vlen sl24) (Oq Vm (Oq (Vlen sl24) (Oq Vneq (KS ?_)))))
 refine Kc ?_ ?_
 ·intro h3
  have g4 := ne_of_bne h3
  refine KS ?_
  refine Oq Va (KS ?_)
  have hq := q4 hrr false (by simp only [r10_SameSets, h3, cs4]); subst hq
  exact Kr () rfl (.tmp rfl .nil) [] trivial
 intro h3
 have g5 := eq_of_bne_false h3
 refine KS ?_
 refine Oq Va (KS ?_)
 refine Kl (γ := Nat × Int) (fun (r6, i_7) => ⟨[(0, vl aa0 ak0 a), (1, vl ba0 bk0 b), (5, vi i_7)], [S aa0 ak0 a, S ba0 bk0 b], r10_SameSets_L0 a b r6 i_7 = r10_SameSets_L0 a b (((a.length : Int) - 0).toNat) 0 ∧ r6 = ((a.length : Int) - i_7).toNat ∧ (0 : Int) ≤ i_7 ∧ i_7 ≤ (a.length : Int) ∧ (-9223372036854775808 ≤ i_7 ∧ i_7 ≤ 9223372036854775807), r6⟩) (((a.length : Int) - 0).toNat, 0) [0, 1] ⟨rfl, rfl, aM1, aM1, aM1⟩ ?_
 rintro ⟨r6, i_7⟩ ⟨hM8, hr9, hi10, hi11, hk12⟩
 refine JJ_nx fun _ _ hL hA => ?_; dsimp only at hL hA; subst hL hA
 refine Fb 32 0 fun _ => Fb 32 1 fun _ => KS ?_
 refine Oq Vm (Oq Vm (Oq (Vlen sl24) (Oq Vlss (KS ?_))))
 refine Kc ?_ ?_
 ·intro h15
  have g16 := dt h15
  obtain ⟨r17, rfl⟩ := scc (n := r6) aM1
  refine KS ?_
  refine JJ_peek_GSet i_7.toNat 0 rfl rng fun a18 k19 hb20 => ?_
  unfold i64ok at hb20
  refine Fb 8 1 fun _ => ?_
  refine JJ_peek_GSet i_7.toNat 3 rfl rng fun a22 k23 hb24 => ?_
  unfold i64ok at hb24
  refine Fb 8 1 fun _ => ?_
  refine JK_drawK [0, 0, 3, 7, 0, 0, 48, 112, 255, 511] fmix ?_
  refine Dv [] Vm (Dv [] Vm (Dv [4] (Vi sl24 0) (Dv [2] (VldA sh39 0) (Dv [] Vm (Dv [] Vm (Dv [5] (Vi sl24 0) (Dv [0] (VldA sh39 0) ?_)))))))
  refine letv (r1_Same (a.getD i_7.toNat default) (b.getD i_7.toNat default)) fun rv26 hg27 => ?_
  refine Dx [1, 3] [] [1, 2, 0] (fun G => vb rv26) [fun G => SP.fact (True)] (fun G => xC [1, 0] ca25 (fn25 ((a.getD i_7.toNat default)) a18 k19 ((b.getD i_7.toNat default)) a22 k23 pre pre rv26 hg27)) (Dv [] Vnot ?_)
  refine Dn ⟨by kernel_rfl, fun G => ?_⟩
  refine Jw2 [(0, vl aa0 ak0 a), (1, vl ba0 bk0 b), (5, vi i_7), (26, vb (!rv26))] [0, 1, 2, 3, 4, 5] [SP.fact (True)] ?_
  refine Jk [0, 1, 2, 3, 4, 5] ?_
  refine Kc ?_ ?_
  ·intro h28
   have h30 := not_true h28
   refine KS ?_
   refine Oq Va (KS ?_)
   have hR32 := q2 hM8 (.ret false) (by simp only [r10_SameSets_L0, h15, h28, h30, hg27, cs4])
   have hq := q4 hrr false (by simp only [r10_SameSets, h3, h15, h28, h30, hg27, hR32, cs4]); subst hq
   exact Kr () rfl (.tmp rfl .nil) [] trivial
  intro h28
  have h34 := not_false h28
  refine KS ?_
  refine Oq Vm (Oq Vadd (Oq Va (KS ?_)))
  exact Kg (r17, (i_7 + 1)) [4, 5] ⟨(q3 hM8 (by simp only [r10_SameSets_L0, h15, h28, h34, hg27, cs4])), aM1, aM1, aM1, aM1⟩
 intro h15
 have g36 := df h15
 obtain rfl : r6 = 0 := by omega
 refine Ke ?_
 have hR37 := q2 hM8 (.brk ()) (by simp only [r10_SameSets_L0, h15, cs4])
 refine KS ?_
 refine Oq Va (KS ?_)
 have hq := q4 hrr true (by simp only [r10_SameSets, h3, h15, hR37, cs4]); subst hq
 exact Kr () rfl (.tmp rfl .nil) [] trivial
theorem fn15 (a : GState) (aa1 : Option Addr) (ak1 : Nat) (aa2 : Option Addr) (ak2 : Nat) (aa5 : Option Addr) (ak5 : Nat) (aa6 : Option Addr) (ak6 : Nat) (b : GState) (ba1 : Option Addr) (bk1 : Nat) (ba2 : Option Addr) (bk2 : Nat) (ba5 : Option Addr) (bk5 : Nat) (ba6 : Option Addr) (bk6 : Nat) (ha_0 : i64ok a.Phase) (ha_3 : i64ok a.At) (ha_4 : i64ok a.Edge) (ha_7 : i64ok a.Steps) (hb_0 : i64ok b.Phase) (hb_3 : i64ok b.At) (hb_4 : i64ok b.Edge) (hb_7 : i64ok b.Steps) (rr : Bool) (hrr : r14_SameState a b = rr) : FT Tryz.prog 15 #[.agg #[vi a.Phase, vl aa1 ak1 a.Cone, vl aa2 ak2 a.Leaf, vi a.At, vi a.Edge, vl aa5 ak5 a.Values, vl aa6 ak6 a.Queue, vi a.Steps], .agg #[vi b.Phase, vl ba1 bk1 b.Cone, vl ba2 bk2 b.Leaf, vi b.At, vi b.Edge, vl ba5 bk5 b.Values, vl ba6 bk6 b.Queue, vi b.Steps]] [S aa1 ak1 a.Cone, S aa2 ak2 a.Leaf, S aa5 ak5 a.Values, S aa6 ak6 a.Queue, S ba1 bk1 b.Cone, S ba2 bk2 b.Leaf, S ba5 bk5 b.Values, S ba6 bk6 b.Queue] (fun g : Unit => True) (fun g => vb rr) (fun g => []) := by
 refine FTi Tryz.func15 fun w0 M0 F0 => ?_
 unfold i64ok at ha_0 ha_3 ha_4 ha_7 hb_0 hb_3 hb_4 hb_7
 refine Fb 8 0 fun _ => Fo 0 fun ho2 => Fb 1 1 fun _ => Fb 32 2 fun _ => Fb 8 3 fun _ => Fo 3 fun ho6 => Fb 8 4 fun _ => Fo 4 fun ho8 => ?_
 refine Fb 1 5 fun _ => Fb 32 6 fun _ => Fb 8 7 fun _ => Fo 7 fun ho12 => KS ?_
 refine Oa (Ab [vi a.Phase, vl aa1 ak1 a.Cone, vl aa2 ak2 a.Leaf, vi a.At, vi a.Edge, vl aa5 ak5 a.Values, vl aa6 ak6 a.Queue, vi a.Steps]) fun p13 => Oa (Ab [vi b.Phase, vl ba1 bk1 b.Cone, vl ba2 bk2 b.Leaf, vi b.At, vi b.Edge, vl ba5 bk5 b.Values, vl ba6 bk6 b.Queue, vi b.Steps]) fun p14 => Oq Va (KS ?_)
 refine Oq (Vfa fo26_0 1) (Oq (VldF sh3 1) (Oq (Vfa fo26_0 0) (Oq (VldF sh3 0) (Oq Vneq (Oq Vm ?_)))))
 refine Js 11 ?_ ?_
 ·intro h15
  have g16 := ne_of_bne h15
  refine Osk (Osk (Osk (Osk (Osk (Osk (Oq Vpt (Oq Vm (Osk (Osk ?_)))))))))
  refine Osk (Osk (Osk (Oq Vpt (Oq Vm (Osk (Osk (Osk (Osk (Osk ?_)))))))))
  refine Oq Vpt (Oq Vm (Osk (Osk (Osk (Osk (Osk (Osk (Oq Vpt (Oq Vm ?_)))))))))
  refine Osk (Osk (Osk (Osk (Osk (Osk (Oq Vpt (Oq Vm (Osk (Osk ?_)))))))))
  refine Osk (Osk (Osk (Oq Vpt (Oq Vm (Osk (Osk (Osk (Osk (Osk ?_)))))))))
  refine Osk (Osk (Oq Vpt (KS ?_)))
  refine Kt (KS ?_)
  refine Oq Va (KS ?_)
  have hq := q4 hrr false (by simp only [r14_SameState, h15, cs4]); subst hq
  exact Kr () rfl (.tmp rfl .nil) [] trivial
 intro h15
 have g17 := eq_of_bne_false h15
 refine Oq (Vfa fo26_1 1) (Oq (VldF sh22 1) (Oq (Vfa fo26_1 0) (Oq (VldF sh22 0) ?_)))
 refine letv (r7_Ints a.Cone b.Cone) fun rv18 hg19 => ?_
 have hc20 := fn36 a.Cone aa1 ak1 b.Cone ba1 bk1 rv18 hg19
 refine Oc [2, 6] ca36 hc20 ?_
 rintro - -
 refine Oq Vnot (Oq Vpf (Oq Vm ?_))
 refine Js 19 ?_ ?_
 ·intro h21
  have h23 := not_true h21
  refine Osk (Osk (Osk (Osk (Osk (Oq Vpt (Oq Vm (Osk (Osk (Osk ?_)))))))))
  refine Osk (Osk (Oq Vpt (Oq Vm (Osk (Osk (Osk (Osk (Osk (Osk ?_)))))))))
  refine Oq Vpt (Oq Vm (Osk (Osk (Osk (Osk (Osk (Osk (Oq Vpt (Oq Vm ?_)))))))))
  refine Osk (Osk (Osk (Osk (Osk (Oq Vpt (Oq Vm (Osk (Osk (Osk ?_)))))))))
  refine Osk (Osk (Osk (Osk (Oq Vpt (KS ?_)))))
  refine Kt (KS ?_)
  refine Oq Va (KS ?_)
  have hq := q4 hrr false (by simp only [r14_SameState, h15, h21, h23, hg19, cs4]); subst hq
  exact Kr () rfl (.tmp rfl .nil) [] trivial
 intro h21
 have h26 := not_false h21
 refine Oq (Vfa fo26_3 1) (Oq (VldF sh3 1) (Oq (Vfa fo26_3 0) (Oq (VldF sh3 0) (Oq Vneq (Oq Vpf (Oq Vm ?_))))))
 refine Js 26 ?_ ?_
 ·intro h28
  have g29 := ne_of_bne h28
  refine Osk (Osk (Osk (Osk (Osk (Oq Vpt (Oq Vm (Osk (Osk (Osk ?_)))))))))
  refine Osk (Osk (Osk (Oq Vpt (Oq Vm (Osk (Osk (Osk (Osk (Osk ?_)))))))))
  refine Osk (Oq Vpt (Oq Vm (Osk (Osk (Osk (Osk (Osk (Oq Vpt (Oq Vm ?_)))))))))
  refine Osk (Osk (Osk (Osk (Osk (Osk (Osk (Oq Vpt (KS ?_))))))))
  refine Kt (KS ?_)
  refine Oq Va (KS ?_)
  have hq := q4 hrr false (by simp only [r14_SameState, h15, h21, h26, h28, hg19, cs4]); subst hq
  exact Kr () rfl (.tmp rfl .nil) [] trivial
 intro h28
 have g30 := eq_of_bne_false h28
 refine Oq (Vfa fo26_4 1) (Oq (VldF sh3 1) (Oq (Vfa fo26_4 0) (Oq (VldF sh3 0) (Oq Vneq (Oq Vpf (Oq Vm ?_))))))
 refine Js 33 ?_ ?_
 ·intro h31
  have g32 := ne_of_bne h31
  refine Osk (Osk (Osk (Osk (Osk (Osk (Oq Vpt (Oq Vm (Osk (Osk ?_)))))))))
  refine Osk (Osk (Osk (Osk (Oq Vpt (Oq Vm (Osk (Osk (Osk (Osk ?_)))))))))
  refine Osk (Oq Vpt (Oq Vm (Osk (Osk (Osk (Osk (Osk (Osk (Osk ?_)))))))))
  refine Oq Vpt (KS ?_)
  refine Kt (KS ?_)
  refine Oq Va (KS ?_)
  have hq := q4 hrr false (by simp only [r14_SameState, h15, h21, h26, h28, h31, hg19, cs4]); subst hq
  exact Kr () rfl (.tmp rfl .nil) [] trivial
 intro h31
 have g33 := eq_of_bne_false h31
 refine Oq (Vfa fo26_5 1) (Oq (VldF sh24 1) (Oq (Vfa fo26_5 0) (Oq (VldF sh24 0) ?_)))
 refine letv (r10_SameSets a.Values b.Values) fun rv34 hg35 => ?_
 have hc36 := fn37 a.Values aa5 ak5 b.Values ba5 bk5 rv34 hg35
 refine Oc [4, 8] ca37 hc36 ?_
 rintro - -
 refine Oq Vnot (Oq Vpf (Oq Vm ?_))
 refine Js 41 ?_ ?_
 ·intro h37
  have h39 := not_true h37
  refine Osk (Osk (Osk (Osk (Osk (Osk (Oq Vpt (Oq Vm (Osk (Osk ?_)))))))))
  refine Osk (Osk (Osk (Oq Vpt (Oq Vm (Osk (Osk (Osk (Osk (Osk ?_)))))))))
  refine Osk (Osk (Oq Vpt (KS ?_)))
  refine Kt (KS ?_)
  refine Oq Va (KS ?_)
  have hq := q4 hrr false (by simp only [r14_SameState, h15, h21, h26, h28, h31, h37, h39, hg19, hg35, cs4]); subst hq
  exact Kr () rfl (.tmp rfl .nil) [] trivial
 intro h37
 have h42 := not_false h37
 refine Oq (Vfa fo26_6 1) (Oq (VldF sh22 1) (Oq (Vfa fo26_6 0) (Oq (VldF sh22 0) ?_)))
 refine letv (r7_Ints a.Queue b.Queue) fun rv44 hg45 => ?_
 have hc46 := fn36 a.Queue aa6 ak6 b.Queue ba6 bk6 rv44 hg45
 refine Oc [5, 9] ca36 hc46 ?_
 rintro - -
 refine Oq Vnot (Oq Vpf (Oq Vm ?_))
 refine Js 49 ?_ ?_
 ·intro h47
  have h49 := not_true h47
  refine Osk (Osk (Osk (Osk (Osk (Oq Vpt (Oq Vm (Osk (Osk (Osk ?_)))))))))
  refine Osk (Osk (Osk (Osk (Oq Vpt (KS ?_)))))
  refine Kt (KS ?_)
  refine Oq Va (KS ?_)
  have hq := q4 hrr false (by simp only [r14_SameState, h15, h21, h26, h28, h31, h37, h42, h47, h49, hg19, hg35, hg45, cs4]); subst hq
  exact Kr () rfl (.tmp rfl .nil) [] trivial
 intro h47
 have h52 := not_false h47
 refine Oq (Vfa fo26_7 1) (Oq (VldF sh3 1) (Oq (Vfa fo26_7 0) (Oq (VldF sh3 0) (Oq Vneq (Oq Vpf (Oq Vm ?_))))))
 refine Js 56 ?_ ?_
 ·intro h54
  have g55 := ne_of_bne h54
  refine Osk (Osk (Osk (Osk (Osk (Osk (Osk (Oq Vpt (KS ?_))))))))
  refine Kt (KS ?_)
  refine Oq Va (KS ?_)
  have hq := q4 hrr false (by simp only [r14_SameState, h15, h21, h26, h28, h31, h37, h42, h47, h52, h54, hg19, hg35, hg45, cs4]); subst hq
  exact Kr () rfl (.tmp rfl .nil) [] trivial
 intro h54
 have g56 := eq_of_bne_false h54
 refine Oq (Vfa fo26_2 1) (Oq (VldF sh23 1) (Oq (Vlen sl23) (Oq (Vfa fo26_2 0) (Oq (VldF sh23 0) (Oq (Vlen sl23) (Oq Vneq (Oq Vpf (KS ?_))))))))
 refine Kc ?_ ?_
 ·intro h57
  have g58 := ne_of_bne h57
  refine KS ?_
  refine Oq Va (KS ?_)
  have hq := q4 hrr false (by simp only [r14_SameState, h15, h21, h26, h28, h31, h37, h42, h47, h52, h54, h57, hg19, hg35, hg45, cs4]); subst hq
  exact Kr () rfl (.tmp rfl .nil) [] trivial
 intro h57
 have g59 := eq_of_bne_false h57
 refine KS ?_
 refine Oq Va (KS ?_)
 refine Kl (γ := Nat × Int) (fun (r60, i_61) => ⟨[(2, p13), (3, p14), (5, vi i_61)], [pv p14 [vi b.Phase, vl ba1 bk1 b.Cone, vl ba2 bk2 b.Leaf, vi b.At, vi b.Edge, vl ba5 bk5 b.Values, vl ba6 bk6 b.Queue, vi b.Steps], pv p13 [vi a.Phase, vl aa1 ak1 a.Cone, vl aa2 ak2 a.Leaf, vi a.At, vi a.Edge, vl aa5 ak5 a.Values, vl aa6 ak6 a.Queue, vi a.Steps], S aa1 ak1 a.Cone, S aa2 ak2 a.Leaf, S aa5 ak5 a.Values, S aa6 ak6 a.Queue, S ba1 bk1 b.Cone, S ba2 bk2 b.Leaf, S ba5 bk5 b.Values, S ba6 bk6 b.Queue], r14_SameState_L0 a b r60 i_61 = r14_SameState_L0 a b (((a.Leaf.length : Int) - 0).toNat) 0 ∧ r60 = ((a.Leaf.length : Int) - i_61).toNat ∧ (0 : Int) ≤ i_61 ∧ i_61 ≤ (a.Leaf.length : Int) ∧ (-9223372036854775808 ≤ i_61 ∧ i_61 ≤ 9223372036854775807), r60⟩) (((a.Leaf.length : Int) - 0).toNat, 0) [0, 1, 2, 3, 4, 5, 6, 7, 8, 9] ⟨rfl, rfl, aM1, aM1, aM1⟩ ?_
 rintro ⟨r60, i_61⟩ ⟨hM62, hr63, hi64, hi65, hk66⟩
 refine JJ_nx fun _ _ hL hA => ?_; dsimp only at hL hA; subst hL hA
 refine Fb 8 2 fun _ => Fo 2 fun ho68 => Fb 1 3 fun _ => Fb 32 4 fun _ => Fb 8 5 fun _ => Fo 5 fun ho72 => Fb 8 6 fun _ => Fo 6 fun ho74 => ?_
 refine Fb 1 7 fun _ => Fb 32 8 fun _ => Fb 8 9 fun _ => Fo 9 fun ho78 => KS ?_
 refine Oq Vm (Oq (Vfa fo26_2 1) (Oq (VldF sh23 1) (Oq (Vlen sl23) (Oq Vlss (KS ?_)))))
 refine Kc ?_ ?_
 ·intro h79
  have g80 := dt h79
  obtain ⟨r81, rfl⟩ := scc (n := r60) aM1
  refine KS ?_
  refine Kq [0, 1, 0, 7, 15, 0, 32, 0, 224, 480, 1023] fmix ?_
  refine Qv [1] (Vfa fo26_2 0) (Qv [1] (VldF sh23 0) (Qv [] Vm (Qv [3] (Vi sl23 0) (Qv [3] (VldB sh4 0) (Qv [0] (Vfa fo26_2 0) (Qv [0] (VldF sh23 0) (Qv [] Vm (Qv [7] (Vi sl23 0) (Qv [7] (VldB sh4 0) ?_)))))))))
  refine Qv [] (Vnb un4) ?_
  refine Qn ⟨by kernel_rfl, ?_⟩
  refine Kc ?_ ?_
  ·intro h82
   refine KS ?_
   refine Oq Va (KS ?_)
   have hR84 := q2 hM62 (.ret false) (by simp only [r14_SameState_L0, h79, h82, cs4])
   have hq := q4 hrr false (by simp only [r14_SameState, h15, h21, h26, h28, h31, h37, h42, h47, h52, h54, h57, h79, h82, hg19, hg35, hg45, hR84, cs4]); subst hq
   exact Kr () rfl (.tmp rfl .nil) [] trivial
  intro h82
  refine KS ?_
  refine Oq Vm (Oq Vadd (Oq Va (KS ?_)))
  exact Kg (r81, (i_61 + 1)) [0, 1, 2, 3, 4, 5, 6, 7, 8, 9] ⟨(q3 hM62 (by simp only [r14_SameState_L0, h79, h82, cs4])), aM1, aM1, aM1, aM1⟩
 intro h79
 have g86 := df h79
 obtain rfl : r60 = 0 := by omega
 refine Ke ?_
 have hR87 := q2 hM62 (.brk ()) (by simp only [r14_SameState_L0, h79, cs4])
 refine KS ?_
 refine Oq Va (KS ?_)
 have hq := q4 hrr true (by simp only [r14_SameState, h15, h21, h26, h28, h31, h37, h42, h47, h52, h54, h57, h79, hg19, hg35, hg45, hR87, cs4]); subst hq
 exact Kr () rfl (.tmp rfl .nil) [] trivial
theorem fn28 (v : Int) (n : Int) (hv_0 : i64ok v) (hn_0 : i64ok n) (hn1 : 1 ≤ n) (rr : Int) (hrr : g_Mod v n = rr) : FT Tryz.prog 28 #[vi v, vi n] [] (fun g : Unit => i64ok rr ∧ (0 ≤ rr ∧ rr < n)) (fun g => vi rr) (fun g => []) := by
 refine FTi Tryz.func28 fun w0 M0 F0 => ?_
 unfold i64ok at hv_0 hn_0
 have hm := mod_range v n aM1
 refine KS ?_
 refine Oq Va (KS ?_)
 refine Oq Vm (Oq (VcU un3 un69) (Oq Vm (Oq (VcU un3 un69) (Oq (VremU (ofInt_ne n aM1)) (Oq (VcN un69 un3 (h := (mod_le v n aM1))) (Oq Va (KS ?_)))))))
 have hq := q4 hrr (((BitVec.ofInt 64 v) % (BitVec.ofInt 64 n)).toNat : Int) (by simp only [g_Mod, cs4]); subst hq
 exact Kr () rfl (.tmp rfl .nil) [] en
theorem fn9 (tP : Value) (ta : Option Addr) (tk : Nat) (tT : List Int) (tI : Int) (n : Int) (htI : 0 ≤ tI ∧ tI ≤ (tT.length : Int)) (hn_0 : i64ok n) (rr : Int × Int) (hrr : tp_Next tT tI n = rr) : FT Tryz.prog 9 #[tP, vi n] [Cl tP [vl ta tk tT, vi tI], S ta tk tT] (fun g : Unit => i64ok rr.1 ∧ (0 ≤ rr.2 ∧ rr.2 ≤ (tT.length : Int)) ∧ (0 ≤ rr.1 ∧ (rr.1 < n ∨ rr.1 = 0))) (fun g => vi rr.1) (fun g => [Cl tP [vl ta tk tT, vi rr.2]]) := by
 refine FTi Tryz.func9 fun w0 M0 F0 => ?_
 unfold i64ok at hn_0
 refine Fb 8 1 fun _ => Fo 1 fun ho2 => KS ?_
 refine Oq Va (KS ?_)
 refine Jp 0 fun hp3 => ?_
 refine Kq [0, 1, 3, 7, 15, 31, 63, 7, 135, 391, 903, 1927, 4095, 8191] fmix ?_
 refine Qv [] Vm (Qv [] Vleq ?_)
 refine bool_split (decide (n ≤ 1)) ?_ ?_
 ·intro h4
  have g5 := dt h4
  refine Qb h4 [] Vm (Qs (Qs (Qs (Qs (Qs (Qs (Qs (Qs (Qs ?_)))))))))
  refine Qs (Qv [] Vpt ?_)
  refine Qn ⟨by kernel_rfl, ?_⟩
  refine Kt (KS ?_)
  refine Oq Va (KS ?_)
  have hq := q4 hrr (0, tI) (by simp only [tp_Next, h4, cs4]); subst hq
  exact Kr () rfl (.tmp rfl .nil) [1] en
 intro h4
 have g6 := df h4
 refine Qb h4 [] Vm (Qv [] Vm (Qv [0] (Vn 0) (Qv [0] (Vfa fo65_1 0) (Qv [1] (VldF sh3 0) (Qv [] Vm (Qv [0] (Vn 0) (Qv [0] (Vfa fo65_0 0) (Qv [1] (VldF sh22 0) (Qv [] (Vlen sl22) ?_)))))))))
 refine Qv [] Vgeq (Qv [] Vpf ?_)
 refine Qn ⟨by kernel_rfl, ?_⟩
 refine Kc ?_ ?_
 ·intro h7
  have g8 := dt h7
  refine KS ?_
  refine Oq Va (KS ?_)
  have hq := q4 hrr (0, tI) (by simp only [tp_Next, h4, h7, cs4]); subst hq
  exact Kr () rfl (.tmp rfl .nil) [1] en
 intro h7
 have g9 := df h7
 refine KS ?_
 refine Oq Vm (Oq (Vn 1) (Oq (Vfa fo65_1 1) (Oq (VldF sh3 1) (Oq Vadd (Oq (Vn 1) (Oq (Vfa fo65_1 1) (Ost (SclF [1] sh3 [vl ta tk tT, vi (tI + 1)]) (KS ?_))))))))
 refine JK_drawK [0, 1, 3, 7, 0, 16, 48, 112, 240, 511, 1023, 0, 4095, 8191] fmix ?_
 refine Dv [] Vm (Dv [1] (Vn 0) (Dv [1] (Vfa fo65_0 0) (Dv [0] (VldF sh22 0) (Dv [] Vm (Dv [1] (Vn 0) (Dv [1] (Vfa fo65_1 0) (Dv [0] (VldF sh3 0) (Dv [] Vsub (Dv [2] (Vi sl22 0) ?_)))))))))
 have hb10 := ok1 (i := (((tI + 1) - 1) : Int).toNat) ho2 rng
 refine Dv [2] (VldI sh3 0) (Dv [] Vm ?_)
 refine letv (g_Mod (tT.getD (((tI + 1) - 1) : Int).toNat 0) n) fun rv11 hg12 => ?_
 refine Dx [] [] [0] (fun G => vi rv11) [fun G => SP.fact (i64ok rv11 ∧ (0 ≤ rv11 ∧ rv11 < n))] (fun G => xC [] ca28 (fn28 ((tT.getD (((tI + 1) - 1) : Int).toNat 0)) n pre pre pre rv11 hg12)) (Dv [] Va ?_)
 refine Dn ⟨by kernel_rfl, fun G => ?_⟩
 refine Jw2 [(4, vi rv11)] [0, 1, 2] [SP.fact (i64ok rv11 ∧ (0 ≤ rv11 ∧ rv11 < n))] ?_
 refine Jf 3 rfl ?_; rintro ⟨he13, he14⟩
 unfold i64ok at he13
 refine Jk [0, 1] ?_
 have hq := q4 hrr (rv11, (tI + 1)) (by simp only [tp_Next, h4, h7, hg12, cs4]); subst hq
 exact Kr () rfl (.tmp rfl .nil) [0] en
theorem fn39 (tP : Value) (ta : Option Addr) (tk : Nat) (tT : List Int) (tI : Int) (htI : 0 ≤ tI ∧ tI ≤ (tT.length : Int)) (rr : Int × Int) (hrr : tp_Width tT tI = rr) : FT Tryz.prog 39 #[tP] [Cl tP [vl ta tk tT, vi tI], S ta tk tT] (fun g : Unit => i64ok rr.1 ∧ (0 ≤ rr.2 ∧ rr.2 ≤ (tT.length : Int)) ∧ (0 ≤ rr.1 ∧ rr.1 ≤ 8)) (fun g => vi rr.1) (fun g => [Cl tP [vl ta tk tT, vi rr.2]]) := by
 refine FTi Tryz.func39 fun w0 M0 F0 => Fb 8 1 fun _ => Fo 1 fun ho2 => ?_
 refine KS ?_
 refine Oq Va (KS ?_)
 refine Oa (AsV sl22 sz22 [vi 3, vi 1, vi 4, vi 2, vi 6, vi 0, vi 8] [vi 3, vi 1, vi 4, vi 2, vi 6, vi 0, vi 8]) fun c3 => ?_
 refine Jo 0 ?_; rintro a4 k5 rfl
 refine Oq Vm ?_
 refine letv (tp_Next tT tI 7) fun rv6 hg7 => ?_
 have hc8 := fn9 tP ta tk tT tI 7 pre pre rv6 hg7
 refine Oc [1, 1] ca9 hc8 ?_
 rintro - ⟨he9, he10, he11⟩
 unfold i64ok at he9
 refine Jl [1] (Ent.crInt _ [3, 1, 4, 2, 6, 0, 8] _ _ rfl rfl (by intro x hx; simp only [List.mem_cons, List.not_mem_nil, or_false] at hx; rcases hx with rfl | rfl | rfl | rfl | rfl | rfl | rfl <;> (unfold i64ok; omega)) aB1) ?_
 refine Oq (Vi sl22 0) (Oq (VldI sh3 0) (Oq Va (KS ?_)))
 have hq := q4 hrr (([3, 1, 4, 2, 6, 0, 8].getD rv6.1.toNat 0), rv6.2) (by simp only [tp_Width, hg7, cs4]); subst hq
 exact Kr () rfl (.tmp rfl .nil) [1] ⟨(by rw [← hrr]; exact width_ok _ _), en, (by rw [← hrr]; exact width_rng _ _)⟩
theorem fn40 (l : List Int) (la0 : Option Addr) (lk0 : Nat) (n : Int) (hn_0 : i64ok n) (hl0 : l.length ≤ 1000000000) (rr : List Int) (hrr : r7_Insert l n = rr) : FT Tryz.prog 40 #[vl la0 lk0 l, vi n] [S la0 lk0 l] (fun g : Value => (rr.length ≤ l.length + 1)) (fun g => g) (fun g => [sl g rr]) := by
 refine FTi Tryz.func40 fun w0 M0 F0 => ?_
 unfold i64ok at hn_0
 refine Fb 8 0 fun _ => Fo 0 fun ho2 => KS ?_
 refine Oq Va (KS ?_)
 refine Oq Va (KS ?_)
 refine Kl (γ := Nat × Int) (fun (r3, i_4) => ⟨[(0, vl la0 lk0 l), (1, vi n), (5, vi i_4)], [S la0 lk0 l], r7_Insert_L0 l n r3 i_4 = r7_Insert_L0 l n (((l.length : Int) - 0).toNat) 0 ∧ r3 = ((l.length : Int) - i_4).toNat ∧ (0 : Int) ≤ i_4 ∧ i_4 ≤ (l.length : Int) ∧ (-9223372036854775808 ≤ i_4 ∧ i_4 ≤ 9223372036854775807), r3⟩) (((l.length : Int) - 0).toNat, 0) [0] ⟨rfl, rfl, aM1, aM1, aM1⟩ ?_
 rintro ⟨r3, i_4⟩ ⟨hM5, hr6, hi7, hi8, hk9⟩
 refine JJ_nx fun _ _ hL hA => ?_; dsimp only at hL hA; subst hL hA
 refine Fb 8 0 fun _ => Fo 0 fun ho11 => KS ?_
 refine Oq Vm (Oq Vm (Oq (Vlen sl22) (Oq Vlss (Oq Vm ?_))))
 refine Js 11 ?_ ?_
 ·intro h12
  have g13 := dt h12
  obtain ⟨r14, rfl⟩ := scc (n := r3) aM1
  refine Oq Vm (Oq Vm (Oq (Vi sl22 0) ?_))
  have hb15 := ok1 (i := i_4.toNat) ho11 rng
  refine Oq (VldI sh3 0) (Oq Vm (Oq Vlss (Oq Vpt (KS ?_))))
  refine Kc ?_ ?_
  ·intro h16
   have g17 := dt h16
   refine KS ?_
   refine Oq Vm (Oq Vadd (Oq Va (KS ?_)))
   exact Kg (r14, (i_4 + 1)) [0] ⟨(q3 hM5 (by simp only [r7_Insert_L0, h12, h16, cs4])), aM1, aM1, aM1, aM1⟩
  intro h16
  have g18 := df h16
  refine Ke ?_
  have hR19 := q2 hM5 i_4 (by simp only [r7_Insert_L0, h12, h16, cs4])
  refine KS ?_
  refine Oq Vm (Oq Vm (Oq (Vlen sl22) (Oq Vlss (Oq Vm ?_))))
  refine Js 25 ?_ ?_
  ·intro h20
   have g21 := dt h20
   refine Oq Vm (Oq Vm (Oq (Vi sl22 0) ?_))
   have hb22 := ok1 (i := i_4.toNat) ho11 rng
   refine Oq (VldI sh3 0) (Oq Vm (Oq Veql (Oq Vpt (KS ?_))))
   refine Kc ?_ ?_
   ·intro h23
    have g24 := eq_of_beq h23
    refine KS ?_
    refine Oq Vm (Oq Va (KS ?_))
    have hq := q4 hrr l (by simp only [r7_Insert, h12, h16, h20, h23, hR19, cs4]); subst hq
    exact Kr (vl la0 lk0 l) rfl (.tmp rfl .nil) [0] en
   intro h23
   have g25 := ne_of_beq_false h23
   refine KS ?_
   refine Oa (As0 sl22) fun c26 => ?_
   refine Jo 0 ?_; rintro a27 k28 rfl
   refine Oq Vm (Oq Vm (Oa (Asl [1] sl22 0 (i_4.toNat)) fun c29 => ?_))
   refine Jo 0 ?_; rintro a30 k31 rfl
   refine Fb 8 0 fun _ => Fo 0 fun ho33 => ?_
   have hn34 : ((l.take (i_4.toNat)).drop 0).length = (i_4.toNat) - 0 := len_slice rng rng
   refine Jl [1] (Ent.crNil (α := Int) _) ?_
   refine Oa (Ap0 [0, 0] sl22 sl22 sz22) fun c35 => ?_
   refine Jo 0 ?_; rintro a36 k37 rfl
   refine Oq Va (KS ?_)
   refine Oq Vm (Oq Vm (Oa (AsV sl22 sz22 [vi n] [vi n]) fun c38 => ?_))
   refine Jo 0 ?_; rintro a39 k40 rfl
   refine Jl [0] (Ent.crInt _ [n] _ _ rfl rfl (by intro x hx; rw [List.mem_singleton] at hx; subst hx; unfold i64ok; omega) aB1) ?_
   refine Oa (ApO [1, 0] sl22 sl22 sz22) fun c41 => ?_
   refine Jo 0 ?_; rintro a42 k43 rfl
   refine Fb 8 0 fun _ => Fo 0 fun ho45 => ?_
   have hn46 := la ((l.take (i_4.toNat)).drop 0) ([n] : List Int)
   refine Oq Va (KS ?_)
   refine Oq Vm (Oq Vm (Oq Vm (Oa (Asl [2] sl22 (i_4.toNat) l.length) fun c47 => ?_)))
   refine Jo 0 ?_; rintro a48 k49 rfl
   refine Fb 8 0 fun _ => Fo 0 fun ho51 => ?_
   have hn52 : ((l.take l.length).drop (i_4.toNat)).length = l.length - (i_4.toNat) := len_slice rng rng
   refine Oa (Ap [1, 0] sl22 sl22 sz22) fun c53 => ?_
   refine Jo 0 ?_; rintro a54 k55 rfl
   refine Fb 8 0 fun _ => Fo 0 fun ho57 => ?_
   have hn58 := la ((((l.take (i_4.toNat)).drop 0) ++ [n]) : List Int) ((l.take l.length).drop (i_4.toNat))
   refine Oq Va (KS ?_)
   refine Jl [0] (Ent.freeze _ _) ?_
   have hq := q4 hrr ((((l.take (i_4.toNat)).drop 0) ++ [n]) ++ ((l.take l.length).drop (i_4.toNat))) (by simp only [r7_Insert, h12, h16, h20, h23, hR19, cs4]); subst hq
   exact Kr (.slice a54 (((((l.take (i_4.toNat)).drop 0) ++ [n]) ++ ((l.take l.length).drop (i_4.toNat))).length) k55) rfl (.tmp rfl .nil) [0] en
  intro h20
  exact absurd h20 (by first | (simp [h12]; done) | (simp only [bne, h12]; decide) | (simp only [bne, h12, Bool.not_true, Bool.not_false]; decide) | (exfalso; omega) | (intro hq; simp only [bne, hq, Bool.not_false, Bool.not_true, reduceCtorEq] at h12))
 intro h12
 have g59 := df h12
 obtain rfl : r3 = 0 := by omega
 refine Osk (Osk (Osk (Osk (Osk (Osk (Oq Vpf (KS ?_)))))))
 refine Kf ?_
 refine Ke ?_
 have hR60 := q2 hM5 i_4 (by simp only [r7_Insert_L0, h12, cs4])
 refine KS ?_
 refine Oq Vm (Oq Vm (Oq (Vlen sl22) (Oq Vlss (Oq Vm ?_))))
 refine Js 25 ?_ ?_
 ·intro h61
  exact absurd h61 (by first | (simp [h12]; done) | (simp only [bne, h12]; decide) | (simp only [bne, h12, Bool.not_true, Bool.not_false]; decide) | (exfalso; omega) | (intro hq; simp only [bne, hq, Bool.not_false, Bool.not_true, reduceCtorEq] at h12))
 intro h61
 have g62 := df h61
 refine Osk (Osk (Osk (Osk (Osk (Osk (Oq Vpf (KS ?_)))))))
 refine Kf (KS ?_)
 refine Oa (As0 sl22) fun c63 => ?_
 refine Jo 0 ?_; rintro a64 k65 rfl
 refine Oq Vm (Oq Vm (Oa (Asl [1] sl22 0 (i_4.toNat)) fun c66 => ?_))
 refine Jo 0 ?_; rintro a67 k68 rfl
 refine Fb 8 0 fun _ => Fo 0 fun ho70 => ?_
 have hn71 : ((l.take (i_4.toNat)).drop 0).length = (i_4.toNat) - 0 := len_slice rng rng
 refine Jl [1] (Ent.crNil (α := Int) _) ?_
 refine Oa (Ap0 [0, 0] sl22 sl22 sz22) fun c72 => ?_
 refine Jo 0 ?_; rintro a73 k74 rfl
 refine Oq Va (KS ?_)
 refine Oq Vm (Oq Vm (Oa (AsV sl22 sz22 [vi n] [vi n]) fun c75 => ?_))
 refine Jo 0 ?_; rintro a76 k77 rfl
 refine Jl [0] (Ent.crInt _ [n] _ _ rfl rfl (by intro x hx; rw [List.mem_singleton] at hx; subst hx; unfold i64ok; omega) aB1) ?_
 refine Oa (ApO [1, 0] sl22 sl22 sz22) fun c78 => ?_
 refine Jo 0 ?_; rintro a79 k80 rfl
 refine Fb 8 0 fun _ => Fo 0 fun ho82 => ?_
 have hn83 := la ((l.take (i_4.toNat)).drop 0) ([n] : List Int)
 refine Oq Va (KS ?_)
 refine Oq Vm (Oq Vm (Oq Vm (Oa (Asl [2] sl22 (i_4.toNat) l.length) fun c84 => ?_)))
 refine Jo 0 ?_; rintro a85 k86 rfl
 refine Fb 8 0 fun _ => Fo 0 fun ho88 => ?_
 have hn89 : ((l.take l.length).drop (i_4.toNat)).length = l.length - (i_4.toNat) := len_slice rng rng
 refine Oa (Ap [1, 0] sl22 sl22 sz22) fun c90 => ?_
 refine Jo 0 ?_; rintro a91 k92 rfl
 refine Fb 8 0 fun _ => Fo 0 fun ho94 => ?_
 have hn95 := la ((((l.take (i_4.toNat)).drop 0) ++ [n]) : List Int) ((l.take l.length).drop (i_4.toNat))
 refine Oq Va (KS ?_)
 refine Jl [0] (Ent.freeze _ _) ?_
 have hq := q4 hrr ((((l.take (i_4.toNat)).drop 0) ++ [n]) ++ ((l.take l.length).drop (i_4.toNat))) (by simp only [r7_Insert, h12, h61, hR60, cs4]); subst hq
 exact Kr (.slice a91 (((((l.take (i_4.toNat)).drop 0) ++ [n]) ++ ((l.take l.length).drop (i_4.toNat))).length) k92) rfl (.tmp rfl .nil) [0] en
theorem fn41 (width : Int) (hwidth_0 : i64ok width) (hw0 : 0 ≤ width ∧ width ≤ 1000000) (rr : GSet) (hrr : r1_Empty width = rr) : FT Tryz.prog 41 #[vi width] [] (fun g : Value => i64ok rr.Width ∧ (rr.Width = width) ∧ (rr.Words.length = (((width : Int) + 63) / 64).toNat)) (fun g => .agg #[vi rr.Width, g]) (fun g => [os g rr.Words]) := by
 refine FTi Tryz.func41 fun w0 M0 F0 => ?_
 unfold i64ok at hwidth_0
 refine KS ?_
 refine Oa (Al ze39 [vi 0, .slice none 0 0]) fun p1 => KS ?_
 refine Oq Vm (Oq Vm (Oq Vadd (Oq Vquo (Oa (Amk (α := BitVec 64) sl37 sz37 0#64 (fun _ _ => rfl)) fun c2 => ?_))))
 refine Jo 0 ?_; rintro a3 k4 rfl
 refine Fb 8 0 fun _ => ?_
 have hn6 := List.length_replicate (n := (((width + 63) / 64) : Int).toNat) (a := (0#64 : BitVec 64))
 refine Oq (Vbd st39 [vi width, vl a3 k4 (List.replicate (((width + 63) / 64) : Int).toNat 0#64)]) (Ost (Scl [1] sh39 [vi width, vl a3 k4 (List.replicate (((width + 63) / 64) : Int).toNat 0#64)]) (KS ?_))
 have hq := q4 hrr (GSet.mk width (List.replicate (((width + 63) / 64) : Int).toNat 0#64)) (by simp only [r1_Empty, cs4]); subst hq
 exact Kr (vl a3 k4 (List.replicate (((width + 63) / 64) : Int).toNat 0#64)) rfl (.cellN 0 rfl sh39 rfl (reads_Cl _ _) rfl .nil) [1] en
theorem fn68 (s : GSet) (sa1 : Option Addr) (sk1 : Nat) (b : Int) (hs_0 : i64ok s.Width) (hb_0 : i64ok b) (hb0 : 0 ≤ b ∧ b < s.Width) (hw0 : s.Width ≤ 1000000) (rr : GSet) (hrr : r1_Put s b = rr) : FT Tryz.prog 68 #[.agg #[vi s.Width, vl sa1 sk1 s.Words], vi b] [S sa1 sk1 s.Words] (fun g : Value => i64ok rr.Width ∧ (rr.Width = s.Width) ∧ (rr.Words.length = ((s.Width + 63) / 64).toNat)) (fun g => .agg #[vi rr.Width, g]) (fun g => [os g rr.Words]) := by
 refine FTi Tryz.func68 fun w0 M0 F0 => ?_
 unfold i64ok at hs_0 hb_0
 refine Fb 8 0 fun _ => KS ?_
 refine Oa (Ab [vi s.Width, vl sa1 sk1 s.Words]) fun p2 => Oa (Al ze39 [vi 0, .slice none 0 0]) fun p3 => KS ?_
 refine Oq (Vfa fo39_0 1) (Oq (VldF sh3 1) ?_)
 refine letv (r1_Empty s.Width) fun rv5 hg6 => ?_
 have hc7 := fn41 s.Width pre pre rv5 hg6
 refine Oc [] ca41 hc7 ?_
 rintro c4 ⟨he8, he9, he10⟩
 unfold i64ok at he8
 refine Jo 0 ?_; rintro a11 k12 rfl
 refine Fb 8 0 fun _ => ?_
 refine Oa (Al ze39 [vi 0, .slice none 0 0]) fun p14 => Ost (Scl [0] sh39 [vi rv5.Width, vl a11 k12 rv5.Words]) (KS ?_)
 refine Oq (Vfa fo39_1 0) (Oq (VldF sh37 0) (Oq (Vfa fo39_1 3) (Oq (VldF sh37 3) (Oa (OpA.frame [1, 3] rfl (OpA.copyS (α := BitVec 64) rfl rfl rfl sl37 rfl)) fun u15 => ?_))))
 have hn16 : (s.Words.take rv5.Words.length ++ rv5.Words.drop s.Words.length).length = rv5.Words.length := len_copy _ _
 have hb17 : Nat.min s.Words.length rv5.Words.length ≤ s.Words.length := Nat.min_le_left _ _
 refine KS ?_
 refine Oq (Vfa fo39_1 1) (Oq (VldF sh37 1) (Oq Vm (Oq Vquo (Oq (Vi sl37 0) (Oq (VldU sh68 0) (Oq Vm (Oq Vrem (Oq (VcU un3 un69) (Oq (VshlU (a := 1#64)) ?_)))))))))
 refine Oq VorU (Oq (Vi sl37 0) (Ost (SoU [0] sh68) (KS ?_)))
 refine Oq (VldA sh39 1) (Ost (Scl [2] sh39 [vi rv5.Width, vl a11 k12 rv5.Words]) (KS ?_))
 have hq := q4 hrr (GSet.mk rv5.Width ((s.Words.take rv5.Words.length ++ rv5.Words.drop s.Words.length).set ((b / 64) : Int).toNat (((s.Words.take rv5.Words.length ++ rv5.Words.drop s.Words.length).getD ((b / 64) : Int).toNat 0#64) ||| (1#64 <<< (((BitVec.ofInt 64 (b % 64)).toNat : Int)).toNat)))) (by simp only [r1_Put, hg6, cs4]); subst hq
 exact Kr (vl a11 k12 rv5.Words) rfl (.cellN 0 rfl sh39 rfl (reads_Cl _ _) rfl .nil) [1] en
theorem fn42 (tP : Value) (ta : Option Addr) (tk : Nat) (tT : List Int) (tI : Int) (width : Int) (htI : 0 ≤ tI ∧ tI ≤ (tT.length : Int)) (hwidth_0 : i64ok width) (hw0 : 0 ≤ width ∧ width ≤ 1000) (rr : GSet × Int) (hrr : tp_Set tT tI width = rr) : FT Tryz.prog 42 #[tP, vi width] [Cl tP [vl ta tk tT, vi tI], S ta tk tT] (fun g : Value => i64ok rr.1.Width ∧ (0 ≤ rr.2 ∧ rr.2 ≤ (tT.length : Int)) ∧ (rr.1.Width = width) ∧ (rr.1.Words.length = (((width : Int) + 63) / 64).toNat)) (fun g => .agg #[vi rr.1.Width, g]) (fun g => [os g rr.1.Words, Cl tP [vl ta tk tT, vi rr.2]]) := by
 refine FTi Tryz.func42 fun w0 M0 F0 => ?_
 unfold i64ok at hwidth_0
 refine Fb 8 1 fun _ => Fo 1 fun ho2 => KS ?_
 refine Oa (Al ze39 [vi 0, .slice none 0 0]) fun p3 => KS ?_
 refine Oq Vm ?_
 refine letv (r1_Empty width) fun rv5 hg6 => ?_
 have hc7 := fn41 width pre pre rv5 hg6
 refine Oc [] ca41 hc7 ?_
 rintro c4 ⟨he8, he9, he10⟩
 unfold i64ok at he8
 refine Jo 0 ?_; rintro a11 k12 rfl
 refine Fb 8 0 fun _ => ?_
 refine Oa (Al ze39 [vi 0, .slice none 0 0]) fun p14 => Ost (Scl [0] sh39 [vi rv5.Width, vl a11 k12 rv5.Words]) (KS ?_)
 refine Oq Va (KS ?_)
 refine Kl (γ := Nat × Int × Int × List (BitVec 64) × Int × Option Addr × Nat) (fun (r15, ti_16, s0_17, s1_18, b_19, a20, k21) => ⟨[(0, tP), (1, vi width), (4, p3), (5, p14), (6, vi b_19)], [O a20 k21 s1_18, Cl p14 [vi s0_17, vl a20 k21 s1_18], Cl p3 [vi 0, .slice none 0 0], Cl tP [vl ta tk tT, vi ti_16], S ta tk tT], tp_Set_L0 tT r15 ti_16 s0_17 s1_18 b_19 = tp_Set_L0 tT (((width : Int) - 0).toNat) tI rv5.Width rv5.Words 0 ∧ r15 = ((width : Int) - b_19).toNat ∧ (0 : Int) ≤ b_19 ∧ (b_19 ≤ width ∨ b_19 = 0) ∧ (-9223372036854775808 ≤ ti_16 ∧ ti_16 ≤ 9223372036854775807) ∧ (0 ≤ ti_16 ∧ ti_16 ≤ (tT.length : Int)) ∧ (-9223372036854775808 ≤ s0_17 ∧ s0_17 ≤ 9223372036854775807) ∧ (-9223372036854775808 ≤ b_19 ∧ b_19 ≤ 9223372036854775807) ∧ s0_17 = width ∧ s1_18.length = (((width : Int) + 63) / 64).toNat, r15⟩) (((width : Int) - 0).toNat, tI, rv5.Width, rv5.Words, 0, a11, k12) [1, 0, 0, 0, 0] ⟨rfl, rfl, aM1, (.inr rfl), aM1, aM1, aM1, aM1, iv0, iv0⟩ ?_
 rintro ⟨r15, ti_16, s0_17, s1_18, b_19, a20, k21⟩ ⟨hM22, hr23, hi24, hi25, hk26, ht27, hk28, hk29, hv30, hv31⟩
 refine JJ_nx fun _ _ hL hA => ?_; dsimp only at hL hA; subst hL hA
 refine Fb 8 0 fun _ => Fb 8 4 fun _ => Fo 4 fun ho34 => KS ?_
 refine Oq Vm (Oq Vm (Oq Vlss (KS ?_)))
 refine Kc ?_ ?_
 ·intro h35
  have g36 := dt h35
  obtain ⟨r37, rfl⟩ := scc (n := r15) aM1
  refine KS ?_
  refine Oq Vm ?_
  refine letv (tp_Next tT ti_16 3) fun rv38 hg39 => ?_
  have hc40 := fn9 tP ta tk tT ti_16 3 pre pre rv38 hg39
  refine Oc [3, 3] ca9 hc40 ?_
  rintro - ⟨he41, he42, he43⟩
  unfold i64ok at he41
  refine Oq Veql (KS ?_)
  refine Kc ?_ ?_
  ·intro h44
   have g45 := eq_of_beq h44
   refine KS ?_
   refine Oq (VldA sh39 2) (Oq Vm ?_)
   refine letv (r1_Put (GSet.mk s0_17 s1_18) b_19) fun rv47 hg48 => ?_
   refine Oc [1] ca68 (FT_borrow (A := _) hlx (FT_ent (Ent.take (is := [0]) rfl) (fn68 ((GSet.mk s0_17 s1_18)) a20 k21 b_19 pre pre pre pre rv47 hg48))) ?_ (ht := rfl)
   rintro c46 ⟨he49, he50, he51⟩
   unfold i64ok at he49
   have he50 : (rv47.Width = s0_17) := he50
   have he51 : (rv47.Words.length = ((s0_17 + 63) / 64).toNat) := he51
   refine Jo 1 ?_; rintro a52 k53 rfl
   refine Fb 8 1 fun _ => ?_
   refine Ost (Scl [3] sh39 [vi rv47.Width, vl a52 k53 rv47.Words]) (KS ?_)
   refine Oq Vm (Oq Vadd (Oq Va (KS ?_)))
   exact Kg (r37, rv38.2, rv47.Width, rv47.Words, (b_19 + 1), a52, k53) [2, 0, 2, 1, 1] ⟨(q3 hM22 (by simp only [tp_Set_L0, h35, h44, hg39, hg48, cs4])), aM1, aM1, aM1, aM1, aM1, aM1, aM1, iv1, iv1⟩
  intro h44
  have g55 := ne_of_beq_false h44
  refine KS ?_
  refine Oq Vm (Oq Vadd (Oq Va (KS ?_)))
  exact Kg (r37, rv38.2, s0_17, s1_18, (b_19 + 1), a20, k21) [1, 1, 1, 0, 0] ⟨(q3 hM22 (by simp only [tp_Set_L0, h35, h44, hg39, cs4])), aM1, aM1, aM1, aM1, aM1, aM1, aM1, iv1, iv1⟩
 intro h35
 have g56 := df h35
 obtain rfl : r15 = 0 := by omega
 refine Ke ?_
 have hR57 := q2 hM22 (ti_16, s0_17, s1_18) (by simp only [tp_Set_L0, h35, cs4])
 refine KS ?_
 refine Oq (VldA sh39 1) (Ost (Scl [2] sh39 [vi s0_17, vl a20 k21 s1_18]) (KS ?_))
 have hq := q4 hrr ((GSet.mk s0_17 s1_18), ti_16) (by simp only [tp_Set, h35, hg6, hR57, cs4]); subst hq
 exact Kr (vl a20 k21 s1_18) rfl (.cellN 0 rfl sh39 rfl (reads_Cl _ _) rfl .nil) [1, 2] en
theorem fn43 (tP : Value) (ta : Option Addr) (tk : Nat) (tT : List Int) (tI : Int) (width : Int) (htI : 0 ≤ tI ∧ tI ≤ (tT.length : Int)) (hwidth_0 : i64ok width) (hw0 : 0 ≤ width ∧ width ≤ 1000) (rr : GTransfer × Int) (hrr : tp_Transfer tT tI width = rr) : FT Tryz.prog 43 #[tP, vi width] [Cl tP [vl ta tk tT, vi tI], S ta tk tT] (fun g : Value × Value × Value => i64ok rr.1.Gen.Width ∧ i64ok rr.1.Kill.Width ∧ (0 ≤ rr.2 ∧ rr.2 ≤ (tT.length : Int)) ∧ (rr.1.Gen.Width = width) ∧ (rr.1.Kill.Width = width) ∧ (rr.1.Copies.length ≤ 12)) (fun g => .agg #[vi rr.1.Gen.Width, g.1, vi rr.1.Kill.Width, g.2.1, g.2.2]) (fun g => [sl g.1 rr.1.Gen.Words, sl g.2.1 rr.1.Kill.Words, sl g.2.2 rr.1.Copies, Cl tP [vl ta tk tT, vi rr.2]]) := by
 refine FTi Tryz.func43 fun w0 M0 F0 => ?_
 unfold i64ok at hwidth_0
 refine Fb 8 1 fun _ => Fo 1 fun ho2 => KS ?_
 refine Oa (Al ze85 [vi 0, .slice none 0 0, vi 0, .slice none 0 0, .slice none 0 0]) fun p3 => KS ?_
 refine Oq Vm ?_
 refine letv (r1_Empty width) fun rv5 hg6 => ?_
 have hc7 := fn41 width pre pre rv5 hg6
 refine Oc [] ca41 hc7 ?_
 rintro c4 ⟨he8, he9, he10⟩
 unfold i64ok at he8
 refine Jo 0 ?_; rintro a11 k12 rfl
 refine Fb 8 0 fun _ => Oq Vm ?_
 have hc15 := fn41 width pre pre rv5 hg6
 refine Oc [] ca41 hc15 ?_
 rintro c14 ⟨he16, he17, he18⟩
 unfold i64ok at he16
 refine Jo 0 ?_; rintro a19 k20 rfl
 refine Oq (Vbd st85 [vi rv5.Width, vl a11 k12 rv5.Words, vi rv5.Width, vl a19 k20 rv5.Words, .slice none 0 0]) (Oa (Al ze85 [vi 0, .slice none 0 0, vi 0, .slice none 0 0, .slice none 0 0]) fun p21 => Ost (Scl [0] sh85 [vi rv5.Width, vl a11 k12 rv5.Words, vi rv5.Width, vl a19 k20 rv5.Words, .slice none 0 0]) (KS ?_))
 refine Oq Va (KS ?_)
 refine Kl (γ := Nat × Int × Int × List (BitVec 64) × Int × List (BitVec 64) × Int × Option Addr × Nat × Option Addr × Nat) (fun (r22, ti_23, f0_24, f1_25, f2_26, f3_27, b_28, a29, k30, a31, k32) => ⟨[(0, tP), (1, vi width), (4, p3), (5, p21), (6, vi b_28)], [O a31 k32 f3_27, O a29 k30 f1_25, Cl p21 [vi f0_24, vl a29 k30 f1_25, vi f2_26, vl a31 k32 f3_27, .slice none 0 0], Cl p3 [vi 0, .slice none 0 0, vi 0, .slice none 0 0, .slice none 0 0], Cl tP [vl ta tk tT, vi ti_23], S ta tk tT], tp_Transfer_L0 tT r22 ti_23 f0_24 f1_25 f2_26 f3_27 b_28 = tp_Transfer_L0 tT (((width : Int) - 0).toNat) tI rv5.Width rv5.Words rv5.Width rv5.Words 0 ∧ r22 = ((width : Int) - b_28).toNat ∧ (0 : Int) ≤ b_28 ∧ (b_28 ≤ width ∨ b_28 = 0) ∧ (-9223372036854775808 ≤ ti_23 ∧ ti_23 ≤ 9223372036854775807) ∧ (0 ≤ ti_23 ∧ ti_23 ≤ (tT.length : Int)) ∧ (-9223372036854775808 ≤ f0_24 ∧ f0_24 ≤ 9223372036854775807) ∧ (-9223372036854775808 ≤ f2_26 ∧ f2_26 ≤ 9223372036854775807) ∧ (-9223372036854775808 ≤ b_28 ∧ b_28 ≤ 9223372036854775807) ∧ f0_24 = width ∧ f1_25.length = (((width : Int) + 63) / 64).toNat ∧ f2_26 = width ∧ f3_27.length = (((width : Int) + 63) / 64).toNat, r22⟩) (((width : Int) - 0).toNat, tI, rv5.Width, rv5.Words, rv5.Width, rv5.Words, 0, a11, k12, a19, k20) [1, 1, 0, 0, 0, 0] ⟨rfl, rfl, aM1, (.inr rfl), aM1, aM1, aM1, aM1, aM1, iv0, iv0, iv0, iv0⟩ ?_
 rintro ⟨r22, ti_23, f0_24, f1_25, f2_26, f3_27, b_28, a29, k30, a31, k32⟩ ⟨hM33, hr34, hi35, hi36, hk37, ht38, hk39, hk40, hk41, hv42, hv43, hv44, hv45⟩
 refine JJ_nx fun _ _ hL hA => ?_; dsimp only at hL hA; subst hL hA
 refine Fb 8 0 fun _ => Fb 8 1 fun _ => Fb 8 5 fun _ => Fo 5 fun ho49 => KS ?_
 refine Oq Vm (Oq Vm (Oq Vlss (KS ?_)))
 refine Kc ?_ ?_
 ·intro h50
  have g51 := dt h50
  obtain ⟨r52, rfl⟩ := scc (n := r22) aM1
  refine KS ?_
  refine Oq Vm ?_
  refine letv (tp_Next tT ti_23 6) fun rv53 hg54 => ?_
  have hc55 := fn9 tP ta tk tT ti_23 6 pre pre rv53 hg54
  refine Oc [4, 4] ca9 hc55 ?_
  rintro - ⟨he56, he57, he58⟩
  unfold i64ok at he56
  refine KS ?_
  refine Oq Veql (Oq Va (KS ?_))
  refine Kc ?_ ?_
  ·intro h59
   have g60 := eq_of_beq h59
   refine KS ?_
   refine Oq (Vfa fo85_0 3) (Oq (VldG sh39 3 [vi f0_24, vl a29 k30 f1_25]) (Oq Vm ?_))
   refine letv (r1_Put (GSet.mk f0_24 f1_25) b_28) fun rv62 hg63 => ?_
   refine Oc [2] ca68 (FT_borrow (A := _) hlx (FT_ent (Ent.take (is := [0]) rfl) (fn68 ((GSet.mk f0_24 f1_25)) a29 k30 b_28 pre pre pre pre rv62 hg63))) ?_ (ht := rfl)
   rintro c61 ⟨he64, he65, he66⟩
   unfold i64ok at he64
   have he65 : (rv62.Width = f0_24) := he65
   have he66 : (rv62.Words.length = ((f0_24 + 63) / 64).toNat) := he66
   refine Jo 1 ?_; rintro a67 k68 rfl
   refine Fb 8 1 fun _ => ?_
   refine Oq (Vfa fo85_0 4) (Ost (SclF [4] sh39 [vi rv62.Width, vl a67 k68 rv62.Words, vi f2_26, vl a31 k32 f3_27, .slice none 0 0]) (KS ?_))
   refine Oq Vm (Oq Vadd (Oq Va (KS ?_)))
   exact Kg (r52, rv53.2, rv62.Width, rv62.Words, f2_26, f3_27, (b_28 + 1), a67, k68, a31, k32) [4, 2, 0, 2, 1, 1] ⟨(q3 hM33 (by simp only [tp_Transfer_L0, h50, h59, hg54, hg63, cs4])), aM1, aM1, aM1, aM1, aM1, aM1, aM1, aM1, iv1, iv1, iv1, iv1⟩
  intro h59
  have g70 := ne_of_beq_false h59
  refine KS ?_
  refine Oq Veql (Oq Va (KS ?_))
  refine Kc ?_ ?_
  ·intro h71
   have g72 := eq_of_beq h71
   refine KS ?_
   refine Kc ?_ ?_
   ·intro h73
    have g74 := eq_of_beq h73
    refine KS ?_
    refine Oq (Vfa fo85_1 3) (Oq (VldG sh39 3 [vi f2_26, vl a31 k32 f3_27]) (Oq Vm ?_))
    refine letv (r1_Put (GSet.mk f2_26 f3_27) b_28) fun rv76 hg77 => ?_
    refine Oc [1] ca68 (FT_borrow (A := _) hlx (FT_ent (Ent.take (is := [0]) rfl) (fn68 ((GSet.mk f2_26 f3_27)) a31 k32 b_28 pre pre pre pre rv76 hg77))) ?_ (ht := rfl)
    rintro c75 ⟨he78, he79, he80⟩
    unfold i64ok at he78
    have he79 : (rv76.Width = f2_26) := he79
    have he80 : (rv76.Words.length = ((f2_26 + 63) / 64).toNat) := he80
    refine Jo 1 ?_; rintro a81 k82 rfl
    refine Fb 8 1 fun _ => ?_
    refine Oq (Vfa fo85_1 4) (Ost (SclF [4] sh39 [vi f0_24, vl a29 k30 f1_25, vi rv76.Width, vl a81 k82 rv76.Words, .slice none 0 0]) (KS ?_))
    refine Oq Vm (Oq Vadd (Oq Va (KS ?_)))
    exact Kg (r52, rv53.2, f0_24, f1_25, rv76.Width, rv76.Words, (b_28 + 1), a29, k30, a81, k82) [2, 3, 0, 2, 1, 1] ⟨(q3 hM33 (by simp only [tp_Transfer_L0, h50, h59, h71, h73, hg54, hg77, cs4])), aM1, aM1, aM1, aM1, aM1, aM1, aM1, aM1, iv1, iv1, iv1, iv1⟩
   intro h73
   exact absurd h73 (by first | (simp [h71]; done) | (simp only [bne, h71]; decide) | (simp only [bne, h71, Bool.not_true, Bool.not_false]; decide) | (exfalso; omega) | (intro hq; simp only [bne, hq, Bool.not_false, Bool.not_true, reduceCtorEq] at h71))
  intro h71
  have g84 := ne_of_beq_false h71
  refine KS ?_
  refine Oq Veql (Oq Va (KS ?_))
  refine Kc ?_ ?_
  ·intro h85
   have g86 := eq_of_beq h85
   refine KS ?_
   refine Oq (Vfa fo85_1 3) (Oq (VldG sh39 3 [vi f2_26, vl a31 k32 f3_27]) (Oq Vm ?_))
   refine letv (r1_Put (GSet.mk f2_26 f3_27) b_28) fun rv88 hg89 => ?_
   refine Oc [1] ca68 (FT_borrow (A := _) hlx (FT_ent (Ent.take (is := [0]) rfl) (fn68 ((GSet.mk f2_26 f3_27)) a31 k32 b_28 pre pre pre pre rv88 hg89))) ?_ (ht := rfl)
   rintro c87 ⟨he90, he91, he92⟩
   unfold i64ok at he90
   have he91 : (rv88.Width = f2_26) := he91
   have he92 : (rv88.Words.length = ((f2_26 + 63) / 64).toNat) := he92
   refine Jo 1 ?_; rintro a93 k94 rfl
   refine Fb 8 1 fun _ => ?_
   refine Oq (Vfa fo85_1 4) (Ost (SclF [4] sh39 [vi f0_24, vl a29 k30 f1_25, vi rv88.Width, vl a93 k94 rv88.Words, .slice none 0 0]) (KS ?_))
   refine Oq Vm (Oq Vadd (Oq Va (KS ?_)))
   exact Kg (r52, rv53.2, f0_24, f1_25, rv88.Width, rv88.Words, (b_28 + 1), a29, k30, a93, k94) [2, 3, 0, 2, 1, 1] ⟨(q3 hM33 (by simp only [tp_Transfer_L0, h50, h59, h71, h85, hg54, hg89, cs4])), aM1, aM1, aM1, aM1, aM1, aM1, aM1, aM1, iv1, iv1, iv1, iv1⟩
  intro h85
  have g96 := ne_of_beq_false h85
  refine KS ?_
  refine Oq Vm (Oq Vadd (Oq Va (KS ?_)))
  exact Kg (r52, rv53.2, f0_24, f1_25, f2_26, f3_27, (b_28 + 1), a29, k30, a31, k32) [1, 1, 1, 1, 0, 0] ⟨(q3 hM33 (by simp only [tp_Transfer_L0, h50, h59, h71, h85, hg54, cs4])), aM1, aM1, aM1, aM1, aM1, aM1, aM1, aM1, iv1, iv1, iv1, iv1⟩
 intro h50
 have g97 := df h50
 obtain rfl : r22 = 0 := by omega
 refine Ke ?_
 have hR98 := q2 hM33 (ti_23, f0_24, f1_25, f2_26, f3_27) (by simp only [tp_Transfer_L0, h50, cs4])
 refine KS ?_
 refine Oq Va (KS ?_)
 refine Jl [] (Ent.osNil (α := GCopy)) ?_
 refine Kl (γ := Nat × Int × List GCopy × Int × Option Addr × Nat) (fun (r99, ti_100, f4_101, a_102, a103, k104) => ⟨[(0, tP), (1, vi width), (4, p3), (5, p21), (7, vi a_102)], [O a103 k104 f4_101, O a31 k32 f3_27, O a29 k30 f1_25, Cl p21 [vi f0_24, vl a29 k30 f1_25, vi f2_26, vl a31 k32 f3_27, vl a103 k104 f4_101], Cl p3 [vi 0, .slice none 0 0, vi 0, .slice none 0 0, .slice none 0 0], Cl tP [vl ta tk tT, vi ti_100], S ta tk tT], tp_Transfer_L1 tT width r99 ti_100 f4_101 a_102 = tp_Transfer_L1 tT width (((width : Int) - 0).toNat) ti_23 [] 0 ∧ r99 = ((width : Int) - a_102).toNat ∧ (0 : Int) ≤ a_102 ∧ (a_102 ≤ width ∨ a_102 = 0) ∧ (-9223372036854775808 ≤ ti_100 ∧ ti_100 ≤ 9223372036854775807) ∧ (0 ≤ ti_100 ∧ ti_100 ≤ (tT.length : Int)) ∧ (-9223372036854775808 ≤ a_102 ∧ a_102 ≤ 9223372036854775807) ∧ f4_101.length ≤ 12, r99⟩) (((width : Int) - 0).toNat, ti_23, [], 0, none, 0) [0, 0, 0, 0, 0, 0, 0] ⟨rfl, rfl, aM1, (.inr rfl), aM1, aM1, aM1, iv0⟩ ?_
 rintro ⟨r99, ti_100, f4_101, a_102, a103, k104⟩ ⟨hM105, hr106, hi107, hi108, hk109, ht110, hk111, hv112⟩
 refine JJ_nx fun _ _ hL hA => ?_; dsimp only at hL hA; subst hL hA
 refine Fb 16 0 fun _ => Fb 8 1 fun _ => Fb 8 2 fun _ => Fb 8 6 fun _ => Fo 6 fun ho117 => KS ?_
 refine Oq Vm (Oq Vm (Oq Vlss (KS ?_)))
 refine Kc ?_ ?_
 ·intro h118
  have g119 := dt h118
  obtain ⟨r120, rfl⟩ := scc (n := r99) aM1
  refine KS ?_
  refine Oq Va (KS ?_)
  refine Kl (γ := Nat × Int × List GCopy × Int × Option Addr × Nat) (fun (r121, ti_122, f4_123, b_124, a125, k126) => ⟨[(0, tP), (1, vi width), (4, p3), (5, p21), (7, vi a_102), (8, vi b_124)], [O a125 k126 f4_123, O a31 k32 f3_27, O a29 k30 f1_25, Cl p21 [vi f0_24, vl a29 k30 f1_25, vi f2_26, vl a31 k32 f3_27, vl a125 k126 f4_123], Cl p3 [vi 0, .slice none 0 0, vi 0, .slice none 0 0, .slice none 0 0], Cl tP [vl ta tk tT, vi ti_122], S ta tk tT], tp_Transfer_L2 tT width a_102 r121 ti_122 f4_123 b_124 = tp_Transfer_L2 tT width a_102 (((width : Int) - 0).toNat) ti_100 f4_101 0 ∧ r121 = ((width : Int) - b_124).toNat ∧ (0 : Int) ≤ b_124 ∧ (b_124 ≤ width ∨ b_124 = 0) ∧ (-9223372036854775808 ≤ ti_122 ∧ ti_122 ≤ 9223372036854775807) ∧ (0 ≤ ti_122 ∧ ti_122 ≤ (tT.length : Int)) ∧ (-9223372036854775808 ≤ b_124 ∧ b_124 ≤ 9223372036854775807) ∧ f4_123.length ≤ 12, r121⟩) (((width : Int) - 0).toNat, ti_100, f4_101, 0, a103, k104) [0, 0, 0, 0, 0, 0, 0] ⟨rfl, rfl, aM1, (.inr rfl), aM1, aM1, aM1, iv0⟩ ?_
  rintro ⟨r121, ti_122, f4_123, b_124, a125, k126⟩ ⟨hM127, hr128, hi129, hi130, hk131, ht132, hk133, hv134⟩
  refine JJ_nx fun _ _ hL hA => ?_; dsimp only at hL hA; subst hL hA
  refine Fb 16 0 fun _ => Fb 8 1 fun _ => Fb 8 2 fun _ => Fb 8 6 fun _ => Fo 6 fun ho139 => KS ?_
  refine Oq Vm (Oq Vm (Oq Vlss (Oq Vm ?_)))
  refine Js 44 ?_ ?_
  ·intro h140
   have g141 := dt h140
   obtain ⟨r142, rfl⟩ := scc (n := r121) aM1
   refine Oq (Vfa fo85_2 3) (Oq (VldF sh83 3) (Oq (Vlen sl83) (Oq Vlss (Oq Vpt (KS ?_)))))
   refine Kc ?_ ?_
   ·intro h143
    have g144 := dt h143
    refine KS ?_
    refine Oq Vm (Oq Vm (Oq Vmul ?_))
    refine letv (tp_Next tT ti_122 (2 * width)) fun rv145 hg146 => ?_
    have hc147 := fn9 tP ta tk tT ti_122 ((2 * width)) pre pre rv145 hg146
    refine Oc [5, 5] ca9 hc147 ?_
    rintro - ⟨he148, he149, he150⟩
    unfold i64ok at he148
    refine Oq Veql (KS ?_)
    refine Kc ?_ ?_
    ·intro h151
     have g152 := eq_of_beq h151
     refine KS ?_
     refine Oq (Vfa fo85_2 4) (Oq (VldF sh83 4) (Oq Vm (Oq Vm (Oq (Vbd st108 [vi a_102, vi b_124]) (Oa (AsV sl83 sz83 [.agg #[vi a_102, vi b_124]] [vi a_102, vi b_124]) fun c153 => ?_)))))
     refine Jo 0 ?_; rintro a154 k155 rfl
     refine Jl [0] (Ent.cr1 (α := GCopy) (A := []) _ (GCopy.mk a_102 b_124) _ aB1 (fun h => ⟨rfl, aL1, aL1⟩)) ?_
     refine Oa (ApO [2, 0] sl83 sl83 sz83) fun c156 => ?_
     refine Jo 0 ?_; rintro a157 k158 rfl
     refine Fb 16 0 fun _ => ?_
     have hn160 := la f4_123 ([(GCopy.mk a_102 b_124)] : List GCopy)
     refine Oq (Vfa fo85_2 4) (Ost (SclF [4] sh83 [vi f0_24, vl a29 k30 f1_25, vi f2_26, vl a31 k32 f3_27, vl a157 k158 (f4_123 ++ [(GCopy.mk a_102 b_124)])]) (KS ?_))
     refine Oq Vm (Oq Vadd (Oq Va (KS ?_)))
     exact Kg (r142, rv145.2, (f4_123 ++ [(GCopy.mk a_102 b_124)]), (b_124 + 1), a157, k158) [1, 2, 2, 0, 1, 0, 0] ⟨(q3 hM127 (by simp only [tp_Transfer_L2, h140, h143, h151, hg146, cs4])), aM1, aM1, aM1, aM1, aM1, aM1, iv1⟩
    intro h151
    have g161 := ne_of_beq_false h151
    refine KS ?_
    refine Oq Vm (Oq Vadd (Oq Va (KS ?_)))
    exact Kg (r142, rv145.2, f4_123, (b_124 + 1), a125, k126) [1, 1, 1, 1, 1, 0, 0] ⟨(q3 hM127 (by simp only [tp_Transfer_L2, h140, h143, h151, hg146, cs4])), aM1, aM1, aM1, aM1, aM1, aM1, iv1⟩
   intro h143
   have g162 := df h143
   refine Ke ?_
   have hR163 := q2 hM127 (ti_122, f4_123) (by simp only [tp_Transfer_L2, h140, h143, cs4])
   refine KS ?_
   refine Oq Vm (Oq Vadd (Oq Va (KS ?_)))
   exact Kg (r120, ti_122, f4_123, (a_102 + 1), a125, k126) [0, 0, 0, 0, 0, 0, 0] ⟨(q3 hM105 (by simp only [tp_Transfer_L1, h118, h140, h143, hR163, cs4])), aM1, aM1, aM1, aM1, aM1, aM1, iv1⟩
  intro h140
  have g164 := df h140
  obtain rfl : r121 = 0 := by omega
  refine Osk (Osk (Osk (Osk (Oq Vpf (KS ?_)))))
  refine Kf ?_
  refine Ke ?_
  have hR165 := q2 hM127 (ti_122, f4_123) (by simp only [tp_Transfer_L2, h140, cs4])
  refine KS ?_
  refine Oq Vm (Oq Vadd (Oq Va (KS ?_)))
  exact Kg (r120, ti_122, f4_123, (a_102 + 1), a125, k126) [0, 0, 0, 0, 0, 0, 0] ⟨(q3 hM105 (by simp only [tp_Transfer_L1, h118, h140, hR165, cs4])), aM1, aM1, aM1, aM1, aM1, aM1, iv1⟩
 intro h118
 have g166 := df h118
 obtain rfl : r99 = 0 := by omega
 refine Ke ?_
 have hR167 := q2 hM105 (ti_100, f4_101) (by simp only [tp_Transfer_L1, h118, cs4])
 refine KS ?_
 refine Oq (VldA sh85 3) (Ost (Scl [4] sh85 [vi f0_24, vl a29 k30 f1_25, vi f2_26, vl a31 k32 f3_27, vl a103 k104 f4_101]) (KS ?_))
 refine Jl [3] (Ent.freeze _ _) ?_
 refine Jl [3] (Ent.freeze _ _) ?_
 refine Jl [3] (Ent.freeze _ _) ?_
 have hq := q4 hrr ((GTransfer.mk (GSet.mk f0_24 f1_25) (GSet.mk f2_26 f3_27) f4_101), ti_100) (by simp only [tp_Transfer, h50, h118, hg6, hR98, hR167, cs4]); subst hq
 exact Kr (vl a29 k30 f1_25, vl a31 k32 f3_27, vl a103 k104 f4_101) rfl (.cellN 3 rfl sh85 rfl (reads_Cl _ _) rfl .nil) [2, 1, 0, 5] en
theorem fn19 (tP : Value) (ta : Option Addr) (tk : Nat) (tT : List Int) (tI : Int) (n : Int) (htI : 0 ≤ tI ∧ tI ≤ (tT.length : Int)) (hn_0 : i64ok n) (hn0 : 0 ≤ n ∧ n ≤ 1000) (rr : GSystem × Int) (hrr : tp_System tT tI n = rr) : FT Tryz.prog 19 #[tP, vi n] [Cl tP [vl ta tk tT, vi tI], S ta tk tT] (fun g : Value × Value × Value => i64ok rr.1.Width ∧ (0 ≤ rr.2 ∧ rr.2 ≤ (tT.length : Int)) ∧ (rr.1.Deps.length ≤ 1001)) (fun g => .agg #[vi rr.1.Width, g.1, g.2.1, g.2.2]) (fun g => [sl g.1 rr.1.Deps, sl g.2.1 rr.1.Transfers, sl g.2.2 rr.1.Boundary, Cl tP [vl ta tk tT, vi rr.2]]) := by
 refine FTi Tryz.func19 fun w0 M0 F0 => ?_
 unfold i64ok at hn_0
 refine Fb 8 1 fun _ => Fo 1 fun ho2 => KS ?_
 refine Oa (Al ze32 [vi 0, .slice none 0 0, .slice none 0 0, .slice none 0 0]) fun p3 => KS ?_
 refine Oq Vm ?_
 refine letv (tp_Width tT tI) fun rv4 hg5 => ?_
 have hc6 := fn39 tP ta tk tT tI pre rv4 hg5
 refine Oc [1, 1] ca39 hc6 ?_
 rintro - ⟨he7, he8, he9⟩
 unfold i64ok at he7
 refine Oq Vrem (Oq (Vbd st32 [vi (rv4.1 % 5), .slice none 0 0, .slice none 0 0, .slice none 0 0]) (Oa (Al ze32 [vi 0, .slice none 0 0, .slice none 0 0, .slice none 0 0]) fun p10 => Ost (Scl [0] sh32 [vi (rv4.1 % 5), .slice none 0 0, .slice none 0 0, .slice none 0 0]) (KS ?_)))
 refine Oq Vm (Oq Vm ?_)
 refine letv (tp_Next tT rv4.2 n) fun rv11 hg12 => ?_
 have hc13 := fn9 tP ta tk tT rv4.2 n pre pre rv11 hg12
 refine Oc [1, 2] ca9 hc13 ?_
 rintro - ⟨he14, he15, he16⟩
 unfold i64ok at he14
 refine Oq Vadd (Oq Va (KS ?_))
 refine Oq Va (KS ?_)
 refine Jl [] (Ent.osNil (α := (List Int))) ?_
 refine Jl [] (Ent.osNil (α := GTransfer)) ?_
 refine Jl [] (Ent.osNil (α := GSet)) ?_
 refine Kl (γ := Nat × Int × List (List Int) × List GTransfer × List GSet × Int × Option Addr × Nat × Option Addr × Nat × Option Addr × Nat) (fun (r17, ti_18, s1_19, s2_20, s3_21, i_22, a23, k24, a25, k26, a27, k28) => ⟨[(0, tP), (4, p3), (5, p10), (1, vi (1 + rv11.1)), (6, vi i_22)], [O a27 k28 s3_21, O a25 k26 s2_20, O a23 k24 s1_19, Cl tP [vl ta tk tT, vi ti_18], Cl p10 [vi (rv4.1 % 5), vl a23 k24 s1_19, vl a25 k26 s2_20, vl a27 k28 s3_21], Cl p3 [vi 0, .slice none 0 0, .slice none 0 0, .slice none 0 0], S ta tk tT], tp_System_L0 tT (1 + rv11.1) (rv4.1 % 5) r17 ti_18 s1_19 s2_20 s3_21 i_22 = tp_System_L0 tT (1 + rv11.1) (rv4.1 % 5) ((((1 + rv11.1) : Int) - 0).toNat) rv11.2 [] [] [] 0 ∧ r17 = (((1 + rv11.1) : Int) - i_22).toNat ∧ (0 : Int) ≤ i_22 ∧ i_22 ≤ (1 + rv11.1) ∧ (-9223372036854775808 ≤ ti_18 ∧ ti_18 ≤ 9223372036854775807) ∧ (0 ≤ ti_18 ∧ ti_18 ≤ (tT.length : Int)) ∧ (-9223372036854775808 ≤ i_22 ∧ i_22 ≤ 9223372036854775807) ∧ (s1_19.length : Int) = i_22 ∧ (s2_20.length : Int) = i_22 ∧ (s3_21.length : Int) = i_22, r17⟩) ((((1 + rv11.1) : Int) - 0).toNat, rv11.2, [], [], [], 0, none, 0, none, 0, none, 0) [0, 0, 0, 0, 0, 0, 0] ⟨rfl, rfl, aM1, aM1, aM1, aM1, aM1, iv0, iv0, iv0⟩ ?_
 rintro ⟨r17, ti_18, s1_19, s2_20, s3_21, i_22, a23, k24, a25, k26, a27, k28⟩ ⟨hM29, hr30, hi31, hi32, hk33, ht34, hk35, hv36, hv37, hv38⟩
 refine JJ_nx fun _ _ hL hA => ?_; dsimp only at hL hA; subst hL hA
 refine Fb 32 0 fun _ => Fb 88 1 fun _ => Fb 24 2 fun _ => Fb 8 6 fun _ => Fo 6 fun ho43 => KS ?_
 refine Oq Vm (Oq Vm (Oq Vlss (KS ?_)))
 refine Kc ?_ ?_
 ·intro h44
  have g45 := dt h44
  obtain ⟨r46, rfl⟩ := scc (n := r17) aM1
  refine KS ?_
  refine Oq Va (KS ?_)
  refine Oq Vm ?_
  refine letv (tp_Next tT ti_18 4) fun rv47 hg48 => ?_
  have hc49 := fn9 tP ta tk tT ti_18 4 pre pre rv47 hg48
  refine Oc [3, 5] ca9 hc49 ?_
  rintro - ⟨he50, he51, he52⟩
  unfold i64ok at he50
  refine Oq Va (KS ?_)
  refine Jl [] (Ent.slNil (α := Int)) ?_
  refine Kl (γ := Nat × Int × List Int × Int × Option Addr × Nat) (fun (r53, ti_54, d_55, k_56, a57, k58) => ⟨[(0, tP), (4, p3), (5, p10), (1, vi (1 + rv11.1)), (6, vi i_22), (7, vl a57 k58 d_55), (8, vi k_56)], [S a57 k58 d_55, Cl tP [vl ta tk tT, vi ti_54], O a27 k28 s3_21, O a25 k26 s2_20, O a23 k24 s1_19, Cl p10 [vi (rv4.1 % 5), vl a23 k24 s1_19, vl a25 k26 s2_20, vl a27 k28 s3_21], Cl p3 [vi 0, .slice none 0 0, .slice none 0 0, .slice none 0 0], S ta tk tT], tp_System_L1 tT (1 + rv11.1) r53 ti_54 d_55 k_56 = tp_System_L1 tT (1 + rv11.1) (rv47.1.toNat) rv47.2 [] rv47.1 ∧ r53 = k_56.toNat ∧ k_56 ≤ (rv47.1 : Int) ∧ (-9223372036854775808 ≤ ti_54 ∧ ti_54 ≤ 9223372036854775807) ∧ (0 ≤ ti_54 ∧ ti_54 ≤ (tT.length : Int)) ∧ (-9223372036854775808 ≤ k_56 ∧ k_56 ≤ 9223372036854775807) ∧ (d_55.length : Int) + k_56 ≤ 4, r53⟩) (rv47.1.toNat, rv47.2, [], rv47.1, none, 0) [0, 1, 1, 1, 1, 1, 1, 1] ⟨rfl, rfl, aM1, aM1, aM1, aM1, iv0⟩ ?_
  rintro ⟨r53, ti_54, d_55, k_56, a57, k58⟩ ⟨hM59, hr60, hi61, hk62, ht63, hk64, hv65⟩
  refine JJ_nx fun _ _ hL hA => ?_; dsimp only at hL hA; subst hL hA
  refine Fb 8 0 fun _ => Fo 0 fun ho67 => Fb 32 2 fun _ => Fb 88 3 fun _ => Fb 24 4 fun _ => Fb 8 7 fun _ => Fo 7 fun ho72 => KS ?_
  refine Oq Vm (Oq Vgtr (KS ?_))
  refine Kc ?_ ?_
  ·intro h73
   have g74 := dt h73
   obtain ⟨r75, rfl⟩ := scc (n := r53) aM1
   refine KS ?_
   refine Oq Vm (Oq Vm (Oq Vm ?_))
   refine letv (tp_Next tT ti_54 (1 + rv11.1)) fun rv76 hg77 => ?_
   have hc78 := fn9 tP ta tk tT ti_54 ((1 + rv11.1)) pre pre rv76 hg77
   refine Oc [1, 6] ca9 hc78 ?_
   rintro - ⟨he79, he80, he81⟩
   unfold i64ok at he79
   refine letv (r7_Insert d_55 rv76.1) fun rv83 hg84 => ?_
   have hc85 := fn40 d_55 a57 k58 rv76.1 pre pre rv83 hg84
   refine Oc [1] ca40 hc85 ?_
   rintro c82 he86
   refine Jo 0 ?_; rintro a87 k88 rfl
   refine Fb 8 0 fun _ => Fo 0 fun ho90 => ?_
   refine Oq Va (KS ?_)
   refine Oq Vm (Oq Vsub (Oq Va (KS ?_)))
   exact Kg (r75, rv76.2, rv83, (k_56 - 1), a87, k88) [0, 1, 2, 2, 2, 2, 2, 2] ⟨(q3 hM59 (by simp only [tp_System_L1, h73, hg77, hg84, cs4])), aM1, aM1, aM1, aM1, aM1, iv1⟩
  intro h73
  have g91 := df h73
  obtain rfl : r53 = 0 := by omega
  refine Ke ?_
  have hR92 := q2 hM59 (ti_54, d_55) (by simp only [tp_System_L1, h73, cs4])
  refine KS ?_
  refine Oq (Vfa fo32_0 5) (Oq (VldF sh3 5) ?_)
  refine letv (r1_Empty (rv4.1 % 5)) fun rv94 hg95 => ?_
  have hc96 := fn41 ((rv4.1 % 5)) pre pre rv94 hg95
  refine Oc [] ca41 hc96 ?_
  rintro c93 ⟨he97, he98, he99⟩
  unfold i64ok at he97
  refine Jo 0 ?_; rintro a100 k101 rfl
  refine Fb 8 0 fun _ => ?_
  refine Oa (Al ze39 [vi 0, .slice none 0 0]) fun p103 => Ost (Scl [0] sh39 [vi rv94.Width, vl a100 k101 rv94.Words]) (KS ?_)
  refine Oq Vm ?_
  refine letv (tp_Next tT ti_54 3) fun rv104 hg105 => ?_
  have hc106 := fn9 tP ta tk tT ti_54 3 pre pre rv104 hg105
  refine Oc [3, 8] ca9 hc106 ?_
  rintro - ⟨he107, he108, he109⟩
  unfold i64ok at he107
  refine Oq Veql (KS ?_)
  refine Kc ?_ ?_
  ·intro h110
   have g111 := eq_of_beq h110
   refine KS ?_
   refine Oq Vm (Oq (Vfa fo32_0 7) (Oq (VldF sh3 7) ?_))
   refine letv (tp_Set tT rv104.2 (rv4.1 % 5)) fun rv113 hg114 => ?_
   have hc115 := fn42 tP ta tk tT rv104.2 ((rv4.1 % 5)) pre pre pre rv113 hg114
   refine Oc [0, 8] ca42 hc115 ?_
   rintro c112 ⟨he116, he117, he118, he119⟩
   unfold i64ok at he116
   refine Jo 0 ?_; rintro a120 k121 rfl
   refine Fb 8 0 fun _ => ?_
   refine Ost (Scl [2] sh39 [vi rv113.1.Width, vl a120 k121 rv113.1.Words]) (KS ?_)
   refine Jp 8 fun hp123 => ?_
   refine JK_drawK [0, 1, 0, 4, 15, 0, 32, 0, 128, 511, 0, 1024, 0, 0, 8192, 29695, 62463, 131071, 27775, 524287, 1048575, 2097151, 4194303, 8388607] fmix ?_
   refine Dv [0] (Vfa fo32_1 0) (Dv [9] (VldF sh29 0) (Dv [] Vm (Dx [] [] [0] (fun G => (G.g 3 0)) [fun G => Cr (G.g 3 0) 1 [vl a57 k58 d_55]] (fun G => xA (AsV sl29 sz29 [vl a57 k58 d_55] [vl a57 k58 d_55])) ?_)))
   have hn126 := la s1_19 ([d_55] : List (List Int))
   refine Dx [5, 8, 12] [8, 12] [1, 0] (fun G => (G.g 4 0)) [fun G => os (G.g 4 0) ((s1_19 ++ [d_55]) : List (List Int))] (fun G => xp [2, 0] rfl (Ent.cr1 (α := List Int) (A := [S a57 k58 d_55]) _ d_55 _ aB1 (fun h => ⟨_, rfl, sepAll_get (i := 0) rfl h⟩)) (xA (ApO [3, 0] sl29 sl29 sz29))) (Dv [0] (Vfa fo32_3 0) (Dv [9] (VldF sh24 0) (Dv [1] (VldA sh39 0) (Dx [] [] [0] (fun G => (G.g 8 0)) [fun G => Cr (G.g 8 0) 1 [vi rv113.1.Width, vl a120 k121 rv113.1.Words]] (fun G => xA (AsV sl24 sz24 [.agg #[vi rv113.1.Width, vl a120 k121 rv113.1.Words]] [vi rv113.1.Width, vl a120 k121 rv113.1.Words])) ?_))))
   have hn129 := la s3_21 ([rv113.1] : List GSet)
   refine Dx [2, 6, 14] [2, 6, 14] [1, 0] (fun G => (G.g 9 0)) [fun G => S a120 k121 rv113.1.Words, fun G => os (G.g 9 0) ((s3_21 ++ [rv113.1]) : List GSet)] (fun G => xp [0] rfl (Ent.freeze _ _) (xp [2, 0] rfl (Ent.cr1 (α := GSet) (A := [S a120 k121 rv113.1.Words]) _ rv113.1 _ aB1 (fun h => ⟨_, rfl, aL1, sepAll_get (i := 0) rfl h⟩)) (xA (ApO [3, 0] sl24 sl24 sz24)))) (Dv [0] (Vfa fo32_2 0) (Dv [9] (VldF sh30 0) (Dv [] Vm (Dv [0] (Vfa fo32_0 0) (Dv [9] (VldF sh3 0) ?_)))))
   refine letv (tp_Transfer tT rv113.2 (rv4.1 % 5)) fun rv133 hg134 => ?_
   refine Dx [3, 11] [3] [5, 0, 1, 2, 3, 4] (fun G => .agg #[vi rv133.1.Gen.Width, (G.g 15 0), vi rv133.1.Kill.Width, (G.g 15 1), (G.g 15 2)]) [fun G => SP.fact (i64ok rv133.1.Gen.Width ∧ i64ok rv133.1.Kill.Width ∧ (0 ≤ rv133.2 ∧ rv133.2 ≤ (tT.length : Int)) ∧ (rv133.1.Gen.Width = (rv4.1 % 5)) ∧ (rv133.1.Kill.Width = (rv4.1 % 5)) ∧ (rv133.1.Copies.length ≤ 12)), fun G => sl (G.g 15 0) rv133.1.Gen.Words, fun G => sl (G.g 15 1) rv133.1.Kill.Words, fun G => sl (G.g 15 2) rv133.1.Copies, fun G => Cl tP [vl ta tk tT, vi rv133.2]] (fun G => xC [0, 0] ca43 (fn43 tP ta tk tT rv113.2 ((rv4.1 % 5)) pre pre pre rv133 hg134)) (Dx [] [] [0] (fun G => (G.g 16 0)) [fun G => Cr (G.g 16 0) 1 [vi rv133.1.Gen.Width, (G.g 15 0), vi rv133.1.Kill.Width, (G.g 15 1), (G.g 15 2)]] (fun G => xA (AsV sl30 sz30 [.agg #[vi rv133.1.Gen.Width, (G.g 15 0), vi rv133.1.Kill.Width, (G.g 15 1), (G.g 15 2)]] [vi rv133.1.Gen.Width, (G.g 15 0), vi rv133.1.Kill.Width, (G.g 15 1), (G.g 15 2)])) ?_)
   have hn137 := la s2_20 ([rv133.1] : List GTransfer)
   refine Dx [7, 17, 18, 19, 20, 22] [7, 22] [4, 1, 2, 3, 0] (fun G => (G.g 17 0)) [fun G => os (G.g 17 0) ((s2_20 ++ [rv133.1]) : List GTransfer)] (fun G => by refine xf 1 rfl ?_; rintro ⟨he138, he139, he140, he141, he142, he143⟩; unfold i64ok at he138 he139; exact xp [5, 2, 3, 4] rfl (Ent.cr1 (α := GTransfer) (A := [sl (G.g 15 0) rv133.1.Gen.Words, sl (G.g 15 1) rv133.1.Kill.Words, sl (G.g 15 2) rv133.1.Copies]) _ rv133.1 _ aB1 (fun h => ⟨_, _, _, rfl, aL1, sepAll_get (i := 0) rfl h, aL1, sepAll_get (i := 1) rfl h, sepAll_get (i := 2) rfl h⟩)) (xA (ApO [4, 0] sl30 sl30 sz30))) (Dv [0] (Vfa fo32_1 0) (Dx0 [9, 13] [9] [1, 0] [fun G => Cl p10 [vi (rv4.1 % 5), (G.g 4 0), vl a25 k26 s2_20, vl a27 k28 s3_21]] (fun G => x1 1 rfl os_one fun ho144 => (xS (OpS.frame [0] rfl (OpS.storeClF [(G.g 4 0)] [vi (rv4.1 % 5), (G.g 4 0), vl a25 k26 s2_20, vl a27 k28 s3_21] rfl rfl rfl sh29 (cells_of_one ho144) rfl (by simp only [List.all_cons, List.all_nil, ho144, Bool.and_true, Bool.true_and] <;> rfl) aB1 rfl)))) (Dv [0] (Vfa fo32_3 0) (Dx0 [16, 24] [24] [1, 0] [fun G => Cl p10 [vi (rv4.1 % 5), (G.g 4 0), vl a25 k26 s2_20, (G.g 9 0)]] (fun G => x1 0 rfl os_one fun ho145 => (xS (OpS.frame [1] rfl (OpS.storeClF [(G.g 9 0)] [vi (rv4.1 % 5), (G.g 4 0), vl a25 k26 s2_20, (G.g 9 0)] rfl rfl rfl sh24 (cells_of_one ho145) rfl (by simp only [List.all_cons, List.all_nil, ho145, Bool.and_true, Bool.true_and] <;> rfl) aB1 rfl)))) (Dv [0] (Vfa fo32_2 0) (Dx0 [23, 25] [25] [1, 0] [fun G => Cl p10 [vi (rv4.1 % 5), (G.g 4 0), (G.g 17 0), (G.g 9 0)]] (fun G => x1 0 rfl os_one fun ho146 => (xS (OpS.frame [1] rfl (OpS.storeClF [(G.g 17 0)] [vi (rv4.1 % 5), (G.g 4 0), (G.g 17 0), (G.g 9 0)] rfl rfl rfl sh30 (cells_of_one ho146) rfl (by simp only [List.all_cons, List.all_nil, ho146, Bool.and_true, Bool.true_and] <;> rfl) aB1 rfl)))) ?_))))))
   refine Dn ⟨by kernel_rfl, fun G => ?_⟩
   refine Jw2 [(0, tP), (4, p3), (5, p10), (1, vi (1 + rv11.1)), (6, vi i_22)] [0, 1, 4, 5, 10, 11] [os (G.g 4 0) ((s1_19 ++ [d_55]) : List (List Int)), S a120 k121 rv113.1.Words, os (G.g 9 0) ((s3_21 ++ [rv113.1]) : List GSet), SP.fact (i64ok rv133.1.Gen.Width ∧ i64ok rv133.1.Kill.Width ∧ (0 ≤ rv133.2 ∧ rv133.2 ≤ (tT.length : Int)) ∧ (rv133.1.Gen.Width = (rv4.1 % 5)) ∧ (rv133.1.Kill.Width = (rv4.1 % 5)) ∧ (rv133.1.Copies.length ≤ 12)), sl (G.g 15 0) rv133.1.Gen.Words, sl (G.g 15 1) rv133.1.Kill.Words, sl (G.g 15 2) rv133.1.Copies, Cl tP [vl ta tk tT, vi rv133.2], os (G.g 17 0) ((s2_20 ++ [rv133.1]) : List GTransfer), Cl p10 [vi (rv4.1 % 5), (G.g 4 0), (G.g 17 0), (G.g 9 0)]] ?_
   generalize G.g 4 0 = c125, G.g 9 0 = c128, G.g 15 0 = c130, G.g 15 1 = c131, G.g 15 2 = c132, G.g 17 0 = c136
   refine Jf 9 rfl ?_; rintro ⟨he147, he148, he149, he150, he151, he152⟩
   unfold i64ok at he147 he148
   refine Jk [1, 1, 1, 2, 2, 3, 3, 4, 5, 6, 7, 8, 8, 8] ?_
   refine Jo 5 ?_; rintro a153 k154 rfl
   refine Fb 24 5 fun _ => ?_
   refine Jo 7 ?_; rintro a156 k157 rfl
   refine Fb 32 7 fun _ => ?_
   refine Jo 8 ?_; rintro a159 k160 rfl
   refine Fb 8 8 fun _ => ?_
   refine Jo 9 ?_; rintro a162 k163 rfl
   refine Fb 8 9 fun _ => ?_
   refine Jo 10 ?_; rintro a165 k166 rfl
   refine Fb 16 10 fun _ => ?_
   refine Jo 12 ?_; rintro a168 k169 rfl
   refine Fb 88 12 fun _ => KS ?_
   refine Oq Vm (Oq Vadd (Oq Va (KS ?_)))
   exact Kg (r46, rv133.2, (s1_19 ++ [d_55]), (s2_20 ++ [rv133.1]), (s3_21 ++ [rv113.1]), (i_22 + 1), a153, k154, a168, k169, a156, k157) [7, 11, 5, 9, 9, 3, 3] ⟨(q3 hM29 (by simp only [tp_System_L0, h44, h73, h110, hg48, hR92, hg95, hg105, hg114, hg134, cs4])), aM1, aM1, aM1, aM1, aM1, aM1, iv1, iv1, iv1⟩
  intro h110
  have g171 := ne_of_beq_false h110
  refine KS ?_
  refine Jp 7 fun hp172 => ?_
  refine JK_drawK [0, 1, 0, 4, 15, 0, 32, 0, 128, 511, 0, 1024, 0, 0, 8192, 29695, 62463, 131071, 27775, 524287, 1048575, 2097151, 4194303, 8388607] fmix ?_
  refine Dv [0] (Vfa fo32_1 0) (Dv [8] (VldF sh29 0) (Dv [] Vm (Dx [] [] [0] (fun G => (G.g 3 0)) [fun G => Cr (G.g 3 0) 1 [vl a57 k58 d_55]] (fun G => xA (AsV sl29 sz29 [vl a57 k58 d_55] [vl a57 k58 d_55])) ?_)))
  have hn175 := la s1_19 ([d_55] : List (List Int))
  refine Dx [4, 7, 11] [7, 11] [1, 0] (fun G => (G.g 4 0)) [fun G => os (G.g 4 0) ((s1_19 ++ [d_55]) : List (List Int))] (fun G => xp [2, 0] rfl (Ent.cr1 (α := List Int) (A := [S a57 k58 d_55]) _ d_55 _ aB1 (fun h => ⟨_, rfl, sepAll_get (i := 0) rfl h⟩)) (xA (ApO [3, 0] sl29 sl29 sz29))) (Dv [0] (Vfa fo32_3 0) (Dv [8] (VldF sh24 0) (Dv [2] (VldA sh39 0) (Dx [] [] [0] (fun G => (G.g 8 0)) [fun G => Cr (G.g 8 0) 1 [vi rv94.Width, vl a100 k101 rv94.Words]] (fun G => xA (AsV sl24 sz24 [.agg #[vi rv94.Width, vl a100 k101 rv94.Words]] [vi rv94.Width, vl a100 k101 rv94.Words])) ?_))))
  have hn178 := la s3_21 ([rv94] : List GSet)
  refine Dx [3, 5, 13] [3, 5, 13] [1, 0] (fun G => (G.g 9 0)) [fun G => S a100 k101 rv94.Words, fun G => os (G.g 9 0) ((s3_21 ++ [rv94]) : List GSet)] (fun G => xp [0] rfl (Ent.freeze _ _) (xp [2, 0] rfl (Ent.cr1 (α := GSet) (A := [S a100 k101 rv94.Words]) _ rv94 _ aB1 (fun h => ⟨_, rfl, aL1, sepAll_get (i := 0) rfl h⟩)) (xA (ApO [3, 0] sl24 sl24 sz24)))) (Dv [0] (Vfa fo32_2 0) (Dv [8] (VldF sh30 0) (Dv [] Vm (Dv [0] (Vfa fo32_0 0) (Dv [8] (VldF sh3 0) ?_)))))
  refine letv (tp_Transfer tT rv104.2 (rv4.1 % 5)) fun rv182 hg183 => ?_
  refine Dx [1, 10] [1] [5, 0, 1, 2, 3, 4] (fun G => .agg #[vi rv182.1.Gen.Width, (G.g 15 0), vi rv182.1.Kill.Width, (G.g 15 1), (G.g 15 2)]) [fun G => SP.fact (i64ok rv182.1.Gen.Width ∧ i64ok rv182.1.Kill.Width ∧ (0 ≤ rv182.2 ∧ rv182.2 ≤ (tT.length : Int)) ∧ (rv182.1.Gen.Width = (rv4.1 % 5)) ∧ (rv182.1.Kill.Width = (rv4.1 % 5)) ∧ (rv182.1.Copies.length ≤ 12)), fun G => sl (G.g 15 0) rv182.1.Gen.Words, fun G => sl (G.g 15 1) rv182.1.Kill.Words, fun G => sl (G.g 15 2) rv182.1.Copies, fun G => Cl tP [vl ta tk tT, vi rv182.2]] (fun G => xC [0, 0] ca43 (fn43 tP ta tk tT rv104.2 ((rv4.1 % 5)) pre pre pre rv182 hg183)) (Dx [] [] [0] (fun G => (G.g 16 0)) [fun G => Cr (G.g 16 0) 1 [vi rv182.1.Gen.Width, (G.g 15 0), vi rv182.1.Kill.Width, (G.g 15 1), (G.g 15 2)]] (fun G => xA (AsV sl30 sz30 [.agg #[vi rv182.1.Gen.Width, (G.g 15 0), vi rv182.1.Kill.Width, (G.g 15 1), (G.g 15 2)]] [vi rv182.1.Gen.Width, (G.g 15 0), vi rv182.1.Kill.Width, (G.g 15 1), (G.g 15 2)])) ?_)
  have hn186 := la s2_20 ([rv182.1] : List GTransfer)
  refine Dx [6, 16, 17, 18, 19, 21] [6, 21] [4, 1, 2, 3, 0] (fun G => (G.g 17 0)) [fun G => os (G.g 17 0) ((s2_20 ++ [rv182.1]) : List GTransfer)] (fun G => by refine xf 1 rfl ?_; rintro ⟨he187, he188, he189, he190, he191, he192⟩; unfold i64ok at he187 he188; exact xp [5, 2, 3, 4] rfl (Ent.cr1 (α := GTransfer) (A := [sl (G.g 15 0) rv182.1.Gen.Words, sl (G.g 15 1) rv182.1.Kill.Words, sl (G.g 15 2) rv182.1.Copies]) _ rv182.1 _ aB1 (fun h => ⟨_, _, _, rfl, aL1, sepAll_get (i := 0) rfl h, aL1, sepAll_get (i := 1) rfl h, sepAll_get (i := 2) rfl h⟩)) (xA (ApO [4, 0] sl30 sl30 sz30))) (Dv [0] (Vfa fo32_1 0) (Dx0 [8, 12] [8] [1, 0] [fun G => Cl p10 [vi (rv4.1 % 5), (G.g 4 0), vl a25 k26 s2_20, vl a27 k28 s3_21]] (fun G => x1 1 rfl os_one fun ho193 => (xS (OpS.frame [0] rfl (OpS.storeClF [(G.g 4 0)] [vi (rv4.1 % 5), (G.g 4 0), vl a25 k26 s2_20, vl a27 k28 s3_21] rfl rfl rfl sh29 (cells_of_one ho193) rfl (by simp only [List.all_cons, List.all_nil, ho193, Bool.and_true, Bool.true_and] <;> rfl) aB1 rfl)))) (Dv [0] (Vfa fo32_3 0) (Dx0 [15, 23] [23] [1, 0] [fun G => Cl p10 [vi (rv4.1 % 5), (G.g 4 0), vl a25 k26 s2_20, (G.g 9 0)]] (fun G => x1 0 rfl os_one fun ho194 => (xS (OpS.frame [1] rfl (OpS.storeClF [(G.g 9 0)] [vi (rv4.1 % 5), (G.g 4 0), vl a25 k26 s2_20, (G.g 9 0)] rfl rfl rfl sh24 (cells_of_one ho194) rfl (by simp only [List.all_cons, List.all_nil, ho194, Bool.and_true, Bool.true_and] <;> rfl) aB1 rfl)))) (Dv [0] (Vfa fo32_2 0) (Dx0 [22, 24] [24] [1, 0] [fun G => Cl p10 [vi (rv4.1 % 5), (G.g 4 0), (G.g 17 0), (G.g 9 0)]] (fun G => x1 0 rfl os_one fun ho195 => (xS (OpS.frame [1] rfl (OpS.storeClF [(G.g 17 0)] [vi (rv4.1 % 5), (G.g 4 0), (G.g 17 0), (G.g 9 0)] rfl rfl rfl sh30 (cells_of_one ho195) rfl (by simp only [List.all_cons, List.all_nil, ho195, Bool.and_true, Bool.true_and] <;> rfl) aB1 rfl)))) ?_))))))
  refine Dn ⟨by kernel_rfl, fun G => ?_⟩
  refine Jw2 [(0, tP), (4, p3), (5, p10), (1, vi (1 + rv11.1)), (6, vi i_22)] [0, 2, 4, 9, 10] [os (G.g 4 0) ((s1_19 ++ [d_55]) : List (List Int)), S a100 k101 rv94.Words, os (G.g 9 0) ((s3_21 ++ [rv94]) : List GSet), SP.fact (i64ok rv182.1.Gen.Width ∧ i64ok rv182.1.Kill.Width ∧ (0 ≤ rv182.2 ∧ rv182.2 ≤ (tT.length : Int)) ∧ (rv182.1.Gen.Width = (rv4.1 % 5)) ∧ (rv182.1.Kill.Width = (rv4.1 % 5)) ∧ (rv182.1.Copies.length ≤ 12)), sl (G.g 15 0) rv182.1.Gen.Words, sl (G.g 15 1) rv182.1.Kill.Words, sl (G.g 15 2) rv182.1.Copies, Cl tP [vl ta tk tT, vi rv182.2], os (G.g 17 0) ((s2_20 ++ [rv182.1]) : List GTransfer), Cl p10 [vi (rv4.1 % 5), (G.g 4 0), (G.g 17 0), (G.g 9 0)]] ?_
  generalize G.g 4 0 = c174, G.g 9 0 = c177, G.g 15 0 = c179, G.g 15 1 = c180, G.g 15 2 = c181, G.g 17 0 = c185
  refine Jf 8 rfl ?_; rintro ⟨he196, he197, he198, he199, he200, he201⟩
  unfold i64ok at he196 he197
  refine Jk [1, 1, 2, 2, 3, 3, 4, 5, 6, 7, 8, 8, 8] ?_
  refine Jo 4 ?_; rintro a202 k203 rfl
  refine Fb 24 4 fun _ => ?_
  refine Jo 6 ?_; rintro a205 k206 rfl
  refine Fb 32 6 fun _ => ?_
  refine Jo 7 ?_; rintro a208 k209 rfl
  refine Fb 8 7 fun _ => ?_
  refine Jo 8 ?_; rintro a211 k212 rfl
  refine Fb 8 8 fun _ => ?_
  refine Jo 9 ?_; rintro a214 k215 rfl
  refine Fb 16 9 fun _ => ?_
  refine Jo 11 ?_; rintro a217 k218 rfl
  refine Fb 88 11 fun _ => KS ?_
  refine Oq Vm (Oq Vadd (Oq Va (KS ?_)))
  exact Kg (r46, rv182.2, (s1_19 ++ [d_55]), (s2_20 ++ [rv182.1]), (s3_21 ++ [rv94]), (i_22 + 1), a202, k203, a217, k218, a205, k206) [6, 10, 4, 8, 8, 2, 2] ⟨(q3 hM29 (by simp only [tp_System_L0, h44, h73, h110, hg48, hR92, hg95, hg105, hg183, cs4])), aM1, aM1, aM1, aM1, aM1, aM1, iv1, iv1, iv1⟩
 intro h44
 have g220 := df h44
 obtain rfl : r17 = 0 := by omega
 refine Ke ?_
 have hR221 := q2 hM29 (ti_18, s1_19, s2_20, s3_21) (by simp only [tp_System_L0, h44, cs4])
 refine KS ?_
 refine Oq (VldA sh32 4) (Ost (Scl [5] sh32 [vi (rv4.1 % 5), vl a23 k24 s1_19, vl a25 k26 s2_20, vl a27 k28 s3_21]) (KS ?_))
 refine Jl [3] (Ent.freeze _ _) ?_
 refine Jl [3] (Ent.freeze _ _) ?_
 refine Jl [3] (Ent.freeze _ _) ?_
 have hq := q4 hrr ((GSystem.mk (rv4.1 % 5) s1_19 s2_20 s3_21), ti_18) (by simp only [tp_System, h44, hg5, hg12, hR221, cs4]); subst hq
 exact Kr (vl a23 k24 s1_19, vl a25 k26 s2_20, vl a27 k28 s3_21) rfl (.cellN 3 rfl sh32 rfl (reads_Cl _ _) rfl .nil) [2, 1, 0, 4] en
theorem fn20 (root : Int) (hroot_0 : i64ok root) (rr : GState) (hrr : so_Start root = rr) : FT Tryz.prog 20 #[vi root] [] (fun g : Value × Value × Value × Value => i64ok rr.Phase ∧ i64ok rr.At ∧ i64ok rr.Edge ∧ i64ok rr.Steps) (fun g => .agg #[vi rr.Phase, g.1, g.2.1, vi rr.At, vi rr.Edge, g.2.2.1, g.2.2.2, vi rr.Steps]) (fun g => [sl g.1 rr.Cone, sl g.2.1 rr.Leaf, sl g.2.2.1 rr.Values, sl g.2.2.2 rr.Queue]) := by
 refine FTi Tryz.func20 fun w0 M0 F0 => ?_
 unfold i64ok at hroot_0
 refine KS ?_
 refine Oa (Al ze26 [vi 0, .slice none 0 0, .slice none 0 0, vi 0, vi 0, .slice none 0 0, .slice none 0 0, vi 0]) fun p1 => KS ?_
 refine Oq Vm (Oa (AsV sl22 sz22 [vi root] [vi root]) fun c2 => ?_)
 refine Jo 0 ?_; rintro a3 k4 rfl
 refine Oa (AsV sl23 sz23 [vb false] [vb false]) fun c5 => ?_
 refine Jo 0 ?_; rintro a6 k7 rfl
 refine Oq (Vbd st26 [vi 1, .slice a3 1 k4, .slice a6 1 k7, vi 0, vi 0, .slice none 0 0, .slice none 0 0, vi 0]) (Ost (Scl [2] sh26 [vi 1, .slice a3 1 k4, .slice a6 1 k7, vi 0, vi 0, .slice none 0 0, .slice none 0 0, vi 0]) (KS ?_))
 refine Jl [2] (Ent.crInt _ [root] _ _ rfl rfl (by intro x hx; rw [List.mem_singleton] at hx; subst hx; unfold i64ok; omega) aB1) ?_
 refine Jl [0] (Ent.freeze _ _) ?_
 refine Jl [2] (Ent.cr1 (α := Bool) (A := []) _ false _ aB1 (fun _ => rfl)) ?_
 refine Jl [0] (Ent.freeze _ _) ?_
 refine Jl [] (Ent.slNil (α := GSet)) ?_
 refine Jl [] (Ent.slNil (α := Int)) ?_
 have hq := q4 hrr (GState.mk 1 [root] [false] 0 0 [] [] 0) (by simp only [so_Start, cs4]); subst hq
 exact Kr (.slice a3 1 k4, .slice a6 1 k7, .slice none 0 0, .slice none 0 0) rfl (.cellN 4 rfl sh26 rfl (reads_Cl _ _) rfl .nil) [3, 2, 1, 0] en
theorem fn151 (width : Int) (n : Int) (hwidth_0 : i64ok width) (hn_0 : i64ok n) (rr : Bool) (hrr : eq_sized width n = rr) : FT Tryz.prog 151 #[vi width, vi n] [] (fun g : Unit => True) (fun g => vb rr) (fun g => []) := by
 refine FTi Tryz.func151 fun w0 M0 F0 => ?_
 unfold i64ok at hwidth_0 hn_0
 refine KS ?_
 refine Oq Va (KS ?_)
 refine Oq Vm (Oq Vgeq (Oq Vm ?_))
 refine Js 7 ?_ ?_
 ·intro h1
  have g2 := dt h1
  refine Oq Vm (Oq Vleq (Oq Vpt (Oq Vm ?_)))
  refine Js 11 ?_ ?_
  ·intro h3
   have g4 := dt h3
   refine Oq Vm (Oq Vgeq (Oq Vpt (Oq Vm ?_)))
   refine Js 15 ?_ ?_
   ·intro h5
    have g6 := dt h5
    refine Oq Vm (Oq Vleq (Oq Vpt (Oq Va (KS ?_))))
    have hq := q4 hrr (decide (n ≤ 256)) (by simp only [eq_sized, h1, h3, h5, cs4]); subst hq
    exact Kr () rfl (.tmp rfl .nil) [] trivial
   intro h5
   have g7 := df h5
   refine Osk (Osk (Oq Vpf (Oq Va (KS ?_))))
   have hq := q4 hrr false (by simp only [eq_sized, h1, h3, h5, cs4]); subst hq
   exact Kr () rfl (.tmp rfl .nil) [] trivial
  intro h3
  have g8 := df h3
  refine Osk (Osk (Oq Vpf (Oq Vm (Osk (Osk (Oq Vpf (Oq Va (KS ?_))))))))
  have hq := q4 hrr false (by simp only [eq_sized, h1, h3, cs4]); subst hq
  exact Kr () rfl (.tmp rfl .nil) [] trivial
 intro h1
 have g9 := df h1
 refine Osk (Osk (Oq Vpf (Oq Vm (Osk (Osk (Oq Vpf (Oq Vm (Osk (Osk ?_)))))))))
 refine Oq Vpf (Oq Va (KS ?_))
 have hq := q4 hrr false (by simp only [eq_sized, h1, cs4]); subst hq
 exact Kr () rfl (.tmp rfl .nil) [] trivial
theorem fn152 (l : List Int) (la0 : Option Addr) (lk0 : Nat) (n : Int) (hn_0 : i64ok n) (rr : Bool) (hrr : eq_ascending l n = rr) : FT Tryz.prog 152 #[vl la0 lk0 l, vi n] [S la0 lk0 l] (fun g : Unit => True) (fun g => vb rr) (fun g => []) := by
 refine FTi Tryz.func152 fun w0 M0 F0 => ?_
 unfold i64ok at hn_0
 refine Fb 8 0 fun _ => Fo 0 fun ho2 => KS ?_
 refine Oq Va (KS ?_)
 refine Oq Vm (Oq (Vlen sl22) (Oq Vm (KS ?_)))
 refine Kl (γ := Nat × Int) (fun (r3, v9_4) => ⟨[(0, vl la0 lk0 l), (1, vi n), (7, vl la0 lk0 l), (8, vi (l.length : Int)), (9, vi v9_4)], [S la0 lk0 l], eq_ascending_L0 l n r3 v9_4 = eq_ascending_L0 l n (((l.length : Int) - 0).toNat) 0 ∧ r3 = ((l.length : Int) - v9_4).toNat ∧ (0 : Int) ≤ v9_4 ∧ v9_4 ≤ (l.length : Int) ∧ (-9223372036854775808 ≤ v9_4 ∧ v9_4 ≤ 9223372036854775807), r3⟩) (((l.length : Int) - 0).toNat, 0) [0] ⟨rfl, rfl, aM1, aM1, aM1⟩ ?_
 rintro ⟨r3, v9_4⟩ ⟨hM5, hr6, hi7, hi8, hk9⟩
 refine JJ_nx fun _ _ hL hA => ?_; dsimp only at hL hA; subst hL hA
 refine Fb 8 0 fun _ => Fo 0 fun ho11 => KS ?_
 refine Oq Vlss (KS ?_)
 refine Kc ?_ ?_
 ·intro h12
  have g13 := dt h12
  obtain ⟨r14, rfl⟩ := scc (n := r3) aM1
  refine KS ?_
  refine Oq Vm (Oq (Vi sl22 0) ?_)
  have hb15 := ok1 (i := v9_4.toNat) ho11 rng
  refine Oq (VldI sh3 0) (Oq Va (Oq Va (KS ?_)))
  refine Oq Vm (Oq Vlss (Oq Vm ?_))
  refine Js 16 ?_ ?_
  ·intro h16
   have g17 := dt h16
   refine Osk (Osk (Osk (Oq Vpt (Oq Vm (Osk (Osk (Osk (Osk (Osk ?_)))))))))
   refine Osk (Osk (Osk (Osk (Osk (Osk (Oq Vpt (KS ?_)))))))
   refine Kt (KS ?_)
   refine Oq Va (KS ?_)
   have hR18 := q2 hM5 (.ret false) (by simp only [eq_ascending_L0, h12, h16, cs4])
   have hq := q4 hrr false (by simp only [eq_ascending, h12, h16, hR18, cs4]); subst hq
   exact Kr () rfl (.tmp rfl .nil) [] trivial
  intro h16
  have g19 := df h16
  refine Oq Vm (Oq Vm (Oq Vgeq (Oq Vpf (Oq Vm ?_))))
  refine Js 21 ?_ ?_
  ·intro h20
   have g21 := dt h20
   refine Osk (Osk (Osk (Osk (Osk (Osk (Osk (Osk (Osk (Osk ?_)))))))))
   refine Osk (Oq Vpt (KS ?_))
   refine Kt (KS ?_)
   refine Oq Va (KS ?_)
   have hR22 := q2 hM5 (.ret false) (by simp only [eq_ascending_L0, h12, h16, h20, cs4])
   have hq := q4 hrr false (by simp only [eq_ascending, h12, h16, h20, hR22, cs4]); subst hq
   exact Kr () rfl (.tmp rfl .nil) [] trivial
  intro h20
  have g23 := df h20
  refine Oq Vm (Oq Vgtr (Oq Vm ?_))
  refine Js 24 ?_ ?_
  ·intro h24
   have g25 := dt h24
   refine Oq Vm (Oq Vm (Oq Vm (Oq Vsub (Oq (Vi sl22 0) ?_))))
   have hb26 := ok1 (i := ((v9_4 - 1) : Int).toNat) ho11 rng
   refine Oq (VldI sh3 0) (Oq Vleq (Oq Vpt (Oq Vpf (KS ?_))))
   refine Kc ?_ ?_
   ·intro h27
    have g28 := dt h27
    refine KS ?_
    refine Oq Va (KS ?_)
    have hR29 := q2 hM5 (.ret false) (by simp only [eq_ascending_L0, h12, h16, h20, h24, h27, cs4])
    have hq := q4 hrr false (by simp only [eq_ascending, h12, h16, h20, h24, h27, hR29, cs4]); subst hq
    exact Kr () rfl (.tmp rfl .nil) [] trivial
   intro h27
   have g30 := df h27
   refine KS ?_
   refine Oq Vadd (Oq Vm (KS ?_))
   exact Kg (r14, (v9_4 + 1)) [0] ⟨(q3 hM5 (by simp only [eq_ascending_L0, h12, h16, h20, h24, h27, cs4])), aM1, aM1, aM1, aM1⟩
  intro h24
  have g31 := df h24
  refine Osk (Osk (Osk (Osk (Osk (Osk (Osk (Oq Vpf (Oq Vpf (KS ?_)))))))))
  refine Kf (KS ?_)
  refine Oq Vadd (Oq Vm (KS ?_))
  exact Kg (r14, (v9_4 + 1)) [0] ⟨(q3 hM5 (by simp only [eq_ascending_L0, h12, h16, h20, h24, cs4])), aM1, aM1, aM1, aM1⟩
 intro h12
 have g32 := df h12
 obtain rfl : r3 = 0 := by omega
 refine Ke ?_
 have hR33 := q2 hM5 (.brk ()) (by simp only [eq_ascending_L0, h12, cs4])
 refine KS ?_
 refine Oq Va (KS ?_)
 have hq := q4 hrr true (by simp only [eq_ascending, h12, hR33, cs4]); subst hq
 exact Kr () rfl (.tmp rfl .nil) [] trivial
theorem fn175 (s : GSet) (sa1 : Option Addr) (sk1 : Nat) (cap0P : Value) (cap0 : Int) (hs_0 : i64ok s.Width) (hcap0_0 : i64ok cap0) (rr : Bool) (hrr : eq_sets_1 s cap0 = rr) : FT Tryz.prog 175 #[.agg #[vi s.Width, vl sa1 sk1 s.Words], cap0P] [S sa1 sk1 s.Words, pv cap0P [vi cap0]] (fun g : Unit => True) (fun g => vb rr) (fun g => []) := by
 refine FTi Tryz.func175 fun w0 M0 F0 => ?_
 unfold i64ok at hs_0 hcap0_0
 refine Fb 8 0 fun _ => KS ?_
 refine Oa (Ab [vi s.Width, vl sa1 sk1 s.Words]) fun p2 => Oq Va (KS ?_)
 refine Oq (VldA sh39 0) ?_
 refine letv (bt_Valid s) fun rv3 hg4 => ?_
 have hc5 := fn72 s sa1 sk1 pre rv3 hg4
 refine Oc [1] ca72 hc5 ?_
 rintro - -
 refine Oq Vnot (Oq Vm ?_)
 refine Js 7 ?_ ?_
 ·intro h6
  have h8 := not_true h6
  refine Osk (Osk (Osk (Osk (Oq Vpt (Oq Va (KS ?_))))))
  have hq := q4 hrr true (by simp only [eq_sets_1, h6, h8, hg4, cs4]); subst hq
  exact Kr () rfl (.tmp rfl .nil) [] trivial
 intro h6
 have h11 := not_false h6
 refine Oq (Vfa fo39_0 0) (Oq (VldF sh3 0) (Oq (Vld sh3 2) (Oq Vneq (Oq Vpf (Oq Va (KS ?_))))))
 have hq := q4 hrr (s.Width != cap0) (by simp only [eq_sets_1, h6, h11, hg4, cs4]); subst hq
 exact Kr () rfl (.tmp rfl .nil) [] trivial
theorem fn153 (width : Int) (l : List GSet) (la0 : Option Addr) (lk0 : Nat) (hwidth_0 : i64ok width) (rr : Bool) (hrr : eq_sets width l = rr) : FT Tryz.prog 153 #[vi width, vl la0 lk0 l] [S la0 lk0 l] (fun g : Unit => True) (fun g => vb rr) (fun g => []) := by
 refine FTi Tryz.func153 fun w0 M0 F0 => ?_
 unfold i64ok at hwidth_0
 refine Fb 32 0 fun _ => KS ?_
 refine Oa (Ab [vi width]) fun p2 => Oq Va (KS ?_)
 refine Oq Vm (Oq (Vf [p2]) ?_)
 refine JJ_ent (Ent.pall [0] rfl rfl) ?_
 refine letv (sc_ContainsFunc_Set l (fun x => eq_sets_1 x width)) fun rv3 hg4 => ?_
 have hc5 := fn70 l la0 lk0 175 [p2] (fun x => eq_sets_1 x width) [pv p2 [vi width]] ca175 (fun x hx a1 k1 hq0 => FT_pall (A1 := _) (fn175 x a1 k1 p2 width hq0 pre _ rfl)) rv3 hg4
 refine Oc [2, 0] ca70 hc5 ?_
 rintro - -
 refine Oq Vnot (Oq Va (KS ?_))
 have hq := q4 hrr (!rv3) (by simp only [eq_sets, hg4, cs4]); subst hq
 exact Kr () rfl (.tmp rfl .nil) [] trivial
theorem fn176 (s : List GTransfer) (sa0 : Option Addr) (sk0 : Nat) (fF : FuncId) (fC : List Value) (fp : GTransfer → Bool) (fA : List SP) (hfc : callable Tryz.prog fF = true) (hfF : ∀ x ∈ s, ∀ (a1 : Option Addr) (k1 : Nat) (a3 : Option Addr) (k3 : Nat) (a4 : Option Addr) (k4 : Nat), i64ok x.Gen.Width → i64ok x.Kill.Width → FT Tryz.prog fF ([(.agg #[vi x.Gen.Width, vl a1 k1 x.Gen.Words, vi x.Kill.Width, vl a3 k3 x.Kill.Words, vl a4 k4 x.Copies] : Value)] ++ fC).toArray ([S a1 k1 x.Gen.Words, S a3 k3 x.Kill.Words, S a4 k4 x.Copies] ++ [pAll fA]) (fun _ : Unit => True) (fun _ => .bool (fp x)) (fun _ => [])) (rr : Int) (hrr : sc_IndexFunc_Transfer s fp = rr) : FT Tryz.prog 176 #[vl sa0 sk0 s, .func (.func fF) #[] fC.toArray] [S sa0 sk0 s, pAll fA] (fun g : Unit => i64ok rr) (fun g => vi rr) (fun g => []) := by
 refine FTi Tryz.func176 fun w0 M0 F0 => Fb 88 0 fun _ => ?_
 refine KS ?_
 refine Oq Va (KS ?_)
 refine Oq Vm (Oq (Vlen sl30) (Oq Vm (KS ?_)))
 refine Kl (γ := Nat × Int) (fun (r2, v8_3) => ⟨[(0, vl sa0 sk0 s), (1, .func (.func fF) #[] fC.toArray), (7, vi (s.length : Int)), (8, vi v8_3)], [S sa0 sk0 s, pAll fA], sc_IndexFunc_Transfer_L0 s fp r2 v8_3 = sc_IndexFunc_Transfer_L0 s fp (((s.length : Int) - 0).toNat) 0 ∧ r2 = ((s.length : Int) - v8_3).toNat ∧ (0 : Int) ≤ v8_3 ∧ v8_3 ≤ (s.length : Int) ∧ (-9223372036854775808 ≤ v8_3 ∧ v8_3 ≤ 9223372036854775807), r2⟩) (((s.length : Int) - 0).toNat, 0) [0, 1] ⟨rfl, rfl, aM1, aM1, aM1⟩ ?_
 rintro ⟨r2, v8_3⟩ ⟨hM4, hr5, hi6, hi7, hk8⟩
 refine JJ_nx fun _ _ hL hA => ?_; dsimp only at hL hA; subst hL hA
 refine Fb 88 0 fun _ => KS ?_
 refine Oq Vlss (KS ?_)
 refine Kc ?_ ?_
 ·intro h10
  have g11 := dt h10
  obtain ⟨r12, rfl⟩ := scc (n := r2) aM1
  refine KS ?_
  refine Oq Vm (Oq Va (KS ?_))
  refine Oq Vm (Oq Vm (Oq Vm (Oq (Vi sl30 0) ?_)))
  refine JJ_peek_GTransfer v8_3.toNat 0 rfl rng fun a13 k14 a15 k16 a17 k18 hb19 hb20 => ?_
  unfold i64ok at hb19 hb20
  refine Fb 8 1 fun _ => Fb 8 2 fun _ => Fb 16 3 fun _ => Oq (VldA sh85 0) ?_
  refine JO_call [1, 2, 3, 5] rfl rfl rfl (OpC.clo (asv := [(.agg #[vi (((s.getD v8_3.toNat default).Gen).Width), vl a13 k14 (((s.getD v8_3.toNat default).Gen).Words), vi (((s.getD v8_3.toNat default).Kill).Width), vl a15 k16 (((s.getD v8_3.toNat default).Kill).Words), vl a17 k18 ((s.getD v8_3.toNat default).Copies)] : Value)] ++ fC) rfl rfl hfc rfl (by simp)) (hfF (s.getD v8_3.toNat default) (getD_mem rng) a13 k14 a15 k16 a17 k18 pre pre) rfl fun _ _ => ?_
  refine KS ?_
  refine Kc ?_ ?_
  ·intro h24
   refine KS ?_
   refine Oq Vm (Oq Va (KS ?_))
   have hR26 := q2 hM4 (.ret v8_3) (by simp only [sc_IndexFunc_Transfer_L0, h10, h24, cs4])
   have hq := q4 hrr v8_3 (by simp only [sc_IndexFunc_Transfer, h10, h24, hR26, cs4]); subst hq
   exact Kr () rfl (.tmp rfl .nil) [] en
  intro h24
  refine KS ?_
  refine Oq Vadd (Oq Vm (KS ?_))
  exact Kg (r12, (v8_3 + 1)) [4, 5] ⟨(q3 hM4 (by simp only [sc_IndexFunc_Transfer_L0, h10, h24, cs4])), aM1, aM1, aM1, aM1⟩
 intro h10
 have g28 := df h10
 obtain rfl : r2 = 0 := by omega
 refine Ke ?_
 have hR29 := q2 hM4 (.brk ()) (by simp only [sc_IndexFunc_Transfer_L0, h10, cs4])
 refine KS ?_
 refine Oq Va (KS ?_)
 have hq := q4 hrr (-1) (by simp only [sc_IndexFunc_Transfer, h10, hR29, cs4]); subst hq
 exact Kr () rfl (.tmp rfl .nil) [] en
theorem fn154 (s : List GTransfer) (sa0 : Option Addr) (sk0 : Nat) (fF : FuncId) (fC : List Value) (fp : GTransfer → Bool) (fA : List SP) (hfc : callable Tryz.prog fF = true) (hfF : ∀ x ∈ s, ∀ (a1 : Option Addr) (k1 : Nat) (a3 : Option Addr) (k3 : Nat) (a4 : Option Addr) (k4 : Nat), i64ok x.Gen.Width → i64ok x.Kill.Width → FT Tryz.prog fF ([(.agg #[vi x.Gen.Width, vl a1 k1 x.Gen.Words, vi x.Kill.Width, vl a3 k3 x.Kill.Words, vl a4 k4 x.Copies] : Value)] ++ fC).toArray ([S a1 k1 x.Gen.Words, S a3 k3 x.Kill.Words, S a4 k4 x.Copies] ++ [pAll fA]) (fun _ : Unit => True) (fun _ => .bool (fp x)) (fun _ => [])) (rr : Bool) (hrr : sc_ContainsFunc_Transfer s fp = rr) : FT Tryz.prog 154 #[vl sa0 sk0 s, .func (.func fF) #[] fC.toArray] [S sa0 sk0 s, pAll fA] (fun g : Unit => True) (fun g => vb rr) (fun g => []) := by
 refine FTi Tryz.func154 fun w0 M0 F0 => Fb 88 0 fun _ => ?_
 refine KS ?_
 refine Oq Va (KS ?_)
 refine Oq Vm (Oq Vm ?_)
 refine letv (sc_IndexFunc_Transfer s fp) fun rv2 hg3 => ?_
 have hc4 := fn176 s sa0 sk0 fF fC fp fA hfc hfF rv2 hg3
 refine Oc [0, 1] ca176 hc4 ?_
 rintro - he5
 unfold i64ok at he5
 refine Oq Vgeq (Oq Va (KS ?_))
 have hq := q4 hrr (decide (0 ≤ rv2)) (by simp only [sc_ContainsFunc_Transfer, hg3, cs4]); subst hq
 exact Kr () rfl (.tmp rfl .nil) [] trivial
theorem fn178 (t : GTransfer) (ta1 : Option Addr) (tk1 : Nat) (ta3 : Option Addr) (tk3 : Nat) (ta4 : Option Addr) (tk4 : Nat) (b : Int) (ht_0 : i64ok t.Gen.Width) (ht_2 : i64ok t.Kill.Width) (hb_0 : i64ok b) (rr : Bool) (hrr : tf_bit t b = rr) : FT Tryz.prog 178 #[.agg #[vi t.Gen.Width, vl ta1 tk1 t.Gen.Words, vi t.Kill.Width, vl ta3 tk3 t.Kill.Words, vl ta4 tk4 t.Copies], vi b] [S ta1 tk1 t.Gen.Words, S ta3 tk3 t.Kill.Words, S ta4 tk4 t.Copies] (fun g : Unit => True) (fun g => vb rr) (fun g => []) := by
 refine FTi Tryz.func178 fun w0 M0 F0 => ?_
 unfold i64ok at ht_0 ht_2 hb_0
 refine Fb 8 0 fun _ => Fb 8 1 fun _ => Fb 16 2 fun _ => KS ?_
 refine Oa (Ab [vi t.Gen.Width, vl ta1 tk1 t.Gen.Words, vi t.Kill.Width, vl ta3 tk3 t.Kill.Words, vl ta4 tk4 t.Copies]) fun p4 => Oq Va (KS ?_)
 refine Oq Vm (Oq Vgeq (Oq Vm ?_))
 refine Js 7 ?_ ?_
 ·intro h5
  have g6 := dt h5
  refine Oq Vm (Oq (Vfa fo85_0 0) (Oq (VfaF fo39_0 0) (Oq (VldF sh3 0) (Oq Vlss (Oq Vpt (Oq Va (KS ?_)))))))
  have hq := q4 hrr (decide (b < t.Gen.Width)) (by simp only [tf_bit, h5, cs4]); subst hq
  exact Kr () rfl (.tmp rfl .nil) [] trivial
 intro h5
 have g7 := df h5
 refine Osk (Osk (Osk (Osk (Osk (Oq Vpf (Oq Va (KS ?_)))))))
 have hq := q4 hrr false (by simp only [tf_bit, h5, cs4]); subst hq
 exact Kr () rfl (.tmp rfl .nil) [] trivial
theorem fn187 (vals : List Int) (valsa0 : Option Addr) (valsk0 : Nat) (rr : Int) (hrr : cmp_Or_int vals = rr) : FT Tryz.prog 187 #[vl valsa0 valsk0 vals] [S valsa0 valsk0 vals] (fun g : Unit => i64ok rr) (fun g => vi rr) (fun g => []) := by
 refine FTi Tryz.func187 fun w0 M0 F0 => Fb 8 0 fun _ => Fo 0 fun ho2 => ?_
 refine KS ?_
 refine Oq Va (KS ?_)
 refine Oq Va (KS ?_)
 refine Oq Vm (Oq (Vlen sl22) (Oq Vm (KS ?_)))
 refine Kl (γ := Nat × Int) (fun (r3, v8_4) => ⟨[(3, vi 0), (6, vl valsa0 valsk0 vals), (7, vi (vals.length : Int)), (8, vi v8_4)], [S valsa0 valsk0 vals], cmp_Or_int_L0 vals r3 v8_4 = cmp_Or_int_L0 vals (((vals.length : Int) - 0).toNat) 0 ∧ r3 = ((vals.length : Int) - v8_4).toNat ∧ (0 : Int) ≤ v8_4 ∧ v8_4 ≤ (vals.length : Int) ∧ (-9223372036854775808 ≤ v8_4 ∧ v8_4 ≤ 9223372036854775807), r3⟩) (((vals.length : Int) - 0).toNat, 0) [0] ⟨rfl, rfl, aM1, aM1, aM1⟩ ?_
 rintro ⟨r3, v8_4⟩ ⟨hM5, hr6, hi7, hi8, hk9⟩
 refine JJ_nx fun _ _ hL hA => ?_; dsimp only at hL hA; subst hL hA
 refine Fb 8 0 fun _ => Fo 0 fun ho11 => KS ?_
 refine Oq Vlss (KS ?_)
 refine Kc ?_ ?_
 ·intro h12
  have g13 := dt h12
  obtain ⟨r14, rfl⟩ := scc (n := r3) aM1
  refine KS ?_
  refine Oq (Vi sl22 0) ?_
  have hb15 := ok1 (i := v8_4.toNat) ho11 rng
  refine Oq (VldI sh3 0) (Oq Va (KS ?_))
  refine Oq Vm (Oq Vm (Oq Vneq (KS ?_)))
  refine Kc ?_ ?_
  ·intro h16
   have g17 := ne_of_bne h16
   refine KS ?_
   refine Oq Vm (Oq Va (KS ?_))
   have hR18 := q2 hM5 (.ret (vals.getD v8_4.toNat 0)) (by simp only [cmp_Or_int_L0, h12, h16, cs4])
   have hq := q4 hrr (vals.getD v8_4.toNat 0) (by simp only [cmp_Or_int, h12, h16, hR18, cs4]); subst hq
   exact Kr () rfl (.tmp rfl .nil) [] en
  intro h16
  have g19 := eq_of_bne_false h16
  refine KS ?_
  refine Oq Vadd (Oq Vm (KS ?_))
  exact Kg (r14, (v8_4 + 1)) [0] ⟨(q3 hM5 (by simp only [cmp_Or_int_L0, h12, h16, cs4])), aM1, aM1, aM1, aM1⟩
 intro h12
 have g20 := df h12
 obtain rfl : r3 = 0 := by omega
 refine Ke ?_
 have hR21 := q2 hM5 (.brk ()) (by simp only [cmp_Or_int_L0, h12, cs4])
 refine KS ?_
 refine Oq Vm (Oq Va (KS ?_))
 have hq := q4 hrr 0 (by simp only [cmp_Or_int, h12, hR21, cs4]); subst hq
 exact Kr () rfl (.tmp rfl .nil) [] en
theorem fn193 (x : Int) (hx_0 : i64ok x) (rr : Bool) (hrr : cmp_isNaN_int x = rr) : FT Tryz.prog 193 #[vi x] [] (fun g : Unit => True) (fun g => vb rr) (fun g => []) := by
 refine FTi Tryz.func193 fun w0 M0 F0 => ?_
 unfold i64ok at hx_0
 refine KS ?_
 refine Oq Va (KS ?_)
 refine Oq Vm (Oq Vm (Oq Vneq (Oq Va (KS ?_))))
 have hq := q4 hrr (x != x) (by simp only [cmp_isNaN_int, cs4]); subst hq
 exact Kr () rfl (.tmp rfl .nil) [] trivial
theorem fn188 (x : Int) (y : Int) (hx_0 : i64ok x) (hy_0 : i64ok y) (rr : Int) (hrr : cmp_Compare_int x y = rr) : FT Tryz.prog 188 #[vi x, vi y] [] (fun g : Unit => i64ok rr) (fun g => vi rr) (fun g => []) := by
 refine FTi Tryz.func188 fun w0 M0 F0 => ?_
 unfold i64ok at hx_0 hy_0
 refine KS ?_
 refine Oq Va (KS ?_)
 refine Oq Vm ?_
 refine letv (cmp_isNaN_int x) fun rv1 hg2 => ?_
 have hc3 := fn193 x pre rv1 hg2
 refine Oc [] ca193 hc3 ?_
 rintro - -
 refine Oq Va (KS ?_)
 refine Oq Vm ?_
 refine letv (cmp_isNaN_int y) fun rv4 hg5 => ?_
 have hc6 := fn193 y pre rv4 hg5
 refine Oc [] ca193 hc6 ?_
 rintro - -
 refine Oq Va (KS ?_)
 refine Oq Vm (KS ?_)
 refine Kc ?_ ?_
 ·intro h7
  refine KS ?_
  refine Oq Vm (KS ?_)
  refine Kc ?_ ?_
  ·intro h9
   refine KS ?_
   refine Oq Va (KS ?_)
   have hq := q4 hrr 0 (by simp only [cmp_Compare_int, h7, h9, hg2, hg5, cs4]); subst hq
   exact Kr () rfl (.tmp rfl .nil) [] en
  intro h9
  refine KS ?_
  refine Oq Va (KS ?_)
  have hq := q4 hrr (-1) (by simp only [cmp_Compare_int, h7, h9, hg2, hg5, cs4]); subst hq
  exact Kr () rfl (.tmp rfl .nil) [] en
 intro h7
 refine KS ?_
 refine Oq Vm (KS ?_)
 refine Kc ?_ ?_
 ·intro h13
  refine KS ?_
  refine Oq Va (KS ?_)
  have hq := q4 hrr 1 (by simp only [cmp_Compare_int, h7, h13, hg2, hg5, cs4]); subst hq
  exact Kr () rfl (.tmp rfl .nil) [] en
 intro h13
 refine KS ?_
 refine Oq Vm (Oq Vm (Oq Vlss (KS ?_)))
 refine Kc ?_ ?_
 ·intro h16
  have g17 := dt h16
  refine KS ?_
  refine Oq Va (KS ?_)
  have hq := q4 hrr (-1) (by simp only [cmp_Compare_int, h7, h13, h16, hg2, hg5, cs4]); subst hq
  exact Kr () rfl (.tmp rfl .nil) [] en
 intro h16
 have g18 := df h16
 refine KS ?_
 refine Oq Vm (Oq Vm (Oq Vgtr (KS ?_)))
 refine Kc ?_ ?_
 ·intro h19
  have g20 := dt h19
  refine KS ?_
  refine Oq Va (KS ?_)
  have hq := q4 hrr 1 (by simp only [cmp_Compare_int, h7, h13, h16, h19, hg2, hg5, cs4]); subst hq
  exact Kr () rfl (.tmp rfl .nil) [] en
 intro h19
 have g21 := df h19
 refine KS ?_
 refine Oq Va (KS ?_)
 have hq := q4 hrr 0 (by simp only [cmp_Compare_int, h7, h13, h16, h19, hg2, hg5, cs4]); subst hq
 exact Kr () rfl (.tmp rfl .nil) [] en
theorem fn179 (a : GCopy) (b : GCopy) (ha_0 : i64ok a.From) (ha_1 : i64ok a.To) (hb_0 : i64ok b.From) (hb_1 : i64ok b.To) (rr : Int) (hrr : tf_compare a b = rr) : FT Tryz.prog 179 #[.agg #[vi a.From, vi a.To], .agg #[vi b.From, vi b.To]] [] (fun g : Unit => i64ok rr) (fun g => vi rr) (fun g => []) := by
 refine FTi Tryz.func179 fun w0 M0 F0 => ?_
 unfold i64ok at ha_0 ha_1 hb_0 hb_1
 refine KS ?_
 refine Oa (Ab [vi a.From, vi a.To]) fun p1 => Oa (Ab [vi b.From, vi b.To]) fun p2 => Oq Va (KS ?_)
 refine JK_drawK [0, 1, 0, 4, 15, 0, 32, 0, 128, 511, 1023, 2047, 4095] fmix ?_
 refine Dv [1] (Vfa fo108_0 0) (Dv [1] (VldF sh3 0) (Dv [0] (Vfa fo108_0 0) (Dv [0] (VldF sh3 0) ?_)))
 refine letv (cmp_Compare_int a.From b.From) fun rv3 hg4 => ?_
 refine Dx [] [] [0] (fun G => vi rv3) [fun G => SP.fact (i64ok rv3)] (fun G => xC [] ca188 (fn188 a.From b.From pre pre rv3 hg4)) (Dv [1] (Vfa fo108_1 0) (Dv [1] (VldF sh3 0) (Dv [0] (Vfa fo108_1 0) (Dv [0] (VldF sh3 0) ?_))))
 refine letv (cmp_Compare_int a.To b.To) fun rv5 hg6 => ?_
 refine Dx [] [] [0] (fun G => vi rv5) [fun G => SP.fact (i64ok rv5)] (fun G => xC [] ca188 (fn188 a.To b.To pre pre rv5 hg6)) (Dx [] [] [0] (fun G => (G.g 10 0)) [fun G => Cr (G.g 10 0) 2 [vi rv3, vi rv5]] (fun G => xA (AsV sl22 sz22 [vi rv3, vi rv5] [vi rv3, vi rv5])) ?_)
 refine letv (cmp_Or_int [rv3, rv5]) fun rv11 hg12 => ?_
 refine Dx [2, 3, 4] [4] [2, 3, 1, 0] (fun G => vi rv11) [fun G => sl (G.g 10 0) ([rv3, rv5] : List Int), fun G => SP.fact (i64ok rv11)] (fun G => by refine xf 0 rfl ?_; rintro he13; unfold i64ok at he13; refine xf 1 rfl ?_; rintro he14; unfold i64ok at he14; exact xp [2] rfl (Ent.crInt _ [rv3, rv5] _ _ rfl rfl (by intro x hx; simp only [List.mem_cons, List.not_mem_nil, or_false] at hx; rcases hx with rfl | rfl <;> (unfold i64ok; omega)) aB1) (xp [0] rfl (Ent.freeze _ _) (xD [0] ca187 rfl rfl rfl (FT_open (γ := Unit) (I := fun g => i64ok rv11) (V := fun g => vi rv11) (B := fun g => []) (R := sl (G.g 10 0) ([rv3, rv5] : List Int)) sl_slice (fun aq8 kq9 eq10 => by rw [eq10]; exact FT_ent (Ent.take (is := [0]) rfl) (fn187 ([rv3, rv5]) aq8 kq9 rv11 hg12)))))) (Dv [] Va ?_)
 refine Dn ⟨by kernel_rfl, fun G => ?_⟩
 refine Jw2 [(4, vi rv11)] [0, 1] [SP.fact (i64ok rv3), SP.fact (i64ok rv5), sl (G.g 10 0) ([rv3, rv5] : List Int), SP.fact (i64ok rv11)] ?_
 generalize G.g 10 0 = c7
 refine Jf 2 rfl ?_; rintro he15
 unfold i64ok at he15
 refine Jf 3 rfl ?_; rintro he16
 unfold i64ok at he16
 refine Jf 5 rfl ?_; rintro he17
 unfold i64ok at he17
 refine Jk [0, 1, 4] ?_
 refine Jo 2 ?_; rintro a18 k19 rfl
 refine Fb 8 2 fun _ => Fo 2 fun ho21 => ?_
 have hq := q4 hrr rv11 (by simp only [tf_compare, hg4, hg6, hg12, cs4]); subst hq
 exact Kr () rfl (.tmp rfl .nil) [] en
theorem fn162 (t : GTransfer) (ta1 : Option Addr) (tk1 : Nat) (ta3 : Option Addr) (tk3 : Nat) (ta4 : Option Addr) (tk4 : Nat) (ht_0 : i64ok t.Gen.Width) (ht_2 : i64ok t.Kill.Width) (rr : Bool) (hrr : tf_Valid t = rr) : FT Tryz.prog 162 #[.agg #[vi t.Gen.Width, vl ta1 tk1 t.Gen.Words, vi t.Kill.Width, vl ta3 tk3 t.Kill.Words, vl ta4 tk4 t.Copies]] [S ta1 tk1 t.Gen.Words, S ta3 tk3 t.Kill.Words, S ta4 tk4 t.Copies] (fun g : Unit => True) (fun g => vb rr) (fun g => []) := by
 refine FTi Tryz.func162 fun w0 M0 F0 => ?_
 unfold i64ok at ht_0 ht_2
 refine Fb 8 0 fun _ => Fb 8 1 fun _ => Fb 16 2 fun _ => KS ?_
 refine Oa (Ab [vi t.Gen.Width, vl ta1 tk1 t.Gen.Words, vi t.Kill.Width, vl ta3 tk3 t.Kill.Words, vl ta4 tk4 t.Copies]) fun p4 => Oq Va (KS ?_)
 refine Oq (Vfa fo85_0 0) (Oq (VldG sh39 0 [vi t.Gen.Width, vl ta1 tk1 t.Gen.Words]) ?_)
 refine letv (bt_Valid t.Gen) fun rv5 hg6 => ?_
 have hc7 := fn72 t.Gen ta1 tk1 pre rv5 hg6
 refine Oc [1] ca72 hc7 ?_
 rintro - -
 refine Oq Vnot (Oq Vm ?_)
 refine Js 9 ?_ ?_
 ·intro h8
  have h10 := not_true h8
  refine Osk (Osk (Osk (Osk (Oq Vpt (Oq Vm (Osk (Osk (Osk (Osk ?_)))))))))
  refine Osk (Osk (Osk (Oq Vpt (Oq Vm (Osk (Osk (Osk (Osk (Oq Vpt ?_)))))))))
  refine KS ?_
  refine Kt (KS ?_)
  refine Oq Va (KS ?_)
  have hq := q4 hrr false (by simp only [tf_Valid, h8, h10, hg6, cs4]); subst hq
  exact Kr () rfl (.tmp rfl .nil) [] trivial
 intro h8
 have h13 := not_false h8
 refine Oq (Vfa fo85_1 0) (Oq (VldG sh39 0 [vi t.Kill.Width, vl ta3 tk3 t.Kill.Words]) ?_)
 refine letv (bt_Valid t.Kill) fun rv15 hg16 => ?_
 have hc17 := fn72 t.Kill ta3 tk3 pre rv15 hg16
 refine Oc [2] ca72 hc17 ?_
 rintro - -
 refine Oq Vnot (Oq Vpf (Oq Vm ?_))
 refine Js 15 ?_ ?_
 ·intro h18
  have h20 := not_true h18
  refine Osk (Osk (Osk (Osk (Osk (Osk (Osk (Oq Vpt (Oq Vm (Osk ?_)))))))))
  refine Osk (Osk (Osk (Oq Vpt (KS ?_))))
  refine Kt (KS ?_)
  refine Oq Va (KS ?_)
  have hq := q4 hrr false (by simp only [tf_Valid, h8, h13, h18, h20, hg6, hg16, cs4]); subst hq
  exact Kr () rfl (.tmp rfl .nil) [] trivial
 intro h18
 have h23 := not_false h18
 refine Oq (Vfa fo85_0 0) (Oq (VfaF fo39_0 0) (Oq (VldF sh3 0) (Oq (Vfa fo85_1 0) (Oq (VfaF fo39_0 0) (Oq (VldF sh3 0) (Oq Vneq (Oq Vpf (Oq Vm ?_))))))))
 refine Js 24 ?_ ?_
 ·intro h25
  have g26 := ne_of_bne h25
  refine Osk (Osk (Osk (Osk (Oq Vpt (KS ?_)))))
  refine Kt (KS ?_)
  refine Oq Va (KS ?_)
  have hq := q4 hrr false (by simp only [tf_Valid, h8, h13, h18, h23, h25, hg6, hg16, cs4]); subst hq
  exact Kr () rfl (.tmp rfl .nil) [] trivial
 intro h25
 have g27 := eq_of_bne_false h25
 refine Oq (Vfa fo85_2 0) (Oq (VldF sh83 0) (Oq (Vlen sl83) (Oq Vgtr (Oq Vpf (KS ?_)))))
 refine Kc ?_ ?_
 ·intro h28
  have g29 := dt h28
  refine KS ?_
  refine Oq Va (KS ?_)
  have hq := q4 hrr false (by simp only [tf_Valid, h8, h13, h18, h23, h25, h28, hg6, hg16, cs4]); subst hq
  exact Kr () rfl (.tmp rfl .nil) [] trivial
 intro h28
 have g30 := df h28
 refine KS ?_
 refine Oq (Vfa fo85_2 0) (Oq (VldF sh83 0) (Oq (Vlen sl83) (Oq Vm (KS ?_))))
 refine Kl (γ := Nat × Int) (fun (r31, v33_32) => ⟨[(1, p4), (31, vl ta4 tk4 t.Copies), (32, vi (t.Copies.length : Int)), (33, vi v33_32)], [pv p4 [vi t.Gen.Width, vl ta1 tk1 t.Gen.Words, vi t.Kill.Width, vl ta3 tk3 t.Kill.Words, vl ta4 tk4 t.Copies], S ta1 tk1 t.Gen.Words, S ta3 tk3 t.Kill.Words, S ta4 tk4 t.Copies], tf_Valid_L0 t r31 v33_32 = tf_Valid_L0 t (((t.Copies.length : Int) - 0).toNat) 0 ∧ r31 = ((t.Copies.length : Int) - v33_32).toNat ∧ (0 : Int) ≤ v33_32 ∧ v33_32 ≤ (t.Copies.length : Int) ∧ (-9223372036854775808 ≤ v33_32 ∧ v33_32 ≤ 9223372036854775807), r31⟩) (((t.Copies.length : Int) - 0).toNat, 0) [0, 1, 2, 3] ⟨rfl, rfl, aM1, aM1, aM1⟩ ?_
 rintro ⟨r31, v33_32⟩ ⟨hM33, hr34, hi35, hi36, hk37⟩
 refine JJ_nx fun _ _ hL hA => ?_; dsimp only at hL hA; subst hL hA
 refine Fb 8 1 fun _ => Fb 8 2 fun _ => Fb 16 3 fun _ => KS ?_
 refine Oq Vlss (KS ?_)
 refine Kc ?_ ?_
 ·intro h41
  have g42 := dt h41
  obtain ⟨r43, rfl⟩ := scc (n := r31) aM1
  refine KS ?_
  refine Oq Vm (Oq (Vi sl83 3) ?_)
  refine JJ_peek_GCopy v33_32.toNat 3 rfl rng fun hb44 hb45 => ?_
  unfold i64ok at hb44 hb45
  refine Oq (VldA sh108 0) (Oa (Al ze108 [vi 0, vi 0]) fun p46 => Oq Va (Ost (Scl [0] sh108 [vi ((t.Copies.getD v33_32.toNat default).From), vi ((t.Copies.getD v33_32.toNat default).To)]) (KS ?_)))
  refine Jp 0 fun hp47 => ?_
  refine letv (tf_bit t ((t.Copies.getD v33_32.toNat default).From)) fun rv48 hg49 => ?_
  refine bool_split (!rv48) ?_ ?_
  ·intro h50
   have h52 := not_true h50
   refine JK_drawK [0, 0, 2, 7, 15, 31, 63, 63, 191, 511, 1023, 2047, 4095, 8191, 16383, 32767, 65535, 131071, 65535, 327679, 1048575, 2097151, 65535, 8388607, 16777215, 33554431, 67108863] fmix ?_
   refine Dv [3] (VldA sh85 0) (Dv [0] (Vfa fo108_0 0) (Dv [1] (VldF sh3 0) (Dx [4, 5, 6] [] [1, 2, 3, 0] (fun G => vb rv48) [fun G => SP.fact (True)] (fun G => xC [0, 1, 2] ca178 (fn178 t ta1 tk1 ta3 tk3 ta4 tk4 ((t.Copies.getD v33_32.toNat default).From) pre pre pre rv48 hg49)) (Db h50 [] Vnot (Dv [] Vm (Ds (Ds (Ds (Ds ?_)))))))))
   refine Ds (Dv [] Vpt (Dv [] Vm (Ds (Ds (Ds (Ds (Ds (Ds (Ds ?_)))))))))
   refine Ds (Ds (Ds (Ds (Ds (Ds (Dv [] Vpt ?_))))))
   refine Dn ⟨by kernel_rfl, fun G => ?_⟩
   refine Jw2 [(1, p4), (31, vl ta4 tk4 t.Copies), (32, vi (t.Copies.length : Int)), (33, vi v33_32), (64, vb true)] [0, 1, 2, 3, 4, 5, 6] [SP.fact (True)] ?_
   refine Jk [1, 1, 2, 3, 4, 5] (Kt ?_)
   refine KS ?_
   refine Oq Va (KS ?_)
   have hR54 := q2 hM33 (.ret false) (by simp only [tf_Valid_L0, h41, h50, h52, hg49, cs4])
   have hq := q4 hrr false (by simp only [tf_Valid, h8, h13, h18, h23, h25, h28, h41, h50, h52, hg6, hg16, hg49, hR54, cs4]); subst hq
   exact Kr () rfl (.tmp rfl .nil) [] trivial
  intro h50
  have h56 := not_false h50
  refine letv (tf_bit t ((t.Copies.getD v33_32.toNat default).To)) fun rv58 hg59 => ?_
  refine bool_split (!rv58) ?_ ?_
  ·intro h60
   have h62 := not_true h60
   refine JK_drawK [0, 0, 2, 7, 15, 31, 63, 63, 191, 511, 1023, 2047, 4095, 8191, 16383, 32767, 65535, 131071, 65535, 327679, 1048575, 2097151, 65535, 8388607, 16777215, 33554431, 67108863] fmix ?_
   refine Dv [3] (VldA sh85 0) (Dv [0] (Vfa fo108_0 0) (Dv [1] (VldF sh3 0) (Dx [4, 5, 6] [] [1, 2, 3, 0] (fun G => vb rv48) [fun G => SP.fact (True)] (fun G => xC [0, 1, 2] ca178 (fn178 t ta1 tk1 ta3 tk3 ta4 tk4 ((t.Copies.getD v33_32.toNat default).From) pre pre pre rv48 hg49)) (Db h50 [] Vnot (Dv [] Vm (Dv [3] (VldA sh85 0) (Dv [0] (Vfa fo108_1 0) (Dv [1] (VldF sh3 0) (Dx [4, 5, 6] [] [1, 2, 3, 0] (fun G => vb rv58) [fun G => SP.fact (True)] (fun G => xC [0, 1, 2] ca178 (fn178 t ta1 tk1 ta3 tk3 ta4 tk4 ((t.Copies.getD v33_32.toNat default).To) pre pre pre rv58 hg59)) ?_)))))))))
   refine Db h60 [] Vnot (Dv [] Vpf (Dv [] Vm (Ds (Ds (Ds (Ds (Ds (Ds (Ds ?_)))))))))
   refine Ds (Ds (Ds (Ds (Ds (Ds (Dv [] Vpt ?_))))))
   refine Dn ⟨by kernel_rfl, fun G => ?_⟩
   refine Jw2 [(1, p4), (31, vl ta4 tk4 t.Copies), (32, vi (t.Copies.length : Int)), (33, vi v33_32), (64, vb true)] [0, 1, 2, 3, 4, 5, 6] [SP.fact (True), SP.fact (True)] ?_
   refine Jk [1, 1, 2, 3, 4, 5] (Kt ?_)
   refine KS ?_
   refine Oq Va (KS ?_)
   have hR64 := q2 hM33 (.ret false) (by simp only [tf_Valid_L0, h41, h50, h56, h60, h62, hg49, hg59, cs4])
   have hq := q4 hrr false (by simp only [tf_Valid, h8, h13, h18, h23, h25, h28, h41, h50, h56, h60, h62, hg6, hg16, hg49, hg59, hR64, cs4]); subst hq
   exact Kr () rfl (.tmp rfl .nil) [] trivial
  intro h60
  have h66 := not_false h60
  refine bool_split (decide (0 < v33_32)) ?_ ?_
  ·intro h68
   have g69 := dt h68
   refine JJ_peek_GCopy ((v33_32 - 1) : Int).toNat 6 rfl rng fun hb70 hb71 => ?_
   unfold i64ok at hb70 hb71
   refine JK_drawK [0, 0, 2, 7, 15, 31, 63, 63, 191, 511, 1023, 2047, 4095, 8191, 16383, 32767, 65535, 131071, 65535, 327679, 1048575, 2097151, 65535, 8388607, 16777215, 33554431, 67108863] fmix ?_
   refine Dv [4] (VldA sh85 0) (Dv [1] (Vfa fo108_0 0) (Dv [2] (VldF sh3 0) (Dx [5, 6, 7] [] [1, 2, 3, 0] (fun G => vb rv48) [fun G => SP.fact (True)] (fun G => xC [0, 1, 2] ca178 (fn178 t ta1 tk1 ta3 tk3 ta4 tk4 ((t.Copies.getD v33_32.toNat default).From) pre pre pre rv48 hg49)) (Db h50 [] Vnot (Dv [] Vm (Dv [4] (VldA sh85 0) (Dv [1] (Vfa fo108_1 0) (Dv [2] (VldF sh3 0) (Dx [5, 6, 7] [] [1, 2, 3, 0] (fun G => vb rv58) [fun G => SP.fact (True)] (fun G => xC [0, 1, 2] ca178 (fn178 t ta1 tk1 ta3 tk3 ta4 tk4 ((t.Copies.getD v33_32.toNat default).To) pre pre pre rv58 hg59)) ?_)))))))))
   refine Db h60 [] Vnot (Dv [] Vpf (Dv [] Vm (Dv [] Vm (Db h68 [] Vgtr (Dv [] Vm (Dv [4] (Vfa fo85_2 0) (Dv [4] (VldF sh83 0) (Dv [] Vm (Dv [] Vsub ?_)))))))))
   refine Dv [7] (Vi sl83 0) (Dv [0] (VldA sh108 0) (Dv [2] (VldA sh108 0) ?_))
   refine letv (tf_compare (t.Copies.getD ((v33_32 - 1) : Int).toNat default) (t.Copies.getD v33_32.toNat default)) fun rv72 hg73 => ?_
   refine Dx [] [] [0] (fun G => vi rv72) [fun G => SP.fact (i64ok rv72)] (fun G => xC [] ca179 (fn179 ((t.Copies.getD ((v33_32 - 1) : Int).toNat default)) ((t.Copies.getD v33_32.toNat default)) pre pre pre pre rv72 hg73)) (Dv [] Vgeq (Dv [] Vpt (Dv [] Vpf ?_)))
   refine Dn ⟨by kernel_rfl, fun G => ?_⟩
   refine Jw2 [(1, p4), (31, vl ta4 tk4 t.Copies), (32, vi (t.Copies.length : Int)), (33, vi v33_32), (64, vb (decide (0 ≤ rv72)))] [0, 1, 2, 3, 4, 5, 6, 7] [SP.fact (True), SP.fact (True), SP.fact (i64ok rv72)] ?_
   refine Jf 10 rfl ?_; rintro he74
   unfold i64ok at he74
   refine Jk [0, 2, 2, 3, 4, 5, 6] ?_
   refine Kc ?_ ?_
   ·intro h75
    have g76 := dt h75
    refine KS ?_
    refine Oq Va (KS ?_)
    have hR77 := q2 hM33 (.ret false) (by simp only [tf_Valid_L0, h41, h50, h56, h60, h66, h68, h75, hg49, hg59, hg73, cs4])
    have hq := q4 hrr false (by simp only [tf_Valid, h8, h13, h18, h23, h25, h28, h41, h50, h56, h60, h66, h68, h75, hg6, hg16, hg49, hg59, hg73, hR77, cs4]); subst hq
    exact Kr () rfl (.tmp rfl .nil) [] trivial
   intro h75
   have g78 := df h75
   refine KS ?_
   refine Oq Vadd (Oq Vm (KS ?_))
   exact Kg (r43, (v33_32 + 1)) [3, 4, 5, 6] ⟨(q3 hM33 (by simp only [tf_Valid_L0, h41, h50, h56, h60, h66, h68, h75, hg49, hg59, hg73, cs4])), aM1, aM1, aM1, aM1⟩
  intro h68
  have g79 := df h68
  refine JK_drawK [0, 0, 2, 7, 15, 31, 63, 63, 191, 511, 1023, 2047, 4095, 8191, 16383, 32767, 65535, 131071, 65535, 327679, 1048575, 2097151, 65535, 8388607, 16777215, 33554431, 67108863] fmix ?_
  refine Dv [3] (VldA sh85 0) (Dv [0] (Vfa fo108_0 0) (Dv [1] (VldF sh3 0) (Dx [4, 5, 6] [] [1, 2, 3, 0] (fun G => vb rv48) [fun G => SP.fact (True)] (fun G => xC [0, 1, 2] ca178 (fn178 t ta1 tk1 ta3 tk3 ta4 tk4 ((t.Copies.getD v33_32.toNat default).From) pre pre pre rv48 hg49)) (Db h50 [] Vnot (Dv [] Vm (Dv [3] (VldA sh85 0) (Dv [0] (Vfa fo108_1 0) (Dv [1] (VldF sh3 0) (Dx [4, 5, 6] [] [1, 2, 3, 0] (fun G => vb rv58) [fun G => SP.fact (True)] (fun G => xC [0, 1, 2] ca178 (fn178 t ta1 tk1 ta3 tk3 ta4 tk4 ((t.Copies.getD v33_32.toNat default).To) pre pre pre rv58 hg59)) ?_)))))))))
  refine Db h60 [] Vnot (Dv [] Vpf (Dv [] Vm (Dv [] Vm (Db h68 [] Vgtr (Dv [] Vm (Ds (Ds (Ds (Ds ?_)))))))))
  refine Ds (Ds (Ds (Ds (Ds (Dv [] Vpf (Dv [] Vpf ?_))))))
  refine Dn ⟨by kernel_rfl, fun G => ?_⟩
  refine Jw2 [(1, p4), (31, vl ta4 tk4 t.Copies), (32, vi (t.Copies.length : Int)), (33, vi v33_32), (64, vb false)] [0, 1, 2, 3, 4, 5, 6] [SP.fact (True), SP.fact (True)] ?_
  refine Jk [1, 1, 2, 3, 4, 5] (Kf ?_)
  refine KS ?_
  refine Oq Vadd (Oq Vm (KS ?_))
  exact Kg (r43, (v33_32 + 1)) [2, 3, 4, 5] ⟨(q3 hM33 (by simp only [tf_Valid_L0, h41, h50, h56, h60, h66, h68, hg49, hg59, cs4])), aM1, aM1, aM1, aM1⟩
 intro h41
 have g80 := df h41
 obtain rfl : r31 = 0 := by omega
 refine Ke ?_
 have hR81 := q2 hM33 (.brk ()) (by simp only [tf_Valid_L0, h41, cs4])
 refine KS ?_
 refine Oq Va (KS ?_)
 have hq := q4 hrr true (by simp only [tf_Valid, h8, h13, h18, h23, h25, h28, h41, hg6, hg16, hR81, cs4]); subst hq
 exact Kr () rfl (.tmp rfl .nil) [] trivial
theorem fn156 (width : Int) (f : GTransfer) (fa1 : Option Addr) (fk1 : Nat) (fa3 : Option Addr) (fk3 : Nat) (fa4 : Option Addr) (fk4 : Nat) (hwidth_0 : i64ok width) (hf_0 : i64ok f.Gen.Width) (hf_2 : i64ok f.Kill.Width) (rr : Bool) (hrr : eq_fits width f = rr) : FT Tryz.prog 156 #[vi width, .agg #[vi f.Gen.Width, vl fa1 fk1 f.Gen.Words, vi f.Kill.Width, vl fa3 fk3 f.Kill.Words, vl fa4 fk4 f.Copies]] [S fa1 fk1 f.Gen.Words, S fa3 fk3 f.Kill.Words, S fa4 fk4 f.Copies] (fun g : Unit => True) (fun g => vb rr) (fun g => []) := by
 refine FTi Tryz.func156 fun w0 M0 F0 => ?_
 unfold i64ok at hwidth_0 hf_0 hf_2
 refine Fb 8 0 fun _ => Fb 8 1 fun _ => Fb 16 2 fun _ => KS ?_
 refine Oa (Ab [vi f.Gen.Width, vl fa1 fk1 f.Gen.Words, vi f.Kill.Width, vl fa3 fk3 f.Kill.Words, vl fa4 fk4 f.Copies]) fun p4 => Oq Va (KS ?_)
 refine Oq (VldA sh85 0) ?_
 refine letv (tf_Valid f) fun rv5 hg6 => ?_
 have hc7 := fn162 f fa1 fk1 fa3 fk3 fa4 fk4 pre pre rv5 hg6
 refine Oc [1, 2, 3] ca162 hc7 ?_
 rintro - -
 refine Oq Vm ?_
 refine Js 7 ?_ ?_
 ·intro h8
  refine Oq (Vfa fo85_0 0) (Oq (VfaF fo39_0 0) (Oq (VldF sh3 0) (Oq Vm (Oq Veql (Oq Vpt (Oq Va (KS ?_)))))))
  have hq := q4 hrr (f.Gen.Width == width) (by simp only [eq_fits, h8, hg6, cs4]); subst hq
  exact Kr () rfl (.tmp rfl .nil) [] trivial
 intro h8
 refine Osk (Osk (Osk (Osk (Osk (Oq Vpf (Oq Va (KS ?_)))))))
 have hq := q4 hrr false (by simp only [eq_fits, h8, hg6, cs4]); subst hq
 exact Kr () rfl (.tmp rfl .nil) [] trivial
theorem fn155 (f : GTransfer) (fa1 : Option Addr) (fk1 : Nat) (fa3 : Option Addr) (fk3 : Nat) (fa4 : Option Addr) (fk4 : Nat) (cap0P : Value) (cap0 : GSystem) (cap0a1 : Option Addr) (cap0k1 : Nat) (cap0a2 : Option Addr) (cap0k2 : Nat) (cap0a3 : Option Addr) (cap0k3 : Nat) (hf_0 : i64ok f.Gen.Width) (hf_2 : i64ok f.Kill.Width) (hcap0_0 : i64ok cap0.Width) (rr : Bool) (hrr : eq_Valid_1 f cap0 = rr) : FT Tryz.prog 155 #[.agg #[vi f.Gen.Width, vl fa1 fk1 f.Gen.Words, vi f.Kill.Width, vl fa3 fk3 f.Kill.Words, vl fa4 fk4 f.Copies], cap0P] [S fa1 fk1 f.Gen.Words, S fa3 fk3 f.Kill.Words, S fa4 fk4 f.Copies, pv cap0P [vi cap0.Width, vl cap0a1 cap0k1 cap0.Deps, vl cap0a2 cap0k2 cap0.Transfers, vl cap0a3 cap0k3 cap0.Boundary], S cap0a1 cap0k1 cap0.Deps, S cap0a2 cap0k2 cap0.Transfers, S cap0a3 cap0k3 cap0.Boundary] (fun g : Unit => True) (fun g => vb rr) (fun g => []) := by
 refine FTi Tryz.func155 fun w0 M0 F0 => ?_
 unfold i64ok at hf_0 hf_2 hcap0_0
 refine Fb 8 0 fun _ => Fb 8 1 fun _ => Fb 16 2 fun _ => Fb 24 4 fun _ => Fb 88 5 fun _ => Fb 32 6 fun _ => KS ?_
 refine Oa (Ab [vi f.Gen.Width, vl fa1 fk1 f.Gen.Words, vi f.Kill.Width, vl fa3 fk3 f.Kill.Words, vl fa4 fk4 f.Copies]) fun p7 => Oq Va (KS ?_)
 refine Oq (Vfa fo32_0 4) (Oq (VldF sh3 4) (Oq (VldA sh85 0) ?_))
 refine letv (eq_fits cap0.Width f) fun rv8 hg9 => ?_
 have hc10 := fn156 cap0.Width f fa1 fk1 fa3 fk3 fa4 fk4 pre pre pre rv8 hg9
 refine Oc [1, 2, 3] ca156 hc10 ?_
 rintro - -
 refine Oq Vnot (Oq Va (KS ?_))
 have hq := q4 hrr (!rv8) (by simp only [eq_Valid_1, hg9, cs4]); subst hq
 exact Kr () rfl (.tmp rfl .nil) [] trivial
theorem fn117 (s : GSystem) (sa1 : Option Addr) (sk1 : Nat) (sa2 : Option Addr) (sk2 : Nat) (sa3 : Option Addr) (sk3 : Nat) (hs_0 : i64ok s.Width) (rr : Bool) (hrr : eq_Valid s = rr) : FT Tryz.prog 117 #[.agg #[vi s.Width, vl sa1 sk1 s.Deps, vl sa2 sk2 s.Transfers, vl sa3 sk3 s.Boundary]] [S sa1 sk1 s.Deps, S sa2 sk2 s.Transfers, S sa3 sk3 s.Boundary] (fun g : Unit => True) (fun g => vb rr) (fun g => []) := by
 refine FTi Tryz.func117 fun w0 M0 F0 => ?_
 unfold i64ok at hs_0
 refine Fb 24 0 fun _ => Fb 88 1 fun _ => Fb 32 2 fun _ => KS ?_
 refine Oa (Ab [vi s.Width, vl sa1 sk1 s.Deps, vl sa2 sk2 s.Transfers, vl sa3 sk3 s.Boundary]) fun p4 => Oq Va (KS ?_)
 refine Oq (Vfa fo32_1 0) (Oq (VldF sh29 0) (Oq (Vlen sl29) (Oq Va (KS ?_))))
 refine Oq (Vfa fo32_0 0) (Oq (VldF sh3 0) (Oq Vm ?_))
 refine letv (eq_sized s.Width (s.Deps.length : Int)) fun rv5 hg6 => ?_
 have hc7 := fn151 s.Width ((s.Deps.length : Int)) pre pre rv5 hg6
 refine Oc [] ca151 hc7 ?_
 rintro - -
 refine Oq Vnot (Oq Vm ?_)
 refine Js 15 ?_ ?_
 ·intro h8
  have h10 := not_true h8
  refine Osk (Osk (Osk (Osk (Osk (Oq Vpt (Oq Vm (Osk (Osk (Osk ?_)))))))))
  refine Osk (Osk (Oq Vpt (KS ?_)))
  refine Kt (KS ?_)
  refine Oq Va (KS ?_)
  have hq := q4 hrr false (by simp only [eq_Valid, h8, h10, hg6, cs4]); subst hq
  exact Kr () rfl (.tmp rfl .nil) [] trivial
 intro h8
 have h13 := not_false h8
 refine Oq (Vfa fo32_2 0) (Oq (VldF sh30 0) (Oq (Vlen sl30) (Oq Vm (Oq Vneq (Oq Vpf (Oq Vm ?_))))))
 refine Js 22 ?_ ?_
 ·intro h15
  have g16 := ne_of_bne h15
  refine Osk (Osk (Osk (Osk (Osk (Oq Vpt (KS ?_))))))
  refine Kt (KS ?_)
  refine Oq Va (KS ?_)
  have hq := q4 hrr false (by simp only [eq_Valid, h8, h13, h15, hg6, cs4]); subst hq
  exact Kr () rfl (.tmp rfl .nil) [] trivial
 intro h15
 have g17 := eq_of_bne_false h15
 refine Oq (Vfa fo32_3 0) (Oq (VldF sh24 0) (Oq (Vlen sl24) (Oq Vm (Oq Vneq (Oq Vpf (KS ?_))))))
 refine Kc ?_ ?_
 ·intro h18
  have g19 := ne_of_bne h18
  refine KS ?_
  refine Oq Va (KS ?_)
  have hq := q4 hrr false (by simp only [eq_Valid, h8, h13, h15, h18, hg6, cs4]); subst hq
  exact Kr () rfl (.tmp rfl .nil) [] trivial
 intro h18
 have g20 := eq_of_bne_false h18
 refine KS ?_
 refine Oq Va (KS ?_)
 refine Oq (Vfa fo32_1 0) (Oq (VldF sh29 0) (Oq (Vlen sl29) (Oq Vm (KS ?_))))
 refine Kl (γ := Nat × Int × Int) (fun (r21, edges_22, v32_23) => ⟨[(1, p4), (3, vi (s.Deps.length : Int)), (4, vi edges_22), (30, vl sa1 sk1 s.Deps), (31, vi (s.Deps.length : Int)), (32, vi v32_23)], [pv p4 [vi s.Width, vl sa1 sk1 s.Deps, vl sa2 sk2 s.Transfers, vl sa3 sk3 s.Boundary], S sa1 sk1 s.Deps, S sa2 sk2 s.Transfers, S sa3 sk3 s.Boundary], eq_Valid_L0 s r21 edges_22 v32_23 = eq_Valid_L0 s (((s.Deps.length : Int) - 0).toNat) 0 0 ∧ r21 = ((s.Deps.length : Int) - v32_23).toNat ∧ (0 : Int) ≤ v32_23 ∧ v32_23 ≤ (s.Deps.length : Int) ∧ (-9223372036854775808 ≤ edges_22 ∧ edges_22 ≤ 9223372036854775807) ∧ (-9223372036854775808 ≤ v32_23 ∧ v32_23 ≤ 9223372036854775807) ∧ 0 ≤ edges_22 ∧ edges_22 ≤ 1024, r21⟩) (((s.Deps.length : Int) - 0).toNat, 0, 0) [0, 1, 2, 3] ⟨rfl, rfl, aM1, aM1, aM1, aM1, iv0⟩ ?_
 rintro ⟨r21, edges_22, v32_23⟩ ⟨hM24, hr25, hi26, hi27, hk28, hk29, hv30⟩
 refine JJ_nx fun _ _ hL hA => ?_; dsimp only at hL hA; subst hL hA
 refine Fb 24 1 fun _ => Fb 88 2 fun _ => Fb 32 3 fun _ => KS ?_
 refine Oq Vlss (KS ?_)
 refine Kc ?_ ?_
 ·intro h34
  have g35 := dt h34
  obtain ⟨r36, rfl⟩ := scc (n := r21) aM1
  refine KS ?_
  refine Oq (Vi sl29 1) ?_
  refine JJ_peekL v32_23.toNat 1 rfl rng fun a37 k38 => ?_
  refine Fb 8 1 fun _ => Fo 1 fun ho40 => ?_
  refine Oq (Vld sh22 0) (Oq Va (KS ?_))
  refine Oq Vm (Oq Vm (Oq (Vlen sl22) (Oq Vadd (Oq Va (KS ?_)))))
  refine Oq Vm (Oq Vgtr (Oq Vm ?_))
  refine Js 42 ?_ ?_
  ·intro h41
   have g42 := dt h41
   refine Osk (Osk (Osk (Osk (Oq Vpt (KS ?_)))))
   refine Kt (KS ?_)
   refine Oq Va (KS ?_)
   have hR43 := q2 hM24 (.ret false) (by simp only [eq_Valid_L0, h34, h41, cs4])
   have hq := q4 hrr false (by simp only [eq_Valid, h8, h13, h15, h18, h34, h41, hg6, hR43, cs4]); subst hq
   exact Kr () rfl (.tmp rfl .nil) [] trivial
  intro h41
  have g44 := df h41
  refine Oq Vm (Oq Vm ?_)
  refine letv (eq_ascending (s.Deps.getD v32_23.toNat []) (s.Deps.length : Int)) fun rv45 hg46 => ?_
  have hc47 := fn152 ((s.Deps.getD v32_23.toNat [])) a37 k38 ((s.Deps.length : Int)) pre rv45 hg46
  refine Oc [1] ca152 hc47 ?_
  rintro - -
  refine Oq Vnot (Oq Vpf (KS ?_))
  refine Kc ?_ ?_
  ·intro h48
   have h50 := not_true h48
   refine KS ?_
   refine Oq Va (KS ?_)
   have hR52 := q2 hM24 (.ret false) (by simp only [eq_Valid_L0, h34, h41, h48, h50, hg46, cs4])
   have hq := q4 hrr false (by simp only [eq_Valid, h8, h13, h15, h18, h34, h41, h48, h50, hg6, hg46, hR52, cs4]); subst hq
   exact Kr () rfl (.tmp rfl .nil) [] trivial
  intro h48
  have h54 := not_false h48
  refine KS ?_
  refine Oq Vadd (Oq Vm (KS ?_))
  exact Kg (r36, (edges_22 + ((s.Deps.getD v32_23.toNat []).length : Int)), (v32_23 + 1)) [2, 3, 4, 5] ⟨(q3 hM24 (by simp only [eq_Valid_L0, h34, h41, h48, h54, hg46, cs4])), aM1, aM1, aM1, aM1, aM1, iv1⟩
 intro h34
 have g56 := df h34
 obtain rfl : r21 = 0 := by omega
 refine Ke ?_
 have hR57 := q2 hM24 (.brk ()) (by simp only [eq_Valid_L0, h34, cs4])
 refine KS ?_
 refine Oq (Vfa fo32_0 0) (Oq (VldF sh3 0) (Oq (Vfa fo32_3 0) (Oq (VldF sh24 0) ?_)))
 refine letv (eq_sets s.Width s.Boundary) fun rv58 hg59 => ?_
 have hc60 := fn153 s.Width s.Boundary sa3 sk3 pre rv58 hg59
 refine Oc [3] ca153 hc60 ?_
 rintro - -
 refine Oq Vm ?_
 refine Js 54 ?_ ?_
 ·intro h61
  refine Oq (Vfa fo32_2 0) (Oq (VldF sh30 0) (Oq (Vf [p4]) ?_))
  refine JJ_ent (Ent.pall [0, 1, 2, 3] rfl rfl) ?_
  refine letv (sc_ContainsFunc_Transfer s.Transfers (fun x => eq_Valid_1 x s)) fun rv63 hg64 => ?_
  have hc65 := fn154 s.Transfers sa2 sk2 155 [p4] (fun x => eq_Valid_1 x s) [pv p4 [vi s.Width, vl sa1 sk1 s.Deps, vl sa2 sk2 s.Transfers, vl sa3 sk3 s.Boundary], S sa1 sk1 s.Deps, S sa2 sk2 s.Transfers, S sa3 sk3 s.Boundary] ca155 (fun x hx a1 k1 a3 k3 a4 k4 hq0 hq2 => FT_pall (A1 := _) (fn155 x a1 k1 a3 k3 a4 k4 p4 s sa1 sk1 sa2 sk2 sa3 sk3 hq0 hq2 pre _ rfl)) rv63 hg64
  refine Oc [3, 0] ca154 hc65 ?_
  rintro - -
  refine Oq Vnot (Oq Vpt (Oq Va (KS ?_)))
  have hq := q4 hrr (!rv63) (by simp only [eq_Valid, h8, h13, h15, h18, h34, h61, hg6, hR57, hg59, hg64, cs4]); subst hq
  exact Kr () rfl (.tmp rfl .nil) [] trivial
 intro h61
 refine Osk (Osk (Osk (Osk (Osk (Oq Vpf (Oq Va (KS ?_)))))))
 have hq := q4 hrr false (by simp only [eq_Valid, h8, h13, h15, h18, h34, h61, hg6, hR57, hg59, cs4]); subst hq
 exact Kr () rfl (.tmp rfl .nil) [] trivial
theorem fn78 (s : GSystem) (sa1 : Option Addr) (sk1 : Nat) (sa2 : Option Addr) (sk2 : Nat) (sa3 : Option Addr) (sk3 : Nat) (k : List GKnown) (ka0 : Option Addr) (kk0 : Nat) (hs_0 : i64ok s.Width) (rr : Bool) (hrr : so_arguments s k = rr) : FT Tryz.prog 78 #[.agg #[vi s.Width, vl sa1 sk1 s.Deps, vl sa2 sk2 s.Transfers, vl sa3 sk3 s.Boundary], vl ka0 kk0 k] [S sa1 sk1 s.Deps, S sa2 sk2 s.Transfers, S sa3 sk3 s.Boundary, S ka0 kk0 k] (fun g : Unit => True) (fun g => vb rr) (fun g => []) := by
 refine FTi Tryz.func78 fun w0 M0 F0 => ?_
 unfold i64ok at hs_0
 refine Fb 24 0 fun _ => Fb 88 1 fun _ => Fb 32 2 fun _ => Fb 40 3 fun _ => KS ?_
 refine Oa (Ab [vi s.Width, vl sa1 sk1 s.Deps, vl sa2 sk2 s.Transfers, vl sa3 sk3 s.Boundary]) fun p5 => Oq Va (KS ?_)
 refine Oq (VldA sh32 0) ?_
 refine letv (eq_Valid s) fun rv6 hg7 => ?_
 have hc8 := fn117 s sa1 sk1 sa2 sk2 sa3 sk3 pre rv6 hg7
 refine Oc [1, 2, 3] ca117 hc8 ?_
 rintro - -
 refine Oq Vnot (KS ?_)
 refine Kc ?_ ?_
 ·intro h9
  have h11 := not_true h9
  refine KS ?_
  refine Oq Va (KS ?_)
  have hq := q4 hrr false (by simp only [so_arguments, h9, h11, hg7, cs4]); subst hq
  exact Kr () rfl (.tmp rfl .nil) [] trivial
 intro h9
 have h14 := not_false h9
 try (have hvs := (EValid_iff s).1 (by simp only [h9, h14, hg7]); have hv1 := hvs.n)
 refine KS ?_
 refine Oq Vm (Oq (Vlen sl88) (Oq Vm (KS ?_)))
 refine Kl (γ := Nat × Int) (fun (r16, v12_17) => ⟨[(1, vl ka0 kk0 k), (2, p5), (10, vl ka0 kk0 k), (11, vi (k.length : Int)), (12, vi v12_17)], [pv p5 [vi s.Width, vl sa1 sk1 s.Deps, vl sa2 sk2 s.Transfers, vl sa3 sk3 s.Boundary], S sa1 sk1 s.Deps, S sa2 sk2 s.Transfers, S sa3 sk3 s.Boundary, S ka0 kk0 k], so_arguments_L0 s k r16 v12_17 = so_arguments_L0 s k (((k.length : Int) - 0).toNat) 0 ∧ r16 = ((k.length : Int) - v12_17).toNat ∧ (0 : Int) ≤ v12_17 ∧ v12_17 ≤ (k.length : Int) ∧ (-9223372036854775808 ≤ v12_17 ∧ v12_17 ≤ 9223372036854775807), r16⟩) (((k.length : Int) - 0).toNat, 0) [0, 1, 2, 3, 4] ⟨rfl, rfl, aM1, aM1, aM1⟩ ?_
 rintro ⟨r16, v12_17⟩ ⟨hM18, hr19, hi20, hi21, hk22⟩
 refine JJ_nx fun _ _ hL hA => ?_; dsimp only at hL hA; subst hL hA
 refine Fb 24 1 fun _ => Fb 88 2 fun _ => Fb 32 3 fun _ => Fb 40 4 fun _ => KS ?_
 refine Oq Vlss (KS ?_)
 refine Kc ?_ ?_
 ·intro h27
  have g28 := dt h27
  obtain ⟨r29, rfl⟩ := scc (n := r16) aM1
  refine KS ?_
  refine Oq Vm (Oq (Vi sl88 4) ?_)
  refine JJ_peek_GKnown v12_17.toNat 4 rfl rng fun a30 k31 hb32 hb33 => ?_
  unfold i64ok at hb32 hb33
  refine Fb 8 1 fun _ => ?_
  refine Oq (VldA sh144 0) (Oa (Al ze144 [vi 0, vi 0, .slice none 0 0]) fun p35 => Oq Va (Ost (Scl [0] sh144 [vi ((k.getD v12_17.toNat default).Node), vi (((k.getD v12_17.toNat default).Value).Width), vl a30 k31 (((k.getD v12_17.toNat default).Value).Words)]) (KS ?_)))
  refine Jp 0 fun hp36 => ?_
  refine bool_split (decide ((k.getD v12_17.toNat default).Node < 0)) ?_ ?_
  ·intro h37
   have g38 := dt h37
   refine Kq [0, 1, 3, 7, 15, 31, 15, 79, 207, 511, 1023, 2047, 4095, 8191, 16383, 32767, 65535, 32767, 32767, 294911, 950271, 1998847, 4095999, 8388607, 16777215, 33554431, 67108863, 134217727, 268435455, 536870911, 1073741823, 2147483647, 4294967295, 8589934591, 17179869183, 34359738367, 8589934591, 77309411327, 274877906943, 549755813887] fmix ?_
   refine Qv [0] (Vfa fo144_0 0) (Qv [1] (VldF sh3 0) (Qb h37 [] Vlss (Qv [] Vm (Qs (Qs (Qs (Qs (Qs (Qs ?_)))))))))
   refine Qv [] Vpt (Qv [] Vm (Qs (Qs (Qs (Qs (Qs (Qs (Qs (Qs ?_)))))))))
   refine Qs (Qs (Qs (Qs (Qs (Qv [] Vpt (Qv [] Vm (Qs (Qs (Qs ?_)))))))))
   refine Qs (Qv [] Vpt (Qv [] Vm (Qs (Qs (Qs (Qs (Qs (Qs (Qv [] Vpt ?_)))))))))
   refine Qn ⟨by kernel_rfl, ?_⟩
   refine Kt (KS ?_)
   refine Oq Va (KS ?_)
   have hR39 := q2 hM18 (.ret false) (by simp only [so_arguments_L0, h27, h37, cs4])
   have hq := q4 hrr false (by simp only [so_arguments, h9, h14, h27, h37, hg7, hR39, cs4]); subst hq
   exact Kr () rfl (.tmp rfl .nil) [] trivial
  intro h37
  have g40 := df h37
  refine bool_split (decide ((s.Deps.length : Int) ≤ (k.getD v12_17.toNat default).Node)) ?_ ?_
  ·intro h41
   have g42 := dt h41
   refine Kq [0, 1, 3, 7, 15, 31, 15, 79, 207, 511, 1023, 2047, 4095, 8191, 16383, 32767, 65535, 32767, 32767, 294911, 950271, 1998847, 4095999, 8388607, 16777215, 33554431, 67108863, 134217727, 268435455, 536870911, 1073741823, 2147483647, 4294967295, 8589934591, 17179869183, 34359738367, 8589934591, 77309411327, 274877906943, 549755813887] fmix ?_
   refine Qv [0] (Vfa fo144_0 0) (Qv [1] (VldF sh3 0) (Qb h37 [] Vlss (Qv [] Vm (Qv [0] (Vfa fo144_0 0) (Qv [1] (VldF sh3 0) (Qv [4] (Vfa fo32_1 0) (Qv [4] (VldF sh29 0) (Qv [] (Vlen sl29) (Qb h41 [] Vgeq ?_)))))))))
   refine Qv [] Vpf (Qv [] Vm (Qs (Qs (Qs (Qs (Qs (Qs (Qs (Qs ?_)))))))))
   refine Qs (Qs (Qs (Qs (Qs (Qv [] Vpt (Qv [] Vm (Qs (Qs (Qs ?_)))))))))
   refine Qs (Qv [] Vpt (Qv [] Vm (Qs (Qs (Qs (Qs (Qs (Qs (Qv [] Vpt ?_)))))))))
   refine Qn ⟨by kernel_rfl, ?_⟩
   refine Kt (KS ?_)
   refine Oq Va (KS ?_)
   have hR43 := q2 hM18 (.ret false) (by simp only [so_arguments_L0, h27, h37, h41, cs4])
   have hq := q4 hrr false (by simp only [so_arguments, h9, h14, h27, h37, h41, hg7, hR43, cs4]); subst hq
   exact Kr () rfl (.tmp rfl .nil) [] trivial
  intro h41
  have g44 := df h41
  refine bool_split (decide (0 < v12_17)) ?_ ?_
  ·intro h45
   have g46 := dt h45
   refine JJ_peek_GKnown ((v12_17 - 1) : Int).toNat 8 rfl rng fun a47 k48 hb49 hb50 => ?_
   unfold i64ok at hb49 hb50
   refine Fb 8 1 fun _ => ?_
   refine JK_drawK [0, 1, 3, 7, 15, 31, 15, 79, 207, 511, 1023, 2047, 4095, 8191, 16383, 32767, 65535, 32767, 32767, 294911, 950271, 1998847, 4095999, 8388607, 16777215, 33554431, 67108863, 134217727, 268435455, 536870911, 1073741823, 2147483647, 4294967295, 8589934591, 17179869183, 34359738367, 8589934591, 77309411327, 274877906943, 549755813887] fmix ?_
   refine Dv [2] (Vfa fo144_0 0) (Dv [3] (VldF sh3 0) (Db h37 [] Vlss (Dv [] Vm (Dv [2] (Vfa fo144_0 0) (Dv [3] (VldF sh3 0) (Dv [6] (Vfa fo32_1 0) (Dv [6] (VldF sh29 0) (Dv [] (Vlen sl29) (Db h41 [] Vgeq ?_)))))))))
   refine Dv [] Vpf (Dv [] Vm (Dv [] Vm (Db h45 [] Vgtr (Dv [] Vm (Dv [2] (Vfa fo144_0 0) (Dv [3] (VldF sh3 0) (Dv [] Vm (Dv [] Vm (Dv [] Vsub ?_)))))))))
   refine Dv [10] (Vi sl88 0) (Dv [0] (Vfa fo144_0 0) (Dv [0] (VldF sh3 0) (Dv [] Vleq (Dv [] Vpt (Dv [] Vpf ?_)))))
   refine bool_split (decide ((k.getD v12_17.toNat default).Node ≤ (k.getD ((v12_17 - 1) : Int).toNat default).Node)) ?_ ?_
   ·intro h52
    have g53 := dt h52
    refine Db h52 [] Vm (Ds (Ds (Ds (Ds (Dv [] Vpt (Dv [] Vm (Ds (Ds (Ds ?_)))))))))
    refine Ds (Ds (Ds (Dv [] Vpt ?_)))
    refine Dn ⟨by kernel_rfl, fun G => ?_⟩
    refine Jw2 [(1, vl ka0 kk0 k), (2, p5), (10, vl ka0 kk0 k), (11, vi (k.length : Int)), (12, vi v12_17), (56, vb true)] [0, 1, 2, 3, 4, 5, 6, 7, 8, 9, 10] [] ?_
    refine Jk [0, 1, 3, 3, 4, 5, 6, 7, 8, 9] (Kt ?_)
    refine KS ?_
    refine Oq Va (KS ?_)
    have hR54 := q2 hM18 (.ret false) (by simp only [so_arguments_L0, h27, h37, h41, h45, h52, cs4])
    have hq := q4 hrr false (by simp only [so_arguments, h9, h14, h27, h37, h41, h45, h52, hg7, hR54, cs4]); subst hq
    exact Kr () rfl (.tmp rfl .nil) [] trivial
   intro h52
   have g55 := df h52
   refine Db h52 [] Vm (Dv [2] (Vfa fo144_1 0) (Dv [3] (VldG sh39 0 [vi (((k.getD v12_17.toNat default).Value).Width), vl a30 k31 (((k.getD v12_17.toNat default).Value).Words)]) ?_))
   refine letv (bt_Valid ((k.getD v12_17.toNat default).Value)) fun rv56 hg57 => ?_
   refine Dx [5] [] [1, 0] (fun G => vb rv56) [fun G => SP.fact (True)] (fun G => xC [0] ca72 (fn72 (((k.getD v12_17.toNat default).Value)) a30 k31 pre rv56 hg57)) (Dv [] Vnot (Dv [] Vpf ?_))
   refine bool_split (!rv56) ?_ ?_
   ·intro h58
    have h60 := not_true h58
    refine Db h58 [] Vm (Ds (Ds (Ds (Ds (Ds (Ds (Dv [] Vpt ?_)))))))
    refine Dn ⟨by kernel_rfl, fun G => ?_⟩
    refine Jw2 [(1, vl ka0 kk0 k), (2, p5), (10, vl ka0 kk0 k), (11, vi (k.length : Int)), (12, vi v12_17), (56, vb true)] [0, 1, 2, 3, 4, 5, 6, 7, 8, 9, 10] [SP.fact (True)] ?_
    refine Jk [0, 1, 3, 3, 4, 5, 6, 7, 8, 9] (Kt ?_)
    refine KS ?_
    refine Oq Va (KS ?_)
    have hR62 := q2 hM18 (.ret false) (by simp only [so_arguments_L0, h27, h37, h41, h45, h52, h58, h60, hg57, cs4])
    have hq := q4 hrr false (by simp only [so_arguments, h9, h14, h27, h37, h41, h45, h52, h58, h60, hg7, hg57, hR62, cs4]); subst hq
    exact Kr () rfl (.tmp rfl .nil) [] trivial
   intro h58
   have h64 := not_false h58
   try (have hvs := (EValid_iff s).1 (by simp only [h9, h14, h27, h37, h41, h45, h52, h58, h64, hg7, hg57]); have hv1 := hvs.n)
   refine Db h58 [] Vm (Dv [2] (Vfa fo144_1 0) (Dv [2] (VfaF fo39_0 0) (Dv [3] (VldF sh3 0) (Dv [6] (Vfa fo32_0 0) (Dv [6] (VldF sh3 0) (Dv [] Vneq (Dv [] Vpf ?_)))))))
   refine Dn ⟨by kernel_rfl, fun G => ?_⟩
   refine Jw2 [(1, vl ka0 kk0 k), (2, p5), (10, vl ka0 kk0 k), (11, vi (k.length : Int)), (12, vi v12_17), (56, vb (((k.getD v12_17.toNat default).Value).Width != s.Width))] [0, 1, 2, 3, 4, 5, 6, 7, 8, 9, 10] [SP.fact (True)] ?_
   refine Jk [0, 1, 3, 3, 4, 5, 6, 7, 8, 9] ?_
   refine Kc ?_ ?_
   ·intro h66
    have g67 := ne_of_bne h66
    refine KS ?_
    refine Oq Va (KS ?_)
    have hR68 := q2 hM18 (.ret false) (by simp only [so_arguments_L0, h27, h37, h41, h45, h52, h58, h64, h66, hg57, cs4])
    have hq := q4 hrr false (by simp only [so_arguments, h9, h14, h27, h37, h41, h45, h52, h58, h64, h66, hg7, hg57, hR68, cs4]); subst hq
    exact Kr () rfl (.tmp rfl .nil) [] trivial
   intro h66
   have g69 := eq_of_bne_false h66
   refine KS ?_
   refine Oq Vadd (Oq Vm (KS ?_))
   exact Kg (r29, (v12_17 + 1)) [5, 6, 7, 8, 9] ⟨(q3 hM18 (by simp only [so_arguments_L0, h27, h37, h41, h45, h52, h58, h64, h66, hg57, cs4])), aM1, aM1, aM1, aM1⟩
  intro h45
  have g70 := df h45
  refine JK_drawK [0, 1, 3, 7, 15, 31, 15, 79, 207, 511, 1023, 2047, 4095, 8191, 16383, 32767, 65535, 32767, 32767, 294911, 950271, 1998847, 4095999, 8388607, 16777215, 33554431, 67108863, 134217727, 268435455, 536870911, 1073741823, 2147483647, 4294967295, 8589934591, 17179869183, 34359738367, 8589934591, 77309411327, 274877906943, 549755813887] fmix ?_
  refine Dv [0] (Vfa fo144_0 0) (Dv [1] (VldF sh3 0) (Db h37 [] Vlss (Dv [] Vm (Dv [0] (Vfa fo144_0 0) (Dv [1] (VldF sh3 0) (Dv [4] (Vfa fo32_1 0) (Dv [4] (VldF sh29 0) (Dv [] (Vlen sl29) (Db h41 [] Vgeq ?_)))))))))
  refine Dv [] Vpf (Dv [] Vm (Dv [] Vm (Db h45 [] Vgtr (Dv [] Vm (Ds (Ds (Ds (Ds (Ds ?_)))))))))
  refine Ds (Ds (Ds (Ds (Dv [] Vpf (Dv [] Vpf (Dv [] Vm (Dv [0] (Vfa fo144_1 0) (Dv [1] (VldG sh39 0 [vi (((k.getD v12_17.toNat default).Value).Width), vl a30 k31 (((k.getD v12_17.toNat default).Value).Words)]) ?_))))))))
  refine letv (bt_Valid ((k.getD v12_17.toNat default).Value)) fun rv71 hg72 => ?_
  refine Dx [3] [] [1, 0] (fun G => vb rv71) [fun G => SP.fact (True)] (fun G => xC [0] ca72 (fn72 (((k.getD v12_17.toNat default).Value)) a30 k31 pre rv71 hg72)) (Dv [] Vnot (Dv [] Vpf ?_))
  refine bool_split (!rv71) ?_ ?_
  ·intro h73
   have h75 := not_true h73
   refine Db h73 [] Vm (Ds (Ds (Ds (Ds (Ds (Ds (Dv [] Vpt ?_)))))))
   refine Dn ⟨by kernel_rfl, fun G => ?_⟩
   refine Jw2 [(1, vl ka0 kk0 k), (2, p5), (10, vl ka0 kk0 k), (11, vi (k.length : Int)), (12, vi v12_17), (56, vb true)] [0, 1, 2, 3, 4, 5, 6, 7, 8] [SP.fact (True)] ?_
   refine Jk [1, 1, 2, 3, 4, 5, 6, 7] (Kt ?_)
   refine KS ?_
   refine Oq Va (KS ?_)
   have hR77 := q2 hM18 (.ret false) (by simp only [so_arguments_L0, h27, h37, h41, h45, h73, h75, hg72, cs4])
   have hq := q4 hrr false (by simp only [so_arguments, h9, h14, h27, h37, h41, h45, h73, h75, hg7, hg72, hR77, cs4]); subst hq
   exact Kr () rfl (.tmp rfl .nil) [] trivial
  intro h73
  have h79 := not_false h73
  try (have hvs := (EValid_iff s).1 (by simp only [h9, h14, h27, h37, h41, h45, h73, h79, hg7, hg72]); have hv1 := hvs.n)
  refine Db h73 [] Vm (Dv [0] (Vfa fo144_1 0) (Dv [0] (VfaF fo39_0 0) (Dv [1] (VldF sh3 0) (Dv [4] (Vfa fo32_0 0) (Dv [4] (VldF sh3 0) (Dv [] Vneq (Dv [] Vpf ?_)))))))
  refine Dn ⟨by kernel_rfl, fun G => ?_⟩
  refine Jw2 [(1, vl ka0 kk0 k), (2, p5), (10, vl ka0 kk0 k), (11, vi (k.length : Int)), (12, vi v12_17), (56, vb (((k.getD v12_17.toNat default).Value).Width != s.Width))] [0, 1, 2, 3, 4, 5, 6, 7, 8] [SP.fact (True)] ?_
  refine Jk [1, 1, 2, 3, 4, 5, 6, 7] ?_
  refine Kc ?_ ?_
  ·intro h81
   have g82 := ne_of_bne h81
   refine KS ?_
   refine Oq Va (KS ?_)
   have hR83 := q2 hM18 (.ret false) (by simp only [so_arguments_L0, h27, h37, h41, h45, h73, h79, h81, hg72, cs4])
   have hq := q4 hrr false (by simp only [so_arguments, h9, h14, h27, h37, h41, h45, h73, h79, h81, hg7, hg72, hR83, cs4]); subst hq
   exact Kr () rfl (.tmp rfl .nil) [] trivial
  intro h81
  have g84 := eq_of_bne_false h81
  refine KS ?_
  refine Oq Vadd (Oq Vm (KS ?_))
  exact Kg (r29, (v12_17 + 1)) [3, 4, 5, 6, 7] ⟨(q3 hM18 (by simp only [so_arguments_L0, h27, h37, h41, h45, h73, h79, h81, hg72, cs4])), aM1, aM1, aM1, aM1⟩
 intro h27
 have g85 := df h27
 obtain rfl : r16 = 0 := by omega
 refine Ke ?_
 have hR86 := q2 hM18 (.brk ()) (by simp only [so_arguments_L0, h27, cs4])
 refine KS ?_
 refine Oq Va (KS ?_)
 have hq := q4 hrr true (by simp only [so_arguments, h9, h14, h27, hg7, hR86, cs4]); subst hq
 exact Kr () rfl (.tmp rfl .nil) [] trivial
theorem fn79 (l : List Int) (la0 : Option Addr) (lk0 : Nat) (n : Int) (hn_0 : i64ok n) (hn0 : 0 ≤ n ∧ n ≤ 1000) (rr : Bool) (hrr : so_distinct l n = rr) : FT Tryz.prog 79 #[vl la0 lk0 l, vi n] [S la0 lk0 l] (fun g : Unit => True) (fun g => vb rr) (fun g => []) := by
 refine FTi Tryz.func79 fun w0 M0 F0 => ?_
 unfold i64ok at hn_0
 refine Fb 8 0 fun _ => Fo 0 fun ho2 => KS ?_
 refine Oq Va (KS ?_)
 refine Oq Vm (Oa (Amk (α := Bool) sl23 sz23 false (fun _ _ => rfl)) fun c3 => ?_)
 refine Jo 0 ?_; rintro a4 k5 rfl
 refine Fb 1 0 fun _ => ?_
 have hn7 := List.length_replicate (n := n.toNat) (a := (false : Bool))
 refine Oq Va (KS ?_)
 refine Oq Vm (Oq (Vlen sl22) (Oq Vm (KS ?_)))
 refine Kl (γ := Nat × List Bool × Int) (fun (r8, seen_9, v12_10) => ⟨[(1, vi n), (5, vl a4 k5 (List.replicate n.toNat false)), (10, vl la0 lk0 l), (11, vi (l.length : Int)), (12, vi v12_10)], [os (vl a4 k5 (List.replicate n.toNat false)) seen_9, S la0 lk0 l], so_distinct_L0 l n r8 seen_9 v12_10 = so_distinct_L0 l n (((l.length : Int) - 0).toNat) (List.replicate n.toNat false) 0 ∧ r8 = ((l.length : Int) - v12_10).toNat ∧ (0 : Int) ≤ v12_10 ∧ v12_10 ≤ (l.length : Int) ∧ (-9223372036854775808 ≤ v12_10 ∧ v12_10 ≤ 9223372036854775807) ∧ (seen_9.length : Int) = n, r8⟩) (((l.length : Int) - 0).toNat, (List.replicate n.toNat false), 0) [0, 0] ⟨rfl, rfl, aM1, aM1, aM1, iv0⟩ ?_
 rintro ⟨r8, seen_9, v12_10⟩ ⟨hM11, hr12, hi13, hi14, hk15, hv16⟩
 refine JJ_nx fun _ _ hL hA => ?_; dsimp only at hL hA; subst hL hA
 refine Fb 1 0 fun _ => Fl 0 fun hn18 => ?_
 refine Fb 8 1 fun _ => Fo 1 fun ho20 => KS ?_
 refine Oq Vlss (KS ?_)
 refine Kc ?_ ?_
 ·intro h21
  have g22 := dt h21
  obtain ⟨r23, rfl⟩ := scc (n := r8) aM1
  refine KS ?_
  refine Oq (Vi sl22 1) ?_
  have hb24 := ok1 (i := v12_10.toNat) ho20 rng
  refine Oq (VldI sh3 1) (Oq Va (KS ?_))
  refine Oq Vm (Oq Vlss (Oq Vm ?_))
  refine Js 18 ?_ ?_
  ·intro h25
   have g26 := dt h25
   refine Osk (Osk (Osk (Oq Vpt (Oq Vm (Osk (Osk (Osk (Osk (Oq Vpt ?_)))))))))
   refine KS ?_
   refine Kt (KS ?_)
   refine Oq Va (KS ?_)
   have hR27 := q2 hM11 (.ret false) (by simp only [so_distinct_L0, h21, h25, cs4])
   have hq := q4 hrr false (by simp only [so_distinct, h21, h25, hR27, cs4]); subst hq
   exact Kr () rfl (.tmp rfl .nil) [] trivial
  intro h25
  have g28 := df h25
  refine Oq Vm (Oq Vm (Oq Vgeq (Oq Vpf (Oq Vm ?_))))
  refine Js 23 ?_ ?_
  ·intro h29
   have g30 := dt h29
   refine Osk (Osk (Osk (Osk (Oq Vpt (KS ?_)))))
   refine Kt (KS ?_)
   refine Oq Va (KS ?_)
   have hR31 := q2 hM11 (.ret false) (by simp only [so_distinct_L0, h21, h25, h29, cs4])
   have hq := q4 hrr false (by simp only [so_distinct, h21, h25, h29, hR31, cs4]); subst hq
   exact Kr () rfl (.tmp rfl .nil) [] trivial
  intro h29
  have g32 := df h29
  refine Oq Vm (Oq Vm (Oq (Vi sl23 0) (Oq (VldB sh4 0) (Oq Vpf (KS ?_)))))
  refine Kc ?_ ?_
  ·intro h33
   refine KS ?_
   refine Oq Va (KS ?_)
   have hR35 := q2 hM11 (.ret false) (by simp only [so_distinct_L0, h21, h25, h29, h33, cs4])
   have hq := q4 hrr false (by simp only [so_distinct, h21, h25, h29, h33, hR35, cs4]); subst hq
   exact Kr () rfl (.tmp rfl .nil) [] trivial
  intro h33
  refine KS ?_
  refine Oq Vm (Oq Vm (Oq (Vi sl23 0) (Ost (SoB [0] sh4) (KS ?_))))
  refine Oq Vadd (Oq Vm (KS ?_))
  exact Kg (r23, (seen_9.set ((l.getD v12_10.toNat 0) : Int).toNat true), (v12_10 + 1)) [0, 0] ⟨(q3 hM11 (by simp only [so_distinct_L0, h21, h25, h29, h33, cs4])), aM1, aM1, aM1, aM1, iv1⟩
 intro h21
 have g37 := df h21
 obtain rfl : r8 = 0 := by omega
 refine Ke ?_
 have hR38 := q2 hM11 (.brk ()) (by simp only [so_distinct_L0, h21, cs4])
 refine KS ?_
 refine Oq Va (KS ?_)
 have hq := q4 hrr true (by simp only [so_distinct, h21, hR38, cs4]); subst hq
 exact Kr () rfl (.tmp rfl .nil) [] trivial
theorem fn157 (s : List GKnown) (sa0 : Option Addr) (sk0 : Nat) (fF : FuncId) (fC : List Value) (fp : GKnown → Bool) (fA : List SP) (hfc : callable Tryz.prog fF = true) (hfF : ∀ x ∈ s, ∀ (a2 : Option Addr) (k2 : Nat), i64ok x.Node → i64ok x.Value.Width → FT Tryz.prog fF ([(.agg #[vi x.Node, vi x.Value.Width, vl a2 k2 x.Value.Words] : Value)] ++ fC).toArray ([S a2 k2 x.Value.Words] ++ [pAll fA]) (fun _ : Unit => True) (fun _ => .bool (fp x)) (fun _ => [])) (rr : Int) (hrr : sc_IndexFunc_Known s fp = rr) : FT Tryz.prog 157 #[vl sa0 sk0 s, .func (.func fF) #[] fC.toArray] [S sa0 sk0 s, pAll fA] (fun g : Unit => i64ok rr ∧ (-1 ≤ rr ∧ rr < (s.length : Int))) (fun g => vi rr) (fun g => []) := by
 refine FTi Tryz.func157 fun w0 M0 F0 => Fb 40 0 fun _ => ?_
 refine KS ?_
 refine Oq Va (KS ?_)
 refine Oq Vm (Oq (Vlen sl88) (Oq Vm (KS ?_)))
 refine Kl (γ := Nat × Int) (fun (r2, v8_3) => ⟨[(0, vl sa0 sk0 s), (1, .func (.func fF) #[] fC.toArray), (7, vi (s.length : Int)), (8, vi v8_3)], [S sa0 sk0 s, pAll fA], sc_IndexFunc_Known_L0 s fp r2 v8_3 = sc_IndexFunc_Known_L0 s fp (((s.length : Int) - 0).toNat) 0 ∧ r2 = ((s.length : Int) - v8_3).toNat ∧ (0 : Int) ≤ v8_3 ∧ v8_3 ≤ (s.length : Int) ∧ (-9223372036854775808 ≤ v8_3 ∧ v8_3 ≤ 9223372036854775807), r2⟩) (((s.length : Int) - 0).toNat, 0) [0, 1] ⟨rfl, rfl, aM1, aM1, aM1⟩ ?_
 rintro ⟨r2, v8_3⟩ ⟨hM4, hr5, hi6, hi7, hk8⟩
 refine JJ_nx fun _ _ hL hA => ?_; dsimp only at hL hA; subst hL hA
 refine Fb 40 0 fun _ => KS ?_
 refine Oq Vlss (KS ?_)
 refine Kc ?_ ?_
 ·intro h10
  have g11 := dt h10
  obtain ⟨r12, rfl⟩ := scc (n := r2) aM1
  refine KS ?_
  refine Oq Vm (Oq Va (KS ?_))
  refine Oq Vm (Oq Vm (Oq Vm (Oq (Vi sl88 0) ?_)))
  refine JJ_peek_GKnown v8_3.toNat 0 rfl rng fun a13 k14 hb15 hb16 => ?_
  unfold i64ok at hb15 hb16
  refine Fb 8 1 fun _ => Oq (VldA sh144 0) ?_
  refine JO_call [1, 3] rfl rfl rfl (OpC.clo (asv := [(.agg #[vi ((s.getD v8_3.toNat default).Node), vi (((s.getD v8_3.toNat default).Value).Width), vl a13 k14 (((s.getD v8_3.toNat default).Value).Words)] : Value)] ++ fC) rfl rfl hfc rfl (by simp)) (hfF (s.getD v8_3.toNat default) (getD_mem rng) a13 k14 pre pre) rfl fun _ _ => ?_
  refine KS ?_
  refine Kc ?_ ?_
  ·intro h18
   refine KS ?_
   refine Oq Vm (Oq Va (KS ?_))
   have hR20 := q2 hM4 (.ret v8_3) (by simp only [sc_IndexFunc_Known_L0, h10, h18, cs4])
   have hq := q4 hrr v8_3 (by simp only [sc_IndexFunc_Known, h10, h18, hR20, cs4]); subst hq
   exact Kr () rfl (.tmp rfl .nil) [] en
  intro h18
  refine KS ?_
  refine Oq Vadd (Oq Vm (KS ?_))
  exact Kg (r12, (v8_3 + 1)) [2, 3] ⟨(q3 hM4 (by simp only [sc_IndexFunc_Known_L0, h10, h18, cs4])), aM1, aM1, aM1, aM1⟩
 intro h10
 have g22 := df h10
 obtain rfl : r2 = 0 := by omega
 refine Ke ?_
 have hR23 := q2 hM4 (.brk ()) (by simp only [sc_IndexFunc_Known_L0, h10, cs4])
 refine KS ?_
 refine Oq Va (KS ?_)
 have hq := q4 hrr (-1) (by simp only [sc_IndexFunc_Known, h10, hR23, cs4]); subst hq
 exact Kr () rfl (.tmp rfl .nil) [] en
theorem fn158 (x : GKnown) (xa2 : Option Addr) (xk2 : Nat) (cap0P : Value) (cap0 : Int) (hx_0 : i64ok x.Node) (hx_1 : i64ok x.Value.Width) (hcap0_0 : i64ok cap0) (rr : Bool) (hrr : so_find_1 x cap0 = rr) : FT Tryz.prog 158 #[.agg #[vi x.Node, vi x.Value.Width, vl xa2 xk2 x.Value.Words], cap0P] [S xa2 xk2 x.Value.Words, pv cap0P [vi cap0]] (fun g : Unit => True) (fun g => vb rr) (fun g => []) := by
 refine FTi Tryz.func158 fun w0 M0 F0 => ?_
 unfold i64ok at hx_0 hx_1 hcap0_0
 refine Fb 8 0 fun _ => KS ?_
 refine Oa (Ab [vi x.Node, vi x.Value.Width, vl xa2 xk2 x.Value.Words]) fun p2 => Oq Va (KS ?_)
 refine Oq (Vfa fo144_0 0) (Oq (VldF sh3 0) (Oq (Vld sh3 2) (Oq Veql (Oq Va (KS ?_)))))
 have hq := q4 hrr (x.Node == cap0) (by simp only [so_find_1, cs4]); subst hq
 exact Kr () rfl (.tmp rfl .nil) [] trivial
theorem fn118 (k : List GKnown) (ka0 : Option Addr) (kk0 : Nat) (n : Int) (hn_0 : i64ok n) (rr : Int) (hrr : so_find k n = rr) : FT Tryz.prog 118 #[vl ka0 kk0 k, vi n] [S ka0 kk0 k] (fun g : Unit => i64ok rr ∧ (-1 ≤ rr ∧ rr < (k.length : Int))) (fun g => vi rr) (fun g => []) := by
 refine FTi Tryz.func118 fun w0 M0 F0 => ?_
 unfold i64ok at hn_0
 refine Fb 40 0 fun _ => KS ?_
 refine Oa (Ab [vi n]) fun p2 => Oq Va (KS ?_)
 refine Oq Vm (Oq (Vf [p2]) ?_)
 refine JJ_ent (Ent.pall [0] rfl rfl) ?_
 refine letv (sc_IndexFunc_Known k (fun x => so_find_1 x n)) fun rv3 hg4 => ?_
 have hc5 := fn157 k ka0 kk0 158 [p2] (fun x => so_find_1 x n) [pv p2 [vi n]] ca158 (fun x hx a2 k2 hq0 hq1 => FT_pall (A1 := _) (fn158 x a2 k2 p2 n hq0 hq1 pre _ rfl)) rv3 hg4
 refine Oc [2, 0] ca157 hc5 ?_
 rintro - ⟨he6, he7⟩
 unfold i64ok at he6
 refine Oq Va (KS ?_)
 have hq := q4 hrr rv3 (by simp only [so_find, hg4, cs4]); subst hq
 exact Kr () rfl (.tmp rfl .nil) [] en
theorem fn159 (s : List Int) (sa0 : Option Addr) (sk0 : Nat) (v : Int) (hv_0 : i64ok v) (rr : Int) (hrr : sc_Index_int s v = rr) : FT Tryz.prog 159 #[vl sa0 sk0 s, vi v] [S sa0 sk0 s] (fun g : Unit => i64ok rr) (fun g => vi rr) (fun g => []) := by
 refine FTi Tryz.func159 fun w0 M0 F0 => ?_
 unfold i64ok at hv_0
 refine Fb 8 0 fun _ => Fo 0 fun ho2 => KS ?_
 refine Oq Va (KS ?_)
 refine Oq Vm (Oq (Vlen sl22) (Oq Vm (KS ?_)))
 refine Kl (γ := Nat × Int) (fun (r3, v8_4) => ⟨[(0, vl sa0 sk0 s), (1, vi v), (7, vi (s.length : Int)), (8, vi v8_4)], [S sa0 sk0 s], sc_Index_int_L0 s v r3 v8_4 = sc_Index_int_L0 s v (((s.length : Int) - 0).toNat) 0 ∧ r3 = ((s.length : Int) - v8_4).toNat ∧ (0 : Int) ≤ v8_4 ∧ v8_4 ≤ (s.length : Int) ∧ (-9223372036854775808 ≤ v8_4 ∧ v8_4 ≤ 9223372036854775807), r3⟩) (((s.length : Int) - 0).toNat, 0) [0] ⟨rfl, rfl, aM1, aM1, aM1⟩ ?_
 rintro ⟨r3, v8_4⟩ ⟨hM5, hr6, hi7, hi8, hk9⟩
 refine JJ_nx fun _ _ hL hA => ?_; dsimp only at hL hA; subst hL hA
 refine Fb 8 0 fun _ => Fo 0 fun ho11 => KS ?_
 refine Oq Vlss (KS ?_)
 refine Kc ?_ ?_
 ·intro h12
  have g13 := dt h12
  obtain ⟨r14, rfl⟩ := scc (n := r3) aM1
  refine KS ?_
  refine Oq Vm (Oq Va (KS ?_))
  refine Oq Vm (Oq Vm (Oq Vm (Oq (Vi sl22 0) ?_)))
  have hb15 := ok1 (i := v8_4.toNat) ho11 rng
  refine Oq (VldI sh3 0) (Oq Veql (KS ?_))
  refine Kc ?_ ?_
  ·intro h16
   have g17 := eq_of_beq h16
   refine KS ?_
   refine Oq Vm (Oq Va (KS ?_))
   have hR18 := q2 hM5 (.ret v8_4) (by simp only [sc_Index_int_L0, h12, h16, cs4])
   have hq := q4 hrr v8_4 (by simp only [sc_Index_int, h12, h16, hR18, cs4]); subst hq
   exact Kr () rfl (.tmp rfl .nil) [] en
  intro h16
  have g19 := ne_of_beq_false h16
  refine KS ?_
  refine Oq Vadd (Oq Vm (KS ?_))
  exact Kg (r14, (v8_4 + 1)) [0] ⟨(q3 hM5 (by simp only [sc_Index_int_L0, h12, h16, cs4])), aM1, aM1, aM1, aM1⟩
 intro h12
 have g20 := df h12
 obtain rfl : r3 = 0 := by omega
 refine Ke ?_
 have hR21 := q2 hM5 (.brk ()) (by simp only [sc_Index_int_L0, h12, cs4])
 refine KS ?_
 refine Oq Va (KS ?_)
 have hq := q4 hrr (-1) (by simp only [sc_Index_int, h12, hR21, cs4]); subst hq
 exact Kr () rfl (.tmp rfl .nil) [] en
theorem fn120 (s : List Int) (sa0 : Option Addr) (sk0 : Nat) (v : Int) (hv_0 : i64ok v) (rr : Bool) (hrr : sc_Contains_int s v = rr) : FT Tryz.prog 120 #[vl sa0 sk0 s, vi v] [S sa0 sk0 s] (fun g : Unit => True) (fun g => vb rr) (fun g => []) := by
 refine FTi Tryz.func120 fun w0 M0 F0 => ?_
 unfold i64ok at hv_0
 refine Fb 8 0 fun _ => Fo 0 fun ho2 => KS ?_
 refine Oq Va (KS ?_)
 refine Oq Vm (Oq Vm ?_)
 refine letv (sc_Index_int s v) fun rv3 hg4 => ?_
 have hc5 := fn159 s sa0 sk0 v pre rv3 hg4
 refine Oc [0] ca159 hc5 ?_
 rintro - he6
 unfold i64ok at he6
 refine Oq Vgeq (Oq Va (KS ?_))
 have hq := q4 hrr (decide (0 ≤ rv3)) (by simp only [sc_Contains_int, hg4, cs4]); subst hq
 exact Kr () rfl (.tmp rfl .nil) [] trivial
theorem fn119 (m : Int) (cap0P : Value) (cap0 : GState) (cap0a1 : Option Addr) (cap0k1 : Nat) (cap0a2 : Option Addr) (cap0k2 : Nat) (cap0a5 : Option Addr) (cap0k5 : Nat) (cap0a6 : Option Addr) (cap0k6 : Nat) (hm_0 : i64ok m) (hcap0_0 : i64ok cap0.Phase) (hcap0_3 : i64ok cap0.At) (hcap0_4 : i64ok cap0.Edge) (hcap0_7 : i64ok cap0.Steps) (rr : Bool) (hrr : so_demanding_1 m cap0 = rr) : FT Tryz.prog 119 #[vi m, cap0P] [pv cap0P [vi cap0.Phase, vl cap0a1 cap0k1 cap0.Cone, vl cap0a2 cap0k2 cap0.Leaf, vi cap0.At, vi cap0.Edge, vl cap0a5 cap0k5 cap0.Values, vl cap0a6 cap0k6 cap0.Queue, vi cap0.Steps], S cap0a1 cap0k1 cap0.Cone, S cap0a2 cap0k2 cap0.Leaf, S cap0a5 cap0k5 cap0.Values, S cap0a6 cap0k6 cap0.Queue] (fun g : Unit => True) (fun g => vb rr) (fun g => []) := by
 refine FTi Tryz.func119 fun w0 M0 F0 => ?_
 unfold i64ok at hm_0 hcap0_0 hcap0_3 hcap0_4 hcap0_7
 refine Fb 8 1 fun _ => Fo 1 fun ho2 => Fb 1 2 fun _ => Fb 32 3 fun _ => Fb 8 4 fun _ => Fo 4 fun ho6 => KS ?_
 refine Oq Va (KS ?_)
 refine Oq (Vfa fo26_1 0) (Oq (VldF sh22 0) (Oq Vm ?_))
 refine letv (sc_Contains_int cap0.Cone m) fun rv7 hg8 => ?_
 have hc9 := fn120 cap0.Cone cap0a1 cap0k1 m pre rv7 hg8
 refine Oc [1] ca120 hc9 ?_
 rintro - -
 refine Oq Vnot (Oq Va (KS ?_))
 have hq := q4 hrr (!rv7) (by simp only [so_demanding_1, hg8, cs4]); subst hq
 exact Kr () rfl (.tmp rfl .nil) [] trivial
theorem fn80 (s : GSystem) (sa1 : Option Addr) (sk1 : Nat) (sa2 : Option Addr) (sk2 : Nat) (sa3 : Option Addr) (sk3 : Nat) (k : List GKnown) (ka0 : Option Addr) (kk0 : Nat) (st : GState) (sta1 : Option Addr) (stk1 : Nat) (sta2 : Option Addr) (stk2 : Nat) (sta5 : Option Addr) (stk5 : Nat) (sta6 : Option Addr) (stk6 : Nat) (hs_0 : i64ok s.Width) (hst_0 : i64ok st.Phase) (hst_3 : i64ok st.At) (hst_4 : i64ok st.Edge) (hst_7 : i64ok st.Steps) (hv : VSys s) (hlf : st.Leaf.length = st.Cone.length) (hcl : st.Cone.length ≤ 256) (hcr : ∀ x ∈ st.Cone, 0 ≤ x ∧ x < (s.Deps.length : Int)) (rr : Bool) (hrr : so_demanding s k st = rr) : FT Tryz.prog 80 #[.agg #[vi s.Width, vl sa1 sk1 s.Deps, vl sa2 sk2 s.Transfers, vl sa3 sk3 s.Boundary], vl ka0 kk0 k, .agg #[vi st.Phase, vl sta1 stk1 st.Cone, vl sta2 stk2 st.Leaf, vi st.At, vi st.Edge, vl sta5 stk5 st.Values, vl sta6 stk6 st.Queue, vi st.Steps]] [S sa1 sk1 s.Deps, S sa2 sk2 s.Transfers, S sa3 sk3 s.Boundary, S ka0 kk0 k, S sta1 stk1 st.Cone, S sta2 stk2 st.Leaf, S sta5 stk5 st.Values, S sta6 stk6 st.Queue] (fun g : Unit => True) (fun g => vb rr) (fun g => []) := by
 refine FTi Tryz.func80 fun w0 M0 F0 => ?_
 unfold i64ok at hs_0 hst_0 hst_3 hst_4 hst_7
 refine Fb 24 0 fun _ => Fb 88 1 fun _ => Fb 32 2 fun _ => Fb 40 3 fun _ => Fb 8 4 fun _ => Fo 4 fun ho6 => Fb 1 5 fun _ => Fb 32 6 fun _ => ?_
 refine Fb 8 7 fun _ => Fo 7 fun ho10 => ?_
 have hv1 := hv.n
 have hv2 := hv.tl
 have hv3 := hv.bl
 have hv4 := hv.w
 have hv5 := hv.dep_len
 refine KS ?_
 refine Oa (Ab [vi s.Width, vl sa1 sk1 s.Deps, vl sa2 sk2 s.Transfers, vl sa3 sk3 s.Boundary]) fun p11 => Oa (Ab [vi st.Phase, vl sta1 stk1 st.Cone, vl sta2 stk2 st.Leaf, vi st.At, vi st.Edge, vl sta5 stk5 st.Values, vl sta6 stk6 st.Queue, vi st.Steps]) fun p12 => Oq Va (KS ?_)
 refine Oq (Vfa fo26_3 0) (Oq (VldF sh3 0) (Oq Vlss (Oq Vm ?_)))
 refine Js 14 ?_ ?_
 ·intro h13
  have g14 := dt h13
  refine Osk (Osk (Osk (Osk (Osk (Osk (Oq Vpt (Oq Vm (Osk (Osk ?_)))))))))
  refine Osk (Osk (Oq Vpt (Oq Vm (Osk (Osk (Osk (Osk (Oq Vpt (KS ?_)))))))))
  refine Kt (KS ?_)
  refine Oq Va (KS ?_)
  have hq := q4 hrr false (by simp only [so_demanding, h13, cs4]); subst hq
  exact Kr () rfl (.tmp rfl .nil) [] trivial
 intro h13
 have g15 := df h13
 refine Oq (Vfa fo26_3 0) (Oq (VldF sh3 0) (Oq (Vfa fo26_1 0) (Oq (VldF sh22 0) (Oq (Vlen sl22) (Oq Vgeq (Oq Vpf (Oq Vm ?_)))))))
 refine Js 22 ?_ ?_
 ·intro h16
  have g17 := dt h16
  refine Osk (Osk (Osk (Osk (Oq Vpt (Oq Vm (Osk (Osk (Osk (Osk ?_)))))))))
  refine Oq Vpt (KS ?_)
  refine Kt (KS ?_)
  refine Oq Va (KS ?_)
  have hq := q4 hrr false (by simp only [so_demanding, h13, h16, cs4]); subst hq
  exact Kr () rfl (.tmp rfl .nil) [] trivial
 intro h16
 have g18 := df h16
 have hqa := hcr _ (getD_mem (xs := st.Cone) (i := st.At.toNat) (d := 0) aM1)
 refine Oq (Vfa fo26_5 0) (Oq (VldF sh24 0) (Oq (Vlen sl24) (Oq Vgtr (Oq Vpf (Oq Vm ?_)))))
 refine Js 28 ?_ ?_
 ·intro h19
  have g20 := dt h19
  refine Osk (Osk (Osk (Osk (Oq Vpt (KS ?_)))))
  refine Kt (KS ?_)
  refine Oq Va (KS ?_)
  have hq := q4 hrr false (by simp only [so_demanding, h13, h16, h19, cs4]); subst hq
  exact Kr () rfl (.tmp rfl .nil) [] trivial
 intro h19
 have g21 := df h19
 refine Oq (Vfa fo26_6 0) (Oq (VldF sh22 0) (Oq (Vlen sl22) (Oq Vgtr (Oq Vpf (KS ?_)))))
 refine Kc ?_ ?_
 ·intro h22
  have g23 := dt h22
  refine KS ?_
  refine Oq Va (KS ?_)
  have hq := q4 hrr false (by simp only [so_demanding, h13, h16, h19, h22, cs4]); subst hq
  exact Kr () rfl (.tmp rfl .nil) [] trivial
 intro h22
 have g24 := df h22
 refine KS ?_
 refine Oq (Vfa fo26_1 0) (Oq (VldF sh22 0) (Oq (Vfa fo26_3 0) (Oq (VldF sh3 0) (Oq (Vi sl22 6) ?_))))
 have hb25 := ok1 (i := st.At.toNat) ho6 rng
 refine Oq (VldI sh3 6) (Oq Va ?_)
 refine KT ?_
 refine KjC (γ := Unit) (fun _ => ⟨[(1, vl ka0 kk0 k), (3, p11), (5, p12)], [pv p12 [vi st.Phase, vl sta1 stk1 st.Cone, vl sta2 stk2 st.Leaf, vi st.At, vi st.Edge, vl sta5 stk5 st.Values, vl sta6 stk6 st.Queue, vi st.Steps], pv p11 [vi s.Width, vl sa1 sk1 s.Deps, vl sa2 sk2 s.Transfers, vl sa3 sk3 s.Boundary], S sa1 sk1 s.Deps, S sa2 sk2 s.Transfers, S sa3 sk3 s.Boundary, S ka0 kk0 k, S sta1 stk1 st.Cone, S sta2 stk2 st.Leaf, S sta5 stk5 st.Values, S sta6 stk6 st.Queue], so_demanding_J0 s k st = rr ∧ (0 ≤ st.Edge ∧ st.Edge ≤ ((s.Deps.getD ((st.Cone.getD st.At.toNat 0) : Int).toNat []).length : Int)), 0⟩) ?_ ?_
 ·skip
  refine bool_split (decide (st.Edge < 0)) ?_ ?_
  ·intro h28
   have g29 := dt h28
   refine Kq [0, 1, 3, 7, 15, 31, 15, 79, 15, 463, 975, 1999, 4095, 8191, 16383, 32767, 65535, 131071, 262143, 524287, 524287, 2097151, 4194303, 8388607, 16777215] fmix ?_
   refine Qv [0] (Vfa fo26_4 0) (Qv [0] (VldF sh3 0) (Qb h28 [] Vlss (Qv [] Vm (Qs (Qs (Qs (Qs (Qs (Qs ?_)))))))))
   refine Qs (Qs (Qs (Qv [] Vpt (Qv [] Vm (Qs (Qs (Qs (Qs (Qs ?_)))))))))
   refine Qs (Qs (Qs (Qs (Qv [] Vpt ?_))))
   refine Qn ⟨by kernel_rfl, ?_⟩
   refine Kt (KS ?_)
   refine Oq Va (KS ?_)
   have hq := q4 hrr false (by simp only [so_demanding, h13, h16, h19, h22, h28, cs4]); subst hq
   exact Kr () rfl (.tmp rfl .nil) [] trivial
  intro h28
  have g30 := df h28
  refine JJ_peekL ((st.Cone.getD st.At.toNat 0) : Int).toNat 2 rfl rng fun a31 k32 => ?_
  refine Fb 8 1 fun _ => Fo 1 fun ho34 => ?_
  refine JK_drawK [0, 1, 3, 7, 15, 31, 15, 79, 15, 463, 975, 1999, 4095, 8191, 16383, 32767, 65535, 131071, 262143, 524287, 524287, 2097151, 4194303, 8388607, 16777215] fmix ?_
  refine Dv [2] (Vfa fo26_4 0) (Dv [2] (VldF sh3 0) (Db h28 [] Vlss (Dv [] Vm (Dv [2] (Vfa fo26_4 0) (Dv [2] (VldF sh3 0) (Dv [3] (Vfa fo32_1 0) (Dv [3] (VldF sh29 0) (Dv [] Vm (Dv [4] (Vi sl29 0) ?_)))))))))
  refine Dv [0] (Vld sh22 0) (Dv [] (Vlen sl22) (Dv [] Vgtr (Dv [] Vpf ?_)))
  refine bool_split (decide (((s.Deps.getD ((st.Cone.getD st.At.toNat 0) : Int).toNat []).length : Int) < st.Edge)) ?_ ?_
  ·intro h35
   have g36 := dt h35
   refine Db h35 [] Vm (Ds (Ds (Ds (Ds (Ds (Ds (Ds (Ds (Ds ?_)))))))))
   refine Dv [] Vpt ?_
   refine Dn ⟨by kernel_rfl, fun G => ?_⟩
   refine Jw2 [(1, vl ka0 kk0 k), (3, p11), (5, p12), (64, vb true)] [0, 1, 2, 3, 4, 5, 6, 7, 8, 9, 10, 11] [] ?_
   refine Kt (KS ?_)
   refine Oq Va (KS ?_)
   have hq := q4 hrr false (by simp only [so_demanding, h13, h16, h19, h22, h28, h35, cs4]); subst hq
   exact Kr () rfl (.tmp rfl .nil) [] trivial
  intro h35
  have g37 := df h35
  refine Db h35 [] Vm (Dv [2] (Vfa fo26_4 0) (Dv [2] (VldF sh3 0) (Dv [] Vgtr ?_)))
  refine bool_split (decide (0 < st.Edge)) ?_ ?_
  ·intro h38
   have g39 := dt h38
   refine Db h38 [] Vm (Dv [] Vm (Dv [] Vm ?_))
   refine letv (so_find k (st.Cone.getD st.At.toNat 0)) fun rv40 hg41 => ?_
   refine Dx [7] [] [1, 0] (fun G => vi rv40) [fun G => SP.fact (i64ok rv40 ∧ (-1 ≤ rv40 ∧ rv40 < (k.length : Int)))] (fun G => xC [0] ca118 (fn118 k ka0 kk0 ((st.Cone.getD st.At.toNat 0)) pre rv40 hg41)) (Dv [] Vgeq (Dv [] Vpt (Dv [] Vpf ?_)))
   refine Dn ⟨by kernel_rfl, fun G => ?_⟩
   refine Jw2 [(1, vl ka0 kk0 k), (3, p11), (5, p12), (64, vb (decide (0 ≤ rv40)))] [0, 1, 2, 3, 4, 5, 6, 7, 8, 9, 10, 11] [SP.fact (i64ok rv40 ∧ (-1 ≤ rv40 ∧ rv40 < (k.length : Int)))] ?_
   refine Jf 12 rfl ?_; rintro ⟨he42, he43⟩
   unfold i64ok at he42
   refine Jk [0, 1, 2, 3, 4, 5, 6, 7, 8, 9, 10, 11] ?_
   refine Kc ?_ ?_
   ·intro h44
    have g45 := dt h44
    refine KS ?_
    refine Oq Va (KS ?_)
    have hq := q4 hrr false (by simp only [so_demanding, h13, h16, h19, h22, h28, h35, h38, h44, hg41, cs4]); subst hq
    exact Kr () rfl (.tmp rfl .nil) [] trivial
   intro h44
   have g46 := df h44
   refine KS ?_
   exact Kg () [2, 3, 4, 5, 6, 7, 8, 9, 10, 11] ⟨(q3 hrr (by simp only [so_demanding, h13, h16, h19, h22, h28, h35, h38, h44, hg41, cs4])), aM1⟩
  intro h38
  have g47 := df h38
  refine Db h38 [] Vm (Ds (Ds (Ds (Ds (Dv [] Vpf (Dv [] Vpf ?_))))))
  refine Dn ⟨by kernel_rfl, fun G => ?_⟩
  refine Jw2 [(1, vl ka0 kk0 k), (3, p11), (5, p12), (64, vb false)] [0, 1, 2, 3, 4, 5, 6, 7, 8, 9, 10, 11] [] ?_
  refine Kf (KS ?_)
  exact Kg () [2, 3, 4, 5, 6, 7, 8, 9, 10, 11] ⟨(q3 hrr (by simp only [so_demanding, h13, h16, h19, h22, h28, h35, h38, cs4])), aM1⟩
 rintro - ⟨hM26, hv27⟩
 refine JJ_nx fun _ _ hL hA => ?_; dsimp only at hL hA; subst hL hA
 refine Fb 24 2 fun _ => Fb 88 3 fun _ => Fb 32 4 fun _ => Fb 40 5 fun _ => Fb 8 6 fun _ => Fo 6 fun ho53 => Fb 1 7 fun _ => Fb 32 8 fun _ => ?_
 refine Fb 8 9 fun _ => Fo 9 fun ho57 => KS ?_
 refine Oq (Vfa fo26_1 0) (Oq (VldF sh22 0) (Oq (Vlen sl22) (Oq Vm (KS ?_))))
 refine Kl (γ := Nat × Int) (fun (r58, v68_59) => ⟨[(1, vl ka0 kk0 k), (3, p11), (5, p12), (66, vl sta1 stk1 st.Cone), (67, vi (st.Cone.length : Int)), (68, vi v68_59)], [pv p12 [vi st.Phase, vl sta1 stk1 st.Cone, vl sta2 stk2 st.Leaf, vi st.At, vi st.Edge, vl sta5 stk5 st.Values, vl sta6 stk6 st.Queue, vi st.Steps], pv p11 [vi s.Width, vl sa1 sk1 s.Deps, vl sa2 sk2 s.Transfers, vl sa3 sk3 s.Boundary], S sa1 sk1 s.Deps, S sa2 sk2 s.Transfers, S sa3 sk3 s.Boundary, S ka0 kk0 k, S sta1 stk1 st.Cone, S sta2 stk2 st.Leaf, S sta5 stk5 st.Values, S sta6 stk6 st.Queue], so_demanding_L0 s k st r58 v68_59 = so_demanding_L0 s k st (((st.Cone.length : Int) - 0).toNat) 0 ∧ r58 = ((st.Cone.length : Int) - v68_59).toNat ∧ (0 : Int) ≤ v68_59 ∧ v68_59 ≤ (st.Cone.length : Int) ∧ (-9223372036854775808 ≤ v68_59 ∧ v68_59 ≤ 9223372036854775807), r58⟩) (((st.Cone.length : Int) - 0).toNat, 0) [0, 1, 2, 3, 4, 5, 6, 7, 8, 9] ⟨rfl, rfl, aM1, aM1, aM1⟩ ?_
 rintro ⟨r58, v68_59⟩ ⟨hM60, hr61, hi62, hi63, hk64⟩
 refine JJ_nx fun _ _ hL hA => ?_; dsimp only at hL hA; subst hL hA
 refine Fb 24 2 fun _ => Fb 88 3 fun _ => Fb 32 4 fun _ => Fb 40 5 fun _ => Fb 8 6 fun _ => Fo 6 fun ho70 => Fb 1 7 fun _ => Fb 32 8 fun _ => ?_
 refine Fb 8 9 fun _ => Fo 9 fun ho74 => KS ?_
 refine Oq Vlss (KS ?_)
 refine Kc ?_ ?_
 ·intro h75
  have g76 := dt h75
  have hq := hcr _ (getD_mem (xs := st.Cone) (i := v68_59.toNat) (d := 0) aM1)
  obtain ⟨r77, rfl⟩ := scc (n := r58) aM1
  refine KS ?_
  refine Oq Vm (Oq (Vi sl22 6) ?_)
  have hb78 := ok1 (i := v68_59.toNat) ho70 rng
  refine Oq (VldI sh3 6) (Oq Va (Oq Va (KS ?_)))
  refine JK_drawK [0, 1, 0, 7, 15, 0, 0, 64, 224, 480, 992, 992, 4064, 8160, 16352, 32767] fmix ?_
  refine Dv [0] (Vfa fo26_2 0) (Dv [0] (VldF sh23 0) (Dv [] Vm (Dv [7] (Vi sl23 0) (Dv [7] (VldB sh4 0) (Dv [] Vm (Dv [0] (Vfa fo26_3 0) (Dv [0] (VldF sh3 0) (Dv [] Vlss ?_))))))))
  refine bool_split (decide (v68_59 < st.At)) ?_ ?_
  ·intro h79
   have g80 := dt h79
   refine Db h79 [] Vm (Dv [] Vm (Dv [] Vm ?_))
   refine letv (so_find k (st.Cone.getD v68_59.toNat 0)) fun rv81 hg82 => ?_
   refine Dx [5] [] [1, 0] (fun G => vi rv81) [fun G => SP.fact (i64ok rv81 ∧ (-1 ≤ rv81 ∧ rv81 < (k.length : Int)))] (fun G => xC [0] ca118 (fn118 k ka0 kk0 ((st.Cone.getD v68_59.toNat 0)) pre rv81 hg82)) (Dv [] Vgeq (Dv [] Vpt (Dv [] (Vnb un4) ?_)))
   refine Dn ⟨by kernel_rfl, fun G => ?_⟩
   refine Jw2 [(1, vl ka0 kk0 k), (3, p11), (5, p12), (66, vl sta1 stk1 st.Cone), (67, vi (st.Cone.length : Int)), (68, vi v68_59), (8, vi v68_59), (9, vi (st.Cone.getD v68_59.toNat 0)), (88, vb (!((st.Leaf.getD v68_59.toNat false) == (decide (0 ≤ rv81)))))] [0, 1, 2, 3, 4, 5, 6, 7, 8, 9] [SP.fact (i64ok rv81 ∧ (-1 ≤ rv81 ∧ rv81 < (k.length : Int)))] ?_
   refine Jf 10 rfl ?_; rintro ⟨he83, he84⟩
   unfold i64ok at he83
   refine Jk [0, 1, 2, 3, 4, 5, 6, 7, 8, 9] ?_
   refine Kc ?_ ?_
   ·intro h85
    refine KS ?_
    refine Oq Va (KS ?_)
    have hR87 := q2 hM60 (.ret false) (by simp only [so_demanding_L0, h75, h79, h85, hg82, cs4])
    have hq := q4 hM26 false (by simp only [so_demanding_J0, h13, h16, h19, h22, h75, h79, h85, hg82, hR87, cs4]); subst hq
    exact Kr () rfl (.tmp rfl .nil) [] trivial
   intro h85
   refine KS ?_
   refine Oq (Vfa fo32_1 1) (Oq (VldF sh29 1) (Oq Vm (Oq (Vi sl29 2) ?_)))
   refine JJ_peekL ((st.Cone.getD v68_59.toNat 0) : Int).toNat 2 rfl rng fun a89 k90 => ?_
   refine Fb 8 1 fun _ => Fo 1 fun ho92 => ?_
   refine Oq (Vld sh22 0) (Oq Va (KS ?_))
   refine Oq Vm (Oq (Vfa fo26_3 2) (Oq (VldF sh3 2) (Oq Veql (Oq Va (KS ?_)))))
   refine Kc ?_ ?_
   ·intro h93
    have g94 := eq_of_beq h93
    have hqe : (s.Deps.getD ((st.Cone.getD v68_59.toNat 0) : Int).toNat []).length = (s.Deps.getD ((st.Cone.getD st.At.toNat 0) : Int).toNat []).length := by rw [eq_of_beq h93]
    refine KS ?_
    refine Oq Vm (Oq (Vfa fo26_4 2) (Oq (VldF sh3 2) (Oa (Asl [1] sl22 0 (st.Edge.toNat)) fun c95 => ?_)))
    refine Jo 0 ?_; rintro a96 k97 rfl
    refine Fb 8 0 fun _ => Fo 0 fun ho99 => ?_
    have hn100 : (((s.Deps.getD ((st.Cone.getD v68_59.toNat 0) : Int).toNat []).take (st.Edge.toNat)).drop 0).length = (st.Edge.toNat) - 0 := len_slice rng rng
    refine Oq Va (KS ?_)
    refine Oq Vm (Oq (Vf [p12]) ?_)
    refine JJ_ent (Ent.pall [3, 9, 10, 11, 12] rfl rfl) ?_
    refine letv (sc_ContainsFunc_int (((s.Deps.getD ((st.Cone.getD v68_59.toNat 0) : Int).toNat []).take (st.Edge.toNat)).drop 0) (fun x => so_demanding_1 x st)) fun rv101 hg102 => ?_
    have hc103 := fn109 ((((s.Deps.getD ((st.Cone.getD v68_59.toNat 0) : Int).toNat []).take (st.Edge.toNat)).drop 0)) a96 k97 119 [p12] (fun x => so_demanding_1 x st) [pv p12 [vi st.Phase, vl sta1 stk1 st.Cone, vl sta2 stk2 st.Leaf, vi st.At, vi st.Edge, vl sta5 stk5 st.Values, vl sta6 stk6 st.Queue, vi st.Steps], S sta1 stk1 st.Cone, S sta2 stk2 st.Leaf, S sta5 stk5 st.Values, S sta6 stk6 st.Queue] ca119 (fun x hx hq0 => FT_pall (A1 := _) (fn119 x  p12 st sta1 stk1 sta2 stk2 sta5 stk5 sta6 stk6 hq0 pre pre pre pre _ rfl)) rv101 hg102
    refine Oc [1, 0] ca109 hc103 ?_
    rintro - -
    refine KS ?_
    refine Kc ?_ ?_
    ·intro h104
     refine KS ?_
     refine Oq Va (KS ?_)
     have hR106 := q2 hM60 (.ret false) (by simp only [so_demanding_L0, h75, h79, h85, h93, h104, hg82, hg102, cs4])
     have hq := q4 hM26 false (by simp only [so_demanding_J0, h13, h16, h19, h22, h75, h79, h85, h93, h104, hg82, hg102, hR106, cs4]); subst hq
     exact Kr () rfl (.tmp rfl .nil) [] trivial
    intro h104
    refine KS ?_
    refine Oq Vadd (Oq Vm (KS ?_))
    exact Kg (r77, (v68_59 + 1)) [4, 5, 6, 7, 8, 9, 10, 11, 12, 13] ⟨(q3 hM60 (by simp only [so_demanding_L0, h75, h79, h85, h93, h104, hg82, hg102, cs4])), aM1, aM1, aM1, aM1⟩
   intro h93
   have g108 := ne_of_beq_false h93
   refine KS ?_
   refine Oq Vm (Oq (Vfa fo26_3 2) (Oq (VldF sh3 2) (Oq Vgtr (Oq Vm ?_))))
   refine Js 108 ?_ ?_
   ·intro h109
    have g110 := dt h109
    refine Osk (Osk (Osk (Osk (Osk (Oq Vpt (Oq Va (KS ?_)))))))
    refine Kt (KS ?_)
    refine Oq Va (KS ?_)
    refine Oq Vm (Oq (Vf [p12]) ?_)
    refine Jl [] (Ent.slNil (α := Int)) ?_
    refine JJ_ent (Ent.pall [3, 9, 10, 11, 12] rfl rfl) ?_
    refine letv (sc_ContainsFunc_int ([] : List Int) (fun x => so_demanding_1 x st)) fun rv111 hg112 => ?_
    have hc113 := fn109 (([] : List Int)) none 0 119 [p12] (fun x => so_demanding_1 x st) [pv p12 [vi st.Phase, vl sta1 stk1 st.Cone, vl sta2 stk2 st.Leaf, vi st.At, vi st.Edge, vl sta5 stk5 st.Values, vl sta6 stk6 st.Queue, vi st.Steps], S sta1 stk1 st.Cone, S sta2 stk2 st.Leaf, S sta5 stk5 st.Values, S sta6 stk6 st.Queue] ca119 (fun x hx hq0 => FT_pall (A1 := _) (fn119 x  p12 st sta1 stk1 sta2 stk2 sta5 stk5 sta6 stk6 hq0 pre pre pre pre _ rfl)) rv111 hg112
    refine Oc [1, 0] ca109 hc113 ?_
    rintro - -
    refine KS ?_
    refine Kc ?_ ?_
    ·intro h114
     refine KS ?_
     refine Oq Va (KS ?_)
     have hR116 := q2 hM60 (.ret false) (by simp only [so_demanding_L0, h75, h79, h85, h93, h109, h114, hg82, hg112, cs4])
     have hq := q4 hM26 false (by simp only [so_demanding_J0, h13, h16, h19, h22, h75, h79, h85, h93, h109, h114, hg82, hg112, hR116, cs4]); subst hq
     exact Kr () rfl (.tmp rfl .nil) [] trivial
    intro h114
    refine KS ?_
    refine Oq Vadd (Oq Vm (KS ?_))
    exact Kg (r77, (v68_59 + 1)) [4, 5, 6, 7, 8, 9, 10, 11, 12, 13] ⟨(q3 hM60 (by simp only [so_demanding_L0, h75, h79, h85, h93, h109, h114, hg82, hg112, cs4])), aM1, aM1, aM1, aM1⟩
   intro h109
   have g118 := df h109
   refine Oq (Vfa fo26_2 2) (Oq (VldF sh23 2) (Oq Vm (Oq (Vi sl23 9) (Oq (VldB sh4 9) (Oq Vpf (Oq Va (KS ?_)))))))
   refine Kc ?_ ?_
   ·intro h119
    have h121 := h85; rw [h119] at h121
    refine KS ?_
    refine Oq Va (KS ?_)
    refine Oq Vm (Oq (Vf [p12]) ?_)
    refine Jl [] (Ent.slNil (α := Int)) ?_
    refine JJ_ent (Ent.pall [3, 9, 10, 11, 12] rfl rfl) ?_
    refine letv (sc_ContainsFunc_int ([] : List Int) (fun x => so_demanding_1 x st)) fun rv122 hg123 => ?_
    have hc124 := fn109 (([] : List Int)) none 0 119 [p12] (fun x => so_demanding_1 x st) [pv p12 [vi st.Phase, vl sta1 stk1 st.Cone, vl sta2 stk2 st.Leaf, vi st.At, vi st.Edge, vl sta5 stk5 st.Values, vl sta6 stk6 st.Queue, vi st.Steps], S sta1 stk1 st.Cone, S sta2 stk2 st.Leaf, S sta5 stk5 st.Values, S sta6 stk6 st.Queue] ca119 (fun x hx hq0 => FT_pall (A1 := _) (fn119 x  p12 st sta1 stk1 sta2 stk2 sta5 stk5 sta6 stk6 hq0 pre pre pre pre _ rfl)) rv122 hg123
    refine Oc [1, 0] ca109 hc124 ?_
    rintro - -
    refine KS ?_
    refine Kc ?_ ?_
    ·intro h125
     refine KS ?_
     refine Oq Va (KS ?_)
     have hR127 := q2 hM60 (.ret false) (by simp only [so_demanding_L0, h75, h79, h85, h93, h109, h119, h125, hg82, h121, hg123, cs4])
     have hq := q4 hM26 false (by simp only [so_demanding_J0, h13, h16, h19, h22, h75, h79, h85, h93, h109, h119, h125, hg82, h121, hg123, hR127, cs4]); subst hq
     exact Kr () rfl (.tmp rfl .nil) [] trivial
    intro h125
    refine KS ?_
    refine Oq Vadd (Oq Vm (KS ?_))
    exact Kg (r77, (v68_59 + 1)) [4, 5, 6, 7, 8, 9, 10, 11, 12, 13] ⟨(q3 hM60 (by simp only [so_demanding_L0, h75, h79, h85, h93, h109, h119, h125, hg82, h121, hg123, cs4])), aM1, aM1, aM1, aM1⟩
   intro h119
   have h130 := h85; rw [h119] at h130
   refine KS ?_
   refine Oq Vm (Oq (Vf [p12]) ?_)
   refine JJ_ent (Ent.pall [2, 8, 9, 10, 11] rfl rfl) ?_
   refine letv (sc_ContainsFunc_int (s.Deps.getD ((st.Cone.getD v68_59.toNat 0) : Int).toNat []) (fun x => so_demanding_1 x st)) fun rv131 hg132 => ?_
   have hc133 := fn109 ((s.Deps.getD ((st.Cone.getD v68_59.toNat 0) : Int).toNat [])) a89 k90 119 [p12] (fun x => so_demanding_1 x st) [pv p12 [vi st.Phase, vl sta1 stk1 st.Cone, vl sta2 stk2 st.Leaf, vi st.At, vi st.Edge, vl sta5 stk5 st.Values, vl sta6 stk6 st.Queue, vi st.Steps], S sta1 stk1 st.Cone, S sta2 stk2 st.Leaf, S sta5 stk5 st.Values, S sta6 stk6 st.Queue] ca119 (fun x hx hq0 => FT_pall (A1 := _) (fn119 x  p12 st sta1 stk1 sta2 stk2 sta5 stk5 sta6 stk6 hq0 pre pre pre pre _ rfl)) rv131 hg132
   refine Oc [2, 0] ca109 hc133 ?_
   rintro - -
   refine KS ?_
   refine Kc ?_ ?_
   ·intro h134
    refine KS ?_
    refine Oq Va (KS ?_)
    have hR136 := q2 hM60 (.ret false) (by simp only [so_demanding_L0, h75, h79, h85, h93, h109, h119, h134, hg82, h130, hg132, cs4])
    have hq := q4 hM26 false (by simp only [so_demanding_J0, h13, h16, h19, h22, h75, h79, h85, h93, h109, h119, h134, hg82, h130, hg132, hR136, cs4]); subst hq
    exact Kr () rfl (.tmp rfl .nil) [] trivial
   intro h134
   refine KS ?_
   refine Oq Vadd (Oq Vm (KS ?_))
   exact Kg (r77, (v68_59 + 1)) [3, 4, 5, 6, 7, 8, 9, 10, 11, 12] ⟨(q3 hM60 (by simp only [so_demanding_L0, h75, h79, h85, h93, h109, h119, h134, hg82, h130, hg132, cs4])), aM1, aM1, aM1, aM1⟩
  intro h79
  have g138 := df h79
  refine Db h79 [] Vm (Ds (Ds (Ds (Ds (Dv [] Vpf (Dv [] (Vnb un4) ?_))))))
  refine Dn ⟨by kernel_rfl, fun G => ?_⟩
  refine Jw2 [(1, vl ka0 kk0 k), (3, p11), (5, p12), (66, vl sta1 stk1 st.Cone), (67, vi (st.Cone.length : Int)), (68, vi v68_59), (8, vi v68_59), (9, vi (st.Cone.getD v68_59.toNat 0)), (88, vb (!((st.Leaf.getD v68_59.toNat false) == false)))] [0, 1, 2, 3, 4, 5, 6, 7, 8, 9] [] ?_
  refine Kc ?_ ?_
  ·intro h139
   refine KS ?_
   refine Oq Va (KS ?_)
   have hR141 := q2 hM60 (.ret false) (by simp only [so_demanding_L0, h75, h79, h139, cs4])
   have hq := q4 hM26 false (by simp only [so_demanding_J0, h13, h16, h19, h22, h75, h79, h139, hR141, cs4]); subst hq
   exact Kr () rfl (.tmp rfl .nil) [] trivial
  intro h139
  refine KS ?_
  refine Oq (Vfa fo32_1 1) (Oq (VldF sh29 1) (Oq Vm (Oq (Vi sl29 2) ?_)))
  refine JJ_peekL ((st.Cone.getD v68_59.toNat 0) : Int).toNat 2 rfl rng fun a143 k144 => ?_
  refine Fb 8 1 fun _ => Fo 1 fun ho146 => ?_
  refine Oq (Vld sh22 0) (Oq Va (KS ?_))
  refine Oq Vm (Oq (Vfa fo26_3 2) (Oq (VldF sh3 2) (Oq Veql (Oq Va (KS ?_)))))
  refine Kc ?_ ?_
  ·intro h147
   have g148 := eq_of_beq h147
   have hqe : (s.Deps.getD ((st.Cone.getD v68_59.toNat 0) : Int).toNat []).length = (s.Deps.getD ((st.Cone.getD st.At.toNat 0) : Int).toNat []).length := by rw [eq_of_beq h147]
   refine KS ?_
   refine Oq Vm (Oq (Vfa fo26_4 2) (Oq (VldF sh3 2) (Oa (Asl [1] sl22 0 (st.Edge.toNat)) fun c149 => ?_)))
   refine Jo 0 ?_; rintro a150 k151 rfl
   refine Fb 8 0 fun _ => Fo 0 fun ho153 => ?_
   have hn154 : (((s.Deps.getD ((st.Cone.getD v68_59.toNat 0) : Int).toNat []).take (st.Edge.toNat)).drop 0).length = (st.Edge.toNat) - 0 := len_slice rng rng
   refine Oq Va (KS ?_)
   refine Oq Vm (Oq (Vf [p12]) ?_)
   refine JJ_ent (Ent.pall [3, 9, 10, 11, 12] rfl rfl) ?_
   refine letv (sc_ContainsFunc_int (((s.Deps.getD ((st.Cone.getD v68_59.toNat 0) : Int).toNat []).take (st.Edge.toNat)).drop 0) (fun x => so_demanding_1 x st)) fun rv155 hg156 => ?_
   have hc157 := fn109 ((((s.Deps.getD ((st.Cone.getD v68_59.toNat 0) : Int).toNat []).take (st.Edge.toNat)).drop 0)) a150 k151 119 [p12] (fun x => so_demanding_1 x st) [pv p12 [vi st.Phase, vl sta1 stk1 st.Cone, vl sta2 stk2 st.Leaf, vi st.At, vi st.Edge, vl sta5 stk5 st.Values, vl sta6 stk6 st.Queue, vi st.Steps], S sta1 stk1 st.Cone, S sta2 stk2 st.Leaf, S sta5 stk5 st.Values, S sta6 stk6 st.Queue] ca119 (fun x hx hq0 => FT_pall (A1 := _) (fn119 x  p12 st sta1 stk1 sta2 stk2 sta5 stk5 sta6 stk6 hq0 pre pre pre pre _ rfl)) rv155 hg156
   refine Oc [1, 0] ca109 hc157 ?_
   rintro - -
   refine KS ?_
   refine Kc ?_ ?_
   ·intro h158
    refine KS ?_
    refine Oq Va (KS ?_)
    have hR160 := q2 hM60 (.ret false) (by simp only [so_demanding_L0, h75, h79, h139, h147, h158, hg156, cs4])
    have hq := q4 hM26 false (by simp only [so_demanding_J0, h13, h16, h19, h22, h75, h79, h139, h147, h158, hg156, hR160, cs4]); subst hq
    exact Kr () rfl (.tmp rfl .nil) [] trivial
   intro h158
   refine KS ?_
   refine Oq Vadd (Oq Vm (KS ?_))
   exact Kg (r77, (v68_59 + 1)) [4, 5, 6, 7, 8, 9, 10, 11, 12, 13] ⟨(q3 hM60 (by simp only [so_demanding_L0, h75, h79, h139, h147, h158, hg156, cs4])), aM1, aM1, aM1, aM1⟩
  intro h147
  have g162 := ne_of_beq_false h147
  refine KS ?_
  refine Oq Vm (Oq (Vfa fo26_3 2) (Oq (VldF sh3 2) (Oq Vgtr (Oq Vm ?_))))
  refine Js 108 ?_ ?_
  ·intro h163
   have g164 := dt h163
   refine Osk (Osk (Osk (Osk (Osk (Oq Vpt (Oq Va (KS ?_)))))))
   refine Kt (KS ?_)
   refine Oq Va (KS ?_)
   refine Oq Vm (Oq (Vf [p12]) ?_)
   refine Jl [] (Ent.slNil (α := Int)) ?_
   refine JJ_ent (Ent.pall [3, 9, 10, 11, 12] rfl rfl) ?_
   refine letv (sc_ContainsFunc_int ([] : List Int) (fun x => so_demanding_1 x st)) fun rv165 hg166 => ?_
   have hc167 := fn109 (([] : List Int)) none 0 119 [p12] (fun x => so_demanding_1 x st) [pv p12 [vi st.Phase, vl sta1 stk1 st.Cone, vl sta2 stk2 st.Leaf, vi st.At, vi st.Edge, vl sta5 stk5 st.Values, vl sta6 stk6 st.Queue, vi st.Steps], S sta1 stk1 st.Cone, S sta2 stk2 st.Leaf, S sta5 stk5 st.Values, S sta6 stk6 st.Queue] ca119 (fun x hx hq0 => FT_pall (A1 := _) (fn119 x  p12 st sta1 stk1 sta2 stk2 sta5 stk5 sta6 stk6 hq0 pre pre pre pre _ rfl)) rv165 hg166
   refine Oc [1, 0] ca109 hc167 ?_
   rintro - -
   refine KS ?_
   refine Kc ?_ ?_
   ·intro h168
    refine KS ?_
    refine Oq Va (KS ?_)
    have hR170 := q2 hM60 (.ret false) (by simp only [so_demanding_L0, h75, h79, h139, h147, h163, h168, hg166, cs4])
    have hq := q4 hM26 false (by simp only [so_demanding_J0, h13, h16, h19, h22, h75, h79, h139, h147, h163, h168, hg166, hR170, cs4]); subst hq
    exact Kr () rfl (.tmp rfl .nil) [] trivial
   intro h168
   refine KS ?_
   refine Oq Vadd (Oq Vm (KS ?_))
   exact Kg (r77, (v68_59 + 1)) [4, 5, 6, 7, 8, 9, 10, 11, 12, 13] ⟨(q3 hM60 (by simp only [so_demanding_L0, h75, h79, h139, h147, h163, h168, hg166, cs4])), aM1, aM1, aM1, aM1⟩
  intro h163
  have g172 := df h163
  refine Oq (Vfa fo26_2 2) (Oq (VldF sh23 2) (Oq Vm (Oq (Vi sl23 9) (Oq (VldB sh4 9) (Oq Vpf (Oq Va (KS ?_)))))))
  refine Kc ?_ ?_
  ·intro h173
   have h175 := h139; rw [h173] at h175
   refine KS ?_
   refine Oq Va (KS ?_)
   refine Oq Vm (Oq (Vf [p12]) ?_)
   refine Jl [] (Ent.slNil (α := Int)) ?_
   refine JJ_ent (Ent.pall [3, 9, 10, 11, 12] rfl rfl) ?_
   refine letv (sc_ContainsFunc_int ([] : List Int) (fun x => so_demanding_1 x st)) fun rv176 hg177 => ?_
   have hc178 := fn109 (([] : List Int)) none 0 119 [p12] (fun x => so_demanding_1 x st) [pv p12 [vi st.Phase, vl sta1 stk1 st.Cone, vl sta2 stk2 st.Leaf, vi st.At, vi st.Edge, vl sta5 stk5 st.Values, vl sta6 stk6 st.Queue, vi st.Steps], S sta1 stk1 st.Cone, S sta2 stk2 st.Leaf, S sta5 stk5 st.Values, S sta6 stk6 st.Queue] ca119 (fun x hx hq0 => FT_pall (A1 := _) (fn119 x  p12 st sta1 stk1 sta2 stk2 sta5 stk5 sta6 stk6 hq0 pre pre pre pre _ rfl)) rv176 hg177
   refine Oc [1, 0] ca109 hc178 ?_
   rintro - -
   refine KS ?_
   refine Kc ?_ ?_
   ·intro h179
    refine KS ?_
    refine Oq Va (KS ?_)
    have hR181 := q2 hM60 (.ret false) (by simp only [so_demanding_L0, h75, h79, h139, h147, h163, h173, h179, h175, hg177, cs4])
    have hq := q4 hM26 false (by simp only [so_demanding_J0, h13, h16, h19, h22, h75, h79, h139, h147, h163, h173, h179, h175, hg177, hR181, cs4]); subst hq
    exact Kr () rfl (.tmp rfl .nil) [] trivial
   intro h179
   refine KS ?_
   refine Oq Vadd (Oq Vm (KS ?_))
   exact Kg (r77, (v68_59 + 1)) [4, 5, 6, 7, 8, 9, 10, 11, 12, 13] ⟨(q3 hM60 (by simp only [so_demanding_L0, h75, h79, h139, h147, h163, h173, h179, h175, hg177, cs4])), aM1, aM1, aM1, aM1⟩
  intro h173
  have h184 := h139; rw [h173] at h184
  refine KS ?_
  refine Oq Vm (Oq (Vf [p12]) ?_)
  refine JJ_ent (Ent.pall [2, 8, 9, 10, 11] rfl rfl) ?_
  refine letv (sc_ContainsFunc_int (s.Deps.getD ((st.Cone.getD v68_59.toNat 0) : Int).toNat []) (fun x => so_demanding_1 x st)) fun rv185 hg186 => ?_
  have hc187 := fn109 ((s.Deps.getD ((st.Cone.getD v68_59.toNat 0) : Int).toNat [])) a143 k144 119 [p12] (fun x => so_demanding_1 x st) [pv p12 [vi st.Phase, vl sta1 stk1 st.Cone, vl sta2 stk2 st.Leaf, vi st.At, vi st.Edge, vl sta5 stk5 st.Values, vl sta6 stk6 st.Queue, vi st.Steps], S sta1 stk1 st.Cone, S sta2 stk2 st.Leaf, S sta5 stk5 st.Values, S sta6 stk6 st.Queue] ca119 (fun x hx hq0 => FT_pall (A1 := _) (fn119 x  p12 st sta1 stk1 sta2 stk2 sta5 stk5 sta6 stk6 hq0 pre pre pre pre _ rfl)) rv185 hg186
  refine Oc [2, 0] ca109 hc187 ?_
  rintro - -
  refine KS ?_
  refine Kc ?_ ?_
  ·intro h188
   refine KS ?_
   refine Oq Va (KS ?_)
   have hR190 := q2 hM60 (.ret false) (by simp only [so_demanding_L0, h75, h79, h139, h147, h163, h173, h188, h184, hg186, cs4])
   have hq := q4 hM26 false (by simp only [so_demanding_J0, h13, h16, h19, h22, h75, h79, h139, h147, h163, h173, h188, h184, hg186, hR190, cs4]); subst hq
   exact Kr () rfl (.tmp rfl .nil) [] trivial
  intro h188
  refine KS ?_
  refine Oq Vadd (Oq Vm (KS ?_))
  exact Kg (r77, (v68_59 + 1)) [3, 4, 5, 6, 7, 8, 9, 10, 11, 12] ⟨(q3 hM60 (by simp only [so_demanding_L0, h75, h79, h139, h147, h163, h173, h188, h184, hg186, cs4])), aM1, aM1, aM1, aM1⟩
 intro h75
 have g192 := df h75
 obtain rfl : r58 = 0 := by omega
 refine Ke ?_
 have hR193 := q2 hM60 (.brk ()) (by simp only [so_demanding_L0, h75, cs4])
 refine KS ?_
 refine Oq Va (KS ?_)
 have hq := q4 hM26 true (by simp only [so_demanding_J0, h13, h16, h19, h22, h75, hR193, cs4]); subst hq
 exact Kr () rfl (.tmp rfl .nil) [] trivial
theorem fn177 (n : Int) (cap0P : Value) (cap0 : GSystem) (cap0a1 : Option Addr) (cap0k1 : Nat) (cap0a2 : Option Addr) (cap0k2 : Nat) (cap0a3 : Option Addr) (cap0k3 : Nat) (hn_0 : i64ok n) (hcap0_0 : i64ok cap0.Width) (rr : Bool) (hrr : cn_unknowns_1 n cap0 = rr) : FT Tryz.prog 177 #[vi n, cap0P] [pv cap0P [vi cap0.Width, vl cap0a1 cap0k1 cap0.Deps, vl cap0a2 cap0k2 cap0.Transfers, vl cap0a3 cap0k3 cap0.Boundary], S cap0a1 cap0k1 cap0.Deps, S cap0a2 cap0k2 cap0.Transfers, S cap0a3 cap0k3 cap0.Boundary] (fun g : Unit => True) (fun g => vb rr) (fun g => []) := by
 refine FTi Tryz.func177 fun w0 M0 F0 => ?_
 unfold i64ok at hn_0 hcap0_0
 refine Fb 24 1 fun _ => Fb 88 2 fun _ => Fb 32 3 fun _ => KS ?_
 refine Oq Va (KS ?_)
 refine Oq Vm (Oq Vlss (Oq Vm ?_))
 refine Js 6 ?_ ?_
 ·intro h4
  have g5 := dt h4
  refine Osk (Osk (Osk (Osk (Osk (Oq Vpt (Oq Va (KS ?_)))))))
  have hq := q4 hrr true (by simp only [cn_unknowns_1, h4, cs4]); subst hq
  exact Kr () rfl (.tmp rfl .nil) [] trivial
 intro h4
 have g6 := df h4
 refine Oq Vm (Oq (Vfa fo32_1 0) (Oq (VldF sh29 0) (Oq (Vlen sl29) (Oq Vgeq (Oq Vpf (Oq Va (KS ?_)))))))
 have hq := q4 hrr (decide ((cap0.Deps.length : Int) ≤ n)) (by simp only [cn_unknowns_1, h4, cs4]); subst hq
 exact Kr () rfl (.tmp rfl .nil) [] trivial
theorem fn160 (s : GSystem) (sa1 : Option Addr) (sk1 : Nat) (sa2 : Option Addr) (sk2 : Nat) (sa3 : Option Addr) (sk3 : Nat) (l : List Int) (la0 : Option Addr) (lk0 : Nat) (hs_0 : i64ok s.Width) (rr : Bool) (hrr : cn_unknowns s l = rr) : FT Tryz.prog 160 #[.agg #[vi s.Width, vl sa1 sk1 s.Deps, vl sa2 sk2 s.Transfers, vl sa3 sk3 s.Boundary], vl la0 lk0 l] [S sa1 sk1 s.Deps, S sa2 sk2 s.Transfers, S sa3 sk3 s.Boundary, S la0 lk0 l] (fun g : Unit => True) (fun g => vb rr) (fun g => []) := by
 refine FTi Tryz.func160 fun w0 M0 F0 => ?_
 unfold i64ok at hs_0
 refine Fb 24 0 fun _ => Fb 88 1 fun _ => Fb 32 2 fun _ => Fb 8 3 fun _ => Fo 3 fun ho5 => KS ?_
 refine Oa (Ab [vi s.Width, vl sa1 sk1 s.Deps, vl sa2 sk2 s.Transfers, vl sa3 sk3 s.Boundary]) fun p6 => Oq Va (KS ?_)
 refine Oq Vm (Oq (Vf [p6]) ?_)
 refine JJ_ent (Ent.pall [0, 1, 2, 3] rfl rfl) ?_
 refine letv (sc_ContainsFunc_int l (fun x => cn_unknowns_1 x s)) fun rv7 hg8 => ?_
 have hc9 := fn109 l la0 lk0 177 [p6] (fun x => cn_unknowns_1 x s) [pv p6 [vi s.Width, vl sa1 sk1 s.Deps, vl sa2 sk2 s.Transfers, vl sa3 sk3 s.Boundary], S sa1 sk1 s.Deps, S sa2 sk2 s.Transfers, S sa3 sk3 s.Boundary] ca177 (fun x hx hq0 => FT_pall (A1 := _) (fn177 x  p6 s sa1 sk1 sa2 sk2 sa3 sk3 hq0 pre _ rfl)) rv7 hg8
 refine Oc [5, 0] ca109 hc9 ?_
 rintro - -
 refine Oq Vnot (Oq Va (KS ?_))
 have hq := q4 hrr (!rv7) (by simp only [cn_unknowns, hg8, cs4]); subst hq
 exact Kr () rfl (.tmp rfl .nil) [] trivial
theorem fn161 (m : Int) (cap0P : Value) (cap0 : List Bool) (cap0a0 : Option Addr) (cap0k0 : Nat) (hm_0 : i64ok m) (hm0 : 0 ≤ m ∧ m < (cap0.length : Int)) (rr : Bool) (hrr : cn_Closed_1 m cap0 = rr) : FT Tryz.prog 161 #[vi m, cap0P] [pv cap0P [vl cap0a0 cap0k0 cap0], S cap0a0 cap0k0 cap0] (fun g : Unit => True) (fun g => vb rr) (fun g => []) := by
 refine FTi Tryz.func161 fun w0 M0 F0 => ?_
 unfold i64ok at hm_0
 refine Fb 1 1 fun _ => KS ?_
 refine Oq Va (KS ?_)
 refine Oq (Vld sh23 0) (Oq Vm (Oq (Vi sl23 1) (Oq (VldB sh4 1) (Oq Vnot (Oq Va (KS ?_))))))
 have hq := q4 hrr (!(cap0.getD m.toNat false)) (by simp only [cn_Closed_1, cs4]); subst hq
 exact Kr () rfl (.tmp rfl .nil) [] trivial
theorem fn121 (s : GSystem) (sa1 : Option Addr) (sk1 : Nat) (sa2 : Option Addr) (sk2 : Nat) (sa3 : Option Addr) (sk3 : Nat) (set_ : List Int) (set_a0 : Option Addr) (set_k0 : Nat) (leaves : List Int) (leavesa0 : Option Addr) (leavesk0 : Nat) (hs_0 : i64ok s.Width) (rr : Bool) (hrr : cn_Closed s set_ leaves = rr) : FT Tryz.prog 121 #[.agg #[vi s.Width, vl sa1 sk1 s.Deps, vl sa2 sk2 s.Transfers, vl sa3 sk3 s.Boundary], vl set_a0 set_k0 set_, vl leavesa0 leavesk0 leaves] [S sa1 sk1 s.Deps, S sa2 sk2 s.Transfers, S sa3 sk3 s.Boundary, S set_a0 set_k0 set_, S leavesa0 leavesk0 leaves] (fun g : Unit => True) (fun g => vb rr) (fun g => []) := by
 refine FTi Tryz.func121 fun w0 M0 F0 => ?_
 unfold i64ok at hs_0
 refine Fb 24 0 fun _ => Fb 88 1 fun _ => Fb 32 2 fun _ => Fb 8 3 fun _ => Fo 3 fun ho5 => Fb 8 4 fun _ => Fo 4 fun ho7 => KS ?_
 refine Oa (Ab [vi s.Width, vl sa1 sk1 s.Deps, vl sa2 sk2 s.Transfers, vl sa3 sk3 s.Boundary]) fun p8 => Oq Va (KS ?_)
 refine Oq (VldA sh32 0) ?_
 refine letv (eq_Valid s) fun rv9 hg10 => ?_
 have hc11 := fn117 s sa1 sk1 sa2 sk2 sa3 sk3 pre rv9 hg10
 refine Oc [1, 2, 3] ca117 hc11 ?_
 rintro - -
 refine Oq Vnot (Oq Vm ?_)
 refine Js 15 ?_ ?_
 ·intro h12
  have h14 := not_true h12
  refine Osk (Osk (Osk (Osk (Oq Vpt (Oq Vm (Osk (Osk (Osk (Osk ?_)))))))))
  refine Oq Vpt (KS ?_)
  refine Kt (KS ?_)
  refine Oq Va (KS ?_)
  have hq := q4 hrr false (by simp only [cn_Closed, h12, h14, hg10, cs4]); subst hq
  exact Kr () rfl (.tmp rfl .nil) [] trivial
 intro h12
 have h17 := not_false h12
 refine Oq (VldA sh32 0) (Oq Vm ?_)
 refine letv (cn_unknowns s set_) fun rv19 hg20 => ?_
 have hc21 := fn160 s sa1 sk1 sa2 sk2 sa3 sk3 set_ set_a0 set_k0 pre rv19 hg20
 refine Oc [1, 2, 3, 4] ca160 hc21 ?_
 rintro - -
 refine Oq Vnot (Oq Vpf (Oq Vm ?_))
 refine Js 21 ?_ ?_
 ·intro h22
  have h24 := not_true h22
  refine Osk (Osk (Osk (Osk (Oq Vpt (KS ?_)))))
  refine Kt (KS ?_)
  refine Oq Va (KS ?_)
  have hq := q4 hrr false (by simp only [cn_Closed, h12, h17, h22, h24, hg10, hg20, cs4]); subst hq
  exact Kr () rfl (.tmp rfl .nil) [] trivial
 intro h22
 have h27 := not_false h22
 refine Oq (VldA sh32 0) (Oq Vm ?_)
 refine letv (cn_unknowns s leaves) fun rv29 hg30 => ?_
 have hc31 := fn160 s sa1 sk1 sa2 sk2 sa3 sk3 leaves leavesa0 leavesk0 pre rv29 hg30
 refine Oc [1, 2, 3, 5] ca160 hc31 ?_
 rintro - -
 refine Oq Vnot (Oq Vpf (KS ?_))
 refine Kc ?_ ?_
 ·intro h32
  have h34 := not_true h32
  refine KS ?_
  refine Oq Va (KS ?_)
  have hq := q4 hrr false (by simp only [cn_Closed, h12, h17, h22, h27, h32, h34, hg10, hg20, hg30, cs4]); subst hq
  exact Kr () rfl (.tmp rfl .nil) [] trivial
 intro h32
 have h37 := not_false h32
 refine KS ?_
 refine Oq (Vfa fo32_1 0) (Oq (VldF sh29 0) (Oq (Vlen sl29) (Oa (Amk (α := Bool) sl23 sz23 false (fun _ _ => rfl)) fun c39 => ?_)))
 refine Jo 0 ?_; rintro a40 k41 rfl
 refine Fb 1 0 fun _ => ?_
 have hn43 := List.length_replicate (n := (s.Deps.length : Int).toNat) (a := (false : Bool))
 refine Oa (Al ze23 [.slice none 0 0]) fun p44 => Ost (Scl [0] sh23 [vl a40 k41 (List.replicate (s.Deps.length : Int).toNat false)]) (KS ?_)
 refine Oq Vm (Oq (Vlen sl22) (Oq Vm (KS ?_)))
 refine Kl (γ := Nat × List Bool × Int) (fun (r45, inside0_46, v33_47) => ⟨[(1, vl set_a0 set_k0 set_), (2, vl leavesa0 leavesk0 leaves), (3, p8), (7, p44), (31, vl set_a0 set_k0 set_), (32, vi (set_.length : Int)), (33, vi v33_47)], [Cl p44 [vl a40 k41 (List.replicate (s.Deps.length : Int).toNat false)], os (vl a40 k41 (List.replicate (s.Deps.length : Int).toNat false)) inside0_46, pv p8 [vi s.Width, vl sa1 sk1 s.Deps, vl sa2 sk2 s.Transfers, vl sa3 sk3 s.Boundary], S sa1 sk1 s.Deps, S sa2 sk2 s.Transfers, S sa3 sk3 s.Boundary, S set_a0 set_k0 set_, S leavesa0 leavesk0 leaves], cn_Closed_L0 set_ r45 inside0_46 v33_47 = cn_Closed_L0 set_ (((set_.length : Int) - 0).toNat) (List.replicate (s.Deps.length : Int).toNat false) 0 ∧ r45 = ((set_.length : Int) - v33_47).toNat ∧ (0 : Int) ≤ v33_47 ∧ v33_47 ≤ (set_.length : Int) ∧ (-9223372036854775808 ≤ v33_47 ∧ v33_47 ≤ 9223372036854775807) ∧ (inside0_46.length : Int) = (s.Deps.length : Int), r45⟩) (((set_.length : Int) - 0).toNat, (List.replicate (s.Deps.length : Int).toNat false), 0) [0, 0, 0, 1, 2, 3, 4, 5] ⟨rfl, rfl, aM1, aM1, aM1, iv0⟩ ?_
 rintro ⟨r45, inside0_46, v33_47⟩ ⟨hM48, hr49, hi50, hi51, hk52, hv53⟩
 refine JJ_nx fun _ _ hL hA => ?_; dsimp only at hL hA; subst hL hA
 refine Fb 1 1 fun _ => Fl 1 fun hn55 => ?_
 refine Fb 24 3 fun _ => Fb 88 4 fun _ => Fb 32 5 fun _ => Fb 8 6 fun _ => Fo 6 fun ho60 => Fb 8 7 fun _ => Fo 7 fun ho62 => KS ?_
 refine Oq Vlss (KS ?_)
 refine Kc ?_ ?_
 ·intro h63
  have g64 := dt h63
  have hv0 := EValid_deps (s := s) (by simp only [h12, h17, h22, h27, h32, h37, h63, hg10, hg20, hg30])
  have hq := (unknowns_iff s set_).1 (by simp only [h12, h17, h22, h27, h32, h37, h63, hg10, hg20, hg30]) _ (getD_mem (xs := set_) (i := v33_47.toNat) (d := 0) aM1)
  obtain ⟨r65, rfl⟩ := scc (n := r45) aM1
  refine KS ?_
  refine Oq (Vi sl22 6) ?_
  have hb66 := ok1 (i := v33_47.toNat) ho60 rng
  refine Oq (VldI sh3 6) (Oq Va (KS ?_))
  refine Oq (Vld sh23 0) (Oq Vm (Oq (Vi sl23 1) (Ost (SoB [1] sh4) (KS ?_))))
  refine Oq Vadd (Oq Vm (KS ?_))
  exact Kg (r65, (inside0_46.set ((set_.getD v33_47.toNat 0) : Int).toNat true), (v33_47 + 1)) [1, 0, 0, 1, 2, 3, 4, 5] ⟨(q3 hM48 (by simp only [cn_Closed_L0, h63, cs4])), aM1, aM1, aM1, aM1, iv1⟩
 intro h63
 have g67 := df h63
 obtain rfl : r45 = 0 := by omega
 refine Ke ?_
 have hR68 := q2 hM48 inside0_46 (by simp only [cn_Closed_L0, h63, cs4])
 refine KS ?_
 refine Oq Vm (Oq (Vlen sl22) (Oq Vm (KS ?_)))
 refine Jl [0] (Ent.freezeCl _ _) ?_
 refine Jl [1] (Ent.freeze _ _) ?_
 refine Kl (γ := Nat × Int) (fun (r69, v43_70) => ⟨[(2, vl leavesa0 leavesk0 leaves), (3, p8), (7, p44), (41, vl set_a0 set_k0 set_), (42, vi (set_.length : Int)), (43, vi v43_70)], [sl (vl a40 k41 (List.replicate (s.Deps.length : Int).toNat false)) inside0_46, pv p44 [vl a40 k41 (List.replicate (s.Deps.length : Int).toNat false)], pv p8 [vi s.Width, vl sa1 sk1 s.Deps, vl sa2 sk2 s.Transfers, vl sa3 sk3 s.Boundary], S sa1 sk1 s.Deps, S sa2 sk2 s.Transfers, S sa3 sk3 s.Boundary, S set_a0 set_k0 set_, S leavesa0 leavesk0 leaves], cn_Closed_L1 s set_ leaves inside0_46 r69 v43_70 = cn_Closed_L1 s set_ leaves inside0_46 (((set_.length : Int) - 0).toNat) 0 ∧ r69 = ((set_.length : Int) - v43_70).toNat ∧ (0 : Int) ≤ v43_70 ∧ v43_70 ≤ (set_.length : Int) ∧ (-9223372036854775808 ≤ v43_70 ∧ v43_70 ≤ 9223372036854775807), r69⟩) (((set_.length : Int) - 0).toNat, 0) [0, 1, 2, 3, 4, 5, 6, 7] ⟨rfl, rfl, aM1, aM1, aM1⟩ ?_
 rintro ⟨r69, v43_70⟩ ⟨hM71, hr72, hi73, hi74, hk75⟩
 refine JJ_nx fun _ _ hL hA => ?_; dsimp only at hL hA; subst hL hA
 refine Fb 1 0 fun _ => Fl 0 fun hn77 => ?_
 refine Fb 24 3 fun _ => Fb 88 4 fun _ => Fb 32 5 fun _ => Fb 8 6 fun _ => Fo 6 fun ho82 => Fb 8 7 fun _ => Fo 7 fun ho84 => KS ?_
 refine Oq Vlss (KS ?_)
 refine Kc ?_ ?_
 ·intro h85
  have g86 := dt h85
  have hv0 := EValid_deps (s := s) (by simp only [h12, h17, h22, h27, h32, h37, h63, h85, hg10, hg20, hg30, hR68])
  have hq := (unknowns_iff s set_).1 (by simp only [h12, h17, h22, h27, h32, h37, h63, h85, hg10, hg20, hg30, hR68]) _ (getD_mem (xs := set_) (i := v43_70.toNat) (d := 0) aM1)
  obtain ⟨r87, rfl⟩ := scc (n := r69) aM1
  refine KS ?_
  refine Oq (Vi sl22 6) ?_
  have hb88 := ok1 (i := v43_70.toNat) ho82 rng
  refine Oq (VldI sh3 6) (Oq Va (KS ?_))
  refine Oq Vm (Oq Vm ?_)
  refine letv (sc_Contains_int leaves (set_.getD v43_70.toNat 0)) fun rv89 hg90 => ?_
  have hc91 := fn120 leaves leavesa0 leavesk0 ((set_.getD v43_70.toNat 0)) pre rv89 hg90
  refine Oc [7] ca120 hc91 ?_
  rintro - -
  refine Oq Vnot (Oq Vm ?_)
  refine Js 51 ?_ ?_
  ·intro h92
   have h94 := not_true h92
   refine Oq (Vfa fo32_1 2) (Oq (VldF sh29 2) (Oq Vm (Oq (Vi sl29 3) ?_)))
   refine JJ_peekL ((set_.getD v43_70.toNat 0) : Int).toNat 3 rfl rng fun a96 k97 => ?_
   refine Fb 8 1 fun _ => Fo 1 fun ho99 => ?_
   refine Oq (Vld sh22 0) (Oq (Vf [p44]) ?_)
   refine Fl 2 fun hn100 => ?_; (try unfold vl); rw [← hn100]
   refine JJ_ent (Ent.pall [3, 2] rfl rfl) ?_
   refine letv (sc_ContainsFunc_int (s.Deps.getD ((set_.getD v43_70.toNat 0) : Int).toNat []) (fun x => cn_Closed_1 x inside0_46)) fun rv101 hg102 => ?_
   have hc103 := fn109 ((s.Deps.getD ((set_.getD v43_70.toNat 0) : Int).toNat [])) a96 k97 161 [p44] (fun x => cn_Closed_1 x inside0_46) [pv p44 [vl a40 k41 inside0_46], S a40 k41 inside0_46] ca161 (fun x hx hq0 => FT_pall (A1 := _) (fn161 x  p44 inside0_46 a40 k41 hq0 (by have hq5 := EValid_dep_mem (s := s) (by simp only [h12, h17, h22, h27, h32, h37, h63, h85, h92, h94, hg10, hg20, hg30, hR68, hg90]) hq.1 aM1 x hx; omega) _ rfl)) rv101 hg102
   refine Oc [2, 0] ca109 hc103 ?_
   rintro - -
   refine Oq Vpt (KS ?_)
   refine Kc ?_ ?_
   ·intro h104
    refine KS ?_
    refine Oq Va (KS ?_)
    have hR106 := q2 hM71 (.ret false) (by simp only [cn_Closed_L1, h85, h92, h94, h104, hg90, hg102, cs4])
    have hq := q4 hrr false (by simp only [cn_Closed, h12, h17, h22, h27, h32, h37, h63, h85, h92, h94, h104, hg10, hg20, hg30, hR68, hg90, hg102, hR106, cs4]); subst hq
    exact Kr () rfl (.tmp rfl .nil) [] trivial
   intro h104
   refine KS ?_
   refine Oq Vadd (Oq Vm (KS ?_))
   exact Kg (r87, (v43_70 + 1)) [3, 4, 5, 6, 7, 8, 9, 10] ⟨(q3 hM71 (by simp only [cn_Closed_L1, h85, h92, h94, h104, hg90, hg102, cs4])), aM1, aM1, aM1, aM1⟩
  intro h92
  have h109 := not_false h92
  refine Osk (Osk (Osk (Osk (Osk (Osk (Osk (Oq Vpf (KS ?_))))))))
  refine Kf (KS ?_)
  refine Oq Vadd (Oq Vm (KS ?_))
  exact Kg (r87, (v43_70 + 1)) [0, 1, 2, 3, 4, 5, 6, 7] ⟨(q3 hM71 (by simp only [cn_Closed_L1, h85, h92, h109, hg90, cs4])), aM1, aM1, aM1, aM1⟩
 intro h85
 have g111 := df h85
 obtain rfl : r69 = 0 := by omega
 refine Ke ?_
 have hR112 := q2 hM71 (.brk ()) (by simp only [cn_Closed_L1, h85, cs4])
 refine KS ?_
 refine Oq Va (KS ?_)
 have hq := q4 hrr true (by simp only [cn_Closed, h12, h17, h22, h27, h32, h37, h63, h85, hg10, hg20, hg30, hR68, hR112, cs4]); subst hq
 exact Kr () rfl (.tmp rfl .nil) [] trivial
theorem fn81 (s : GSystem) (sa1 : Option Addr) (sk1 : Nat) (sa2 : Option Addr) (sk2 : Nat) (sa3 : Option Addr) (sk3 : Nat) (k : List GKnown) (ka0 : Option Addr) (kk0 : Nat) (st : GState) (sta1 : Option Addr) (stk1 : Nat) (sta2 : Option Addr) (stk2 : Nat) (sta5 : Option Addr) (stk5 : Nat) (sta6 : Option Addr) (stk6 : Nat) (hs_0 : i64ok s.Width) (hst_0 : i64ok st.Phase) (hst_3 : i64ok st.At) (hst_4 : i64ok st.Edge) (hst_7 : i64ok st.Steps) (hv : VSys s) (hlf : st.Leaf.length = st.Cone.length) (hcl : st.Cone.length ≤ 256) (hcr : ∀ x ∈ st.Cone, 0 ≤ x ∧ x < (s.Deps.length : Int)) (rr : Bool) (hrr : so_solving s k st = rr) : FT Tryz.prog 81 #[.agg #[vi s.Width, vl sa1 sk1 s.Deps, vl sa2 sk2 s.Transfers, vl sa3 sk3 s.Boundary], vl ka0 kk0 k, .agg #[vi st.Phase, vl sta1 stk1 st.Cone, vl sta2 stk2 st.Leaf, vi st.At, vi st.Edge, vl sta5 stk5 st.Values, vl sta6 stk6 st.Queue, vi st.Steps]] [S sa1 sk1 s.Deps, S sa2 sk2 s.Transfers, S sa3 sk3 s.Boundary, S ka0 kk0 k, S sta1 stk1 st.Cone, S sta2 stk2 st.Leaf, S sta5 stk5 st.Values, S sta6 stk6 st.Queue] (fun g : Unit => True) (fun g => vb rr) (fun g => []) := by
 refine FTi Tryz.func81 fun w0 M0 F0 => ?_
 unfold i64ok at hs_0 hst_0 hst_3 hst_4 hst_7
 refine Fb 24 0 fun _ => Fb 88 1 fun _ => Fb 32 2 fun _ => Fb 40 3 fun _ => Fb 8 4 fun _ => Fo 4 fun ho6 => Fb 1 5 fun _ => Fb 32 6 fun _ => ?_
 refine Fb 8 7 fun _ => Fo 7 fun ho10 => ?_
 have hv1 := hv.n
 have hv2 := hv.tl
 have hv3 := hv.bl
 have hv4 := hv.w
 have hv5 := hv.dep_len
 refine KS ?_
 refine Oa (Ab [vi s.Width, vl sa1 sk1 s.Deps, vl sa2 sk2 s.Transfers, vl sa3 sk3 s.Boundary]) fun p11 => Oa (Ab [vi st.Phase, vl sta1 stk1 st.Cone, vl sta2 stk2 st.Leaf, vi st.At, vi st.Edge, vl sta5 stk5 st.Values, vl sta6 stk6 st.Queue, vi st.Steps]) fun p12 => Oq Va (KS ?_)
 refine Oq (Vfa fo26_3 0) (Oq (VldF sh3 0) (Oq Vneq (Oq Vm ?_)))
 refine Js 13 ?_ ?_
 ·intro h13
  have g14 := ne_of_bne h13
  refine Osk (Osk (Osk (Oq Vpt (Oq Vm (Osk (Osk (Osk (Osk (Osk ?_)))))))))
  refine Osk (Osk (Oq Vpt (Oq Vm (Osk (Osk (Osk (Osk (Osk (Osk ?_)))))))))
  refine Osk (Oq Vpt (Oq Vm (Osk (Osk (Osk (Osk (Osk (Osk (Osk ?_)))))))))
  refine Osk (Oq Vpt (KS ?_))
  refine Kt (KS ?_)
  refine Oq Va (KS ?_)
  have hq := q4 hrr false (by simp only [so_solving, h13, cs4]); subst hq
  exact Kr () rfl (.tmp rfl .nil) [] trivial
 intro h13
 have g15 := eq_of_bne_false h13
 refine Oq (Vfa fo26_4 0) (Oq (VldF sh3 0) (Oq Vneq (Oq Vpf (Oq Vm ?_))))
 refine Js 18 ?_ ?_
 ·intro h16
  have g17 := ne_of_bne h16
  refine Osk (Osk (Osk (Osk (Osk (Osk (Osk (Oq Vpt (Oq Vm (Osk ?_)))))))))
  refine Osk (Osk (Osk (Osk (Osk (Osk (Oq Vpt (Oq Vm (Osk (Osk ?_)))))))))
  refine Osk (Osk (Osk (Osk (Osk (Osk (Oq Vpt (KS ?_)))))))
  refine Kt (KS ?_)
  refine Oq Va (KS ?_)
  have hq := q4 hrr false (by simp only [so_solving, h13, h16, cs4]); subst hq
  exact Kr () rfl (.tmp rfl .nil) [] trivial
 intro h16
 have g18 := eq_of_bne_false h16
 refine Oq (Vfa fo26_5 0) (Oq (VldF sh24 0) (Oq (Vlen sl24) (Oq (Vfa fo26_1 0) (Oq (VldF sh22 0) (Oq (Vlen sl22) (Oq Vneq (Oq Vpf (Oq Vm ?_))))))))
 refine Js 27 ?_ ?_
 ·intro h19
  have g20 := ne_of_bne h19
  refine Osk (Osk (Osk (Osk (Osk (Osk (Osk (Oq Vpt (Oq Vm (Osk ?_)))))))))
  refine Osk (Osk (Osk (Osk (Osk (Osk (Osk (Oq Vpt (KS ?_))))))))
  refine Kt (KS ?_)
  refine Oq Va (KS ?_)
  have hq := q4 hrr false (by simp only [so_solving, h13, h16, h19, cs4]); subst hq
  exact Kr () rfl (.tmp rfl .nil) [] trivial
 intro h19
 have g21 := eq_of_bne_false h19
 refine Oq (Vfa fo26_6 0) (Oq (VldF sh22 0) (Oq (Vfa fo26_1 0) (Oq (VldF sh22 0) (Oq (Vlen sl22) ?_))))
 refine letv (so_distinct st.Queue (st.Cone.length : Int)) fun rv22 hg23 => ?_
 have hc24 := fn79 st.Queue sta6 stk6 ((st.Cone.length : Int)) pre pre rv22 hg23
 refine Oc [9] ca79 hc24 ?_
 rintro - -
 refine Oq Vnot (Oq Vpf (Oq Vm ?_))
 refine Js 36 ?_ ?_
 ·intro h25
  have h27 := not_true h25
  refine Osk (Osk (Osk (Osk (Osk (Osk (Osk (Osk (Oq Vpt (KS ?_)))))))))
  refine Kt (KS ?_)
  refine Oq Va (KS ?_)
  have hq := q4 hrr false (by simp only [so_solving, h13, h16, h19, h25, h27, hg23, cs4]); subst hq
  exact Kr () rfl (.tmp rfl .nil) [] trivial
 intro h25
 have h30 := not_false h25
 refine Oq (Vfa fo26_6 0) (Oq (VldF sh22 0) (Oq (Vlen sl22) (Oq Veql (Oq (Vfa fo26_0 0) (Oq (VldF sh3 0) (Oq Veql (Oq (Vnb un4) (Oq Vpf (KS ?_)))))))))
 refine Kc ?_ ?_
 ·intro h32
  refine KS ?_
  refine Oq Va (KS ?_)
  have hq := q4 hrr false (by simp only [so_solving, h13, h16, h19, h25, h30, h32, hg23, cs4]); subst hq
  exact Kr () rfl (.tmp rfl .nil) [] trivial
 intro h32
 refine KS ?_
 refine Oq Va (KS ?_)
 refine Oq (Vfa fo26_1 0) (Oq (VldF sh22 0) (Oq (Vlen sl22) (Oq Vm (KS ?_))))
 refine Jl [] (Ent.osNil (α := Int)) ?_
 refine Kl (γ := Nat × List Int × Int × Option Addr × Nat) (fun (r35, leaves_36, v49_37, a38, k39) => ⟨[(1, vl ka0 kk0 k), (3, p11), (5, p12), (7, vl a38 k39 leaves_36), (47, vl sta1 stk1 st.Cone), (48, vi (st.Cone.length : Int)), (49, vi v49_37)], [O a38 k39 leaves_36, pv p12 [vi st.Phase, vl sta1 stk1 st.Cone, vl sta2 stk2 st.Leaf, vi st.At, vi st.Edge, vl sta5 stk5 st.Values, vl sta6 stk6 st.Queue, vi st.Steps], pv p11 [vi s.Width, vl sa1 sk1 s.Deps, vl sa2 sk2 s.Transfers, vl sa3 sk3 s.Boundary], S sa1 sk1 s.Deps, S sa2 sk2 s.Transfers, S sa3 sk3 s.Boundary, S ka0 kk0 k, S sta1 stk1 st.Cone, S sta2 stk2 st.Leaf, S sta5 stk5 st.Values, S sta6 stk6 st.Queue], so_solving_L0 s k st r35 leaves_36 v49_37 = so_solving_L0 s k st (((st.Cone.length : Int) - 0).toNat) [] 0 ∧ r35 = ((st.Cone.length : Int) - v49_37).toNat ∧ (0 : Int) ≤ v49_37 ∧ v49_37 ≤ (st.Cone.length : Int) ∧ (-9223372036854775808 ≤ v49_37 ∧ v49_37 ≤ 9223372036854775807) ∧ (leaves_36.length : Int) ≤ v49_37, r35⟩) (((st.Cone.length : Int) - 0).toNat, [], 0, none, 0) [0, 0, 1, 2, 3, 4, 5, 6, 7, 8, 9] ⟨rfl, rfl, aM1, aM1, aM1, iv0⟩ ?_
 rintro ⟨r35, leaves_36, v49_37, a38, k39⟩ ⟨hM40, hr41, hi42, hi43, hk44, hv45⟩
 refine JJ_nx fun _ _ hL hA => ?_; dsimp only at hL hA; subst hL hA
 refine Fb 8 0 fun _ => Fo 0 fun ho47 => Fb 24 3 fun _ => Fb 88 4 fun _ => Fb 32 5 fun _ => Fb 40 6 fun _ => Fb 8 7 fun _ => Fo 7 fun ho53 => ?_
 refine Fb 1 8 fun _ => Fb 32 9 fun _ => Fb 8 10 fun _ => Fo 10 fun ho57 => KS ?_
 refine Oq Vlss (KS ?_)
 refine Kc ?_ ?_
 ·intro h58
  have g59 := dt h58
  have hq := hcr _ (getD_mem (xs := st.Cone) (i := v49_37.toNat) (d := 0) aM1)
  obtain ⟨r60, rfl⟩ := scc (n := r35) aM1
  refine KS ?_
  refine Oq Vm (Oq (Vi sl22 7) ?_)
  have hb61 := ok1 (i := v49_37.toNat) ho53 rng
  refine Oq (VldI sh3 7) (Oq Va (Oq Va (KS ?_)))
  refine letv (so_find k (st.Cone.getD v49_37.toNat 0)) fun rv62 hg63 => ?_
  refine bool_split (!((st.Leaf.getD v49_37.toNat false) == (decide (0 ≤ rv62)))) ?_ ?_
  ·intro h64
   refine JK_drawK [0, 1, 0, 7, 15, 0, 0, 96, 224, 511, 1023, 2047, 4095, 2047, 16383, 32767, 65535, 131071, 262143, 524287, 1048575, 2097151, 1048575, 8388607, 16777215, 33554431, 1048575, 68157439, 268435455, 536870911] fmix ?_
   refine Dv [1] (Vfa fo26_2 0) (Dv [1] (VldF sh23 0) (Dv [] Vm (Dv [8] (Vi sl23 0) (Dv [8] (VldB sh4 0) (Dv [] Vm (Dv [] Vm (Dx [6] [] [1, 0] (fun G => vi rv62) [fun G => SP.fact (i64ok rv62 ∧ (-1 ≤ rv62 ∧ rv62 < (k.length : Int)))] (fun G => xC [0] ca118 (fn118 k ka0 kk0 ((st.Cone.getD v49_37.toNat 0)) pre rv62 hg63)) (Dv [] Vgeq (Db h64 [] (Vnb un4) ?_)))))))))
   refine Dv [] Vm (Ds (Ds (Ds (Ds (Ds (Ds (Ds (Dv [] Vpt (Dv [] Vm ?_)))))))))
   refine Ds (Ds (Ds (Ds (Ds (Ds (Ds (Ds (Ds (Dv [] Vpt ?_)))))))))
   refine Dn ⟨by kernel_rfl, fun G => ?_⟩
   refine Jw2 [(1, vl ka0 kk0 k), (3, p11), (5, p12), (7, vl a38 k39 leaves_36), (47, vl sta1 stk1 st.Cone), (48, vi (st.Cone.length : Int)), (49, vi v49_37), (8, vi v49_37), (9, vi (st.Cone.getD v49_37.toNat 0)), (83, vb true)] [0, 1, 2, 3, 4, 5, 6, 7, 8, 9, 10] [SP.fact (i64ok rv62 ∧ (-1 ≤ rv62 ∧ rv62 < (k.length : Int)))] ?_
   refine Jf 11 rfl ?_; rintro ⟨he66, he67⟩
   unfold i64ok at he66
   refine Jk [0, 0, 1, 2, 3, 4, 5, 6, 7, 8, 9] (Kt ?_)
   refine KS ?_
   refine Oq Va (KS ?_)
   have hR68 := q2 hM40 (.ret false) (by simp only [so_solving_L0, h58, h64, hg63, cs4])
   have hq := q4 hrr false (by simp only [so_solving, h13, h16, h19, h25, h30, h32, h58, h64, hg23, hg63, hR68, cs4]); subst hq
   exact Kr () rfl (.tmp rfl .nil) [] trivial
  intro h64
  refine JJ_peek_GSet v49_37.toNat 9 rfl rng fun a70 k71 hb72 => ?_
  unfold i64ok at hb72
  refine Fb 8 1 fun _ => ?_
  refine JK_drawK [0, 1, 0, 7, 15, 0, 0, 96, 224, 511, 1023, 2047, 4095, 2047, 16383, 32767, 65535, 131071, 262143, 524287, 1048575, 2097151, 1048575, 8388607, 16777215, 33554431, 1048575, 68157439, 268435455, 536870911] fmix ?_
  refine Dv [3] (Vfa fo26_2 0) (Dv [3] (VldF sh23 0) (Dv [] Vm (Dv [10] (Vi sl23 0) (Dv [10] (VldB sh4 0) (Dv [] Vm (Dv [] Vm (Dx [8] [] [1, 0] (fun G => vi rv62) [fun G => SP.fact (i64ok rv62 ∧ (-1 ≤ rv62 ∧ rv62 < (k.length : Int)))] (fun G => xC [0] ca118 (fn118 k ka0 kk0 ((st.Cone.getD v49_37.toNat 0)) pre rv62 hg63)) (Dv [] Vgeq (Db h64 [] (Vnb un4) ?_)))))))))
  refine Dv [] Vm (Dv [3] (Vfa fo26_5 0) (Dv [3] (VldF sh24 0) (Dv [] Vm (Dv [11] (Vi sl24 0) (Dv [0] (VldA sh39 0) ?_)))))
  refine letv (bt_Valid (st.Values.getD v49_37.toNat default)) fun rv74 hg75 => ?_
  refine Dx [1] [] [1, 0] (fun G => vb rv74) [fun G => SP.fact (True)] (fun G => xC [0] ca72 (fn72 ((st.Values.getD v49_37.toNat default)) a70 k71 pre rv74 hg75)) (Dv [] Vnot (Dv [] Vpf ?_))
  refine bool_split (!rv74) ?_ ?_
  ·intro h76
   have h78 := not_true h76
   refine Db h76 [] Vm (Ds (Ds (Ds (Ds (Ds (Ds (Ds (Ds (Ds ?_)))))))))
   refine Dv [] Vpt ?_
   refine Dn ⟨by kernel_rfl, fun G => ?_⟩
   refine Jw2 [(1, vl ka0 kk0 k), (3, p11), (5, p12), (7, vl a38 k39 leaves_36), (47, vl sta1 stk1 st.Cone), (48, vi (st.Cone.length : Int)), (49, vi v49_37), (8, vi v49_37), (9, vi (st.Cone.getD v49_37.toNat 0)), (83, vb true)] [0, 1, 2, 3, 4, 5, 6, 7, 8, 9, 10, 11, 12] [SP.fact (i64ok rv62 ∧ (-1 ≤ rv62 ∧ rv62 < (k.length : Int))), SP.fact (True)] ?_
   refine Jf 13 rfl ?_; rintro ⟨he80, he81⟩
   unfold i64ok at he80
   refine Jk [0, 1, 2, 2, 3, 4, 5, 6, 7, 8, 9, 10, 11] (Kt ?_)
   refine KS ?_
   refine Oq Va (KS ?_)
   have hR82 := q2 hM40 (.ret false) (by simp only [so_solving_L0, h58, h64, h76, h78, hg63, hg75, cs4])
   have hq := q4 hrr false (by simp only [so_solving, h13, h16, h19, h25, h30, h32, h58, h64, h76, h78, hg23, hg63, hg75, hR82, cs4]); subst hq
   exact Kr () rfl (.tmp rfl .nil) [] trivial
  intro h76
  have h84 := not_false h76
  refine Db h76 [] Vm (Dv [3] (Vfa fo26_5 0) (Dv [3] (VldF sh24 0) (Dv [] Vm (Dv [11] (Vi sl24 0) (Dv [0] (Vfa fo39_0 0) (Dv [0] (VldF sh3 0) (Dv [4] (Vfa fo32_0 0) (Dv [4] (VldF sh3 0) (Dv [] Vneq ?_)))))))))
  refine Dv [] Vpf ?_
  refine Dn ⟨by kernel_rfl, fun G => ?_⟩
  refine Jw2 [(1, vl ka0 kk0 k), (3, p11), (5, p12), (7, vl a38 k39 leaves_36), (47, vl sta1 stk1 st.Cone), (48, vi (st.Cone.length : Int)), (49, vi v49_37), (8, vi v49_37), (9, vi (st.Cone.getD v49_37.toNat 0)), (83, vb ((st.Values.getD v49_37.toNat default).Width != s.Width))] [0, 1, 2, 3, 4, 5, 6, 7, 8, 9, 10, 11, 12] [SP.fact (i64ok rv62 ∧ (-1 ≤ rv62 ∧ rv62 < (k.length : Int))), SP.fact (True)] ?_
  refine Jf 13 rfl ?_; rintro ⟨he86, he87⟩
  unfold i64ok at he86
  refine Jk [0, 1, 2, 2, 3, 4, 5, 6, 7, 8, 9, 10, 11] ?_
  refine Kc ?_ ?_
  ·intro h88
   have g89 := ne_of_bne h88
   refine KS ?_
   refine Oq Va (KS ?_)
   have hR90 := q2 hM40 (.ret false) (by simp only [so_solving_L0, h58, h64, h76, h84, h88, hg63, hg75, cs4])
   have hq := q4 hrr false (by simp only [so_solving, h13, h16, h19, h25, h30, h32, h58, h64, h76, h84, h88, hg23, hg63, hg75, hR90, cs4]); subst hq
   exact Kr () rfl (.tmp rfl .nil) [] trivial
  intro h88
  have g91 := eq_of_bne_false h88
  refine KS ?_
  refine Oq (Vfa fo26_2 3) (Oq (VldF sh23 3) (Oq Vm (Oq (Vi sl23 10) (Oq (VldB sh4 10) (KS ?_)))))
  refine Kc ?_ ?_
  ·intro h92
   have h94 := h64; rw [h92] at h94
   refine KS ?_
   refine Oq Vm (Oq Vm (Oa (AsV sl22 sz22 [vi (st.Cone.getD v49_37.toNat 0)] [vi (st.Cone.getD v49_37.toNat 0)]) fun c95 => ?_))
   refine Jo 0 ?_; rintro a96 k97 rfl
   refine Jl [0] (Ent.crInt _ [(st.Cone.getD v49_37.toNat 0)] _ _ rfl rfl (by intro x hx; rw [List.mem_singleton] at hx; subst hx; unfold i64ok; omega) aB1) ?_
   refine Oa (ApO [3, 0] sl22 sl22 sz22) fun c98 => ?_
   refine Jo 0 ?_; rintro a99 k100 rfl
   refine Fb 8 0 fun _ => Fo 0 fun ho102 => ?_
   have hn103 := la leaves_36 ([(st.Cone.getD v49_37.toNat 0)] : List Int)
   refine Oq Va (KS ?_)
   refine Oq Vadd (Oq Vm (KS ?_))
   exact Kg (r60, (leaves_36 ++ [(st.Cone.getD v49_37.toNat 0)]), (v49_37 + 1), a99, k100) [0, 2, 3, 4, 5, 6, 7, 8, 9, 10, 11] ⟨(q3 hM40 (by simp only [so_solving_L0, h58, h64, h76, h84, h88, h92, hg63, hg75, h94, cs4])), aM1, aM1, aM1, aM1, iv1⟩
  intro h92
  have h105 := h64; rw [h92] at h105
  refine KS ?_
  refine Oq Vadd (Oq Vm (KS ?_))
  exact Kg (r60, leaves_36, (v49_37 + 1), a38, k39) [2, 2, 3, 4, 5, 6, 7, 8, 9, 10, 11] ⟨(q3 hM40 (by simp only [so_solving_L0, h58, h64, h76, h84, h88, h92, hg63, hg75, h105, cs4])), aM1, aM1, aM1, aM1, iv1⟩
 intro h58
 have g106 := df h58
 obtain rfl : r35 = 0 := by omega
 refine Ke ?_
 have hR107 := q2 hM40 (.brk leaves_36) (by simp only [so_solving_L0, h58, cs4])
 refine KS ?_
 refine Oq (VldA sh32 2) (Oq (Vfa fo26_1 1) (Oq (VldF sh22 1) (Oq Vm ?_)))
 refine letv (cn_Closed s st.Cone leaves_36) fun rv108 hg109 => ?_
 refine Oc [0, 2, 3, 4, 6] ca121 (FT_borrow (A := _) (fun _ _ h => by cases h) (FT_ent (Ent.take (is := [1, 2, 3, 4, 0]) rfl) (fn121 s sa1 sk1 sa2 sk2 sa3 sk3 st.Cone sta1 stk1 leaves_36 a38 k39 pre rv108 hg109))) ?_ (ht := rfl)
 rintro - -
 refine Oq Va (KS ?_)
 have hq := q4 hrr rv108 (by simp only [so_solving, h13, h16, h19, h25, h30, h32, h58, hg23, hR107, hg109, cs4]); subst hq
 exact Kr () rfl (.tmp rfl .nil) [] trivial
theorem fn47 (s : GSystem) (sa1 : Option Addr) (sk1 : Nat) (sa2 : Option Addr) (sk2 : Nat) (sa3 : Option Addr) (sk3 : Nat) (k : List GKnown) (ka0 : Option Addr) (kk0 : Nat) (st : GState) (sta1 : Option Addr) (stk1 : Nat) (sta2 : Option Addr) (stk2 : Nat) (sta5 : Option Addr) (stk5 : Nat) (sta6 : Option Addr) (stk6 : Nat) (hs_0 : i64ok s.Width) (hst_0 : i64ok st.Phase) (hst_3 : i64ok st.At) (hst_4 : i64ok st.Edge) (hst_7 : i64ok st.Steps) (rr : Bool) (hrr : so_Valid s k st = rr) : FT Tryz.prog 47 #[.agg #[vi s.Width, vl sa1 sk1 s.Deps, vl sa2 sk2 s.Transfers, vl sa3 sk3 s.Boundary], vl ka0 kk0 k, .agg #[vi st.Phase, vl sta1 stk1 st.Cone, vl sta2 stk2 st.Leaf, vi st.At, vi st.Edge, vl sta5 stk5 st.Values, vl sta6 stk6 st.Queue, vi st.Steps]] [S sa1 sk1 s.Deps, S sa2 sk2 s.Transfers, S sa3 sk3 s.Boundary, S ka0 kk0 k, S sta1 stk1 st.Cone, S sta2 stk2 st.Leaf, S sta5 stk5 st.Values, S sta6 stk6 st.Queue] (fun g : Unit => True) (fun g => vb rr) (fun g => []) := by
 refine FTi Tryz.func47 fun w0 M0 F0 => ?_
 unfold i64ok at hs_0 hst_0 hst_3 hst_4 hst_7
 refine Fb 24 0 fun _ => Fb 88 1 fun _ => Fb 32 2 fun _ => Fb 40 3 fun _ => Fb 8 4 fun _ => Fo 4 fun ho6 => Fb 1 5 fun _ => Fb 32 6 fun _ => ?_
 refine Fb 8 7 fun _ => Fo 7 fun ho10 => KS ?_
 refine Oa (Ab [vi s.Width, vl sa1 sk1 s.Deps, vl sa2 sk2 s.Transfers, vl sa3 sk3 s.Boundary]) fun p11 => Oa (Ab [vi st.Phase, vl sta1 stk1 st.Cone, vl sta2 stk2 st.Leaf, vi st.At, vi st.Edge, vl sta5 stk5 st.Values, vl sta6 stk6 st.Queue, vi st.Steps]) fun p12 => Oq Va (KS ?_)
 refine Oq (VldA sh32 1) (Oq Vm ?_)
 refine letv (so_arguments s k) fun rv13 hg14 => ?_
 have hc15 := fn78 s sa1 sk1 sa2 sk2 sa3 sk3 k ka0 kk0 pre rv13 hg14
 refine Oc [2, 3, 4, 5] ca78 hc15 ?_
 rintro - -
 refine Oq Vnot (Oq Vm ?_)
 refine Js 11 ?_ ?_
 ·intro h16
  have h18 := not_true h16
  refine Osk (Osk (Osk (Osk (Oq Vpt (Oq Vm (Osk (Osk (Osk (Osk ?_)))))))))
  refine Osk (Osk (Osk (Oq Vpt (Oq Vm (Osk (Osk (Osk (Osk (Osk ?_)))))))))
  refine Osk (Osk (Oq Vpt (Oq Vm (Osk (Osk (Osk (Oq Vpt (Oq Vm (Osk ?_)))))))))
  refine Osk (Osk (Oq Vpt (KS ?_)))
  refine Kt (KS ?_)
  refine Oq Va (KS ?_)
  have hq := q4 hrr false (by simp only [so_Valid, h16, h18, hg14, cs4]); subst hq
  exact Kr () rfl (.tmp rfl .nil) [] trivial
 intro h16
 have h21 := not_false h16
 try (have hvs := arguments_V (s := s) (k := k) (by simp only [h16, h21, hg14]); have hv1 := hvs.n; have hv4 := hvs.w)
 try (have hcr := distinct_mem (l := st.Cone) (n := (s.Deps.length : Int)) (by simp only [h16, h21, hg14]); have hcl := distinct_len (l := st.Cone) (n := (s.Deps.length : Int)) (by simp only [h16, h21, hg14]))
 refine Oq (Vfa fo26_1 0) (Oq (VldF sh22 0) (Oq (Vlen sl22) (Oq Veql (Oq Vpf (Oq Vm ?_)))))
 refine Js 17 ?_ ?_
 ·intro h23
  have g24 := eq_of_beq h23
  refine Osk (Osk (Osk (Osk (Osk (Osk (Osk (Oq Vpt (Oq Vm (Osk ?_)))))))))
  refine Osk (Osk (Osk (Osk (Osk (Osk (Oq Vpt (Oq Vm (Osk (Osk ?_)))))))))
  refine Osk (Oq Vpt (Oq Vm (Osk (Osk (Osk (Oq Vpt (KS ?_)))))))
  refine Kt (KS ?_)
  refine Oq Va (KS ?_)
  have hq := q4 hrr false (by simp only [so_Valid, h16, h21, h23, hg14, cs4]); subst hq
  exact Kr () rfl (.tmp rfl .nil) [] trivial
 intro h23
 have g25 := ne_of_beq_false h23
 refine Oq (Vfa fo26_1 0) (Oq (VldF sh22 0) (Oq (Vfa fo32_1 1) (Oq (VldF sh29 1) (Oq (Vlen sl29) ?_))))
 refine letv (so_distinct st.Cone (s.Deps.length : Int)) fun rv26 hg27 => ?_
 have hc28 := fn79 st.Cone sta1 stk1 ((s.Deps.length : Int)) pre pre rv26 hg27
 refine Oc [6] ca79 hc28 ?_
 rintro - -
 refine Oq Vnot (Oq Vpf (Oq Vm ?_))
 refine Js 26 ?_ ?_
 ·intro h29
  have h31 := not_true h29
  refine Osk (Osk (Osk (Osk (Osk (Osk (Osk (Oq Vpt (Oq Vm (Osk ?_)))))))))
  refine Osk (Osk (Oq Vpt (Oq Vm (Osk (Osk (Osk (Oq Vpt (KS ?_))))))))
  refine Kt (KS ?_)
  refine Oq Va (KS ?_)
  have hq := q4 hrr false (by simp only [so_Valid, h16, h21, h23, h29, h31, hg14, hg27, cs4]); subst hq
  exact Kr () rfl (.tmp rfl .nil) [] trivial
 intro h29
 have h34 := not_false h29
 try (have hvs := arguments_V (s := s) (k := k) (by simp only [h16, h21, h23, h29, h34, hg14, hg27]); have hv1 := hvs.n; have hv4 := hvs.w)
 try (have hcr := distinct_mem (l := st.Cone) (n := (s.Deps.length : Int)) (by simp only [h16, h21, h23, h29, h34, hg14, hg27]); have hcl := distinct_len (l := st.Cone) (n := (s.Deps.length : Int)) (by simp only [h16, h21, h23, h29, h34, hg14, hg27]))
 refine Oq (Vfa fo26_2 0) (Oq (VldF sh23 0) (Oq (Vlen sl23) (Oq (Vfa fo26_1 0) (Oq (VldF sh22 0) (Oq (Vlen sl22) (Oq Vneq (Oq Vpf (Oq Vm ?_))))))))
 refine Js 35 ?_ ?_
 ·intro h36
  have g37 := ne_of_bne h36
  refine Osk (Osk (Osk (Oq Vpt (Oq Vm (Osk (Osk (Osk (Oq Vpt (KS ?_)))))))))
  refine Kt (KS ?_)
  refine Oq Va (KS ?_)
  have hq := q4 hrr false (by simp only [so_Valid, h16, h21, h23, h29, h34, h36, hg14, hg27, cs4]); subst hq
  exact Kr () rfl (.tmp rfl .nil) [] trivial
 intro h36
 have g38 := eq_of_bne_false h36
 refine Oq (Vfa fo26_7 0) (Oq (VldF sh3 0) (Oq Vlss (Oq Vpf (Oq Vm ?_))))
 refine Js 40 ?_ ?_
 ·intro h39
  have g40 := dt h39
  refine Osk (Osk (Osk (Oq Vpt (KS ?_))))
  refine Kt (KS ?_)
  refine Oq Va (KS ?_)
  have hq := q4 hrr false (by simp only [so_Valid, h16, h21, h23, h29, h34, h36, h39, hg14, hg27, cs4]); subst hq
  exact Kr () rfl (.tmp rfl .nil) [] trivial
 intro h39
 have g41 := df h39
 refine Oq (Vfa fo26_7 0) (Oq (VldF sh3 0) (Oq Vgtr (Oq Vpf (KS ?_))))
 refine Kc ?_ ?_
 ·intro h42
  have g43 := dt h42
  refine KS ?_
  refine Oq Va (KS ?_)
  have hq := q4 hrr false (by simp only [so_Valid, h16, h21, h23, h29, h34, h36, h39, h42, hg14, hg27, cs4]); subst hq
  exact Kr () rfl (.tmp rfl .nil) [] trivial
 intro h42
 have g44 := df h42
 refine KS ?_
 refine Oq (Vfa fo26_0 0) (Oq (VldF sh3 0) (KS ?_))
 refine Oq Veql (Oq Va (KS ?_))
 refine Kc ?_ ?_
 ·intro h45
  have g46 := eq_of_beq h45
  refine KS ?_
  refine Oq (VldA sh32 1) (Oq Vm (Oq (VldA sh26 0) ?_))
  refine letv (so_demanding s k st) fun rv47 hg48 => ?_
  have hc49 := fn80 s sa1 sk1 sa2 sk2 sa3 sk3 k ka0 kk0 st sta1 stk1 sta2 stk2 sta5 stk5 sta6 stk6 pre pre pre pre pre hvs pre pre hcr rv47 hg48
  refine Oc [2, 3, 4, 5, 6, 7, 8, 9] ca80 hc49 ?_
  rintro - -
  refine Oq Va (KS ?_)
  have hq := q4 hrr rv47 (by simp only [so_Valid, h16, h21, h23, h29, h34, h36, h39, h42, h45, hg14, hg27, hg48, cs4]); subst hq
  exact Kr () rfl (.tmp rfl .nil) [] trivial
 intro h45
 have g50 := ne_of_beq_false h45
 refine KS ?_
 refine Oq Veql (Oq Va (KS ?_))
 refine Kc ?_ ?_
 ·intro h51
  have g52 := eq_of_beq h51
  refine KS ?_
  refine Kc ?_ ?_
  ·intro h53
   have g54 := eq_of_beq h53
   refine KS ?_
   refine Oq (VldA sh32 1) (Oq Vm (Oq (VldA sh26 0) ?_))
   refine letv (so_solving s k st) fun rv55 hg56 => ?_
   have hc57 := fn81 s sa1 sk1 sa2 sk2 sa3 sk3 k ka0 kk0 st sta1 stk1 sta2 stk2 sta5 stk5 sta6 stk6 pre pre pre pre pre hvs pre pre hcr rv55 hg56
   refine Oc [2, 3, 4, 5, 6, 7, 8, 9] ca81 hc57 ?_
   rintro - -
   refine Oq Va (KS ?_)
   have hq := q4 hrr rv55 (by simp only [so_Valid, h16, h21, h23, h29, h34, h36, h39, h42, h45, h51, h53, hg14, hg27, hg56, cs4]); subst hq
   exact Kr () rfl (.tmp rfl .nil) [] trivial
  intro h53
  exact absurd h53 (by first | (simp [h51]; done) | (simp only [bne, h51]; decide) | (simp only [bne, h51, Bool.not_true, Bool.not_false]; decide) | (exfalso; omega) | (intro hq; simp only [bne, hq, Bool.not_false, Bool.not_true, reduceCtorEq] at h51))
 intro h51
 have g58 := ne_of_beq_false h51
 refine KS ?_
 refine Oq Veql (Oq Va (KS ?_))
 refine Kc ?_ ?_
 ·intro h59
  have g60 := eq_of_beq h59
  refine KS ?_
  refine Oq (VldA sh32 1) (Oq Vm (Oq (VldA sh26 0) ?_))
  refine letv (so_solving s k st) fun rv61 hg62 => ?_
  have hc63 := fn81 s sa1 sk1 sa2 sk2 sa3 sk3 k ka0 kk0 st sta1 stk1 sta2 stk2 sta5 stk5 sta6 stk6 pre pre pre pre pre hvs pre pre hcr rv61 hg62
  refine Oc [2, 3, 4, 5, 6, 7, 8, 9] ca81 hc63 ?_
  rintro - -
  refine Oq Va (KS ?_)
  have hq := q4 hrr rv61 (by simp only [so_Valid, h16, h21, h23, h29, h34, h36, h39, h42, h45, h51, h59, hg14, hg27, hg62, cs4]); subst hq
  exact Kr () rfl (.tmp rfl .nil) [] trivial
 intro h59
 have g64 := ne_of_beq_false h59
 refine KS ?_
 refine Oq Va (KS ?_)
 have hq := q4 hrr false (by simp only [so_Valid, h16, h21, h23, h29, h34, h36, h39, h42, h45, h51, h59, hg14, hg27, cs4]); subst hq
 exact Kr () rfl (.tmp rfl .nil) [] trivial
theorem fn122 (s : List Int) (sa0 : Option Addr) (sk0 : Nat) (rr : List Int) (hrr : sc_Clone_int s = rr) : FT Tryz.prog 122 #[vl sa0 sk0 s] [S sa0 sk0 s] (fun g : Value => (rr.length = s.length)) (fun g => g) (fun g => [os g rr]) := by
 have hm : sc_Clone_int s = s := rfl
 rw [hm] at hrr
 subst hrr
 refine FTi Tryz.func122 fun w0 M0 F0 => ?_
 refine KS ?_
 refine Oq Va ?_
 refine KS ?_
 refine Oq Vm ?_
 refine Oq (VeqN un22) ?_
 refine KS ?_
 refine Kc ?_ ?_
 ·intro h
  refine Jnil 0 h ?_
  intro h0
  subst h0
  refine KS ?_
  refine Oq Va ?_
  refine KS ?_
  refine Jl [] (Ent.osNil (α := Int)) ?_
  exact Kr (.slice none 0 0) rfl (.tmp rfl .nil) [0] rfl
 ·intro _
  refine KS ?_
  refine Oa (As0 sl22) fun c1 => ?_
  refine Jo 0 ?_; rintro a2 k3 rfl
  refine Oq Vm ?_
  refine Fb 8 1 fun hl => ?_
  refine Jl [0] (Ent.crNil (α := Int) _) ?_
  refine Oa (Ap0 [0, 0] sl22 sl22 sz22) fun c4 => ?_
  refine Oq Va ?_
  refine KS ?_
  exact Kr c4 rfl (.tmp rfl .nil) [0] rfl
theorem fn123 (s : List Bool) (sa0 : Option Addr) (sk0 : Nat) (rr : List Bool) (hrr : sc_Clone_bool s = rr) : FT Tryz.prog 123 #[vl sa0 sk0 s] [S sa0 sk0 s] (fun g : Value => (rr.length = s.length)) (fun g => g) (fun g => [os g rr]) := by
 have hm : sc_Clone_bool s = s := rfl
 rw [hm] at hrr
 subst hrr
 refine FTi Tryz.func123 fun w0 M0 F0 => ?_
 refine KS ?_
 refine Oq Va ?_
 refine KS ?_
 refine Oq Vm ?_
 refine Oq (VeqN un23) ?_
 refine KS ?_
 refine Kc ?_ ?_
 ·intro h
  refine Jnil 0 h ?_
  intro h0
  subst h0
  refine KS ?_
  refine Oq Va ?_
  refine KS ?_
  refine Jl [] (Ent.osNil (α := Bool)) ?_
  exact Kr (.slice none 0 0) rfl (.tmp rfl .nil) [0] rfl
 ·intro _
  refine KS ?_
  refine Oa (As0 sl23) fun c1 => ?_
  refine Jo 0 ?_; rintro a2 k3 rfl
  refine Oq Vm ?_
  refine Fb 1 1 fun hl => ?_
  refine Jl [0] (Ent.crNil (α := Bool) _) ?_
  refine Oa (Ap0 [0, 0] sl23 sl23 sz23) fun c4 => ?_
  refine Oq Va ?_
  refine KS ?_
  exact Kr c4 rfl (.tmp rfl .nil) [0] rfl
theorem fn85 (s : List (BitVec 64)) (sa0 : Option Addr) (sk0 : Nat) (rr : List (BitVec 64)) (hrr : sc_Clone_uint64 s = rr) : FT Tryz.prog 85 #[vl sa0 sk0 s] [S sa0 sk0 s] (fun g : Value => (rr.length = s.length)) (fun g => g) (fun g => [os g rr]) := by
 have hm : sc_Clone_uint64 s = s := rfl
 rw [hm] at hrr
 subst hrr
 refine FTi Tryz.func85 fun w0 M0 F0 => ?_
 refine KS ?_
 refine Oq Va ?_
 refine KS ?_
 refine Oq Vm ?_
 refine Oq (VeqN un37) ?_
 refine KS ?_
 refine Kc ?_ ?_
 ·intro h
  refine Jnil 0 h ?_
  intro h0
  subst h0
  refine KS ?_
  refine Oq Va ?_
  refine KS ?_
  refine Jl [] (Ent.osNil (α := BitVec 64)) ?_
  exact Kr (.slice none 0 0) rfl (.tmp rfl .nil) [0] rfl
 ·intro _
  refine KS ?_
  refine Oa (As0 sl37) fun c1 => ?_
  refine Jo 0 ?_; rintro a2 k3 rfl
  refine Oq Vm ?_
  refine Fb 8 1 fun hl => ?_
  refine Jl [0] (Ent.crNil (α := BitVec 64) _) ?_
  refine Oa (Ap0 [0, 0] sl37 sl37 sz37) fun c4 => ?_
  refine Oq Va ?_
  refine KS ?_
  exact Kr c4 rfl (.tmp rfl .nil) [0] rfl
theorem fn49 (s : GSet) (sa1 : Option Addr) (sk1 : Nat) (hs_0 : i64ok s.Width) (rr : GSet) (hrr : so_clone s = rr) : FT Tryz.prog 49 #[.agg #[vi s.Width, vl sa1 sk1 s.Words]] [S sa1 sk1 s.Words] (fun g : Value => i64ok rr.Width) (fun g => .agg #[vi rr.Width, g]) (fun g => [os g rr.Words]) := by
 refine FTi Tryz.func49 fun w0 M0 F0 => ?_
 unfold i64ok at hs_0
 refine Fb 8 0 fun _ => KS ?_
 refine Oa (Ab [vi s.Width, vl sa1 sk1 s.Words]) fun p2 => Oa (Al ze39 [vi 0, .slice none 0 0]) fun p3 => KS ?_
 refine JK_drawK [0, 1, 0, 4, 12, 31, 63] fmix ?_
 refine Dv [1] (Vfa fo39_0 0) (Dv [1] (VldF sh3 0) (Dv [1] (Vfa fo39_1 0) (Dv [1] (VldF sh37 0) ?_)))
 refine letv (sc_Clone_uint64 s.Words) fun rv5 hg6 => Dx [2] [] [2, 0, 1] (fun G => (G.g 4 0)) [fun G => SP.fact ((rv5.length = s.Words.length)), fun G => os (G.g 4 0) rv5] (fun G => xC [0] ca85 (fn85 s.Words sa1 sk1 rv5 hg6)) ?_
 refine Dx [4] [] [0] (fun G => .agg #[vi s.Width, (G.g 4 0)]) [] (fun G => xV (v := .agg #[vi s.Width, (G.g 4 0)]) (Vo 0 rfl (isO_os _ _) fun aq7 kq8 eq9 => (by rw [eq9]; exact Vbd st39 [vi s.Width, .slice aq7 ((rv5 : List (BitVec 64)).length) kq8]))) (Dx0 [0, 4] [0] [1, 0] [fun G => Cl p3 [vi s.Width, (G.g 4 0)]] (fun G => x1 1 rfl os_one fun ho10 => (xS (Scl [0] sh39 [vi s.Width, (G.g 4 0)] (v := .agg #[vi s.Width, (G.g 4 0)]) (h1 := show [vi s.Width, (G.g 4 0)].all (·.oneCell') = true from (by simp only [List.all_cons, List.all_nil, ho10, Bool.and_true, Bool.true_and] <;> rfl))))) ?_)
 refine Dn ⟨by kernel_rfl, fun G => ?_⟩
 refine Jw2 [(2, p3)] [1, 2] [SP.fact ((rv5.length = s.Words.length)), os (G.g 4 0) rv5, Cl p3 [vi s.Width, (G.g 4 0)]] ?_
 generalize G.g 4 0 = c4
 refine Jf 2 rfl ?_; rintro he11
 refine Jk [0, 1, 3, 3] ?_
 refine Jo 2 ?_; rintro a12 k13 rfl
 refine Fb 8 2 fun _ => ?_
 have hq := q4 hrr (GSet.mk s.Width rv5) (by simp only [so_clone, hg6, cs4]); subst hq
 exact Kr (vl a12 k13 rv5) rfl (.cellN 3 rfl sh39 rfl (reads_Cl _ _) rfl .nil) [2] en
theorem fn82 (st : GState) (sta1 : Option Addr) (stk1 : Nat) (sta2 : Option Addr) (stk2 : Nat) (sta5 : Option Addr) (stk5 : Nat) (sta6 : Option Addr) (stk6 : Nat) (hst_0 : i64ok st.Phase) (hst_3 : i64ok st.At) (hst_4 : i64ok st.Edge) (hst_7 : i64ok st.Steps) (rr : GState) (hrr : so_copied st = rr) : FT Tryz.prog 82 #[.agg #[vi st.Phase, vl sta1 stk1 st.Cone, vl sta2 stk2 st.Leaf, vi st.At, vi st.Edge, vl sta5 stk5 st.Values, vl sta6 stk6 st.Queue, vi st.Steps]] [S sta1 stk1 st.Cone, S sta2 stk2 st.Leaf, S sta5 stk5 st.Values, S sta6 stk6 st.Queue] (fun g : Value × Value × Value × Value => i64ok rr.Phase ∧ i64ok rr.At ∧ i64ok rr.Edge ∧ i64ok rr.Steps) (fun g => .agg #[vi rr.Phase, g.1, g.2.1, vi rr.At, vi rr.Edge, g.2.2.1, g.2.2.2, vi rr.Steps]) (fun g => [os g.1 rr.Cone, os g.2.1 rr.Leaf, os g.2.2.1 rr.Values, os g.2.2.2 rr.Queue]) := by
 refine FTi Tryz.func82 fun w0 M0 F0 => ?_
 unfold i64ok at hst_0 hst_3 hst_4 hst_7
 refine Fb 8 0 fun _ => Fo 0 fun ho2 => Fb 1 1 fun _ => Fb 32 2 fun _ => Fb 8 3 fun _ => Fo 3 fun ho6 => KS ?_
 refine Oa (Ab [vi st.Phase, vl sta1 stk1 st.Cone, vl sta2 stk2 st.Leaf, vi st.At, vi st.Edge, vl sta5 stk5 st.Values, vl sta6 stk6 st.Queue, vi st.Steps]) fun p7 => Oa (Al ze26 [vi 0, .slice none 0 0, .slice none 0 0, vi 0, vi 0, .slice none 0 0, .slice none 0 0, vi 0]) fun p8 => KS ?_
 refine Oq (VldA sh26 1) (Oa (Al ze26 [vi 0, .slice none 0 0, .slice none 0 0, vi 0, vi 0, .slice none 0 0, .slice none 0 0, vi 0]) fun p9 => Ost (Scl [0] sh26 [vi st.Phase, vl sta1 stk1 st.Cone, vl sta2 stk2 st.Leaf, vi st.At, vi st.Edge, vl sta5 stk5 st.Values, vl sta6 stk6 st.Queue, vi st.Steps]) (KS ?_))
 refine Jp 0 fun hp10 => ?_
 refine JK_drawK [0, 1, 3, 0, 8, 31, 0, 64, 255, 7, 1023, 2047, 4095, 8191, 16383] fmix ?_
 refine Dv [3] (Vfa fo26_1 0) (Dv [3] (VldF sh22 0) ?_)
 refine letv (sc_Clone_int st.Cone) fun rv12 hg13 => ?_
 refine Dx [4] [] [2, 0, 1] (fun G => (G.g 2 0)) [fun G => SP.fact ((rv12.length = st.Cone.length)), fun G => os (G.g 2 0) rv12] (fun G => xC [0] ca122 (fn122 st.Cone sta1 stk1 rv12 hg13)) (Dv [3] (Vfa fo26_2 0) (Dv [3] (VldF sh23 0) ?_))
 refine letv (sc_Clone_bool st.Leaf) fun rv15 hg16 => ?_
 refine Dx [5] [] [2, 0, 1] (fun G => (G.g 5 0)) [fun G => SP.fact ((rv15.length = st.Leaf.length)), fun G => os (G.g 5 0) rv15] (fun G => xC [0] ca123 (fn123 st.Leaf sta2 stk2 rv15 hg16)) (Dv [3] (Vfa fo26_6 0) (Dv [3] (VldF sh22 0) ?_))
 refine letv (sc_Clone_int st.Queue) fun rv18 hg19 => ?_
 refine Dx [7] [] [2, 0, 1] (fun G => (G.g 8 0)) [fun G => SP.fact ((rv18.length = st.Queue.length)), fun G => os (G.g 8 0) rv18] (fun G => xC [0] ca122 (fn122 st.Queue sta6 stk6 rv18 hg19)) (Dv [0] (Vfa fo26_1 0) (Dx0 [1, 9] [1] [1, 0] [fun G => Cl p9 [vi st.Phase, (G.g 2 0), vl sta2 stk2 st.Leaf, vi st.At, vi st.Edge, vl sta5 stk5 st.Values, vl sta6 stk6 st.Queue, vi st.Steps]] (fun G => x1 1 rfl os_one fun ho20 => (xS (OpS.frame [0] rfl (OpS.storeClF [(G.g 2 0)] [vi st.Phase, (G.g 2 0), vl sta2 stk2 st.Leaf, vi st.At, vi st.Edge, vl sta5 stk5 st.Values, vl sta6 stk6 st.Queue, vi st.Steps] rfl rfl rfl sh22 (cells_of_one ho20) rfl (by simp only [List.all_cons, List.all_nil, ho20, Bool.and_true, Bool.true_and] <;> rfl) aB1 rfl)))) (Dv [0] (Vfa fo26_2 0) (Dx0 [11, 14] [14] [1, 0] [fun G => Cl p9 [vi st.Phase, (G.g 2 0), (G.g 5 0), vi st.At, vi st.Edge, vl sta5 stk5 st.Values, vl sta6 stk6 st.Queue, vi st.Steps]] (fun G => x1 0 rfl os_one fun ho21 => (xS (OpS.frame [1] rfl (OpS.storeClF [(G.g 5 0)] [vi st.Phase, (G.g 2 0), (G.g 5 0), vi st.At, vi st.Edge, vl sta5 stk5 st.Values, vl sta6 stk6 st.Queue, vi st.Steps] rfl rfl rfl sh23 (cells_of_one ho21) rfl (by simp only [List.all_cons, List.all_nil, ho21, Bool.and_true, Bool.true_and] <;> rfl) aB1 rfl)))) (Dv [0] (Vfa fo26_6 0) (Dx0 [13, 15] [15] [1, 0] [fun G => Cl p9 [vi st.Phase, (G.g 2 0), (G.g 5 0), vi st.At, vi st.Edge, vl sta5 stk5 st.Values, (G.g 8 0), vi st.Steps]] (fun G => x1 0 rfl os_one fun ho22 => (xS (OpS.frame [1] rfl (OpS.storeClF [(G.g 8 0)] [vi st.Phase, (G.g 2 0), (G.g 5 0), vi st.At, vi st.Edge, vl sta5 stk5 st.Values, (G.g 8 0), vi st.Steps] rfl rfl rfl sh22 (cells_of_one ho22) rfl (by simp only [List.all_cons, List.all_nil, ho22, Bool.and_true, Bool.true_and] <;> rfl) aB1 rfl)))) ?_))))))
 refine Dn ⟨by kernel_rfl, fun G => ?_⟩
 refine Jw2 [(1, p7), (2, p8), (3, p9)] [0, 2, 3, 4, 5, 6, 7] [SP.fact ((rv12.length = st.Cone.length)), os (G.g 2 0) rv12, SP.fact ((rv15.length = st.Leaf.length)), os (G.g 5 0) rv15, SP.fact ((rv18.length = st.Queue.length)), os (G.g 8 0) rv18, Cl p9 [vi st.Phase, (G.g 2 0), (G.g 5 0), vi st.At, vi st.Edge, vl sta5 stk5 st.Values, (G.g 8 0), vi st.Steps]] ?_
 generalize G.g 2 0 = c11, G.g 5 0 = c14, G.g 8 0 = c17
 refine Jf 7 rfl ?_; rintro he23
 refine Jf 9 rfl ?_; rintro he24
 refine Jf 11 rfl ?_; rintro he25
 refine Jk [1, 1, 2, 3, 4, 5, 7, 8, 9, 9] ?_
 refine Jo 6 ?_; rintro a26 k27 rfl
 refine Fb 8 6 fun _ => Fo 6 fun ho29 => ?_
 refine Jo 7 ?_; rintro a30 k31 rfl
 refine Fb 1 7 fun _ => ?_
 refine Jo 8 ?_; rintro a33 k34 rfl
 refine Fb 8 8 fun _ => Fo 8 fun ho36 => KS ?_
 refine Oq (Vfa fo26_5 9) (Ost (SclF [9] sh24 [vi st.Phase, vl a26 k27 rv12, vl a30 k31 rv15, vi st.At, vi st.Edge, .slice none 0 0, vl a33 k34 rv18, vi st.Steps]) (KS ?_))
 refine Oq (Vfa fo26_5 2) (Oq (VldF sh24 2) (Oq (Vlen sl24) (Oq Vm (KS ?_))))
 refine Jl [] (Ent.osNil (α := GSet)) ?_
 refine Kl (γ := Nat × List GSet × Int × Option Addr × Nat) (fun (r37, out5_38, v23_39, a40, k41) => ⟨[(2, p8), (3, p9), (21, vl sta5 stk5 st.Values), (22, vi (st.Values.length : Int)), (23, vi v23_39)], [O a40 k41 out5_38, Cl p9 [vi st.Phase, vl a26 k27 rv12, vl a30 k31 rv15, vi st.At, vi st.Edge, vl a40 k41 out5_38, vl a33 k34 rv18, vi st.Steps], Cl p8 [vi 0, .slice none 0 0, .slice none 0 0, vi 0, vi 0, .slice none 0 0, .slice none 0 0, vi 0], S sta5 stk5 st.Values, O a26 k27 rv12, O a30 k31 rv15, O a33 k34 rv18], so_copied_L0 st r37 out5_38 v23_39 = so_copied_L0 st (((st.Values.length : Int) - 0).toNat) [] 0 ∧ r37 = ((st.Values.length : Int) - v23_39).toNat ∧ (0 : Int) ≤ v23_39 ∧ v23_39 ≤ (st.Values.length : Int) ∧ (-9223372036854775808 ≤ v23_39 ∧ v23_39 ≤ 9223372036854775807) ∧ (out5_38.length : Int) = v23_39, r37⟩) (((st.Values.length : Int) - 0).toNat, [], 0, none, 0) [0, 0, 0, 3, 5, 5, 5] ⟨rfl, rfl, aM1, aM1, aM1, iv0⟩ ?_
 rintro ⟨r37, out5_38, v23_39, a40, k41⟩ ⟨hM42, hr43, hi44, hi45, hk46, hv47⟩
 refine JJ_nx fun _ _ hL hA => ?_; dsimp only at hL hA; subst hL hA
 refine Fb 32 0 fun _ => Fb 32 3 fun _ => Fb 8 4 fun _ => Fo 4 fun ho51 => Fb 1 5 fun _ => Fb 8 6 fun _ => Fo 6 fun ho54 => KS ?_
 refine Oq Vlss (KS ?_)
 refine Kc ?_ ?_
 ·intro h55
  have g56 := dt h55
  obtain ⟨r57, rfl⟩ := scc (n := r37) aM1
  refine KS ?_
  refine Oq (Vi sl24 3) ?_
  refine JJ_peek_GSet v23_39.toNat 3 rfl rng fun a58 k59 hb60 => ?_
  unfold i64ok at hb60
  refine Fb 8 1 fun _ => ?_
  refine Oq (VldA sh39 0) (Oa (Al ze39 [vi 0, .slice none 0 0]) fun p62 => Ost (Scl [0] sh39 [vi ((st.Values.getD v23_39.toNat default).Width), vl a58 k59 ((st.Values.getD v23_39.toNat default).Words)]) (KS ?_))
  refine Jp 4 fun hp63 => ?_
  refine JK_drawK [0, 1, 0, 4, 12, 31, 63, 127] fmix ?_
  refine Dv [0] (Vfa fo26_5 0) (Dv [5] (VldF sh24 0) (Dv [1] (VldA sh39 0) ?_))
  refine letv (so_clone (st.Values.getD v23_39.toNat default)) fun rv65 hg66 => ?_
  refine Dx [3] [] [2, 0, 1] (fun G => .agg #[vi rv65.Width, (G.g 3 0)]) [fun G => SP.fact (i64ok rv65.Width), fun G => os (G.g 3 0) rv65.Words] (fun G => xC [0] ca49 (fn49 ((st.Values.getD v23_39.toNat default)) a58 k59 pre rv65 hg66)) (Dx [] [] [0] (fun G => (G.g 4 0)) [fun G => Cr (G.g 4 0) 1 [vi rv65.Width, (G.g 3 0)]] (fun G => xA (AsV sl24 sz24 [.agg #[vi rv65.Width, (G.g 3 0)]] [vi rv65.Width, (G.g 3 0)])) ?_)
  have hn69 := la out5_38 ([rv65] : List GSet)
  refine Dx [4, 11, 12, 13] [4, 12, 13] [3, 1, 0] (fun G => (G.g 5 0)) [fun G => sl (G.g 3 0) rv65.Words, fun G => os (G.g 5 0) ((out5_38 ++ [rv65]) : List GSet)] (fun G => by refine xf 1 rfl ?_; rintro he70; unfold i64ok at he70; exact xp [2] rfl (Ent.freeze _ _) (xp [3, 0] rfl (Ent.cr1 (α := GSet) (A := [sl (G.g 3 0) rv65.Words]) _ rv65 _ aB1 (fun h => ⟨_, rfl, aL1, sepAll_get (i := 0) rfl h⟩)) (xA (ApO [3, 0] sl24 sl24 sz24)))) (Dv [0] (Vfa fo26_5 0) (Dx0 [5, 15] [5] [1, 0] [fun G => Cl p9 [vi st.Phase, vl a26 k27 rv12, vl a30 k31 rv15, vi st.At, vi st.Edge, (G.g 5 0), vl a33 k34 rv18, vi st.Steps]] (fun G => x1 1 rfl os_one fun ho71 => (xS (OpS.frame [0] rfl (OpS.storeClF [(G.g 5 0)] [vi st.Phase, vl a26 k27 rv12, vl a30 k31 rv15, vi st.At, vi st.Edge, (G.g 5 0), vl a33 k34 rv18, vi st.Steps] rfl rfl rfl sh24 (cells_of_one ho71) rfl (by simp only [List.all_cons, List.all_nil, ho71, Bool.and_true, Bool.true_and] <;> rfl) aB1 rfl)))) ?_))
  refine Dn ⟨by kernel_rfl, fun G => ?_⟩
  refine Jw2 [(2, p8), (3, p9), (21, vl sta5 stk5 st.Values), (22, vi (st.Values.length : Int)), (23, vi v23_39)] [0, 1, 2, 3, 6, 7, 8, 9, 10] [SP.fact (i64ok rv65.Width), sl (G.g 3 0) rv65.Words, os (G.g 5 0) ((out5_38 ++ [rv65]) : List GSet), Cl p9 [vi st.Phase, vl a26 k27 rv12, vl a30 k31 rv15, vi st.At, vi st.Edge, (G.g 5 0), vl a33 k34 rv18, vi st.Steps]] ?_
  generalize G.g 3 0 = c64, G.g 5 0 = c68
  refine Jf 9 rfl ?_; rintro he72
  unfold i64ok at he72
  refine Jk [1, 1, 2, 3, 3, 4, 4, 4, 5, 6, 6] ?_
  refine Jo 8 ?_; rintro a73 k74 rfl
  refine Fb 8 8 fun _ => ?_
  refine Jo 9 ?_; rintro a76 k77 rfl
  refine Fb 32 9 fun _ => KS ?_
  refine Oq Vadd (Oq Vm (KS ?_))
  exact Kg (r57, (out5_38 ++ [rv65]), (v23_39 + 1), a76, k77) [9, 9, 3, 3, 4, 4, 4] ⟨(q3 hM42 (by simp only [so_copied_L0, h55, hg66, cs4])), aM1, aM1, aM1, aM1, iv1⟩
 intro h55
 have g79 := df h55
 obtain rfl : r37 = 0 := by omega
 refine Ke ?_
 have hR80 := q2 hM42 out5_38 (by simp only [so_copied_L0, h55, cs4])
 refine KS ?_
 refine Oq (VldA sh26 1) (Ost (Scl [2] sh26 [vi st.Phase, vl a26 k27 rv12, vl a30 k31 rv15, vi st.At, vi st.Edge, vl a40 k41 out5_38, vl a33 k34 rv18, vi st.Steps]) (KS ?_))
 have hq := q4 hrr (GState.mk st.Phase rv12 rv15 st.At st.Edge out5_38 rv18 st.Steps) (by simp only [so_copied, h55, hg13, hg16, hg19, hR80, cs4]); subst hq
 exact Kr (vl a26 k27 rv12, vl a30 k31 rv15, vl a40 k41 out5_38, vl a33 k34 rv18) rfl (.cellN 0 rfl sh26 rfl (reads_Cl _ _) rfl .nil) [4, 4, 1, 3] en
theorem fn124 (s : GSystem) (sa1 : Option Addr) (sk1 : Nat) (sa2 : Option Addr) (sk2 : Nat) (sa3 : Option Addr) (sk3 : Nat) (k : List GKnown) (ka0 : Option Addr) (kk0 : Nat) (stP : Value) (st : GState) (sta1 : Option Addr) (stk1 : Nat) (sta2 : Option Addr) (stk2 : Nat) (sta5 : Option Addr) (stk5 : Nat) (sta6 : Option Addr) (stk6 : Nat) (hs_0 : i64ok s.Width) (hst_0 : i64ok st.Phase) (hst_3 : i64ok st.At) (hst_4 : i64ok st.Edge) (hst_7 : i64ok st.Steps) (hv : VSys s) (hd : BOk s k st) (rr : GState) (hrr : so_begin s k st = rr) : FT Tryz.prog 124 #[.agg #[vi s.Width, vl sa1 sk1 s.Deps, vl sa2 sk2 s.Transfers, vl sa3 sk3 s.Boundary], vl ka0 kk0 k, stP] [S sa1 sk1 s.Deps, S sa2 sk2 s.Transfers, S sa3 sk3 s.Boundary, S ka0 kk0 k, Cl stP [vi st.Phase, vl sta1 stk1 st.Cone, vl sta2 stk2 st.Leaf, vi st.At, vi st.Edge, vl sta5 stk5 st.Values, vl sta6 stk6 st.Queue, vi st.Steps], O sta1 stk1 st.Cone, O sta2 stk2 st.Leaf, O sta5 stk5 st.Values, O sta6 stk6 st.Queue] (fun g : Value × Value × Value × Value => i64ok rr.Phase ∧ i64ok rr.At ∧ i64ok rr.Edge ∧ i64ok rr.Steps) (fun g => .tuple #[]) (fun g => [Cl stP [vi rr.Phase, g.1, g.2.1, vi rr.At, vi rr.Edge, g.2.2.1, g.2.2.2, vi rr.Steps], os g.1 rr.Cone, os g.2.1 rr.Leaf, os g.2.2.1 rr.Values, os g.2.2.2 rr.Queue]) := by
 refine FTi Tryz.func124 fun w0 M0 F0 => ?_
 unfold i64ok at hs_0 hst_0 hst_3 hst_4 hst_7
 refine Fb 24 0 fun _ => Fb 88 1 fun _ => Fb 32 2 fun _ => Fb 40 3 fun _ => Fb 8 5 fun _ => Fo 5 fun ho6 => Fb 1 6 fun _ => Fb 32 7 fun _ => ?_
 refine Fb 8 8 fun _ => Fo 8 fun ho10 => ?_
 have hv1 := hv.n
 have hv2 := hv.tl
 have hv3 := hv.bl
 have hv4 := hv.w
 have hv5 := hv.dep_len
 have hcr := hd.cr
 have hq1 := hd.lf
 have hq2 := hd.cl
 have hq3 := hd.vl
 have hq4 := hd.ql
 refine KS ?_
 refine Oa (Ab [vi s.Width, vl sa1 sk1 s.Deps, vl sa2 sk2 s.Transfers, vl sa3 sk3 s.Boundary]) fun p11 => KS ?_
 refine Oq Vm (Oq Vm (Oq (Vn 5) (Oq (Vfa fo26_0 5) (Ost (SclF [5] sh3 [vi 2, vl sta1 stk1 st.Cone, vl sta2 stk2 st.Leaf, vi st.At, vi st.Edge, vl sta5 stk5 st.Values, vl sta6 stk6 st.Queue, vi st.Steps]) (Oq (Vn 0) (Oq (Vfa fo26_3 0) (Ost (SclF [0] sh3 [vi 2, vl sta1 stk1 st.Cone, vl sta2 stk2 st.Leaf, vi 0, vi st.Edge, vl sta5 stk5 st.Values, vl sta6 stk6 st.Queue, vi st.Steps]) (KS ?_))))))))
 refine Oq Vm (Oq (Vn 0) (Oq (Vfa fo26_1 0) (Oq (VldF sh22 0) (Oq (Vlen sl22) (Oq Vm (KS ?_))))))
 refine Kl (γ := Nat × List GSet × List Int × Int × Option Addr × Nat × Option Addr × Nat) (fun (r12, st5_13, st6_14, v20_15, a16, k17, a18, k19) => ⟨[(1, vl ka0 kk0 k), (2, stP), (3, p11), (18, vl sta1 stk1 st.Cone), (19, vi (st.Cone.length : Int)), (20, vi v20_15)], [O a18 k19 st6_14, O a16 k17 st5_13, Cl stP [vi 2, vl sta1 stk1 st.Cone, vl sta2 stk2 st.Leaf, vi 0, vi st.Edge, vl a16 k17 st5_13, vl a18 k19 st6_14, vi st.Steps], pv p11 [vi s.Width, vl sa1 sk1 s.Deps, vl sa2 sk2 s.Transfers, vl sa3 sk3 s.Boundary], S sa1 sk1 s.Deps, S sa2 sk2 s.Transfers, S sa3 sk3 s.Boundary, S ka0 kk0 k, O sta1 stk1 st.Cone, O sta2 stk2 st.Leaf], so_begin_L0 s k st r12 st5_13 st6_14 v20_15 = so_begin_L0 s k st (((st.Cone.length : Int) - 0).toNat) st.Values st.Queue 0 ∧ r12 = ((st.Cone.length : Int) - v20_15).toNat ∧ (0 : Int) ≤ v20_15 ∧ v20_15 ≤ (st.Cone.length : Int) ∧ (-9223372036854775808 ≤ v20_15 ∧ v20_15 ≤ 9223372036854775807) ∧ (st5_13.length : Int) = v20_15 ∧ (st6_14.length : Int) = v20_15, r12⟩) (((st.Cone.length : Int) - 0).toNat, st.Values, st.Queue, 0, sta5, stk5, sta6, stk6) [9, 8, 0, 0, 1, 2, 3, 4, 5, 5] ⟨rfl, rfl, aM1, aM1, aM1, iv0, iv0⟩ ?_
 rintro ⟨r12, st5_13, st6_14, v20_15, a16, k17, a18, k19⟩ ⟨hM20, hr21, hi22, hi23, hk24, hv25, hv26⟩
 refine JJ_nx fun _ _ hL hA => ?_; dsimp only at hL hA; subst hL hA
 refine Fb 8 0 fun _ => Fo 0 fun ho28 => Fb 32 1 fun _ => Fb 24 4 fun _ => Fb 88 5 fun _ => Fb 32 6 fun _ => Fb 40 7 fun _ => Fb 8 8 fun _ => ?_
 refine Fo 8 fun ho35 => Fb 1 9 fun _ => KS ?_
 refine Oq Vlss (KS ?_)
 refine Kc ?_ ?_
 ·intro h37
  have g38 := dt h37
  have hq := hcr _ (getD_mem (xs := st.Cone) (i := v20_15.toNat) (d := 0) aM1)
  obtain ⟨r39, rfl⟩ := scc (n := r12) aM1
  refine KS ?_
  refine Oq Vm (Oq (Vi sl22 8) ?_)
  have hb40 := ok1 (i := v20_15.toNat) ho35 rng
  refine Oq (VldI sh3 8) (Oq Va (Oq Va (KS ?_)))
  refine Oq (Vfa fo32_3 3) (Oq (VldF sh24 3) (Oq Vm (Oq (Vi sl24 6) ?_)))
  refine JJ_peek_GSet ((st.Cone.getD v20_15.toNat 0) : Int).toNat 6 rfl rng fun a41 k42 hb43 => ?_
  unfold i64ok at hb43
  refine Fb 8 1 fun _ => ?_
  refine Oq (VldA sh39 0) (Oa (Al ze39 [vi 0, .slice none 0 0]) fun p45 => Ost (Scl [0] sh39 [vi ((s.Boundary.getD ((st.Cone.getD v20_15.toNat 0) : Int).toNat default).Width), .slice a41 (((s.Boundary.getD ((st.Cone.getD v20_15.toNat 0) : Int).toNat default).Words).length) k42]) (KS ?_))
  refine Oq Vm (Oq (Vn 5) (Oq (Vfa fo26_2 5) (Oq (VldF sh23 5) (Oq Vm (Oq (Vi sl23 12) (Oq (VldB sh4 12) (KS ?_)))))))
  refine Kc ?_ ?_
  ·intro h46
   have hlf := hd.leaf v20_15.toNat aM1 h46
   have hfe := pfind_eq k (st.Cone.getD v20_15.toNat 0)
   refine KS ?_
   refine Oq Vm (Oq Vm (Oq Vm ?_))
   refine letv (so_find k (st.Cone.getD v20_15.toNat 0)) fun rv48 hg49 => ?_
   have hc50 := fn118 k ka0 kk0 ((st.Cone.getD v20_15.toNat 0)) pre rv48 hg49
   refine Oc [10] ca118 hc50 ?_
   rintro - ⟨he51, he52⟩
   unfold i64ok at he51
   refine Oq (Vi sl88 10) ?_
   refine JJ_peek_GKnown rv48.toNat 10 rfl rng fun a53 k54 hb55 hb56 => ?_
   unfold i64ok at hb55 hb56
   refine Fb 8 1 fun _ => ?_
   refine Oq (Vfa fo144_1 0) (Oq (VldG sh39 0 [vi (((k.getD rv48.toNat default).Value).Width), vl a53 k54 (((k.getD rv48.toNat default).Value).Words)]) (Ost (Scl [2] sh39 [vi (((k.getD rv48.toNat default).Value).Width), vl a53 k54 (((k.getD rv48.toNat default).Value).Words)]) (KS ?_)))
   refine Jp 7 fun hp58 => ?_
   refine JK_drawK [0, 0, 2, 6, 14, 0, 32, 96, 254, 511, 1023, 2047] fmix ?_
   refine Dv [] Vm (Dv [] Vm (Dv [0] (Vn 0) (Dv [0] (Vfa fo26_5 0) (Dv [8] (VldF sh24 0) (Dv [1] (VldA sh39 0) ?_)))))
   refine letv (so_clone ((k.getD rv48.toNat default).Value)) fun rv60 hg61 => ?_
   refine Dx [3] [] [2, 0, 1] (fun G => .agg #[vi rv60.Width, (G.g 6 0)]) [fun G => SP.fact (i64ok rv60.Width), fun G => os (G.g 6 0) rv60.Words] (fun G => xC [0] ca49 (fn49 (((k.getD rv48.toNat default).Value)) a53 k54 pre rv60 hg61)) (Dx [] [] [0] (fun G => (G.g 7 0)) [fun G => Cr (G.g 7 0) 1 [vi rv60.Width, (G.g 6 0)]] (fun G => xA (AsV sl24 sz24 [.agg #[vi rv60.Width, (G.g 6 0)]] [vi rv60.Width, (G.g 6 0)])) ?_)
   have hn64 := la st5_13 ([rv60] : List GSet)
   refine Dx [7, 16, 17, 18] [7, 17, 18] [3, 1, 0] (fun G => (G.g 8 0)) [fun G => sl (G.g 6 0) rv60.Words, fun G => os (G.g 8 0) ((st5_13 ++ [rv60]) : List GSet)] (fun G => by refine xf 1 rfl ?_; rintro he65; unfold i64ok at he65; exact xp [2] rfl (Ent.freeze _ _) (xp [3, 0] rfl (Ent.cr1 (α := GSet) (A := [sl (G.g 6 0) rv60.Words]) _ rv60 _ aB1 (fun h => ⟨_, rfl, aL1, sepAll_get (i := 0) rfl h⟩)) (xA (ApO [3, 0] sl24 sl24 sz24)))) (Dv [0] (Vn 0) (Dv [0] (Vfa fo26_5 0) (Dx0 [8, 20] [8] [1, 0] [fun G => Cl stP [vi 2, vl sta1 stk1 st.Cone, vl sta2 stk2 st.Leaf, vi 0, vi st.Edge, (G.g 8 0), vl a18 k19 st6_14, vi st.Steps]] (fun G => x1 1 rfl os_one fun ho66 => (xS (OpS.frame [0] rfl (OpS.storeClF [(G.g 8 0)] [vi 2, vl sta1 stk1 st.Cone, vl sta2 stk2 st.Leaf, vi 0, vi st.Edge, (G.g 8 0), vl a18 k19 st6_14, vi st.Steps] rfl rfl rfl sh24 (cells_of_one ho66) rfl (by simp only [List.all_cons, List.all_nil, ho66, Bool.and_true, Bool.true_and] <;> rfl) aB1 rfl)))) ?_)))
   refine Dn ⟨by kernel_rfl, fun G => ?_⟩
   refine Jw2 [(1, vl ka0 kk0 k), (2, stP), (3, p11), (18, vl sta1 stk1 st.Cone), (19, vi (st.Cone.length : Int)), (20, vi v20_15), (6, vi v20_15)] [0, 1, 2, 3, 4, 5, 6, 9, 10, 11, 12, 13, 14, 15] [SP.fact (i64ok rv60.Width), sl (G.g 6 0) rv60.Words, os (G.g 8 0) ((st5_13 ++ [rv60]) : List GSet), Cl stP [vi 2, vl sta1 stk1 st.Cone, vl sta2 stk2 st.Leaf, vi 0, vi st.Edge, (G.g 8 0), vl a18 k19 st6_14, vi st.Steps]] ?_
   generalize G.g 6 0 = c59, G.g 8 0 = c63
   refine Jf 14 rfl ?_; rintro he67
   unfold i64ok at he67
   refine Jk [1, 1, 2, 3, 4, 5, 5, 6, 7, 8, 9, 10, 10, 11, 12, 12] ?_
   refine Jo 13 ?_; rintro a68 k69 rfl
   refine Fb 8 13 fun _ => ?_
   refine Jo 14 ?_; rintro a71 k72 rfl
   refine Fb 32 14 fun _ => KS ?_
   refine Oq Vm (Oq Vm (Oa (AsV sl22 sz22 [vi v20_15] [vi v20_15]) fun c74 => ?_))
   refine Jo 0 ?_; rintro a75 k76 rfl
   refine Oq Vm (Oq (Vn 16) (Oq (Vfa fo26_6 16) (Oq (VldF sh22 16) ?_)))
   refine Jl [0] (Ent.crInt _ [v20_15] _ _ rfl rfl (by intro x hx; rw [List.mem_singleton] at hx; subst hx; unfold i64ok; omega) aB1) ?_
   refine Oa (ApO [0, 5] sl22 sl22 sz22) fun c77 => ?_
   refine Jo 0 ?_; rintro a78 k79 rfl
   refine Fb 8 0 fun _ => Fo 0 fun ho81 => ?_
   have hn82 : ([v20_15] ++ st6_14 : List Int).length = 1 + st6_14.length := la ([v20_15] : List Int) st6_14
   refine Oq (Vn 15) (Oq (Vfa fo26_6 15) (Ost (SclF [15] sh22 [vi 2, vl sta1 stk1 st.Cone, vl sta2 stk2 st.Leaf, vi 0, vi st.Edge, vl a71 k72 (st5_13 ++ [rv60]), vl a78 k79 ([v20_15] ++ st6_14), vi st.Steps]) (KS ?_)))
   refine Oq Vadd (Oq Vm (KS ?_))
   exact Kg (r39, (st5_13 ++ [rv60]), ([v20_15] ++ st6_14), (v20_15 + 1), a71, k72, a78, k79) [1, 14, 0, 5, 6, 7, 8, 9, 10, 10] ⟨(q3 hM20 (by simp only [so_begin_L0, h37, h46, hg49, hg61, cs4])), aM1, aM1, aM1, aM1, iv1, iv1⟩
  intro h46
  refine KS ?_
  refine Jp 5 fun hp84 => ?_
  refine JK_drawK [0, 0, 2, 6, 14, 0, 32, 96, 254, 511, 1023, 2047] fmix ?_
  refine Dv [] Vm (Dv [] Vm (Dv [0] (Vn 0) (Dv [0] (Vfa fo26_5 0) (Dv [6] (VldF sh24 0) (Dv [1] (VldA sh39 0) ?_)))))
  refine letv (so_clone (s.Boundary.getD ((st.Cone.getD v20_15.toNat 0) : Int).toNat default)) fun rv86 hg87 => ?_
  refine Dx [3] [] [2, 0, 1] (fun G => .agg #[vi rv86.Width, (G.g 6 0)]) [fun G => SP.fact (i64ok rv86.Width), fun G => os (G.g 6 0) rv86.Words] (fun G => xC [0] ca49 (fn49 ((s.Boundary.getD ((st.Cone.getD v20_15.toNat 0) : Int).toNat default)) a41 k42 pre rv86 hg87)) (Dx [] [] [0] (fun G => (G.g 7 0)) [fun G => Cr (G.g 7 0) 1 [vi rv86.Width, (G.g 6 0)]] (fun G => xA (AsV sl24 sz24 [.agg #[vi rv86.Width, (G.g 6 0)]] [vi rv86.Width, (G.g 6 0)])) ?_)
  have hn90 := la st5_13 ([rv86] : List GSet)
  refine Dx [5, 14, 15, 16] [5, 15, 16] [3, 1, 0] (fun G => (G.g 8 0)) [fun G => sl (G.g 6 0) rv86.Words, fun G => os (G.g 8 0) ((st5_13 ++ [rv86]) : List GSet)] (fun G => by refine xf 1 rfl ?_; rintro he91; unfold i64ok at he91; exact xp [2] rfl (Ent.freeze _ _) (xp [3, 0] rfl (Ent.cr1 (α := GSet) (A := [sl (G.g 6 0) rv86.Words]) _ rv86 _ aB1 (fun h => ⟨_, rfl, aL1, sepAll_get (i := 0) rfl h⟩)) (xA (ApO [3, 0] sl24 sl24 sz24)))) (Dv [0] (Vn 0) (Dv [0] (Vfa fo26_5 0) (Dx0 [6, 18] [6] [1, 0] [fun G => Cl stP [vi 2, vl sta1 stk1 st.Cone, vl sta2 stk2 st.Leaf, vi 0, vi st.Edge, (G.g 8 0), vl a18 k19 st6_14, vi st.Steps]] (fun G => x1 1 rfl os_one fun ho92 => (xS (OpS.frame [0] rfl (OpS.storeClF [(G.g 8 0)] [vi 2, vl sta1 stk1 st.Cone, vl sta2 stk2 st.Leaf, vi 0, vi st.Edge, (G.g 8 0), vl a18 k19 st6_14, vi st.Steps] rfl rfl rfl sh24 (cells_of_one ho92) rfl (by simp only [List.all_cons, List.all_nil, ho92, Bool.and_true, Bool.true_and] <;> rfl) aB1 rfl)))) ?_)))
  refine Dn ⟨by kernel_rfl, fun G => ?_⟩
  refine Jw2 [(1, vl ka0 kk0 k), (2, stP), (3, p11), (18, vl sta1 stk1 st.Cone), (19, vi (st.Cone.length : Int)), (20, vi v20_15), (6, vi v20_15)] [0, 1, 2, 3, 4, 7, 8, 9, 10, 11, 12, 13] [SP.fact (i64ok rv86.Width), sl (G.g 6 0) rv86.Words, os (G.g 8 0) ((st5_13 ++ [rv86]) : List GSet), Cl stP [vi 2, vl sta1 stk1 st.Cone, vl sta2 stk2 st.Leaf, vi 0, vi st.Edge, (G.g 8 0), vl a18 k19 st6_14, vi st.Steps]] ?_
  generalize G.g 6 0 = c85, G.g 8 0 = c89
  refine Jf 12 rfl ?_; rintro he93
  unfold i64ok at he93
  refine Jk [1, 1, 2, 3, 3, 4, 5, 6, 7, 8, 8, 9, 10, 10] ?_
  refine Jo 11 ?_; rintro a94 k95 rfl
  refine Fb 8 11 fun _ => ?_
  refine Jo 12 ?_; rintro a97 k98 rfl
  refine Fb 32 12 fun _ => KS ?_
  refine Oq Vm (Oq Vm (Oa (AsV sl22 sz22 [vi v20_15] [vi v20_15]) fun c100 => ?_))
  refine Jo 0 ?_; rintro a101 k102 rfl
  refine Oq Vm (Oq (Vn 14) (Oq (Vfa fo26_6 14) (Oq (VldF sh22 14) ?_)))
  refine Jl [0] (Ent.crInt _ [v20_15] _ _ rfl rfl (by intro x hx; rw [List.mem_singleton] at hx; subst hx; unfold i64ok; omega) aB1) ?_
  refine Oa (ApO [0, 3] sl22 sl22 sz22) fun c103 => ?_
  refine Jo 0 ?_; rintro a104 k105 rfl
  refine Fb 8 0 fun _ => Fo 0 fun ho107 => ?_
  have hn108 : ([v20_15] ++ st6_14 : List Int).length = 1 + st6_14.length := la ([v20_15] : List Int) st6_14
  refine Oq (Vn 13) (Oq (Vfa fo26_6 13) (Ost (SclF [13] sh22 [vi 2, vl sta1 stk1 st.Cone, vl sta2 stk2 st.Leaf, vi 0, vi st.Edge, vl a97 k98 (st5_13 ++ [rv86]), vl a104 k105 ([v20_15] ++ st6_14), vi st.Steps]) (KS ?_)))
  refine Oq Vadd (Oq Vm (KS ?_))
  exact Kg (r39, (st5_13 ++ [rv86]), ([v20_15] ++ st6_14), (v20_15 + 1), a97, k98, a104, k105) [1, 12, 0, 3, 4, 5, 6, 7, 8, 8] ⟨(q3 hM20 (by simp only [so_begin_L0, h37, h46, hg87, cs4])), aM1, aM1, aM1, aM1, iv1, iv1⟩
 intro h37
 have g109 := df h37
 obtain rfl : r12 = 0 := by omega
 refine Ke ?_
 have hR110 := q2 hM20 (st5_13, st6_14) (by simp only [so_begin_L0, h37, cs4])
 have hq := q4 hrr (GState.mk 2 st.Cone st.Leaf 0 st.Edge st5_13 st6_14 st.Steps) (by simp only [so_begin, h37, hR110, cs4]); subst hq
 exact Kz (vl sta1 stk1 st.Cone, vl sta2 stk2 st.Leaf, vl a16 k17 st5_13, vl a18 k19 st6_14) rfl .nil [2, 7, 7, 1, 0] en
theorem fn83 (s : GSystem) (sa1 : Option Addr) (sk1 : Nat) (sa2 : Option Addr) (sk2 : Nat) (sa3 : Option Addr) (sk3 : Nat) (k : List GKnown) (ka0 : Option Addr) (kk0 : Nat) (stP : Value) (st : GState) (sta1 : Option Addr) (stk1 : Nat) (sta2 : Option Addr) (stk2 : Nat) (sta5 : Option Addr) (stk5 : Nat) (sta6 : Option Addr) (stk6 : Nat) (hs_0 : i64ok s.Width) (hst_0 : i64ok st.Phase) (hst_3 : i64ok st.At) (hst_4 : i64ok st.Edge) (hst_7 : i64ok st.Steps) (hv : VSys s) (hd : DOk s k st) (rr : GState) (hrr : so_expand s k st = rr) : FT Tryz.prog 83 #[.agg #[vi s.Width, vl sa1 sk1 s.Deps, vl sa2 sk2 s.Transfers, vl sa3 sk3 s.Boundary], vl ka0 kk0 k, stP] [S sa1 sk1 s.Deps, S sa2 sk2 s.Transfers, S sa3 sk3 s.Boundary, S ka0 kk0 k, Cl stP [vi st.Phase, vl sta1 stk1 st.Cone, vl sta2 stk2 st.Leaf, vi st.At, vi st.Edge, vl sta5 stk5 st.Values, vl sta6 stk6 st.Queue, vi st.Steps], O sta1 stk1 st.Cone, O sta2 stk2 st.Leaf, O sta5 stk5 st.Values, O sta6 stk6 st.Queue] (fun g : Value × Value × Value × Value => i64ok rr.Phase ∧ i64ok rr.At ∧ i64ok rr.Edge ∧ i64ok rr.Steps) (fun g => .tuple #[]) (fun g => [Cl stP [vi rr.Phase, g.1, g.2.1, vi rr.At, vi rr.Edge, g.2.2.1, g.2.2.2, vi rr.Steps], os g.1 rr.Cone, os g.2.1 rr.Leaf, os g.2.2.1 rr.Values, os g.2.2.2 rr.Queue]) := by
 refine FTi Tryz.func83 fun w0 M0 F0 => ?_
 unfold i64ok at hs_0 hst_0 hst_3 hst_4 hst_7
 refine Fb 24 0 fun _ => Fb 88 1 fun _ => Fb 32 2 fun _ => Fb 40 3 fun _ => Fb 8 5 fun _ => Fo 5 fun ho6 => Fb 1 6 fun _ => Fb 32 7 fun _ => ?_
 refine Fb 8 8 fun _ => Fo 8 fun ho10 => ?_
 have hv1 := hv.n
 have hv2 := hv.tl
 have hv3 := hv.bl
 have hv4 := hv.w
 have hv5 := hv.dep_len
 have hcr := hd.b.cr
 have hq0 := hd.at_
 have hq1 := hd.b.lf
 have hq2 := hd.b.cl
 have hq3 := hd.b.vl
 have hq4 := hd.b.ql
 have hq5 := hd.ed
 have hqa := hcr _ (getD_mem (xs := st.Cone) (i := st.At.toNat) (d := 0) aM1)
 have hfa := pfind_eq k (st.Cone.getD st.At.toNat 0)
 refine KS ?_
 refine Oa (Ab [vi s.Width, vl sa1 sk1 s.Deps, vl sa2 sk2 s.Transfers, vl sa3 sk3 s.Boundary]) fun p11 => KS ?_
 refine Jp 5 fun hp12 => ?_
 refine Kq [0, 1, 3, 7, 0, 16, 48, 112, 255, 511, 1023] fmix ?_
 refine Qv [] Vm (Qv [0] (Vn 0) (Qv [0] (Vfa fo26_1 0) (Qv [6] (VldF sh22 0) (Qv [] Vm (Qv [0] (Vn 0) (Qv [0] (Vfa fo26_3 0) (Qv [6] (VldF sh3 0) (Qv [7] (Vi sl22 0) ?_))))))))
 have hb13 := ok1 (i := st.At.toNat) ho6 rng
 refine Qv [7] (VldI sh3 0) (Qv [] Va ?_)
 refine Qn ⟨by kernel_rfl, ?_⟩
 refine KT ?_
 refine KjC (γ := List Bool) (fun st2_14 => ⟨[(1, vl ka0 kk0 k), (2, stP), (3, p11), (6, vi (st.Cone.getD st.At.toNat 0))], [pv p11 [vi s.Width, vl sa1 sk1 s.Deps, vl sa2 sk2 s.Transfers, vl sa3 sk3 s.Boundary], S sa1 sk1 s.Deps, S sa2 sk2 s.Transfers, S sa3 sk3 s.Boundary, S ka0 kk0 k, Cl stP [vi st.Phase, vl sta1 stk1 st.Cone, vl sta2 stk2 st.Leaf, vi st.At, vi st.Edge, vl sta5 stk5 st.Values, vl sta6 stk6 st.Queue, vi st.Steps], O sta1 stk1 st.Cone, os (vl sta2 stk2 st.Leaf) st2_14, O sta5 stk5 st.Values, O sta6 stk6 st.Queue], so_expand_J0 s k st st2_14 = rr ∧ BOk s k (GState.mk st.Phase st.Cone st2_14 st.At st.Edge st.Values st.Queue st.Steps), 0⟩) ?_ ?_
 ·skip
  refine KS ?_
  refine Oq Vm (Oq (Vn 6) (Oq (Vfa fo26_4 6) (Oq (VldF sh3 6) (Oq Veql (Oq Vm ?_)))))
  refine Js 23 ?_ ?_
  ·intro h17
   have g18 := eq_of_beq h17
   refine Oq Vm (Oq Vm ?_)
   refine letv (so_find k (st.Cone.getD st.At.toNat 0)) fun rv19 hg20 => ?_
   have hc21 := fn118 k ka0 kk0 ((st.Cone.getD st.At.toNat 0)) pre rv19 hg20
   refine Oc [5] ca118 hc21 ?_
   rintro - ⟨he22, he23⟩
   unfold i64ok at he22
   refine Oq Vgeq (Oq Vpt (KS ?_))
   refine Kc ?_ ?_
   ·intro h24
    have g25 := dt h24
    refine JK_drawK [0, 1, 3, 7, 0, 16, 48, 112, 255, 511] fmix ?_
    refine Dv [] Vm (Dv [0] (Vn 0) (Dv [0] (Vfa fo26_2 0) (Dv [6] (VldF sh23 0) (Dv [] Vm (Dv [0] (Vn 0) (Dv [0] (Vfa fo26_3 0) (Dv [6] (VldF sh3 0) (Dv [8] (Vi sl23 0) (Dx0 [8] [8] [0] [fun G => os (vl sta2 stk2 st.Leaf) (st.Leaf.set st.At.toNat true)] (fun G => xS (SoB [0] sh4)) ?_)))))))))
    refine Dn ⟨by kernel_rfl, fun G => ?_⟩
    refine Jw2 [(1, vl ka0 kk0 k), (2, stP), (3, p11), (6, vi (st.Cone.getD st.At.toNat 0))] [0, 1, 2, 3, 4, 5, 6, 7, 9, 10] [os (vl sta2 stk2 st.Leaf) (st.Leaf.set st.At.toNat true)] ?_
    refine Jk [1, 2, 3, 4, 5, 6, 6, 6, 6, 6] ?_
    exact Kg (st.Leaf.set st.At.toNat true) [0, 1, 2, 3, 4, 5, 5, 7, 5, 5] ⟨(q3 hrr (by simp only [so_expand, h17, h24, hg20, cs4])), (by first | assumption | exact hd.b0 _ _ _ _ | exact hd.b1 _ _ _ _ aM1)⟩
   intro h24
   have g26 := df h24
   refine KS ?_
   exact Kg st.Leaf [1, 2, 3, 4, 5, 6, 6, 6, 6, 6] ⟨(q3 hrr (by simp only [so_expand, h17, h24, hg20, cs4])), (by first | assumption | exact hd.b0 _ _ _ _ | exact hd.b1 _ _ _ _ aM1)⟩
  intro h17
  have g27 := ne_of_beq_false h17
  refine Osk (Osk (Osk (Osk (Oq Vpf (KS ?_)))))
  refine Kf (KS ?_)
  exact Kg st.Leaf [1, 2, 3, 4, 5, 6, 6, 6, 6, 6] ⟨(q3 hrr (by simp only [so_expand, h17, cs4])), (by first | assumption | exact hd.b0 _ _ _ _ | exact hd.b1 _ _ _ _ aM1)⟩
 rintro st2_14 ⟨hM15, hv16⟩
 refine JJ_nx fun _ _ hL hA => ?_; dsimp only at hL hA; subst hL hA
 refine Fb 24 1 fun _ => Fb 88 2 fun _ => Fb 32 3 fun _ => Fb 40 4 fun _ => Fb 8 6 fun _ => Fo 6 fun ho33 => Fb 1 7 fun _ => Fl 7 fun hn35 => ?_
 refine Fb 32 8 fun _ => Fb 8 9 fun _ => Fo 9 fun ho38 => ?_
 have hbk := hv16
 have hbl : st2_14.length = st.Cone.length := hbk.lf
 refine KT ?_
 refine KjC (γ := List Bool) (fun st2_39 => ⟨[(1, vl ka0 kk0 k), (2, stP), (3, p11)], [pv p11 [vi s.Width, vl sa1 sk1 s.Deps, vl sa2 sk2 s.Transfers, vl sa3 sk3 s.Boundary], S sa1 sk1 s.Deps, S sa2 sk2 s.Transfers, S sa3 sk3 s.Boundary, S ka0 kk0 k, Cl stP [vi st.Phase, vl sta1 stk1 st.Cone, vl sta2 stk2 st.Leaf, vi st.At, vi st.Edge, vl sta5 stk5 st.Values, vl sta6 stk6 st.Queue, vi st.Steps], O sta1 stk1 st.Cone, os (vl sta2 stk2 st.Leaf) st2_39, O sta5 stk5 st.Values, O sta6 stk6 st.Queue], so_expand_J1 s k st st2_39 = rr ∧ BOk s k (GState.mk st.Phase st.Cone st2_39 st.At st.Edge st.Values st.Queue st.Steps), 0⟩) ?_ ?_
 ·skip
  refine Jp 5 fun hp42 => ?_
  refine bool_split (!(st2_14.getD st.At.toNat false)) ?_ ?_
  ·intro h43
   have h45 := not_true h43
   refine JJ_peekL ((st.Cone.getD st.At.toNat 0) : Int).toNat 2 rfl rng fun a47 k48 => ?_
   refine Fb 8 1 fun _ => Fo 1 fun ho50 => ?_
   refine Kq [0, 1, 3, 7, 0, 16, 48, 112, 255, 511, 1023, 2047, 4095, 8191, 16383, 32767, 4095, 69631, 4095, 462847, 987135, 2035711, 4194303, 8388607] fmix ?_
   refine Qv [] Vm (Qv [2] (Vn 0) (Qv [2] (Vfa fo26_2 0) (Qv [8] (VldF sh23 0) (Qv [] Vm (Qv [2] (Vn 0) (Qv [2] (Vfa fo26_3 0) (Qv [8] (VldF sh3 0) (Qv [10] (Vi sl23 0) (Qv [10] (VldB sh4 0) ?_)))))))))
   refine Qb h43 [] Vnot (Qv [] Vm (Qv [] Vm (Qv [2] (Vn 0) (Qv [2] (Vfa fo26_4 0) (Qv [8] (VldF sh3 0) (Qv [3] (Vfa fo32_1 0) (Qv [3] (VldF sh29 0) (Qv [] Vm (Qv [4] (Vi sl29 0) ?_)))))))))
   refine Qv [0] (Vld sh22 0) (Qv [] (Vlen sl22) (Qv [] Vlss (Qv [] Vpt ?_)))
   refine Qn ⟨by kernel_rfl, ?_⟩
   refine Kc ?_ ?_
   ·intro h51
    have g52 := dt h51
    refine KS ?_
    refine Kq [0, 1, 0, 7, 15, 0, 32, 96, 224, 511, 1023, 2047] fmix ?_
    refine Qv [3] (Vfa fo32_1 0) (Qv [3] (VldF sh29 0) (Qv [] Vm (Qv [4] (Vi sl29 0) (Qv [0] (Vld sh22 0) (Qv [] Vm (Qv [2] (Vn 0) (Qv [2] (Vfa fo26_4 0) (Qv [8] (VldF sh3 0) (Qv [1] (Vi sl22 0) ?_)))))))))
    have hb53 := ok1 (i := st.Edge.toNat) ho50 rng
    refine Qv [1] (VldI sh3 0) (Qv [] Va ?_)
    refine Qn ⟨by kernel_rfl, ?_⟩
    refine KS ?_
    refine Oq Vm (Oq (Vn 8) (Oq (Vfa fo26_1 8) (Oq (VldF sh22 8) (Oq Vm ?_))))
    refine letv (sc_Contains_int st.Cone ((s.Deps.getD ((st.Cone.getD st.At.toNat 0) : Int).toNat []).getD st.Edge.toNat 0)) fun rv54 hg55 => ?_
    refine Oc [9] ca120 (FT_borrow (A := _) (fun _ _ h => by cases h) (FT_ent (Ent.take (is := [0]) rfl) (fn120 st.Cone sta1 stk1 (((s.Deps.getD ((st.Cone.getD st.At.toNat 0) : Int).toNat []).getD st.Edge.toNat 0)) pre rv54 hg55))) ?_ (ht := rfl)
    rintro - -
    refine Oq Vnot (KS ?_)
    refine Kc ?_ ?_
    ·intro h56
     have h58 := not_true h56
     refine KS ?_
     refine Oq Vm (Oq Vm (Oq (Vn 9) (Oq (Vfa fo26_1 9) (Oq (VldF sh22 9) (Oq Vm (Oa (AsV sl22 sz22 [vi ((s.Deps.getD ((st.Cone.getD st.At.toNat 0) : Int).toNat []).getD st.Edge.toNat 0)] [vi ((s.Deps.getD ((st.Cone.getD st.At.toNat 0) : Int).toNat []).getD st.Edge.toNat 0)]) fun c60 => ?_))))))
     refine Jo 0 ?_; rintro a61 k62 rfl
     refine Jl [0] (Ent.crInt _ [((s.Deps.getD ((st.Cone.getD st.At.toNat 0) : Int).toNat []).getD st.Edge.toNat 0)] _ _ rfl rfl (by intro x hx; rw [List.mem_singleton] at hx; subst hx; unfold i64ok; omega) aB1) ?_
     refine Oa (ApO [1, 0] sl22 sl22 sz22) fun c63 => ?_
     refine Jo 0 ?_; rintro a64 k65 rfl
     refine Fb 8 0 fun _ => Fo 0 fun ho67 => ?_
     have hn68 := la st.Cone ([((s.Deps.getD ((st.Cone.getD st.At.toNat 0) : Int).toNat []).getD st.Edge.toNat 0)] : List Int)
     refine Oq (Vn 9) (Oq (Vfa fo26_1 9) (Ost (SclF [9] sh22 [vi st.Phase, .slice a64 ((st.Cone ++ [((s.Deps.getD ((st.Cone.getD st.At.toNat 0) : Int).toNat []).getD st.Edge.toNat 0)]).length) k65, vl sta2 stk2 st.Leaf, vi st.At, vi st.Edge, vl sta5 stk5 st.Values, vl sta6 stk6 st.Queue, vi st.Steps]) (KS ?_)))
     refine Oq Vm (Oq Vm (Oq (Vn 0) (Oq (Vfa fo26_2 0) (Oq (VldF sh23 0) (Oa (AsV sl23 sz23 [vb false] [vb false]) fun c69 => ?_)))))
     refine Jo 0 ?_; rintro a70 k71 rfl
     refine Jl [0] (Ent.cr1 (α := Bool) (A := []) _ false _ aB1 (fun _ => rfl)) ?_
     refine Oa (ApO [11, 0] sl23 sl23 sz23) fun c72 => ?_
     refine Jo 0 ?_; rintro a73 k74 rfl
     refine Fb 1 0 fun _ => ?_
     have hn76 := la st2_14 ([false] : List Bool)
     refine Oq (Vn 1) (Oq (Vfa fo26_2 1) (Ost (SclF [1] sh23 [vi st.Phase, .slice a64 ((st.Cone ++ [((s.Deps.getD ((st.Cone.getD st.At.toNat 0) : Int).toNat []).getD st.Edge.toNat 0)]).length) k65, vl a73 k74 (st2_14 ++ [false]), vi st.At, vi st.Edge, vl sta5 stk5 st.Values, vl sta6 stk6 st.Queue, vi st.Steps]) (KS ?_)))
     refine Oq Vm (Oq (Vn 0) (Oq (Vfa fo26_4 0) (Oq (VldF sh3 0) (Oq Vadd (Oq (Vn 0) (Oq (Vfa fo26_4 0) (Ost (SclF [0] sh3 [vi st.Phase, .slice a64 ((st.Cone ++ [((s.Deps.getD ((st.Cone.getD st.At.toNat 0) : Int).toNat []).getD st.Edge.toNat 0)]).length) k65, vl a73 k74 (st2_14 ++ [false]), vi st.At, vi (st.Edge + 1), vl sta5 stk5 st.Values, vl sta6 stk6 st.Queue, vi st.Steps]) (KS ?_))))))))
     have hq := q4 hM15 (GState.mk st.Phase (st.Cone ++ [((s.Deps.getD ((st.Cone.getD st.At.toNat 0) : Int).toNat []).getD st.Edge.toNat 0)]) (st2_14 ++ [false]) st.At (st.Edge + 1) st.Values st.Queue st.Steps) (by simp only [so_expand_J0, h43, h45, h51, h56, h58, hg55, cs4]); subst hq
     exact Kr (.slice a64 ((st.Cone ++ [((s.Deps.getD ((st.Cone.getD st.At.toNat 0) : Int).toNat []).getD st.Edge.toNat 0)]).length) k65, vl a73 k74 (st2_14 ++ [false]), vl sta5 stk5 st.Values, vl sta6 stk6 st.Queue) rfl .nil [0, 1, 0, 8, 8] en
    intro h56
    have h78 := not_false h56
    refine KS ?_
    refine Oq Vm (Oq (Vn 9) (Oq (Vfa fo26_4 9) (Oq (VldF sh3 9) (Oq Vadd (Oq (Vn 9) (Oq (Vfa fo26_4 9) (Ost (SclF [9] sh3 [vi st.Phase, vl sta1 stk1 st.Cone, vl sta2 stk2 st.Leaf, vi st.At, vi (st.Edge + 1), vl sta5 stk5 st.Values, vl sta6 stk6 st.Queue, vi st.Steps]) (KS ?_))))))))
    have hq := q4 hM15 (GState.mk st.Phase st.Cone st2_14 st.At (st.Edge + 1) st.Values st.Queue st.Steps) (by simp only [so_expand_J0, h43, h45, h51, h56, h78, hg55, cs4]); subst hq
    exact Kr (vl sta1 stk1 st.Cone, vl sta2 stk2 st.Leaf, vl sta5 stk5 st.Values, vl sta6 stk6 st.Queue) rfl .nil [0, 0, 8, 8, 8] en
   intro h51
   have g80 := df h51
   refine KS ?_
   exact Kg st2_14 [3, 4, 5, 6, 7, 8, 8, 8, 8, 8] ⟨(q3 hM15 (by simp only [so_expand_J0, h43, h45, h51, cs4])), (by first | assumption | exact hd.b0 _ _ _ _ | exact hd.b1 _ _ _ _ aM1)⟩
  intro h43
  have h82 := not_false h43
  refine Kq [0, 1, 3, 7, 0, 16, 48, 112, 255, 511, 1023, 2047, 4095, 8191, 16383, 32767, 4095, 69631, 4095, 462847, 987135, 2035711, 4194303, 8388607] fmix ?_
  refine Qv [] Vm (Qv [0] (Vn 0) (Qv [0] (Vfa fo26_2 0) (Qv [6] (VldF sh23 0) (Qv [] Vm (Qv [0] (Vn 0) (Qv [0] (Vfa fo26_3 0) (Qv [6] (VldF sh3 0) (Qv [8] (Vi sl23 0) (Qv [8] (VldB sh4 0) ?_)))))))))
  refine Qb h43 [] Vnot (Qv [] Vm (Qs (Qs (Qs (Qs (Qs (Qs (Qs (Qs ?_)))))))))
  refine Qs (Qs (Qs (Qv [] Vpf ?_)))
  refine Qn ⟨by kernel_rfl, ?_⟩
  refine Kf (KS ?_)
  exact Kg st2_14 [1, 2, 3, 4, 5, 6, 6, 6, 6, 6] ⟨(q3 hM15 (by simp only [so_expand_J0, h43, h82, cs4])), (by first | assumption | exact hd.b0 _ _ _ _ | exact hd.b1 _ _ _ _ aM1)⟩
 rintro st2_39 ⟨hM40, hv41⟩
 refine JJ_nx fun _ _ hL hA => ?_; dsimp only at hL hA; subst hL hA
 refine Fb 24 1 fun _ => Fb 88 2 fun _ => Fb 32 3 fun _ => Fb 40 4 fun _ => Fb 8 6 fun _ => Fo 6 fun ho89 => Fb 1 7 fun _ => Fl 7 fun hn91 => ?_
 refine Fb 32 8 fun _ => Fb 8 9 fun _ => Fo 9 fun ho94 => ?_
 have hbk := hv41
 have hbl : st2_39.length = st.Cone.length := hbk.lf
 refine KS ?_
 refine Oq Vm (Oq Vm (Oq Vm (Oq (Vn 5) (Oq (Vfa fo26_3 5) (Oq (VldF sh3 5) (Oq Vadd (Oq (Vn 5) (Oq (Vfa fo26_3 5) (Ost (SclF [5] sh3 [vi st.Phase, vl sta1 stk1 st.Cone, vl sta2 stk2 st.Leaf, vi (st.At + 1), vi st.Edge, vl sta5 stk5 st.Values, vl sta6 stk6 st.Queue, vi st.Steps]) ?_)))))))))
 refine Oq (Vn 0) (Oq (Vfa fo26_4 0) (Ost (SclF [0] sh3 [vi st.Phase, vl sta1 stk1 st.Cone, vl sta2 stk2 st.Leaf, vi (st.At + 1), vi 0, vl sta5 stk5 st.Values, vl sta6 stk6 st.Queue, vi st.Steps]) (KS ?_)))
 refine Jp 0 fun hp95 => ?_
 refine Kq [0, 1, 3, 7, 0, 16, 48, 112, 240, 511] fmix ?_
 refine Qv [] Vm (Qv [0] (Vn 0) (Qv [0] (Vfa fo26_3 0) (Qv [1] (VldF sh3 0) (Qv [] Vm (Qv [0] (Vn 0) (Qv [0] (Vfa fo26_1 0) (Qv [1] (VldF sh22 0) (Qv [] (Vlen sl22) (Qv [] Veql ?_)))))))))
 refine Qn ⟨by kernel_rfl, ?_⟩
 refine Kc ?_ ?_
 ·intro h96
  have g97 := eq_of_beq h96
  refine KS ?_
  refine Oq (VldA sh32 2) (Oq Vm (Oq Vm ?_))
  refine Fl 8 fun hn98 => ?_; (try unfold vl); rw [← hn98]
  refine letv (so_begin s k (GState.mk st.Phase st.Cone st2_39 (st.At + 1) 0 st.Values st.Queue st.Steps)) fun rv103 hg104 => ?_
  have hc105 := fn124 s sa1 sk1 sa2 sk2 sa3 sk3 k ka0 kk0 stP (GState.mk st.Phase st.Cone st2_39 (st.At + 1) 0 st.Values st.Queue st.Steps) sta1 stk1 sta2 stk2 sta5 stk5 sta6 stk6 pre pre pre pre pre pre (hbk.re _ _ _ _) rv103 hg104
  refine Oc [3, 4, 5, 6, 1, 6, 6, 6, 6] ca124 hc105 ?_
  rintro ⟨c99, c100, c101, c102⟩ ⟨he106, he107, he108, he109⟩
  unfold i64ok at he106 he107 he108 he109
  refine Jo 1 ?_; rintro a110 k111 rfl
  refine Fb 8 1 fun _ => Fo 1 fun ho113 => ?_
  refine Jo 2 ?_; rintro a114 k115 rfl
  refine Fb 1 2 fun _ => ?_
  refine Jo 3 ?_; rintro a117 k118 rfl
  refine Fb 32 3 fun _ => ?_
  refine Jo 4 ?_; rintro a120 k121 rfl
  refine Fb 8 4 fun _ => Fo 4 fun ho123 => KS ?_
  have hq := q4 hM40 rv103 (by simp only [so_expand_J1, h96, hg104, cs4]); subst hq
  exact Kz (vl a110 k111 rv103.Cone, vl a114 k115 rv103.Leaf, vl a117 k118 rv103.Values, vl a120 k121 rv103.Queue) rfl .nil [0, 0, 0, 0, 0] en
 intro h96
 have g124 := ne_of_beq_false h96
 refine KS ?_
 have hq := q4 hM40 (GState.mk st.Phase st.Cone st2_39 (st.At + 1) 0 st.Values st.Queue st.Steps) (by simp only [so_expand_J1, h96, cs4]); subst hq
 exact Kz (vl sta1 stk1 st.Cone, vl sta2 stk2 st.Leaf, vl sta5 stk5 st.Values, vl sta6 stk6 st.Queue) rfl .nil [1, 6, 6, 6, 6] en
theorem fn125 (s : GSystem) (sa1 : Option Addr) (sk1 : Nat) (sa2 : Option Addr) (sk2 : Nat) (sa3 : Option Addr) (sk3 : Nat) (cone : List Int) (conea0 : Option Addr) (conek0 : Nat) (leaf : List Bool) (leafa0 : Option Addr) (leafk0 : Nat) (i : Int) (hs_0 : i64ok s.Width) (hi_0 : i64ok i) (rr : List Int) (hrr : cn_Dependents s cone leaf i = rr) : FT Tryz.prog 125 #[.agg #[vi s.Width, vl sa1 sk1 s.Deps, vl sa2 sk2 s.Transfers, vl sa3 sk3 s.Boundary], vl conea0 conek0 cone, vl leafa0 leafk0 leaf, vi i] [S sa1 sk1 s.Deps, S sa2 sk2 s.Transfers, S sa3 sk3 s.Boundary, S conea0 conek0 cone, S leafa0 leafk0 leaf] (fun g : Value => (rr.length ≤ cone.length)) (fun g => g) (fun g => [os g rr]) := by
 refine FTi Tryz.func125 fun w0 M0 F0 => ?_
 unfold i64ok at hs_0 hi_0
 refine Fb 24 0 fun _ => Fb 88 1 fun _ => Fb 32 2 fun _ => Fb 8 3 fun _ => Fo 3 fun ho5 => Fb 1 4 fun _ => KS ?_
 refine Oa (Ab [vi s.Width, vl sa1 sk1 s.Deps, vl sa2 sk2 s.Transfers, vl sa3 sk3 s.Boundary]) fun p7 => Oq Va (KS ?_)
 refine Oq (VldA sh32 0) ?_
 refine letv (eq_Valid s) fun rv8 hg9 => ?_
 have hc10 := fn117 s sa1 sk1 sa2 sk2 sa3 sk3 pre rv8 hg9
 refine Oc [1, 2, 3] ca117 hc10 ?_
 rintro - -
 refine Oq Vnot (Oq Vm ?_)
 refine Js 15 ?_ ?_
 ·intro h11
  have h13 := not_true h11
  refine Osk (Osk (Osk (Osk (Oq Vpt (Oq Vm (Osk (Osk (Osk (Osk ?_)))))))))
  refine Osk (Oq Vpt (Oq Vm (Osk (Osk (Oq Vpt (Oq Vm (Osk (Osk (Osk ?_)))))))))
  refine Osk (Oq Vpt (KS ?_))
  refine Kt (KS ?_)
  refine Oq Va (KS ?_)
  refine Jl [] (Ent.osNil (α := Int)) ?_
  have hq := q4 hrr ([] : List Int) (by simp only [cn_Dependents, h11, h13, hg9, cs4]); subst hq
  exact Kr (.slice none 0 0) rfl (.tmp rfl .nil) [0] en
 intro h11
 have h16 := not_false h11
 try (have hvs := (EValid_iff s).1 (by simp only [h11, h16, hg9]))
 try (have hcr := (unknowns_iff s cone).1 (by simp only [h11, h16, hg9]))
 refine Oq (VldA sh32 0) (Oq Vm ?_)
 refine letv (cn_unknowns s cone) fun rv18 hg19 => ?_
 have hc20 := fn160 s sa1 sk1 sa2 sk2 sa3 sk3 cone conea0 conek0 pre rv18 hg19
 refine Oc [1, 2, 3, 4] ca160 hc20 ?_
 rintro - -
 refine Oq Vnot (Oq Vpf (Oq Vm ?_))
 refine Js 21 ?_ ?_
 ·intro h21
  have h23 := not_true h21
  refine Osk (Osk (Osk (Osk (Osk (Oq Vpt (Oq Vm (Osk (Osk (Oq Vpt ?_)))))))))
  refine Oq Vm (Osk (Osk (Osk (Osk (Oq Vpt (KS ?_))))))
  refine Kt (KS ?_)
  refine Oq Va (KS ?_)
  refine Jl [] (Ent.osNil (α := Int)) ?_
  have hq := q4 hrr ([] : List Int) (by simp only [cn_Dependents, h11, h16, h21, h23, hg9, hg19, cs4]); subst hq
  exact Kr (.slice none 0 0) rfl (.tmp rfl .nil) [0] en
 intro h21
 have h26 := not_false h21
 try (have hvs := (EValid_iff s).1 (by simp only [h11, h16, h21, h26, hg9, hg19]))
 try (have hcr := (unknowns_iff s cone).1 (by simp only [h11, h16, h21, h26, hg9, hg19]))
 refine Oq Vm (Oq (Vlen sl23) (Oq Vm (Oq (Vlen sl22) (Oq Vneq (Oq Vpf (Oq Vm ?_))))))
 refine Js 28 ?_ ?_
 ·intro h28
  have g29 := ne_of_bne h28
  refine Osk (Osk (Oq Vpt (Oq Vm (Osk (Osk (Osk (Osk (Oq Vpt (KS ?_)))))))))
  refine Kt (KS ?_)
  refine Oq Va (KS ?_)
  refine Jl [] (Ent.osNil (α := Int)) ?_
  have hq := q4 hrr ([] : List Int) (by simp only [cn_Dependents, h11, h16, h21, h26, h28, hg9, hg19, cs4]); subst hq
  exact Kr (.slice none 0 0) rfl (.tmp rfl .nil) [0] en
 intro h28
 have g30 := eq_of_bne_false h28
 refine Oq Vm (Oq Vlss (Oq Vpf (Oq Vm ?_)))
 refine Js 32 ?_ ?_
 ·intro h31
  have g32 := dt h31
  refine Osk (Osk (Osk (Osk (Oq Vpt (KS ?_)))))
  refine Kt (KS ?_)
  refine Oq Va (KS ?_)
  refine Jl [] (Ent.osNil (α := Int)) ?_
  have hq := q4 hrr ([] : List Int) (by simp only [cn_Dependents, h11, h16, h21, h26, h28, h31, hg9, hg19, cs4]); subst hq
  exact Kr (.slice none 0 0) rfl (.tmp rfl .nil) [0] en
 intro h31
 have g33 := df h31
 refine Oq Vm (Oq Vm (Oq (Vlen sl22) (Oq Vgeq (Oq Vpf (KS ?_)))))
 refine Kc ?_ ?_
 ·intro h34
  have g35 := dt h34
  refine KS ?_
  refine Oq Va (KS ?_)
  refine Jl [] (Ent.osNil (α := Int)) ?_
  have hq := q4 hrr ([] : List Int) (by simp only [cn_Dependents, h11, h16, h21, h26, h28, h31, h34, hg9, hg19, cs4]); subst hq
  exact Kr (.slice none 0 0) rfl (.tmp rfl .nil) [0] en
 intro h34
 have g36 := df h34
 refine KS ?_
 refine Oq Va (KS ?_)
 refine Oq Vm (Oq (Vlen sl22) (Oq Vm (KS ?_)))
 refine Jl [] (Ent.osNil (α := Int)) ?_
 refine Kl (γ := Nat × List Int × Int × Option Addr × Nat) (fun (r37, out_38, v40_39, a40, k41) => ⟨[(1, vl conea0 conek0 cone), (2, vl leafa0 leafk0 leaf), (3, vi i), (4, p7), (9, vl a40 k41 out_38), (38, vl conea0 conek0 cone), (39, vi (cone.length : Int)), (40, vi v40_39)], [O a40 k41 out_38, pv p7 [vi s.Width, vl sa1 sk1 s.Deps, vl sa2 sk2 s.Transfers, vl sa3 sk3 s.Boundary], S sa1 sk1 s.Deps, S sa2 sk2 s.Transfers, S sa3 sk3 s.Boundary, S conea0 conek0 cone, S leafa0 leafk0 leaf], cn_Dependents_L0 s cone leaf i r37 out_38 v40_39 = cn_Dependents_L0 s cone leaf i (((cone.length : Int) - 0).toNat) [] 0 ∧ r37 = ((cone.length : Int) - v40_39).toNat ∧ (0 : Int) ≤ v40_39 ∧ v40_39 ≤ (cone.length : Int) ∧ (-9223372036854775808 ≤ v40_39 ∧ v40_39 ≤ 9223372036854775807) ∧ (out_38.length : Int) ≤ v40_39, r37⟩) (((cone.length : Int) - 0).toNat, [], 0, none, 0) [0, 0, 1, 2, 3, 4, 5] ⟨rfl, rfl, aM1, aM1, aM1, iv0⟩ ?_
 rintro ⟨r37, out_38, v40_39, a40, k41⟩ ⟨hM42, hr43, hi44, hi45, hk46, hv47⟩
 refine JJ_nx fun _ _ hL hA => ?_; dsimp only at hL hA; subst hL hA
 refine Fb 8 0 fun _ => Fo 0 fun ho49 => Fb 24 2 fun _ => Fb 88 3 fun _ => Fb 32 4 fun _ => Fb 8 5 fun _ => Fo 5 fun ho54 => Fb 1 6 fun _ => KS ?_
 refine Oq Vlss (KS ?_)
 refine Kc ?_ ?_
 ·intro h56
  have g57 := dt h56
  have hq := hcr _ (getD_mem (xs := cone) (i := v40_39.toNat) (d := 0) aM1)
  obtain ⟨r58, rfl⟩ := scc (n := r37) aM1
  refine KS ?_
  refine Oq Vm (Oq (Vi sl22 5) ?_)
  have hb59 := ok1 (i := v40_39.toNat) ho54 rng
  refine Oq (VldI sh3 5) (Oq Va (Oq Va (KS ?_)))
  refine bool_split (!(leaf.getD v40_39.toNat false)) ?_ ?_
  ·intro h60
   have h62 := not_true h60
   refine JJ_peekL ((cone.getD v40_39.toNat 0) : Int).toNat 2 rfl rng fun a64 k65 => ?_
   refine Fb 8 1 fun _ => Fo 1 fun ho67 => ?_
   refine JK_drawK [0, 0, 3, 7, 15, 31, 63, 127, 63, 511, 1023, 63, 63, 6207, 14399, 32767, 65535] fmix ?_
   refine Dv [] Vm (Dv [] Vm (Dv [8] (Vi sl23 0) (Dv [8] (VldB sh4 0) (Db h60 [] Vnot (Dv [] Vm (Dv [3] (Vfa fo32_1 0) (Dv [3] (VldF sh29 0) (Dv [] Vm (Dv [4] (Vi sl29 0) ?_)))))))))
   refine Dv [0] (Vld sh22 0) (Dv [] Vm (Dv [] Vm (Dv [7] (Vi sl22 0) ?_)))
   have hb68 := ok1 (i := i.toNat) ho54 rng
   refine Dv [7] (VldI sh3 0) ?_
   refine letv (sc_Contains_int (s.Deps.getD ((cone.getD v40_39.toNat 0) : Int).toNat []) (cone.getD i.toNat 0)) fun rv69 hg70 => ?_
   refine Dx [1] [] [1, 0] (fun G => vb rv69) [fun G => SP.fact (True)] (fun G => xC [0] ca120 (fn120 ((s.Deps.getD ((cone.getD v40_39.toNat 0) : Int).toNat [])) a64 k65 ((cone.getD i.toNat 0)) pre rv69 hg70)) (Dv [] Vpt ?_)
   refine Dn ⟨by kernel_rfl, fun G => ?_⟩
   refine Jw2 [(1, vl conea0 conek0 cone), (2, vl leafa0 leafk0 leaf), (3, vi i), (4, p7), (9, vl a40 k41 out_38), (38, vl conea0 conek0 cone), (39, vi (cone.length : Int)), (40, vi v40_39), (10, vi v40_39), (61, vb rv69)] [0, 1, 2, 3, 4, 5, 6, 7, 8] [SP.fact (True)] ?_
   refine Jk [0, 1, 2, 2, 3, 4, 5, 6, 7] ?_
   refine Kc ?_ ?_
   ·intro h71
    try (have hvs := (EValid_iff s).1 (by simp only [h11, h16, h21, h26, h28, h31, h34, h56, h60, h62, h71, hg9, hg19, hg70]))
    try (have hcr := (unknowns_iff s cone).1 (by simp only [h11, h16, h21, h26, h28, h31, h34, h56, h60, h62, h71, hg9, hg19, hg70]))
    refine KS ?_
    refine Oq Vm (Oq Vm (Oa (AsV sl22 sz22 [vi v40_39] [vi v40_39]) fun c73 => ?_))
    refine Jo 0 ?_; rintro a74 k75 rfl
    refine Jl [0] (Ent.crInt _ [v40_39] _ _ rfl rfl (by intro x hx; rw [List.mem_singleton] at hx; subst hx; unfold i64ok; omega) aB1) ?_
    refine Oa (ApO [3, 0] sl22 sl22 sz22) fun c76 => ?_
    refine Jo 0 ?_; rintro a77 k78 rfl
    refine Fb 8 0 fun _ => Fo 0 fun ho80 => ?_
    have hn81 := la out_38 ([v40_39] : List Int)
    refine Oq Va (KS ?_)
    refine Oq Vadd (Oq Vm (KS ?_))
    exact Kg (r58, (out_38 ++ [v40_39]), (v40_39 + 1), a77, k78) [0, 2, 3, 4, 5, 6, 7] ⟨(q3 hM42 (by simp only [cn_Dependents_L0, h56, h60, h62, h71, hg70, cs4])), aM1, aM1, aM1, aM1, iv1⟩
   intro h71
   refine KS ?_
   refine Oq Vadd (Oq Vm (KS ?_))
   exact Kg (r58, out_38, (v40_39 + 1), a40, k41) [2, 2, 3, 4, 5, 6, 7] ⟨(q3 hM42 (by simp only [cn_Dependents_L0, h56, h60, h62, h71, hg70, cs4])), aM1, aM1, aM1, aM1, iv1⟩
  intro h60
  have h84 := not_false h60
  refine Kq [0, 0, 3, 7, 15, 31, 63, 127, 63, 511, 1023, 63, 63, 6207, 14399, 32767, 65535] fmix ?_
  refine Qv [] Vm (Qv [] Vm (Qv [6] (Vi sl23 0) (Qv [6] (VldB sh4 0) (Qb h60 [] Vnot (Qv [] Vm (Qs (Qs (Qs (Qs ?_)))))))))
  refine Qs (Qs (Qs (Qs (Qs (Qs (Qv [] Vpf ?_))))))
  refine Qn ⟨by kernel_rfl, ?_⟩
  refine Kf (KS ?_)
  refine Oq Vadd (Oq Vm (KS ?_))
  exact Kg (r58, out_38, (v40_39 + 1), a40, k41) [0, 0, 1, 2, 3, 4, 5] ⟨(q3 hM42 (by simp only [cn_Dependents_L0, h56, h60, h84, cs4])), aM1, aM1, aM1, aM1, iv1⟩
 intro h56
 have g86 := df h56
 obtain rfl : r37 = 0 := by omega
 refine Ke ?_
 have hR87 := q2 hM42 out_38 (by simp only [cn_Dependents_L0, h56, cs4])
 refine KS ?_
 refine Oq Vm (Oq Va (KS ?_))
 have hq := q4 hrr out_38 (by simp only [cn_Dependents, h11, h16, h21, h26, h28, h31, h34, h56, hg9, hg19, hR87, cs4]); subst hq
 exact Kr (vl a40 k41 out_38) rfl (.tmp rfl .nil) [0] en
theorem fn164 (a : GSet) (aa1 : Option Addr) (ak1 : Nat) (b : GSet) (ba1 : Option Addr) (bk1 : Nat) (combineF : FuncId) (combineC : List Value) (combinep : (BitVec 64) → (BitVec 64) → (BitVec 64)) (combineA : List SP) (ha_0 : i64ok a.Width) (hb_0 : i64ok b.Width) (hcombinec : callable Tryz.prog combineF = true) (hcombineF : ∀ x0 x1, FT Tryz.prog combineF ([u64 x0, u64 x1] ++ combineC).toArray ([] ++ [pAll combineA]) (fun _ : Unit => True) (fun _ => u64 (combinep x0 x1)) (fun _ => [])) (rr : GSet × Int) (hrr : bt_merge a b combinep = rr) : FT Tryz.prog 164 #[.agg #[vi a.Width, vl aa1 ak1 a.Words], .agg #[vi b.Width, vl ba1 bk1 b.Words], .func (.func combineF) #[] combineC.toArray] [S aa1 ak1 a.Words, S ba1 bk1 b.Words, pAll combineA] (fun g : Value => i64ok rr.1.Width ∧ i64ok rr.2) (fun g => .tuple #[.agg #[vi rr.1.Width, g], vi rr.2]) (fun g => [sl g rr.1.Words]) := by
 refine FTi Tryz.func164 fun w0 M0 F0 => ?_
 unfold i64ok at ha_0 hb_0
 refine Fb 8 0 fun _ => Fb 8 1 fun _ => KS ?_
 refine Oa (Ab [vi a.Width, vl aa1 ak1 a.Words]) fun p3 => Oa (Ab [vi b.Width, vl ba1 bk1 b.Words]) fun p4 => Oa (Al ze39 [vi 0, .slice none 0 0]) fun p5 => Oq Va (KS ?_)
 refine Oq (VldA sh39 2) ?_
 refine letv (bt_Valid a) fun rv6 hg7 => ?_
 have hc8 := fn72 a aa1 ak1 pre rv6 hg7
 refine Oc [3] ca72 hc8 ?_
 rintro - -
 refine Oq Vnot (Oq Vm ?_)
 refine Js 14 ?_ ?_
 ·intro h9
  have h11 := not_true h9
  refine Osk (Osk (Osk (Oq Vpt (Oq Va (KS ?_)))))
  refine Kt (KS ?_)
  refine Oq (Vbd st39 [vi 0, .slice none 0 0]) (Ost (Scl [0] sh39 [vi 0, .slice none 0 0]) (Oq Va (KS ?_)))
  refine Jl [] (Ent.slNil (α := BitVec 64)) ?_
  have hq := q4 hrr ((GSet.mk 0 []), 1) (by simp only [bt_merge, h9, h11, hg7, cs4]); subst hq
  exact Kr (.slice none 0 0) rfl (.cellN 1 rfl sh39 rfl (reads_Cl _ _) rfl (.tmp rfl .nil)) [0] en
 intro h9
 have h14 := not_false h9
 try have hra := PV_w (s := a) (by simp only [h9, h14, hg7])
 try have hrb := PV_w (s := b) (by simp only [h9, h14, hg7])
 refine Oq (VldA sh39 1) ?_
 refine letv (bt_Valid b) fun rv16 hg17 => ?_
 have hc18 := fn72 b ba1 bk1 pre rv16 hg17
 refine Oc [4] ca72 hc18 ?_
 rintro - -
 refine Oq Vnot (Oq Vpf (Oq Va (KS ?_)))
 refine Kc ?_ ?_
 ·intro h19
  have h21 := not_true h19
  refine KS ?_
  refine Oq (Vbd st39 [vi 0, .slice none 0 0]) (Ost (Scl [0] sh39 [vi 0, .slice none 0 0]) (Oq Va (KS ?_)))
  refine Jl [] (Ent.slNil (α := BitVec 64)) ?_
  have hq := q4 hrr ((GSet.mk 0 []), 1) (by simp only [bt_merge, h9, h14, h19, h21, hg7, hg17, cs4]); subst hq
  exact Kr (.slice none 0 0) rfl (.cellN 1 rfl sh39 rfl (reads_Cl _ _) rfl (.tmp rfl .nil)) [0] en
 intro h19
 have h24 := not_false h19
 try have hra := PV_w (s := a) (by simp only [h9, h14, h19, h24, hg7, hg17])
 try have hrb := PV_w (s := b) (by simp only [h9, h14, h19, h24, hg7, hg17])
 refine KS ?_
 refine Oq (Vfa fo39_0 2) (Oq (VldF sh3 2) (Oq (Vfa fo39_0 1) (Oq (VldF sh3 1) (Oq Vneq (Oq Va (KS ?_))))))
 refine Kc ?_ ?_
 ·intro h26
  have g27 := ne_of_bne h26
  refine KS ?_
  refine Oq (Vbd st39 [vi 0, .slice none 0 0]) (Ost (Scl [0] sh39 [vi 0, .slice none 0 0]) (Oq Va (KS ?_)))
  refine Jl [] (Ent.slNil (α := BitVec 64)) ?_
  have hq := q4 hrr ((GSet.mk 0 []), 2) (by simp only [bt_merge, h9, h14, h19, h24, h26, hg7, hg17, cs4]); subst hq
  exact Kr (.slice none 0 0) rfl (.cellN 1 rfl sh39 rfl (reads_Cl _ _) rfl (.tmp rfl .nil)) [0] en
 intro h26
 have g28 := eq_of_bne_false h26
 refine KS ?_
 refine JK_drawK [0, 1, 0, 4, 12, 28, 63, 0, 255] fmix ?_
 refine Dv [2] (Vfa fo39_0 0) (Dv [2] (VldF sh3 0) (Dv [2] (Vfa fo39_1 0) (Dv [2] (VldF sh37 0) (Dv [] (Vlen sl37) ?_))))
 have hn30 := List.length_replicate (n := (a.Words.length : Int).toNat) (a := (0#64 : BitVec 64))
 refine Dx [] [] [0] (fun G => (G.g 5 0)) [fun G => os (G.g 5 0) ((List.replicate (a.Words.length : Int).toNat 0#64) : List (BitVec 64))] (fun G => xA (Amk (α := BitVec 64) sl37 sz37 0#64 (fun _ _ => rfl))) ?_
 refine Dx [6] [] [0] (fun G => .agg #[vi a.Width, (G.g 5 0)]) [] (fun G => xV (v := .agg #[vi a.Width, (G.g 5 0)]) (Vo 0 rfl (isO_os _ _) fun aq31 kq32 eq33 => (by rw [eq33]; exact Vbd st39 [vi a.Width, .slice aq31 (((List.replicate (a.Words.length : Int).toNat 0#64) : List (BitVec 64)).length) kq32]))) (Dx [] [] [0] (fun G => (G.g 7 0)) [fun G => Cl (G.g 7 0) [vi 0, .slice none 0 0]] (fun G => xA (Al ze39 [vi 0, .slice none 0 0])) (Dx0 [6, 7] [7] [1, 0] [fun G => Cl (G.g 7 0) [vi a.Width, (G.g 5 0)]] (fun G => x1 0 rfl os_one fun ho35 => (xS (Scl [1] sh39 [vi a.Width, (G.g 5 0)] (v := .agg #[vi a.Width, (G.g 5 0)]) (h1 := show [vi a.Width, (G.g 5 0)].all (·.oneCell') = true from (by simp only [List.all_cons, List.all_nil, ho35, Bool.and_true, Bool.true_and] <;> rfl))))) ?_))
 refine Dn ⟨by kernel_rfl, fun G => ?_⟩
 refine Jw2 [(2, .func (.func combineF) #[] combineC.toArray), (3, p3), (4, p4), (6, p5), (8, (G.g 7 0))] [0, 1, 2, 3, 4, 5] [os (G.g 5 0) ((List.replicate (a.Words.length : Int).toNat 0#64) : List (BitVec 64)), Cl (G.g 7 0) [vi a.Width, (G.g 5 0)]] ?_
 generalize G.g 5 0 = c29, G.g 7 0 = p34
 refine Jo 6 ?_; rintro a36 k37 rfl
 refine Fb 8 6 fun _ => KS ?_
 refine Oq (Vfa fo39_1 7) (Oq (VldF sh37 7) (Oq (Vlen sl37) (Oq Vm (KS ?_))))
 refine Kl (γ := Nat × List (BitVec 64) × Int) (fun (r39, out1_40, v37_41) => ⟨[(2, .func (.func combineF) #[] combineC.toArray), (3, p3), (4, p4), (6, p5), (8, p34), (36, vi (((List.replicate (a.Words.length : Int).toNat 0#64).length : Nat) : Int)), (37, vi v37_41)], [Cl p5 [vi 0, .slice none 0 0], pv p4 [vi b.Width, vl ba1 bk1 b.Words], pv p3 [vi a.Width, vl aa1 ak1 a.Words], S aa1 ak1 a.Words, S ba1 bk1 b.Words, pAll combineA, os (vl a36 k37 (List.replicate (a.Words.length : Int).toNat 0#64)) out1_40, Cl p34 [vi a.Width, vl a36 k37 (List.replicate (a.Words.length : Int).toNat 0#64)]], bt_merge_L0 a b combinep r39 out1_40 v37_41 = bt_merge_L0 a b combinep ((((((List.replicate (a.Words.length : Int).toNat 0#64).length : Nat) : Int) : Int) - 0).toNat) (List.replicate (a.Words.length : Int).toNat 0#64) 0 ∧ r39 = (((((List.replicate (a.Words.length : Int).toNat 0#64).length : Nat) : Int) : Int) - v37_41).toNat ∧ (0 : Int) ≤ v37_41 ∧ (v37_41 ≤ (((List.replicate (a.Words.length : Int).toNat 0#64).length : Nat) : Int) ∨ v37_41 = 0) ∧ (-9223372036854775808 ≤ v37_41 ∧ v37_41 ≤ 9223372036854775807) ∧ out1_40.length = a.Words.length, r39⟩) ((((((List.replicate (a.Words.length : Int).toNat 0#64).length : Nat) : Int) : Int) - 0).toNat, (List.replicate (a.Words.length : Int).toNat 0#64), 0) [0, 0, 1, 2, 3, 4, 5, 5] ⟨rfl, rfl, aM1, (.inr rfl), aM1, iv0⟩ ?_
 rintro ⟨r39, out1_40, v37_41⟩ ⟨hM42, hr43, hi44, hi45, hk46, hv47⟩
 refine JJ_nx fun _ _ hL hA => ?_; dsimp only at hL hA; subst hL hA
 refine Fb 8 3 fun _ => Fb 8 4 fun _ => Fb 8 6 fun _ => Fl 6 fun hn51 => ?_
 refine KS ?_
 refine Oq Vlss (KS ?_)
 refine Kc ?_ ?_
 ·intro h52
  have g53 := dt h52
  obtain ⟨r54, rfl⟩ := scc (n := r39) aM1
  refine KS ?_
  refine Oq Vm (Oq Va (KS ?_))
  refine Jp 7 fun hp55 => ?_
  refine JK_drawK [0, 1, 0, 0, 0, 16, 0, 112, 240, 0, 512, 0, 3584, 7680, 16376, 32767, 65535] fmix ?_
  refine Dv [0] (Vfa fo39_1 0) (Dv [8] (VldF sh37 0) (Dv [] Vm (Dv [] Vm (Dv [3] (Vfa fo39_1 0) (Dv [3] (VldF sh37 0) (Dv [] Vm (Dv [4] (Vi sl37 0) (Dv [4] (VldU sh68 0) (Dv [2] (Vfa fo39_1 0) ?_)))))))))
  refine Dv [2] (VldF sh37 0) (Dv [] Vm (Dv [5] (Vi sl37 0) (Dv [5] (VldU sh68 0) (Dx [6] [] [1, 0] (fun G => u64 (combinep (a.Words.getD v37_41.toNat 0#64) (b.Words.getD v37_41.toNat 0#64))) [fun G => SP.fact (True)] (fun G => xE (asv := [(u64 (a.Words.getD v37_41.toNat 0#64) : Value), (u64 (b.Words.getD v37_41.toNat 0#64) : Value)] ++ combineC) [0] hcombinec rfl rfl rfl (by simp) rfl (hcombineF (a.Words.getD v37_41.toNat 0#64) (b.Words.getD v37_41.toNat 0#64)  )) (Dv [7] (Vi sl37 0) (Dx0 [7] [7] [0] [fun G => os (vl a36 k37 (List.replicate (a.Words.length : Int).toNat 0#64)) (out1_40.set v37_41.toNat (combinep (a.Words.getD v37_41.toNat 0#64) (b.Words.getD v37_41.toNat 0#64)))] (fun G => xS (SoU [0] sh68)) ?_))))))
  refine Dn ⟨by kernel_rfl, fun G => ?_⟩
  refine Jw2 [(2, .func (.func combineF) #[] combineC.toArray), (3, p3), (4, p4), (6, p5), (8, p34), (36, vi (((List.replicate (a.Words.length : Int).toNat 0#64).length : Nat) : Int)), (37, vi v37_41)] [0, 1, 2, 3, 4, 5, 6, 8] [SP.fact (True), os (vl a36 k37 (List.replicate (a.Words.length : Int).toNat 0#64)) (out1_40.set v37_41.toNat (combinep (a.Words.getD v37_41.toNat 0#64) (b.Words.getD v37_41.toNat 0#64)))] ?_
  refine Jk [1, 1, 2, 3, 4, 5, 6, 7] ?_
  refine KS ?_
  refine Oq Vadd (Oq Vm (KS ?_))
  exact Kg (r54, (out1_40.set v37_41.toNat (combinep (a.Words.getD v37_41.toNat 0#64) (b.Words.getD v37_41.toNat 0#64))), (v37_41 + 1)) [0, 0, 1, 2, 3, 4, 6, 5] ⟨(q3 hM42 (by simp only [bt_merge_L0, h52, cs4])), aM1, aM1, aM1, aM1, iv1⟩
 intro h52
 have g56 := df h52
 obtain rfl : r39 = 0 := by omega
 refine Ke ?_
 have hR57 := q2 hM42 out1_40 (by simp only [bt_merge_L0, h52, cs4])
 refine KS ?_
 refine Oq (VldA sh39 7) (Ost (Scl [0] sh39 [vi a.Width, vl a36 k37 (List.replicate (a.Words.length : Int).toNat 0#64)]) (Oq Va (KS ?_)))
 refine Jl [6] (Ent.freeze _ _) ?_
 have hq := q4 hrr ((GSet.mk a.Width out1_40), 0) (by simp only [bt_merge, h9, h14, h19, h24, h26, h52, hg7, hg17, hR57, cs4]); subst hq
 exact Kr (vl a36 k37 (List.replicate (a.Words.length : Int).toNat 0#64)) rfl (.cellN 1 rfl sh39 rfl (reads_Cl _ _) rfl (.tmp rfl .nil)) [0] en
theorem fn165 (x : BitVec 64) (y : BitVec 64) (rr : BitVec 64) (hrr : bt_Union_1 x y = rr) : FT Tryz.prog 165 #[u64 x, u64 y] [] (fun g : Unit => True) (fun g => u64 rr) (fun g => []) := by
 refine FTi Tryz.func165 fun w0 M0 F0 => ?_
 refine KS ?_
 refine Oq Va (KS ?_)
 refine Oq Vm (Oq Vm (Oq VorU (Oq Va (KS ?_))))
 have hq := q4 hrr (x ||| y) (by simp only [bt_Union_1, cs4]); subst hq
 exact Kr () rfl (.tmp rfl .nil) [] trivial
theorem fn127 (a : GSet) (aa1 : Option Addr) (ak1 : Nat) (b : GSet) (ba1 : Option Addr) (bk1 : Nat) (ha_0 : i64ok a.Width) (hb_0 : i64ok b.Width) (rr : GSet × Int) (hrr : bt_Union a b = rr) : FT Tryz.prog 127 #[.agg #[vi a.Width, vl aa1 ak1 a.Words], .agg #[vi b.Width, vl ba1 bk1 b.Words]] [S aa1 ak1 a.Words, S ba1 bk1 b.Words] (fun g : Value => i64ok rr.1.Width ∧ i64ok rr.2) (fun g => .tuple #[.agg #[vi rr.1.Width, g], vi rr.2]) (fun g => [sl g rr.1.Words]) := by
 refine FTi Tryz.func127 fun w0 M0 F0 => ?_
 unfold i64ok at ha_0 hb_0
 refine Fb 8 0 fun _ => Fb 8 1 fun _ => KS ?_
 refine Oa (Ab [vi a.Width, vl aa1 ak1 a.Words]) fun p3 => Oa (Ab [vi b.Width, vl ba1 bk1 b.Words]) fun p4 => Oa (Al ze39 [vi 0, .slice none 0 0]) fun p5 => Oq Va (KS ?_)
 refine Oq (VldA sh39 2) (Oq (VldA sh39 1) ?_)
 refine JJ_ent (Ent.pall [] rfl rfl) ?_
 refine letv (bt_merge a b (fun x0 x1 => bt_Union_1 x0 x1)) fun rv7 hg8 => ?_
 have hc9 := fn164 a aa1 ak1 b ba1 bk1 165 [] (fun x0 x1 => bt_Union_1 x0 x1) [] pre pre ca165 (fun x0 x1 => FT_pall (A1 := []) (fn165 x0 x1   _ rfl)) rv7 hg8
 refine Oc [4, 5, 0] ca164 hc9 ?_
 rintro c6 ⟨he10, he11⟩
 unfold i64ok at he10 he11
 refine Jo 0 ?_; rintro a12 k13 rfl
 refine Fb 8 0 fun _ => ?_
 refine Oq Vx (Oq Vx (Ost (Scl [2] sh39 [vi rv7.1.Width, vl a12 k13 rv7.1.Words]) (Oq Va (KS ?_))))
 have hq := q4 hrr (rv7.1, rv7.2) (by simp only [bt_Union, hg8, cs4]); subst hq
 exact Kr (vl a12 k13 rv7.1.Words) rfl (.cellN 0 rfl sh39 rfl (reads_Cl _ _) rfl (.tmp rfl .nil)) [1] en
theorem fn189 (x : BitVec 64) (y : BitVec 64) (rr : BitVec 64) (hrr : bt_Diff_1 x y = rr) : FT Tryz.prog 189 #[u64 x, u64 y] [] (fun g : Unit => True) (fun g => u64 rr) (fun g => []) := by
 refine FTi Tryz.func189 fun w0 M0 F0 => ?_
 refine KS ?_
 refine Oq Va (KS ?_)
 refine Oq Vm (Oq Vm (Oq VandNotU (Oq Va (KS ?_))))
 have hq := q4 hrr (x &&& ~~~y) (by simp only [bt_Diff_1, cs4]); subst hq
 exact Kr () rfl (.tmp rfl .nil) [] trivial
theorem fn180 (a : GSet) (aa1 : Option Addr) (ak1 : Nat) (b : GSet) (ba1 : Option Addr) (bk1 : Nat) (ha_0 : i64ok a.Width) (hb_0 : i64ok b.Width) (rr : GSet × Int) (hrr : bt_Diff a b = rr) : FT Tryz.prog 180 #[.agg #[vi a.Width, vl aa1 ak1 a.Words], .agg #[vi b.Width, vl ba1 bk1 b.Words]] [S aa1 ak1 a.Words, S ba1 bk1 b.Words] (fun g : Value => i64ok rr.1.Width ∧ i64ok rr.2) (fun g => .tuple #[.agg #[vi rr.1.Width, g], vi rr.2]) (fun g => [sl g rr.1.Words]) := by
 refine FTi Tryz.func180 fun w0 M0 F0 => ?_
 unfold i64ok at ha_0 hb_0
 refine Fb 8 0 fun _ => Fb 8 1 fun _ => KS ?_
 refine Oa (Ab [vi a.Width, vl aa1 ak1 a.Words]) fun p3 => Oa (Ab [vi b.Width, vl ba1 bk1 b.Words]) fun p4 => Oa (Al ze39 [vi 0, .slice none 0 0]) fun p5 => Oq Va (KS ?_)
 refine Oq (VldA sh39 2) (Oq (VldA sh39 1) ?_)
 refine JJ_ent (Ent.pall [] rfl rfl) ?_
 refine letv (bt_merge a b (fun x0 x1 => bt_Diff_1 x0 x1)) fun rv7 hg8 => ?_
 have hc9 := fn164 a aa1 ak1 b ba1 bk1 189 [] (fun x0 x1 => bt_Diff_1 x0 x1) [] pre pre ca189 (fun x0 x1 => FT_pall (A1 := []) (fn189 x0 x1   _ rfl)) rv7 hg8
 refine Oc [4, 5, 0] ca164 hc9 ?_
 rintro c6 ⟨he10, he11⟩
 unfold i64ok at he10 he11
 refine Jo 0 ?_; rintro a12 k13 rfl
 refine Fb 8 0 fun _ => ?_
 refine Oq Vx (Oq Vx (Ost (Scl [2] sh39 [vi rv7.1.Width, vl a12 k13 rv7.1.Words]) (Oq Va (KS ?_))))
 have hq := q4 hrr (rv7.1, rv7.2) (by simp only [bt_Diff, hg8, cs4]); subst hq
 exact Kr (vl a12 k13 rv7.1.Words) rfl (.cellN 0 rfl sh39 rfl (reads_Cl _ _) rfl (.tmp rfl .nil)) [1] en
theorem fn190 (s : GSet) (sa1 : Option Addr) (sk1 : Nat) (b : Int) (hs_0 : i64ok s.Width) (hb_0 : i64ok b) (rr : Bool) (hrr : bt_within s b = rr) : FT Tryz.prog 190 #[.agg #[vi s.Width, vl sa1 sk1 s.Words], vi b] [S sa1 sk1 s.Words] (fun g : Unit => True) (fun g => vb rr) (fun g => []) := by
 refine FTi Tryz.func190 fun w0 M0 F0 => ?_
 unfold i64ok at hs_0 hb_0
 refine Fb 8 0 fun _ => KS ?_
 refine Oa (Ab [vi s.Width, vl sa1 sk1 s.Words]) fun p2 => Oq Va (KS ?_)
 refine Oq Vm (Oq Vgeq (Oq Vm ?_))
 refine Js 7 ?_ ?_
 ·intro h3
  have g4 := dt h3
  refine Oq Vm (Oq (Vfa fo39_0 0) (Oq (VldF sh3 0) (Oq Vlss (Oq Vpt (Oq Va (KS ?_))))))
  have hq := q4 hrr (decide (b < s.Width)) (by simp only [bt_within, h3, cs4]); subst hq
  exact Kr () rfl (.tmp rfl .nil) [] trivial
 intro h3
 have g5 := df h3
 refine Osk (Osk (Osk (Osk (Oq Vpf (Oq Va (KS ?_))))))
 have hq := q4 hrr false (by simp only [bt_within, h3, cs4]); subst hq
 exact Kr () rfl (.tmp rfl .nil) [] trivial
end Go.SL.G
