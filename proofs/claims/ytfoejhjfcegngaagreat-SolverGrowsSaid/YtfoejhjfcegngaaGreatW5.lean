/- Part 5 of the walks: mirrors, plain laws and walks used by the last text of this claim. -/
import Derived.Test.YtfoejhjfcegngaaGreatW4
import Derived.Test.YtfoejhjfcegngaaGreatProg
set_option linter.unusedVariables false
set_option linter.unusedSimpArgs false
namespace Go.SL.G
open Go Go.SL Go.Proofs
set_option maxHeartbeats 20000000
set_option maxRecDepth 100000
theorem fn105 (s : GSet) (sa1 : Option Addr) (sk1 : Nat) (hs_0 : i64ok s.Width) (rr : List Int) (hrr : flqref1_Members s = rr) : FT Tryz.prog 105 #[.agg #[vi s.Width, vl sa1 sk1 s.Words]] [S sa1 sk1 s.Words] (fun g : Value => True) (fun g => g) (fun g => [sl g rr]) := by
 refine FTi Tryz.func105 fun w0 M0 F0 => ?_
 unfold i64ok at hs_0
 refine Fb 8 0 fun hl1 => ?_
 refine KS ?_
 refine Oa (Ab [vi s.Width, vl sa1 sk1 s.Words]) fun p2 => Oq Va (KS ?_)
 refine Oq Va (KS ?_)
 refine Oq Va (KS ?_)
 refine Jl [] (Ent.osNil (α := Int)) ?_
 have hterm12 : flqref1_Members_L0 s (s.Width.toNat + 1) [] 0 ≠ LR.oof := Members_L0_term _ _ _ _ (by omega) (by omega)
 refine Kl (γ := Nat × List Int × Int × Option Addr × Nat) (fun (r3, out_4, b_5, a6, k7) => ⟨[(1, p2), (3, vl a6 k7 out_4), (4, vi b_5)], [O a6 k7 out_4, pv p2 [vi s.Width, vl sa1 sk1 s.Words], S sa1 sk1 s.Words], flqref1_Members_L0 s r3 out_4 b_5 = flqref1_Members_L0 s (s.Width.toNat + 1) [] 0 ∧ (-9223372036854775808 ≤ b_5 ∧ b_5 ≤ 9223372036854775807) ∧ 0 ≤ b_5 ∧ (out_4.length : Int) ≤ b_5, r3⟩) ((s.Width.toNat + 1), [], 0, none, 0) [0, 0, 1] ⟨rfl, (by omega), iv0, iv0⟩ ?_
 rintro ⟨r3, out_4, b_5, a6, k7⟩ ⟨hM8, hk9, hv10, hv11⟩
 refine JJ_nx fun _ _ hL hA => ?_; dsimp only at hL hA; subst hL hA
 refine Fb 8 0 fun hl13 => ?_
 refine Fo 0 fun ho14 => ?_
 refine Fb 8 2 fun hl15 => ?_
 rcases r3 with _ | r3
 · exact absurd (hM8.symm.trans rfl) hterm12
 refine KS ?_
 refine Oq (VldA sh42 1) ?_
 refine letv (flqref1_Valid s) fun rv16 hg17 => ?_
 have hc18 := fn91 s sa1 sk1 pre rv16 hg17
 refine Oc [2] ca91 hc18 ?_
 rintro - -
 refine Oq Vm ?_
 refine Js 7 ?_ ?_
 · intro h19
   try have hrg := RV_w (s := s) (by simp only [h19, hg17])
   refine Oq Vm (Oq (Vfa fo42_0 1) (Oq (VldF sh3 1) (Oq Vlss (Oq Vpt (KS ?_)))))
   refine Kc ?_ ?_
   · intro h21
     have g22 := of_decide_eq_true h21
     refine KS ?_
     refine Oq (VldA sh42 1) (Oq Vm ?_)
     refine letv (flqref1_Has s b_5) fun rv23 hg24 => ?_
     have hc25 := fn31 s sa1 sk1 b_5 pre pre rv23 hg24
     refine Oc [2] ca31 hc25 ?_
     rintro - -
     refine KS ?_
     refine Kc ?_ ?_
     · intro h26
       try have hrg := RV_w (s := s) (by simp only [h19, h21, h26, hg17, hg24])
       refine KS ?_
       refine Oq Vm (Oq Vm (Oa (AsV sl22 sz22 [vi b_5] [vi b_5]) fun c28 => ?_))
       refine Jo 0 ?_; rintro a29 k30 rfl
       refine Jl [0] (Ent.crInt _ [b_5] _ _ rfl rfl (by intro x hx; rw [List.mem_singleton] at hx; subst hx; unfold i64ok; omega) (Nat.le_of_ble_eq_true rfl)) ?_
       refine Oa (ApO [1, 0] sl22 sl22 sz22) fun c31 => ?_
       refine Jo 0 ?_; rintro a32 k33 rfl
       refine Fb 8 0 fun hl34 => ?_
       refine Fo 0 fun ho35 => ?_
       have hn36 := la out_4 ([b_5] : List Int)
       refine Oq Va (KS ?_)
       refine Oq Vm (Oq Vadd (Oq Va (KS ?_)))
       exact Kg (r3, (out_4 ++ [b_5]), (b_5 + 1), a32, k33) [0, 0, 1] ⟨(q3 hM8 (by simp only [flqref1_Members_L0, h19, h21, h26, hg17, hg24, cs4])), (by omega), iv1, iv1⟩
     intro h26
     refine KS ?_
     refine Oq Vm (Oq Vadd (Oq Va (KS ?_)))
     exact Kg (r3, out_4, (b_5 + 1), a6, k7) [0, 0, 1] ⟨(q3 hM8 (by simp only [flqref1_Members_L0, h19, h21, h26, hg17, hg24, cs4])), (by omega), iv1, iv1⟩
   intro h21
   have g38 := of_decide_eq_false h21
   refine Ke ?_
   have hR39 := q2 hM8 (.brk out_4) (by simp only [flqref1_Members_L0, h19, h21, hg17, cs4])
   refine KS ?_
   refine Oq Vm (Oq Va (KS ?_))
   refine Jl [0] (Ent.freeze _ _) ?_
   have hq := q4 hrr out_4 (by simp only [flqref1_Members, h19, h21, hg17, hR39, cs4]); subst hq
   exact Kr (vl a6 k7 out_4) rfl (.tmp rfl .nil) [0] trivial
 intro h19
 refine Osk (Osk (Osk (Osk (Oq Vpf (KS ?_)))))
 refine Kf ?_
 refine Ke ?_
 have hR41 := q2 hM8 (.brk out_4) (by simp only [flqref1_Members_L0, h19, hg17, cs4])
 refine KS ?_
 refine Oq Vm (Oq Va (KS ?_))
 refine Jl [0] (Ent.freeze _ _) ?_
 have hq := q4 hrr out_4 (by simp only [flqref1_Members, h19, hg17, hR41, cs4]); subst hq
 exact Kr (vl a6 k7 out_4) rfl (.tmp rfl .nil) [0] trivial
theorem fn43 (a : GSet) (aa1 : Option Addr) (ak1 : Nat) (b : GSet) (ba1 : Option Addr) (bk1 : Nat) (ha_0 : i64ok a.Width) (hb_0 : i64ok b.Width) (rr : Bool) (hrr : flqref1_Subset a b = rr) : FT Tryz.prog 43 #[.agg #[vi a.Width, vl aa1 ak1 a.Words], .agg #[vi b.Width, vl ba1 bk1 b.Words]] [S aa1 ak1 a.Words, S ba1 bk1 b.Words] (fun g : Unit => True) (fun g => vb rr) (fun g => []) := by
 refine FTi Tryz.func43 fun w0 M0 F0 => ?_
 unfold i64ok at ha_0 hb_0
 refine Fb 8 0 fun hl1 => ?_
 refine Fb 8 1 fun hl2 => ?_
 refine KS ?_
 refine Oa (Ab [vi a.Width, vl aa1 ak1 a.Words]) fun p3 => Oa (Ab [vi b.Width, vl ba1 bk1 b.Words]) fun p4 => Oq Va (KS ?_)
 refine Oq (VldA sh42 1) (Oq (VldA sh42 0) ?_)
 refine letv (flqref1_Diff a b) fun rv6 hg7 => ?_
 have hc8 := fn104 a aa1 ak1 b ba1 bk1 pre pre rv6 hg7
 refine Oc [2, 3] ca104 hc8 ?_
 rintro c5 ⟨he9, he10⟩
 unfold i64ok at he9 he10
 refine Jo 0 ?_; rintro a11 k12 rfl
 refine Fb 8 0 fun hl13 => ?_
 refine Oq Vm (Oq Vx (Oq Vx (Oa (Al ze42 [vi 0, .slice none 0 0]) fun p14 => Ost (Scl [0] sh42 [vi rv6.1.Width, vl a11 k12 rv6.1.Words]) (Oq Va (KS ?_)))))
 refine Oq Vm (Oq Veql (Oq Vm ?_))
 refine Js 15 ?_ ?_
 · intro h15
   have g16 := eq_of_beq h15
   refine Oq (VldA sh42 0) ?_
   refine letv (flqref1_Members rv6.1) fun rv18 hg19 => ?_
   have hc20 := fn105 rv6.1 a11 k12 pre rv18 hg19
   refine Oc [1] ca105 hc20 ?_
   rintro c17 -
   refine Jo 0 ?_; rintro a21 k22 rfl
   refine Fb 8 0 fun hl23 => ?_
   refine Fo 0 fun ho24 => ?_
   refine Oq (Vlen sl22) (Oq Veql (Oq Vpt (Oq Va (KS ?_))))
   have hq := q4 hrr ((rv18.length : Int) == 0) (by simp only [flqref1_Subset, h15, hg7, hg19, cs4]); subst hq
   exact Kr () rfl (.tmp rfl .nil) [] trivial
 intro h15
 have g25 := ne_of_beq_false h15
 refine Osk (Osk (Osk (Osk (Oq Vpf (Oq Va (KS ?_))))))
 have hq := q4 hrr false (by simp only [flqref1_Subset, h15, hg7, cs4]); subst hq
 exact Kr () rfl (.tmp rfl .nil) [] trivial
theorem fn8 (t : List Int) (ta0 : Option Addr) (tk0 : Nat) (rr : Bool) (hrr : flqlaw15_SolverGrows t = rr) : FT Tryz.prog 8 #[vl ta0 tk0 t] [S ta0 tk0 t] (fun g : Unit => True) (fun g => vb rr) (fun g => []) := by
 refine FTi Tryz.func8 fun w0 M0 F0 => ?_
 refine Fb 8 0 fun hl1 => ?_
 refine Fo 0 fun ho2 => ?_
 refine KS ?_
 refine Oq Va (KS ?_)
 refine Oq Vm ?_
 refine letv (flqgen_New t) fun rv4 hg5 => ?_
 have hc6 := fn17 t ta0 tk0 rv4 hg5
 refine Oc [0] ca17 hc6 ?_
 rintro c3 -
 refine letv (flqlaw15_draw t 0) fun rv11 hg12 => ?_
 have hc13 := fn32 c3 ta0 tk0 t 0 pre rv11 hg12
 refine Oc [0, 0] ca32 hc13 ?_
 rintro ⟨c7, c8, c9, c10⟩ ⟨he14, he15, he16⟩
 unfold i64ok at he14 he15
 refine Jo 0 ?_; rintro a17 k18 rfl
 refine Fb 24 0 fun hl19 => ?_
 refine Jo 1 ?_; rintro a20 k21 rfl
 refine Fb 88 1 fun hl22 => ?_
 refine Jo 2 ?_; rintro a23 k24 rfl
 refine Fb 32 2 fun hl25 => ?_
 refine Jo 3 ?_; rintro a26 k27 rfl
 refine Fb 40 3 fun hl28 => ?_
 have hdf := draw_facts (by assumption : flqlaw15_draw t 0 = rv11)
 obtain ⟨hd1, hd2, hd3, hd4⟩ := hdf
 have hv1 := hd1.n
 have hv2 := hd1.tl
 have hv3 := hd1.bl
 have hv4 := hd1.w
 have hv5 := hd1.dep_len
 refine Oa (Al ze55 [vi 0, .slice none 0 0, .slice none 0 0, .slice none 0 0, .slice none 0 0, vi 0]) fun p29 => Ost (Scl [0] sh55 [vi rv11.1.S.Width, vl a17 k18 rv11.1.S.Deps, vl a20 k21 rv11.1.S.Transfers, vl a23 k24 rv11.1.S.Boundary, vl a26 k27 rv11.1.K, vi rv11.1.Root]) (KS ?_)
 refine Oq (Vfa fo55_0 0) (Oq (VldG sh27 0 [vi rv11.1.S.Width, vl a17 k18 rv11.1.S.Deps, vl a20 k21 rv11.1.S.Transfers, vl a23 k24 rv11.1.S.Boundary]) ?_)
 refine letv (flqref10_Solve rv11.1.S) fun rv31 hg32 => ?_
 have hc33 := fn21 rv11.1.S a17 k18 a20 k21 a23 k24 pre rv31 hg32
 refine Oc [1, 2, 3] ca21 hc33 ?_
 rintro c30 ⟨he34, he35, he36⟩
 unfold i64ok at he34 he35
 refine Jo 0 ?_; rintro a37 k38 rfl
 refine Fb 32 0 fun hl39 => ?_
 refine Oq Vm (Oq Vx (Oq Vx (Oq Vx (Oq Va (Oq Va (Oq Va (KS ?_)))))))
 refine Oq (Vfa fo55_2 1) (Oq (VldF sh3 1) ?_)
 refine letv (solver_Start rv11.1.Root) fun rv44 hg45 => ?_
 have hc46 := fn38 rv11.1.Root pre rv44 hg45
 refine Oc [] ca38 hc46 ?_
 rintro ⟨c40, c41, c42, c43⟩ ⟨he47, he48, he49, he50⟩
 unfold i64ok at he47 he48 he49 he50
 refine Jo 0 ?_; rintro a51 k52 rfl
 refine Fb 8 0 fun hl53 => ?_
 refine Fo 0 fun ho54 => ?_
 refine Jo 1 ?_; rintro a55 k56 rfl
 refine Fb 1 1 fun hl57 => ?_
 refine Jo 2 ?_; rintro a58 k59 rfl
 refine Fb 32 2 fun hl60 => ?_
 refine Jo 3 ?_; rintro a61 k62 rfl
 refine Fb 8 3 fun hl63 => ?_
 refine Fo 3 fun ho64 => ?_
 refine Oa (Al ze59 [vi 0, .slice none 0 0, .slice none 0 0, vi 0, vi 0, .slice none 0 0, .slice none 0 0, vi 0]) fun p65 => Ost (Scl [0] sh59 [vi rv44.Phase, vl a51 k52 rv44.Cone, vl a55 k56 rv44.Leaf, vi rv44.At, vi rv44.Edge, vl a58 k59 rv44.Values, vl a61 k62 rv44.Queue, vi rv44.Steps]) (KS ?_)
 refine Oq Va (KS ?_)
 refine Kl (γ := Nat × Int × List Int × List Bool × Int × Int × List GSet × List Int × Int × Int × Option Addr × Nat × Option Addr × Nat × Option Addr × Nat × Option Addr × Nat) (fun (r66, st0_67, st1_68, st2_69, st3_70, st4_71, st5_72, st6_73, st7_74, n_75, a76, k77, a78, k79, a80, k81, a82, k83) => ⟨[(3, p29), (4, vl a37 k38 rv31.1), (7, p65), (8, vi n_75)], [S a82 k83 st6_73, S a80 k81 st5_72, S a78 k79 st2_69, S a76 k77 st1_68, Cl p65 [vi st0_67, vl a76 k77 st1_68, vl a78 k79 st2_69, vi st3_70, vi st4_71, vl a80 k81 st5_72, vl a82 k83 st6_73, vi st7_74], S a37 k38 rv31.1, Cl p29 [vi rv11.1.S.Width, vl a17 k18 rv11.1.S.Deps, vl a20 k21 rv11.1.S.Transfers, vl a23 k24 rv11.1.S.Boundary, vl a26 k27 rv11.1.K, vi rv11.1.Root], S a17 k18 rv11.1.S.Deps, S a20 k21 rv11.1.S.Transfers, S a23 k24 rv11.1.S.Boundary, S a26 k27 rv11.1.K], flqlaw15_SolverGrows_L0 rv11.1.S.Width rv11.1.S.Deps rv11.1.S.Transfers rv11.1.S.Boundary rv11.1.K rv31.1 r66 st0_67 st1_68 st2_69 st3_70 st4_71 st5_72 st6_73 st7_74 n_75 = flqlaw15_SolverGrows_L0 rv11.1.S.Width rv11.1.S.Deps rv11.1.S.Transfers rv11.1.S.Boundary rv11.1.K rv31.1 80 rv44.Phase rv44.Cone rv44.Leaf rv44.At rv44.Edge rv44.Values rv44.Queue rv44.Steps 0 ∧ r66 = ((80 : Int) - n_75).toNat ∧ (0 : Int) ≤ n_75 ∧ n_75 ≤ 80 ∧ (-9223372036854775808 ≤ st0_67 ∧ st0_67 ≤ 9223372036854775807) ∧ (-9223372036854775808 ≤ st3_70 ∧ st3_70 ≤ 9223372036854775807) ∧ (-9223372036854775808 ≤ st4_71 ∧ st4_71 ≤ 9223372036854775807) ∧ (-9223372036854775808 ≤ st7_74 ∧ st7_74 ≤ 9223372036854775807) ∧ (-9223372036854775808 ≤ n_75 ∧ n_75 ≤ 9223372036854775807), r66⟩) (80, rv44.Phase, rv44.Cone, rv44.Leaf, rv44.At, rv44.Edge, rv44.Values, rv44.Queue, rv44.Steps, 0, a51, k52, a55, k56, a58, k59, a61, k62) [4, 3, 2, 1, 0, 4, 5, 5, 6, 7, 8] ⟨rfl, rfl, (by omega), (by omega), (by omega), (by omega), (by omega), (by omega), (by omega)⟩ ?_
 rintro ⟨r66, st0_67, st1_68, st2_69, st3_70, st4_71, st5_72, st6_73, st7_74, n_75, a76, k77, a78, k79, a80, k81, a82, k83⟩ ⟨hM84, hr85, hi86, hi87, hk88, hk89, hk90, hk91, hk92⟩
 refine JJ_nx fun _ _ hL hA => ?_; dsimp only at hL hA; subst hL hA
 refine Fb 8 0 fun hl93 => ?_
 refine Fo 0 fun ho94 => ?_
 refine Fb 32 1 fun hl95 => ?_
 refine Fb 1 2 fun hl96 => ?_
 refine Fb 8 3 fun hl97 => ?_
 refine Fo 3 fun ho98 => ?_
 refine Fb 32 5 fun hl99 => ?_
 refine Fb 24 7 fun hl100 => ?_
 refine Fb 88 8 fun hl101 => ?_
 refine Fb 32 9 fun hl102 => ?_
 refine Fb 40 10 fun hl103 => ?_
 refine KS ?_
 refine Oq Vm (Oq Vlss (Oq Vm ?_))
 refine Js 28 ?_ ?_
 · intro h104
   have g105 := of_decide_eq_true h104
   obtain ⟨r106, rfl⟩ := scc (n := r66) (by omega)
   refine Oq (Vfa fo59_0 4) (Oq (VldF sh3 4) (Oq Vneq (Oq Vpt (KS ?_))))
   refine Kc ?_ ?_
   · intro h107
     have g108 := ne_of_bne h107
     refine KS ?_
     refine Oq (Vfa fo55_0 6) (Oq (VldG sh27 6 [vi rv11.1.S.Width, vl a17 k18 rv11.1.S.Deps, vl a20 k21 rv11.1.S.Transfers, vl a23 k24 rv11.1.S.Boundary]) (Oq (Vfa fo55_1 6) (Oq (VldF sh53 6) (Oq (VldA sh59 4) ?_))))
     refine letv (solver_Step rv11.1.S rv11.1.K (GState.mk st0_67 st1_68 st2_69 st3_70 st4_71 st5_72 st6_73 st7_74)) fun rv113 hg114 => ?_
     have hc115 := fn41 rv11.1.S a17 k18 a20 k21 a23 k24 rv11.1.K a26 k27 ((GState.mk st0_67 st1_68 st2_69 st3_70 st4_71 st5_72 st6_73 st7_74)) a76 k77 a78 k79 a80 k81 a82 k83 pre pre pre pre pre rv113 hg114
     refine Oc [7, 8, 9, 10, 3, 2, 1, 0] ca41 hc115 ?_
     rintro ⟨c109, c110, c111, c112⟩ ⟨he116, he117, he118, he119, he120, he121⟩
     unfold i64ok at he116 he117 he118 he119 he120 he121
     refine Jo 0 ?_; rintro a122 k123 rfl
     refine Fb 8 0 fun hl124 => ?_
     refine Fo 0 fun ho125 => ?_
     refine Jo 1 ?_; rintro a126 k127 rfl
     refine Fb 1 1 fun hl128 => ?_
     refine Jo 2 ?_; rintro a129 k130 rfl
     refine Fb 32 2 fun hl131 => ?_
     refine Jo 3 ?_; rintro a132 k133 rfl
     refine Fb 8 3 fun hl134 => ?_
     refine Fo 3 fun ho135 => ?_
     refine Oq Vm (Oq Vx (Oq Vx (Oq Vx (Oa (Al ze59 [vi 0, .slice none 0 0, .slice none 0 0, vi 0, vi 0, .slice none 0 0, .slice none 0 0, vi 0]) fun p136 => Ost (Scl [0] sh59 [vi rv113.1.Phase, vl a122 k123 rv113.1.Cone, vl a126 k127 rv113.1.Leaf, vi rv113.1.At, vi rv113.1.Edge, vl a129 k130 rv113.1.Values, vl a132 k133 rv113.1.Queue, vi rv113.1.Steps]) (Oq Va (Oq Va (KS ?_)))))))
     refine Oq Vm (Oq Vneq (Oq Vm ?_))
     refine Js 47 ?_ ?_
     · intro h137
       have g138 := ne_of_bne h137
       refine Osk (Osk (Osk (Osk (Osk (Osk (Osk (Oq Vpt (KS ?_))))))))
       refine Kt ?_
       refine KS ?_
       refine Oq Va (KS ?_)
       have hR139 := q2 hM84 (.ret false) (by simp only [flqlaw15_SolverGrows_L0, h104, h107, h137, hg5, hg12, hg32, hg45, hg114, cs4])
       have hq := q4 hrr false (by unfold flqlaw15_SolverGrows; simp only [h104, h107, h137, hg5, hg12, hg32, hg45, hg114, hR139, cs4]); subst hq
       exact Kr () rfl (.tmp rfl .nil) [] trivial
     intro h137
     have g140 := eq_of_bne_false h137
     refine Oq (Vfa fo55_0 11) (Oq (VldG sh27 11 [vi rv11.1.S.Width, vl a17 k18 rv11.1.S.Deps, vl a20 k21 rv11.1.S.Transfers, vl a23 k24 rv11.1.S.Boundary]) (Oq (Vfa fo55_1 11) (Oq (VldF sh53 11) (Oq (VldA sh59 0) ?_))))
     refine letv (solver_Valid rv11.1.S rv11.1.K rv113.1) fun rv141 hg142 => ?_
     have hc143 := fn42 rv11.1.S a17 k18 a20 k21 a23 k24 rv11.1.K a26 k27 rv113.1 a122 k123 a126 k127 a129 k130 a132 k133 pre pre pre pre pre rv141 hg142
     refine Oc [12, 13, 14, 15, 1, 2, 3, 4] ca42 hc143 ?_
     rintro - -
     refine Oq Vnot (Oq Vpf (KS ?_))
     refine Kc ?_ ?_
     · intro h144
       have h146 := not_true h144
       refine KS ?_
       refine Oq Va (KS ?_)
       have hR148 := q2 hM84 (.ret false) (by simp only [flqlaw15_SolverGrows_L0, h104, h107, h137, h144, h146, hg5, hg12, hg32, hg45, hg114, hg142, cs4])
       have hq := q4 hrr false (by unfold flqlaw15_SolverGrows; simp only [h104, h107, h137, h144, h146, hg5, hg12, hg32, hg45, hg114, hg142, hR148, cs4]); subst hq
       exact Kr () rfl (.tmp rfl .nil) [] trivial
     intro h144
     have h150 := not_false h144
     refine KS ?_
     refine Oq Va (KS ?_)
     refine Kl (γ := Nat × Int) (fun (r152, i_153) => ⟨[(3, p29), (4, vl a37 k38 rv31.1), (7, p65), (8, vi n_75), (9, p136), (12, vi i_153)], [Cl p136 [vi rv113.1.Phase, vl a122 k123 rv113.1.Cone, vl a126 k127 rv113.1.Leaf, vi rv113.1.At, vi rv113.1.Edge, vl a129 k130 rv113.1.Values, vl a132 k133 rv113.1.Queue, vi rv113.1.Steps], S a122 k123 rv113.1.Cone, S a126 k127 rv113.1.Leaf, S a129 k130 rv113.1.Values, S a132 k133 rv113.1.Queue, S a82 k83 st6_73, S a80 k81 st5_72, S a78 k79 st2_69, S a76 k77 st1_68, Cl p65 [vi st0_67, vl a76 k77 st1_68, vl a78 k79 st2_69, vi st3_70, vi st4_71, vl a80 k81 st5_72, vl a82 k83 st6_73, vi st7_74], S a37 k38 rv31.1, Cl p29 [vi rv11.1.S.Width, vl a17 k18 rv11.1.S.Deps, vl a20 k21 rv11.1.S.Transfers, vl a23 k24 rv11.1.S.Boundary, vl a26 k27 rv11.1.K, vi rv11.1.Root], S a17 k18 rv11.1.S.Deps, S a20 k21 rv11.1.S.Transfers, S a23 k24 rv11.1.S.Boundary, S a26 k27 rv11.1.K], flqlaw15_SolverGrows_L1 rv31.1 st5_72 rv113.1.Cone rv113.1.Values r152 i_153 = flqlaw15_SolverGrows_L1 rv31.1 st5_72 rv113.1.Cone rv113.1.Values (((rv113.1.Values.length : Int) - 0).toNat) 0 ∧ r152 = ((rv113.1.Values.length : Int) - i_153).toNat ∧ (0 : Int) ≤ i_153 ∧ i_153 ≤ (rv113.1.Values.length : Int) ∧ (-9223372036854775808 ≤ i_153 ∧ i_153 ≤ 9223372036854775807), r152⟩) (((rv113.1.Values.length : Int) - 0).toNat, 0) [0, 0, 1, 2, 3, 4, 5, 6, 7, 8, 8, 9, 9, 10, 11, 12] ⟨rfl, rfl, (by omega), (by omega), (by omega)⟩ ?_
     rintro ⟨r152, i_153⟩ ⟨hM154, hr155, hi156, hi157, hk158⟩
     refine JJ_nx fun _ _ hL hA => ?_; dsimp only at hL hA; subst hL hA
     refine Fb 8 1 fun hl159 => ?_
     refine Fo 1 fun ho160 => ?_
     refine Fb 1 2 fun hl161 => ?_
     refine Fb 32 3 fun hl162 => ?_
     refine Fb 8 4 fun hl163 => ?_
     refine Fo 4 fun ho164 => ?_
     refine Fb 8 5 fun hl165 => ?_
     refine Fo 5 fun ho166 => ?_
     refine Fb 32 6 fun hl167 => ?_
     refine Fb 1 7 fun hl168 => ?_
     refine Fb 8 8 fun hl169 => ?_
     refine Fo 8 fun ho170 => ?_
     refine Fb 32 10 fun hl171 => ?_
     refine Fb 24 12 fun hl172 => ?_
     refine Fb 88 13 fun hl173 => ?_
     refine Fb 32 14 fun hl174 => ?_
     refine Fb 40 15 fun hl175 => ?_
     refine KS ?_
     refine Oq Vm (Oq (Vfa fo59_5 0) (Oq (VldF sh25 0) (Oq (Vlen sl25) (Oq Vlss (KS ?_)))))
     refine Kc ?_ ?_
     · intro h176
       have g177 := of_decide_eq_true h176
       obtain ⟨r178, rfl⟩ := scc (n := r152) (by omega)
       refine KS ?_
       refine Jp 0 fun hp179 => ?_
       refine bool_split (decide ((rv113.1.Cone.length : Int) ≤ i_153)) ?_ ?_
       · intro h180
         have g181 := of_decide_eq_true h180
         refine Kq [0, 0, 2, 6, 15, 31, 63, 127, 63, 511, 1023, 2047, 4095, 8191, 16383, 32767, 16383, 131071, 262143, 16383, 540671, 2097151, 4194303, 8388607, 16777215, 33554431, 16777215, 134217727, 268435455, 16777215, 16777215, 1090519039, 16777215, 7532969983, 16122904575, 33839644671, 68199383039, 137438953471, 274877906943, 549755813887, 1099511627775, 2199023255551, 4398046511103, 8796093022207, 2199023255551, 19791209299967, 54975581388799, 140737488355327, 281474976710655, 562949953421311, 1125899906842623, 562949953421311, 4503599627370495, 9007199254740991, 562949953421311, 18577348462903295, 562949953421311, 126663739519795199, 270778927595651071, 576460752303423487, 1152921504606846975, 2305843009213693951, 4611686018427387903] fmix ?_
         refine Qv [] Vm (Qv [0] (Vfa fo59_1 0) (Qv [1] (VldF sh22 0) (Qv [] (Vlen sl22) (Qb h180 [] Vgeq (Qv [] Vm (Qs (Qs (Qs (Qs ?_)))))))))
         refine Qs (Qs (Qv [] Vpt (Qv [] Vm (Qs (Qs (Qs (Qs (Qs (Qs ?_)))))))))
         refine Qs (Qs (Qv [] Vpt (Qv [] Vm (Qs (Qs (Qs (Qs (Qs (Qs ?_)))))))))
         refine Qs (Qs (Qs (Qs (Qs (Qs (Qs (Qs (Qs (Qv [] Vpt ?_)))))))))
         refine Qv [] Vm (Qs (Qs (Qs (Qs (Qs (Qs (Qs (Qs (Qs ?_)))))))))
         refine Qs (Qs (Qs (Qs (Qs (Qs (Qs (Qs (Qs (Qs ?_)))))))))
         refine Qs (Qs (Qv [] Vpt ?_))
         refine Qn ⟨by kernel_rfl, ?_⟩
         refine Kt ?_
         refine KS ?_
         refine Oq Va (KS ?_)
         have hR182 := q2 hM154 (.ret false) (by simp only [flqlaw15_SolverGrows_L1, h104, h107, h137, h144, h150, h176, h180, hg5, hg12, hg32, hg45, hg114, hg142, cs4])
         have hR183 := q2 hM84 (.ret false) (by simp only [flqlaw15_SolverGrows_L0, h104, h107, h137, h144, h150, h176, h180, hg5, hg12, hg32, hg45, hg114, hg142, hR182, cs4])
         have hq := q4 hrr false (by unfold flqlaw15_SolverGrows; simp only [h104, h107, h137, h144, h150, h176, h180, hg5, hg12, hg32, hg45, hg114, hg142, hR182, hR183, cs4]); subst hq
         exact Kr () rfl (.tmp rfl .nil) [] trivial
       intro h180
       have g184 := of_decide_eq_false h180
       refine bool_split (decide ((rv113.1.Cone.getD i_153.toNat 0) < 0)) ?_ ?_
       · intro h185
         have g186 := of_decide_eq_true h185
         refine Kq [0, 0, 2, 6, 15, 31, 63, 127, 63, 511, 1023, 2047, 4095, 8191, 16383, 32767, 16383, 131071, 262143, 16383, 540671, 2097151, 4194303, 8388607, 16777215, 33554431, 16777215, 134217727, 268435455, 16777215, 16777215, 1090519039, 16777215, 7532969983, 16122904575, 33839644671, 68199383039, 137438953471, 274877906943, 549755813887, 1099511627775, 2199023255551, 4398046511103, 8796093022207, 2199023255551, 19791209299967, 54975581388799, 140737488355327, 281474976710655, 562949953421311, 1125899906842623, 562949953421311, 4503599627370495, 9007199254740991, 562949953421311, 18577348462903295, 562949953421311, 126663739519795199, 270778927595651071, 576460752303423487, 1152921504606846975, 2305843009213693951, 4611686018427387903] fmix ?_
         refine Qv [] Vm (Qv [0] (Vfa fo59_1 0) (Qv [1] (VldF sh22 0) (Qv [] (Vlen sl22) (Qb h180 [] Vgeq (Qv [] Vm (Qv [0] (Vfa fo59_1 0) (Qv [1] (VldF sh22 0) (Qv [] Vm (Qv [2] (Vi sl22 0) ?_)))))))))
         have hb187 := ok1 (i := i_153.toNat) ho160 rng
         refine Qv [2] (VldI sh3 0) (Qb h185 [] Vlss (Qv [] Vpf (Qv [] Vm (Qs (Qs (Qs (Qs (Qs (Qs ?_)))))))))
         refine Qs (Qs (Qv [] Vpt (Qv [] Vm (Qs (Qs (Qs (Qs (Qs (Qs ?_)))))))))
         refine Qs (Qs (Qs (Qs (Qs (Qs (Qs (Qs (Qs (Qv [] Vpt ?_)))))))))
         refine Qv [] Vm (Qs (Qs (Qs (Qs (Qs (Qs (Qs (Qs (Qs ?_)))))))))
         refine Qs (Qs (Qs (Qs (Qs (Qs (Qs (Qs (Qs (Qs ?_)))))))))
         refine Qs (Qs (Qv [] Vpt ?_))
         refine Qn ⟨by kernel_rfl, ?_⟩
         refine Kt ?_
         refine KS ?_
         refine Oq Va (KS ?_)
         have hR188 := q2 hM154 (.ret false) (by simp only [flqlaw15_SolverGrows_L1, h104, h107, h137, h144, h150, h176, h180, h185, hg5, hg12, hg32, hg45, hg114, hg142, cs4])
         have hR189 := q2 hM84 (.ret false) (by simp only [flqlaw15_SolverGrows_L0, h104, h107, h137, h144, h150, h176, h180, h185, hg5, hg12, hg32, hg45, hg114, hg142, hR188, cs4])
         have hq := q4 hrr false (by unfold flqlaw15_SolverGrows; simp only [h104, h107, h137, h144, h150, h176, h180, h185, hg5, hg12, hg32, hg45, hg114, hg142, hR188, hR189, cs4]); subst hq
         exact Kr () rfl (.tmp rfl .nil) [] trivial
       intro h185
       have g190 := of_decide_eq_false h185
       refine bool_split (decide ((rv31.1.length : Int) ≤ (rv113.1.Cone.getD i_153.toNat 0))) ?_ ?_
       · intro h191
         have g192 := of_decide_eq_true h191
         refine Kq [0, 0, 2, 6, 15, 31, 63, 127, 63, 511, 1023, 2047, 4095, 8191, 16383, 32767, 16383, 131071, 262143, 16383, 540671, 2097151, 4194303, 8388607, 16777215, 33554431, 16777215, 134217727, 268435455, 16777215, 16777215, 1090519039, 16777215, 7532969983, 16122904575, 33839644671, 68199383039, 137438953471, 274877906943, 549755813887, 1099511627775, 2199023255551, 4398046511103, 8796093022207, 2199023255551, 19791209299967, 54975581388799, 140737488355327, 281474976710655, 562949953421311, 1125899906842623, 562949953421311, 4503599627370495, 9007199254740991, 562949953421311, 18577348462903295, 562949953421311, 126663739519795199, 270778927595651071, 576460752303423487, 1152921504606846975, 2305843009213693951, 4611686018427387903] fmix ?_
         refine Qv [] Vm (Qv [0] (Vfa fo59_1 0) (Qv [1] (VldF sh22 0) (Qv [] (Vlen sl22) (Qb h180 [] Vgeq (Qv [] Vm (Qv [0] (Vfa fo59_1 0) (Qv [1] (VldF sh22 0) (Qv [] Vm (Qv [2] (Vi sl22 0) ?_)))))))))
         have hb193 := ok1 (i := i_153.toNat) ho160 rng
         refine Qv [2] (VldI sh3 0) (Qb h185 [] Vlss (Qv [] Vpf (Qv [] Vm (Qv [0] (Vfa fo59_1 0) (Qv [1] (VldF sh22 0) (Qv [] Vm (Qv [2] (Vi sl22 0) ?_)))))))
         have hb194 := ok1 (i := i_153.toNat) ho160 rng
         refine Qv [2] (VldI sh3 0) (Qv [] Vm (Qv [] (Vlen sl25) (Qb h191 [] Vgeq (Qv [] Vpf (Qv [] Vm (Qs (Qs (Qs (Qs ?_)))))))))
         refine Qs (Qs (Qs (Qs (Qs (Qs (Qs (Qs (Qs (Qs ?_)))))))))
         refine Qs (Qv [] Vpt (Qv [] Vm (Qs (Qs (Qs (Qs (Qs (Qs (Qs ?_)))))))))
         refine Qs (Qs (Qs (Qs (Qs (Qs (Qs (Qs (Qs (Qs ?_)))))))))
         refine Qs (Qs (Qs (Qs (Qv [] Vpt ?_))))
         refine Qn ⟨by kernel_rfl, ?_⟩
         refine Kt ?_
         refine KS ?_
         refine Oq Va (KS ?_)
         have hR195 := q2 hM154 (.ret false) (by simp only [flqlaw15_SolverGrows_L1, h104, h107, h137, h144, h150, h176, h180, h185, h191, hg5, hg12, hg32, hg45, hg114, hg142, cs4])
         have hR196 := q2 hM84 (.ret false) (by simp only [flqlaw15_SolverGrows_L0, h104, h107, h137, h144, h150, h176, h180, h185, h191, hg5, hg12, hg32, hg45, hg114, hg142, hR195, cs4])
         have hq := q4 hrr false (by unfold flqlaw15_SolverGrows; simp only [h104, h107, h137, h144, h150, h176, h180, h185, h191, hg5, hg12, hg32, hg45, hg114, hg142, hR195, hR196, cs4]); subst hq
         exact Kr () rfl (.tmp rfl .nil) [] trivial
       intro h191
       have g197 := of_decide_eq_false h191
       refine JJ_peek_GSet i_153.toNat 4 rfl rng fun a198 k199 hb200 => ?_
       unfold i64ok at hb200
       refine Fb 8 1 fun hl201 => ?_
       refine JJ_peek_GSet ((rv113.1.Cone.getD i_153.toNat 0) : Int).toNat 13 rfl rng fun a202 k203 hb204 => ?_
       unfold i64ok at hb204
       refine Fb 8 1 fun hl205 => ?_
       refine Jp 14 fun hp206 => ?_
       refine letv (flqref1_Subset (rv113.1.Values.getD i_153.toNat default) (rv31.1.getD ((rv113.1.Cone.getD i_153.toNat 0) : Int).toNat default)) fun rv210 hg211 => ?_
       refine bool_split (!rv210) ?_ ?_
       · intro h212
         have h214 := not_true h212
         refine JK_drawK [0, 0, 2, 6, 15, 31, 63, 127, 63, 511, 1023, 2047, 4095, 8191, 16383, 32767, 16383, 131071, 262143, 16383, 540671, 2097151, 4194303, 8388607, 16777215, 33554431, 16777215, 134217727, 268435455, 16777215, 16777215, 1090519039, 16777215, 7532969983, 16122904575, 33839644671, 68199383039, 137438953471, 274877906943, 549755813887, 1099511627775, 2199023255551, 4398046511103, 8796093022207, 2199023255551, 19791209299967, 54975581388799, 140737488355327, 281474976710655, 562949953421311, 1125899906842623, 562949953421311, 4503599627370495, 9007199254740991, 562949953421311, 18577348462903295, 562949953421311, 126663739519795199, 270778927595651071, 576460752303423487, 1152921504606846975, 2305843009213693951, 4611686018427387903] fmix ?_
         refine Dv [] Vm (Dv [5] (Vfa fo59_1 0) (Dv [6] (VldF sh22 0) (Dv [] (Vlen sl22) (Db h180 [] Vgeq (Dv [] Vm (Dv [5] (Vfa fo59_1 0) (Dv [6] (VldF sh22 0) (Dv [] Vm (Dv [7] (Vi sl22 0) ?_)))))))))
         have hb216 := ok1 (i := i_153.toNat) ho160 rng
         refine Dv [7] (VldI sh3 0) (Db h185 [] Vlss (Dv [] Vpf (Dv [] Vm (Dv [5] (Vfa fo59_1 0) (Dv [6] (VldF sh22 0) (Dv [] Vm (Dv [7] (Vi sl22 0) ?_)))))))
         have hb217 := ok1 (i := i_153.toNat) ho160 rng
         refine Dv [7] (VldI sh3 0) (Dv [] Vm (Dv [] (Vlen sl25) (Db h191 [] Vgeq (Dv [] Vpf (Dv [] Vm (Dv [5] (Vfa fo59_5 0) (Dv [6] (VldF sh25 0) (Dv [] Vm (Dv [9] (Vi sl25 0) ?_)))))))))
         refine Dv [3] (VldA sh42 0) (Dv [] Vm (Dv [5] (Vfa fo59_1 0) (Dv [6] (VldF sh22 0) (Dv [] Vm (Dv [7] (Vi sl22 0) ?_)))))
         have hb218 := ok1 (i := i_153.toNat) ho160 rng
         refine Dv [7] (VldI sh3 0) (Dv [16] (Vi sl25 0) (Dv [1] (VldA sh42 0) (Dx [2, 4] [] [1, 2, 0] (fun G => vb rv210) [fun G => SP.fact (True)] (fun G => xC [1, 0] ca43 (fn43 ((rv113.1.Values.getD i_153.toNat default)) a198 k199 ((rv31.1.getD ((rv113.1.Cone.getD i_153.toNat 0) : Int).toNat default)) a202 k203 pre pre rv210 hg211)) (Db h212 [] Vnot (Dv [] Vpf (Dv [] Vm (Ds (Ds (Ds ?_)))))))))
         refine Ds (Ds (Ds (Ds (Ds (Ds (Ds (Ds (Ds (Ds ?_)))))))))
         refine Ds (Ds (Ds (Ds (Ds (Ds (Ds (Ds (Dv [] Vpt ?_))))))))
         refine Dn ⟨by kernel_rfl, fun G => ?_⟩
         refine Jw2 [(3, p29), (4, vl a37 k38 rv31.1), (7, p65), (8, vi n_75), (9, p136), (12, vi i_153), (125, vb true)] [0, 1, 2, 3, 4, 5, 6, 7, 8, 9, 10, 11, 12, 13, 14, 15, 16, 17, 18, 19, 20, 21] [SP.fact (True)] ?_
         refine Jk [1, 2, 3, 4, 6, 6, 7, 8, 9, 10, 11, 12, 13, 14, 14, 15, 15, 16, 17, 18] ?_
         refine Kt ?_
         refine KS ?_
         refine Oq Va (KS ?_)
         have hR219 := q2 hM154 (.ret false) (by simp only [flqlaw15_SolverGrows_L1, h104, h107, h137, h144, h150, h176, h180, h185, h191, h212, h214, hg5, hg12, hg32, hg45, hg114, hg142, hg211, cs4])
         have hR220 := q2 hM84 (.ret false) (by simp only [flqlaw15_SolverGrows_L0, h104, h107, h137, h144, h150, h176, h180, h185, h191, h212, h214, hg5, hg12, hg32, hg45, hg114, hg142, hg211, hR219, cs4])
         have hq := q4 hrr false (by unfold flqlaw15_SolverGrows; simp only [h104, h107, h137, h144, h150, h176, h180, h185, h191, h212, h214, hg5, hg12, hg32, hg45, hg114, hg142, hg211, hR219, hR220, cs4]); subst hq
         exact Kr () rfl (.tmp rfl .nil) [] trivial
       intro h212
       have h222 := not_false h212
       refine bool_split ((st5_72.length : Int) == (rv113.1.Values.length : Int)) ?_ ?_
       · intro h224
         have g225 := eq_of_beq h224
         refine JJ_peek_GSet i_153.toNat 12 rfl rng fun a226 k227 hb228 => ?_
         unfold i64ok at hb228
         refine Fb 8 1 fun hl229 => ?_
         refine JK_drawK [0, 0, 2, 6, 15, 31, 63, 127, 63, 511, 1023, 2047, 4095, 8191, 16383, 32767, 16383, 131071, 262143, 16383, 540671, 2097151, 4194303, 8388607, 16777215, 33554431, 16777215, 134217727, 268435455, 16777215, 16777215, 1090519039, 16777215, 7532969983, 16122904575, 33839644671, 68199383039, 137438953471, 274877906943, 549755813887, 1099511627775, 2199023255551, 4398046511103, 8796093022207, 2199023255551, 19791209299967, 54975581388799, 140737488355327, 281474976710655, 562949953421311, 1125899906842623, 562949953421311, 4503599627370495, 9007199254740991, 562949953421311, 18577348462903295, 562949953421311, 126663739519795199, 270778927595651071, 576460752303423487, 1152921504606846975, 2305843009213693951, 4611686018427387903] fmix ?_
         refine Dv [] Vm (Dv [7] (Vfa fo59_1 0) (Dv [8] (VldF sh22 0) (Dv [] (Vlen sl22) (Db h180 [] Vgeq (Dv [] Vm (Dv [7] (Vfa fo59_1 0) (Dv [8] (VldF sh22 0) (Dv [] Vm (Dv [9] (Vi sl22 0) ?_)))))))))
         have hb230 := ok1 (i := i_153.toNat) ho160 rng
         refine Dv [9] (VldI sh3 0) (Db h185 [] Vlss (Dv [] Vpf (Dv [] Vm (Dv [7] (Vfa fo59_1 0) (Dv [8] (VldF sh22 0) (Dv [] Vm (Dv [9] (Vi sl22 0) ?_)))))))
         have hb231 := ok1 (i := i_153.toNat) ho160 rng
         refine Dv [9] (VldI sh3 0) (Dv [] Vm (Dv [] (Vlen sl25) (Db h191 [] Vgeq (Dv [] Vpf (Dv [] Vm (Dv [7] (Vfa fo59_5 0) (Dv [8] (VldF sh25 0) (Dv [] Vm (Dv [11] (Vi sl25 0) ?_)))))))))
         refine Dv [5] (VldA sh42 0) (Dv [] Vm (Dv [7] (Vfa fo59_1 0) (Dv [8] (VldF sh22 0) (Dv [] Vm (Dv [9] (Vi sl22 0) ?_)))))
         have hb232 := ok1 (i := i_153.toNat) ho160 rng
         refine Dv [9] (VldI sh3 0) (Dv [18] (Vi sl25 0) (Dv [3] (VldA sh42 0) (Dx [4, 6] [] [1, 2, 0] (fun G => vb rv210) [fun G => SP.fact (True)] (fun G => xC [1, 0] ca43 (fn43 ((rv113.1.Values.getD i_153.toNat default)) a198 k199 ((rv31.1.getD ((rv113.1.Cone.getD i_153.toNat 0) : Int).toNat default)) a202 k203 pre pre rv210 hg211)) (Db h212 [] Vnot (Dv [] Vpf (Dv [] Vm (Dv [2] (Vfa fo59_5 0) (Dv [17] (VldF sh25 0) (Dv [] (Vlen sl25) ?_)))))))))
         refine Dv [7] (Vfa fo59_5 0) (Dv [8] (VldF sh25 0) (Dv [] (Vlen sl25) (Db h224 [] Veql (Dv [] Vm (Dv [2] (Vfa fo59_5 0) (Dv [17] (VldF sh25 0) (Dv [] Vm (Dv [14] (Vi sl25 0) (Dv [0] (VldA sh42 0) ?_)))))))))
         refine Dv [7] (Vfa fo59_5 0) (Dv [8] (VldF sh25 0) (Dv [] Vm (Dv [11] (Vi sl25 0) (Dv [5] (VldA sh42 0) ?_))))
         refine letv (flqref1_Subset (st5_72.getD i_153.toNat default) (rv113.1.Values.getD i_153.toNat default)) fun rv233 hg234 => ?_
         refine Dx [1, 6] [] [1, 2, 0] (fun G => vb rv233) [fun G => SP.fact (True)] (fun G => xC [0, 1] ca43 (fn43 ((st5_72.getD i_153.toNat default)) a226 k227 ((rv113.1.Values.getD i_153.toNat default)) a198 k199 pre pre rv233 hg234)) (Dv [] Vnot (Dv [] Vpt (Dv [] Vpf ?_)))
         refine Dn ⟨by kernel_rfl, fun G => ?_⟩
         refine Jw2 [(3, p29), (4, vl a37 k38 rv31.1), (7, p65), (8, vi n_75), (9, p136), (12, vi i_153), (125, vb (!rv233))] [0, 1, 2, 3, 4, 5, 6, 7, 8, 9, 10, 11, 12, 13, 14, 15, 16, 17, 18, 19, 20, 21, 22, 23] [SP.fact (True), SP.fact (True)] ?_
         refine Jk [0, 1, 3, 4, 5, 6, 8, 8, 9, 10, 11, 12, 13, 14, 15, 16, 16, 17, 17, 18, 19, 20] ?_
         refine Kc ?_ ?_
         · intro h235
           have h237 := not_true h235
           refine KS ?_
           refine Oq Va (KS ?_)
           have hR239 := q2 hM154 (.ret false) (by simp only [flqlaw15_SolverGrows_L1, h104, h107, h137, h144, h150, h176, h180, h185, h191, h212, h222, h224, h235, h237, hg5, hg12, hg32, hg45, hg114, hg142, hg211, hg234, cs4])
           have hR240 := q2 hM84 (.ret false) (by simp only [flqlaw15_SolverGrows_L0, h104, h107, h137, h144, h150, h176, h180, h185, h191, h212, h222, h224, h235, h237, hg5, hg12, hg32, hg45, hg114, hg142, hg211, hg234, hR239, cs4])
           have hq := q4 hrr false (by unfold flqlaw15_SolverGrows; simp only [h104, h107, h137, h144, h150, h176, h180, h185, h191, h212, h222, h224, h235, h237, hg5, hg12, hg32, hg45, hg114, hg142, hg211, hg234, hR239, hR240, cs4]); subst hq
           exact Kr () rfl (.tmp rfl .nil) [] trivial
         intro h235
         have h242 := not_false h235
         refine KS ?_
         refine Oq Vm (Oq Vadd (Oq Va (KS ?_)))
         exact Kg (r178, (i_153 + 1)) [6, 6, 7, 8, 9, 10, 11, 12, 13, 14, 14, 15, 15, 16, 17, 18] ⟨(q3 hM154 (by simp only [flqlaw15_SolverGrows_L1, h104, h107, h137, h144, h150, h176, h180, h185, h191, h212, h222, h224, h235, h242, hg5, hg12, hg32, hg45, hg114, hg142, hg211, hg234, cs4])), (by omega), (by omega), (by omega), (by omega)⟩
       intro h224
       have g244 := ne_of_beq_false h224
       refine JK_drawK [0, 0, 2, 6, 15, 31, 63, 127, 63, 511, 1023, 2047, 4095, 8191, 16383, 32767, 16383, 131071, 262143, 16383, 540671, 2097151, 4194303, 8388607, 16777215, 33554431, 16777215, 134217727, 268435455, 16777215, 16777215, 1090519039, 16777215, 7532969983, 16122904575, 33839644671, 68199383039, 137438953471, 274877906943, 549755813887, 1099511627775, 2199023255551, 4398046511103, 8796093022207, 2199023255551, 19791209299967, 54975581388799, 140737488355327, 281474976710655, 562949953421311, 1125899906842623, 562949953421311, 4503599627370495, 9007199254740991, 562949953421311, 18577348462903295, 562949953421311, 126663739519795199, 270778927595651071, 576460752303423487, 1152921504606846975, 2305843009213693951, 4611686018427387903] fmix ?_
       refine Dv [] Vm (Dv [5] (Vfa fo59_1 0) (Dv [6] (VldF sh22 0) (Dv [] (Vlen sl22) (Db h180 [] Vgeq (Dv [] Vm (Dv [5] (Vfa fo59_1 0) (Dv [6] (VldF sh22 0) (Dv [] Vm (Dv [7] (Vi sl22 0) ?_)))))))))
       have hb245 := ok1 (i := i_153.toNat) ho160 rng
       refine Dv [7] (VldI sh3 0) (Db h185 [] Vlss (Dv [] Vpf (Dv [] Vm (Dv [5] (Vfa fo59_1 0) (Dv [6] (VldF sh22 0) (Dv [] Vm (Dv [7] (Vi sl22 0) ?_)))))))
       have hb246 := ok1 (i := i_153.toNat) ho160 rng
       refine Dv [7] (VldI sh3 0) (Dv [] Vm (Dv [] (Vlen sl25) (Db h191 [] Vgeq (Dv [] Vpf (Dv [] Vm (Dv [5] (Vfa fo59_5 0) (Dv [6] (VldF sh25 0) (Dv [] Vm (Dv [9] (Vi sl25 0) ?_)))))))))
       refine Dv [3] (VldA sh42 0) (Dv [] Vm (Dv [5] (Vfa fo59_1 0) (Dv [6] (VldF sh22 0) (Dv [] Vm (Dv [7] (Vi sl22 0) ?_)))))
       have hb247 := ok1 (i := i_153.toNat) ho160 rng
       refine Dv [7] (VldI sh3 0) (Dv [16] (Vi sl25 0) (Dv [1] (VldA sh42 0) (Dx [2, 4] [] [1, 2, 0] (fun G => vb rv210) [fun G => SP.fact (True)] (fun G => xC [1, 0] ca43 (fn43 ((rv113.1.Values.getD i_153.toNat default)) a198 k199 ((rv31.1.getD ((rv113.1.Cone.getD i_153.toNat 0) : Int).toNat default)) a202 k203 pre pre rv210 hg211)) (Db h212 [] Vnot (Dv [] Vpf (Dv [] Vm (Dv [0] (Vfa fo59_5 0) (Dv [15] (VldF sh25 0) (Dv [] (Vlen sl25) ?_)))))))))
       refine Dv [5] (Vfa fo59_5 0) (Dv [6] (VldF sh25 0) (Dv [] (Vlen sl25) (Db h224 [] Veql (Dv [] Vm (Ds (Ds (Ds (Ds (Ds ?_)))))))))
       refine Ds (Ds (Ds (Ds (Ds (Ds (Ds (Dv [] Vpf (Dv [] Vpf ?_))))))))
       refine Dn ⟨by kernel_rfl, fun G => ?_⟩
       refine Jw2 [(3, p29), (4, vl a37 k38 rv31.1), (7, p65), (8, vi n_75), (9, p136), (12, vi i_153), (125, vb false)] [0, 1, 2, 3, 4, 5, 6, 7, 8, 9, 10, 11, 12, 13, 14, 15, 16, 17, 18, 19, 20, 21] [SP.fact (True)] ?_
       refine Jk [1, 2, 3, 4, 6, 6, 7, 8, 9, 10, 11, 12, 13, 14, 14, 15, 15, 16, 17, 18] ?_
       refine Kf ?_
       refine KS ?_
       refine Oq Vm (Oq Vadd (Oq Va (KS ?_)))
       exact Kg (r178, (i_153 + 1)) [4, 4, 5, 6, 7, 8, 9, 10, 11, 12, 12, 13, 13, 14, 15, 16] ⟨(q3 hM154 (by simp only [flqlaw15_SolverGrows_L1, h104, h107, h137, h144, h150, h176, h180, h185, h191, h212, h222, h224, hg5, hg12, hg32, hg45, hg114, hg142, hg211, cs4])), (by omega), (by omega), (by omega), (by omega)⟩
     intro h176
     have g248 := of_decide_eq_false h176
     obtain rfl : r152 = 0 := by omega
     refine Ke ?_
     have hR249 := q2 hM154 (.brk ()) (by simp only [flqlaw15_SolverGrows_L1, h104, h107, h137, h144, h150, h176, hg5, hg12, hg32, hg45, hg114, hg142, cs4])
     refine KS ?_
     refine Oq (VldA sh59 0) (Ost (Scl [9] sh59 [vi rv113.1.Phase, vl a122 k123 rv113.1.Cone, vl a126 k127 rv113.1.Leaf, vi rv113.1.At, vi rv113.1.Edge, vl a129 k130 rv113.1.Values, vl a132 k133 rv113.1.Queue, vi rv113.1.Steps]) (KS ?_))
     refine Oq Vm (Oq Vadd (Oq Va (KS ?_)))
     exact Kg (r106, rv113.1.Phase, rv113.1.Cone, rv113.1.Leaf, rv113.1.At, rv113.1.Edge, rv113.1.Values, rv113.1.Queue, rv113.1.Steps, (n_75 + 1), a122, k123, a126, k127, a129, k130, a132, k133) [5, 4, 3, 2, 0, 9, 10, 10, 11, 12, 13] ⟨(q3 hM84 (by simp only [flqlaw15_SolverGrows_L0, h104, h107, h137, h144, h150, h176, hg5, hg12, hg32, hg45, hg114, hg142, hR249, cs4])), (by omega), (by omega), (by omega), (by omega), (by omega), (by omega), (by omega), (by omega)⟩
   intro h107
   have g250 := eq_of_bne_false h107
   refine Ke ?_
   have hR251 := q2 hM84 (.brk ()) (by simp only [flqlaw15_SolverGrows_L0, h104, h107, hg5, hg12, hg32, hg45, cs4])
   refine KS ?_
   have hc252 := fn37  flqlaw15_sane rfl
   refine Oc [] ca37 hc252 ?_
   rintro - -
   refine Oq Va (KS ?_)
   have hq := q4 hrr flqlaw15_sane (by unfold flqlaw15_SolverGrows; simp only [h104, h107, hg5, hg12, hg32, hg45, hR251, cs4]); subst hq
   exact Kr () rfl (.tmp rfl .nil) [] trivial
 intro h104
 have g253 := of_decide_eq_false h104
 obtain rfl : r66 = 0 := by omega
 refine Osk (Osk (Osk (Oq Vpf (KS ?_))))
 refine Kf ?_
 refine Ke ?_
 have hR254 := q2 hM84 (.brk ()) (by simp only [flqlaw15_SolverGrows_L0, h104, hg5, hg12, hg32, hg45, cs4])
 refine KS ?_
 have hc255 := fn37  flqlaw15_sane rfl
 refine Oc [] ca37 hc255 ?_
 rintro - -
 refine Oq Va (KS ?_)
 have hq := q4 hrr flqlaw15_sane (by unfold flqlaw15_SolverGrows; simp only [h104, hg5, hg12, hg32, hg45, hR254, cs4]); subst hq
 exact Kr () rfl (.tmp rfl .nil) [] trivial
end Go.SL.G
