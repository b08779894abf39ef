/- Part 5 of the walks: mirrors, plain laws and walks used by the last text of this claim. -/
import Derived.Test.YtodlobcpbdkjpaaGreatDoorW4
import Derived.Test.YtodlobcpbdkjpaaGreatDoorProg
set_option linter.unusedVariables false
set_option linter.unusedSimpArgs false
namespace Go.SL.G
open Go Go.SL Go.Proofs
set_option maxHeartbeats 20000000
set_option maxRecDepth 100000
theorem fn26 (s : GSystem) (sa1 : Option Addr) (sk1 : Nat) (sa2 : Option Addr) (sk2 : Nat) (sa3 : Option Addr) (sk3 : Nat) (k : List GKnown) (ka0 : Option Addr) (kk0 : Nat) (st : GState) (sta1 : Option Addr) (stk1 : Nat) (sta2 : Option Addr) (stk2 : Nat) (sta5 : Option Addr) (stk5 : Nat) (sta6 : Option Addr) (stk6 : Nat) (steps : Int) (hs_0 : i64ok s.Width) (hst_0 : i64ok st.Phase) (hst_3 : i64ok st.At) (hst_4 : i64ok st.Edge) (hst_7 : i64ok st.Steps) (hsteps_0 : i64ok steps) (hs0 : steps ≤ 1000000000) (rr : GState × Int × Int) (hrr : r14_Run s k st steps = rr) : FT Tryz.prog 26 #[.agg #[vi s.Width, vl sa1 sk1 s.Deps, vl sa2 sk2 s.Transfers, vl sa3 sk3 s.Boundary], vl ka0 kk0 k, .agg #[vi st.Phase, vl sta1 stk1 st.Cone, vl sta2 stk2 st.Leaf, vi st.At, vi st.Edge, vl sta5 stk5 st.Values, vl sta6 stk6 st.Queue, vi st.Steps], vi steps] [S sa1 sk1 s.Deps, S sa2 sk2 s.Transfers, S sa3 sk3 s.Boundary, S ka0 kk0 k, S sta1 stk1 st.Cone, S sta2 stk2 st.Leaf, S sta5 stk5 st.Values, S sta6 stk6 st.Queue] (fun g : Value × Value × Value × Value => i64ok rr.1.Phase ∧ i64ok rr.1.At ∧ i64ok rr.1.Edge ∧ i64ok rr.1.Steps ∧ i64ok rr.2.1 ∧ i64ok rr.2.2) (fun g => .tuple #[.agg #[vi rr.1.Phase, g.1, g.2.1, vi rr.1.At, vi rr.1.Edge, g.2.2.1, g.2.2.2, vi rr.1.Steps], vi rr.2.1, vi rr.2.2]) (fun g => [sl g.1 rr.1.Cone, sl g.2.1 rr.1.Leaf, sl g.2.2.1 rr.1.Values, sl g.2.2.2 rr.1.Queue]) := by
 refine FTi Tryz.func26 fun w0 M0 F0 => ?_
 unfold i64ok at hs_0 hst_0 hst_3 hst_4 hst_7 hsteps_0
 refine Fb 24 0 fun _ => Fb 88 1 fun _ => Fb 32 2 fun _ => Fb 40 3 fun _ => Fb 8 4 fun _ => Fo 4 fun ho6 => Fb 1 5 fun _ => Fb 32 6 fun _ => ?_
 refine Fb 8 7 fun _ => Fo 7 fun ho10 => KS ?_
 refine Oa (Ab [vi s.Width, vl sa1 sk1 s.Deps, vl sa2 sk2 s.Transfers, vl sa3 sk3 s.Boundary]) fun p11 => Oa (AbO [vi st.Phase, vl sta1 stk1 st.Cone, vl sta2 stk2 st.Leaf, vi st.At, vi st.Edge, vl sta5 stk5 st.Values, vl sta6 stk6 st.Queue, vi st.Steps]) fun p12 => Oa (Al ze26 [vi 0, .slice none 0 0, .slice none 0 0, vi 0, vi 0, .slice none 0 0, .slice none 0 0, vi 0]) fun p13 => Oq Va (Oq Va (KS ?_))
 refine Oq (VldA sh32 2) (Oq Vm (Oq (VldA sh26 1) ?_))
 refine letv (r14_Valid s k st) fun rv14 hg15 => ?_
 have hc16 := fn53 s sa1 sk1 sa2 sk2 sa3 sk3 k ka0 kk0 st sta1 stk1 sta2 stk2 sta5 stk5 sta6 stk6 pre pre pre pre pre rv14 hg15
 refine Oc [3, 4, 5, 6, 7, 8, 9, 10] ca53 hc16 ?_
 rintro - -
 refine Oq Vnot (Oq Vm ?_)
 refine Js 21 ?_ ?_
 ·intro h17
  have h19 := not_true h17
  refine Osk (Osk (Oq Vpt (KS ?_)))
  refine Kt (KS ?_)
  refine Oq (Vbd st26 [vi 0, .slice none 0 0, .slice none 0 0, vi 0, vi 0, .slice none 0 0, .slice none 0 0, vi 0]) (Ost (Scl [0] sh26 [vi 0, .slice none 0 0, .slice none 0 0, vi 0, vi 0, .slice none 0 0, .slice none 0 0, vi 0]) (Oq Va (Oq Va (KS ?_))))
  refine Jl [] (Ent.slNil (α := Int)) ?_
  refine Jl [] (Ent.slNil (α := Bool)) ?_
  refine Jl [] (Ent.slNil (α := GSet)) ?_
  have hq := q4 hrr ((GState.mk 0 [] [] 0 0 [] [] 0), 0, 1) (by simp only [r14_Run, h17, h19, hg15, cs4]); subst hq
  exact Kr (.slice none 0 0, .slice none 0 0, .slice none 0 0, .slice none 0 0) rfl (.cellN 3 rfl sh26 rfl (reads_Cl _ _) rfl (.tmp rfl (.tmp rfl .nil))) [2, 1, 0, 2] en
 intro h17
 have h22 := not_false h17
 refine Oq Vm (Oq Vlss (Oq Vpf (KS ?_)))
 refine Kc ?_ ?_
 ·intro h24
  have g25 := dt h24
  refine KS ?_
  refine Oq (Vbd st26 [vi 0, .slice none 0 0, .slice none 0 0, vi 0, vi 0, .slice none 0 0, .slice none 0 0, vi 0]) (Ost (Scl [0] sh26 [vi 0, .slice none 0 0, .slice none 0 0, vi 0, vi 0, .slice none 0 0, .slice none 0 0, vi 0]) (Oq Va (Oq Va (KS ?_))))
  refine Jl [] (Ent.slNil (α := Int)) ?_
  refine Jl [] (Ent.slNil (α := Bool)) ?_
  refine Jl [] (Ent.slNil (α := GSet)) ?_
  have hq := q4 hrr ((GState.mk 0 [] [] 0 0 [] [] 0), 0, 1) (by simp only [r14_Run, h17, h22, h24, hg15, cs4]); subst hq
  exact Kr (.slice none 0 0, .slice none 0 0, .slice none 0 0, .slice none 0 0) rfl (.cellN 3 rfl sh26 rfl (reads_Cl _ _) rfl (.tmp rfl (.tmp rfl .nil))) [2, 1, 0, 2] en
 intro h24
 have g26 := df h24
 refine KS ?_
 refine Oq Va (KS ?_)
 refine Oq Va (KS ?_)
 refine Kl (γ := Nat × Int × List Int × List Bool × Int × Int × List GSet × List Int × Int × Int × Int × Option Addr × Nat × Option Addr × Nat × Option Addr × Nat × Option Addr × Nat) (fun (r27, st0_28, st1_29, st2_30, st3_31, st4_32, st5_33, st6_34, st7_35, total_36, n_37, a38, k39, a40, k41, a42, k43, a44, k45) => ⟨[(1, vl ka0 kk0 k), (3, vi steps), (4, p11), (6, p12), (8, p13), (11, vi total_36), (12, vi n_37)], [S a44 k45 st6_34, S a42 k43 st5_33, S a40 k41 st2_30, S a38 k39 st1_29, Cl p13 [vi 0, .slice none 0 0, .slice none 0 0, vi 0, vi 0, .slice none 0 0, .slice none 0 0, vi 0], Cl p12 [vi st0_28, vl a38 k39 st1_29, vl a40 k41 st2_30, vi st3_31, vi st4_32, vl a42 k43 st5_33, vl a44 k45 st6_34, vi st7_35], pv p11 [vi s.Width, vl sa1 sk1 s.Deps, vl sa2 sk2 s.Transfers, vl sa3 sk3 s.Boundary], S sa1 sk1 s.Deps, S sa2 sk2 s.Transfers, S sa3 sk3 s.Boundary, S ka0 kk0 k], r14_Run_L0 s k r27 st0_28 st1_29 st2_30 st3_31 st4_32 st5_33 st6_34 st7_35 total_36 n_37 = r14_Run_L0 s k (((steps : Int) - 0).toNat) st.Phase st.Cone st.Leaf st.At st.Edge st.Values st.Queue st.Steps 0 0 ∧ r27 = ((steps : Int) - n_37).toNat ∧ (0 : Int) ≤ n_37 ∧ (n_37 ≤ steps ∨ n_37 = 0) ∧ (-9223372036854775808 ≤ st0_28 ∧ st0_28 ≤ 9223372036854775807) ∧ (-9223372036854775808 ≤ st3_31 ∧ st3_31 ≤ 9223372036854775807) ∧ (-9223372036854775808 ≤ st4_32 ∧ st4_32 ≤ 9223372036854775807) ∧ (-9223372036854775808 ≤ st7_35 ∧ st7_35 ≤ 9223372036854775807) ∧ (-9223372036854775808 ≤ total_36 ∧ total_36 ≤ 9223372036854775807) ∧ (-9223372036854775808 ≤ n_37 ∧ n_37 ≤ 9223372036854775807) ∧ 0 ≤ total_36 ∧ total_36 ≤ 8 * n_37, r27⟩) (((steps : Int) - 0).toNat, st.Phase, st.Cone, st.Leaf, st.At, st.Edge, st.Values, st.Queue, st.Steps, 0, 0, sta1, stk1, sta2, stk2, sta5, stk5, sta6, stk6) [10, 9, 8, 7, 0, 0, 0, 1, 2, 3, 4] ⟨rfl, rfl, aM1, (.inr rfl), aM1, aM1, aM1, aM1, aM1, aM1, iv0⟩ ?_
 rintro ⟨r27, st0_28, st1_29, st2_30, st3_31, st4_32, st5_33, st6_34, st7_35, total_36, n_37, a38, k39, a40, k41, a42, k43, a44, k45⟩ ⟨hM46, hr47, hi48, hi49, hk50, hk51, hk52, hk53, hk54, hk55, hv56⟩
 refine JJ_nx fun _ _ hL hA => ?_; dsimp only at hL hA; subst hL hA
 refine Fb 8 0 fun _ => Fo 0 fun ho58 => Fb 32 1 fun _ => Fb 1 2 fun _ => Fb 8 3 fun _ => Fo 3 fun ho62 => Fb 24 7 fun _ => Fb 88 8 fun _ => ?_
 refine Fb 32 9 fun _ => Fb 40 10 fun _ => KS ?_
 refine Oq Vm (Oq Vm (Oq Vlss (Oq Vm ?_)))
 refine Js 29 ?_ ?_
 ·intro h67
  have g68 := dt h67
  obtain ⟨r69, rfl⟩ := scc (n := r27) aM1
  refine Oq (Vfa fo26_0 5) (Oq (VldF sh3 5) (Oq Vneq (Oq Vpt (KS ?_))))
  refine Kc ?_ ?_
  ·intro h70
   have g71 := ne_of_bne h70
   refine KS ?_
   refine Oq (VldA sh32 6) (Oq Vm (Oq (VldA sh26 5) ?_))
   refine letv (r14_Step s k (GState.mk st0_28 st1_29 st2_30 st3_31 st4_32 st5_33 st6_34 st7_35)) fun rv76 hg77 => ?_
   have hc78 := fn54 s sa1 sk1 sa2 sk2 sa3 sk3 k ka0 kk0 ((GState.mk st0_28 st1_29 st2_30 st3_31 st4_32 st5_33 st6_34 st7_35)) a38 k39 a40 k41 a42 k43 a44 k45 pre pre pre pre pre rv76 hg77
   refine Oc [7, 8, 9, 10, 3, 2, 1, 0] ca54 hc78 ?_
   rintro ⟨c72, c73, c74, c75⟩ ⟨he79, he80, he81, he82, he83, he84, he85⟩
   unfold i64ok at he79 he80 he81 he82 he83 he84
   refine Jo 0 ?_; rintro a86 k87 rfl
   refine Fb 8 0 fun _ => Fo 0 fun ho89 => ?_
   refine Jo 1 ?_; rintro a90 k91 rfl
   refine Fb 1 1 fun _ => ?_
   refine Jo 2 ?_; rintro a93 k94 rfl
   refine Fb 32 2 fun _ => ?_
   refine Jo 3 ?_; rintro a96 k97 rfl
   refine Fb 8 3 fun _ => Fo 3 fun ho99 => ?_
   refine Oq Vm (Oq Vx (Oq Vx (Oq Vx (Oa (Al ze26 [vi 0, .slice none 0 0, .slice none 0 0, vi 0, vi 0, .slice none 0 0, .slice none 0 0, vi 0]) fun p100 => Ost (Scl [0] sh26 [vi rv76.1.Phase, vl a86 k87 rv76.1.Cone, vl a90 k91 rv76.1.Leaf, vi rv76.1.At, vi rv76.1.Edge, vl a93 k94 rv76.1.Values, vl a96 k97 rv76.1.Queue, vi rv76.1.Steps]) (Oq Va (Oq Va (KS ?_)))))))
   refine Oq (VldA sh26 0) (Ost (Scl [10] sh26 [vi rv76.1.Phase, vl a86 k87 rv76.1.Cone, vl a90 k91 rv76.1.Leaf, vi rv76.1.At, vi rv76.1.Edge, vl a93 k94 rv76.1.Values, vl a96 k97 rv76.1.Queue, vi rv76.1.Steps]) (KS ?_))
   refine Oq Vm (Oq Vm (Oq Vadd (Oq Va (KS ?_))))
   refine Oq Vm (Oq Vadd (Oq Va (KS ?_)))
   exact Kg (r69, rv76.1.Phase, rv76.1.Cone, rv76.1.Leaf, rv76.1.At, rv76.1.Edge, rv76.1.Values, rv76.1.Queue, rv76.1.Steps, (total_36 + rv76.2.1), (n_37 + 1), a86, k87, a90, k91, a93, k94, a96, k97) [5, 4, 3, 2, 10, 0, 9, 10, 11, 12, 13] ⟨(q3 hM46 (by simp only [r14_Run_L0, h67, h70, hg77, cs4])), aM1, aM1, aM1, aM1, aM1, aM1, aM1, aM1, aM1, iv1⟩
  intro h70
  have g101 := eq_of_bne_false h70
  refine Ke ?_
  have hR102 := q2 hM46 (st0_28, st1_29, st2_30, st3_31, st4_32, st5_33, st6_34, st7_35, total_36) (by simp only [r14_Run_L0, h67, h70, cs4])
  refine KS ?_
  refine Oq (VldA sh26 5) (Oq Vm (Ost (Scl [4] sh26 [vi st0_28, vl a38 k39 st1_29, vl a40 k41 st2_30, vi st3_31, vi st4_32, vl a42 k43 st5_33, vl a44 k45 st6_34, vi st7_35]) (Oq Va (Oq Va (KS ?_)))))
  have hq := q4 hrr ((GState.mk st0_28 st1_29 st2_30 st3_31 st4_32 st5_33 st6_34 st7_35), total_36, 0) (by simp only [r14_Run, h17, h22, h24, h67, h70, hg15, hR102, cs4]); subst hq
  exact Kr (vl a38 k39 st1_29, vl a40 k41 st2_30, vl a42 k43 st5_33, vl a44 k45 st6_34) rfl (.cellN 0 rfl sh26 rfl (reads_Cl _ _) rfl (.tmp rfl (.tmp rfl .nil))) [4, 3, 2, 1] en
 intro h67
 have g103 := df h67
 obtain rfl : r27 = 0 := by omega
 refine Osk (Osk (Osk (Oq Vpf (KS ?_))))
 refine Kf ?_
 refine Ke ?_
 have hR104 := q2 hM46 (st0_28, st1_29, st2_30, st3_31, st4_32, st5_33, st6_34, st7_35, total_36) (by simp only [r14_Run_L0, h67, cs4])
 refine KS ?_
 refine Oq (VldA sh26 5) (Oq Vm (Ost (Scl [4] sh26 [vi st0_28, vl a38 k39 st1_29, vl a40 k41 st2_30, vi st3_31, vi st4_32, vl a42 k43 st5_33, vl a44 k45 st6_34, vi st7_35]) (Oq Va (Oq Va (KS ?_)))))
 have hq := q4 hrr ((GState.mk st0_28 st1_29 st2_30 st3_31 st4_32 st5_33 st6_34 st7_35), total_36, 0) (by simp only [r14_Run, h17, h22, h24, h67, hg15, hR104, cs4]); subst hq
 exact Kr (vl a38 k39 st1_29, vl a40 k41 st2_30, vl a42 k43 st5_33, vl a44 k45 st6_34) rfl (.cellN 0 rfl sh26 rfl (reads_Cl _ _) rfl (.tmp rfl (.tmp rfl .nil))) [4, 3, 2, 1] en
theorem fn7 (kP : Value) (ka : Option Addr) (kk : Nat) (kT : List Int) (kI : Int) (hkI : 0 ≤ kI ∧ kI ≤ (kT.length : Int)) (rr : GSystem × GState × Int) (hrr : w18_state kT kI = rr) : FT Tryz.prog 7 #[kP] [Cl kP [vl ka kk kT, vi kI], S ka kk kT] (fun g : Value × Value × Value × Value × Value × Value × Value => i64ok rr.1.Width ∧ i64ok rr.2.1.Phase ∧ i64ok rr.2.1.At ∧ i64ok rr.2.1.Edge ∧ i64ok rr.2.1.Steps ∧ (0 ≤ rr.2.2 ∧ rr.2.2 ≤ (kT.length : Int))) (fun g => .tuple #[.agg #[vi rr.1.Width, g.1, g.2.1, g.2.2.1], .agg #[vi rr.2.1.Phase, g.2.2.2.1, g.2.2.2.2.1, vi rr.2.1.At, vi rr.2.1.Edge, g.2.2.2.2.2.1, g.2.2.2.2.2.2, vi rr.2.1.Steps]]) (fun g => [sl g.1 rr.1.Deps, sl g.2.1 rr.1.Transfers, sl g.2.2.1 rr.1.Boundary, sl g.2.2.2.1 rr.2.1.Cone, sl g.2.2.2.2.1 rr.2.1.Leaf, sl g.2.2.2.2.2.1 rr.2.1.Values, sl g.2.2.2.2.2.2 rr.2.1.Queue, Cl kP [vl ka kk kT, vi rr.2.2]]) := by
 refine FTi Tryz.func7 fun w0 M0 F0 => Fb 8 1 fun _ => Fo 1 fun ho2 => ?_
 refine KS ?_
 refine Oa (Al ze32 [vi 0, .slice none 0 0, .slice none 0 0, .slice none 0 0]) fun p3 => Oa (Al ze26 [vi 0, .slice none 0 0, .slice none 0 0, vi 0, vi 0, .slice none 0 0, .slice none 0 0, vi 0]) fun p4 => KS ?_
 refine Oq Vm ?_
 refine letv (tp_System kT kI 5) fun rv8 hg9 => ?_
 have hc10 := fn19 kP ka kk kT kI 5 pre pre pre rv8 hg9
 refine Oc [2, 2] ca19 hc10 ?_
 rintro ⟨c5, c6, c7⟩ ⟨he11, he12, he13⟩
 unfold i64ok at he11
 refine Jo 0 ?_; rintro a14 k15 rfl
 refine Fb 24 0 fun _ => ?_
 refine Jo 1 ?_; rintro a17 k18 rfl
 refine Fb 88 1 fun _ => ?_
 refine Jo 2 ?_; rintro a20 k21 rfl
 refine Fb 32 2 fun _ => ?_
 refine Oa (Al ze32 [vi 0, .slice none 0 0, .slice none 0 0, .slice none 0 0]) fun p23 => Ost (Scl [0] sh32 [vi rv8.1.Width, vl a14 k15 rv8.1.Deps, vl a17 k18 rv8.1.Transfers, vl a20 k21 rv8.1.Boundary]) (KS ?_)
 refine Jp 0 fun hp24 => ?_
 refine JK_drawK [0, 0, 0, 4, 12, 30, 62, 0, 254, 511, 1023, 2047, 2047, 2047, 0, 20479, 57343, 131071] fmix ?_
 refine Dv [1] (VldA sh32 0) (Dv [] Vm (Dv [0] (Vfa fo32_1 0) (Dv [1] (VldF sh29 0) (Dv [] (Vlen sl29) ?_))))
 refine letv (tp_Next kT rv8.2 (rv8.1.Deps.length : Int)) fun rv25 hg26 => Dx [5, 8] [5] [2, 0, 1] (fun G => vi rv25.1) [fun G => SP.fact (i64ok rv25.1 ∧ (0 ≤ rv25.2 ∧ rv25.2 ≤ (kT.length : Int)) ∧ (0 ≤ rv25.1 ∧ (rv25.1 < (rv8.1.Deps.length : Int) ∨ rv25.1 = 0))), fun G => Cl kP [vl ka kk kT, vi rv25.2]] (fun G => xC [0, 0] ca9 (fn9 kP ka kk kT rv8.2 ((rv8.1.Deps.length : Int)) pre pre rv25 hg26)) ?_
 refine letv (r14_Start rv25.1) fun rv31 hg32 => ?_
 refine Dx [9] [] [5, 0, 1, 2, 3, 4] (fun G => .agg #[vi rv31.Phase, (G.g 6 0), (G.g 6 1), vi rv31.At, vi rv31.Edge, (G.g 6 2), (G.g 6 3), vi rv31.Steps]) [fun G => SP.fact (i64ok rv31.Phase ∧ i64ok rv31.At ∧ i64ok rv31.Edge ∧ i64ok rv31.Steps), fun G => sl (G.g 6 0) rv31.Cone, fun G => sl (G.g 6 1) rv31.Leaf, fun G => sl (G.g 6 2) rv31.Values, fun G => sl (G.g 6 3) rv31.Queue] (fun G => by refine xf 0 rfl ?_; rintro ⟨he33, he34, he35⟩; unfold i64ok at he33; exact xC [] ca27 (fn27 rv25.1 pre rv31 hg32)) (Dv [] Vm ?_)
 refine letv (tp_Next kT rv25.2 30) fun rv36 hg37 => ?_
 refine Dx [8, 9, 10] [10] [2, 3, 0, 1] (fun G => vi rv36.1) [fun G => SP.fact (i64ok rv36.1 ∧ (0 ≤ rv36.2 ∧ rv36.2 ≤ (kT.length : Int)) ∧ (0 ≤ rv36.1 ∧ (rv36.1 < 30 ∨ rv36.1 = 0))), fun G => Cl kP [vl ka kk kT, vi rv36.2]] (fun G => by refine xf 1 rfl ?_; rintro ⟨he38, he39, he40⟩; unfold i64ok at he38; exact xC [2, 0] ca9 (fn9 kP ka kk kT rv25.2 30 pre pre rv36 hg37)) ?_
 refine letv (r14_Run rv8.1 ([] : List GKnown) rv31 rv36.1) fun rv57 hg58 => ?_
 refine Dx [2, 3, 4, 9, 11, 12, 13, 14, 15, 16] [] [6, 7, 8, 9, 10, 11, 12, 13, 14, 15, 5, 0, 1, 2, 3, 4] (fun G => .tuple #[.agg #[vi rv57.1.Phase, (G.g 9 0), (G.g 9 1), vi rv57.1.At, vi rv57.1.Edge, (G.g 9 2), (G.g 9 3), vi rv57.1.Steps], vi rv57.2.1, vi rv57.2.2]) [fun G => sl (.slice none 0 0) ([] : List GKnown), fun G => SP.fact (i64ok rv57.1.Phase ∧ i64ok rv57.1.At ∧ i64ok rv57.1.Edge ∧ i64ok rv57.1.Steps ∧ i64ok rv57.2.1 ∧ i64ok rv57.2.2), fun G => sl (G.g 9 0) rv57.1.Cone, fun G => sl (G.g 9 1) rv57.1.Leaf, fun G => sl (G.g 9 2) rv57.1.Values, fun G => sl (G.g 9 3) rv57.1.Queue] (fun G => by refine xf 3 rfl ?_; rintro ⟨he59, he60, he61⟩; unfold i64ok at he59; refine xf 4 rfl ?_; rintro ⟨he62, he63, he64, he65⟩; unfold i64ok at he62 he63 he64 he65; refine xf 9 rfl ?_; rintro ⟨he66, he67, he68⟩; unfold i64ok at he66; exact xp [] rfl (Ent.slNil (α := GKnown)) (xD [9, 8, 7, 6, 1, 2, 3, 0] ca26 rfl rfl rfl (FT_open (γ := Value × Value × Value × Value) (I := fun g => i64ok rv57.1.Phase ∧ i64ok rv57.1.At ∧ i64ok rv57.1.Edge ∧ i64ok rv57.1.Steps ∧ i64ok rv57.2.1 ∧ i64ok rv57.2.2) (V := fun g => .tuple #[.agg #[vi rv57.1.Phase, g.1, g.2.1, vi rv57.1.At, vi rv57.1.Edge, g.2.2.1, g.2.2.2, vi rv57.1.Steps], vi rv57.2.1, vi rv57.2.2]) (B := fun g => [sl g.1 rv57.1.Cone, sl g.2.1 rv57.1.Leaf, sl g.2.2.1 rv57.1.Values, sl g.2.2.2 rv57.1.Queue]) (R := sl (G.g 6 3) rv31.Queue) sl_slice (fun aq50 kq51 eq52 => by rw [eq52]; exact FT_ent (Ent.take (is := [1, 2, 3, 4, 5, 6, 7, 0]) rfl) (FT_open (γ := Value × Value × Value × Value) (I := fun g => i64ok rv57.1.Phase ∧ i64ok rv57.1.At ∧ i64ok rv57.1.Edge ∧ i64ok rv57.1.Steps ∧ i64ok rv57.2.1 ∧ i64ok rv57.2.2) (V := fun g => .tuple #[.agg #[vi rv57.1.Phase, g.1, g.2.1, vi rv57.1.At, vi rv57.1.Edge, g.2.2.1, g.2.2.2, vi rv57.1.Steps], vi rv57.2.1, vi rv57.2.2]) (B := fun g => [sl g.1 rv57.1.Cone, sl g.2.1 rv57.1.Leaf, sl g.2.2.1 rv57.1.Values, sl g.2.2.2 rv57.1.Queue]) (R := sl (G.g 6 2) rv31.Values) sl_slice (fun aq47 kq48 eq49 => by rw [eq49]; exact FT_ent (Ent.take (is := [1, 2, 3, 4, 5, 6, 0, 7]) rfl) (FT_open (γ := Value × Value × Value × Value) (I := fun g => i64ok rv57.1.Phase ∧ i64ok rv57.1.At ∧ i64ok rv57.1.Edge ∧ i64ok rv57.1.Steps ∧ i64ok rv57.2.1 ∧ i64ok rv57.2.2) (V := fun g => .tuple #[.agg #[vi rv57.1.Phase, g.1, g.2.1, vi rv57.1.At, vi rv57.1.Edge, g.2.2.1, g.2.2.2, vi rv57.1.Steps], vi rv57.2.1, vi rv57.2.2]) (B := fun g => [sl g.1 rv57.1.Cone, sl g.2.1 rv57.1.Leaf, sl g.2.2.1 rv57.1.Values, sl g.2.2.2 rv57.1.Queue]) (R := sl (G.g 6 1) rv31.Leaf) sl_slice (fun aq44 kq45 eq46 => by rw [eq46]; exact FT_ent (Ent.take (is := [1, 2, 3, 4, 5, 0, 6, 7]) rfl) (FT_open (γ := Value × Value × Value × Value) (I := fun g => i64ok rv57.1.Phase ∧ i64ok rv57.1.At ∧ i64ok rv57.1.Edge ∧ i64ok rv57.1.Steps ∧ i64ok rv57.2.1 ∧ i64ok rv57.2.2) (V := fun g => .tuple #[.agg #[vi rv57.1.Phase, g.1, g.2.1, vi rv57.1.At, vi rv57.1.Edge, g.2.2.1, g.2.2.2, vi rv57.1.Steps], vi rv57.2.1, vi rv57.2.2]) (B := fun g => [sl g.1 rv57.1.Cone, sl g.2.1 rv57.1.Leaf, sl g.2.2.1 rv57.1.Values, sl g.2.2.2 rv57.1.Queue]) (R := sl (G.g 6 0) rv31.Cone) sl_slice (fun aq41 kq42 eq43 => by rw [eq43]; exact FT_ent (Ent.take (is := [1, 2, 3, 4, 0, 5, 6, 7]) rfl) (fn26 rv8.1 a14 k15 a17 k18 a20 k21 (([] : List GKnown)) none 0 rv31 aq41 kq42 aq44 kq45 aq47 kq48 aq50 kq51 rv36.1 pre pre pre pre pre pre pre rv57 hg58))))))))))) (Dg [] (fun G => .tuple #[.agg #[vi rv57.1.Phase, (G.g 9 0), (G.g 9 1), vi rv57.1.At, vi rv57.1.Edge, (G.g 9 2), (G.g 9 3), vi rv57.1.Steps], vi rv57.2.1, vi rv57.2.2]) (fun G => Vm) (Dg [] (fun G => .agg #[vi rv57.1.Phase, (G.g 9 0), (G.g 9 1), vi rv57.1.At, vi rv57.1.Edge, (G.g 9 2), (G.g 9 3), vi rv57.1.Steps]) (fun G => Vx) (Dv [] Vx (Dv [] Vx (Dx [] [] [0] (fun G => (G.g 14 0)) [fun G => Cl (G.g 14 0) [vi 0, .slice none 0 0, .slice none 0 0, vi 0, vi 0, .slice none 0 0, .slice none 0 0, vi 0]] (fun G => xA (Al ze26 [vi 0, .slice none 0 0, .slice none 0 0, vi 0, vi 0, .slice none 0 0, .slice none 0 0, vi 0])) (Dx0 [20, 21, 22, 23, 24] [24] [1, 2, 3, 4, 0] [fun G => Cl (G.g 14 0) [vi rv57.1.Phase, (G.g 9 0), (G.g 9 1), vi rv57.1.At, vi rv57.1.Edge, (G.g 9 2), (G.g 9 3), vi rv57.1.Steps]] (fun G => x1 0 rfl sl_one fun ho70 => (x1 1 rfl sl_one fun ho71 => (x1 2 rfl sl_one fun ho72 => (x1 3 rfl sl_one fun ho73 => (xS (Scl [4] sh26 [vi rv57.1.Phase, (G.g 9 0), (G.g 9 1), vi rv57.1.At, vi rv57.1.Edge, (G.g 9 2), (G.g 9 3), vi rv57.1.Steps] (v := .agg #[vi rv57.1.Phase, (G.g 9 0), (G.g 9 1), vi rv57.1.At, vi rv57.1.Edge, (G.g 9 2), (G.g 9 3), vi rv57.1.Steps]) (h1 := show [vi rv57.1.Phase, (G.g 9 0), (G.g 9 1), vi rv57.1.At, vi rv57.1.Edge, (G.g 9 2), (G.g 9 3), vi rv57.1.Steps].all (·.oneCell') = true from (by simp only [List.all_cons, List.all_nil, ho70, ho71, ho72, ho73, Bool.and_true, Bool.true_and] <;> rfl)))))))) (Dv [] Va (Dv [] Va ?_))))))))
 refine Dn ⟨by kernel_rfl, fun G => ?_⟩
 refine Jw2 [(2, p3), (3, p4), (4, p23), (5, (G.g 14 0))] [0, 1, 2, 3, 4, 6, 7, 8] [SP.fact (i64ok rv25.1 ∧ (0 ≤ rv25.2 ∧ rv25.2 ≤ (kT.length : Int)) ∧ (0 ≤ rv25.1 ∧ (rv25.1 < (rv8.1.Deps.length : Int) ∨ rv25.1 = 0))), SP.fact (i64ok rv31.Phase ∧ i64ok rv31.At ∧ i64ok rv31.Edge ∧ i64ok rv31.Steps), sl (G.g 6 0) rv31.Cone, sl (G.g 6 1) rv31.Leaf, sl (G.g 6 2) rv31.Values, sl (G.g 6 3) rv31.Queue, SP.fact (i64ok rv36.1 ∧ (0 ≤ rv36.2 ∧ rv36.2 ≤ (kT.length : Int)) ∧ (0 ≤ rv36.1 ∧ (rv36.1 < 30 ∨ rv36.1 = 0))), Cl kP [vl ka kk kT, vi rv36.2], sl (.slice none 0 0) ([] : List GKnown), SP.fact (i64ok rv57.1.Phase ∧ i64ok rv57.1.At ∧ i64ok rv57.1.Edge ∧ i64ok rv57.1.Steps ∧ i64ok rv57.2.1 ∧ i64ok rv57.2.2), sl (G.g 9 0) rv57.1.Cone, sl (G.g 9 1) rv57.1.Leaf, sl (G.g 9 2) rv57.1.Values, sl (G.g 9 3) rv57.1.Queue, Cl (G.g 14 0) [vi rv57.1.Phase, (G.g 9 0), (G.g 9 1), vi rv57.1.At, vi rv57.1.Edge, (G.g 9 2), (G.g 9 3), vi rv57.1.Steps]] ?_
 generalize G.g 6 0 = c27, G.g 6 1 = c28, G.g 6 2 = c29, G.g 6 3 = c30, G.g 9 0 = c53, G.g 9 1 = c54, G.g 9 2 = c55, G.g 9 3 = c56, G.g 14 0 = p69
 refine Jf 8 rfl ?_; rintro ⟨he74, he75, he76⟩
 unfold i64ok at he74
 refine Jf 9 rfl ?_; rintro ⟨he77, he78, he79, he80⟩
 unfold i64ok at he77 he78 he79 he80
 refine Jf 14 rfl ?_; rintro ⟨he81, he82, he83⟩
 unfold i64ok at he81
 refine Jf 17 rfl ?_; rintro ⟨he84, he85, he86, he87, he88, he89⟩
 unfold i64ok at he84 he85 he86 he87 he88 he89
 refine Jk [1, 1, 2, 3, 4, 4, 4, 7, 8, 9, 10, 12, 12, 14, 15, 16, 17, 18] ?_
 refine Jo 7 ?_; rintro a90 k91 rfl
 refine Fb 8 7 fun _ => Fo 7 fun ho93 => ?_
 refine Jo 8 ?_; rintro a94 k95 rfl
 refine Fb 1 8 fun _ => ?_
 refine Jo 9 ?_; rintro a97 k98 rfl
 refine Fb 32 9 fun _ => ?_
 refine Jo 10 ?_; rintro a100 k101 rfl
 refine Fb 8 10 fun _ => Fo 10 fun ho103 => ?_
 refine Jo 13 ?_; rintro a104 k105 rfl
 refine Fb 8 13 fun _ => Fo 13 fun ho107 => ?_
 refine Jo 14 ?_; rintro a108 k109 rfl
 refine Fb 1 14 fun _ => ?_
 refine Jo 15 ?_; rintro a111 k112 rfl
 refine Fb 32 15 fun _ => ?_
 refine Jo 16 ?_; rintro a114 k115 rfl
 refine Fb 8 16 fun _ => Fo 16 fun ho117 => KS ?_
 refine JK_drawK [0, 0, 1, 7] fmix ?_
 refine Dv [0] (VldA sh32 0) (Dv [17] (VldA sh26 0) (Dx0 [5] [5] [0] [fun G => Cl p3 [vi rv8.1.Width, vl a14 k15 rv8.1.Deps, vl a17 k18 rv8.1.Transfers, vl a20 k21 rv8.1.Boundary]] (fun G => xS (Scl [0] sh32 [vi rv8.1.Width, vl a14 k15 rv8.1.Deps, vl a17 k18 rv8.1.Transfers, vl a20 k21 rv8.1.Boundary])) (Dx0 [4] [4] [0] [fun G => Cl p4 [vi rv57.1.Phase, vl a104 k105 rv57.1.Cone, vl a108 k109 rv57.1.Leaf, vi rv57.1.At, vi rv57.1.Edge, vl a111 k112 rv57.1.Values, vl a114 k115 rv57.1.Queue, vi rv57.1.Steps]] (fun G => xS (Scl [0] sh26 [vi rv57.1.Phase, vl a104 k105 rv57.1.Cone, vl a108 k109 rv57.1.Leaf, vi rv57.1.At, vi rv57.1.Edge, vl a111 k112 rv57.1.Values, vl a114 k115 rv57.1.Queue, vi rv57.1.Steps])) ?_)))
 refine Dn ⟨by kernel_rfl, fun G => ?_⟩
 refine Jw2 [(2, p3), (3, p4)] [0, 1, 2, 3, 6, 7, 8, 9, 10, 11, 12, 13, 14, 15, 16, 17] [Cl p3 [vi rv8.1.Width, vl a14 k15 rv8.1.Deps, vl a17 k18 rv8.1.Transfers, vl a20 k21 rv8.1.Boundary], Cl p4 [vi rv57.1.Phase, vl a104 k105 rv57.1.Cone, vl a108 k109 rv57.1.Leaf, vi rv57.1.At, vi rv57.1.Edge, vl a111 k112 rv57.1.Values, vl a114 k115 rv57.1.Queue, vi rv57.1.Steps]] ?_
 have hq := q4 hrr (rv8.1, rv57.1, rv36.2) (by simp only [w18_state, hg9, hg26, hg32, hg37, hg58, cs4]); subst hq
 exact Kr (vl a14 k15 rv8.1.Deps, vl a17 k18 rv8.1.Transfers, vl a20 k21 rv8.1.Boundary, vl a104 k105 rv57.1.Cone, vl a108 k109 rv57.1.Leaf, vl a111 k112 rv57.1.Values, vl a114 k115 rv57.1.Queue) rfl (.cellN 16 rfl sh32 rfl (reads_Cl _ _) rfl (.cellN 17 rfl sh26 rfl (reads_Cl _ _) rfl .nil)) [1, 2, 3, 11, 12, 13, 14, 9] en
theorem fn4 (t : List Int) (ta0 : Option Addr) (tk0 : Nat) (b : List UInt8) (ba0 : Option Addr) (bk0 : Nat) (rr : Bool) (hrr : w18_ResumeDecodes t b = rr) : FT Tryz.prog 4 #[vl ta0 tk0 t, vl ba0 bk0 b] [S ta0 tk0 t, S ba0 bk0 b, pv (gp 0) (tabV .u8 tzT), tbx 2 (tabV .u64 pw10)] (fun g : Unit => True) (fun g => vb rr) (fun g => []) := by
 refine FTi Tryz.func4 fun w0 M0 F0 => Fb 8 0 fun _ => Fo 0 fun ho2 => Fb 1 1 fun _ => ?_
 refine KS ?_
 refine Oq Va (KS ?_)
 refine Oq Vm ?_
 refine letv (g_New t) fun rv5 hg6 => ?_
 have hc7 := fn6 t ta0 tk0 rv5 hg6
 refine Oc [0] ca6 hc7 ?_
 rintro c4 -
 refine Oq Va (KS ?_)
 refine Oq Va (KS ?_)
 refine Kl (γ := Nat × Int × Int) (fun (r8, k1_9, i_10) => ⟨[(1, vl ba0 bk0 b), (5, c4), (6, vi i_10)], [Cl c4 [vl ta0 tk0 t, vi k1_9], S ta0 tk0 t, S ba0 bk0 b, pv (gp 0) (tabV .u8 tzT), tbx 2 (tabV .u64 pw10)], w18_ResumeDecodes_L0 t r8 k1_9 i_10 = w18_ResumeDecodes_L0 t 6 0 0 ∧ r8 = ((6 : Int) - i_10).toNat ∧ (0 : Int) ≤ i_10 ∧ i_10 ≤ 6 ∧ (-9223372036854775808 ≤ k1_9 ∧ k1_9 ≤ 9223372036854775807) ∧ (0 ≤ k1_9 ∧ k1_9 ≤ (t.length : Int)) ∧ (-9223372036854775808 ≤ i_10 ∧ i_10 ≤ 9223372036854775807), r8⟩) (6, 0, 0) [0, 0, 1, 2, 3] ⟨rfl, rfl, aM1, aM1, aM1, aM1, aM1⟩ ?_
 rintro ⟨r8, k1_9, i_10⟩ ⟨hM11, hr12, hi13, hi14, hk15, ht16, hk17⟩
 refine JJ_nx fun _ _ hL hA => ?_; dsimp only at hL hA; subst hL hA
 refine Fb 8 1 fun _ => Fo 1 fun ho19 => Fb 1 2 fun _ => KS ?_
 refine Oq Vm (Oq Vlss (KS ?_))
 refine Kc ?_ ?_
 ·intro h21
  have g22 := dt h21
  obtain ⟨r23, rfl⟩ := scc (n := r8) aM1
  refine KS ?_
  refine Oq Vm ?_
  refine letv (w18_state t k1_9) fun rv31 hg32 => ?_
  have heo := state_EO hg32
  have hc33 := fn7 c4 ta0 tk0 t k1_9 pre rv31 hg32
  refine Oc [0, 0] ca7 hc33 ?_
  rintro ⟨c24, c25, c26, c27, c28, c29, c30⟩ ⟨he34, he35, he36, he37, he38, he39⟩
  unfold i64ok at he34 he35 he36 he37 he38
  refine Jo 0 ?_; rintro a40 k41 rfl
  refine Fb 24 0 fun _ => ?_
  refine Jo 1 ?_; rintro a43 k44 rfl
  refine Fb 88 1 fun _ => ?_
  refine Jo 2 ?_; rintro a46 k47 rfl
  refine Fb 32 2 fun _ => ?_
  refine Jo 3 ?_; rintro a49 k50 rfl
  refine Fb 8 3 fun _ => Fo 3 fun ho52 => ?_
  refine Jo 4 ?_; rintro a53 k54 rfl
  refine Fb 1 4 fun _ => ?_
  refine Jo 5 ?_; rintro a56 k57 rfl
  refine Fb 32 5 fun _ => ?_
  refine Jo 6 ?_; rintro a59 k60 rfl
  refine Fb 8 6 fun _ => Fo 6 fun ho62 => ?_
  refine Oq Vm (Oq Vx (Oq Vx (Oa (Al ze32 [vi 0, .slice none 0 0, .slice none 0 0, .slice none 0 0]) fun p63 => Oa (Al ze26 [vi 0, .slice none 0 0, .slice none 0 0, vi 0, vi 0, .slice none 0 0, .slice none 0 0, vi 0]) fun p64 => Ost (Scl [1] sh32 [vi rv31.1.Width, vl a40 k41 rv31.1.Deps, vl a43 k44 rv31.1.Transfers, vl a46 k47 rv31.1.Boundary]) (Ost (Scl [1] sh26 [vi rv31.2.1.Phase, vl a49 k50 rv31.2.1.Cone, vl a53 k54 rv31.2.1.Leaf, vi rv31.2.1.At, vi rv31.2.1.Edge, vl a56 k57 rv31.2.1.Values, vl a59 k60 rv31.2.1.Queue, vi rv31.2.1.Steps]) (KS ?_)))))
  refine Oq (VldA sh26 0) ?_
  refine letv (r14_EncodeState rv31.2.1) fun rv66 hg67 => ?_
  have hse := ES_pos (by assumption) hg67
  have hc68 := fn13 rv31.2.1 a49 k50 a53 k54 a56 k57 a59 k60 pre pre pre pre rv66 hg67
  refine Oc [5, 6, 7, 8] ca13 hc68 ?_
  rintro c65 ⟨he69, he70⟩
  unfold i64ok at he69
  refine Jo 0 ?_; rintro a71 k72 rfl
  refine Fb 1 0 fun _ => ?_
  refine Oq Vm (Oq Vx (Oq Vx (Oq Va (Oq Va (KS ?_)))))
  refine Oq Vm ?_
  refine Jl [0] (Ent.freeze _ _) ?_
  refine letv (resume_Decode rv66.1) fun rv78 hg79 => ?_
  have hc80 := fn14 rv66.1 a71 k72 pre rv78 hg79
  refine Oc [0] ca14 hc80 ?_
  rintro ⟨c74, c75, c76, c77⟩ ⟨he81, he82, he83, he84, he85⟩
  unfold i64ok at he81 he82 he83 he84 he85
  refine Jo 0 ?_; rintro a86 k87 rfl
  refine Fb 8 0 fun _ => Fo 0 fun ho89 => ?_
  refine Jo 1 ?_; rintro a90 k91 rfl
  refine Fb 1 1 fun _ => ?_
  refine Jo 2 ?_; rintro a93 k94 rfl
  refine Fb 32 2 fun _ => ?_
  refine Jo 3 ?_; rintro a96 k97 rfl
  refine Fb 8 3 fun _ => Fo 3 fun ho99 => ?_
  refine Oq Vm (Oq Vx (Oq Vx (Oa (Al ze26 [vi 0, .slice none 0 0, .slice none 0 0, vi 0, vi 0, .slice none 0 0, .slice none 0 0, vi 0]) fun p100 => Ost (Scl [0] sh26 [vi rv78.1.Phase, vl a86 k87 rv78.1.Cone, vl a90 k91 rv78.1.Leaf, vi rv78.1.At, vi rv78.1.Edge, vl a93 k94 rv78.1.Values, vl a96 k97 rv78.1.Queue, vi rv78.1.Steps]) (Oq Va (KS ?_)))))
  refine Oq Vm (Oq Vneq (Oq Vm ?_))
  refine Js 36 ?_ ?_
  ·intro h101
   have g102 := ne_of_bne h101
   refine Osk (Osk (Osk (Osk (Oq Vpt (Oq Vm (Osk (Osk (Osk (Osk ?_)))))))))
   refine Osk (Oq Vpt (Oq Vm (Osk (Osk (Osk (Osk (Osk (Osk (Osk ?_)))))))))
   refine Osk (Osk (Osk (Oq Vpt (KS ?_))))
   refine Kt (KS ?_)
   refine Oq Va (KS ?_)
   have hR103 := q2 hM11 (.ret false) (by simp only [w18_ResumeDecodes_L0, h21, h101, hg32, hg67, hg79, cs4])
   have hq := q4 hrr false (by unfold w18_ResumeDecodes; simp only [h21, h101, hg6, hg32, hg67, hg79, hR103, cs4]); subst hq
   exact Kr () rfl (.tmp rfl .nil) [] trivial
  intro h101
  have g104 := eq_of_bne_false h101
  refine Oq (VldA sh26 6) (Oq (VldA sh26 0) ?_)
  refine letv (r14_SameState rv31.2.1 rv78.1) fun rv105 hg106 => ?_
  have hc107 := fn15 rv31.2.1 a49 k50 a53 k54 a56 k57 a59 k60 rv78.1 a86 k87 a90 k91 a93 k94 a96 k97 pre pre pre pre pre pre pre pre rv105 hg106
  refine Oc [11, 12, 13, 14, 1, 2, 3, 4] ca15 hc107 ?_
  rintro - -
  refine Oq Vnot (Oq Vpf (Oq Vm ?_))
  refine Js 42 ?_ ?_
  ·intro h108
   have h110 := not_true h108
   refine Osk (Osk (Osk (Osk (Osk (Oq Vpt (Oq Vm (Osk (Osk (Osk ?_)))))))))
   refine Osk (Osk (Osk (Osk (Osk (Osk (Osk (Oq Vpt (KS ?_))))))))
   refine Kt (KS ?_)
   refine Oq Va (KS ?_)
   have hR112 := q2 hM11 (.ret false) (by simp only [w18_ResumeDecodes_L0, h21, h101, h108, h110, hg32, hg67, hg79, hg106, cs4])
   have hq := q4 hrr false (by unfold w18_ResumeDecodes; simp only [h21, h101, h108, h110, hg6, hg32, hg67, hg79, hg106, hR112, cs4]); subst hq
   exact Kr () rfl (.tmp rfl .nil) [] trivial
  intro h108
  have h114 := not_false h108
  refine Oq Vm (Oq Vm ?_)
  refine letv (tp_Bytes t rv31.2.2 rv66.1) fun rv117 hg118 => ?_
  have hc119 := fn17 c4 ta0 tk0 t rv31.2.2 rv66.1 a71 k72 pre pre rv117 hg118
  refine Oc [15, 15, 5] ca17 hc119 ?_
  rintro c116 ⟨he120, he121⟩
  refine Jo 0 ?_; rintro a122 k123 rfl
  refine Fb 1 0 fun _ => ?_
  refine Jl [0] (Ent.freeze _ _) ?_
  refine letv (w18_decodes rv117.1) fun rv125 hg126 => ?_
  have hc127 := fn16 rv117.1 a122 k123 pre rv125 hg126
  refine Oc [0] ca16 hc127 ?_
  rintro - -
  refine Oq Vnot (Oq Vpf (Oq Vm ?_))
  refine Js 49 ?_ ?_
  ·intro h128
   have h130 := not_true h128
   refine Osk (Osk (Osk (Osk (Osk (Osk (Osk (Osk (Osk (Osk ?_)))))))))
   refine Oq Vpt (KS ?_)
   refine Kt (KS ?_)
   refine Oq Va (KS ?_)
   have hR132 := q2 hM11 (.ret false) (by simp only [w18_ResumeDecodes_L0, h21, h101, h108, h114, h128, h130, hg32, hg67, hg79, hg106, hg118, hg126, cs4])
   have hq := q4 hrr false (by unfold w18_ResumeDecodes; simp only [h21, h101, h108, h114, h128, h130, hg6, hg32, hg67, hg79, hg106, hg118, hg126, hR132, cs4]); subst hq
   exact Kr () rfl (.tmp rfl .nil) [] trivial
  intro h128
  have h134 := not_false h128
  refine Oq Vm (Oq Vm (Oq Vm (Oq (Vlen sl44) (Oq Vsub (Oa (Asl [7] sl44 0 ((((rv66.1.length : Int) - 4) : Int).toNat)) fun c136 => ?_)))))
  refine Jo 0 ?_; rintro a137 k138 rfl
  refine Fb 1 0 fun _ => ?_
  have hn140 : ((rv66.1.take ((((rv66.1.length : Int) - 4) : Int).toNat)).drop 0).length = ((((rv66.1.length : Int) - 4) : Int).toNat) - 0 := len_slice rng rng
  refine letv (tp_Bytes t rv117.2 ((rv66.1.take ((((rv66.1.length : Int) - 4) : Int).toNat)).drop 0)) fun rv142 hg143 => ?_
  have hc144 := fn17 c4 ta0 tk0 t rv117.2 (((rv66.1.take ((((rv66.1.length : Int) - 4) : Int).toNat)).drop 0)) a137 k138 pre pre rv142 hg143
  refine Oc [2, 17, 0] ca17 hc144 ?_
  rintro c141 ⟨he145, he146⟩
  refine Jo 0 ?_; rintro a147 k148 rfl
  refine Fb 1 0 fun _ => ?_
  refine Jl [0] (Ent.freeze _ _) ?_
  refine letv (r14_Sealed rv142.1) fun rv151 hg152 => ?_
  have hc153 := fn18 rv142.1 a147 k148 pre rv151 hg152
  refine Oc [0] ca18 hc153 ?_
  rintro c150 he154
  refine Jo 0 ?_; rintro a155 k156 rfl
  refine Fb 1 0 fun _ => ?_
  refine Jl [0] (Ent.freeze _ _) ?_
  refine letv (w18_decodes rv151) fun rv158 hg159 => ?_
  have hc160 := fn16 rv151 a155 k156 pre rv158 hg159
  refine Oc [0] ca16 hc160 ?_
  rintro - -
  refine Oq Vnot (Oq Vpf (KS ?_))
  refine Kc ?_ ?_
  ·intro h161
   have h163 := not_true h161
   refine KS ?_
   refine Oq Va (KS ?_)
   have hR165 := q2 hM11 (.ret false) (by simp only [w18_ResumeDecodes_L0, h21, h101, h108, h114, h128, h134, h161, h163, hg32, hg67, hg79, hg106, hg118, hg126, hg143, hg152, hg159, cs4])
   have hq := q4 hrr false (by unfold w18_ResumeDecodes; simp only [h21, h101, h108, h114, h128, h134, h161, h163, hg6, hg32, hg67, hg79, hg106, hg118, hg126, hg143, hg152, hg159, hR165, cs4]); subst hq
   exact Kr () rfl (.tmp rfl .nil) [] trivial
  intro h161
  have h167 := not_false h161
  refine KS ?_
  refine Oq Vm (Oq Vadd (Oq Va (KS ?_)))
  exact Kg (r23, rv142.2, (i_10 + 1)) [2, 19, 20, 21, 22] ⟨(q3 hM11 (by simp only [w18_ResumeDecodes_L0, h21, h101, h108, h114, h128, h134, h161, h167, hg32, hg67, hg79, hg106, hg118, hg126, hg143, hg152, hg159, cs4])), aM1, aM1, aM1, aM1, aM1, aM1⟩
 intro h21
 have g169 := df h21
 obtain rfl : r8 = 0 := by omega
 refine Ke ?_
 have hR170 := q2 hM11 (.brk ()) (by simp only [w18_ResumeDecodes_L0, h21, cs4])
 refine KS ?_
 refine Oq Vm (Oq (Vlen sl44) (Oq Vgtr (Oq Vm ?_)))
 refine Js 64 ?_ ?_
 ·intro h171
  have g172 := dt h171
  refine Osk (Osk (Osk (Osk (Osk (Osk (Osk (Oq Vpt (Oq Vm ?_))))))))
  have hc173 := fn12  w18_sane rfl
  refine Oc [3, 4] ca12 hc173 ?_
  rintro - -
  refine Oq Vpt (Oq Va (KS ?_))
  have hq := q4 hrr w18_sane (by unfold w18_ResumeDecodes; simp only [h21, h171, hg6, hR170, cs4]); subst hq
  exact Kr () rfl (.tmp rfl .nil) [] trivial
 intro h171
 have g174 := df h171
 refine Oq Vm ?_
 refine letv (w18_decodes b) fun rv175 hg176 => ?_
 have hc177 := fn16 b ba0 bk0 pre rv175 hg176
 refine Oc [2] ca16 hc177 ?_
 rintro - -
 refine Oq Vm ?_
 refine Js 67 ?_ ?_
 ·intro h178
  refine Oq Vm ?_
  refine letv (r14_Sealed b) fun rv181 hg182 => ?_
  have hc183 := fn18 b ba0 bk0 pre rv181 hg182
  refine Oc [2] ca18 hc183 ?_
  rintro c180 he184
  refine Jo 0 ?_; rintro a185 k186 rfl
  refine Fb 1 0 fun _ => ?_
  refine Jl [0] (Ent.freeze _ _) ?_
  refine letv (w18_decodes rv181) fun rv188 hg189 => ?_
  have hc190 := fn16 rv181 a185 k186 pre rv188 hg189
  refine Oc [0] ca16 hc190 ?_
  rintro - -
  refine Oq Vpt (Oq Vpf (Oq Vm ?_))
  refine Js 73 ?_ ?_
  ·intro h191
   have hc193 := fn12  w18_sane rfl
   refine Oc [4, 5] ca12 hc193 ?_
   rintro - -
   refine Oq Vpt (Oq Va (KS ?_))
   have hq := q4 hrr w18_sane (by unfold w18_ResumeDecodes; simp only [h21, h171, h178, h191, hg6, hR170, hg176, hg182, hg189, cs4]); subst hq
   exact Kr () rfl (.tmp rfl .nil) [] trivial
  intro h191
  refine Osk (Oq Vpf (Oq Va (KS ?_)))
  have hq := q4 hrr false (by unfold w18_ResumeDecodes; simp only [h21, h171, h178, h191, hg6, hR170, hg176, hg182, hg189, cs4]); subst hq
  exact Kr () rfl (.tmp rfl .nil) [] trivial
 intro h178
 refine Osk (Osk (Osk (Oq Vpf (Oq Vpf (Oq Vm (Osk (Oq Vpf (Oq Va (KS ?_)))))))))
 have hq := q4 hrr false (by unfold w18_ResumeDecodes; simp only [h21, h171, h178, hg6, hR170, hg176, cs4]); subst hq
 exact Kr () rfl (.tmp rfl .nil) [] trivial
end Go.SL.G
