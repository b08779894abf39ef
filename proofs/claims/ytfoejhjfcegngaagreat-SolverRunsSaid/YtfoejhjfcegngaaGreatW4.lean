/- Part 4 of the walks: mirrors, plain laws and walks used by the last text of this claim. -/
import Derived.Test.YtfoejhjfcegngaaGreatW3
import Derived.Test.YtfoejhjfcegngaaGreatProg
set_option linter.unusedVariables false
set_option linter.unusedSimpArgs false
namespace Go.SL.G
open Go Go.SL Go.Proofs
set_option maxHeartbeats 20000000
set_option maxRecDepth 100000
theorem fn173 (s : GSystem) (sa1 : Option Addr) (sk1 : Nat) (sa2 : Option Addr) (sk2 : Nat) (sa3 : Option Addr) (sk3 : Nat) (k : List GKnown) (ka0 : Option Addr) (kk0 : Nat) (st : GState) (sta1 : Option Addr) (stk1 : Nat) (sta2 : Option Addr) (stk2 : Nat) (sta5 : Option Addr) (stk5 : Nat) (sta6 : Option Addr) (stk6 : Nat) (hs_0 : i64ok s.Width) (hst_0 : i64ok st.Phase) (hst_3 : i64ok st.At) (hst_4 : i64ok st.Edge) (hst_7 : i64ok st.Steps) (hv : VSys s) (hlf : st.Leaf.length = st.Cone.length) (hcl : st.Cone.length ≤ 256) (hcr : ∀ x ∈ st.Cone, 0 ≤ x ∧ x < (s.Deps.length : Int)) (rr : Bool) (hrr : flqref14_validDemand s k st = rr) : FT Tryz.prog 173 #[.agg #[vi s.Width, vl sa1 sk1 s.Deps, vl sa2 sk2 s.Transfers, vl sa3 sk3 s.Boundary], vl ka0 kk0 k, .agg #[vi st.Phase, vl sta1 stk1 st.Cone, vl sta2 stk2 st.Leaf, vi st.At, vi st.Edge, vl sta5 stk5 st.Values, vl sta6 stk6 st.Queue, vi st.Steps]] [S sa1 sk1 s.Deps, S sa2 sk2 s.Transfers, S sa3 sk3 s.Boundary, S ka0 kk0 k, S sta1 stk1 st.Cone, S sta2 stk2 st.Leaf, S sta5 stk5 st.Values, S sta6 stk6 st.Queue] (fun g : Unit => True) (fun g => vb rr) (fun g => []) := by
 refine FTi Tryz.func173 fun w0 M0 F0 => ?_
 unfold i64ok at hs_0 hst_0 hst_3 hst_4 hst_7
 refine Fb 24 0 fun hl1 => ?_
 refine Fb 88 1 fun hl2 => ?_
 refine Fb 32 2 fun hl3 => ?_
 refine Fb 40 3 fun hl4 => ?_
 refine Fb 8 4 fun hl5 => ?_
 refine Fo 4 fun ho6 => ?_
 refine Fb 1 5 fun hl7 => ?_
 refine Fb 32 6 fun hl8 => ?_
 refine Fb 8 7 fun hl9 => ?_
 refine Fo 7 fun ho10 => ?_
 have hv1 := hv.n
 have hv2 := hv.tl
 have hv3 := hv.bl
 have hv4 := hv.w
 have hv5 := hv.dep_len
 refine KS ?_
 refine Oa (Ab [vi s.Width, vl sa1 sk1 s.Deps, vl sa2 sk2 s.Transfers, vl sa3 sk3 s.Boundary]) fun p11 => Oa (Ab [vi st.Phase, vl sta1 stk1 st.Cone, vl sta2 stk2 st.Leaf, vi st.At, vi st.Edge, vl sta5 stk5 st.Values, vl sta6 stk6 st.Queue, vi st.Steps]) fun p12 => Oq Va (KS ?_)
 refine Oq (Vfa fo59_3 0) (Oq (VldF sh3 0) (Oq Vlss (Oq Vm ?_)))
 refine Js 13 ?_ ?_
 · intro h13
   have g14 := of_decide_eq_true h13
   refine Osk (Osk (Osk (Osk (Osk (Osk (Oq Vpt (Oq Vm (Osk (Osk ?_)))))))))
   refine Osk (Osk (Oq Vpt (Oq Vm (Osk (Osk (Osk (Osk (Oq Vpt (KS ?_)))))))))
   refine Kt ?_
   refine KS ?_
   refine Oq Va (KS ?_)
   have hq := q4 hrr false (by simp only [flqref14_validDemand, h13, cs4]); subst hq
   exact Kr () rfl (.tmp rfl .nil) [] trivial
 intro h13
 have g15 := of_decide_eq_false h13
 refine Oq (Vfa fo59_3 0) (Oq (VldF sh3 0) (Oq (Vfa fo59_1 0) (Oq (VldF sh22 0) (Oq (Vlen sl22) (Oq Vgeq (Oq Vpf (Oq Vm ?_)))))))
 refine Js 21 ?_ ?_
 · intro h16
   have g17 := of_decide_eq_true h16
   refine Osk (Osk (Osk (Osk (Oq Vpt (Oq Vm (Osk (Osk (Osk (Osk ?_)))))))))
   refine Oq Vpt (KS ?_)
   refine Kt ?_
   refine KS ?_
   refine Oq Va (KS ?_)
   have hq := q4 hrr false (by simp only [flqref14_validDemand, h13, h16, cs4]); subst hq
   exact Kr () rfl (.tmp rfl .nil) [] trivial
 intro h16
 have g18 := of_decide_eq_false h16
 have hq := hcr _ (getD_mem (xs := st.Cone) (i := st.At.toNat) (d := 0) (by omega))
 refine Oq (Vfa fo59_5 0) (Oq (VldF sh25 0) (Oq (Vlen sl25) (Oq Vgtr (Oq Vpf (Oq Vm ?_)))))
 refine Js 27 ?_ ?_
 · intro h19
   have g20 := of_decide_eq_true h19
   refine Osk (Osk (Osk (Osk (Oq Vpt (KS ?_)))))
   refine Kt ?_
   refine KS ?_
   refine Oq Va (KS ?_)
   have hq := q4 hrr false (by simp only [flqref14_validDemand, h13, h16, h19, cs4]); subst hq
   exact Kr () rfl (.tmp rfl .nil) [] trivial
 intro h19
 have g21 := of_decide_eq_false h19
 refine Oq (Vfa fo59_6 0) (Oq (VldF sh22 0) (Oq (Vlen sl22) (Oq Vgtr (Oq Vpf (KS ?_)))))
 refine Kc ?_ ?_
 · intro h22
   have g23 := of_decide_eq_true h22
   refine KS ?_
   refine Oq Va (KS ?_)
   have hq := q4 hrr false (by simp only [flqref14_validDemand, h13, h16, h19, h22, cs4]); subst hq
   exact Kr () rfl (.tmp rfl .nil) [] trivial
 intro h22
 have g24 := of_decide_eq_false h22
 refine KS ?_
 refine Oq Va (KS ?_)
 refine Kl (γ := Nat × Int) (fun (r25, i_26) => ⟨[(1, vl ka0 kk0 k), (3, p11), (5, p12), (7, vi i_26)], [pv p12 [vi st.Phase, vl sta1 stk1 st.Cone, vl sta2 stk2 st.Leaf, vi st.At, vi st.Edge, vl sta5 stk5 st.Values, vl sta6 stk6 st.Queue, vi st.Steps], pv p11 [vi s.Width, vl sa1 sk1 s.Deps, vl sa2 sk2 s.Transfers, vl sa3 sk3 s.Boundary], S sa1 sk1 s.Deps, S sa2 sk2 s.Transfers, S sa3 sk3 s.Boundary, S ka0 kk0 k, S sta1 stk1 st.Cone, S sta2 stk2 st.Leaf, S sta5 stk5 st.Values, S sta6 stk6 st.Queue], flqref14_validDemand_L0 s k st r25 i_26 = flqref14_validDemand_L0 s k st (((st.Cone.length : Int) - 0).toNat) 0 ∧ r25 = ((st.Cone.length : Int) - i_26).toNat ∧ (0 : Int) ≤ i_26 ∧ i_26 ≤ (st.Cone.length : Int) ∧ (-9223372036854775808 ≤ i_26 ∧ i_26 ≤ 9223372036854775807), r25⟩) (((st.Cone.length : Int) - 0).toNat, 0) [0, 1, 2, 3, 4, 5, 6, 7, 8, 9] ⟨rfl, rfl, (by omega), (by omega), (by omega)⟩ ?_
 rintro ⟨r25, i_26⟩ ⟨hM27, hr28, hi29, hi30, hk31⟩
 refine JJ_nx fun _ _ hL hA => ?_; dsimp only at hL hA; subst hL hA
 refine Fb 24 2 fun hl32 => ?_
 refine Fb 88 3 fun hl33 => ?_
 refine Fb 32 4 fun hl34 => ?_
 refine Fb 40 5 fun hl35 => ?_
 refine Fb 8 6 fun hl36 => ?_
 refine Fo 6 fun ho37 => ?_
 refine Fb 1 7 fun hl38 => ?_
 refine Fb 32 8 fun hl39 => ?_
 refine Fb 8 9 fun hl40 => ?_
 refine Fo 9 fun ho41 => ?_
 refine KS ?_
 refine Oq Vm (Oq (Vfa fo59_1 0) (Oq (VldF sh22 0) (Oq (Vlen sl22) (Oq Vlss (KS ?_)))))
 refine Kc ?_ ?_
 · intro h42
   have g43 := of_decide_eq_true h42
   have hq := hcr _ (getD_mem (xs := st.Cone) (i := i_26.toNat) (d := 0) (by omega))
   obtain ⟨r44, rfl⟩ := scc (n := r25) (by omega)
   refine KS ?_
   refine Oq Vm (Oq (Vfa fo59_3 0) (Oq (VldF sh3 0) (Oq Vlss (Oq Vm ?_))))
   refine Js 44 ?_ ?_
   · intro h45
     have g46 := of_decide_eq_true h45
     refine Oq Vm (Oq (Vfa fo59_1 0) (Oq (VldF sh22 0) (Oq Vm (Oq (Vi sl22 6) ?_))))
     have hb47 := ok1 (i := i_26.toNat) ho37 rng
     refine Oq (VldI sh3 6) ?_
     refine letv (flqref14_find k (st.Cone.getD i_26.toNat 0)) fun rv48 hg49 => ?_
     have hc50 := fn132 k ka0 kk0 ((st.Cone.getD i_26.toNat 0)) pre rv48 hg49
     refine Oc [5] ca132 hc50 ?_
     rintro - ⟨he51, he52⟩
     unfold i64ok at he51
     refine Oq Vgeq (Oq Vpt (Oq Va (KS ?_)))
     refine bool_split (!((st.Leaf.getD i_26.toNat false) == (decide (0 ≤ rv48)))) ?_ ?_
     · intro h53
       refine Kq [0, 1, 0, 7, 15, 0, 63, 127, 255, 255, 767, 2047, 4095, 8191, 16383, 32767, 65535, 131071, 131071, 393215, 131071, 1179647, 131071, 7471103, 15859711, 131071, 33685503, 131071, 134348799, 131071, 939655167, 2013396991, 4261543935, 8556511231, 17146445823, 34359738367, 68719476735, 137438953471, 274877906943] fmix ?_
       refine Qv [0] (Vfa fo59_2 0) (Qv [0] (VldF sh57 0) (Qv [] Vm (Qv [7] (Vi sl57 0) (Qv [7] (VldB sh4 0) (Qv [] Vm (Qb h53 [] (Vnb un4) (Qv [] Vm (Qs (Qs ?_)))))))))
       refine Qs (Qs (Qs (Qs (Qs (Qs (Qs (Qs (Qs (Qs ?_)))))))))
       refine Qs (Qs (Qs (Qs (Qs (Qs (Qs (Qs (Qs (Qs ?_)))))))))
       refine Qs (Qs (Qs (Qs (Qs (Qs (Qs (Qs (Qv [] Vpt ?_))))))))
       refine Qn ⟨by kernel_rfl, ?_⟩
       refine Kt ?_
       refine KS ?_
       refine Oq Va (KS ?_)
       have hR55 := q2 hM27 (.ret false) (by simp only [flqref14_validDemand_L0, h13, h16, h19, h22, h42, h45, h53, hg49, cs4])
       have hq := q4 hrr false (by simp only [flqref14_validDemand, h13, h16, h19, h22, h42, h45, h53, hg49, hR55, cs4]); subst hq
       exact Kr () rfl (.tmp rfl .nil) [] trivial
     intro h53
     refine bool_split (decide (i_26 < st.At)) ?_ ?_
     · intro h57
       have g58 := of_decide_eq_true h57
       refine bool_split (!(decide (0 ≤ rv48))) ?_ ?_
       · intro h59
         have h61 := not_true h59
         have h63 := h53; rw [h61] at h63
         have g62 := of_decide_eq_false h61
         refine JJ_peekL ((st.Cone.getD i_26.toNat 0) : Int).toNat 2 rfl rng fun a64 k65 => ?_
         refine Fb 8 1 fun hl66 => ?_
         refine Fo 1 fun ho67 => ?_
         refine JK_drawK [0, 1, 0, 7, 15, 0, 63, 127, 255, 255, 767, 2047, 4095, 8191, 16383, 32767, 65535, 131071, 131071, 393215, 131071, 1179647, 131071, 7471103, 15859711, 131071, 33685503, 131071, 134348799, 131071, 939655167, 2013396991, 4261543935, 8556511231, 17146445823, 34359738367, 68719476735, 137438953471, 274877906943] fmix ?_
         refine Dv [2] (Vfa fo59_2 0) (Dv [2] (VldF sh57 0) (Dv [] Vm (Dv [9] (Vi sl57 0) (Dv [9] (VldB sh4 0) (Dv [] Vm (Db h53 [] (Vnb un4) (Dv [] Vm (Dv [] Vm (Dv [2] (Vfa fo59_3 0) ?_)))))))))
         refine Dv [2] (VldF sh3 0) (Db h57 [] Vlss (Dv [] Vm (Dv [] Vm (Db h59 [] Vnot (Dv [] Vpt (Dv [] Vm (Dv [3] (VldA sh27 0) (Dv [2] (Vfa fo59_1 0) (Dv [2] (VldF sh22 0) ?_)))))))))
         refine Dv [2] (Vfa fo59_1 0) (Dv [2] (VldF sh22 0) (Dv [] Vm (Dv [8] (Vi sl22 0) ?_)))
         have hb68 := ok1 (i := i_26.toNat) ho37 rng
         refine Dv [8] (VldI sh3 0) (Dv [3] (Vfa fo27_1 0) (Dv [3] (VldF sh23 0) (Dv [2] (Vfa fo59_1 0) (Dv [2] (VldF sh22 0) (Dv [] Vm (Dv [8] (Vi sl22 0) ?_))))))
         have hb69 := ok1 (i := i_26.toNat) ho37 rng
         refine Dv [8] (VldI sh3 0) (Dv [4] (Vi sl23 0) (Dv [0] (Vld sh22 0) (Dv [] (Vlen sl22) ?_)))
         refine letv (flqref14_expanded s st.Cone (st.Cone.getD i_26.toNat 0) ((s.Deps.getD ((st.Cone.getD i_26.toNat 0) : Int).toNat []).length : Int)) fun rv70 hg71 => ?_
         refine Dx [4, 5, 6, 8] [] [1, 2, 3, 4, 0] (fun G => vb rv70) [fun G => SP.fact (True)] (fun G => xC [0, 1, 2, 3] ca231 (fn231 s sa1 sk1 sa2 sk2 sa3 sk3 st.Cone sta1 stk1 ((st.Cone.getD i_26.toNat 0)) (((s.Deps.getD ((st.Cone.getD i_26.toNat 0) : Int).toNat []).length : Int)) pre pre pre pre pre rv70 hg71)) (Dv [] Vnot (Dv [] Vpt (Dv [] Vpf ?_)))
         refine Dn ⟨by kernel_rfl, fun G => ?_⟩
         refine Jw2 [(1, vl ka0 kk0 k), (3, p11), (5, p12), (7, vi i_26), (92, vb (!rv70))] [0, 1, 2, 3, 4, 5, 6, 7, 8, 9, 10, 11] [SP.fact (True)] ?_
         refine Jk [0, 1, 2, 3, 4, 5, 6, 7, 8, 9, 10, 11] ?_
         refine Kc ?_ ?_
         · intro h72
           have h74 := not_true h72
           refine KS ?_
           refine Oq Va (KS ?_)
           have hR76 := q2 hM27 (.ret false) (by simp only [flqref14_validDemand_L0, h13, h16, h19, h22, h42, h45, h53, h57, h59, h61, h72, h74, hg49, h63, hg71, cs4])
           have hq := q4 hrr false (by simp only [flqref14_validDemand, h13, h16, h19, h22, h42, h45, h53, h57, h59, h61, h72, h74, hg49, h63, hg71, hR76, cs4]); subst hq
           exact Kr () rfl (.tmp rfl .nil) [] trivial
         intro h72
         have h78 := not_false h72
         refine KS ?_
         refine Oq Vm (Oq Vadd (Oq Va (KS ?_)))
         exact Kg (r44, (i_26 + 1)) [2, 3, 4, 5, 6, 7, 8, 9, 10, 11] ⟨(q3 hM27 (by simp only [flqref14_validDemand_L0, h13, h16, h19, h22, h42, h45, h53, h57, h59, h61, h72, h78, hg49, h63, hg71, cs4])), (by omega), (by omega), (by omega), (by omega)⟩
       intro h59
       have h81 := not_false h59
       have h83 := h53; rw [h81] at h83
       have g82 := of_decide_eq_true h81
       refine Kq [0, 1, 0, 7, 15, 0, 63, 127, 255, 255, 767, 2047, 4095, 8191, 16383, 32767, 65535, 131071, 131071, 393215, 131071, 1179647, 131071, 7471103, 15859711, 131071, 33685503, 131071, 134348799, 131071, 939655167, 2013396991, 4261543935, 8556511231, 17146445823, 34359738367, 68719476735, 137438953471, 274877906943] fmix ?_
       refine Qv [0] (Vfa fo59_2 0) (Qv [0] (VldF sh57 0) (Qv [] Vm (Qv [7] (Vi sl57 0) (Qv [7] (VldB sh4 0) (Qv [] Vm (Qb h53 [] (Vnb un4) (Qv [] Vm (Qv [] Vm (Qv [0] (Vfa fo59_3 0) ?_)))))))))
       refine Qv [0] (VldF sh3 0) (Qb h57 [] Vlss (Qv [] Vm (Qv [] Vm (Qb h59 [] Vnot (Qv [] Vpt (Qv [] Vm (Qs (Qs (Qs ?_)))))))))
       refine Qs (Qs (Qs (Qs (Qs (Qs (Qs (Qs (Qs (Qs ?_)))))))))
       refine Qs (Qs (Qs (Qs (Qs (Qs (Qs (Qv [] Vpf (Qv [] Vpf ?_))))))))
       refine Qn ⟨by kernel_rfl, ?_⟩
       refine Kf ?_
       refine KS ?_
       refine Oq Vm (Oq Vadd (Oq Va (KS ?_)))
       exact Kg (r44, (i_26 + 1)) [0, 1, 2, 3, 4, 5, 6, 7, 8, 9] ⟨(q3 hM27 (by simp only [flqref14_validDemand_L0, h13, h16, h19, h22, h42, h45, h53, h57, h59, h81, hg49, h83, cs4])), (by omega), (by omega), (by omega), (by omega)⟩
     intro h57
     exact absurd h57 (by simp [h45])
   intro h45
   have g84 := of_decide_eq_false h45
   refine Osk (Osk (Osk (Osk (Osk (Osk (Osk (Osk (Oq Vpf (Oq Va ?_)))))))))
   refine KS ?_
   refine Kq [0, 1, 0, 7, 15, 0, 63, 127, 255, 255, 767, 2047, 4095, 8191, 16383, 32767, 65535, 131071, 131071, 393215, 131071, 1179647, 131071, 7471103, 15859711, 131071, 33685503, 131071, 134348799, 131071, 939655167, 2013396991, 4261543935, 8556511231, 17146445823, 34359738367, 68719476735, 137438953471, 274877906943] fmix ?_
   refine Qv [0] (Vfa fo59_2 0) (Qv [0] (VldF sh57 0) (Qv [] Vm (Qv [7] (Vi sl57 0) (Qv [7] (VldB sh4 0) (Qv [] Vm (Qv [] (Vnb un4) ?_))))))
   refine bool_split (!((st.Leaf.getD i_26.toNat false) == false)) ?_ ?_
   · intro h85
     refine Qb h85 [] Vm (Qs (Qs (Qs (Qs (Qs (Qs (Qs (Qs (Qs ?_)))))))))
     refine Qs (Qs (Qs (Qs (Qs (Qs (Qs (Qs (Qs (Qs ?_)))))))))
     refine Qs (Qs (Qs (Qs (Qs (Qs (Qs (Qs (Qs (Qs ?_)))))))))
     refine Qs (Qv [] Vpt ?_)
     refine Qn ⟨by kernel_rfl, ?_⟩
     refine Kt ?_
     refine KS ?_
     refine Oq Va (KS ?_)
     have hR87 := q2 hM27 (.ret false) (by simp only [flqref14_validDemand_L0, h13, h16, h19, h22, h42, h45, h85, cs4])
     have hq := q4 hrr false (by simp only [flqref14_validDemand, h13, h16, h19, h22, h42, h45, h85, hR87, cs4]); subst hq
     exact Kr () rfl (.tmp rfl .nil) [] trivial
   intro h85
   refine Qb h85 [] Vm (Qv [] Vm (Qv [0] (Vfa fo59_3 0) (Qv [0] (VldF sh3 0) (Qv [] Vlss ?_))))
   refine bool_split (decide (i_26 < st.At)) ?_ ?_
   · intro h89
     exact absurd h89 (by simp [h45])
   intro h89
   have g90 := of_decide_eq_false h89
   refine Qb h89 [] Vm (Qs (Qs (Qv [] Vpf (Qv [] Vm (Qs (Qs (Qs (Qs (Qs ?_)))))))))
   refine Qs (Qs (Qs (Qs (Qs (Qs (Qs (Qs (Qs (Qs ?_)))))))))
   refine Qs (Qs (Qs (Qs (Qs (Qv [] Vpf (Qv [] Vpf ?_))))))
   refine Qn ⟨by kernel_rfl, ?_⟩
   refine Kf ?_
   refine KS ?_
   refine Oq Vm (Oq Vadd (Oq Va (KS ?_)))
   exact Kg (r44, (i_26 + 1)) [0, 1, 2, 3, 4, 5, 6, 7, 8, 9] ⟨(q3 hM27 (by simp only [flqref14_validDemand_L0, h13, h16, h19, h22, h42, h45, h85, h89, cs4])), (by omega), (by omega), (by omega), (by omega)⟩
 intro h42
 have g91 := of_decide_eq_false h42
 obtain rfl : r25 = 0 := by omega
 refine Ke ?_
 have hR92 := q2 hM27 (.brk ()) (by simp only [flqref14_validDemand_L0, h13, h16, h19, h22, h42, cs4])
 refine KS ?_
 refine Oq (Vfa fo59_1 0) (Oq (VldF sh22 0) (Oq (Vfa fo59_3 0) (Oq (VldF sh3 0) (Oq (Vi sl22 6) ?_))))
 have hb93 := ok1 (i := st.At.toNat) ho37 rng
 refine Oq (VldI sh3 6) (Oq Va (KS ?_))
 refine bool_split (decide (0 ≤ st.Edge)) ?_ ?_
 · intro h94
   have g95 := of_decide_eq_true h94
   refine JJ_peekL ((st.Cone.getD st.At.toNat 0) : Int).toNat 2 rfl rng fun a96 k97 => ?_
   refine Fb 8 1 fun hl98 => ?_
   refine Fo 1 fun ho99 => ?_
   refine JK_drawK [0, 1, 3, 7, 15, 31, 15, 79, 15, 463, 975, 1999, 4095, 8191, 16383, 32767, 65535, 131071, 262143, 524287, 524287, 2097151, 4194303, 8388607, 16777215, 33554431, 67108863, 67108863, 201326591, 67108863, 67108863, 1140850687, 4294967295, 8589934591, 17179869183] fmix ?_
   refine Dv [2] (Vfa fo59_4 0) (Dv [2] (VldF sh3 0) (Db h94 [] Vgeq (Dv [] Vm (Dv [2] (Vfa fo59_4 0) (Dv [2] (VldF sh3 0) (Dv [3] (Vfa fo27_1 0) (Dv [3] (VldF sh23 0) (Dv [] Vm (Dv [4] (Vi sl23 0) ?_)))))))))
   refine Dv [0] (Vld sh22 0) (Dv [] (Vlen sl22) (Dv [] Vleq (Dv [] Vpt ?_)))
   refine bool_split (decide (st.Edge ≤ ((s.Deps.getD ((st.Cone.getD st.At.toNat 0) : Int).toNat []).length : Int))) ?_ ?_
   · intro h100
     have g101 := of_decide_eq_true h100
     refine Db h100 [] Vm (Dv [2] (Vfa fo59_4 0) (Dv [2] (VldF sh3 0) (Dv [] Veql ?_)))
     refine bool_split (st.Edge == 0) ?_ ?_
     · intro h102
       have g103 := eq_of_beq h102
       refine Db h102 [] Vm (Ds (Ds (Ds (Ds (Dv [] Vpt (Dv [] Vpt (Dv [] Vm (Dv [3] (VldA sh27 0) (Dv [2] (Vfa fo59_1 0) ?_)))))))))
       refine Dv [2] (VldF sh22 0) (Dv [] Vm (Dv [2] (Vfa fo59_4 0) (Dv [2] (VldF sh3 0) ?_)))
       refine letv (flqref14_expanded s st.Cone (st.Cone.getD st.At.toNat 0) st.Edge) fun rv104 hg105 => ?_
       refine Dx [4, 5, 6, 8] [] [1, 2, 3, 4, 0] (fun G => vb rv104) [fun G => SP.fact (True)] (fun G => xC [0, 1, 2, 3] ca231 (fn231 s sa1 sk1 sa2 sk2 sa3 sk3 st.Cone sta1 stk1 ((st.Cone.getD st.At.toNat 0)) st.Edge pre pre pre pre pre rv104 hg105)) (Dv [] Vpt (Dv [] Va ?_))
       refine Dn ⟨by kernel_rfl, fun G => ?_⟩
       refine Jw2 [(6, vb rv104)] [0, 1, 2, 3, 4, 5, 6, 7, 8, 9, 10, 11] [SP.fact (True)] ?_
       refine Jk [0, 1, 2, 3, 4, 5, 6, 7, 8, 9, 10, 11] ?_
       have hq := q4 hrr rv104 (by simp only [flqref14_validDemand, h13, h16, h19, h22, h42, h94, h100, h102, hR92, hg105, cs4]); subst hq
       exact Kr () rfl (.tmp rfl .nil) [] trivial
     intro h102
     have g106 := ne_of_beq_false h102
     refine Db h102 [] Vm (Dv [] Vm (Dv [] Vm ?_))
     refine letv (flqref14_find k (st.Cone.getD st.At.toNat 0)) fun rv107 hg108 => ?_
     refine Dx [7] [] [1, 0] (fun G => vi rv107) [fun G => SP.fact (i64ok rv107 ∧ (-1 ≤ rv107 ∧ rv107 < (k.length : Int)))] (fun G => xC [0] ca132 (fn132 k ka0 kk0 ((st.Cone.getD st.At.toNat 0)) pre rv107 hg108)) (Dv [] Vlss (Dv [] Vpf (Dv [] Vpt ?_)))
     refine bool_split (decide (rv107 < 0)) ?_ ?_
     · intro h109
       have g110 := of_decide_eq_true h109
       refine Db h109 [] Vm (Dv [3] (VldA sh27 0) (Dv [2] (Vfa fo59_1 0) (Dv [2] (VldF sh22 0) (Dv [] Vm (Dv [2] (Vfa fo59_4 0) (Dv [2] (VldF sh3 0) ?_))))))
       refine letv (flqref14_expanded s st.Cone (st.Cone.getD st.At.toNat 0) st.Edge) fun rv111 hg112 => ?_
       refine Dx [4, 5, 6, 8, 12] [] [1, 2, 3, 4, 5, 0] (fun G => vb rv111) [fun G => SP.fact (True)] (fun G => by refine xf 4 rfl ?_; rintro ⟨he113, he114⟩; unfold i64ok at he113; exact xC [0, 1, 2, 3] ca231 (fn231 s sa1 sk1 sa2 sk2 sa3 sk3 st.Cone sta1 stk1 ((st.Cone.getD st.At.toNat 0)) st.Edge pre pre pre pre pre rv111 hg112)) (Dv [] Vpt (Dv [] Va ?_))
       refine Dn ⟨by kernel_rfl, fun G => ?_⟩
       refine Jw2 [(6, vb rv111)] [0, 1, 2, 3, 4, 5, 6, 7, 8, 9, 10, 11] [SP.fact (i64ok rv107 ∧ (-1 ≤ rv107 ∧ rv107 < (k.length : Int))), SP.fact (True)] ?_
       refine Jf 12 rfl ?_; rintro ⟨he115, he116⟩
       unfold i64ok at he115
       refine Jk [0, 1, 2, 3, 4, 5, 6, 7, 8, 9, 10, 11] ?_
       have hq := q4 hrr rv111 (by simp only [flqref14_validDemand, h13, h16, h19, h22, h42, h94, h100, h102, h109, hR92, hg108, hg112, cs4]); subst hq
       exact Kr () rfl (.tmp rfl .nil) [] trivial
     intro h109
     have g117 := of_decide_eq_false h109
     refine Db h109 [] Vm (Ds (Ds (Ds (Ds (Ds (Ds (Ds (Dv [] Vpf (Dv [] Va ?_)))))))))
     refine Dn ⟨by kernel_rfl, fun G => ?_⟩
     refine Jw2 [(6, vb false)] [0, 1, 2, 3, 4, 5, 6, 7, 8, 9, 10, 11] [SP.fact (i64ok rv107 ∧ (-1 ≤ rv107 ∧ rv107 < (k.length : Int)))] ?_
     refine Jf 12 rfl ?_; rintro ⟨he118, he119⟩
     unfold i64ok at he118
     refine Jk [0, 1, 2, 3, 4, 5, 6, 7, 8, 9, 10, 11] ?_
     have hq := q4 hrr false (by simp only [flqref14_validDemand, h13, h16, h19, h22, h42, h94, h100, h102, h109, hR92, hg108, cs4]); subst hq
     exact Kr () rfl (.tmp rfl .nil) [] trivial
   intro h100
   have g120 := of_decide_eq_false h100
   refine Db h100 [] Vm (Ds (Ds (Ds (Ds (Ds (Ds (Ds (Ds (Ds ?_)))))))))
   refine Dv [] Vpf (Dv [] Vm (Ds (Ds (Ds (Ds (Ds (Ds (Ds (Dv [] Vpf ?_)))))))))
   refine Dv [] Va ?_
   refine Dn ⟨by kernel_rfl, fun G => ?_⟩
   refine Jw2 [(6, vb false)] [0, 1, 2, 3, 4, 5, 6, 7, 8, 9, 10, 11] [] ?_
   have hq := q4 hrr false (by simp only [flqref14_validDemand, h13, h16, h19, h22, h42, h94, h100, hR92, cs4]); subst hq
   exact Kr () rfl (.tmp rfl .nil) [] trivial
 intro h94
 have g121 := of_decide_eq_false h94
 refine Kq [0, 1, 3, 7, 15, 31, 15, 79, 15, 463, 975, 1999, 4095, 8191, 16383, 32767, 65535, 131071, 262143, 524287, 524287, 2097151, 4194303, 8388607, 16777215, 33554431, 67108863, 67108863, 201326591, 67108863, 67108863, 1140850687, 4294967295, 8589934591, 17179869183] fmix ?_
 refine Qv [0] (Vfa fo59_4 0) (Qv [0] (VldF sh3 0) (Qb h94 [] Vgeq (Qv [] Vm (Qs (Qs (Qs (Qs (Qs (Qs ?_)))))))))
 refine Qs (Qs (Qs (Qv [] Vpf (Qv [] Vm (Qs (Qs (Qs (Qs (Qs ?_)))))))))
 refine Qs (Qs (Qs (Qs (Qv [] Vpf (Qv [] Vm (Qs (Qs (Qs (Qs ?_)))))))))
 refine Qs (Qs (Qs (Qv [] Vpf (Qv [] Va ?_))))
 refine Qn ⟨by kernel_rfl, ?_⟩
 have hq := q4 hrr false (by simp only [flqref14_validDemand, h13, h16, h19, h22, h42, h94, hR92, cs4]); subst hq
 exact Kr () rfl (.tmp rfl .nil) [] trivial
theorem fn232 (s : GSystem) (sa1 : Option Addr) (sk1 : Nat) (sa2 : Option Addr) (sk2 : Nat) (sa3 : Option Addr) (sk3 : Nat) (set_ : List Int) (set_a0 : Option Addr) (set_k0 : Nat) (leaves : List Int) (leavesa0 : Option Addr) (leavesk0 : Nat) (hs_0 : i64ok s.Width) (hs0 : ∀ x ∈ set_, 0 ≤ x ∧ x < (s.Deps.length : Int)) (rr : Bool) (hrr : flqref14_closed s set_ leaves = rr) : FT Tryz.prog 232 #[.agg #[vi s.Width, vl sa1 sk1 s.Deps, vl sa2 sk2 s.Transfers, vl sa3 sk3 s.Boundary], vl set_a0 set_k0 set_, vl leavesa0 leavesk0 leaves] [S sa1 sk1 s.Deps, S sa2 sk2 s.Transfers, S sa3 sk3 s.Boundary, S set_a0 set_k0 set_, S leavesa0 leavesk0 leaves] (fun g : Unit => True) (fun g => vb rr) (fun g => []) := by
 refine FTi Tryz.func232 fun w0 M0 F0 => ?_
 unfold i64ok at hs_0
 refine Fb 24 0 fun hl1 => ?_
 refine Fb 88 1 fun hl2 => ?_
 refine Fb 32 2 fun hl3 => ?_
 refine Fb 8 3 fun hl4 => ?_
 refine Fo 3 fun ho5 => ?_
 refine Fb 8 4 fun hl6 => ?_
 refine Fo 4 fun ho7 => ?_
 refine KS ?_
 refine Oa (Ab [vi s.Width, vl sa1 sk1 s.Deps, vl sa2 sk2 s.Transfers, vl sa3 sk3 s.Boundary]) fun p8 => Oq Va (KS ?_)
 refine Oq Va (KS ?_)
 refine Kl (γ := Nat × Int) (fun (r9, i_10) => ⟨[(1, vl set_a0 set_k0 set_), (2, vl leavesa0 leavesk0 leaves), (3, p8), (7, vi i_10)], [pv p8 [vi s.Width, vl sa1 sk1 s.Deps, vl sa2 sk2 s.Transfers, vl sa3 sk3 s.Boundary], S sa1 sk1 s.Deps, S sa2 sk2 s.Transfers, S sa3 sk3 s.Boundary, S set_a0 set_k0 set_, S leavesa0 leavesk0 leaves], flqref14_closed_L0 s set_ leaves r9 i_10 = flqref14_closed_L0 s set_ leaves (((set_.length : Int) - 0).toNat) 0 ∧ r9 = ((set_.length : Int) - i_10).toNat ∧ (0 : Int) ≤ i_10 ∧ i_10 ≤ (set_.length : Int) ∧ (-9223372036854775808 ≤ i_10 ∧ i_10 ≤ 9223372036854775807), r9⟩) (((set_.length : Int) - 0).toNat, 0) [0, 1, 2, 3, 4, 5] ⟨rfl, rfl, (by omega), (by omega), (by omega)⟩ ?_
 rintro ⟨r9, i_10⟩ ⟨hM11, hr12, hi13, hi14, hk15⟩
 refine JJ_nx fun _ _ hL hA => ?_; dsimp only at hL hA; subst hL hA
 refine Fb 24 1 fun hl16 => ?_
 refine Fb 88 2 fun hl17 => ?_
 refine Fb 32 3 fun hl18 => ?_
 refine Fb 8 4 fun hl19 => ?_
 refine Fo 4 fun ho20 => ?_
 refine Fb 8 5 fun hl21 => ?_
 refine Fo 5 fun ho22 => ?_
 refine KS ?_
 refine Oq Vm (Oq Vm (Oq (Vlen sl22) (Oq Vlss (KS ?_))))
 refine Kc ?_ ?_
 · intro h23
   have g24 := of_decide_eq_true h23
   have hq := hs0 _ (getD_mem (xs := set_) (i := i_10.toNat) (d := 0) (by omega))
   obtain ⟨r25, rfl⟩ := scc (n := r9) (by omega)
   refine KS ?_
   refine JJ_peekL ((set_.getD i_10.toNat 0) : Int).toNat 1 rfl rng fun a26 k27 => ?_
   refine Fb 8 1 fun hl28 => ?_
   refine Fo 1 fun ho29 => ?_
   refine Kq [0, 1, 0, 0, 12, 28, 63, 127, 255] fmix ?_
   refine Qv [2] (Vfa fo27_1 0) (Qv [2] (VldF sh23 0) (Qv [] Vm (Qv [] Vm (Qv [6] (Vi sl22 0) ?_))))
   have hb30 := ok1 (i := i_10.toNat) ho20 rng
   refine Qv [6] (VldI sh3 0) (Qv [3] (Vi sl23 0) (Qv [0] (Vld sh22 0) (Qv [] Va ?_)))
   refine Qn ⟨by kernel_rfl, ?_⟩
   refine KS ?_
   refine Oq Va (KS ?_)
   refine Kl (γ := Nat × Int) (fun (r31, k_32) => ⟨[(1, vl set_a0 set_k0 set_), (2, vl leavesa0 leavesk0 leaves), (3, p8), (7, vi i_10), (8, vl a26 k27 (s.Deps.getD ((set_.getD i_10.toNat 0) : Int).toNat [])), (9, vi k_32)], [S a26 k27 ((s.Deps.getD ((set_.getD i_10.toNat 0) : Int).toNat []) : List Int), pv p8 [vi s.Width, vl sa1 sk1 s.Deps, vl sa2 sk2 s.Transfers, vl sa3 sk3 s.Boundary], S sa1 sk1 s.Deps, S sa2 sk2 s.Transfers, S sa3 sk3 s.Boundary, S set_a0 set_k0 set_, S leavesa0 leavesk0 leaves], flqref14_closed_L1 set_ leaves i_10 (s.Deps.getD ((set_.getD i_10.toNat 0) : Int).toNat []) r31 k_32 = flqref14_closed_L1 set_ leaves i_10 (s.Deps.getD ((set_.getD i_10.toNat 0) : Int).toNat []) (((((s.Deps.getD ((set_.getD i_10.toNat 0) : Int).toNat []).length : Int) : Int) - 0).toNat) 0 ∧ r31 = ((((s.Deps.getD ((set_.getD i_10.toNat 0) : Int).toNat []).length : Int) : Int) - k_32).toNat ∧ (0 : Int) ≤ k_32 ∧ (k_32 ≤ ((s.Deps.getD ((set_.getD i_10.toNat 0) : Int).toNat []).length : Int) ∨ k_32 = 0) ∧ (-9223372036854775808 ≤ k_32 ∧ k_32 ≤ 9223372036854775807), r31⟩) (((((s.Deps.getD ((set_.getD i_10.toNat 0) : Int).toNat []).length : Int) : Int) - 0).toNat, 0) [1, 2, 3, 4, 5, 6, 7] ⟨rfl, rfl, (by omega), (.inr rfl), (by omega)⟩ ?_
   rintro ⟨r31, k_32⟩ ⟨hM33, hr34, hi35, hi36, hk37⟩
   refine JJ_nx fun _ _ hL hA => ?_; dsimp only at hL hA; subst hL hA
   refine Fb 8 0 fun hl38 => ?_
   refine Fo 0 fun ho39 => ?_
   refine Fb 24 2 fun hl40 => ?_
   refine Fb 88 3 fun hl41 => ?_
   refine Fb 32 4 fun hl42 => ?_
   refine Fb 8 5 fun hl43 => ?_
   refine Fo 5 fun ho44 => ?_
   refine Fb 8 6 fun hl45 => ?_
   refine Fo 6 fun ho46 => ?_
   refine KS ?_
   refine Oq Vm (Oq Vm (Oq (Vlen sl22) (Oq Vlss (KS ?_))))
   refine Kc ?_ ?_
   · intro h47
     have g48 := of_decide_eq_true h47
     obtain ⟨r49, rfl⟩ := scc (n := r31) (by omega)
     refine KS ?_
     refine Oq Vm (Oq Vm (Oq Vm (Oq (Vi sl22 5) ?_)))
     have hb50 := ok1 (i := i_10.toNat) ho44 rng
     refine Oq (VldI sh3 5) ?_
     refine letv (flqref7_Has leaves (set_.getD i_10.toNat 0)) fun rv51 hg52 => ?_
     have hc53 := fn99 leaves leavesa0 leavesk0 ((set_.getD i_10.toNat 0)) pre rv51 hg52
     refine Oc [6] ca99 hc53 ?_
     rintro - -
     refine Oq Vnot (Oq Vm ?_)
     refine Js 37 ?_ ?_
     · intro h54
       have h56 := not_true h54
       refine Oq Vm (Oq Vm (Oq Vm (Oq (Vi sl22 0) ?_)))
       have hb58 := ok1 (i := k_32.toNat) ho39 rng
       refine Oq (VldI sh3 0) ?_
       refine letv (flqref7_Has set_ ((s.Deps.getD ((set_.getD i_10.toNat 0) : Int).toNat []).getD k_32.toNat 0)) fun rv59 hg60 => ?_
       have hc61 := fn99 set_ set_a0 set_k0 (((s.Deps.getD ((set_.getD i_10.toNat 0) : Int).toNat []).getD k_32.toNat 0)) pre rv59 hg60
       refine Oc [5] ca99 hc61 ?_
       rintro - -
       refine Oq Vnot (Oq Vpt (KS ?_))
       refine Kc ?_ ?_
       · intro h62
         have h64 := not_true h62
         refine KS ?_
         refine Oq Va (KS ?_)
         have hR66 := q2 hM33 (.ret false) (by simp only [flqref14_closed_L1, h23, h47, h54, h56, h62, h64, hg52, hg60, cs4])
         have hR67 := q2 hM11 (.ret false) (by simp only [flqref14_closed_L0, h23, h47, h54, h56, h62, h64, hg52, hg60, hR66, cs4])
         have hq := q4 hrr false (by simp only [flqref14_closed, h23, h47, h54, h56, h62, h64, hg52, hg60, hR66, hR67, cs4]); subst hq
         exact Kr () rfl (.tmp rfl .nil) [] trivial
       intro h62
       have h69 := not_false h62
       refine KS ?_
       refine Oq Vm (Oq Vadd (Oq Va (KS ?_)))
       exact Kg (r49, (k_32 + 1)) [0, 1, 2, 3, 4, 5, 6] ⟨(q3 hM33 (by simp only [flqref14_closed_L1, h23, h47, h54, h56, h62, h69, hg52, hg60, cs4])), (by omega), (by omega), (by omega), (by omega)⟩
     intro h54
     have h72 := not_false h54
     refine Osk (Osk (Osk (Osk (Osk (Osk (Osk (Oq Vpf (KS ?_))))))))
     refine Kf ?_
     refine KS ?_
     refine Oq Vm (Oq Vadd (Oq Va (KS ?_)))
     exact Kg (r49, (k_32 + 1)) [0, 1, 2, 3, 4, 5, 6] ⟨(q3 hM33 (by simp only [flqref14_closed_L1, h23, h47, h54, h72, hg52, cs4])), (by omega), (by omega), (by omega), (by omega)⟩
   intro h47
   have g74 := of_decide_eq_false h47
   obtain rfl : r31 = 0 := by omega
   refine Ke ?_
   have hR75 := q2 hM33 (.brk ()) (by simp only [flqref14_closed_L1, h23, h47, cs4])
   refine KS ?_
   refine Oq Vm (Oq Vadd (Oq Va (KS ?_)))
   exact Kg (r25, (i_10 + 1)) [1, 2, 3, 4, 5, 6] ⟨(q3 hM11 (by simp only [flqref14_closed_L0, h23, h47, hR75, cs4])), (by omega), (by omega), (by omega), (by omega)⟩
 intro h23
 have g76 := of_decide_eq_false h23
 obtain rfl : r9 = 0 := by omega
 refine Ke ?_
 have hR77 := q2 hM11 (.brk ()) (by simp only [flqref14_closed_L0, h23, cs4])
 refine KS ?_
 refine Oq Va (KS ?_)
 have hq := q4 hrr true (by simp only [flqref14_closed, h23, hR77, cs4]); subst hq
 exact Kr () rfl (.tmp rfl .nil) [] trivial
theorem fn174 (s : GSystem) (sa1 : Option Addr) (sk1 : Nat) (sa2 : Option Addr) (sk2 : Nat) (sa3 : Option Addr) (sk3 : Nat) (k : List GKnown) (ka0 : Option Addr) (kk0 : Nat) (st : GState) (sta1 : Option Addr) (stk1 : Nat) (sta2 : Option Addr) (stk2 : Nat) (sta5 : Option Addr) (stk5 : Nat) (sta6 : Option Addr) (stk6 : Nat) (hs_0 : i64ok s.Width) (hst_0 : i64ok st.Phase) (hst_3 : i64ok st.At) (hst_4 : i64ok st.Edge) (hst_7 : i64ok st.Steps) (hv : VSys s) (hlf : st.Leaf.length = st.Cone.length) (hcl : st.Cone.length ≤ 256) (hcr : ∀ x ∈ st.Cone, 0 ≤ x ∧ x < (s.Deps.length : Int)) (rr : Bool) (hrr : flqref14_validSolve s k st = rr) : FT Tryz.prog 174 #[.agg #[vi s.Width, vl sa1 sk1 s.Deps, vl sa2 sk2 s.Transfers, vl sa3 sk3 s.Boundary], vl ka0 kk0 k, .agg #[vi st.Phase, vl sta1 stk1 st.Cone, vl sta2 stk2 st.Leaf, vi st.At, vi st.Edge, vl sta5 stk5 st.Values, vl sta6 stk6 st.Queue, vi st.Steps]] [S sa1 sk1 s.Deps, S sa2 sk2 s.Transfers, S sa3 sk3 s.Boundary, S ka0 kk0 k, S sta1 stk1 st.Cone, S sta2 stk2 st.Leaf, S sta5 stk5 st.Values, S sta6 stk6 st.Queue] (fun g : Unit => True) (fun g => vb rr) (fun g => []) := by
 refine FTi Tryz.func174 fun w0 M0 F0 => ?_
 unfold i64ok at hs_0 hst_0 hst_3 hst_4 hst_7
 refine Fb 24 0 fun hl1 => ?_
 refine Fb 88 1 fun hl2 => ?_
 refine Fb 32 2 fun hl3 => ?_
 refine Fb 40 3 fun hl4 => ?_
 refine Fb 8 4 fun hl5 => ?_
 refine Fo 4 fun ho6 => ?_
 refine Fb 1 5 fun hl7 => ?_
 refine Fb 32 6 fun hl8 => ?_
 refine Fb 8 7 fun hl9 => ?_
 refine Fo 7 fun ho10 => ?_
 have hv1 := hv.n
 have hv2 := hv.tl
 have hv3 := hv.bl
 have hv4 := hv.w
 have hv5 := hv.dep_len
 refine KS ?_
 refine Oa (Ab [vi s.Width, vl sa1 sk1 s.Deps, vl sa2 sk2 s.Transfers, vl sa3 sk3 s.Boundary]) fun p11 => Oa (Ab [vi st.Phase, vl sta1 stk1 st.Cone, vl sta2 stk2 st.Leaf, vi st.At, vi st.Edge, vl sta5 stk5 st.Values, vl sta6 stk6 st.Queue, vi st.Steps]) fun p12 => Oq Va (KS ?_)
 refine Oq (Vfa fo59_3 0) (Oq (VldF sh3 0) (Oq Vneq (Oq Vm ?_)))
 refine Js 13 ?_ ?_
 · intro h13
   have g14 := ne_of_bne h13
   refine Osk (Osk (Osk (Oq Vpt (Oq Vm (Osk (Osk (Osk (Osk (Osk ?_)))))))))
   refine Osk (Osk (Oq Vpt (Oq Vm (Osk (Osk (Osk (Osk (Osk (Osk ?_)))))))))
   refine Osk (Osk (Oq Vpt (Oq Vm (Osk (Osk (Osk (Oq Vpt (KS ?_))))))))
   refine Kt ?_
   refine KS ?_
   refine Oq Va (KS ?_)
   have hq := q4 hrr false (by simp only [flqref14_validSolve, h13, cs4]); subst hq
   exact Kr () rfl (.tmp rfl .nil) [] trivial
 intro h13
 have g15 := eq_of_bne_false h13
 refine Oq (Vfa fo59_4 0) (Oq (VldF sh3 0) (Oq Vneq (Oq Vpf (Oq Vm ?_))))
 refine Js 18 ?_ ?_
 · intro h16
   have g17 := ne_of_bne h16
   refine Osk (Osk (Osk (Osk (Osk (Osk (Osk (Oq Vpt (Oq Vm (Osk ?_)))))))))
   refine Osk (Osk (Osk (Osk (Osk (Osk (Osk (Oq Vpt (Oq Vm (Osk ?_)))))))))
   refine Osk (Osk (Oq Vpt (KS ?_)))
   refine Kt ?_
   refine KS ?_
   refine Oq Va (KS ?_)
   have hq := q4 hrr false (by simp only [flqref14_validSolve, h13, h16, cs4]); subst hq
   exact Kr () rfl (.tmp rfl .nil) [] trivial
 intro h16
 have g18 := eq_of_bne_false h16
 refine Oq (Vfa fo59_5 0) (Oq (VldF sh25 0) (Oq (Vlen sl25) (Oq (Vfa fo59_1 0) (Oq (VldF sh22 0) (Oq (Vlen sl22) (Oq Vneq (Oq Vpf (Oq Vm ?_))))))))
 refine Js 27 ?_ ?_
 · intro h19
   have g20 := ne_of_bne h19
   refine Osk (Osk (Osk (Osk (Osk (Osk (Osk (Osk (Oq Vpt (Oq Vm ?_)))))))))
   refine Osk (Osk (Osk (Oq Vpt (KS ?_))))
   refine Kt ?_
   refine KS ?_
   refine Oq Va (KS ?_)
   have hq := q4 hrr false (by simp only [flqref14_validSolve, h13, h16, h19, cs4]); subst hq
   exact Kr () rfl (.tmp rfl .nil) [] trivial
 intro h19
 have g21 := eq_of_bne_false h19
 refine Oq (Vfa fo59_6 0) (Oq (VldF sh22 0) (Oq (Vlen sl22) (Oq Veql (Oq (Vfa fo59_0 0) (Oq (VldF sh3 0) (Oq Veql (Oq (Vnb un4) (Oq Vpf (Oq Vm ?_)))))))))
 refine Js 37 ?_ ?_
 · intro h22
   refine Osk (Osk (Osk (Oq Vpt (KS ?_))))
   refine Kt ?_
   refine KS ?_
   refine Oq Va (KS ?_)
   have hq := q4 hrr false (by simp only [flqref14_validSolve, h13, h16, h19, h22, cs4]); subst hq
   exact Kr () rfl (.tmp rfl .nil) [] trivial
 intro h22
 refine Oq (Vfa fo59_6 0) (Oq (VldF sh22 0) ?_)
 refine letv (flqref14_repeated st.Queue) fun rv25 hg26 => ?_
 have hc27 := fn131 st.Queue sta6 stk6 rv25 hg26
 refine Oc [9] ca131 hc27 ?_
 rintro - -
 refine Oq Vpf (KS ?_)
 refine Kc ?_ ?_
 · intro h28
   refine KS ?_
   refine Oq Va (KS ?_)
   have hq := q4 hrr false (by simp only [flqref14_validSolve, h13, h16, h19, h22, h28, hg26, cs4]); subst hq
   exact Kr () rfl (.tmp rfl .nil) [] trivial
 intro h28
 refine KS ?_
 refine Oq Va (KS ?_)
 refine Oq Va (KS ?_)
 refine Jl [] (Ent.osNil (α := Int)) ?_
 refine Kl (γ := Nat × List Int × Int × Option Addr × Nat) (fun (r31, leaves_32, i_33, a34, k35) => ⟨[(1, vl ka0 kk0 k), (3, p11), (5, p12), (7, vl a34 k35 leaves_32), (8, vi i_33)], [O a34 k35 leaves_32, pv p12 [vi st.Phase, vl sta1 stk1 st.Cone, vl sta2 stk2 st.Leaf, vi st.At, vi st.Edge, vl sta5 stk5 st.Values, vl sta6 stk6 st.Queue, vi st.Steps], pv p11 [vi s.Width, vl sa1 sk1 s.Deps, vl sa2 sk2 s.Transfers, vl sa3 sk3 s.Boundary], S sa1 sk1 s.Deps, S sa2 sk2 s.Transfers, S sa3 sk3 s.Boundary, S ka0 kk0 k, S sta1 stk1 st.Cone, S sta2 stk2 st.Leaf, S sta5 stk5 st.Values, S sta6 stk6 st.Queue], flqref14_validSolve_L0 s k st r31 leaves_32 i_33 = flqref14_validSolve_L0 s k st (((st.Cone.length : Int) - 0).toNat) [] 0 ∧ r31 = ((st.Cone.length : Int) - i_33).toNat ∧ (0 : Int) ≤ i_33 ∧ i_33 ≤ (st.Cone.length : Int) ∧ (-9223372036854775808 ≤ i_33 ∧ i_33 ≤ 9223372036854775807) ∧ (leaves_32.length : Int) ≤ i_33, r31⟩) (((st.Cone.length : Int) - 0).toNat, [], 0, none, 0) [0, 0, 1, 2, 3, 4, 5, 6, 7, 8, 9] ⟨rfl, rfl, (by omega), (by omega), (by omega), iv0⟩ ?_
 rintro ⟨r31, leaves_32, i_33, a34, k35⟩ ⟨hM36, hr37, hi38, hi39, hk40, hv41⟩
 refine JJ_nx fun _ _ hL hA => ?_; dsimp only at hL hA; subst hL hA
 refine Fb 8 0 fun hl42 => ?_
 refine Fo 0 fun ho43 => ?_
 refine Fb 24 3 fun hl44 => ?_
 refine Fb 88 4 fun hl45 => ?_
 refine Fb 32 5 fun hl46 => ?_
 refine Fb 40 6 fun hl47 => ?_
 refine Fb 8 7 fun hl48 => ?_
 refine Fo 7 fun ho49 => ?_
 refine Fb 1 8 fun hl50 => ?_
 refine Fb 32 9 fun hl51 => ?_
 refine Fb 8 10 fun hl52 => ?_
 refine Fo 10 fun ho53 => ?_
 refine KS ?_
 refine Oq Vm (Oq (Vfa fo59_1 1) (Oq (VldF sh22 1) (Oq (Vlen sl22) (Oq Vlss (KS ?_)))))
 refine Kc ?_ ?_
 · intro h54
   have g55 := of_decide_eq_true h54
   have hq := hcr _ (getD_mem (xs := st.Cone) (i := i_33.toNat) (d := 0) (by omega))
   obtain ⟨r56, rfl⟩ := scc (n := r31) (by omega)
   refine KS ?_
   refine letv (flqref14_find k (st.Cone.getD i_33.toNat 0)) fun rv58 hg59 => ?_
   refine bool_split (!((st.Leaf.getD i_33.toNat false) == (decide (0 ≤ rv58)))) ?_ ?_
   · intro h60
     refine JK_drawK [0, 1, 0, 7, 15, 0, 0, 64, 0, 448, 960, 2016, 4064, 8191, 16383, 32767, 65535, 32767, 262143, 524287, 1048575, 2097151, 4194303, 8388607, 16777215, 33554431, 16777215, 134217727, 268435455, 536870911, 16777215, 1090519039, 4294967295, 8589934591] fmix ?_
     refine Dv [1] (Vfa fo59_2 0) (Dv [1] (VldF sh57 0) (Dv [] Vm (Dv [8] (Vi sl57 0) (Dv [8] (VldB sh4 0) (Dv [] Vm (Dv [1] (Vfa fo59_1 0) (Dv [1] (VldF sh22 0) (Dv [] Vm (Dv [7] (Vi sl22 0) ?_)))))))))
     have hb62 := ok1 (i := i_33.toNat) ho49 rng
     refine Dv [7] (VldI sh3 0) (Dx [6] [] [1, 0] (fun G => vi rv58) [fun G => SP.fact (i64ok rv58 ∧ (-1 ≤ rv58 ∧ rv58 < (k.length : Int)))] (fun G => xC [0] ca132 (fn132 k ka0 kk0 ((st.Cone.getD i_33.toNat 0)) pre rv58 hg59)) (Dv [] Vgeq (Db h60 [] (Vnb un4) (Dv [] Vm (Ds (Ds (Ds (Ds (Ds ?_)))))))))
     refine Ds (Ds (Dv [] Vpt (Dv [] Vm (Ds (Ds (Ds (Ds (Ds (Ds ?_)))))))))
     refine Ds (Ds (Ds (Dv [] Vpt ?_)))
     refine Dn ⟨by kernel_rfl, fun G => ?_⟩
     refine Jw2 [(1, vl ka0 kk0 k), (3, p11), (5, p12), (7, vl a34 k35 leaves_32), (8, vi i_33), (82, vb true)] [0, 1, 2, 3, 4, 5, 6, 7, 8, 9, 10] [SP.fact (i64ok rv58 ∧ (-1 ≤ rv58 ∧ rv58 < (k.length : Int)))] ?_
     refine Jf 11 rfl ?_; rintro ⟨he63, he64⟩
     unfold i64ok at he63
     refine Jk [0, 0, 1, 2, 3, 4, 5, 6, 7, 8, 9] ?_
     refine Kt ?_
     refine KS ?_
     refine Oq Va (KS ?_)
     have hR65 := q2 hM36 (.ret false) (by simp only [flqref14_validSolve_L0, h13, h16, h19, h22, h28, h54, h60, hg26, hg59, cs4])
     have hq := q4 hrr false (by simp only [flqref14_validSolve, h13, h16, h19, h22, h28, h54, h60, hg26, hg59, hR65, cs4]); subst hq
     exact Kr () rfl (.tmp rfl .nil) [] trivial
   intro h60
   refine JJ_peek_GSet i_33.toNat 9 rfl rng fun a67 k68 hb69 => ?_
   unfold i64ok at hb69
   refine Fb 8 1 fun hl70 => ?_
   refine JK_drawK [0, 1, 0, 7, 15, 0, 0, 64, 0, 448, 960, 2016, 4064, 8191, 16383, 32767, 65535, 32767, 262143, 524287, 1048575, 2097151, 4194303, 8388607, 16777215, 33554431, 16777215, 134217727, 268435455, 536870911, 16777215, 1090519039, 4294967295, 8589934591] fmix ?_
   refine Dv [3] (Vfa fo59_2 0) (Dv [3] (VldF sh57 0) (Dv [] Vm (Dv [10] (Vi sl57 0) (Dv [10] (VldB sh4 0) (Dv [] Vm (Dv [3] (Vfa fo59_1 0) (Dv [3] (VldF sh22 0) (Dv [] Vm (Dv [9] (Vi sl22 0) ?_)))))))))
   have hb71 := ok1 (i := i_33.toNat) ho49 rng
   refine Dv [9] (VldI sh3 0) (Dx [8] [] [1, 0] (fun G => vi rv58) [fun G => SP.fact (i64ok rv58 ∧ (-1 ≤ rv58 ∧ rv58 < (k.length : Int)))] (fun G => xC [0] ca132 (fn132 k ka0 kk0 ((st.Cone.getD i_33.toNat 0)) pre rv58 hg59)) (Dv [] Vgeq (Db h60 [] (Vnb un4) (Dv [] Vm (Dv [3] (Vfa fo59_5 0) (Dv [3] (VldF sh25 0) (Dv [] Vm ?_)))))))
   refine Dx [11, 13] [] [0, 1] (fun G => (eptr 2 (vl sta5 stk5 st.Values) i_33.toNat)) [] (fun G => by refine xf 1 rfl ?_; rintro ⟨he72, he73⟩; unfold i64ok at he72; exact xV (Vi sl25 0)) (Dv [0] (VldA sh42 0) ?_)
   refine letv (flqref1_Valid (st.Values.getD i_33.toNat default)) fun rv74 hg75 => ?_
   refine Dx [1, 13] [] [1, 2, 0] (fun G => vb rv74) [fun G => SP.fact (True)] (fun G => by refine xf 1 rfl ?_; rintro ⟨he76, he77⟩; unfold i64ok at he76; exact xC [0] ca91 (fn91 ((st.Values.getD i_33.toNat default)) a67 k68 pre rv74 hg75)) (Dv [] Vnot (Dv [] Vpf ?_))
   refine bool_split (!rv74) ?_ ?_
   · intro h78
     have h80 := not_true h78
     refine Db h78 [] Vm (Ds (Ds (Ds (Ds (Ds (Ds (Ds (Ds (Ds ?_)))))))))
     refine Dv [] Vpt ?_
     refine Dn ⟨by kernel_rfl, fun G => ?_⟩
     refine Jw2 [(1, vl ka0 kk0 k), (3, p11), (5, p12), (7, vl a34 k35 leaves_32), (8, vi i_33), (82, vb true)] [0, 1, 2, 3, 4, 5, 6, 7, 8, 9, 10, 11, 12] [SP.fact (i64ok rv58 ∧ (-1 ≤ rv58 ∧ rv58 < (k.length : Int))), SP.fact (True)] ?_
     refine Jf 13 rfl ?_; rintro ⟨he82, he83⟩
     unfold i64ok at he82
     refine Jk [0, 1, 2, 2, 3, 4, 5, 6, 7, 8, 9, 10, 11] ?_
     refine Kt ?_
     refine KS ?_
     refine Oq Va (KS ?_)
     have hR84 := q2 hM36 (.ret false) (by simp only [flqref14_validSolve_L0, h13, h16, h19, h22, h28, h54, h60, h78, h80, hg26, hg59, hg75, cs4])
     have hq := q4 hrr false (by simp only [flqref14_validSolve, h13, h16, h19, h22, h28, h54, h60, h78, h80, hg26, hg59, hg75, hR84, cs4]); subst hq
     exact Kr () rfl (.tmp rfl .nil) [] trivial
   intro h78
   have h86 := not_false h78
   refine Db h78 [] Vm (Dv [3] (Vfa fo59_5 0) (Dv [3] (VldF sh25 0) (Dv [] Vm ?_)))
   refine Dx [11, 13] [] [0, 1] (fun G => (eptr 2 (vl sta5 stk5 st.Values) i_33.toNat)) [] (fun G => by refine xf 1 rfl ?_; rintro ⟨he88, he89⟩; unfold i64ok at he88; exact xV (Vi sl25 0)) (Dv [0] (Vfa fo42_0 0) (Dv [0] (VldF sh3 0) (Dv [4] (Vfa fo27_0 0) (Dv [4] (VldF sh3 0) (Dv [] Vneq (Dv [] Vpf ?_))))))
   refine Dn ⟨by kernel_rfl, fun G => ?_⟩
   refine Jw2 [(1, vl ka0 kk0 k), (3, p11), (5, p12), (7, vl a34 k35 leaves_32), (8, vi i_33), (82, vb ((st.Values.getD i_33.toNat default).Width != s.Width))] [0, 1, 2, 3, 4, 5, 6, 7, 8, 9, 10, 11, 12] [SP.fact (i64ok rv58 ∧ (-1 ≤ rv58 ∧ rv58 < (k.length : Int))), SP.fact (True)] ?_
   refine Jf 13 rfl ?_; rintro ⟨he90, he91⟩
   unfold i64ok at he90
   refine Jk [0, 1, 2, 2, 3, 4, 5, 6, 7, 8, 9, 10, 11] ?_
   refine Kc ?_ ?_
   · intro h92
     have g93 := ne_of_bne h92
     refine KS ?_
     refine Oq Va (KS ?_)
     have hR94 := q2 hM36 (.ret false) (by simp only [flqref14_validSolve_L0, h13, h16, h19, h22, h28, h54, h60, h78, h86, h92, hg26, hg59, hg75, cs4])
     have hq := q4 hrr false (by simp only [flqref14_validSolve, h13, h16, h19, h22, h28, h54, h60, h78, h86, h92, hg26, hg59, hg75, hR94, cs4]); subst hq
     exact Kr () rfl (.tmp rfl .nil) [] trivial
   intro h92
   have g95 := eq_of_bne_false h92
   refine KS ?_
   refine Oq (Vfa fo59_2 3) (Oq (VldF sh57 3) (Oq Vm (Oq (Vi sl57 10) (Oq (VldB sh4 10) (KS ?_)))))
   refine Kc ?_ ?_
   · intro h96
     have h98 := h60; rw [h96] at h98
     refine KS ?_
     refine Oq Vm (Oq (Vfa fo59_1 3) (Oq (VldF sh22 3) (Oq Vm (Oq (Vi sl22 9) ?_))))
     have hb99 := ok1 (i := i_33.toNat) ho49 rng
     refine Oq (VldI sh3 9) (Oa (AsV sl22 sz22 [vi (st.Cone.getD i_33.toNat 0)] [vi (st.Cone.getD i_33.toNat 0)]) fun c100 => ?_)
     refine Jo 0 ?_; rintro a101 k102 rfl
     refine Jl [0] (Ent.crInt _ [(st.Cone.getD i_33.toNat 0)] _ _ rfl rfl (by intro x hx; rw [List.mem_singleton] at hx; subst hx; unfold i64ok; omega) (Nat.le_of_ble_eq_true rfl)) ?_
     refine Oa (ApO [3, 0] sl22 sl22 sz22) fun c103 => ?_
     refine Jo 0 ?_; rintro a104 k105 rfl
     refine Fb 8 0 fun hl106 => ?_
     refine Fo 0 fun ho107 => ?_
     have hn108 := la leaves_32 ([(st.Cone.getD i_33.toNat 0)] : List Int)
     refine Oq Va (KS ?_)
     refine Oq Vm (Oq Vadd (Oq Va (KS ?_)))
     exact Kg (r56, (leaves_32 ++ [(st.Cone.getD i_33.toNat 0)]), (i_33 + 1), a104, k105) [0, 2, 3, 4, 5, 6, 7, 8, 9, 10, 11] ⟨(q3 hM36 (by simp only [flqref14_validSolve_L0, h13, h16, h19, h22, h28, h54, h60, h78, h86, h92, h96, hg26, hg59, hg75, h98, cs4])), (by omega), (by omega), (by omega), (by omega), iv1⟩
   intro h96
   have h110 := h60; rw [h96] at h110
   refine KS ?_
   refine Oq Vm (Oq Vadd (Oq Va (KS ?_)))
   exact Kg (r56, leaves_32, (i_33 + 1), a34, k35) [2, 2, 3, 4, 5, 6, 7, 8, 9, 10, 11] ⟨(q3 hM36 (by simp only [flqref14_validSolve_L0, h13, h16, h19, h22, h28, h54, h60, h78, h86, h92, h96, hg26, hg59, hg75, h110, cs4])), (by omega), (by omega), (by omega), (by omega), iv1⟩
 intro h54
 have g111 := of_decide_eq_false h54
 obtain rfl : r31 = 0 := by omega
 refine Ke ?_
 have hR112 := q2 hM36 (.brk leaves_32) (by simp only [flqref14_validSolve_L0, h13, h16, h19, h22, h28, h54, hg26, cs4])
 refine KS ?_
 refine Oq Va (KS ?_)
 refine Kl (γ := Nat × Int) (fun (r113, i_114) => ⟨[(3, p11), (5, p12), (7, vl a34 k35 leaves_32), (9, vi i_114)], [O a34 k35 leaves_32, pv p12 [vi st.Phase, vl sta1 stk1 st.Cone, vl sta2 stk2 st.Leaf, vi st.At, vi st.Edge, vl sta5 stk5 st.Values, vl sta6 stk6 st.Queue, vi st.Steps], pv p11 [vi s.Width, vl sa1 sk1 s.Deps, vl sa2 sk2 s.Transfers, vl sa3 sk3 s.Boundary], S sa1 sk1 s.Deps, S sa2 sk2 s.Transfers, S sa3 sk3 s.Boundary, S sta1 stk1 st.Cone, S sta2 stk2 st.Leaf, S sta5 stk5 st.Values, S sta6 stk6 st.Queue], flqref14_validSolve_L1 st r113 i_114 = flqref14_validSolve_L1 st (((st.Queue.length : Int) - 0).toNat) 0 ∧ r113 = ((st.Queue.length : Int) - i_114).toNat ∧ (0 : Int) ≤ i_114 ∧ i_114 ≤ (st.Queue.length : Int) ∧ (-9223372036854775808 ≤ i_114 ∧ i_114 ≤ 9223372036854775807), r113⟩) (((st.Queue.length : Int) - 0).toNat, 0) [0, 0, 1, 2, 3, 4, 6, 7, 8, 9] ⟨rfl, rfl, (by omega), (by omega), (by omega)⟩ ?_
 rintro ⟨r113, i_114⟩ ⟨hM115, hr116, hi117, hi118, hk119⟩
 refine JJ_nx fun _ _ hL hA => ?_; dsimp only at hL hA; subst hL hA
 refine Fb 8 0 fun hl120 => ?_
 refine Fo 0 fun ho121 => ?_
 refine Fb 24 3 fun hl122 => ?_
 refine Fb 88 4 fun hl123 => ?_
 refine Fb 32 5 fun hl124 => ?_
 refine Fb 8 6 fun hl125 => ?_
 refine Fo 6 fun ho126 => ?_
 refine Fb 1 7 fun hl127 => ?_
 refine Fb 32 8 fun hl128 => ?_
 refine Fb 8 9 fun hl129 => ?_
 refine Fo 9 fun ho130 => ?_
 refine KS ?_
 refine Oq Vm (Oq (Vfa fo59_6 1) (Oq (VldF sh22 1) (Oq (Vlen sl22) (Oq Vlss (KS ?_)))))
 refine Kc ?_ ?_
 · intro h131
   have g132 := of_decide_eq_true h131
   obtain ⟨r133, rfl⟩ := scc (n := r113) (by omega)
   refine KS ?_
   refine Kq [0, 1, 0, 7, 15, 31, 63, 127, 255, 127, 1023, 2047, 127, 4223, 12415, 32767, 65535] fmix ?_
   refine Qv [1] (Vfa fo59_6 0) (Qv [1] (VldF sh22 0) (Qv [] Vm (Qv [9] (Vi sl22 0) ?_)))
   have hb134 := ok1 (i := i_114.toNat) ho130 rng
   refine Qv [9] (VldI sh3 0) (Qv [] Vlss ?_)
   refine bool_split (decide ((st.Queue.getD i_114.toNat 0) < 0)) ?_ ?_
   · intro h135
     have g136 := of_decide_eq_true h135
     refine Qb h135 [] Vm (Qs (Qs (Qs (Qs (Qs (Qs (Qs (Qs (Qs ?_)))))))))
     refine Qv [] Vpt ?_
     refine Qn ⟨by kernel_rfl, ?_⟩
     refine Kt ?_
     refine KS ?_
     refine Oq Va (KS ?_)
     have hR137 := q2 hM115 (.ret false) (by simp only [flqref14_validSolve_L1, h13, h16, h19, h22, h28, h54, h131, h135, hg26, hR112, cs4])
     have hq := q4 hrr false (by simp only [flqref14_validSolve, h13, h16, h19, h22, h28, h54, h131, h135, hg26, hR112, hR137, cs4]); subst hq
     exact Kr () rfl (.tmp rfl .nil) [] trivial
   intro h135
   have g138 := of_decide_eq_false h135
   refine Qb h135 [] Vm (Qv [1] (Vfa fo59_6 0) (Qv [1] (VldF sh22 0) (Qv [] Vm (Qv [9] (Vi sl22 0) ?_))))
   have hb139 := ok1 (i := i_114.toNat) ho130 rng
   refine Qv [9] (VldI sh3 0) (Qv [1] (Vfa fo59_1 0) (Qv [1] (VldF sh22 0) (Qv [] (Vlen sl22) (Qv [] Vgeq (Qv [] Vpf ?_)))))
   refine Qn ⟨by kernel_rfl, ?_⟩
   refine Kc ?_ ?_
   · intro h140
     have g141 := of_decide_eq_true h140
     refine KS ?_
     refine Oq Va (KS ?_)
     have hR142 := q2 hM115 (.ret false) (by simp only [flqref14_validSolve_L1, h13, h16, h19, h22, h28, h54, h131, h135, h140, hg26, hR112, cs4])
     have hq := q4 hrr false (by simp only [flqref14_validSolve, h13, h16, h19, h22, h28, h54, h131, h135, h140, hg26, hR112, hR142, cs4]); subst hq
     exact Kr () rfl (.tmp rfl .nil) [] trivial
   intro h140
   have g143 := of_decide_eq_false h140
   refine KS ?_
   refine Oq Vm (Oq Vadd (Oq Va (KS ?_)))
   exact Kg (r133, (i_114 + 1)) [0, 0, 1, 2, 3, 4, 5, 6, 7, 8] ⟨(q3 hM115 (by simp only [flqref14_validSolve_L1, h13, h16, h19, h22, h28, h54, h131, h135, h140, hg26, hR112, cs4])), (by omega), (by omega), (by omega), (by omega)⟩
 intro h131
 have g144 := of_decide_eq_false h131
 obtain rfl : r113 = 0 := by omega
 refine Ke ?_
 have hR145 := q2 hM115 (.brk ()) (by simp only [flqref14_validSolve_L1, h13, h16, h19, h22, h28, h54, h131, hg26, hR112, cs4])
 refine KS ?_
 refine Oq (VldA sh27 2) (Oq (Vfa fo59_1 1) (Oq (VldF sh22 1) (Oq Vm ?_)))
 refine letv (flqref14_closed s st.Cone leaves_32) fun rv146 hg147 => ?_
 refine Oc [0, 2, 3, 4, 5] ca232 (FT_borrow (A := _) (fun _ _ h => by cases h) (FT_ent (Ent.take (is := [1, 2, 3, 4, 0]) rfl) (fn232 s sa1 sk1 sa2 sk2 sa3 sk3 st.Cone sta1 stk1 leaves_32 a34 k35 pre hcr rv146 hg147))) ?_ (ht := rfl)
 rintro - -
 refine Oq Va (KS ?_)
 have hq := q4 hrr rv146 (by simp only [flqref14_validSolve, h13, h16, h19, h22, h28, h54, h131, hg26, hR112, hR145, hg147, cs4]); subst hq
 exact Kr () rfl (.tmp rfl .nil) [] trivial
theorem fn92 (s : GSystem) (sa1 : Option Addr) (sk1 : Nat) (sa2 : Option Addr) (sk2 : Nat) (sa3 : Option Addr) (sk3 : Nat) (k : List GKnown) (ka0 : Option Addr) (kk0 : Nat) (st : GState) (sta1 : Option Addr) (stk1 : Nat) (sta2 : Option Addr) (stk2 : Nat) (sta5 : Option Addr) (stk5 : Nat) (sta6 : Option Addr) (stk6 : Nat) (hs_0 : i64ok s.Width) (hst_0 : i64ok st.Phase) (hst_3 : i64ok st.At) (hst_4 : i64ok st.Edge) (hst_7 : i64ok st.Steps) (rr : Bool) (hrr : flqref14_Valid s k st = rr) : FT Tryz.prog 92 #[.agg #[vi s.Width, vl sa1 sk1 s.Deps, vl sa2 sk2 s.Transfers, vl sa3 sk3 s.Boundary], vl ka0 kk0 k, .agg #[vi st.Phase, vl sta1 stk1 st.Cone, vl sta2 stk2 st.Leaf, vi st.At, vi st.Edge, vl sta5 stk5 st.Values, vl sta6 stk6 st.Queue, vi st.Steps]] [S sa1 sk1 s.Deps, S sa2 sk2 s.Transfers, S sa3 sk3 s.Boundary, S ka0 kk0 k, S sta1 stk1 st.Cone, S sta2 stk2 st.Leaf, S sta5 stk5 st.Values, S sta6 stk6 st.Queue] (fun g : Unit => True) (fun g => vb rr) (fun g => []) := by
 refine FTi Tryz.func92 fun w0 M0 F0 => ?_
 unfold i64ok at hs_0 hst_0 hst_3 hst_4 hst_7
 refine Fb 24 0 fun hl1 => ?_
 refine Fb 88 1 fun hl2 => ?_
 refine Fb 32 2 fun hl3 => ?_
 refine Fb 40 3 fun hl4 => ?_
 refine Fb 8 4 fun hl5 => ?_
 refine Fo 4 fun ho6 => ?_
 refine Fb 1 5 fun hl7 => ?_
 refine Fb 32 6 fun hl8 => ?_
 refine Fb 8 7 fun hl9 => ?_
 refine Fo 7 fun ho10 => ?_
 refine KS ?_
 refine Oa (Ab [vi s.Width, vl sa1 sk1 s.Deps, vl sa2 sk2 s.Transfers, vl sa3 sk3 s.Boundary]) fun p11 => Oa (Ab [vi st.Phase, vl sta1 stk1 st.Cone, vl sta2 stk2 st.Leaf, vi st.At, vi st.Edge, vl sta5 stk5 st.Values, vl sta6 stk6 st.Queue, vi st.Steps]) fun p12 => Oq Va (KS ?_)
 refine Oq (VldA sh27 1) ?_
 refine letv (flqref10_Valid s) fun rv13 hg14 => ?_
 have hc15 := fn74 s sa1 sk1 sa2 sk2 sa3 sk3 pre rv13 hg14
 refine Oc [2, 3, 4] ca74 hc15 ?_
 rintro - -
 refine Oq Vnot (Oq Vm ?_)
 refine Js 10 ?_ ?_
 · intro h16
   have h18 := not_true h16
   refine Osk (Osk (Osk (Osk (Oq Vpt (Oq Vm (Osk (Osk (Osk (Osk ?_)))))))))
   refine Oq Vpt (Oq Vm (Osk (Osk (Osk (Osk (Osk (Osk (Osk (Oq Vpt ?_)))))))))
   refine Oq Vm (Osk (Osk (Osk (Osk (Osk (Osk (Osk (Oq Vpt (Oq Vm ?_)))))))))
   refine Osk (Osk (Osk (Osk (Osk (Osk (Osk (Oq Vpt (Oq Vm (Osk ?_)))))))))
   refine Osk (Osk (Osk (Osk (Oq Vpt (Oq Vm (Osk (Osk (Osk (Oq Vpt ?_)))))))))
   refine Oq Vm (Osk (Osk (Osk (Osk (Oq Vpt (KS ?_))))))
   refine Kt ?_
   refine KS ?_
   refine Oq Va (KS ?_)
   have hq := q4 hrr false (by simp only [flqref14_Valid, h16, h18, hg14, cs4]); subst hq
   exact Kr () rfl (.tmp rfl .nil) [] trivial
 intro h16
 have h21 := not_false h16
 try (have hvs := (RefValid_iff s).1 (by simp only [h16, h21, hg14]); have hv1 := hvs.n; have hv2 := hvs.tl; have hv3 := hvs.bl; have hv4 := hvs.w)
 try (have hcr := inside_dep hvs (l := st.Cone) (by simp only [h16, h21, hg14]))
 refine Oq (VldA sh27 1) (Oq Vm ?_)
 refine letv (flqref14_ValidKnown s k) fun rv23 hg24 => ?_
 have hc25 := fn171 s sa1 sk1 sa2 sk2 sa3 sk3 k ka0 kk0 pre rv23 hg24
 refine Oc [2, 3, 4, 5] ca171 hc25 ?_
 rintro - -
 refine Oq Vnot (Oq Vpf (Oq Vm ?_))
 refine Js 16 ?_ ?_
 · intro h26
   have h28 := not_true h26
   refine Osk (Osk (Osk (Osk (Oq Vpt (Oq Vm (Osk (Osk (Osk (Osk ?_)))))))))
   refine Osk (Osk (Osk (Oq Vpt (Oq Vm (Osk (Osk (Osk (Osk (Osk ?_)))))))))
   refine Osk (Osk (Oq Vpt (Oq Vm (Osk (Osk (Osk (Osk (Osk (Osk ?_)))))))))
   refine Osk (Oq Vpt (Oq Vm (Osk (Osk (Osk (Osk (Osk (Oq Vpt (Oq Vm ?_)))))))))
   refine Osk (Osk (Osk (Oq Vpt (Oq Vm (Osk (Osk (Osk (Osk (Oq Vpt ?_)))))))))
   refine KS ?_
   refine Kt ?_
   refine KS ?_
   refine Oq Va (KS ?_)
   have hq := q4 hrr false (by simp only [flqref14_Valid, h16, h21, h26, h28, hg14, hg24, cs4]); subst hq
   exact Kr () rfl (.tmp rfl .nil) [] trivial
 intro h26
 have h31 := not_false h26
 try (have hvs := (RefValid_iff s).1 (by simp only [h16, h21, h26, h31, hg14, hg24]); have hv1 := hvs.n; have hv2 := hvs.tl; have hv3 := hvs.bl; have hv4 := hvs.w)
 try (have hcr := inside_dep hvs (l := st.Cone) (by simp only [h16, h21, h26, h31, hg14, hg24]))
 refine Oq (Vfa fo59_1 0) (Oq (VldF sh22 0) (Oq (Vlen sl22) (Oq Veql (Oq Vpf (Oq Vm ?_)))))
 refine Js 22 ?_ ?_
 · intro h33
   have g34 := eq_of_beq h33
   refine Osk (Osk (Osk (Osk (Osk (Osk (Osk (Oq Vpt (Oq Vm (Osk ?_)))))))))
   refine Osk (Osk (Osk (Osk (Osk (Osk (Oq Vpt (Oq Vm (Osk (Osk ?_)))))))))
   refine Osk (Osk (Osk (Osk (Osk (Oq Vpt (Oq Vm (Osk (Osk (Osk ?_)))))))))
   refine Osk (Osk (Oq Vpt (Oq Vm (Osk (Osk (Osk (Oq Vpt (Oq Vm (Osk ?_)))))))))
   refine Osk (Osk (Osk (Oq Vpt (KS ?_))))
   refine Kt ?_
   refine KS ?_
   refine Oq Va (KS ?_)
   have hq := q4 hrr false (by simp only [flqref14_Valid, h16, h21, h26, h31, h33, hg14, hg24, cs4]); subst hq
   exact Kr () rfl (.tmp rfl .nil) [] trivial
 intro h33
 have g35 := ne_of_beq_false h33
 refine Oq (Vfa fo59_1 0) (Oq (VldF sh22 0) (Oq (Vlen sl22) (Oq (Vfa fo27_3 1) (Oq (VldF sh25 1) (Oq (Vlen sl25) (Oq Vgtr (Oq Vpf (Oq Vm ?_))))))))
 refine Js 31 ?_ ?_
 · intro h36
   have g37 := of_decide_eq_true h36
   refine Osk (Osk (Osk (Osk (Osk (Osk (Osk (Oq Vpt (Oq Vm (Osk ?_)))))))))
   refine Osk (Osk (Osk (Osk (Osk (Osk (Oq Vpt (Oq Vm (Osk (Osk ?_)))))))))
   refine Osk (Osk (Osk (Oq Vpt (Oq Vm (Osk (Osk (Osk (Oq Vpt (Oq Vm ?_)))))))))
   refine Osk (Osk (Osk (Osk (Oq Vpt (KS ?_)))))
   refine Kt ?_
   refine KS ?_
   refine Oq Va (KS ?_)
   have hq := q4 hrr false (by simp only [flqref14_Valid, h16, h21, h26, h31, h33, h36, hg14, hg24, cs4]); subst hq
   exact Kr () rfl (.tmp rfl .nil) [] trivial
 intro h36
 have g38 := of_decide_eq_false h36
 refine Oq (Vfa fo59_2 0) (Oq (VldF sh57 0) (Oq (Vlen sl57) (Oq (Vfa fo59_1 0) (Oq (VldF sh22 0) (Oq (Vlen sl22) (Oq Vneq (Oq Vpf (Oq Vm ?_))))))))
 refine Js 40 ?_ ?_
 · intro h39
   have g40 := ne_of_bne h39
   refine Osk (Osk (Osk (Osk (Osk (Osk (Osk (Oq Vpt (Oq Vm (Osk ?_)))))))))
   refine Osk (Osk (Osk (Osk (Oq Vpt (Oq Vm (Osk (Osk (Osk (Oq Vpt ?_)))))))))
   refine Oq Vm (Osk (Osk (Osk (Osk (Oq Vpt (KS ?_))))))
   refine Kt ?_
   refine KS ?_
   refine Oq Va (KS ?_)
   have hq := q4 hrr false (by simp only [flqref14_Valid, h16, h21, h26, h31, h33, h36, h39, hg14, hg24, cs4]); subst hq
   exact Kr () rfl (.tmp rfl .nil) [] trivial
 intro h39
 have g41 := eq_of_bne_false h39
 refine Oq (Vfa fo59_6 0) (Oq (VldF sh22 0) (Oq (Vlen sl22) (Oq (Vfa fo59_1 0) (Oq (VldF sh22 0) (Oq (Vlen sl22) (Oq Vgtr (Oq Vpf (Oq Vm ?_))))))))
 refine Js 49 ?_ ?_
 · intro h42
   have g43 := of_decide_eq_true h42
   refine Osk (Osk (Osk (Osk (Osk (Oq Vpt (Oq Vm (Osk (Osk (Osk ?_)))))))))
   refine Oq Vpt (Oq Vm (Osk (Osk (Osk (Osk (Oq Vpt (KS ?_)))))))
   refine Kt ?_
   refine KS ?_
   refine Oq Va (KS ?_)
   have hq := q4 hrr false (by simp only [flqref14_Valid, h16, h21, h26, h31, h33, h36, h39, h42, hg14, hg24, cs4]); subst hq
   exact Kr () rfl (.tmp rfl .nil) [] trivial
 intro h42
 have g44 := of_decide_eq_false h42
 refine Oq (VldA sh27 1) (Oq (Vfa fo59_1 0) (Oq (VldF sh22 0) ?_))
 refine letv (flqref14_inside s st.Cone) fun rv45 hg46 => ?_
 have hc47 := fn98 s sa1 sk1 sa2 sk2 sa3 sk3 st.Cone sta1 stk1 pre rv45 hg46
 refine Oc [2, 3, 4, 6] ca98 hc47 ?_
 rintro - -
 refine Oq Vnot (Oq Vpf (Oq Vm ?_))
 refine Js 56 ?_ ?_
 · intro h48
   have h50 := not_true h48
   refine Osk (Osk (Osk (Oq Vpt (Oq Vm (Osk (Osk (Osk (Osk (Oq Vpt ?_)))))))))
   refine KS ?_
   refine Kt ?_
   refine KS ?_
   refine Oq Va (KS ?_)
   have hq := q4 hrr false (by simp only [flqref14_Valid, h16, h21, h26, h31, h33, h36, h39, h42, h48, h50, hg14, hg24, hg46, cs4]); subst hq
   exact Kr () rfl (.tmp rfl .nil) [] trivial
 intro h48
 have h53 := not_false h48
 try (have hvs := (RefValid_iff s).1 (by simp only [h16, h21, h26, h31, h33, h36, h39, h42, h48, h53, hg14, hg24, hg46]); have hv1 := hvs.n; have hv2 := hvs.tl; have hv3 := hvs.bl; have hv4 := hvs.w)
 try (have hcr := inside_dep hvs (l := st.Cone) (by simp only [h16, h21, h26, h31, h33, h36, h39, h42, h48, h53, hg14, hg24, hg46]))
 refine Oq (Vfa fo59_1 0) (Oq (VldF sh22 0) ?_)
 refine letv (flqref14_repeated st.Cone) fun rv55 hg56 => ?_
 have hc57 := fn131 st.Cone sta1 stk1 rv55 hg56
 refine Oc [6] ca131 hc57 ?_
 rintro - -
 refine Oq Vpf (Oq Vm ?_)
 refine Js 61 ?_ ?_
 · intro h58
   try (have hvs := (RefValid_iff s).1 (by simp only [h16, h21, h26, h31, h33, h36, h39, h42, h48, h53, h58, hg14, hg24, hg46, hg56]); have hv1 := hvs.n; have hv2 := hvs.tl; have hv3 := hvs.bl; have hv4 := hvs.w)
   try (have hcr := inside_dep hvs (l := st.Cone) (by simp only [h16, h21, h26, h31, h33, h36, h39, h42, h48, h53, h58, hg14, hg24, hg46, hg56]))
   refine Osk (Osk (Osk (Osk (Oq Vpt (KS ?_)))))
   refine Kt ?_
   refine KS ?_
   refine Oq Va (KS ?_)
   have hq := q4 hrr false (by simp only [flqref14_Valid, h16, h21, h26, h31, h33, h36, h39, h42, h48, h53, h58, hg14, hg24, hg46, hg56, cs4]); subst hq
   exact Kr () rfl (.tmp rfl .nil) [] trivial
 intro h58
 refine Oq (Vfa fo59_7 0) (Oq (VldF sh3 0) ?_)
 refine letv (flqref14_counter st.Steps) fun rv61 hg62 => ?_
 have hc63 := fn172 st.Steps pre rv61 hg62
 refine Oc [] ca172 hc63 ?_
 rintro - -
 refine Oq Vnot (Oq Vpf (KS ?_))
 refine Kc ?_ ?_
 · intro h64
   have h66 := not_true h64
   refine KS ?_
   refine Oq Va (KS ?_)
   have hq := q4 hrr false (by simp only [flqref14_Valid, h16, h21, h26, h31, h33, h36, h39, h42, h48, h53, h58, h64, h66, hg14, hg24, hg46, hg56, hg62, cs4]); subst hq
   exact Kr () rfl (.tmp rfl .nil) [] trivial
 intro h64
 have h69 := not_false h64
 try (have hvs := (RefValid_iff s).1 (by simp only [h16, h21, h26, h31, h33, h36, h39, h42, h48, h53, h58, h64, h69, hg14, hg24, hg46, hg56, hg62]); have hv1 := hvs.n; have hv2 := hvs.tl; have hv3 := hvs.bl; have hv4 := hvs.w)
 try (have hcr := inside_dep hvs (l := st.Cone) (by simp only [h16, h21, h26, h31, h33, h36, h39, h42, h48, h53, h58, h64, h69, hg14, hg24, hg46, hg56, hg62]))
 refine KS ?_
 refine Oq (Vfa fo59_0 0) (Oq (VldF sh3 0) (KS ?_))
 refine Oq Veql (Oq Va (KS ?_))
 refine Kc ?_ ?_
 · intro h71
   have g72 := eq_of_beq h71
   refine KS ?_
   refine Oq (VldA sh27 1) (Oq Vm (Oq (VldA sh59 0) ?_))
   refine letv (flqref14_validDemand s k st) fun rv73 hg74 => ?_
   have hc75 := fn173 s sa1 sk1 sa2 sk2 sa3 sk3 k ka0 kk0 st sta1 stk1 sta2 stk2 sta5 stk5 sta6 stk6 pre pre pre pre pre hvs pre pre hcr rv73 hg74
   refine Oc [2, 3, 4, 5, 6, 7, 8, 9] ca173 hc75 ?_
   rintro - -
   refine Oq Va (KS ?_)
   have hq := q4 hrr rv73 (by simp only [flqref14_Valid, h16, h21, h26, h31, h33, h36, h39, h42, h48, h53, h58, h64, h69, h71, hg14, hg24, hg46, hg56, hg62, hg74, cs4]); subst hq
   exact Kr () rfl (.tmp rfl .nil) [] trivial
 intro h71
 have g76 := ne_of_beq_false h71
 refine KS ?_
 refine Oq Veql (Oq Va (KS ?_))
 refine Kc ?_ ?_
 · intro h77
   have g78 := eq_of_beq h77
   refine KS ?_
   refine Kc ?_ ?_
   · intro h79
     have g80 := eq_of_beq h79
     refine KS ?_
     refine Oq (VldA sh27 1) (Oq Vm (Oq (VldA sh59 0) ?_))
     refine letv (flqref14_validSolve s k st) fun rv81 hg82 => ?_
     have hc83 := fn174 s sa1 sk1 sa2 sk2 sa3 sk3 k ka0 kk0 st sta1 stk1 sta2 stk2 sta5 stk5 sta6 stk6 pre pre pre pre pre hvs pre pre hcr rv81 hg82
     refine Oc [2, 3, 4, 5, 6, 7, 8, 9] ca174 hc83 ?_
     rintro - -
     refine Oq Va (KS ?_)
     have hq := q4 hrr rv81 (by simp only [flqref14_Valid, h16, h21, h26, h31, h33, h36, h39, h42, h48, h53, h58, h64, h69, h71, h77, h79, hg14, hg24, hg46, hg56, hg62, hg82, cs4]); subst hq
     exact Kr () rfl (.tmp rfl .nil) [] trivial
   intro h79
   exact absurd h79 (by simp [h77])
 intro h77
 have g84 := ne_of_beq_false h77
 refine KS ?_
 refine Oq Veql (Oq Va (KS ?_))
 refine Kc ?_ ?_
 · intro h85
   have g86 := eq_of_beq h85
   refine KS ?_
   refine Oq (VldA sh27 1) (Oq Vm (Oq (VldA sh59 0) ?_))
   refine letv (flqref14_validSolve s k st) fun rv87 hg88 => ?_
   have hc89 := fn174 s sa1 sk1 sa2 sk2 sa3 sk3 k ka0 kk0 st sta1 stk1 sta2 stk2 sta5 stk5 sta6 stk6 pre pre pre pre pre hvs pre pre hcr rv87 hg88
   refine Oc [2, 3, 4, 5, 6, 7, 8, 9] ca174 hc89 ?_
   rintro - -
   refine Oq Va (KS ?_)
   have hq := q4 hrr rv87 (by simp only [flqref14_Valid, h16, h21, h26, h31, h33, h36, h39, h42, h48, h53, h58, h64, h69, h71, h77, h85, hg14, hg24, hg46, hg56, hg62, hg88, cs4]); subst hq
   exact Kr () rfl (.tmp rfl .nil) [] trivial
 intro h85
 have g90 := ne_of_beq_false h85
 refine KS ?_
 refine Oq Va (KS ?_)
 have hq := q4 hrr false (by simp only [flqref14_Valid, h16, h21, h26, h31, h33, h36, h39, h42, h48, h53, h58, h64, h69, h71, h77, h85, hg14, hg24, hg46, hg56, hg62, cs4]); subst hq
 exact Kr () rfl (.tmp rfl .nil) [] trivial
theorem fn142 (st : GState) (sta1 : Option Addr) (stk1 : Nat) (sta2 : Option Addr) (stk2 : Nat) (sta5 : Option Addr) (stk5 : Nat) (sta6 : Option Addr) (stk6 : Nat) (hst_0 : i64ok st.Phase) (hst_3 : i64ok st.At) (hst_4 : i64ok st.Edge) (hst_7 : i64ok st.Steps) (rr : GState) (hrr : flqref14_CopyState st = rr) : FT Tryz.prog 142 #[.agg #[vi st.Phase, vl sta1 stk1 st.Cone, vl sta2 stk2 st.Leaf, vi st.At, vi st.Edge, vl sta5 stk5 st.Values, vl sta6 stk6 st.Queue, vi st.Steps]] [S sta1 stk1 st.Cone, S sta2 stk2 st.Leaf, S sta5 stk5 st.Values, S sta6 stk6 st.Queue] (fun g : Value × Value × Value × Value => i64ok rr.Phase ∧ i64ok rr.At ∧ i64ok rr.Edge ∧ i64ok rr.Steps) (fun g => .agg #[vi rr.Phase, g.1, g.2.1, vi rr.At, vi rr.Edge, g.2.2.1, g.2.2.2, vi rr.Steps]) (fun g => [os g.1 rr.Cone, os g.2.1 rr.Leaf, os g.2.2.1 rr.Values, os g.2.2.2 rr.Queue]) := by
 refine FTi Tryz.func142 fun w0 M0 F0 => ?_
 unfold i64ok at hst_0 hst_3 hst_4 hst_7
 refine Fb 8 0 fun hl1 => ?_
 refine Fo 0 fun ho2 => ?_
 refine Fb 1 1 fun hl3 => ?_
 refine Fb 32 2 fun hl4 => ?_
 refine Fb 8 3 fun hl5 => ?_
 refine Fo 3 fun ho6 => ?_
 refine KS ?_
 refine Oa (AbO [vi st.Phase, vl sta1 stk1 st.Cone, vl sta2 stk2 st.Leaf, vi st.At, vi st.Edge, vl sta5 stk5 st.Values, vl sta6 stk6 st.Queue, vi st.Steps]) fun p7 => Oa (Al ze59 [vi 0, .slice none 0 0, .slice none 0 0, vi 0, vi 0, .slice none 0 0, .slice none 0 0, vi 0]) fun p8 => KS ?_
 refine Oa (As0 sl22) fun c9 => ?_
 refine Jo 0 ?_; rintro a10 k11 rfl
 refine Oq (Vfa fo59_1 2) (Oq (VldF sh22 2) ?_)
 refine Jl [0] (Ent.crNil (α := Int) _) ?_
 refine Oa (Ap0 [0, 2] sl22 sl22 sz22) fun c12 => ?_
 refine Jo 0 ?_; rintro a13 k14 rfl
 refine Oq (Vfa fo59_1 2) (Ost (SclF [2] sh22 [vi st.Phase, vl a13 k14 st.Cone, vl sta2 stk2 st.Leaf, vi st.At, vi st.Edge, vl sta5 stk5 st.Values, vl sta6 stk6 st.Queue, vi st.Steps]) (KS ?_))
 refine Oa (As0 sl57) fun c15 => ?_
 refine Jo 0 ?_; rintro a16 k17 rfl
 refine Oq (Vfa fo59_2 1) (Oq (VldF sh57 1) ?_)
 refine Jl [0] (Ent.crNil (α := Bool) _) ?_
 refine Oa (Ap0 [0, 4] sl57 sl57 sz57) fun c18 => ?_
 refine Jo 0 ?_; rintro a19 k20 rfl
 refine Oq (Vfa fo59_2 1) (Ost (SclF [1] sh57 [vi st.Phase, vl a13 k14 st.Cone, vl a19 k20 st.Leaf, vi st.At, vi st.Edge, vl sta5 stk5 st.Values, vl sta6 stk6 st.Queue, vi st.Steps]) (KS ?_))
 refine Oa (As0 sl25) fun c21 => ?_
 refine Jo 0 ?_; rintro a22 k23 rfl
 refine Oq (Vfa fo59_5 1) (Oq (VldF sh25 1) ?_)
 refine Jl [0] (Ent.crNil (α := GSet) _) ?_
 refine Oa (Ap0 [0, 6] sl25 sl25 sz25) fun c24 => ?_
 refine Jo 0 ?_; rintro a25 k26 rfl
 refine Oq (Vfa fo59_5 1) (Ost (SclF [1] sh25 [vi st.Phase, vl a13 k14 st.Cone, vl a19 k20 st.Leaf, vi st.At, vi st.Edge, vl a25 k26 st.Values, vl sta6 stk6 st.Queue, vi st.Steps]) (KS ?_))
 refine Oa (As0 sl22) fun c27 => ?_
 refine Jo 0 ?_; rintro a28 k29 rfl
 refine Oq (Vfa fo59_6 1) (Oq (VldF sh22 1) ?_)
 refine Jl [0] (Ent.crNil (α := Int) _) ?_
 refine Oa (Ap0 [0, 8] sl22 sl22 sz22) fun c30 => ?_
 refine Jo 0 ?_; rintro a31 k32 rfl
 refine Oq (Vfa fo59_6 1) (Ost (SclF [1] sh22 [vi st.Phase, vl a13 k14 st.Cone, vl a19 k20 st.Leaf, vi st.At, vi st.Edge, vl a25 k26 st.Values, vl a31 k32 st.Queue, vi st.Steps]) (KS ?_))
 refine Oq (VldA sh59 0) (Ost (Scl [5] sh59 [vi st.Phase, vl a13 k14 st.Cone, vl a19 k20 st.Leaf, vi st.At, vi st.Edge, vl a25 k26 st.Values, vl a31 k32 st.Queue, vi st.Steps]) (KS ?_))
 have hq := q4 hrr st (by simp only [flqref14_CopyState, cs4]); subst hq
 exact Kr (vl a13 k14 st.Cone, vl a19 k20 st.Leaf, vl a25 k26 st.Values, vl a31 k32 st.Queue) rfl (.cellN 0 rfl sh59 rfl (reads_Cl _ _) rfl .nil) [5, 4, 3, 2] en
theorem fn205 (a : Int) (ha_0 : i64ok a) (rr : Int) (hrr : flqref1_Clamp a = rr) : FT Tryz.prog 205 #[vi a] [] (fun g : Unit => i64ok rr ∧ (0 ≤ rr ∧ rr ≤ 1073741824)) (fun g => vi rr) (fun g => []) := by
 refine FTi Tryz.func205 fun w0 M0 F0 => ?_
 unfold i64ok at ha_0
 refine KS ?_
 refine Oq Va (KS ?_)
 refine Oq Vm (Oq Vmin (Oq Vmax (Oq Va (KS ?_))))
 have hq := q4 hrr (max 0 (min a 1073741824)) (by simp only [flqref1_Clamp, cs4]); subst hq
 exact Kr () rfl (.tmp rfl .nil) [] en
theorem fn143 (a : Int) (b : Int) (ha_0 : i64ok a) (hb_0 : i64ok b) (rr : Int) (hrr : flqref1_Add a b = rr) : FT Tryz.prog 143 #[vi a, vi b] [] (fun g : Unit => i64ok rr) (fun g => vi rr) (fun g => []) := by
 refine FTi Tryz.func143 fun w0 M0 F0 => ?_
 unfold i64ok at ha_0 hb_0
 refine KS ?_
 refine Oq Va (KS ?_)
 refine Oq Vm ?_
 refine letv (flqref1_Clamp a) fun rv1 hg2 => ?_
 have hc3 := fn205 a pre rv1 hg2
 refine Oc [] ca205 hc3 ?_
 rintro - ⟨he4, he5⟩
 unfold i64ok at he4
 refine Oq Vm ?_
 refine letv (flqref1_Clamp b) fun rv6 hg7 => ?_
 have hc8 := fn205 b pre rv6 hg7
 refine Oc [] ca205 hc8 ?_
 rintro - ⟨he9, he10⟩
 unfold i64ok at he9
 refine Oq Vadd ?_
 refine letv (flqref1_Clamp (rv1 + rv6)) fun rv11 hg12 => ?_
 have hc13 := fn205 ((rv1 + rv6)) pre rv11 hg12
 refine Oc [] ca205 hc13 ?_
 rintro - ⟨he14, he15⟩
 unfold i64ok at he14
 refine Oq Va (KS ?_)
 have hq := q4 hrr rv11 (by simp only [flqref1_Add, hg2, hg7, hg12, cs4]); subst hq
 exact Kr () rfl (.tmp rfl .nil) [] en
theorem fn144 (s : GSystem) (sa1 : Option Addr) (sk1 : Nat) (sa2 : Option Addr) (sk2 : Nat) (sa3 : Option Addr) (sk3 : Nat) (k : List GKnown) (ka0 : Option Addr) (kk0 : Nat) (st : GState) (sta1 : Option Addr) (stk1 : Nat) (sta2 : Option Addr) (stk2 : Nat) (sta5 : Option Addr) (stk5 : Nat) (sta6 : Option Addr) (stk6 : Nat) (hs_0 : i64ok s.Width) (hst_0 : i64ok st.Phase) (hst_3 : i64ok st.At) (hst_4 : i64ok st.Edge) (hst_7 : i64ok st.Steps) (hv : VSys s) (hd : DOk s k st) (rr : GState) (hrr : flqref14_demand s k st = rr) : FT Tryz.prog 144 #[.agg #[vi s.Width, vl sa1 sk1 s.Deps, vl sa2 sk2 s.Transfers, vl sa3 sk3 s.Boundary], vl ka0 kk0 k, .agg #[vi st.Phase, vl sta1 stk1 st.Cone, vl sta2 stk2 st.Leaf, vi st.At, vi st.Edge, vl sta5 stk5 st.Values, vl sta6 stk6 st.Queue, vi st.Steps]] [S sa1 sk1 s.Deps, S sa2 sk2 s.Transfers, S sa3 sk3 s.Boundary, S ka0 kk0 k, O sta1 stk1 st.Cone, O sta2 stk2 st.Leaf, O sta5 stk5 st.Values, O sta6 stk6 st.Queue] (fun g : Value × Value × Value × Value => i64ok rr.Phase ∧ i64ok rr.At ∧ i64ok rr.Edge ∧ i64ok rr.Steps) (fun g => .agg #[vi rr.Phase, g.1, g.2.1, vi rr.At, vi rr.Edge, g.2.2.1, g.2.2.2, vi rr.Steps]) (fun g => [sl g.1 rr.Cone, sl g.2.1 rr.Leaf, sl g.2.2.1 rr.Values, sl g.2.2.2 rr.Queue]) := by
 refine FTi Tryz.func144 fun w0 M0 F0 => ?_
 unfold i64ok at hs_0 hst_0 hst_3 hst_4 hst_7
 refine Fb 24 0 fun hl1 => ?_
 refine Fb 88 1 fun hl2 => ?_
 refine Fb 32 2 fun hl3 => ?_
 refine Fb 40 3 fun hl4 => ?_
 refine Fb 8 4 fun hl5 => ?_
 refine Fo 4 fun ho6 => ?_
 refine Fb 1 5 fun hl7 => ?_
 refine Fb 32 6 fun hl8 => ?_
 refine Fb 8 7 fun hl9 => ?_
 refine Fo 7 fun ho10 => ?_
 have hv1 := hv.n
 have hv2 := hv.tl
 have hv3 := hv.bl
 have hv4 := hv.w
 have hv5 := hv.dep_len
 have hcr := hd.b.cr
 have hq0 := hd.at_
 have hq1 := hd.b.lf
 have hq2 := hd.b.cl
 have hq3 := hd.b.vl
 have hq4 := hd.b.ql
 have hq5 := hd.ed
 have hqa := hcr _ (getD_mem (xs := st.Cone) (i := st.At.toNat) (d := 0) (by omega))
 have hfa := rfind_eq k (st.Cone.getD st.At.toNat 0)
 refine KS ?_
 refine Oa (Ab [vi s.Width, vl sa1 sk1 s.Deps, vl sa2 sk2 s.Transfers, vl sa3 sk3 s.Boundary]) fun p11 => Oa (AbO [vi st.Phase, vl sta1 stk1 st.Cone, vl sta2 stk2 st.Leaf, vi st.At, vi st.Edge, vl sta5 stk5 st.Values, vl sta6 stk6 st.Queue, vi st.Steps]) fun p12 => Oa (Al ze59 [vi 0, .slice none 0 0, .slice none 0 0, vi 0, vi 0, .slice none 0 0, .slice none 0 0, vi 0]) fun p13 => KS ?_
 refine Oq (Vfa fo59_1 1) (Oq (VldF sh22 1) (Oq (Vfa fo59_3 1) (Oq (VldF sh3 1) (Oq (Vi sl22 7) ?_))))
 have hb14 := ok1 (i := st.At.toNat) ho6 rng
 refine Oq (VldI sh3 7) (Oq Va ?_)
 refine KT ?_
 refine KjC (γ := List Bool) (fun st2_15 => ⟨[(1, vl ka0 kk0 k), (3, p11), (5, p12), (6, p13), (7, vi (st.Cone.getD st.At.toNat 0))], [Cl p13 [vi 0, .slice none 0 0, .slice none 0 0, vi 0, vi 0, .slice none 0 0, .slice none 0 0, vi 0], Cl p12 [vi st.Phase, vl sta1 stk1 st.Cone, vl sta2 stk2 st.Leaf, vi st.At, vi st.Edge, vl sta5 stk5 st.Values, vl sta6 stk6 st.Queue, vi st.Steps], pv p11 [vi s.Width, vl sa1 sk1 s.Deps, vl sa2 sk2 s.Transfers, vl sa3 sk3 s.Boundary], S sa1 sk1 s.Deps, S sa2 sk2 s.Transfers, S sa3 sk3 s.Boundary, S ka0 kk0 k, O sta1 stk1 st.Cone, os (vl sta2 stk2 st.Leaf) st2_15, O sta5 stk5 st.Values, O sta6 stk6 st.Queue], flqref14_demand_J0 s k st st2_15 = rr ∧ BOk s k (GState.mk st.Phase st.Cone st2_15 st.At st.Edge st.Values st.Queue st.Steps), 0⟩) ?_ ?_
 · skip
   refine KS ?_
   refine Oq (Vfa fo59_4 1) (Oq (VldF sh3 1) (Oq Veql (Oq Vm ?_)))
   refine Js 20 ?_ ?_
   · intro h18
     have g19 := eq_of_beq h18
     refine Oq Vm (Oq Vm ?_)
     refine letv (flqref14_find k (st.Cone.getD st.At.toNat 0)) fun rv20 hg21 => ?_
     have hc22 := fn132 k ka0 kk0 ((st.Cone.getD st.At.toNat 0)) pre rv20 hg21
     refine Oc [6] ca132 hc22 ?_
     rintro - ⟨he23, he24⟩
     unfold i64ok at he23
     refine Oq Vgeq (Oq Vpt (KS ?_))
     refine Kc ?_ ?_
     · intro h25
       have g26 := of_decide_eq_true h25
       refine KS ?_
       refine Oq (Vfa fo59_2 1) (Oq (VldF sh57 1) (Oq (Vfa fo59_3 1) (Oq (VldF sh3 1) (Oq (Vi sl57 8) (Ost (SoB [8] sh4) (KS ?_))))))
       exact Kg (st.Leaf.set st.At.toNat true) [1, 1, 1, 2, 3, 4, 5, 6, 0, 5, 5] ⟨(q3 hrr (by simp only [flqref14_demand, h18, h25, hg21, cs4])), (by first | assumption | exact hd.b0 _ _ _ _ | exact hd.b1 _ _ _ _ (by omega))⟩
     intro h25
     have g27 := of_decide_eq_false h25
     refine KS ?_
     exact Kg st.Leaf [0, 0, 0, 1, 2, 3, 4, 5, 5, 5, 5] ⟨(q3 hrr (by simp only [flqref14_demand, h18, h25, hg21, cs4])), (by first | assumption | exact hd.b0 _ _ _ _ | exact hd.b1 _ _ _ _ (by omega))⟩
   intro h18
   have g28 := ne_of_beq_false h18
   refine Osk (Osk (Osk (Osk (Oq Vpf (KS ?_)))))
   refine Kf ?_
   refine KS ?_
   exact Kg st.Leaf [0, 0, 0, 1, 2, 3, 4, 5, 5, 5, 5] ⟨(q3 hrr (by simp only [flqref14_demand, h18, cs4])), (by first | assumption | exact hd.b0 _ _ _ _ | exact hd.b1 _ _ _ _ (by omega))⟩
 rintro st2_15 ⟨hM16, hv17⟩
 refine JJ_nx fun _ _ hL hA => ?_; dsimp only at hL hA; subst hL hA
 refine Fb 24 3 fun hl29 => ?_
 refine Fb 88 4 fun hl30 => ?_
 refine Fb 32 5 fun hl31 => ?_
 refine Fb 40 6 fun hl32 => ?_
 refine Fb 8 7 fun hl33 => ?_
 refine Fo 7 fun ho34 => ?_
 refine Fb 1 8 fun hl35 => ?_
 refine Fl 8 fun hn36 => ?_
 refine Fb 32 9 fun hl37 => ?_
 refine Fb 8 10 fun hl38 => ?_
 refine Fo 10 fun ho39 => ?_
 have hbk := hv17
 have hbl : st2_15.length = st.Cone.length := hbk.lf
 refine KT ?_
 refine KjC (γ := List Bool) (fun st2_40 => ⟨[(1, vl ka0 kk0 k), (3, p11), (5, p12), (6, p13)], [Cl p13 [vi 0, .slice none 0 0, .slice none 0 0, vi 0, vi 0, .slice none 0 0, .slice none 0 0, vi 0], Cl p12 [vi st.Phase, vl sta1 stk1 st.Cone, vl sta2 stk2 st.Leaf, vi st.At, vi st.Edge, vl sta5 stk5 st.Values, vl sta6 stk6 st.Queue, vi st.Steps], pv p11 [vi s.Width, vl sa1 sk1 s.Deps, vl sa2 sk2 s.Transfers, vl sa3 sk3 s.Boundary], S sa1 sk1 s.Deps, S sa2 sk2 s.Transfers, S sa3 sk3 s.Boundary, S ka0 kk0 k, O sta1 stk1 st.Cone, os (vl sta2 stk2 st.Leaf) st2_40, O sta5 stk5 st.Values, O sta6 stk6 st.Queue], flqref14_demand_J1 s k st st2_40 = rr ∧ BOk s k (GState.mk st.Phase st.Cone st2_40 st.At st.Edge st.Values st.Queue st.Steps), 0⟩) ?_ ?_
 · skip
   refine Jp 1 fun hp43 => ?_
   refine bool_split (!(st2_15.getD st.At.toNat false)) ?_ ?_
   · intro h44
     have h46 := not_true h44
     refine JJ_peekL ((st.Cone.getD st.At.toNat 0) : Int).toNat 4 rfl rng fun a48 k49 => ?_
     refine Fb 8 1 fun hl50 => ?_
     refine Fo 1 fun ho51 => ?_
     refine Kq [0, 1, 0, 4, 15, 31, 63, 127, 255, 511, 255, 1279, 255, 7423, 15615, 31999, 65535, 131071] fmix ?_
     refine Qv [2] (Vfa fo59_2 0) (Qv [4] (VldF sh57 0) (Qv [2] (Vfa fo59_3 0) (Qv [4] (VldF sh3 0) (Qv [11] (Vi sl57 0) (Qv [11] (VldB sh4 0) (Qb h44 [] Vnot (Qv [] Vm (Qv [2] (Vfa fo59_4 0) (Qv [4] (VldF sh3 0) ?_)))))))))
     refine Qv [5] (Vfa fo27_1 0) (Qv [5] (VldF sh23 0) (Qv [] Vm (Qv [6] (Vi sl23 0) (Qv [0] (Vld sh22 0) (Qv [] (Vlen sl22) (Qv [] Vlss (Qv [] Vpt ?_)))))))
     refine Qn ⟨by kernel_rfl, ?_⟩
     refine Kc ?_ ?_
     · intro h52
       have g53 := of_decide_eq_true h52
       refine KS ?_
       refine Kq [0, 1, 0, 7, 15, 0, 32, 127, 255, 511] fmix ?_
       refine Qv [5] (Vfa fo27_1 0) (Qv [5] (VldF sh23 0) (Qv [] Vm (Qv [6] (Vi sl23 0) (Qv [0] (Vld sh22 0) (Qv [2] (Vfa fo59_4 0) (Qv [4] (VldF sh3 0) (Qv [1] (Vi sl22 0) ?_)))))))
       have hb54 := ok1 (i := st.Edge.toNat) ho51 rng
       refine Qv [1] (VldI sh3 0) (Qv [] Va ?_)
       refine Qn ⟨by kernel_rfl, ?_⟩
       refine KS ?_
       refine Oq (Vfa fo59_1 4) (Oq (VldF sh22 4) (Oq Vm ?_))
       refine letv (flqref7_Has st.Cone ((s.Deps.getD ((st.Cone.getD st.At.toNat 0) : Int).toNat []).getD st.Edge.toNat 0)) fun rv55 hg56 => ?_
       refine Oc [10] ca99 (FT_borrow (A := _) (fun _ _ h => by cases h) (FT_ent (Ent.take (is := [0]) rfl) (fn99 st.Cone sta1 stk1 (((s.Deps.getD ((st.Cone.getD st.At.toNat 0) : Int).toNat []).getD st.Edge.toNat 0)) pre rv55 hg56))) ?_ (ht := rfl)
       rintro - -
       refine Oq Vnot (KS ?_)
       refine Kc ?_ ?_
       · intro h57
         have h59 := not_true h57
         refine KS ?_
         refine Oq (Vfa fo59_1 5) (Oq (VldF sh22 5) (Oq Vm (Oa (AsV sl22 sz22 [vi ((s.Deps.getD ((st.Cone.getD st.At.toNat 0) : Int).toNat []).getD st.Edge.toNat 0)] [vi ((s.Deps.getD ((st.Cone.getD st.At.toNat 0) : Int).toNat []).getD st.Edge.toNat 0)]) fun c61 => ?_)))
         refine Jo 0 ?_; rintro a62 k63 rfl
         refine Jl [0] (Ent.crInt _ [((s.Deps.getD ((st.Cone.getD st.At.toNat 0) : Int).toNat []).getD st.Edge.toNat 0)] _ _ rfl rfl (by intro x hx; rw [List.mem_singleton] at hx; subst hx; unfold i64ok; omega) (Nat.le_of_ble_eq_true rfl)) ?_
         refine Oa (ApO [1, 0] sl22 sl22 sz22) fun c64 => ?_
         refine Jo 0 ?_; rintro a65 k66 rfl
         refine Fb 8 0 fun hl67 => ?_
         refine Fo 0 fun ho68 => ?_
         have hn69 := la st.Cone ([((s.Deps.getD ((st.Cone.getD st.At.toNat 0) : Int).toNat []).getD st.Edge.toNat 0)] : List Int)
         refine Oq (Vfa fo59_1 5) (Ost (SclF [5] sh22 [vi st.Phase, .slice a65 ((st.Cone ++ [((s.Deps.getD ((st.Cone.getD st.At.toNat 0) : Int).toNat []).getD st.Edge.toNat 0)]).length) k66, vl sta2 stk2 st.Leaf, vi st.At, vi st.Edge, vl sta5 stk5 st.Values, vl sta6 stk6 st.Queue, vi st.Steps]) (KS ?_))
         refine Oq (Vfa fo59_2 0) (Oq (VldF sh57 0) (Oa (AsV sl57 sz57 [vb false] [vb false]) fun c70 => ?_))
         refine Jo 0 ?_; rintro a71 k72 rfl
         refine Jl [0] (Ent.cr1 (α := Bool) (A := []) _ false _ (Nat.le_of_ble_eq_true rfl) (fun _ => rfl)) ?_
         refine Oa (ApO [12, 0] sl57 sl57 sz57) fun c73 => ?_
         refine Jo 0 ?_; rintro a74 k75 rfl
         refine Fb 1 0 fun hl76 => ?_
         have hn77 := la st2_15 ([false] : List Bool)
         refine Oq (Vfa fo59_2 1) (Ost (SclF [1] sh57 [vi st.Phase, .slice a65 ((st.Cone ++ [((s.Deps.getD ((st.Cone.getD st.At.toNat 0) : Int).toNat []).getD st.Edge.toNat 0)]).length) k66, vl a74 k75 (st2_15 ++ [false]), vi st.At, vi st.Edge, vl sta5 stk5 st.Values, vl sta6 stk6 st.Queue, vi st.Steps]) (KS ?_))
         refine Oq (Vfa fo59_4 0) (Oq (VldF sh3 0) (Oq Vadd (Oq (Vfa fo59_4 0) (Ost (SclF [0] sh3 [vi st.Phase, .slice a65 ((st.Cone ++ [((s.Deps.getD ((st.Cone.getD st.At.toNat 0) : Int).toNat []).getD st.Edge.toNat 0)]).length) k66, vl a74 k75 (st2_15 ++ [false]), vi st.At, vi (st.Edge + 1), vl sta5 stk5 st.Values, vl sta6 stk6 st.Queue, vi st.Steps]) (KS ?_)))))
         refine Oq (VldA sh59 0) (Ost (Scl [6] sh59 [vi st.Phase, .slice a65 ((st.Cone ++ [((s.Deps.getD ((st.Cone.getD st.At.toNat 0) : Int).toNat []).getD st.Edge.toNat 0)]).length) k66, vl a74 k75 (st2_15 ++ [false]), vi st.At, vi (st.Edge + 1), vl sta5 stk5 st.Values, vl sta6 stk6 st.Queue, vi st.Steps]) (KS ?_))
         refine Jl [3] (Ent.freeze _ _) ?_
         refine Jl [3] (Ent.freeze _ _) ?_
         refine Jl [12] (Ent.freeze _ _) ?_
         refine Jl [13] (Ent.freeze _ _) ?_
         have hq := q4 hM16 (GState.mk st.Phase (st.Cone ++ [((s.Deps.getD ((st.Cone.getD st.At.toNat 0) : Int).toNat []).getD st.Edge.toNat 0)]) (st2_15 ++ [false]) st.At (st.Edge + 1) st.Values st.Queue st.Steps) (by simp only [flqref14_demand_J0, h44, h46, h52, h57, h59, hg56, cs4]); subst hq
         exact Kr (.slice a65 ((st.Cone ++ [((s.Deps.getD ((st.Cone.getD st.At.toNat 0) : Int).toNat []).getD st.Edge.toNat 0)]).length) k66, vl a74 k75 (st2_15 ++ [false]), vl sta5 stk5 st.Values, vl sta6 stk6 st.Queue) rfl (.cellN 4 rfl sh59 rfl (reads_Cl _ _) rfl .nil) [3, 2, 1, 0] en
       intro h57
       have h79 := not_false h57
       refine KS ?_
       refine Oq (Vfa fo59_4 5) (Oq (VldF sh3 5) (Oq Vadd (Oq (Vfa fo59_4 5) (Ost (SclF [5] sh3 [vi st.Phase, vl sta1 stk1 st.Cone, vl sta2 stk2 st.Leaf, vi st.At, vi (st.Edge + 1), vl sta5 stk5 st.Values, vl sta6 stk6 st.Queue, vi st.Steps]) (KS ?_)))))
       refine Oq (VldA sh59 0) (Ost (Scl [5] sh59 [vi st.Phase, vl sta1 stk1 st.Cone, vl sta2 stk2 st.Leaf, vi st.At, vi (st.Edge + 1), vl sta5 stk5 st.Values, vl sta6 stk6 st.Queue, vi st.Steps]) (KS ?_))
       refine Jl [2] (Ent.freeze _ _) ?_
       refine Jl [11] (Ent.freeze _ _) ?_
       refine Jl [12] (Ent.freeze _ _) ?_
       refine Jl [13] (Ent.freeze _ _) ?_
       have hq := q4 hM16 (GState.mk st.Phase st.Cone st2_15 st.At (st.Edge + 1) st.Values st.Queue st.Steps) (by simp only [flqref14_demand_J0, h44, h46, h52, h57, h79, hg56, cs4]); subst hq
       exact Kr (vl sta1 stk1 st.Cone, vl sta2 stk2 st.Leaf, vl sta5 stk5 st.Values, vl sta6 stk6 st.Queue) rfl (.cellN 4 rfl sh59 rfl (reads_Cl _ _) rfl .nil) [3, 2, 1, 0] en
     intro h52
     have g81 := of_decide_eq_false h52
     refine KS ?_
     exact Kg st2_15 [3, 3, 3, 4, 5, 6, 7, 8, 8, 8, 8] ⟨(q3 hM16 (by simp only [flqref14_demand_J0, h44, h46, h52, cs4])), (by first | assumption | exact hd.b0 _ _ _ _ | exact hd.b1 _ _ _ _ (by omega))⟩
   intro h44
   have h83 := not_false h44
   refine Kq [0, 1, 0, 4, 15, 31, 63, 127, 255, 511, 255, 1279, 255, 7423, 15615, 31999, 65535, 131071] fmix ?_
   refine Qv [0] (Vfa fo59_2 0) (Qv [2] (VldF sh57 0) (Qv [0] (Vfa fo59_3 0) (Qv [2] (VldF sh3 0) (Qv [9] (Vi sl57 0) (Qv [9] (VldB sh4 0) (Qb h44 [] Vnot (Qv [] Vm (Qs (Qs ?_)))))))))
   refine Qs (Qs (Qs (Qs (Qs (Qs (Qs (Qv [] Vpf ?_)))))))
   refine Qn ⟨by kernel_rfl, ?_⟩
   refine Kf ?_
   refine KS ?_
   exact Kg st2_15 [1, 1, 1, 2, 3, 4, 5, 6, 6, 6, 6] ⟨(q3 hM16 (by simp only [flqref14_demand_J0, h44, h83, cs4])), (by first | assumption | exact hd.b0 _ _ _ _ | exact hd.b1 _ _ _ _ (by omega))⟩
 rintro st2_40 ⟨hM41, hv42⟩
 refine JJ_nx fun _ _ hL hA => ?_; dsimp only at hL hA; subst hL hA
 refine Fb 24 3 fun hl85 => ?_
 refine Fb 88 4 fun hl86 => ?_
 refine Fb 32 5 fun hl87 => ?_
 refine Fb 40 6 fun hl88 => ?_
 refine Fb 8 7 fun hl89 => ?_
 refine Fo 7 fun ho90 => ?_
 refine Fb 1 8 fun hl91 => ?_
 refine Fl 8 fun hn92 => ?_
 refine Fb 32 9 fun hl93 => ?_
 refine Fb 8 10 fun hl94 => ?_
 refine Fo 10 fun ho95 => ?_
 have hbk := hv42
 have hbl : st2_40.length = st.Cone.length := hbk.lf
 refine KS ?_
 refine Oq (Vfa fo59_3 1) (Oq (VldF sh3 1) (Oq Vadd (Oq (Vfa fo59_3 1) (Ost (SclF [1] sh3 [vi st.Phase, vl sta1 stk1 st.Cone, vl sta2 stk2 st.Leaf, vi (st.At + 1), vi st.Edge, vl sta5 stk5 st.Values, vl sta6 stk6 st.Queue, vi st.Steps]) (Oq (Vfa fo59_4 0) (Ost (SclF [0] sh3 [vi st.Phase, vl sta1 stk1 st.Cone, vl sta2 stk2 st.Leaf, vi (st.At + 1), vi 0, vl sta5 stk5 st.Values, vl sta6 stk6 st.Queue, vi st.Steps]) (KS ?_)))))))
 refine Oq (Vfa fo59_3 0) (Oq (VldF sh3 0) (Oq (Vfa fo59_1 0) (Oq (VldF sh22 0) (Oq (Vlen sl22) (Oq Vlss (KS ?_))))))
 refine Kc ?_ ?_
 · intro h96
   have g97 := of_decide_eq_true h96
   refine KS ?_
   refine Oq (VldA sh59 0) (Ost (Scl [1] sh59 [vi st.Phase, vl sta1 stk1 st.Cone, vl sta2 stk2 st.Leaf, vi (st.At + 1), vi 0, vl sta5 stk5 st.Values, vl sta6 stk6 st.Queue, vi st.Steps]) (KS ?_))
   refine Jl [7] (Ent.freeze _ _) ?_
   refine Jl [8] (Ent.freeze _ _) ?_
   refine Jl [9] (Ent.freeze _ _) ?_
   refine Jl [10] (Ent.freeze _ _) ?_
   have hq := q4 hM41 (GState.mk st.Phase st.Cone st2_40 (st.At + 1) 0 st.Values st.Queue st.Steps) (by simp only [flqref14_demand_J1, h96, cs4]); subst hq
   exact Kr (vl sta1 stk1 st.Cone, vl sta2 stk2 st.Leaf, vl sta5 stk5 st.Values, vl sta6 stk6 st.Queue) rfl (.cellN 4 rfl sh59 rfl (reads_Cl _ _) rfl .nil) [3, 2, 1, 0] en
 intro h96
 have g98 := of_decide_eq_false h96
 refine KS ?_
 refine Oq (Vfa fo59_0 0) (Ost (SclF [0] sh3 [vi 2, vl sta1 stk1 st.Cone, vl sta2 stk2 st.Leaf, vi (st.At + 1), vi 0, vl sta5 stk5 st.Values, vl sta6 stk6 st.Queue, vi st.Steps]) (Oq (Vfa fo59_3 0) (Ost (SclF [0] sh3 [vi 2, vl sta1 stk1 st.Cone, vl sta2 stk2 st.Leaf, vi 0, vi 0, vl sta5 stk5 st.Values, vl sta6 stk6 st.Queue, vi st.Steps]) (KS ?_))))
 refine Oq Va (KS ?_)
 refine Kl (γ := Nat × List GSet × List Int × Int × Option Addr × Nat × Option Addr × Nat) (fun (r99, st5_100, st6_101, i_102, a103, k104, a105, k106) => ⟨[(1, vl ka0 kk0 k), (3, p11), (5, p12), (6, p13), (9, vi i_102)], [O a105 k106 st6_101, O a103 k104 st5_100, Cl p12 [vi 2, vl sta1 stk1 st.Cone, vl sta2 stk2 st.Leaf, vi 0, vi 0, vl a103 k104 st5_100, vl a105 k106 st6_101, vi st.Steps], Cl p13 [vi 0, .slice none 0 0, .slice none 0 0, vi 0, vi 0, .slice none 0 0, .slice none 0 0, vi 0], pv p11 [vi s.Width, vl sa1 sk1 s.Deps, vl sa2 sk2 s.Transfers, vl sa3 sk3 s.Boundary], S sa1 sk1 s.Deps, S sa2 sk2 s.Transfers, S sa3 sk3 s.Boundary, S ka0 kk0 k, O sta1 stk1 st.Cone, os (vl sta2 stk2 st.Leaf) st2_40], flqref14_demand_L0 s k st st2_40 r99 st5_100 st6_101 i_102 = flqref14_demand_L0 s k st st2_40 (((st.Cone.length : Int) - 0).toNat) st.Values st.Queue 0 ∧ r99 = ((st.Cone.length : Int) - i_102).toNat ∧ (0 : Int) ≤ i_102 ∧ i_102 ≤ (st.Cone.length : Int) ∧ (-9223372036854775808 ≤ i_102 ∧ i_102 ≤ 9223372036854775807) ∧ (st5_100.length : Int) = i_102 ∧ (st6_101.length : Int) = i_102, r99⟩) (((st.Cone.length : Int) - 0).toNat, st.Values, st.Queue, 0, sta5, stk5, sta6, stk6) [10, 9, 0, 0, 0, 1, 2, 3, 4, 5, 5] ⟨rfl, rfl, (by omega), (by omega), (by omega), iv0, iv0⟩ ?_
 rintro ⟨r99, st5_100, st6_101, i_102, a103, k104, a105, k106⟩ ⟨hM107, hr108, hi109, hi110, hk111, hv112, hv113⟩
 refine JJ_nx fun _ _ hL hA => ?_; dsimp only at hL hA; subst hL hA
 refine Fb 8 0 fun hl114 => ?_
 refine Fo 0 fun ho115 => ?_
 refine Fb 32 1 fun hl116 => ?_
 refine Fb 24 5 fun hl117 => ?_
 refine Fb 88 6 fun hl118 => ?_
 refine Fb 32 7 fun hl119 => ?_
 refine Fb 40 8 fun hl120 => ?_
 refine Fb 8 9 fun hl121 => ?_
 refine Fo 9 fun ho122 => ?_
 refine Fb 1 10 fun hl123 => ?_
 refine Fl 10 fun hn124 => ?_
 refine KS ?_
 refine Oq Vm (Oq (Vfa fo59_1 2) (Oq (VldF sh22 2) (Oq (Vlen sl22) (Oq Vlss (KS ?_)))))
 refine Kc ?_ ?_
 · intro h125
   have g126 := of_decide_eq_true h125
   have hq := hcr _ (getD_mem (xs := st.Cone) (i := i_102.toNat) (d := 0) (by omega))
   obtain ⟨r127, rfl⟩ := scc (n := r99) (by omega)
   refine KS ?_
   refine Jp 2 fun hp128 => ?_
   refine JJ_peek_GSet ((st.Cone.getD i_102.toNat 0) : Int).toNat 8 rfl rng fun a129 k130 hb131 => ?_
   unfold i64ok at hb131
   refine Fb 8 1 fun hl132 => ?_
   refine JK_drawK [0, 1, 0, 4, 0, 28, 60, 127, 255, 0, 1023] fmix ?_
   refine Dv [7] (Vfa fo27_3 0) (Dv [7] (VldF sh25 0) (Dv [2] (Vfa fo59_1 0) (Dv [5] (VldF sh22 0) (Dv [] Vm (Dv [12] (Vi sl22 0) ?_)))))
   have hb133 := ok1 (i := i_102.toNat) ho122 rng
   refine Dv [12] (VldI sh3 0) (Dv [10] (Vi sl25 0) (Dv [0] (VldA sh42 0) (Dx [] [] [0] (fun G => (G.g 9 0)) [fun G => Cl (G.g 9 0) [vi 0, .slice none 0 0]] (fun G => xA (Al ze42 [vi 0, .slice none 0 0])) (Dx0 [14] [14] [0] [fun G => Cl (G.g 9 0) [vi ((s.Boundary.getD ((st.Cone.getD i_102.toNat 0) : Int).toNat default).Width), .slice a129 (((s.Boundary.getD ((st.Cone.getD i_102.toNat 0) : Int).toNat default).Words).length) k130]] (fun G => xS (Scl [0] sh42 [vi ((s.Boundary.getD ((st.Cone.getD i_102.toNat 0) : Int).toNat default).Width), .slice a129 (((s.Boundary.getD ((st.Cone.getD i_102.toNat 0) : Int).toNat default).Words).length) k130])) ?_))))
   refine Dn ⟨by kernel_rfl, fun G => ?_⟩
   refine Jw2 [(1, vl ka0 kk0 k), (3, p11), (5, p12), (6, p13), (9, vi i_102), (10, (G.g 9 0))] [0, 1, 2, 3, 4, 5, 6, 7, 8, 9, 10, 11, 12, 13] [Cl (G.g 9 0) [vi ((s.Boundary.getD ((st.Cone.getD i_102.toNat 0) : Int).toNat default).Width), .slice a129 (((s.Boundary.getD ((st.Cone.getD i_102.toNat 0) : Int).toNat default).Words).length) k130]] ?_
   generalize G.g 9 0 = p134
   refine Jk [0, 1, 3, 3, 3, 3, 3, 4, 5, 6, 7, 8, 8, 8] ?_
   refine KS ?_
   refine Oq (Vfa fo59_2 4) (Oq (VldF sh57 4) (Oq Vm (Oq (Vi sl57 12) (Oq (VldB sh4 12) (KS ?_)))))
   refine Kc ?_ ?_
   · intro h135
     have hlf := hbk.leaf i_102.toNat (by show _ < st.Cone.length; omega) h135
     have hfe := rfind_eq k (st.Cone.getD i_102.toNat 0)
     dsimp only at hlf
     refine KS ?_
     refine Oq Vm (Oq Vm (Oq (Vfa fo59_1 4) (Oq (VldF sh22 4) (Oq Vm (Oq (Vi sl22 11) ?_)))))
     have hb137 := ok1 (i := i_102.toNat) ho122 rng
     refine Oq (VldI sh3 11) ?_
     refine letv (flqref14_find k (st.Cone.getD i_102.toNat 0)) fun rv138 hg139 => ?_
     have hc140 := fn132 k ka0 kk0 ((st.Cone.getD i_102.toNat 0)) pre rv138 hg139
     refine Oc [10] ca132 hc140 ?_
     rintro - ⟨he141, he142⟩
     unfold i64ok at he141
     refine Oq (Vi sl53 10) ?_
     refine JJ_peek_GKnown rv138.toNat 10 rfl rng fun a143 k144 hb145 hb146 => ?_
     unfold i64ok at hb145 hb146
     refine Fb 8 1 fun hl147 => ?_
     refine Oq (Vfa fo67_1 0) (Oq (VldG sh42 0 [vi (((k.getD rv138.toNat default).Value).Width), vl a143 k144 (((k.getD rv138.toNat default).Value).Words)]) (Ost (Scl [15] sh42 [vi (((k.getD rv138.toNat default).Value).Width), vl a143 k144 (((k.getD rv138.toNat default).Value).Words)]) (KS ?_)))
     refine Oq (Vfa fo59_5 7) (Oq (VldF sh25 7) (Oq (VldA sh42 0) (Oa (AsV sl25 sz25 [.agg #[vi (((k.getD rv138.toNat default).Value).Width), vl a143 k144 (((k.getD rv138.toNat default).Value).Words)]] [vi (((k.getD rv138.toNat default).Value).Width), vl a143 k144 (((k.getD rv138.toNat default).Value).Words)]) fun c148 => ?_)))
     refine Jo 0 ?_; rintro a149 k150 rfl
     refine Jl [0, 2] (Ent.cr1 (α := GSet) (A := [S a143 k144 (((k.getD rv138.toNat default).Value).Words)]) _ ((k.getD rv138.toNat default).Value) _ (Nat.le_of_ble_eq_true rfl) (fun h => ⟨_, rfl, (by unfold i64ok; first | omega | (dsimp only; omega)), sepAll_get (i := 0) rfl h⟩)) ?_
     refine Oa (ApO [8, 0] sl25 sl25 sz25) fun c151 => ?_
     refine Jo 0 ?_; rintro a152 k153 rfl
     refine Fb 32 0 fun hl154 => ?_
     have hn155 := la st5_100 ([((k.getD rv138.toNat default).Value)] : List GSet)
     refine Oq (Vfa fo59_5 8) (Ost (SclF [8] sh25 [vi 2, vl sta1 stk1 st.Cone, vl sta2 stk2 st.Leaf, vi 0, vi 0, vl a152 k153 (st5_100 ++ [((k.getD rv138.toNat default).Value)]), vl a105 k106 st6_101, vi st.Steps]) (KS ?_))
     refine Oq (Vfa fo59_6 0) (Oq (VldF sh22 0) (Oq (Vfa fo59_1 0) (Oq (VldF sh22 0) (Oq (Vlen sl22) (Oq Vsub (Oq Vm (Oq Vsub (Oa (AsV sl22 sz22 [vi (((st.Cone.length : Int) - 1) - i_102)] [vi (((st.Cone.length : Int) - 1) - i_102)]) fun c156 => ?_))))))))
     refine Jo 0 ?_; rintro a157 k158 rfl
     refine Jl [0] (Ent.crInt _ [(((st.Cone.length : Int) - 1) - i_102)] _ _ rfl rfl (by intro x hx; rw [List.mem_singleton] at hx; subst hx; unfold i64ok; omega) (Nat.le_of_ble_eq_true rfl)) ?_
     refine Oa (ApO [9, 0] sl22 sl22 sz22) fun c159 => ?_
     refine Jo 0 ?_; rintro a160 k161 rfl
     refine Fb 8 0 fun hl162 => ?_
     refine Fo 0 fun ho163 => ?_
     have hn164 := la st6_101 ([(((st.Cone.length : Int) - 1) - i_102)] : List Int)
     refine Oq (Vfa fo59_6 1) (Ost (SclF [1] sh22 [vi 2, vl sta1 stk1 st.Cone, vl sta2 stk2 st.Leaf, vi 0, vi 0, vl a152 k153 (st5_100 ++ [((k.getD rv138.toNat default).Value)]), .slice a160 ((st6_101 ++ [(((st.Cone.length : Int) - 1) - i_102)]).length) k161, vi st.Steps]) (KS ?_))
     refine Oq Vm (Oq Vadd (Oq Va (KS ?_)))
     exact Kg (r127, (st5_100 ++ [((k.getD rv138.toNat default).Value)]), (st6_101 ++ [(((st.Cone.length : Int) - 1) - i_102)]), (i_102 + 1), a152, k153, a160, k161) [1, 1, 0, 6, 6, 7, 8, 9, 10, 11, 11] ⟨(q3 hM107 (by simp only [flqref14_demand_L0, h96, h125, h135, hg139, cs4])), (by omega), (by omega), (by omega), (by omega), iv1, iv1⟩
   intro h135
   refine KS ?_
   refine Oq (Vfa fo59_5 4) (Oq (VldF sh25 4) (Oq (VldA sh42 13) (Oa (AsV sl25 sz25 [.agg #[vi ((s.Boundary.getD ((st.Cone.getD i_102.toNat 0) : Int).toNat default).Width), .slice a129 (((s.Boundary.getD ((st.Cone.getD i_102.toNat 0) : Int).toNat default).Words).length) k130]] [vi ((s.Boundary.getD ((st.Cone.getD i_102.toNat 0) : Int).toNat default).Width), .slice a129 (((s.Boundary.getD ((st.Cone.getD i_102.toNat 0) : Int).toNat default).Words).length) k130]) fun c166 => ?_)))
   refine Jo 0 ?_; rintro a167 k168 rfl
   refine Jl [0, 1] (Ent.cr1 (α := GSet) (A := [S a129 k130 ((s.Boundary.getD ((st.Cone.getD i_102.toNat 0) : Int).toNat default).Words)]) _ (s.Boundary.getD ((st.Cone.getD i_102.toNat 0) : Int).toNat default) _ (Nat.le_of_ble_eq_true rfl) (fun h => ⟨_, rfl, (by unfold i64ok; first | omega | (dsimp only; omega)), sepAll_get (i := 0) rfl h⟩)) ?_
   refine Oa (ApO [5, 0] sl25 sl25 sz25) fun c169 => ?_
   refine Jo 0 ?_; rintro a170 k171 rfl
   refine Fb 32 0 fun hl172 => ?_
   have hn173 := la st5_100 ([(s.Boundary.getD ((st.Cone.getD i_102.toNat 0) : Int).toNat default)] : List GSet)
   refine Oq (Vfa fo59_5 5) (Ost (SclF [5] sh25 [vi 2, vl sta1 stk1 st.Cone, vl sta2 stk2 st.Leaf, vi 0, vi 0, .slice a170 ((st5_100 ++ [(s.Boundary.getD ((st.Cone.getD i_102.toNat 0) : Int).toNat default)]).length) k171, vl a105 k106 st6_101, vi st.Steps]) (KS ?_))
   refine Oq (Vfa fo59_6 0) (Oq (VldF sh22 0) (Oq (Vfa fo59_1 0) (Oq (VldF sh22 0) (Oq (Vlen sl22) (Oq Vsub (Oq Vm (Oq Vsub (Oa (AsV sl22 sz22 [vi (((st.Cone.length : Int) - 1) - i_102)] [vi (((st.Cone.length : Int) - 1) - i_102)]) fun c174 => ?_))))))))
   refine Jo 0 ?_; rintro a175 k176 rfl
   refine Jl [0] (Ent.crInt _ [(((st.Cone.length : Int) - 1) - i_102)] _ _ rfl rfl (by intro x hx; rw [List.mem_singleton] at hx; subst hx; unfold i64ok; omega) (Nat.le_of_ble_eq_true rfl)) ?_
   refine Oa (ApO [6, 0] sl22 sl22 sz22) fun c177 => ?_
   refine Jo 0 ?_; rintro a178 k179 rfl
   refine Fb 8 0 fun hl180 => ?_
   refine Fo 0 fun ho181 => ?_
   have hn182 := la st6_101 ([(((st.Cone.length : Int) - 1) - i_102)] : List Int)
   refine Oq (Vfa fo59_6 1) (Ost (SclF [1] sh22 [vi 2, vl sta1 stk1 st.Cone, vl sta2 stk2 st.Leaf, vi 0, vi 0, .slice a170 ((st5_100 ++ [(s.Boundary.getD ((st.Cone.getD i_102.toNat 0) : Int).toNat default)]).length) k171, .slice a178 ((st6_101 ++ [(((st.Cone.length : Int) - 1) - i_102)]).length) k179, vi st.Steps]) (KS ?_))
   refine Oq Vm (Oq Vadd (Oq Va (KS ?_)))
   exact Kg (r127, (st5_100 ++ [(s.Boundary.getD ((st.Cone.getD i_102.toNat 0) : Int).toNat default)]), (st6_101 ++ [(((st.Cone.length : Int) - 1) - i_102)]), (i_102 + 1), a170, k171, a178, k179) [1, 1, 0, 3, 3, 4, 5, 6, 7, 8, 8] ⟨(q3 hM107 (by simp only [flqref14_demand_L0, h96, h125, h135, cs4])), (by omega), (by omega), (by omega), (by omega), iv1, iv1⟩
 intro h125
 have g183 := of_decide_eq_false h125
 obtain rfl : r99 = 0 := by omega
 refine Ke ?_
 have hR184 := q2 hM107 (st5_100, st6_101) (by simp only [flqref14_demand_L0, h96, h125, cs4])
 refine KS ?_
 refine Oq (VldA sh59 2) (Ost (Scl [3] sh59 [vi 2, vl sta1 stk1 st.Cone, vl sta2 stk2 st.Leaf, vi 0, vi 0, vl a103 k104 st5_100, vl a105 k106 st6_101, vi st.Steps]) (KS ?_))
 refine Jl [9] (Ent.freeze _ _) ?_
 refine Jl [10] (Ent.freeze _ _) ?_
 refine Jl [4] (Ent.freeze _ _) ?_
 refine Jl [4] (Ent.freeze _ _) ?_
 have hq := q4 hM41 (GState.mk 2 st.Cone st2_40 0 0 st5_100 st6_101 st.Steps) (by simp only [flqref14_demand_J1, h96, h125, hR184, cs4]); subst hq
 exact Kr (vl sta1 stk1 st.Cone, vl sta2 stk2 st.Leaf, vl a103 k104 st5_100, vl a105 k106 st6_101) rfl (.cellN 4 rfl sh59 rfl (reads_Cl _ _) rfl .nil) [3, 2, 1, 0] en
theorem fn62 (s : GSystem) (sa1 : Option Addr) (sk1 : Nat) (sa2 : Option Addr) (sk2 : Nat) (sa3 : Option Addr) (sk3 : Nat) (k : List GKnown) (ka0 : Option Addr) (kk0 : Nat) (st : GState) (sta1 : Option Addr) (stk1 : Nat) (sta2 : Option Addr) (stk2 : Nat) (sta5 : Option Addr) (stk5 : Nat) (sta6 : Option Addr) (stk6 : Nat) (hs_0 : i64ok s.Width) (hst_0 : i64ok st.Phase) (hst_3 : i64ok st.At) (hst_4 : i64ok st.Edge) (hst_7 : i64ok st.Steps) (rr : GState × Int × Int) (hrr : flqref14_Step s k st = rr) : FT Tryz.prog 62 #[.agg #[vi s.Width, vl sa1 sk1 s.Deps, vl sa2 sk2 s.Transfers, vl sa3 sk3 s.Boundary], vl ka0 kk0 k, .agg #[vi st.Phase, vl sta1 stk1 st.Cone, vl sta2 stk2 st.Leaf, vi st.At, vi st.Edge, vl sta5 stk5 st.Values, vl sta6 stk6 st.Queue, vi st.Steps]] [S sa1 sk1 s.Deps, S sa2 sk2 s.Transfers, S sa3 sk3 s.Boundary, S ka0 kk0 k, S sta1 stk1 st.Cone, S sta2 stk2 st.Leaf, S sta5 stk5 st.Values, S sta6 stk6 st.Queue] (fun g : Value × Value × Value × Value => i64ok rr.1.Phase ∧ i64ok rr.1.At ∧ i64ok rr.1.Edge ∧ i64ok rr.1.Steps ∧ i64ok rr.2.1 ∧ i64ok rr.2.2 ∧ (0 ≤ rr.2.1 ∧ rr.2.1 ≤ 8)) (fun g => .tuple #[.agg #[vi rr.1.Phase, g.1, g.2.1, vi rr.1.At, vi rr.1.Edge, g.2.2.1, g.2.2.2, vi rr.1.Steps], vi rr.2.1, vi rr.2.2]) (fun g => [sl g.1 rr.1.Cone, sl g.2.1 rr.1.Leaf, sl g.2.2.1 rr.1.Values, sl g.2.2.2 rr.1.Queue]) := by
 refine FTi Tryz.func62 fun w0 M0 F0 => ?_
 unfold i64ok at hs_0 hst_0 hst_3 hst_4 hst_7
 refine Fb 24 0 fun hl1 => ?_
 refine Fb 88 1 fun hl2 => ?_
 refine Fb 32 2 fun hl3 => ?_
 refine Fb 40 3 fun hl4 => ?_
 refine Fb 8 4 fun hl5 => ?_
 refine Fo 4 fun ho6 => ?_
 refine Fb 1 5 fun hl7 => ?_
 refine Fb 32 6 fun hl8 => ?_
 refine Fb 8 7 fun hl9 => ?_
 refine Fo 7 fun ho10 => ?_
 refine KS ?_
 refine Oa (Ab [vi s.Width, vl sa1 sk1 s.Deps, vl sa2 sk2 s.Transfers, vl sa3 sk3 s.Boundary]) fun p11 => Oa (AbO [vi st.Phase, vl sta1 stk1 st.Cone, vl sta2 stk2 st.Leaf, vi st.At, vi st.Edge, vl sta5 stk5 st.Values, vl sta6 stk6 st.Queue, vi st.Steps]) fun p12 => Oa (Al ze59 [vi 0, .slice none 0 0, .slice none 0 0, vi 0, vi 0, .slice none 0 0, .slice none 0 0, vi 0]) fun p13 => Oq Va (Oq Va (KS ?_))
 refine Oq (VldA sh27 2) (Oq Vm (Oq (VldA sh59 1) ?_))
 refine letv (flqref14_Valid s k st) fun rv14 hg15 => ?_
 have hc16 := fn92 s sa1 sk1 sa2 sk2 sa3 sk3 k ka0 kk0 st sta1 stk1 sta2 stk2 sta5 stk5 sta6 stk6 pre pre pre pre pre rv14 hg15
 refine Oc [3, 4, 5, 6, 7, 8, 9, 10] ca92 hc16 ?_
 rintro - -
 refine Oq Vnot (KS ?_)
 refine Kc ?_ ?_
 · intro h17
   have h19 := not_true h17
   refine KS ?_
   refine Oq (Vbd st59 [vi 0, .slice none 0 0, .slice none 0 0, vi 0, vi 0, .slice none 0 0, .slice none 0 0, vi 0]) (Ost (Scl [0] sh59 [vi 0, .slice none 0 0, .slice none 0 0, vi 0, vi 0, .slice none 0 0, .slice none 0 0, vi 0]) (Oq Va (Oq Va (KS ?_))))
   refine Jl [] (Ent.slNil (α := Int)) ?_
   refine Jl [] (Ent.slNil (α := Bool)) ?_
   refine Jl [] (Ent.slNil (α := GSet)) ?_
   have hq := q4 hrr ((GState.mk 0 [] [] 0 0 [] [] 0), 0, 1) (by simp only [flqref14_Step, h17, h19, hg15, cs4]); subst hq
   exact Kr (.slice none 0 0, .slice none 0 0, .slice none 0 0, .slice none 0 0) rfl (.cellN 3 rfl sh59 rfl (reads_Cl _ _) rfl (.tmp rfl (.tmp rfl .nil))) [2, 1, 0, 2] en
 intro h17
 have h22 := not_false h17
 refine KS ?_
 refine Oq (Vfa fo59_0 1) (Oq (VldF sh3 1) (Oq Veql (KS ?_)))
 refine Kc ?_ ?_
 · intro h24
   have g25 := eq_of_beq h24
   refine KS ?_
   refine Oq (Vbd st59 [vi 0, .slice none 0 0, .slice none 0 0, vi 0, vi 0, .slice none 0 0, .slice none 0 0, vi 0]) (Ost (Scl [0] sh59 [vi 0, .slice none 0 0, .slice none 0 0, vi 0, vi 0, .slice none 0 0, .slice none 0 0, vi 0]) (Oq Va (Oq Va (KS ?_))))
   refine Jl [] (Ent.slNil (α := Int)) ?_
   refine Jl [] (Ent.slNil (α := Bool)) ?_
   refine Jl [] (Ent.slNil (α := GSet)) ?_
   have hq := q4 hrr ((GState.mk 0 [] [] 0 0 [] [] 0), 0, 10) (by simp only [flqref14_Step, h17, h22, h24, hg15, cs4]); subst hq
   exact Kr (.slice none 0 0, .slice none 0 0, .slice none 0 0, .slice none 0 0) rfl (.cellN 3 rfl sh59 rfl (reads_Cl _ _) rfl (.tmp rfl (.tmp rfl .nil))) [2, 1, 0, 2] en
 intro h24
 have g26 := ne_of_beq_false h24
 refine KS ?_
 refine Oq (VldA sh59 1) ?_
 refine letv (flqref14_CopyState st) fun rv31 hg32 => ?_
 have hc33 := fn142 st sta1 stk1 sta2 stk2 sta5 stk5 sta6 stk6 pre pre pre pre rv31 hg32
 refine Oc [7, 8, 9, 10] ca142 hc33 ?_
 rintro ⟨c27, c28, c29, c30⟩ ⟨he34, he35, he36, he37⟩
 unfold i64ok at he34 he35 he36 he37
 refine Jo 0 ?_; rintro a38 k39 rfl
 refine Fb 8 0 fun hl40 => ?_
 refine Fo 0 fun ho41 => ?_
 refine Jo 1 ?_; rintro a42 k43 rfl
 refine Fb 1 1 fun hl44 => ?_
 refine Jo 2 ?_; rintro a45 k46 rfl
 refine Fb 32 2 fun hl47 => ?_
 refine Jo 3 ?_; rintro a48 k49 rfl
 refine Fb 8 3 fun hl50 => ?_
 refine Fo 3 fun ho51 => ?_
 have hcs : rv31 = st := (by assumption : flqref14_CopyState st = rv31).symm.trans (CopyState_eq st)
 have hvf := RefV_facts (s := s) (k := k) (st := rv31) (by rw [hcs]; simp only [h17, h22, h24, hg15, hg32])
 obtain ⟨hvf1, hvf2, hvf3, hvf4⟩ := hvf
 have hv1 := hvf1.n
 have hv2 := hvf1.tl
 have hv3 := hvf1.bl
 have hv4 := hvf1.w
 have hv5 := hvf1.dep_len
 have hphe := congrArg GState.Phase hcs
 refine Ost (Scl [5] sh59 [vi rv31.Phase, vl a38 k39 rv31.Cone, vl a42 k43 rv31.Leaf, vi rv31.At, vi rv31.Edge, vl a45 k46 rv31.Values, vl a48 k49 rv31.Queue, vi rv31.Steps]) (KS ?_)
 refine Oq (Vfa fo59_7 0) (Oq (VldF sh3 0) ?_)
 refine letv (flqref1_Add rv31.Steps 1) fun rv52 hg53 => ?_
 have hc54 := fn143 rv31.Steps 1 pre pre rv52 hg53
 refine Oc [] ca143 hc54 ?_
 rintro - he55
 unfold i64ok at he55
 refine Oq (Vfa fo59_7 0) (Ost (SclF [0] sh3 [vi rv31.Phase, vl a38 k39 rv31.Cone, vl a42 k43 rv31.Leaf, vi rv31.At, vi rv31.Edge, vl a45 k46 rv31.Values, vl a48 k49 rv31.Queue, vi rv52]) (KS ?_))
 refine Oq (Vfa fo59_0 0) (Oq (VldF sh3 0) (Oq Veql (KS ?_)))
 refine Kc ?_ ?_
 · intro h56
   have g57 := eq_of_beq h56
   refine KS ?_
   refine Oq (VldA sh27 6) (Oq Vm (Oq (VldA sh59 0) ?_))
   refine letv (flqref14_demand s k (GState.mk rv31.Phase rv31.Cone rv31.Leaf rv31.At rv31.Edge rv31.Values rv31.Queue rv52)) fun rv62 hg63 => ?_
   have hc64 := fn144 s sa1 sk1 sa2 sk2 sa3 sk3 k ka0 kk0 ((GState.mk rv31.Phase rv31.Cone rv31.Leaf rv31.At rv31.Edge rv31.Values rv31.Queue rv52)) a38 k39 a42 k43 a45 k46 a48 k49 pre pre pre pre pre hvf1 ((hvf2 (by omega)).steps _ _) rv62 hg63
   refine Oc [7, 8, 9, 10, 1, 1, 1, 1] ca144 hc64 ?_
   rintro ⟨c58, c59, c60, c61⟩ ⟨he65, he66, he67, he68⟩
   unfold i64ok at he65 he66 he67 he68
   refine Jo 0 ?_; rintro a69 k70 rfl
   refine Fb 8 0 fun hl71 => ?_
   refine Fo 0 fun ho72 => ?_
   refine Jo 1 ?_; rintro a73 k74 rfl
   refine Fb 1 1 fun hl75 => ?_
   refine Jo 2 ?_; rintro a76 k77 rfl
   refine Fb 32 2 fun hl78 => ?_
   refine Jo 3 ?_; rintro a79 k80 rfl
   refine Fb 8 3 fun hl81 => ?_
   refine Fo 3 fun ho82 => ?_
   refine Ost (Scl [5] sh59 [vi rv62.Phase, vl a69 k70 rv62.Cone, vl a73 k74 rv62.Leaf, vi rv62.At, vi rv62.Edge, vl a76 k77 rv62.Values, vl a79 k80 rv62.Queue, vi rv62.Steps]) (Oq Va (Oq Va (KS ?_)))
   have hq := q4 hrr (rv62, 1, 0) (by simp only [flqref14_Step, h17, h22, h24, h56, hg15, hg32, hg53, hg63, cs4]); subst hq
   exact Kr (vl a69 k70 rv62.Cone, vl a73 k74 rv62.Leaf, vl a76 k77 rv62.Values, vl a79 k80 rv62.Queue) rfl (.cellN 0 rfl sh59 rfl (reads_Cl _ _) rfl (.tmp rfl (.tmp rfl .nil))) [1, 2, 3, 4] en
 intro h56
 have g83 := ne_of_beq_false h56
 have hp := hvf3 (by omega)
 have hp1 := hp.lf
 have hp2 := hp.cl
 have hp3 := hp.vl
 have hp4 := hp.qn
 have hp5 := hp.ql
 have hpi := hp.qr _ (getD_mem (xs := rv31.Queue) (i := (0 : Int).toNat) (d := 0) (by show 0 < _; omega))
 have hpc := hp.cr _ (getD_mem (xs := rv31.Cone) (i := ((rv31.Queue.getD (0 : Int).toNat 0) : Int).toNat) (d := 0) (by omega))
 refine KS ?_
 refine Oq (Vfa fo59_6 0) (Oq (VldF sh22 0) (Oq (Vi sl22 4) ?_))
 have hb84 := ok1 (i := (0 : Int).toNat) ho51 rng
 refine Oq (VldI sh3 4) (Oq Va (KS ?_))
 refine Oq (Vfa fo59_6 0) (Oq (VldF sh22 0) (Oa (AslO [4] sl22 ((1 : Int).toNat) rv31.Queue.length) fun c85 => ?_))
 refine Jo 0 ?_; rintro a86 k87 rfl
 refine Fb 8 0 fun hl88 => ?_
 refine Fo 0 fun ho89 => ?_
 have hn90 : ((rv31.Queue.take rv31.Queue.length).drop ((1 : Int).toNat)).length = rv31.Queue.length - ((1 : Int).toNat) := len_slice rng rng
 refine Oq (Vfa fo59_6 1) (Ost (SclF [1] sh22 [vi rv31.Phase, vl a38 k39 rv31.Cone, vl a42 k43 rv31.Leaf, vi rv31.At, vi rv31.Edge, vl a45 k46 rv31.Values, vl a86 k87 ((rv31.Queue.take rv31.Queue.length).drop ((1 : Int).toNat)), vi rv52]) (KS ?_))
 refine Oq (VldA sh27 6) (Oq (Vfa fo59_1 0) (Oq (VldF sh22 0) (Oq (Vfa fo59_2 0) (Oq (VldF sh57 0) (Oq Vm ?_)))))
 refine letv (flqref14_Dependents s rv31.Cone rv31.Leaf (rv31.Queue.getD (0 : Int).toNat 0)) fun rv92 hg93 => ?_
 refine Oc [3, 2, 5, 6, 7] ca58 (FT_borrow (A := _) hlx (FT_ent (Ent.take (is := [1, 1, 2, 3, 0]) rfl) (FT_borrow (A := _) hlx (FT_ent (Ent.take (is := [1, 2, 3, 0, 4]) rfl) (fn58 s sa1 sk1 sa2 sk2 sa3 sk3 rv31.Cone a38 k39 rv31.Leaf a42 k43 ((rv31.Queue.getD (0 : Int).toNat 0)) pre pre rv92 hg93))))) ?_ (ht := rfl)
 rintro c91 he94
 refine Jo 2 ?_; rintro a95 k96 rfl
 refine Fb 8 2 fun hl97 => ?_
 refine Fo 2 fun ho98 => ?_
 refine Oq Va (KS ?_)
 refine Oq Va (KS ?_)
 refine Kl (γ := Nat × List GSet × List Int × Int × Option Addr × Nat) (fun (r99, st5_100, st6_101, n_102, a103, k104) => ⟨[(3, p11), (5, p12), (6, p13), (9, vi (rv31.Queue.getD (0 : Int).toNat 0)), (10, vl a95 k96 rv92), (11, vi n_102)], [O a103 k104 st6_101, O a42 k43 rv31.Leaf, O a38 k39 rv31.Cone, O a95 k96 rv92, Cl p12 [vi rv31.Phase, vl a38 k39 rv31.Cone, vl a42 k43 rv31.Leaf, vi rv31.At, vi rv31.Edge, vl a45 k46 rv31.Values, vl a103 k104 st6_101, vi rv52], os (vl a45 k46 rv31.Values) st5_100, Cl p13 [vi 0, .slice none 0 0, .slice none 0 0, vi 0, vi 0, .slice none 0 0, .slice none 0 0, vi 0], pv p11 [vi s.Width, vl sa1 sk1 s.Deps, vl sa2 sk2 s.Transfers, vl sa3 sk3 s.Boundary], S sa1 sk1 s.Deps, S sa2 sk2 s.Transfers, S sa3 sk3 s.Boundary], flqref14_Step_L0 s rv31.Cone (rv31.Queue.getD (0 : Int).toNat 0) rv92 r99 st5_100 st6_101 n_102 = flqref14_Step_L0 s rv31.Cone (rv31.Queue.getD (0 : Int).toNat 0) rv92 (((rv92.length : Int) - 0).toNat) rv31.Values ((rv31.Queue.take rv31.Queue.length).drop ((1 : Int).toNat)) 0 ∧ r99 = ((rv92.length : Int) - n_102).toNat ∧ (0 : Int) ≤ n_102 ∧ n_102 ≤ (rv92.length : Int) ∧ (-9223372036854775808 ≤ n_102 ∧ n_102 ≤ 9223372036854775807) ∧ (st5_100.length : Int) = (rv31.Cone.length : Int) ∧ (st6_101.length : Int) ≤ 256 + n_102, r99⟩) (((rv92.length : Int) - 0).toNat, rv31.Values, ((rv31.Queue.take rv31.Queue.length).drop ((1 : Int).toNat)), 0, a86, k87) [4, 0, 0, 0, 0, 0, 0, 0, 1, 2, 3] ⟨rfl, rfl, (by omega), (by omega), (by omega), iv0, iv0⟩ ?_
 rintro ⟨r99, st5_100, st6_101, n_102, a103, k104⟩ ⟨hM105, hr106, hi107, hi108, hk109, hv110, hv111⟩
 refine JJ_nx fun _ _ hL hA => ?_; dsimp only at hL hA; subst hL hA
 refine Fb 8 0 fun hl112 => ?_
 refine Fo 0 fun ho113 => ?_
 refine Fb 1 1 fun hl114 => ?_
 refine Fb 8 2 fun hl115 => ?_
 refine Fo 2 fun ho116 => ?_
 refine Fb 8 3 fun hl117 => ?_
 refine Fo 3 fun ho118 => ?_
 refine Fb 32 5 fun hl119 => ?_
 refine Fl 5 fun hn120 => ?_
 refine Fb 24 8 fun hl121 => ?_
 refine Fb 88 9 fun hl122 => ?_
 refine Fb 32 10 fun hl123 => ?_
 refine KS ?_
 refine Oq Vm (Oq Vm (Oq (Vlen sl22) (Oq Vlss (KS ?_))))
 refine Kc ?_ ?_
 · intro h124
   have g125 := of_decide_eq_true h124
   have hqd := RDep_mem (r := rv92) (by assumption) _ (getD_mem (xs := rv92) (i := n_102.toNat) (d := 0) (by omega))
   obtain ⟨r126, rfl⟩ := scc (n := r99) (by omega)
   refine KS ?_
   refine Jp 4 fun hp127 => ?_
   refine JJ_peek_GTransfer ((rv31.Cone.getD ((rv31.Queue.getD (0 : Int).toNat 0) : Int).toNat 0) : Int).toNat 10 rfl rng fun a128 k129 a130 k131 a132 k133 hb134 hb135 => ?_
   unfold i64ok at hb134 hb135
   refine Fb 8 1 fun hl136 => ?_
   refine Fb 8 2 fun hl137 => ?_
   refine Fb 16 3 fun hl138 => ?_
   refine JJ_peekO_GSet ((rv31.Queue.getD (0 : Int).toNat 0) : Int).toNat 10 rfl rng fun a139 k140 hb141 => ?_
   unfold i64ok at hb141
   refine Fb 8 1 fun hl142 => ?_
   refine JK_drawK [0, 1, 0, 4, 0, 28, 60, 127, 255, 0, 512, 0, 3584, 7680, 16383, 32767, 65535, 65535, 0, 393215, 1048575] fmix ?_
   refine Dv [13] (Vfa fo27_2 0) (Dv [13] (VldF sh24 0) (Dv [6] (Vfa fo59_1 0) (Dv [11] (VldF sh22 0) (Dv [] Vm (Dv [9] (Vi sl22 0) ?_)))))
   have hb143 := ok1 (i := ((rv31.Queue.getD (0 : Int).toNat 0) : Int).toNat) ho116 rng
   refine Dv [9] (VldI sh3 0) (Dv [15] (Vi sl24 0) (Dv [2] (VldA sh98 0) (Dv [6] (Vfa fo59_5 0) (Dv [11] (VldF sh25 0) (Dv [] Vm (Dv [0] (Vi sl25 0) (Dv [0] (VldA sh42 0) ?_)))))))
   refine letv (flqref1_Apply (s.Transfers.getD ((rv31.Cone.getD ((rv31.Queue.getD (0 : Int).toNat 0) : Int).toNat 0) : Int).toNat default) (st5_100.getD ((rv31.Queue.getD (0 : Int).toNat 0) : Int).toNat default)) fun rv145 hg146 => ?_
   refine Dx [1, 3, 4, 5] [] [2, 3, 4, 5, 0, 1] (fun G => .tuple #[.agg #[vi rv145.1.Width, (G.g 14 0)], vi rv145.2]) [fun G => SP.fact (i64ok rv145.1.Width ∧ i64ok rv145.2), fun G => sl (G.g 14 0) rv145.1.Words] (fun G => xC [1, 2, 3, 0] ca145 (fn145 ((s.Transfers.getD ((rv31.Cone.getD ((rv31.Queue.getD (0 : Int).toNat 0) : Int).toNat 0) : Int).toNat default)) a128 k129 a130 k131 a132 k133 ((st5_100.getD ((rv31.Queue.getD (0 : Int).toNat 0) : Int).toNat default)) a139 k140 pre pre pre rv145 hg146)) (Dg [] (fun G => .tuple #[.agg #[vi rv145.1.Width, (G.g 14 0)], vi rv145.2]) (fun G => Vm) (Dg [] (fun G => .agg #[vi rv145.1.Width, (G.g 14 0)]) (fun G => Vx) (Dv [] Vx (Dx [] [] [0] (fun G => (G.g 18 0)) [fun G => Cl (G.g 18 0) [vi 0, .slice none 0 0]] (fun G => xA (Al ze42 [vi 0, .slice none 0 0])) (Dx0 [18, 19] [19] [1, 0] [fun G => Cl (G.g 18 0) [vi rv145.1.Width, (G.g 14 0)]] (fun G => x1 0 rfl sl_one fun ho148 => (xS (Scl [1] sh42 [vi rv145.1.Width, (G.g 14 0)] (v := .agg #[vi rv145.1.Width, (G.g 14 0)]) (h1 := show [vi rv145.1.Width, (G.g 14 0)].all (·.oneCell') = true from (by simp only [List.all_cons, List.all_nil, ho148, Bool.and_true, Bool.true_and] <;> rfl))))) (Dv [] Va ?_))))))
   refine Dn ⟨by kernel_rfl, fun G => ?_⟩
   refine Jw2 [(3, p11), (5, p12), (6, p13), (9, vi (rv31.Queue.getD (0 : Int).toNat 0)), (10, vl a95 k96 rv92), (11, vi n_102), (12, (G.g 18 0))] [0, 1, 2, 3, 4, 5, 6, 7, 8, 9, 10, 11, 12, 13, 14, 15, 16] [SP.fact (i64ok rv145.1.Width ∧ i64ok rv145.2), sl (G.g 14 0) rv145.1.Words, Cl (G.g 18 0) [vi rv145.1.Width, (G.g 14 0)]] ?_
   generalize G.g 14 0 = c144, G.g 18 0 = p147
   refine Jf 17 rfl ?_; rintro ⟨he149, he150⟩
   unfold i64ok at he149 he150
   refine Jk [0, 0, 1, 2, 3, 4, 6, 6, 6, 6, 6, 6, 6, 7, 8, 9, 11, 12] ?_
   refine Jo 16 ?_; rintro a151 k152 rfl
   refine Fb 8 16 fun hl153 => ?_
   refine KS ?_
   refine Jp 10 fun hp154 => ?_
   refine Jl [1] (Ent.oread _ _ _ _) ?_
   refine JJ_peekO_GSet ((rv92.getD n_102.toNat 0) : Int).toNat 0 rfl rng fun a155 k156 hb157 => ?_
   unfold i64ok at hb157
   refine Fb 8 1 fun hl158 => ?_
   refine JK_drawK [0, 1, 0, 0, 12, 28, 63, 127, 0, 511, 0, 2047] fmix ?_
   refine Dv [2] (Vfa fo59_5 0) (Dv [12] (VldF sh25 0) (Dv [] Vm (Dv [] Vm (Dv [11] (Vi sl22 0) ?_))))
   have hb159 := ok1 (i := n_102.toNat) ho118 rng
   refine Dv [11] (VldI sh3 0) (Dv [0] (Vi sl25 0) (Dv [0] (VldA sh42 0) (Dv [19] (VldA sh42 0) ?_)))
   refine letv (flqref1_Join (st5_100.getD ((rv92.getD n_102.toNat 0) : Int).toNat default) rv145.1) fun rv161 hg162 => ?_
   refine Dx [1, 18] [] [2, 3, 0, 1] (fun G => .agg #[vi rv161.Width, (G.g 9 0)]) [fun G => SP.fact (i64ok rv161.Width), fun G => sl (G.g 9 0) rv161.Words] (fun G => xC [0, 1] ca22 (fn22 ((st5_100.getD ((rv92.getD n_102.toNat 0) : Int).toNat default)) a155 k156 rv145.1 a151 k152 pre pre rv161 hg162)) (Dx [] [] [0] (fun G => (G.g 10 0)) [fun G => Cl (G.g 10 0) [vi 0, .slice none 0 0]] (fun G => xA (Al ze42 [vi 0, .slice none 0 0])) (Dx0 [21, 22] [22] [1, 0] [fun G => Cl (G.g 10 0) [vi rv161.Width, (G.g 9 0)]] (fun G => x1 0 rfl sl_one fun ho164 => (xS (Scl [1] sh42 [vi rv161.Width, (G.g 9 0)] (v := .agg #[vi rv161.Width, (G.g 9 0)]) (h1 := show [vi rv161.Width, (G.g 9 0)].all (·.oneCell') = true from (by simp only [List.all_cons, List.all_nil, ho164, Bool.and_true, Bool.true_and] <;> rfl))))) ?_))
   refine Dn ⟨by kernel_rfl, fun G => ?_⟩
   refine Jw2 [(3, p11), (5, p12), (6, p13), (9, vi (rv31.Queue.getD (0 : Int).toNat 0)), (10, vl a95 k96 rv92), (11, vi n_102), (14, (G.g 10 0))] [0, 1, 2, 3, 4, 5, 6, 7, 8, 9, 10, 11, 12, 13, 14, 15, 16, 17, 18, 19] [SP.fact (i64ok rv161.Width), sl (G.g 9 0) rv161.Words, Cl (G.g 10 0) [vi rv161.Width, (G.g 9 0)]] ?_
   generalize G.g 9 0 = c160, G.g 10 0 = p163
   refine Jf 20 rfl ?_; rintro he165
   unfold i64ok at he165
   refine Jk [0, 0, 2, 3, 4, 5, 6, 7, 7, 7, 7, 7, 7, 7, 8, 9, 10, 11, 12, 13, 14] ?_
   refine Jo 19 ?_; rintro a166 k167 rfl
   refine Fb 8 19 fun hl168 => ?_
   refine KS ?_
   refine Jp 11 fun hp169 => ?_
   refine JK_drawK [0, 0, 2, 0, 0, 24, 56, 126, 254, 511] fmix ?_
   refine Dv [21] (VldA sh42 0) (Dv [0] (Vfa fo59_5 0) (Dv [12] (VldF sh25 0) (Dv [] Vm (Dv [] Vm (Dv [11] (Vi sl22 0) ?_)))))
   have hb170 := ok1 (i := n_102.toNat) ho118 rng
   refine Dv [11] (VldI sh3 0) (Dv [1] (Vi sl25 0) (Dv [1] (VldA sh42 0) ?_))
   refine letv (flqref1_Same rv161 (st5_100.getD ((rv92.getD n_102.toNat 0) : Int).toNat default)) fun rv171 hg172 => ?_
   refine Dx [2, 20] [] [1, 2, 0] (fun G => vb rv171) [fun G => SP.fact (True)] (fun G => xC [1, 0] ca45 (fn45 rv161 a166 k167 ((st5_100.getD ((rv92.getD n_102.toNat 0) : Int).toNat default)) a155 k156 pre pre rv171 hg172)) ?_
   refine Dn ⟨by kernel_rfl, fun G => ?_⟩
   refine Jw2 [(3, p11), (5, p12), (6, p13), (9, vi (rv31.Queue.getD (0 : Int).toNat 0)), (10, vl a95 k96 rv92), (11, vi n_102), (14, p163), (96, vb rv171)] [0, 1, 2, 3, 4, 5, 6, 7, 8, 9, 10, 11, 12, 13, 14, 15, 16, 17, 18, 19, 20, 21] [SP.fact (True)] ?_
   refine Jk [1, 1, 2, 3, 4, 5, 6, 7, 7, 7, 7, 7, 7, 7, 8, 9, 10, 11, 12, 12, 13] ?_
   refine Kc ?_ ?_
   · intro h173
     refine Jl [0] (Ent.oread _ _ _ _) ?_
     refine Ke ?_
     refine KS ?_
     refine Oq Vm (Oq Vadd (Oq Va (KS ?_)))
     exact Kg (r126, st5_100, st6_101, (n_102 + 1), a103, k104) [7, 7, 7, 7, 7, 0, 6, 6, 7, 8, 9] ⟨(q3 hM105 (by simp only [flqref14_Step_L0, h17, h22, h24, h56, h124, h173, hg15, hg32, hg53, hg93, hg146, hg162, hg172, cs4])), (by omega), (by omega), (by omega), (by omega), iv1, iv1⟩
   intro h173
   refine KS ?_
   refine Jp 11 fun hp176 => ?_
   refine JK_drawK [0, 1, 0, 0, 12, 28, 0, 127, 255] fmix ?_
   refine Dv [0] (Vfa fo59_5 0) (Dv [12] (VldF sh25 0) (Dv [] Vm (Dv [] Vm (Dv [11] (Vi sl22 0) ?_))))
   have hb177 := ok1 (i := n_102.toNat) ho118 rng
   refine Dv [11] (VldI sh3 0) (Dv [21] (VldA sh42 0) (Dv [1] (Vi sl25 0) ?_))
   refine Dx0 [1, 20] [1] [1, 0] [fun G => os (vl a45 k46 rv31.Values) (st5_100.set ((rv92.getD n_102.toNat 0) : Int).toNat rv161)] (fun G => xp [0] rfl (Ent.oread _ _ _ _) (xS (So (Rs := [S a166 k167 rv161.Words]) [0, 0] sh42 rv161 (fun h => ⟨_, rfl, (by unfold i64ok; first | omega | (dsimp only; omega)), sepAll_get (i := 0) rfl h⟩)))) ?_
   refine Dn ⟨by kernel_rfl, fun G => ?_⟩
   refine Jw2 [(3, p11), (5, p12), (6, p13), (9, vi (rv31.Queue.getD (0 : Int).toNat 0)), (10, vl a95 k96 rv92), (11, vi n_102)] [0, 2, 3, 4, 5, 6, 7, 8, 9, 10, 11, 12, 13, 14, 15, 16, 17, 18, 19, 20, 21] [os (vl a45 k46 rv31.Values) (st5_100.set ((rv92.getD n_102.toNat 0) : Int).toNat rv161)] ?_
   refine Jk [1, 2, 3, 4, 5, 6, 7, 7, 7, 7, 7, 7, 7, 8, 9, 10, 11, 12, 12, 13, 13] ?_
   refine KS ?_
   refine Jp 10 fun hp178 => ?_
   refine JK_drawK [0, 1, 0, 0, 12, 28, 63, 127] fmix ?_
   refine Dv [0] (Vfa fo59_6 0) (Dv [11] (VldF sh22 0) (Dv [] Vm (Dv [] Vm (Dv [10] (Vi sl22 0) ?_))))
   have hb179 := ok1 (i := n_102.toNat) ho118 rng
   refine Dv [10] (VldI sh3 0) ?_
   refine letv (flqref7_Has st6_101 (rv92.getD n_102.toNat 0)) fun rv180 hg181 => ?_
   refine Dx [7] [7] [0, 1] (fun G => vb rv180) [fun G => SP.fact (True), fun G => O a103 k104 st6_101] (fun G => xC [0] ca99 (FT_borrow (A := _) (fun _ _ h => by cases h) (FT_ent (Ent.take (is := [0]) rfl) (fn99 st6_101 a103 k104 ((rv92.getD n_102.toNat 0)) pre rv180 hg181))) (ht := rfl)) (Dv [] Vnot ?_)
   refine Dn ⟨by kernel_rfl, fun G => ?_⟩
   refine Jw2 [(3, p11), (5, p12), (6, p13), (9, vi (rv31.Queue.getD (0 : Int).toNat 0)), (10, vl a95 k96 rv92), (11, vi n_102), (112, vb (!rv180))] [0, 1, 2, 3, 4, 5, 6, 8, 9, 10, 11, 12, 13, 14, 15, 16, 17, 18, 19, 20, 21] [SP.fact (True), O a103 k104 st6_101] ?_
   refine Jk [1, 2, 3, 4, 5, 6, 7, 7, 7, 7, 7, 7, 8, 9, 10, 11, 12, 12, 13, 13, 14] ?_
   refine Kc ?_ ?_
   · intro h182
     have h184 := not_true h182
     refine Jp 9 fun hp186 => ?_
     refine JK_drawK [0, 0, 2, 7, 0, 0, 48, 112, 240, 511, 1023, 2047] fmix ?_
     refine Dx [] [] [0] (fun G => (G.g 0 0)) [fun G => Cr (G.g 0 0) 0 []] (fun G => xA (As0 sl22)) (Dv [0] (Vfa fo59_6 0) (Dv [10] (VldF sh22 0) (Dx [21, 22] [21, 22] [0] (fun G => (G.g 3 0)) [fun G => os (G.g 3 0) st6_101] (fun G => xp [1] rfl (Ent.crNil (α := Int) _) (xA (ApO0 [0, 0] sl22 sl22 sz22))) (Dv [] Vm (Dv [] Vm (Dv [9] (Vi sl22 0) ?_))))))
     have hb189 := ok1 (i := n_102.toNat) ho118 rng
     refine Dv [9] (VldI sh3 0) (Dx [] [] [0] (fun G => (G.g 8 0)) [fun G => Cr (G.g 8 0) 1 [vi (rv92.getD n_102.toNat 0)]] (fun G => xA (AsV sl22 sz22 [vi (rv92.getD n_102.toNat 0)] [vi (rv92.getD n_102.toNat 0)])) ?_)
     have hn192 := la st6_101 ([(rv92.getD n_102.toNat 0)] : List Int)
     refine Dx [23, 24] [23, 24] [0] (fun G => (G.g 9 0)) [fun G => os (G.g 9 0) ((st6_101 ++ [(rv92.getD n_102.toNat 0)]) : List Int)] (fun G => xp [1] rfl (Ent.crInt _ [(rv92.getD n_102.toNat 0)] _ _ rfl rfl (by intro x hx; rw [List.mem_singleton] at hx; subst hx; unfold i64ok; omega) (Nat.le_of_ble_eq_true rfl)) (xA (ApO [1, 0] sl22 sl22 sz22))) (Dv [0] (Vfa fo59_6 0) (Dx0 [10, 25] [10] [1, 0] [fun G => Cl p12 [vi rv31.Phase, vl a38 k39 rv31.Cone, vl a42 k43 rv31.Leaf, vi rv31.At, vi rv31.Edge, vl a45 k46 rv31.Values, (G.g 9 0), vi rv52]] (fun G => x1 1 rfl os_one fun ho193 => (xS (OpS.frame [0] rfl (OpS.storeClF [(G.g 9 0)] [vi rv31.Phase, vl a38 k39 rv31.Cone, vl a42 k43 rv31.Leaf, vi rv31.At, vi rv31.Edge, vl a45 k46 rv31.Values, (G.g 9 0), vi rv52] rfl rfl rfl sh22 (cells_of_one ho193) rfl (by simp only [List.all_cons, List.all_nil, ho193, Bool.and_true, Bool.true_and] <;> rfl) (Nat.le_of_ble_eq_true rfl) rfl)))) ?_))
     refine Dn ⟨by kernel_rfl, fun G => ?_⟩
     refine Jw2 [(3, p11), (5, p12), (6, p13), (9, vi (rv31.Queue.getD (0 : Int).toNat 0)), (10, vl a95 k96 rv92), (11, vi n_102)] [0, 1, 2, 3, 4, 5, 6, 7, 8, 9, 11, 12, 13, 14, 15, 16, 17, 18, 19, 20] [os (G.g 9 0) ((st6_101 ++ [(rv92.getD n_102.toNat 0)]) : List Int), Cl p12 [vi rv31.Phase, vl a38 k39 rv31.Cone, vl a42 k43 rv31.Leaf, vi rv31.At, vi rv31.Edge, vl a45 k46 rv31.Values, (G.g 9 0), vi rv52]] ?_
     generalize G.g 9 0 = c191
     refine Jk [1, 2, 3, 4, 5, 6, 7, 7, 7, 7, 7, 8, 9, 10, 11, 12, 12, 13, 13, 13, 13] ?_
     refine Jo 19 ?_; rintro a194 k195 rfl
     refine Fb 8 19 fun hl196 => ?_
     refine Fo 19 fun ho197 => ?_
     refine KS ?_
     refine Oq Vm (Oq Vadd (Oq Va (KS ?_)))
     exact Kg (r126, (st5_100.set ((rv92.getD n_102.toNat 0) : Int).toNat rv161), (st6_101 ++ [(rv92.getD n_102.toNat 0)]), (n_102 + 1), a194, k195) [19, 6, 6, 6, 16, 15, 6, 6, 7, 8, 9] ⟨(q3 hM105 (by simp only [flqref14_Step_L0, h17, h22, h24, h56, h124, h173, h182, h184, hg15, hg32, hg53, hg93, hg146, hg162, hg172, hg181, cs4])), (by omega), (by omega), (by omega), (by omega), iv1, iv1⟩
   intro h182
   have h199 := not_false h182
   refine KS ?_
   refine Oq Vm (Oq Vadd (Oq Va (KS ?_)))
   exact Kg (r126, (st5_100.set ((rv92.getD n_102.toNat 0) : Int).toNat rv161), st6_101, (n_102 + 1), a103, k104) [20, 6, 6, 6, 6, 15, 6, 6, 7, 8, 9] ⟨(q3 hM105 (by simp only [flqref14_Step_L0, h17, h22, h24, h56, h124, h173, h182, h199, hg15, hg32, hg53, hg93, hg146, hg162, hg172, hg181, cs4])), (by omega), (by omega), (by omega), (by omega), iv1, iv1⟩
 intro h124
 have g201 := of_decide_eq_false h124
 obtain rfl : r99 = 0 := by omega
 refine Ke ?_
 have hR202 := q2 hM105 (st5_100, st6_101) (by simp only [flqref14_Step_L0, h17, h22, h24, h56, h124, hg15, hg32, hg53, hg93, cs4])
 refine KS ?_
 refine Oq (Vfa fo59_6 4) (Oq (VldF sh22 4) (Oq (Vlen sl22) (Oq Veql (KS ?_))))
 refine Kc ?_ ?_
 · intro h203
   have g204 := eq_of_beq h203
   refine KS ?_
   refine Oq (Vfa fo59_0 4) (Ost (SclF [4] sh3 [vi 3, vl a38 k39 rv31.Cone, vl a42 k43 rv31.Leaf, vi rv31.At, vi rv31.Edge, vl a45 k46 rv31.Values, vl a103 k104 st6_101, vi rv52]) (KS ?_))
   refine Oq (VldA sh59 0) (Oq Vm (Oq (Vlen sl22) (Oq Vadd (Oq Vmin (Ost (Scl [6] sh59 [vi 3, vl a38 k39 rv31.Cone, vl a42 k43 rv31.Leaf, vi rv31.At, vi rv31.Edge, vl a45 k46 rv31.Values, vl a103 k104 st6_101, vi rv52]) (Oq Va (Oq Va (KS ?_))))))))
   refine Jl [4] (Ent.freeze _ _) ?_
   refine Jl [4] (Ent.freeze _ _) ?_
   refine Jl [6] (Ent.freeze _ _) ?_
   refine Jl [5] (Ent.freeze _ _) ?_
   have hq := q4 hrr ((GState.mk 3 rv31.Cone rv31.Leaf rv31.At rv31.Edge st5_100 st6_101 rv52), (min (1 + (rv92.length : Int)) 8), 0) (by simp only [flqref14_Step, h17, h22, h24, h56, h124, h203, hg15, hg32, hg53, hg93, hR202, cs4]); subst hq
   exact Kr (vl a38 k39 rv31.Cone, vl a42 k43 rv31.Leaf, vl a45 k46 rv31.Values, vl a103 k104 st6_101) rfl (.cellN 4 rfl sh59 rfl (reads_Cl _ _) rfl (.tmp rfl (.tmp rfl .nil))) [3, 2, 1, 0] en
 intro h203
 have g205 := ne_of_beq_false h203
 refine KS ?_
 refine Oq (VldA sh59 4) (Oq Vm (Oq (Vlen sl22) (Oq Vadd (Oq Vmin (Ost (Scl [6] sh59 [vi rv31.Phase, vl a38 k39 rv31.Cone, vl a42 k43 rv31.Leaf, vi rv31.At, vi rv31.Edge, vl a45 k46 rv31.Values, vl a103 k104 st6_101, vi rv52]) (Oq Va (Oq Va (KS ?_))))))))
 refine Jl [3] (Ent.freeze _ _) ?_
 refine Jl [3] (Ent.freeze _ _) ?_
 refine Jl [6] (Ent.freeze _ _) ?_
 refine Jl [4] (Ent.freeze _ _) ?_
 have hq := q4 hrr ((GState.mk rv31.Phase rv31.Cone rv31.Leaf rv31.At rv31.Edge st5_100 st6_101 rv52), (min (1 + (rv92.length : Int)) 8), 0) (by simp only [flqref14_Step, h17, h22, h24, h56, h124, h203, hg15, hg32, hg53, hg93, hR202, cs4]); subst hq
 exact Kr (vl a38 k39 rv31.Cone, vl a42 k43 rv31.Leaf, vl a45 k46 rv31.Values, vl a103 k104 st6_101) rfl (.cellN 4 rfl sh59 rfl (reads_Cl _ _) rfl (.tmp rfl (.tmp rfl .nil))) [3, 2, 1, 0] en
theorem fn33 (s : GSystem) (sa1 : Option Addr) (sk1 : Nat) (sa2 : Option Addr) (sk2 : Nat) (sa3 : Option Addr) (sk3 : Nat) (k : List GKnown) (ka0 : Option Addr) (kk0 : Nat) (st : GState) (sta1 : Option Addr) (stk1 : Nat) (sta2 : Option Addr) (stk2 : Nat) (sta5 : Option Addr) (stk5 : Nat) (sta6 : Option Addr) (stk6 : Nat) (steps : Int) (hs_0 : i64ok s.Width) (hst_0 : i64ok st.Phase) (hst_3 : i64ok st.At) (hst_4 : i64ok st.Edge) (hst_7 : i64ok st.Steps) (hsteps_0 : i64ok steps) (hs0 : steps ≤ 1000000000) (rr : GState × Int × Int) (hrr : flqref14_Run s k st steps = rr) : FT Tryz.prog 33 #[.agg #[vi s.Width, vl sa1 sk1 s.Deps, vl sa2 sk2 s.Transfers, vl sa3 sk3 s.Boundary], vl ka0 kk0 k, .agg #[vi st.Phase, vl sta1 stk1 st.Cone, vl sta2 stk2 st.Leaf, vi st.At, vi st.Edge, vl sta5 stk5 st.Values, vl sta6 stk6 st.Queue, vi st.Steps], vi steps] [S sa1 sk1 s.Deps, S sa2 sk2 s.Transfers, S sa3 sk3 s.Boundary, S ka0 kk0 k, S sta1 stk1 st.Cone, S sta2 stk2 st.Leaf, S sta5 stk5 st.Values, S sta6 stk6 st.Queue] (fun g : Value × Value × Value × Value => i64ok rr.1.Phase ∧ i64ok rr.1.At ∧ i64ok rr.1.Edge ∧ i64ok rr.1.Steps ∧ i64ok rr.2.1 ∧ i64ok rr.2.2) (fun g => .tuple #[.agg #[vi rr.1.Phase, g.1, g.2.1, vi rr.1.At, vi rr.1.Edge, g.2.2.1, g.2.2.2, vi rr.1.Steps], vi rr.2.1, vi rr.2.2]) (fun g => [sl g.1 rr.1.Cone, sl g.2.1 rr.1.Leaf, sl g.2.2.1 rr.1.Values, sl g.2.2.2 rr.1.Queue]) := by
 refine FTi Tryz.func33 fun w0 M0 F0 => ?_
 unfold i64ok at hs_0 hst_0 hst_3 hst_4 hst_7 hsteps_0
 refine Fb 24 0 fun hl1 => ?_
 refine Fb 88 1 fun hl2 => ?_
 refine Fb 32 2 fun hl3 => ?_
 refine Fb 40 3 fun hl4 => ?_
 refine Fb 8 4 fun hl5 => ?_
 refine Fo 4 fun ho6 => ?_
 refine Fb 1 5 fun hl7 => ?_
 refine Fb 32 6 fun hl8 => ?_
 refine Fb 8 7 fun hl9 => ?_
 refine Fo 7 fun ho10 => ?_
 refine KS ?_
 refine Oa (Ab [vi s.Width, vl sa1 sk1 s.Deps, vl sa2 sk2 s.Transfers, vl sa3 sk3 s.Boundary]) fun p11 => Oa (AbO [vi st.Phase, vl sta1 stk1 st.Cone, vl sta2 stk2 st.Leaf, vi st.At, vi st.Edge, vl sta5 stk5 st.Values, vl sta6 stk6 st.Queue, vi st.Steps]) fun p12 => Oa (Al ze59 [vi 0, .slice none 0 0, .slice none 0 0, vi 0, vi 0, .slice none 0 0, .slice none 0 0, vi 0]) fun p13 => Oq Va (Oq Va (KS ?_))
 refine Oq (VldA sh27 2) (Oq Vm (Oq (VldA sh59 1) ?_))
 refine letv (flqref14_Valid s k st) fun rv14 hg15 => ?_
 have hc16 := fn92 s sa1 sk1 sa2 sk2 sa3 sk3 k ka0 kk0 st sta1 stk1 sta2 stk2 sta5 stk5 sta6 stk6 pre pre pre pre pre rv14 hg15
 refine Oc [3, 4, 5, 6, 7, 8, 9, 10] ca92 hc16 ?_
 rintro - -
 refine Oq Vnot (Oq Vm ?_)
 refine Js 21 ?_ ?_
 · intro h17
   have h19 := not_true h17
   refine Osk (Osk (Oq Vpt (KS ?_)))
   refine Kt ?_
   refine KS ?_
   refine Oq (Vbd st59 [vi 0, .slice none 0 0, .slice none 0 0, vi 0, vi 0, .slice none 0 0, .slice none 0 0, vi 0]) (Ost (Scl [0] sh59 [vi 0, .slice none 0 0, .slice none 0 0, vi 0, vi 0, .slice none 0 0, .slice none 0 0, vi 0]) (Oq Va (Oq Va (KS ?_))))
   refine Jl [] (Ent.slNil (α := Int)) ?_
   refine Jl [] (Ent.slNil (α := Bool)) ?_
   refine Jl [] (Ent.slNil (α := GSet)) ?_
   have hq := q4 hrr ((GState.mk 0 [] [] 0 0 [] [] 0), 0, 1) (by simp only [flqref14_Run, h17, h19, hg15, cs4]); subst hq
   exact Kr (.slice none 0 0, .slice none 0 0, .slice none 0 0, .slice none 0 0) rfl (.cellN 3 rfl sh59 rfl (reads_Cl _ _) rfl (.tmp rfl (.tmp rfl .nil))) [2, 1, 0, 2] en
 intro h17
 have h22 := not_false h17
 refine Oq Vm (Oq Vlss (Oq Vpf (KS ?_)))
 refine Kc ?_ ?_
 · intro h24
   have g25 := of_decide_eq_true h24
   refine KS ?_
   refine Oq (Vbd st59 [vi 0, .slice none 0 0, .slice none 0 0, vi 0, vi 0, .slice none 0 0, .slice none 0 0, vi 0]) (Ost (Scl [0] sh59 [vi 0, .slice none 0 0, .slice none 0 0, vi 0, vi 0, .slice none 0 0, .slice none 0 0, vi 0]) (Oq Va (Oq Va (KS ?_))))
   refine Jl [] (Ent.slNil (α := Int)) ?_
   refine Jl [] (Ent.slNil (α := Bool)) ?_
   refine Jl [] (Ent.slNil (α := GSet)) ?_
   have hq := q4 hrr ((GState.mk 0 [] [] 0 0 [] [] 0), 0, 1) (by simp only [flqref14_Run, h17, h22, h24, hg15, cs4]); subst hq
   exact Kr (.slice none 0 0, .slice none 0 0, .slice none 0 0, .slice none 0 0) rfl (.cellN 3 rfl sh59 rfl (reads_Cl _ _) rfl (.tmp rfl (.tmp rfl .nil))) [2, 1, 0, 2] en
 intro h24
 have g26 := of_decide_eq_false h24
 refine KS ?_
 refine Oq Va (KS ?_)
 refine Oq Va (KS ?_)
 refine Kl (γ := Nat × Int × List Int × List Bool × Int × Int × List GSet × List Int × Int × Int × Int × Option Addr × Nat × Option Addr × Nat × Option Addr × Nat × Option Addr × Nat) (fun (r27, st0_28, st1_29, st2_30, st3_31, st4_32, st5_33, st6_34, st7_35, total_36, n_37, a38, k39, a40, k41, a42, k43, a44, k45) => ⟨[(1, vl ka0 kk0 k), (3, vi steps), (4, p11), (6, p12), (8, p13), (11, vi total_36), (12, vi n_37)], [S a44 k45 st6_34, S a42 k43 st5_33, S a40 k41 st2_30, S a38 k39 st1_29, Cl p13 [vi 0, .slice none 0 0, .slice none 0 0, vi 0, vi 0, .slice none 0 0, .slice none 0 0, vi 0], Cl p12 [vi st0_28, vl a38 k39 st1_29, vl a40 k41 st2_30, vi st3_31, vi st4_32, vl a42 k43 st5_33, vl a44 k45 st6_34, vi st7_35], pv p11 [vi s.Width, vl sa1 sk1 s.Deps, vl sa2 sk2 s.Transfers, vl sa3 sk3 s.Boundary], S sa1 sk1 s.Deps, S sa2 sk2 s.Transfers, S sa3 sk3 s.Boundary, S ka0 kk0 k], flqref14_Run_L0 s k r27 st0_28 st1_29 st2_30 st3_31 st4_32 st5_33 st6_34 st7_35 total_36 n_37 = flqref14_Run_L0 s k (((steps : Int) - 0).toNat) st.Phase st.Cone st.Leaf st.At st.Edge st.Values st.Queue st.Steps 0 0 ∧ r27 = ((steps : Int) - n_37).toNat ∧ (0 : Int) ≤ n_37 ∧ (n_37 ≤ steps ∨ n_37 = 0) ∧ (-9223372036854775808 ≤ st0_28 ∧ st0_28 ≤ 9223372036854775807) ∧ (-9223372036854775808 ≤ st3_31 ∧ st3_31 ≤ 9223372036854775807) ∧ (-9223372036854775808 ≤ st4_32 ∧ st4_32 ≤ 9223372036854775807) ∧ (-9223372036854775808 ≤ st7_35 ∧ st7_35 ≤ 9223372036854775807) ∧ (-9223372036854775808 ≤ total_36 ∧ total_36 ≤ 9223372036854775807) ∧ (-9223372036854775808 ≤ n_37 ∧ n_37 ≤ 9223372036854775807) ∧ 0 ≤ total_36 ∧ total_36 ≤ 8 * n_37, r27⟩) (((steps : Int) - 0).toNat, st.Phase, st.Cone, st.Leaf, st.At, st.Edge, st.Values, st.Queue, st.Steps, 0, 0, sta1, stk1, sta2, stk2, sta5, stk5, sta6, stk6) [10, 9, 8, 7, 0, 0, 0, 1, 2, 3, 4] ⟨rfl, rfl, (by omega), (.inr rfl), (by omega), (by omega), (by omega), (by omega), (by omega), (by omega), iv0⟩ ?_
 rintro ⟨r27, st0_28, st1_29, st2_30, st3_31, st4_32, st5_33, st6_34, st7_35, total_36, n_37, a38, k39, a40, k41, a42, k43, a44, k45⟩ ⟨hM46, hr47, hi48, hi49, hk50, hk51, hk52, hk53, hk54, hk55, hv56⟩
 refine JJ_nx fun _ _ hL hA => ?_; dsimp only at hL hA; subst hL hA
 refine Fb 8 0 fun hl57 => ?_
 refine Fo 0 fun ho58 => ?_
 refine Fb 32 1 fun hl59 => ?_
 refine Fb 1 2 fun hl60 => ?_
 refine Fb 8 3 fun hl61 => ?_
 refine Fo 3 fun ho62 => ?_
 refine Fb 24 7 fun hl63 => ?_
 refine Fb 88 8 fun hl64 => ?_
 refine Fb 32 9 fun hl65 => ?_
 refine Fb 40 10 fun hl66 => ?_
 refine KS ?_
 refine Oq Vm (Oq Vm (Oq Vlss (Oq Vm ?_)))
 refine Js 29 ?_ ?_
 · intro h67
   have g68 := of_decide_eq_true h67
   obtain ⟨r69, rfl⟩ := scc (n := r27) (by omega)
   refine Oq (Vfa fo59_0 5) (Oq (VldF sh3 5) (Oq Vneq (Oq Vpt (KS ?_))))
   refine Kc ?_ ?_
   · intro h70
     have g71 := ne_of_bne h70
     refine KS ?_
     refine Oq (VldA sh27 6) (Oq Vm (Oq (VldA sh59 5) ?_))
     refine letv (flqref14_Step s k (GState.mk st0_28 st1_29 st2_30 st3_31 st4_32 st5_33 st6_34 st7_35)) fun rv76 hg77 => ?_
     have hc78 := fn62 s sa1 sk1 sa2 sk2 sa3 sk3 k ka0 kk0 ((GState.mk st0_28 st1_29 st2_30 st3_31 st4_32 st5_33 st6_34 st7_35)) a38 k39 a40 k41 a42 k43 a44 k45 pre pre pre pre pre rv76 hg77
     refine Oc [7, 8, 9, 10, 3, 2, 1, 0] ca62 hc78 ?_
     rintro ⟨c72, c73, c74, c75⟩ ⟨he79, he80, he81, he82, he83, he84, he85⟩
     unfold i64ok at he79 he80 he81 he82 he83 he84
     refine Jo 0 ?_; rintro a86 k87 rfl
     refine Fb 8 0 fun hl88 => ?_
     refine Fo 0 fun ho89 => ?_
     refine Jo 1 ?_; rintro a90 k91 rfl
     refine Fb 1 1 fun hl92 => ?_
     refine Jo 2 ?_; rintro a93 k94 rfl
     refine Fb 32 2 fun hl95 => ?_
     refine Jo 3 ?_; rintro a96 k97 rfl
     refine Fb 8 3 fun hl98 => ?_
     refine Fo 3 fun ho99 => ?_
     refine Oq Vm (Oq Vx (Oq Vx (Oq Vx (Oa (Al ze59 [vi 0, .slice none 0 0, .slice none 0 0, vi 0, vi 0, .slice none 0 0, .slice none 0 0, vi 0]) fun p100 => Ost (Scl [0] sh59 [vi rv76.1.Phase, vl a86 k87 rv76.1.Cone, vl a90 k91 rv76.1.Leaf, vi rv76.1.At, vi rv76.1.Edge, vl a93 k94 rv76.1.Values, vl a96 k97 rv76.1.Queue, vi rv76.1.Steps]) (Oq Va (Oq Va (KS ?_)))))))
     refine Oq (VldA sh59 0) (Ost (Scl [10] sh59 [vi rv76.1.Phase, vl a86 k87 rv76.1.Cone, vl a90 k91 rv76.1.Leaf, vi rv76.1.At, vi rv76.1.Edge, vl a93 k94 rv76.1.Values, vl a96 k97 rv76.1.Queue, vi rv76.1.Steps]) (KS ?_))
     refine Oq Vm (Oq Vm (Oq Vadd (Oq Va (KS ?_))))
     refine Oq Vm (Oq Vadd (Oq Va (KS ?_)))
     exact Kg (r69, rv76.1.Phase, rv76.1.Cone, rv76.1.Leaf, rv76.1.At, rv76.1.Edge, rv76.1.Values, rv76.1.Queue, rv76.1.Steps, (total_36 + rv76.2.1), (n_37 + 1), a86, k87, a90, k91, a93, k94, a96, k97) [5, 4, 3, 2, 10, 0, 9, 10, 11, 12, 13] ⟨(q3 hM46 (by simp only [flqref14_Run_L0, h17, h22, h24, h67, h70, hg15, hg77, cs4])), (by omega), (by omega), (by omega), (by omega), (by omega), (by omega), (by omega), (by omega), (by omega), iv1⟩
   intro h70
   have g101 := eq_of_bne_false h70
   refine Ke ?_
   have hR102 := q2 hM46 (st0_28, st1_29, st2_30, st3_31, st4_32, st5_33, st6_34, st7_35, total_36) (by simp only [flqref14_Run_L0, h17, h22, h24, h67, h70, hg15, cs4])
   refine KS ?_
   refine Oq (VldA sh59 5) (Oq Vm (Ost (Scl [4] sh59 [vi st0_28, vl a38 k39 st1_29, vl a40 k41 st2_30, vi st3_31, vi st4_32, vl a42 k43 st5_33, vl a44 k45 st6_34, vi st7_35]) (Oq Va (Oq Va (KS ?_)))))
   have hq := q4 hrr ((GState.mk st0_28 st1_29 st2_30 st3_31 st4_32 st5_33 st6_34 st7_35), total_36, 0) (by simp only [flqref14_Run, h17, h22, h24, h67, h70, hg15, hR102, cs4]); subst hq
   exact Kr (vl a38 k39 st1_29, vl a40 k41 st2_30, vl a42 k43 st5_33, vl a44 k45 st6_34) rfl (.cellN 0 rfl sh59 rfl (reads_Cl _ _) rfl (.tmp rfl (.tmp rfl .nil))) [4, 3, 2, 1] en
 intro h67
 have g103 := of_decide_eq_false h67
 obtain rfl : r27 = 0 := by omega
 refine Osk (Osk (Osk (Oq Vpf (KS ?_))))
 refine Kf ?_
 refine Ke ?_
 have hR104 := q2 hM46 (st0_28, st1_29, st2_30, st3_31, st4_32, st5_33, st6_34, st7_35, total_36) (by simp only [flqref14_Run_L0, h17, h22, h24, h67, hg15, cs4])
 refine KS ?_
 refine Oq (VldA sh59 5) (Oq Vm (Ost (Scl [4] sh59 [vi st0_28, vl a38 k39 st1_29, vl a40 k41 st2_30, vi st3_31, vi st4_32, vl a42 k43 st5_33, vl a44 k45 st6_34, vi st7_35]) (Oq Va (Oq Va (KS ?_)))))
 have hq := q4 hrr ((GState.mk st0_28 st1_29 st2_30 st3_31 st4_32 st5_33 st6_34 st7_35), total_36, 0) (by simp only [flqref14_Run, h17, h22, h24, h67, hg15, hR104, cs4]); subst hq
 exact Kr (vl a38 k39 st1_29, vl a40 k41 st2_30, vl a42 k43 st5_33, vl a44 k45 st6_34) rfl (.cellN 0 rfl sh59 rfl (reads_Cl _ _) rfl (.tmp rfl (.tmp rfl .nil))) [4, 3, 2, 1] en
theorem fn34 (root : Int) (hroot_0 : i64ok root) (rr : GState) (hrr : flqref14_Start root = rr) : FT Tryz.prog 34 #[vi root] [] (fun g : Value × Value × Value × Value => i64ok rr.Phase ∧ i64ok rr.At ∧ i64ok rr.Edge ∧ i64ok rr.Steps) (fun g => .agg #[vi rr.Phase, g.1, g.2.1, vi rr.At, vi rr.Edge, g.2.2.1, g.2.2.2, vi rr.Steps]) (fun g => [sl g.1 rr.Cone, sl g.2.1 rr.Leaf, sl g.2.2.1 rr.Values, sl g.2.2.2 rr.Queue]) := by
 refine FTi Tryz.func34 fun w0 M0 F0 => ?_
 unfold i64ok at hroot_0
 refine KS ?_
 refine Oa (Al ze59 [vi 0, .slice none 0 0, .slice none 0 0, vi 0, vi 0, .slice none 0 0, .slice none 0 0, vi 0]) fun p1 => KS ?_
 refine Oq Vm (Oa (AsV sl22 sz22 [vi root] [vi root]) fun c2 => ?_)
 refine Jo 0 ?_; rintro a3 k4 rfl
 refine Oa (AsV sl57 sz57 [vb false] [vb false]) fun c5 => ?_
 refine Jo 0 ?_; rintro a6 k7 rfl
 refine Oq (Vbd st59 [vi 1, .slice a3 1 k4, .slice a6 1 k7, vi 0, vi 0, .slice none 0 0, .slice none 0 0, vi 0]) (Ost (Scl [2] sh59 [vi 1, .slice a3 1 k4, .slice a6 1 k7, vi 0, vi 0, .slice none 0 0, .slice none 0 0, vi 0]) (KS ?_))
 refine Jl [2] (Ent.crInt _ [root] _ _ rfl rfl (by intro x hx; rw [List.mem_singleton] at hx; subst hx; unfold i64ok; omega) (Nat.le_of_ble_eq_true rfl)) ?_
 refine Jl [0] (Ent.freeze _ _) ?_
 refine Jl [2] (Ent.cr1 (α := Bool) (A := []) _ false _ (Nat.le_of_ble_eq_true rfl) (fun _ => rfl)) ?_
 refine Jl [0] (Ent.freeze _ _) ?_
 refine Jl [] (Ent.slNil (α := GSet)) ?_
 refine Jl [] (Ent.slNil (α := Int)) ?_
 have hq := q4 hrr (GState.mk 1 [root] [false] 0 0 [] [] 0) (by simp only [flqref14_Start, cs4]); subst hq
 exact Kr (.slice a3 1 k4, .slice a6 1 k7, .slice none 0 0, .slice none 0 0) rfl (.cellN 4 rfl sh59 rfl (reads_Cl _ _) rfl .nil) [3, 2, 1, 0] en
theorem fn185 (width : Int) (n : Int) (hwidth_0 : i64ok width) (hn_0 : i64ok n) (rr : Bool) (hrr : equations_sized width n = rr) : FT Tryz.prog 185 #[vi width, vi n] [] (fun g : Unit => True) (fun g => vb rr) (fun g => []) := by
 refine FTi Tryz.func185 fun w0 M0 F0 => ?_
 unfold i64ok at hwidth_0 hn_0
 refine KS ?_
 refine Oq Va (KS ?_)
 refine Oq Vm (Oq Vgeq (Oq Vm ?_))
 refine Js 7 ?_ ?_
 · intro h1
   have g2 := of_decide_eq_true h1
   refine Oq Vm (Oq Vleq (Oq Vpt (Oq Vm ?_)))
   refine Js 11 ?_ ?_
   · intro h3
     have g4 := of_decide_eq_true h3
     refine Oq Vm (Oq Vgeq (Oq Vpt (Oq Vm ?_)))
     refine Js 15 ?_ ?_
     · intro h5
       have g6 := of_decide_eq_true h5
       refine Oq Vm (Oq Vleq (Oq Vpt (Oq Va (KS ?_))))
       have hq := q4 hrr (decide (n ≤ 256)) (by simp only [equations_sized, h1, h3, h5, cs4]); subst hq
       exact Kr () rfl (.tmp rfl .nil) [] trivial
     intro h5
     have g7 := of_decide_eq_false h5
     refine Osk (Osk (Oq Vpf (Oq Va (KS ?_))))
     have hq := q4 hrr false (by simp only [equations_sized, h1, h3, h5, cs4]); subst hq
     exact Kr () rfl (.tmp rfl .nil) [] trivial
   intro h3
   have g8 := of_decide_eq_false h3
   refine Osk (Osk (Oq Vpf (Oq Vm (Osk (Osk (Oq Vpf (Oq Va (KS ?_))))))))
   have hq := q4 hrr false (by simp only [equations_sized, h1, h3, cs4]); subst hq
   exact Kr () rfl (.tmp rfl .nil) [] trivial
 intro h1
 have g9 := of_decide_eq_false h1
 refine Osk (Osk (Oq Vpf (Oq Vm (Osk (Osk (Oq Vpf (Oq Vm (Osk (Osk ?_)))))))))
 refine Oq Vpf (Oq Va (KS ?_))
 have hq := q4 hrr false (by simp only [equations_sized, h1, cs4]); subst hq
 exact Kr () rfl (.tmp rfl .nil) [] trivial
theorem fn186 (l : List Int) (la0 : Option Addr) (lk0 : Nat) (n : Int) (hn_0 : i64ok n) (rr : Bool) (hrr : equations_ascending l n = rr) : FT Tryz.prog 186 #[vl la0 lk0 l, vi n] [S la0 lk0 l] (fun g : Unit => True) (fun g => vb rr) (fun g => []) := by
 refine FTi Tryz.func186 fun w0 M0 F0 => ?_
 unfold i64ok at hn_0
 refine Fb 8 0 fun hl1 => ?_
 refine Fo 0 fun ho2 => ?_
 refine KS ?_
 refine Oq Va (KS ?_)
 refine Oq Vm (Oq (Vlen sl22) (Oq Vm (KS ?_)))
 refine Kl (γ := Nat × Int) (fun (r3, v9_4) => ⟨[(0, vl la0 lk0 l), (1, vi n), (7, vl la0 lk0 l), (8, vi (l.length : Int)), (9, vi v9_4)], [S la0 lk0 l], equations_ascending_L0 l n r3 v9_4 = equations_ascending_L0 l n (((l.length : Int) - 0).toNat) 0 ∧ r3 = ((l.length : Int) - v9_4).toNat ∧ (0 : Int) ≤ v9_4 ∧ v9_4 ≤ (l.length : Int) ∧ (-9223372036854775808 ≤ v9_4 ∧ v9_4 ≤ 9223372036854775807), r3⟩) (((l.length : Int) - 0).toNat, 0) [0] ⟨rfl, rfl, (by omega), (by omega), (by omega)⟩ ?_
 rintro ⟨r3, v9_4⟩ ⟨hM5, hr6, hi7, hi8, hk9⟩
 refine JJ_nx fun _ _ hL hA => ?_; dsimp only at hL hA; subst hL hA
 refine Fb 8 0 fun hl10 => ?_
 refine Fo 0 fun ho11 => ?_
 refine KS ?_
 refine Oq Vlss (KS ?_)
 refine Kc ?_ ?_
 · intro h12
   have g13 := of_decide_eq_true h12
   obtain ⟨r14, rfl⟩ := scc (n := r3) (by omega)
   refine KS ?_
   refine Oq Vm (Oq (Vi sl22 0) ?_)
   have hb15 := ok1 (i := v9_4.toNat) ho11 rng
   refine Oq (VldI sh3 0) (Oq Va (Oq Va (KS ?_)))
   refine Oq Vm (Oq Vlss (Oq Vm ?_))
   refine Js 16 ?_ ?_
   · intro h16
     have g17 := of_decide_eq_true h16
     refine Osk (Osk (Osk (Oq Vpt (Oq Vm (Osk (Osk (Osk (Osk (Osk ?_)))))))))
     refine Osk (Osk (Osk (Osk (Osk (Osk (Oq Vpt (KS ?_)))))))
     refine Kt ?_
     refine KS ?_
     refine Oq Va (KS ?_)
     have hR18 := q2 hM5 (.ret false) (by simp only [equations_ascending_L0, h12, h16, cs4])
     have hq := q4 hrr false (by simp only [equations_ascending, h12, h16, hR18, cs4]); subst hq
     exact Kr () rfl (.tmp rfl .nil) [] trivial
   intro h16
   have g19 := of_decide_eq_false h16
   refine Oq Vm (Oq Vm (Oq Vgeq (Oq Vpf (Oq Vm ?_))))
   refine Js 21 ?_ ?_
   · intro h20
     have g21 := of_decide_eq_true h20
     refine Osk (Osk (Osk (Osk (Osk (Osk (Osk (Osk (Osk (Osk ?_)))))))))
     refine Osk (Oq Vpt (KS ?_))
     refine Kt ?_
     refine KS ?_
     refine Oq Va (KS ?_)
     have hR22 := q2 hM5 (.ret false) (by simp only [equations_ascending_L0, h12, h16, h20, cs4])
     have hq := q4 hrr false (by simp only [equations_ascending, h12, h16, h20, hR22, cs4]); subst hq
     exact Kr () rfl (.tmp rfl .nil) [] trivial
   intro h20
   have g23 := of_decide_eq_false h20
   refine Oq Vm (Oq Vgtr (Oq Vm ?_))
   refine Js 24 ?_ ?_
   · intro h24
     have g25 := of_decide_eq_true h24
     refine Oq Vm (Oq Vm (Oq Vm (Oq Vsub (Oq (Vi sl22 0) ?_))))
     have hb26 := ok1 (i := ((v9_4 - 1) : Int).toNat) ho11 rng
     refine Oq (VldI sh3 0) (Oq Vleq (Oq Vpt (Oq Vpf (KS ?_))))
     refine Kc ?_ ?_
     · intro h27
       have g28 := of_decide_eq_true h27
       refine KS ?_
       refine Oq Va (KS ?_)
       have hR29 := q2 hM5 (.ret false) (by simp only [equations_ascending_L0, h12, h16, h20, h24, h27, cs4])
       have hq := q4 hrr false (by simp only [equations_ascending, h12, h16, h20, h24, h27, hR29, cs4]); subst hq
       exact Kr () rfl (.tmp rfl .nil) [] trivial
     intro h27
     have g30 := of_decide_eq_false h27
     refine KS ?_
     refine Oq Vadd (Oq Vm (KS ?_))
     exact Kg (r14, (v9_4 + 1)) [0] ⟨(q3 hM5 (by simp only [equations_ascending_L0, h12, h16, h20, h24, h27, cs4])), (by omega), (by omega), (by omega), (by omega)⟩
   intro h24
   have g31 := of_decide_eq_false h24
   refine Osk (Osk (Osk (Osk (Osk (Osk (Osk (Oq Vpf (Oq Vpf (KS ?_)))))))))
   refine Kf ?_
   refine KS ?_
   refine Oq Vadd (Oq Vm (KS ?_))
   exact Kg (r14, (v9_4 + 1)) [0] ⟨(q3 hM5 (by simp only [equations_ascending_L0, h12, h16, h20, h24, cs4])), (by omega), (by omega), (by omega), (by omega)⟩
 intro h12
 have g32 := of_decide_eq_false h12
 obtain rfl : r3 = 0 := by omega
 refine Ke ?_
 have hR33 := q2 hM5 (.brk ()) (by simp only [equations_ascending_L0, h12, cs4])
 refine KS ?_
 refine Oq Va (KS ?_)
 have hq := q4 hrr true (by simp only [equations_ascending, h12, hR33, cs4]); subst hq
 exact Kr () rfl (.tmp rfl .nil) [] trivial
theorem fn281 (s : List GSet) (sa0 : Option Addr) (sk0 : Nat) (fF : FuncId) (fC : List Value) (fp : GSet → Bool) (fA : List SP) (hfc : callable Tryz.prog fF = true) (hfF : ∀ x ∈ s, ∀ (a1 : Option Addr) (k1 : Nat), i64ok x.Width → FT Tryz.prog fF ([(.agg #[vi x.Width, vl a1 k1 x.Words] : Value)] ++ fC).toArray ([S a1 k1 x.Words] ++ [pAll fA]) (fun _ : Unit => True) (fun _ => .bool (fp x)) (fun _ => [])) (rr : Int) (hrr : slices_IndexFunc_Set s fp = rr) : FT Tryz.prog 281 #[vl sa0 sk0 s, .func (.func fF) #[] fC.toArray] [S sa0 sk0 s, pAll fA] (fun g : Unit => i64ok rr) (fun g => vi rr) (fun g => []) := by
 refine FTi Tryz.func281 fun w0 M0 F0 => ?_
 refine Fb 32 0 fun hl1 => ?_
 refine KS ?_
 refine Oq Va (KS ?_)
 refine Oq Vm (Oq (Vlen sl25) (Oq Vm (KS ?_)))
 refine Kl (γ := Nat × Int) (fun (r2, v8_3) => ⟨[(0, vl sa0 sk0 s), (1, .func (.func fF) #[] fC.toArray), (7, vi (s.length : Int)), (8, vi v8_3)], [S sa0 sk0 s, pAll fA], slices_IndexFunc_Set_L0 s fp r2 v8_3 = slices_IndexFunc_Set_L0 s fp (((s.length : Int) - 0).toNat) 0 ∧ r2 = ((s.length : Int) - v8_3).toNat ∧ (0 : Int) ≤ v8_3 ∧ v8_3 ≤ (s.length : Int) ∧ (-9223372036854775808 ≤ v8_3 ∧ v8_3 ≤ 9223372036854775807), r2⟩) (((s.length : Int) - 0).toNat, 0) [0, 1] ⟨rfl, rfl, (by omega), (by omega), (by omega)⟩ ?_
 rintro ⟨r2, v8_3⟩ ⟨hM4, hr5, hi6, hi7, hk8⟩
 refine JJ_nx fun _ _ hL hA => ?_; dsimp only at hL hA; subst hL hA
 refine Fb 32 0 fun hl9 => ?_
 refine KS ?_
 refine Oq Vlss (KS ?_)
 refine Kc ?_ ?_
 · intro h10
   have g11 := of_decide_eq_true h10
   obtain ⟨r12, rfl⟩ := scc (n := r2) (by omega)
   refine KS ?_
   refine Oq Vm (Oq Va (KS ?_))
   refine Oq Vm (Oq Vm (Oq Vm (Oq (Vi sl25 0) ?_)))
   refine JJ_peek_GSet v8_3.toNat 0 rfl rng fun a13 k14 hb15 => ?_
   unfold i64ok at hb15
   refine Fb 8 1 fun hl16 => ?_
   refine Oq (VldA sh42 0) ?_
   refine JO_call [1, 3] rfl rfl rfl (OpC.clo («as» := [(.agg #[vi ((s.getD v8_3.toNat default).Width), vl a13 k14 ((s.getD v8_3.toNat default).Words)] : Value)] ++ fC) rfl rfl hfc rfl (by simp)) (hfF (s.getD v8_3.toNat default) (getD_mem rng) a13 k14 (by unfold i64ok; omega)) rfl fun _ _ => ?_
   refine KS ?_
   refine Kc ?_ ?_
   · intro h17
     refine KS ?_
     refine Oq Vm (Oq Va (KS ?_))
     have hR19 := q2 hM4 (.ret v8_3) (by simp only [slices_IndexFunc_Set_L0, h10, h17, cs4])
     have hq := q4 hrr v8_3 (by simp only [slices_IndexFunc_Set, h10, h17, hR19, cs4]); subst hq
     exact Kr () rfl (.tmp rfl .nil) [] en
   intro h17
   refine KS ?_
   refine Oq Vadd (Oq Vm (KS ?_))
   exact Kg (r12, (v8_3 + 1)) [2, 3] ⟨(q3 hM4 (by simp only [slices_IndexFunc_Set_L0, h10, h17, cs4])), (by omega), (by omega), (by omega), (by omega)⟩
 intro h10
 have g21 := of_decide_eq_false h10
 obtain rfl : r2 = 0 := by omega
 refine Ke ?_
 have hR22 := q2 hM4 (.brk ()) (by simp only [slices_IndexFunc_Set_L0, h10, cs4])
 refine KS ?_
 refine Oq Va (KS ?_)
 have hq := q4 hrr (-1) (by simp only [slices_IndexFunc_Set, h10, hR22, cs4]); subst hq
 exact Kr () rfl (.tmp rfl .nil) [] en
theorem fn239 (s : List GSet) (sa0 : Option Addr) (sk0 : Nat) (fF : FuncId) (fC : List Value) (fp : GSet → Bool) (fA : List SP) (hfc : callable Tryz.prog fF = true) (hfF : ∀ x ∈ s, ∀ (a1 : Option Addr) (k1 : Nat), i64ok x.Width → FT Tryz.prog fF ([(.agg #[vi x.Width, vl a1 k1 x.Words] : Value)] ++ fC).toArray ([S a1 k1 x.Words] ++ [pAll fA]) (fun _ : Unit => True) (fun _ => .bool (fp x)) (fun _ => [])) (rr : Bool) (hrr : slices_ContainsFunc_Set s fp = rr) : FT Tryz.prog 239 #[vl sa0 sk0 s, .func (.func fF) #[] fC.toArray] [S sa0 sk0 s, pAll fA] (fun g : Unit => True) (fun g => vb rr) (fun g => []) := by
 refine FTi Tryz.func239 fun w0 M0 F0 => ?_
 refine Fb 32 0 fun hl1 => ?_
 refine KS ?_
 refine Oq Va (KS ?_)
 refine Oq Vm (Oq Vm ?_)
 refine letv (slices_IndexFunc_Set s fp) fun rv2 hg3 => ?_
 have hc4 := fn281 s sa0 sk0 fF fC fp fA hfc hfF rv2 hg3
 refine Oc [0, 1] ca281 hc4 ?_
 rintro - he5
 unfold i64ok at he5
 refine Oq Vgeq (Oq Va (KS ?_))
 have hq := q4 hrr (decide (0 ≤ rv2)) (by simp only [slices_ContainsFunc_Set, hg3, cs4]); subst hq
 exact Kr () rfl (.tmp rfl .nil) [] trivial
theorem fn200 (width : Int) (hwidth_0 : i64ok width) (rr : Bool) (hrr : bitset_ranged width = rr) : FT Tryz.prog 200 #[vi width] [] (fun g : Unit => True) (fun g => vb rr) (fun g => []) := by
 refine FTi Tryz.func200 fun w0 M0 F0 => ?_
 unfold i64ok at hwidth_0
 refine KS ?_
 refine Oq Va (KS ?_)
 refine Oq Vm (Oq Vgeq (Oq Vm ?_))
 refine Js 5 ?_ ?_
 · intro h1
   have g2 := of_decide_eq_true h1
   refine Oq Vm (Oq Vleq (Oq Vpt (Oq Va (KS ?_))))
   have hq := q4 hrr (decide (width ≤ 256)) (by simp only [bitset_ranged, h1, cs4]); subst hq
   exact Kr () rfl (.tmp rfl .nil) [] trivial
 intro h1
 have g3 := of_decide_eq_false h1
 refine Osk (Osk (Oq Vpf (Oq Va (KS ?_))))
 have hq := q4 hrr false (by simp only [bitset_ranged, h1, cs4]); subst hq
 exact Kr () rfl (.tmp rfl .nil) [] trivial
theorem fn201 (width : Int) (hwidth_0 : i64ok width) (hw0 : 0 ≤ width ∧ width ≤ 1000000) (rr : Int) (hrr : bitset_words width = rr) : FT Tryz.prog 201 #[vi width] [] (fun g : Unit => i64ok rr ∧ (rr = (width + 63) / 64)) (fun g => vi rr) (fun g => []) := by
 refine FTi Tryz.func201 fun w0 M0 F0 => ?_
 unfold i64ok at hwidth_0
 refine KS ?_
 refine Oq Va (KS ?_)
 refine Oq Vm (Oq Vadd (Oq Vsub (Oq Vquo (Oq Va (KS ?_)))))
 have hq := q4 hrr (((width + 64) - 1) / 64) (by simp only [bitset_words, cs4]); subst hq
 exact Kr () rfl (.tmp rfl .nil) [] en
theorem fn202 (width : Int) (hwidth_0 : i64ok width) (rr : BitVec 64) (hrr : bitset_spare width = rr) : FT Tryz.prog 202 #[vi width] [] (fun g : Unit => True) (fun g => u64 rr) (fun g => []) := by
 refine FTi Tryz.func202 fun w0 M0 F0 => ?_
 unfold i64ok at hwidth_0
 refine KS ?_
 refine Oq Va (KS ?_)
 refine Oq Vm (Oq (VcU un3 un123) (Oq (VremU (b := 64#64) (by simp)) (Oq (VshlU (a := 18446744073709551615#64)) (Oq Va (KS ?_)))))
 have hq := q4 hrr (18446744073709551615#64 <<< ((((BitVec.ofInt 64 width) % 64#64).toNat : Int)).toNat) (by simp only [bitset_spare, cs4]); subst hq
 exact Kr () rfl (.tmp rfl .nil) [] trivial
theorem fn123 (s : GSet) (sa1 : Option Addr) (sk1 : Nat) (hs_0 : i64ok s.Width) (rr : Bool) (hrr : bitset_Valid s = rr) : FT Tryz.prog 123 #[.agg #[vi s.Width, vl sa1 sk1 s.Words]] [S sa1 sk1 s.Words] (fun g : Unit => True) (fun g => vb rr) (fun g => []) := by
 refine FTi Tryz.func123 fun w0 M0 F0 => ?_
 unfold i64ok at hs_0
 refine Fb 8 0 fun hl1 => ?_
 refine KS ?_
 refine Oa (Ab [vi s.Width, vl sa1 sk1 s.Words]) fun p2 => Oq Va (KS ?_)
 refine JK_drawK [0, 1, 3, 7, 15, 31, 63, 127, 31, 287, 799, 2047, 4095] fmix ?_
 refine Dv [0] (Vfa fo42_0 0) (Dv [0] (VldF sh3 0) ?_)
 refine letv (bitset_ranged s.Width) fun rv3 hg4 => ?_
 refine Dx [] [] [0] (fun G => vb rv3) [fun G => SP.fact (True)] (fun G => xC [] ca200 (fn200 s.Width pre rv3 hg4)) (Dv [] Vnot ?_)
 refine bool_split (!rv3) ?_ ?_
 · intro h5
   have h7 := not_true h5
   refine Db h5 [] Vm (Ds (Ds (Ds (Ds (Ds (Ds (Ds (Dv [] Vpt ?_))))))))
   refine Dn ⟨by kernel_rfl, fun G => ?_⟩
   refine Jw2 [(1, p2), (15, vb true)] [0, 1] [SP.fact (True)] ?_
   refine Jk [0, 1] ?_
   refine Kt ?_
   refine KS ?_
   refine Oq Va (KS ?_)
   have hq := q4 hrr false (by simp only [bitset_Valid, h5, h7, hg4, cs4]); subst hq
   exact Kr () rfl (.tmp rfl .nil) [] trivial
 intro h5
 have h10 := not_false h5
 try have hrg := ranged_iff (w := s.Width) (by simp only [h5, h10, hg4])
 refine Db h5 [] Vm (Dv [0] (Vfa fo42_1 0) (Dv [0] (VldF sh40 0) (Dv [] (Vlen sl40) (Dv [0] (Vfa fo42_0 0) (Dv [0] (VldF sh3 0) ?_)))))
 refine letv (bitset_words s.Width) fun rv12 hg13 => ?_
 refine Dx [] [] [0] (fun G => vi rv12) [fun G => SP.fact (i64ok rv12 ∧ (rv12 = (s.Width + 63) / 64))] (fun G => xC [] ca201 (fn201 s.Width pre pre rv12 hg13)) (Dv [] Vneq (Dv [] Vpf ?_))
 refine Dn ⟨by kernel_rfl, fun G => ?_⟩
 refine Jw2 [(1, p2), (15, vb ((s.Words.length : Int) != rv12))] [0, 1] [SP.fact (True), SP.fact (i64ok rv12 ∧ (rv12 = (s.Width + 63) / 64))] ?_
 refine Jf 3 rfl ?_; rintro ⟨he14, he15⟩
 unfold i64ok at he14
 refine Jk [0, 1] ?_
 refine Kc ?_ ?_
 · intro h16
   have g17 := ne_of_bne h16
   refine KS ?_
   refine Oq Va (KS ?_)
   have hq := q4 hrr false (by simp only [bitset_Valid, h5, h10, h16, hg4, hg13, cs4]); subst hq
   exact Kr () rfl (.tmp rfl .nil) [] trivial
 intro h16
 have g18 := eq_of_bne_false h16
 refine KS ?_
 refine JK_drawK [0, 1, 3, 7, 15, 31, 63, 31, 159, 415, 927, 2047, 4095, 31, 8223, 24607, 65535, 131071, 262143, 524287] fmix ?_
 refine Dv [0] (Vfa fo42_0 0) (Dv [0] (VldF sh3 0) (Dv [] Vrem (Dv [] Veql ?_)))
 refine bool_split ((s.Width % 64) == 0) ?_ ?_
 · intro h19
   have g20 := eq_of_beq h19
   refine Db h19 [] Vm (Ds (Ds (Ds (Ds (Ds (Ds (Ds (Ds (Ds ?_)))))))))
   refine Ds (Ds (Ds (Ds (Dv [] Vpt (Dv [] Va ?_)))))
   refine Dn ⟨by kernel_rfl, fun G => ?_⟩
   refine Jw2 [(2, vb true)] [0, 1] [] ?_
   have hq := q4 hrr true (by simp only [bitset_Valid, h5, h10, h16, h19, hg4, hg13, cs4]); subst hq
   exact Kr () rfl (.tmp rfl .nil) [] trivial
 intro h19
 have g21 := ne_of_beq_false h19
 refine Db h19 [] Vm (Dv [0] (Vfa fo42_1 0) (Dv [0] (VldF sh40 0) (Dv [0] (Vfa fo42_1 0) (Dv [0] (VldF sh40 0) (Dv [] (Vlen sl40) (Dv [] Vsub (Dv [1] (Vi sl40 0) (Dv [1] (VldU sh122 0) (Dv [0] (Vfa fo42_0 0) ?_)))))))))
 refine Dv [0] (VldF sh3 0) ?_
 refine letv (bitset_spare s.Width) fun rv22 hg23 => ?_
 refine Dx [] [] [0] (fun G => u64 rv22) [fun G => SP.fact (True)] (fun G => xC [] ca202 (fn202 s.Width pre rv22 hg23)) (Dv [] VandU (Dv [] (VeqlU (b := 0#64)) (Dv [] Vpf (Dv [] Va ?_))))
 refine Dn ⟨by kernel_rfl, fun G => ?_⟩
 refine Jw2 [(2, vb (((s.Words.getD (((s.Words.length : Int) - 1) : Int).toNat 0#64) &&& rv22) == 0#64))] [0, 1] [SP.fact (True)] ?_
 refine Jk [0, 1] ?_
 have hq := q4 hrr (((s.Words.getD (((s.Words.length : Int) - 1) : Int).toNat 0#64) &&& rv22) == 0#64) (by simp only [bitset_Valid, h5, h10, h16, h19, hg4, hg13, hg23, cs4]); subst hq
 exact Kr () rfl (.tmp rfl .nil) [] trivial
theorem fn240 (s : GSet) (sa1 : Option Addr) (sk1 : Nat) (cap0P : Value) (cap0 : Int) (hs_0 : i64ok s.Width) (hcap0_0 : i64ok cap0) (rr : Bool) (hrr : equations_sets_1 s cap0 = rr) : FT Tryz.prog 240 #[.agg #[vi s.Width, vl sa1 sk1 s.Words], cap0P] [S sa1 sk1 s.Words, pv cap0P [vi cap0]] (fun g : Unit => True) (fun g => vb rr) (fun g => []) := by
 refine FTi Tryz.func240 fun w0 M0 F0 => ?_
 unfold i64ok at hs_0 hcap0_0
 refine Fb 8 0 fun hl1 => ?_
 refine KS ?_
 refine Oa (Ab [vi s.Width, vl sa1 sk1 s.Words]) fun p2 => Oq Va (KS ?_)
 refine Oq (VldA sh42 0) ?_
 refine letv (bitset_Valid s) fun rv3 hg4 => ?_
 have hc5 := fn123 s sa1 sk1 pre rv3 hg4
 refine Oc [1] ca123 hc5 ?_
 rintro - -
 refine Oq Vnot (Oq Vm ?_)
 refine Js 7 ?_ ?_
 · intro h6
   have h8 := not_true h6
   refine Osk (Osk (Osk (Osk (Oq Vpt (Oq Va (KS ?_))))))
   have hq := q4 hrr true (by simp only [equations_sets_1, h6, h8, hg4, cs4]); subst hq
   exact Kr () rfl (.tmp rfl .nil) [] trivial
 intro h6
 have h11 := not_false h6
 refine Oq (Vfa fo42_0 0) (Oq (VldF sh3 0) (Oq (Vld sh3 2) (Oq Vneq (Oq Vpf (Oq Va (KS ?_))))))
 have hq := q4 hrr (s.Width != cap0) (by simp only [equations_sets_1, h6, h11, hg4, cs4]); subst hq
 exact Kr () rfl (.tmp rfl .nil) [] trivial
theorem fn187 (width : Int) (l : List GSet) (la0 : Option Addr) (lk0 : Nat) (hwidth_0 : i64ok width) (rr : Bool) (hrr : equations_sets width l = rr) : FT Tryz.prog 187 #[vi width, vl la0 lk0 l] [S la0 lk0 l] (fun g : Unit => True) (fun g => vb rr) (fun g => []) := by
 refine FTi Tryz.func187 fun w0 M0 F0 => ?_
 unfold i64ok at hwidth_0
 refine Fb 32 0 fun hl1 => ?_
 refine KS ?_
 refine Oa (Ab [vi width]) fun p2 => Oq Va (KS ?_)
 refine Oq Vm (Oq (Vf [p2]) ?_)
 refine JJ_ent (Ent.pall [0] rfl rfl) ?_
 refine letv (slices_ContainsFunc_Set l (fun x => equations_sets_1 x width)) fun rv3 hg4 => ?_
 have hc5 := fn239 l la0 lk0 240 [p2] (fun x => equations_sets_1 x width) [pv p2 [vi width]] ca240 (fun x hx a1 k1 hq0 => FT_pall (A1 := _) (fn240 x a1 k1 p2 width hq0 pre _ rfl)) rv3 hg4
 refine Oc [2, 0] ca239 hc5 ?_
 rintro - -
 refine Oq Vnot (Oq Va (KS ?_))
 have hq := q4 hrr (!rv3) (by simp only [equations_sets, hg4, cs4]); subst hq
 exact Kr () rfl (.tmp rfl .nil) [] trivial
theorem fn241 (s : List GTransfer) (sa0 : Option Addr) (sk0 : Nat) (fF : FuncId) (fC : List Value) (fp : GTransfer → Bool) (fA : List SP) (hfc : callable Tryz.prog fF = true) (hfF : ∀ x ∈ s, ∀ (a1 : Option Addr) (k1 : Nat) (a3 : Option Addr) (k3 : Nat) (a4 : Option Addr) (k4 : Nat), i64ok x.Gen.Width → i64ok x.Kill.Width → FT Tryz.prog fF ([(.agg #[vi x.Gen.Width, vl a1 k1 x.Gen.Words, vi x.Kill.Width, vl a3 k3 x.Kill.Words, vl a4 k4 x.Copies] : Value)] ++ fC).toArray ([S a1 k1 x.Gen.Words, S a3 k3 x.Kill.Words, S a4 k4 x.Copies] ++ [pAll fA]) (fun _ : Unit => True) (fun _ => .bool (fp x)) (fun _ => [])) (rr : Int) (hrr : slices_IndexFunc_Transfer s fp = rr) : FT Tryz.prog 241 #[vl sa0 sk0 s, .func (.func fF) #[] fC.toArray] [S sa0 sk0 s, pAll fA] (fun g : Unit => i64ok rr) (fun g => vi rr) (fun g => []) := by
 refine FTi Tryz.func241 fun w0 M0 F0 => ?_
 refine Fb 88 0 fun hl1 => ?_
 refine KS ?_
 refine Oq Va (KS ?_)
 refine Oq Vm (Oq (Vlen sl24) (Oq Vm (KS ?_)))
 refine Kl (γ := Nat × Int) (fun (r2, v8_3) => ⟨[(0, vl sa0 sk0 s), (1, .func (.func fF) #[] fC.toArray), (7, vi (s.length : Int)), (8, vi v8_3)], [S sa0 sk0 s, pAll fA], slices_IndexFunc_Transfer_L0 s fp r2 v8_3 = slices_IndexFunc_Transfer_L0 s fp (((s.length : Int) - 0).toNat) 0 ∧ r2 = ((s.length : Int) - v8_3).toNat ∧ (0 : Int) ≤ v8_3 ∧ v8_3 ≤ (s.length : Int) ∧ (-9223372036854775808 ≤ v8_3 ∧ v8_3 ≤ 9223372036854775807), r2⟩) (((s.length : Int) - 0).toNat, 0) [0, 1] ⟨rfl, rfl, (by omega), (by omega), (by omega)⟩ ?_
 rintro ⟨r2, v8_3⟩ ⟨hM4, hr5, hi6, hi7, hk8⟩
 refine JJ_nx fun _ _ hL hA => ?_; dsimp only at hL hA; subst hL hA
 refine Fb 88 0 fun hl9 => ?_
 refine KS ?_
 refine Oq Vlss (KS ?_)
 refine Kc ?_ ?_
 · intro h10
   have g11 := of_decide_eq_true h10
   obtain ⟨r12, rfl⟩ := scc (n := r2) (by omega)
   refine KS ?_
   refine Oq Vm (Oq Va (KS ?_))
   refine Oq Vm (Oq Vm (Oq Vm (Oq (Vi sl24 0) ?_)))
   refine JJ_peek_GTransfer v8_3.toNat 0 rfl rng fun a13 k14 a15 k16 a17 k18 hb19 hb20 => ?_
   unfold i64ok at hb19 hb20
   refine Fb 8 1 fun hl21 => ?_
   refine Fb 8 2 fun hl22 => ?_
   refine Fb 16 3 fun hl23 => ?_
   refine Oq (VldA sh98 0) ?_
   refine JO_call [1, 2, 3, 5] rfl rfl rfl (OpC.clo («as» := [(.agg #[vi (((s.getD v8_3.toNat default).Gen).Width), vl a13 k14 (((s.getD v8_3.toNat default).Gen).Words), vi (((s.getD v8_3.toNat default).Kill).Width), vl a15 k16 (((s.getD v8_3.toNat default).Kill).Words), vl a17 k18 ((s.getD v8_3.toNat default).Copies)] : Value)] ++ fC) rfl rfl hfc rfl (by simp)) (hfF (s.getD v8_3.toNat default) (getD_mem rng) a13 k14 a15 k16 a17 k18 (by unfold i64ok; omega) (by unfold i64ok; omega)) rfl fun _ _ => ?_
   refine KS ?_
   refine Kc ?_ ?_
   · intro h24
     refine KS ?_
     refine Oq Vm (Oq Va (KS ?_))
     have hR26 := q2 hM4 (.ret v8_3) (by simp only [slices_IndexFunc_Transfer_L0, h10, h24, cs4])
     have hq := q4 hrr v8_3 (by simp only [slices_IndexFunc_Transfer, h10, h24, hR26, cs4]); subst hq
     exact Kr () rfl (.tmp rfl .nil) [] en
   intro h24
   refine KS ?_
   refine Oq Vadd (Oq Vm (KS ?_))
   exact Kg (r12, (v8_3 + 1)) [4, 5] ⟨(q3 hM4 (by simp only [slices_IndexFunc_Transfer_L0, h10, h24, cs4])), (by omega), (by omega), (by omega), (by omega)⟩
 intro h10
 have g28 := of_decide_eq_false h10
 obtain rfl : r2 = 0 := by omega
 refine Ke ?_
 have hR29 := q2 hM4 (.brk ()) (by simp only [slices_IndexFunc_Transfer_L0, h10, cs4])
 refine KS ?_
 refine Oq Va (KS ?_)
 have hq := q4 hrr (-1) (by simp only [slices_IndexFunc_Transfer, h10, hR29, cs4]); subst hq
 exact Kr () rfl (.tmp rfl .nil) [] en
theorem fn188 (s : List GTransfer) (sa0 : Option Addr) (sk0 : Nat) (fF : FuncId) (fC : List Value) (fp : GTransfer → Bool) (fA : List SP) (hfc : callable Tryz.prog fF = true) (hfF : ∀ x ∈ s, ∀ (a1 : Option Addr) (k1 : Nat) (a3 : Option Addr) (k3 : Nat) (a4 : Option Addr) (k4 : Nat), i64ok x.Gen.Width → i64ok x.Kill.Width → FT Tryz.prog fF ([(.agg #[vi x.Gen.Width, vl a1 k1 x.Gen.Words, vi x.Kill.Width, vl a3 k3 x.Kill.Words, vl a4 k4 x.Copies] : Value)] ++ fC).toArray ([S a1 k1 x.Gen.Words, S a3 k3 x.Kill.Words, S a4 k4 x.Copies] ++ [pAll fA]) (fun _ : Unit => True) (fun _ => .bool (fp x)) (fun _ => [])) (rr : Bool) (hrr : slices_ContainsFunc_Transfer s fp = rr) : FT Tryz.prog 188 #[vl sa0 sk0 s, .func (.func fF) #[] fC.toArray] [S sa0 sk0 s, pAll fA] (fun g : Unit => True) (fun g => vb rr) (fun g => []) := by
 refine FTi Tryz.func188 fun w0 M0 F0 => ?_
 refine Fb 88 0 fun hl1 => ?_
 refine KS ?_
 refine Oq Va (KS ?_)
 refine Oq Vm (Oq Vm ?_)
 refine letv (slices_IndexFunc_Transfer s fp) fun rv2 hg3 => ?_
 have hc4 := fn241 s sa0 sk0 fF fC fp fA hfc hfF rv2 hg3
 refine Oc [0, 1] ca241 hc4 ?_
 rintro - he5
 unfold i64ok at he5
 refine Oq Vgeq (Oq Va (KS ?_))
 have hq := q4 hrr (decide (0 ≤ rv2)) (by simp only [slices_ContainsFunc_Transfer, hg3, cs4]); subst hq
 exact Kr () rfl (.tmp rfl .nil) [] trivial
theorem fn157 (t : GTransfer) (ta1 : Option Addr) (tk1 : Nat) (ta3 : Option Addr) (tk3 : Nat) (ta4 : Option Addr) (tk4 : Nat) (b : Int) (ht_0 : i64ok t.Gen.Width) (ht_2 : i64ok t.Kill.Width) (hb_0 : i64ok b) (rr : Bool) (hrr : transfer_bit t b = rr) : FT Tryz.prog 157 #[.agg #[vi t.Gen.Width, vl ta1 tk1 t.Gen.Words, vi t.Kill.Width, vl ta3 tk3 t.Kill.Words, vl ta4 tk4 t.Copies], vi b] [S ta1 tk1 t.Gen.Words, S ta3 tk3 t.Kill.Words, S ta4 tk4 t.Copies] (fun g : Unit => True) (fun g => vb rr) (fun g => []) := by
 refine FTi Tryz.func157 fun w0 M0 F0 => ?_
 unfold i64ok at ht_0 ht_2 hb_0
 refine Fb 8 0 fun hl1 => ?_
 refine Fb 8 1 fun hl2 => ?_
 refine Fb 16 2 fun hl3 => ?_
 refine KS ?_
 refine Oa (Ab [vi t.Gen.Width, vl ta1 tk1 t.Gen.Words, vi t.Kill.Width, vl ta3 tk3 t.Kill.Words, vl ta4 tk4 t.Copies]) fun p4 => Oq Va (KS ?_)
 refine Oq Vm (Oq Vgeq (Oq Vm ?_))
 refine Js 7 ?_ ?_
 · intro h5
   have g6 := of_decide_eq_true h5
   refine Oq Vm (Oq (Vfa fo98_0 0) (Oq (VfaF fo42_0 0) (Oq (VldF sh3 0) (Oq Vlss (Oq Vpt (Oq Va (KS ?_)))))))
   have hq := q4 hrr (decide (b < t.Gen.Width)) (by simp only [transfer_bit, h5, cs4]); subst hq
   exact Kr () rfl (.tmp rfl .nil) [] trivial
 intro h5
 have g7 := of_decide_eq_false h5
 refine Osk (Osk (Osk (Osk (Osk (Oq Vpf (Oq Va (KS ?_)))))))
 have hq := q4 hrr false (by simp only [transfer_bit, h5, cs4]); subst hq
 exact Kr () rfl (.tmp rfl .nil) [] trivial
theorem fn208 (x : Int) (hx_0 : i64ok x) (rr : Bool) (hrr : cmp_isNaN_int x = rr) : FT Tryz.prog 208 #[vi x] [] (fun g : Unit => True) (fun g => vb rr) (fun g => []) := by
 refine FTi Tryz.func208 fun w0 M0 F0 => ?_
 unfold i64ok at hx_0
 refine KS ?_
 refine Oq Va (KS ?_)
 refine Oq Vm (Oq Vm (Oq Vneq (Oq Va (KS ?_))))
 have hq := q4 hrr (x != x) (by simp only [cmp_isNaN_int, cs4]); subst hq
 exact Kr () rfl (.tmp rfl .nil) [] trivial
theorem fn148 (x : Int) (y : Int) (hx_0 : i64ok x) (hy_0 : i64ok y) (rr : Int) (hrr : cmp_Compare_int x y = rr) : FT Tryz.prog 148 #[vi x, vi y] [] (fun g : Unit => i64ok rr) (fun g => vi rr) (fun g => []) := by
 refine FTi Tryz.func148 fun w0 M0 F0 => ?_
 unfold i64ok at hx_0 hy_0
 refine KS ?_
 refine Oq Va (KS ?_)
 refine Oq Vm ?_
 refine letv (cmp_isNaN_int x) fun rv1 hg2 => ?_
 have hc3 := fn208 x pre rv1 hg2
 refine Oc [] ca208 hc3 ?_
 rintro - -
 refine Oq Va (KS ?_)
 refine Oq Vm ?_
 refine letv (cmp_isNaN_int y) fun rv4 hg5 => ?_
 have hc6 := fn208 y pre rv4 hg5
 refine Oc [] ca208 hc6 ?_
 rintro - -
 refine Oq Va (KS ?_)
 refine Oq Vm (KS ?_)
 refine Kc ?_ ?_
 · intro h7
   refine KS ?_
   refine Oq Vm (KS ?_)
   refine Kc ?_ ?_
   · intro h9
     refine KS ?_
     refine Oq Va (KS ?_)
     have hq := q4 hrr 0 (by simp only [cmp_Compare_int, h7, h9, hg2, hg5, cs4]); subst hq
     exact Kr () rfl (.tmp rfl .nil) [] en
   intro h9
   refine KS ?_
   refine Oq Va (KS ?_)
   have hq := q4 hrr (-1) (by simp only [cmp_Compare_int, h7, h9, hg2, hg5, cs4]); subst hq
   exact Kr () rfl (.tmp rfl .nil) [] en
 intro h7
 refine KS ?_
 refine Oq Vm (KS ?_)
 refine Kc ?_ ?_
 · intro h13
   refine KS ?_
   refine Oq Va (KS ?_)
   have hq := q4 hrr 1 (by simp only [cmp_Compare_int, h7, h13, hg2, hg5, cs4]); subst hq
   exact Kr () rfl (.tmp rfl .nil) [] en
 intro h13
 refine KS ?_
 refine Oq Vm (Oq Vm (Oq Vlss (KS ?_)))
 refine Kc ?_ ?_
 · intro h16
   have g17 := of_decide_eq_true h16
   refine KS ?_
   refine Oq Va (KS ?_)
   have hq := q4 hrr (-1) (by simp only [cmp_Compare_int, h7, h13, h16, hg2, hg5, cs4]); subst hq
   exact Kr () rfl (.tmp rfl .nil) [] en
 intro h16
 have g18 := of_decide_eq_false h16
 refine KS ?_
 refine Oq Vm (Oq Vm (Oq Vgtr (KS ?_)))
 refine Kc ?_ ?_
 · intro h19
   have g20 := of_decide_eq_true h19
   refine KS ?_
   refine Oq Va (KS ?_)
   have hq := q4 hrr 1 (by simp only [cmp_Compare_int, h7, h13, h16, h19, hg2, hg5, cs4]); subst hq
   exact Kr () rfl (.tmp rfl .nil) [] en
 intro h19
 have g21 := of_decide_eq_false h19
 refine KS ?_
 refine Oq Va (KS ?_)
 have hq := q4 hrr 0 (by simp only [cmp_Compare_int, h7, h13, h16, h19, hg2, hg5, cs4]); subst hq
 exact Kr () rfl (.tmp rfl .nil) [] en
theorem fn259 (vals : List Int) (valsa0 : Option Addr) (valsk0 : Nat) (rr : Int) (hrr : cmp_Or_int vals = rr) : FT Tryz.prog 259 #[vl valsa0 valsk0 vals] [S valsa0 valsk0 vals] (fun g : Unit => i64ok rr) (fun g => vi rr) (fun g => []) := by
 refine FTi Tryz.func259 fun w0 M0 F0 => ?_
 refine Fb 8 0 fun hl1 => ?_
 refine Fo 0 fun ho2 => ?_
 refine KS ?_
 refine Oq Va (KS ?_)
 refine Oq Va (KS ?_)
 refine Oq Vm (Oq (Vlen sl22) (Oq Vm (KS ?_)))
 refine Kl (γ := Nat × Int) (fun (r3, v8_4) => ⟨[(3, vi 0), (6, vl valsa0 valsk0 vals), (7, vi (vals.length : Int)), (8, vi v8_4)], [S valsa0 valsk0 vals], cmp_Or_int_L0 vals r3 v8_4 = cmp_Or_int_L0 vals (((vals.length : Int) - 0).toNat) 0 ∧ r3 = ((vals.length : Int) - v8_4).toNat ∧ (0 : Int) ≤ v8_4 ∧ v8_4 ≤ (vals.length : Int) ∧ (-9223372036854775808 ≤ v8_4 ∧ v8_4 ≤ 9223372036854775807), r3⟩) (((vals.length : Int) - 0).toNat, 0) [0] ⟨rfl, rfl, (by omega), (by omega), (by omega)⟩ ?_
 rintro ⟨r3, v8_4⟩ ⟨hM5, hr6, hi7, hi8, hk9⟩
 refine JJ_nx fun _ _ hL hA => ?_; dsimp only at hL hA; subst hL hA
 refine Fb 8 0 fun hl10 => ?_
 refine Fo 0 fun ho11 => ?_
 refine KS ?_
 refine Oq Vlss (KS ?_)
 refine Kc ?_ ?_
 · intro h12
   have g13 := of_decide_eq_true h12
   obtain ⟨r14, rfl⟩ := scc (n := r3) (by omega)
   refine KS ?_
   refine Oq (Vi sl22 0) ?_
   have hb15 := ok1 (i := v8_4.toNat) ho11 rng
   refine Oq (VldI sh3 0) (Oq Va (KS ?_))
   refine Oq Vm (Oq Vm (Oq Vneq (KS ?_)))
   refine Kc ?_ ?_
   · intro h16
     have g17 := ne_of_bne h16
     refine KS ?_
     refine Oq Vm (Oq Va (KS ?_))
     have hR18 := q2 hM5 (.ret (vals.getD v8_4.toNat 0)) (by simp only [cmp_Or_int_L0, h12, h16, cs4])
     have hq := q4 hrr (vals.getD v8_4.toNat 0) (by simp only [cmp_Or_int, h12, h16, hR18, cs4]); subst hq
     exact Kr () rfl (.tmp rfl .nil) [] en
   intro h16
   have g19 := eq_of_bne_false h16
   refine KS ?_
   refine Oq Vadd (Oq Vm (KS ?_))
   exact Kg (r14, (v8_4 + 1)) [0] ⟨(q3 hM5 (by simp only [cmp_Or_int_L0, h12, h16, cs4])), (by omega), (by omega), (by omega), (by omega)⟩
 intro h12
 have g20 := of_decide_eq_false h12
 obtain rfl : r3 = 0 := by omega
 refine Ke ?_
 have hR21 := q2 hM5 (.brk ()) (by simp only [cmp_Or_int_L0, h12, cs4])
 refine KS ?_
 refine Oq Vm (Oq Va (KS ?_))
 have hq := q4 hrr 0 (by simp only [cmp_Or_int, h12, hR21, cs4]); subst hq
 exact Kr () rfl (.tmp rfl .nil) [] en
theorem fn212 (a : GCopy) (b : GCopy) (ha_0 : i64ok a.From) (ha_1 : i64ok a.To) (hb_0 : i64ok b.From) (hb_1 : i64ok b.To) (rr : Int) (hrr : transfer_compare a b = rr) : FT Tryz.prog 212 #[.agg #[vi a.From, vi a.To], .agg #[vi b.From, vi b.To]] [] (fun g : Unit => i64ok rr) (fun g => vi rr) (fun g => []) := by
 refine FTi Tryz.func212 fun w0 M0 F0 => ?_
 unfold i64ok at ha_0 ha_1 hb_0 hb_1
 refine KS ?_
 refine Oa (Ab [vi a.From, vi a.To]) fun p1 => Oa (Ab [vi b.From, vi b.To]) fun p2 => Oq Va (KS ?_)
 refine JK_drawK [0, 1, 0, 4, 15, 0, 32, 0, 128, 511, 1023, 2047, 4095] fmix ?_
 refine Dv [1] (Vfa fo147_0 0) (Dv [1] (VldF sh3 0) (Dv [0] (Vfa fo147_0 0) (Dv [0] (VldF sh3 0) ?_)))
 refine letv (cmp_Compare_int a.From b.From) fun rv3 hg4 => ?_
 refine Dx [] [] [0] (fun G => vi rv3) [fun G => SP.fact (i64ok rv3)] (fun G => xC [] ca148 (fn148 a.From b.From pre pre rv3 hg4)) (Dv [1] (Vfa fo147_1 0) (Dv [1] (VldF sh3 0) (Dv [0] (Vfa fo147_1 0) (Dv [0] (VldF sh3 0) ?_))))
 refine letv (cmp_Compare_int a.To b.To) fun rv5 hg6 => ?_
 refine Dx [2] [] [1, 0] (fun G => vi rv5) [fun G => SP.fact (i64ok rv5)] (fun G => by refine xf 0 rfl ?_; rintro he7; unfold i64ok at he7; exact xC [] ca148 (fn148 a.To b.To pre pre rv5 hg6)) (Dx [] [] [0] (fun G => (G.g 10 0)) [fun G => Cr (G.g 10 0) 2 [vi rv3, vi rv5]] (fun G => xA (AsV sl22 sz22 [vi rv3, vi rv5] [vi rv3, vi rv5])) ?_)
 refine letv (cmp_Or_int [rv3, rv5]) fun rv12 hg13 => ?_
 refine Dx [2, 3, 4] [4] [2, 3, 1, 0] (fun G => vi rv12) [fun G => sl (G.g 10 0) ([rv3, rv5] : List Int), fun G => SP.fact (i64ok rv12)] (fun G => by refine xf 0 rfl ?_; rintro he14; unfold i64ok at he14; refine xf 1 rfl ?_; rintro he15; unfold i64ok at he15; exact xp [2] rfl (Ent.crInt _ [rv3, rv5] _ _ rfl rfl (by intro x hx; simp only [List.mem_cons, List.not_mem_nil, or_false] at hx; rcases hx with rfl | rfl <;> (unfold i64ok; omega)) (Nat.le_of_ble_eq_true rfl)) (xp [0] rfl (Ent.freeze _ _) (xD [0] ca259 rfl rfl rfl (FT_open (γ := Unit) (I := fun g => i64ok rv12) (V := fun g => vi rv12) (B := fun g => []) (R := sl (G.g 10 0) ([rv3, rv5] : List Int)) sl_slice (fun aq9 kq10 eq11 => by rw [eq11]; exact FT_ent (Ent.take (is := [0]) rfl) (fn259 ([rv3, rv5]) aq9 kq10 rv12 hg13)))))) (Dv [] Va ?_)
 refine Dn ⟨by kernel_rfl, fun G => ?_⟩
 refine Jw2 [(4, vi rv12)] [0, 1] [SP.fact (i64ok rv3), SP.fact (i64ok rv5), sl (G.g 10 0) ([rv3, rv5] : List Int), SP.fact (i64ok rv12)] ?_
 generalize G.g 10 0 = c8
 refine Jf 2 rfl ?_; rintro he16
 unfold i64ok at he16
 refine Jf 3 rfl ?_; rintro he17
 unfold i64ok at he17
 refine Jf 5 rfl ?_; rintro he18
 unfold i64ok at he18
 refine Jk [0, 1, 4] ?_
 refine Jo 2 ?_; rintro a19 k20 rfl
 refine Fb 8 2 fun hl21 => ?_
 refine Fo 2 fun ho22 => ?_
 have hq := q4 hrr rv12 (by simp only [transfer_compare, hg4, hg6, hg13, cs4]); subst hq
 exact Kr () rfl (.tmp rfl .nil) [] en
theorem fn156 (t : GTransfer) (ta1 : Option Addr) (tk1 : Nat) (ta3 : Option Addr) (tk3 : Nat) (ta4 : Option Addr) (tk4 : Nat) (ht_0 : i64ok t.Gen.Width) (ht_2 : i64ok t.Kill.Width) (rr : Bool) (hrr : transfer_Valid t = rr) : FT Tryz.prog 156 #[.agg #[vi t.Gen.Width, vl ta1 tk1 t.Gen.Words, vi t.Kill.Width, vl ta3 tk3 t.Kill.Words, vl ta4 tk4 t.Copies]] [S ta1 tk1 t.Gen.Words, S ta3 tk3 t.Kill.Words, S ta4 tk4 t.Copies] (fun g : Unit => True) (fun g => vb rr) (fun g => []) := by
 refine FTi Tryz.func156 fun w0 M0 F0 => ?_
 unfold i64ok at ht_0 ht_2
 refine Fb 8 0 fun hl1 => ?_
 refine Fb 8 1 fun hl2 => ?_
 refine Fb 16 2 fun hl3 => ?_
 refine KS ?_
 refine Oa (Ab [vi t.Gen.Width, vl ta1 tk1 t.Gen.Words, vi t.Kill.Width, vl ta3 tk3 t.Kill.Words, vl ta4 tk4 t.Copies]) fun p4 => Oq Va (KS ?_)
 refine Oq (Vfa fo98_0 0) (Oq (VldG sh42 0 [vi t.Gen.Width, vl ta1 tk1 t.Gen.Words]) ?_)
 refine letv (bitset_Valid t.Gen) fun rv5 hg6 => ?_
 have hc7 := fn123 t.Gen ta1 tk1 pre rv5 hg6
 refine Oc [1] ca123 hc7 ?_
 rintro - -
 refine Oq Vnot (Oq Vm ?_)
 refine Js 9 ?_ ?_
 · intro h8
   have h10 := not_true h8
   refine Osk (Osk (Osk (Osk (Oq Vpt (Oq Vm (Osk (Osk (Osk (Osk ?_)))))))))
   refine Osk (Osk (Osk (Oq Vpt (Oq Vm (Osk (Osk (Osk (Osk (Oq Vpt ?_)))))))))
   refine KS ?_
   refine Kt ?_
   refine KS ?_
   refine Oq Va (KS ?_)
   have hq := q4 hrr false (by simp only [transfer_Valid, h8, h10, hg6, cs4]); subst hq
   exact Kr () rfl (.tmp rfl .nil) [] trivial
 intro h8
 have h13 := not_false h8
 refine Oq (Vfa fo98_1 0) (Oq (VldG sh42 0 [vi t.Kill.Width, vl ta3 tk3 t.Kill.Words]) ?_)
 refine letv (bitset_Valid t.Kill) fun rv15 hg16 => ?_
 have hc17 := fn123 t.Kill ta3 tk3 pre rv15 hg16
 refine Oc [2] ca123 hc17 ?_
 rintro - -
 refine Oq Vnot (Oq Vpf (Oq Vm ?_))
 refine Js 15 ?_ ?_
 · intro h18
   have h20 := not_true h18
   refine Osk (Osk (Osk (Osk (Osk (Osk (Osk (Oq Vpt (Oq Vm (Osk ?_)))))))))
   refine Osk (Osk (Osk (Oq Vpt (KS ?_))))
   refine Kt ?_
   refine KS ?_
   refine Oq Va (KS ?_)
   have hq := q4 hrr false (by simp only [transfer_Valid, h8, h13, h18, h20, hg6, hg16, cs4]); subst hq
   exact Kr () rfl (.tmp rfl .nil) [] trivial
 intro h18
 have h23 := not_false h18
 refine Oq (Vfa fo98_0 0) (Oq (VfaF fo42_0 0) (Oq (VldF sh3 0) (Oq (Vfa fo98_1 0) (Oq (VfaF fo42_0 0) (Oq (VldF sh3 0) (Oq Vneq (Oq Vpf (Oq Vm ?_))))))))
 refine Js 24 ?_ ?_
 · intro h25
   have g26 := ne_of_bne h25
   refine Osk (Osk (Osk (Osk (Oq Vpt (KS ?_)))))
   refine Kt ?_
   refine KS ?_
   refine Oq Va (KS ?_)
   have hq := q4 hrr false (by simp only [transfer_Valid, h8, h13, h18, h23, h25, hg6, hg16, cs4]); subst hq
   exact Kr () rfl (.tmp rfl .nil) [] trivial
 intro h25
 have g27 := eq_of_bne_false h25
 refine Oq (Vfa fo98_2 0) (Oq (VldF sh96 0) (Oq (Vlen sl96) (Oq Vgtr (Oq Vpf (KS ?_)))))
 refine Kc ?_ ?_
 · intro h28
   have g29 := of_decide_eq_true h28
   refine KS ?_
   refine Oq Va (KS ?_)
   have hq := q4 hrr false (by simp only [transfer_Valid, h8, h13, h18, h23, h25, h28, hg6, hg16, cs4]); subst hq
   exact Kr () rfl (.tmp rfl .nil) [] trivial
 intro h28
 have g30 := of_decide_eq_false h28
 refine KS ?_
 refine Oq (Vfa fo98_2 0) (Oq (VldF sh96 0) (Oq (Vlen sl96) (Oq Vm (KS ?_))))
 refine Kl (γ := Nat × Int) (fun (r31, v33_32) => ⟨[(1, p4), (31, vl ta4 tk4 t.Copies), (32, vi (t.Copies.length : Int)), (33, vi v33_32)], [pv p4 [vi t.Gen.Width, vl ta1 tk1 t.Gen.Words, vi t.Kill.Width, vl ta3 tk3 t.Kill.Words, vl ta4 tk4 t.Copies], S ta1 tk1 t.Gen.Words, S ta3 tk3 t.Kill.Words, S ta4 tk4 t.Copies], transfer_Valid_L0 t r31 v33_32 = transfer_Valid_L0 t (((t.Copies.length : Int) - 0).toNat) 0 ∧ r31 = ((t.Copies.length : Int) - v33_32).toNat ∧ (0 : Int) ≤ v33_32 ∧ v33_32 ≤ (t.Copies.length : Int) ∧ (-9223372036854775808 ≤ v33_32 ∧ v33_32 ≤ 9223372036854775807), r31⟩) (((t.Copies.length : Int) - 0).toNat, 0) [0, 1, 2, 3] ⟨rfl, rfl, (by omega), (by omega), (by omega)⟩ ?_
 rintro ⟨r31, v33_32⟩ ⟨hM33, hr34, hi35, hi36, hk37⟩
 refine JJ_nx fun _ _ hL hA => ?_; dsimp only at hL hA; subst hL hA
 refine Fb 8 1 fun hl38 => ?_
 refine Fb 8 2 fun hl39 => ?_
 refine Fb 16 3 fun hl40 => ?_
 refine KS ?_
 refine Oq Vlss (KS ?_)
 refine Kc ?_ ?_
 · intro h41
   have g42 := of_decide_eq_true h41
   obtain ⟨r43, rfl⟩ := scc (n := r31) (by omega)
   refine KS ?_
   refine Oq Vm (Oq (Vi sl96 3) ?_)
   refine JJ_peek_GCopy v33_32.toNat 3 rfl rng fun hb44 hb45 => ?_
   unfold i64ok at hb44 hb45
   refine Oq (VldA sh147 0) (Oa (Al ze147 [vi 0, vi 0]) fun p46 => Oq Va (Ost (Scl [0] sh147 [vi ((t.Copies.getD v33_32.toNat default).From), vi ((t.Copies.getD v33_32.toNat default).To)]) (KS ?_)))
   refine Jp 0 fun hp47 => ?_
   refine letv (transfer_bit t ((t.Copies.getD v33_32.toNat default).From)) fun rv48 hg49 => ?_
   refine bool_split (!rv48) ?_ ?_
   · intro h50
     have h52 := not_true h50
     refine JK_drawK [0, 0, 2, 7, 15, 31, 63, 63, 191, 511, 1023, 2047, 4095, 8191, 16383, 32767, 65535, 131071, 65535, 327679, 1048575, 2097151, 65535, 8388607, 16777215, 33554431, 67108863] fmix ?_
     refine Dv [3] (VldA sh98 0) (Dv [0] (Vfa fo147_0 0) (Dv [1] (VldF sh3 0) (Dx [4, 5, 6] [] [1, 2, 3, 0] (fun G => vb rv48) [fun G => SP.fact (True)] (fun G => xC [0, 1, 2] ca157 (fn157 t ta1 tk1 ta3 tk3 ta4 tk4 ((t.Copies.getD v33_32.toNat default).From) pre pre pre rv48 hg49)) (Db h50 [] Vnot (Dv [] Vm (Ds (Ds (Ds (Ds ?_)))))))))
     refine Ds (Dv [] Vpt (Dv [] Vm (Ds (Ds (Ds (Ds (Ds (Ds (Ds ?_)))))))))
     refine Ds (Ds (Ds (Ds (Ds (Ds (Dv [] Vpt ?_))))))
     refine Dn ⟨by kernel_rfl, fun G => ?_⟩
     refine Jw2 [(1, p4), (31, vl ta4 tk4 t.Copies), (32, vi (t.Copies.length : Int)), (33, vi v33_32), (64, vb true)] [0, 1, 2, 3, 4, 5, 6] [SP.fact (True)] ?_
     refine Jk [1, 1, 2, 3, 4, 5] ?_
     refine Kt ?_
     refine KS ?_
     refine Oq Va (KS ?_)
     have hR54 := q2 hM33 (.ret false) (by simp only [transfer_Valid_L0, h8, h13, h18, h23, h25, h28, h41, h50, h52, hg6, hg16, hg49, cs4])
     have hq := q4 hrr false (by simp only [transfer_Valid, h8, h13, h18, h23, h25, h28, h41, h50, h52, hg6, hg16, hg49, hR54, cs4]); subst hq
     exact Kr () rfl (.tmp rfl .nil) [] trivial
   intro h50
   have h56 := not_false h50
   refine letv (transfer_bit t ((t.Copies.getD v33_32.toNat default).To)) fun rv58 hg59 => ?_
   refine bool_split (!rv58) ?_ ?_
   · intro h60
     have h62 := not_true h60
     refine JK_drawK [0, 0, 2, 7, 15, 31, 63, 63, 191, 511, 1023, 2047, 4095, 8191, 16383, 32767, 65535, 131071, 65535, 327679, 1048575, 2097151, 65535, 8388607, 16777215, 33554431, 67108863] fmix ?_
     refine Dv [3] (VldA sh98 0) (Dv [0] (Vfa fo147_0 0) (Dv [1] (VldF sh3 0) (Dx [4, 5, 6] [] [1, 2, 3, 0] (fun G => vb rv48) [fun G => SP.fact (True)] (fun G => xC [0, 1, 2] ca157 (fn157 t ta1 tk1 ta3 tk3 ta4 tk4 ((t.Copies.getD v33_32.toNat default).From) pre pre pre rv48 hg49)) (Db h50 [] Vnot (Dv [] Vm (Dv [3] (VldA sh98 0) (Dv [0] (Vfa fo147_1 0) (Dv [1] (VldF sh3 0) (Dx [4, 5, 6] [] [1, 2, 3, 0] (fun G => vb rv58) [fun G => SP.fact (True)] (fun G => xC [0, 1, 2] ca157 (fn157 t ta1 tk1 ta3 tk3 ta4 tk4 ((t.Copies.getD v33_32.toNat default).To) pre pre pre rv58 hg59)) ?_)))))))))
     refine Db h60 [] Vnot (Dv [] Vpf (Dv [] Vm (Ds (Ds (Ds (Ds (Ds (Ds (Ds ?_)))))))))
     refine Ds (Ds (Ds (Ds (Ds (Ds (Dv [] Vpt ?_))))))
     refine Dn ⟨by kernel_rfl, fun G => ?_⟩
     refine Jw2 [(1, p4), (31, vl ta4 tk4 t.Copies), (32, vi (t.Copies.length : Int)), (33, vi v33_32), (64, vb true)] [0, 1, 2, 3, 4, 5, 6] [SP.fact (True), SP.fact (True)] ?_
     refine Jk [1, 1, 2, 3, 4, 5] ?_
     refine Kt ?_
     refine KS ?_
     refine Oq Va (KS ?_)
     have hR64 := q2 hM33 (.ret false) (by simp only [transfer_Valid_L0, h8, h13, h18, h23, h25, h28, h41, h50, h56, h60, h62, hg6, hg16, hg49, hg59, cs4])
     have hq := q4 hrr false (by simp only [transfer_Valid, h8, h13, h18, h23, h25, h28, h41, h50, h56, h60, h62, hg6, hg16, hg49, hg59, hR64, cs4]); subst hq
     exact Kr () rfl (.tmp rfl .nil) [] trivial
   intro h60
   have h66 := not_false h60
   refine bool_split (decide (0 < v33_32)) ?_ ?_
   · intro h68
     have g69 := of_decide_eq_true h68
     refine JJ_peek_GCopy ((v33_32 - 1) : Int).toNat 6 rfl rng fun hb70 hb71 => ?_
     unfold i64ok at hb70 hb71
     refine JK_drawK [0, 0, 2, 7, 15, 31, 63, 63, 191, 511, 1023, 2047, 4095, 8191, 16383, 32767, 65535, 131071, 65535, 327679, 1048575, 2097151, 65535, 8388607, 16777215, 33554431, 67108863] fmix ?_
     refine Dv [4] (VldA sh98 0) (Dv [1] (Vfa fo147_0 0) (Dv [2] (VldF sh3 0) (Dx [5, 6, 7] [] [1, 2, 3, 0] (fun G => vb rv48) [fun G => SP.fact (True)] (fun G => xC [0, 1, 2] ca157 (fn157 t ta1 tk1 ta3 tk3 ta4 tk4 ((t.Copies.getD v33_32.toNat default).From) pre pre pre rv48 hg49)) (Db h50 [] Vnot (Dv [] Vm (Dv [4] (VldA sh98 0) (Dv [1] (Vfa fo147_1 0) (Dv [2] (VldF sh3 0) (Dx [5, 6, 7] [] [1, 2, 3, 0] (fun G => vb rv58) [fun G => SP.fact (True)] (fun G => xC [0, 1, 2] ca157 (fn157 t ta1 tk1 ta3 tk3 ta4 tk4 ((t.Copies.getD v33_32.toNat default).To) pre pre pre rv58 hg59)) ?_)))))))))
     refine Db h60 [] Vnot (Dv [] Vpf (Dv [] Vm (Dv [] Vm (Db h68 [] Vgtr (Dv [] Vm (Dv [4] (Vfa fo98_2 0) (Dv [4] (VldF sh96 0) (Dv [] Vm (Dv [] Vsub ?_)))))))))
     refine Dv [7] (Vi sl96 0) (Dv [0] (VldA sh147 0) (Dv [2] (VldA sh147 0) ?_))
     refine letv (transfer_compare (t.Copies.getD ((v33_32 - 1) : Int).toNat default) (t.Copies.getD v33_32.toNat default)) fun rv72 hg73 => ?_
     refine Dx [] [] [0] (fun G => vi rv72) [fun G => SP.fact (i64ok rv72)] (fun G => xC [] ca212 (fn212 ((t.Copies.getD ((v33_32 - 1) : Int).toNat default)) ((t.Copies.getD v33_32.toNat default)) pre pre pre pre rv72 hg73)) (Dv [] Vgeq (Dv [] Vpt (Dv [] Vpf ?_)))
     refine Dn ⟨by kernel_rfl, fun G => ?_⟩
     refine Jw2 [(1, p4), (31, vl ta4 tk4 t.Copies), (32, vi (t.Copies.length : Int)), (33, vi v33_32), (64, vb (decide (0 ≤ rv72)))] [0, 1, 2, 3, 4, 5, 6, 7] [SP.fact (True), SP.fact (True), SP.fact (i64ok rv72)] ?_
     refine Jf 10 rfl ?_; rintro he74
     unfold i64ok at he74
     refine Jk [0, 2, 2, 3, 4, 5, 6] ?_
     refine Kc ?_ ?_
     · intro h75
       have g76 := of_decide_eq_true h75
       refine KS ?_
       refine Oq Va (KS ?_)
       have hR77 := q2 hM33 (.ret false) (by simp only [transfer_Valid_L0, h8, h13, h18, h23, h25, h28, h41, h50, h56, h60, h66, h68, h75, hg6, hg16, hg49, hg59, hg73, cs4])
       have hq := q4 hrr false (by simp only [transfer_Valid, h8, h13, h18, h23, h25, h28, h41, h50, h56, h60, h66, h68, h75, hg6, hg16, hg49, hg59, hg73, hR77, cs4]); subst hq
       exact Kr () rfl (.tmp rfl .nil) [] trivial
     intro h75
     have g78 := of_decide_eq_false h75
     refine KS ?_
     refine Oq Vadd (Oq Vm (KS ?_))
     exact Kg (r43, (v33_32 + 1)) [3, 4, 5, 6] ⟨(q3 hM33 (by simp only [transfer_Valid_L0, h8, h13, h18, h23, h25, h28, h41, h50, h56, h60, h66, h68, h75, hg6, hg16, hg49, hg59, hg73, cs4])), (by omega), (by omega), (by omega), (by omega)⟩
   intro h68
   have g79 := of_decide_eq_false h68
   refine JK_drawK [0, 0, 2, 7, 15, 31, 63, 63, 191, 511, 1023, 2047, 4095, 8191, 16383, 32767, 65535, 131071, 65535, 327679, 1048575, 2097151, 65535, 8388607, 16777215, 33554431, 67108863] fmix ?_
   refine Dv [3] (VldA sh98 0) (Dv [0] (Vfa fo147_0 0) (Dv [1] (VldF sh3 0) (Dx [4, 5, 6] [] [1, 2, 3, 0] (fun G => vb rv48) [fun G => SP.fact (True)] (fun G => xC [0, 1, 2] ca157 (fn157 t ta1 tk1 ta3 tk3 ta4 tk4 ((t.Copies.getD v33_32.toNat default).From) pre pre pre rv48 hg49)) (Db h50 [] Vnot (Dv [] Vm (Dv [3] (VldA sh98 0) (Dv [0] (Vfa fo147_1 0) (Dv [1] (VldF sh3 0) (Dx [4, 5, 6] [] [1, 2, 3, 0] (fun G => vb rv58) [fun G => SP.fact (True)] (fun G => xC [0, 1, 2] ca157 (fn157 t ta1 tk1 ta3 tk3 ta4 tk4 ((t.Copies.getD v33_32.toNat default).To) pre pre pre rv58 hg59)) ?_)))))))))
   refine Db h60 [] Vnot (Dv [] Vpf (Dv [] Vm (Dv [] Vm (Db h68 [] Vgtr (Dv [] Vm (Ds (Ds (Ds (Ds ?_)))))))))
   refine Ds (Ds (Ds (Ds (Ds (Dv [] Vpf (Dv [] Vpf ?_))))))
   refine Dn ⟨by kernel_rfl, fun G => ?_⟩
   refine Jw2 [(1, p4), (31, vl ta4 tk4 t.Copies), (32, vi (t.Copies.length : Int)), (33, vi v33_32), (64, vb false)] [0, 1, 2, 3, 4, 5, 6] [SP.fact (True), SP.fact (True)] ?_
   refine Jk [1, 1, 2, 3, 4, 5] ?_
   refine Kf ?_
   refine KS ?_
   refine Oq Vadd (Oq Vm (KS ?_))
   exact Kg (r43, (v33_32 + 1)) [2, 3, 4, 5] ⟨(q3 hM33 (by simp only [transfer_Valid_L0, h8, h13, h18, h23, h25, h28, h41, h50, h56, h60, h66, h68, hg6, hg16, hg49, hg59, cs4])), (by omega), (by omega), (by omega), (by omega)⟩
 intro h41
 have g80 := of_decide_eq_false h41
 obtain rfl : r31 = 0 := by omega
 refine Ke ?_
 have hR81 := q2 hM33 (.brk ()) (by simp only [transfer_Valid_L0, h8, h13, h18, h23, h25, h28, h41, hg6, hg16, cs4])
 refine KS ?_
 refine Oq Va (KS ?_)
 have hq := q4 hrr true (by simp only [transfer_Valid, h8, h13, h18, h23, h25, h28, h41, hg6, hg16, hR81, cs4]); subst hq
 exact Kr () rfl (.tmp rfl .nil) [] trivial
theorem fn190 (width : Int) (f : GTransfer) (fa1 : Option Addr) (fk1 : Nat) (fa3 : Option Addr) (fk3 : Nat) (fa4 : Option Addr) (fk4 : Nat) (hwidth_0 : i64ok width) (hf_0 : i64ok f.Gen.Width) (hf_2 : i64ok f.Kill.Width) (rr : Bool) (hrr : equations_fits width f = rr) : FT Tryz.prog 190 #[vi width, .agg #[vi f.Gen.Width, vl fa1 fk1 f.Gen.Words, vi f.Kill.Width, vl fa3 fk3 f.Kill.Words, vl fa4 fk4 f.Copies]] [S fa1 fk1 f.Gen.Words, S fa3 fk3 f.Kill.Words, S fa4 fk4 f.Copies] (fun g : Unit => True) (fun g => vb rr) (fun g => []) := by
 refine FTi Tryz.func190 fun w0 M0 F0 => ?_
 unfold i64ok at hwidth_0 hf_0 hf_2
 refine Fb 8 0 fun hl1 => ?_
 refine Fb 8 1 fun hl2 => ?_
 refine Fb 16 2 fun hl3 => ?_
 refine KS ?_
 refine Oa (Ab [vi f.Gen.Width, vl fa1 fk1 f.Gen.Words, vi f.Kill.Width, vl fa3 fk3 f.Kill.Words, vl fa4 fk4 f.Copies]) fun p4 => Oq Va (KS ?_)
 refine Oq (VldA sh98 0) ?_
 refine letv (transfer_Valid f) fun rv5 hg6 => ?_
 have hc7 := fn156 f fa1 fk1 fa3 fk3 fa4 fk4 pre pre rv5 hg6
 refine Oc [1, 2, 3] ca156 hc7 ?_
 rintro - -
 refine Oq Vm ?_
 refine Js 7 ?_ ?_
 · intro h8
   refine Oq (Vfa fo98_0 0) (Oq (VfaF fo42_0 0) (Oq (VldF sh3 0) (Oq Vm (Oq Veql (Oq Vpt (Oq Va (KS ?_)))))))
   have hq := q4 hrr (f.Gen.Width == width) (by simp only [equations_fits, h8, hg6, cs4]); subst hq
   exact Kr () rfl (.tmp rfl .nil) [] trivial
 intro h8
 refine Osk (Osk (Osk (Osk (Osk (Oq Vpf (Oq Va (KS ?_)))))))
 have hq := q4 hrr false (by simp only [equations_fits, h8, hg6, cs4]); subst hq
 exact Kr () rfl (.tmp rfl .nil) [] trivial
theorem fn189 (f : GTransfer) (fa1 : Option Addr) (fk1 : Nat) (fa3 : Option Addr) (fk3 : Nat) (fa4 : Option Addr) (fk4 : Nat) (cap0P : Value) (cap0 : GSystem) (cap0a1 : Option Addr) (cap0k1 : Nat) (cap0a2 : Option Addr) (cap0k2 : Nat) (cap0a3 : Option Addr) (cap0k3 : Nat) (hf_0 : i64ok f.Gen.Width) (hf_2 : i64ok f.Kill.Width) (hcap0_0 : i64ok cap0.Width) (rr : Bool) (hrr : equations_Valid_1 f cap0 = rr) : FT Tryz.prog 189 #[.agg #[vi f.Gen.Width, vl fa1 fk1 f.Gen.Words, vi f.Kill.Width, vl fa3 fk3 f.Kill.Words, vl fa4 fk4 f.Copies], cap0P] [S fa1 fk1 f.Gen.Words, S fa3 fk3 f.Kill.Words, S fa4 fk4 f.Copies, pv cap0P [vi cap0.Width, vl cap0a1 cap0k1 cap0.Deps, vl cap0a2 cap0k2 cap0.Transfers, vl cap0a3 cap0k3 cap0.Boundary], S cap0a1 cap0k1 cap0.Deps, S cap0a2 cap0k2 cap0.Transfers, S cap0a3 cap0k3 cap0.Boundary] (fun g : Unit => True) (fun g => vb rr) (fun g => []) := by
 refine FTi Tryz.func189 fun w0 M0 F0 => ?_
 unfold i64ok at hf_0 hf_2 hcap0_0
 refine Fb 8 0 fun hl1 => ?_
 refine Fb 8 1 fun hl2 => ?_
 refine Fb 16 2 fun hl3 => ?_
 refine Fb 24 4 fun hl4 => ?_
 refine Fb 88 5 fun hl5 => ?_
 refine Fb 32 6 fun hl6 => ?_
 refine KS ?_
 refine Oa (Ab [vi f.Gen.Width, vl fa1 fk1 f.Gen.Words, vi f.Kill.Width, vl fa3 fk3 f.Kill.Words, vl fa4 fk4 f.Copies]) fun p7 => Oq Va (KS ?_)
 refine Oq (Vfa fo27_0 4) (Oq (VldF sh3 4) (Oq (VldA sh98 0) ?_))
 refine letv (equations_fits cap0.Width f) fun rv8 hg9 => ?_
 have hc10 := fn190 cap0.Width f fa1 fk1 fa3 fk3 fa4 fk4 pre pre pre rv8 hg9
 refine Oc [1, 2, 3] ca190 hc10 ?_
 rintro - -
 refine Oq Vnot (Oq Va (KS ?_))
 have hq := q4 hrr (!rv8) (by simp only [equations_Valid_1, hg9, cs4]); subst hq
 exact Kr () rfl (.tmp rfl .nil) [] trivial
theorem fn109 (s : GSystem) (sa1 : Option Addr) (sk1 : Nat) (sa2 : Option Addr) (sk2 : Nat) (sa3 : Option Addr) (sk3 : Nat) (hs_0 : i64ok s.Width) (rr : Bool) (hrr : equations_Valid s = rr) : FT Tryz.prog 109 #[.agg #[vi s.Width, vl sa1 sk1 s.Deps, vl sa2 sk2 s.Transfers, vl sa3 sk3 s.Boundary]] [S sa1 sk1 s.Deps, S sa2 sk2 s.Transfers, S sa3 sk3 s.Boundary] (fun g : Unit => True) (fun g => vb rr) (fun g => []) := by
 refine FTi Tryz.func109 fun w0 M0 F0 => ?_
 unfold i64ok at hs_0
 refine Fb 24 0 fun hl1 => ?_
 refine Fb 88 1 fun hl2 => ?_
 refine Fb 32 2 fun hl3 => ?_
 refine KS ?_
 refine Oa (Ab [vi s.Width, vl sa1 sk1 s.Deps, vl sa2 sk2 s.Transfers, vl sa3 sk3 s.Boundary]) fun p4 => Oq Va (KS ?_)
 refine Oq (Vfa fo27_1 0) (Oq (VldF sh23 0) (Oq (Vlen sl23) (Oq Va (KS ?_))))
 refine Oq (Vfa fo27_0 0) (Oq (VldF sh3 0) (Oq Vm ?_))
 refine letv (equations_sized s.Width (s.Deps.length : Int)) fun rv5 hg6 => ?_
 have hc7 := fn185 s.Width ((s.Deps.length : Int)) pre pre rv5 hg6
 refine Oc [] ca185 hc7 ?_
 rintro - -
 refine Oq Vnot (Oq Vm ?_)
 refine Js 15 ?_ ?_
 · intro h8
   have h10 := not_true h8
   refine Osk (Osk (Osk (Osk (Osk (Oq Vpt (Oq Vm (Osk (Osk (Osk ?_)))))))))
   refine Osk (Osk (Oq Vpt (KS ?_)))
   refine Kt ?_
   refine KS ?_
   refine Oq Va (KS ?_)
   have hq := q4 hrr false (by simp only [equations_Valid, h8, h10, hg6, cs4]); subst hq
   exact Kr () rfl (.tmp rfl .nil) [] trivial
 intro h8
 have h13 := not_false h8
 refine Oq (Vfa fo27_2 0) (Oq (VldF sh24 0) (Oq (Vlen sl24) (Oq Vm (Oq Vneq (Oq Vpf (Oq Vm ?_))))))
 refine Js 22 ?_ ?_
 · intro h15
   have g16 := ne_of_bne h15
   refine Osk (Osk (Osk (Osk (Osk (Oq Vpt (KS ?_))))))
   refine Kt ?_
   refine KS ?_
   refine Oq Va (KS ?_)
   have hq := q4 hrr false (by simp only [equations_Valid, h8, h13, h15, hg6, cs4]); subst hq
   exact Kr () rfl (.tmp rfl .nil) [] trivial
 intro h15
 have g17 := eq_of_bne_false h15
 refine Oq (Vfa fo27_3 0) (Oq (VldF sh25 0) (Oq (Vlen sl25) (Oq Vm (Oq Vneq (Oq Vpf (KS ?_))))))
 refine Kc ?_ ?_
 · intro h18
   have g19 := ne_of_bne h18
   refine KS ?_
   refine Oq Va (KS ?_)
   have hq := q4 hrr false (by simp only [equations_Valid, h8, h13, h15, h18, hg6, cs4]); subst hq
   exact Kr () rfl (.tmp rfl .nil) [] trivial
 intro h18
 have g20 := eq_of_bne_false h18
 refine KS ?_
 refine Oq Va (KS ?_)
 refine Oq (Vfa fo27_1 0) (Oq (VldF sh23 0) (Oq (Vlen sl23) (Oq Vm (KS ?_))))
 refine Kl (γ := Nat × Int × Int) (fun (r21, edges_22, v32_23) => ⟨[(1, p4), (3, vi (s.Deps.length : Int)), (4, vi edges_22), (30, vl sa1 sk1 s.Deps), (31, vi (s.Deps.length : Int)), (32, vi v32_23)], [pv p4 [vi s.Width, vl sa1 sk1 s.Deps, vl sa2 sk2 s.Transfers, vl sa3 sk3 s.Boundary], S sa1 sk1 s.Deps, S sa2 sk2 s.Transfers, S sa3 sk3 s.Boundary], equations_Valid_L0 s r21 edges_22 v32_23 = equations_Valid_L0 s (((s.Deps.length : Int) - 0).toNat) 0 0 ∧ r21 = ((s.Deps.length : Int) - v32_23).toNat ∧ (0 : Int) ≤ v32_23 ∧ v32_23 ≤ (s.Deps.length : Int) ∧ (-9223372036854775808 ≤ edges_22 ∧ edges_22 ≤ 9223372036854775807) ∧ (-9223372036854775808 ≤ v32_23 ∧ v32_23 ≤ 9223372036854775807) ∧ 0 ≤ edges_22 ∧ edges_22 ≤ 1024, r21⟩) (((s.Deps.length : Int) - 0).toNat, 0, 0) [0, 1, 2, 3] ⟨rfl, rfl, (by omega), (by omega), (by omega), (by omega), iv0⟩ ?_
 rintro ⟨r21, edges_22, v32_23⟩ ⟨hM24, hr25, hi26, hi27, hk28, hk29, hv30⟩
 refine JJ_nx fun _ _ hL hA => ?_; dsimp only at hL hA; subst hL hA
 refine Fb 24 1 fun hl31 => ?_
 refine Fb 88 2 fun hl32 => ?_
 refine Fb 32 3 fun hl33 => ?_
 refine KS ?_
 refine Oq Vlss (KS ?_)
 refine Kc ?_ ?_
 · intro h34
   have g35 := of_decide_eq_true h34
   obtain ⟨r36, rfl⟩ := scc (n := r21) (by omega)
   refine KS ?_
   refine Oq (Vi sl23 1) ?_
   refine JJ_peekL v32_23.toNat 1 rfl rng fun a37 k38 => ?_
   refine Fb 8 1 fun hl39 => ?_
   refine Fo 1 fun ho40 => ?_
   refine Oq (Vld sh22 0) (Oq Va (KS ?_))
   refine Oq Vm (Oq Vm (Oq (Vlen sl22) (Oq Vadd (Oq Va (KS ?_)))))
   refine Oq Vm (Oq Vgtr (Oq Vm ?_))
   refine Js 42 ?_ ?_
   · intro h41
     have g42 := of_decide_eq_true h41
     refine Osk (Osk (Osk (Osk (Oq Vpt (KS ?_)))))
     refine Kt ?_
     refine KS ?_
     refine Oq Va (KS ?_)
     have hR43 := q2 hM24 (.ret false) (by simp only [equations_Valid_L0, h8, h13, h15, h18, h34, h41, hg6, cs4])
     have hq := q4 hrr false (by simp only [equations_Valid, h8, h13, h15, h18, h34, h41, hg6, hR43, cs4]); subst hq
     exact Kr () rfl (.tmp rfl .nil) [] trivial
   intro h41
   have g44 := of_decide_eq_false h41
   refine Oq Vm (Oq Vm ?_)
   refine letv (equations_ascending (s.Deps.getD v32_23.toNat []) (s.Deps.length : Int)) fun rv45 hg46 => ?_
   have hc47 := fn186 ((s.Deps.getD v32_23.toNat [])) a37 k38 ((s.Deps.length : Int)) pre rv45 hg46
   refine Oc [1] ca186 hc47 ?_
   rintro - -
   refine Oq Vnot (Oq Vpf (KS ?_))
   refine Kc ?_ ?_
   · intro h48
     have h50 := not_true h48
     refine KS ?_
     refine Oq Va (KS ?_)
     have hR52 := q2 hM24 (.ret false) (by simp only [equations_Valid_L0, h8, h13, h15, h18, h34, h41, h48, h50, hg6, hg46, cs4])
     have hq := q4 hrr false (by simp only [equations_Valid, h8, h13, h15, h18, h34, h41, h48, h50, hg6, hg46, hR52, cs4]); subst hq
     exact Kr () rfl (.tmp rfl .nil) [] trivial
   intro h48
   have h54 := not_false h48
   refine KS ?_
   refine Oq Vadd (Oq Vm (KS ?_))
   exact Kg (r36, (edges_22 + ((s.Deps.getD v32_23.toNat []).length : Int)), (v32_23 + 1)) [2, 3, 4, 5] ⟨(q3 hM24 (by simp only [equations_Valid_L0, h8, h13, h15, h18, h34, h41, h48, h54, hg6, hg46, cs4])), (by omega), (by omega), (by omega), (by omega), (by omega), iv1⟩
 intro h34
 have g56 := of_decide_eq_false h34
 obtain rfl : r21 = 0 := by omega
 refine Ke ?_
 have hR57 := q2 hM24 (.brk ()) (by simp only [equations_Valid_L0, h8, h13, h15, h18, h34, hg6, cs4])
 refine KS ?_
 refine Oq (Vfa fo27_0 0) (Oq (VldF sh3 0) (Oq (Vfa fo27_3 0) (Oq (VldF sh25 0) ?_)))
 refine letv (equations_sets s.Width s.Boundary) fun rv58 hg59 => ?_
 have hc60 := fn187 s.Width s.Boundary sa3 sk3 pre rv58 hg59
 refine Oc [3] ca187 hc60 ?_
 rintro - -
 refine Oq Vm ?_
 refine Js 54 ?_ ?_
 · intro h61
   refine Oq (Vfa fo27_2 0) (Oq (VldF sh24 0) (Oq (Vf [p4]) ?_))
   refine JJ_ent (Ent.pall [0, 1, 2, 3] rfl rfl) ?_
   refine letv (slices_ContainsFunc_Transfer s.Transfers (fun x => equations_Valid_1 x s)) fun rv63 hg64 => ?_
   have hc65 := fn188 s.Transfers sa2 sk2 189 [p4] (fun x => equations_Valid_1 x s) [pv p4 [vi s.Width, vl sa1 sk1 s.Deps, vl sa2 sk2 s.Transfers, vl sa3 sk3 s.Boundary], S sa1 sk1 s.Deps, S sa2 sk2 s.Transfers, S sa3 sk3 s.Boundary] ca189 (fun x hx a1 k1 a3 k3 a4 k4 hq0 hq2 => FT_pall (A1 := _) (fn189 x a1 k1 a3 k3 a4 k4 p4 s sa1 sk1 sa2 sk2 sa3 sk3 hq0 hq2 pre _ rfl)) rv63 hg64
   refine Oc [3, 0] ca188 hc65 ?_
   rintro - -
   refine Oq Vnot (Oq Vpt (Oq Va (KS ?_)))
   have hq := q4 hrr (!rv63) (by simp only [equations_Valid, h8, h13, h15, h18, h34, h61, hg6, hR57, hg59, hg64, cs4]); subst hq
   exact Kr () rfl (.tmp rfl .nil) [] trivial
 intro h61
 refine Osk (Osk (Osk (Osk (Osk (Oq Vpf (Oq Va (KS ?_)))))))
 have hq := q4 hrr false (by simp only [equations_Valid, h8, h13, h15, h18, h34, h61, hg6, hR57, hg59, cs4]); subst hq
 exact Kr () rfl (.tmp rfl .nil) [] trivial
theorem fn100 (s : GSystem) (sa1 : Option Addr) (sk1 : Nat) (sa2 : Option Addr) (sk2 : Nat) (sa3 : Option Addr) (sk3 : Nat) (k : List GKnown) (ka0 : Option Addr) (kk0 : Nat) (hs_0 : i64ok s.Width) (rr : Bool) (hrr : solver_arguments s k = rr) : FT Tryz.prog 100 #[.agg #[vi s.Width, vl sa1 sk1 s.Deps, vl sa2 sk2 s.Transfers, vl sa3 sk3 s.Boundary], vl ka0 kk0 k] [S sa1 sk1 s.Deps, S sa2 sk2 s.Transfers, S sa3 sk3 s.Boundary, S ka0 kk0 k] (fun g : Unit => True) (fun g => vb rr) (fun g => []) := by
 refine FTi Tryz.func100 fun w0 M0 F0 => ?_
 unfold i64ok at hs_0
 refine Fb 24 0 fun hl1 => ?_
 refine Fb 88 1 fun hl2 => ?_
 refine Fb 32 2 fun hl3 => ?_
 refine Fb 40 3 fun hl4 => ?_
 refine KS ?_
 refine Oa (Ab [vi s.Width, vl sa1 sk1 s.Deps, vl sa2 sk2 s.Transfers, vl sa3 sk3 s.Boundary]) fun p5 => Oq Va (KS ?_)
 refine Oq (VldA sh27 0) ?_
 refine letv (equations_Valid s) fun rv6 hg7 => ?_
 have hc8 := fn109 s sa1 sk1 sa2 sk2 sa3 sk3 pre rv6 hg7
 refine Oc [1, 2, 3] ca109 hc8 ?_
 rintro - -
 refine Oq Vnot (KS ?_)
 refine Kc ?_ ?_
 · intro h9
   have h11 := not_true h9
   refine KS ?_
   refine Oq Va (KS ?_)
   have hq := q4 hrr false (by simp only [solver_arguments, h9, h11, hg7, cs4]); subst hq
   exact Kr () rfl (.tmp rfl .nil) [] trivial
 intro h9
 have h14 := not_false h9
 try (have hvs := (EValid_iff s).1 (by simp only [h9, h14, hg7]); have hv1 := hvs.n)
 refine KS ?_
 refine Oq Vm (Oq (Vlen sl53) (Oq Vm (KS ?_)))
 refine Kl (γ := Nat × Int) (fun (r16, v12_17) => ⟨[(1, vl ka0 kk0 k), (2, p5), (10, vl ka0 kk0 k), (11, vi (k.length : Int)), (12, vi v12_17)], [pv p5 [vi s.Width, vl sa1 sk1 s.Deps, vl sa2 sk2 s.Transfers, vl sa3 sk3 s.Boundary], S sa1 sk1 s.Deps, S sa2 sk2 s.Transfers, S sa3 sk3 s.Boundary, S ka0 kk0 k], solver_arguments_L0 s k r16 v12_17 = solver_arguments_L0 s k (((k.length : Int) - 0).toNat) 0 ∧ r16 = ((k.length : Int) - v12_17).toNat ∧ (0 : Int) ≤ v12_17 ∧ v12_17 ≤ (k.length : Int) ∧ (-9223372036854775808 ≤ v12_17 ∧ v12_17 ≤ 9223372036854775807), r16⟩) (((k.length : Int) - 0).toNat, 0) [0, 1, 2, 3, 4] ⟨rfl, rfl, (by omega), (by omega), (by omega)⟩ ?_
 rintro ⟨r16, v12_17⟩ ⟨hM18, hr19, hi20, hi21, hk22⟩
 refine JJ_nx fun _ _ hL hA => ?_; dsimp only at hL hA; subst hL hA
 refine Fb 24 1 fun hl23 => ?_
 refine Fb 88 2 fun hl24 => ?_
 refine Fb 32 3 fun hl25 => ?_
 refine Fb 40 4 fun hl26 => ?_
 refine KS ?_
 refine Oq Vlss (KS ?_)
 refine Kc ?_ ?_
 · intro h27
   have g28 := of_decide_eq_true h27
   obtain ⟨r29, rfl⟩ := scc (n := r16) (by omega)
   refine KS ?_
   refine Oq Vm (Oq (Vi sl53 4) ?_)
   refine JJ_peek_GKnown v12_17.toNat 4 rfl rng fun a30 k31 hb32 hb33 => ?_
   unfold i64ok at hb32 hb33
   refine Fb 8 1 fun hl34 => ?_
   refine Oq (VldA sh67 0) (Oa (Al ze67 [vi 0, vi 0, .slice none 0 0]) fun p35 => Oq Va (Ost (Scl [0] sh67 [vi ((k.getD v12_17.toNat default).Node), vi (((k.getD v12_17.toNat default).Value).Width), vl a30 k31 (((k.getD v12_17.toNat default).Value).Words)]) (KS ?_)))
   refine Jp 0 fun hp36 => ?_
   refine bool_split (decide ((k.getD v12_17.toNat default).Node < 0)) ?_ ?_
   · intro h37
     have g38 := of_decide_eq_true h37
     refine Kq [0, 1, 3, 7, 15, 31, 15, 79, 207, 511, 1023, 2047, 4095, 8191, 16383, 32767, 65535, 32767, 32767, 294911, 950271, 1998847, 4095999, 8388607, 16777215, 33554431, 67108863, 134217727, 268435455, 536870911, 1073741823, 2147483647, 4294967295, 8589934591, 17179869183, 34359738367, 8589934591, 77309411327, 274877906943, 549755813887] fmix ?_
     refine Qv [0] (Vfa fo67_0 0) (Qv [1] (VldF sh3 0) (Qb h37 [] Vlss (Qv [] Vm (Qs (Qs (Qs (Qs (Qs (Qs ?_)))))))))
     refine Qv [] Vpt (Qv [] Vm (Qs (Qs (Qs (Qs (Qs (Qs (Qs (Qs ?_)))))))))
     refine Qs (Qs (Qs (Qs (Qs (Qv [] Vpt (Qv [] Vm (Qs (Qs (Qs ?_)))))))))
     refine Qs (Qv [] Vpt (Qv [] Vm (Qs (Qs (Qs (Qs (Qs (Qs (Qv [] Vpt ?_)))))))))
     refine Qn ⟨by kernel_rfl, ?_⟩
     refine Kt ?_
     refine KS ?_
     refine Oq Va (KS ?_)
     have hR39 := q2 hM18 (.ret false) (by simp only [solver_arguments_L0, h9, h14, h27, h37, hg7, cs4])
     have hq := q4 hrr false (by simp only [solver_arguments, h9, h14, h27, h37, hg7, hR39, cs4]); subst hq
     exact Kr () rfl (.tmp rfl .nil) [] trivial
   intro h37
   have g40 := of_decide_eq_false h37
   refine bool_split (decide ((s.Deps.length : Int) ≤ (k.getD v12_17.toNat default).Node)) ?_ ?_
   · intro h41
     have g42 := of_decide_eq_true h41
     refine Kq [0, 1, 3, 7, 15, 31, 15, 79, 207, 511, 1023, 2047, 4095, 8191, 16383, 32767, 65535, 32767, 32767, 294911, 950271, 1998847, 4095999, 8388607, 16777215, 33554431, 67108863, 134217727, 268435455, 536870911, 1073741823, 2147483647, 4294967295, 8589934591, 17179869183, 34359738367, 8589934591, 77309411327, 274877906943, 549755813887] fmix ?_
     refine Qv [0] (Vfa fo67_0 0) (Qv [1] (VldF sh3 0) (Qb h37 [] Vlss (Qv [] Vm (Qv [0] (Vfa fo67_0 0) (Qv [1] (VldF sh3 0) (Qv [4] (Vfa fo27_1 0) (Qv [4] (VldF sh23 0) (Qv [] (Vlen sl23) (Qb h41 [] Vgeq ?_)))))))))
     refine Qv [] Vpf (Qv [] Vm (Qs (Qs (Qs (Qs (Qs (Qs (Qs (Qs ?_)))))))))
     refine Qs (Qs (Qs (Qs (Qs (Qv [] Vpt (Qv [] Vm (Qs (Qs (Qs ?_)))))))))
     refine Qs (Qv [] Vpt (Qv [] Vm (Qs (Qs (Qs (Qs (Qs (Qs (Qv [] Vpt ?_)))))))))
     refine Qn ⟨by kernel_rfl, ?_⟩
     refine Kt ?_
     refine KS ?_
     refine Oq Va (KS ?_)
     have hR43 := q2 hM18 (.ret false) (by simp only [solver_arguments_L0, h9, h14, h27, h37, h41, hg7, cs4])
     have hq := q4 hrr false (by simp only [solver_arguments, h9, h14, h27, h37, h41, hg7, hR43, cs4]); subst hq
     exact Kr () rfl (.tmp rfl .nil) [] trivial
   intro h41
   have g44 := of_decide_eq_false h41
   refine bool_split (decide (0 < v12_17)) ?_ ?_
   · intro h45
     have g46 := of_decide_eq_true h45
     refine JJ_peek_GKnown ((v12_17 - 1) : Int).toNat 8 rfl rng fun a47 k48 hb49 hb50 => ?_
     unfold i64ok at hb49 hb50
     refine Fb 8 1 fun hl51 => ?_
     refine JK_drawK [0, 1, 3, 7, 15, 31, 15, 79, 207, 511, 1023, 2047, 4095, 8191, 16383, 32767, 65535, 32767, 32767, 294911, 950271, 1998847, 4095999, 8388607, 16777215, 33554431, 67108863, 134217727, 268435455, 536870911, 1073741823, 2147483647, 4294967295, 8589934591, 17179869183, 34359738367, 8589934591, 77309411327, 274877906943, 549755813887] fmix ?_
     refine Dv [2] (Vfa fo67_0 0) (Dv [3] (VldF sh3 0) (Db h37 [] Vlss (Dv [] Vm (Dv [2] (Vfa fo67_0 0) (Dv [3] (VldF sh3 0) (Dv [6] (Vfa fo27_1 0) (Dv [6] (VldF sh23 0) (Dv [] (Vlen sl23) (Db h41 [] Vgeq ?_)))))))))
     refine Dv [] Vpf (Dv [] Vm (Dv [] Vm (Db h45 [] Vgtr (Dv [] Vm (Dv [2] (Vfa fo67_0 0) (Dv [3] (VldF sh3 0) (Dv [] Vm (Dv [] Vm (Dv [] Vsub ?_)))))))))
     refine Dv [10] (Vi sl53 0) (Dv [0] (Vfa fo67_0 0) (Dv [0] (VldF sh3 0) (Dv [] Vleq (Dv [] Vpt (Dv [] Vpf ?_)))))
     refine bool_split (decide ((k.getD v12_17.toNat default).Node ≤ (k.getD ((v12_17 - 1) : Int).toNat default).Node)) ?_ ?_
     · intro h52
       have g53 := of_decide_eq_true h52
       refine Db h52 [] Vm (Ds (Ds (Ds (Ds (Dv [] Vpt (Dv [] Vm (Ds (Ds (Ds ?_)))))))))
       refine Ds (Ds (Ds (Dv [] Vpt ?_)))
       refine Dn ⟨by kernel_rfl, fun G => ?_⟩
       refine Jw2 [(1, vl ka0 kk0 k), (2, p5), (10, vl ka0 kk0 k), (11, vi (k.length : Int)), (12, vi v12_17), (56, vb true)] [0, 1, 2, 3, 4, 5, 6, 7, 8, 9, 10] [] ?_
       refine Jk [0, 1, 3, 3, 4, 5, 6, 7, 8, 9] ?_
       refine Kt ?_
       refine KS ?_
       refine Oq Va (KS ?_)
       have hR54 := q2 hM18 (.ret false) (by simp only [solver_arguments_L0, h9, h14, h27, h37, h41, h45, h52, hg7, cs4])
       have hq := q4 hrr false (by simp only [solver_arguments, h9, h14, h27, h37, h41, h45, h52, hg7, hR54, cs4]); subst hq
       exact Kr () rfl (.tmp rfl .nil) [] trivial
     intro h52
     have g55 := of_decide_eq_false h52
     refine Db h52 [] Vm (Dv [2] (Vfa fo67_1 0) (Dv [3] (VldG sh42 0 [vi (((k.getD v12_17.toNat default).Value).Width), vl a30 k31 (((k.getD v12_17.toNat default).Value).Words)]) ?_))
     refine letv (bitset_Valid ((k.getD v12_17.toNat default).Value)) fun rv56 hg57 => ?_
     refine Dx [5] [] [1, 0] (fun G => vb rv56) [fun G => SP.fact (True)] (fun G => xC [0] ca123 (fn123 (((k.getD v12_17.toNat default).Value)) a30 k31 pre rv56 hg57)) (Dv [] Vnot (Dv [] Vpf ?_))
     refine bool_split (!rv56) ?_ ?_
     · intro h58
       have h60 := not_true h58
       refine Db h58 [] Vm (Ds (Ds (Ds (Ds (Ds (Ds (Dv [] Vpt ?_)))))))
       refine Dn ⟨by kernel_rfl, fun G => ?_⟩
       refine Jw2 [(1, vl ka0 kk0 k), (2, p5), (10, vl ka0 kk0 k), (11, vi (k.length : Int)), (12, vi v12_17), (56, vb true)] [0, 1, 2, 3, 4, 5, 6, 7, 8, 9, 10] [SP.fact (True)] ?_
       refine Jk [0, 1, 3, 3, 4, 5, 6, 7, 8, 9] ?_
       refine Kt ?_
       refine KS ?_
       refine Oq Va (KS ?_)
       have hR62 := q2 hM18 (.ret false) (by simp only [solver_arguments_L0, h9, h14, h27, h37, h41, h45, h52, h58, h60, hg7, hg57, cs4])
       have hq := q4 hrr false (by simp only [solver_arguments, h9, h14, h27, h37, h41, h45, h52, h58, h60, hg7, hg57, hR62, cs4]); subst hq
       exact Kr () rfl (.tmp rfl .nil) [] trivial
     intro h58
     have h64 := not_false h58
     try (have hvs := (EValid_iff s).1 (by simp only [h9, h14, h27, h37, h41, h45, h52, h58, h64, hg7, hg57]); have hv1 := hvs.n)
     refine Db h58 [] Vm (Dv [2] (Vfa fo67_1 0) (Dv [2] (VfaF fo42_0 0) (Dv [3] (VldF sh3 0) (Dv [6] (Vfa fo27_0 0) (Dv [6] (VldF sh3 0) (Dv [] Vneq (Dv [] Vpf ?_)))))))
     refine Dn ⟨by kernel_rfl, fun G => ?_⟩
     refine Jw2 [(1, vl ka0 kk0 k), (2, p5), (10, vl ka0 kk0 k), (11, vi (k.length : Int)), (12, vi v12_17), (56, vb (((k.getD v12_17.toNat default).Value).Width != s.Width))] [0, 1, 2, 3, 4, 5, 6, 7, 8, 9, 10] [SP.fact (True)] ?_
     refine Jk [0, 1, 3, 3, 4, 5, 6, 7, 8, 9] ?_
     refine Kc ?_ ?_
     · intro h66
       have g67 := ne_of_bne h66
       refine KS ?_
       refine Oq Va (KS ?_)
       have hR68 := q2 hM18 (.ret false) (by simp only [solver_arguments_L0, h9, h14, h27, h37, h41, h45, h52, h58, h64, h66, hg7, hg57, cs4])
       have hq := q4 hrr false (by simp only [solver_arguments, h9, h14, h27, h37, h41, h45, h52, h58, h64, h66, hg7, hg57, hR68, cs4]); subst hq
       exact Kr () rfl (.tmp rfl .nil) [] trivial
     intro h66
     have g69 := eq_of_bne_false h66
     refine KS ?_
     refine Oq Vadd (Oq Vm (KS ?_))
     exact Kg (r29, (v12_17 + 1)) [5, 6, 7, 8, 9] ⟨(q3 hM18 (by simp only [solver_arguments_L0, h9, h14, h27, h37, h41, h45, h52, h58, h64, h66, hg7, hg57, cs4])), (by omega), (by omega), (by omega), (by omega)⟩
   intro h45
   have g70 := of_decide_eq_false h45
   refine JK_drawK [0, 1, 3, 7, 15, 31, 15, 79, 207, 511, 1023, 2047, 4095, 8191, 16383, 32767, 65535, 32767, 32767, 294911, 950271, 1998847, 4095999, 8388607, 16777215, 33554431, 67108863, 134217727, 268435455, 536870911, 1073741823, 2147483647, 4294967295, 8589934591, 17179869183, 34359738367, 8589934591, 77309411327, 274877906943, 549755813887] fmix ?_
   refine Dv [0] (Vfa fo67_0 0) (Dv [1] (VldF sh3 0) (Db h37 [] Vlss (Dv [] Vm (Dv [0] (Vfa fo67_0 0) (Dv [1] (VldF sh3 0) (Dv [4] (Vfa fo27_1 0) (Dv [4] (VldF sh23 0) (Dv [] (Vlen sl23) (Db h41 [] Vgeq ?_)))))))))
   refine Dv [] Vpf (Dv [] Vm (Dv [] Vm (Db h45 [] Vgtr (Dv [] Vm (Ds (Ds (Ds (Ds (Ds ?_)))))))))
   refine Ds (Ds (Ds (Ds (Dv [] Vpf (Dv [] Vpf (Dv [] Vm (Dv [0] (Vfa fo67_1 0) (Dv [1] (VldG sh42 0 [vi (((k.getD v12_17.toNat default).Value).Width), vl a30 k31 (((k.getD v12_17.toNat default).Value).Words)]) ?_))))))))
   refine letv (bitset_Valid ((k.getD v12_17.toNat default).Value)) fun rv71 hg72 => ?_
   refine Dx [3] [] [1, 0] (fun G => vb rv71) [fun G => SP.fact (True)] (fun G => xC [0] ca123 (fn123 (((k.getD v12_17.toNat default).Value)) a30 k31 pre rv71 hg72)) (Dv [] Vnot (Dv [] Vpf ?_))
   refine bool_split (!rv71) ?_ ?_
   · intro h73
     have h75 := not_true h73
     refine Db h73 [] Vm (Ds (Ds (Ds (Ds (Ds (Ds (Dv [] Vpt ?_)))))))
     refine Dn ⟨by kernel_rfl, fun G => ?_⟩
     refine Jw2 [(1, vl ka0 kk0 k), (2, p5), (10, vl ka0 kk0 k), (11, vi (k.length : Int)), (12, vi v12_17), (56, vb true)] [0, 1, 2, 3, 4, 5, 6, 7, 8] [SP.fact (True)] ?_
     refine Jk [1, 1, 2, 3, 4, 5, 6, 7] ?_
     refine Kt ?_
     refine KS ?_
     refine Oq Va (KS ?_)
     have hR77 := q2 hM18 (.ret false) (by simp only [solver_arguments_L0, h9, h14, h27, h37, h41, h45, h73, h75, hg7, hg72, cs4])
     have hq := q4 hrr false (by simp only [solver_arguments, h9, h14, h27, h37, h41, h45, h73, h75, hg7, hg72, hR77, cs4]); subst hq
     exact Kr () rfl (.tmp rfl .nil) [] trivial
   intro h73
   have h79 := not_false h73
   try (have hvs := (EValid_iff s).1 (by simp only [h9, h14, h27, h37, h41, h45, h73, h79, hg7, hg72]); have hv1 := hvs.n)
   refine Db h73 [] Vm (Dv [0] (Vfa fo67_1 0) (Dv [0] (VfaF fo42_0 0) (Dv [1] (VldF sh3 0) (Dv [4] (Vfa fo27_0 0) (Dv [4] (VldF sh3 0) (Dv [] Vneq (Dv [] Vpf ?_)))))))
   refine Dn ⟨by kernel_rfl, fun G => ?_⟩
   refine Jw2 [(1, vl ka0 kk0 k), (2, p5), (10, vl ka0 kk0 k), (11, vi (k.length : Int)), (12, vi v12_17), (56, vb (((k.getD v12_17.toNat default).Value).Width != s.Width))] [0, 1, 2, 3, 4, 5, 6, 7, 8] [SP.fact (True)] ?_
   refine Jk [1, 1, 2, 3, 4, 5, 6, 7] ?_
   refine Kc ?_ ?_
   · intro h81
     have g82 := ne_of_bne h81
     refine KS ?_
     refine Oq Va (KS ?_)
     have hR83 := q2 hM18 (.ret false) (by simp only [solver_arguments_L0, h9, h14, h27, h37, h41, h45, h73, h79, h81, hg7, hg72, cs4])
     have hq := q4 hrr false (by simp only [solver_arguments, h9, h14, h27, h37, h41, h45, h73, h79, h81, hg7, hg72, hR83, cs4]); subst hq
     exact Kr () rfl (.tmp rfl .nil) [] trivial
   intro h81
   have g84 := eq_of_bne_false h81
   refine KS ?_
   refine Oq Vadd (Oq Vm (KS ?_))
   exact Kg (r29, (v12_17 + 1)) [3, 4, 5, 6, 7] ⟨(q3 hM18 (by simp only [solver_arguments_L0, h9, h14, h27, h37, h41, h45, h73, h79, h81, hg7, hg72, cs4])), (by omega), (by omega), (by omega), (by omega)⟩
 intro h27
 have g85 := of_decide_eq_false h27
 obtain rfl : r16 = 0 := by omega
 refine Ke ?_
 have hR86 := q2 hM18 (.brk ()) (by simp only [solver_arguments_L0, h9, h14, h27, hg7, cs4])
 refine KS ?_
 refine Oq Va (KS ?_)
 have hq := q4 hrr true (by simp only [solver_arguments, h9, h14, h27, hg7, hR86, cs4]); subst hq
 exact Kr () rfl (.tmp rfl .nil) [] trivial
theorem fn101 (l : List Int) (la0 : Option Addr) (lk0 : Nat) (n : Int) (hn_0 : i64ok n) (hn0 : 0 ≤ n ∧ n ≤ 1000) (rr : Bool) (hrr : solver_distinct l n = rr) : FT Tryz.prog 101 #[vl la0 lk0 l, vi n] [S la0 lk0 l] (fun g : Unit => True) (fun g => vb rr) (fun g => []) := by
 refine FTi Tryz.func101 fun w0 M0 F0 => ?_
 unfold i64ok at hn_0
 refine Fb 8 0 fun hl1 => ?_
 refine Fo 0 fun ho2 => ?_
 refine KS ?_
 refine Oq Va (KS ?_)
 refine Oq Vm (Oa (Amk (α := Bool) sl57 sz57 false (fun _ _ => rfl)) fun c3 => ?_)
 refine Jo 0 ?_; rintro a4 k5 rfl
 refine Fb 1 0 fun hl6 => ?_
 have hn7 := List.length_replicate (n := n.toNat) (a := false)
 refine Oq Va (KS ?_)
 refine Oq Vm (Oq (Vlen sl22) (Oq Vm (KS ?_)))
 refine Kl (γ := Nat × List Bool × Int) (fun (r8, seen_9, v12_10) => ⟨[(1, vi n), (5, vl a4 k5 (List.replicate n.toNat false)), (10, vl la0 lk0 l), (11, vi (l.length : Int)), (12, vi v12_10)], [os (vl a4 k5 (List.replicate n.toNat false)) seen_9, S la0 lk0 l], solver_distinct_L0 l n r8 seen_9 v12_10 = solver_distinct_L0 l n (((l.length : Int) - 0).toNat) (List.replicate n.toNat false) 0 ∧ r8 = ((l.length : Int) - v12_10).toNat ∧ (0 : Int) ≤ v12_10 ∧ v12_10 ≤ (l.length : Int) ∧ (-9223372036854775808 ≤ v12_10 ∧ v12_10 ≤ 9223372036854775807) ∧ (seen_9.length : Int) = n, r8⟩) (((l.length : Int) - 0).toNat, (List.replicate n.toNat false), 0) [0, 0] ⟨rfl, rfl, (by omega), (by omega), (by omega), iv0⟩ ?_
 rintro ⟨r8, seen_9, v12_10⟩ ⟨hM11, hr12, hi13, hi14, hk15, hv16⟩
 refine JJ_nx fun _ _ hL hA => ?_; dsimp only at hL hA; subst hL hA
 refine Fb 1 0 fun hl17 => ?_
 refine Fl 0 fun hn18 => ?_
 refine Fb 8 1 fun hl19 => ?_
 refine Fo 1 fun ho20 => ?_
 refine KS ?_
 refine Oq Vlss (KS ?_)
 refine Kc ?_ ?_
 · intro h21
   have g22 := of_decide_eq_true h21
   obtain ⟨r23, rfl⟩ := scc (n := r8) (by omega)
   refine KS ?_
   refine Oq (Vi sl22 1) ?_
   have hb24 := ok1 (i := v12_10.toNat) ho20 rng
   refine Oq (VldI sh3 1) (Oq Va (KS ?_))
   refine Oq Vm (Oq Vlss (Oq Vm ?_))
   refine Js 18 ?_ ?_
   · intro h25
     have g26 := of_decide_eq_true h25
     refine Osk (Osk (Osk (Oq Vpt (Oq Vm (Osk (Osk (Osk (Osk (Oq Vpt ?_)))))))))
     refine KS ?_
     refine Kt ?_
     refine KS ?_
     refine Oq Va (KS ?_)
     have hR27 := q2 hM11 (.ret false) (by simp only [solver_distinct_L0, h21, h25, cs4])
     have hq := q4 hrr false (by simp only [solver_distinct, h21, h25, hR27, cs4]); subst hq
     exact Kr () rfl (.tmp rfl .nil) [] trivial
   intro h25
   have g28 := of_decide_eq_false h25
   refine Oq Vm (Oq Vm (Oq Vgeq (Oq Vpf (Oq Vm ?_))))
   refine Js 23 ?_ ?_
   · intro h29
     have g30 := of_decide_eq_true h29
     refine Osk (Osk (Osk (Osk (Oq Vpt (KS ?_)))))
     refine Kt ?_
     refine KS ?_
     refine Oq Va (KS ?_)
     have hR31 := q2 hM11 (.ret false) (by simp only [solver_distinct_L0, h21, h25, h29, cs4])
     have hq := q4 hrr false (by simp only [solver_distinct, h21, h25, h29, hR31, cs4]); subst hq
     exact Kr () rfl (.tmp rfl .nil) [] trivial
   intro h29
   have g32 := of_decide_eq_false h29
   refine Oq Vm (Oq Vm (Oq (Vi sl57 0) (Oq (VldB sh4 0) (Oq Vpf (KS ?_)))))
   refine Kc ?_ ?_
   · intro h33
     refine KS ?_
     refine Oq Va (KS ?_)
     have hR35 := q2 hM11 (.ret false) (by simp only [solver_distinct_L0, h21, h25, h29, h33, cs4])
     have hq := q4 hrr false (by simp only [solver_distinct, h21, h25, h29, h33, hR35, cs4]); subst hq
     exact Kr () rfl (.tmp rfl .nil) [] trivial
   intro h33
   refine KS ?_
   refine Oq Vm (Oq Vm (Oq (Vi sl57 0) (Ost (SoB [0] sh4) (KS ?_))))
   refine Oq Vadd (Oq Vm (KS ?_))
   exact Kg (r23, (seen_9.set ((l.getD v12_10.toNat 0) : Int).toNat true), (v12_10 + 1)) [0, 0] ⟨(q3 hM11 (by simp only [solver_distinct_L0, h21, h25, h29, h33, cs4])), (by omega), (by omega), (by omega), (by omega), iv1⟩
 intro h21
 have g37 := of_decide_eq_false h21
 obtain rfl : r8 = 0 := by omega
 refine Ke ?_
 have hR38 := q2 hM11 (.brk ()) (by simp only [solver_distinct_L0, h21, cs4])
 refine KS ?_
 refine Oq Va (KS ?_)
 have hq := q4 hrr true (by simp only [solver_distinct, h21, hR38, cs4]); subst hq
 exact Kr () rfl (.tmp rfl .nil) [] trivial
theorem fn211 (s : List Int) (sa0 : Option Addr) (sk0 : Nat) (fF : FuncId) (fC : List Value) (fp : Int → Bool) (fA : List SP) (hfc : callable Tryz.prog fF = true) (hfF : ∀ x ∈ s, i64ok x → FT Tryz.prog fF ([(vi x : Value)] ++ fC).toArray ([] ++ [pAll fA]) (fun _ : Unit => True) (fun _ => .bool (fp x)) (fun _ => [])) (rr : Int) (hrr : slices_IndexFunc_int s fp = rr) : FT Tryz.prog 211 #[vl sa0 sk0 s, .func (.func fF) #[] fC.toArray] [S sa0 sk0 s, pAll fA] (fun g : Unit => i64ok rr) (fun g => vi rr) (fun g => []) := by
 refine FTi Tryz.func211 fun w0 M0 F0 => ?_
 refine Fb 8 0 fun hl1 => ?_
 refine Fo 0 fun ho2 => ?_
 refine KS ?_
 refine Oq Va (KS ?_)
 refine Oq Vm (Oq (Vlen sl22) (Oq Vm (KS ?_)))
 refine Kl (γ := Nat × Int) (fun (r3, v8_4) => ⟨[(0, vl sa0 sk0 s), (1, .func (.func fF) #[] fC.toArray), (7, vi (s.length : Int)), (8, vi v8_4)], [S sa0 sk0 s, pAll fA], slices_IndexFunc_int_L0 s fp r3 v8_4 = slices_IndexFunc_int_L0 s fp (((s.length : Int) - 0).toNat) 0 ∧ r3 = ((s.length : Int) - v8_4).toNat ∧ (0 : Int) ≤ v8_4 ∧ v8_4 ≤ (s.length : Int) ∧ (-9223372036854775808 ≤ v8_4 ∧ v8_4 ≤ 9223372036854775807), r3⟩) (((s.length : Int) - 0).toNat, 0) [0, 1] ⟨rfl, rfl, (by omega), (by omega), (by omega)⟩ ?_
 rintro ⟨r3, v8_4⟩ ⟨hM5, hr6, hi7, hi8, hk9⟩
 refine JJ_nx fun _ _ hL hA => ?_; dsimp only at hL hA; subst hL hA
 refine Fb 8 0 fun hl10 => ?_
 refine Fo 0 fun ho11 => ?_
 refine KS ?_
 refine Oq Vlss (KS ?_)
 refine Kc ?_ ?_
 · intro h12
   have g13 := of_decide_eq_true h12
   obtain ⟨r14, rfl⟩ := scc (n := r3) (by omega)
   refine KS ?_
   refine Oq Vm (Oq Va (KS ?_))
   refine Oq Vm (Oq Vm (Oq Vm (Oq (Vi sl22 0) ?_)))
   have hb15 := ok1 (i := v8_4.toNat) ho11 rng
   refine Oq (VldI sh3 0) ?_
   refine JO_call [1] rfl rfl rfl (OpC.clo («as» := [(vi (s.getD v8_4.toNat 0) : Value)] ++ fC) rfl rfl hfc rfl (by simp)) (hfF (s.getD v8_4.toNat 0) (getD_mem rng)  (by unfold i64ok; omega)) rfl fun _ _ => ?_
   refine KS ?_
   refine Kc ?_ ?_
   · intro h16
     refine KS ?_
     refine Oq Vm (Oq Va (KS ?_))
     have hR18 := q2 hM5 (.ret v8_4) (by simp only [slices_IndexFunc_int_L0, h12, h16, cs4])
     have hq := q4 hrr v8_4 (by simp only [slices_IndexFunc_int, h12, h16, hR18, cs4]); subst hq
     exact Kr () rfl (.tmp rfl .nil) [] en
   intro h16
   refine KS ?_
   refine Oq Vadd (Oq Vm (KS ?_))
   exact Kg (r14, (v8_4 + 1)) [0, 1] ⟨(q3 hM5 (by simp only [slices_IndexFunc_int_L0, h12, h16, cs4])), (by omega), (by omega), (by omega), (by omega)⟩
 intro h12
 have g20 := of_decide_eq_false h12
 obtain rfl : r3 = 0 := by omega
 refine Ke ?_
 have hR21 := q2 hM5 (.brk ()) (by simp only [slices_IndexFunc_int_L0, h12, cs4])
 refine KS ?_
 refine Oq Va (KS ?_)
 have hq := q4 hrr (-1) (by simp only [slices_IndexFunc_int, h12, hR21, cs4]); subst hq
 exact Kr () rfl (.tmp rfl .nil) [] en
theorem fn154 (s : List Int) (sa0 : Option Addr) (sk0 : Nat) (fF : FuncId) (fC : List Value) (fp : Int → Bool) (fA : List SP) (hfc : callable Tryz.prog fF = true) (hfF : ∀ x ∈ s, i64ok x → FT Tryz.prog fF ([(vi x : Value)] ++ fC).toArray ([] ++ [pAll fA]) (fun _ : Unit => True) (fun _ => .bool (fp x)) (fun _ => [])) (rr : Bool) (hrr : slices_ContainsFunc_int s fp = rr) : FT Tryz.prog 154 #[vl sa0 sk0 s, .func (.func fF) #[] fC.toArray] [S sa0 sk0 s, pAll fA] (fun g : Unit => True) (fun g => vb rr) (fun g => []) := by
 refine FTi Tryz.func154 fun w0 M0 F0 => ?_
 refine Fb 8 0 fun hl1 => ?_
 refine Fo 0 fun ho2 => ?_
 refine KS ?_
 refine Oq Va (KS ?_)
 refine Oq Vm (Oq Vm ?_)
 refine letv (slices_IndexFunc_int s fp) fun rv3 hg4 => ?_
 have hc5 := fn211 s sa0 sk0 fF fC fp fA hfc hfF rv3 hg4
 refine Oc [0, 1] ca211 hc5 ?_
 rintro - he6
 unfold i64ok at he6
 refine Oq Vgeq (Oq Va (KS ?_))
 have hq := q4 hrr (decide (0 ≤ rv3)) (by simp only [slices_ContainsFunc_int, hg4, cs4]); subst hq
 exact Kr () rfl (.tmp rfl .nil) [] trivial
theorem fn127 (s : List GKnown) (sa0 : Option Addr) (sk0 : Nat) (fF : FuncId) (fC : List Value) (fp : GKnown → Bool) (fA : List SP) (hfc : callable Tryz.prog fF = true) (hfF : ∀ x ∈ s, ∀ (a2 : Option Addr) (k2 : Nat), i64ok x.Node → i64ok x.Value.Width → FT Tryz.prog fF ([(.agg #[vi x.Node, vi x.Value.Width, vl a2 k2 x.Value.Words] : Value)] ++ fC).toArray ([S a2 k2 x.Value.Words] ++ [pAll fA]) (fun _ : Unit => True) (fun _ => .bool (fp x)) (fun _ => [])) (rr : Int) (hrr : slices_IndexFunc_Known s fp = rr) : FT Tryz.prog 127 #[vl sa0 sk0 s, .func (.func fF) #[] fC.toArray] [S sa0 sk0 s, pAll fA] (fun g : Unit => i64ok rr ∧ (-1 ≤ rr ∧ rr < (s.length : Int))) (fun g => vi rr) (fun g => []) := by
 refine FTi Tryz.func127 fun w0 M0 F0 => ?_
 refine Fb 40 0 fun hl1 => ?_
 refine KS ?_
 refine Oq Va (KS ?_)
 refine Oq Vm (Oq (Vlen sl53) (Oq Vm (KS ?_)))
 refine Kl (γ := Nat × Int) (fun (r2, v8_3) => ⟨[(0, vl sa0 sk0 s), (1, .func (.func fF) #[] fC.toArray), (7, vi (s.length : Int)), (8, vi v8_3)], [S sa0 sk0 s, pAll fA], slices_IndexFunc_Known_L0 s fp r2 v8_3 = slices_IndexFunc_Known_L0 s fp (((s.length : Int) - 0).toNat) 0 ∧ r2 = ((s.length : Int) - v8_3).toNat ∧ (0 : Int) ≤ v8_3 ∧ v8_3 ≤ (s.length : Int) ∧ (-9223372036854775808 ≤ v8_3 ∧ v8_3 ≤ 9223372036854775807), r2⟩) (((s.length : Int) - 0).toNat, 0) [0, 1] ⟨rfl, rfl, (by omega), (by omega), (by omega)⟩ ?_
 rintro ⟨r2, v8_3⟩ ⟨hM4, hr5, hi6, hi7, hk8⟩
 refine JJ_nx fun _ _ hL hA => ?_; dsimp only at hL hA; subst hL hA
 refine Fb 40 0 fun hl9 => ?_
 refine KS ?_
 refine Oq Vlss (KS ?_)
 refine Kc ?_ ?_
 · intro h10
   have g11 := of_decide_eq_true h10
   obtain ⟨r12, rfl⟩ := scc (n := r2) (by omega)
   refine KS ?_
   refine Oq Vm (Oq Va (KS ?_))
   refine Oq Vm (Oq Vm (Oq Vm (Oq (Vi sl53 0) ?_)))
   refine JJ_peek_GKnown v8_3.toNat 0 rfl rng fun a13 k14 hb15 hb16 => ?_
   unfold i64ok at hb15 hb16
   refine Fb 8 1 fun hl17 => ?_
   refine Oq (VldA sh67 0) ?_
   refine JO_call [1, 3] rfl rfl rfl (OpC.clo («as» := [(.agg #[vi ((s.getD v8_3.toNat default).Node), vi (((s.getD v8_3.toNat default).Value).Width), vl a13 k14 (((s.getD v8_3.toNat default).Value).Words)] : Value)] ++ fC) rfl rfl hfc rfl (by simp)) (hfF (s.getD v8_3.toNat default) (getD_mem rng) a13 k14 (by unfold i64ok; omega) (by unfold i64ok; omega)) rfl fun _ _ => ?_
   refine KS ?_
   refine Kc ?_ ?_
   · intro h18
     refine KS ?_
     refine Oq Vm (Oq Va (KS ?_))
     have hR20 := q2 hM4 (.ret v8_3) (by simp only [slices_IndexFunc_Known_L0, h10, h18, cs4])
     have hq := q4 hrr v8_3 (by simp only [slices_IndexFunc_Known, h10, h18, hR20, cs4]); subst hq
     exact Kr () rfl (.tmp rfl .nil) [] en
   intro h18
   refine KS ?_
   refine Oq Vadd (Oq Vm (KS ?_))
   exact Kg (r12, (v8_3 + 1)) [2, 3] ⟨(q3 hM4 (by simp only [slices_IndexFunc_Known_L0, h10, h18, cs4])), (by omega), (by omega), (by omega), (by omega)⟩
 intro h10
 have g22 := of_decide_eq_false h10
 obtain rfl : r2 = 0 := by omega
 refine Ke ?_
 have hR23 := q2 hM4 (.brk ()) (by simp only [slices_IndexFunc_Known_L0, h10, cs4])
 refine KS ?_
 refine Oq Va (KS ?_)
 have hq := q4 hrr (-1) (by simp only [slices_IndexFunc_Known, h10, hR23, cs4]); subst hq
 exact Kr () rfl (.tmp rfl .nil) [] en
theorem fn233 (x : GKnown) (xa2 : Option Addr) (xk2 : Nat) (cap0P : Value) (cap0 : Int) (hx_0 : i64ok x.Node) (hx_1 : i64ok x.Value.Width) (hcap0_0 : i64ok cap0) (rr : Bool) (hrr : solver_find_1 x cap0 = rr) : FT Tryz.prog 233 #[.agg #[vi x.Node, vi x.Value.Width, vl xa2 xk2 x.Value.Words], cap0P] [S xa2 xk2 x.Value.Words, pv cap0P [vi cap0]] (fun g : Unit => True) (fun g => vb rr) (fun g => []) := by
 refine FTi Tryz.func233 fun w0 M0 F0 => ?_
 unfold i64ok at hx_0 hx_1 hcap0_0
 refine Fb 8 0 fun hl1 => ?_
 refine KS ?_
 refine Oa (Ab [vi x.Node, vi x.Value.Width, vl xa2 xk2 x.Value.Words]) fun p2 => Oq Va (KS ?_)
 refine Oq (Vfa fo67_0 0) (Oq (VldF sh3 0) (Oq (Vld sh3 2) (Oq Veql (Oq Va (KS ?_)))))
 have hq := q4 hrr (x.Node == cap0) (by simp only [solver_find_1, cs4]); subst hq
 exact Kr () rfl (.tmp rfl .nil) [] trivial
theorem fn177 (k : List GKnown) (ka0 : Option Addr) (kk0 : Nat) (n : Int) (hn_0 : i64ok n) (rr : Int) (hrr : solver_find k n = rr) : FT Tryz.prog 177 #[vl ka0 kk0 k, vi n] [S ka0 kk0 k] (fun g : Unit => i64ok rr ∧ (-1 ≤ rr ∧ rr < (k.length : Int))) (fun g => vi rr) (fun g => []) := by
 refine FTi Tryz.func177 fun w0 M0 F0 => ?_
 unfold i64ok at hn_0
 refine Fb 40 0 fun hl1 => ?_
 refine KS ?_
 refine Oa (Ab [vi n]) fun p2 => Oq Va (KS ?_)
 refine Oq Vm (Oq (Vf [p2]) ?_)
 refine JJ_ent (Ent.pall [0] rfl rfl) ?_
 refine letv (slices_IndexFunc_Known k (fun x => solver_find_1 x n)) fun rv3 hg4 => ?_
 have hc5 := fn127 k ka0 kk0 233 [p2] (fun x => solver_find_1 x n) [pv p2 [vi n]] ca233 (fun x hx a2 k2 hq0 hq1 => FT_pall (A1 := _) (fn233 x a2 k2 p2 n hq0 hq1 pre _ rfl)) rv3 hg4
 refine Oc [2, 0] ca127 hc5 ?_
 rintro - ⟨he6, he7⟩
 unfold i64ok at he6
 refine Oq Va (KS ?_)
 have hq := q4 hrr rv3 (by simp only [solver_find, hg4, cs4]); subst hq
 exact Kr () rfl (.tmp rfl .nil) [] en
theorem fn129 (s : List Int) (sa0 : Option Addr) (sk0 : Nat) (v : Int) (hv_0 : i64ok v) (rr : Int) (hrr : slices_Index_int s v = rr) : FT Tryz.prog 129 #[vl sa0 sk0 s, vi v] [S sa0 sk0 s] (fun g : Unit => i64ok rr) (fun g => vi rr) (fun g => []) := by
 refine FTi Tryz.func129 fun w0 M0 F0 => ?_
 unfold i64ok at hv_0
 refine Fb 8 0 fun hl1 => ?_
 refine Fo 0 fun ho2 => ?_
 refine KS ?_
 refine Oq Va (KS ?_)
 refine Oq Vm (Oq (Vlen sl22) (Oq Vm (KS ?_)))
 refine Kl (γ := Nat × Int) (fun (r3, v8_4) => ⟨[(0, vl sa0 sk0 s), (1, vi v), (7, vi (s.length : Int)), (8, vi v8_4)], [S sa0 sk0 s], slices_Index_int_L0 s v r3 v8_4 = slices_Index_int_L0 s v (((s.length : Int) - 0).toNat) 0 ∧ r3 = ((s.length : Int) - v8_4).toNat ∧ (0 : Int) ≤ v8_4 ∧ v8_4 ≤ (s.length : Int) ∧ (-9223372036854775808 ≤ v8_4 ∧ v8_4 ≤ 9223372036854775807), r3⟩) (((s.length : Int) - 0).toNat, 0) [0] ⟨rfl, rfl, (by omega), (by omega), (by omega)⟩ ?_
 rintro ⟨r3, v8_4⟩ ⟨hM5, hr6, hi7, hi8, hk9⟩
 refine JJ_nx fun _ _ hL hA => ?_; dsimp only at hL hA; subst hL hA
 refine Fb 8 0 fun hl10 => ?_
 refine Fo 0 fun ho11 => ?_
 refine KS ?_
 refine Oq Vlss (KS ?_)
 refine Kc ?_ ?_
 · intro h12
   have g13 := of_decide_eq_true h12
   obtain ⟨r14, rfl⟩ := scc (n := r3) (by omega)
   refine KS ?_
   refine Oq Vm (Oq Va (KS ?_))
   refine Oq Vm (Oq Vm (Oq Vm (Oq (Vi sl22 0) ?_)))
   have hb15 := ok1 (i := v8_4.toNat) ho11 rng
   refine Oq (VldI sh3 0) (Oq Veql (KS ?_))
   refine Kc ?_ ?_
   · intro h16
     have g17 := eq_of_beq h16
     refine KS ?_
     refine Oq Vm (Oq Va (KS ?_))
     have hR18 := q2 hM5 (.ret v8_4) (by simp only [slices_Index_int_L0, h12, h16, cs4])
     have hq := q4 hrr v8_4 (by simp only [slices_Index_int, h12, h16, hR18, cs4]); subst hq
     exact Kr () rfl (.tmp rfl .nil) [] en
   intro h16
   have g19 := ne_of_beq_false h16
   refine KS ?_
   refine Oq Vadd (Oq Vm (KS ?_))
   exact Kg (r14, (v8_4 + 1)) [0] ⟨(q3 hM5 (by simp only [slices_Index_int_L0, h12, h16, cs4])), (by omega), (by omega), (by omega), (by omega)⟩
 intro h12
 have g20 := of_decide_eq_false h12
 obtain rfl : r3 = 0 := by omega
 refine Ke ?_
 have hR21 := q2 hM5 (.brk ()) (by simp only [slices_Index_int_L0, h12, cs4])
 refine KS ?_
 refine Oq Va (KS ?_)
 have hq := q4 hrr (-1) (by simp only [slices_Index_int, h12, hR21, cs4]); subst hq
 exact Kr () rfl (.tmp rfl .nil) [] en
theorem fn82 (s : List Int) (sa0 : Option Addr) (sk0 : Nat) (v : Int) (hv_0 : i64ok v) (rr : Bool) (hrr : slices_Contains_int s v = rr) : FT Tryz.prog 82 #[vl sa0 sk0 s, vi v] [S sa0 sk0 s] (fun g : Unit => True) (fun g => vb rr) (fun g => []) := by
 refine FTi Tryz.func82 fun w0 M0 F0 => ?_
 unfold i64ok at hv_0
 refine Fb 8 0 fun hl1 => ?_
 refine Fo 0 fun ho2 => ?_
 refine KS ?_
 refine Oq Va (KS ?_)
 refine Oq Vm (Oq Vm ?_)
 refine letv (slices_Index_int s v) fun rv3 hg4 => ?_
 have hc5 := fn129 s sa0 sk0 v pre rv3 hg4
 refine Oc [0] ca129 hc5 ?_
 rintro - he6
 unfold i64ok at he6
 refine Oq Vgeq (Oq Va (KS ?_))
 have hq := q4 hrr (decide (0 ≤ rv3)) (by simp only [slices_Contains_int, hg4, cs4]); subst hq
 exact Kr () rfl (.tmp rfl .nil) [] trivial
theorem fn182 (m : Int) (cap0P : Value) (cap0 : GState) (cap0a1 : Option Addr) (cap0k1 : Nat) (cap0a2 : Option Addr) (cap0k2 : Nat) (cap0a5 : Option Addr) (cap0k5 : Nat) (cap0a6 : Option Addr) (cap0k6 : Nat) (hm_0 : i64ok m) (hcap0_0 : i64ok cap0.Phase) (hcap0_3 : i64ok cap0.At) (hcap0_4 : i64ok cap0.Edge) (hcap0_7 : i64ok cap0.Steps) (rr : Bool) (hrr : solver_demanding_1 m cap0 = rr) : FT Tryz.prog 182 #[vi m, cap0P] [pv cap0P [vi cap0.Phase, vl cap0a1 cap0k1 cap0.Cone, vl cap0a2 cap0k2 cap0.Leaf, vi cap0.At, vi cap0.Edge, vl cap0a5 cap0k5 cap0.Values, vl cap0a6 cap0k6 cap0.Queue, vi cap0.Steps], S cap0a1 cap0k1 cap0.Cone, S cap0a2 cap0k2 cap0.Leaf, S cap0a5 cap0k5 cap0.Values, S cap0a6 cap0k6 cap0.Queue] (fun g : Unit => True) (fun g => vb rr) (fun g => []) := by
 refine FTi Tryz.func182 fun w0 M0 F0 => ?_
 unfold i64ok at hm_0 hcap0_0 hcap0_3 hcap0_4 hcap0_7
 refine Fb 8 1 fun hl1 => ?_
 refine Fo 1 fun ho2 => ?_
 refine Fb 1 2 fun hl3 => ?_
 refine Fb 32 3 fun hl4 => ?_
 refine Fb 8 4 fun hl5 => ?_
 refine Fo 4 fun ho6 => ?_
 refine KS ?_
 refine Oq Va (KS ?_)
 refine Oq (Vfa fo59_1 0) (Oq (VldF sh22 0) (Oq Vm ?_))
 refine letv (slices_Contains_int cap0.Cone m) fun rv7 hg8 => ?_
 have hc9 := fn82 cap0.Cone cap0a1 cap0k1 m pre rv7 hg8
 refine Oc [1] ca82 hc9 ?_
 rintro - -
 refine Oq Vnot (Oq Va (KS ?_))
 have hq := q4 hrr (!rv7) (by simp only [solver_demanding_1, hg8, cs4]); subst hq
 exact Kr () rfl (.tmp rfl .nil) [] trivial
theorem fn102 (s : GSystem) (sa1 : Option Addr) (sk1 : Nat) (sa2 : Option Addr) (sk2 : Nat) (sa3 : Option Addr) (sk3 : Nat) (k : List GKnown) (ka0 : Option Addr) (kk0 : Nat) (st : GState) (sta1 : Option Addr) (stk1 : Nat) (sta2 : Option Addr) (stk2 : Nat) (sta5 : Option Addr) (stk5 : Nat) (sta6 : Option Addr) (stk6 : Nat) (hs_0 : i64ok s.Width) (hst_0 : i64ok st.Phase) (hst_3 : i64ok st.At) (hst_4 : i64ok st.Edge) (hst_7 : i64ok st.Steps) (hv : VSys s) (hlf : st.Leaf.length = st.Cone.length) (hcl : st.Cone.length ≤ 256) (hcr : ∀ x ∈ st.Cone, 0 ≤ x ∧ x < (s.Deps.length : Int)) (rr : Bool) (hrr : solver_demanding s k st = rr) : FT Tryz.prog 102 #[.agg #[vi s.Width, vl sa1 sk1 s.Deps, vl sa2 sk2 s.Transfers, vl sa3 sk3 s.Boundary], vl ka0 kk0 k, .agg #[vi st.Phase, vl sta1 stk1 st.Cone, vl sta2 stk2 st.Leaf, vi st.At, vi st.Edge, vl sta5 stk5 st.Values, vl sta6 stk6 st.Queue, vi st.Steps]] [S sa1 sk1 s.Deps, S sa2 sk2 s.Transfers, S sa3 sk3 s.Boundary, S ka0 kk0 k, S sta1 stk1 st.Cone, S sta2 stk2 st.Leaf, S sta5 stk5 st.Values, S sta6 stk6 st.Queue] (fun g : Unit => True) (fun g => vb rr) (fun g => []) := by
 refine FTi Tryz.func102 fun w0 M0 F0 => ?_
 unfold i64ok at hs_0 hst_0 hst_3 hst_4 hst_7
 refine Fb 24 0 fun hl1 => ?_
 refine Fb 88 1 fun hl2 => ?_
 refine Fb 32 2 fun hl3 => ?_
 refine Fb 40 3 fun hl4 => ?_
 refine Fb 8 4 fun hl5 => ?_
 refine Fo 4 fun ho6 => ?_
 refine Fb 1 5 fun hl7 => ?_
 refine Fb 32 6 fun hl8 => ?_
 refine Fb 8 7 fun hl9 => ?_
 refine Fo 7 fun ho10 => ?_
 have hv1 := hv.n
 have hv2 := hv.tl
 have hv3 := hv.bl
 have hv4 := hv.w
 have hv5 := hv.dep_len
 refine KS ?_
 refine Oa (Ab [vi s.Width, vl sa1 sk1 s.Deps, vl sa2 sk2 s.Transfers, vl sa3 sk3 s.Boundary]) fun p11 => Oa (Ab [vi st.Phase, vl sta1 stk1 st.Cone, vl sta2 stk2 st.Leaf, vi st.At, vi st.Edge, vl sta5 stk5 st.Values, vl sta6 stk6 st.Queue, vi st.Steps]) fun p12 => Oq Va (KS ?_)
 refine Oq (Vfa fo59_3 0) (Oq (VldF sh3 0) (Oq Vlss (Oq Vm ?_)))
 refine Js 14 ?_ ?_
 · intro h13
   have g14 := of_decide_eq_true h13
   refine Osk (Osk (Osk (Osk (Osk (Osk (Oq Vpt (Oq Vm (Osk (Osk ?_)))))))))
   refine Osk (Osk (Oq Vpt (Oq Vm (Osk (Osk (Osk (Osk (Oq Vpt (KS ?_)))))))))
   refine Kt ?_
   refine KS ?_
   refine Oq Va (KS ?_)
   have hq := q4 hrr false (by simp only [solver_demanding, h13, cs4]); subst hq
   exact Kr () rfl (.tmp rfl .nil) [] trivial
 intro h13
 have g15 := of_decide_eq_false h13
 refine Oq (Vfa fo59_3 0) (Oq (VldF sh3 0) (Oq (Vfa fo59_1 0) (Oq (VldF sh22 0) (Oq (Vlen sl22) (Oq Vgeq (Oq Vpf (Oq Vm ?_)))))))
 refine Js 22 ?_ ?_
 · intro h16
   have g17 := of_decide_eq_true h16
   refine Osk (Osk (Osk (Osk (Oq Vpt (Oq Vm (Osk (Osk (Osk (Osk ?_)))))))))
   refine Oq Vpt (KS ?_)
   refine Kt ?_
   refine KS ?_
   refine Oq Va (KS ?_)
   have hq := q4 hrr false (by simp only [solver_demanding, h13, h16, cs4]); subst hq
   exact Kr () rfl (.tmp rfl .nil) [] trivial
 intro h16
 have g18 := of_decide_eq_false h16
 have hqa := hcr _ (getD_mem (xs := st.Cone) (i := st.At.toNat) (d := 0) (by omega))
 refine Oq (Vfa fo59_5 0) (Oq (VldF sh25 0) (Oq (Vlen sl25) (Oq Vgtr (Oq Vpf (Oq Vm ?_)))))
 refine Js 28 ?_ ?_
 · intro h19
   have g20 := of_decide_eq_true h19
   refine Osk (Osk (Osk (Osk (Oq Vpt (KS ?_)))))
   refine Kt ?_
   refine KS ?_
   refine Oq Va (KS ?_)
   have hq := q4 hrr false (by simp only [solver_demanding, h13, h16, h19, cs4]); subst hq
   exact Kr () rfl (.tmp rfl .nil) [] trivial
 intro h19
 have g21 := of_decide_eq_false h19
 refine Oq (Vfa fo59_6 0) (Oq (VldF sh22 0) (Oq (Vlen sl22) (Oq Vgtr (Oq Vpf (KS ?_)))))
 refine Kc ?_ ?_
 · intro h22
   have g23 := of_decide_eq_true h22
   refine KS ?_
   refine Oq Va (KS ?_)
   have hq := q4 hrr false (by simp only [solver_demanding, h13, h16, h19, h22, cs4]); subst hq
   exact Kr () rfl (.tmp rfl .nil) [] trivial
 intro h22
 have g24 := of_decide_eq_false h22
 refine KS ?_
 refine Oq (Vfa fo59_1 0) (Oq (VldF sh22 0) (Oq (Vfa fo59_3 0) (Oq (VldF sh3 0) (Oq (Vi sl22 6) ?_))))
 have hb25 := ok1 (i := st.At.toNat) ho6 rng
 refine Oq (VldI sh3 6) (Oq Va ?_)
 refine KT ?_
 refine KjC (γ := Unit) (fun _ => ⟨[(1, vl ka0 kk0 k), (3, p11), (5, p12)], [pv p12 [vi st.Phase, vl sta1 stk1 st.Cone, vl sta2 stk2 st.Leaf, vi st.At, vi st.Edge, vl sta5 stk5 st.Values, vl sta6 stk6 st.Queue, vi st.Steps], pv p11 [vi s.Width, vl sa1 sk1 s.Deps, vl sa2 sk2 s.Transfers, vl sa3 sk3 s.Boundary], S sa1 sk1 s.Deps, S sa2 sk2 s.Transfers, S sa3 sk3 s.Boundary, S ka0 kk0 k, S sta1 stk1 st.Cone, S sta2 stk2 st.Leaf, S sta5 stk5 st.Values, S sta6 stk6 st.Queue], solver_demanding_J0 s k st = rr ∧ (0 ≤ st.Edge ∧ st.Edge ≤ ((s.Deps.getD ((st.Cone.getD st.At.toNat 0) : Int).toNat []).length : Int)), 0⟩) ?_ ?_
 · skip
   refine bool_split (decide (st.Edge < 0)) ?_ ?_
   · intro h28
     have g29 := of_decide_eq_true h28
     refine Kq [0, 1, 3, 7, 15, 31, 15, 79, 15, 463, 975, 1999, 4095, 8191, 16383, 32767, 65535, 131071, 262143, 524287, 524287, 2097151, 4194303, 8388607, 16777215] fmix ?_
     refine Qv [0] (Vfa fo59_4 0) (Qv [0] (VldF sh3 0) (Qb h28 [] Vlss (Qv [] Vm (Qs (Qs (Qs (Qs (Qs (Qs ?_)))))))))
     refine Qs (Qs (Qs (Qv [] Vpt (Qv [] Vm (Qs (Qs (Qs (Qs (Qs ?_)))))))))
     refine Qs (Qs (Qs (Qs (Qv [] Vpt ?_))))
     refine Qn ⟨by kernel_rfl, ?_⟩
     refine Kt ?_
     refine KS ?_
     refine Oq Va (KS ?_)
     have hq := q4 hrr false (by simp only [solver_demanding, h13, h16, h19, h22, h28, cs4]); subst hq
     exact Kr () rfl (.tmp rfl .nil) [] trivial
   intro h28
   have g30 := of_decide_eq_false h28
   refine JJ_peekL ((st.Cone.getD st.At.toNat 0) : Int).toNat 2 rfl rng fun a31 k32 => ?_
   refine Fb 8 1 fun hl33 => ?_
   refine Fo 1 fun ho34 => ?_
   refine JK_drawK [0, 1, 3, 7, 15, 31, 15, 79, 15, 463, 975, 1999, 4095, 8191, 16383, 32767, 65535, 131071, 262143, 524287, 524287, 2097151, 4194303, 8388607, 16777215] fmix ?_
   refine Dv [2] (Vfa fo59_4 0) (Dv [2] (VldF sh3 0) (Db h28 [] Vlss (Dv [] Vm (Dv [2] (Vfa fo59_4 0) (Dv [2] (VldF sh3 0) (Dv [3] (Vfa fo27_1 0) (Dv [3] (VldF sh23 0) (Dv [] Vm (Dv [4] (Vi sl23 0) ?_)))))))))
   refine Dv [0] (Vld sh22 0) (Dv [] (Vlen sl22) (Dv [] Vgtr (Dv [] Vpf ?_)))
   refine bool_split (decide (((s.Deps.getD ((st.Cone.getD st.At.toNat 0) : Int).toNat []).length : Int) < st.Edge)) ?_ ?_
   · intro h35
     have g36 := of_decide_eq_true h35
     refine Db h35 [] Vm (Ds (Ds (Ds (Ds (Ds (Ds (Ds (Ds (Ds ?_)))))))))
     refine Dv [] Vpt ?_
     refine Dn ⟨by kernel_rfl, fun G => ?_⟩
     refine Jw2 [(1, vl ka0 kk0 k), (3, p11), (5, p12), (64, vb true)] [0, 1, 2, 3, 4, 5, 6, 7, 8, 9, 10, 11] [] ?_
     refine Kt ?_
     refine KS ?_
     refine Oq Va (KS ?_)
     have hq := q4 hrr false (by simp only [solver_demanding, h13, h16, h19, h22, h28, h35, cs4]); subst hq
     exact Kr () rfl (.tmp rfl .nil) [] trivial
   intro h35
   have g37 := of_decide_eq_false h35
   refine Db h35 [] Vm (Dv [2] (Vfa fo59_4 0) (Dv [2] (VldF sh3 0) (Dv [] Vgtr ?_)))
   refine bool_split (decide (0 < st.Edge)) ?_ ?_
   · intro h38
     have g39 := of_decide_eq_true h38
     refine Db h38 [] Vm (Dv [] Vm (Dv [] Vm ?_))
     refine letv (solver_find k (st.Cone.getD st.At.toNat 0)) fun rv40 hg41 => ?_
     refine Dx [7] [] [1, 0] (fun G => vi rv40) [fun G => SP.fact (i64ok rv40 ∧ (-1 ≤ rv40 ∧ rv40 < (k.length : Int)))] (fun G => xC [0] ca177 (fn177 k ka0 kk0 ((st.Cone.getD st.At.toNat 0)) pre rv40 hg41)) (Dv [] Vgeq (Dv [] Vpt (Dv [] Vpf ?_)))
     refine Dn ⟨by kernel_rfl, fun G => ?_⟩
     refine Jw2 [(1, vl ka0 kk0 k), (3, p11), (5, p12), (64, vb (decide (0 ≤ rv40)))] [0, 1, 2, 3, 4, 5, 6, 7, 8, 9, 10, 11] [SP.fact (i64ok rv40 ∧ (-1 ≤ rv40 ∧ rv40 < (k.length : Int)))] ?_
     refine Jf 12 rfl ?_; rintro ⟨he42, he43⟩
     unfold i64ok at he42
     refine Jk [0, 1, 2, 3, 4, 5, 6, 7, 8, 9, 10, 11] ?_
     refine Kc ?_ ?_
     · intro h44
       have g45 := of_decide_eq_true h44
       refine KS ?_
       refine Oq Va (KS ?_)
       have hq := q4 hrr false (by simp only [solver_demanding, h13, h16, h19, h22, h28, h35, h38, h44, hg41, cs4]); subst hq
       exact Kr () rfl (.tmp rfl .nil) [] trivial
     intro h44
     have g46 := of_decide_eq_false h44
     refine KS ?_
     exact Kg () [2, 3, 4, 5, 6, 7, 8, 9, 10, 11] ⟨(q3 hrr (by simp only [solver_demanding, h13, h16, h19, h22, h28, h35, h38, h44, hg41, cs4])), (by omega)⟩
   intro h38
   have g47 := of_decide_eq_false h38
   refine Db h38 [] Vm (Ds (Ds (Ds (Ds (Dv [] Vpf (Dv [] Vpf ?_))))))
   refine Dn ⟨by kernel_rfl, fun G => ?_⟩
   refine Jw2 [(1, vl ka0 kk0 k), (3, p11), (5, p12), (64, vb false)] [0, 1, 2, 3, 4, 5, 6, 7, 8, 9, 10, 11] [] ?_
   refine Kf ?_
   refine KS ?_
   exact Kg () [2, 3, 4, 5, 6, 7, 8, 9, 10, 11] ⟨(q3 hrr (by simp only [solver_demanding, h13, h16, h19, h22, h28, h35, h38, cs4])), (by omega)⟩
 rintro - ⟨hM26, hv27⟩
 refine JJ_nx fun _ _ hL hA => ?_; dsimp only at hL hA; subst hL hA
 refine Fb 24 2 fun hl48 => ?_
 refine Fb 88 3 fun hl49 => ?_
 refine Fb 32 4 fun hl50 => ?_
 refine Fb 40 5 fun hl51 => ?_
 refine Fb 8 6 fun hl52 => ?_
 refine Fo 6 fun ho53 => ?_
 refine Fb 1 7 fun hl54 => ?_
 refine Fb 32 8 fun hl55 => ?_
 refine Fb 8 9 fun hl56 => ?_
 refine Fo 9 fun ho57 => ?_
 refine KS ?_
 refine Oq (Vfa fo59_1 0) (Oq (VldF sh22 0) (Oq (Vlen sl22) (Oq Vm (KS ?_))))
 refine Kl (γ := Nat × Int) (fun (r58, v68_59) => ⟨[(1, vl ka0 kk0 k), (3, p11), (5, p12), (66, vl sta1 stk1 st.Cone), (67, vi (st.Cone.length : Int)), (68, vi v68_59)], [pv p12 [vi st.Phase, vl sta1 stk1 st.Cone, vl sta2 stk2 st.Leaf, vi st.At, vi st.Edge, vl sta5 stk5 st.Values, vl sta6 stk6 st.Queue, vi st.Steps], pv p11 [vi s.Width, vl sa1 sk1 s.Deps, vl sa2 sk2 s.Transfers, vl sa3 sk3 s.Boundary], S sa1 sk1 s.Deps, S sa2 sk2 s.Transfers, S sa3 sk3 s.Boundary, S ka0 kk0 k, S sta1 stk1 st.Cone, S sta2 stk2 st.Leaf, S sta5 stk5 st.Values, S sta6 stk6 st.Queue], solver_demanding_L0 s k st r58 v68_59 = solver_demanding_L0 s k st (((st.Cone.length : Int) - 0).toNat) 0 ∧ r58 = ((st.Cone.length : Int) - v68_59).toNat ∧ (0 : Int) ≤ v68_59 ∧ v68_59 ≤ (st.Cone.length : Int) ∧ (-9223372036854775808 ≤ v68_59 ∧ v68_59 ≤ 9223372036854775807), r58⟩) (((st.Cone.length : Int) - 0).toNat, 0) [0, 1, 2, 3, 4, 5, 6, 7, 8, 9] ⟨rfl, rfl, (by omega), (by omega), (by omega)⟩ ?_
 rintro ⟨r58, v68_59⟩ ⟨hM60, hr61, hi62, hi63, hk64⟩
 refine JJ_nx fun _ _ hL hA => ?_; dsimp only at hL hA; subst hL hA
 refine Fb 24 2 fun hl65 => ?_
 refine Fb 88 3 fun hl66 => ?_
 refine Fb 32 4 fun hl67 => ?_
 refine Fb 40 5 fun hl68 => ?_
 refine Fb 8 6 fun hl69 => ?_
 refine Fo 6 fun ho70 => ?_
 refine Fb 1 7 fun hl71 => ?_
 refine Fb 32 8 fun hl72 => ?_
 refine Fb 8 9 fun hl73 => ?_
 refine Fo 9 fun ho74 => ?_
 refine KS ?_
 refine Oq Vlss (KS ?_)
 refine Kc ?_ ?_
 · intro h75
   have g76 := of_decide_eq_true h75
   have hq := hcr _ (getD_mem (xs := st.Cone) (i := v68_59.toNat) (d := 0) (by omega))
   obtain ⟨r77, rfl⟩ := scc (n := r58) (by omega)
   refine KS ?_
   refine Oq Vm (Oq (Vi sl22 6) ?_)
   have hb78 := ok1 (i := v68_59.toNat) ho70 rng
   refine Oq (VldI sh3 6) (Oq Va (Oq Va (KS ?_)))
   refine JK_drawK [0, 1, 0, 7, 15, 0, 0, 64, 224, 480, 992, 992, 4064, 8160, 16352, 32767] fmix ?_
   refine Dv [0] (Vfa fo59_2 0) (Dv [0] (VldF sh57 0) (Dv [] Vm (Dv [7] (Vi sl57 0) (Dv [7] (VldB sh4 0) (Dv [] Vm (Dv [0] (Vfa fo59_3 0) (Dv [0] (VldF sh3 0) (Dv [] Vlss ?_))))))))
   refine bool_split (decide (v68_59 < st.At)) ?_ ?_
   · intro h79
     have g80 := of_decide_eq_true h79
     refine Db h79 [] Vm (Dv [] Vm (Dv [] Vm ?_))
     refine letv (solver_find k (st.Cone.getD v68_59.toNat 0)) fun rv81 hg82 => ?_
     refine Dx [5] [] [1, 0] (fun G => vi rv81) [fun G => SP.fact (i64ok rv81 ∧ (-1 ≤ rv81 ∧ rv81 < (k.length : Int)))] (fun G => xC [0] ca177 (fn177 k ka0 kk0 ((st.Cone.getD v68_59.toNat 0)) pre rv81 hg82)) (Dv [] Vgeq (Dv [] Vpt (Dv [] (Vnb un4) ?_)))
     refine Dn ⟨by kernel_rfl, fun G => ?_⟩
     refine Jw2 [(1, vl ka0 kk0 k), (3, p11), (5, p12), (66, vl sta1 stk1 st.Cone), (67, vi (st.Cone.length : Int)), (68, vi v68_59), (8, vi v68_59), (9, vi (st.Cone.getD v68_59.toNat 0)), (88, vb (!((st.Leaf.getD v68_59.toNat false) == (decide (0 ≤ rv81)))))] [0, 1, 2, 3, 4, 5, 6, 7, 8, 9] [SP.fact (i64ok rv81 ∧ (-1 ≤ rv81 ∧ rv81 < (k.length : Int)))] ?_
     refine Jf 10 rfl ?_; rintro ⟨he83, he84⟩
     unfold i64ok at he83
     refine Jk [0, 1, 2, 3, 4, 5, 6, 7, 8, 9] ?_
     refine Kc ?_ ?_
     · intro h85
       refine KS ?_
       refine Oq Va (KS ?_)
       have hR87 := q2 hM60 (.ret false) (by simp only [solver_demanding_L0, h13, h16, h19, h22, h75, h79, h85, hg82, cs4])
       have hq := q4 hM26 false (by simp only [solver_demanding_J0, h13, h16, h19, h22, h75, h79, h85, hg82, hR87, cs4]); subst hq
       exact Kr () rfl (.tmp rfl .nil) [] trivial
     intro h85
     refine KS ?_
     refine Oq (Vfa fo27_1 1) (Oq (VldF sh23 1) (Oq Vm (Oq (Vi sl23 2) ?_)))
     refine JJ_peekL ((st.Cone.getD v68_59.toNat 0) : Int).toNat 2 rfl rng fun a89 k90 => ?_
     refine Fb 8 1 fun hl91 => ?_
     refine Fo 1 fun ho92 => ?_
     refine Oq (Vld sh22 0) (Oq Va (KS ?_))
     refine Oq Vm (Oq (Vfa fo59_3 2) (Oq (VldF sh3 2) (Oq Veql (Oq Va (KS ?_)))))
     refine Kc ?_ ?_
     · intro h93
       have g94 := eq_of_beq h93
       have hqe : (s.Deps.getD ((st.Cone.getD v68_59.toNat 0) : Int).toNat []).length = (s.Deps.getD ((st.Cone.getD st.At.toNat 0) : Int).toNat []).length := by rw [eq_of_beq h93]
       refine KS ?_
       refine Oq Vm (Oq (Vfa fo59_4 2) (Oq (VldF sh3 2) (Oa (Asl [1] sl22 0 (st.Edge.toNat)) fun c95 => ?_)))
       refine Jo 0 ?_; rintro a96 k97 rfl
       refine Fb 8 0 fun hl98 => ?_
       refine Fo 0 fun ho99 => ?_
       have hn100 : (((s.Deps.getD ((st.Cone.getD v68_59.toNat 0) : Int).toNat []).take (st.Edge.toNat)).drop 0).length = (st.Edge.toNat) - 0 := len_slice rng rng
       refine Oq Va (KS ?_)
       refine Oq Vm (Oq (Vf [p12]) ?_)
       refine JJ_ent (Ent.pall [3, 9, 10, 11, 12] rfl rfl) ?_
       refine letv (slices_ContainsFunc_int (((s.Deps.getD ((st.Cone.getD v68_59.toNat 0) : Int).toNat []).take (st.Edge.toNat)).drop 0) (fun x => solver_demanding_1 x st)) fun rv101 hg102 => ?_
       have hc103 := fn154 ((((s.Deps.getD ((st.Cone.getD v68_59.toNat 0) : Int).toNat []).take (st.Edge.toNat)).drop 0)) a96 k97 182 [p12] (fun x => solver_demanding_1 x st) [pv p12 [vi st.Phase, vl sta1 stk1 st.Cone, vl sta2 stk2 st.Leaf, vi st.At, vi st.Edge, vl sta5 stk5 st.Values, vl sta6 stk6 st.Queue, vi st.Steps], S sta1 stk1 st.Cone, S sta2 stk2 st.Leaf, S sta5 stk5 st.Values, S sta6 stk6 st.Queue] ca182 (fun x hx hq0 => FT_pall (A1 := _) (fn182 x  p12 st sta1 stk1 sta2 stk2 sta5 stk5 sta6 stk6 hq0 pre pre pre pre _ rfl)) rv101 hg102
       refine Oc [1, 0] ca154 hc103 ?_
       rintro - -
       refine KS ?_
       refine Kc ?_ ?_
       · intro h104
         refine KS ?_
         refine Oq Va (KS ?_)
         have hR106 := q2 hM60 (.ret false) (by simp only [solver_demanding_L0, h13, h16, h19, h22, h75, h79, h85, h93, h104, hg82, hg102, cs4])
         have hq := q4 hM26 false (by simp only [solver_demanding_J0, h13, h16, h19, h22, h75, h79, h85, h93, h104, hg82, hg102, hR106, cs4]); subst hq
         exact Kr () rfl (.tmp rfl .nil) [] trivial
       intro h104
       refine KS ?_
       refine Oq Vadd (Oq Vm (KS ?_))
       exact Kg (r77, (v68_59 + 1)) [4, 5, 6, 7, 8, 9, 10, 11, 12, 13] ⟨(q3 hM60 (by simp only [solver_demanding_L0, h13, h16, h19, h22, h75, h79, h85, h93, h104, hg82, hg102, cs4])), (by omega), (by omega), (by omega), (by omega)⟩
     intro h93
     have g108 := ne_of_beq_false h93
     refine KS ?_
     refine Oq Vm (Oq (Vfa fo59_3 2) (Oq (VldF sh3 2) (Oq Vgtr (Oq Vm ?_))))
     refine Js 108 ?_ ?_
     · intro h109
       have g110 := of_decide_eq_true h109
       refine Osk (Osk (Osk (Osk (Osk (Oq Vpt (Oq Va (KS ?_)))))))
       refine Kt ?_
       refine KS ?_
       refine Oq Va (KS ?_)
       refine Oq Vm (Oq (Vf [p12]) ?_)
       refine Jl [] (Ent.slNil (α := Int)) ?_
       refine JJ_ent (Ent.pall [3, 9, 10, 11, 12] rfl rfl) ?_
       refine letv (slices_ContainsFunc_int [] (fun x => solver_demanding_1 x st)) fun rv111 hg112 => ?_
       have hc113 := fn154 ([]) none 0 182 [p12] (fun x => solver_demanding_1 x st) [pv p12 [vi st.Phase, vl sta1 stk1 st.Cone, vl sta2 stk2 st.Leaf, vi st.At, vi st.Edge, vl sta5 stk5 st.Values, vl sta6 stk6 st.Queue, vi st.Steps], S sta1 stk1 st.Cone, S sta2 stk2 st.Leaf, S sta5 stk5 st.Values, S sta6 stk6 st.Queue] ca182 (fun x hx hq0 => FT_pall (A1 := _) (fn182 x  p12 st sta1 stk1 sta2 stk2 sta5 stk5 sta6 stk6 hq0 pre pre pre pre _ rfl)) rv111 hg112
       refine Oc [1, 0] ca154 hc113 ?_
       rintro - -
       refine KS ?_
       refine Kc ?_ ?_
       · intro h114
         refine KS ?_
         refine Oq Va (KS ?_)
         have hR116 := q2 hM60 (.ret false) (by simp only [solver_demanding_L0, h13, h16, h19, h22, h75, h79, h85, h93, h109, h114, hg82, hg112, cs4])
         have hq := q4 hM26 false (by simp only [solver_demanding_J0, h13, h16, h19, h22, h75, h79, h85, h93, h109, h114, hg82, hg112, hR116, cs4]); subst hq
         exact Kr () rfl (.tmp rfl .nil) [] trivial
       intro h114
       refine KS ?_
       refine Oq Vadd (Oq Vm (KS ?_))
       exact Kg (r77, (v68_59 + 1)) [4, 5, 6, 7, 8, 9, 10, 11, 12, 13] ⟨(q3 hM60 (by simp only [solver_demanding_L0, h13, h16, h19, h22, h75, h79, h85, h93, h109, h114, hg82, hg112, cs4])), (by omega), (by omega), (by omega), (by omega)⟩
     intro h109
     have g118 := of_decide_eq_false h109
     refine Oq (Vfa fo59_2 2) (Oq (VldF sh57 2) (Oq Vm (Oq (Vi sl57 9) (Oq (VldB sh4 9) (Oq Vpf (Oq Va (KS ?_)))))))
     refine Kc ?_ ?_
     · intro h119
       have h121 := h85; rw [h119] at h121
       refine KS ?_
       refine Oq Va (KS ?_)
       refine Oq Vm (Oq (Vf [p12]) ?_)
       refine Jl [] (Ent.slNil (α := Int)) ?_
       refine JJ_ent (Ent.pall [3, 9, 10, 11, 12] rfl rfl) ?_
       refine letv (slices_ContainsFunc_int [] (fun x => solver_demanding_1 x st)) fun rv122 hg123 => ?_
       have hc124 := fn154 ([]) none 0 182 [p12] (fun x => solver_demanding_1 x st) [pv p12 [vi st.Phase, vl sta1 stk1 st.Cone, vl sta2 stk2 st.Leaf, vi st.At, vi st.Edge, vl sta5 stk5 st.Values, vl sta6 stk6 st.Queue, vi st.Steps], S sta1 stk1 st.Cone, S sta2 stk2 st.Leaf, S sta5 stk5 st.Values, S sta6 stk6 st.Queue] ca182 (fun x hx hq0 => FT_pall (A1 := _) (fn182 x  p12 st sta1 stk1 sta2 stk2 sta5 stk5 sta6 stk6 hq0 pre pre pre pre _ rfl)) rv122 hg123
       refine Oc [1, 0] ca154 hc124 ?_
       rintro - -
       refine KS ?_
       refine Kc ?_ ?_
       · intro h125
         refine KS ?_
         refine Oq Va (KS ?_)
         have hR127 := q2 hM60 (.ret false) (by simp only [solver_demanding_L0, h13, h16, h19, h22, h75, h79, h85, h93, h109, h119, h125, hg82, h121, hg123, cs4])
         have hq := q4 hM26 false (by simp only [solver_demanding_J0, h13, h16, h19, h22, h75, h79, h85, h93, h109, h119, h125, hg82, h121, hg123, hR127, cs4]); subst hq
         exact Kr () rfl (.tmp rfl .nil) [] trivial
       intro h125
       refine KS ?_
       refine Oq Vadd (Oq Vm (KS ?_))
       exact Kg (r77, (v68_59 + 1)) [4, 5, 6, 7, 8, 9, 10, 11, 12, 13] ⟨(q3 hM60 (by simp only [solver_demanding_L0, h13, h16, h19, h22, h75, h79, h85, h93, h109, h119, h125, hg82, h121, hg123, cs4])), (by omega), (by omega), (by omega), (by omega)⟩
     intro h119
     have h130 := h85; rw [h119] at h130
     refine KS ?_
     refine Oq Vm (Oq (Vf [p12]) ?_)
     refine JJ_ent (Ent.pall [2, 8, 9, 10, 11] rfl rfl) ?_
     refine letv (slices_ContainsFunc_int (s.Deps.getD ((st.Cone.getD v68_59.toNat 0) : Int).toNat []) (fun x => solver_demanding_1 x st)) fun rv131 hg132 => ?_
     have hc133 := fn154 ((s.Deps.getD ((st.Cone.getD v68_59.toNat 0) : Int).toNat [])) a89 k90 182 [p12] (fun x => solver_demanding_1 x st) [pv p12 [vi st.Phase, vl sta1 stk1 st.Cone, vl sta2 stk2 st.Leaf, vi st.At, vi st.Edge, vl sta5 stk5 st.Values, vl sta6 stk6 st.Queue, vi st.Steps], S sta1 stk1 st.Cone, S sta2 stk2 st.Leaf, S sta5 stk5 st.Values, S sta6 stk6 st.Queue] ca182 (fun x hx hq0 => FT_pall (A1 := _) (fn182 x  p12 st sta1 stk1 sta2 stk2 sta5 stk5 sta6 stk6 hq0 pre pre pre pre _ rfl)) rv131 hg132
     refine Oc [2, 0] ca154 hc133 ?_
     rintro - -
     refine KS ?_
     refine Kc ?_ ?_
     · intro h134
       refine KS ?_
       refine Oq Va (KS ?_)
       have hR136 := q2 hM60 (.ret false) (by simp only [solver_demanding_L0, h13, h16, h19, h22, h75, h79, h85, h93, h109, h119, h134, hg82, h130, hg132, cs4])
       have hq := q4 hM26 false (by simp only [solver_demanding_J0, h13, h16, h19, h22, h75, h79, h85, h93, h109, h119, h134, hg82, h130, hg132, hR136, cs4]); subst hq
       exact Kr () rfl (.tmp rfl .nil) [] trivial
     intro h134
     refine KS ?_
     refine Oq Vadd (Oq Vm (KS ?_))
     exact Kg (r77, (v68_59 + 1)) [3, 4, 5, 6, 7, 8, 9, 10, 11, 12] ⟨(q3 hM60 (by simp only [solver_demanding_L0, h13, h16, h19, h22, h75, h79, h85, h93, h109, h119, h134, hg82, h130, hg132, cs4])), (by omega), (by omega), (by omega), (by omega)⟩
   intro h79
   have g138 := of_decide_eq_false h79
   refine Db h79 [] Vm (Ds (Ds (Ds (Ds (Dv [] Vpf (Dv [] (Vnb un4) ?_))))))
   refine Dn ⟨by kernel_rfl, fun G => ?_⟩
   refine Jw2 [(1, vl ka0 kk0 k), (3, p11), (5, p12), (66, vl sta1 stk1 st.Cone), (67, vi (st.Cone.length : Int)), (68, vi v68_59), (8, vi v68_59), (9, vi (st.Cone.getD v68_59.toNat 0)), (88, vb (!((st.Leaf.getD v68_59.toNat false) == false)))] [0, 1, 2, 3, 4, 5, 6, 7, 8, 9] [] ?_
   refine Kc ?_ ?_
   · intro h139
     refine KS ?_
     refine Oq Va (KS ?_)
     have hR141 := q2 hM60 (.ret false) (by simp only [solver_demanding_L0, h13, h16, h19, h22, h75, h79, h139, cs4])
     have hq := q4 hM26 false (by simp only [solver_demanding_J0, h13, h16, h19, h22, h75, h79, h139, hR141, cs4]); subst hq
     exact Kr () rfl (.tmp rfl .nil) [] trivial
   intro h139
   refine KS ?_
   refine Oq (Vfa fo27_1 1) (Oq (VldF sh23 1) (Oq Vm (Oq (Vi sl23 2) ?_)))
   refine JJ_peekL ((st.Cone.getD v68_59.toNat 0) : Int).toNat 2 rfl rng fun a143 k144 => ?_
   refine Fb 8 1 fun hl145 => ?_
   refine Fo 1 fun ho146 => ?_
   refine Oq (Vld sh22 0) (Oq Va (KS ?_))
   refine Oq Vm (Oq (Vfa fo59_3 2) (Oq (VldF sh3 2) (Oq Veql (Oq Va (KS ?_)))))
   refine Kc ?_ ?_
   · intro h147
     have g148 := eq_of_beq h147
     have hqe : (s.Deps.getD ((st.Cone.getD v68_59.toNat 0) : Int).toNat []).length = (s.Deps.getD ((st.Cone.getD st.At.toNat 0) : Int).toNat []).length := by rw [eq_of_beq h147]
     refine KS ?_
     refine Oq Vm (Oq (Vfa fo59_4 2) (Oq (VldF sh3 2) (Oa (Asl [1] sl22 0 (st.Edge.toNat)) fun c149 => ?_)))
     refine Jo 0 ?_; rintro a150 k151 rfl
     refine Fb 8 0 fun hl152 => ?_
     refine Fo 0 fun ho153 => ?_
     have hn154 : (((s.Deps.getD ((st.Cone.getD v68_59.toNat 0) : Int).toNat []).take (st.Edge.toNat)).drop 0).length = (st.Edge.toNat) - 0 := len_slice rng rng
     refine Oq Va (KS ?_)
     refine Oq Vm (Oq (Vf [p12]) ?_)
     refine JJ_ent (Ent.pall [3, 9, 10, 11, 12] rfl rfl) ?_
     refine letv (slices_ContainsFunc_int (((s.Deps.getD ((st.Cone.getD v68_59.toNat 0) : Int).toNat []).take (st.Edge.toNat)).drop 0) (fun x => solver_demanding_1 x st)) fun rv155 hg156 => ?_
     have hc157 := fn154 ((((s.Deps.getD ((st.Cone.getD v68_59.toNat 0) : Int).toNat []).take (st.Edge.toNat)).drop 0)) a150 k151 182 [p12] (fun x => solver_demanding_1 x st) [pv p12 [vi st.Phase, vl sta1 stk1 st.Cone, vl sta2 stk2 st.Leaf, vi st.At, vi st.Edge, vl sta5 stk5 st.Values, vl sta6 stk6 st.Queue, vi st.Steps], S sta1 stk1 st.Cone, S sta2 stk2 st.Leaf, S sta5 stk5 st.Values, S sta6 stk6 st.Queue] ca182 (fun x hx hq0 => FT_pall (A1 := _) (fn182 x  p12 st sta1 stk1 sta2 stk2 sta5 stk5 sta6 stk6 hq0 pre pre pre pre _ rfl)) rv155 hg156
     refine Oc [1, 0] ca154 hc157 ?_
     rintro - -
     refine KS ?_
     refine Kc ?_ ?_
     · intro h158
       refine KS ?_
       refine Oq Va (KS ?_)
       have hR160 := q2 hM60 (.ret false) (by simp only [solver_demanding_L0, h13, h16, h19, h22, h75, h79, h139, h147, h158, hg156, cs4])
       have hq := q4 hM26 false (by simp only [solver_demanding_J0, h13, h16, h19, h22, h75, h79, h139, h147, h158, hg156, hR160, cs4]); subst hq
       exact Kr () rfl (.tmp rfl .nil) [] trivial
     intro h158
     refine KS ?_
     refine Oq Vadd (Oq Vm (KS ?_))
     exact Kg (r77, (v68_59 + 1)) [4, 5, 6, 7, 8, 9, 10, 11, 12, 13] ⟨(q3 hM60 (by simp only [solver_demanding_L0, h13, h16, h19, h22, h75, h79, h139, h147, h158, hg156, cs4])), (by omega), (by omega), (by omega), (by omega)⟩
   intro h147
   have g162 := ne_of_beq_false h147
   refine KS ?_
   refine Oq Vm (Oq (Vfa fo59_3 2) (Oq (VldF sh3 2) (Oq Vgtr (Oq Vm ?_))))
   refine Js 108 ?_ ?_
   · intro h163
     have g164 := of_decide_eq_true h163
     refine Osk (Osk (Osk (Osk (Osk (Oq Vpt (Oq Va (KS ?_)))))))
     refine Kt ?_
     refine KS ?_
     refine Oq Va (KS ?_)
     refine Oq Vm (Oq (Vf [p12]) ?_)
     refine Jl [] (Ent.slNil (α := Int)) ?_
     refine JJ_ent (Ent.pall [3, 9, 10, 11, 12] rfl rfl) ?_
     refine letv (slices_ContainsFunc_int [] (fun x => solver_demanding_1 x st)) fun rv165 hg166 => ?_
     have hc167 := fn154 ([]) none 0 182 [p12] (fun x => solver_demanding_1 x st) [pv p12 [vi st.Phase, vl sta1 stk1 st.Cone, vl sta2 stk2 st.Leaf, vi st.At, vi st.Edge, vl sta5 stk5 st.Values, vl sta6 stk6 st.Queue, vi st.Steps], S sta1 stk1 st.Cone, S sta2 stk2 st.Leaf, S sta5 stk5 st.Values, S sta6 stk6 st.Queue] ca182 (fun x hx hq0 => FT_pall (A1 := _) (fn182 x  p12 st sta1 stk1 sta2 stk2 sta5 stk5 sta6 stk6 hq0 pre pre pre pre _ rfl)) rv165 hg166
     refine Oc [1, 0] ca154 hc167 ?_
     rintro - -
     refine KS ?_
     refine Kc ?_ ?_
     · intro h168
       refine KS ?_
       refine Oq Va (KS ?_)
       have hR170 := q2 hM60 (.ret false) (by simp only [solver_demanding_L0, h13, h16, h19, h22, h75, h79, h139, h147, h163, h168, hg166, cs4])
       have hq := q4 hM26 false (by simp only [solver_demanding_J0, h13, h16, h19, h22, h75, h79, h139, h147, h163, h168, hg166, hR170, cs4]); subst hq
       exact Kr () rfl (.tmp rfl .nil) [] trivial
     intro h168
     refine KS ?_
     refine Oq Vadd (Oq Vm (KS ?_))
     exact Kg (r77, (v68_59 + 1)) [4, 5, 6, 7, 8, 9, 10, 11, 12, 13] ⟨(q3 hM60 (by simp only [solver_demanding_L0, h13, h16, h19, h22, h75, h79, h139, h147, h163, h168, hg166, cs4])), (by omega), (by omega), (by omega), (by omega)⟩
   intro h163
   have g172 := of_decide_eq_false h163
   refine Oq (Vfa fo59_2 2) (Oq (VldF sh57 2) (Oq Vm (Oq (Vi sl57 9) (Oq (VldB sh4 9) (Oq Vpf (Oq Va (KS ?_)))))))
   refine Kc ?_ ?_
   · intro h173
     have h175 := h139; rw [h173] at h175
     refine KS ?_
     refine Oq Va (KS ?_)
     refine Oq Vm (Oq (Vf [p12]) ?_)
     refine Jl [] (Ent.slNil (α := Int)) ?_
     refine JJ_ent (Ent.pall [3, 9, 10, 11, 12] rfl rfl) ?_
     refine letv (slices_ContainsFunc_int [] (fun x => solver_demanding_1 x st)) fun rv176 hg177 => ?_
     have hc178 := fn154 ([]) none 0 182 [p12] (fun x => solver_demanding_1 x st) [pv p12 [vi st.Phase, vl sta1 stk1 st.Cone, vl sta2 stk2 st.Leaf, vi st.At, vi st.Edge, vl sta5 stk5 st.Values, vl sta6 stk6 st.Queue, vi st.Steps], S sta1 stk1 st.Cone, S sta2 stk2 st.Leaf, S sta5 stk5 st.Values, S sta6 stk6 st.Queue] ca182 (fun x hx hq0 => FT_pall (A1 := _) (fn182 x  p12 st sta1 stk1 sta2 stk2 sta5 stk5 sta6 stk6 hq0 pre pre pre pre _ rfl)) rv176 hg177
     refine Oc [1, 0] ca154 hc178 ?_
     rintro - -
     refine KS ?_
     refine Kc ?_ ?_
     · intro h179
       refine KS ?_
       refine Oq Va (KS ?_)
       have hR181 := q2 hM60 (.ret false) (by simp only [solver_demanding_L0, h13, h16, h19, h22, h75, h79, h139, h147, h163, h173, h179, h175, hg177, cs4])
       have hq := q4 hM26 false (by simp only [solver_demanding_J0, h13, h16, h19, h22, h75, h79, h139, h147, h163, h173, h179, h175, hg177, hR181, cs4]); subst hq
       exact Kr () rfl (.tmp rfl .nil) [] trivial
     intro h179
     refine KS ?_
     refine Oq Vadd (Oq Vm (KS ?_))
     exact Kg (r77, (v68_59 + 1)) [4, 5, 6, 7, 8, 9, 10, 11, 12, 13] ⟨(q3 hM60 (by simp only [solver_demanding_L0, h13, h16, h19, h22, h75, h79, h139, h147, h163, h173, h179, h175, hg177, cs4])), (by omega), (by omega), (by omega), (by omega)⟩
   intro h173
   have h184 := h139; rw [h173] at h184
   refine KS ?_
   refine Oq Vm (Oq (Vf [p12]) ?_)
   refine JJ_ent (Ent.pall [2, 8, 9, 10, 11] rfl rfl) ?_
   refine letv (slices_ContainsFunc_int (s.Deps.getD ((st.Cone.getD v68_59.toNat 0) : Int).toNat []) (fun x => solver_demanding_1 x st)) fun rv185 hg186 => ?_
   have hc187 := fn154 ((s.Deps.getD ((st.Cone.getD v68_59.toNat 0) : Int).toNat [])) a143 k144 182 [p12] (fun x => solver_demanding_1 x st) [pv p12 [vi st.Phase, vl sta1 stk1 st.Cone, vl sta2 stk2 st.Leaf, vi st.At, vi st.Edge, vl sta5 stk5 st.Values, vl sta6 stk6 st.Queue, vi st.Steps], S sta1 stk1 st.Cone, S sta2 stk2 st.Leaf, S sta5 stk5 st.Values, S sta6 stk6 st.Queue] ca182 (fun x hx hq0 => FT_pall (A1 := _) (fn182 x  p12 st sta1 stk1 sta2 stk2 sta5 stk5 sta6 stk6 hq0 pre pre pre pre _ rfl)) rv185 hg186
   refine Oc [2, 0] ca154 hc187 ?_
   rintro - -
   refine KS ?_
   refine Kc ?_ ?_
   · intro h188
     refine KS ?_
     refine Oq Va (KS ?_)
     have hR190 := q2 hM60 (.ret false) (by simp only [solver_demanding_L0, h13, h16, h19, h22, h75, h79, h139, h147, h163, h173, h188, h184, hg186, cs4])
     have hq := q4 hM26 false (by simp only [solver_demanding_J0, h13, h16, h19, h22, h75, h79, h139, h147, h163, h173, h188, h184, hg186, hR190, cs4]); subst hq
     exact Kr () rfl (.tmp rfl .nil) [] trivial
   intro h188
   refine KS ?_
   refine Oq Vadd (Oq Vm (KS ?_))
   exact Kg (r77, (v68_59 + 1)) [3, 4, 5, 6, 7, 8, 9, 10, 11, 12] ⟨(q3 hM60 (by simp only [solver_demanding_L0, h13, h16, h19, h22, h75, h79, h139, h147, h163, h173, h188, h184, hg186, cs4])), (by omega), (by omega), (by omega), (by omega)⟩
 intro h75
 have g192 := of_decide_eq_false h75
 obtain rfl : r58 = 0 := by omega
 refine Ke ?_
 have hR193 := q2 hM60 (.brk ()) (by simp only [solver_demanding_L0, h13, h16, h19, h22, h75, cs4])
 refine KS ?_
 refine Oq Va (KS ?_)
 have hq := q4 hM26 true (by simp only [solver_demanding_J0, h13, h16, h19, h22, h75, hR193, cs4]); subst hq
 exact Kr () rfl (.tmp rfl .nil) [] trivial
theorem fn198 (n : Int) (cap0P : Value) (cap0 : GSystem) (cap0a1 : Option Addr) (cap0k1 : Nat) (cap0a2 : Option Addr) (cap0k2 : Nat) (cap0a3 : Option Addr) (cap0k3 : Nat) (hn_0 : i64ok n) (hcap0_0 : i64ok cap0.Width) (rr : Bool) (hrr : cone_unknowns_1 n cap0 = rr) : FT Tryz.prog 198 #[vi n, cap0P] [pv cap0P [vi cap0.Width, vl cap0a1 cap0k1 cap0.Deps, vl cap0a2 cap0k2 cap0.Transfers, vl cap0a3 cap0k3 cap0.Boundary], S cap0a1 cap0k1 cap0.Deps, S cap0a2 cap0k2 cap0.Transfers, S cap0a3 cap0k3 cap0.Boundary] (fun g : Unit => True) (fun g => vb rr) (fun g => []) := by
 refine FTi Tryz.func198 fun w0 M0 F0 => ?_
 unfold i64ok at hn_0 hcap0_0
 refine Fb 24 1 fun hl1 => ?_
 refine Fb 88 2 fun hl2 => ?_
 refine Fb 32 3 fun hl3 => ?_
 refine KS ?_
 refine Oq Va (KS ?_)
 refine Oq Vm (Oq Vlss (Oq Vm ?_))
 refine Js 6 ?_ ?_
 · intro h4
   have g5 := of_decide_eq_true h4
   refine Osk (Osk (Osk (Osk (Osk (Oq Vpt (Oq Va (KS ?_)))))))
   have hq := q4 hrr true (by simp only [cone_unknowns_1, h4, cs4]); subst hq
   exact Kr () rfl (.tmp rfl .nil) [] trivial
 intro h4
 have g6 := of_decide_eq_false h4
 refine Oq Vm (Oq (Vfa fo27_1 0) (Oq (VldF sh23 0) (Oq (Vlen sl23) (Oq Vgeq (Oq Vpf (Oq Va (KS ?_)))))))
 have hq := q4 hrr (decide ((cap0.Deps.length : Int) ≤ n)) (by simp only [cone_unknowns_1, h4, cs4]); subst hq
 exact Kr () rfl (.tmp rfl .nil) [] trivial
theorem fn118 (s : GSystem) (sa1 : Option Addr) (sk1 : Nat) (sa2 : Option Addr) (sk2 : Nat) (sa3 : Option Addr) (sk3 : Nat) (l : List Int) (la0 : Option Addr) (lk0 : Nat) (hs_0 : i64ok s.Width) (rr : Bool) (hrr : cone_unknowns s l = rr) : FT Tryz.prog 118 #[.agg #[vi s.Width, vl sa1 sk1 s.Deps, vl sa2 sk2 s.Transfers, vl sa3 sk3 s.Boundary], vl la0 lk0 l] [S sa1 sk1 s.Deps, S sa2 sk2 s.Transfers, S sa3 sk3 s.Boundary, S la0 lk0 l] (fun g : Unit => True) (fun g => vb rr) (fun g => []) := by
 refine FTi Tryz.func118 fun w0 M0 F0 => ?_
 unfold i64ok at hs_0
 refine Fb 24 0 fun hl1 => ?_
 refine Fb 88 1 fun hl2 => ?_
 refine Fb 32 2 fun hl3 => ?_
 refine Fb 8 3 fun hl4 => ?_
 refine Fo 3 fun ho5 => ?_
 refine KS ?_
 refine Oa (Ab [vi s.Width, vl sa1 sk1 s.Deps, vl sa2 sk2 s.Transfers, vl sa3 sk3 s.Boundary]) fun p6 => Oq Va (KS ?_)
 refine Oq Vm (Oq (Vf [p6]) ?_)
 refine JJ_ent (Ent.pall [0, 1, 2, 3] rfl rfl) ?_
 refine letv (slices_ContainsFunc_int l (fun x => cone_unknowns_1 x s)) fun rv7 hg8 => ?_
 have hc9 := fn154 l la0 lk0 198 [p6] (fun x => cone_unknowns_1 x s) [pv p6 [vi s.Width, vl sa1 sk1 s.Deps, vl sa2 sk2 s.Transfers, vl sa3 sk3 s.Boundary], S sa1 sk1 s.Deps, S sa2 sk2 s.Transfers, S sa3 sk3 s.Boundary] ca198 (fun x hx hq0 => FT_pall (A1 := _) (fn198 x  p6 s sa1 sk1 sa2 sk2 sa3 sk3 hq0 pre _ rfl)) rv7 hg8
 refine Oc [5, 0] ca154 hc9 ?_
 rintro - -
 refine Oq Vnot (Oq Va (KS ?_))
 have hq := q4 hrr (!rv7) (by simp only [cone_unknowns, hg8, cs4]); subst hq
 exact Kr () rfl (.tmp rfl .nil) [] trivial
theorem fn238 (m : Int) (cap0P : Value) (cap0 : List Bool) (cap0a0 : Option Addr) (cap0k0 : Nat) (hm_0 : i64ok m) (hm0 : 0 ≤ m ∧ m < (cap0.length : Int)) (rr : Bool) (hrr : cone_Closed_1 m cap0 = rr) : FT Tryz.prog 238 #[vi m, cap0P] [pv cap0P [vl cap0a0 cap0k0 cap0], S cap0a0 cap0k0 cap0] (fun g : Unit => True) (fun g => vb rr) (fun g => []) := by
 refine FTi Tryz.func238 fun w0 M0 F0 => ?_
 unfold i64ok at hm_0
 refine Fb 1 1 fun hl1 => ?_
 refine KS ?_
 refine Oq Va (KS ?_)
 refine Oq (Vld sh57 0) (Oq Vm (Oq (Vi sl57 1) (Oq (VldB sh4 1) (Oq Vnot (Oq Va (KS ?_))))))
 have hq := q4 hrr (!(cap0.getD m.toNat false)) (by simp only [cone_Closed_1, cs4]); subst hq
 exact Kr () rfl (.tmp rfl .nil) [] trivial
theorem fn183 (s : GSystem) (sa1 : Option Addr) (sk1 : Nat) (sa2 : Option Addr) (sk2 : Nat) (sa3 : Option Addr) (sk3 : Nat) (set_ : List Int) (set_a0 : Option Addr) (set_k0 : Nat) (leaves : List Int) (leavesa0 : Option Addr) (leavesk0 : Nat) (hs_0 : i64ok s.Width) (rr : Bool) (hrr : cone_Closed s set_ leaves = rr) : FT Tryz.prog 183 #[.agg #[vi s.Width, vl sa1 sk1 s.Deps, vl sa2 sk2 s.Transfers, vl sa3 sk3 s.Boundary], vl set_a0 set_k0 set_, vl leavesa0 leavesk0 leaves] [S sa1 sk1 s.Deps, S sa2 sk2 s.Transfers, S sa3 sk3 s.Boundary, S set_a0 set_k0 set_, S leavesa0 leavesk0 leaves] (fun g : Unit => True) (fun g => vb rr) (fun g => []) := by
 refine FTi Tryz.func183 fun w0 M0 F0 => ?_
 unfold i64ok at hs_0
 refine Fb 24 0 fun hl1 => ?_
 refine Fb 88 1 fun hl2 => ?_
 refine Fb 32 2 fun hl3 => ?_
 refine Fb 8 3 fun hl4 => ?_
 refine Fo 3 fun ho5 => ?_
 refine Fb 8 4 fun hl6 => ?_
 refine Fo 4 fun ho7 => ?_
 refine KS ?_
 refine Oa (Ab [vi s.Width, vl sa1 sk1 s.Deps, vl sa2 sk2 s.Transfers, vl sa3 sk3 s.Boundary]) fun p8 => Oq Va (KS ?_)
 refine Oq (VldA sh27 0) ?_
 refine letv (equations_Valid s) fun rv9 hg10 => ?_
 have hc11 := fn109 s sa1 sk1 sa2 sk2 sa3 sk3 pre rv9 hg10
 refine Oc [1, 2, 3] ca109 hc11 ?_
 rintro - -
 refine Oq Vnot (Oq Vm ?_)
 refine Js 15 ?_ ?_
 · intro h12
   have h14 := not_true h12
   refine Osk (Osk (Osk (Osk (Oq Vpt (Oq Vm (Osk (Osk (Osk (Osk ?_)))))))))
   refine Oq Vpt (KS ?_)
   refine Kt ?_
   refine KS ?_
   refine Oq Va (KS ?_)
   have hq := q4 hrr false (by simp only [cone_Closed, h12, h14, hg10, cs4]); subst hq
   exact Kr () rfl (.tmp rfl .nil) [] trivial
 intro h12
 have h17 := not_false h12
 refine Oq (VldA sh27 0) (Oq Vm ?_)
 refine letv (cone_unknowns s set_) fun rv19 hg20 => ?_
 have hc21 := fn118 s sa1 sk1 sa2 sk2 sa3 sk3 set_ set_a0 set_k0 pre rv19 hg20
 refine Oc [1, 2, 3, 4] ca118 hc21 ?_
 rintro - -
 refine Oq Vnot (Oq Vpf (Oq Vm ?_))
 refine Js 21 ?_ ?_
 · intro h22
   have h24 := not_true h22
   refine Osk (Osk (Osk (Osk (Oq Vpt (KS ?_)))))
   refine Kt ?_
   refine KS ?_
   refine Oq Va (KS ?_)
   have hq := q4 hrr false (by simp only [cone_Closed, h12, h17, h22, h24, hg10, hg20, cs4]); subst hq
   exact Kr () rfl (.tmp rfl .nil) [] trivial
 intro h22
 have h27 := not_false h22
 refine Oq (VldA sh27 0) (Oq Vm ?_)
 refine letv (cone_unknowns s leaves) fun rv29 hg30 => ?_
 have hc31 := fn118 s sa1 sk1 sa2 sk2 sa3 sk3 leaves leavesa0 leavesk0 pre rv29 hg30
 refine Oc [1, 2, 3, 5] ca118 hc31 ?_
 rintro - -
 refine Oq Vnot (Oq Vpf (KS ?_))
 refine Kc ?_ ?_
 · intro h32
   have h34 := not_true h32
   refine KS ?_
   refine Oq Va (KS ?_)
   have hq := q4 hrr false (by simp only [cone_Closed, h12, h17, h22, h27, h32, h34, hg10, hg20, hg30, cs4]); subst hq
   exact Kr () rfl (.tmp rfl .nil) [] trivial
 intro h32
 have h37 := not_false h32
 refine KS ?_
 refine Oq (Vfa fo27_1 0) (Oq (VldF sh23 0) (Oq (Vlen sl23) (Oa (Amk (α := Bool) sl57 sz57 false (fun _ _ => rfl)) fun c39 => ?_)))
 refine Jo 0 ?_; rintro a40 k41 rfl
 refine Fb 1 0 fun hl42 => ?_
 have hn43 := List.length_replicate (n := (s.Deps.length : Int).toNat) (a := false)
 refine Oa (Al ze57 [.slice none 0 0]) fun p44 => Ost (Scl [0] sh57 [vl a40 k41 (List.replicate (s.Deps.length : Int).toNat false)]) (KS ?_)
 refine Oq Vm (Oq (Vlen sl22) (Oq Vm (KS ?_)))
 refine Kl (γ := Nat × List Bool × Int) (fun (r45, inside0_46, v33_47) => ⟨[(1, vl set_a0 set_k0 set_), (2, vl leavesa0 leavesk0 leaves), (3, p8), (7, p44), (31, vl set_a0 set_k0 set_), (32, vi (set_.length : Int)), (33, vi v33_47)], [Cl p44 [vl a40 k41 (List.replicate (s.Deps.length : Int).toNat false)], os (vl a40 k41 (List.replicate (s.Deps.length : Int).toNat false)) inside0_46, pv p8 [vi s.Width, vl sa1 sk1 s.Deps, vl sa2 sk2 s.Transfers, vl sa3 sk3 s.Boundary], S sa1 sk1 s.Deps, S sa2 sk2 s.Transfers, S sa3 sk3 s.Boundary, S set_a0 set_k0 set_, S leavesa0 leavesk0 leaves], cone_Closed_L0 set_ r45 inside0_46 v33_47 = cone_Closed_L0 set_ (((set_.length : Int) - 0).toNat) (List.replicate (s.Deps.length : Int).toNat false) 0 ∧ r45 = ((set_.length : Int) - v33_47).toNat ∧ (0 : Int) ≤ v33_47 ∧ v33_47 ≤ (set_.length : Int) ∧ (-9223372036854775808 ≤ v33_47 ∧ v33_47 ≤ 9223372036854775807) ∧ (inside0_46.length : Int) = (s.Deps.length : Int), r45⟩) (((set_.length : Int) - 0).toNat, (List.replicate (s.Deps.length : Int).toNat false), 0) [0, 0, 0, 1, 2, 3, 4, 5] ⟨rfl, rfl, (by omega), (by omega), (by omega), iv0⟩ ?_
 rintro ⟨r45, inside0_46, v33_47⟩ ⟨hM48, hr49, hi50, hi51, hk52, hv53⟩
 refine JJ_nx fun _ _ hL hA => ?_; dsimp only at hL hA; subst hL hA
 refine Fb 1 1 fun hl54 => ?_
 refine Fl 1 fun hn55 => ?_
 refine Fb 24 3 fun hl56 => ?_
 refine Fb 88 4 fun hl57 => ?_
 refine Fb 32 5 fun hl58 => ?_
 refine Fb 8 6 fun hl59 => ?_
 refine Fo 6 fun ho60 => ?_
 refine Fb 8 7 fun hl61 => ?_
 refine Fo 7 fun ho62 => ?_
 refine KS ?_
 refine Oq Vlss (KS ?_)
 refine Kc ?_ ?_
 · intro h63
   have g64 := of_decide_eq_true h63
   have hv0 := EValid_deps (s := s) (by simp only [h12, h17, h22, h27, h32, h37, h63, hg10, hg20, hg30])
   have hq := (unknowns_iff s set_).1 (by simp only [h12, h17, h22, h27, h32, h37, h63, hg10, hg20, hg30]) _ (getD_mem (xs := set_) (i := v33_47.toNat) (d := 0) (by omega))
   obtain ⟨r65, rfl⟩ := scc (n := r45) (by omega)
   refine KS ?_
   refine Oq (Vi sl22 6) ?_
   have hb66 := ok1 (i := v33_47.toNat) ho60 rng
   refine Oq (VldI sh3 6) (Oq Va (KS ?_))
   refine Oq (Vld sh57 0) (Oq Vm (Oq (Vi sl57 1) (Ost (SoB [1] sh4) (KS ?_))))
   refine Oq Vadd (Oq Vm (KS ?_))
   exact Kg (r65, (inside0_46.set ((set_.getD v33_47.toNat 0) : Int).toNat true), (v33_47 + 1)) [1, 0, 0, 1, 2, 3, 4, 5] ⟨(q3 hM48 (by simp only [cone_Closed_L0, h12, h17, h22, h27, h32, h37, h63, hg10, hg20, hg30, cs4])), (by omega), (by omega), (by omega), (by omega), iv1⟩
 intro h63
 have g67 := of_decide_eq_false h63
 obtain rfl : r45 = 0 := by omega
 refine Ke ?_
 have hR68 := q2 hM48 inside0_46 (by simp only [cone_Closed_L0, h12, h17, h22, h27, h32, h37, h63, hg10, hg20, hg30, cs4])
 refine KS ?_
 refine Oq Vm (Oq (Vlen sl22) (Oq Vm (KS ?_)))
 refine Jl [0] (Ent.freezeCl _ _) ?_
 refine Jl [1] (Ent.freeze _ _) ?_
 refine Kl (γ := Nat × Int) (fun (r69, v43_70) => ⟨[(2, vl leavesa0 leavesk0 leaves), (3, p8), (7, p44), (41, vl set_a0 set_k0 set_), (42, vi (set_.length : Int)), (43, vi v43_70)], [sl (vl a40 k41 (List.replicate (s.Deps.length : Int).toNat false)) inside0_46, pv p44 [vl a40 k41 (List.replicate (s.Deps.length : Int).toNat false)], pv p8 [vi s.Width, vl sa1 sk1 s.Deps, vl sa2 sk2 s.Transfers, vl sa3 sk3 s.Boundary], S sa1 sk1 s.Deps, S sa2 sk2 s.Transfers, S sa3 sk3 s.Boundary, S set_a0 set_k0 set_, S leavesa0 leavesk0 leaves], cone_Closed_L1 s set_ leaves inside0_46 r69 v43_70 = cone_Closed_L1 s set_ leaves inside0_46 (((set_.length : Int) - 0).toNat) 0 ∧ r69 = ((set_.length : Int) - v43_70).toNat ∧ (0 : Int) ≤ v43_70 ∧ v43_70 ≤ (set_.length : Int) ∧ (-9223372036854775808 ≤ v43_70 ∧ v43_70 ≤ 9223372036854775807), r69⟩) (((set_.length : Int) - 0).toNat, 0) [0, 1, 2, 3, 4, 5, 6, 7] ⟨rfl, rfl, (by omega), (by omega), (by omega)⟩ ?_
 rintro ⟨r69, v43_70⟩ ⟨hM71, hr72, hi73, hi74, hk75⟩
 refine JJ_nx fun _ _ hL hA => ?_; dsimp only at hL hA; subst hL hA
 refine Fb 1 0 fun hl76 => ?_
 refine Fl 0 fun hn77 => ?_
 refine Fb 24 3 fun hl78 => ?_
 refine Fb 88 4 fun hl79 => ?_
 refine Fb 32 5 fun hl80 => ?_
 refine Fb 8 6 fun hl81 => ?_
 refine Fo 6 fun ho82 => ?_
 refine Fb 8 7 fun hl83 => ?_
 refine Fo 7 fun ho84 => ?_
 refine KS ?_
 refine Oq Vlss (KS ?_)
 refine Kc ?_ ?_
 · intro h85
   have g86 := of_decide_eq_true h85
   have hv0 := EValid_deps (s := s) (by simp only [h12, h17, h22, h27, h32, h37, h63, h85, hg10, hg20, hg30, hR68])
   have hq := (unknowns_iff s set_).1 (by simp only [h12, h17, h22, h27, h32, h37, h63, h85, hg10, hg20, hg30, hR68]) _ (getD_mem (xs := set_) (i := v43_70.toNat) (d := 0) (by omega))
   obtain ⟨r87, rfl⟩ := scc (n := r69) (by omega)
   refine KS ?_
   refine Oq (Vi sl22 6) ?_
   have hb88 := ok1 (i := v43_70.toNat) ho82 rng
   refine Oq (VldI sh3 6) (Oq Va (KS ?_))
   refine Oq Vm (Oq Vm ?_)
   refine letv (slices_Contains_int leaves (set_.getD v43_70.toNat 0)) fun rv89 hg90 => ?_
   have hc91 := fn82 leaves leavesa0 leavesk0 ((set_.getD v43_70.toNat 0)) pre rv89 hg90
   refine Oc [7] ca82 hc91 ?_
   rintro - -
   refine Oq Vnot (Oq Vm ?_)
   refine Js 51 ?_ ?_
   · intro h92
     have h94 := not_true h92
     refine Oq (Vfa fo27_1 2) (Oq (VldF sh23 2) (Oq Vm (Oq (Vi sl23 3) ?_)))
     refine JJ_peekL ((set_.getD v43_70.toNat 0) : Int).toNat 3 rfl rng fun a96 k97 => ?_
     refine Fb 8 1 fun hl98 => ?_
     refine Fo 1 fun ho99 => ?_
     refine Oq (Vld sh22 0) (Oq (Vf [p44]) ?_)
     refine Fl 2 fun hn100 => ?_; try unfold vl; rw [← hn100]
     refine JJ_ent (Ent.pall [3, 2] rfl rfl) ?_
     refine letv (slices_ContainsFunc_int (s.Deps.getD ((set_.getD v43_70.toNat 0) : Int).toNat []) (fun x => cone_Closed_1 x inside0_46)) fun rv101 hg102 => ?_
     have hc103 := fn154 ((s.Deps.getD ((set_.getD v43_70.toNat 0) : Int).toNat [])) a96 k97 238 [p44] (fun x => cone_Closed_1 x inside0_46) [pv p44 [vl a40 k41 inside0_46], S a40 k41 inside0_46] ca238 (fun x hx hq0 => FT_pall (A1 := _) (fn238 x  p44 inside0_46 a40 k41 hq0 (by have hq5 := EValid_dep_mem (s := s) (by simp only [h12, h17, h22, h27, h32, h37, h63, h85, h92, h94, hg10, hg20, hg30, hR68, hg90]) hq.1 (by omega) x hx; omega) _ rfl)) rv101 hg102
     refine Oc [2, 0] ca154 hc103 ?_
     rintro - -
     refine Oq Vpt (KS ?_)
     refine Kc ?_ ?_
     · intro h104
       refine KS ?_
       refine Oq Va (KS ?_)
       have hR106 := q2 hM71 (.ret false) (by simp only [cone_Closed_L1, h12, h17, h22, h27, h32, h37, h63, h85, h92, h94, h104, hg10, hg20, hg30, hR68, hg90, hg102, cs4])
       have hq := q4 hrr false (by simp only [cone_Closed, h12, h17, h22, h27, h32, h37, h63, h85, h92, h94, h104, hg10, hg20, hg30, hR68, hg90, hg102, hR106, cs4]); subst hq
       exact Kr () rfl (.tmp rfl .nil) [] trivial
     intro h104
     refine KS ?_
     refine Oq Vadd (Oq Vm (KS ?_))
     exact Kg (r87, (v43_70 + 1)) [3, 4, 5, 6, 7, 8, 9, 10] ⟨(q3 hM71 (by simp only [cone_Closed_L1, h12, h17, h22, h27, h32, h37, h63, h85, h92, h94, h104, hg10, hg20, hg30, hR68, hg90, hg102, cs4])), (by omega), (by omega), (by omega), (by omega)⟩
   intro h92
   have h109 := not_false h92
   refine Osk (Osk (Osk (Osk (Osk (Osk (Osk (Oq Vpf (KS ?_))))))))
   refine Kf ?_
   refine KS ?_
   refine Oq Vadd (Oq Vm (KS ?_))
   exact Kg (r87, (v43_70 + 1)) [0, 1, 2, 3, 4, 5, 6, 7] ⟨(q3 hM71 (by simp only [cone_Closed_L1, h12, h17, h22, h27, h32, h37, h63, h85, h92, h109, hg10, hg20, hg30, hR68, hg90, cs4])), (by omega), (by omega), (by omega), (by omega)⟩
 intro h85
 have g111 := of_decide_eq_false h85
 obtain rfl : r69 = 0 := by omega
 refine Ke ?_
 have hR112 := q2 hM71 (.brk ()) (by simp only [cone_Closed_L1, h12, h17, h22, h27, h32, h37, h63, h85, hg10, hg20, hg30, hR68, cs4])
 refine KS ?_
 refine Oq Va (KS ?_)
 have hq := q4 hrr true (by simp only [cone_Closed, h12, h17, h22, h27, h32, h37, h63, h85, hg10, hg20, hg30, hR68, hR112, cs4]); subst hq
 exact Kr () rfl (.tmp rfl .nil) [] trivial
theorem fn103 (s : GSystem) (sa1 : Option Addr) (sk1 : Nat) (sa2 : Option Addr) (sk2 : Nat) (sa3 : Option Addr) (sk3 : Nat) (k : List GKnown) (ka0 : Option Addr) (kk0 : Nat) (st : GState) (sta1 : Option Addr) (stk1 : Nat) (sta2 : Option Addr) (stk2 : Nat) (sta5 : Option Addr) (stk5 : Nat) (sta6 : Option Addr) (stk6 : Nat) (hs_0 : i64ok s.Width) (hst_0 : i64ok st.Phase) (hst_3 : i64ok st.At) (hst_4 : i64ok st.Edge) (hst_7 : i64ok st.Steps) (hv : VSys s) (hlf : st.Leaf.length = st.Cone.length) (hcl : st.Cone.length ≤ 256) (hcr : ∀ x ∈ st.Cone, 0 ≤ x ∧ x < (s.Deps.length : Int)) (rr : Bool) (hrr : solver_solving s k st = rr) : FT Tryz.prog 103 #[.agg #[vi s.Width, vl sa1 sk1 s.Deps, vl sa2 sk2 s.Transfers, vl sa3 sk3 s.Boundary], vl ka0 kk0 k, .agg #[vi st.Phase, vl sta1 stk1 st.Cone, vl sta2 stk2 st.Leaf, vi st.At, vi st.Edge, vl sta5 stk5 st.Values, vl sta6 stk6 st.Queue, vi st.Steps]] [S sa1 sk1 s.Deps, S sa2 sk2 s.Transfers, S sa3 sk3 s.Boundary, S ka0 kk0 k, S sta1 stk1 st.Cone, S sta2 stk2 st.Leaf, S sta5 stk5 st.Values, S sta6 stk6 st.Queue] (fun g : Unit => True) (fun g => vb rr) (fun g => []) := by
 refine FTi Tryz.func103 fun w0 M0 F0 => ?_
 unfold i64ok at hs_0 hst_0 hst_3 hst_4 hst_7
 refine Fb 24 0 fun hl1 => ?_
 refine Fb 88 1 fun hl2 => ?_
 refine Fb 32 2 fun hl3 => ?_
 refine Fb 40 3 fun hl4 => ?_
 refine Fb 8 4 fun hl5 => ?_
 refine Fo 4 fun ho6 => ?_
 refine Fb 1 5 fun hl7 => ?_
 refine Fb 32 6 fun hl8 => ?_
 refine Fb 8 7 fun hl9 => ?_
 refine Fo 7 fun ho10 => ?_
 have hv1 := hv.n
 have hv2 := hv.tl
 have hv3 := hv.bl
 have hv4 := hv.w
 have hv5 := hv.dep_len
 refine KS ?_
 refine Oa (Ab [vi s.Width, vl sa1 sk1 s.Deps, vl sa2 sk2 s.Transfers, vl sa3 sk3 s.Boundary]) fun p11 => Oa (Ab [vi st.Phase, vl sta1 stk1 st.Cone, vl sta2 stk2 st.Leaf, vi st.At, vi st.Edge, vl sta5 stk5 st.Values, vl sta6 stk6 st.Queue, vi st.Steps]) fun p12 => Oq Va (KS ?_)
 refine Oq (Vfa fo59_3 0) (Oq (VldF sh3 0) (Oq Vneq (Oq Vm ?_)))
 refine Js 13 ?_ ?_
 · intro h13
   have g14 := ne_of_bne h13
   refine Osk (Osk (Osk (Oq Vpt (Oq Vm (Osk (Osk (Osk (Osk (Osk ?_)))))))))
   refine Osk (Osk (Oq Vpt (Oq Vm (Osk (Osk (Osk (Osk (Osk (Osk ?_)))))))))
   refine Osk (Oq Vpt (Oq Vm (Osk (Osk (Osk (Osk (Osk (Osk (Osk ?_)))))))))
   refine Osk (Oq Vpt (KS ?_))
   refine Kt ?_
   refine KS ?_
   refine Oq Va (KS ?_)
   have hq := q4 hrr false (by simp only [solver_solving, h13, cs4]); subst hq
   exact Kr () rfl (.tmp rfl .nil) [] trivial
 intro h13
 have g15 := eq_of_bne_false h13
 refine Oq (Vfa fo59_4 0) (Oq (VldF sh3 0) (Oq Vneq (Oq Vpf (Oq Vm ?_))))
 refine Js 18 ?_ ?_
 · intro h16
   have g17 := ne_of_bne h16
   refine Osk (Osk (Osk (Osk (Osk (Osk (Osk (Oq Vpt (Oq Vm (Osk ?_)))))))))
   refine Osk (Osk (Osk (Osk (Osk (Osk (Oq Vpt (Oq Vm (Osk (Osk ?_)))))))))
   refine Osk (Osk (Osk (Osk (Osk (Osk (Oq Vpt (KS ?_)))))))
   refine Kt ?_
   refine KS ?_
   refine Oq Va (KS ?_)
   have hq := q4 hrr false (by simp only [solver_solving, h13, h16, cs4]); subst hq
   exact Kr () rfl (.tmp rfl .nil) [] trivial
 intro h16
 have g18 := eq_of_bne_false h16
 refine Oq (Vfa fo59_5 0) (Oq (VldF sh25 0) (Oq (Vlen sl25) (Oq (Vfa fo59_1 0) (Oq (VldF sh22 0) (Oq (Vlen sl22) (Oq Vneq (Oq Vpf (Oq Vm ?_))))))))
 refine Js 27 ?_ ?_
 · intro h19
   have g20 := ne_of_bne h19
   refine Osk (Osk (Osk (Osk (Osk (Osk (Osk (Oq Vpt (Oq Vm (Osk ?_)))))))))
   refine Osk (Osk (Osk (Osk (Osk (Osk (Osk (Oq Vpt (KS ?_))))))))
   refine Kt ?_
   refine KS ?_
   refine Oq Va (KS ?_)
   have hq := q4 hrr false (by simp only [solver_solving, h13, h16, h19, cs4]); subst hq
   exact Kr () rfl (.tmp rfl .nil) [] trivial
 intro h19
 have g21 := eq_of_bne_false h19
 refine Oq (Vfa fo59_6 0) (Oq (VldF sh22 0) (Oq (Vfa fo59_1 0) (Oq (VldF sh22 0) (Oq (Vlen sl22) ?_))))
 refine letv (solver_distinct st.Queue (st.Cone.length : Int)) fun rv22 hg23 => ?_
 have hc24 := fn101 st.Queue sta6 stk6 ((st.Cone.length : Int)) pre pre rv22 hg23
 refine Oc [9] ca101 hc24 ?_
 rintro - -
 refine Oq Vnot (Oq Vpf (Oq Vm ?_))
 refine Js 36 ?_ ?_
 · intro h25
   have h27 := not_true h25
   refine Osk (Osk (Osk (Osk (Osk (Osk (Osk (Osk (Oq Vpt (KS ?_)))))))))
   refine Kt ?_
   refine KS ?_
   refine Oq Va (KS ?_)
   have hq := q4 hrr false (by simp only [solver_solving, h13, h16, h19, h25, h27, hg23, cs4]); subst hq
   exact Kr () rfl (.tmp rfl .nil) [] trivial
 intro h25
 have h30 := not_false h25
 refine Oq (Vfa fo59_6 0) (Oq (VldF sh22 0) (Oq (Vlen sl22) (Oq Veql (Oq (Vfa fo59_0 0) (Oq (VldF sh3 0) (Oq Veql (Oq (Vnb un4) (Oq Vpf (KS ?_)))))))))
 refine Kc ?_ ?_
 · intro h32
   refine KS ?_
   refine Oq Va (KS ?_)
   have hq := q4 hrr false (by simp only [solver_solving, h13, h16, h19, h25, h30, h32, hg23, cs4]); subst hq
   exact Kr () rfl (.tmp rfl .nil) [] trivial
 intro h32
 refine KS ?_
 refine Oq Va (KS ?_)
 refine Oq (Vfa fo59_1 0) (Oq (VldF sh22 0) (Oq (Vlen sl22) (Oq Vm (KS ?_))))
 refine Jl [] (Ent.osNil (α := Int)) ?_
 refine Kl (γ := Nat × List Int × Int × Option Addr × Nat) (fun (r35, leaves_36, v49_37, a38, k39) => ⟨[(1, vl ka0 kk0 k), (3, p11), (5, p12), (7, vl a38 k39 leaves_36), (47, vl sta1 stk1 st.Cone), (48, vi (st.Cone.length : Int)), (49, vi v49_37)], [O a38 k39 leaves_36, pv p12 [vi st.Phase, vl sta1 stk1 st.Cone, vl sta2 stk2 st.Leaf, vi st.At, vi st.Edge, vl sta5 stk5 st.Values, vl sta6 stk6 st.Queue, vi st.Steps], pv p11 [vi s.Width, vl sa1 sk1 s.Deps, vl sa2 sk2 s.Transfers, vl sa3 sk3 s.Boundary], S sa1 sk1 s.Deps, S sa2 sk2 s.Transfers, S sa3 sk3 s.Boundary, S ka0 kk0 k, S sta1 stk1 st.Cone, S sta2 stk2 st.Leaf, S sta5 stk5 st.Values, S sta6 stk6 st.Queue], solver_solving_L0 s k st r35 leaves_36 v49_37 = solver_solving_L0 s k st (((st.Cone.length : Int) - 0).toNat) [] 0 ∧ r35 = ((st.Cone.length : Int) - v49_37).toNat ∧ (0 : Int) ≤ v49_37 ∧ v49_37 ≤ (st.Cone.length : Int) ∧ (-9223372036854775808 ≤ v49_37 ∧ v49_37 ≤ 9223372036854775807) ∧ (leaves_36.length : Int) ≤ v49_37, r35⟩) (((st.Cone.length : Int) - 0).toNat, [], 0, none, 0) [0, 0, 1, 2, 3, 4, 5, 6, 7, 8, 9] ⟨rfl, rfl, (by omega), (by omega), (by omega), iv0⟩ ?_
 rintro ⟨r35, leaves_36, v49_37, a38, k39⟩ ⟨hM40, hr41, hi42, hi43, hk44, hv45⟩
 refine JJ_nx fun _ _ hL hA => ?_; dsimp only at hL hA; subst hL hA
 refine Fb 8 0 fun hl46 => ?_
 refine Fo 0 fun ho47 => ?_
 refine Fb 24 3 fun hl48 => ?_
 refine Fb 88 4 fun hl49 => ?_
 refine Fb 32 5 fun hl50 => ?_
 refine Fb 40 6 fun hl51 => ?_
 refine Fb 8 7 fun hl52 => ?_
 refine Fo 7 fun ho53 => ?_
 refine Fb 1 8 fun hl54 => ?_
 refine Fb 32 9 fun hl55 => ?_
 refine Fb 8 10 fun hl56 => ?_
 refine Fo 10 fun ho57 => ?_
 refine KS ?_
 refine Oq Vlss (KS ?_)
 refine Kc ?_ ?_
 · intro h58
   have g59 := of_decide_eq_true h58
   have hq := hcr _ (getD_mem (xs := st.Cone) (i := v49_37.toNat) (d := 0) (by omega))
   obtain ⟨r60, rfl⟩ := scc (n := r35) (by omega)
   refine KS ?_
   refine Oq Vm (Oq (Vi sl22 7) ?_)
   have hb61 := ok1 (i := v49_37.toNat) ho53 rng
   refine Oq (VldI sh3 7) (Oq Va (Oq Va (KS ?_)))
   refine letv (solver_find k (st.Cone.getD v49_37.toNat 0)) fun rv62 hg63 => ?_
   refine bool_split (!((st.Leaf.getD v49_37.toNat false) == (decide (0 ≤ rv62)))) ?_ ?_
   · intro h64
     refine JK_drawK [0, 1, 0, 7, 15, 0, 0, 96, 224, 511, 1023, 2047, 4095, 2047, 16383, 32767, 65535, 131071, 262143, 524287, 1048575, 2097151, 1048575, 8388607, 16777215, 33554431, 1048575, 68157439, 268435455, 536870911] fmix ?_
     refine Dv [1] (Vfa fo59_2 0) (Dv [1] (VldF sh57 0) (Dv [] Vm (Dv [8] (Vi sl57 0) (Dv [8] (VldB sh4 0) (Dv [] Vm (Dv [] Vm (Dx [6] [] [1, 0] (fun G => vi rv62) [fun G => SP.fact (i64ok rv62 ∧ (-1 ≤ rv62 ∧ rv62 < (k.length : Int)))] (fun G => xC [0] ca177 (fn177 k ka0 kk0 ((st.Cone.getD v49_37.toNat 0)) pre rv62 hg63)) (Dv [] Vgeq (Db h64 [] (Vnb un4) ?_)))))))))
     refine Dv [] Vm (Ds (Ds (Ds (Ds (Ds (Ds (Ds (Dv [] Vpt (Dv [] Vm ?_)))))))))
     refine Ds (Ds (Ds (Ds (Ds (Ds (Ds (Ds (Ds (Dv [] Vpt ?_)))))))))
     refine Dn ⟨by kernel_rfl, fun G => ?_⟩
     refine Jw2 [(1, vl ka0 kk0 k), (3, p11), (5, p12), (7, vl a38 k39 leaves_36), (47, vl sta1 stk1 st.Cone), (48, vi (st.Cone.length : Int)), (49, vi v49_37), (8, vi v49_37), (9, vi (st.Cone.getD v49_37.toNat 0)), (83, vb true)] [0, 1, 2, 3, 4, 5, 6, 7, 8, 9, 10] [SP.fact (i64ok rv62 ∧ (-1 ≤ rv62 ∧ rv62 < (k.length : Int)))] ?_
     refine Jf 11 rfl ?_; rintro ⟨he66, he67⟩
     unfold i64ok at he66
     refine Jk [0, 0, 1, 2, 3, 4, 5, 6, 7, 8, 9] ?_
     refine Kt ?_
     refine KS ?_
     refine Oq Va (KS ?_)
     have hR68 := q2 hM40 (.ret false) (by simp only [solver_solving_L0, h13, h16, h19, h25, h30, h32, h58, h64, hg23, hg63, cs4])
     have hq := q4 hrr false (by simp only [solver_solving, h13, h16, h19, h25, h30, h32, h58, h64, hg23, hg63, hR68, cs4]); subst hq
     exact Kr () rfl (.tmp rfl .nil) [] trivial
   intro h64
   refine JJ_peek_GSet v49_37.toNat 9 rfl rng fun a70 k71 hb72 => ?_
   unfold i64ok at hb72
   refine Fb 8 1 fun hl73 => ?_
   refine JK_drawK [0, 1, 0, 7, 15, 0, 0, 96, 224, 511, 1023, 2047, 4095, 2047, 16383, 32767, 65535, 131071, 262143, 524287, 1048575, 2097151, 1048575, 8388607, 16777215, 33554431, 1048575, 68157439, 268435455, 536870911] fmix ?_
   refine Dv [3] (Vfa fo59_2 0) (Dv [3] (VldF sh57 0) (Dv [] Vm (Dv [10] (Vi sl57 0) (Dv [10] (VldB sh4 0) (Dv [] Vm (Dv [] Vm (Dx [8] [] [1, 0] (fun G => vi rv62) [fun G => SP.fact (i64ok rv62 ∧ (-1 ≤ rv62 ∧ rv62 < (k.length : Int)))] (fun G => xC [0] ca177 (fn177 k ka0 kk0 ((st.Cone.getD v49_37.toNat 0)) pre rv62 hg63)) (Dv [] Vgeq (Db h64 [] (Vnb un4) ?_)))))))))
   refine Dv [] Vm (Dv [3] (Vfa fo59_5 0) (Dv [3] (VldF sh25 0) (Dv [] Vm ?_)))
   refine Dx [11, 13] [] [0, 1] (fun G => (eptr 2 (vl sta5 stk5 st.Values) v49_37.toNat)) [] (fun G => by refine xf 1 rfl ?_; rintro ⟨he74, he75⟩; unfold i64ok at he74; exact xV (Vi sl25 0)) (Dv [0] (VldA sh42 0) ?_)
   refine letv (bitset_Valid (st.Values.getD v49_37.toNat default)) fun rv76 hg77 => ?_
   refine Dx [1, 13] [] [1, 2, 0] (fun G => vb rv76) [fun G => SP.fact (True)] (fun G => by refine xf 1 rfl ?_; rintro ⟨he78, he79⟩; unfold i64ok at he78; exact xC [0] ca123 (fn123 ((st.Values.getD v49_37.toNat default)) a70 k71 pre rv76 hg77)) (Dv [] Vnot (Dv [] Vpf ?_))
   refine bool_split (!rv76) ?_ ?_
   · intro h80
     have h82 := not_true h80
     refine Db h80 [] Vm (Ds (Ds (Ds (Ds (Ds (Ds (Ds (Ds (Ds ?_)))))))))
     refine Dv [] Vpt ?_
     refine Dn ⟨by kernel_rfl, fun G => ?_⟩
     refine Jw2 [(1, vl ka0 kk0 k), (3, p11), (5, p12), (7, vl a38 k39 leaves_36), (47, vl sta1 stk1 st.Cone), (48, vi (st.Cone.length : Int)), (49, vi v49_37), (8, vi v49_37), (9, vi (st.Cone.getD v49_37.toNat 0)), (83, vb true)] [0, 1, 2, 3, 4, 5, 6, 7, 8, 9, 10, 11, 12] [SP.fact (i64ok rv62 ∧ (-1 ≤ rv62 ∧ rv62 < (k.length : Int))), SP.fact (True)] ?_
     refine Jf 13 rfl ?_; rintro ⟨he84, he85⟩
     unfold i64ok at he84
     refine Jk [0, 1, 2, 2, 3, 4, 5, 6, 7, 8, 9, 10, 11] ?_
     refine Kt ?_
     refine KS ?_
     refine Oq Va (KS ?_)
     have hR86 := q2 hM40 (.ret false) (by simp only [solver_solving_L0, h13, h16, h19, h25, h30, h32, h58, h64, h80, h82, hg23, hg63, hg77, cs4])
     have hq := q4 hrr false (by simp only [solver_solving, h13, h16, h19, h25, h30, h32, h58, h64, h80, h82, hg23, hg63, hg77, hR86, cs4]); subst hq
     exact Kr () rfl (.tmp rfl .nil) [] trivial
   intro h80
   have h88 := not_false h80
   refine Db h80 [] Vm (Dv [3] (Vfa fo59_5 0) (Dv [3] (VldF sh25 0) (Dv [] Vm ?_)))
   refine Dx [11, 13] [] [0, 1] (fun G => (eptr 2 (vl sta5 stk5 st.Values) v49_37.toNat)) [] (fun G => by refine xf 1 rfl ?_; rintro ⟨he90, he91⟩; unfold i64ok at he90; exact xV (Vi sl25 0)) (Dv [0] (Vfa fo42_0 0) (Dv [0] (VldF sh3 0) (Dv [4] (Vfa fo27_0 0) (Dv [4] (VldF sh3 0) (Dv [] Vneq (Dv [] Vpf ?_))))))
   refine Dn ⟨by kernel_rfl, fun G => ?_⟩
   refine Jw2 [(1, vl ka0 kk0 k), (3, p11), (5, p12), (7, vl a38 k39 leaves_36), (47, vl sta1 stk1 st.Cone), (48, vi (st.Cone.length : Int)), (49, vi v49_37), (8, vi v49_37), (9, vi (st.Cone.getD v49_37.toNat 0)), (83, vb ((st.Values.getD v49_37.toNat default).Width != s.Width))] [0, 1, 2, 3, 4, 5, 6, 7, 8, 9, 10, 11, 12] [SP.fact (i64ok rv62 ∧ (-1 ≤ rv62 ∧ rv62 < (k.length : Int))), SP.fact (True)] ?_
   refine Jf 13 rfl ?_; rintro ⟨he92, he93⟩
   unfold i64ok at he92
   refine Jk [0, 1, 2, 2, 3, 4, 5, 6, 7, 8, 9, 10, 11] ?_
   refine Kc ?_ ?_
   · intro h94
     have g95 := ne_of_bne h94
     refine KS ?_
     refine Oq Va (KS ?_)
     have hR96 := q2 hM40 (.ret false) (by simp only [solver_solving_L0, h13, h16, h19, h25, h30, h32, h58, h64, h80, h88, h94, hg23, hg63, hg77, cs4])
     have hq := q4 hrr false (by simp only [solver_solving, h13, h16, h19, h25, h30, h32, h58, h64, h80, h88, h94, hg23, hg63, hg77, hR96, cs4]); subst hq
     exact Kr () rfl (.tmp rfl .nil) [] trivial
   intro h94
   have g97 := eq_of_bne_false h94
   refine KS ?_
   refine Oq (Vfa fo59_2 3) (Oq (VldF sh57 3) (Oq Vm (Oq (Vi sl57 10) (Oq (VldB sh4 10) (KS ?_)))))
   refine Kc ?_ ?_
   · intro h98
     have h100 := h64; rw [h98] at h100
     refine KS ?_
     refine Oq Vm (Oq Vm (Oa (AsV sl22 sz22 [vi (st.Cone.getD v49_37.toNat 0)] [vi (st.Cone.getD v49_37.toNat 0)]) fun c101 => ?_))
     refine Jo 0 ?_; rintro a102 k103 rfl
     refine Jl [0] (Ent.crInt _ [(st.Cone.getD v49_37.toNat 0)] _ _ rfl rfl (by intro x hx; rw [List.mem_singleton] at hx; subst hx; unfold i64ok; omega) (Nat.le_of_ble_eq_true rfl)) ?_
     refine Oa (ApO [3, 0] sl22 sl22 sz22) fun c104 => ?_
     refine Jo 0 ?_; rintro a105 k106 rfl
     refine Fb 8 0 fun hl107 => ?_
     refine Fo 0 fun ho108 => ?_
     have hn109 := la leaves_36 ([(st.Cone.getD v49_37.toNat 0)] : List Int)
     refine Oq Va (KS ?_)
     refine Oq Vadd (Oq Vm (KS ?_))
     exact Kg (r60, (leaves_36 ++ [(st.Cone.getD v49_37.toNat 0)]), (v49_37 + 1), a105, k106) [0, 2, 3, 4, 5, 6, 7, 8, 9, 10, 11] ⟨(q3 hM40 (by simp only [solver_solving_L0, h13, h16, h19, h25, h30, h32, h58, h64, h80, h88, h94, h98, hg23, hg63, hg77, h100, cs4])), (by omega), (by omega), (by omega), (by omega), iv1⟩
   intro h98
   have h111 := h64; rw [h98] at h111
   refine KS ?_
   refine Oq Vadd (Oq Vm (KS ?_))
   exact Kg (r60, leaves_36, (v49_37 + 1), a38, k39) [2, 2, 3, 4, 5, 6, 7, 8, 9, 10, 11] ⟨(q3 hM40 (by simp only [solver_solving_L0, h13, h16, h19, h25, h30, h32, h58, h64, h80, h88, h94, h98, hg23, hg63, hg77, h111, cs4])), (by omega), (by omega), (by omega), (by omega), iv1⟩
 intro h58
 have g112 := of_decide_eq_false h58
 obtain rfl : r35 = 0 := by omega
 refine Ke ?_
 have hR113 := q2 hM40 (.brk leaves_36) (by simp only [solver_solving_L0, h13, h16, h19, h25, h30, h32, h58, hg23, cs4])
 refine KS ?_
 refine Oq (VldA sh27 2) (Oq (Vfa fo59_1 1) (Oq (VldF sh22 1) (Oq Vm ?_)))
 refine letv (cone_Closed s st.Cone leaves_36) fun rv114 hg115 => ?_
 refine Oc [0, 2, 3, 4, 6] ca183 (FT_borrow (A := _) (fun _ _ h => by cases h) (FT_ent (Ent.take (is := [1, 2, 3, 4, 0]) rfl) (fn183 s sa1 sk1 sa2 sk2 sa3 sk3 st.Cone sta1 stk1 leaves_36 a38 k39 pre rv114 hg115))) ?_ (ht := rfl)
 rintro - -
 refine Oq Va (KS ?_)
 have hq := q4 hrr rv114 (by simp only [solver_solving, h13, h16, h19, h25, h30, h32, h58, hg23, hR113, hg115, cs4]); subst hq
 exact Kr () rfl (.tmp rfl .nil) [] trivial
end Go.SL.G
