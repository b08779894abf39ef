/- Part 3 of the walks: mirrors, plain laws and walks used by the last text of this claim. -/
import Derived.Test.YtcgllifpcalcpaaGreatDoorW2
import Derived.Test.YtcgllifpcalcpaaGreatDoorProg
set_option linter.unusedVariables false
set_option linter.unusedSimpArgs false
namespace Go.SL.G
open Go Go.SL Go.Proofs
set_option maxHeartbeats 20000000
set_option maxRecDepth 100000
theorem fn72 (l : List Int) (la0 : Option Addr) (lk0 : Nat) (n : Int) (hn_0 : i64ok n) (rr : Bool) (hrr : gh_ascending l n = rr) : FT Tryz.prog 72 #[vl la0 lk0 l, vi n] [S la0 lk0 l] (fun g : Unit => True) (fun g => vb rr) (fun g => []) := by
 refine FTi Tryz.func72 fun w0 M0 F0 => ?_
 unfold i64ok at hn_0
 refine Fb 8 0 fun _ => Fo 0 fun ho2 => KS ?_
 refine Oq Va (KS ?_)
 refine Oq Vm (Oq (Vlen sl22) (Oq Vm (KS ?_)))
 refine Kl (γ := Nat × Int) (fun (r3, v9_4) => ⟨[(0, vl la0 lk0 l), (1, vi n), (7, vl la0 lk0 l), (8, vi (l.length : Int)), (9, vi v9_4)], [S la0 lk0 l], gh_ascending_L0 l n r3 v9_4 = gh_ascending_L0 l n (((l.length : Int) - 0).toNat) 0 ∧ r3 = ((l.length : Int) - v9_4).toNat ∧ (0 : Int) ≤ v9_4 ∧ v9_4 ≤ (l.length : Int) ∧ (-9223372036854775808 ≤ v9_4 ∧ v9_4 ≤ 9223372036854775807), r3⟩) (((l.length : Int) - 0).toNat, 0) [0] ⟨rfl, rfl, aM1, aM1, aM1⟩ ?_
 rintro ⟨r3, v9_4⟩ ⟨hM5, hr6, hi7, hi8, hk9⟩
 refine JJ_nx fun _ _ hL hA => ?_; dsimp only at hL hA; subst hL hA
 refine Fb 8 0 fun _ => Fo 0 fun ho11 => KS ?_
 refine Oq Vlss (KS ?_)
 refine Kc ?_ ?_
 ·intro h12
  have g13 := dt h12
  obtain ⟨r14, rfl⟩ := scc (n := r3) aM1
  refine KS ?_
  refine Oq Vm (Oq (Vi sl22 0) ?_)
  have hb15 := ok1 (i := v9_4.toNat) ho11 rng
  refine Oq (VldI sh3 0) (Oq Va (Oq Va (KS ?_)))
  refine Oq Vm (Oq Vlss (Oq Vm ?_))
  refine Js 16 ?_ ?_
  ·intro h16
   have g17 := dt h16
   refine Osk (Osk (Osk (Oq Vpt (Oq Vm (Osk (Osk (Osk (Osk (Osk ?_)))))))))
   refine Osk (Osk (Osk (Osk (Osk (Osk (Oq Vpt (KS ?_)))))))
   refine Kt (KS ?_)
   refine Oq Va (KS ?_)
   have hR18 := q2 hM5 (.ret false) (by simp only [gh_ascending_L0, h12, h16, cs4])
   have hq := q4 hrr false (by simp only [gh_ascending, h12, h16, hR18, cs4]); subst hq
   exact Kr () rfl (.tmp rfl .nil) [] trivial
  intro h16
  have g19 := df h16
  refine Oq Vm (Oq Vm (Oq Vgeq (Oq Vpf (Oq Vm ?_))))
  refine Js 21 ?_ ?_
  ·intro h20
   have g21 := dt h20
   refine Osk (Osk (Osk (Osk (Osk (Osk (Osk (Osk (Osk (Osk ?_)))))))))
   refine Osk (Oq Vpt (KS ?_))
   refine Kt (KS ?_)
   refine Oq Va (KS ?_)
   have hR22 := q2 hM5 (.ret false) (by simp only [gh_ascending_L0, h12, h16, h20, cs4])
   have hq := q4 hrr false (by simp only [gh_ascending, h12, h16, h20, hR22, cs4]); subst hq
   exact Kr () rfl (.tmp rfl .nil) [] trivial
  intro h20
  have g23 := df h20
  refine Oq Vm (Oq Vgtr (Oq Vm ?_))
  refine Js 24 ?_ ?_
  ·intro h24
   have g25 := dt h24
   refine Oq Vm (Oq Vm (Oq Vm (Oq Vsub (Oq (Vi sl22 0) ?_))))
   have hb26 := ok1 (i := ((v9_4 - 1) : Int).toNat) ho11 rng
   refine Oq (VldI sh3 0) (Oq Vleq (Oq Vpt (Oq Vpf (KS ?_))))
   refine Kc ?_ ?_
   ·intro h27
    have g28 := dt h27
    refine KS ?_
    refine Oq Va (KS ?_)
    have hR29 := q2 hM5 (.ret false) (by simp only [gh_ascending_L0, h12, h16, h20, h24, h27, cs4])
    have hq := q4 hrr false (by simp only [gh_ascending, h12, h16, h20, h24, h27, hR29, cs4]); subst hq
    exact Kr () rfl (.tmp rfl .nil) [] trivial
   intro h27
   have g30 := df h27
   refine KS ?_
   refine Oq Vadd (Oq Vm (KS ?_))
   exact Kg (r14, (v9_4 + 1)) [0] ⟨(q3 hM5 (by simp only [gh_ascending_L0, h12, h16, h20, h24, h27, cs4])), aM1, aM1, aM1, aM1⟩
  intro h24
  have g31 := df h24
  refine Osk (Osk (Osk (Osk (Osk (Osk (Osk (Oq Vpf (Oq Vpf (KS ?_)))))))))
  refine Kf (KS ?_)
  refine Oq Vadd (Oq Vm (KS ?_))
  exact Kg (r14, (v9_4 + 1)) [0] ⟨(q3 hM5 (by simp only [gh_ascending_L0, h12, h16, h20, h24, cs4])), aM1, aM1, aM1, aM1⟩
 intro h12
 have g32 := df h12
 obtain rfl : r3 = 0 := by omega
 refine Ke ?_
 have hR33 := q2 hM5 (.brk ()) (by simp only [gh_ascending_L0, h12, cs4])
 refine KS ?_
 refine Oq Va (KS ?_)
 have hq := q4 hrr true (by simp only [gh_ascending, h12, hR33, cs4]); subst hq
 exact Kr () rfl (.tmp rfl .nil) [] trivial
theorem fn57 (l : List (List Int)) (la0 : Option Addr) (lk0 : Nat) (rr : Int) (hrr : gh_count l = rr) : FT Tryz.prog 57 #[vl la0 lk0 l] [S la0 lk0 l] (fun g : Unit => i64ok rr ∧ (-1 ≤ rr ∧ rr ≤ 1024)) (fun g => vi rr) (fun g => []) := by
 refine FTi Tryz.func57 fun w0 M0 F0 => Fb 24 0 fun _ => ?_
 refine KS ?_
 refine Oq Va (KS ?_)
 refine Oq Va (KS ?_)
 refine Oq Vm (Oq (Vlen sl24) (Oq Vm (KS ?_)))
 refine Kl (γ := Nat × Int × Int) (fun (r2, edges_3, v8_4) => ⟨[(0, vl la0 lk0 l), (3, vi edges_3), (6, vl la0 lk0 l), (7, vi (l.length : Int)), (8, vi v8_4)], [S la0 lk0 l], gh_count_L0 l r2 edges_3 v8_4 = gh_count_L0 l (((l.length : Int) - 0).toNat) 0 0 ∧ r2 = ((l.length : Int) - v8_4).toNat ∧ (0 : Int) ≤ v8_4 ∧ v8_4 ≤ (l.length : Int) ∧ (-9223372036854775808 ≤ edges_3 ∧ edges_3 ≤ 9223372036854775807) ∧ (-9223372036854775808 ≤ v8_4 ∧ v8_4 ≤ 9223372036854775807) ∧ (0 ≤ edges_3 ∧ edges_3 ≤ 1024), r2⟩) (((l.length : Int) - 0).toNat, 0, 0) [0] ⟨rfl, rfl, aM1, aM1, aM1, aM1, iv0⟩ ?_
 rintro ⟨r2, edges_3, v8_4⟩ ⟨hM5, hr6, hi7, hi8, hk9, hk10, hv11⟩
 refine JJ_nx fun _ _ hL hA => ?_; dsimp only at hL hA; subst hL hA
 refine Fb 24 0 fun _ => KS ?_
 refine Oq Vlss (KS ?_)
 refine Kc ?_ ?_
 ·intro h13
  have g14 := dt h13
  obtain ⟨r15, rfl⟩ := scc (n := r2) aM1
  refine KS ?_
  refine Oq (Vi sl24 0) ?_
  refine JJ_peekL v8_4.toNat 0 rfl rng fun a16 k17 => ?_
  refine Fb 8 1 fun _ => Fo 1 fun ho19 => ?_
  refine Oq (Vld sh22 0) (Oq Va (KS ?_))
  refine Oq Vm (Oq Vm (Oq (Vlen sl22) (Oq Vadd (Oq Va (KS ?_)))))
  refine Oq Vm (Oq Vgtr (Oq Vm ?_))
  refine Js 18 ?_ ?_
  ·intro h20
   have g21 := dt h20
   refine Osk (Osk (Osk (Osk (Osk (Oq Vpt (KS ?_))))))
   refine Kt (KS ?_)
   refine Oq Va (KS ?_)
   have hR22 := q2 hM5 (.ret (-1)) (by simp only [gh_count_L0, h13, h20, cs4])
   have hq := q4 hrr (-1) (by simp only [gh_count, h13, h20, hR22, cs4]); subst hq
   exact Kr () rfl (.tmp rfl .nil) [] en
  intro h20
  have g23 := df h20
  refine Oq Vm (Oq Vm (Oq (Vlen sl24) ?_))
  refine letv (gh_ascending (l.getD v8_4.toNat []) (l.length : Int)) fun rv24 hg25 => ?_
  have hc26 := fn72 ((l.getD v8_4.toNat [])) a16 k17 ((l.length : Int)) pre rv24 hg25
  refine Oc [1] ca72 hc26 ?_
  rintro - -
  refine Oq Vnot (Oq Vpf (KS ?_))
  refine Kc ?_ ?_
  ·intro h27
   have h29 := not_true h27
   refine KS ?_
   refine Oq Va (KS ?_)
   have hR31 := q2 hM5 (.ret (-1)) (by simp only [gh_count_L0, h13, h20, h27, h29, hg25, cs4])
   have hq := q4 hrr (-1) (by simp only [gh_count, h13, h20, h27, h29, hg25, hR31, cs4]); subst hq
   exact Kr () rfl (.tmp rfl .nil) [] en
  intro h27
  have h33 := not_false h27
  refine KS ?_
  refine Oq Vadd (Oq Vm (KS ?_))
  exact Kg (r15, (edges_3 + ((l.getD v8_4.toNat []).length : Int)), (v8_4 + 1)) [2] ⟨(q3 hM5 (by simp only [gh_count_L0, h13, h20, h27, h33, hg25, cs4])), aM1, aM1, aM1, aM1, aM1, iv1⟩
 intro h13
 have g35 := df h13
 obtain rfl : r2 = 0 := by omega
 refine Ke ?_
 have hR36 := q2 hM5 (.brk edges_3) (by simp only [gh_count_L0, h13, cs4])
 refine KS ?_
 refine Oq Vm (Oq Va (KS ?_))
 have hq := q4 hrr edges_3 (by simp only [gh_count, h13, hR36, cs4]); subst hq
 exact Kr () rfl (.tmp rfl .nil) [] en
theorem fn73 (s : List Int) (sa0 : Option Addr) (sk0 : Nat) (v : Int) (hv_0 : i64ok v) (rr : Int) (hrr : sc_Index_int s v = rr) : FT Tryz.prog 73 #[vl sa0 sk0 s, vi v] [S sa0 sk0 s] (fun g : Unit => i64ok rr) (fun g => vi rr) (fun g => []) := by
 refine FTi Tryz.func73 fun w0 M0 F0 => ?_
 unfold i64ok at hv_0
 refine Fb 8 0 fun _ => Fo 0 fun ho2 => KS ?_
 refine Oq Va (KS ?_)
 refine Oq Vm (Oq (Vlen sl22) (Oq Vm (KS ?_)))
 refine Kl (γ := Nat × Int) (fun (r3, v8_4) => ⟨[(0, vl sa0 sk0 s), (1, vi v), (7, vi (s.length : Int)), (8, vi v8_4)], [S sa0 sk0 s], sc_Index_int_L0 s v r3 v8_4 = sc_Index_int_L0 s v (((s.length : Int) - 0).toNat) 0 ∧ r3 = ((s.length : Int) - v8_4).toNat ∧ (0 : Int) ≤ v8_4 ∧ v8_4 ≤ (s.length : Int) ∧ (-9223372036854775808 ≤ v8_4 ∧ v8_4 ≤ 9223372036854775807), r3⟩) (((s.length : Int) - 0).toNat, 0) [0] ⟨rfl, rfl, aM1, aM1, aM1⟩ ?_
 rintro ⟨r3, v8_4⟩ ⟨hM5, hr6, hi7, hi8, hk9⟩
 refine JJ_nx fun _ _ hL hA => ?_; dsimp only at hL hA; subst hL hA
 refine Fb 8 0 fun _ => Fo 0 fun ho11 => KS ?_
 refine Oq Vlss (KS ?_)
 refine Kc ?_ ?_
 ·intro h12
  have g13 := dt h12
  obtain ⟨r14, rfl⟩ := scc (n := r3) aM1
  refine KS ?_
  refine Oq Vm (Oq Va (KS ?_))
  refine Oq Vm (Oq Vm (Oq Vm (Oq (Vi sl22 0) ?_)))
  have hb15 := ok1 (i := v8_4.toNat) ho11 rng
  refine Oq (VldI sh3 0) (Oq Veql (KS ?_))
  refine Kc ?_ ?_
  ·intro h16
   have g17 := eq_of_beq h16
   refine KS ?_
   refine Oq Vm (Oq Va (KS ?_))
   have hR18 := q2 hM5 (.ret v8_4) (by simp only [sc_Index_int_L0, h12, h16, cs4])
   have hq := q4 hrr v8_4 (by simp only [sc_Index_int, h12, h16, hR18, cs4]); subst hq
   exact Kr () rfl (.tmp rfl .nil) [] en
  intro h16
  have g19 := ne_of_beq_false h16
  refine KS ?_
  refine Oq Vadd (Oq Vm (KS ?_))
  exact Kg (r14, (v8_4 + 1)) [0] ⟨(q3 hM5 (by simp only [sc_Index_int_L0, h12, h16, cs4])), aM1, aM1, aM1, aM1⟩
 intro h12
 have g20 := df h12
 obtain rfl : r3 = 0 := by omega
 refine Ke ?_
 have hR21 := q2 hM5 (.brk ()) (by simp only [sc_Index_int_L0, h12, cs4])
 refine KS ?_
 refine Oq Va (KS ?_)
 have hq := q4 hrr (-1) (by simp only [sc_Index_int, h12, hR21, cs4]); subst hq
 exact Kr () rfl (.tmp rfl .nil) [] en
theorem fn58 (s : List Int) (sa0 : Option Addr) (sk0 : Nat) (v : Int) (hv_0 : i64ok v) (rr : Bool) (hrr : sc_Contains_int s v = rr) : FT Tryz.prog 58 #[vl sa0 sk0 s, vi v] [S sa0 sk0 s] (fun g : Unit => True) (fun g => vb rr) (fun g => []) := by
 refine FTi Tryz.func58 fun w0 M0 F0 => ?_
 unfold i64ok at hv_0
 refine Fb 8 0 fun _ => Fo 0 fun ho2 => KS ?_
 refine Oq Va (KS ?_)
 refine Oq Vm (Oq Vm ?_)
 refine letv (sc_Index_int s v) fun rv3 hg4 => ?_
 have hc5 := fn73 s sa0 sk0 v pre rv3 hg4
 refine Oc [0] ca73 hc5 ?_
 rintro - he6
 unfold i64ok at he6
 refine Oq Vgeq (Oq Va (KS ?_))
 have hq := q4 hrr (decide (0 ≤ rv3)) (by simp only [sc_Contains_int, hg4, cs4]); subst hq
 exact Kr () rfl (.tmp rfl .nil) [] trivial
theorem fn42 (g : GGraph) (ga0 : Option Addr) (gk0 : Nat) (ga1 : Option Addr) (gk1 : Nat) (ga2 : Option Addr) (gk2 : Nat) (rr : Bool) (hrr : gh_Valid g = rr) : FT Tryz.prog 42 #[.agg #[vl ga0 gk0 g.Nodes, vl ga1 gk1 g.Succ, vl ga2 gk2 g.Pred]] [S ga0 gk0 g.Nodes, S ga1 gk1 g.Succ, S ga2 gk2 g.Pred] (fun g : Unit => True) (fun g => vb rr) (fun g => []) := by
 refine FTi Tryz.func42 fun w0 M0 F0 => Fb 32 0 fun _ => Fb 24 1 fun _ => Fb 24 2 fun _ => ?_
 refine KS ?_
 refine Oa (Ab [vl ga0 gk0 g.Nodes, vl ga1 gk1 g.Succ, vl ga2 gk2 g.Pred]) fun p4 => Oq Va (KS ?_)
 refine Oq (Vfa fo26_0 0) (Oq (VldF sh23 0) (Oq (Vlen sl23) (Oq Va (KS ?_))))
 refine Oq Vm (Oq Vlss (Oq Vm ?_))
 refine Js 14 ?_ ?_
 ·intro h5
  have g6 := dt h5
  refine Osk (Osk (Oq Vpt (Oq Vm (Osk (Osk (Osk (Osk (Osk (Oq Vpt ?_)))))))))
  refine Oq Vm (Osk (Osk (Osk (Osk (Osk (Oq Vpt (KS ?_)))))))
  refine Kt (KS ?_)
  refine Oq Va (KS ?_)
  have hq := q4 hrr false (by simp only [gh_Valid, h5, cs4]); subst hq
  exact Kr () rfl (.tmp rfl .nil) [] trivial
 intro h5
 have g7 := df h5
 refine Oq Vm (Oq Vgtr (Oq Vpf (Oq Vm ?_)))
 refine Js 18 ?_ ?_
 ·intro h8
  have g9 := dt h8
  refine Osk (Osk (Osk (Osk (Osk (Oq Vpt (Oq Vm (Osk (Osk (Osk ?_)))))))))
  refine Osk (Osk (Oq Vpt (KS ?_)))
  refine Kt (KS ?_)
  refine Oq Va (KS ?_)
  have hq := q4 hrr false (by simp only [gh_Valid, h5, h8, cs4]); subst hq
  exact Kr () rfl (.tmp rfl .nil) [] trivial
 intro h8
 have g10 := df h8
 refine Oq (Vfa fo26_1 0) (Oq (VldF sh24 0) (Oq (Vlen sl24) (Oq Vm (Oq Vneq (Oq Vpf (Oq Vm ?_))))))
 refine Js 25 ?_ ?_
 ·intro h11
  have g12 := ne_of_bne h11
  refine Osk (Osk (Osk (Osk (Osk (Oq Vpt (KS ?_))))))
  refine Kt (KS ?_)
  refine Oq Va (KS ?_)
  have hq := q4 hrr false (by simp only [gh_Valid, h5, h8, h11, cs4]); subst hq
  exact Kr () rfl (.tmp rfl .nil) [] trivial
 intro h11
 have g13 := eq_of_bne_false h11
 refine Oq (Vfa fo26_2 0) (Oq (VldF sh24 0) (Oq (Vlen sl24) (Oq Vm (Oq Vneq (Oq Vpf (KS ?_))))))
 refine Kc ?_ ?_
 ·intro h14
  have g15 := ne_of_bne h14
  refine KS ?_
  refine Oq Va (KS ?_)
  have hq := q4 hrr false (by simp only [gh_Valid, h5, h8, h11, h14, cs4]); subst hq
  exact Kr () rfl (.tmp rfl .nil) [] trivial
 intro h14
 have g16 := eq_of_bne_false h14
 refine KS ?_
 refine Oq (Vfa fo26_1 0) (Oq (VldF sh24 0) ?_)
 refine letv (gh_count g.Succ) fun rv17 hg18 => ?_
 have hc19 := fn57 g.Succ ga1 gk1 rv17 hg18
 refine Oc [2] ca57 hc19 ?_
 rintro - ⟨he20, he21⟩
 unfold i64ok at he20
 refine Oq Va (KS ?_)
 refine Oq Vm (Oq Vlss (Oq Vm ?_))
 refine Js 37 ?_ ?_
 ·intro h22
  have g23 := dt h22
  refine Osk (Osk (Osk (Osk (Osk (Oq Vpt (KS ?_))))))
  refine Kt (KS ?_)
  refine Oq Va (KS ?_)
  have hq := q4 hrr false (by simp only [gh_Valid, h5, h8, h11, h14, h22, hg18, cs4]); subst hq
  exact Kr () rfl (.tmp rfl .nil) [] trivial
 intro h22
 have g24 := df h22
 try have hct := count_rg (by assumption : gh_count g.Succ = _) h22
 refine Oq (Vfa fo26_2 0) (Oq (VldF sh24 0) ?_)
 refine letv (gh_count g.Pred) fun rv25 hg26 => ?_
 have hc27 := fn57 g.Pred ga2 gk2 rv25 hg26
 refine Oc [3] ca57 hc27 ?_
 rintro - ⟨he28, he29⟩
 unfold i64ok at he28
 refine Oq Vm (Oq Vneq (Oq Vpf (KS ?_)))
 refine Kc ?_ ?_
 ·intro h30
  have g31 := ne_of_bne h30
  refine KS ?_
  refine Oq Va (KS ?_)
  have hq := q4 hrr false (by simp only [gh_Valid, h5, h8, h11, h14, h22, h30, hg18, hg26, cs4]); subst hq
  exact Kr () rfl (.tmp rfl .nil) [] trivial
 intro h30
 have g32 := eq_of_bne_false h30
 refine KS ?_
 refine Oq (Vfa fo26_1 0) (Oq (VldF sh24 0) (Oq (Vlen sl24) (Oq Vm (KS ?_))))
 refine Kl (γ := Nat × Int) (fun (r33, v47_34) => ⟨[(1, p4), (45, vl ga1 gk1 g.Succ), (46, vi (g.Succ.length : Int)), (47, vi v47_34)], [pv p4 [vl ga0 gk0 g.Nodes, vl ga1 gk1 g.Succ, vl ga2 gk2 g.Pred], S ga0 gk0 g.Nodes, S ga1 gk1 g.Succ, S ga2 gk2 g.Pred], gh_Valid_L0 g r33 v47_34 = gh_Valid_L0 g (((g.Succ.length : Int) - 0).toNat) 0 ∧ r33 = ((g.Succ.length : Int) - v47_34).toNat ∧ (0 : Int) ≤ v47_34 ∧ v47_34 ≤ (g.Succ.length : Int) ∧ (-9223372036854775808 ≤ v47_34 ∧ v47_34 ≤ 9223372036854775807), r33⟩) (((g.Succ.length : Int) - 0).toNat, 0) [0, 1, 2, 3] ⟨rfl, rfl, aM1, aM1, aM1⟩ ?_
 rintro ⟨r33, v47_34⟩ ⟨hM35, hr36, hi37, hi38, hk39⟩
 refine JJ_nx fun _ _ hL hA => ?_; dsimp only at hL hA; subst hL hA
 refine Fb 32 1 fun _ => Fb 24 2 fun _ => Fb 24 3 fun _ => KS ?_
 refine Oq Vlss (KS ?_)
 refine Kc ?_ ?_
 ·intro h43
  have g44 := dt h43
  obtain ⟨r45, rfl⟩ := scc (n := r33) aM1
  refine KS ?_
  refine Oq Vm (Oq (Vi sl24 2) ?_)
  refine JJ_peekL v47_34.toNat 2 rfl rng fun a46 k47 => ?_
  refine Fb 8 1 fun _ => Fo 1 fun ho49 => ?_
  refine Oq (Vld sh22 0) (Oq Va (Oq Va (KS ?_)))
  refine Oq Vm (Oq (Vlen sl22) (Oq Vm (KS ?_)))
  refine Kl (γ := Nat × Int) (fun (r50, v54_51) => ⟨[(1, p4), (45, vl ga1 gk1 g.Succ), (46, vi (g.Succ.length : Int)), (47, vi v47_34), (5, vi v47_34), (52, vl a46 k47 (g.Succ.getD v47_34.toNat [])), (53, vi ((g.Succ.getD v47_34.toNat []).length : Int)), (54, vi v54_51)], [S a46 k47 ((g.Succ.getD v47_34.toNat []) : List Int), pv p4 [vl ga0 gk0 g.Nodes, vl ga1 gk1 g.Succ, vl ga2 gk2 g.Pred], S ga0 gk0 g.Nodes, S ga1 gk1 g.Succ, S ga2 gk2 g.Pred], gh_Valid_L1 g v47_34 (g.Succ.getD v47_34.toNat []) r50 v54_51 = gh_Valid_L1 g v47_34 (g.Succ.getD v47_34.toNat []) (((((g.Succ.getD v47_34.toNat []).length : Int) : Int) - 0).toNat) 0 ∧ r50 = ((((g.Succ.getD v47_34.toNat []).length : Int) : Int) - v54_51).toNat ∧ (0 : Int) ≤ v54_51 ∧ (v54_51 ≤ ((g.Succ.getD v47_34.toNat []).length : Int) ∨ v54_51 = 0) ∧ (-9223372036854775808 ≤ v54_51 ∧ v54_51 ≤ 9223372036854775807), r50⟩) (((((g.Succ.getD v47_34.toNat []).length : Int) : Int) - 0).toNat, 0) [1, 2, 3, 4, 5] ⟨rfl, rfl, aM1, (.inr rfl), aM1⟩ ?_
  rintro ⟨r50, v54_51⟩ ⟨hM52, hr53, hi54, hi55, hk56⟩
  refine JJ_nx fun _ _ hL hA => ?_; dsimp only at hL hA; subst hL hA
  refine Fb 8 0 fun _ => Fo 0 fun ho58 => Fb 32 2 fun _ => Fb 24 3 fun _ => Fb 24 4 fun _ => KS ?_
  refine Oq Vlss (KS ?_)
  refine Kc ?_ ?_
  ·intro h62
   have g63 := dt h62
   have hbr := hct v47_34.toNat v54_51.toNat aM1
   obtain ⟨r64, rfl⟩ := scc (n := r50) aM1
   refine KS ?_
   refine Oq (Vi sl22 0) ?_
   have hb65 := ok1 (i := v54_51.toNat) ho58 rng
   refine Oq (VldI sh3 0) (Oq Va (KS ?_))
   refine Oq (Vfa fo26_2 1) (Oq (VldF sh24 1) (Oq Vm (Oq (Vi sl24 4) ?_)))
   refine JJ_peekL (((g.Succ.getD v47_34.toNat []).getD v54_51.toNat 0) : Int).toNat 4 rfl rng fun a66 k67 => ?_
   refine Fb 8 1 fun _ => Fo 1 fun ho69 => ?_
   refine Oq (Vld sh22 0) (Oq Vm ?_)
   refine letv (sc_Contains_int (g.Pred.getD (((g.Succ.getD v47_34.toNat []).getD v54_51.toNat 0) : Int).toNat []) v47_34) fun rv70 hg71 => ?_
   have hc72 := fn58 ((g.Pred.getD (((g.Succ.getD v47_34.toNat []).getD v54_51.toNat 0) : Int).toNat [])) a66 k67 v47_34 pre rv70 hg71
   refine Oc [1] ca58 hc72 ?_
   rintro - -
   refine Oq Vnot (KS ?_)
   refine Kc ?_ ?_
   ·intro h73
    have h75 := not_true h73
    refine KS ?_
    refine Oq Va (KS ?_)
    have hR77 := q2 hM52 (.ret false) (by simp only [gh_Valid_L1, h62, h73, h75, hg71, cs4])
    have hR78 := q2 hM35 (.ret false) (by simp only [gh_Valid_L0, h43, h62, h73, h75, hg71, hR77, cs4])
    have hq := q4 hrr false (by simp only [gh_Valid, h5, h8, h11, h14, h22, h30, h43, h62, h73, h75, hg18, hg26, hg71, hR77, hR78, cs4]); subst hq
    exact Kr () rfl (.tmp rfl .nil) [] trivial
   intro h73
   have h80 := not_false h73
   refine KS ?_
   refine Oq Vadd (Oq Vm (KS ?_))
   exact Kg (r64, (v54_51 + 1)) [2, 3, 4, 5, 6] ⟨(q3 hM52 (by simp only [gh_Valid_L1, h62, h73, h80, hg71, cs4])), aM1, aM1, aM1, aM1⟩
  intro h62
  have g82 := df h62
  obtain rfl : r50 = 0 := by omega
  refine Ke ?_
  have hR83 := q2 hM52 (.brk ()) (by simp only [gh_Valid_L1, h62, cs4])
  refine KS ?_
  refine Oq Vadd (Oq Vm (KS ?_))
  exact Kg (r45, (v47_34 + 1)) [1, 2, 3, 4] ⟨(q3 hM35 (by simp only [gh_Valid_L0, h43, h62, hR83, cs4])), aM1, aM1, aM1, aM1⟩
 intro h43
 have g84 := df h43
 obtain rfl : r33 = 0 := by omega
 refine Ke ?_
 have hR85 := q2 hM35 (.brk ()) (by simp only [gh_Valid_L0, h43, cs4])
 refine KS ?_
 refine Oq Va (KS ?_)
 have hq := q4 hrr true (by simp only [gh_Valid, h5, h8, h11, h14, h22, h30, h43, hg18, hg26, hR85, cs4]); subst hq
 exact Kr () rfl (.tmp rfl .nil) [] trivial
theorem fn26 (g : GGraph) (ga0 : Option Addr) (gk0 : Nat) (ga1 : Option Addr) (gk1 : Nat) (ga2 : Option Addr) (gk2 : Nat) (root : Int) (hroot_0 : i64ok root) (rr : Int) (hrr : layout_check g root = rr) : FT Tryz.prog 26 #[.agg #[vl ga0 gk0 g.Nodes, vl ga1 gk1 g.Succ, vl ga2 gk2 g.Pred], vi root] [S ga0 gk0 g.Nodes, S ga1 gk1 g.Succ, S ga2 gk2 g.Pred] (fun g : Unit => i64ok rr) (fun g => vi rr) (fun g => []) := by
 refine FTi Tryz.func26 fun w0 M0 F0 => ?_
 unfold i64ok at hroot_0
 refine Fb 32 0 fun _ => Fb 24 1 fun _ => Fb 24 2 fun _ => KS ?_
 refine Oa (Ab [vl ga0 gk0 g.Nodes, vl ga1 gk1 g.Succ, vl ga2 gk2 g.Pred]) fun p4 => Oq Va (KS ?_)
 refine Oq (VldA sh26 0) ?_
 refine letv (gh_Valid g) fun rv5 hg6 => ?_
 have hc7 := fn42 g ga0 gk0 ga1 gk1 ga2 gk2 rv5 hg6
 refine Oc [1, 2, 3] ca42 hc7 ?_
 rintro - -
 refine Oq Vnot (Oq Va (KS ?_))
 refine Kc ?_ ?_
 ·intro h8
  have h10 := not_true h8
  refine KS ?_
  refine Oq Va (KS ?_)
  have hq := q4 hrr 1 (by simp only [layout_check, h8, h10, hg6, cs4]); subst hq
  exact Kr () rfl (.tmp rfl .nil) [] en
 intro h8
 have h13 := not_false h8
 refine KS ?_
 refine Oq Vm (Oq Vlss (Oq Vm ?_))
 refine Js 12 ?_ ?_
 ·intro h15
  have g16 := dt h15
  refine Osk (Osk (Osk (Osk (Osk (Oq Vpt (Oq Va (KS ?_)))))))
  refine Kt (KS ?_)
  refine Oq Va (KS ?_)
  have hq := q4 hrr 9 (by simp only [layout_check, h8, h13, h15, hg6, cs4]); subst hq
  exact Kr () rfl (.tmp rfl .nil) [] en
 intro h15
 have g17 := df h15
 refine Oq Vm (Oq (Vfa fo26_0 0) (Oq (VldF sh23 0) (Oq (Vlen sl23) (Oq Vgeq (Oq Vpf (Oq Va (KS ?_)))))))
 refine Kc ?_ ?_
 ·intro h18
  have g19 := dt h18
  refine KS ?_
  refine Oq Va (KS ?_)
  have hq := q4 hrr 9 (by simp only [layout_check, h8, h13, h15, h18, hg6, cs4]); subst hq
  exact Kr () rfl (.tmp rfl .nil) [] en
 intro h18
 have g20 := df h18
 refine KS ?_
 refine Oq Va (KS ?_)
 have hq := q4 hrr 0 (by simp only [layout_check, h8, h13, h15, h18, hg6, cs4]); subst hq
 exact Kr () rfl (.tmp rfl .nil) [] en
theorem fn60 (x : BitVec 64) (y : BitVec 64) (rr : BitVec 64 × BitVec 64) (hrr : bits_Mul64 x y = rr) : FT Tryz.prog 60 #[u64 x, u64 y] [] (fun g : Unit => True) (fun g => .tuple #[u64 rr.1, u64 rr.2]) (fun g => []) := by
 refine FTi Tryz.func60 fun w0 M0 F0 => ?_
 refine KS ?_
 refine Oq Va (Oq Va (KS ?_))
 refine Oq Vm (Oq (VandU (b := 4294967295#64)) (Oq Va (KS ?_)))
 refine Oq Vm (Oq VshrU (Oq Va (KS ?_)))
 refine Oq Vm (Oq (VandU (b := 4294967295#64)) (Oq Va (KS ?_)))
 refine Oq Vm (Oq VshrU (Oq Va (KS ?_)))
 refine Oq Vm (Oq Vm (Oq VmulU (Oq Va (KS ?_))))
 refine Oq Vm (Oq Vm (Oq VmulU (Oq Vm (Oq VshrU (Oq VaddU (Oq Va (KS ?_)))))))
 refine Oq Vm (Oq (VandU (b := 4294967295#64)) (Oq Va (KS ?_)))
 refine Oq Vm (Oq VshrU (Oq Va (KS ?_)))
 refine Oq Vm (Oq Vm (Oq Vm (Oq VmulU (Oq VaddU (Oq Va (KS ?_))))))
 refine Oq Vm (Oq Vm (Oq VmulU (Oq Vm (Oq VaddU (Oq Vm (Oq VshrU (Oq VaddU (Oq Va (KS ?_)))))))))
 refine Oq Vm (Oq Vm (Oq VmulU (Oq Va (KS ?_))))
 have hq := q4 hrr (((((x >>> (((32#64).toNat : Int)).toNat) * (y >>> (((32#64).toNat : Int)).toNat)) + ((((x >>> (((32#64).toNat : Int)).toNat) * (y &&& 4294967295#64)) + (((x &&& 4294967295#64) * (y &&& 4294967295#64)) >>> (((32#64).toNat : Int)).toNat)) >>> (((32#64).toNat : Int)).toNat)) + ((((((x >>> (((32#64).toNat : Int)).toNat) * (y &&& 4294967295#64)) + (((x &&& 4294967295#64) * (y &&& 4294967295#64)) >>> (((32#64).toNat : Int)).toNat)) &&& 4294967295#64) + ((x &&& 4294967295#64) * (y >>> (((32#64).toNat : Int)).toNat))) >>> (((32#64).toNat : Int)).toNat)), (x * y)) (by simp only [bits_Mul64, cs4]); subst hq
 exact Kr () rfl (.tmp rfl (.tmp rfl .nil)) [] trivial
theorem fn43 (x : BitVec 64) (y : BitVec 64) (rr : BitVec 64 × BitVec 64) (hrr : bits_Mul x y = rr) : FT Tryz.prog 43 #[u64 x, u64 y] [] (fun g : Unit => True) (fun g => .tuple #[u64 rr.1, u64 rr.2]) (fun g => []) := by
 refine FTi Tryz.func43 fun w0 M0 F0 => ?_
 refine KS ?_
 refine Oq Va (Oq Va (KS ?_))
 refine Kf (KS ?_)
 refine Oq Vm (Oq Vm ?_)
 refine letv (bits_Mul64 x y) fun rv1 hg2 => ?_
 have hc3 := fn60 x y rv1 hg2
 refine Oc [] ca60 hc3 ?_
 rintro - -
 refine Oq Vm (Oq Vx (Oq Vx (Oq Va (Oq Va (KS ?_)))))
 refine Oq Vm (Oq Vm (Oq Va (Oq Va (KS ?_))))
 have hq := q4 hrr (rv1.1, rv1.2) (by simp only [bits_Mul, hg2, cs4]); subst hq
 exact Kr () rfl (.tmp rfl (.tmp rfl .nil)) [] trivial
theorem fn27 (x : List Cpx) (xa0 : Option Addr) (xk0 : Nat) (count : Int) (hcount_0 : i64ok count) (hc0 : x.length = 1 ∧ 0 ≤ count ∧ count ≤ 1000) (rr : List Cpx) (hrr : sc_Repeat_complex128 x count = rr) : FT Tryz.prog 27 #[vl xa0 xk0 x, vi count] [S xa0 xk0 x] (fun g : Value => ((rr.length : Int) = count)) (fun g => g) (fun g => [os g rr]) := by
 refine FTi Tryz.func27 fun w0 M0 F0 => ?_
 unfold i64ok at hcount_0
 refine Fb 16 0 fun _ => KS ?_
 refine Oq Va (KS ?_)
 refine Oq Vm (Oq Vlss (KS ?_))
 refine Kc ?_ ?_
 ·intro h2
  have g3 := dt h2
  exfalso; omega
 intro h2
 have g4 := df h2
 refine KS ?_
 refine Oq Vm (Oq (Vlen sl41) (Oq (VcU un3 un78) (Oq Vm (Oq (VcU un3 un78) ?_))))
 refine letv (bits_Mul (BitVec.ofInt 64 (x.length : Int)) (BitVec.ofInt 64 count)) fun rv5 hg6 => ?_
 obtain ⟨hml1, hml2⟩ := Mul_1 hg6 hc0
 have hc7 := fn43 ((BitVec.ofInt 64 (x.length : Int))) ((BitVec.ofInt 64 count)) rv5 hg6
 refine Oc [] ca43 hc7 ?_
 rintro - -
 refine Oq Vm (Oq Vx (Oq Vx (Oq Va (Oq Va (KS ?_)))))
 refine Oq Vm (Oq (Vgtr (a := (rv5.1.toNat : Int)) (b := 0)) (Oq Vm ?_))
 refine Js 23 ?_ ?_
 ·intro h8
  have g9 := dt h8
  exfalso; omega
 intro h8
 have g10 := df h8
 refine Oq Vm (Oq (Vgtr (a := (rv5.2.toNat : Int)) (b := 9223372036854775807)) (Oq Vpf (KS ?_)))
 refine Kc ?_ ?_
 ·intro h11
  have g12 := dt h11
  exfalso; omega
 intro h11
 have g13 := df h11
 refine KS ?_
 refine Oq Vm (Oq (VcN un78 un3) (Oa (Amk (α := Cpx) sl41 sz41 (default : Cpx) zrd_Cpx) fun c14 => ?_))
 refine Jo 0 ?_; rintro a15 k16 rfl
 refine Fb 16 0 fun _ => ?_
 have hn18 := List.length_replicate (n := ((rv5.2.toNat : Int) : Int).toNat) (a := ((default : Cpx) : Cpx))
 refine Oq Va (KS ?_)
 refine Oq Vm (Oq Vm (Oa (OpA.frame [0, 0] rfl (OpA.copyS (α := Cpx) rfl rfl rfl sl41 rfl)) fun u19 => ?_))
 have hn20 : (x.take (List.replicate ((rv5.2.toNat : Int) : Int).toNat (default : Cpx)).length ++ (List.replicate ((rv5.2.toNat : Int) : Int).toNat (default : Cpx)).drop x.length).length = (List.replicate ((rv5.2.toNat : Int) : Int).toNat (default : Cpx)).length := len_copy _ _
 have hb21 : Nat.min x.length (List.replicate ((rv5.2.toNat : Int) : Int).toNat (default : Cpx)).length ≤ x.length := Nat.min_le_left _ _
 refine Oq Va (KS ?_)
 refine Fl 0 fun hn22 => ?_; (try unfold vl); rw [show Value.slice a15 ((List.replicate ((rv5.2.toNat : Int) : Int).toNat (default : Cpx)).length) k16 = Value.slice a15 (((x.take (List.replicate ((rv5.2.toNat : Int) : Int).toNat (default : Cpx)).length ++ (List.replicate ((rv5.2.toNat : Int) : Int).toNat (default : Cpx)).drop x.length) : List Cpx).length) k16 from by rw [hn22]]
 have hterm32 : sc_Repeat_complex128_L0 (count.toNat + 2) (x.take (List.replicate ((rv5.2.toNat : Int) : Int).toNat (default : Cpx)).length ++ (List.replicate ((rv5.2.toNat : Int) : Int).toNat (default : Cpx)).drop x.length) (Nat.min x.length (List.replicate ((rv5.2.toNat : Int) : Int).toNat (default : Cpx)).length : Int) ≠ LR.oof := (Rep_t0 hc0.1 aM1 (by first | assumption | omega))
 refine Kl (γ := Nat × List Cpx × Int × Option Addr × Nat) (fun (r23, newslice_24, n_25, a26, k27) => ⟨[(7, vl a26 k27 newslice_24), (8, vi n_25)], [O a26 k27 newslice_24], sc_Repeat_complex128_L0 r23 newslice_24 n_25 = sc_Repeat_complex128_L0 (count.toNat + 2) (x.take (List.replicate ((rv5.2.toNat : Int) : Int).toNat (default : Cpx)).length ++ (List.replicate ((rv5.2.toNat : Int) : Int).toNat (default : Cpx)).drop x.length) (Nat.min x.length (List.replicate ((rv5.2.toNat : Int) : Int).toNat (default : Cpx)).length : Int) ∧ (-9223372036854775808 ≤ n_25 ∧ n_25 ≤ 9223372036854775807) ∧ (newslice_24.length = count.toNat) ∧ (0 ≤ n_25 ∧ n_25 ≤ count ∧ (count = 0 ∨ 1 ≤ n_25)), r23⟩) ((count.toNat + 2), (x.take (List.replicate ((rv5.2.toNat : Int) : Int).toNat (default : Cpx)).length ++ (List.replicate ((rv5.2.toNat : Int) : Int).toNat (default : Cpx)).drop x.length), (Nat.min x.length (List.replicate ((rv5.2.toNat : Int) : Int).toNat (default : Cpx)).length : Int), a15, k16) [0] ⟨rfl, aM1, iv0, (Rep_i hc0.1 aM1)⟩ ?_
 rintro ⟨r23, newslice_24, n_25, a26, k27⟩ ⟨hM28, hk29, hv30, hv31⟩
 refine JJ_nx fun _ _ hL hA => ?_; dsimp only at hL hA; subst hL hA
 refine Fb 16 0 fun _ => ?_
 rcases r23 with _ | r23
 ·exact absurd (hM28.symm.trans rfl) hterm32
 refine KS ?_
 refine Oq Vm (Oq Vm (Oq (Vlen sl41) (Oq Vlss (KS ?_))))
 refine Kc ?_ ?_
 ·intro h34
  have g35 := dt h34
  refine KS ?_
  refine JK_drawK [0, 0, 0, 6, 0, 0, 48, 126, 255, 511] fmix ?_
  refine Dv [] Vm (Dv [] Vm (Dv [] Vm (Dv [0] (VslQ sl41 0 (n_25.toNat)) (Dv [] Vm (Dv [] Vm (Dv [0] (VslP sl41 0 (n_25.toNat)) ?_))))))
  have hn37 := dbl_len newslice_24 (n_25.toNat) rng
  refine Dx [0] [0] [0] (fun G => vi ((min (n_25.toNat) (newslice_24.length - (n_25.toNat)) : Nat) : Int)) [fun G => os (vl a26 k27 newslice_24) (dbl newslice_24 (n_25.toNat))] (fun G => xA (Adbl [0] sl41 (n_25.toNat))) (Dv [] Vadd (Dv [] Va ?_))
  refine Dn ⟨by kernel_rfl, fun G => ?_⟩
  refine Jw2 [(7, vl a26 k27 newslice_24), (8, vi (n_25 + ((min (n_25.toNat) (newslice_24.length - (n_25.toNat)) : Nat) : Int)))] [] [os (vl a26 k27 newslice_24) (dbl newslice_24 (n_25.toNat))] ?_
  refine KS ?_
  refine Fl 0 fun hn38 => ?_; (try unfold vl); rw [show Value.slice a26 newslice_24.length k27 = Value.slice a26 ((dbl newslice_24 (n_25.toNat)).length) k27 from by rw [hn38]]
  exact Kg (r23, (dbl newslice_24 (n_25.toNat)), (n_25 + ((min (n_25.toNat) (newslice_24.length - (n_25.toNat)) : Nat) : Int)), a26, k27) [0] ⟨(q3 hM28 (by simp only [sc_Repeat_complex128_L0, h34, cs4])), aM1, iv1, aM1⟩
 intro h34
 have g39 := df h34
 refine Ke ?_
 have hR40 := q2 hM28 (.brk newslice_24) (by simp only [sc_Repeat_complex128_L0, h34, cs4])
 refine KS ?_
 refine Oq Vm (Oq Va (KS ?_))
 have hq := q4 hrr newslice_24 (by simp only [sc_Repeat_complex128, h2, h8, h11, h34, hg6, hR40, cs4]); subst hq
 exact Kr (vl a26 k27 newslice_24) rfl (.tmp rfl .nil) [0] en
theorem fn74 (data : List Int) (dataa0 : Option Addr) (datak0 : Nat) (a : Int) (b : Int) (cmpF : FuncId) (cmpC : List Value) (cmpp : Int → Int → Int) (cmpA : List SP) (ha_0 : i64ok a) (hb_0 : i64ok b) (hcmpc : callable Tryz.prog cmpF = true) (hcmpF : ∀ x0 x1, i64ok x0 → i64ok x1 → x0 ∈ data → x1 ∈ data → FT Tryz.prog cmpF ([vi x0, vi x1] ++ cmpC).toArray ([] ++ [pAll cmpA]) (fun _ : Unit => i64ok (cmpp x0 x1)) (fun _ => vi (cmpp x0 x1)) (fun _ => [])) (ha0 : 0 ≤ a ∧ a ≤ b ∧ b ≤ (data.length : Int) ∧ b - a ≤ 12) (rr : List Int) (hrr : sc_insertionSortCmpFunc_int data a b cmpp = rr) : FT Tryz.prog 74 #[vl dataa0 datak0 data, vi a, vi b, .func (.func cmpF) #[] cmpC.toArray] [O dataa0 datak0 data, pAll cmpA] (fun g : Unit => (rr.length = data.length)) (fun g => .tuple #[]) (fun g => [os (vl dataa0 datak0 data) rr]) := by
 refine FTi Tryz.func74 fun w0 M0 F0 => ?_
 unfold i64ok at ha_0 hb_0
 refine Fb 8 0 fun _ => Fo 0 fun ho2 => KS ?_
 refine Oq Vm (Oq Vadd (Oq Va (KS ?_)))
 refine Kl (γ := Nat × List Int × Int) (fun (r3, data_4, i_5) => ⟨[(0, vl dataa0 datak0 data), (1, vi a), (2, vi b), (3, .func (.func cmpF) #[] cmpC.toArray), (8, vi i_5)], [os (vl dataa0 datak0 data) data_4, pAll cmpA], sc_insertionSortCmpFunc_int_L0 a cmpp r3 data_4 i_5 = sc_insertionSortCmpFunc_int_L0 a cmpp (((b : Int) - (a + 1)).toNat) data (a + 1) ∧ r3 = ((b : Int) - i_5).toNat ∧ ((a + 1) : Int) ≤ i_5 ∧ (i_5 ≤ b ∨ i_5 = (a + 1)) ∧ (-9223372036854775808 ≤ i_5 ∧ i_5 ≤ 9223372036854775807) ∧ (∀ y ∈ data_4, y ∈ data), r3⟩) (((b : Int) - (a + 1)).toNat, data, (a + 1)) [0, 0] ⟨rfl, rfl, aM1, (.inr rfl), aM1, (by first | assumption | exact fun y h => h)⟩ ?_
 rintro ⟨r3, data_4, i_5⟩ ⟨hM6, hr7, hi8, hi9, hk10, hv11⟩
 refine JJ_nx fun _ _ hL hA => ?_; dsimp only at hL hA; subst hL hA
 refine Fb 8 0 fun _ => Fo 0 fun ho13 => Fl 0 fun hn14 => ?_
 refine KS ?_
 refine Oq Vm (Oq Vm (Oq Vlss (KS ?_)))
 refine Kc ?_ ?_
 ·intro h15
  have g16 := dt h15
  obtain ⟨r17, rfl⟩ := scc (n := r3) aM1
  refine KS ?_
  refine Oq Vm (Oq Va (KS ?_))
  refine Kl (γ := Nat × List Int × Int) (fun (r18, data_19, j_20) => ⟨[(0, vl dataa0 datak0 data), (1, vi a), (2, vi b), (3, .func (.func cmpF) #[] cmpC.toArray), (8, vi i_5), (9, vi j_20)], [os (vl dataa0 datak0 data) data_19, pAll cmpA], sc_insertionSortCmpFunc_int_L1 cmpp r18 data_19 j_20 = sc_insertionSortCmpFunc_int_L1 cmpp (((i_5 : Int) - a).toNat) data_4 i_5 ∧ r18 = ((j_20 : Int) - a).toNat ∧ j_20 ≤ (i_5 : Int) ∧ (-9223372036854775808 ≤ j_20 ∧ j_20 ≤ 9223372036854775807) ∧ (∀ y ∈ data_19, y ∈ data), r18⟩) (((i_5 : Int) - a).toNat, data_4, i_5) [0, 0] ⟨rfl, rfl, aM1, aM1, (by first | assumption | exact fun y h => h)⟩ ?_
  rintro ⟨r18, data_19, j_20⟩ ⟨hM21, hr22, hi23, hk24, hv25⟩
  refine JJ_nx fun _ _ hL hA => ?_; dsimp only at hL hA; subst hL hA
  refine Fb 8 0 fun _ => Fo 0 fun ho27 => Fl 0 fun hn28 => ?_
  refine KS ?_
  refine JK_drawK [0, 0, 3, 7, 15, 15, 15, 111, 239, 15, 15, 1039, 3599, 7695, 16383, 32767, 65535] fmix ?_
  refine Dv [] Vm (Dv [] Vm (Dv [] Vgtr ?_))
  refine bool_split (decide (a < j_20)) ?_ ?_
  ·intro h29
   have g30 := dt h29
   obtain ⟨r31, rfl⟩ := scc (n := r18) aM1
   refine Db h29 [] Vm (Dv [] Vm (Dv [] Vm (Dv [] Vm (Dv [0] (Vi sl22 0) ?_))))
   have hb32 := ok1 (i := j_20.toNat) ho27 rng
   refine Dv [0] (VldI sh3 0) (Dv [] Vm (Dv [] Vm (Dv [] Vsub (Dv [0] (Vi sl22 0) ?_))))
   have hb33 := ok1 (i := ((j_20 - 1) : Int).toNat) ho27 rng
   refine Dv [0] (VldI sh3 0) (Dx [1] [] [1, 0] (fun G => vi (cmpp (data_19.getD j_20.toNat 0) (data_19.getD ((j_20 - 1) : Int).toNat 0))) [fun G => SP.fact (i64ok (cmpp (data_19.getD j_20.toNat 0) (data_19.getD ((j_20 - 1) : Int).toNat 0)))] (fun G => xE (asv := [(vi (data_19.getD j_20.toNat 0) : Value), (vi (data_19.getD ((j_20 - 1) : Int).toNat 0) : Value)] ++ cmpC) [0] hcmpc rfl rfl rfl (by simp) rfl (hcmpF (data_19.getD j_20.toNat 0) (data_19.getD ((j_20 - 1) : Int).toNat 0)  pre pre ((by assumption : ∀ y ∈ _, y ∈ data) _ (getD_mem rng)) ((by assumption : ∀ y ∈ _, y ∈ data) _ (getD_mem rng)))) (Dv [] Vlss (Dv [] Vpt ?_)))
   refine Dn ⟨by kernel_rfl, fun G => ?_⟩
   refine Jw2 [(0, vl dataa0 datak0 data), (1, vi a), (2, vi b), (3, .func (.func cmpF) #[] cmpC.toArray), (8, vi i_5), (9, vi j_20), (34, vb (decide ((cmpp (data_19.getD j_20.toNat 0) (data_19.getD ((j_20 - 1) : Int).toNat 0)) < 0)))] [0, 1] [SP.fact (i64ok (cmpp (data_19.getD j_20.toNat 0) (data_19.getD ((j_20 - 1) : Int).toNat 0)))] ?_
   refine Jf 2 rfl ?_; rintro he34
   unfold i64ok at he34
   refine Jk [0, 0] ?_
   refine Kc ?_ ?_
   ·intro h35
    have g36 := dt h35
    refine KS ?_
    refine JK_drawK [0, 0, 0, 0, 8, 0, 0, 64, 224, 480, 0, 0, 3072, 7168, 16355, 32739, 65535, 131071] fmix ?_
    refine Dv [] Vm (Dv [] Vm (Dv [] Vm (Dv [] Vm (Dv [] Vsub (Dv [] Vm (Dv [] Vm (Dv [] Vsub (Dv [0] (Vi sl22 0) ?_))))))))
    have hb37 := ok1 (i := ((j_20 - 1) : Int).toNat) ho27 rng
    refine Dv [0] (VldI sh3 0) (Dv [] Vm (Dv [] Vm (Dv [0] (Vi sl22 0) ?_)))
    have hb38 := ok1 (i := j_20.toNat) ho27 rng
    refine Dv [0] (VldI sh3 0) (Dv [0] (Vi sl22 0) (Dx0 [0] [0] [0] [fun G => os (vl dataa0 datak0 data) (data_19.set j_20.toNat (data_19.getD ((j_20 - 1) : Int).toNat 0))] (fun G => xS (SoI [0] sh3)) (Dv [2] (Vi sl22 0) (Dx0 [2] [2] [0] [fun G => os (vl dataa0 datak0 data) ((data_19.set j_20.toNat (data_19.getD ((j_20 - 1) : Int).toNat 0)).set ((j_20 - 1) : Int).toNat (data_19.getD j_20.toNat 0))] (fun G => xS (SoI [0] sh3)) ?_))))
    refine Dn ⟨by kernel_rfl, fun G => ?_⟩
    refine Jw2 [(0, vl dataa0 datak0 data), (1, vi a), (2, vi b), (3, .func (.func cmpF) #[] cmpC.toArray), (8, vi i_5), (9, vi j_20)] [1] [os (vl dataa0 datak0 data) ((data_19.set j_20.toNat (data_19.getD ((j_20 - 1) : Int).toNat 0)).set ((j_20 - 1) : Int).toNat (data_19.getD j_20.toNat 0))] ?_
    refine KS ?_
    refine Oq Vm (Oq Vsub (Oq Va (KS ?_)))
    exact Kg (r31, ((data_19.set j_20.toNat (data_19.getD ((j_20 - 1) : Int).toNat 0)).set ((j_20 - 1) : Int).toNat (data_19.getD j_20.toNat 0)), (j_20 - 1)) [1, 0] ⟨(q3 hM21 (by simp only [sc_insertionSortCmpFunc_int_L1, h29, h35, cs4])), aM1, aM1, aM1, (by first | assumption | exact mem_swap (by assumption) rng rng)⟩
   intro h35
   have g39 := df h35
   refine Ke ?_
   have hR40 := q2 hM21 data_19 (by simp only [sc_insertionSortCmpFunc_int_L1, h29, h35, cs4])
   refine KS ?_
   refine Oq Vm (Oq Vadd (Oq Va (KS ?_)))
   exact Kg (r17, data_19, (i_5 + 1)) [0, 0] ⟨(q3 hM6 (by simp only [sc_insertionSortCmpFunc_int_L0, h15, h29, h35, hR40, cs4])), aM1, aM1, aM1, aM1, (by first | assumption | exact mem_swap (by assumption) rng rng)⟩
  intro h29
  have g41 := df h29
  obtain rfl : r18 = 0 := by omega
  refine Db h29 [] Vm (Ds (Ds (Ds (Ds (Ds (Ds (Ds (Ds (Ds ?_)))))))))
  refine Ds (Ds (Ds (Dv [] Vpf ?_)))
  refine Dn ⟨by kernel_rfl, fun G => ?_⟩
  refine Jw2 [(0, vl dataa0 datak0 data), (1, vi a), (2, vi b), (3, .func (.func cmpF) #[] cmpC.toArray), (8, vi i_5), (9, vi j_20), (34, vb false)] [0, 1] [] ?_
  refine Kf ?_
  refine Ke ?_
  have hR42 := q2 hM21 data_19 (by simp only [sc_insertionSortCmpFunc_int_L1, h29, cs4])
  refine KS ?_
  refine Oq Vm (Oq Vadd (Oq Va (KS ?_)))
  exact Kg (r17, data_19, (i_5 + 1)) [0, 0] ⟨(q3 hM6 (by simp only [sc_insertionSortCmpFunc_int_L0, h15, h29, hR42, cs4])), aM1, aM1, aM1, aM1, (by first | assumption | exact mem_swap (by assumption) rng rng)⟩
 intro h15
 have g43 := df h15
 obtain rfl : r3 = 0 := by omega
 refine Ke ?_
 have hR44 := q2 hM6 data_4 (by simp only [sc_insertionSortCmpFunc_int_L0, h15, cs4])
 refine Fl 0 fun hn45 => ?_
 have hq := q4 hrr data_4 (by simp only [sc_insertionSortCmpFunc_int, h15, hR44, cs4]); subst hq
 exact Kz () rfl .nil [0] en
theorem fn61 (data : List Int) (dataa0 : Option Addr) (datak0 : Nat) (a : Int) (b : Int) (limit : Int) (cmpF : FuncId) (cmpC : List Value) (cmpp : Int → Int → Int) (cmpA : List SP) (ha_0 : i64ok a) (hb_0 : i64ok b) (hlimit_0 : i64ok limit) (hcmpc : callable Tryz.prog cmpF = true) (hcmpF : ∀ x0 x1, i64ok x0 → i64ok x1 → x0 ∈ data → x1 ∈ data → FT Tryz.prog cmpF ([vi x0, vi x1] ++ cmpC).toArray ([] ++ [pAll cmpA]) (fun _ : Unit => i64ok (cmpp x0 x1)) (fun _ => vi (cmpp x0 x1)) (fun _ => [])) (ha0 : 0 ≤ a ∧ a ≤ b ∧ b ≤ (data.length : Int) ∧ b - a ≤ 12) (rr : List Int) (hrr : sc_pdqsortCmpFunc_int data a b limit cmpp = rr) : FT Tryz.prog 61 #[vl dataa0 datak0 data, vi a, vi b, vi limit, .func (.func cmpF) #[] cmpC.toArray] [O dataa0 datak0 data, pAll cmpA] (fun g : Unit => (rr.length = data.length)) (fun g => .tuple #[]) (fun g => [os (vl dataa0 datak0 data) rr]) := by
 refine FTi Tryz.func61 fun w0 M0 F0 => ?_
 unfold i64ok at ha_0 hb_0 hlimit_0
 refine Fb 8 0 fun _ => Fo 0 fun ho2 => KS ?_
 refine Oq Va (KS ?_)
 refine Oq Va (KS ?_)
 have hterm5 : sc_pdqsortCmpFunc_int_L0 data a b cmpp 1 ≠ LR.oof := (by unfold sc_pdqsortCmpFunc_int_L0; intro h; simp only [Bool.cond_eq_ite] at h; (repeat' split at h) <;> cases h)
 refine Kl (γ := Nat) (fun r3 => ⟨[(0, vl dataa0 datak0 data), (1, vi a), (2, vi b), (3, vi limit), (4, .func (.func cmpF) #[] cmpC.toArray), (10, vb true), (11, vb true)], [O dataa0 datak0 data, pAll cmpA], sc_pdqsortCmpFunc_int_L0 data a b cmpp r3 = sc_pdqsortCmpFunc_int_L0 data a b cmpp 1, r3⟩) 1 [0, 0] rfl ?_
 rintro r3 hM4
 refine JJ_nx fun _ _ hL hA => ?_; dsimp only at hL hA; subst hL hA
 refine Fb 8 0 fun _ => Fo 0 fun ho7 => ?_
 rcases r3 with _ | r3
 ·exact absurd (hM4.symm.trans rfl) hterm5
 refine KS ?_
 refine Oq Vm (Oq Vm (Oq Vsub (Oq Va (KS ?_))))
 refine Oq Vm (Oq Vleq (KS ?_))
 refine Kc ?_ ?_
 ·intro h8
  have g9 := dt h8
  refine KS ?_
  refine Oq Vm (Oq Vm (Oq Vm (Oq Vm ?_)))
  refine letv (sc_insertionSortCmpFunc_int data a b cmpp) fun rv10 hg11 => ?_
  have hc12 := fn74 data dataa0 datak0 a b cmpF cmpC cmpp cmpA pre pre hcmpc hcmpF pre rv10 hg11
  refine Oc [0, 0] ca74 hc12 ?_
  rintro - he13
  refine Fb 8 0 fun _ => Fo 0 fun ho15 => KS ?_
  refine Fl 0 fun hn16 => ?_
  have hR17 := q2 hM4 (.ret rv10) (by simp only [sc_pdqsortCmpFunc_int_L0, h8, hg11, cs4])
  have hq := q4 hrr rv10 (by simp only [sc_pdqsortCmpFunc_int, h8, hg11, hR17, cs4]); subst hq
  exact Kr () rfl .nil [0] en
 intro h8
 have g18 := df h8
 exfalso; omega
theorem fn83 (x : BitVec 64) (hx0 : x.toNat ≤ 255) (rr : Int) (hrr : bits_Len64 x = rr) : FT Tryz.prog 83 #[u64 x] [] (fun g : Unit => i64ok rr) (fun g => vi rr) (fun g => []) := by
 refine FTi Tryz.func83 fun w0 M0 F0 => ?_
 refine KS ?_
 refine Oq Va (KS ?_)
 refine Oq Vm (Oq (Vgeq (a := (x.toNat : Int)) (b := 4294967296)) (KS ?_))
 refine Kc ?_ ?_
 ·intro h1
  have g2 := dt h1
  exfalso; omega
 intro h1
 have g3 := df h1
 refine KS ?_
 refine Oq Vm (Oq (Vgeq (a := (x.toNat : Int)) (b := 65536)) (KS ?_))
 refine Kc ?_ ?_
 ·intro h4
  have g5 := dt h4
  exfalso; omega
 intro h4
 have g6 := df h4
 refine KS ?_
 refine Oq Vm (Oq (Vgeq (a := (x.toNat : Int)) (b := 256)) (KS ?_))
 refine Kc ?_ ?_
 ·intro h7
  have g8 := dt h7
  exfalso; omega
 intro h7
 have g9 := df h7
 refine KS ?_
 refine Oq Vm (Oq Vm (Oq (VcU8 un105 un5) ?_))
 refine Oq (Vix un9 (l := tab0) (h := ⟨by omega, by rw [show tab0.b.length = 256 from rfl]; omega⟩)) ?_
 have hb10 := u8b (tab0.b.getD ((x.toNat : Int) : Int).toNat 0)
 refine Oq (VcK un5 un3) (Oq Vadd (Oq Va (KS ?_)))
 have hq := q4 hrr (0 + ((tab0.b.getD ((x.toNat : Int) : Int).toNat 0).toNat : Int)) (by simp only [bits_Len64, h1, h4, h7, cs4]); subst hq
 exact Kr () rfl (.tmp rfl .nil) [] en
theorem fn62 (x : BitVec 64) (hx0 : x.toNat ≤ 255) (rr : Int) (hrr : bits_Len x = rr) : FT Tryz.prog 62 #[u64 x] [] (fun g : Unit => i64ok rr) (fun g => vi rr) (fun g => []) := by
 refine FTi Tryz.func62 fun w0 M0 F0 => ?_
 refine KS ?_
 refine Oq Va (KS ?_)
 refine Kf (KS ?_)
 refine Oq Vm ?_
 refine letv (bits_Len64 x) fun rv1 hg2 => ?_
 have hc3 := fn83 x pre rv1 hg2
 refine Oc [] ca83 hc3 ?_
 rintro - he4
 unfold i64ok at he4
 refine Oq Va (KS ?_)
 have hq := q4 hrr rv1 (by simp only [bits_Len, hg2, cs4]); subst hq
 exact Kr () rfl (.tmp rfl .nil) [] en
theorem fn44 (x : List Int) (xa0 : Option Addr) (xk0 : Nat) (cmpF : FuncId) (cmpC : List Value) (cmpp : Int → Int → Int) (cmpA : List SP) (hcmpc : callable Tryz.prog cmpF = true) (hcmpF : ∀ x0 x1, i64ok x0 → i64ok x1 → x0 ∈ x → x1 ∈ x → FT Tryz.prog cmpF ([vi x0, vi x1] ++ cmpC).toArray ([] ++ [pAll cmpA]) (fun _ : Unit => i64ok (cmpp x0 x1)) (fun _ => vi (cmpp x0 x1)) (fun _ => [])) (hs0 : x.length ≤ 12) (rr : List Int) (hrr : sc_SortFunc_int x cmpp = rr) : FT Tryz.prog 44 #[vl xa0 xk0 x, .func (.func cmpF) #[] cmpC.toArray] [O xa0 xk0 x, pAll cmpA] (fun g : Unit => (rr.length = x.length)) (fun g => .tuple #[]) (fun g => [os (vl xa0 xk0 x) rr]) := by
 refine FTi Tryz.func44 fun w0 M0 F0 => Fb 8 0 fun _ => Fo 0 fun ho2 => ?_
 refine KS ?_
 refine Oq Vm (Oq (Vlen sl22) (Oq Va (KS ?_)))
 refine Oq Vm (Oq Vm (Oq Vm (Oq (VcU un3 un78) ?_)))
 refine letv (bits_Len (BitVec.ofInt 64 (x.length : Int))) fun rv3 hg4 => ?_
 have hc5 := fn62 ((BitVec.ofInt 64 (x.length : Int))) (by rw [ofI_nat aM1]; omega) rv3 hg4
 refine Oc [] ca62 hc5 ?_
 rintro - he6
 unfold i64ok at he6
 refine Oq Vm ?_
 refine letv (sc_pdqsortCmpFunc_int x 0 (x.length : Int) rv3 cmpp) fun rv7 hg8 => ?_
 have hc9 := fn61 x xa0 xk0 0 ((x.length : Int)) rv3 cmpF cmpC cmpp cmpA pre pre pre hcmpc hcmpF pre rv7 hg8
 refine Oc [0, 0] ca61 hc9 ?_
 rintro - he10
 refine Fb 8 0 fun _ => Fo 0 fun ho12 => KS ?_
 refine Fl 0 fun hn13 => ?_
 have hq := q4 hrr rv7 (by simp only [sc_SortFunc_int, hg4, hg8, cs4]); subst hq
 exact Kz () rfl .nil [0] en
theorem fn46 (vals : List Int) (valsa0 : Option Addr) (valsk0 : Nat) (rr : Int) (hrr : cmp_Or_int vals = rr) : FT Tryz.prog 46 #[vl valsa0 valsk0 vals] [S valsa0 valsk0 vals] (fun g : Unit => i64ok rr) (fun g => vi rr) (fun g => []) := by
 refine FTi Tryz.func46 fun w0 M0 F0 => Fb 8 0 fun _ => Fo 0 fun ho2 => ?_
 refine KS ?_
 refine Oq Va (KS ?_)
 refine Oq Va (KS ?_)
 refine Oq Vm (Oq (Vlen sl22) (Oq Vm (KS ?_)))
 refine Kl (γ := Nat × Int) (fun (r3, v8_4) => ⟨[(3, vi 0), (6, vl valsa0 valsk0 vals), (7, vi (vals.length : Int)), (8, vi v8_4)], [S valsa0 valsk0 vals], cmp_Or_int_L0 vals r3 v8_4 = cmp_Or_int_L0 vals (((vals.length : Int) - 0).toNat) 0 ∧ r3 = ((vals.length : Int) - v8_4).toNat ∧ (0 : Int) ≤ v8_4 ∧ v8_4 ≤ (vals.length : Int) ∧ (-9223372036854775808 ≤ v8_4 ∧ v8_4 ≤ 9223372036854775807), r3⟩) (((vals.length : Int) - 0).toNat, 0) [0] ⟨rfl, rfl, aM1, aM1, aM1⟩ ?_
 rintro ⟨r3, v8_4⟩ ⟨hM5, hr6, hi7, hi8, hk9⟩
 refine JJ_nx fun _ _ hL hA => ?_; dsimp only at hL hA; subst hL hA
 refine Fb 8 0 fun _ => Fo 0 fun ho11 => KS ?_
 refine Oq Vlss (KS ?_)
 refine Kc ?_ ?_
 ·intro h12
  have g13 := dt h12
  obtain ⟨r14, rfl⟩ := scc (n := r3) aM1
  refine KS ?_
  refine Oq (Vi sl22 0) ?_
  have hb15 := ok1 (i := v8_4.toNat) ho11 rng
  refine Oq (VldI sh3 0) (Oq Va (KS ?_))
  refine Oq Vm (Oq Vm (Oq Vneq (KS ?_)))
  refine Kc ?_ ?_
  ·intro h16
   have g17 := ne_of_bne h16
   refine KS ?_
   refine Oq Vm (Oq Va (KS ?_))
   have hR18 := q2 hM5 (.ret (vals.getD v8_4.toNat 0)) (by simp only [cmp_Or_int_L0, h12, h16, cs4])
   have hq := q4 hrr (vals.getD v8_4.toNat 0) (by simp only [cmp_Or_int, h12, h16, hR18, cs4]); subst hq
   exact Kr () rfl (.tmp rfl .nil) [] en
  intro h16
  have g19 := eq_of_bne_false h16
  refine KS ?_
  refine Oq Vadd (Oq Vm (KS ?_))
  exact Kg (r14, (v8_4 + 1)) [0] ⟨(q3 hM5 (by simp only [cmp_Or_int_L0, h12, h16, cs4])), aM1, aM1, aM1, aM1⟩
 intro h12
 have g20 := df h12
 obtain rfl : r3 = 0 := by omega
 refine Ke ?_
 have hR21 := q2 hM5 (.brk ()) (by simp only [cmp_Or_int_L0, h12, cs4])
 refine KS ?_
 refine Oq Vm (Oq Va (KS ?_))
 have hq := q4 hrr 0 (by simp only [cmp_Or_int, h12, hR21, cs4]); subst hq
 exact Kr () rfl (.tmp rfl .nil) [] en
theorem fn63 (x : Int) (hx_0 : i64ok x) (rr : Bool) (hrr : cmp_isNaN_int x = rr) : FT Tryz.prog 63 #[vi x] [] (fun g : Unit => True) (fun g => vb rr) (fun g => []) := by
 refine FTi Tryz.func63 fun w0 M0 F0 => ?_
 unfold i64ok at hx_0
 refine KS ?_
 refine Oq Va (KS ?_)
 refine Oq Vm (Oq Vm (Oq Vneq (Oq Va (KS ?_))))
 have hq := q4 hrr (x != x) (by simp only [cmp_isNaN_int, cs4]); subst hq
 exact Kr () rfl (.tmp rfl .nil) [] trivial
theorem fn47 (x : Int) (y : Int) (hx_0 : i64ok x) (hy_0 : i64ok y) (rr : Int) (hrr : cmp_Compare_int x y = rr) : FT Tryz.prog 47 #[vi x, vi y] [] (fun g : Unit => i64ok rr) (fun g => vi rr) (fun g => []) := by
 refine FTi Tryz.func47 fun w0 M0 F0 => ?_
 unfold i64ok at hx_0 hy_0
 refine KS ?_
 refine Oq Va (KS ?_)
 refine Oq Vm ?_
 refine letv (cmp_isNaN_int x) fun rv1 hg2 => ?_
 have hc3 := fn63 x pre rv1 hg2
 refine Oc [] ca63 hc3 ?_
 rintro - -
 refine Oq Va (KS ?_)
 refine Oq Vm ?_
 refine letv (cmp_isNaN_int y) fun rv4 hg5 => ?_
 have hc6 := fn63 y pre rv4 hg5
 refine Oc [] ca63 hc6 ?_
 rintro - -
 refine Oq Va (KS ?_)
 refine Oq Vm (KS ?_)
 refine Kc ?_ ?_
 ·intro h7
  refine KS ?_
  refine Oq Vm (KS ?_)
  refine Kc ?_ ?_
  ·intro h9
   refine KS ?_
   refine Oq Va (KS ?_)
   have hq := q4 hrr 0 (by simp only [cmp_Compare_int, h7, h9, hg2, hg5, cs4]); subst hq
   exact Kr () rfl (.tmp rfl .nil) [] en
  intro h9
  refine KS ?_
  refine Oq Va (KS ?_)
  have hq := q4 hrr (-1) (by simp only [cmp_Compare_int, h7, h9, hg2, hg5, cs4]); subst hq
  exact Kr () rfl (.tmp rfl .nil) [] en
 intro h7
 refine KS ?_
 refine Oq Vm (KS ?_)
 refine Kc ?_ ?_
 ·intro h13
  refine KS ?_
  refine Oq Va (KS ?_)
  have hq := q4 hrr 1 (by simp only [cmp_Compare_int, h7, h13, hg2, hg5, cs4]); subst hq
  exact Kr () rfl (.tmp rfl .nil) [] en
 intro h13
 refine KS ?_
 refine Oq Vm (Oq Vm (Oq Vlss (KS ?_)))
 refine Kc ?_ ?_
 ·intro h16
  have g17 := dt h16
  refine KS ?_
  refine Oq Va (KS ?_)
  have hq := q4 hrr (-1) (by simp only [cmp_Compare_int, h7, h13, h16, hg2, hg5, cs4]); subst hq
  exact Kr () rfl (.tmp rfl .nil) [] en
 intro h16
 have g18 := df h16
 refine KS ?_
 refine Oq Vm (Oq Vm (Oq Vgtr (KS ?_)))
 refine Kc ?_ ?_
 ·intro h19
  have g20 := dt h19
  refine KS ?_
  refine Oq Va (KS ?_)
  have hq := q4 hrr 1 (by simp only [cmp_Compare_int, h7, h13, h16, h19, hg2, hg5, cs4]); subst hq
  exact Kr () rfl (.tmp rfl .nil) [] en
 intro h19
 have g21 := df h19
 refine KS ?_
 refine Oq Va (KS ?_)
 have hq := q4 hrr 0 (by simp only [cmp_Compare_int, h7, h13, h16, h19, hg2, hg5, cs4]); subst hq
 exact Kr () rfl (.tmp rfl .nil) [] en
theorem fn45 (a : Int) (b : Int) (cap0P : Value) (cap0 : List Int) (cap0a0 : Option Addr) (cap0k0 : Nat) (ha_0 : i64ok a) (hb_0 : i64ok b) (hp0 : (0 ≤ a ∧ a < (cap0.length : Int)) ∧ 0 ≤ b ∧ b < (cap0.length : Int)) (rr : Int) (hrr : layout_rows_1 a b cap0 = rr) : FT Tryz.prog 45 #[vi a, vi b, cap0P] [pv cap0P [vl cap0a0 cap0k0 cap0], S cap0a0 cap0k0 cap0] (fun g : Unit => i64ok rr) (fun g => vi rr) (fun g => []) := by
 refine FTi Tryz.func45 fun w0 M0 F0 => ?_
 unfold i64ok at ha_0 hb_0
 refine Fb 8 1 fun _ => Fo 1 fun ho2 => KS ?_
 refine Oq Va (KS ?_)
 refine JK_drawK [0, 0, 3, 7, 0, 0, 48, 112, 255, 0, 0, 2047, 4095, 8191, 16383] fmix ?_
 refine Dv [0] (Vld sh22 0) (Dv [] Vm (Dv [1] (Vi sl22 0) ?_))
 have hb3 := ok1 (i := a.toNat) ho2 rng
 refine Dv [1] (VldI sh3 0) (Dv [0] (Vld sh22 0) (Dv [] Vm (Dv [1] (Vi sl22 0) ?_)))
 have hb4 := ok1 (i := b.toNat) ho2 rng
 refine Dv [1] (VldI sh3 0) ?_
 refine letv (cmp_Compare_int (cap0.getD a.toNat 0) (cap0.getD b.toNat 0)) fun rv5 hg6 => ?_
 refine Dx [] [] [0] (fun G => vi rv5) [fun G => SP.fact (i64ok rv5)] (fun G => xC [] ca47 (fn47 ((cap0.getD a.toNat 0)) ((cap0.getD b.toNat 0)) pre pre rv5 hg6)) (Dv [] Vm (Dv [] Vm ?_))
 refine letv (cmp_Compare_int a b) fun rv7 hg8 => ?_
 refine Dx [] [] [0] (fun G => vi rv7) [fun G => SP.fact (i64ok rv7)] (fun G => xC [] ca47 (fn47 a b pre pre rv7 hg8)) (Dx [] [] [0] (fun G => (G.g 12 0)) [fun G => Cr (G.g 12 0) 2 [vi rv5, vi rv7]] (fun G => xA (AsV sl22 sz22 [vi rv5, vi rv7] [vi rv5, vi rv7])) ?_)
 refine letv (cmp_Or_int [rv5, rv7]) fun rv13 hg14 => ?_
 refine Dx [2, 3, 4] [4] [2, 3, 1, 0] (fun G => vi rv13) [fun G => sl (G.g 12 0) ([rv5, rv7] : List Int), fun G => SP.fact (i64ok rv13)] (fun G => by refine xf 0 rfl ?_; rintro he15; unfold i64ok at he15; refine xf 1 rfl ?_; rintro he16; unfold i64ok at he16; exact xp [2] rfl (Ent.crInt _ [rv5, rv7] _ _ rfl rfl (by intro x hx; simp only [List.mem_cons, List.not_mem_nil, or_false] at hx; rcases hx with rfl | rfl <;> (unfold i64ok; omega)) aB1) (xp [0] rfl (Ent.freeze _ _) (xD [0] ca46 rfl rfl rfl (FT_open (γ := Unit) (I := fun g => i64ok rv13) (V := fun g => vi rv13) (B := fun g => []) (R := sl (G.g 12 0) ([rv5, rv7] : List Int)) sl_slice (fun aq10 kq11 eq12 => by rw [eq12]; exact FT_ent (Ent.take (is := [0]) rfl) (fn46 ([rv5, rv7]) aq10 kq11 rv13 hg14)))))) (Dv [] Va ?_)
 refine Dn ⟨by kernel_rfl, fun G => ?_⟩
 refine Jw2 [(5, vi rv13)] [0, 1] [SP.fact (i64ok rv5), SP.fact (i64ok rv7), sl (G.g 12 0) ([rv5, rv7] : List Int), SP.fact (i64ok rv13)] ?_
 generalize G.g 12 0 = c9
 refine Jf 2 rfl ?_; rintro he17
 unfold i64ok at he17
 refine Jf 3 rfl ?_; rintro he18
 unfold i64ok at he18
 refine Jf 5 rfl ?_; rintro he19
 unfold i64ok at he19
 refine Jk [0, 1, 4] ?_
 refine Jo 2 ?_; rintro a20 k21 rfl
 refine Fb 8 2 fun _ => Fo 2 fun ho23 => ?_
 have hq := q4 hrr rv13 (by simp only [layout_rows_1, hg6, hg8, hg14, cs4]); subst hq
 exact Kr () rfl (.tmp rfl .nil) [] en
theorem fn28 (g : GGraph) (ga0 : Option Addr) (gk0 : Nat) (ga1 : Option Addr) (gk1 : Nat) (ga2 : Option Addr) (gk2 : Nat) (root : Int) (hroot_0 : i64ok root) (hv0 : gh_Valid g = true) (hr0 : 0 ≤ root ∧ root < (g.Nodes.length : Int)) (hn0 : g.Nodes.length ≤ 12) (rr : List (List Int)) (hrr : layout_rows g root = rr) : FT Tryz.prog 28 #[.agg #[vl ga0 gk0 g.Nodes, vl ga1 gk1 g.Succ, vl ga2 gk2 g.Pred], vi root] [S ga0 gk0 g.Nodes, S ga1 gk1 g.Succ, S ga2 gk2 g.Pred] (fun g : Value => True) (fun g => g) (fun g => [sl g rr]) := by
 refine FTi Tryz.func28 fun w0 M0 F0 => ?_
 unfold i64ok at hroot_0
 refine Fb 32 0 fun _ => Fb 24 1 fun _ => Fb 24 2 fun _ => ?_
 have hgv := Valid_VG hv0
 have hn1 := hgv.n1
 have hsl := hgv.sl
 refine KS ?_
 refine Oa (Ab [vl ga0 gk0 g.Nodes, vl ga1 gk1 g.Succ, vl ga2 gk2 g.Pred]) fun p4 => Oq Va (KS ?_)
 refine Oq (Vfa fo26_0 0) (Oq (VldF sh23 0) (Oq (Vlen sl23) ?_))
 refine Oa (Amk (α := Int) sl22 sz22 (0 : Int) (fun _ _ => ⟨rfl, by unfold i64ok; decide⟩)) fun c5 => ?_
 refine Jo 0 ?_; rintro a6 k7 rfl
 refine Fb 8 0 fun _ => Fo 0 fun ho9 => ?_
 have hn10 := List.length_replicate (n := (g.Nodes.length : Int).toNat) (a := ((0 : Int) : Int))
 refine Oa (Al ze22 [.slice none 0 0]) fun p11 => Ost (Scl [0] sh22 [vl a6 k7 (List.replicate (g.Nodes.length : Int).toNat (0 : Int))]) (KS ?_)
 refine Oq (Vfa fo26_0 2) (Oq (VldF sh23 2) (Oq (Vlen sl23) (Oa (Amk (α := Bool) sl91 sz91 false (fun _ _ => rfl)) fun c12 => ?_)))
 refine Jo 0 ?_; rintro a13 k14 rfl
 refine Fb 1 0 fun _ => ?_
 have hn16 := List.length_replicate (n := (g.Nodes.length : Int).toNat) (a := (false : Bool))
 refine Oq Va (KS ?_)
 refine Oq Vm (Oq Vm (Oq (Vi sl91 0) (Ost (SoB [0] sh4) (KS ?_))))
 refine Oq Va (KS ?_)
 refine Oq Vm (Oa (AsV sl22 sz22 [vi root] [vi root]) fun c17 => ?_)
 refine Jo 0 ?_; rintro a18 k19 rfl
 refine Oq Va (KS ?_)
 refine Jl [0] (Ent.crInt _ [root] _ _ rfl rfl (by intro x hx; rw [List.mem_singleton] at hx; subst hx; unfold i64ok; omega) aB1) ?_
 refine Fb 8 0 fun _ => Fo 0 fun ho21 => ?_
 refine Jl [2] (Ent.freezeCl _ _) ?_
 refine Jl [] (Ent.osNil (α := (List Int))) ?_
 have hterm39 : layout_rows_L0 g (g.Nodes.length + 3) (List.replicate (g.Nodes.length : Int).toNat (0 : Int)) ((List.replicate (g.Nodes.length : Int).toNat false).set root.toNat true) [] [root] ≠ LR.oof := (rows_t hgv _ _ _ _ _ (by simp only [List.length_set, List.length_replicate]; omega) (by rw [if_neg (by simp)]; omega))
 refine Kl (γ := Nat × List Int × List Bool × List (List Int) × List Int × Option Addr × Nat × Option Addr × Nat × Option Addr × Nat) (fun (r22, place0_23, seen_24, l_25, row_26, a27, k28, a29, k30, a31, k32) => ⟨[(2, p4), (5, p11), (6, vl a13 k14 (List.replicate (g.Nodes.length : Int).toNat false)), (7, vl a29 k30 l_25), (8, vl a31 k32 row_26)], [O a31 k32 row_26, O a29 k30 l_25, O a27 k28 place0_23, pv p11 [vl a27 k28 place0_23], os (vl a13 k14 (List.replicate (g.Nodes.length : Int).toNat false)) seen_24, pv p4 [vl ga0 gk0 g.Nodes, vl ga1 gk1 g.Succ, vl ga2 gk2 g.Pred], S ga0 gk0 g.Nodes, S ga1 gk1 g.Succ, S ga2 gk2 g.Pred], layout_rows_L0 g r22 place0_23 seen_24 l_25 row_26 = layout_rows_L0 g (g.Nodes.length + 3) (List.replicate (g.Nodes.length : Int).toNat (0 : Int)) ((List.replicate (g.Nodes.length : Int).toNat false).set root.toNat true) [] [root] ∧ (place0_23.length = g.Nodes.length) ∧ (seen_24.length = g.Nodes.length) ∧ ((l_25.length : Int) + r22 ≤ (g.Nodes.length : Int) + 3) ∧ (RL g.Nodes.length row_26) ∧ (RW g.Nodes.length l_25), r22⟩) ((g.Nodes.length + 3), (List.replicate (g.Nodes.length : Int).toNat (0 : Int)), ((List.replicate (g.Nodes.length : Int).toNat false).set root.toNat true), [], [root], a6, k7, none, 0, a18, k19) [2, 0, 2, 0, 1, 1, 2, 3, 4] ⟨rfl, iv0, iv0, iv0, (RL_one hr0), (RW_nil _)⟩ ?_
 rintro ⟨r22, place0_23, seen_24, l_25, row_26, a27, k28, a29, k30, a31, k32⟩ ⟨hM33, hv34, hv35, hv36, hv37, hv38⟩
 refine JJ_nx fun _ _ hL hA => ?_; dsimp only at hL hA; subst hL hA
 refine Fb 8 0 fun _ => Fo 0 fun ho41 => Fb 24 1 fun _ => Fb 8 2 fun _ => Fo 2 fun ho44 => Fb 1 4 fun _ => Fl 4 fun hn46 => ?_
 refine Fb 32 6 fun _ => Fb 24 7 fun _ => Fb 24 8 fun _ => ?_
 rcases r22 with _ | r22
 ·exact absurd (hM33.symm.trans rfl) hterm39
 refine KS ?_
 refine Oq Vm (Oq (Vlen sl22) (Oq Vgtr (KS ?_)))
 refine Kc ?_ ?_
 ·intro h50
  have g51 := dt h50
  have hrm := RL_get (i := (0 : Int).toNat) (by assumption : RL _ row_26) aM1
  refine KS ?_
  refine Oq Vm (Oq Vm (Oa (AsV sl24 sz24 [vl a31 k32 row_26] [vl a31 k32 row_26]) fun c52 => ?_))
  refine Jo 0 ?_; rintro a53 k54 rfl
  refine Jl [1] (Ent.freeze _ _) ?_
  refine Jl [1, 0] (Ent.cr1 (α := List Int) (A := [S a31 k32 row_26]) _ row_26 _ aB1 (fun h => ⟨_, rfl, sepAll_get (i := 0) rfl h⟩)) ?_
  refine Oa (ApO [3, 0] sl24 sl24 sz24) fun c55 => ?_
  refine Jo 0 ?_; rintro a56 k57 rfl
  refine Fb 24 0 fun _ => ?_
  have hn59 := la l_25 ([row_26] : List (List Int))
  refine Oq Va (KS ?_)
  refine Oq Va (KS ?_)
  refine Oq Vm (Oq (Vlen sl22) (Oq Vm (KS ?_)))
  refine Jl [] (Ent.osNil (α := Int)) ?_
  refine Kl (γ := Nat × List Int × List Bool × List Int × Int × Option Addr × Nat) (fun (r60, place0_61, seen_62, next_63, v36_64, a65, k66) => ⟨[(2, p4), (5, p11), (6, vl a13 k14 (List.replicate (g.Nodes.length : Int).toNat false)), (7, vl a56 k57 (l_25 ++ [row_26])), (9, vl a65 k66 next_63), (34, vl a31 k32 row_26), (35, vi (row_26.length : Int)), (36, vi v36_64)], [O a65 k66 next_63, O a56 k57 ((l_25 ++ [row_26]) : List (List Int)), S a31 k32 row_26, os (vl a27 k28 place0_23) place0_61, pv p11 [vl a27 k28 place0_23], os (vl a13 k14 (List.replicate (g.Nodes.length : Int).toNat false)) seen_62, pv p4 [vl ga0 gk0 g.Nodes, vl ga1 gk1 g.Succ, vl ga2 gk2 g.Pred], S ga0 gk0 g.Nodes, S ga1 gk1 g.Succ, S ga2 gk2 g.Pred], layout_rows_L1 g row_26 r60 place0_61 seen_62 next_63 v36_64 = layout_rows_L1 g row_26 (((row_26.length : Int) - 0).toNat) place0_23 seen_24 [] 0 ∧ r60 = ((row_26.length : Int) - v36_64).toNat ∧ (0 : Int) ≤ v36_64 ∧ v36_64 ≤ (row_26.length : Int) ∧ (-9223372036854775808 ≤ v36_64 ∧ v36_64 ≤ 9223372036854775807) ∧ (place0_61.length = g.Nodes.length) ∧ (seen_62.length = g.Nodes.length) ∧ (RL g.Nodes.length next_63) ∧ (next_63.length ≤ List.count true seen_62) ∧ (next_63.length ≤ 12), r60⟩) (((row_26.length : Int) - 0).toNat, place0_23, seen_24, [], 0, none, 0) [0, 0, 0, 2, 2, 3, 3, 4, 5, 6] ⟨rfl, rfl, aM1, aM1, aM1, iv0, iv0, (by first | exact RL_nil _ | assumption), (by first | assumption | exact Nat.zero_le _), (by first | assumption | exact Nat.zero_le _)⟩ ?_
  rintro ⟨r60, place0_61, seen_62, next_63, v36_64, a65, k66⟩ ⟨hM67, hr68, hi69, hi70, hk71, hv72, hv73, hv74, hv75, hv76⟩
  refine JJ_nx fun _ _ hL hA => ?_; dsimp only at hL hA; subst hL hA
  refine Fb 8 0 fun _ => Fo 0 fun ho78 => Fb 24 1 fun _ => Fb 8 2 fun _ => Fo 2 fun ho81 => Fb 8 3 fun _ => Fo 3 fun ho83 => Fl 3 fun hn84 => ?_
  refine Fb 1 5 fun _ => Fl 5 fun hn86 => ?_
  refine Fb 32 7 fun _ => Fb 24 8 fun _ => Fb 24 9 fun _ => KS ?_
  refine Oq Vlss (KS ?_)
  refine Kc ?_ ?_
  ·intro h90
   have g91 := dt h90
   have hrm := RL_get (i := v36_64.toNat) (by assumption : RL _ row_26) aM1
   obtain ⟨r92, rfl⟩ := scc (n := r60) aM1
   refine KS ?_
   refine Oq Vm (Oq (Vi sl22 2) ?_)
   have hb93 := ok1 (i := v36_64.toNat) ho81 rng
   refine Oq (VldI sh3 2) (Oq Va (Oq Va (KS ?_)))
   refine Oq (Vfa fo26_1 6) (Oq (VldF sh24 6) (Oq Vm (Oq (Vi sl24 8) ?_)))
   refine JJ_peekL ((row_26.getD v36_64.toNat 0) : Int).toNat 8 rfl rng fun a94 k95 => ?_
   refine Fb 8 1 fun _ => Fo 1 fun ho97 => ?_
   refine Oq (Vld sh22 0) (Oq (Vlen sl22) (Oq Vm (KS ?_)))
   refine Kl (γ := Nat × List Int × List Bool × List Int × Int × Option Addr × Nat) (fun (r98, place0_99, seen_100, next_101, v47_102, a103, k104) => ⟨[(2, p4), (5, p11), (6, vl a13 k14 (List.replicate (g.Nodes.length : Int).toNat false)), (7, vl a56 k57 (l_25 ++ [row_26])), (9, vl a103 k104 next_101), (34, vl a31 k32 row_26), (35, vi (row_26.length : Int)), (36, vi v36_64), (10, vi v36_64), (45, vl a94 k95 (g.Succ.getD ((row_26.getD v36_64.toNat 0) : Int).toNat [])), (46, vi ((g.Succ.getD ((row_26.getD v36_64.toNat 0) : Int).toNat []).length : Int)), (47, vi v47_102)], [O a103 k104 next_101, S a94 k95 ((g.Succ.getD ((row_26.getD v36_64.toNat 0) : Int).toNat []) : List Int), O a56 k57 ((l_25 ++ [row_26]) : List (List Int)), S a31 k32 row_26, os (vl a27 k28 place0_23) place0_99, pv p11 [vl a27 k28 place0_23], os (vl a13 k14 (List.replicate (g.Nodes.length : Int).toNat false)) seen_100, pv p4 [vl ga0 gk0 g.Nodes, vl ga1 gk1 g.Succ, vl ga2 gk2 g.Pred], S ga0 gk0 g.Nodes, S ga1 gk1 g.Succ, S ga2 gk2 g.Pred], layout_rows_L2 v36_64 (g.Succ.getD ((row_26.getD v36_64.toNat 0) : Int).toNat []) r98 place0_99 seen_100 next_101 v47_102 = layout_rows_L2 v36_64 (g.Succ.getD ((row_26.getD v36_64.toNat 0) : Int).toNat []) (((((g.Succ.getD ((row_26.getD v36_64.toNat 0) : Int).toNat []).length : Int) : Int) - 0).toNat) place0_61 seen_62 next_63 0 ∧ r98 = ((((g.Succ.getD ((row_26.getD v36_64.toNat 0) : Int).toNat []).length : Int) : Int) - v47_102).toNat ∧ (0 : Int) ≤ v47_102 ∧ (v47_102 ≤ ((g.Succ.getD ((row_26.getD v36_64.toNat 0) : Int).toNat []).length : Int) ∨ v47_102 = 0) ∧ (-9223372036854775808 ≤ v47_102 ∧ v47_102 ≤ 9223372036854775807) ∧ (place0_99.length = g.Nodes.length) ∧ (seen_100.length = g.Nodes.length) ∧ (RL g.Nodes.length next_101) ∧ (next_101.length ≤ List.count true seen_100) ∧ (next_101.length ≤ 12), r98⟩) (((((g.Succ.getD ((row_26.getD v36_64.toNat 0) : Int).toNat []).length : Int) : Int) - 0).toNat, place0_61, seen_62, next_63, 0, a65, k66) [2, 1, 2, 2, 3, 3, 4, 4, 5, 6, 7] ⟨rfl, rfl, aM1, (.inr rfl), aM1, iv0, iv0, (by first | exact RL_nil _ | assumption), (by first | assumption | exact Nat.zero_le _), (by first | assumption | exact Nat.zero_le _)⟩ ?_
   rintro ⟨r98, place0_99, seen_100, next_101, v47_102, a103, k104⟩ ⟨hM105, hr106, hi107, hi108, hk109, hv110, hv111, hv112, hv113, hv114⟩
   refine JJ_nx fun _ _ hL hA => ?_; dsimp only at hL hA; subst hL hA
   refine Fb 8 0 fun _ => Fo 0 fun ho116 => Fb 8 1 fun _ => Fo 1 fun ho118 => Fb 24 2 fun _ => Fb 8 3 fun _ => Fo 3 fun ho121 => Fb 8 4 fun _ => ?_
   refine Fo 4 fun ho123 => ?_
   refine Fl 4 fun hn124 => Fb 1 6 fun _ => ?_
   refine Fl 6 fun hn126 => Fb 32 8 fun _ => Fb 24 9 fun _ => Fb 24 10 fun _ => ?_
   refine KS ?_
   refine Oq Vlss (KS ?_)
   refine Kc ?_ ?_
   ·intro h130
    have g131 := dt h130
    have hsm := VG_any hgv ((row_26.getD v36_64.toNat 0) : Int).toNat _ (getD_mem (xs := g.Succ.getD ((row_26.getD v36_64.toNat 0) : Int).toNat []) (i := v47_102.toNat) (d := 0) aM1)
    obtain ⟨r132, rfl⟩ := scc (n := r98) aM1
    refine KS ?_
    refine Oq (Vi sl22 1) ?_
    have hb133 := ok1 (i := v47_102.toNat) ho118 rng
    refine Oq (VldI sh3 1) (Oq Va (KS ?_))
    refine Oq Vm (Oq Vm (Oq (Vi sl91 6) (Oq (VldB sh4 6) (Oq Vnot (KS ?_)))))
    refine Kc ?_ ?_
    ·intro h134
     have h136 := not_true h134
     refine KS ?_
     refine Oq Vm (Oq Vm (Oq (Vi sl91 6) (Ost (SoB [6] sh4) (KS ?_))))
     refine Oq (Vld sh22 6) (Oq Vm (Oq Vm (Oq (Vi sl22 5) (Ost (SoI [5] sh3) (KS ?_)))))
     refine Oq Vm (Oq Vm (Oa (AsV sl22 sz22 [vi ((g.Succ.getD ((row_26.getD v36_64.toNat 0) : Int).toNat []).getD v47_102.toNat 0)] [vi ((g.Succ.getD ((row_26.getD v36_64.toNat 0) : Int).toNat []).getD v47_102.toNat 0)]) fun c138 => ?_))
     refine Jo 0 ?_; rintro a139 k140 rfl
     refine Jl [0] (Ent.crInt _ [((g.Succ.getD ((row_26.getD v36_64.toNat 0) : Int).toNat []).getD v47_102.toNat 0)] _ _ rfl rfl (by intro x hx; rw [List.mem_singleton] at hx; subst hx; unfold i64ok; omega) aB1) ?_
     refine Oa (ApO [3, 0] sl22 sl22 sz22) fun c141 => ?_
     refine Jo 0 ?_; rintro a142 k143 rfl
     refine Fb 8 0 fun _ => Fo 0 fun ho145 => ?_
     have hn146 := la next_101 ([((g.Succ.getD ((row_26.getD v36_64.toNat 0) : Int).toNat []).getD v47_102.toNat 0)] : List Int)
     refine Oq Va (KS ?_)
     refine Oq Vadd (Oq Vm (KS ?_))
     exact Kg (r132, (place0_99.set (((g.Succ.getD ((row_26.getD v36_64.toNat 0) : Int).toNat []).getD v47_102.toNat 0) : Int).toNat v36_64), (seen_100.set (((g.Succ.getD ((row_26.getD v36_64.toNat 0) : Int).toNat []).getD v47_102.toNat 0) : Int).toNat true), (next_101 ++ [((g.Succ.getD ((row_26.getD v36_64.toNat 0) : Int).toNat []).getD v47_102.toNat 0)]), (v47_102 + 1), a142, k143) [0, 2, 3, 3, 0, 3, 0, 3, 4, 5, 6] ⟨(q3 hM105 (by simp only [layout_rows_L2, h130, h134, h136, cs4])), aM1, aM1, aM1, aM1, iv1, iv1, (by first | assumption | exact RL_app (by assumption) hsm), (by first | assumption | exact nx_step (by assumption) aM1 (by assumption)), (by first | assumption | exact cnt12 (nx_step (by assumption) aM1 (by assumption)) (by first | assumption | (simp only [List.length_set]; omega)) hn0)⟩
    intro h134
    have h148 := not_false h134
    refine KS ?_
    refine Oq Vadd (Oq Vm (KS ?_))
    exact Kg (r132, place0_99, seen_100, next_101, (v47_102 + 1), a103, k104) [0, 0, 1, 1, 2, 2, 3, 3, 4, 5, 6] ⟨(q3 hM105 (by simp only [layout_rows_L2, h130, h134, h148, cs4])), aM1, aM1, aM1, aM1, iv1, iv1, (by first | assumption | exact RL_app (by assumption) hsm), (by first | assumption | exact nx_step (by assumption) aM1 (by assumption)), (by first | assumption | exact cnt12 (nx_step (by assumption) aM1 (by assumption)) (by first | assumption | (simp only [List.length_set]; omega)) hn0)⟩
   intro h130
   have g150 := df h130
   obtain rfl : r98 = 0 := by omega
   refine Ke ?_
   have hR151 := q2 hM105 (place0_99, seen_100, next_101) (by simp only [layout_rows_L2, h130, cs4])
   refine KS ?_
   refine Oq Vadd (Oq Vm (KS ?_))
   exact Kg (r92, place0_99, seen_100, next_101, (v36_64 + 1), a103, k104) [0, 1, 1, 2, 2, 3, 3, 4, 5, 6] ⟨(q3 hM67 (by simp only [layout_rows_L1, h90, h130, hR151, cs4])), aM1, aM1, aM1, aM1, iv1, iv1, (by first | assumption | exact RL_app (by assumption) hsm), (by first | assumption | exact nx_step (by assumption) aM1 (by assumption)), (by first | assumption | exact cnt12 (nx_step (by assumption) aM1 (by assumption)) (by first | assumption | (simp only [List.length_set]; omega)) hn0)⟩
  intro h90
  have g152 := df h90
  obtain rfl : r60 = 0 := by omega
  refine Ke ?_
  have hR153 := q2 hM67 (place0_61, seen_62, next_63) (by simp only [layout_rows_L1, h90, cs4])
  refine KS ?_
  refine Oq Vm (Oq (Vf [p11]) ?_)
  refine Fl 3 fun hn154 => ?_; (try unfold vl); rw [← hn154]
  refine letv (sc_SortFunc_int next_63 (fun x0 x1 => layout_rows_1 x0 x1 place0_61)) fun rv155 hg156 => ?_
  refine Oc [3, 0, 2] ca44 (FT_borrow (A := _) hlx (FT_ent (Ent.take (is := [1, 1, 0]) rfl) (FT_ent (Ent.trans (Ent.pall (A := [O a65 k66 next_63, pv p11 [vl a27 k28 place0_61], S a27 k28 place0_61]) (Ac := [pv p11 [vl a27 k28 place0_61], S a27 k28 place0_61]) [1, 2] rfl rfl) (Ent.take (is := [1, 0]) rfl)) (fn44 next_63 a65 k66 45 [p11] (fun x0 x1 => layout_rows_1 x0 x1 place0_61) [pv p11 [vl a27 k28 place0_61], S a27 k28 place0_61] ca45 (fun x0 x1 hq0 hq1 hz0 hz1 => FT_pall (A1 := []) (fn45 x0 x1 p11 place0_61 a27 k28 hq0 hq1 (by have h0 := (by assumption : RL _ _) _ hz0; have h1 := (by assumption : RL _ _) _ hz1; omega) _ rfl)) (cnt12 (by assumption) (by assumption) hn0) rv155 hg156)))) ?_ (ht := rfl)
  rintro - he157
  refine Fb 8 1 fun _ => Fo 1 fun ho159 => KS ?_
  refine Oq Vm (Oq Va (KS ?_))
  refine Fl 1 fun hn160 => ?_; (try unfold vl); rw [← hn160]
  exact Kg (r22, place0_61, seen_62, (l_25 ++ [row_26]), rv155, a27, k28, a56, k57, a65, k66) [1, 1, 0, 1, 2, 2, 3, 4, 5] ⟨(q3 hM33 (by simp only [layout_rows_L0, h50, h90, hR153, hg156, cs4])), iv1, iv1, iv1, (by first | assumption | exact RL_sort (by assumption) (by assumption)), (RW_app (by assumption) (by assumption))⟩
 intro h50
 have g161 := df h50
 refine Ke ?_
 have hR162 := q2 hM33 (.brk l_25) (by simp only [layout_rows_L0, h50, cs4])
 refine KS ?_
 refine Oq Vm (Oq Va (KS ?_))
 refine Jl [1] (Ent.freeze _ _) ?_
 have hq := q4 hrr l_25 (by simp only [layout_rows, h50, hR162, cs4]); subst hq
 exact Kr (vl a29 k30 l_25) rfl (.tmp rfl .nil) [0] trivial
theorem fn13 (g : GGraph) (ga0 : Option Addr) (gk0 : Nat) (ga1 : Option Addr) (gk1 : Nat) (ga2 : Option Addr) (gk2 : Nat) (root : Int) (hroot_0 : i64ok root) (hn0 : g.Nodes.length ≤ 12) (rr : List Cpx × Int) (hrr : layout_Place g root = rr) : FT Tryz.prog 13 #[.agg #[vl ga0 gk0 g.Nodes, vl ga1 gk1 g.Succ, vl ga2 gk2 g.Pred], vi root] [S ga0 gk0 g.Nodes, S ga1 gk1 g.Succ, S ga2 gk2 g.Pred] (fun g : Value => i64ok rr.2 ∧ (∀ y ∈ rr.1, WB y) ∧ (rr.1.length ≤ 12)) (fun g => .tuple #[g, vi rr.2]) (fun g => [sl g rr.1]) := by
 refine FTi Tryz.func13 fun w0 M0 F0 => ?_
 unfold i64ok at hroot_0
 refine Fb 32 0 fun _ => Fb 24 1 fun _ => Fb 24 2 fun _ => KS ?_
 refine Oa (Ab [vl ga0 gk0 g.Nodes, vl ga1 gk1 g.Succ, vl ga2 gk2 g.Pred]) fun p4 => Oq Va (Oq Va (KS ?_))
 refine Oq (VldA sh26 0) (Oq Vm ?_)
 refine letv (layout_check g root) fun rv5 hg6 => ?_
 have hc7 := fn26 g ga0 gk0 ga1 gk1 ga2 gk2 root pre rv5 hg6
 refine Oc [1, 2, 3] ca26 hc7 ?_
 rintro - he8
 unfold i64ok at he8
 refine Oq Va (KS ?_)
 refine Oq Vm (Oq Vneq (KS ?_))
 refine Kc ?_ ?_
 ·intro h9
  have g10 := ne_of_bne h9
  refine KS ?_
  refine Oq Vm (Oq Va (Oq Va (KS ?_)))
  refine Jl [] (Ent.slNil (α := Cpx)) ?_
  have hq := q4 hrr (([] : List Cpx), rv5) (by simp only [layout_Place, h9, hg6, cs4]); subst hq
  exact Kr (.slice none 0 0) rfl (.tmp rfl (.tmp rfl .nil)) [0] ⟨en, (by first | assumption | (intro y hy; cases hy)), (by first | exact Nat.zero_le _ | (dsimp only; omega))⟩
 intro h9
 have g11 := eq_of_bne_false h9
 obtain ⟨hvv, hr0, hr1⟩ := chk_ok (by assumption) h9; have hgv := Valid_VG hvv
 refine KS ?_
 refine Oa (AsV sl41 sz41 [cxv (Cpx.mk 13830554455654793216#64 0#64)] [cxv (Cpx.mk 13830554455654793216#64 0#64)]) fun c12 => ?_
 refine Jo 0 ?_; rintro a13 k14 rfl
 refine Oq (Vfa fo26_0 1) (Oq (VldF sh23 1) (Oq (Vlen sl23) ?_))
 refine Jl [0] (Ent.cr1 (α := Cpx) (A := []) _ (Cpx.mk 13830554455654793216#64 0#64) _ aB1 (fun _ => rfl)) ?_
 refine Jl [0] (Ent.freeze _ _) ?_
 refine letv (sc_Repeat_complex128 [(Cpx.mk 13830554455654793216#64 0#64)] (g.Nodes.length : Int)) fun rv16 hg17 => ?_
 have hwb := Rep_WB hg17 (fun y hy => by rw [List.mem_singleton.1 hy]; exact WB_out)
 have hc18 := fn27 ([(Cpx.mk 13830554455654793216#64 0#64)]) a13 k14 ((g.Nodes.length : Int)) pre ⟨rfl, by omega, by omega⟩ rv16 hg17
 refine Oc [0] ca27 hc18 ?_
 rintro c15 he19
 refine Jo 0 ?_; rintro a20 k21 rfl
 refine Fb 16 0 fun _ => ?_
 refine Oq Va (KS ?_)
 refine Oq Va (KS ?_)
 refine Oq (VldA sh26 2) (Oq Vm ?_)
 refine letv (layout_rows g root) fun rv24 hg25 => ?_
 obtain ⟨hrw, hrl⟩ := rows_RW hg25 hgv ⟨hr0, hr1⟩
 have hc26 := fn28 g ga0 gk0 ga1 gk1 ga2 gk2 root pre hvv ⟨hr0, hr1⟩ hn0 rv24 hg25
 refine Oc [3, 4, 5] ca28 hc26 ?_
 rintro c23 -
 refine Jo 0 ?_; rintro a27 k28 rfl
 refine Fb 24 0 fun _ => ?_
 refine Oq (Vlen sl24) (Oq Vm (KS ?_))
 refine Kl (γ := Nat × List Cpx × Cpx × Int × Option Addr × Nat) (fun (r30, at__31, start_32, v29_33, a34, k35) => ⟨[(7, vl a34 k35 at__31), (8, cxv start_32), (27, vl a27 k28 rv24), (28, vi (rv24.length : Int)), (29, vi v29_33)], [O a34 k35 at__31, S a27 k28 rv24], layout_Place_L0 rv24 r30 at__31 start_32 v29_33 = layout_Place_L0 rv24 (((rv24.length : Int) - 0).toNat) rv16 (Cpx.mk 0#64 0#64) 0 ∧ r30 = ((rv24.length : Int) - v29_33).toNat ∧ (0 : Int) ≤ v29_33 ∧ v29_33 ≤ (rv24.length : Int) ∧ (-9223372036854775808 ≤ v29_33 ∧ v29_33 ≤ 9223372036854775807) ∧ (at__31.length = g.Nodes.length) ∧ (∀ y ∈ at__31, WB y) ∧ (WQ start_32 0 v29_33), r30⟩) (((rv24.length : Int) - 0).toNat, rv16, (Cpx.mk 0#64 0#64), 0, a20, k21) [1, 0] ⟨rfl, rfl, aM1, aM1, aM1, iv0, hwb, WQ_0⟩ ?_
 rintro ⟨r30, at__31, start_32, v29_33, a34, k35⟩ ⟨hM36, hr37, hi38, hi39, hk40, hv41, hv42, hv43⟩
 refine JJ_nx fun _ _ hL hA => ?_; dsimp only at hL hA; subst hL hA
 refine Fb 16 0 fun _ => Fb 24 1 fun _ => KS ?_
 refine Oq Vlss (KS ?_)
 refine Kc ?_ ?_
 ·intro h46
  have g47 := dt h46
  obtain ⟨r48, rfl⟩ := scc (n := r30) aM1
  refine KS ?_
  refine Oq (Vi sl24 1) ?_
  refine JJ_peekL v29_33.toNat 1 rfl rng fun a49 k50 => ?_
  refine Fb 8 1 fun _ => Fo 1 fun ho52 => ?_
  refine Oq (Vld sh22 0) (Oq Va (KS ?_))
  refine Oq Vm (Oq Va (KS ?_))
  refine Oq Vm (Oq (Vlen sl22) (Oq Vm (KS ?_)))
  refine Kl (γ := Nat × List Cpx × Cpx × Int) (fun (r53, at__54, p_55, v36_56) => ⟨[(7, vl a34 k35 at__31), (8, cxv start_32), (27, vl a27 k28 rv24), (28, vi (rv24.length : Int)), (29, vi v29_33), (11, cxv p_55), (34, vl a49 k50 (rv24.getD v29_33.toNat [])), (35, vi ((rv24.getD v29_33.toNat []).length : Int)), (36, vi v36_56)], [S a49 k50 ((rv24.getD v29_33.toNat []) : List Int), os (vl a34 k35 at__31) at__54, S a27 k28 rv24], layout_Place_L1 (rv24.getD v29_33.toNat []) r53 at__54 p_55 v36_56 = layout_Place_L1 (rv24.getD v29_33.toNat []) (((((rv24.getD v29_33.toNat []).length : Int) : Int) - 0).toNat) at__31 start_32 0 ∧ r53 = ((((rv24.getD v29_33.toNat []).length : Int) : Int) - v36_56).toNat ∧ (0 : Int) ≤ v36_56 ∧ (v36_56 ≤ ((rv24.getD v29_33.toNat []).length : Int) ∨ v36_56 = 0) ∧ (-9223372036854775808 ≤ v36_56 ∧ v36_56 ≤ 9223372036854775807) ∧ (at__54.length = g.Nodes.length) ∧ (∀ y ∈ at__54, WB y) ∧ (WQ p_55 v36_56 v29_33), r53⟩) (((((rv24.getD v29_33.toNat []).length : Int) : Int) - 0).toNat, at__31, start_32, 0) [1, 2, 2] ⟨rfl, rfl, aM1, (.inr rfl), aM1, iv0, (by assumption), (by assumption)⟩ ?_
  rintro ⟨r53, at__54, p_55, v36_56⟩ ⟨hM57, hr58, hi59, hi60, hk61, hv62, hv63, hv64⟩
  refine JJ_nx fun _ _ hL hA => ?_; dsimp only at hL hA; subst hL hA
  refine Fb 8 0 fun _ => Fo 0 fun ho66 => Fb 16 1 fun _ => Fl 1 fun hn68 => ?_
  refine Fb 24 2 fun _ => KS ?_
  refine Oq Vlss (KS ?_)
  refine Kc ?_ ?_
  ·intro h70
   have g71 := dt h70
   have hrg := RW_get (i := v29_33.toNat) (k := v36_56.toNat) hrw aM1 aM1
   obtain ⟨r72, rfl⟩ := scc (n := r53) aM1
   refine KS ?_
   refine Oq (Vi sl22 0) ?_
   have hb73 := ok1 (i := v36_56.toNat) ho66 rng
   refine Oq (VldI sh3 0) (Oq Va (KS ?_))
   refine Oq Vm (Oq Vm (Oq Vm (Oq (Vi sl41 1) (Ost (SoCx [1] sh58) (KS ?_)))))
   refine Oq Vm ?_
   refine Oq (VaddC (a := p_55) (b := (Cpx.mk 4607182418800017408#64 0#64)) (h := (by first | (unfold i64ok; omega) | exact (WQ_inc (by assumption) aM1 aM1).1 | exact (WQ_dn (by assumption) aM1 aM1).1))) (Oq Va (KS ?_))
   refine Oq (Vadd (h := (by first | (unfold i64ok; omega) | exact (WQ_inc (by assumption) aM1 aM1).1 | exact (WQ_dn (by assumption) aM1 aM1).1))) (Oq Vm (KS ?_))
   exact Kg (r72, (at__54.set (((rv24.getD v29_33.toNat []).getD v36_56.toNat 0) : Int).toNat p_55), (cadd p_55 (Cpx.mk 4607182418800017408#64 0#64)), (v36_56 + 1)) [1, 0, 1] ⟨(q3 hM57 (by simp only [layout_Place_L1, h70, cs4])), aM1, aM1, aM1, aM1, iv1, (WB_set (by assumption) (by assumption) aM1 aM1), (WQ_inc (by assumption) aM1 aM1).2⟩
  intro h70
  have g74 := df h70
  obtain rfl : r53 = 0 := by omega
  refine Ke ?_
  have hR75 := q2 hM57 at__54 (by simp only [layout_Place_L1, h70, cs4])
  refine KS ?_
  refine Oq Vm ?_
  refine Oq (VaddC (a := start_32) (b := (Cpx.mk 0#64 4607182418800017408#64)) (h := (by first | (unfold i64ok; omega) | exact (WQ_inc (by assumption) aM1 aM1).1 | exact (WQ_dn (by assumption) aM1 aM1).1))) (Oq Va (KS ?_))
  refine Oq (Vadd (h := (by first | (unfold i64ok; omega) | exact (WQ_inc (by assumption) aM1 aM1).1 | exact (WQ_dn (by assumption) aM1 aM1).1))) (Oq Vm (KS ?_))
  refine Fl 1 fun hn76 => ?_; (try unfold vl); rw [← hn76]
  exact Kg (r48, at__54, (cadd start_32 (Cpx.mk 0#64 4607182418800017408#64)), (v29_33 + 1), a34, k35) [1, 1] ⟨(q3 hM36 (by simp only [layout_Place_L0, h46, h70, hR75, cs4])), aM1, aM1, aM1, aM1, iv1, (by assumption), (WQ_dn (by assumption) aM1 aM1).2⟩
 intro h46
 have g77 := df h46
 obtain rfl : r30 = 0 := by omega
 refine Ke ?_
 have hR78 := q2 hM36 at__31 (by simp only [layout_Place_L0, h46, cs4])
 refine KS ?_
 refine Oq Vm (Oq Va (Oq Va (KS ?_)))
 refine Jl [0] (Ent.freeze _ _) ?_
 have hq := q4 hrr (at__31, 0) (by simp only [layout_Place, h9, h46, hg6, hg17, hg25, hR78, cs4]); subst hq
 exact Kr (vl a34 k35 at__31) rfl (.tmp rfl (.tmp rfl .nil)) [0] ⟨en, (by first | assumption | (intro y hy; cases hy)), (by first | exact Nat.zero_le _ | (dsimp only; omega))⟩
theorem fn11 (g : GGraph) (ga0 : Option Addr) (gk0 : Nat) (ga1 : Option Addr) (gk1 : Nat) (ga2 : Option Addr) (gk2 : Nat) (root : Int) (hroot_0 : i64ok root) (hn0 : g.Nodes.length ≤ 12) (rr : List Int × Int) (hrr : layout_Levels g root = rr) : FT Tryz.prog 11 #[.agg #[vl ga0 gk0 g.Nodes, vl ga1 gk1 g.Succ, vl ga2 gk2 g.Pred], vi root] [S ga0 gk0 g.Nodes, S ga1 gk1 g.Succ, S ga2 gk2 g.Pred] (fun g : Value => i64ok rr.2 ∧ (LB rr.1)) (fun g => .tuple #[g, vi rr.2]) (fun g => [sl g rr.1]) := by
 refine FTi Tryz.func11 fun w0 M0 F0 => ?_
 unfold i64ok at hroot_0
 refine Fb 32 0 fun _ => Fb 24 1 fun _ => Fb 24 2 fun _ => KS ?_
 refine Oa (Ab [vl ga0 gk0 g.Nodes, vl ga1 gk1 g.Succ, vl ga2 gk2 g.Pred]) fun p4 => Oq Va (Oq Va (KS ?_))
 refine Oq (VldA sh26 0) (Oq Vm ?_)
 refine letv (layout_Place g root) fun rv6 hg7 => ?_
 have hc8 := fn13 g ga0 gk0 ga1 gk1 ga2 gk2 root pre hn0 rv6 hg7
 refine Oc [1, 2, 3] ca13 hc8 ?_
 rintro c5 ⟨he9, he10, he11⟩
 unfold i64ok at he9
 refine Jo 0 ?_; rintro a12 k13 rfl
 refine Fb 16 0 fun _ => ?_
 refine Oq Vm (Oq Vx (Oq Vx (Oq Va (Oq Va (KS ?_)))))
 refine Oq Vm (Oq Vneq (KS ?_))
 refine Kc ?_ ?_
 ·intro h15
  have g16 := ne_of_bne h15
  refine KS ?_
  refine Oq Vm (Oq Va (Oq Va (KS ?_)))
  refine Jl [] (Ent.slNil (α := Int)) ?_
  have hq := q4 hrr (([] : List Int), rv6.2) (by simp only [layout_Levels, h15, hg7, cs4]); subst hq
  exact Kr (.slice none 0 0) rfl (.tmp rfl (.tmp rfl .nil)) [0] ⟨en, (by first | assumption | exact LB_nil)⟩
 intro h15
 have g17 := eq_of_bne_false h15
 refine KS ?_
 refine Oq Va (KS ?_)
 refine Oq Vm (Oq (Vlen sl41) (Oq Vm (KS ?_)))
 refine Jl [] (Ent.osNil (α := Int)) ?_
 refine Kl (γ := Nat × List Int × Int × Option Addr × Nat) (fun (r18, l_19, v22_20, a21, k22) => ⟨[(8, vl a21 k22 l_19), (20, vl a12 k13 rv6.1), (21, vi (rv6.1.length : Int)), (22, vi v22_20)], [O a21 k22 l_19, S a12 k13 rv6.1], layout_Levels_L0 rv6.1 r18 l_19 v22_20 = layout_Levels_L0 rv6.1 (((rv6.1.length : Int) - 0).toNat) [] 0 ∧ r18 = ((rv6.1.length : Int) - v22_20).toNat ∧ (0 : Int) ≤ v22_20 ∧ v22_20 ≤ (rv6.1.length : Int) ∧ (-9223372036854775808 ≤ v22_20 ∧ v22_20 ≤ 9223372036854775807) ∧ (LB l_19) ∧ ((l_19.length : Int) = v22_20), r18⟩) (((rv6.1.length : Int) - 0).toNat, [], 0, none, 0) [0, 0] ⟨rfl, rfl, aM1, aM1, aM1, LB_nil, iv0⟩ ?_
 rintro ⟨r18, l_19, v22_20, a21, k22⟩ ⟨hM23, hr24, hi25, hi26, hk27, hv28, hv29⟩
 refine JJ_nx fun _ _ hL hA => ?_; dsimp only at hL hA; subst hL hA
 refine Fb 8 0 fun _ => Fo 0 fun ho31 => Fb 16 1 fun _ => KS ?_
 refine Oq Vlss (KS ?_)
 refine Kc ?_ ?_
 ·intro h33
  have g34 := dt h33
  obtain ⟨r35, rfl⟩ := scc (n := r18) aM1
  refine KS ?_
  refine Oq (Vi sl41 1) (Oq (VldCx sh58 1) (Oq Va (KS ?_)))
  refine Oq Vm (Oq (VeqC (a := (rv6.1.getD v22_20.toNat default)) (b := (Cpx.mk 13830554455654793216#64 0#64))) (KS ?_))
  refine Kc ?_ ?_
  ·intro h36
   refine KS ?_
   refine Oq Vm (Oa (AsV sl22 sz22 [vi (-1)] [vi (-1)]) fun c38 => ?_)
   refine Jo 0 ?_; rintro a39 k40 rfl
   refine Jl [0] (Ent.crInt _ [-1] _ _ rfl rfl (by intro x hx; rw [List.mem_singleton] at hx; subst hx; unfold i64ok; omega) aB1) ?_
   refine Oa (ApO [1, 0] sl22 sl22 sz22) fun c41 => ?_
   refine Jo 0 ?_; rintro a42 k43 rfl
   refine Fb 8 0 fun _ => Fo 0 fun ho45 => ?_
   have hn46 := la l_19 ([-1] : List Int)
   refine Oq Va (KS ?_)
   refine Oq Vadd (Oq Vm (KS ?_))
   exact Kg (r35, (l_19 ++ [-1]), (v22_20 + 1), a42, k43) [0, 0] ⟨(q3 hM23 (by simp only [layout_Levels_L0, h33, h36, cs4])), aM1, aM1, aM1, aM1, (by first | exact LB_app (by assumption) aM1 | exact LB_app (by assumption) (WB_toB (by assumption) rng)), iv1⟩
  intro h36
  refine KS ?_
  refine Oq Vm (Oq Vm (Oq (Vim (a := (rv6.1.getD v22_20.toNat default))) (Oq (VcFI (a := (Flo.mk (rv6.1.getD v22_20.toNat default).im)) un60 un3 (h := (WB_toI (by assumption) rng))) ?_)))
  have hb48 := ftoI_ok (Flo.mk (rv6.1.getD v22_20.toNat default).im) (WB_toI (by assumption) rng)
  refine Oa (AsV sl22 sz22 [vi (ftoI (Flo.mk (rv6.1.getD v22_20.toNat default).im))] [vi (ftoI (Flo.mk (rv6.1.getD v22_20.toNat default).im))]) fun c49 => ?_
  refine Jo 0 ?_; rintro a50 k51 rfl
  refine Jl [0] (Ent.crInt _ [(ftoI (Flo.mk (rv6.1.getD v22_20.toNat default).im))] _ _ rfl rfl (by intro x hx; rw [List.mem_singleton] at hx; subst hx; unfold i64ok; omega) aB1) ?_
  refine Oa (ApO [1, 0] sl22 sl22 sz22) fun c52 => ?_
  refine Jo 0 ?_; rintro a53 k54 rfl
  refine Fb 8 0 fun _ => Fo 0 fun ho56 => ?_
  have hn57 := la l_19 ([(ftoI (Flo.mk (rv6.1.getD v22_20.toNat default).im))] : List Int)
  refine Oq Va (KS ?_)
  refine Oq Vadd (Oq Vm (KS ?_))
  exact Kg (r35, (l_19 ++ [(ftoI (Flo.mk (rv6.1.getD v22_20.toNat default).im))]), (v22_20 + 1), a53, k54) [0, 0] ⟨(q3 hM23 (by simp only [layout_Levels_L0, h33, h36, cs4])), aM1, aM1, aM1, aM1, (by first | exact LB_app (by assumption) aM1 | exact LB_app (by assumption) (WB_toB (by assumption) rng)), iv1⟩
 intro h33
 have g58 := df h33
 obtain rfl : r18 = 0 := by omega
 refine Ke ?_
 have hR59 := q2 hM23 l_19 (by simp only [layout_Levels_L0, h33, cs4])
 refine KS ?_
 refine Oq Vm (Oq Va (Oq Va (KS ?_)))
 refine Jl [0] (Ent.freeze _ _) ?_
 have hq := q4 hrr (l_19, 0) (by simp only [layout_Levels, h15, h33, hg7, hR59, cs4]); subst hq
 exact Kr (vl a21 k22 l_19) rfl (.tmp rfl (.tmp rfl .nil)) [0] ⟨en, (by first | assumption | exact LB_nil)⟩
theorem fn39 (l : List (List Int)) (la0 : Option Addr) (lk0 : Nat) (limit : Int) (hlimit_0 : i64ok limit) (hlim : limit = 1024) (rr : Int) (hrr : r7_total l limit = rr) : FT Tryz.prog 39 #[vl la0 lk0 l, vi limit] [S la0 lk0 l] (fun g : Unit => i64ok rr ∧ (0 ≤ rr ∧ rr ≤ 2049)) (fun g => vi rr) (fun g => []) := by
 refine FTi Tryz.func39 fun w0 M0 F0 => ?_
 unfold i64ok at hlimit_0
 refine Fb 24 0 fun _ => KS ?_
 refine Oq Va (KS ?_)
 refine Oq Va (KS ?_)
 refine Oq Va (KS ?_)
 refine Kl (γ := Nat × Int × Int) (fun (r2, n_3, i_4) => ⟨[(0, vl la0 lk0 l), (1, vi limit), (5, vi n_3), (6, vi i_4)], [S la0 lk0 l], r7_total_L0 l limit r2 n_3 i_4 = r7_total_L0 l limit (((l.length : Int) - 0).toNat) 0 0 ∧ r2 = ((l.length : Int) - i_4).toNat ∧ (0 : Int) ≤ i_4 ∧ i_4 ≤ (l.length : Int) ∧ (-9223372036854775808 ≤ n_3 ∧ n_3 ≤ 9223372036854775807) ∧ (-9223372036854775808 ≤ i_4 ∧ i_4 ≤ 9223372036854775807) ∧ (0 ≤ n_3 ∧ n_3 ≤ 2049), r2⟩) (((l.length : Int) - 0).toNat, 0, 0) [0] ⟨rfl, rfl, aM1, aM1, aM1, aM1, iv0⟩ ?_
 rintro ⟨r2, n_3, i_4⟩ ⟨hM5, hr6, hi7, hi8, hk9, hk10, hv11⟩
 refine JJ_nx fun _ _ hL hA => ?_; dsimp only at hL hA; subst hL hA
 refine Fb 24 0 fun _ => KS ?_
 refine Oq Vm (Oq Vm (Oq (Vlen sl24) (Oq Vlss (Oq Vm ?_))))
 refine Js 11 ?_ ?_
 ·intro h13
  have g14 := dt h13
  obtain ⟨r15, rfl⟩ := scc (n := r2) aM1
  refine Oq Vm (Oq Vm (Oq Vleq (Oq Vpt (KS ?_))))
  refine Kc ?_ ?_
  ·intro h16
   have g17 := dt h16
   refine KS ?_
   refine Oq Vm (Oq Vm (Oq Vm (Oq (Vi sl24 0) ?_)))
   refine JJ_peekL i_4.toNat 0 rfl rng fun a18 k19 => ?_
   refine Fb 8 1 fun _ => Fo 1 fun ho21 => ?_
   refine Oq (Vld sh22 0) (Oq (Vlen sl22) (Oq Vm (Oq Vadd (Oq Vmin (Oq Vadd (Oq Va (KS ?_)))))))
   refine Oq Vm (Oq Vadd (Oq Va (KS ?_)))
   exact Kg (r15, (n_3 + (min ((l.getD i_4.toNat []).length : Int) (limit + 1))), (i_4 + 1)) [2] ⟨(q3 hM5 (by simp only [r7_total_L0, h13, h16, cs4])), aM1, aM1, aM1, aM1, aM1, iv1⟩
  intro h16
  have g22 := df h16
  refine Ke ?_
  have hR23 := q2 hM5 n_3 (by simp only [r7_total_L0, h13, h16, cs4])
  refine KS ?_
  refine Oq Vm (Oq Va (KS ?_))
  have hq := q4 hrr n_3 (by simp only [r7_total, h13, h16, hR23, cs4]); subst hq
  exact Kr () rfl (.tmp rfl .nil) [] en
 intro h13
 have g24 := df h13
 obtain rfl : r2 = 0 := by omega
 refine Osk (Osk (Osk (Oq Vpf (KS ?_))))
 refine Kf ?_
 refine Ke ?_
 have hR25 := q2 hM5 n_3 (by simp only [r7_total_L0, h13, cs4])
 refine KS ?_
 refine Oq Vm (Oq Va (KS ?_))
 have hq := q4 hrr n_3 (by simp only [r7_total, h13, hR25, cs4]); subst hq
 exact Kr () rfl (.tmp rfl .nil) [] en
theorem fn40 (l : List Int) (la0 : Option Addr) (lk0 : Nat) (n : Int) (hn_0 : i64ok n) (rr : Bool) (hrr : r7_Rising l n = rr) : FT Tryz.prog 40 #[vl la0 lk0 l, vi n] [S la0 lk0 l] (fun g : Unit => True) (fun g => vb rr) (fun g => []) := by
 refine FTi Tryz.func40 fun w0 M0 F0 => ?_
 unfold i64ok at hn_0
 refine Fb 8 0 fun _ => Fo 0 fun ho2 => KS ?_
 refine Oq Va (KS ?_)
 refine Oq Va (KS ?_)
 refine Kl (γ := Nat × Int) (fun (r3, i_4) => ⟨[(0, vl la0 lk0 l), (1, vi n), (5, vi i_4)], [S la0 lk0 l], r7_Rising_L0 l n r3 i_4 = r7_Rising_L0 l n (((l.length : Int) - 0).toNat) 0 ∧ r3 = ((l.length : Int) - i_4).toNat ∧ (0 : Int) ≤ i_4 ∧ i_4 ≤ (l.length : Int) ∧ (-9223372036854775808 ≤ i_4 ∧ i_4 ≤ 9223372036854775807), r3⟩) (((l.length : Int) - 0).toNat, 0) [0] ⟨rfl, rfl, aM1, aM1, aM1⟩ ?_
 rintro ⟨r3, i_4⟩ ⟨hM5, hr6, hi7, hi8, hk9⟩
 refine JJ_nx fun _ _ hL hA => ?_; dsimp only at hL hA; subst hL hA
 refine Fb 8 0 fun _ => Fo 0 fun ho11 => KS ?_
 refine Oq Vm (Oq Vm (Oq (Vlen sl22) (Oq Vlss (KS ?_))))
 refine Kc ?_ ?_
 ·intro h12
  have g13 := dt h12
  obtain ⟨r14, rfl⟩ := scc (n := r3) aM1
  refine KS ?_
  refine Kq [0, 0, 3, 7, 15, 31, 63, 63, 255, 511, 63, 2047, 4095, 8191, 16383, 32767, 65535, 131071, 131071, 393215, 1048575, 2097151, 131071, 131071, 12713983, 29491199, 67108863, 134217727, 268435455] fmix ?_
  refine Qv [] Vm (Qv [] Vm (Qv [0] (Vi sl22 0) ?_))
  have hb15 := ok1 (i := i_4.toNat) ho11 rng
  refine Qv [0] (VldI sh3 0) (Qv [] Vlss ?_)
  refine bool_split (decide ((l.getD i_4.toNat 0) < 0)) ?_ ?_
  ·intro h16
   have g17 := dt h16
   refine Qb h16 [] Vm (Qs (Qs (Qs (Qs (Qs (Qs (Qv [] Vpt (Qv [] Vm (Qs ?_)))))))))
   refine Qs (Qs (Qs (Qs (Qs (Qs (Qs (Qs (Qs (Qs ?_)))))))))
   refine Qs (Qs (Qs (Qv [] Vpt ?_)))
   refine Qn ⟨by kernel_rfl, ?_⟩
   refine Kt (KS ?_)
   refine Oq Va (KS ?_)
   have hR18 := q2 hM5 (.ret false) (by simp only [r7_Rising_L0, h12, h16, cs4])
   have hq := q4 hrr false (by simp only [r7_Rising, h12, h16, hR18, cs4]); subst hq
   exact Kr () rfl (.tmp rfl .nil) [] trivial
  intro h16
  have g19 := df h16
  refine Qb h16 [] Vm (Qv [] Vm (Qv [] Vm (Qv [0] (Vi sl22 0) ?_)))
  have hb20 := ok1 (i := i_4.toNat) ho11 rng
  refine Qv [0] (VldI sh3 0) (Qv [] Vm (Qv [] Vgeq (Qv [] Vpf ?_)))
  refine bool_split (decide (n ≤ (l.getD i_4.toNat 0))) ?_ ?_
  ·intro h21
   have g22 := dt h21
   refine Qb h21 [] Vm (Qs (Qs (Qs (Qs (Qs (Qs (Qs (Qs (Qs ?_)))))))))
   refine Qs (Qs (Qs (Qs (Qs (Qv [] Vpt ?_)))))
   refine Qn ⟨by kernel_rfl, ?_⟩
   refine Kt (KS ?_)
   refine Oq Va (KS ?_)
   have hR23 := q2 hM5 (.ret false) (by simp only [r7_Rising_L0, h12, h16, h21, cs4])
   have hq := q4 hrr false (by simp only [r7_Rising, h12, h16, h21, hR23, cs4]); subst hq
   exact Kr () rfl (.tmp rfl .nil) [] trivial
  intro h21
  have g24 := df h21
  refine Qb h21 [] Vm (Qv [] Vm (Qv [] Vgtr ?_))
  refine bool_split (decide (0 < i_4)) ?_ ?_
  ·intro h25
   have g26 := dt h25
   refine Qb h25 [] Vm (Qv [] Vm (Qv [] Vm (Qv [] Vsub (Qv [0] (Vi sl22 0) ?_))))
   have hb27 := ok1 (i := ((i_4 - 1) : Int).toNat) ho11 rng
   refine Qv [0] (VldI sh3 0) (Qv [] Vm (Qv [] Vm (Qv [0] (Vi sl22 0) ?_)))
   have hb28 := ok1 (i := i_4.toNat) ho11 rng
   refine Qv [0] (VldI sh3 0) (Qv [] Vgeq (Qv [] Vpt (Qv [] Vpf ?_)))
   refine Qn ⟨by kernel_rfl, ?_⟩
   refine Kc ?_ ?_
   ·intro h29
    have g30 := dt h29
    refine KS ?_
    refine Oq Va (KS ?_)
    have hR31 := q2 hM5 (.ret false) (by simp only [r7_Rising_L0, h12, h16, h21, h25, h29, cs4])
    have hq := q4 hrr false (by simp only [r7_Rising, h12, h16, h21, h25, h29, hR31, cs4]); subst hq
    exact Kr () rfl (.tmp rfl .nil) [] trivial
   intro h29
   have g32 := df h29
   refine KS ?_
   refine Oq Vm (Oq Vadd (Oq Va (KS ?_)))
   exact Kg (r14, (i_4 + 1)) [0] ⟨(q3 hM5 (by simp only [r7_Rising_L0, h12, h16, h21, h25, h29, cs4])), aM1, aM1, aM1, aM1⟩
  intro h25
  have g33 := df h25
  refine Qb h25 [] Vm (Qs (Qs (Qs (Qs (Qs (Qs (Qs (Qs (Qs ?_)))))))))
  refine Qs (Qv [] Vpf (Qv [] Vpf ?_))
  refine Qn ⟨by kernel_rfl, ?_⟩
  refine Kf (KS ?_)
  refine Oq Vm (Oq Vadd (Oq Va (KS ?_)))
  exact Kg (r14, (i_4 + 1)) [0] ⟨(q3 hM5 (by simp only [r7_Rising_L0, h12, h16, h21, h25, cs4])), aM1, aM1, aM1, aM1⟩
 intro h12
 have g34 := df h12
 obtain rfl : r3 = 0 := by omega
 refine Ke ?_
 have hR35 := q2 hM5 (.brk ()) (by simp only [r7_Rising_L0, h12, cs4])
 refine KS ?_
 refine Oq Va (KS ?_)
 have hq := q4 hrr true (by simp only [r7_Rising, h12, hR35, cs4]); subst hq
 exact Kr () rfl (.tmp rfl .nil) [] trivial
theorem fn41 (l : List Int) (la0 : Option Addr) (lk0 : Nat) (n : Int) (hn_0 : i64ok n) (rr : Bool) (hrr : r7_Has l n = rr) : FT Tryz.prog 41 #[vl la0 lk0 l, vi n] [S la0 lk0 l] (fun g : Unit => True) (fun g => vb rr) (fun g => []) := by
 refine FTi Tryz.func41 fun w0 M0 F0 => ?_
 unfold i64ok at hn_0
 refine Fb 8 0 fun _ => Fo 0 fun ho2 => KS ?_
 refine Oq Va (KS ?_)
 refine Oq Va (KS ?_)
 refine Kl (γ := Nat × Int) (fun (r3, i_4) => ⟨[(0, vl la0 lk0 l), (1, vi n), (5, vi i_4)], [S la0 lk0 l], r7_Has_L0 l n r3 i_4 = r7_Has_L0 l n (((l.length : Int) - 0).toNat) 0 ∧ r3 = ((l.length : Int) - i_4).toNat ∧ (0 : Int) ≤ i_4 ∧ i_4 ≤ (l.length : Int) ∧ (-9223372036854775808 ≤ i_4 ∧ i_4 ≤ 9223372036854775807), r3⟩) (((l.length : Int) - 0).toNat, 0) [0] ⟨rfl, rfl, aM1, aM1, aM1⟩ ?_
 rintro ⟨r3, i_4⟩ ⟨hM5, hr6, hi7, hi8, hk9⟩
 refine JJ_nx fun _ _ hL hA => ?_; dsimp only at hL hA; subst hL hA
 refine Fb 8 0 fun _ => Fo 0 fun ho11 => KS ?_
 refine Oq Vm (Oq Vm (Oq (Vlen sl22) (Oq Vlss (KS ?_))))
 refine Kc ?_ ?_
 ·intro h12
  have g13 := dt h12
  obtain ⟨r14, rfl⟩ := scc (n := r3) aM1
  refine KS ?_
  refine Oq Vm (Oq Vm (Oq (Vi sl22 0) ?_))
  have hb15 := ok1 (i := i_4.toNat) ho11 rng
  refine Oq (VldI sh3 0) (Oq Vm (Oq Veql (KS ?_)))
  refine Kc ?_ ?_
  ·intro h16
   have g17 := eq_of_beq h16
   refine KS ?_
   refine Oq Va (KS ?_)
   have hR18 := q2 hM5 (.ret true) (by simp only [r7_Has_L0, h12, h16, cs4])
   have hq := q4 hrr true (by simp only [r7_Has, h12, h16, hR18, cs4]); subst hq
   exact Kr () rfl (.tmp rfl .nil) [] trivial
  intro h16
  have g19 := ne_of_beq_false h16
  refine KS ?_
  refine Oq Vm (Oq Vadd (Oq Va (KS ?_)))
  exact Kg (r14, (i_4 + 1)) [0] ⟨(q3 hM5 (by simp only [r7_Has_L0, h12, h16, cs4])), aM1, aM1, aM1, aM1⟩
 intro h12
 have g20 := df h12
 obtain rfl : r3 = 0 := by omega
 refine Ke ?_
 have hR21 := q2 hM5 (.brk ()) (by simp only [r7_Has_L0, h12, cs4])
 refine KS ?_
 refine Oq Va (KS ?_)
 have hq := q4 hrr false (by simp only [r7_Has, h12, hR21, cs4]); subst hq
 exact Kr () rfl (.tmp rfl .nil) [] trivial
theorem fn25 (g : GGraph) (ga0 : Option Addr) (gk0 : Nat) (ga1 : Option Addr) (gk1 : Nat) (ga2 : Option Addr) (gk2 : Nat) (rr : Bool) (hrr : r7_ValidGraph g = rr) : FT Tryz.prog 25 #[.agg #[vl ga0 gk0 g.Nodes, vl ga1 gk1 g.Succ, vl ga2 gk2 g.Pred]] [S ga0 gk0 g.Nodes, S ga1 gk1 g.Succ, S ga2 gk2 g.Pred] (fun g : Unit => True) (fun g => vb rr) (fun g => []) := by
 refine FTi Tryz.func25 fun w0 M0 F0 => Fb 32 0 fun _ => Fb 24 1 fun _ => Fb 24 2 fun _ => ?_
 refine KS ?_
 refine Oa (Ab [vl ga0 gk0 g.Nodes, vl ga1 gk1 g.Succ, vl ga2 gk2 g.Pred]) fun p4 => Oq Va (KS ?_)
 refine Oq (Vfa fo26_0 0) (Oq (VldF sh23 0) (Oq (Vlen sl23) (Oq Va (KS ?_))))
 refine Oq Vm (Oq Vlss (Oq Vm ?_))
 refine Js 13 ?_ ?_
 ·intro h5
  have g6 := dt h5
  refine Osk (Osk (Oq Vpt (Oq Vm (Osk (Osk (Osk (Osk (Osk (Oq Vpt ?_)))))))))
  refine Oq Vm (Osk (Osk (Osk (Osk (Osk (Oq Vpt (Oq Vm (Osk (Osk ?_)))))))))
  refine Osk (Osk (Oq Vpt (Oq Vm (Osk (Osk (Osk (Osk (Oq Vpt (KS ?_)))))))))
  refine Kt (KS ?_)
  refine Oq Va (KS ?_)
  have hq := q4 hrr false (by simp only [r7_ValidGraph, h5, cs4]); subst hq
  exact Kr () rfl (.tmp rfl .nil) [] trivial
 intro h5
 have g7 := df h5
 refine Oq Vm (Oq Vgtr (Oq Vpf (Oq Vm ?_)))
 refine Js 17 ?_ ?_
 ·intro h8
  have g9 := dt h8
  refine Osk (Osk (Osk (Osk (Osk (Oq Vpt (Oq Vm (Osk (Osk (Osk ?_)))))))))
  refine Osk (Osk (Oq Vpt (Oq Vm (Osk (Osk (Osk (Osk (Oq Vpt (Oq Vm ?_)))))))))
  refine Osk (Osk (Osk (Osk (Oq Vpt (KS ?_)))))
  refine Kt (KS ?_)
  refine Oq Va (KS ?_)
  have hq := q4 hrr false (by simp only [r7_ValidGraph, h5, h8, cs4]); subst hq
  exact Kr () rfl (.tmp rfl .nil) [] trivial
 intro h8
 have g10 := df h8
 refine Oq (Vfa fo26_1 0) (Oq (VldF sh24 0) (Oq (Vlen sl24) (Oq Vm (Oq Vneq (Oq Vpf (Oq Vm ?_))))))
 refine Js 24 ?_ ?_
 ·intro h11
  have g12 := ne_of_bne h11
  refine Osk (Osk (Osk (Osk (Osk (Oq Vpt (Oq Vm (Osk (Osk (Osk ?_)))))))))
  refine Osk (Oq Vpt (Oq Vm (Osk (Osk (Osk (Osk (Oq Vpt (KS ?_))))))))
  refine Kt (KS ?_)
  refine Oq Va (KS ?_)
  have hq := q4 hrr false (by simp only [r7_ValidGraph, h5, h8, h11, cs4]); subst hq
  exact Kr () rfl (.tmp rfl .nil) [] trivial
 intro h11
 have g13 := eq_of_bne_false h11
 refine Oq (Vfa fo26_2 0) (Oq (VldF sh24 0) (Oq (Vlen sl24) (Oq Vm (Oq Vneq (Oq Vpf (Oq Vm ?_))))))
 refine Js 31 ?_ ?_
 ·intro h14
  have g15 := ne_of_bne h14
  refine Osk (Osk (Osk (Osk (Oq Vpt (Oq Vm (Osk (Osk (Osk (Osk ?_)))))))))
  refine Oq Vpt (KS ?_)
  refine Kt (KS ?_)
  refine Oq Va (KS ?_)
  have hq := q4 hrr false (by simp only [r7_ValidGraph, h5, h8, h11, h14, cs4]); subst hq
  exact Kr () rfl (.tmp rfl .nil) [] trivial
 intro h14
 have g16 := eq_of_bne_false h14
 refine Oq (Vfa fo26_1 0) (Oq (VldF sh24 0) ?_)
 refine letv (r7_total g.Succ 1024) fun rv17 hg18 => ?_
 have hc19 := fn39 g.Succ ga1 gk1 1024 pre pre rv17 hg18
 refine Oc [2] ca39 hc19 ?_
 rintro - ⟨he20, he21⟩
 unfold i64ok at he20
 refine Oq Vgtr (Oq Vpf (Oq Vm ?_))
 refine Js 37 ?_ ?_
 ·intro h22
  have g23 := dt h22
  refine Osk (Osk (Osk (Osk (Oq Vpt (KS ?_)))))
  refine Kt (KS ?_)
  refine Oq Va (KS ?_)
  have hq := q4 hrr false (by simp only [r7_ValidGraph, h5, h8, h11, h14, h22, hg18, cs4]); subst hq
  exact Kr () rfl (.tmp rfl .nil) [] trivial
 intro h22
 have g24 := df h22
 refine Oq (Vfa fo26_2 0) (Oq (VldF sh24 0) ?_)
 refine letv (r7_total g.Pred 1024) fun rv25 hg26 => ?_
 have hc27 := fn39 g.Pred ga2 gk2 1024 pre pre rv25 hg26
 refine Oc [3] ca39 hc27 ?_
 rintro - ⟨he28, he29⟩
 unfold i64ok at he28
 refine Oq Vgtr (Oq Vpf (KS ?_))
 refine Kc ?_ ?_
 ·intro h30
  have g31 := dt h30
  refine KS ?_
  refine Oq Va (KS ?_)
  have hq := q4 hrr false (by simp only [r7_ValidGraph, h5, h8, h11, h14, h22, h30, hg18, hg26, cs4]); subst hq
  exact Kr () rfl (.tmp rfl .nil) [] trivial
 intro h30
 have g32 := df h30
 refine KS ?_
 refine Oq Va (KS ?_)
 refine Kl (γ := Nat × Int) (fun (r33, i_34) => ⟨[(1, p4), (3, vi (g.Nodes.length : Int)), (4, vi i_34)], [pv p4 [vl ga0 gk0 g.Nodes, vl ga1 gk1 g.Succ, vl ga2 gk2 g.Pred], S ga0 gk0 g.Nodes, S ga1 gk1 g.Succ, S ga2 gk2 g.Pred], r7_ValidGraph_L0 g r33 i_34 = r7_ValidGraph_L0 g (((g.Nodes.length : Int) - 0).toNat) 0 ∧ r33 = ((g.Nodes.length : Int) - i_34).toNat ∧ (0 : Int) ≤ i_34 ∧ i_34 ≤ (g.Nodes.length : Int) ∧ (-9223372036854775808 ≤ i_34 ∧ i_34 ≤ 9223372036854775807), r33⟩) (((g.Nodes.length : Int) - 0).toNat, 0) [0, 1, 2, 3] ⟨rfl, rfl, aM1, aM1, aM1⟩ ?_
 rintro ⟨r33, i_34⟩ ⟨hM35, hr36, hi37, hi38, hk39⟩
 refine JJ_nx fun _ _ hL hA => ?_; dsimp only at hL hA; subst hL hA
 refine Fb 32 1 fun _ => Fb 24 2 fun _ => Fb 24 3 fun _ => KS ?_
 refine Oq Vm (Oq Vm (Oq Vlss (KS ?_)))
 refine Kc ?_ ?_
 ·intro h43
  have g44 := dt h43
  obtain ⟨r45, rfl⟩ := scc (n := r33) aM1
  refine KS ?_
  refine Oq (Vfa fo26_1 0) (Oq (VldF sh24 0) (Oq Vm (Oq (Vi sl24 2) ?_)))
  refine JJ_peekL i_34.toNat 2 rfl rng fun a46 k47 => ?_
  refine Fb 8 1 fun _ => Fo 1 fun ho49 => ?_
  refine Oq (Vld sh22 0) (Oq Vm ?_)
  refine letv (r7_Rising (g.Succ.getD i_34.toNat []) (g.Nodes.length : Int)) fun rv50 hg51 => ?_
  have hc52 := fn40 ((g.Succ.getD i_34.toNat [])) a46 k47 ((g.Nodes.length : Int)) pre rv50 hg51
  refine Oc [1] ca40 hc52 ?_
  rintro - -
  refine Oq Vnot (Oq Vm ?_)
  refine Js 56 ?_ ?_
  ·intro h53
   have h55 := not_true h53
   refine Osk (Osk (Osk (Osk (Osk (Osk (Osk (Osk (Oq Vpt (KS ?_)))))))))
   refine Kt (KS ?_)
   refine Oq Va (KS ?_)
   have hR57 := q2 hM35 (.ret false) (by simp only [r7_ValidGraph_L0, h43, h53, h55, hg51, cs4])
   have hq := q4 hrr false (by simp only [r7_ValidGraph, h5, h8, h11, h14, h22, h30, h43, h53, h55, hg18, hg26, hg51, hR57, cs4]); subst hq
   exact Kr () rfl (.tmp rfl .nil) [] trivial
  intro h53
  have h59 := not_false h53
  refine Oq (Vfa fo26_2 2) (Oq (VldF sh24 2) (Oq Vm (Oq (Vi sl24 5) ?_)))
  refine JJ_peekL i_34.toNat 5 rfl rng fun a61 k62 => ?_
  refine Fb 8 1 fun _ => Fo 1 fun ho64 => ?_
  refine Oq (Vld sh22 0) (Oq Vm ?_)
  refine letv (r7_Rising (g.Pred.getD i_34.toNat []) (g.Nodes.length : Int)) fun rv65 hg66 => ?_
  have hc67 := fn40 ((g.Pred.getD i_34.toNat [])) a61 k62 ((g.Nodes.length : Int)) pre rv65 hg66
  refine Oc [1] ca40 hc67 ?_
  rintro - -
  refine Oq Vnot (Oq Vpf (KS ?_))
  refine Kc ?_ ?_
  ·intro h68
   have h70 := not_true h68
   refine KS ?_
   refine Oq Va (KS ?_)
   have hR72 := q2 hM35 (.ret false) (by simp only [r7_ValidGraph_L0, h43, h53, h59, h68, h70, hg51, hg66, cs4])
   have hq := q4 hrr false (by simp only [r7_ValidGraph, h5, h8, h11, h14, h22, h30, h43, h53, h59, h68, h70, hg18, hg26, hg51, hg66, hR72, cs4]); subst hq
   exact Kr () rfl (.tmp rfl .nil) [] trivial
  intro h68
  have h74 := not_false h68
  refine KS ?_
  refine Oq Vm (Oq Vadd (Oq Va (KS ?_)))
  exact Kg (r45, (i_34 + 1)) [4, 5, 6, 7] ⟨(q3 hM35 (by simp only [r7_ValidGraph_L0, h43, h53, h59, h68, h74, hg51, hg66, cs4])), aM1, aM1, aM1, aM1⟩
 intro h43
 have g76 := df h43
 obtain rfl : r33 = 0 := by omega
 refine Ke ?_
 have hR77 := q2 hM35 (.brk ()) (by simp only [r7_ValidGraph_L0, h43, cs4])
 refine KS ?_
 refine Oq Va (KS ?_)
 refine Kl (γ := Nat × Int) (fun (r78, i_79) => ⟨[(1, p4), (3, vi (g.Nodes.length : Int)), (5, vi i_79)], [pv p4 [vl ga0 gk0 g.Nodes, vl ga1 gk1 g.Succ, vl ga2 gk2 g.Pred], S ga0 gk0 g.Nodes, S ga1 gk1 g.Succ, S ga2 gk2 g.Pred], r7_ValidGraph_L1 g r78 i_79 = r7_ValidGraph_L1 g (((g.Nodes.length : Int) - 0).toNat) 0 ∧ r78 = ((g.Nodes.length : Int) - i_79).toNat ∧ (0 : Int) ≤ i_79 ∧ i_79 ≤ (g.Nodes.length : Int) ∧ (-9223372036854775808 ≤ i_79 ∧ i_79 ≤ 9223372036854775807), r78⟩) (((g.Nodes.length : Int) - 0).toNat, 0) [0, 1, 2, 3] ⟨rfl, rfl, aM1, aM1, aM1⟩ ?_
 rintro ⟨r78, i_79⟩ ⟨hM80, hr81, hi82, hi83, hk84⟩
 refine JJ_nx fun _ _ hL hA => ?_; dsimp only at hL hA; subst hL hA
 refine Fb 32 1 fun _ => Fb 24 2 fun _ => Fb 24 3 fun _ => KS ?_
 refine Oq Vm (Oq Vm (Oq Vlss (KS ?_)))
 refine Kc ?_ ?_
 ·intro h88
  have g89 := dt h88
  obtain ⟨r90, rfl⟩ := scc (n := r78) aM1
  refine KS ?_
  refine Oq Va (KS ?_)
  refine Kl (γ := Nat × Int) (fun (r91, k_92) => ⟨[(1, p4), (3, vi (g.Nodes.length : Int)), (5, vi i_79), (6, vi k_92)], [pv p4 [vl ga0 gk0 g.Nodes, vl ga1 gk1 g.Succ, vl ga2 gk2 g.Pred], S ga0 gk0 g.Nodes, S ga1 gk1 g.Succ, S ga2 gk2 g.Pred], r7_ValidGraph_L2 g i_79 r91 k_92 = r7_ValidGraph_L2 g i_79 (((((g.Succ.getD i_79.toNat []).length : Int) : Int) - 0).toNat) 0 ∧ r91 = ((((g.Succ.getD i_79.toNat []).length : Int) : Int) - k_92).toNat ∧ (0 : Int) ≤ k_92 ∧ (k_92 ≤ ((g.Succ.getD i_79.toNat []).length : Int) ∨ k_92 = 0) ∧ (-9223372036854775808 ≤ k_92 ∧ k_92 ≤ 9223372036854775807), r91⟩) (((((g.Succ.getD i_79.toNat []).length : Int) : Int) - 0).toNat, 0) [0, 1, 2, 3] ⟨rfl, rfl, aM1, (.inr rfl), aM1⟩ ?_
  rintro ⟨r91, k_92⟩ ⟨hM93, hr94, hi95, hi96, hk97⟩
  refine JJ_nx fun _ _ hL hA => ?_; dsimp only at hL hA; subst hL hA
  refine Fb 32 1 fun _ => Fb 24 2 fun _ => Fb 24 3 fun _ => KS ?_
  refine Oq Vm (Oq (Vfa fo26_1 0) (Oq (VldF sh24 0) (Oq Vm (Oq (Vi sl24 2) ?_))))
  refine JJ_peekL i_79.toNat 2 rfl rng fun a101 k102 => ?_
  refine Fb 8 1 fun _ => Fo 1 fun ho104 => ?_
  refine Oq (Vld sh22 0) (Oq (Vlen sl22) (Oq Vlss (KS ?_)))
  refine Kc ?_ ?_
  ·intro h105
   have g106 := dt h105
   have hbr := rVs (by assumption) (i := i_79) (k := k_92) aM1 aM1
   obtain ⟨r107, rfl⟩ := scc (n := r91) aM1
   refine KS ?_
   refine JJ_peekL (((g.Succ.getD i_79.toNat []).getD k_92.toNat 0) : Int).toNat 5 rfl rng fun a108 k109 => ?_
   refine Fb 8 1 fun _ => Fo 1 fun ho111 => ?_
   refine JK_drawK [0, 1, 0, 4, 0, 28, 60, 0, 252, 508, 1023, 2047, 0, 8191, 16383] fmix ?_
   refine Dv [4] (Vfa fo26_2 0) (Dv [4] (VldF sh24 0) (Dv [4] (Vfa fo26_1 0) (Dv [4] (VldF sh24 0) (Dv [] Vm (Dv [6] (Vi sl24 0) (Dv [2] (Vld sh22 0) (Dv [] Vm (Dv [3] (Vi sl22 0) ?_))))))))
   have hb112 := ok1 (i := k_92.toNat) ho104 rng
   refine Dv [3] (VldI sh3 0) (Dv [7] (Vi sl24 0) (Dv [0] (Vld sh22 0) (Dv [] Vm ?_)))
   refine letv (r7_Has (g.Pred.getD (((g.Succ.getD i_79.toNat []).getD k_92.toNat 0) : Int).toNat []) i_79) fun rv113 hg114 => ?_
   refine Dx [1] [] [1, 0] (fun G => vb rv113) [fun G => SP.fact (True)] (fun G => xC [0] ca41 (fn41 ((g.Pred.getD (((g.Succ.getD i_79.toNat []).getD k_92.toNat 0) : Int).toNat [])) a108 k109 i_79 pre rv113 hg114)) (Dv [] Vnot ?_)
   refine Dn ⟨by kernel_rfl, fun G => ?_⟩
   refine Jw2 [(1, p4), (3, vi (g.Nodes.length : Int)), (5, vi i_79), (6, vi k_92), (95, vb (!rv113))] [0, 1, 2, 3, 4, 5, 6, 7] [SP.fact (True)] ?_
   refine Jk [0, 1, 2, 3, 4, 5, 6, 7] ?_
   refine Kc ?_ ?_
   ·intro h115
    have h117 := not_true h115
    refine KS ?_
    refine Oq Va (KS ?_)
    have hR119 := q2 hM93 (.ret false) (by simp only [r7_ValidGraph_L2, h105, h115, h117, hg114, cs4])
    have hR120 := q2 hM80 (.ret false) (by simp only [r7_ValidGraph_L1, h88, h105, h115, h117, hg114, hR119, cs4])
    have hq := q4 hrr false (by simp only [r7_ValidGraph, h5, h8, h11, h14, h22, h30, h43, h88, h105, h115, h117, hg18, hg26, hR77, hg114, hR119, hR120, cs4]); subst hq
    exact Kr () rfl (.tmp rfl .nil) [] trivial
   intro h115
   have h122 := not_false h115
   refine KS ?_
   refine Oq Vm (Oq Vadd (Oq Va (KS ?_)))
   exact Kg (r107, (k_92 + 1)) [4, 5, 6, 7] ⟨(q3 hM93 (by simp only [r7_ValidGraph_L2, h105, h115, h122, hg114, cs4])), aM1, aM1, aM1, aM1⟩
  intro h105
  have g124 := df h105
  obtain rfl : r91 = 0 := by omega
  refine Ke ?_
  have hR125 := q2 hM93 (.brk ()) (by simp only [r7_ValidGraph_L2, h105, cs4])
  refine KS ?_
  refine Oq Va (KS ?_)
  refine Kl (γ := Nat × Int) (fun (r126, k_127) => ⟨[(1, p4), (3, vi (g.Nodes.length : Int)), (5, vi i_79), (7, vi k_127)], [pv p4 [vl ga0 gk0 g.Nodes, vl ga1 gk1 g.Succ, vl ga2 gk2 g.Pred], S ga0 gk0 g.Nodes, S ga1 gk1 g.Succ, S ga2 gk2 g.Pred], r7_ValidGraph_L3 g i_79 r126 k_127 = r7_ValidGraph_L3 g i_79 (((((g.Pred.getD i_79.toNat []).length : Int) : Int) - 0).toNat) 0 ∧ r126 = ((((g.Pred.getD i_79.toNat []).length : Int) : Int) - k_127).toNat ∧ (0 : Int) ≤ k_127 ∧ (k_127 ≤ ((g.Pred.getD i_79.toNat []).length : Int) ∨ k_127 = 0) ∧ (-9223372036854775808 ≤ k_127 ∧ k_127 ≤ 9223372036854775807), r126⟩) (((((g.Pred.getD i_79.toNat []).length : Int) : Int) - 0).toNat, 0) [2, 3, 4, 5] ⟨rfl, rfl, aM1, (.inr rfl), aM1⟩ ?_
  rintro ⟨r126, k_127⟩ ⟨hM128, hr129, hi130, hi131, hk132⟩
  refine JJ_nx fun _ _ hL hA => ?_; dsimp only at hL hA; subst hL hA
  refine Fb 32 1 fun _ => Fb 24 2 fun _ => Fb 24 3 fun _ => KS ?_
  refine Oq Vm (Oq (Vfa fo26_2 0) (Oq (VldF sh24 0) (Oq Vm (Oq (Vi sl24 3) ?_))))
  refine JJ_peekL i_79.toNat 3 rfl rng fun a136 k137 => ?_
  refine Fb 8 1 fun _ => Fo 1 fun ho139 => ?_
  refine Oq (Vld sh22 0) (Oq (Vlen sl22) (Oq Vlss (KS ?_)))
  refine Kc ?_ ?_
  ·intro h140
   have g141 := dt h140
   have hbr := rVp (by assumption) (i := i_79) (k := k_127) aM1 aM1
   obtain ⟨r142, rfl⟩ := scc (n := r126) aM1
   refine KS ?_
   refine JJ_peekL (((g.Pred.getD i_79.toNat []).getD k_127.toNat 0) : Int).toNat 4 rfl rng fun a143 k144 => ?_
   refine Fb 8 1 fun _ => Fo 1 fun ho146 => ?_
   refine JK_drawK [0, 1, 0, 4, 0, 28, 60, 0, 252, 508, 1023, 2047, 0, 8191, 16383] fmix ?_
   refine Dv [4] (Vfa fo26_1 0) (Dv [4] (VldF sh24 0) (Dv [4] (Vfa fo26_2 0) (Dv [4] (VldF sh24 0) (Dv [] Vm (Dv [7] (Vi sl24 0) (Dv [2] (Vld sh22 0) (Dv [] Vm (Dv [3] (Vi sl22 0) ?_))))))))
   have hb147 := ok1 (i := k_127.toNat) ho139 rng
   refine Dv [3] (VldI sh3 0) (Dv [6] (Vi sl24 0) (Dv [0] (Vld sh22 0) (Dv [] Vm ?_)))
   refine letv (r7_Has (g.Succ.getD (((g.Pred.getD i_79.toNat []).getD k_127.toNat 0) : Int).toNat []) i_79) fun rv148 hg149 => ?_
   refine Dx [1] [] [1, 0] (fun G => vb rv148) [fun G => SP.fact (True)] (fun G => xC [0] ca41 (fn41 ((g.Succ.getD (((g.Pred.getD i_79.toNat []).getD k_127.toNat 0) : Int).toNat [])) a143 k144 i_79 pre rv148 hg149)) (Dv [] Vnot ?_)
   refine Dn ⟨by kernel_rfl, fun G => ?_⟩
   refine Jw2 [(1, p4), (3, vi (g.Nodes.length : Int)), (5, vi i_79), (7, vi k_127), (120, vb (!rv148))] [0, 1, 2, 3, 4, 5, 6, 7] [SP.fact (True)] ?_
   refine Jk [0, 1, 2, 3, 4, 5, 6, 7] ?_
   refine Kc ?_ ?_
   ·intro h150
    have h152 := not_true h150
    refine KS ?_
    refine Oq Va (KS ?_)
    have hR154 := q2 hM128 (.ret false) (by simp only [r7_ValidGraph_L3, h140, h150, h152, hg149, cs4])
    have hR155 := q2 hM80 (.ret false) (by simp only [r7_ValidGraph_L1, h88, h105, h140, h150, h152, hR125, hg149, hR154, cs4])
    have hq := q4 hrr false (by simp only [r7_ValidGraph, h5, h8, h11, h14, h22, h30, h43, h88, h105, h140, h150, h152, hg18, hg26, hR77, hR125, hg149, hR154, hR155, cs4]); subst hq
    exact Kr () rfl (.tmp rfl .nil) [] trivial
   intro h150
   have h157 := not_false h150
   refine KS ?_
   refine Oq Vm (Oq Vadd (Oq Va (KS ?_)))
   exact Kg (r142, (k_127 + 1)) [4, 5, 6, 7] ⟨(q3 hM128 (by simp only [r7_ValidGraph_L3, h140, h150, h157, hg149, cs4])), aM1, aM1, aM1, aM1⟩
  intro h140
  have g159 := df h140
  obtain rfl : r126 = 0 := by omega
  refine Ke ?_
  have hR160 := q2 hM128 (.brk ()) (by simp only [r7_ValidGraph_L3, h140, cs4])
  refine KS ?_
  refine Oq Vm (Oq Vadd (Oq Va (KS ?_)))
  exact Kg (r90, (i_79 + 1)) [2, 3, 4, 5] ⟨(q3 hM80 (by simp only [r7_ValidGraph_L1, h88, h105, h140, hR125, hR160, cs4])), aM1, aM1, aM1, aM1⟩
 intro h88
 have g161 := df h88
 obtain rfl : r78 = 0 := by omega
 refine Ke ?_
 have hR162 := q2 hM80 (.brk ()) (by simp only [r7_ValidGraph_L1, h88, cs4])
 refine KS ?_
 refine Oq Va (KS ?_)
 have hq := q4 hrr true (by simp only [r7_ValidGraph, h5, h8, h11, h14, h22, h30, h43, h88, hg18, hg26, hR77, hR162, cs4]); subst hq
 exact Kr () rfl (.tmp rfl .nil) [] trivial
theorem fn12 (g : GGraph) (ga0 : Option Addr) (gk0 : Nat) (ga1 : Option Addr) (gk1 : Nat) (ga2 : Option Addr) (gk2 : Nat) (root : Int) (hroot_0 : i64ok root) (rr : List Int × Int) (hrr : r30_Levels g root = rr) : FT Tryz.prog 12 #[.agg #[vl ga0 gk0 g.Nodes, vl ga1 gk1 g.Succ, vl ga2 gk2 g.Pred], vi root] [S ga0 gk0 g.Nodes, S ga1 gk1 g.Succ, S ga2 gk2 g.Pred] (fun g : Value => i64ok rr.2) (fun g => .tuple #[g, vi rr.2]) (fun g => [sl g rr.1]) := by
 refine FTi Tryz.func12 fun w0 M0 F0 => ?_
 unfold i64ok at hroot_0
 refine Fb 32 0 fun _ => Fb 24 1 fun _ => Fb 24 2 fun _ => KS ?_
 refine Oa (Ab [vl ga0 gk0 g.Nodes, vl ga1 gk1 g.Succ, vl ga2 gk2 g.Pred]) fun p4 => Oq Va (Oq Va (KS ?_))
 refine Oq (VldA sh26 0) ?_
 refine letv (r7_ValidGraph g) fun rv5 hg6 => ?_
 have hc7 := fn25 g ga0 gk0 ga1 gk1 ga2 gk2 rv5 hg6
 refine Oc [1, 2, 3] ca25 hc7 ?_
 rintro - -
 refine Oq Vnot (KS ?_)
 refine Kc ?_ ?_
 ·intro h8
  have h10 := not_true h8
  refine KS ?_
  refine Oq Va (Oq Va (KS ?_))
  refine Jl [] (Ent.slNil (α := Int)) ?_
  have hq := q4 hrr (([] : List Int), 1) (by simp only [r30_Levels, h8, h10, hg6, cs4]); subst hq
  exact Kr (.slice none 0 0) rfl (.tmp rfl (.tmp rfl .nil)) [0] en
 intro h8
 have h13 := not_false h8
 try (have hgv := rGVf (by assumption) h8; have hn1 := hgv.n1; have hsl := hgv.sl; have hpl := hgv.pl)
 try have hnp := near_f (by assumption) h8
 refine KS ?_
 refine Oq Vm (Oq Vlss (Oq Vm ?_))
 refine Js 16 ?_ ?_
 ·intro h15
  have g16 := dt h15
  refine Osk (Osk (Osk (Osk (Osk (Oq Vpt (KS ?_))))))
  refine Kt (KS ?_)
  refine Oq Va (Oq Va (KS ?_))
  refine Jl [] (Ent.slNil (α := Int)) ?_
  have hq := q4 hrr (([] : List Int), 9) (by simp only [r30_Levels, h8, h13, h15, hg6, cs4]); subst hq
  exact Kr (.slice none 0 0) rfl (.tmp rfl (.tmp rfl .nil)) [0] en
 intro h15
 have g17 := df h15
 refine Oq Vm (Oq (Vfa fo26_0 0) (Oq (VldF sh23 0) (Oq (Vlen sl23) (Oq Vgeq (Oq Vpf (KS ?_))))))
 refine Kc ?_ ?_
 ·intro h18
  have g19 := dt h18
  refine KS ?_
  refine Oq Va (Oq Va (KS ?_))
  refine Jl [] (Ent.slNil (α := Int)) ?_
  have hq := q4 hrr (([] : List Int), 9) (by simp only [r30_Levels, h8, h13, h15, h18, hg6, cs4]); subst hq
  exact Kr (.slice none 0 0) rfl (.tmp rfl (.tmp rfl .nil)) [0] en
 intro h18
 have g20 := df h18
 refine KS ?_
 refine Oq (Vfa fo26_0 0) (Oq (VldF sh23 0) (Oq (Vlen sl23) ?_))
 refine Oa (Amk (α := Int) sl22 sz22 (0 : Int) (fun _ _ => ⟨rfl, by unfold i64ok; decide⟩)) fun c21 => ?_
 refine Jo 0 ?_; rintro a22 k23 rfl
 refine Fb 8 0 fun _ => Fo 0 fun ho25 => ?_
 have hn26 := List.length_replicate (n := (g.Nodes.length : Int).toNat) (a := ((0 : Int) : Int))
 refine Oq Va (KS ?_)
 refine Oq Va (KS ?_)
 refine Kl (γ := Nat × List Int × Int) (fun (r27, d_28, i_29) => ⟨[(1, vi root), (2, p4), (6, vl a22 k23 (List.replicate (g.Nodes.length : Int).toNat (0 : Int))), (7, vi i_29)], [os (vl a22 k23 (List.replicate (g.Nodes.length : Int).toNat (0 : Int))) d_28, pv p4 [vl ga0 gk0 g.Nodes, vl ga1 gk1 g.Succ, vl ga2 gk2 g.Pred], S ga0 gk0 g.Nodes, S ga1 gk1 g.Succ, S ga2 gk2 g.Pred], r30_Levels_L0 r27 d_28 i_29 = r30_Levels_L0 ((((((List.replicate (g.Nodes.length : Int).toNat (0 : Int)).length : Nat) : Int) : Int) - 0).toNat) (List.replicate (g.Nodes.length : Int).toNat (0 : Int)) 0 ∧ r27 = (((((List.replicate (g.Nodes.length : Int).toNat (0 : Int)).length : Nat) : Int) : Int) - i_29).toNat ∧ (0 : Int) ≤ i_29 ∧ (i_29 ≤ (((List.replicate (g.Nodes.length : Int).toNat (0 : Int)).length : Nat) : Int) ∨ i_29 = 0) ∧ (-9223372036854775808 ≤ i_29 ∧ i_29 ≤ 9223372036854775807) ∧ (d_28.length = g.Nodes.length) ∧ (DI g.Nodes.length d_28), r27⟩) ((((((List.replicate (g.Nodes.length : Int).toNat (0 : Int)).length : Nat) : Int) : Int) - 0).toNat, (List.replicate (g.Nodes.length : Int).toNat (0 : Int)), 0) [0, 0, 1, 2, 3] ⟨rfl, rfl, aM1, (.inr rfl), aM1, iv0, (DI_rep _ _)⟩ ?_
 rintro ⟨r27, d_28, i_29⟩ ⟨hM30, hr31, hi32, hi33, hk34, hv35, hv36⟩
 refine JJ_nx fun _ _ hL hA => ?_; dsimp only at hL hA; subst hL hA
 refine Fb 8 0 fun _ => Fo 0 fun ho38 => Fl 0 fun hn39 => ?_
 refine Fb 32 2 fun _ => Fb 24 3 fun _ => Fb 24 4 fun _ => KS ?_
 refine Oq Vm (Oq Vm (Oq (Vlen sl22) (Oq Vlss (KS ?_))))
 refine Kc ?_ ?_
 ·intro h43
  have g44 := dt h43
  obtain ⟨r45, rfl⟩ := scc (n := r27) aM1
  refine KS ?_
  refine Oq Vm (Oq Vm (Oq (Vi sl22 0) (Ost (SoI [0] sh3) (KS ?_))))
  refine Oq Vm (Oq Vadd (Oq Va (KS ?_)))
  exact Kg (r45, (d_28.set i_29.toNat (-1)), (i_29 + 1)) [0, 0, 1, 2, 3] ⟨(q3 hM30 (by simp only [r30_Levels_L0, h43, cs4])), aM1, aM1, aM1, aM1, iv1, (DI_set (by assumption) aM1)⟩
 intro h43
 have g46 := df h43
 obtain rfl : r27 = 0 := by omega
 refine Ke ?_
 have hR47 := q2 hM30 d_28 (by simp only [r30_Levels_L0, h43, cs4])
 refine KS ?_
 refine Oq Vm (Oq Vm (Oq (Vi sl22 0) (Ost (SoI [0] sh3) (KS ?_))))
 refine Oq Va (KS ?_)
 refine Kl (γ := Nat × List Int × Int) (fun (r48, d_49, level_50) => ⟨[(2, p4), (6, vl a22 k23 (List.replicate (g.Nodes.length : Int).toNat (0 : Int))), (8, vi level_50)], [os (vl a22 k23 (List.replicate (g.Nodes.length : Int).toNat (0 : Int))) d_49, pv p4 [vl ga0 gk0 g.Nodes, vl ga1 gk1 g.Succ, vl ga2 gk2 g.Pred], S ga0 gk0 g.Nodes, S ga1 gk1 g.Succ, S ga2 gk2 g.Pred], r30_Levels_L1 g r48 d_49 level_50 = r30_Levels_L1 g ((((((List.replicate (g.Nodes.length : Int).toNat (0 : Int)).length : Nat) : Int) : Int) - 0).toNat) (d_28.set root.toNat 0) 0 ∧ r48 = (((((List.replicate (g.Nodes.length : Int).toNat (0 : Int)).length : Nat) : Int) : Int) - level_50).toNat ∧ (0 : Int) ≤ level_50 ∧ (level_50 ≤ (((List.replicate (g.Nodes.length : Int).toNat (0 : Int)).length : Nat) : Int) ∨ level_50 = 0) ∧ (-9223372036854775808 ≤ level_50 ∧ level_50 ≤ 9223372036854775807) ∧ (d_49.length = g.Nodes.length) ∧ (DI g.Nodes.length d_49), r48⟩) ((((((List.replicate (g.Nodes.length : Int).toNat (0 : Int)).length : Nat) : Int) : Int) - 0).toNat, (d_28.set root.toNat 0), 0) [0, 0, 1, 2, 3] ⟨rfl, rfl, aM1, (.inr rfl), aM1, iv0, (DI_set (by assumption) aM1)⟩ ?_
 rintro ⟨r48, d_49, level_50⟩ ⟨hM51, hr52, hi53, hi54, hk55, hv56, hv57⟩
 refine JJ_nx fun _ _ hL hA => ?_; dsimp only at hL hA; subst hL hA
 refine Fb 8 0 fun _ => Fo 0 fun ho59 => Fl 0 fun hn60 => ?_
 refine Fb 32 2 fun _ => Fb 24 3 fun _ => Fb 24 4 fun _ => KS ?_
 refine Oq Vm (Oq Vm (Oq (Vlen sl22) (Oq Vlss (KS ?_))))
 refine Kc ?_ ?_
 ·intro h64
  have g65 := dt h64
  obtain ⟨r66, rfl⟩ := scc (n := r48) aM1
  refine KS ?_
  refine Oq Va (KS ?_)
  refine Kl (γ := Nat × List Int × Int) (fun (r67, d_68, i_69) => ⟨[(2, p4), (6, vl a22 k23 (List.replicate (g.Nodes.length : Int).toNat (0 : Int))), (8, vi level_50), (9, vi i_69)], [os (vl a22 k23 (List.replicate (g.Nodes.length : Int).toNat (0 : Int))) d_68, pv p4 [vl ga0 gk0 g.Nodes, vl ga1 gk1 g.Succ, vl ga2 gk2 g.Pred], S ga0 gk0 g.Nodes, S ga1 gk1 g.Succ, S ga2 gk2 g.Pred], r30_Levels_L2 g level_50 r67 d_68 i_69 = r30_Levels_L2 g level_50 ((((((List.replicate (g.Nodes.length : Int).toNat (0 : Int)).length : Nat) : Int) : Int) - 0).toNat) d_49 0 ∧ r67 = (((((List.replicate (g.Nodes.length : Int).toNat (0 : Int)).length : Nat) : Int) : Int) - i_69).toNat ∧ (0 : Int) ≤ i_69 ∧ (i_69 ≤ (((List.replicate (g.Nodes.length : Int).toNat (0 : Int)).length : Nat) : Int) ∨ i_69 = 0) ∧ (-9223372036854775808 ≤ i_69 ∧ i_69 ≤ 9223372036854775807) ∧ (d_68.length = g.Nodes.length) ∧ (DI g.Nodes.length d_68), r67⟩) ((((((List.replicate (g.Nodes.length : Int).toNat (0 : Int)).length : Nat) : Int) : Int) - 0).toNat, d_49, 0) [0, 0, 1, 2, 3] ⟨rfl, rfl, aM1, (.inr rfl), aM1, iv0, (by assumption)⟩ ?_
  rintro ⟨r67, d_68, i_69⟩ ⟨hM70, hr71, hi72, hi73, hk74, hv75, hv76⟩
  refine JJ_nx fun _ _ hL hA => ?_; dsimp only at hL hA; subst hL hA
  refine Fb 8 0 fun _ => Fo 0 fun ho78 => Fl 0 fun hn79 => ?_
  refine Fb 32 2 fun _ => Fb 24 3 fun _ => Fb 24 4 fun _ => KS ?_
  refine Oq Vm (Oq Vm (Oq (Vlen sl22) (Oq Vlss (KS ?_))))
  refine Kc ?_ ?_
  ·intro h83
   have g84 := dt h83
   obtain ⟨r85, rfl⟩ := scc (n := r67) aM1
   refine KS ?_
   refine Oq Va (KS ?_)
   have hterm94 : r30_Levels_L3 g level_50 i_69 ((g.Succ.getD i_69.toNat []).length + 1 : Nat) d_68 0 ≠ LR.oof := (Lev3_t _ _ _ aM1 aM1 aM1)
   refine Kl (γ := Nat × List Int × Int) (fun (r86, d_87, k_88) => ⟨[(2, p4), (6, vl a22 k23 (List.replicate (g.Nodes.length : Int).toNat (0 : Int))), (8, vi level_50), (9, vi i_69), (10, vi k_88)], [os (vl a22 k23 (List.replicate (g.Nodes.length : Int).toNat (0 : Int))) d_87, pv p4 [vl ga0 gk0 g.Nodes, vl ga1 gk1 g.Succ, vl ga2 gk2 g.Pred], S ga0 gk0 g.Nodes, S ga1 gk1 g.Succ, S ga2 gk2 g.Pred], r30_Levels_L3 g level_50 i_69 r86 d_87 k_88 = r30_Levels_L3 g level_50 i_69 ((g.Succ.getD i_69.toNat []).length + 1 : Nat) d_68 0 ∧ (-9223372036854775808 ≤ k_88 ∧ k_88 ≤ 9223372036854775807) ∧ (0 ≤ k_88) ∧ (d_87.length = g.Nodes.length) ∧ (DI g.Nodes.length d_87), r86⟩) (((g.Succ.getD i_69.toNat []).length + 1 : Nat), d_68, 0) [0, 0, 1, 2, 3] ⟨rfl, aM1, iv0, iv0, (by assumption)⟩ ?_
   rintro ⟨r86, d_87, k_88⟩ ⟨hM89, hk90, hv91, hv92, hv93⟩
   refine JJ_nx fun _ _ hL hA => ?_; dsimp only at hL hA; subst hL hA
   refine Fb 8 0 fun _ => Fo 0 fun ho96 => Fl 0 fun hn97 => ?_
   refine Fb 32 2 fun _ => Fb 24 3 fun _ => Fb 24 4 fun _ => ?_
   rcases r86 with _ | r86
   ·exact absurd (hM89.symm.trans rfl) hterm94
   refine KS ?_
   refine Oq Vm (Oq Vm (Oq (Vi sl22 0) ?_))
   have hb101 := ok1 (i := i_69.toNat) ho96 rng
   refine Oq (VldI sh3 0) (Oq Vm (Oq Veql (Oq Vm ?_)))
   refine Js 57 ?_ ?_
   ·intro h102
    have g103 := eq_of_beq h102
    refine Oq Vm (Oq (Vfa fo26_1 1) (Oq (VldF sh24 1) (Oq Vm (Oq (Vi sl24 3) ?_))))
    refine JJ_peekL i_69.toNat 3 rfl rng fun a104 k105 => ?_
    refine Fb 8 1 fun _ => Fo 1 fun ho107 => ?_
    refine Oq (Vld sh22 0) (Oq (Vlen sl22) (Oq Vlss (Oq Vpt (KS ?_))))
    refine Kc ?_ ?_
    ·intro h108
     have g109 := dt h108
     have hsm := Asc_in (hgv.sa i_69 aM1 aM1) (i := k_88) ⟨by omega, by omega⟩; have hsq := Asc_l (hgv.sa i_69 aM1 aM1) aM1
     refine KS ?_
     refine Oq Vm (Oq (Vfa fo26_1 3) (Oq (VldF sh24 3) (Oq Vm (Oq (Vi sl24 5) (Oq (Vld sh22 0) (Oq Vm (Oq (Vi sl22 1) ?_)))))))
     have hb110 := ok1 (i := k_88.toNat) ho107 rng
     refine Oq (VldI sh3 1) (Oq (Vi sl22 2) ?_)
     have hb111 := ok1 (i := (((g.Succ.getD i_69.toNat []).getD k_88.toNat 0) : Int).toNat) ho96 rng
     refine Oq (VldI sh3 2) (Oq Vlss (KS ?_))
     refine Kc ?_ ?_
     ·intro h112
      have g113 := dt h112
      refine KS ?_
      refine Oq Vm (Oq (Vfa fo26_1 3) (Oq (VldF sh24 3) (Oq Vm (Oq (Vi sl24 5) (Oq (Vld sh22 0) (Oq Vm (Oq (Vi sl22 1) ?_)))))))
      have hb114 := ok1 (i := k_88.toNat) ho107 rng
      refine Oq (VldI sh3 1) (Oq Vm (Oq Vadd (Oq (Vi sl22 2) (Ost (SoI [2] sh3) (KS ?_)))))
      refine Oq Vm (Oq Vadd (Oq Va (KS ?_)))
      exact Kg (r86, (d_87.set (((g.Succ.getD i_69.toNat []).getD k_88.toNat 0) : Int).toNat (level_50 + 1)), (k_88 + 1)) [0, 2, 3, 4, 5] ⟨(q3 hM89 (by simp only [r30_Levels_L3, h102, h108, h112, cs4])), aM1, iv1, iv1, (by first | assumption | exact DI_set (by assumption) aM1)⟩
     intro h112
     have g115 := df h112
     refine KS ?_
     refine Oq Vm (Oq Vadd (Oq Va (KS ?_)))
     exact Kg (r86, d_87, (k_88 + 1)) [2, 2, 3, 4, 5] ⟨(q3 hM89 (by simp only [r30_Levels_L3, h102, h108, h112, cs4])), aM1, iv1, iv1, (by first | assumption | exact DI_set (by assumption) aM1)⟩
    intro h108
    have g116 := df h108
    refine Ke ?_
    have hR117 := q2 hM89 (.brk d_87) (by simp only [r30_Levels_L3, h102, h108, cs4])
    refine KS ?_
    refine Oq Vm (Oq Vadd (Oq Va (KS ?_)))
    exact Kg (r85, d_87, (i_69 + 1)) [2, 2, 3, 4, 5] ⟨(q3 hM70 (by simp only [r30_Levels_L2, h83, h102, h108, hR117, cs4])), aM1, aM1, aM1, aM1, iv1, (by assumption)⟩
   intro h102
   have g118 := ne_of_beq_false h102
   refine Osk (Osk (Osk (Osk (Osk (Osk (Osk (Osk (Oq Vpf (KS ?_)))))))))
   refine Kf ?_
   refine Ke ?_
   have hR119 := q2 hM89 (.brk d_87) (by simp only [r30_Levels_L3, h102, cs4])
   refine KS ?_
   refine Oq Vm (Oq Vadd (Oq Va (KS ?_)))
   exact Kg (r85, d_87, (i_69 + 1)) [0, 0, 1, 2, 3] ⟨(q3 hM70 (by simp only [r30_Levels_L2, h83, h102, hR119, cs4])), aM1, aM1, aM1, aM1, iv1, (by assumption)⟩
  intro h83
  have g120 := df h83
  obtain rfl : r67 = 0 := by omega
  refine Ke ?_
  have hR121 := q2 hM70 d_68 (by simp only [r30_Levels_L2, h83, cs4])
  refine KS ?_
  refine Oq Vm (Oq Vadd (Oq Va (KS ?_)))
  exact Kg (r66, d_68, (level_50 + 1)) [0, 0, 1, 2, 3] ⟨(q3 hM51 (by simp only [r30_Levels_L1, h64, h83, hR121, cs4])), aM1, aM1, aM1, aM1, iv1, (by assumption)⟩
 intro h64
 have g122 := df h64
 obtain rfl : r48 = 0 := by omega
 refine Ke ?_
 have hR123 := q2 hM51 d_49 (by simp only [r30_Levels_L1, h64, cs4])
 refine KS ?_
 refine Oq Vm (Oq Va (Oq Va (KS ?_)))
 refine Jl [0] (Ent.freeze _ _) ?_
 have hq := q4 hrr (d_49, 0) (by simp only [r30_Levels, h8, h13, h15, h18, h43, h64, hg6, hR47, hR123, cs4]); subst hq
 exact Kr (vl a22 k23 (List.replicate (g.Nodes.length : Int).toNat (0 : Int))) rfl (.tmp rfl (.tmp rfl .nil)) [0] en
theorem fn33 (g : GGraph) (ga0 : Option Addr) (gk0 : Nat) (ga1 : Option Addr) (gk1 : Nat) (ga2 : Option Addr) (gk2 : Nat) (d : List Int) (da0 : Option Addr) (dk0 : Nat) (place : List Int) (placea0 : Option Addr) (placek0 : Nat) (n : Int) (hn_0 : i64ok n) (hgv : GV g) (hd0 : DI g.Nodes.length d) (hd1 : d.length = g.Nodes.length) (hp1 : place.length = g.Nodes.length) (hn0 : 0 ≤ n ∧ n < (g.Nodes.length : Int)) (rr : Int) (hrr : r30_least g d place n = rr) : FT Tryz.prog 33 #[.agg #[vl ga0 gk0 g.Nodes, vl ga1 gk1 g.Succ, vl ga2 gk2 g.Pred], vl da0 dk0 d, vl placea0 placek0 place, vi n] [S ga0 gk0 g.Nodes, S ga1 gk1 g.Succ, S ga2 gk2 g.Pred, S da0 dk0 d, S placea0 placek0 place] (fun g : Unit => i64ok rr) (fun g => vi rr) (fun g => []) := by
 refine FTi Tryz.func33 fun w0 M0 F0 => ?_
 unfold i64ok at hn_0
 refine Fb 32 0 fun _ => Fb 24 1 fun _ => Fb 24 2 fun _ => Fb 8 3 fun _ => Fo 3 fun ho5 => Fb 8 4 fun _ => Fo 4 fun ho7 => ?_
 have hn1 := hgv.n1
 have hsl := hgv.sl
 have hpl := hgv.pl
 have hdn := DI_get (i := n.toNat) hd0 aM1
 refine KS ?_
 refine Oa (Ab [vl ga0 gk0 g.Nodes, vl ga1 gk1 g.Succ, vl ga2 gk2 g.Pred]) fun p8 => Oq Va (KS ?_)
 refine Oq Va (KS ?_)
 refine Oq Va (KS ?_)
 refine Kl (γ := Nat × Int × Int) (fun (r9, best_10, i_11) => ⟨[(1, vl da0 dk0 d), (2, vl placea0 placek0 place), (3, vi n), (4, p8), (9, vi best_10), (10, vi i_11)], [pv p8 [vl ga0 gk0 g.Nodes, vl ga1 gk1 g.Succ, vl ga2 gk2 g.Pred], S ga0 gk0 g.Nodes, S ga1 gk1 g.Succ, S ga2 gk2 g.Pred, S da0 dk0 d, S placea0 placek0 place], r30_least_L0 g d place n r9 best_10 i_11 = r30_least_L0 g d place n (((((g.Pred.getD n.toNat []).length : Int) : Int) - 0).toNat) (-1) 0 ∧ r9 = ((((g.Pred.getD n.toNat []).length : Int) : Int) - i_11).toNat ∧ (0 : Int) ≤ i_11 ∧ (i_11 ≤ ((g.Pred.getD n.toNat []).length : Int) ∨ i_11 = 0) ∧ (-9223372036854775808 ≤ best_10 ∧ best_10 ≤ 9223372036854775807) ∧ (-9223372036854775808 ≤ i_11 ∧ i_11 ≤ 9223372036854775807), r9⟩) (((((g.Pred.getD n.toNat []).length : Int) : Int) - 0).toNat, -1, 0) [0, 1, 2, 3, 4, 5] ⟨rfl, rfl, aM1, (.inr rfl), aM1, aM1⟩ ?_
 rintro ⟨r9, best_10, i_11⟩ ⟨hM12, hr13, hi14, hi15, hk16, hk17⟩
 refine JJ_nx fun _ _ hL hA => ?_; dsimp only at hL hA; subst hL hA
 refine Fb 32 1 fun _ => Fb 24 2 fun _ => Fb 24 3 fun _ => Fb 8 4 fun _ => Fo 4 fun ho22 => Fb 8 5 fun _ => Fo 5 fun ho24 => KS ?_
 refine Oq Vm (Oq (Vfa fo26_2 0) (Oq (VldF sh24 0) (Oq Vm (Oq (Vi sl24 3) ?_))))
 refine JJ_peekL n.toNat 3 rfl rng fun a25 k26 => ?_
 refine Fb 8 1 fun _ => Fo 1 fun ho28 => ?_
 refine Oq (Vld sh22 0) (Oq (Vlen sl22) (Oq Vlss (KS ?_)))
 refine Kc ?_ ?_
 ·intro h29
  have g30 := dt h29
  have hsm := Asc_in (hgv.pa n aM1 aM1) (i := i_11) ⟨by omega, by omega⟩
  obtain ⟨r31, rfl⟩ := scc (n := r9) aM1
  refine KS ?_
  refine Oq (Vfa fo26_2 2) (Oq (VldF sh24 2) (Oq Vm (Oq (Vi sl24 5) (Oq (Vld sh22 0) (Oq Vm (Oq (Vi sl22 1) ?_))))))
  have hb32 := ok1 (i := i_11.toNat) ho28 rng
  refine Oq (VldI sh3 1) (Oq Va (KS ?_))
  refine Kq [0, 0, 3, 7, 15, 31, 63, 63, 255, 511, 63, 63, 3135, 7231, 15423, 32767, 65535, 131071, 262143, 524287, 1048575, 2097151, 2097151, 8388607, 16777215, 2097151, 67108863, 134217727, 268435455] fmix ?_
  refine Qv [] Vm (Qv [] Vm (Qv [6] (Vi sl22 0) ?_))
  have hb33 := ok1 (i := (((g.Pred.getD n.toNat []).getD i_11.toNat 0) : Int).toNat) ho22 rng
  refine Qv [6] (VldI sh3 0) (Qv [] Vgeq ?_)
  refine bool_split (decide (0 ≤ (d.getD (((g.Pred.getD n.toNat []).getD i_11.toNat 0) : Int).toNat 0))) ?_ ?_
  ·intro h34
   have g35 := dt h34
   refine Qb h34 [] Vm (Qv [] Vm (Qv [] Vm (Qv [6] (Vi sl22 0) ?_)))
   have hb36 := ok1 (i := (((g.Pred.getD n.toNat []).getD i_11.toNat 0) : Int).toNat) ho22 rng
   refine Qv [6] (VldI sh3 0) (Qv [] Vm (Qv [] Vm (Qv [6] (Vi sl22 0) ?_)))
   have hb37 := ok1 (i := n.toNat) ho22 rng
   refine Qv [6] (VldI sh3 0) (Qv [] Vsub (Qv [] Veql (Qv [] Vpt ?_)))
   refine bool_split ((d.getD (((g.Pred.getD n.toNat []).getD i_11.toNat 0) : Int).toNat 0) == ((d.getD n.toNat 0) - 1)) ?_ ?_
   ·intro h38
    have g39 := eq_of_beq h38
    refine Qb h38 [] Vm (Qv [] Vm (Qv [] Vlss ?_))
    refine bool_split (decide (best_10 < 0)) ?_ ?_
    ·intro h40
     have g41 := dt h40
     refine Qb h40 [] Vm (Qs (Qs (Qs (Qs (Qs (Qs (Qv [] Vpt (Qv [] Vpt ?_))))))))
     refine Qn ⟨by kernel_rfl, ?_⟩
     refine Kt (KS ?_)
     refine Oq Vm (Oq Vm (Oq (Vi sl22 7) ?_))
     have hb42 := ok1 (i := (((g.Pred.getD n.toNat []).getD i_11.toNat 0) : Int).toNat) ho24 rng
     refine Oq (VldI sh3 7) (Oq Va (KS ?_))
     refine Oq Vm (Oq Vadd (Oq Va (KS ?_)))
     exact Kg (r31, (place.getD (((g.Pred.getD n.toNat []).getD i_11.toNat 0) : Int).toNat 0), (i_11 + 1)) [2, 3, 4, 5, 6, 7] ⟨(q3 hM12 (by simp only [r30_least_L0, h29, h34, h38, h40, cs4])), aM1, aM1, aM1, aM1, aM1⟩
    intro h40
    have g43 := df h40
    refine Qb h40 [] Vm (Qv [] Vm (Qv [] Vm (Qv [7] (Vi sl22 0) ?_)))
    have hb44 := ok1 (i := (((g.Pred.getD n.toNat []).getD i_11.toNat 0) : Int).toNat) ho24 rng
    refine Qv [7] (VldI sh3 0) (Qv [] Vm (Qv [] Vlss (Qv [] Vpf (Qv [] Vpt ?_))))
    refine Qn ⟨by kernel_rfl, ?_⟩
    refine Kc ?_ ?_
    ·intro h45
     have g46 := dt h45
     refine KS ?_
     refine Oq Vm (Oq Vm (Oq (Vi sl22 7) ?_))
     have hb47 := ok1 (i := (((g.Pred.getD n.toNat []).getD i_11.toNat 0) : Int).toNat) ho24 rng
     refine Oq (VldI sh3 7) (Oq Va (KS ?_))
     refine Oq Vm (Oq Vadd (Oq Va (KS ?_)))
     exact Kg (r31, (place.getD (((g.Pred.getD n.toNat []).getD i_11.toNat 0) : Int).toNat 0), (i_11 + 1)) [2, 3, 4, 5, 6, 7] ⟨(q3 hM12 (by simp only [r30_least_L0, h29, h34, h38, h40, h45, cs4])), aM1, aM1, aM1, aM1, aM1⟩
    intro h45
    have g48 := df h45
    refine KS ?_
    refine Oq Vm (Oq Vadd (Oq Va (KS ?_)))
    exact Kg (r31, best_10, (i_11 + 1)) [2, 3, 4, 5, 6, 7] ⟨(q3 hM12 (by simp only [r30_least_L0, h29, h34, h38, h40, h45, cs4])), aM1, aM1, aM1, aM1, aM1⟩
   intro h38
   have g49 := ne_of_beq_false h38
   refine Qb h38 [] Vm (Qs (Qs (Qs (Qs (Qs (Qs (Qs (Qs (Qs ?_)))))))))
   refine Qs (Qv [] Vpf ?_)
   refine Qn ⟨by kernel_rfl, ?_⟩
   refine Kf (KS ?_)
   refine Oq Vm (Oq Vadd (Oq Va (KS ?_)))
   exact Kg (r31, best_10, (i_11 + 1)) [2, 3, 4, 5, 6, 7] ⟨(q3 hM12 (by simp only [r30_least_L0, h29, h34, h38, cs4])), aM1, aM1, aM1, aM1, aM1⟩
  intro h34
  have g50 := df h34
  refine Qb h34 [] Vm (Qs (Qs (Qs (Qs (Qs (Qs (Qs (Qs (Qs ?_)))))))))
  refine Qs (Qv [] Vpf (Qv [] Vm (Qs (Qs (Qs (Qs (Qs (Qs (Qs ?_)))))))))
  refine Qs (Qs (Qs (Qv [] Vpf ?_)))
  refine Qn ⟨by kernel_rfl, ?_⟩
  refine Kf (KS ?_)
  refine Oq Vm (Oq Vadd (Oq Va (KS ?_)))
  exact Kg (r31, best_10, (i_11 + 1)) [2, 3, 4, 5, 6, 7] ⟨(q3 hM12 (by simp only [r30_least_L0, h29, h34, cs4])), aM1, aM1, aM1, aM1, aM1⟩
 intro h29
 have g51 := df h29
 obtain rfl : r9 = 0 := by omega
 refine Ke ?_
 have hR52 := q2 hM12 best_10 (by simp only [r30_least_L0, h29, cs4])
 refine KS ?_
 refine Oq Vm (Oq Va (KS ?_))
 have hq := q4 hrr best_10 (by simp only [r30_least, h29, hR52, cs4]); subst hq
 exact Kr () rfl (.tmp rfl .nil) [] en
theorem fn16 (g : GGraph) (ga0 : Option Addr) (gk0 : Nat) (ga1 : Option Addr) (gk1 : Nat) (ga2 : Option Addr) (gk2 : Nat) (root : Int) (hroot_0 : i64ok root) (rr : List (List Int) × Int) (hrr : r30_Places g root = rr) : FT Tryz.prog 16 #[.agg #[vl ga0 gk0 g.Nodes, vl ga1 gk1 g.Succ, vl ga2 gk2 g.Pred], vi root] [S ga0 gk0 g.Nodes, S ga1 gk1 g.Succ, S ga2 gk2 g.Pred] (fun g : Value => i64ok rr.2) (fun g => .tuple #[g, vi rr.2]) (fun g => [sl g rr.1]) := by
 refine FTi Tryz.func16 fun w0 M0 F0 => ?_
 unfold i64ok at hroot_0
 refine Fb 32 0 fun _ => Fb 24 1 fun _ => Fb 24 2 fun _ => KS ?_
 refine Oa (Ab [vl ga0 gk0 g.Nodes, vl ga1 gk1 g.Succ, vl ga2 gk2 g.Pred]) fun p4 => Oq Va (Oq Va (KS ?_))
 refine Oq (VldA sh26 0) (Oq Vm ?_)
 refine letv (r30_Levels g root) fun rv6 hg7 => ?_
 have hc8 := fn12 g ga0 gk0 ga1 gk1 ga2 gk2 root pre rv6 hg7
 refine Oc [1, 2, 3] ca12 hc8 ?_
 rintro c5 he9
 unfold i64ok at he9
 refine Jo 0 ?_; rintro a10 k11 rfl
 refine Fb 8 0 fun _ => Fo 0 fun ho13 => ?_
 refine Oq Vm (Oq Vx (Oq Vx (Oq Va (Oq Va (KS ?_)))))
 refine Oq Vm (Oq Vneq (KS ?_))
 refine Kc ?_ ?_
 ·intro h14
  have g15 := ne_of_bne h14
  refine KS ?_
  refine Oq Vm (Oq Va (Oq Va (KS ?_)))
  refine Jl [] (Ent.slNil (α := List Int)) ?_
  have hq := q4 hrr (([] : List (List Int)), rv6.2) (by simp only [r30_Places, h14, hg7, cs4]); subst hq
  exact Kr (.slice none 0 0) rfl (.tmp rfl (.tmp rfl .nil)) [0] en
 intro h14
 have g16 := eq_of_bne_false h14
 obtain ⟨hgv, hd0, hd1, hr0, hr1⟩ := Levels_ok (by assumption) h14; have hn1 := hgv.n1
 refine KS ?_
 refine Oq Vm (Oq (Vlen sl22) ?_)
 refine Oa (Amk (α := Int) sl22 sz22 (0 : Int) (fun _ _ => ⟨rfl, by unfold i64ok; decide⟩)) fun c17 => ?_
 refine Jo 0 ?_; rintro a18 k19 rfl
 refine Fb 8 0 fun _ => Fo 0 fun ho21 => ?_
 have hn22 := List.length_replicate (n := (rv6.1.length : Int).toNat) (a := ((0 : Int) : Int))
 refine Oq Va (KS ?_)
 refine Oq Vm (Oa (AsV sl22 sz22 [vi root] [vi root]) fun c23 => ?_)
 refine Jo 0 ?_; rintro a24 k25 rfl
 refine Oa (AsV sl24 sz24 [.slice a24 1 k25] [.slice a24 1 k25]) fun c26 => ?_
 refine Jo 0 ?_; rintro a27 k28 rfl
 refine Oq Va (KS ?_)
 refine Oq Va (KS ?_)
 refine Jl [1] (Ent.crInt _ [root] _ _ rfl rfl (by intro x hx; rw [List.mem_singleton] at hx; subst hx; unfold i64ok; omega) aB1) ?_
 refine Jl [0] (Ent.freeze _ _) ?_
 refine Jl [1, 0] (Ent.cr1 (α := List Int) (A := [sl (.slice a24 1 k25) ([root] : List Int)]) _ [root] _ aB1 (fun h => ⟨_, rfl, sepAll_get (i := 0) rfl h⟩)) ?_
 refine Fb 24 0 fun _ => ?_
 have hterm44 : r30_Places_L0 g rv6.1 (rv6.1.length + 3 : Nat) (List.replicate (rv6.1.length : Int).toNat (0 : Int)) [[root]] 1 ≠ LR.oof := (Pl0_t hd0 _ _ _ _ aM1 aM1)
 refine Kl (γ := Nat × List Int × List (List Int) × Int × Option Addr × Nat × Option Addr × Nat) (fun (r30, place_31, out_32, level_33, a34, k35, a36, k37) => ⟨[(2, p4), (6, vl a10 k11 rv6.1), (8, vl a34 k35 place_31), (9, vl a36 k37 out_32), (10, vi level_33)], [O a36 k37 out_32, O a34 k35 place_31, S a10 k11 rv6.1, pv p4 [vl ga0 gk0 g.Nodes, vl ga1 gk1 g.Succ, vl ga2 gk2 g.Pred], S ga0 gk0 g.Nodes, S ga1 gk1 g.Succ, S ga2 gk2 g.Pred], r30_Places_L0 g rv6.1 r30 place_31 out_32 level_33 = r30_Places_L0 g rv6.1 (rv6.1.length + 3 : Nat) (List.replicate (rv6.1.length : Int).toNat (0 : Int)) [[root]] 1 ∧ (-9223372036854775808 ≤ level_33 ∧ level_33 ≤ 9223372036854775807) ∧ (place_31.length = g.Nodes.length) ∧ (1 ≤ level_33 ∧ level_33 + (r30 : Int) ≤ (rv6.1.length : Int) + 4) ∧ ((out_32.length : Int) ≤ level_33) ∧ (RW g.Nodes.length out_32), r30⟩) ((rv6.1.length + 3 : Nat), (List.replicate (rv6.1.length : Int).toNat (0 : Int)), [[root]], 1, a18, k19, a27, k28) [0, 2, 2, 3, 4, 5, 6] ⟨rfl, aM1, iv0, iv0, iv0, (RW_one ⟨by omega, by omega⟩)⟩ ?_
 rintro ⟨r30, place_31, out_32, level_33, a34, k35, a36, k37⟩ ⟨hM38, hk39, hv40, hv41, hv42, hv43⟩
 refine JJ_nx fun _ _ hL hA => ?_; dsimp only at hL hA; subst hL hA
 refine Fb 24 0 fun _ => Fb 8 1 fun _ => Fo 1 fun ho47 => Fb 8 2 fun _ => Fo 2 fun ho49 => Fb 32 4 fun _ => Fb 24 5 fun _ => Fb 24 6 fun _ => ?_
 rcases r30 with _ | r30
 ·exact absurd (hM38.symm.trans rfl) hterm44
 refine KS ?_
 refine Oq Va (KS ?_)
 refine Oq Va (KS ?_)
 refine Jl [] (Ent.osNil (α := Int)) ?_
 refine Kl (γ := Nat × List Int × Int × Option Addr × Nat) (fun (r53, l_54, n_55, a56, k57) => ⟨[(2, p4), (6, vl a10 k11 rv6.1), (8, vl a34 k35 place_31), (9, vl a36 k37 out_32), (10, vi level_33), (11, vl a56 k57 l_54), (12, vi n_55)], [O a56 k57 l_54, O a36 k37 out_32, O a34 k35 place_31, S a10 k11 rv6.1, pv p4 [vl ga0 gk0 g.Nodes, vl ga1 gk1 g.Succ, vl ga2 gk2 g.Pred], S ga0 gk0 g.Nodes, S ga1 gk1 g.Succ, S ga2 gk2 g.Pred], r30_Places_L1 g rv6.1 place_31 level_33 r53 l_54 n_55 = r30_Places_L1 g rv6.1 place_31 level_33 (((rv6.1.length : Int) - 0).toNat) [] 0 ∧ r53 = ((rv6.1.length : Int) - n_55).toNat ∧ (0 : Int) ≤ n_55 ∧ n_55 ≤ (rv6.1.length : Int) ∧ (-9223372036854775808 ≤ n_55 ∧ n_55 ≤ 9223372036854775807) ∧ (RL g.Nodes.length l_54) ∧ ((l_54.length : Int) ≤ n_55), r53⟩) (((rv6.1.length : Int) - 0).toNat, [], 0, none, 0) [0, 0, 0, 0, 1, 2, 3, 4] ⟨rfl, rfl, aM1, aM1, aM1, (RL_nil _), iv0⟩ ?_
 rintro ⟨r53, l_54, n_55, a56, k57⟩ ⟨hM58, hr59, hi60, hi61, hk62, hv63, hv64⟩
 refine JJ_nx fun _ _ hL hA => ?_; dsimp only at hL hA; subst hL hA
 refine Fb 8 0 fun _ => Fo 0 fun ho66 => Fb 24 1 fun _ => Fb 8 2 fun _ => Fo 2 fun ho69 => Fb 8 3 fun _ => Fo 3 fun ho71 => Fb 32 5 fun _ => ?_
 refine Fb 24 6 fun _ => Fb 24 7 fun _ => KS ?_
 refine Oq Vm (Oq Vm (Oq (Vlen sl22) (Oq Vlss (KS ?_))))
 refine Kc ?_ ?_
 ·intro h75
  have g76 := dt h75
  obtain ⟨r77, rfl⟩ := scc (n := r53) aM1
  refine KS ?_
  refine Oq Vm (Oq Vm (Oq (Vi sl22 3) ?_))
  have hb78 := ok1 (i := n_55.toNat) ho71 rng
  refine Oq (VldI sh3 3) (Oq Vm (Oq Vneq (KS ?_)))
  refine Kc ?_ ?_
  ·intro h79
   have g80 := ne_of_bne h79
   refine Ke ?_
   refine KS ?_
   refine Oq Vm (Oq Vadd (Oq Va (KS ?_)))
   exact Kg (r77, l_54, (n_55 + 1), a56, k57) [0, 0, 0, 0, 1, 2, 3, 4] ⟨(q3 hM58 (by simp only [r30_Places_L1, h75, h79, cs4])), aM1, aM1, aM1, aM1, (by first | assumption | exact RL_ins (by assumption) ⟨by omega, by omega⟩), iv1⟩
  intro h79
  have g81 := eq_of_bne_false h79
  refine KS ?_
  refine Oq Va (KS ?_)
  refine Kl (γ := Nat × Int) (fun (r82, k_83) => ⟨[(2, p4), (6, vl a10 k11 rv6.1), (8, vl a34 k35 place_31), (9, vl a36 k37 out_32), (10, vi level_33), (11, vl a56 k57 l_54), (12, vi n_55), (13, vi k_83)], [O a56 k57 l_54, O a36 k37 out_32, O a34 k35 place_31, S a10 k11 rv6.1, pv p4 [vl ga0 gk0 g.Nodes, vl ga1 gk1 g.Succ, vl ga2 gk2 g.Pred], S ga0 gk0 g.Nodes, S ga1 gk1 g.Succ, S ga2 gk2 g.Pred], r30_Places_L2 g rv6.1 place_31 l_54 n_55 r82 k_83 = r30_Places_L2 g rv6.1 place_31 l_54 n_55 (((l_54.length : Int) - 0).toNat) 0 ∧ r82 = ((l_54.length : Int) - k_83).toNat ∧ (0 : Int) ≤ k_83 ∧ k_83 ≤ (l_54.length : Int) ∧ (-9223372036854775808 ≤ k_83 ∧ k_83 ≤ 9223372036854775807) ∧ (0 ≤ k_83 ∧ k_83 ≤ (l_54.length : Int)), r82⟩) (((l_54.length : Int) - 0).toNat, 0) [0, 0, 0, 0, 1, 2, 3, 4] ⟨rfl, rfl, aM1, aM1, aM1, iv0⟩ ?_
  rintro ⟨r82, k_83⟩ ⟨hM84, hr85, hi86, hi87, hk88, hv89⟩
  refine JJ_nx fun _ _ hL hA => ?_; dsimp only at hL hA; subst hL hA
  refine Fb 8 0 fun _ => Fo 0 fun ho91 => Fb 24 1 fun _ => Fb 8 2 fun _ => Fo 2 fun ho94 => Fb 8 3 fun _ => Fo 3 fun ho96 => Fb 32 5 fun _ => ?_
  refine Fb 24 6 fun _ => Fb 24 7 fun _ => KS ?_
  refine JK_drawK [0, 0, 2, 7, 15, 31, 31, 31, 31, 31, 799, 1823, 4095, 31, 31, 31, 31, 131071, 262143, 524287] fmix ?_
  refine Dv [] Vm (Dv [] Vm (Dv [] (Vlen sl22) (Dv [] Vlss ?_)))
  refine bool_split (decide (k_83 < (l_54.length : Int))) ?_ ?_
  ·intro h100
   have g101 := dt h100
   obtain ⟨r102, rfl⟩ := scc (n := r82) aM1
   refine Db h100 [] Vm (Dv [4] (VldA sh26 0) (Dv [] Vm (Dv [] Vm (Dv [] Vm (Dv [] Vm (Dv [0] (Vi sl22 0) ?_))))))
   have hb103 := ok1 (i := k_83.toNat) ho91 rng
   refine Dv [0] (VldI sh3 0) ?_
   refine letv (r30_least g rv6.1 place_31 (l_54.getD k_83.toNat 0)) fun rv104 hg105 => ?_
   refine Dx [2, 3, 5, 6, 7] [] [1, 1, 2, 3, 4, 0] (fun G => vi rv104) [fun G => SP.fact (i64ok rv104)] (fun G => xC [0, 1, 2, 3, 0] ca33 (FT_borrow (A := _) (fun _ _ h => by cases h) (FT_ent (Ent.take (is := [1, 2, 3, 4, 0]) rfl) (fn33 g ga0 gk0 ga1 gk1 ga2 gk2 rv6.1 a10 k11 place_31 a34 k35 ((l_54.getD k_83.toNat 0)) pre hgv hd0 hd1 pre (by first | omega | exact RL_get (by assumption) aM1) rv104 hg105))) (ht := rfl)) (Dv [4] (VldA sh26 0) (Dv [] Vm (Dv [] Vm (Dv [] Vm ?_))))
   refine letv (r30_least g rv6.1 place_31 n_55) fun rv106 hg107 => ?_
   refine Dx [2, 3, 5, 6, 7, 8] [] [1, 1, 2, 3, 4, 5, 0] (fun G => vi rv106) [fun G => SP.fact (i64ok rv106)] (fun G => by refine xf 5 rfl ?_; rintro he108; unfold i64ok at he108; exact xC [0, 1, 2, 3, 0] ca33 (FT_borrow (A := _) (fun _ _ h => by cases h) (FT_ent (Ent.take (is := [1, 2, 3, 4, 0]) rfl) (fn33 g ga0 gk0 ga1 gk1 ga2 gk2 rv6.1 a10 k11 place_31 a34 k35 n_55 pre hgv hd0 hd1 pre (by first | omega | exact RL_get (by assumption) aM1) rv106 hg107))) (ht := rfl)) (Dv [] Vleq (Dv [] Vpt ?_))
   refine Dn ⟨by kernel_rfl, fun G => ?_⟩
   refine Jw2 [(2, p4), (6, vl a10 k11 rv6.1), (8, vl a34 k35 place_31), (9, vl a36 k37 out_32), (10, vi level_33), (11, vl a56 k57 l_54), (12, vi n_55), (13, vi k_83), (64, vb (decide (rv104 ≤ rv106)))] [0, 1, 2, 3, 4, 5, 6, 7] [SP.fact (i64ok rv104), SP.fact (i64ok rv106)] ?_
   refine Jf 8 rfl ?_; rintro he109
   unfold i64ok at he109
   refine Jf 9 rfl ?_; rintro he110
   unfold i64ok at he110
   refine Jk [0, 0, 0, 0, 1, 2, 3, 4] ?_
   refine Kc ?_ ?_
   ·intro h111
    have g112 := dt h111
    refine KS ?_
    refine Oq Vm (Oq Vadd (Oq Va (KS ?_)))
    exact Kg (r102, (k_83 + 1)) [0, 0, 0, 0, 1, 2, 3, 4] ⟨(q3 hM84 (by simp only [r30_Places_L2, h100, h111, hg105, hg107, cs4])), aM1, aM1, aM1, aM1, iv1⟩
   intro h111
   have g113 := df h111
   refine Ke ?_
   have hR114 := q2 hM84 k_83 (by simp only [r30_Places_L2, h100, h111, hg105, hg107, cs4])
   refine KS ?_
   refine Oa (As0 sl22) fun c115 => ?_
   refine Jo 0 ?_; rintro a116 k117 rfl
   refine Oq Vm (Oq Vm ?_)
   refine Jl [1] (Ent.freeze _ _) ?_
   refine Oa (Asl [0] sl22 0 (k_83.toNat)) fun c118 => ?_
   refine Jo 0 ?_; rintro a119 k120 rfl
   refine Fb 8 0 fun _ => Fo 0 fun ho122 => ?_
   have hn123 : ((l_54.take (k_83.toNat)).drop 0).length = (k_83.toNat) - 0 := len_slice rng rng
   refine Jl [2] (Ent.crNil (α := Int) _) ?_
   refine Oa (Ap0 [0, 0] sl22 sl22 sz22) fun c124 => ?_
   refine Jo 0 ?_; rintro a125 k126 rfl
   refine Oq Va (KS ?_)
   refine Oq Vm (Oq Vm (Oa (AsV sl22 sz22 [vi n_55] [vi n_55]) fun c127 => ?_))
   refine Jo 0 ?_; rintro a128 k129 rfl
   refine Jl [0] (Ent.crInt _ [n_55] _ _ rfl rfl (by intro x hx; rw [List.mem_singleton] at hx; subst hx; unfold i64ok; omega) aB1) ?_
   refine Oa (ApO [1, 0] sl22 sl22 sz22) fun c130 => ?_
   refine Jo 0 ?_; rintro a131 k132 rfl
   refine Fb 8 0 fun _ => Fo 0 fun ho134 => ?_
   have hn135 := la ((l_54.take (k_83.toNat)).drop 0) ([n_55] : List Int)
   refine Oq Va (KS ?_)
   refine Oq Vm (Oq Vm (Oq Vm (Oa (Asl [2] sl22 (k_83.toNat) l_54.length) fun c136 => ?_)))
   refine Jo 0 ?_; rintro a137 k138 rfl
   refine Fb 8 0 fun _ => Fo 0 fun ho140 => ?_
   have hn141 : ((l_54.take l_54.length).drop (k_83.toNat)).length = l_54.length - (k_83.toNat) := len_slice rng rng
   refine Oa (Ap [1, 0] sl22 sl22 sz22) fun c142 => ?_
   refine Jo 0 ?_; rintro a143 k144 rfl
   refine Fb 8 0 fun _ => Fo 0 fun ho146 => ?_
   have hn147 := la ((((l_54.take (k_83.toNat)).drop 0) ++ [n_55]) : List Int) ((l_54.take l_54.length).drop (k_83.toNat))
   refine Oq Va (KS ?_)
   refine Oq Vm (Oq Vadd (Oq Va (KS ?_)))
   exact Kg (r77, ((((l_54.take (k_83.toNat)).drop 0) ++ [n_55]) ++ ((l_54.take l_54.length).drop (k_83.toNat))), (n_55 + 1), a143, k144) [0, 3, 3, 3, 4, 5, 6, 7] ⟨(q3 hM58 (by simp only [r30_Places_L1, h75, h79, h100, h111, hg105, hg107, hR114, cs4])), aM1, aM1, aM1, aM1, (by first | assumption | exact RL_ins (by assumption) ⟨by omega, by omega⟩), iv1⟩
  intro h100
  have g148 := df h100
  obtain rfl : r82 = 0 := by omega
  refine Db h100 [] Vm (Ds (Ds (Ds (Ds (Ds (Ds (Ds (Ds (Ds ?_)))))))))
  refine Ds (Ds (Ds (Ds (Ds (Dv [] Vpf ?_)))))
  refine Dn ⟨by kernel_rfl, fun G => ?_⟩
  refine Jw2 [(2, p4), (6, vl a10 k11 rv6.1), (8, vl a34 k35 place_31), (9, vl a36 k37 out_32), (10, vi level_33), (11, vl a56 k57 l_54), (12, vi n_55), (13, vi k_83), (64, vb false)] [0, 1, 2, 3, 4, 5, 6, 7] [] ?_
  refine Kf ?_
  refine Ke ?_
  have hR149 := q2 hM84 k_83 (by simp only [r30_Places_L2, h100, cs4])
  refine KS ?_
  refine Oa (As0 sl22) fun c150 => ?_
  refine Jo 0 ?_; rintro a151 k152 rfl
  refine Oq Vm (Oq Vm ?_)
  refine Jl [1] (Ent.freeze _ _) ?_
  refine Oa (Asl [0] sl22 0 (k_83.toNat)) fun c153 => ?_
  refine Jo 0 ?_; rintro a154 k155 rfl
  refine Fb 8 0 fun _ => Fo 0 fun ho157 => ?_
  have hn158 : ((l_54.take (k_83.toNat)).drop 0).length = (k_83.toNat) - 0 := len_slice rng rng
  refine Jl [2] (Ent.crNil (α := Int) _) ?_
  refine Oa (Ap0 [0, 0] sl22 sl22 sz22) fun c159 => ?_
  refine Jo 0 ?_; rintro a160 k161 rfl
  refine Oq Va (KS ?_)
  refine Oq Vm (Oq Vm (Oa (AsV sl22 sz22 [vi n_55] [vi n_55]) fun c162 => ?_))
  refine Jo 0 ?_; rintro a163 k164 rfl
  refine Jl [0] (Ent.crInt _ [n_55] _ _ rfl rfl (by intro x hx; rw [List.mem_singleton] at hx; subst hx; unfold i64ok; omega) aB1) ?_
  refine Oa (ApO [1, 0] sl22 sl22 sz22) fun c165 => ?_
  refine Jo 0 ?_; rintro a166 k167 rfl
  refine Fb 8 0 fun _ => Fo 0 fun ho169 => ?_
  have hn170 := la ((l_54.take (k_83.toNat)).drop 0) ([n_55] : List Int)
  refine Oq Va (KS ?_)
  refine Oq Vm (Oq Vm (Oq Vm (Oa (Asl [2] sl22 (k_83.toNat) l_54.length) fun c171 => ?_)))
  refine Jo 0 ?_; rintro a172 k173 rfl
  refine Fb 8 0 fun _ => Fo 0 fun ho175 => ?_
  have hn176 : ((l_54.take l_54.length).drop (k_83.toNat)).length = l_54.length - (k_83.toNat) := len_slice rng rng
  refine Oa (Ap [1, 0] sl22 sl22 sz22) fun c177 => ?_
  refine Jo 0 ?_; rintro a178 k179 rfl
  refine Fb 8 0 fun _ => Fo 0 fun ho181 => ?_
  have hn182 := la ((((l_54.take (k_83.toNat)).drop 0) ++ [n_55]) : List Int) ((l_54.take l_54.length).drop (k_83.toNat))
  refine Oq Va (KS ?_)
  refine Oq Vm (Oq Vadd (Oq Va (KS ?_)))
  exact Kg (r77, ((((l_54.take (k_83.toNat)).drop 0) ++ [n_55]) ++ ((l_54.take l_54.length).drop (k_83.toNat))), (n_55 + 1), a178, k179) [0, 3, 3, 3, 4, 5, 6, 7] ⟨(q3 hM58 (by simp only [r30_Places_L1, h75, h79, h100, hR149, cs4])), aM1, aM1, aM1, aM1, (by first | assumption | exact RL_ins (by assumption) ⟨by omega, by omega⟩), iv1⟩
 intro h75
 have g183 := df h75
 obtain rfl : r53 = 0 := by omega
 refine Ke ?_
 have hR184 := q2 hM58 l_54 (by simp only [r30_Places_L1, h75, cs4])
 refine KS ?_
 refine Oq Vm (Oq (Vlen sl22) (Oq Veql (KS ?_)))
 refine Kc ?_ ?_
 ·intro h185
  have g186 := eq_of_beq h185
  refine KS ?_
  refine Oq Vm (Oq Va (Oq Va (KS ?_)))
  refine Jl [1] (Ent.freeze _ _) ?_
  have hR187 := q2 hM38 (.ret (out_32, 0)) (by simp only [r30_Places_L0, h75, h185, hR184, cs4])
  have hq := q4 hrr (out_32, 0) (by simp only [r30_Places, h14, h75, h185, hg7, hR184, hR187, cs4]); subst hq
  exact Kr (vl a36 k37 out_32) rfl (.tmp rfl (.tmp rfl .nil)) [0] en
 intro h185
 have g188 := ne_of_beq_false h185
 refine KS ?_
 refine Oq Va (KS ?_)
 refine Kl (γ := Nat × List Int × Int) (fun (r189, place_190, i_191) => ⟨[(2, p4), (6, vl a10 k11 rv6.1), (8, vl a34 k35 place_31), (9, vl a36 k37 out_32), (10, vi level_33), (11, vl a56 k57 l_54), (15, vi i_191)], [O a56 k57 l_54, O a36 k37 out_32, os (vl a34 k35 place_31) place_190, S a10 k11 rv6.1, pv p4 [vl ga0 gk0 g.Nodes, vl ga1 gk1 g.Succ, vl ga2 gk2 g.Pred], S ga0 gk0 g.Nodes, S ga1 gk1 g.Succ, S ga2 gk2 g.Pred], r30_Places_L3 l_54 r189 place_190 i_191 = r30_Places_L3 l_54 (((l_54.length : Int) - 0).toNat) place_31 0 ∧ r189 = ((l_54.length : Int) - i_191).toNat ∧ (0 : Int) ≤ i_191 ∧ i_191 ≤ (l_54.length : Int) ∧ (-9223372036854775808 ≤ i_191 ∧ i_191 ≤ 9223372036854775807) ∧ (place_190.length = g.Nodes.length), r189⟩) (((l_54.length : Int) - 0).toNat, place_31, 0) [0, 0, 0, 0, 1, 2, 3, 4] ⟨rfl, rfl, aM1, aM1, aM1, iv0⟩ ?_
 rintro ⟨r189, place_190, i_191⟩ ⟨hM192, hr193, hi194, hi195, hk196, hv197⟩
 refine JJ_nx fun _ _ hL hA => ?_; dsimp only at hL hA; subst hL hA
 refine Fb 8 0 fun _ => Fo 0 fun ho199 => Fb 24 1 fun _ => Fb 8 2 fun _ => Fo 2 fun ho202 => Fl 2 fun hn203 => ?_
 refine Fb 8 3 fun _ => Fo 3 fun ho205 => Fb 32 5 fun _ => Fb 24 6 fun _ => Fb 24 7 fun _ => KS ?_
 refine Oq Vm (Oq Vm (Oq (Vlen sl22) (Oq Vlss (KS ?_))))
 refine Kc ?_ ?_
 ·intro h209
  have g210 := dt h209
  have hlg := RL_get (i := i_191.toNat) (by assumption : RL _ l_54) aM1
  obtain ⟨r211, rfl⟩ := scc (n := r189) aM1
  refine KS ?_
  refine Oq Vm (Oq Vm (Oq Vm (Oq (Vi sl22 0) ?_)))
  have hb212 := ok1 (i := i_191.toNat) ho199 rng
  refine Oq (VldI sh3 0) (Oq Vm (Oq (Vi sl22 2) (Ost (SoI [2] sh3) (KS ?_))))
  refine Oq Vm (Oq Vadd (Oq Va (KS ?_)))
  exact Kg (r211, (place_190.set ((l_54.getD i_191.toNat 0) : Int).toNat i_191), (i_191 + 1)) [1, 1, 0, 0, 1, 2, 3, 4] ⟨(q3 hM192 (by simp only [r30_Places_L3, h209, cs4])), aM1, aM1, aM1, aM1, iv1⟩
 intro h209
 have g213 := df h209
 obtain rfl : r189 = 0 := by omega
 refine Ke ?_
 have hR214 := q2 hM192 place_190 (by simp only [r30_Places_L3, h209, cs4])
 refine KS ?_
 refine Oq Vm (Oq Vm (Oa (AsV sl24 sz24 [vl a56 k57 l_54] [vl a56 k57 l_54]) fun c215 => ?_))
 refine Jo 0 ?_; rintro a216 k217 rfl
 refine Jl [1] (Ent.freeze _ _) ?_
 refine Jl [1, 0] (Ent.cr1 (α := List Int) (A := [S a56 k57 l_54]) _ l_54 _ aB1 (fun h => ⟨_, rfl, sepAll_get (i := 0) rfl h⟩)) ?_
 refine Oa (ApO [3, 0] sl24 sl24 sz24) fun c218 => ?_
 refine Jo 0 ?_; rintro a219 k220 rfl
 refine Fb 24 0 fun _ => ?_
 have hn222 := la out_32 ([l_54] : List (List Int))
 refine Oq Va (KS ?_)
 refine Oq Vm (Oq Vadd (Oq Va (KS ?_)))
 refine Fl 3 fun hn223 => ?_; (try unfold vl); rw [← hn223]
 exact Kg (r30, place_190, (out_32 ++ [l_54]), (level_33 + 1), a34, k35, a219, k220) [0, 2, 2, 3, 4, 5, 6] ⟨(q3 hM38 (by simp only [r30_Places_L0, h75, h185, h209, hR184, hR214, cs4])), aM1, iv1, iv1, iv1, (RW_app (by assumption) (by assumption))⟩
theorem fn14 (g : GGraph) (ga0 : Option Addr) (gk0 : Nat) (ga1 : Option Addr) (gk1 : Nat) (ga2 : Option Addr) (gk2 : Nat) (root : Int) (hroot_0 : i64ok root) (rr : List GPoint × Int) (hrr : r30_Points g root = rr) : FT Tryz.prog 14 #[.agg #[vl ga0 gk0 g.Nodes, vl ga1 gk1 g.Succ, vl ga2 gk2 g.Pred], vi root] [S ga0 gk0 g.Nodes, S ga1 gk1 g.Succ, S ga2 gk2 g.Pred] (fun g : Value => i64ok rr.2) (fun g => .tuple #[g, vi rr.2]) (fun g => [os g rr.1]) := by
 refine FTi Tryz.func14 fun w0 M0 F0 => ?_
 unfold i64ok at hroot_0
 refine Fb 32 0 fun _ => Fb 24 1 fun _ => Fb 24 2 fun _ => KS ?_
 refine Oa (Ab [vl ga0 gk0 g.Nodes, vl ga1 gk1 g.Succ, vl ga2 gk2 g.Pred]) fun p4 => Oq Va (Oq Va (KS ?_))
 refine Oq (VldA sh26 0) (Oq Vm ?_)
 refine letv (r30_Places g root) fun rv6 hg7 => ?_
 have hc8 := fn16 g ga0 gk0 ga1 gk1 ga2 gk2 root pre rv6 hg7
 refine Oc [1, 2, 3] ca16 hc8 ?_
 rintro c5 he9
 unfold i64ok at he9
 refine Jo 0 ?_; rintro a10 k11 rfl
 refine Fb 24 0 fun _ => ?_
 refine Oq Vm (Oq Vx (Oq Vx (Oq Va (Oq Va (KS ?_)))))
 refine Oq Vm (Oq Vneq (KS ?_))
 refine Kc ?_ ?_
 ·intro h13
  have g14 := ne_of_bne h13
  refine KS ?_
  refine Oq Vm (Oq Va (Oq Va (KS ?_)))
  refine Jl [] (Ent.osNil (α := GPoint)) ?_
  have hq := q4 hrr (([] : List GPoint), rv6.2) (by simp only [r30_Points, h13, hg7, cs4]); subst hq
  exact Kr (.slice none 0 0) rfl (.tmp rfl (.tmp rfl .nil)) [0] en
 intro h13
 have g15 := eq_of_bne_false h13
 obtain ⟨hrw, hn1, hn2⟩ := Places_ok (by assumption) h13
 refine KS ?_
 refine Oq (Vfa fo26_0 1) (Oq (VldF sh23 1) (Oq (Vlen sl23) (Oa (Amk (α := GPoint) sl44 sz44 (default : GPoint) zrd_GPoint) fun c16 => ?_)))
 refine Jo 0 ?_; rintro a17 k18 rfl
 refine Fb 16 0 fun _ => ?_
 have hn20 := List.length_replicate (n := (g.Nodes.length : Int).toNat) (a := ((default : GPoint) : GPoint))
 refine Oq Va (KS ?_)
 refine Oq Va (KS ?_)
 refine Kl (γ := Nat × List GPoint × Int) (fun (r21, out_22, i_23) => ⟨[(6, vl a10 k11 rv6.1), (8, vl a17 k18 (List.replicate (g.Nodes.length : Int).toNat (default : GPoint))), (9, vi i_23)], [os (vl a17 k18 (List.replicate (g.Nodes.length : Int).toNat (default : GPoint))) out_22, S a10 k11 rv6.1], r30_Points_L0 r21 out_22 i_23 = r30_Points_L0 ((((((List.replicate (g.Nodes.length : Int).toNat (default : GPoint)).length : Nat) : Int) : Int) - 0).toNat) (List.replicate (g.Nodes.length : Int).toNat (default : GPoint)) 0 ∧ r21 = (((((List.replicate (g.Nodes.length : Int).toNat (default : GPoint)).length : Nat) : Int) : Int) - i_23).toNat ∧ (0 : Int) ≤ i_23 ∧ (i_23 ≤ (((List.replicate (g.Nodes.length : Int).toNat (default : GPoint)).length : Nat) : Int) ∨ i_23 = 0) ∧ (-9223372036854775808 ≤ i_23 ∧ i_23 ≤ 9223372036854775807) ∧ (out_22.length = g.Nodes.length), r21⟩) ((((((List.replicate (g.Nodes.length : Int).toNat (default : GPoint)).length : Nat) : Int) : Int) - 0).toNat, (List.replicate (g.Nodes.length : Int).toNat (default : GPoint)), 0) [0, 0] ⟨rfl, rfl, aM1, (.inr rfl), aM1, iv0⟩ ?_
 rintro ⟨r21, out_22, i_23⟩ ⟨hM24, hr25, hi26, hi27, hk28, hv29⟩
 refine JJ_nx fun _ _ hL hA => ?_; dsimp only at hL hA; subst hL hA
 refine Fb 16 0 fun _ => Fl 0 fun hn31 => ?_
 refine Fb 24 1 fun _ => KS ?_
 refine Oq Vm (Oq Vm (Oq (Vlen sl44) (Oq Vlss (KS ?_))))
 refine Kc ?_ ?_
 ·intro h33
  have g34 := dt h33
  obtain ⟨r35, rfl⟩ := scc (n := r21) aM1
  refine KS ?_
  refine Oq Vm (Oq Vm (Oq (Vbd st65 [vi (-1), vi 0]) (Oq (Vi sl44 0) ?_)))
  refine Ost (So (Rs := []) [0] sh65 (GPoint.mk (-1) 0) (fun h => ⟨rfl, aL1, aL1⟩)) (KS ?_)
  refine Oq Vm (Oq Vadd (Oq Va (KS ?_)))
  exact Kg (r35, (out_22.set i_23.toNat (GPoint.mk (-1) 0)), (i_23 + 1)) [0, 0] ⟨(q3 hM24 (by simp only [r30_Points_L0, h33, cs4])), aM1, aM1, aM1, aM1, iv1⟩
 intro h33
 have g36 := df h33
 obtain rfl : r21 = 0 := by omega
 refine Ke ?_
 have hR37 := q2 hM24 out_22 (by simp only [r30_Points_L0, h33, cs4])
 refine KS ?_
 refine Oq Va (KS ?_)
 refine Kl (γ := Nat × List GPoint × Int) (fun (r38, out_39, level_40) => ⟨[(6, vl a10 k11 rv6.1), (8, vl a17 k18 (List.replicate (g.Nodes.length : Int).toNat (default : GPoint))), (10, vi level_40)], [os (vl a17 k18 (List.replicate (g.Nodes.length : Int).toNat (default : GPoint))) out_39, S a10 k11 rv6.1], r30_Points_L1 rv6.1 r38 out_39 level_40 = r30_Points_L1 rv6.1 (((rv6.1.length : Int) - 0).toNat) out_22 0 ∧ r38 = ((rv6.1.length : Int) - level_40).toNat ∧ (0 : Int) ≤ level_40 ∧ level_40 ≤ (rv6.1.length : Int) ∧ (-9223372036854775808 ≤ level_40 ∧ level_40 ≤ 9223372036854775807) ∧ (out_39.length = g.Nodes.length), r38⟩) (((rv6.1.length : Int) - 0).toNat, out_22, 0) [0, 0] ⟨rfl, rfl, aM1, aM1, aM1, iv0⟩ ?_
 rintro ⟨r38, out_39, level_40⟩ ⟨hM41, hr42, hi43, hi44, hk45, hv46⟩
 refine JJ_nx fun _ _ hL hA => ?_; dsimp only at hL hA; subst hL hA
 refine Fb 16 0 fun _ => Fl 0 fun hn48 => ?_
 refine Fb 24 1 fun _ => KS ?_
 refine Oq Vm (Oq Vm (Oq (Vlen sl24) (Oq Vlss (KS ?_))))
 refine Kc ?_ ?_
 ·intro h50
  have g51 := dt h50
  obtain ⟨r52, rfl⟩ := scc (n := r38) aM1
  refine KS ?_
  refine Oq Va (KS ?_)
  refine Kl (γ := Nat × List GPoint × Int) (fun (r53, out_54, i_55) => ⟨[(6, vl a10 k11 rv6.1), (8, vl a17 k18 (List.replicate (g.Nodes.length : Int).toNat (default : GPoint))), (10, vi level_40), (11, vi i_55)], [os (vl a17 k18 (List.replicate (g.Nodes.length : Int).toNat (default : GPoint))) out_54, S a10 k11 rv6.1], r30_Points_L2 rv6.1 level_40 r53 out_54 i_55 = r30_Points_L2 rv6.1 level_40 (((((rv6.1.getD level_40.toNat []).length : Int) : Int) - 0).toNat) out_39 0 ∧ r53 = ((((rv6.1.getD level_40.toNat []).length : Int) : Int) - i_55).toNat ∧ (0 : Int) ≤ i_55 ∧ (i_55 ≤ ((rv6.1.getD level_40.toNat []).length : Int) ∨ i_55 = 0) ∧ (-9223372036854775808 ≤ i_55 ∧ i_55 ≤ 9223372036854775807) ∧ (out_54.length = g.Nodes.length), r53⟩) (((((rv6.1.getD level_40.toNat []).length : Int) : Int) - 0).toNat, out_39, 0) [0, 0] ⟨rfl, rfl, aM1, (.inr rfl), aM1, iv0⟩ ?_
  rintro ⟨r53, out_54, i_55⟩ ⟨hM56, hr57, hi58, hi59, hk60, hv61⟩
  refine JJ_nx fun _ _ hL hA => ?_; dsimp only at hL hA; subst hL hA
  refine Fb 16 0 fun _ => Fl 0 fun hn63 => ?_
  refine Fb 24 1 fun _ => KS ?_
  refine Oq Vm (Oq Vm (Oq Vm (Oq (Vi sl24 1) ?_)))
  refine JJ_peekL level_40.toNat 1 rfl rng fun a65 k66 => ?_
  refine Fb 8 1 fun _ => Fo 1 fun ho68 => ?_
  refine Oq (Vld sh22 0) (Oq (Vlen sl22) (Oq Vlss (KS ?_)))
  refine Kc ?_ ?_
  ·intro h69
   have g70 := dt h69
   have hrg := RW_get (i := level_40.toNat) (k := i_55.toNat) hrw aM1 aM1
   obtain ⟨r71, rfl⟩ := scc (n := r53) aM1
   refine KS ?_
   refine Oq Vm (Oq Vm (Oq Vm (Oq (Vi sl24 3) (Oq (Vld sh22 0) (Oq Vm (Oq (Vi sl22 1) ?_))))))
   have hb72 := ok1 (i := i_55.toNat) ho68 rng
   refine Oq (VldI sh3 1) (Oq Vm (Oq Vm (Oq (Vbd st65 [vi i_55, vi level_40]) (Oq (Vi sl44 2) ?_))))
   refine Ost (So (Rs := []) [2] sh65 (GPoint.mk i_55 level_40) (fun h => ⟨rfl, aL1, aL1⟩)) (KS ?_)
   refine Oq Vm (Oq Vadd (Oq Va (KS ?_)))
   exact Kg (r71, (out_54.set (((rv6.1.getD level_40.toNat []).getD i_55.toNat 0) : Int).toNat (GPoint.mk i_55 level_40)), (i_55 + 1)) [0, 2] ⟨(q3 hM56 (by simp only [r30_Points_L2, h69, cs4])), aM1, aM1, aM1, aM1, iv1⟩
  intro h69
  have g73 := df h69
  obtain rfl : r53 = 0 := by omega
  refine Ke ?_
  have hR74 := q2 hM56 out_54 (by simp only [r30_Points_L2, h69, cs4])
  refine KS ?_
  refine Oq Vm (Oq Vadd (Oq Va (KS ?_)))
  exact Kg (r52, out_54, (level_40 + 1)) [2, 2] ⟨(q3 hM41 (by simp only [r30_Points_L1, h50, h69, hR74, cs4])), aM1, aM1, aM1, aM1, iv1⟩
 intro h50
 have g75 := df h50
 obtain rfl : r38 = 0 := by omega
 refine Ke ?_
 have hR76 := q2 hM41 out_39 (by simp only [r30_Points_L1, h50, cs4])
 refine KS ?_
 refine Oq Vm (Oq Va (Oq Va (KS ?_)))
 have hq := q4 hrr (out_39, 0) (by simp only [r30_Points, h13, h33, h50, hg7, hR37, hR76, cs4]); subst hq
 exact Kr (vl a17 k18 (List.replicate (g.Nodes.length : Int).toNat (default : GPoint))) rfl (.tmp rfl (.tmp rfl .nil)) [0] en
theorem fn84 (i : Int) (hi_0 : i64ok i) (hi : 0 ≤ i ∧ i < 100) (rr : Str) (hrr : ic_small i = rr) : FT Tryz.prog 84 #[vi i] [] (fun g : Unit => rr.b.length ≤ 140737488355328 ∧ (rr.b.length ≤ 2)) (fun g => .string (bs rr)) (fun g => []) := by
 refine FTi Tryz.func84 fun w0 M0 F0 => ?_
 unfold i64ok at hi_0
 refine KS ?_
 refine Oq Va (KS ?_)
 refine Oq Vm (Oq Vlss (KS ?_))
 refine Kc ?_ ?_
 ·intro h1
  have g2 := dt h1
  refine KS ?_
  refine Oq Vm (Oq Vm (Oq Vadd ?_))
  have hb3 : tab1.b.length = 36 := rfl
  refine Oq (VslS un9 (l := tab1)) ?_
  have hb4 := sub_len3 tab1 i.toNat ((i + 1) : Int).toNat
  refine Oq Va (KS ?_)
  have hq := q4 hrr (tab1.sub i.toNat ((i + 1) : Int).toNat) (by simp only [ic_small, h1, cs4]); subst hq
  exact Kr () rfl (.tmp rfl .nil) [] en
 intro h1
 have g5 := df h1
 refine KS ?_
 refine Oq Vm (Oq Vmul (Oq Vm (Oq Vmul (Oq Vadd ?_))))
 have hb6 : tab2.b.length = 200 := rfl
 refine Oq (VslS un9 (l := tab2)) ?_
 have hb7 := sub_len3 tab2 ((i * 2) : Int).toNat (((i * 2) + 2) : Int).toNat
 refine Oq Va (KS ?_)
 have hq := q4 hrr (tab2.sub ((i * 2) : Int).toNat (((i * 2) + 2) : Int).toNat) (by simp only [ic_small, h1, cs4]); subst hq
 exact Kr () rfl (.tmp rfl .nil) [] en
theorem fn64 (i : Int) (base : Int) (hi_0 : i64ok i) (hbase_0 : i64ok base) (hi : 0 ≤ i ∧ i < 100 ∧ base = 10) (rr : Str) (hrr : ic_FormatInt i base = rr) : FT Tryz.prog 64 #[vi i, vi base] [] (fun g : Unit => rr.b.length ≤ 140737488355328 ∧ (rr.b.length ≤ 2)) (fun g => .string (bs rr)) (fun g => []) := by
 refine FTi Tryz.func64 fun w0 M0 F0 => ?_
 unfold i64ok at hi_0 hbase_0
 refine KS ?_
 refine Oq Va (KS ?_)
 refine Oq Vm (Oq Veql (KS ?_))
 refine Kc ?_ ?_
 ·intro h1
  have g2 := eq_of_beq h1
  refine KS ?_
  refine Oq Vm (Oq Vleq (Oq Vm ?_))
  refine Js 14 ?_ ?_
  ·intro h3
   have g4 := dt h3
   refine Oq Vm (Oq Vlss (Oq Vpt (KS ?_)))
   refine Kc ?_ ?_
   ·intro h5
    have g6 := dt h5
    refine KS ?_
    refine Oq Vm ?_
    refine letv (ic_small i) fun rv7 hg8 => ?_
    have hc9 := fn84 i pre pre rv7 hg8
    refine Oc [] ca84 hc9 ?_
    rintro - ⟨he10, he11⟩
    refine Oq Va (KS ?_)
    have hq := q4 hrr rv7 (by simp only [ic_FormatInt, h1, h3, h5, hg8, cs4]); subst hq
    exact Kr () rfl (.tmp rfl .nil) [] en
   intro h5
   have g12 := df h5
   exfalso; omega
  intro h3
  have g13 := df h3
  exfalso; omega
 intro h1
 have g14 := ne_of_beq_false h1
 exfalso; omega
theorem fn48 (i : Int) (hi_0 : i64ok i) (hi : 0 ≤ i ∧ i < 100) (rr : Str) (hrr : ic_Itoa i = rr) : FT Tryz.prog 48 #[vi i] [] (fun g : Unit => rr.b.length ≤ 140737488355328 ∧ (rr.b.length ≤ 2)) (fun g => .string (bs rr)) (fun g => []) := by
 refine FTi Tryz.func48 fun w0 M0 F0 => ?_
 unfold i64ok at hi_0
 refine KS ?_
 refine Oq Va (KS ?_)
 refine Oq Vm ?_
 refine letv (ic_FormatInt i 10) fun rv1 hg2 => ?_
 have hc3 := fn64 i 10 pre pre pre rv1 hg2
 refine Oc [] ca64 hc3 ?_
 rintro - ⟨he4, he5⟩
 refine Oq Va (KS ?_)
 have hq := q4 hrr rv1 (by simp only [ic_Itoa, hg2, cs4]); subst hq
 exact Kr () rfl (.tmp rfl .nil) [] en
theorem fn29 (i : Int) (hi_0 : i64ok i) (hi : 0 ≤ i ∧ i < 100) (rr : Str) (hrr : st_Itoa i = rr) : FT Tryz.prog 29 #[vi i] [] (fun g : Unit => rr.b.length ≤ 140737488355328 ∧ (rr.b.length ≤ 2)) (fun g => .string (bs rr)) (fun g => []) := by
 refine FTi Tryz.func29 fun w0 M0 F0 => ?_
 unfold i64ok at hi_0
 refine KS ?_
 refine Oq Va (KS ?_)
 refine Oq Vm ?_
 refine letv (ic_Itoa i) fun rv1 hg2 => ?_
 have hc3 := fn48 i pre pre rv1 hg2
 refine Oc [] ca48 hc3 ?_
 rintro - ⟨he4, he5⟩
 refine Oq Va (KS ?_)
 have hq := q4 hrr rv1 (by simp only [st_Itoa, hg2, cs4]); subst hq
 exact Kr () rfl (.tmp rfl .nil) [] en
def lay166_ren : Go.Shelf.Ren := ⟨(fun n => match n with | 166 => 30 | 240 => 49 | 276 => 65 | _ => 0), (fun n => match n with | 0 => 0 | 3 => 3 | 4 => 4 | 5 => 5 | 9 => 9 | 20 => 20 | 37 => 67 | 70 => 66 | 72 => 69 | 75 => 72 | 80 => 76 | 164 => 112 | _ => 0), (fun _ => 0)⟩
theorem lay166 : Go.Proofs.Lays.n166 Tryz.prog lay166_ren where
 mixed := by kernel_rfl
 f166 := by kernel_rfl
 f240 := by kernel_rfl
 f276 := by kernel_rfl
 t0 := by kernel_rfl
 a0 := fun w => rfl
 z0 := fun w => rfl
 v0 := fun w => rfl
 t3 := by kernel_rfl
 a3 := fun w => rfl
 z3 := fun w => rfl
 v3 := fun w => rfl
 t4 := by kernel_rfl
 a4 := fun w => rfl
 z4 := fun w => rfl
 v4 := fun w => rfl
 t9 := by kernel_rfl
 a9 := fun w => rfl
 z9 := fun w => rfl
 v9 := fun w => rfl
 t20 := by kernel_rfl
 a20 := fun w => rfl
 z20 := fun w => rfl
 v20 := fun w => rfl
 t37 := by kernel_rfl
 a37 := fun w => rfl
 z37 := fun w => rfl
 v37 := fun w => rfl
 t70 := by kernel_rfl
 a70 := fun w => rfl
 z70 := fun w => rfl
 v70 := fun w => rfl
 t72 := by kernel_rfl
 a72 := fun w => rfl
 z72 := fun w => rfl
 v72 := fun w => rfl
 t75 := by kernel_rfl
 a75 := fun w => rfl
 z75 := fun w => rfl
 v75 := fun w => rfl
 t164 := by kernel_rfl
 a164 := fun w => rfl
 z164 := fun w => rfl
 v164 := fun w => rfl
theorem lay166x : Go.Proofs.Builder.Extra Tryz.prog lay166_ren where
 sizeBuilder := by kernel_rfl
 liesBuilder := by kernel_rfl
 t5 := by kernel_rfl
 a5 := fun w => rfl
 z5 := fun w => rfl
 v5 := fun w => rfl
 infoByte := by kernel_rfl
 cellsByte := by kernel_rfl
 sizeByte := by kernel_rfl
 neB5 := by decide
theorem fn30 (bP : Value) (b : List UInt8) (s : Str) (hs_0 : s.b.length ≤ 140737488355328) (hl0 : b.length + s.b.length ≤ 140737488355328) (rr : List UInt8) (hrr : Builder_WriteString b s = rr) : FT Tryz.prog 30 #[bP, .string (bs s)] [BD 69 5 bP b] (fun g : Unit => (rr.length = b.length + s.b.length)) (fun g => .tuple #[vi (s.b.length : Int), .nilIface]) (fun g => [BD 69 5 bP rr]) := by
 have hm : Builder_WriteString b s = b ++ s.b := rfl
 rw [hm] at hrr
 subst hrr
 exact FT_wstr2 lay166 lay166x bP b s hl0
def lay156_ren : Go.Shelf.Ren := ⟨(fun n => match n with | 156 => 31 | 165 => 50 | 166 => 30 | 169 => 32 | 240 => 49 | 241 => 66 | 276 => 65 | 277 => 88 | _ => 0), (fun n => match n with | 0 => 0 | 3 => 3 | 4 => 4 | 5 => 5 | 9 => 9 | 20 => 20 | 31 => 70 | 37 => 67 | 70 => 66 | 72 => 69 | 75 => 72 | 76 => 73 | 80 => 76 | 127 => 95 | 164 => 112 | _ => 0), (fun _ => 0)⟩
theorem lay156 : Go.Proofs.Lays.n156 Tryz.prog lay156_ren where
 mixed := by kernel_rfl
 f156 := by kernel_rfl
 f165 := by kernel_rfl
 f166 := by kernel_rfl
 f169 := by kernel_rfl
 f240 := by kernel_rfl
 f241 := by kernel_rfl
 f276 := by kernel_rfl
 f277 := by kernel_rfl
 t0 := by kernel_rfl
 a0 := fun w => rfl
 z0 := fun w => rfl
 v0 := fun w => rfl
 t3 := by kernel_rfl
 a3 := fun w => rfl
 z3 := fun w => rfl
 v3 := fun w => rfl
 t4 := by kernel_rfl
 a4 := fun w => rfl
 z4 := fun w => rfl
 v4 := fun w => rfl
 t9 := by kernel_rfl
 a9 := fun w => rfl
 z9 := fun w => rfl
 v9 := fun w => rfl
 t20 := by kernel_rfl
 a20 := fun w => rfl
 z20 := fun w => rfl
 v20 := fun w => rfl
 t31 := by kernel_rfl
 a31 := fun w => rfl
 z31 := fun w => rfl
 v31 := fun w => rfl
 t37 := by kernel_rfl
 a37 := fun w => rfl
 z37 := fun w => rfl
 v37 := fun w => rfl
 t70 := by kernel_rfl
 a70 := fun w => rfl
 z70 := fun w => rfl
 v70 := fun w => rfl
 t72 := by kernel_rfl
 a72 := fun w => rfl
 z72 := fun w => rfl
 v72 := fun w => rfl
 t75 := by kernel_rfl
 a75 := fun w => rfl
 z75 := fun w => rfl
 v75 := fun w => rfl
 t76 := by kernel_rfl
 a76 := fun w => rfl
 z76 := fun w => rfl
 v76 := fun w => rfl
 t127 := by kernel_rfl
 a127 := fun w => rfl
 z127 := fun w => rfl
 v127 := fun w => rfl
 t164 := by kernel_rfl
 a164 := fun w => rfl
 z164 := fun w => rfl
 v164 := fun w => rfl
theorem lay156x : Go.Proofs.Builder.Extra Tryz.prog lay156_ren where
 sizeBuilder := by kernel_rfl
 liesBuilder := by kernel_rfl
 t5 := by kernel_rfl
 a5 := fun w => rfl
 z5 := fun w => rfl
 v5 := fun w => rfl
 infoByte := by kernel_rfl
 cellsByte := by kernel_rfl
 sizeByte := by kernel_rfl
 neB5 := by decide
theorem fn31 (elems : List Str) (elemsa0 : Option Addr) (elemsk0 : Nat) (sep : Str) (hsep_0 : sep.b.length ≤ 140737488355328) (hj0 : (joinS elems sep).b.length ≤ 140737488355328) (rr : Str) (hrr : strings_Join elems sep = rr) : FT Tryz.prog 31 #[vl elemsa0 elemsk0 elems, .string (bs sep)] [S elemsa0 elemsk0 elems] (fun g : Unit => rr.b.length ≤ 140737488355328) (fun g => .string (bs rr)) (fun g => []) := by
 have hm : strings_Join elems sep = joinS elems sep := rfl
 rw [hm] at hrr
 subst hrr
 exact FT_join (fun bk o c xs sep w h1 h2 h3 h4 h5 => Go.Proofs.Any.strings_Join lay156 lay156x bk o c xs sep w h1 h2 h3 h4 h5) (fun a c sep w => Go.Proofs.Any.strings_Join_none lay156 lay156x a c sep w) elemsa0 elemsk0 elems sep hj0
def lay169_ren : Go.Shelf.Ren := ⟨(fun n => match n with | 169 => 32 | _ => 0), (fun n => match n with | 0 => 0 | 3 => 3 | 5 => 5 | 9 => 9 | 37 => 67 | 70 => 66 | 72 => 69 | 127 => 95 | _ => 0), (fun _ => 0)⟩
theorem lay169 : Go.Proofs.Lays.n169 Tryz.prog lay169_ren where
 mixed := by kernel_rfl
 f169 := by kernel_rfl
 t0 := by kernel_rfl
 a0 := fun w => rfl
 z0 := fun w => rfl
 v0 := fun w => rfl
 t3 := by kernel_rfl
 a3 := fun w => rfl
 z3 := fun w => rfl
 v3 := fun w => rfl
 t9 := by kernel_rfl
 a9 := fun w => rfl
 z9 := fun w => rfl
 v9 := fun w => rfl
 t37 := by kernel_rfl
 a37 := fun w => rfl
 z37 := fun w => rfl
 v37 := fun w => rfl
 t70 := by kernel_rfl
 a70 := fun w => rfl
 z70 := fun w => rfl
 v70 := fun w => rfl
 t72 := by kernel_rfl
 a72 := fun w => rfl
 z72 := fun w => rfl
 v72 := fun w => rfl
 t127 := by kernel_rfl
 a127 := fun w => rfl
 z127 := fun w => rfl
 v127 := fun w => rfl
theorem lay169x : Go.Proofs.Builder.Extra Tryz.prog lay169_ren where
 sizeBuilder := by kernel_rfl
 liesBuilder := by kernel_rfl
 t5 := by kernel_rfl
 a5 := fun w => rfl
 z5 := fun w => rfl
 v5 := fun w => rfl
 infoByte := by kernel_rfl
 cellsByte := by kernel_rfl
 sizeByte := by kernel_rfl
 neB5 := by decide
theorem fn32 (bP : Value) (b : List UInt8) (hl0 : b.length ≤ 140737488355328) (rr : Str) (hrr : Builder_String b = rr) : FT Tryz.prog 32 #[bP] [BD 69 5 bP b] (fun g : Unit => rr.b.length ≤ 140737488355328) (fun g => .string (bs rr)) (fun g => []) := by
 have hm : Builder_String b = Str.mk b := rfl
 rw [hm] at hrr
 subst hrr
 exact FT_bstr lay169 lay169x bP b hl0
theorem fn15 (g : GGraph) (ga0 : Option Addr) (gk0 : Nat) (ga1 : Option Addr) (gk1 : Nat) (ga2 : Option Addr) (gk2 : Nat) (root : Int) (hroot_0 : i64ok root) (hn0 : g.Nodes.length ≤ 12) (rr : Str × Int) (hrr : layout_Draw g root = rr) : FT Tryz.prog 15 #[.agg #[vl ga0 gk0 g.Nodes, vl ga1 gk1 g.Succ, vl ga2 gk2 g.Pred], vi root] [S ga0 gk0 g.Nodes, S ga1 gk1 g.Succ, S ga2 gk2 g.Pred] (fun g : Unit => rr.1.b.length ≤ 140737488355328 ∧ i64ok rr.2) (fun g => .tuple #[.string (bs rr.1), vi rr.2]) (fun g => []) := by
 refine FTi Tryz.func15 fun w0 M0 F0 => ?_
 unfold i64ok at hroot_0
 refine Fb 32 0 fun _ => Fb 24 1 fun _ => Fb 24 2 fun _ => KS ?_
 refine Oa (Ab [vl ga0 gk0 g.Nodes, vl ga1 gk1 g.Succ, vl ga2 gk2 g.Pred]) fun p4 => Oq Va (Oq Va (KS ?_))
 refine Oq (VldA sh26 0) (Oq Vm ?_)
 refine letv (layout_check g root) fun rv5 hg6 => ?_
 have hc7 := fn26 g ga0 gk0 ga1 gk1 ga2 gk2 root pre rv5 hg6
 refine Oc [1, 2, 3] ca26 hc7 ?_
 rintro - he8
 unfold i64ok at he8
 refine Oq Va (KS ?_)
 refine Oq Vm (Oq Vneq (KS ?_))
 refine Kc ?_ ?_
 ·intro h9
  have g10 := ne_of_bne h9
  refine KS ?_
  refine Oq Vm (Oq Va (Oq Va (KS ?_)))
  have hq := q4 hrr ((Str.mk []), rv5) (by simp only [layout_Draw, h9, hg6, cs4]); subst hq
  exact Kr () rfl (.tmp rfl (.tmp rfl .nil)) [] en
 intro h9
 have g11 := eq_of_bne_false h9
 obtain ⟨hvv, hr0, hr1⟩ := chk_ok (by assumption) h9; have hgv := Valid_VG hvv
 refine KS ?_
 refine Oa (AlB 5 ze69) fun p12 => KS ?_
 refine Oq (VldA sh26 1) (Oq Vm ?_)
 refine letv (layout_rows g root) fun rv14 hg15 => ?_
 obtain ⟨hrw, hrl⟩ := rows_RW hg15 hgv ⟨hr0, hr1⟩
 have hrn := rows_n hg15 hgv ⟨hr0, hr1⟩
 have hc16 := fn28 g ga0 gk0 ga1 gk1 ga2 gk2 root pre hvv ⟨hr0, hr1⟩ hn0 rv14 hg15
 refine Oc [2, 3, 4] ca28 hc16 ?_
 rintro c13 -
 refine Jo 0 ?_; rintro a17 k18 rfl
 refine Fb 24 0 fun _ => ?_
 refine Oq (Vlen sl24) (Oq Vm (KS ?_))
 refine Kl (γ := Nat × List UInt8 × Int) (fun (r20, b_21, v23_22) => ⟨[(7, p12), (21, vl a17 k18 rv14), (22, vi (rv14.length : Int)), (23, vi v23_22)], [S a17 k18 rv14, BD 69 5 p12 b_21], layout_Draw_L0 rv14 r20 b_21 v23_22 = layout_Draw_L0 rv14 (((rv14.length : Int) - 0).toNat) [] 0 ∧ r20 = ((rv14.length : Int) - v23_22).toNat ∧ (0 : Int) ≤ v23_22 ∧ v23_22 ≤ (rv14.length : Int) ∧ (-9223372036854775808 ≤ v23_22 ∧ v23_22 ≤ 9223372036854775807) ∧ ((b_21.length : Int) ≤ 100 * v23_22), r20⟩) (((rv14.length : Int) - 0).toNat, [], 0) [0, 1] ⟨rfl, rfl, aM1, aM1, aM1, iv0⟩ ?_
 rintro ⟨r20, b_21, v23_22⟩ ⟨hM23, hr24, hi25, hi26, hk27, hv28⟩
 refine JJ_nx fun _ _ hL hA => ?_; dsimp only at hL hA; subst hL hA
 refine Fb 24 0 fun _ => KS ?_
 refine Oq Vlss (KS ?_)
 refine Kc ?_ ?_
 ·intro h30
  have g31 := dt h30
  have hrk := hrn _ (getD_mem (xs := rv14) (i := v23_22.toNat) (d := []) aM1)
  obtain ⟨r32, rfl⟩ := scc (n := r20) aM1
  refine KS ?_
  refine Oq (Vi sl24 0) ?_
  refine JJ_peekL v23_22.toNat 0 rfl rng fun a33 k34 => ?_
  refine Fb 8 1 fun _ => Fo 1 fun ho36 => ?_
  refine Oq (Vld sh22 0) (Oq Va (KS ?_))
  refine Oq Va (KS ?_)
  refine Oq Vm (Oq (Vlen sl22) (Oq Vm (KS ?_)))
  refine Jl [] (Ent.osNil (α := Str)) ?_
  refine Kl (γ := Nat × List Str × Int × Option Addr × Nat) (fun (r37, words_38, v29_39, a40, k41) => ⟨[(7, p12), (21, vl a17 k18 rv14), (22, vi (rv14.length : Int)), (23, vi v23_22), (10, vl a40 k41 words_38), (27, vl a33 k34 (rv14.getD v23_22.toNat [])), (28, vi ((rv14.getD v23_22.toNat []).length : Int)), (29, vi v29_39)], [O a40 k41 words_38, S a33 k34 ((rv14.getD v23_22.toNat []) : List Int), S a17 k18 rv14, BD 69 5 p12 b_21], layout_Draw_L1 (rv14.getD v23_22.toNat []) r37 words_38 v29_39 = layout_Draw_L1 (rv14.getD v23_22.toNat []) (((((rv14.getD v23_22.toNat []).length : Int) : Int) - 0).toNat) [] 0 ∧ r37 = ((((rv14.getD v23_22.toNat []).length : Int) : Int) - v29_39).toNat ∧ (0 : Int) ≤ v29_39 ∧ (v29_39 ≤ ((rv14.getD v23_22.toNat []).length : Int) ∨ v29_39 = 0) ∧ (-9223372036854775808 ≤ v29_39 ∧ v29_39 ≤ 9223372036854775807) ∧ ((words_38.length : Int) ≤ v29_39) ∧ (∀ w ∈ words_38, w.b.length ≤ 2), r37⟩) (((((rv14.getD v23_22.toNat []).length : Int) : Int) - 0).toNat, [], 0, none, 0) [0, 1, 2, 3] ⟨rfl, rfl, aM1, (.inr rfl), aM1, iv0, (fun w h => (by cases h))⟩ ?_
  rintro ⟨r37, words_38, v29_39, a40, k41⟩ ⟨hM42, hr43, hi44, hi45, hk46, hv47, hv48⟩
  refine JJ_nx fun _ _ hL hA => ?_; dsimp only at hL hA; subst hL hA
  refine Fb 16 0 fun _ => ?_
  refine FoS 0 fun ho50 => ?_
  refine Fb 8 1 fun _ => Fo 1 fun ho52 => Fb 24 2 fun _ => KS ?_
  refine Oq Vlss (KS ?_)
  refine Kc ?_ ?_
  ·intro h54
   have g55 := dt h54
   have hrg := RW_get (i := v23_22.toNat) (k := v29_39.toNat) hrw aM1 aM1
   obtain ⟨r56, rfl⟩ := scc (n := r37) aM1
   refine KS ?_
   refine Oq (Vi sl22 1) ?_
   have hb57 := ok1 (i := v29_39.toNat) ho52 rng
   refine Oq (VldI sh3 1) (Oq Va (KS ?_))
   refine Oq Vm (Oq Vm ?_)
   refine letv (st_Itoa ((rv14.getD v23_22.toNat []).getD v29_39.toNat 0)) fun rv58 hg59 => ?_
   have hI := Itoa_len hg59 aM1
   have hc60 := fn29 (((rv14.getD v23_22.toNat []).getD v29_39.toNat 0)) pre pre rv58 hg59
   refine Oc [] ca29 hc60 ?_
   rintro - ⟨he61, he62⟩
   refine Oa (AsV sl70 sz70 [.string (bs rv58)] [.string (bs rv58)]) fun c63 => ?_
   refine Jo 0 ?_; rintro a64 k65 rfl
   refine Jl [0] (Ent.cr1 (α := Str) (A := []) _ rv58 _ aB1 (fun _ => ⟨rfl, aS1⟩)) ?_
   refine Oa (ApO [1, 0] sl70 sl70 sz70) fun c66 => ?_
   refine Jo 0 ?_; rintro a67 k68 rfl
   refine Fb 16 0 fun _ => ?_
   refine FoS 0 fun ho70 => ?_
   have hn71 := la words_38 ([rv58] : List Str)
   refine Oq Va (KS ?_)
   refine Oq Vadd (Oq Vm (KS ?_))
   exact Kg (r56, (words_38 ++ [rv58]), (v29_39 + 1), a67, k68) [0, 0, 1, 2] ⟨(q3 hM42 (by simp only [layout_Draw_L1, h54, hg59, cs4])), aM1, aM1, aM1, aM1, iv1, (fun w h => (List.mem_append.1 h).elim ((by assumption : ∀ w ∈ _, w.b.length ≤ 2) w) (fun h => by rw [List.mem_singleton.1 h]; omega))⟩
  intro h54
  have g72 := df h54
  obtain rfl : r37 = 0 := by omega
  refine Ke ?_
  have hR73 := q2 hM42 words_38 (by simp only [layout_Draw_L1, h54, cs4])
  refine KS ?_
  refine Oq Vm ?_
  refine letv (strings_Join words_38 (Str.mk [32])) fun rv74 hg75 => ?_
  have hJ := Join_len hg75 (by assumption)
  refine Oc [0] ca31 (FT_borrow (A := _) (fun _ _ h => by cases h) (FT_ent (Ent.take (is := [0]) rfl) (fn31 words_38 a40 k41 ((Str.mk [32])) pre (Nat.le_trans (joinS_len (m := 2) _ rfl _ (by assumption)) aM1) rv74 hg75))) ?_ (ht := rfl)
  rintro - he76
  have hb77 := sadd_len rv74 (Str.mk [10])
  have hb78 : (Str.mk [10]).b.length = 1 := rfl
  refine Oq (VadS (l := rv74) (m := (Str.mk [10]))) ?_
  refine letv (Builder_WriteString b_21 (rv74 ++ (Str.mk [10]))) fun rv79 hg80 => ?_
  have hc81 := fn30 p12 b_21 ((rv74 ++ (Str.mk [10]))) pre pre rv79 hg80
  refine Oc [3] ca30 hc81 ?_
  rintro - he82
  refine KS ?_
  refine Oq Vadd (Oq Vm (KS ?_))
  exact Kg (r32, rv79, (v23_22 + 1)) [3, 0] ⟨(q3 hM23 (by simp only [layout_Draw_L0, h30, h54, hR73, hg75, hg80, cs4])), aM1, aM1, aM1, aM1, iv1⟩
 intro h30
 have g83 := df h30
 obtain rfl : r20 = 0 := by omega
 refine Ke ?_
 have hR84 := q2 hM23 b_21 (by simp only [layout_Draw_L0, h30, cs4])
 refine KS ?_
 refine letv (Builder_String b_21) fun rv85 hg86 => ?_
 have hc87 := fn32 p12 b_21 pre rv85 hg86
 refine Oc [1] ca32 hc87 ?_
 rintro - he88
 refine Oq Va (Oq Va (KS ?_))
 have hq := q4 hrr (rv85, 0) (by simp only [layout_Draw, h9, h30, hg6, hg15, hR84, hg86, cs4]); subst hq
 exact Kr () rfl (.tmp rfl (.tmp rfl .nil)) [] en
theorem fn17 (n : Int) (hn_0 : i64ok n) (hn0 : 0 ≤ n ∧ n ≤ 9) (rr : Str) (hrr : w33_decimal n = rr) : FT Tryz.prog 17 #[vi n] [] (fun g : Unit => rr.b.length ≤ 140737488355328 ∧ (rr.b.length = 1)) (fun g => .string (bs rr)) (fun g => []) := by
 refine FTi Tryz.func17 fun w0 M0 F0 => ?_
 unfold i64ok at hn_0
 refine KS ?_
 refine Oq Va (KS ?_)
 refine Oq Vm (Oq Vgtr (KS ?_))
 refine Kc ?_ ?_
 ·intro h1
  have g2 := dt h1
  exfalso; omega
 intro h1
 have g3 := df h1
 refine KS ?_
 refine Oq Vm (Oq Vadd (Oq (VcI8 (n := (48 + n)) un3 un5) (Oa (AsV sl67 sz67 [.int .u8 (48 + n)] [.int .u8 (48 + n)]) fun c4 => ?_)))
 refine Jo 0 ?_; rintro a5 k6 rfl
 refine Jl [0] (Ent.cr1 (α := UInt8) (A := []) _ (UInt8.ofNat ((48 + n) : Int).toNat) _ aB1 (fun _ => u8rd aM1)) ?_
 refine Jl [0] (Ent.freeze _ _) ?_
 refine Oq (VbS (xs := [(UInt8.ofNat ((48 + n) : Int).toNat)]) un67 un5 un9 0 (hl := (by simp))) (Oq Va (KS ?_))
 have hq := q4 hrr (Str.mk [(UInt8.ofNat ((48 + n) : Int).toNat)]) (by simp only [w33_decimal, h1, cs4]); subst hq
 exact Kr () rfl (.tmp rfl .nil) [] en
theorem fn18 (a : List Int) (aa0 : Option Addr) (ak0 : Nat) (b : List Int) (ba0 : Option Addr) (bk0 : Nat) (rr : Bool) (hrr : r7_Ints a b = rr) : FT Tryz.prog 18 #[vl aa0 ak0 a, vl ba0 bk0 b] [S aa0 ak0 a, S ba0 bk0 b] (fun g : Unit => True) (fun g => vb rr) (fun g => []) := by
 refine FTi Tryz.func18 fun w0 M0 F0 => Fb 8 0 fun _ => Fo 0 fun ho2 => Fb 8 1 fun _ => Fo 1 fun ho4 => ?_
 refine KS ?_
 refine Oq Va (KS ?_)
 refine Oq Vm (Oq (Vlen sl22) (Oq Vm (Oq (Vlen sl22) (Oq Vneq (KS ?_)))))
 refine Kc ?_ ?_
 ·intro h5
  have g6 := ne_of_bne h5
  refine KS ?_
  refine Oq Va (KS ?_)
  have hq := q4 hrr false (by simp only [r7_Ints, h5, cs4]); subst hq
  exact Kr () rfl (.tmp rfl .nil) [] trivial
 intro h5
 have g7 := eq_of_bne_false h5
 refine KS ?_
 refine Oq Va (KS ?_)
 refine Kl (γ := Nat × Int) (fun (r8, i_9) => ⟨[(0, vl aa0 ak0 a), (1, vl ba0 bk0 b), (5, vi i_9)], [S aa0 ak0 a, S ba0 bk0 b], r7_Ints_L0 a b r8 i_9 = r7_Ints_L0 a b (((a.length : Int) - 0).toNat) 0 ∧ r8 = ((a.length : Int) - i_9).toNat ∧ (0 : Int) ≤ i_9 ∧ i_9 ≤ (a.length : Int) ∧ (-9223372036854775808 ≤ i_9 ∧ i_9 ≤ 9223372036854775807), r8⟩) (((a.length : Int) - 0).toNat, 0) [0, 1] ⟨rfl, rfl, aM1, aM1, aM1⟩ ?_
 rintro ⟨r8, i_9⟩ ⟨hM10, hr11, hi12, hi13, hk14⟩
 refine JJ_nx fun _ _ hL hA => ?_; dsimp only at hL hA; subst hL hA
 refine Fb 8 0 fun _ => Fo 0 fun ho16 => Fb 8 1 fun _ => Fo 1 fun ho18 => KS ?_
 refine Oq Vm (Oq Vm (Oq (Vlen sl22) (Oq Vlss (KS ?_))))
 refine Kc ?_ ?_
 ·intro h19
  have g20 := dt h19
  obtain ⟨r21, rfl⟩ := scc (n := r8) aM1
  refine KS ?_
  refine Kq [0, 0, 3, 7, 0, 0, 48, 112, 255] fmix ?_
  refine Qv [] Vm (Qv [] Vm (Qv [0] (Vi sl22 0) ?_))
  have hb22 := ok1 (i := i_9.toNat) ho16 rng
  refine Qv [0] (VldI sh3 0) (Qv [] Vm (Qv [] Vm (Qv [1] (Vi sl22 0) ?_)))
  have hb23 := ok1 (i := i_9.toNat) ho18 rng
  refine Qv [1] (VldI sh3 0) (Qv [] Vneq ?_)
  refine Qn ⟨by kernel_rfl, ?_⟩
  refine Kc ?_ ?_
  ·intro h24
   have g25 := ne_of_bne h24
   refine KS ?_
   refine Oq Va (KS ?_)
   have hR26 := q2 hM10 (.ret false) (by simp only [r7_Ints_L0, h19, h24, cs4])
   have hq := q4 hrr false (by simp only [r7_Ints, h5, h19, h24, hR26, cs4]); subst hq
   exact Kr () rfl (.tmp rfl .nil) [] trivial
  intro h24
  have g27 := eq_of_bne_false h24
  refine KS ?_
  refine Oq Vm (Oq Vadd (Oq Va (KS ?_)))
  exact Kg (r21, (i_9 + 1)) [0, 1] ⟨(q3 hM10 (by simp only [r7_Ints_L0, h19, h24, cs4])), aM1, aM1, aM1, aM1⟩
 intro h19
 have g28 := df h19
 obtain rfl : r8 = 0 := by omega
 refine Ke ?_
 have hR29 := q2 hM10 (.brk ()) (by simp only [r7_Ints_L0, h19, cs4])
 refine KS ?_
 refine Oq Va (KS ?_)
 have hq := q4 hrr true (by simp only [r7_Ints, h5, h19, hR29, cs4]); subst hq
 exact Kr () rfl (.tmp rfl .nil) [] trivial
theorem fn19 (a : List Cpx) (aa0 : Option Addr) (ak0 : Nat) (b : List Cpx) (ba0 : Option Addr) (bk0 : Nat) (rr : Bool) (hrr : w33_same a b = rr) : FT Tryz.prog 19 #[vl aa0 ak0 a, vl ba0 bk0 b] [S aa0 ak0 a, S ba0 bk0 b] (fun g : Unit => True) (fun g => vb rr) (fun g => []) := by
 refine FTi Tryz.func19 fun w0 M0 F0 => Fb 16 0 fun _ => Fb 16 1 fun _ => ?_
 refine KS ?_
 refine Oq Va (KS ?_)
 refine Oq Vm (Oq (Vlen sl41) (Oq Vm (Oq (Vlen sl41) (Oq Vneq (KS ?_)))))
 refine Kc ?_ ?_
 ·intro h3
  have g4 := ne_of_bne h3
  refine KS ?_
  refine Oq Va (KS ?_)
  have hq := q4 hrr false (by simp only [w33_same, h3, cs4]); subst hq
  exact Kr () rfl (.tmp rfl .nil) [] trivial
 intro h3
 have g5 := eq_of_bne_false h3
 refine KS ?_
 refine Oq Va (KS ?_)
 refine Kl (γ := Nat × Int) (fun (r6, i_7) => ⟨[(0, vl aa0 ak0 a), (1, vl ba0 bk0 b), (5, vi i_7)], [S aa0 ak0 a, S ba0 bk0 b], w33_same_L0 a b r6 i_7 = w33_same_L0 a b (((a.length : Int) - 0).toNat) 0 ∧ r6 = ((a.length : Int) - i_7).toNat ∧ (0 : Int) ≤ i_7 ∧ i_7 ≤ (a.length : Int) ∧ (-9223372036854775808 ≤ i_7 ∧ i_7 ≤ 9223372036854775807), r6⟩) (((a.length : Int) - 0).toNat, 0) [0, 1] ⟨rfl, rfl, aM1, aM1, aM1⟩ ?_
 rintro ⟨r6, i_7⟩ ⟨hM8, hr9, hi10, hi11, hk12⟩
 refine JJ_nx fun _ _ hL hA => ?_; dsimp only at hL hA; subst hL hA
 refine Fb 16 0 fun _ => Fb 16 1 fun _ => KS ?_
 refine Oq Vm (Oq Vm (Oq (Vlen sl41) (Oq Vlss (KS ?_))))
 refine Kc ?_ ?_
 ·intro h15
  have g16 := dt h15
  obtain ⟨r17, rfl⟩ := scc (n := r6) aM1
  refine KS ?_
  refine Kq [0, 0, 3, 7, 0, 0, 48, 112, 255] fmix ?_
  refine Qv [] Vm (Qv [] Vm (Qv [0] (Vi sl41 0) (Qv [0] (VldCx sh58 0) (Qv [] Vm (Qv [] Vm (Qv [1] (Vi sl41 0) (Qv [1] (VldCx sh58 0) (Qv [] (VneC (a := (a.getD i_7.toNat default)) (b := (b.getD i_7.toNat default))) ?_))))))))
  refine Qn ⟨by kernel_rfl, ?_⟩
  refine Kc ?_ ?_
  ·intro h18
   have h20 := not_true h18
   refine KS ?_
   refine Oq Va (KS ?_)
   have hR22 := q2 hM8 (.ret false) (by simp only [w33_same_L0, h15, h18, h20, cs4])
   have hq := q4 hrr false (by simp only [w33_same, h3, h15, h18, h20, hR22, cs4]); subst hq
   exact Kr () rfl (.tmp rfl .nil) [] trivial
  intro h18
  have h24 := not_false h18
  refine KS ?_
  refine Oq Vm (Oq Vadd (Oq Va (KS ?_)))
  exact Kg (r17, (i_7 + 1)) [0, 1] ⟨(q3 hM8 (by simp only [w33_same_L0, h15, h18, h24, cs4])), aM1, aM1, aM1, aM1⟩
 intro h15
 have g26 := df h15
 obtain rfl : r6 = 0 := by omega
 refine Ke ?_
 have hR27 := q2 hM8 (.brk ()) (by simp only [w33_same_L0, h15, cs4])
 refine KS ?_
 refine Oq Va (KS ?_)
 have hq := q4 hrr true (by simp only [w33_same, h3, h15, hR27, cs4]); subst hq
 exact Kr () rfl (.tmp rfl .nil) [] trivial
theorem fn20 (l : List GPoint) (la0 : Option Addr) (lk0 : Nat) (rr : List Cpx) (hrr : w33_points l = rr) : FT Tryz.prog 20 #[vl la0 lk0 l] [S la0 lk0 l] (fun g : Value => (rr.length = l.length)) (fun g => g) (fun g => [sl g rr]) := by
 refine FTi Tryz.func20 fun w0 M0 F0 => Fb 16 0 fun _ => ?_
 refine KS ?_
 refine Oq Va (KS ?_)
 refine Oq Va (KS ?_)
 refine Oq Va (KS ?_)
 refine Jl [] (Ent.osNil (α := Cpx)) ?_
 refine Kl (γ := Nat × List Cpx × Int × Option Addr × Nat) (fun (r2, out_3, i_4, a5, k6) => ⟨[(0, vl la0 lk0 l), (3, vl a5 k6 out_3), (4, vi i_4)], [O a5 k6 out_3, S la0 lk0 l], w33_points_L0 l r2 out_3 i_4 = w33_points_L0 l (((l.length : Int) - 0).toNat) [] 0 ∧ r2 = ((l.length : Int) - i_4).toNat ∧ (0 : Int) ≤ i_4 ∧ i_4 ≤ (l.length : Int) ∧ (-9223372036854775808 ≤ i_4 ∧ i_4 ≤ 9223372036854775807) ∧ ((out_3.length : Int) = i_4), r2⟩) (((l.length : Int) - 0).toNat, [], 0, none, 0) [0, 0] ⟨rfl, rfl, aM1, aM1, aM1, iv0⟩ ?_
 rintro ⟨r2, out_3, i_4, a5, k6⟩ ⟨hM7, hr8, hi9, hi10, hk11, hv12⟩
 refine JJ_nx fun _ _ hL hA => ?_; dsimp only at hL hA; subst hL hA
 refine Fb 16 0 fun _ => Fb 16 1 fun _ => KS ?_
 refine Oq Vm (Oq Vm (Oq (Vlen sl44) (Oq Vlss (KS ?_))))
 refine Kc ?_ ?_
 ·intro h15
  have g16 := dt h15
  obtain ⟨r17, rfl⟩ := scc (n := r2) aM1
  refine KS ?_
  refine JJ_peek_GPoint i_4.toNat 1 rfl rng fun hb18 hb19 => ?_
  unfold i64ok at hb18 hb19
  refine JK_drawK [0, 0, 0, 6, 14, 30, 62, 0, 0, 384, 896, 1920, 3968, 8190, 16382, 32767, 65535] fmix ?_
  refine Dv [] Vm (Dv [] Vm (Dv [] Vm (Dv [2] (Vi sl44 0) (Dv [0] (Vfa fo65_0 0) (Dv [0] (VldF sh3 0) (Dv [] (VcIF (n := (l.getD i_4.toNat default).X) un3 un60) (Dv [] Vm (Dv [] Vm (Dv [2] (Vi sl44 0) ?_)))))))))
  refine Dv [0] (Vfa fo65_1 0) (Dv [0] (VldF sh3 0) (Dv [] (VcIF (n := (l.getD i_4.toNat default).Y) un3 un60) (Dv [] (Vcx (a := (fofI ((l.getD i_4.toNat default).X))) (b := (fofI ((l.getD i_4.toNat default).Y)))) (Dx [] [] [0] (fun G => (G.g 14 0)) [fun G => Cr (G.g 14 0) 1 [cxv (Cpx.mk (fofI ((l.getD i_4.toNat default).X)).b (fofI ((l.getD i_4.toNat default).Y)).b)]] (fun G => xA (AsV sl41 sz41 [cxv (Cpx.mk (fofI ((l.getD i_4.toNat default).X)).b (fofI ((l.getD i_4.toNat default).Y)).b)] [cxv (Cpx.mk (fofI ((l.getD i_4.toNat default).X)).b (fofI ((l.getD i_4.toNat default).Y)).b)])) ?_))))
  have hn22 := la out_3 ([(Cpx.mk (fofI ((l.getD i_4.toNat default).X)).b (fofI ((l.getD i_4.toNat default).Y)).b)] : List Cpx)
  refine Dx [1, 3] [1, 3] [0] (fun G => (G.g 15 0)) [fun G => os (G.g 15 0) ((out_3 ++ [(Cpx.mk (fofI ((l.getD i_4.toNat default).X)).b (fofI ((l.getD i_4.toNat default).Y)).b)]) : List Cpx)] (fun G => xp [1] rfl (Ent.cr1 (α := Cpx) (A := []) _ (Cpx.mk (fofI ((l.getD i_4.toNat default).X)).b (fofI ((l.getD i_4.toNat default).Y)).b) _ aB1 (fun _ => rfl)) (xA (ApO [1, 0] sl41 sl41 sz41))) (Dg [] (fun G => (G.g 15 0)) (fun G => Va) ?_)
  refine Dn ⟨by kernel_rfl, fun G => ?_⟩
  refine Jw2 [(0, vl la0 lk0 l), (4, vi i_4), (3, (G.g 15 0))] [0, 2] [os (G.g 15 0) ((out_3 ++ [(Cpx.mk (fofI ((l.getD i_4.toNat default).X)).b (fofI ((l.getD i_4.toNat default).Y)).b)]) : List Cpx)] ?_
  generalize G.g 15 0 = c21
  refine Jo 2 ?_; rintro a23 k24 rfl
  refine Fb 16 2 fun _ => KS ?_
  refine Oq Vm (Oq Vadd (Oq Va (KS ?_)))
  exact Kg (r17, (out_3 ++ [(Cpx.mk (fofI ((l.getD i_4.toNat default).X)).b (fofI ((l.getD i_4.toNat default).Y)).b)]), (i_4 + 1), a23, k24) [2, 1] ⟨(q3 hM7 (by simp only [w33_points_L0, h15, cs4])), aM1, aM1, aM1, aM1, iv1⟩
 intro h15
 have g26 := df h15
 obtain rfl : r2 = 0 := by omega
 refine Ke ?_
 have hR27 := q2 hM7 out_3 (by simp only [w33_points_L0, h15, cs4])
 refine KS ?_
 refine Oq Vm (Oq Va (KS ?_))
 refine Jl [0] (Ent.freeze _ _) ?_
 have hq := q4 hrr out_3 (by simp only [w33_points, h15, hR27, cs4]); subst hq
 exact Kr (vl a5 k6 out_3) rfl (.tmp rfl .nil) [0] en
theorem fn6 (g : GGraph) (ga0 : Option Addr) (gk0 : Nat) (ga1 : Option Addr) (gk1 : Nat) (ga2 : Option Addr) (gk2 : Nat) (root : Int) (hroot_0 : i64ok root) (hn0 : g.Nodes.length ≤ 10) (rr : Bool) (hrr : w33_places g root = rr) : FT Tryz.prog 6 #[.agg #[vl ga0 gk0 g.Nodes, vl ga1 gk1 g.Succ, vl ga2 gk2 g.Pred], vi root] [S ga0 gk0 g.Nodes, S ga1 gk1 g.Succ, S ga2 gk2 g.Pred] (fun g : Unit => True) (fun g => vb rr) (fun g => []) := by
 refine FTi Tryz.func6 fun w0 M0 F0 => ?_
 unfold i64ok at hroot_0
 refine Fb 32 0 fun _ => Fb 24 1 fun _ => Fb 24 2 fun _ => KS ?_
 refine Oa (Ab [vl ga0 gk0 g.Nodes, vl ga1 gk1 g.Succ, vl ga2 gk2 g.Pred]) fun p4 => Oq Va (KS ?_)
 refine Oq (VldA sh26 0) (Oq Vm ?_)
 refine letv (layout_Levels g root) fun rv6 hg7 => ?_
 have hc8 := fn11 g ga0 gk0 ga1 gk1 ga2 gk2 root pre aM1 rv6 hg7
 refine Oc [1, 2, 3] ca11 hc8 ?_
 rintro c5 ⟨he9, he10⟩
 unfold i64ok at he9
 refine Jo 0 ?_; rintro a11 k12 rfl
 refine Fb 8 0 fun _ => Fo 0 fun ho14 => ?_
 refine Oq Vm (Oq Vx (Oq Vx (Oq Va (Oq Va (KS ?_)))))
 refine Oq (VldA sh26 1) (Oq Vm ?_)
 refine letv (r30_Levels g root) fun rv16 hg17 => ?_
 have hc18 := fn12 g ga0 gk0 ga1 gk1 ga2 gk2 root pre rv16 hg17
 refine Oc [2, 3, 4] ca12 hc18 ?_
 rintro c15 he19
 unfold i64ok at he19
 refine Jo 0 ?_; rintro a20 k21 rfl
 refine Fb 8 0 fun _ => Fo 0 fun ho23 => ?_
 refine Oq Vm (Oq Vx (Oq Vx (Oq Va (Oq Va (KS ?_)))))
 refine Oq (VldA sh26 2) (Oq Vm ?_)
 refine letv (layout_Place g root) fun rv25 hg26 => ?_
 have hc27 := fn13 g ga0 gk0 ga1 gk1 ga2 gk2 root pre aM1 rv25 hg26
 refine Oc [3, 4, 5] ca13 hc27 ?_
 rintro c24 ⟨he28, he29, he30⟩
 unfold i64ok at he28
 refine Jo 0 ?_; rintro a31 k32 rfl
 refine Fb 16 0 fun _ => ?_
 refine Oq Vm (Oq Vx (Oq Vx (Oq Va (Oq Va (KS ?_)))))
 refine Oq (VldA sh26 3) (Oq Vm ?_)
 refine letv (r30_Points g root) fun rv35 hg36 => ?_
 have hc37 := fn14 g ga0 gk0 ga1 gk1 ga2 gk2 root pre rv35 hg36
 refine Oc [4, 5, 6] ca14 hc37 ?_
 rintro c34 he38
 unfold i64ok at he38
 refine Jo 0 ?_; rintro a39 k40 rfl
 refine Fb 16 0 fun _ => ?_
 refine Oq Vm (Oq Vx (Oq Vx (Oq Va (Oq Va (KS ?_)))))
 refine Oq (VldA sh26 4) (Oq Vm ?_)
 refine letv (layout_Draw g root) fun rv42 hg43 => ?_
 have hc44 := fn15 g ga0 gk0 ga1 gk1 ga2 gk2 root pre aM1 rv42 hg43
 refine Oc [5, 6, 7] ca15 hc44 ?_
 rintro - ⟨he45, he46⟩
 unfold i64ok at he46
 refine Oq Vm (Oq Vx (Oq Vx (Oq Va (Oq Va (KS ?_)))))
 refine Oq (VldA sh26 4) (Oq Vm ?_)
 refine letv (r30_Places g root) fun rv48 hg49 => ?_
 obtain ⟨hpa, hpl⟩ := Places_all hg49
 have hc50 := fn16 g ga0 gk0 ga1 gk1 ga2 gk2 root pre rv48 hg49
 refine Oc [5, 6, 7] ca16 hc50 ?_
 rintro c47 he51
 unfold i64ok at he51
 refine Jo 0 ?_; rintro a52 k53 rfl
 refine Fb 24 0 fun _ => ?_
 refine Oq Vm (Oq Vx (Oq Vx (Oq Va (Oq Va (KS ?_)))))
 refine Oq Va (KS ?_)
 refine Oq Va (KS ?_)
 refine Kl (γ := Nat × Str × Int) (fun (r55, want_56, n_57) => ⟨[(5, vl a11 k12 rv6.1), (6, vi rv6.2), (7, vl a20 k21 rv16.1), (8, vi rv16.2), (9, vl a31 k32 rv25.1), (10, vi rv25.2), (11, vl a39 k40 rv35.1), (12, vi rv35.2), (13, .string (bs rv42.1)), (14, vi rv42.2), (15, vl a52 k53 rv48.1), (17, .string (bs want_56)), (18, vi n_57)], [S a52 k53 rv48.1, O a39 k40 rv35.1, S a31 k32 rv25.1, S a20 k21 rv16.1, S a11 k12 rv6.1], w33_places_L0 rv48.1 r55 want_56 n_57 = w33_places_L0 rv48.1 (((rv48.1.length : Int) - 0).toNat) (Str.mk []) 0 ∧ r55 = ((rv48.1.length : Int) - n_57).toNat ∧ (0 : Int) ≤ n_57 ∧ n_57 ≤ (rv48.1.length : Int) ∧ want_56.b.length ≤ 140737488355328 ∧ (-9223372036854775808 ≤ n_57 ∧ n_57 ≤ 9223372036854775807) ∧ ((want_56.b.length : Int) ≤ 100 * n_57), r55⟩) (((rv48.1.length : Int) - 0).toNat, (Str.mk []), 0) [0, 1, 1, 2, 3] ⟨rfl, rfl, aM1, aM1, (by first | omega | (simp; done)), aM1, iv0⟩ ?_
 rintro ⟨r55, want_56, n_57⟩ ⟨hM58, hr59, hi60, hi61, hk62, hk63, hv64⟩
 refine JJ_nx fun _ _ hL hA => ?_; dsimp only at hL hA; subst hL hA
 refine Fb 24 0 fun _ => Fb 16 1 fun _ => Fb 16 2 fun _ => Fb 8 3 fun _ => Fo 3 fun ho69 => Fb 8 4 fun _ => Fo 4 fun ho71 => KS ?_
 refine Oq Vm (Oq Vm (Oq (Vlen sl24) (Oq Vlss (KS ?_))))
 refine Kc ?_ ?_
 ·intro h72
  have g73 := dt h72
  have hpk := (hpa _ (getD_mem (xs := rv48.1) (i := n_57.toNat) (d := []) aM1)).2
  obtain ⟨r74, rfl⟩ := scc (n := r55) aM1
  refine KS ?_
  refine Oq Va (KS ?_)
  refine Kl (γ := Nat × Str × Int) (fun (r75, want_76, m_77) => ⟨[(5, vl a11 k12 rv6.1), (6, vi rv6.2), (7, vl a20 k21 rv16.1), (8, vi rv16.2), (9, vl a31 k32 rv25.1), (10, vi rv25.2), (11, vl a39 k40 rv35.1), (12, vi rv35.2), (13, .string (bs rv42.1)), (14, vi rv42.2), (15, vl a52 k53 rv48.1), (17, .string (bs want_76)), (18, vi n_57), (19, vi m_77)], [S a52 k53 rv48.1, O a39 k40 rv35.1, S a31 k32 rv25.1, S a20 k21 rv16.1, S a11 k12 rv6.1], w33_places_L1 rv48.1 n_57 r75 want_76 m_77 = w33_places_L1 rv48.1 n_57 (((((rv48.1.getD n_57.toNat []).length : Int) : Int) - 0).toNat) want_56 0 ∧ r75 = ((((rv48.1.getD n_57.toNat []).length : Int) : Int) - m_77).toNat ∧ (0 : Int) ≤ m_77 ∧ (m_77 ≤ ((rv48.1.getD n_57.toNat []).length : Int) ∨ m_77 = 0) ∧ want_76.b.length ≤ 140737488355328 ∧ (-9223372036854775808 ≤ m_77 ∧ m_77 ≤ 9223372036854775807) ∧ ((want_76.b.length : Int) ≤ 100 * n_57 + 2 * m_77), r75⟩) (((((rv48.1.getD n_57.toNat []).length : Int) : Int) - 0).toNat, want_56, 0) [0, 1, 1, 2, 3] ⟨rfl, rfl, aM1, (.inr rfl), (by first | omega | (simp; done)), aM1, iv0⟩ ?_
  rintro ⟨r75, want_76, m_77⟩ ⟨hM78, hr79, hi80, hi81, hk82, hk83, hv84⟩
  refine JJ_nx fun _ _ hL hA => ?_; dsimp only at hL hA; subst hL hA
  refine Fb 24 0 fun _ => Fb 16 1 fun _ => Fb 16 2 fun _ => Fb 8 3 fun _ => Fo 3 fun ho89 => Fb 8 4 fun _ => Fo 4 fun ho91 => KS ?_
  refine Oq Vm (Oq Vm (Oq Vm (Oq (Vi sl24 0) ?_)))
  refine JJ_peekL n_57.toNat 0 rfl rng fun a92 k93 => ?_
  refine Fb 8 1 fun _ => Fo 1 fun ho95 => ?_
  refine Oq (Vld sh22 0) (Oq (Vlen sl22) (Oq Vlss (KS ?_)))
  refine Kc ?_ ?_
  ·intro h96
   have g97 := dt h96
   have hpx := RL_get (hpa _ (getD_mem (xs := rv48.1) (i := n_57.toNat) (d := []) aM1)).1 (i := m_77.toNat) aM1
   obtain ⟨r98, rfl⟩ := scc (n := r75) aM1
   refine KS ?_
   refine Oq Vm (Oq Vgtr (KS ?_))
   refine Kc ?_ ?_
   ·intro h99
    have g100 := dt h99
    refine KS ?_
    refine Oq Vm ?_
    have hb101 := sadd_len want_76 (Str.mk [32])
    have hb102 : (Str.mk [32]).b.length = 1 := rfl
    refine Oq (VadS (l := want_76) (m := (Str.mk [32]))) (Oq Va (KS ?_))
    refine Oq Vm (Oq Vm (Oq Vm (Oq (Vi sl24 2) (Oq (Vld sh22 0) (Oq Vm (Oq (Vi sl22 1) ?_))))))
    have hb103 := ok1 (i := m_77.toNat) ho95 rng
    refine Oq (VldI sh3 1) ?_
    refine letv (w33_decimal ((rv48.1.getD n_57.toNat []).getD m_77.toNat 0)) fun rv104 hg105 => ?_
    have hc106 := fn17 (((rv48.1.getD n_57.toNat []).getD m_77.toNat 0)) pre pre rv104 hg105
    refine Oc [] ca17 hc106 ?_
    rintro - ⟨he107, he108⟩
    have hb109 := sadd_len (want_76 ++ (Str.mk [32])) rv104
    refine Oq (VadS (l := (want_76 ++ (Str.mk [32]))) (m := rv104)) (Oq Va (KS ?_))
    refine Oq Vm (Oq Vadd (Oq Va (KS ?_)))
    exact Kg (r98, ((want_76 ++ (Str.mk [32])) ++ rv104), (m_77 + 1)) [2, 3, 3, 4, 5] ⟨(q3 hM78 (by simp only [w33_places_L1, h96, h99, hg105, cs4])), aM1, aM1, aM1, aM1, aM1, iv1⟩
   intro h99
   have g110 := df h99
   refine KS ?_
   refine Oq Vm (Oq Vm (Oq Vm (Oq (Vi sl24 2) (Oq (Vld sh22 0) (Oq Vm (Oq (Vi sl22 1) ?_))))))
   have hb111 := ok1 (i := m_77.toNat) ho95 rng
   refine Oq (VldI sh3 1) ?_
   refine letv (w33_decimal ((rv48.1.getD n_57.toNat []).getD m_77.toNat 0)) fun rv112 hg113 => ?_
   have hc114 := fn17 (((rv48.1.getD n_57.toNat []).getD m_77.toNat 0)) pre pre rv112 hg113
   refine Oc [] ca17 hc114 ?_
   rintro - ⟨he115, he116⟩
   have hb117 := sadd_len want_76 rv112
   refine Oq (VadS (l := want_76) (m := rv112)) (Oq Va (KS ?_))
   refine Oq Vm (Oq Vadd (Oq Va (KS ?_)))
   exact Kg (r98, (want_76 ++ rv112), (m_77 + 1)) [2, 3, 3, 4, 5] ⟨(q3 hM78 (by simp only [w33_places_L1, h96, h99, hg113, cs4])), aM1, aM1, aM1, aM1, aM1, iv1⟩
  intro h96
  have g118 := df h96
  obtain rfl : r75 = 0 := by omega
  refine Ke ?_
  have hR119 := q2 hM78 want_76 (by simp only [w33_places_L1, h96, cs4])
  refine KS ?_
  refine Oq Vm ?_
  have hb120 := sadd_len want_76 (Str.mk [10])
  have hb121 : (Str.mk [10]).b.length = 1 := rfl
  refine Oq (VadS (l := want_76) (m := (Str.mk [10]))) (Oq Va (KS ?_))
  refine Oq Vm (Oq Vadd (Oq Va (KS ?_)))
  exact Kg (r74, (want_76 ++ (Str.mk [10])), (n_57 + 1)) [2, 3, 3, 4, 5] ⟨(q3 hM58 (by simp only [w33_places_L0, h72, h96, hR119, cs4])), aM1, aM1, aM1, aM1, aM1, iv1⟩
 intro h72
 have g122 := df h72
 obtain rfl : r55 = 0 := by omega
 refine Ke ?_
 have hR123 := q2 hM58 want_56 (by simp only [w33_places_L0, h72, cs4])
 refine KS ?_
 refine Oq Vm (Oq Vm (Oq Veql (Oq Vm ?_)))
 refine Js 90 ?_ ?_
 ·intro h124
  have g125 := eq_of_beq h124
  refine Oq Vm (Oq Vm ?_)
  refine letv (r7_Ints rv6.1 rv16.1) fun rv126 hg127 => ?_
  have hc128 := fn18 rv6.1 a11 k12 rv16.1 a20 k21 rv126 hg127
  refine Oc [4, 3] ca18 hc128 ?_
  rintro - -
  refine Oq Vpt (Oq Vm ?_)
  refine Js 95 ?_ ?_
  ·intro h129
   refine Oq Vm (Oq Vm (Oq Veql (Oq Vpt (Oq Vm ?_))))
   refine Js 100 ?_ ?_
   ·intro h131
    have g132 := eq_of_beq h131
    refine Oq Vm (Oq Vm ?_)
    refine Jl [1] (Ent.freeze _ _) ?_
    refine letv (w33_points rv35.1) fun rv134 hg135 => ?_
    have hc136 := fn20 rv35.1 a39 k40 rv134 hg135
    refine Oc [0] ca20 hc136 ?_
    rintro c133 he137
    refine Jo 0 ?_; rintro a138 k139 rfl
    refine Fb 16 0 fun _ => ?_
    refine letv (w33_same rv25.1 rv134) fun rv141 hg142 => ?_
    have hc143 := fn19 rv25.1 a31 k32 rv134 a138 k139 rv141 hg142
    refine Oc [3, 0] ca19 hc143 ?_
    rintro - -
    refine Oq Vpt (Oq Vm ?_)
    refine Js 106 ?_ ?_
    ·intro h144
     refine Oq Vm (Oq Vm (Oq Veql (Oq Vpt (Oq Vm ?_))))
     refine Js 111 ?_ ?_
     ·intro h146
      have g147 := eq_of_beq h146
      refine Oq Vm (Oq Vm (Oq (VeqS (l := rv42.1) (m := want_56)) (Oq Vpt (Oq Va (KS ?_)))))
      have hq := q4 hrr (rv42.1 == want_56) (by simp only [w33_places, h72, h124, h129, h131, h144, h146, hg7, hg17, hg26, hg36, hg43, hg49, hR123, hg127, hg135, hg142, cs4]); subst hq
      exact Kr () rfl (.tmp rfl .nil) [] trivial
     intro h146
     have g148 := ne_of_beq_false h146
     refine Osk (Osk (Osk (Oq Vpf (Oq Va (KS ?_)))))
     have hq := q4 hrr false (by simp only [w33_places, h72, h124, h129, h131, h144, h146, hg7, hg17, hg26, hg36, hg43, hg49, hR123, hg127, hg135, hg142, cs4]); subst hq
     exact Kr () rfl (.tmp rfl .nil) [] trivial
    intro h144
    refine Osk (Osk (Osk (Oq Vpf (Oq Vm (Osk (Osk (Osk (Oq Vpf (Oq Va ?_)))))))))
    refine KS ?_
    have hq := q4 hrr false (by simp only [w33_places, h72, h124, h129, h131, h144, hg7, hg17, hg26, hg36, hg43, hg49, hR123, hg127, hg135, hg142, cs4]); subst hq
    exact Kr () rfl (.tmp rfl .nil) [] trivial
   intro h131
   have g150 := ne_of_beq_false h131
   refine Osk (Osk (Osk (Osk (Oq Vpf (Oq Vm (Osk (Osk (Osk (Oq Vpf ?_)))))))))
   refine Oq Vm (Osk (Osk (Osk (Oq Vpf (Oq Va (KS ?_))))))
   have hq := q4 hrr false (by simp only [w33_places, h72, h124, h129, h131, hg7, hg17, hg26, hg36, hg43, hg49, hR123, hg127, cs4]); subst hq
   exact Kr () rfl (.tmp rfl .nil) [] trivial
  intro h129
  refine Osk (Osk (Osk (Oq Vpf (Oq Vm (Osk (Osk (Osk (Osk (Oq Vpf ?_)))))))))
  refine Oq Vm (Osk (Osk (Osk (Oq Vpf (Oq Vm (Osk (Osk (Osk (Oq Vpf ?_)))))))))
  refine Oq Va (KS ?_)
  have hq := q4 hrr false (by simp only [w33_places, h72, h124, h129, hg7, hg17, hg26, hg36, hg43, hg49, hR123, hg127, cs4]); subst hq
  exact Kr () rfl (.tmp rfl .nil) [] trivial
 intro h124
 have g152 := ne_of_beq_false h124
 refine Osk (Osk (Osk (Oq Vpf (Oq Vm (Osk (Osk (Osk (Oq Vpf (Oq Vm ?_)))))))))
 refine Osk (Osk (Osk (Osk (Oq Vpf (Oq Vm (Osk (Osk (Osk (Oq Vpf ?_)))))))))
 refine Oq Vm (Osk (Osk (Osk (Oq Vpf (Oq Va (KS ?_))))))
 have hq := q4 hrr false (by simp only [w33_places, h72, h124, hg7, hg17, hg26, hg36, hg43, hg49, hR123, cs4]); subst hq
 exact Kr () rfl (.tmp rfl .nil) [] trivial
theorem fn8 (tP : Value) (ta : Option Addr) (tk : Nat) (tT : List Int) (tI : Int) (g : GGraph) (ga0 : Option Addr) (gk0 : Nat) (ga1 : Option Addr) (gk1 : Nat) (ga2 : Option Addr) (gk2 : Nat) (htI : 0 ≤ tI ∧ tI ≤ (tT.length : Int)) (hgl : (1 ≤ g.Nodes.length ∧ g.Nodes.length ≤ 1000 ∧ g.Succ.length = g.Nodes.length ∧ g.Pred.length = g.Nodes.length)) (hgS : (∀ l ∈ g.Succ, (l.length : Int) ≤ 3000)) (hgP : (∀ l ∈ g.Pred, (l.length : Int) ≤ 3000)) (hg12 : g.Nodes.length ≤ 12) (rr : GGraph × Int) (hrr : tp_SpoilGraph tT tI g = rr) : FT Tryz.prog 8 #[tP, .agg #[vl ga0 gk0 g.Nodes, vl ga1 gk1 g.Succ, vl ga2 gk2 g.Pred]] [Cl tP [vl ta tk tT, vi tI], S ta tk tT, S ga0 gk0 g.Nodes, S ga1 gk1 g.Succ, S ga2 gk2 g.Pred] (fun g : Value × Value × Value => (0 ≤ rr.2 ∧ rr.2 ≤ (tT.length : Int)) ∧ (rr.1.Nodes.length ≤ 12)) (fun g => .agg #[g.1, g.2.1, g.2.2]) (fun g => [sl g.1 rr.1.Nodes, sl g.2.1 rr.1.Succ, sl g.2.2 rr.1.Pred, Cl tP [vl ta tk tT, vi rr.2]]) := by
 refine FTi Tryz.func8 fun w0 M0 F0 => Fb 8 1 fun _ => Fo 1 fun ho2 => Fb 32 2 fun _ => Fb 24 3 fun _ => Fb 24 4 fun _ => ?_
 refine KS ?_
 refine Oa (Ab [vl ga0 gk0 g.Nodes, vl ga1 gk1 g.Succ, vl ga2 gk2 g.Pred]) fun p6 => Oa (Al ze26 [.slice none 0 0, .slice none 0 0, .slice none 0 0]) fun p7 => KS ?_
 refine JK_drawK [0, 0, 2, 7, 0, 0, 32, 127, 0, 0, 512, 2047, 4095, 0, 16383] fmix ?_
 refine Dx [] [] [0] (fun G => (G.g 0 0)) [fun G => Cr (G.g 0 0) 0 []] (fun G => xA (As0 sl23)) (Dv [1] (Vfa fo26_0 0) (Dv [1] (VldF sh23 0) (Dx [4, 7] [7] [1, 0] (fun G => (G.g 3 0)) [fun G => os (G.g 3 0) g.Nodes] (fun G => xp [1] rfl (Ent.crNil (α := GNode) _) (xA (Ap0 [0, 0] sl23 sl23 sz23))) (Dx [] [] [0] (fun G => (G.g 4 0)) [fun G => Cr (G.g 4 0) 0 []] (fun G => xA (As0 sl24)) (Dv [1] (Vfa fo26_1 0) (Dv [1] (VldF sh24 0) (Dx [5, 9] [9] [1, 0] (fun G => (G.g 7 0)) [fun G => os (G.g 7 0) g.Succ] (fun G => xp [1] rfl (Ent.crNil (α := List Int) _) (xA (Ap0 [0, 0] sl24 sl24 sz24))) (Dx [] [] [0] (fun G => (G.g 8 0)) [fun G => Cr (G.g 8 0) 0 []] (fun G => xA (As0 sl24)) (Dv [1] (Vfa fo26_2 0) ?_)))))))))
 refine Dv [1] (VldF sh24 0) (Dx [6, 11] [11] [1, 0] (fun G => (G.g 11 0)) [fun G => os (G.g 11 0) g.Pred] (fun G => xp [1] rfl (Ent.crNil (α := List Int) _) (xA (Ap0 [0, 0] sl24 sl24 sz24))) ?_)
 refine Dx [8, 10, 12] [] [0, 0, 0] (fun G => .agg #[(G.g 3 0), (G.g 7 0), (G.g 11 0)]) [] (fun G => xV (v := .agg #[(G.g 3 0), (G.g 7 0), (G.g 11 0)]) (Vo 0 rfl (isO_os _ _) fun aq14 kq15 eq16 => (by rw [eq16]; exact Vo 1 rfl (isO_os _ _) fun aq17 kq18 eq19 => (by rw [eq19]; exact Vo 2 rfl (isO_os _ _) fun aq20 kq21 eq22 => (by rw [eq22]; exact Vbd st26 [.slice aq14 ((g.Nodes : List GNode).length) kq15, .slice aq17 ((g.Succ : List (List Int)).length) kq18, .slice aq20 ((g.Pred : List (List Int)).length) kq21]))))) (Dx [] [] [0] (fun G => (G.g 13 0)) [fun G => Cl (G.g 13 0) [.slice none 0 0, .slice none 0 0, .slice none 0 0]] (fun G => xA (Al ze26 [.slice none 0 0, .slice none 0 0, .slice none 0 0])) (Dx0 [8, 10, 12, 13] [13] [1, 1, 1, 0] [fun G => Cl (G.g 13 0) [(G.g 3 0), (G.g 7 0), (G.g 11 0)]] (fun G => x1 0 rfl os_one fun ho24 => (x1 1 rfl os_one fun ho25 => (x1 2 rfl os_one fun ho26 => (xS (Scl [3] sh26 [(G.g 3 0), (G.g 7 0), (G.g 11 0)] (v := .agg #[(G.g 3 0), (G.g 7 0), (G.g 11 0)]) (h1 := show [(G.g 3 0), (G.g 7 0), (G.g 11 0)].all (·.oneCell') = true from (by simp only [List.all_cons, List.all_nil, ho24, ho25, ho26, Bool.and_true, Bool.true_and] <;> rfl))))))) ?_))
 refine Dn ⟨by kernel_rfl, fun G => ?_⟩
 refine Jw2 [(0, tP), (4, p7), (5, (G.g 13 0))] [0, 1, 2, 3, 4, 5, 6] [os (G.g 3 0) g.Nodes, os (G.g 7 0) g.Succ, os (G.g 11 0) g.Pred, Cl (G.g 13 0) [(G.g 3 0), (G.g 7 0), (G.g 11 0)]] ?_
 generalize G.g 3 0 = c9, G.g 7 0 = c11, G.g 11 0 = c13, G.g 13 0 = p23
 refine Jo 7 ?_; rintro a27 k28 rfl
 refine Jo 8 ?_; rintro a29 k30 rfl
 refine Jo 9 ?_; rintro a31 k32 rfl
 refine KS ?_
 refine Oq Vm (Oq (Vfa fo26_0 10) (Oq (VldF sh23 10) (Oq (Vlen sl23) ?_)))
 refine letv (tp_Next tT tI (g.Nodes.length : Int)) fun rv33 hg34 => ?_
 have hPl_rv33 := lenS_at hgP aM1 rv33.1.toNat
 have hc35 := fn7 tP ta tk tT tI ((g.Nodes.length : Int)) pre pre rv33 hg34
 refine Oc [2, 2] ca7 hc35 ?_
 rintro - ⟨he36, he37, he38⟩
 unfold i64ok at he36
 refine Oq Va (KS ?_)
 refine Oq Vm ?_
 refine letv (tp_Next tT rv33.2 4) fun rv39 hg40 => ?_
 have hPl_rv39 := lenS_at hgP aM1 rv39.1.toNat
 have hc41 := fn7 tP ta tk tT rv33.2 4 pre pre rv39 hg40
 refine Oc [0, 2] ca7 hc41 ?_
 rintro - ⟨he42, he43, he44⟩
 unfold i64ok at he42
 refine KS ?_
 refine Oq Veql (Oq Va (KS ?_))
 refine Kc ?_ ?_
 ·intro h45
  have g46 := eq_of_beq h45
  refine Jp 10 fun hp47 => ?_
  refine JJ_peekOL rv33.1.toNat 9 rfl rng fun a48 k49 => ?_
  refine Fb 8 1 fun _ => Fo 1 fun ho51 => ?_
  refine JK_drawK [0, 1, 0, 0, 8, 0, 56, 120, 0, 0, 512, 1536, 3584, 7936, 16376, 32767, 65535] fmix ?_
  refine Dv [2] (Vfa fo26_1 0) (Dv [12] (VldF sh24 0) (Dv [] Vm (Dv [2] (Vfa fo26_1 0) (Dv [12] (VldF sh24 0) (Dv [] Vm (Dv [0] (Vi sl24 0) (Dv [0] (Vld sh22 0) (Dv [] Vm (Dv [2] (Vfa fo26_0 0) ?_)))))))))
  refine Dv [12] (VldF sh23 0) (Dv [] (Vlen sl23) (Dv [] Vadd ?_))
  refine letv (tp_Next tT rv39.2 ((g.Nodes.length : Int) + 1)) fun rv52 hg53 => ?_
  have hPl_rv52 := lenS_at hgP aM1 rv52.1.toNat
  refine Dx [3, 6] [3] [2, 0, 1] (fun G => vi rv52.1) [fun G => SP.fact (i64ok rv52.1 ∧ (0 ≤ rv52.2 ∧ rv52.2 ≤ (tT.length : Int)) ∧ (0 ≤ rv52.1 ∧ (rv52.1 < ((g.Nodes.length : Int) + 1) ∨ rv52.1 = 0))), fun G => Cl tP [vl ta tk tT, vi rv52.2]] (fun G => xC [0, 0] ca7 (fn7 tP ta tk tT rv39.2 (((g.Nodes.length : Int) + 1)) pre pre rv52 hg53)) ?_
  refine letv (r7_Insert (g.Succ.getD rv33.1.toNat []) rv52.1) fun rv55 hg56 => ?_
  refine Dx [1, 13] [] [2, 3, 0, 1] (fun G => (G.g 14 0)) [fun G => SP.fact ((rv55.length ≤ (g.Succ.getD rv33.1.toNat []).length + 1)), fun G => sl (G.g 14 0) rv55] (fun G => by refine xf 1 rfl ?_; rintro ⟨he57, he58, he59⟩; unfold i64ok at he57; exact xC [0] ca10 (fn10 ((g.Succ.getD rv33.1.toNat [])) a48 k49 rv52.1 pre (lenS_1 hgS aM1) rv55 hg56)) ?_
  refine Dx [0, 15] [] [0, 0] (fun G => (eptr 1 (vl a29 k30 g.Succ) rv33.1.toNat)) [] (fun G => by refine xf 1 rfl ?_; rintro he60; exact xV (Vi sl24 0)) ?_
  refine Dx0 [0, 15, 16] [0] [2, 1, 0] [fun G => os (vl a29 k30 g.Succ) (g.Succ.set rv33.1.toNat rv55)] (fun G => by refine xf 1 rfl ?_; rintro he61; exact xp [0] rfl (Ent.oread _ _ _ _) (x1 2 rfl sl_one fun ho62 => (xS (OpS.frame [0, 1] rfl (OpS.storeOs' (Rs := [sl (G.g 14 0) rv55]) rv55 [(G.g 14 0)] rfl rfl rfl sh22 (cells_of_one ho62) rfl (fun h => ⟨_, rfl, sepAll_get (i := 0) rfl h⟩) rng))))) ?_
  refine Dn ⟨by kernel_rfl, fun G => ?_⟩
  refine Jw2 [(4, p7), (5, p23)] [1, 2, 4, 5, 6, 7, 8, 9, 10, 11, 12] [SP.fact (i64ok rv52.1 ∧ (0 ≤ rv52.2 ∧ rv52.2 ≤ (tT.length : Int)) ∧ (0 ≤ rv52.1 ∧ (rv52.1 < ((g.Nodes.length : Int) + 1) ∨ rv52.1 = 0))), Cl tP [vl ta tk tT, vi rv52.2], SP.fact ((rv55.length ≤ (g.Succ.getD rv33.1.toNat []).length + 1)), sl (G.g 14 0) rv55, os (vl a29 k30 g.Succ) (g.Succ.set rv33.1.toNat rv55)] ?_
  generalize G.g 14 0 = c54
  refine Jf 11 rfl ?_; rintro ⟨he63, he64, he65⟩
  unfold i64ok at he63
  refine Jf 13 rfl ?_; rintro he66
  refine Jk [0, 2, 2, 3, 4, 5, 6, 7, 7, 7, 8, 9, 10] ?_
  refine Jo 11 ?_; rintro a67 k68 rfl
  refine Fb 8 11 fun _ => Fo 11 fun ho70 => KS ?_
  refine Oq (VldA sh26 9) (Ost (Scl [1] sh26 [vl a27 k28 g.Nodes, vl a29 k30 g.Succ, vl a31 k32 g.Pred]) (KS ?_))
  refine Jl [7] (Ent.freeze _ _) ?_
  refine Jl [12] (Ent.freeze _ _) ?_
  refine Jl [9] (Ent.freeze _ _) ?_
  have hq := q4 hrr ((GGraph.mk g.Nodes (g.Succ.set rv33.1.toNat rv55) g.Pred), rv52.2) (by simp only [tp_SpoilGraph, h45, hg34, hg40, hg53, hg56, cs4]); subst hq
  exact Kr (vl a27 k28 g.Nodes, vl a29 k30 g.Succ, vl a31 k32 g.Pred) rfl (.cellN 3 rfl sh26 rfl (reads_Cl _ _) rfl .nil) [2, 1, 0, 11] ⟨en, (Nat.le_trans (SpG_len hrr) hg12)⟩
 intro h45
 have g71 := ne_of_beq_false h45
 refine KS ?_
 refine Oq Veql (Oq Va (KS ?_))
 refine Kc ?_ ?_
 ·intro h72
  have g73 := eq_of_beq h72
  refine Jp 10 fun hp74 => ?_
  refine JJ_peekOL rv33.1.toNat 10 rfl rng fun a75 k76 => ?_
  refine Fb 8 1 fun _ => Fo 1 fun ho78 => ?_
  refine JK_drawK [0, 1, 0, 0, 0, 16, 0, 112, 240, 504, 0, 0, 2048, 6144, 16376, 32760, 65528, 131064, 262143, 524287] fmix ?_
  refine Dv [2] (Vfa fo26_2 0) (Dv [12] (VldF sh24 0) (Dv [] Vm (Dx [] [] [0] (fun G => (G.g 3 0)) [fun G => Cr (G.g 3 0) 0 []] (fun G => xA (As0 sl22)) (Dv [2] (Vfa fo26_2 0) (Dv [12] (VldF sh24 0) (Dv [] Vm (Dv [0] (Vi sl24 0) (Dv [0] (Vld sh22 0) (Dx [1, 13] [13] [1, 0] (fun G => (G.g 9 0)) [fun G => os (G.g 9 0) ((g.Pred.getD rv33.1.toNat []) : List Int)] (fun G => xp [1] rfl (Ent.crNil (α := Int) _) (xA (Ap0 [0, 0] sl22 sl22 sz22))) ?_)))))))))
  refine Dv [] Vm (Dv [2] (Vfa fo26_0 0) (Dv [12] (VldF sh23 0) (Dv [] (Vlen sl23) ?_)))
  refine letv (tp_Next tT rv39.2 (g.Nodes.length : Int)) fun rv81 hg82 => ?_
  have hPl_rv81 := lenS_at hgP aM1 rv81.1.toNat
  refine Dx [3, 6] [3] [2, 0, 1] (fun G => vi rv81.1) [fun G => SP.fact (i64ok rv81.1 ∧ (0 ≤ rv81.2 ∧ rv81.2 ≤ (tT.length : Int)) ∧ (0 ≤ rv81.1 ∧ (rv81.1 < (g.Nodes.length : Int) ∨ rv81.1 = 0))), fun G => Cl tP [vl ta tk tT, vi rv81.2]] (fun G => xC [0, 0] ca7 (fn7 tP ta tk tT rv39.2 ((g.Nodes.length : Int)) pre pre rv81 hg82)) ?_
  refine Dx [15] [] [0] (fun G => vi (rv81.1 - 1)) [] (fun G => by refine xf 0 rfl ?_; rintro ⟨he83, he84, he85⟩; unfold i64ok at he83; exact xV (Vsub)) (Dx [] [] [0] (fun G => (G.g 16 0)) [fun G => Cr (G.g 16 0) 1 [vi (rv81.1 - 1)]] (fun G => xA (AsV sl22 sz22 [vi (rv81.1 - 1)] [vi (rv81.1 - 1)])) ?_)
  have hn88 := la ((g.Pred.getD rv33.1.toNat []) : List Int) ([(rv81.1 - 1)] : List Int)
  refine Dx [14, 15, 17] [14, 17] [1, 0] (fun G => (G.g 17 0)) [fun G => os (G.g 17 0) (((g.Pred.getD rv33.1.toNat []) ++ [(rv81.1 - 1)]) : List Int)] (fun G => by refine xf 1 rfl ?_; rintro ⟨he89, he90, he91⟩; unfold i64ok at he89; exact xp [2] rfl (Ent.crInt _ [(rv81.1 - 1)] _ _ rfl rfl (by intro x hx; rw [List.mem_singleton] at hx; subst hx; unfold i64ok; omega) aB1) (xA (ApO [1, 0] sl22 sl22 sz22))) (Dv [0] (Vi sl24 0) ?_)
  refine Dx0 [0, 15, 18] [0, 18] [3, 1, 0] [fun G => sl (G.g 17 0) (((g.Pred.getD rv33.1.toNat []) ++ [(rv81.1 - 1)]) : List Int), fun G => os (vl a31 k32 g.Pred) ((g.Pred.set rv33.1.toNat ((g.Pred.getD rv33.1.toNat []) ++ [(rv81.1 - 1)])) : List (List Int))] (fun G => by refine xf 1 rfl ?_; rintro ⟨he92, he93, he94⟩; unfold i64ok at he92; exact xp [0] rfl (Ent.oread _ _ _ _) (xp [2] rfl (Ent.freeze _ _) (x1 0 rfl sl_one fun ho95 => (xS (OpS.frame [1, 0] rfl (OpS.storeOs' (Rs := [sl (G.g 17 0) (((g.Pred.getD rv33.1.toNat []) ++ [(rv81.1 - 1)]) : List Int)]) ((g.Pred.getD rv33.1.toNat []) ++ [(rv81.1 - 1)]) [(G.g 17 0)] rfl rfl rfl sh22 (cells_of_one ho95) rfl (fun h => ⟨_, rfl, sepAll_get (i := 0) rfl h⟩) rng)))))) ?_
  refine Dn ⟨by kernel_rfl, fun G => ?_⟩
  refine Jw2 [(4, p7), (5, p23)] [1, 2, 4, 5, 6, 7, 8, 9, 10, 11, 12] [SP.fact (i64ok rv81.1 ∧ (0 ≤ rv81.2 ∧ rv81.2 ≤ (tT.length : Int)) ∧ (0 ≤ rv81.1 ∧ (rv81.1 < (g.Nodes.length : Int) ∨ rv81.1 = 0))), Cl tP [vl ta tk tT, vi rv81.2], sl (G.g 17 0) (((g.Pred.getD rv33.1.toNat []) ++ [(rv81.1 - 1)]) : List Int), os (vl a31 k32 g.Pred) ((g.Pred.set rv33.1.toNat ((g.Pred.getD rv33.1.toNat []) ++ [(rv81.1 - 1)])) : List (List Int))] ?_
  generalize G.g 17 0 = c87
  refine Jf 11 rfl ?_; rintro ⟨he96, he97, he98⟩
  unfold i64ok at he96
  refine Jk [0, 2, 2, 3, 4, 5, 6, 7, 7, 7, 8, 8, 9] ?_
  refine Jo 11 ?_; rintro a99 k100 rfl
  refine Fb 8 11 fun _ => Fo 11 fun ho102 => KS ?_
  refine Oq (VldA sh26 9) (Ost (Scl [1] sh26 [vl a27 k28 g.Nodes, vl a29 k30 g.Succ, vl a31 k32 g.Pred]) (KS ?_))
  refine Jl [7] (Ent.freeze _ _) ?_
  refine Jl [8] (Ent.freeze _ _) ?_
  refine Jl [12] (Ent.freeze _ _) ?_
  have hq := q4 hrr ((GGraph.mk g.Nodes g.Succ (g.Pred.set rv33.1.toNat ((g.Pred.getD rv33.1.toNat []) ++ [(rv81.1 - 1)]))), rv81.2) (by simp only [tp_SpoilGraph, h45, h72, hg34, hg40, hg82, cs4]); subst hq
  exact Kr (vl a27 k28 g.Nodes, vl a29 k30 g.Succ, vl a31 k32 g.Pred) rfl (.cellN 3 rfl sh26 rfl (reads_Cl _ _) rfl .nil) [2, 1, 0, 11] ⟨en, (Nat.le_trans (SpG_len hrr) hg12)⟩
 intro h72
 have g103 := ne_of_beq_false h72
 refine KS ?_
 refine Oq Veql (Oq Va (KS ?_))
 refine Kc ?_ ?_
 ·intro h104
  have g105 := eq_of_beq h104
  refine KS ?_
  refine Oq (Vfa fo26_0 10) (Oq (VldF sh23 10) (Oa (AslO [7] sl23 ((1 : Int).toNat) g.Nodes.length) fun c106 => ?_))
  refine Jo 0 ?_; rintro a107 k108 rfl
  refine Fb 32 0 fun _ => ?_
  have hn110 : ((g.Nodes.take g.Nodes.length).drop ((1 : Int).toNat)).length = g.Nodes.length - ((1 : Int).toNat) := len_slice rng rng
  refine Oq (Vfa fo26_0 10) (Ost (SclF [10] sh23 [vl a107 k108 ((g.Nodes.take g.Nodes.length).drop ((1 : Int).toNat)), vl a29 k30 g.Succ, vl a31 k32 g.Pred]) (KS ?_))
  refine Oq (VldA sh26 0) (Ost (Scl [3] sh26 [vl a107 k108 ((g.Nodes.take g.Nodes.length).drop ((1 : Int).toNat)), vl a29 k30 g.Succ, vl a31 k32 g.Pred]) (KS ?_))
  refine Jl [2] (Ent.freeze _ _) ?_
  refine Jl [9] (Ent.freeze _ _) ?_
  refine Jl [10] (Ent.freeze _ _) ?_
  have hq := q4 hrr ((GGraph.mk ((g.Nodes.take g.Nodes.length).drop ((1 : Int).toNat)) g.Succ g.Pred), rv39.2) (by simp only [tp_SpoilGraph, h45, h72, h104, hg34, hg40, cs4]); subst hq
  exact Kr (vl a107 k108 ((g.Nodes.take g.Nodes.length).drop ((1 : Int).toNat)), vl a29 k30 g.Succ, vl a31 k32 g.Pred) rfl (.cellN 3 rfl sh26 rfl (reads_Cl _ _) rfl .nil) [2, 1, 0, 5] ⟨en, (Nat.le_trans (SpG_len hrr) hg12)⟩
 intro h104
 have g111 := ne_of_beq_false h104
 refine KS ?_
 refine Oq (Vfa fo26_1 10) (Oq (VldF sh24 10) (Oq Vm (Oq (Vi sl24 8) (Ost (So (Rs := []) [8] sh22 ([] : List Int) (fun _ => ⟨_, rfl, slrd_nil⟩)) (KS ?_)))))
 refine Oq (VldA sh26 10) (Ost (Scl [2] sh26 [vl a27 k28 g.Nodes, vl a29 k30 g.Succ, vl a31 k32 g.Pred]) (KS ?_))
 refine Jl [8] (Ent.freeze _ _) ?_
 refine Jl [2] (Ent.freeze _ _) ?_
 refine Jl [9] (Ent.freeze _ _) ?_
 have hq := q4 hrr ((GGraph.mk g.Nodes (g.Succ.set rv33.1.toNat ([] : List Int)) g.Pred), rv39.2) (by simp only [tp_SpoilGraph, h45, h72, h104, hg34, hg40, cs4]); subst hq
 exact Kr (vl a27 k28 g.Nodes, vl a29 k30 g.Succ, vl a31 k32 g.Pred) rfl (.cellN 3 rfl sh26 rfl (reads_Cl _ _) rfl .nil) [2, 1, 0, 4] ⟨en, (Nat.le_trans (SpG_len hrr) hg12)⟩
theorem fn22  (rr : GGraph) (hrr : w33_diamond = .ret rr) : FT Tryz.prog 22 #[] [] (fun g : Value × Value × Value => True) (fun g => .agg #[g.1, g.2.1, g.2.2]) (fun g => [sl g.1 rr.Nodes, sl g.2.1 rr.Succ, sl g.2.2 rr.Pred]) := by
 refine FTi Tryz.func22 fun w0 M0 F0 => ?_
 have hx0 := lrn rr; have H := hrr; unfold w33_diamond at H
 refine KS ?_
 refine Oa (Al ze26 [.slice none 0 0, .slice none 0 0, .slice none 0 0]) fun p1 => KS ?_
 refine pC H hx0 fun hc2 H => ?_
 refine Oa (Amk (α := GNode) sl23 sz23 (default : GNode) zrd_GNode) fun c3 => ?_
 refine Jo 0 ?_; rintro a4 k5 rfl
 refine Fb 32 0 fun _ => ?_
 have hn7 := List.length_replicate (n := (4 : Int).toNat) (a := ((default : GNode) : GNode))
 refine Oa (AsV sl22 sz22 [vi 1, vi 2] [vi 1, vi 2]) fun c8 => ?_
 refine Jo 0 ?_; rintro a9 k10 rfl
 refine Oa (AsV sl22 sz22 [vi 3] [vi 3]) fun c11 => ?_
 refine Jo 0 ?_; rintro a12 k13 rfl
 refine Oa (AsV sl22 sz22 [vi 3] [vi 3]) fun c14 => ?_
 refine Jo 0 ?_; rintro a15 k16 rfl
 refine Oa (AsV sl24 sz24 [.slice a9 2 k10, .slice a12 1 k13, .slice a15 1 k16, .slice none 0 0] [.slice a9 2 k10, .slice a12 1 k13, .slice a15 1 k16, .slice none 0 0]) fun c17 => ?_
 refine Jo 0 ?_; rintro a18 k19 rfl
 refine Oa (AsV sl22 sz22 [vi 0] [vi 0]) fun c20 => ?_
 refine Jo 0 ?_; rintro a21 k22 rfl
 refine Oa (AsV sl22 sz22 [vi 0] [vi 0]) fun c23 => ?_
 refine Jo 0 ?_; rintro a24 k25 rfl
 refine Oa (AsV sl22 sz22 [vi 1, vi 2] [vi 1, vi 2]) fun c26 => ?_
 refine Jo 0 ?_; rintro a27 k28 rfl
 refine Oa (AsV sl24 sz24 [.slice none 0 0, .slice a21 1 k22, .slice a24 1 k25, .slice a27 2 k28] [.slice none 0 0, .slice a21 1 k22, .slice a24 1 k25, .slice a27 2 k28]) fun c29 => ?_
 refine Jo 0 ?_; rintro a30 k31 rfl
 refine Oq (Vbd st26 [vl a4 k5 (List.replicate (4 : Int).toNat (default : GNode)), .slice a18 4 k19, .slice a30 4 k31]) (Ost (Scl [9] sh26 [vl a4 k5 (List.replicate (4 : Int).toNat (default : GNode)), .slice a18 4 k19, .slice a30 4 k31]) (KS ?_))
 refine Jl [9] (Ent.freeze _ _) ?_
 refine Jl [9] (Ent.crInt _ [1, 2] _ _ rfl rfl (by intro x hx; simp only [List.mem_cons, List.not_mem_nil, or_false] at hx; rcases hx with rfl | rfl <;> (unfold i64ok; omega)) aB1) ?_
 refine Jl [0] (Ent.freeze _ _) ?_
 refine Jl [9] (Ent.crInt _ [3] _ _ rfl rfl (by intro x hx; rw [List.mem_singleton] at hx; subst hx; unfold i64ok; omega) aB1) ?_
 refine Jl [0] (Ent.freeze _ _) ?_
 refine Jl [9] (Ent.crInt _ [3] _ _ rfl rfl (by intro x hx; rw [List.mem_singleton] at hx; subst hx; unfold i64ok; omega) aB1) ?_
 refine Jl [0] (Ent.freeze _ _) ?_
 refine Jl [9, 2, 1, 0] (Ent.crOs (α := List Int) (A := [sl (.slice a9 2 k10) ([1, 2] : List Int), sl (.slice a12 1 k13) ([3] : List Int), sl (.slice a15 1 k16) ([3] : List Int)]) _ ([[1, 2], [3], [3], ([] : List Int)] : List (List Int)) _ aB1 (fun h => ⟨[.slice a9 2 k10], [.slice a12 1 k13, .slice a15 1 k16, .slice none 0 0], rfl, (fun h => ⟨_, rfl, sepAll_get (i := 0) rfl h⟩) h, ⟨[.slice a12 1 k13], [.slice a15 1 k16, .slice none 0 0], rfl, (fun h => ⟨_, rfl, sepAll_get (i := 1) rfl h⟩) h, ⟨[.slice a15 1 k16], [.slice none 0 0], rfl, (fun h => ⟨_, rfl, sepAll_get (i := 2) rfl h⟩) h, ⟨[.slice none 0 0], [], rfl, (fun _ => ⟨_, rfl, slrd_nil⟩) h, rfl⟩⟩⟩⟩)) ?_
 refine Jl [0] (Ent.freeze _ _) ?_
 refine Jl [12] (Ent.crInt _ [0] _ _ rfl rfl (by intro x hx; rw [List.mem_singleton] at hx; subst hx; unfold i64ok; omega) aB1) ?_
 refine Jl [0] (Ent.freeze _ _) ?_
 refine Jl [12] (Ent.crInt _ [0] _ _ rfl rfl (by intro x hx; rw [List.mem_singleton] at hx; subst hx; unfold i64ok; omega) aB1) ?_
 refine Jl [0] (Ent.freeze _ _) ?_
 refine Jl [12] (Ent.crInt _ [1, 2] _ _ rfl rfl (by intro x hx; simp only [List.mem_cons, List.not_mem_nil, or_false] at hx; rcases hx with rfl | rfl <;> (unfold i64ok; omega)) aB1) ?_
 refine Jl [0] (Ent.freeze _ _) ?_
 refine Jl [12, 2, 1, 0] (Ent.crOs (α := List Int) (A := [sl (.slice a21 1 k22) ([0] : List Int), sl (.slice a24 1 k25) ([0] : List Int), sl (.slice a27 2 k28) ([1, 2] : List Int)]) _ ([([] : List Int), [0], [0], [1, 2]] : List (List Int)) _ aB1 (fun h => ⟨[.slice none 0 0], [.slice a21 1 k22, .slice a24 1 k25, .slice a27 2 k28], rfl, (fun _ => ⟨_, rfl, slrd_nil⟩) h, ⟨[.slice a21 1 k22], [.slice a24 1 k25, .slice a27 2 k28], rfl, (fun h => ⟨_, rfl, sepAll_get (i := 0) rfl h⟩) h, ⟨[.slice a24 1 k25], [.slice a27 2 k28], rfl, (fun h => ⟨_, rfl, sepAll_get (i := 1) rfl h⟩) h, ⟨[.slice a27 2 k28], [], rfl, (fun h => ⟨_, rfl, sepAll_get (i := 2) rfl h⟩) h, rfl⟩⟩⟩⟩)) ?_
 refine Jl [0] (Ent.freeze _ _) ?_
 have hq := rI H; subst hq
 exact Kr (vl a4 k5 (List.replicate (4 : Int).toNat (default : GNode)), .slice a18 4 k19, .slice a30 4 k31) rfl (.cellN 15 rfl sh26 rfl (reads_Cl _ _) rfl .nil) [14, 7, 0] trivial
theorem fn52 (x : Flo) (rr : Flo) (hrr : math_Abs x = .ret rr) : FT Tryz.prog 52 #[flo x] [] (fun g : Unit => True) (fun g => flo rr) (fun g => []) := by
 refine FTi Tryz.func52 fun w0 M0 F0 => ?_
 have hx0 := lrn rr; have H := hrr; unfold math_Abs at H
 refine KS ?_
 refine Oq Va (KS ?_)
 refine Oq Vm (Oq (VfB (a := x) fx68) (Oq (VandNotU (b := 9223372036854775808#64)) (Oq (VfF (a := ((x.b) &&& ~~~(9223372036854775808#64))) fx67) (Oq Va (KS ?_)))))
 have hq := rI H; subst hq
 exact Kr () rfl (.tmp rfl .nil) [] trivial
theorem fn53 (x : Flo) (rr : Flo) (hrr : math_Trunc x = .ret rr) : FT Tryz.prog 53 #[flo x] [] (fun g : Unit => True) (fun g => flo rr) (fun g => []) := by
 refine FTi Tryz.func53 fun w0 M0 F0 => ?_
 have hx0 := lrn rr; have H := hrr; unfold math_Trunc at H
 refine KS ?_
 refine Oq Va (KS ?_)
 refine Kt (KS ?_)
 refine Oq Vm ?_
 refine pC H hx0 fun hc1 H => ?_
 refine Oq (VfT (a := x) fx69 (h := hc1)) (Oq Va (KS ?_))
 have hq := rI H; subst hq
 exact Kr () rfl (.tmp rfl .nil) [] trivial
theorem fn51 (x : Flo) (rr : Bool) (hrr : layout_whole_1 x = .ret rr) : FT Tryz.prog 51 #[flo x] [] (fun g : Unit => True) (fun g => vb rr) (fun g => []) := by
 refine FTi Tryz.func51 fun w0 M0 F0 => ?_
 have hx0 := lrn rr; have H := hrr; unfold layout_whole_1 at H
 refine KS ?_
 refine Oq Va (KS ?_)
 refine Oq Vm ?_
 refine lbH H hx0 fun rv1 hg2 H => ?_
 have hc3 := fn52 x rv1 hg2
 refine Oc [] ca52 hc3 ?_
 rintro - -
 refine Oq (VleF (a := rv1) (b := (Flo.mk 4652218415073722368#64))) (Oq Vm ?_)
 refine pT H hx0 fun h4 H => ?_
 refine JsT 6 h4 ?_
 refine Oq Vm (Oq Vm ?_)
 refine lbH H hx0 fun rv6 hg7 H => ?_
 have hc8 := fn53 x rv6 hg7
 refine Oc [] ca53 hc8 ?_
 rintro - -
 refine Oq (VeqF (a := x) (b := rv6)) (Oq Vpt (Oq Va (KS ?_)))
 have hq := rI H; subst hq
 exact Kr () rfl (.tmp rfl .nil) [] trivial
theorem fn55m0 (p : Cpx) (cap0P : Value) (rr : Bool) (hrr : layout_whole_2_whole_1 p = .ret rr) : FT Tryz.prog 55 #[cxv p, cap0P] [pv cap0P [.func (.func 51) #[] #[]]] (fun g : Unit => True) (fun g => vb rr) (fun g => []) := by
 refine FTi Tryz.func55 fun w0 M0 F0 => ?_
 have hx0 := lrn rr; have H := hrr; unfold layout_whole_2_whole_1 at H
 refine KS ?_
 refine Oq Va (KS ?_)
 refine Oq (Vld sh97 0) (Oq Vm (Oq (Vre (a := p)) ?_))
 refine lbH H hx0 fun rv1 hg2 H => ?_
 have hc3 := fn51 ((Flo.mk p.re)) rv1 hg2
 refine JO_call [] rfl rfl rfl (OpC.clo (asv := [(flo (Flo.mk p.re) : Value)]) rfl rfl ca51 rfl (by simp)) hc3 rfl ?_
 rintro - -
 refine Oq Vnot (Oq Vm ?_)
 refine pF H hx0 fun h4 H => ?_
 refine JsF 9 h4 ?_
 have h6 := not_false h4
 refine Oq (Vld sh97 0) (Oq Vm (Oq (Vim (a := p)) ?_))
 refine lbH H hx0 fun rv8 hg9 H => ?_
 have hc10 := fn51 ((Flo.mk p.im)) rv8 hg9
 refine Ogo (gt rfl rfl rfl rfl) ?_
 refine JO_call [] rfl rfl rfl (OpC.clo (asv := [(flo (Flo.mk p.im) : Value)]) rfl rfl ca51 rfl (by simp)) hc10 rfl ?_
 rintro - -
 refine Oq Vnot (Oq Vpf (Oq Va (KS ?_)))
 have hq := rI H; subst hq
 exact Kr () rfl (.tmp rfl .nil) [] trivial
theorem fn71m0 (s : List Cpx) (sa0 : Option Addr) (sk0 : Nat) (st0P : Value) (rr : Int) (hrr : sc_IndexFunc_complex128_whole_2 s = .ret rr) : FT Tryz.prog 71 #[vl sa0 sk0 s, .func (.func 55) #[] #[st0P]] [S sa0 sk0 s, pv st0P [.func (.func 51) #[] #[]]] (fun g : Unit => i64ok rr) (fun g => vi rr) (fun g => []) := by
 refine FTi Tryz.func71 fun w0 M0 F0 => Fb 16 0 fun _ => ?_
 have hx0 := lrn rr; have H := hrr; unfold sc_IndexFunc_complex128_whole_2 at H
 refine KS ?_
 refine Oq Va (KS ?_)
 refine Oq Vm (Oq (Vlen sl41) (Oq Vm (KS ?_)))
 refine llH H hx0 fun X9 hX10 hx11 HL12 => ?_
 refine Kl (γ := Nat × Int) (fun (r2, v8_3) => ⟨[(0, vl sa0 sk0 s), (1, .func (.func 55) #[] #[st0P]), (7, vi (s.length : Int)), (8, vi v8_3)], [S sa0 sk0 s, pv st0P [.func (.func 51) #[] #[]]], sc_IndexFunc_complex128_whole_2_L0 s r2 v8_3 = X9 ∧ r2 = ((s.length : Int) - v8_3).toNat ∧ (0 : Int) ≤ v8_3 ∧ v8_3 ≤ (s.length : Int) ∧ (-9223372036854775808 ≤ v8_3 ∧ v8_3 ≤ 9223372036854775807), r2⟩) (((s.length : Int) - 0).toNat, 0) [0, 1] ⟨hX10, rfl, aM1, aM1, aM1⟩ ?_
 rintro ⟨r2, v8_3⟩ ⟨hM4, hr5, hi6, hi7, hk8⟩
 refine JJ_nx fun _ _ hL hA => ?_; dsimp only at hL hA; subst hL hA
 refine Fb 16 0 fun _ => KS ?_
 refine Oq Vlss (KS ?_)
 refine Kc ?_ ?_
 ·intro h14
  have g15 := dt h14
  obtain ⟨r16, rfl⟩ := scc (n := r2) aM1
  have H := hM4; (try dsimp only at H); rw [sc_IndexFunc_complex128_whole_2_L0] at H
  refine KS ?_
  refine Oq Vm (Oq Va (KS ?_))
  refine Oq Vm (Oq Vm (Oq Vm ?_))
  refine pC H hx11 fun hc17 H => ?_
  refine Oq (Vi sl41 0) (Oq (VldCx sh58 0) ?_)
  refine lbH H hx11 fun rv18 hg19 H => ?_
  have hc20 := fn55m0 ((s.getD v8_3.toNat default)) st0P rv18 hg19
  refine JO_call [1] rfl rfl rfl (OpC.clo (asv := [(cxv (s.getD v8_3.toNat default) : Value), (st0P : Value)]) rfl rfl ca55 rfl (by simp)) hc20 rfl ?_
  rintro - -
  refine KS ?_
  refine pF H hx11 fun h21 H => ?_
  refine KcF h21 ?_
  refine KS ?_
  refine Oq Vadd (Oq Vm (KS ?_))
  refine pC H hx11 fun hc23 H => ?_
  exact Kg (r16, (v8_3 + 1)) [0, 1] ⟨H, aM1, aM1, aM1, aM1⟩
 intro h14
 have g24 := df h14
 obtain rfl : r2 = 0 := by omega
 have H := hM4; (try dsimp only at H); rw [sc_IndexFunc_complex128_whole_2_L0] at H
 refine Ke ?_
 have H := llB H HL12
 refine KS ?_
 refine Oq Va (KS ?_)
 have hq := rI H; subst hq
 exact Kr () rfl (.tmp rfl .nil) [] en
theorem fn54m0 (s : List Cpx) (sa0 : Option Addr) (sk0 : Nat) (st0P : Value) (rr : Bool) (hrr : sc_ContainsFunc_complex128_whole_2 s = .ret rr) : FT Tryz.prog 54 #[vl sa0 sk0 s, .func (.func 55) #[] #[st0P]] [S sa0 sk0 s, pv st0P [.func (.func 51) #[] #[]]] (fun g : Unit => True) (fun g => vb rr) (fun g => []) := by
 refine FTi Tryz.func54 fun w0 M0 F0 => Fb 16 0 fun _ => ?_
 have hx0 := lrn rr; have H := hrr; unfold sc_ContainsFunc_complex128_whole_2 at H
 refine KS ?_
 refine Oq Va (KS ?_)
 refine Oq Vm (Oq Vm ?_)
 refine lbH H hx0 fun rv2 hg3 H => ?_
 have hc4 := fn71m0 s sa0 sk0 st0P rv2 hg3
 refine Oc [0, 1] ca71 hc4 ?_
 rintro - he5
 unfold i64ok at he5
 refine Oq Vgeq (Oq Va (KS ?_))
 have hq := rI H; subst hq
 exact Kr () rfl (.tmp rfl .nil) [] trivial
theorem fn34 (at_ : List Cpx) (at_a0 : Option Addr) (at_k0 : Nat) (rr : Bool) (hrr : layout_whole at_ = .ret rr) : FT Tryz.prog 34 #[vl at_a0 at_k0 at_] [S at_a0 at_k0 at_] (fun g : Unit => True) (fun g => vb rr) (fun g => []) := by
 refine FTi Tryz.func34 fun w0 M0 F0 => Fb 16 0 fun _ => ?_
 have hx0 := lrn rr; have H := hrr; unfold layout_whole at H
 refine KS ?_
 refine Oq Va (KS ?_)
 refine Oa (Al ze97 [.nilFunc]) fun p2 => Ost (Scl [0] sh97 [.func (.func 51) #[] #[]]) (KS ?_)
 refine Oq Vm (Oq (Vf [p2]) ?_)
 refine Jl [0] (Ent.freezeCl _ _) ?_
 refine lbH H hx0 fun rv3 hg4 H => ?_
 have hc5 := fn54m0 at_ at_a0 at_k0 p2 rv3 hg4
 refine Oc [1, 0] ca54 hc5 ?_
 rintro - -
 refine Oq Vnot (Oq Va (KS ?_))
 have hq := rI H; subst hq
 exact Kr () rfl (.tmp rfl .nil) [] trivial
theorem fn35 (s : List Cpx) (sa0 : Option Addr) (sk0 : Nat) (rr : List Cpx) (hrr : sc_Clone_complex128 s = .ret rr) : FT Tryz.prog 35 #[vl sa0 sk0 s] [S sa0 sk0 s] (fun g : Value => True) (fun g => g) (fun g => [os g rr]) := by
 have hm : sc_Clone_complex128 s = .ret s := rfl
 rw [hm] at hrr
 injection hrr with hrr
 subst hrr
 refine FTi Tryz.func35 fun w0 M0 F0 => ?_
 refine KS ?_
 refine Oq Va ?_
 refine KS ?_
 refine Oq Vm ?_
 refine Oq (VeqN un41) ?_
 refine KS ?_
 refine Kc ?_ ?_
 ·intro h
  refine Jnil 0 h ?_
  intro h0
  subst h0
  refine KS ?_
  refine Oq Va ?_
  refine KS ?_
  refine Jl [] (Ent.osNil (α := Cpx)) ?_
  exact Kr (.slice none 0 0) rfl (.tmp rfl .nil) [0] trivial
 ·intro _
  refine KS ?_
  refine Oa (As0 sl41) fun c1 => ?_
  refine Jo 0 ?_; rintro a2 k3 rfl
  refine Oq Vm ?_
  refine Fb 16 1 fun hl => ?_
  refine Jl [0] (Ent.crNil (α := Cpx) _) ?_
  refine Oa (Ap0 [0, 0] sl41 sl41 sz41) fun c4 => ?_
  refine Oq Va ?_
  refine KS ?_
  exact Kr c4 rfl (.tmp rfl .nil) [0] trivial
theorem fn23 (at_ : List Cpx) (at_a0 : Option Addr) (at_k0 : Nat) (quarter : Int) (hquarter_0 : i64ok quarter) (rr : List Cpx) (hrr : layout_Turn at_ quarter = .ret rr) : FT Tryz.prog 23 #[vl at_a0 at_k0 at_, vi quarter] [S at_a0 at_k0 at_] (fun g : Value => True) (fun g => g) (fun g => [os g rr]) := by
 refine FTi Tryz.func23 fun w0 M0 F0 => ?_
 unfold i64ok at hquarter_0
 refine Fb 16 0 fun _ => ?_
 have hx0 := lrn rr; have H := hrr; unfold layout_Turn at H
 refine KS ?_
 refine Oq Va (KS ?_)
 refine Oq Vm ?_
 refine lbH H hx0 fun rv2 hg3 H => ?_
 have hc4 := fn34 at_ at_a0 at_k0 rv2 hg3
 refine Oc [0] ca34 hc4 ?_
 rintro - -
 refine Oq Vnot (KS ?_)
 refine pF H hx0 fun h5 H => ?_
 refine KcF h5 ?_
 have h7 := not_false h5
 refine KS ?_
 refine Oq Vm ?_
 refine lbH H hx0 fun rv10 hg11 H => ?_
 have hc12 := fn35 at_ at_a0 at_k0 rv10 hg11
 refine Oc [0] ca35 hc12 ?_
 rintro c9 -
 refine Jo 0 ?_; rintro a13 k14 rfl
 refine Fb 16 0 fun _ => ?_
 refine Oq Va (KS ?_)
 refine Oq Vm ?_
 refine pC H hx0 fun hc16 H => ?_
 refine Oq VremT ?_
 have ht17 := tmod_rng quarter 4 aM1
 refine pC H hx0 fun hc18 H => ?_
 refine Oq Vadd ?_
 refine pC H hx0 fun hc19 H => ?_
 refine Oq VremT ?_
 have ht20 := tmod_rng ((Int.tmod quarter 4) + 4) 4 aM1
 refine Oq Vm (KS ?_)
 refine llH H hx0 fun X31 hX32 hx33 HL34 => ?_
 refine Kl (γ := Nat × List Cpx × Int × Option Addr × Nat) (fun (r21, l_22, v16_23, a24, k25) => ⟨[(5, vl a24 k25 l_22), (15, vi (Int.tmod ((Int.tmod quarter 4) + 4) 4)), (16, vi v16_23)], [O a24 k25 l_22], layout_Turn_L0 r21 l_22 v16_23 = X31 ∧ r21 = (((Int.tmod ((Int.tmod quarter 4) + 4) 4) : Int) - v16_23).toNat ∧ (0 : Int) ≤ v16_23 ∧ (v16_23 ≤ (Int.tmod ((Int.tmod quarter 4) + 4) 4) ∨ v16_23 = 0) ∧ (-9223372036854775808 ≤ v16_23 ∧ v16_23 ≤ 9223372036854775807), r21⟩) ((((Int.tmod ((Int.tmod quarter 4) + 4) 4) : Int) - 0).toNat, rv10, 0, a13, k14) [0] ⟨hX32, rfl, aM1, (.inr rfl), aM1⟩ ?_
 rintro ⟨r21, l_22, v16_23, a24, k25⟩ ⟨hM26, hr27, hi28, hi29, hk30⟩
 refine JJ_nx fun _ _ hL hA => ?_; dsimp only at hL hA; subst hL hA
 refine Fb 16 0 fun _ => KS ?_
 refine Oq Vlss (KS ?_)
 refine Kc ?_ ?_
 ·intro h36
  have g37 := dt h36
  obtain ⟨r38, rfl⟩ := scc (n := r21) aM1
  have H := hM26; (try dsimp only at H); rw [layout_Turn_L0] at H
  refine KS ?_
  refine Oq Vm (Oq (Vlen sl41) (Oq Vm (KS ?_)))
  refine llH H hx33 fun X47 hX48 hx49 HL50 => ?_
  refine Kl (γ := Nat × List Cpx × Int) (fun (r39, l_40, v20_41) => ⟨[(5, vl a24 k25 l_22), (15, vi (Int.tmod ((Int.tmod quarter 4) + 4) 4)), (16, vi v16_23), (19, vi (l_22.length : Int)), (20, vi v20_41)], [os (vl a24 k25 l_22) l_40], layout_Turn_L1 r39 l_40 v20_41 = X47 ∧ r39 = ((l_22.length : Int) - v20_41).toNat ∧ (0 : Int) ≤ v20_41 ∧ v20_41 ≤ (l_22.length : Int) ∧ (-9223372036854775808 ≤ v20_41 ∧ v20_41 ≤ 9223372036854775807), r39⟩) (((l_22.length : Int) - 0).toNat, l_22, 0) [0] ⟨hX48, rfl, aM1, aM1, aM1⟩ ?_
  rintro ⟨r39, l_40, v20_41⟩ ⟨hM42, hr43, hi44, hi45, hk46⟩
  refine JJ_nx fun _ _ hL hA => ?_; dsimp only at hL hA; subst hL hA
  refine Fb 16 0 fun _ => Fl 0 fun hn52 => ?_
  refine KS ?_
  refine Oq Vlss (KS ?_)
  refine Kc ?_ ?_
  ·intro h53
   have g54 := dt h53
   obtain ⟨r55, rfl⟩ := scc (n := r39) aM1
   have H := hM42; (try dsimp only at H); rw [layout_Turn_L1] at H
   refine KS ?_
   refine Oq Vm (Oq Va (KS ?_))
   refine Oq Vm (Oq Vm ?_)
   refine pC H hx49 fun hc56 H => ?_
   refine Oq (Vi sl41 0) (Oq (VldCx sh58 0) ?_)
   refine pC H hx49 fun hc57 H => ?_
   refine Oq (VmulC (a := (l_40.getD v20_41.toNat default)) (b := (Cpx.mk 0#64 4607182418800017408#64)) (h := hc57)) (Oq (Vi sl41 0) (Ost (SoCx [0] sh58) (KS ?_)))
   refine Oq Vadd (Oq Vm (KS ?_))
   refine pC H hx49 fun hc58 H => ?_
   refine pC H hx49 fun hc59 H => ?_
   exact Kg (r55, (l_40.set v20_41.toNat (cmul (l_40.getD v20_41.toNat default) (Cpx.mk 0#64 4607182418800017408#64))), (v20_41 + 1)) [0] ⟨H, aM1, aM1, aM1, aM1⟩
  intro h53
  have g60 := df h53
  obtain rfl : r39 = 0 := by omega
  have H := hM42; (try dsimp only at H); rw [layout_Turn_L1] at H
  refine Ke ?_
  have H := llB H HL50
  refine KS ?_
  refine Oq Vadd (Oq Vm (KS ?_))
  refine Fl 0 fun hn61 => ?_; (try unfold vl); rw [← hn61]
  refine pC H hx33 fun hc62 H => ?_
  exact Kg (r38, l_40, (v16_23 + 1), a24, k25) [0] ⟨H, aM1, aM1, aM1, aM1⟩
 intro h36
 have g63 := df h36
 obtain rfl : r21 = 0 := by omega
 have H := hM26; (try dsimp only at H); rw [layout_Turn_L0] at H
 refine Ke ?_
 have H := llB H HL34
 refine KS ?_
 refine Oq Vm (Oq Va (KS ?_))
 have hq := rI H; subst hq
 exact Kr (vl a24 k25 l_22) rfl (.tmp rfl .nil) [0] trivial
theorem fn56 (s : List Gedge) (sa0 : Option Addr) (sk0 : Nat) (fF : FuncId) (fC : List Value) (fp : Gedge → LR Unit Bool) (fA : List SP) (hfc : callable Tryz.prog fF = true) (hfF : ∀ x ∈ s, ∀ r, fp x = .ret r → FT Tryz.prog fF ([(.agg #[cxv x.from_, cxv x.to_] : Value)] ++ fC).toArray ([] ++ [pAll fA]) (fun _ : Unit => True) (fun _ => .bool r) (fun _ => [])) (rr : Int) (hrr : sc_IndexFunc_edge s fp = .ret rr) : FT Tryz.prog 56 #[vl sa0 sk0 s, .func (.func fF) #[] fC.toArray] [S sa0 sk0 s, pAll fA] (fun g : Unit => i64ok rr) (fun g => vi rr) (fun g => []) := by
 refine FTi Tryz.func56 fun w0 M0 F0 => Fb 32 0 fun _ => ?_
 have hx0 := lrn rr; have H := hrr; unfold sc_IndexFunc_edge at H
 refine KS ?_
 refine Oq Va (KS ?_)
 refine Oq Vm (Oq (Vlen sl81) (Oq Vm (KS ?_)))
 refine llH H hx0 fun X9 hX10 hx11 HL12 => ?_
 refine Kl (γ := Nat × Int) (fun (r2, v8_3) => ⟨[(0, vl sa0 sk0 s), (1, .func (.func fF) #[] fC.toArray), (7, vi (s.length : Int)), (8, vi v8_3)], [S sa0 sk0 s, pAll fA], sc_IndexFunc_edge_L0 s fp r2 v8_3 = X9 ∧ r2 = ((s.length : Int) - v8_3).toNat ∧ (0 : Int) ≤ v8_3 ∧ v8_3 ≤ (s.length : Int) ∧ (-9223372036854775808 ≤ v8_3 ∧ v8_3 ≤ 9223372036854775807), r2⟩) (((s.length : Int) - 0).toNat, 0) [0, 1] ⟨hX10, rfl, aM1, aM1, aM1⟩ ?_
 rintro ⟨r2, v8_3⟩ ⟨hM4, hr5, hi6, hi7, hk8⟩
 refine JJ_nx fun _ _ hL hA => ?_; dsimp only at hL hA; subst hL hA
 refine Fb 32 0 fun _ => KS ?_
 refine Oq Vlss (KS ?_)
 refine Kc ?_ ?_
 ·intro h14
  have g15 := dt h14
  obtain ⟨r16, rfl⟩ := scc (n := r2) aM1
  have H := hM4; (try dsimp only at H); rw [sc_IndexFunc_edge_L0] at H
  refine KS ?_
  refine Oq Vm (Oq Va (KS ?_))
  refine Oq Vm (Oq Vm (Oq Vm ?_))
  refine pC H hx11 fun hc17 H => ?_
  refine Oq (Vi sl81 0) ?_
  refine JJ_peek_Gedge v8_3.toNat 0 rfl rng ?_
  refine Oq (VldA sh84 0) ?_
  refine pC H hx11 fun hc20 H => ?_
  refine lbH H hx11 fun rv18 hg19 H => ?_
  refine JO_call [2] rfl rfl rfl (OpC.clo (asv := [(.agg #[cxv ((s.getD v8_3.toNat default).from_), cxv ((s.getD v8_3.toNat default).to_)] : Value)] ++ fC) rfl rfl hfc rfl (by simp)) (hfF (s.getD v8_3.toNat default) (getD_mem rng)   rv18 hg19) rfl fun _ _ => ?_
  refine KS ?_
  refine pF H hx11 fun h21 H => ?_
  refine KcF h21 ?_
  refine KS ?_
  refine Oq Vadd (Oq Vm (KS ?_))
  refine pC H hx11 fun hc23 H => ?_
  exact Kg (r16, (v8_3 + 1)) [1, 2] ⟨H, aM1, aM1, aM1, aM1⟩
 intro h14
 have g24 := df h14
 obtain rfl : r2 = 0 := by omega
 have H := hM4; (try dsimp only at H); rw [sc_IndexFunc_edge_L0] at H
 refine Ke ?_
 have H := llB H HL12
 refine KS ?_
 refine Oq Va (KS ?_)
 have hq := rI H; subst hq
 exact Kr () rfl (.tmp rfl .nil) [] en
theorem fn36 (s : List Gedge) (sa0 : Option Addr) (sk0 : Nat) (delF : FuncId) (delC : List Value) (delp : Gedge → LR Unit Bool) (delA : List SP) (hdelc : callable Tryz.prog delF = true) (hdelF : ∀ x ∈ s, ∀ r, delp x = .ret r → FT Tryz.prog delF ([(.agg #[cxv x.from_, cxv x.to_] : Value)] ++ delC).toArray ([] ++ [pAll delA]) (fun _ : Unit => True) (fun _ => .bool r) (fun _ => [])) (rr : List Gedge) (hrr : sc_DeleteFunc_edge s delp = .ret rr) : FT Tryz.prog 36 #[vl sa0 sk0 s, .func (.func delF) #[] delC.toArray] [O sa0 sk0 s, pAll delA] (fun g : Value => True) (fun g => g) (fun g => [sl g rr]) := by
 refine FTi Tryz.func36 fun w0 M0 F0 => Fb 32 0 fun _ => ?_
 have hx0 := lrn rr; have H := hrr; unfold sc_DeleteFunc_edge at H
 refine KS ?_
 refine Oq Va (KS ?_)
 refine Oq Vm (Oq Vm ?_)
 refine lbH H hx0 fun rv2 hg3 H => ?_
 refine Oc [0, 0] ca56 (FT_borrow (A := _) (fun _ _ h => by cases h) (FT_ent (Ent.take (is := [0, 1]) rfl) (fn56 s sa0 sk0 delF delC delp delA hdelc hdelF rv2 hg3))) ?_ (ht := rfl)
 rintro - he4
 unfold i64ok at he4
 refine Oq Va (KS ?_)
 refine Oq Vm (Oq Veql (KS ?_))
 refine pT H hx0 fun h5 H => ?_
 refine KcT h5 ?_
 have g6 := eq_of_beq h5
 refine KS ?_
 refine Oq Vm (Oq Va (KS ?_))
 refine Jl [0] (Ent.freeze _ _) ?_
 have hq := rI H; subst hq
 exact Kr (vl sa0 sk0 s) rfl (.tmp rfl .nil) [0] trivial
theorem fn37 (g : GGraph) (ga0 : Option Addr) (gk0 : Nat) (ga1 : Option Addr) (gk1 : Nat) (ga2 : Option Addr) (gk2 : Nat) (at_ : List Cpx) (at_a0 : Option Addr) (at_k0 : Nat) (rr : List Gedge) (hrr : layout_edges g at_ = .ret rr) : FT Tryz.prog 37 #[.agg #[vl ga0 gk0 g.Nodes, vl ga1 gk1 g.Succ, vl ga2 gk2 g.Pred], vl at_a0 at_k0 at_] [S ga0 gk0 g.Nodes, S ga1 gk1 g.Succ, S ga2 gk2 g.Pred, S at_a0 at_k0 at_] (fun g : Value => True) (fun g => g) (fun g => [os g rr]) := by
 refine FTi Tryz.func37 fun w0 M0 F0 => Fb 32 0 fun _ => Fb 24 1 fun _ => Fb 24 2 fun _ => Fb 16 3 fun _ => ?_
 have hx0 := lrn rr; have H := hrr; unfold layout_edges at H
 refine KS ?_
 refine Oa (Ab [vl ga0 gk0 g.Nodes, vl ga1 gk1 g.Succ, vl ga2 gk2 g.Pred]) fun p5 => Oq Va (KS ?_)
 refine Oq (VldA sh26 0) ?_
 refine lvH H fun rv6 hg7 H => ?_
 have hc8 := fn42 g ga0 gk0 ga1 gk1 ga2 gk2 rv6 hg7
 refine Oc [1, 2, 3] ca42 hc8 ?_
 rintro - -
 refine Oq Vnot (Oq Vm ?_)
 refine pF H hx0 fun h9 H => ?_
 refine JsF 13 h9 ?_
 have h11 := not_false h9
 refine Oq Vm (Oq (Vlen sl41) (Oq (Vfa fo26_0 0) (Oq (VldF sh23 0) (Oq (Vlen sl23) (Oq Vneq (Oq Vpf (Oq Vm ?_)))))))
 refine pF H hx0 fun h13 H => ?_
 refine JsF 21 h13 ?_
 have g14 := eq_of_bne_false h13
 refine Oq Vm ?_
 refine lbH H hx0 fun rv15 hg16 H => ?_
 have hc17 := fn34 at_ at_a0 at_k0 rv15 hg16
 refine Oc [4] ca34 hc17 ?_
 rintro - -
 refine Oq Vnot (Oq Vpf (KS ?_))
 refine pF H hx0 fun h18 H => ?_
 refine KcF h18 ?_
 have h20 := not_false h18
 refine KS ?_
 refine Oq Va (KS ?_)
 refine Oq (Vfa fo26_1 0) (Oq (VldF sh24 0) (Oq (Vlen sl24) (Oq Vm (KS ?_))))
 refine Jl [] (Ent.osNil (α := Gedge)) ?_
 refine llH H hx0 fun X32 hX33 hx34 HL35 => ?_
 refine Kl (γ := Nat × List Gedge × Int × Option Addr × Nat) (fun (r22, l_23, v29_24, a25, k26) => ⟨[(1, vl at_a0 at_k0 at_), (5, vl a25 k26 l_23), (27, vl ga1 gk1 g.Succ), (28, vi (g.Succ.length : Int)), (29, vi v29_24)], [O a25 k26 l_23, S ga1 gk1 g.Succ, S at_a0 at_k0 at_], layout_edges_L0 g at_ r22 l_23 v29_24 = X32 ∧ r22 = ((g.Succ.length : Int) - v29_24).toNat ∧ (0 : Int) ≤ v29_24 ∧ v29_24 ≤ (g.Succ.length : Int) ∧ (-9223372036854775808 ≤ v29_24 ∧ v29_24 ≤ 9223372036854775807), r22⟩) (((g.Succ.length : Int) - 0).toNat, [], 0, none, 0) [0, 2, 4] ⟨hX33, rfl, aM1, aM1, aM1⟩ ?_
 rintro ⟨r22, l_23, v29_24, a25, k26⟩ ⟨hM27, hr28, hi29, hi30, hk31⟩
 refine JJ_nx fun _ _ hL hA => ?_; dsimp only at hL hA; subst hL hA
 refine Fb 32 0 fun _ => Fb 24 1 fun _ => Fb 16 2 fun _ => KS ?_
 refine Oq Vlss (KS ?_)
 refine Kc ?_ ?_
 ·intro h39
  have g40 := dt h39
  obtain ⟨r41, rfl⟩ := scc (n := r22) aM1
  have H := hM27; (try dsimp only at H); rw [layout_edges_L0] at H
  refine KS ?_
  refine Oq Vm ?_
  refine pC H hx34 fun hc42 H => ?_
  refine Oq (Vi sl24 1) ?_
  refine JJ_peekL v29_24.toNat 1 rfl rng fun a43 k44 => ?_
  refine Fb 8 1 fun _ => Fo 1 fun ho46 => ?_
  refine Oq (Vld sh22 0) (Oq Va (Oq Va (KS ?_)))
  refine Oq Vm (Oq (Vlen sl22) (Oq Vm (KS ?_)))
  refine pC H hx34 fun hc57 H => ?_
  refine llH H hx34 fun X58 hX59 hx60 HL61 => ?_
  refine Kl (γ := Nat × List Gedge × Int × Option Addr × Nat) (fun (r47, l_48, v36_49, a50, k51) => ⟨[(1, vl at_a0 at_k0 at_), (5, vl a50 k51 l_48), (27, vl ga1 gk1 g.Succ), (28, vi (g.Succ.length : Int)), (29, vi v29_24), (6, vi v29_24), (34, vl a43 k44 (g.Succ.getD v29_24.toNat [])), (35, vi ((g.Succ.getD v29_24.toNat []).length : Int)), (36, vi v36_49)], [O a50 k51 l_48, S a43 k44 ((g.Succ.getD v29_24.toNat []) : List Int), S ga1 gk1 g.Succ, S at_a0 at_k0 at_], layout_edges_L1 at_ v29_24 (g.Succ.getD v29_24.toNat []) r47 l_48 v36_49 = X58 ∧ r47 = ((((g.Succ.getD v29_24.toNat []).length : Int) : Int) - v36_49).toNat ∧ (0 : Int) ≤ v36_49 ∧ (v36_49 ≤ ((g.Succ.getD v29_24.toNat []).length : Int) ∨ v36_49 = 0) ∧ (-9223372036854775808 ≤ v36_49 ∧ v36_49 ≤ 9223372036854775807), r47⟩) (((((g.Succ.getD v29_24.toNat []).length : Int) : Int) - 0).toNat, l_23, 0, a25, k26) [2, 1, 2, 3] ⟨hX59, rfl, aM1, (.inr rfl), aM1⟩ ?_
  rintro ⟨r47, l_48, v36_49, a50, k51⟩ ⟨hM52, hr53, hi54, hi55, hk56⟩
  refine JJ_nx fun _ _ hL hA => ?_; dsimp only at hL hA; subst hL hA
  refine Fb 32 0 fun _ => Fb 8 1 fun _ => Fo 1 fun ho64 => Fb 24 2 fun _ => Fb 16 3 fun _ => KS ?_
  refine Oq Vlss (KS ?_)
  refine Kc ?_ ?_
  ·intro h67
   have g68 := dt h67
   obtain ⟨r69, rfl⟩ := scc (n := r47) aM1
   have H := hM52; (try dsimp only at H); rw [layout_edges_L1] at H
   refine KS ?_
   refine pC H hx60 fun hc70 H => ?_
   refine Oq (Vi sl22 1) ?_
   have hb71 := ok1 (i := v36_49.toNat) ho64 rng
   refine Oq (VldI sh3 1) (Oq Va (KS ?_))
   refine Oq Vm (Oq Vm ?_)
   refine pC H hx60 fun hc72 H => ?_
   refine Oq (Vi sl41 3) (Oq (VldCx sh58 3) (Oq (VneC (a := (at_.getD v29_24.toNat default)) (b := (Cpx.mk 13830554455654793216#64 0#64))) (Oq Vm ?_)))
   refine pT H hx60 fun h73 H => ?_
   refine JsT 45 h73 ?_
   have h75 := not_true h73
   refine Oq Vm (Oq Vm ?_)
   refine pC H hx60 fun hc77 H => ?_
   refine Oq (Vi sl41 3) (Oq (VldCx sh58 3) (Oq (VneC (a := (at_.getD (((g.Succ.getD v29_24.toNat []).getD v36_49.toNat 0) : Int).toNat default)) (b := (Cpx.mk 13830554455654793216#64 0#64))) (Oq Vpt (KS ?_))))
   refine pT H hx60 fun h78 H => ?_
   refine KcT h78 ?_
   have h80 := not_true h78
   refine JK_drawK [0, 0, 0, 6, 14, 0, 0, 96, 224, 510, 1022, 2047, 4095] fmix ?_
   refine Dv [] Vm (Dv [] Vm (Dv [] Vm (Dv [3] (Vi sl41 0) (Dv [3] (VldCx sh58 0) (Dv [] Vm (Dv [] Vm (Dv [3] (Vi sl41 0) (Dv [3] (VldCx sh58 0) (Dv [] (Vbd st84 [cxv (at_.getD v29_24.toNat default), cxv (at_.getD (((g.Succ.getD v29_24.toNat []).getD v36_49.toNat 0) : Int).toNat default)]) ?_)))))))))
   refine Dx [] [] [0] (fun G => (G.g 10 0)) [fun G => Cr (G.g 10 0) 1 [cxv (at_.getD v29_24.toNat default), cxv (at_.getD (((g.Succ.getD v29_24.toNat []).getD v36_49.toNat 0) : Int).toNat default)]] (fun G => xA (AsV sl81 sz81 [.agg #[cxv (at_.getD v29_24.toNat default), cxv (at_.getD (((g.Succ.getD v29_24.toNat []).getD v36_49.toNat 0) : Int).toNat default)]] [cxv (at_.getD v29_24.toNat default), cxv (at_.getD (((g.Succ.getD v29_24.toNat []).getD v36_49.toNat 0) : Int).toNat default)])) ?_
   refine pC H hx60 fun hc83 H => ?_
   refine pC H hx60 fun hc84 H => ?_
   refine pC H hx60 fun hc85 H => ?_
   have hn87 := la l_48 ([(Gedge.mk (at_.getD v29_24.toNat default) (at_.getD (((g.Succ.getD v29_24.toNat []).getD v36_49.toNat 0) : Int).toNat default))] : List Gedge)
   refine Dx [0, 4] [0, 4] [0] (fun G => (G.g 11 0)) [fun G => os (G.g 11 0) ((l_48 ++ [(Gedge.mk (at_.getD v29_24.toNat default) (at_.getD (((g.Succ.getD v29_24.toNat []).getD v36_49.toNat 0) : Int).toNat default))]) : List Gedge)] (fun G => xp [1] rfl (Ent.cr1 (α := Gedge) (A := []) _ (Gedge.mk (at_.getD v29_24.toNat default) (at_.getD (((g.Succ.getD v29_24.toNat []).getD v36_49.toNat 0) : Int).toNat default)) _ aB1 (fun h => ⟨rfl, trivial⟩)) (xA (ApO [1, 0] sl81 sl81 sz81))) (Dg [] (fun G => (G.g 11 0)) (fun G => Va) ?_)
   refine Dn ⟨by kernel_rfl, fun G => ?_⟩
   refine Jw2 [(1, vl at_a0 at_k0 at_), (27, vl ga1 gk1 g.Succ), (28, vi (g.Succ.length : Int)), (29, vi v29_24), (6, vi v29_24), (34, vl a43 k44 (g.Succ.getD v29_24.toNat [])), (35, vi ((g.Succ.getD v29_24.toNat []).length : Int)), (36, vi v36_49), (5, (G.g 11 0))] [1, 2, 3] [os (G.g 11 0) ((l_48 ++ [(Gedge.mk (at_.getD v29_24.toNat default) (at_.getD (((g.Succ.getD v29_24.toNat []).getD v36_49.toNat 0) : Int).toNat default))]) : List Gedge)] ?_
   generalize G.g 11 0 = c86
   refine Jo 3 ?_; rintro a88 k89 rfl
   refine Fb 32 3 fun _ => KS ?_
   refine Oq Vadd (Oq Vm (KS ?_))
   refine pC H hx60 fun hc91 H => ?_
   exact Kg (r69, (l_48 ++ [(Gedge.mk (at_.getD v29_24.toNat default) (at_.getD (((g.Succ.getD v29_24.toNat []).getD v36_49.toNat 0) : Int).toNat default))]), (v36_49 + 1), a88, k89) [3, 0, 1, 2] ⟨H, aM1, aM1, aM1, aM1⟩
  intro h67
  have g92 := df h67
  obtain rfl : r47 = 0 := by omega
  have H := hM52; (try dsimp only at H); rw [layout_edges_L1] at H
  refine Ke ?_
  have H := llB H HL61
  refine KS ?_
  refine Oq Vadd (Oq Vm (KS ?_))
  refine pC H hx34 fun hc93 H => ?_
  exact Kg (r41, l_48, (v29_24 + 1), a50, k51) [0, 1, 2] ⟨H, aM1, aM1, aM1, aM1⟩
 intro h39
 have g94 := df h39
 obtain rfl : r22 = 0 := by omega
 have H := hM27; (try dsimp only at H); rw [layout_edges_L0] at H
 refine Ke ?_
 have H := llB H HL35
 refine KS ?_
 refine Oq Vm (Oq Va (KS ?_))
 have hq := rI H; subst hq
 exact Kr (vl a25 k26 l_23) rfl (.tmp rfl .nil) [0] trivial
theorem fn38 (e : Gedge) (rr : Bool) (hrr : layout_Crossings_1 e = .ret rr) : FT Tryz.prog 38 #[.agg #[cxv e.from_, cxv e.to_]] [] (fun g : Unit => True) (fun g => vb rr) (fun g => []) := by
 refine FTi Tryz.func38 fun w0 M0 F0 => ?_
 have hx0 := lrn rr; have H := hrr; unfold layout_Crossings_1 at H
 refine KS ?_
 refine Oa (Ab [cxv e.from_, cxv e.to_]) fun p1 => Oq Va (KS ?_)
 refine Oq (Vfa fo84_1 0) (Oq (VldF sh58 0) (Oq (Vim (a := e.to_)) (Oq (Vfa fo84_0 0) (Oq (VldF sh58 0) (Oq (Vim (a := e.from_)) ?_)))))
 refine pC H hx0 fun hc2 H => ?_
 refine Oq (VaddF (a := (Flo.mk e.from_.im)) (b := (Flo.mk 4607182418800017408#64)) (h := hc2)) (Oq (VneF (a := (Flo.mk e.to_.im)) (b := (fadd (Flo.mk e.from_.im) (Flo.mk 4607182418800017408#64)))) (Oq Va (KS ?_)))
 have hq := rI H; subst hq
 exact Kr () rfl (.tmp rfl .nil) [] trivial
theorem fn24 (g : GGraph) (ga0 : Option Addr) (gk0 : Nat) (ga1 : Option Addr) (gk1 : Nat) (ga2 : Option Addr) (gk2 : Nat) (at_ : List Cpx) (at_a0 : Option Addr) (at_k0 : Nat) (rr : Int) (hrr : layout_Crossings g at_ = .ret rr) : FT Tryz.prog 24 #[.agg #[vl ga0 gk0 g.Nodes, vl ga1 gk1 g.Succ, vl ga2 gk2 g.Pred], vl at_a0 at_k0 at_] [S ga0 gk0 g.Nodes, S ga1 gk1 g.Succ, S ga2 gk2 g.Pred, S at_a0 at_k0 at_] (fun g : Unit => i64ok rr) (fun g => vi rr) (fun g => []) := by
 refine FTi Tryz.func24 fun w0 M0 F0 => Fb 32 0 fun _ => Fb 24 1 fun _ => Fb 24 2 fun _ => Fb 16 3 fun _ => ?_
 have hx0 := lrn rr; have H := hrr; unfold layout_Crossings at H
 refine KS ?_
 refine Oa (Ab [vl ga0 gk0 g.Nodes, vl ga1 gk1 g.Succ, vl ga2 gk2 g.Pred]) fun p5 => Oq Va (KS ?_)
 refine Oq (VldA sh26 0) (Oq Vm ?_)
 refine lbH H hx0 fun rv7 hg8 H => ?_
 have hc9 := fn37 g ga0 gk0 ga1 gk1 ga2 gk2 at_ at_a0 at_k0 rv7 hg8
 refine Oc [1, 2, 3, 4] ca37 hc9 ?_
 rintro c6 -
 refine Jo 0 ?_; rintro a10 k11 rfl
 refine Fb 32 0 fun _ => ?_
 refine JJ_ent (Ent.pall [] rfl rfl) ?_
 refine lbH H hx0 fun rv14 hg15 H => ?_
 have hc16 := fn36 rv7 a10 k11 38 [] (fun x => layout_Crossings_1 x) [] ca38 (fun x hx  r hr => FT_pall (A1 := _) (fn38 x    r hr)) rv14 hg15
 refine Oc [1, 0] ca36 hc16 ?_
 rintro c13 -
 refine Jo 0 ?_; rintro a17 k18 rfl
 refine Fb 32 0 fun _ => ?_
 refine Oq Va (KS ?_)
 refine Oq Va (KS ?_)
 refine Oq Vm (Oq (Vlen sl81) (Oq Vm (KS ?_)))
 refine llH H hx0 fun X27 hX28 hx29 HL30 => ?_
 refine Kl (γ := Nat × Int) (fun (r20, v17_21) => ⟨[(5, vl a17 k18 rv14), (6, vi 0), (15, vl a17 k18 rv14), (16, vi (rv14.length : Int)), (17, vi v17_21)], [S a17 k18 rv14, pAll []], layout_Crossings_L0 rv14 rv14 r20 v17_21 = X27 ∧ r20 = ((rv14.length : Int) - v17_21).toNat ∧ (0 : Int) ≤ v17_21 ∧ v17_21 ≤ (rv14.length : Int) ∧ (-9223372036854775808 ≤ v17_21 ∧ v17_21 ≤ 9223372036854775807), r20⟩) (((rv14.length : Int) - 0).toNat, 0) [0, 1] ⟨hX28, rfl, aM1, aM1, aM1⟩ ?_
 rintro ⟨r20, v17_21⟩ ⟨hM22, hr23, hi24, hi25, hk26⟩
 refine JJ_nx fun _ _ hL hA => ?_; dsimp only at hL hA; subst hL hA
 refine Fb 32 0 fun _ => KS ?_
 refine Oq Vlss (KS ?_)
 refine Kc ?_ ?_
 ·intro h32
  have g33 := dt h32
  obtain ⟨r34, rfl⟩ := scc (n := r20) aM1
  have H := hM22; (try dsimp only at H); rw [layout_Crossings_L0] at H
  refine KS ?_
  refine pC H hx29 fun hc35 H => ?_
  refine Oq (Vi sl81 0) ?_
  refine JJ_peek_Gedge v17_21.toNat 0 rfl rng ?_
  refine Oq (VldA sh84 0) (Oa (Al ze84 [cxv (Cpx.mk 0#64 0#64), cxv (Cpx.mk 0#64 0#64)]) fun p36 => Ost (Scl [0] sh84 [cxv ((rv14.getD v17_21.toNat default).from_), cxv ((rv14.getD v17_21.toNat default).to_)]) (KS ?_))
  refine Oq Vm (Oq (Vlen sl81) (Oq Vm (KS ?_)))
  refine pC H hx29 fun hc44 H => ?_
  refine llH H hx29 fun X45 hX46 hx47 HL48 => ?_
  refine Kl (γ := Nat × Int) (fun (r37, v23_38) => ⟨[(5, vl a17 k18 rv14), (6, vi 0), (15, vl a17 k18 rv14), (16, vi (rv14.length : Int)), (17, vi v17_21), (8, p36), (21, vl a17 k18 rv14), (22, vi (rv14.length : Int)), (23, vi v23_38)], [Cl p36 [cxv ((rv14.getD v17_21.toNat default).from_), cxv ((rv14.getD v17_21.toNat default).to_)], S a17 k18 rv14, pAll []], layout_Crossings_L1 ((rv14.getD v17_21.toNat default).from_) ((rv14.getD v17_21.toNat default).to_) rv14 r37 v23_38 = X45 ∧ r37 = ((rv14.length : Int) - v23_38).toNat ∧ (0 : Int) ≤ v23_38 ∧ v23_38 ≤ (rv14.length : Int) ∧ (-9223372036854775808 ≤ v23_38 ∧ v23_38 ≤ 9223372036854775807), r37⟩) (((rv14.length : Int) - 0).toNat, 0) [0, 1, 2] ⟨hX46, rfl, aM1, aM1, aM1⟩ ?_
  rintro ⟨r37, v23_38⟩ ⟨hM39, hr40, hi41, hi42, hk43⟩
  refine JJ_nx fun _ _ hL hA => ?_; dsimp only at hL hA; subst hL hA
  refine Fb 32 1 fun _ => KS ?_
  refine Oq Vlss (KS ?_)
  refine Kc ?_ ?_
  ·intro h50
   have g51 := dt h50
   obtain ⟨r52, rfl⟩ := scc (n := r37) aM1
   have H := hM39; (try dsimp only at H); rw [layout_Crossings_L1] at H
   refine KS ?_
   refine pC H hx47 fun hc53 H => ?_
   refine Oq (Vi sl81 1) ?_
   refine JJ_peek_Gedge v23_38.toNat 1 rfl rng ?_
   refine Oq (VldA sh84 0) (Oa (Al ze84 [cxv (Cpx.mk 0#64 0#64), cxv (Cpx.mk 0#64 0#64)]) fun p54 => Ost (Scl [0] sh84 [cxv ((rv14.getD v23_38.toNat default).from_), cxv ((rv14.getD v23_38.toNat default).to_)]) (KS ?_))
   refine Oq (Vfa fo84_0 2) (Oq (VldF sh58 2) (Oq (Vim (a := (rv14.getD v17_21.toNat default).from_)) (Oq (Vfa fo84_0 0) (Oq (VldF sh58 0) (Oq (Vim (a := (rv14.getD v23_38.toNat default).from_)) (Oq (VeqF (a := (Flo.mk ((rv14.getD v17_21.toNat default).from_).im)) (b := (Flo.mk ((rv14.getD v23_38.toNat default).from_).im))) (Oq Vm ?_)))))))
   refine pC H hx47 fun hc56 H => ?_
   refine JsH 34 H ?_ ?_
   ·intro h55 H
    refine Oq (Vfa fo84_0 2) (Oq (VldF sh58 2) (Oq (Vre (a := (rv14.getD v17_21.toNat default).from_)) (Oq (Vfa fo84_0 0) (Oq (VldF sh58 0) (Oq (Vre (a := (rv14.getD v23_38.toNat default).from_)) (Oq (VltF (a := (Flo.mk ((rv14.getD v17_21.toNat default).from_).re)) (b := (Flo.mk ((rv14.getD v23_38.toNat default).from_).re))) (Oq Vpt (Oq Vm ?_))))))))
    refine JsH 43 H ?_ ?_
    ·intro h58 H
     refine Oq (Vfa fo84_1 2) (Oq (VldF sh58 2) (Oq (Vre (a := (rv14.getD v17_21.toNat default).to_)) (Oq (Vfa fo84_1 0) (Oq (VldF sh58 0) (Oq (Vre (a := (rv14.getD v23_38.toNat default).to_)) (Oq (VgtF (a := (Flo.mk ((rv14.getD v17_21.toNat default).to_).re)) (b := (Flo.mk ((rv14.getD v23_38.toNat default).to_).re))) (Oq Vpt (KS ?_))))))))
     refine pF H hx47 fun h60 H => ?_
     refine KcF h60 ?_
     refine KS ?_
     refine Oq Vadd (Oq Vm (KS ?_))
     refine pC H hx47 fun hc62 H => ?_
     exact Kg (r52, (v23_38 + 1)) [2, 2, 3] ⟨H, aM1, aM1, aM1, aM1⟩
    intro h58 H
    refine Osk (Osk (Osk (Osk (Osk (Osk (Osk (Oq Vpf (KS ?_))))))))
    refine Kf (KS ?_)
    refine Oq Vadd (Oq Vm (KS ?_))
    refine pC H hx47 fun hc64 H => ?_
    exact Kg (r52, (v23_38 + 1)) [2, 2, 3] ⟨H, aM1, aM1, aM1, aM1⟩
   intro h55 H
   refine Osk (Osk (Osk (Osk (Osk (Osk (Osk (Oq Vpf (Oq Vm (Osk ?_)))))))))
   refine Osk (Osk (Osk (Osk (Osk (Osk (Oq Vpf (KS ?_)))))))
   refine Kf (KS ?_)
   refine Oq Vadd (Oq Vm (KS ?_))
   refine pC H hx47 fun hc66 H => ?_
   exact Kg (r52, (v23_38 + 1)) [2, 2, 3] ⟨H, aM1, aM1, aM1, aM1⟩
  intro h50
  have g67 := df h50
  obtain rfl : r37 = 0 := by omega
  have H := hM39; (try dsimp only at H); rw [layout_Crossings_L1] at H
  refine Ke ?_
  have H := llB H HL48
  refine KS ?_
  refine Oq Vadd (Oq Vm (KS ?_))
  refine pC H hx29 fun hc68 H => ?_
  exact Kg (r34, (v17_21 + 1)) [1, 2] ⟨H, aM1, aM1, aM1, aM1⟩
 intro h32
 have g69 := df h32
 obtain rfl : r20 = 0 := by omega
 have H := hM22; (try dsimp only at H); rw [layout_Crossings_L0] at H
 refine Ke ?_
 have H := llB H HL30
 refine KS ?_
 refine Oq Vm (Oq Va (KS ?_))
 have hq := rI H; subst hq
 exact Kr () rfl (.tmp rfl .nil) [] en
theorem fn9O  (rr : Bool) (hrr : w33_saneO = .ret rr) : FT Tryz.prog 9 #[] [] (fun g : Unit => True) (fun g => vb rr) (fun g => []) := by
 refine FTi Tryz.func9 fun w0 M0 F0 => ?_
 have hx0 := lrn rr; have H := hrr; unfold w33_saneO at H
 refine KS ?_
 refine Oq Va (KS ?_)
 refine lbH H hx0 fun rv4 hg5 H => ?_
 have hc6 := fn22  rv4 hg5
 refine Oc [] ca22 hc6 ?_
 rintro ⟨c1, c2, c3⟩ -
 refine Jo 0 ?_; rintro a7 k8 rfl
 refine Fb 32 0 fun _ => ?_
 refine Jo 1 ?_; rintro a10 k11 rfl
 refine Fb 24 1 fun _ => ?_
 refine Jo 2 ?_; rintro a13 k14 rfl
 refine Fb 24 2 fun _ => ?_
 refine pC H hx0 fun hc16 H => ?_
 refine lvH H fun rv18 hg19 H => ?_
 have hc20 := fn13 rv4 a7 k8 a10 k11 a13 k14 0 pre pre rv18 hg19
 refine Oc [0, 1, 2] ca13 hc20 ?_
 rintro c17 ⟨he21, he22, he23⟩
 unfold i64ok at he21
 refine Jo 0 ?_; rintro a24 k25 rfl
 refine Fb 16 0 fun _ => ?_
 refine Oq Vm (Oq Vx (Oq Vx (Oq Va (Oq Va (KS ?_)))))
 have hc30 := fn22  rv4 hg5
 refine Oc [] ca22 hc30 ?_
 rintro ⟨c27, c28, c29⟩ -
 refine Jo 0 ?_; rintro a31 k32 rfl
 refine Jo 1 ?_; rintro a33 k34 rfl
 refine Jo 2 ?_; rintro a35 k36 rfl
 refine pC H hx0 fun hc39 H => ?_
 refine lvH H fun rv37 hg38 H => ?_
 have hc40 := fn15 rv4 a31 k32 a33 k34 a35 k36 0 pre pre rv37 hg38
 refine Oc [0, 1, 2] ca15 hc40 ?_
 rintro - ⟨he41, he42⟩
 unfold i64ok at he42
 refine Oq Vm (Oq Vx (Oq Vx (Oq Va (Oq Va (KS ?_)))))
 refine Oa (AsV sl41 sz41 [cxv (Cpx.mk 0#64 4607182418800017408#64)] [cxv (Cpx.mk 0#64 4607182418800017408#64)]) fun c43 => ?_
 refine Jo 0 ?_; rintro a44 k45 rfl
 refine Jl [0] (Ent.cr1 (α := Cpx) (A := []) _ (Cpx.mk 0#64 4607182418800017408#64) _ aB1 (fun _ => rfl)) ?_
 refine Jl [0] (Ent.freeze _ _) ?_
 refine lbH H hx0 fun rv47 hg48 H => ?_
 have hc49 := fn23 ([(Cpx.mk 0#64 4607182418800017408#64)]) a44 k45 1 pre rv47 hg48
 refine Oc [0] ca23 hc49 ?_
 rintro c46 -
 refine Jo 0 ?_; rintro a50 k51 rfl
 refine Fb 16 0 fun _ => ?_
 refine Oq Va (KS ?_)
 refine Oq Vm (Oq Veql (Oq Vm ?_))
 refine pT H hx0 fun h53 H => ?_
 refine JsT 20 h53 ?_
 have g54 := eq_of_beq h53
 refine Oq Vm (Oq Veql (Oq Vpt (Oq Vm ?_)))
 refine pT H hx0 fun h55 H => ?_
 refine JsT 24 h55 ?_
 have g56 := eq_of_beq h55
 refine Oq Vm (Oq (Vlen sl41) (Oq Veql (Oq Vpt (Oq Vm ?_))))
 refine pT H hx0 fun h57 H => ?_
 refine JsT 29 h57 ?_
 have g58 := eq_of_beq h57
 refine Oq Vm ?_
 refine pC H hx0 fun hc59 H => ?_
 refine Oq (Vi sl41 5) (Oq (VldCx sh58 5) (Oq (VeqC (a := (rv18.1.getD (0 : Int).toNat default)) (b := (Cpx.mk 0#64 0#64))) (Oq Vpt (Oq Vm ?_))))
 refine pT H hx0 fun h60 H => ?_
 refine JsT 35 h60 ?_
 refine Oq Vm ?_
 refine pC H hx0 fun hc62 H => ?_
 refine Oq (Vi sl41 5) (Oq (VldCx sh58 5) (Oq (VeqC (a := (rv18.1.getD (1 : Int).toNat default)) (b := (Cpx.mk 0#64 4607182418800017408#64))) (Oq Vpt (Oq Vm ?_))))
 refine pT H hx0 fun h63 H => ?_
 refine JsT 41 h63 ?_
 refine Oq Vm ?_
 refine pC H hx0 fun hc65 H => ?_
 refine Oq (Vi sl41 5) (Oq (VldCx sh58 5) (Oq (VeqC (a := (rv18.1.getD (2 : Int).toNat default)) (b := (Cpx.mk 4607182418800017408#64 4607182418800017408#64))) (Oq Vpt (Oq Vm ?_))))
 refine pT H hx0 fun h66 H => ?_
 refine JsT 47 h66 ?_
 refine Oq Vm ?_
 refine pC H hx0 fun hc68 H => ?_
 refine Oq (Vi sl41 5) (Oq (VldCx sh58 5) (Oq (VeqC (a := (rv18.1.getD (3 : Int).toNat default)) (b := (Cpx.mk 0#64 4611686018427387904#64))) (Oq Vpt (Oq Vm ?_))))
 refine pT H hx0 fun h69 H => ?_
 refine JsT 53 h69 ?_
 have hc74 := fn22  rv4 hg5
 refine Oc [] ca22 hc74 ?_
 rintro ⟨c71, c72, c73⟩ -
 refine Jo 0 ?_; rintro a75 k76 rfl
 refine Jo 1 ?_; rintro a77 k78 rfl
 refine Jo 2 ?_; rintro a79 k80 rfl
 refine Oq Vm ?_
 refine lbH H hx0 fun rv81 hg82 H => ?_
 have hc83 := fn24 rv4 a75 k76 a77 k78 a79 k80 rv18.1 a24 k25 rv81 hg82
 refine Oc [0, 1, 2, 8] ca24 hc83 ?_
 rintro - he84
 unfold i64ok at he84
 refine Oq Veql (Oq Vpt (Oq Vm ?_))
 refine pT H hx0 fun h85 H => ?_
 refine JsT 59 h85 ?_
 have g86 := eq_of_beq h85
 refine Oq Vm (Oq (VeqS (l := rv37.1) (m := (Str.mk [48, 10, 49, 32, 50, 10, 51, 10]))) (Oq Vpt (Oq Vm ?_)))
 refine pT H hx0 fun h87 H => ?_
 refine JsT 63 h87 ?_
 have g88 := eq_of_beq h87
 refine Oq Vm (Oq (Vlen sl41) (Oq Veql (Oq Vpt (Oq Vm ?_))))
 refine pT H hx0 fun h89 H => ?_
 refine JsT 68 h89 ?_
 have g90 := eq_of_beq h89
 refine Oq Vm ?_
 refine pC H hx0 fun hc91 H => ?_
 refine Oq (Vi sl41 3) (Oq (VldCx sh58 3) (Oq (VeqC (a := (rv47.getD (0 : Int).toNat default)) (b := (Cpx.mk 13830554455654793216#64 0#64))) (Oq Vpt (Oq Va (KS ?_)))))
 have hq := rI H; subst hq
 exact Kr () rfl (.tmp rfl .nil) [] trivial
theorem w33_sane_c : w33_saneO = .ret true := by kernel_rfl
theorem fn9  (rr : Bool) (hrr : w33_sane = rr) : FT Tryz.prog 9 #[] [] (fun g : Unit => True) (fun g => vb rr) (fun g => []) := by
 subst hrr; exact fn9O  true w33_sane_c
theorem fn3 (t : List Int) (ta0 : Option Addr) (tk0 : Nat) (g : GGraph) (ga0 : Option Addr) (gk0 : Nat) (ga1 : Option Addr) (gk1 : Nat) (ga2 : Option Addr) (gk2 : Nat) (root : Int) (hroot_0 : i64ok root) (rr : Bool) (hrr : w33_LayoutPlaces t g root = rr) : FT Tryz.prog 3 #[vl ta0 tk0 t, .agg #[vl ga0 gk0 g.Nodes, vl ga1 gk1 g.Succ, vl ga2 gk2 g.Pred], vi root] [S ta0 tk0 t, S ga0 gk0 g.Nodes, S ga1 gk1 g.Succ, S ga2 gk2 g.Pred] (fun g : Unit => True) (fun g => vb rr) (fun g => []) := by
 refine FTi Tryz.func3 fun w0 M0 F0 => ?_
 unfold i64ok at hroot_0
 refine Fb 8 0 fun _ => Fo 0 fun ho2 => Fb 32 1 fun _ => Fb 24 2 fun _ => Fb 24 3 fun _ => KS ?_
 refine Oa (Ab [vl ga0 gk0 g.Nodes, vl ga1 gk1 g.Succ, vl ga2 gk2 g.Pred]) fun p6 => Oq Va (KS ?_)
 refine Oq Vm ?_
 refine letv (g_New t) fun rv8 hg9 => ?_
 have hc10 := fn4 t ta0 tk0 rv8 hg9
 refine Oc [1] ca4 hc10 ?_
 rintro c7 -
 refine Oq Va (KS ?_)
 refine Oq Va (KS ?_)
 refine Kl (γ := Nat × Int × Int) (fun (r11, k1_12, i_13) => ⟨[(2, vi root), (4, p6), (7, c7), (8, vi i_13)], [Cl c7 [vl ta0 tk0 t, vi k1_12], pv p6 [vl ga0 gk0 g.Nodes, vl ga1 gk1 g.Succ, vl ga2 gk2 g.Pred], S ta0 tk0 t, S ga0 gk0 g.Nodes, S ga1 gk1 g.Succ, S ga2 gk2 g.Pred], w33_LayoutPlaces_L0 t root r11 k1_12 i_13 = w33_LayoutPlaces_L0 t root 5 0 0 ∧ r11 = ((5 : Int) - i_13).toNat ∧ (0 : Int) ≤ i_13 ∧ i_13 ≤ 5 ∧ (-9223372036854775808 ≤ k1_12 ∧ k1_12 ≤ 9223372036854775807) ∧ (0 ≤ k1_12 ∧ k1_12 ≤ (t.length : Int)) ∧ (-9223372036854775808 ≤ i_13 ∧ i_13 ≤ 9223372036854775807), r11⟩) (5, 0, 0) [0, 0, 1, 2, 3, 4] ⟨rfl, rfl, aM1, aM1, aM1, aM1, aM1⟩ ?_
 rintro ⟨r11, k1_12, i_13⟩ ⟨hM14, hr15, hi16, hi17, hk18, ht19, hk20⟩
 refine JJ_nx fun _ _ hL hA => ?_; dsimp only at hL hA; subst hL hA
 refine Fb 8 2 fun _ => Fo 2 fun ho22 => Fb 32 3 fun _ => Fb 24 4 fun _ => Fb 24 5 fun _ => KS ?_
 refine Oq Vm (Oq Vlss (KS ?_))
 refine Kc ?_ ?_
 ·intro h26
  have g27 := dt h26
  obtain ⟨r28, rfl⟩ := scc (n := r11) aM1
  refine KS ?_
  refine Oq Vm ?_
  refine letv (tp_Graph t k1_12 9) fun rv32 hg33 => ?_
  have hc34 := fn5 c7 ta0 tk0 t k1_12 9 pre pre pre rv32 hg33
  refine Oc [0, 1] ca5 hc34 ?_
  rintro ⟨c29, c30, c31⟩ ⟨he35, he36, he37, he38, he39⟩
  refine Jo 0 ?_; rintro a40 k41 rfl
  refine Fb 32 0 fun _ => ?_
  refine Jo 1 ?_; rintro a43 k44 rfl
  refine Fb 24 1 fun _ => ?_
  refine Jo 2 ?_; rintro a46 k47 rfl
  refine Fb 24 2 fun _ => ?_
  refine Oa (Al ze26 [.slice none 0 0, .slice none 0 0, .slice none 0 0]) fun p49 => Ost (Scl [0] sh26 [vl a40 k41 rv32.1.Nodes, vl a43 k44 rv32.1.Succ, vl a46 k47 rv32.1.Pred]) (KS ?_)
  refine Jp 0 fun hp50 => ?_
  refine JK_drawK [0, 0, 0, 4, 12, 30, 63, 127, 255, 511, 511, 511, 2559, 6655, 14847, 32255, 65023, 131071, 262143, 524287, 1048575, 2097151, 2097151, 8388607, 16777215, 33554431, 67108863, 134217727, 268435455, 268435455, 1073741823, 2147483647, 4294967295] fmix ?_
  refine Dv [1] (VldA sh26 0) (Dv [] Vm (Dv [0] (Vfa fo26_0 0) (Dv [1] (VldF sh23 0) (Dv [] (Vlen sl23) ?_))))
  refine letv (tp_Next t rv32.2 (rv32.1.Nodes.length : Int)) fun rv51 hg52 => Dx [5, 7] [5] [2, 0, 1] (fun G => vi rv51.1) [fun G => SP.fact (i64ok rv51.1 ∧ (0 ≤ rv51.2 ∧ rv51.2 ≤ (t.length : Int)) ∧ (0 ≤ rv51.1 ∧ (rv51.1 < (rv32.1.Nodes.length : Int) ∨ rv51.1 = 0))), fun G => Cl c7 [vl ta0 tk0 t, vi rv51.2]] (fun G => xC [0, 0] ca7 (fn7 c7 ta0 tk0 t rv32.2 ((rv32.1.Nodes.length : Int)) pre pre rv51 hg52)) ?_
  refine letv (w33_places rv32.1 rv51.1) fun rv53 hg54 => ?_
  refine Dx [2, 3, 4, 11] [] [1, 2, 3, 4, 0] (fun G => vb rv53) [fun G => SP.fact (True)] (fun G => by refine xf 3 rfl ?_; rintro ⟨he55, he56, he57⟩; unfold i64ok at he55; exact xC [0, 1, 2] ca6 (fn6 rv32.1 a40 k41 a43 k44 a46 k47 rv51.1 pre pre rv53 hg54)) (Dv [] Vnot ?_)
  refine bool_split (!rv53) ?_ ?_
  ·intro h58
   have h60 := not_true h58
   refine Db h58 [] Vm (Ds (Ds (Ds (Ds (Ds (Ds (Ds (Ds (Ds ?_)))))))))
   refine Ds (Dv [] Vpt (Dv [] Vm (Ds (Ds (Ds (Ds (Ds (Dv [] Vpt (Dv [] Vm ?_)))))))))
   refine Ds (Ds (Ds (Ds (Dv [] Vpt ?_))))
   refine Dn ⟨by kernel_rfl, fun G => ?_⟩
   refine Jw2 [(2, vi root), (4, p6), (7, c7), (8, vi i_13), (50, vb true)] [0, 1, 2, 3, 4, 6, 7, 8, 9, 10] [SP.fact (i64ok rv51.1 ∧ (0 ≤ rv51.2 ∧ rv51.2 ≤ (t.length : Int)) ∧ (0 ≤ rv51.1 ∧ (rv51.1 < (rv32.1.Nodes.length : Int) ∨ rv51.1 = 0))), Cl c7 [vl ta0 tk0 t, vi rv51.2], SP.fact (True)] ?_
   refine Jf 10 rfl ?_; rintro ⟨he62, he63, he64⟩
   unfold i64ok at he62
   refine Jk [1, 1, 2, 3, 4, 5, 6, 7, 8, 10] (Kt ?_)
   refine KS ?_
   refine Oq Va (KS ?_)
   have hR65 := q2 hM14 (.ret false) (by simp only [w33_LayoutPlaces_L0, h26, h58, h60, hg33, hg52, hg54, cs4])
   have hq := q4 hrr false (by unfold w33_LayoutPlaces; simp only [h26, h58, h60, hg9, hg33, hg52, hg54, hR65, cs4]); subst hq
   exact Kr () rfl (.tmp rfl .nil) [] trivial
  intro h58
  have h67 := not_false h58
  refine Db h58 [] Vm (Dv [1] (VldA sh26 0) (Dv [] Vm (Dv [0] (Vfa fo26_0 0) (Dv [1] (VldF sh23 0) (Dv [] (Vlen sl23) ?_)))))
  refine Dx [11] [] [0] (fun G => vi ((rv32.1.Nodes.length : Int) + 2)) [] (fun G => by refine xf 0 rfl ?_; rintro ⟨he69, he70, he71⟩; unfold i64ok at he69; exact xV (Vadd)) ?_
  refine letv (tp_Next t rv51.2 ((rv32.1.Nodes.length : Int) + 2)) fun rv72 hg73 => ?_
  refine Dx [7, 11, 12] [12] [2, 3, 0, 1] (fun G => vi rv72.1) [fun G => SP.fact (i64ok rv72.1 ∧ (0 ≤ rv72.2 ∧ rv72.2 ≤ (t.length : Int)) ∧ (0 ≤ rv72.1 ∧ (rv72.1 < ((rv32.1.Nodes.length : Int) + 2) ∨ rv72.1 = 0))), fun G => Cl c7 [vl ta0 tk0 t, vi rv72.2]] (fun G => by refine xf 1 rfl ?_; rintro ⟨he74, he75, he76⟩; unfold i64ok at he74; exact xC [2, 0] ca7 (fn7 c7 ta0 tk0 t rv51.2 (((rv32.1.Nodes.length : Int) + 2)) pre pre rv72 hg73)) ?_
  refine Dx [11, 14] [] [0, 1] (fun G => vi (rv72.1 - 1)) [] (fun G => by refine xf 0 rfl ?_; rintro ⟨he77, he78, he79⟩; unfold i64ok at he77; refine xf 1 rfl ?_; rintro ⟨he80, he81, he82⟩; unfold i64ok at he80; exact xV (Vsub)) ?_
  refine letv (w33_places rv32.1 (rv72.1 - 1)) fun rv83 hg84 => ?_
  refine Dx [2, 3, 4, 11, 14] [] [1, 2, 3, 4, 5, 0] (fun G => vb rv83) [fun G => SP.fact (True)] (fun G => by refine xf 3 rfl ?_; rintro ⟨he85, he86, he87⟩; unfold i64ok at he85; refine xf 4 rfl ?_; rintro ⟨he88, he89, he90⟩; unfold i64ok at he88; exact xC [0, 1, 2] ca6 (fn6 rv32.1 a40 k41 a43 k44 a46 k47 ((rv72.1 - 1)) pre pre rv83 hg84)) (Dv [] Vnot (Dv [] Vpf ?_))
  refine bool_split (!rv83) ?_ ?_
  ·intro h91
   have h93 := not_true h91
   refine Db h91 [] Vm (Ds (Ds (Ds (Ds (Ds (Dv [] Vpt (Dv [] Vm (Ds (Ds ?_)))))))))
   refine Ds (Ds (Dv [] Vpt ?_))
   refine Dn ⟨by kernel_rfl, fun G => ?_⟩
   refine Jw2 [(2, vi root), (4, p6), (7, c7), (8, vi i_13), (50, vb true)] [0, 1, 2, 3, 4, 6, 7, 8, 9, 10] [SP.fact (i64ok rv51.1 ∧ (0 ≤ rv51.2 ∧ rv51.2 ≤ (t.length : Int)) ∧ (0 ≤ rv51.1 ∧ (rv51.1 < (rv32.1.Nodes.length : Int) ∨ rv51.1 = 0))), SP.fact (True), SP.fact (i64ok rv72.1 ∧ (0 ≤ rv72.2 ∧ rv72.2 ≤ (t.length : Int)) ∧ (0 ≤ rv72.1 ∧ (rv72.1 < ((rv32.1.Nodes.length : Int) + 2) ∨ rv72.1 = 0))), Cl c7 [vl ta0 tk0 t, vi rv72.2], SP.fact (True)] ?_
   refine Jf 10 rfl ?_; rintro ⟨he95, he96, he97⟩
   unfold i64ok at he95
   refine Jf 12 rfl ?_; rintro ⟨he98, he99, he100⟩
   unfold i64ok at he98
   refine Jk [1, 1, 2, 3, 4, 5, 6, 7, 8, 12] (Kt ?_)
   refine KS ?_
   refine Oq Va (KS ?_)
   have hR101 := q2 hM14 (.ret false) (by simp only [w33_LayoutPlaces_L0, h26, h58, h67, h91, h93, hg33, hg52, hg54, hg73, hg84, cs4])
   have hq := q4 hrr false (by unfold w33_LayoutPlaces; simp only [h26, h58, h67, h91, h93, hg9, hg33, hg52, hg54, hg73, hg84, hR101, cs4]); subst hq
   exact Kr () rfl (.tmp rfl .nil) [] trivial
  intro h91
  have h103 := not_false h91
  refine Db h91 [] Vm (Dv [] Vm (Dv [1] (VldA sh26 0) ?_))
  refine letv (tp_SpoilGraph t rv72.2 rv32.1) fun rv108 hg109 => ?_
  have hsl := SpG_len hg109
  refine Dx [2, 3, 4, 7, 11, 14, 15] [15] [5, 6, 7, 8, 9, 10, 0, 1, 2, 3, 4] (fun G => .agg #[(G.g 23 0), (G.g 23 1), (G.g 23 2)]) [fun G => SP.fact ((0 ≤ rv108.2 ∧ rv108.2 ≤ (t.length : Int)) ∧ (rv108.1.Nodes.length ≤ 12)), fun G => sl (G.g 23 0) rv108.1.Nodes, fun G => sl (G.g 23 1) rv108.1.Succ, fun G => sl (G.g 23 2) rv108.1.Pred, fun G => Cl c7 [vl ta0 tk0 t, vi rv108.2]] (fun G => by refine xf 4 rfl ?_; rintro ⟨he110, he111, he112⟩; unfold i64ok at he110; refine xf 5 rfl ?_; rintro ⟨he113, he114, he115⟩; unfold i64ok at he113; exact xC [6, 3, 0, 1, 2] ca8 (fn8 c7 ta0 tk0 t rv72.2 rv32.1 a40 k41 a43 k44 a46 k47 pre pre pre pre pre rv108 hg109)) ?_
  refine letv (w33_places rv108.1 0) fun rv125 hg126 => ?_
  refine Dx [17, 18, 19, 20] [] [1, 2, 3, 4, 0] (fun G => vb rv125) [fun G => SP.fact (True)] (fun G => by refine xf 0 rfl ?_; rintro ⟨he127, he128⟩; exact xD [3, 2, 1] ca6 rfl rfl rfl (FT_open (γ := Unit) (I := fun g => True) (V := fun g => vb rv125) (B := fun g => []) (R := sl (G.g 23 2) rv108.1.Pred) sl_slice (fun aq122 kq123 eq124 => by rw [eq124]; exact FT_ent (Ent.take (is := [1, 2, 0]) rfl) (FT_open (γ := Unit) (I := fun g => True) (V := fun g => vb rv125) (B := fun g => []) (R := sl (G.g 23 1) rv108.1.Succ) sl_slice (fun aq119 kq120 eq121 => by rw [eq121]; exact FT_ent (Ent.take (is := [1, 0, 2]) rfl) (FT_open (γ := Unit) (I := fun g => True) (V := fun g => vb rv125) (B := fun g => []) (R := sl (G.g 23 0) rv108.1.Nodes) sl_slice (fun aq116 kq117 eq118 => by rw [eq118]; exact FT_ent (Ent.take (is := [0, 1, 2]) rfl) (fn6 rv108.1 aq116 kq117 aq119 kq120 aq122 kq123 0 pre pre rv125 hg126)))))))) (Dv [] Vnot (Dv [] Vpf ?_))
  refine bool_split (!rv125) ?_ ?_
  ·intro h129
   have h131 := not_true h129
   refine Db h129 [] Vm (Ds (Ds (Ds (Ds (Dv [] Vpt ?_)))))
   refine Dn ⟨by kernel_rfl, fun G => ?_⟩
   refine Jw2 [(2, vi root), (4, p6), (7, c7), (8, vi i_13), (50, vb true)] [0, 1, 2, 3, 4, 6, 7, 8, 9, 10] [SP.fact (i64ok rv51.1 ∧ (0 ≤ rv51.2 ∧ rv51.2 ≤ (t.length : Int)) ∧ (0 ≤ rv51.1 ∧ (rv51.1 < (rv32.1.Nodes.length : Int) ∨ rv51.1 = 0))), SP.fact (True), SP.fact (i64ok rv72.1 ∧ (0 ≤ rv72.2 ∧ rv72.2 ≤ (t.length : Int)) ∧ (0 ≤ rv72.1 ∧ (rv72.1 < ((rv32.1.Nodes.length : Int) + 2) ∨ rv72.1 = 0))), SP.fact (True), SP.fact ((0 ≤ rv108.2 ∧ rv108.2 ≤ (t.length : Int)) ∧ (rv108.1.Nodes.length ≤ 12)), sl (G.g 23 0) rv108.1.Nodes, sl (G.g 23 1) rv108.1.Succ, sl (G.g 23 2) rv108.1.Pred, Cl c7 [vl ta0 tk0 t, vi rv108.2], SP.fact (True)] ?_
   generalize G.g 23 0 = c105, G.g 23 1 = c106, G.g 23 2 = c107
   refine Jf 10 rfl ?_; rintro ⟨he133, he134, he135⟩
   unfold i64ok at he133
   refine Jf 12 rfl ?_; rintro ⟨he136, he137, he138⟩
   unfold i64ok at he136
   refine Jf 14 rfl ?_; rintro ⟨he139, he140⟩
   refine Jk [1, 1, 2, 3, 4, 5, 6, 7, 8, 14, 15, 16, 17] ?_
   refine Jo 9 ?_; rintro a141 k142 rfl
   refine Fb 32 9 fun _ => ?_
   refine Jo 10 ?_; rintro a144 k145 rfl
   refine Fb 24 10 fun _ => ?_
   refine Jo 11 ?_; rintro a147 k148 rfl
   refine Fb 24 11 fun _ => ?_
   refine Kt (KS ?_)
   refine Oq Va (KS ?_)
   have hR150 := q2 hM14 (.ret false) (by simp only [w33_LayoutPlaces_L0, h26, h58, h67, h91, h103, h129, h131, hg33, hg52, hg54, hg73, hg84, hg109, hg126, cs4])
   have hq := q4 hrr false (by unfold w33_LayoutPlaces; simp only [h26, h58, h67, h91, h103, h129, h131, hg9, hg33, hg52, hg54, hg73, hg84, hg109, hg126, hR150, cs4]); subst hq
   exact Kr () rfl (.tmp rfl .nil) [] trivial
  intro h129
  have h152 := not_false h129
  refine Db h129 [] Vm (Dv [1] (VldA sh26 0) (Dv [] Vm ?_))
  refine letv (w33_places rv32.1 root) fun rv154 hg155 => ?_
  refine Dx [2, 3, 4, 11, 14] [] [1, 2, 3, 4, 5, 0] (fun G => vb rv154) [fun G => SP.fact (True)] (fun G => by refine xf 3 rfl ?_; rintro ⟨he156, he157, he158⟩; unfold i64ok at he156; refine xf 4 rfl ?_; rintro ⟨he159, he160, he161⟩; unfold i64ok at he159; exact xC [0, 1, 2] ca6 (fn6 rv32.1 a40 k41 a43 k44 a46 k47 root pre pre rv154 hg155)) (Dv [] Vnot (Dv [] Vpf ?_))
  refine Dn ⟨by kernel_rfl, fun G => ?_⟩
  refine Jw2 [(2, vi root), (4, p6), (7, c7), (8, vi i_13), (50, vb (!rv154))] [0, 1, 2, 3, 4, 6, 7, 8, 9, 10] [SP.fact (i64ok rv51.1 ∧ (0 ≤ rv51.2 ∧ rv51.2 ≤ (t.length : Int)) ∧ (0 ≤ rv51.1 ∧ (rv51.1 < (rv32.1.Nodes.length : Int) ∨ rv51.1 = 0))), SP.fact (True), SP.fact (i64ok rv72.1 ∧ (0 ≤ rv72.2 ∧ rv72.2 ≤ (t.length : Int)) ∧ (0 ≤ rv72.1 ∧ (rv72.1 < ((rv32.1.Nodes.length : Int) + 2) ∨ rv72.1 = 0))), SP.fact (True), SP.fact ((0 ≤ rv108.2 ∧ rv108.2 ≤ (t.length : Int)) ∧ (rv108.1.Nodes.length ≤ 12)), sl (G.g 23 0) rv108.1.Nodes, sl (G.g 23 1) rv108.1.Succ, sl (G.g 23 2) rv108.1.Pred, Cl c7 [vl ta0 tk0 t, vi rv108.2], SP.fact (True), SP.fact (True)] ?_
  generalize G.g 23 0 = c105, G.g 23 1 = c106, G.g 23 2 = c107
  refine Jf 10 rfl ?_; rintro ⟨he162, he163, he164⟩
  unfold i64ok at he162
  refine Jf 12 rfl ?_; rintro ⟨he165, he166, he167⟩
  unfold i64ok at he165
  refine Jf 14 rfl ?_; rintro ⟨he168, he169⟩
  refine Jk [1, 1, 2, 3, 4, 5, 6, 7, 8, 14, 15, 16, 17] ?_
  refine Jo 9 ?_; rintro a170 k171 rfl
  refine Fb 32 9 fun _ => ?_
  refine Jo 10 ?_; rintro a173 k174 rfl
  refine Fb 24 10 fun _ => ?_
  refine Jo 11 ?_; rintro a176 k177 rfl
  refine Fb 24 11 fun _ => ?_
  refine Kc ?_ ?_
  ·intro h179
   have h181 := not_true h179
   refine KS ?_
   refine Oq Va (KS ?_)
   have hR183 := q2 hM14 (.ret false) (by simp only [w33_LayoutPlaces_L0, h26, h58, h67, h91, h103, h129, h152, h179, h181, hg33, hg52, hg54, hg73, hg84, hg109, hg126, hg155, cs4])
   have hq := q4 hrr false (by unfold w33_LayoutPlaces; simp only [h26, h58, h67, h91, h103, h129, h152, h179, h181, hg9, hg33, hg52, hg54, hg73, hg84, hg109, hg126, hg155, hR183, cs4]); subst hq
   exact Kr () rfl (.tmp rfl .nil) [] trivial
  intro h179
  have h185 := not_false h179
  refine KS ?_
  refine Oq Vm (Oq Vadd (Oq Va (KS ?_)))
  exact Kg (r28, rv108.2, (i_13 + 1)) [12, 4, 5, 6, 7, 8] ⟨(q3 hM14 (by simp only [w33_LayoutPlaces_L0, h26, h58, h67, h91, h103, h129, h152, h179, h185, hg33, hg52, hg54, hg73, hg84, hg109, hg126, hg155, cs4])), aM1, aM1, aM1, aM1, aM1, aM1⟩
 intro h26
 have g187 := df h26
 obtain rfl : r11 = 0 := by omega
 refine Ke ?_
 have hR188 := q2 hM14 (.brk ()) (by simp only [w33_LayoutPlaces_L0, h26, cs4])
 refine KS ?_
 refine Oq (Vfa fo26_0 1) (Oq (VldF sh23 1) (Oq (Vlen sl23) (Oq Vgtr (Oq Vm ?_))))
 refine Js 55 ?_ ?_
 ·intro h189
  have g190 := dt h189
  refine Osk (Osk (Osk (Osk (Oq Vpt (Oq Vm (Osk (Osk (Osk (Osk ?_)))))))))
  refine Oq Vpt (Oq Vm (Osk (Osk (Osk (Osk (Osk (Osk (Oq Vpt (Oq Va ?_)))))))))
  refine KS ?_
  have hq := q4 hrr true (by unfold w33_LayoutPlaces; simp only [h26, h189, hg9, hR188, cs4]); subst hq
  exact Kr () rfl (.tmp rfl .nil) [] trivial
 intro h189
 have g191 := df h189
 refine Oq (Vfa fo26_1 1) (Oq (VldF sh24 1) (Oq (Vlen sl24) (Oq Vgtr (Oq Vpf (Oq Vm ?_)))))
 refine Js 61 ?_ ?_
 ·intro h192
  have g193 := dt h192
  refine Osk (Osk (Osk (Osk (Oq Vpt (Oq Vm (Osk (Osk (Osk (Osk ?_)))))))))
  refine Osk (Osk (Oq Vpt (Oq Va (KS ?_))))
  have hq := q4 hrr true (by unfold w33_LayoutPlaces; simp only [h26, h189, h192, hg9, hR188, cs4]); subst hq
  exact Kr () rfl (.tmp rfl .nil) [] trivial
 intro h192
 have g194 := df h192
 refine Oq (Vfa fo26_2 1) (Oq (VldF sh24 1) (Oq (Vlen sl24) (Oq Vgtr (Oq Vpf (Oq Vm ?_)))))
 refine Js 67 ?_ ?_
 ·intro h195
  have g196 := dt h195
  refine Osk (Osk (Osk (Osk (Osk (Osk (Oq Vpt (Oq Va (KS ?_))))))))
  have hq := q4 hrr true (by unfold w33_LayoutPlaces; simp only [h26, h189, h192, h195, hg9, hR188, cs4]); subst hq
  exact Kr () rfl (.tmp rfl .nil) [] trivial
 intro h195
 have g197 := df h195
 refine Oq (VldA sh26 1) (Oq Vm ?_)
 refine letv (w33_places g root) fun rv198 hg199 => ?_
 have hc200 := fn6 g ga0 gk0 ga1 gk1 ga2 gk2 root pre pre rv198 hg199
 refine Oc [3, 4, 5] ca6 hc200 ?_
 rintro - -
 refine Oq Vm ?_
 refine Js 71 ?_ ?_
 ·intro h201
  have hc203 := fn9  w33_sane rfl
  refine Oc [] ca9 hc203 ?_
  rintro - -
  refine Oq Vpt (Oq Vpf (Oq Va (KS ?_)))
  have hq := q4 hrr w33_sane (by unfold w33_LayoutPlaces; simp only [h26, h189, h192, h195, h201, hg9, hR188, hg199, cs4]); subst hq
  exact Kr () rfl (.tmp rfl .nil) [] trivial
 intro h201
 refine Osk (Oq Vpf (Oq Vpf (Oq Va (KS ?_))))
 have hq := q4 hrr false (by unfold w33_LayoutPlaces; simp only [h26, h189, h192, h195, h201, hg9, hR188, hg199, cs4]); subst hq
 exact Kr () rfl (.tmp rfl .nil) [] trivial
end Go.SL.G
