/- Part 4 of the walks: mirrors, plain laws and walks used by the last text of this claim. -/
import Derived.Test.YtfoejhjfcegngaaGreatW3
import Derived.Test.YtfoejhjfcegngaaGreatProg
set_option linter.unusedVariables false
set_option linter.unusedSimpArgs false
namespace Go.SL.G
open Go Go.SL Go.Proofs
set_option maxHeartbeats 20000000
set_option maxRecDepth 100000
theorem fn162 (s : GSystem) (sa1 : Option Addr) (sk1 : Nat) (sa2 : Option Addr) (sk2 : Nat) (sa3 : Option Addr) (sk3 : Nat) (v : List GSet) (va0 : Option Addr) (vk0 : Nat) (n : Int) (hs_0 : i64ok s.Width) (hn_0 : i64ok n) (hv : VSys s) (hl : v.length = s.Boundary.length) (hn : 0 ≤ n ∧ n < (s.Boundary.length : Int)) (rr : GSet) (hrr : flqref10_right s v n = rr) : FT Tryz.prog 162 #[.agg #[vi s.Width, vl sa1 sk1 s.Deps, vl sa2 sk2 s.Transfers, vl sa3 sk3 s.Boundary], vl va0 vk0 v, vi n] [S sa1 sk1 s.Deps, S sa2 sk2 s.Transfers, S sa3 sk3 s.Boundary, S va0 vk0 v] (fun g : Value => i64ok rr.Width) (fun g => .agg #[vi rr.Width, g]) (fun g => [sl g rr.Words]) := by
 refine FTi Tryz.func162 fun w0 M0 F0 => ?_
 unfold i64ok at hs_0 hn_0
 refine Fb 24 0 fun hl1 => ?_
 refine Fb 88 1 fun hl2 => ?_
 refine Fb 32 2 fun hl3 => ?_
 refine Fb 32 3 fun hl4 => ?_
 have hv1 := hv.n
 have hv2 := hv.tl
 have hv3 := hv.bl
 have hv4 := hv.w
 have hv5 := hv.dep_len
 refine KS ?_
 refine Oa (Ab [vi s.Width, vl sa1 sk1 s.Deps, vl sa2 sk2 s.Transfers, vl sa3 sk3 s.Boundary]) fun p5 => Oa (Al ze42 [vi 0, .slice none 0 0]) fun p6 => KS ?_
 refine Oq (Vfa fo27_3 1) (Oq (VldF sh25 1) (Oq Vm (Oq (Vi sl25 4) ?_)))
 refine JJ_peek_GSet n.toNat 4 rfl rng fun a7 k8 hb9 => ?_
 unfold i64ok at hb9
 refine Fb 8 1 fun hl10 => ?_
 refine Oq (VldA sh42 0) (Oa (Al ze42 [vi 0, .slice none 0 0]) fun p11 => Ost (Scl [0] sh42 [vi ((s.Boundary.getD n.toNat default).Width), vl a7 k8 ((s.Boundary.getD n.toNat default).Words)]) (KS ?_))
 refine Oq Va (KS ?_)
 refine Kl (γ := Nat × Int × List (BitVec 64) × Int × Option Addr × Nat) (fun (r12, out0_13, out1_14, i_15, a16, k17) => ⟨[(1, vl va0 vk0 v), (2, vi n), (3, p5), (6, p6), (7, p11), (8, vi i_15)], [S a16 k17 out1_14, Cl p11 [vi out0_13, vl a16 k17 out1_14], Cl p6 [vi 0, .slice none 0 0], pv p5 [vi s.Width, vl sa1 sk1 s.Deps, vl sa2 sk2 s.Transfers, vl sa3 sk3 s.Boundary], S sa1 sk1 s.Deps, S sa2 sk2 s.Transfers, S sa3 sk3 s.Boundary, S va0 vk0 v], flqref10_right_L0 s v n r12 out0_13 out1_14 i_15 = flqref10_right_L0 s v n (((((s.Deps.getD n.toNat []).length : Int) : Int) - 0).toNat) ((s.Boundary.getD n.toNat default).Width) ((s.Boundary.getD n.toNat default).Words) 0 ∧ r12 = ((((s.Deps.getD n.toNat []).length : Int) : Int) - i_15).toNat ∧ (0 : Int) ≤ i_15 ∧ (i_15 ≤ ((s.Deps.getD n.toNat []).length : Int) ∨ i_15 = 0) ∧ (-9223372036854775808 ≤ out0_13 ∧ out0_13 ≤ 9223372036854775807) ∧ (-9223372036854775808 ≤ i_15 ∧ i_15 ≤ 9223372036854775807), r12⟩) (((((s.Deps.getD n.toNat []).length : Int) : Int) - 0).toNat, (s.Boundary.getD n.toNat default).Width, (s.Boundary.getD n.toNat default).Words, 0, a7, k8) [2, 0, 2, 2, 3, 4, 5, 6] ⟨rfl, rfl, (by omega), (.inr rfl), (by omega), (by omega)⟩ ?_
 rintro ⟨r12, out0_13, out1_14, i_15, a16, k17⟩ ⟨hM18, hr19, hi20, hi21, hk22, hk23⟩
 refine JJ_nx fun _ _ hL hA => ?_; dsimp only at hL hA; subst hL hA
 refine Fb 8 0 fun hl24 => ?_
 refine Fb 24 4 fun hl25 => ?_
 refine Fb 88 5 fun hl26 => ?_
 refine Fb 32 6 fun hl27 => ?_
 refine Fb 32 7 fun hl28 => ?_
 refine KS ?_
 refine Oq Vm (Oq (Vfa fo27_1 3) (Oq (VldF sh23 3) (Oq Vm (Oq (Vi sl23 4) ?_))))
 refine JJ_peekL n.toNat 4 rfl rng fun a29 k30 => ?_
 refine Fb 8 1 fun hl31 => ?_
 refine Fo 1 fun ho32 => ?_
 refine Oq (Vld sh22 0) (Oq (Vlen sl22) (Oq Vlss (KS ?_)))
 refine Kc ?_ ?_
 · intro h33
   have g34 := of_decide_eq_true h33
   have hq := hv.dep_mem (j := n) (by omega) (by omega) _ (getD_mem (xs := s.Deps.getD n.toNat []) (i := i_15.toNat) (d := 0) (by omega))
   obtain ⟨r35, rfl⟩ := scc (n := r12) (by omega)
   refine KS ?_
   refine Oq (Vfa fo27_1 5) (Oq (VldF sh23 5) (Oq Vm (Oq (Vi sl23 6) (Oq (Vld sh22 0) (Oq Vm (Oq (Vi sl22 1) ?_))))))
   have hb36 := ok1 (i := i_15.toNat) ho32 rng
   refine Oq (VldI sh3 1) (Oq Va (KS ?_))
   refine JJ_peek_GTransfer (((s.Deps.getD n.toNat []).getD i_15.toNat 0) : Int).toNat 7 rfl rng fun a37 k38 a39 k40 a41 k42 hb43 hb44 => ?_
   unfold i64ok at hb43 hb44
   refine Fb 8 1 fun hl45 => ?_
   refine Fb 8 2 fun hl46 => ?_
   refine Fb 16 3 fun hl47 => ?_
   refine JJ_peek_GSet (((s.Deps.getD n.toNat []).getD i_15.toNat 0) : Int).toNat 13 rfl rng fun a48 k49 hb50 => ?_
   unfold i64ok at hb50
   refine Fb 8 1 fun hl51 => ?_
   refine JK_drawK [0, 1, 0, 7, 15, 0, 0, 96, 224, 511, 1023, 2047, 2047, 0, 12287, 32767] fmix ?_
   refine Dv [11] (Vfa fo27_2 0) (Dv [11] (VldF sh24 0) (Dv [] Vm (Dv [13] (Vi sl24 0) (Dv [2] (VldA sh98 0) (Dv [] Vm (Dv [] Vm (Dv [15] (Vi sl25 0) (Dv [0] (VldA sh42 0) ?_))))))))
   refine letv (flqref1_Apply (s.Transfers.getD (((s.Deps.getD n.toNat []).getD i_15.toNat 0) : Int).toNat default) (v.getD (((s.Deps.getD n.toNat []).getD i_15.toNat 0) : Int).toNat default)) fun rv53 hg54 => ?_
   refine Dx [1, 3, 4, 5] [] [2, 3, 4, 5, 0, 1] (fun G => .tuple #[.agg #[vi rv53.1.Width, (G.g 9 0)], vi rv53.2]) [fun G => SP.fact (i64ok rv53.1.Width ∧ i64ok rv53.2), fun G => sl (G.g 9 0) rv53.1.Words] (fun G => xC [1, 2, 3, 0] ca145 (fn145 ((s.Transfers.getD (((s.Deps.getD n.toNat []).getD i_15.toNat 0) : Int).toNat default)) a37 k38 a39 k40 a41 k42 ((v.getD (((s.Deps.getD n.toNat []).getD i_15.toNat 0) : Int).toNat default)) a48 k49 pre pre pre rv53 hg54)) (Dg [] (fun G => .tuple #[.agg #[vi rv53.1.Width, (G.g 9 0)], vi rv53.2]) (fun G => Vm) (Dg [] (fun G => .agg #[vi rv53.1.Width, (G.g 9 0)]) (fun G => Vx) (Dv [] Vx (Dx [] [] [0] (fun G => (G.g 13 0)) [fun G => Cl (G.g 13 0) [vi 0, .slice none 0 0]] (fun G => xA (Al ze42 [vi 0, .slice none 0 0])) (Dx0 [17, 18] [18] [1, 0] [fun G => Cl (G.g 13 0) [vi rv53.1.Width, (G.g 9 0)]] (fun G => x1 0 rfl sl_one fun ho56 => (xS (Scl [1] sh42 [vi rv53.1.Width, (G.g 9 0)] (v := .agg #[vi rv53.1.Width, (G.g 9 0)]) (h1 := show [vi rv53.1.Width, (G.g 9 0)].all (·.oneCell') = true from (by simp only [List.all_cons, List.all_nil, ho56, Bool.and_true, Bool.true_and] <;> rfl))))) (Dv [] Va ?_))))))
   refine Dn ⟨by kernel_rfl, fun G => ?_⟩
   refine Jw2 [(1, vl va0 vk0 v), (2, vi n), (3, p5), (6, p6), (7, p11), (8, vi i_15), (10, (G.g 13 0))] [0, 1, 2, 3, 4, 5, 6, 7, 8, 9, 10, 11, 12, 13, 14, 15] [SP.fact (i64ok rv53.1.Width ∧ i64ok rv53.2), sl (G.g 9 0) rv53.1.Words, Cl (G.g 13 0) [vi rv53.1.Width, (G.g 9 0)]] ?_
   generalize G.g 9 0 = c52, G.g 13 0 = p55
   refine Jf 16 rfl ?_; rintro ⟨he57, he58⟩
   unfold i64ok at he57 he58
   refine Jk [0, 1, 2, 3, 4, 5, 6, 7, 8, 9, 9, 9, 10, 11, 12, 13, 15, 16] ?_
   refine Jo 16 ?_; rintro a59 k60 rfl
   refine Fb 8 16 fun hl61 => ?_
   refine KS ?_
   refine Oq (VldA sh42 9) (Oq (VldA sh42 17) ?_)
   refine letv (flqref1_Join (GSet.mk out0_13 out1_14) rv53.1) fun rv63 hg64 => ?_
   have hc65 := fn22 ((GSet.mk out0_13 out1_14)) a16 k17 rv53.1 a59 k60 pre pre rv63 hg64
   refine Oc [8, 16] ca22 hc65 ?_
   rintro c62 he66
   unfold i64ok at he66
   refine Jo 0 ?_; rintro a67 k68 rfl
   refine Fb 8 0 fun hl69 => ?_
   refine Ost (Scl [10] sh42 [vi rv63.Width, vl a67 k68 rv63.Words]) (KS ?_)
   refine Oq Vm (Oq Vadd (Oq Va (KS ?_)))
   exact Kg (r35, rv63.Width, rv63.Words, (i_15 + 1), a67, k68) [1, 0, 10, 10, 11, 12, 13, 14] ⟨(q3 hM18 (by simp only [flqref10_right_L0, h33, hg54, hg64, cs4])), (by omega), (by omega), (by omega), (by omega), (by omega)⟩
 intro h33
 have g70 := of_decide_eq_false h33
 obtain rfl : r12 = 0 := by omega
 refine Ke ?_
 have hR71 := q2 hM18 (out0_13, out1_14) (by simp only [flqref10_right_L0, h33, cs4])
 refine KS ?_
 refine Oq (VldA sh42 3) (Ost (Scl [4] sh42 [vi out0_13, vl a16 k17 out1_14]) (KS ?_))
 have hq := q4 hrr (GSet.mk out0_13 out1_14) (by simp only [flqref10_right, h33, hR71, cs4]); subst hq
 exact Kr (vl a16 k17 out1_14) rfl (.cellN 0 rfl sh42 rfl (reads_Cl _ _) rfl .nil) [3] en
theorem fn152 (s : GSystem) (sa1 : Option Addr) (sk1 : Nat) (sa2 : Option Addr) (sk2 : Nat) (sa3 : Option Addr) (sk3 : Nat) (v : List GSet) (va0 : Option Addr) (vk0 : Nat) (n : Int) (hs_0 : i64ok s.Width) (hn_0 : i64ok n) (rr : GSet × Int) (hrr : flqref10_Right s v n = rr) : FT Tryz.prog 152 #[.agg #[vi s.Width, vl sa1 sk1 s.Deps, vl sa2 sk2 s.Transfers, vl sa3 sk3 s.Boundary], vl va0 vk0 v, vi n] [S sa1 sk1 s.Deps, S sa2 sk2 s.Transfers, S sa3 sk3 s.Boundary, S va0 vk0 v] (fun g : Value => i64ok rr.1.Width ∧ i64ok rr.2) (fun g => .tuple #[.agg #[vi rr.1.Width, g], vi rr.2]) (fun g => [sl g rr.1.Words]) := by
 refine FTi Tryz.func152 fun w0 M0 F0 => ?_
 unfold i64ok at hs_0 hn_0
 refine Fb 24 0 fun hl1 => ?_
 refine Fb 88 1 fun hl2 => ?_
 refine Fb 32 2 fun hl3 => ?_
 refine Fb 32 3 fun hl4 => ?_
 refine KS ?_
 refine Oa (Ab [vi s.Width, vl sa1 sk1 s.Deps, vl sa2 sk2 s.Transfers, vl sa3 sk3 s.Boundary]) fun p5 => Oa (Al ze42 [vi 0, .slice none 0 0]) fun p6 => Oq Va (KS ?_)
 refine Oq (VldA sh27 1) ?_
 refine letv (flqref10_Valid s) fun rv7 hg8 => ?_
 have hc9 := fn74 s sa1 sk1 sa2 sk2 sa3 sk3 pre rv7 hg8
 refine Oc [2, 3, 4] ca74 hc9 ?_
 rintro - -
 refine Oq Vnot (KS ?_)
 refine Kc ?_ ?_
 · intro h10
   have h12 := not_true h10
   refine KS ?_
   refine Oq (Vbd st42 [vi 0, .slice none 0 0]) (Ost (Scl [0] sh42 [vi 0, .slice none 0 0]) (Oq Va (KS ?_)))
   refine Jl [] (Ent.slNil (α := BitVec 64)) ?_
   have hq := q4 hrr ((GSet.mk 0 []), 1) (by simp only [flqref10_Right, h10, h12, hg8, cs4]); subst hq
   exact Kr (.slice none 0 0) rfl (.cellN 1 rfl sh42 rfl (reads_Cl _ _) rfl (.tmp rfl .nil)) [0] en
 intro h10
 have h15 := not_false h10
 try (have hvs := (RefValid_iff s).1 (by simp only [h10, h15, hg8]); have hv1 := hvs.n; have hv2 := hvs.tl; have hv3 := hvs.bl; have hv4 := hvs.w)
 refine KS ?_
 refine Oq Vm (Oq Vlss (Oq Vm ?_))
 refine Js 15 ?_ ?_
 · intro h17
   have g18 := of_decide_eq_true h17
   refine Osk (Osk (Osk (Osk (Osk (Oq Vpt (KS ?_))))))
   refine Kt ?_
   refine KS ?_
   refine Oq (Vbd st42 [vi 0, .slice none 0 0]) (Ost (Scl [0] sh42 [vi 0, .slice none 0 0]) (Oq Va (KS ?_)))
   refine Jl [] (Ent.slNil (α := BitVec 64)) ?_
   have hq := q4 hrr ((GSet.mk 0 []), 9) (by simp only [flqref10_Right, h10, h15, h17, hg8, cs4]); subst hq
   exact Kr (.slice none 0 0) rfl (.cellN 1 rfl sh42 rfl (reads_Cl _ _) rfl (.tmp rfl .nil)) [0] en
 intro h17
 have g19 := of_decide_eq_false h17
 refine Oq Vm (Oq (Vfa fo27_3 1) (Oq (VldF sh25 1) (Oq (Vlen sl25) (Oq Vgeq (Oq Vpf (KS ?_))))))
 refine Kc ?_ ?_
 · intro h20
   have g21 := of_decide_eq_true h20
   refine KS ?_
   refine Oq (Vbd st42 [vi 0, .slice none 0 0]) (Ost (Scl [0] sh42 [vi 0, .slice none 0 0]) (Oq Va (KS ?_)))
   refine Jl [] (Ent.slNil (α := BitVec 64)) ?_
   have hq := q4 hrr ((GSet.mk 0 []), 9) (by simp only [flqref10_Right, h10, h15, h17, h20, hg8, cs4]); subst hq
   exact Kr (.slice none 0 0) rfl (.cellN 1 rfl sh42 rfl (reads_Cl _ _) rfl (.tmp rfl .nil)) [0] en
 intro h20
 have g22 := of_decide_eq_false h20
 refine KS ?_
 refine Oq (VldA sh27 1) (Oq Vm ?_)
 refine letv (flqref10_values s v) fun rv23 hg24 => ?_
 have hc25 := fn161 s sa1 sk1 sa2 sk2 sa3 sk3 v va0 vk0 pre rv23 hg24
 refine Oc [2, 3, 4, 5] ca161 hc25 ?_
 rintro - he26
 unfold i64ok at he26
 refine Oq Va (KS ?_)
 refine Oq Vm (Oq Vneq (KS ?_))
 refine Kc ?_ ?_
 · intro h27
   have g28 := ne_of_bne h27
   refine KS ?_
   refine Oq (Vbd st42 [vi 0, .slice none 0 0]) (Oq Vm (Ost (Scl [0] sh42 [vi 0, .slice none 0 0]) (Oq Va (KS ?_))))
   refine Jl [] (Ent.slNil (α := BitVec 64)) ?_
   have hq := q4 hrr ((GSet.mk 0 []), rv23) (by simp only [flqref10_Right, h10, h15, h17, h20, h27, hg8, hg24, cs4]); subst hq
   exact Kr (.slice none 0 0) rfl (.cellN 1 rfl sh42 rfl (reads_Cl _ _) rfl (.tmp rfl .nil)) [0] en
 intro h27
 have g29 := eq_of_bne_false h27
 refine KS ?_
 refine Oq (VldA sh27 1) (Oq Vm (Oq Vm ?_))
 refine letv (flqref10_right s v n) fun rv31 hg32 => ?_
 have hc33 := fn162 s sa1 sk1 sa2 sk2 sa3 sk3 v va0 vk0 n pre pre hvs (values_len (by omega)) pre rv31 hg32
 refine Oc [2, 3, 4, 5] ca162 hc33 ?_
 rintro c30 he34
 unfold i64ok at he34
 refine Jo 0 ?_; rintro a35 k36 rfl
 refine Fb 8 0 fun hl37 => ?_
 refine Ost (Scl [1] sh42 [vi rv31.Width, vl a35 k36 rv31.Words]) (Oq Va (KS ?_))
 have hq := q4 hrr (rv31, 0) (by simp only [flqref10_Right, h10, h15, h17, h20, h27, hg8, hg24, hg32, cs4]); subst hq
 exact Kr (vl a35 k36 rv31.Words) rfl (.cellN 0 rfl sh42 rfl (reads_Cl _ _) rfl (.tmp rfl .nil)) [1] en
theorem fn76 (s : GSystem) (sa1 : Option Addr) (sk1 : Nat) (sa2 : Option Addr) (sk2 : Nat) (sa3 : Option Addr) (sk3 : Nat) (v : List GSet) (va0 : Option Addr) (vk0 : Nat) (hs_0 : i64ok s.Width) (rr : List GSet × Int) (hrr : flqref10_Next s v = rr) : FT Tryz.prog 76 #[.agg #[vi s.Width, vl sa1 sk1 s.Deps, vl sa2 sk2 s.Transfers, vl sa3 sk3 s.Boundary], vl va0 vk0 v] [S sa1 sk1 s.Deps, S sa2 sk2 s.Transfers, S sa3 sk3 s.Boundary, S va0 vk0 v] (fun g : Value => i64ok rr.2 ∧ (rr.1.length ≤ s.Boundary.length + 1)) (fun g => .tuple #[g, vi rr.2]) (fun g => [sl g rr.1]) := by
 refine FTi Tryz.func76 fun w0 M0 F0 => ?_
 unfold i64ok at hs_0
 refine Fb 24 0 fun hl1 => ?_
 refine Fb 88 1 fun hl2 => ?_
 refine Fb 32 2 fun hl3 => ?_
 refine Fb 32 3 fun hl4 => ?_
 refine KS ?_
 refine Oa (Ab [vi s.Width, vl sa1 sk1 s.Deps, vl sa2 sk2 s.Transfers, vl sa3 sk3 s.Boundary]) fun p5 => Oq Va (Oq Va (KS ?_))
 refine Oq Va (KS ?_)
 refine Oq Va (KS ?_)
 refine Jl [] (Ent.osNil (α := GSet)) ?_
 refine Kl (γ := Nat × List GSet × Int × Option Addr × Nat) (fun (r6, out_7, n_8, a9, k10) => ⟨[(1, vl va0 vk0 v), (2, p5), (6, vl a9 k10 out_7), (7, vi n_8)], [O a9 k10 out_7, pv p5 [vi s.Width, vl sa1 sk1 s.Deps, vl sa2 sk2 s.Transfers, vl sa3 sk3 s.Boundary], S sa1 sk1 s.Deps, S sa2 sk2 s.Transfers, S sa3 sk3 s.Boundary, S va0 vk0 v], flqref10_Next_L0 s v r6 out_7 n_8 = flqref10_Next_L0 s v ((((max (s.Boundary.length : Int) 1) : Int) - 0).toNat) [] 0 ∧ r6 = (((max (s.Boundary.length : Int) 1) : Int) - n_8).toNat ∧ (0 : Int) ≤ n_8 ∧ (n_8 ≤ (max (s.Boundary.length : Int) 1) ∨ n_8 = 0) ∧ (-9223372036854775808 ≤ n_8 ∧ n_8 ≤ 9223372036854775807) ∧ (out_7.length : Int) = n_8, r6⟩) ((((max (s.Boundary.length : Int) 1) : Int) - 0).toNat, [], 0, none, 0) [0, 0, 1, 2, 3, 4] ⟨rfl, rfl, (by omega), (.inr rfl), (by omega), iv0⟩ ?_
 rintro ⟨r6, out_7, n_8, a9, k10⟩ ⟨hM11, hr12, hi13, hi14, hk15, hv16⟩
 refine JJ_nx fun _ _ hL hA => ?_; dsimp only at hL hA; subst hL hA
 refine Fb 32 0 fun hl17 => ?_
 refine Fb 24 2 fun hl18 => ?_
 refine Fb 88 3 fun hl19 => ?_
 refine Fb 32 4 fun hl20 => ?_
 refine Fb 32 5 fun hl21 => ?_
 refine KS ?_
 refine Oq Vm (Oq (Vfa fo27_3 1) (Oq (VldF sh25 1) (Oq (Vlen sl25) (Oq Vmax (Oq Vlss (KS ?_))))))
 refine Kc ?_ ?_
 · intro h22
   have g23 := of_decide_eq_true h22
   obtain ⟨r24, rfl⟩ := scc (n := r6) (by omega)
   refine KS ?_
   refine Oq (VldA sh27 1) (Oq Vm (Oq Vm ?_))
   refine letv (flqref10_Right s v n_8) fun rv26 hg27 => ?_
   have hc28 := fn152 s sa1 sk1 sa2 sk2 sa3 sk3 v va0 vk0 n_8 pre pre rv26 hg27
   refine Oc [2, 3, 4, 5] ca152 hc28 ?_
   rintro c25 ⟨he29, he30⟩
   unfold i64ok at he29 he30
   refine Jo 0 ?_; rintro a31 k32 rfl
   refine Fb 8 0 fun hl33 => ?_
   refine Oq Vm (Oq Vx (Oq Vx (Oa (Al ze42 [vi 0, .slice none 0 0]) fun p34 => Ost (Scl [0] sh42 [vi rv26.1.Width, vl a31 k32 rv26.1.Words]) (Oq Va (KS ?_)))))
   refine Oq Vm (Oq Vneq (KS ?_))
   refine Kc ?_ ?_
   · intro h35
     have g36 := ne_of_bne h35
     refine KS ?_
     refine Oq Vm (Oq Va (Oq Va (KS ?_)))
     refine Jl [] (Ent.slNil (α := GSet)) ?_
     have hR37 := q2 hM11 (.ret ([], rv26.2)) (by simp only [flqref10_Next_L0, h22, h35, hg27, cs4])
     have hq := q4 hrr ([], rv26.2) (by simp only [flqref10_Next, h22, h35, hg27, hR37, cs4]); subst hq
     exact Kr (.slice none 0 0) rfl (.tmp rfl (.tmp rfl .nil)) [0] en
   intro h35
   have g38 := eq_of_bne_false h35
   refine KS ?_
   refine Oq Vm (Oq (VldA sh42 0) (Oa (AsV sl25 sz25 [.agg #[vi rv26.1.Width, vl a31 k32 rv26.1.Words]] [vi rv26.1.Width, vl a31 k32 rv26.1.Words]) fun c39 => ?_))
   refine Jo 0 ?_; rintro a40 k41 rfl
   refine Jl [0, 1] (Ent.cr1 (α := GSet) (A := [S a31 k32 rv26.1.Words]) _ rv26.1 _ (Nat.le_of_ble_eq_true rfl) (fun h => ⟨_, rfl, (by unfold i64ok; first | omega | (dsimp only; omega)), sepAll_get (i := 0) rfl h⟩)) ?_
   refine Oa (ApO [4, 0] sl25 sl25 sz25) fun c42 => ?_
   refine Jo 0 ?_; rintro a43 k44 rfl
   refine Fb 32 0 fun hl45 => ?_
   have hn46 := la out_7 ([rv26.1] : List GSet)
   refine Oq Va (KS ?_)
   refine Oq Vm (Oq Vadd (Oq Va (KS ?_)))
   exact Kg (r24, (out_7 ++ [rv26.1]), (n_8 + 1), a43, k44) [0, 3, 4, 5, 6, 7] ⟨(q3 hM11 (by simp only [flqref10_Next_L0, h22, h35, hg27, cs4])), (by omega), (by omega), (by omega), (by omega), iv1⟩
 intro h22
 have g47 := of_decide_eq_false h22
 obtain rfl : r6 = 0 := by omega
 refine Ke ?_
 have hR48 := q2 hM11 (.brk out_7) (by simp only [flqref10_Next_L0, h22, cs4])
 refine KS ?_
 refine Oq Vm (Oq Va (Oq Va (KS ?_)))
 refine Jl [0] (Ent.freeze _ _) ?_
 have hq := q4 hrr (out_7, 0) (by simp only [flqref10_Next, h22, hR48, cs4]); subst hq
 exact Kr (vl a9 k10 out_7) rfl (.tmp rfl (.tmp rfl .nil)) [0] en
theorem fn77 (a : List GSet) (aa0 : Option Addr) (ak0 : Nat) (b : List GSet) (ba0 : Option Addr) (bk0 : Nat) (rr : Bool) (hrr : flqref10_SameSets a b = rr) : FT Tryz.prog 77 #[vl aa0 ak0 a, vl ba0 bk0 b] [S aa0 ak0 a, S ba0 bk0 b] (fun g : Unit => True) (fun g => vb rr) (fun g => []) := by
 refine FTi Tryz.func77 fun w0 M0 F0 => ?_
 refine Fb 32 0 fun hl1 => ?_
 refine Fb 32 1 fun hl2 => ?_
 refine KS ?_
 refine Oq Va (KS ?_)
 refine Oq Vm (Oq (Vlen sl25) (Oq Vm (Oq (Vlen sl25) (Oq Vneq (KS ?_)))))
 refine Kc ?_ ?_
 · intro h3
   have g4 := ne_of_bne h3
   refine KS ?_
   refine Oq Va (KS ?_)
   have hq := q4 hrr false (by simp only [flqref10_SameSets, h3, cs4]); subst hq
   exact Kr () rfl (.tmp rfl .nil) [] trivial
 intro h3
 have g5 := eq_of_bne_false h3
 refine KS ?_
 refine Oq Va (KS ?_)
 refine Kl (γ := Nat × Int) (fun (r6, i_7) => ⟨[(0, vl aa0 ak0 a), (1, vl ba0 bk0 b), (5, vi i_7)], [S aa0 ak0 a, S ba0 bk0 b], flqref10_SameSets_L0 a b r6 i_7 = flqref10_SameSets_L0 a b (((a.length : Int) - 0).toNat) 0 ∧ r6 = ((a.length : Int) - i_7).toNat ∧ (0 : Int) ≤ i_7 ∧ i_7 ≤ (a.length : Int) ∧ (-9223372036854775808 ≤ i_7 ∧ i_7 ≤ 9223372036854775807), r6⟩) (((a.length : Int) - 0).toNat, 0) [0, 1] ⟨rfl, rfl, (by omega), (by omega), (by omega)⟩ ?_
 rintro ⟨r6, i_7⟩ ⟨hM8, hr9, hi10, hi11, hk12⟩
 refine JJ_nx fun _ _ hL hA => ?_; dsimp only at hL hA; subst hL hA
 refine Fb 32 0 fun hl13 => ?_
 refine Fb 32 1 fun hl14 => ?_
 refine KS ?_
 refine Oq Vm (Oq Vm (Oq (Vlen sl25) (Oq Vlss (KS ?_))))
 refine Kc ?_ ?_
 · intro h15
   have g16 := of_decide_eq_true h15
   obtain ⟨r17, rfl⟩ := scc (n := r6) (by omega)
   refine KS ?_
   refine JJ_peek_GSet i_7.toNat 0 rfl rng fun a18 k19 hb20 => ?_
   unfold i64ok at hb20
   refine Fb 8 1 fun hl21 => ?_
   refine JJ_peek_GSet i_7.toNat 3 rfl rng fun a22 k23 hb24 => ?_
   unfold i64ok at hb24
   refine Fb 8 1 fun hl25 => ?_
   refine JK_drawK [0, 0, 3, 7, 0, 0, 48, 112, 255, 511] fmix ?_
   refine Dv [] Vm (Dv [] Vm (Dv [4] (Vi sl25 0) (Dv [2] (VldA sh42 0) (Dv [] Vm (Dv [] Vm (Dv [5] (Vi sl25 0) (Dv [0] (VldA sh42 0) ?_)))))))
   refine letv (flqref1_Same (a.getD i_7.toNat default) (b.getD i_7.toNat default)) fun rv26 hg27 => ?_
   refine Dx [1, 3] [] [1, 2, 0] (fun G => vb rv26) [fun G => SP.fact (True)] (fun G => xC [1, 0] ca45 (fn45 ((a.getD i_7.toNat default)) a18 k19 ((b.getD i_7.toNat default)) a22 k23 pre pre rv26 hg27)) (Dv [] Vnot ?_)
   refine Dn ⟨by kernel_rfl, fun G => ?_⟩
   refine Jw2 [(0, vl aa0 ak0 a), (1, vl ba0 bk0 b), (5, vi i_7), (26, vb (!rv26))] [0, 1, 2, 3, 4, 5] [SP.fact (True)] ?_
   refine Jk [0, 1, 2, 3, 4, 5] ?_
   refine Kc ?_ ?_
   · intro h28
     have h30 := not_true h28
     refine KS ?_
     refine Oq Va (KS ?_)
     have hR32 := q2 hM8 (.ret false) (by simp only [flqref10_SameSets_L0, h3, h15, h28, h30, hg27, cs4])
     have hq := q4 hrr false (by simp only [flqref10_SameSets, h3, h15, h28, h30, hg27, hR32, cs4]); subst hq
     exact Kr () rfl (.tmp rfl .nil) [] trivial
   intro h28
   have h34 := not_false h28
   refine KS ?_
   refine Oq Vm (Oq Vadd (Oq Va (KS ?_)))
   exact Kg (r17, (i_7 + 1)) [4, 5] ⟨(q3 hM8 (by simp only [flqref10_SameSets_L0, h3, h15, h28, h34, hg27, cs4])), (by omega), (by omega), (by omega), (by omega)⟩
 intro h15
 have g36 := of_decide_eq_false h15
 obtain rfl : r6 = 0 := by omega
 refine Ke ?_
 have hR37 := q2 hM8 (.brk ()) (by simp only [flqref10_SameSets_L0, h3, h15, cs4])
 refine KS ?_
 refine Oq Va (KS ?_)
 have hq := q4 hrr true (by simp only [flqref10_SameSets, h3, h15, hR37, cs4]); subst hq
 exact Kr () rfl (.tmp rfl .nil) [] trivial
theorem fn21 (s : GSystem) (sa1 : Option Addr) (sk1 : Nat) (sa2 : Option Addr) (sk2 : Nat) (sa3 : Option Addr) (sk3 : Nat) (hs_0 : i64ok s.Width) (rr : List GSet × Int × Int) (hrr : flqref10_Solve s = rr) : FT Tryz.prog 21 #[.agg #[vi s.Width, vl sa1 sk1 s.Deps, vl sa2 sk2 s.Transfers, vl sa3 sk3 s.Boundary]] [S sa1 sk1 s.Deps, S sa2 sk2 s.Transfers, S sa3 sk3 s.Boundary] (fun g : Value => i64ok rr.2.1 ∧ i64ok rr.2.2 ∧ (rr.1.length ≤ 257)) (fun g => .tuple #[g, vi rr.2.1, vi rr.2.2]) (fun g => [sl g rr.1]) := by
 refine FTi Tryz.func21 fun w0 M0 F0 => ?_
 unfold i64ok at hs_0
 refine Fb 24 0 fun hl1 => ?_
 refine Fb 88 1 fun hl2 => ?_
 refine Fb 32 2 fun hl3 => ?_
 refine KS ?_
 refine Oa (Ab [vi s.Width, vl sa1 sk1 s.Deps, vl sa2 sk2 s.Transfers, vl sa3 sk3 s.Boundary]) fun p4 => Oq Va (Oq Va (Oq Va (KS ?_)))
 refine Oq (VldA sh27 0) ?_
 refine letv (flqref10_Valid s) fun rv5 hg6 => ?_
 have hc7 := fn74 s sa1 sk1 sa2 sk2 sa3 sk3 pre rv5 hg6
 refine Oc [1, 2, 3] ca74 hc7 ?_
 rintro - -
 refine Oq Vnot (KS ?_)
 refine Kc ?_ ?_
 · intro h8
   have h10 := not_true h8
   refine KS ?_
   refine Oq Va (Oq Va (Oq Va (KS ?_)))
   refine Jl [] (Ent.slNil (α := GSet)) ?_
   have hq := q4 hrr ([], 0, 1) (by simp only [flqref10_Solve, h8, h10, hg6, cs4]); subst hq
   exact Kr (.slice none 0 0) rfl (.tmp rfl (.tmp rfl (.tmp rfl .nil))) [0] en
 intro h8
 have h13 := not_false h8
 try (have hvs := (RefValid_iff s).1 (by simp only [h8, h13, hg6]); have hv1 := hvs.n; have hv3 := hvs.bl; have hv4 := hvs.w; have hbb : s.Boundary.length * s.Width.toNat ≤ 256 * 256 := Nat.mul_le_mul (by omega) (by omega))
 refine KS ?_
 refine Oq (VldA sh27 0) ?_
 refine letv (flqref10_Empty s) fun rv16 hg17 => ?_
 have hc18 := fn75 s sa1 sk1 sa2 sk2 sa3 sk3 pre pre rv16 hg17
 refine Oc [1, 2, 3] ca75 hc18 ?_
 rintro c15 he19
 refine Jo 0 ?_; rintro a20 k21 rfl
 refine Fb 32 0 fun hl22 => ?_
 refine Oq Va (KS ?_)
 refine Oq Va (KS ?_)
 have hterm32 : flqref10_Solve_L0 s (s.Boundary.length * s.Width.toNat + 2) rv16 0 ≠ LR.oof := (Solve_term (by simp only [h8, h13, hg6, hg17]) (by assumption))
 refine Kl (γ := Nat × List GSet × Int × Option Addr × Nat) (fun (r23, v_24, round_25, a26, k27) => ⟨[(1, p4), (5, vl a26 k27 v_24), (6, vi round_25)], [S a26 k27 v_24, pv p4 [vi s.Width, vl sa1 sk1 s.Deps, vl sa2 sk2 s.Transfers, vl sa3 sk3 s.Boundary], S sa1 sk1 s.Deps, S sa2 sk2 s.Transfers, S sa3 sk3 s.Boundary], flqref10_Solve_L0 s r23 v_24 round_25 = flqref10_Solve_L0 s (s.Boundary.length * s.Width.toNat + 2) rv16 0 ∧ (-9223372036854775808 ≤ round_25 ∧ round_25 ≤ 9223372036854775807) ∧ 0 ≤ round_25 ∧ round_25 + (r23 : Int) = ((s.Boundary.length * s.Width.toNat + 2 : Nat) : Int) ∧ v_24.length ≤ s.Boundary.length + 1, r23⟩) ((s.Boundary.length * s.Width.toNat + 2), rv16, 0, a20, k21) [0, 1, 2, 3, 4] ⟨rfl, (by omega), iv0, iv0⟩ ?_
 rintro ⟨r23, v_24, round_25, a26, k27⟩ ⟨hM28, hk29, hv30, hv31⟩
 refine JJ_nx fun _ _ hL hA => ?_; dsimp only at hL hA; subst hL hA
 refine Fb 32 0 fun hl33 => ?_
 refine Fb 24 2 fun hl34 => ?_
 refine Fb 88 3 fun hl35 => ?_
 refine Fb 32 4 fun hl36 => ?_
 rcases r23 with _ | r23
 · exact absurd (hM28.symm.trans rfl) hterm32
 refine KS ?_
 refine Oq (VldA sh27 1) (Oq Vm ?_)
 refine letv (flqref10_Next s v_24) fun rv38 hg39 => ?_
 have hc40 := fn76 s sa1 sk1 sa2 sk2 sa3 sk3 v_24 a26 k27 pre rv38 hg39
 refine Oc [2, 3, 4, 0] ca76 hc40 ?_
 rintro c37 ⟨he41, he42⟩
 unfold i64ok at he41
 refine Jo 0 ?_; rintro a43 k44 rfl
 refine Fb 32 0 fun hl45 => ?_
 refine Oq Vm (Oq Vx (Oq Vx (Oq Va (Oq Va (KS ?_)))))
 refine Oq Vm (Oq Vm ?_)
 refine letv (flqref10_SameSets rv38.1 v_24) fun rv46 hg47 => ?_
 have hc48 := fn77 rv38.1 a43 k44 v_24 a26 k27 rv46 hg47
 refine Oc [0, 1] ca77 hc48 ?_
 rintro - -
 refine KS ?_
 refine Kc ?_ ?_
 · intro h49
   try (have hvs := (RefValid_iff s).1 (by simp only [h8, h13, h49, hg6, hg17, hg39, hg47]); have hv1 := hvs.n; have hv3 := hvs.bl; have hv4 := hvs.w; have hbb : s.Boundary.length * s.Width.toNat ≤ 256 * 256 := Nat.mul_le_mul (by omega) (by omega))
   refine KS ?_
   refine Oq Vm (Oq Vm (Oq Va (Oq Va (Oq Va (KS ?_)))))
   have hR51 := q2 hM28 (.ret (v_24, round_25, 0)) (by simp only [flqref10_Solve_L0, h8, h13, h49, hg6, hg17, hg39, hg47, cs4])
   have hq := q4 hrr (v_24, round_25, 0) (by simp only [flqref10_Solve, h8, h13, h49, hg6, hg17, hg39, hg47, hR51, cs4]); subst hq
   exact Kr (vl a26 k27 v_24) rfl (.tmp rfl (.tmp rfl (.tmp rfl .nil))) [1] en
 intro h49
 refine KS ?_
 refine Oq Vm (Oq Va (KS ?_))
 refine Oq Vm (Oq Vadd (Oq Va (KS ?_)))
 exact Kg (r23, rv38.1, (round_25 + 1), a43, k44) [0, 2, 3, 4, 5] ⟨(q3 hM28 (by simp only [flqref10_Solve_L0, h8, h13, h49, hg6, hg17, hg39, hg47, cs4])), (by omega), iv1, iv1⟩
theorem fn53 (kP : Value) (ka : Option Addr) (kk : Nat) (kT : List Int) (kI : Int) (s : GSystem) (sa1 : Option Addr) (sk1 : Nat) (sa2 : Option Addr) (sk2 : Nat) (sa3 : Option Addr) (sk3 : Nat) (wrong : Bool) (hkI : 0 ≤ kI ∧ kI ≤ (kT.length : Int)) (hs_0 : i64ok s.Width) (hw0 : 0 ≤ s.Width ∧ s.Width ≤ 250) (rr : List GKnown × Int) (hrr : flqlaw14_known kT kI s wrong = rr) : FT Tryz.prog 53 #[kP, .agg #[vi s.Width, vl sa1 sk1 s.Deps, vl sa2 sk2 s.Transfers, vl sa3 sk3 s.Boundary], vb wrong] [Cl kP [vl ka kk kT, vi kI], S ka kk kT, S sa1 sk1 s.Deps, S sa2 sk2 s.Transfers, S sa3 sk3 s.Boundary] (fun g : Value => (0 ≤ rr.2 ∧ rr.2 ≤ (kT.length : Int)) ∧ (rr.1.length ≤ 257)) (fun g => g) (fun g => [sl g rr.1, Cl kP [vl ka kk kT, vi rr.2]]) := by
 refine FTi Tryz.func53 fun w0 M0 F0 => ?_
 unfold i64ok at hs_0
 refine Fb 8 1 fun hl1 => ?_
 refine Fo 1 fun ho2 => ?_
 refine Fb 24 2 fun hl3 => ?_
 refine Fb 88 3 fun hl4 => ?_
 refine Fb 32 4 fun hl5 => ?_
 refine KS ?_
 refine Oa (Ab [vi s.Width, vl sa1 sk1 s.Deps, vl sa2 sk2 s.Transfers, vl sa3 sk3 s.Boundary]) fun p6 => Oq Va (KS ?_)
 refine Oq (VldA sh27 0) ?_
 refine letv (flqref10_Solve s) fun rv8 hg9 => ?_
 have hc10 := fn21 s sa1 sk1 sa2 sk2 sa3 sk3 pre rv8 hg9
 refine Oc [3, 4, 5] ca21 hc10 ?_
 rintro c7 ⟨he11, he12, he13⟩
 unfold i64ok at he11 he12
 refine Jo 0 ?_; rintro a14 k15 rfl
 refine Fb 32 0 fun hl16 => ?_
 refine Oq Vm (Oq Vx (Oq Vx (Oq Vx (Oq Va (Oq Va (Oq Va (KS ?_)))))))
 refine Oq Va (KS ?_)
 refine Oq Va (KS ?_)
 refine Jl [] (Ent.osNil (α := GKnown)) ?_
 refine Kl (γ := Nat × Int × List GKnown × Int × Option Addr × Nat) (fun (r17, ti_18, out_19, i_20, a21, k22) => ⟨[(0, kP), (2, vb wrong), (4, p6), (7, vl a14 k15 rv8.1), (10, vl a21 k22 out_19), (11, vi i_20)], [O a21 k22 out_19, S a14 k15 rv8.1, pv p6 [vi s.Width, vl sa1 sk1 s.Deps, vl sa2 sk2 s.Transfers, vl sa3 sk3 s.Boundary], Cl kP [vl ka kk kT, vi ti_18], S ka kk kT, S sa1 sk1 s.Deps, S sa2 sk2 s.Transfers, S sa3 sk3 s.Boundary], flqlaw14_known_L0 kT s wrong rv8.1 r17 ti_18 out_19 i_20 = flqlaw14_known_L0 kT s wrong rv8.1 (((rv8.1.length : Int) - 0).toNat) kI [] 0 ∧ r17 = ((rv8.1.length : Int) - i_20).toNat ∧ (0 : Int) ≤ i_20 ∧ i_20 ≤ (rv8.1.length : Int) ∧ (-9223372036854775808 ≤ ti_18 ∧ ti_18 ≤ 9223372036854775807) ∧ (0 ≤ ti_18 ∧ ti_18 ≤ (kT.length : Int)) ∧ (-9223372036854775808 ≤ i_20 ∧ i_20 ≤ 9223372036854775807) ∧ (out_19.length : Int) ≤ i_20 ∧ i_20 ≤ 257, r17⟩) (((rv8.1.length : Int) - 0).toNat, kI, [], 0, none, 0) [0, 0, 1, 2, 2, 3, 4, 5] ⟨rfl, rfl, (by omega), (by omega), (by omega), (by omega), (by omega), iv0⟩ ?_
 rintro ⟨r17, ti_18, out_19, i_20, a21, k22⟩ ⟨hM23, hr24, hi25, hi26, hk27, ht28, hk29, hv30⟩
 refine JJ_nx fun _ _ hL hA => ?_; dsimp only at hL hA; subst hL hA
 refine Fb 40 0 fun hl31 => ?_
 refine Fb 32 1 fun hl32 => ?_
 refine Fb 8 4 fun hl33 => ?_
 refine Fo 4 fun ho34 => ?_
 refine Fb 24 5 fun hl35 => ?_
 refine Fb 88 6 fun hl36 => ?_
 refine Fb 32 7 fun hl37 => ?_
 refine KS ?_
 refine Oq Vm (Oq Vm (Oq (Vlen sl25) (Oq Vlss (KS ?_))))
 refine Kc ?_ ?_
 · intro h38
   have g39 := of_decide_eq_true h38
   obtain ⟨r40, rfl⟩ := scc (n := r17) (by omega)
   refine KS ?_
   refine Oq Vm ?_
   refine letv (Tape_Next kT ti_18 3) fun rv41 hg42 => ?_
   have hc43 := fn19 kP ka kk kT ti_18 3 pre pre rv41 hg42
   refine Oc [3, 3] ca19 hc43 ?_
   rintro - ⟨he44, he45, he46⟩
   unfold i64ok at he44
   refine Oq Vneq (KS ?_)
   refine Kc ?_ ?_
   · intro h47
     have g48 := ne_of_bne h47
     refine Ke ?_
     refine KS ?_
     refine Oq Vm (Oq Vadd (Oq Va (KS ?_)))
     exact Kg (r40, rv41.2, out_19, (i_20 + 1), a21, k22) [1, 1, 2, 0, 2, 3, 4, 5] ⟨(q3 hM23 (by simp only [flqlaw14_known_L0, h38, h47, hg9, hg42, cs4])), (by omega), (by omega), (by omega), (by omega), (by omega), (by omega), iv1⟩
   intro h47
   have g49 := eq_of_bne_false h47
   refine KS ?_
   refine Oq Vm (Oq Vm (Oq Vm (Oq (Vi sl25 2) ?_)))
   refine JJ_peek_GSet i_20.toNat 2 rfl rng fun a50 k51 hb52 => ?_
   unfold i64ok at hb52
   refine Fb 8 1 fun hl53 => ?_
   refine Oq (VldA sh42 0) (Oq (Vbd st67 [vi i_20, vi ((rv8.1.getD i_20.toNat default).Width), vl a50 k51 ((rv8.1.getD i_20.toNat default).Words)]) (Oa (Al ze67 [vi 0, vi 0, .slice none 0 0]) fun p54 => Ost (Scl [0] sh67 [vi i_20, vi ((rv8.1.getD i_20.toNat default).Width), vl a50 k51 ((rv8.1.getD i_20.toNat default).Words)]) (KS ?_)))
   refine Oq Vm (Oq Vm ?_)
   refine Js 35 ?_ ?_
   · intro h55
     refine Oq Vm ?_
     refine letv (Tape_Next kT rv41.2 5) fun rv57 hg58 => ?_
     have hc59 := fn19 kP ka kk kT rv41.2 5 pre pre rv57 hg58
     refine Oc [3, 6] ca19 hc59 ?_
     rintro - ⟨he60, he61, he62⟩
     unfold i64ok at he60
     refine Oq Veql (Oq Vpt (KS ?_))
     refine Kc ?_ ?_
     · intro h63
       have g64 := eq_of_beq h63
       refine Jp 1 fun hp65 => ?_
       refine JK_drawK [0, 0, 2, 0, 8, 30, 63, 127, 255] fmix ?_
       refine Dv [] Vm (Dv [7] (Vfa fo27_0 0) (Dv [7] (VldF sh3 0) (Dv [] Vm ?_)))
       refine letv (Tape_Next kT rv57.2 2) fun rv66 hg67 => ?_
       refine Dx [1, 8] [1] [2, 0, 1] (fun G => vi rv66.1) [fun G => SP.fact (i64ok rv66.1 ∧ (0 ≤ rv66.2 ∧ rv66.2 ≤ (kT.length : Int)) ∧ (0 ≤ rv66.1 ∧ (rv66.1 < 2 ∨ rv66.1 = 0))), fun G => Cl kP [vl ka kk kT, vi rv66.2]] (fun G => xC [0, 0] ca19 (fn19 kP ka kk kT rv57.2 2 pre pre rv66 hg67)) ?_
       refine Dx [12] [] [0] (fun G => vi (s.Width + rv66.1)) [] (fun G => by refine xf 0 rfl ?_; rintro ⟨he68, he69, he70⟩; unfold i64ok at he68; exact xV (Vadd)) ?_
       refine letv (Tape_Set kT rv66.2 (s.Width + rv66.1)) fun rv72 hg73 => ?_
       refine Dx [8, 12, 13] [13] [3, 4, 0, 1, 1] (fun G => .agg #[vi rv72.1.Width, (G.g 6 0)]) [fun G => SP.fact (i64ok rv72.1.Width ∧ (0 ≤ rv72.2 ∧ rv72.2 ≤ (kT.length : Int)) ∧ (rv72.1.Width = (s.Width + rv66.1)) ∧ (rv72.1.Words.length = ((((s.Width + rv66.1) : Int) + 63) / 64).toNat)), fun G => os (G.g 6 0) rv72.1.Words, fun G => Cl kP [vl ka kk kT, vi rv72.2]] (fun G => by refine xf 1 rfl ?_; rintro ⟨he74, he75, he76⟩; unfold i64ok at he74; exact xC [2, 0] ca23 (fn23 kP ka kk kT rv66.2 ((s.Width + rv66.1)) pre pre pre rv72 hg73)) (Dv [0] (Vfa fo67_1 0) (Dx0 [2, 15] [2] [1, 0] [fun G => Cl p54 [vi i_20, vi rv72.1.Width, (G.g 6 0)]] (fun G => x1 1 rfl os_one fun ho77 => (xS (SclF [0] sh42 [vi i_20, vi rv72.1.Width, (G.g 6 0)] (v := .agg #[vi rv72.1.Width, (G.g 6 0)]) (h1 := show [vi rv72.1.Width, (G.g 6 0)].all (·.oneCell') = true from (by simp only [List.all_cons, List.all_nil, ho77, Bool.and_true, Bool.true_and] <;> rfl))))) ?_))
       refine Dn ⟨by kernel_rfl, fun G => ?_⟩
       refine Jw2 [(0, kP), (2, vb wrong), (4, p6), (7, vl a14 k15 rv8.1), (10, vl a21 k22 out_19), (11, vi i_20), (12, p54)] [0, 3, 4, 5, 6, 7, 8, 9, 10, 11] [SP.fact (i64ok rv66.1 ∧ (0 ≤ rv66.2 ∧ rv66.2 ≤ (kT.length : Int)) ∧ (0 ≤ rv66.1 ∧ (rv66.1 < 2 ∨ rv66.1 = 0))), SP.fact (i64ok rv72.1.Width ∧ (0 ≤ rv72.2 ∧ rv72.2 ≤ (kT.length : Int)) ∧ (rv72.1.Width = (s.Width + rv66.1)) ∧ (rv72.1.Words.length = ((((s.Width + rv66.1) : Int) + 63) / 64).toNat)), os (G.g 6 0) rv72.1.Words, Cl kP [vl ka kk kT, vi rv72.2], Cl p54 [vi i_20, vi rv72.1.Width, (G.g 6 0)]] ?_
       generalize G.g 6 0 = c71
       refine Jf 10 rfl ?_; rintro ⟨he78, he79, he80⟩
       unfold i64ok at he78
       refine Jf 11 rfl ?_; rintro ⟨he81, he82, he83, he84⟩
       unfold i64ok at he81
       refine Jk [1, 2, 3, 3, 4, 5, 6, 7, 8, 11, 11, 11] ?_
       refine Jo 9 ?_; rintro a85 k86 rfl
       refine Fb 8 9 fun hl87 => ?_
       refine KS ?_
       refine Oq Vm (Oq Vm ?_)
       refine Js 49 ?_ ?_
       · intro h88
         refine Oq Vm ?_
         refine letv (Tape_Next kT rv72.2 9) fun rv90 hg91 => ?_
         have hc92 := fn19 kP ka kk kT rv72.2 9 pre pre rv90 hg91
         refine Oc [10, 5] ca19 hc92 ?_
         rintro - ⟨he93, he94, he95⟩
         unfold i64ok at he93
         refine Oq Veql (Oq Vpt (KS ?_))
         refine Kc ?_ ?_
         · intro h96
           have g97 := eq_of_beq h96
           refine KS ?_
           refine Oq Vm (Oq Vm (Oq (Vlen sl25) (Oq Vadd ?_)))
           refine letv (Tape_Next kT rv90.2 ((rv8.1.length : Int) + 2)) fun rv98 hg99 => ?_
           have hc100 := fn19 kP ka kk kT rv90.2 (((rv8.1.length : Int) + 2)) pre pre rv98 hg99
           refine Oc [0, 5] ca19 hc100 ?_
           rintro - ⟨he101, he102, he103⟩
           unfold i64ok at he101
           refine Oq Vsub (Oq (Vfa fo67_0 11) (Ost (SclF [11] sh3 [vi (rv98.1 - 1), vi rv72.1.Width, vl a85 k86 rv72.1.Words]) (KS ?_)))
           refine Oq Vm (Oq (VldA sh67 0) (Oa (AsV sl53 sz53 [.agg #[vi (rv98.1 - 1), vi rv72.1.Width, vl a85 k86 rv72.1.Words]] [vi (rv98.1 - 1), vi rv72.1.Width, vl a85 k86 rv72.1.Words]) fun c104 => ?_))
           refine Jo 0 ?_; rintro a105 k106 rfl
           refine Jl [12] (Ent.freeze _ _) ?_
           refine Jl [1, 0] (Ent.cr1 (α := GKnown) (A := [S a85 k86 rv72.1.Words]) _ (GKnown.mk (rv98.1 - 1) rv72.1) _ (Nat.le_of_ble_eq_true rfl) (fun h => ⟨_, rfl, (by unfold i64ok; first | omega | (dsimp only; omega)), (by unfold i64ok; first | omega | (dsimp only; omega)), sepAll_get (i := 0) rfl h⟩)) ?_
           refine Oa (ApO [7, 0] sl53 sl53 sz53) fun c107 => ?_
           refine Jo 0 ?_; rintro a108 k109 rfl
           refine Fb 40 0 fun hl110 => ?_
           have hn111 := la out_19 ([(GKnown.mk (rv98.1 - 1) rv72.1)] : List GKnown)
           refine Oq Va (KS ?_)
           refine Oq Vm (Oq Vadd (Oq Va (KS ?_)))
           exact Kg (r40, rv98.2, (out_19 ++ [(GKnown.mk (rv98.1 - 1) rv72.1)]), (i_20 + 1), a108, k109) [0, 6, 7, 3, 7, 8, 9, 10] ⟨(q3 hM23 (by simp only [flqlaw14_known_L0, h38, h47, h55, h63, h88, h96, hg9, hg42, hg58, hg67, hg73, hg91, hg99, cs4])), (by omega), (by omega), (by omega), (by omega), (by omega), (by omega), iv1⟩
         intro h96
         have g112 := ne_of_beq_false h96
         refine KS ?_
         refine Oq Vm (Oq (VldA sh67 11) (Oa (AsV sl53 sz53 [.agg #[vi i_20, vi rv72.1.Width, vl a85 k86 rv72.1.Words]] [vi i_20, vi rv72.1.Width, vl a85 k86 rv72.1.Words]) fun c113 => ?_))
         refine Jo 0 ?_; rintro a114 k115 rfl
         refine Jl [11] (Ent.freeze _ _) ?_
         refine Jl [1, 0] (Ent.cr1 (α := GKnown) (A := [S a85 k86 rv72.1.Words]) _ (GKnown.mk i_20 rv72.1) _ (Nat.le_of_ble_eq_true rfl) (fun h => ⟨_, rfl, (by unfold i64ok; first | omega | (dsimp only; omega)), (by unfold i64ok; first | omega | (dsimp only; omega)), sepAll_get (i := 0) rfl h⟩)) ?_
         refine Oa (ApO [6, 0] sl53 sl53 sz53) fun c116 => ?_
         refine Jo 0 ?_; rintro a117 k118 rfl
         refine Fb 40 0 fun hl119 => ?_
         have hn120 := la out_19 ([(GKnown.mk i_20 rv72.1)] : List GKnown)
         refine Oq Va (KS ?_)
         refine Oq Vm (Oq Vadd (Oq Va (KS ?_)))
         exact Kg (r40, rv90.2, (out_19 ++ [(GKnown.mk i_20 rv72.1)]), (i_20 + 1), a117, k118) [0, 5, 6, 2, 6, 7, 8, 9] ⟨(q3 hM23 (by simp only [flqlaw14_known_L0, h38, h47, h55, h63, h88, h96, hg9, hg42, hg58, hg67, hg73, hg91, cs4])), (by omega), (by omega), (by omega), (by omega), (by omega), (by omega), iv1⟩
       intro h88
       exact absurd h88 (by simp [h55])
     intro h63
     have g121 := ne_of_beq_false h63
     refine KS ?_
     refine Oq Vm (Oq Vm ?_)
     refine Js 49 ?_ ?_
     · intro h122
       refine Oq Vm ?_
       refine letv (Tape_Next kT rv57.2 9) fun rv124 hg125 => ?_
       have hc126 := fn19 kP ka kk kT rv57.2 9 pre pre rv124 hg125
       refine Oc [0, 6] ca19 hc126 ?_
       rintro - ⟨he127, he128, he129⟩
       unfold i64ok at he127
       refine Oq Veql (Oq Vpt (KS ?_))
       refine Kc ?_ ?_
       · intro h130
         have g131 := eq_of_beq h130
         refine KS ?_
         refine Oq Vm (Oq Vm (Oq (Vlen sl25) (Oq Vadd ?_)))
         refine letv (Tape_Next kT rv124.2 ((rv8.1.length : Int) + 2)) fun rv132 hg133 => ?_
         have hc134 := fn19 kP ka kk kT rv124.2 (((rv8.1.length : Int) + 2)) pre pre rv132 hg133
         refine Oc [0, 6] ca19 hc134 ?_
         rintro - ⟨he135, he136, he137⟩
         unfold i64ok at he135
         refine Oq Vsub (Oq (Vfa fo67_0 1) (Ost (SclF [1] sh3 [vi (rv132.1 - 1), vi ((rv8.1.getD i_20.toNat default).Width), vl a50 k51 ((rv8.1.getD i_20.toNat default).Words)]) (KS ?_)))
         refine Oq Vm (Oq (VldA sh67 0) (Oa (AsV sl53 sz53 [.agg #[vi (rv132.1 - 1), vi ((rv8.1.getD i_20.toNat default).Width), vl a50 k51 ((rv8.1.getD i_20.toNat default).Words)]] [vi (rv132.1 - 1), vi ((rv8.1.getD i_20.toNat default).Width), vl a50 k51 ((rv8.1.getD i_20.toNat default).Words)]) fun c138 => ?_))
         refine Jo 0 ?_; rintro a139 k140 rfl
         refine Jl [0, 3] (Ent.cr1 (α := GKnown) (A := [S a50 k51 ((rv8.1.getD i_20.toNat default).Words)]) _ (GKnown.mk (rv132.1 - 1) (rv8.1.getD i_20.toNat default)) _ (Nat.le_of_ble_eq_true rfl) (fun h => ⟨_, rfl, (by unfold i64ok; first | omega | (dsimp only; omega)), (by unfold i64ok; first | omega | (dsimp only; omega)), sepAll_get (i := 0) rfl h⟩)) ?_
         refine Oa (ApO [6, 0] sl53 sl53 sz53) fun c141 => ?_
         refine Jo 0 ?_; rintro a142 k143 rfl
         refine Fb 40 0 fun hl144 => ?_
         have hn145 := la out_19 ([(GKnown.mk (rv132.1 - 1) (rv8.1.getD i_20.toNat default))] : List GKnown)
         refine Oq Va (KS ?_)
         refine Oq Vm (Oq Vadd (Oq Va (KS ?_)))
         exact Kg (r40, rv132.2, (out_19 ++ [(GKnown.mk (rv132.1 - 1) (rv8.1.getD i_20.toNat default))]), (i_20 + 1), a142, k143) [0, 5, 6, 2, 6, 7, 8, 9] ⟨(q3 hM23 (by simp only [flqlaw14_known_L0, h38, h47, h55, h63, h122, h130, hg9, hg42, hg58, hg125, hg133, cs4])), (by omega), (by omega), (by omega), (by omega), (by omega), (by omega), iv1⟩
       intro h130
       have g146 := ne_of_beq_false h130
       refine KS ?_
       refine Oq Vm (Oq (VldA sh67 1) (Oa (AsV sl53 sz53 [.agg #[vi i_20, vi ((rv8.1.getD i_20.toNat default).Width), vl a50 k51 ((rv8.1.getD i_20.toNat default).Words)]] [vi i_20, vi ((rv8.1.getD i_20.toNat default).Width), vl a50 k51 ((rv8.1.getD i_20.toNat default).Words)]) fun c147 => ?_))
       refine Jo 0 ?_; rintro a148 k149 rfl
       refine Jl [0, 3] (Ent.cr1 (α := GKnown) (A := [S a50 k51 ((rv8.1.getD i_20.toNat default).Words)]) _ (GKnown.mk i_20 (rv8.1.getD i_20.toNat default)) _ (Nat.le_of_ble_eq_true rfl) (fun h => ⟨_, rfl, (by unfold i64ok; first | omega | (dsimp only; omega)), (by unfold i64ok; first | omega | (dsimp only; omega)), sepAll_get (i := 0) rfl h⟩)) ?_
       refine Oa (ApO [6, 0] sl53 sl53 sz53) fun c150 => ?_
       refine Jo 0 ?_; rintro a151 k152 rfl
       refine Fb 40 0 fun hl153 => ?_
       have hn154 := la out_19 ([(GKnown.mk i_20 (rv8.1.getD i_20.toNat default))] : List GKnown)
       refine Oq Va (KS ?_)
       refine Oq Vm (Oq Vadd (Oq Va (KS ?_)))
       exact Kg (r40, rv124.2, (out_19 ++ [(GKnown.mk i_20 (rv8.1.getD i_20.toNat default))]), (i_20 + 1), a151, k152) [0, 5, 6, 1, 6, 7, 8, 9] ⟨(q3 hM23 (by simp only [flqlaw14_known_L0, h38, h47, h55, h63, h122, h130, hg9, hg42, hg58, hg125, cs4])), (by omega), (by omega), (by omega), (by omega), (by omega), (by omega), iv1⟩
     intro h122
     exact absurd h122 (by simp [h55])
   intro h55
   refine Osk (Osk (Osk (Oq Vpf (KS ?_))))
   refine Kf ?_
   refine KS ?_
   refine Oq Vm (Oq Vm ?_)
   refine Js 49 ?_ ?_
   · intro h156
     exact absurd h156 (by simp [h55])
   intro h156
   refine Osk (Osk (Osk (Oq Vpf (KS ?_))))
   refine Kf ?_
   refine KS ?_
   refine Oq Vm (Oq (VldA sh67 0) (Oa (AsV sl53 sz53 [.agg #[vi i_20, vi ((rv8.1.getD i_20.toNat default).Width), vl a50 k51 ((rv8.1.getD i_20.toNat default).Words)]] [vi i_20, vi ((rv8.1.getD i_20.toNat default).Width), vl a50 k51 ((rv8.1.getD i_20.toNat default).Words)]) fun c158 => ?_))
   refine Jo 0 ?_; rintro a159 k160 rfl
   refine Jl [0, 2] (Ent.cr1 (α := GKnown) (A := [S a50 k51 ((rv8.1.getD i_20.toNat default).Words)]) _ (GKnown.mk i_20 (rv8.1.getD i_20.toNat default)) _ (Nat.le_of_ble_eq_true rfl) (fun h => ⟨_, rfl, (by unfold i64ok; first | omega | (dsimp only; omega)), (by unfold i64ok; first | omega | (dsimp only; omega)), sepAll_get (i := 0) rfl h⟩)) ?_
   refine Oa (ApO [6, 0] sl53 sl53 sz53) fun c161 => ?_
   refine Jo 0 ?_; rintro a162 k163 rfl
   refine Fb 40 0 fun hl164 => ?_
   have hn165 := la out_19 ([(GKnown.mk i_20 (rv8.1.getD i_20.toNat default))] : List GKnown)
   refine Oq Va (KS ?_)
   refine Oq Vm (Oq Vadd (Oq Va (KS ?_)))
   exact Kg (r40, rv41.2, (out_19 ++ [(GKnown.mk i_20 (rv8.1.getD i_20.toNat default))]), (i_20 + 1), a162, k163) [0, 5, 6, 4, 6, 7, 8, 9] ⟨(q3 hM23 (by simp only [flqlaw14_known_L0, h38, h47, h55, h156, hg9, hg42, cs4])), (by omega), (by omega), (by omega), (by omega), (by omega), (by omega), iv1⟩
 intro h38
 have g166 := of_decide_eq_false h38
 obtain rfl : r17 = 0 := by omega
 refine Ke ?_
 have hR167 := q2 hM23 (ti_18, out_19) (by simp only [flqlaw14_known_L0, h38, hg9, cs4])
 refine KS ?_
 refine Oq Vm (Oq Va (KS ?_))
 refine Jl [0] (Ent.freeze _ _) ?_
 have hq := q4 hrr (out_19, ti_18) (by simp only [flqlaw14_known, h38, hg9, hR167, cs4]); subst hq
 exact Kr (vl a21 k22 out_19) rfl (.tmp rfl .nil) [0, 3] en
theorem fn211 (s : List Int) (sa0 : Option Addr) (sk0 : Nat) (fF : FuncId) (fC : List Value) (fp : Int → Bool) (fA : List SP) (hfc : callable Tryz.prog fF = true) (hfF : ∀ x ∈ s, i64ok x → FT Tryz.prog fF ([(vi x : Value)] ++ fC).toArray ([] ++ [pAll fA]) (fun _ : Unit => True) (fun _ => .bool (fp x)) (fun _ => [])) (rr : Int) (hrr : slices_IndexFunc_int s fp = rr) : FT Tryz.prog 211 #[vl sa0 sk0 s, .func (.func fF) #[] fC.toArray] [S sa0 sk0 s, pAll fA] (fun g : Unit => i64ok rr) (fun g => vi rr) (fun g => []) := by
 refine FTi Tryz.func211 fun w0 M0 F0 => ?_
 refine Fb 8 0 fun hl1 => ?_
 refine Fo 0 fun ho2 => ?_
 refine KS ?_
 refine Oq Va (KS ?_)
 refine Oq Vm (Oq (Vlen sl22) (Oq Vm (KS ?_)))
 refine Kl (γ := Nat × Int) (fun (r3, v8_4) => ⟨[(0, vl sa0 sk0 s), (1, .func (.func fF) #[] fC.toArray), (7, vi (s.length : Int)), (8, vi v8_4)], [S sa0 sk0 s, pAll fA], slices_IndexFunc_int_L0 s fp r3 v8_4 = slices_IndexFunc_int_L0 s fp (((s.length : Int) - 0).toNat) 0 ∧ r3 = ((s.length : Int) - v8_4).toNat ∧ (0 : Int) ≤ v8_4 ∧ v8_4 ≤ (s.length : Int) ∧ (-9223372036854775808 ≤ v8_4 ∧ v8_4 ≤ 9223372036854775807), r3⟩) (((s.length : Int) - 0).toNat, 0) [0, 1] ⟨rfl, rfl, (by omega), (by omega), (by omega)⟩ ?_
 rintro ⟨r3, v8_4⟩ ⟨hM5, hr6, hi7, hi8, hk9⟩
 refine JJ_nx fun _ _ hL hA => ?_; dsimp only at hL hA; subst hL hA
 refine Fb 8 0 fun hl10 => ?_
 refine Fo 0 fun ho11 => ?_
 refine KS ?_
 refine Oq Vlss (KS ?_)
 refine Kc ?_ ?_
 · intro h12
   have g13 := of_decide_eq_true h12
   obtain ⟨r14, rfl⟩ := scc (n := r3) (by omega)
   refine KS ?_
   refine Oq Vm (Oq Va (KS ?_))
   refine Oq Vm (Oq Vm (Oq Vm (Oq (Vi sl22 0) ?_)))
   have hb15 := ok1 (i := v8_4.toNat) ho11 rng
   refine Oq (VldI sh3 0) ?_
   refine JO_call [1] rfl rfl rfl (OpC.clo («as» := [(vi (s.getD v8_4.toNat 0) : Value)] ++ fC) rfl rfl hfc rfl (by simp)) (hfF (s.getD v8_4.toNat 0) (getD_mem rng)  (by unfold i64ok; omega)) rfl fun _ _ => ?_
   refine KS ?_
   refine Kc ?_ ?_
   · intro h16
     refine KS ?_
     refine Oq Vm (Oq Va (KS ?_))
     have hR18 := q2 hM5 (.ret v8_4) (by simp only [slices_IndexFunc_int_L0, h12, h16, cs4])
     have hq := q4 hrr v8_4 (by simp only [slices_IndexFunc_int, h12, h16, hR18, cs4]); subst hq
     exact Kr () rfl (.tmp rfl .nil) [] en
   intro h16
   refine KS ?_
   refine Oq Vadd (Oq Vm (KS ?_))
   exact Kg (r14, (v8_4 + 1)) [0, 1] ⟨(q3 hM5 (by simp only [slices_IndexFunc_int_L0, h12, h16, cs4])), (by omega), (by omega), (by omega), (by omega)⟩
 intro h12
 have g20 := of_decide_eq_false h12
 obtain rfl : r3 = 0 := by omega
 refine Ke ?_
 have hR21 := q2 hM5 (.brk ()) (by simp only [slices_IndexFunc_int_L0, h12, cs4])
 refine KS ?_
 refine Oq Va (KS ?_)
 have hq := q4 hrr (-1) (by simp only [slices_IndexFunc_int, h12, hR21, cs4]); subst hq
 exact Kr () rfl (.tmp rfl .nil) [] en
theorem fn154 (s : List Int) (sa0 : Option Addr) (sk0 : Nat) (fF : FuncId) (fC : List Value) (fp : Int → Bool) (fA : List SP) (hfc : callable Tryz.prog fF = true) (hfF : ∀ x ∈ s, i64ok x → FT Tryz.prog fF ([(vi x : Value)] ++ fC).toArray ([] ++ [pAll fA]) (fun _ : Unit => True) (fun _ => .bool (fp x)) (fun _ => [])) (rr : Bool) (hrr : slices_ContainsFunc_int s fp = rr) : FT Tryz.prog 154 #[vl sa0 sk0 s, .func (.func fF) #[] fC.toArray] [S sa0 sk0 s, pAll fA] (fun g : Unit => True) (fun g => vb rr) (fun g => []) := by
 refine FTi Tryz.func154 fun w0 M0 F0 => ?_
 refine Fb 8 0 fun hl1 => ?_
 refine Fo 0 fun ho2 => ?_
 refine KS ?_
 refine Oq Va (KS ?_)
 refine Oq Vm (Oq Vm ?_)
 refine letv (slices_IndexFunc_int s fp) fun rv3 hg4 => ?_
 have hc5 := fn211 s sa0 sk0 fF fC fp fA hfc hfF rv3 hg4
 refine Oc [0, 1] ca211 hc5 ?_
 rintro - he6
 unfold i64ok at he6
 refine Oq Vgeq (Oq Va (KS ?_))
 have hq := q4 hrr (decide (0 ≤ rv3)) (by simp only [slices_ContainsFunc_int, hg4, cs4]); subst hq
 exact Kr () rfl (.tmp rfl .nil) [] trivial
theorem fn198 (n : Int) (cap0P : Value) (cap0 : GSystem) (cap0a1 : Option Addr) (cap0k1 : Nat) (cap0a2 : Option Addr) (cap0k2 : Nat) (cap0a3 : Option Addr) (cap0k3 : Nat) (hn_0 : i64ok n) (hcap0_0 : i64ok cap0.Width) (rr : Bool) (hrr : cone_unknowns_1 n cap0 = rr) : FT Tryz.prog 198 #[vi n, cap0P] [pv cap0P [vi cap0.Width, vl cap0a1 cap0k1 cap0.Deps, vl cap0a2 cap0k2 cap0.Transfers, vl cap0a3 cap0k3 cap0.Boundary], S cap0a1 cap0k1 cap0.Deps, S cap0a2 cap0k2 cap0.Transfers, S cap0a3 cap0k3 cap0.Boundary] (fun g : Unit => True) (fun g => vb rr) (fun g => []) := by
 refine FTi Tryz.func198 fun w0 M0 F0 => ?_
 unfold i64ok at hn_0 hcap0_0
 refine Fb 24 1 fun hl1 => ?_
 refine Fb 88 2 fun hl2 => ?_
 refine Fb 32 3 fun hl3 => ?_
 refine KS ?_
 refine Oq Va (KS ?_)
 refine Oq Vm (Oq Vlss (Oq Vm ?_))
 refine Js 6 ?_ ?_
 · intro h4
   have g5 := of_decide_eq_true h4
   refine Osk (Osk (Osk (Osk (Osk (Oq Vpt (Oq Va (KS ?_)))))))
   have hq := q4 hrr true (by simp only [cone_unknowns_1, h4, cs4]); subst hq
   exact Kr () rfl (.tmp rfl .nil) [] trivial
 intro h4
 have g6 := of_decide_eq_false h4
 refine Oq Vm (Oq (Vfa fo27_1 0) (Oq (VldF sh23 0) (Oq (Vlen sl23) (Oq Vgeq (Oq Vpf (Oq Va (KS ?_)))))))
 have hq := q4 hrr (decide ((cap0.Deps.length : Int) ≤ n)) (by simp only [cone_unknowns_1, h4, cs4]); subst hq
 exact Kr () rfl (.tmp rfl .nil) [] trivial
theorem fn118 (s : GSystem) (sa1 : Option Addr) (sk1 : Nat) (sa2 : Option Addr) (sk2 : Nat) (sa3 : Option Addr) (sk3 : Nat) (l : List Int) (la0 : Option Addr) (lk0 : Nat) (hs_0 : i64ok s.Width) (rr : Bool) (hrr : cone_unknowns s l = rr) : FT Tryz.prog 118 #[.agg #[vi s.Width, vl sa1 sk1 s.Deps, vl sa2 sk2 s.Transfers, vl sa3 sk3 s.Boundary], vl la0 lk0 l] [S sa1 sk1 s.Deps, S sa2 sk2 s.Transfers, S sa3 sk3 s.Boundary, S la0 lk0 l] (fun g : Unit => True) (fun g => vb rr) (fun g => []) := by
 refine FTi Tryz.func118 fun w0 M0 F0 => ?_
 unfold i64ok at hs_0
 refine Fb 24 0 fun hl1 => ?_
 refine Fb 88 1 fun hl2 => ?_
 refine Fb 32 2 fun hl3 => ?_
 refine Fb 8 3 fun hl4 => ?_
 refine Fo 3 fun ho5 => ?_
 refine KS ?_
 refine Oa (Ab [vi s.Width, vl sa1 sk1 s.Deps, vl sa2 sk2 s.Transfers, vl sa3 sk3 s.Boundary]) fun p6 => Oq Va (KS ?_)
 refine Oq Vm (Oq (Vf [p6]) ?_)
 refine JJ_ent (Ent.pall [0, 1, 2, 3] rfl rfl) ?_
 refine letv (slices_ContainsFunc_int l (fun x => cone_unknowns_1 x s)) fun rv7 hg8 => ?_
 have hc9 := fn154 l la0 lk0 198 [p6] (fun x => cone_unknowns_1 x s) [pv p6 [vi s.Width, vl sa1 sk1 s.Deps, vl sa2 sk2 s.Transfers, vl sa3 sk3 s.Boundary], S sa1 sk1 s.Deps, S sa2 sk2 s.Transfers, S sa3 sk3 s.Boundary] ca198 (fun x hx hq0 => FT_pall (A1 := _) (fn198 x  p6 s sa1 sk1 sa2 sk2 sa3 sk3 hq0 pre _ rfl)) rv7 hg8
 refine Oc [5, 0] ca154 hc9 ?_
 rintro - -
 refine Oq Vnot (Oq Va (KS ?_))
 have hq := q4 hrr (!rv7) (by simp only [cone_unknowns, hg8, cs4]); subst hq
 exact Kr () rfl (.tmp rfl .nil) [] trivial
theorem fn127 (s : List GKnown) (sa0 : Option Addr) (sk0 : Nat) (fF : FuncId) (fC : List Value) (fp : GKnown → Bool) (fA : List SP) (hfc : callable Tryz.prog fF = true) (hfF : ∀ x ∈ s, ∀ (a2 : Option Addr) (k2 : Nat), i64ok x.Node → i64ok x.Value.Width → FT Tryz.prog fF ([(.agg #[vi x.Node, vi x.Value.Width, vl a2 k2 x.Value.Words] : Value)] ++ fC).toArray ([S a2 k2 x.Value.Words] ++ [pAll fA]) (fun _ : Unit => True) (fun _ => .bool (fp x)) (fun _ => [])) (rr : Int) (hrr : slices_IndexFunc_Known s fp = rr) : FT Tryz.prog 127 #[vl sa0 sk0 s, .func (.func fF) #[] fC.toArray] [S sa0 sk0 s, pAll fA] (fun g : Unit => i64ok rr ∧ (-1 ≤ rr ∧ rr < (s.length : Int))) (fun g => vi rr) (fun g => []) := by
 refine FTi Tryz.func127 fun w0 M0 F0 => ?_
 refine Fb 40 0 fun hl1 => ?_
 refine KS ?_
 refine Oq Va (KS ?_)
 refine Oq Vm (Oq (Vlen sl53) (Oq Vm (KS ?_)))
 refine Kl (γ := Nat × Int) (fun (r2, v8_3) => ⟨[(0, vl sa0 sk0 s), (1, .func (.func fF) #[] fC.toArray), (7, vi (s.length : Int)), (8, vi v8_3)], [S sa0 sk0 s, pAll fA], slices_IndexFunc_Known_L0 s fp r2 v8_3 = slices_IndexFunc_Known_L0 s fp (((s.length : Int) - 0).toNat) 0 ∧ r2 = ((s.length : Int) - v8_3).toNat ∧ (0 : Int) ≤ v8_3 ∧ v8_3 ≤ (s.length : Int) ∧ (-9223372036854775808 ≤ v8_3 ∧ v8_3 ≤ 9223372036854775807), r2⟩) (((s.length : Int) - 0).toNat, 0) [0, 1] ⟨rfl, rfl, (by omega), (by omega), (by omega)⟩ ?_
 rintro ⟨r2, v8_3⟩ ⟨hM4, hr5, hi6, hi7, hk8⟩
 refine JJ_nx fun _ _ hL hA => ?_; dsimp only at hL hA; subst hL hA
 refine Fb 40 0 fun hl9 => ?_
 refine KS ?_
 refine Oq Vlss (KS ?_)
 refine Kc ?_ ?_
 · intro h10
   have g11 := of_decide_eq_true h10
   obtain ⟨r12, rfl⟩ := scc (n := r2) (by omega)
   refine KS ?_
   refine Oq Vm (Oq Va (KS ?_))
   refine Oq Vm (Oq Vm (Oq Vm (Oq (Vi sl53 0) ?_)))
   refine JJ_peek_GKnown v8_3.toNat 0 rfl rng fun a13 k14 hb15 hb16 => ?_
   unfold i64ok at hb15 hb16
   refine Fb 8 1 fun hl17 => ?_
   refine Oq (VldA sh67 0) ?_
   refine JO_call [1, 3] rfl rfl rfl (OpC.clo («as» := [(.agg #[vi ((s.getD v8_3.toNat default).Node), vi (((s.getD v8_3.toNat default).Value).Width), vl a13 k14 (((s.getD v8_3.toNat default).Value).Words)] : Value)] ++ fC) rfl rfl hfc rfl (by simp)) (hfF (s.getD v8_3.toNat default) (getD_mem rng) a13 k14 (by unfold i64ok; omega) (by unfold i64ok; omega)) rfl fun _ _ => ?_
   refine KS ?_
   refine Kc ?_ ?_
   · intro h18
     refine KS ?_
     refine Oq Vm (Oq Va (KS ?_))
     have hR20 := q2 hM4 (.ret v8_3) (by simp only [slices_IndexFunc_Known_L0, h10, h18, cs4])
     have hq := q4 hrr v8_3 (by simp only [slices_IndexFunc_Known, h10, h18, hR20, cs4]); subst hq
     exact Kr () rfl (.tmp rfl .nil) [] en
   intro h18
   refine KS ?_
   refine Oq Vadd (Oq Vm (KS ?_))
   exact Kg (r12, (v8_3 + 1)) [2, 3] ⟨(q3 hM4 (by simp only [slices_IndexFunc_Known_L0, h10, h18, cs4])), (by omega), (by omega), (by omega), (by omega)⟩
 intro h10
 have g22 := of_decide_eq_false h10
 obtain rfl : r2 = 0 := by omega
 refine Ke ?_
 have hR23 := q2 hM4 (.brk ()) (by simp only [slices_IndexFunc_Known_L0, h10, cs4])
 refine KS ?_
 refine Oq Va (KS ?_)
 have hq := q4 hrr (-1) (by simp only [slices_IndexFunc_Known, h10, hR23, cs4]); subst hq
 exact Kr () rfl (.tmp rfl .nil) [] en
theorem fn119 (s : List GKnown) (sa0 : Option Addr) (sk0 : Nat) (fF : FuncId) (fC : List Value) (fp : GKnown → Bool) (fA : List SP) (hfc : callable Tryz.prog fF = true) (hfF : ∀ x ∈ s, ∀ (a2 : Option Addr) (k2 : Nat), i64ok x.Node → i64ok x.Value.Width → FT Tryz.prog fF ([(.agg #[vi x.Node, vi x.Value.Width, vl a2 k2 x.Value.Words] : Value)] ++ fC).toArray ([S a2 k2 x.Value.Words] ++ [pAll fA]) (fun _ : Unit => True) (fun _ => .bool (fp x)) (fun _ => [])) (rr : Bool) (hrr : slices_ContainsFunc_Known s fp = rr) : FT Tryz.prog 119 #[vl sa0 sk0 s, .func (.func fF) #[] fC.toArray] [S sa0 sk0 s, pAll fA] (fun g : Unit => True) (fun g => vb rr) (fun g => []) := by
 refine FTi Tryz.func119 fun w0 M0 F0 => ?_
 refine Fb 40 0 fun hl1 => ?_
 refine KS ?_
 refine Oq Va (KS ?_)
 refine Oq Vm (Oq Vm ?_)
 refine letv (slices_IndexFunc_Known s fp) fun rv2 hg3 => ?_
 have hc4 := fn127 s sa0 sk0 fF fC fp fA hfc hfF rv2 hg3
 refine Oc [0, 1] ca127 hc4 ?_
 rintro - ⟨he5, he6⟩
 unfold i64ok at he5
 refine Oq Vgeq (Oq Va (KS ?_))
 have hq := q4 hrr (decide (0 ≤ rv2)) (by simp only [slices_ContainsFunc_Known, hg3, cs4]); subst hq
 exact Kr () rfl (.tmp rfl .nil) [] trivial
theorem fn120 (k : GKnown) (ka2 : Option Addr) (kk2 : Nat) (cap0P : Value) (cap0 : GSystem) (cap0a1 : Option Addr) (cap0k1 : Nat) (cap0a2 : Option Addr) (cap0k2 : Nat) (cap0a3 : Option Addr) (cap0k3 : Nat) (hk_0 : i64ok k.Node) (hk_1 : i64ok k.Value.Width) (hcap0_0 : i64ok cap0.Width) (rr : Bool) (hrr : cone_Restrict_1 k cap0 = rr) : FT Tryz.prog 120 #[.agg #[vi k.Node, vi k.Value.Width, vl ka2 kk2 k.Value.Words], cap0P] [S ka2 kk2 k.Value.Words, pv cap0P [vi cap0.Width, vl cap0a1 cap0k1 cap0.Deps, vl cap0a2 cap0k2 cap0.Transfers, vl cap0a3 cap0k3 cap0.Boundary], S cap0a1 cap0k1 cap0.Deps, S cap0a2 cap0k2 cap0.Transfers, S cap0a3 cap0k3 cap0.Boundary] (fun g : Unit => True) (fun g => vb rr) (fun g => []) := by
 refine FTi Tryz.func120 fun w0 M0 F0 => ?_
 unfold i64ok at hk_0 hk_1 hcap0_0
 refine Fb 8 0 fun hl1 => ?_
 refine Fb 24 2 fun hl2 => ?_
 refine Fb 88 3 fun hl3 => ?_
 refine Fb 32 4 fun hl4 => ?_
 refine KS ?_
 refine Oa (Ab [vi k.Node, vi k.Value.Width, vl ka2 kk2 k.Value.Words]) fun p5 => Oq Va (KS ?_)
 refine Oq (VldA sh27 2) (Oq (Vfa fo67_0 0) (Oq (VldF sh3 0) (Oa (AsV sl22 sz22 [vi k.Node] [vi k.Node]) fun c6 => ?_)))
 refine Jo 0 ?_; rintro a7 k8 rfl
 refine Jl [0] (Ent.crInt _ [k.Node] _ _ rfl rfl (by intro x hx; rw [List.mem_singleton] at hx; subst hx; unfold i64ok; omega) (Nat.le_of_ble_eq_true rfl)) ?_
 refine letv (cone_unknowns cap0 [k.Node]) fun rv9 hg10 => ?_
 refine Oc [0, 3, 4, 5] ca118 (FT_borrow (A := _) (fun _ _ h => by cases h) (FT_ent (Ent.take (is := [1, 2, 3, 0]) rfl) (fn118 cap0 cap0a1 cap0k1 cap0a2 cap0k2 cap0a3 cap0k3 ([k.Node]) a7 k8 pre rv9 hg10))) ?_ (ht := rfl)
 rintro - -
 refine Oq Vnot (Oq Va (KS ?_))
 have hq := q4 hrr (!rv9) (by simp only [cone_Restrict_1, hg10, cs4]); subst hq
 exact Kr () rfl (.tmp rfl .nil) [] trivial
theorem fn252 (x : Int) (y : Int) (hx_0 : i64ok x) (hy_0 : i64ok y) (rr : Bool) (hrr : cmp_Less_int x y = rr) : FT Tryz.prog 252 #[vi x, vi y] [] (fun g : Unit => True) (fun g => vb rr) (fun g => []) := by
 refine FTi Tryz.func252 fun w0 M0 F0 => ?_
 unfold i64ok at hx_0 hy_0
 refine KS ?_
 refine Oq Va (KS ?_)
 refine Oq Vm ?_
 refine letv (cmp_isNaN_int x) fun rv1 hg2 => ?_
 have hc3 := fn208 x pre rv1 hg2
 refine Oc [] ca208 hc3 ?_
 rintro - -
 refine Oq Vm ?_
 refine Js 7 ?_ ?_
 · intro h4
   refine Oq Vm ?_
   refine letv (cmp_isNaN_int y) fun rv6 hg7 => ?_
   have hc8 := fn208 y pre rv6 hg7
   refine Oc [] ca208 hc8 ?_
   rintro - -
   refine Oq Vnot (Oq Vpt (Oq Vm ?_))
   refine Js 12 ?_ ?_
   · intro h9
     have h11 := not_true h9
     refine Osk (Osk (Osk (Oq Vpt (Oq Va (KS ?_)))))
     have hq := q4 hrr true (by simp only [cmp_Less_int, h4, h9, h11, hg2, hg7, cs4]); subst hq
     exact Kr () rfl (.tmp rfl .nil) [] trivial
   intro h9
   have h14 := not_false h9
   refine Oq Vm (Oq Vm (Oq Vlss (Oq Vpf (Oq Va (KS ?_)))))
   have hq := q4 hrr (decide (x < y)) (by simp only [cmp_Less_int, h4, h9, h14, hg2, hg7, cs4]); subst hq
   exact Kr () rfl (.tmp rfl .nil) [] trivial
 intro h4
 refine Osk (Osk (Osk (Oq Vpf (Oq Vm (Oq Vm (Oq Vm (Oq Vlss (Oq Vpf (Oq Va ?_)))))))))
 refine KS ?_
 have hq := q4 hrr (decide (x < y)) (by simp only [cmp_Less_int, h4, hg2, cs4]); subst hq
 exact Kr () rfl (.tmp rfl .nil) [] trivial
theorem fn246 (data : List Int) (dataa0 : Option Addr) (datak0 : Nat) (a : Int) (b : Int) (ha_0 : i64ok a) (hb_0 : i64ok b) (ha0 : 0 ≤ a ∧ a ≤ b ∧ b ≤ (data.length : Int)) (rr : List Int) (hrr : slices_insertionSortOrdered_int data a b = rr) : FT Tryz.prog 246 #[vl dataa0 datak0 data, vi a, vi b] [O dataa0 datak0 data] (fun g : Unit => True) (fun g => .tuple #[]) (fun g => [os (vl dataa0 datak0 data) rr]) := by
 refine FTi Tryz.func246 fun w0 M0 F0 => ?_
 unfold i64ok at ha_0 hb_0
 refine Fb 8 0 fun hl1 => ?_
 refine Fo 0 fun ho2 => ?_
 refine KS ?_
 refine Oq Vm (Oq Vadd (Oq Va (KS ?_)))
 refine Kl (γ := Nat × List Int × Int) (fun (r3, data_4, i_5) => ⟨[(0, vl dataa0 datak0 data), (1, vi a), (2, vi b), (6, vi i_5)], [os (vl dataa0 datak0 data) data_4], slices_insertionSortOrdered_int_L0 a r3 data_4 i_5 = slices_insertionSortOrdered_int_L0 a (((b : Int) - (a + 1)).toNat) data (a + 1) ∧ r3 = ((b : Int) - i_5).toNat ∧ ((a + 1) : Int) ≤ i_5 ∧ (i_5 ≤ b ∨ i_5 = (a + 1)) ∧ (-9223372036854775808 ≤ i_5 ∧ i_5 ≤ 9223372036854775807), r3⟩) (((b : Int) - (a + 1)).toNat, data, (a + 1)) [0] ⟨rfl, rfl, (by omega), (.inr rfl), (by omega)⟩ ?_
 rintro ⟨r3, data_4, i_5⟩ ⟨hM6, hr7, hi8, hi9, hk10⟩
 refine JJ_nx fun _ _ hL hA => ?_; dsimp only at hL hA; subst hL hA
 refine Fb 8 0 fun hl11 => ?_
 refine Fo 0 fun ho12 => ?_
 refine Fl 0 fun hn13 => ?_
 refine KS ?_
 refine Oq Vm (Oq Vm (Oq Vlss (KS ?_)))
 refine Kc ?_ ?_
 · intro h14
   have g15 := of_decide_eq_true h14
   obtain ⟨r16, rfl⟩ := scc (n := r3) (by omega)
   refine KS ?_
   refine Oq Vm (Oq Va (KS ?_))
   refine Kl (γ := Nat × List Int × Int) (fun (r17, data_18, j_19) => ⟨[(0, vl dataa0 datak0 data), (1, vi a), (2, vi b), (6, vi i_5), (7, vi j_19)], [os (vl dataa0 datak0 data) data_18], slices_insertionSortOrdered_int_L1 r17 data_18 j_19 = slices_insertionSortOrdered_int_L1 (((i_5 : Int) - a).toNat) data_4 i_5 ∧ r17 = ((j_19 : Int) - a).toNat ∧ j_19 ≤ (i_5 : Int) ∧ (-9223372036854775808 ≤ j_19 ∧ j_19 ≤ 9223372036854775807), r17⟩) (((i_5 : Int) - a).toNat, data_4, i_5) [0] ⟨rfl, rfl, (by omega), (by omega)⟩ ?_
   rintro ⟨r17, data_18, j_19⟩ ⟨hM20, hr21, hi22, hk23⟩
   refine JJ_nx fun _ _ hL hA => ?_; dsimp only at hL hA; subst hL hA
   refine Fb 8 0 fun hl24 => ?_
   refine Fo 0 fun ho25 => ?_
   refine Fl 0 fun hn26 => ?_
   refine KS ?_
   refine JK_drawK [0, 0, 3, 7, 15, 15, 63, 127, 15, 15, 527, 1807, 3855, 8191, 16383] fmix ?_
   refine Dv [] Vm (Dv [] Vm (Dv [] Vgtr ?_))
   refine bool_split (decide (a < j_19)) ?_ ?_
   · intro h27
     have g28 := of_decide_eq_true h27
     obtain ⟨r29, rfl⟩ := scc (n := r17) (by omega)
     refine Db h27 [] Vm (Dv [] Vm (Dv [] Vm (Dv [0] (Vi sl22 0) ?_)))
     have hb30 := ok1 (i := j_19.toNat) ho25 rng
     refine Dv [0] (VldI sh3 0) (Dv [] Vm (Dv [] Vm (Dv [] Vsub (Dv [0] (Vi sl22 0) ?_))))
     have hb31 := ok1 (i := ((j_19 - 1) : Int).toNat) ho25 rng
     refine Dv [0] (VldI sh3 0) ?_
     refine letv (cmp_Less_int (data_18.getD j_19.toNat 0) (data_18.getD ((j_19 - 1) : Int).toNat 0)) fun rv32 hg33 => ?_
     refine Dx [] [] [0] (fun G => vb rv32) [fun G => SP.fact (True)] (fun G => xC [] ca252 (fn252 ((data_18.getD j_19.toNat 0)) ((data_18.getD ((j_19 - 1) : Int).toNat 0)) pre pre rv32 hg33)) (Dv [] Vpt ?_)
     refine Dn ⟨by kernel_rfl, fun G => ?_⟩
     refine Jw2 [(0, vl dataa0 datak0 data), (1, vi a), (2, vi b), (6, vi i_5), (7, vi j_19), (30, vb rv32)] [0] [SP.fact (True)] ?_
     refine Jk [0] ?_
     refine Kc ?_ ?_
     · intro h34
       refine KS ?_
       refine JK_drawK [0, 0, 0, 0, 8, 0, 0, 64, 224, 480, 0, 0, 3072, 7168, 16355, 32739, 65535, 131071] fmix ?_
       refine Dv [] Vm (Dv [] Vm (Dv [] Vm (Dv [] Vm (Dv [] Vsub (Dv [] Vm (Dv [] Vm (Dv [] Vsub (Dv [0] (Vi sl22 0) ?_))))))))
       have hb36 := ok1 (i := ((j_19 - 1) : Int).toNat) ho25 rng
       refine Dv [0] (VldI sh3 0) (Dv [] Vm (Dv [] Vm (Dv [0] (Vi sl22 0) ?_)))
       have hb37 := ok1 (i := j_19.toNat) ho25 rng
       refine Dv [0] (VldI sh3 0) (Dv [0] (Vi sl22 0) (Dx0 [0] [0] [0] [fun G => os (vl dataa0 datak0 data) (data_18.set j_19.toNat (data_18.getD ((j_19 - 1) : Int).toNat 0))] (fun G => xS (SoI [0] sh3)) (Dv [1] (Vi sl22 0) (Dx0 [1] [1] [0] [fun G => os (vl dataa0 datak0 data) ((data_18.set j_19.toNat (data_18.getD ((j_19 - 1) : Int).toNat 0)).set ((j_19 - 1) : Int).toNat (data_18.getD j_19.toNat 0))] (fun G => xS (SoI [0] sh3)) ?_))))
       refine Dn ⟨by kernel_rfl, fun G => ?_⟩
       refine Jw2 [(0, vl dataa0 datak0 data), (1, vi a), (2, vi b), (6, vi i_5), (7, vi j_19)] [] [os (vl dataa0 datak0 data) ((data_18.set j_19.toNat (data_18.getD ((j_19 - 1) : Int).toNat 0)).set ((j_19 - 1) : Int).toNat (data_18.getD j_19.toNat 0))] ?_
       refine KS ?_
       refine Oq Vm (Oq Vsub (Oq Va (KS ?_)))
       exact Kg (r29, ((data_18.set j_19.toNat (data_18.getD ((j_19 - 1) : Int).toNat 0)).set ((j_19 - 1) : Int).toNat (data_18.getD j_19.toNat 0)), (j_19 - 1)) [0] ⟨(q3 hM20 (by simp only [slices_insertionSortOrdered_int_L1, h14, h27, h34, hg33, cs4])), (by omega), (by omega), (by omega)⟩
     intro h34
     refine Ke ?_
     have hR39 := q2 hM20 data_18 (by simp only [slices_insertionSortOrdered_int_L1, h14, h27, h34, hg33, cs4])
     refine KS ?_
     refine Oq Vm (Oq Vadd (Oq Va (KS ?_)))
     exact Kg (r16, data_18, (i_5 + 1)) [0] ⟨(q3 hM6 (by simp only [slices_insertionSortOrdered_int_L0, h14, h27, h34, hg33, hR39, cs4])), (by omega), (by omega), (by omega), (by omega)⟩
   intro h27
   have g40 := of_decide_eq_false h27
   obtain rfl : r17 = 0 := by omega
   refine Db h27 [] Vm (Ds (Ds (Ds (Ds (Ds (Ds (Ds (Ds (Ds ?_)))))))))
   refine Ds (Dv [] Vpf ?_)
   refine Dn ⟨by kernel_rfl, fun G => ?_⟩
   refine Jw2 [(0, vl dataa0 datak0 data), (1, vi a), (2, vi b), (6, vi i_5), (7, vi j_19), (30, vb false)] [0] [] ?_
   refine Kf ?_
   refine Ke ?_
   have hR41 := q2 hM20 data_18 (by simp only [slices_insertionSortOrdered_int_L1, h14, h27, cs4])
   refine KS ?_
   refine Oq Vm (Oq Vadd (Oq Va (KS ?_)))
   exact Kg (r16, data_18, (i_5 + 1)) [0] ⟨(q3 hM6 (by simp only [slices_insertionSortOrdered_int_L0, h14, h27, hR41, cs4])), (by omega), (by omega), (by omega), (by omega)⟩
 intro h14
 have g42 := of_decide_eq_false h14
 obtain rfl : r3 = 0 := by omega
 refine Ke ?_
 have hR43 := q2 hM6 data_4 (by simp only [slices_insertionSortOrdered_int_L0, h14, cs4])
 have hq := q4 hrr data_4 (by simp only [slices_insertionSortOrdered_int, h14, hR43, cs4]); subst hq
 exact Kz () rfl .nil [0] trivial
theorem fn203 (data : List Int) (dataa0 : Option Addr) (datak0 : Nat) (a : Int) (b : Int) (limit : Int) (ha_0 : i64ok a) (hb_0 : i64ok b) (hlimit_0 : i64ok limit) (ha0 : 0 ≤ a ∧ a ≤ b ∧ b ≤ (data.length : Int) ∧ b - a ≤ 12) (rr : List Int) (hrr : slices_pdqsortOrdered_int data a b limit = rr) : FT Tryz.prog 203 #[vl dataa0 datak0 data, vi a, vi b, vi limit] [O dataa0 datak0 data] (fun g : Unit => True) (fun g => .tuple #[]) (fun g => [os (vl dataa0 datak0 data) rr]) := by
 refine FTi Tryz.func203 fun w0 M0 F0 => ?_
 unfold i64ok at ha_0 hb_0 hlimit_0
 refine Fb 8 0 fun hl1 => ?_
 refine Fo 0 fun ho2 => ?_
 refine KS ?_
 refine Oq Va (KS ?_)
 refine Oq Va (KS ?_)
 have hterm5 : slices_pdqsortOrdered_int_L0 data a b 1 ≠ LR.oof := (by unfold slices_pdqsortOrdered_int_L0; intro h; simp only [Bool.cond_eq_ite] at h; (repeat' split at h) <;> cases h)
 refine Kl (γ := Nat) (fun r3 => ⟨[(0, vl dataa0 datak0 data), (1, vi a), (2, vi b), (3, vi limit), (8, vb true), (9, vb true)], [O dataa0 datak0 data], slices_pdqsortOrdered_int_L0 data a b r3 = slices_pdqsortOrdered_int_L0 data a b 1, r3⟩) 1 [0] rfl ?_
 rintro r3 hM4
 refine JJ_nx fun _ _ hL hA => ?_; dsimp only at hL hA; subst hL hA
 refine Fb 8 0 fun hl6 => ?_
 refine Fo 0 fun ho7 => ?_
 rcases r3 with _ | r3
 · exact absurd (hM4.symm.trans rfl) hterm5
 refine KS ?_
 refine Oq Vm (Oq Vm (Oq Vsub (Oq Va (KS ?_))))
 refine Oq Vm (Oq Vleq (KS ?_))
 refine Kc ?_ ?_
 · intro h8
   have g9 := of_decide_eq_true h8
   refine KS ?_
   refine Oq Vm (Oq Vm (Oq Vm ?_))
   refine letv (slices_insertionSortOrdered_int data a b) fun rv10 hg11 => ?_
   have hc12 := fn246 data dataa0 datak0 a b pre pre pre rv10 hg11
   refine Oc [0] ca246 hc12 ?_
   rintro - -
   refine KS ?_
   have hR13 := q2 hM4 (.ret rv10) (by simp only [slices_pdqsortOrdered_int_L0, h8, hg11, cs4])
   have hq := q4 hrr rv10 (by simp only [slices_pdqsortOrdered_int, h8, hg11, hR13, cs4]); subst hq
   exact Kr () rfl .nil [0] trivial
 intro h8
 have g14 := of_decide_eq_false h8
 exfalso; omega
theorem fn256 (x : BitVec 64) (hx0 : x.toNat ≤ 255) (rr : Int) (hrr : bits_Len64 x = rr) : FT Tryz.prog 256 #[u64 x] [] (fun g : Unit => i64ok rr) (fun g => vi rr) (fun g => []) := by
 refine FTi Tryz.func256 fun w0 M0 F0 => ?_
 refine KS ?_
 refine Oq Va (KS ?_)
 refine Oq Vm (Oq (Vgeq (a := (x.toNat : Int)) (b := 4294967296)) (KS ?_))
 refine Kc ?_ ?_
 · intro h1
   have g2 := of_decide_eq_true h1
   exfalso; omega
 intro h1
 have g3 := of_decide_eq_false h1
 refine KS ?_
 refine Oq Vm (Oq (Vgeq (a := (x.toNat : Int)) (b := 65536)) (KS ?_))
 refine Kc ?_ ?_
 · intro h4
   have g5 := of_decide_eq_true h4
   exfalso; omega
 intro h4
 have g6 := of_decide_eq_false h4
 refine KS ?_
 refine Oq Vm (Oq (Vgeq (a := (x.toNat : Int)) (b := 256)) (KS ?_))
 refine Kc ?_ ?_
 · intro h7
   have g8 := of_decide_eq_true h7
   exfalso; omega
 intro h7
 have g9 := of_decide_eq_false h7
 refine KS ?_
 refine Oq Vm (Oq Vm (Oq (VcU8 un122 un5) ?_))
 refine Oq (Vix un9 (l := tab0) (h := ⟨by omega, by rw [show tab0.length = 256 from rfl]; omega⟩)) ?_
 have hb10 := u8b (tab0.getD ((x.toNat : Int) : Int).toNat 0)
 refine Oq (VcK un5 un3) (Oq Vadd (Oq Va (KS ?_)))
 have hq := q4 hrr (0 + ((tab0.getD ((x.toNat : Int) : Int).toNat 0).toNat : Int)) (by simp only [bits_Len64, h1, h4, h7, cs4]); subst hq
 exact Kr () rfl (.tmp rfl .nil) [] en
theorem fn204 (x : BitVec 64) (hx0 : x.toNat ≤ 255) (rr : Int) (hrr : bits_Len x = rr) : FT Tryz.prog 204 #[u64 x] [] (fun g : Unit => i64ok rr) (fun g => vi rr) (fun g => []) := by
 refine FTi Tryz.func204 fun w0 M0 F0 => ?_
 refine KS ?_
 refine Oq Va (KS ?_)
 refine Kf ?_
 refine KS ?_
 refine Oq Vm ?_
 refine letv (bits_Len64 x) fun rv1 hg2 => ?_
 have hc3 := fn256 x pre rv1 hg2
 refine Oc [] ca256 hc3 ?_
 rintro - he4
 unfold i64ok at he4
 refine Oq Va (KS ?_)
 have hq := q4 hrr rv1 (by simp only [bits_Len, hg2, cs4]); subst hq
 exact Kr () rfl (.tmp rfl .nil) [] en
theorem fn130 (x : List Int) (xa0 : Option Addr) (xk0 : Nat) (ha0 : x.length ≤ 12) (rr : List Int) (hrr : slices_Sort_int x = rr) : FT Tryz.prog 130 #[vl xa0 xk0 x] [O xa0 xk0 x] (fun g : Unit => True) (fun g => .tuple #[]) (fun g => [os (vl xa0 xk0 x) rr]) := by
 refine FTi Tryz.func130 fun w0 M0 F0 => ?_
 refine Fb 8 0 fun hl1 => ?_
 refine Fo 0 fun ho2 => ?_
 refine KS ?_
 refine Oq Vm (Oq (Vlen sl22) (Oq Va (KS ?_)))
 refine Oq Vm (Oq Vm (Oq Vm (Oq (VcU un3 un123) ?_)))
 refine letv (bits_Len (BitVec.ofInt 64 (x.length : Int))) fun rv3 hg4 => ?_
 have hc5 := fn204 ((BitVec.ofInt 64 (x.length : Int))) (ofInt_le (by omega)) rv3 hg4
 refine Oc [] ca204 hc5 ?_
 rintro - he6
 unfold i64ok at he6
 refine letv (slices_pdqsortOrdered_int x 0 (x.length : Int) rv3) fun rv7 hg8 => ?_
 have hc9 := fn203 x xa0 xk0 0 ((x.length : Int)) rv3 pre pre pre pre rv7 hg8
 refine Oc [0] ca203 hc9 ?_
 rintro - -
 refine KS ?_
 have hq := q4 hrr rv7 (by simp only [slices_Sort_int, hg4, hg8, cs4]); subst hq
 exact Kz () rfl .nil [0] trivial
theorem fn175 (s : List Int) (sa0 : Option Addr) (sk0 : Nat) (rr : List Int) (hrr : slices_Clone_int s = rr) : FT Tryz.prog 175 #[vl sa0 sk0 s] [S sa0 sk0 s] (fun g : Value => (rr.length = s.length)) (fun g => g) (fun g => [os g rr]) := by
 have hm : slices_Clone_int s = s := rfl
 rw [hm] at hrr
 subst hrr
 refine FTi Tryz.func175 fun w0 M0 F0 => ?_
 refine KS ?_
 refine Oq Va ?_
 refine KS ?_
 refine Oq Vm ?_
 refine Oq (VeqN un22) ?_
 refine KS ?_
 refine Kc ?_ ?_
 · intro h
   refine Jnil 0 h ?_
   intro h0
   subst h0
   refine KS ?_
   refine Oq Va ?_
   refine KS ?_
   refine Jl [] (Ent.osNil (α := Int)) ?_
   exact Kr (.slice none 0 0) rfl (.tmp rfl .nil) [0] rfl
 · intro _
   refine KS ?_
   refine Oa (As0 sl22) fun c1 => ?_
   refine Jo 0 ?_; rintro a2 k3 rfl
   refine Oq Vm ?_
   refine Fb 8 1 fun hl => ?_
   refine Jl [0] (Ent.crNil (α := Int) _) ?_
   refine Oa (Ap0 [0, 0] sl22 sl22 sz22) fun c4 => ?_
   refine Oq Va ?_
   refine KS ?_
   exact Kr c4 rfl (.tmp rfl .nil) [0] rfl
theorem fn199 (s : List Int) (sa0 : Option Addr) (sk0 : Nat) (hpw : s.Pairwise (· < ·)) (rr : List Int) (hrr : slices_Compact_int s = rr) : FT Tryz.prog 199 #[vl sa0 sk0 s] [S sa0 sk0 s] (fun g : Value => True) (fun g => g) (fun g => [sl g rr]) := by
 refine FTi Tryz.func199 fun w0 M0 F0 => ?_
 refine Fb 8 0 fun hl1 => ?_
 refine Fo 0 fun ho2 => ?_
 refine KS ?_
 refine Oq Va (KS ?_)
 refine Oq Vm (Oq (Vlen sl22) (Oq Vlss (KS ?_)))
 refine Kc ?_ ?_
 · intro h3
   have g4 := of_decide_eq_true h3
   refine KS ?_
   refine Oq Vm (Oq Va (KS ?_))
   have hq := q4 hrr s (by simp only [slices_Compact_int, h3, cs4]); subst hq
   exact Kr (vl sa0 sk0 s) rfl (.tmp rfl .nil) [0] trivial
 intro h3
 have g5 := of_decide_eq_false h3
 refine KS ?_
 refine Oq Va (KS ?_)
 refine Kl (γ := Nat × Int) (fun (r6, k_7) => ⟨[(0, vl sa0 sk0 s), (3, vi k_7)], [S sa0 sk0 s], slices_Compact_int_L0 r6 k_7 = slices_Compact_int_L0 (((s.length : Int) - 1).toNat) 1 ∧ r6 = ((s.length : Int) - k_7).toNat ∧ (1 : Int) ≤ k_7 ∧ (k_7 ≤ (s.length : Int) ∨ k_7 = 1) ∧ (-9223372036854775808 ≤ k_7 ∧ k_7 ≤ 9223372036854775807), r6⟩) (((s.length : Int) - 1).toNat, 1) [0] ⟨rfl, rfl, (by omega), (.inr rfl), (by omega)⟩ ?_
 rintro ⟨r6, k_7⟩ ⟨hM8, hr9, hi10, hi11, hk12⟩
 refine JJ_nx fun _ _ hL hA => ?_; dsimp only at hL hA; subst hL hA
 refine Fb 8 0 fun hl13 => ?_
 refine Fo 0 fun ho14 => ?_
 refine KS ?_
 refine Oq Vm (Oq Vm (Oq (Vlen sl22) (Oq Vlss (KS ?_))))
 refine Kc ?_ ?_
 · intro h15
   have g16 := of_decide_eq_true h15
   obtain ⟨r17, rfl⟩ := scc (n := r6) (by omega)
   refine KS ?_
   refine Kq [0, 0, 3, 7, 0, 0, 32, 112, 240, 511] fmix ?_
   refine Qv [] Vm (Qv [] Vm (Qv [0] (Vi sl22 0) ?_))
   have hb18 := ok1 (i := k_7.toNat) ho14 rng
   refine Qv [0] (VldI sh3 0) (Qv [] Vm (Qv [] Vm (Qv [] Vsub (Qv [0] (Vi sl22 0) ?_))))
   have hb19 := ok1 (i := ((k_7 - 1) : Int).toNat) ho14 rng
   refine Qv [0] (VldI sh3 0) (Qv [] Veql ?_)
   refine Qn ⟨by kernel_rfl, ?_⟩
   refine Kc ?_ ?_
   · intro h20
     have g21 := eq_of_beq h20
     exact absurd (eq_of_beq h20) (pw_ne hpw (by omega) (by omega))
   intro h20
   have g22 := ne_of_beq_false h20
   refine KS ?_
   refine Oq Vm (Oq Vadd (Oq Va (KS ?_)))
   exact Kg (r17, (k_7 + 1)) [0] ⟨(q3 hM8 (by simp only [slices_Compact_int_L0, h3, h15, h20, cs4])), (by omega), (by omega), (by omega), (by omega)⟩
 intro h15
 have g23 := of_decide_eq_false h15
 obtain rfl : r6 = 0 := by omega
 refine Ke ?_
 have hR24 := q2 hM8 () (by simp only [slices_Compact_int_L0, h3, h15, cs4])
 refine KS ?_
 refine Oq Vm (Oq Va (KS ?_))
 have hq := q4 hrr s (by simp only [slices_Compact_int, h3, h15, hR24, cs4]); subst hq
 exact Kr (vl sa0 sk0 s) rfl (.tmp rfl .nil) [0] trivial
theorem fn121 (l : List Int) (la0 : Option Addr) (lk0 : Nat) (hnd : l.Nodup) (hl12 : l.length ≤ 12) (rr : Bool) (hrr : cone_distinct l = rr) : FT Tryz.prog 121 #[vl la0 lk0 l] [S la0 lk0 l] (fun g : Unit => True) (fun g => vb rr) (fun g => []) := by
 refine FTi Tryz.func121 fun w0 M0 F0 => ?_
 refine Fb 8 0 fun hl1 => ?_
 refine Fo 0 fun ho2 => ?_
 refine KS ?_
 refine Oq Va (KS ?_)
 refine Oq Vm ?_
 refine letv (slices_Clone_int l) fun rv4 hg5 => ?_
 have hc6 := fn175 l la0 lk0 rv4 hg5
 refine Oc [0] ca175 hc6 ?_
 rintro c3 he7
 refine Jo 0 ?_; rintro a8 k9 rfl
 refine Fb 8 0 fun hl10 => ?_
 refine Fo 0 fun ho11 => ?_
 refine Oq Va (KS ?_)
 refine Oq Vm ?_
 refine letv (slices_Sort_int rv4) fun rv12 hg13 => ?_
 have hc14 := fn130 rv4 a8 k9 pre rv12 hg13
 refine Oc [0] ca130 hc14 ?_
 rintro - -
 refine KS ?_
 refine Oq Vm (Oq (Vlen sl22) (Oq Vgtr (Oq Vm ?_)))
 refine Js 11 ?_ ?_
 · intro h15
   have g16 := of_decide_eq_true h15
   refine Oq Vm ?_
   refine Fl 0 fun hn17 => ?_; try unfold vl; rw [← hn17]
   refine Jl [0] (Ent.freeze _ _) ?_
   refine letv (slices_Compact_int rv12) fun rv19 hg20 => ?_
   have hc21 := fn199 rv12 a8 k9 (Sort_strict (by assumption) (by assumption) hnd) rv19 hg20
   refine Oc [0] ca199 hc21 ?_
   rintro c18 -
   refine Jo 0 ?_; rintro a22 k23 rfl
   refine Fb 8 0 fun hl24 => ?_
   refine Fo 0 fun ho25 => ?_
   refine Oq (Vlen sl22) (Oq Vm (Oq (Vlen sl22) (Oq Veql (Oq Vpt (Oq Va (KS ?_))))))
   have hq := q4 hrr ((rv19.length : Int) == (l.length : Int)) (by simp only [cone_distinct, h15, hg5, hg13, hg20, cs4]); subst hq
   exact Kr () rfl (.tmp rfl .nil) [] trivial
 intro h15
 have g26 := of_decide_eq_false h15
 refine Osk (Osk (Osk (Osk (Osk (Osk (Oq Vpf (Oq Va (KS ?_))))))))
 have hq := q4 hrr false (by simp only [cone_distinct, h15, hg5, hg13, cs4]); subst hq
 exact Kr () rfl (.tmp rfl .nil) [] trivial
theorem fn122 (k : GKnown) (ka2 : Option Addr) (kk2 : Nat) (hk_0 : i64ok k.Node) (hk_1 : i64ok k.Value.Width) (rr : Bool) (hrr : cone_Restrict_2 k = rr) : FT Tryz.prog 122 #[.agg #[vi k.Node, vi k.Value.Width, vl ka2 kk2 k.Value.Words]] [S ka2 kk2 k.Value.Words] (fun g : Unit => True) (fun g => vb rr) (fun g => []) := by
 refine FTi Tryz.func122 fun w0 M0 F0 => ?_
 unfold i64ok at hk_0 hk_1
 refine Fb 8 0 fun hl1 => ?_
 refine KS ?_
 refine Oa (Ab [vi k.Node, vi k.Value.Width, vl ka2 kk2 k.Value.Words]) fun p2 => Oq Va (KS ?_)
 refine Oq (Vfa fo67_1 0) (Oq (VldG sh42 0 [vi k.Value.Width, vl ka2 kk2 k.Value.Words]) ?_)
 refine letv (bitset_Valid k.Value) fun rv3 hg4 => ?_
 have hc5 := fn123 k.Value ka2 kk2 pre rv3 hg4
 refine Oc [1] ca123 hc5 ?_
 rintro - -
 refine Oq Vnot (Oq Va (KS ?_))
 have hq := q4 hrr (!rv3) (by simp only [cone_Restrict_2, hg4, cs4]); subst hq
 exact Kr () rfl (.tmp rfl .nil) [] trivial
theorem fn124 (k : GKnown) (ka2 : Option Addr) (kk2 : Nat) (cap0P : Value) (cap0 : GSystem) (cap0a1 : Option Addr) (cap0k1 : Nat) (cap0a2 : Option Addr) (cap0k2 : Nat) (cap0a3 : Option Addr) (cap0k3 : Nat) (hk_0 : i64ok k.Node) (hk_1 : i64ok k.Value.Width) (hcap0_0 : i64ok cap0.Width) (rr : Bool) (hrr : cone_Restrict_3 k cap0 = rr) : FT Tryz.prog 124 #[.agg #[vi k.Node, vi k.Value.Width, vl ka2 kk2 k.Value.Words], cap0P] [S ka2 kk2 k.Value.Words, pv cap0P [vi cap0.Width, vl cap0a1 cap0k1 cap0.Deps, vl cap0a2 cap0k2 cap0.Transfers, vl cap0a3 cap0k3 cap0.Boundary], S cap0a1 cap0k1 cap0.Deps, S cap0a2 cap0k2 cap0.Transfers, S cap0a3 cap0k3 cap0.Boundary] (fun g : Unit => True) (fun g => vb rr) (fun g => []) := by
 refine FTi Tryz.func124 fun w0 M0 F0 => ?_
 unfold i64ok at hk_0 hk_1 hcap0_0
 refine Fb 8 0 fun hl1 => ?_
 refine Fb 24 2 fun hl2 => ?_
 refine Fb 88 3 fun hl3 => ?_
 refine Fb 32 4 fun hl4 => ?_
 refine KS ?_
 refine Oa (Ab [vi k.Node, vi k.Value.Width, vl ka2 kk2 k.Value.Words]) fun p5 => Oq Va (KS ?_)
 refine Oq (Vfa fo67_1 0) (Oq (VfaF fo42_0 0) (Oq (VldF sh3 0) (Oq (Vfa fo27_0 2) (Oq (VldF sh3 2) (Oq Vneq (Oq Va (KS ?_)))))))
 have hq := q4 hrr (k.Value.Width != cap0.Width) (by simp only [cone_Restrict_3, cs4]); subst hq
 exact Kr () rfl (.tmp rfl .nil) [] trivial
theorem fn125 (s : GSet) (sa1 : Option Addr) (sk1 : Nat) (hs_0 : i64ok s.Width) (rr : GSet) (hrr : cone_clone s = rr) : FT Tryz.prog 125 #[.agg #[vi s.Width, vl sa1 sk1 s.Words]] [S sa1 sk1 s.Words] (fun g : Value => i64ok rr.Width) (fun g => .agg #[vi rr.Width, g]) (fun g => [sl g rr.Words]) := by
 refine FTi Tryz.func125 fun w0 M0 F0 => ?_
 unfold i64ok at hs_0
 refine Fb 8 0 fun hl1 => ?_
 refine KS ?_
 refine Oa (Ab [vi s.Width, vl sa1 sk1 s.Words]) fun p2 => Oa (Al ze42 [vi 0, .slice none 0 0]) fun p3 => KS ?_
 refine JK_drawK [0, 1, 0, 4, 12, 31, 63] fmix ?_
 refine Dv [1] (Vfa fo42_0 0) (Dv [1] (VldF sh3 0) (Dv [1] (Vfa fo42_1 0) (Dv [1] (VldF sh40 0) ?_)))
 refine letv (slices_Clone_uint64 s.Words) fun rv5 hg6 => ?_
 refine Dx [2] [] [2, 0, 1] (fun G => (G.g 4 0)) [fun G => SP.fact ((rv5.length = s.Words.length)), fun G => os (G.g 4 0) rv5] (fun G => xC [0] ca184 (fn184 s.Words sa1 sk1 rv5 hg6)) ?_
 refine Dx [4] [] [0] (fun G => .agg #[vi s.Width, (G.g 4 0)]) [] (fun G => xV (v := .agg #[vi s.Width, (G.g 4 0)]) (Vo 0 rfl (isO_os _ _) fun aq7 kq8 eq9 => (by rw [eq9]; exact Vbd st42 [vi s.Width, .slice aq7 ((rv5 : List (BitVec 64)).length) kq8]))) (Dx0 [0, 4] [0] [1, 0] [fun G => Cl p3 [vi s.Width, (G.g 4 0)]] (fun G => x1 1 rfl os_one fun ho10 => (xS (Scl [0] sh42 [vi s.Width, (G.g 4 0)] (v := .agg #[vi s.Width, (G.g 4 0)]) (h1 := show [vi s.Width, (G.g 4 0)].all (·.oneCell') = true from (by simp only [List.all_cons, List.all_nil, ho10, Bool.and_true, Bool.true_and] <;> rfl))))) ?_)
 refine Dn ⟨by kernel_rfl, fun G => ?_⟩
 refine Jw2 [(2, p3)] [1, 2] [SP.fact ((rv5.length = s.Words.length)), os (G.g 4 0) rv5, Cl p3 [vi s.Width, (G.g 4 0)]] ?_
 generalize G.g 4 0 = c4
 refine Jf 2 rfl ?_; rintro he11
 refine Jk [0, 1, 3, 3] ?_
 refine Jo 2 ?_; rintro a12 k13 rfl
 refine Fb 8 2 fun hl14 => ?_
 refine Jl [2] (Ent.freeze _ _) ?_
 have hq := q4 hrr (GSet.mk s.Width rv5) (by simp only [cone_clone, hg6, cs4]); subst hq
 exact Kr (vl a12 k13 rv5) rfl (.cellN 3 rfl sh42 rfl (reads_Cl _ _) rfl .nil) [0] en
theorem fn126 (s : List GCopy) (sa0 : Option Addr) (sk0 : Nat) (rr : List GCopy) (hrr : slices_Clone_Copy s = rr) : FT Tryz.prog 126 #[vl sa0 sk0 s] [S sa0 sk0 s] (fun g : Value => (rr.length = s.length)) (fun g => g) (fun g => [os g rr]) := by
 have hm : slices_Clone_Copy s = s := rfl
 rw [hm] at hrr
 subst hrr
 refine FTi Tryz.func126 fun w0 M0 F0 => ?_
 refine KS ?_
 refine Oq Va ?_
 refine KS ?_
 refine Oq Vm ?_
 refine Oq (VeqN un96) ?_
 refine KS ?_
 refine Kc ?_ ?_
 · intro h
   refine Jnil 0 h ?_
   intro h0
   subst h0
   refine KS ?_
   refine Oq Va ?_
   refine KS ?_
   refine Jl [] (Ent.osNil (α := GCopy)) ?_
   exact Kr (.slice none 0 0) rfl (.tmp rfl .nil) [0] rfl
 · intro _
   refine KS ?_
   refine Oa (As0 sl96) fun c1 => ?_
   refine Jo 0 ?_; rintro a2 k3 rfl
   refine Oq Vm ?_
   refine Fb 16 1 fun hl => ?_
   refine Jl [0] (Ent.crNil (α := GCopy) _) ?_
   refine Oa (Ap0 [0, 0] sl96 sl96 sz96) fun c4 => ?_
   refine Oq Va ?_
   refine KS ?_
   exact Kr c4 rfl (.tmp rfl .nil) [0] rfl
theorem fn128 (k : GKnown) (ka2 : Option Addr) (kk2 : Nat) (cap0P : Value) (cap0 : Int) (hk_0 : i64ok k.Node) (hk_1 : i64ok k.Value.Width) (hcap0_0 : i64ok cap0) (rr : Bool) (hrr : cone_Restrict_4 k cap0 = rr) : FT Tryz.prog 128 #[.agg #[vi k.Node, vi k.Value.Width, vl ka2 kk2 k.Value.Words], cap0P] [S ka2 kk2 k.Value.Words, pv cap0P [vi cap0]] (fun g : Unit => True) (fun g => vb rr) (fun g => []) := by
 refine FTi Tryz.func128 fun w0 M0 F0 => ?_
 unfold i64ok at hk_0 hk_1 hcap0_0
 refine Fb 8 0 fun hl1 => ?_
 refine KS ?_
 refine Oa (Ab [vi k.Node, vi k.Value.Width, vl ka2 kk2 k.Value.Words]) fun p2 => Oq Va (KS ?_)
 refine Oq (Vfa fo67_0 0) (Oq (VldF sh3 0) (Oq (Vld sh3 2) (Oq Veql (Oq Va (KS ?_)))))
 have hq := q4 hrr (k.Node == cap0) (by simp only [cone_Restrict_4, cs4]); subst hq
 exact Kr () rfl (.tmp rfl .nil) [] trivial
theorem fn129 (s : List Int) (sa0 : Option Addr) (sk0 : Nat) (v : Int) (hv_0 : i64ok v) (rr : Int) (hrr : slices_Index_int s v = rr) : FT Tryz.prog 129 #[vl sa0 sk0 s, vi v] [S sa0 sk0 s] (fun g : Unit => i64ok rr) (fun g => vi rr) (fun g => []) := by
 refine FTi Tryz.func129 fun w0 M0 F0 => ?_
 unfold i64ok at hv_0
 refine Fb 8 0 fun hl1 => ?_
 refine Fo 0 fun ho2 => ?_
 refine KS ?_
 refine Oq Va (KS ?_)
 refine Oq Vm (Oq (Vlen sl22) (Oq Vm (KS ?_)))
 refine Kl (γ := Nat × Int) (fun (r3, v8_4) => ⟨[(0, vl sa0 sk0 s), (1, vi v), (7, vi (s.length : Int)), (8, vi v8_4)], [S sa0 sk0 s], slices_Index_int_L0 s v r3 v8_4 = slices_Index_int_L0 s v (((s.length : Int) - 0).toNat) 0 ∧ r3 = ((s.length : Int) - v8_4).toNat ∧ (0 : Int) ≤ v8_4 ∧ v8_4 ≤ (s.length : Int) ∧ (-9223372036854775808 ≤ v8_4 ∧ v8_4 ≤ 9223372036854775807), r3⟩) (((s.length : Int) - 0).toNat, 0) [0] ⟨rfl, rfl, (by omega), (by omega), (by omega)⟩ ?_
 rintro ⟨r3, v8_4⟩ ⟨hM5, hr6, hi7, hi8, hk9⟩
 refine JJ_nx fun _ _ hL hA => ?_; dsimp only at hL hA; subst hL hA
 refine Fb 8 0 fun hl10 => ?_
 refine Fo 0 fun ho11 => ?_
 refine KS ?_
 refine Oq Vlss (KS ?_)
 refine Kc ?_ ?_
 · intro h12
   have g13 := of_decide_eq_true h12
   obtain ⟨r14, rfl⟩ := scc (n := r3) (by omega)
   refine KS ?_
   refine Oq Vm (Oq Va (KS ?_))
   refine Oq Vm (Oq Vm (Oq Vm (Oq (Vi sl22 0) ?_)))
   have hb15 := ok1 (i := v8_4.toNat) ho11 rng
   refine Oq (VldI sh3 0) (Oq Veql (KS ?_))
   refine Kc ?_ ?_
   · intro h16
     have g17 := eq_of_beq h16
     refine KS ?_
     refine Oq Vm (Oq Va (KS ?_))
     have hR18 := q2 hM5 (.ret v8_4) (by simp only [slices_Index_int_L0, h12, h16, cs4])
     have hq := q4 hrr v8_4 (by simp only [slices_Index_int, h12, h16, hR18, cs4]); subst hq
     exact Kr () rfl (.tmp rfl .nil) [] en
   intro h16
   have g19 := ne_of_beq_false h16
   refine KS ?_
   refine Oq Vadd (Oq Vm (KS ?_))
   exact Kg (r14, (v8_4 + 1)) [0] ⟨(q3 hM5 (by simp only [slices_Index_int_L0, h12, h16, cs4])), (by omega), (by omega), (by omega), (by omega)⟩
 intro h12
 have g20 := of_decide_eq_false h12
 obtain rfl : r3 = 0 := by omega
 refine Ke ?_
 have hR21 := q2 hM5 (.brk ()) (by simp only [slices_Index_int_L0, h12, cs4])
 refine KS ?_
 refine Oq Va (KS ?_)
 have hq := q4 hrr (-1) (by simp only [slices_Index_int, h12, hR21, cs4]); subst hq
 exact Kr () rfl (.tmp rfl .nil) [] en
theorem fn54 (s : GSystem) (sa1 : Option Addr) (sk1 : Nat) (sa2 : Option Addr) (sk2 : Nat) (sa3 : Option Addr) (sk3 : Nat) (cone : List Int) (conea0 : Option Addr) (conek0 : Nat) (known : List GKnown) (knowna0 : Option Addr) (knownk0 : Nat) (hs_0 : i64ok s.Width) (hnd : cone.Nodup) (hc12 : cone.length ≤ 12 ∧ s.Deps.length ≤ 12) (rr : GSystem × Int) (hrr : cone_Restrict s cone known = rr) : FT Tryz.prog 54 #[.agg #[vi s.Width, vl sa1 sk1 s.Deps, vl sa2 sk2 s.Transfers, vl sa3 sk3 s.Boundary], vl conea0 conek0 cone, vl knowna0 knownk0 known] [S sa1 sk1 s.Deps, S sa2 sk2 s.Transfers, S sa3 sk3 s.Boundary, S conea0 conek0 cone, S knowna0 knownk0 known] (fun g : Value × Value × Value => i64ok rr.1.Width ∧ i64ok rr.2) (fun g => .tuple #[.agg #[vi rr.1.Width, g.1, g.2.1, g.2.2], vi rr.2]) (fun g => [sl g.1 rr.1.Deps, sl g.2.1 rr.1.Transfers, sl g.2.2 rr.1.Boundary]) := by
 refine FTi Tryz.func54 fun w0 M0 F0 => ?_
 unfold i64ok at hs_0
 refine Fb 24 0 fun hl1 => ?_
 refine Fb 88 1 fun hl2 => ?_
 refine Fb 32 2 fun hl3 => ?_
 refine Fb 8 3 fun hl4 => ?_
 refine Fo 3 fun ho5 => ?_
 refine Fb 40 4 fun hl6 => ?_
 refine KS ?_
 refine Oa (Ab [vi s.Width, vl sa1 sk1 s.Deps, vl sa2 sk2 s.Transfers, vl sa3 sk3 s.Boundary]) fun p7 => Oa (Al ze27 [vi 0, .slice none 0 0, .slice none 0 0, .slice none 0 0]) fun p8 => Oq Va (KS ?_)
 refine Oq (VldA sh27 1) ?_
 refine letv (equations_Valid s) fun rv9 hg10 => ?_
 have hc11 := fn109 s sa1 sk1 sa2 sk2 sa3 sk3 pre rv9 hg10
 refine Oc [2, 3, 4] ca109 hc11 ?_
 rintro - -
 refine Oq Vnot (Oq Va (KS ?_))
 refine Kc ?_ ?_
 · intro h12
   have h14 := not_true h12
   refine KS ?_
   refine Oq (Vbd st27 [vi 0, .slice none 0 0, .slice none 0 0, .slice none 0 0]) (Ost (Scl [0] sh27 [vi 0, .slice none 0 0, .slice none 0 0, .slice none 0 0]) (Oq Va (KS ?_)))
   refine Jl [] (Ent.slNil (α := List Int)) ?_
   refine Jl [] (Ent.slNil (α := GTransfer)) ?_
   refine Jl [] (Ent.slNil (α := GSet)) ?_
   have hq := q4 hrr ((GSystem.mk 0 [] [] []), 1) (by simp only [cone_Restrict, h12, h14, hg10, cs4]); subst hq
   exact Kr (.slice none 0 0, .slice none 0 0, .slice none 0 0) rfl (.cellN 3 rfl sh27 rfl (reads_Cl _ _) rfl (.tmp rfl .nil)) [2, 1, 0] en
 intro h12
 have h17 := not_false h12
 try (have hvs := (EValid_iff s).1 (by simp only [h12, h17, hg10]); have hv1 := hvs.n; have hv2 := hvs.tl; have hv3 := hvs.bl; have hv4 := hvs.w)
 try have hcr := (unknowns_iff s cone).1 (by simp only [h12, h17, hg10])
 refine KS ?_
 refine Oq (VldA sh27 1) (Oq Vm ?_)
 refine letv (cone_unknowns s cone) fun rv19 hg20 => ?_
 have hc21 := fn118 s sa1 sk1 sa2 sk2 sa3 sk3 cone conea0 conek0 pre rv19 hg20
 refine Oc [2, 3, 4, 5] ca118 hc21 ?_
 rintro - -
 refine Oq Vnot (Oq Vm ?_)
 refine Js 27 ?_ ?_
 · intro h22
   have h24 := not_true h22
   refine Osk (Osk (Osk (Oq Vpt (Oq Va (KS ?_)))))
   refine Kt ?_
   refine KS ?_
   refine Oq (Vbd st27 [vi 0, .slice none 0 0, .slice none 0 0, .slice none 0 0]) (Ost (Scl [0] sh27 [vi 0, .slice none 0 0, .slice none 0 0, .slice none 0 0]) (Oq Va (KS ?_)))
   refine Jl [] (Ent.slNil (α := List Int)) ?_
   refine Jl [] (Ent.slNil (α := GTransfer)) ?_
   refine Jl [] (Ent.slNil (α := GSet)) ?_
   have hq := q4 hrr ((GSystem.mk 0 [] [] []), 9) (by simp only [cone_Restrict, h12, h17, h22, h24, hg10, hg20, cs4]); subst hq
   exact Kr (.slice none 0 0, .slice none 0 0, .slice none 0 0) rfl (.cellN 3 rfl sh27 rfl (reads_Cl _ _) rfl (.tmp rfl .nil)) [2, 1, 0] en
 intro h22
 have h27 := not_false h22
 try (have hvs := (EValid_iff s).1 (by simp only [h12, h17, h22, h27, hg10, hg20]); have hv1 := hvs.n; have hv2 := hvs.tl; have hv3 := hvs.bl; have hv4 := hvs.w)
 try have hcr := (unknowns_iff s cone).1 (by simp only [h12, h17, h22, h27, hg10, hg20])
 refine Oq Vm (Oq (Vf [p7]) ?_)
 refine JJ_ent (Ent.pall [1, 2, 3, 4] rfl rfl) ?_
 refine letv (slices_ContainsFunc_Known known (fun x => cone_Restrict_1 x s)) fun rv29 hg30 => ?_
 have hc31 := fn119 known knowna0 knownk0 120 [p7] (fun x => cone_Restrict_1 x s) [pv p7 [vi s.Width, vl sa1 sk1 s.Deps, vl sa2 sk2 s.Transfers, vl sa3 sk3 s.Boundary], S sa1 sk1 s.Deps, S sa2 sk2 s.Transfers, S sa3 sk3 s.Boundary] ca120 (fun x hx a2 k2 hq0 hq1 => FT_pall (A1 := _) (fn120 x a2 k2 p7 s sa1 sk1 sa2 sk2 sa3 sk3 hq0 hq1 pre _ rfl)) rv29 hg30
 refine Oc [7, 0] ca119 hc31 ?_
 rintro - -
 refine Oq Vpf (Oq Va (KS ?_))
 refine Kc ?_ ?_
 · intro h32
   try (have hvs := (EValid_iff s).1 (by simp only [h12, h17, h22, h27, h32, hg10, hg20, hg30]); have hv1 := hvs.n; have hv2 := hvs.tl; have hv3 := hvs.bl; have hv4 := hvs.w)
   try have hcr := (unknowns_iff s cone).1 (by simp only [h12, h17, h22, h27, h32, hg10, hg20, hg30])
   refine KS ?_
   refine Oq (Vbd st27 [vi 0, .slice none 0 0, .slice none 0 0, .slice none 0 0]) (Ost (Scl [1] sh27 [vi 0, .slice none 0 0, .slice none 0 0, .slice none 0 0]) (Oq Va (KS ?_)))
   refine Jl [] (Ent.slNil (α := List Int)) ?_
   refine Jl [] (Ent.slNil (α := GTransfer)) ?_
   refine Jl [] (Ent.slNil (α := GSet)) ?_
   have hq := q4 hrr ((GSystem.mk 0 [] [] []), 9) (by simp only [cone_Restrict, h12, h17, h22, h27, h32, hg10, hg20, hg30, cs4]); subst hq
   exact Kr (.slice none 0 0, .slice none 0 0, .slice none 0 0) rfl (.cellN 3 rfl sh27 rfl (reads_Cl _ _) rfl (.tmp rfl .nil)) [2, 1, 0] en
 intro h32
 refine KS ?_
 refine Oq Vm ?_
 refine letv (cone_distinct cone) fun rv35 hg36 => ?_
 have hc37 := fn121 cone conea0 conek0 pre pre rv35 hg36
 refine Oc [6] ca121 hc37 ?_
 rintro - -
 refine Oq Vnot (Oq Va (KS ?_))
 refine Kc ?_ ?_
 · intro h38
   have h40 := not_true h38
   refine KS ?_
   refine Oq (Vbd st27 [vi 0, .slice none 0 0, .slice none 0 0, .slice none 0 0]) (Ost (Scl [1] sh27 [vi 0, .slice none 0 0, .slice none 0 0, .slice none 0 0]) (Oq Va (KS ?_)))
   refine Jl [] (Ent.slNil (α := List Int)) ?_
   refine Jl [] (Ent.slNil (α := GTransfer)) ?_
   refine Jl [] (Ent.slNil (α := GSet)) ?_
   have hq := q4 hrr ((GSystem.mk 0 [] [] []), 6) (by simp only [cone_Restrict, h12, h17, h22, h27, h32, h38, h40, hg10, hg20, hg30, hg36, cs4]); subst hq
   exact Kr (.slice none 0 0, .slice none 0 0, .slice none 0 0) rfl (.cellN 3 rfl sh27 rfl (reads_Cl _ _) rfl (.tmp rfl .nil)) [2, 1, 0] en
 intro h38
 have h43 := not_false h38
 try (have hvs := (EValid_iff s).1 (by simp only [h12, h17, h22, h27, h32, h38, h43, hg10, hg20, hg30, hg36]); have hv1 := hvs.n; have hv2 := hvs.tl; have hv3 := hvs.bl; have hv4 := hvs.w)
 try have hcr := (unknowns_iff s cone).1 (by simp only [h12, h17, h22, h27, h32, h38, h43, hg10, hg20, hg30, hg36])
 refine KS ?_
 refine Oq Vm ?_
 refine JJ_ent (Ent.pall [] rfl rfl) ?_
 refine letv (slices_ContainsFunc_Known known (fun x => cone_Restrict_2 x)) fun rv45 hg46 => ?_
 have hc47 := fn119 known knowna0 knownk0 122 [] (fun x => cone_Restrict_2 x) [] ca122 (fun x hx a2 k2 hq0 hq1 => FT_pall (A1 := _) (fn122 x a2 k2  hq0 hq1 _ rfl)) rv45 hg46
 refine Oc [8, 0] ca119 hc47 ?_
 rintro - -
 refine Oq Va (KS ?_)
 refine Kc ?_ ?_
 · intro h48
   try (have hvs := (EValid_iff s).1 (by simp only [h12, h17, h22, h27, h32, h38, h43, h48, hg10, hg20, hg30, hg36, hg46]); have hv1 := hvs.n; have hv2 := hvs.tl; have hv3 := hvs.bl; have hv4 := hvs.w)
   try have hcr := (unknowns_iff s cone).1 (by simp only [h12, h17, h22, h27, h32, h38, h43, h48, hg10, hg20, hg30, hg36, hg46])
   refine KS ?_
   refine Oq (Vbd st27 [vi 0, .slice none 0 0, .slice none 0 0, .slice none 0 0]) (Ost (Scl [2] sh27 [vi 0, .slice none 0 0, .slice none 0 0, .slice none 0 0]) (Oq Va (KS ?_)))
   refine Jl [] (Ent.slNil (α := List Int)) ?_
   refine Jl [] (Ent.slNil (α := GTransfer)) ?_
   refine Jl [] (Ent.slNil (α := GSet)) ?_
   have hq := q4 hrr ((GSystem.mk 0 [] [] []), 1) (by simp only [cone_Restrict, h12, h17, h22, h27, h32, h38, h43, h48, hg10, hg20, hg30, hg36, hg46, cs4]); subst hq
   exact Kr (.slice none 0 0, .slice none 0 0, .slice none 0 0) rfl (.cellN 3 rfl sh27 rfl (reads_Cl _ _) rfl (.tmp rfl .nil)) [2, 1, 0] en
 intro h48
 refine KS ?_
 refine Oq Vm (Oq (Vf [p7]) ?_)
 refine JJ_ent (Ent.pall [3, 4, 5, 6] rfl rfl) ?_
 refine letv (slices_ContainsFunc_Known known (fun x => cone_Restrict_3 x s)) fun rv51 hg52 => ?_
 have hc53 := fn119 known knowna0 knownk0 124 [p7] (fun x => cone_Restrict_3 x s) [pv p7 [vi s.Width, vl sa1 sk1 s.Deps, vl sa2 sk2 s.Transfers, vl sa3 sk3 s.Boundary], S sa1 sk1 s.Deps, S sa2 sk2 s.Transfers, S sa3 sk3 s.Boundary] ca124 (fun x hx a2 k2 hq0 hq1 => FT_pall (A1 := _) (fn124 x a2 k2 p7 s sa1 sk1 sa2 sk2 sa3 sk3 hq0 hq1 pre _ rfl)) rv51 hg52
 refine Oc [9, 0] ca119 hc53 ?_
 rintro - -
 refine Oq Va (KS ?_)
 refine Kc ?_ ?_
 · intro h54
   try (have hvs := (EValid_iff s).1 (by simp only [h12, h17, h22, h27, h32, h38, h43, h48, h54, hg10, hg20, hg30, hg36, hg46, hg52]); have hv1 := hvs.n; have hv2 := hvs.tl; have hv3 := hvs.bl; have hv4 := hvs.w)
   try have hcr := (unknowns_iff s cone).1 (by simp only [h12, h17, h22, h27, h32, h38, h43, h48, h54, hg10, hg20, hg30, hg36, hg46, hg52])
   refine KS ?_
   refine Oq (Vbd st27 [vi 0, .slice none 0 0, .slice none 0 0, .slice none 0 0]) (Ost (Scl [3] sh27 [vi 0, .slice none 0 0, .slice none 0 0, .slice none 0 0]) (Oq Va (KS ?_)))
   refine Jl [] (Ent.slNil (α := List Int)) ?_
   refine Jl [] (Ent.slNil (α := GTransfer)) ?_
   refine Jl [] (Ent.slNil (α := GSet)) ?_
   have hq := q4 hrr ((GSystem.mk 0 [] [] []), 2) (by simp only [cone_Restrict, h12, h17, h22, h27, h32, h38, h43, h48, h54, hg10, hg20, hg30, hg36, hg46, hg52, cs4]); subst hq
   exact Kr (.slice none 0 0, .slice none 0 0, .slice none 0 0) rfl (.cellN 3 rfl sh27 rfl (reads_Cl _ _) rfl (.tmp rfl .nil)) [2, 1, 0] en
 intro h54
 refine KS ?_
 refine Oq (Vfa fo27_0 4) (Oq (VldF sh3 4) (Oq (Vbd st27 [vi s.Width, .slice none 0 0, .slice none 0 0, .slice none 0 0]) (Oa (Al ze27 [vi 0, .slice none 0 0, .slice none 0 0, .slice none 0 0]) fun p57 => Ost (Scl [0] sh27 [vi s.Width, .slice none 0 0, .slice none 0 0, .slice none 0 0]) (KS ?_))))
 refine Oq Vm (Oq (Vlen sl22) (Oq Vm (KS ?_)))
 refine Jl [] (Ent.osNil (α := (List Int))) ?_
 refine Jl [] (Ent.osNil (α := GTransfer)) ?_
 refine Jl [] (Ent.osNil (α := GSet)) ?_
 refine Kl (γ := Nat × List (List Int) × List GTransfer × List GSet × Int × Option Addr × Nat × Option Addr × Nat × Option Addr × Nat) (fun (r58, out1_59, out2_60, out3_61, v52_62, a63, k64, a65, k66, a67, k68) => ⟨[(1, vl conea0 conek0 cone), (2, vl knowna0 knownk0 known), (3, p7), (6, p8), (8, p57), (50, vl conea0 conek0 cone), (51, vi (cone.length : Int)), (52, vi v52_62)], [O a67 k68 out3_61, O a65 k66 out2_60, O a63 k64 out1_59, Cl p57 [vi s.Width, vl a63 k64 out1_59, vl a65 k66 out2_60, vl a67 k68 out3_61], pAll [pv p7 [vi s.Width, vl sa1 sk1 s.Deps, vl sa2 sk2 s.Transfers, vl sa3 sk3 s.Boundary], S sa1 sk1 s.Deps, S sa2 sk2 s.Transfers, S sa3 sk3 s.Boundary], pAll [], pAll [pv p7 [vi s.Width, vl sa1 sk1 s.Deps, vl sa2 sk2 s.Transfers, vl sa3 sk3 s.Boundary], S sa1 sk1 s.Deps, S sa2 sk2 s.Transfers, S sa3 sk3 s.Boundary], Cl p8 [vi 0, .slice none 0 0, .slice none 0 0, .slice none 0 0], pv p7 [vi s.Width, vl sa1 sk1 s.Deps, vl sa2 sk2 s.Transfers, vl sa3 sk3 s.Boundary], S sa1 sk1 s.Deps, S sa2 sk2 s.Transfers, S sa3 sk3 s.Boundary, S conea0 conek0 cone, S knowna0 knownk0 known], cone_Restrict_L0 s cone known r58 out1_59 out2_60 out3_61 v52_62 = cone_Restrict_L0 s cone known (((cone.length : Int) - 0).toNat) [] [] [] 0 ∧ r58 = ((cone.length : Int) - v52_62).toNat ∧ (0 : Int) ≤ v52_62 ∧ v52_62 ≤ (cone.length : Int) ∧ (-9223372036854775808 ≤ v52_62 ∧ v52_62 ≤ 9223372036854775807) ∧ (out1_59.length : Int) ≤ v52_62 ∧ (out2_60.length : Int) ≤ v52_62 ∧ (out3_61.length : Int) ≤ v52_62, r58⟩) (((cone.length : Int) - 0).toNat, [], [], [], 0, none, 0, none, 0, none, 0) [0, 0, 0, 0, 0, 1, 0, 3, 3, 4, 5, 6, 7, 8] ⟨rfl, rfl, (by omega), (by omega), (by omega), iv0, iv0, iv0⟩ ?_
 rintro ⟨r58, out1_59, out2_60, out3_61, v52_62, a63, k64, a65, k66, a67, k68⟩ ⟨hM69, hr70, hi71, hi72, hk73, hv74, hv75, hv76⟩
 refine JJ_nx fun _ _ hL hA => ?_; dsimp only at hL hA; subst hL hA
 refine Fb 32 0 fun hl77 => ?_
 refine Fb 88 1 fun hl78 => ?_
 refine Fb 24 2 fun hl79 => ?_
 refine Fb 24 9 fun hl80 => ?_
 refine Fb 88 10 fun hl81 => ?_
 refine Fb 32 11 fun hl82 => ?_
 refine Fb 8 12 fun hl83 => ?_
 refine Fo 12 fun ho84 => ?_
 refine Fb 40 13 fun hl85 => ?_
 refine KS ?_
 refine Oq Vlss (KS ?_)
 refine Kc ?_ ?_
 · intro h86
   have g87 := of_decide_eq_true h86
   have hq := hcr _ (getD_mem (xs := cone) (i := v52_62.toNat) (d := 0) (by omega))
   have hqn := hvs.dep_n hq.1 hq.2
   obtain ⟨r88, rfl⟩ := scc (n := r58) (by omega)
   refine KS ?_
   refine Oq (Vi sl22 12) ?_
   have hb89 := ok1 (i := v52_62.toNat) ho84 rng
   refine Oq (VldI sh3 12) (Oa (Al ze3 [vi 0]) fun p90 => Ost (Scl [0] sh3 [vi (cone.getD v52_62.toNat 0)]) (KS ?_))
   refine Oq (Vfa fo27_2 9) (Oq (VldF sh24 9) (Oq (Vld sh3 0) (Oq (Vi sl24 11) ?_)))
   refine JJ_peek_GTransfer ((cone.getD v52_62.toNat 0) : Int).toNat 11 rfl rng fun a91 k92 a93 k94 a95 k96 hb97 hb98 => ?_
   unfold i64ok at hb97 hb98
   refine Fb 8 1 fun hl99 => ?_
   refine Fb 8 2 fun hl100 => ?_
   refine Fb 16 3 fun hl101 => ?_
   refine Oq (VldA sh98 0) (Oa (Al ze98 [vi 0, .slice none 0 0, vi 0, .slice none 0 0, .slice none 0 0]) fun p102 => Ost (Scl [0] sh98 [vi (((s.Transfers.getD ((cone.getD v52_62.toNat 0) : Int).toNat default).Gen).Width), .slice a91 ((((s.Transfers.getD ((cone.getD v52_62.toNat 0) : Int).toNat default).Gen).Words).length) k92, vi (((s.Transfers.getD ((cone.getD v52_62.toNat 0) : Int).toNat default).Kill).Width), .slice a93 ((((s.Transfers.getD ((cone.getD v52_62.toNat 0) : Int).toNat default).Kill).Words).length) k94, .slice a95 (((s.Transfers.getD ((cone.getD v52_62.toNat 0) : Int).toNat default).Copies).length) k96]) (KS ?_))
   refine Jp 9 fun hp103 => ?_
   refine Jp 1 fun hp104 => ?_
   refine JK_drawK [0, 1, 0, 4, 12, 0, 32, 124, 0, 256, 1020, 2044, 4092, 8191, 16383, 32767] fmix ?_
   refine Dv [1] (Vfa fo27_2 0) (Dv [11] (VldF sh24 0) (Dv [0] (Vfa fo98_0 0) (Dv [2] (VldG sh42 0 [vi (((s.Transfers.getD ((cone.getD v52_62.toNat 0) : Int).toNat default).Gen).Width), .slice a91 ((((s.Transfers.getD ((cone.getD v52_62.toNat 0) : Int).toNat default).Gen).Words).length) k92]) ?_)))
   refine letv (cone_clone ((s.Transfers.getD ((cone.getD v52_62.toNat 0) : Int).toNat default).Gen)) fun rv106 hg107 => ?_
   refine Dx [4] [] [2, 0, 1] (fun G => .agg #[vi rv106.Width, (G.g 4 0)]) [fun G => SP.fact (i64ok rv106.Width), fun G => sl (G.g 4 0) rv106.Words] (fun G => xC [0] ca125 (fn125 (((s.Transfers.getD ((cone.getD v52_62.toNat 0) : Int).toNat default).Gen)) a91 k92 pre rv106 hg107)) (Dv [0] (Vfa fo98_1 0) (Dv [2] (VldG sh42 0 [vi (((s.Transfers.getD ((cone.getD v52_62.toNat 0) : Int).toNat default).Kill).Width), .slice a93 ((((s.Transfers.getD ((cone.getD v52_62.toNat 0) : Int).toNat default).Kill).Words).length) k94]) ?_))
   refine letv (cone_clone ((s.Transfers.getD ((cone.getD v52_62.toNat 0) : Int).toNat default).Kill)) fun rv109 hg110 => ?_
   refine Dx [5, 22] [] [2, 3, 0, 1] (fun G => .agg #[vi rv109.Width, (G.g 7 0)]) [fun G => SP.fact (i64ok rv109.Width), fun G => sl (G.g 7 0) rv109.Words] (fun G => by refine xf 1 rfl ?_; rintro he111; unfold i64ok at he111; exact xC [0] ca125 (fn125 (((s.Transfers.getD ((cone.getD v52_62.toNat 0) : Int).toNat default).Kill)) a93 k94 pre rv109 hg110)) (Dv [0] (Vfa fo98_2 0) (Dv [2] (VldF sh96 0) ?_))
   refine letv (slices_Clone_Copy ((s.Transfers.getD ((cone.getD v52_62.toNat 0) : Int).toNat default).Copies)) fun rv113 hg114 => ?_
   refine Dx [6] [] [2, 0, 1] (fun G => (G.g 10 0)) [fun G => SP.fact ((rv113.length = ((s.Transfers.getD ((cone.getD v52_62.toNat 0) : Int).toNat default).Copies).length)), fun G => os (G.g 10 0) rv113] (fun G => xC [0] ca126 (fn126 ((s.Transfers.getD ((cone.getD v52_62.toNat 0) : Int).toNat default).Copies) a95 k96 rv113 hg114)) ?_
   refine Dx [23, 25, 27] [] [0, 1, 2] (fun G => .agg #[vi rv106.Width, (G.g 4 0), vi rv109.Width, (G.g 7 0), (G.g 10 0)]) [] (fun G => xV (v := .agg #[vi rv106.Width, (G.g 4 0), vi rv109.Width, (G.g 7 0), (G.g 10 0)]) (Vo 0 rfl (isO_sl _ _) fun aq115 kq116 eq117 => (by rw [eq117]; exact Vo 1 rfl (isO_sl _ _) fun aq118 kq119 eq120 => (by rw [eq120]; exact Vo 2 rfl (isO_os _ _) fun aq121 kq122 eq123 => (by rw [eq123]; exact Vbd st98 [vi rv106.Width, .slice aq115 ((rv106.Words : List (BitVec 64)).length) kq116, vi rv109.Width, .slice aq118 ((rv109.Words : List (BitVec 64)).length) kq119, .slice aq121 ((rv113 : List GCopy).length) kq122]))))) (Dx [] [] [0] (fun G => (G.g 12 0)) [fun G => Cr (G.g 12 0) 1 [vi rv106.Width, (G.g 4 0), vi rv109.Width, (G.g 7 0), (G.g 10 0)]] (fun G => xA (AsV sl24 sz24 [.agg #[vi rv106.Width, (G.g 4 0), vi rv109.Width, (G.g 7 0), (G.g 10 0)]] [vi rv106.Width, (G.g 4 0), vi rv109.Width, (G.g 7 0), (G.g 10 0)])) ?_)
   have hn126 := la out2_60 ([(GTransfer.mk rv106 rv109 rv113)] : List GTransfer)
   refine Dx [9, 22, 23, 24, 25, 26, 27, 28] [9, 27, 28] [5, 1, 7, 2, 9, 3, 0] (fun G => (G.g 13 0)) [fun G => sl (G.g 10 0) rv113, fun G => os (G.g 13 0) ((out2_60 ++ [(GTransfer.mk rv106 rv109 rv113)]) : List GTransfer)] (fun G => by refine xf 1 rfl ?_; rintro he127; unfold i64ok at he127; refine xf 3 rfl ?_; rintro he128; unfold i64ok at he128; refine xf 5 rfl ?_; rintro he129; exact xp [6] rfl (Ent.freeze _ _) (xp [7, 3, 5, 0] rfl (Ent.cr1 (α := GTransfer) (A := [sl (G.g 4 0) rv106.Words, sl (G.g 7 0) rv109.Words, sl (G.g 10 0) rv113]) _ (GTransfer.mk rv106 rv109 rv113) _ (Nat.le_of_ble_eq_true rfl) (fun h => ⟨_, _, _, rfl, (by unfold i64ok; first | omega | (dsimp only; omega)), sepAll_get (i := 0) rfl h, (by unfold i64ok; first | omega | (dsimp only; omega)), sepAll_get (i := 1) rfl h, sepAll_get (i := 2) rfl h⟩)) (xA (ApO [5, 0] sl24 sl24 sz24)))) (Dv [1] (Vfa fo27_2 0) (Dx0 [11, 30] [11] [1, 0] [fun G => Cl p57 [vi s.Width, vl a63 k64 out1_59, (G.g 13 0), vl a67 k68 out3_61]] (fun G => x1 1 rfl os_one fun ho130 => (xS (OpS.frame [0] rfl (OpS.storeClF [(G.g 13 0)] [vi s.Width, vl a63 k64 out1_59, (G.g 13 0), vl a67 k68 out3_61] rfl rfl rfl sh24 (cells_of_one ho130) rfl (by simp only [List.all_cons, List.all_nil, ho130, Bool.and_true, Bool.true_and] <;> rfl) (Nat.le_of_ble_eq_true rfl) rfl)))) ?_))
   refine Dn ⟨by kernel_rfl, fun G => ?_⟩
   refine Jw2 [(1, vl conea0 conek0 cone), (2, vl knowna0 knownk0 known), (3, p7), (6, p8), (8, p57), (50, vl conea0 conek0 cone), (51, vi (cone.length : Int)), (52, vi v52_62), (10, p90)] [0, 1, 2, 3, 4, 5, 6, 7, 8, 10, 12, 13, 14, 15, 16, 17, 18, 19, 20, 21] [SP.fact (i64ok rv106.Width), sl (G.g 4 0) rv106.Words, SP.fact (i64ok rv109.Width), sl (G.g 7 0) rv109.Words, SP.fact ((rv113.length = ((s.Transfers.getD ((cone.getD v52_62.toNat 0) : Int).toNat default).Copies).length)), sl (G.g 10 0) rv113, os (G.g 13 0) ((out2_60 ++ [(GTransfer.mk rv106 rv109 rv113)]) : List GTransfer), Cl p57 [vi s.Width, vl a63 k64 out1_59, (G.g 13 0), vl a67 k68 out3_61]] ?_
   generalize G.g 4 0 = c105, G.g 7 0 = c108, G.g 10 0 = c112, G.g 13 0 = c125
   refine Jf 20 rfl ?_; rintro he131
   unfold i64ok at he131
   refine Jf 22 rfl ?_; rintro he132
   unfold i64ok at he132
   refine Jf 24 rfl ?_; rintro he133
   refine Jk [2, 2, 3, 4, 5, 6, 6, 6, 6, 7, 8, 9, 9, 10, 11, 12, 13, 14, 16, 18, 20, 21, 21] ?_
   refine Jo 18 ?_; rintro a134 k135 rfl
   refine Fb 8 18 fun hl136 => ?_
   refine Jo 19 ?_; rintro a137 k138 rfl
   refine Fb 8 19 fun hl139 => ?_
   refine Jo 20 ?_; rintro a140 k141 rfl
   refine Fb 16 20 fun hl142 => ?_
   refine Jo 21 ?_; rintro a143 k144 rfl
   refine Fb 88 21 fun hl145 => ?_
   refine KS ?_
   refine Oq Vm (Oq (Vf [p90]) ?_)
   refine Jl [5] (Ent.freezeCl _ _) ?_
   refine JJ_ent (Ent.pall [0] rfl rfl) ?_
   refine letv (slices_IndexFunc_Known known (fun x => cone_Restrict_4 x (cone.getD v52_62.toNat 0))) fun rv146 hg147 => ?_
   have hc148 := fn127 known knowna0 knownk0 128 [p90] (fun x => cone_Restrict_4 x (cone.getD v52_62.toNat 0)) [pv p90 [vi (cone.getD v52_62.toNat 0)]] ca128 (fun x hx a2 k2 hq0 hq1 => FT_pall (A1 := _) (fn128 x a2 k2 p90 (cone.getD v52_62.toNat 0) hq0 hq1 pre _ rfl)) rv146 hg147
   refine Oc [18, 0] ca127 hc148 ?_
   rintro - ⟨he149, he150⟩
   unfold i64ok at he149
   refine Oq Va (KS ?_)
   refine Oq Vm (Oq Vgeq (KS ?_))
   refine Kc ?_ ?_
   · intro h151
     have g152 := of_decide_eq_true h151
     refine KS ?_
     refine Oq (Vfa fo27_1 23) (Oq (VldF sh23 23) (Oa (AsV sl23 sz23 [.slice none 0 0] [.slice none 0 0]) fun c153 => ?_))
     refine Jo 0 ?_; rintro a154 k155 rfl
     refine Jl [0] (Ent.cr1 (α := List Int) (A := []) _ [] _ (Nat.le_of_ble_eq_true rfl) (fun _ => ⟨_, rfl, slrd_nil⟩)) ?_
     refine Oa (ApO [9, 0] sl23 sl23 sz23) fun c156 => ?_
     refine Jo 0 ?_; rintro a157 k158 rfl
     refine Fb 24 0 fun hl159 => ?_
     have hn160 := la out1_59 ([([] : List Int)] : List (List Int))
     refine Oq (Vfa fo27_1 23) (Ost (SclF [23] sh23 [vi s.Width, vl a157 k158 (out1_59 ++ [([] : List Int)]), vl a143 k144 (out2_60 ++ [(GTransfer.mk rv106 rv109 rv113)]), vl a67 k68 out3_61]) (KS ?_))
     refine Jp 0 fun hp161 => ?_
     refine JJ_peek_GKnown rv146.toNat 20 rfl rng fun a162 k163 hb164 hb165 => ?_
     unfold i64ok at hb164 hb165
     refine Fb 8 1 fun hl166 => ?_
     refine JK_drawK [0, 1, 0, 0, 12, 28, 60, 124, 252, 511, 1023, 2047] fmix ?_
     refine Dv [2] (Vfa fo27_3 0) (Dv [3] (VldF sh25 0) (Dv [] Vm (Dv [] Vm (Dv [22] (Vi sl53 0) (Dv [0] (Vfa fo67_1 0) (Dv [0] (VldG sh42 0 [vi (((known.getD rv146.toNat default).Value).Width), vl a162 k163 (((known.getD rv146.toNat default).Value).Words)]) ?_))))))
     refine letv (cone_clone ((known.getD rv146.toNat default).Value)) fun rv168 hg169 => ?_
     refine Dx [1] [] [2, 0, 1] (fun G => .agg #[vi rv168.Width, (G.g 7 0)]) [fun G => SP.fact (i64ok rv168.Width), fun G => sl (G.g 7 0) rv168.Words] (fun G => xC [0] ca125 (fn125 (((known.getD rv146.toNat default).Value)) a162 k163 pre rv168 hg169)) (Dx [] [] [0] (fun G => (G.g 8 0)) [fun G => Cr (G.g 8 0) 1 [vi rv168.Width, (G.g 7 0)]] (fun G => xA (AsV sl25 sz25 [.agg #[vi rv168.Width, (G.g 7 0)]] [vi rv168.Width, (G.g 7 0)])) ?_)
     have hn172 := la out3_61 ([rv168] : List GSet)
     refine Dx [12, 27, 28, 29] [12, 29] [2, 1, 0] (fun G => (G.g 9 0)) [fun G => os (G.g 9 0) ((out3_61 ++ [rv168]) : List GSet)] (fun G => by refine xf 1 rfl ?_; rintro he173; unfold i64ok at he173; exact xp [3, 2] rfl (Ent.cr1 (α := GSet) (A := [sl (G.g 7 0) rv168.Words]) _ rv168 _ (Nat.le_of_ble_eq_true rfl) (fun h => ⟨_, rfl, (by unfold i64ok; first | omega | (dsimp only; omega)), sepAll_get (i := 0) rfl h⟩)) (xA (ApO [2, 0] sl25 sl25 sz25))) (Dv [2] (Vfa fo27_3 0) (Dx0 [3, 30] [3] [1, 0] [fun G => Cl p57 [vi s.Width, vl a157 k158 (out1_59 ++ [([] : List Int)]), vl a143 k144 (out2_60 ++ [(GTransfer.mk rv106 rv109 rv113)]), (G.g 9 0)]] (fun G => x1 1 rfl os_one fun ho174 => (xS (OpS.frame [0] rfl (OpS.storeClF [(G.g 9 0)] [vi s.Width, vl a157 k158 (out1_59 ++ [([] : List Int)]), vl a143 k144 (out2_60 ++ [(GTransfer.mk rv106 rv109 rv113)]), (G.g 9 0)] rfl rfl rfl sh25 (cells_of_one ho174) rfl (by simp only [List.all_cons, List.all_nil, ho174, Bool.and_true, Bool.true_and] <;> rfl) (Nat.le_of_ble_eq_true rfl) rfl)))) ?_))
     refine Dn ⟨by kernel_rfl, fun G => ?_⟩
     refine Jw2 [(1, vl conea0 conek0 cone), (2, vl knowna0 knownk0 known), (3, p7), (6, p8), (8, p57), (50, vl conea0 conek0 cone), (51, vi (cone.length : Int)), (52, vi v52_62)] [0, 1, 2, 4, 5, 6, 7, 8, 9, 10, 11, 13, 14, 15, 16, 17, 18, 19, 20, 21, 22, 23, 24, 25, 26] [SP.fact (i64ok rv168.Width), sl (G.g 7 0) rv168.Words, os (G.g 9 0) ((out3_61 ++ [rv168]) : List GSet), Cl p57 [vi s.Width, vl a157 k158 (out1_59 ++ [([] : List Int)]), vl a143 k144 (out2_60 ++ [(GTransfer.mk rv106 rv109 rv113)]), (G.g 9 0)]] ?_
     generalize G.g 7 0 = c167, G.g 9 0 = c171
     refine Jf 25 rfl ?_; rintro he175
     unfold i64ok at he175
     refine Jk [0, 1, 3, 3, 4, 5, 5, 6, 7, 8, 9, 10, 11, 12, 12, 13, 14, 15, 16, 17, 18, 19, 20, 21, 22, 23, 23] ?_
     refine Jo 24 ?_; rintro a176 k177 rfl
     refine Fb 8 24 fun hl178 => ?_
     refine Jo 25 ?_; rintro a179 k180 rfl
     refine Fb 32 25 fun hl181 => ?_
     refine Ke ?_
     refine KS ?_
     refine Oq Vadd (Oq Vm (KS ?_))
     exact Kg (r88, (out1_59 ++ [([] : List Int)]), (out2_60 ++ [(GTransfer.mk rv106 rv109 rv113)]), (out3_61 ++ [rv168]), (v52_62 + 1), a157, k158, a143, k144, a179, k180) [25, 23, 2, 23, 9, 10, 9, 12, 12, 13, 14, 15, 16, 17] ⟨(q3 hM69 (by simp only [cone_Restrict_L0, h12, h17, h22, h27, h32, h38, h43, h48, h54, h86, h151, hg10, hg20, hg30, hg36, hg46, hg52, hg107, hg110, hg114, hg147, hg169, cs4])), (by omega), (by omega), (by omega), (by omega), iv1, iv1, iv1⟩
   intro h151
   have g182 := of_decide_eq_false h151
   refine KS ?_
   refine Oq Va (KS ?_)
   refine Oq (Vfa fo27_1 13) (Oq (VldF sh23 13) (Oq (Vld sh3 1) (Oq (Vi sl23 14) ?_)))
   refine JJ_peekL ((cone.getD v52_62.toNat 0) : Int).toNat 14 rfl rng fun a183 k184 => ?_
   refine Fb 8 1 fun hl185 => ?_
   refine Fo 1 fun ho186 => ?_
   refine Oq (Vld sh22 0) (Oq (Vlen sl22) (Oq Vm (KS ?_)))
   refine Jl [] (Ent.osNil (α := Int)) ?_
   refine Kl (γ := Nat × List Int × Int × Option Addr × Nat) (fun (r187, deps_188, v103_189, a190, k191) => ⟨[(1, vl conea0 conek0 cone), (2, vl knowna0 knownk0 known), (3, p7), (6, p8), (8, p57), (50, vl conea0 conek0 cone), (51, vi (cone.length : Int)), (52, vi v52_62), (10, p90), (13, vl a190 k191 deps_188), (101, vl a183 k184 (s.Deps.getD ((cone.getD v52_62.toNat 0) : Int).toNat [])), (102, vi ((s.Deps.getD ((cone.getD v52_62.toNat 0) : Int).toNat []).length : Int)), (103, vi v103_189)], [O a190 k191 deps_188, S a183 k184 ((s.Deps.getD ((cone.getD v52_62.toNat 0) : Int).toNat []) : List Int), pAll [pv p90 [vi (cone.getD v52_62.toNat 0)]], pv p90 [vi (cone.getD v52_62.toNat 0)], O a67 k68 out3_61, O a63 k64 out1_59, pAll [pv p7 [vi s.Width, vl sa1 sk1 s.Deps, vl sa2 sk2 s.Transfers, vl sa3 sk3 s.Boundary], S sa1 sk1 s.Deps, S sa2 sk2 s.Transfers, S sa3 sk3 s.Boundary], pAll [], pAll [pv p7 [vi s.Width, vl sa1 sk1 s.Deps, vl sa2 sk2 s.Transfers, vl sa3 sk3 s.Boundary], S sa1 sk1 s.Deps, S sa2 sk2 s.Transfers, S sa3 sk3 s.Boundary], Cl p8 [vi 0, .slice none 0 0, .slice none 0 0, .slice none 0 0], pv p7 [vi s.Width, vl sa1 sk1 s.Deps, vl sa2 sk2 s.Transfers, vl sa3 sk3 s.Boundary], S sa1 sk1 s.Deps, S sa2 sk2 s.Transfers, S sa3 sk3 s.Boundary, S conea0 conek0 cone, S knowna0 knownk0 known, O a143 k144 ((out2_60 ++ [(GTransfer.mk rv106 rv109 rv113)]) : List GTransfer), Cl p57 [vi s.Width, vl a63 k64 out1_59, vl a143 k144 (out2_60 ++ [(GTransfer.mk rv106 rv109 rv113)]), vl a67 k68 out3_61]], cone_Restrict_L1 cone (s.Deps.getD ((cone.getD v52_62.toNat 0) : Int).toNat []) r187 deps_188 v103_189 = cone_Restrict_L1 cone (s.Deps.getD ((cone.getD v52_62.toNat 0) : Int).toNat []) (((((s.Deps.getD ((cone.getD v52_62.toNat 0) : Int).toNat []).length : Int) : Int) - 0).toNat) [] 0 ∧ r187 = ((((s.Deps.getD ((cone.getD v52_62.toNat 0) : Int).toNat []).length : Int) : Int) - v103_189).toNat ∧ (0 : Int) ≤ v103_189 ∧ (v103_189 ≤ ((s.Deps.getD ((cone.getD v52_62.toNat 0) : Int).toNat []).length : Int) ∨ v103_189 = 0) ∧ (-9223372036854775808 ≤ v103_189 ∧ v103_189 ≤ 9223372036854775807) ∧ (deps_188.length : Int) ≤ v103_189, r187⟩) (((((s.Deps.getD ((cone.getD v52_62.toNat 0) : Int).toNat []).length : Int) : Int) - 0).toNat, [], 0, none, 0) [0, 1, 2, 3, 9, 9, 9, 10, 9, 12, 12, 13, 14, 15, 16, 17, 21, 21] ⟨rfl, rfl, (by omega), (.inr rfl), (by omega), iv0⟩ ?_
   rintro ⟨r187, deps_188, v103_189, a190, k191⟩ ⟨hM192, hr193, hi194, hi195, hk196, hv197⟩
   refine JJ_nx fun _ _ hL hA => ?_; dsimp only at hL hA; subst hL hA
   refine Fb 8 0 fun hl198 => ?_
   refine Fo 0 fun ho199 => ?_
   refine Fb 8 1 fun hl200 => ?_
   refine Fo 1 fun ho201 => ?_
   refine Fb 32 4 fun hl202 => ?_
   refine Fb 24 5 fun hl203 => ?_
   refine Fb 24 11 fun hl204 => ?_
   refine Fb 88 12 fun hl205 => ?_
   refine Fb 32 13 fun hl206 => ?_
   refine Fb 8 14 fun hl207 => ?_
   refine Fo 14 fun ho208 => ?_
   refine Fb 40 15 fun hl209 => ?_
   refine Fb 88 16 fun hl210 => ?_
   refine KS ?_
   refine Oq Vlss (KS ?_)
   refine Kc ?_ ?_
   · intro h211
     have g212 := of_decide_eq_true h211
     obtain ⟨r213, rfl⟩ := scc (n := r187) (by omega)
     refine KS ?_
     refine Oq (Vi sl22 1) ?_
     have hb214 := ok1 (i := v103_189.toNat) ho201 rng
     refine Oq (VldI sh3 1) (Oq Va (KS ?_))
     refine Oq Vm (Oq Vm ?_)
     refine letv (slices_Index_int cone ((s.Deps.getD ((cone.getD v52_62.toNat 0) : Int).toNat []).getD v103_189.toNat 0)) fun rv215 hg216 => ?_
     have hc217 := fn129 cone conea0 conek0 (((s.Deps.getD ((cone.getD v52_62.toNat 0) : Int).toNat []).getD v103_189.toNat 0)) pre rv215 hg216
     refine Oc [14] ca129 hc217 ?_
     rintro - he218
     unfold i64ok at he218
     refine Oq Va (KS ?_)
     refine Oq Vm (Oq Vgeq (KS ?_))
     refine Kc ?_ ?_
     · intro h219
       have g220 := of_decide_eq_true h219
       refine KS ?_
       refine Oq Vm (Oq Vm (Oa (AsV sl22 sz22 [vi rv215] [vi rv215]) fun c221 => ?_))
       refine Jo 0 ?_; rintro a222 k223 rfl
       refine Jl [0] (Ent.crInt _ [rv215] _ _ rfl rfl (by intro x hx; rw [List.mem_singleton] at hx; subst hx; unfold i64ok; omega) (Nat.le_of_ble_eq_true rfl)) ?_
       refine Oa (ApO [1, 0] sl22 sl22 sz22) fun c224 => ?_
       refine Jo 0 ?_; rintro a225 k226 rfl
       refine Fb 8 0 fun hl227 => ?_
       refine Fo 0 fun ho228 => ?_
       have hn229 := la deps_188 ([rv215] : List Int)
       refine Oq Va (KS ?_)
       refine Oq Vadd (Oq Vm (KS ?_))
       exact Kg (r213, (deps_188 ++ [rv215]), (v103_189 + 1), a225, k226) [0, 0, 1, 2, 3, 3, 3, 4, 3, 6, 6, 7, 8, 9, 10, 11, 12, 12] ⟨(q3 hM192 (by simp only [cone_Restrict_L1, h12, h17, h22, h27, h32, h38, h43, h48, h54, h86, h151, h211, h219, hg10, hg20, hg30, hg36, hg46, hg52, hg107, hg110, hg114, hg147, hg216, cs4])), (by omega), (by omega), (by omega), (by omega), iv1⟩
     intro h219
     have g230 := of_decide_eq_false h219
     refine KS ?_
     refine Oq Vadd (Oq Vm (KS ?_))
     exact Kg (r213, deps_188, (v103_189 + 1), a190, k191) [0, 0, 1, 2, 3, 3, 3, 4, 3, 6, 6, 7, 8, 9, 10, 11, 12, 12] ⟨(q3 hM192 (by simp only [cone_Restrict_L1, h12, h17, h22, h27, h32, h38, h43, h48, h54, h86, h151, h211, h219, hg10, hg20, hg30, hg36, hg46, hg52, hg107, hg110, hg114, hg147, hg216, cs4])), (by omega), (by omega), (by omega), (by omega), iv1⟩
   intro h211
   have g231 := of_decide_eq_false h211
   obtain rfl : r187 = 0 := by omega
   refine Ke ?_
   have hR232 := q2 hM192 deps_188 (by simp only [cone_Restrict_L1, h12, h17, h22, h27, h32, h38, h43, h48, h54, h86, h151, h211, hg10, hg20, hg30, hg36, hg46, hg52, hg107, hg110, hg114, hg147, cs4])
   refine KS ?_
   refine Oq Vm ?_
   refine letv (slices_Sort_int deps_188) fun rv233 hg234 => ?_
   have hc235 := fn130 deps_188 a190 k191 pre rv233 hg234
   refine Oc [0] ca130 hc235 ?_
   rintro - -
   refine KS ?_
   refine Oq (Vfa fo27_1 17) (Oq (VldF sh23 17) (Oq Vm (Oa (AsV sl23 sz23 [vl a190 k191 deps_188] [vl a190 k191 deps_188]) fun c236 => ?_)))
   refine Jo 0 ?_; rintro a237 k238 rfl
   refine Jl [1] (Ent.freeze _ _) ?_
   refine Jl [1, 0] (Ent.cr1 (α := List Int) (A := [sl (vl a190 k191 deps_188) rv233]) _ rv233 _ (Nat.le_of_ble_eq_true rfl) (fun h => ⟨_, rfl, sepAll_get (i := 0) rfl h⟩)) ?_
   refine Oa (ApO [7, 0] sl23 sl23 sz23) fun c239 => ?_
   refine Jo 0 ?_; rintro a240 k241 rfl
   refine Fb 24 0 fun hl242 => ?_
   have hn243 := la out1_59 ([rv233] : List (List Int))
   refine Oq (Vfa fo27_1 18) (Ost (SclF [18] sh23 [vi s.Width, vl a240 k241 (out1_59 ++ [rv233]), vl a143 k144 (out2_60 ++ [(GTransfer.mk rv106 rv109 rv113)]), vl a67 k68 out3_61]) (KS ?_))
   refine Jp 0 fun hp244 => ?_
   refine JJ_peek_GSet ((cone.getD v52_62.toNat 0) : Int).toNat 16 rfl rng fun a245 k246 hb247 => ?_
   unfold i64ok at hb247
   refine Fb 8 1 fun hl248 => ?_
   refine JK_drawK [0, 1, 0, 4, 0, 28, 60, 124, 252, 511, 1023, 2047] fmix ?_
   refine Dv [2] (Vfa fo27_3 0) (Dv [3] (VldF sh25 0) (Dv [15] (Vfa fo27_3 0) (Dv [15] (VldF sh25 0) (Dv [9] (Vld sh3 0) (Dv [18] (Vi sl25 0) (Dv [0] (VldA sh42 0) ?_))))))
   refine letv (cone_clone (s.Boundary.getD ((cone.getD v52_62.toNat 0) : Int).toNat default)) fun rv250 hg251 => ?_
   refine Dx [1] [] [2, 0, 1] (fun G => .agg #[vi rv250.Width, (G.g 7 0)]) [fun G => SP.fact (i64ok rv250.Width), fun G => sl (G.g 7 0) rv250.Words] (fun G => xC [0] ca125 (fn125 ((s.Boundary.getD ((cone.getD v52_62.toNat 0) : Int).toNat default)) a245 k246 pre rv250 hg251)) (Dx [] [] [0] (fun G => (G.g 8 0)) [fun G => Cr (G.g 8 0) 1 [vi rv250.Width, (G.g 7 0)]] (fun G => xA (AsV sl25 sz25 [.agg #[vi rv250.Width, (G.g 7 0)]] [vi rv250.Width, (G.g 7 0)])) ?_)
   have hn254 := la out3_61 ([rv250] : List GSet)
   refine Dx [10, 22, 23, 24] [10, 24] [2, 1, 0] (fun G => (G.g 9 0)) [fun G => os (G.g 9 0) ((out3_61 ++ [rv250]) : List GSet)] (fun G => by refine xf 1 rfl ?_; rintro he255; unfold i64ok at he255; exact xp [3, 2] rfl (Ent.cr1 (α := GSet) (A := [sl (G.g 7 0) rv250.Words]) _ rv250 _ (Nat.le_of_ble_eq_true rfl) (fun h => ⟨_, rfl, (by unfold i64ok; first | omega | (dsimp only; omega)), sepAll_get (i := 0) rfl h⟩)) (xA (ApO [2, 0] sl25 sl25 sz25))) (Dv [2] (Vfa fo27_3 0) (Dx0 [3, 25] [3] [1, 0] [fun G => Cl p57 [vi s.Width, vl a240 k241 (out1_59 ++ [rv233]), vl a143 k144 (out2_60 ++ [(GTransfer.mk rv106 rv109 rv113)]), (G.g 9 0)]] (fun G => x1 1 rfl os_one fun ho256 => (xS (OpS.frame [0] rfl (OpS.storeClF [(G.g 9 0)] [vi s.Width, vl a240 k241 (out1_59 ++ [rv233]), vl a143 k144 (out2_60 ++ [(GTransfer.mk rv106 rv109 rv113)]), (G.g 9 0)] rfl rfl rfl sh25 (cells_of_one ho256) rfl (by simp only [List.all_cons, List.all_nil, ho256, Bool.and_true, Bool.true_and] <;> rfl) (Nat.le_of_ble_eq_true rfl) rfl)))) ?_))
   refine Dn ⟨by kernel_rfl, fun G => ?_⟩
   refine Jw2 [(1, vl conea0 conek0 cone), (2, vl knowna0 knownk0 known), (3, p7), (6, p8), (8, p57), (50, vl conea0 conek0 cone), (51, vi (cone.length : Int)), (52, vi v52_62)] [0, 1, 2, 4, 5, 6, 7, 8, 9, 11, 12, 13, 14, 15, 16, 17, 18, 19, 20, 21] [SP.fact (i64ok rv250.Width), sl (G.g 7 0) rv250.Words, os (G.g 9 0) ((out3_61 ++ [rv250]) : List GSet), Cl p57 [vi s.Width, vl a240 k241 (out1_59 ++ [rv233]), vl a143 k144 (out2_60 ++ [(GTransfer.mk rv106 rv109 rv113)]), (G.g 9 0)]] ?_
   generalize G.g 7 0 = c249, G.g 9 0 = c253
   refine Jf 20 rfl ?_; rintro he257
   unfold i64ok at he257
   refine Jk [0, 1, 3, 3, 4, 5, 6, 7, 8, 9, 10, 11, 11, 12, 13, 14, 15, 16, 17, 18, 19, 19] ?_
   refine Jo 19 ?_; rintro a258 k259 rfl
   refine Fb 8 19 fun hl260 => ?_
   refine Jo 20 ?_; rintro a261 k262 rfl
   refine Fb 32 20 fun hl263 => ?_
   refine KS ?_
   refine Oq Vadd (Oq Vm (KS ?_))
   exact Kg (r88, (out1_59 ++ [rv233]), (out2_60 ++ [(GTransfer.mk rv106 rv109 rv113)]), (out3_61 ++ [rv250]), (v52_62 + 1), a240, k241, a143, k144, a261, k262) [20, 18, 2, 18, 7, 8, 7, 10, 10, 11, 12, 13, 14, 15] ⟨(q3 hM69 (by simp only [cone_Restrict_L0, h12, h17, h22, h27, h32, h38, h43, h48, h54, h86, h151, h211, hg10, hg20, hg30, hg36, hg46, hg52, hg107, hg110, hg114, hg147, hR232, hg234, hg251, cs4])), (by omega), (by omega), (by omega), (by omega), iv1, iv1, iv1⟩
 intro h86
 have g264 := of_decide_eq_false h86
 obtain rfl : r58 = 0 := by omega
 refine Ke ?_
 have hR265 := q2 hM69 (out1_59, out2_60, out3_61) (by simp only [cone_Restrict_L0, h12, h17, h22, h27, h32, h38, h43, h48, h54, h86, hg10, hg20, hg30, hg36, hg46, hg52, cs4])
 refine KS ?_
 refine Oq (VldA sh27 3) (Ost (Scl [7] sh27 [vi s.Width, vl a63 k64 out1_59, vl a65 k66 out2_60, vl a67 k68 out3_61]) (Oq Va (KS ?_)))
 refine Jl [3] (Ent.freeze _ _) ?_
 refine Jl [3] (Ent.freeze _ _) ?_
 refine Jl [3] (Ent.freeze _ _) ?_
 have hq := q4 hrr ((GSystem.mk s.Width out1_59 out2_60 out3_61), 0) (by simp only [cone_Restrict, h12, h17, h22, h27, h32, h38, h43, h48, h54, h86, hg10, hg20, hg30, hg36, hg46, hg52, hR265, cs4]); subst hq
 exact Kr (vl a63 k64 out1_59, vl a65 k66 out2_60, vl a67 k68 out3_61) rfl (.cellN 3 rfl sh27 rfl (reads_Cl _ _) rfl (.tmp rfl .nil)) [2, 1, 0] en
theorem fn40 (a : List Int) (aa0 : Option Addr) (ak0 : Nat) (b : List Int) (ba0 : Option Addr) (bk0 : Nat) (rr : Bool) (hrr : flqref7_Ints a b = rr) : FT Tryz.prog 40 #[vl aa0 ak0 a, vl ba0 bk0 b] [S aa0 ak0 a, S ba0 bk0 b] (fun g : Unit => True) (fun g => vb rr) (fun g => []) := by
 refine FTi Tryz.func40 fun w0 M0 F0 => ?_
 refine Fb 8 0 fun hl1 => ?_
 refine Fo 0 fun ho2 => ?_
 refine Fb 8 1 fun hl3 => ?_
 refine Fo 1 fun ho4 => ?_
 refine KS ?_
 refine Oq Va (KS ?_)
 refine Oq Vm (Oq (Vlen sl22) (Oq Vm (Oq (Vlen sl22) (Oq Vneq (KS ?_)))))
 refine Kc ?_ ?_
 · intro h5
   have g6 := ne_of_bne h5
   refine KS ?_
   refine Oq Va (KS ?_)
   have hq := q4 hrr false (by simp only [flqref7_Ints, h5, cs4]); subst hq
   exact Kr () rfl (.tmp rfl .nil) [] trivial
 intro h5
 have g7 := eq_of_bne_false h5
 refine KS ?_
 refine Oq Va (KS ?_)
 refine Kl (γ := Nat × Int) (fun (r8, i_9) => ⟨[(0, vl aa0 ak0 a), (1, vl ba0 bk0 b), (5, vi i_9)], [S aa0 ak0 a, S ba0 bk0 b], flqref7_Ints_L0 a b r8 i_9 = flqref7_Ints_L0 a b (((a.length : Int) - 0).toNat) 0 ∧ r8 = ((a.length : Int) - i_9).toNat ∧ (0 : Int) ≤ i_9 ∧ i_9 ≤ (a.length : Int) ∧ (-9223372036854775808 ≤ i_9 ∧ i_9 ≤ 9223372036854775807), r8⟩) (((a.length : Int) - 0).toNat, 0) [0, 1] ⟨rfl, rfl, (by omega), (by omega), (by omega)⟩ ?_
 rintro ⟨r8, i_9⟩ ⟨hM10, hr11, hi12, hi13, hk14⟩
 refine JJ_nx fun _ _ hL hA => ?_; dsimp only at hL hA; subst hL hA
 refine Fb 8 0 fun hl15 => ?_
 refine Fo 0 fun ho16 => ?_
 refine Fb 8 1 fun hl17 => ?_
 refine Fo 1 fun ho18 => ?_
 refine KS ?_
 refine Oq Vm (Oq Vm (Oq (Vlen sl22) (Oq Vlss (KS ?_))))
 refine Kc ?_ ?_
 · intro h19
   have g20 := of_decide_eq_true h19
   obtain ⟨r21, rfl⟩ := scc (n := r8) (by omega)
   refine KS ?_
   refine Kq [0, 0, 3, 7, 0, 0, 48, 112, 255] fmix ?_
   refine Qv [] Vm (Qv [] Vm (Qv [0] (Vi sl22 0) ?_))
   have hb22 := ok1 (i := i_9.toNat) ho16 rng
   refine Qv [0] (VldI sh3 0) (Qv [] Vm (Qv [] Vm (Qv [1] (Vi sl22 0) ?_)))
   have hb23 := ok1 (i := i_9.toNat) ho18 rng
   refine Qv [1] (VldI sh3 0) (Qv [] Vneq ?_)
   refine Qn ⟨by kernel_rfl, ?_⟩
   refine Kc ?_ ?_
   · intro h24
     have g25 := ne_of_bne h24
     refine KS ?_
     refine Oq Va (KS ?_)
     have hR26 := q2 hM10 (.ret false) (by simp only [flqref7_Ints_L0, h5, h19, h24, cs4])
     have hq := q4 hrr false (by simp only [flqref7_Ints, h5, h19, h24, hR26, cs4]); subst hq
     exact Kr () rfl (.tmp rfl .nil) [] trivial
   intro h24
   have g27 := eq_of_bne_false h24
   refine KS ?_
   refine Oq Vm (Oq Vadd (Oq Va (KS ?_)))
   exact Kg (r21, (i_9 + 1)) [0, 1] ⟨(q3 hM10 (by simp only [flqref7_Ints_L0, h5, h19, h24, cs4])), (by omega), (by omega), (by omega), (by omega)⟩
 intro h19
 have g28 := of_decide_eq_false h19
 obtain rfl : r8 = 0 := by omega
 refine Ke ?_
 have hR29 := q2 hM10 (.brk ()) (by simp only [flqref7_Ints_L0, h5, h19, cs4])
 refine KS ?_
 refine Oq Va (KS ?_)
 have hq := q4 hrr true (by simp only [flqref7_Ints, h5, h19, hR29, cs4]); subst hq
 exact Kr () rfl (.tmp rfl .nil) [] trivial
theorem fn82 (s : List Int) (sa0 : Option Addr) (sk0 : Nat) (v : Int) (hv_0 : i64ok v) (rr : Bool) (hrr : slices_Contains_int s v = rr) : FT Tryz.prog 82 #[vl sa0 sk0 s, vi v] [S sa0 sk0 s] (fun g : Unit => True) (fun g => vb rr) (fun g => []) := by
 refine FTi Tryz.func82 fun w0 M0 F0 => ?_
 unfold i64ok at hv_0
 refine Fb 8 0 fun hl1 => ?_
 refine Fo 0 fun ho2 => ?_
 refine KS ?_
 refine Oq Va (KS ?_)
 refine Oq Vm (Oq Vm ?_)
 refine letv (slices_Index_int s v) fun rv3 hg4 => ?_
 have hc5 := fn129 s sa0 sk0 v pre rv3 hg4
 refine Oc [0] ca129 hc5 ?_
 rintro - he6
 unfold i64ok at he6
 refine Oq Vgeq (Oq Va (KS ?_))
 have hq := q4 hrr (decide (0 ≤ rv3)) (by simp only [slices_Contains_int, hg4, cs4]); subst hq
 exact Kr () rfl (.tmp rfl .nil) [] trivial
theorem fn137 (s : List Int) (sa0 : Option Addr) (sk0 : Nat) (rr : List Int) (hrr : slices_Clip_int s = rr) : FT Tryz.prog 137 #[vl sa0 sk0 s] [S sa0 sk0 s] (fun g : Value => True) (fun g => g) (fun g => [sl g rr]) := by
 refine FTi Tryz.func137 fun w0 M0 F0 => ?_
 refine Fb 8 0 fun hl1 => ?_
 refine Fo 0 fun ho2 => ?_
 refine KS ?_
 refine Oq Va (KS ?_)
 refine Oq Vm (Oq Vm (Oq (Vlen sl22) (Oq Vm (Oq (Vlen sl22) (Oa (OpA.frame [0] rfl (OpA.sliceSl3 0 ((s.length : Int).toNat) ((s.length : Int).toNat) rfl rfl sl22 rfl rfl ⟨_, natc rfl (by omega)⟩ ⟨_, natc rfl (by omega)⟩ rng rng rng rng)) fun c3 => ?_)))))
 refine Jo 0 ?_; rintro a4 k5 rfl
 refine Fb 8 0 fun hl6 => ?_
 refine Fo 0 fun ho7 => ?_
 have hn8 : ((s.take ((s.length : Int).toNat)).drop 0).length = ((s.length : Int).toNat) - 0 := len_slice rng rng
 refine Oq Va (KS ?_)
 have hq := q4 hrr ((s.take ((s.length : Int).toNat)).drop 0) (by simp only [slices_Clip_int, cs4]); subst hq
 exact Kr (.slice a4 (((s.take ((s.length : Int).toNat)).drop 0).length) k5) rfl (.tmp rfl .nil) [0] trivial
theorem fn60 (s : GSystem) (sa1 : Option Addr) (sk1 : Nat) (sa2 : Option Addr) (sk2 : Nat) (sa3 : Option Addr) (sk3 : Nat) (root : Int) (leaves : List Int) (leavesa0 : Option Addr) (leavesk0 : Nat) (hs_0 : i64ok s.Width) (hroot_0 : i64ok root) (rr : List Int × Int × Int) (hrr : cone_Of s root leaves = rr) : FT Tryz.prog 60 #[.agg #[vi s.Width, vl sa1 sk1 s.Deps, vl sa2 sk2 s.Transfers, vl sa3 sk3 s.Boundary], vi root, vl leavesa0 leavesk0 leaves] [S sa1 sk1 s.Deps, S sa2 sk2 s.Transfers, S sa3 sk3 s.Boundary, S leavesa0 leavesk0 leaves] (fun g : Value => i64ok rr.2.1 ∧ i64ok rr.2.2) (fun g => .tuple #[g, vi rr.2.1, vi rr.2.2]) (fun g => [sl g rr.1]) := by
 refine FTi Tryz.func60 fun w0 M0 F0 => ?_
 unfold i64ok at hs_0 hroot_0
 refine Fb 24 0 fun hl1 => ?_
 refine Fb 88 1 fun hl2 => ?_
 refine Fb 32 2 fun hl3 => ?_
 refine Fb 8 3 fun hl4 => ?_
 refine Fo 3 fun ho5 => ?_
 refine KS ?_
 refine Oa (Ab [vi s.Width, vl sa1 sk1 s.Deps, vl sa2 sk2 s.Transfers, vl sa3 sk3 s.Boundary]) fun p6 => Oq Va (Oq Va (Oq Va (KS ?_)))
 refine Oq (VldA sh27 0) ?_
 refine letv (equations_Valid s) fun rv7 hg8 => ?_
 have hc9 := fn109 s sa1 sk1 sa2 sk2 sa3 sk3 pre rv7 hg8
 refine Oc [1, 2, 3] ca109 hc9 ?_
 rintro - -
 refine Oq Vnot (Oq Va (KS ?_))
 refine Kc ?_ ?_
 · intro h10
   have h12 := not_true h10
   refine KS ?_
   refine Oq Va (Oq Va (Oq Va (KS ?_)))
   refine Jl [] (Ent.slNil (α := Int)) ?_
   have hq := q4 hrr ([], 0, 1) (by simp only [cone_Of, h10, h12, hg8, cs4]); subst hq
   exact Kr (.slice none 0 0) rfl (.tmp rfl (.tmp rfl (.tmp rfl .nil))) [0] en
 intro h10
 have h15 := not_false h10
 try have hrt := (unknowns_iff s [root]).1 (by simp only [h10, h15, hg8]) root (by simp)
 refine KS ?_
 refine Oq (VldA sh27 0) (Oq Vm (Oa (AsV sl22 sz22 [vi root] [vi root]) fun c17 => ?_))
 refine Jo 0 ?_; rintro a18 k19 rfl
 refine Jl [0] (Ent.crInt _ [root] _ _ rfl rfl (by intro x hx; rw [List.mem_singleton] at hx; subst hx; unfold i64ok; omega) (Nat.le_of_ble_eq_true rfl)) ?_
 refine letv (cone_unknowns s [root]) fun rv20 hg21 => ?_
 refine Oc [0, 1, 2, 3] ca118 (FT_borrow (A := _) (fun _ _ h => by cases h) (FT_ent (Ent.take (is := [1, 2, 3, 0]) rfl) (fn118 s sa1 sk1 sa2 sk2 sa3 sk3 ([root]) a18 k19 pre rv20 hg21))) ?_ (ht := rfl)
 rintro - -
 refine Oq Vnot (Oq Vm ?_)
 refine Js 25 ?_ ?_
 · intro h22
   have h24 := not_true h22
   refine Osk (Osk (Osk (Osk (Oq Vpt (Oq Va (KS ?_))))))
   refine Kt ?_
   refine KS ?_
   refine Oq Va (Oq Va (Oq Va (KS ?_)))
   refine Jl [] (Ent.slNil (α := Int)) ?_
   have hq := q4 hrr ([], 0, 9) (by simp only [cone_Of, h10, h15, h22, h24, hg8, hg21, cs4]); subst hq
   exact Kr (.slice none 0 0) rfl (.tmp rfl (.tmp rfl (.tmp rfl .nil))) [0] en
 intro h22
 have h27 := not_false h22
 try have hrt := (unknowns_iff s [root]).1 (by simp only [h10, h15, h22, h27, hg8, hg21]) root (by simp)
 refine Oq (VldA sh27 1) (Oq Vm ?_)
 refine letv (cone_unknowns s leaves) fun rv29 hg30 => ?_
 have hc31 := fn118 s sa1 sk1 sa2 sk2 sa3 sk3 leaves leavesa0 leavesk0 pre rv29 hg30
 refine Oc [2, 3, 4, 5] ca118 hc31 ?_
 rintro - -
 refine Oq Vnot (Oq Vpf (Oq Va (KS ?_)))
 refine Kc ?_ ?_
 · intro h32
   have h34 := not_true h32
   refine KS ?_
   refine Oq Va (Oq Va (Oq Va (KS ?_)))
   refine Jl [] (Ent.slNil (α := Int)) ?_
   have hq := q4 hrr ([], 0, 9) (by simp only [cone_Of, h10, h15, h22, h27, h32, h34, hg8, hg21, hg30, cs4]); subst hq
   exact Kr (.slice none 0 0) rfl (.tmp rfl (.tmp rfl (.tmp rfl .nil))) [0] en
 intro h32
 have h37 := not_false h32
 try have hrt := (unknowns_iff s [root]).1 (by simp only [h10, h15, h22, h27, h32, h37, hg8, hg21, hg30]) root (by simp)
 refine KS ?_
 refine Oq Vm (Oa (AsV sl22 sz22 [vi root] [vi root]) fun c39 => ?_)
 refine Jo 0 ?_; rintro a40 k41 rfl
 refine Oq Va (KS ?_)
 refine Oq (Vfa fo27_1 2) (Oq (VldF sh23 2) (Oq (Vlen sl23) (Oa (Amk (α := Bool) sl57 sz57 false (fun _ _ => rfl)) fun c42 => ?_)))
 refine Jo 0 ?_; rintro a43 k44 rfl
 refine Fb 1 0 fun hl45 => ?_
 have hn46 := List.length_replicate (n := (s.Deps.length : Int).toNat) (a := false)
 refine Oq Va (KS ?_)
 refine Oq Vm (Oq Vm (Oq (Vi sl57 0) (Ost (SoB [0] sh4) (KS ?_))))
 refine Oq Va (KS ?_)
 refine Oq Va (KS ?_)
 refine Jl [1] (Ent.crInt _ [root] _ _ rfl rfl (by intro x hx; rw [List.mem_singleton] at hx; subst hx; unfold i64ok; omega) (Nat.le_of_ble_eq_true rfl)) ?_
 refine Fb 8 0 fun hl47 => ?_
 refine Fo 0 fun ho48 => ?_
 have hterm62 : cone_Of_L0 s leaves (s.Deps.length + 1) [root] ((List.replicate (s.Deps.length : Int).toNat false).set root.toNat true) 0 0 ≠ LR.oof := (of_term (by simp only [h10, h15, h22, h27, h32, h37, hg8, hg21, hg30]) (by simp only [h10, h15, h22, h27, h32, h37, hg8, hg21, hg30]))
 refine Kl (γ := Nat × List Int × List Bool × Int × Int × Option Addr × Nat) (fun (r49, out_50, found_51, cost_52, i_53, a54, k55) => ⟨[(2, vl leavesa0 leavesk0 leaves), (3, p6), (9, vl a54 k55 out_50), (10, vl a43 k44 (List.replicate (s.Deps.length : Int).toNat false)), (11, vi cost_52), (12, vi i_53)], [O a54 k55 out_50, os (vl a43 k44 (List.replicate (s.Deps.length : Int).toNat false)) found_51, pv p6 [vi s.Width, vl sa1 sk1 s.Deps, vl sa2 sk2 s.Transfers, vl sa3 sk3 s.Boundary], S sa1 sk1 s.Deps, S sa2 sk2 s.Transfers, S sa3 sk3 s.Boundary, S leavesa0 leavesk0 leaves], cone_Of_L0 s leaves r49 out_50 found_51 cost_52 i_53 = cone_Of_L0 s leaves (s.Deps.length + 1) [root] ((List.replicate (s.Deps.length : Int).toNat false).set root.toNat true) 0 0 ∧ (-9223372036854775808 ≤ cost_52 ∧ cost_52 ≤ 9223372036854775807) ∧ (-9223372036854775808 ≤ i_53 ∧ i_53 ≤ 9223372036854775807) ∧ okFound (s.Deps.length : Int) out_50 found_51 ∧ 0 ≤ cost_52 ∧ cost_52 ≤ i_53 * 17592186044417 ∧ i_53 ≤ (out_50.length : Int), r49⟩) ((s.Deps.length + 1), [root], ((List.replicate (s.Deps.length : Int).toNat false).set root.toNat true), 0, 0, a40, k41) [0, 0, 1, 2, 3, 4, 5] ⟨rfl, (by omega), (by omega), (okFound_one (by simp only [h10, h15, h22, h27, h32, h37, hg8, hg21, hg30])), iv0, iv0⟩ ?_
 rintro ⟨r49, out_50, found_51, cost_52, i_53, a54, k55⟩ ⟨hM56, hk57, hk58, hv59, hv60, hv61⟩
 refine JJ_nx fun _ _ hL hA => ?_; dsimp only at hL hA; subst hL hA
 refine Fb 8 0 fun hl63 => ?_
 refine Fo 0 fun ho64 => ?_
 refine Fb 1 1 fun hl65 => ?_
 refine Fl 1 fun hn66 => ?_
 refine Fb 24 3 fun hl67 => ?_
 refine Fb 88 4 fun hl68 => ?_
 refine Fb 32 5 fun hl69 => ?_
 refine Fb 8 6 fun hl70 => ?_
 refine Fo 6 fun ho71 => ?_
 rcases r49 with _ | r49
 · exact absurd (hM56.symm.trans rfl) hterm62
 refine KS ?_
 refine Oq Vm (Oq Vm (Oq (Vlen sl22) (Oq Vlss (KS ?_))))
 refine Kc ?_ ?_
 · intro h72
   have g73 := of_decide_eq_true h72
   have hv0 := EValid_deps (s := s) (by simp only [h10, h15, h22, h27, h32, h37, h72, hg8, hg21, hg30])
   have hq1 := okFound_len ‹okFound (s.Deps.length : Int) out_50 _› 
   have hq2 := (‹okFound (s.Deps.length : Int) out_50 _›).1.2 _ (getD_mem (xs := out_50) (i := i_53.toNat) (d := 0) (by omega))
   refine KS ?_
   refine Oq Vm (Oq Vadd (Oq Va (KS ?_)))
   refine Oq Vm (Oq Vm (Oq Vm (Oq (Vi sl22 0) ?_)))
   have hb74 := ok1 (i := i_53.toNat) ho64 rng
   refine Oq (VldI sh3 0) ?_
   refine letv (slices_Contains_int leaves (out_50.getD i_53.toNat 0)) fun rv75 hg76 => ?_
   have hc77 := fn82 leaves leavesa0 leavesk0 ((out_50.getD i_53.toNat 0)) pre rv75 hg76
   refine Oc [6] ca82 hc77 ?_
   rintro - -
   refine KS ?_
   refine Kc ?_ ?_
   · intro h78
     try have hrt := (unknowns_iff s [root]).1 (by simp only [h10, h15, h22, h27, h32, h37, h72, h78, hg8, hg21, hg30, hg76]) root (by simp)
     refine Ke ?_
     refine KS ?_
     refine Oq Vm (Oq Vadd (Oq Va (KS ?_)))
     exact Kg (r49, out_50, found_51, (cost_52 + 1), (i_53 + 1), a54, k55) [0, 0, 0, 1, 2, 3, 4] ⟨(q3 hM56 (by simp only [cone_Of_L0, h10, h15, h22, h27, h32, h37, h72, h78, hg8, hg21, hg30, hg76, cs4])), (by omega), (by omega), (by assumption), iv1, iv1⟩
   intro h78
   refine KS ?_
   refine JJ_peekL ((out_50.getD i_53.toNat 0) : Int).toNat 3 rfl rng fun a81 k82 => ?_
   refine Fb 8 1 fun hl83 => ?_
   refine Fo 1 fun ho84 => ?_
   refine Kq [0, 1, 0, 0, 12, 28, 63, 127, 255, 0] fmix ?_
   refine Qv [4] (Vfa fo27_1 0) (Qv [4] (VldF sh23 0) (Qv [] Vm (Qv [] Vm (Qv [2] (Vi sl22 0) ?_))))
   have hb85 := ok1 (i := i_53.toNat) ho64 rng
   refine Qv [2] (VldI sh3 0) (Qv [5] (Vi sl23 0) (Qv [0] (Vld sh22 0) (Qv [] (Vlen sl22) (Qv [] Vm ?_))))
   refine Qn ⟨by kernel_rfl, ?_⟩
   refine KS ?_
   refine Kl (γ := Nat × List Int × List Bool × Int × Int × Option Addr × Nat) (fun (r86, out_87, found_88, cost_89, v63_90, a91, k92) => ⟨[(2, vl leavesa0 leavesk0 leaves), (3, p6), (9, vl a91 k92 out_87), (10, vl a43 k44 (List.replicate (s.Deps.length : Int).toNat false)), (12, vi i_53), (11, vi cost_89), (61, vl a81 k82 (s.Deps.getD ((out_50.getD i_53.toNat 0) : Int).toNat [])), (62, vi ((s.Deps.getD ((out_50.getD i_53.toNat 0) : Int).toNat []).length : Int)), (63, vi v63_90)], [O a91 k92 out_87, S a81 k82 ((s.Deps.getD ((out_50.getD i_53.toNat 0) : Int).toNat []) : List Int), os (vl a43 k44 (List.replicate (s.Deps.length : Int).toNat false)) found_88, pv p6 [vi s.Width, vl sa1 sk1 s.Deps, vl sa2 sk2 s.Transfers, vl sa3 sk3 s.Boundary], S sa1 sk1 s.Deps, S sa2 sk2 s.Transfers, S sa3 sk3 s.Boundary, S leavesa0 leavesk0 leaves], cone_Of_L1 (s.Deps.getD ((out_50.getD i_53.toNat 0) : Int).toNat []) r86 out_87 found_88 cost_89 v63_90 = cone_Of_L1 (s.Deps.getD ((out_50.getD i_53.toNat 0) : Int).toNat []) (((((s.Deps.getD ((out_50.getD i_53.toNat 0) : Int).toNat []).length : Int) : Int) - 0).toNat) out_50 found_51 (cost_52 + 1) 0 ∧ r86 = ((((s.Deps.getD ((out_50.getD i_53.toNat 0) : Int).toNat []).length : Int) : Int) - v63_90).toNat ∧ (0 : Int) ≤ v63_90 ∧ (v63_90 ≤ ((s.Deps.getD ((out_50.getD i_53.toNat 0) : Int).toNat []).length : Int) ∨ v63_90 = 0) ∧ (-9223372036854775808 ≤ cost_89 ∧ cost_89 ≤ 9223372036854775807) ∧ (-9223372036854775808 ≤ v63_90 ∧ v63_90 ≤ 9223372036854775807) ∧ okFound (s.Deps.length : Int) out_87 found_88 ∧ i_53 + 1 ≤ (out_87.length : Int) ∧ 0 ≤ cost_89 ∧ cost_89 ≤ i_53 * 17592186044417 + 1 + v63_90, r86⟩) (((((s.Deps.getD ((out_50.getD i_53.toNat 0) : Int).toNat []).length : Int) : Int) - 0).toNat, out_50, found_51, (cost_52 + 1), 0, a54, k55) [2, 1, 2, 2, 3, 4, 5, 6] ⟨rfl, rfl, (by omega), (.inr rfl), (by omega), (by omega), (by assumption), iv0, iv0⟩ ?_
   rintro ⟨r86, out_87, found_88, cost_89, v63_90, a91, k92⟩ ⟨hM93, hr94, hi95, hi96, hk97, hk98, hv99, hv100, hv101⟩
   refine JJ_nx fun _ _ hL hA => ?_; dsimp only at hL hA; subst hL hA
   refine Fb 8 0 fun hl102 => ?_
   refine Fo 0 fun ho103 => ?_
   refine Fb 8 1 fun hl104 => ?_
   refine Fo 1 fun ho105 => ?_
   refine Fb 1 2 fun hl106 => ?_
   refine Fl 2 fun hn107 => ?_
   refine Fb 24 4 fun hl108 => ?_
   refine Fb 88 5 fun hl109 => ?_
   refine Fb 32 6 fun hl110 => ?_
   refine Fb 8 7 fun hl111 => ?_
   refine Fo 7 fun ho112 => ?_
   refine KS ?_
   refine Oq Vlss (KS ?_)
   refine Kc ?_ ?_
   · intro h113
     have g114 := of_decide_eq_true h113
     have hq4 := okFound_len ‹okFound (s.Deps.length : Int) _ _›
     have hq3 := EValid_dep_mem (s := s) (by simp only [h10, h15, h22, h27, h32, h37, h72, h78, h113, hg8, hg21, hg30, hg76]) (j := ((out_50.getD i_53.toNat 0) : Int)) (by omega) (by omega) _ (getD_mem (xs := s.Deps.getD ((out_50.getD i_53.toNat 0) : Int).toNat []) (i := v63_90.toNat) (d := 0) (by omega))
     obtain ⟨r115, rfl⟩ := scc (n := r86) (by omega)
     refine KS ?_
     refine Oq (Vi sl22 1) ?_
     have hb116 := ok1 (i := v63_90.toNat) ho105 rng
     refine Oq (VldI sh3 1) (Oq Va (KS ?_))
     refine Oq Vm (Oq Vadd (Oq Va (KS ?_)))
     refine Oq Vm (Oq Vm (Oq (Vi sl57 2) (Oq (VldB sh4 2) (Oq Vnot (KS ?_)))))
     refine Kc ?_ ?_
     · intro h117
       have h119 := not_true h117
       refine KS ?_
       refine Oq Vm (Oq Vm (Oq (Vi sl57 2) (Ost (SoB [2] sh4) (KS ?_))))
       refine Oq Vm (Oq Vm (Oa (AsV sl22 sz22 [vi ((s.Deps.getD ((out_50.getD i_53.toNat 0) : Int).toNat []).getD v63_90.toNat 0)] [vi ((s.Deps.getD ((out_50.getD i_53.toNat 0) : Int).toNat []).getD v63_90.toNat 0)]) fun c121 => ?_))
       refine Jo 0 ?_; rintro a122 k123 rfl
       refine Jl [0] (Ent.crInt _ [((s.Deps.getD ((out_50.getD i_53.toNat 0) : Int).toNat []).getD v63_90.toNat 0)] _ _ rfl rfl (by intro x hx; rw [List.mem_singleton] at hx; subst hx; unfold i64ok; omega) (Nat.le_of_ble_eq_true rfl)) ?_
       refine Oa (ApO [2, 0] sl22 sl22 sz22) fun c124 => ?_
       refine Jo 0 ?_; rintro a125 k126 rfl
       refine Fb 8 0 fun hl127 => ?_
       refine Fo 0 fun ho128 => ?_
       have hn129 := la out_87 ([((s.Deps.getD ((out_50.getD i_53.toNat 0) : Int).toNat []).getD v63_90.toNat 0)] : List Int)
       refine Oq Va (KS ?_)
       refine Oq Vadd (Oq Vm (KS ?_))
       exact Kg (r115, (out_87 ++ [((s.Deps.getD ((out_50.getD i_53.toNat 0) : Int).toNat []).getD v63_90.toNat 0)]), (found_88.set (((s.Deps.getD ((out_50.getD i_53.toNat 0) : Int).toNat []).getD v63_90.toNat 0) : Int).toNat true), (cost_89 + 1), (v63_90 + 1), a125, k126) [0, 1, 0, 1, 2, 3, 4, 5] ⟨(q3 hM93 (by simp only [cone_Of_L1, h10, h15, h22, h27, h32, h37, h72, h78, h113, h117, h119, hg8, hg21, hg30, hg76, cs4])), (by omega), (by omega), (by omega), (by omega), (by omega), (by first | assumption | exact okFound_push (by assumption) (by simp only [h10, h15, h22, h27, h32, h37, h72, h78, h113, h117, h119, hg8, hg21, hg30, hg76]) (by omega) (by omega)), iv1, iv1⟩
     intro h117
     have h131 := not_false h117
     refine KS ?_
     refine Oq Vadd (Oq Vm (KS ?_))
     exact Kg (r115, out_87, found_88, (cost_89 + 1), (v63_90 + 1), a91, k92) [0, 0, 1, 1, 2, 3, 4, 5] ⟨(q3 hM93 (by simp only [cone_Of_L1, h10, h15, h22, h27, h32, h37, h72, h78, h113, h117, h131, hg8, hg21, hg30, hg76, cs4])), (by omega), (by omega), (by omega), (by omega), (by omega), (by first | assumption | exact okFound_push (by assumption) (by simp only [h10, h15, h22, h27, h32, h37, h72, h78, h113, h117, h131, hg8, hg21, hg30, hg76]) (by omega) (by omega)), iv1, iv1⟩
   intro h113
   have g133 := of_decide_eq_false h113
   obtain rfl : r86 = 0 := by omega
   refine Ke ?_
   have hR134 := q2 hM93 (out_87, found_88, cost_89) (by simp only [cone_Of_L1, h10, h15, h22, h27, h32, h37, h72, h78, h113, hg8, hg21, hg30, hg76, cs4])
   refine KS ?_
   refine Oq Vm (Oq Vadd (Oq Va (KS ?_)))
   exact Kg (r49, out_87, found_88, cost_89, (i_53 + 1), a91, k92) [0, 1, 1, 2, 3, 4, 5] ⟨(q3 hM56 (by simp only [cone_Of_L0, h10, h15, h22, h27, h32, h37, h72, h78, h113, hg8, hg21, hg30, hg76, hR134, cs4])), (by omega), (by omega), (by assumption), iv1, iv1⟩
 intro h72
 have g135 := of_decide_eq_false h72
 refine Ke ?_
 have hR136 := q2 hM56 (.brk (out_50, cost_52)) (by simp only [cone_Of_L0, h10, h15, h22, h27, h32, h37, h72, hg8, hg21, hg30, cs4])
 refine KS ?_
 refine Oq Vm ?_
 refine Jl [0] (Ent.freeze _ _) ?_
 refine letv (slices_Clip_int out_50) fun rv138 hg139 => ?_
 have hc140 := fn137 out_50 a54 k55 rv138 hg139
 refine Oc [0] ca137 hc140 ?_
 rintro c137 -
 refine Jo 0 ?_; rintro a141 k142 rfl
 refine Fb 8 0 fun hl143 => ?_
 refine Fo 0 fun ho144 => ?_
 refine Oq Vm (Oq Va (Oq Va (Oq Va (KS ?_))))
 have hq := q4 hrr (rv138, cost_52, 0) (by simp only [cone_Of, h10, h15, h22, h27, h32, h37, h72, hg8, hg21, hg30, hR136, hg139, cs4]); subst hq
 exact Kr (vl a141 k142 rv138) rfl (.tmp rfl (.tmp rfl (.tmp rfl .nil))) [0] en
theorem fn96 (width : Int) (hwidth_0 : i64ok width) (hw0 : 0 ≤ width ∧ width ≤ 1000000) (rr : GTransfer) (hrr : flqref1_Identity width = rr) : FT Tryz.prog 96 #[vi width] [] (fun g : Value × Value × Value => i64ok rr.Gen.Width ∧ i64ok rr.Kill.Width) (fun g => .agg #[vi rr.Gen.Width, g.1, vi rr.Kill.Width, g.2.1, g.2.2]) (fun g => [sl g.1 rr.Gen.Words, sl g.2.1 rr.Kill.Words, sl g.2.2 rr.Copies]) := by
 refine FTi Tryz.func96 fun w0 M0 F0 => ?_
 unfold i64ok at hwidth_0
 refine KS ?_
 refine Oa (Al ze98 [vi 0, .slice none 0 0, vi 0, .slice none 0 0, .slice none 0 0]) fun p1 => KS ?_
 refine Oq Vm ?_
 refine letv (flqref1_Empty width) fun rv3 hg4 => ?_
 have hc5 := fn67 width pre pre rv3 hg4
 refine Oc [] ca67 hc5 ?_
 rintro c2 ⟨he6, he7, he8⟩
 unfold i64ok at he6
 refine Jo 0 ?_; rintro a9 k10 rfl
 refine Fb 8 0 fun hl11 => ?_
 refine Oq Vm ?_
 have hc13 := fn67 width pre pre rv3 hg4
 refine Oc [] ca67 hc13 ?_
 rintro c12 ⟨he14, he15, he16⟩
 unfold i64ok at he14
 refine Jo 0 ?_; rintro a17 k18 rfl
 refine Oq (Vbd st98 [vi rv3.Width, vl a9 k10 rv3.Words, vi rv3.Width, vl a17 k18 rv3.Words, .slice none 0 0]) (Ost (Scl [2] sh98 [vi rv3.Width, vl a9 k10 rv3.Words, vi rv3.Width, vl a17 k18 rv3.Words, .slice none 0 0]) (KS ?_))
 refine Jl [2] (Ent.freeze _ _) ?_
 refine Jl [2] (Ent.freeze _ _) ?_
 refine Jl [] (Ent.slNil (α := GCopy)) ?_
 have hq := q4 hrr (GTransfer.mk rv3 rv3 []) (by simp only [flqref1_Identity, hg4, cs4]); subst hq
 exact Kr (vl a9 k10 rv3.Words, vl a17 k18 rv3.Words, .slice none 0 0) rfl (.cellN 3 rfl sh98 rfl (reads_Cl _ _) rfl .nil) [2, 1, 0] en
theorem fn136 (n : Int) (hn_0 : i64ok n) (hn0 : 0 ≤ n ∧ n ≤ 1000) (rr : GSystem) (hrr : flqlaw14_line n = rr) : FT Tryz.prog 136 #[vi n] [] (fun g : Value × Value × Value => i64ok rr.Width) (fun g => .agg #[vi rr.Width, g.1, g.2.1, g.2.2]) (fun g => [sl g.1 rr.Deps, sl g.2.1 rr.Transfers, sl g.2.2 rr.Boundary]) := by
 refine FTi Tryz.func136 fun w0 M0 F0 => ?_
 unfold i64ok at hn_0
 refine KS ?_
 refine Oa (Al ze27 [vi 0, .slice none 0 0, .slice none 0 0, .slice none 0 0]) fun p1 => KS ?_
 refine Oa (Al ze27 [vi 0, .slice none 0 0, .slice none 0 0, .slice none 0 0]) fun p2 => KS ?_
 refine Oq Va (KS ?_)
 refine Jl [] (Ent.osNil (α := (List Int))) ?_
 refine Jl [] (Ent.osNil (α := GTransfer)) ?_
 refine Jl [] (Ent.osNil (α := GSet)) ?_
 refine Kl (γ := Nat × List (List Int) × List GTransfer × List GSet × Int × Option Addr × Nat × Option Addr × Nat × Option Addr × Nat) (fun (r3, s1_4, s2_5, s3_6, i_7, a8, k9, a10, k11, a12, k13) => ⟨[(0, vi n), (2, p1), (3, p2), (4, vi i_7)], [O a12 k13 s3_6, O a10 k11 s2_5, O a8 k9 s1_4, Cl p2 [vi 0, vl a8 k9 s1_4, vl a10 k11 s2_5, vl a12 k13 s3_6], Cl p1 [vi 0, .slice none 0 0, .slice none 0 0, .slice none 0 0]], flqlaw14_line_L0 r3 s1_4 s2_5 s3_6 i_7 = flqlaw14_line_L0 (((n : Int) - 0).toNat) [] [] [] 0 ∧ r3 = ((n : Int) - i_7).toNat ∧ (0 : Int) ≤ i_7 ∧ (i_7 ≤ n ∨ i_7 = 0) ∧ (-9223372036854775808 ≤ i_7 ∧ i_7 ≤ 9223372036854775807) ∧ (s1_4.length : Int) = i_7 ∧ (s2_5.length : Int) = i_7 ∧ (s3_6.length : Int) = i_7, r3⟩) (((n : Int) - 0).toNat, [], [], [], 0, none, 0, none, 0, none, 0) [0, 0, 0, 0, 0] ⟨rfl, rfl, (by omega), (.inr rfl), (by omega), iv0, iv0, iv0⟩ ?_
 rintro ⟨r3, s1_4, s2_5, s3_6, i_7, a8, k9, a10, k11, a12, k13⟩ ⟨hM14, hr15, hi16, hi17, hk18, hv19, hv20, hv21⟩
 refine JJ_nx fun _ _ hL hA => ?_; dsimp only at hL hA; subst hL hA
 refine Fb 32 0 fun hl22 => ?_
 refine Fb 88 1 fun hl23 => ?_
 refine Fb 24 2 fun hl24 => ?_
 refine KS ?_
 refine Oq Vm (Oq Vm (Oq Vlss (KS ?_)))
 refine Kc ?_ ?_
 · intro h25
   have g26 := of_decide_eq_true h25
   obtain ⟨r27, rfl⟩ := scc (n := r3) (by omega)
   refine KS ?_
   refine Oq Va (KS ?_)
   refine Oq Vm (Oq Vgtr (KS ?_))
   refine Kc ?_ ?_
   · intro h28
     have g29 := of_decide_eq_true h28
     refine KS ?_
     refine Oq Vm (Oq Vsub (Oa (AsV sl22 sz22 [vi (i_7 - 1)] [vi (i_7 - 1)]) fun c30 => ?_))
     refine Jo 0 ?_; rintro a31 k32 rfl
     refine Oq Va (KS ?_)
     refine Jp 4 fun hp33 => ?_
     refine JK_drawK [0, 1, 0, 4, 15, 0, 32, 31, 159, 511, 0, 1024, 1023, 5119, 16383, 3199, 65535, 131071, 262143, 524287, 1048575] fmix ?_
     refine Dv [0] (Vfa fo27_1 0) (Dv [5] (VldF sh23 0) (Dv [] Vm (Dx [] [] [0] (fun G => (G.g 3 0)) [fun G => Cr (G.g 3 0) 1 [.slice a31 1 k32]] (fun G => xA (AsV sl23 sz23 [.slice a31 1 k32] [.slice a31 1 k32])) ?_)))
     have hn36 := la s1_4 ([[(i_7 - 1)]] : List (List Int))
     refine Dx [1, 4, 7] [1, 4, 7] [1, 0] (fun G => (G.g 4 0)) [fun G => sl (.slice a31 1 k32) ([(i_7 - 1)] : List Int), fun G => os (G.g 4 0) ((s1_4 ++ [[(i_7 - 1)]]) : List (List Int))] (fun G => xp [0] rfl (Ent.crInt _ [(i_7 - 1)] _ _ rfl rfl (by intro x hx; rw [List.mem_singleton] at hx; subst hx; unfold i64ok; omega) (Nat.le_of_ble_eq_true rfl)) (xp [0] rfl (Ent.freeze _ _) (xp [2, 0] rfl (Ent.cr1 (α := List Int) (A := [sl (.slice a31 1 k32) ([(i_7 - 1)] : List Int)]) _ [(i_7 - 1)] _ (Nat.le_of_ble_eq_true rfl) (fun h => ⟨_, rfl, sepAll_get (i := 0) rfl h⟩)) (xA (ApO [3, 0] sl23 sl23 sz23))))) (Dv [0] (Vfa fo27_2 0) (Dv [5] (VldF sh24 0) ?_))
     refine letv (flqref1_Identity 0) fun rv40 hg41 => ?_
     refine Dx [] [] [0, 1, 2, 3] (fun G => .agg #[vi rv40.Gen.Width, (G.g 7 0), vi rv40.Kill.Width, (G.g 7 1), (G.g 7 2)]) [fun G => SP.fact (i64ok rv40.Gen.Width ∧ i64ok rv40.Kill.Width), fun G => sl (G.g 7 0) rv40.Gen.Words, fun G => sl (G.g 7 1) rv40.Kill.Words, fun G => sl (G.g 7 2) rv40.Copies] (fun G => xC [] ca96 (fn96 0 pre pre rv40 hg41)) (Dx [] [] [0] (fun G => (G.g 8 0)) [fun G => Cr (G.g 8 0) 1 [vi rv40.Gen.Width, (G.g 7 0), vi rv40.Kill.Width, (G.g 7 1), (G.g 7 2)]] (fun G => xA (AsV sl24 sz24 [.agg #[vi rv40.Gen.Width, (G.g 7 0), vi rv40.Kill.Width, (G.g 7 1), (G.g 7 2)]] [vi rv40.Gen.Width, (G.g 7 0), vi rv40.Kill.Width, (G.g 7 1), (G.g 7 2)])) ?_)
     have hn44 := la s2_5 ([rv40] : List GTransfer)
     refine Dx [3, 10, 11, 12, 13, 14] [3, 14] [4, 1, 2, 3, 0] (fun G => (G.g 9 0)) [fun G => os (G.g 9 0) ((s2_5 ++ [rv40]) : List GTransfer)] (fun G => by refine xf 1 rfl ?_; rintro ⟨he45, he46⟩; unfold i64ok at he45 he46; exact xp [5, 2, 3, 4] rfl (Ent.cr1 (α := GTransfer) (A := [sl (G.g 7 0) rv40.Gen.Words, sl (G.g 7 1) rv40.Kill.Words, sl (G.g 7 2) rv40.Copies]) _ rv40 _ (Nat.le_of_ble_eq_true rfl) (fun h => ⟨_, _, _, rfl, (by unfold i64ok; first | omega | (dsimp only; omega)), sepAll_get (i := 0) rfl h, (by unfold i64ok; first | omega | (dsimp only; omega)), sepAll_get (i := 1) rfl h, sepAll_get (i := 2) rfl h⟩)) (xA (ApO [4, 0] sl24 sl24 sz24))) (Dv [0] (Vfa fo27_3 0) (Dv [5] (VldF sh25 0) ?_))
     refine letv (flqref1_Empty 0) fun rv48 hg49 => ?_
     refine Dx [10] [] [2, 0, 1] (fun G => .agg #[vi rv48.Width, (G.g 12 0)]) [fun G => SP.fact (i64ok rv48.Width ∧ (rv48.Width = 0) ∧ (rv48.Words.length = (((0 : Int) + 63) / 64).toNat)), fun G => os (G.g 12 0) rv48.Words] (fun G => by refine xf 0 rfl ?_; rintro ⟨he50, he51⟩; unfold i64ok at he50 he51; exact xC [] ca67 (fn67 0 pre pre rv48 hg49)) (Dx [] [] [0] (fun G => (G.g 13 0)) [fun G => Cr (G.g 13 0) 1 [vi rv48.Width, (G.g 12 0)]] (fun G => xA (AsV sl25 sz25 [.agg #[vi rv48.Width, (G.g 12 0)]] [vi rv48.Width, (G.g 12 0)])) ?_)
     have hn54 := la s3_6 ([rv48] : List GSet)
     refine Dx [2, 10, 16, 17, 18] [2, 17, 18] [3, 4, 1, 0] (fun G => (G.g 14 0)) [fun G => sl (G.g 12 0) rv48.Words, fun G => os (G.g 14 0) ((s3_6 ++ [rv48]) : List GSet)] (fun G => by refine xf 1 rfl ?_; rintro ⟨he55, he56⟩; unfold i64ok at he55 he56; refine xf 2 rfl ?_; rintro ⟨he57, he58, he59⟩; unfold i64ok at he57; exact xp [3] rfl (Ent.freeze _ _) (xp [4, 0] rfl (Ent.cr1 (α := GSet) (A := [sl (G.g 12 0) rv48.Words]) _ rv48 _ (Nat.le_of_ble_eq_true rfl) (fun h => ⟨_, rfl, (by unfold i64ok; first | omega | (dsimp only; omega)), sepAll_get (i := 0) rfl h⟩)) (xA (ApO [3, 0] sl25 sl25 sz25)))) (Dv [0] (Vfa fo27_1 0) (Dx0 [5, 9] [5] [1, 0] [fun G => Cl p2 [vi 0, (G.g 4 0), vl a10 k11 s2_5, vl a12 k13 s3_6]] (fun G => x1 1 rfl os_one fun ho60 => (xS (OpS.frame [0] rfl (OpS.storeClF [(G.g 4 0)] [vi 0, (G.g 4 0), vl a10 k11 s2_5, vl a12 k13 s3_6] rfl rfl rfl sh23 (cells_of_one ho60) rfl (by simp only [List.all_cons, List.all_nil, ho60, Bool.and_true, Bool.true_and] <;> rfl) (Nat.le_of_ble_eq_true rfl) rfl)))) (Dv [0] (Vfa fo27_2 0) (Dx0 [15, 21] [21] [1, 0] [fun G => Cl p2 [vi 0, (G.g 4 0), (G.g 9 0), vl a12 k13 s3_6]] (fun G => x1 0 rfl os_one fun ho61 => (xS (OpS.frame [1] rfl (OpS.storeClF [(G.g 9 0)] [vi 0, (G.g 4 0), (G.g 9 0), vl a12 k13 s3_6] rfl rfl rfl sh24 (cells_of_one ho61) rfl (by simp only [List.all_cons, List.all_nil, ho61, Bool.and_true, Bool.true_and] <;> rfl) (Nat.le_of_ble_eq_true rfl) rfl)))) (Dv [0] (Vfa fo27_3 0) (Dx0 [20, 22] [22] [1, 0] [fun G => Cl p2 [vi 0, (G.g 4 0), (G.g 9 0), (G.g 14 0)]] (fun G => x1 0 rfl os_one fun ho62 => (xS (OpS.frame [1] rfl (OpS.storeClF [(G.g 14 0)] [vi 0, (G.g 4 0), (G.g 9 0), (G.g 14 0)] rfl rfl rfl sh25 (cells_of_one ho62) rfl (by simp only [List.all_cons, List.all_nil, ho62, Bool.and_true, Bool.true_and] <;> rfl) (Nat.le_of_ble_eq_true rfl) rfl)))) ?_))))))
     refine Dn ⟨by kernel_rfl, fun G => ?_⟩
     refine Jw2 [(0, vi n), (2, p1), (3, p2), (4, vi i_7)] [0, 6] [sl (.slice a31 1 k32) ([(i_7 - 1)] : List Int), os (G.g 4 0) ((s1_4 ++ [[(i_7 - 1)]]) : List (List Int)), SP.fact (i64ok rv40.Gen.Width ∧ i64ok rv40.Kill.Width), sl (G.g 7 0) rv40.Gen.Words, sl (G.g 7 1) rv40.Kill.Words, sl (G.g 7 2) rv40.Copies, os (G.g 9 0) ((s2_5 ++ [rv40]) : List GTransfer), SP.fact (i64ok rv48.Width ∧ (rv48.Width = 0) ∧ (rv48.Words.length = (((0 : Int) + 63) / 64).toNat)), sl (G.g 12 0) rv48.Words, os (G.g 14 0) ((s3_6 ++ [rv48]) : List GSet), Cl p2 [vi 0, (G.g 4 0), (G.g 9 0), (G.g 14 0)]] ?_
     generalize G.g 4 0 = c35, G.g 7 0 = c37, G.g 7 1 = c38, G.g 7 2 = c39, G.g 9 0 = c43, G.g 12 0 = c47, G.g 14 0 = c53
     refine Jf 4 rfl ?_; rintro ⟨he63, he64⟩
     unfold i64ok at he63 he64
     refine Jf 9 rfl ?_; rintro ⟨he65, he66, he67⟩
     unfold i64ok at he65
     refine Jk [1, 1, 2, 3, 4, 5, 6, 7, 8, 8] ?_
     refine Jo 2 ?_; rintro a68 k69 rfl
     refine Fb 24 2 fun hl70 => ?_
     refine Jo 3 ?_; rintro a71 k72 rfl
     refine Fb 8 3 fun hl73 => ?_
     refine Jo 4 ?_; rintro a74 k75 rfl
     refine Fb 8 4 fun hl76 => ?_
     refine Jo 5 ?_; rintro a77 k78 rfl
     refine Fb 16 5 fun hl79 => ?_
     refine Jo 6 ?_; rintro a80 k81 rfl
     refine Fb 88 6 fun hl82 => ?_
     refine Jo 7 ?_; rintro a83 k84 rfl
     refine Fb 8 7 fun hl85 => ?_
     refine Jo 8 ?_; rintro a86 k87 rfl
     refine Fb 32 8 fun hl88 => ?_
     refine KS ?_
     refine Oq Vm (Oq Vadd (Oq Va (KS ?_)))
     exact Kg (r27, (s1_4 ++ [[(i_7 - 1)]]), (s2_5 ++ [rv40]), (s3_6 ++ [rv48]), (i_7 + 1), a68, k69, a80, k81, a86, k87) [8, 6, 2, 6, 0] ⟨(q3 hM14 (by simp only [flqlaw14_line_L0, h25, h28, hg41, hg49, cs4])), (by omega), (by omega), (by omega), (by omega), iv1, iv1, iv1⟩
   intro h28
   have g89 := of_decide_eq_false h28
   refine KS ?_
   refine Jp 3 fun hp90 => ?_
   refine JK_drawK [0, 1, 0, 4, 15, 0, 32, 31, 159, 511, 0, 1024, 1023, 5119, 16383, 3199, 65535, 131071, 262143, 524287, 1048575] fmix ?_
   refine Dv [0] (Vfa fo27_1 0) (Dv [4] (VldF sh23 0) (Dv [] Vm (Dx [] [] [0] (fun G => (G.g 3 0)) [fun G => Cr (G.g 3 0) 1 [.slice none 0 0]] (fun G => xA (AsV sl23 sz23 [.slice none 0 0] [.slice none 0 0])) ?_)))
   have hn93 := la s1_4 ([([] : List Int)] : List (List Int))
   refine Dx [3, 6] [3, 6] [0] (fun G => (G.g 4 0)) [fun G => os (G.g 4 0) ((s1_4 ++ [([] : List Int)]) : List (List Int))] (fun G => xp [1] rfl (Ent.cr1 (α := List Int) (A := []) _ [] _ (Nat.le_of_ble_eq_true rfl) (fun _ => ⟨_, rfl, slrd_nil⟩)) (xA (ApO [1, 0] sl23 sl23 sz23))) (Dv [0] (Vfa fo27_2 0) (Dv [4] (VldF sh24 0) ?_))
   refine letv (flqref1_Identity 0) fun rv97 hg98 => ?_
   refine Dx [] [] [0, 1, 2, 3] (fun G => .agg #[vi rv97.Gen.Width, (G.g 7 0), vi rv97.Kill.Width, (G.g 7 1), (G.g 7 2)]) [fun G => SP.fact (i64ok rv97.Gen.Width ∧ i64ok rv97.Kill.Width), fun G => sl (G.g 7 0) rv97.Gen.Words, fun G => sl (G.g 7 1) rv97.Kill.Words, fun G => sl (G.g 7 2) rv97.Copies] (fun G => xC [] ca96 (fn96 0 pre pre rv97 hg98)) (Dx [] [] [0] (fun G => (G.g 8 0)) [fun G => Cr (G.g 8 0) 1 [vi rv97.Gen.Width, (G.g 7 0), vi rv97.Kill.Width, (G.g 7 1), (G.g 7 2)]] (fun G => xA (AsV sl24 sz24 [.agg #[vi rv97.Gen.Width, (G.g 7 0), vi rv97.Kill.Width, (G.g 7 1), (G.g 7 2)]] [vi rv97.Gen.Width, (G.g 7 0), vi rv97.Kill.Width, (G.g 7 1), (G.g 7 2)])) ?_)
   have hn101 := la s2_5 ([rv97] : List GTransfer)
   refine Dx [2, 8, 9, 10, 11, 12] [2, 12] [4, 1, 2, 3, 0] (fun G => (G.g 9 0)) [fun G => os (G.g 9 0) ((s2_5 ++ [rv97]) : List GTransfer)] (fun G => by refine xf 1 rfl ?_; rintro ⟨he102, he103⟩; unfold i64ok at he102 he103; exact xp [5, 2, 3, 4] rfl (Ent.cr1 (α := GTransfer) (A := [sl (G.g 7 0) rv97.Gen.Words, sl (G.g 7 1) rv97.Kill.Words, sl (G.g 7 2) rv97.Copies]) _ rv97 _ (Nat.le_of_ble_eq_true rfl) (fun h => ⟨_, _, _, rfl, (by unfold i64ok; first | omega | (dsimp only; omega)), sepAll_get (i := 0) rfl h, (by unfold i64ok; first | omega | (dsimp only; omega)), sepAll_get (i := 1) rfl h, sepAll_get (i := 2) rfl h⟩)) (xA (ApO [4, 0] sl24 sl24 sz24))) (Dv [0] (Vfa fo27_3 0) (Dv [4] (VldF sh25 0) ?_))
   refine letv (flqref1_Empty 0) fun rv105 hg106 => ?_
   refine Dx [8] [] [2, 0, 1] (fun G => .agg #[vi rv105.Width, (G.g 12 0)]) [fun G => SP.fact (i64ok rv105.Width ∧ (rv105.Width = 0) ∧ (rv105.Words.length = (((0 : Int) + 63) / 64).toNat)), fun G => os (G.g 12 0) rv105.Words] (fun G => by refine xf 0 rfl ?_; rintro ⟨he107, he108⟩; unfold i64ok at he107 he108; exact xC [] ca67 (fn67 0 pre pre rv105 hg106)) (Dx [] [] [0] (fun G => (G.g 13 0)) [fun G => Cr (G.g 13 0) 1 [vi rv105.Width, (G.g 12 0)]] (fun G => xA (AsV sl25 sz25 [.agg #[vi rv105.Width, (G.g 12 0)]] [vi rv105.Width, (G.g 12 0)])) ?_)
   have hn111 := la s3_6 ([rv105] : List GSet)
   refine Dx [1, 8, 14, 15, 16] [1, 15, 16] [3, 4, 1, 0] (fun G => (G.g 14 0)) [fun G => sl (G.g 12 0) rv105.Words, fun G => os (G.g 14 0) ((s3_6 ++ [rv105]) : List GSet)] (fun G => by refine xf 1 rfl ?_; rintro ⟨he112, he113⟩; unfold i64ok at he112 he113; refine xf 2 rfl ?_; rintro ⟨he114, he115, he116⟩; unfold i64ok at he114; exact xp [3] rfl (Ent.freeze _ _) (xp [4, 0] rfl (Ent.cr1 (α := GSet) (A := [sl (G.g 12 0) rv105.Words]) _ rv105 _ (Nat.le_of_ble_eq_true rfl) (fun h => ⟨_, rfl, (by unfold i64ok; first | omega | (dsimp only; omega)), sepAll_get (i := 0) rfl h⟩)) (xA (ApO [3, 0] sl25 sl25 sz25)))) (Dv [0] (Vfa fo27_1 0) (Dx0 [4, 7] [4] [1, 0] [fun G => Cl p2 [vi 0, (G.g 4 0), vl a10 k11 s2_5, vl a12 k13 s3_6]] (fun G => x1 1 rfl os_one fun ho117 => (xS (OpS.frame [0] rfl (OpS.storeClF [(G.g 4 0)] [vi 0, (G.g 4 0), vl a10 k11 s2_5, vl a12 k13 s3_6] rfl rfl rfl sh23 (cells_of_one ho117) rfl (by simp only [List.all_cons, List.all_nil, ho117, Bool.and_true, Bool.true_and] <;> rfl) (Nat.le_of_ble_eq_true rfl) rfl)))) (Dv [0] (Vfa fo27_2 0) (Dx0 [13, 19] [19] [1, 0] [fun G => Cl p2 [vi 0, (G.g 4 0), (G.g 9 0), vl a12 k13 s3_6]] (fun G => x1 0 rfl os_one fun ho118 => (xS (OpS.frame [1] rfl (OpS.storeClF [(G.g 9 0)] [vi 0, (G.g 4 0), (G.g 9 0), vl a12 k13 s3_6] rfl rfl rfl sh24 (cells_of_one ho118) rfl (by simp only [List.all_cons, List.all_nil, ho118, Bool.and_true, Bool.true_and] <;> rfl) (Nat.le_of_ble_eq_true rfl) rfl)))) (Dv [0] (Vfa fo27_3 0) (Dx0 [18, 20] [20] [1, 0] [fun G => Cl p2 [vi 0, (G.g 4 0), (G.g 9 0), (G.g 14 0)]] (fun G => x1 0 rfl os_one fun ho119 => (xS (OpS.frame [1] rfl (OpS.storeClF [(G.g 14 0)] [vi 0, (G.g 4 0), (G.g 9 0), (G.g 14 0)] rfl rfl rfl sh25 (cells_of_one ho119) rfl (by simp only [List.all_cons, List.all_nil, ho119, Bool.and_true, Bool.true_and] <;> rfl) (Nat.le_of_ble_eq_true rfl) rfl)))) ?_))))))
   refine Dn ⟨by kernel_rfl, fun G => ?_⟩
   refine Jw2 [(0, vi n), (2, p1), (3, p2), (4, vi i_7)] [0, 5] [os (G.g 4 0) ((s1_4 ++ [([] : List Int)]) : List (List Int)), SP.fact (i64ok rv97.Gen.Width ∧ i64ok rv97.Kill.Width), sl (G.g 7 0) rv97.Gen.Words, sl (G.g 7 1) rv97.Kill.Words, sl (G.g 7 2) rv97.Copies, os (G.g 9 0) ((s2_5 ++ [rv97]) : List GTransfer), SP.fact (i64ok rv105.Width ∧ (rv105.Width = 0) ∧ (rv105.Words.length = (((0 : Int) + 63) / 64).toNat)), sl (G.g 12 0) rv105.Words, os (G.g 14 0) ((s3_6 ++ [rv105]) : List GSet), Cl p2 [vi 0, (G.g 4 0), (G.g 9 0), (G.g 14 0)]] ?_
   generalize G.g 4 0 = c92, G.g 7 0 = c94, G.g 7 1 = c95, G.g 7 2 = c96, G.g 9 0 = c100, G.g 12 0 = c104, G.g 14 0 = c110
   refine Jf 3 rfl ?_; rintro ⟨he120, he121⟩
   unfold i64ok at he120 he121
   refine Jf 8 rfl ?_; rintro ⟨he122, he123, he124⟩
   unfold i64ok at he122
   refine Jk [1, 1, 2, 3, 4, 5, 6, 7, 7] ?_
   refine Jo 1 ?_; rintro a125 k126 rfl
   refine Fb 24 1 fun hl127 => ?_
   refine Jo 2 ?_; rintro a128 k129 rfl
   refine Fb 8 2 fun hl130 => ?_
   refine Jo 3 ?_; rintro a131 k132 rfl
   refine Fb 8 3 fun hl133 => ?_
   refine Jo 4 ?_; rintro a134 k135 rfl
   refine Fb 16 4 fun hl136 => ?_
   refine Jo 5 ?_; rintro a137 k138 rfl
   refine Fb 88 5 fun hl139 => ?_
   refine Jo 6 ?_; rintro a140 k141 rfl
   refine Fb 8 6 fun hl142 => ?_
   refine Jo 7 ?_; rintro a143 k144 rfl
   refine Fb 32 7 fun hl145 => ?_
   refine KS ?_
   refine Oq Vm (Oq Vadd (Oq Va (KS ?_)))
   exact Kg (r27, (s1_4 ++ [([] : List Int)]), (s2_5 ++ [rv97]), (s3_6 ++ [rv105]), (i_7 + 1), a125, k126, a137, k138, a143, k144) [7, 5, 1, 5, 0] ⟨(q3 hM14 (by simp only [flqlaw14_line_L0, h25, h28, hg98, hg106, cs4])), (by omega), (by omega), (by omega), (by omega), iv1, iv1, iv1⟩
 intro h25
 have g146 := of_decide_eq_false h25
 obtain rfl : r3 = 0 := by omega
 refine Ke ?_
 have hR147 := q2 hM14 (s1_4, s2_5, s3_6) (by simp only [flqlaw14_line_L0, h25, cs4])
 refine KS ?_
 refine Oq (VldA sh27 3) (Ost (Scl [4] sh27 [vi 0, vl a8 k9 s1_4, vl a10 k11 s2_5, vl a12 k13 s3_6]) (KS ?_))
 refine Jl [3] (Ent.freeze _ _) ?_
 refine Jl [3] (Ent.freeze _ _) ?_
 refine Jl [3] (Ent.freeze _ _) ?_
 have hq := q4 hrr (GSystem.mk 0 s1_4 s2_5 s3_6) (by simp only [flqlaw14_line, h25, hR147, cs4]); subst hq
 exact Kr (vl a8 k9 s1_4, vl a10 k11 s2_5, vl a12 k13 s3_6) rfl (.cellN 3 rfl sh27 rfl (reads_Cl _ _) rfl .nil) [2, 1, 0] en
theorem fn59  (rr : Bool) (hrr : flqlaw14_sane = rr) : FT Tryz.prog 59 #[] [] (fun g : Unit => True) (fun g => vb rr) (fun g => []) := by
 refine FTi Tryz.func59 fun w0 M0 F0 => ?_
 refine KS ?_
 refine Oq Va (KS ?_)
 refine letv (flqlaw14_line 4) fun rv4 hg5 => ?_
 have hc6 := fn136 4 pre pre rv4 hg5
 refine Oc [] ca136 hc6 ?_
 rintro ⟨c1, c2, c3⟩ he7
 unfold i64ok at he7
 refine Jo 0 ?_; rintro a8 k9 rfl
 refine Fb 24 0 fun hl10 => ?_
 refine Jo 1 ?_; rintro a11 k12 rfl
 refine Fb 88 1 fun hl13 => ?_
 refine Jo 2 ?_; rintro a14 k15 rfl
 refine Fb 32 2 fun hl16 => ?_
 refine Jl [] (Ent.slNil (α := Int)) ?_
 refine letv (cone_Of rv4 2 []) fun rv18 hg19 => ?_
 have hc20 := fn60 rv4 a8 k9 a11 k12 a14 k15 2 ([]) none 0 pre pre rv18 hg19
 refine Oc [1, 2, 3, 0] ca60 hc20 ?_
 rintro c17 ⟨he21, he22⟩
 unfold i64ok at he21 he22
 refine Jo 0 ?_; rintro a23 k24 rfl
 refine Fb 8 0 fun hl25 => ?_
 refine Fo 0 fun ho26 => ?_
 refine Oq Vm (Oq Vx (Oq Vx (Oq Vx (Oq Va (Oq Va (Oq Va (KS ?_)))))))
 have hc30 := fn136 4 pre pre rv4 hg5
 refine Oc [] ca136 hc30 ?_
 rintro ⟨c27, c28, c29⟩ he31
 unfold i64ok at he31
 refine Jo 0 ?_; rintro a32 k33 rfl
 refine Jo 1 ?_; rintro a34 k35 rfl
 refine Jo 2 ?_; rintro a36 k37 rfl
 refine Oa (AsV sl22 sz22 [vi 1] [vi 1]) fun c38 => ?_
 refine Jo 0 ?_; rintro a39 k40 rfl
 refine Jl [0] (Ent.crInt _ [1] _ _ rfl rfl (by intro x hx; rw [List.mem_singleton] at hx; subst hx; unfold i64ok; omega) (Nat.le_of_ble_eq_true rfl)) ?_
 refine Jl [0] (Ent.freeze _ _) ?_
 refine letv (cone_Of rv4 2 [1]) fun rv42 hg43 => ?_
 have hc44 := fn60 rv4 a32 k33 a34 k35 a36 k37 2 ([1]) a39 k40 pre pre rv42 hg43
 refine Oc [1, 2, 3, 0] ca60 hc44 ?_
 rintro c41 ⟨he45, he46⟩
 unfold i64ok at he45 he46
 refine Jo 0 ?_; rintro a47 k48 rfl
 refine Fb 8 0 fun hl49 => ?_
 refine Fo 0 fun ho50 => ?_
 refine Oq Vm (Oq Vx (Oq Vx (Oq Vx (Oq Va (Oq Va (Oq Va (KS ?_)))))))
 have hc54 := fn136 4 pre pre rv4 hg5
 refine Oc [] ca136 hc54 ?_
 rintro ⟨c51, c52, c53⟩ he55
 unfold i64ok at he55
 refine Jo 0 ?_; rintro a56 k57 rfl
 refine Jo 1 ?_; rintro a58 k59 rfl
 refine Jo 2 ?_; rintro a60 k61 rfl
 refine Oa (AsV sl22 sz22 [vi 2] [vi 2]) fun c62 => ?_
 refine Jo 0 ?_; rintro a63 k64 rfl
 refine Jl [0] (Ent.crInt _ [2] _ _ rfl rfl (by intro x hx; rw [List.mem_singleton] at hx; subst hx; unfold i64ok; omega) (Nat.le_of_ble_eq_true rfl)) ?_
 refine Jl [0] (Ent.freeze _ _) ?_
 refine letv (cone_Of rv4 2 [2]) fun rv66 hg67 => ?_
 have hc68 := fn60 rv4 a56 k57 a58 k59 a60 k61 2 ([2]) a63 k64 pre pre rv66 hg67
 refine Oc [1, 2, 3, 0] ca60 hc68 ?_
 rintro c65 ⟨he69, he70⟩
 unfold i64ok at he69 he70
 refine Jo 0 ?_; rintro a71 k72 rfl
 refine Fb 8 0 fun hl73 => ?_
 refine Fo 0 fun ho74 => ?_
 refine Oq Vm (Oq Vx (Oq Vx (Oq Vx (Oq Va (Oq Va (Oq Va (KS ?_)))))))
 refine Oq Vm (Oq Veql (Oq Vm ?_))
 refine Js 32 ?_ ?_
 · intro h75
   have g76 := eq_of_beq h75
   refine Oq Vm (Oq Veql (Oq Vpt (Oq Vm ?_)))
   refine Js 36 ?_ ?_
   · intro h77
     have g78 := eq_of_beq h77
     refine Oq Vm (Oq Veql (Oq Vpt (Oq Vm ?_)))
     refine Js 40 ?_ ?_
     · intro h79
       have g80 := eq_of_beq h79
       refine Oq Vm (Oa (AsV sl22 sz22 [vi 2, vi 1, vi 0] [vi 2, vi 1, vi 0]) fun c81 => ?_)
       refine Jo 0 ?_; rintro a82 k83 rfl
       refine Jl [0] (Ent.crInt _ [2, 1, 0] _ _ rfl rfl (by intro x hx; simp only [List.mem_cons, List.not_mem_nil, or_false] at hx; rcases hx with rfl | rfl | rfl <;> (unfold i64ok; omega)) (Nat.le_of_ble_eq_true rfl)) ?_
       refine letv (flqref7_Ints rv18.1 [2, 1, 0]) fun rv84 hg85 => ?_
       refine Oc [0, 10] ca40 (FT_borrow (A := _) (fun _ _ h => by cases h) (FT_ent (Ent.take (is := [1, 0]) rfl) (fn40 rv18.1 a23 k24 ([2, 1, 0]) a82 k83 rv84 hg85))) ?_ (ht := rfl)
       rintro - -
       refine Oq Vpt (Oq Vm ?_)
       refine Js 45 ?_ ?_
       · intro h86
         refine Oq Vm (Oq Veql (Oq Vpt (Oq Vm ?_)))
         refine Js 49 ?_ ?_
         · intro h88
           have g89 := eq_of_beq h88
           refine Oq Vm (Oa (AsV sl22 sz22 [vi 2, vi 1] [vi 2, vi 1]) fun c90 => ?_)
           refine Jo 0 ?_; rintro a91 k92 rfl
           refine Jl [0] (Ent.crInt _ [2, 1] _ _ rfl rfl (by intro x hx; simp only [List.mem_cons, List.not_mem_nil, or_false] at hx; rcases hx with rfl | rfl <;> (unfold i64ok; omega)) (Nat.le_of_ble_eq_true rfl)) ?_
           refine letv (flqref7_Ints rv42.1 [2, 1]) fun rv93 hg94 => ?_
           refine Oc [0, 6] ca40 (FT_borrow (A := _) (fun _ _ h => by cases h) (FT_ent (Ent.take (is := [1, 0]) rfl) (fn40 rv42.1 a47 k48 ([2, 1]) a91 k92 rv93 hg94))) ?_ (ht := rfl)
           rintro - -
           refine Oq Vpt (Oq Vm ?_)
           refine Js 54 ?_ ?_
           · intro h95
             refine Oq Vm (Oq Veql (Oq Vpt (Oq Vm ?_)))
             refine Js 58 ?_ ?_
             · intro h97
               have g98 := eq_of_beq h97
               refine Oq Vm (Oa (AsV sl22 sz22 [vi 2] [vi 2]) fun c99 => ?_)
               refine Jo 0 ?_; rintro a100 k101 rfl
               refine Jl [0] (Ent.crInt _ [2] _ _ rfl rfl (by intro x hx; rw [List.mem_singleton] at hx; subst hx; unfold i64ok; omega) (Nat.le_of_ble_eq_true rfl)) ?_
               refine letv (flqref7_Ints rv66.1 [2]) fun rv102 hg103 => ?_
               refine Oc [0, 2] ca40 (FT_borrow (A := _) (fun _ _ h => by cases h) (FT_ent (Ent.take (is := [1, 0]) rfl) (fn40 rv66.1 a71 k72 ([2]) a100 k101 rv102 hg103))) ?_ (ht := rfl)
               rintro - -
               refine Oq Vpt (Oq Vm ?_)
               refine Js 63 ?_ ?_
               · intro h104
                 refine Oq Vm (Oq Veql (Oq Vpt (Oq Va (KS ?_))))
                 have hq := q4 hrr (rv66.2.1 == 1) (by simp only [flqlaw14_sane, h75, h77, h79, h86, h88, h95, h97, h104, hg5, hg19, hg43, hg67, hg85, hg94, hg103, cs4]); subst hq
                 exact Kr () rfl (.tmp rfl .nil) [] trivial
               intro h104
               refine Osk (Osk (Oq Vpf (Oq Va (KS ?_))))
               have hq := q4 hrr false (by simp only [flqlaw14_sane, h75, h77, h79, h86, h88, h95, h97, h104, hg5, hg19, hg43, hg67, hg85, hg94, hg103, cs4]); subst hq
               exact Kr () rfl (.tmp rfl .nil) [] trivial
             intro h97
             have g107 := ne_of_beq_false h97
             refine Osk (Osk (Osk (Oq Vpf (Oq Vm (Osk (Osk (Oq Vpf (Oq Va (KS ?_)))))))))
             have hq := q4 hrr false (by simp only [flqlaw14_sane, h75, h77, h79, h86, h88, h95, h97, hg5, hg19, hg43, hg67, hg85, hg94, cs4]); subst hq
             exact Kr () rfl (.tmp rfl .nil) [] trivial
           intro h95
           refine Osk (Osk (Oq Vpf (Oq Vm (Osk (Osk (Osk (Oq Vpf (Oq Vm (Osk ?_)))))))))
           refine Osk (Oq Vpf (Oq Va (KS ?_)))
           have hq := q4 hrr false (by simp only [flqlaw14_sane, h75, h77, h79, h86, h88, h95, hg5, hg19, hg43, hg67, hg85, hg94, cs4]); subst hq
           exact Kr () rfl (.tmp rfl .nil) [] trivial
         intro h88
         have g109 := ne_of_beq_false h88
         refine Osk (Osk (Osk (Oq Vpf (Oq Vm (Osk (Osk (Oq Vpf (Oq Vm (Osk ?_)))))))))
         refine Osk (Osk (Oq Vpf (Oq Vm (Osk (Osk (Oq Vpf (Oq Va (KS ?_))))))))
         have hq := q4 hrr false (by simp only [flqlaw14_sane, h75, h77, h79, h86, h88, hg5, hg19, hg43, hg67, hg85, cs4]); subst hq
         exact Kr () rfl (.tmp rfl .nil) [] trivial
       intro h86
       refine Osk (Osk (Oq Vpf (Oq Vm (Osk (Osk (Osk (Oq Vpf (Oq Vm (Osk ?_)))))))))
       refine Osk (Oq Vpf (Oq Vm (Osk (Osk (Osk (Oq Vpf (Oq Vm (Osk (Osk ?_)))))))))
       refine Oq Vpf (Oq Va (KS ?_))
       have hq := q4 hrr false (by simp only [flqlaw14_sane, h75, h77, h79, h86, hg5, hg19, hg43, hg67, hg85, cs4]); subst hq
       exact Kr () rfl (.tmp rfl .nil) [] trivial
     intro h79
     have g111 := ne_of_beq_false h79
     refine Osk (Osk (Osk (Oq Vpf (Oq Vm (Osk (Osk (Oq Vpf (Oq Vm (Osk ?_)))))))))
     refine Osk (Osk (Oq Vpf (Oq Vm (Osk (Osk (Oq Vpf (Oq Vm (Osk (Osk ?_)))))))))
     refine Osk (Oq Vpf (Oq Vm (Osk (Osk (Oq Vpf (Oq Va (KS ?_)))))))
     have hq := q4 hrr false (by simp only [flqlaw14_sane, h75, h77, h79, hg5, hg19, hg43, hg67, cs4]); subst hq
     exact Kr () rfl (.tmp rfl .nil) [] trivial
   intro h77
   have g112 := ne_of_beq_false h77
   refine Osk (Osk (Oq Vpf (Oq Vm (Osk (Osk (Osk (Oq Vpf (Oq Vm (Osk ?_)))))))))
   refine Osk (Oq Vpf (Oq Vm (Osk (Osk (Osk (Oq Vpf (Oq Vm (Osk (Osk ?_)))))))))
   refine Oq Vpf (Oq Vm (Osk (Osk (Osk (Oq Vpf (Oq Vm (Osk (Osk (Oq Vpf ?_)))))))))
   refine Oq Va (KS ?_)
   have hq := q4 hrr false (by simp only [flqlaw14_sane, h75, h77, hg5, hg19, hg43, hg67, cs4]); subst hq
   exact Kr () rfl (.tmp rfl .nil) [] trivial
 intro h75
 have g113 := ne_of_beq_false h75
 refine Osk (Osk (Oq Vpf (Oq Vm (Osk (Osk (Oq Vpf (Oq Vm (Osk (Osk ?_)))))))))
 refine Osk (Oq Vpf (Oq Vm (Osk (Osk (Oq Vpf (Oq Vm (Osk (Osk (Osk ?_)))))))))
 refine Oq Vpf (Oq Vm (Osk (Osk (Oq Vpf (Oq Vm (Osk (Osk (Osk (Oq Vpf ?_)))))))))
 refine Oq Vm (Osk (Osk (Oq Vpf (Oq Va (KS ?_)))))
 have hq := q4 hrr false (by simp only [flqlaw14_sane, h75, hg5, hg19, hg43, hg67, cs4]); subst hq
 exact Kr () rfl (.tmp rfl .nil) [] trivial
theorem fn13 (t : List Int) (ta0 : Option Addr) (tk0 : Nat) (rr : Bool) (hrr : flqlaw14_ConeExact t = rr) : FT Tryz.prog 13 #[vl ta0 tk0 t] [S ta0 tk0 t] (fun g : Unit => True) (fun g => vb rr) (fun g => []) := by
 refine FTi Tryz.func13 fun w0 M0 F0 => ?_
 refine Fb 8 0 fun hl1 => ?_
 refine Fo 0 fun ho2 => ?_
 refine KS ?_
 refine Oq Va (KS ?_)
 refine Oq Vm ?_
 refine letv (flqgen_New t) fun rv4 hg5 => ?_
 have hc6 := fn17 t ta0 tk0 rv4 hg5
 refine Oc [0] ca17 hc6 ?_
 rintro c3 -
 refine Oq Va (KS ?_)
 refine Oq Vm ?_
 refine letv (Tape_System t 0 7) fun rv10 hg11 => ?_
 have hc12 := fn18 c3 ta0 tk0 t 0 7 pre pre pre rv10 hg11
 refine Oc [0, 0] ca18 hc12 ?_
 rintro ⟨c7, c8, c9⟩ ⟨he13, he14, he15⟩
 unfold i64ok at he13
 refine Jo 0 ?_; rintro a16 k17 rfl
 refine Fb 24 0 fun hl18 => ?_
 refine Jo 1 ?_; rintro a19 k20 rfl
 refine Fb 88 1 fun hl21 => ?_
 refine Jo 2 ?_; rintro a22 k23 rfl
 refine Fb 32 2 fun hl24 => ?_
 have hds := System_facts (by assumption : Tape_System t 0 7 = rv10) (by omega)
 obtain ⟨hd1, hd2, hd3⟩ := hds
 have hv1 := hd1.n
 have hv2 := hd1.tl
 have hv3 := hd1.bl
 have hv4 := hd1.w
 have hv5 := hd1.dep_len
 refine Oa (Al ze27 [vi 0, .slice none 0 0, .slice none 0 0, .slice none 0 0]) fun p25 => Ost (Scl [0] sh27 [vi rv10.1.Width, vl a16 k17 rv10.1.Deps, vl a19 k20 rv10.1.Transfers, vl a22 k23 rv10.1.Boundary]) (KS ?_)
 refine Oq Vm (Oq (VldA sh27 0) ?_)
 refine letv (flqlaw14_known t rv10.2 rv10.1 false) fun rv27 hg28 => ?_
 have hc29 := fn53 c3 ta0 tk0 t rv10.2 rv10.1 a16 k17 a19 k20 a22 k23 false pre pre pre rv27 hg28
 refine Oc [4, 4, 1, 2, 3] ca53 hc29 ?_
 rintro c26 ⟨he30, he31⟩
 refine Jo 0 ?_; rintro a32 k33 rfl
 refine Fb 40 0 fun hl34 => ?_
 refine Oq Va (KS ?_)
 refine Oq Va (KS ?_)
 refine Oq Va (KS ?_)
 refine Jl [] (Ent.osNil (α := Int)) ?_
 refine Kl (γ := Nat × List Int × Int × Option Addr × Nat) (fun (r35, leaves_36, i_37, a38, k39) => ⟨[(3, c3), (4, p25), (5, vl a32 k33 rv27.1), (6, vl a38 k39 leaves_36), (7, vi i_37)], [O a38 k39 leaves_36, S a32 k33 rv27.1, Cl c3 [vl ta0 tk0 t, vi rv27.2], Cl p25 [vi rv10.1.Width, vl a16 k17 rv10.1.Deps, vl a19 k20 rv10.1.Transfers, vl a22 k23 rv10.1.Boundary], S a16 k17 rv10.1.Deps, S a19 k20 rv10.1.Transfers, S a22 k23 rv10.1.Boundary, S ta0 tk0 t], flqlaw14_ConeExact_L0 rv27.1 r35 leaves_36 i_37 = flqlaw14_ConeExact_L0 rv27.1 (((rv27.1.length : Int) - 0).toNat) [] 0 ∧ r35 = ((rv27.1.length : Int) - i_37).toNat ∧ (0 : Int) ≤ i_37 ∧ i_37 ≤ (rv27.1.length : Int) ∧ (-9223372036854775808 ≤ i_37 ∧ i_37 ≤ 9223372036854775807) ∧ (leaves_36.length : Int) ≤ i_37, r35⟩) (((rv27.1.length : Int) - 0).toNat, [], 0, none, 0) [0, 0, 1, 1, 1, 2, 3, 4] ⟨rfl, rfl, (by omega), (by omega), (by omega), iv0⟩ ?_
 rintro ⟨r35, leaves_36, i_37, a38, k39⟩ ⟨hM40, hr41, hi42, hi43, hk44, hv45⟩
 refine JJ_nx fun _ _ hL hA => ?_; dsimp only at hL hA; subst hL hA
 refine Fb 8 0 fun hl46 => ?_
 refine Fo 0 fun ho47 => ?_
 refine Fb 40 1 fun hl48 => ?_
 refine Fb 24 4 fun hl49 => ?_
 refine Fb 88 5 fun hl50 => ?_
 refine Fb 32 6 fun hl51 => ?_
 refine Fb 8 7 fun hl52 => ?_
 refine Fo 7 fun ho53 => ?_
 refine KS ?_
 refine Oq Vm (Oq Vm (Oq (Vlen sl53) (Oq Vlss (KS ?_))))
 refine Kc ?_ ?_
 · intro h54
   have g55 := of_decide_eq_true h54
   obtain ⟨r56, rfl⟩ := scc (n := r35) (by omega)
   refine KS ?_
   refine Oq Vm (Oq Vm (Oq Vm (Oq (Vi sl53 1) ?_)))
   refine JJ_peek_GKnown i_37.toNat 1 rfl rng fun a57 k58 hb59 hb60 => ?_
   unfold i64ok at hb59 hb60
   refine Fb 8 1 fun hl61 => ?_
   refine Oq (Vfa fo67_0 0) (Oq (VldF sh3 0) (Oa (AsV sl22 sz22 [vi ((rv27.1.getD i_37.toNat default).Node)] [vi ((rv27.1.getD i_37.toNat default).Node)]) fun c62 => ?_))
   refine Jo 0 ?_; rintro a63 k64 rfl
   refine Jl [0] (Ent.crInt _ [(rv27.1.getD i_37.toNat default).Node] _ _ rfl rfl (by intro x hx; rw [List.mem_singleton] at hx; subst hx; unfold i64ok; omega) (Nat.le_of_ble_eq_true rfl)) ?_
   refine Oa (ApO [3, 0] sl22 sl22 sz22) fun c65 => ?_
   refine Jo 0 ?_; rintro a66 k67 rfl
   refine Fb 8 0 fun hl68 => ?_
   refine Fo 0 fun ho69 => ?_
   have hn70 := la leaves_36 ([(rv27.1.getD i_37.toNat default).Node] : List Int)
   refine Oq Va (KS ?_)
   refine Oq Vm (Oq Vadd (Oq Va (KS ?_)))
   exact Kg (r56, (leaves_36 ++ [(rv27.1.getD i_37.toNat default).Node]), (i_37 + 1), a66, k67) [0, 2, 3, 3, 3, 4, 5, 6] ⟨(q3 hM40 (by simp only [flqlaw14_ConeExact_L0, h54, hg5, hg11, hg28, cs4])), (by omega), (by omega), (by omega), (by omega), iv1⟩
 intro h54
 have g71 := of_decide_eq_false h54
 obtain rfl : r35 = 0 := by omega
 refine Ke ?_
 have hR72 := q2 hM40 leaves_36 (by simp only [flqlaw14_ConeExact_L0, h54, hg5, hg11, hg28, cs4])
 refine KS ?_
 refine Jp 3 fun hp73 => ?_
 refine JK_drawK [0, 0, 0, 4, 12, 30, 0, 127, 255, 511, 511, 511, 1023, 6143, 16383] fmix ?_
 refine Dv [4] (VldA sh27 0) (Dv [] Vm (Dv [0] (Vfa fo27_1 0) (Dv [4] (VldF sh23 0) (Dv [] (Vlen sl23) ?_))))
 refine letv (Tape_Next t rv27.2 (rv10.1.Deps.length : Int)) fun rv74 hg75 => ?_
 refine Dx [3, 8] [3] [2, 0, 1] (fun G => vi rv74.1) [fun G => SP.fact (i64ok rv74.1 ∧ (0 ≤ rv74.2 ∧ rv74.2 ≤ (t.length : Int)) ∧ (0 ≤ rv74.1 ∧ (rv74.1 < (rv10.1.Deps.length : Int) ∨ rv74.1 = 0))), fun G => Cl c3 [vl ta0 tk0 t, vi rv74.2]] (fun G => xC [0, 0] ca19 (fn19 c3 ta0 tk0 t rv27.2 ((rv10.1.Deps.length : Int)) pre pre rv74 hg75)) (Dv [] Vm ?_)
 refine letv (cone_Of rv10.1 rv74.1 leaves_36) fun rv77 hg78 => ?_
 refine Dx [1, 5, 6, 7, 9] [1] [3, 4, 5, 6, 2, 0, 1] (fun G => .tuple #[(G.g 7 0), vi rv77.2.1, vi rv77.2.2]) [fun G => S a38 k39 leaves_36, fun G => SP.fact (i64ok rv77.2.1 ∧ i64ok rv77.2.2), fun G => sl (G.g 7 0) rv77.1] (fun G => by refine xf 4 rfl ?_; rintro ⟨he79, he80, he81⟩; unfold i64ok at he79; exact xp [0] rfl (Ent.freeze _ _) (xC [1, 2, 3, 0] ca60 (fn60 rv10.1 a16 k17 a19 k20 a22 k23 rv74.1 leaves_36 a38 k39 pre pre rv77 hg78))) (Dg [] (fun G => .tuple #[(G.g 7 0), vi rv77.2.1, vi rv77.2.2]) (fun G => Vm) (Dg [] (fun G => (G.g 7 0)) (fun G => Vx) (Dv [] Vx (Dv [] Vx (Dg [] (fun G => (G.g 7 0)) (fun G => Va) (Dv [] Va (Dv [] Va ?_)))))))
 refine Dn ⟨by kernel_rfl, fun G => ?_⟩
 refine Jw2 [(4, p25), (5, vl a32 k33 rv27.1), (8, (G.g 7 0)), (10, vi rv77.2.2)] [0, 2, 4, 5, 6, 7, 8] [SP.fact (i64ok rv74.1 ∧ (0 ≤ rv74.2 ∧ rv74.2 ≤ (t.length : Int)) ∧ (0 ≤ rv74.1 ∧ (rv74.1 < (rv10.1.Deps.length : Int) ∨ rv74.1 = 0))), Cl c3 [vl ta0 tk0 t, vi rv74.2], S a38 k39 leaves_36, SP.fact (i64ok rv77.2.1 ∧ i64ok rv77.2.2), sl (G.g 7 0) rv77.1] ?_
 generalize G.g 7 0 = c76
 refine Jf 7 rfl ?_; rintro ⟨he82, he83, he84⟩
 unfold i64ok at he82
 refine Jf 10 rfl ?_; rintro ⟨he85, he86⟩
 unfold i64ok at he85 he86
 refine Jk [1, 2, 2, 3, 4, 5, 7, 7, 9] ?_
 refine Jo 8 ?_; rintro a87 k88 rfl
 refine Fb 8 8 fun hl89 => ?_
 refine Fo 8 fun ho90 => ?_
 refine KS ?_
 refine Oq (VldA sh27 1) (Oq Vm (Oq Vm ?_))
 refine letv (cone_Restrict rv10.1 rv77.1 rv27.1) fun rv94 hg95 => ?_
 have hc96 := fn54 rv10.1 a16 k17 a19 k20 a22 k23 rv77.1 a87 k88 rv27.1 a32 k33 pre (Of_facts (by assumption) hd1).1 (Of_facts12 (by assumption) hd1 hd2) rv94 hg95
 refine Oc [2, 3, 4, 8, 0] ca54 hc96 ?_
 rintro ⟨c91, c92, c93⟩ ⟨he97, he98⟩
 unfold i64ok at he97 he98
 refine Jo 0 ?_; rintro a99 k100 rfl
 refine Fb 24 0 fun hl101 => ?_
 refine Jo 1 ?_; rintro a102 k103 rfl
 refine Fb 88 1 fun hl104 => ?_
 refine Jo 2 ?_; rintro a105 k106 rfl
 refine Fb 32 2 fun hl107 => ?_
 refine Oq Vm (Oq Vx (Oq Vx (Oa (Al ze27 [vi 0, .slice none 0 0, .slice none 0 0, .slice none 0 0]) fun p108 => Ost (Scl [0] sh27 [vi rv94.1.Width, vl a99 k100 rv94.1.Deps, vl a102 k103 rv94.1.Transfers, vl a105 k106 rv94.1.Boundary]) (Oq Va (KS ?_)))))
 refine Oq (VldA sh27 0) ?_
 refine letv (fixpoint_Solve rv94.1) fun rv110 hg111 => ?_
 have hc112 := fn49 rv94.1 a99 k100 a102 k103 a105 k106 pre rv110 hg111
 refine Oc [1, 2, 3] ca49 hc112 ?_
 rintro c109 ⟨he113, he114⟩
 unfold i64ok at he113 he114
 refine Jo 0 ?_; rintro a115 k116 rfl
 refine Fb 32 0 fun hl117 => ?_
 refine Oq Vm (Oq Vx (Oq Vx (Oq Vx (Oq Va (Oq Va (Oq Va (KS ?_)))))))
 refine Oq (VldA sh27 6) ?_
 refine letv (fixpoint_Solve rv10.1) fun rv119 hg120 => ?_
 have hc121 := fn49 rv10.1 a16 k17 a19 k20 a22 k23 pre rv119 hg120
 refine Oc [7, 8, 9] ca49 hc121 ?_
 rintro c118 ⟨he122, he123⟩
 unfold i64ok at he122 he123
 refine Jo 0 ?_; rintro a124 k125 rfl
 refine Fb 32 0 fun hl126 => ?_
 refine Oq Vm (Oq Vx (Oq Vx (Oq Vx (Oq Va (Oq Va (Oq Va (KS ?_)))))))
 refine Oq Vm (Oq Vneq (Oq Vm ?_))
 refine Js 74 ?_ ?_
 · intro h127
   have g128 := ne_of_bne h127
   refine Osk (Osk (Oq Vpt (Oq Vm (Osk (Osk (Oq Vpt (Oq Vm (Osk (Osk ?_)))))))))
   refine Oq Vpt (Oq Vm (Osk (Osk (Osk (Osk (Osk (Oq Vpt (KS ?_))))))))
   refine Kt ?_
   refine KS ?_
   refine Oq Va (KS ?_)
   have hq := q4 hrr false (by unfold flqlaw14_ConeExact; simp only [h54, h127, hg5, hg11, hg28, hR72, hg75, hg78, hg95, hg111, hg120, cs4]); subst hq
   exact Kr () rfl (.tmp rfl .nil) [] trivial
 intro h127
 have g129 := eq_of_bne_false h127
 refine Oq Vm (Oq Vneq (Oq Vpf (Oq Vm ?_)))
 refine Js 78 ?_ ?_
 · intro h130
   have g131 := ne_of_bne h130
   refine Osk (Osk (Oq Vpt (Oq Vm (Osk (Osk (Oq Vpt (Oq Vm (Osk (Osk ?_)))))))))
   refine Osk (Osk (Osk (Oq Vpt (KS ?_))))
   refine Kt ?_
   refine KS ?_
   refine Oq Va (KS ?_)
   have hq := q4 hrr false (by unfold flqlaw14_ConeExact; simp only [h54, h127, h130, hg5, hg11, hg28, hR72, hg75, hg78, hg95, hg111, hg120, cs4]); subst hq
   exact Kr () rfl (.tmp rfl .nil) [] trivial
 intro h130
 have g132 := eq_of_bne_false h130
 refine Oq Vm (Oq Vneq (Oq Vpf (Oq Vm ?_)))
 refine Js 82 ?_ ?_
 · intro h133
   have g134 := ne_of_bne h133
   refine Osk (Osk (Oq Vpt (Oq Vm (Osk (Osk (Osk (Osk (Osk (Oq Vpt ?_)))))))))
   refine KS ?_
   refine Kt ?_
   refine KS ?_
   refine Oq Va (KS ?_)
   have hq := q4 hrr false (by unfold flqlaw14_ConeExact; simp only [h54, h127, h130, h133, hg5, hg11, hg28, hR72, hg75, hg78, hg95, hg111, hg120, cs4]); subst hq
   exact Kr () rfl (.tmp rfl .nil) [] trivial
 intro h133
 have g135 := eq_of_bne_false h133
 refine Oq Vm (Oq Vneq (Oq Vpf (Oq Vm ?_)))
 refine Js 86 ?_ ?_
 · intro h136
   have g137 := ne_of_bne h136
   refine Osk (Osk (Osk (Osk (Osk (Oq Vpt (KS ?_))))))
   refine Kt ?_
   refine KS ?_
   refine Oq Va (KS ?_)
   have hq := q4 hrr false (by unfold flqlaw14_ConeExact; simp only [h54, h127, h130, h133, h136, hg5, hg11, hg28, hR72, hg75, hg78, hg95, hg111, hg120, cs4]); subst hq
   exact Kr () rfl (.tmp rfl .nil) [] trivial
 intro h136
 have g138 := eq_of_bne_false h136
 refine Oq Vm (Oq (Vlen sl25) (Oq Vm (Oq (Vlen sl22) (Oq Vneq (Oq Vpf (KS ?_))))))
 refine Kc ?_ ?_
 · intro h139
   have g140 := ne_of_bne h139
   refine KS ?_
   refine Oq Va (KS ?_)
   have hq := q4 hrr false (by unfold flqlaw14_ConeExact; simp only [h54, h127, h130, h133, h136, h139, hg5, hg11, hg28, hR72, hg75, hg78, hg95, hg111, hg120, cs4]); subst hq
   exact Kr () rfl (.tmp rfl .nil) [] trivial
 intro h139
 have g141 := eq_of_bne_false h139
 refine KS ?_
 refine Oq Va (KS ?_)
 refine Kl (γ := Nat × Int) (fun (r142, i_143) => ⟨[(8, vl a87 k88 rv77.1), (13, vl a115 k116 rv110.1), (16, vl a124 k125 rv119.1), (19, vi i_143)], [S a124 k125 rv119.1, S a115 k116 rv110.1, S a87 k88 rv77.1], flqlaw14_ConeExact_L1 rv77.1 rv110.1 rv119.1 r142 i_143 = flqlaw14_ConeExact_L1 rv77.1 rv110.1 rv119.1 (((rv77.1.length : Int) - 0).toNat) 0 ∧ r142 = ((rv77.1.length : Int) - i_143).toNat ∧ (0 : Int) ≤ i_143 ∧ i_143 ≤ (rv77.1.length : Int) ∧ (-9223372036854775808 ≤ i_143 ∧ i_143 ≤ 9223372036854775807), r142⟩) (((rv77.1.length : Int) - 0).toNat, 0) [0, 1, 14] ⟨rfl, rfl, (by omega), (by omega), (by omega)⟩ ?_
 rintro ⟨r142, i_143⟩ ⟨hM144, hr145, hi146, hi147, hk148⟩
 refine JJ_nx fun _ _ hL hA => ?_; dsimp only at hL hA; subst hL hA
 refine Fb 32 0 fun hl149 => ?_
 refine Fb 32 1 fun hl150 => ?_
 refine Fb 8 2 fun hl151 => ?_
 refine Fo 2 fun ho152 => ?_
 refine KS ?_
 refine Oq Vm (Oq Vm (Oq (Vlen sl22) (Oq Vlss (KS ?_))))
 refine Kc ?_ ?_
 · intro h153
   have g154 := of_decide_eq_true h153
   obtain ⟨r155, rfl⟩ := scc (n := r142) (by omega)
   refine KS ?_
   refine bool_split (decide ((rv77.1.getD i_143.toNat 0) < 0)) ?_ ?_
   · intro h156
     have g157 := of_decide_eq_true h156
     refine Kq [0, 0, 3, 7, 15, 31, 63, 63, 255, 511, 63, 1087, 4095, 8191, 16383, 32767, 32767, 131071, 262143, 32767, 32767, 32767, 3178495, 7372799, 16285695, 33062911, 67108863, 134217727, 268435455] fmix ?_
     refine Qv [] Vm (Qv [] Vm (Qv [2] (Vi sl22 0) ?_))
     have hb158 := ok1 (i := i_143.toNat) ho152 rng
     refine Qv [2] (VldI sh3 0) (Qb h156 [] Vlss (Qv [] Vm (Qs (Qs (Qs (Qs (Qs (Qs (Qs ?_)))))))))
     refine Qv [] Vpt (Qv [] Vm (Qs (Qs (Qs (Qs (Qs (Qs (Qs (Qs ?_)))))))))
     refine Qs (Qs (Qs (Qs (Qs (Qv [] Vpt ?_)))))
     refine Qn ⟨by kernel_rfl, ?_⟩
     refine Kt ?_
     refine KS ?_
     refine Oq Va (KS ?_)
     have hR159 := q2 hM144 (.ret false) (by simp only [flqlaw14_ConeExact_L1, h54, h127, h130, h133, h136, h139, h153, h156, hg5, hg11, hg28, hR72, hg75, hg78, hg95, hg111, hg120, cs4])
     have hq := q4 hrr false (by unfold flqlaw14_ConeExact; simp only [h54, h127, h130, h133, h136, h139, h153, h156, hg5, hg11, hg28, hR72, hg75, hg78, hg95, hg111, hg120, hR159, cs4]); subst hq
     exact Kr () rfl (.tmp rfl .nil) [] trivial
   intro h156
   have g160 := of_decide_eq_false h156
   refine bool_split (decide ((rv119.1.length : Int) ≤ (rv77.1.getD i_143.toNat 0))) ?_ ?_
   · intro h161
     have g162 := of_decide_eq_true h161
     refine Kq [0, 0, 3, 7, 15, 31, 63, 63, 255, 511, 63, 1087, 4095, 8191, 16383, 32767, 32767, 131071, 262143, 32767, 32767, 32767, 3178495, 7372799, 16285695, 33062911, 67108863, 134217727, 268435455] fmix ?_
     refine Qv [] Vm (Qv [] Vm (Qv [2] (Vi sl22 0) ?_))
     have hb163 := ok1 (i := i_143.toNat) ho152 rng
     refine Qv [2] (VldI sh3 0) (Qb h156 [] Vlss (Qv [] Vm (Qv [] Vm (Qv [] Vm (Qv [2] (Vi sl22 0) ?_)))))
     have hb164 := ok1 (i := i_143.toNat) ho152 rng
     refine Qv [2] (VldI sh3 0) (Qv [] Vm (Qv [] (Vlen sl25) (Qb h161 [] Vgeq (Qv [] Vpf (Qv [] Vm (Qs (Qs (Qs (Qs ?_)))))))))
     refine Qs (Qs (Qs (Qs (Qs (Qs (Qs (Qs (Qs (Qv [] Vpt ?_)))))))))
     refine Qn ⟨by kernel_rfl, ?_⟩
     refine Kt ?_
     refine KS ?_
     refine Oq Va (KS ?_)
     have hR165 := q2 hM144 (.ret false) (by simp only [flqlaw14_ConeExact_L1, h54, h127, h130, h133, h136, h139, h153, h156, h161, hg5, hg11, hg28, hR72, hg75, hg78, hg95, hg111, hg120, cs4])
     have hq := q4 hrr false (by unfold flqlaw14_ConeExact; simp only [h54, h127, h130, h133, h136, h139, h153, h156, h161, hg5, hg11, hg28, hR72, hg75, hg78, hg95, hg111, hg120, hR165, cs4]); subst hq
     exact Kr () rfl (.tmp rfl .nil) [] trivial
   intro h161
   have g166 := of_decide_eq_false h161
   refine JJ_peek_GSet i_143.toNat 1 rfl rng fun a167 k168 hb169 => ?_
   unfold i64ok at hb169
   refine Fb 8 1 fun hl170 => ?_
   refine JJ_peek_GSet ((rv77.1.getD i_143.toNat 0) : Int).toNat 2 rfl rng fun a171 k172 hb173 => ?_
   unfold i64ok at hb173
   refine Fb 8 1 fun hl174 => ?_
   refine JK_drawK [0, 0, 3, 7, 15, 31, 63, 63, 255, 511, 63, 1087, 4095, 8191, 16383, 32767, 32767, 131071, 262143, 32767, 32767, 32767, 3178495, 7372799, 16285695, 33062911, 67108863, 134217727, 268435455] fmix ?_
   refine Dv [] Vm (Dv [] Vm (Dv [6] (Vi sl22 0) ?_))
   have hb175 := ok1 (i := i_143.toNat) ho152 rng
   refine Dv [6] (VldI sh3 0) (Db h156 [] Vlss (Dv [] Vm (Dv [] Vm (Dv [] Vm (Dv [6] (Vi sl22 0) ?_)))))
   have hb176 := ok1 (i := i_143.toNat) ho152 rng
   refine Dv [6] (VldI sh3 0) (Dv [] Vm (Dv [] (Vlen sl25) (Db h161 [] Vgeq (Dv [] Vpf (Dv [] Vm (Dv [] Vm (Dv [] Vm (Dv [5] (Vi sl25 0) (Dv [2] (VldA sh42 0) ?_)))))))))
   refine Dv [] Vm (Dv [] Vm (Dv [] Vm (Dv [6] (Vi sl22 0) ?_)))
   have hb177 := ok1 (i := i_143.toNat) ho152 rng
   refine Dv [6] (VldI sh3 0) (Dv [4] (Vi sl25 0) (Dv [0] (VldA sh42 0) ?_))
   refine letv (flqref1_Same (rv110.1.getD i_143.toNat default) (rv119.1.getD ((rv77.1.getD i_143.toNat 0) : Int).toNat default)) fun rv178 hg179 => ?_
   refine Dx [1, 3] [] [1, 2, 0] (fun G => vb rv178) [fun G => SP.fact (True)] (fun G => xC [1, 0] ca45 (fn45 ((rv110.1.getD i_143.toNat default)) a167 k168 ((rv119.1.getD ((rv77.1.getD i_143.toNat 0) : Int).toNat default)) a171 k172 pre pre rv178 hg179)) (Dv [] Vnot (Dv [] Vpf ?_))
   refine Dn ⟨by kernel_rfl, fun G => ?_⟩
   refine Jw2 [(8, vl a87 k88 rv77.1), (13, vl a115 k116 rv110.1), (16, vl a124 k125 rv119.1), (19, vi i_143), (127, vb (!rv178))] [0, 1, 2, 3, 4, 5, 6] [SP.fact (True)] ?_
   refine Jk [0, 1, 2, 3, 4, 5, 6] ?_
   refine Kc ?_ ?_
   · intro h180
     have h182 := not_true h180
     refine KS ?_
     refine Oq Va (KS ?_)
     have hR184 := q2 hM144 (.ret false) (by simp only [flqlaw14_ConeExact_L1, h54, h127, h130, h133, h136, h139, h153, h156, h161, h180, h182, hg5, hg11, hg28, hR72, hg75, hg78, hg95, hg111, hg120, hg179, cs4])
     have hq := q4 hrr false (by unfold flqlaw14_ConeExact; simp only [h54, h127, h130, h133, h136, h139, h153, h156, h161, h180, h182, hg5, hg11, hg28, hR72, hg75, hg78, hg95, hg111, hg120, hg179, hR184, cs4]); subst hq
     exact Kr () rfl (.tmp rfl .nil) [] trivial
   intro h180
   have h186 := not_false h180
   refine KS ?_
   refine Oq Vm (Oq Vadd (Oq Va (KS ?_)))
   exact Kg (r155, (i_143 + 1)) [4, 5, 6] ⟨(q3 hM144 (by simp only [flqlaw14_ConeExact_L1, h54, h127, h130, h133, h136, h139, h153, h156, h161, h180, h186, hg5, hg11, hg28, hR72, hg75, hg78, hg95, hg111, hg120, hg179, cs4])), (by omega), (by omega), (by omega), (by omega)⟩
 intro h153
 have g188 := of_decide_eq_false h153
 obtain rfl : r142 = 0 := by omega
 refine Ke ?_
 have hR189 := q2 hM144 (.brk ()) (by simp only [flqlaw14_ConeExact_L1, h54, h127, h130, h133, h136, h139, h153, hg5, hg11, hg28, hR72, hg75, hg78, hg95, hg111, hg120, cs4])
 refine KS ?_
 have hc190 := fn59  flqlaw14_sane rfl
 refine Oc [] ca59 hc190 ?_
 rintro - -
 refine Oq Va (KS ?_)
 have hq := q4 hrr flqlaw14_sane (by unfold flqlaw14_ConeExact; simp only [h54, h127, h130, h133, h136, h139, h153, hg5, hg11, hg28, hR72, hg75, hg78, hg95, hg111, hg120, hR189, cs4]); subst hq
 exact Kr () rfl (.tmp rfl .nil) [] trivial
end Go.SL.G
