/- Part 4 of the walks: mirrors, plain laws and walks used by the last text of this claim. -/
import Derived.Test.YtbccjgpbflaibaaGreatW3
import Derived.Test.YtbccjgpbflaibaaGreatProg
set_option linter.unusedVariables false
set_option linter.unusedSimpArgs false
namespace Go.SL.G
open Go Go.SL Go.Proofs
set_option maxHeartbeats 20000000
set_option maxRecDepth 100000
theorem fn101 (s : GSystem) (sa1 : Option Addr) (sk1 : Nat) (sa2 : Option Addr) (sk2 : Nat) (sa3 : Option Addr) (sk3 : Nat) (values : List GSet) (valuesa0 : Option Addr) (valuesk0 : Nat) (n : Int) (hs_0 : i64ok s.Width) (hn_0 : i64ok n) (rr : GSet × Int) (hrr : eq_Right s values n = rr) : FT Tryz.prog 101 #[.agg #[vi s.Width, vl sa1 sk1 s.Deps, vl sa2 sk2 s.Transfers, vl sa3 sk3 s.Boundary], vl valuesa0 valuesk0 values, vi n] [S sa1 sk1 s.Deps, S sa2 sk2 s.Transfers, S sa3 sk3 s.Boundary, S valuesa0 valuesk0 values] (fun g : Value => i64ok rr.1.Width ∧ i64ok rr.2) (fun g => .tuple #[.agg #[vi rr.1.Width, g], vi rr.2]) (fun g => [sl g rr.1.Words]) := by
 refine FTi Tryz.func101 fun w0 M0 F0 => ?_
 unfold i64ok at hs_0 hn_0
 refine Fb 24 0 fun _ => Fb 88 1 fun _ => Fb 32 2 fun _ => Fb 32 3 fun _ => KS ?_
 refine Oa (Ab [vi s.Width, vl sa1 sk1 s.Deps, vl sa2 sk2 s.Transfers, vl sa3 sk3 s.Boundary]) fun p5 => Oa (Al ze42 [vi 0, .slice none 0 0]) fun p6 => Oq Va (KS ?_)
 refine Oq (VldA sh27 1) ?_
 refine letv (eq_Valid s) fun rv7 hg8 => ?_
 have hc9 := fn56 s sa1 sk1 sa2 sk2 sa3 sk3 pre rv7 hg8
 refine Oc [2, 3, 4] ca56 hc9 ?_
 rintro - -
 refine Oq Vnot (Oq Va (KS ?_))
 refine Kc ?_ ?_
 ·intro h10
  have h12 := not_true h10
  refine KS ?_
  refine Oq (Vbd st42 [vi 0, .slice none 0 0]) (Ost (Scl [0] sh42 [vi 0, .slice none 0 0]) (Oq Va (KS ?_)))
  refine Jl [] (Ent.slNil (α := BitVec 64)) ?_
  have hq := q4 hrr ((GSet.mk 0 []), 1) (by simp only [eq_Right, h10, h12, hg8, cs4]); subst hq
  exact Kr (.slice none 0 0) rfl (.cellN 1 rfl sh42 rfl (reads_Cl _ _) rfl (.tmp rfl .nil)) [0] en
 intro h10
 have h15 := not_false h10
 try (have hvs := (EValid_iff s).1 (by simp only [h10, h15, hg8]); have hv1 := hvs.n; have hv2 := hvs.tl; have hv3 := hvs.bl; have hv4 := hvs.w; have hv5 := hvs.dep_len)
 refine KS ?_
 refine Oq Vm (Oq Vlss (Oq Vm ?_))
 refine Js 21 ?_ ?_
 ·intro h17
  have g18 := dt h17
  refine Osk (Osk (Osk (Osk (Osk (Oq Vpt (Oq Va (KS ?_)))))))
  refine Kt (KS ?_)
  refine Oq (Vbd st42 [vi 0, .slice none 0 0]) (Ost (Scl [0] sh42 [vi 0, .slice none 0 0]) (Oq Va (KS ?_)))
  refine Jl [] (Ent.slNil (α := BitVec 64)) ?_
  have hq := q4 hrr ((GSet.mk 0 []), 9) (by simp only [eq_Right, h10, h15, h17, hg8, cs4]); subst hq
  exact Kr (.slice none 0 0) rfl (.cellN 1 rfl sh42 rfl (reads_Cl _ _) rfl (.tmp rfl .nil)) [0] en
 intro h17
 have g19 := df h17
 refine Oq Vm (Oq (Vfa fo27_1 1) (Oq (VldF sh23 1) (Oq (Vlen sl23) (Oq Vgeq (Oq Vpf (Oq Va (KS ?_)))))))
 refine Kc ?_ ?_
 ·intro h20
  have g21 := dt h20
  refine KS ?_
  refine Oq (Vbd st42 [vi 0, .slice none 0 0]) (Ost (Scl [0] sh42 [vi 0, .slice none 0 0]) (Oq Va (KS ?_)))
  refine Jl [] (Ent.slNil (α := BitVec 64)) ?_
  have hq := q4 hrr ((GSet.mk 0 []), 9) (by simp only [eq_Right, h10, h15, h17, h20, hg8, cs4]); subst hq
  exact Kr (.slice none 0 0) rfl (.cellN 1 rfl sh42 rfl (reads_Cl _ _) rfl (.tmp rfl .nil)) [0] en
 intro h20
 have g22 := df h20
 refine KS ?_
 refine Oq Vm (Oq (Vlen sl25) (Oq (Vfa fo27_1 1) (Oq (VldF sh23 1) (Oq (Vlen sl23) (Oq Vneq (Oq Vm ?_))))))
 refine Js 36 ?_ ?_
 ·intro h23
  have g24 := ne_of_bne h23
  refine Osk (Osk (Oq Vpt (Oq Va (KS ?_))))
  refine Kt (KS ?_)
  refine Oq (Vbd st42 [vi 0, .slice none 0 0]) (Ost (Scl [0] sh42 [vi 0, .slice none 0 0]) (Oq Va (KS ?_)))
  refine Jl [] (Ent.slNil (α := BitVec 64)) ?_
  have hq := q4 hrr ((GSet.mk 0 []), 1) (by simp only [eq_Right, h10, h15, h17, h20, h23, hg8, cs4]); subst hq
  exact Kr (.slice none 0 0) rfl (.cellN 1 rfl sh42 rfl (reads_Cl _ _) rfl (.tmp rfl .nil)) [0] en
 intro h23
 have g25 := eq_of_bne_false h23
 refine Oq Vm ?_
 refine JJ_ent (Ent.pall [] rfl rfl) ?_
 refine letv (sc_ContainsFunc_Set values (fun x => eq_Right_1 x)) fun rv26 hg27 => ?_
 have hc28 := fn135 values valuesa0 valuesk0 141 [] (fun x => eq_Right_1 x) [] ca141 (fun x hx a1 k1 hq0 => FT_pall (A1 := _) (fn141 x a1 k1  hq0 _ rfl)) rv26 hg27
 refine Oc [6, 0] ca135 hc28 ?_
 rintro - -
 refine Oq Vpf (Oq Va (KS ?_))
 refine Kc ?_ ?_
 ·intro h29
  try (have hvs := (EValid_iff s).1 (by simp only [h10, h15, h17, h20, h23, h29, hg8, hg27]); have hv1 := hvs.n; have hv2 := hvs.tl; have hv3 := hvs.bl; have hv4 := hvs.w; have hv5 := hvs.dep_len)
  refine KS ?_
  refine Oq (Vbd st42 [vi 0, .slice none 0 0]) (Ost (Scl [1] sh42 [vi 0, .slice none 0 0]) (Oq Va (KS ?_)))
  refine Jl [] (Ent.slNil (α := BitVec 64)) ?_
  have hq := q4 hrr ((GSet.mk 0 []), 1) (by simp only [eq_Right, h10, h15, h17, h20, h23, h29, hg8, hg27, cs4]); subst hq
  exact Kr (.slice none 0 0) rfl (.cellN 1 rfl sh42 rfl (reads_Cl _ _) rfl (.tmp rfl .nil)) [0] en
 intro h29
 refine KS ?_
 refine Oq (Vfa fo27_0 2) (Oq (VldF sh3 2) (Oq Vm ?_))
 refine letv (eq_sets s.Width values) fun rv32 hg33 => ?_
 have hc34 := fn95 s.Width values valuesa0 valuesk0 pre rv32 hg33
 refine Oc [6] ca95 hc34 ?_
 rintro - -
 refine Oq Vnot (Oq Va (KS ?_))
 refine Kc ?_ ?_
 ·intro h35
  have h37 := not_true h35
  refine KS ?_
  refine Oq (Vbd st42 [vi 0, .slice none 0 0]) (Ost (Scl [1] sh42 [vi 0, .slice none 0 0]) (Oq Va (KS ?_)))
  refine Jl [] (Ent.slNil (α := BitVec 64)) ?_
  have hq := q4 hrr ((GSet.mk 0 []), 2) (by simp only [eq_Right, h10, h15, h17, h20, h23, h29, h35, h37, hg8, hg27, hg33, cs4]); subst hq
  exact Kr (.slice none 0 0) rfl (.cellN 1 rfl sh42 rfl (reads_Cl _ _) rfl (.tmp rfl .nil)) [0] en
 intro h35
 have h40 := not_false h35
 try (have hvs := (EValid_iff s).1 (by simp only [h10, h15, h17, h20, h23, h29, h35, h40, hg8, hg27, hg33]); have hv1 := hvs.n; have hv2 := hvs.tl; have hv3 := hvs.bl; have hv4 := hvs.w; have hv5 := hvs.dep_len)
 refine KS ?_
 refine JJ_peek_GSet n.toNat 5 rfl rng fun a42 k43 hb44 => ?_
 unfold i64ok at hb44
 refine Fb 8 1 fun _ => ?_
 refine JK_drawK [0, 1, 0, 4, 0, 28, 60, 124, 252, 511, 0, 2047] fmix ?_
 refine Dv [4] (Vfa fo27_0 0) (Dv [4] (VldF sh3 0) (Dv [4] (Vfa fo27_3 0) (Dv [4] (VldF sh25 0) (Dv [] Vm (Dv [7] (Vi sl25 0) (Dv [0] (Vfa fo42_1 0) (Dv [0] (VldF sh40 0) ?_)))))))
 refine letv (sc_Clone_uint64 ((s.Boundary.getD n.toNat default).Words)) fun rv47 hg48 => Dx [1] [] [2, 0, 1] (fun G => (G.g 8 0)) [fun G => SP.fact ((rv47.length = ((s.Boundary.getD n.toNat default).Words).length)), fun G => os (G.g 8 0) rv47] (fun G => xC [0] ca142 (fn142 ((s.Boundary.getD n.toNat default).Words) a42 k43 rv47 hg48)) ?_
 refine Dx [10] [] [0] (fun G => .agg #[vi s.Width, (G.g 8 0)]) [] (fun G => xV (v := .agg #[vi s.Width, (G.g 8 0)]) (Vo 0 rfl (isO_os _ _) fun aq49 kq50 eq51 => (by rw [eq51]; exact Vbd st42 [vi s.Width, .slice aq49 ((rv47 : List (BitVec 64)).length) kq50]))) (Dx [] [] [0] (fun G => (G.g 10 0)) [fun G => Cl (G.g 10 0) [vi 0, .slice none 0 0]] (fun G => xA (Al ze42 [vi 0, .slice none 0 0])) (Dx0 [10, 11] [11] [1, 0] [fun G => Cl (G.g 10 0) [vi s.Width, (G.g 8 0)]] (fun G => x1 0 rfl os_one fun ho53 => (xS (Scl [1] sh42 [vi s.Width, (G.g 8 0)] (v := .agg #[vi s.Width, (G.g 8 0)]) (h1 := show [vi s.Width, (G.g 8 0)].all (·.oneCell') = true from (by simp only [List.all_cons, List.all_nil, ho53, Bool.and_true, Bool.true_and] <;> rfl))))) ?_))
 refine Dn ⟨by kernel_rfl, fun G => ?_⟩
 refine Jw2 [(1, vl valuesa0 valuesk0 values), (2, vi n), (3, p5), (6, p6), (8, (G.g 10 0))] [0, 1, 2, 3, 4, 5, 6, 7, 8] [SP.fact ((rv47.length = ((s.Boundary.getD n.toNat default).Words).length)), os (G.g 8 0) rv47, Cl (G.g 10 0) [vi s.Width, (G.g 8 0)]] ?_
 generalize G.g 8 0 = c46, G.g 10 0 = p52
 refine Jf 9 rfl ?_; rintro he54
 refine Jk [0, 1, 2, 3, 3, 4, 5, 6, 7, 9, 9] ?_
 refine Jo 9 ?_; rintro a55 k56 rfl
 refine Fb 8 9 fun _ => KS ?_
 refine Oq (Vfa fo27_1 4) (Oq (VldF sh23 4) (Oq Vm (Oq (Vi sl23 5) ?_)))
 refine JJ_peekL n.toNat 5 rfl rng fun a58 k59 => ?_
 refine Fb 8 1 fun _ => Fo 1 fun ho61 => ?_
 refine Oq (Vld sh22 0) (Oq (Vlen sl22) (Oq Vm (KS ?_)))
 refine Jl [11] (Ent.freeze _ _) ?_
 refine Kl (γ := Nat × Int × List (BitVec 64) × Int × Option Addr × Nat) (fun (r62, out0_63, out1_64, v64_65, a66, k67) => ⟨[(1, vl valuesa0 valuesk0 values), (3, p5), (6, p6), (8, p52), (62, vl a58 k59 (s.Deps.getD n.toNat [])), (63, vi ((s.Deps.getD n.toNat []).length : Int)), (64, vi v64_65)], [S a66 k67 out1_64, S a58 k59 ((s.Deps.getD n.toNat []) : List Int), pAll [], Cl p6 [vi 0, .slice none 0 0], pv p5 [vi s.Width, vl sa1 sk1 s.Deps, vl sa2 sk2 s.Transfers, vl sa3 sk3 s.Boundary], S sa1 sk1 s.Deps, S sa2 sk2 s.Transfers, S sa3 sk3 s.Boundary, S valuesa0 valuesk0 values, Cl p52 [vi out0_63, vl a66 k67 out1_64]], eq_Right_L0 s values n r62 out0_63 out1_64 v64_65 = eq_Right_L0 s values n (((((s.Deps.getD n.toNat []).length : Int) : Int) - 0).toNat) s.Width rv47 0 ∧ r62 = ((((s.Deps.getD n.toNat []).length : Int) : Int) - v64_65).toNat ∧ (0 : Int) ≤ v64_65 ∧ (v64_65 ≤ ((s.Deps.getD n.toNat []).length : Int) ∨ v64_65 = 0) ∧ (-9223372036854775808 ≤ out0_63 ∧ out0_63 ≤ 9223372036854775807) ∧ (-9223372036854775808 ≤ v64_65 ∧ v64_65 ≤ 9223372036854775807), r62⟩) (((((s.Deps.getD n.toNat []).length : Int) : Int) - 0).toNat, s.Width, rv47, 0, a55, k56) [0, 2, 5, 6, 6, 7, 8, 9, 10, 11] ⟨rfl, rfl, aM1, (.inr rfl), aM1, aM1⟩ ?_
 rintro ⟨r62, out0_63, out1_64, v64_65, a66, k67⟩ ⟨hM68, hr69, hi70, hi71, hk72, hk73⟩
 refine JJ_nx fun _ _ hL hA => ?_; dsimp only at hL hA; subst hL hA
 refine Fb 8 0 fun _ => Fb 8 1 fun _ => Fo 1 fun ho76 => Fb 24 5 fun _ => Fb 88 6 fun _ => Fb 32 7 fun _ => Fb 32 8 fun _ => KS ?_
 refine Oq Vlss (KS ?_)
 refine Kc ?_ ?_
 ·intro h81
  have g82 := dt h81
  have hq := hvs.dep_mem (j := n) aM1 aM1 _ (getD_mem (xs := s.Deps.getD n.toNat []) (i := v64_65.toNat) (d := 0) aM1)
  obtain ⟨r83, rfl⟩ := scc (n := r62) aM1
  refine KS ?_
  refine Oq (Vi sl22 1) ?_
  have hb84 := ok1 (i := v64_65.toNat) ho76 rng
  refine Oq (VldI sh3 1) (Oq Va (KS ?_))
  refine JJ_peek_GTransfer (((s.Deps.getD n.toNat []).getD v64_65.toNat 0) : Int).toNat 6 rfl rng fun a85 k86 a87 k88 a89 k90 hb91 hb92 => ?_
  unfold i64ok at hb91 hb92
  refine Fb 8 1 fun _ => Fb 8 2 fun _ => Fb 16 3 fun _ => ?_
  refine JJ_peek_GSet (((s.Deps.getD n.toNat []).getD v64_65.toNat 0) : Int).toNat 12 rfl rng fun a96 k97 hb98 => ?_
  unfold i64ok at hb98
  refine Fb 8 1 fun _ => ?_
  refine JK_drawK [0, 1, 0, 7, 15, 0, 0, 96, 224, 511, 1023, 2047, 2047, 0, 12287, 32767] fmix ?_
  refine Dv [10] (Vfa fo27_2 0) (Dv [10] (VldF sh24 0) (Dv [] Vm (Dv [12] (Vi sl24 0) (Dv [2] (VldA sh65 0) (Dv [] Vm (Dv [] Vm (Dv [14] (Vi sl25 0) (Dv [0] (VldA sh42 0) ?_))))))))
  refine letv (tf_Apply (s.Transfers.getD (((s.Deps.getD n.toNat []).getD v64_65.toNat 0) : Int).toNat default) (values.getD (((s.Deps.getD n.toNat []).getD v64_65.toNat 0) : Int).toNat default)) fun rv101 hg102 => ?_
  refine Dx [1, 3, 4, 5] [] [2, 3, 4, 5, 0, 1] (fun G => .tuple #[.agg #[vi rv101.1.Width, (G.g 9 0)], vi rv101.2]) [fun G => SP.fact (i64ok rv101.1.Width ∧ i64ok rv101.2), fun G => sl (G.g 9 0) rv101.1.Words] (fun G => xC [1, 2, 3, 0] ca143 (fn143 ((s.Transfers.getD (((s.Deps.getD n.toNat []).getD v64_65.toNat 0) : Int).toNat default)) a85 k86 a87 k88 a89 k90 ((values.getD (((s.Deps.getD n.toNat []).getD v64_65.toNat 0) : Int).toNat default)) a96 k97 pre pre pre rv101 hg102)) (Dg [] (fun G => .tuple #[.agg #[vi rv101.1.Width, (G.g 9 0)], vi rv101.2]) (fun G => Vm) (Dg [] (fun G => .agg #[vi rv101.1.Width, (G.g 9 0)]) (fun G => Vx) (Dv [] Vx (Dx [] [] [0] (fun G => (G.g 13 0)) [fun G => Cl (G.g 13 0) [vi 0, .slice none 0 0]] (fun G => xA (Al ze42 [vi 0, .slice none 0 0])) (Dx0 [17, 18] [18] [1, 0] [fun G => Cl (G.g 13 0) [vi rv101.1.Width, (G.g 9 0)]] (fun G => x1 0 rfl sl_one fun ho104 => (xS (Scl [1] sh42 [vi rv101.1.Width, (G.g 9 0)] (v := .agg #[vi rv101.1.Width, (G.g 9 0)]) (h1 := show [vi rv101.1.Width, (G.g 9 0)].all (·.oneCell') = true from (by simp only [List.all_cons, List.all_nil, ho104, Bool.and_true, Bool.true_and] <;> rfl))))) (Dv [] Va ?_))))))
  refine Dn ⟨by kernel_rfl, fun G => ?_⟩
  refine Jw2 [(1, vl valuesa0 valuesk0 values), (3, p5), (6, p6), (8, p52), (62, vl a58 k59 (s.Deps.getD n.toNat [])), (63, vi ((s.Deps.getD n.toNat []).length : Int)), (64, vi v64_65), (11, (G.g 13 0))] [0, 1, 2, 3, 4, 5, 6, 7, 8, 9, 10, 11, 12, 13, 14, 15] [SP.fact (i64ok rv101.1.Width ∧ i64ok rv101.2), sl (G.g 9 0) rv101.1.Words, Cl (G.g 13 0) [vi rv101.1.Width, (G.g 9 0)]] ?_
  generalize G.g 9 0 = c100, G.g 13 0 = p103
  refine Jf 16 rfl ?_; rintro ⟨he105, he106⟩
  unfold i64ok at he105 he106
  refine Jk [0, 1, 2, 3, 4, 5, 6, 7, 8, 9, 9, 10, 11, 12, 13, 14, 15, 16] ?_
  refine Jo 16 ?_; rintro a107 k108 rfl
  refine Fb 8 16 fun _ => KS ?_
  refine Oq (VldA sh42 15) (Oq (VldA sh42 17) ?_)
  refine letv (bt_Union (GSet.mk out0_63 out1_64) rv101.1) fun rv111 hg112 => ?_
  have hc113 := fn144 ((GSet.mk out0_63 out1_64)) a66 k67 rv101.1 a107 k108 pre pre rv111 hg112
  refine Oc [6, 16] ca144 hc113 ?_
  rintro c110 ⟨he114, he115⟩
  unfold i64ok at he114 he115
  refine Jo 0 ?_; rintro a116 k117 rfl
  refine Fb 8 0 fun _ => ?_
  refine Oq Vm (Oq Vx (Oq Vx (Ost (Scl [16] sh42 [vi rv111.1.Width, vl a116 k117 rv111.1.Words]) (KS ?_))))
  refine Oq Vadd (Oq Vm (KS ?_))
  exact Kg (r83, rv111.1.Width, rv111.1.Words, (v64_65 + 1), a116, k117) [1, 9, 10, 11, 11, 12, 13, 14, 15, 0] ⟨(q3 hM68 (by simp only [eq_Right_L0, h81, hg102, hg112, cs4])), aM1, aM1, aM1, aM1, aM1⟩
 intro h81
 have g119 := df h81
 obtain rfl : r62 = 0 := by omega
 refine Ke ?_
 have hR120 := q2 hM68 (out0_63, out1_64) (by simp only [eq_Right_L0, h81, cs4])
 refine KS ?_
 refine Oq (VldA sh42 9) (Ost (Scl [3] sh42 [vi out0_63, vl a66 k67 out1_64]) (Oq Va (KS ?_)))
 have hq := q4 hrr ((GSet.mk out0_63 out1_64), 0) (by simp only [eq_Right, h10, h15, h17, h20, h23, h29, h35, h40, h81, hg8, hg27, hg33, hg48, hR120, cs4]); subst hq
 exact Kr (vl a66 k67 out1_64) rfl (.cellN 0 rfl sh42 rfl (reads_Cl _ _) rfl (.tmp rfl .nil)) [1] en
theorem fn59 (s : GSystem) (sa1 : Option Addr) (sk1 : Nat) (sa2 : Option Addr) (sk2 : Nat) (sa3 : Option Addr) (sk3 : Nat) (values : List GSet) (valuesa0 : Option Addr) (valuesk0 : Nat) (hs_0 : i64ok s.Width) (rr : List GSet × Int) (hrr : fx_Next s values = rr) : FT Tryz.prog 59 #[.agg #[vi s.Width, vl sa1 sk1 s.Deps, vl sa2 sk2 s.Transfers, vl sa3 sk3 s.Boundary], vl valuesa0 valuesk0 values] [S sa1 sk1 s.Deps, S sa2 sk2 s.Transfers, S sa3 sk3 s.Boundary, S valuesa0 valuesk0 values] (fun g : Value => i64ok rr.2) (fun g => .tuple #[g, vi rr.2]) (fun g => [sl g rr.1]) := by
 refine FTi Tryz.func59 fun w0 M0 F0 => ?_
 unfold i64ok at hs_0
 refine Fb 24 0 fun _ => Fb 88 1 fun _ => Fb 32 2 fun _ => Fb 32 3 fun _ => KS ?_
 refine Oa (Ab [vi s.Width, vl sa1 sk1 s.Deps, vl sa2 sk2 s.Transfers, vl sa3 sk3 s.Boundary]) fun p5 => Oq Va (Oq Va (KS ?_))
 refine Oq (VldA sh27 0) ?_
 refine letv (eq_Valid s) fun rv6 hg7 => ?_
 have hc8 := fn56 s sa1 sk1 sa2 sk2 sa3 sk3 pre rv6 hg7
 refine Oc [1, 2, 3] ca56 hc8 ?_
 rintro - -
 refine Oq Vnot (KS ?_)
 refine Kc ?_ ?_
 ·intro h9
  have h11 := not_true h9
  refine KS ?_
  refine Oq Va (Oq Va (KS ?_))
  refine Jl [] (Ent.slNil (α := GSet)) ?_
  have hq := q4 hrr (([] : List GSet), 1) (by simp only [fx_Next, h9, h11, hg7, cs4]); subst hq
  exact Kr (.slice none 0 0) rfl (.tmp rfl (.tmp rfl .nil)) [0] en
 intro h9
 have h14 := not_false h9
 try (have hvs := (EValid_iff s).1 (by simp only [h9, h14, hg7]); have hv1 := hvs.n)
 refine KS ?_
 refine Oq Va (KS ?_)
 refine Oq (Vfa fo27_1 0) (Oq (VldF sh23 0) (Oq (Vlen sl23) (Oq Vm (KS ?_))))
 refine Jl [] (Ent.osNil (α := GSet)) ?_
 refine Kl (γ := Nat × List GSet × Int × Option Addr × Nat) (fun (r16, out_17, v16_18, a19, k20) => ⟨[(1, vl valuesa0 valuesk0 values), (2, p5), (6, vl a19 k20 out_17), (15, vi (s.Deps.length : Int)), (16, vi v16_18)], [O a19 k20 out_17, pv p5 [vi s.Width, vl sa1 sk1 s.Deps, vl sa2 sk2 s.Transfers, vl sa3 sk3 s.Boundary], S sa1 sk1 s.Deps, S sa2 sk2 s.Transfers, S sa3 sk3 s.Boundary, S valuesa0 valuesk0 values], fx_Next_L0 s values r16 out_17 v16_18 = fx_Next_L0 s values (((s.Deps.length : Int) - 0).toNat) [] 0 ∧ r16 = ((s.Deps.length : Int) - v16_18).toNat ∧ (0 : Int) ≤ v16_18 ∧ v16_18 ≤ (s.Deps.length : Int) ∧ (-9223372036854775808 ≤ v16_18 ∧ v16_18 ≤ 9223372036854775807) ∧ (out_17.length : Int) ≤ v16_18, r16⟩) (((s.Deps.length : Int) - 0).toNat, [], 0, none, 0) [0, 0, 1, 2, 3, 4] ⟨rfl, rfl, aM1, aM1, aM1, iv0⟩ ?_
 rintro ⟨r16, out_17, v16_18, a19, k20⟩ ⟨hM21, hr22, hi23, hi24, hk25, hv26⟩
 refine JJ_nx fun _ _ hL hA => ?_; dsimp only at hL hA; subst hL hA
 refine Fb 32 0 fun _ => Fb 24 2 fun _ => Fb 88 3 fun _ => Fb 32 4 fun _ => Fb 32 5 fun _ => KS ?_
 refine Oq Vlss (KS ?_)
 refine Kc ?_ ?_
 ·intro h32
  have g33 := dt h32
  obtain ⟨r34, rfl⟩ := scc (n := r16) aM1
  refine KS ?_
  refine Oq Vm (Oq Va (KS ?_))
  refine Oq (VldA sh27 1) (Oq Vm (Oq Vm ?_))
  refine letv (eq_Right s values v16_18) fun rv36 hg37 => ?_
  have hc38 := fn101 s sa1 sk1 sa2 sk2 sa3 sk3 values valuesa0 valuesk0 v16_18 pre pre rv36 hg37
  refine Oc [2, 3, 4, 5] ca101 hc38 ?_
  rintro c35 ⟨he39, he40⟩
  unfold i64ok at he39 he40
  refine Jo 0 ?_; rintro a41 k42 rfl
  refine Fb 8 0 fun _ => ?_
  refine Oq Vm (Oq Vx (Oq Vx (Oa (Al ze42 [vi 0, .slice none 0 0]) fun p44 => Ost (Scl [0] sh42 [vi rv36.1.Width, vl a41 k42 rv36.1.Words]) (Oq Va (KS ?_)))))
  refine Oq Vm (Oq Vneq (KS ?_))
  refine Kc ?_ ?_
  ·intro h45
   have g46 := ne_of_bne h45
   refine KS ?_
   refine Oq Vm (Oq Va (Oq Va (KS ?_)))
   refine Jl [] (Ent.slNil (α := GSet)) ?_
   have hR47 := q2 hM21 (.ret (([] : List GSet), rv36.2)) (by simp only [fx_Next_L0, h32, h45, hg37, cs4])
   have hq := q4 hrr (([] : List GSet), rv36.2) (by simp only [fx_Next, h9, h14, h32, h45, hg7, hg37, hR47, cs4]); subst hq
   exact Kr (.slice none 0 0) rfl (.tmp rfl (.tmp rfl .nil)) [0] en
  intro h45
  have g48 := eq_of_bne_false h45
  refine KS ?_
  refine Oq Vm (Oq (VldA sh42 0) (Oa (AsV sl25 sz25 [.agg #[vi rv36.1.Width, vl a41 k42 rv36.1.Words]] [vi rv36.1.Width, vl a41 k42 rv36.1.Words]) fun c49 => ?_))
  refine Jo 0 ?_; rintro a50 k51 rfl
  refine Jl [0, 1] (Ent.cr1 (α := GSet) (A := [S a41 k42 rv36.1.Words]) _ rv36.1 _ aB1 (fun h => ⟨_, rfl, aL1, sepAll_get (i := 0) rfl h⟩)) ?_
  refine Oa (ApO [4, 0] sl25 sl25 sz25) fun c52 => ?_
  refine Jo 0 ?_; rintro a53 k54 rfl
  refine Fb 32 0 fun _ => ?_
  have hn56 := la out_17 ([rv36.1] : List GSet)
  refine Oq Va (KS ?_)
  refine Oq Vadd (Oq Vm (KS ?_))
  exact Kg (r34, (out_17 ++ [rv36.1]), (v16_18 + 1), a53, k54) [0, 3, 4, 5, 6, 7] ⟨(q3 hM21 (by simp only [fx_Next_L0, h32, h45, hg37, cs4])), aM1, aM1, aM1, aM1, iv1⟩
 intro h32
 have g57 := df h32
 obtain rfl : r16 = 0 := by omega
 refine Ke ?_
 have hR58 := q2 hM21 (.brk out_17) (by simp only [fx_Next_L0, h32, cs4])
 refine KS ?_
 refine Oq Vm (Oq Va (Oq Va (KS ?_)))
 refine Jl [0] (Ent.freeze _ _) ?_
 have hq := q4 hrr (out_17, 0) (by simp only [fx_Next, h9, h14, h32, hg7, hR58, cs4]); subst hq
 exact Kr (vl a19 k20 out_17) rfl (.tmp rfl (.tmp rfl .nil)) [0] en
theorem fn152 (x : BitVec 64) (rr : Int) (hrr : bits_OnesCount64 x = rr) : FT Tryz.prog 152 #[u64 x] [] (fun g : Unit => i64ok rr ∧ (0 ≤ rr ∧ rr ≤ 127)) (fun g => vi rr) (fun g => []) := by
 refine FTi Tryz.func152 fun w0 M0 F0 => ?_
 refine KS ?_
 refine Oq Va (KS ?_)
 refine Oq Vm (Oq VshrU (Oq (VandU (b := 6148914691236517205#64)) (Oq Vm (Oq (VandU (b := 6148914691236517205#64)) (Oq VaddU ?_)))))
 generalize hg2 : ((x >>> Int.toNat 1) &&& 6148914691236517205#64) + (x &&& 6148914691236517205#64) = rv1
 refine Oq Va (KS ?_)
 refine Oq Vm (Oq VshrU (Oq (VandU (b := 3689348814741910323#64)) (Oq Vm (Oq (VandU (b := 3689348814741910323#64)) (Oq VaddU ?_)))))
 generalize hg4 : ((rv1 >>> Int.toNat 2) &&& 3689348814741910323#64) + (rv1 &&& 3689348814741910323#64) = rv3
 refine Oq Va (KS ?_)
 refine Oq Vm (Oq VshrU (Oq Vm (Oq VaddU (Oq (VandU (b := 1085102592571150095#64)) ?_))))
 generalize hg6 : ((rv3 >>> Int.toNat 4) + rv3) &&& 1085102592571150095#64 = rv5
 refine Oq Va (KS ?_)
 refine Oq Vm (Oq Vm (Oq VshrU (Oq VaddU ?_)))
 generalize hg8 : rv5 + (rv5 >>> Int.toNat 8) = rv7
 refine Oq Va (KS ?_)
 refine Oq Vm (Oq Vm (Oq VshrU (Oq VaddU ?_)))
 generalize hg10 : rv7 + (rv7 >>> Int.toNat 16) = rv9
 refine Oq Va (KS ?_)
 refine Oq Vm (Oq Vm (Oq VshrU (Oq VaddU ?_)))
 generalize hg12 : rv9 + (rv9 >>> Int.toNat 32) = rv11
 refine Oq Va (KS ?_)
 refine Oq Vm (Oq (VcN un91 un3 (h := (pop_top hg2 hg4 hg6 hg8 hg10 hg12))) ?_)
 have hb13 := iand_ok (rv11.toNat : Int) 127
 refine Oq VandI (Oq Va (KS ?_))
 have hq := q4 hrr (iand (rv11.toNat : Int) 127) (by subst hg2 hg4 hg6 hg8 hg10 hg12; rfl); subst hq
 exact Kr () rfl (.tmp rfl .nil) [] ⟨by unfold i64ok; omega, by have h1 := pop_top hg2 hg4 hg6 hg8 hg10 hg12; have h2 := iand127 (n := rv11.toNat) aM1; omega⟩
theorem fn112 (s : GSet) (sa1 : Option Addr) (sk1 : Nat) (hs_0 : i64ok s.Width) (rr : Int) (hrr : bt_Count s = rr) : FT Tryz.prog 112 #[.agg #[vi s.Width, vl sa1 sk1 s.Words]] [S sa1 sk1 s.Words] (fun g : Unit => i64ok rr) (fun g => vi rr) (fun g => []) := by
 refine FTi Tryz.func112 fun w0 M0 F0 => ?_
 unfold i64ok at hs_0
 refine Fb 8 0 fun _ => KS ?_
 refine Oa (Ab [vi s.Width, vl sa1 sk1 s.Words]) fun p2 => Oq Va (KS ?_)
 refine Oq Va (KS ?_)
 refine Oq (VldA sh42 0) ?_
 refine letv (bt_Valid s) fun rv3 hg4 => ?_
 have hc5 := fn79 s sa1 sk1 pre rv3 hg4
 refine Oc [1] ca79 hc5 ?_
 rintro - -
 refine KS ?_
 refine Kc ?_ ?_
 ·intro h6
  have hpw := PV_w (s := s) (by simp only [h6, hg4])
  refine KS ?_
  refine Oq (Vfa fo42_1 0) (Oq (VldF sh40 0) (Oq (Vlen sl40) (Oq Vm (KS ?_))))
  refine Kl (γ := Nat × Int × Int) (fun (r8, n_9, v11_10) => ⟨[(3, vi n_9), (9, vl sa1 sk1 s.Words), (10, vi (s.Words.length : Int)), (11, vi v11_10)], [S sa1 sk1 s.Words], bt_Count_L0 s r8 n_9 v11_10 = bt_Count_L0 s (((s.Words.length : Int) - 0).toNat) 0 0 ∧ r8 = ((s.Words.length : Int) - v11_10).toNat ∧ (0 : Int) ≤ v11_10 ∧ v11_10 ≤ (s.Words.length : Int) ∧ (-9223372036854775808 ≤ n_9 ∧ n_9 ≤ 9223372036854775807) ∧ (-9223372036854775808 ≤ v11_10 ∧ v11_10 ≤ 9223372036854775807) ∧ (0 ≤ n_9 ∧ n_9 ≤ 127 * v11_10), r8⟩) (((s.Words.length : Int) - 0).toNat, 0, 0) [1] ⟨rfl, rfl, aM1, aM1, aM1, aM1, iv0⟩ ?_
  rintro ⟨r8, n_9, v11_10⟩ ⟨hM11, hr12, hi13, hi14, hk15, hk16, hv17⟩
  refine JJ_nx fun _ _ hL hA => ?_; dsimp only at hL hA; subst hL hA
  refine Fb 8 0 fun _ => KS ?_
  refine Oq Vlss (KS ?_)
  refine Kc ?_ ?_
  ·intro h19
   have g20 := dt h19
   obtain ⟨r21, rfl⟩ := scc (n := r8) aM1
   refine KS ?_
   refine Oq (Vi sl40 0) (Oq (VldU sh91 0) (Oq Va (KS ?_)))
   refine Oq Vm (Oq Vm ?_)
   refine letv (bits_OnesCount64 (s.Words.getD v11_10.toNat 0#64)) fun rv22 hg23 => ?_
   have hc24 := fn152 ((s.Words.getD v11_10.toNat 0#64)) rv22 hg23
   refine Oc [] ca152 hc24 ?_
   rintro - ⟨he25, he26⟩
   unfold i64ok at he25
   refine Oq Vadd (Oq Va (KS ?_))
   refine Oq Vadd (Oq Vm (KS ?_))
   exact Kg (r21, (n_9 + rv22), (v11_10 + 1)) [0] ⟨(q3 hM11 (by simp only [bt_Count_L0, h19, hg23, cs4])), aM1, aM1, aM1, aM1, aM1, iv1⟩
  intro h19
  have g27 := df h19
  obtain rfl : r8 = 0 := by omega
  refine Ke ?_
  have hR28 := q2 hM11 n_9 (by simp only [bt_Count_L0, h19, cs4])
  refine KS ?_
  refine Oq Vm (Oq Va (KS ?_))
  have hq := q4 hrr n_9 (by simp only [bt_Count, h6, h19, hg4, hR28, cs4]); subst hq
  exact Kr () rfl (.tmp rfl .nil) [] en
 intro h6
 refine KS ?_
 refine Oq Vm (Oq Va (KS ?_))
 have hq := q4 hrr 0 (by simp only [bt_Count, h6, hg4, cs4]); subst hq
 exact Kr () rfl (.tmp rfl .nil) [] en
theorem fn78 (a : GSet) (aa1 : Option Addr) (ak1 : Nat) (b : GSet) (ba1 : Option Addr) (bk1 : Nat) (ha_0 : i64ok a.Width) (hb_0 : i64ok b.Width) (rr : Bool) (hrr : bt_Subset a b = rr) : FT Tryz.prog 78 #[.agg #[vi a.Width, vl aa1 ak1 a.Words], .agg #[vi b.Width, vl ba1 bk1 b.Words]] [S aa1 ak1 a.Words, S ba1 bk1 b.Words] (fun g : Unit => True) (fun g => vb rr) (fun g => []) := by
 refine FTi Tryz.func78 fun w0 M0 F0 => ?_
 unfold i64ok at ha_0 hb_0
 refine Fb 8 0 fun _ => Fb 8 1 fun _ => KS ?_
 refine Oa (Ab [vi a.Width, vl aa1 ak1 a.Words]) fun p3 => Oa (Ab [vi b.Width, vl ba1 bk1 b.Words]) fun p4 => Oq Va (KS ?_)
 refine Oq (VldA sh42 1) (Oq (VldA sh42 0) ?_)
 refine letv (bt_Diff a b) fun rv6 hg7 => ?_
 have hc8 := fn111 a aa1 ak1 b ba1 bk1 pre pre rv6 hg7
 refine Oc [2, 3] ca111 hc8 ?_
 rintro c5 ⟨he9, he10⟩
 unfold i64ok at he9 he10
 refine Jo 0 ?_; rintro a11 k12 rfl
 refine Fb 8 0 fun _ => ?_
 refine Oq Vm (Oq Vx (Oq Vx (Oa (Al ze42 [vi 0, .slice none 0 0]) fun p14 => Ost (Scl [0] sh42 [vi rv6.1.Width, vl a11 k12 rv6.1.Words]) (Oq Va (KS ?_)))))
 refine Oq Vm (Oq Veql (Oq Vm ?_))
 refine Js 15 ?_ ?_
 ·intro h15
  have g16 := eq_of_beq h15
  refine Oq (VldA sh42 0) ?_
  refine letv (bt_Count rv6.1) fun rv17 hg18 => ?_
  have hc19 := fn112 rv6.1 a11 k12 pre rv17 hg18
  refine Oc [1] ca112 hc19 ?_
  rintro - he20
  unfold i64ok at he20
  refine Oq Veql (Oq Vpt (Oq Va (KS ?_)))
  have hq := q4 hrr (rv17 == 0) (by simp only [bt_Subset, h15, hg7, hg18, cs4]); subst hq
  exact Kr () rfl (.tmp rfl .nil) [] trivial
 intro h15
 have g21 := ne_of_beq_false h15
 refine Osk (Osk (Osk (Oq Vpf (Oq Va (KS ?_)))))
 have hq := q4 hrr false (by simp only [bt_Subset, h15, hg7, cs4]); subst hq
 exact Kr () rfl (.tmp rfl .nil) [] trivial
theorem fn46 (s : GSystem) (sa1 : Option Addr) (sk1 : Nat) (sa2 : Option Addr) (sk2 : Nat) (sa3 : Option Addr) (sk3 : Nat) (values : List GSet) (valuesa0 : Option Addr) (valuesk0 : Nat) (hs_0 : i64ok s.Width) (rr : Bool) (hrr : fx_IsAbove s values = rr) : FT Tryz.prog 46 #[.agg #[vi s.Width, vl sa1 sk1 s.Deps, vl sa2 sk2 s.Transfers, vl sa3 sk3 s.Boundary], vl valuesa0 valuesk0 values] [S sa1 sk1 s.Deps, S sa2 sk2 s.Transfers, S sa3 sk3 s.Boundary, S valuesa0 valuesk0 values] (fun g : Unit => True) (fun g => vb rr) (fun g => []) := by
 refine FTi Tryz.func46 fun w0 M0 F0 => ?_
 unfold i64ok at hs_0
 refine Fb 24 0 fun _ => Fb 88 1 fun _ => Fb 32 2 fun _ => Fb 32 3 fun _ => KS ?_
 refine Oa (Ab [vi s.Width, vl sa1 sk1 s.Deps, vl sa2 sk2 s.Transfers, vl sa3 sk3 s.Boundary]) fun p5 => Oq Va (KS ?_)
 refine Oq (VldA sh27 0) (Oq Vm ?_)
 refine letv (fx_Next s values) fun rv7 hg8 => ?_
 have hc9 := fn59 s sa1 sk1 sa2 sk2 sa3 sk3 values valuesa0 valuesk0 pre rv7 hg8
 refine Oc [1, 2, 3, 4] ca59 hc9 ?_
 rintro c6 he10
 unfold i64ok at he10
 refine Jo 0 ?_; rintro a11 k12 rfl
 refine Fb 32 0 fun _ => ?_
 refine Oq Vm (Oq Vx (Oq Vx (Oq Va (Oq Va (KS ?_)))))
 refine Oq Vm (Oq Vneq (KS ?_))
 refine Kc ?_ ?_
 ·intro h14
  have g15 := ne_of_bne h14
  refine KS ?_
  refine Oq Va (KS ?_)
  have hq := q4 hrr false (by simp only [fx_IsAbove, h14, hg8, cs4]); subst hq
  exact Kr () rfl (.tmp rfl .nil) [] trivial
 intro h14
 have g16 := eq_of_bne_false h14
 obtain ⟨hnv, hnw, hnx⟩ := pNext_ok (by assumption : fx_Next s values = rv7) h14; have hnl := hnw.1; have hnb := hnv.bl; have hn1 := hnv.n; have hne : rv7.1.length = s.Boundary.length := by rw [hnx, Fv_len]
 refine KS ?_
 refine Oq Vm (Oq (Vlen sl25) (Oq Vm (KS ?_)))
 refine Kl (γ := Nat × Int) (fun (r17, v18_18) => ⟨[(1, vl valuesa0 valuesk0 values), (5, vl a11 k12 rv7.1), (17, vi (rv7.1.length : Int)), (18, vi v18_18)], [S a11 k12 rv7.1, S valuesa0 valuesk0 values], fx_IsAbove_L0 values rv7.1 r17 v18_18 = fx_IsAbove_L0 values rv7.1 (((rv7.1.length : Int) - 0).toNat) 0 ∧ r17 = ((rv7.1.length : Int) - v18_18).toNat ∧ (0 : Int) ≤ v18_18 ∧ v18_18 ≤ (rv7.1.length : Int) ∧ (-9223372036854775808 ≤ v18_18 ∧ v18_18 ≤ 9223372036854775807), r17⟩) (((rv7.1.length : Int) - 0).toNat, 0) [0, 5] ⟨rfl, rfl, aM1, aM1, aM1⟩ ?_
 rintro ⟨r17, v18_18⟩ ⟨hM19, hr20, hi21, hi22, hk23⟩
 refine JJ_nx fun _ _ hL hA => ?_; dsimp only at hL hA; subst hL hA
 refine Fb 32 0 fun _ => Fb 32 1 fun _ => KS ?_
 refine Oq Vlss (KS ?_)
 refine Kc ?_ ?_
 ·intro h26
  have g27 := dt h26
  obtain ⟨r28, rfl⟩ := scc (n := r17) aM1
  refine KS ?_
  refine Oq Vm (Oq Va (KS ?_))
  refine JJ_peek_GSet v18_18.toNat 0 rfl rng fun a29 k30 hb31 => ?_
  unfold i64ok at hb31
  refine Fb 8 1 fun _ => ?_
  refine JJ_peek_GSet v18_18.toNat 3 rfl rng fun a33 k34 hb35 => ?_
  unfold i64ok at hb35
  refine Fb 8 1 fun _ => ?_
  refine JK_drawK [0, 0, 3, 7, 0, 0, 48, 112, 255, 511] fmix ?_
  refine Dv [] Vm (Dv [] Vm (Dv [4] (Vi sl25 0) (Dv [2] (VldA sh42 0) (Dv [] Vm (Dv [] Vm (Dv [5] (Vi sl25 0) (Dv [0] (VldA sh42 0) ?_)))))))
  refine letv (bt_Subset (rv7.1.getD v18_18.toNat default) (values.getD v18_18.toNat default)) fun rv37 hg38 => ?_
  refine Dx [1, 3] [] [1, 2, 0] (fun G => vb rv37) [fun G => SP.fact (True)] (fun G => xC [1, 0] ca78 (fn78 ((rv7.1.getD v18_18.toNat default)) a29 k30 ((values.getD v18_18.toNat default)) a33 k34 pre pre rv37 hg38)) (Dv [] Vnot ?_)
  refine Dn ⟨by kernel_rfl, fun G => ?_⟩
  refine Jw2 [(1, vl valuesa0 valuesk0 values), (5, vl a11 k12 rv7.1), (17, vi (rv7.1.length : Int)), (18, vi v18_18), (30, vb (!rv37))] [0, 1, 2, 3, 4, 5] [SP.fact (True)] ?_
  refine Jk [0, 1, 2, 3, 4, 5] ?_
  refine Kc ?_ ?_
  ·intro h39
   have h41 := not_true h39
   refine KS ?_
   refine Oq Va (KS ?_)
   have hR43 := q2 hM19 (.ret false) (by simp only [fx_IsAbove_L0, h26, h39, h41, hg38, cs4])
   have hq := q4 hrr false (by simp only [fx_IsAbove, h14, h26, h39, h41, hg8, hg38, hR43, cs4]); subst hq
   exact Kr () rfl (.tmp rfl .nil) [] trivial
  intro h39
  have h45 := not_false h39
  refine KS ?_
  refine Oq Vadd (Oq Vm (KS ?_))
  exact Kg (r28, (v18_18 + 1)) [4, 5] ⟨(q3 hM19 (by simp only [fx_IsAbove_L0, h26, h39, h45, hg38, cs4])), aM1, aM1, aM1, aM1⟩
 intro h26
 have g47 := df h26
 obtain rfl : r17 = 0 := by omega
 refine Ke ?_
 have hR48 := q2 hM19 (.brk ()) (by simp only [fx_IsAbove_L0, h26, cs4])
 refine KS ?_
 refine Oq Va (KS ?_)
 have hq := q4 hrr true (by simp only [fx_IsAbove, h14, h26, hg8, hR48, cs4]); subst hq
 exact Kr () rfl (.tmp rfl .nil) [] trivial
theorem fn16 (s : GSystem) (sa1 : Option Addr) (sk1 : Nat) (sa2 : Option Addr) (sk2 : Nat) (sa3 : Option Addr) (sk3 : Nat) (n : Int) (bit : Int) (values : List GSet) (valuesa0 : Option Addr) (valuesk0 : Nat) (hs_0 : i64ok s.Width) (hn_0 : i64ok n) (hbit_0 : i64ok bit) (rr : Bool) (hrr : wt_CheckAbsent s n bit values = rr) : FT Tryz.prog 16 #[.agg #[vi s.Width, vl sa1 sk1 s.Deps, vl sa2 sk2 s.Transfers, vl sa3 sk3 s.Boundary], vi n, vi bit, vl valuesa0 valuesk0 values] [S sa1 sk1 s.Deps, S sa2 sk2 s.Transfers, S sa3 sk3 s.Boundary, S valuesa0 valuesk0 values] (fun g : Unit => True) (fun g => vb rr) (fun g => []) := by
 refine FTi Tryz.func16 fun w0 M0 F0 => ?_
 unfold i64ok at hs_0 hn_0 hbit_0
 refine Fb 24 0 fun _ => Fb 88 1 fun _ => Fb 32 2 fun _ => Fb 32 3 fun _ => KS ?_
 refine Oa (Ab [vi s.Width, vl sa1 sk1 s.Deps, vl sa2 sk2 s.Transfers, vl sa3 sk3 s.Boundary]) fun p5 => Oq Va (KS ?_)
 refine Oq (VldA sh27 0) (Oq Vm (Oq Vm ?_))
 refine letv (wt_arguments s n bit) fun rv6 hg7 => ?_
 have hc8 := fn42 s sa1 sk1 sa2 sk2 sa3 sk3 n bit pre pre pre rv6 hg7
 refine Oc [1, 2, 3] ca42 hc8 ?_
 rintro - he9
 unfold i64ok at he9
 refine Oq Veql (Oq Vm ?_)
 refine Js 14 ?_ ?_
 ·intro h10
  have g11 := eq_of_beq h10
  have hwa := wargs_1 (by assumption : wt_arguments s _ _ = rv6) h10; have hwb := hwa.1.bl; have hwt := hwa.2.1
  refine Oq (VldA sh27 0) (Oq Vm ?_)
  refine letv (fx_IsAbove s values) fun rv12 hg13 => ?_
  have hc14 := fn46 s sa1 sk1 sa2 sk2 sa3 sk3 values valuesa0 valuesk0 pre rv12 hg13
  refine Oc [1, 2, 3, 4] ca46 hc14 ?_
  rintro - -
  refine Oq Vpt (Oq Vm ?_)
  refine Js 19 ?_ ?_
  ·intro h15
   try (have hab := isAbove_len ((by assumption : fx_IsAbove s values = rv12).trans h15))
   refine Oq Vm (Oq Vm (Oq (Vi sl25 4) ?_))
   refine JJ_peek_GSet n.toNat 4 rfl rng fun a17 k18 hb19 => ?_
   unfold i64ok at hb19
   refine Fb 8 1 fun _ => ?_
   refine Oq (VldA sh42 0) (Oq Vm ?_)
   refine letv (bt_Has (values.getD n.toNat default) bit) fun rv21 hg22 => ?_
   have hc23 := fn47 ((values.getD n.toNat default)) a17 k18 bit pre pre rv21 hg22
   refine Oc [1] ca47 hc23 ?_
   rintro - -
   refine Oq Vnot (Oq Vpt (Oq Va (KS ?_)))
   have hq := q4 hrr (!rv21) (by simp only [wt_CheckAbsent, h10, h15, hg7, hg13, hg22, cs4]); subst hq
   exact Kr () rfl (.tmp rfl .nil) [] trivial
  intro h15
  refine Osk (Osk (Osk (Osk (Osk (Osk (Osk (Oq Vpf (Oq Va (KS ?_)))))))))
  have hq := q4 hrr false (by simp only [wt_CheckAbsent, h10, h15, hg7, hg13, cs4]); subst hq
  exact Kr () rfl (.tmp rfl .nil) [] trivial
 intro h10
 have g25 := ne_of_beq_false h10
 refine Osk (Osk (Osk (Oq Vpf (Oq Vm (Osk (Osk (Osk (Osk (Osk ?_)))))))))
 refine Osk (Osk (Oq Vpf (Oq Va (KS ?_))))
 have hq := q4 hrr false (by simp only [wt_CheckAbsent, h10, hg7, cs4]); subst hq
 exact Kr () rfl (.tmp rfl .nil) [] trivial
theorem fn31 (v : Int) (n : Int) (hv_0 : i64ok v) (hn_0 : i64ok n) (hn1 : 1 ≤ n) (rr : Int) (hrr : g_Mod v n = rr) : FT Tryz.prog 31 #[vi v, vi n] [] (fun g : Unit => i64ok rr ∧ (0 ≤ rr ∧ rr < n)) (fun g => vi rr) (fun g => []) := by
 refine FTi Tryz.func31 fun w0 M0 F0 => ?_
 unfold i64ok at hv_0 hn_0
 have hm := mod_range v n aM1
 refine KS ?_
 refine Oq Va (KS ?_)
 refine Oq Vm (Oq (VcU un3 un92) (Oq Vm (Oq (VcU un3 un92) (Oq (VremU (ofInt_ne n aM1)) (Oq (VcN un92 un3 (h := (mod_le v n aM1))) (Oq Va (KS ?_)))))))
 have hq := q4 hrr (((BitVec.ofInt 64 v) % (BitVec.ofInt 64 n)).toNat : Int) (by simp only [g_Mod, cs4]); subst hq
 exact Kr () rfl (.tmp rfl .nil) [] en
theorem fn9 (tP : Value) (ta : Option Addr) (tk : Nat) (tT : List Int) (tI : Int) (n : Int) (htI : 0 ≤ tI ∧ tI ≤ (tT.length : Int)) (hn_0 : i64ok n) (rr : Int × Int) (hrr : tp_Next tT tI n = rr) : FT Tryz.prog 9 #[tP, vi n] [Cl tP [vl ta tk tT, vi tI], S ta tk tT] (fun g : Unit => i64ok rr.1 ∧ (0 ≤ rr.2 ∧ rr.2 ≤ (tT.length : Int)) ∧ (0 ≤ rr.1 ∧ (rr.1 < n ∨ rr.1 = 0))) (fun g => vi rr.1) (fun g => [Cl tP [vl ta tk tT, vi rr.2]]) := by
 refine FTi Tryz.func9 fun w0 M0 F0 => ?_
 unfold i64ok at hn_0
 refine Fb 8 1 fun _ => Fo 1 fun ho2 => KS ?_
 refine Oq Va (KS ?_)
 refine Jp 0 fun hp3 => ?_
 refine Kq [0, 1, 3, 7, 15, 31, 63, 7, 135, 391, 903, 1927, 4095, 8191] fmix ?_
 refine Qv [] Vm (Qv [] Vleq ?_)
 refine bool_split (decide (n ≤ 1)) ?_ ?_
 ·intro h4
  have g5 := dt h4
  refine Qb h4 [] Vm (Qs (Qs (Qs (Qs (Qs (Qs (Qs (Qs (Qs ?_)))))))))
  refine Qs (Qv [] Vpt ?_)
  refine Qn ⟨by kernel_rfl, ?_⟩
  refine Kt (KS ?_)
  refine Oq Va (KS ?_)
  have hq := q4 hrr (0, tI) (by simp only [tp_Next, h4, cs4]); subst hq
  exact Kr () rfl (.tmp rfl .nil) [1] en
 intro h4
 have g6 := df h4
 refine Qb h4 [] Vm (Qv [] Vm (Qv [0] (Vn 0) (Qv [0] (Vfa fo60_1 0) (Qv [1] (VldF sh3 0) (Qv [] Vm (Qv [0] (Vn 0) (Qv [0] (Vfa fo60_0 0) (Qv [1] (VldF sh22 0) (Qv [] (Vlen sl22) ?_)))))))))
 refine Qv [] Vgeq (Qv [] Vpf ?_)
 refine Qn ⟨by kernel_rfl, ?_⟩
 refine Kc ?_ ?_
 ·intro h7
  have g8 := dt h7
  refine KS ?_
  refine Oq Va (KS ?_)
  have hq := q4 hrr (0, tI) (by simp only [tp_Next, h4, h7, cs4]); subst hq
  exact Kr () rfl (.tmp rfl .nil) [1] en
 intro h7
 have g9 := df h7
 refine KS ?_
 refine Oq Vm (Oq (Vn 1) (Oq (Vfa fo60_1 1) (Oq (VldF sh3 1) (Oq Vadd (Oq (Vn 1) (Oq (Vfa fo60_1 1) (Ost (SclF [1] sh3 [vl ta tk tT, vi (tI + 1)]) (KS ?_))))))))
 refine JK_drawK [0, 1, 3, 7, 0, 16, 48, 112, 240, 511, 1023, 0, 4095, 8191] fmix ?_
 refine Dv [] Vm (Dv [1] (Vn 0) (Dv [1] (Vfa fo60_0 0) (Dv [0] (VldF sh22 0) (Dv [] Vm (Dv [1] (Vn 0) (Dv [1] (Vfa fo60_1 0) (Dv [0] (VldF sh3 0) (Dv [] Vsub (Dv [2] (Vi sl22 0) ?_)))))))))
 have hb10 := ok1 (i := (((tI + 1) - 1) : Int).toNat) ho2 rng
 refine Dv [2] (VldI sh3 0) (Dv [] Vm ?_)
 refine letv (g_Mod (tT.getD (((tI + 1) - 1) : Int).toNat 0) n) fun rv11 hg12 => ?_
 refine Dx [] [] [0] (fun G => vi rv11) [fun G => SP.fact (i64ok rv11 ∧ (0 ≤ rv11 ∧ rv11 < n))] (fun G => xC [] ca31 (fn31 ((tT.getD (((tI + 1) - 1) : Int).toNat 0)) n pre pre pre rv11 hg12)) (Dv [] Va ?_)
 refine Dn ⟨by kernel_rfl, fun G => ?_⟩
 refine Jw2 [(4, vi rv11)] [0, 1, 2] [SP.fact (i64ok rv11 ∧ (0 ≤ rv11 ∧ rv11 < n))] ?_
 refine Jf 3 rfl ?_; rintro ⟨he13, he14⟩
 unfold i64ok at he13
 refine Jk [0, 1] ?_
 have hq := q4 hrr (rv11, (tI + 1)) (by simp only [tp_Next, h4, h7, hg12, cs4]); subst hq
 exact Kr () rfl (.tmp rfl .nil) [0] en
theorem fn13 (tP : Value) (ta : Option Addr) (tk : Nat) (tT : List Int) (tI : Int) (width : Int) (htI : 0 ≤ tI ∧ tI ≤ (tT.length : Int)) (hwidth_0 : i64ok width) (hw0 : 0 ≤ width ∧ width ≤ 1000) (rr : GSet × Int) (hrr : tp_Set tT tI width = rr) : FT Tryz.prog 13 #[tP, vi width] [Cl tP [vl ta tk tT, vi tI], S ta tk tT] (fun g : Value => i64ok rr.1.Width ∧ (0 ≤ rr.2 ∧ rr.2 ≤ (tT.length : Int)) ∧ (rr.1.Width = width) ∧ (rr.1.Words.length = (((width : Int) + 63) / 64).toNat)) (fun g => .agg #[vi rr.1.Width, g]) (fun g => [os g rr.1.Words, Cl tP [vl ta tk tT, vi rr.2]]) := by
 refine FTi Tryz.func13 fun w0 M0 F0 => ?_
 unfold i64ok at hwidth_0
 refine Fb 8 1 fun _ => Fo 1 fun ho2 => KS ?_
 refine Oa (Al ze42 [vi 0, .slice none 0 0]) fun p3 => KS ?_
 refine Oq Vm ?_
 refine letv (r1_Empty width) fun rv5 hg6 => ?_
 have hc7 := fn29 width pre pre rv5 hg6
 refine Oc [] ca29 hc7 ?_
 rintro c4 ⟨he8, he9, he10⟩
 unfold i64ok at he8
 refine Jo 0 ?_; rintro a11 k12 rfl
 refine Fb 8 0 fun _ => ?_
 refine Oa (Al ze42 [vi 0, .slice none 0 0]) fun p14 => Ost (Scl [0] sh42 [vi rv5.Width, vl a11 k12 rv5.Words]) (KS ?_)
 refine Oq Va (KS ?_)
 refine Kl (γ := Nat × Int × Int × List (BitVec 64) × Int × Option Addr × Nat) (fun (r15, ti_16, s0_17, s1_18, b_19, a20, k21) => ⟨[(0, tP), (1, vi width), (4, p3), (5, p14), (6, vi b_19)], [O a20 k21 s1_18, Cl p14 [vi s0_17, vl a20 k21 s1_18], Cl p3 [vi 0, .slice none 0 0], Cl tP [vl ta tk tT, vi ti_16], S ta tk tT], tp_Set_L0 tT r15 ti_16 s0_17 s1_18 b_19 = tp_Set_L0 tT (((width : Int) - 0).toNat) tI rv5.Width rv5.Words 0 ∧ r15 = ((width : Int) - b_19).toNat ∧ (0 : Int) ≤ b_19 ∧ (b_19 ≤ width ∨ b_19 = 0) ∧ (-9223372036854775808 ≤ ti_16 ∧ ti_16 ≤ 9223372036854775807) ∧ (0 ≤ ti_16 ∧ ti_16 ≤ (tT.length : Int)) ∧ (-9223372036854775808 ≤ s0_17 ∧ s0_17 ≤ 9223372036854775807) ∧ (-9223372036854775808 ≤ b_19 ∧ b_19 ≤ 9223372036854775807) ∧ s0_17 = width ∧ s1_18.length = (((width : Int) + 63) / 64).toNat, r15⟩) (((width : Int) - 0).toNat, tI, rv5.Width, rv5.Words, 0, a11, k12) [1, 0, 0, 0, 0] ⟨rfl, rfl, aM1, (.inr rfl), aM1, aM1, aM1, aM1, iv0, iv0⟩ ?_
 rintro ⟨r15, ti_16, s0_17, s1_18, b_19, a20, k21⟩ ⟨hM22, hr23, hi24, hi25, hk26, ht27, hk28, hk29, hv30, hv31⟩
 refine JJ_nx fun _ _ hL hA => ?_; dsimp only at hL hA; subst hL hA
 refine Fb 8 0 fun _ => Fb 8 4 fun _ => Fo 4 fun ho34 => KS ?_
 refine Oq Vm (Oq Vm (Oq Vlss (KS ?_)))
 refine Kc ?_ ?_
 ·intro h35
  have g36 := dt h35
  obtain ⟨r37, rfl⟩ := scc (n := r15) aM1
  refine KS ?_
  refine Oq Vm ?_
  refine letv (tp_Next tT ti_16 3) fun rv38 hg39 => ?_
  have hc40 := fn9 tP ta tk tT ti_16 3 pre pre rv38 hg39
  refine Oc [3, 3] ca9 hc40 ?_
  rintro - ⟨he41, he42, he43⟩
  unfold i64ok at he41
  refine Oq Veql (KS ?_)
  refine Kc ?_ ?_
  ·intro h44
   have g45 := eq_of_beq h44
   refine KS ?_
   refine Oq (VldA sh42 2) (Oq Vm ?_)
   refine letv (r1_Put (GSet.mk s0_17 s1_18) b_19) fun rv47 hg48 => ?_
   refine Oc [1] ca41 (FT_borrow (A := _) hlx (FT_ent (Ent.take (is := [0]) rfl) (fn41 ((GSet.mk s0_17 s1_18)) a20 k21 b_19 pre pre pre pre rv47 hg48))) ?_ (ht := rfl)
   rintro c46 ⟨he49, he50, he51⟩
   unfold i64ok at he49
   have he50 : (rv47.Width = s0_17) := he50
   have he51 : (rv47.Words.length = ((s0_17 + 63) / 64).toNat) := he51
   refine Jo 1 ?_; rintro a52 k53 rfl
   refine Fb 8 1 fun _ => ?_
   refine Ost (Scl [3] sh42 [vi rv47.Width, vl a52 k53 rv47.Words]) (KS ?_)
   refine Oq Vm (Oq Vadd (Oq Va (KS ?_)))
   exact Kg (r37, rv38.2, rv47.Width, rv47.Words, (b_19 + 1), a52, k53) [2, 0, 2, 1, 1] ⟨(q3 hM22 (by simp only [tp_Set_L0, h35, h44, hg39, hg48, cs4])), aM1, aM1, aM1, aM1, aM1, aM1, aM1, iv1, iv1⟩
  intro h44
  have g55 := ne_of_beq_false h44
  refine KS ?_
  refine Oq Vm (Oq Vadd (Oq Va (KS ?_)))
  exact Kg (r37, rv38.2, s0_17, s1_18, (b_19 + 1), a20, k21) [1, 1, 1, 0, 0] ⟨(q3 hM22 (by simp only [tp_Set_L0, h35, h44, hg39, cs4])), aM1, aM1, aM1, aM1, aM1, aM1, aM1, iv1, iv1⟩
 intro h35
 have g56 := df h35
 obtain rfl : r15 = 0 := by omega
 refine Ke ?_
 have hR57 := q2 hM22 (ti_16, s0_17, s1_18) (by simp only [tp_Set_L0, h35, cs4])
 refine KS ?_
 refine Oq (VldA sh42 1) (Ost (Scl [2] sh42 [vi s0_17, vl a20 k21 s1_18]) (KS ?_))
 have hq := q4 hrr ((GSet.mk s0_17 s1_18), ti_16) (by simp only [tp_Set, h35, hg6, hR57, cs4]); subst hq
 exact Kr (vl a20 k21 s1_18) rfl (.cellN 0 rfl sh42 rfl (reads_Cl _ _) rfl .nil) [1, 2] en
theorem fn49 (tP : Value) (ta : Option Addr) (tk : Nat) (tT : List Int) (tI : Int) (s : GSet) (sa1 : Option Addr) (sk1 : Nat) (htI : 0 ≤ tI ∧ tI ≤ (tT.length : Int)) (hs_0 : i64ok s.Width) (hs : SetOk s) (rr : GSet × Int) (hrr : tp_SpoilSet tT tI s = rr) : FT Tryz.prog 49 #[tP, .agg #[vi s.Width, vl sa1 sk1 s.Words]] [Cl tP [vl ta tk tT, vi tI], S ta tk tT, S sa1 sk1 s.Words] (fun g : Value => i64ok rr.1.Width ∧ (0 ≤ rr.2 ∧ rr.2 ≤ (tT.length : Int))) (fun g => .agg #[vi rr.1.Width, g]) (fun g => [sl g rr.1.Words, Cl tP [vl ta tk tT, vi rr.2]]) := by
 refine FTi Tryz.func49 fun w0 M0 F0 => ?_
 unfold i64ok at hs_0
 refine Fb 8 1 fun _ => Fo 1 fun ho2 => Fb 8 2 fun _ => ?_
 obtain ⟨hw0, hw1, hw2⟩ := hs
 refine KS ?_
 refine Oa (Ab [vi s.Width, vl sa1 sk1 s.Words]) fun p4 => Oa (Al ze42 [vi 0, .slice none 0 0]) fun p5 => KS ?_
 refine JK_drawK [0, 1, 0, 0, 8, 28, 63, 0, 255] fmix ?_
 refine Dv [1] (Vfa fo42_0 0) (Dv [1] (VldF sh3 0) (Dx [] [] [0] (fun G => (G.g 2 0)) [fun G => Cr (G.g 2 0) 0 []] (fun G => xA (As0 sl40)) (Dv [1] (Vfa fo42_1 0) (Dv [1] (VldF sh40 0) (Dx [4, 5] [5] [1, 0] (fun G => (G.g 5 0)) [fun G => os (G.g 5 0) s.Words] (fun G => xp [1] rfl (Ent.crNil (α := BitVec 64) _) (xA (Ap0 [0, 0] sl40 sl40 sz40))) ?_)))))
 refine Dx [6] [] [0] (fun G => .agg #[vi s.Width, (G.g 5 0)]) [] (fun G => xV (v := .agg #[vi s.Width, (G.g 5 0)]) (Vo 0 rfl (isO_os _ _) fun aq8 kq9 eq10 => (by rw [eq10]; exact Vbd st42 [vi s.Width, .slice aq8 ((s.Words : List (BitVec 64)).length) kq9]))) (Dx [] [] [0] (fun G => (G.g 7 0)) [fun G => Cl (G.g 7 0) [vi 0, .slice none 0 0]] (fun G => xA (Al ze42 [vi 0, .slice none 0 0])) (Dx0 [6, 7] [7] [1, 0] [fun G => Cl (G.g 7 0) [vi s.Width, (G.g 5 0)]] (fun G => x1 0 rfl os_one fun ho12 => (xS (Scl [1] sh42 [vi s.Width, (G.g 5 0)] (v := .agg #[vi s.Width, (G.g 5 0)]) (h1 := show [vi s.Width, (G.g 5 0)].all (·.oneCell') = true from (by simp only [List.all_cons, List.all_nil, ho12, Bool.and_true, Bool.true_and] <;> rfl))))) ?_))
 refine Dn ⟨by kernel_rfl, fun G => ?_⟩
 refine Jw2 [(0, tP), (4, p5), (5, (G.g 7 0))] [0, 1, 2, 3, 4] [os (G.g 5 0) s.Words, Cl (G.g 7 0) [vi s.Width, (G.g 5 0)]] ?_
 generalize G.g 5 0 = c7, G.g 7 0 = p11
 refine Jo 5 ?_; rintro a13 k14 rfl
 refine KS ?_
 refine Oq Vm ?_
 refine letv (tp_Next tT tI 4) fun rv15 hg16 => ?_
 have hc17 := fn9 tP ta tk tT tI 4 pre pre rv15 hg16
 refine Oc [2, 2] ca9 hc17 ?_
 rintro - ⟨he18, he19, he20⟩
 unfold i64ok at he18
 refine KS ?_
 refine Oq Veql (Oq Va (KS ?_))
 refine Kc ?_ ?_
 ·intro h21
  have g22 := eq_of_beq h21
  refine Jp 6 fun hp23 => ?_
  refine JK_drawK [0, 1, 0, 4, 12, 31, 63, 127] fmix ?_
  refine Dv [0] (Vfa fo42_0 0) (Dv [7] (VldF sh3 0) (Dv [] Vm ?_))
  refine letv (tp_Next tT rv15.2 5) fun rv24 hg25 => Dx [1, 4] [1] [2, 0, 1] (fun G => vi rv24.1) [fun G => SP.fact (i64ok rv24.1 ∧ (0 ≤ rv24.2 ∧ rv24.2 ≤ (tT.length : Int)) ∧ (0 ≤ rv24.1 ∧ (rv24.1 < 5 ∨ rv24.1 = 0))), fun G => Cl tP [vl ta tk tT, vi rv24.2]] (fun G => xC [0, 0] ca9 (fn9 tP ta tk tT rv15.2 5 pre pre rv24 hg25)) ?_
  refine Dx [8] [] [0] (fun G => vi (rv24.1 - 2)) [] (fun G => by refine xf 0 rfl ?_; rintro ⟨he26, he27, he28⟩; unfold i64ok at he26; exact xV (Vsub)) ?_
  refine Dx [8] [] [0] (fun G => vi (s.Width + (rv24.1 - 2))) [] (fun G => by refine xf 0 rfl ?_; rintro ⟨he29, he30, he31⟩; unfold i64ok at he29; exact xV (Vadd)) (Dv [0] (Vfa fo42_0 0) (Dx0 [7] [7] [0] [fun G => Cl p11 [vi (s.Width + (rv24.1 - 2)), vl a13 k14 s.Words]] (fun G => xS (SclF [0] sh3 [vi (s.Width + (rv24.1 - 2)), vl a13 k14 s.Words])) ?_))
  refine Dn ⟨by kernel_rfl, fun G => ?_⟩
  refine Jw2 [(4, p5), (5, p11)] [0, 2, 3, 4, 5, 6] [SP.fact (i64ok rv24.1 ∧ (0 ≤ rv24.2 ∧ rv24.2 ≤ (tT.length : Int)) ∧ (0 ≤ rv24.1 ∧ (rv24.1 < 5 ∨ rv24.1 = 0))), Cl tP [vl ta tk tT, vi rv24.2], Cl p11 [vi (s.Width + (rv24.1 - 2)), vl a13 k14 s.Words]] ?_
  refine Jf 6 rfl ?_; rintro ⟨he32, he33, he34⟩
  unfold i64ok at he32
  refine Jk [1, 1, 2, 3, 4, 5, 5] ?_
  refine KS ?_
  refine Oq (VldA sh42 6) (Ost (Scl [0] sh42 [vi (s.Width + (rv24.1 - 2)), vl a13 k14 s.Words]) (KS ?_))
  refine Jl [4] (Ent.freeze _ _) ?_
  have hq := q4 hrr ((GSet.mk (s.Width + (rv24.1 - 2)) s.Words), rv24.2) (by simp only [tp_SpoilSet, h21, hg16, hg25, cs4]); subst hq
  exact Kr (vl a13 k14 s.Words) rfl (.cellN 1 rfl sh42 rfl (reads_Cl _ _) rfl .nil) [0, 5] ⟨(by (try dsimp only) <;> first | (unfold i64ok; omega) | exact getD_all (p := i64ok) (by intro x hx; simp only [List.mem_cons, List.not_mem_nil, or_false] at hx; unfold i64ok; omega) aK1 _), en⟩
 intro h21
 have g35 := ne_of_beq_false h21
 refine KS ?_
 refine Oq Veql (Oq Va (KS ?_))
 refine Kc ?_ ?_
 ·intro h36
  have g37 := eq_of_beq h36
  refine Jp 6 fun hp38 => ?_
  refine JK_drawK [0, 1, 0, 4, 12, 28, 63, 127, 255] fmix ?_
  refine Dv [0] (Vfa fo42_1 0) (Dv [7] (VldF sh40 0) (Dv [] Vm ?_))
  refine letv (tp_Next tT rv15.2 2) fun rv39 hg40 => ?_
  refine Dx [1, 4] [1] [2, 0, 1] (fun G => vi rv39.1) [fun G => SP.fact (i64ok rv39.1 ∧ (0 ≤ rv39.2 ∧ rv39.2 ≤ (tT.length : Int)) ∧ (0 ≤ rv39.1 ∧ (rv39.1 < 2 ∨ rv39.1 = 0))), fun G => Cl tP [vl ta tk tT, vi rv39.2]] (fun G => xC [0, 0] ca9 (fn9 tP ta tk tT rv15.2 2 pre pre rv39 hg40)) (Dv [] (VcU un3 un91) (Dx [] [] [0] (fun G => (G.g 5 0)) [fun G => Cr (G.g 5 0) 1 [u64 (BitVec.ofInt 64 rv39.1)]] (fun G => xA (AsV sl40 sz40 [u64 (BitVec.ofInt 64 rv39.1)] [u64 (BitVec.ofInt 64 rv39.1)])) ?_))
  have hn43 := la s.Words ([(BitVec.ofInt 64 rv39.1)] : List (BitVec 64))
  refine Dx [6, 8, 10] [6, 10] [1, 0] (fun G => (G.g 6 0)) [fun G => os (G.g 6 0) ((s.Words ++ [(BitVec.ofInt 64 rv39.1)]) : List (BitVec 64))] (fun G => by refine xf 1 rfl ?_; rintro ⟨he44, he45, he46⟩; unfold i64ok at he44; exact xp [2] rfl (Ent.cr1 (α := BitVec 64) (A := []) _ (BitVec.ofInt 64 rv39.1) _ aB1 (fun _ => rfl)) (xA (ApO [1, 0] sl40 sl40 sz40))) (Dv [0] (Vfa fo42_1 0) (Dx0 [7, 11] [7] [1, 0] [fun G => Cl p11 [vi s.Width, (G.g 6 0)]] (fun G => x1 1 rfl os_one fun ho47 => (xS (OpS.frame [0] rfl (OpS.storeClF [(G.g 6 0)] [vi s.Width, (G.g 6 0)] rfl rfl rfl sh40 (cells_of_one ho47) rfl (by simp only [List.all_cons, List.all_nil, ho47, Bool.and_true, Bool.true_and] <;> rfl) aB1 rfl)))) ?_))
  refine Dn ⟨by kernel_rfl, fun G => ?_⟩
  refine Jw2 [(4, p5), (5, p11)] [0, 2, 3, 4, 5] [SP.fact (i64ok rv39.1 ∧ (0 ≤ rv39.2 ∧ rv39.2 ≤ (tT.length : Int)) ∧ (0 ≤ rv39.1 ∧ (rv39.1 < 2 ∨ rv39.1 = 0))), Cl tP [vl ta tk tT, vi rv39.2], os (G.g 6 0) ((s.Words ++ [(BitVec.ofInt 64 rv39.1)]) : List (BitVec 64)), Cl p11 [vi s.Width, (G.g 6 0)]] ?_
  generalize G.g 6 0 = c42
  refine Jf 5 rfl ?_; rintro ⟨he48, he49, he50⟩
  unfold i64ok at he48
  refine Jk [1, 1, 2, 3, 5, 5, 5] ?_
  refine Jo 5 ?_; rintro a51 k52 rfl
  refine Fb 8 5 fun _ => KS ?_
  refine Oq (VldA sh42 6) (Ost (Scl [0] sh42 [vi s.Width, vl a51 k52 (s.Words ++ [(BitVec.ofInt 64 rv39.1)])]) (KS ?_))
  refine Jl [5] (Ent.freeze _ _) ?_
  have hq := q4 hrr ((GSet.mk s.Width (s.Words ++ [(BitVec.ofInt 64 rv39.1)])), rv39.2) (by simp only [tp_SpoilSet, h21, h36, hg16, hg40, cs4]); subst hq
  exact Kr (vl a51 k52 (s.Words ++ [(BitVec.ofInt 64 rv39.1)])) rfl (.cellN 1 rfl sh42 rfl (reads_Cl _ _) rfl .nil) [0, 5] ⟨(by (try dsimp only) <;> first | (unfold i64ok; omega) | exact getD_all (p := i64ok) (by intro x hx; simp only [List.mem_cons, List.not_mem_nil, or_false] at hx; unfold i64ok; omega) aK1 _), en⟩
 intro h36
 have g54 := ne_of_beq_false h36
 refine KS ?_
 refine Oq Veql (Oq Va (KS ?_))
 refine Kc ?_ ?_
 ·intro h55
  have g56 := eq_of_beq h55
  refine KS ?_
  refine Oq (Vfa fo42_1 6) (Oq (VldF sh40 6) (Oq (Vlen sl40) (Oq Vgtr (KS ?_))))
  refine Kc ?_ ?_
  ·intro h57
   have g58 := dt h57
   refine Jp 6 fun hp59 => ?_
   refine JK_drawK [0, 1, 0, 4, 12, 28, 63, 127, 0, 256, 768, 1792, 4095, 8191, 16383] fmix ?_
   refine Dv [0] (Vfa fo42_1 0) (Dv [7] (VldF sh40 0) (Dv [0] (Vfa fo42_1 0) (Dv [7] (VldF sh40 0) (Dv [] (Vlen sl40) (Dv [] Vsub (Dv [6] (Vi sl40 0) (Dv [6] (VldU sh91 0) (Dv [] Vm ?_))))))))
   refine letv (tp_Next tT rv15.2 64) fun rv60 hg61 => ?_
   refine Dx [1, 4] [1] [2, 0, 1] (fun G => vi rv60.1) [fun G => SP.fact (i64ok rv60.1 ∧ (0 ≤ rv60.2 ∧ rv60.2 ≤ (tT.length : Int)) ∧ (0 ≤ rv60.1 ∧ (rv60.1 < 64 ∨ rv60.1 = 0))), fun G => Cl tP [vl ta tk tT, vi rv60.2]] (fun G => xC [0, 0] ca9 (fn9 tP ta tk tT rv15.2 64 pre pre rv60 hg61)) (Dv [] (VcU un3 un92) ?_)
   refine Dx [8] [] [0] (fun G => u64 (1#64 <<< (((BitVec.ofInt 64 rv60.1).toNat : Int)).toNat)) [] (fun G => by refine xf 0 rfl ?_; rintro ⟨he62, he63, he64⟩; unfold i64ok at he62; exact xV (VshlU (a := 1#64))) (Dv [] VorU (Dv [6] (Vi sl40 0) (Dx0 [6] [6] [0] [fun G => os (vl a13 k14 s.Words) (s.Words.set (((s.Words.length : Int) - 1) : Int).toNat ((s.Words.getD (((s.Words.length : Int) - 1) : Int).toNat 0#64) ||| (1#64 <<< (((BitVec.ofInt 64 rv60.1).toNat : Int)).toNat)))] (fun G => xS (SoU [0] sh91)) ?_)))
   refine Dn ⟨by kernel_rfl, fun G => ?_⟩
   refine Jw2 [(4, p5), (5, p11)] [0, 2, 3, 4, 5, 7] [SP.fact (i64ok rv60.1 ∧ (0 ≤ rv60.2 ∧ rv60.2 ≤ (tT.length : Int)) ∧ (0 ≤ rv60.1 ∧ (rv60.1 < 64 ∨ rv60.1 = 0))), Cl tP [vl ta tk tT, vi rv60.2], os (vl a13 k14 s.Words) (s.Words.set (((s.Words.length : Int) - 1) : Int).toNat ((s.Words.getD (((s.Words.length : Int) - 1) : Int).toNat 0#64) ||| (1#64 <<< (((BitVec.ofInt 64 rv60.1).toNat : Int)).toNat)))] ?_
   refine Jf 6 rfl ?_; rintro ⟨he65, he66, he67⟩
   unfold i64ok at he65
   refine Jk [1, 1, 2, 3, 4, 5, 5] ?_
   refine KS ?_
   refine Oq (VldA sh42 4) (Ost (Scl [0] sh42 [vi s.Width, vl a13 k14 s.Words]) (KS ?_))
   refine Jl [6] (Ent.freeze _ _) ?_
   have hq := q4 hrr ((GSet.mk s.Width (s.Words.set (((s.Words.length : Int) - 1) : Int).toNat ((s.Words.getD (((s.Words.length : Int) - 1) : Int).toNat 0#64) ||| (1#64 <<< (((BitVec.ofInt 64 rv60.1).toNat : Int)).toNat)))), rv60.2) (by simp only [tp_SpoilSet, h21, h36, h55, h57, hg16, hg61, cs4]); subst hq
   exact Kr (vl a13 k14 s.Words) rfl (.cellN 1 rfl sh42 rfl (reads_Cl _ _) rfl .nil) [0, 6] ⟨(by (try dsimp only) <;> first | (unfold i64ok; omega) | exact getD_all (p := i64ok) (by intro x hx; simp only [List.mem_cons, List.not_mem_nil, or_false] at hx; unfold i64ok; omega) aK1 _), en⟩
  intro h57
  have g68 := df h57
  refine KS ?_
  refine Oq (VldA sh42 6) (Ost (Scl [1] sh42 [vi s.Width, vl a13 k14 s.Words]) (KS ?_))
  refine Jl [5] (Ent.freeze _ _) ?_
  have hq := q4 hrr (s, rv15.2) (by simp only [tp_SpoilSet, h21, h36, h55, h57, hg16, cs4]); subst hq
  exact Kr (vl a13 k14 s.Words) rfl (.cellN 1 rfl sh42 rfl (reads_Cl _ _) rfl .nil) [0, 2] ⟨(by (try dsimp only) <;> first | (unfold i64ok; omega) | exact getD_all (p := i64ok) (by intro x hx; simp only [List.mem_cons, List.not_mem_nil, or_false] at hx; unfold i64ok; omega) aK1 _), en⟩
 intro h55
 have g69 := ne_of_beq_false h55
 refine KS ?_
 refine Oa (AsV sl22 sz22 [vi (-1), vi 257, vi 320, vi 0] [vi (-1), vi 257, vi 320, vi 0]) fun c70 => ?_
 refine Jo 0 ?_; rintro a71 k72 rfl
 refine Oq Vm ?_
 refine letv (tp_Next tT rv15.2 4) fun rv73 hg74 => ?_
 have hc75 := fn9 tP ta tk tT rv15.2 4 pre pre rv73 hg74
 refine Oc [1, 3] ca9 hc75 ?_
 rintro - ⟨he76, he77, he78⟩
 unfold i64ok at he76
 refine Jl [1] (Ent.crInt _ [-1, 257, 320, 0] _ _ rfl rfl (by intro x hx; simp only [List.mem_cons, List.not_mem_nil, or_false] at hx; rcases hx with rfl | rfl | rfl | rfl <;> (unfold i64ok; omega)) aB1) ?_
 refine Oq (Vi sl22 0) (Oq (VldI sh3 0) (Oq (Vfa fo42_0 7) (Ost (SclF [7] sh3 [vi ([-1, 257, 320, 0].getD rv73.1.toNat 0), vl a13 k14 s.Words]) (KS ?_))))
 refine Oq (VldA sh42 0) (Ost (Scl [3] sh42 [vi ([-1, 257, 320, 0].getD rv73.1.toNat 0), vl a13 k14 s.Words]) (KS ?_))
 refine Jl [7] (Ent.freeze _ _) ?_
 have hq := q4 hrr ((GSet.mk ([-1, 257, 320, 0].getD rv73.1.toNat 0) s.Words), rv73.2) (by simp only [tp_SpoilSet, h21, h36, h55, hg16, hg74, cs4]); subst hq
 exact Kr (vl a13 k14 s.Words) rfl (.cellN 1 rfl sh42 rfl (reads_Cl _ _) rfl .nil) [0, 4] ⟨(by (try dsimp only) <;> first | (unfold i64ok; omega) | exact getD_all (p := i64ok) (by intro x hx; simp only [List.mem_cons, List.not_mem_nil, or_false] at hx; unfold i64ok; omega) aK1 _), en⟩
theorem fn18 (tP : Value) (ta : Option Addr) (tk : Nat) (tT : List Int) (tI : Int) (s : GSystem) (sa1 : Option Addr) (sk1 : Nat) (sa2 : Option Addr) (sk2 : Nat) (sa3 : Option Addr) (sk3 : Nat) (htI : 0 ≤ tI ∧ tI ≤ (tT.length : Int)) (hs_0 : i64ok s.Width) (hv : VSys s) (rr : List GSet × Int) (hrr : tp_Values tT tI s = rr) : FT Tryz.prog 18 #[tP, .agg #[vi s.Width, vl sa1 sk1 s.Deps, vl sa2 sk2 s.Transfers, vl sa3 sk3 s.Boundary]] [Cl tP [vl ta tk tT, vi tI], S ta tk tT, S sa1 sk1 s.Deps, S sa2 sk2 s.Transfers, S sa3 sk3 s.Boundary] (fun g : Value => (0 ≤ rr.2 ∧ rr.2 ≤ (tT.length : Int))) (fun g => g) (fun g => [sl g rr.1, Cl tP [vl ta tk tT, vi rr.2]]) := by
 refine FTi Tryz.func18 fun w0 M0 F0 => ?_
 unfold i64ok at hs_0
 refine Fb 8 1 fun _ => Fo 1 fun ho2 => Fb 24 2 fun _ => Fb 88 3 fun _ => Fb 32 4 fun _ => ?_
 have hv1 := hv.n
 have hv3 := hv.bl
 have hv4 := hv.w
 refine KS ?_
 refine Oa (Ab [vi s.Width, vl sa1 sk1 s.Deps, vl sa2 sk2 s.Transfers, vl sa3 sk3 s.Boundary]) fun p6 => Oq Va (KS ?_)
 refine Oq Va (KS ?_)
 refine Oq Va (KS ?_)
 refine Jl [] (Ent.osNil (α := GSet)) ?_
 refine Kl (γ := Nat × Int × List GSet × Int × Option Addr × Nat) (fun (r7, ti_8, v_9, i_10, a11, k12) => ⟨[(0, tP), (3, p6), (5, vl a11 k12 v_9), (6, vi i_10)], [O a11 k12 v_9, pv p6 [vi s.Width, vl sa1 sk1 s.Deps, vl sa2 sk2 s.Transfers, vl sa3 sk3 s.Boundary], Cl tP [vl ta tk tT, vi ti_8], S ta tk tT, S sa1 sk1 s.Deps, S sa2 sk2 s.Transfers, S sa3 sk3 s.Boundary], tp_Values_L0 tT s r7 ti_8 v_9 i_10 = tp_Values_L0 tT s (((s.Boundary.length : Int) - 0).toNat) tI [] 0 ∧ r7 = ((s.Boundary.length : Int) - i_10).toNat ∧ (0 : Int) ≤ i_10 ∧ i_10 ≤ (s.Boundary.length : Int) ∧ (-9223372036854775808 ≤ ti_8 ∧ ti_8 ≤ 9223372036854775807) ∧ (0 ≤ ti_8 ∧ ti_8 ≤ (tT.length : Int)) ∧ (-9223372036854775808 ≤ i_10 ∧ i_10 ≤ 9223372036854775807) ∧ (v_9.length : Int) = i_10 ∧ (∀ g ∈ v_9, SetOk g), r7⟩) (((s.Boundary.length : Int) - 0).toNat, tI, [], 0, none, 0) [0, 0, 1, 1, 2, 3, 4] ⟨rfl, rfl, aM1, aM1, aM1, aM1, aM1, iv0, (fun g hg => by cases hg)⟩ ?_
 rintro ⟨r7, ti_8, v_9, i_10, a11, k12⟩ ⟨hM13, hr14, hi15, hi16, hk17, ht18, hk19, hv20, hv21⟩
 refine JJ_nx fun _ _ hL hA => ?_; dsimp only at hL hA; subst hL hA
 refine Fb 32 0 fun _ => Fb 8 3 fun _ => Fo 3 fun ho24 => Fb 24 4 fun _ => Fb 88 5 fun _ => Fb 32 6 fun _ => KS ?_
 refine Oq Vm (Oq (Vfa fo27_3 1) (Oq (VldF sh25 1) (Oq (Vlen sl25) (Oq Vlss (KS ?_)))))
 refine Kc ?_ ?_
 ·intro h28
  have g29 := dt h28
  obtain ⟨r30, rfl⟩ := scc (n := r7) aM1
  refine KS ?_
  refine Oq Vm (Oq Vm (Oq (Vfa fo27_0 1) (Oq (VldF sh3 1) ?_)))
  refine letv (tp_Set tT ti_8 s.Width) fun rv32 hg33 => ?_
  have hc34 := fn13 tP ta tk tT ti_8 s.Width pre pre pre rv32 hg33
  refine Oc [2, 2] ca13 hc34 ?_
  rintro c31 ⟨he35, he36, he37, he38⟩
  unfold i64ok at he35
  refine Jo 0 ?_; rintro a39 k40 rfl
  refine Fb 8 0 fun _ => Oa (AsV sl25 sz25 [.agg #[vi rv32.1.Width, vl a39 k40 rv32.1.Words]] [vi rv32.1.Width, vl a39 k40 rv32.1.Words]) fun c42 => ?_
  refine Jo 0 ?_; rintro a43 k44 rfl
  refine Jl [1] (Ent.freeze _ _) ?_
  refine Jl [1, 0] (Ent.cr1 (α := GSet) (A := [S a39 k40 rv32.1.Words]) _ rv32.1 _ aB1 (fun h => ⟨_, rfl, aL1, sepAll_get (i := 0) rfl h⟩)) ?_
  refine Oa (ApO [4, 0] sl25 sl25 sz25) fun c45 => ?_
  refine Jo 0 ?_; rintro a46 k47 rfl
  refine Fb 32 0 fun _ => ?_
  have hn49 := la v_9 ([rv32.1] : List GSet)
  refine Oq Va (KS ?_)
  refine Oq Vm (Oq Vadd (Oq Va (KS ?_)))
  exact Kg (r30, rv32.2, (v_9 ++ [rv32.1]), (i_10 + 1), a46, k47) [0, 3, 2, 3, 4, 5, 6] ⟨(q3 hM13 (by simp only [tp_Values_L0, h28, hg33, cs4])), aM1, aM1, aM1, aM1, aM1, aM1, iv1, (fun g hg => (List.mem_append.1 hg).elim ((by assumption : ∀ g ∈ _, SetOk g) g) (fun h => by rw [List.mem_singleton.1 h]; exact Set_ok (by assumption) hv4.1 hv4.2))⟩
 intro h28
 have g50 := df h28
 obtain rfl : r7 = 0 := by omega
 refine Ke ?_
 have hR51 := q2 hM13 (ti_8, v_9) (by simp only [tp_Values_L0, h28, cs4])
 refine KS ?_
 refine Oq Vm ?_
 refine letv (tp_Next tT ti_8 8) fun rv52 hg53 => ?_
 have hc54 := fn9 tP ta tk tT ti_8 8 pre pre rv52 hg53
 refine Oc [2, 2] ca9 hc54 ?_
 rintro - ⟨he55, he56, he57⟩
 unfold i64ok at he55
 refine KS ?_
 refine Oq Veql (Oq Va (KS ?_))
 refine Kc ?_ ?_
 ·intro h58
  have g59 := eq_of_beq h58
  refine KS ?_
  refine Oq Vm (Oq Vm (Oq (Vfa fo27_0 2) (Oq (VldF sh3 2) ?_)))
  refine letv (tp_Set tT rv52.2 s.Width) fun rv61 hg62 => ?_
  have hc63 := fn13 tP ta tk tT rv52.2 s.Width pre pre pre rv61 hg62
  refine Oc [0, 2] ca13 hc63 ?_
  rintro c60 ⟨he64, he65, he66, he67⟩
  unfold i64ok at he64
  refine Jo 0 ?_; rintro a68 k69 rfl
  refine Fb 8 0 fun _ => Oa (AsV sl25 sz25 [.agg #[vi rv61.1.Width, vl a68 k69 rv61.1.Words]] [vi rv61.1.Width, vl a68 k69 rv61.1.Words]) fun c71 => ?_
  refine Jo 0 ?_; rintro a72 k73 rfl
  refine Jl [1] (Ent.freeze _ _) ?_
  refine Jl [1, 0] (Ent.cr1 (α := GSet) (A := [S a68 k69 rv61.1.Words]) _ rv61.1 _ aB1 (fun h => ⟨_, rfl, aL1, sepAll_get (i := 0) rfl h⟩)) ?_
  refine Oa (ApO [4, 0] sl25 sl25 sz25) fun c74 => ?_
  refine Jo 0 ?_; rintro a75 k76 rfl
  refine Fb 32 0 fun _ => ?_
  have hn78 := la v_9 ([rv61.1] : List GSet)
  refine Oq Va (KS ?_)
  refine Oq Vm (Oq Va (KS ?_))
  refine Jl [0] (Ent.freeze _ _) ?_
  have hq := q4 hrr ((v_9 ++ [rv61.1]), rv61.2) (by simp only [tp_Values, h28, h58, hR51, hg53, hg62, cs4]); subst hq
  exact Kr (vl a75 k76 (v_9 ++ [rv61.1])) rfl (.tmp rfl .nil) [0, 3] en
 intro h58
 have g79 := ne_of_beq_false h58
 refine KS ?_
 refine Oq Veql (Oq Va (KS ?_))
 refine Kc ?_ ?_
 ·intro h80
  have g81 := eq_of_beq h80
  refine JK_drawK [0, 0, 0, 4, 14, 0, 0, 64, 192, 510, 1023, 2047] fmix ?_
  refine Dv [] Vm (Dv [] Vm (Dv [] Vm (Dv [] (Vlen sl25) ?_)))
  refine letv (tp_Next tT rv52.2 (v_9.length : Int)) fun rv82 hg83 => ?_
  refine Dx [0, 3] [0] [2, 0, 1] (fun G => vi rv82.1) [fun G => SP.fact (i64ok rv82.1 ∧ (0 ≤ rv82.2 ∧ rv82.2 ≤ (tT.length : Int)) ∧ (0 ≤ rv82.1 ∧ (rv82.1 < (v_9.length : Int) ∨ rv82.1 = 0))), fun G => Cl tP [vl ta tk tT, vi rv82.2]] (fun G => xC [0, 0] ca9 (fn9 tP ta tk tT rv52.2 ((v_9.length : Int)) pre pre rv82 hg83)) (Dv [] Vm (Dv [2] (Vfa fo27_0 0) (Dv [2] (VldF sh3 0) (Dv [] Vadd ?_))))
  refine letv (tp_Set tT rv82.2 (s.Width + 1)) fun rv85 hg86 => ?_
  refine Dx [3, 7, 8] [8] [3, 4, 0, 1, 1] (fun G => .agg #[vi rv85.1.Width, (G.g 9 0)]) [fun G => SP.fact (i64ok rv85.1.Width ∧ (0 ≤ rv85.2 ∧ rv85.2 ≤ (tT.length : Int)) ∧ (rv85.1.Width = (s.Width + 1)) ∧ (rv85.1.Words.length = ((((s.Width + 1) : Int) + 63) / 64).toNat)), fun G => os (G.g 9 0) rv85.1.Words, fun G => Cl tP [vl ta tk tT, vi rv85.2]] (fun G => by refine xf 1 rfl ?_; rintro ⟨he87, he88, he89⟩; unfold i64ok at he87; exact xC [2, 0] ca13 (fn13 tP ta tk tT rv82.2 ((s.Width + 1)) pre pre pre rv85 hg86)) ?_
  refine Dx [1, 7, 9] [] [0, 0, 1] (fun G => (eptr 2 (vl a11 k12 v_9) rv82.1.toNat)) [] (fun G => by refine xf 1 rfl ?_; rintro ⟨he90, he91, he92⟩; unfold i64ok at he90; refine xf 2 rfl ?_; rintro ⟨he93, he94, he95, he96⟩; unfold i64ok at he93; exact xV (Vi sl25 0)) ?_
  refine Dx0 [1, 7, 9, 10] [1, 10] [3, 4, 1, 0] [fun G => sl (G.g 9 0) rv85.1.Words, fun G => os (vl a11 k12 v_9) (v_9.set rv82.1.toNat rv85.1)] (fun G => by refine xf 1 rfl ?_; rintro ⟨he97, he98, he99⟩; unfold i64ok at he97; refine xf 2 rfl ?_; rintro ⟨he100, he101, he102, he103⟩; unfold i64ok at he100; exact xp [3] rfl (Ent.freeze _ _) (xS (So (Rs := [sl (G.g 9 0) rv85.1.Words]) [1, 0] sh42 rv85.1 (fun h => ⟨_, rfl, aL1, sepAll_get (i := 0) rfl h⟩)))) ?_
  refine Dn ⟨by kernel_rfl, fun G => ?_⟩
  refine Jw2 [(5, vl a11 k12 v_9)] [2, 3, 4, 5, 6] [SP.fact (i64ok rv82.1 ∧ (0 ≤ rv82.2 ∧ rv82.2 ≤ (tT.length : Int)) ∧ (0 ≤ rv82.1 ∧ (rv82.1 < (v_9.length : Int) ∨ rv82.1 = 0))), SP.fact (i64ok rv85.1.Width ∧ (0 ≤ rv85.2 ∧ rv85.2 ≤ (tT.length : Int)) ∧ (rv85.1.Width = (s.Width + 1)) ∧ (rv85.1.Words.length = ((((s.Width + 1) : Int) + 63) / 64).toNat)), Cl tP [vl ta tk tT, vi rv85.2], sl (G.g 9 0) rv85.1.Words, os (vl a11 k12 v_9) (v_9.set rv82.1.toNat rv85.1)] ?_
  generalize G.g 9 0 = c84
  refine Jf 5 rfl ?_; rintro ⟨he104, he105, he106⟩
  unfold i64ok at he104
  refine Jf 6 rfl ?_; rintro ⟨he107, he108, he109, he110⟩
  unfold i64ok at he107
  refine Jk [0, 1, 2, 3, 4, 7, 7, 8] ?_
  refine Jo 6 ?_; rintro a111 k112 rfl
  refine Fb 8 6 fun _ => KS ?_
  refine Oq Vm (Oq Va (KS ?_))
  refine Jl [7] (Ent.freeze _ _) ?_
  have hq := q4 hrr ((v_9.set rv82.1.toNat rv85.1), rv85.2) (by simp only [tp_Values, h28, h58, h80, hR51, hg53, hg83, hg86, cs4]); subst hq
  exact Kr (vl a11 k12 v_9) rfl (.tmp rfl .nil) [0, 6] en
 intro h80
 have g114 := ne_of_beq_false h80
 refine KS ?_
 refine Oq Veql (Oq Va (KS ?_))
 refine Kc ?_ ?_
 ·intro h115
  have g116 := eq_of_beq h115
  refine KS ?_
  refine Oq Vm (Oq Vm (Oq Vm (Oq (Vi sl25 1) ?_)))
  refine JJ_peekO_GSet (0 : Int).toNat 1 rfl rng fun a117 k118 hb119 => ?_
  unfold i64ok at hb119
  refine Fb 8 1 fun _ => Oq (VldA sh42 0) ?_
  refine letv (tp_SpoilSet tT rv52.2 (v_9.getD (0 : Int).toNat default)) fun rv122 hg123 => ?_
  have hc124 := fn49 tP ta tk tT rv52.2 ((v_9.getD (0 : Int).toNat default)) a117 k118 pre pre ((by assumption : ∀ g ∈ _, SetOk g) _ (getD_mem aM1)) rv122 hg123
  refine Oc [2, 3, 1] ca49 hc124 ?_
  rintro c121 ⟨he125, he126⟩
  unfold i64ok at he125
  refine Jo 0 ?_; rintro a127 k128 rfl
  refine Fb 8 0 fun _ => Oq (Vi sl25 2) ?_
  refine Jl [2] (Ent.oread _ _ _ _) ?_
  refine Ost (So (Rs := [S a127 k128 rv122.1.Words]) [0, 0] sh42 rv122.1 (fun h => ⟨_, rfl, aL1, sepAll_get (i := 0) rfl h⟩)) (KS ?_)
  refine Oq Vm (Oq Va (KS ?_))
  refine Jl [0] (Ent.freeze _ _) ?_
  have hq := q4 hrr ((v_9.set (0 : Int).toNat rv122.1), rv122.2) (by simp only [tp_Values, h28, h58, h80, h115, hR51, hg53, hg123, cs4]); subst hq
  exact Kr (vl a11 k12 v_9) rfl (.tmp rfl .nil) [0, 3] en
 intro h115
 have g130 := ne_of_beq_false h115
 refine KS ?_
 refine Oq Vm (Oq Va (KS ?_))
 refine Jl [1] (Ent.freeze _ _) ?_
 have hq := q4 hrr (v_9, rv52.2) (by simp only [tp_Values, h28, h58, h80, h115, hR51, hg53, cs4]); subst hq
 exact Kr (vl a11 k12 v_9) rfl (.tmp rfl .nil) [0, 1] en
theorem fn102 (s : List GHop) (sa0 : Option Addr) (sk0 : Nat) (fF : FuncId) (fC : List Value) (fp : GHop → LR Unit Bool) (fA : List SP) (hfc : callable Tryz.prog fF = true) (hfF : ∀ x ∈ s, i64ok x.Node → i64ok x.Bit → ∀ r, fp x = .ret r → FT Tryz.prog fF ([(.agg #[vi x.Node, vi x.Bit] : Value)] ++ fC).toArray ([] ++ [pAll fA]) (fun _ : Unit => True) (fun _ => .bool r) (fun _ => [])) (rr : Int) (hrr : sc_IndexFunc_Hop s fp = .ret rr) : FT Tryz.prog 102 #[vl sa0 sk0 s, .func (.func fF) #[] fC.toArray] [S sa0 sk0 s, pAll fA] (fun g : Unit => i64ok rr) (fun g => vi rr) (fun g => []) := by
 refine FTi Tryz.func102 fun w0 M0 F0 => Fb 16 0 fun _ => ?_
 have hx0 := lrn rr; have H := hrr; unfold sc_IndexFunc_Hop at H
 refine KS ?_
 refine Oq Va (KS ?_)
 refine Oq Vm (Oq (Vlen sl28) (Oq Vm (KS ?_)))
 refine llH H hx0 fun X9 hX10 hx11 HL12 => ?_
 refine Kl (γ := Nat × Int) (fun (r2, v8_3) => ⟨[(0, vl sa0 sk0 s), (1, .func (.func fF) #[] fC.toArray), (7, vi (s.length : Int)), (8, vi v8_3)], [S sa0 sk0 s, pAll fA], sc_IndexFunc_Hop_L0 s fp r2 v8_3 = X9 ∧ r2 = ((s.length : Int) - v8_3).toNat ∧ (0 : Int) ≤ v8_3 ∧ v8_3 ≤ (s.length : Int) ∧ (-9223372036854775808 ≤ v8_3 ∧ v8_3 ≤ 9223372036854775807), r2⟩) (((s.length : Int) - 0).toNat, 0) [0, 1] ⟨hX10, rfl, aM1, aM1, aM1⟩ ?_
 rintro ⟨r2, v8_3⟩ ⟨hM4, hr5, hi6, hi7, hk8⟩
 refine JJ_nx fun _ _ hL hA => ?_; dsimp only at hL hA; subst hL hA
 refine Fb 16 0 fun _ => KS ?_
 refine Oq Vlss (KS ?_)
 refine Kc ?_ ?_
 ·intro h14
  have g15 := dt h14
  obtain ⟨r16, rfl⟩ := scc (n := r2) aM1
  have H := hM4; (try dsimp only at H); rw [sc_IndexFunc_Hop_L0] at H
  refine KS ?_
  refine Oq Vm (Oq Va (KS ?_))
  refine Oq Vm (Oq Vm (Oq Vm ?_))
  refine pC H hx11 fun hc17 H => ?_
  refine Oq (Vi sl28 0) ?_
  refine JJ_peek_GHop v8_3.toNat 0 rfl rng fun hb18 hb19 => ?_
  unfold i64ok at hb18 hb19
  refine Oq (VldA sh37 0) ?_
  refine pC H hx11 fun hc22 H => ?_
  refine lbH H hx11 fun rv20 hg21 H => ?_
  refine JO_call [2] rfl rfl rfl (OpC.clo (asv := [(.agg #[vi ((s.getD v8_3.toNat default).Node), vi ((s.getD v8_3.toNat default).Bit)] : Value)] ++ fC) rfl rfl hfc rfl (by simp)) (hfF (s.getD v8_3.toNat default) (getD_mem rng)  pre pre rv20 hg21) rfl fun _ _ => ?_
  refine KS ?_
  refine KcH H ?_ ?_
  ·intro h23 H
   refine KS ?_
   refine Oq Vm (Oq Va (KS ?_))
   have H := llR H HL12
   have hq := rI H; subst hq
   exact Kr () rfl (.tmp rfl .nil) [] en
  intro h23 H
  refine KS ?_
  refine Oq Vadd (Oq Vm (KS ?_))
  refine pC H hx11 fun hc26 H => ?_
  exact Kg (r16, (v8_3 + 1)) [1, 2] ⟨H, aM1, aM1, aM1, aM1⟩
 intro h14
 have g27 := df h14
 obtain rfl : r2 = 0 := by omega
 have H := hM4; (try dsimp only at H); rw [sc_IndexFunc_Hop_L0] at H
 refine Ke ?_
 have H := llB H HL12
 refine KS ?_
 refine Oq Va (KS ?_)
 have hq := rI H; subst hq
 exact Kr () rfl (.tmp rfl .nil) [] en
theorem fn60 (s : List GHop) (sa0 : Option Addr) (sk0 : Nat) (delF : FuncId) (delC : List Value) (delp : GHop → LR Unit Bool) (delA : List SP) (hdelc : callable Tryz.prog delF = true) (hdelF : ∀ x ∈ s, i64ok x.Node → i64ok x.Bit → ∀ r, delp x = .ret r → FT Tryz.prog delF ([(.agg #[vi x.Node, vi x.Bit] : Value)] ++ delC).toArray ([] ++ [pAll delA]) (fun _ : Unit => True) (fun _ => .bool r) (fun _ => [])) (rr : List GHop) (hrr : sc_DeleteFunc_Hop s delp = .ret rr) : FT Tryz.prog 60 #[vl sa0 sk0 s, .func (.func delF) #[] delC.toArray] [O sa0 sk0 s, pAll delA] (fun g : Value => True) (fun g => g) (fun g => [os g rr]) := by
 refine FTi Tryz.func60 fun w0 M0 F0 => Fb 16 0 fun _ => ?_
 have hx0 := lrn rr; have H := hrr; unfold sc_DeleteFunc_Hop at H
 refine KS ?_
 refine Oq Va (KS ?_)
 refine Oq Vm (Oq Vm ?_)
 refine lbH H hx0 fun rv2 hg3 H => ?_
 refine Oc [0, 0] ca102 (FT_borrow (A := _) (fun _ _ h => by cases h) (FT_ent (Ent.take (is := [0, 1]) rfl) (fn102 s sa0 sk0 delF delC delp delA hdelc hdelF rv2 hg3))) ?_ (ht := rfl)
 rintro - he4
 unfold i64ok at he4
 refine Oq Va (KS ?_)
 refine Oq Vm (Oq Veql (KS ?_))
 refine KcH H ?_ ?_
 ·intro h5 H
  have g6 := eq_of_beq h5
  refine KS ?_
  refine Oq Vm (Oq Va (KS ?_))
  have hq := rI H; subst hq
  exact Kr (vl sa0 sk0 s) rfl (.tmp rfl .nil) [0] trivial
 intro h5 H
 have g7 := ne_of_beq_false h5
 refine KS ?_
 refine Oq Vm ?_
 refine pC H hx0 fun hc8 H => ?_
 refine Oq Vadd (Oq Va (KS ?_))
 refine llH H hx0 fun X11 hX12 hx13 HL14 => ?_
 refine Kl (γ := Nat) (fun r9 => ⟨[(0, vl sa0 sk0 s), (1, .func (.func delF) #[] delC.toArray), (5, vi rv2), (6, vi (rv2 + 1))], [O sa0 sk0 s, pAll delA], sc_DeleteFunc_Hop_L0 s (rv2 + 1) r9 = X11, r9⟩) 1 [0, 0] hX12 ?_
 rintro r9 hM10
 refine JJ_nx fun _ _ hL hA => ?_; dsimp only at hL hA; subst hL hA
 refine Fb 16 0 fun _ => ?_
 rcases r9 with _ | r9
 ·exact absurd (hM10.symm.trans rfl) hx13
 have H := hM10; (try dsimp only at H); rw [sc_DeleteFunc_Hop_L0] at H
 refine KS ?_
 refine Oq Vm (Oq Vm (Oq (Vlen sl28) (Oq Vlss (KS ?_))))
 refine pF H hx13 fun h16 H => ?_
 refine KcF h16 ?_
 have g17 := df h16
 refine Ke ?_
 have H := llB H HL14
 refine KS ?_
 refine Oq Vm (Oq Vm ?_)
 refine pC H hx0 fun hc18 H => ?_
 refine Oq (VslA sl28 0 (rv2.toNat)) ?_
 refine pC H hx0 fun hc19 H => ?_
 refine Oan (OpA.frame [0] rfl (OpA.clearR (α := GHop) (z := (GHop.mk 0 0)) sl28 (zv := .agg #[vi 0, vi 0]) ze37 (fun _ _ => ⟨rfl, (by unfold i64ok; decide), (by unfold i64ok; decide)⟩) (rv2.toNat) rfl rfl aM1)) fun _ => ?_
 have hn20 : ((s.take (rv2.toNat)) ++ (List.replicate (s.length - rv2.toNat) (GHop.mk 0 0))).length = s.length := by simp only [List.length_append, List.length_take, List.length_replicate]; omega
 refine KS ?_
 refine Oq Vm (Oq Vm ?_)
 refine pC H hx0 fun hc21 H => ?_
 refine Oa (AslO [0] sl28 0 (rv2.toNat)) fun c22 => ?_
 refine Jo 0 ?_; rintro a23 k24 rfl
 refine Fb 16 0 fun _ => ?_
 have hn26 : ((((s.take (rv2.toNat)) ++ (List.replicate (s.length - rv2.toNat) (GHop.mk 0 0))).take (rv2.toNat)).drop 0).length = (rv2.toNat) - 0 := len_slice rng rng
 refine Oq Va (KS ?_)
 have hq := rI H; subst hq
 exact Kr (.slice a23 (((((s.take (rv2.toNat)) ++ (List.replicate (s.length - rv2.toNat) (GHop.mk 0 0))).take (rv2.toNat)).drop 0).length) k24) rfl (.tmp rfl .nil) [0] trivial
theorem fn61 (s : List GHop) (sa0 : Option Addr) (sk0 : Nat) (rr : List GHop) (hrr : sc_Clone_Hop s = .ret rr) : FT Tryz.prog 61 #[vl sa0 sk0 s] [S sa0 sk0 s] (fun g : Value => True) (fun g => g) (fun g => [os g rr]) := by
 have hm : sc_Clone_Hop s = .ret s := rfl
 rw [hm] at hrr
 injection hrr with hrr
 subst hrr
 refine FTi Tryz.func61 fun w0 M0 F0 => ?_
 refine KS ?_
 refine Oq Va ?_
 refine KS ?_
 refine Oq Vm ?_
 refine Oq (VeqN un28) ?_
 refine KS ?_
 refine Kc ?_ ?_
 ·intro h
  refine Jnil 0 h ?_
  intro h0
  subst h0
  refine KS ?_
  refine Oq Va ?_
  refine KS ?_
  refine Jl [] (Ent.osNil (α := GHop)) ?_
  exact Kr (.slice none 0 0) rfl (.tmp rfl .nil) [0] trivial
 ·intro _
  refine KS ?_
  refine Oa (As0 sl28) fun c1 => ?_
  refine Jo 0 ?_; rintro a2 k3 rfl
  refine Oq Vm ?_
  refine Fb 16 1 fun hl => ?_
  refine Jl [0] (Ent.crNil (α := GHop) _) ?_
  refine Oa (Ap0 [0, 0] sl28 sl28 sz28) fun c4 => ?_
  refine Oq Va ?_
  refine KS ?_
  exact Kr c4 rfl (.tmp rfl .nil) [0] trivial
theorem fn62 (h : GHop) (cap0P : Value) (cap0 : GSystem) (cap0a1 : Option Addr) (cap0k1 : Nat) (cap0a2 : Option Addr) (cap0k2 : Nat) (cap0a3 : Option Addr) (cap0k3 : Nat) (hh_0 : i64ok h.Node) (hh_1 : i64ok h.Bit) (hcap0_0 : i64ok cap0.Width) (rr : Bool) (hrr : wt_Find_1 h cap0 = .ret rr) : FT Tryz.prog 62 #[.agg #[vi h.Node, vi h.Bit], cap0P] [pv cap0P [vi cap0.Width, vl cap0a1 cap0k1 cap0.Deps, vl cap0a2 cap0k2 cap0.Transfers, vl cap0a3 cap0k3 cap0.Boundary], S cap0a1 cap0k1 cap0.Deps, S cap0a2 cap0k2 cap0.Transfers, S cap0a3 cap0k3 cap0.Boundary] (fun g : Unit => True) (fun g => vb rr) (fun g => []) := by
 refine FTi Tryz.func62 fun w0 M0 F0 => ?_
 unfold i64ok at hh_0 hh_1 hcap0_0
 refine Fb 24 1 fun _ => Fb 88 2 fun _ => Fb 32 3 fun _ => ?_
 have hx0 := lrn rr; have H := hrr; unfold wt_Find_1 at H
 refine KS ?_
 refine Oa (Ab [vi h.Node, vi h.Bit]) fun p4 => Oq Va (KS ?_)
 refine Oq (VldA sh27 1) (Oq (VldA sh37 0) ?_)
 refine pC H hx0 fun hc5 H => ?_
 refine pC H hx0 fun hc6 H => ?_
 refine lvH H fun rv7 hg8 H => ?_
 have hc9 := fn43 cap0 cap0a1 cap0k1 cap0a2 cap0k2 cap0a3 cap0k3 h pre pre pre ((EValid_iff _).1 hc5) pre rv7 hg8
 refine Oc [2, 3, 4] ca43 hc9 ?_
 rintro - -
 refine Oq Vnot (Oq Va (KS ?_))
 have hq := rI H; subst hq
 exact Kr () rfl (.tmp rfl .nil) [] trivial
theorem fn103 (x : List GHop) (xa0 : Option Addr) (xk0 : Nat) (cmpF : FuncId) (cmpC : List Value) (cmpp : GHop → GHop → LR Unit Int) (cmpA : List SP) (hcmpc : callable Tryz.prog cmpF = true) (hcmpF : ∀ x0 x1, i64ok x0.Node → i64ok x0.Bit → i64ok x1.Node → i64ok x1.Bit → ∀ r, (cmpp x0 x1) = .ret r → FT Tryz.prog cmpF ([(.agg #[vi x0.Node, vi x0.Bit] : Value), (.agg #[vi x1.Node, vi x1.Bit] : Value)] ++ cmpC).toArray ([] ++ [pAll cmpA]) (fun _ : Unit => i64ok r) (fun _ => vi r) (fun _ => [])) (rr : GHop) (hrr : sc_MinFunc_Hop x cmpp = .ret rr) : FT Tryz.prog 103 #[vl xa0 xk0 x, .func (.func cmpF) #[] cmpC.toArray] [S xa0 xk0 x, pAll cmpA] (fun g : Unit => i64ok rr.Node ∧ i64ok rr.Bit) (fun g => .agg #[vi rr.Node, vi rr.Bit]) (fun g => []) := by
 refine FTi Tryz.func103 fun w0 M0 F0 => Fb 16 0 fun _ => ?_
 have hx0 := lrn rr; have H := hrr; unfold sc_MinFunc_Hop at H
 refine KS ?_
 refine Oa (Al ze37 [vi 0, vi 0]) fun p2 => KS ?_
 refine Oq Vm (Oq (Vlen sl28) (Oq Vlss (KS ?_)))
 refine pF H hx0 fun h3 H => ?_
 refine KcF h3 ?_
 have g4 := df h3
 refine KS ?_
 refine Oq Vm ?_
 refine pC H hx0 fun hc5 H => ?_
 refine Oq (Vi sl28 1) ?_
 refine JJ_peek_GHop (0 : Int).toNat 1 rfl rng fun hb6 hb7 => ?_
 unfold i64ok at hb6 hb7
 refine Oq (VldA sh37 0) (Oa (Al ze37 [vi 0, vi 0]) fun p8 => Ost (Scl [0] sh37 [vi ((x.getD (0 : Int).toNat default).Node), vi ((x.getD (0 : Int).toNat default).Bit)]) (KS ?_))
 refine Oq Va (KS ?_)
 refine pC H hx0 fun hc11 H => ?_
 refine llH H hx0 fun X12 hX13 hx14 HL15 => ?_
 refine Kl (γ := Nat) (fun r9 => ⟨[(0, vl xa0 xk0 x), (1, .func (.func cmpF) #[] cmpC.toArray), (4, p2), (5, p8), (6, vi 1)], [Cl p8 [vi ((x.getD (0 : Int).toNat default).Node), vi ((x.getD (0 : Int).toNat default).Bit)], Cl p2 [vi 0, vi 0], S xa0 xk0 x, pAll cmpA], sc_MinFunc_Hop_L0 x r9 = X12, r9⟩) 1 [0, 1, 1, 2] hX13 ?_
 rintro r9 hM10
 refine JJ_nx fun _ _ hL hA => ?_; dsimp only at hL hA; subst hL hA
 refine Fb 16 2 fun _ => ?_
 rcases r9 with _ | r9
 ·exact absurd (hM10.symm.trans rfl) hx14
 have H := hM10; (try dsimp only at H); rw [sc_MinFunc_Hop_L0] at H
 refine KS ?_
 refine Oq Vm (Oq Vm (Oq (Vlen sl28) (Oq Vlss (KS ?_))))
 refine pF H hx14 fun h17 H => ?_
 refine KcF h17 ?_
 have g18 := df h17
 refine Ke ?_
 have H := llB H HL15
 refine KS ?_
 refine Oq (VldA sh37 0) (Ost (Scl [1] sh37 [vi ((x.getD (0 : Int).toNat default).Node), vi ((x.getD (0 : Int).toNat default).Bit)]) (KS ?_))
 have hq := rI H; subst hq
 exact Kr () rfl (.cellN 0 rfl sh37 rfl (reads_Cl _ _) rfl .nil) [] en
theorem fn63 (l : List GHop) (la0 : Option Addr) (lk0 : Nat) (nextP : Value) (next : List (GHop × List GHop)) (rr : List GHop) (hrr : wt_first l next = .ret rr) : FT Tryz.prog 63 #[vl la0 lk0 l, nextP] [S la0 lk0 l, MS GHop ev_GHop ok_GHop nextP next] (fun g : Value => True) (fun g => g) (fun g => [sl g rr, MS GHop ev_GHop ok_GHop nextP next]) := by
 refine FTi Tryz.func63 fun w0 M0 F0 => Fb 16 0 fun _ => ?_
 have hx0 := lrn rr; have H := hrr; unfold wt_first at H
 refine KS ?_
 refine Oq Va (KS ?_)
 refine Oq Va (KS ?_)
 refine Jl [] (Ent.osNil (α := GHop)) ?_
 refine llH H hx0 fun X10 hX11 hx12 HL13 => ?_
 refine Kl (γ := Nat × List GHop × List GHop × Option Addr × Nat × Option Addr × Nat) (fun (r2, l_3, out_4, a5, k6, a7, k8) => ⟨[(0, vl a5 k6 l_3), (1, nextP), (5, vl a7 k8 out_4)], [O a7 k8 out_4, S a5 k6 l_3, MS GHop ev_GHop ok_GHop nextP next], wt_first_L0 next r2 l_3 out_4 = X10, r2⟩) (100000, l, [], la0, lk0, none, 0) [0, 0, 1] hX11 ?_
 rintro ⟨r2, l_3, out_4, a5, k6, a7, k8⟩ hM9
 refine JJ_nx fun _ _ hL hA => ?_; dsimp only at hL hA; subst hL hA
 refine Fb 16 0 fun _ => Fb 16 1 fun _ => ?_
 rcases r2 with _ | r2
 ·exact absurd (hM9.symm.trans rfl) hx12
 have H := hM9; (try dsimp only at H); rw [wt_first_L0] at H
 refine KS ?_
 refine Oq Vm (Oq (Vlen sl28) (Oq Vgtr (KS ?_)))
 refine KcH H ?_ ?_
 ·intro h16 H
  have g17 := dt h16
  refine KS ?_
  refine Oq Vm ?_
  refine JJ_ent (Ent.pall [] rfl rfl) ?_
  refine lbH H hx12 fun rv18 hg19 H => ?_
  have hc20 := fn103 l_3 a5 k6 104 [] (fun x0 x1 => .oof) [] ca104 (by intros; rename_i h; cases h) rv18 hg19
  refine Oc [2, 0] ca103 hc20 ?_
  rintro - ⟨he21, he22⟩
  unfold i64ok at he21 he22
  refine Oa (Al ze37 [vi 0, vi 0]) fun p23 => Ost (Scl [0] sh37 [vi rv18.Node, vi rv18.Bit]) (KS ?_)
  refine Oq Vm (Oq (VldA sh37 0) (Oa (AsV sl28 sz28 [.agg #[vi rv18.Node, vi rv18.Bit]] [vi rv18.Node, vi rv18.Bit]) fun c24 => ?_))
  refine Jo 0 ?_; rintro a25 k26 rfl
  refine Jl [0] (Ent.cr1 (α := GHop) (A := []) _ rv18 _ aB1 (fun h => ⟨rfl, aL1, aL1⟩)) ?_
  refine pC H hx12 fun hc27 H => ?_
  refine Oa (ApO [3, 0] sl28 sl28 sz28) fun c28 => ?_
  refine Jo 0 ?_; rintro a29 k30 rfl
  refine Fb 16 0 fun _ => ?_
  have hn32 := la out_4 ([rv18] : List GHop)
  refine Oq Va (KS ?_)
  refine Oq Vm (Oq (VldA sh37 1) (Oa (Amlk 4 mt97 kk_GHop ze28 (key := rv18) preK) fun c33 => ?_))
  refine Jo 0 ?_; rintro a34 k35 rfl
  refine Fb 16 0 fun _ => ?_
  refine Oq Va (KS ?_)
  exact Kg (r2, ((mget next rv18).getD []), (out_4 ++ [rv18]), a34, k35, a29, k30) [1, 0, 4] H
 intro h16 H
 have g37 := df h16
 refine Ke ?_
 have H := llB H HL13
 refine KS ?_
 refine Oq Vm (Oq Va (KS ?_))
 refine Jl [0] (Ent.freeze _ _) ?_
 have hq := rI H; subst hq
 exact Kr (vl a7 k8 out_4) rfl (.tmp rfl .nil) [0, 2] trivial
theorem fn64 (s : GSystem) (sa1 : Option Addr) (sk1 : Nat) (sa2 : Option Addr) (sk2 : Nat) (sa3 : Option Addr) (sk3 : Nat) (h : GHop) (hs_0 : i64ok s.Width) (hh_0 : i64ok h.Node) (hh_1 : i64ok h.Bit) (rr : List GHop) (hrr : wt_before s h = .ret rr) : FT Tryz.prog 64 #[.agg #[vi s.Width, vl sa1 sk1 s.Deps, vl sa2 sk2 s.Transfers, vl sa3 sk3 s.Boundary], .agg #[vi h.Node, vi h.Bit]] [S sa1 sk1 s.Deps, S sa2 sk2 s.Transfers, S sa3 sk3 s.Boundary] (fun g : Value => True) (fun g => g) (fun g => [sl g rr]) := by
 refine FTi Tryz.func64 fun w0 M0 F0 => ?_
 unfold i64ok at hs_0 hh_0 hh_1
 refine Fb 24 0 fun _ => Fb 88 1 fun _ => Fb 32 2 fun _ => ?_
 have hx0 := lrn rr; have H := hrr; unfold wt_before at H
 refine KS ?_
 refine Oa (Ab [vi s.Width, vl sa1 sk1 s.Deps, vl sa2 sk2 s.Transfers, vl sa3 sk3 s.Boundary]) fun p4 => Oa (Ab [vi h.Node, vi h.Bit]) fun p5 => Oq Va (KS ?_)
 refine Oq Va (KS ?_)
 refine Oq (Vfa fo27_1 1) (Oq (VldF sh23 1) (Oq (Vfa fo37_0 0) (Oq (VldF sh3 0) ?_)))
 refine pC H hx0 fun hc6 H => ?_
 refine Oq (Vi sl23 2) ?_
 refine JJ_peekL h.Node.toNat 2 rfl rng fun a7 k8 => ?_
 refine Fb 8 1 fun _ => Fo 1 fun ho10 => ?_
 refine Oq (Vld sh22 0) (Oq (Vlen sl22) (Oq Vm (KS ?_)))
 refine Jl [] (Ent.osNil (α := GHop)) ?_
 refine pC H hx0 fun hc21 H => ?_
 refine llH H hx0 fun X22 hX23 hx24 HL25 => ?_
 refine Kl (γ := Nat × List GHop × Int × Option Addr × Nat) (fun (r11, out_12, v17_13, a14, k15) => ⟨[(2, p4), (3, p5), (5, vl a14 k15 out_12), (15, vl a7 k8 (s.Deps.getD h.Node.toNat [])), (16, vi ((s.Deps.getD h.Node.toNat []).length : Int)), (17, vi v17_13)], [O a14 k15 out_12, S a7 k8 ((s.Deps.getD h.Node.toNat []) : List Int), pv p5 [vi h.Node, vi h.Bit], pv p4 [vi s.Width, vl sa1 sk1 s.Deps, vl sa2 sk2 s.Transfers, vl sa3 sk3 s.Boundary], S sa1 sk1 s.Deps, S sa2 sk2 s.Transfers, S sa3 sk3 s.Boundary], wt_before_L0 s h r11 out_12 v17_13 = X22 ∧ r11 = ((((s.Deps.getD h.Node.toNat []).length : Int) : Int) - v17_13).toNat ∧ (0 : Int) ≤ v17_13 ∧ (v17_13 ≤ ((s.Deps.getD h.Node.toNat []).length : Int) ∨ v17_13 = 0) ∧ (-9223372036854775808 ≤ v17_13 ∧ v17_13 ≤ 9223372036854775807), r11⟩) (((((s.Deps.getD h.Node.toNat []).length : Int) : Int) - 0).toNat, [], 0, none, 0) [0, 1, 2, 3, 4, 5, 6] ⟨hX23, rfl, aM1, (.inr rfl), aM1⟩ ?_
 rintro ⟨r11, out_12, v17_13, a14, k15⟩ ⟨hM16, hr17, hi18, hi19, hk20⟩
 refine JJ_nx fun _ _ hL hA => ?_; dsimp only at hL hA; subst hL hA
 refine Fb 16 0 fun _ => Fb 8 1 fun _ => Fo 1 fun ho28 => Fb 24 4 fun _ => Fb 88 5 fun _ => Fb 32 6 fun _ => KS ?_
 refine Oq Vlss (KS ?_)
 refine Kc ?_ ?_
 ·intro h32
  have g33 := dt h32
  obtain ⟨r34, rfl⟩ := scc (n := r11) aM1
  have H := hM16; (try dsimp only at H); rw [wt_before_L0] at H
  refine KS ?_
  refine pC H hx24 fun hc35 H => ?_
  refine Oq (Vi sl22 1) ?_
  have hb36 := ok1 (i := v17_13.toNat) ho28 rng
  refine Oq (VldI sh3 1) (Oq Va (KS ?_))
  refine Oq (Vfa fo27_2 3) (Oq (VldF sh24 3) (Oq Vm ?_))
  refine pC H hx24 fun hc37 H => ?_
  refine Oq (Vi sl24 5) ?_
  refine JJ_peek_GTransfer (((s.Deps.getD h.Node.toNat []).getD v17_13.toNat 0) : Int).toNat 5 rfl rng fun a38 k39 a40 k41 a42 k43 hb44 hb45 => ?_
  unfold i64ok at hb44 hb45
  refine Fb 8 1 fun _ => Fb 8 2 fun _ => Fb 16 3 fun _ => ?_
  refine Oq (VldA sh65 0) (Oa (Al ze65 [vi 0, .slice none 0 0, vi 0, .slice none 0 0, .slice none 0 0]) fun p49 => Ost (Scl [0] sh65 [vi (((s.Transfers.getD (((s.Deps.getD h.Node.toNat []).getD v17_13.toNat 0) : Int).toNat default).Gen).Width), .slice a38 ((((s.Transfers.getD (((s.Deps.getD h.Node.toNat []).getD v17_13.toNat 0) : Int).toNat default).Gen).Words).length) k39, vi (((s.Transfers.getD (((s.Deps.getD h.Node.toNat []).getD v17_13.toNat 0) : Int).toNat default).Kill).Width), .slice a40 ((((s.Transfers.getD (((s.Deps.getD h.Node.toNat []).getD v17_13.toNat 0) : Int).toNat default).Kill).Words).length) k41, .slice a42 (((s.Transfers.getD (((s.Deps.getD h.Node.toNat []).getD v17_13.toNat 0) : Int).toNat default).Copies).length) k43]) (KS ?_))
  refine Oq (Vfa fo27_0 8) (Oq (VldF sh3 8) (Oq Vm (KS ?_)))
  refine pC H hx24 fun hc60 H => ?_
  refine llH H hx24 fun X61 hX62 hx63 HL64 => ?_
  refine Kl (γ := Nat × List GHop × Int × Option Addr × Nat) (fun (r50, out_51, v28_52, a53, k54) => ⟨[(2, p4), (3, p5), (5, vl a53 k54 out_51), (15, vl a7 k8 (s.Deps.getD h.Node.toNat [])), (16, vi ((s.Deps.getD h.Node.toNat []).length : Int)), (17, vi v17_13), (7, vi ((s.Deps.getD h.Node.toNat []).getD v17_13.toNat 0)), (8, p49), (27, vi s.Width), (28, vi v28_52)], [O a53 k54 out_51, Cl p49 [vi (((s.Transfers.getD (((s.Deps.getD h.Node.toNat []).getD v17_13.toNat 0) : Int).toNat default).Gen).Width), .slice a38 ((((s.Transfers.getD (((s.Deps.getD h.Node.toNat []).getD v17_13.toNat 0) : Int).toNat default).Gen).Words).length) k39, vi (((s.Transfers.getD (((s.Deps.getD h.Node.toNat []).getD v17_13.toNat 0) : Int).toNat default).Kill).Width), .slice a40 ((((s.Transfers.getD (((s.Deps.getD h.Node.toNat []).getD v17_13.toNat 0) : Int).toNat default).Kill).Words).length) k41, .slice a42 (((s.Transfers.getD (((s.Deps.getD h.Node.toNat []).getD v17_13.toNat 0) : Int).toNat default).Copies).length) k43], S a38 k39 (((s.Transfers.getD (((s.Deps.getD h.Node.toNat []).getD v17_13.toNat 0) : Int).toNat default).Gen).Words : List (BitVec 64)), S a40 k41 (((s.Transfers.getD (((s.Deps.getD h.Node.toNat []).getD v17_13.toNat 0) : Int).toNat default).Kill).Words : List (BitVec 64)), S a42 k43 ((s.Transfers.getD (((s.Deps.getD h.Node.toNat []).getD v17_13.toNat 0) : Int).toNat default).Copies : List GCopy), S a7 k8 ((s.Deps.getD h.Node.toNat []) : List Int), pv p5 [vi h.Node, vi h.Bit], pv p4 [vi s.Width, vl sa1 sk1 s.Deps, vl sa2 sk2 s.Transfers, vl sa3 sk3 s.Boundary], S sa1 sk1 s.Deps, S sa2 sk2 s.Transfers, S sa3 sk3 s.Boundary], wt_before_L1 h ((s.Deps.getD h.Node.toNat []).getD v17_13.toNat 0) (((s.Transfers.getD (((s.Deps.getD h.Node.toNat []).getD v17_13.toNat 0) : Int).toNat default).Kill).Width) (((s.Transfers.getD (((s.Deps.getD h.Node.toNat []).getD v17_13.toNat 0) : Int).toNat default).Kill).Words) r50 out_51 v28_52 = X61 ∧ r50 = ((s.Width : Int) - v28_52).toNat ∧ (0 : Int) ≤ v28_52 ∧ (v28_52 ≤ s.Width ∨ v28_52 = 0) ∧ (-9223372036854775808 ≤ v28_52 ∧ v28_52 ≤ 9223372036854775807), r50⟩) (((s.Width : Int) - 0).toNat, out_12, 0, a14, k15) [5, 0, 1, 2, 3, 4, 5, 6, 7, 8, 9] ⟨hX62, rfl, aM1, (.inr rfl), aM1⟩ ?_
  rintro ⟨r50, out_51, v28_52, a53, k54⟩ ⟨hM55, hr56, hi57, hi58, hk59⟩
  refine JJ_nx fun _ _ hL hA => ?_; dsimp only at hL hA; subst hL hA
  refine Fb 16 0 fun _ => Fb 8 2 fun _ => Fb 8 3 fun _ => Fb 16 4 fun _ => Fb 8 5 fun _ => Fo 5 fun ho70 => Fb 24 8 fun _ => Fb 88 9 fun _ => ?_
  refine Fb 32 10 fun _ => KS ?_
  refine Oq Vlss (KS ?_)
  refine Kc ?_ ?_
  ·intro h74
   have g75 := dt h74
   obtain ⟨r76, rfl⟩ := scc (n := r50) aM1
   have H := hM55; (try dsimp only at H); rw [wt_before_L1] at H
   refine KS ?_
   refine Oq Vm (Oq Va (KS ?_))
   refine Oq Vm (Oq (Vfa fo37_1 6) (Oq (VldF sh3 6) (Oq Veql (Oq Vm ?_))))
   refine pT H hx63 fun h77 H => ?_
   refine JsT 35 h77 ?_
   have g78 := eq_of_beq h77
   refine Oq (Vfa fo65_1 1) (Oq (VldG sh42 1 [vi (((s.Transfers.getD (((s.Deps.getD h.Node.toNat []).getD v17_13.toNat 0) : Int).toNat default).Kill).Width), .slice a40 ((((s.Transfers.getD (((s.Deps.getD h.Node.toNat []).getD v17_13.toNat 0) : Int).toNat default).Kill).Words).length) k41]) (Oq Vm ?_))
   refine lvH H fun rv79 hg80 H => ?_
   have hc81 := fn47 (((s.Transfers.getD (((s.Deps.getD h.Node.toNat []).getD v17_13.toNat 0) : Int).toNat default).Kill)) a40 k41 v28_52 pre pre rv79 hg80
   refine Oc [3] ca47 hc81 ?_
   rintro - -
   refine Oq Vnot (Oq Vpt (Oq Vm ?_))
   refine pT H hx63 fun h82 H => ?_
   refine JsT 42 h82 ?_
   have h84 := not_true h82
   refine Osk (Osk (Osk (Osk (Osk (Osk (Osk (Oq Vpt (KS ?_))))))))
   refine Kt (KS ?_)
   refine Oq Vm (Oq Vm (Oq Vm (Oq (Vbd st37 [vi ((s.Deps.getD h.Node.toNat []).getD v17_13.toNat 0), vi v28_52]) (Oa (AsV sl28 sz28 [.agg #[vi ((s.Deps.getD h.Node.toNat []).getD v17_13.toNat 0), vi v28_52]] [vi ((s.Deps.getD h.Node.toNat []).getD v17_13.toNat 0), vi v28_52]) fun c86 => ?_))))
   refine Jo 0 ?_; rintro a87 k88 rfl
   refine Jl [0] (Ent.cr1 (α := GHop) (A := []) _ (GHop.mk ((s.Deps.getD h.Node.toNat []).getD v17_13.toNat 0) v28_52) _ aB1 (fun h => ⟨rfl, aL1, aL1⟩)) ?_
   refine pC H hx63 fun hc89 H => ?_
   refine Oa (ApO [1, 0] sl28 sl28 sz28) fun c90 => ?_
   refine Jo 0 ?_; rintro a91 k92 rfl
   refine Fb 16 0 fun _ => ?_
   have hn94 := la out_51 ([(GHop.mk ((s.Deps.getD h.Node.toNat []).getD v17_13.toNat 0) v28_52)] : List GHop)
   refine Oq Va (KS ?_)
   refine Oq Vadd (Oq Vm (KS ?_))
   refine pC H hx63 fun hc95 H => ?_
   exact Kg (r76, (out_51 ++ [(GHop.mk ((s.Deps.getD h.Node.toNat []).getD v17_13.toNat 0) v28_52)]), (v28_52 + 1), a91, k92) [0, 0, 0, 1, 2, 3, 4, 5, 6, 7, 8] ⟨H, aM1, aM1, aM1, aM1⟩
  intro h74
  have g96 := df h74
  obtain rfl : r50 = 0 := by omega
  have H := hM55; (try dsimp only at H); rw [wt_before_L1] at H
  refine Ke ?_
  have H := llB H HL64
  refine KS ?_
  refine Oq Vadd (Oq Vm (KS ?_))
  refine pC H hx24 fun hc97 H => ?_
  exact Kg (r34, out_51, (v17_13 + 1), a53, k54) [0, 4, 5, 6, 7, 8, 9] ⟨H, aM1, aM1, aM1, aM1⟩
 intro h32
 have g98 := df h32
 obtain rfl : r11 = 0 := by omega
 have H := hM16; (try dsimp only at H); rw [wt_before_L0] at H
 refine Ke ?_
 have H := llB H HL25
 refine KS ?_
 refine Oq Vm (Oq Va (KS ?_))
 refine Jl [0] (Ent.freeze _ _) ?_
 have hq := rI H; subst hq
 exact Kr (vl a14 k15 out_12) rfl (.tmp rfl .nil) [0] trivial
theorem fn25 (s : GSystem) (sa1 : Option Addr) (sk1 : Nat) (sa2 : Option Addr) (sk2 : Nat) (sa3 : Option Addr) (sk3 : Nat) (n : Int) (bit : Int) (hs_0 : i64ok s.Width) (hn_0 : i64ok n) (hbit_0 : i64ok bit) (rr : List GHop × Bool × Int) (hrr : wt_Find s n bit = .ret rr) : FT Tryz.prog 25 #[.agg #[vi s.Width, vl sa1 sk1 s.Deps, vl sa2 sk2 s.Transfers, vl sa3 sk3 s.Boundary], vi n, vi bit] [S sa1 sk1 s.Deps, S sa2 sk2 s.Transfers, S sa3 sk3 s.Boundary] (fun g : Value => i64ok rr.2.2) (fun g => .tuple #[g, vb rr.2.1, vi rr.2.2]) (fun g => [sl g rr.1]) := by
 refine FTi Tryz.func25 fun w0 M0 F0 => ?_
 unfold i64ok at hs_0 hn_0 hbit_0
 refine Fb 24 0 fun _ => Fb 88 1 fun _ => Fb 32 2 fun _ => ?_
 have hx0 := lrn rr; have H := hrr; unfold wt_Find at H
 refine KS ?_
 refine Oa (Ab [vi s.Width, vl sa1 sk1 s.Deps, vl sa2 sk2 s.Transfers, vl sa3 sk3 s.Boundary]) fun p4 => Oq Va (Oq Va (Oq Va (KS ?_)))
 refine Oq (VldA sh27 0) (Oq Vm (Oq Vm ?_))
 refine lvH H fun rv5 hg6 H => ?_
 have hc7 := fn42 s sa1 sk1 sa2 sk2 sa3 sk3 n bit pre pre pre rv5 hg6
 refine Oc [1, 2, 3] ca42 hc7 ?_
 rintro - he8
 unfold i64ok at he8
 refine Oq Va (KS ?_)
 refine Oq Vm (Oq Vneq (KS ?_))
 refine pF H hx0 fun h9 H => ?_
 refine KcF h9 ?_
 have g10 := eq_of_bne_false h9
 refine KS ?_
 refine Oq Vm (Oq Vm (Oq (Vbd st37 [vi n, vi bit]) (Oa (Al ze37 [vi 0, vi 0]) fun p11 => Ost (Scl [0] sh37 [vi n, vi bit]) (KS ?_))))
 refine Oa (Amps (κ := GHop) (α := GHop) (ek := ev_GHop) (ok := ok_GHop)) fun p12 => ?_
 refine Joms (ks := []) 0 ?_; rintro b13 rfl
 refine Oq (VldA sh37 1) ?_
 refine Jl [] (Ent.slNil (α := GHop)) ?_
 refine Ost (Smpi [1, 0] mt97 kk_GHop ([] : List GHop) (key := (GHop.mk n bit)) preK) (Oq Vm (Oq Va (KS ?_)))
 refine Oq (VldA sh37 2) (Oa (AsV sl28 sz28 [.agg #[vi n, vi bit]] [vi n, vi bit]) fun c14 => ?_)
 refine Jo 0 ?_; rintro a15 k16 rfl
 refine Oq Va (KS ?_)
 refine Jl [0] (Ent.cr1 (α := GHop) (A := []) _ (GHop.mk n bit) _ aB1 (fun h => ⟨rfl, aL1, aL1⟩)) ?_
 refine Fb 16 0 fun _ => ?_
 refine llH H hx0 fun X24 hX25 hx26 HL27 => ?_
 refine Kl (γ := Nat × (List (GHop × List GHop)) × List GHop × Option Addr × Nat) (fun (r18, next_19, level_20, a21, k22) => ⟨[(3, p4), (11, (mv b13)), (12, vl a21 k22 level_20)], [O a21 k22 level_20, MS GHop ev_GHop ok_GHop (mv b13) next_19, pv p4 [vi s.Width, vl sa1 sk1 s.Deps, vl sa2 sk2 s.Transfers, vl sa3 sk3 s.Boundary], S sa1 sk1 s.Deps, S sa2 sk2 s.Transfers, S sa3 sk3 s.Boundary], wt_Find_L0 s r18 next_19 level_20 = X24, r18⟩) (100000, (mset ([] : List (GHop × List GHop)) (GHop.mk n bit) ([] : List GHop)), [(GHop.mk n bit)], a15, k16) [0, 0, 2, 3, 4, 5] hX25 ?_
 rintro ⟨r18, next_19, level_20, a21, k22⟩ hM23
 refine JJ_nx fun _ _ hL hA => ?_; dsimp only at hL hA; subst hL hA
 refine Fb 16 0 fun _ => Fb 24 3 fun _ => Fb 88 4 fun _ => Fb 32 5 fun _ => ?_
 rcases r18 with _ | r18
 ·exact absurd (hM23.symm.trans rfl) hx26
 have H := hM23; (try dsimp only at H); rw [wt_Find_L0] at H
 refine KS ?_
 refine Oq Vm ?_
 refine Jl [0] (Ent.freeze _ _) ?_
 refine lbH H hx26 fun rv33 hg34 H => ?_
 have hc35 := fn61 level_20 a21 k22 rv33 hg34
 refine Oc [0] ca61 hc35 ?_
 rintro c32 -
 refine Jo 0 ?_; rintro a36 k37 rfl
 refine Fb 16 0 fun _ => Oq (Vf [p4]) ?_
 refine JJ_ent (Ent.pall [3, 4, 5, 6] rfl rfl) ?_
 refine lbH H hx26 fun rv40 hg41 H => ?_
 have hc42 := fn60 rv33 a36 k37 62 [p4] (fun x => wt_Find_1 x s) [pv p4 [vi s.Width, vl sa1 sk1 s.Deps, vl sa2 sk2 s.Transfers, vl sa3 sk3 s.Boundary], S sa1 sk1 s.Deps, S sa2 sk2 s.Transfers, S sa3 sk3 s.Boundary] ca62 (fun x hx hq0 hq1 r hr => FT_pall (A1 := _) (fn62 x  p4 s sa1 sk1 sa2 sk2 sa3 sk3 hq0 hq1 pre r hr)) rv40 hg41
 refine Oc [1, 0] ca60 hc42 ?_
 rintro c39 -
 refine Jo 0 ?_; rintro a43 k44 rfl
 refine Fb 16 0 fun _ => ?_
 refine Oq Va (KS ?_)
 refine Oq Vm (Oq (Vlen sl28) (Oq Vgtr (KS ?_)))
 refine KcH H ?_ ?_
 ·intro h46 H
  have g47 := dt h46
  refine KS ?_
  refine Oq Vm (Oq Vm ?_)
  refine Jl [0] (Ent.freeze _ _) ?_
  refine lbH H hx26 fun rv49 hg50 H => ?_
  have hc51 := fn63 rv40 a43 k44 (mv b13) next_19 rv49 hg50
  refine Oc [0, 3] ca63 hc51 ?_
  rintro c48 -
  refine Jo 0 ?_; rintro a52 k53 rfl
  refine Fb 16 0 fun _ => ?_
  refine Oq Va (Oq Va (Oq Va (KS ?_)))
  have H := llR H HL27
  have hq := rI H; subst hq
  exact Kr (vl a52 k53 rv49) rfl (.tmp rfl (.tmp rfl (.tmp rfl .nil))) [0] en
 intro h46 H
 have g55 := df h46
 refine KS ?_
 refine Oa (Amps (κ := GHop) (α := GHop) (ek := ev_GHop) (ok := ok_GHop)) fun p56 => ?_
 refine Joms (ks := []) 0 ?_; rintro b57 rfl
 refine Oq Va (KS ?_)
 refine Oq Va (KS ?_)
 refine Oq Vm (Oq (Vlen sl28) (Oq Vm (KS ?_)))
 refine Jl [] (Ent.osNil (α := GHop)) ?_
 refine llH H hx26 fun X69 hX70 hx71 HL72 => ?_
 refine Kl (γ := Nat × (List (GHop × List GHop)) × List GHop × Int × Option Addr × Nat) (fun (r58, found_59, further_60, v52_61, a62, k63) => ⟨[(3, p4), (11, (mv b13)), (14, (mv b57)), (15, vl a62 k63 further_60), (50, vl a21 k22 level_20), (51, vi (level_20.length : Int)), (52, vi v52_61)], [O a62 k63 further_60, MS GHop ev_GHop ok_GHop (mv b57) found_59, pAll [pv p4 [vi s.Width, vl sa1 sk1 s.Deps, vl sa2 sk2 s.Transfers, vl sa3 sk3 s.Boundary], S sa1 sk1 s.Deps, S sa2 sk2 s.Transfers, S sa3 sk3 s.Boundary], S a21 k22 level_20, MS GHop ev_GHop ok_GHop (mv b13) next_19, pv p4 [vi s.Width, vl sa1 sk1 s.Deps, vl sa2 sk2 s.Transfers, vl sa3 sk3 s.Boundary], S sa1 sk1 s.Deps, S sa2 sk2 s.Transfers, S sa3 sk3 s.Boundary], wt_Find_L1 s next_19 level_20 r58 found_59 further_60 v52_61 = X69 ∧ r58 = ((level_20.length : Int) - v52_61).toNat ∧ (0 : Int) ≤ v52_61 ∧ v52_61 ≤ (level_20.length : Int) ∧ (-9223372036854775808 ≤ v52_61 ∧ v52_61 ≤ 9223372036854775807), r58⟩) (((level_20.length : Int) - 0).toNat, [], [], 0, none, 0) [0, 0, 1, 2, 3, 3, 4, 5, 6] ⟨hX70, rfl, aM1, aM1, aM1⟩ ?_
 rintro ⟨r58, found_59, further_60, v52_61, a62, k63⟩ ⟨hM64, hr65, hi66, hi67, hk68⟩
 refine JJ_nx fun _ _ hL hA => ?_; dsimp only at hL hA; subst hL hA
 refine Fb 16 0 fun _ => Fb 16 3 fun _ => Fb 24 6 fun _ => Fb 88 7 fun _ => Fb 32 8 fun _ => KS ?_
 refine Oq Vlss (KS ?_)
 refine Kc ?_ ?_
 ·intro h78
  have g79 := dt h78
  obtain ⟨r80, rfl⟩ := scc (n := r58) aM1
  have H := hM64; (try dsimp only at H); rw [wt_Find_L1] at H
  refine KS ?_
  refine pC H hx71 fun hc81 H => ?_
  refine Oq (Vi sl28 3) ?_
  refine JJ_peek_GHop v52_61.toNat 3 rfl rng fun hb82 hb83 => ?_
  unfold i64ok at hb82 hb83
  refine Oq (VldA sh37 0) (Oa (Al ze37 [vi 0, vi 0]) fun p84 => Ost (Scl [0] sh37 [vi ((level_20.getD v52_61.toNat default).Node), vi ((level_20.getD v52_61.toNat default).Bit)]) (KS ?_))
  refine Oq (VldA sh27 7) (Oq (VldA sh37 0) ?_)
  refine pC H hx71 fun hc88 H => ?_
  refine lbH H hx71 fun rv86 hg87 H => ?_
  have hc89 := fn64 s sa1 sk1 sa2 sk2 sa3 sk3 ((level_20.getD v52_61.toNat default)) pre pre pre rv86 hg87
  refine Oc [8, 9, 10] ca64 hc89 ?_
  rintro c85 -
  refine Jo 0 ?_; rintro a90 k91 rfl
  refine Fb 16 0 fun _ => ?_
  refine Oq (Vlen sl28) (Oq Vm (KS ?_))
  refine llH H hx71 fun X104 hX105 hx106 HL107 => ?_
  refine Kl (γ := Nat × (List (GHop × List GHop)) × List GHop × Int × Option Addr × Nat) (fun (r93, found_94, further_95, v60_96, a97, k98) => ⟨[(3, p4), (11, (mv b13)), (14, (mv b57)), (15, vl a97 k98 further_95), (50, vl a21 k22 level_20), (51, vi (level_20.length : Int)), (52, vi v52_61), (17, p84), (58, vl a90 k91 rv86), (59, vi (rv86.length : Int)), (60, vi v60_96)], [O a97 k98 further_95, S a90 k91 rv86, Cl p84 [vi ((level_20.getD v52_61.toNat default).Node), vi ((level_20.getD v52_61.toNat default).Bit)], MS GHop ev_GHop ok_GHop (mv b57) found_94, pAll [pv p4 [vi s.Width, vl sa1 sk1 s.Deps, vl sa2 sk2 s.Transfers, vl sa3 sk3 s.Boundary], S sa1 sk1 s.Deps, S sa2 sk2 s.Transfers, S sa3 sk3 s.Boundary], S a21 k22 level_20, MS GHop ev_GHop ok_GHop (mv b13) next_19, pv p4 [vi s.Width, vl sa1 sk1 s.Deps, vl sa2 sk2 s.Transfers, vl sa3 sk3 s.Boundary], S sa1 sk1 s.Deps, S sa2 sk2 s.Transfers, S sa3 sk3 s.Boundary], wt_Find_L2 next_19 ((level_20.getD v52_61.toNat default).Node) ((level_20.getD v52_61.toNat default).Bit) rv86 r93 found_94 further_95 v60_96 = X104 ∧ r93 = ((rv86.length : Int) - v60_96).toNat ∧ (0 : Int) ≤ v60_96 ∧ v60_96 ≤ (rv86.length : Int) ∧ (-9223372036854775808 ≤ v60_96 ∧ v60_96 ≤ 9223372036854775807), r93⟩) (((rv86.length : Int) - 0).toNat, found_59, further_60, 0, a62, k63) [3, 0, 1, 2, 2, 3, 4, 4, 5, 6, 7] ⟨hX105, rfl, aM1, aM1, aM1⟩ ?_
  rintro ⟨r93, found_94, further_95, v60_96, a97, k98⟩ ⟨hM99, hr100, hi101, hi102, hk103⟩
  refine JJ_nx fun _ _ hL hA => ?_; dsimp only at hL hA; subst hL hA
  refine Fb 16 0 fun _ => Fb 16 1 fun _ => Fb 16 5 fun _ => Fb 24 8 fun _ => Fb 88 9 fun _ => Fb 32 10 fun _ => KS ?_
  refine Oq Vlss (KS ?_)
  refine Kc ?_ ?_
  ·intro h114
   have g115 := dt h114
   obtain ⟨r116, rfl⟩ := scc (n := r93) aM1
   have H := hM99; (try dsimp only at H); rw [wt_Find_L2] at H
   refine KS ?_
   refine pC H hx106 fun hc117 H => ?_
   refine Oq (Vi sl28 1) ?_
   refine JJ_peek_GHop v60_96.toNat 1 rfl rng fun hb118 hb119 => ?_
   unfold i64ok at hb118 hb119
   refine Oq (VldA sh37 0) (Oa (Al ze37 [vi 0, vi 0]) fun p120 => Ost (Scl [0] sh37 [vi ((rv86.getD v60_96.toNat default).Node), vi ((rv86.getD v60_96.toNat default).Bit)]) (KS ?_))
   refine Oq Vm (Oq (VldA sh37 0) (Oa (Amlk2 8 mt97 kk_GHop ze28 (key := (rv86.getD v60_96.toNat default)) preK) fun c121 => ?_))
   refine Jo 0 ?_; rintro a122 k123 rfl
   refine Fb 16 0 fun _ => ?_
   refine Oq Vm (Oq Vx (Oq Vx (Oq Va (Oq Va (KS ?_)))))
   refine Oq Vm (KS ?_)
   refine pC H hx106 fun hc126 H => ?_
   refine pF H hx106 fun h125 H => ?_
   refine KcF h125 ?_
   refine KS ?_
   refine Oq Vm (Oq (VldA sh37 1) ?_)
   refine pC H hx106 fun hc128 H => ?_
   refine Oq (Vmlk0 6 mt97 kk_GHop ze28 (key := (rv86.getD v60_96.toNat default)) preK hc128) (Oq (VeqN un28) (KS ?_))
   refine Kt (KS ?_)
   refine Oq Vm (Oq (VldA sh37 1) (Oa (AsV sl28 sz28 [.agg #[vi ((rv86.getD v60_96.toNat default).Node), vi ((rv86.getD v60_96.toNat default).Bit)]] [vi ((rv86.getD v60_96.toNat default).Node), vi ((rv86.getD v60_96.toNat default).Bit)]) fun c129 => ?_))
   refine Jo 0 ?_; rintro a130 k131 rfl
   refine Jl [0] (Ent.cr1 (α := GHop) (A := []) _ (rv86.getD v60_96.toNat default) _ aB1 (fun h => ⟨rfl, aL1, aL1⟩)) ?_
   refine pC H hx106 fun hc132 H => ?_
   refine Oa (ApO [4, 0] sl28 sl28 sz28) fun c133 => ?_
   refine Jo 0 ?_; rintro a134 k135 rfl
   refine Fb 16 0 fun _ => ?_
   have hn137 := la further_95 ([(rv86.getD v60_96.toNat default)] : List GHop)
   refine Oq Va (KS ?_)
   refine Oq Vm (Oq (VldA sh37 2) (Oq (VldA sh37 5) (Oa (AsV sl28 sz28 [.agg #[vi ((level_20.getD v52_61.toNat default).Node), vi ((level_20.getD v52_61.toNat default).Bit)]] [vi ((level_20.getD v52_61.toNat default).Node), vi ((level_20.getD v52_61.toNat default).Bit)]) fun c138 => ?_)))
   refine Jo 0 ?_; rintro a139 k140 rfl
   refine Oa (Ame0 [7] mt97 kk_GHop ze28 (key := (rv86.getD v60_96.toNat default)) preK hc128) fun st141 => Oq Vx ?_
   refine Jl [] (Ent.osNil (α := GHop)) ?_
   refine Jl [2] (Ent.cr1 (α := GHop) (A := []) _ (level_20.getD v52_61.toNat default) _ aB1 (fun h => ⟨rfl, aL1, aL1⟩)) ?_
   refine Oa (ApO0 [1, 0] sl28 sl28 sz28) fun c142 => ?_
   refine Jo 0 ?_; rintro a143 k144 rfl
   refine Fb 16 0 fun _ => Oq Vx ?_
   refine Jl [0] (Ent.freeze _ _) ?_
   refine Ost (Ses [1, 0]) (KS ?_)
   refine Oq Vadd (Oq Vm (KS ?_))
   refine pC H hx106 fun hc146 H => ?_
   refine pC H hx106 fun hc147 H => ?_
   exact Kg (r116, (mset ((mset found_94 (rv86.getD v60_96.toNat default) ((mget found_94 (rv86.getD v60_96.toNat default)).getD [])) : List (GHop × List GHop)) (rv86.getD v60_96.toNat default) ([(level_20.getD v52_61.toNat default)] : List GHop)), (further_95 ++ [(rv86.getD v60_96.toNat default)]), (v60_96 + 1), a134, k135) [2, 5, 6, 0, 5, 6, 7, 7, 8, 9, 10] ⟨H, aM1, aM1, aM1, aM1⟩
  intro h114
  have g148 := df h114
  obtain rfl : r93 = 0 := by omega
  have H := hM99; (try dsimp only at H); rw [wt_Find_L2] at H
  refine Ke ?_
  have H := llB H HL107
  dsimp only at H
  refine KS ?_
  refine Oq Vadd (Oq Vm (KS ?_))
  refine pC H hx71 fun hc149 H => ?_
  exact Kg (r80, found_94, further_95, (v52_61 + 1), a97, k98) [0, 2, 2, 3, 4, 4, 5, 6, 7] ⟨H, aM1, aM1, aM1, aM1⟩
 intro h78
 have g150 := df h78
 obtain rfl : r58 = 0 := by omega
 have H := hM64; (try dsimp only at H); rw [wt_Find_L1] at H
 refine Ke ?_
 have H := llB H HL72
 dsimp only at H
 refine KS ?_
 refine Oq Vm (Oq (Vlen sl28) (Oq Veql (KS ?_)))
 refine pF H hx26 fun h151 H => ?_
 refine KcF h151 ?_
 have g152 := ne_of_beq_false h151
 refine KS ?_
 refine Oq Vm ?_
 refine Jl [1] Ent.msfacts ?_
 refine Jf 0 rfl ?_; intro hmf154
 refine Jk [1, 1, 1, 2, 3, 3, 4, 5, 6] ?_
 refine Oa (Args [0] mt97) fun p153 => KS ?_
 have HL164 := H
 refine Kl (γ := (List (GHop × List GHop)) × (List (GHop × List GHop)) × (List (GHop × List GHop))) (fun (dn157, rs158, next_156) => ⟨[(3, p4), (11, (mv b13)), (15, vl a62 k63 further_60), (93, p153)], [MSI GHop ev_GHop ok_GHop (mv b57) p153 found_59 (dn157 : List (GHop × List GHop)) (rs158 : List (GHop × List GHop)), O a62 k63 further_60, pAll [pv p4 [vi s.Width, vl sa1 sk1 s.Deps, vl sa2 sk2 s.Transfers, vl sa3 sk3 s.Boundary], S sa1 sk1 s.Deps, S sa2 sk2 s.Transfers, S sa3 sk3 s.Boundary], MS GHop ev_GHop ok_GHop (mv b13) next_156, pv p4 [vi s.Width, vl sa1 sk1 s.Deps, vl sa2 sk2 s.Transfers, vl sa3 sk3 s.Boundary], S sa1 sk1 s.Deps, S sa2 sk2 s.Transfers, S sa3 sk3 s.Boundary], wt_Find_L3 dn157 next_19 = next_156 ∧ (∀ e ∈ rs158, ok_GHop e.1), rs158.length⟩) ([], found_59, next_19) [0, 0, 0, 2, 2, 3, 4, 5] ⟨rfl, hmf154.2⟩ ?_
 rintro ⟨dn157, rs158, next_156⟩ ⟨hM159, hv160⟩
 refine JJ_nx fun _ _ hL hA => ?_; dsimp only at hL hA; subst hL hA
 refine Fb 16 1 fun _ => Fb 24 5 fun _ => Fb 88 6 fun _ => Fb 32 7 fun _ => KS ?_
 refine Onxs [0] ?_ ?_
 ·intro hz169
  have hz169l := congrArg List.length hz169
  refine Oq Vx (KS ?_)
  refine Kf ?_
  refine Ke ?_
  refine Jl [0] Ent.msdone ?_
  refine Jf 0 rfl ?_; intro hpm
  refine Jl [1] (Ent.msperm hpm) ?_
  refine Jk [0, 1, 1, 2, 2, 3, 4, 5] ?_
  refine Jl [0] Ent.msfacts ?_
  refine Jf 0 rfl ?_; intro hmf
  refine Jk [1, 1, 1, 2, 2, 3, 4, 5] ?_
  have hrn := hM159
  refine Jl [3] Ent.msfacts ?_
  refine Jf 0 rfl ?_; intro hmg
  refine Jk [1, 1, 1, 1, 2, 3, 4, 5] ?_
  refine lvH HL164 fun rv170 hg171 H => ?_
  refine Jl [0] (Ent.msperm (m' := rv170) (mrange_perm (f := wt_Find_L3) (fun _ => rfl) (fun _ _ _ => rfl) hpm hmf.1 hmg.1 hrn hg171)) ?_
  refine KS ?_
  refine Oq Vm (Oq Va (KS ?_))
  exact Kg (r18, rv170, further_60, a62, k63) [2, 0, 2, 3, 4, 5] H
 intro en172 c176 r173 r174 hz175
 have hz175l := nxe hz175
 refine Jo 0 ?_; rintro a177 k178 rfl
 refine Fb 16 0 fun _ => ?_
 have hb180k := hv160 en172 (by rw [hz175]; simp)
 obtain ⟨hb180, hb181⟩ := hb180k
 unfold i64ok at hb180 hb181
 refine Oq Vx (KS ?_)
 refine Kt (KS ?_)
 refine Oa (Aens 1) fun c182 => ?_
 refine Jo 0 ?_; rintro a183 k184 rfl
 refine Oq Vx (Oq Vx (Oa (Al ze37 [vi 0, vi 0]) fun p185 => Ost (Scl [0] sh37 [vi en172.1.Node, vi en172.1.Bit]) (Oq Va (KS ?_))))
 refine Oq Vm (Oq (VldA sh37 0) (Oq Vm (Ost (Smps [6, 1] mt97 kk_GHop en172.2 (key := en172.1) preK) (KS ?_))))
 exact Kg ((dn157 ++ [en172]), (r173 ++ r174), (mset next_156 en172.1 en172.2)) [4, 4, 4, 0, 4, 5, 6, 7] ⟨(by (try show _ = _); rw [wt_Find_L3_app, hM159]; simp only [wt_Find_L3, cs4]), (fun e he => hv160 e (hz175.symm ▸ (List.mem_append.1 he).elim (List.mem_append_left _) (fun h => List.mem_append_right _ (List.mem_cons_of_mem _ h))))⟩ (hm := nxl hz175)
theorem fn119 (c : Int) (hc_0 : 0 ≤ c ∧ c ≤ 255) (rr : Bool) (hrr : r4_letter c = .ret rr) : FT Tryz.prog 119 #[.int .u8 c] [] (fun g : Unit => True) (fun g => vb rr) (fun g => []) := by
 refine FTi Tryz.func119 fun w0 M0 F0 => ?_
 have hx0 := lrn rr; have H := hrr; unfold r4_letter at H
 refine KS ?_
 refine Oq Va (KS ?_)
 refine Oq Vm (Oq Vgeq (Oq Vm ?_))
 refine JsH 5 H ?_ ?_
 ·intro h1 H
  have g2 := dt h1
  refine Oq Vm (Oq Vleq (Oq Vpt (Oq Vm ?_)))
  refine pT H hx0 fun h3 H => ?_
  refine JsT 9 h3 ?_
  have g4 := dt h3
  refine Osk (Osk (Osk (Osk (Osk (Osk (Oq Vpt (Oq Vm (Osk (Osk ?_)))))))))
  refine Oq Vpt (Oq Va (KS ?_))
  have hq := rI H; subst hq
  exact Kr () rfl (.tmp rfl .nil) [] trivial
 intro h1 H
 have g5 := df h1
 refine Osk (Osk (Oq Vpf (Oq Vm (Oq Vm (Oq Vgeq (Oq Vm ?_))))))
 refine pF H hx0 fun h6 H => ?_
 refine JsF 12 h6 ?_
 have g7 := df h6
 refine Osk (Osk (Oq Vpf (Oq Vpf (Oq Vm (Oq Vm (Oq Veql (Oq Vpf (Oq Va (KS ?_)))))))))
 have hq := rI H; subst hq
 exact Kr () rfl (.tmp rfl .nil) [] trivial
theorem fn120 (c : Int) (hc_0 : 0 ≤ c ∧ c ≤ 255) (rr : Bool) (hrr : r4_digit c = .ret rr) : FT Tryz.prog 120 #[.int .u8 c] [] (fun g : Unit => True) (fun g => vb rr) (fun g => []) := by
 refine FTi Tryz.func120 fun w0 M0 F0 => ?_
 have hx0 := lrn rr; have H := hrr; unfold r4_digit at H
 refine KS ?_
 refine Oq Va (KS ?_)
 refine Oq Vm (Oq Vgeq (Oq Vm ?_))
 refine JsH 5 H ?_ ?_
 ·intro h1 H
  have g2 := dt h1
  refine Oq Vm (Oq Vleq (Oq Vpt (Oq Va (KS ?_))))
  have hq := rI H; subst hq
  exact Kr () rfl (.tmp rfl .nil) [] trivial
 intro h1 H
 have g3 := df h1
 refine Osk (Osk (Oq Vpf (Oq Va (KS ?_))))
 have hq := rI H; subst hq
 exact Kr () rfl (.tmp rfl .nil) [] trivial
theorem fn84 (text : Str) (htext_0 : text.b.length ≤ 140737488355328) (rr : List GToken × Int × Int × Int) (hrr : r4_Scan text = .ret rr) : FT Tryz.prog 84 #[.string (bs text)] [] (fun g : Value => i64ok rr.2.1 ∧ i64ok rr.2.2.1 ∧ i64ok rr.2.2.2) (fun g => .tuple #[g, vi rr.2.1, vi rr.2.2.1, vi rr.2.2.2]) (fun g => [sl g rr.1]) := by
 refine FTi Tryz.func84 fun w0 M0 F0 => ?_
 have hx0 := lrn rr; have H := hrr; unfold r4_Scan at H
 refine KS ?_
 refine Oq Va (Oq Va (Oq Va (Oq Va (KS ?_))))
 refine Oq Vm (Oq (VlS un9 (l := text)) (Oq Vgtr (KS ?_)))
 refine pF H hx0 fun h1 H => ?_
 refine KcF h1 ?_
 have g2 := df h1
 refine KS ?_
 refine Oq Va (KS ?_)
 refine Oq Va (Oq Va (Oq Va (KS ?_)))
 refine Oq Va (KS ?_)
 refine Jl [] (Ent.osNil (α := GToken)) ?_
 refine llH H hx0 fun X13 hX14 hx15 HL16 => ?_
 refine Kl (γ := Nat × List GToken × Int × Bool × Int × Option Addr × Nat) (fun (r3, out_4, col_5, open__6, i_7, a8, k9) => ⟨[(0, .string (bs text)), (6, vl a8 k9 out_4), (7, vi 1), (8, vi col_5), (9, vb open__6), (10, vi i_7)], [O a8 k9 out_4], r4_Scan_L0 text r3 out_4 col_5 open__6 i_7 = X13 ∧ (-9223372036854775808 ≤ col_5 ∧ col_5 ≤ 9223372036854775807) ∧ (-9223372036854775808 ≤ i_7 ∧ i_7 ≤ 9223372036854775807), r3⟩) (100000, [], 1, false, 0, none, 0) [0] ⟨hX14, aM1, aM1⟩ ?_
 rintro ⟨r3, out_4, col_5, open__6, i_7, a8, k9⟩ ⟨hM10, hk11, hk12⟩
 refine JJ_nx fun _ _ hL hA => ?_; dsimp only at hL hA; subst hL hA
 refine Fb 40 0 fun _ => ?_
 rcases r3 with _ | r3
 ·exact absurd (hM10.symm.trans rfl) hx15
 have H := hM10; (try dsimp only at H); rw [r4_Scan_L0] at H
 refine KS ?_
 refine Oq Vm (Oq Vm (Oq (VlS un9 (l := text)) (Oq Vlss (KS ?_))))
 refine KcH H ?_ ?_
 ·intro h18 H
  have g19 := dt h18
  refine KS ?_
  refine Oq Vm (Oq Vm ?_)
  refine pC H hx15 fun hc20 H => ?_
  refine Oq (Vix un9 (l := text)) ?_
  have hb21 := u8b (text.b.getD i_7.toNat 0)
  refine Oq Va (KS ?_)
  refine Oq Vm (Oq Veql (Oq Vm ?_))
  refine JsH 28 H ?_ ?_
  ·intro h22 H
   have g23 := eq_of_beq h22
   refine Osk (Osk (Oq Vpt (Oq Va (KS ?_))))
   refine Kt (KS ?_)
   refine Oq Vm ?_
   refine pC H hx15 fun hc24 H => ?_
   refine Oq Vadd (Oq Vm ?_)
   refine pC H hx15 fun hc25 H => ?_
   refine Oq Vadd (Oq Va (Oq Va (KS ?_)))
   exact Kg (r3, out_4, (col_5 + 1), open__6, (i_7 + 1), a8, k9) [0] ⟨H, aM1, aM1⟩
  intro h22 H
  have g26 := ne_of_beq_false h22
  refine Oq Vm (Oq Veql (Oq Vpf (Oq Va (KS ?_))))
  refine pF H hx15 fun h27 H => ?_
  refine KcF h27 ?_
  have g28 := ne_of_beq_false h27
  refine KS ?_
  refine Oq Vm (Oq Veql (Oq Vm ?_))
  refine pF H hx15 fun h29 H => ?_
  refine JsF 39 h29 ?_
  have g30 := ne_of_beq_false h29
  refine Oq Vm (Oq Veql (Oq Vpf (Oq Vm ?_)))
  refine JsH 43 H ?_ ?_
  ·intro h31 H
   have g32 := eq_of_beq h31
   refine Osk (Osk (Oq Vpt (Oq Va (KS ?_))))
   refine Kt (KS ?_)
   refine Oq Vm (KS ?_)
   refine pT H hx15 fun h33 H => ?_
   refine KcT h33 ?_
   refine KS ?_
   refine Oq Vm (Oq Vm (Oq Vm (Oq (Vbd st129 [vi 3, .string (bs (Str.mk [])), vi 1, vi col_5]) (Oa (AsV sl116 sz116 [.agg #[vi 3, .string (bs (Str.mk [])), vi 1, vi col_5]] [vi 3, .string (bs (Str.mk [])), vi 1, vi col_5]) fun c35 => ?_))))
   refine Jo 0 ?_; rintro a36 k37 rfl
   refine Jl [0] (Ent.cr1 (α := GToken) (A := []) _ (GToken.mk 3 (Str.mk []) 1 col_5) _ aB1 (fun h => ⟨rfl, aL1, aS1, aL1, aL1⟩)) ?_
   refine pC H hx15 fun hc38 H => ?_
   refine Oa (ApO [1, 0] sl116 sl116 sz116) fun c39 => ?_
   refine Jo 0 ?_; rintro a40 k41 rfl
   refine Fb 40 0 fun _ => ?_
   have hn43 := la out_4 ([(GToken.mk 3 (Str.mk []) 1 col_5)] : List GToken)
   refine Oq Va (KS ?_)
   refine Oq Va (KS ?_)
   refine llH H hx15 fun X46 hX47 hx48 HL49 => ?_
   refine Kl (γ := Nat) (fun r44 => ⟨[(0, .string (bs text)), (7, vi 1), (8, vi col_5), (10, vi i_7), (11, .int .u8 ((text.b.getD i_7.toNat 0).toNat : Int)), (6, vl a40 k41 (out_4 ++ [(GToken.mk 3 (Str.mk []) 1 col_5)])), (9, vb false)], [O a40 k41 ((out_4 ++ [(GToken.mk 3 (Str.mk []) 1 col_5)]) : List GToken)], r4_Scan_L1 ((text.b.getD i_7.toNat 0).toNat : Int) r44 = X46, r44⟩) 1 [0] hX47 ?_
   rintro r44 hM45
   refine JJ_nx fun _ _ hL hA => ?_; dsimp only at hL hA; subst hL hA
   refine Fb 40 0 fun _ => ?_
   rcases r44 with _ | r44
   ·exact absurd (hM45.symm.trans rfl) hx48
   have H := hM45; (try dsimp only at H); rw [r4_Scan_L1] at H
   refine KS ?_
   refine Oq Vm (Oq Veql (Oq Vm ?_))
   refine pF H hx48 fun h51 H => ?_
   refine JsF 56 h51 ?_
   have g52 := ne_of_beq_false h51
   refine Osk (Osk (Osk (Osk (Oq Vpf (Oq Vm (Osk (Osk (Osk (Osk ?_)))))))))
   refine Oq Vpf (KS ?_)
   refine Kf ?_
   refine Ke ?_
   have H := llB H HL49
   refine KS ?_
   refine Oq Vm (Oq Veql (KS ?_))
   refine Kc ?_ ?_
   ·intro h53
    have g54 := eq_of_beq h53
    refine KS ?_
    refine Oq Vm ?_
    refine pC H hx15 fun hc55 H => ?_
    refine Oq Vadd (Oq Vm ?_)
    refine pC H hx15 fun hc56 H => ?_
    refine Oq Vadd (Oq Va (Oq Va (KS ?_)))
    refine Oq Vm (Oq Vm (Oq (VlS un9 (l := text)) (Oq Vlss (Oq Vm ?_))))
    refine pT H hx15 fun h57 H => ?_
    refine JsT 82 h57 ?_
    have g58 := dt h57
    refine Oq Vm (Oq Vm ?_)
    refine pC H hx15 fun hc59 H => ?_
    refine Oq (Vix un9 (l := text)) ?_
    have hb60 := u8b (text.b.getD ((i_7 + 1) : Int).toNat 0)
    refine Oq Veql (Oq Vpt (Oq Vm ?_))
    refine pF H hx15 fun h61 H => ?_
    refine JsF 88 h61 ?_
    have g62 := ne_of_beq_false h61
    refine Osk (Osk (Oq Vpf (KS ?_)))
    refine Kf (KS ?_)
    exact Kg (r3, (out_4 ++ [(GToken.mk 3 (Str.mk []) 1 col_5)]), (col_5 + 1), false, (i_7 + 1), a40, k41) [0] ⟨H, aM1, aM1⟩
   intro h53
   exact absurd h53 (by first | (simp [h31]; done) | (simp only [bne, h31]; decide) | (simp only [bne, h31, Bool.not_true, Bool.not_false]; decide) | (exfalso; omega) | (intro hq; simp only [bne, hq, Bool.not_false, Bool.not_true, reduceCtorEq] at h31))
  intro h31 H
  have g63 := ne_of_beq_false h31
  refine Oq Vm (Oq Veql (Oq Vpf (Oq Va (KS ?_))))
  refine pF H hx15 fun h64 H => ?_
  refine KcF h64 ?_
  have g65 := ne_of_beq_false h64
  refine KS ?_
  refine Oq Vm (Oq Veql (Oq Va (KS ?_)))
  refine KcH H ?_ ?_
  ·intro h66 H
   have g67 := eq_of_beq h66
   refine KS ?_
   refine Oq Vm (Oq Vm (Oq Vm (Oq (Vbd st129 [vi 2, .string (bs (Str.mk [61])), vi 1, vi col_5]) (Oa (AsV sl116 sz116 [.agg #[vi 2, .string (bs (Str.mk [61])), vi 1, vi col_5]] [vi 2, .string (bs (Str.mk [61])), vi 1, vi col_5]) fun c68 => ?_))))
   refine Jo 0 ?_; rintro a69 k70 rfl
   refine Jl [0] (Ent.cr1 (α := GToken) (A := []) _ (GToken.mk 2 (Str.mk [61]) 1 col_5) _ aB1 (fun h => ⟨rfl, aL1, aS1, aL1, aL1⟩)) ?_
   refine pC H hx15 fun hc71 H => ?_
   refine Oa (ApO [1, 0] sl116 sl116 sz116) fun c72 => ?_
   refine Jo 0 ?_; rintro a73 k74 rfl
   refine Fb 40 0 fun _ => ?_
   have hn76 := la out_4 ([(GToken.mk 2 (Str.mk [61]) 1 col_5)] : List GToken)
   refine Oq Va (KS ?_)
   refine Oq Vm ?_
   refine pC H hx15 fun hc77 H => ?_
   refine Oq Vadd (Oq Vm ?_)
   refine pC H hx15 fun hc78 H => ?_
   refine Oq Vadd (Oq Va (Oq Va (Oq Va (KS ?_))))
   exact Kg (r3, (out_4 ++ [(GToken.mk 2 (Str.mk [61]) 1 col_5)]), (col_5 + 1), true, (i_7 + 1), a73, k74) [0] ⟨H, aM1, aM1⟩
  intro h66 H
  have g79 := ne_of_beq_false h66
  refine KS ?_
  refine Oq Vm ?_
  refine lbH H hx15 fun rv80 hg81 H => ?_
  have hc82 := fn119 (((text.b.getD i_7.toNat 0).toNat : Int)) pre rv80 hg81
  refine Oc [] ca119 hc82 ?_
  rintro - -
  refine Oq Vm ?_
  refine pT H hx15 fun h83 H => ?_
  refine JsT 112 h83 ?_
  refine Osk (Osk (Oq Vpt (Oq Va (KS ?_))))
  refine Kt (KS ?_)
  refine Oq Va (KS ?_)
  refine llH H hx15 fun X89 hX90 hx91 HL92 => ?_
  refine Kl (γ := Nat × Int) (fun (r85, n_86) => ⟨[(0, .string (bs text)), (6, vl a8 k9 out_4), (7, vi 1), (8, vi col_5), (10, vi i_7), (11, .int .u8 ((text.b.getD i_7.toNat 0).toNat : Int)), (12, vi n_86)], [O a8 k9 out_4], r4_Scan_L2 text i_7 r85 n_86 = X89 ∧ (-9223372036854775808 ≤ n_86 ∧ n_86 ≤ 9223372036854775807), r85⟩) (100000, 0) [0] ⟨hX90, aM1⟩ ?_
  rintro ⟨r85, n_86⟩ ⟨hM87, hk88⟩
  refine JJ_nx fun _ _ hL hA => ?_; dsimp only at hL hA; subst hL hA
  refine Fb 40 0 fun _ => ?_
  rcases r85 with _ | r85
  ·exact absurd (hM87.symm.trans rfl) hx91
  have H := hM87; (try dsimp only at H); rw [r4_Scan_L2] at H
  refine KS ?_
  refine Oq Vm (Oq Vm ?_)
  refine pC H hx91 fun hc94 H => ?_
  refine Oq Vadd (Oq Vm (Oq (VlS un9 (l := text)) (Oq Vlss (Oq Vm ?_))))
  refine JsH 122 H ?_ ?_
  ·intro h95 H
   have g96 := dt h95
   refine Oq Vm (Oq Vm (Oq Vm (Oq Vadd ?_)))
   refine pC H hx91 fun hc97 H => ?_
   refine pC H hx91 fun hc98 H => ?_
   refine Oq (Vix un9 (l := text)) ?_
   have hb99 := u8b (text.b.getD ((i_7 + n_86) : Int).toNat 0)
   refine lbH H hx91 fun rv100 hg101 H => ?_
   have hc102 := fn119 (((text.b.getD ((i_7 + n_86) : Int).toNat 0).toNat : Int)) pre rv100 hg101
   refine Oc [] ca119 hc102 ?_
   rintro - -
   refine Oq Vm ?_
   refine JsH 129 H ?_ ?_
   ·intro h103 H
    refine Osk (Osk (Osk (Osk (Osk (Osk (Oq Vpt (Oq Vpt (KS ?_))))))))
    refine Kt (KS ?_)
    refine Oq Vm ?_
    refine pC H hx91 fun hc105 H => ?_
    refine Oq Vadd (Oq Va (KS ?_))
    exact Kg (r85, (n_86 + 1)) [0] ⟨H, aM1⟩
   intro h103 H
   refine Oq Vm (Oq Vm (Oq Vm (Oq Vadd (Oq (Vix un9 (l := text)) ?_))))
   have hb107 := u8b (text.b.getD ((i_7 + n_86) : Int).toNat 0)
   refine pC H hx91 fun hc110 H => ?_
   refine pC H hx91 fun hc111 H => ?_
   refine lbH H hx91 fun rv108 hg109 H => ?_
   have hc112 := fn120 (((text.b.getD ((i_7 + n_86) : Int).toNat 0).toNat : Int)) pre rv108 hg109
   refine Oc [] ca120 hc112 ?_
   rintro - -
   refine Oq Vpf (Oq Vpt (KS ?_))
   refine pF H hx91 fun h113 H => ?_
   refine KcF h113 ?_
   refine Ke ?_
   have H := llB H HL92
   refine KS ?_
   refine Oq Vm ?_
   refine lbH H hx15 fun rv115 hg116 H => ?_
   have hc117 := fn120 (((text.b.getD i_7.toNat 0).toNat : Int)) pre rv115 hg116
   refine Oc [] ca120 hc117 ?_
   rintro - -
   refine KS ?_
   refine pF H hx15 fun h118 H => ?_
   refine KcF h118 ?_
   refine KS ?_
   refine Oq Vm (Oq Vgtr (KS ?_))
   refine pF H hx15 fun h120 H => ?_
   refine KcF h120 ?_
   have g121 := df h120
   refine KS ?_
   refine Oq Vm (Oq Vm (Oq Vm (Oq Vm (Oq Vm (Oq Vadd ?_)))))
   refine pC H hx15 fun hc122 H => ?_
   refine pC H hx15 fun hc123 H => ?_
   refine Oq (VslS un9 (l := text)) ?_
   have hb124 := sub_len3 text i_7.toNat ((i_7 + n_86) : Int).toNat
   refine Oq Vm (Oq Vm (Oq (Vbd st129 [vi 1, .string (bs (text.sub i_7.toNat ((i_7 + n_86) : Int).toNat)), vi 1, vi col_5]) (Oa (AsV sl116 sz116 [.agg #[vi 1, .string (bs (text.sub i_7.toNat ((i_7 + n_86) : Int).toNat)), vi 1, vi col_5]] [vi 1, .string (bs (text.sub i_7.toNat ((i_7 + n_86) : Int).toNat)), vi 1, vi col_5]) fun c125 => ?_)))
   refine Jo 0 ?_; rintro a126 k127 rfl
   refine Jl [0] (Ent.cr1 (α := GToken) (A := []) _ (GToken.mk 1 (text.sub i_7.toNat ((i_7 + n_86) : Int).toNat) 1 col_5) _ aB1 (fun h => ⟨rfl, aL1, aS1, aL1, aL1⟩)) ?_
   refine pC H hx15 fun hc128 H => ?_
   refine Oa (ApO [1, 0] sl116 sl116 sz116) fun c129 => ?_
   refine Jo 0 ?_; rintro a130 k131 rfl
   refine Fb 40 0 fun _ => ?_
   have hn133 := la out_4 ([(GToken.mk 1 (text.sub i_7.toNat ((i_7 + n_86) : Int).toNat) 1 col_5)] : List GToken)
   refine Oq Va (KS ?_)
   refine Oq Vm (Oq Vm (Oq Vadd (Oq Vm (Oq Vm ?_))))
   refine pC H hx15 fun hc134 H => ?_
   refine pC H hx15 fun hc135 H => ?_
   refine Oq Vadd (Oq Va (Oq Va (Oq Va (KS ?_))))
   exact Kg (r3, (out_4 ++ [(GToken.mk 1 (text.sub i_7.toNat ((i_7 + n_86) : Int).toNat) 1 col_5)]), (col_5 + n_86), true, (i_7 + n_86), a130, k131) [0] ⟨H, aM1, aM1⟩
  intro h95 H
  have g136 := df h95
  refine Osk (Osk (Osk (Osk (Osk (Osk (Osk (Osk (Osk (Osk ?_)))))))))
  refine Osk (Osk (Osk (Osk (Oq Vpf (KS ?_)))))
  refine Kf ?_
  refine Ke ?_
  have H := llB H HL92
  refine KS ?_
  refine Oq Vm ?_
  refine lbH H hx15 fun rv137 hg138 H => ?_
  have hc139 := fn120 (((text.b.getD i_7.toNat 0).toNat : Int)) pre rv137 hg138
  refine Oc [] ca120 hc139 ?_
  rintro - -
  refine KS ?_
  refine pF H hx15 fun h140 H => ?_
  refine KcF h140 ?_
  refine KS ?_
  refine Oq Vm (Oq Vgtr (KS ?_))
  refine pF H hx15 fun h142 H => ?_
  refine KcF h142 ?_
  have g143 := df h142
  refine KS ?_
  refine Oq Vm (Oq Vm (Oq Vm (Oq Vm (Oq Vm (Oq Vadd ?_)))))
  refine pC H hx15 fun hc144 H => ?_
  refine pC H hx15 fun hc145 H => ?_
  refine Oq (VslS un9 (l := text)) ?_
  have hb146 := sub_len3 text i_7.toNat ((i_7 + n_86) : Int).toNat
  refine Oq Vm (Oq Vm (Oq (Vbd st129 [vi 1, .string (bs (text.sub i_7.toNat ((i_7 + n_86) : Int).toNat)), vi 1, vi col_5]) (Oa (AsV sl116 sz116 [.agg #[vi 1, .string (bs (text.sub i_7.toNat ((i_7 + n_86) : Int).toNat)), vi 1, vi col_5]] [vi 1, .string (bs (text.sub i_7.toNat ((i_7 + n_86) : Int).toNat)), vi 1, vi col_5]) fun c147 => ?_)))
  refine Jo 0 ?_; rintro a148 k149 rfl
  refine Jl [0] (Ent.cr1 (α := GToken) (A := []) _ (GToken.mk 1 (text.sub i_7.toNat ((i_7 + n_86) : Int).toNat) 1 col_5) _ aB1 (fun h => ⟨rfl, aL1, aS1, aL1, aL1⟩)) ?_
  refine pC H hx15 fun hc150 H => ?_
  refine Oa (ApO [1, 0] sl116 sl116 sz116) fun c151 => ?_
  refine Jo 0 ?_; rintro a152 k153 rfl
  refine Fb 40 0 fun _ => ?_
  have hn155 := la out_4 ([(GToken.mk 1 (text.sub i_7.toNat ((i_7 + n_86) : Int).toNat) 1 col_5)] : List GToken)
  refine Oq Va (KS ?_)
  refine Oq Vm (Oq Vm (Oq Vadd (Oq Vm (Oq Vm ?_))))
  refine pC H hx15 fun hc156 H => ?_
  refine pC H hx15 fun hc157 H => ?_
  refine Oq Vadd (Oq Va (Oq Va (Oq Va (KS ?_))))
  exact Kg (r3, (out_4 ++ [(GToken.mk 1 (text.sub i_7.toNat ((i_7 + n_86) : Int).toNat) 1 col_5)]), (col_5 + n_86), true, (i_7 + n_86), a152, k153) [0] ⟨H, aM1, aM1⟩
 intro h18 H
 have g158 := df h18
 refine Ke ?_
 have H := llB H HL16
 dsimp only at H
 refine KS ?_
 refine Oq Vm (KS ?_)
 refine pT H hx0 fun h159 H => ?_
 refine KcT h159 ?_
 refine KS ?_
 refine Oq Vm (Oq Vm (Oq Vm (Oq (Vbd st129 [vi 3, .string (bs (Str.mk [])), vi 1, vi col_5]) (Oa (AsV sl116 sz116 [.agg #[vi 3, .string (bs (Str.mk [])), vi 1, vi col_5]] [vi 3, .string (bs (Str.mk [])), vi 1, vi col_5]) fun c161 => ?_))))
 refine Jo 0 ?_; rintro a162 k163 rfl
 refine Jl [0] (Ent.cr1 (α := GToken) (A := []) _ (GToken.mk 3 (Str.mk []) 1 col_5) _ aB1 (fun h => ⟨rfl, aL1, aS1, aL1, aL1⟩)) ?_
 refine pC H hx0 fun hc164 H => ?_
 refine Oa (ApO [1, 0] sl116 sl116 sz116) fun c165 => ?_
 refine Jo 0 ?_; rintro a166 k167 rfl
 refine Fb 40 0 fun _ => ?_
 have hn169 := la out_4 ([(GToken.mk 3 (Str.mk []) 1 col_5)] : List GToken)
 refine Oq Va (KS ?_)
 refine Oq Vm (Oq Va (Oq Va (Oq Va (Oq Va (KS ?_)))))
 refine Jl [0] (Ent.freeze _ _) ?_
 have hq := rI H; subst hq
 exact Kr (vl a166 k167 (out_4 ++ [(GToken.mk 3 (Str.mk []) 1 col_5)])) rfl (.tmp rfl (.tmp rfl (.tmp rfl (.tmp rfl .nil)))) [0] en
theorem fn85 (pP : Value) (p : Gparser) (pa0 : Option Addr) (pk0 : Nat) (word : Str) (hp_1 : i64ok p.at_) (hp_2 : i64ok p.Err) (hword_0 : word.b.length ≤ 140737488355328) (rr : Bool) (hrr : pz_is p word = .ret rr) : FT Tryz.prog 85 #[pP, .string (bs word)] [Cl pP [vl pa0 pk0 p.l, vi p.at_, vi p.Err], S pa0 pk0 p.l] (fun g : Unit => True) (fun g => vb rr) (fun g => [Cl pP [vl pa0 pk0 p.l, vi p.at_, vi p.Err]]) := by
 refine FTi Tryz.func85 fun w0 M0 F0 => ?_
 unfold i64ok at hp_1 hp_2
 refine Fb 40 1 fun _ => ?_
 have hx0 := lrn rr; have H := hrr; unfold pz_is at H
 refine KS ?_
 refine Oq Va (KS ?_)
 refine Jp 0 fun hp2 => ?_
 refine pT H hx0 fun h3 H => ?_
 have g4 := eq_of_beq h3
 refine pS H ?_ ?_
 ·intro h5 H
  have g6 := dt h5
  refine pC H hx0 fun hc7 H => ?_
  refine JJ_peek_GToken p.at_.toNat 2 rfl rng fun hb8 hb9 hb10 hb11 => ?_
  unfold i64ok at hb8 hb10 hb11
  refine Kq [0, 1, 3, 7, 15, 31, 63, 127, 255, 511, 63, 1087, 3135, 7231, 15423, 32767, 65535, 131071, 262143, 524287, 1048575, 2097151, 262143, 4456447, 12845055, 29622271, 67108863, 134217727, 268435455, 536870911, 1073741823, 2147483647, 4294967295, 8589934591, 17179869183, 34359738367, 4294967295, 73014444031, 210453397503, 485331304447, 1099511627775, 2199023255551, 4398046511103, 4294967295, 17592186044415, 35184372088831, 70368744177663] fmix ?_
  refine Qv [] Vm (Qv [1] (Vn 0) (Qv [1] (Vfa fo121_2 0) (Qv [2] (VldF sh33 0) (Qb h3 [] Veql (Qv [] Vm (Qv [] Vm (Qv [1] (Vn 0) (Qv [1] (Vfa fo121_1 0) (Qv [2] (VldF sh3 0) ?_)))))))))
  refine Qv [] Vm (Qv [1] (Vn 0) (Qv [1] (Vfa fo121_0 0) (Qv [2] (VldF sh116 0) (Qv [] (Vlen sl116) (Qb h5 [] Vlss (Qv [] Vpt (Qv [] Vm (Qv [] Vm (Qv [1] (Vn 0) ?_)))))))))
  refine Qv [1] (Vfa fo121_0 0) (Qv [2] (VldF sh116 0) (Qv [] Vm (Qv [1] (Vn 0) (Qv [1] (Vfa fo121_1 0) (Qv [2] (VldF sh3 0) (Qv [3] (Vi sl116 0) (Qv [0] (Vfa fo129_0 0) (Qv [0] (VldF sh3 0) (Qv [] Veql ?_)))))))))
  refine Qv [] Vpt ?_
  refine pC H hx0 fun hc13 H => ?_
  refine pT H hx0 fun h12 H => ?_
  have g14 := eq_of_beq h12
  refine Qb h12 [] Vm (Qv [] Vm (Qv [1] (Vn 0) (Qv [1] (Vfa fo121_0 0) (Qv [2] (VldF sh116 0) (Qv [] Vm (Qv [1] (Vn 0) (Qv [1] (Vfa fo121_1 0) (Qv [2] (VldF sh3 0) (Qv [3] (Vi sl116 0) ?_)))))))))
  refine Qv [0] (Vfa fo129_1 0) (Qv [0] (VldF sh9 0) (Qv [] Vm (Qv [] (VeqS (l := (p.l.getD p.at_.toNat default).Text) (m := word)) (Qv [] Vpt (Qv [] Va ?_)))))
  refine Qn ⟨by kernel_rfl, ?_⟩
  refine pC H hx0 fun hc15 H => ?_
  have hq := rI H; subst hq
  exact Kr () rfl (.tmp rfl .nil) [2] trivial
 intro h5 H
 have g16 := df h5
 refine Kq [0, 1, 3, 7, 15, 31, 63, 127, 255, 511, 63, 1087, 3135, 7231, 15423, 32767, 65535, 131071, 262143, 524287, 1048575, 2097151, 262143, 4456447, 12845055, 29622271, 67108863, 134217727, 268435455, 536870911, 1073741823, 2147483647, 4294967295, 8589934591, 17179869183, 34359738367, 4294967295, 73014444031, 210453397503, 485331304447, 1099511627775, 2199023255551, 4398046511103, 4294967295, 17592186044415, 35184372088831, 70368744177663] fmix ?_
 refine Qv [] Vm (Qv [0] (Vn 0) (Qv [0] (Vfa fo121_2 0) (Qv [1] (VldF sh33 0) (Qb h3 [] Veql (Qv [] Vm (Qv [] Vm (Qv [0] (Vn 0) (Qv [0] (Vfa fo121_1 0) (Qv [1] (VldF sh3 0) ?_)))))))))
 refine Qv [] Vm (Qv [0] (Vn 0) (Qv [0] (Vfa fo121_0 0) (Qv [1] (VldF sh116 0) (Qv [] (Vlen sl116) (Qb h5 [] Vlss (Qv [] Vpt (Qv [] Vm (Qs (Qs ?_)))))))))
 refine Qs (Qs (Qs (Qs (Qs (Qs (Qs (Qs (Qs (Qs ?_)))))))))
 refine Qv [] Vpf (Qv [] Vm (Qs (Qs (Qs (Qs (Qs (Qs (Qs (Qs ?_)))))))))
 refine Qs (Qs (Qs (Qs (Qs (Qv [] Vpf (Qv [] Va ?_))))))
 refine Qn ⟨by kernel_rfl, ?_⟩
 have hq := rI H; subst hq
 exact Kr () rfl (.tmp rfl .nil) [1] trivial
theorem fn121 (pP : Value) (p : Gparser) (pa0 : Option Addr) (pk0 : Nat) (w : Str) (hp_1 : i64ok p.at_) (hp_2 : i64ok p.Err) (hw_0 : w.b.length ≤ 140737488355328) (rr : Gparser) (hrr : pz_word p w = .ret rr) : FT Tryz.prog 121 #[pP, .string (bs w)] [Cl pP [vl pa0 pk0 p.l, vi p.at_, vi p.Err], S pa0 pk0 p.l] (fun g : Unit => i64ok rr.at_ ∧ i64ok rr.Err) (fun g => .tuple #[]) (fun g => [Cl pP [vl pa0 pk0 p.l, vi rr.at_, vi rr.Err]]) := by
 refine FTi Tryz.func121 fun w0 M0 F0 => ?_
 unfold i64ok at hp_1 hp_2
 refine Fb 40 1 fun _ => ?_
 have hx0 := lrn rr; have H := hrr; unfold pz_word at H
 refine KS ?_
 refine Oq Vm (Oq Vm ?_)
 refine lbH H hx0 fun rv2 hg3 H => ?_
 have hc4 := fn85 pP p pa0 pk0 w pre pre pre rv2 hg3
 refine Oc [0, 0] ca85 hc4 ?_
 rintro - -
 refine Oq Vnot (KS ?_)
 refine pF H hx0 fun h5 H => ?_
 refine KcF h5 ?_
 have h7 := not_false h5
 refine KS ?_
 refine Oq Vm (Oq (Vn 0) (Oq (Vfa fo121_1 0) (Oq (VldF sh3 0) ?_)))
 refine pC H hx0 fun hc9 H => ?_
 refine Oq Vadd (Oq (Vn 0) (Oq (Vfa fo121_1 0) (Ost (SclF [0] sh3 [vl pa0 pk0 p.l, vi (p.at_ + 1), vi p.Err]) (KS ?_))))
 have hq := rI H; subst hq
 exact Kz () rfl .nil [0] en
theorem fn182  (rr : List Str) (hrr : r4_Keywords = .ret rr) : FT Tryz.prog 182 #[] [] (fun g : Value => True) (fun g => g) (fun g => [sl g rr]) := by
 refine FTi Tryz.func182 fun w0 M0 F0 => ?_
 have hx0 := lrn rr; have H := hrr; unfold r4_Keywords at H
 refine KS ?_
 refine Oq Va (KS ?_)
 refine Oa (AsV sl138 sz138 [.string (bs (Str.mk [102, 117, 110, 99])), .string (bs (Str.mk [98, 108, 111, 99, 107])), .string (bs (Str.mk [101, 110, 100])), .string (bs (Str.mk [117, 115, 101])), .string (bs (Str.mk [99, 97, 108, 108])), .string (bs (Str.mk [115, 111, 117, 114, 99, 101])), .string (bs (Str.mk [115, 105, 110, 107])), .string (bs (Str.mk [115, 97, 110, 105, 116, 105, 122, 101])), .string (bs (Str.mk [103, 111, 116, 111])), .string (bs (Str.mk [98, 114, 97, 110, 99, 104])), .string (bs (Str.mk [114, 101, 116, 117, 114, 110]))] [.string (bs (Str.mk [102, 117, 110, 99])), .string (bs (Str.mk [98, 108, 111, 99, 107])), .string (bs (Str.mk [101, 110, 100])), .string (bs (Str.mk [117, 115, 101])), .string (bs (Str.mk [99, 97, 108, 108])), .string (bs (Str.mk [115, 111, 117, 114, 99, 101])), .string (bs (Str.mk [115, 105, 110, 107])), .string (bs (Str.mk [115, 97, 110, 105, 116, 105, 122, 101])), .string (bs (Str.mk [103, 111, 116, 111])), .string (bs (Str.mk [98, 114, 97, 110, 99, 104])), .string (bs (Str.mk [114, 101, 116, 117, 114, 110]))]) fun c1 => ?_
 refine Jo 0 ?_; rintro a2 k3 rfl
 refine Oq Va (KS ?_)
 refine Jl [0] (Ent.crOs (α := Str) (A := []) _ ([(Str.mk [102, 117, 110, 99]), (Str.mk [98, 108, 111, 99, 107]), (Str.mk [101, 110, 100]), (Str.mk [117, 115, 101]), (Str.mk [99, 97, 108, 108]), (Str.mk [115, 111, 117, 114, 99, 101]), (Str.mk [115, 105, 110, 107]), (Str.mk [115, 97, 110, 105, 116, 105, 122, 101]), (Str.mk [103, 111, 116, 111]), (Str.mk [98, 114, 97, 110, 99, 104]), (Str.mk [114, 101, 116, 117, 114, 110])] : List Str) _ aB1 (fun h => ⟨[.string (bs (Str.mk [102, 117, 110, 99]))], [.string (bs (Str.mk [98, 108, 111, 99, 107])), .string (bs (Str.mk [101, 110, 100])), .string (bs (Str.mk [117, 115, 101])), .string (bs (Str.mk [99, 97, 108, 108])), .string (bs (Str.mk [115, 111, 117, 114, 99, 101])), .string (bs (Str.mk [115, 105, 110, 107])), .string (bs (Str.mk [115, 97, 110, 105, 116, 105, 122, 101])), .string (bs (Str.mk [103, 111, 116, 111])), .string (bs (Str.mk [98, 114, 97, 110, 99, 104])), .string (bs (Str.mk [114, 101, 116, 117, 114, 110]))], rfl, (fun _ => ⟨rfl, by first | omega | (simp; done) | (dsimp only; omega) | exact lit_bl rfl⟩) h, ⟨[.string (bs (Str.mk [98, 108, 111, 99, 107]))], [.string (bs (Str.mk [101, 110, 100])), .string (bs (Str.mk [117, 115, 101])), .string (bs (Str.mk [99, 97, 108, 108])), .string (bs (Str.mk [115, 111, 117, 114, 99, 101])), .string (bs (Str.mk [115, 105, 110, 107])), .string (bs (Str.mk [115, 97, 110, 105, 116, 105, 122, 101])), .string (bs (Str.mk [103, 111, 116, 111])), .string (bs (Str.mk [98, 114, 97, 110, 99, 104])), .string (bs (Str.mk [114, 101, 116, 117, 114, 110]))], rfl, (fun _ => ⟨rfl, by first | omega | (simp; done) | (dsimp only; omega) | exact lit_bl rfl⟩) h, ⟨[.string (bs (Str.mk [101, 110, 100]))], [.string (bs (Str.mk [117, 115, 101])), .string (bs (Str.mk [99, 97, 108, 108])), .string (bs (Str.mk [115, 111, 117, 114, 99, 101])), .string (bs (Str.mk [115, 105, 110, 107])), .string (bs (Str.mk [115, 97, 110, 105, 116, 105, 122, 101])), .string (bs (Str.mk [103, 111, 116, 111])), .string (bs (Str.mk [98, 114, 97, 110, 99, 104])), .string (bs (Str.mk [114, 101, 116, 117, 114, 110]))], rfl, (fun _ => ⟨rfl, by first | omega | (simp; done) | (dsimp only; omega) | exact lit_bl rfl⟩) h, ⟨[.string (bs (Str.mk [117, 115, 101]))], [.string (bs (Str.mk [99, 97, 108, 108])), .string (bs (Str.mk [115, 111, 117, 114, 99, 101])), .string (bs (Str.mk [115, 105, 110, 107])), .string (bs (Str.mk [115, 97, 110, 105, 116, 105, 122, 101])), .string (bs (Str.mk [103, 111, 116, 111])), .string (bs (Str.mk [98, 114, 97, 110, 99, 104])), .string (bs (Str.mk [114, 101, 116, 117, 114, 110]))], rfl, (fun _ => ⟨rfl, by first | omega | (simp; done) | (dsimp only; omega) | exact lit_bl rfl⟩) h, ⟨[.string (bs (Str.mk [99, 97, 108, 108]))], [.string (bs (Str.mk [115, 111, 117, 114, 99, 101])), .string (bs (Str.mk [115, 105, 110, 107])), .string (bs (Str.mk [115, 97, 110, 105, 116, 105, 122, 101])), .string (bs (Str.mk [103, 111, 116, 111])), .string (bs (Str.mk [98, 114, 97, 110, 99, 104])), .string (bs (Str.mk [114, 101, 116, 117, 114, 110]))], rfl, (fun _ => ⟨rfl, by first | omega | (simp; done) | (dsimp only; omega) | exact lit_bl rfl⟩) h, ⟨[.string (bs (Str.mk [115, 111, 117, 114, 99, 101]))], [.string (bs (Str.mk [115, 105, 110, 107])), .string (bs (Str.mk [115, 97, 110, 105, 116, 105, 122, 101])), .string (bs (Str.mk [103, 111, 116, 111])), .string (bs (Str.mk [98, 114, 97, 110, 99, 104])), .string (bs (Str.mk [114, 101, 116, 117, 114, 110]))], rfl, (fun _ => ⟨rfl, by first | omega | (simp; done) | (dsimp only; omega) | exact lit_bl rfl⟩) h, ⟨[.string (bs (Str.mk [115, 105, 110, 107]))], [.string (bs (Str.mk [115, 97, 110, 105, 116, 105, 122, 101])), .string (bs (Str.mk [103, 111, 116, 111])), .string (bs (Str.mk [98, 114, 97, 110, 99, 104])), .string (bs (Str.mk [114, 101, 116, 117, 114, 110]))], rfl, (fun _ => ⟨rfl, by first | omega | (simp; done) | (dsimp only; omega) | exact lit_bl rfl⟩) h, ⟨[.string (bs (Str.mk [115, 97, 110, 105, 116, 105, 122, 101]))], [.string (bs (Str.mk [103, 111, 116, 111])), .string (bs (Str.mk [98, 114, 97, 110, 99, 104])), .string (bs (Str.mk [114, 101, 116, 117, 114, 110]))], rfl, (fun _ => ⟨rfl, by first | omega | (simp; done) | (dsimp only; omega) | exact lit_bl rfl⟩) h, ⟨[.string (bs (Str.mk [103, 111, 116, 111]))], [.string (bs (Str.mk [98, 114, 97, 110, 99, 104])), .string (bs (Str.mk [114, 101, 116, 117, 114, 110]))], rfl, (fun _ => ⟨rfl, by first | omega | (simp; done) | (dsimp only; omega) | exact lit_bl rfl⟩) h, ⟨[.string (bs (Str.mk [98, 114, 97, 110, 99, 104]))], [.string (bs (Str.mk [114, 101, 116, 117, 114, 110]))], rfl, (fun _ => ⟨rfl, by first | omega | (simp; done) | (dsimp only; omega) | exact lit_bl rfl⟩) h, ⟨[.string (bs (Str.mk [114, 101, 116, 117, 114, 110]))], [], rfl, (fun _ => ⟨rfl, by first | omega | (simp; done) | (dsimp only; omega) | exact lit_bl rfl⟩) h, rfl⟩⟩⟩⟩⟩⟩⟩⟩⟩⟩⟩)) ?_
 refine Jl [0] (Ent.freeze _ _) ?_
 have hq := rI H; subst hq
 exact Kr (.slice a2 11 k3) rfl (.tmp rfl .nil) [0] trivial
theorem fn176 (s : Str) (hs_0 : s.b.length ≤ 140737488355328) (rr : Bool) (hrr : r4_IsName s = .ret rr) : FT Tryz.prog 176 #[.string (bs s)] [] (fun g : Unit => True) (fun g => vb rr) (fun g => []) := by
 refine FTi Tryz.func176 fun w0 M0 F0 => ?_
 have hx0 := lrn rr; have H := hrr; unfold r4_IsName at H
 refine KS ?_
 refine Oq Va (KS ?_)
 refine Oq Vm (Oq (VlS un9 (l := s)) (Oq Veql (Oq Vm ?_)))
 refine JsH 9 H ?_ ?_
 ·intro h1 H
  have g2 := eq_of_beq h1
  refine Osk (Osk (Osk (Oq Vpt (Oq Vm (Osk (Osk (Osk (Osk (Oq Vpt ?_)))))))))
  refine Oq Vm (Osk (Osk (Osk (Oq Vpt (KS ?_)))))
  refine Kt (KS ?_)
  refine Oq Va (KS ?_)
  have hq := rI H; subst hq
  exact Kr () rfl (.tmp rfl .nil) [] trivial
 intro h1 H
 have g3 := ne_of_beq_false h1
 refine Oq Vm (Oq (VlS un9 (l := s)) (Oq Vgtr (Oq Vpf (Oq Vm ?_))))
 refine pF H hx0 fun h4 H => ?_
 refine JsF 14 h4 ?_
 have g5 := df h4
 refine Oq Vm ?_
 refine pC H hx0 fun hc6 H => ?_
 refine Oq (Vix un9 (l := s)) ?_
 have hb7 := u8b (s.b.getD (0 : Int).toNat 0)
 refine lbH H hx0 fun rv8 hg9 H => ?_
 have hc10 := fn119 (((s.b.getD (0 : Int).toNat 0).toNat : Int)) pre rv8 hg9
 refine Oc [] ca119 hc10 ?_
 rintro - -
 refine Oq Vnot (Oq Vpf (Oq Vm ?_))
 refine pF H hx0 fun h11 H => ?_
 refine JsF 20 h11 ?_
 have h13 := not_false h11
 refine Oq Vm (Oq (Vix un9 (l := s)) ?_)
 have hb15 := u8b (s.b.getD (0 : Int).toNat 0)
 refine Oq Veql (Oq Vpf (KS ?_))
 refine pC H hx0 fun hc17 H => ?_
 refine pF H hx0 fun h16 H => ?_
 refine KcF h16 ?_
 have g18 := ne_of_beq_false h16
 refine KS ?_
 refine Oq Va (KS ?_)
 refine llH H hx0 fun X26 hX27 hx28 HL29 => ?_
 refine Kl (γ := Nat × Int) (fun (r19, i_20) => ⟨[(0, .string (bs s)), (3, vi i_20)], [], r4_IsName_L0 s r19 i_20 = X26 ∧ r19 = ((s.b.length : Int) - i_20).toNat ∧ (0 : Int) ≤ i_20 ∧ i_20 ≤ (s.b.length : Int) ∧ (-9223372036854775808 ≤ i_20 ∧ i_20 ≤ 9223372036854775807), r19⟩) (((s.b.length : Int) - 0).toNat, 0) [] ⟨hX27, rfl, aM1, aM1, aM1⟩ ?_
 rintro ⟨r19, i_20⟩ ⟨hM21, hr22, hi23, hi24, hk25⟩
 refine JJ_nx fun _ _ hL hA => ?_; dsimp only at hL hA; subst hL hA
 refine KS ?_
 refine Oq Vm (Oq Vm (Oq (VlS un9 (l := s)) (Oq Vlss (KS ?_))))
 refine Kc ?_ ?_
 ·intro h30
  have g31 := dt h30
  obtain ⟨r32, rfl⟩ := scc (n := r19) aM1
  have H := hM21; (try dsimp only at H); rw [r4_IsName_L0] at H
  refine KS ?_
  refine Oq Vm (Oq Vm ?_)
  refine pC H hx28 fun hc33 H => ?_
  refine Oq (Vix un9 (l := s)) ?_
  have hb34 := u8b (s.b.getD i_20.toNat 0)
  refine lbH H hx28 fun rv35 hg36 H => ?_
  have hc37 := fn119 (((s.b.getD i_20.toNat 0).toNat : Int)) pre rv35 hg36
  refine Oc [] ca119 hc37 ?_
  rintro - -
  refine Oq Vnot (Oq Vm ?_)
  refine pF H hx28 fun h38 H => ?_
  refine JsF 36 h38 ?_
  have h40 := not_false h38
  refine Osk (Osk (Osk (Osk (Osk (Oq Vpf (KS ?_))))))
  refine Kf (KS ?_)
  refine Oq Vm (Oq Vadd (Oq Va (KS ?_)))
  refine pC H hx28 fun hc42 H => ?_
  exact Kg (r32, (i_20 + 1)) [] ⟨H, aM1, aM1, aM1, aM1⟩
 intro h30
 have g43 := df h30
 obtain rfl : r19 = 0 := by omega
 have H := hM21; (try dsimp only at H); rw [r4_IsName_L0] at H
 refine Ke ?_
 have H := llB H HL29
 refine KS ?_
 refine lbH H hx0 fun rv45 hg46 H => ?_
 have hc47 := fn182  rv45 hg46
 refine Oc [] ca182 hc47 ?_
 rintro c44 -
 refine Jo 0 ?_; rintro a48 k49 rfl
 refine Fb 16 0 fun _ => ?_
 refine FoS 0 fun ho51 => ?_
 refine Oq Va (KS ?_)
 refine Oq Va (KS ?_)
 refine llH H hx0 fun X59 hX60 hx61 HL62 => ?_
 refine Kl (γ := Nat × Int) (fun (r52, i_53) => ⟨[(0, .string (bs s)), (4, vl a48 k49 rv45), (5, vi i_53)], [S a48 k49 rv45], r4_IsName_L1 s rv45 r52 i_53 = X59 ∧ r52 = ((rv45.length : Int) - i_53).toNat ∧ (0 : Int) ≤ i_53 ∧ i_53 ≤ (rv45.length : Int) ∧ (-9223372036854775808 ≤ i_53 ∧ i_53 ≤ 9223372036854775807), r52⟩) (((rv45.length : Int) - 0).toNat, 0) [0] ⟨hX60, rfl, aM1, aM1, aM1⟩ ?_
 rintro ⟨r52, i_53⟩ ⟨hM54, hr55, hi56, hi57, hk58⟩
 refine JJ_nx fun _ _ hL hA => ?_; dsimp only at hL hA; subst hL hA
 refine Fb 16 0 fun _ => ?_
 refine FoS 0 fun ho64 => ?_
 refine KS ?_
 refine Oq Vm (Oq Vm (Oq (Vlen sl138) (Oq Vlss (KS ?_))))
 refine Kc ?_ ?_
 ·intro h65
  have g66 := dt h65
  obtain ⟨r67, rfl⟩ := scc (n := r52) aM1
  have H := hM54; (try dsimp only at H); rw [r4_IsName_L1] at H
  refine KS ?_
  refine Oq Vm (Oq Vm ?_)
  refine pC H hx61 fun hc68 H => ?_
  refine Oq (Vi sl138 0) ?_
  have hb69 := okS (i := i_53.toNat) ho64 rng
  refine Oq (VldS sh9 0) (Oq Vm (Oq (VeqS (l := (rv45.getD i_53.toNat default)) (m := s)) (KS ?_)))
  refine KcH H ?_ ?_
  ·intro h70 H
   have g71 := eq_of_beq h70
   refine KS ?_
   refine Oq Va (KS ?_)
   have H := llR H HL62
   have hq := rI H; subst hq
   exact Kr () rfl (.tmp rfl .nil) [] trivial
  intro h70 H
  have g72 := ne_of_beq_false h70
  refine KS ?_
  refine Oq Vm (Oq Vadd (Oq Va (KS ?_)))
  refine pC H hx61 fun hc73 H => ?_
  exact Kg (r67, (i_53 + 1)) [0] ⟨H, aM1, aM1, aM1, aM1⟩
 intro h65
 have g74 := df h65
 obtain rfl : r52 = 0 := by omega
 have H := hM54; (try dsimp only at H); rw [r4_IsName_L1] at H
 refine Ke ?_
 have H := llB H HL62
 refine KS ?_
 refine Oq Va (KS ?_)
 have hq := rI H; subst hq
 exact Kr () rfl (.tmp rfl .nil) [] trivial
theorem fn154 (pP : Value) (p : Gparser) (pa0 : Option Addr) (pk0 : Nat) (hp_1 : i64ok p.at_) (hp_2 : i64ok p.Err) (rr : Bool) (hrr : pz_isName p = .ret rr) : FT Tryz.prog 154 #[pP] [Cl pP [vl pa0 pk0 p.l, vi p.at_, vi p.Err], S pa0 pk0 p.l] (fun g : Unit => True) (fun g => vb rr) (fun g => [Cl pP [vl pa0 pk0 p.l, vi p.at_, vi p.Err]]) := by
 refine FTi Tryz.func154 fun w0 M0 F0 => ?_
 unfold i64ok at hp_1 hp_2
 refine Fb 40 1 fun _ => ?_
 have hx0 := lrn rr; have H := hrr; unfold pz_isName at H
 refine KS ?_
 refine Oq Va (KS ?_)
 refine Jp 0 fun hp2 => ?_
 refine pT H hx0 fun h3 H => ?_
 have g4 := eq_of_beq h3
 refine pT H hx0 fun h5 H => ?_
 have g6 := dt h5
 refine pC H hx0 fun hc7 H => ?_
 refine JJ_peek_GToken p.at_.toNat 2 rfl rng fun hb8 hb9 hb10 hb11 => ?_
 unfold i64ok at hb8 hb10 hb11
 refine JK_drawK [0, 1, 3, 7, 15, 31, 63, 127, 255, 511, 63, 1087, 3135, 7231, 15423, 32767, 65535, 131071, 262143, 524287, 1048575, 2097151, 262143, 4456447, 12845055, 29622271, 67108863, 134217727, 268435455, 536870911, 1073741823, 2147483647, 4294967295, 8589934591, 17179869183, 34359738367, 4294967295, 73014444031, 210453397503, 485331304447, 1099511627775, 2199023255551, 4398046511103, 8796093022207, 17592186044415, 35184372088831] fmix ?_
 refine Dv [] Vm (Dv [1] (Vn 0) (Dv [1] (Vfa fo121_2 0) (Dv [2] (VldF sh33 0) (Db h3 [] Veql (Dv [] Vm (Dv [] Vm (Dv [1] (Vn 0) (Dv [1] (Vfa fo121_1 0) (Dv [2] (VldF sh3 0) ?_)))))))))
 refine Dv [] Vm (Dv [1] (Vn 0) (Dv [1] (Vfa fo121_0 0) (Dv [2] (VldF sh116 0) (Dv [] (Vlen sl116) (Db h5 [] Vlss (Dv [] Vpt (Dv [] Vm (Dv [] Vm (Dv [1] (Vn 0) ?_)))))))))
 refine Dv [1] (Vfa fo121_0 0) (Dv [2] (VldF sh116 0) (Dv [] Vm (Dv [1] (Vn 0) (Dv [1] (Vfa fo121_1 0) (Dv [2] (VldF sh3 0) (Dv [3] (Vi sl116 0) (Dv [0] (Vfa fo129_0 0) (Dv [0] (VldF sh3 0) (Dv [] Veql ?_)))))))))
 refine Dv [] Vpt ?_
 refine pC H hx0 fun hc13 H => ?_
 refine pS H ?_ ?_
 ·intro h12 H
  have g14 := eq_of_beq h12
  refine Db h12 [] Vm (Dv [] Vm (Dv [1] (Vn 0) (Dv [1] (Vfa fo121_0 0) (Dv [2] (VldF sh116 0) (Dv [] Vm (Dv [1] (Vn 0) (Dv [1] (Vfa fo121_1 0) (Dv [2] (VldF sh3 0) (Dv [3] (Vi sl116 0) ?_)))))))))
  refine Dv [0] (Vfa fo129_1 0) (Dv [0] (VldF sh9 0) ?_)
  refine pC H hx0 fun hc17 H => ?_
  refine lbH H hx0 fun rv15 hg16 H => ?_
  refine Dx [] [] [0] (fun G => vb rv15) [fun G => SP.fact (True)] (fun G => xC [] ca176 (fn176 ((p.l.getD p.at_.toNat default).Text) pre rv15 hg16)) (Dv [] Vpt (Dv [] Va ?_))
  refine Dn ⟨by kernel_rfl, fun G => ?_⟩
  refine Jw2 [(2, vb rv15)] [0, 1, 2, 3] [SP.fact (True)] ?_
  refine Jk [0, 2, 2] ?_
  have hq := rI H; subst hq
  exact Kr () rfl (.tmp rfl .nil) [1] trivial
 intro h12 H
 have g18 := ne_of_beq_false h12
 refine Db h12 [] Vm (Ds (Ds (Ds (Ds (Ds (Ds (Ds (Ds (Ds ?_)))))))))
 refine Ds (Ds (Ds (Dv [] Vpf (Dv [] Va ?_))))
 refine Dn ⟨by kernel_rfl, fun G => ?_⟩
 refine Jw2 [(2, vb false)] [0, 1, 2, 3] [] ?_
 refine Jk [0, 2, 2] ?_
 have hq := rI H; subst hq
 exact Kr () rfl (.tmp rfl .nil) [1] trivial
theorem fn122 (pP : Value) (p : Gparser) (pa0 : Option Addr) (pk0 : Nat) (hp_1 : i64ok p.at_) (hp_2 : i64ok p.Err) (rr : Str × Gparser) (hrr : pz_name p = .ret rr) : FT Tryz.prog 122 #[pP] [Cl pP [vl pa0 pk0 p.l, vi p.at_, vi p.Err], S pa0 pk0 p.l] (fun g : Unit => rr.1.b.length ≤ 140737488355328 ∧ i64ok rr.2.at_ ∧ i64ok rr.2.Err) (fun g => .string (bs rr.1)) (fun g => [Cl pP [vl pa0 pk0 p.l, vi rr.2.at_, vi rr.2.Err]]) := by
 refine FTi Tryz.func122 fun w0 M0 F0 => ?_
 unfold i64ok at hp_1 hp_2
 refine Fb 40 1 fun _ => ?_
 have hx0 := lrn rr; have H := hrr; unfold pz_name at H
 refine KS ?_
 refine Oq Va (KS ?_)
 refine Oq Vm ?_
 refine lbH H hx0 fun rv2 hg3 H => ?_
 have hc4 := fn154 pP p pa0 pk0 pre pre rv2 hg3
 refine Oc [0, 0] ca154 hc4 ?_
 rintro - -
 refine Oq Vnot (KS ?_)
 refine pF H hx0 fun h5 H => ?_
 refine KcF h5 ?_
 have h7 := not_false h5
 refine KS ?_
 refine Oq Vm (Oq (Vn 0) (Oq (Vfa fo121_1 0) (Oq (VldF sh3 0) ?_)))
 refine pC H hx0 fun hc9 H => ?_
 refine Oq Vadd (Oq (Vn 0) (Oq (Vfa fo121_1 0) (Ost (SclF [0] sh3 [vl pa0 pk0 p.l, vi (p.at_ + 1), vi p.Err]) (KS ?_))))
 refine Jp 0 fun hp10 => ?_
 refine pC H hx0 fun hc11 H => ?_
 refine pC H hx0 fun hc12 H => ?_
 refine JJ_peek_GToken (((p.at_ + 1) - 1) : Int).toNat 2 rfl rng fun hb13 hb14 hb15 hb16 => ?_
 unfold i64ok at hb13 hb15 hb16
 refine Kq [0, 1, 3, 7, 0, 16, 48, 112, 240, 511, 1023, 2047, 4095] fmix ?_
 refine Qv [] Vm (Qv [1] (Vn 0) (Qv [1] (Vfa fo121_0 0) (Qv [2] (VldF sh116 0) (Qv [] Vm (Qv [1] (Vn 0) (Qv [1] (Vfa fo121_1 0) (Qv [2] (VldF sh3 0) (Qv [] Vsub (Qv [3] (Vi sl116 0) ?_)))))))))
 refine Qv [0] (Vfa fo129_1 0) (Qv [0] (VldF sh9 0) (Qv [] Va ?_))
 refine Qn ⟨by kernel_rfl, ?_⟩
 refine pC H hx0 fun hc17 H => ?_
 have hq := rI H; subst hq
 exact Kr () rfl (.tmp rfl .nil) [2] en
theorem fn155 (pP : Value) (p : Gparser) (pa0 : Option Addr) (pk0 : Nat) (k : Int) (hp_1 : i64ok p.at_) (hp_2 : i64ok p.Err) (hk_0 : i64ok k) (rr : Bool) (hrr : pz_isKind p k = .ret rr) : FT Tryz.prog 155 #[pP, vi k] [Cl pP [vl pa0 pk0 p.l, vi p.at_, vi p.Err], S pa0 pk0 p.l] (fun g : Unit => True) (fun g => vb rr) (fun g => [Cl pP [vl pa0 pk0 p.l, vi p.at_, vi p.Err]]) := by
 refine FTi Tryz.func155 fun w0 M0 F0 => ?_
 unfold i64ok at hp_1 hp_2 hk_0
 refine Fb 40 1 fun _ => ?_
 have hx0 := lrn rr; have H := hrr; unfold pz_isKind at H
 refine KS ?_
 refine Oq Va (KS ?_)
 refine Jp 0 fun hp2 => ?_
 refine pT H hx0 fun h3 H => ?_
 have g4 := eq_of_beq h3
 refine pT H hx0 fun h5 H => ?_
 have g6 := dt h5
 refine pC H hx0 fun hc7 H => ?_
 refine JJ_peek_GToken p.at_.toNat 2 rfl rng fun hb8 hb9 hb10 hb11 => ?_
 unfold i64ok at hb8 hb10 hb11
 refine Kq [0, 1, 3, 7, 15, 31, 63, 127, 255, 511, 63, 1087, 3135, 7231, 15423, 32767, 65535, 131071, 262143, 524287, 1048575, 2097151, 262143, 4456447, 12845055, 29622271, 67108863, 134217727, 268435455, 262143, 1073741823, 2147483647, 4294967295] fmix ?_
 refine Qv [] Vm (Qv [1] (Vn 0) (Qv [1] (Vfa fo121_2 0) (Qv [2] (VldF sh33 0) (Qb h3 [] Veql (Qv [] Vm (Qv [] Vm (Qv [1] (Vn 0) (Qv [1] (Vfa fo121_1 0) (Qv [2] (VldF sh3 0) ?_)))))))))
 refine Qv [] Vm (Qv [1] (Vn 0) (Qv [1] (Vfa fo121_0 0) (Qv [2] (VldF sh116 0) (Qv [] (Vlen sl116) (Qb h5 [] Vlss (Qv [] Vpt (Qv [] Vm (Qv [] Vm (Qv [1] (Vn 0) ?_)))))))))
 refine Qv [1] (Vfa fo121_0 0) (Qv [2] (VldF sh116 0) (Qv [] Vm (Qv [1] (Vn 0) (Qv [1] (Vfa fo121_1 0) (Qv [2] (VldF sh3 0) (Qv [3] (Vi sl116 0) (Qv [0] (Vfa fo129_0 0) (Qv [0] (VldF sh3 0) (Qv [] Vm ?_)))))))))
 refine Qv [] Veql (Qv [] Vpt (Qv [] Va ?_))
 refine Qn ⟨by kernel_rfl, ?_⟩
 refine pC H hx0 fun hc12 H => ?_
 have hq := rI H; subst hq
 exact Kr () rfl (.tmp rfl .nil) [2] trivial
theorem fn123 (pP : Value) (p : Gparser) (pa0 : Option Addr) (pk0 : Nat) (hp_1 : i64ok p.at_) (hp_2 : i64ok p.Err) (rr : Gparser) (hrr : pz_end p = .ret rr) : FT Tryz.prog 123 #[pP] [Cl pP [vl pa0 pk0 p.l, vi p.at_, vi p.Err], S pa0 pk0 p.l] (fun g : Unit => i64ok rr.at_ ∧ i64ok rr.Err) (fun g => .tuple #[]) (fun g => [Cl pP [vl pa0 pk0 p.l, vi rr.at_, vi rr.Err]]) := by
 refine FTi Tryz.func123 fun w0 M0 F0 => ?_
 unfold i64ok at hp_1 hp_2
 refine Fb 40 1 fun _ => ?_
 have hx0 := lrn rr; have H := hrr; unfold pz_end at H
 refine KS ?_
 refine Oq Vm ?_
 refine lbH H hx0 fun rv2 hg3 H => ?_
 have hc4 := fn155 pP p pa0 pk0 3 pre pre pre rv2 hg3
 refine Oc [0, 0] ca155 hc4 ?_
 rintro - -
 refine Oq Vnot (KS ?_)
 refine pF H hx0 fun h5 H => ?_
 refine KcF h5 ?_
 have h7 := not_false h5
 refine KS ?_
 refine Oq Vm (Oq (Vn 0) (Oq (Vfa fo121_1 0) (Oq (VldF sh3 0) ?_)))
 refine pC H hx0 fun hc9 H => ?_
 refine Oq Vadd (Oq (Vn 0) (Oq (Vfa fo121_1 0) (Ost (SclF [0] sh3 [vl pa0 pk0 p.l, vi (p.at_ + 1), vi p.Err]) (KS ?_))))
 have hq := rI H; subst hq
 exact Kz () rfl .nil [0] en
theorem fn156 (pP : Value) (p : Gparser) (pa0 : Option Addr) (pk0 : Nat) (hp_1 : i64ok p.at_) (hp_2 : i64ok p.Err) (rr : Bool) (hrr : pz_begins p = .ret rr) : FT Tryz.prog 156 #[pP] [Cl pP [vl pa0 pk0 p.l, vi p.at_, vi p.Err], S pa0 pk0 p.l] (fun g : Unit => True) (fun g => vb rr) (fun g => [Cl pP [vl pa0 pk0 p.l, vi p.at_, vi p.Err]]) := by
 refine FTi Tryz.func156 fun w0 M0 F0 => ?_
 unfold i64ok at hp_1 hp_2
 refine Fb 40 1 fun _ => ?_
 have hx0 := lrn rr; have H := hrr; unfold pz_begins at H
 refine KS ?_
 refine Oq Va (KS ?_)
 refine Oa (AsV sl138 sz138 [.string (bs (Str.mk [117, 115, 101])), .string (bs (Str.mk [99, 97, 108, 108])), .string (bs (Str.mk [115, 111, 117, 114, 99, 101])), .string (bs (Str.mk [115, 105, 110, 107])), .string (bs (Str.mk [115, 97, 110, 105, 116, 105, 122, 101])), .string (bs (Str.mk [103, 111, 116, 111])), .string (bs (Str.mk [98, 114, 97, 110, 99, 104])), .string (bs (Str.mk [114, 101, 116, 117, 114, 110]))] [.string (bs (Str.mk [117, 115, 101])), .string (bs (Str.mk [99, 97, 108, 108])), .string (bs (Str.mk [115, 111, 117, 114, 99, 101])), .string (bs (Str.mk [115, 105, 110, 107])), .string (bs (Str.mk [115, 97, 110, 105, 116, 105, 122, 101])), .string (bs (Str.mk [103, 111, 116, 111])), .string (bs (Str.mk [98, 114, 97, 110, 99, 104])), .string (bs (Str.mk [114, 101, 116, 117, 114, 110]))]) fun c2 => ?_
 refine Jo 0 ?_; rintro a3 k4 rfl
 refine Oq Va (KS ?_)
 refine Oq Va (KS ?_)
 refine Jl [0] (Ent.crOs (α := Str) (A := []) _ ([(Str.mk [117, 115, 101]), (Str.mk [99, 97, 108, 108]), (Str.mk [115, 111, 117, 114, 99, 101]), (Str.mk [115, 105, 110, 107]), (Str.mk [115, 97, 110, 105, 116, 105, 122, 101]), (Str.mk [103, 111, 116, 111]), (Str.mk [98, 114, 97, 110, 99, 104]), (Str.mk [114, 101, 116, 117, 114, 110])] : List Str) _ aB1 (fun h => ⟨[.string (bs (Str.mk [117, 115, 101]))], [.string (bs (Str.mk [99, 97, 108, 108])), .string (bs (Str.mk [115, 111, 117, 114, 99, 101])), .string (bs (Str.mk [115, 105, 110, 107])), .string (bs (Str.mk [115, 97, 110, 105, 116, 105, 122, 101])), .string (bs (Str.mk [103, 111, 116, 111])), .string (bs (Str.mk [98, 114, 97, 110, 99, 104])), .string (bs (Str.mk [114, 101, 116, 117, 114, 110]))], rfl, (fun _ => ⟨rfl, by first | omega | (simp; done) | (dsimp only; omega) | exact lit_bl rfl⟩) h, ⟨[.string (bs (Str.mk [99, 97, 108, 108]))], [.string (bs (Str.mk [115, 111, 117, 114, 99, 101])), .string (bs (Str.mk [115, 105, 110, 107])), .string (bs (Str.mk [115, 97, 110, 105, 116, 105, 122, 101])), .string (bs (Str.mk [103, 111, 116, 111])), .string (bs (Str.mk [98, 114, 97, 110, 99, 104])), .string (bs (Str.mk [114, 101, 116, 117, 114, 110]))], rfl, (fun _ => ⟨rfl, by first | omega | (simp; done) | (dsimp only; omega) | exact lit_bl rfl⟩) h, ⟨[.string (bs (Str.mk [115, 111, 117, 114, 99, 101]))], [.string (bs (Str.mk [115, 105, 110, 107])), .string (bs (Str.mk [115, 97, 110, 105, 116, 105, 122, 101])), .string (bs (Str.mk [103, 111, 116, 111])), .string (bs (Str.mk [98, 114, 97, 110, 99, 104])), .string (bs (Str.mk [114, 101, 116, 117, 114, 110]))], rfl, (fun _ => ⟨rfl, by first | omega | (simp; done) | (dsimp only; omega) | exact lit_bl rfl⟩) h, ⟨[.string (bs (Str.mk [115, 105, 110, 107]))], [.string (bs (Str.mk [115, 97, 110, 105, 116, 105, 122, 101])), .string (bs (Str.mk [103, 111, 116, 111])), .string (bs (Str.mk [98, 114, 97, 110, 99, 104])), .string (bs (Str.mk [114, 101, 116, 117, 114, 110]))], rfl, (fun _ => ⟨rfl, by first | omega | (simp; done) | (dsimp only; omega) | exact lit_bl rfl⟩) h, ⟨[.string (bs (Str.mk [115, 97, 110, 105, 116, 105, 122, 101]))], [.string (bs (Str.mk [103, 111, 116, 111])), .string (bs (Str.mk [98, 114, 97, 110, 99, 104])), .string (bs (Str.mk [114, 101, 116, 117, 114, 110]))], rfl, (fun _ => ⟨rfl, by first | omega | (simp; done) | (dsimp only; omega) | exact lit_bl rfl⟩) h, ⟨[.string (bs (Str.mk [103, 111, 116, 111]))], [.string (bs (Str.mk [98, 114, 97, 110, 99, 104])), .string (bs (Str.mk [114, 101, 116, 117, 114, 110]))], rfl, (fun _ => ⟨rfl, by first | omega | (simp; done) | (dsimp only; omega) | exact lit_bl rfl⟩) h, ⟨[.string (bs (Str.mk [98, 114, 97, 110, 99, 104]))], [.string (bs (Str.mk [114, 101, 116, 117, 114, 110]))], rfl, (fun _ => ⟨rfl, by first | omega | (simp; done) | (dsimp only; omega) | exact lit_bl rfl⟩) h, ⟨[.string (bs (Str.mk [114, 101, 116, 117, 114, 110]))], [], rfl, (fun _ => ⟨rfl, by first | omega | (simp; done) | (dsimp only; omega) | exact lit_bl rfl⟩) h, rfl⟩⟩⟩⟩⟩⟩⟩⟩)) ?_
 refine Fb 16 0 fun _ => ?_
 refine FoS 0 fun ho6 => ?_
 refine llH H hx0 fun X14 hX15 hx16 HL17 => ?_
 refine Kl (γ := Nat × Int) (fun (r7, i_8) => ⟨[(0, pP), (3, .slice a3 8 k4), (4, vi i_8)], [os (.slice a3 8 k4) ([(Str.mk [117, 115, 101]), (Str.mk [99, 97, 108, 108]), (Str.mk [115, 111, 117, 114, 99, 101]), (Str.mk [115, 105, 110, 107]), (Str.mk [115, 97, 110, 105, 116, 105, 122, 101]), (Str.mk [103, 111, 116, 111]), (Str.mk [98, 114, 97, 110, 99, 104]), (Str.mk [114, 101, 116, 117, 114, 110])] : List Str), Cl pP [vl pa0 pk0 p.l, vi p.at_, vi p.Err], S pa0 pk0 p.l], pz_begins_L0 p r7 i_8 = X14 ∧ r7 = ((((8 : Nat) : Int) : Int) - i_8).toNat ∧ (0 : Int) ≤ i_8 ∧ (i_8 ≤ ((8 : Nat) : Int) ∨ i_8 = 0) ∧ (-9223372036854775808 ≤ i_8 ∧ i_8 ≤ 9223372036854775807), r7⟩) (((((8 : Nat) : Int) : Int) - 0).toNat, 0) [0, 0, 0] ⟨hX15, rfl, aM1, (.inr rfl), aM1⟩ ?_
 rintro ⟨r7, i_8⟩ ⟨hM9, hr10, hi11, hi12, hk13⟩
 refine JJ_nx fun _ _ hL hA => ?_; dsimp only at hL hA; subst hL hA
 refine Fb 16 0 fun _ => ?_
 refine FoS 0 fun ho19 => ?_
 refine Fl 0 fun hn20 => Fb 40 2 fun _ => ?_
 refine KS ?_
 refine Oq Vm (Oq Vm (Oq (Vlen sl138) (Oq Vlss (KS ?_))))
 refine Kc ?_ ?_
 ·intro h22
  have g23 := dt h22
  obtain ⟨r24, rfl⟩ := scc (n := r7) aM1
  have H := hM9; (try dsimp only at H); rw [pz_begins_L0] at H
  refine KS ?_
  refine Oq Vm (Oq Vm (Oq Vm ?_))
  refine pC H hx16 fun hc25 H => ?_
  refine Oq (Vi sl138 0) ?_
  have hb26 := okS (i := i_8.toNat) ho19 rng
  refine Oq (VldS sh9 0) ?_
  refine lbH H hx16 fun rv27 hg28 H => ?_
  have hc29 := fn85 pP p pa0 pk0 (([(Str.mk [117, 115, 101]), (Str.mk [99, 97, 108, 108]), (Str.mk [115, 111, 117, 114, 99, 101]), (Str.mk [115, 105, 110, 107]), (Str.mk [115, 97, 110, 105, 116, 105, 122, 101]), (Str.mk [103, 111, 116, 111]), (Str.mk [98, 114, 97, 110, 99, 104]), (Str.mk [114, 101, 116, 117, 114, 110])].getD i_8.toNat default)) pre pre pre rv27 hg28
  refine Oc [1, 1] ca85 hc29 ?_
  rintro - -
  refine KS ?_
  refine KcH H ?_ ?_
  ·intro h30 H
   refine KS ?_
   refine Oq Va (KS ?_)
   have H := llR H HL17
   have hq := rI H; subst hq
   exact Kr () rfl (.tmp rfl .nil) [0] trivial
  intro h30 H
  refine KS ?_
  refine Oq Vm (Oq Vadd (Oq Va (KS ?_)))
  refine pC H hx16 fun hc33 H => ?_
  exact Kg (r24, (i_8 + 1)) [1, 0, 0] ⟨H, aM1, aM1, aM1, aM1⟩
 intro h22
 have g34 := df h22
 obtain rfl : r7 = 0 := by omega
 have H := hM9; (try dsimp only at H); rw [pz_begins_L0] at H
 refine Ke ?_
 have H := llB H HL17
 refine KS ?_
 refine Oq Vm ?_
 refine lbH H hx0 fun rv35 hg36 H => ?_
 have hc37 := fn154 pP p pa0 pk0 pre pre rv35 hg36
 refine Oc [1, 1] ca154 hc37 ?_
 rintro - -
 refine Oq Va (KS ?_)
 have hq := rI H; subst hq
 exact Kr () rfl (.tmp rfl .nil) [0] trivial
theorem fn177 (pP : Value) (p : Gparser) (pa0 : Option Addr) (pk0 : Nat) (have_ : Int) (hp_1 : i64ok p.at_) (hp_2 : i64ok p.Err) (hhave__0 : i64ok have_) (rr : List Str × Gparser) (hrr : pz_more p have_ = .ret rr) : FT Tryz.prog 177 #[pP, vi have_] [Cl pP [vl pa0 pk0 p.l, vi p.at_, vi p.Err], S pa0 pk0 p.l] (fun g : Value => i64ok rr.2.at_ ∧ i64ok rr.2.Err) (fun g => g) (fun g => [sl g rr.1, Cl pP [vl pa0 pk0 p.l, vi rr.2.at_, vi rr.2.Err]]) := by
 refine FTi Tryz.func177 fun w0 M0 F0 => ?_
 unfold i64ok at hp_1 hp_2 hhave__0
 refine Fb 40 1 fun _ => ?_
 have hx0 := lrn rr; have H := hrr; unfold pz_more at H
 refine KS ?_
 refine Oq Va (KS ?_)
 refine Oq Va (KS ?_)
 refine llH H hx0 fun X4 hX5 hx6 HL7 => ?_
 refine Kl (γ := Nat) (fun r2 => ⟨[(0, pP), (1, vi have_), (5, .slice none 0 0)], [Cl pP [vl pa0 pk0 p.l, vi p.at_, vi p.Err], S pa0 pk0 p.l], pz_more_L0 p r2 = X4, r2⟩) 1 [0, 0] hX5 ?_
 rintro r2 hM3
 refine JJ_nx fun _ _ hL hA => ?_; dsimp only at hL hA; subst hL hA
 refine Fb 40 1 fun _ => ?_
 rcases r2 with _ | r2
 ·exact absurd (hM3.symm.trans rfl) hx6
 have H := hM3; (try dsimp only at H); rw [pz_more_L0] at H
 refine KS ?_
 refine Oq Vm ?_
 refine lbH H hx6 fun rv9 hg10 H => ?_
 have hc11 := fn154 pP p pa0 pk0 pre pre rv9 hg10
 refine Oc [0, 0] ca154 hc11 ?_
 rintro - -
 refine KS ?_
 refine pF H hx6 fun h12 H => ?_
 refine KcF h12 ?_
 refine Ke ?_
 have H := llB H HL7
 refine KS ?_
 refine Oq Vm (Oq Va (KS ?_))
 refine Jl [] (Ent.slNil (α := Str)) ?_
 have hq := rI H; subst hq
 exact Kr (.slice none 0 0) rfl (.tmp rfl .nil) [0, 1] en
theorem fn178 (pP : Value) (p : Gparser) (pa0 : Option Addr) (pk0 : Nat) (hp_1 : i64ok p.at_) (hp_2 : i64ok p.Err) (rr : List Str × Gparser) (hrr : pz_names p = .ret rr) : FT Tryz.prog 178 #[pP] [Cl pP [vl pa0 pk0 p.l, vi p.at_, vi p.Err], S pa0 pk0 p.l] (fun g : Value => i64ok rr.2.at_ ∧ i64ok rr.2.Err) (fun g => g) (fun g => [sl g rr.1, Cl pP [vl pa0 pk0 p.l, vi rr.2.at_, vi rr.2.Err]]) := by
 refine FTi Tryz.func178 fun w0 M0 F0 => ?_
 unfold i64ok at hp_1 hp_2
 refine Fb 40 1 fun _ => ?_
 have hx0 := lrn rr; have H := hrr; unfold pz_names at H
 refine KS ?_
 refine Oq Va (KS ?_)
 refine Oq Va (KS ?_)
 refine Jl [] (Ent.osNil (α := Str)) ?_
 refine llH H hx0 fun X11 hX12 hx13 HL14 => ?_
 refine Kl (γ := Nat × Int × Int × List Str × Option Addr × Nat) (fun (r2, p1_3, p2_4, out_5, a6, k7) => ⟨[(0, pP), (3, vl a6 k7 out_5)], [O a6 k7 out_5, Cl pP [vl pa0 pk0 p.l, vi p1_3, vi p2_4], S pa0 pk0 p.l], pz_names_L0 p r2 p1_3 p2_4 out_5 = X11 ∧ (-9223372036854775808 ≤ p1_3 ∧ p1_3 ≤ 9223372036854775807) ∧ (-9223372036854775808 ≤ p2_4 ∧ p2_4 ≤ 9223372036854775807), r2⟩) (100000, p.at_, p.Err, [], none, 0) [0, 0, 0] ⟨hX12, aM1, aM1⟩ ?_
 rintro ⟨r2, p1_3, p2_4, out_5, a6, k7⟩ ⟨hM8, hk9, hk10⟩
 refine JJ_nx fun _ _ hL hA => ?_; dsimp only at hL hA; subst hL hA
 refine Fb 16 0 fun _ => ?_
 refine FoS 0 fun ho16 => ?_
 refine Fb 40 2 fun _ => ?_
 rcases r2 with _ | r2
 ·exact absurd (hM8.symm.trans rfl) hx13
 have H := hM8; (try dsimp only at H); rw [pz_names_L0] at H
 refine KS ?_
 refine Oq Vm ?_
 refine lbH H hx13 fun rv18 hg19 H => ?_
 have hc20 := fn154 pP (Gparser.mk p.l p1_3 p2_4) pa0 pk0 pre pre rv18 hg19
 refine Oc [1, 1] ca154 hc20 ?_
 rintro - -
 refine KS ?_
 refine KcH H ?_ ?_
 ·intro h21 H
  refine KS ?_
  refine Oq Vm (Oq (Vlen sl138) (Oq Veql (KS ?_)))
  refine pF H hx13 fun h23 H => ?_
  refine KcF h23 ?_
  have g24 := ne_of_beq_false h23
  refine KS ?_
  refine Oq Vm (Oq Vm ?_)
  refine lbH H hx13 fun rv25 hg26 H => ?_
  have hc27 := fn122 pP (Gparser.mk p.l p1_3 p2_4) pa0 pk0 pre pre rv25 hg26
  refine Oc [0, 1] ca122 hc27 ?_
  rintro - ⟨he28, he29, he30⟩
  unfold i64ok at he29 he30
  refine Oa (AsV sl138 sz138 [.string (bs rv25.1)] [.string (bs rv25.1)]) fun c31 => ?_
  refine Jo 0 ?_; rintro a32 k33 rfl
  refine Jl [0] (Ent.cr1 (α := Str) (A := []) _ rv25.1 _ aB1 (fun _ => ⟨rfl, aS1⟩)) ?_
  refine pC H hx13 fun hc34 H => ?_
  refine Oa (ApO [2, 0] sl138 sl138 sz138) fun c35 => ?_
  refine Jo 0 ?_; rintro a36 k37 rfl
  refine Fb 16 0 fun _ => ?_
  refine FoS 0 fun ho39 => ?_
  have hn40 := la out_5 ([rv25.1] : List Str)
  refine Oq Va (KS ?_)
  exact Kg (r2, rv25.2.at_, rv25.2.Err, (out_5 ++ [rv25.1]), a36, k37) [0, 0, 0] ⟨H, aM1, aM1⟩
 intro h21 H
 refine Ke ?_
 have H := llB H HL14
 dsimp only at H
 refine KS ?_
 refine Oq Vm (Oq Va (KS ?_))
 refine Jl [1] (Ent.freeze _ _) ?_
 have hq := rI H; subst hq
 exact Kr (vl a6 k7 out_5) rfl (.tmp rfl .nil) [0, 1] en
theorem fn157 (pP : Value) (p : Gparser) (pa0 : Option Addr) (pk0 : Nat) (hp_1 : i64ok p.at_) (hp_2 : i64ok p.Err) (rr : GStmt × Gparser) (hrr : pz_stmt p = .ret rr) : FT Tryz.prog 157 #[pP] [Cl pP [vl pa0 pk0 p.l, vi p.at_, vi p.Err], S pa0 pk0 p.l] (fun g : Value × Value => i64ok rr.1.Op ∧ rr.1.Def.b.length ≤ 140737488355328 ∧ i64ok rr.2.at_ ∧ i64ok rr.2.Err) (fun g => .agg #[vi rr.1.Op, .string (bs rr.1.Def), g.1, g.2]) (fun g => [sl g.1 rr.1.Uses, sl g.2 rr.1.Targets, Cl pP [vl pa0 pk0 p.l, vi rr.2.at_, vi rr.2.Err]]) := by
 refine FTi Tryz.func157 fun w0 M0 F0 => ?_
 unfold i64ok at hp_1 hp_2
 refine Fb 40 1 fun _ => ?_
 have hx0 := lrn rr; have H := hrr; unfold pz_stmt at H
 refine KS ?_
 refine Oa (Al ze140 [vi 0, .string (bs (Str.mk [])), .slice none 0 0, .slice none 0 0]) fun p2 => KS ?_
 refine Oa (Al ze140 [vi 0, .string (bs (Str.mk [])), .slice none 0 0, .slice none 0 0]) fun p3 => KS ?_
 refine Oq Va (KS ?_)
 refine Oq Vm ?_
 refine lbH H hx0 fun rv4 hg5 H => ?_
 have hc6 := fn154 pP p pa0 pk0 pre pre rv4 hg5
 refine Oc [2, 2] ca154 hc6 ?_
 rintro - -
 refine Oq Vnot (KS ?_)
 refine KcH H ?_ ?_
 ·intro h7 H
  have h9 := not_true h7
  refine KS ?_
  refine Jp 0 fun hp11 => ?_
  refine pC H hx0 fun hc12 H => ?_
  refine JJ_peek_GToken p.at_.toNat 4 rfl rng fun hb13 hb14 hb15 hb16 => ?_
  unfold i64ok at hb13 hb15 hb16
  refine Kq [0, 1, 3, 7, 0, 16, 48, 112, 255, 511, 1023, 2047] fmix ?_
  refine Qv [] Vm (Qv [1] (Vn 0) (Qv [1] (Vfa fo121_0 0) (Qv [2] (VldF sh116 0) (Qv [] Vm (Qv [1] (Vn 0) (Qv [1] (Vfa fo121_1 0) (Qv [2] (VldF sh3 0) (Qv [5] (Vi sl116 0) (Qv [0] (Vfa fo129_1 0) ?_)))))))))
  refine Qv [0] (VldF sh9 0) (Qv [] Va ?_)
  refine Qn ⟨by kernel_rfl, ?_⟩
  refine KS ?_
  refine Oq Vm (Oq (Vn 2) (Oq (Vfa fo121_1 2) (Oq (VldF sh3 2) ?_)))
  refine pC H hx0 fun hc17 H => ?_
  refine pC H hx0 fun hc18 H => ?_
  refine Oq Vadd (Oq (Vn 2) (Oq (Vfa fo121_1 2) (Ost (SclF [2] sh3 [vl pa0 pk0 p.l, vi (p.at_ + 1), vi p.Err]) (KS ?_))))
  refine Oq Vm (KS ?_)
  refine Oq (VeqS (l := (p.l.getD p.at_.toNat default).Text) (m := (Str.mk [117, 115, 101]))) (Oq Va (KS ?_))
  refine KcH H ?_ ?_
  ·intro h19 H
   have g20 := eq_of_beq h19
   refine KS ?_
   refine Oq Vm ?_
   refine lbH H hx0 fun rv21 hg22 H => ?_
   have hc23 := fn122 pP (Gparser.mk p.l (p.at_ + 1) p.Err) pa0 pk0 pre pre rv21 hg22
   refine Oc [0, 4] ca122 hc23 ?_
   rintro - ⟨he24, he25, he26⟩
   unfold i64ok at he25 he26
   refine Oa (AsV sl138 sz138 [.string (bs rv21.1)] [.string (bs rv21.1)]) fun c27 => ?_
   refine Jo 0 ?_; rintro a28 k29 rfl
   refine Oq (Vfa fo140_0 4) (Ost (SclF [4] sh3 [vi 2, .string (bs (Str.mk [])), .slice none 0 0, .slice none 0 0]) (Oq (Vfa fo140_2 0) (Ost (SclF [0] sh138 [vi 2, .string (bs (Str.mk [])), .slice a28 1 k29, .slice none 0 0]) (KS ?_))))
   refine Jp 0 fun hp30 => ?_
   refine JK_drawK [0, 1, 0, 4, 15, 31, 63] fmix ?_
   refine Dv [0] (Vfa fo140_2 0) (Dv [1] (VldF sh138 0) (Dv [] Vm ?_))
   refine lbH H hx0 fun rv32 hg33 H => ?_
   refine Dx [3, 7] [3] [3, 0, 1, 2] (fun G => (G.g 3 0)) [fun G => SP.fact (i64ok rv32.2.at_ ∧ i64ok rv32.2.Err), fun G => sl (G.g 3 0) rv32.1, fun G => Cl pP [vl pa0 pk0 p.l, vi rv32.2.at_, vi rv32.2.Err]] (fun G => xC [0, 0] ca177 (fn177 pP (Gparser.mk p.l rv21.2.at_ rv21.2.Err) pa0 pk0 1 pre pre pre rv32 hg33)) ?_
   refine pC H hx0 fun hc34 H => ?_
   have hn36 : ([rv21.1] ++ rv32.1 : List Str).length = 1 + rv32.1.length := la ([rv21.1] : List Str) rv32.1
   refine Dx [2, 8, 9] [2] [1, 2, 0] (fun G => (G.g 4 0)) [fun G => os (G.g 4 0) (([rv21.1] ++ rv32.1) : List Str)] (fun G => by refine xf 1 rfl ?_; rintro ⟨he37, he38⟩; unfold i64ok at he37 he38; exact xp [0] rfl (Ent.cr1 (α := Str) (A := []) _ rv21.1 _ aB1 (fun _ => ⟨rfl, aS1⟩)) (xA (Ap [0, 1] sl138 sl138 sz138))) (Dv [0] (Vfa fo140_2 0) (Dx0 [1, 11] [1] [1, 0] [fun G => Cl p3 [vi 2, .string (bs (Str.mk [])), (G.g 4 0), .slice none 0 0]] (fun G => x1 1 rfl os_one fun ho39 => (xS (OpS.frame [0] rfl (OpS.storeClF [(G.g 4 0)] [vi 2, .string (bs (Str.mk [])), (G.g 4 0), .slice none 0 0] rfl rfl rfl sh138 (cells_of_one ho39) rfl (by simp only [List.all_cons, List.all_nil, ho39, Bool.and_true, Bool.true_and] <;> rfl) aB1 rfl)))) ?_))
   refine Dn ⟨by kernel_rfl, fun G => ?_⟩
   refine Jw2 [(0, pP), (2, p2), (3, p3)] [0, 4, 5, 6, 7] [SP.fact (i64ok rv32.2.at_ ∧ i64ok rv32.2.Err), sl (G.g 3 0) rv32.1, Cl pP [vl pa0 pk0 p.l, vi rv32.2.at_, vi rv32.2.Err], os (G.g 4 0) (([rv21.1] ++ rv32.1) : List Str), Cl p3 [vi 2, .string (bs (Str.mk [])), (G.g 4 0), .slice none 0 0]] ?_
   generalize G.g 3 0 = c31, G.g 4 0 = c35
   refine Jf 5 rfl ?_; rintro ⟨he40, he41⟩
   unfold i64ok at he40 he41
   refine Jk [1, 3, 3, 5, 6, 6, 6] ?_
   refine Jo 3 ?_; rintro a42 k43 rfl
   refine Fb 16 3 fun _ => ?_
   refine FoS 3 fun ho45 => ?_
   refine Jo 5 ?_; rintro a46 k47 rfl
   refine Fb 16 5 fun _ => ?_
   refine FoS 5 fun ho49 => ?_
   refine KS ?_
   refine Oq Vm ?_
   refine lbH H hx0 fun rv50 hg51 H => ?_
   have hc52 := fn123 pP (Gparser.mk p.l rv32.2.at_ rv32.2.Err) pa0 pk0 pre pre rv50 hg51
   refine Oc [4, 2] ca123 hc52 ?_
   rintro - ⟨he53, he54⟩
   unfold i64ok at he53 he54
   refine KS ?_
   refine Oq (VldA sh140 6) (Ost (Scl [2] sh140 [vi 2, .string (bs (Str.mk [])), vl a46 k47 ([rv21.1] ++ rv32.1), .slice none 0 0]) (KS ?_))
   refine Jl [5] (Ent.freeze _ _) ?_
   refine Jl [] (Ent.slNil (α := Str)) ?_
   have hq := rI H; subst hq
   exact Kr (vl a46 k47 ([rv21.1] ++ rv32.1), .slice none 0 0) rfl (.cellN 2 rfl sh140 rfl (reads_Cl _ _) rfl .nil) [1, 0, 3] en
  intro h19 H
  have g55 := ne_of_beq_false h19
  refine KS ?_
  refine Oq (VeqS (l := (p.l.getD p.at_.toNat default).Text) (m := (Str.mk [99, 97, 108, 108]))) (Oq Va (KS ?_))
  refine pF H hx0 fun h56 H => ?_
  refine KcF h56 ?_
  have g57 := ne_of_beq_false h56
  refine KS ?_
  refine Oq (VeqS (l := (p.l.getD p.at_.toNat default).Text) (m := (Str.mk [115, 111, 117, 114, 99, 101]))) (Oq Va (KS ?_))
  refine pF H hx0 fun h58 H => ?_
  refine KcF h58 ?_
  have g59 := ne_of_beq_false h58
  refine KS ?_
  refine Oq (VeqS (l := (p.l.getD p.at_.toNat default).Text) (m := (Str.mk [115, 105, 110, 107]))) (Oq Va (KS ?_))
  refine pF H hx0 fun h60 H => ?_
  refine KcF h60 ?_
  have g61 := ne_of_beq_false h60
  refine KS ?_
  refine Oq (VeqS (l := (p.l.getD p.at_.toNat default).Text) (m := (Str.mk [115, 97, 110, 105, 116, 105, 122, 101]))) (Oq Va (KS ?_))
  refine pF H hx0 fun h62 H => ?_
  refine KcF h62 ?_
  have g63 := ne_of_beq_false h62
  refine KS ?_
  refine Oq (VeqS (l := (p.l.getD p.at_.toNat default).Text) (m := (Str.mk [103, 111, 116, 111]))) (Oq Va (KS ?_))
  refine pF H hx0 fun h64 H => ?_
  refine KcF h64 ?_
  have g65 := ne_of_beq_false h64
  refine KS ?_
  refine Oq (VeqS (l := (p.l.getD p.at_.toNat default).Text) (m := (Str.mk [98, 114, 97, 110, 99, 104]))) (Oq Va (KS ?_))
  refine pF H hx0 fun h66 H => ?_
  refine KcF h66 ?_
  have g67 := ne_of_beq_false h66
  refine KS ?_
  refine Oq (VeqS (l := (p.l.getD p.at_.toNat default).Text) (m := (Str.mk [114, 101, 116, 117, 114, 110]))) (Oq Va (KS ?_))
  refine KcH H ?_ ?_
  ·intro h68 H
   have g69 := eq_of_beq h68
   refine KS ?_
   refine Oq (Vfa fo140_0 3) (Ost (SclF [3] sh3 [vi 9, .string (bs (Str.mk [])), .slice none 0 0, .slice none 0 0]) (KS ?_))
   refine Oq Vm ?_
   refine lbH H hx0 fun rv70 hg71 H => ?_
   have hc72 := fn123 pP (Gparser.mk p.l (p.at_ + 1) p.Err) pa0 pk0 pre pre rv70 hg71
   refine Oc [1, 4] ca123 hc72 ?_
   rintro - ⟨he73, he74⟩
   unfold i64ok at he73 he74
   refine KS ?_
   refine Oq (VldA sh140 1) (Ost (Scl [4] sh140 [vi 9, .string (bs (Str.mk [])), .slice none 0 0, .slice none 0 0]) (KS ?_))
   refine Jl [] (Ent.slNil (α := Str)) ?_
   have hq := rI H; subst hq
   exact Kr (.slice none 0 0, .slice none 0 0) rfl (.cellN 1 rfl sh140 rfl (reads_Cl _ _) rfl .nil) [0, 0, 2] en
  intro h68 H
  have g75 := ne_of_beq_false h68
  refine KS ?_
  refine Oq Vm ?_
  refine lbH H hx0 fun rv76 hg77 H => ?_
  have hc78 := fn122 pP (Gparser.mk p.l (p.at_ + 1) p.Err) pa0 pk0 pre pre rv76 hg77
  refine Oc [0, 4] ca122 hc78 ?_
  rintro - ⟨he79, he80, he81⟩
  unfold i64ok at he80 he81
  refine Oq (Vfa fo140_0 3) (Ost (SclF [3] sh3 [vi 1, .string (bs (Str.mk [])), .slice none 0 0, .slice none 0 0]) (Oq (Vfa fo140_1 0) (Ost (SclF [0] sh9 [vi 1, .string (bs rv76.1), .slice none 0 0, .slice none 0 0]) (KS ?_))))
  refine Oq Vm ?_
  refine lbH H hx0 fun rv82 hg83 H => ?_
  have hc84 := fn155 pP (Gparser.mk p.l rv76.2.at_ rv76.2.Err) pa0 pk0 2 pre pre pre rv82 hg83
  refine Oc [1, 4] ca155 hc84 ?_
  rintro - -
  refine Oq Vnot (KS ?_)
  refine pF H hx0 fun h85 H => ?_
  refine KcF h85 ?_
  have h87 := not_false h85
  refine KS ?_
  refine Oq Vm (Oq (Vn 0) (Oq (Vfa fo121_1 0) (Oq (VldF sh3 0) ?_)))
  refine pC H hx0 fun hc89 H => ?_
  refine Oq Vadd (Oq (Vn 0) (Oq (Vfa fo121_1 0) (Ost (SclF [0] sh3 [vl pa0 pk0 p.l, vi (rv76.2.at_ + 1), vi rv76.2.Err]) (KS ?_))))
  refine Oq Vm ?_
  refine lbH H hx0 fun rv91 hg92 H => ?_
  have hc93 := fn178 pP (Gparser.mk p.l (rv76.2.at_ + 1) rv76.2.Err) pa0 pk0 pre pre rv91 hg92
  refine Oc [0, 4] ca178 hc93 ?_
  rintro c90 ⟨he94, he95⟩
  unfold i64ok at he94 he95
  refine Jo 0 ?_; rintro a96 k97 rfl
  refine Fb 16 0 fun _ => ?_
  refine FoS 0 fun ho99 => ?_
  refine Oq (Vfa fo140_2 2) (Ost (SclF [2] sh138 [vi 1, .string (bs rv76.1), vl a96 k97 rv91.1, .slice none 0 0]) (KS ?_))
  refine Oq Vm ?_
  refine lbH H hx0 fun rv100 hg101 H => ?_
  have hc102 := fn123 pP (Gparser.mk p.l rv91.2.at_ rv91.2.Err) pa0 pk0 pre pre rv100 hg101
  refine Oc [2, 5] ca123 hc102 ?_
  rintro - ⟨he103, he104⟩
  unfold i64ok at he103 he104
  refine KS ?_
  refine Oq (VldA sh140 1) (Ost (Scl [5] sh140 [vi 1, .string (bs rv76.1), vl a96 k97 rv91.1, .slice none 0 0]) (KS ?_))
  refine Jl [] (Ent.slNil (α := Str)) ?_
  have hq := rI H; subst hq
  exact Kr (vl a96 k97 rv91.1, .slice none 0 0) rfl (.cellN 1 rfl sh140 rfl (reads_Cl _ _) rfl .nil) [4, 0, 2] en
 intro h7 H
 have h106 := not_false h7
 refine KS ?_
 refine Oq Vm (KS ?_)
 refine Oq (VeqS (l := (Str.mk [])) (m := (Str.mk [117, 115, 101]))) (Oq Va (KS ?_))
 refine KcH H ?_ ?_
 ·intro h108 H
  have g109 := eq_of_beq h108
  refine KS ?_
  refine Oq Vm ?_
  refine lbH H hx0 fun rv110 hg111 H => ?_
  have hc112 := fn122 pP p pa0 pk0 pre pre rv110 hg111
  refine Oc [0, 2] ca122 hc112 ?_
  rintro - ⟨he113, he114, he115⟩
  unfold i64ok at he114 he115
  refine Oa (AsV sl138 sz138 [.string (bs rv110.1)] [.string (bs rv110.1)]) fun c116 => ?_
  refine Jo 0 ?_; rintro a117 k118 rfl
  refine Oq (Vfa fo140_0 2) (Ost (SclF [2] sh3 [vi 2, .string (bs (Str.mk [])), .slice none 0 0, .slice none 0 0]) (Oq (Vfa fo140_2 0) (Ost (SclF [0] sh138 [vi 2, .string (bs (Str.mk [])), .slice a117 1 k118, .slice none 0 0]) (KS ?_))))
  refine Jp 0 fun hp119 => ?_
  refine JK_drawK [0, 1, 0, 4, 15, 31, 63] fmix ?_
  refine Dv [0] (Vfa fo140_2 0) (Dv [1] (VldF sh138 0) (Dv [] Vm ?_))
  refine lbH H hx0 fun rv121 hg122 H => ?_
  refine Dx [3, 5] [3] [3, 0, 1, 2] (fun G => (G.g 3 0)) [fun G => SP.fact (i64ok rv121.2.at_ ∧ i64ok rv121.2.Err), fun G => sl (G.g 3 0) rv121.1, fun G => Cl pP [vl pa0 pk0 p.l, vi rv121.2.at_, vi rv121.2.Err]] (fun G => xC [0, 0] ca177 (fn177 pP (Gparser.mk p.l rv110.2.at_ rv110.2.Err) pa0 pk0 1 pre pre pre rv121 hg122)) ?_
  refine pC H hx0 fun hc123 H => ?_
  have hn125 : ([rv110.1] ++ rv121.1 : List Str).length = 1 + rv121.1.length := la ([rv110.1] : List Str) rv121.1
  refine Dx [2, 6, 7] [2] [1, 2, 0] (fun G => (G.g 4 0)) [fun G => os (G.g 4 0) (([rv110.1] ++ rv121.1) : List Str)] (fun G => by refine xf 1 rfl ?_; rintro ⟨he126, he127⟩; unfold i64ok at he126 he127; exact xp [0] rfl (Ent.cr1 (α := Str) (A := []) _ rv110.1 _ aB1 (fun _ => ⟨rfl, aS1⟩)) (xA (Ap [0, 1] sl138 sl138 sz138))) (Dv [0] (Vfa fo140_2 0) (Dx0 [1, 9] [1] [1, 0] [fun G => Cl p3 [vi 2, .string (bs (Str.mk [])), (G.g 4 0), .slice none 0 0]] (fun G => x1 1 rfl os_one fun ho128 => (xS (OpS.frame [0] rfl (OpS.storeClF [(G.g 4 0)] [vi 2, .string (bs (Str.mk [])), (G.g 4 0), .slice none 0 0] rfl rfl rfl sh138 (cells_of_one ho128) rfl (by simp only [List.all_cons, List.all_nil, ho128, Bool.and_true, Bool.true_and] <;> rfl) aB1 rfl)))) ?_))
  refine Dn ⟨by kernel_rfl, fun G => ?_⟩
  refine Jw2 [(0, pP), (2, p2), (3, p3)] [0, 4, 5] [SP.fact (i64ok rv121.2.at_ ∧ i64ok rv121.2.Err), sl (G.g 3 0) rv121.1, Cl pP [vl pa0 pk0 p.l, vi rv121.2.at_, vi rv121.2.Err], os (G.g 4 0) (([rv110.1] ++ rv121.1) : List Str), Cl p3 [vi 2, .string (bs (Str.mk [])), (G.g 4 0), .slice none 0 0]] ?_
  generalize G.g 3 0 = c120, G.g 4 0 = c124
  refine Jf 3 rfl ?_; rintro ⟨he129, he130⟩
  unfold i64ok at he129 he130
  refine Jk [1, 1, 3, 4, 4, 4] ?_
  refine Jo 2 ?_; rintro a131 k132 rfl
  refine Fb 16 2 fun _ => ?_
  refine FoS 2 fun ho134 => ?_
  refine Jo 4 ?_; rintro a135 k136 rfl
  refine Fb 16 4 fun _ => ?_
  refine FoS 4 fun ho138 => ?_
  refine KS ?_
  refine Oq Vm ?_
  refine lbH H hx0 fun rv139 hg140 H => ?_
  have hc141 := fn123 pP (Gparser.mk p.l rv121.2.at_ rv121.2.Err) pa0 pk0 pre pre rv139 hg140
  refine Oc [3, 1] ca123 hc141 ?_
  rintro - ⟨he142, he143⟩
  unfold i64ok at he142 he143
  refine KS ?_
  refine Oq (VldA sh140 5) (Ost (Scl [1] sh140 [vi 2, .string (bs (Str.mk [])), vl a135 k136 ([rv110.1] ++ rv121.1), .slice none 0 0]) (KS ?_))
  refine Jl [4] (Ent.freeze _ _) ?_
  refine Jl [] (Ent.slNil (α := Str)) ?_
  have hq := rI H; subst hq
  exact Kr (vl a135 k136 ([rv110.1] ++ rv121.1), .slice none 0 0) rfl (.cellN 2 rfl sh140 rfl (reads_Cl _ _) rfl .nil) [1, 0, 3] en
 intro h108 H
 have g144 := ne_of_beq_false h108
 refine KS ?_
 refine Oq (VeqS (l := (Str.mk [])) (m := (Str.mk [99, 97, 108, 108]))) (Oq Va (KS ?_))
 refine pF H hx0 fun h145 H => ?_
 refine KcF h145 ?_
 have g146 := ne_of_beq_false h145
 refine KS ?_
 refine Oq (VeqS (l := (Str.mk [])) (m := (Str.mk [115, 111, 117, 114, 99, 101]))) (Oq Va (KS ?_))
 refine pF H hx0 fun h147 H => ?_
 refine KcF h147 ?_
 have g148 := ne_of_beq_false h147
 refine KS ?_
 refine Oq (VeqS (l := (Str.mk [])) (m := (Str.mk [115, 105, 110, 107]))) (Oq Va (KS ?_))
 refine pF H hx0 fun h149 H => ?_
 refine KcF h149 ?_
 have g150 := ne_of_beq_false h149
 refine KS ?_
 refine Oq (VeqS (l := (Str.mk [])) (m := (Str.mk [115, 97, 110, 105, 116, 105, 122, 101]))) (Oq Va (KS ?_))
 refine pF H hx0 fun h151 H => ?_
 refine KcF h151 ?_
 have g152 := ne_of_beq_false h151
 refine KS ?_
 refine Oq (VeqS (l := (Str.mk [])) (m := (Str.mk [103, 111, 116, 111]))) (Oq Va (KS ?_))
 refine pF H hx0 fun h153 H => ?_
 refine KcF h153 ?_
 have g154 := ne_of_beq_false h153
 refine KS ?_
 refine Oq (VeqS (l := (Str.mk [])) (m := (Str.mk [98, 114, 97, 110, 99, 104]))) (Oq Va (KS ?_))
 refine pF H hx0 fun h155 H => ?_
 refine KcF h155 ?_
 have g156 := ne_of_beq_false h155
 refine KS ?_
 refine Oq (VeqS (l := (Str.mk [])) (m := (Str.mk [114, 101, 116, 117, 114, 110]))) (Oq Va (KS ?_))
 refine KcH H ?_ ?_
 ·intro h157 H
  have g158 := eq_of_beq h157
  refine KS ?_
  refine Oq (Vfa fo140_0 1) (Ost (SclF [1] sh3 [vi 9, .string (bs (Str.mk [])), .slice none 0 0, .slice none 0 0]) (KS ?_))
  refine Oq Vm ?_
  refine lbH H hx0 fun rv159 hg160 H => ?_
  have hc161 := fn123 pP p pa0 pk0 pre pre rv159 hg160
  refine Oc [1, 2] ca123 hc161 ?_
  rintro - ⟨he162, he163⟩
  unfold i64ok at he162 he163
  refine KS ?_
  refine Oq (VldA sh140 1) (Ost (Scl [2] sh140 [vi 9, .string (bs (Str.mk [])), .slice none 0 0, .slice none 0 0]) (KS ?_))
  refine Jl [] (Ent.slNil (α := Str)) ?_
  have hq := rI H; subst hq
  exact Kr (.slice none 0 0, .slice none 0 0) rfl (.cellN 1 rfl sh140 rfl (reads_Cl _ _) rfl .nil) [0, 0, 2] en
 intro h157 H
 have g164 := ne_of_beq_false h157
 refine KS ?_
 refine Oq Vm ?_
 refine lbH H hx0 fun rv165 hg166 H => ?_
 have hc167 := fn122 pP p pa0 pk0 pre pre rv165 hg166
 refine Oc [0, 2] ca122 hc167 ?_
 rintro - ⟨he168, he169, he170⟩
 unfold i64ok at he169 he170
 refine Oq (Vfa fo140_0 1) (Ost (SclF [1] sh3 [vi 1, .string (bs (Str.mk [])), .slice none 0 0, .slice none 0 0]) (Oq (Vfa fo140_1 0) (Ost (SclF [0] sh9 [vi 1, .string (bs rv165.1), .slice none 0 0, .slice none 0 0]) (KS ?_))))
 refine Oq Vm ?_
 refine lbH H hx0 fun rv171 hg172 H => ?_
 have hc173 := fn155 pP (Gparser.mk p.l rv165.2.at_ rv165.2.Err) pa0 pk0 2 pre pre pre rv171 hg172
 refine Oc [1, 2] ca155 hc173 ?_
 rintro - -
 refine Oq Vnot (KS ?_)
 refine pF H hx0 fun h174 H => ?_
 refine KcF h174 ?_
 have h176 := not_false h174
 refine KS ?_
 refine Oq Vm (Oq (Vn 0) (Oq (Vfa fo121_1 0) (Oq (VldF sh3 0) ?_)))
 refine pC H hx0 fun hc178 H => ?_
 refine Oq Vadd (Oq (Vn 0) (Oq (Vfa fo121_1 0) (Ost (SclF [0] sh3 [vl pa0 pk0 p.l, vi (rv165.2.at_ + 1), vi rv165.2.Err]) (KS ?_))))
 refine Oq Vm ?_
 refine lbH H hx0 fun rv180 hg181 H => ?_
 have hc182 := fn178 pP (Gparser.mk p.l (rv165.2.at_ + 1) rv165.2.Err) pa0 pk0 pre pre rv180 hg181
 refine Oc [0, 2] ca178 hc182 ?_
 rintro c179 ⟨he183, he184⟩
 unfold i64ok at he183 he184
 refine Jo 0 ?_; rintro a185 k186 rfl
 refine Fb 16 0 fun _ => ?_
 refine FoS 0 fun ho188 => ?_
 refine Oq (Vfa fo140_2 2) (Ost (SclF [2] sh138 [vi 1, .string (bs rv165.1), vl a185 k186 rv180.1, .slice none 0 0]) (KS ?_))
 refine Oq Vm ?_
 refine lbH H hx0 fun rv189 hg190 H => ?_
 have hc191 := fn123 pP (Gparser.mk p.l rv180.2.at_ rv180.2.Err) pa0 pk0 pre pre rv189 hg190
 refine Oc [2, 3] ca123 hc191 ?_
 rintro - ⟨he192, he193⟩
 unfold i64ok at he192 he193
 refine KS ?_
 refine Oq (VldA sh140 1) (Ost (Scl [3] sh140 [vi 1, .string (bs rv165.1), vl a185 k186 rv180.1, .slice none 0 0]) (KS ?_))
 refine Jl [] (Ent.slNil (α := Str)) ?_
 have hq := rI H; subst hq
 exact Kr (vl a185 k186 rv180.1, .slice none 0 0) rfl (.cellN 1 rfl sh140 rfl (reads_Cl _ _) rfl .nil) [4, 0, 2] en
theorem fn124 (pP : Value) (p : Gparser) (pa0 : Option Addr) (pk0 : Nat) (hp_1 : i64ok p.at_) (hp_2 : i64ok p.Err) (rr : GBlock × Gparser) (hrr : pz_block p = .ret rr) : FT Tryz.prog 124 #[pP] [Cl pP [vl pa0 pk0 p.l, vi p.at_, vi p.Err], S pa0 pk0 p.l] (fun g : Value => rr.1.Name.b.length ≤ 140737488355328 ∧ i64ok rr.2.at_ ∧ i64ok rr.2.Err) (fun g => .agg #[.string (bs rr.1.Name), g]) (fun g => [sl g rr.1.Stmts, Cl pP [vl pa0 pk0 p.l, vi rr.2.at_, vi rr.2.Err]]) := by
 refine FTi Tryz.func124 fun w0 M0 F0 => ?_
 unfold i64ok at hp_1 hp_2
 refine Fb 40 1 fun _ => ?_
 have hx0 := lrn rr; have H := hrr; unfold pz_block at H
 refine KS ?_
 refine Oa (Al ze168 [.string (bs (Str.mk [])), .slice none 0 0]) fun p2 => KS ?_
 refine Oa (Al ze168 [.string (bs (Str.mk [])), .slice none 0 0]) fun p3 => KS ?_
 refine Oq Vm ?_
 refine lbH H hx0 fun rv4 hg5 H => ?_
 have hc6 := fn121 pP p pa0 pk0 ((Str.mk [98, 108, 111, 99, 107])) pre pre pre rv4 hg5
 refine Oc [2, 2] ca121 hc6 ?_
 rintro - ⟨he7, he8⟩
 unfold i64ok at he7 he8
 refine KS ?_
 refine Oq Vm ?_
 refine lbH H hx0 fun rv9 hg10 H => ?_
 have hc11 := fn122 pP (Gparser.mk p.l rv4.at_ rv4.Err) pa0 pk0 pre pre rv9 hg10
 refine Oc [0, 2] ca122 hc11 ?_
 rintro - ⟨he12, he13, he14⟩
 unfold i64ok at he13 he14
 refine Oq (Vfa fo168_0 1) (Ost (SclF [1] sh9 [.string (bs rv9.1), .slice none 0 0]) (KS ?_))
 refine Oq Vm ?_
 refine lbH H hx0 fun rv15 hg16 H => ?_
 have hc17 := fn123 pP (Gparser.mk p.l rv9.2.at_ rv9.2.Err) pa0 pk0 pre pre rv15 hg16
 refine Oc [1, 2] ca123 hc17 ?_
 rintro - ⟨he18, he19⟩
 unfold i64ok at he18 he19
 refine KS ?_
 refine Oq Vm ?_
 refine lbH H hx0 fun rv20 hg21 H => ?_
 have hc22 := fn156 pP (Gparser.mk p.l rv15.at_ rv15.Err) pa0 pk0 pre pre rv20 hg21
 refine Oc [0, 2] ca156 hc22 ?_
 rintro - -
 refine Oq Vnot (KS ?_)
 refine pF H hx0 fun h23 H => ?_
 refine KcF h23 ?_
 have h25 := not_false h23
 refine KS ?_
 refine Jl [] (Ent.osNil (α := GStmt)) ?_
 refine llH H hx0 fun X36 hX37 hx38 HL39 => ?_
 refine Kl (γ := Nat × Int × Int × List GStmt × Option Addr × Nat) (fun (r27, p1_28, p2_29, b1_30, a31, k32) => ⟨[(0, pP), (2, p2), (3, p3)], [O a31 k32 b1_30, Cl pP [vl pa0 pk0 p.l, vi p1_28, vi p2_29], Cl p3 [.string (bs rv9.1), vl a31 k32 b1_30], Cl p2 [.string (bs (Str.mk [])), .slice none 0 0], S pa0 pk0 p.l], pz_block_L0 p r27 p1_28 p2_29 b1_30 = X36 ∧ (-9223372036854775808 ≤ p1_28 ∧ p1_28 ≤ 9223372036854775807) ∧ (-9223372036854775808 ≤ p2_29 ∧ p2_29 ≤ 9223372036854775807), r27⟩) (100000, rv15.at_, rv15.Err, [], none, 0) [0, 0, 0, 0, 0] ⟨hX37, aM1, aM1⟩ ?_
 rintro ⟨r27, p1_28, p2_29, b1_30, a31, k32⟩ ⟨hM33, hk34, hk35⟩
 refine JJ_nx fun _ _ hL hA => ?_; dsimp only at hL hA; subst hL hA
 refine Fb 72 0 fun _ => Fb 40 4 fun _ => ?_
 rcases r27 with _ | r27
 ·exact absurd (hM33.symm.trans rfl) hx38
 have H := hM33; (try dsimp only at H); rw [pz_block_L0] at H
 refine KS ?_
 refine Oq Vm ?_
 refine lbH H hx38 fun rv42 hg43 H => ?_
 have hc44 := fn156 pP (Gparser.mk p.l p1_28 p2_29) pa0 pk0 pre pre rv42 hg43
 refine Oc [1, 3] ca156 hc44 ?_
 rintro - -
 refine KS ?_
 refine KcH H ?_ ?_
 ·intro h45 H
  refine KS ?_
  refine Oq (Vfa fo168_1 2) (Oq (VldF sh166 2) (Oq (Vlen sl166) (Oq Veql (KS ?_))))
  refine pF H hx38 fun h47 H => ?_
  refine KcF h47 ?_
  have g48 := ne_of_beq_false h47
  refine KS ?_
  refine Jp 2 fun hp49 => ?_
  refine JK_drawK [0, 1, 0, 4, 12, 31, 63, 127] fmix ?_
  refine Dv [0] (Vfa fo168_1 0) (Dv [3] (VldF sh166 0) (Dv [] Vm ?_))
  refine lbH H hx38 fun rv52 hg53 H => ?_
  refine Dx [1, 5] [1] [4, 0, 1, 2, 3] (fun G => .agg #[vi rv52.1.Op, .string (bs rv52.1.Def), (G.g 3 0), (G.g 3 1)]) [fun G => SP.fact (i64ok rv52.1.Op ∧ rv52.1.Def.b.length ≤ 140737488355328 ∧ i64ok rv52.2.at_ ∧ i64ok rv52.2.Err), fun G => sl (G.g 3 0) rv52.1.Uses, fun G => sl (G.g 3 1) rv52.1.Targets, fun G => Cl pP [vl pa0 pk0 p.l, vi rv52.2.at_, vi rv52.2.Err]] (fun G => xC [0, 0] ca157 (fn157 pP (Gparser.mk p.l p1_28 p2_29) pa0 pk0 pre pre rv52 hg53)) (Dx [] [] [0] (fun G => (G.g 4 0)) [fun G => Cr (G.g 4 0) 1 [vi rv52.1.Op, .string (bs rv52.1.Def), (G.g 3 0), (G.g 3 1)]] (fun G => xA (AsV sl166 sz166 [.agg #[vi rv52.1.Op, .string (bs rv52.1.Def), (G.g 3 0), (G.g 3 1)]] [vi rv52.1.Op, .string (bs rv52.1.Def), (G.g 3 0), (G.g 3 1)])) ?_)
  refine pC H hx38 fun hc55 H => ?_
  have hn57 := la b1_30 ([rv52.1] : List GStmt)
  refine Dx [2, 6, 7, 8, 10] [2, 10] [3, 1, 2, 0] (fun G => (G.g 5 0)) [fun G => os (G.g 5 0) ((b1_30 ++ [rv52.1]) : List GStmt)] (fun G => by refine xf 1 rfl ?_; rintro ⟨he58, he59, he60, he61⟩; unfold i64ok at he58 he60 he61; exact xp [4, 2, 3] rfl (Ent.cr1 (α := GStmt) (A := [sl (G.g 3 0) rv52.1.Uses, sl (G.g 3 1) rv52.1.Targets]) _ rv52.1 _ aB1 (fun h => ⟨_, _, rfl, aL1, aS1, sepAll_get (i := 0) rfl h, sepAll_get (i := 1) rfl h⟩)) (xA (ApO [3, 0] sl166 sl166 sz166))) (Dv [0] (Vfa fo168_1 0) (Dx0 [3, 11] [3] [1, 0] [fun G => Cl p3 [.string (bs rv9.1), (G.g 5 0)]] (fun G => x1 1 rfl os_one fun ho62 => (xS (OpS.frame [0] rfl (OpS.storeClF [(G.g 5 0)] [.string (bs rv9.1), (G.g 5 0)] rfl rfl rfl sh166 (cells_of_one ho62) rfl (by simp only [List.all_cons, List.all_nil, ho62, Bool.and_true, Bool.true_and] <;> rfl) aB1 rfl)))) ?_))
  refine Dn ⟨by kernel_rfl, fun G => ?_⟩
  refine Jw2 [(0, pP), (2, p2), (3, p3)] [0, 4, 5] [SP.fact (i64ok rv52.1.Op ∧ rv52.1.Def.b.length ≤ 140737488355328 ∧ i64ok rv52.2.at_ ∧ i64ok rv52.2.Err), sl (G.g 3 0) rv52.1.Uses, sl (G.g 3 1) rv52.1.Targets, Cl pP [vl pa0 pk0 p.l, vi rv52.2.at_, vi rv52.2.Err], os (G.g 5 0) ((b1_30 ++ [rv52.1]) : List GStmt), Cl p3 [.string (bs rv9.1), (G.g 5 0)]] ?_
  generalize G.g 3 0 = c50, G.g 3 1 = c51, G.g 5 0 = c56
  refine Jf 3 rfl ?_; rintro ⟨he63, he64, he65, he66⟩
  unfold i64ok at he63 he65 he66
  refine Jk [1, 1, 3, 4, 5, 5, 5] ?_
  refine Jo 2 ?_; rintro a67 k68 rfl
  refine Fb 16 2 fun _ => ?_
  refine FoS 2 fun ho70 => ?_
  refine Jo 3 ?_; rintro a71 k72 rfl
  refine Fb 16 3 fun _ => ?_
  refine FoS 3 fun ho74 => ?_
  refine Jo 5 ?_; rintro a75 k76 rfl
  refine Fb 72 5 fun _ => KS ?_
  exact Kg (r27, rv52.2.at_, rv52.2.Err, (b1_30 ++ [rv52.1]), a75, k76) [5, 4, 4, 0, 0] ⟨H, aM1, aM1⟩
 intro h45 H
 refine Ke ?_
 have H := llB H HL39
 dsimp only at H
 refine KS ?_
 refine Oq (VldA sh168 2) (Ost (Scl [3] sh168 [.string (bs rv9.1), vl a31 k32 b1_30]) (KS ?_))
 refine Jl [2] (Ent.freeze _ _) ?_
 have hq := rI H; subst hq
 exact Kr (vl a31 k32 b1_30) rfl (.cellN 1 rfl sh168 rfl (reads_Cl _ _) rfl .nil) [0, 2] en
theorem fn87 (pP : Value) (p : Gparser) (pa0 : Option Addr) (pk0 : Nat) (hp_1 : i64ok p.at_) (hp_2 : i64ok p.Err) (rr : GFunc × Gparser) (hrr : pz_function p = .ret rr) : FT Tryz.prog 87 #[pP] [Cl pP [vl pa0 pk0 p.l, vi p.at_, vi p.Err], S pa0 pk0 p.l] (fun g : Value => rr.1.Name.b.length ≤ 140737488355328 ∧ i64ok rr.2.at_ ∧ i64ok rr.2.Err) (fun g => .agg #[.string (bs rr.1.Name), g]) (fun g => [sl g rr.1.Blocks, Cl pP [vl pa0 pk0 p.l, vi rr.2.at_, vi rr.2.Err]]) := by
 refine FTi Tryz.func87 fun w0 M0 F0 => ?_
 unfold i64ok at hp_1 hp_2
 refine Fb 40 1 fun _ => ?_
 have hx0 := lrn rr; have H := hrr; unfold pz_function at H
 refine KS ?_
 refine Oa (Al ze126 [.string (bs (Str.mk [])), .slice none 0 0]) fun p2 => KS ?_
 refine Oa (Al ze126 [.string (bs (Str.mk [])), .slice none 0 0]) fun p3 => KS ?_
 refine Oq Vm ?_
 refine lbH H hx0 fun rv4 hg5 H => ?_
 have hc6 := fn121 pP p pa0 pk0 ((Str.mk [102, 117, 110, 99])) pre pre pre rv4 hg5
 refine Oc [2, 2] ca121 hc6 ?_
 rintro - ⟨he7, he8⟩
 unfold i64ok at he7 he8
 refine KS ?_
 refine Oq Vm ?_
 refine lbH H hx0 fun rv9 hg10 H => ?_
 have hc11 := fn122 pP (Gparser.mk p.l rv4.at_ rv4.Err) pa0 pk0 pre pre rv9 hg10
 refine Oc [0, 2] ca122 hc11 ?_
 rintro - ⟨he12, he13, he14⟩
 unfold i64ok at he13 he14
 refine Oq (Vfa fo126_0 1) (Ost (SclF [1] sh9 [.string (bs rv9.1), .slice none 0 0]) (KS ?_))
 refine Oq Vm ?_
 refine lbH H hx0 fun rv15 hg16 H => ?_
 have hc17 := fn123 pP (Gparser.mk p.l rv9.2.at_ rv9.2.Err) pa0 pk0 pre pre rv15 hg16
 refine Oc [1, 2] ca123 hc17 ?_
 rintro - ⟨he18, he19⟩
 unfold i64ok at he18 he19
 refine KS ?_
 refine Oq Vm ?_
 refine lbH H hx0 fun rv20 hg21 H => ?_
 have hc22 := fn85 pP (Gparser.mk p.l rv15.at_ rv15.Err) pa0 pk0 ((Str.mk [98, 108, 111, 99, 107])) pre pre pre rv20 hg21
 refine Oc [0, 2] ca85 hc22 ?_
 rintro - -
 refine Oq Vnot (KS ?_)
 refine pF H hx0 fun h23 H => ?_
 refine KcF h23 ?_
 have h25 := not_false h23
 refine KS ?_
 refine Jl [] (Ent.osNil (α := GBlock)) ?_
 refine llH H hx0 fun X36 hX37 hx38 HL39 => ?_
 refine Kl (γ := Nat × Int × Int × List GBlock × Option Addr × Nat) (fun (r27, p1_28, p2_29, f1_30, a31, k32) => ⟨[(0, pP), (2, p2), (3, p3)], [O a31 k32 f1_30, Cl pP [vl pa0 pk0 p.l, vi p1_28, vi p2_29], Cl p3 [.string (bs rv9.1), vl a31 k32 f1_30], Cl p2 [.string (bs (Str.mk [])), .slice none 0 0], S pa0 pk0 p.l], pz_function_L0 p r27 p1_28 p2_29 f1_30 = X36 ∧ (-9223372036854775808 ≤ p1_28 ∧ p1_28 ≤ 9223372036854775807) ∧ (-9223372036854775808 ≤ p2_29 ∧ p2_29 ≤ 9223372036854775807), r27⟩) (100000, rv15.at_, rv15.Err, [], none, 0) [0, 0, 0, 0, 0] ⟨hX37, aM1, aM1⟩ ?_
 rintro ⟨r27, p1_28, p2_29, f1_30, a31, k32⟩ ⟨hM33, hk34, hk35⟩
 refine JJ_nx fun _ _ hL hA => ?_; dsimp only at hL hA; subst hL hA
 refine Fb 40 0 fun _ => Fb 40 4 fun _ => ?_
 rcases r27 with _ | r27
 ·exact absurd (hM33.symm.trans rfl) hx38
 have H := hM33; (try dsimp only at H); rw [pz_function_L0] at H
 refine KS ?_
 refine Oq Vm ?_
 refine lbH H hx38 fun rv42 hg43 H => ?_
 have hc44 := fn85 pP (Gparser.mk p.l p1_28 p2_29) pa0 pk0 ((Str.mk [98, 108, 111, 99, 107])) pre pre pre rv42 hg43
 refine Oc [1, 3] ca85 hc44 ?_
 rintro - -
 refine KS ?_
 refine KcH H ?_ ?_
 ·intro h45 H
  refine KS ?_
  refine Oq (Vfa fo126_1 2) (Oq (VldF sh124 2) (Oq (Vlen sl124) (Oq Veql (KS ?_))))
  refine pF H hx38 fun h47 H => ?_
  refine KcF h47 ?_
  have g48 := ne_of_beq_false h47
  refine KS ?_
  refine Jp 2 fun hp49 => ?_
  refine JK_drawK [0, 1, 0, 4, 12, 31, 63, 127] fmix ?_
  refine Dv [0] (Vfa fo126_1 0) (Dv [3] (VldF sh124 0) (Dv [] Vm ?_))
  refine lbH H hx38 fun rv51 hg52 H => ?_
  refine Dx [1, 5] [1] [3, 0, 1, 2] (fun G => .agg #[.string (bs rv51.1.Name), (G.g 3 0)]) [fun G => SP.fact (rv51.1.Name.b.length ≤ 140737488355328 ∧ i64ok rv51.2.at_ ∧ i64ok rv51.2.Err), fun G => sl (G.g 3 0) rv51.1.Stmts, fun G => Cl pP [vl pa0 pk0 p.l, vi rv51.2.at_, vi rv51.2.Err]] (fun G => xC [0, 0] ca124 (fn124 pP (Gparser.mk p.l p1_28 p2_29) pa0 pk0 pre pre rv51 hg52)) (Dx [] [] [0] (fun G => (G.g 4 0)) [fun G => Cr (G.g 4 0) 1 [.string (bs rv51.1.Name), (G.g 3 0)]] (fun G => xA (AsV sl124 sz124 [.agg #[.string (bs rv51.1.Name), (G.g 3 0)]] [.string (bs rv51.1.Name), (G.g 3 0)])) ?_)
  refine pC H hx38 fun hc54 H => ?_
  have hn56 := la f1_30 ([rv51.1] : List GBlock)
  refine Dx [2, 6, 7, 9] [2, 9] [2, 1, 0] (fun G => (G.g 5 0)) [fun G => os (G.g 5 0) ((f1_30 ++ [rv51.1]) : List GBlock)] (fun G => by refine xf 1 rfl ?_; rintro ⟨he57, he58, he59⟩; unfold i64ok at he58 he59; exact xp [3, 2] rfl (Ent.cr1 (α := GBlock) (A := [sl (G.g 3 0) rv51.1.Stmts]) _ rv51.1 _ aB1 (fun h => ⟨_, rfl, aS1, sepAll_get (i := 0) rfl h⟩)) (xA (ApO [2, 0] sl124 sl124 sz124))) (Dv [0] (Vfa fo126_1 0) (Dx0 [3, 10] [3] [1, 0] [fun G => Cl p3 [.string (bs rv9.1), (G.g 5 0)]] (fun G => x1 1 rfl os_one fun ho60 => (xS (OpS.frame [0] rfl (OpS.storeClF [(G.g 5 0)] [.string (bs rv9.1), (G.g 5 0)] rfl rfl rfl sh124 (cells_of_one ho60) rfl (by simp only [List.all_cons, List.all_nil, ho60, Bool.and_true, Bool.true_and] <;> rfl) aB1 rfl)))) ?_))
  refine Dn ⟨by kernel_rfl, fun G => ?_⟩
  refine Jw2 [(0, pP), (2, p2), (3, p3)] [0, 4, 5] [SP.fact (rv51.1.Name.b.length ≤ 140737488355328 ∧ i64ok rv51.2.at_ ∧ i64ok rv51.2.Err), sl (G.g 3 0) rv51.1.Stmts, Cl pP [vl pa0 pk0 p.l, vi rv51.2.at_, vi rv51.2.Err], os (G.g 5 0) ((f1_30 ++ [rv51.1]) : List GBlock), Cl p3 [.string (bs rv9.1), (G.g 5 0)]] ?_
  generalize G.g 3 0 = c50, G.g 5 0 = c55
  refine Jf 3 rfl ?_; rintro ⟨he61, he62, he63⟩
  unfold i64ok at he62 he63
  refine Jk [1, 1, 3, 4, 4, 4] ?_
  refine Jo 2 ?_; rintro a64 k65 rfl
  refine Fb 72 2 fun _ => ?_
  refine Jo 4 ?_; rintro a67 k68 rfl
  refine Fb 40 4 fun _ => KS ?_
  exact Kg (r27, rv51.2.at_, rv51.2.Err, (f1_30 ++ [rv51.1]), a67, k68) [4, 3, 3, 0, 0] ⟨H, aM1, aM1⟩
 intro h45 H
 refine Ke ?_
 have H := llB H HL39
 dsimp only at H
 refine KS ?_
 refine Oq Vm ?_
 refine lbH H hx0 fun rv71 hg72 H => ?_
 have hc73 := fn121 pP (Gparser.mk p.l p1_28 p2_29) pa0 pk0 ((Str.mk [101, 110, 100])) pre pre pre rv71 hg72
 refine Oc [0, 3] ca121 hc73 ?_
 rintro - ⟨he74, he75⟩
 unfold i64ok at he74 he75
 refine KS ?_
 refine Oq Vm ?_
 refine lbH H hx0 fun rv76 hg77 H => ?_
 have hc78 := fn123 pP (Gparser.mk p.l rv71.at_ rv71.Err) pa0 pk0 pre pre rv76 hg77
 refine Oc [0, 3] ca123 hc78 ?_
 rintro - ⟨he79, he80⟩
 unfold i64ok at he79 he80
 refine KS ?_
 refine Oq (VldA sh126 2) (Ost (Scl [3] sh126 [.string (bs rv9.1), vl a31 k32 f1_30]) (KS ?_))
 refine Jl [2] (Ent.freeze _ _) ?_
 have hq := rI H; subst hq
 exact Kr (vl a31 k32 f1_30) rfl (.cellN 1 rfl sh126 rfl (reads_Cl _ _) rfl .nil) [0, 2] en
theorem fn50 (text : Str) (htext_0 : text.b.length ≤ 140737488355328) (rr : GProgram × Int × Int × Int) (hrr : r4_Parse text = .ret rr) : FT Tryz.prog 50 #[.string (bs text)] [] (fun g : Value => i64ok rr.2.1 ∧ i64ok rr.2.2.1 ∧ i64ok rr.2.2.2) (fun g => .tuple #[.agg #[g], vi rr.2.1, vi rr.2.2.1, vi rr.2.2.2]) (fun g => [sl g rr.1.Funcs]) := by
 refine FTi Tryz.func50 fun w0 M0 F0 => ?_
 have hx0 := lrn rr; have H := hrr; unfold r4_Parse at H
 refine KS ?_
 refine Oa (Al ze84 [.slice none 0 0]) fun p1 => Oq Va (Oq Va (Oq Va (KS ?_)))
 refine Oq Vm ?_
 refine lbH H hx0 fun rv3 hg4 H => ?_
 have hc5 := fn84 text pre rv3 hg4
 refine Oc [] ca84 hc5 ?_
 rintro c2 ⟨he6, he7, he8⟩
 unfold i64ok at he6 he7 he8
 refine Jo 0 ?_; rintro a9 k10 rfl
 refine Fb 40 0 fun _ => ?_
 refine Oq Vm (Oq Vx (Oq Vx (Oq Vx (Oq Vx (Oq Va (Oq Va (Oq Va (Oq Va (KS ?_)))))))))
 refine Oq Vm (Oq Vneq (KS ?_))
 refine pF H hx0 fun h12 H => ?_
 refine KcF h12 ?_
 have g13 := eq_of_bne_false h12
 refine KS ?_
 refine Oq Vm (Oq (Vbd st121 [vl a9 k10 rv3.1, vi 0, vi 0]) (Oa (AbO [vl a9 k10 rv3.1, vi 0, vi 0]) fun p14 => Oq Va (KS ?_)))
 refine Oa (Al ze84 [.slice none 0 0]) fun p15 => KS ?_
 refine Oq Vm ?_
 refine lbH H hx0 fun rv16 hg17 H => ?_
 have hc18 := fn85 p14 (Gparser.mk rv3.1 0 0) a9 k10 ((Str.mk [102, 117, 110, 99])) pre pre pre rv16 hg17
 refine Oc [1, 1] ca85 hc18 ?_
 rintro - -
 refine Oq Vnot (KS ?_)
 refine pF H hx0 fun h19 H => ?_
 refine KcF h19 ?_
 have h21 := not_false h19
 refine KS ?_
 refine Jl [] (Ent.osNil (α := GFunc)) ?_
 refine llH H hx0 fun X32 hX33 hx34 HL35 => ?_
 refine Kl (γ := Nat × Int × Int × List GFunc × Option Addr × Nat) (fun (r23, p1_24, p2_25, out0_26, a27, k28) => ⟨[(2, p1), (6, vl a9 k10 rv3.1), (10, p14), (11, p15)], [O a27 k28 out0_26, Cl p14 [vl a9 k10 rv3.1, vi p1_24, vi p2_25], Cl p15 [vl a27 k28 out0_26], S a9 k10 rv3.1, Cl p1 [.slice none 0 0]], r4_Parse_L0 rv3.1 r23 p1_24 p2_25 out0_26 = X32 ∧ (-9223372036854775808 ≤ p1_24 ∧ p1_24 ≤ 9223372036854775807) ∧ (-9223372036854775808 ≤ p2_25 ∧ p2_25 ≤ 9223372036854775807), r23⟩) (100000, 0, 0, [], none, 0) [0, 0, 0, 0, 1] ⟨hX33, aM1, aM1⟩ ?_
 rintro ⟨r23, p1_24, p2_25, out0_26, a27, k28⟩ ⟨hM29, hk30, hk31⟩
 refine JJ_nx fun _ _ hL hA => ?_; dsimp only at hL hA; subst hL hA
 refine Fb 40 0 fun _ => Fb 40 3 fun _ => ?_
 rcases r23 with _ | r23
 ·exact absurd (hM29.symm.trans rfl) hx34
 have H := hM29; (try dsimp only at H); rw [r4_Parse_L0] at H
 refine KS ?_
 refine Oq Vm ?_
 refine lbH H hx34 fun rv38 hg39 H => ?_
 have hc40 := fn85 p14 (Gparser.mk rv3.1 p1_24 p2_25) a9 k10 ((Str.mk [102, 117, 110, 99])) pre pre pre rv38 hg39
 refine Oc [1, 2] ca85 hc40 ?_
 rintro - -
 refine KS ?_
 refine KcH H ?_ ?_
 ·intro h41 H
  refine KS ?_
  refine Oq (Vfa fo84_0 2) (Oq (VldF sh82 2) (Oq (Vlen sl82) (Oq Veql (KS ?_))))
  refine pF H hx34 fun h43 H => ?_
  refine KcF h43 ?_
  have g44 := ne_of_beq_false h43
  refine KS ?_
  refine Jp 2 fun hp45 => ?_
  refine JK_drawK [0, 1, 0, 4, 12, 31, 63, 127] fmix ?_
  refine Dv [0] (Vfa fo84_0 0) (Dv [3] (VldF sh82 0) (Dv [] Vm ?_))
  refine lbH H hx34 fun rv47 hg48 H => ?_
  refine Dx [1, 4] [1] [3, 0, 1, 2] (fun G => .agg #[.string (bs rv47.1.Name), (G.g 3 0)]) [fun G => SP.fact (rv47.1.Name.b.length ≤ 140737488355328 ∧ i64ok rv47.2.at_ ∧ i64ok rv47.2.Err), fun G => sl (G.g 3 0) rv47.1.Blocks, fun G => Cl p14 [vl a9 k10 rv3.1, vi rv47.2.at_, vi rv47.2.Err]] (fun G => xC [0, 0] ca87 (fn87 p14 (Gparser.mk rv3.1 p1_24 p2_25) a9 k10 pre pre rv47 hg48)) (Dx [] [] [0] (fun G => (G.g 4 0)) [fun G => Cr (G.g 4 0) 1 [.string (bs rv47.1.Name), (G.g 3 0)]] (fun G => xA (AsV sl82 sz82 [.agg #[.string (bs rv47.1.Name), (G.g 3 0)]] [.string (bs rv47.1.Name), (G.g 3 0)])) ?_)
  refine pC H hx34 fun hc50 H => ?_
  have hn52 := la out0_26 ([rv47.1] : List GFunc)
  refine Dx [2, 6, 7, 9] [2, 9] [2, 1, 0] (fun G => (G.g 5 0)) [fun G => os (G.g 5 0) ((out0_26 ++ [rv47.1]) : List GFunc)] (fun G => by refine xf 1 rfl ?_; rintro ⟨he53, he54, he55⟩; unfold i64ok at he54 he55; exact xp [3, 2] rfl (Ent.cr1 (α := GFunc) (A := [sl (G.g 3 0) rv47.1.Blocks]) _ rv47.1 _ aB1 (fun h => ⟨_, rfl, aS1, sepAll_get (i := 0) rfl h⟩)) (xA (ApO [2, 0] sl82 sl82 sz82))) (Dv [0] (Vfa fo84_0 0) (Dx0 [3, 10] [3] [1, 0] [fun G => Cl p15 [(G.g 5 0)]] (fun G => x1 1 rfl os_one fun ho56 => (xS (OpS.frame [0] rfl (OpS.storeClF [(G.g 5 0)] [(G.g 5 0)] rfl rfl rfl sh82 (cells_of_one ho56) rfl (by simp only [List.all_cons, List.all_nil, ho56, Bool.and_true, Bool.true_and] <;> rfl) aB1 rfl)))) ?_))
  refine Dn ⟨by kernel_rfl, fun G => ?_⟩
  refine Jw2 [(2, p1), (6, vl a9 k10 rv3.1), (10, p14), (11, p15)] [0, 4, 5] [SP.fact (rv47.1.Name.b.length ≤ 140737488355328 ∧ i64ok rv47.2.at_ ∧ i64ok rv47.2.Err), sl (G.g 3 0) rv47.1.Blocks, Cl p14 [vl a9 k10 rv3.1, vi rv47.2.at_, vi rv47.2.Err], os (G.g 5 0) ((out0_26 ++ [rv47.1]) : List GFunc), Cl p15 [(G.g 5 0)]] ?_
  generalize G.g 3 0 = c46, G.g 5 0 = c51
  refine Jf 3 rfl ?_; rintro ⟨he57, he58, he59⟩
  unfold i64ok at he58 he59
  refine Jk [1, 2, 3, 4, 4, 4] ?_
  refine Jo 2 ?_; rintro a60 k61 rfl
  refine Fb 40 2 fun _ => ?_
  refine Jo 4 ?_; rintro a63 k64 rfl
  refine Fb 40 4 fun _ => KS ?_
  exact Kg (r23, rv47.2.at_, rv47.2.Err, (out0_26 ++ [rv47.1]), a63, k64) [4, 3, 3, 0, 1] ⟨H, aM1, aM1⟩
 intro h41 H
 refine Ke ?_
 have H := llB H HL35
 dsimp only at H
 refine KS ?_
 refine Oq Vm (Oq (Vn 0) (Oq (Vfa fo121_2 0) (Oq (VldF sh33 0) (Oq Veql (Oq Vm ?_)))))
 refine pT H hx0 fun h67 H => ?_
 refine JsT 53 h67 ?_
 have g68 := eq_of_beq h67
 refine Oq Vm (Oq (Vn 0) (Oq (Vfa fo121_1 0) (Oq (VldF sh3 0) (Oq Vm (Oq (Vlen sl116) (Oq Vlss (Oq Vpt (KS ?_))))))))
 refine pF H hx0 fun h69 H => ?_
 refine KcF h69 ?_
 have g70 := df h69
 refine KS ?_
 refine Oq Vm (Oq (Vn 0) (Oq (Vfa fo121_2 0) (Oq (VldF sh33 0) (Oq Veql (KS ?_)))))
 refine Kc ?_ ?_
 ·intro h71
  have g72 := eq_of_beq h71
  refine KS ?_
  refine Oq (VldA sh84 2) (Ost (Scl [4] sh84 [vl a27 k28 out0_26]) (Oq Va (Oq Va (Oq Va (KS ?_)))))
  refine Jl [2] (Ent.freeze _ _) ?_
  have hq := rI H; subst hq
  exact Kr (vl a27 k28 out0_26) rfl (.cellN 1 rfl sh84 rfl (reads_Cl _ _) rfl (.tmp rfl (.tmp rfl (.tmp rfl .nil)))) [0] en
 intro h71
 exact absurd h71 (by first | (simp [h67]; done) | (simp only [bne, h67]; decide) | (simp only [bne, h67, Bool.not_true, Bool.not_false]; decide) | (exfalso; omega) | (intro hq; simp only [bne, hq, Bool.not_false, Bool.not_true, reduceCtorEq] at h67))
theorem fn129 (l : List Str) (la0 : Option Addr) (lk0 : Nat) (s : Str) (hs_0 : s.b.length ≤ 140737488355328) (rr : Int) (hrr : r4_Place l s = .ret rr) : FT Tryz.prog 129 #[vl la0 lk0 l, .string (bs s)] [S la0 lk0 l] (fun g : Unit => i64ok rr) (fun g => vi rr) (fun g => []) := by
 refine FTi Tryz.func129 fun w0 M0 F0 => Fb 16 0 fun _ => ?_
 refine FoS 0 fun ho2 => ?_
 have hx0 := lrn rr; have H := hrr; unfold r4_Place at H
 refine KS ?_
 refine Oq Va (KS ?_)
 refine Oq Va (KS ?_)
 refine llH H hx0 fun X10 hX11 hx12 HL13 => ?_
 refine Kl (γ := Nat × Int) (fun (r3, i_4) => ⟨[(0, vl la0 lk0 l), (1, .string (bs s)), (5, vi i_4)], [S la0 lk0 l], r4_Place_L0 l s r3 i_4 = X10 ∧ r3 = ((l.length : Int) - i_4).toNat ∧ (0 : Int) ≤ i_4 ∧ i_4 ≤ (l.length : Int) ∧ (-9223372036854775808 ≤ i_4 ∧ i_4 ≤ 9223372036854775807), r3⟩) (((l.length : Int) - 0).toNat, 0) [0] ⟨hX11, rfl, aM1, aM1, aM1⟩ ?_
 rintro ⟨r3, i_4⟩ ⟨hM5, hr6, hi7, hi8, hk9⟩
 refine JJ_nx fun _ _ hL hA => ?_; dsimp only at hL hA; subst hL hA
 refine Fb 16 0 fun _ => ?_
 refine FoS 0 fun ho15 => ?_
 refine KS ?_
 refine Oq Vm (Oq Vm (Oq (Vlen sl138) (Oq Vlss (KS ?_))))
 refine Kc ?_ ?_
 ·intro h16
  have g17 := dt h16
  obtain ⟨r18, rfl⟩ := scc (n := r3) aM1
  have H := hM5; (try dsimp only at H); rw [r4_Place_L0] at H
  refine KS ?_
  refine Oq Vm (Oq Vm ?_)
  refine pC H hx12 fun hc19 H => ?_
  refine Oq (Vi sl138 0) ?_
  have hb20 := okS (i := i_4.toNat) ho15 rng
  refine Oq (VldS sh9 0) (Oq Vm (Oq (VeqS (l := (l.getD i_4.toNat default)) (m := s)) (KS ?_)))
  refine KcH H ?_ ?_
  ·intro h21 H
   have g22 := eq_of_beq h21
   refine KS ?_
   refine Oq Vm (Oq Va (KS ?_))
   have H := llR H HL13
   have hq := rI H; subst hq
   exact Kr () rfl (.tmp rfl .nil) [] en
  intro h21 H
  have g23 := ne_of_beq_false h21
  refine KS ?_
  refine Oq Vm (Oq Vadd (Oq Va (KS ?_)))
  refine pC H hx12 fun hc24 H => ?_
  exact Kg (r18, (i_4 + 1)) [0] ⟨H, aM1, aM1, aM1, aM1⟩
 intro h16
 have g25 := df h16
 obtain rfl : r3 = 0 := by omega
 have H := hM5; (try dsimp only at H); rw [r4_Place_L0] at H
 refine Ke ?_
 have H := llB H HL13
 refine KS ?_
 refine Oq Va (KS ?_)
 have hq := rI H; subst hq
 exact Kr () rfl (.tmp rfl .nil) [] en
theorem fn183 (l : List Str) (la0 : Option Addr) (lk0 : Nat) (a : Int) (b : Int) (ha_0 : i64ok a) (hb_0 : i64ok b) (rr : Bool) (hrr : r4_namesOK l a b = .ret rr) : FT Tryz.prog 183 #[vl la0 lk0 l, vi a, vi b] [S la0 lk0 l] (fun g : Unit => True) (fun g => vb rr) (fun g => []) := by
 refine FTi Tryz.func183 fun w0 M0 F0 => ?_
 unfold i64ok at ha_0 hb_0
 refine Fb 16 0 fun _ => ?_
 refine FoS 0 fun ho2 => ?_
 have hx0 := lrn rr; have H := hrr; unfold r4_namesOK at H
 refine KS ?_
 refine Oq Va (KS ?_)
 refine Oq Va (KS ?_)
 refine llH H hx0 fun X10 hX11 hx12 HL13 => ?_
 refine Kl (γ := Nat × Int) (fun (r3, i_4) => ⟨[(0, vl la0 lk0 l), (1, vi a), (2, vi b), (7, vi i_4)], [S la0 lk0 l], r4_namesOK_L0 l r3 i_4 = X10 ∧ r3 = ((l.length : Int) - i_4).toNat ∧ (0 : Int) ≤ i_4 ∧ i_4 ≤ (l.length : Int) ∧ (-9223372036854775808 ≤ i_4 ∧ i_4 ≤ 9223372036854775807), r3⟩) (((l.length : Int) - 0).toNat, 0) [0] ⟨hX11, rfl, aM1, aM1, aM1⟩ ?_
 rintro ⟨r3, i_4⟩ ⟨hM5, hr6, hi7, hi8, hk9⟩
 refine JJ_nx fun _ _ hL hA => ?_; dsimp only at hL hA; subst hL hA
 refine Fb 16 0 fun _ => ?_
 refine FoS 0 fun ho15 => ?_
 refine KS ?_
 refine Oq Vm (Oq Vm (Oq (Vlen sl138) (Oq Vlss (KS ?_))))
 refine Kc ?_ ?_
 ·intro h16
  have g17 := dt h16
  obtain ⟨r18, rfl⟩ := scc (n := r3) aM1
  have H := hM5; (try dsimp only at H); rw [r4_namesOK_L0] at H
  refine KS ?_
  refine Oq Vm (Oq Vm ?_)
  refine pC H hx12 fun hc19 H => ?_
  refine Oq (Vi sl138 0) ?_
  have hb20 := okS (i := i_4.toNat) ho15 rng
  refine Oq (VldS sh9 0) ?_
  refine lbH H hx12 fun rv21 hg22 H => ?_
  have hc23 := fn176 ((l.getD i_4.toNat default)) pre rv21 hg22
  refine Oc [] ca176 hc23 ?_
  rintro - -
  refine Oq Vnot (KS ?_)
  refine pF H hx12 fun h24 H => ?_
  refine KcF h24 ?_
  have h26 := not_false h24
  refine KS ?_
  refine Oq Vm (Oq Vadd (Oq Va (KS ?_)))
  refine pC H hx12 fun hc28 H => ?_
  exact Kg (r18, (i_4 + 1)) [0] ⟨H, aM1, aM1, aM1, aM1⟩
 intro h16
 have g29 := df h16
 obtain rfl : r3 = 0 := by omega
 have H := hM5; (try dsimp only at H); rw [r4_namesOK_L0] at H
 refine Ke ?_
 have H := llB H HL13
 refine KS ?_
 refine Oq Vm (Oq (Vlen sl138) (Oq Vm (Oq Vgeq (Oq Vm ?_))))
 refine pT H hx0 fun h30 H => ?_
 refine JsT 24 h30 ?_
 have g31 := dt h30
 refine Oq Vm (Oq (Vlen sl138) (Oq Vm (Oq Vleq (Oq Vpt (Oq Va (KS ?_))))))
 have hq := rI H; subst hq
 exact Kr () rfl (.tmp rfl .nil) [] trivial
theorem fn179 (s : GStmt) (sa2 : Option Addr) (sk2 : Nat) (sa3 : Option Addr) (sk3 : Nat) (hs_0 : i64ok s.Op) (hs_1 : s.Def.b.length ≤ 140737488355328) (rr : Bool) (hrr : r4_stmtOK s = .ret rr) : FT Tryz.prog 179 #[.agg #[vi s.Op, .string (bs s.Def), vl sa2 sk2 s.Uses, vl sa3 sk3 s.Targets]] [S sa2 sk2 s.Uses, S sa3 sk3 s.Targets] (fun g : Unit => True) (fun g => vb rr) (fun g => []) := by
 refine FTi Tryz.func179 fun w0 M0 F0 => ?_
 unfold i64ok at hs_0
 refine Fb 16 0 fun _ => ?_
 refine FoS 0 fun ho2 => ?_
 refine Fb 16 1 fun _ => ?_
 refine FoS 1 fun ho4 => ?_
 have hx0 := lrn rr; have H := hrr; unfold r4_stmtOK at H
 refine KS ?_
 refine Oa (Ab [vi s.Op, .string (bs s.Def), vl sa2 sk2 s.Uses, vl sa3 sk3 s.Targets]) fun p5 => Oq Va (KS ?_)
 refine Oq (Vfa fo140_1 0) (Oq (VldF sh9 0) ?_)
 refine lbH H hx0 fun rv6 hg7 H => ?_
 have hc8 := fn176 s.Def pre rv6 hg7
 refine Oc [] ca176 hc8 ?_
 rintro - -
 refine Oq Va (KS ?_)
 refine Kq [0, 1, 3, 0, 8, 24, 7, 127] fmix ?_
 refine Qv [0] (Vfa fo140_2 0) (Qv [0] (VldF sh138 0) (Qv [] (Vlen sl138) (Qv [0] (Vfa fo140_3 0) (Qv [0] (VldF sh138 0) (Qv [] (Vlen sl138) (Qv [] Va (Qv [] Va ?_)))))))
 refine Qn ⟨by kernel_rfl, ?_⟩
 refine KS ?_
 refine Oq (Vfa fo140_2 0) (Oq (VldF sh138 0) ?_)
 refine lbH H hx0 fun rv9 hg10 H => ?_
 have hc11 := fn183 s.Uses sa2 sk2 0 4 pre pre rv9 hg10
 refine Oc [1] ca183 hc11 ?_
 rintro - -
 refine Oq Vnot (Oq Vm ?_)
 refine pF H hx0 fun h12 H => ?_
 refine JsF 19 h12 ?_
 have h14 := not_false h12
 refine Oq (Vfa fo140_3 0) (Oq (VldF sh138 0) ?_)
 refine lbH H hx0 fun rv16 hg17 H => ?_
 have hc18 := fn183 s.Targets sa3 sk3 0 2 pre pre rv16 hg17
 refine Oc [2] ca183 hc18 ?_
 rintro - -
 refine Oq Vnot (Oq Vpf (KS ?_))
 refine pF H hx0 fun h19 H => ?_
 refine KcF h19 ?_
 have h21 := not_false h19
 refine KS ?_
 refine Oq (Vfa fo140_0 0) (Oq (VldF sh3 0) (KS ?_))
 refine Oq Veql (Oq Va (KS ?_))
 refine KcH H ?_ ?_
 ·intro h23 H
  have g24 := eq_of_beq h23
  refine KS ?_
  refine Oq Vm (Oq Vm ?_)
  refine pT H hx0 fun h25 H => ?_
  refine JsT 30 h25 ?_
  refine Oq Vm (Oq Veql (Oq Vpt (Oq Va (KS ?_))))
  have hq := rI H; subst hq
  exact Kr () rfl (.tmp rfl .nil) [] trivial
 intro h23 H
 have g27 := ne_of_beq_false h23
 refine KS ?_
 refine Oq Veql (Oq Va (KS ?_))
 refine KcH H ?_ ?_
 ·intro h28 H
  have g29 := eq_of_beq h28
  refine KS ?_
  refine Oq (Vfa fo140_1 0) (Oq (VldF sh9 0) (Oq (VeqS (l := s.Def) (m := (Str.mk []))) (Oq Vm ?_)))
  refine pT H hx0 fun h30 H => ?_
  refine JsT 39 h30 ?_
  have g31 := eq_of_beq h30
  refine Oq Vm (Oq Vgeq (Oq Vpt (Oq Vm ?_)))
  refine pT H hx0 fun h32 H => ?_
  refine JsT 43 h32 ?_
  have g33 := dt h32
  refine Oq Vm (Oq Veql (Oq Vpt (Oq Va (KS ?_))))
  have hq := rI H; subst hq
  exact Kr () rfl (.tmp rfl .nil) [] trivial
 intro h28 H
 have g34 := ne_of_beq_false h28
 refine KS ?_
 refine Oq Veql (Oq Va (KS ?_))
 refine pF H hx0 fun h35 H => ?_
 refine KcF h35 ?_
 have g36 := ne_of_beq_false h35
 refine KS ?_
 refine Oq Veql (Oq Va (KS ?_))
 refine pF H hx0 fun h37 H => ?_
 refine KcF h37 ?_
 have g38 := ne_of_beq_false h37
 refine KS ?_
 refine Oq Veql (Oq Va (KS ?_))
 refine pF H hx0 fun h39 H => ?_
 refine KcF h39 ?_
 have g40 := ne_of_beq_false h39
 refine KS ?_
 refine Oq Veql (Oq Va (KS ?_))
 refine pF H hx0 fun h41 H => ?_
 refine KcF h41 ?_
 have g42 := ne_of_beq_false h41
 refine KS ?_
 refine Oq Veql (Oq Va (KS ?_))
 refine pF H hx0 fun h43 H => ?_
 refine KcF h43 ?_
 have g44 := ne_of_beq_false h43
 refine KS ?_
 refine Oq Veql (Oq Va (KS ?_))
 refine pF H hx0 fun h45 H => ?_
 refine KcF h45 ?_
 have g46 := ne_of_beq_false h45
 refine KS ?_
 refine Oq Veql (Oq Va (KS ?_))
 refine pT H hx0 fun h47 H => ?_
 refine KcT h47 ?_
 have g48 := eq_of_beq h47
 refine KS ?_
 refine Oq (Vfa fo140_1 0) (Oq (VldF sh9 0) (Oq (VeqS (l := s.Def) (m := (Str.mk []))) (Oq Vm ?_)))
 refine pT H hx0 fun h49 H => ?_
 refine JsT 104 h49 ?_
 have g50 := eq_of_beq h49
 refine Oq Vm (Oq Veql (Oq Vpt (Oq Vm ?_)))
 refine pT H hx0 fun h51 H => ?_
 refine JsT 108 h51 ?_
 have g52 := eq_of_beq h51
 refine Oq Vm (Oq Veql (Oq Vpt (Oq Va (KS ?_))))
 have hq := rI H; subst hq
 exact Kr () rfl (.tmp rfl .nil) [] trivial
theorem fn158 (p : GProgram) (pa0 : Option Addr) (pk0 : Nat) (rr : Bool) (hrr : r4_Valid p = .ret rr) : FT Tryz.prog 158 #[.agg #[vl pa0 pk0 p.Funcs]] [S pa0 pk0 p.Funcs] (fun g : Unit => True) (fun g => vb rr) (fun g => []) := by
 refine FTi Tryz.func158 fun w0 M0 F0 => Fb 40 0 fun _ => ?_
 have hx0 := lrn rr; have H := hrr; unfold r4_Valid at H
 refine KS ?_
 refine Oa (Ab [vl pa0 pk0 p.Funcs]) fun p2 => Oq Va (KS ?_)
 refine Oq (Vfa fo84_0 0) (Oq (VldF sh82 0) (Oq (Vlen sl82) (Oq Vlss (Oq Vm ?_))))
 refine pF H hx0 fun h3 H => ?_
 refine JsF 12 h3 ?_
 have g4 := df h3
 refine Oq (Vfa fo84_0 0) (Oq (VldF sh82 0) (Oq (Vlen sl82) (Oq Vgtr (Oq Vpf (KS ?_)))))
 refine pF H hx0 fun h5 H => ?_
 refine KcF h5 ?_
 have g6 := df h5
 refine KS ?_
 refine Oq Va (KS ?_)
 refine llH H hx0 fun X14 hX15 hx16 HL17 => ?_
 refine Kl (γ := Nat × Int) (fun (r7, i_8) => ⟨[(1, p2), (3, vi i_8)], [pv p2 [vl pa0 pk0 p.Funcs], S pa0 pk0 p.Funcs], r4_Valid_L0 p r7 i_8 = X14 ∧ r7 = ((p.Funcs.length : Int) - i_8).toNat ∧ (0 : Int) ≤ i_8 ∧ i_8 ≤ (p.Funcs.length : Int) ∧ (-9223372036854775808 ≤ i_8 ∧ i_8 ≤ 9223372036854775807), r7⟩) (((p.Funcs.length : Int) - 0).toNat, 0) [0, 1] ⟨hX15, rfl, aM1, aM1, aM1⟩ ?_
 rintro ⟨r7, i_8⟩ ⟨hM9, hr10, hi11, hi12, hk13⟩
 refine JJ_nx fun _ _ hL hA => ?_; dsimp only at hL hA; subst hL hA
 refine Fb 40 1 fun _ => KS ?_
 refine Oq Vm (Oq (Vfa fo84_0 0) (Oq (VldF sh82 0) (Oq (Vlen sl82) (Oq Vlss (KS ?_)))))
 refine Kc ?_ ?_
 ·intro h19
  have g20 := dt h19
  obtain ⟨r21, rfl⟩ := scc (n := r7) aM1
  have H := hM9; (try dsimp only at H); rw [r4_Valid_L0] at H
  refine KS ?_
  refine Oq (Vfa fo84_0 0) (Oq (VldF sh82 0) (Oq Vm ?_))
  refine pC H hx16 fun hc22 H => ?_
  refine Oq (Vi sl82 1) ?_
  refine JJ_peek_GFunc i_8.toNat 1 rfl rng fun a23 k24 hb25 => ?_
  refine Fb 40 1 fun _ => ?_
  refine Oq (VldA sh126 0) (Oa (Al ze126 [.string (bs (Str.mk [])), .slice none 0 0]) fun p27 => Ost (Scl [0] sh126 [.string (bs ((p.Funcs.getD i_8.toNat default).Name)), vl a23 k24 ((p.Funcs.getD i_8.toNat default).Blocks)]) (KS ?_))
  refine Oq (Vfa fo126_0 0) (Oq (VldF sh9 0) ?_)
  refine pC H hx16 fun hc30 H => ?_
  refine lbH H hx16 fun rv28 hg29 H => ?_
  have hc31 := fn176 ((p.Funcs.getD i_8.toNat default).Name) pre rv28 hg29
  refine Oc [] ca176 hc31 ?_
  rintro - -
  refine Oq Vnot (Oq Vm ?_)
  refine pF H hx16 fun h32 H => ?_
  refine JsF 34 h32 ?_
  have h34 := not_false h32
  refine Oq (Vfa fo126_1 0) (Oq (VldF sh124 0) (Oq (Vlen sl124) (Oq Vlss (Oq Vpf (Oq Vm ?_)))))
  refine pF H hx16 fun h36 H => ?_
  refine JsF 40 h36 ?_
  have g37 := df h36
  refine Oq (Vfa fo126_1 0) (Oq (VldF sh124 0) (Oq (Vlen sl124) (Oq Vgtr (Oq Vpf (KS ?_)))))
  refine pF H hx16 fun h38 H => ?_
  refine KcF h38 ?_
  have g39 := df h38
  refine KS ?_
  refine Oq Va (KS ?_)
  refine llH H hx16 fun X47 hX48 hx49 HL50 => ?_
  refine Kl (γ := Nat × Int) (fun (r40, k_41) => ⟨[(1, p2), (3, vi i_8), (4, p27), (5, vi k_41)], [Cl p27 [.string (bs ((p.Funcs.getD i_8.toNat default).Name)), vl a23 k24 ((p.Funcs.getD i_8.toNat default).Blocks)], S a23 k24 ((p.Funcs.getD i_8.toNat default).Blocks), pv p2 [vl pa0 pk0 p.Funcs], S pa0 pk0 p.Funcs], r4_Valid_L1 ((p.Funcs.getD i_8.toNat default).Blocks) r40 k_41 = X47 ∧ r40 = (((((p.Funcs.getD i_8.toNat default).Blocks).length : Int) : Int) - k_41).toNat ∧ (0 : Int) ≤ k_41 ∧ (k_41 ≤ (((p.Funcs.getD i_8.toNat default).Blocks).length : Int) ∨ k_41 = 0) ∧ (-9223372036854775808 ≤ k_41 ∧ k_41 ≤ 9223372036854775807), r40⟩) ((((((p.Funcs.getD i_8.toNat default).Blocks).length : Int) : Int) - 0).toNat, 0) [0, 1, 2, 3] ⟨hX48, rfl, aM1, (.inr rfl), aM1⟩ ?_
  rintro ⟨r40, k_41⟩ ⟨hM42, hr43, hi44, hi45, hk46⟩
  refine JJ_nx fun _ _ hL hA => ?_; dsimp only at hL hA; subst hL hA
  refine Fb 40 1 fun _ => Fb 40 3 fun _ => KS ?_
  refine Oq Vm (Oq (Vfa fo126_1 0) (Oq (VldF sh124 0) (Oq (Vlen sl124) (Oq Vlss (KS ?_)))))
  refine Kc ?_ ?_
  ·intro h53
   have g54 := dt h53
   obtain ⟨r55, rfl⟩ := scc (n := r40) aM1
   have H := hM42; (try dsimp only at H); rw [r4_Valid_L1] at H
   refine KS ?_
   refine Oq (Vfa fo126_1 0) (Oq (VldF sh124 0) (Oq Vm ?_))
   refine pC H hx49 fun hc56 H => ?_
   refine Oq (Vi sl124 1) ?_
   refine JJ_peek_GBlock k_41.toNat 1 rfl rng fun a57 k58 hb59 => ?_
   refine Fb 72 1 fun _ => ?_
   refine Oq (VldA sh168 0) (Oa (Al ze168 [.string (bs (Str.mk [])), .slice none 0 0]) fun p61 => Ost (Scl [0] sh168 [.string (bs ((((p.Funcs.getD i_8.toNat default).Blocks).getD k_41.toNat default).Name)), .slice a57 (((((p.Funcs.getD i_8.toNat default).Blocks).getD k_41.toNat default).Stmts).length) k58]) (KS ?_))
   refine Oq (Vfa fo168_0 0) (Oq (VldF sh9 0) ?_)
   refine pC H hx49 fun hc64 H => ?_
   refine lbH H hx49 fun rv62 hg63 H => ?_
   have hc65 := fn176 ((((p.Funcs.getD i_8.toNat default).Blocks).getD k_41.toNat default).Name) pre rv62 hg63
   refine Oc [] ca176 hc65 ?_
   rintro - -
   refine Oq Vnot (Oq Vm ?_)
   refine pF H hx49 fun h66 H => ?_
   refine JsF 62 h66 ?_
   have h68 := not_false h66
   refine Oq (Vfa fo168_1 0) (Oq (VldF sh166 0) (Oq (Vlen sl166) (Oq Vlss (Oq Vpf (Oq Vm ?_)))))
   refine pF H hx49 fun h70 H => ?_
   refine JsF 68 h70 ?_
   have g71 := df h70
   refine Oq (Vfa fo168_1 0) (Oq (VldF sh166 0) (Oq (Vlen sl166) (Oq Vgtr (Oq Vpf (KS ?_)))))
   refine pF H hx49 fun h72 H => ?_
   refine KcF h72 ?_
   have g73 := df h72
   refine KS ?_
   refine Oq Va (KS ?_)
   refine llH H hx49 fun X81 hX82 hx83 HL84 => ?_
   refine Kl (γ := Nat × Int) (fun (r74, j_75) => ⟨[(1, p2), (3, vi i_8), (4, p27), (5, vi k_41), (6, p61), (7, vi j_75)], [Cl p61 [.string (bs ((((p.Funcs.getD i_8.toNat default).Blocks).getD k_41.toNat default).Name)), .slice a57 (((((p.Funcs.getD i_8.toNat default).Blocks).getD k_41.toNat default).Stmts).length) k58], S a57 k58 ((((p.Funcs.getD i_8.toNat default).Blocks).getD k_41.toNat default).Stmts), Cl p27 [.string (bs ((p.Funcs.getD i_8.toNat default).Name)), vl a23 k24 ((p.Funcs.getD i_8.toNat default).Blocks)], S a23 k24 ((p.Funcs.getD i_8.toNat default).Blocks), pv p2 [vl pa0 pk0 p.Funcs], S pa0 pk0 p.Funcs], r4_Valid_L2 ((((p.Funcs.getD i_8.toNat default).Blocks).getD k_41.toNat default).Stmts) r74 j_75 = X81 ∧ r74 = (((((((p.Funcs.getD i_8.toNat default).Blocks).getD k_41.toNat default).Stmts).length : Int) : Int) - j_75).toNat ∧ (0 : Int) ≤ j_75 ∧ (j_75 ≤ (((((p.Funcs.getD i_8.toNat default).Blocks).getD k_41.toNat default).Stmts).length : Int) ∨ j_75 = 0) ∧ (-9223372036854775808 ≤ j_75 ∧ j_75 ≤ 9223372036854775807), r74⟩) ((((((((p.Funcs.getD i_8.toNat default).Blocks).getD k_41.toNat default).Stmts).length : Int) : Int) - 0).toNat, 0) [0, 1, 2, 2, 3, 4] ⟨hX82, rfl, aM1, (.inr rfl), aM1⟩ ?_
   rintro ⟨r74, j_75⟩ ⟨hM76, hr77, hi78, hi79, hk80⟩
   refine JJ_nx fun _ _ hL hA => ?_; dsimp only at hL hA; subst hL hA
   refine Fb 72 1 fun _ => Fb 40 3 fun _ => Fb 40 5 fun _ => KS ?_
   refine Oq Vm (Oq (Vfa fo168_1 0) (Oq (VldF sh166 0) (Oq (Vlen sl166) (Oq Vlss (KS ?_)))))
   refine Kc ?_ ?_
   ·intro h88
    have g89 := dt h88
    obtain ⟨r90, rfl⟩ := scc (n := r74) aM1
    have H := hM76; (try dsimp only at H); rw [r4_Valid_L2] at H
    refine KS ?_
    refine Oq (Vfa fo168_1 0) (Oq (VldF sh166 0) (Oq Vm ?_))
    refine pC H hx83 fun hc91 H => ?_
    refine Oq (Vi sl166 1) ?_
    refine JJ_peek_GStmt j_75.toNat 1 rfl rng fun a92 k93 a94 k95 hb96 hb97 => ?_
    unfold i64ok at hb96
    refine Fb 16 1 fun _ => ?_
    refine FoS 1 fun ho99 => ?_
    refine Fb 16 2 fun _ => ?_
    refine FoS 2 fun ho101 => ?_
    refine Oq (VldA sh140 0) ?_
    refine pC H hx83 fun hc104 H => ?_
    refine lbH H hx83 fun rv102 hg103 H => ?_
    have hc105 := fn179 ((((((p.Funcs.getD i_8.toNat default).Blocks).getD k_41.toNat default).Stmts).getD j_75.toNat default)) a92 k93 a94 k95 pre pre rv102 hg103
    refine Oc [1, 2] ca179 hc105 ?_
    rintro - -
    refine Oq Vnot (KS ?_)
    refine pF H hx83 fun h106 H => ?_
    refine KcF h106 ?_
    have h108 := not_false h106
    refine KS ?_
    refine Oq Vm (Oq Vadd (Oq Va (KS ?_)))
    refine pC H hx83 fun hc110 H => ?_
    exact Kg (r90, (j_75 + 1)) [3, 3, 4, 4, 5, 6] ⟨H, aM1, aM1, aM1, aM1⟩
   intro h88
   have g111 := df h88
   obtain rfl : r74 = 0 := by omega
   have H := hM76; (try dsimp only at H); rw [r4_Valid_L2] at H
   refine Ke ?_
   have H := llB H HL84
   refine KS ?_
   refine Oq Vm (Oq Vadd (Oq Va (KS ?_)))
   refine pC H hx49 fun hc112 H => ?_
   exact Kg (r55, (k_41 + 1)) [2, 2, 3, 4] ⟨H, aM1, aM1, aM1, aM1⟩
  intro h53
  have g113 := df h53
  obtain rfl : r40 = 0 := by omega
  have H := hM42; (try dsimp only at H); rw [r4_Valid_L1] at H
  refine Ke ?_
  have H := llB H HL50
  refine KS ?_
  refine Oq Vm (Oq Vadd (Oq Va (KS ?_)))
  refine pC H hx16 fun hc114 H => ?_
  exact Kg (r21, (i_8 + 1)) [2, 3] ⟨H, aM1, aM1, aM1, aM1⟩
 intro h19
 have g115 := df h19
 obtain rfl : r7 = 0 := by omega
 have H := hM9; (try dsimp only at H); rw [r4_Valid_L0] at H
 refine Ke ?_
 have H := llB H HL17
 refine KS ?_
 refine Oq Va (KS ?_)
 have hq := rI H; subst hq
 exact Kr () rfl (.tmp rfl .nil) [] trivial
theorem fn126 (p : GProgram) (pa0 : Option Addr) (pk0 : Nat) (rr : List Str) (hrr : r4_Variables p = .ret rr) : FT Tryz.prog 126 #[.agg #[vl pa0 pk0 p.Funcs]] [S pa0 pk0 p.Funcs] (fun g : Value => True) (fun g => g) (fun g => [sl g rr]) := by
 refine FTi Tryz.func126 fun w0 M0 F0 => Fb 40 0 fun _ => ?_
 have hx0 := lrn rr; have H := hrr; unfold r4_Variables at H
 refine KS ?_
 refine Oa (Ab [vl pa0 pk0 p.Funcs]) fun p2 => Oq Va (KS ?_)
 refine Oq Va (KS ?_)
 refine Oq (VldA sh84 0) ?_
 refine lbH H hx0 fun rv3 hg4 H => ?_
 have hc5 := fn158 p pa0 pk0 rv3 hg4
 refine Oc [1] ca158 hc5 ?_
 rintro - -
 refine Oq Vnot (KS ?_)
 refine pF H hx0 fun h6 H => ?_
 refine KcF h6 ?_
 have h8 := not_false h6
 refine KS ?_
 refine Oq Va (KS ?_)
 refine Jl [] (Ent.osNil (α := Str)) ?_
 refine llH H hx0 fun X20 hX21 hx22 HL23 => ?_
 refine Kl (γ := Nat × List Str × Int × Option Addr × Nat) (fun (r10, out_11, i_12, a13, k14) => ⟨[(1, p2), (3, vl a13 k14 out_11), (4, vi i_12)], [O a13 k14 out_11, pv p2 [vl pa0 pk0 p.Funcs], S pa0 pk0 p.Funcs], r4_Variables_L0 p r10 out_11 i_12 = X20 ∧ r10 = ((p.Funcs.length : Int) - i_12).toNat ∧ (0 : Int) ≤ i_12 ∧ i_12 ≤ (p.Funcs.length : Int) ∧ (-9223372036854775808 ≤ i_12 ∧ i_12 ≤ 9223372036854775807), r10⟩) (((p.Funcs.length : Int) - 0).toNat, [], 0, none, 0) [0, 0, 1] ⟨hX21, rfl, aM1, aM1, aM1⟩ ?_
 rintro ⟨r10, out_11, i_12, a13, k14⟩ ⟨hM15, hr16, hi17, hi18, hk19⟩
 refine JJ_nx fun _ _ hL hA => ?_; dsimp only at hL hA; subst hL hA
 refine Fb 16 0 fun _ => ?_
 refine FoS 0 fun ho25 => ?_
 refine Fb 40 2 fun _ => KS ?_
 refine Oq Vm (Oq (Vfa fo84_0 1) (Oq (VldF sh82 1) (Oq (Vlen sl82) (Oq Vlss (KS ?_)))))
 refine Kc ?_ ?_
 ·intro h27
  have g28 := dt h27
  obtain ⟨r29, rfl⟩ := scc (n := r10) aM1
  have H := hM15; (try dsimp only at H); rw [r4_Variables_L0] at H
  refine KS ?_
  refine Oq Va (KS ?_)
  refine llH H hx22 fun X37 hX38 hx39 HL40 => ?_
  refine Kl (γ := Nat × List Str × Int × Option Addr × Nat) (fun (r30, out_31, k_32, a33, k34) => ⟨[(1, p2), (3, vl a33 k34 out_31), (4, vi i_12), (5, vi k_32)], [O a33 k34 out_31, pv p2 [vl pa0 pk0 p.Funcs], S pa0 pk0 p.Funcs], r4_Variables_L1 p i_12 r30 out_31 k_32 = X37 ∧ (-9223372036854775808 ≤ k_32 ∧ k_32 ≤ 9223372036854775807), r30⟩) (100000, out_11, 0, a13, k14) [0, 0, 1] ⟨hX38, aM1⟩ ?_
  rintro ⟨r30, out_31, k_32, a33, k34⟩ ⟨hM35, hk36⟩
  refine JJ_nx fun _ _ hL hA => ?_; dsimp only at hL hA; subst hL hA
  refine Fb 16 0 fun _ => ?_
  refine FoS 0 fun ho42 => ?_
  refine Fb 40 2 fun _ => ?_
  rcases r30 with _ | r30
  ·exact absurd (hM35.symm.trans rfl) hx39
  have H := hM35; (try dsimp only at H); rw [r4_Variables_L1] at H
  refine KS ?_
  refine Oq Vm (Oq (Vfa fo84_0 1) (Oq (VldF sh82 1) (Oq Vm ?_)))
  refine pC H hx39 fun hc44 H => ?_
  refine Oq (Vi sl82 2) ?_
  refine JJ_peek_GFunc i_12.toNat 2 rfl rng fun a45 k46 hb47 => ?_
  refine Fb 40 1 fun _ => ?_
  refine Oq (Vfa fo126_1 0) (Oq (VldF sh124 0) (Oq (Vlen sl124) (Oq Vlss (KS ?_))))
  refine pC H hx39 fun hc50 H => ?_
  refine KcH H ?_ ?_
  ·intro h49 H
   have g51 := dt h49
   refine KS ?_
   refine Oq (Vfa fo84_0 3) (Oq (VldF sh82 3) (Oq Vm (Oq (Vi sl82 4) (Oq (Vfa fo126_1 0) (Oq (VldF sh124 0) (Oq Vm ?_))))))
   refine pC H hx39 fun hc52 H => ?_
   refine pC H hx39 fun hc53 H => ?_
   refine Oq (Vi sl124 1) ?_
   refine JJ_peek_GBlock k_32.toNat 1 rfl rng fun a54 k55 hb56 => ?_
   refine Fb 72 1 fun _ => ?_
   refine Oq (Vfa fo168_1 0) (Oq (VldF sh166 0) (Oq Va (KS ?_)))
   refine Oq Va (KS ?_)
   refine pC H hx39 fun hc68 H => ?_
   refine llH H hx39 fun X69 hX70 hx71 HL72 => ?_
   refine Kl (γ := Nat × List Str × Int × Option Addr × Nat) (fun (r58, out_59, j_60, a61, k62) => ⟨[(1, p2), (3, vl a61 k62 out_59), (4, vi i_12), (5, vi k_32), (6, .slice a54 (((((p.Funcs.getD i_12.toNat default).Blocks).getD k_32.toNat default).Stmts).length) k55), (7, vi j_60)], [O a61 k62 out_59, S a54 k55 ((((p.Funcs.getD i_12.toNat default).Blocks).getD k_32.toNat default).Stmts), pv p2 [vl pa0 pk0 p.Funcs], S pa0 pk0 p.Funcs], r4_Variables_L2 ((((p.Funcs.getD i_12.toNat default).Blocks).getD k_32.toNat default).Stmts) r58 out_59 j_60 = X69 ∧ r58 = (((((((p.Funcs.getD i_12.toNat default).Blocks).getD k_32.toNat default).Stmts).length : Int) : Int) - j_60).toNat ∧ (0 : Int) ≤ j_60 ∧ (j_60 ≤ (((((p.Funcs.getD i_12.toNat default).Blocks).getD k_32.toNat default).Stmts).length : Int) ∨ j_60 = 0) ∧ (-9223372036854775808 ≤ j_60 ∧ j_60 ≤ 9223372036854775807), r58⟩) ((((((((p.Funcs.getD i_12.toNat default).Blocks).getD k_32.toNat default).Stmts).length : Int) : Int) - 0).toNat, out_31, 0, a33, k34) [4, 1, 4, 5] ⟨hX70, rfl, aM1, (.inr rfl), aM1⟩ ?_
   rintro ⟨r58, out_59, j_60, a61, k62⟩ ⟨hM63, hr64, hi65, hi66, hk67⟩
   refine JJ_nx fun _ _ hL hA => ?_; dsimp only at hL hA; subst hL hA
   refine Fb 16 0 fun _ => ?_
   refine FoS 0 fun ho74 => ?_
   refine Fb 72 1 fun _ => Fb 40 3 fun _ => KS ?_
   refine Oq Vm (Oq Vm (Oq (Vlen sl166) (Oq Vlss (KS ?_))))
   refine Kc ?_ ?_
   ·intro h77
    have g78 := dt h77
    obtain ⟨r79, rfl⟩ := scc (n := r58) aM1
    have H := hM63; (try dsimp only at H); rw [r4_Variables_L2] at H
    refine KS ?_
    refine Oq Vm (Oq Vm ?_)
    refine pC H hx71 fun hc80 H => ?_
    refine Oq (Vi sl166 1) ?_
    refine JJ_peek_GStmt j_60.toNat 1 rfl rng fun a81 k82 a83 k84 hb85 hb86 => ?_
    unfold i64ok at hb85
    refine Fb 16 1 fun _ => ?_
    refine FoS 1 fun ho88 => ?_
    refine Fb 16 2 fun _ => ?_
    refine FoS 2 fun ho90 => ?_
    refine Oq (Vfa fo140_2 0) (Oq (VldF sh138 0) (Oq Va (KS ?_)))
    refine Oq Vm (Oq Vm (Oq (Vi sl166 4) (Oq (Vfa fo140_1 0) (Oq (VldF sh9 0) (Oq (VneS (l := (((((p.Funcs.getD i_12.toNat default).Blocks).getD k_32.toNat default).Stmts).getD j_60.toNat default).Def) (m := (Str.mk []))) (KS ?_))))))
    refine pC H hx71 fun hc92 H => ?_
    refine pC H hx71 fun hc93 H => ?_
    refine KcH H ?_ ?_
    ·intro h91 H
     have g94 := ne_of_bne h91
     refine JK_drawK [0, 0, 3, 7, 15, 31, 0, 0, 192, 448, 960, 2047, 4095] fmix ?_
     refine Dv [] Vm (Dv [] Vm (Dv [4] (Vi sl166 0) (Dv [0] (Vfa fo140_1 0) (Dv [0] (VldF sh9 0) (Dx [] [] [0] (fun G => (G.g 5 0)) [fun G => Cr (G.g 5 0) 1 [.string (bs ((((((p.Funcs.getD i_12.toNat default).Blocks).getD k_32.toNat default).Stmts).getD j_60.toNat default).Def))]] (fun G => xA (AsV sl138 sz138 [.string (bs ((((((p.Funcs.getD i_12.toNat default).Blocks).getD k_32.toNat default).Stmts).getD j_60.toNat default).Def))] [.string (bs ((((((p.Funcs.getD i_12.toNat default).Blocks).getD k_32.toNat default).Stmts).getD j_60.toNat default).Def))])) (Dv [] Vm (Dv [] Vm (Dv [4] (Vi sl166 0) (Dv [0] (Vfa fo140_2 0) ?_)))))))))
     refine Dv [0] (VldF sh138 0) ?_
     refine pC H hx71 fun hc96 H => ?_
     refine pC H hx71 fun hc97 H => ?_
     refine pC H hx71 fun hc98 H => ?_
     have hn100 : ([(((((p.Funcs.getD i_12.toNat default).Blocks).getD k_32.toNat default).Stmts).getD j_60.toNat default).Def] ++ (((((p.Funcs.getD i_12.toNat default).Blocks).getD k_32.toNat default).Stmts).getD j_60.toNat default).Uses : List Str).length = 1 + ((((((p.Funcs.getD i_12.toNat default).Blocks).getD k_32.toNat default).Stmts).getD j_60.toNat default).Uses).length := la ([(((((p.Funcs.getD i_12.toNat default).Blocks).getD k_32.toNat default).Stmts).getD j_60.toNat default).Def] : List Str) ((((((p.Funcs.getD i_12.toNat default).Blocks).getD k_32.toNat default).Stmts).getD j_60.toNat default).Uses)
     refine Dx [1, 7] [7] [1, 0] (fun G => (G.g 11 0)) [fun G => os (G.g 11 0) (([(((((p.Funcs.getD i_12.toNat default).Blocks).getD k_32.toNat default).Stmts).getD j_60.toNat default).Def] ++ (((((p.Funcs.getD i_12.toNat default).Blocks).getD k_32.toNat default).Stmts).getD j_60.toNat default).Uses) : List Str)] (fun G => xp [1] rfl (Ent.cr1 (α := Str) (A := []) _ ((((((p.Funcs.getD i_12.toNat default).Blocks).getD k_32.toNat default).Stmts).getD j_60.toNat default).Def) _ aB1 (fun _ => ⟨rfl, aS1⟩)) (xA (Ap [0, 0] sl138 sl138 sz138))) (Dg [] (fun G => (G.g 11 0)) (fun G => Va) ?_)
     refine Dn ⟨by kernel_rfl, fun G => ?_⟩
     refine Jw2 [(1, p2), (3, vl a61 k62 out_59), (4, vi i_12), (5, vi k_32), (6, .slice a54 (((((p.Funcs.getD i_12.toNat default).Blocks).getD k_32.toNat default).Stmts).length) k55), (7, vi j_60), (8, (G.g 11 0))] [0, 1, 2, 3, 4, 5, 6] [os (G.g 11 0) (([(((((p.Funcs.getD i_12.toNat default).Blocks).getD k_32.toNat default).Stmts).getD j_60.toNat default).Def] ++ (((((p.Funcs.getD i_12.toNat default).Blocks).getD k_32.toNat default).Stmts).getD j_60.toNat default).Uses) : List Str)] ?_
     generalize G.g 11 0 = c99
     refine Jo 7 ?_; rintro a101 k102 rfl
     refine Fb 16 7 fun _ => ?_
     refine FoS 7 fun ho104 => ?_
     refine KS ?_
     refine Oq Va (KS ?_)
     refine llH H hx71 fun X115 hX116 hx117 HL118 => ?_
     refine Kl (γ := Nat × List Str × Int × Option Addr × Nat) (fun (r105, out_106, n_107, a108, k109) => ⟨[(1, p2), (3, vl a108 k109 out_106), (4, vi i_12), (5, vi k_32), (6, .slice a54 (((((p.Funcs.getD i_12.toNat default).Blocks).getD k_32.toNat default).Stmts).length) k55), (7, vi j_60), (8, .slice a101 (([(((((p.Funcs.getD i_12.toNat default).Blocks).getD k_32.toNat default).Stmts).getD j_60.toNat default).Def] ++ (((((p.Funcs.getD i_12.toNat default).Blocks).getD k_32.toNat default).Stmts).getD j_60.toNat default).Uses).length) k102), (9, vi n_107)], [O a108 k109 out_106, S a54 k55 ((((p.Funcs.getD i_12.toNat default).Blocks).getD k_32.toNat default).Stmts), pv p2 [vl pa0 pk0 p.Funcs], S pa0 pk0 p.Funcs, O a101 k102 (([(((((p.Funcs.getD i_12.toNat default).Blocks).getD k_32.toNat default).Stmts).getD j_60.toNat default).Def] ++ (((((p.Funcs.getD i_12.toNat default).Blocks).getD k_32.toNat default).Stmts).getD j_60.toNat default).Uses) : List Str)], r4_Variables_L3 ([(((((p.Funcs.getD i_12.toNat default).Blocks).getD k_32.toNat default).Stmts).getD j_60.toNat default).Def] ++ (((((p.Funcs.getD i_12.toNat default).Blocks).getD k_32.toNat default).Stmts).getD j_60.toNat default).Uses) r105 out_106 n_107 = X115 ∧ r105 = (((([(((((p.Funcs.getD i_12.toNat default).Blocks).getD k_32.toNat default).Stmts).getD j_60.toNat default).Def] ++ (((((p.Funcs.getD i_12.toNat default).Blocks).getD k_32.toNat default).Stmts).getD j_60.toNat default).Uses).length : Int) : Int) - n_107).toNat ∧ (0 : Int) ≤ n_107 ∧ (n_107 ≤ (([(((((p.Funcs.getD i_12.toNat default).Blocks).getD k_32.toNat default).Stmts).getD j_60.toNat default).Def] ++ (((((p.Funcs.getD i_12.toNat default).Blocks).getD k_32.toNat default).Stmts).getD j_60.toNat default).Uses).length : Int) ∨ n_107 = 0) ∧ (-9223372036854775808 ≤ n_107 ∧ n_107 ≤ 9223372036854775807), r105⟩) ((((([(((((p.Funcs.getD i_12.toNat default).Blocks).getD k_32.toNat default).Stmts).getD j_60.toNat default).Def] ++ (((((p.Funcs.getD i_12.toNat default).Blocks).getD k_32.toNat default).Stmts).getD j_60.toNat default).Uses).length : Int) : Int) - 0).toNat, out_59, 0, a61, k62) [3, 3, 4, 5, 6] ⟨hX116, rfl, aM1, (.inr rfl), aM1⟩ ?_
     rintro ⟨r105, out_106, n_107, a108, k109⟩ ⟨hM110, hr111, hi112, hi113, hk114⟩
     refine JJ_nx fun _ _ hL hA => ?_; dsimp only at hL hA; subst hL hA
     refine Fb 16 0 fun _ => ?_
     refine FoS 0 fun ho120 => ?_
     refine Fb 72 1 fun _ => Fb 40 3 fun _ => Fb 16 4 fun _ => ?_
     refine FoS 4 fun ho124 => ?_
     refine KS ?_
     refine Oq Vm (Oq Vm (Oq (Vlen sl138) (Oq Vlss (KS ?_))))
     refine Kc ?_ ?_
     ·intro h125
      have g126 := dt h125
      obtain ⟨r127, rfl⟩ := scc (n := r105) aM1
      have H := hM110; (try dsimp only at H); rw [r4_Variables_L3] at H
      refine KS ?_
      refine Oq Vm (Oq Vm (Oq Vm ?_))
      refine pC H hx117 fun hc128 H => ?_
      refine Oq (Vi sl138 4) ?_
      have hb129 := okS (i := n_107.toNat) ho124 rng
      refine Oq (VldS sh9 4) ?_
      refine lbH H hx117 fun rv130 hg131 H => ?_
      refine Oc [0] ca129 (FT_borrow (A := _) (fun _ _ h => by cases h) (FT_ent (Ent.take (is := [0]) rfl) (fn129 out_106 a108 k109 ((([(((((p.Funcs.getD i_12.toNat default).Blocks).getD k_32.toNat default).Stmts).getD j_60.toNat default).Def] ++ (((((p.Funcs.getD i_12.toNat default).Blocks).getD k_32.toNat default).Stmts).getD j_60.toNat default).Uses).getD n_107.toNat default)) pre rv130 hg131))) ?_ (ht := rfl)
      rintro - he132
      unfold i64ok at he132
      refine Oq Vlss (KS ?_)
      refine KcH H ?_ ?_
      ·intro h133 H
       have g134 := dt h133
       refine KS ?_
       refine Oq Vm (Oq Vm (Oq Vm (Oq (Vi sl138 4) ?_)))
       have hb135 := okS (i := n_107.toNat) ho124 rng
       refine Oq (VldS sh9 4) (Oa (AsV sl138 sz138 [.string (bs (([(((((p.Funcs.getD i_12.toNat default).Blocks).getD k_32.toNat default).Stmts).getD j_60.toNat default).Def] ++ (((((p.Funcs.getD i_12.toNat default).Blocks).getD k_32.toNat default).Stmts).getD j_60.toNat default).Uses).getD n_107.toNat default))] [.string (bs (([(((((p.Funcs.getD i_12.toNat default).Blocks).getD k_32.toNat default).Stmts).getD j_60.toNat default).Def] ++ (((((p.Funcs.getD i_12.toNat default).Blocks).getD k_32.toNat default).Stmts).getD j_60.toNat default).Uses).getD n_107.toNat default))]) fun c136 => ?_)
       refine Jo 0 ?_; rintro a137 k138 rfl
       refine Jl [0] (Ent.cr1 (α := Str) (A := []) _ (([(((((p.Funcs.getD i_12.toNat default).Blocks).getD k_32.toNat default).Stmts).getD j_60.toNat default).Def] ++ (((((p.Funcs.getD i_12.toNat default).Blocks).getD k_32.toNat default).Stmts).getD j_60.toNat default).Uses).getD n_107.toNat default) _ aB1 (fun _ => ⟨rfl, aS1⟩)) ?_
       refine pC H hx117 fun hc139 H => ?_
       refine pC H hx117 fun hc140 H => ?_
       refine Oa (ApO [1, 0] sl138 sl138 sz138) fun c141 => ?_
       refine Jo 0 ?_; rintro a142 k143 rfl
       refine Fb 16 0 fun _ => ?_
       refine FoS 0 fun ho145 => ?_
       have hn146 := la out_106 ([(([(((((p.Funcs.getD i_12.toNat default).Blocks).getD k_32.toNat default).Stmts).getD j_60.toNat default).Def] ++ (((((p.Funcs.getD i_12.toNat default).Blocks).getD k_32.toNat default).Stmts).getD j_60.toNat default).Uses).getD n_107.toNat default)] : List Str)
       refine Oq Va (KS ?_)
       refine Oq Vm (Oq Vadd (Oq Va (KS ?_)))
       refine pC H hx117 fun hc147 H => ?_
       exact Kg (r127, (out_106 ++ [(([(((((p.Funcs.getD i_12.toNat default).Blocks).getD k_32.toNat default).Stmts).getD j_60.toNat default).Def] ++ (((((p.Funcs.getD i_12.toNat default).Blocks).getD k_32.toNat default).Stmts).getD j_60.toNat default).Uses).getD n_107.toNat default)]), (n_107 + 1), a142, k143) [0, 0, 1, 2, 3] ⟨H, aM1, aM1, aM1, aM1⟩
      intro h133 H
      have g148 := df h133
      refine KS ?_
      refine Oq Vm (Oq Vadd (Oq Va (KS ?_)))
      refine pC H hx117 fun hc149 H => ?_
      exact Kg (r127, out_106, (n_107 + 1), a108, k109) [0, 0, 1, 2, 3] ⟨H, aM1, aM1, aM1, aM1⟩
     intro h125
     have g150 := df h125
     obtain rfl : r105 = 0 := by omega
     have H := hM110; (try dsimp only at H); rw [r4_Variables_L3] at H
     refine Ke ?_
     have H := llB H HL118
     refine KS ?_
     refine Oq Vm (Oq Vadd (Oq Va (KS ?_)))
     refine pC H hx71 fun hc151 H => ?_
     exact Kg (r79, out_106, (j_60 + 1), a108, k109) [0, 0, 1, 2] ⟨H, aM1, aM1, aM1, aM1⟩
    intro h91 H
    have g152 := eq_of_bne_false h91
    refine KS ?_
    refine Oq Va (KS ?_)
    refine llH H hx71 fun X163 hX164 hx165 HL166 => ?_
    refine Kl (γ := Nat × List Str × Int × Option Addr × Nat) (fun (r153, out_154, n_155, a156, k157) => ⟨[(1, p2), (3, vl a156 k157 out_154), (4, vi i_12), (5, vi k_32), (6, .slice a54 (((((p.Funcs.getD i_12.toNat default).Blocks).getD k_32.toNat default).Stmts).length) k55), (7, vi j_60), (8, .slice a81 (((((((p.Funcs.getD i_12.toNat default).Blocks).getD k_32.toNat default).Stmts).getD j_60.toNat default).Uses).length) k82), (9, vi n_155)], [O a156 k157 out_154, S a81 k82 ((((((p.Funcs.getD i_12.toNat default).Blocks).getD k_32.toNat default).Stmts).getD j_60.toNat default).Uses), S a54 k55 ((((p.Funcs.getD i_12.toNat default).Blocks).getD k_32.toNat default).Stmts), pv p2 [vl pa0 pk0 p.Funcs], S pa0 pk0 p.Funcs], r4_Variables_L3 ((((((p.Funcs.getD i_12.toNat default).Blocks).getD k_32.toNat default).Stmts).getD j_60.toNat default).Uses) r153 out_154 n_155 = X163 ∧ r153 = (((((((((p.Funcs.getD i_12.toNat default).Blocks).getD k_32.toNat default).Stmts).getD j_60.toNat default).Uses).length : Int) : Int) - n_155).toNat ∧ (0 : Int) ≤ n_155 ∧ (n_155 ≤ (((((((p.Funcs.getD i_12.toNat default).Blocks).getD k_32.toNat default).Stmts).getD j_60.toNat default).Uses).length : Int) ∨ n_155 = 0) ∧ (-9223372036854775808 ≤ n_155 ∧ n_155 ≤ 9223372036854775807), r153⟩) ((((((((((p.Funcs.getD i_12.toNat default).Blocks).getD k_32.toNat default).Stmts).getD j_60.toNat default).Uses).length : Int) : Int) - 0).toNat, out_59, 0, a61, k62) [3, 1, 3, 4, 5] ⟨hX164, rfl, aM1, (.inr rfl), aM1⟩ ?_
    rintro ⟨r153, out_154, n_155, a156, k157⟩ ⟨hM158, hr159, hi160, hi161, hk162⟩
    refine JJ_nx fun _ _ hL hA => ?_; dsimp only at hL hA; subst hL hA
    refine Fb 16 0 fun _ => ?_
    refine FoS 0 fun ho168 => ?_
    refine Fb 16 1 fun _ => ?_
    refine FoS 1 fun ho170 => ?_
    refine Fb 72 2 fun _ => Fb 40 4 fun _ => KS ?_
    refine Oq Vm (Oq Vm (Oq (Vlen sl138) (Oq Vlss (KS ?_))))
    refine Kc ?_ ?_
    ·intro h173
     have g174 := dt h173
     obtain ⟨r175, rfl⟩ := scc (n := r153) aM1
     have H := hM158; (try dsimp only at H); rw [r4_Variables_L3] at H
     refine KS ?_
     refine Oq Vm (Oq Vm (Oq Vm ?_))
     refine pC H hx165 fun hc176 H => ?_
     refine Oq (Vi sl138 1) ?_
     have hb177 := okS (i := n_155.toNat) ho170 rng
     refine Oq (VldS sh9 1) ?_
     refine lbH H hx165 fun rv178 hg179 H => ?_
     refine Oc [0] ca129 (FT_borrow (A := _) (fun _ _ h => by cases h) (FT_ent (Ent.take (is := [0]) rfl) (fn129 out_154 a156 k157 ((((((((p.Funcs.getD i_12.toNat default).Blocks).getD k_32.toNat default).Stmts).getD j_60.toNat default).Uses).getD n_155.toNat default)) pre rv178 hg179))) ?_ (ht := rfl)
     rintro - he180
     unfold i64ok at he180
     refine Oq Vlss (KS ?_)
     refine KcH H ?_ ?_
     ·intro h181 H
      have g182 := dt h181
      refine KS ?_
      refine Oq Vm (Oq Vm (Oq Vm (Oq (Vi sl138 1) ?_)))
      have hb183 := okS (i := n_155.toNat) ho170 rng
      refine Oq (VldS sh9 1) (Oa (AsV sl138 sz138 [.string (bs (((((((p.Funcs.getD i_12.toNat default).Blocks).getD k_32.toNat default).Stmts).getD j_60.toNat default).Uses).getD n_155.toNat default))] [.string (bs (((((((p.Funcs.getD i_12.toNat default).Blocks).getD k_32.toNat default).Stmts).getD j_60.toNat default).Uses).getD n_155.toNat default))]) fun c184 => ?_)
      refine Jo 0 ?_; rintro a185 k186 rfl
      refine Jl [0] (Ent.cr1 (α := Str) (A := []) _ (((((((p.Funcs.getD i_12.toNat default).Blocks).getD k_32.toNat default).Stmts).getD j_60.toNat default).Uses).getD n_155.toNat default) _ aB1 (fun _ => ⟨rfl, aS1⟩)) ?_
      refine pC H hx165 fun hc187 H => ?_
      refine pC H hx165 fun hc188 H => ?_
      refine Oa (ApO [1, 0] sl138 sl138 sz138) fun c189 => ?_
      refine Jo 0 ?_; rintro a190 k191 rfl
      refine Fb 16 0 fun _ => ?_
      refine FoS 0 fun ho193 => ?_
      have hn194 := la out_154 ([(((((((p.Funcs.getD i_12.toNat default).Blocks).getD k_32.toNat default).Stmts).getD j_60.toNat default).Uses).getD n_155.toNat default)] : List Str)
      refine Oq Va (KS ?_)
      refine Oq Vm (Oq Vadd (Oq Va (KS ?_)))
      refine pC H hx165 fun hc195 H => ?_
      exact Kg (r175, (out_154 ++ [(((((((p.Funcs.getD i_12.toNat default).Blocks).getD k_32.toNat default).Stmts).getD j_60.toNat default).Uses).getD n_155.toNat default)]), (n_155 + 1), a190, k191) [0, 0, 1, 2, 3] ⟨H, aM1, aM1, aM1, aM1⟩
     intro h181 H
     have g196 := df h181
     refine KS ?_
     refine Oq Vm (Oq Vadd (Oq Va (KS ?_)))
     refine pC H hx165 fun hc197 H => ?_
     exact Kg (r175, out_154, (n_155 + 1), a156, k157) [0, 0, 1, 2, 3] ⟨H, aM1, aM1, aM1, aM1⟩
    intro h173
    have g198 := df h173
    obtain rfl : r153 = 0 := by omega
    have H := hM158; (try dsimp only at H); rw [r4_Variables_L3] at H
    refine Ke ?_
    have H := llB H HL166
    refine KS ?_
    refine Oq Vm (Oq Vadd (Oq Va (KS ?_)))
    refine pC H hx71 fun hc199 H => ?_
    exact Kg (r79, out_154, (j_60 + 1), a156, k157) [0, 1, 2, 3] ⟨H, aM1, aM1, aM1, aM1⟩
   intro h77
   have g200 := df h77
   obtain rfl : r58 = 0 := by omega
   have H := hM63; (try dsimp only at H); rw [r4_Variables_L2] at H
   refine Ke ?_
   have H := llB H HL72
   refine KS ?_
   refine Oq Vm ?_
   refine pC H hx39 fun hc201 H => ?_
   refine Oq Vadd (Oq Va (KS ?_))
   exact Kg (r30, out_59, (k_32 + 1), a61, k62) [0, 1, 2] ⟨H, aM1⟩
  intro h49 H
  have g202 := df h49
  refine Ke ?_
  have H := llB H HL40
  refine KS ?_
  refine Oq Vm (Oq Vadd (Oq Va (KS ?_)))
  refine pC H hx22 fun hc203 H => ?_
  exact Kg (r29, out_31, (i_12 + 1), a33, k34) [2, 2, 3] ⟨H, aM1, aM1, aM1, aM1⟩
 intro h27
 have g204 := df h27
 obtain rfl : r10 = 0 := by omega
 have H := hM15; (try dsimp only at H); rw [r4_Variables_L0] at H
 refine Ke ?_
 have H := llB H HL23
 refine KS ?_
 refine Oq Vm (Oq Va (KS ?_))
 refine Jl [0] (Ent.freeze _ _) ?_
 have hq := rI H; subst hq
 exact Kr (vl a13 k14 out_11) rfl (.tmp rfl .nil) [0] trivial
theorem fn159 (l : List Str) (la0 : Option Addr) (lk0 : Nat) (rr : Int) (hrr : r4_repeated l = .ret rr) : FT Tryz.prog 159 #[vl la0 lk0 l] [S la0 lk0 l] (fun g : Unit => i64ok rr) (fun g => vi rr) (fun g => []) := by
 refine FTi Tryz.func159 fun w0 M0 F0 => Fb 16 0 fun _ => ?_
 refine FoS 0 fun ho2 => ?_
 have hx0 := lrn rr; have H := hrr; unfold r4_repeated at H
 refine KS ?_
 refine Oq Va (KS ?_)
 refine Oq Va (KS ?_)
 refine llH H hx0 fun X10 hX11 hx12 HL13 => ?_
 refine Kl (γ := Nat × Int) (fun (r3, i_4) => ⟨[(0, vl la0 lk0 l), (3, vi i_4)], [S la0 lk0 l], r4_repeated_L0 l r3 i_4 = X10 ∧ r3 = ((l.length : Int) - i_4).toNat ∧ (0 : Int) ≤ i_4 ∧ i_4 ≤ (l.length : Int) ∧ (-9223372036854775808 ≤ i_4 ∧ i_4 ≤ 9223372036854775807), r3⟩) (((l.length : Int) - 0).toNat, 0) [0] ⟨hX11, rfl, aM1, aM1, aM1⟩ ?_
 rintro ⟨r3, i_4⟩ ⟨hM5, hr6, hi7, hi8, hk9⟩
 refine JJ_nx fun _ _ hL hA => ?_; dsimp only at hL hA; subst hL hA
 refine Fb 16 0 fun _ => ?_
 refine FoS 0 fun ho15 => ?_
 refine KS ?_
 refine Oq Vm (Oq Vm (Oq (Vlen sl138) (Oq Vlss (KS ?_))))
 refine Kc ?_ ?_
 ·intro h16
  have g17 := dt h16
  obtain ⟨r18, rfl⟩ := scc (n := r3) aM1
  have H := hM5; (try dsimp only at H); rw [r4_repeated_L0] at H
  refine KS ?_
  refine JK_drawK [0, 0, 3, 0, 0, 24, 56, 127, 255] fmix ?_
  refine Dv [] Vm (Dv [] Vm ?_)
  refine pC H hx12 fun hc19 H => ?_
  refine Dx [0] [] [1, 0] (fun G => (G.g 2 0)) [fun G => sl (G.g 2 0) ((l.take (i_4.toNat)).drop 0)] (fun G => xA (Asl [0] sl138 0 (i_4.toNat))) (Dv [] Vm (Dv [] Vm ?_))
  refine pC H hx12 fun hc21 H => ?_
  refine Dv [0] (Vi sl138 0) ?_
  have hb22 := okS (i := i_4.toNat) ho15 rng
  refine Dv [0] (VldS sh9 0) ?_
  refine lbH H hx12 fun rv26 hg27 H => ?_
  refine Dx [1] [] [1, 0] (fun G => vi rv26) [fun G => SP.fact (i64ok rv26)] (fun G => xD [0] ca129 rfl rfl rfl (FT_open (γ := Unit) (I := fun g => i64ok rv26) (V := fun g => vi rv26) (B := fun g => []) (R := sl (G.g 2 0) ((l.take (i_4.toNat)).drop 0)) sl_slice (fun aq23 kq24 eq25 => by rw [eq25]; exact FT_ent (Ent.take (is := [0]) rfl) (fn129 (((l.take (i_4.toNat)).drop 0)) aq23 kq24 ((l.getD i_4.toNat default)) pre rv26 hg27)))) (Dv [] Vgeq ?_)
  refine Dn ⟨by kernel_rfl, fun G => ?_⟩
  refine Jw2 [(0, vl la0 lk0 l), (3, vi i_4), (18, vb (decide (0 ≤ rv26)))] [0] [sl (G.g 2 0) ((l.take (i_4.toNat)).drop 0), SP.fact (i64ok rv26)] ?_
  generalize G.g 2 0 = c20
  refine Jf 2 rfl ?_; rintro he28
  unfold i64ok at he28
  refine Jk [0, 1] ?_
  refine Jo 1 ?_; rintro a29 k30 rfl
  refine Fb 16 1 fun _ => ?_
  refine FoS 1 fun ho32 => ?_
  refine pF H hx12 fun h33 H => ?_
  refine KcF h33 ?_
  have g34 := df h33
  refine KS ?_
  refine Oq Vm (Oq Vadd (Oq Va (KS ?_)))
  refine pC H hx12 fun hc35 H => ?_
  exact Kg (r18, (i_4 + 1)) [0] ⟨H, aM1, aM1, aM1, aM1⟩
 intro h16
 have g36 := df h16
 obtain rfl : r3 = 0 := by omega
 have H := hM5; (try dsimp only at H); rw [r4_repeated_L0] at H
 refine Ke ?_
 have H := llB H HL13
 refine KS ?_
 refine Oq Va (KS ?_)
 have hq := rI H; subst hq
 exact Kr () rfl (.tmp rfl .nil) [] en
theorem fn160 (p : GProgram) (pa0 : Option Addr) (pk0 : Nat) (rr : List Str) (hrr : r4_funcNames p = .ret rr) : FT Tryz.prog 160 #[.agg #[vl pa0 pk0 p.Funcs]] [S pa0 pk0 p.Funcs] (fun g : Value => True) (fun g => g) (fun g => [sl g rr]) := by
 refine FTi Tryz.func160 fun w0 M0 F0 => Fb 40 0 fun _ => ?_
 have hx0 := lrn rr; have H := hrr; unfold r4_funcNames at H
 refine KS ?_
 refine Oa (Ab [vl pa0 pk0 p.Funcs]) fun p2 => Oq Va (KS ?_)
 refine Oq Va (KS ?_)
 refine Oq Va (KS ?_)
 refine Jl [] (Ent.osNil (α := Str)) ?_
 refine llH H hx0 fun X13 hX14 hx15 HL16 => ?_
 refine Kl (γ := Nat × List Str × Int × Option Addr × Nat) (fun (r3, out_4, i_5, a6, k7) => ⟨[(1, p2), (3, vl a6 k7 out_4), (4, vi i_5)], [O a6 k7 out_4, pv p2 [vl pa0 pk0 p.Funcs], S pa0 pk0 p.Funcs], r4_funcNames_L0 p r3 out_4 i_5 = X13 ∧ r3 = ((p.Funcs.length : Int) - i_5).toNat ∧ (0 : Int) ≤ i_5 ∧ i_5 ≤ (p.Funcs.length : Int) ∧ (-9223372036854775808 ≤ i_5 ∧ i_5 ≤ 9223372036854775807), r3⟩) (((p.Funcs.length : Int) - 0).toNat, [], 0, none, 0) [0, 0, 1] ⟨hX14, rfl, aM1, aM1, aM1⟩ ?_
 rintro ⟨r3, out_4, i_5, a6, k7⟩ ⟨hM8, hr9, hi10, hi11, hk12⟩
 refine JJ_nx fun _ _ hL hA => ?_; dsimp only at hL hA; subst hL hA
 refine Fb 16 0 fun _ => ?_
 refine FoS 0 fun ho18 => ?_
 refine Fb 40 2 fun _ => KS ?_
 refine Oq Vm (Oq (Vfa fo84_0 1) (Oq (VldF sh82 1) (Oq (Vlen sl82) (Oq Vlss (KS ?_)))))
 refine Kc ?_ ?_
 ·intro h20
  have g21 := dt h20
  obtain ⟨r22, rfl⟩ := scc (n := r3) aM1
  have H := hM8; (try dsimp only at H); rw [r4_funcNames_L0] at H
  refine KS ?_
  refine Oq Vm (Oq (Vfa fo84_0 1) (Oq (VldF sh82 1) (Oq Vm ?_)))
  refine pC H hx15 fun hc23 H => ?_
  refine Oq (Vi sl82 2) ?_
  refine JJ_peek_GFunc i_5.toNat 2 rfl rng fun a24 k25 hb26 => ?_
  refine Fb 40 1 fun _ => ?_
  refine Oq (Vfa fo126_0 0) (Oq (VldF sh9 0) (Oa (AsV sl138 sz138 [.string (bs ((p.Funcs.getD i_5.toNat default).Name))] [.string (bs ((p.Funcs.getD i_5.toNat default).Name))]) fun c28 => ?_))
  refine Jo 0 ?_; rintro a29 k30 rfl
  refine Jl [0] (Ent.cr1 (α := Str) (A := []) _ ((p.Funcs.getD i_5.toNat default).Name) _ aB1 (fun _ => ⟨rfl, aS1⟩)) ?_
  refine pC H hx15 fun hc31 H => ?_
  refine pC H hx15 fun hc32 H => ?_
  refine Oa (ApO [3, 0] sl138 sl138 sz138) fun c33 => ?_
  refine Jo 0 ?_; rintro a34 k35 rfl
  refine Fb 16 0 fun _ => ?_
  refine FoS 0 fun ho37 => ?_
  have hn38 := la out_4 ([(p.Funcs.getD i_5.toNat default).Name] : List Str)
  refine Oq Va (KS ?_)
  refine Oq Vm (Oq Vadd (Oq Va (KS ?_)))
  refine pC H hx15 fun hc39 H => ?_
  exact Kg (r22, (out_4 ++ [(p.Funcs.getD i_5.toNat default).Name]), (i_5 + 1), a34, k35) [0, 2, 3] ⟨H, aM1, aM1, aM1, aM1⟩
 intro h20
 have g40 := df h20
 obtain rfl : r3 = 0 := by omega
 have H := hM8; (try dsimp only at H); rw [r4_funcNames_L0] at H
 refine Ke ?_
 have H := llB H HL16
 refine KS ?_
 refine Oq Vm (Oq Va (KS ?_))
 refine Jl [0] (Ent.freeze _ _) ?_
 have hq := rI H; subst hq
 exact Kr (vl a6 k7 out_4) rfl (.tmp rfl .nil) [0] trivial
theorem fn161 (f : GFunc) (fa1 : Option Addr) (fk1 : Nat) (hf_0 : f.Name.b.length ≤ 140737488355328) (rr : List Str) (hrr : r4_BlockNames f = .ret rr) : FT Tryz.prog 161 #[.agg #[.string (bs f.Name), vl fa1 fk1 f.Blocks]] [S fa1 fk1 f.Blocks] (fun g : Value => True) (fun g => g) (fun g => [sl g rr]) := by
 refine FTi Tryz.func161 fun w0 M0 F0 => Fb 40 0 fun _ => ?_
 have hx0 := lrn rr; have H := hrr; unfold r4_BlockNames at H
 refine KS ?_
 refine Oa (Ab [.string (bs f.Name), vl fa1 fk1 f.Blocks]) fun p2 => Oq Va (KS ?_)
 refine Oq Va (KS ?_)
 refine Oq Va (KS ?_)
 refine Jl [] (Ent.osNil (α := Str)) ?_
 refine llH H hx0 fun X13 hX14 hx15 HL16 => ?_
 refine Kl (γ := Nat × List Str × Int × Option Addr × Nat) (fun (r3, out_4, k_5, a6, k7) => ⟨[(1, p2), (3, vl a6 k7 out_4), (4, vi k_5)], [O a6 k7 out_4, pv p2 [.string (bs f.Name), vl fa1 fk1 f.Blocks], S fa1 fk1 f.Blocks], r4_BlockNames_L0 f r3 out_4 k_5 = X13 ∧ r3 = ((f.Blocks.length : Int) - k_5).toNat ∧ (0 : Int) ≤ k_5 ∧ k_5 ≤ (f.Blocks.length : Int) ∧ (-9223372036854775808 ≤ k_5 ∧ k_5 ≤ 9223372036854775807), r3⟩) (((f.Blocks.length : Int) - 0).toNat, [], 0, none, 0) [0, 0, 1] ⟨hX14, rfl, aM1, aM1, aM1⟩ ?_
 rintro ⟨r3, out_4, k_5, a6, k7⟩ ⟨hM8, hr9, hi10, hi11, hk12⟩
 refine JJ_nx fun _ _ hL hA => ?_; dsimp only at hL hA; subst hL hA
 refine Fb 16 0 fun _ => ?_
 refine FoS 0 fun ho18 => ?_
 refine Fb 40 2 fun _ => KS ?_
 refine Oq Vm (Oq (Vfa fo126_1 1) (Oq (VldF sh124 1) (Oq (Vlen sl124) (Oq Vlss (KS ?_)))))
 refine Kc ?_ ?_
 ·intro h20
  have g21 := dt h20
  obtain ⟨r22, rfl⟩ := scc (n := r3) aM1
  have H := hM8; (try dsimp only at H); rw [r4_BlockNames_L0] at H
  refine KS ?_
  refine Oq Vm (Oq (Vfa fo126_1 1) (Oq (VldF sh124 1) (Oq Vm ?_)))
  refine pC H hx15 fun hc23 H => ?_
  refine Oq (Vi sl124 2) ?_
  refine JJ_peek_GBlock k_5.toNat 2 rfl rng fun a24 k25 hb26 => ?_
  refine Fb 72 1 fun _ => ?_
  refine Oq (Vfa fo168_0 0) (Oq (VldF sh9 0) (Oa (AsV sl138 sz138 [.string (bs ((f.Blocks.getD k_5.toNat default).Name))] [.string (bs ((f.Blocks.getD k_5.toNat default).Name))]) fun c28 => ?_))
  refine Jo 0 ?_; rintro a29 k30 rfl
  refine Jl [0] (Ent.cr1 (α := Str) (A := []) _ ((f.Blocks.getD k_5.toNat default).Name) _ aB1 (fun _ => ⟨rfl, aS1⟩)) ?_
  refine pC H hx15 fun hc31 H => ?_
  refine pC H hx15 fun hc32 H => ?_
  refine Oa (ApO [3, 0] sl138 sl138 sz138) fun c33 => ?_
  refine Jo 0 ?_; rintro a34 k35 rfl
  refine Fb 16 0 fun _ => ?_
  refine FoS 0 fun ho37 => ?_
  have hn38 := la out_4 ([(f.Blocks.getD k_5.toNat default).Name] : List Str)
  refine Oq Va (KS ?_)
  refine Oq Vm (Oq Vadd (Oq Va (KS ?_)))
  refine pC H hx15 fun hc39 H => ?_
  exact Kg (r22, (out_4 ++ [(f.Blocks.getD k_5.toNat default).Name]), (k_5 + 1), a34, k35) [0, 2, 3] ⟨H, aM1, aM1, aM1, aM1⟩
 intro h20
 have g40 := df h20
 obtain rfl : r3 = 0 := by omega
 have H := hM8; (try dsimp only at H); rw [r4_BlockNames_L0] at H
 refine Ke ?_
 have H := llB H HL16
 refine KS ?_
 refine Oq Vm (Oq Va (KS ?_))
 refine Jl [0] (Ent.freeze _ _) ?_
 have hq := rI H; subst hq
 exact Kr (vl a6 k7 out_4) rfl (.tmp rfl .nil) [0] trivial
theorem fn180 (op : Int) (hop_0 : i64ok op) (rr : Bool) (hrr : r4_Terminator op = .ret rr) : FT Tryz.prog 180 #[vi op] [] (fun g : Unit => True) (fun g => vb rr) (fun g => []) := by
 refine FTi Tryz.func180 fun w0 M0 F0 => ?_
 unfold i64ok at hop_0
 have hx0 := lrn rr; have H := hrr; unfold r4_Terminator at H
 refine KS ?_
 refine Oq Va (KS ?_)
 refine Oq Vm (Oq Veql (Oq Vm ?_))
 refine pF H hx0 fun h1 H => ?_
 refine JsF 5 h1 ?_
 have g2 := ne_of_beq_false h1
 refine Oq Vm (Oq Veql (Oq Vpf (Oq Vm ?_)))
 refine pF H hx0 fun h3 H => ?_
 refine JsF 9 h3 ?_
 have g4 := ne_of_beq_false h3
 refine Oq Vm (Oq Veql (Oq Vpf (Oq Va (KS ?_))))
 have hq := rI H; subst hq
 exact Kr () rfl (.tmp rfl .nil) [] trivial
theorem fn162 (p : GProgram) (pa0 : Option Addr) (pk0 : Nat) (f : GFunc) (fa1 : Option Addr) (fk1 : Nat) (s : GStmt) (sa2 : Option Addr) (sk2 : Nat) (sa3 : Option Addr) (sk3 : Nat) (last : Bool) (hf_0 : f.Name.b.length ≤ 140737488355328) (hs_0 : i64ok s.Op) (hs_1 : s.Def.b.length ≤ 140737488355328) (rr : Int) (hrr : r4_stmtErr p f s last = .ret rr) : FT Tryz.prog 162 #[.agg #[vl pa0 pk0 p.Funcs], .agg #[.string (bs f.Name), vl fa1 fk1 f.Blocks], .agg #[vi s.Op, .string (bs s.Def), vl sa2 sk2 s.Uses, vl sa3 sk3 s.Targets], vb last] [S pa0 pk0 p.Funcs, S fa1 fk1 f.Blocks, S sa2 sk2 s.Uses, S sa3 sk3 s.Targets] (fun g : Unit => i64ok rr) (fun g => vi rr) (fun g => []) := by
 refine FTi Tryz.func162 fun w0 M0 F0 => ?_
 unfold i64ok at hs_0
 refine Fb 40 0 fun _ => Fb 40 1 fun _ => Fb 16 2 fun _ => ?_
 refine FoS 2 fun ho4 => ?_
 refine Fb 16 3 fun _ => ?_
 refine FoS 3 fun ho6 => ?_
 have hx0 := lrn rr; have H := hrr; unfold r4_stmtErr at H
 refine KS ?_
 refine Oa (Ab [vl pa0 pk0 p.Funcs]) fun p7 => Oa (Ab [.string (bs f.Name), vl fa1 fk1 f.Blocks]) fun p8 => Oa (Ab [vi s.Op, .string (bs s.Def), vl sa2 sk2 s.Uses, vl sa3 sk3 s.Targets]) fun p9 => Oq Va (KS ?_)
 refine Oq (Vfa fo140_0 0) (Oq (VldF sh3 0) ?_)
 refine lbH H hx0 fun rv10 hg11 H => ?_
 have hc12 := fn180 s.Op pre rv10 hg11
 refine Oc [] ca180 hc12 ?_
 rintro - -
 refine Oq Vm (Oq (Vnb un4) (KS ?_))
 refine pF H hx0 fun h13 H => ?_
 refine KcF h13 ?_
 refine KS ?_
 refine Oq (VldA sh126 1) ?_
 refine lbH H hx0 fun rv16 hg17 H => ?_
 have hc18 := fn161 f fa1 fk1 pre rv16 hg17
 refine Oc [4] ca161 hc18 ?_
 rintro c15 -
 refine Jo 0 ?_; rintro a19 k20 rfl
 refine Fb 16 0 fun _ => ?_
 refine FoS 0 fun ho22 => ?_
 refine Oq Va (KS ?_)
 refine Oq (Vfa fo140_0 1) (Oq (VldF sh3 1) (Oq Veql (KS ?_)))
 refine pF H hx0 fun h23 H => ?_
 refine KcF h23 ?_
 have g24 := ne_of_beq_false h23
 refine KS ?_
 refine Oq Va (KS ?_)
 refine llH H hx0 fun X27 hX28 hx29 HL30 => ?_
 refine Kl (γ := Nat) (fun r25 => ⟨[(6, p9), (9, vl a19 k20 rv16), (10, vi 0)], [S a19 k20 rv16, pv p9 [vi s.Op, .string (bs s.Def), vl sa2 sk2 s.Uses, vl sa3 sk3 s.Targets], S sa2 sk2 s.Uses, S sa3 sk3 s.Targets], r4_stmtErr_L0 s r25 = X27, r25⟩) 1 [0, 1, 6, 7] hX28 ?_
 rintro r25 hM26
 refine JJ_nx fun _ _ hL hA => ?_; dsimp only at hL hA; subst hL hA
 refine Fb 16 0 fun _ => ?_
 refine FoS 0 fun ho32 => ?_
 refine Fb 16 2 fun _ => ?_
 refine FoS 2 fun ho34 => ?_
 refine Fb 16 3 fun _ => ?_
 refine FoS 3 fun ho36 => ?_
 rcases r25 with _ | r25
 ·exact absurd (hM26.symm.trans rfl) hx29
 have H := hM26; (try dsimp only at H); rw [r4_stmtErr_L0] at H
 refine KS ?_
 refine Oq Vm (Oq (Vfa fo140_3 1) (Oq (VldF sh138 1) (Oq (Vlen sl138) (Oq Vlss (KS ?_)))))
 refine pF H hx29 fun h37 H => ?_
 refine KcF h37 ?_
 have g38 := df h37
 refine Ke ?_
 have H := llB H HL30
 refine KS ?_
 refine Oq Va (KS ?_)
 have hq := rI H; subst hq
 exact Kr () rfl (.tmp rfl .nil) [] en
theorem fn163 (p : GProgram) (pa0 : Option Addr) (pk0 : Nat) (rr : Int × Int) (hrr : r4_Sizes p = .ret rr) : FT Tryz.prog 163 #[.agg #[vl pa0 pk0 p.Funcs]] [S pa0 pk0 p.Funcs] (fun g : Unit => i64ok rr.1 ∧ i64ok rr.2) (fun g => .tuple #[vi rr.1, vi rr.2]) (fun g => []) := by
 refine FTi Tryz.func163 fun w0 M0 F0 => Fb 40 0 fun _ => ?_
 have hx0 := lrn rr; have H := hrr; unfold r4_Sizes at H
 refine KS ?_
 refine Oa (Ab [vl pa0 pk0 p.Funcs]) fun p2 => Oq Va (Oq Va (KS ?_))
 refine Oq Va (Oq Va (KS ?_))
 refine Oq (VldA sh84 0) ?_
 refine lbH H hx0 fun rv3 hg4 H => ?_
 have hc5 := fn158 p pa0 pk0 rv3 hg4
 refine Oc [1] ca158 hc5 ?_
 rintro - -
 refine Oq Vnot (KS ?_)
 refine pF H hx0 fun h6 H => ?_
 refine KcF h6 ?_
 have h8 := not_false h6
 refine KS ?_
 refine Oq Va (KS ?_)
 refine llH H hx0 fun X21 hX22 hx23 HL24 => ?_
 refine Kl (γ := Nat × Int × Int × Int) (fun (r10, nd_11, edges_12, i_13) => ⟨[(1, p2), (4, vi nd_11), (5, vi edges_12), (6, vi i_13)], [pv p2 [vl pa0 pk0 p.Funcs], S pa0 pk0 p.Funcs], r4_Sizes_L0 p r10 nd_11 edges_12 i_13 = X21 ∧ r10 = ((p.Funcs.length : Int) - i_13).toNat ∧ (0 : Int) ≤ i_13 ∧ i_13 ≤ (p.Funcs.length : Int) ∧ (-9223372036854775808 ≤ nd_11 ∧ nd_11 ≤ 9223372036854775807) ∧ (-9223372036854775808 ≤ edges_12 ∧ edges_12 ≤ 9223372036854775807) ∧ (-9223372036854775808 ≤ i_13 ∧ i_13 ≤ 9223372036854775807), r10⟩) (((p.Funcs.length : Int) - 0).toNat, 0, 0, 0) [0, 1] ⟨hX22, rfl, aM1, aM1, aM1, aM1, aM1⟩ ?_
 rintro ⟨r10, nd_11, edges_12, i_13⟩ ⟨hM14, hr15, hi16, hi17, hk18, hk19, hk20⟩
 refine JJ_nx fun _ _ hL hA => ?_; dsimp only at hL hA; subst hL hA
 refine Fb 40 1 fun _ => KS ?_
 refine Oq Vm (Oq (Vfa fo84_0 0) (Oq (VldF sh82 0) (Oq (Vlen sl82) (Oq Vlss (KS ?_)))))
 refine Kc ?_ ?_
 ·intro h26
  have g27 := dt h26
  obtain ⟨r28, rfl⟩ := scc (n := r10) aM1
  have H := hM14; (try dsimp only at H); rw [r4_Sizes_L0] at H
  refine KS ?_
  refine Oq Vm ?_
  refine pC H hx23 fun hc29 H => ?_
  refine Oq Vadd (Oq Vm ?_)
  refine pC H hx23 fun hc30 H => ?_
  refine Oq Vadd (Oq Va (Oq Va (KS ?_)))
  refine Oq Va (KS ?_)
  refine llH H hx23 fun X39 hX40 hx41 HL42 => ?_
  refine Kl (γ := Nat × Int × Int × Int) (fun (r31, nd_32, edges_33, k_34) => ⟨[(1, p2), (6, vi i_13), (4, vi nd_32), (5, vi edges_33), (7, vi k_34)], [pv p2 [vl pa0 pk0 p.Funcs], S pa0 pk0 p.Funcs], r4_Sizes_L1 p i_13 r31 nd_32 edges_33 k_34 = X39 ∧ (-9223372036854775808 ≤ nd_32 ∧ nd_32 ≤ 9223372036854775807) ∧ (-9223372036854775808 ≤ edges_33 ∧ edges_33 ≤ 9223372036854775807) ∧ (-9223372036854775808 ≤ k_34 ∧ k_34 ≤ 9223372036854775807), r31⟩) (100000, (nd_11 + 2), (edges_12 + 1), 0) [0, 1] ⟨hX40, aM1, aM1, aM1⟩ ?_
  rintro ⟨r31, nd_32, edges_33, k_34⟩ ⟨hM35, hk36, hk37, hk38⟩
  refine JJ_nx fun _ _ hL hA => ?_; dsimp only at hL hA; subst hL hA
  refine Fb 40 1 fun _ => ?_
  rcases r31 with _ | r31
  ·exact absurd (hM35.symm.trans rfl) hx41
  have H := hM35; (try dsimp only at H); rw [r4_Sizes_L1] at H
  refine KS ?_
  refine Oq Vm (Oq (Vfa fo84_0 0) (Oq (VldF sh82 0) (Oq Vm ?_)))
  refine pC H hx41 fun hc44 H => ?_
  refine Oq (Vi sl82 1) ?_
  refine JJ_peek_GFunc i_13.toNat 1 rfl rng fun a45 k46 hb47 => ?_
  refine Fb 40 1 fun _ => ?_
  refine Oq (Vfa fo126_1 0) (Oq (VldF sh124 0) (Oq (Vlen sl124) (Oq Vlss (KS ?_))))
  refine pC H hx41 fun hc50 H => ?_
  refine KcH H ?_ ?_
  ·intro h49 H
   have g51 := dt h49
   refine KS ?_
   refine Oq (Vfa fo84_0 2) (Oq (VldF sh82 2) (Oq Vm (Oq (Vi sl82 3) (Oq (Vfa fo126_1 0) (Oq (VldF sh124 0) (Oq Vm ?_))))))
   refine pC H hx41 fun hc52 H => ?_
   refine pC H hx41 fun hc53 H => ?_
   refine Oq (Vi sl124 1) ?_
   refine JJ_peek_GBlock k_34.toNat 1 rfl rng fun a54 k55 hb56 => ?_
   refine Fb 72 1 fun _ => ?_
   refine Oq (Vfa fo168_1 0) (Oq (VldF sh166 0) (Oq Va (KS ?_)))
   refine Oq Va (KS ?_)
   refine pC H hx41 fun hc69 H => ?_
   refine llH H hx41 fun X70 hX71 hx72 HL73 => ?_
   refine Kl (γ := Nat × Int × Int × Int) (fun (r58, nd_59, edges_60, j_61) => ⟨[(1, p2), (6, vi i_13), (4, vi nd_59), (5, vi edges_60), (7, vi k_34), (8, .slice a54 (((((p.Funcs.getD i_13.toNat default).Blocks).getD k_34.toNat default).Stmts).length) k55), (9, vi j_61)], [S a54 k55 ((((p.Funcs.getD i_13.toNat default).Blocks).getD k_34.toNat default).Stmts), pv p2 [vl pa0 pk0 p.Funcs], S pa0 pk0 p.Funcs], r4_Sizes_L2 ((((p.Funcs.getD i_13.toNat default).Blocks).getD k_34.toNat default).Stmts) r58 nd_59 edges_60 j_61 = X70 ∧ r58 = (((((((p.Funcs.getD i_13.toNat default).Blocks).getD k_34.toNat default).Stmts).length : Int) : Int) - j_61).toNat ∧ (0 : Int) ≤ j_61 ∧ (j_61 ≤ (((((p.Funcs.getD i_13.toNat default).Blocks).getD k_34.toNat default).Stmts).length : Int) ∨ j_61 = 0) ∧ (-9223372036854775808 ≤ nd_59 ∧ nd_59 ≤ 9223372036854775807) ∧ (-9223372036854775808 ≤ edges_60 ∧ edges_60 ≤ 9223372036854775807) ∧ (-9223372036854775808 ≤ j_61 ∧ j_61 ≤ 9223372036854775807), r58⟩) ((((((((p.Funcs.getD i_13.toNat default).Blocks).getD k_34.toNat default).Stmts).length : Int) : Int) - 0).toNat, nd_32, edges_33, 0) [1, 4, 5] ⟨hX71, rfl, aM1, (.inr rfl), aM1, aM1, aM1⟩ ?_
   rintro ⟨r58, nd_59, edges_60, j_61⟩ ⟨hM62, hr63, hi64, hi65, hk66, hk67, hk68⟩
   refine JJ_nx fun _ _ hL hA => ?_; dsimp only at hL hA; subst hL hA
   refine Fb 72 0 fun _ => Fb 40 2 fun _ => KS ?_
   refine Oq Vm (Oq Vm (Oq (Vlen sl166) (Oq Vlss (KS ?_))))
   refine Kc ?_ ?_
   ·intro h76
    have g77 := dt h76
    obtain ⟨r78, rfl⟩ := scc (n := r58) aM1
    have H := hM62; (try dsimp only at H); rw [r4_Sizes_L2] at H
    refine KS ?_
    refine Oq Vm ?_
    refine pC H hx72 fun hc79 H => ?_
    refine Oq Vadd (Oq Va (KS ?_))
    refine Oq Vm (Oq Vm ?_)
    refine pC H hx72 fun hc80 H => ?_
    refine Oq (Vi sl166 0) ?_
    refine JJ_peek_GStmt j_61.toNat 0 rfl rng fun a81 k82 a83 k84 hb85 hb86 => ?_
    unfold i64ok at hb85
    refine Fb 16 1 fun _ => ?_
    refine FoS 1 fun ho88 => ?_
    refine Fb 16 2 fun _ => ?_
    refine FoS 2 fun ho90 => ?_
    refine Oq (Vfa fo140_0 0) (Oq (VldF sh3 0) (KS ?_))
    refine Oq Veql (Oq Va (KS ?_))
    refine pC H hx72 fun hc92 H => ?_
    refine pF H hx72 fun h91 H => ?_
    refine KcF h91 ?_
    have g93 := ne_of_beq_false h91
    refine KS ?_
    refine Oq Veql (Oq Va (KS ?_))
    refine pF H hx72 fun h94 H => ?_
    refine KcF h94 ?_
    have g95 := ne_of_beq_false h94
    refine KS ?_
    refine Oq Vm ?_
    refine pC H hx72 fun hc96 H => ?_
    refine Oq Vadd (Oq Va (KS ?_))
    refine Oq Vm (Oq Vadd (Oq Va (KS ?_)))
    refine pC H hx72 fun hc97 H => ?_
    exact Kg (r78, (nd_59 + 1), (edges_60 + 1), (j_61 + 1)) [3, 4, 5] ⟨H, aM1, aM1, aM1, aM1, aM1, aM1⟩
   intro h76
   have g98 := df h76
   obtain rfl : r58 = 0 := by omega
   have H := hM62; (try dsimp only at H); rw [r4_Sizes_L2] at H
   refine Ke ?_
   have H := llB H HL73
   dsimp only at H
   refine KS ?_
   refine Oq Vm ?_
   refine pC H hx41 fun hc99 H => ?_
   refine Oq Vadd (Oq Va (KS ?_))
   exact Kg (r31, nd_59, edges_60, (k_34 + 1)) [1, 2] ⟨H, aM1, aM1, aM1⟩
  intro h49 H
  have g100 := df h49
  refine Ke ?_
  have H := llB H HL42
  dsimp only at H
  refine KS ?_
  refine Oq Vm (Oq Vadd (Oq Va (KS ?_)))
  refine pC H hx23 fun hc101 H => ?_
  exact Kg (r28, nd_32, edges_33, (i_13 + 1)) [2, 3] ⟨H, aM1, aM1, aM1, aM1, aM1, aM1⟩
 intro h26
 have g102 := df h26
 obtain rfl : r10 = 0 := by omega
 have H := hM14; (try dsimp only at H); rw [r4_Sizes_L0] at H
 refine Ke ?_
 have H := llB H HL24
 dsimp only at H
 refine KS ?_
 refine Oq Vm (Oq Vm (Oq Va (Oq Va (KS ?_))))
 have hq := rI H; subst hq
 exact Kr () rfl (.tmp rfl (.tmp rfl .nil)) [] en
theorem fn125 (p : GProgram) (pa0 : Option Addr) (pk0 : Nat) (rr : GNode × Int) (hrr : r4_Check p = .ret rr) : FT Tryz.prog 125 #[.agg #[vl pa0 pk0 p.Funcs]] [S pa0 pk0 p.Funcs] (fun g : Unit => i64ok rr.1.Kind ∧ i64ok rr.1.Func ∧ i64ok rr.1.Block ∧ i64ok rr.1.Stmt ∧ i64ok rr.2) (fun g => .tuple #[.agg #[vi rr.1.Kind, vi rr.1.Func, vi rr.1.Block, vi rr.1.Stmt], vi rr.2]) (fun g => []) := by
 refine FTi Tryz.func125 fun w0 M0 F0 => Fb 40 0 fun _ => ?_
 have hx0 := lrn rr; have H := hrr; unfold r4_Check at H
 refine KS ?_
 refine Oa (Ab [vl pa0 pk0 p.Funcs]) fun p2 => Oa (Al ze142 [vi 0, vi 0, vi 0, vi 0]) fun p3 => Oq Va (KS ?_)
 refine Oq (VldA sh84 1) ?_
 refine lbH H hx0 fun rv4 hg5 H => ?_
 have hc6 := fn158 p pa0 pk0 rv4 hg5
 refine Oc [2] ca158 hc6 ?_
 rintro - -
 refine Oq Vnot (KS ?_)
 refine pF H hx0 fun h7 H => ?_
 refine KcF h7 ?_
 have h9 := not_false h7
 refine KS ?_
 refine Oq (VldA sh84 1) ?_
 refine lbH H hx0 fun rv12 hg13 H => ?_
 have hc14 := fn160 p pa0 pk0 rv12 hg13
 refine Oc [2] ca160 hc14 ?_
 rintro c11 -
 refine Jo 0 ?_; rintro a15 k16 rfl
 refine Fb 16 0 fun _ => ?_
 refine FoS 0 fun ho18 => ?_
 refine lbH H hx0 fun rv19 hg20 H => ?_
 have hc21 := fn159 rv12 a15 k16 rv19 hg20
 refine Oc [0] ca159 hc21 ?_
 rintro - he22
 unfold i64ok at he22
 refine Oq Va (KS ?_)
 refine Oq Vm (Oq Vgeq (KS ?_))
 refine pF H hx0 fun h23 H => ?_
 refine KcF h23 ?_
 have g24 := df h23
 refine KS ?_
 refine Oq Va (KS ?_)
 refine llH H hx0 fun X32 hX33 hx34 HL35 => ?_
 refine Kl (γ := Nat × Int) (fun (r25, i_26) => ⟨[(1, p2), (2, p3), (5, vi i_26)], [Cl p3 [vi 0, vi 0, vi 0, vi 0], pv p2 [vl pa0 pk0 p.Funcs], S pa0 pk0 p.Funcs], r4_Check_L0 p r25 i_26 = X32 ∧ r25 = ((p.Funcs.length : Int) - i_26).toNat ∧ (0 : Int) ≤ i_26 ∧ i_26 ≤ (p.Funcs.length : Int) ∧ (-9223372036854775808 ≤ i_26 ∧ i_26 ≤ 9223372036854775807), r25⟩) (((p.Funcs.length : Int) - 0).toNat, 0) [1, 1, 2] ⟨hX33, rfl, aM1, aM1, aM1⟩ ?_
 rintro ⟨r25, i_26⟩ ⟨hM27, hr28, hi29, hi30, hk31⟩
 refine JJ_nx fun _ _ hL hA => ?_; dsimp only at hL hA; subst hL hA
 refine Fb 40 2 fun _ => KS ?_
 refine Oq Vm (Oq (Vfa fo84_0 1) (Oq (VldF sh82 1) (Oq (Vlen sl82) (Oq Vlss (KS ?_)))))
 refine Kc ?_ ?_
 ·intro h37
  have g38 := dt h37
  obtain ⟨r39, rfl⟩ := scc (n := r25) aM1
  have H := hM27; (try dsimp only at H); rw [r4_Check_L0] at H
  refine KS ?_
  refine Oq (Vfa fo84_0 1) (Oq (VldF sh82 1) (Oq Vm ?_))
  refine pC H hx34 fun hc40 H => ?_
  refine Oq (Vi sl82 2) ?_
  refine JJ_peek_GFunc i_26.toNat 2 rfl rng fun a41 k42 hb43 => ?_
  refine Fb 40 1 fun _ => ?_
  refine Oq (VldA sh126 0) (Oa (Al ze126 [.string (bs (Str.mk [])), .slice none 0 0]) fun p45 => Ost (Scl [0] sh126 [.string (bs ((p.Funcs.getD i_26.toNat default).Name)), vl a41 k42 ((p.Funcs.getD i_26.toNat default).Blocks)]) (KS ?_))
  refine Oq (VldA sh126 0) ?_
  refine pC H hx34 fun hc49 H => ?_
  refine lbH H hx34 fun rv47 hg48 H => ?_
  have hc50 := fn161 ((p.Funcs.getD i_26.toNat default)) a41 k42 pre rv47 hg48
  refine Oc [2] ca161 hc50 ?_
  rintro c46 -
  refine Jo 0 ?_; rintro a51 k52 rfl
  refine Fb 16 0 fun _ => ?_
  refine FoS 0 fun ho54 => ?_
  refine lbH H hx34 fun rv55 hg56 H => ?_
  have hc57 := fn159 rv47 a51 k52 rv55 hg56
  refine Oc [0] ca159 hc57 ?_
  rintro - he58
  unfold i64ok at he58
  refine Oq Va (KS ?_)
  refine Oq Vm (Oq Vgeq (KS ?_))
  refine pF H hx34 fun h59 H => ?_
  refine KcF h59 ?_
  have g60 := df h59
  refine KS ?_
  refine Oq Va (KS ?_)
  refine llH H hx34 fun X68 hX69 hx70 HL71 => ?_
  refine Kl (γ := Nat × Int) (fun (r61, k_62) => ⟨[(1, p2), (2, p3), (5, vi i_26), (6, p45), (8, vi k_62)], [Cl p45 [.string (bs ((p.Funcs.getD i_26.toNat default).Name)), vl a41 k42 ((p.Funcs.getD i_26.toNat default).Blocks)], S a41 k42 ((p.Funcs.getD i_26.toNat default).Blocks), Cl p3 [vi 0, vi 0, vi 0, vi 0], pv p2 [vl pa0 pk0 p.Funcs], S pa0 pk0 p.Funcs], r4_Check_L1 p ((p.Funcs.getD i_26.toNat default).Name) ((p.Funcs.getD i_26.toNat default).Blocks) r61 k_62 = X68 ∧ r61 = (((((p.Funcs.getD i_26.toNat default).Blocks).length : Int) : Int) - k_62).toNat ∧ (0 : Int) ≤ k_62 ∧ (k_62 ≤ (((p.Funcs.getD i_26.toNat default).Blocks).length : Int) ∨ k_62 = 0) ∧ (-9223372036854775808 ≤ k_62 ∧ k_62 ≤ 9223372036854775807), r61⟩) ((((((p.Funcs.getD i_26.toNat default).Blocks).length : Int) : Int) - 0).toNat, 0) [1, 2, 3, 3, 4] ⟨hX69, rfl, aM1, (.inr rfl), aM1⟩ ?_
  rintro ⟨r61, k_62⟩ ⟨hM63, hr64, hi65, hi66, hk67⟩
  refine JJ_nx fun _ _ hL hA => ?_; dsimp only at hL hA; subst hL hA
  refine Fb 40 1 fun _ => Fb 40 4 fun _ => KS ?_
  refine Oq Vm (Oq (Vfa fo126_1 0) (Oq (VldF sh124 0) (Oq (Vlen sl124) (Oq Vlss (KS ?_)))))
  refine Kc ?_ ?_
  ·intro h74
   have g75 := dt h74
   obtain ⟨r76, rfl⟩ := scc (n := r61) aM1
   have H := hM63; (try dsimp only at H); rw [r4_Check_L1] at H
   refine KS ?_
   refine Oq (Vfa fo126_1 0) (Oq (VldF sh124 0) (Oq Vm ?_))
   refine pC H hx70 fun hc77 H => ?_
   refine Oq (Vi sl124 1) ?_
   refine JJ_peek_GBlock k_62.toNat 1 rfl rng fun a78 k79 hb80 => ?_
   refine Fb 72 1 fun _ => ?_
   refine Oq (Vfa fo168_1 0) (Oq (VldF sh166 0) (Oq Va (KS ?_)))
   refine Oq Va (KS ?_)
   refine pC H hx70 fun hc89 H => ?_
   refine llH H hx70 fun X90 hX91 hx92 HL93 => ?_
   refine Kl (γ := Nat × Int) (fun (r82, j_83) => ⟨[(1, p2), (2, p3), (5, vi i_26), (6, p45), (8, vi k_62), (9, .slice a78 (((((p.Funcs.getD i_26.toNat default).Blocks).getD k_62.toNat default).Stmts).length) k79), (10, vi j_83)], [S a78 k79 ((((p.Funcs.getD i_26.toNat default).Blocks).getD k_62.toNat default).Stmts), Cl p45 [.string (bs ((p.Funcs.getD i_26.toNat default).Name)), vl a41 k42 ((p.Funcs.getD i_26.toNat default).Blocks)], S a41 k42 ((p.Funcs.getD i_26.toNat default).Blocks), Cl p3 [vi 0, vi 0, vi 0, vi 0], pv p2 [vl pa0 pk0 p.Funcs], S pa0 pk0 p.Funcs], r4_Check_L2 p ((p.Funcs.getD i_26.toNat default).Name) ((p.Funcs.getD i_26.toNat default).Blocks) ((((p.Funcs.getD i_26.toNat default).Blocks).getD k_62.toNat default).Stmts) r82 j_83 = X90 ∧ r82 = (((((((p.Funcs.getD i_26.toNat default).Blocks).getD k_62.toNat default).Stmts).length : Int) : Int) - j_83).toNat ∧ (0 : Int) ≤ j_83 ∧ (j_83 ≤ (((((p.Funcs.getD i_26.toNat default).Blocks).getD k_62.toNat default).Stmts).length : Int) ∨ j_83 = 0) ∧ (-9223372036854775808 ≤ j_83 ∧ j_83 ≤ 9223372036854775807), r82⟩) ((((((((p.Funcs.getD i_26.toNat default).Blocks).getD k_62.toNat default).Stmts).length : Int) : Int) - 0).toNat, 0) [1, 2, 2, 3, 3, 4] ⟨hX91, rfl, aM1, (.inr rfl), aM1⟩ ?_
   rintro ⟨r82, j_83⟩ ⟨hM84, hr85, hi86, hi87, hk88⟩
   refine JJ_nx fun _ _ hL hA => ?_; dsimp only at hL hA; subst hL hA
   refine Fb 72 0 fun _ => Fb 40 2 fun _ => Fb 40 5 fun _ => KS ?_
   refine Oq Vm (Oq Vm (Oq (Vlen sl166) (Oq Vlss (KS ?_))))
   refine Kc ?_ ?_
   ·intro h97
    have g98 := dt h97
    obtain ⟨r99, rfl⟩ := scc (n := r82) aM1
    have H := hM84; (try dsimp only at H); rw [r4_Check_L2] at H
    refine KS ?_
    refine pC H hx92 fun hc100 H => ?_
    refine JJ_peek_GStmt j_83.toNat 0 rfl rng fun a101 k102 a103 k104 hb105 hb106 => ?_
    unfold i64ok at hb105
    refine Fb 16 1 fun _ => ?_
    refine FoS 1 fun ho108 => ?_
    refine Fb 16 2 fun _ => ?_
    refine FoS 2 fun ho110 => ?_
    refine JK_drawK [0, 0, 0, 0, 12, 28, 0, 0, 128, 384, 960, 2047, 4095] fmix ?_
    refine Dv [7] (VldA sh84 0) (Dv [4] (VldA sh126 0) (Dv [] Vm (Dv [] Vm (Dv [3] (Vi sl166 0) (Dv [0] (VldA sh140 0) (Dv [] Vm (Dv [] Vm (Dv [] (Vlen sl166) ?_))))))))
    refine pC H hx92 fun hc111 H => ?_
    refine pC H hx92 fun hc112 H => ?_
    refine Dv [] Vsub (Dv [] Veql ?_)
    refine lbH H hx92 fun rv113 hg114 H => ?_
    refine Dx [1, 2, 5, 8] [] [1, 2, 3, 4, 0] (fun G => vi rv113) [fun G => SP.fact (i64ok rv113)] (fun G => xC [3, 2, 0, 1] ca162 (fn162 p pa0 pk0 ((p.Funcs.getD i_26.toNat default)) a41 k42 ((((((p.Funcs.getD i_26.toNat default).Blocks).getD k_62.toNat default).Stmts).getD j_83.toNat default)) a101 k102 a103 k104 ((j_83 == ((((((p.Funcs.getD i_26.toNat default).Blocks).getD k_62.toNat default).Stmts).length : Int) - 1))) pre pre pre rv113 hg114)) (Dv [] Va ?_)
    refine Dn ⟨by kernel_rfl, fun G => ?_⟩
    refine Jw2 [(1, p2), (2, p3), (5, vi i_26), (6, p45), (8, vi k_62), (9, .slice a78 (((((p.Funcs.getD i_26.toNat default).Blocks).getD k_62.toNat default).Stmts).length) k79), (10, vi j_83), (11, vi rv113)] [0, 1, 2, 3, 4, 5, 6, 7, 8] [SP.fact (i64ok rv113)] ?_
    refine Jf 9 rfl ?_; rintro he115
    unfold i64ok at he115
    refine Jk [0, 1, 2, 3, 4, 4, 5, 5, 6] ?_
    refine KS ?_
    refine Oq Vm (Oq Vneq (KS ?_))
    refine pF H hx92 fun h116 H => ?_
    refine KcF h116 ?_
    have g117 := eq_of_bne_false h116
    refine KS ?_
    refine Oq Vm (Oq Vadd (Oq Va (KS ?_)))
    refine pC H hx92 fun hc118 H => ?_
    exact Kg (r99, (j_83 + 1)) [3, 4, 4, 5, 5, 6] ⟨H, aM1, aM1, aM1, aM1⟩
   intro h97
   have g119 := df h97
   obtain rfl : r82 = 0 := by omega
   have H := hM84; (try dsimp only at H); rw [r4_Check_L2] at H
   refine Ke ?_
   have H := llB H HL93
   refine KS ?_
   refine Oq Vm (Oq Vadd (Oq Va (KS ?_)))
   refine pC H hx70 fun hc120 H => ?_
   exact Kg (r76, (k_62 + 1)) [1, 1, 2, 2, 3] ⟨H, aM1, aM1, aM1, aM1⟩
  intro h74
  have g121 := df h74
  obtain rfl : r61 = 0 := by omega
  have H := hM63; (try dsimp only at H); rw [r4_Check_L1] at H
  refine Ke ?_
  have H := llB H HL71
  refine KS ?_
  refine Oq Vm (Oq Vadd (Oq Va (KS ?_)))
  refine pC H hx34 fun hc122 H => ?_
  exact Kg (r39, (i_26 + 1)) [2, 2, 3] ⟨H, aM1, aM1, aM1, aM1⟩
 intro h37
 have g123 := df h37
 obtain rfl : r25 = 0 := by omega
 have H := hM27; (try dsimp only at H); rw [r4_Check_L0] at H
 refine Ke ?_
 have H := llB H HL35
 refine KS ?_
 refine Oq (VldA sh84 1) ?_
 refine lbH H hx0 fun rv124 hg125 H => ?_
 have hc126 := fn163 p pa0 pk0 rv124 hg125
 refine Oc [2] ca163 hc126 ?_
 rintro - ⟨he127, he128⟩
 unfold i64ok at he127 he128
 refine Oq Vm (Oq Vx (Oq Vx (Oq Va (Oq Va (KS ?_)))))
 refine Oq (VldA sh84 1) ?_
 refine lbH H hx0 fun rv130 hg131 H => ?_
 have hc132 := fn126 p pa0 pk0 rv130 hg131
 refine Oc [2] ca126 hc132 ?_
 rintro c129 -
 refine Jo 0 ?_; rintro a133 k134 rfl
 refine Fb 16 0 fun _ => ?_
 refine FoS 0 fun ho136 => ?_
 refine Oq (Vlen sl138) (Oq Vgtr (Oq Vm ?_))
 refine pF H hx0 fun h137 H => ?_
 refine JsF 92 h137 ?_
 have g138 := df h137
 refine Oq Vm (Oq Vgtr (Oq Vpf (Oq Vm ?_)))
 refine pF H hx0 fun h139 H => ?_
 refine JsF 96 h139 ?_
 have g140 := df h139
 refine Oq Vm (Oq Vgtr (Oq Vpf (KS ?_)))
 refine pF H hx0 fun h141 H => ?_
 refine KcF h141 ?_
 have g142 := df h141
 refine KS ?_
 refine Oq (Vbd st142 [vi 0, vi 0, vi 0, vi 0]) (Ost (Scl [1] sh142 [vi 0, vi 0, vi 0, vi 0]) (Oq Va (KS ?_)))
 have hq := rI H; subst hq
 exact Kr () rfl (.cellN 0 rfl sh142 rfl (reads_Cl _ _) rfl (.tmp rfl .nil)) [] en
theorem fn127 (p : GProgram) (pa0 : Option Addr) (pk0 : Nat) (rr : List GNode) (hrr : r7_List p = .ret rr) : FT Tryz.prog 127 #[.agg #[vl pa0 pk0 p.Funcs]] [S pa0 pk0 p.Funcs] (fun g : Value => True) (fun g => g) (fun g => [sl g rr]) := by
 refine FTi Tryz.func127 fun w0 M0 F0 => Fb 40 0 fun _ => ?_
 have hx0 := lrn rr; have H := hrr; unfold r7_List at H
 refine KS ?_
 refine Oa (Ab [vl pa0 pk0 p.Funcs]) fun p2 => Oq Va (KS ?_)
 refine Oq Va (KS ?_)
 refine Oq (VldA sh84 0) ?_
 refine lbH H hx0 fun rv3 hg4 H => ?_
 have hc5 := fn125 p pa0 pk0 rv3 hg4
 refine Oc [1] ca125 hc5 ?_
 rintro - ⟨he6, he7, he8, he9, he10⟩
 unfold i64ok at he6 he7 he8 he9 he10
 refine Oq Vm (Oq Vx (Oq Vx (Oa (Al ze142 [vi 0, vi 0, vi 0, vi 0]) fun p11 => Ost (Scl [0] sh142 [vi rv3.1.Kind, vi rv3.1.Func, vi rv3.1.Block, vi rv3.1.Stmt]) (Oq Va (KS ?_)))))
 refine Oq Vm (Oq Vneq (KS ?_))
 refine pF H hx0 fun h12 H => ?_
 refine KcF h12 ?_
 have g13 := eq_of_bne_false h12
 refine KS ?_
 refine Oq Va (KS ?_)
 refine Jl [] (Ent.osNil (α := GNode)) ?_
 refine llH H hx0 fun X24 hX25 hx26 HL27 => ?_
 refine Kl (γ := Nat × List GNode × Int × Option Addr × Nat) (fun (r14, out_15, i_16, a17, k18) => ⟨[(1, p2), (3, vl a17 k18 out_15), (6, vi i_16)], [O a17 k18 out_15, pv p2 [vl pa0 pk0 p.Funcs], S pa0 pk0 p.Funcs], r7_List_L0 p r14 out_15 i_16 = X24 ∧ r14 = ((p.Funcs.length : Int) - i_16).toNat ∧ (0 : Int) ≤ i_16 ∧ i_16 ≤ (p.Funcs.length : Int) ∧ (-9223372036854775808 ≤ i_16 ∧ i_16 ≤ 9223372036854775807), r14⟩) (((p.Funcs.length : Int) - 0).toNat, [], 0, none, 0) [0, 1, 2] ⟨hX25, rfl, aM1, aM1, aM1⟩ ?_
 rintro ⟨r14, out_15, i_16, a17, k18⟩ ⟨hM19, hr20, hi21, hi22, hk23⟩
 refine JJ_nx fun _ _ hL hA => ?_; dsimp only at hL hA; subst hL hA
 refine Fb 32 0 fun _ => Fb 40 2 fun _ => KS ?_
 refine Oq Vm (Oq (Vfa fo84_0 1) (Oq (VldF sh82 1) (Oq (Vlen sl82) (Oq Vlss (KS ?_)))))
 refine Kc ?_ ?_
 ·intro h30
  have g31 := dt h30
  obtain ⟨r32, rfl⟩ := scc (n := r14) aM1
  have H := hM19; (try dsimp only at H); rw [r7_List_L0] at H
  refine KS ?_
  refine Oq Vm (Oq Vm (Oq (Vbd st142 [vi 1, vi i_16, vi (-1), vi (-1)]) (Oa (AsV sl133 sz133 [.agg #[vi 1, vi i_16, vi (-1), vi (-1)]] [vi 1, vi i_16, vi (-1), vi (-1)]) fun c33 => ?_)))
  refine Jo 0 ?_; rintro a34 k35 rfl
  refine Jl [0] (Ent.cr1 (α := GNode) (A := []) _ (GNode.mk 1 i_16 (-1) (-1)) _ aB1 (fun h => ⟨rfl, aL1, aL1, aL1, aL1⟩)) ?_
  refine pC H hx26 fun hc36 H => ?_
  refine Oa (ApO [1, 0] sl133 sl133 sz133) fun c37 => ?_
  refine Jo 0 ?_; rintro a38 k39 rfl
  refine Fb 32 0 fun _ => ?_
  have hn41 := la out_15 ([(GNode.mk 1 i_16 (-1) (-1))] : List GNode)
  refine Oq Va (KS ?_)
  refine Oq Va (KS ?_)
  refine llH H hx26 fun X49 hX50 hx51 HL52 => ?_
  refine Kl (γ := Nat × List GNode × Int × Option Addr × Nat) (fun (r42, out_43, k_44, a45, k46) => ⟨[(1, p2), (6, vi i_16), (3, vl a45 k46 out_43), (7, vi k_44)], [O a45 k46 out_43, pv p2 [vl pa0 pk0 p.Funcs], S pa0 pk0 p.Funcs], r7_List_L1 p i_16 r42 out_43 k_44 = X49 ∧ (-9223372036854775808 ≤ k_44 ∧ k_44 ≤ 9223372036854775807), r42⟩) (100000, (out_15 ++ [(GNode.mk 1 i_16 (-1) (-1))]), 0, a38, k39) [0, 0, 1] ⟨hX50, aM1⟩ ?_
  rintro ⟨r42, out_43, k_44, a45, k46⟩ ⟨hM47, hk48⟩
  refine JJ_nx fun _ _ hL hA => ?_; dsimp only at hL hA; subst hL hA
  refine Fb 32 0 fun _ => Fb 40 2 fun _ => ?_
  rcases r42 with _ | r42
  ·exact absurd (hM47.symm.trans rfl) hx51
  have H := hM47; (try dsimp only at H); rw [r7_List_L1] at H
  refine KS ?_
  refine Oq Vm (Oq (Vfa fo84_0 1) (Oq (VldF sh82 1) (Oq Vm ?_)))
  refine pC H hx51 fun hc55 H => ?_
  refine Oq (Vi sl82 2) ?_
  refine JJ_peek_GFunc i_16.toNat 2 rfl rng fun a56 k57 hb58 => ?_
  refine Fb 40 1 fun _ => ?_
  refine Oq (Vfa fo126_1 0) (Oq (VldF sh124 0) (Oq (Vlen sl124) (Oq Vlss (KS ?_))))
  refine pC H hx51 fun hc61 H => ?_
  refine KcH H ?_ ?_
  ·intro h60 H
   have g62 := dt h60
   refine KS ?_
   refine Oq (Vfa fo84_0 3) (Oq (VldF sh82 3) (Oq Vm (Oq (Vi sl82 4) (Oq (Vfa fo126_1 0) (Oq (VldF sh124 0) (Oq Vm ?_))))))
   refine pC H hx51 fun hc63 H => ?_
   refine pC H hx51 fun hc64 H => ?_
   refine Oq (Vi sl124 1) ?_
   refine JJ_peek_GBlock k_44.toNat 1 rfl rng fun a65 k66 hb67 => ?_
   refine Fb 72 1 fun _ => ?_
   refine Oq (Vfa fo168_1 0) (Oq (VldF sh166 0) (Oq Va (KS ?_)))
   refine Oq Va (KS ?_)
   refine pC H hx51 fun hc79 H => ?_
   refine llH H hx51 fun X80 hX81 hx82 HL83 => ?_
   refine Kl (γ := Nat × List GNode × Int × Option Addr × Nat) (fun (r69, out_70, j_71, a72, k73) => ⟨[(1, p2), (6, vi i_16), (3, vl a72 k73 out_70), (7, vi k_44), (8, .slice a65 (((((p.Funcs.getD i_16.toNat default).Blocks).getD k_44.toNat default).Stmts).length) k66), (9, vi j_71)], [O a72 k73 out_70, S a65 k66 ((((p.Funcs.getD i_16.toNat default).Blocks).getD k_44.toNat default).Stmts), pv p2 [vl pa0 pk0 p.Funcs], S pa0 pk0 p.Funcs], r7_List_L2 i_16 k_44 ((((p.Funcs.getD i_16.toNat default).Blocks).getD k_44.toNat default).Stmts) r69 out_70 j_71 = X80 ∧ r69 = (((((((p.Funcs.getD i_16.toNat default).Blocks).getD k_44.toNat default).Stmts).length : Int) : Int) - j_71).toNat ∧ (0 : Int) ≤ j_71 ∧ (j_71 ≤ (((((p.Funcs.getD i_16.toNat default).Blocks).getD k_44.toNat default).Stmts).length : Int) ∨ j_71 = 0) ∧ (-9223372036854775808 ≤ j_71 ∧ j_71 ≤ 9223372036854775807), r69⟩) ((((((((p.Funcs.getD i_16.toNat default).Blocks).getD k_44.toNat default).Stmts).length : Int) : Int) - 0).toNat, out_43, 0, a45, k46) [4, 1, 4, 5] ⟨hX81, rfl, aM1, (.inr rfl), aM1⟩ ?_
   rintro ⟨r69, out_70, j_71, a72, k73⟩ ⟨hM74, hr75, hi76, hi77, hk78⟩
   refine JJ_nx fun _ _ hL hA => ?_; dsimp only at hL hA; subst hL hA
   refine Fb 32 0 fun _ => Fb 72 1 fun _ => Fb 40 3 fun _ => KS ?_
   refine Oq Vm (Oq Vm (Oq (Vlen sl166) (Oq Vlss (KS ?_))))
   refine Kc ?_ ?_
   ·intro h87
    have g88 := dt h87
    obtain ⟨r89, rfl⟩ := scc (n := r69) aM1
    have H := hM74; (try dsimp only at H); rw [r7_List_L2] at H
    refine KS ?_
    refine Oq Vm (Oq Vm (Oq Vm (Oq Vm (Oq (Vbd st142 [vi 3, vi i_16, vi k_44, vi j_71]) (Oa (AsV sl133 sz133 [.agg #[vi 3, vi i_16, vi k_44, vi j_71]] [vi 3, vi i_16, vi k_44, vi j_71]) fun c90 => ?_)))))
    refine Jo 0 ?_; rintro a91 k92 rfl
    refine Jl [0] (Ent.cr1 (α := GNode) (A := []) _ (GNode.mk 3 i_16 k_44 j_71) _ aB1 (fun h => ⟨rfl, aL1, aL1, aL1, aL1⟩)) ?_
    refine pC H hx82 fun hc93 H => ?_
    refine Oa (ApO [1, 0] sl133 sl133 sz133) fun c94 => ?_
    refine Jo 0 ?_; rintro a95 k96 rfl
    refine Fb 32 0 fun _ => ?_
    have hn98 := la out_70 ([(GNode.mk 3 i_16 k_44 j_71)] : List GNode)
    refine Oq Va (KS ?_)
    refine Oq Vm (Oq Vm ?_)
    refine pC H hx82 fun hc99 H => ?_
    refine Oq (Vi sl166 1) ?_
    refine JJ_peek_GStmt j_71.toNat 1 rfl rng fun a100 k101 a102 k103 hb104 hb105 => ?_
    unfold i64ok at hb104
    refine Fb 16 1 fun _ => ?_
    refine FoS 1 fun ho107 => ?_
    refine Fb 16 2 fun _ => ?_
    refine FoS 2 fun ho109 => ?_
    refine Oq (Vfa fo140_0 0) (Oq (VldF sh3 0) (Oq Veql (KS ?_)))
    refine pC H hx82 fun hc111 H => ?_
    refine pF H hx82 fun h110 H => ?_
    refine KcF h110 ?_
    have g112 := ne_of_beq_false h110
    refine KS ?_
    refine Oq Vm (Oq Vadd (Oq Va (KS ?_)))
    refine pC H hx82 fun hc113 H => ?_
    exact Kg (r89, (out_70 ++ [(GNode.mk 3 i_16 k_44 j_71)]), (j_71 + 1), a95, k96) [3, 3, 4, 5] ⟨H, aM1, aM1, aM1, aM1⟩
   intro h87
   have g114 := df h87
   obtain rfl : r69 = 0 := by omega
   have H := hM74; (try dsimp only at H); rw [r7_List_L2] at H
   refine Ke ?_
   have H := llB H HL83
   refine KS ?_
   refine Oq Vm ?_
   refine pC H hx51 fun hc115 H => ?_
   refine Oq Vadd (Oq Va (KS ?_))
   exact Kg (r42, out_70, (k_44 + 1), a72, k73) [0, 1, 2] ⟨H, aM1⟩
  intro h60 H
  have g116 := df h60
  refine Ke ?_
  have H := llB H HL52
  refine KS ?_
  refine Oq Vm (Oq Vm (Oq (Vbd st142 [vi 2, vi i_16, vi (-1), vi (-1)]) (Oa (AsV sl133 sz133 [.agg #[vi 2, vi i_16, vi (-1), vi (-1)]] [vi 2, vi i_16, vi (-1), vi (-1)]) fun c117 => ?_)))
  refine Jo 0 ?_; rintro a118 k119 rfl
  refine Jl [0] (Ent.cr1 (α := GNode) (A := []) _ (GNode.mk 2 i_16 (-1) (-1)) _ aB1 (fun h => ⟨rfl, aL1, aL1, aL1, aL1⟩)) ?_
  refine pC H hx26 fun hc120 H => ?_
  refine Oa (ApO [3, 0] sl133 sl133 sz133) fun c121 => ?_
  refine Jo 0 ?_; rintro a122 k123 rfl
  refine Fb 32 0 fun _ => ?_
  have hn125 := la out_43 ([(GNode.mk 2 i_16 (-1) (-1))] : List GNode)
  refine Oq Va (KS ?_)
  refine Oq Vm (Oq Vadd (Oq Va (KS ?_)))
  refine pC H hx26 fun hc126 H => ?_
  exact Kg (r32, (out_43 ++ [(GNode.mk 2 i_16 (-1) (-1))]), (i_16 + 1), a122, k123) [0, 2, 3] ⟨H, aM1, aM1, aM1, aM1⟩
 intro h30
 have g127 := df h30
 obtain rfl : r14 = 0 := by omega
 have H := hM19; (try dsimp only at H); rw [r7_List_L0] at H
 refine Ke ?_
 have H := llB H HL27
 refine KS ?_
 refine Oq Vm (Oq Va (KS ?_))
 refine Jl [0] (Ent.freeze _ _) ?_
 have hq := rI H; subst hq
 exact Kr (vl a17 k18 out_15) rfl (.tmp rfl .nil) [0] trivial
theorem fn128 (s : GStmt) (sa2 : Option Addr) (sk2 : Nat) (sa3 : Option Addr) (sk3 : Nat) (hs_0 : i64ok s.Op) (hs_1 : s.Def.b.length ≤ 140737488355328) (rr : Bool) (hrr : r4_Defines s = .ret rr) : FT Tryz.prog 128 #[.agg #[vi s.Op, .string (bs s.Def), vl sa2 sk2 s.Uses, vl sa3 sk3 s.Targets]] [S sa2 sk2 s.Uses, S sa3 sk3 s.Targets] (fun g : Unit => True) (fun g => vb rr) (fun g => []) := by
 refine FTi Tryz.func128 fun w0 M0 F0 => ?_
 unfold i64ok at hs_0
 refine Fb 16 0 fun _ => ?_
 refine FoS 0 fun ho2 => ?_
 refine Fb 16 1 fun _ => ?_
 refine FoS 1 fun ho4 => ?_
 have hx0 := lrn rr; have H := hrr; unfold r4_Defines at H
 refine KS ?_
 refine Oa (Ab [vi s.Op, .string (bs s.Def), vl sa2 sk2 s.Uses, vl sa3 sk3 s.Targets]) fun p5 => Oq Va (KS ?_)
 refine Oq (Vfa fo140_0 0) (Oq (VldF sh3 0) (Oq Veql (Oq Vm ?_)))
 refine JsH 6 H ?_ ?_
 ·intro h6 H
  have g7 := eq_of_beq h6
  refine Osk (Osk (Osk (Oq Vpt (Oq Vm (Osk (Osk (Osk (Oq Vpt (Oq Va ?_)))))))))
  refine KS ?_
  have hq := rI H; subst hq
  exact Kr () rfl (.tmp rfl .nil) [] trivial
 intro h6 H
 have g8 := ne_of_beq_false h6
 refine Oq (Vfa fo140_0 0) (Oq (VldF sh3 0) (Oq Veql (Oq Vpf (Oq Vm ?_))))
 refine pF H hx0 fun h9 H => ?_
 refine JsF 11 h9 ?_
 have g10 := ne_of_beq_false h9
 refine Oq (Vfa fo140_0 0) (Oq (VldF sh3 0) (Oq Veql (Oq Vpf (Oq Va (KS ?_)))))
 have hq := rI H; subst hq
 exact Kr () rfl (.tmp rfl .nil) [] trivial
theorem fn167 (l : List GNode) (la0 : Option Addr) (lk0 : Nat) (n : GNode) (hn_0 : i64ok n.Kind) (hn_1 : i64ok n.Func) (hn_2 : i64ok n.Block) (hn_3 : i64ok n.Stmt) (rr : Int) (hrr : r7_Index l n = .ret rr) : FT Tryz.prog 167 #[vl la0 lk0 l, .agg #[vi n.Kind, vi n.Func, vi n.Block, vi n.Stmt]] [S la0 lk0 l] (fun g : Unit => i64ok rr) (fun g => vi rr) (fun g => []) := by
 refine FTi Tryz.func167 fun w0 M0 F0 => ?_
 unfold i64ok at hn_0 hn_1 hn_2 hn_3
 refine Fb 32 0 fun _ => ?_
 have hx0 := lrn rr; have H := hrr; unfold r7_Index at H
 refine KS ?_
 refine Oa (Ab [vi n.Kind, vi n.Func, vi n.Block, vi n.Stmt]) fun p2 => Oq Va (KS ?_)
 refine Oq Va (KS ?_)
 refine llH H hx0 fun X10 hX11 hx12 HL13 => ?_
 refine Kl (γ := Nat × Int) (fun (r3, i_4) => ⟨[(0, vl la0 lk0 l), (3, p2), (5, vi i_4)], [pv p2 [vi n.Kind, vi n.Func, vi n.Block, vi n.Stmt], S la0 lk0 l], r7_Index_L0 l n r3 i_4 = X10 ∧ r3 = ((l.length : Int) - i_4).toNat ∧ (0 : Int) ≤ i_4 ∧ i_4 ≤ (l.length : Int) ∧ (-9223372036854775808 ≤ i_4 ∧ i_4 ≤ 9223372036854775807), r3⟩) (((l.length : Int) - 0).toNat, 0) [0, 1] ⟨hX11, rfl, aM1, aM1, aM1⟩ ?_
 rintro ⟨r3, i_4⟩ ⟨hM5, hr6, hi7, hi8, hk9⟩
 refine JJ_nx fun _ _ hL hA => ?_; dsimp only at hL hA; subst hL hA
 refine Fb 32 1 fun _ => KS ?_
 refine Oq Vm (Oq Vm (Oq (Vlen sl133) (Oq Vlss (KS ?_))))
 refine Kc ?_ ?_
 ·intro h15
  have g16 := dt h15
  obtain ⟨r17, rfl⟩ := scc (n := r3) aM1
  have H := hM5; (try dsimp only at H); rw [r7_Index_L0] at H
  refine KS ?_
  refine pC H hx12 fun hc18 H => ?_
  refine JJ_peek_GNode i_4.toNat 1 rfl rng fun hb19 hb20 hb21 hb22 => ?_
  unfold i64ok at hb19 hb20 hb21 hb22
  refine Kq [0, 0, 3, 7, 0, 31] fmix ?_
  refine Qv [] Vm (Qv [] Vm (Qv [2] (Vi sl133 0) (Qv [0] (VldA sh142 0) (Qv [1] (VldA sh142 0) (Qv [] (VeqA eqi142 (l := [(l.getD i_4.toNat default).Kind, (l.getD i_4.toNat default).Func, (l.getD i_4.toNat default).Block, (l.getD i_4.toNat default).Stmt]) (m := [n.Kind, n.Func, n.Block, n.Stmt])) ?_)))))
  refine Qn ⟨by kernel_rfl, ?_⟩
  refine pC H hx12 fun hc24 H => ?_
  refine KcH H ?_ ?_
  ·intro h23 H
   have g25 := eq_of_beq h23
   refine KS ?_
   refine Oq Vm (Oq Va (KS ?_))
   have H := llR H HL13
   have hq := rI H; subst hq
   exact Kr () rfl (.tmp rfl .nil) [] en
  intro h23 H
  have g26 := ne_of_beq_false h23
  refine KS ?_
  refine Oq Vm (Oq Vadd (Oq Va (KS ?_)))
  refine pC H hx12 fun hc27 H => ?_
  exact Kg (r17, (i_4 + 1)) [1, 2] ⟨H, aM1, aM1, aM1, aM1⟩
 intro h15
 have g28 := df h15
 obtain rfl : r3 = 0 := by omega
 have H := hM5; (try dsimp only at H); rw [r7_Index_L0] at H
 exact absurd H.symm hx12
theorem fn131 (p : GProgram) (pa0 : Option Addr) (pk0 : Nat) (n : GNode) (hn_0 : i64ok n.Kind) (hn_1 : i64ok n.Func) (hn_2 : i64ok n.Block) (hn_3 : i64ok n.Stmt) (rr : Int) (hrr : r7_Find p n = .ret rr) : FT Tryz.prog 131 #[.agg #[vl pa0 pk0 p.Funcs], .agg #[vi n.Kind, vi n.Func, vi n.Block, vi n.Stmt]] [S pa0 pk0 p.Funcs] (fun g : Unit => i64ok rr) (fun g => vi rr) (fun g => []) := by
 refine FTi Tryz.func131 fun w0 M0 F0 => ?_
 unfold i64ok at hn_0 hn_1 hn_2 hn_3
 refine Fb 40 0 fun _ => ?_
 have hx0 := lrn rr; have H := hrr; unfold r7_Find at H
 refine KS ?_
 refine Oa (Ab [vl pa0 pk0 p.Funcs]) fun p2 => Oa (Ab [vi n.Kind, vi n.Func, vi n.Block, vi n.Stmt]) fun p3 => Oq Va (KS ?_)
 refine JK_drawK [0, 1, 0, 7, 15] fmix ?_
 refine Dv [1] (VldA sh84 0) ?_
 refine lbH H hx0 fun rv5 hg6 H => ?_
 refine Dx [2] [] [2, 0, 1] (fun G => (G.g 1 0)) [fun G => SP.fact (True), fun G => sl (G.g 1 0) rv5] (fun G => xC [0] ca127 (fn127 p pa0 pk0 rv5 hg6)) (Dv [0] (VldA sh142 0) ?_)
 refine lbH H hx0 fun rv10 hg11 H => ?_
 refine Dx [4] [] [1, 0] (fun G => vi rv10) [fun G => SP.fact (i64ok rv10)] (fun G => xD [0] ca167 rfl rfl rfl (FT_open (γ := Unit) (I := fun g => i64ok rv10) (V := fun g => vi rv10) (B := fun g => []) (R := sl (G.g 1 0) rv5) sl_slice (fun aq7 kq8 eq9 => by rw [eq9]; exact FT_ent (Ent.take (is := [0]) rfl) (fn167 rv5 aq7 kq8 n pre pre pre pre rv10 hg11)))) (Dv [] Va ?_)
 refine Dn ⟨by kernel_rfl, fun G => ?_⟩
 refine Jw2 [(4, vi rv10)] [0, 1, 2] [SP.fact (True), sl (G.g 1 0) rv5, SP.fact (i64ok rv10)] ?_
 generalize G.g 1 0 = c4
 refine Jf 5 rfl ?_; rintro he12
 unfold i64ok at he12
 refine Jk [0, 1, 2, 4] ?_
 refine Jo 3 ?_; rintro a13 k14 rfl
 refine Fb 32 3 fun _ => ?_
 have hq := rI H; subst hq
 exact Kr () rfl (.tmp rfl .nil) [] en
end Go.SL.G
