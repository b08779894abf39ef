/- Part 6 of the walks: mirrors, plain laws and walks used by the last text of this claim. -/
import Derived.Test.YtfoejhjfcegngaaGreatW5
import Derived.Test.YtfoejhjfcegngaaGreatProg
set_option linter.unusedVariables false
set_option linter.unusedSimpArgs false
namespace Go.SL.G
open Go Go.SL Go.Proofs
set_option maxHeartbeats 20000000
set_option maxRecDepth 100000
theorem fn14 (t : List Int) (ta0 : Option Addr) (tk0 : Nat) (rr : Bool) (hrr : flqlaw15_SolverSteps t = rr) : FT Tryz.prog 14 #[vl ta0 tk0 t] [S ta0 tk0 t] (fun g : Unit => True) (fun g => vb rr) (fun g => []) := by
 refine FTi Tryz.func14 fun w0 M0 F0 => Fb 8 0 fun _ => Fo 0 fun ho2 => ?_
 refine KS ?_
 refine Oq Va (KS ?_)
 refine Oq Vm ?_
 refine letv (flqgen_New t) fun rv4 hg5 => ?_
 have hc6 := fn17 t ta0 tk0 rv4 hg5
 refine Oc [0] ca17 hc6 ?_
 rintro c3 -
 refine Oq Va (KS ?_)
 refine Oq Va (KS ?_)
 refine Kl (γ := Nat × Int × Int) (fun (r7, k1_8, i_9) => ⟨[(3, c3), (4, vi i_9)], [Cl c3 [vl ta0 tk0 t, vi k1_8], S ta0 tk0 t], flqlaw15_SolverSteps_L0 t r7 k1_8 i_9 = flqlaw15_SolverSteps_L0 t 3 0 0 ∧ r7 = ((3 : Int) - i_9).toNat ∧ (0 : Int) ≤ i_9 ∧ i_9 ≤ 3 ∧ (-9223372036854775808 ≤ k1_8 ∧ k1_8 ≤ 9223372036854775807) ∧ (0 ≤ k1_8 ∧ k1_8 ≤ (t.length : Int)) ∧ (-9223372036854775808 ≤ i_9 ∧ i_9 ≤ 9223372036854775807), r7⟩) (3, 0, 0) [0, 0] ⟨rfl, rfl, (by omega), (by omega), (by omega), (by omega), (by omega)⟩ ?_
 rintro ⟨r7, k1_8, i_9⟩ ⟨hM10, hr11, hi12, hi13, hk14, ht15, hk16⟩
 refine JJ_nx fun _ _ hL hA => ?_; dsimp only at hL hA; subst hL hA
 refine Fb 8 1 fun _ => Fo 1 fun ho18 => KS ?_
 refine Oq Vm (Oq Vlss (KS ?_))
 refine Kc ?_ ?_
 ·intro h19
  have g20 := dt h19
  obtain ⟨r21, rfl⟩ := scc (n := r7) (by omega)
  refine KS ?_
  refine Oq Vm ?_
  refine letv (flqlaw15_draw t k1_8) fun rv26 hg27 => ?_
  have hc28 := fn32 c3 ta0 tk0 t k1_8 pre rv26 hg27
  refine Oc [0, 0] ca32 hc28 ?_
  rintro ⟨c22, c23, c24, c25⟩ ⟨he29, he30, he31⟩
  unfold i64ok at he29 he30
  refine Jo 0 ?_; rintro a32 k33 rfl
  refine Fb 24 0 fun _ => ?_
  refine Jo 1 ?_; rintro a35 k36 rfl
  refine Fb 88 1 fun _ => ?_
  refine Jo 2 ?_; rintro a38 k39 rfl
  refine Fb 32 2 fun _ => ?_
  refine Jo 3 ?_; rintro a41 k42 rfl
  refine Fb 40 3 fun _ => ?_
  have hdf := draw_facts (by assumption : flqlaw15_draw t k1_8 = rv26)
  obtain ⟨hd1, hd2, hd3, hd4⟩ := hdf
  have hv1 := hd1.n
  have hv2 := hd1.tl
  have hv3 := hd1.bl
  have hv4 := hd1.w
  have hv5 := hd1.dep_len
  have hds := draw_start (by assumption : flqlaw15_draw t k1_8 = rv26)
  refine Oa (Al ze55 [vi 0, .slice none 0 0, .slice none 0 0, .slice none 0 0, .slice none 0 0, vi 0]) fun p44 => Ost (Scl [0] sh55 [vi rv26.1.S.Width, vl a32 k33 rv26.1.S.Deps, vl a35 k36 rv26.1.S.Transfers, vl a38 k39 rv26.1.S.Boundary, vl a41 k42 rv26.1.K, vi rv26.1.Root]) (KS ?_)
  refine Oq (Vfa fo55_2 0) (Oq (VldF sh3 0) ?_)
  refine letv (solver_Start rv26.1.Root) fun rv49 hg50 => ?_
  have hc51 := fn38 rv26.1.Root pre rv49 hg50
  refine Oc [] ca38 hc51 ?_
  rintro ⟨c45, c46, c47, c48⟩ ⟨he52, he53, he54, he55⟩
  unfold i64ok at he52 he53 he54 he55
  refine Jo 0 ?_; rintro a56 k57 rfl
  refine Fb 8 0 fun _ => Fo 0 fun ho59 => ?_
  refine Jo 1 ?_; rintro a60 k61 rfl
  refine Fb 1 1 fun _ => ?_
  refine Jo 2 ?_; rintro a63 k64 rfl
  refine Fb 32 2 fun _ => ?_
  refine Jo 3 ?_; rintro a66 k67 rfl
  refine Fb 8 3 fun _ => Fo 3 fun ho69 => ?_
  refine Oa (Al ze59 [vi 0, .slice none 0 0, .slice none 0 0, vi 0, vi 0, .slice none 0 0, .slice none 0 0, vi 0]) fun p70 => Ost (Scl [0] sh59 [vi rv49.Phase, vl a56 k57 rv49.Cone, vl a60 k61 rv49.Leaf, vi rv49.At, vi rv49.Edge, vl a63 k64 rv49.Values, vl a66 k67 rv49.Queue, vi rv49.Steps]) (KS ?_)
  refine Oq Va (KS ?_)
  refine Kl (γ := Nat × Int × List Int × List Bool × Int × Int × List GSet × List Int × Int × Int × Option Addr × Nat × Option Addr × Nat × Option Addr × Nat × Option Addr × Nat) (fun (r71, st0_72, st1_73, st2_74, st3_75, st4_76, st5_77, st6_78, st7_79, n_80, a81, k82, a83, k84, a85, k86, a87, k88) => ⟨[(3, c3), (4, vi i_9), (5, p44), (6, p70), (7, vi n_80)], [S a87 k88 st6_78, S a85 k86 st5_77, S a83 k84 st2_74, S a81 k82 st1_73, Cl p70 [vi st0_72, vl a81 k82 st1_73, vl a83 k84 st2_74, vi st3_75, vi st4_76, vl a85 k86 st5_77, vl a87 k88 st6_78, vi st7_79], Cl p44 [vi rv26.1.S.Width, vl a32 k33 rv26.1.S.Deps, vl a35 k36 rv26.1.S.Transfers, vl a38 k39 rv26.1.S.Boundary, vl a41 k42 rv26.1.K, vi rv26.1.Root], S a32 k33 rv26.1.S.Deps, S a35 k36 rv26.1.S.Transfers, S a38 k39 rv26.1.S.Boundary, S a41 k42 rv26.1.K, Cl c3 [vl ta0 tk0 t, vi rv26.2], S ta0 tk0 t], flqlaw15_SolverSteps_L1 rv26.1.S.Width rv26.1.S.Deps rv26.1.S.Transfers rv26.1.S.Boundary rv26.1.K r71 st0_72 st1_73 st2_74 st3_75 st4_76 st5_77 st6_78 st7_79 n_80 = flqlaw15_SolverSteps_L1 rv26.1.S.Width rv26.1.S.Deps rv26.1.S.Transfers rv26.1.S.Boundary rv26.1.K (fl 60) rv49.Phase rv49.Cone rv49.Leaf rv49.At rv49.Edge rv49.Values rv49.Queue rv49.Steps 0 ∧ r71 = ((60 : Int) - n_80).toNat ∧ (0 : Int) ≤ n_80 ∧ n_80 ≤ 60 ∧ (-9223372036854775808 ≤ st0_72 ∧ st0_72 ≤ 9223372036854775807) ∧ (-9223372036854775808 ≤ st3_75 ∧ st3_75 ≤ 9223372036854775807) ∧ (-9223372036854775808 ≤ st4_76 ∧ st4_76 ≤ 9223372036854775807) ∧ (-9223372036854775808 ≤ st7_79 ∧ st7_79 ≤ 9223372036854775807) ∧ (-9223372036854775808 ≤ n_80 ∧ n_80 ≤ 9223372036854775807) ∧ flqref14_Valid (GSystem.mk rv26.1.S.Width rv26.1.S.Deps rv26.1.S.Transfers rv26.1.S.Boundary) rv26.1.K (GState.mk st0_72 st1_73 st2_74 st3_75 st4_76 st5_77 st6_78 st7_79) = true, r71⟩) ((fl 60), rv49.Phase, rv49.Cone, rv49.Leaf, rv49.At, rv49.Edge, rv49.Values, rv49.Queue, rv49.Steps, 0, a56, k57, a60, k61, a63, k64, a66, k67) [4, 3, 2, 1, 0, 4, 4, 5, 6, 7, 8, 8] ⟨rfl, (fl_eq _), (by omega), (by omega), (by omega), (by omega), (by omega), (by omega), (by omega), (by have h := hds.1; simp only [h19, hg5, hg27, hg50] at h; exact h)⟩ ?_
  rintro ⟨r71, st0_72, st1_73, st2_74, st3_75, st4_76, st5_77, st6_78, st7_79, n_80, a81, k82, a83, k84, a85, k86, a87, k88⟩ ⟨hM89, hr90, hi91, hi92, hk93, hk94, hk95, hk96, hk97, hv98⟩
  refine JJ_nx fun _ _ hL hA => ?_; dsimp only at hL hA; subst hL hA
  refine Fb 8 0 fun _ => Fo 0 fun ho100 => Fb 32 1 fun _ => Fb 1 2 fun _ => Fb 8 3 fun _ => Fo 3 fun ho104 => Fb 24 6 fun _ => Fb 88 7 fun _ => ?_
  refine Fb 32 8 fun _ => Fb 40 9 fun _ => Fb 8 11 fun _ => Fo 11 fun ho110 => KS ?_
  refine Oq Vm (Oq Vlss (KS ?_))
  refine Kc ?_ ?_
  ·intro h111
   have g112 := dt h111
   obtain ⟨r113, rfl⟩ := scc (n := r71) (by omega)
   refine KS ?_
   refine Oq (Vfa fo55_0 5) (Oq (VldG sh27 5 [vi rv26.1.S.Width, vl a32 k33 rv26.1.S.Deps, vl a35 k36 rv26.1.S.Transfers, vl a38 k39 rv26.1.S.Boundary]) (Oq (Vfa fo55_1 5) (Oq (VldF sh53 5) (Oq (VldA sh59 4) ?_))))
   refine letv (flqlaw15_steps rv26.1.S rv26.1.K (GState.mk st0_72 st1_73 st2_74 st3_75 st4_76 st5_77 st6_78 st7_79)) fun rv114 hg115 => ?_
   have hc116 := fn61 rv26.1.S a32 k33 a35 k36 a38 k39 rv26.1.K a41 k42 ((GState.mk st0_72 st1_73 st2_74 st3_75 st4_76 st5_77 st6_78 st7_79)) a81 k82 a83 k84 a85 k86 a87 k88 pre pre pre pre pre (Nat.le_trans (Valid_small (by assumption) hds.2.1) (by decide)) rv114 hg115
   refine Oc [6, 7, 8, 9, 3, 2, 1, 0] ca61 hc116 ?_
   rintro - -
   refine Oq Vnot (KS ?_)
   refine Kc ?_ ?_
   ·intro h117
    have h119 := not_true h117
    refine KS ?_
    refine Oq Va (KS ?_)
    have hR121 := q2 hM89 (.ret false) (by simp only [flqlaw15_SolverSteps_L1, h19, h111, h117, h119, hg5, hg27, hg50, hg115, cs4])
    have hR122 := q2 hM10 (.ret false) (by simp only [flqlaw15_SolverSteps_L0, h19, h111, h117, h119, hg5, hg27, hg50, hg115, hR121, cs4])
    have hq := q4 hrr false (by unfold flqlaw15_SolverSteps; simp only [h19, h111, h117, h119, hg5, hg27, hg50, hg115, hR121, hR122, cs4]); subst hq
    exact Kr () rfl (.tmp rfl .nil) [] trivial
   intro h117
   have h124 := not_false h117
   refine KS ?_
   refine Oq (Vfa fo59_0 4) (Oq (VldF sh3 4) (Oq Veql (KS ?_)))
   refine Kc ?_ ?_
   ·intro h126
    have g127 := eq_of_beq h126
    refine Ke ?_
    have hR128 := q2 hM89 (.brk ()) (by simp only [flqlaw15_SolverSteps_L1, h19, h111, h117, h124, h126, hg5, hg27, hg50, hg115, cs4])
    refine KS ?_
    refine Oq Vm (Oq Vadd (Oq Va (KS ?_)))
    exact Kg (r21, rv26.2, (i_9 + 1)) [10, 10] ⟨(q3 hM10 (by simp only [flqlaw15_SolverSteps_L0, h19, h111, h117, h124, h126, hg5, hg27, hg50, hg115, hR128, cs4])), (by omega), (by omega), (by omega), (by omega), (by omega), (by omega)⟩
   intro h126
   have g129 := ne_of_beq_false h126
   refine KS ?_
   refine Oq (Vfa fo55_0 5) (Oq (VldG sh27 5 [vi rv26.1.S.Width, vl a32 k33 rv26.1.S.Deps, vl a35 k36 rv26.1.S.Transfers, vl a38 k39 rv26.1.S.Boundary]) (Oq (Vfa fo55_1 5) (Oq (VldF sh53 5) (Oq (VldA sh59 4) ?_))))
   refine letv (flqref14_Step rv26.1.S rv26.1.K (GState.mk st0_72 st1_73 st2_74 st3_75 st4_76 st5_77 st6_78 st7_79)) fun rv134 hg135 => ?_
   have hc136 := fn62 rv26.1.S a32 k33 a35 k36 a38 k39 rv26.1.K a41 k42 ((GState.mk st0_72 st1_73 st2_74 st3_75 st4_76 st5_77 st6_78 st7_79)) a81 k82 a83 k84 a85 k86 a87 k88 pre pre pre pre pre rv134 hg135
   refine Oc [6, 7, 8, 9, 3, 2, 1, 0] ca62 hc136 ?_
   rintro ⟨c130, c131, c132, c133⟩ ⟨he137, he138, he139, he140, he141, he142, he143⟩
   unfold i64ok at he137 he138 he139 he140 he141 he142
   refine Jo 0 ?_; rintro a144 k145 rfl
   refine Fb 8 0 fun _ => Fo 0 fun ho147 => ?_
   refine Jo 1 ?_; rintro a148 k149 rfl
   refine Fb 1 1 fun _ => ?_
   refine Jo 2 ?_; rintro a151 k152 rfl
   refine Fb 32 2 fun _ => ?_
   refine Jo 3 ?_; rintro a154 k155 rfl
   refine Fb 8 3 fun _ => Fo 3 fun ho157 => ?_
   refine Oq Vm (Oq Vx (Oq Vx (Oq Vx (Ost (Scl [8] sh59 [vi rv134.1.Phase, vl a144 k145 rv134.1.Cone, vl a148 k149 rv134.1.Leaf, vi rv134.1.At, vi rv134.1.Edge, vl a151 k152 rv134.1.Values, vl a154 k155 rv134.1.Queue, vi rv134.1.Steps]) (KS ?_)))))
   refine Oq Vm (Oq Vadd (Oq Va (KS ?_)))
   exact Kg (r113, rv134.1.Phase, rv134.1.Cone, rv134.1.Leaf, rv134.1.At, rv134.1.Edge, rv134.1.Values, rv134.1.Queue, rv134.1.Steps, (n_80 + 1), a144, k145, a148, k149, a151, k152, a154, k155) [4, 3, 2, 1, 0, 8, 8, 9, 10, 11, 12, 12] ⟨(q3 hM89 (by simp only [flqlaw15_SolverSteps_L1, h19, h111, h117, h124, h126, hg5, hg27, hg50, hg115, hg135, cs4])), (by omega), (by omega), (by omega), (by omega), (by omega), (by omega), (by omega), (by omega), (RStep_V (by assumption) (by assumption) (by assumption))⟩
  intro h111
  have g158 := df h111
  obtain rfl : r71 = 0 := by omega
  refine Ke ?_
  have hR159 := q2 hM89 (.brk ()) (by simp only [flqlaw15_SolverSteps_L1, h19, h111, hg5, hg27, hg50, cs4])
  refine KS ?_
  refine Oq Vm (Oq Vadd (Oq Va (KS ?_)))
  exact Kg (r21, rv26.2, (i_9 + 1)) [10, 10] ⟨(q3 hM10 (by simp only [flqlaw15_SolverSteps_L0, h19, h111, hg5, hg27, hg50, hR159, cs4])), (by omega), (by omega), (by omega), (by omega), (by omega), (by omega)⟩
 intro h19
 have g160 := df h19
 obtain rfl : r7 = 0 := by omega
 refine Ke ?_
 have hR161 := q2 hM10 (.brk ()) (by simp only [flqlaw15_SolverSteps_L0, h19, hg5, cs4])
 refine KS ?_
 have hc162 := fn37  flqlaw15_sane rfl
 refine Oc [] ca37 hc162 ?_
 rintro - -
 refine Oq Va (KS ?_)
 have hq := q4 hrr flqlaw15_sane (by unfold flqlaw15_SolverSteps; simp only [h19, hg5, hR161, cs4]); subst hq
 exact Kr () rfl (.tmp rfl .nil) [] trivial
end Go.SL.G
