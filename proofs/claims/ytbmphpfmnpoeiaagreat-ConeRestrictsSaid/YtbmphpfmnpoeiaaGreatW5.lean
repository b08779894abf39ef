/- Part 5 of the walks: mirrors, plain laws and walks used by the last text of this claim. -/
import Derived.Test.YtbmphpfmnpoeiaaGreatW4
import Derived.Test.YtbmphpfmnpoeiaaGreatProg
set_option linter.unusedVariables false
set_option linter.unusedSimpArgs false
namespace Go.SL.G
open Go Go.SL Go.Proofs
set_option maxHeartbeats 20000000
set_option maxRecDepth 100000
theorem fn50 (s : GSystem) (sa1 : Option Addr) (sk1 : Nat) (sa2 : Option Addr) (sk2 : Nat) (sa3 : Option Addr) (sk3 : Nat) (root : Int) (leaves : List Int) (leavesa0 : Option Addr) (leavesk0 : Nat) (hs_0 : i64ok s.Width) (hroot_0 : i64ok root) (rr : List Int × Int × Int) (hrr : cn_Of s root leaves = rr) : FT Tryz.prog 50 #[.agg #[vi s.Width, vl sa1 sk1 s.Deps, vl sa2 sk2 s.Transfers, vl sa3 sk3 s.Boundary], vi root, vl leavesa0 leavesk0 leaves] [S sa1 sk1 s.Deps, S sa2 sk2 s.Transfers, S sa3 sk3 s.Boundary, S leavesa0 leavesk0 leaves] (fun g : Value => i64ok rr.2.1 ∧ i64ok rr.2.2) (fun g => .tuple #[g, vi rr.2.1, vi rr.2.2]) (fun g => [sl g rr.1]) := by
 refine FTi Tryz.func50 fun w0 M0 F0 => ?_
 unfold i64ok at hs_0 hroot_0
 refine Fb 24 0 fun _ => Fb 88 1 fun _ => Fb 32 2 fun _ => Fb 8 3 fun _ => Fo 3 fun ho5 => KS ?_
 refine Oa (Ab [vi s.Width, vl sa1 sk1 s.Deps, vl sa2 sk2 s.Transfers, vl sa3 sk3 s.Boundary]) fun p6 => Oq Va (Oq Va (Oq Va (KS ?_)))
 refine Oq (VldA sh27 0) ?_
 refine letv (eq_Valid s) fun rv7 hg8 => ?_
 have hc9 := fn28 s sa1 sk1 sa2 sk2 sa3 sk3 pre rv7 hg8
 refine Oc [1, 2, 3] ca28 hc9 ?_
 rintro - -
 refine Oq Vnot (Oq Va (KS ?_))
 refine Kc ?_ ?_
 ·intro h10
  have h12 := not_true h10
  refine KS ?_
  refine Oq Va (Oq Va (Oq Va (KS ?_)))
  refine Jl [] (Ent.slNil (α := Int)) ?_
  have hq := q4 hrr (([] : List Int), 0, 1) (by simp only [cn_Of, h10, h12, hg8, cs4]); subst hq
  exact Kr (.slice none 0 0) rfl (.tmp rfl (.tmp rfl (.tmp rfl .nil))) [0] en
 intro h10
 have h15 := not_false h10
 try have hrt := (unknowns_iff s [root]).1 (by simp only [h10, h15, hg8]) root (by simp)
 refine KS ?_
 refine Oq (VldA sh27 0) (Oq Vm (Oa (AsV sl22 sz22 [vi root] [vi root]) fun c17 => ?_))
 refine Jo 0 ?_; rintro a18 k19 rfl
 refine Jl [0] (Ent.crInt _ [root] _ _ rfl rfl (by intro x hx; rw [List.mem_singleton] at hx; subst hx; unfold i64ok; omega) aB1) ?_
 refine letv (cn_unknowns s [root]) fun rv20 hg21 => ?_
 refine Oc [0, 1, 2, 3] ca29 (FT_borrow (A := _) (fun _ _ h => by cases h) (FT_ent (Ent.take (is := [1, 2, 3, 0]) rfl) (fn29 s sa1 sk1 sa2 sk2 sa3 sk3 ([root]) a18 k19 pre rv20 hg21))) ?_ (ht := rfl)
 rintro - -
 refine Oq Vnot (Oq Vm ?_)
 refine Js 25 ?_ ?_
 ·intro h22
  have h24 := not_true h22
  refine Osk (Osk (Osk (Osk (Oq Vpt (Oq Va (KS ?_))))))
  refine Kt (KS ?_)
  refine Oq Va (Oq Va (Oq Va (KS ?_)))
  refine Jl [] (Ent.slNil (α := Int)) ?_
  have hq := q4 hrr (([] : List Int), 0, 9) (by simp only [cn_Of, h10, h15, h22, h24, hg8, hg21, cs4]); subst hq
  exact Kr (.slice none 0 0) rfl (.tmp rfl (.tmp rfl (.tmp rfl .nil))) [0] en
 intro h22
 have h27 := not_false h22
 try have hrt := (unknowns_iff s [root]).1 (by simp only [h10, h15, h22, h27, hg8, hg21]) root (by simp)
 refine Oq (VldA sh27 1) (Oq Vm ?_)
 refine letv (cn_unknowns s leaves) fun rv29 hg30 => ?_
 have hc31 := fn29 s sa1 sk1 sa2 sk2 sa3 sk3 leaves leavesa0 leavesk0 pre rv29 hg30
 refine Oc [2, 3, 4, 5] ca29 hc31 ?_
 rintro - -
 refine Oq Vnot (Oq Vpf (Oq Va (KS ?_)))
 refine Kc ?_ ?_
 ·intro h32
  have h34 := not_true h32
  refine KS ?_
  refine Oq Va (Oq Va (Oq Va (KS ?_)))
  refine Jl [] (Ent.slNil (α := Int)) ?_
  have hq := q4 hrr (([] : List Int), 0, 9) (by simp only [cn_Of, h10, h15, h22, h27, h32, h34, hg8, hg21, hg30, cs4]); subst hq
  exact Kr (.slice none 0 0) rfl (.tmp rfl (.tmp rfl (.tmp rfl .nil))) [0] en
 intro h32
 have h37 := not_false h32
 try have hrt := (unknowns_iff s [root]).1 (by simp only [h10, h15, h22, h27, h32, h37, hg8, hg21, hg30]) root (by simp)
 refine KS ?_
 refine Oq Vm (Oa (AsV sl22 sz22 [vi root] [vi root]) fun c39 => ?_)
 refine Jo 0 ?_; rintro a40 k41 rfl
 refine Oq Va (KS ?_)
 refine Oq (Vfa fo27_1 2) (Oq (VldF sh23 2) (Oq (Vlen sl23) (Oa (Amk (α := Bool) sl40 sz40 false (fun _ _ => rfl)) fun c42 => ?_)))
 refine Jo 0 ?_; rintro a43 k44 rfl
 refine Fb 1 0 fun _ => ?_
 have hn46 := List.length_replicate (n := (s.Deps.length : Int).toNat) (a := (false : Bool))
 refine Oq Va (KS ?_)
 refine Oq Vm (Oq Vm (Oq (Vi sl40 0) (Ost (SoB [0] sh4) (KS ?_))))
 refine Oq Va (KS ?_)
 refine Oq Va (KS ?_)
 refine Jl [1] (Ent.crInt _ [root] _ _ rfl rfl (by intro x hx; rw [List.mem_singleton] at hx; subst hx; unfold i64ok; omega) aB1) ?_
 refine Fb 8 0 fun _ => Fo 0 fun ho48 => ?_
 have hterm62 : cn_Of_L0 s leaves (s.Deps.length + 1) [root] ((List.replicate (s.Deps.length : Int).toNat false).set root.toNat true) 0 0 ≠ LR.oof := (of_term (by simp only [h10, h15, h22, h27, h32, h37, hg8, hg21, hg30]) (by simp only [h10, h15, h22, h27, h32, h37, hg8, hg21, hg30]))
 refine Kl (γ := Nat × List Int × List Bool × Int × Int × Option Addr × Nat) (fun (r49, out_50, found_51, cost_52, i_53, a54, k55) => ⟨[(2, vl leavesa0 leavesk0 leaves), (3, p6), (9, vl a54 k55 out_50), (10, vl a43 k44 (List.replicate (s.Deps.length : Int).toNat false)), (11, vi cost_52), (12, vi i_53)], [O a54 k55 out_50, os (vl a43 k44 (List.replicate (s.Deps.length : Int).toNat false)) found_51, pv p6 [vi s.Width, vl sa1 sk1 s.Deps, vl sa2 sk2 s.Transfers, vl sa3 sk3 s.Boundary], S sa1 sk1 s.Deps, S sa2 sk2 s.Transfers, S sa3 sk3 s.Boundary, S leavesa0 leavesk0 leaves], cn_Of_L0 s leaves r49 out_50 found_51 cost_52 i_53 = cn_Of_L0 s leaves (s.Deps.length + 1) [root] ((List.replicate (s.Deps.length : Int).toNat false).set root.toNat true) 0 0 ∧ (-9223372036854775808 ≤ cost_52 ∧ cost_52 ≤ 9223372036854775807) ∧ (-9223372036854775808 ≤ i_53 ∧ i_53 ≤ 9223372036854775807) ∧ okFound (s.Deps.length : Int) out_50 found_51 ∧ 0 ≤ cost_52 ∧ cost_52 ≤ i_53 * 17592186044417 ∧ i_53 ≤ (out_50.length : Int), r49⟩) ((s.Deps.length + 1), [root], ((List.replicate (s.Deps.length : Int).toNat false).set root.toNat true), 0, 0, a40, k41) [0, 0, 1, 2, 3, 4, 5] ⟨rfl, aM1, aM1, (okFound_one (by simp only [h10, h15, h22, h27, h32, h37, hg8, hg21, hg30])), iv0, iv0⟩ ?_
 rintro ⟨r49, out_50, found_51, cost_52, i_53, a54, k55⟩ ⟨hM56, hk57, hk58, hv59, hv60, hv61⟩
 refine JJ_nx fun _ _ hL hA => ?_; dsimp only at hL hA; subst hL hA
 refine Fb 8 0 fun _ => Fo 0 fun ho64 => Fb 1 1 fun _ => Fl 1 fun hn66 => ?_
 refine Fb 24 3 fun _ => Fb 88 4 fun _ => Fb 32 5 fun _ => Fb 8 6 fun _ => Fo 6 fun ho71 => ?_
 rcases r49 with _ | r49
 ·exact absurd (hM56.symm.trans rfl) hterm62
 refine KS ?_
 refine Oq Vm (Oq Vm (Oq (Vlen sl22) (Oq Vlss (KS ?_))))
 refine Kc ?_ ?_
 ·intro h72
  have g73 := dt h72
  have hv0 := EValid_deps (s := s) (by simp only [h10, h15, h22, h27, h32, h37, h72, hg8, hg21, hg30])
  have hq1 := okFound_len ‹okFound (s.Deps.length : Int) out_50 _› 
  have hq2 := (‹okFound (s.Deps.length : Int) out_50 _›).1.2 _ (getD_mem (xs := out_50) (i := i_53.toNat) (d := 0) aM1)
  refine KS ?_
  refine Oq Vm (Oq Vadd (Oq Va (KS ?_)))
  refine Oq Vm (Oq Vm (Oq Vm (Oq (Vi sl22 0) ?_)))
  have hb74 := ok1 (i := i_53.toNat) ho64 rng
  refine Oq (VldI sh3 0) ?_
  refine letv (sc_Contains_int leaves (out_50.getD i_53.toNat 0)) fun rv75 hg76 => ?_
  have hc77 := fn49 leaves leavesa0 leavesk0 ((out_50.getD i_53.toNat 0)) pre rv75 hg76
  refine Oc [6] ca49 hc77 ?_
  rintro - -
  refine KS ?_
  refine Kc ?_ ?_
  ·intro h78
   try have hrt := (unknowns_iff s [root]).1 (by simp only [h10, h15, h22, h27, h32, h37, h72, h78, hg8, hg21, hg30, hg76]) root (by simp)
   refine Ke ?_
   refine KS ?_
   refine Oq Vm (Oq Vadd (Oq Va (KS ?_)))
   exact Kg (r49, out_50, found_51, (cost_52 + 1), (i_53 + 1), a54, k55) [0, 0, 0, 1, 2, 3, 4] ⟨(q3 hM56 (by simp only [cn_Of_L0, h72, h78, hg76, cs4])), aM1, aM1, (by assumption), iv1, iv1⟩
  intro h78
  refine KS ?_
  refine JJ_peekL ((out_50.getD i_53.toNat 0) : Int).toNat 3 rfl rng fun a81 k82 => ?_
  refine Fb 8 1 fun _ => Fo 1 fun ho84 => ?_
  refine Kq [0, 1, 0, 0, 12, 28, 63, 127, 255, 0] fmix ?_
  refine Qv [4] (Vfa fo27_1 0) (Qv [4] (VldF sh23 0) (Qv [] Vm (Qv [] Vm (Qv [2] (Vi sl22 0) ?_))))
  have hb85 := ok1 (i := i_53.toNat) ho64 rng
  refine Qv [2] (VldI sh3 0) (Qv [5] (Vi sl23 0) (Qv [0] (Vld sh22 0) (Qv [] (Vlen sl22) (Qv [] Vm ?_))))
  refine Qn ⟨by kernel_rfl, ?_⟩
  refine KS ?_
  refine Kl (γ := Nat × List Int × List Bool × Int × Int × Option Addr × Nat) (fun (r86, out_87, found_88, cost_89, v63_90, a91, k92) => ⟨[(2, vl leavesa0 leavesk0 leaves), (3, p6), (9, vl a91 k92 out_87), (10, vl a43 k44 (List.replicate (s.Deps.length : Int).toNat false)), (12, vi i_53), (11, vi cost_89), (61, vl a81 k82 (s.Deps.getD ((out_50.getD i_53.toNat 0) : Int).toNat [])), (62, vi ((s.Deps.getD ((out_50.getD i_53.toNat 0) : Int).toNat []).length : Int)), (63, vi v63_90)], [O a91 k92 out_87, S a81 k82 ((s.Deps.getD ((out_50.getD i_53.toNat 0) : Int).toNat []) : List Int), os (vl a43 k44 (List.replicate (s.Deps.length : Int).toNat false)) found_88, pv p6 [vi s.Width, vl sa1 sk1 s.Deps, vl sa2 sk2 s.Transfers, vl sa3 sk3 s.Boundary], S sa1 sk1 s.Deps, S sa2 sk2 s.Transfers, S sa3 sk3 s.Boundary, S leavesa0 leavesk0 leaves], cn_Of_L1 (s.Deps.getD ((out_50.getD i_53.toNat 0) : Int).toNat []) r86 out_87 found_88 cost_89 v63_90 = cn_Of_L1 (s.Deps.getD ((out_50.getD i_53.toNat 0) : Int).toNat []) (((((s.Deps.getD ((out_50.getD i_53.toNat 0) : Int).toNat []).length : Int) : Int) - 0).toNat) out_50 found_51 (cost_52 + 1) 0 ∧ r86 = ((((s.Deps.getD ((out_50.getD i_53.toNat 0) : Int).toNat []).length : Int) : Int) - v63_90).toNat ∧ (0 : Int) ≤ v63_90 ∧ (v63_90 ≤ ((s.Deps.getD ((out_50.getD i_53.toNat 0) : Int).toNat []).length : Int) ∨ v63_90 = 0) ∧ (-9223372036854775808 ≤ cost_89 ∧ cost_89 ≤ 9223372036854775807) ∧ (-9223372036854775808 ≤ v63_90 ∧ v63_90 ≤ 9223372036854775807) ∧ okFound (s.Deps.length : Int) out_87 found_88 ∧ i_53 + 1 ≤ (out_87.length : Int) ∧ 0 ≤ cost_89 ∧ cost_89 ≤ i_53 * 17592186044417 + 1 + v63_90, r86⟩) (((((s.Deps.getD ((out_50.getD i_53.toNat 0) : Int).toNat []).length : Int) : Int) - 0).toNat, out_50, found_51, (cost_52 + 1), 0, a54, k55) [2, 1, 2, 2, 3, 4, 5, 6] ⟨rfl, rfl, aM1, (.inr rfl), aM1, aM1, (by assumption), iv0, iv0⟩ ?_
  rintro ⟨r86, out_87, found_88, cost_89, v63_90, a91, k92⟩ ⟨hM93, hr94, hi95, hi96, hk97, hk98, hv99, hv100, hv101⟩
  refine JJ_nx fun _ _ hL hA => ?_; dsimp only at hL hA; subst hL hA
  refine Fb 8 0 fun _ => Fo 0 fun ho103 => Fb 8 1 fun _ => Fo 1 fun ho105 => Fb 1 2 fun _ => Fl 2 fun hn107 => ?_
  refine Fb 24 4 fun _ => Fb 88 5 fun _ => Fb 32 6 fun _ => Fb 8 7 fun _ => Fo 7 fun ho112 => KS ?_
  refine Oq Vlss (KS ?_)
  refine Kc ?_ ?_
  ·intro h113
   have g114 := dt h113
   have hq4 := okFound_len ‹okFound (s.Deps.length : Int) _ _›
   have hq3 := EValid_dep_mem (s := s) (by simp only [h10, h15, h22, h27, h32, h37, h72, h78, h113, hg8, hg21, hg30, hg76]) (j := ((out_50.getD i_53.toNat 0) : Int)) aM1 aM1 _ (getD_mem (xs := s.Deps.getD ((out_50.getD i_53.toNat 0) : Int).toNat []) (i := v63_90.toNat) (d := 0) aM1)
   obtain ⟨r115, rfl⟩ := scc (n := r86) aM1
   refine KS ?_
   refine Oq (Vi sl22 1) ?_
   have hb116 := ok1 (i := v63_90.toNat) ho105 rng
   refine Oq (VldI sh3 1) (Oq Va (KS ?_))
   refine Oq Vm (Oq Vadd (Oq Va (KS ?_)))
   refine Oq Vm (Oq Vm (Oq (Vi sl40 2) (Oq (VldB sh4 2) (Oq Vnot (KS ?_)))))
   refine Kc ?_ ?_
   ·intro h117
    have h119 := not_true h117
    refine KS ?_
    refine Oq Vm (Oq Vm (Oq (Vi sl40 2) (Ost (SoB [2] sh4) (KS ?_))))
    refine Oq Vm (Oq Vm (Oa (AsV sl22 sz22 [vi ((s.Deps.getD ((out_50.getD i_53.toNat 0) : Int).toNat []).getD v63_90.toNat 0)] [vi ((s.Deps.getD ((out_50.getD i_53.toNat 0) : Int).toNat []).getD v63_90.toNat 0)]) fun c121 => ?_))
    refine Jo 0 ?_; rintro a122 k123 rfl
    refine Jl [0] (Ent.crInt _ [((s.Deps.getD ((out_50.getD i_53.toNat 0) : Int).toNat []).getD v63_90.toNat 0)] _ _ rfl rfl (by intro x hx; rw [List.mem_singleton] at hx; subst hx; unfold i64ok; omega) aB1) ?_
    refine Oa (ApO [2, 0] sl22 sl22 sz22) fun c124 => ?_
    refine Jo 0 ?_; rintro a125 k126 rfl
    refine Fb 8 0 fun _ => Fo 0 fun ho128 => ?_
    have hn129 := la out_87 ([((s.Deps.getD ((out_50.getD i_53.toNat 0) : Int).toNat []).getD v63_90.toNat 0)] : List Int)
    refine Oq Va (KS ?_)
    refine Oq Vadd (Oq Vm (KS ?_))
    exact Kg (r115, (out_87 ++ [((s.Deps.getD ((out_50.getD i_53.toNat 0) : Int).toNat []).getD v63_90.toNat 0)]), (found_88.set (((s.Deps.getD ((out_50.getD i_53.toNat 0) : Int).toNat []).getD v63_90.toNat 0) : Int).toNat true), (cost_89 + 1), (v63_90 + 1), a125, k126) [0, 1, 0, 1, 2, 3, 4, 5] ⟨(q3 hM93 (by simp only [cn_Of_L1, h113, h117, h119, cs4])), aM1, aM1, aM1, aM1, aM1, (by first | assumption | exact okFound_push (by assumption) (by simp only [h10, h15, h22, h27, h32, h37, h72, h78, h113, h117, h119, hg8, hg21, hg30, hg76]) aM1 aM1), iv1, iv1⟩
   intro h117
   have h131 := not_false h117
   refine KS ?_
   refine Oq Vadd (Oq Vm (KS ?_))
   exact Kg (r115, out_87, found_88, (cost_89 + 1), (v63_90 + 1), a91, k92) [0, 0, 1, 1, 2, 3, 4, 5] ⟨(q3 hM93 (by simp only [cn_Of_L1, h113, h117, h131, cs4])), aM1, aM1, aM1, aM1, aM1, (by first | assumption | exact okFound_push (by assumption) (by simp only [h10, h15, h22, h27, h32, h37, h72, h78, h113, h117, h131, hg8, hg21, hg30, hg76]) aM1 aM1), iv1, iv1⟩
  intro h113
  have g133 := df h113
  obtain rfl : r86 = 0 := by omega
  refine Ke ?_
  have hR134 := q2 hM93 (out_87, found_88, cost_89) (by simp only [cn_Of_L1, h113, cs4])
  refine KS ?_
  refine Oq Vm (Oq Vadd (Oq Va (KS ?_)))
  exact Kg (r49, out_87, found_88, cost_89, (i_53 + 1), a91, k92) [0, 1, 1, 2, 3, 4, 5] ⟨(q3 hM56 (by simp only [cn_Of_L0, h72, h78, h113, hg76, hR134, cs4])), aM1, aM1, (by assumption), iv1, iv1⟩
 intro h72
 have g135 := df h72
 refine Ke ?_
 have hR136 := q2 hM56 (.brk (out_50, cost_52)) (by simp only [cn_Of_L0, h72, cs4])
 refine KS ?_
 refine Oq Vm ?_
 refine Jl [0] (Ent.freeze _ _) ?_
 refine letv (sc_Clip_int out_50) fun rv138 hg139 => ?_
 have hc140 := fn74 out_50 a54 k55 rv138 hg139
 refine Oc [0] ca74 hc140 ?_
 rintro c137 he141
 refine Jo 0 ?_; rintro a142 k143 rfl
 refine Fb 8 0 fun _ => Fo 0 fun ho145 => ?_
 refine Oq Vm (Oq Va (Oq Va (Oq Va (KS ?_))))
 have hq := q4 hrr (rv138, cost_52, 0) (by simp only [cn_Of, h10, h15, h22, h27, h32, h37, h72, hg8, hg21, hg30, hR136, hg139, cs4]); subst hq
 exact Kr (vl a142 k143 rv138) rfl (.tmp rfl (.tmp rfl (.tmp rfl .nil))) [0] en
theorem fn20 (width : Int) (hwidth_0 : i64ok width) (hw0 : 0 ≤ width ∧ width ≤ 1000000) (rr : GSet) (hrr : r1_Empty width = rr) : FT Tryz.prog 20 #[vi width] [] (fun g : Value => i64ok rr.Width ∧ (rr.Width = width) ∧ (rr.Words.length = (((width : Int) + 63) / 64).toNat)) (fun g => .agg #[vi rr.Width, g]) (fun g => [os g rr.Words]) := by
 refine FTi Tryz.func20 fun w0 M0 F0 => ?_
 unfold i64ok at hwidth_0
 refine KS ?_
 refine Oa (Al ze53 [vi 0, .slice none 0 0]) fun p1 => KS ?_
 refine Oq Vm (Oq Vm (Oq Vadd (Oq Vquo (Oa (Amk (α := BitVec 64) sl51 sz51 0#64 (fun _ _ => rfl)) fun c2 => ?_))))
 refine Jo 0 ?_; rintro a3 k4 rfl
 refine Fb 8 0 fun _ => ?_
 have hn6 := List.length_replicate (n := (((width + 63) / 64) : Int).toNat) (a := (0#64 : BitVec 64))
 refine Oq (Vbd st53 [vi width, vl a3 k4 (List.replicate (((width + 63) / 64) : Int).toNat 0#64)]) (Ost (Scl [1] sh53 [vi width, vl a3 k4 (List.replicate (((width + 63) / 64) : Int).toNat 0#64)]) (KS ?_))
 have hq := q4 hrr (GSet.mk width (List.replicate (((width + 63) / 64) : Int).toNat 0#64)) (by simp only [r1_Empty, cs4]); subst hq
 exact Kr (vl a3 k4 (List.replicate (((width + 63) / 64) : Int).toNat 0#64)) rfl (.cellN 0 rfl sh53 rfl (reads_Cl _ _) rfl .nil) [1] en
theorem fn75 (width : Int) (hwidth_0 : i64ok width) (hw0 : 0 ≤ width ∧ width ≤ 1000000) (rr : GTransfer) (hrr : r1_Identity width = rr) : FT Tryz.prog 75 #[vi width] [] (fun g : Value × Value × Value => i64ok rr.Gen.Width ∧ i64ok rr.Kill.Width) (fun g => .agg #[vi rr.Gen.Width, g.1, vi rr.Kill.Width, g.2.1, g.2.2]) (fun g => [sl g.1 rr.Gen.Words, sl g.2.1 rr.Kill.Words, os g.2.2 rr.Copies]) := by
 refine FTi Tryz.func75 fun w0 M0 F0 => ?_
 unfold i64ok at hwidth_0
 refine KS ?_
 refine Oa (Al ze57 [vi 0, .slice none 0 0, vi 0, .slice none 0 0, .slice none 0 0]) fun p1 => KS ?_
 refine Oq Vm ?_
 refine letv (r1_Empty width) fun rv3 hg4 => ?_
 have hc5 := fn20 width pre pre rv3 hg4
 refine Oc [] ca20 hc5 ?_
 rintro c2 ⟨he6, he7, he8⟩
 unfold i64ok at he6
 refine Jo 0 ?_; rintro a9 k10 rfl
 refine Fb 8 0 fun _ => Oq Vm ?_
 have hc13 := fn20 width pre pre rv3 hg4
 refine Oc [] ca20 hc13 ?_
 rintro c12 ⟨he14, he15, he16⟩
 unfold i64ok at he14
 refine Jo 0 ?_; rintro a17 k18 rfl
 refine Oq (Vbd st57 [vi rv3.Width, vl a9 k10 rv3.Words, vi rv3.Width, vl a17 k18 rv3.Words, .slice none 0 0]) (Ost (Scl [2] sh57 [vi rv3.Width, vl a9 k10 rv3.Words, vi rv3.Width, vl a17 k18 rv3.Words, .slice none 0 0]) (KS ?_))
 refine Jl [] (Ent.osNil (α := GCopy)) ?_
 refine Jl [3] (Ent.freeze _ _) ?_
 refine Jl [3] (Ent.freeze _ _) ?_
 have hq := q4 hrr (GTransfer.mk rv3 rv3 []) (by simp only [r1_Identity, hg4, cs4]); subst hq
 exact Kr (vl a9 k10 rv3.Words, vl a17 k18 rv3.Words, .slice none 0 0) rfl (.cellN 3 rfl sh57 rfl (reads_Cl _ _) rfl .nil) [1, 0, 2] en
theorem fn51 (n : Int) (hn_0 : i64ok n) (hn0 : 0 ≤ n ∧ n ≤ 1000) (rr : GSystem) (hrr : w14_line n = rr) : FT Tryz.prog 51 #[vi n] [] (fun g : Value × Value × Value => i64ok rr.Width) (fun g => .agg #[vi rr.Width, g.1, g.2.1, g.2.2]) (fun g => [sl g.1 rr.Deps, sl g.2.1 rr.Transfers, sl g.2.2 rr.Boundary]) := by
 refine FTi Tryz.func51 fun w0 M0 F0 => ?_
 unfold i64ok at hn_0
 refine KS ?_
 refine Oa (Al ze27 [vi 0, .slice none 0 0, .slice none 0 0, .slice none 0 0]) fun p1 => KS ?_
 refine Oa (Al ze27 [vi 0, .slice none 0 0, .slice none 0 0, .slice none 0 0]) fun p2 => KS ?_
 refine Oq Va (KS ?_)
 refine Jl [] (Ent.osNil (α := (List Int))) ?_
 refine Jl [] (Ent.osNil (α := GTransfer)) ?_
 refine Jl [] (Ent.osNil (α := GSet)) ?_
 refine Kl (γ := Nat × List (List Int) × List GTransfer × List GSet × Int × Option Addr × Nat × Option Addr × Nat × Option Addr × Nat) (fun (r3, s1_4, s2_5, s3_6, i_7, a8, k9, a10, k11, a12, k13) => ⟨[(0, vi n), (2, p1), (3, p2), (4, vi i_7)], [O a12 k13 s3_6, O a10 k11 s2_5, O a8 k9 s1_4, Cl p2 [vi 0, vl a8 k9 s1_4, vl a10 k11 s2_5, vl a12 k13 s3_6], Cl p1 [vi 0, .slice none 0 0, .slice none 0 0, .slice none 0 0]], w14_line_L0 r3 s1_4 s2_5 s3_6 i_7 = w14_line_L0 (((n : Int) - 0).toNat) [] [] [] 0 ∧ r3 = ((n : Int) - i_7).toNat ∧ (0 : Int) ≤ i_7 ∧ (i_7 ≤ n ∨ i_7 = 0) ∧ (-9223372036854775808 ≤ i_7 ∧ i_7 ≤ 9223372036854775807) ∧ (s1_4.length : Int) = i_7 ∧ (s2_5.length : Int) = i_7 ∧ (s3_6.length : Int) = i_7, r3⟩) (((n : Int) - 0).toNat, [], [], [], 0, none, 0, none, 0, none, 0) [0, 0, 0, 0, 0] ⟨rfl, rfl, aM1, (.inr rfl), aM1, iv0, iv0, iv0⟩ ?_
 rintro ⟨r3, s1_4, s2_5, s3_6, i_7, a8, k9, a10, k11, a12, k13⟩ ⟨hM14, hr15, hi16, hi17, hk18, hv19, hv20, hv21⟩
 refine JJ_nx fun _ _ hL hA => ?_; dsimp only at hL hA; subst hL hA
 refine Fb 32 0 fun _ => Fb 88 1 fun _ => Fb 24 2 fun _ => KS ?_
 refine Oq Vm (Oq Vm (Oq Vlss (KS ?_)))
 refine Kc ?_ ?_
 ·intro h25
  have g26 := dt h25
  obtain ⟨r27, rfl⟩ := scc (n := r3) aM1
  refine KS ?_
  refine Oq Va (KS ?_)
  refine Oq Vm (Oq Vgtr (KS ?_))
  refine Kc ?_ ?_
  ·intro h28
   have g29 := dt h28
   refine KS ?_
   refine Oq Vm (Oq Vsub (Oa (AsV sl22 sz22 [vi (i_7 - 1)] [vi (i_7 - 1)]) fun c30 => ?_))
   refine Jo 0 ?_; rintro a31 k32 rfl
   refine Oq Va (KS ?_)
   refine Jp 4 fun hp33 => ?_
   refine JK_drawK [0, 1, 0, 4, 15, 0, 32, 31, 159, 511, 0, 1024, 1023, 5119, 16383, 3199, 65535, 131071, 262143, 524287, 1048575] fmix ?_
   refine Dv [0] (Vfa fo27_1 0) (Dv [5] (VldF sh23 0) (Dv [] Vm (Dx [] [] [0] (fun G => (G.g 3 0)) [fun G => Cr (G.g 3 0) 1 [.slice a31 1 k32]] (fun G => xA (AsV sl23 sz23 [.slice a31 1 k32] [.slice a31 1 k32])) ?_)))
   have hn36 := la s1_4 ([[(i_7 - 1)]] : List (List Int))
   refine Dx [1, 4, 7] [1, 4, 7] [1, 0] (fun G => (G.g 4 0)) [fun G => sl (.slice a31 1 k32) ([(i_7 - 1)] : List Int), fun G => os (G.g 4 0) ((s1_4 ++ [[(i_7 - 1)]]) : List (List Int))] (fun G => xp [0] rfl (Ent.crInt _ [(i_7 - 1)] _ _ rfl rfl (by intro x hx; rw [List.mem_singleton] at hx; subst hx; unfold i64ok; omega) aB1) (xp [0] rfl (Ent.freeze _ _) (xp [2, 0] rfl (Ent.cr1 (α := List Int) (A := [sl (.slice a31 1 k32) ([(i_7 - 1)] : List Int)]) _ [(i_7 - 1)] _ aB1 (fun h => ⟨_, rfl, sepAll_get (i := 0) rfl h⟩)) (xA (ApO [3, 0] sl23 sl23 sz23))))) (Dv [0] (Vfa fo27_2 0) (Dv [5] (VldF sh24 0) ?_))
   refine letv (r1_Identity 0) fun rv40 hg41 => ?_
   refine Dx [] [] [0, 1, 2, 3] (fun G => .agg #[vi rv40.Gen.Width, (G.g 7 0), vi rv40.Kill.Width, (G.g 7 1), (G.g 7 2)]) [fun G => SP.fact (i64ok rv40.Gen.Width ∧ i64ok rv40.Kill.Width), fun G => sl (G.g 7 0) rv40.Gen.Words, fun G => sl (G.g 7 1) rv40.Kill.Words, fun G => os (G.g 7 2) rv40.Copies] (fun G => xC [] ca75 (fn75 0 pre pre rv40 hg41)) (Dx [] [] [0] (fun G => (G.g 8 0)) [fun G => Cr (G.g 8 0) 1 [vi rv40.Gen.Width, (G.g 7 0), vi rv40.Kill.Width, (G.g 7 1), (G.g 7 2)]] (fun G => xA (AsV sl24 sz24 [.agg #[vi rv40.Gen.Width, (G.g 7 0), vi rv40.Kill.Width, (G.g 7 1), (G.g 7 2)]] [vi rv40.Gen.Width, (G.g 7 0), vi rv40.Kill.Width, (G.g 7 1), (G.g 7 2)])) ?_)
   have hn44 := la s2_5 ([rv40] : List GTransfer)
   refine Dx [3, 10, 11, 12, 13, 14] [3, 13, 14] [5, 1, 2, 3, 0] (fun G => (G.g 9 0)) [fun G => sl (G.g 7 2) rv40.Copies, fun G => os (G.g 9 0) ((s2_5 ++ [rv40]) : List GTransfer)] (fun G => by refine xf 1 rfl ?_; rintro ⟨he45, he46⟩; unfold i64ok at he45 he46; exact xp [4] rfl (Ent.freeze _ _) (xp [5, 3, 4, 0] rfl (Ent.cr1 (α := GTransfer) (A := [sl (G.g 7 0) rv40.Gen.Words, sl (G.g 7 1) rv40.Kill.Words, sl (G.g 7 2) rv40.Copies]) _ rv40 _ aB1 (fun h => ⟨_, _, _, rfl, aL1, sepAll_get (i := 0) rfl h, aL1, sepAll_get (i := 1) rfl h, sepAll_get (i := 2) rfl h⟩)) (xA (ApO [5, 0] sl24 sl24 sz24)))) (Dv [0] (Vfa fo27_3 0) (Dv [5] (VldF sh25 0) ?_))
   refine letv (r1_Empty 0) fun rv48 hg49 => ?_
   refine Dx [] [] [0, 1] (fun G => .agg #[vi rv48.Width, (G.g 12 0)]) [fun G => SP.fact (i64ok rv48.Width ∧ (rv48.Width = 0) ∧ (rv48.Words.length = (((0 : Int) + 63) / 64).toNat)), fun G => os (G.g 12 0) rv48.Words] (fun G => xC [] ca20 (fn20 0 pre pre rv48 hg49)) (Dx [] [] [0] (fun G => (G.g 13 0)) [fun G => Cr (G.g 13 0) 1 [vi rv48.Width, (G.g 12 0)]] (fun G => xA (AsV sl25 sz25 [.agg #[vi rv48.Width, (G.g 12 0)]] [vi rv48.Width, (G.g 12 0)])) ?_)
   have hn52 := la s3_6 ([rv48] : List GSet)
   refine Dx [2, 17, 18, 19] [2, 18, 19] [3, 1, 0] (fun G => (G.g 14 0)) [fun G => sl (G.g 12 0) rv48.Words, fun G => os (G.g 14 0) ((s3_6 ++ [rv48]) : List GSet)] (fun G => by refine xf 1 rfl ?_; rintro ⟨he53, he54, he55⟩; unfold i64ok at he53; exact xp [2] rfl (Ent.freeze _ _) (xp [3, 0] rfl (Ent.cr1 (α := GSet) (A := [sl (G.g 12 0) rv48.Words]) _ rv48 _ aB1 (fun h => ⟨_, rfl, aL1, sepAll_get (i := 0) rfl h⟩)) (xA (ApO [3, 0] sl25 sl25 sz25)))) (Dv [0] (Vfa fo27_1 0) (Dx0 [5, 9] [5] [1, 0] [fun G => Cl p2 [vi 0, (G.g 4 0), vl a10 k11 s2_5, vl a12 k13 s3_6]] (fun G => x1 1 rfl os_one fun ho56 => (xS (OpS.frame [0] rfl (OpS.storeClF [(G.g 4 0)] [vi 0, (G.g 4 0), vl a10 k11 s2_5, vl a12 k13 s3_6] rfl rfl rfl sh23 (cells_of_one ho56) rfl (by simp only [List.all_cons, List.all_nil, ho56, Bool.and_true, Bool.true_and] <;> rfl) aB1 rfl)))) (Dv [0] (Vfa fo27_2 0) (Dx0 [16, 22] [22] [1, 0] [fun G => Cl p2 [vi 0, (G.g 4 0), (G.g 9 0), vl a12 k13 s3_6]] (fun G => x1 0 rfl os_one fun ho57 => (xS (OpS.frame [1] rfl (OpS.storeClF [(G.g 9 0)] [vi 0, (G.g 4 0), (G.g 9 0), vl a12 k13 s3_6] rfl rfl rfl sh24 (cells_of_one ho57) rfl (by simp only [List.all_cons, List.all_nil, ho57, Bool.and_true, Bool.true_and] <;> rfl) aB1 rfl)))) (Dv [0] (Vfa fo27_3 0) (Dx0 [21, 23] [23] [1, 0] [fun G => Cl p2 [vi 0, (G.g 4 0), (G.g 9 0), (G.g 14 0)]] (fun G => x1 0 rfl os_one fun ho58 => (xS (OpS.frame [1] rfl (OpS.storeClF [(G.g 14 0)] [vi 0, (G.g 4 0), (G.g 9 0), (G.g 14 0)] rfl rfl rfl sh25 (cells_of_one ho58) rfl (by simp only [List.all_cons, List.all_nil, ho58, Bool.and_true, Bool.true_and] <;> rfl) aB1 rfl)))) ?_))))))
   refine Dn ⟨by kernel_rfl, fun G => ?_⟩
   refine Jw2 [(0, vi n), (2, p1), (3, p2), (4, vi i_7)] [0, 6] [sl (.slice a31 1 k32) ([(i_7 - 1)] : List Int), os (G.g 4 0) ((s1_4 ++ [[(i_7 - 1)]]) : List (List Int)), SP.fact (i64ok rv40.Gen.Width ∧ i64ok rv40.Kill.Width), sl (G.g 7 0) rv40.Gen.Words, sl (G.g 7 1) rv40.Kill.Words, sl (G.g 7 2) rv40.Copies, os (G.g 9 0) ((s2_5 ++ [rv40]) : List GTransfer), SP.fact (i64ok rv48.Width ∧ (rv48.Width = 0) ∧ (rv48.Words.length = (((0 : Int) + 63) / 64).toNat)), sl (G.g 12 0) rv48.Words, os (G.g 14 0) ((s3_6 ++ [rv48]) : List GSet), Cl p2 [vi 0, (G.g 4 0), (G.g 9 0), (G.g 14 0)]] ?_
   generalize G.g 4 0 = c35, G.g 7 0 = c37, G.g 7 1 = c38, G.g 7 2 = c39, G.g 9 0 = c43, G.g 12 0 = c47, G.g 14 0 = c51
   refine Jf 4 rfl ?_; rintro ⟨he59, he60⟩
   unfold i64ok at he59 he60
   refine Jf 9 rfl ?_; rintro ⟨he61, he62, he63⟩
   unfold i64ok at he61
   refine Jk [1, 1, 2, 3, 4, 5, 6, 7, 8, 8] ?_
   refine Jo 2 ?_; rintro a64 k65 rfl
   refine Fb 24 2 fun _ => ?_
   refine Jo 3 ?_; rintro a67 k68 rfl
   refine Fb 8 3 fun _ => ?_
   refine Jo 4 ?_; rintro a70 k71 rfl
   refine Fb 8 4 fun _ => ?_
   refine Jo 5 ?_; rintro a73 k74 rfl
   refine Fb 16 5 fun _ => ?_
   refine Jo 6 ?_; rintro a76 k77 rfl
   refine Fb 88 6 fun _ => ?_
   refine Jo 7 ?_; rintro a79 k80 rfl
   refine Fb 8 7 fun _ => ?_
   refine Jo 8 ?_; rintro a82 k83 rfl
   refine Fb 32 8 fun _ => KS ?_
   refine Oq Vm (Oq Vadd (Oq Va (KS ?_)))
   exact Kg (r27, (s1_4 ++ [[(i_7 - 1)]]), (s2_5 ++ [rv40]), (s3_6 ++ [rv48]), (i_7 + 1), a64, k65, a76, k77, a82, k83) [8, 6, 2, 6, 0] ⟨(q3 hM14 (by simp only [w14_line_L0, h25, h28, hg41, hg49, cs4])), aM1, aM1, aM1, aM1, iv1, iv1, iv1⟩
  intro h28
  have g85 := df h28
  refine KS ?_
  refine Jp 3 fun hp86 => ?_
  refine JK_drawK [0, 1, 0, 4, 15, 0, 32, 31, 159, 511, 0, 1024, 1023, 5119, 16383, 3199, 65535, 131071, 262143, 524287, 1048575] fmix ?_
  refine Dv [0] (Vfa fo27_1 0) (Dv [4] (VldF sh23 0) (Dv [] Vm (Dx [] [] [0] (fun G => (G.g 3 0)) [fun G => Cr (G.g 3 0) 1 [.slice none 0 0]] (fun G => xA (AsV sl23 sz23 [.slice none 0 0] [.slice none 0 0])) ?_)))
  have hn89 := la s1_4 ([([] : List Int)] : List (List Int))
  refine Dx [3, 6] [3, 6] [0] (fun G => (G.g 4 0)) [fun G => os (G.g 4 0) ((s1_4 ++ [([] : List Int)]) : List (List Int))] (fun G => xp [1] rfl (Ent.cr1 (α := List Int) (A := []) _ ([] : List Int) _ aB1 (fun _ => ⟨_, rfl, slrd_nil⟩)) (xA (ApO [1, 0] sl23 sl23 sz23))) (Dv [0] (Vfa fo27_2 0) (Dv [4] (VldF sh24 0) ?_))
  refine letv (r1_Identity 0) fun rv93 hg94 => ?_
  refine Dx [] [] [0, 1, 2, 3] (fun G => .agg #[vi rv93.Gen.Width, (G.g 7 0), vi rv93.Kill.Width, (G.g 7 1), (G.g 7 2)]) [fun G => SP.fact (i64ok rv93.Gen.Width ∧ i64ok rv93.Kill.Width), fun G => sl (G.g 7 0) rv93.Gen.Words, fun G => sl (G.g 7 1) rv93.Kill.Words, fun G => os (G.g 7 2) rv93.Copies] (fun G => xC [] ca75 (fn75 0 pre pre rv93 hg94)) (Dx [] [] [0] (fun G => (G.g 8 0)) [fun G => Cr (G.g 8 0) 1 [vi rv93.Gen.Width, (G.g 7 0), vi rv93.Kill.Width, (G.g 7 1), (G.g 7 2)]] (fun G => xA (AsV sl24 sz24 [.agg #[vi rv93.Gen.Width, (G.g 7 0), vi rv93.Kill.Width, (G.g 7 1), (G.g 7 2)]] [vi rv93.Gen.Width, (G.g 7 0), vi rv93.Kill.Width, (G.g 7 1), (G.g 7 2)])) ?_)
  have hn97 := la s2_5 ([rv93] : List GTransfer)
  refine Dx [2, 8, 9, 10, 11, 12] [2, 11, 12] [5, 1, 2, 3, 0] (fun G => (G.g 9 0)) [fun G => sl (G.g 7 2) rv93.Copies, fun G => os (G.g 9 0) ((s2_5 ++ [rv93]) : List GTransfer)] (fun G => by refine xf 1 rfl ?_; rintro ⟨he98, he99⟩; unfold i64ok at he98 he99; exact xp [4] rfl (Ent.freeze _ _) (xp [5, 3, 4, 0] rfl (Ent.cr1 (α := GTransfer) (A := [sl (G.g 7 0) rv93.Gen.Words, sl (G.g 7 1) rv93.Kill.Words, sl (G.g 7 2) rv93.Copies]) _ rv93 _ aB1 (fun h => ⟨_, _, _, rfl, aL1, sepAll_get (i := 0) rfl h, aL1, sepAll_get (i := 1) rfl h, sepAll_get (i := 2) rfl h⟩)) (xA (ApO [5, 0] sl24 sl24 sz24)))) (Dv [0] (Vfa fo27_3 0) (Dv [4] (VldF sh25 0) ?_))
  refine letv (r1_Empty 0) fun rv101 hg102 => ?_
  refine Dx [] [] [0, 1] (fun G => .agg #[vi rv101.Width, (G.g 12 0)]) [fun G => SP.fact (i64ok rv101.Width ∧ (rv101.Width = 0) ∧ (rv101.Words.length = (((0 : Int) + 63) / 64).toNat)), fun G => os (G.g 12 0) rv101.Words] (fun G => xC [] ca20 (fn20 0 pre pre rv101 hg102)) (Dx [] [] [0] (fun G => (G.g 13 0)) [fun G => Cr (G.g 13 0) 1 [vi rv101.Width, (G.g 12 0)]] (fun G => xA (AsV sl25 sz25 [.agg #[vi rv101.Width, (G.g 12 0)]] [vi rv101.Width, (G.g 12 0)])) ?_)
  have hn105 := la s3_6 ([rv101] : List GSet)
  refine Dx [1, 15, 16, 17] [1, 16, 17] [3, 1, 0] (fun G => (G.g 14 0)) [fun G => sl (G.g 12 0) rv101.Words, fun G => os (G.g 14 0) ((s3_6 ++ [rv101]) : List GSet)] (fun G => by refine xf 1 rfl ?_; rintro ⟨he106, he107, he108⟩; unfold i64ok at he106; exact xp [2] rfl (Ent.freeze _ _) (xp [3, 0] rfl (Ent.cr1 (α := GSet) (A := [sl (G.g 12 0) rv101.Words]) _ rv101 _ aB1 (fun h => ⟨_, rfl, aL1, sepAll_get (i := 0) rfl h⟩)) (xA (ApO [3, 0] sl25 sl25 sz25)))) (Dv [0] (Vfa fo27_1 0) (Dx0 [4, 7] [4] [1, 0] [fun G => Cl p2 [vi 0, (G.g 4 0), vl a10 k11 s2_5, vl a12 k13 s3_6]] (fun G => x1 1 rfl os_one fun ho109 => (xS (OpS.frame [0] rfl (OpS.storeClF [(G.g 4 0)] [vi 0, (G.g 4 0), vl a10 k11 s2_5, vl a12 k13 s3_6] rfl rfl rfl sh23 (cells_of_one ho109) rfl (by simp only [List.all_cons, List.all_nil, ho109, Bool.and_true, Bool.true_and] <;> rfl) aB1 rfl)))) (Dv [0] (Vfa fo27_2 0) (Dx0 [14, 20] [20] [1, 0] [fun G => Cl p2 [vi 0, (G.g 4 0), (G.g 9 0), vl a12 k13 s3_6]] (fun G => x1 0 rfl os_one fun ho110 => (xS (OpS.frame [1] rfl (OpS.storeClF [(G.g 9 0)] [vi 0, (G.g 4 0), (G.g 9 0), vl a12 k13 s3_6] rfl rfl rfl sh24 (cells_of_one ho110) rfl (by simp only [List.all_cons, List.all_nil, ho110, Bool.and_true, Bool.true_and] <;> rfl) aB1 rfl)))) (Dv [0] (Vfa fo27_3 0) (Dx0 [19, 21] [21] [1, 0] [fun G => Cl p2 [vi 0, (G.g 4 0), (G.g 9 0), (G.g 14 0)]] (fun G => x1 0 rfl os_one fun ho111 => (xS (OpS.frame [1] rfl (OpS.storeClF [(G.g 14 0)] [vi 0, (G.g 4 0), (G.g 9 0), (G.g 14 0)] rfl rfl rfl sh25 (cells_of_one ho111) rfl (by simp only [List.all_cons, List.all_nil, ho111, Bool.and_true, Bool.true_and] <;> rfl) aB1 rfl)))) ?_))))))
  refine Dn ⟨by kernel_rfl, fun G => ?_⟩
  refine Jw2 [(0, vi n), (2, p1), (3, p2), (4, vi i_7)] [0, 5] [os (G.g 4 0) ((s1_4 ++ [([] : List Int)]) : List (List Int)), SP.fact (i64ok rv93.Gen.Width ∧ i64ok rv93.Kill.Width), sl (G.g 7 0) rv93.Gen.Words, sl (G.g 7 1) rv93.Kill.Words, sl (G.g 7 2) rv93.Copies, os (G.g 9 0) ((s2_5 ++ [rv93]) : List GTransfer), SP.fact (i64ok rv101.Width ∧ (rv101.Width = 0) ∧ (rv101.Words.length = (((0 : Int) + 63) / 64).toNat)), sl (G.g 12 0) rv101.Words, os (G.g 14 0) ((s3_6 ++ [rv101]) : List GSet), Cl p2 [vi 0, (G.g 4 0), (G.g 9 0), (G.g 14 0)]] ?_
  generalize G.g 4 0 = c88, G.g 7 0 = c90, G.g 7 1 = c91, G.g 7 2 = c92, G.g 9 0 = c96, G.g 12 0 = c100, G.g 14 0 = c104
  refine Jf 3 rfl ?_; rintro ⟨he112, he113⟩
  unfold i64ok at he112 he113
  refine Jf 8 rfl ?_; rintro ⟨he114, he115, he116⟩
  unfold i64ok at he114
  refine Jk [1, 1, 2, 3, 4, 5, 6, 7, 7] ?_
  refine Jo 1 ?_; rintro a117 k118 rfl
  refine Fb 24 1 fun _ => ?_
  refine Jo 2 ?_; rintro a120 k121 rfl
  refine Fb 8 2 fun _ => ?_
  refine Jo 3 ?_; rintro a123 k124 rfl
  refine Fb 8 3 fun _ => ?_
  refine Jo 4 ?_; rintro a126 k127 rfl
  refine Fb 16 4 fun _ => ?_
  refine Jo 5 ?_; rintro a129 k130 rfl
  refine Fb 88 5 fun _ => ?_
  refine Jo 6 ?_; rintro a132 k133 rfl
  refine Fb 8 6 fun _ => ?_
  refine Jo 7 ?_; rintro a135 k136 rfl
  refine Fb 32 7 fun _ => KS ?_
  refine Oq Vm (Oq Vadd (Oq Va (KS ?_)))
  exact Kg (r27, (s1_4 ++ [([] : List Int)]), (s2_5 ++ [rv93]), (s3_6 ++ [rv101]), (i_7 + 1), a117, k118, a129, k130, a135, k136) [7, 5, 1, 5, 0] ⟨(q3 hM14 (by simp only [w14_line_L0, h25, h28, hg94, hg102, cs4])), aM1, aM1, aM1, aM1, iv1, iv1, iv1⟩
 intro h25
 have g138 := df h25
 obtain rfl : r3 = 0 := by omega
 refine Ke ?_
 have hR139 := q2 hM14 (s1_4, s2_5, s3_6) (by simp only [w14_line_L0, h25, cs4])
 refine KS ?_
 refine Oq (VldA sh27 3) (Ost (Scl [4] sh27 [vi 0, vl a8 k9 s1_4, vl a10 k11 s2_5, vl a12 k13 s3_6]) (KS ?_))
 refine Jl [3] (Ent.freeze _ _) ?_
 refine Jl [3] (Ent.freeze _ _) ?_
 refine Jl [3] (Ent.freeze _ _) ?_
 have hq := q4 hrr (GSystem.mk 0 s1_4 s2_5 s3_6) (by simp only [w14_line, h25, hR139, cs4]); subst hq
 exact Kr (vl a8 k9 s1_4, vl a10 k11 s2_5, vl a12 k13 s3_6) rfl (.cellN 3 rfl sh27 rfl (reads_Cl _ _) rfl .nil) [2, 1, 0] en
theorem fn17  (rr : Bool) (hrr : w14_sane = rr) : FT Tryz.prog 17 #[] [] (fun g : Unit => True) (fun g => vb rr) (fun g => []) := by
 refine FTi Tryz.func17 fun w0 M0 F0 => ?_
 refine KS ?_
 refine Oq Va (KS ?_)
 refine letv (w14_line 4) fun rv4 hg5 => ?_
 have hc6 := fn51 4 pre pre rv4 hg5
 refine Oc [] ca51 hc6 ?_
 rintro ⟨c1, c2, c3⟩ he7
 unfold i64ok at he7
 refine Jo 0 ?_; rintro a8 k9 rfl
 refine Fb 24 0 fun _ => ?_
 refine Jo 1 ?_; rintro a11 k12 rfl
 refine Fb 88 1 fun _ => ?_
 refine Jo 2 ?_; rintro a14 k15 rfl
 refine Fb 32 2 fun _ => ?_
 refine Jl [] (Ent.slNil (α := Int)) ?_
 refine letv (cn_Of rv4 2 ([] : List Int)) fun rv18 hg19 => ?_
 have hc20 := fn50 rv4 a8 k9 a11 k12 a14 k15 2 (([] : List Int)) none 0 pre pre rv18 hg19
 refine Oc [1, 2, 3, 0] ca50 hc20 ?_
 rintro c17 ⟨he21, he22⟩
 unfold i64ok at he21 he22
 refine Jo 0 ?_; rintro a23 k24 rfl
 refine Fb 8 0 fun _ => Fo 0 fun ho26 => ?_
 refine Oq Vm (Oq Vx (Oq Vx (Oq Vx (Oq Va (Oq Va (Oq Va (KS ?_)))))))
 have hc30 := fn51 4 pre pre rv4 hg5
 refine Oc [] ca51 hc30 ?_
 rintro ⟨c27, c28, c29⟩ he31
 unfold i64ok at he31
 refine Jo 0 ?_; rintro a32 k33 rfl
 refine Jo 1 ?_; rintro a34 k35 rfl
 refine Jo 2 ?_; rintro a36 k37 rfl
 refine Oa (AsV sl22 sz22 [vi 1] [vi 1]) fun c38 => ?_
 refine Jo 0 ?_; rintro a39 k40 rfl
 refine Jl [0] (Ent.crInt _ [1] _ _ rfl rfl (by intro x hx; rw [List.mem_singleton] at hx; subst hx; unfold i64ok; omega) aB1) ?_
 refine Jl [0] (Ent.freeze _ _) ?_
 refine letv (cn_Of rv4 2 [1]) fun rv42 hg43 => ?_
 have hc44 := fn50 rv4 a32 k33 a34 k35 a36 k37 2 ([1]) a39 k40 pre pre rv42 hg43
 refine Oc [1, 2, 3, 0] ca50 hc44 ?_
 rintro c41 ⟨he45, he46⟩
 unfold i64ok at he45 he46
 refine Jo 0 ?_; rintro a47 k48 rfl
 refine Fb 8 0 fun _ => Fo 0 fun ho50 => ?_
 refine Oq Vm (Oq Vx (Oq Vx (Oq Vx (Oq Va (Oq Va (Oq Va (KS ?_)))))))
 have hc54 := fn51 4 pre pre rv4 hg5
 refine Oc [] ca51 hc54 ?_
 rintro ⟨c51, c52, c53⟩ he55
 unfold i64ok at he55
 refine Jo 0 ?_; rintro a56 k57 rfl
 refine Jo 1 ?_; rintro a58 k59 rfl
 refine Jo 2 ?_; rintro a60 k61 rfl
 refine Oa (AsV sl22 sz22 [vi 2] [vi 2]) fun c62 => ?_
 refine Jo 0 ?_; rintro a63 k64 rfl
 refine Jl [0] (Ent.crInt _ [2] _ _ rfl rfl (by intro x hx; rw [List.mem_singleton] at hx; subst hx; unfold i64ok; omega) aB1) ?_
 refine Jl [0] (Ent.freeze _ _) ?_
 refine letv (cn_Of rv4 2 [2]) fun rv66 hg67 => ?_
 have hc68 := fn50 rv4 a56 k57 a58 k59 a60 k61 2 ([2]) a63 k64 pre pre rv66 hg67
 refine Oc [1, 2, 3, 0] ca50 hc68 ?_
 rintro c65 ⟨he69, he70⟩
 unfold i64ok at he69 he70
 refine Jo 0 ?_; rintro a71 k72 rfl
 refine Fb 8 0 fun _ => Fo 0 fun ho74 => ?_
 refine Oq Vm (Oq Vx (Oq Vx (Oq Vx (Oq Va (Oq Va (Oq Va (KS ?_)))))))
 refine Oq Vm (Oq Veql (Oq Vm ?_))
 refine Js 32 ?_ ?_
 ·intro h75
  have g76 := eq_of_beq h75
  refine Oq Vm (Oq Veql (Oq Vpt (Oq Vm ?_)))
  refine Js 36 ?_ ?_
  ·intro h77
   have g78 := eq_of_beq h77
   refine Oq Vm (Oq Veql (Oq Vpt (Oq Vm ?_)))
   refine Js 40 ?_ ?_
   ·intro h79
    have g80 := eq_of_beq h79
    refine Oq Vm (Oa (AsV sl22 sz22 [vi 2, vi 1, vi 0] [vi 2, vi 1, vi 0]) fun c81 => ?_)
    refine Jo 0 ?_; rintro a82 k83 rfl
    refine Jl [0] (Ent.crInt _ [2, 1, 0] _ _ rfl rfl (by intro x hx; simp only [List.mem_cons, List.not_mem_nil, or_false] at hx; rcases hx with rfl | rfl | rfl <;> (unfold i64ok; omega)) aB1) ?_
    refine letv (r7_Ints rv18.1 [2, 1, 0]) fun rv84 hg85 => ?_
    refine Oc [0, 10] ca13 (FT_borrow (A := _) (fun _ _ h => by cases h) (FT_ent (Ent.take (is := [1, 0]) rfl) (fn13 rv18.1 a23 k24 ([2, 1, 0]) a82 k83 rv84 hg85))) ?_ (ht := rfl)
    rintro - -
    refine Oq Vpt (Oq Vm ?_)
    refine Js 45 ?_ ?_
    ·intro h86
     refine Oq Vm (Oq Veql (Oq Vpt (Oq Vm ?_)))
     refine Js 49 ?_ ?_
     ·intro h88
      have g89 := eq_of_beq h88
      refine Oq Vm (Oa (AsV sl22 sz22 [vi 2, vi 1] [vi 2, vi 1]) fun c90 => ?_)
      refine Jo 0 ?_; rintro a91 k92 rfl
      refine Jl [0] (Ent.crInt _ [2, 1] _ _ rfl rfl (by intro x hx; simp only [List.mem_cons, List.not_mem_nil, or_false] at hx; rcases hx with rfl | rfl <;> (unfold i64ok; omega)) aB1) ?_
      refine letv (r7_Ints rv42.1 [2, 1]) fun rv93 hg94 => ?_
      refine Oc [0, 6] ca13 (FT_borrow (A := _) (fun _ _ h => by cases h) (FT_ent (Ent.take (is := [1, 0]) rfl) (fn13 rv42.1 a47 k48 ([2, 1]) a91 k92 rv93 hg94))) ?_ (ht := rfl)
      rintro - -
      refine Oq Vpt (Oq Vm ?_)
      refine Js 54 ?_ ?_
      ·intro h95
       refine Oq Vm (Oq Veql (Oq Vpt (Oq Vm ?_)))
       refine Js 58 ?_ ?_
       ·intro h97
        have g98 := eq_of_beq h97
        refine Oq Vm (Oa (AsV sl22 sz22 [vi 2] [vi 2]) fun c99 => ?_)
        refine Jo 0 ?_; rintro a100 k101 rfl
        refine Jl [0] (Ent.crInt _ [2] _ _ rfl rfl (by intro x hx; rw [List.mem_singleton] at hx; subst hx; unfold i64ok; omega) aB1) ?_
        refine letv (r7_Ints rv66.1 [2]) fun rv102 hg103 => ?_
        refine Oc [0, 2] ca13 (FT_borrow (A := _) (fun _ _ h => by cases h) (FT_ent (Ent.take (is := [1, 0]) rfl) (fn13 rv66.1 a71 k72 ([2]) a100 k101 rv102 hg103))) ?_ (ht := rfl)
        rintro - -
        refine Oq Vpt (Oq Vm ?_)
        refine Js 63 ?_ ?_
        ·intro h104
         refine Oq Vm (Oq Veql (Oq Vpt (Oq Va (KS ?_))))
         have hq := q4 hrr (rv66.2.1 == 1) (by simp only [w14_sane, h75, h77, h79, h86, h88, h95, h97, h104, hg5, hg19, hg43, hg67, hg85, hg94, hg103, cs4]); subst hq
         exact Kr () rfl (.tmp rfl .nil) [] trivial
        intro h104
        refine Osk (Osk (Oq Vpf (Oq Va (KS ?_))))
        have hq := q4 hrr false (by simp only [w14_sane, h75, h77, h79, h86, h88, h95, h97, h104, hg5, hg19, hg43, hg67, hg85, hg94, hg103, cs4]); subst hq
        exact Kr () rfl (.tmp rfl .nil) [] trivial
       intro h97
       have g107 := ne_of_beq_false h97
       refine Osk (Osk (Osk (Oq Vpf (Oq Vm (Osk (Osk (Oq Vpf (Oq Va (KS ?_)))))))))
       have hq := q4 hrr false (by simp only [w14_sane, h75, h77, h79, h86, h88, h95, h97, hg5, hg19, hg43, hg67, hg85, hg94, cs4]); subst hq
       exact Kr () rfl (.tmp rfl .nil) [] trivial
      intro h95
      refine Osk (Osk (Oq Vpf (Oq Vm (Osk (Osk (Osk (Oq Vpf (Oq Vm (Osk ?_)))))))))
      refine Osk (Oq Vpf (Oq Va (KS ?_)))
      have hq := q4 hrr false (by simp only [w14_sane, h75, h77, h79, h86, h88, h95, hg5, hg19, hg43, hg67, hg85, hg94, cs4]); subst hq
      exact Kr () rfl (.tmp rfl .nil) [] trivial
     intro h88
     have g109 := ne_of_beq_false h88
     refine Osk (Osk (Osk (Oq Vpf (Oq Vm (Osk (Osk (Oq Vpf (Oq Vm (Osk ?_)))))))))
     refine Osk (Osk (Oq Vpf (Oq Vm (Osk (Osk (Oq Vpf (Oq Va (KS ?_))))))))
     have hq := q4 hrr false (by simp only [w14_sane, h75, h77, h79, h86, h88, hg5, hg19, hg43, hg67, hg85, cs4]); subst hq
     exact Kr () rfl (.tmp rfl .nil) [] trivial
    intro h86
    refine Osk (Osk (Oq Vpf (Oq Vm (Osk (Osk (Osk (Oq Vpf (Oq Vm (Osk ?_)))))))))
    refine Osk (Oq Vpf (Oq Vm (Osk (Osk (Osk (Oq Vpf (Oq Vm (Osk (Osk ?_)))))))))
    refine Oq Vpf (Oq Va (KS ?_))
    have hq := q4 hrr false (by simp only [w14_sane, h75, h77, h79, h86, hg5, hg19, hg43, hg67, hg85, cs4]); subst hq
    exact Kr () rfl (.tmp rfl .nil) [] trivial
   intro h79
   have g111 := ne_of_beq_false h79
   refine Osk (Osk (Osk (Oq Vpf (Oq Vm (Osk (Osk (Oq Vpf (Oq Vm (Osk ?_)))))))))
   refine Osk (Osk (Oq Vpf (Oq Vm (Osk (Osk (Oq Vpf (Oq Vm (Osk (Osk ?_)))))))))
   refine Osk (Oq Vpf (Oq Vm (Osk (Osk (Oq Vpf (Oq Va (KS ?_)))))))
   have hq := q4 hrr false (by simp only [w14_sane, h75, h77, h79, hg5, hg19, hg43, hg67, cs4]); subst hq
   exact Kr () rfl (.tmp rfl .nil) [] trivial
  intro h77
  have g112 := ne_of_beq_false h77
  refine Osk (Osk (Oq Vpf (Oq Vm (Osk (Osk (Osk (Oq Vpf (Oq Vm (Osk ?_)))))))))
  refine Osk (Oq Vpf (Oq Vm (Osk (Osk (Osk (Oq Vpf (Oq Vm (Osk (Osk ?_)))))))))
  refine Oq Vpf (Oq Vm (Osk (Osk (Osk (Oq Vpf (Oq Vm (Osk (Osk (Oq Vpf ?_)))))))))
  refine Oq Va (KS ?_)
  have hq := q4 hrr false (by simp only [w14_sane, h75, h77, hg5, hg19, hg43, hg67, cs4]); subst hq
  exact Kr () rfl (.tmp rfl .nil) [] trivial
 intro h75
 have g113 := ne_of_beq_false h75
 refine Osk (Osk (Oq Vpf (Oq Vm (Osk (Osk (Oq Vpf (Oq Vm (Osk (Osk ?_)))))))))
 refine Osk (Oq Vpf (Oq Vm (Osk (Osk (Oq Vpf (Oq Vm (Osk (Osk (Osk ?_)))))))))
 refine Oq Vpf (Oq Vm (Osk (Osk (Oq Vpf (Oq Vm (Osk (Osk (Osk (Oq Vpf ?_)))))))))
 refine Oq Vm (Osk (Osk (Oq Vpf (Oq Va (KS ?_)))))
 have hq := q4 hrr false (by simp only [w14_sane, h75, hg5, hg19, hg43, hg67, cs4]); subst hq
 exact Kr () rfl (.tmp rfl .nil) [] trivial
theorem fn4 (l : List Int) (la0 : Option Addr) (lk0 : Nat) (rr : Unit) (hrr : g_New l = rr) : FT Tryz.prog 4 #[vl la0 lk0 l] [S la0 lk0 l] (fun g : Value => True) (fun g => g) (fun g => [Cl g [vl la0 lk0 l, vi 0]]) := by
 refine FTi Tryz.func4 fun w0 M0 F0 => Fb 8 0 fun _ => Fo 0 fun ho2 => ?_
 refine KS ?_
 refine Oq Va (KS ?_)
 refine Oq Vm (Oq (Vbd st48 [vl la0 lk0 l, vi 0]) (Oa (AbO [vl la0 lk0 l, vi 0]) fun p3 => Oq Va (KS ?_)))
 have hq := q4 hrr () (by simp only [g_New, cs4]); subst hq
 exact Kr p3 rfl (.tmp rfl .nil) [0] trivial
theorem fn26 (v : Int) (n : Int) (hv_0 : i64ok v) (hn_0 : i64ok n) (hn1 : 1 ≤ n) (rr : Int) (hrr : g_Mod v n = rr) : FT Tryz.prog 26 #[vi v, vi n] [] (fun g : Unit => i64ok rr ∧ (0 ≤ rr ∧ rr < n)) (fun g => vi rr) (fun g => []) := by
 refine FTi Tryz.func26 fun w0 M0 F0 => ?_
 unfold i64ok at hv_0 hn_0
 have hm := mod_range v n aM1
 refine KS ?_
 refine Oq Va (KS ?_)
 refine Oq Vm (Oq (VcU un3 un84) (Oq Vm (Oq (VcU un3 un84) (Oq (VremU (ofInt_ne n aM1)) (Oq (VcN un84 un3 (h := (mod_le v n aM1))) (Oq Va (KS ?_)))))))
 have hq := q4 hrr (((BitVec.ofInt 64 v) % (BitVec.ofInt 64 n)).toNat : Int) (by simp only [g_Mod, cs4]); subst hq
 exact Kr () rfl (.tmp rfl .nil) [] en
theorem fn7 (tP : Value) (ta : Option Addr) (tk : Nat) (tT : List Int) (tI : Int) (n : Int) (htI : 0 ≤ tI ∧ tI ≤ (tT.length : Int)) (hn_0 : i64ok n) (rr : Int × Int) (hrr : tp_Next tT tI n = rr) : FT Tryz.prog 7 #[tP, vi n] [Cl tP [vl ta tk tT, vi tI], S ta tk tT] (fun g : Unit => i64ok rr.1 ∧ (0 ≤ rr.2 ∧ rr.2 ≤ (tT.length : Int)) ∧ (0 ≤ rr.1 ∧ (rr.1 < n ∨ rr.1 = 0))) (fun g => vi rr.1) (fun g => [Cl tP [vl ta tk tT, vi rr.2]]) := by
 refine FTi Tryz.func7 fun w0 M0 F0 => ?_
 unfold i64ok at hn_0
 refine Fb 8 1 fun _ => Fo 1 fun ho2 => KS ?_
 refine Oq Va (KS ?_)
 refine Jp 0 fun hp3 => ?_
 refine Kq [0, 1, 3, 7, 15, 31, 63, 7, 135, 391, 903, 1927, 4095, 8191] fmix ?_
 refine Qv [] Vm (Qv [] Vleq ?_)
 refine bool_split (decide (n ≤ 1)) ?_ ?_
 ·intro h4
  have g5 := dt h4
  refine Qb h4 [] Vm (Qs (Qs (Qs (Qs (Qs (Qs (Qs (Qs (Qs ?_)))))))))
  refine Qs (Qv [] Vpt ?_)
  refine Qn ⟨by kernel_rfl, ?_⟩
  refine Kt (KS ?_)
  refine Oq Va (KS ?_)
  have hq := q4 hrr (0, tI) (by simp only [tp_Next, h4, cs4]); subst hq
  exact Kr () rfl (.tmp rfl .nil) [1] en
 intro h4
 have g6 := df h4
 refine Qb h4 [] Vm (Qv [] Vm (Qv [0] (Vn 0) (Qv [0] (Vfa fo48_1 0) (Qv [1] (VldF sh3 0) (Qv [] Vm (Qv [0] (Vn 0) (Qv [0] (Vfa fo48_0 0) (Qv [1] (VldF sh22 0) (Qv [] (Vlen sl22) ?_)))))))))
 refine Qv [] Vgeq (Qv [] Vpf ?_)
 refine Qn ⟨by kernel_rfl, ?_⟩
 refine Kc ?_ ?_
 ·intro h7
  have g8 := dt h7
  refine KS ?_
  refine Oq Va (KS ?_)
  have hq := q4 hrr (0, tI) (by simp only [tp_Next, h4, h7, cs4]); subst hq
  exact Kr () rfl (.tmp rfl .nil) [1] en
 intro h7
 have g9 := df h7
 refine KS ?_
 refine Oq Vm (Oq (Vn 1) (Oq (Vfa fo48_1 1) (Oq (VldF sh3 1) (Oq Vadd (Oq (Vn 1) (Oq (Vfa fo48_1 1) (Ost (SclF [1] sh3 [vl ta tk tT, vi (tI + 1)]) (KS ?_))))))))
 refine JK_drawK [0, 1, 3, 7, 0, 16, 48, 112, 240, 511, 1023, 0, 4095, 8191] fmix ?_
 refine Dv [] Vm (Dv [1] (Vn 0) (Dv [1] (Vfa fo48_0 0) (Dv [0] (VldF sh22 0) (Dv [] Vm (Dv [1] (Vn 0) (Dv [1] (Vfa fo48_1 0) (Dv [0] (VldF sh3 0) (Dv [] Vsub (Dv [2] (Vi sl22 0) ?_)))))))))
 have hb10 := ok1 (i := (((tI + 1) - 1) : Int).toNat) ho2 rng
 refine Dv [2] (VldI sh3 0) (Dv [] Vm ?_)
 refine letv (g_Mod (tT.getD (((tI + 1) - 1) : Int).toNat 0) n) fun rv11 hg12 => ?_
 refine Dx [] [] [0] (fun G => vi rv11) [fun G => SP.fact (i64ok rv11 ∧ (0 ≤ rv11 ∧ rv11 < n))] (fun G => xC [] ca26 (fn26 ((tT.getD (((tI + 1) - 1) : Int).toNat 0)) n pre pre pre rv11 hg12)) (Dv [] Va ?_)
 refine Dn ⟨by kernel_rfl, fun G => ?_⟩
 refine Jw2 [(4, vi rv11)] [0, 1, 2] [SP.fact (i64ok rv11 ∧ (0 ≤ rv11 ∧ rv11 < n))] ?_
 refine Jf 3 rfl ?_; rintro ⟨he13, he14⟩
 unfold i64ok at he13
 refine Jk [0, 1] ?_
 have hq := q4 hrr (rv11, (tI + 1)) (by simp only [tp_Next, h4, h7, hg12, cs4]); subst hq
 exact Kr () rfl (.tmp rfl .nil) [0] en
theorem fn18 (tP : Value) (ta : Option Addr) (tk : Nat) (tT : List Int) (tI : Int) (htI : 0 ≤ tI ∧ tI ≤ (tT.length : Int)) (rr : Int × Int) (hrr : tp_Width tT tI = rr) : FT Tryz.prog 18 #[tP] [Cl tP [vl ta tk tT, vi tI], S ta tk tT] (fun g : Unit => i64ok rr.1 ∧ (0 ≤ rr.2 ∧ rr.2 ≤ (tT.length : Int)) ∧ (0 ≤ rr.1 ∧ rr.1 ≤ 8)) (fun g => vi rr.1) (fun g => [Cl tP [vl ta tk tT, vi rr.2]]) := by
 refine FTi Tryz.func18 fun w0 M0 F0 => Fb 8 1 fun _ => Fo 1 fun ho2 => ?_
 refine KS ?_
 refine Oq Va (KS ?_)
 refine Oa (AsV sl22 sz22 [vi 3, vi 1, vi 4, vi 2, vi 6, vi 0, vi 8] [vi 3, vi 1, vi 4, vi 2, vi 6, vi 0, vi 8]) fun c3 => ?_
 refine Jo 0 ?_; rintro a4 k5 rfl
 refine Oq Vm ?_
 refine letv (tp_Next tT tI 7) fun rv6 hg7 => ?_
 have hc8 := fn7 tP ta tk tT tI 7 pre pre rv6 hg7
 refine Oc [1, 1] ca7 hc8 ?_
 rintro - ⟨he9, he10, he11⟩
 unfold i64ok at he9
 refine Jl [1] (Ent.crInt _ [3, 1, 4, 2, 6, 0, 8] _ _ rfl rfl (by intro x hx; simp only [List.mem_cons, List.not_mem_nil, or_false] at hx; rcases hx with rfl | rfl | rfl | rfl | rfl | rfl | rfl <;> (unfold i64ok; omega)) aB1) ?_
 refine Oq (Vi sl22 0) (Oq (VldI sh3 0) (Oq Va (KS ?_)))
 have hq := q4 hrr (([3, 1, 4, 2, 6, 0, 8].getD rv6.1.toNat 0), rv6.2) (by simp only [tp_Width, hg7, cs4]); subst hq
 exact Kr () rfl (.tmp rfl .nil) [1] ⟨(by rw [← hrr]; exact width_ok _ _), en, (by rw [← hrr]; exact width_rng _ _)⟩
theorem fn52 (s : GSet) (sa1 : Option Addr) (sk1 : Nat) (b : Int) (hs_0 : i64ok s.Width) (hb_0 : i64ok b) (hb0 : 0 ≤ b ∧ b < s.Width) (hw0 : s.Width ≤ 1000000) (rr : GSet) (hrr : r1_Put s b = rr) : FT Tryz.prog 52 #[.agg #[vi s.Width, vl sa1 sk1 s.Words], vi b] [S sa1 sk1 s.Words] (fun g : Value => i64ok rr.Width ∧ (rr.Width = s.Width) ∧ (rr.Words.length = ((s.Width + 63) / 64).toNat)) (fun g => .agg #[vi rr.Width, g]) (fun g => [os g rr.Words]) := by
 refine FTi Tryz.func52 fun w0 M0 F0 => ?_
 unfold i64ok at hs_0 hb_0
 refine Fb 8 0 fun _ => KS ?_
 refine Oa (Ab [vi s.Width, vl sa1 sk1 s.Words]) fun p2 => Oa (Al ze53 [vi 0, .slice none 0 0]) fun p3 => KS ?_
 refine Oq (Vfa fo53_0 1) (Oq (VldF sh3 1) ?_)
 refine letv (r1_Empty s.Width) fun rv5 hg6 => ?_
 have hc7 := fn20 s.Width pre pre rv5 hg6
 refine Oc [] ca20 hc7 ?_
 rintro c4 ⟨he8, he9, he10⟩
 unfold i64ok at he8
 refine Jo 0 ?_; rintro a11 k12 rfl
 refine Fb 8 0 fun _ => ?_
 refine Oa (Al ze53 [vi 0, .slice none 0 0]) fun p14 => Ost (Scl [0] sh53 [vi rv5.Width, vl a11 k12 rv5.Words]) (KS ?_)
 refine Oq (Vfa fo53_1 0) (Oq (VldF sh51 0) (Oq (Vfa fo53_1 3) (Oq (VldF sh51 3) (Oa (OpA.frame [1, 3] rfl (OpA.copyS (α := BitVec 64) rfl rfl rfl sl51 rfl)) fun u15 => ?_))))
 have hn16 : (s.Words.take rv5.Words.length ++ rv5.Words.drop s.Words.length).length = rv5.Words.length := len_copy _ _
 refine KS ?_
 refine Oq (Vfa fo53_1 1) (Oq (VldF sh51 1) (Oq Vm (Oq Vquo (Oq (Vi sl51 0) (Oq (VldU sh95 0) (Oq Vm (Oq Vrem (Oq (VcU un3 un84) (Oq (VshlU (a := 1#64)) ?_)))))))))
 refine Oq VorU (Oq (Vi sl51 0) (Ost (SoU [0] sh95) (KS ?_)))
 refine Oq (VldA sh53 1) (Ost (Scl [2] sh53 [vi rv5.Width, vl a11 k12 rv5.Words]) (KS ?_))
 have hq := q4 hrr (GSet.mk rv5.Width ((s.Words.take rv5.Words.length ++ rv5.Words.drop s.Words.length).set ((b / 64) : Int).toNat (((s.Words.take rv5.Words.length ++ rv5.Words.drop s.Words.length).getD ((b / 64) : Int).toNat 0#64) ||| (1#64 <<< (((BitVec.ofInt 64 (b % 64)).toNat : Int)).toNat)))) (by simp only [r1_Put, hg6, cs4]); subst hq
 exact Kr (vl a11 k12 rv5.Words) rfl (.cellN 0 rfl sh53 rfl (reads_Cl _ _) rfl .nil) [1] en
theorem fn21 (tP : Value) (ta : Option Addr) (tk : Nat) (tT : List Int) (tI : Int) (width : Int) (htI : 0 ≤ tI ∧ tI ≤ (tT.length : Int)) (hwidth_0 : i64ok width) (hw0 : 0 ≤ width ∧ width ≤ 1000) (rr : GSet × Int) (hrr : tp_Set tT tI width = rr) : FT Tryz.prog 21 #[tP, vi width] [Cl tP [vl ta tk tT, vi tI], S ta tk tT] (fun g : Value => i64ok rr.1.Width ∧ (0 ≤ rr.2 ∧ rr.2 ≤ (tT.length : Int)) ∧ (rr.1.Width = width) ∧ (rr.1.Words.length = (((width : Int) + 63) / 64).toNat)) (fun g => .agg #[vi rr.1.Width, g]) (fun g => [os g rr.1.Words, Cl tP [vl ta tk tT, vi rr.2]]) := by
 refine FTi Tryz.func21 fun w0 M0 F0 => ?_
 unfold i64ok at hwidth_0
 refine Fb 8 1 fun _ => Fo 1 fun ho2 => KS ?_
 refine Oa (Al ze53 [vi 0, .slice none 0 0]) fun p3 => KS ?_
 refine Oq Vm ?_
 refine letv (r1_Empty width) fun rv5 hg6 => ?_
 have hc7 := fn20 width pre pre rv5 hg6
 refine Oc [] ca20 hc7 ?_
 rintro c4 ⟨he8, he9, he10⟩
 unfold i64ok at he8
 refine Jo 0 ?_; rintro a11 k12 rfl
 refine Fb 8 0 fun _ => ?_
 refine Oa (Al ze53 [vi 0, .slice none 0 0]) fun p14 => Ost (Scl [0] sh53 [vi rv5.Width, vl a11 k12 rv5.Words]) (KS ?_)
 refine Oq Va (KS ?_)
 refine Kl (γ := Nat × Int × Int × List (BitVec 64) × Int × Option Addr × Nat) (fun (r15, ti_16, s0_17, s1_18, b_19, a20, k21) => ⟨[(0, tP), (1, vi width), (4, p3), (5, p14), (6, vi b_19)], [O a20 k21 s1_18, Cl p14 [vi s0_17, vl a20 k21 s1_18], Cl p3 [vi 0, .slice none 0 0], Cl tP [vl ta tk tT, vi ti_16], S ta tk tT], tp_Set_L0 tT r15 ti_16 s0_17 s1_18 b_19 = tp_Set_L0 tT (((width : Int) - 0).toNat) tI rv5.Width rv5.Words 0 ∧ r15 = ((width : Int) - b_19).toNat ∧ (0 : Int) ≤ b_19 ∧ (b_19 ≤ width ∨ b_19 = 0) ∧ (-9223372036854775808 ≤ ti_16 ∧ ti_16 ≤ 9223372036854775807) ∧ (0 ≤ ti_16 ∧ ti_16 ≤ (tT.length : Int)) ∧ (-9223372036854775808 ≤ s0_17 ∧ s0_17 ≤ 9223372036854775807) ∧ (-9223372036854775808 ≤ b_19 ∧ b_19 ≤ 9223372036854775807) ∧ s0_17 = width ∧ s1_18.length = (((width : Int) + 63) / 64).toNat, r15⟩) (((width : Int) - 0).toNat, tI, rv5.Width, rv5.Words, 0, a11, k12) [1, 0, 0, 0, 0] ⟨rfl, rfl, aM1, (.inr rfl), aM1, aM1, aM1, aM1, iv0, iv0⟩ ?_
 rintro ⟨r15, ti_16, s0_17, s1_18, b_19, a20, k21⟩ ⟨hM22, hr23, hi24, hi25, hk26, ht27, hk28, hk29, hv30, hv31⟩
 refine JJ_nx fun _ _ hL hA => ?_; dsimp only at hL hA; subst hL hA
 refine Fb 8 0 fun _ => Fb 8 4 fun _ => Fo 4 fun ho34 => KS ?_
 refine Oq Vm (Oq Vm (Oq Vlss (KS ?_)))
 refine Kc ?_ ?_
 ·intro h35
  have g36 := dt h35
  obtain ⟨r37, rfl⟩ := scc (n := r15) aM1
  refine KS ?_
  refine Oq Vm ?_
  refine letv (tp_Next tT ti_16 3) fun rv38 hg39 => ?_
  have hc40 := fn7 tP ta tk tT ti_16 3 pre pre rv38 hg39
  refine Oc [3, 3] ca7 hc40 ?_
  rintro - ⟨he41, he42, he43⟩
  unfold i64ok at he41
  refine Oq Veql (KS ?_)
  refine Kc ?_ ?_
  ·intro h44
   have g45 := eq_of_beq h44
   refine KS ?_
   refine Oq (VldA sh53 2) (Oq Vm ?_)
   refine letv (r1_Put (GSet.mk s0_17 s1_18) b_19) fun rv47 hg48 => ?_
   refine Oc [1] ca52 (FT_borrow (A := _) hlx (FT_ent (Ent.take (is := [0]) rfl) (fn52 ((GSet.mk s0_17 s1_18)) a20 k21 b_19 pre pre pre pre rv47 hg48))) ?_ (ht := rfl)
   rintro c46 ⟨he49, he50, he51⟩
   unfold i64ok at he49
   have he50 : (rv47.Width = s0_17) := he50
   have he51 : (rv47.Words.length = ((s0_17 + 63) / 64).toNat) := he51
   refine Jo 1 ?_; rintro a52 k53 rfl
   refine Fb 8 1 fun _ => ?_
   refine Ost (Scl [3] sh53 [vi rv47.Width, vl a52 k53 rv47.Words]) (KS ?_)
   refine Oq Vm (Oq Vadd (Oq Va (KS ?_)))
   exact Kg (r37, rv38.2, rv47.Width, rv47.Words, (b_19 + 1), a52, k53) [2, 0, 2, 1, 1] ⟨(q3 hM22 (by simp only [tp_Set_L0, h35, h44, hg39, hg48, cs4])), aM1, aM1, aM1, aM1, aM1, aM1, aM1, iv1, iv1⟩
  intro h44
  have g55 := ne_of_beq_false h44
  refine KS ?_
  refine Oq Vm (Oq Vadd (Oq Va (KS ?_)))
  exact Kg (r37, rv38.2, s0_17, s1_18, (b_19 + 1), a20, k21) [1, 1, 1, 0, 0] ⟨(q3 hM22 (by simp only [tp_Set_L0, h35, h44, hg39, cs4])), aM1, aM1, aM1, aM1, aM1, aM1, aM1, iv1, iv1⟩
 intro h35
 have g56 := df h35
 obtain rfl : r15 = 0 := by omega
 refine Ke ?_
 have hR57 := q2 hM22 (ti_16, s0_17, s1_18) (by simp only [tp_Set_L0, h35, cs4])
 refine KS ?_
 refine Oq (VldA sh53 1) (Ost (Scl [2] sh53 [vi s0_17, vl a20 k21 s1_18]) (KS ?_))
 have hq := q4 hrr ((GSet.mk s0_17 s1_18), ti_16) (by simp only [tp_Set, h35, hg6, hR57, cs4]); subst hq
 exact Kr (vl a20 k21 s1_18) rfl (.cellN 0 rfl sh53 rfl (reads_Cl _ _) rfl .nil) [1, 2] en
theorem fn22 (tP : Value) (ta : Option Addr) (tk : Nat) (tT : List Int) (tI : Int) (width : Int) (htI : 0 ≤ tI ∧ tI ≤ (tT.length : Int)) (hwidth_0 : i64ok width) (hw0 : 0 ≤ width ∧ width ≤ 1000) (rr : GTransfer × Int) (hrr : tp_Transfer tT tI width = rr) : FT Tryz.prog 22 #[tP, vi width] [Cl tP [vl ta tk tT, vi tI], S ta tk tT] (fun g : Value × Value × Value => i64ok rr.1.Gen.Width ∧ i64ok rr.1.Kill.Width ∧ (0 ≤ rr.2 ∧ rr.2 ≤ (tT.length : Int)) ∧ (rr.1.Gen.Width = width) ∧ (rr.1.Kill.Width = width) ∧ (rr.1.Copies.length ≤ 12)) (fun g => .agg #[vi rr.1.Gen.Width, g.1, vi rr.1.Kill.Width, g.2.1, g.2.2]) (fun g => [sl g.1 rr.1.Gen.Words, sl g.2.1 rr.1.Kill.Words, sl g.2.2 rr.1.Copies, Cl tP [vl ta tk tT, vi rr.2]]) := by
 refine FTi Tryz.func22 fun w0 M0 F0 => ?_
 unfold i64ok at hwidth_0
 refine Fb 8 1 fun _ => Fo 1 fun ho2 => KS ?_
 refine Oa (Al ze57 [vi 0, .slice none 0 0, vi 0, .slice none 0 0, .slice none 0 0]) fun p3 => KS ?_
 refine Oq Vm ?_
 refine letv (r1_Empty width) fun rv5 hg6 => ?_
 have hc7 := fn20 width pre pre rv5 hg6
 refine Oc [] ca20 hc7 ?_
 rintro c4 ⟨he8, he9, he10⟩
 unfold i64ok at he8
 refine Jo 0 ?_; rintro a11 k12 rfl
 refine Fb 8 0 fun _ => Oq Vm ?_
 have hc15 := fn20 width pre pre rv5 hg6
 refine Oc [] ca20 hc15 ?_
 rintro c14 ⟨he16, he17, he18⟩
 unfold i64ok at he16
 refine Jo 0 ?_; rintro a19 k20 rfl
 refine Oq (Vbd st57 [vi rv5.Width, vl a11 k12 rv5.Words, vi rv5.Width, vl a19 k20 rv5.Words, .slice none 0 0]) (Oa (Al ze57 [vi 0, .slice none 0 0, vi 0, .slice none 0 0, .slice none 0 0]) fun p21 => Ost (Scl [0] sh57 [vi rv5.Width, vl a11 k12 rv5.Words, vi rv5.Width, vl a19 k20 rv5.Words, .slice none 0 0]) (KS ?_))
 refine Oq Va (KS ?_)
 refine Kl (γ := Nat × Int × Int × List (BitVec 64) × Int × List (BitVec 64) × Int × Option Addr × Nat × Option Addr × Nat) (fun (r22, ti_23, f0_24, f1_25, f2_26, f3_27, b_28, a29, k30, a31, k32) => ⟨[(0, tP), (1, vi width), (4, p3), (5, p21), (6, vi b_28)], [O a31 k32 f3_27, O a29 k30 f1_25, Cl p21 [vi f0_24, vl a29 k30 f1_25, vi f2_26, vl a31 k32 f3_27, .slice none 0 0], Cl p3 [vi 0, .slice none 0 0, vi 0, .slice none 0 0, .slice none 0 0], Cl tP [vl ta tk tT, vi ti_23], S ta tk tT], tp_Transfer_L0 tT r22 ti_23 f0_24 f1_25 f2_26 f3_27 b_28 = tp_Transfer_L0 tT (((width : Int) - 0).toNat) tI rv5.Width rv5.Words rv5.Width rv5.Words 0 ∧ r22 = ((width : Int) - b_28).toNat ∧ (0 : Int) ≤ b_28 ∧ (b_28 ≤ width ∨ b_28 = 0) ∧ (-9223372036854775808 ≤ ti_23 ∧ ti_23 ≤ 9223372036854775807) ∧ (0 ≤ ti_23 ∧ ti_23 ≤ (tT.length : Int)) ∧ (-9223372036854775808 ≤ f0_24 ∧ f0_24 ≤ 9223372036854775807) ∧ (-9223372036854775808 ≤ f2_26 ∧ f2_26 ≤ 9223372036854775807) ∧ (-9223372036854775808 ≤ b_28 ∧ b_28 ≤ 9223372036854775807) ∧ f0_24 = width ∧ f1_25.length = (((width : Int) + 63) / 64).toNat ∧ f2_26 = width ∧ f3_27.length = (((width : Int) + 63) / 64).toNat, r22⟩) (((width : Int) - 0).toNat, tI, rv5.Width, rv5.Words, rv5.Width, rv5.Words, 0, a11, k12, a19, k20) [1, 1, 0, 0, 0, 0] ⟨rfl, rfl, aM1, (.inr rfl), aM1, aM1, aM1, aM1, aM1, iv0, iv0, iv0, iv0⟩ ?_
 rintro ⟨r22, ti_23, f0_24, f1_25, f2_26, f3_27, b_28, a29, k30, a31, k32⟩ ⟨hM33, hr34, hi35, hi36, hk37, ht38, hk39, hk40, hk41, hv42, hv43, hv44, hv45⟩
 refine JJ_nx fun _ _ hL hA => ?_; dsimp only at hL hA; subst hL hA
 refine Fb 8 0 fun _ => Fb 8 1 fun _ => Fb 8 5 fun _ => Fo 5 fun ho49 => KS ?_
 refine Oq Vm (Oq Vm (Oq Vlss (KS ?_)))
 refine Kc ?_ ?_
 ·intro h50
  have g51 := dt h50
  obtain ⟨r52, rfl⟩ := scc (n := r22) aM1
  refine KS ?_
  refine Oq Vm ?_
  refine letv (tp_Next tT ti_23 6) fun rv53 hg54 => ?_
  have hc55 := fn7 tP ta tk tT ti_23 6 pre pre rv53 hg54
  refine Oc [4, 4] ca7 hc55 ?_
  rintro - ⟨he56, he57, he58⟩
  unfold i64ok at he56
  refine KS ?_
  refine Oq Veql (Oq Va (KS ?_))
  refine Kc ?_ ?_
  ·intro h59
   have g60 := eq_of_beq h59
   refine KS ?_
   refine Oq (Vfa fo57_0 3) (Oq (VldG sh53 3 [vi f0_24, vl a29 k30 f1_25]) (Oq Vm ?_))
   refine letv (r1_Put (GSet.mk f0_24 f1_25) b_28) fun rv62 hg63 => ?_
   refine Oc [2] ca52 (FT_borrow (A := _) hlx (FT_ent (Ent.take (is := [0]) rfl) (fn52 ((GSet.mk f0_24 f1_25)) a29 k30 b_28 pre pre pre pre rv62 hg63))) ?_ (ht := rfl)
   rintro c61 ⟨he64, he65, he66⟩
   unfold i64ok at he64
   have he65 : (rv62.Width = f0_24) := he65
   have he66 : (rv62.Words.length = ((f0_24 + 63) / 64).toNat) := he66
   refine Jo 1 ?_; rintro a67 k68 rfl
   refine Fb 8 1 fun _ => ?_
   refine Oq (Vfa fo57_0 4) (Ost (SclF [4] sh53 [vi rv62.Width, vl a67 k68 rv62.Words, vi f2_26, vl a31 k32 f3_27, .slice none 0 0]) (KS ?_))
   refine Oq Vm (Oq Vadd (Oq Va (KS ?_)))
   exact Kg (r52, rv53.2, rv62.Width, rv62.Words, f2_26, f3_27, (b_28 + 1), a67, k68, a31, k32) [4, 2, 0, 2, 1, 1] ⟨(q3 hM33 (by simp only [tp_Transfer_L0, h50, h59, hg54, hg63, cs4])), aM1, aM1, aM1, aM1, aM1, aM1, aM1, aM1, iv1, iv1, iv1, iv1⟩
  intro h59
  have g70 := ne_of_beq_false h59
  refine KS ?_
  refine Oq Veql (Oq Va (KS ?_))
  refine Kc ?_ ?_
  ·intro h71
   have g72 := eq_of_beq h71
   refine KS ?_
   refine Kc ?_ ?_
   ·intro h73
    have g74 := eq_of_beq h73
    refine KS ?_
    refine Oq (Vfa fo57_1 3) (Oq (VldG sh53 3 [vi f2_26, vl a31 k32 f3_27]) (Oq Vm ?_))
    refine letv (r1_Put (GSet.mk f2_26 f3_27) b_28) fun rv76 hg77 => ?_
    refine Oc [1] ca52 (FT_borrow (A := _) hlx (FT_ent (Ent.take (is := [0]) rfl) (fn52 ((GSet.mk f2_26 f3_27)) a31 k32 b_28 pre pre pre pre rv76 hg77))) ?_ (ht := rfl)
    rintro c75 ⟨he78, he79, he80⟩
    unfold i64ok at he78
    have he79 : (rv76.Width = f2_26) := he79
    have he80 : (rv76.Words.length = ((f2_26 + 63) / 64).toNat) := he80
    refine Jo 1 ?_; rintro a81 k82 rfl
    refine Fb 8 1 fun _ => ?_
    refine Oq (Vfa fo57_1 4) (Ost (SclF [4] sh53 [vi f0_24, vl a29 k30 f1_25, vi rv76.Width, vl a81 k82 rv76.Words, .slice none 0 0]) (KS ?_))
    refine Oq Vm (Oq Vadd (Oq Va (KS ?_)))
    exact Kg (r52, rv53.2, f0_24, f1_25, rv76.Width, rv76.Words, (b_28 + 1), a29, k30, a81, k82) [2, 3, 0, 2, 1, 1] ⟨(q3 hM33 (by simp only [tp_Transfer_L0, h50, h59, h71, h73, hg54, hg77, cs4])), aM1, aM1, aM1, aM1, aM1, aM1, aM1, aM1, iv1, iv1, iv1, iv1⟩
   intro h73
   exact absurd h73 (by first | (simp [h71]; done) | (simp only [bne, h71]; decide) | (simp only [bne, h71, Bool.not_true, Bool.not_false]; decide) | (exfalso; omega) | (intro hq; simp only [bne, hq, Bool.not_false, Bool.not_true, reduceCtorEq] at h71))
  intro h71
  have g84 := ne_of_beq_false h71
  refine KS ?_
  refine Oq Veql (Oq Va (KS ?_))
  refine Kc ?_ ?_
  ·intro h85
   have g86 := eq_of_beq h85
   refine KS ?_
   refine Oq (Vfa fo57_1 3) (Oq (VldG sh53 3 [vi f2_26, vl a31 k32 f3_27]) (Oq Vm ?_))
   refine letv (r1_Put (GSet.mk f2_26 f3_27) b_28) fun rv88 hg89 => ?_
   refine Oc [1] ca52 (FT_borrow (A := _) hlx (FT_ent (Ent.take (is := [0]) rfl) (fn52 ((GSet.mk f2_26 f3_27)) a31 k32 b_28 pre pre pre pre rv88 hg89))) ?_ (ht := rfl)
   rintro c87 ⟨he90, he91, he92⟩
   unfold i64ok at he90
   have he91 : (rv88.Width = f2_26) := he91
   have he92 : (rv88.Words.length = ((f2_26 + 63) / 64).toNat) := he92
   refine Jo 1 ?_; rintro a93 k94 rfl
   refine Fb 8 1 fun _ => ?_
   refine Oq (Vfa fo57_1 4) (Ost (SclF [4] sh53 [vi f0_24, vl a29 k30 f1_25, vi rv88.Width, vl a93 k94 rv88.Words, .slice none 0 0]) (KS ?_))
   refine Oq Vm (Oq Vadd (Oq Va (KS ?_)))
   exact Kg (r52, rv53.2, f0_24, f1_25, rv88.Width, rv88.Words, (b_28 + 1), a29, k30, a93, k94) [2, 3, 0, 2, 1, 1] ⟨(q3 hM33 (by simp only [tp_Transfer_L0, h50, h59, h71, h85, hg54, hg89, cs4])), aM1, aM1, aM1, aM1, aM1, aM1, aM1, aM1, iv1, iv1, iv1, iv1⟩
  intro h85
  have g96 := ne_of_beq_false h85
  refine KS ?_
  refine Oq Vm (Oq Vadd (Oq Va (KS ?_)))
  exact Kg (r52, rv53.2, f0_24, f1_25, f2_26, f3_27, (b_28 + 1), a29, k30, a31, k32) [1, 1, 1, 1, 0, 0] ⟨(q3 hM33 (by simp only [tp_Transfer_L0, h50, h59, h71, h85, hg54, cs4])), aM1, aM1, aM1, aM1, aM1, aM1, aM1, aM1, iv1, iv1, iv1, iv1⟩
 intro h50
 have g97 := df h50
 obtain rfl : r22 = 0 := by omega
 refine Ke ?_
 have hR98 := q2 hM33 (ti_23, f0_24, f1_25, f2_26, f3_27) (by simp only [tp_Transfer_L0, h50, cs4])
 refine KS ?_
 refine Oq Va (KS ?_)
 refine Jl [] (Ent.osNil (α := GCopy)) ?_
 refine Kl (γ := Nat × Int × List GCopy × Int × Option Addr × Nat) (fun (r99, ti_100, f4_101, a_102, a103, k104) => ⟨[(0, tP), (1, vi width), (4, p3), (5, p21), (7, vi a_102)], [O a103 k104 f4_101, O a31 k32 f3_27, O a29 k30 f1_25, Cl p21 [vi f0_24, vl a29 k30 f1_25, vi f2_26, vl a31 k32 f3_27, vl a103 k104 f4_101], Cl p3 [vi 0, .slice none 0 0, vi 0, .slice none 0 0, .slice none 0 0], Cl tP [vl ta tk tT, vi ti_100], S ta tk tT], tp_Transfer_L1 tT width r99 ti_100 f4_101 a_102 = tp_Transfer_L1 tT width (((width : Int) - 0).toNat) ti_23 [] 0 ∧ r99 = ((width : Int) - a_102).toNat ∧ (0 : Int) ≤ a_102 ∧ (a_102 ≤ width ∨ a_102 = 0) ∧ (-9223372036854775808 ≤ ti_100 ∧ ti_100 ≤ 9223372036854775807) ∧ (0 ≤ ti_100 ∧ ti_100 ≤ (tT.length : Int)) ∧ (-9223372036854775808 ≤ a_102 ∧ a_102 ≤ 9223372036854775807) ∧ f4_101.length ≤ 12, r99⟩) (((width : Int) - 0).toNat, ti_23, [], 0, none, 0) [0, 0, 0, 0, 0, 0, 0] ⟨rfl, rfl, aM1, (.inr rfl), aM1, aM1, aM1, iv0⟩ ?_
 rintro ⟨r99, ti_100, f4_101, a_102, a103, k104⟩ ⟨hM105, hr106, hi107, hi108, hk109, ht110, hk111, hv112⟩
 refine JJ_nx fun _ _ hL hA => ?_; dsimp only at hL hA; subst hL hA
 refine Fb 16 0 fun _ => Fb 8 1 fun _ => Fb 8 2 fun _ => Fb 8 6 fun _ => Fo 6 fun ho117 => KS ?_
 refine Oq Vm (Oq Vm (Oq Vlss (KS ?_)))
 refine Kc ?_ ?_
 ·intro h118
  have g119 := dt h118
  obtain ⟨r120, rfl⟩ := scc (n := r99) aM1
  refine KS ?_
  refine Oq Va (KS ?_)
  refine Kl (γ := Nat × Int × List GCopy × Int × Option Addr × Nat) (fun (r121, ti_122, f4_123, b_124, a125, k126) => ⟨[(0, tP), (1, vi width), (4, p3), (5, p21), (7, vi a_102), (8, vi b_124)], [O a125 k126 f4_123, O a31 k32 f3_27, O a29 k30 f1_25, Cl p21 [vi f0_24, vl a29 k30 f1_25, vi f2_26, vl a31 k32 f3_27, vl a125 k126 f4_123], Cl p3 [vi 0, .slice none 0 0, vi 0, .slice none 0 0, .slice none 0 0], Cl tP [vl ta tk tT, vi ti_122], S ta tk tT], tp_Transfer_L2 tT width a_102 r121 ti_122 f4_123 b_124 = tp_Transfer_L2 tT width a_102 (((width : Int) - 0).toNat) ti_100 f4_101 0 ∧ r121 = ((width : Int) - b_124).toNat ∧ (0 : Int) ≤ b_124 ∧ (b_124 ≤ width ∨ b_124 = 0) ∧ (-9223372036854775808 ≤ ti_122 ∧ ti_122 ≤ 9223372036854775807) ∧ (0 ≤ ti_122 ∧ ti_122 ≤ (tT.length : Int)) ∧ (-9223372036854775808 ≤ b_124 ∧ b_124 ≤ 9223372036854775807) ∧ f4_123.length ≤ 12, r121⟩) (((width : Int) - 0).toNat, ti_100, f4_101, 0, a103, k104) [0, 0, 0, 0, 0, 0, 0] ⟨rfl, rfl, aM1, (.inr rfl), aM1, aM1, aM1, iv0⟩ ?_
  rintro ⟨r121, ti_122, f4_123, b_124, a125, k126⟩ ⟨hM127, hr128, hi129, hi130, hk131, ht132, hk133, hv134⟩
  refine JJ_nx fun _ _ hL hA => ?_; dsimp only at hL hA; subst hL hA
  refine Fb 16 0 fun _ => Fb 8 1 fun _ => Fb 8 2 fun _ => Fb 8 6 fun _ => Fo 6 fun ho139 => KS ?_
  refine Oq Vm (Oq Vm (Oq Vlss (Oq Vm ?_)))
  refine Js 44 ?_ ?_
  ·intro h140
   have g141 := dt h140
   obtain ⟨r142, rfl⟩ := scc (n := r121) aM1
   refine Oq (Vfa fo57_2 3) (Oq (VldF sh55 3) (Oq (Vlen sl55) (Oq Vlss (Oq Vpt (KS ?_)))))
   refine Kc ?_ ?_
   ·intro h143
    have g144 := dt h143
    refine KS ?_
    refine Oq Vm (Oq Vm (Oq Vmul ?_))
    refine letv (tp_Next tT ti_122 (2 * width)) fun rv145 hg146 => ?_
    have hc147 := fn7 tP ta tk tT ti_122 ((2 * width)) pre pre rv145 hg146
    refine Oc [5, 5] ca7 hc147 ?_
    rintro - ⟨he148, he149, he150⟩
    unfold i64ok at he148
    refine Oq Veql (KS ?_)
    refine Kc ?_ ?_
    ·intro h151
     have g152 := eq_of_beq h151
     refine KS ?_
     refine Oq (Vfa fo57_2 4) (Oq (VldF sh55 4) (Oq Vm (Oq Vm (Oq (Vbd st74 [vi a_102, vi b_124]) (Oa (AsV sl55 sz55 [.agg #[vi a_102, vi b_124]] [vi a_102, vi b_124]) fun c153 => ?_)))))
     refine Jo 0 ?_; rintro a154 k155 rfl
     refine Jl [0] (Ent.cr1 (α := GCopy) (A := []) _ (GCopy.mk a_102 b_124) _ aB1 (fun h => ⟨rfl, aL1, aL1⟩)) ?_
     refine Oa (ApO [2, 0] sl55 sl55 sz55) fun c156 => ?_
     refine Jo 0 ?_; rintro a157 k158 rfl
     refine Fb 16 0 fun _ => ?_
     have hn160 := la f4_123 ([(GCopy.mk a_102 b_124)] : List GCopy)
     refine Oq (Vfa fo57_2 4) (Ost (SclF [4] sh55 [vi f0_24, vl a29 k30 f1_25, vi f2_26, vl a31 k32 f3_27, vl a157 k158 (f4_123 ++ [(GCopy.mk a_102 b_124)])]) (KS ?_))
     refine Oq Vm (Oq Vadd (Oq Va (KS ?_)))
     exact Kg (r142, rv145.2, (f4_123 ++ [(GCopy.mk a_102 b_124)]), (b_124 + 1), a157, k158) [1, 2, 2, 0, 1, 0, 0] ⟨(q3 hM127 (by simp only [tp_Transfer_L2, h140, h143, h151, hg146, cs4])), aM1, aM1, aM1, aM1, aM1, aM1, iv1⟩
    intro h151
    have g161 := ne_of_beq_false h151
    refine KS ?_
    refine Oq Vm (Oq Vadd (Oq Va (KS ?_)))
    exact Kg (r142, rv145.2, f4_123, (b_124 + 1), a125, k126) [1, 1, 1, 1, 1, 0, 0] ⟨(q3 hM127 (by simp only [tp_Transfer_L2, h140, h143, h151, hg146, cs4])), aM1, aM1, aM1, aM1, aM1, aM1, iv1⟩
   intro h143
   have g162 := df h143
   refine Ke ?_
   have hR163 := q2 hM127 (ti_122, f4_123) (by simp only [tp_Transfer_L2, h140, h143, cs4])
   refine KS ?_
   refine Oq Vm (Oq Vadd (Oq Va (KS ?_)))
   exact Kg (r120, ti_122, f4_123, (a_102 + 1), a125, k126) [0, 0, 0, 0, 0, 0, 0] ⟨(q3 hM105 (by simp only [tp_Transfer_L1, h118, h140, h143, hR163, cs4])), aM1, aM1, aM1, aM1, aM1, aM1, iv1⟩
  intro h140
  have g164 := df h140
  obtain rfl : r121 = 0 := by omega
  refine Osk (Osk (Osk (Osk (Oq Vpf (KS ?_)))))
  refine Kf ?_
  refine Ke ?_
  have hR165 := q2 hM127 (ti_122, f4_123) (by simp only [tp_Transfer_L2, h140, cs4])
  refine KS ?_
  refine Oq Vm (Oq Vadd (Oq Va (KS ?_)))
  exact Kg (r120, ti_122, f4_123, (a_102 + 1), a125, k126) [0, 0, 0, 0, 0, 0, 0] ⟨(q3 hM105 (by simp only [tp_Transfer_L1, h118, h140, hR165, cs4])), aM1, aM1, aM1, aM1, aM1, aM1, iv1⟩
 intro h118
 have g166 := df h118
 obtain rfl : r99 = 0 := by omega
 refine Ke ?_
 have hR167 := q2 hM105 (ti_100, f4_101) (by simp only [tp_Transfer_L1, h118, cs4])
 refine KS ?_
 refine Oq (VldA sh57 3) (Ost (Scl [4] sh57 [vi f0_24, vl a29 k30 f1_25, vi f2_26, vl a31 k32 f3_27, vl a103 k104 f4_101]) (KS ?_))
 refine Jl [3] (Ent.freeze _ _) ?_
 refine Jl [3] (Ent.freeze _ _) ?_
 refine Jl [3] (Ent.freeze _ _) ?_
 have hq := q4 hrr ((GTransfer.mk (GSet.mk f0_24 f1_25) (GSet.mk f2_26 f3_27) f4_101), ti_100) (by simp only [tp_Transfer, h50, h118, hg6, hR98, hR167, cs4]); subst hq
 exact Kr (vl a29 k30 f1_25, vl a31 k32 f3_27, vl a103 k104 f4_101) rfl (.cellN 3 rfl sh57 rfl (reads_Cl _ _) rfl .nil) [2, 1, 0, 5] en
theorem fn5 (tP : Value) (ta : Option Addr) (tk : Nat) (tT : List Int) (tI : Int) (n : Int) (htI : 0 ≤ tI ∧ tI ≤ (tT.length : Int)) (hn_0 : i64ok n) (hn0 : 0 ≤ n ∧ n ≤ 1000) (rr : GSystem × Int) (hrr : tp_System tT tI n = rr) : FT Tryz.prog 5 #[tP, vi n] [Cl tP [vl ta tk tT, vi tI], S ta tk tT] (fun g : Value × Value × Value => i64ok rr.1.Width ∧ (0 ≤ rr.2 ∧ rr.2 ≤ (tT.length : Int)) ∧ (rr.1.Deps.length ≤ 1001)) (fun g => .agg #[vi rr.1.Width, g.1, g.2.1, g.2.2]) (fun g => [sl g.1 rr.1.Deps, sl g.2.1 rr.1.Transfers, sl g.2.2 rr.1.Boundary, Cl tP [vl ta tk tT, vi rr.2]]) := by
 refine FTi Tryz.func5 fun w0 M0 F0 => ?_
 unfold i64ok at hn_0
 refine Fb 8 1 fun _ => Fo 1 fun ho2 => KS ?_
 refine Oa (Al ze27 [vi 0, .slice none 0 0, .slice none 0 0, .slice none 0 0]) fun p3 => KS ?_
 refine Oq Vm ?_
 refine letv (tp_Width tT tI) fun rv4 hg5 => ?_
 have hc6 := fn18 tP ta tk tT tI pre rv4 hg5
 refine Oc [1, 1] ca18 hc6 ?_
 rintro - ⟨he7, he8, he9⟩
 unfold i64ok at he7
 refine Oq Vrem (Oq (Vbd st27 [vi (rv4.1 % 5), .slice none 0 0, .slice none 0 0, .slice none 0 0]) (Oa (Al ze27 [vi 0, .slice none 0 0, .slice none 0 0, .slice none 0 0]) fun p10 => Ost (Scl [0] sh27 [vi (rv4.1 % 5), .slice none 0 0, .slice none 0 0, .slice none 0 0]) (KS ?_)))
 refine Oq Vm (Oq Vm ?_)
 refine letv (tp_Next tT rv4.2 n) fun rv11 hg12 => ?_
 have hc13 := fn7 tP ta tk tT rv4.2 n pre pre rv11 hg12
 refine Oc [1, 2] ca7 hc13 ?_
 rintro - ⟨he14, he15, he16⟩
 unfold i64ok at he14
 refine Oq Vadd (Oq Va (KS ?_))
 refine Oq Va (KS ?_)
 refine Jl [] (Ent.osNil (α := (List Int))) ?_
 refine Jl [] (Ent.osNil (α := GTransfer)) ?_
 refine Jl [] (Ent.osNil (α := GSet)) ?_
 refine Kl (γ := Nat × Int × List (List Int) × List GTransfer × List GSet × Int × Option Addr × Nat × Option Addr × Nat × Option Addr × Nat) (fun (r17, ti_18, s1_19, s2_20, s3_21, i_22, a23, k24, a25, k26, a27, k28) => ⟨[(0, tP), (4, p3), (5, p10), (1, vi (1 + rv11.1)), (6, vi i_22)], [O a27 k28 s3_21, O a25 k26 s2_20, O a23 k24 s1_19, Cl tP [vl ta tk tT, vi ti_18], Cl p10 [vi (rv4.1 % 5), vl a23 k24 s1_19, vl a25 k26 s2_20, vl a27 k28 s3_21], Cl p3 [vi 0, .slice none 0 0, .slice none 0 0, .slice none 0 0], S ta tk tT], tp_System_L0 tT (1 + rv11.1) (rv4.1 % 5) r17 ti_18 s1_19 s2_20 s3_21 i_22 = tp_System_L0 tT (1 + rv11.1) (rv4.1 % 5) ((((1 + rv11.1) : Int) - 0).toNat) rv11.2 [] [] [] 0 ∧ r17 = (((1 + rv11.1) : Int) - i_22).toNat ∧ (0 : Int) ≤ i_22 ∧ i_22 ≤ (1 + rv11.1) ∧ (-9223372036854775808 ≤ ti_18 ∧ ti_18 ≤ 9223372036854775807) ∧ (0 ≤ ti_18 ∧ ti_18 ≤ (tT.length : Int)) ∧ (-9223372036854775808 ≤ i_22 ∧ i_22 ≤ 9223372036854775807) ∧ (s1_19.length : Int) = i_22 ∧ (s2_20.length : Int) = i_22 ∧ (s3_21.length : Int) = i_22, r17⟩) ((((1 + rv11.1) : Int) - 0).toNat, rv11.2, [], [], [], 0, none, 0, none, 0, none, 0) [0, 0, 0, 0, 0, 0, 0] ⟨rfl, rfl, aM1, aM1, aM1, aM1, aM1, iv0, iv0, iv0⟩ ?_
 rintro ⟨r17, ti_18, s1_19, s2_20, s3_21, i_22, a23, k24, a25, k26, a27, k28⟩ ⟨hM29, hr30, hi31, hi32, hk33, ht34, hk35, hv36, hv37, hv38⟩
 refine JJ_nx fun _ _ hL hA => ?_; dsimp only at hL hA; subst hL hA
 refine Fb 32 0 fun _ => Fb 88 1 fun _ => Fb 24 2 fun _ => Fb 8 6 fun _ => Fo 6 fun ho43 => KS ?_
 refine Oq Vm (Oq Vm (Oq Vlss (KS ?_)))
 refine Kc ?_ ?_
 ·intro h44
  have g45 := dt h44
  obtain ⟨r46, rfl⟩ := scc (n := r17) aM1
  refine KS ?_
  refine Oq Va (KS ?_)
  refine Oq Vm ?_
  refine letv (tp_Next tT ti_18 4) fun rv47 hg48 => ?_
  have hc49 := fn7 tP ta tk tT ti_18 4 pre pre rv47 hg48
  refine Oc [3, 5] ca7 hc49 ?_
  rintro - ⟨he50, he51, he52⟩
  unfold i64ok at he50
  refine Oq Va (KS ?_)
  refine Jl [] (Ent.slNil (α := Int)) ?_
  refine Kl (γ := Nat × Int × List Int × Int × Option Addr × Nat) (fun (r53, ti_54, d_55, k_56, a57, k58) => ⟨[(0, tP), (4, p3), (5, p10), (1, vi (1 + rv11.1)), (6, vi i_22), (7, vl a57 k58 d_55), (8, vi k_56)], [S a57 k58 d_55, Cl tP [vl ta tk tT, vi ti_54], O a27 k28 s3_21, O a25 k26 s2_20, O a23 k24 s1_19, Cl p10 [vi (rv4.1 % 5), vl a23 k24 s1_19, vl a25 k26 s2_20, vl a27 k28 s3_21], Cl p3 [vi 0, .slice none 0 0, .slice none 0 0, .slice none 0 0], S ta tk tT], tp_System_L1 tT (1 + rv11.1) r53 ti_54 d_55 k_56 = tp_System_L1 tT (1 + rv11.1) (rv47.1.toNat) rv47.2 [] rv47.1 ∧ r53 = k_56.toNat ∧ k_56 ≤ (rv47.1 : Int) ∧ (-9223372036854775808 ≤ ti_54 ∧ ti_54 ≤ 9223372036854775807) ∧ (0 ≤ ti_54 ∧ ti_54 ≤ (tT.length : Int)) ∧ (-9223372036854775808 ≤ k_56 ∧ k_56 ≤ 9223372036854775807) ∧ (d_55.length : Int) + k_56 ≤ 4, r53⟩) (rv47.1.toNat, rv47.2, [], rv47.1, none, 0) [0, 1, 1, 1, 1, 1, 1, 1] ⟨rfl, rfl, aM1, aM1, aM1, aM1, iv0⟩ ?_
  rintro ⟨r53, ti_54, d_55, k_56, a57, k58⟩ ⟨hM59, hr60, hi61, hk62, ht63, hk64, hv65⟩
  refine JJ_nx fun _ _ hL hA => ?_; dsimp only at hL hA; subst hL hA
  refine Fb 8 0 fun _ => Fo 0 fun ho67 => Fb 32 2 fun _ => Fb 88 3 fun _ => Fb 24 4 fun _ => Fb 8 7 fun _ => Fo 7 fun ho72 => KS ?_
  refine Oq Vm (Oq Vgtr (KS ?_))
  refine Kc ?_ ?_
  ·intro h73
   have g74 := dt h73
   obtain ⟨r75, rfl⟩ := scc (n := r53) aM1
   refine KS ?_
   refine Oq Vm (Oq Vm (Oq Vm ?_))
   refine letv (tp_Next tT ti_54 (1 + rv11.1)) fun rv76 hg77 => ?_
   have hc78 := fn7 tP ta tk tT ti_54 ((1 + rv11.1)) pre pre rv76 hg77
   refine Oc [1, 6] ca7 hc78 ?_
   rintro - ⟨he79, he80, he81⟩
   unfold i64ok at he79
   refine letv (r7_Insert d_55 rv76.1) fun rv83 hg84 => ?_
   have hc85 := fn19 d_55 a57 k58 rv76.1 pre pre rv83 hg84
   refine Oc [1] ca19 hc85 ?_
   rintro c82 he86
   refine Jo 0 ?_; rintro a87 k88 rfl
   refine Fb 8 0 fun _ => Fo 0 fun ho90 => ?_
   refine Oq Va (KS ?_)
   refine Oq Vm (Oq Vsub (Oq Va (KS ?_)))
   exact Kg (r75, rv76.2, rv83, (k_56 - 1), a87, k88) [0, 1, 2, 2, 2, 2, 2, 2] ⟨(q3 hM59 (by simp only [tp_System_L1, h73, hg77, hg84, cs4])), aM1, aM1, aM1, aM1, aM1, iv1⟩
  intro h73
  have g91 := df h73
  obtain rfl : r53 = 0 := by omega
  refine Ke ?_
  have hR92 := q2 hM59 (ti_54, d_55) (by simp only [tp_System_L1, h73, cs4])
  refine KS ?_
  refine Oq (Vfa fo27_0 5) (Oq (VldF sh3 5) ?_)
  refine letv (r1_Empty (rv4.1 % 5)) fun rv94 hg95 => ?_
  have hc96 := fn20 ((rv4.1 % 5)) pre pre rv94 hg95
  refine Oc [] ca20 hc96 ?_
  rintro c93 ⟨he97, he98, he99⟩
  unfold i64ok at he97
  refine Jo 0 ?_; rintro a100 k101 rfl
  refine Fb 8 0 fun _ => ?_
  refine Oa (Al ze53 [vi 0, .slice none 0 0]) fun p103 => Ost (Scl [0] sh53 [vi rv94.Width, vl a100 k101 rv94.Words]) (KS ?_)
  refine Oq Vm ?_
  refine letv (tp_Next tT ti_54 3) fun rv104 hg105 => ?_
  have hc106 := fn7 tP ta tk tT ti_54 3 pre pre rv104 hg105
  refine Oc [3, 8] ca7 hc106 ?_
  rintro - ⟨he107, he108, he109⟩
  unfold i64ok at he107
  refine Oq Veql (KS ?_)
  refine Kc ?_ ?_
  ·intro h110
   have g111 := eq_of_beq h110
   refine KS ?_
   refine Oq Vm (Oq (Vfa fo27_0 7) (Oq (VldF sh3 7) ?_))
   refine letv (tp_Set tT rv104.2 (rv4.1 % 5)) fun rv113 hg114 => ?_
   have hc115 := fn21 tP ta tk tT rv104.2 ((rv4.1 % 5)) pre pre pre rv113 hg114
   refine Oc [0, 8] ca21 hc115 ?_
   rintro c112 ⟨he116, he117, he118, he119⟩
   unfold i64ok at he116
   refine Jo 0 ?_; rintro a120 k121 rfl
   refine Fb 8 0 fun _ => ?_
   refine Ost (Scl [2] sh53 [vi rv113.1.Width, vl a120 k121 rv113.1.Words]) (KS ?_)
   refine Jp 8 fun hp123 => ?_
   refine JK_drawK [0, 1, 0, 4, 15, 0, 32, 0, 128, 511, 0, 1024, 0, 0, 8192, 29695, 62463, 131071, 27775, 524287, 1048575, 2097151, 4194303, 8388607] fmix ?_
   refine Dv [0] (Vfa fo27_1 0) (Dv [9] (VldF sh23 0) (Dv [] Vm (Dx [] [] [0] (fun G => (G.g 3 0)) [fun G => Cr (G.g 3 0) 1 [vl a57 k58 d_55]] (fun G => xA (AsV sl23 sz23 [vl a57 k58 d_55] [vl a57 k58 d_55])) ?_)))
   have hn126 := la s1_19 ([d_55] : List (List Int))
   refine Dx [5, 8, 12] [8, 12] [1, 0] (fun G => (G.g 4 0)) [fun G => os (G.g 4 0) ((s1_19 ++ [d_55]) : List (List Int))] (fun G => xp [2, 0] rfl (Ent.cr1 (α := List Int) (A := [S a57 k58 d_55]) _ d_55 _ aB1 (fun h => ⟨_, rfl, sepAll_get (i := 0) rfl h⟩)) (xA (ApO [3, 0] sl23 sl23 sz23))) (Dv [0] (Vfa fo27_3 0) (Dv [9] (VldF sh25 0) (Dv [1] (VldA sh53 0) (Dx [] [] [0] (fun G => (G.g 8 0)) [fun G => Cr (G.g 8 0) 1 [vi rv113.1.Width, vl a120 k121 rv113.1.Words]] (fun G => xA (AsV sl25 sz25 [.agg #[vi rv113.1.Width, vl a120 k121 rv113.1.Words]] [vi rv113.1.Width, vl a120 k121 rv113.1.Words])) ?_))))
   have hn129 := la s3_21 ([rv113.1] : List GSet)
   refine Dx [2, 6, 14] [2, 6, 14] [1, 0] (fun G => (G.g 9 0)) [fun G => S a120 k121 rv113.1.Words, fun G => os (G.g 9 0) ((s3_21 ++ [rv113.1]) : List GSet)] (fun G => xp [0] rfl (Ent.freeze _ _) (xp [2, 0] rfl (Ent.cr1 (α := GSet) (A := [S a120 k121 rv113.1.Words]) _ rv113.1 _ aB1 (fun h => ⟨_, rfl, aL1, sepAll_get (i := 0) rfl h⟩)) (xA (ApO [3, 0] sl25 sl25 sz25)))) (Dv [0] (Vfa fo27_2 0) (Dv [9] (VldF sh24 0) (Dv [] Vm (Dv [0] (Vfa fo27_0 0) (Dv [9] (VldF sh3 0) ?_)))))
   refine letv (tp_Transfer tT rv113.2 (rv4.1 % 5)) fun rv133 hg134 => ?_
   refine Dx [3, 11] [3] [5, 0, 1, 2, 3, 4] (fun G => .agg #[vi rv133.1.Gen.Width, (G.g 15 0), vi rv133.1.Kill.Width, (G.g 15 1), (G.g 15 2)]) [fun G => SP.fact (i64ok rv133.1.Gen.Width ∧ i64ok rv133.1.Kill.Width ∧ (0 ≤ rv133.2 ∧ rv133.2 ≤ (tT.length : Int)) ∧ (rv133.1.Gen.Width = (rv4.1 % 5)) ∧ (rv133.1.Kill.Width = (rv4.1 % 5)) ∧ (rv133.1.Copies.length ≤ 12)), fun G => sl (G.g 15 0) rv133.1.Gen.Words, fun G => sl (G.g 15 1) rv133.1.Kill.Words, fun G => sl (G.g 15 2) rv133.1.Copies, fun G => Cl tP [vl ta tk tT, vi rv133.2]] (fun G => xC [0, 0] ca22 (fn22 tP ta tk tT rv113.2 ((rv4.1 % 5)) pre pre pre rv133 hg134)) (Dx [] [] [0] (fun G => (G.g 16 0)) [fun G => Cr (G.g 16 0) 1 [vi rv133.1.Gen.Width, (G.g 15 0), vi rv133.1.Kill.Width, (G.g 15 1), (G.g 15 2)]] (fun G => xA (AsV sl24 sz24 [.agg #[vi rv133.1.Gen.Width, (G.g 15 0), vi rv133.1.Kill.Width, (G.g 15 1), (G.g 15 2)]] [vi rv133.1.Gen.Width, (G.g 15 0), vi rv133.1.Kill.Width, (G.g 15 1), (G.g 15 2)])) ?_)
   have hn137 := la s2_20 ([rv133.1] : List GTransfer)
   refine Dx [7, 17, 18, 19, 20, 22] [7, 22] [4, 1, 2, 3, 0] (fun G => (G.g 17 0)) [fun G => os (G.g 17 0) ((s2_20 ++ [rv133.1]) : List GTransfer)] (fun G => by refine xf 1 rfl ?_; rintro ⟨he138, he139, he140, he141, he142, he143⟩; unfold i64ok at he138 he139; exact xp [5, 2, 3, 4] rfl (Ent.cr1 (α := GTransfer) (A := [sl (G.g 15 0) rv133.1.Gen.Words, sl (G.g 15 1) rv133.1.Kill.Words, sl (G.g 15 2) rv133.1.Copies]) _ rv133.1 _ aB1 (fun h => ⟨_, _, _, rfl, aL1, sepAll_get (i := 0) rfl h, aL1, sepAll_get (i := 1) rfl h, sepAll_get (i := 2) rfl h⟩)) (xA (ApO [4, 0] sl24 sl24 sz24))) (Dv [0] (Vfa fo27_1 0) (Dx0 [9, 13] [9] [1, 0] [fun G => Cl p10 [vi (rv4.1 % 5), (G.g 4 0), vl a25 k26 s2_20, vl a27 k28 s3_21]] (fun G => x1 1 rfl os_one fun ho144 => (xS (OpS.frame [0] rfl (OpS.storeClF [(G.g 4 0)] [vi (rv4.1 % 5), (G.g 4 0), vl a25 k26 s2_20, vl a27 k28 s3_21] rfl rfl rfl sh23 (cells_of_one ho144) rfl (by simp only [List.all_cons, List.all_nil, ho144, Bool.and_true, Bool.true_and] <;> rfl) aB1 rfl)))) (Dv [0] (Vfa fo27_3 0) (Dx0 [16, 24] [24] [1, 0] [fun G => Cl p10 [vi (rv4.1 % 5), (G.g 4 0), vl a25 k26 s2_20, (G.g 9 0)]] (fun G => x1 0 rfl os_one fun ho145 => (xS (OpS.frame [1] rfl (OpS.storeClF [(G.g 9 0)] [vi (rv4.1 % 5), (G.g 4 0), vl a25 k26 s2_20, (G.g 9 0)] rfl rfl rfl sh25 (cells_of_one ho145) rfl (by simp only [List.all_cons, List.all_nil, ho145, Bool.and_true, Bool.true_and] <;> rfl) aB1 rfl)))) (Dv [0] (Vfa fo27_2 0) (Dx0 [23, 25] [25] [1, 0] [fun G => Cl p10 [vi (rv4.1 % 5), (G.g 4 0), (G.g 17 0), (G.g 9 0)]] (fun G => x1 0 rfl os_one fun ho146 => (xS (OpS.frame [1] rfl (OpS.storeClF [(G.g 17 0)] [vi (rv4.1 % 5), (G.g 4 0), (G.g 17 0), (G.g 9 0)] rfl rfl rfl sh24 (cells_of_one ho146) rfl (by simp only [List.all_cons, List.all_nil, ho146, Bool.and_true, Bool.true_and] <;> rfl) aB1 rfl)))) ?_))))))
   refine Dn ⟨by kernel_rfl, fun G => ?_⟩
   refine Jw2 [(0, tP), (4, p3), (5, p10), (1, vi (1 + rv11.1)), (6, vi i_22)] [0, 1, 4, 5, 10, 11] [os (G.g 4 0) ((s1_19 ++ [d_55]) : List (List Int)), S a120 k121 rv113.1.Words, os (G.g 9 0) ((s3_21 ++ [rv113.1]) : List GSet), SP.fact (i64ok rv133.1.Gen.Width ∧ i64ok rv133.1.Kill.Width ∧ (0 ≤ rv133.2 ∧ rv133.2 ≤ (tT.length : Int)) ∧ (rv133.1.Gen.Width = (rv4.1 % 5)) ∧ (rv133.1.Kill.Width = (rv4.1 % 5)) ∧ (rv133.1.Copies.length ≤ 12)), sl (G.g 15 0) rv133.1.Gen.Words, sl (G.g 15 1) rv133.1.Kill.Words, sl (G.g 15 2) rv133.1.Copies, Cl tP [vl ta tk tT, vi rv133.2], os (G.g 17 0) ((s2_20 ++ [rv133.1]) : List GTransfer), Cl p10 [vi (rv4.1 % 5), (G.g 4 0), (G.g 17 0), (G.g 9 0)]] ?_
   generalize G.g 4 0 = c125, G.g 9 0 = c128, G.g 15 0 = c130, G.g 15 1 = c131, G.g 15 2 = c132, G.g 17 0 = c136
   refine Jf 9 rfl ?_; rintro ⟨he147, he148, he149, he150, he151, he152⟩
   unfold i64ok at he147 he148
   refine Jk [1, 1, 1, 2, 2, 3, 3, 4, 5, 6, 7, 8, 8, 8] ?_
   refine Jo 5 ?_; rintro a153 k154 rfl
   refine Fb 24 5 fun _ => ?_
   refine Jo 7 ?_; rintro a156 k157 rfl
   refine Fb 32 7 fun _ => ?_
   refine Jo 8 ?_; rintro a159 k160 rfl
   refine Fb 8 8 fun _ => ?_
   refine Jo 9 ?_; rintro a162 k163 rfl
   refine Fb 8 9 fun _ => ?_
   refine Jo 10 ?_; rintro a165 k166 rfl
   refine Fb 16 10 fun _ => ?_
   refine Jo 12 ?_; rintro a168 k169 rfl
   refine Fb 88 12 fun _ => KS ?_
   refine Oq Vm (Oq Vadd (Oq Va (KS ?_)))
   exact Kg (r46, rv133.2, (s1_19 ++ [d_55]), (s2_20 ++ [rv133.1]), (s3_21 ++ [rv113.1]), (i_22 + 1), a153, k154, a168, k169, a156, k157) [7, 11, 5, 9, 9, 3, 3] ⟨(q3 hM29 (by simp only [tp_System_L0, h44, h73, h110, hg48, hR92, hg95, hg105, hg114, hg134, cs4])), aM1, aM1, aM1, aM1, aM1, aM1, iv1, iv1, iv1⟩
  intro h110
  have g171 := ne_of_beq_false h110
  refine KS ?_
  refine Jp 7 fun hp172 => ?_
  refine JK_drawK [0, 1, 0, 4, 15, 0, 32, 0, 128, 511, 0, 1024, 0, 0, 8192, 29695, 62463, 131071, 27775, 524287, 1048575, 2097151, 4194303, 8388607] fmix ?_
  refine Dv [0] (Vfa fo27_1 0) (Dv [8] (VldF sh23 0) (Dv [] Vm (Dx [] [] [0] (fun G => (G.g 3 0)) [fun G => Cr (G.g 3 0) 1 [vl a57 k58 d_55]] (fun G => xA (AsV sl23 sz23 [vl a57 k58 d_55] [vl a57 k58 d_55])) ?_)))
  have hn175 := la s1_19 ([d_55] : List (List Int))
  refine Dx [4, 7, 11] [7, 11] [1, 0] (fun G => (G.g 4 0)) [fun G => os (G.g 4 0) ((s1_19 ++ [d_55]) : List (List Int))] (fun G => xp [2, 0] rfl (Ent.cr1 (α := List Int) (A := [S a57 k58 d_55]) _ d_55 _ aB1 (fun h => ⟨_, rfl, sepAll_get (i := 0) rfl h⟩)) (xA (ApO [3, 0] sl23 sl23 sz23))) (Dv [0] (Vfa fo27_3 0) (Dv [8] (VldF sh25 0) (Dv [2] (VldA sh53 0) (Dx [] [] [0] (fun G => (G.g 8 0)) [fun G => Cr (G.g 8 0) 1 [vi rv94.Width, vl a100 k101 rv94.Words]] (fun G => xA (AsV sl25 sz25 [.agg #[vi rv94.Width, vl a100 k101 rv94.Words]] [vi rv94.Width, vl a100 k101 rv94.Words])) ?_))))
  have hn178 := la s3_21 ([rv94] : List GSet)
  refine Dx [3, 5, 13] [3, 5, 13] [1, 0] (fun G => (G.g 9 0)) [fun G => S a100 k101 rv94.Words, fun G => os (G.g 9 0) ((s3_21 ++ [rv94]) : List GSet)] (fun G => xp [0] rfl (Ent.freeze _ _) (xp [2, 0] rfl (Ent.cr1 (α := GSet) (A := [S a100 k101 rv94.Words]) _ rv94 _ aB1 (fun h => ⟨_, rfl, aL1, sepAll_get (i := 0) rfl h⟩)) (xA (ApO [3, 0] sl25 sl25 sz25)))) (Dv [0] (Vfa fo27_2 0) (Dv [8] (VldF sh24 0) (Dv [] Vm (Dv [0] (Vfa fo27_0 0) (Dv [8] (VldF sh3 0) ?_)))))
  refine letv (tp_Transfer tT rv104.2 (rv4.1 % 5)) fun rv182 hg183 => ?_
  refine Dx [1, 10] [1] [5, 0, 1, 2, 3, 4] (fun G => .agg #[vi rv182.1.Gen.Width, (G.g 15 0), vi rv182.1.Kill.Width, (G.g 15 1), (G.g 15 2)]) [fun G => SP.fact (i64ok rv182.1.Gen.Width ∧ i64ok rv182.1.Kill.Width ∧ (0 ≤ rv182.2 ∧ rv182.2 ≤ (tT.length : Int)) ∧ (rv182.1.Gen.Width = (rv4.1 % 5)) ∧ (rv182.1.Kill.Width = (rv4.1 % 5)) ∧ (rv182.1.Copies.length ≤ 12)), fun G => sl (G.g 15 0) rv182.1.Gen.Words, fun G => sl (G.g 15 1) rv182.1.Kill.Words, fun G => sl (G.g 15 2) rv182.1.Copies, fun G => Cl tP [vl ta tk tT, vi rv182.2]] (fun G => xC [0, 0] ca22 (fn22 tP ta tk tT rv104.2 ((rv4.1 % 5)) pre pre pre rv182 hg183)) (Dx [] [] [0] (fun G => (G.g 16 0)) [fun G => Cr (G.g 16 0) 1 [vi rv182.1.Gen.Width, (G.g 15 0), vi rv182.1.Kill.Width, (G.g 15 1), (G.g 15 2)]] (fun G => xA (AsV sl24 sz24 [.agg #[vi rv182.1.Gen.Width, (G.g 15 0), vi rv182.1.Kill.Width, (G.g 15 1), (G.g 15 2)]] [vi rv182.1.Gen.Width, (G.g 15 0), vi rv182.1.Kill.Width, (G.g 15 1), (G.g 15 2)])) ?_)
  have hn186 := la s2_20 ([rv182.1] : List GTransfer)
  refine Dx [6, 16, 17, 18, 19, 21] [6, 21] [4, 1, 2, 3, 0] (fun G => (G.g 17 0)) [fun G => os (G.g 17 0) ((s2_20 ++ [rv182.1]) : List GTransfer)] (fun G => by refine xf 1 rfl ?_; rintro ⟨he187, he188, he189, he190, he191, he192⟩; unfold i64ok at he187 he188; exact xp [5, 2, 3, 4] rfl (Ent.cr1 (α := GTransfer) (A := [sl (G.g 15 0) rv182.1.Gen.Words, sl (G.g 15 1) rv182.1.Kill.Words, sl (G.g 15 2) rv182.1.Copies]) _ rv182.1 _ aB1 (fun h => ⟨_, _, _, rfl, aL1, sepAll_get (i := 0) rfl h, aL1, sepAll_get (i := 1) rfl h, sepAll_get (i := 2) rfl h⟩)) (xA (ApO [4, 0] sl24 sl24 sz24))) (Dv [0] (Vfa fo27_1 0) (Dx0 [8, 12] [8] [1, 0] [fun G => Cl p10 [vi (rv4.1 % 5), (G.g 4 0), vl a25 k26 s2_20, vl a27 k28 s3_21]] (fun G => x1 1 rfl os_one fun ho193 => (xS (OpS.frame [0] rfl (OpS.storeClF [(G.g 4 0)] [vi (rv4.1 % 5), (G.g 4 0), vl a25 k26 s2_20, vl a27 k28 s3_21] rfl rfl rfl sh23 (cells_of_one ho193) rfl (by simp only [List.all_cons, List.all_nil, ho193, Bool.and_true, Bool.true_and] <;> rfl) aB1 rfl)))) (Dv [0] (Vfa fo27_3 0) (Dx0 [15, 23] [23] [1, 0] [fun G => Cl p10 [vi (rv4.1 % 5), (G.g 4 0), vl a25 k26 s2_20, (G.g 9 0)]] (fun G => x1 0 rfl os_one fun ho194 => (xS (OpS.frame [1] rfl (OpS.storeClF [(G.g 9 0)] [vi (rv4.1 % 5), (G.g 4 0), vl a25 k26 s2_20, (G.g 9 0)] rfl rfl rfl sh25 (cells_of_one ho194) rfl (by simp only [List.all_cons, List.all_nil, ho194, Bool.and_true, Bool.true_and] <;> rfl) aB1 rfl)))) (Dv [0] (Vfa fo27_2 0) (Dx0 [22, 24] [24] [1, 0] [fun G => Cl p10 [vi (rv4.1 % 5), (G.g 4 0), (G.g 17 0), (G.g 9 0)]] (fun G => x1 0 rfl os_one fun ho195 => (xS (OpS.frame [1] rfl (OpS.storeClF [(G.g 17 0)] [vi (rv4.1 % 5), (G.g 4 0), (G.g 17 0), (G.g 9 0)] rfl rfl rfl sh24 (cells_of_one ho195) rfl (by simp only [List.all_cons, List.all_nil, ho195, Bool.and_true, Bool.true_and] <;> rfl) aB1 rfl)))) ?_))))))
  refine Dn ⟨by kernel_rfl, fun G => ?_⟩
  refine Jw2 [(0, tP), (4, p3), (5, p10), (1, vi (1 + rv11.1)), (6, vi i_22)] [0, 2, 4, 9, 10] [os (G.g 4 0) ((s1_19 ++ [d_55]) : List (List Int)), S a100 k101 rv94.Words, os (G.g 9 0) ((s3_21 ++ [rv94]) : List GSet), SP.fact (i64ok rv182.1.Gen.Width ∧ i64ok rv182.1.Kill.Width ∧ (0 ≤ rv182.2 ∧ rv182.2 ≤ (tT.length : Int)) ∧ (rv182.1.Gen.Width = (rv4.1 % 5)) ∧ (rv182.1.Kill.Width = (rv4.1 % 5)) ∧ (rv182.1.Copies.length ≤ 12)), sl (G.g 15 0) rv182.1.Gen.Words, sl (G.g 15 1) rv182.1.Kill.Words, sl (G.g 15 2) rv182.1.Copies, Cl tP [vl ta tk tT, vi rv182.2], os (G.g 17 0) ((s2_20 ++ [rv182.1]) : List GTransfer), Cl p10 [vi (rv4.1 % 5), (G.g 4 0), (G.g 17 0), (G.g 9 0)]] ?_
  generalize G.g 4 0 = c174, G.g 9 0 = c177, G.g 15 0 = c179, G.g 15 1 = c180, G.g 15 2 = c181, G.g 17 0 = c185
  refine Jf 8 rfl ?_; rintro ⟨he196, he197, he198, he199, he200, he201⟩
  unfold i64ok at he196 he197
  refine Jk [1, 1, 2, 2, 3, 3, 4, 5, 6, 7, 8, 8, 8] ?_
  refine Jo 4 ?_; rintro a202 k203 rfl
  refine Fb 24 4 fun _ => ?_
  refine Jo 6 ?_; rintro a205 k206 rfl
  refine Fb 32 6 fun _ => ?_
  refine Jo 7 ?_; rintro a208 k209 rfl
  refine Fb 8 7 fun _ => ?_
  refine Jo 8 ?_; rintro a211 k212 rfl
  refine Fb 8 8 fun _ => ?_
  refine Jo 9 ?_; rintro a214 k215 rfl
  refine Fb 16 9 fun _ => ?_
  refine Jo 11 ?_; rintro a217 k218 rfl
  refine Fb 88 11 fun _ => KS ?_
  refine Oq Vm (Oq Vadd (Oq Va (KS ?_)))
  exact Kg (r46, rv182.2, (s1_19 ++ [d_55]), (s2_20 ++ [rv182.1]), (s3_21 ++ [rv94]), (i_22 + 1), a202, k203, a217, k218, a205, k206) [6, 10, 4, 8, 8, 2, 2] ⟨(q3 hM29 (by simp only [tp_System_L0, h44, h73, h110, hg48, hR92, hg95, hg105, hg183, cs4])), aM1, aM1, aM1, aM1, aM1, aM1, iv1, iv1, iv1⟩
 intro h44
 have g220 := df h44
 obtain rfl : r17 = 0 := by omega
 refine Ke ?_
 have hR221 := q2 hM29 (ti_18, s1_19, s2_20, s3_21) (by simp only [tp_System_L0, h44, cs4])
 refine KS ?_
 refine Oq (VldA sh27 4) (Ost (Scl [5] sh27 [vi (rv4.1 % 5), vl a23 k24 s1_19, vl a25 k26 s2_20, vl a27 k28 s3_21]) (KS ?_))
 refine Jl [3] (Ent.freeze _ _) ?_
 refine Jl [3] (Ent.freeze _ _) ?_
 refine Jl [3] (Ent.freeze _ _) ?_
 have hq := q4 hrr ((GSystem.mk (rv4.1 % 5) s1_19 s2_20 s3_21), ti_18) (by simp only [tp_System, h44, hg5, hg12, hR221, cs4]); subst hq
 exact Kr (vl a23 k24 s1_19, vl a25 k26 s2_20, vl a27 k28 s3_21) rfl (.cellN 3 rfl sh27 rfl (reads_Cl _ _) rfl .nil) [2, 1, 0, 4] en
theorem fn6 (s : GSystem) (sa1 : Option Addr) (sk1 : Nat) (sa2 : Option Addr) (sk2 : Nat) (sa3 : Option Addr) (sk3 : Nat) (root : Int) (leaves : List Int) (leavesa0 : Option Addr) (leavesk0 : Nat) (hs_0 : i64ok s.Width) (hroot_0 : i64ok root) (rr : List Int × Int × Int) (hrr : r14_Cone s root leaves = rr) : FT Tryz.prog 6 #[.agg #[vi s.Width, vl sa1 sk1 s.Deps, vl sa2 sk2 s.Transfers, vl sa3 sk3 s.Boundary], vi root, vl leavesa0 leavesk0 leaves] [S sa1 sk1 s.Deps, S sa2 sk2 s.Transfers, S sa3 sk3 s.Boundary, S leavesa0 leavesk0 leaves] (fun g : Value => i64ok rr.2.1 ∧ i64ok rr.2.2) (fun g => .tuple #[g, vi rr.2.1, vi rr.2.2]) (fun g => [sl g rr.1]) := by
 refine FTi Tryz.func6 fun w0 M0 F0 => ?_
 unfold i64ok at hs_0 hroot_0
 refine Fb 24 0 fun _ => Fb 88 1 fun _ => Fb 32 2 fun _ => Fb 8 3 fun _ => Fo 3 fun ho5 => KS ?_
 refine Oa (Ab [vi s.Width, vl sa1 sk1 s.Deps, vl sa2 sk2 s.Transfers, vl sa3 sk3 s.Boundary]) fun p6 => Oq Va (Oq Va (Oq Va (KS ?_)))
 refine Oq (VldA sh27 0) ?_
 refine letv (r10_Valid s) fun rv7 hg8 => ?_
 have hc9 := fn23 s sa1 sk1 sa2 sk2 sa3 sk3 pre rv7 hg8
 refine Oc [1, 2, 3] ca23 hc9 ?_
 rintro - -
 refine Oq Vnot (KS ?_)
 refine Kc ?_ ?_
 ·intro h10
  have h12 := not_true h10
  refine KS ?_
  refine Oq Va (Oq Va (Oq Va (KS ?_)))
  refine Jl [] (Ent.slNil (α := Int)) ?_
  have hq := q4 hrr (([] : List Int), 0, 1) (by simp only [r14_Cone, h10, h12, hg8, cs4]); subst hq
  exact Kr (.slice none 0 0) rfl (.tmp rfl (.tmp rfl (.tmp rfl .nil))) [0] en
 intro h10
 have h15 := not_false h10
 refine KS ?_
 refine Oq (VldA sh27 0) (Oq Vm (Oa (AsV sl22 sz22 [vi root] [vi root]) fun c17 => ?_))
 refine Jo 0 ?_; rintro a18 k19 rfl
 refine Jl [0] (Ent.crInt _ [root] _ _ rfl rfl (by intro x hx; rw [List.mem_singleton] at hx; subst hx; unfold i64ok; omega) aB1) ?_
 refine letv (r14_inside s [root]) fun rv20 hg21 => ?_
 refine Oc [0, 1, 2, 3] ca24 (FT_borrow (A := _) (fun _ _ h => by cases h) (FT_ent (Ent.take (is := [1, 2, 3, 0]) rfl) (fn24 s sa1 sk1 sa2 sk2 sa3 sk3 ([root]) a18 k19 pre rv20 hg21))) ?_ (ht := rfl)
 rintro - -
 refine Oq Vnot (Oq Vm ?_)
 refine Js 22 ?_ ?_
 ·intro h22
  have h24 := not_true h22
  refine Osk (Osk (Osk (Osk (Oq Vpt (KS ?_)))))
  refine Kt (KS ?_)
  refine Oq Va (Oq Va (Oq Va (KS ?_)))
  refine Jl [] (Ent.slNil (α := Int)) ?_
  have hq := q4 hrr (([] : List Int), 0, 9) (by simp only [r14_Cone, h10, h15, h22, h24, hg8, hg21, cs4]); subst hq
  exact Kr (.slice none 0 0) rfl (.tmp rfl (.tmp rfl (.tmp rfl .nil))) [0] en
 intro h22
 have h27 := not_false h22
 refine Oq (VldA sh27 1) (Oq Vm ?_)
 refine letv (r14_inside s leaves) fun rv29 hg30 => ?_
 have hc31 := fn24 s sa1 sk1 sa2 sk2 sa3 sk3 leaves leavesa0 leavesk0 pre rv29 hg30
 refine Oc [2, 3, 4, 5] ca24 hc31 ?_
 rintro - -
 refine Oq Vnot (Oq Vpf (KS ?_))
 refine Kc ?_ ?_
 ·intro h32
  have h34 := not_true h32
  refine KS ?_
  refine Oq Va (Oq Va (Oq Va (KS ?_)))
  refine Jl [] (Ent.slNil (α := Int)) ?_
  have hq := q4 hrr (([] : List Int), 0, 9) (by simp only [r14_Cone, h10, h15, h22, h27, h32, h34, hg8, hg21, hg30, cs4]); subst hq
  exact Kr (.slice none 0 0) rfl (.tmp rfl (.tmp rfl (.tmp rfl .nil))) [0] en
 intro h32
 have h37 := not_false h32
 refine KS ?_
 refine Oq Vm (Oa (AsV sl22 sz22 [vi root] [vi root]) fun c39 => ?_)
 refine Jo 0 ?_; rintro a40 k41 rfl
 refine Oq Va (KS ?_)
 refine Oq Va (KS ?_)
 refine Oq Va (KS ?_)
 refine Jl [0] (Ent.crInt _ [root] _ _ rfl rfl (by intro x hx; rw [List.mem_singleton] at hx; subst hx; unfold i64ok; omega) aB1) ?_
 refine Fb 8 0 fun _ => Fo 0 fun ho43 => ?_
 have hterm56 : r14_Cone_L0 s leaves (s.Deps.length + 1) [root] 0 0 ≠ LR.oof := (cn_term (by simp only [h10, h15, h22, h27, h32, h37, hg8, hg21, hg30]) (by simp only [h10, h15, h22, h27, h32, h37, hg8, hg21, hg30]))
 refine Kl (γ := Nat × List Int × Int × Int × Option Addr × Nat) (fun (r44, out_45, cost_46, i_47, a48, k49) => ⟨[(2, vl leavesa0 leavesk0 leaves), (3, p6), (9, vl a48 k49 out_45), (10, vi cost_46), (11, vi i_47)], [O a48 k49 out_45, pv p6 [vi s.Width, vl sa1 sk1 s.Deps, vl sa2 sk2 s.Transfers, vl sa3 sk3 s.Boundary], S sa1 sk1 s.Deps, S sa2 sk2 s.Transfers, S sa3 sk3 s.Boundary, S leavesa0 leavesk0 leaves], r14_Cone_L0 s leaves r44 out_45 cost_46 i_47 = r14_Cone_L0 s leaves (s.Deps.length + 1) [root] 0 0 ∧ (-9223372036854775808 ≤ cost_46 ∧ cost_46 ≤ 9223372036854775807) ∧ (-9223372036854775808 ≤ i_47 ∧ i_47 ≤ 9223372036854775807) ∧ okOut (s.Boundary.length : Int) out_45 ∧ 0 ≤ cost_46 ∧ cost_46 ≤ i_47 * 17592186044417 ∧ i_47 ≤ (out_45.length : Int), r44⟩) ((s.Deps.length + 1), [root], 0, 0, a40, k41) [0, 1, 2, 3, 4, 5] ⟨rfl, aM1, aM1, (okOut_one (by simp only [h10, h15, h22, h27, h32, h37, hg8, hg21, hg30])), iv0, iv0⟩ ?_
 rintro ⟨r44, out_45, cost_46, i_47, a48, k49⟩ ⟨hM50, hk51, hk52, hv53, hv54, hv55⟩
 refine JJ_nx fun _ _ hL hA => ?_; dsimp only at hL hA; subst hL hA
 refine Fb 8 0 fun _ => Fo 0 fun ho58 => Fb 24 2 fun _ => Fb 88 3 fun _ => Fb 32 4 fun _ => Fb 8 5 fun _ => Fo 5 fun ho63 => ?_
 rcases r44 with _ | r44
 ·exact absurd (hM50.symm.trans rfl) hterm56
 refine KS ?_
 refine Oq Vm (Oq Vm (Oq (Vlen sl22) (Oq Vlss (KS ?_))))
 refine Kc ?_ ?_
 ·intro h64
  have g65 := dt h64
  have hv0 := Valid_deps (s := s) (by simp only [h10, h15, h22, h27, h32, h37, h64, hg8, hg21, hg30])
  have hq1 := okOut_len ‹okOut (s.Boundary.length : Int) out_45› aM1
  have hq2 := (‹okOut (s.Boundary.length : Int) out_45›).2 _ (getD_mem (xs := out_45) (i := i_47.toNat) (d := 0) aM1)
  refine KS ?_
  refine Oq Vm (Oq Vadd (Oq Va (KS ?_)))
  refine Oq Vm (Oq Vm (Oq Vm (Oq (Vi sl22 0) ?_)))
  have hb66 := ok1 (i := i_47.toNat) ho58 rng
  refine Oq (VldI sh3 0) ?_
  refine letv (r7_Has leaves (out_45.getD i_47.toNat 0)) fun rv67 hg68 => ?_
  have hc69 := fn25 leaves leavesa0 leavesk0 ((out_45.getD i_47.toNat 0)) pre rv67 hg68
  refine Oc [5] ca25 hc69 ?_
  rintro - -
  refine KS ?_
  refine Kc ?_ ?_
  ·intro h70
   refine Ke ?_
   refine KS ?_
   refine Oq Vm (Oq Vadd (Oq Va (KS ?_)))
   exact Kg (r44, out_45, (cost_46 + 1), (i_47 + 1), a48, k49) [0, 0, 1, 2, 3, 4] ⟨(q3 hM50 (by simp only [r14_Cone_L0, h64, h70, hg68, cs4])), aM1, aM1, (by assumption), iv1, iv1⟩
  intro h70
  refine KS ?_
  refine JJ_peekL ((out_45.getD i_47.toNat 0) : Int).toNat 2 rfl rng fun a73 k74 => ?_
  refine Fb 8 1 fun _ => Fo 1 fun ho76 => ?_
  refine Kq [0, 1, 0, 0, 12, 28, 63, 127, 255] fmix ?_
  refine Qv [3] (Vfa fo27_1 0) (Qv [3] (VldF sh23 0) (Qv [] Vm (Qv [] Vm (Qv [2] (Vi sl22 0) ?_))))
  have hb77 := ok1 (i := i_47.toNat) ho58 rng
  refine Qv [2] (VldI sh3 0) (Qv [4] (Vi sl23 0) (Qv [0] (Vld sh22 0) (Qv [] Va ?_)))
  refine Qn ⟨by kernel_rfl, ?_⟩
  refine KS ?_
  refine Oq Vm (Oq Vm (Oq (Vlen sl22) (Oq Vadd (Oq Va (KS ?_)))))
  refine Oq Va (KS ?_)
  refine Kl (γ := Nat × List Int × Int × Option Addr × Nat) (fun (r78, out_79, k_80, a81, k82) => ⟨[(2, vl leavesa0 leavesk0 leaves), (3, p6), (9, vl a81 k82 out_79), (11, vi i_47), (12, vl a73 k74 (s.Deps.getD ((out_45.getD i_47.toNat 0) : Int).toNat [])), (10, vi ((cost_46 + 1) + ((s.Deps.getD ((out_45.getD i_47.toNat 0) : Int).toNat []).length : Int))), (13, vi k_80)], [O a81 k82 out_79, S a73 k74 ((s.Deps.getD ((out_45.getD i_47.toNat 0) : Int).toNat []) : List Int), pv p6 [vi s.Width, vl sa1 sk1 s.Deps, vl sa2 sk2 s.Transfers, vl sa3 sk3 s.Boundary], S sa1 sk1 s.Deps, S sa2 sk2 s.Transfers, S sa3 sk3 s.Boundary, S leavesa0 leavesk0 leaves], r14_Cone_L1 (s.Deps.getD ((out_45.getD i_47.toNat 0) : Int).toNat []) r78 out_79 k_80 = r14_Cone_L1 (s.Deps.getD ((out_45.getD i_47.toNat 0) : Int).toNat []) (((((s.Deps.getD ((out_45.getD i_47.toNat 0) : Int).toNat []).length : Int) : Int) - 0).toNat) out_45 0 ∧ r78 = ((((s.Deps.getD ((out_45.getD i_47.toNat 0) : Int).toNat []).length : Int) : Int) - k_80).toNat ∧ (0 : Int) ≤ k_80 ∧ (k_80 ≤ ((s.Deps.getD ((out_45.getD i_47.toNat 0) : Int).toNat []).length : Int) ∨ k_80 = 0) ∧ (-9223372036854775808 ≤ k_80 ∧ k_80 ≤ 9223372036854775807) ∧ okOut (s.Boundary.length : Int) out_79 ∧ i_47 + 1 ≤ (out_79.length : Int), r78⟩) (((((s.Deps.getD ((out_45.getD i_47.toNat 0) : Int).toNat []).length : Int) : Int) - 0).toNat, out_45, 0, a48, k49) [2, 1, 2, 3, 4, 5, 6] ⟨rfl, rfl, aM1, (.inr rfl), aM1, (by assumption), iv0⟩ ?_
  rintro ⟨r78, out_79, k_80, a81, k82⟩ ⟨hM83, hr84, hi85, hi86, hk87, hv88, hv89⟩
  refine JJ_nx fun _ _ hL hA => ?_; dsimp only at hL hA; subst hL hA
  refine Fb 8 0 fun _ => Fo 0 fun ho91 => Fb 8 1 fun _ => Fo 1 fun ho93 => Fb 24 3 fun _ => Fb 88 4 fun _ => Fb 32 5 fun _ => Fb 8 6 fun _ => ?_
  refine Fo 6 fun ho98 => KS ?_
  refine Oq Vm (Oq Vm (Oq (Vlen sl22) (Oq Vlss (KS ?_))))
  refine Kc ?_ ?_
  ·intro h99
   have g100 := dt h99
   have hq4 := okOut_len ‹okOut (s.Boundary.length : Int) _› aM1
   have hq3 := Valid_dep_mem (s := s) (by simp only [h10, h15, h22, h27, h32, h37, h64, h70, h99, hg8, hg21, hg30, hg68]) (j := ((out_45.getD i_47.toNat 0) : Int)) aM1 aM1 _ (getD_mem (xs := s.Deps.getD ((out_45.getD i_47.toNat 0) : Int).toNat []) (i := k_80.toNat) (d := 0) aM1)
   obtain ⟨r101, rfl⟩ := scc (n := r78) aM1
   refine KS ?_
   refine Oq Vm (Oq Vm (Oq Vm (Oq (Vi sl22 1) ?_)))
   have hb102 := ok1 (i := k_80.toNat) ho93 rng
   refine Oq (VldI sh3 1) ?_
   refine letv (r7_Has out_79 ((s.Deps.getD ((out_45.getD i_47.toNat 0) : Int).toNat []).getD k_80.toNat 0)) fun rv103 hg104 => ?_
   refine Oc [0] ca25 (FT_borrow (A := _) (fun _ _ h => by cases h) (FT_ent (Ent.take (is := [0]) rfl) (fn25 out_79 a81 k82 (((s.Deps.getD ((out_45.getD i_47.toNat 0) : Int).toNat []).getD k_80.toNat 0)) pre rv103 hg104))) ?_ (ht := rfl)
   rintro - -
   refine Oq Vnot (KS ?_)
   refine Kc ?_ ?_
   ·intro h105
    have h107 := not_true h105
    refine KS ?_
    refine Oq Vm (Oq Vm (Oq Vm (Oq (Vi sl22 1) ?_)))
    have hb109 := ok1 (i := k_80.toNat) ho93 rng
    refine Oq (VldI sh3 1) (Oa (AsV sl22 sz22 [vi ((s.Deps.getD ((out_45.getD i_47.toNat 0) : Int).toNat []).getD k_80.toNat 0)] [vi ((s.Deps.getD ((out_45.getD i_47.toNat 0) : Int).toNat []).getD k_80.toNat 0)]) fun c110 => ?_)
    refine Jo 0 ?_; rintro a111 k112 rfl
    refine Jl [0] (Ent.crInt _ [((s.Deps.getD ((out_45.getD i_47.toNat 0) : Int).toNat []).getD k_80.toNat 0)] _ _ rfl rfl (by intro x hx; rw [List.mem_singleton] at hx; subst hx; unfold i64ok; omega) aB1) ?_
    refine Oa (ApO [1, 0] sl22 sl22 sz22) fun c113 => ?_
    refine Jo 0 ?_; rintro a114 k115 rfl
    refine Fb 8 0 fun _ => Fo 0 fun ho117 => ?_
    have hn118 := la out_79 ([((s.Deps.getD ((out_45.getD i_47.toNat 0) : Int).toNat []).getD k_80.toNat 0)] : List Int)
    refine Oq Va (KS ?_)
    refine Oq Vm (Oq Vadd (Oq Va (KS ?_)))
    exact Kg (r101, (out_79 ++ [((s.Deps.getD ((out_45.getD i_47.toNat 0) : Int).toNat []).getD k_80.toNat 0)]), (k_80 + 1), a114, k115) [0, 0, 1, 2, 3, 4, 5] ⟨(q3 hM83 (by simp only [r14_Cone_L1, h99, h105, h107, hg104, cs4])), aM1, aM1, aM1, aM1, (by first | assumption | exact okOut_push (by assumption) (by simp only [h10, h15, h22, h27, h32, h37, h64, h70, h99, h105, h107, hg8, hg21, hg30, hg68, hg104]) aM1 aM1), iv1⟩
   intro h105
   have h120 := not_false h105
   refine KS ?_
   refine Oq Vm (Oq Vadd (Oq Va (KS ?_)))
   exact Kg (r101, out_79, (k_80 + 1), a81, k82) [0, 0, 1, 2, 3, 4, 5] ⟨(q3 hM83 (by simp only [r14_Cone_L1, h99, h105, h120, hg104, cs4])), aM1, aM1, aM1, aM1, (by first | assumption | exact okOut_push (by assumption) (by simp only [h10, h15, h22, h27, h32, h37, h64, h70, h99, h105, h120, hg8, hg21, hg30, hg68, hg104]) aM1 aM1), iv1⟩
  intro h99
  have g122 := df h99
  obtain rfl : r78 = 0 := by omega
  refine Ke ?_
  have hR123 := q2 hM83 out_79 (by simp only [r14_Cone_L1, h99, cs4])
  refine KS ?_
  refine Oq Vm (Oq Vadd (Oq Va (KS ?_)))
  exact Kg (r44, out_79, ((cost_46 + 1) + ((s.Deps.getD ((out_45.getD i_47.toNat 0) : Int).toNat []).length : Int)), (i_47 + 1), a81, k82) [0, 1, 2, 3, 4, 5] ⟨(q3 hM50 (by simp only [r14_Cone_L0, h64, h70, h99, hg68, hR123, cs4])), aM1, aM1, (by assumption), iv1, iv1⟩
 intro h64
 have g124 := df h64
 refine Ke ?_
 have hR125 := q2 hM50 (.brk (out_45, cost_46)) (by simp only [r14_Cone_L0, h64, cs4])
 refine KS ?_
 refine Oq Vm (Oq Vm (Oq Va (Oq Va (Oq Va (KS ?_)))))
 refine Jl [0] (Ent.freeze _ _) ?_
 have hq := q4 hrr (out_45, cost_46, 0) (by simp only [r14_Cone, h10, h15, h22, h27, h32, h37, h64, hg8, hg21, hg30, hR125, cs4]); subst hq
 exact Kr (vl a48 k49 out_45) rfl (.tmp rfl (.tmp rfl (.tmp rfl .nil))) [0] en
theorem fn8 (kP : Value) (ka : Option Addr) (kk : Nat) (kT : List Int) (kI : Int) (n : Int) (hkI : 0 ≤ kI ∧ kI ≤ (kT.length : Int)) (hn_0 : i64ok n) (rr : List Int × Int) (hrr : w14_list kT kI n = rr) : FT Tryz.prog 8 #[kP, vi n] [Cl kP [vl ka kk kT, vi kI], S ka kk kT] (fun g : Value => (0 ≤ rr.2 ∧ rr.2 ≤ (kT.length : Int))) (fun g => g) (fun g => [sl g rr.1, Cl kP [vl ka kk kT, vi rr.2]]) := by
 refine FTi Tryz.func8 fun w0 M0 F0 => ?_
 unfold i64ok at hn_0
 refine Fb 8 1 fun _ => Fo 1 fun ho2 => KS ?_
 refine Oq Va (KS ?_)
 refine Oq Va (KS ?_)
 refine Oq Vm ?_
 refine letv (tp_Next kT kI 4) fun rv3 hg4 => ?_
 have hc5 := fn7 kP ka kk kT kI 4 pre pre rv3 hg4
 refine Oc [0, 0] ca7 hc5 ?_
 rintro - ⟨he6, he7, he8⟩
 unfold i64ok at he6
 refine Oq Va (KS ?_)
 refine Jl [] (Ent.osNil (α := Int)) ?_
 refine Kl (γ := Nat × Int × List Int × Int × Option Addr × Nat) (fun (r9, ti_10, l_11, i_12, a13, k14) => ⟨[(0, kP), (1, vi n), (5, vl a13 k14 l_11), (6, vi i_12)], [O a13 k14 l_11, Cl kP [vl ka kk kT, vi ti_10], S ka kk kT], w14_list_L0 kT n r9 ti_10 l_11 i_12 = w14_list_L0 kT n (rv3.1.toNat) rv3.2 [] rv3.1 ∧ r9 = i_12.toNat ∧ i_12 ≤ (rv3.1 : Int) ∧ (-9223372036854775808 ≤ ti_10 ∧ ti_10 ≤ 9223372036854775807) ∧ (0 ≤ ti_10 ∧ ti_10 ≤ (kT.length : Int)) ∧ (-9223372036854775808 ≤ i_12 ∧ i_12 ≤ 9223372036854775807) ∧ (l_11.length : Int) + i_12 ≤ 4, r9⟩) (rv3.1.toNat, rv3.2, [], rv3.1, none, 0) [0, 0, 0] ⟨rfl, rfl, aM1, aM1, aM1, aM1, iv0⟩ ?_
 rintro ⟨r9, ti_10, l_11, i_12, a13, k14⟩ ⟨hM15, hr16, hi17, hk18, ht19, hk20, hv21⟩
 refine JJ_nx fun _ _ hL hA => ?_; dsimp only at hL hA; subst hL hA
 refine Fb 8 0 fun _ => Fo 0 fun ho23 => Fb 8 2 fun _ => Fo 2 fun ho25 => KS ?_
 refine Oq Vm (Oq Vgtr (KS ?_))
 refine Kc ?_ ?_
 ·intro h26
  have g27 := dt h26
  obtain ⟨r28, rfl⟩ := scc (n := r9) aM1
  refine KS ?_
  refine Oq Vm (Oq Vm (Oq Vm ?_))
  refine letv (tp_Next kT ti_10 n) fun rv29 hg30 => ?_
  have hc31 := fn7 kP ka kk kT ti_10 n pre pre rv29 hg30
  refine Oc [1, 1] ca7 hc31 ?_
  rintro - ⟨he32, he33, he34⟩
  unfold i64ok at he32
  refine Oq Vm ?_
  refine letv (tp_Next kT rv29.2 12) fun rv35 hg36 => ?_
  have hc37 := fn7 kP ka kk kT rv29.2 12 pre pre rv35 hg36
  refine Oc [0, 1] ca7 hc37 ?_
  rintro - ⟨he38, he39, he40⟩
  unfold i64ok at he38
  refine Oq Vquo (Oq Vsub (Oa (AsV sl22 sz22 [vi (rv29.1 - (rv35.1 / 11))] [vi (rv29.1 - (rv35.1 / 11))]) fun c41 => ?_))
  refine Jo 0 ?_; rintro a42 k43 rfl
  refine Jl [0] (Ent.crInt _ [(rv29.1 - (rv35.1 / 11))] _ _ rfl rfl (by intro x hx; rw [List.mem_singleton] at hx; subst hx; unfold i64ok; omega) aB1) ?_
  refine Oa (ApO [2, 0] sl22 sl22 sz22) fun c44 => ?_
  refine Jo 0 ?_; rintro a45 k46 rfl
  refine Fb 8 0 fun _ => Fo 0 fun ho48 => ?_
  have hn49 := la l_11 ([(rv29.1 - (rv35.1 / 11))] : List Int)
  refine Oq Va (KS ?_)
  refine Oq Vm (Oq Vsub (Oq Va (KS ?_)))
  exact Kg (r28, rv35.2, (l_11 ++ [(rv29.1 - (rv35.1 / 11))]), (i_12 - 1), a45, k46) [0, 0, 0] ⟨(q3 hM15 (by simp only [w14_list_L0, h26, hg30, hg36, cs4])), aM1, aM1, aM1, aM1, aM1, iv1⟩
 intro h26
 have g50 := df h26
 obtain rfl : r9 = 0 := by omega
 refine Ke ?_
 have hR51 := q2 hM15 (ti_10, l_11) (by simp only [w14_list_L0, h26, cs4])
 refine KS ?_
 refine Oq Vm (Oq Va (KS ?_))
 refine Jl [0] (Ent.freeze _ _) ?_
 have hq := q4 hrr (l_11, ti_10) (by simp only [w14_list, h26, hg4, hR51, cs4]); subst hq
 exact Kr (vl a13 k14 l_11) rfl (.tmp rfl .nil) [0, 1] en
theorem fn55 (s : GSystem) (sa1 : Option Addr) (sk1 : Nat) (sa2 : Option Addr) (sk2 : Nat) (sa3 : Option Addr) (sk3 : Nat) (hs_0 : i64ok s.Width) (hw0 : 0 ≤ s.Width ∧ s.Width ≤ 1000) (rr : List GSet) (hrr : r10_Empty s = rr) : FT Tryz.prog 55 #[.agg #[vi s.Width, vl sa1 sk1 s.Deps, vl sa2 sk2 s.Transfers, vl sa3 sk3 s.Boundary]] [S sa1 sk1 s.Deps, S sa2 sk2 s.Transfers, S sa3 sk3 s.Boundary] (fun g : Value => (rr.length = s.Boundary.length)) (fun g => g) (fun g => [sl g rr]) := by
 refine FTi Tryz.func55 fun w0 M0 F0 => ?_
 unfold i64ok at hs_0
 refine Fb 24 0 fun _ => Fb 88 1 fun _ => Fb 32 2 fun _ => KS ?_
 refine Oa (Ab [vi s.Width, vl sa1 sk1 s.Deps, vl sa2 sk2 s.Transfers, vl sa3 sk3 s.Boundary]) fun p4 => Oq Va (KS ?_)
 refine Oq Va (KS ?_)
 refine Oq Va (KS ?_)
 refine Jl [] (Ent.osNil (α := GSet)) ?_
 refine Kl (γ := Nat × List GSet × Int × Option Addr × Nat) (fun (r5, out_6, n_7, a8, k9) => ⟨[(1, p4), (3, vl a8 k9 out_6), (4, vi n_7)], [O a8 k9 out_6, pv p4 [vi s.Width, vl sa1 sk1 s.Deps, vl sa2 sk2 s.Transfers, vl sa3 sk3 s.Boundary], S sa1 sk1 s.Deps, S sa2 sk2 s.Transfers, S sa3 sk3 s.Boundary], r10_Empty_L0 s r5 out_6 n_7 = r10_Empty_L0 s (((s.Boundary.length : Int) - 0).toNat) [] 0 ∧ r5 = ((s.Boundary.length : Int) - n_7).toNat ∧ (0 : Int) ≤ n_7 ∧ n_7 ≤ (s.Boundary.length : Int) ∧ (-9223372036854775808 ≤ n_7 ∧ n_7 ≤ 9223372036854775807) ∧ (out_6.length : Int) = n_7, r5⟩) (((s.Boundary.length : Int) - 0).toNat, [], 0, none, 0) [0, 0, 1, 2, 3] ⟨rfl, rfl, aM1, aM1, aM1, iv0⟩ ?_
 rintro ⟨r5, out_6, n_7, a8, k9⟩ ⟨hM10, hr11, hi12, hi13, hk14, hv15⟩
 refine JJ_nx fun _ _ hL hA => ?_; dsimp only at hL hA; subst hL hA
 refine Fb 32 0 fun _ => Fb 24 2 fun _ => Fb 88 3 fun _ => Fb 32 4 fun _ => KS ?_
 refine Oq Vm (Oq (Vfa fo27_3 1) (Oq (VldF sh25 1) (Oq (Vlen sl25) (Oq Vlss (KS ?_)))))
 refine Kc ?_ ?_
 ·intro h20
  have g21 := dt h20
  obtain ⟨r22, rfl⟩ := scc (n := r5) aM1
  refine KS ?_
  refine Oq Vm (Oq (Vfa fo27_0 1) (Oq (VldF sh3 1) ?_))
  refine letv (r1_Empty s.Width) fun rv24 hg25 => ?_
  have hc26 := fn20 s.Width pre pre rv24 hg25
  refine Oc [] ca20 hc26 ?_
  rintro c23 ⟨he27, he28, he29⟩
  unfold i64ok at he27
  refine Jo 0 ?_; rintro a30 k31 rfl
  refine Fb 8 0 fun _ => Oa (AsV sl25 sz25 [.agg #[vi rv24.Width, vl a30 k31 rv24.Words]] [vi rv24.Width, vl a30 k31 rv24.Words]) fun c33 => ?_
  refine Jo 0 ?_; rintro a34 k35 rfl
  refine Jl [1] (Ent.freeze _ _) ?_
  refine Jl [1, 0] (Ent.cr1 (α := GSet) (A := [S a30 k31 rv24.Words]) _ rv24 _ aB1 (fun h => ⟨_, rfl, aL1, sepAll_get (i := 0) rfl h⟩)) ?_
  refine Oa (ApO [3, 0] sl25 sl25 sz25) fun c36 => ?_
  refine Jo 0 ?_; rintro a37 k38 rfl
  refine Fb 32 0 fun _ => ?_
  have hn40 := la out_6 ([rv24] : List GSet)
  refine Oq Va (KS ?_)
  refine Oq Vm (Oq Vadd (Oq Va (KS ?_)))
  exact Kg (r22, (out_6 ++ [rv24]), (n_7 + 1), a37, k38) [0, 2, 3, 4, 5] ⟨(q3 hM10 (by simp only [r10_Empty_L0, h20, hg25, cs4])), aM1, aM1, aM1, aM1, iv1⟩
 intro h20
 have g41 := df h20
 obtain rfl : r5 = 0 := by omega
 refine Ke ?_
 have hR42 := q2 hM10 out_6 (by simp only [r10_Empty_L0, h20, cs4])
 refine KS ?_
 refine Oq Vm (Oq Va (KS ?_))
 refine Jl [0] (Ent.freeze _ _) ?_
 have hq := q4 hrr out_6 (by simp only [r10_Empty, h20, hR42, cs4]); subst hq
 exact Kr (vl a8 k9 out_6) rfl (.tmp rfl .nil) [0] en
theorem fn94 (s : GSystem) (sa1 : Option Addr) (sk1 : Nat) (sa2 : Option Addr) (sk2 : Nat) (sa3 : Option Addr) (sk3 : Nat) (v : List GSet) (va0 : Option Addr) (vk0 : Nat) (hs_0 : i64ok s.Width) (rr : Int) (hrr : r10_values s v = rr) : FT Tryz.prog 94 #[.agg #[vi s.Width, vl sa1 sk1 s.Deps, vl sa2 sk2 s.Transfers, vl sa3 sk3 s.Boundary], vl va0 vk0 v] [S sa1 sk1 s.Deps, S sa2 sk2 s.Transfers, S sa3 sk3 s.Boundary, S va0 vk0 v] (fun g : Unit => i64ok rr) (fun g => vi rr) (fun g => []) := by
 refine FTi Tryz.func94 fun w0 M0 F0 => ?_
 unfold i64ok at hs_0
 refine Fb 24 0 fun _ => Fb 88 1 fun _ => Fb 32 2 fun _ => Fb 32 3 fun _ => KS ?_
 refine Oa (Ab [vi s.Width, vl sa1 sk1 s.Deps, vl sa2 sk2 s.Transfers, vl sa3 sk3 s.Boundary]) fun p5 => Oq Va (KS ?_)
 refine Oq Vm (Oq (Vlen sl25) (Oq (Vfa fo27_3 0) (Oq (VldF sh25 0) (Oq (Vlen sl25) (Oq Vneq (KS ?_))))))
 refine Kc ?_ ?_
 ·intro h6
  have g7 := ne_of_bne h6
  refine KS ?_
  refine Oq Va (KS ?_)
  have hq := q4 hrr 1 (by simp only [r10_values, h6, cs4]); subst hq
  exact Kr () rfl (.tmp rfl .nil) [] en
 intro h6
 have g8 := eq_of_bne_false h6
 refine KS ?_
 refine Oq Va (KS ?_)
 refine Kl (γ := Nat × Int) (fun (r9, i_10) => ⟨[(1, vl va0 vk0 v), (2, p5), (5, vi i_10)], [pv p5 [vi s.Width, vl sa1 sk1 s.Deps, vl sa2 sk2 s.Transfers, vl sa3 sk3 s.Boundary], S sa1 sk1 s.Deps, S sa2 sk2 s.Transfers, S sa3 sk3 s.Boundary, S va0 vk0 v], r10_values_L0 v r9 i_10 = r10_values_L0 v (((v.length : Int) - 0).toNat) 0 ∧ r9 = ((v.length : Int) - i_10).toNat ∧ (0 : Int) ≤ i_10 ∧ i_10 ≤ (v.length : Int) ∧ (-9223372036854775808 ≤ i_10 ∧ i_10 ≤ 9223372036854775807), r9⟩) (((v.length : Int) - 0).toNat, 0) [0, 1, 2, 3, 4] ⟨rfl, rfl, aM1, aM1, aM1⟩ ?_
 rintro ⟨r9, i_10⟩ ⟨hM11, hr12, hi13, hi14, hk15⟩
 refine JJ_nx fun _ _ hL hA => ?_; dsimp only at hL hA; subst hL hA
 refine Fb 24 1 fun _ => Fb 88 2 fun _ => Fb 32 3 fun _ => Fb 32 4 fun _ => KS ?_
 refine Oq Vm (Oq Vm (Oq (Vlen sl25) (Oq Vlss (KS ?_))))
 refine Kc ?_ ?_
 ·intro h20
  have g21 := dt h20
  obtain ⟨r22, rfl⟩ := scc (n := r9) aM1
  refine KS ?_
  refine Oq Vm (Oq Vm (Oq (Vi sl25 4) ?_))
  refine JJ_peek_GSet i_10.toNat 4 rfl rng fun a23 k24 hb25 => ?_
  unfold i64ok at hb25
  refine Fb 8 1 fun _ => Oq (VldA sh53 0) ?_
  refine letv (r1_Valid (v.getD i_10.toNat default)) fun rv27 hg28 => ?_
  have hc29 := fn43 ((v.getD i_10.toNat default)) a23 k24 pre rv27 hg28
  refine Oc [1] ca43 hc29 ?_
  rintro - -
  refine Oq Vnot (KS ?_)
  refine Kc ?_ ?_
  ·intro h30
   have h32 := not_true h30
   refine KS ?_
   refine Oq Va (KS ?_)
   have hR34 := q2 hM11 (.ret 1) (by simp only [r10_values_L0, h20, h30, h32, hg28, cs4])
   have hq := q4 hrr 1 (by simp only [r10_values, h6, h20, h30, h32, hg28, hR34, cs4]); subst hq
   exact Kr () rfl (.tmp rfl .nil) [] en
  intro h30
  have h36 := not_false h30
  refine KS ?_
  refine Oq Vm (Oq Vadd (Oq Va (KS ?_)))
  exact Kg (r22, (i_10 + 1)) [2, 3, 4, 5, 6] ⟨(q3 hM11 (by simp only [r10_values_L0, h20, h30, h36, hg28, cs4])), aM1, aM1, aM1, aM1⟩
 intro h20
 have g38 := df h20
 obtain rfl : r9 = 0 := by omega
 refine Ke ?_
 have hR39 := q2 hM11 (.brk ()) (by simp only [r10_values_L0, h20, cs4])
 refine KS ?_
 refine Oq Va (KS ?_)
 refine Kl (γ := Nat × Int) (fun (r40, i_41) => ⟨[(1, vl va0 vk0 v), (2, p5), (6, vi i_41)], [pv p5 [vi s.Width, vl sa1 sk1 s.Deps, vl sa2 sk2 s.Transfers, vl sa3 sk3 s.Boundary], S sa1 sk1 s.Deps, S sa2 sk2 s.Transfers, S sa3 sk3 s.Boundary, S va0 vk0 v], r10_values_L1 s v r40 i_41 = r10_values_L1 s v (((v.length : Int) - 0).toNat) 0 ∧ r40 = ((v.length : Int) - i_41).toNat ∧ (0 : Int) ≤ i_41 ∧ i_41 ≤ (v.length : Int) ∧ (-9223372036854775808 ≤ i_41 ∧ i_41 ≤ 9223372036854775807), r40⟩) (((v.length : Int) - 0).toNat, 0) [0, 1, 2, 3, 4] ⟨rfl, rfl, aM1, aM1, aM1⟩ ?_
 rintro ⟨r40, i_41⟩ ⟨hM42, hr43, hi44, hi45, hk46⟩
 refine JJ_nx fun _ _ hL hA => ?_; dsimp only at hL hA; subst hL hA
 refine Fb 24 1 fun _ => Fb 88 2 fun _ => Fb 32 3 fun _ => Fb 32 4 fun _ => KS ?_
 refine Oq Vm (Oq Vm (Oq (Vlen sl25) (Oq Vlss (KS ?_))))
 refine Kc ?_ ?_
 ·intro h51
  have g52 := dt h51
  obtain ⟨r53, rfl⟩ := scc (n := r40) aM1
  refine KS ?_
  refine JJ_peek_GSet i_41.toNat 4 rfl rng fun a54 k55 hb56 => ?_
  unfold i64ok at hb56
  refine Fb 8 1 fun _ => ?_
  refine Kq [0, 0, 3, 7, 15, 0, 32, 127] fmix ?_
  refine Qv [] Vm (Qv [] Vm (Qv [6] (Vi sl25 0) (Qv [0] (Vfa fo53_0 0) (Qv [0] (VldF sh3 0) (Qv [2] (Vfa fo27_0 0) (Qv [2] (VldF sh3 0) (Qv [] Vneq ?_)))))))
  refine Qn ⟨by kernel_rfl, ?_⟩
  refine Kc ?_ ?_
  ·intro h58
   have g59 := ne_of_bne h58
   refine KS ?_
   refine Oq Va (KS ?_)
   have hR60 := q2 hM42 (.ret 2) (by simp only [r10_values_L1, h51, h58, cs4])
   have hq := q4 hrr 2 (by simp only [r10_values, h6, h20, h51, h58, hR39, hR60, cs4]); subst hq
   exact Kr () rfl (.tmp rfl .nil) [] en
  intro h58
  have g61 := eq_of_bne_false h58
  refine KS ?_
  refine Oq Vm (Oq Vadd (Oq Va (KS ?_)))
  exact Kg (r53, (i_41 + 1)) [2, 3, 4, 5, 6] ⟨(q3 hM42 (by simp only [r10_values_L1, h51, h58, cs4])), aM1, aM1, aM1, aM1⟩
 intro h51
 have g62 := df h51
 obtain rfl : r40 = 0 := by omega
 refine Ke ?_
 have hR63 := q2 hM42 (.brk ()) (by simp only [r10_values_L1, h51, cs4])
 refine KS ?_
 refine Oq Va (KS ?_)
 have hq := q4 hrr 0 (by simp only [r10_values, h6, h20, h51, hR39, hR63, cs4]); subst hq
 exact Kr () rfl (.tmp rfl .nil) [] en
theorem fn112 (s : GSet) (sa1 : Option Addr) (sk1 : Nat) (b : Int) (hs_0 : i64ok s.Width) (hb_0 : i64ok b) (rr : Bool) (hrr : r1_Has s b = rr) : FT Tryz.prog 112 #[.agg #[vi s.Width, vl sa1 sk1 s.Words], vi b] [S sa1 sk1 s.Words] (fun g : Unit => True) (fun g => vb rr) (fun g => []) := by
 refine FTi Tryz.func112 fun w0 M0 F0 => ?_
 unfold i64ok at hs_0 hb_0
 refine Fb 8 0 fun _ => KS ?_
 refine Oa (Ab [vi s.Width, vl sa1 sk1 s.Words]) fun p2 => Oq Va (KS ?_)
 refine Oq (VldA sh53 0) ?_
 refine letv (r1_Valid s) fun rv3 hg4 => ?_
 have hc5 := fn43 s sa1 sk1 pre rv3 hg4
 refine Oc [1] ca43 hc5 ?_
 rintro - -
 refine Oq Vm ?_
 refine Js 7 ?_ ?_
 ·intro h6
  try have hrg := RV_w (s := s) (by simp only [h6, hg4])
  refine Oq Vm (Oq Vgeq (Oq Vpt (Oq Vm ?_)))
  refine Js 11 ?_ ?_
  ·intro h8
   have g9 := dt h8
   refine Oq Vm (Oq (Vfa fo53_0 0) (Oq (VldF sh3 0) (Oq Vlss (Oq Vpt (Oq Vm ?_)))))
   refine Js 17 ?_ ?_
   ·intro h10
    have g11 := dt h10
    refine Oq (Vfa fo53_1 0) (Oq (VldF sh51 0) (Oq Vm (Oq Vquo (Oq (Vi sl51 1) (Oq (VldU sh95 1) (Oq Vm (Oq Vrem (Oq (VcU un3 un84) (Oq VshrU ?_)))))))))
    refine Oq (VandU (b := 1#64)) (Oq (VeqlU (b := 1#64)) (Oq Vpt (Oq Va (KS ?_))))
    have hq := q4 hrr ((((s.Words.getD ((b / 64) : Int).toNat 0#64) >>> (((BitVec.ofInt 64 (b % 64)).toNat : Int)).toNat) &&& 1#64) == 1#64) (by simp only [r1_Has, h6, h8, h10, hg4, cs4]); subst hq
    exact Kr () rfl (.tmp rfl .nil) [] trivial
   intro h10
   have g12 := df h10
   refine Osk (Osk (Osk (Osk (Osk (Osk (Osk (Osk (Osk (Osk ?_)))))))))
   refine Osk (Osk (Oq Vpf (Oq Va (KS ?_))))
   have hq := q4 hrr false (by simp only [r1_Has, h6, h8, h10, hg4, cs4]); subst hq
   exact Kr () rfl (.tmp rfl .nil) [] trivial
  intro h8
  have g13 := df h8
  refine Osk (Osk (Osk (Osk (Oq Vpf (Oq Vm (Osk (Osk (Osk (Osk ?_)))))))))
  refine Osk (Osk (Osk (Osk (Osk (Osk (Osk (Osk (Oq Vpf (Oq Va ?_)))))))))
  refine KS ?_
  have hq := q4 hrr false (by simp only [r1_Has, h6, h8, hg4, cs4]); subst hq
  exact Kr () rfl (.tmp rfl .nil) [] trivial
 intro h6
 refine Osk (Osk (Oq Vpf (Oq Vm (Osk (Osk (Osk (Osk (Oq Vpf (Oq Vm ?_)))))))))
 refine Osk (Osk (Osk (Osk (Osk (Osk (Osk (Osk (Osk (Osk ?_)))))))))
 refine Osk (Osk (Oq Vpf (Oq Va (KS ?_))))
 have hq := q4 hrr false (by simp only [r1_Has, h6, hg4, cs4]); subst hq
 exact Kr () rfl (.tmp rfl .nil) [] trivial
theorem fn113 (t : GTransfer) (ta1 : Option Addr) (tk1 : Nat) (ta3 : Option Addr) (tk3 : Nat) (ta4 : Option Addr) (tk4 : Nat) (a : Int) (b : Int) (ht_0 : i64ok t.Gen.Width) (ht_2 : i64ok t.Kill.Width) (ha_0 : i64ok a) (hb_0 : i64ok b) (rr : Bool) (hrr : r1_follows t a b = rr) : FT Tryz.prog 113 #[.agg #[vi t.Gen.Width, vl ta1 tk1 t.Gen.Words, vi t.Kill.Width, vl ta3 tk3 t.Kill.Words, vl ta4 tk4 t.Copies], vi a, vi b] [S ta1 tk1 t.Gen.Words, S ta3 tk3 t.Kill.Words, S ta4 tk4 t.Copies] (fun g : Unit => True) (fun g => vb rr) (fun g => []) := by
 refine FTi Tryz.func113 fun w0 M0 F0 => ?_
 unfold i64ok at ht_0 ht_2 ha_0 hb_0
 refine Fb 8 0 fun _ => Fb 8 1 fun _ => Fb 16 2 fun _ => KS ?_
 refine Oa (Ab [vi t.Gen.Width, vl ta1 tk1 t.Gen.Words, vi t.Kill.Width, vl ta3 tk3 t.Kill.Words, vl ta4 tk4 t.Copies]) fun p4 => Oq Va (KS ?_)
 refine Oq Vm (Oq Vm (Oq Veql (Oq Vm ?_)))
 refine Js 11 ?_ ?_
 ·intro h5
  have g6 := eq_of_beq h5
  refine Oq (Vfa fo57_1 0) (Oq (VldG sh53 0 [vi t.Kill.Width, vl ta3 tk3 t.Kill.Words]) (Oq Vm ?_))
  refine letv (r1_Has t.Kill a) fun rv7 hg8 => ?_
  have hc9 := fn112 t.Kill ta3 tk3 a pre pre rv7 hg8
  refine Oc [2] ca112 hc9 ?_
  rintro - -
  refine Oq Vnot (Oq Vpt (KS ?_))
  refine Kc ?_ ?_
  ·intro h10
   have h12 := not_true h10
   refine KS ?_
   refine Oq Va (KS ?_)
   have hq := q4 hrr true (by simp only [r1_follows, h5, h10, h12, hg8, cs4]); subst hq
   exact Kr () rfl (.tmp rfl .nil) [] trivial
  intro h10
  have h15 := not_false h10
  refine KS ?_
  refine Oq Va (KS ?_)
  refine Kl (γ := Nat × Int) (fun (r17, i_18) => ⟨[(1, vi a), (2, vi b), (3, p4), (7, vi i_18)], [pv p4 [vi t.Gen.Width, vl ta1 tk1 t.Gen.Words, vi t.Kill.Width, vl ta3 tk3 t.Kill.Words, vl ta4 tk4 t.Copies], S ta1 tk1 t.Gen.Words, S ta3 tk3 t.Kill.Words, S ta4 tk4 t.Copies], r1_follows_L0 t a b r17 i_18 = r1_follows_L0 t a b (((t.Copies.length : Int) - 0).toNat) 0 ∧ r17 = ((t.Copies.length : Int) - i_18).toNat ∧ (0 : Int) ≤ i_18 ∧ i_18 ≤ (t.Copies.length : Int) ∧ (-9223372036854775808 ≤ i_18 ∧ i_18 ≤ 9223372036854775807), r17⟩) (((t.Copies.length : Int) - 0).toNat, 0) [0, 1, 2, 3] ⟨rfl, rfl, aM1, aM1, aM1⟩ ?_
  rintro ⟨r17, i_18⟩ ⟨hM19, hr20, hi21, hi22, hk23⟩
  refine JJ_nx fun _ _ hL hA => ?_; dsimp only at hL hA; subst hL hA
  refine Fb 8 1 fun _ => Fb 8 2 fun _ => Fb 16 3 fun _ => KS ?_
  refine Oq Vm (Oq (Vfa fo57_2 0) (Oq (VldF sh55 0) (Oq (Vlen sl55) (Oq Vlss (KS ?_)))))
  refine Kc ?_ ?_
  ·intro h27
   have g28 := dt h27
   obtain ⟨r29, rfl⟩ := scc (n := r17) aM1
   refine KS ?_
   refine Oq (Vfa fo57_2 0) (Oq (VldF sh55 0) (Oq Vm (Oq (Vi sl55 3) ?_)))
   refine JJ_peek_GCopy i_18.toNat 3 rfl rng fun hb30 hb31 => ?_
   unfold i64ok at hb30 hb31
   refine Oq (Vfa fo74_0 0) (Oq (VldF sh3 0) (Oq Vm (Oq Veql (Oq Vm ?_))))
   refine Js 33 ?_ ?_
   ·intro h32
    have g33 := eq_of_beq h32
    refine Oq (Vfa fo57_2 1) (Oq (VldF sh55 1) (Oq Vm (Oq (Vi sl55 4) (Oq (Vfa fo74_1 0) (Oq (VldF sh3 0) (Oq Vm (Oq Veql (Oq Vpt (KS ?_)))))))))
    refine Kc ?_ ?_
    ·intro h34
     have g35 := eq_of_beq h34
     refine KS ?_
     refine Oq Va (KS ?_)
     have hR36 := q2 hM19 (.ret true) (by simp only [r1_follows_L0, h27, h32, h34, cs4])
     have hq := q4 hrr true (by simp only [r1_follows, h5, h10, h15, h27, h32, h34, hg8, hR36, cs4]); subst hq
     exact Kr () rfl (.tmp rfl .nil) [] trivial
    intro h34
    have g37 := ne_of_beq_false h34
    refine KS ?_
    refine Oq Vm (Oq Vadd (Oq Va (KS ?_)))
    exact Kg (r29, (i_18 + 1)) [1, 2, 3, 4] ⟨(q3 hM19 (by simp only [r1_follows_L0, h27, h32, h34, cs4])), aM1, aM1, aM1, aM1⟩
   intro h32
   have g38 := ne_of_beq_false h32
   refine Osk (Osk (Osk (Osk (Osk (Osk (Osk (Osk (Oq Vpf (KS ?_)))))))))
   refine Kf (KS ?_)
   refine Oq Vm (Oq Vadd (Oq Va (KS ?_)))
   exact Kg (r29, (i_18 + 1)) [1, 2, 3, 4] ⟨(q3 hM19 (by simp only [r1_follows_L0, h27, h32, cs4])), aM1, aM1, aM1, aM1⟩
  intro h27
  have g39 := df h27
  obtain rfl : r17 = 0 := by omega
  refine Ke ?_
  have hR40 := q2 hM19 (.brk ()) (by simp only [r1_follows_L0, h27, cs4])
  refine KS ?_
  refine Oq Va (KS ?_)
  have hq := q4 hrr false (by simp only [r1_follows, h5, h10, h15, h27, hg8, hR40, cs4]); subst hq
  exact Kr () rfl (.tmp rfl .nil) [] trivial
 intro h5
 have g41 := ne_of_beq_false h5
 refine Osk (Osk (Osk (Osk (Osk (Oq Vpf (KS ?_))))))
 refine Kf (KS ?_)
 refine Oq Va (KS ?_)
 refine Kl (γ := Nat × Int) (fun (r42, i_43) => ⟨[(1, vi a), (2, vi b), (3, p4), (7, vi i_43)], [pv p4 [vi t.Gen.Width, vl ta1 tk1 t.Gen.Words, vi t.Kill.Width, vl ta3 tk3 t.Kill.Words, vl ta4 tk4 t.Copies], S ta1 tk1 t.Gen.Words, S ta3 tk3 t.Kill.Words, S ta4 tk4 t.Copies], r1_follows_L0 t a b r42 i_43 = r1_follows_L0 t a b (((t.Copies.length : Int) - 0).toNat) 0 ∧ r42 = ((t.Copies.length : Int) - i_43).toNat ∧ (0 : Int) ≤ i_43 ∧ i_43 ≤ (t.Copies.length : Int) ∧ (-9223372036854775808 ≤ i_43 ∧ i_43 ≤ 9223372036854775807), r42⟩) (((t.Copies.length : Int) - 0).toNat, 0) [0, 1, 2, 3] ⟨rfl, rfl, aM1, aM1, aM1⟩ ?_
 rintro ⟨r42, i_43⟩ ⟨hM44, hr45, hi46, hi47, hk48⟩
 refine JJ_nx fun _ _ hL hA => ?_; dsimp only at hL hA; subst hL hA
 refine Fb 8 1 fun _ => Fb 8 2 fun _ => Fb 16 3 fun _ => KS ?_
 refine Oq Vm (Oq (Vfa fo57_2 0) (Oq (VldF sh55 0) (Oq (Vlen sl55) (Oq Vlss (KS ?_)))))
 refine Kc ?_ ?_
 ·intro h52
  have g53 := dt h52
  obtain ⟨r54, rfl⟩ := scc (n := r42) aM1
  refine KS ?_
  refine Oq (Vfa fo57_2 0) (Oq (VldF sh55 0) (Oq Vm (Oq (Vi sl55 3) ?_)))
  refine JJ_peek_GCopy i_43.toNat 3 rfl rng fun hb55 hb56 => ?_
  unfold i64ok at hb55 hb56
  refine Oq (Vfa fo74_0 0) (Oq (VldF sh3 0) (Oq Vm (Oq Veql (Oq Vm ?_))))
  refine Js 33 ?_ ?_
  ·intro h57
   have g58 := eq_of_beq h57
   refine Oq (Vfa fo57_2 1) (Oq (VldF sh55 1) (Oq Vm (Oq (Vi sl55 4) (Oq (Vfa fo74_1 0) (Oq (VldF sh3 0) (Oq Vm (Oq Veql (Oq Vpt (KS ?_)))))))))
   refine Kc ?_ ?_
   ·intro h59
    have g60 := eq_of_beq h59
    refine KS ?_
    refine Oq Va (KS ?_)
    have hR61 := q2 hM44 (.ret true) (by simp only [r1_follows_L0, h52, h57, h59, cs4])
    have hq := q4 hrr true (by simp only [r1_follows, h5, h52, h57, h59, hR61, cs4]); subst hq
    exact Kr () rfl (.tmp rfl .nil) [] trivial
   intro h59
   have g62 := ne_of_beq_false h59
   refine KS ?_
   refine Oq Vm (Oq Vadd (Oq Va (KS ?_)))
   exact Kg (r54, (i_43 + 1)) [1, 2, 3, 4] ⟨(q3 hM44 (by simp only [r1_follows_L0, h52, h57, h59, cs4])), aM1, aM1, aM1, aM1⟩
  intro h57
  have g63 := ne_of_beq_false h57
  refine Osk (Osk (Osk (Osk (Osk (Osk (Osk (Osk (Oq Vpf (KS ?_)))))))))
  refine Kf (KS ?_)
  refine Oq Vm (Oq Vadd (Oq Va (KS ?_)))
  exact Kg (r54, (i_43 + 1)) [1, 2, 3, 4] ⟨(q3 hM44 (by simp only [r1_follows_L0, h52, h57, cs4])), aM1, aM1, aM1, aM1⟩
 intro h52
 have g64 := df h52
 obtain rfl : r42 = 0 := by omega
 refine Ke ?_
 have hR65 := q2 hM44 (.brk ()) (by simp only [r1_follows_L0, h52, cs4])
 refine KS ?_
 refine Oq Va (KS ?_)
 have hq := q4 hrr false (by simp only [r1_follows, h5, h52, hR65, cs4]); subst hq
 exact Kr () rfl (.tmp rfl .nil) [] trivial
theorem fn110 (t : GTransfer) (ta1 : Option Addr) (tk1 : Nat) (ta3 : Option Addr) (tk3 : Nat) (ta4 : Option Addr) (tk4 : Nat) (s : GSet) (sa1 : Option Addr) (sk1 : Nat) (ht_0 : i64ok t.Gen.Width) (ht_2 : i64ok t.Kill.Width) (hs_0 : i64ok s.Width) (ht : r1_ValidTransfer t = true) (hw : t.Gen.Width = s.Width) (rr : GSet) (hrr : r1_value t s = rr) : FT Tryz.prog 110 #[.agg #[vi t.Gen.Width, vl ta1 tk1 t.Gen.Words, vi t.Kill.Width, vl ta3 tk3 t.Kill.Words, vl ta4 tk4 t.Copies], .agg #[vi s.Width, vl sa1 sk1 s.Words]] [S ta1 tk1 t.Gen.Words, S ta3 tk3 t.Kill.Words, S ta4 tk4 t.Copies, S sa1 sk1 s.Words] (fun g : Value => i64ok rr.Width) (fun g => .agg #[vi rr.Width, g]) (fun g => [sl g rr.Words]) := by
 refine FTi Tryz.func110 fun w0 M0 F0 => ?_
 unfold i64ok at ht_0 ht_2 hs_0
 refine Fb 8 0 fun _ => Fb 8 1 fun _ => Fb 16 2 fun _ => Fb 8 3 fun _ => ?_
 have hvt := VT_w ht
 refine KS ?_
 refine Oa (Ab [vi t.Gen.Width, vl ta1 tk1 t.Gen.Words, vi t.Kill.Width, vl ta3 tk3 t.Kill.Words, vl ta4 tk4 t.Copies]) fun p5 => Oa (Ab [vi s.Width, vl sa1 sk1 s.Words]) fun p6 => Oa (Al ze53 [vi 0, .slice none 0 0]) fun p7 => KS ?_
 refine Oq (Vfa fo57_0 2) (Oq (VldG sh53 2 [vi t.Gen.Width, vl ta1 tk1 t.Gen.Words]) (Oa (Al ze53 [vi 0, .slice none 0 0]) fun p8 => Ost (Scl [0] sh53 [vi t.Gen.Width, vl ta1 tk1 t.Gen.Words]) (KS ?_)))
 refine Oq Va (KS ?_)
 refine Kl (γ := Nat × Int × List (BitVec 64) × Int × Option Addr × Nat) (fun (r9, out0_10, out1_11, a_12, a13, k14) => ⟨[(2, p5), (3, p6), (4, p7), (5, p8), (6, vi a_12)], [S a13 k14 out1_11, Cl p8 [vi out0_10, vl a13 k14 out1_11], Cl p7 [vi 0, .slice none 0 0], pv p6 [vi s.Width, vl sa1 sk1 s.Words], pv p5 [vi t.Gen.Width, vl ta1 tk1 t.Gen.Words, vi t.Kill.Width, vl ta3 tk3 t.Kill.Words, vl ta4 tk4 t.Copies], S ta1 tk1 t.Gen.Words, S ta3 tk3 t.Kill.Words, S ta4 tk4 t.Copies, S sa1 sk1 s.Words], r1_value_L0 t s r9 out0_10 out1_11 a_12 = r1_value_L0 t s (((s.Width : Int) - 0).toNat) t.Gen.Width t.Gen.Words 0 ∧ r9 = ((s.Width : Int) - a_12).toNat ∧ (0 : Int) ≤ a_12 ∧ (a_12 ≤ s.Width ∨ a_12 = 0) ∧ (-9223372036854775808 ≤ out0_10 ∧ out0_10 ≤ 9223372036854775807) ∧ (-9223372036854775808 ≤ a_12 ∧ a_12 ≤ 9223372036854775807) ∧ out0_10 = s.Width ∧ out1_11.length = ((s.Width + 63) / 64).toNat, r9⟩) (((s.Width : Int) - 0).toNat, t.Gen.Width, t.Gen.Words, 0, ta1, tk1) [4, 0, 0, 0, 1, 2, 3, 4, 5] ⟨rfl, rfl, aM1, (.inr rfl), aM1, aM1, iv0, iv0⟩ ?_
 rintro ⟨r9, out0_10, out1_11, a_12, a13, k14⟩ ⟨hM15, hr16, hi17, hi18, hk19, hk20, hv21, hv22⟩
 refine JJ_nx fun _ _ hL hA => ?_; dsimp only at hL hA; subst hL hA
 refine Fb 8 0 fun _ => Fb 8 5 fun _ => Fb 8 6 fun _ => Fb 16 7 fun _ => Fb 8 8 fun _ => KS ?_
 refine Oq Vm (Oq (Vfa fo53_0 3) (Oq (VldF sh3 3) (Oq Vlss (KS ?_))))
 refine Kc ?_ ?_
 ·intro h28
  have g29 := dt h28
  obtain ⟨r30, rfl⟩ := scc (n := r9) aM1
  refine KS ?_
  refine Oq Va (KS ?_)
  have hterm43 : r1_value_L1 t s a_12 (s.Width.toNat + 1) out0_10 out1_11 0 ≠ LR.oof := value_L1_term _ _ _ _ _ _ _ aM1 aM1
  refine Kl (γ := Nat × Int × List (BitVec 64) × Int × Option Addr × Nat) (fun (r31, out0_32, out1_33, b_34, a35, k36) => ⟨[(2, p5), (3, p6), (4, p7), (5, p8), (6, vi a_12), (7, vi b_34)], [S a35 k36 out1_33, Cl p8 [vi out0_32, vl a35 k36 out1_33], Cl p7 [vi 0, .slice none 0 0], pv p6 [vi s.Width, vl sa1 sk1 s.Words], pv p5 [vi t.Gen.Width, vl ta1 tk1 t.Gen.Words, vi t.Kill.Width, vl ta3 tk3 t.Kill.Words, vl ta4 tk4 t.Copies], S ta1 tk1 t.Gen.Words, S ta3 tk3 t.Kill.Words, S ta4 tk4 t.Copies, S sa1 sk1 s.Words], r1_value_L1 t s a_12 r31 out0_32 out1_33 b_34 = r1_value_L1 t s a_12 (s.Width.toNat + 1) out0_10 out1_11 0 ∧ (-9223372036854775808 ≤ out0_32 ∧ out0_32 ≤ 9223372036854775807) ∧ (-9223372036854775808 ≤ b_34 ∧ b_34 ≤ 9223372036854775807) ∧ out0_32 = s.Width ∧ out1_33.length = ((s.Width + 63) / 64).toNat ∧ 0 ≤ b_34, r31⟩) ((s.Width.toNat + 1), out0_10, out1_11, 0, a13, k14) [0, 1, 1, 1, 2, 3, 4, 5, 6] ⟨rfl, aM1, aM1, iv0, iv0, iv0⟩ ?_
  rintro ⟨r31, out0_32, out1_33, b_34, a35, k36⟩ ⟨hM37, hk38, hk39, hv40, hv41, hv42⟩
  refine JJ_nx fun _ _ hL hA => ?_; dsimp only at hL hA; subst hL hA
  refine Fb 8 0 fun _ => Fb 8 5 fun _ => Fb 8 6 fun _ => Fb 16 7 fun _ => Fb 8 8 fun _ => ?_
  rcases r31 with _ | r31
  ·exact absurd (hM37.symm.trans rfl) hterm43
  refine KS ?_
  refine Oq (VldA sh53 3) (Oq Vm ?_)
  refine letv (r1_Has s a_12) fun rv49 hg50 => ?_
  have hc51 := fn112 s sa1 sk1 a_12 pre pre rv49 hg50
  refine Oc [8] ca112 hc51 ?_
  rintro - -
  refine Oq Vm ?_
  refine Js 19 ?_ ?_
  ·intro h52
   refine Oq Vm (Oq (Vfa fo53_0 3) (Oq (VldF sh3 3) (Oq Vlss (Oq Vpt (KS ?_)))))
   refine Kc ?_ ?_
   ·intro h54
    have g55 := dt h54
    refine KS ?_
    refine Oq (VldA sh57 4) (Oq Vm (Oq Vm ?_))
    refine letv (r1_follows t a_12 b_34) fun rv56 hg57 => ?_
    have hc58 := fn113 t ta1 tk1 ta3 tk3 ta4 tk4 a_12 b_34 pre pre pre pre rv56 hg57
    refine Oc [5, 6, 7] ca113 hc58 ?_
    rintro - -
    refine KS ?_
    refine Kc ?_ ?_
    ·intro h59
     refine KS ?_
     refine Oq (VldA sh53 1) (Oq Vm ?_)
     refine letv (r1_Put (GSet.mk out0_32 out1_33) b_34) fun rv62 hg63 => ?_
     have hc64 := fn52 ((GSet.mk out0_32 out1_33)) a35 k36 b_34 pre pre pre pre rv62 hg63
     refine Oc [0] ca52 hc64 ?_
     rintro c61 ⟨he65, he66, he67⟩
     unfold i64ok at he65
     have he66 : (rv62.Width = out0_32) := he66
     have he67 : (rv62.Words.length = ((out0_32 + 63) / 64).toNat) := he67
     refine Jo 0 ?_; rintro a68 k69 rfl
     refine Fb 8 0 fun _ => ?_
     refine Ost (Scl [2] sh53 [vi rv62.Width, vl a68 k69 rv62.Words]) (KS ?_)
     refine Oq Vm (Oq Vadd (Oq Va (KS ?_)))
     refine Jl [1] (Ent.freeze _ _) ?_
     exact Kg (r31, rv62.Width, rv62.Words, (b_34 + 1), a68, k69) [0, 1, 2, 2, 3, 4, 5, 6, 7] ⟨(q3 hM37 (by simp only [r1_value_L1, h52, h54, h59, hg50, hg57, hg63, cs4])), aM1, aM1, iv1, iv1, iv1⟩
    intro h59
    refine KS ?_
    refine Oq Vm (Oq Vadd (Oq Va (KS ?_)))
    exact Kg (r31, out0_32, out1_33, (b_34 + 1), a35, k36) [0, 1, 1, 1, 2, 3, 4, 5, 6] ⟨(q3 hM37 (by simp only [r1_value_L1, h52, h54, h59, hg50, hg57, cs4])), aM1, aM1, iv1, iv1, iv1⟩
   intro h54
   have g72 := df h54
   refine Ke ?_
   have hR73 := q2 hM37 (.brk (out0_32, out1_33)) (by simp only [r1_value_L1, h52, h54, hg50, cs4])
   refine KS ?_
   refine Oq Vm (Oq Vadd (Oq Va (KS ?_)))
   exact Kg (r30, out0_32, out1_33, (a_12 + 1), a35, k36) [0, 1, 1, 1, 2, 3, 4, 5, 6] ⟨(q3 hM15 (by simp only [r1_value_L0, h28, h52, h54, hg50, hR73, cs4])), aM1, aM1, aM1, aM1, aM1, iv1, iv1⟩
  intro h52
  refine Osk (Osk (Osk (Osk (Oq Vpf (KS ?_)))))
  refine Kf ?_
  refine Ke ?_
  have hR75 := q2 hM37 (.brk (out0_32, out1_33)) (by simp only [r1_value_L1, h52, hg50, cs4])
  refine KS ?_
  refine Oq Vm (Oq Vadd (Oq Va (KS ?_)))
  exact Kg (r30, out0_32, out1_33, (a_12 + 1), a35, k36) [0, 1, 1, 1, 2, 3, 4, 5, 6] ⟨(q3 hM15 (by simp only [r1_value_L0, h28, h52, hg50, hR75, cs4])), aM1, aM1, aM1, aM1, aM1, iv1, iv1⟩
 intro h28
 have g76 := df h28
 obtain rfl : r9 = 0 := by omega
 refine Ke ?_
 have hR77 := q2 hM15 (out0_10, out1_11) (by simp only [r1_value_L0, h28, cs4])
 refine KS ?_
 refine Oq (VldA sh53 1) (Ost (Scl [2] sh53 [vi out0_10, vl a13 k14 out1_11]) (KS ?_))
 have hq := q4 hrr (GSet.mk out0_10 out1_11) (by simp only [r1_value, h28, hR77, cs4]); subst hq
 exact Kr (vl a13 k14 out1_11) rfl (.cellN 0 rfl sh53 rfl (reads_Cl _ _) rfl .nil) [1] en
theorem fn105 (t : GTransfer) (ta1 : Option Addr) (tk1 : Nat) (ta3 : Option Addr) (tk3 : Nat) (ta4 : Option Addr) (tk4 : Nat) (s : GSet) (sa1 : Option Addr) (sk1 : Nat) (ht_0 : i64ok t.Gen.Width) (ht_2 : i64ok t.Kill.Width) (hs_0 : i64ok s.Width) (rr : GSet × Int) (hrr : r1_Apply t s = rr) : FT Tryz.prog 105 #[.agg #[vi t.Gen.Width, vl ta1 tk1 t.Gen.Words, vi t.Kill.Width, vl ta3 tk3 t.Kill.Words, vl ta4 tk4 t.Copies], .agg #[vi s.Width, vl sa1 sk1 s.Words]] [S ta1 tk1 t.Gen.Words, S ta3 tk3 t.Kill.Words, S ta4 tk4 t.Copies, S sa1 sk1 s.Words] (fun g : Value => i64ok rr.1.Width ∧ i64ok rr.2) (fun g => .tuple #[.agg #[vi rr.1.Width, g], vi rr.2]) (fun g => [sl g rr.1.Words]) := by
 refine FTi Tryz.func105 fun w0 M0 F0 => ?_
 unfold i64ok at ht_0 ht_2 hs_0
 refine Fb 8 0 fun _ => Fb 8 1 fun _ => Fb 16 2 fun _ => Fb 8 3 fun _ => KS ?_
 refine Oa (Ab [vi t.Gen.Width, vl ta1 tk1 t.Gen.Words, vi t.Kill.Width, vl ta3 tk3 t.Kill.Words, vl ta4 tk4 t.Copies]) fun p5 => Oa (Ab [vi s.Width, vl sa1 sk1 s.Words]) fun p6 => Oa (Al ze53 [vi 0, .slice none 0 0]) fun p7 => Oq Va (KS ?_)
 refine Oq (VldA sh57 2) ?_
 refine letv (r1_ValidTransfer t) fun rv8 hg9 => ?_
 have hc10 := fn54 t ta1 tk1 ta3 tk3 ta4 tk4 pre pre rv8 hg9
 refine Oc [3, 4, 5] ca54 hc10 ?_
 rintro - -
 refine Oq Vnot (Oq Vm ?_)
 refine Js 9 ?_ ?_
 ·intro h11
  have h13 := not_true h11
  refine Osk (Osk (Osk (Oq Vpt (KS ?_))))
  refine Kt (KS ?_)
  refine Oq (Vbd st53 [vi 0, .slice none 0 0]) (Ost (Scl [0] sh53 [vi 0, .slice none 0 0]) (Oq Va (KS ?_)))
  refine Jl [] (Ent.slNil (α := BitVec 64)) ?_
  have hq := q4 hrr ((GSet.mk 0 []), 1) (by simp only [r1_Apply, h11, h13, hg9, cs4]); subst hq
  exact Kr (.slice none 0 0) rfl (.cellN 1 rfl sh53 rfl (reads_Cl _ _) rfl (.tmp rfl .nil)) [0] en
 intro h11
 have h16 := not_false h11
 refine Oq (VldA sh53 1) ?_
 refine letv (r1_Valid s) fun rv18 hg19 => ?_
 have hc20 := fn43 s sa1 sk1 pre rv18 hg19
 refine Oc [6] ca43 hc20 ?_
 rintro - -
 refine Oq Vnot (Oq Vpf (KS ?_))
 refine Kc ?_ ?_
 ·intro h21
  have h23 := not_true h21
  refine KS ?_
  refine Oq (Vbd st53 [vi 0, .slice none 0 0]) (Ost (Scl [0] sh53 [vi 0, .slice none 0 0]) (Oq Va (KS ?_)))
  refine Jl [] (Ent.slNil (α := BitVec 64)) ?_
  have hq := q4 hrr ((GSet.mk 0 []), 1) (by simp only [r1_Apply, h11, h16, h21, h23, hg9, hg19, cs4]); subst hq
  exact Kr (.slice none 0 0) rfl (.cellN 1 rfl sh53 rfl (reads_Cl _ _) rfl (.tmp rfl .nil)) [0] en
 intro h21
 have h26 := not_false h21
 refine KS ?_
 refine Oq (Vfa fo57_0 2) (Oq (VfaF fo53_0 2) (Oq (VldF sh3 2) (Oq (Vfa fo53_0 1) (Oq (VldF sh3 1) (Oq Vneq (KS ?_))))))
 refine Kc ?_ ?_
 ·intro h28
  have g29 := ne_of_bne h28
  refine KS ?_
  refine Oq (Vbd st53 [vi 0, .slice none 0 0]) (Ost (Scl [0] sh53 [vi 0, .slice none 0 0]) (Oq Va (KS ?_)))
  refine Jl [] (Ent.slNil (α := BitVec 64)) ?_
  have hq := q4 hrr ((GSet.mk 0 []), 2) (by simp only [r1_Apply, h11, h16, h21, h26, h28, hg9, hg19, cs4]); subst hq
  exact Kr (.slice none 0 0) rfl (.cellN 1 rfl sh53 rfl (reads_Cl _ _) rfl (.tmp rfl .nil)) [0] en
 intro h28
 have g30 := eq_of_bne_false h28
 refine KS ?_
 refine Oq (VldA sh57 2) (Oq (VldA sh53 1) ?_)
 refine letv (r1_value t s) fun rv32 hg33 => ?_
 have hc34 := fn110 t ta1 tk1 ta3 tk3 ta4 tk4 s sa1 sk1 pre pre pre (by simp only [h11, h16, h21, h26, h28, hg9, hg19]) pre rv32 hg33
 refine Oc [3, 4, 5, 6] ca110 hc34 ?_
 rintro c31 he35
 unfold i64ok at he35
 refine Jo 0 ?_; rintro a36 k37 rfl
 refine Fb 8 0 fun _ => ?_
 refine Ost (Scl [1] sh53 [vi rv32.Width, vl a36 k37 rv32.Words]) (Oq Va (KS ?_))
 have hq := q4 hrr (rv32, 0) (by simp only [r1_Apply, h11, h16, h21, h26, h28, hg9, hg19, hg33, cs4]); subst hq
 exact Kr (vl a36 k37 rv32.Words) rfl (.cellN 0 rfl sh53 rfl (reads_Cl _ _) rfl (.tmp rfl .nil)) [1] en
theorem fn114 (a : GSet) (aa1 : Option Addr) (ak1 : Nat) (b : GSet) (ba1 : Option Addr) (bk1 : Nat) (one : Bool) (two : Bool) (both : Bool) (ha_0 : i64ok a.Width) (hb_0 : i64ok b.Width) (rr : GSet × Int) (hrr : r1_mix a b one two both = rr) : FT Tryz.prog 114 #[.agg #[vi a.Width, vl aa1 ak1 a.Words], .agg #[vi b.Width, vl ba1 bk1 b.Words], vb one, vb two, vb both] [S aa1 ak1 a.Words, S ba1 bk1 b.Words] (fun g : Value => i64ok rr.1.Width ∧ i64ok rr.2) (fun g => .tuple #[.agg #[vi rr.1.Width, g], vi rr.2]) (fun g => [sl g rr.1.Words]) := by
 refine FTi Tryz.func114 fun w0 M0 F0 => ?_
 unfold i64ok at ha_0 hb_0
 refine Fb 8 0 fun _ => Fb 8 1 fun _ => KS ?_
 refine Oa (Ab [vi a.Width, vl aa1 ak1 a.Words]) fun p3 => Oa (Ab [vi b.Width, vl ba1 bk1 b.Words]) fun p4 => Oa (Al ze53 [vi 0, .slice none 0 0]) fun p5 => Oq Va (KS ?_)
 refine Oq (VldA sh53 2) ?_
 refine letv (r1_Valid a) fun rv6 hg7 => ?_
 have hc8 := fn43 a aa1 ak1 pre rv6 hg7
 refine Oc [3] ca43 hc8 ?_
 rintro - -
 refine Oq Vnot (Oq Vm ?_)
 refine Js 19 ?_ ?_
 ·intro h9
  have h11 := not_true h9
  refine Osk (Osk (Osk (Oq Vpt (KS ?_))))
  refine Kt (KS ?_)
  refine Oq (Vbd st53 [vi 0, .slice none 0 0]) (Ost (Scl [0] sh53 [vi 0, .slice none 0 0]) (Oq Va (KS ?_)))
  refine Jl [] (Ent.slNil (α := BitVec 64)) ?_
  have hq := q4 hrr ((GSet.mk 0 []), 1) (by simp only [r1_mix, h9, h11, hg7, cs4]); subst hq
  exact Kr (.slice none 0 0) rfl (.cellN 1 rfl sh53 rfl (reads_Cl _ _) rfl (.tmp rfl .nil)) [0] en
 intro h9
 have h14 := not_false h9
 try have hrg := RV_w (s := a) (by simp only [h9, h14, hg7])
 refine Oq (VldA sh53 1) ?_
 refine letv (r1_Valid b) fun rv16 hg17 => ?_
 have hc18 := fn43 b ba1 bk1 pre rv16 hg17
 refine Oc [4] ca43 hc18 ?_
 rintro - -
 refine Oq Vnot (Oq Vpf (KS ?_))
 refine Kc ?_ ?_
 ·intro h19
  have h21 := not_true h19
  refine KS ?_
  refine Oq (Vbd st53 [vi 0, .slice none 0 0]) (Ost (Scl [0] sh53 [vi 0, .slice none 0 0]) (Oq Va (KS ?_)))
  refine Jl [] (Ent.slNil (α := BitVec 64)) ?_
  have hq := q4 hrr ((GSet.mk 0 []), 1) (by simp only [r1_mix, h9, h14, h19, h21, hg7, hg17, cs4]); subst hq
  exact Kr (.slice none 0 0) rfl (.cellN 1 rfl sh53 rfl (reads_Cl _ _) rfl (.tmp rfl .nil)) [0] en
 intro h19
 have h24 := not_false h19
 try have hrg := RV_w (s := a) (by simp only [h9, h14, h19, h24, hg7, hg17])
 refine KS ?_
 refine Oq (Vfa fo53_0 2) (Oq (VldF sh3 2) (Oq (Vfa fo53_0 1) (Oq (VldF sh3 1) (Oq Vneq (KS ?_)))))
 refine Kc ?_ ?_
 ·intro h26
  have g27 := ne_of_bne h26
  refine KS ?_
  refine Oq (Vbd st53 [vi 0, .slice none 0 0]) (Ost (Scl [0] sh53 [vi 0, .slice none 0 0]) (Oq Va (KS ?_)))
  refine Jl [] (Ent.slNil (α := BitVec 64)) ?_
  have hq := q4 hrr ((GSet.mk 0 []), 2) (by simp only [r1_mix, h9, h14, h19, h24, h26, hg7, hg17, cs4]); subst hq
  exact Kr (.slice none 0 0) rfl (.cellN 1 rfl sh53 rfl (reads_Cl _ _) rfl (.tmp rfl .nil)) [0] en
 intro h26
 have g28 := eq_of_bne_false h26
 refine KS ?_
 refine Oq (Vfa fo53_0 2) (Oq (VldF sh3 2) ?_)
 refine letv (r1_Empty a.Width) fun rv30 hg31 => ?_
 have hc32 := fn20 a.Width pre pre rv30 hg31
 refine Oc [] ca20 hc32 ?_
 rintro c29 ⟨he33, he34, he35⟩
 unfold i64ok at he33
 refine Jo 0 ?_; rintro a36 k37 rfl
 refine Fb 8 0 fun _ => ?_
 refine Oa (Al ze53 [vi 0, .slice none 0 0]) fun p39 => Ost (Scl [0] sh53 [vi rv30.Width, vl a36 k37 rv30.Words]) (KS ?_)
 refine Oq Va (KS ?_)
 refine Kl (γ := Nat × Int × List (BitVec 64) × Int × Option Addr × Nat) (fun (r40, s0_41, s1_42, k_43, a44, k45) => ⟨[(2, vb one), (3, vb two), (4, vb both), (5, p3), (6, p4), (10, p5), (12, p39), (13, vi k_43)], [O a44 k45 s1_42, Cl p39 [vi s0_41, vl a44 k45 s1_42], Cl p5 [vi 0, .slice none 0 0], pv p4 [vi b.Width, vl ba1 bk1 b.Words], pv p3 [vi a.Width, vl aa1 ak1 a.Words], S aa1 ak1 a.Words, S ba1 bk1 b.Words], r1_mix_L0 a b one two both r40 s0_41 s1_42 k_43 = r1_mix_L0 a b one two both (((a.Width : Int) - 0).toNat) rv30.Width rv30.Words 0 ∧ r40 = ((a.Width : Int) - k_43).toNat ∧ (0 : Int) ≤ k_43 ∧ (k_43 ≤ a.Width ∨ k_43 = 0) ∧ (-9223372036854775808 ≤ s0_41 ∧ s0_41 ≤ 9223372036854775807) ∧ (-9223372036854775808 ≤ k_43 ∧ k_43 ≤ 9223372036854775807) ∧ s0_41 = a.Width ∧ s1_42.length = ((a.Width + 63) / 64).toNat, r40⟩) (((a.Width : Int) - 0).toNat, rv30.Width, rv30.Words, 0, a36, k37) [1, 0, 0, 0, 1, 2, 3] ⟨rfl, rfl, aM1, (.inr rfl), aM1, aM1, iv0, iv0⟩ ?_
 rintro ⟨r40, s0_41, s1_42, k_43, a44, k45⟩ ⟨hM46, hr47, hi48, hi49, hk50, hk51, hv52, hv53⟩
 refine JJ_nx fun _ _ hL hA => ?_; dsimp only at hL hA; subst hL hA
 refine Fb 8 0 fun _ => Fb 8 5 fun _ => Fb 8 6 fun _ => KS ?_
 refine Oq Vm (Oq (Vfa fo53_0 4) (Oq (VldF sh3 4) (Oq Vlss (KS ?_))))
 refine Kc ?_ ?_
 ·intro h57
  have g58 := dt h57
  obtain ⟨r59, rfl⟩ := scc (n := r40) aM1
  refine KS ?_
  refine JK_drawK [0, 0, 3, 0, 0, 31, 63, 127] fmix ?_
  refine Dv [4] (VldA sh53 0) (Dv [] Vm ?_)
  refine letv (r1_Has a k_43) fun rv60 hg61 => ?_
  refine Dx [5] [] [1, 0] (fun G => vb rv60) [fun G => SP.fact (True)] (fun G => xC [0] ca112 (fn112 a aa1 ak1 k_43 pre pre rv60 hg61)) (Dv [3] (VldA sh53 0) (Dv [] Vm ?_))
  refine letv (r1_Has b k_43) fun rv62 hg63 => ?_
  refine Dx [6] [] [1, 0] (fun G => vb rv62) [fun G => SP.fact (True)] (fun G => xC [0] ca112 (fn112 b ba1 bk1 k_43 pre pre rv62 hg63)) (Dv [] Va (Dv [] Va ?_))
  refine Dn ⟨by kernel_rfl, fun G => ?_⟩
  refine Jw2 [(2, vb one), (3, vb two), (4, vb both), (5, p3), (6, p4), (10, p5), (12, p39), (13, vi k_43), (14, vb rv60), (15, vb rv62)] [0, 1, 2, 3, 4, 5, 6] [SP.fact (True), SP.fact (True)] ?_
  refine Jk [0, 0, 0, 0, 1, 2, 3] ?_
  refine KS ?_
  refine Oq Vm (Oq Vm ?_)
  refine Js 47 ?_ ?_
  ·intro h64
   try have hrg := RV_w (s := a) (by simp only [h9, h14, h19, h24, h26, h57, h64, hg7, hg17, hg31, hg61, hg63])
   refine Oq Vm (Oq Vpt (Oq Vm ?_))
   refine Js 50 ?_ ?_
   ·intro h66
    try have hrg := RV_w (s := a) (by simp only [h9, h14, h19, h24, h26, h57, h64, h66, hg7, hg17, hg31, hg61, hg63])
    refine Oq Vm (Oq Vpt (Oq Vm ?_))
    refine Js 53 ?_ ?_
    ·intro h68
     refine Osk (Osk (Osk (Osk (Osk (Osk (Osk (Osk (Oq Vpt (Oq Vm ?_)))))))))
     refine Osk (Osk (Osk (Osk (Osk (Osk (Osk (Osk (Oq Vpt (KS ?_)))))))))
     refine Kt (KS ?_)
     refine Oq (VldA sh53 1) (Oq Vm ?_)
     refine letv (r1_Put (GSet.mk s0_41 s1_42) k_43) fun rv71 hg72 => ?_
     refine Oc [0] ca52 (FT_borrow (A := _) hlx (FT_ent (Ent.take (is := [0]) rfl) (fn52 ((GSet.mk s0_41 s1_42)) a44 k45 k_43 pre pre pre pre rv71 hg72))) ?_ (ht := rfl)
     rintro c70 ⟨he73, he74, he75⟩
     unfold i64ok at he73
     have he74 : (rv71.Width = s0_41) := he74
     have he75 : (rv71.Words.length = ((s0_41 + 63) / 64).toNat) := he75
     refine Jo 1 ?_; rintro a76 k77 rfl
     refine Fb 8 1 fun _ => ?_
     refine Ost (Scl [2] sh53 [vi rv71.Width, vl a76 k77 rv71.Words]) (KS ?_)
     refine Oq Vm (Oq Vadd (Oq Va (KS ?_)))
     exact Kg (r59, rv71.Width, rv71.Words, (k_43 + 1), a76, k77) [2, 0, 1, 1, 2, 3, 4] ⟨(q3 hM46 (by simp only [r1_mix_L0, h57, h64, h66, h68, hg61, hg63, hg72, cs4])), aM1, aM1, aM1, aM1, aM1, iv1, iv1⟩
    intro h68
    refine Oq Vm (Oq Vm ?_)
    refine Js 55 ?_ ?_
    ·intro h80
     try have hrg := RV_w (s := a) (by simp only [h9, h14, h19, h24, h26, h57, h64, h66, h68, h80, hg7, hg17, hg31, hg61, hg63])
     refine Oq Vm (Oq Vnot (Oq Vpt (Oq Vm ?_)))
     refine Js 59 ?_ ?_
     ·intro h82
      exact absurd h82 (by first | (simp [h66]; done) | (simp only [bne, h66]; decide) | (simp only [bne, h66, Bool.not_true, Bool.not_false]; decide) | (exfalso; omega) | (intro hq; simp only [bne, hq, Bool.not_false, Bool.not_true, reduceCtorEq] at h66))
     intro h82
     have h84 := not_false h82
     try have hrg := RV_w (s := a) (by simp only [h9, h14, h19, h24, h26, h57, h64, h66, h68, h80, h82, h84, hg7, hg17, hg31, hg61, hg63])
     refine Osk (Oq Vpf (Oq Vpf (Oq Vm (Oq Vm (Oq Vnot (Oq Vm ?_))))))
     refine Js 66 ?_ ?_
     ·intro h86
      exact absurd h86 (by first | (simp [h80]; done) | (simp only [bne, h80]; decide) | (simp only [bne, h80, Bool.not_true, Bool.not_false]; decide) | (exfalso; omega) | (intro hq; simp only [bne, hq, Bool.not_false, Bool.not_true, reduceCtorEq] at h80))
     intro h86
     have h88 := not_false h86
     try have hrg := RV_w (s := a) (by simp only [h9, h14, h19, h24, h26, h57, h64, h66, h68, h80, h82, h84, h86, h88, hg7, hg17, hg31, hg61, hg63])
     refine Osk (Oq Vpf (Oq Vm (Osk (Oq Vpf (Oq Vpf (KS ?_))))))
     refine Kf (KS ?_)
     refine Oq Vm (Oq Vadd (Oq Va (KS ?_)))
     exact Kg (r59, s0_41, s1_42, (k_43 + 1), a44, k45) [0, 0, 0, 0, 1, 2, 3] ⟨(q3 hM46 (by simp only [r1_mix_L0, h57, h64, h66, h68, h80, h82, h84, h86, h88, hg61, hg63, cs4])), aM1, aM1, aM1, aM1, aM1, iv1, iv1⟩
    intro h80
    exact absurd h80 (by first | (simp [h64]; done) | (simp only [bne, h64]; decide) | (simp only [bne, h64, Bool.not_true, Bool.not_false]; decide) | (exfalso; omega) | (intro hq; simp only [bne, hq, Bool.not_false, Bool.not_true, reduceCtorEq] at h64))
   intro h66
   refine Osk (Oq Vpf (Oq Vm (Oq Vm (Oq Vm ?_))))
   refine Js 55 ?_ ?_
   ·intro h91
    try have hrg := RV_w (s := a) (by simp only [h9, h14, h19, h24, h26, h57, h64, h66, h91, hg7, hg17, hg31, hg61, hg63])
    refine Oq Vm (Oq Vnot (Oq Vpt (Oq Vm ?_)))
    refine Js 59 ?_ ?_
    ·intro h93
     have h95 := not_true h93
     refine Oq Vm (Oq Vpt (Oq Vpf (Oq Vm ?_)))
     refine Js 63 ?_ ?_
     ·intro h97
      refine Osk (Osk (Osk (Osk (Osk (Osk (Osk (Osk (Oq Vpt (KS ?_)))))))))
      refine Kt (KS ?_)
      refine Oq (VldA sh53 1) (Oq Vm ?_)
      refine letv (r1_Put (GSet.mk s0_41 s1_42) k_43) fun rv100 hg101 => ?_
      refine Oc [0] ca52 (FT_borrow (A := _) hlx (FT_ent (Ent.take (is := [0]) rfl) (fn52 ((GSet.mk s0_41 s1_42)) a44 k45 k_43 pre pre pre pre rv100 hg101))) ?_ (ht := rfl)
      rintro c99 ⟨he102, he103, he104⟩
      unfold i64ok at he102
      have he103 : (rv100.Width = s0_41) := he103
      have he104 : (rv100.Words.length = ((s0_41 + 63) / 64).toNat) := he104
      refine Jo 1 ?_; rintro a105 k106 rfl
      refine Fb 8 1 fun _ => ?_
      refine Ost (Scl [2] sh53 [vi rv100.Width, vl a105 k106 rv100.Words]) (KS ?_)
      refine Oq Vm (Oq Vadd (Oq Va (KS ?_)))
      exact Kg (r59, rv100.Width, rv100.Words, (k_43 + 1), a105, k106) [2, 0, 1, 1, 2, 3, 4] ⟨(q3 hM46 (by simp only [r1_mix_L0, h57, h64, h66, h91, h93, h95, h97, hg61, hg63, hg101, cs4])), aM1, aM1, aM1, aM1, aM1, iv1, iv1⟩
     intro h97
     refine Oq Vm (Oq Vnot (Oq Vm ?_))
     refine Js 66 ?_ ?_
     ·intro h109
      exact absurd h109 (by first | (simp [h91]; done) | (simp only [bne, h91]; decide) | (simp only [bne, h91, Bool.not_true, Bool.not_false]; decide) | (exfalso; omega) | (intro hq; simp only [bne, hq, Bool.not_false, Bool.not_true, reduceCtorEq] at h91))
     intro h109
     have h111 := not_false h109
     try have hrg := RV_w (s := a) (by simp only [h9, h14, h19, h24, h26, h57, h64, h66, h91, h93, h95, h97, h109, h111, hg7, hg17, hg31, hg61, hg63])
     refine Osk (Oq Vpf (Oq Vm (Osk (Oq Vpf (Oq Vpf (KS ?_))))))
     refine Kf (KS ?_)
     refine Oq Vm (Oq Vadd (Oq Va (KS ?_)))
     exact Kg (r59, s0_41, s1_42, (k_43 + 1), a44, k45) [0, 0, 0, 0, 1, 2, 3] ⟨(q3 hM46 (by simp only [r1_mix_L0, h57, h64, h66, h91, h93, h95, h97, h109, h111, hg61, hg63, cs4])), aM1, aM1, aM1, aM1, aM1, iv1, iv1⟩
    intro h93
    exact absurd h93 (by first | (simp [h66]; done) | (simp only [bne, h66]; decide) | (simp only [bne, h66, Bool.not_true, Bool.not_false]; decide) | (exfalso; omega) | (intro hq; simp only [bne, hq, Bool.not_false, Bool.not_true, reduceCtorEq] at h66))
   intro h91
   exact absurd h91 (by first | (simp [h64]; done) | (simp only [bne, h64]; decide) | (simp only [bne, h64, Bool.not_true, Bool.not_false]; decide) | (exfalso; omega) | (intro hq; simp only [bne, hq, Bool.not_false, Bool.not_true, reduceCtorEq] at h64))
  intro h64
  refine Osk (Oq Vpf (Oq Vm (Osk (Oq Vpf (Oq Vm (Oq Vm (Oq Vm ?_)))))))
  refine Js 55 ?_ ?_
  ·intro h114
   exact absurd h114 (by first | (simp [h64]; done) | (simp only [bne, h64]; decide) | (simp only [bne, h64, Bool.not_true, Bool.not_false]; decide) | (exfalso; omega) | (intro hq; simp only [bne, hq, Bool.not_false, Bool.not_true, reduceCtorEq] at h64))
  intro h114
  refine Osk (Osk (Oq Vpf (Oq Vm (Osk (Oq Vpf (Oq Vpf (Oq Vm (Oq Vm (Oq Vnot ?_)))))))))
  refine Oq Vm ?_
  refine Js 66 ?_ ?_
  ·intro h116
   have h118 := not_true h116
   refine Oq Vm (Oq Vpt (Oq Vm ?_))
   refine Js 69 ?_ ?_
   ·intro h120
    try have hrg := RV_w (s := a) (by simp only [h9, h14, h19, h24, h26, h57, h64, h114, h116, h118, h120, hg7, hg17, hg31, hg61, hg63])
    refine Oq Vm (Oq Vpt (Oq Vpf (KS ?_)))
    refine Kc ?_ ?_
    ·intro h122
     refine KS ?_
     refine Oq (VldA sh53 1) (Oq Vm ?_)
     refine letv (r1_Put (GSet.mk s0_41 s1_42) k_43) fun rv125 hg126 => ?_
     refine Oc [0] ca52 (FT_borrow (A := _) hlx (FT_ent (Ent.take (is := [0]) rfl) (fn52 ((GSet.mk s0_41 s1_42)) a44 k45 k_43 pre pre pre pre rv125 hg126))) ?_ (ht := rfl)
     rintro c124 ⟨he127, he128, he129⟩
     unfold i64ok at he127
     have he128 : (rv125.Width = s0_41) := he128
     have he129 : (rv125.Words.length = ((s0_41 + 63) / 64).toNat) := he129
     refine Jo 1 ?_; rintro a130 k131 rfl
     refine Fb 8 1 fun _ => ?_
     refine Ost (Scl [2] sh53 [vi rv125.Width, vl a130 k131 rv125.Words]) (KS ?_)
     refine Oq Vm (Oq Vadd (Oq Va (KS ?_)))
     exact Kg (r59, rv125.Width, rv125.Words, (k_43 + 1), a130, k131) [2, 0, 1, 1, 2, 3, 4] ⟨(q3 hM46 (by simp only [r1_mix_L0, h57, h64, h114, h116, h118, h120, h122, hg61, hg63, hg126, cs4])), aM1, aM1, aM1, aM1, aM1, iv1, iv1⟩
    intro h122
    refine KS ?_
    refine Oq Vm (Oq Vadd (Oq Va (KS ?_)))
    exact Kg (r59, s0_41, s1_42, (k_43 + 1), a44, k45) [0, 0, 0, 0, 1, 2, 3] ⟨(q3 hM46 (by simp only [r1_mix_L0, h57, h64, h114, h116, h118, h120, h122, hg61, hg63, cs4])), aM1, aM1, aM1, aM1, aM1, iv1, iv1⟩
   intro h120
   refine Osk (Oq Vpf (Oq Vpf (KS ?_)))
   refine Kf (KS ?_)
   refine Oq Vm (Oq Vadd (Oq Va (KS ?_)))
   exact Kg (r59, s0_41, s1_42, (k_43 + 1), a44, k45) [0, 0, 0, 0, 1, 2, 3] ⟨(q3 hM46 (by simp only [r1_mix_L0, h57, h64, h114, h116, h118, h120, hg61, hg63, cs4])), aM1, aM1, aM1, aM1, aM1, iv1, iv1⟩
  intro h116
  exact absurd h116 (by first | (simp [h114]; done) | (simp only [bne, h114]; decide) | (simp only [bne, h114, Bool.not_true, Bool.not_false]; decide) | (exfalso; omega) | (intro hq; simp only [bne, hq, Bool.not_false, Bool.not_true, reduceCtorEq] at h114))
 intro h57
 have g135 := df h57
 obtain rfl : r40 = 0 := by omega
 refine Ke ?_
 have hR136 := q2 hM46 (s0_41, s1_42) (by simp only [r1_mix_L0, h57, cs4])
 refine KS ?_
 refine Oq (VldA sh53 1) (Ost (Scl [2] sh53 [vi s0_41, vl a44 k45 s1_42]) (Oq Va (KS ?_)))
 refine Jl [1] (Ent.freeze _ _) ?_
 have hq := q4 hrr ((GSet.mk s0_41 s1_42), 0) (by simp only [r1_mix, h9, h14, h19, h24, h26, h57, hg7, hg17, hg31, hR136, cs4]); subst hq
 exact Kr (vl a44 k45 s1_42) rfl (.cellN 1 rfl sh53 rfl (reads_Cl _ _) rfl (.tmp rfl .nil)) [0] en
theorem fn111 (a : GSet) (aa1 : Option Addr) (ak1 : Nat) (b : GSet) (ba1 : Option Addr) (bk1 : Nat) (ha_0 : i64ok a.Width) (hb_0 : i64ok b.Width) (rr : GSet × Int) (hrr : r1_Union a b = rr) : FT Tryz.prog 111 #[.agg #[vi a.Width, vl aa1 ak1 a.Words], .agg #[vi b.Width, vl ba1 bk1 b.Words]] [S aa1 ak1 a.Words, S ba1 bk1 b.Words] (fun g : Value => i64ok rr.1.Width ∧ i64ok rr.2) (fun g => .tuple #[.agg #[vi rr.1.Width, g], vi rr.2]) (fun g => [sl g rr.1.Words]) := by
 refine FTi Tryz.func111 fun w0 M0 F0 => ?_
 unfold i64ok at ha_0 hb_0
 refine Fb 8 0 fun _ => Fb 8 1 fun _ => KS ?_
 refine Oa (Ab [vi a.Width, vl aa1 ak1 a.Words]) fun p3 => Oa (Ab [vi b.Width, vl ba1 bk1 b.Words]) fun p4 => Oa (Al ze53 [vi 0, .slice none 0 0]) fun p5 => Oq Va (KS ?_)
 refine Oq (VldA sh53 2) (Oq (VldA sh53 1) ?_)
 refine letv (r1_mix a b true true true) fun rv7 hg8 => ?_
 have hc9 := fn114 a aa1 ak1 b ba1 bk1 true true true pre pre rv7 hg8
 refine Oc [3, 4] ca114 hc9 ?_
 rintro c6 ⟨he10, he11⟩
 unfold i64ok at he10 he11
 refine Jo 0 ?_; rintro a12 k13 rfl
 refine Fb 8 0 fun _ => ?_
 refine Oq Vx (Oq Vx (Ost (Scl [1] sh53 [vi rv7.1.Width, vl a12 k13 rv7.1.Words]) (Oq Va (KS ?_))))
 have hq := q4 hrr (rv7.1, rv7.2) (by simp only [r1_Union, hg8, cs4]); subst hq
 exact Kr (vl a12 k13 rv7.1.Words) rfl (.cellN 0 rfl sh53 rfl (reads_Cl _ _) rfl (.tmp rfl .nil)) [1] en
theorem fn106 (a : GSet) (aa1 : Option Addr) (ak1 : Nat) (b : GSet) (ba1 : Option Addr) (bk1 : Nat) (ha_0 : i64ok a.Width) (hb_0 : i64ok b.Width) (rr : GSet) (hrr : r1_Join a b = rr) : FT Tryz.prog 106 #[.agg #[vi a.Width, vl aa1 ak1 a.Words], .agg #[vi b.Width, vl ba1 bk1 b.Words]] [S aa1 ak1 a.Words, S ba1 bk1 b.Words] (fun g : Value => i64ok rr.Width) (fun g => .agg #[vi rr.Width, g]) (fun g => [sl g rr.Words]) := by
 refine FTi Tryz.func106 fun w0 M0 F0 => ?_
 unfold i64ok at ha_0 hb_0
 refine Fb 8 0 fun _ => Fb 8 1 fun _ => KS ?_
 refine Oa (Ab [vi a.Width, vl aa1 ak1 a.Words]) fun p3 => Oa (Ab [vi b.Width, vl ba1 bk1 b.Words]) fun p4 => Oa (Al ze53 [vi 0, .slice none 0 0]) fun p5 => KS ?_
 refine Oq (VldA sh53 2) (Oq (VldA sh53 1) ?_)
 refine letv (r1_Union a b) fun rv7 hg8 => ?_
 have hc9 := fn111 a aa1 ak1 b ba1 bk1 pre pre rv7 hg8
 refine Oc [3, 4] ca111 hc9 ?_
 rintro c6 ⟨he10, he11⟩
 unfold i64ok at he10 he11
 refine Jo 0 ?_; rintro a12 k13 rfl
 refine Fb 8 0 fun _ => ?_
 refine Oq Vm (Oq Vx (Oq Vx (Oa (Al ze53 [vi 0, .slice none 0 0]) fun p15 => Ost (Scl [0] sh53 [vi rv7.1.Width, vl a12 k13 rv7.1.Words]) (Oq Va (KS ?_)))))
 refine Oq (VldA sh53 0) (Ost (Scl [2] sh53 [vi rv7.1.Width, vl a12 k13 rv7.1.Words]) (KS ?_))
 have hq := q4 hrr rv7.1 (by simp only [r1_Join, hg8, cs4]); subst hq
 exact Kr (vl a12 k13 rv7.1.Words) rfl (.cellN 0 rfl sh53 rfl (reads_Cl _ _) rfl .nil) [2] en
theorem fn95 (s : GSystem) (sa1 : Option Addr) (sk1 : Nat) (sa2 : Option Addr) (sk2 : Nat) (sa3 : Option Addr) (sk3 : Nat) (v : List GSet) (va0 : Option Addr) (vk0 : Nat) (n : Int) (hs_0 : i64ok s.Width) (hn_0 : i64ok n) (hv : VSys s) (hl : v.length = s.Boundary.length) (hn : 0 ≤ n ∧ n < (s.Boundary.length : Int)) (rr : GSet) (hrr : r10_right s v n = rr) : FT Tryz.prog 95 #[.agg #[vi s.Width, vl sa1 sk1 s.Deps, vl sa2 sk2 s.Transfers, vl sa3 sk3 s.Boundary], vl va0 vk0 v, vi n] [S sa1 sk1 s.Deps, S sa2 sk2 s.Transfers, S sa3 sk3 s.Boundary, S va0 vk0 v] (fun g : Value => i64ok rr.Width) (fun g => .agg #[vi rr.Width, g]) (fun g => [sl g rr.Words]) := by
 refine FTi Tryz.func95 fun w0 M0 F0 => ?_
 unfold i64ok at hs_0 hn_0
 refine Fb 24 0 fun _ => Fb 88 1 fun _ => Fb 32 2 fun _ => Fb 32 3 fun _ => ?_
 have hv1 := hv.n
 have hv2 := hv.tl
 have hv3 := hv.bl
 have hv4 := hv.w
 have hv5 := hv.dep_len
 refine KS ?_
 refine Oa (Ab [vi s.Width, vl sa1 sk1 s.Deps, vl sa2 sk2 s.Transfers, vl sa3 sk3 s.Boundary]) fun p5 => Oa (Al ze53 [vi 0, .slice none 0 0]) fun p6 => KS ?_
 refine Oq (Vfa fo27_3 1) (Oq (VldF sh25 1) (Oq Vm (Oq (Vi sl25 4) ?_)))
 refine JJ_peek_GSet n.toNat 4 rfl rng fun a7 k8 hb9 => ?_
 unfold i64ok at hb9
 refine Fb 8 1 fun _ => ?_
 refine Oq (VldA sh53 0) (Oa (Al ze53 [vi 0, .slice none 0 0]) fun p11 => Ost (Scl [0] sh53 [vi ((s.Boundary.getD n.toNat default).Width), vl a7 k8 ((s.Boundary.getD n.toNat default).Words)]) (KS ?_))
 refine Oq Va (KS ?_)
 refine Kl (γ := Nat × Int × List (BitVec 64) × Int × Option Addr × Nat) (fun (r12, out0_13, out1_14, i_15, a16, k17) => ⟨[(1, vl va0 vk0 v), (2, vi n), (3, p5), (6, p6), (7, p11), (8, vi i_15)], [S a16 k17 out1_14, Cl p11 [vi out0_13, vl a16 k17 out1_14], Cl p6 [vi 0, .slice none 0 0], pv p5 [vi s.Width, vl sa1 sk1 s.Deps, vl sa2 sk2 s.Transfers, vl sa3 sk3 s.Boundary], S sa1 sk1 s.Deps, S sa2 sk2 s.Transfers, S sa3 sk3 s.Boundary, S va0 vk0 v], r10_right_L0 s v n r12 out0_13 out1_14 i_15 = r10_right_L0 s v n (((((s.Deps.getD n.toNat []).length : Int) : Int) - 0).toNat) ((s.Boundary.getD n.toNat default).Width) ((s.Boundary.getD n.toNat default).Words) 0 ∧ r12 = ((((s.Deps.getD n.toNat []).length : Int) : Int) - i_15).toNat ∧ (0 : Int) ≤ i_15 ∧ (i_15 ≤ ((s.Deps.getD n.toNat []).length : Int) ∨ i_15 = 0) ∧ (-9223372036854775808 ≤ out0_13 ∧ out0_13 ≤ 9223372036854775807) ∧ (-9223372036854775808 ≤ i_15 ∧ i_15 ≤ 9223372036854775807), r12⟩) (((((s.Deps.getD n.toNat []).length : Int) : Int) - 0).toNat, (s.Boundary.getD n.toNat default).Width, (s.Boundary.getD n.toNat default).Words, 0, a7, k8) [2, 0, 2, 2, 3, 4, 5, 6] ⟨rfl, rfl, aM1, (.inr rfl), aM1, aM1⟩ ?_
 rintro ⟨r12, out0_13, out1_14, i_15, a16, k17⟩ ⟨hM18, hr19, hi20, hi21, hk22, hk23⟩
 refine JJ_nx fun _ _ hL hA => ?_; dsimp only at hL hA; subst hL hA
 refine Fb 8 0 fun _ => Fb 24 4 fun _ => Fb 88 5 fun _ => Fb 32 6 fun _ => Fb 32 7 fun _ => KS ?_
 refine Oq Vm (Oq (Vfa fo27_1 3) (Oq (VldF sh23 3) (Oq Vm (Oq (Vi sl23 4) ?_))))
 refine JJ_peekL n.toNat 4 rfl rng fun a29 k30 => ?_
 refine Fb 8 1 fun _ => Fo 1 fun ho32 => ?_
 refine Oq (Vld sh22 0) (Oq (Vlen sl22) (Oq Vlss (KS ?_)))
 refine Kc ?_ ?_
 ·intro h33
  have g34 := dt h33
  have hq := hv.dep_mem (j := n) aM1 aM1 _ (getD_mem (xs := s.Deps.getD n.toNat []) (i := i_15.toNat) (d := 0) aM1)
  obtain ⟨r35, rfl⟩ := scc (n := r12) aM1
  refine KS ?_
  refine Oq (Vfa fo27_1 5) (Oq (VldF sh23 5) (Oq Vm (Oq (Vi sl23 6) (Oq (Vld sh22 0) (Oq Vm (Oq (Vi sl22 1) ?_))))))
  have hb36 := ok1 (i := i_15.toNat) ho32 rng
  refine Oq (VldI sh3 1) (Oq Va (KS ?_))
  refine JJ_peek_GTransfer (((s.Deps.getD n.toNat []).getD i_15.toNat 0) : Int).toNat 7 rfl rng fun a37 k38 a39 k40 a41 k42 hb43 hb44 => ?_
  unfold i64ok at hb43 hb44
  refine Fb 8 1 fun _ => Fb 8 2 fun _ => Fb 16 3 fun _ => ?_
  refine JJ_peek_GSet (((s.Deps.getD n.toNat []).getD i_15.toNat 0) : Int).toNat 13 rfl rng fun a48 k49 hb50 => ?_
  unfold i64ok at hb50
  refine Fb 8 1 fun _ => ?_
  refine JK_drawK [0, 1, 0, 7, 15, 0, 0, 96, 224, 511, 1023, 2047, 2047, 0, 12287, 32767] fmix ?_
  refine Dv [11] (Vfa fo27_2 0) (Dv [11] (VldF sh24 0) (Dv [] Vm (Dv [13] (Vi sl24 0) (Dv [2] (VldA sh57 0) (Dv [] Vm (Dv [] Vm (Dv [15] (Vi sl25 0) (Dv [0] (VldA sh53 0) ?_))))))))
  refine letv (r1_Apply (s.Transfers.getD (((s.Deps.getD n.toNat []).getD i_15.toNat 0) : Int).toNat default) (v.getD (((s.Deps.getD n.toNat []).getD i_15.toNat 0) : Int).toNat default)) fun rv53 hg54 => ?_
  refine Dx [1, 3, 4, 5] [] [2, 3, 4, 5, 0, 1] (fun G => .tuple #[.agg #[vi rv53.1.Width, (G.g 9 0)], vi rv53.2]) [fun G => SP.fact (i64ok rv53.1.Width ∧ i64ok rv53.2), fun G => sl (G.g 9 0) rv53.1.Words] (fun G => xC [1, 2, 3, 0] ca105 (fn105 ((s.Transfers.getD (((s.Deps.getD n.toNat []).getD i_15.toNat 0) : Int).toNat default)) a37 k38 a39 k40 a41 k42 ((v.getD (((s.Deps.getD n.toNat []).getD i_15.toNat 0) : Int).toNat default)) a48 k49 pre pre pre rv53 hg54)) (Dg [] (fun G => .tuple #[.agg #[vi rv53.1.Width, (G.g 9 0)], vi rv53.2]) (fun G => Vm) (Dg [] (fun G => .agg #[vi rv53.1.Width, (G.g 9 0)]) (fun G => Vx) (Dv [] Vx (Dx [] [] [0] (fun G => (G.g 13 0)) [fun G => Cl (G.g 13 0) [vi 0, .slice none 0 0]] (fun G => xA (Al ze53 [vi 0, .slice none 0 0])) (Dx0 [17, 18] [18] [1, 0] [fun G => Cl (G.g 13 0) [vi rv53.1.Width, (G.g 9 0)]] (fun G => x1 0 rfl sl_one fun ho56 => (xS (Scl [1] sh53 [vi rv53.1.Width, (G.g 9 0)] (v := .agg #[vi rv53.1.Width, (G.g 9 0)]) (h1 := show [vi rv53.1.Width, (G.g 9 0)].all (·.oneCell') = true from (by simp only [List.all_cons, List.all_nil, ho56, Bool.and_true, Bool.true_and] <;> rfl))))) (Dv [] Va ?_))))))
  refine Dn ⟨by kernel_rfl, fun G => ?_⟩
  refine Jw2 [(1, vl va0 vk0 v), (2, vi n), (3, p5), (6, p6), (7, p11), (8, vi i_15), (10, (G.g 13 0))] [0, 1, 2, 3, 4, 5, 6, 7, 8, 9, 10, 11, 12, 13, 14, 15] [SP.fact (i64ok rv53.1.Width ∧ i64ok rv53.2), sl (G.g 9 0) rv53.1.Words, Cl (G.g 13 0) [vi rv53.1.Width, (G.g 9 0)]] ?_
  generalize G.g 9 0 = c52, G.g 13 0 = p55
  refine Jf 16 rfl ?_; rintro ⟨he57, he58⟩
  unfold i64ok at he57 he58
  refine Jk [0, 1, 2, 3, 4, 5, 6, 7, 8, 9, 9, 9, 10, 11, 12, 13, 15, 16] ?_
  refine Jo 16 ?_; rintro a59 k60 rfl
  refine Fb 8 16 fun _ => KS ?_
  refine Oq (VldA sh53 9) (Oq (VldA sh53 17) ?_)
  refine letv (r1_Join (GSet.mk out0_13 out1_14) rv53.1) fun rv63 hg64 => ?_
  have hc65 := fn106 ((GSet.mk out0_13 out1_14)) a16 k17 rv53.1 a59 k60 pre pre rv63 hg64
  refine Oc [8, 16] ca106 hc65 ?_
  rintro c62 he66
  unfold i64ok at he66
  refine Jo 0 ?_; rintro a67 k68 rfl
  refine Fb 8 0 fun _ => ?_
  refine Ost (Scl [10] sh53 [vi rv63.Width, vl a67 k68 rv63.Words]) (KS ?_)
  refine Oq Vm (Oq Vadd (Oq Va (KS ?_)))
  exact Kg (r35, rv63.Width, rv63.Words, (i_15 + 1), a67, k68) [1, 0, 10, 10, 11, 12, 13, 14] ⟨(q3 hM18 (by simp only [r10_right_L0, h33, hg54, hg64, cs4])), aM1, aM1, aM1, aM1, aM1⟩
 intro h33
 have g70 := df h33
 obtain rfl : r12 = 0 := by omega
 refine Ke ?_
 have hR71 := q2 hM18 (out0_13, out1_14) (by simp only [r10_right_L0, h33, cs4])
 refine KS ?_
 refine Oq (VldA sh53 3) (Ost (Scl [4] sh53 [vi out0_13, vl a16 k17 out1_14]) (KS ?_))
 have hq := q4 hrr (GSet.mk out0_13 out1_14) (by simp only [r10_right, h33, hR71, cs4]); subst hq
 exact Kr (vl a16 k17 out1_14) rfl (.cellN 0 rfl sh53 rfl (reads_Cl _ _) rfl .nil) [3] en
theorem fn77 (s : GSystem) (sa1 : Option Addr) (sk1 : Nat) (sa2 : Option Addr) (sk2 : Nat) (sa3 : Option Addr) (sk3 : Nat) (v : List GSet) (va0 : Option Addr) (vk0 : Nat) (n : Int) (hs_0 : i64ok s.Width) (hn_0 : i64ok n) (rr : GSet × Int) (hrr : r10_Right s v n = rr) : FT Tryz.prog 77 #[.agg #[vi s.Width, vl sa1 sk1 s.Deps, vl sa2 sk2 s.Transfers, vl sa3 sk3 s.Boundary], vl va0 vk0 v, vi n] [S sa1 sk1 s.Deps, S sa2 sk2 s.Transfers, S sa3 sk3 s.Boundary, S va0 vk0 v] (fun g : Value => i64ok rr.1.Width ∧ i64ok rr.2) (fun g => .tuple #[.agg #[vi rr.1.Width, g], vi rr.2]) (fun g => [sl g rr.1.Words]) := by
 refine FTi Tryz.func77 fun w0 M0 F0 => ?_
 unfold i64ok at hs_0 hn_0
 refine Fb 24 0 fun _ => Fb 88 1 fun _ => Fb 32 2 fun _ => Fb 32 3 fun _ => KS ?_
 refine Oa (Ab [vi s.Width, vl sa1 sk1 s.Deps, vl sa2 sk2 s.Transfers, vl sa3 sk3 s.Boundary]) fun p5 => Oa (Al ze53 [vi 0, .slice none 0 0]) fun p6 => Oq Va (KS ?_)
 refine Oq (VldA sh27 1) ?_
 refine letv (r10_Valid s) fun rv7 hg8 => ?_
 have hc9 := fn23 s sa1 sk1 sa2 sk2 sa3 sk3 pre rv7 hg8
 refine Oc [2, 3, 4] ca23 hc9 ?_
 rintro - -
 refine Oq Vnot (KS ?_)
 refine Kc ?_ ?_
 ·intro h10
  have h12 := not_true h10
  refine KS ?_
  refine Oq (Vbd st53 [vi 0, .slice none 0 0]) (Ost (Scl [0] sh53 [vi 0, .slice none 0 0]) (Oq Va (KS ?_)))
  refine Jl [] (Ent.slNil (α := BitVec 64)) ?_
  have hq := q4 hrr ((GSet.mk 0 []), 1) (by simp only [r10_Right, h10, h12, hg8, cs4]); subst hq
  exact Kr (.slice none 0 0) rfl (.cellN 1 rfl sh53 rfl (reads_Cl _ _) rfl (.tmp rfl .nil)) [0] en
 intro h10
 have h15 := not_false h10
 try (have hvs := (RefValid_iff s).1 (by simp only [h10, h15, hg8]); have hv1 := hvs.n; have hv2 := hvs.tl; have hv3 := hvs.bl; have hv4 := hvs.w)
 refine KS ?_
 refine Oq Vm (Oq Vlss (Oq Vm ?_))
 refine Js 15 ?_ ?_
 ·intro h17
  have g18 := dt h17
  refine Osk (Osk (Osk (Osk (Osk (Oq Vpt (KS ?_))))))
  refine Kt (KS ?_)
  refine Oq (Vbd st53 [vi 0, .slice none 0 0]) (Ost (Scl [0] sh53 [vi 0, .slice none 0 0]) (Oq Va (KS ?_)))
  refine Jl [] (Ent.slNil (α := BitVec 64)) ?_
  have hq := q4 hrr ((GSet.mk 0 []), 9) (by simp only [r10_Right, h10, h15, h17, hg8, cs4]); subst hq
  exact Kr (.slice none 0 0) rfl (.cellN 1 rfl sh53 rfl (reads_Cl _ _) rfl (.tmp rfl .nil)) [0] en
 intro h17
 have g19 := df h17
 refine Oq Vm (Oq (Vfa fo27_3 1) (Oq (VldF sh25 1) (Oq (Vlen sl25) (Oq Vgeq (Oq Vpf (KS ?_))))))
 refine Kc ?_ ?_
 ·intro h20
  have g21 := dt h20
  refine KS ?_
  refine Oq (Vbd st53 [vi 0, .slice none 0 0]) (Ost (Scl [0] sh53 [vi 0, .slice none 0 0]) (Oq Va (KS ?_)))
  refine Jl [] (Ent.slNil (α := BitVec 64)) ?_
  have hq := q4 hrr ((GSet.mk 0 []), 9) (by simp only [r10_Right, h10, h15, h17, h20, hg8, cs4]); subst hq
  exact Kr (.slice none 0 0) rfl (.cellN 1 rfl sh53 rfl (reads_Cl _ _) rfl (.tmp rfl .nil)) [0] en
 intro h20
 have g22 := df h20
 refine KS ?_
 refine Oq (VldA sh27 1) (Oq Vm ?_)
 refine letv (r10_values s v) fun rv23 hg24 => ?_
 have hc25 := fn94 s sa1 sk1 sa2 sk2 sa3 sk3 v va0 vk0 pre rv23 hg24
 refine Oc [2, 3, 4, 5] ca94 hc25 ?_
 rintro - he26
 unfold i64ok at he26
 refine Oq Va (KS ?_)
 refine Oq Vm (Oq Vneq (KS ?_))
 refine Kc ?_ ?_
 ·intro h27
  have g28 := ne_of_bne h27
  refine KS ?_
  refine Oq (Vbd st53 [vi 0, .slice none 0 0]) (Oq Vm (Ost (Scl [0] sh53 [vi 0, .slice none 0 0]) (Oq Va (KS ?_))))
  refine Jl [] (Ent.slNil (α := BitVec 64)) ?_
  have hq := q4 hrr ((GSet.mk 0 []), rv23) (by simp only [r10_Right, h10, h15, h17, h20, h27, hg8, hg24, cs4]); subst hq
  exact Kr (.slice none 0 0) rfl (.cellN 1 rfl sh53 rfl (reads_Cl _ _) rfl (.tmp rfl .nil)) [0] en
 intro h27
 have g29 := eq_of_bne_false h27
 refine KS ?_
 refine Oq (VldA sh27 1) (Oq Vm (Oq Vm ?_))
 refine letv (r10_right s v n) fun rv31 hg32 => ?_
 have hc33 := fn95 s sa1 sk1 sa2 sk2 sa3 sk3 v va0 vk0 n pre pre hvs (values_len aM1) pre rv31 hg32
 refine Oc [2, 3, 4, 5] ca95 hc33 ?_
 rintro c30 he34
 unfold i64ok at he34
 refine Jo 0 ?_; rintro a35 k36 rfl
 refine Fb 8 0 fun _ => ?_
 refine Ost (Scl [1] sh53 [vi rv31.Width, vl a35 k36 rv31.Words]) (Oq Va (KS ?_))
 have hq := q4 hrr (rv31, 0) (by simp only [r10_Right, h10, h15, h17, h20, h27, hg8, hg24, hg32, cs4]); subst hq
 exact Kr (vl a35 k36 rv31.Words) rfl (.cellN 0 rfl sh53 rfl (reads_Cl _ _) rfl (.tmp rfl .nil)) [1] en
theorem fn56 (s : GSystem) (sa1 : Option Addr) (sk1 : Nat) (sa2 : Option Addr) (sk2 : Nat) (sa3 : Option Addr) (sk3 : Nat) (v : List GSet) (va0 : Option Addr) (vk0 : Nat) (hs_0 : i64ok s.Width) (rr : List GSet × Int) (hrr : r10_Next s v = rr) : FT Tryz.prog 56 #[.agg #[vi s.Width, vl sa1 sk1 s.Deps, vl sa2 sk2 s.Transfers, vl sa3 sk3 s.Boundary], vl va0 vk0 v] [S sa1 sk1 s.Deps, S sa2 sk2 s.Transfers, S sa3 sk3 s.Boundary, S va0 vk0 v] (fun g : Value => i64ok rr.2 ∧ (rr.1.length ≤ s.Boundary.length + 1)) (fun g => .tuple #[g, vi rr.2]) (fun g => [sl g rr.1]) := by
 refine FTi Tryz.func56 fun w0 M0 F0 => ?_
 unfold i64ok at hs_0
 refine Fb 24 0 fun _ => Fb 88 1 fun _ => Fb 32 2 fun _ => Fb 32 3 fun _ => KS ?_
 refine Oa (Ab [vi s.Width, vl sa1 sk1 s.Deps, vl sa2 sk2 s.Transfers, vl sa3 sk3 s.Boundary]) fun p5 => Oq Va (Oq Va (KS ?_))
 refine Oq Va (KS ?_)
 refine Oq Va (KS ?_)
 refine Jl [] (Ent.osNil (α := GSet)) ?_
 refine Kl (γ := Nat × List GSet × Int × Option Addr × Nat) (fun (r6, out_7, n_8, a9, k10) => ⟨[(1, vl va0 vk0 v), (2, p5), (6, vl a9 k10 out_7), (7, vi n_8)], [O a9 k10 out_7, pv p5 [vi s.Width, vl sa1 sk1 s.Deps, vl sa2 sk2 s.Transfers, vl sa3 sk3 s.Boundary], S sa1 sk1 s.Deps, S sa2 sk2 s.Transfers, S sa3 sk3 s.Boundary, S va0 vk0 v], r10_Next_L0 s v r6 out_7 n_8 = r10_Next_L0 s v ((((max (s.Boundary.length : Int) 1) : Int) - 0).toNat) [] 0 ∧ r6 = (((max (s.Boundary.length : Int) 1) : Int) - n_8).toNat ∧ (0 : Int) ≤ n_8 ∧ (n_8 ≤ (max (s.Boundary.length : Int) 1) ∨ n_8 = 0) ∧ (-9223372036854775808 ≤ n_8 ∧ n_8 ≤ 9223372036854775807) ∧ (out_7.length : Int) = n_8, r6⟩) ((((max (s.Boundary.length : Int) 1) : Int) - 0).toNat, [], 0, none, 0) [0, 0, 1, 2, 3, 4] ⟨rfl, rfl, aM1, (.inr rfl), aM1, iv0⟩ ?_
 rintro ⟨r6, out_7, n_8, a9, k10⟩ ⟨hM11, hr12, hi13, hi14, hk15, hv16⟩
 refine JJ_nx fun _ _ hL hA => ?_; dsimp only at hL hA; subst hL hA
 refine Fb 32 0 fun _ => Fb 24 2 fun _ => Fb 88 3 fun _ => Fb 32 4 fun _ => Fb 32 5 fun _ => KS ?_
 refine Oq Vm (Oq (Vfa fo27_3 1) (Oq (VldF sh25 1) (Oq (Vlen sl25) (Oq Vmax (Oq Vlss (KS ?_))))))
 refine Kc ?_ ?_
 ·intro h22
  have g23 := dt h22
  obtain ⟨r24, rfl⟩ := scc (n := r6) aM1
  refine KS ?_
  refine Oq (VldA sh27 1) (Oq Vm (Oq Vm ?_))
  refine letv (r10_Right s v n_8) fun rv26 hg27 => ?_
  have hc28 := fn77 s sa1 sk1 sa2 sk2 sa3 sk3 v va0 vk0 n_8 pre pre rv26 hg27
  refine Oc [2, 3, 4, 5] ca77 hc28 ?_
  rintro c25 ⟨he29, he30⟩
  unfold i64ok at he29 he30
  refine Jo 0 ?_; rintro a31 k32 rfl
  refine Fb 8 0 fun _ => ?_
  refine Oq Vm (Oq Vx (Oq Vx (Oa (Al ze53 [vi 0, .slice none 0 0]) fun p34 => Ost (Scl [0] sh53 [vi rv26.1.Width, vl a31 k32 rv26.1.Words]) (Oq Va (KS ?_)))))
  refine Oq Vm (Oq Vneq (KS ?_))
  refine Kc ?_ ?_
  ·intro h35
   have g36 := ne_of_bne h35
   refine KS ?_
   refine Oq Vm (Oq Va (Oq Va (KS ?_)))
   refine Jl [] (Ent.slNil (α := GSet)) ?_
   have hR37 := q2 hM11 (.ret (([] : List GSet), rv26.2)) (by simp only [r10_Next_L0, h22, h35, hg27, cs4])
   have hq := q4 hrr (([] : List GSet), rv26.2) (by simp only [r10_Next, h22, h35, hg27, hR37, cs4]); subst hq
   exact Kr (.slice none 0 0) rfl (.tmp rfl (.tmp rfl .nil)) [0] en
  intro h35
  have g38 := eq_of_bne_false h35
  refine KS ?_
  refine Oq Vm (Oq (VldA sh53 0) (Oa (AsV sl25 sz25 [.agg #[vi rv26.1.Width, vl a31 k32 rv26.1.Words]] [vi rv26.1.Width, vl a31 k32 rv26.1.Words]) fun c39 => ?_))
  refine Jo 0 ?_; rintro a40 k41 rfl
  refine Jl [0, 1] (Ent.cr1 (α := GSet) (A := [S a31 k32 rv26.1.Words]) _ rv26.1 _ aB1 (fun h => ⟨_, rfl, aL1, sepAll_get (i := 0) rfl h⟩)) ?_
  refine Oa (ApO [4, 0] sl25 sl25 sz25) fun c42 => ?_
  refine Jo 0 ?_; rintro a43 k44 rfl
  refine Fb 32 0 fun _ => ?_
  have hn46 := la out_7 ([rv26.1] : List GSet)
  refine Oq Va (KS ?_)
  refine Oq Vm (Oq Vadd (Oq Va (KS ?_)))
  exact Kg (r24, (out_7 ++ [rv26.1]), (n_8 + 1), a43, k44) [0, 3, 4, 5, 6, 7] ⟨(q3 hM11 (by simp only [r10_Next_L0, h22, h35, hg27, cs4])), aM1, aM1, aM1, aM1, iv1⟩
 intro h22
 have g47 := df h22
 obtain rfl : r6 = 0 := by omega
 refine Ke ?_
 have hR48 := q2 hM11 (.brk out_7) (by simp only [r10_Next_L0, h22, cs4])
 refine KS ?_
 refine Oq Vm (Oq Va (Oq Va (KS ?_)))
 refine Jl [0] (Ent.freeze _ _) ?_
 have hq := q4 hrr (out_7, 0) (by simp only [r10_Next, h22, hR48, cs4]); subst hq
 exact Kr (vl a9 k10 out_7) rfl (.tmp rfl (.tmp rfl .nil)) [0] en
theorem fn27 (s : GSystem) (sa1 : Option Addr) (sk1 : Nat) (sa2 : Option Addr) (sk2 : Nat) (sa3 : Option Addr) (sk3 : Nat) (hs_0 : i64ok s.Width) (rr : List GSet × Int × Int) (hrr : r10_Solve s = rr) : FT Tryz.prog 27 #[.agg #[vi s.Width, vl sa1 sk1 s.Deps, vl sa2 sk2 s.Transfers, vl sa3 sk3 s.Boundary]] [S sa1 sk1 s.Deps, S sa2 sk2 s.Transfers, S sa3 sk3 s.Boundary] (fun g : Value => i64ok rr.2.1 ∧ i64ok rr.2.2 ∧ (rr.1.length ≤ 257)) (fun g => .tuple #[g, vi rr.2.1, vi rr.2.2]) (fun g => [sl g rr.1]) := by
 refine FTi Tryz.func27 fun w0 M0 F0 => ?_
 unfold i64ok at hs_0
 refine Fb 24 0 fun _ => Fb 88 1 fun _ => Fb 32 2 fun _ => KS ?_
 refine Oa (Ab [vi s.Width, vl sa1 sk1 s.Deps, vl sa2 sk2 s.Transfers, vl sa3 sk3 s.Boundary]) fun p4 => Oq Va (Oq Va (Oq Va (KS ?_)))
 refine Oq (VldA sh27 0) ?_
 refine letv (r10_Valid s) fun rv5 hg6 => ?_
 have hc7 := fn23 s sa1 sk1 sa2 sk2 sa3 sk3 pre rv5 hg6
 refine Oc [1, 2, 3] ca23 hc7 ?_
 rintro - -
 refine Oq Vnot (KS ?_)
 refine Kc ?_ ?_
 ·intro h8
  have h10 := not_true h8
  refine KS ?_
  refine Oq Va (Oq Va (Oq Va (KS ?_)))
  refine Jl [] (Ent.slNil (α := GSet)) ?_
  have hq := q4 hrr (([] : List GSet), 0, 1) (by simp only [r10_Solve, h8, h10, hg6, cs4]); subst hq
  exact Kr (.slice none 0 0) rfl (.tmp rfl (.tmp rfl (.tmp rfl .nil))) [0] en
 intro h8
 have h13 := not_false h8
 try (have hvs := (RefValid_iff s).1 (by simp only [h8, h13, hg6]); have hv1 := hvs.n; have hv3 := hvs.bl; have hv4 := hvs.w; have hbb : s.Boundary.length * s.Width.toNat ≤ 256 * 256 := Nat.mul_le_mul aM1 aM1)
 refine KS ?_
 refine Oq (VldA sh27 0) ?_
 refine letv (r10_Empty s) fun rv16 hg17 => ?_
 have hc18 := fn55 s sa1 sk1 sa2 sk2 sa3 sk3 pre pre rv16 hg17
 refine Oc [1, 2, 3] ca55 hc18 ?_
 rintro c15 he19
 refine Jo 0 ?_; rintro a20 k21 rfl
 refine Fb 32 0 fun _ => ?_
 refine Oq Va (KS ?_)
 refine Oq Va (KS ?_)
 have hterm32 : r10_Solve_L0 s (s.Boundary.length * s.Width.toNat + 2) rv16 0 ≠ LR.oof := (Solve_term (by simp only [h8, h13, hg6, hg17]) (by assumption))
 refine Kl (γ := Nat × List GSet × Int × Option Addr × Nat) (fun (r23, v_24, round_25, a26, k27) => ⟨[(1, p4), (5, vl a26 k27 v_24), (6, vi round_25)], [S a26 k27 v_24, pv p4 [vi s.Width, vl sa1 sk1 s.Deps, vl sa2 sk2 s.Transfers, vl sa3 sk3 s.Boundary], S sa1 sk1 s.Deps, S sa2 sk2 s.Transfers, S sa3 sk3 s.Boundary], r10_Solve_L0 s r23 v_24 round_25 = r10_Solve_L0 s (s.Boundary.length * s.Width.toNat + 2) rv16 0 ∧ (-9223372036854775808 ≤ round_25 ∧ round_25 ≤ 9223372036854775807) ∧ 0 ≤ round_25 ∧ round_25 + (r23 : Int) = ((s.Boundary.length * s.Width.toNat + 2 : Nat) : Int) ∧ v_24.length ≤ s.Boundary.length + 1, r23⟩) ((s.Boundary.length * s.Width.toNat + 2), rv16, 0, a20, k21) [0, 1, 2, 3, 4] ⟨rfl, aM1, iv0, iv0⟩ ?_
 rintro ⟨r23, v_24, round_25, a26, k27⟩ ⟨hM28, hk29, hv30, hv31⟩
 refine JJ_nx fun _ _ hL hA => ?_; dsimp only at hL hA; subst hL hA
 refine Fb 32 0 fun _ => Fb 24 2 fun _ => Fb 88 3 fun _ => Fb 32 4 fun _ => ?_
 rcases r23 with _ | r23
 ·exact absurd (hM28.symm.trans rfl) hterm32
 refine KS ?_
 refine Oq (VldA sh27 1) (Oq Vm ?_)
 refine letv (r10_Next s v_24) fun rv38 hg39 => ?_
 have hc40 := fn56 s sa1 sk1 sa2 sk2 sa3 sk3 v_24 a26 k27 pre rv38 hg39
 refine Oc [2, 3, 4, 0] ca56 hc40 ?_
 rintro c37 ⟨he41, he42⟩
 unfold i64ok at he41
 refine Jo 0 ?_; rintro a43 k44 rfl
 refine Fb 32 0 fun _ => ?_
 refine Oq Vm (Oq Vx (Oq Vx (Oq Va (Oq Va (KS ?_)))))
 refine Oq Vm (Oq Vm ?_)
 refine letv (r10_SameSets rv38.1 v_24) fun rv46 hg47 => ?_
 have hc48 := fn47 rv38.1 a43 k44 v_24 a26 k27 rv46 hg47
 refine Oc [0, 1] ca47 hc48 ?_
 rintro - -
 refine KS ?_
 refine Kc ?_ ?_
 ·intro h49
  try (have hvs := (RefValid_iff s).1 (by simp only [h8, h13, h49, hg6, hg17, hg39, hg47]); have hv1 := hvs.n; have hv3 := hvs.bl; have hv4 := hvs.w; have hbb : s.Boundary.length * s.Width.toNat ≤ 256 * 256 := Nat.mul_le_mul aM1 aM1)
  refine KS ?_
  refine Oq Vm (Oq Vm (Oq Va (Oq Va (Oq Va (KS ?_)))))
  have hR51 := q2 hM28 (.ret (v_24, round_25, 0)) (by simp only [r10_Solve_L0, h49, hg39, hg47, cs4])
  have hq := q4 hrr (v_24, round_25, 0) (by simp only [r10_Solve, h8, h13, h49, hg6, hg17, hg39, hg47, hR51, cs4]); subst hq
  exact Kr (vl a26 k27 v_24) rfl (.tmp rfl (.tmp rfl (.tmp rfl .nil))) [1] en
 intro h49
 refine KS ?_
 refine Oq Vm (Oq Va (KS ?_))
 refine Oq Vm (Oq Vadd (Oq Va (KS ?_)))
 exact Kg (r23, rv38.1, (round_25 + 1), a43, k44) [0, 2, 3, 4, 5] ⟨(q3 hM28 (by simp only [r10_Solve_L0, h49, hg39, hg47, cs4])), aM1, iv1, iv1⟩
theorem fn9 (kP : Value) (ka : Option Addr) (kk : Nat) (kT : List Int) (kI : Int) (s : GSystem) (sa1 : Option Addr) (sk1 : Nat) (sa2 : Option Addr) (sk2 : Nat) (sa3 : Option Addr) (sk3 : Nat) (wrong : Bool) (hkI : 0 ≤ kI ∧ kI ≤ (kT.length : Int)) (hs_0 : i64ok s.Width) (hw0 : 0 ≤ s.Width ∧ s.Width ≤ 250) (rr : List GKnown × Int) (hrr : w14_known kT kI s wrong = rr) : FT Tryz.prog 9 #[kP, .agg #[vi s.Width, vl sa1 sk1 s.Deps, vl sa2 sk2 s.Transfers, vl sa3 sk3 s.Boundary], vb wrong] [Cl kP [vl ka kk kT, vi kI], S ka kk kT, S sa1 sk1 s.Deps, S sa2 sk2 s.Transfers, S sa3 sk3 s.Boundary] (fun g : Value => (0 ≤ rr.2 ∧ rr.2 ≤ (kT.length : Int)) ∧ (rr.1.length ≤ 257)) (fun g => g) (fun g => [sl g rr.1, Cl kP [vl ka kk kT, vi rr.2]]) := by
 refine FTi Tryz.func9 fun w0 M0 F0 => ?_
 unfold i64ok at hs_0
 refine Fb 8 1 fun _ => Fo 1 fun ho2 => Fb 24 2 fun _ => Fb 88 3 fun _ => Fb 32 4 fun _ => KS ?_
 refine Oa (Ab [vi s.Width, vl sa1 sk1 s.Deps, vl sa2 sk2 s.Transfers, vl sa3 sk3 s.Boundary]) fun p6 => Oq Va (KS ?_)
 refine Oq (VldA sh27 0) ?_
 refine letv (r10_Solve s) fun rv8 hg9 => ?_
 have hc10 := fn27 s sa1 sk1 sa2 sk2 sa3 sk3 pre rv8 hg9
 refine Oc [3, 4, 5] ca27 hc10 ?_
 rintro c7 ⟨he11, he12, he13⟩
 unfold i64ok at he11 he12
 refine Jo 0 ?_; rintro a14 k15 rfl
 refine Fb 32 0 fun _ => ?_
 refine Oq Vm (Oq Vx (Oq Vx (Oq Vx (Oq Va (Oq Va (Oq Va (KS ?_)))))))
 refine Oq Va (KS ?_)
 refine Oq Va (KS ?_)
 refine Jl [] (Ent.osNil (α := GKnown)) ?_
 refine Kl (γ := Nat × Int × List GKnown × Int × Option Addr × Nat) (fun (r17, ti_18, out_19, i_20, a21, k22) => ⟨[(0, kP), (2, vb wrong), (4, p6), (7, vl a14 k15 rv8.1), (10, vl a21 k22 out_19), (11, vi i_20)], [O a21 k22 out_19, S a14 k15 rv8.1, pv p6 [vi s.Width, vl sa1 sk1 s.Deps, vl sa2 sk2 s.Transfers, vl sa3 sk3 s.Boundary], Cl kP [vl ka kk kT, vi ti_18], S ka kk kT, S sa1 sk1 s.Deps, S sa2 sk2 s.Transfers, S sa3 sk3 s.Boundary], w14_known_L0 kT s wrong rv8.1 r17 ti_18 out_19 i_20 = w14_known_L0 kT s wrong rv8.1 (((rv8.1.length : Int) - 0).toNat) kI [] 0 ∧ r17 = ((rv8.1.length : Int) - i_20).toNat ∧ (0 : Int) ≤ i_20 ∧ i_20 ≤ (rv8.1.length : Int) ∧ (-9223372036854775808 ≤ ti_18 ∧ ti_18 ≤ 9223372036854775807) ∧ (0 ≤ ti_18 ∧ ti_18 ≤ (kT.length : Int)) ∧ (-9223372036854775808 ≤ i_20 ∧ i_20 ≤ 9223372036854775807) ∧ (out_19.length : Int) ≤ i_20 ∧ i_20 ≤ 257, r17⟩) (((rv8.1.length : Int) - 0).toNat, kI, [], 0, none, 0) [0, 0, 1, 2, 2, 3, 4, 5] ⟨rfl, rfl, aM1, aM1, aM1, aM1, aM1, iv0⟩ ?_
 rintro ⟨r17, ti_18, out_19, i_20, a21, k22⟩ ⟨hM23, hr24, hi25, hi26, hk27, ht28, hk29, hv30⟩
 refine JJ_nx fun _ _ hL hA => ?_; dsimp only at hL hA; subst hL hA
 refine Fb 40 0 fun _ => Fb 32 1 fun _ => Fb 8 4 fun _ => Fo 4 fun ho34 => Fb 24 5 fun _ => Fb 88 6 fun _ => Fb 32 7 fun _ => KS ?_
 refine Oq Vm (Oq Vm (Oq (Vlen sl25) (Oq Vlss (KS ?_))))
 refine Kc ?_ ?_
 ·intro h38
  have g39 := dt h38
  obtain ⟨r40, rfl⟩ := scc (n := r17) aM1
  refine KS ?_
  refine Oq Vm ?_
  refine letv (tp_Next kT ti_18 3) fun rv41 hg42 => ?_
  have hc43 := fn7 kP ka kk kT ti_18 3 pre pre rv41 hg42
  refine Oc [3, 3] ca7 hc43 ?_
  rintro - ⟨he44, he45, he46⟩
  unfold i64ok at he44
  refine Oq Vneq (KS ?_)
  refine Kc ?_ ?_
  ·intro h47
   have g48 := ne_of_bne h47
   refine Ke ?_
   refine KS ?_
   refine Oq Vm (Oq Vadd (Oq Va (KS ?_)))
   exact Kg (r40, rv41.2, out_19, (i_20 + 1), a21, k22) [1, 1, 2, 0, 2, 3, 4, 5] ⟨(q3 hM23 (by simp only [w14_known_L0, h38, h47, hg42, cs4])), aM1, aM1, aM1, aM1, aM1, aM1, iv1⟩
  intro h47
  have g49 := eq_of_bne_false h47
  refine KS ?_
  refine Oq Vm (Oq Vm (Oq Vm (Oq (Vi sl25 2) ?_)))
  refine JJ_peek_GSet i_20.toNat 2 rfl rng fun a50 k51 hb52 => ?_
  unfold i64ok at hb52
  refine Fb 8 1 fun _ => ?_
  refine Oq (VldA sh53 0) (Oq (Vbd st65 [vi i_20, vi ((rv8.1.getD i_20.toNat default).Width), vl a50 k51 ((rv8.1.getD i_20.toNat default).Words)]) (Oa (Al ze65 [vi 0, vi 0, .slice none 0 0]) fun p54 => Ost (Scl [0] sh65 [vi i_20, vi ((rv8.1.getD i_20.toNat default).Width), vl a50 k51 ((rv8.1.getD i_20.toNat default).Words)]) (KS ?_)))
  refine Oq Vm (Oq Vm ?_)
  refine Js 35 ?_ ?_
  ·intro h55
   refine Oq Vm ?_
   refine letv (tp_Next kT rv41.2 5) fun rv57 hg58 => ?_
   have hc59 := fn7 kP ka kk kT rv41.2 5 pre pre rv57 hg58
   refine Oc [3, 6] ca7 hc59 ?_
   rintro - ⟨he60, he61, he62⟩
   unfold i64ok at he60
   refine Oq Veql (Oq Vpt (KS ?_))
   refine Kc ?_ ?_
   ·intro h63
    have g64 := eq_of_beq h63
    refine Jp 1 fun hp65 => ?_
    refine JK_drawK [0, 0, 2, 0, 8, 30, 63, 127, 255] fmix ?_
    refine Dv [] Vm (Dv [7] (Vfa fo27_0 0) (Dv [7] (VldF sh3 0) (Dv [] Vm ?_)))
    refine letv (tp_Next kT rv57.2 2) fun rv66 hg67 => Dx [1, 8] [1] [2, 0, 1] (fun G => vi rv66.1) [fun G => SP.fact (i64ok rv66.1 ∧ (0 ≤ rv66.2 ∧ rv66.2 ≤ (kT.length : Int)) ∧ (0 ≤ rv66.1 ∧ (rv66.1 < 2 ∨ rv66.1 = 0))), fun G => Cl kP [vl ka kk kT, vi rv66.2]] (fun G => xC [0, 0] ca7 (fn7 kP ka kk kT rv57.2 2 pre pre rv66 hg67)) ?_
    refine Dx [12] [] [0] (fun G => vi (s.Width + rv66.1)) [] (fun G => by refine xf 0 rfl ?_; rintro ⟨he68, he69, he70⟩; unfold i64ok at he68; exact xV (Vadd)) ?_
    refine letv (tp_Set kT rv66.2 (s.Width + rv66.1)) fun rv72 hg73 => ?_
    refine Dx [8, 12, 13] [13] [3, 4, 0, 1, 1] (fun G => .agg #[vi rv72.1.Width, (G.g 6 0)]) [fun G => SP.fact (i64ok rv72.1.Width ∧ (0 ≤ rv72.2 ∧ rv72.2 ≤ (kT.length : Int)) ∧ (rv72.1.Width = (s.Width + rv66.1)) ∧ (rv72.1.Words.length = ((((s.Width + rv66.1) : Int) + 63) / 64).toNat)), fun G => os (G.g 6 0) rv72.1.Words, fun G => Cl kP [vl ka kk kT, vi rv72.2]] (fun G => by refine xf 1 rfl ?_; rintro ⟨he74, he75, he76⟩; unfold i64ok at he74; exact xC [2, 0] ca21 (fn21 kP ka kk kT rv66.2 ((s.Width + rv66.1)) pre pre pre rv72 hg73)) (Dv [0] (Vfa fo65_1 0) (Dx0 [2, 15] [2] [1, 0] [fun G => Cl p54 [vi i_20, vi rv72.1.Width, (G.g 6 0)]] (fun G => x1 1 rfl os_one fun ho77 => (xS (SclF [0] sh53 [vi i_20, vi rv72.1.Width, (G.g 6 0)] (v := .agg #[vi rv72.1.Width, (G.g 6 0)]) (h1 := show [vi rv72.1.Width, (G.g 6 0)].all (·.oneCell') = true from (by simp only [List.all_cons, List.all_nil, ho77, Bool.and_true, Bool.true_and] <;> rfl))))) ?_))
    refine Dn ⟨by kernel_rfl, fun G => ?_⟩
    refine Jw2 [(0, kP), (2, vb wrong), (4, p6), (7, vl a14 k15 rv8.1), (10, vl a21 k22 out_19), (11, vi i_20), (12, p54)] [0, 3, 4, 5, 6, 7, 8, 9, 10, 11] [SP.fact (i64ok rv66.1 ∧ (0 ≤ rv66.2 ∧ rv66.2 ≤ (kT.length : Int)) ∧ (0 ≤ rv66.1 ∧ (rv66.1 < 2 ∨ rv66.1 = 0))), SP.fact (i64ok rv72.1.Width ∧ (0 ≤ rv72.2 ∧ rv72.2 ≤ (kT.length : Int)) ∧ (rv72.1.Width = (s.Width + rv66.1)) ∧ (rv72.1.Words.length = ((((s.Width + rv66.1) : Int) + 63) / 64).toNat)), os (G.g 6 0) rv72.1.Words, Cl kP [vl ka kk kT, vi rv72.2], Cl p54 [vi i_20, vi rv72.1.Width, (G.g 6 0)]] ?_
    generalize G.g 6 0 = c71
    refine Jf 10 rfl ?_; rintro ⟨he78, he79, he80⟩
    unfold i64ok at he78
    refine Jf 11 rfl ?_; rintro ⟨he81, he82, he83, he84⟩
    unfold i64ok at he81
    refine Jk [1, 2, 3, 3, 4, 5, 6, 7, 8, 11, 11, 11] ?_
    refine Jo 9 ?_; rintro a85 k86 rfl
    refine Fb 8 9 fun _ => KS ?_
    refine Oq Vm (Oq Vm ?_)
    refine Js 49 ?_ ?_
    ·intro h88
     refine Oq Vm ?_
     refine letv (tp_Next kT rv72.2 9) fun rv90 hg91 => ?_
     have hc92 := fn7 kP ka kk kT rv72.2 9 pre pre rv90 hg91
     refine Oc [10, 5] ca7 hc92 ?_
     rintro - ⟨he93, he94, he95⟩
     unfold i64ok at he93
     refine Oq Veql (Oq Vpt (KS ?_))
     refine Kc ?_ ?_
     ·intro h96
      have g97 := eq_of_beq h96
      refine KS ?_
      refine Oq Vm (Oq Vm (Oq (Vlen sl25) (Oq Vadd ?_)))
      refine letv (tp_Next kT rv90.2 ((rv8.1.length : Int) + 2)) fun rv98 hg99 => ?_
      have hc100 := fn7 kP ka kk kT rv90.2 (((rv8.1.length : Int) + 2)) pre pre rv98 hg99
      refine Oc [0, 5] ca7 hc100 ?_
      rintro - ⟨he101, he102, he103⟩
      unfold i64ok at he101
      refine Oq Vsub (Oq (Vfa fo65_0 11) (Ost (SclF [11] sh3 [vi (rv98.1 - 1), vi rv72.1.Width, vl a85 k86 rv72.1.Words]) (KS ?_)))
      refine Oq Vm (Oq (VldA sh65 0) (Oa (AsV sl28 sz28 [.agg #[vi (rv98.1 - 1), vi rv72.1.Width, vl a85 k86 rv72.1.Words]] [vi (rv98.1 - 1), vi rv72.1.Width, vl a85 k86 rv72.1.Words]) fun c104 => ?_))
      refine Jo 0 ?_; rintro a105 k106 rfl
      refine Jl [12] (Ent.freeze _ _) ?_
      refine Jl [1, 0] (Ent.cr1 (α := GKnown) (A := [S a85 k86 rv72.1.Words]) _ (GKnown.mk (rv98.1 - 1) rv72.1) _ aB1 (fun h => ⟨_, rfl, aL1, aL1, sepAll_get (i := 0) rfl h⟩)) ?_
      refine Oa (ApO [7, 0] sl28 sl28 sz28) fun c107 => ?_
      refine Jo 0 ?_; rintro a108 k109 rfl
      refine Fb 40 0 fun _ => ?_
      have hn111 := la out_19 ([(GKnown.mk (rv98.1 - 1) rv72.1)] : List GKnown)
      refine Oq Va (KS ?_)
      refine Oq Vm (Oq Vadd (Oq Va (KS ?_)))
      exact Kg (r40, rv98.2, (out_19 ++ [(GKnown.mk (rv98.1 - 1) rv72.1)]), (i_20 + 1), a108, k109) [0, 6, 7, 3, 7, 8, 9, 10] ⟨(q3 hM23 (by simp only [w14_known_L0, h38, h47, h55, h63, h88, h96, hg42, hg58, hg67, hg73, hg91, hg99, cs4])), aM1, aM1, aM1, aM1, aM1, aM1, iv1⟩
     intro h96
     have g112 := ne_of_beq_false h96
     refine KS ?_
     refine Oq Vm (Oq (VldA sh65 11) (Oa (AsV sl28 sz28 [.agg #[vi i_20, vi rv72.1.Width, vl a85 k86 rv72.1.Words]] [vi i_20, vi rv72.1.Width, vl a85 k86 rv72.1.Words]) fun c113 => ?_))
     refine Jo 0 ?_; rintro a114 k115 rfl
     refine Jl [11] (Ent.freeze _ _) ?_
     refine Jl [1, 0] (Ent.cr1 (α := GKnown) (A := [S a85 k86 rv72.1.Words]) _ (GKnown.mk i_20 rv72.1) _ aB1 (fun h => ⟨_, rfl, aL1, aL1, sepAll_get (i := 0) rfl h⟩)) ?_
     refine Oa (ApO [6, 0] sl28 sl28 sz28) fun c116 => ?_
     refine Jo 0 ?_; rintro a117 k118 rfl
     refine Fb 40 0 fun _ => ?_
     have hn120 := la out_19 ([(GKnown.mk i_20 rv72.1)] : List GKnown)
     refine Oq Va (KS ?_)
     refine Oq Vm (Oq Vadd (Oq Va (KS ?_)))
     exact Kg (r40, rv90.2, (out_19 ++ [(GKnown.mk i_20 rv72.1)]), (i_20 + 1), a117, k118) [0, 5, 6, 2, 6, 7, 8, 9] ⟨(q3 hM23 (by simp only [w14_known_L0, h38, h47, h55, h63, h88, h96, hg42, hg58, hg67, hg73, hg91, cs4])), aM1, aM1, aM1, aM1, aM1, aM1, iv1⟩
    intro h88
    exact absurd h88 (by first | (simp [h55]; done) | (simp only [bne, h55]; decide) | (simp only [bne, h55, Bool.not_true, Bool.not_false]; decide) | (exfalso; omega) | (intro hq; simp only [bne, hq, Bool.not_false, Bool.not_true, reduceCtorEq] at h55))
   intro h63
   have g121 := ne_of_beq_false h63
   refine KS ?_
   refine Oq Vm (Oq Vm ?_)
   refine Js 49 ?_ ?_
   ·intro h122
    refine Oq Vm ?_
    refine letv (tp_Next kT rv57.2 9) fun rv124 hg125 => ?_
    have hc126 := fn7 kP ka kk kT rv57.2 9 pre pre rv124 hg125
    refine Oc [0, 6] ca7 hc126 ?_
    rintro - ⟨he127, he128, he129⟩
    unfold i64ok at he127
    refine Oq Veql (Oq Vpt (KS ?_))
    refine Kc ?_ ?_
    ·intro h130
     have g131 := eq_of_beq h130
     refine KS ?_
     refine Oq Vm (Oq Vm (Oq (Vlen sl25) (Oq Vadd ?_)))
     refine letv (tp_Next kT rv124.2 ((rv8.1.length : Int) + 2)) fun rv132 hg133 => ?_
     have hc134 := fn7 kP ka kk kT rv124.2 (((rv8.1.length : Int) + 2)) pre pre rv132 hg133
     refine Oc [0, 6] ca7 hc134 ?_
     rintro - ⟨he135, he136, he137⟩
     unfold i64ok at he135
     refine Oq Vsub (Oq (Vfa fo65_0 1) (Ost (SclF [1] sh3 [vi (rv132.1 - 1), vi ((rv8.1.getD i_20.toNat default).Width), vl a50 k51 ((rv8.1.getD i_20.toNat default).Words)]) (KS ?_)))
     refine Oq Vm (Oq (VldA sh65 0) (Oa (AsV sl28 sz28 [.agg #[vi (rv132.1 - 1), vi ((rv8.1.getD i_20.toNat default).Width), vl a50 k51 ((rv8.1.getD i_20.toNat default).Words)]] [vi (rv132.1 - 1), vi ((rv8.1.getD i_20.toNat default).Width), vl a50 k51 ((rv8.1.getD i_20.toNat default).Words)]) fun c138 => ?_))
     refine Jo 0 ?_; rintro a139 k140 rfl
     refine Jl [0, 3] (Ent.cr1 (α := GKnown) (A := [S a50 k51 ((rv8.1.getD i_20.toNat default).Words)]) _ (GKnown.mk (rv132.1 - 1) (rv8.1.getD i_20.toNat default)) _ aB1 (fun h => ⟨_, rfl, aL1, aL1, sepAll_get (i := 0) rfl h⟩)) ?_
     refine Oa (ApO [6, 0] sl28 sl28 sz28) fun c141 => ?_
     refine Jo 0 ?_; rintro a142 k143 rfl
     refine Fb 40 0 fun _ => ?_
     have hn145 := la out_19 ([(GKnown.mk (rv132.1 - 1) (rv8.1.getD i_20.toNat default))] : List GKnown)
     refine Oq Va (KS ?_)
     refine Oq Vm (Oq Vadd (Oq Va (KS ?_)))
     exact Kg (r40, rv132.2, (out_19 ++ [(GKnown.mk (rv132.1 - 1) (rv8.1.getD i_20.toNat default))]), (i_20 + 1), a142, k143) [0, 5, 6, 2, 6, 7, 8, 9] ⟨(q3 hM23 (by simp only [w14_known_L0, h38, h47, h55, h63, h122, h130, hg42, hg58, hg125, hg133, cs4])), aM1, aM1, aM1, aM1, aM1, aM1, iv1⟩
    intro h130
    have g146 := ne_of_beq_false h130
    refine KS ?_
    refine Oq Vm (Oq (VldA sh65 1) (Oa (AsV sl28 sz28 [.agg #[vi i_20, vi ((rv8.1.getD i_20.toNat default).Width), vl a50 k51 ((rv8.1.getD i_20.toNat default).Words)]] [vi i_20, vi ((rv8.1.getD i_20.toNat default).Width), vl a50 k51 ((rv8.1.getD i_20.toNat default).Words)]) fun c147 => ?_))
    refine Jo 0 ?_; rintro a148 k149 rfl
    refine Jl [0, 3] (Ent.cr1 (α := GKnown) (A := [S a50 k51 ((rv8.1.getD i_20.toNat default).Words)]) _ (GKnown.mk i_20 (rv8.1.getD i_20.toNat default)) _ aB1 (fun h => ⟨_, rfl, aL1, aL1, sepAll_get (i := 0) rfl h⟩)) ?_
    refine Oa (ApO [6, 0] sl28 sl28 sz28) fun c150 => ?_
    refine Jo 0 ?_; rintro a151 k152 rfl
    refine Fb 40 0 fun _ => ?_
    have hn154 := la out_19 ([(GKnown.mk i_20 (rv8.1.getD i_20.toNat default))] : List GKnown)
    refine Oq Va (KS ?_)
    refine Oq Vm (Oq Vadd (Oq Va (KS ?_)))
    exact Kg (r40, rv124.2, (out_19 ++ [(GKnown.mk i_20 (rv8.1.getD i_20.toNat default))]), (i_20 + 1), a151, k152) [0, 5, 6, 1, 6, 7, 8, 9] ⟨(q3 hM23 (by simp only [w14_known_L0, h38, h47, h55, h63, h122, h130, hg42, hg58, hg125, cs4])), aM1, aM1, aM1, aM1, aM1, aM1, iv1⟩
   intro h122
   exact absurd h122 (by first | (simp [h55]; done) | (simp only [bne, h55]; decide) | (simp only [bne, h55, Bool.not_true, Bool.not_false]; decide) | (exfalso; omega) | (intro hq; simp only [bne, hq, Bool.not_false, Bool.not_true, reduceCtorEq] at h55))
  intro h55
  refine Osk (Osk (Osk (Oq Vpf (KS ?_))))
  refine Kf (KS ?_)
  refine Oq Vm (Oq Vm ?_)
  refine Js 49 ?_ ?_
  ·intro h156
   exact absurd h156 (by first | (simp [h55]; done) | (simp only [bne, h55]; decide) | (simp only [bne, h55, Bool.not_true, Bool.not_false]; decide) | (exfalso; omega) | (intro hq; simp only [bne, hq, Bool.not_false, Bool.not_true, reduceCtorEq] at h55))
  intro h156
  refine Osk (Osk (Osk (Oq Vpf (KS ?_))))
  refine Kf (KS ?_)
  refine Oq Vm (Oq (VldA sh65 0) (Oa (AsV sl28 sz28 [.agg #[vi i_20, vi ((rv8.1.getD i_20.toNat default).Width), vl a50 k51 ((rv8.1.getD i_20.toNat default).Words)]] [vi i_20, vi ((rv8.1.getD i_20.toNat default).Width), vl a50 k51 ((rv8.1.getD i_20.toNat default).Words)]) fun c158 => ?_))
  refine Jo 0 ?_; rintro a159 k160 rfl
  refine Jl [0, 2] (Ent.cr1 (α := GKnown) (A := [S a50 k51 ((rv8.1.getD i_20.toNat default).Words)]) _ (GKnown.mk i_20 (rv8.1.getD i_20.toNat default)) _ aB1 (fun h => ⟨_, rfl, aL1, aL1, sepAll_get (i := 0) rfl h⟩)) ?_
  refine Oa (ApO [6, 0] sl28 sl28 sz28) fun c161 => ?_
  refine Jo 0 ?_; rintro a162 k163 rfl
  refine Fb 40 0 fun _ => ?_
  have hn165 := la out_19 ([(GKnown.mk i_20 (rv8.1.getD i_20.toNat default))] : List GKnown)
  refine Oq Va (KS ?_)
  refine Oq Vm (Oq Vadd (Oq Va (KS ?_)))
  exact Kg (r40, rv41.2, (out_19 ++ [(GKnown.mk i_20 (rv8.1.getD i_20.toNat default))]), (i_20 + 1), a162, k163) [0, 5, 6, 4, 6, 7, 8, 9] ⟨(q3 hM23 (by simp only [w14_known_L0, h38, h47, h55, h156, hg42, cs4])), aM1, aM1, aM1, aM1, aM1, aM1, iv1⟩
 intro h38
 have g166 := df h38
 obtain rfl : r17 = 0 := by omega
 refine Ke ?_
 have hR167 := q2 hM23 (ti_18, out_19) (by simp only [w14_known_L0, h38, cs4])
 refine KS ?_
 refine Oq Vm (Oq Va (KS ?_))
 refine Jl [0] (Ent.freeze _ _) ?_
 have hq := q4 hrr (out_19, ti_18) (by simp only [w14_known, h38, hg9, hR167, cs4]); subst hq
 exact Kr (vl a21 k22 out_19) rfl (.tmp rfl .nil) [0, 3] en
theorem fn3 (t : List Int) (ta0 : Option Addr) (tk0 : Nat) (s : GSystem) (sa1 : Option Addr) (sk1 : Nat) (sa2 : Option Addr) (sk2 : Nat) (sa3 : Option Addr) (sk3 : Nat) (c : List Int) (ca0 : Option Addr) (ck0 : Nat) (k2 : List GKnown) (k2a0 : Option Addr) (k2k0 : Nat) (i : Int) (hs_0 : i64ok s.Width) (hi_0 : i64ok i) (rr : Bool) (hrr : w14_ConeRestricts t s c k2 i = rr) : FT Tryz.prog 3 #[vl ta0 tk0 t, .agg #[vi s.Width, vl sa1 sk1 s.Deps, vl sa2 sk2 s.Transfers, vl sa3 sk3 s.Boundary], vl ca0 ck0 c, vl k2a0 k2k0 k2, vi i] [S ta0 tk0 t, S sa1 sk1 s.Deps, S sa2 sk2 s.Transfers, S sa3 sk3 s.Boundary, S ca0 ck0 c, S k2a0 k2k0 k2] (fun g : Unit => True) (fun g => vb rr) (fun g => []) := by
 refine FTi Tryz.func3 fun w0 M0 F0 => ?_
 unfold i64ok at hs_0 hi_0
 refine Fb 8 0 fun _ => Fo 0 fun ho2 => Fb 24 1 fun _ => Fb 88 2 fun _ => Fb 32 3 fun _ => Fb 8 4 fun _ => Fo 4 fun ho7 => Fb 40 5 fun _ => KS ?_
 refine Oa (Ab [vi s.Width, vl sa1 sk1 s.Deps, vl sa2 sk2 s.Transfers, vl sa3 sk3 s.Boundary]) fun p9 => Oq Va (KS ?_)
 refine Oq Vm ?_
 refine letv (g_New t) fun rv11 hg12 => ?_
 have hc13 := fn4 t ta0 tk0 rv11 hg12
 refine Oc [1] ca4 hc13 ?_
 rintro c10 -
 refine Oq Va (KS ?_)
 refine Oq Va (KS ?_)
 refine Kl (γ := Nat × Int × Int) (fun (r14, k1_15, r_16) => ⟨[(2, vl ca0 ck0 c), (3, vl k2a0 k2k0 k2), (4, vi i), (6, p9), (11, c10), (12, vi r_16)], [Cl c10 [vl ta0 tk0 t, vi k1_15], pv p9 [vi s.Width, vl sa1 sk1 s.Deps, vl sa2 sk2 s.Transfers, vl sa3 sk3 s.Boundary], S ta0 tk0 t, S sa1 sk1 s.Deps, S sa2 sk2 s.Transfers, S sa3 sk3 s.Boundary, S ca0 ck0 c, S k2a0 k2k0 k2], w14_ConeRestricts_L0 t r14 k1_15 r_16 = w14_ConeRestricts_L0 t 5 0 0 ∧ r14 = ((5 : Int) - r_16).toNat ∧ (0 : Int) ≤ r_16 ∧ r_16 ≤ 5 ∧ (-9223372036854775808 ≤ k1_15 ∧ k1_15 ≤ 9223372036854775807) ∧ (0 ≤ k1_15 ∧ k1_15 ≤ (t.length : Int)) ∧ (-9223372036854775808 ≤ r_16 ∧ r_16 ≤ 9223372036854775807), r14⟩) (5, 0, 0) [0, 0, 1, 2, 3, 4, 5, 6] ⟨rfl, rfl, aM1, aM1, aM1, aM1, aM1⟩ ?_
 rintro ⟨r14, k1_15, r_16⟩ ⟨hM17, hr18, hi19, hi20, hk21, ht22, hk23⟩
 refine JJ_nx fun _ _ hL hA => ?_; dsimp only at hL hA; subst hL hA
 refine Fb 8 2 fun _ => Fo 2 fun ho25 => Fb 24 3 fun _ => Fb 88 4 fun _ => Fb 32 5 fun _ => Fb 8 6 fun _ => Fo 6 fun ho30 => Fb 40 7 fun _ => KS ?_
 refine Oq Vm (Oq Vlss (KS ?_))
 refine Kc ?_ ?_
 ·intro h32
  have g33 := dt h32
  obtain ⟨r34, rfl⟩ := scc (n := r14) aM1
  refine KS ?_
  refine Oq Vm ?_
  refine letv (tp_System t k1_15 6) fun rv38 hg39 => ?_
  have hc40 := fn5 c10 ta0 tk0 t k1_15 6 pre pre pre rv38 hg39
  refine Oc [0, 1] ca5 hc40 ?_
  rintro ⟨c35, c36, c37⟩ ⟨he41, he42, he43⟩
  unfold i64ok at he41
  refine Jo 0 ?_; rintro a44 k45 rfl
  refine Fb 24 0 fun _ => ?_
  refine Jo 1 ?_; rintro a47 k48 rfl
  refine Fb 88 1 fun _ => ?_
  refine Jo 2 ?_; rintro a50 k51 rfl
  refine Fb 32 2 fun _ => ?_
  have hds := System_facts (by assumption : tp_System t k1_15 6 = rv38) aM1
  obtain ⟨hd1, hd2, hd3⟩ := hds
  have hv1 := hd1.n
  have hv2 := hd1.tl
  have hv3 := hd1.bl
  have hv4 := hd1.w
  have hv5 := hd1.dep_len
  refine Oa (Al ze27 [vi 0, .slice none 0 0, .slice none 0 0, .slice none 0 0]) fun p53 => Ost (Scl [0] sh27 [vi rv38.1.Width, vl a44 k45 rv38.1.Deps, vl a47 k48 rv38.1.Transfers, vl a50 k51 rv38.1.Boundary]) (KS ?_)
  refine Jp 0 fun hp54 => ?_
  change JK _ _ _ [SP.fact (isP p53), Cl p53 [vi rv38.1.Width, vl a44 k45 rv38.1.Deps, vl a47 k48 rv38.1.Transfers, vl a50 k51 rv38.1.Boundary], S a44 k45 rv38.1.Deps, S a47 k48 rv38.1.Transfers, S a50 k51 rv38.1.Boundary, Cl c10 [vl ta0 tk0 t, vi rv38.2], pv p9 [vi s.Width, vl sa1 sk1 s.Deps, vl sa2 sk2 s.Transfers, vl sa3 sk3 s.Boundary], S ta0 tk0 t, S sa1 sk1 s.Deps, S sa2 sk2 s.Transfers, S sa3 sk3 s.Boundary, S ca0 ck0 c, S k2a0 k2k0 k2]
  refine JK_drawK [0, 0, 0, 4, 12, 30, 63, 127, 255, 255, 255, 511, 3071, 8191] fmix ?_
  refine Dv [1] (VldA sh27 0) (Dv [] Vm (Dv [0] (Vfa fo27_1 0) (Dv [1] (VldF sh23 0) (Dv [] (Vlen sl23) ?_))))
  refine letv (tp_Next t rv38.2 (rv38.1.Deps.length : Int)) fun rv55 hg56 => Dx [5, 7] [5] [2, 0, 1] (fun G => vi rv55.1) [fun G => SP.fact (i64ok rv55.1 ∧ (0 ≤ rv55.2 ∧ rv55.2 ≤ (t.length : Int)) ∧ (0 ≤ rv55.1 ∧ (rv55.1 < (rv38.1.Deps.length : Int) ∨ rv55.1 = 0))), fun G => Cl c10 [vl ta0 tk0 t, vi rv55.2]] (fun G => xC [0, 0] ca7 (fn7 c10 ta0 tk0 t rv38.2 ((rv38.1.Deps.length : Int)) pre pre rv55 hg56)) ?_
  refine letv (r14_Cone rv38.1 rv55.1 ([] : List Int)) fun rv58 hg59 => ?_
  try have hcl := Cone_len hg59 hd1
  refine Dx [2, 3, 4, 13] [] [3, 4, 5, 6, 2, 0, 1] (fun G => .tuple #[(G.g 6 0), vi rv58.2.1, vi rv58.2.2]) [fun G => sl (.slice none 0 0) ([] : List Int), fun G => SP.fact (i64ok rv58.2.1 ∧ i64ok rv58.2.2), fun G => sl (G.g 6 0) rv58.1] (fun G => by refine xf 3 rfl ?_; rintro ⟨he60, he61, he62⟩; unfold i64ok at he60; exact xp [] rfl (Ent.slNil (α := Int)) (xC [1, 2, 3, 0] ca6 (fn6 rv38.1 a44 k45 a47 k48 a50 k51 rv55.1 (([] : List Int)) none 0 pre pre rv58 hg59))) (Dg [] (fun G => .tuple #[(G.g 6 0), vi rv58.2.1, vi rv58.2.2]) (fun G => Vm) (Dg [] (fun G => (G.g 6 0)) (fun G => Vx) (Dv [] Vx (Dv [] Vx (Dg [] (fun G => (G.g 6 0)) (fun G => Va) (Dv [] Va (Dv [] Va ?_)))))))
  refine Dn ⟨by kernel_rfl, fun G => ?_⟩
  refine Jw2 [(2, vl ca0 ck0 c), (3, vl k2a0 k2k0 k2), (4, vi i), (6, p9), (11, c10), (12, vi r_16), (13, p53), (14, (G.g 6 0))] [0, 1, 2, 3, 4, 6, 7, 8, 9, 10, 11, 12] [SP.fact (i64ok rv55.1 ∧ (0 ≤ rv55.2 ∧ rv55.2 ≤ (t.length : Int)) ∧ (0 ≤ rv55.1 ∧ (rv55.1 < (rv38.1.Deps.length : Int) ∨ rv55.1 = 0))), Cl c10 [vl ta0 tk0 t, vi rv55.2], sl (.slice none 0 0) ([] : List Int), SP.fact (i64ok rv58.2.1 ∧ i64ok rv58.2.2), sl (G.g 6 0) rv58.1] ?_
  generalize G.g 6 0 = c57
  refine Jf 12 rfl ?_; rintro ⟨he63, he64, he65⟩
  unfold i64ok at he63
  refine Jf 15 rfl ?_; rintro ⟨he66, he67⟩
  unfold i64ok at he66 he67
  refine Jk [1, 1, 2, 3, 4, 5, 6, 7, 8, 9, 10, 12, 12, 14] ?_
  refine Jo 13 ?_; rintro a68 k69 rfl
  refine Fb 8 13 fun _ => Fo 13 fun ho71 => KS ?_
  refine Oq Vm ?_
  refine letv (tp_Next t rv55.2 4) fun rv72 hg73 => ?_
  have hc74 := fn7 c10 ta0 tk0 t rv55.2 4 pre pre rv72 hg73
  refine Oc [11, 5] ca7 hc74 ?_
  rintro - ⟨he75, he76, he77⟩
  unfold i64ok at he75
  refine Oq Veql (KS ?_)
  refine Kc ?_ ?_
  ·intro h78
   have g79 := eq_of_beq h78
   refine KS ?_
   refine Oq Vm (Oq (Vfa fo27_1 1) (Oq (VldF sh23 1) (Oq (Vlen sl23) ?_)))
   refine letv (w14_list t rv72.2 (rv38.1.Deps.length : Int)) fun rv81 hg82 => ?_
   have hc83 := fn8 c10 ta0 tk0 t rv72.2 ((rv38.1.Deps.length : Int)) pre pre rv81 hg82
   refine Oc [0, 5] ca8 hc83 ?_
   rintro c80 he84
   refine Jo 0 ?_; rintro a85 k86 rfl
   refine Fb 8 0 fun _ => Fo 0 fun ho88 => ?_
   have hcl := list14_f (by assumption : w14_list t rv72.2 (rv38.1.Deps.length : Int) = rv81)
   refine Oq Va (KS ?_)
   refine Oq Vm (Oq (VldA sh27 2) ?_)
   refine letv (w14_known t rv81.2 rv38.1 true) fun rv90 hg91 => ?_
   have hc92 := fn9 c10 ta0 tk0 t rv81.2 rv38.1 a44 k45 a47 k48 a50 k51 true pre pre pre rv90 hg91
   refine Oc [1, 6, 2, 3, 4] ca9 hc92 ?_
   rintro c89 ⟨he93, he94⟩
   refine Jo 0 ?_; rintro a95 k96 rfl
   refine Fb 40 0 fun _ => ?_
   refine Oq Va (KS ?_)
   refine Oq (VldA sh27 3) (Oq Vm (Oq Vm ?_))
   refine letv (cn_Restrict rv38.1 rv81.1 rv90.1) fun rv101 hg102 => ?_
   have hc103 := fn10 rv38.1 a44 k45 a47 k48 a50 k51 rv81.1 a85 k86 rv90.1 a95 k96 pre pre rv101 hg102
   refine Oc [4, 5, 6, 2, 0] ca10 hc103 ?_
   rintro ⟨c98, c99, c100⟩ ⟨he104, he105⟩
   unfold i64ok at he104 he105
   refine Jo 0 ?_; rintro a106 k107 rfl
   refine Fb 24 0 fun _ => ?_
   refine Jo 1 ?_; rintro a109 k110 rfl
   refine Fb 88 1 fun _ => ?_
   refine Jo 2 ?_; rintro a112 k113 rfl
   refine Fb 32 2 fun _ => ?_
   refine Oq Vm (Oq Vx (Oq Vx (Oa (Al ze27 [vi 0, .slice none 0 0, .slice none 0 0, .slice none 0 0]) fun p115 => Ost (Scl [0] sh27 [vi rv101.1.Width, vl a106 k107 rv101.1.Deps, vl a109 k110 rv101.1.Transfers, vl a112 k113 rv101.1.Boundary]) (Oq Va (KS ?_)))))
   refine Oq (VldA sh27 7) (Oq Vm (Oq Vm ?_))
   refine letv (r14_Restrict rv38.1 rv81.1 rv90.1) fun rv119 hg120 => ?_
   have hc121 := fn11 rv38.1 a44 k45 a47 k48 a50 k51 rv81.1 a85 k86 rv90.1 a95 k96 pre pre rv119 hg120
   refine Oc [8, 9, 10, 6, 4] ca11 hc121 ?_
   rintro ⟨c116, c117, c118⟩ ⟨he122, he123⟩
   unfold i64ok at he122 he123
   refine Jo 0 ?_; rintro a124 k125 rfl
   refine Fb 24 0 fun _ => ?_
   refine Jo 1 ?_; rintro a127 k128 rfl
   refine Fb 88 1 fun _ => ?_
   refine Jo 2 ?_; rintro a130 k131 rfl
   refine Fb 32 2 fun _ => ?_
   refine Oq Vm (Oq Vx (Oq Vx (Oa (Al ze27 [vi 0, .slice none 0 0, .slice none 0 0, .slice none 0 0]) fun p133 => Ost (Scl [0] sh27 [vi rv119.1.Width, vl a124 k125 rv119.1.Deps, vl a127 k128 rv119.1.Transfers, vl a130 k131 rv119.1.Boundary]) (Oq Va (KS ?_)))))
   refine Oq Va (KS ?_)
   refine Oq Va (KS ?_)
   refine Jl [] (Ent.osNil (α := Bool)) ?_
   have hterm145 : w14_ConeRestricts_L1 t rv81.1 (fl (rv81.1.length + 2)) rv90.2 [] 0 ≠ LR.oof := (CR_t)
   refine Kl (γ := Nat × Int × List Bool × Int × Option Addr × Nat) (fun (r134, k1_135, leaf_136, j_137, a138, k139) => ⟨[(2, vl ca0 ck0 c), (3, vl k2a0 k2k0 k2), (4, vi i), (6, p9), (11, c10), (12, vi r_16), (13, p53), (14, vl a85 k86 rv81.1), (18, p115), (19, vi rv101.2), (20, p133), (21, vi rv119.2), (22, vl a138 k139 leaf_136), (23, vi j_137)], [O a138 k139 leaf_136, Cl p133 [vi rv119.1.Width, vl a124 k125 rv119.1.Deps, vl a127 k128 rv119.1.Transfers, vl a130 k131 rv119.1.Boundary], S a124 k125 rv119.1.Deps, S a127 k128 rv119.1.Transfers, S a130 k131 rv119.1.Boundary, Cl p115 [vi rv101.1.Width, vl a106 k107 rv101.1.Deps, vl a109 k110 rv101.1.Transfers, vl a112 k113 rv101.1.Boundary], S a106 k107 rv101.1.Deps, S a109 k110 rv101.1.Transfers, S a112 k113 rv101.1.Boundary, Cl c10 [vl ta0 tk0 t, vi k1_135], S a85 k86 rv81.1, Cl p53 [vi rv38.1.Width, vl a44 k45 rv38.1.Deps, vl a47 k48 rv38.1.Transfers, vl a50 k51 rv38.1.Boundary], S a44 k45 rv38.1.Deps, S a47 k48 rv38.1.Transfers, S a50 k51 rv38.1.Boundary, pv p9 [vi s.Width, vl sa1 sk1 s.Deps, vl sa2 sk2 s.Transfers, vl sa3 sk3 s.Boundary], S ta0 tk0 t, S sa1 sk1 s.Deps, S sa2 sk2 s.Transfers, S sa3 sk3 s.Boundary, S ca0 ck0 c, S k2a0 k2k0 k2], w14_ConeRestricts_L1 t rv81.1 r134 k1_135 leaf_136 j_137 = w14_ConeRestricts_L1 t rv81.1 (fl (rv81.1.length + 2)) rv90.2 [] 0 ∧ (-9223372036854775808 ≤ k1_135 ∧ k1_135 ≤ 9223372036854775807) ∧ (0 ≤ k1_135 ∧ k1_135 ≤ (t.length : Int)) ∧ (-9223372036854775808 ≤ j_137 ∧ j_137 ≤ 9223372036854775807) ∧ ((leaf_136.length : Int) ≤ j_137 ∧ 0 ≤ j_137 ∧ j_137 ≤ 70000), r134⟩) ((fl (rv81.1.length + 2)), rv90.2, [], 0, none, 0) [0, 0, 0, 1, 2, 3, 3, 4, 5, 7, 7, 8, 8, 9, 10, 11, 12, 13, 14, 15, 16, 17] ⟨rfl, aM1, aM1, aM1, iv0⟩ ?_
   rintro ⟨r134, k1_135, leaf_136, j_137, a138, k139⟩ ⟨hM140, hk141, ht142, hk143, hv144⟩
   refine JJ_nx fun _ _ hL hA => ?_; dsimp only at hL hA; subst hL hA
   refine Fb 1 0 fun _ => Fb 24 2 fun _ => Fb 88 3 fun _ => Fb 32 4 fun _ => Fb 24 6 fun _ => Fb 88 7 fun _ => Fb 32 8 fun _ => Fb 8 10 fun _ => ?_
   refine Fo 10 fun ho154 => Fb 24 12 fun _ => Fb 88 13 fun _ => Fb 32 14 fun _ => Fb 8 16 fun _ => Fo 16 fun ho159 => Fb 24 17 fun _ => Fb 88 18 fun _ => ?_
   refine Fb 32 19 fun _ => Fb 8 20 fun _ => Fo 20 fun ho164 => Fb 40 21 fun _ => ?_
   rcases r134 with _ | r134
   ·exact absurd (hM140.symm.trans rfl) hterm145
   refine KS ?_
   refine Oq Vm (Oq Vm (Oq (Vlen sl22) (Oq Vm ?_)))
   refine letv (tp_Next t k1_135 9) fun rv166 hg167 => ?_
   have hc168 := fn7 c10 ta0 tk0 t k1_135 9 pre pre rv166 hg167
   refine Oc [9, 15] ca7 hc168 ?_
   rintro - ⟨he169, he170, he171⟩
   unfold i64ok at he169
   refine Oq Vquo (Oq Vadd (Oq Vlss (KS ?_)))
   refine Kc ?_ ?_
   ·intro h172
    have g173 := dt h172
    refine KS ?_
    refine Oq Vm (Oq Vm ?_)
    refine letv (tp_Next t rv166.2 3) fun rv174 hg175 => ?_
    have hc176 := fn7 c10 ta0 tk0 t rv166.2 3 pre pre rv174 hg175
    refine Oc [0, 15] ca7 hc176 ?_
    rintro - ⟨he177, he178, he179⟩
    unfold i64ok at he177
    refine Oq Veql (Oa (AsV sl40 sz40 [vb (rv174.1 == 1)] [vb (rv174.1 == 1)]) fun c180 => ?_)
    refine Jo 0 ?_; rintro a181 k182 rfl
    refine Jl [0] (Ent.cr1 (α := Bool) (A := []) _ (rv174.1 == 1) _ aB1 (fun _ => rfl)) ?_
    refine Oa (ApO [2, 0] sl40 sl40 sz40) fun c183 => ?_
    refine Jo 0 ?_; rintro a184 k185 rfl
    refine Fb 1 0 fun _ => ?_
    have hn187 := la leaf_136 ([(rv174.1 == 1)] : List Bool)
    refine Oq Va (KS ?_)
    refine Oq Vm (Oq Vadd (Oq Va (KS ?_)))
    exact Kg (r134, rv174.2, (leaf_136 ++ [(rv174.1 == 1)]), (j_137 + 1), a184, k185) [0, 1, 1, 2, 3, 4, 4, 5, 6, 0, 6, 7, 7, 8, 9, 10, 11, 12, 13, 14, 15, 16] ⟨(q3 hM140 (by simp only [w14_ConeRestricts_L1, h172, hg167, hg175, cs4])), aM1, aM1, aM1, iv1⟩
   intro h172
   have g188 := df h172
   refine Ke ?_
   have hR189 := q2 hM140 (.brk (rv166.2, leaf_136)) (by simp only [w14_ConeRestricts_L1, h172, hg167, cs4])
   refine KS ?_
   refine Oq Vm (Oq Vm (Oq (Vlen sl22) (Oq Vadd ?_)))
   refine letv (tp_Next t rv166.2 ((rv81.1.length : Int) + 2)) fun rv190 hg191 => ?_
   have hc192 := fn7 c10 ta0 tk0 t rv166.2 (((rv81.1.length : Int) + 2)) pre pre rv190 hg191
   refine Oc [0, 15] ca7 hc192 ?_
   rintro - ⟨he193, he194, he195⟩
   unfold i64ok at he193
   refine Oq Vsub (Oq Va (KS ?_))
   change JK _ _ _ [Cl c10 [vl ta0 tk0 t, vi rv190.2], O a138 k139 leaf_136, Cl p133 [vi rv119.1.Width, vl a124 k125 rv119.1.Deps, vl a127 k128 rv119.1.Transfers, vl a130 k131 rv119.1.Boundary], S a124 k125 rv119.1.Deps, S a127 k128 rv119.1.Transfers, S a130 k131 rv119.1.Boundary, Cl p115 [vi rv101.1.Width, vl a106 k107 rv101.1.Deps, vl a109 k110 rv101.1.Transfers, vl a112 k113 rv101.1.Boundary], S a106 k107 rv101.1.Deps, S a109 k110 rv101.1.Transfers, S a112 k113 rv101.1.Boundary, S a85 k86 rv81.1, Cl p53 [vi rv38.1.Width, vl a44 k45 rv38.1.Deps, vl a47 k48 rv38.1.Transfers, vl a50 k51 rv38.1.Boundary], S a44 k45 rv38.1.Deps, S a47 k48 rv38.1.Transfers, S a50 k51 rv38.1.Boundary, pv p9 [vi s.Width, vl sa1 sk1 s.Deps, vl sa2 sk2 s.Transfers, vl sa3 sk3 s.Boundary], S ta0 tk0 t, S sa1 sk1 s.Deps, S sa2 sk2 s.Transfers, S sa3 sk3 s.Boundary, S ca0 ck0 c, S k2a0 k2k0 k2]
   refine JK_drawK [0, 0, 3, 7, 15, 15, 63, 127, 255, 511, 1023, 1023, 1023, 1023, 16383, 1023, 1023, 1023, 1023, 524287, 1048575, 2097151, 4194303] fmix ?_
   refine Dv [] Vm (Dv [] Vm (Dv [] Vneq ?_))
   refine bool_split (rv101.2 != rv119.2) ?_ ?_
   ·intro h196
    have g197 := ne_of_bne h196
    change JD2 _ _ _ _ _ _ [⟨none, fun _ => Cl c10 [vl ta0 tk0 t, vi rv190.2]⟩, ⟨none, fun _ => O a138 k139 leaf_136⟩, ⟨none, fun _ => Cl p133 [vi rv119.1.Width, vl a124 k125 rv119.1.Deps, vl a127 k128 rv119.1.Transfers, vl a130 k131 rv119.1.Boundary]⟩, ⟨none, fun _ => S a124 k125 rv119.1.Deps⟩, ⟨none, fun _ => S a127 k128 rv119.1.Transfers⟩, ⟨none, fun _ => S a130 k131 rv119.1.Boundary⟩, ⟨none, fun _ => Cl p115 [vi rv101.1.Width, vl a106 k107 rv101.1.Deps, vl a109 k110 rv101.1.Transfers, vl a112 k113 rv101.1.Boundary]⟩, ⟨none, fun _ => S a106 k107 rv101.1.Deps⟩, ⟨none, fun _ => S a109 k110 rv101.1.Transfers⟩, ⟨none, fun _ => S a112 k113 rv101.1.Boundary⟩, ⟨none, fun _ => S a85 k86 rv81.1⟩, ⟨none, fun _ => Cl p53 [vi rv38.1.Width, vl a44 k45 rv38.1.Deps, vl a47 k48 rv38.1.Transfers, vl a50 k51 rv38.1.Boundary]⟩, ⟨none, fun _ => S a44 k45 rv38.1.Deps⟩, ⟨none, fun _ => S a47 k48 rv38.1.Transfers⟩, ⟨none, fun _ => S a50 k51 rv38.1.Boundary⟩, ⟨none, fun _ => pv p9 [vi s.Width, vl sa1 sk1 s.Deps, vl sa2 sk2 s.Transfers, vl sa3 sk3 s.Boundary]⟩, ⟨none, fun _ => S ta0 tk0 t⟩, ⟨none, fun _ => S sa1 sk1 s.Deps⟩, ⟨none, fun _ => S sa2 sk2 s.Transfers⟩, ⟨none, fun _ => S sa3 sk3 s.Boundary⟩, ⟨none, fun _ => S ca0 ck0 c⟩, ⟨none, fun _ => S k2a0 k2k0 k2⟩] _
    refine Db h196 [] Vm (Ds (Ds (Ds (Ds (Dv [] Vpt (Dv [] Vm (Ds (Ds (Ds ?_)))))))))
    refine Ds (Ds (Ds (Ds (Ds (Ds (Ds (Ds (Ds (Dv [] Vpt ?_)))))))))
    refine Dn ⟨by kernel_rfl, fun G => ?_⟩
    refine Jw2 [(2, vl ca0 ck0 c), (3, vl k2a0 k2k0 k2), (4, vi i), (6, p9), (11, c10), (12, vi r_16), (117, vb true)] [0, 1, 2, 3, 4, 5, 6, 7, 8, 9, 10, 11, 12, 13, 14, 15, 16, 17, 18, 19, 20, 21] [] ?_
    refine Kt (KS ?_)
    refine Oq Va (KS ?_)
    have hR198 := q2 hM17 (.ret false) (by simp only [w14_ConeRestricts_L0, h32, h78, h172, h196, hg39, hg56, hg59, hg73, hg82, hg91, hg102, hg120, hg167, hR189, hg191, cs4])
    have hq := q4 hrr false (by unfold w14_ConeRestricts; simp only [h32, h78, h172, h196, hg12, hg39, hg56, hg59, hg73, hg82, hg91, hg102, hg120, hg167, hR189, hg191, hR198, cs4]); subst hq
    exact Kr () rfl (.tmp rfl .nil) [] trivial
   intro h196
   have g199 := eq_of_bne_false h196
   change JD2 _ _ _ _ _ _ [⟨none, fun _ => Cl c10 [vl ta0 tk0 t, vi rv190.2]⟩, ⟨none, fun _ => O a138 k139 leaf_136⟩, ⟨none, fun _ => Cl p133 [vi rv119.1.Width, vl a124 k125 rv119.1.Deps, vl a127 k128 rv119.1.Transfers, vl a130 k131 rv119.1.Boundary]⟩, ⟨none, fun _ => S a124 k125 rv119.1.Deps⟩, ⟨none, fun _ => S a127 k128 rv119.1.Transfers⟩, ⟨none, fun _ => S a130 k131 rv119.1.Boundary⟩, ⟨none, fun _ => Cl p115 [vi rv101.1.Width, vl a106 k107 rv101.1.Deps, vl a109 k110 rv101.1.Transfers, vl a112 k113 rv101.1.Boundary]⟩, ⟨none, fun _ => S a106 k107 rv101.1.Deps⟩, ⟨none, fun _ => S a109 k110 rv101.1.Transfers⟩, ⟨none, fun _ => S a112 k113 rv101.1.Boundary⟩, ⟨none, fun _ => S a85 k86 rv81.1⟩, ⟨none, fun _ => Cl p53 [vi rv38.1.Width, vl a44 k45 rv38.1.Deps, vl a47 k48 rv38.1.Transfers, vl a50 k51 rv38.1.Boundary]⟩, ⟨none, fun _ => S a44 k45 rv38.1.Deps⟩, ⟨none, fun _ => S a47 k48 rv38.1.Transfers⟩, ⟨none, fun _ => S a50 k51 rv38.1.Boundary⟩, ⟨none, fun _ => pv p9 [vi s.Width, vl sa1 sk1 s.Deps, vl sa2 sk2 s.Transfers, vl sa3 sk3 s.Boundary]⟩, ⟨none, fun _ => S ta0 tk0 t⟩, ⟨none, fun _ => S sa1 sk1 s.Deps⟩, ⟨none, fun _ => S sa2 sk2 s.Transfers⟩, ⟨none, fun _ => S sa3 sk3 s.Boundary⟩, ⟨none, fun _ => S ca0 ck0 c⟩, ⟨none, fun _ => S k2a0 k2k0 k2⟩] _
   refine Db h196 [] Vm (Dv [6] (VldA sh27 0) (Dv [2] (VldA sh27 0) ?_))
   refine letv (r10_SameSystem rv101.1 rv119.1) fun rv200 hg201 => ?_
   refine Dx [3, 4, 5, 7, 8, 9] [] [1, 2, 3, 4, 5, 6, 0] (fun G => vb rv200) [fun G => SP.fact (True)] (fun G => xC [3, 4, 5, 0, 1, 2] ca12 (fn12 rv101.1 a106 k107 a109 k110 a112 k113 rv119.1 a124 k125 a127 k128 a130 k131 pre pre rv200 hg201)) (Dv [] Vnot (Dv [] Vpf ?_))
   refine bool_split (!rv200) ?_ ?_
   ·intro h202
    have h204 := not_true h202
    change JD2 _ _ _ _ _ _ [⟨none, fun _ => Cl c10 [vl ta0 tk0 t, vi rv190.2]⟩, ⟨none, fun _ => O a138 k139 leaf_136⟩, ⟨none, fun _ => Cl p133 [vi rv119.1.Width, vl a124 k125 rv119.1.Deps, vl a127 k128 rv119.1.Transfers, vl a130 k131 rv119.1.Boundary]⟩, ⟨none, fun _ => S a124 k125 rv119.1.Deps⟩, ⟨none, fun _ => S a127 k128 rv119.1.Transfers⟩, ⟨none, fun _ => S a130 k131 rv119.1.Boundary⟩, ⟨none, fun _ => Cl p115 [vi rv101.1.Width, vl a106 k107 rv101.1.Deps, vl a109 k110 rv101.1.Transfers, vl a112 k113 rv101.1.Boundary]⟩, ⟨none, fun _ => S a106 k107 rv101.1.Deps⟩, ⟨none, fun _ => S a109 k110 rv101.1.Transfers⟩, ⟨none, fun _ => S a112 k113 rv101.1.Boundary⟩, ⟨none, fun _ => S a85 k86 rv81.1⟩, ⟨none, fun _ => Cl p53 [vi rv38.1.Width, vl a44 k45 rv38.1.Deps, vl a47 k48 rv38.1.Transfers, vl a50 k51 rv38.1.Boundary]⟩, ⟨none, fun _ => S a44 k45 rv38.1.Deps⟩, ⟨none, fun _ => S a47 k48 rv38.1.Transfers⟩, ⟨none, fun _ => S a50 k51 rv38.1.Boundary⟩, ⟨none, fun _ => pv p9 [vi s.Width, vl sa1 sk1 s.Deps, vl sa2 sk2 s.Transfers, vl sa3 sk3 s.Boundary]⟩, ⟨none, fun _ => S ta0 tk0 t⟩, ⟨none, fun _ => S sa1 sk1 s.Deps⟩, ⟨none, fun _ => S sa2 sk2 s.Transfers⟩, ⟨none, fun _ => S sa3 sk3 s.Boundary⟩, ⟨none, fun _ => S ca0 ck0 c⟩, ⟨none, fun _ => S k2a0 k2k0 k2⟩, ⟨some 6, fun G => SP.fact (True)⟩] _
    refine Db h202 [] Vm (Ds (Ds (Ds (Ds (Ds (Ds (Ds (Ds (Ds ?_)))))))))
    refine Ds (Ds (Ds (Dv [] Vpt ?_)))
    refine Dn ⟨by kernel_rfl, fun G => ?_⟩
    refine Jw2 [(2, vl ca0 ck0 c), (3, vl k2a0 k2k0 k2), (4, vi i), (6, p9), (11, c10), (12, vi r_16), (117, vb true)] [0, 1, 2, 3, 4, 5, 6, 7, 8, 9, 10, 11, 12, 13, 14, 15, 16, 17, 18, 19, 20, 21] [SP.fact (True)] ?_
    refine Jk [0, 0, 0, 0, 1, 2, 3, 3, 4, 5, 6, 7, 7, 8, 9, 10, 11, 12, 13, 14, 15, 16] (Kt ?_)
    refine KS ?_
    refine Oq Va (KS ?_)
    have hR206 := q2 hM17 (.ret false) (by simp only [w14_ConeRestricts_L0, h32, h78, h172, h196, h202, h204, hg39, hg56, hg59, hg73, hg82, hg91, hg102, hg120, hg167, hR189, hg191, hg201, cs4])
    have hq := q4 hrr false (by unfold w14_ConeRestricts; simp only [h32, h78, h172, h196, h202, h204, hg12, hg39, hg56, hg59, hg73, hg82, hg91, hg102, hg120, hg167, hR189, hg191, hg201, hR206, cs4]); subst hq
    exact Kr () rfl (.tmp rfl .nil) [] trivial
   intro h202
   have h208 := not_false h202
   change JD2 _ _ _ _ _ _ [⟨none, fun _ => Cl c10 [vl ta0 tk0 t, vi rv190.2]⟩, ⟨none, fun _ => O a138 k139 leaf_136⟩, ⟨none, fun _ => Cl p133 [vi rv119.1.Width, vl a124 k125 rv119.1.Deps, vl a127 k128 rv119.1.Transfers, vl a130 k131 rv119.1.Boundary]⟩, ⟨none, fun _ => S a124 k125 rv119.1.Deps⟩, ⟨none, fun _ => S a127 k128 rv119.1.Transfers⟩, ⟨none, fun _ => S a130 k131 rv119.1.Boundary⟩, ⟨none, fun _ => Cl p115 [vi rv101.1.Width, vl a106 k107 rv101.1.Deps, vl a109 k110 rv101.1.Transfers, vl a112 k113 rv101.1.Boundary]⟩, ⟨none, fun _ => S a106 k107 rv101.1.Deps⟩, ⟨none, fun _ => S a109 k110 rv101.1.Transfers⟩, ⟨none, fun _ => S a112 k113 rv101.1.Boundary⟩, ⟨none, fun _ => S a85 k86 rv81.1⟩, ⟨none, fun _ => Cl p53 [vi rv38.1.Width, vl a44 k45 rv38.1.Deps, vl a47 k48 rv38.1.Transfers, vl a50 k51 rv38.1.Boundary]⟩, ⟨none, fun _ => S a44 k45 rv38.1.Deps⟩, ⟨none, fun _ => S a47 k48 rv38.1.Transfers⟩, ⟨none, fun _ => S a50 k51 rv38.1.Boundary⟩, ⟨none, fun _ => pv p9 [vi s.Width, vl sa1 sk1 s.Deps, vl sa2 sk2 s.Transfers, vl sa3 sk3 s.Boundary]⟩, ⟨none, fun _ => S ta0 tk0 t⟩, ⟨none, fun _ => S sa1 sk1 s.Deps⟩, ⟨none, fun _ => S sa2 sk2 s.Transfers⟩, ⟨none, fun _ => S sa3 sk3 s.Boundary⟩, ⟨none, fun _ => S ca0 ck0 c⟩, ⟨none, fun _ => S k2a0 k2k0 k2⟩, ⟨some 6, fun G => SP.fact (True)⟩] _
   refine Db h202 [] Vm (Dv [11] (VldA sh27 0) (Dv [] Vm (Dv [] Vm (Dv [] Vm ?_))))
   refine letv (cn_Dependents rv38.1 rv81.1 leaf_136 (rv190.1 - 1)) fun rv211 hg212 => ?_
   refine Dx [1, 10, 12, 13, 14] [1] [3, 4, 5, 6, 2, 0, 1] (fun G => (G.g 14 0)) [fun G => S a138 k139 leaf_136, fun G => SP.fact ((rv211.length ≤ rv81.1.length)), fun G => sl (G.g 14 0) rv211] (fun G => xp [0] rfl (Ent.freeze _ _) (xC [2, 3, 4, 1, 0] ca14 (fn14 rv38.1 a44 k45 a47 k48 a50 k51 rv81.1 a85 k86 leaf_136 a138 k139 ((rv190.1 - 1)) pre pre rv211 hg212))) (Dv [11] (VldA sh27 0) (Dv [] Vm (Dv [] Vm (Dv [] Vm ?_))))
   refine letv (r14_Dependents rv38.1 rv81.1 leaf_136 (rv190.1 - 1)) fun rv214 hg215 => ?_
   refine Dx [10, 12, 13, 14, 23, 24] [] [2, 3, 4, 5, 6, 7, 0, 1] (fun G => (G.g 19 0)) [fun G => SP.fact ((rv214.length ≤ rv81.1.length)), fun G => sl (G.g 19 0) rv214] (fun G => by refine xf 5 rfl ?_; rintro he216; exact xC [1, 2, 3, 0, 4] ca15 (fn15 rv38.1 a44 k45 a47 k48 a50 k51 rv81.1 a85 k86 leaf_136 a138 k139 ((rv190.1 - 1)) pre pre rv214 hg215)) ?_
   refine letv (r7_Ints rv211 rv214) fun rv223 hg224 => ?_
   refine Dx [25, 27] [] [1, 2, 0] (fun G => vb rv223) [fun G => SP.fact (True)] (fun G => xD [1, 0] ca13 rfl rfl rfl (FT_open (γ := Unit) (I := fun g => True) (V := fun g => vb rv223) (B := fun g => []) (R := sl (G.g 19 0) rv214) sl_slice (fun aq220 kq221 eq222 => by rw [eq222]; exact FT_ent (Ent.take (is := [1, 0]) rfl) (FT_open (γ := Unit) (I := fun g => True) (V := fun g => vb rv223) (B := fun g => []) (R := sl (G.g 14 0) rv211) sl_slice (fun aq217 kq218 eq219 => by rw [eq219]; exact FT_ent (Ent.take (is := [0, 1]) rfl) (fn13 rv211 aq217 kq218 rv214 aq220 kq221 rv223 hg224)))))) (Dv [] Vnot (Dv [] Vpf ?_))
   refine Dn ⟨by kernel_rfl, fun G => ?_⟩
   refine Jw2 [(2, vl ca0 ck0 c), (3, vl k2a0 k2k0 k2), (4, vi i), (6, p9), (11, c10), (12, vi r_16), (117, vb (!rv223))] [0, 2, 3, 4, 5, 6, 7, 8, 9, 10, 11, 12, 13, 14, 15, 16, 17, 18, 19, 20, 21] [SP.fact (True), S a138 k139 leaf_136, SP.fact ((rv211.length ≤ rv81.1.length)), sl (G.g 14 0) rv211, SP.fact ((rv214.length ≤ rv81.1.length)), sl (G.g 19 0) rv214, SP.fact (True)] ?_
   generalize G.g 14 0 = c210, G.g 19 0 = c213
   refine Jf 23 rfl ?_; rintro he225
   refine Jf 25 rfl ?_; rintro he226
   refine Jk [0, 0, 0, 1, 2, 3, 3, 4, 5, 6, 7, 7, 8, 9, 10, 11, 12, 13, 14, 15, 16, 18, 20, 22] ?_
   refine Jo 22 ?_; rintro a227 k228 rfl
   refine Fb 8 22 fun _ => Fo 22 fun ho230 => ?_
   refine Jo 23 ?_; rintro a231 k232 rfl
   refine Fb 8 23 fun _ => Fo 23 fun ho234 => ?_
   refine Kc ?_ ?_
   ·intro h235
    have h237 := not_true h235
    refine KS ?_
    refine Oq Va (KS ?_)
    have hR239 := q2 hM17 (.ret false) (by simp only [w14_ConeRestricts_L0, h32, h78, h172, h196, h202, h208, h235, h237, hg39, hg56, hg59, hg73, hg82, hg91, hg102, hg120, hg167, hR189, hg191, hg201, hg212, hg215, hg224, cs4])
    have hq := q4 hrr false (by unfold w14_ConeRestricts; simp only [h32, h78, h172, h196, h202, h208, h235, h237, hg12, hg39, hg56, hg59, hg73, hg82, hg91, hg102, hg120, hg167, hR189, hg191, hg201, hg212, hg215, hg224, hR239, cs4]); subst hq
    exact Kr () rfl (.tmp rfl .nil) [] trivial
   intro h235
   have h241 := not_false h235
   refine KS ?_
   refine Oq Vm (Oq Vadd (Oq Va (KS ?_)))
   exact Kg (r34, rv190.2, (r_16 + 1)) [0, 13, 14, 15, 16, 17, 18, 19] ⟨(q3 hM17 (by simp only [w14_ConeRestricts_L0, h32, h78, h172, h196, h202, h208, h235, h241, hg39, hg56, hg59, hg73, hg82, hg91, hg102, hg120, hg167, hR189, hg191, hg201, hg212, hg215, hg224, cs4])), aM1, aM1, aM1, aM1, aM1, aM1⟩
  intro h78
  have g243 := ne_of_beq_false h78
  refine KS ?_
  refine Oq Vm (Oq (VldA sh27 1) ?_)
  refine letv (w14_known t rv72.2 rv38.1 true) fun rv245 hg246 => ?_
  have hc247 := fn9 c10 ta0 tk0 t rv72.2 rv38.1 a44 k45 a47 k48 a50 k51 true pre pre pre rv245 hg246
  refine Oc [0, 5, 1, 2, 3] ca9 hc247 ?_
  rintro c244 ⟨he248, he249⟩
  refine Jo 0 ?_; rintro a250 k251 rfl
  refine Fb 40 0 fun _ => ?_
  refine Oq Va (KS ?_)
  refine Oq (VldA sh27 2) (Oq Vm (Oq Vm ?_))
  refine letv (cn_Restrict rv38.1 rv58.1 rv245.1) fun rv256 hg257 => ?_
  have hc258 := fn10 rv38.1 a44 k45 a47 k48 a50 k51 rv58.1 a68 k69 rv245.1 a250 k251 pre pre rv256 hg257
  refine Oc [3, 4, 5, 14, 0] ca10 hc258 ?_
  rintro ⟨c253, c254, c255⟩ ⟨he259, he260⟩
  unfold i64ok at he259 he260
  refine Jo 0 ?_; rintro a261 k262 rfl
  refine Fb 24 0 fun _ => ?_
  refine Jo 1 ?_; rintro a264 k265 rfl
  refine Fb 88 1 fun _ => ?_
  refine Jo 2 ?_; rintro a267 k268 rfl
  refine Fb 32 2 fun _ => ?_
  refine Oq Vm (Oq Vx (Oq Vx (Oa (Al ze27 [vi 0, .slice none 0 0, .slice none 0 0, .slice none 0 0]) fun p270 => Ost (Scl [0] sh27 [vi rv256.1.Width, vl a261 k262 rv256.1.Deps, vl a264 k265 rv256.1.Transfers, vl a267 k268 rv256.1.Boundary]) (Oq Va (KS ?_)))))
  refine Oq (VldA sh27 6) (Oq Vm (Oq Vm ?_))
  refine letv (r14_Restrict rv38.1 rv58.1 rv245.1) fun rv274 hg275 => ?_
  have hc276 := fn11 rv38.1 a44 k45 a47 k48 a50 k51 rv58.1 a68 k69 rv245.1 a250 k251 pre pre rv274 hg275
  refine Oc [7, 8, 9, 18, 4] ca11 hc276 ?_
  rintro ⟨c271, c272, c273⟩ ⟨he277, he278⟩
  unfold i64ok at he277 he278
  refine Jo 0 ?_; rintro a279 k280 rfl
  refine Fb 24 0 fun _ => ?_
  refine Jo 1 ?_; rintro a282 k283 rfl
  refine Fb 88 1 fun _ => ?_
  refine Jo 2 ?_; rintro a285 k286 rfl
  refine Fb 32 2 fun _ => ?_
  refine Oq Vm (Oq Vx (Oq Vx (Oa (Al ze27 [vi 0, .slice none 0 0, .slice none 0 0, .slice none 0 0]) fun p288 => Ost (Scl [0] sh27 [vi rv274.1.Width, vl a279 k280 rv274.1.Deps, vl a282 k283 rv274.1.Transfers, vl a285 k286 rv274.1.Boundary]) (Oq Va (KS ?_)))))
  refine Oq Va (KS ?_)
  refine Oq Va (KS ?_)
  refine Jl [] (Ent.osNil (α := Bool)) ?_
  have hterm300 : w14_ConeRestricts_L1 t rv58.1 (fl (rv58.1.length + 2)) rv245.2 [] 0 ≠ LR.oof := (CR_t)
  refine Kl (γ := Nat × Int × List Bool × Int × Option Addr × Nat) (fun (r289, k1_290, leaf_291, j_292, a293, k294) => ⟨[(2, vl ca0 ck0 c), (3, vl k2a0 k2k0 k2), (4, vi i), (6, p9), (11, c10), (12, vi r_16), (13, p53), (14, vl a68 k69 rv58.1), (18, p270), (19, vi rv256.2), (20, p288), (21, vi rv274.2), (22, vl a293 k294 leaf_291), (23, vi j_292)], [O a293 k294 leaf_291, Cl p288 [vi rv274.1.Width, vl a279 k280 rv274.1.Deps, vl a282 k283 rv274.1.Transfers, vl a285 k286 rv274.1.Boundary], S a279 k280 rv274.1.Deps, S a282 k283 rv274.1.Transfers, S a285 k286 rv274.1.Boundary, Cl p270 [vi rv256.1.Width, vl a261 k262 rv256.1.Deps, vl a264 k265 rv256.1.Transfers, vl a267 k268 rv256.1.Boundary], S a261 k262 rv256.1.Deps, S a264 k265 rv256.1.Transfers, S a267 k268 rv256.1.Boundary, Cl c10 [vl ta0 tk0 t, vi k1_290], Cl p53 [vi rv38.1.Width, vl a44 k45 rv38.1.Deps, vl a47 k48 rv38.1.Transfers, vl a50 k51 rv38.1.Boundary], S a44 k45 rv38.1.Deps, S a47 k48 rv38.1.Transfers, S a50 k51 rv38.1.Boundary, pv p9 [vi s.Width, vl sa1 sk1 s.Deps, vl sa2 sk2 s.Transfers, vl sa3 sk3 s.Boundary], S ta0 tk0 t, S sa1 sk1 s.Deps, S sa2 sk2 s.Transfers, S sa3 sk3 s.Boundary, S ca0 ck0 c, S k2a0 k2k0 k2, S a68 k69 rv58.1], w14_ConeRestricts_L1 t rv58.1 r289 k1_290 leaf_291 j_292 = w14_ConeRestricts_L1 t rv58.1 (fl (rv58.1.length + 2)) rv245.2 [] 0 ∧ (-9223372036854775808 ≤ k1_290 ∧ k1_290 ≤ 9223372036854775807) ∧ (0 ≤ k1_290 ∧ k1_290 ≤ (t.length : Int)) ∧ (-9223372036854775808 ≤ j_292 ∧ j_292 ≤ 9223372036854775807) ∧ ((leaf_291.length : Int) ≤ j_292 ∧ 0 ≤ j_292 ∧ j_292 ≤ 70000), r289⟩) ((fl (rv58.1.length + 2)), rv245.2, [], 0, none, 0) [0, 0, 0, 1, 2, 3, 3, 4, 5, 7, 7, 7, 8, 9, 10, 11, 12, 13, 14, 15, 16, 18] ⟨rfl, aM1, aM1, aM1, iv0⟩ ?_
  rintro ⟨r289, k1_290, leaf_291, j_292, a293, k294⟩ ⟨hM295, hk296, ht297, hk298, hv299⟩
  refine JJ_nx fun _ _ hL hA => ?_; dsimp only at hL hA; subst hL hA
  refine Fb 1 0 fun _ => Fb 24 2 fun _ => Fb 88 3 fun _ => Fb 32 4 fun _ => Fb 24 6 fun _ => Fb 88 7 fun _ => Fb 32 8 fun _ => Fb 24 11 fun _ => ?_
  refine Fb 88 12 fun _ => Fb 32 13 fun _ => Fb 8 15 fun _ => Fo 15 fun ho312 => Fb 24 16 fun _ => Fb 88 17 fun _ => Fb 32 18 fun _ => Fb 8 19 fun _ => ?_
  refine Fo 19 fun ho317 => Fb 40 20 fun _ => Fb 8 21 fun _ => Fo 21 fun ho320 => ?_
  rcases r289 with _ | r289
  ·exact absurd (hM295.symm.trans rfl) hterm300
  refine KS ?_
  refine Oq Vm (Oq Vm (Oq (Vlen sl22) (Oq Vm ?_)))
  refine letv (tp_Next t k1_290 9) fun rv321 hg322 => ?_
  have hc323 := fn7 c10 ta0 tk0 t k1_290 9 pre pre rv321 hg322
  refine Oc [9, 14] ca7 hc323 ?_
  rintro - ⟨he324, he325, he326⟩
  unfold i64ok at he324
  refine Oq Vquo (Oq Vadd (Oq Vlss (KS ?_)))
  refine Kc ?_ ?_
  ·intro h327
   have g328 := dt h327
   refine KS ?_
   refine Oq Vm (Oq Vm ?_)
   refine letv (tp_Next t rv321.2 3) fun rv329 hg330 => ?_
   have hc331 := fn7 c10 ta0 tk0 t rv321.2 3 pre pre rv329 hg330
   refine Oc [0, 14] ca7 hc331 ?_
   rintro - ⟨he332, he333, he334⟩
   unfold i64ok at he332
   refine Oq Veql (Oa (AsV sl40 sz40 [vb (rv329.1 == 1)] [vb (rv329.1 == 1)]) fun c335 => ?_)
   refine Jo 0 ?_; rintro a336 k337 rfl
   refine Jl [0] (Ent.cr1 (α := Bool) (A := []) _ (rv329.1 == 1) _ aB1 (fun _ => rfl)) ?_
   refine Oa (ApO [2, 0] sl40 sl40 sz40) fun c338 => ?_
   refine Jo 0 ?_; rintro a339 k340 rfl
   refine Fb 1 0 fun _ => ?_
   have hn342 := la leaf_291 ([(rv329.1 == 1)] : List Bool)
   refine Oq Va (KS ?_)
   refine Oq Vm (Oq Vadd (Oq Va (KS ?_)))
   exact Kg (r289, rv329.2, (leaf_291 ++ [(rv329.1 == 1)]), (j_292 + 1), a339, k340) [0, 1, 1, 2, 3, 4, 4, 5, 6, 0, 6, 6, 7, 8, 9, 10, 11, 12, 13, 14, 15, 16] ⟨(q3 hM295 (by simp only [w14_ConeRestricts_L1, h327, hg322, hg330, cs4])), aM1, aM1, aM1, iv1⟩
  intro h327
  have g343 := df h327
  refine Ke ?_
  have hR344 := q2 hM295 (.brk (rv321.2, leaf_291)) (by simp only [w14_ConeRestricts_L1, h327, hg322, cs4])
  refine KS ?_
  refine Oq Vm (Oq Vm (Oq (Vlen sl22) (Oq Vadd ?_)))
  refine letv (tp_Next t rv321.2 ((rv58.1.length : Int) + 2)) fun rv345 hg346 => ?_
  have hc347 := fn7 c10 ta0 tk0 t rv321.2 (((rv58.1.length : Int) + 2)) pre pre rv345 hg346
  refine Oc [0, 14] ca7 hc347 ?_
  rintro - ⟨he348, he349, he350⟩
  unfold i64ok at he348
  refine Oq Vsub (Oq Va (KS ?_))
  change JK _ _ _ [Cl c10 [vl ta0 tk0 t, vi rv345.2], O a293 k294 leaf_291, Cl p288 [vi rv274.1.Width, vl a279 k280 rv274.1.Deps, vl a282 k283 rv274.1.Transfers, vl a285 k286 rv274.1.Boundary], S a279 k280 rv274.1.Deps, S a282 k283 rv274.1.Transfers, S a285 k286 rv274.1.Boundary, Cl p270 [vi rv256.1.Width, vl a261 k262 rv256.1.Deps, vl a264 k265 rv256.1.Transfers, vl a267 k268 rv256.1.Boundary], S a261 k262 rv256.1.Deps, S a264 k265 rv256.1.Transfers, S a267 k268 rv256.1.Boundary, Cl p53 [vi rv38.1.Width, vl a44 k45 rv38.1.Deps, vl a47 k48 rv38.1.Transfers, vl a50 k51 rv38.1.Boundary], S a44 k45 rv38.1.Deps, S a47 k48 rv38.1.Transfers, S a50 k51 rv38.1.Boundary, pv p9 [vi s.Width, vl sa1 sk1 s.Deps, vl sa2 sk2 s.Transfers, vl sa3 sk3 s.Boundary], S ta0 tk0 t, S sa1 sk1 s.Deps, S sa2 sk2 s.Transfers, S sa3 sk3 s.Boundary, S ca0 ck0 c, S k2a0 k2k0 k2, S a68 k69 rv58.1]
  refine JK_drawK [0, 0, 3, 7, 15, 15, 63, 127, 255, 511, 1023, 1023, 1023, 1023, 16383, 1023, 1023, 1023, 1023, 524287, 1048575, 2097151, 4194303] fmix ?_
  refine Dv [] Vm (Dv [] Vm (Dv [] Vneq ?_))
  refine bool_split (rv256.2 != rv274.2) ?_ ?_
  ·intro h351
   have g352 := ne_of_bne h351
   change JD2 _ _ _ _ _ _ [⟨none, fun _ => Cl c10 [vl ta0 tk0 t, vi rv345.2]⟩, ⟨none, fun _ => O a293 k294 leaf_291⟩, ⟨none, fun _ => Cl p288 [vi rv274.1.Width, vl a279 k280 rv274.1.Deps, vl a282 k283 rv274.1.Transfers, vl a285 k286 rv274.1.Boundary]⟩, ⟨none, fun _ => S a279 k280 rv274.1.Deps⟩, ⟨none, fun _ => S a282 k283 rv274.1.Transfers⟩, ⟨none, fun _ => S a285 k286 rv274.1.Boundary⟩, ⟨none, fun _ => Cl p270 [vi rv256.1.Width, vl a261 k262 rv256.1.Deps, vl a264 k265 rv256.1.Transfers, vl a267 k268 rv256.1.Boundary]⟩, ⟨none, fun _ => S a261 k262 rv256.1.Deps⟩, ⟨none, fun _ => S a264 k265 rv256.1.Transfers⟩, ⟨none, fun _ => S a267 k268 rv256.1.Boundary⟩, ⟨none, fun _ => Cl p53 [vi rv38.1.Width, vl a44 k45 rv38.1.Deps, vl a47 k48 rv38.1.Transfers, vl a50 k51 rv38.1.Boundary]⟩, ⟨none, fun _ => S a44 k45 rv38.1.Deps⟩, ⟨none, fun _ => S a47 k48 rv38.1.Transfers⟩, ⟨none, fun _ => S a50 k51 rv38.1.Boundary⟩, ⟨none, fun _ => pv p9 [vi s.Width, vl sa1 sk1 s.Deps, vl sa2 sk2 s.Transfers, vl sa3 sk3 s.Boundary]⟩, ⟨none, fun _ => S ta0 tk0 t⟩, ⟨none, fun _ => S sa1 sk1 s.Deps⟩, ⟨none, fun _ => S sa2 sk2 s.Transfers⟩, ⟨none, fun _ => S sa3 sk3 s.Boundary⟩, ⟨none, fun _ => S ca0 ck0 c⟩, ⟨none, fun _ => S k2a0 k2k0 k2⟩, ⟨none, fun _ => S a68 k69 rv58.1⟩] _
   refine Db h351 [] Vm (Ds (Ds (Ds (Ds (Dv [] Vpt (Dv [] Vm (Ds (Ds (Ds ?_)))))))))
   refine Ds (Ds (Ds (Ds (Ds (Ds (Ds (Ds (Ds (Dv [] Vpt ?_)))))))))
   refine Dn ⟨by kernel_rfl, fun G => ?_⟩
   refine Jw2 [(2, vl ca0 ck0 c), (3, vl k2a0 k2k0 k2), (4, vi i), (6, p9), (11, c10), (12, vi r_16), (117, vb true)] [0, 1, 2, 3, 4, 5, 6, 7, 8, 9, 10, 11, 12, 13, 14, 15, 16, 17, 18, 19, 20, 21] [] ?_
   refine Kt (KS ?_)
   refine Oq Va (KS ?_)
   have hR353 := q2 hM17 (.ret false) (by simp only [w14_ConeRestricts_L0, h32, h78, h327, h351, hg39, hg56, hg59, hg73, hg246, hg257, hg275, hg322, hR344, hg346, cs4])
   have hq := q4 hrr false (by unfold w14_ConeRestricts; simp only [h32, h78, h327, h351, hg12, hg39, hg56, hg59, hg73, hg246, hg257, hg275, hg322, hR344, hg346, hR353, cs4]); subst hq
   exact Kr () rfl (.tmp rfl .nil) [] trivial
  intro h351
  have g354 := eq_of_bne_false h351
  change JD2 _ _ _ _ _ _ [⟨none, fun _ => Cl c10 [vl ta0 tk0 t, vi rv345.2]⟩, ⟨none, fun _ => O a293 k294 leaf_291⟩, ⟨none, fun _ => Cl p288 [vi rv274.1.Width, vl a279 k280 rv274.1.Deps, vl a282 k283 rv274.1.Transfers, vl a285 k286 rv274.1.Boundary]⟩, ⟨none, fun _ => S a279 k280 rv274.1.Deps⟩, ⟨none, fun _ => S a282 k283 rv274.1.Transfers⟩, ⟨none, fun _ => S a285 k286 rv274.1.Boundary⟩, ⟨none, fun _ => Cl p270 [vi rv256.1.Width, vl a261 k262 rv256.1.Deps, vl a264 k265 rv256.1.Transfers, vl a267 k268 rv256.1.Boundary]⟩, ⟨none, fun _ => S a261 k262 rv256.1.Deps⟩, ⟨none, fun _ => S a264 k265 rv256.1.Transfers⟩, ⟨none, fun _ => S a267 k268 rv256.1.Boundary⟩, ⟨none, fun _ => Cl p53 [vi rv38.1.Width, vl a44 k45 rv38.1.Deps, vl a47 k48 rv38.1.Transfers, vl a50 k51 rv38.1.Boundary]⟩, ⟨none, fun _ => S a44 k45 rv38.1.Deps⟩, ⟨none, fun _ => S a47 k48 rv38.1.Transfers⟩, ⟨none, fun _ => S a50 k51 rv38.1.Boundary⟩, ⟨none, fun _ => pv p9 [vi s.Width, vl sa1 sk1 s.Deps, vl sa2 sk2 s.Transfers, vl sa3 sk3 s.Boundary]⟩, ⟨none, fun _ => S ta0 tk0 t⟩, ⟨none, fun _ => S sa1 sk1 s.Deps⟩, ⟨none, fun _ => S sa2 sk2 s.Transfers⟩, ⟨none, fun _ => S sa3 sk3 s.Boundary⟩, ⟨none, fun _ => S ca0 ck0 c⟩, ⟨none, fun _ => S k2a0 k2k0 k2⟩, ⟨none, fun _ => S a68 k69 rv58.1⟩] _
  refine Db h351 [] Vm (Dv [6] (VldA sh27 0) (Dv [2] (VldA sh27 0) ?_))
  refine letv (r10_SameSystem rv256.1 rv274.1) fun rv355 hg356 => ?_
  refine Dx [3, 4, 5, 7, 8, 9] [] [1, 2, 3, 4, 5, 6, 0] (fun G => vb rv355) [fun G => SP.fact (True)] (fun G => xC [3, 4, 5, 0, 1, 2] ca12 (fn12 rv256.1 a261 k262 a264 k265 a267 k268 rv274.1 a279 k280 a282 k283 a285 k286 pre pre rv355 hg356)) (Dv [] Vnot (Dv [] Vpf ?_))
  refine bool_split (!rv355) ?_ ?_
  ·intro h357
   have h359 := not_true h357
   change JD2 _ _ _ _ _ _ [⟨none, fun _ => Cl c10 [vl ta0 tk0 t, vi rv345.2]⟩, ⟨none, fun _ => O a293 k294 leaf_291⟩, ⟨none, fun _ => Cl p288 [vi rv274.1.Width, vl a279 k280 rv274.1.Deps, vl a282 k283 rv274.1.Transfers, vl a285 k286 rv274.1.Boundary]⟩, ⟨none, fun _ => S a279 k280 rv274.1.Deps⟩, ⟨none, fun _ => S a282 k283 rv274.1.Transfers⟩, ⟨none, fun _ => S a285 k286 rv274.1.Boundary⟩, ⟨none, fun _ => Cl p270 [vi rv256.1.Width, vl a261 k262 rv256.1.Deps, vl a264 k265 rv256.1.Transfers, vl a267 k268 rv256.1.Boundary]⟩, ⟨none, fun _ => S a261 k262 rv256.1.Deps⟩, ⟨none, fun _ => S a264 k265 rv256.1.Transfers⟩, ⟨none, fun _ => S a267 k268 rv256.1.Boundary⟩, ⟨none, fun _ => Cl p53 [vi rv38.1.Width, vl a44 k45 rv38.1.Deps, vl a47 k48 rv38.1.Transfers, vl a50 k51 rv38.1.Boundary]⟩, ⟨none, fun _ => S a44 k45 rv38.1.Deps⟩, ⟨none, fun _ => S a47 k48 rv38.1.Transfers⟩, ⟨none, fun _ => S a50 k51 rv38.1.Boundary⟩, ⟨none, fun _ => pv p9 [vi s.Width, vl sa1 sk1 s.Deps, vl sa2 sk2 s.Transfers, vl sa3 sk3 s.Boundary]⟩, ⟨none, fun _ => S ta0 tk0 t⟩, ⟨none, fun _ => S sa1 sk1 s.Deps⟩, ⟨none, fun _ => S sa2 sk2 s.Transfers⟩, ⟨none, fun _ => S sa3 sk3 s.Boundary⟩, ⟨none, fun _ => S ca0 ck0 c⟩, ⟨none, fun _ => S k2a0 k2k0 k2⟩, ⟨none, fun _ => S a68 k69 rv58.1⟩, ⟨some 6, fun G => SP.fact (True)⟩] _
   refine Db h357 [] Vm (Ds (Ds (Ds (Ds (Ds (Ds (Ds (Ds (Ds ?_)))))))))
   refine Ds (Ds (Ds (Dv [] Vpt ?_)))
   refine Dn ⟨by kernel_rfl, fun G => ?_⟩
   refine Jw2 [(2, vl ca0 ck0 c), (3, vl k2a0 k2k0 k2), (4, vi i), (6, p9), (11, c10), (12, vi r_16), (117, vb true)] [0, 1, 2, 3, 4, 5, 6, 7, 8, 9, 10, 11, 12, 13, 14, 15, 16, 17, 18, 19, 20, 21] [SP.fact (True)] ?_
   refine Jk [0, 0, 0, 0, 1, 2, 3, 3, 4, 5, 6, 6, 7, 8, 9, 10, 11, 12, 13, 14, 15, 16] (Kt ?_)
   refine KS ?_
   refine Oq Va (KS ?_)
   have hR361 := q2 hM17 (.ret false) (by simp only [w14_ConeRestricts_L0, h32, h78, h327, h351, h357, h359, hg39, hg56, hg59, hg73, hg246, hg257, hg275, hg322, hR344, hg346, hg356, cs4])
   have hq := q4 hrr false (by unfold w14_ConeRestricts; simp only [h32, h78, h327, h351, h357, h359, hg12, hg39, hg56, hg59, hg73, hg246, hg257, hg275, hg322, hR344, hg346, hg356, hR361, cs4]); subst hq
   exact Kr () rfl (.tmp rfl .nil) [] trivial
  intro h357
  have h363 := not_false h357
  change JD2 _ _ _ _ _ _ [⟨none, fun _ => Cl c10 [vl ta0 tk0 t, vi rv345.2]⟩, ⟨none, fun _ => O a293 k294 leaf_291⟩, ⟨none, fun _ => Cl p288 [vi rv274.1.Width, vl a279 k280 rv274.1.Deps, vl a282 k283 rv274.1.Transfers, vl a285 k286 rv274.1.Boundary]⟩, ⟨none, fun _ => S a279 k280 rv274.1.Deps⟩, ⟨none, fun _ => S a282 k283 rv274.1.Transfers⟩, ⟨none, fun _ => S a285 k286 rv274.1.Boundary⟩, ⟨none, fun _ => Cl p270 [vi rv256.1.Width, vl a261 k262 rv256.1.Deps, vl a264 k265 rv256.1.Transfers, vl a267 k268 rv256.1.Boundary]⟩, ⟨none, fun _ => S a261 k262 rv256.1.Deps⟩, ⟨none, fun _ => S a264 k265 rv256.1.Transfers⟩, ⟨none, fun _ => S a267 k268 rv256.1.Boundary⟩, ⟨none, fun _ => Cl p53 [vi rv38.1.Width, vl a44 k45 rv38.1.Deps, vl a47 k48 rv38.1.Transfers, vl a50 k51 rv38.1.Boundary]⟩, ⟨none, fun _ => S a44 k45 rv38.1.Deps⟩, ⟨none, fun _ => S a47 k48 rv38.1.Transfers⟩, ⟨none, fun _ => S a50 k51 rv38.1.Boundary⟩, ⟨none, fun _ => pv p9 [vi s.Width, vl sa1 sk1 s.Deps, vl sa2 sk2 s.Transfers, vl sa3 sk3 s.Boundary]⟩, ⟨none, fun _ => S ta0 tk0 t⟩, ⟨none, fun _ => S sa1 sk1 s.Deps⟩, ⟨none, fun _ => S sa2 sk2 s.Transfers⟩, ⟨none, fun _ => S sa3 sk3 s.Boundary⟩, ⟨none, fun _ => S ca0 ck0 c⟩, ⟨none, fun _ => S k2a0 k2k0 k2⟩, ⟨none, fun _ => S a68 k69 rv58.1⟩, ⟨some 6, fun G => SP.fact (True)⟩] _
  refine Db h357 [] Vm (Dv [10] (VldA sh27 0) (Dv [] Vm (Dv [] Vm (Dv [] Vm ?_))))
  refine letv (cn_Dependents rv38.1 rv58.1 leaf_291 (rv345.1 - 1)) fun rv366 hg367 => ?_
  refine Dx [1, 11, 12, 13, 21] [1] [3, 4, 5, 6, 2, 0, 1] (fun G => (G.g 14 0)) [fun G => S a293 k294 leaf_291, fun G => SP.fact ((rv366.length ≤ rv58.1.length)), fun G => sl (G.g 14 0) rv366] (fun G => xp [0] rfl (Ent.freeze _ _) (xC [1, 2, 3, 4, 0] ca14 (fn14 rv38.1 a44 k45 a47 k48 a50 k51 rv58.1 a68 k69 leaf_291 a293 k294 ((rv345.1 - 1)) pre pre rv366 hg367))) (Dv [10] (VldA sh27 0) (Dv [] Vm (Dv [] Vm (Dv [] Vm ?_))))
  refine letv (r14_Dependents rv38.1 rv58.1 leaf_291 (rv345.1 - 1)) fun rv369 hg370 => ?_
  refine Dx [11, 12, 13, 21, 23, 24] [] [2, 3, 4, 5, 6, 7, 0, 1] (fun G => (G.g 19 0)) [fun G => SP.fact ((rv369.length ≤ rv58.1.length)), fun G => sl (G.g 19 0) rv369] (fun G => by refine xf 5 rfl ?_; rintro he371; exact xC [0, 1, 2, 3, 4] ca15 (fn15 rv38.1 a44 k45 a47 k48 a50 k51 rv58.1 a68 k69 leaf_291 a293 k294 ((rv345.1 - 1)) pre pre rv369 hg370)) ?_
  refine letv (r7_Ints rv366 rv369) fun rv378 hg379 => ?_
  refine Dx [25, 27] [] [1, 2, 0] (fun G => vb rv378) [fun G => SP.fact (True)] (fun G => xD [1, 0] ca13 rfl rfl rfl (FT_open (γ := Unit) (I := fun g => True) (V := fun g => vb rv378) (B := fun g => []) (R := sl (G.g 19 0) rv369) sl_slice (fun aq375 kq376 eq377 => by rw [eq377]; exact FT_ent (Ent.take (is := [1, 0]) rfl) (FT_open (γ := Unit) (I := fun g => True) (V := fun g => vb rv378) (B := fun g => []) (R := sl (G.g 14 0) rv366) sl_slice (fun aq372 kq373 eq374 => by rw [eq374]; exact FT_ent (Ent.take (is := [0, 1]) rfl) (fn13 rv366 aq372 kq373 rv369 aq375 kq376 rv378 hg379)))))) (Dv [] Vnot (Dv [] Vpf ?_))
  refine Dn ⟨by kernel_rfl, fun G => ?_⟩
  refine Jw2 [(2, vl ca0 ck0 c), (3, vl k2a0 k2k0 k2), (4, vi i), (6, p9), (11, c10), (12, vi r_16), (117, vb (!rv378))] [0, 2, 3, 4, 5, 6, 7, 8, 9, 10, 11, 12, 13, 14, 15, 16, 17, 18, 19, 20, 21] [SP.fact (True), S a293 k294 leaf_291, SP.fact ((rv366.length ≤ rv58.1.length)), sl (G.g 14 0) rv366, SP.fact ((rv369.length ≤ rv58.1.length)), sl (G.g 19 0) rv369, SP.fact (True)] ?_
  generalize G.g 14 0 = c365, G.g 19 0 = c368
  refine Jf 23 rfl ?_; rintro he380
  refine Jf 25 rfl ?_; rintro he381
  refine Jk [0, 0, 0, 1, 2, 3, 3, 4, 5, 6, 6, 7, 8, 9, 10, 11, 12, 13, 14, 15, 16, 18, 20, 22] ?_
  refine Jo 22 ?_; rintro a382 k383 rfl
  refine Fb 8 22 fun _ => Fo 22 fun ho385 => ?_
  refine Jo 23 ?_; rintro a386 k387 rfl
  refine Fb 8 23 fun _ => Fo 23 fun ho389 => ?_
  refine Kc ?_ ?_
  ·intro h390
   have h392 := not_true h390
   refine KS ?_
   refine Oq Va (KS ?_)
   have hR394 := q2 hM17 (.ret false) (by simp only [w14_ConeRestricts_L0, h32, h78, h327, h351, h357, h363, h390, h392, hg39, hg56, hg59, hg73, hg246, hg257, hg275, hg322, hR344, hg346, hg356, hg367, hg370, hg379, cs4])
   have hq := q4 hrr false (by unfold w14_ConeRestricts; simp only [h32, h78, h327, h351, h357, h363, h390, h392, hg12, hg39, hg56, hg59, hg73, hg246, hg257, hg275, hg322, hR344, hg346, hg356, hg367, hg370, hg379, hR394, cs4]); subst hq
   exact Kr () rfl (.tmp rfl .nil) [] trivial
  intro h390
  have h396 := not_false h390
  refine KS ?_
  refine Oq Vm (Oq Vadd (Oq Va (KS ?_)))
  exact Kg (r34, rv345.2, (r_16 + 1)) [0, 12, 13, 14, 15, 16, 17, 18] ⟨(q3 hM17 (by simp only [w14_ConeRestricts_L0, h32, h78, h327, h351, h357, h363, h390, h396, hg39, hg56, hg59, hg73, hg246, hg257, hg275, hg322, hR344, hg346, hg356, hg367, hg370, hg379, cs4])), aM1, aM1, aM1, aM1, aM1, aM1⟩
 intro h32
 have g398 := df h32
 obtain rfl : r14 = 0 := by omega
 refine Ke ?_
 have hR399 := q2 hM17 (.brk ()) (by simp only [w14_ConeRestricts_L0, h32, cs4])
 refine KS ?_
 refine Oq (VldA sh27 1) ?_
 refine letv (g_Huge s) fun rv400 hg401 => ?_
 have hc402 := fn16 s sa1 sk1 sa2 sk2 sa3 sk3 pre rv400 hg401
 refine Oc [3, 4, 5] ca16 hc402 ?_
 rintro - -
 refine Oq Vm ?_
 refine Js 120 ?_ ?_
 ·intro h403
  refine Osk (Osk (Osk (Oq Vpt (Oq Vm (Osk (Osk (Osk (Oq Vpt (KS ?_)))))))))
  refine Kt (KS ?_)
  have hc405 := fn17  w14_sane rfl
  refine Oc [] ca17 hc405 ?_
  rintro - -
  refine Oq Va (KS ?_)
  have hq := q4 hrr w14_sane (by unfold w14_ConeRestricts; simp only [h32, h403, hg12, hR399, hg401, cs4]); subst hq
  exact Kr () rfl (.tmp rfl .nil) [] trivial
 intro h403
 refine Oq Vm (Oq (Vlen sl22) (Oq Vgtr (Oq Vpf (Oq Vm ?_))))
 refine Js 125 ?_ ?_
 ·intro h407
  have g408 := dt h407
  refine Osk (Osk (Osk (Oq Vpt (KS ?_))))
  refine Kt (KS ?_)
  have hc409 := fn17  w14_sane rfl
  refine Oc [] ca17 hc409 ?_
  rintro - -
  refine Oq Va (KS ?_)
  have hq := q4 hrr w14_sane (by unfold w14_ConeRestricts; simp only [h32, h403, h407, hg12, hR399, hg401, cs4]); subst hq
  exact Kr () rfl (.tmp rfl .nil) [] trivial
 intro h407
 have g410 := df h407
 refine Oq Vm (Oq (Vlen sl28) (Oq Vgtr (Oq Vpf (KS ?_))))
 refine Kc ?_ ?_
 ·intro h411
  have g412 := dt h411
  refine KS ?_
  have hc413 := fn17  w14_sane rfl
  refine Oc [] ca17 hc413 ?_
  rintro - -
  refine Oq Va (KS ?_)
  have hq := q4 hrr w14_sane (by unfold w14_ConeRestricts; simp only [h32, h403, h407, h411, hg12, hR399, hg401, cs4]); subst hq
  exact Kr () rfl (.tmp rfl .nil) [] trivial
 intro h411
 have g414 := df h411
 refine KS ?_
 refine Oq (VldA sh27 1) (Oq Vm (Oq Vm ?_))
 refine letv (cn_Restrict s c k2) fun rv418 hg419 => ?_
 have hc420 := fn10 s sa1 sk1 sa2 sk2 sa3 sk3 c ca0 ck0 k2 k2a0 k2k0 pre pre rv418 hg419
 refine Oc [3, 4, 5, 6, 7] ca10 hc420 ?_
 rintro ⟨c415, c416, c417⟩ ⟨he421, he422⟩
 unfold i64ok at he421 he422
 refine Jo 0 ?_; rintro a423 k424 rfl
 refine Fb 24 0 fun _ => ?_
 refine Jo 1 ?_; rintro a426 k427 rfl
 refine Fb 88 1 fun _ => ?_
 refine Jo 2 ?_; rintro a429 k430 rfl
 refine Fb 32 2 fun _ => ?_
 refine Oq Vm (Oq Vx (Oq Vx (Oa (Al ze27 [vi 0, .slice none 0 0, .slice none 0 0, .slice none 0 0]) fun p432 => Ost (Scl [0] sh27 [vi rv418.1.Width, vl a423 k424 rv418.1.Deps, vl a426 k427 rv418.1.Transfers, vl a429 k430 rv418.1.Boundary]) (Oq Va (KS ?_)))))
 refine Oq (VldA sh27 5) (Oq Vm (Oq Vm ?_))
 refine letv (r14_Restrict s c k2) fun rv436 hg437 => ?_
 have hc438 := fn11 s sa1 sk1 sa2 sk2 sa3 sk3 c ca0 ck0 k2 k2a0 k2k0 pre pre rv436 hg437
 refine Oc [7, 8, 9, 10, 11] ca11 hc438 ?_
 rintro ⟨c433, c434, c435⟩ ⟨he439, he440⟩
 unfold i64ok at he439 he440
 refine Jo 0 ?_; rintro a441 k442 rfl
 refine Fb 24 0 fun _ => ?_
 refine Jo 1 ?_; rintro a444 k445 rfl
 refine Fb 88 1 fun _ => ?_
 refine Jo 2 ?_; rintro a447 k448 rfl
 refine Fb 32 2 fun _ => ?_
 refine Oq Vm (Oq Vx (Oq Vx (Oa (Al ze27 [vi 0, .slice none 0 0, .slice none 0 0, .slice none 0 0]) fun p450 => Ost (Scl [0] sh27 [vi rv436.1.Width, vl a441 k442 rv436.1.Deps, vl a444 k445 rv436.1.Transfers, vl a447 k448 rv436.1.Boundary]) (Oq Va (KS ?_)))))
 change JK _ _ _ [Cl p450 [vi rv436.1.Width, vl a441 k442 rv436.1.Deps, vl a444 k445 rv436.1.Transfers, vl a447 k448 rv436.1.Boundary], S a441 k442 rv436.1.Deps, S a444 k445 rv436.1.Transfers, S a447 k448 rv436.1.Boundary, Cl p432 [vi rv418.1.Width, vl a423 k424 rv418.1.Deps, vl a426 k427 rv418.1.Transfers, vl a429 k430 rv418.1.Boundary], S a423 k424 rv418.1.Deps, S a426 k427 rv418.1.Transfers, S a429 k430 rv418.1.Boundary, Cl c10 [vl ta0 tk0 t, vi k1_15], pv p9 [vi s.Width, vl sa1 sk1 s.Deps, vl sa2 sk2 s.Transfers, vl sa3 sk3 s.Boundary], S ta0 tk0 t, S sa1 sk1 s.Deps, S sa2 sk2 s.Transfers, S sa3 sk3 s.Boundary, S ca0 ck0 c, S k2a0 k2k0 k2]
 refine JK_drawK [0, 0, 3, 7, 15, 15, 63, 127, 255, 511, 511, 511, 2559, 6655, 511, 32767, 511, 511, 511, 262655, 786943, 511, 4194303, 8388607, 16777215, 33554431, 67108863, 134217727, 268435455] fmix ?_
 refine Dv [] Vm (Dv [] Vm (Dv [] Veql ?_))
 refine bool_split (rv418.2 == rv436.2) ?_ ?_
 ·intro h451
  have g452 := eq_of_beq h451
  change JD2 _ _ _ _ _ _ [⟨none, fun _ => Cl p450 [vi rv436.1.Width, vl a441 k442 rv436.1.Deps, vl a444 k445 rv436.1.Transfers, vl a447 k448 rv436.1.Boundary]⟩, ⟨none, fun _ => S a441 k442 rv436.1.Deps⟩, ⟨none, fun _ => S a444 k445 rv436.1.Transfers⟩, ⟨none, fun _ => S a447 k448 rv436.1.Boundary⟩, ⟨none, fun _ => Cl p432 [vi rv418.1.Width, vl a423 k424 rv418.1.Deps, vl a426 k427 rv418.1.Transfers, vl a429 k430 rv418.1.Boundary]⟩, ⟨none, fun _ => S a423 k424 rv418.1.Deps⟩, ⟨none, fun _ => S a426 k427 rv418.1.Transfers⟩, ⟨none, fun _ => S a429 k430 rv418.1.Boundary⟩, ⟨none, fun _ => Cl c10 [vl ta0 tk0 t, vi k1_15]⟩, ⟨none, fun _ => pv p9 [vi s.Width, vl sa1 sk1 s.Deps, vl sa2 sk2 s.Transfers, vl sa3 sk3 s.Boundary]⟩, ⟨none, fun _ => S ta0 tk0 t⟩, ⟨none, fun _ => S sa1 sk1 s.Deps⟩, ⟨none, fun _ => S sa2 sk2 s.Transfers⟩, ⟨none, fun _ => S sa3 sk3 s.Boundary⟩, ⟨none, fun _ => S ca0 ck0 c⟩, ⟨none, fun _ => S k2a0 k2k0 k2⟩] _
  refine Db h451 [] Vm (Dv [4] (VldA sh27 0) (Dv [0] (VldA sh27 0) ?_))
  refine letv (r10_SameSystem rv418.1 rv436.1) fun rv453 hg454 => ?_
  refine Dx [1, 2, 3, 5, 6, 7] [] [1, 2, 3, 4, 5, 6, 0] (fun G => vb rv453) [fun G => SP.fact (True)] (fun G => xC [3, 4, 5, 0, 1, 2] ca12 (fn12 rv418.1 a423 k424 a426 k427 a429 k430 rv436.1 a441 k442 a444 k445 a447 k448 pre pre rv453 hg454)) (Dv [] Vpt ?_)
  refine bool_split rv453 ?_ ?_
  ·intro h455
   change JD2 _ _ _ _ _ _ [⟨none, fun _ => Cl p450 [vi rv436.1.Width, vl a441 k442 rv436.1.Deps, vl a444 k445 rv436.1.Transfers, vl a447 k448 rv436.1.Boundary]⟩, ⟨none, fun _ => S a441 k442 rv436.1.Deps⟩, ⟨none, fun _ => S a444 k445 rv436.1.Transfers⟩, ⟨none, fun _ => S a447 k448 rv436.1.Boundary⟩, ⟨none, fun _ => Cl p432 [vi rv418.1.Width, vl a423 k424 rv418.1.Deps, vl a426 k427 rv418.1.Transfers, vl a429 k430 rv418.1.Boundary]⟩, ⟨none, fun _ => S a423 k424 rv418.1.Deps⟩, ⟨none, fun _ => S a426 k427 rv418.1.Transfers⟩, ⟨none, fun _ => S a429 k430 rv418.1.Boundary⟩, ⟨none, fun _ => Cl c10 [vl ta0 tk0 t, vi k1_15]⟩, ⟨none, fun _ => pv p9 [vi s.Width, vl sa1 sk1 s.Deps, vl sa2 sk2 s.Transfers, vl sa3 sk3 s.Boundary]⟩, ⟨none, fun _ => S ta0 tk0 t⟩, ⟨none, fun _ => S sa1 sk1 s.Deps⟩, ⟨none, fun _ => S sa2 sk2 s.Transfers⟩, ⟨none, fun _ => S sa3 sk3 s.Boundary⟩, ⟨none, fun _ => S ca0 ck0 c⟩, ⟨none, fun _ => S k2a0 k2k0 k2⟩, ⟨some 6, fun G => SP.fact (True)⟩] _
   refine Db h455 [] Vm (Dv [9] (VldA sh27 0) (Dv [] Vm (Dv [] Vm (Dv [] (Vlen sl22) ?_))))
   have hn458 := List.length_replicate (n := (c.length : Int).toNat) (a := (false : Bool))
   refine Dx [] [] [0] (fun G => (G.g 13 0)) [fun G => os (G.g 13 0) ((List.replicate (c.length : Int).toNat false) : List Bool)] (fun G => xA (Amk (α := Bool) sl40 sz40 false (fun _ _ => rfl))) (Dv [] Vm ?_)
   refine letv (cn_Dependents s c (List.replicate (c.length : Int).toNat false) i) fun rv463 hg464 => ?_
   refine Dx [11, 12, 13, 14, 17] [17] [3, 4, 5, 6, 2, 0, 1] (fun G => (G.g 15 0)) [fun G => sl (G.g 13 0) ((List.replicate (c.length : Int).toNat false) : List Bool), fun G => SP.fact ((rv463.length ≤ c.length)), fun G => sl (G.g 15 0) rv463] (fun G => xp [4] rfl (Ent.freeze _ _) (xD [0, 1, 2, 3, 4] ca14 rfl rfl rfl (FT_open (γ := Value) (I := fun g => (rv463.length ≤ c.length)) (V := fun g => g) (B := fun g => [sl g rv463]) (R := sl (G.g 13 0) ((List.replicate (c.length : Int).toNat false) : List Bool)) sl_slice (fun aq459 kq460 eq461 => by rw [eq461]; exact FT_ent (Ent.take (is := [1, 2, 3, 4, 0]) rfl) (fn14 s sa1 sk1 sa2 sk2 sa3 sk3 c ca0 ck0 ((List.replicate (c.length : Int).toNat false)) aq459 kq460 i pre pre rv463 hg464))))) (Dv [9] (VldA sh27 0) (Dv [] Vm (Dv [] Vm (Dv [] (Vlen sl22) ?_))))
   have hn466 := List.length_replicate (n := (c.length : Int).toNat) (a := (false : Bool))
   refine Dx [] [] [0] (fun G => (G.g 20 0)) [fun G => os (G.g 20 0) ((List.replicate (c.length : Int).toNat false) : List Bool)] (fun G => xA (Amk (α := Bool) sl40 sz40 false (fun _ _ => rfl))) (Dv [] Vm ?_)
   refine letv (r14_Dependents s c (List.replicate (c.length : Int).toNat false) i) fun rv471 hg472 => ?_
   refine Dx [11, 12, 13, 14, 21] [21] [3, 4, 5, 6, 2, 0, 1] (fun G => (G.g 22 0)) [fun G => sl (G.g 20 0) ((List.replicate (c.length : Int).toNat false) : List Bool), fun G => SP.fact ((rv471.length ≤ c.length)), fun G => sl (G.g 22 0) rv471] (fun G => xp [4] rfl (Ent.freeze _ _) (xD [0, 1, 2, 3, 4] ca15 rfl rfl rfl (FT_open (γ := Value) (I := fun g => (rv471.length ≤ c.length)) (V := fun g => g) (B := fun g => [sl g rv471]) (R := sl (G.g 20 0) ((List.replicate (c.length : Int).toNat false) : List Bool)) sl_slice (fun aq467 kq468 eq469 => by rw [eq469]; exact FT_ent (Ent.take (is := [1, 2, 3, 4, 0]) rfl) (fn15 s sa1 sk1 sa2 sk2 sa3 sk3 c ca0 ck0 ((List.replicate (c.length : Int).toNat false)) aq467 kq468 i pre pre rv471 hg472))))) ?_
   refine letv (r7_Ints rv463 rv471) fun rv479 hg480 => ?_
   refine Dx [20, 24] [] [1, 2, 0] (fun G => vb rv479) [fun G => SP.fact (True)] (fun G => xD [1, 0] ca13 rfl rfl rfl (FT_open (γ := Unit) (I := fun g => True) (V := fun g => vb rv479) (B := fun g => []) (R := sl (G.g 22 0) rv471) sl_slice (fun aq476 kq477 eq478 => by rw [eq478]; exact FT_ent (Ent.take (is := [1, 0]) rfl) (FT_open (γ := Unit) (I := fun g => True) (V := fun g => vb rv479) (B := fun g => []) (R := sl (G.g 15 0) rv463) sl_slice (fun aq473 kq474 eq475 => by rw [eq475]; exact FT_ent (Ent.take (is := [0, 1]) rfl) (fn13 rv463 aq473 kq474 rv471 aq476 kq477 rv479 hg480)))))) (Dv [] Vpt ?_)
   refine bool_split rv479 ?_ ?_
   ·intro h481
    change JD2 _ _ _ _ _ _ [⟨none, fun _ => Cl p450 [vi rv436.1.Width, vl a441 k442 rv436.1.Deps, vl a444 k445 rv436.1.Transfers, vl a447 k448 rv436.1.Boundary]⟩, ⟨none, fun _ => S a441 k442 rv436.1.Deps⟩, ⟨none, fun _ => S a444 k445 rv436.1.Transfers⟩, ⟨none, fun _ => S a447 k448 rv436.1.Boundary⟩, ⟨none, fun _ => Cl p432 [vi rv418.1.Width, vl a423 k424 rv418.1.Deps, vl a426 k427 rv418.1.Transfers, vl a429 k430 rv418.1.Boundary]⟩, ⟨none, fun _ => S a423 k424 rv418.1.Deps⟩, ⟨none, fun _ => S a426 k427 rv418.1.Transfers⟩, ⟨none, fun _ => S a429 k430 rv418.1.Boundary⟩, ⟨none, fun _ => Cl c10 [vl ta0 tk0 t, vi k1_15]⟩, ⟨none, fun _ => pv p9 [vi s.Width, vl sa1 sk1 s.Deps, vl sa2 sk2 s.Transfers, vl sa3 sk3 s.Boundary]⟩, ⟨none, fun _ => S ta0 tk0 t⟩, ⟨none, fun _ => S sa1 sk1 s.Deps⟩, ⟨none, fun _ => S sa2 sk2 s.Transfers⟩, ⟨none, fun _ => S sa3 sk3 s.Boundary⟩, ⟨none, fun _ => S ca0 ck0 c⟩, ⟨none, fun _ => S k2a0 k2k0 k2⟩, ⟨some 6, fun G => SP.fact (True)⟩, ⟨some 13, fun G => os (G.g 13 0) ((List.replicate (c.length : Int).toNat false) : List Bool)⟩, ⟨some 15, fun G => sl (G.g 13 0) ((List.replicate (c.length : Int).toNat false) : List Bool)⟩, ⟨some 15, fun G => SP.fact ((rv463.length ≤ c.length))⟩, ⟨some 15, fun G => sl (G.g 15 0) rv463⟩, ⟨some 20, fun G => os (G.g 20 0) ((List.replicate (c.length : Int).toNat false) : List Bool)⟩, ⟨some 22, fun G => sl (G.g 20 0) ((List.replicate (c.length : Int).toNat false) : List Bool)⟩, ⟨some 22, fun G => SP.fact ((rv471.length ≤ c.length))⟩, ⟨some 22, fun G => sl (G.g 22 0) rv471⟩, ⟨some 23, fun G => SP.fact (True)⟩] _
    refine Db h481 [] Vm (Dx [] [] [0] (fun G => vb w14_sane) [fun G => SP.fact (True)] (fun G => xC [] ca17 (fn17  w14_sane rfl)) (Dv [] Vpt (Dv [] Va ?_)))
    refine Dn ⟨by kernel_rfl, fun G => ?_⟩
    refine Jw2 [(10, vb w14_sane)] [0, 1, 2, 3, 4, 5, 6, 7, 8, 9, 10, 11, 12, 13, 14, 15] [SP.fact (True), sl (G.g 13 0) ((List.replicate (c.length : Int).toNat false) : List Bool), SP.fact ((rv463.length ≤ c.length)), sl (G.g 15 0) rv463, sl (G.g 20 0) ((List.replicate (c.length : Int).toNat false) : List Bool), SP.fact ((rv471.length ≤ c.length)), sl (G.g 22 0) rv471, SP.fact (True), SP.fact (True)] ?_
    generalize G.g 13 0 = c457, G.g 15 0 = c462, G.g 20 0 = c465, G.g 22 0 = c470
    refine Jf 18 rfl ?_; rintro he483
    refine Jf 21 rfl ?_; rintro he484
    refine Jk [0, 0, 1, 2, 3, 3, 4, 5, 6, 6, 7, 8, 9, 10, 11, 12, 14, 16, 17, 19] ?_
    refine Jo 16 ?_; rintro a485 k486 rfl
    refine Fb 1 16 fun _ => ?_
    refine Jo 17 ?_; rintro a488 k489 rfl
    refine Fb 8 17 fun _ => Fo 17 fun ho491 => ?_
    refine Jo 18 ?_; rintro a492 k493 rfl
    refine Jo 19 ?_; rintro a494 k495 rfl
    refine Fb 8 19 fun _ => Fo 19 fun ho497 => ?_
    have hq := q4 hrr w14_sane (by unfold w14_ConeRestricts; simp only [h32, h403, h407, h411, h451, h455, h481, hg12, hR399, hg401, hg419, hg437, hg454, hg464, hg472, hg480, cs4]); subst hq
    exact Kr () rfl (.tmp rfl .nil) [] trivial
   intro h481
   change JD2 _ _ _ _ _ _ [⟨none, fun _ => Cl p450 [vi rv436.1.Width, vl a441 k442 rv436.1.Deps, vl a444 k445 rv436.1.Transfers, vl a447 k448 rv436.1.Boundary]⟩, ⟨none, fun _ => S a441 k442 rv436.1.Deps⟩, ⟨none, fun _ => S a444 k445 rv436.1.Transfers⟩, ⟨none, fun _ => S a447 k448 rv436.1.Boundary⟩, ⟨none, fun _ => Cl p432 [vi rv418.1.Width, vl a423 k424 rv418.1.Deps, vl a426 k427 rv418.1.Transfers, vl a429 k430 rv418.1.Boundary]⟩, ⟨none, fun _ => S a423 k424 rv418.1.Deps⟩, ⟨none, fun _ => S a426 k427 rv418.1.Transfers⟩, ⟨none, fun _ => S a429 k430 rv418.1.Boundary⟩, ⟨none, fun _ => Cl c10 [vl ta0 tk0 t, vi k1_15]⟩, ⟨none, fun _ => pv p9 [vi s.Width, vl sa1 sk1 s.Deps, vl sa2 sk2 s.Transfers, vl sa3 sk3 s.Boundary]⟩, ⟨none, fun _ => S ta0 tk0 t⟩, ⟨none, fun _ => S sa1 sk1 s.Deps⟩, ⟨none, fun _ => S sa2 sk2 s.Transfers⟩, ⟨none, fun _ => S sa3 sk3 s.Boundary⟩, ⟨none, fun _ => S ca0 ck0 c⟩, ⟨none, fun _ => S k2a0 k2k0 k2⟩, ⟨some 6, fun G => SP.fact (True)⟩, ⟨some 13, fun G => os (G.g 13 0) ((List.replicate (c.length : Int).toNat false) : List Bool)⟩, ⟨some 15, fun G => sl (G.g 13 0) ((List.replicate (c.length : Int).toNat false) : List Bool)⟩, ⟨some 15, fun G => SP.fact ((rv463.length ≤ c.length))⟩, ⟨some 15, fun G => sl (G.g 15 0) rv463⟩, ⟨some 20, fun G => os (G.g 20 0) ((List.replicate (c.length : Int).toNat false) : List Bool)⟩, ⟨some 22, fun G => sl (G.g 20 0) ((List.replicate (c.length : Int).toNat false) : List Bool)⟩, ⟨some 22, fun G => SP.fact ((rv471.length ≤ c.length))⟩, ⟨some 22, fun G => sl (G.g 22 0) rv471⟩, ⟨some 23, fun G => SP.fact (True)⟩] _
   refine Db h481 [] Vm (Ds (Dv [] Vpf (Dv [] Va ?_)))
   refine Dn ⟨by kernel_rfl, fun G => ?_⟩
   refine Jw2 [(10, vb false)] [0, 1, 2, 3, 4, 5, 6, 7, 8, 9, 10, 11, 12, 13, 14, 15] [SP.fact (True), sl (G.g 13 0) ((List.replicate (c.length : Int).toNat false) : List Bool), SP.fact ((rv463.length ≤ c.length)), sl (G.g 15 0) rv463, sl (G.g 20 0) ((List.replicate (c.length : Int).toNat false) : List Bool), SP.fact ((rv471.length ≤ c.length)), sl (G.g 22 0) rv471, SP.fact (True)] ?_
   generalize G.g 13 0 = c457, G.g 15 0 = c462, G.g 20 0 = c465, G.g 22 0 = c470
   refine Jf 18 rfl ?_; rintro he499
   refine Jf 21 rfl ?_; rintro he500
   refine Jk [0, 0, 1, 2, 3, 3, 4, 5, 6, 6, 7, 8, 9, 10, 11, 12, 14, 16, 17, 19] ?_
   refine Jo 16 ?_; rintro a501 k502 rfl
   refine Fb 1 16 fun _ => ?_
   refine Jo 17 ?_; rintro a504 k505 rfl
   refine Fb 8 17 fun _ => Fo 17 fun ho507 => ?_
   refine Jo 18 ?_; rintro a508 k509 rfl
   refine Jo 19 ?_; rintro a510 k511 rfl
   refine Fb 8 19 fun _ => Fo 19 fun ho513 => ?_
   have hq := q4 hrr false (by unfold w14_ConeRestricts; simp only [h32, h403, h407, h411, h451, h455, h481, hg12, hR399, hg401, hg419, hg437, hg454, hg464, hg472, hg480, cs4]); subst hq
   exact Kr () rfl (.tmp rfl .nil) [] trivial
  intro h455
  change JD2 _ _ _ _ _ _ [⟨none, fun _ => Cl p450 [vi rv436.1.Width, vl a441 k442 rv436.1.Deps, vl a444 k445 rv436.1.Transfers, vl a447 k448 rv436.1.Boundary]⟩, ⟨none, fun _ => S a441 k442 rv436.1.Deps⟩, ⟨none, fun _ => S a444 k445 rv436.1.Transfers⟩, ⟨none, fun _ => S a447 k448 rv436.1.Boundary⟩, ⟨none, fun _ => Cl p432 [vi rv418.1.Width, vl a423 k424 rv418.1.Deps, vl a426 k427 rv418.1.Transfers, vl a429 k430 rv418.1.Boundary]⟩, ⟨none, fun _ => S a423 k424 rv418.1.Deps⟩, ⟨none, fun _ => S a426 k427 rv418.1.Transfers⟩, ⟨none, fun _ => S a429 k430 rv418.1.Boundary⟩, ⟨none, fun _ => Cl c10 [vl ta0 tk0 t, vi k1_15]⟩, ⟨none, fun _ => pv p9 [vi s.Width, vl sa1 sk1 s.Deps, vl sa2 sk2 s.Transfers, vl sa3 sk3 s.Boundary]⟩, ⟨none, fun _ => S ta0 tk0 t⟩, ⟨none, fun _ => S sa1 sk1 s.Deps⟩, ⟨none, fun _ => S sa2 sk2 s.Transfers⟩, ⟨none, fun _ => S sa3 sk3 s.Boundary⟩, ⟨none, fun _ => S ca0 ck0 c⟩, ⟨none, fun _ => S k2a0 k2k0 k2⟩, ⟨some 6, fun G => SP.fact (True)⟩] _
  refine Db h455 [] Vm (Ds (Ds (Ds (Ds (Ds (Ds (Ds (Ds (Ds ?_)))))))))
  refine Ds (Ds (Ds (Ds (Ds (Ds (Dv [] Vpf (Dv [] Vm (Ds (Dv [] Vpf ?_)))))))))
  refine Dv [] Va ?_
  refine Dn ⟨by kernel_rfl, fun G => ?_⟩
  refine Jw2 [(10, vb false)] [0, 1, 2, 3, 4, 5, 6, 7, 8, 9, 10, 11, 12, 13, 14, 15] [SP.fact (True)] ?_
  refine Jk [0, 0, 1, 2, 3, 3, 4, 5, 6, 6, 7, 8, 9, 10, 11, 12] ?_
  have hq := q4 hrr false (by unfold w14_ConeRestricts; simp only [h32, h403, h407, h411, h451, h455, hg12, hR399, hg401, hg419, hg437, hg454, cs4]); subst hq
  exact Kr () rfl (.tmp rfl .nil) [] trivial
 intro h451
 have g515 := ne_of_beq_false h451
 change JD2 _ _ _ _ _ _ [⟨none, fun _ => Cl p450 [vi rv436.1.Width, vl a441 k442 rv436.1.Deps, vl a444 k445 rv436.1.Transfers, vl a447 k448 rv436.1.Boundary]⟩, ⟨none, fun _ => S a441 k442 rv436.1.Deps⟩, ⟨none, fun _ => S a444 k445 rv436.1.Transfers⟩, ⟨none, fun _ => S a447 k448 rv436.1.Boundary⟩, ⟨none, fun _ => Cl p432 [vi rv418.1.Width, vl a423 k424 rv418.1.Deps, vl a426 k427 rv418.1.Transfers, vl a429 k430 rv418.1.Boundary]⟩, ⟨none, fun _ => S a423 k424 rv418.1.Deps⟩, ⟨none, fun _ => S a426 k427 rv418.1.Transfers⟩, ⟨none, fun _ => S a429 k430 rv418.1.Boundary⟩, ⟨none, fun _ => Cl c10 [vl ta0 tk0 t, vi k1_15]⟩, ⟨none, fun _ => pv p9 [vi s.Width, vl sa1 sk1 s.Deps, vl sa2 sk2 s.Transfers, vl sa3 sk3 s.Boundary]⟩, ⟨none, fun _ => S ta0 tk0 t⟩, ⟨none, fun _ => S sa1 sk1 s.Deps⟩, ⟨none, fun _ => S sa2 sk2 s.Transfers⟩, ⟨none, fun _ => S sa3 sk3 s.Boundary⟩, ⟨none, fun _ => S ca0 ck0 c⟩, ⟨none, fun _ => S k2a0 k2k0 k2⟩] _
 refine Db h451 [] Vm (Ds (Ds (Ds (Dv [] Vpf (Dv [] Vm (Ds (Ds (Ds (Ds ?_)))))))))
 refine Ds (Ds (Ds (Ds (Ds (Ds (Ds (Ds (Ds (Ds ?_)))))))))
 refine Ds (Dv [] Vpf (Dv [] Vm (Ds (Dv [] Vpf (Dv [] Va ?_)))))
 refine Dn ⟨by kernel_rfl, fun G => ?_⟩
 refine Jw2 [(10, vb false)] [0, 1, 2, 3, 4, 5, 6, 7, 8, 9, 10, 11, 12, 13, 14, 15] [] ?_
 have hq := q4 hrr false (by unfold w14_ConeRestricts; simp only [h32, h403, h407, h411, h451, hg12, hR399, hg401, hg419, hg437, cs4]); subst hq
 exact Kr () rfl (.tmp rfl .nil) [] trivial
end Go.SL.G
