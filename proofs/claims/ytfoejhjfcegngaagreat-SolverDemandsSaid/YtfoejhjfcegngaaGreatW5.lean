/- Part 5 of the walks: mirrors, plain laws and walks used by the last text of this claim. -/
import Derived.Test.YtfoejhjfcegngaaGreatW4
import Derived.Test.YtfoejhjfcegngaaGreatProg
set_option linter.unusedVariables false
set_option linter.unusedSimpArgs false
namespace Go.SL.G
open Go Go.SL Go.Proofs
set_option maxHeartbeats 20000000
set_option maxRecDepth 100000
theorem fn99 (l : List Int) (la0 : Option Addr) (lk0 : Nat) (n : Int) (hn_0 : i64ok n) (rr : Bool) (hrr : flqref7_Has l n = rr) : FT Tryz.prog 99 #[vl la0 lk0 l, vi n] [S la0 lk0 l] (fun g : Unit => True) (fun g => vb rr) (fun g => []) := by
 refine FTi Tryz.func99 fun w0 M0 F0 => ?_
 unfold i64ok at hn_0
 refine Fb 8 0 fun hl1 => ?_
 refine Fo 0 fun ho2 => ?_
 refine KS ?_
 refine Oq Va (KS ?_)
 refine Oq Va (KS ?_)
 refine Kl (γ := Nat × Int) (fun (r3, i_4) => ⟨[(0, vl la0 lk0 l), (1, vi n), (5, vi i_4)], [S la0 lk0 l], flqref7_Has_L0 l n r3 i_4 = flqref7_Has_L0 l n (((l.length : Int) - 0).toNat) 0 ∧ r3 = ((l.length : Int) - i_4).toNat ∧ (0 : Int) ≤ i_4 ∧ i_4 ≤ (l.length : Int) ∧ (-9223372036854775808 ≤ i_4 ∧ i_4 ≤ 9223372036854775807), r3⟩) (((l.length : Int) - 0).toNat, 0) [0] ⟨rfl, rfl, (by omega), (by omega), (by omega)⟩ ?_
 rintro ⟨r3, i_4⟩ ⟨hM5, hr6, hi7, hi8, hk9⟩
 refine JJ_nx fun _ _ hL hA => ?_; dsimp only at hL hA; subst hL hA
 refine Fb 8 0 fun hl10 => ?_
 refine Fo 0 fun ho11 => ?_
 refine KS ?_
 refine Oq Vm (Oq Vm (Oq (Vlen sl22) (Oq Vlss (KS ?_))))
 refine Kc ?_ ?_
 · intro h12
   have g13 := of_decide_eq_true h12
   obtain ⟨r14, rfl⟩ := scc (n := r3) (by omega)
   refine KS ?_
   refine Oq Vm (Oq Vm (Oq (Vi sl22 0) ?_))
   have hb15 := ok1 (i := i_4.toNat) ho11 rng
   refine Oq (VldI sh3 0) (Oq Vm (Oq Veql (KS ?_)))
   refine Kc ?_ ?_
   · intro h16
     have g17 := eq_of_beq h16
     refine KS ?_
     refine Oq Va (KS ?_)
     have hR18 := q2 hM5 (.ret true) (by simp only [flqref7_Has_L0, h12, h16, cs4])
     have hq := q4 hrr true (by simp only [flqref7_Has, h12, h16, hR18, cs4]); subst hq
     exact Kr () rfl (.tmp rfl .nil) [] trivial
   intro h16
   have g19 := ne_of_beq_false h16
   refine KS ?_
   refine Oq Vm (Oq Vadd (Oq Va (KS ?_)))
   exact Kg (r14, (i_4 + 1)) [0] ⟨(q3 hM5 (by simp only [flqref7_Has_L0, h12, h16, cs4])), (by omega), (by omega), (by omega), (by omega)⟩
 intro h12
 have g20 := of_decide_eq_false h12
 obtain rfl : r3 = 0 := by omega
 refine Ke ?_
 have hR21 := q2 hM5 (.brk ()) (by simp only [flqref7_Has_L0, h12, cs4])
 refine KS ?_
 refine Oq Va (KS ?_)
 have hq := q4 hrr false (by simp only [flqref7_Has, h12, hR21, cs4]); subst hq
 exact Kr () rfl (.tmp rfl .nil) [] trivial
theorem fn39 (s : GSystem) (sa1 : Option Addr) (sk1 : Nat) (sa2 : Option Addr) (sk2 : Nat) (sa3 : Option Addr) (sk3 : Nat) (root : Int) (leaves : List Int) (leavesa0 : Option Addr) (leavesk0 : Nat) (hs_0 : i64ok s.Width) (hroot_0 : i64ok root) (rr : List Int × Int × Int) (hrr : flqref14_Cone s root leaves = rr) : FT Tryz.prog 39 #[.agg #[vi s.Width, vl sa1 sk1 s.Deps, vl sa2 sk2 s.Transfers, vl sa3 sk3 s.Boundary], vi root, vl leavesa0 leavesk0 leaves] [S sa1 sk1 s.Deps, S sa2 sk2 s.Transfers, S sa3 sk3 s.Boundary, S leavesa0 leavesk0 leaves] (fun g : Value => i64ok rr.2.1 ∧ i64ok rr.2.2) (fun g => .tuple #[g, vi rr.2.1, vi rr.2.2]) (fun g => [sl g rr.1]) := by
 refine FTi Tryz.func39 fun w0 M0 F0 => ?_
 unfold i64ok at hs_0 hroot_0
 refine Fb 24 0 fun hl1 => ?_
 refine Fb 88 1 fun hl2 => ?_
 refine Fb 32 2 fun hl3 => ?_
 refine Fb 8 3 fun hl4 => ?_
 refine Fo 3 fun ho5 => ?_
 refine KS ?_
 refine Oa (Ab [vi s.Width, vl sa1 sk1 s.Deps, vl sa2 sk2 s.Transfers, vl sa3 sk3 s.Boundary]) fun p6 => Oq Va (Oq Va (Oq Va (KS ?_)))
 refine Oq (VldA sh27 0) ?_
 refine letv (flqref10_Valid s) fun rv7 hg8 => ?_
 have hc9 := fn74 s sa1 sk1 sa2 sk2 sa3 sk3 pre rv7 hg8
 refine Oc [1, 2, 3] ca74 hc9 ?_
 rintro - -
 refine Oq Vnot (KS ?_)
 refine Kc ?_ ?_
 · intro h10
   have h12 := not_true h10
   refine KS ?_
   refine Oq Va (Oq Va (Oq Va (KS ?_)))
   refine Jl [] (Ent.slNil (α := Int)) ?_
   have hq := q4 hrr ([], 0, 1) (by simp only [flqref14_Cone, h10, h12, hg8, cs4]); subst hq
   exact Kr (.slice none 0 0) rfl (.tmp rfl (.tmp rfl (.tmp rfl .nil))) [0] en
 intro h10
 have h15 := not_false h10
 refine KS ?_
 refine Oq (VldA sh27 0) (Oq Vm (Oa (AsV sl22 sz22 [vi root] [vi root]) fun c17 => ?_))
 refine Jo 0 ?_; rintro a18 k19 rfl
 refine Jl [0] (Ent.crInt _ [root] _ _ rfl rfl (by intro x hx; rw [List.mem_singleton] at hx; subst hx; unfold i64ok; omega) (Nat.le_of_ble_eq_true rfl)) ?_
 refine letv (flqref14_inside s [root]) fun rv20 hg21 => ?_
 refine Oc [0, 1, 2, 3] ca98 (FT_borrow (A := _) (fun _ _ h => by cases h) (FT_ent (Ent.take (is := [1, 2, 3, 0]) rfl) (fn98 s sa1 sk1 sa2 sk2 sa3 sk3 ([root]) a18 k19 pre rv20 hg21))) ?_ (ht := rfl)
 rintro - -
 refine Oq Vnot (Oq Vm ?_)
 refine Js 22 ?_ ?_
 · intro h22
   have h24 := not_true h22
   refine Osk (Osk (Osk (Osk (Oq Vpt (KS ?_)))))
   refine Kt ?_
   refine KS ?_
   refine Oq Va (Oq Va (Oq Va (KS ?_)))
   refine Jl [] (Ent.slNil (α := Int)) ?_
   have hq := q4 hrr ([], 0, 9) (by simp only [flqref14_Cone, h10, h15, h22, h24, hg8, hg21, cs4]); subst hq
   exact Kr (.slice none 0 0) rfl (.tmp rfl (.tmp rfl (.tmp rfl .nil))) [0] en
 intro h22
 have h27 := not_false h22
 refine Oq (VldA sh27 1) (Oq Vm ?_)
 refine letv (flqref14_inside s leaves) fun rv29 hg30 => ?_
 have hc31 := fn98 s sa1 sk1 sa2 sk2 sa3 sk3 leaves leavesa0 leavesk0 pre rv29 hg30
 refine Oc [2, 3, 4, 5] ca98 hc31 ?_
 rintro - -
 refine Oq Vnot (Oq Vpf (KS ?_))
 refine Kc ?_ ?_
 · intro h32
   have h34 := not_true h32
   refine KS ?_
   refine Oq Va (Oq Va (Oq Va (KS ?_)))
   refine Jl [] (Ent.slNil (α := Int)) ?_
   have hq := q4 hrr ([], 0, 9) (by simp only [flqref14_Cone, h10, h15, h22, h27, h32, h34, hg8, hg21, hg30, cs4]); subst hq
   exact Kr (.slice none 0 0) rfl (.tmp rfl (.tmp rfl (.tmp rfl .nil))) [0] en
 intro h32
 have h37 := not_false h32
 refine KS ?_
 refine Oq Vm (Oa (AsV sl22 sz22 [vi root] [vi root]) fun c39 => ?_)
 refine Jo 0 ?_; rintro a40 k41 rfl
 refine Oq Va (KS ?_)
 refine Oq Va (KS ?_)
 refine Oq Va (KS ?_)
 refine Jl [0] (Ent.crInt _ [root] _ _ rfl rfl (by intro x hx; rw [List.mem_singleton] at hx; subst hx; unfold i64ok; omega) (Nat.le_of_ble_eq_true rfl)) ?_
 refine Fb 8 0 fun hl42 => ?_
 refine Fo 0 fun ho43 => ?_
 have hterm56 : flqref14_Cone_L0 s leaves (s.Deps.length + 1) [root] 0 0 ≠ LR.oof := (cone_term (by simp only [h10, h15, h22, h27, h32, h37, hg8, hg21, hg30]) (by simp only [h10, h15, h22, h27, h32, h37, hg8, hg21, hg30]))
 refine Kl (γ := Nat × List Int × Int × Int × Option Addr × Nat) (fun (r44, out_45, cost_46, i_47, a48, k49) => ⟨[(2, vl leavesa0 leavesk0 leaves), (3, p6), (9, vl a48 k49 out_45), (10, vi cost_46), (11, vi i_47)], [O a48 k49 out_45, pv p6 [vi s.Width, vl sa1 sk1 s.Deps, vl sa2 sk2 s.Transfers, vl sa3 sk3 s.Boundary], S sa1 sk1 s.Deps, S sa2 sk2 s.Transfers, S sa3 sk3 s.Boundary, S leavesa0 leavesk0 leaves], flqref14_Cone_L0 s leaves r44 out_45 cost_46 i_47 = flqref14_Cone_L0 s leaves (s.Deps.length + 1) [root] 0 0 ∧ (-9223372036854775808 ≤ cost_46 ∧ cost_46 ≤ 9223372036854775807) ∧ (-9223372036854775808 ≤ i_47 ∧ i_47 ≤ 9223372036854775807) ∧ okOut (s.Boundary.length : Int) out_45 ∧ 0 ≤ cost_46 ∧ cost_46 ≤ i_47 * 17592186044417 ∧ i_47 ≤ (out_45.length : Int), r44⟩) ((s.Deps.length + 1), [root], 0, 0, a40, k41) [0, 1, 2, 3, 4, 5] ⟨rfl, (by omega), (by omega), (okOut_one (by simp only [h10, h15, h22, h27, h32, h37, hg8, hg21, hg30])), iv0, iv0⟩ ?_
 rintro ⟨r44, out_45, cost_46, i_47, a48, k49⟩ ⟨hM50, hk51, hk52, hv53, hv54, hv55⟩
 refine JJ_nx fun _ _ hL hA => ?_; dsimp only at hL hA; subst hL hA
 refine Fb 8 0 fun hl57 => ?_
 refine Fo 0 fun ho58 => ?_
 refine Fb 24 2 fun hl59 => ?_
 refine Fb 88 3 fun hl60 => ?_
 refine Fb 32 4 fun hl61 => ?_
 refine Fb 8 5 fun hl62 => ?_
 refine Fo 5 fun ho63 => ?_
 rcases r44 with _ | r44
 · exact absurd (hM50.symm.trans rfl) hterm56
 refine KS ?_
 refine Oq Vm (Oq Vm (Oq (Vlen sl22) (Oq Vlss (KS ?_))))
 refine Kc ?_ ?_
 · intro h64
   have g65 := of_decide_eq_true h64
   have hv0 := Valid_deps (s := s) (by simp only [h10, h15, h22, h27, h32, h37, h64, hg8, hg21, hg30])
   have hq1 := okOut_len ‹okOut (s.Boundary.length : Int) out_45› (by omega)
   have hq2 := (‹okOut (s.Boundary.length : Int) out_45›).2 _ (getD_mem (xs := out_45) (i := i_47.toNat) (d := 0) (by omega))
   refine KS ?_
   refine Oq Vm (Oq Vadd (Oq Va (KS ?_)))
   refine Oq Vm (Oq Vm (Oq Vm (Oq (Vi sl22 0) ?_)))
   have hb66 := ok1 (i := i_47.toNat) ho58 rng
   refine Oq (VldI sh3 0) ?_
   refine letv (flqref7_Has leaves (out_45.getD i_47.toNat 0)) fun rv67 hg68 => ?_
   have hc69 := fn99 leaves leavesa0 leavesk0 ((out_45.getD i_47.toNat 0)) pre rv67 hg68
   refine Oc [5] ca99 hc69 ?_
   rintro - -
   refine KS ?_
   refine Kc ?_ ?_
   · intro h70
     refine Ke ?_
     refine KS ?_
     refine Oq Vm (Oq Vadd (Oq Va (KS ?_)))
     exact Kg (r44, out_45, (cost_46 + 1), (i_47 + 1), a48, k49) [0, 0, 1, 2, 3, 4] ⟨(q3 hM50 (by simp only [flqref14_Cone_L0, h10, h15, h22, h27, h32, h37, h64, h70, hg8, hg21, hg30, hg68, cs4])), (by omega), (by omega), (by assumption), iv1, iv1⟩
   intro h70
   refine KS ?_
   refine JJ_peekL ((out_45.getD i_47.toNat 0) : Int).toNat 2 rfl rng fun a73 k74 => ?_
   refine Fb 8 1 fun hl75 => ?_
   refine Fo 1 fun ho76 => ?_
   refine Kq [0, 1, 0, 0, 12, 28, 63, 127, 255] fmix ?_
   refine Qv [3] (Vfa fo27_1 0) (Qv [3] (VldF sh23 0) (Qv [] Vm (Qv [] Vm (Qv [2] (Vi sl22 0) ?_))))
   have hb77 := ok1 (i := i_47.toNat) ho58 rng
   refine Qv [2] (VldI sh3 0) (Qv [4] (Vi sl23 0) (Qv [0] (Vld sh22 0) (Qv [] Va ?_)))
   refine Qn ⟨by kernel_rfl, ?_⟩
   refine KS ?_
   refine Oq Vm (Oq Vm (Oq (Vlen sl22) (Oq Vadd (Oq Va (KS ?_)))))
   refine Oq Va (KS ?_)
   refine Kl (γ := Nat × List Int × Int × Option Addr × Nat) (fun (r78, out_79, k_80, a81, k82) => ⟨[(2, vl leavesa0 leavesk0 leaves), (3, p6), (9, vl a81 k82 out_79), (11, vi i_47), (12, vl a73 k74 (s.Deps.getD ((out_45.getD i_47.toNat 0) : Int).toNat [])), (10, vi ((cost_46 + 1) + ((s.Deps.getD ((out_45.getD i_47.toNat 0) : Int).toNat []).length : Int))), (13, vi k_80)], [O a81 k82 out_79, S a73 k74 ((s.Deps.getD ((out_45.getD i_47.toNat 0) : Int).toNat []) : List Int), pv p6 [vi s.Width, vl sa1 sk1 s.Deps, vl sa2 sk2 s.Transfers, vl sa3 sk3 s.Boundary], S sa1 sk1 s.Deps, S sa2 sk2 s.Transfers, S sa3 sk3 s.Boundary, S leavesa0 leavesk0 leaves], flqref14_Cone_L1 (s.Deps.getD ((out_45.getD i_47.toNat 0) : Int).toNat []) r78 out_79 k_80 = flqref14_Cone_L1 (s.Deps.getD ((out_45.getD i_47.toNat 0) : Int).toNat []) (((((s.Deps.getD ((out_45.getD i_47.toNat 0) : Int).toNat []).length : Int) : Int) - 0).toNat) out_45 0 ∧ r78 = ((((s.Deps.getD ((out_45.getD i_47.toNat 0) : Int).toNat []).length : Int) : Int) - k_80).toNat ∧ (0 : Int) ≤ k_80 ∧ (k_80 ≤ ((s.Deps.getD ((out_45.getD i_47.toNat 0) : Int).toNat []).length : Int) ∨ k_80 = 0) ∧ (-9223372036854775808 ≤ k_80 ∧ k_80 ≤ 9223372036854775807) ∧ okOut (s.Boundary.length : Int) out_79 ∧ i_47 + 1 ≤ (out_79.length : Int), r78⟩) (((((s.Deps.getD ((out_45.getD i_47.toNat 0) : Int).toNat []).length : Int) : Int) - 0).toNat, out_45, 0, a48, k49) [2, 1, 2, 3, 4, 5, 6] ⟨rfl, rfl, (by omega), (.inr rfl), (by omega), (by assumption), iv0⟩ ?_
   rintro ⟨r78, out_79, k_80, a81, k82⟩ ⟨hM83, hr84, hi85, hi86, hk87, hv88, hv89⟩
   refine JJ_nx fun _ _ hL hA => ?_; dsimp only at hL hA; subst hL hA
   refine Fb 8 0 fun hl90 => ?_
   refine Fo 0 fun ho91 => ?_
   refine Fb 8 1 fun hl92 => ?_
   refine Fo 1 fun ho93 => ?_
   refine Fb 24 3 fun hl94 => ?_
   refine Fb 88 4 fun hl95 => ?_
   refine Fb 32 5 fun hl96 => ?_
   refine Fb 8 6 fun hl97 => ?_
   refine Fo 6 fun ho98 => ?_
   refine KS ?_
   refine Oq Vm (Oq Vm (Oq (Vlen sl22) (Oq Vlss (KS ?_))))
   refine Kc ?_ ?_
   · intro h99
     have g100 := of_decide_eq_true h99
     have hq4 := okOut_len ‹okOut (s.Boundary.length : Int) _› (by omega)
     have hq3 := Valid_dep_mem (s := s) (by simp only [h10, h15, h22, h27, h32, h37, h64, h70, h99, hg8, hg21, hg30, hg68]) (j := ((out_45.getD i_47.toNat 0) : Int)) (by omega) (by omega) _ (getD_mem (xs := s.Deps.getD ((out_45.getD i_47.toNat 0) : Int).toNat []) (i := k_80.toNat) (d := 0) (by omega))
     obtain ⟨r101, rfl⟩ := scc (n := r78) (by omega)
     refine KS ?_
     refine Oq Vm (Oq Vm (Oq Vm (Oq (Vi sl22 1) ?_)))
     have hb102 := ok1 (i := k_80.toNat) ho93 rng
     refine Oq (VldI sh3 1) ?_
     refine letv (flqref7_Has out_79 ((s.Deps.getD ((out_45.getD i_47.toNat 0) : Int).toNat []).getD k_80.toNat 0)) fun rv103 hg104 => ?_
     refine Oc [0] ca99 (FT_borrow (A := _) (fun _ _ h => by cases h) (FT_ent (Ent.take (is := [0]) rfl) (fn99 out_79 a81 k82 (((s.Deps.getD ((out_45.getD i_47.toNat 0) : Int).toNat []).getD k_80.toNat 0)) pre rv103 hg104))) ?_ (ht := rfl)
     rintro - -
     refine Oq Vnot (KS ?_)
     refine Kc ?_ ?_
     · intro h105
       have h107 := not_true h105
       refine KS ?_
       refine Oq Vm (Oq Vm (Oq Vm (Oq (Vi sl22 1) ?_)))
       have hb109 := ok1 (i := k_80.toNat) ho93 rng
       refine Oq (VldI sh3 1) (Oa (AsV sl22 sz22 [vi ((s.Deps.getD ((out_45.getD i_47.toNat 0) : Int).toNat []).getD k_80.toNat 0)] [vi ((s.Deps.getD ((out_45.getD i_47.toNat 0) : Int).toNat []).getD k_80.toNat 0)]) fun c110 => ?_)
       refine Jo 0 ?_; rintro a111 k112 rfl
       refine Jl [0] (Ent.crInt _ [((s.Deps.getD ((out_45.getD i_47.toNat 0) : Int).toNat []).getD k_80.toNat 0)] _ _ rfl rfl (by intro x hx; rw [List.mem_singleton] at hx; subst hx; unfold i64ok; omega) (Nat.le_of_ble_eq_true rfl)) ?_
       refine Oa (ApO [1, 0] sl22 sl22 sz22) fun c113 => ?_
       refine Jo 0 ?_; rintro a114 k115 rfl
       refine Fb 8 0 fun hl116 => ?_
       refine Fo 0 fun ho117 => ?_
       have hn118 := la out_79 ([((s.Deps.getD ((out_45.getD i_47.toNat 0) : Int).toNat []).getD k_80.toNat 0)] : List Int)
       refine Oq Va (KS ?_)
       refine Oq Vm (Oq Vadd (Oq Va (KS ?_)))
       exact Kg (r101, (out_79 ++ [((s.Deps.getD ((out_45.getD i_47.toNat 0) : Int).toNat []).getD k_80.toNat 0)]), (k_80 + 1), a114, k115) [0, 0, 1, 2, 3, 4, 5] ⟨(q3 hM83 (by simp only [flqref14_Cone_L1, h10, h15, h22, h27, h32, h37, h64, h70, h99, h105, h107, hg8, hg21, hg30, hg68, hg104, cs4])), (by omega), (by omega), (by omega), (by omega), (by first | assumption | exact okOut_push (by assumption) (by simp only [h10, h15, h22, h27, h32, h37, h64, h70, h99, h105, h107, hg8, hg21, hg30, hg68, hg104]) (by omega) (by omega)), iv1⟩
     intro h105
     have h120 := not_false h105
     refine KS ?_
     refine Oq Vm (Oq Vadd (Oq Va (KS ?_)))
     exact Kg (r101, out_79, (k_80 + 1), a81, k82) [0, 0, 1, 2, 3, 4, 5] ⟨(q3 hM83 (by simp only [flqref14_Cone_L1, h10, h15, h22, h27, h32, h37, h64, h70, h99, h105, h120, hg8, hg21, hg30, hg68, hg104, cs4])), (by omega), (by omega), (by omega), (by omega), (by first | assumption | exact okOut_push (by assumption) (by simp only [h10, h15, h22, h27, h32, h37, h64, h70, h99, h105, h120, hg8, hg21, hg30, hg68, hg104]) (by omega) (by omega)), iv1⟩
   intro h99
   have g122 := of_decide_eq_false h99
   obtain rfl : r78 = 0 := by omega
   refine Ke ?_
   have hR123 := q2 hM83 out_79 (by simp only [flqref14_Cone_L1, h10, h15, h22, h27, h32, h37, h64, h70, h99, hg8, hg21, hg30, hg68, cs4])
   refine KS ?_
   refine Oq Vm (Oq Vadd (Oq Va (KS ?_)))
   exact Kg (r44, out_79, ((cost_46 + 1) + ((s.Deps.getD ((out_45.getD i_47.toNat 0) : Int).toNat []).length : Int)), (i_47 + 1), a81, k82) [0, 1, 2, 3, 4, 5] ⟨(q3 hM50 (by simp only [flqref14_Cone_L0, h10, h15, h22, h27, h32, h37, h64, h70, h99, hg8, hg21, hg30, hg68, hR123, cs4])), (by omega), (by omega), (by assumption), iv1, iv1⟩
 intro h64
 have g124 := of_decide_eq_false h64
 refine Ke ?_
 have hR125 := q2 hM50 (.brk (out_45, cost_46)) (by simp only [flqref14_Cone_L0, h10, h15, h22, h27, h32, h37, h64, hg8, hg21, hg30, cs4])
 refine KS ?_
 refine Oq Vm (Oq Vm (Oq Va (Oq Va (Oq Va (KS ?_)))))
 refine Jl [0] (Ent.freeze _ _) ?_
 have hq := q4 hrr (out_45, cost_46, 0) (by simp only [flqref14_Cone, h10, h15, h22, h27, h32, h37, h64, hg8, hg21, hg30, hR125, cs4]); subst hq
 exact Kr (vl a48 k49 out_45) rfl (.tmp rfl (.tmp rfl (.tmp rfl .nil))) [0] en
theorem fn40 (a : List Int) (aa0 : Option Addr) (ak0 : Nat) (b : List Int) (ba0 : Option Addr) (bk0 : Nat) (rr : Bool) (hrr : flqref7_Ints a b = rr) : FT Tryz.prog 40 #[vl aa0 ak0 a, vl ba0 bk0 b] [S aa0 ak0 a, S ba0 bk0 b] (fun g : Unit => True) (fun g => vb rr) (fun g => []) := by
 refine FTi Tryz.func40 fun w0 M0 F0 => ?_
 refine Fb 8 0 fun hl1 => ?_
 refine Fo 0 fun ho2 => ?_
 refine Fb 8 1 fun hl3 => ?_
 refine Fo 1 fun ho4 => ?_
 refine KS ?_
 refine Oq Va (KS ?_)
 refine Oq Vm (Oq (Vlen sl22) (Oq Vm (Oq (Vlen sl22) (Oq Vneq (KS ?_)))))
 refine Kc ?_ ?_
 · intro h5
   have g6 := ne_of_bne h5
   refine KS ?_
   refine Oq Va (KS ?_)
   have hq := q4 hrr false (by simp only [flqref7_Ints, h5, cs4]); subst hq
   exact Kr () rfl (.tmp rfl .nil) [] trivial
 intro h5
 have g7 := eq_of_bne_false h5
 refine KS ?_
 refine Oq Va (KS ?_)
 refine Kl (γ := Nat × Int) (fun (r8, i_9) => ⟨[(0, vl aa0 ak0 a), (1, vl ba0 bk0 b), (5, vi i_9)], [S aa0 ak0 a, S ba0 bk0 b], flqref7_Ints_L0 a b r8 i_9 = flqref7_Ints_L0 a b (((a.length : Int) - 0).toNat) 0 ∧ r8 = ((a.length : Int) - i_9).toNat ∧ (0 : Int) ≤ i_9 ∧ i_9 ≤ (a.length : Int) ∧ (-9223372036854775808 ≤ i_9 ∧ i_9 ≤ 9223372036854775807), r8⟩) (((a.length : Int) - 0).toNat, 0) [0, 1] ⟨rfl, rfl, (by omega), (by omega), (by omega)⟩ ?_
 rintro ⟨r8, i_9⟩ ⟨hM10, hr11, hi12, hi13, hk14⟩
 refine JJ_nx fun _ _ hL hA => ?_; dsimp only at hL hA; subst hL hA
 refine Fb 8 0 fun hl15 => ?_
 refine Fo 0 fun ho16 => ?_
 refine Fb 8 1 fun hl17 => ?_
 refine Fo 1 fun ho18 => ?_
 refine KS ?_
 refine Oq Vm (Oq Vm (Oq (Vlen sl22) (Oq Vlss (KS ?_))))
 refine Kc ?_ ?_
 · intro h19
   have g20 := of_decide_eq_true h19
   obtain ⟨r21, rfl⟩ := scc (n := r8) (by omega)
   refine KS ?_
   refine Kq [0, 0, 3, 7, 0, 0, 48, 112, 255] fmix ?_
   refine Qv [] Vm (Qv [] Vm (Qv [0] (Vi sl22 0) ?_))
   have hb22 := ok1 (i := i_9.toNat) ho16 rng
   refine Qv [0] (VldI sh3 0) (Qv [] Vm (Qv [] Vm (Qv [1] (Vi sl22 0) ?_)))
   have hb23 := ok1 (i := i_9.toNat) ho18 rng
   refine Qv [1] (VldI sh3 0) (Qv [] Vneq ?_)
   refine Qn ⟨by kernel_rfl, ?_⟩
   refine Kc ?_ ?_
   · intro h24
     have g25 := ne_of_bne h24
     refine KS ?_
     refine Oq Va (KS ?_)
     have hR26 := q2 hM10 (.ret false) (by simp only [flqref7_Ints_L0, h5, h19, h24, cs4])
     have hq := q4 hrr false (by simp only [flqref7_Ints, h5, h19, h24, hR26, cs4]); subst hq
     exact Kr () rfl (.tmp rfl .nil) [] trivial
   intro h24
   have g27 := eq_of_bne_false h24
   refine KS ?_
   refine Oq Vm (Oq Vadd (Oq Va (KS ?_)))
   exact Kg (r21, (i_9 + 1)) [0, 1] ⟨(q3 hM10 (by simp only [flqref7_Ints_L0, h5, h19, h24, cs4])), (by omega), (by omega), (by omega), (by omega)⟩
 intro h19
 have g28 := of_decide_eq_false h19
 obtain rfl : r8 = 0 := by omega
 refine Ke ?_
 have hR29 := q2 hM10 (.brk ()) (by simp only [flqref7_Ints_L0, h5, h19, cs4])
 refine KS ?_
 refine Oq Va (KS ?_)
 have hq := q4 hrr true (by simp only [flqref7_Ints, h5, h19, hR29, cs4]); subst hq
 exact Kr () rfl (.tmp rfl .nil) [] trivial
theorem fn7 (t : List Int) (ta0 : Option Addr) (tk0 : Nat) (rr : Bool) (hrr : flqlaw15_SolverDemands t = rr) : FT Tryz.prog 7 #[vl ta0 tk0 t] [S ta0 tk0 t] (fun g : Unit => True) (fun g => vb rr) (fun g => []) := by
 refine FTi Tryz.func7 fun w0 M0 F0 => ?_
 refine Fb 8 0 fun hl1 => ?_
 refine Fo 0 fun ho2 => ?_
 refine KS ?_
 refine Oq Va (KS ?_)
 refine Oq Vm ?_
 refine letv (flqgen_New t) fun rv4 hg5 => ?_
 have hc6 := fn17 t ta0 tk0 rv4 hg5
 refine Oc [0] ca17 hc6 ?_
 rintro c3 -
 refine letv (flqlaw15_draw t 0) fun rv11 hg12 => ?_
 have hc13 := fn32 c3 ta0 tk0 t 0 pre rv11 hg12
 refine Oc [0, 0] ca32 hc13 ?_
 rintro ⟨c7, c8, c9, c10⟩ ⟨he14, he15, he16⟩
 unfold i64ok at he14 he15
 refine Jo 0 ?_; rintro a17 k18 rfl
 refine Fb 24 0 fun hl19 => ?_
 refine Jo 1 ?_; rintro a20 k21 rfl
 refine Fb 88 1 fun hl22 => ?_
 refine Jo 2 ?_; rintro a23 k24 rfl
 refine Fb 32 2 fun hl25 => ?_
 refine Jo 3 ?_; rintro a26 k27 rfl
 refine Fb 40 3 fun hl28 => ?_
 have hdf := draw_facts (by assumption : flqlaw15_draw t 0 = rv11)
 obtain ⟨hd1, hd2, hd3, hd4⟩ := hdf
 have hv1 := hd1.n
 have hv2 := hd1.tl
 have hv3 := hd1.bl
 have hv4 := hd1.w
 have hv5 := hd1.dep_len
 refine Oa (Al ze55 [vi 0, .slice none 0 0, .slice none 0 0, .slice none 0 0, .slice none 0 0, vi 0]) fun p29 => Ost (Scl [0] sh55 [vi rv11.1.S.Width, vl a17 k18 rv11.1.S.Deps, vl a20 k21 rv11.1.S.Transfers, vl a23 k24 rv11.1.S.Boundary, vl a26 k27 rv11.1.K, vi rv11.1.Root]) (KS ?_)
 refine Oq Va (KS ?_)
 refine Oq Va (KS ?_)
 refine Jl [] (Ent.osNil (α := Int)) ?_
 refine Kl (γ := Nat × List Int × Int × Option Addr × Nat) (fun (r30, leaves_31, i_32, a33, k34) => ⟨[(3, p29), (4, vl a33 k34 leaves_31), (5, vi i_32)], [O a33 k34 leaves_31, Cl p29 [vi rv11.1.S.Width, vl a17 k18 rv11.1.S.Deps, vl a20 k21 rv11.1.S.Transfers, vl a23 k24 rv11.1.S.Boundary, vl a26 k27 rv11.1.K, vi rv11.1.Root], S a17 k18 rv11.1.S.Deps, S a20 k21 rv11.1.S.Transfers, S a23 k24 rv11.1.S.Boundary, S a26 k27 rv11.1.K], flqlaw15_SolverDemands_L0 rv11.1.K r30 leaves_31 i_32 = flqlaw15_SolverDemands_L0 rv11.1.K (((rv11.1.K.length : Int) - 0).toNat) [] 0 ∧ r30 = ((rv11.1.K.length : Int) - i_32).toNat ∧ (0 : Int) ≤ i_32 ∧ i_32 ≤ (rv11.1.K.length : Int) ∧ (-9223372036854775808 ≤ i_32 ∧ i_32 ≤ 9223372036854775807) ∧ (leaves_31.length : Int) ≤ i_32, r30⟩) (((rv11.1.K.length : Int) - 0).toNat, [], 0, none, 0) [0, 0, 0, 1, 2, 3] ⟨rfl, rfl, (by omega), (by omega), (by omega), iv0⟩ ?_
 rintro ⟨r30, leaves_31, i_32, a33, k34⟩ ⟨hM35, hr36, hi37, hi38, hk39, hv40⟩
 refine JJ_nx fun _ _ hL hA => ?_; dsimp only at hL hA; subst hL hA
 refine Fb 8 0 fun hl41 => ?_
 refine Fo 0 fun ho42 => ?_
 refine Fb 24 2 fun hl43 => ?_
 refine Fb 88 3 fun hl44 => ?_
 refine Fb 32 4 fun hl45 => ?_
 refine Fb 40 5 fun hl46 => ?_
 refine KS ?_
 refine Oq Vm (Oq (Vfa fo55_1 1) (Oq (VldF sh53 1) (Oq (Vlen sl53) (Oq Vlss (KS ?_)))))
 refine Kc ?_ ?_
 · intro h47
   have g48 := of_decide_eq_true h47
   obtain ⟨r49, rfl⟩ := scc (n := r30) (by omega)
   refine KS ?_
   refine Oq Vm (Oq (Vfa fo55_1 1) (Oq (VldF sh53 1) (Oq Vm (Oq (Vi sl53 5) ?_))))
   refine JJ_peek_GKnown i_32.toNat 5 rfl rng fun a50 k51 hb52 hb53 => ?_
   unfold i64ok at hb52 hb53
   refine Fb 8 1 fun hl54 => ?_
   refine Oq (Vfa fo67_0 0) (Oq (VldF sh3 0) (Oa (AsV sl22 sz22 [vi ((rv11.1.K.getD i_32.toNat default).Node)] [vi ((rv11.1.K.getD i_32.toNat default).Node)]) fun c55 => ?_))
   refine Jo 0 ?_; rintro a56 k57 rfl
   refine Jl [0] (Ent.crInt _ [(rv11.1.K.getD i_32.toNat default).Node] _ _ rfl rfl (by intro x hx; rw [List.mem_singleton] at hx; subst hx; unfold i64ok; omega) (Nat.le_of_ble_eq_true rfl)) ?_
   refine Oa (ApO [3, 0] sl22 sl22 sz22) fun c58 => ?_
   refine Jo 0 ?_; rintro a59 k60 rfl
   refine Fb 8 0 fun hl61 => ?_
   refine Fo 0 fun ho62 => ?_
   have hn63 := la leaves_31 ([(rv11.1.K.getD i_32.toNat default).Node] : List Int)
   refine Oq Va (KS ?_)
   refine Oq Vm (Oq Vadd (Oq Va (KS ?_)))
   exact Kg (r49, (leaves_31 ++ [(rv11.1.K.getD i_32.toNat default).Node]), (i_32 + 1), a59, k60) [0, 2, 2, 3, 4, 5] ⟨(q3 hM35 (by simp only [flqlaw15_SolverDemands_L0, h47, hg5, hg12, cs4])), (by omega), (by omega), (by omega), (by omega), iv1⟩
 intro h47
 have g64 := of_decide_eq_false h47
 obtain rfl : r30 = 0 := by omega
 refine Ke ?_
 have hR65 := q2 hM35 leaves_31 (by simp only [flqlaw15_SolverDemands_L0, h47, hg5, hg12, cs4])
 refine KS ?_
 refine Oq (Vfa fo55_0 1) (Oq (VldG sh27 1 [vi rv11.1.S.Width, vl a17 k18 rv11.1.S.Deps, vl a20 k21 rv11.1.S.Transfers, vl a23 k24 rv11.1.S.Boundary]) (Oq (Vfa fo55_2 1) (Oq (VldF sh3 1) (Oq Vm ?_))))
 refine Jl [0] (Ent.freeze _ _) ?_
 refine letv (flqref14_Cone rv11.1.S rv11.1.Root leaves_31) fun rv67 hg68 => ?_
 have hc69 := fn39 rv11.1.S a17 k18 a20 k21 a23 k24 rv11.1.Root leaves_31 a33 k34 pre pre rv67 hg68
 refine Oc [2, 3, 4, 0] ca39 hc69 ?_
 rintro c66 ⟨he70, he71⟩
 unfold i64ok at he70 he71
 refine Jo 0 ?_; rintro a72 k73 rfl
 refine Fb 8 0 fun hl74 => ?_
 refine Fo 0 fun ho75 => ?_
 have hcc := Cone_cost (by assumption : flqref14_Cone rv11.1.S rv11.1.Root leaves_31 = rv67)
 refine Oq Vm (Oq Vx (Oq Vx (Oq Vx (Oq Va (Oq Va (Oq Va (KS ?_)))))))
 refine Jp 2 fun hp76 => ?_
 refine JK_drawK [0, 1, 0, 4, 0, 16, 48, 0, 128, 511, 1023, 2047, 2047, 2047, 0, 20479, 57343, 131071] fmix ?_
 refine Dv [0] (Vfa fo55_0 0) (Dv [3] (VldG sh27 0 [vi rv11.1.S.Width, vl a17 k18 rv11.1.S.Deps, vl a20 k21 rv11.1.S.Transfers, vl a23 k24 rv11.1.S.Boundary]) (Dv [0] (Vfa fo55_1 0) (Dv [3] (VldF sh53 0) (Dv [0] (Vfa fo55_2 0) (Dv [3] (VldF sh3 0) ?_)))))
 refine letv (solver_Start rv11.1.Root) fun rv81 hg82 => ?_
 refine Dx [] [] [0, 1, 2, 3, 4] (fun G => .agg #[vi rv81.Phase, (G.g 6 0), (G.g 6 1), vi rv81.At, vi rv81.Edge, (G.g 6 2), (G.g 6 3), vi rv81.Steps]) [fun G => SP.fact (i64ok rv81.Phase ∧ i64ok rv81.At ∧ i64ok rv81.Edge ∧ i64ok rv81.Steps), fun G => sl (G.g 6 0) rv81.Cone, fun G => sl (G.g 6 1) rv81.Leaf, fun G => sl (G.g 6 2) rv81.Values, fun G => sl (G.g 6 3) rv81.Queue] (fun G => xC [] ca38 (fn38 rv11.1.Root pre rv81 hg82)) (Dv [] Vm (Dv [] Vsub ?_))
 refine letv (solver_Run rv11.1.S rv11.1.K rv81 (rv67.2.1 - 1)) fun rv99 hg100 => ?_
 refine Dx [4, 5, 6, 7, 8, 9, 10, 11, 12] [] [5, 6, 7, 8, 9, 10, 11, 12, 13, 0, 1, 2, 3, 4] (fun G => .tuple #[.agg #[vi rv99.1.Phase, (G.g 9 0), (G.g 9 1), vi rv99.1.At, vi rv99.1.Edge, (G.g 9 2), (G.g 9 3), vi rv99.1.Steps], vi rv99.2.1, vi rv99.2.2]) [fun G => SP.fact (i64ok rv99.1.Phase ∧ i64ok rv99.1.At ∧ i64ok rv99.1.Edge ∧ i64ok rv99.1.Steps ∧ i64ok rv99.2.1 ∧ i64ok rv99.2.2 ∧ (0 ≤ rv99.2.1 ∧ rv99.2.1 ≤ 8000000000) ∧ (rv99.1.Cone.length ≤ 256)), fun G => sl (G.g 9 0) rv99.1.Cone, fun G => sl (G.g 9 1) rv99.1.Leaf, fun G => sl (G.g 9 2) rv99.1.Values, fun G => sl (G.g 9 3) rv99.1.Queue] (fun G => by refine xf 4 rfl ?_; rintro ⟨he101, he102, he103, he104⟩; unfold i64ok at he101 he102 he103 he104; exact xD [8, 7, 6, 5, 0, 1, 2, 3] ca35 rfl rfl rfl (FT_open (γ := Value × Value × Value × Value) (I := fun g => i64ok rv99.1.Phase ∧ i64ok rv99.1.At ∧ i64ok rv99.1.Edge ∧ i64ok rv99.1.Steps ∧ i64ok rv99.2.1 ∧ i64ok rv99.2.2 ∧ (0 ≤ rv99.2.1 ∧ rv99.2.1 ≤ 8000000000) ∧ (rv99.1.Cone.length ≤ 256)) (V := fun g => .tuple #[.agg #[vi rv99.1.Phase, g.1, g.2.1, vi rv99.1.At, vi rv99.1.Edge, g.2.2.1, g.2.2.2, vi rv99.1.Steps], vi rv99.2.1, vi rv99.2.2]) (B := fun g => [sl g.1 rv99.1.Cone, sl g.2.1 rv99.1.Leaf, sl g.2.2.1 rv99.1.Values, sl g.2.2.2 rv99.1.Queue]) (R := sl (G.g 6 3) rv81.Queue) sl_slice (fun aq92 kq93 eq94 => by rw [eq94]; exact FT_ent (Ent.take (is := [1, 2, 3, 4, 5, 6, 7, 0]) rfl) (FT_open (γ := Value × Value × Value × Value) (I := fun g => i64ok rv99.1.Phase ∧ i64ok rv99.1.At ∧ i64ok rv99.1.Edge ∧ i64ok rv99.1.Steps ∧ i64ok rv99.2.1 ∧ i64ok rv99.2.2 ∧ (0 ≤ rv99.2.1 ∧ rv99.2.1 ≤ 8000000000) ∧ (rv99.1.Cone.length ≤ 256)) (V := fun g => .tuple #[.agg #[vi rv99.1.Phase, g.1, g.2.1, vi rv99.1.At, vi rv99.1.Edge, g.2.2.1, g.2.2.2, vi rv99.1.Steps], vi rv99.2.1, vi rv99.2.2]) (B := fun g => [sl g.1 rv99.1.Cone, sl g.2.1 rv99.1.Leaf, sl g.2.2.1 rv99.1.Values, sl g.2.2.2 rv99.1.Queue]) (R := sl (G.g 6 2) rv81.Values) sl_slice (fun aq89 kq90 eq91 => by rw [eq91]; exact FT_ent (Ent.take (is := [1, 2, 3, 4, 5, 6, 0, 7]) rfl) (FT_open (γ := Value × Value × Value × Value) (I := fun g => i64ok rv99.1.Phase ∧ i64ok rv99.1.At ∧ i64ok rv99.1.Edge ∧ i64ok rv99.1.Steps ∧ i64ok rv99.2.1 ∧ i64ok rv99.2.2 ∧ (0 ≤ rv99.2.1 ∧ rv99.2.1 ≤ 8000000000) ∧ (rv99.1.Cone.length ≤ 256)) (V := fun g => .tuple #[.agg #[vi rv99.1.Phase, g.1, g.2.1, vi rv99.1.At, vi rv99.1.Edge, g.2.2.1, g.2.2.2, vi rv99.1.Steps], vi rv99.2.1, vi rv99.2.2]) (B := fun g => [sl g.1 rv99.1.Cone, sl g.2.1 rv99.1.Leaf, sl g.2.2.1 rv99.1.Values, sl g.2.2.2 rv99.1.Queue]) (R := sl (G.g 6 1) rv81.Leaf) sl_slice (fun aq86 kq87 eq88 => by rw [eq88]; exact FT_ent (Ent.take (is := [1, 2, 3, 4, 5, 0, 6, 7]) rfl) (FT_open (γ := Value × Value × Value × Value) (I := fun g => i64ok rv99.1.Phase ∧ i64ok rv99.1.At ∧ i64ok rv99.1.Edge ∧ i64ok rv99.1.Steps ∧ i64ok rv99.2.1 ∧ i64ok rv99.2.2 ∧ (0 ≤ rv99.2.1 ∧ rv99.2.1 ≤ 8000000000) ∧ (rv99.1.Cone.length ≤ 256)) (V := fun g => .tuple #[.agg #[vi rv99.1.Phase, g.1, g.2.1, vi rv99.1.At, vi rv99.1.Edge, g.2.2.1, g.2.2.2, vi rv99.1.Steps], vi rv99.2.1, vi rv99.2.2]) (B := fun g => [sl g.1 rv99.1.Cone, sl g.2.1 rv99.1.Leaf, sl g.2.2.1 rv99.1.Values, sl g.2.2.2 rv99.1.Queue]) (R := sl (G.g 6 0) rv81.Cone) sl_slice (fun aq83 kq84 eq85 => by rw [eq85]; exact FT_ent (Ent.take (is := [1, 2, 3, 4, 0, 5, 6, 7]) rfl) (fn35 rv11.1.S a17 k18 a20 k21 a23 k24 rv11.1.K a26 k27 rv81 aq83 kq84 aq86 kq87 aq89 kq90 aq92 kq93 ((rv67.2.1 - 1)) pre pre pre pre pre pre pre rv99 hg100)))))))))) (Dg [] (fun G => .tuple #[.agg #[vi rv99.1.Phase, (G.g 9 0), (G.g 9 1), vi rv99.1.At, vi rv99.1.Edge, (G.g 9 2), (G.g 9 3), vi rv99.1.Steps], vi rv99.2.1, vi rv99.2.2]) (fun G => Vm) (Dg [] (fun G => .agg #[vi rv99.1.Phase, (G.g 9 0), (G.g 9 1), vi rv99.1.At, vi rv99.1.Edge, (G.g 9 2), (G.g 9 3), vi rv99.1.Steps]) (fun G => Vx) (Dv [] Vx (Dv [] Vx (Dx [] [] [0] (fun G => (G.g 14 0)) [fun G => Cl (G.g 14 0) [vi 0, .slice none 0 0, .slice none 0 0, vi 0, vi 0, .slice none 0 0, .slice none 0 0, vi 0]] (fun G => xA (Al ze59 [vi 0, .slice none 0 0, .slice none 0 0, vi 0, vi 0, .slice none 0 0, .slice none 0 0, vi 0])) (Dx0 [14, 15, 16, 17, 18] [18] [1, 2, 3, 4, 0] [fun G => Cl (G.g 14 0) [vi rv99.1.Phase, (G.g 9 0), (G.g 9 1), vi rv99.1.At, vi rv99.1.Edge, (G.g 9 2), (G.g 9 3), vi rv99.1.Steps]] (fun G => x1 0 rfl sl_one fun ho106 => (x1 1 rfl sl_one fun ho107 => (x1 2 rfl sl_one fun ho108 => (x1 3 rfl sl_one fun ho109 => (xS (Scl [4] sh59 [vi rv99.1.Phase, (G.g 9 0), (G.g 9 1), vi rv99.1.At, vi rv99.1.Edge, (G.g 9 2), (G.g 9 3), vi rv99.1.Steps] (v := .agg #[vi rv99.1.Phase, (G.g 9 0), (G.g 9 1), vi rv99.1.At, vi rv99.1.Edge, (G.g 9 2), (G.g 9 3), vi rv99.1.Steps]) (h1 := show [vi rv99.1.Phase, (G.g 9 0), (G.g 9 1), vi rv99.1.At, vi rv99.1.Edge, (G.g 9 2), (G.g 9 3), vi rv99.1.Steps].all (·.oneCell') = true from (by simp only [List.all_cons, List.all_nil, ho106, ho107, ho108, ho109, Bool.and_true, Bool.true_and] <;> rfl)))))))) (Dv [] Va (Dv [] Va ?_))))))))
 refine Dn ⟨by kernel_rfl, fun G => ?_⟩
 refine Jw2 [(3, p29), (6, vl a72 k73 rv67.1), (7, vi rv67.2.1), (9, (G.g 14 0)), (11, vi rv99.2.2)] [0, 1, 2, 3, 4, 5, 6, 7] [SP.fact (i64ok rv81.Phase ∧ i64ok rv81.At ∧ i64ok rv81.Edge ∧ i64ok rv81.Steps), sl (G.g 6 0) rv81.Cone, sl (G.g 6 1) rv81.Leaf, sl (G.g 6 2) rv81.Values, sl (G.g 6 3) rv81.Queue, SP.fact (i64ok rv99.1.Phase ∧ i64ok rv99.1.At ∧ i64ok rv99.1.Edge ∧ i64ok rv99.1.Steps ∧ i64ok rv99.2.1 ∧ i64ok rv99.2.2 ∧ (0 ≤ rv99.2.1 ∧ rv99.2.1 ≤ 8000000000) ∧ (rv99.1.Cone.length ≤ 256)), sl (G.g 9 0) rv99.1.Cone, sl (G.g 9 1) rv99.1.Leaf, sl (G.g 9 2) rv99.1.Values, sl (G.g 9 3) rv99.1.Queue, Cl (G.g 14 0) [vi rv99.1.Phase, (G.g 9 0), (G.g 9 1), vi rv99.1.At, vi rv99.1.Edge, (G.g 9 2), (G.g 9 3), vi rv99.1.Steps]] ?_
 generalize G.g 6 0 = c77, G.g 6 1 = c78, G.g 6 2 = c79, G.g 6 3 = c80, G.g 9 0 = c95, G.g 9 1 = c96, G.g 9 2 = c97, G.g 9 3 = c98, G.g 14 0 = p105
 refine Jf 8 rfl ?_; rintro ⟨he110, he111, he112, he113⟩
 unfold i64ok at he110 he111 he112 he113
 refine Jf 13 rfl ?_; rintro ⟨he114, he115, he116, he117, he118, he119, he120, he121⟩
 unfold i64ok at he114 he115 he116 he117 he118 he119
 refine Jk [1, 2, 3, 3, 4, 5, 6, 8, 9, 10, 11, 13, 14, 15, 16, 17] ?_
 refine Jo 7 ?_; rintro a122 k123 rfl
 refine Fb 8 7 fun hl124 => ?_
 refine Fo 7 fun ho125 => ?_
 refine Jo 8 ?_; rintro a126 k127 rfl
 refine Fb 1 8 fun hl128 => ?_
 refine Jo 9 ?_; rintro a129 k130 rfl
 refine Fb 32 9 fun hl131 => ?_
 refine Jo 10 ?_; rintro a132 k133 rfl
 refine Fb 8 10 fun hl134 => ?_
 refine Fo 10 fun ho135 => ?_
 refine Jo 11 ?_; rintro a136 k137 rfl
 refine Fb 8 11 fun hl138 => ?_
 refine Fo 11 fun ho139 => ?_
 refine Jo 12 ?_; rintro a140 k141 rfl
 refine Fb 1 12 fun hl142 => ?_
 refine Jo 13 ?_; rintro a143 k144 rfl
 refine Fb 32 13 fun hl145 => ?_
 refine Jo 14 ?_; rintro a146 k147 rfl
 refine Fb 8 14 fun hl148 => ?_
 refine Fo 14 fun ho149 => ?_
 refine KS ?_
 refine Jp 2 fun hp150 => ?_
 refine JK_drawK [0, 1, 0, 4, 0, 16, 48, 0, 255, 511, 1023, 1023, 1023, 0, 10239, 28671, 65535] fmix ?_
 refine Dv [0] (Vfa fo55_0 0) (Dv [3] (VldG sh27 0 [vi rv11.1.S.Width, vl a17 k18 rv11.1.S.Deps, vl a20 k21 rv11.1.S.Transfers, vl a23 k24 rv11.1.S.Boundary]) (Dv [0] (Vfa fo55_1 0) (Dv [3] (VldF sh53 0) (Dv [0] (Vfa fo55_2 0) (Dv [3] (VldF sh3 0) (Dx [] [] [0, 1, 2, 3, 4] (fun G => .agg #[vi rv81.Phase, (G.g 6 0), (G.g 6 1), vi rv81.At, vi rv81.Edge, (G.g 6 2), (G.g 6 3), vi rv81.Steps]) [fun G => SP.fact (i64ok rv81.Phase ∧ i64ok rv81.At ∧ i64ok rv81.Edge ∧ i64ok rv81.Steps), fun G => sl (G.g 6 0) rv81.Cone, fun G => sl (G.g 6 1) rv81.Leaf, fun G => sl (G.g 6 2) rv81.Values, fun G => sl (G.g 6 3) rv81.Queue] (fun G => xC [] ca38 (fn38 rv11.1.Root pre rv81 hg82)) (Dv [] Vm ?_)))))))
 refine letv (solver_Run rv11.1.S rv11.1.K rv81 rv67.2.1) fun rv171 hg172 => ?_
 refine Dx [4, 5, 6, 7, 17, 18, 19, 20, 21] [] [5, 6, 7, 8, 9, 10, 11, 12, 13, 0, 1, 2, 3, 4] (fun G => .tuple #[.agg #[vi rv171.1.Phase, (G.g 8 0), (G.g 8 1), vi rv171.1.At, vi rv171.1.Edge, (G.g 8 2), (G.g 8 3), vi rv171.1.Steps], vi rv171.2.1, vi rv171.2.2]) [fun G => SP.fact (i64ok rv171.1.Phase ∧ i64ok rv171.1.At ∧ i64ok rv171.1.Edge ∧ i64ok rv171.1.Steps ∧ i64ok rv171.2.1 ∧ i64ok rv171.2.2 ∧ (0 ≤ rv171.2.1 ∧ rv171.2.1 ≤ 8000000000) ∧ (rv171.1.Cone.length ≤ 256)), fun G => sl (G.g 8 0) rv171.1.Cone, fun G => sl (G.g 8 1) rv171.1.Leaf, fun G => sl (G.g 8 2) rv171.1.Values, fun G => sl (G.g 8 3) rv171.1.Queue] (fun G => by refine xf 4 rfl ?_; rintro ⟨he173, he174, he175, he176⟩; unfold i64ok at he173 he174 he175 he176; exact xD [8, 7, 6, 5, 0, 1, 2, 3] ca35 rfl rfl rfl (FT_open (γ := Value × Value × Value × Value) (I := fun g => i64ok rv171.1.Phase ∧ i64ok rv171.1.At ∧ i64ok rv171.1.Edge ∧ i64ok rv171.1.Steps ∧ i64ok rv171.2.1 ∧ i64ok rv171.2.2 ∧ (0 ≤ rv171.2.1 ∧ rv171.2.1 ≤ 8000000000) ∧ (rv171.1.Cone.length ≤ 256)) (V := fun g => .tuple #[.agg #[vi rv171.1.Phase, g.1, g.2.1, vi rv171.1.At, vi rv171.1.Edge, g.2.2.1, g.2.2.2, vi rv171.1.Steps], vi rv171.2.1, vi rv171.2.2]) (B := fun g => [sl g.1 rv171.1.Cone, sl g.2.1 rv171.1.Leaf, sl g.2.2.1 rv171.1.Values, sl g.2.2.2 rv171.1.Queue]) (R := sl (G.g 6 3) rv81.Queue) sl_slice (fun aq164 kq165 eq166 => by rw [eq166]; exact FT_ent (Ent.take (is := [1, 2, 3, 4, 5, 6, 7, 0]) rfl) (FT_open (γ := Value × Value × Value × Value) (I := fun g => i64ok rv171.1.Phase ∧ i64ok rv171.1.At ∧ i64ok rv171.1.Edge ∧ i64ok rv171.1.Steps ∧ i64ok rv171.2.1 ∧ i64ok rv171.2.2 ∧ (0 ≤ rv171.2.1 ∧ rv171.2.1 ≤ 8000000000) ∧ (rv171.1.Cone.length ≤ 256)) (V := fun g => .tuple #[.agg #[vi rv171.1.Phase, g.1, g.2.1, vi rv171.1.At, vi rv171.1.Edge, g.2.2.1, g.2.2.2, vi rv171.1.Steps], vi rv171.2.1, vi rv171.2.2]) (B := fun g => [sl g.1 rv171.1.Cone, sl g.2.1 rv171.1.Leaf, sl g.2.2.1 rv171.1.Values, sl g.2.2.2 rv171.1.Queue]) (R := sl (G.g 6 2) rv81.Values) sl_slice (fun aq161 kq162 eq163 => by rw [eq163]; exact FT_ent (Ent.take (is := [1, 2, 3, 4, 5, 6, 0, 7]) rfl) (FT_open (γ := Value × Value × Value × Value) (I := fun g => i64ok rv171.1.Phase ∧ i64ok rv171.1.At ∧ i64ok rv171.1.Edge ∧ i64ok rv171.1.Steps ∧ i64ok rv171.2.1 ∧ i64ok rv171.2.2 ∧ (0 ≤ rv171.2.1 ∧ rv171.2.1 ≤ 8000000000) ∧ (rv171.1.Cone.length ≤ 256)) (V := fun g => .tuple #[.agg #[vi rv171.1.Phase, g.1, g.2.1, vi rv171.1.At, vi rv171.1.Edge, g.2.2.1, g.2.2.2, vi rv171.1.Steps], vi rv171.2.1, vi rv171.2.2]) (B := fun g => [sl g.1 rv171.1.Cone, sl g.2.1 rv171.1.Leaf, sl g.2.2.1 rv171.1.Values, sl g.2.2.2 rv171.1.Queue]) (R := sl (G.g 6 1) rv81.Leaf) sl_slice (fun aq158 kq159 eq160 => by rw [eq160]; exact FT_ent (Ent.take (is := [1, 2, 3, 4, 5, 0, 6, 7]) rfl) (FT_open (γ := Value × Value × Value × Value) (I := fun g => i64ok rv171.1.Phase ∧ i64ok rv171.1.At ∧ i64ok rv171.1.Edge ∧ i64ok rv171.1.Steps ∧ i64ok rv171.2.1 ∧ i64ok rv171.2.2 ∧ (0 ≤ rv171.2.1 ∧ rv171.2.1 ≤ 8000000000) ∧ (rv171.1.Cone.length ≤ 256)) (V := fun g => .tuple #[.agg #[vi rv171.1.Phase, g.1, g.2.1, vi rv171.1.At, vi rv171.1.Edge, g.2.2.1, g.2.2.2, vi rv171.1.Steps], vi rv171.2.1, vi rv171.2.2]) (B := fun g => [sl g.1 rv171.1.Cone, sl g.2.1 rv171.1.Leaf, sl g.2.2.1 rv171.1.Values, sl g.2.2.2 rv171.1.Queue]) (R := sl (G.g 6 0) rv81.Cone) sl_slice (fun aq155 kq156 eq157 => by rw [eq157]; exact FT_ent (Ent.take (is := [1, 2, 3, 4, 0, 5, 6, 7]) rfl) (fn35 rv11.1.S a17 k18 a20 k21 a23 k24 rv11.1.K a26 k27 rv81 aq155 kq156 aq158 kq159 aq161 kq162 aq164 kq165 rv67.2.1 pre pre pre pre pre pre pre rv171 hg172)))))))))) (Dg [] (fun G => .tuple #[.agg #[vi rv171.1.Phase, (G.g 8 0), (G.g 8 1), vi rv171.1.At, vi rv171.1.Edge, (G.g 8 2), (G.g 8 3), vi rv171.1.Steps], vi rv171.2.1, vi rv171.2.2]) (fun G => Vm) (Dg [] (fun G => .agg #[vi rv171.1.Phase, (G.g 8 0), (G.g 8 1), vi rv171.1.At, vi rv171.1.Edge, (G.g 8 2), (G.g 8 3), vi rv171.1.Steps]) (fun G => Vx) (Dv [] Vx (Dv [] Vx (Dx [] [] [0] (fun G => (G.g 13 0)) [fun G => Cl (G.g 13 0) [vi 0, .slice none 0 0, .slice none 0 0, vi 0, vi 0, .slice none 0 0, .slice none 0 0, vi 0]] (fun G => xA (Al ze59 [vi 0, .slice none 0 0, .slice none 0 0, vi 0, vi 0, .slice none 0 0, .slice none 0 0, vi 0])) (Dx0 [23, 24, 25, 26, 27] [27] [1, 2, 3, 4, 0] [fun G => Cl (G.g 13 0) [vi rv171.1.Phase, (G.g 8 0), (G.g 8 1), vi rv171.1.At, vi rv171.1.Edge, (G.g 8 2), (G.g 8 3), vi rv171.1.Steps]] (fun G => x1 0 rfl sl_one fun ho178 => (x1 1 rfl sl_one fun ho179 => (x1 2 rfl sl_one fun ho180 => (x1 3 rfl sl_one fun ho181 => (xS (Scl [4] sh59 [vi rv171.1.Phase, (G.g 8 0), (G.g 8 1), vi rv171.1.At, vi rv171.1.Edge, (G.g 8 2), (G.g 8 3), vi rv171.1.Steps] (v := .agg #[vi rv171.1.Phase, (G.g 8 0), (G.g 8 1), vi rv171.1.At, vi rv171.1.Edge, (G.g 8 2), (G.g 8 3), vi rv171.1.Steps]) (h1 := show [vi rv171.1.Phase, (G.g 8 0), (G.g 8 1), vi rv171.1.At, vi rv171.1.Edge, (G.g 8 2), (G.g 8 3), vi rv171.1.Steps].all (·.oneCell') = true from (by simp only [List.all_cons, List.all_nil, ho178, ho179, ho180, ho181, Bool.and_true, Bool.true_and] <;> rfl)))))))) (Dv [] Va (Dv [] Va ?_))))))))
 refine Dn ⟨by kernel_rfl, fun G => ?_⟩
 refine Jw2 [(6, vl a72 k73 rv67.1), (7, vi rv67.2.1), (9, p105), (11, vi rv99.2.2), (12, (G.g 13 0)), (14, vi rv171.2.2)] [0, 1, 2, 3, 4, 5, 6, 7, 8, 9, 10, 11, 12, 13, 14, 15, 16] [SP.fact (i64ok rv81.Phase ∧ i64ok rv81.At ∧ i64ok rv81.Edge ∧ i64ok rv81.Steps), sl (G.g 6 0) rv81.Cone, sl (G.g 6 1) rv81.Leaf, sl (G.g 6 2) rv81.Values, sl (G.g 6 3) rv81.Queue, SP.fact (i64ok rv171.1.Phase ∧ i64ok rv171.1.At ∧ i64ok rv171.1.Edge ∧ i64ok rv171.1.Steps ∧ i64ok rv171.2.1 ∧ i64ok rv171.2.2 ∧ (0 ≤ rv171.2.1 ∧ rv171.2.1 ≤ 8000000000) ∧ (rv171.1.Cone.length ≤ 256)), sl (G.g 8 0) rv171.1.Cone, sl (G.g 8 1) rv171.1.Leaf, sl (G.g 8 2) rv171.1.Values, sl (G.g 8 3) rv171.1.Queue, Cl (G.g 13 0) [vi rv171.1.Phase, (G.g 8 0), (G.g 8 1), vi rv171.1.At, vi rv171.1.Edge, (G.g 8 2), (G.g 8 3), vi rv171.1.Steps]] ?_
 generalize G.g 6 0 = c151, G.g 6 1 = c152, G.g 6 2 = c153, G.g 6 3 = c154, G.g 8 0 = c167, G.g 8 1 = c168, G.g 8 2 = c169, G.g 8 3 = c170, G.g 13 0 = p177
 refine Jf 17 rfl ?_; rintro ⟨he182, he183, he184, he185⟩
 unfold i64ok at he182 he183 he184 he185
 refine Jf 22 rfl ?_; rintro ⟨he186, he187, he188, he189, he190, he191, he192, he193⟩
 unfold i64ok at he186 he187 he188 he189 he190 he191
 refine Jk [1, 2, 3, 3, 4, 5, 6, 7, 8, 9, 10, 11, 12, 13, 14, 15, 16, 17, 18, 19, 21, 22, 23, 24, 25] ?_
 refine Jo 16 ?_; rintro a194 k195 rfl
 refine Jo 17 ?_; rintro a196 k197 rfl
 refine Jo 18 ?_; rintro a198 k199 rfl
 refine Jo 19 ?_; rintro a200 k201 rfl
 refine Jo 20 ?_; rintro a202 k203 rfl
 refine Fb 8 20 fun hl204 => ?_
 refine Fo 20 fun ho205 => ?_
 refine Jo 21 ?_; rintro a206 k207 rfl
 refine Fb 1 21 fun hl208 => ?_
 refine Jo 22 ?_; rintro a209 k210 rfl
 refine Fb 32 22 fun hl211 => ?_
 refine Jo 23 ?_; rintro a212 k213 rfl
 refine Fb 8 23 fun hl214 => ?_
 refine Fo 23 fun ho215 => ?_
 refine KS ?_
 refine Oq Vm (Oq Veql (Oq Vm ?_))
 refine Js 73 ?_ ?_
 · intro h216
   have g217 := eq_of_beq h216
   refine Oq Vm (Oq Veql (Oq Vpt (Oq Vm ?_)))
   refine Js 77 ?_ ?_
   · intro h218
     have g219 := eq_of_beq h218
     refine Oq (Vfa fo59_0 15) (Oq (VldF sh3 15) (Oq Veql (Oq Vpt (Oq Vm ?_))))
     refine Js 82 ?_ ?_
     · intro h220
       have g221 := eq_of_beq h220
       refine Oq (Vfa fo59_0 24) (Oq (VldF sh3 24) (Oq Veql (Oq Vpt (Oq Vm ?_))))
       refine Js 87 ?_ ?_
       · intro h222
         have g223 := eq_of_beq h222
         refine Oq (Vfa fo59_1 24) (Oq (VldF sh22 24) (Oq Vm ?_))
         refine letv (flqref7_Ints rv171.1.Cone rv67.1) fun rv224 hg225 => ?_
         have hc226 := fn40 rv171.1.Cone a202 k203 rv67.1 a72 k73 rv224 hg225
         refine Oc [20, 0] ca40 hc226 ?_
         rintro - -
         refine Oq Vpt (Oq Vm ?_)
         refine Js 93 ?_ ?_
         · intro h227
           refine Oq (Vfa fo59_7 24) (Oq (VldF sh3 24) (Oq Vm (Oq Veql (Oq Vpt (Oq Vm ?_)))))
           refine Js 99 ?_ ?_
           · intro h229
             have g230 := eq_of_beq h229
             have hc231 := fn37  flqlaw15_sane rfl
             refine Oc [] ca37 hc231 ?_
             rintro - -
             refine Oq Vpt (Oq Va (KS ?_))
             have hq := q4 hrr flqlaw15_sane (by unfold flqlaw15_SolverDemands; simp only [h47, h216, h218, h220, h222, h227, h229, hg5, hg12, hR65, hg68, hg82, hg100, hg172, hg225, cs4]); subst hq
             exact Kr () rfl (.tmp rfl .nil) [] trivial
           intro h229
           have g232 := ne_of_beq_false h229
           refine Osk (Oq Vpf (Oq Va (KS ?_)))
           have hq := q4 hrr false (by unfold flqlaw15_SolverDemands; simp only [h47, h216, h218, h220, h222, h227, h229, hg5, hg12, hR65, hg68, hg82, hg100, hg172, hg225, cs4]); subst hq
           exact Kr () rfl (.tmp rfl .nil) [] trivial
         intro h227
         refine Osk (Osk (Osk (Osk (Oq Vpf (Oq Vm (Osk (Oq Vpf (Oq Va (KS ?_)))))))))
         have hq := q4 hrr false (by unfold flqlaw15_SolverDemands; simp only [h47, h216, h218, h220, h222, h227, hg5, hg12, hR65, hg68, hg82, hg100, hg172, hg225, cs4]); subst hq
         exact Kr () rfl (.tmp rfl .nil) [] trivial
       intro h222
       have g234 := ne_of_beq_false h222
       refine Osk (Osk (Osk (Osk (Oq Vpf (Oq Vm (Osk (Osk (Osk (Osk ?_)))))))))
       refine Oq Vpf (Oq Vm (Osk (Oq Vpf (Oq Va (KS ?_)))))
       have hq := q4 hrr false (by unfold flqlaw15_SolverDemands; simp only [h47, h216, h218, h220, h222, hg5, hg12, hR65, hg68, hg82, hg100, hg172, cs4]); subst hq
       exact Kr () rfl (.tmp rfl .nil) [] trivial
     intro h220
     have g235 := ne_of_beq_false h220
     refine Osk (Osk (Osk (Oq Vpf (Oq Vm (Osk (Osk (Osk (Osk (Oq Vpf ?_)))))))))
     refine Oq Vm (Osk (Osk (Osk (Osk (Oq Vpf (Oq Vm (Osk (Oq Vpf (Oq Va ?_)))))))))
     refine KS ?_
     have hq := q4 hrr false (by unfold flqlaw15_SolverDemands; simp only [h47, h216, h218, h220, hg5, hg12, hR65, hg68, hg82, hg100, hg172, cs4]); subst hq
     exact Kr () rfl (.tmp rfl .nil) [] trivial
   intro h218
   have g236 := ne_of_beq_false h218
   refine Osk (Osk (Osk (Oq Vpf (Oq Vm (Osk (Osk (Osk (Oq Vpf (Oq Vm ?_)))))))))
   refine Osk (Osk (Osk (Osk (Oq Vpf (Oq Vm (Osk (Osk (Osk (Osk ?_)))))))))
   refine Oq Vpf (Oq Vm (Osk (Oq Vpf (Oq Va (KS ?_)))))
   have hq := q4 hrr false (by unfold flqlaw15_SolverDemands; simp only [h47, h216, h218, hg5, hg12, hR65, hg68, hg82, hg100, hg172, cs4]); subst hq
   exact Kr () rfl (.tmp rfl .nil) [] trivial
 intro h216
 have g237 := ne_of_beq_false h216
 refine Osk (Osk (Oq Vpf (Oq Vm (Osk (Osk (Osk (Oq Vpf (Oq Vm (Osk ?_)))))))))
 refine Osk (Osk (Oq Vpf (Oq Vm (Osk (Osk (Osk (Osk (Oq Vpf (Oq Vm ?_)))))))))
 refine Osk (Osk (Osk (Osk (Oq Vpf (Oq Vm (Osk (Oq Vpf (Oq Va (KS ?_)))))))))
 have hq := q4 hrr false (by unfold flqlaw15_SolverDemands; simp only [h47, h216, hg5, hg12, hR65, hg68, hg82, hg100, hg172, cs4]); subst hq
 exact Kr () rfl (.tmp rfl .nil) [] trivial
end Go.SL.G
