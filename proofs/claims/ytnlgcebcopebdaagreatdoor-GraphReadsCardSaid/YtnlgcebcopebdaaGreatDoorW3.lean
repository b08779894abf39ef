/- Part 3 of the walks: mirrors, plain laws and walks used by the last text of this claim. -/
import Derived.Test.YtnlgcebcopebdaaGreatDoorW2
import Derived.Test.YtnlgcebcopebdaaGreatDoorProg
set_option linter.unusedVariables false
set_option linter.unusedSimpArgs false
namespace Go.SL.G
open Go Go.SL Go.Proofs
set_option maxHeartbeats 20000000
set_option maxRecDepth 100000
theorem fn141 (s : List Str) (sa0 : Option Addr) (sk0 : Nat) (v : Str) (hv_0 : v.b.length ≤ 140737488355328) (rr : Int) (hrr : sc_Index_string s v = rr) : FT Tryz.prog 141 #[vl sa0 sk0 s, .string (bs v)] [S sa0 sk0 s] (fun g : Unit => i64ok rr) (fun g => vi rr) (fun g => []) := by
 refine FTi Tryz.func141 fun w0 M0 F0 => Fb 16 0 fun _ => ?_
 refine FoS 0 fun ho2 => ?_
 refine KS ?_
 refine Oq Va (KS ?_)
 refine Oq Vm (Oq (Vlen sl51) (Oq Vm (KS ?_)))
 refine Kl (γ := Nat × Int) (fun (r3, v8_4) => ⟨[(0, vl sa0 sk0 s), (1, .string (bs v)), (7, vi (s.length : Int)), (8, vi v8_4)], [S sa0 sk0 s], sc_Index_string_L0 s v r3 v8_4 = sc_Index_string_L0 s v (((s.length : Int) - 0).toNat) 0 ∧ r3 = ((s.length : Int) - v8_4).toNat ∧ (0 : Int) ≤ v8_4 ∧ v8_4 ≤ (s.length : Int) ∧ (-9223372036854775808 ≤ v8_4 ∧ v8_4 ≤ 9223372036854775807), r3⟩) (((s.length : Int) - 0).toNat, 0) [0] ⟨rfl, rfl, aM1, aM1, aM1⟩ ?_
 rintro ⟨r3, v8_4⟩ ⟨hM5, hr6, hi7, hi8, hk9⟩
 refine JJ_nx fun _ _ hL hA => ?_; dsimp only at hL hA; subst hL hA
 refine Fb 16 0 fun _ => ?_
 refine FoS 0 fun ho11 => ?_
 refine KS ?_
 refine Oq Vlss (KS ?_)
 refine Kc ?_ ?_
 ·intro h12
  have g13 := dt h12
  obtain ⟨r14, rfl⟩ := scc (n := r3) aM1
  refine KS ?_
  refine Oq Vm (Oq Va (KS ?_))
  refine Oq Vm (Oq Vm (Oq Vm (Oq (Vi sl51 0) ?_)))
  have hb15 := okS (i := v8_4.toNat) ho11 rng
  refine Oq (VldS sh9 0) (Oq (VeqS (l := v) (m := (s.getD v8_4.toNat default))) (KS ?_))
  refine Kc ?_ ?_
  ·intro h16
   have g17 := eq_of_beq h16
   refine KS ?_
   refine Oq Vm (Oq Va (KS ?_))
   have hR18 := q2 hM5 (.ret v8_4) (by simp only [sc_Index_string_L0, h12, h16, cs4])
   have hq := q4 hrr v8_4 (by simp only [sc_Index_string, h12, h16, hR18, cs4]); subst hq
   exact Kr () rfl (.tmp rfl .nil) [] en
  intro h16
  have g19 := ne_of_beq_false h16
  refine KS ?_
  refine Oq Vadd (Oq Vm (KS ?_))
  exact Kg (r14, (v8_4 + 1)) [0] ⟨(q3 hM5 (by simp only [sc_Index_string_L0, h12, h16, cs4])), aM1, aM1, aM1, aM1⟩
 intro h12
 have g20 := df h12
 obtain rfl : r3 = 0 := by omega
 refine Ke ?_
 have hR21 := q2 hM5 (.brk ()) (by simp only [sc_Index_string_L0, h12, cs4])
 refine KS ?_
 refine Oq Va (KS ?_)
 have hq := q4 hrr (-1) (by simp only [sc_Index_string, h12, hR21, cs4]); subst hq
 exact Kr () rfl (.tmp rfl .nil) [] en
theorem fn129 (s : List Str) (sa0 : Option Addr) (sk0 : Nat) (v : Str) (hv_0 : v.b.length ≤ 140737488355328) (rr : Bool) (hrr : sc_Contains_string s v = rr) : FT Tryz.prog 129 #[vl sa0 sk0 s, .string (bs v)] [S sa0 sk0 s] (fun g : Unit => True) (fun g => vb rr) (fun g => []) := by
 refine FTi Tryz.func129 fun w0 M0 F0 => Fb 16 0 fun _ => ?_
 refine FoS 0 fun ho2 => ?_
 refine KS ?_
 refine Oq Va (KS ?_)
 refine Oq Vm (Oq Vm ?_)
 refine letv (sc_Index_string s v) fun rv3 hg4 => ?_
 have hc5 := fn141 s sa0 sk0 v pre rv3 hg4
 refine Oc [0] ca141 hc5 ?_
 rintro - he6
 unfold i64ok at he6
 refine Oq Vgeq (Oq Va (KS ?_))
 have hq := q4 hrr (decide (0 ≤ rv3)) (by simp only [sc_Contains_string, hg4, cs4]); subst hq
 exact Kr () rfl (.tmp rfl .nil) [] trivial
theorem fn144 (c : Int) (hc_0 : 0 ≤ c ∧ c ≤ 255) (rr : Bool) (hrr : lx_digit c = rr) : FT Tryz.prog 144 #[.int .u8 c] [] (fun g : Unit => True) (fun g => vb rr) (fun g => []) := by
 refine FTi Tryz.func144 fun w0 M0 F0 => ?_
 refine KS ?_
 refine Oq Va (KS ?_)
 refine Oq Vm (Oq Vgeq (Oq Vm ?_))
 refine Js 5 ?_ ?_
 ·intro h1
  have g2 := dt h1
  refine Oq Vm (Oq Vleq (Oq Vpt (Oq Va (KS ?_))))
  have hq := q4 hrr (decide (c ≤ 57)) (by simp only [lx_digit, h1, cs4]); subst hq
  exact Kr () rfl (.tmp rfl .nil) [] trivial
 intro h1
 have g3 := df h1
 refine Osk (Osk (Oq Vpf (Oq Va (KS ?_))))
 have hq := q4 hrr false (by simp only [lx_digit, h1, cs4]); subst hq
 exact Kr () rfl (.tmp rfl .nil) [] trivial
theorem fn142 (c : Int) (hc_0 : 0 ≤ c ∧ c ≤ 255) (rr : Bool) (hrr : lx_part c = rr) : FT Tryz.prog 142 #[.int .u8 c] [] (fun g : Unit => True) (fun g => vb rr) (fun g => []) := by
 refine FTi Tryz.func142 fun w0 M0 F0 => ?_
 refine KS ?_
 refine Oq Va (KS ?_)
 refine Oq Vm ?_
 refine letv (lx_letter c) fun rv1 hg2 => ?_
 have hc3 := fn128 c pre rv1 hg2
 refine Oc [] ca128 hc3 ?_
 rintro - -
 refine Oq Vm ?_
 refine Js 5 ?_ ?_
 ·intro h4
  refine Osk (Osk (Oq Vpt (Oq Vm (Osk (Osk (Oq Vpt (Oq Va (KS ?_))))))))
  have hq := q4 hrr true (by simp only [lx_part, h4, hg2, cs4]); subst hq
  exact Kr () rfl (.tmp rfl .nil) [] trivial
 intro h4
 refine Oq Vm ?_
 refine letv (lx_digit c) fun rv7 hg8 => ?_
 have hc9 := fn144 c pre rv7 hg8
 refine Oc [] ca144 hc9 ?_
 rintro - -
 refine Oq Vpf (Oq Vm ?_)
 refine Js 9 ?_ ?_
 ·intro h10
  refine Osk (Osk (Oq Vpt (Oq Va (KS ?_))))
  have hq := q4 hrr true (by simp only [lx_part, h4, h10, hg2, hg8, cs4]); subst hq
  exact Kr () rfl (.tmp rfl .nil) [] trivial
 intro h10
 refine Oq Vm (Oq Veql (Oq Vpf (Oq Va (KS ?_))))
 have hq := q4 hrr (c == 95) (by simp only [lx_part, h4, h10, hg2, hg8, cs4]); subst hq
 exact Kr () rfl (.tmp rfl .nil) [] trivial
theorem fn130 (s : Str) (i : Int) (hs_0 : s.b.length ≤ 140737488355328) (hi_0 : i64ok i) (hi0 : 0 ≤ i ∧ i ≤ (s.b.length : Int)) (rr : Int) (hrr : lx_wordEnd s i = rr) : FT Tryz.prog 130 #[.string (bs s), vi i] [] (fun g : Unit => i64ok rr ∧ (i ≤ rr ∧ rr ≤ (s.b.length : Int))) (fun g => vi rr) (fun g => []) := by
 refine FTi Tryz.func130 fun w0 M0 F0 => ?_
 unfold i64ok at hi_0
 refine KS ?_
 refine Oq Va (KS ?_)
 refine Kl (γ := Nat × Int) (fun (r1, i_2) => ⟨[(0, .string (bs s)), (1, vi i_2)], [], lx_wordEnd_L0 s r1 i_2 = lx_wordEnd_L0 s (((s.b.length : Int) - i).toNat) i ∧ r1 = ((s.b.length : Int) - i_2).toNat ∧ (i : Int) ≤ i_2 ∧ (i_2 ≤ (s.b.length : Int) ∨ i_2 = i) ∧ (-9223372036854775808 ≤ i_2 ∧ i_2 ≤ 9223372036854775807), r1⟩) (((s.b.length : Int) - i).toNat, i) [] ⟨rfl, rfl, aM1, (.inr rfl), aM1⟩ ?_
 rintro ⟨r1, i_2⟩ ⟨hM3, hr4, hi5, hi6, hk7⟩
 refine JJ_nx fun _ _ hL hA => ?_; dsimp only at hL hA; subst hL hA
 refine KS ?_
 refine Oq Vm (Oq Vm (Oq (VlS un9 (l := s)) (Oq Vlss (Oq Vm ?_))))
 refine Js 9 ?_ ?_
 ·intro h8
  have g9 := dt h8
  obtain ⟨r10, rfl⟩ := scc (n := r1) aM1
  refine Oq Vm (Oq Vm (Oq (Vix un9 (l := s)) ?_))
  have hb11 := u8b (s.b.getD i_2.toNat 0)
  refine letv (lx_part ((s.b.getD i_2.toNat 0).toNat : Int)) fun rv12 hg13 => ?_
  have hc14 := fn142 (((s.b.getD i_2.toNat 0).toNat : Int)) pre rv12 hg13
  refine Oc [] ca142 hc14 ?_
  rintro - -
  refine Oq Vpt (KS ?_)
  refine Kc ?_ ?_
  ·intro h15
   refine KS ?_
   refine Oq Vm (Oq Vadd (Oq Va (KS ?_)))
   exact Kg (r10, (i_2 + 1)) [] ⟨(q3 hM3 (by simp only [lx_wordEnd_L0, h8, h15, hg13, cs4])), aM1, aM1, aM1, aM1⟩
  intro h15
  refine Ke ?_
  have hR18 := q2 hM3 i_2 (by simp only [lx_wordEnd_L0, h8, h15, hg13, cs4])
  refine KS ?_
  refine Oq Vm (Oq Va (KS ?_))
  have hq := q4 hrr i_2 (by simp only [lx_wordEnd, h8, h15, hg13, hR18, cs4]); subst hq
  exact Kr () rfl (.tmp rfl .nil) [] en
 intro h8
 have g19 := df h8
 obtain rfl : r1 = 0 := by omega
 refine Osk (Osk (Osk (Osk (Oq Vpf (KS ?_)))))
 refine Kf ?_
 refine Ke ?_
 have hR20 := q2 hM3 i_2 (by simp only [lx_wordEnd_L0, h8, cs4])
 refine KS ?_
 refine Oq Vm (Oq Va (KS ?_))
 have hq := q4 hrr i_2 (by simp only [lx_wordEnd, h8, hR20, cs4]); subst hq
 exact Kr () rfl (.tmp rfl .nil) [] en
theorem fn101 (s : Str) (kwLA : Option Addr) (kwLK : Nat) (hs_0 : s.b.length ≤ 140737488355328) (rr : Bool) (hrr : lx_IsName s = rr) : FT Tryz.prog 101 #[.string (bs s)] [pv (gp 0) [vl kwLA kwLK kwL], S kwLA kwLK kwL] (fun g : Unit => True) (fun g => vb rr) (fun g => []) := by
 refine FTi Tryz.func101 fun w0 M0 F0 => Fb 16 1 fun _ => ?_
 refine FoS 1 fun ho2 => ?_
 refine KS ?_
 refine Oq Va (KS ?_)
 refine Oq Vm (Oq (VeqS (l := s) (m := (Str.mk []))) (Oq Vm ?_))
 refine Js 5 ?_ ?_
 ·intro h3
  have g4 := eq_of_beq h3
  refine Osk (Osk (Osk (Oq Vpt (Oq Vm (Osk (Osk (Osk (Osk (Oq Vpt ?_)))))))))
  refine Oq Vm (Osk (Osk (Osk (Oq Vpt (KS ?_)))))
  refine Kt (KS ?_)
  refine Oq Va (KS ?_)
  have hq := q4 hrr false (by simp only [lx_IsName, h3, cs4]); subst hq
  exact Kr () rfl (.tmp rfl .nil) [] trivial
 intro h3
 have g5 := ne_of_beq_false h3
 have hsp := str_pos h3
 refine Oq Vm (Oq (VlS un9 (l := s)) (Oq Vgtr (Oq Vpf (Oq Vm ?_))))
 refine Js 10 ?_ ?_
 ·intro h6
  have g7 := dt h6
  refine Osk (Osk (Osk (Osk (Oq Vpt (Oq Vm (Osk (Osk (Osk (Oq Vpt ?_)))))))))
  refine KS ?_
  refine Kt (KS ?_)
  refine Oq Va (KS ?_)
  have hq := q4 hrr false (by simp only [lx_IsName, h3, h6, cs4]); subst hq
  exact Kr () rfl (.tmp rfl .nil) [] trivial
 intro h6
 have g8 := df h6
 refine Oq Vm (Oq (Vix un9 (l := s)) ?_)
 have hb9 := u8b (s.b.getD (0 : Int).toNat 0)
 refine letv (lx_letter ((s.b.getD (0 : Int).toNat 0).toNat : Int)) fun rv10 hg11 => ?_
 have hc12 := fn128 (((s.b.getD (0 : Int).toNat 0).toNat : Int)) pre rv10 hg11
 refine Oc [] ca128 hc12 ?_
 rintro - -
 refine Oq Vnot (Oq Vpf (Oq Vm ?_))
 refine Js 16 ?_ ?_
 ·intro h13
  have h15 := not_true h13
  refine Osk (Osk (Osk (Oq Vpt (KS ?_))))
  refine Kt (KS ?_)
  refine Oq Va (KS ?_)
  have hq := q4 hrr false (by simp only [lx_IsName, h3, h6, h13, h15, hg11, cs4]); subst hq
  exact Kr () rfl (.tmp rfl .nil) [] trivial
 intro h13
 have h18 := not_false h13
 refine Oq (Vld sh51 0) (Oq Vm ?_)
 refine letv (sc_Contains_string kwL s) fun rv20 hg21 => ?_
 have hc22 := fn129 kwL kwLA kwLK s pre rv20 hg21
 refine Oc [1] ca129 hc22 ?_
 rintro - -
 refine Oq Vpf (KS ?_)
 refine Kc ?_ ?_
 ·intro h23
  refine KS ?_
  refine Oq Va (KS ?_)
  have hq := q4 hrr false (by simp only [lx_IsName, h3, h6, h13, h18, h23, hg11, hg21, cs4]); subst hq
  exact Kr () rfl (.tmp rfl .nil) [] trivial
 intro h23
 refine KS ?_
 refine Oq Vm ?_
 refine letv (lx_wordEnd s 0) fun rv26 hg27 => ?_
 have hc28 := fn130 s 0 pre pre pre rv26 hg27
 refine Oc [] ca130 hc28 ?_
 rintro - ⟨he29, he30⟩
 unfold i64ok at he29
 refine Oq Vm (Oq (VlS un9 (l := s)) (Oq Veql (Oq Va (KS ?_))))
 have hq := q4 hrr (rv26 == (s.b.length : Int)) (by simp only [lx_IsName, h3, h6, h13, h18, h23, hg11, hg21, hg27, cs4]); subst hq
 exact Kr () rfl (.tmp rfl .nil) [] trivial
theorem fn131 (s : List GStmt) (sa0 : Option Addr) (sk0 : Nat) (fF : FuncId) (fC : List Value) (fp : GStmt → Bool) (fA : List SP) (hfc : callable Tryz.prog fF = true) (hfF : ∀ x ∈ s, ∀ (a2 : Option Addr) (k2 : Nat) (a3 : Option Addr) (k3 : Nat), i64ok x.Op → x.Def.b.length ≤ 140737488355328 → FT Tryz.prog fF ([(.agg #[vi x.Op, .string (bs x.Def), vl a2 k2 x.Uses, vl a3 k3 x.Targets] : Value)] ++ fC).toArray ([S a2 k2 x.Uses, S a3 k3 x.Targets] ++ [pAll fA]) (fun _ : Unit => True) (fun _ => .bool (fp x)) (fun _ => [])) (rr : Int) (hrr : sc_IndexFunc_Stmt s fp = rr) : FT Tryz.prog 131 #[vl sa0 sk0 s, .func (.func fF) #[] fC.toArray] [S sa0 sk0 s, pAll fA] (fun g : Unit => i64ok rr) (fun g => vi rr) (fun g => []) := by
 refine FTi Tryz.func131 fun w0 M0 F0 => Fb 72 0 fun _ => ?_
 refine KS ?_
 refine Oq Va (KS ?_)
 refine Oq Vm (Oq (Vlen sl55) (Oq Vm (KS ?_)))
 refine Kl (γ := Nat × Int) (fun (r2, v8_3) => ⟨[(0, vl sa0 sk0 s), (1, .func (.func fF) #[] fC.toArray), (7, vi (s.length : Int)), (8, vi v8_3)], [S sa0 sk0 s, pAll fA], sc_IndexFunc_Stmt_L0 s fp r2 v8_3 = sc_IndexFunc_Stmt_L0 s fp (((s.length : Int) - 0).toNat) 0 ∧ r2 = ((s.length : Int) - v8_3).toNat ∧ (0 : Int) ≤ v8_3 ∧ v8_3 ≤ (s.length : Int) ∧ (-9223372036854775808 ≤ v8_3 ∧ v8_3 ≤ 9223372036854775807), r2⟩) (((s.length : Int) - 0).toNat, 0) [0, 1] ⟨rfl, rfl, aM1, aM1, aM1⟩ ?_
 rintro ⟨r2, v8_3⟩ ⟨hM4, hr5, hi6, hi7, hk8⟩
 refine JJ_nx fun _ _ hL hA => ?_; dsimp only at hL hA; subst hL hA
 refine Fb 72 0 fun _ => KS ?_
 refine Oq Vlss (KS ?_)
 refine Kc ?_ ?_
 ·intro h10
  have g11 := dt h10
  obtain ⟨r12, rfl⟩ := scc (n := r2) aM1
  refine KS ?_
  refine Oq Vm (Oq Va (KS ?_))
  refine Oq Vm (Oq Vm (Oq Vm (Oq (Vi sl55 0) ?_)))
  refine JJ_peek_GStmt v8_3.toNat 0 rfl rng fun a13 k14 a15 k16 hb17 hb18 => ?_
  unfold i64ok at hb17
  refine Fb 16 1 fun _ => ?_
  refine FoS 1 fun ho20 => ?_
  refine Fb 16 2 fun _ => ?_
  refine FoS 2 fun ho22 => ?_
  refine Oq (VldA sh59 0) ?_
  refine JO_call [1, 2, 4] rfl rfl rfl (OpC.clo («as» := [(.agg #[vi ((s.getD v8_3.toNat default).Op), .string (bs ((s.getD v8_3.toNat default).Def)), vl a13 k14 ((s.getD v8_3.toNat default).Uses), vl a15 k16 ((s.getD v8_3.toNat default).Targets)] : Value)] ++ fC) rfl rfl hfc rfl (by simp)) (hfF (s.getD v8_3.toNat default) (getD_mem rng) a13 k14 a15 k16 pre pre) rfl fun _ _ => ?_
  refine KS ?_
  refine Kc ?_ ?_
  ·intro h23
   refine KS ?_
   refine Oq Vm (Oq Va (KS ?_))
   have hR25 := q2 hM4 (.ret v8_3) (by simp only [sc_IndexFunc_Stmt_L0, h10, h23, cs4])
   have hq := q4 hrr v8_3 (by simp only [sc_IndexFunc_Stmt, h10, h23, hR25, cs4]); subst hq
   exact Kr () rfl (.tmp rfl .nil) [] en
  intro h23
  refine KS ?_
  refine Oq Vadd (Oq Vm (KS ?_))
  exact Kg (r12, (v8_3 + 1)) [3, 4] ⟨(q3 hM4 (by simp only [sc_IndexFunc_Stmt_L0, h10, h23, cs4])), aM1, aM1, aM1, aM1⟩
 intro h10
 have g27 := df h10
 obtain rfl : r2 = 0 := by omega
 refine Ke ?_
 have hR28 := q2 hM4 (.brk ()) (by simp only [sc_IndexFunc_Stmt_L0, h10, cs4])
 refine KS ?_
 refine Oq Va (KS ?_)
 have hq := q4 hrr (-1) (by simp only [sc_IndexFunc_Stmt, h10, hR28, cs4]); subst hq
 exact Kr () rfl (.tmp rfl .nil) [] en
theorem fn102 (s : List GStmt) (sa0 : Option Addr) (sk0 : Nat) (fF : FuncId) (fC : List Value) (fp : GStmt → Bool) (fA : List SP) (hfc : callable Tryz.prog fF = true) (hfF : ∀ x ∈ s, ∀ (a2 : Option Addr) (k2 : Nat) (a3 : Option Addr) (k3 : Nat), i64ok x.Op → x.Def.b.length ≤ 140737488355328 → FT Tryz.prog fF ([(.agg #[vi x.Op, .string (bs x.Def), vl a2 k2 x.Uses, vl a3 k3 x.Targets] : Value)] ++ fC).toArray ([S a2 k2 x.Uses, S a3 k3 x.Targets] ++ [pAll fA]) (fun _ : Unit => True) (fun _ => .bool (fp x)) (fun _ => [])) (rr : Bool) (hrr : sc_ContainsFunc_Stmt s fp = rr) : FT Tryz.prog 102 #[vl sa0 sk0 s, .func (.func fF) #[] fC.toArray] [S sa0 sk0 s, pAll fA] (fun g : Unit => True) (fun g => vb rr) (fun g => []) := by
 refine FTi Tryz.func102 fun w0 M0 F0 => Fb 72 0 fun _ => ?_
 refine KS ?_
 refine Oq Va (KS ?_)
 refine Oq Vm (Oq Vm ?_)
 refine letv (sc_IndexFunc_Stmt s fp) fun rv2 hg3 => ?_
 have hc4 := fn131 s sa0 sk0 fF fC fp fA hfc hfF rv2 hg3
 refine Oc [0, 1] ca131 hc4 ?_
 rintro - he5
 unfold i64ok at he5
 refine Oq Vgeq (Oq Va (KS ?_))
 have hq := q4 hrr (decide (0 ≤ rv2)) (by simp only [sc_ContainsFunc_Stmt, hg3, cs4]); subst hq
 exact Kr () rfl (.tmp rfl .nil) [] trivial
theorem fn132 (s : List Str) (sa0 : Option Addr) (sk0 : Nat) (rr : List Str) (hrr : sc_Clone_string s = rr) : FT Tryz.prog 132 #[vl sa0 sk0 s] [S sa0 sk0 s] (fun g : Value => (rr.length = s.length)) (fun g => g) (fun g => [os g rr]) := by
 have hm : sc_Clone_string s = s := rfl
 rw [hm] at hrr
 subst hrr
 refine FTi Tryz.func132 fun w0 M0 F0 => ?_
 refine KS ?_
 refine Oq Va ?_
 refine KS ?_
 refine Oq Vm ?_
 refine Oq (VeqN un51) ?_
 refine KS ?_
 refine Kc ?_ ?_
 ·intro h
  refine Jnil 0 h ?_
  intro h0
  subst h0
  refine KS ?_
  refine Oq Va ?_
  refine KS ?_
  refine Jl [] (Ent.osNil (α := Str)) ?_
  exact Kr (.slice none 0 0) rfl (.tmp rfl .nil) [0] rfl
 ·intro _
  refine KS ?_
  refine Oa (As0 sl51) fun c1 => ?_
  refine Jo 0 ?_; rintro a2 k3 rfl
  refine Oq Vm ?_
  refine Fb 16 1 fun hl => ?_
  refine Jl [0] (Ent.crNil (α := Str) _) ?_
  refine Oa (Ap0 [0, 0] sl51 sl51 sz51) fun c4 => ?_
  refine Oq Va ?_
  refine KS ?_
  exact Kr c4 rfl (.tmp rfl .nil) [0] rfl
theorem fn143 (s : List Str) (sa0 : Option Addr) (sk0 : Nat) (fF : FuncId) (fC : List Value) (fp : Str → Bool) (fA : List SP) (hfc : callable Tryz.prog fF = true) (hfF : ∀ x ∈ s, x.b.length ≤ 140737488355328 → FT Tryz.prog fF ([(.string (bs x) : Value)] ++ fC).toArray ([] ++ [pAll fA]) (fun _ : Unit => True) (fun _ => .bool (fp x)) (fun _ => [])) (rr : Int) (hrr : sc_IndexFunc_string s fp = rr) : FT Tryz.prog 143 #[vl sa0 sk0 s, .func (.func fF) #[] fC.toArray] [S sa0 sk0 s, pAll fA] (fun g : Unit => i64ok rr) (fun g => vi rr) (fun g => []) := by
 refine FTi Tryz.func143 fun w0 M0 F0 => Fb 16 0 fun _ => ?_
 refine FoS 0 fun ho2 => ?_
 refine KS ?_
 refine Oq Va (KS ?_)
 refine Oq Vm (Oq (Vlen sl51) (Oq Vm (KS ?_)))
 refine Kl (γ := Nat × Int) (fun (r3, v8_4) => ⟨[(0, vl sa0 sk0 s), (1, .func (.func fF) #[] fC.toArray), (7, vi (s.length : Int)), (8, vi v8_4)], [S sa0 sk0 s, pAll fA], sc_IndexFunc_string_L0 s fp r3 v8_4 = sc_IndexFunc_string_L0 s fp (((s.length : Int) - 0).toNat) 0 ∧ r3 = ((s.length : Int) - v8_4).toNat ∧ (0 : Int) ≤ v8_4 ∧ v8_4 ≤ (s.length : Int) ∧ (-9223372036854775808 ≤ v8_4 ∧ v8_4 ≤ 9223372036854775807), r3⟩) (((s.length : Int) - 0).toNat, 0) [0, 1] ⟨rfl, rfl, aM1, aM1, aM1⟩ ?_
 rintro ⟨r3, v8_4⟩ ⟨hM5, hr6, hi7, hi8, hk9⟩
 refine JJ_nx fun _ _ hL hA => ?_; dsimp only at hL hA; subst hL hA
 refine Fb 16 0 fun _ => ?_
 refine FoS 0 fun ho11 => ?_
 refine KS ?_
 refine Oq Vlss (KS ?_)
 refine Kc ?_ ?_
 ·intro h12
  have g13 := dt h12
  obtain ⟨r14, rfl⟩ := scc (n := r3) aM1
  refine KS ?_
  refine Oq Vm (Oq Va (KS ?_))
  refine Oq Vm (Oq Vm (Oq Vm (Oq (Vi sl51 0) ?_)))
  have hb15 := okS (i := v8_4.toNat) ho11 rng
  refine Oq (VldS sh9 0) ?_
  refine JO_call [1] rfl rfl rfl (OpC.clo («as» := [(.string (bs (s.getD v8_4.toNat default)) : Value)] ++ fC) rfl rfl hfc rfl (by simp)) (hfF (s.getD v8_4.toNat default) (getD_mem rng)  pre) rfl fun _ _ => ?_
  refine KS ?_
  refine Kc ?_ ?_
  ·intro h16
   refine KS ?_
   refine Oq Vm (Oq Va (KS ?_))
   have hR18 := q2 hM5 (.ret v8_4) (by simp only [sc_IndexFunc_string_L0, h12, h16, cs4])
   have hq := q4 hrr v8_4 (by simp only [sc_IndexFunc_string, h12, h16, hR18, cs4]); subst hq
   exact Kr () rfl (.tmp rfl .nil) [] en
  intro h16
  refine KS ?_
  refine Oq Vadd (Oq Vm (KS ?_))
  exact Kg (r14, (v8_4 + 1)) [0, 1] ⟨(q3 hM5 (by simp only [sc_IndexFunc_string_L0, h12, h16, cs4])), aM1, aM1, aM1, aM1⟩
 intro h12
 have g20 := df h12
 obtain rfl : r3 = 0 := by omega
 refine Ke ?_
 have hR21 := q2 hM5 (.brk ()) (by simp only [sc_IndexFunc_string_L0, h12, cs4])
 refine KS ?_
 refine Oq Va (KS ?_)
 have hq := q4 hrr (-1) (by simp only [sc_IndexFunc_string, h12, hR21, cs4]); subst hq
 exact Kr () rfl (.tmp rfl .nil) [] en
theorem fn133 (s : List Str) (sa0 : Option Addr) (sk0 : Nat) (fF : FuncId) (fC : List Value) (fp : Str → Bool) (fA : List SP) (hfc : callable Tryz.prog fF = true) (hfF : ∀ x ∈ s, x.b.length ≤ 140737488355328 → FT Tryz.prog fF ([(.string (bs x) : Value)] ++ fC).toArray ([] ++ [pAll fA]) (fun _ : Unit => True) (fun _ => .bool (fp x)) (fun _ => [])) (rr : Bool) (hrr : sc_ContainsFunc_string s fp = rr) : FT Tryz.prog 133 #[vl sa0 sk0 s, .func (.func fF) #[] fC.toArray] [S sa0 sk0 s, pAll fA] (fun g : Unit => True) (fun g => vb rr) (fun g => []) := by
 refine FTi Tryz.func133 fun w0 M0 F0 => Fb 16 0 fun _ => ?_
 refine FoS 0 fun ho2 => ?_
 refine KS ?_
 refine Oq Va (KS ?_)
 refine Oq Vm (Oq Vm ?_)
 refine letv (sc_IndexFunc_string s fp) fun rv3 hg4 => ?_
 have hc5 := fn143 s sa0 sk0 fF fC fp fA hfc hfF rv3 hg4
 refine Oc [0, 1] ca143 hc5 ?_
 rintro - he6
 unfold i64ok at he6
 refine Oq Vgeq (Oq Va (KS ?_))
 have hq := q4 hrr (decide (0 ≤ rv3)) (by simp only [sc_ContainsFunc_string, hg4, cs4]); subst hq
 exact Kr () rfl (.tmp rfl .nil) [] trivial
theorem fn134 (n : Str) (kwLA : Option Addr) (kwLK : Nat) (hn_0 : n.b.length ≤ 140737488355328) (rr : Bool) (hrr : sx_valid_1 n = rr) : FT Tryz.prog 134 #[.string (bs n)] [pv (gp 0) [vl kwLA kwLK kwL], S kwLA kwLK kwL] (fun g : Unit => True) (fun g => vb rr) (fun g => []) := by
 refine FTi Tryz.func134 fun w0 M0 F0 => Fb 16 1 fun _ => ?_
 refine FoS 1 fun ho2 => ?_
 refine KS ?_
 refine Oq Va (KS ?_)
 refine Oq Vm ?_
 refine letv (lx_IsName n) fun rv3 hg4 => ?_
 have hc5 := fn101 n kwLA kwLK pre rv3 hg4
 refine Oc [0, 1] ca101 hc5 ?_
 rintro - -
 refine Oq Vnot (Oq Va (KS ?_))
 have hq := q4 hrr (!rv3) (by simp only [sx_valid_1, hg4, cs4]); subst hq
 exact Kr () rfl (.tmp rfl .nil) [] trivial
theorem fn104 (s : GStmt) (sa2 : Option Addr) (sk2 : Nat) (sa3 : Option Addr) (sk3 : Nat) (kwLA : Option Addr) (kwLK : Nat) (hs_0 : i64ok s.Op) (hs_1 : s.Def.b.length ≤ 140737488355328) (hsm : SSm s = true) (rr : Bool) (hrr : sx_valid s = rr) : FT Tryz.prog 104 #[.agg #[vi s.Op, .string (bs s.Def), vl sa2 sk2 s.Uses, vl sa3 sk3 s.Targets]] [S sa2 sk2 s.Uses, S sa3 sk3 s.Targets, pv (gp 0) [vl kwLA kwLK kwL], S kwLA kwLK kwL] (fun g : Unit => True) (fun g => vb rr) (fun g => []) := by
 refine FTi Tryz.func104 fun w0 M0 F0 => ?_
 unfold i64ok at hs_0
 refine Fb 16 0 fun _ => ?_
 refine FoS 0 fun ho2 => ?_
 refine Fb 16 1 fun _ => ?_
 refine FoS 1 fun ho4 => ?_
 refine Fb 16 3 fun _ => ?_
 refine FoS 3 fun ho6 => ?_
 have hsl := SSm_l hsm
 refine KS ?_
 refine Oa (Ab [vi s.Op, .string (bs s.Def), vl sa2 sk2 s.Uses, vl sa3 sk3 s.Targets]) fun p7 => Oq Va (KS ?_)
 refine Kq [0, 1, 3, 0, 15, 31] fmix ?_
 refine Qv [0] (Vfa fo59_2 0) (Qv [0] (VldF sh51 0) (Qv [] (Vlen sl51) (Qv [] Va (Qv [] Va (Qv [] Va ?_)))))
 refine Qn ⟨by kernel_rfl, ?_⟩
 refine KS ?_
 refine Oq (Vfa fo59_0 0) (Oq (VldF sh3 0) (KS ?_))
 refine Oq Veql (Oq Va (KS ?_))
 refine Kc ?_ ?_
 ·intro h8
  have g9 := eq_of_beq h8
  refine Ke ?_
  refine KS ?_
  refine Oq Va (KS ?_)
  refine Ke ?_
  refine KS ?_
  refine JK_drawK [0, 1, 3, 0, 8, 31, 63] fmix ?_
  refine Dv [0] (Vfa fo59_2 0) (Dv [0] (VldF sh51 0) ?_)
  refine letv (sc_Clone_string s.Uses) fun rv11 hg12 => ?_
  refine Dx [1] [] [2, 0, 1] (fun G => (G.g 2 0)) [fun G => SP.fact ((rv11.length = s.Uses.length)), fun G => os (G.g 2 0) rv11] (fun G => xC [0] ca132 (fn132 s.Uses sa2 sk2 rv11 hg12)) (Dv [0] (Vfa fo59_3 0) (Dv [0] (VldF sh51 0) ?_))
  have hn14 := la rv11 s.Targets
  refine Dx [2, 5, 6] [6] [1, 2, 0] (fun G => (G.g 5 0)) [fun G => os (G.g 5 0) (rv11 ++ s.Targets)] (fun G => by refine xf 1 rfl ?_; rintro he15; exact xA (Ap [2, 0] sl51 sl51 sz51)) (Dg [] (fun G => (G.g 5 0)) (fun G => Va) ?_)
  refine Dn ⟨by kernel_rfl, fun G => ?_⟩
  refine Jw2 [(1, p7), (4, vi (s.Uses.length : Int)), (5, vi 0), (3, vi 1), (6, (G.g 5 0))] [0, 1, 2, 3, 4] [SP.fact ((rv11.length = s.Uses.length)), os (G.g 5 0) (rv11 ++ s.Targets)] ?_
  generalize G.g 5 0 = c13
  refine Jf 5 rfl ?_; rintro he16
  refine Jk [0, 1, 2, 3, 4, 6] ?_
  refine Jo 5 ?_; rintro a17 k18 rfl
  refine Fb 16 5 fun _ => ?_
  refine FoS 5 fun ho20 => ?_
  refine KS ?_
  refine Oq Vm (Oq Veql (KS ?_))
  refine Kt (KS ?_)
  refine Oq Vm (Oq (Vfa fo59_1 0) (Oq (VldF sh9 0) (Oa (AsV sl51 sz51 [.string (bs s.Def)] [.string (bs s.Def)]) fun c21 => ?_)))
  refine Jo 0 ?_; rintro a22 k23 rfl
  refine Jl [0] (Ent.cr1 (α := Str) (A := []) _ s.Def _ aB1 (fun _ => ⟨rfl, aS1⟩)) ?_
  refine Oa (ApO [6, 0] sl51 sl51 sz51) fun c24 => ?_
  refine Jo 0 ?_; rintro a25 k26 rfl
  refine Fb 16 0 fun _ => ?_
  refine FoS 0 fun ho28 => ?_
  have hn29 := la (rv11 ++ s.Targets) ([s.Def] : List Str)
  refine Oq Va (KS ?_)
  refine Oq Vm (Oq Veql (Oq Vm (Osk (Osk (Osk (Oq Vpt (Oq Vm (Oq (Vfa fo59_2 1) (Oq (VldF sh51 1) ?_)))))))))
  refine Oq (Vlen sl51) (Oq Vm (Oq Veql (Oq Vpt (Oq Vm ?_))))
  refine Js 64 ?_ ?_
  ·intro h30
   have g31 := eq_of_beq h30
   refine Oq Vm (Oq Vleq (Oq Vpt (Oq Vm ?_)))
   refine Js 68 ?_ ?_
   ·intro h32
    have g33 := dt h32
    refine Oq (Vfa fo59_3 1) (Oq (VldF sh51 1) (Oq (Vlen sl51) (Oq Vm (Oq Veql (Oq Vpt (Oq Vm ?_))))))
    refine Js 75 ?_ ?_
    ·intro h34
     have g35 := eq_of_beq h34
     refine Oq Vm ?_
     refine Jl [0] (Ent.freeze _ _) ?_
     refine JJ_ent (Ent.pall [4, 5] rfl rfl) ?_
     refine letv (sc_ContainsFunc_string ((rv11 ++ s.Targets) ++ [s.Def]) (fun x => sx_valid_1 x)) fun rv36 hg37 => ?_
     have hc38 := fn133 (((rv11 ++ s.Targets) ++ [s.Def])) a25 k26 134 [] (fun x => sx_valid_1 x) [pv (gp 0) [vl kwLA kwLK kwL], S kwLA kwLK kwL] ca134 (fun x hx hq0 => FT_pall (A1 := _) (fn134 x  kwLA kwLK hq0 _ rfl)) rv36 hg37
     refine Oc [1, 0] ca133 hc38 ?_
     rintro - -
     refine Oq Vnot (Oq Vpt (Oq Va (KS ?_)))
     have hq := q4 hrr (!rv36) (by simp only [sx_valid, h8, h30, h32, h34, hg12, hg37, cs4]); subst hq
     exact Kr () rfl (.tmp rfl .nil) [] trivial
    intro h34
    have g39 := ne_of_beq_false h34
    refine Osk (Osk (Osk (Oq Vpf (Oq Va (KS ?_)))))
    have hq := q4 hrr false (by simp only [sx_valid, h8, h30, h32, h34, hg12, cs4]); subst hq
    exact Kr () rfl (.tmp rfl .nil) [] trivial
   intro h32
   have g40 := df h32
   refine Osk (Osk (Osk (Osk (Osk (Oq Vpf (Oq Vm (Osk (Osk (Osk ?_)))))))))
   refine Oq Vpf (Oq Va (KS ?_))
   have hq := q4 hrr false (by simp only [sx_valid, h8, h30, h32, hg12, cs4]); subst hq
   exact Kr () rfl (.tmp rfl .nil) [] trivial
  intro h30
  have g41 := ne_of_beq_false h30
  refine Osk (Osk (Oq Vpf (Oq Vm (Osk (Osk (Osk (Osk (Osk (Oq Vpf ?_)))))))))
  refine Oq Vm (Osk (Osk (Osk (Oq Vpf (Oq Va (KS ?_))))))
  have hq := q4 hrr false (by simp only [sx_valid, h8, h30, hg12, cs4]); subst hq
  exact Kr () rfl (.tmp rfl .nil) [] trivial
 intro h8
 have g42 := ne_of_beq_false h8
 refine KS ?_
 refine Oq Veql (Oq Va (KS ?_))
 refine Kc ?_ ?_
 ·intro h43
  have g44 := eq_of_beq h43
  refine Ke ?_
  refine KS ?_
  refine Oq Vm (Oq Vmax (Oq Va (KS ?_)))
  refine Ke ?_
  refine KS ?_
  refine JK_drawK [0, 1, 3, 0, 8, 31, 63] fmix ?_
  refine Dv [0] (Vfa fo59_2 0) (Dv [0] (VldF sh51 0) ?_)
  refine letv (sc_Clone_string s.Uses) fun rv46 hg47 => ?_
  refine Dx [1] [] [2, 0, 1] (fun G => (G.g 2 0)) [fun G => SP.fact ((rv46.length = s.Uses.length)), fun G => os (G.g 2 0) rv46] (fun G => xC [0] ca132 (fn132 s.Uses sa2 sk2 rv46 hg47)) (Dv [0] (Vfa fo59_3 0) (Dv [0] (VldF sh51 0) ?_))
  have hn49 := la rv46 s.Targets
  refine Dx [2, 5, 6] [6] [1, 2, 0] (fun G => (G.g 5 0)) [fun G => os (G.g 5 0) (rv46 ++ s.Targets)] (fun G => by refine xf 1 rfl ?_; rintro he50; exact xA (Ap [2, 0] sl51 sl51 sz51)) (Dg [] (fun G => (G.g 5 0)) (fun G => Va) ?_)
  refine Dn ⟨by kernel_rfl, fun G => ?_⟩
  refine Jw2 [(1, p7), (3, vi 0), (5, vi 0), (4, vi (max (s.Uses.length : Int) 1)), (6, (G.g 5 0))] [0, 1, 2, 3, 4] [SP.fact ((rv46.length = s.Uses.length)), os (G.g 5 0) (rv46 ++ s.Targets)] ?_
  generalize G.g 5 0 = c48
  refine Jf 5 rfl ?_; rintro he51
  refine Jk [0, 1, 2, 3, 4, 6] ?_
  refine Jo 5 ?_; rintro a52 k53 rfl
  refine Fb 16 5 fun _ => ?_
  refine FoS 5 fun ho55 => ?_
  refine KS ?_
  refine Oq Vm (Oq Veql (KS ?_))
  refine Kf (KS ?_)
  refine Oq Vm (Oq Veql (Oq Vm (Oq (Vfa fo59_1 0) (Oq (VldF sh9 0) (Oq (VeqS (l := s.Def) (m := (Str.mk []))) (Oq Vpf (Oq Vm ?_)))))))
  refine Js 57 ?_ ?_
  ·intro h56
   have g57 := eq_of_beq h56
   refine Oq (Vfa fo59_2 0) (Oq (VldF sh51 0) (Oq (Vlen sl51) (Oq Vm (Oq Veql (Oq Vpt (Oq Vm ?_))))))
   refine Js 64 ?_ ?_
   ·intro h58
    have g59 := eq_of_beq h58
    refine Oq Vm (Oq Vleq (Oq Vpt (Oq Vm ?_)))
    refine Js 68 ?_ ?_
    ·intro h60
     have g61 := dt h60
     refine Oq (Vfa fo59_3 0) (Oq (VldF sh51 0) (Oq (Vlen sl51) (Oq Vm (Oq Veql (Oq Vpt (Oq Vm ?_))))))
     refine Js 75 ?_ ?_
     ·intro h62
      have g63 := eq_of_beq h62
      refine Oq Vm ?_
      refine Jl [5] (Ent.freeze _ _) ?_
      refine JJ_ent (Ent.pall [4, 5] rfl rfl) ?_
      refine letv (sc_ContainsFunc_string (rv46 ++ s.Targets) (fun x => sx_valid_1 x)) fun rv64 hg65 => ?_
      have hc66 := fn133 ((rv46 ++ s.Targets)) a52 k53 134 [] (fun x => sx_valid_1 x) [pv (gp 0) [vl kwLA kwLK kwL], S kwLA kwLK kwL] ca134 (fun x hx hq0 => FT_pall (A1 := _) (fn134 x  kwLA kwLK hq0 _ rfl)) rv64 hg65
      refine Oc [1, 0] ca133 hc66 ?_
      rintro - -
      refine Oq Vnot (Oq Vpt (Oq Va (KS ?_)))
      have hq := q4 hrr (!rv64) (by simp only [sx_valid, h8, h43, h56, h58, h60, h62, hg47, hg65, cs4]); subst hq
      exact Kr () rfl (.tmp rfl .nil) [] trivial
     intro h62
     have g67 := ne_of_beq_false h62
     refine Osk (Osk (Osk (Oq Vpf (Oq Va (KS ?_)))))
     have hq := q4 hrr false (by simp only [sx_valid, h8, h43, h56, h58, h60, h62, hg47, cs4]); subst hq
     exact Kr () rfl (.tmp rfl .nil) [] trivial
    intro h60
    have g68 := df h60
    refine Osk (Osk (Osk (Osk (Osk (Oq Vpf (Oq Vm (Osk (Osk (Osk ?_)))))))))
    refine Oq Vpf (Oq Va (KS ?_))
    have hq := q4 hrr false (by simp only [sx_valid, h8, h43, h56, h58, h60, hg47, cs4]); subst hq
    exact Kr () rfl (.tmp rfl .nil) [] trivial
   intro h58
   have g69 := ne_of_beq_false h58
   refine Osk (Osk (Oq Vpf (Oq Vm (Osk (Osk (Osk (Osk (Osk (Oq Vpf ?_)))))))))
   refine Oq Vm (Osk (Osk (Osk (Oq Vpf (Oq Va (KS ?_))))))
   have hq := q4 hrr false (by simp only [sx_valid, h8, h43, h56, h58, hg47, cs4]); subst hq
   exact Kr () rfl (.tmp rfl .nil) [] trivial
  intro h56
  have g70 := ne_of_beq_false h56
  refine Osk (Osk (Osk (Osk (Osk (Oq Vpf (Oq Vm (Osk (Osk (Oq Vpf ?_)))))))))
  refine Oq Vm (Osk (Osk (Osk (Osk (Osk (Oq Vpf (Oq Vm (Osk (Osk ?_)))))))))
  refine Osk (Oq Vpf (Oq Va (KS ?_)))
  have hq := q4 hrr false (by simp only [sx_valid, h8, h43, h56, hg47, cs4]); subst hq
  exact Kr () rfl (.tmp rfl .nil) [] trivial
 intro h43
 have g71 := ne_of_beq_false h43
 refine KS ?_
 refine Oq Veql (Oq Va (KS ?_))
 refine Kc ?_ ?_
 ·intro h72
  have g73 := eq_of_beq h72
  refine Ke ?_
  refine KS ?_
  refine Oq Va (KS ?_)
  refine Ke ?_
  refine KS ?_
  refine JK_drawK [0, 1, 3, 0, 8, 31, 63] fmix ?_
  refine Dv [0] (Vfa fo59_2 0) (Dv [0] (VldF sh51 0) ?_)
  refine letv (sc_Clone_string s.Uses) fun rv75 hg76 => ?_
  refine Dx [1] [] [2, 0, 1] (fun G => (G.g 2 0)) [fun G => SP.fact ((rv75.length = s.Uses.length)), fun G => os (G.g 2 0) rv75] (fun G => xC [0] ca132 (fn132 s.Uses sa2 sk2 rv75 hg76)) (Dv [0] (Vfa fo59_3 0) (Dv [0] (VldF sh51 0) ?_))
  have hn78 := la rv75 s.Targets
  refine Dx [2, 5, 6] [6] [1, 2, 0] (fun G => (G.g 5 0)) [fun G => os (G.g 5 0) (rv75 ++ s.Targets)] (fun G => by refine xf 1 rfl ?_; rintro he79; exact xA (Ap [2, 0] sl51 sl51 sz51)) (Dg [] (fun G => (G.g 5 0)) (fun G => Va) ?_)
  refine Dn ⟨by kernel_rfl, fun G => ?_⟩
  refine Jw2 [(1, p7), (3, vi 0), (5, vi 0), (4, vi 1), (6, (G.g 5 0))] [0, 1, 2, 3, 4] [SP.fact ((rv75.length = s.Uses.length)), os (G.g 5 0) (rv75 ++ s.Targets)] ?_
  generalize G.g 5 0 = c77
  refine Jf 5 rfl ?_; rintro he80
  refine Jk [0, 1, 2, 3, 4, 6] ?_
  refine Jo 5 ?_; rintro a81 k82 rfl
  refine Fb 16 5 fun _ => ?_
  refine FoS 5 fun ho84 => ?_
  refine KS ?_
  refine Oq Vm (Oq Veql (KS ?_))
  refine Kf (KS ?_)
  refine Oq Vm (Oq Veql (Oq Vm (Oq (Vfa fo59_1 0) (Oq (VldF sh9 0) (Oq (VeqS (l := s.Def) (m := (Str.mk []))) (Oq Vpf (Oq Vm ?_)))))))
  refine Js 57 ?_ ?_
  ·intro h85
   have g86 := eq_of_beq h85
   refine Oq (Vfa fo59_2 0) (Oq (VldF sh51 0) (Oq (Vlen sl51) (Oq Vm (Oq Veql (Oq Vpt (Oq Vm ?_))))))
   refine Js 64 ?_ ?_
   ·intro h87
    have g88 := eq_of_beq h87
    refine Oq Vm (Oq Vleq (Oq Vpt (Oq Vm (Oq (Vfa fo59_3 0) (Oq (VldF sh51 0) (Oq (Vlen sl51) (Oq Vm (Oq Veql (Oq Vpt ?_)))))))))
    refine Oq Vm ?_
    refine Js 75 ?_ ?_
    ·intro h89
     have g90 := eq_of_beq h89
     refine Oq Vm ?_
     refine Jl [5] (Ent.freeze _ _) ?_
     refine JJ_ent (Ent.pall [4, 5] rfl rfl) ?_
     refine letv (sc_ContainsFunc_string (rv75 ++ s.Targets) (fun x => sx_valid_1 x)) fun rv91 hg92 => ?_
     have hc93 := fn133 ((rv75 ++ s.Targets)) a81 k82 134 [] (fun x => sx_valid_1 x) [pv (gp 0) [vl kwLA kwLK kwL], S kwLA kwLK kwL] ca134 (fun x hx hq0 => FT_pall (A1 := _) (fn134 x  kwLA kwLK hq0 _ rfl)) rv91 hg92
     refine Oc [1, 0] ca133 hc93 ?_
     rintro - -
     refine Oq Vnot (Oq Vpt (Oq Va (KS ?_)))
     have hq := q4 hrr (!rv91) (by simp only [sx_valid, h8, h43, h72, h85, h87, h89, hg76, hg92, cs4]); subst hq
     exact Kr () rfl (.tmp rfl .nil) [] trivial
    intro h89
    have g94 := ne_of_beq_false h89
    refine Osk (Osk (Osk (Oq Vpf (Oq Va (KS ?_)))))
    have hq := q4 hrr false (by simp only [sx_valid, h8, h43, h72, h85, h87, h89, hg76, cs4]); subst hq
    exact Kr () rfl (.tmp rfl .nil) [] trivial
   intro h87
   have g95 := ne_of_beq_false h87
   refine Osk (Osk (Oq Vpf (Oq Vm (Osk (Osk (Osk (Osk (Osk (Oq Vpf ?_)))))))))
   refine Oq Vm (Osk (Osk (Osk (Oq Vpf (Oq Va (KS ?_))))))
   have hq := q4 hrr false (by simp only [sx_valid, h8, h43, h72, h85, h87, hg76, cs4]); subst hq
   exact Kr () rfl (.tmp rfl .nil) [] trivial
  intro h85
  have g96 := ne_of_beq_false h85
  refine Osk (Osk (Osk (Osk (Osk (Oq Vpf (Oq Vm (Osk (Osk (Oq Vpf ?_)))))))))
  refine Oq Vm (Osk (Osk (Osk (Osk (Osk (Oq Vpf (Oq Vm (Osk (Osk ?_)))))))))
  refine Osk (Oq Vpf (Oq Va (KS ?_)))
  have hq := q4 hrr false (by simp only [sx_valid, h8, h43, h72, h85, hg76, cs4]); subst hq
  exact Kr () rfl (.tmp rfl .nil) [] trivial
 intro h72
 have g97 := ne_of_beq_false h72
 refine KS ?_
 refine Oq Veql (Oq Va (KS ?_))
 refine Kc ?_ ?_
 ·intro h98
  have g99 := eq_of_beq h98
  refine KS ?_
  refine Kc ?_ ?_
  ·intro h100
   have g101 := eq_of_beq h100
   refine Ke ?_
   refine KS ?_
   refine Oq Va (KS ?_)
   refine Oq Va (KS ?_)
   refine Ke ?_
   refine KS ?_
   refine JK_drawK [0, 1, 3, 0, 8, 31, 63] fmix ?_
   refine Dv [0] (Vfa fo59_2 0) (Dv [0] (VldF sh51 0) ?_)
   refine letv (sc_Clone_string s.Uses) fun rv103 hg104 => ?_
   refine Dx [1] [] [2, 0, 1] (fun G => (G.g 2 0)) [fun G => SP.fact ((rv103.length = s.Uses.length)), fun G => os (G.g 2 0) rv103] (fun G => xC [0] ca132 (fn132 s.Uses sa2 sk2 rv103 hg104)) (Dv [0] (Vfa fo59_3 0) (Dv [0] (VldF sh51 0) ?_))
   have hn106 := la rv103 s.Targets
   refine Dx [2, 5, 6] [6] [1, 2, 0] (fun G => (G.g 5 0)) [fun G => os (G.g 5 0) (rv103 ++ s.Targets)] (fun G => by refine xf 1 rfl ?_; rintro he107; exact xA (Ap [2, 0] sl51 sl51 sz51)) (Dg [] (fun G => (G.g 5 0)) (fun G => Va) ?_)
   refine Dn ⟨by kernel_rfl, fun G => ?_⟩
   refine Jw2 [(1, p7), (5, vi 0), (3, vi 1), (4, vi 0), (6, (G.g 5 0))] [0, 1, 2, 3, 4] [SP.fact ((rv103.length = s.Uses.length)), os (G.g 5 0) (rv103 ++ s.Targets)] ?_
   generalize G.g 5 0 = c105
   refine Jf 5 rfl ?_; rintro he108
   refine Jk [0, 1, 2, 3, 4, 6] ?_
   refine Jo 5 ?_; rintro a109 k110 rfl
   refine Fb 16 5 fun _ => ?_
   refine FoS 5 fun ho112 => ?_
   refine KS ?_
   refine Oq Vm (Oq Veql (KS ?_))
   refine Kt (KS ?_)
   refine Oq Vm (Oq (Vfa fo59_1 0) (Oq (VldF sh9 0) (Oa (AsV sl51 sz51 [.string (bs s.Def)] [.string (bs s.Def)]) fun c113 => ?_)))
   refine Jo 0 ?_; rintro a114 k115 rfl
   refine Jl [0] (Ent.cr1 (α := Str) (A := []) _ s.Def _ aB1 (fun _ => ⟨rfl, aS1⟩)) ?_
   refine Oa (ApO [6, 0] sl51 sl51 sz51) fun c116 => ?_
   refine Jo 0 ?_; rintro a117 k118 rfl
   refine Fb 16 0 fun _ => ?_
   refine FoS 0 fun ho120 => ?_
   have hn121 := la (rv103 ++ s.Targets) ([s.Def] : List Str)
   refine Oq Va (KS ?_)
   refine Oq Vm (Oq Veql (Oq Vm (Osk (Osk (Osk (Oq Vpt (Oq Vm (Oq (Vfa fo59_2 1) (Oq (VldF sh51 1) ?_)))))))))
   refine Oq (Vlen sl51) (Oq Vm (Oq Veql (Oq Vpt (Oq Vm ?_))))
   refine Js 64 ?_ ?_
   ·intro h122
    have g123 := eq_of_beq h122
    refine Oq Vm (Oq Vleq (Oq Vpt (Oq Vm (Oq (Vfa fo59_3 1) (Oq (VldF sh51 1) (Oq (Vlen sl51) (Oq Vm (Oq Veql (Oq Vpt ?_)))))))))
    refine Oq Vm ?_
    refine Js 75 ?_ ?_
    ·intro h124
     have g125 := eq_of_beq h124
     refine Oq Vm ?_
     refine Jl [0] (Ent.freeze _ _) ?_
     refine JJ_ent (Ent.pall [4, 5] rfl rfl) ?_
     refine letv (sc_ContainsFunc_string ((rv103 ++ s.Targets) ++ [s.Def]) (fun x => sx_valid_1 x)) fun rv126 hg127 => ?_
     have hc128 := fn133 (((rv103 ++ s.Targets) ++ [s.Def])) a117 k118 134 [] (fun x => sx_valid_1 x) [pv (gp 0) [vl kwLA kwLK kwL], S kwLA kwLK kwL] ca134 (fun x hx hq0 => FT_pall (A1 := _) (fn134 x  kwLA kwLK hq0 _ rfl)) rv126 hg127
     refine Oc [1, 0] ca133 hc128 ?_
     rintro - -
     refine Oq Vnot (Oq Vpt (Oq Va (KS ?_)))
     have hq := q4 hrr (!rv126) (by simp only [sx_valid, h8, h43, h72, h98, h100, h122, h124, hg104, hg127, cs4]); subst hq
     exact Kr () rfl (.tmp rfl .nil) [] trivial
    intro h124
    have g129 := ne_of_beq_false h124
    refine Osk (Osk (Osk (Oq Vpf (Oq Va (KS ?_)))))
    have hq := q4 hrr false (by simp only [sx_valid, h8, h43, h72, h98, h100, h122, h124, hg104, cs4]); subst hq
    exact Kr () rfl (.tmp rfl .nil) [] trivial
   intro h122
   have g130 := ne_of_beq_false h122
   refine Osk (Osk (Oq Vpf (Oq Vm (Osk (Osk (Osk (Osk (Osk (Oq Vpf ?_)))))))))
   refine Oq Vm (Osk (Osk (Osk (Oq Vpf (Oq Va (KS ?_))))))
   have hq := q4 hrr false (by simp only [sx_valid, h8, h43, h72, h98, h100, h122, hg104, cs4]); subst hq
   exact Kr () rfl (.tmp rfl .nil) [] trivial
  intro h100
  exact absurd h100 (by first | (simp [h98]; done) | (simp only [bne, h98]; decide) | (simp only [bne, h98, Bool.not_true, Bool.not_false]; decide) | (exfalso; omega) | (intro hq; simp only [bne, hq, Bool.not_false, Bool.not_true, reduceCtorEq] at h98))
 intro h98
 have g131 := ne_of_beq_false h98
 refine KS ?_
 refine Oq Veql (Oq Va (KS ?_))
 refine Kc ?_ ?_
 ·intro h132
  have g133 := eq_of_beq h132
  refine Ke ?_
  refine KS ?_
  refine Oq Va (KS ?_)
  refine Oq Va (KS ?_)
  refine Ke ?_
  refine KS ?_
  refine JK_drawK [0, 1, 3, 0, 8, 31, 63] fmix ?_
  refine Dv [0] (Vfa fo59_2 0) (Dv [0] (VldF sh51 0) ?_)
  refine letv (sc_Clone_string s.Uses) fun rv135 hg136 => ?_
  refine Dx [1] [] [2, 0, 1] (fun G => (G.g 2 0)) [fun G => SP.fact ((rv135.length = s.Uses.length)), fun G => os (G.g 2 0) rv135] (fun G => xC [0] ca132 (fn132 s.Uses sa2 sk2 rv135 hg136)) (Dv [0] (Vfa fo59_3 0) (Dv [0] (VldF sh51 0) ?_))
  have hn138 := la rv135 s.Targets
  refine Dx [2, 5, 6] [6] [1, 2, 0] (fun G => (G.g 5 0)) [fun G => os (G.g 5 0) (rv135 ++ s.Targets)] (fun G => by refine xf 1 rfl ?_; rintro he139; exact xA (Ap [2, 0] sl51 sl51 sz51)) (Dg [] (fun G => (G.g 5 0)) (fun G => Va) ?_)
  refine Dn ⟨by kernel_rfl, fun G => ?_⟩
  refine Jw2 [(1, p7), (5, vi 0), (3, vi 1), (4, vi 0), (6, (G.g 5 0))] [0, 1, 2, 3, 4] [SP.fact ((rv135.length = s.Uses.length)), os (G.g 5 0) (rv135 ++ s.Targets)] ?_
  generalize G.g 5 0 = c137
  refine Jf 5 rfl ?_; rintro he140
  refine Jk [0, 1, 2, 3, 4, 6] ?_
  refine Jo 5 ?_; rintro a141 k142 rfl
  refine Fb 16 5 fun _ => ?_
  refine FoS 5 fun ho144 => ?_
  refine KS ?_
  refine Oq Vm (Oq Veql (KS ?_))
  refine Kt (KS ?_)
  refine Oq Vm (Oq (Vfa fo59_1 0) (Oq (VldF sh9 0) (Oa (AsV sl51 sz51 [.string (bs s.Def)] [.string (bs s.Def)]) fun c145 => ?_)))
  refine Jo 0 ?_; rintro a146 k147 rfl
  refine Jl [0] (Ent.cr1 (α := Str) (A := []) _ s.Def _ aB1 (fun _ => ⟨rfl, aS1⟩)) ?_
  refine Oa (ApO [6, 0] sl51 sl51 sz51) fun c148 => ?_
  refine Jo 0 ?_; rintro a149 k150 rfl
  refine Fb 16 0 fun _ => ?_
  refine FoS 0 fun ho152 => ?_
  have hn153 := la (rv135 ++ s.Targets) ([s.Def] : List Str)
  refine Oq Va (KS ?_)
  refine Oq Vm (Oq Veql (Oq Vm (Osk (Osk (Osk (Oq Vpt (Oq Vm (Oq (Vfa fo59_2 1) (Oq (VldF sh51 1) ?_)))))))))
  refine Oq (Vlen sl51) (Oq Vm (Oq Veql (Oq Vpt (Oq Vm ?_))))
  refine Js 64 ?_ ?_
  ·intro h154
   have g155 := eq_of_beq h154
   refine Oq Vm (Oq Vleq (Oq Vpt (Oq Vm (Oq (Vfa fo59_3 1) (Oq (VldF sh51 1) (Oq (Vlen sl51) (Oq Vm (Oq Veql (Oq Vpt ?_)))))))))
   refine Oq Vm ?_
   refine Js 75 ?_ ?_
   ·intro h156
    have g157 := eq_of_beq h156
    refine Oq Vm ?_
    refine Jl [0] (Ent.freeze _ _) ?_
    refine JJ_ent (Ent.pall [4, 5] rfl rfl) ?_
    refine letv (sc_ContainsFunc_string ((rv135 ++ s.Targets) ++ [s.Def]) (fun x => sx_valid_1 x)) fun rv158 hg159 => ?_
    have hc160 := fn133 (((rv135 ++ s.Targets) ++ [s.Def])) a149 k150 134 [] (fun x => sx_valid_1 x) [pv (gp 0) [vl kwLA kwLK kwL], S kwLA kwLK kwL] ca134 (fun x hx hq0 => FT_pall (A1 := _) (fn134 x  kwLA kwLK hq0 _ rfl)) rv158 hg159
    refine Oc [1, 0] ca133 hc160 ?_
    rintro - -
    refine Oq Vnot (Oq Vpt (Oq Va (KS ?_)))
    have hq := q4 hrr (!rv158) (by simp only [sx_valid, h8, h43, h72, h98, h132, h154, h156, hg136, hg159, cs4]); subst hq
    exact Kr () rfl (.tmp rfl .nil) [] trivial
   intro h156
   have g161 := ne_of_beq_false h156
   refine Osk (Osk (Osk (Oq Vpf (Oq Va (KS ?_)))))
   have hq := q4 hrr false (by simp only [sx_valid, h8, h43, h72, h98, h132, h154, h156, hg136, cs4]); subst hq
   exact Kr () rfl (.tmp rfl .nil) [] trivial
  intro h154
  have g162 := ne_of_beq_false h154
  refine Osk (Osk (Oq Vpf (Oq Vm (Osk (Osk (Osk (Osk (Osk (Oq Vpf ?_)))))))))
  refine Oq Vm (Osk (Osk (Osk (Oq Vpf (Oq Va (KS ?_))))))
  have hq := q4 hrr false (by simp only [sx_valid, h8, h43, h72, h98, h132, h154, hg136, cs4]); subst hq
  exact Kr () rfl (.tmp rfl .nil) [] trivial
 intro h132
 have g163 := ne_of_beq_false h132
 refine KS ?_
 refine Oq Veql (Oq Va (KS ?_))
 refine Kc ?_ ?_
 ·intro h164
  have g165 := eq_of_beq h164
  refine Ke ?_
  refine KS ?_
  refine Oq Va (KS ?_)
  refine Oq Vm (Oq Vadd (Oq Va (KS ?_)))
  refine Oq Vm (Oq Vadd (Oq Va (KS ?_)))
  refine Oq (Vfa fo59_0 0) (Oq (VldF sh3 0) (Oq Vneq (KS ?_)))
  refine Kc ?_ ?_
  ·intro h166
   exact absurd h166 (by first | (simp [h164]; done) | (simp only [bne, h164]; decide) | (simp only [bne, h164, Bool.not_true, Bool.not_false]; decide) | (exfalso; omega) | (intro hq; simp only [bne, hq, Bool.not_false, Bool.not_true, reduceCtorEq] at h164))
  intro h166
  have g167 := eq_of_bne_false h166
  refine KS ?_
  refine Ke ?_
  refine KS ?_
  refine JK_drawK [0, 1, 3, 0, 8, 31, 63] fmix ?_
  refine Dv [0] (Vfa fo59_2 0) (Dv [0] (VldF sh51 0) ?_)
  refine letv (sc_Clone_string s.Uses) fun rv169 hg170 => ?_
  refine Dx [1] [] [2, 0, 1] (fun G => (G.g 2 0)) [fun G => SP.fact ((rv169.length = s.Uses.length)), fun G => os (G.g 2 0) rv169] (fun G => xC [0] ca132 (fn132 s.Uses sa2 sk2 rv169 hg170)) (Dv [0] (Vfa fo59_3 0) (Dv [0] (VldF sh51 0) ?_))
  have hn172 := la rv169 s.Targets
  refine Dx [2, 5, 6] [6] [1, 2, 0] (fun G => (G.g 5 0)) [fun G => os (G.g 5 0) (rv169 ++ s.Targets)] (fun G => by refine xf 1 rfl ?_; rintro he173; exact xA (Ap [2, 0] sl51 sl51 sz51)) (Dg [] (fun G => (G.g 5 0)) (fun G => Va) ?_)
  refine Dn ⟨by kernel_rfl, fun G => ?_⟩
  refine Jw2 [(1, p7), (3, vi 0), (4, vi 1), (5, vi ((0 + 1) + 1)), (6, (G.g 5 0))] [0, 1, 2, 3, 4] [SP.fact ((rv169.length = s.Uses.length)), os (G.g 5 0) (rv169 ++ s.Targets)] ?_
  generalize G.g 5 0 = c171
  refine Jf 5 rfl ?_; rintro he174
  refine Jk [0, 1, 2, 3, 4, 6] ?_
  refine Jo 5 ?_; rintro a175 k176 rfl
  refine Fb 16 5 fun _ => ?_
  refine FoS 5 fun ho178 => ?_
  refine KS ?_
  refine Oq Vm (Oq Veql (KS ?_))
  refine Kf (KS ?_)
  refine Oq Vm (Oq Veql (Oq Vm (Oq (Vfa fo59_1 0) (Oq (VldF sh9 0) (Oq (VeqS (l := s.Def) (m := (Str.mk []))) (Oq Vpf (Oq Vm ?_)))))))
  refine Js 57 ?_ ?_
  ·intro h179
   have g180 := eq_of_beq h179
   refine Oq (Vfa fo59_2 0) (Oq (VldF sh51 0) (Oq (Vlen sl51) (Oq Vm (Oq Veql (Oq Vpt (Oq Vm ?_))))))
   refine Js 64 ?_ ?_
   ·intro h181
    have g182 := eq_of_beq h181
    refine Oq Vm (Oq Vleq (Oq Vpt (Oq Vm (Oq (Vfa fo59_3 0) (Oq (VldF sh51 0) (Oq (Vlen sl51) (Oq Vm (Oq Veql (Oq Vpt ?_)))))))))
    refine Oq Vm ?_
    refine Js 75 ?_ ?_
    ·intro h183
     have g184 := eq_of_beq h183
     refine Oq Vm ?_
     refine Jl [5] (Ent.freeze _ _) ?_
     refine JJ_ent (Ent.pall [4, 5] rfl rfl) ?_
     refine letv (sc_ContainsFunc_string (rv169 ++ s.Targets) (fun x => sx_valid_1 x)) fun rv185 hg186 => ?_
     have hc187 := fn133 ((rv169 ++ s.Targets)) a175 k176 134 [] (fun x => sx_valid_1 x) [pv (gp 0) [vl kwLA kwLK kwL], S kwLA kwLK kwL] ca134 (fun x hx hq0 => FT_pall (A1 := _) (fn134 x  kwLA kwLK hq0 _ rfl)) rv185 hg186
     refine Oc [1, 0] ca133 hc187 ?_
     rintro - -
     refine Oq Vnot (Oq Vpt (Oq Va (KS ?_)))
     have hq := q4 hrr (!rv185) (by simp only [sx_valid, h8, h43, h72, h98, h132, h164, h166, h179, h181, h183, hg170, hg186, cs4]); subst hq
     exact Kr () rfl (.tmp rfl .nil) [] trivial
    intro h183
    have g188 := ne_of_beq_false h183
    refine Osk (Osk (Osk (Oq Vpf (Oq Va (KS ?_)))))
    have hq := q4 hrr false (by simp only [sx_valid, h8, h43, h72, h98, h132, h164, h166, h179, h181, h183, hg170, cs4]); subst hq
    exact Kr () rfl (.tmp rfl .nil) [] trivial
   intro h181
   have g189 := ne_of_beq_false h181
   refine Osk (Osk (Oq Vpf (Oq Vm (Osk (Osk (Osk (Osk (Osk (Oq Vpf ?_)))))))))
   refine Oq Vm (Osk (Osk (Osk (Oq Vpf (Oq Va (KS ?_))))))
   have hq := q4 hrr false (by simp only [sx_valid, h8, h43, h72, h98, h132, h164, h166, h179, h181, hg170, cs4]); subst hq
   exact Kr () rfl (.tmp rfl .nil) [] trivial
  intro h179
  have g190 := ne_of_beq_false h179
  refine Osk (Osk (Osk (Osk (Osk (Oq Vpf (Oq Vm (Osk (Osk (Oq Vpf ?_)))))))))
  refine Oq Vm (Osk (Osk (Osk (Osk (Osk (Oq Vpf (Oq Vm (Osk (Osk ?_)))))))))
  refine Osk (Oq Vpf (Oq Va (KS ?_)))
  have hq := q4 hrr false (by simp only [sx_valid, h8, h43, h72, h98, h132, h164, h166, h179, hg170, cs4]); subst hq
  exact Kr () rfl (.tmp rfl .nil) [] trivial
 intro h164
 have g191 := ne_of_beq_false h164
 refine KS ?_
 refine Oq Veql (Oq Va (KS ?_))
 refine Kc ?_ ?_
 ·intro h192
  have g193 := eq_of_beq h192
  refine KS ?_
  refine Kc ?_ ?_
  ·intro h194
   have g195 := eq_of_beq h194
   refine Ke ?_
   refine KS ?_
   refine Oq Vm (Oq Vadd (Oq Va (KS ?_)))
   refine Oq (Vfa fo59_0 0) (Oq (VldF sh3 0) (Oq Vneq (KS ?_)))
   refine Kc ?_ ?_
   ·intro h196
    have g197 := ne_of_bne h196
    refine KS ?_
    refine Oq Va (KS ?_)
    refine Ke ?_
    refine KS ?_
    refine JK_drawK [0, 1, 3, 0, 8, 31, 63] fmix ?_
    refine Dv [0] (Vfa fo59_2 0) (Dv [0] (VldF sh51 0) ?_)
    refine letv (sc_Clone_string s.Uses) fun rv199 hg200 => ?_
    refine Dx [1] [] [2, 0, 1] (fun G => (G.g 2 0)) [fun G => SP.fact ((rv199.length = s.Uses.length)), fun G => os (G.g 2 0) rv199] (fun G => xC [0] ca132 (fn132 s.Uses sa2 sk2 rv199 hg200)) (Dv [0] (Vfa fo59_3 0) (Dv [0] (VldF sh51 0) ?_))
    have hn202 := la rv199 s.Targets
    refine Dx [2, 5, 6] [6] [1, 2, 0] (fun G => (G.g 5 0)) [fun G => os (G.g 5 0) (rv199 ++ s.Targets)] (fun G => by refine xf 1 rfl ?_; rintro he203; exact xA (Ap [2, 0] sl51 sl51 sz51)) (Dg [] (fun G => (G.g 5 0)) (fun G => Va) ?_)
    refine Dn ⟨by kernel_rfl, fun G => ?_⟩
    refine Jw2 [(1, p7), (3, vi 0), (5, vi (0 + 1)), (4, vi 0), (6, (G.g 5 0))] [0, 1, 2, 3, 4] [SP.fact ((rv199.length = s.Uses.length)), os (G.g 5 0) (rv199 ++ s.Targets)] ?_
    generalize G.g 5 0 = c201
    refine Jf 5 rfl ?_; rintro he204
    refine Jk [0, 1, 2, 3, 4, 6] ?_
    refine Jo 5 ?_; rintro a205 k206 rfl
    refine Fb 16 5 fun _ => ?_
    refine FoS 5 fun ho208 => ?_
    refine KS ?_
    refine Oq Vm (Oq Veql (KS ?_))
    refine Kf (KS ?_)
    refine Oq Vm (Oq Veql (Oq Vm (Oq (Vfa fo59_1 0) (Oq (VldF sh9 0) (Oq (VeqS (l := s.Def) (m := (Str.mk []))) (Oq Vpf (Oq Vm ?_)))))))
    refine Js 57 ?_ ?_
    ·intro h209
     have g210 := eq_of_beq h209
     refine Oq (Vfa fo59_2 0) (Oq (VldF sh51 0) (Oq (Vlen sl51) (Oq Vm (Oq Veql (Oq Vpt (Oq Vm ?_))))))
     refine Js 64 ?_ ?_
     ·intro h211
      have g212 := eq_of_beq h211
      refine Oq Vm (Oq Vleq (Oq Vpt (Oq Vm (Oq (Vfa fo59_3 0) (Oq (VldF sh51 0) (Oq (Vlen sl51) (Oq Vm (Oq Veql (Oq Vpt ?_)))))))))
      refine Oq Vm ?_
      refine Js 75 ?_ ?_
      ·intro h213
       have g214 := eq_of_beq h213
       refine Oq Vm ?_
       refine Jl [5] (Ent.freeze _ _) ?_
       refine JJ_ent (Ent.pall [4, 5] rfl rfl) ?_
       refine letv (sc_ContainsFunc_string (rv199 ++ s.Targets) (fun x => sx_valid_1 x)) fun rv215 hg216 => ?_
       have hc217 := fn133 ((rv199 ++ s.Targets)) a205 k206 134 [] (fun x => sx_valid_1 x) [pv (gp 0) [vl kwLA kwLK kwL], S kwLA kwLK kwL] ca134 (fun x hx hq0 => FT_pall (A1 := _) (fn134 x  kwLA kwLK hq0 _ rfl)) rv215 hg216
       refine Oc [1, 0] ca133 hc217 ?_
       rintro - -
       refine Oq Vnot (Oq Vpt (Oq Va (KS ?_)))
       have hq := q4 hrr (!rv215) (by simp only [sx_valid, h8, h43, h72, h98, h132, h164, h192, h194, h196, h209, h211, h213, hg200, hg216, cs4]); subst hq
       exact Kr () rfl (.tmp rfl .nil) [] trivial
      intro h213
      have g218 := ne_of_beq_false h213
      refine Osk (Osk (Osk (Oq Vpf (Oq Va (KS ?_)))))
      have hq := q4 hrr false (by simp only [sx_valid, h8, h43, h72, h98, h132, h164, h192, h194, h196, h209, h211, h213, hg200, cs4]); subst hq
      exact Kr () rfl (.tmp rfl .nil) [] trivial
     intro h211
     have g219 := ne_of_beq_false h211
     refine Osk (Osk (Oq Vpf (Oq Vm (Osk (Osk (Osk (Osk (Osk (Oq Vpf ?_)))))))))
     refine Oq Vm (Osk (Osk (Osk (Oq Vpf (Oq Va (KS ?_))))))
     have hq := q4 hrr false (by simp only [sx_valid, h8, h43, h72, h98, h132, h164, h192, h194, h196, h209, h211, hg200, cs4]); subst hq
     exact Kr () rfl (.tmp rfl .nil) [] trivial
    intro h209
    have g220 := ne_of_beq_false h209
    refine Osk (Osk (Osk (Osk (Osk (Oq Vpf (Oq Vm (Osk (Osk (Oq Vpf ?_)))))))))
    refine Oq Vm (Osk (Osk (Osk (Osk (Osk (Oq Vpf (Oq Vm (Osk (Osk ?_)))))))))
    refine Osk (Oq Vpf (Oq Va (KS ?_)))
    have hq := q4 hrr false (by simp only [sx_valid, h8, h43, h72, h98, h132, h164, h192, h194, h196, h209, hg200, cs4]); subst hq
    exact Kr () rfl (.tmp rfl .nil) [] trivial
   intro h196
   exact absurd h196 (by first | (simp [h164]; done) | (simp only [bne, h164]; decide) | (simp only [bne, h164, Bool.not_true, Bool.not_false]; decide) | (exfalso; omega) | (intro hq; simp only [bne, hq, Bool.not_false, Bool.not_true, reduceCtorEq] at h164))
  intro h194
  exact absurd h194 (by first | (simp [h192]; done) | (simp only [bne, h192]; decide) | (simp only [bne, h192, Bool.not_true, Bool.not_false]; decide) | (exfalso; omega) | (intro hq; simp only [bne, hq, Bool.not_false, Bool.not_true, reduceCtorEq] at h192))
 intro h192
 have g221 := ne_of_beq_false h192
 refine KS ?_
 refine Oq Veql (Oq Va (KS ?_))
 refine Kc ?_ ?_
 ·intro h222
  have g223 := eq_of_beq h222
  refine Ke ?_
  refine KS ?_
  refine Oq Vm (Oq Vadd (Oq Va (KS ?_)))
  refine Oq (Vfa fo59_0 0) (Oq (VldF sh3 0) (Oq Vneq (KS ?_)))
  refine Kc ?_ ?_
  ·intro h224
   have g225 := ne_of_bne h224
   refine KS ?_
   refine Oq Va (KS ?_)
   refine Ke ?_
   refine KS ?_
   refine JK_drawK [0, 1, 3, 0, 8, 31, 63] fmix ?_
   refine Dv [0] (Vfa fo59_2 0) (Dv [0] (VldF sh51 0) ?_)
   refine letv (sc_Clone_string s.Uses) fun rv227 hg228 => ?_
   refine Dx [1] [] [2, 0, 1] (fun G => (G.g 2 0)) [fun G => SP.fact ((rv227.length = s.Uses.length)), fun G => os (G.g 2 0) rv227] (fun G => xC [0] ca132 (fn132 s.Uses sa2 sk2 rv227 hg228)) (Dv [0] (Vfa fo59_3 0) (Dv [0] (VldF sh51 0) ?_))
   have hn230 := la rv227 s.Targets
   refine Dx [2, 5, 6] [6] [1, 2, 0] (fun G => (G.g 5 0)) [fun G => os (G.g 5 0) (rv227 ++ s.Targets)] (fun G => by refine xf 1 rfl ?_; rintro he231; exact xA (Ap [2, 0] sl51 sl51 sz51)) (Dg [] (fun G => (G.g 5 0)) (fun G => Va) ?_)
   refine Dn ⟨by kernel_rfl, fun G => ?_⟩
   refine Jw2 [(1, p7), (3, vi 0), (5, vi (0 + 1)), (4, vi 0), (6, (G.g 5 0))] [0, 1, 2, 3, 4] [SP.fact ((rv227.length = s.Uses.length)), os (G.g 5 0) (rv227 ++ s.Targets)] ?_
   generalize G.g 5 0 = c229
   refine Jf 5 rfl ?_; rintro he232
   refine Jk [0, 1, 2, 3, 4, 6] ?_
   refine Jo 5 ?_; rintro a233 k234 rfl
   refine Fb 16 5 fun _ => ?_
   refine FoS 5 fun ho236 => ?_
   refine KS ?_
   refine Oq Vm (Oq Veql (KS ?_))
   refine Kf (KS ?_)
   refine Oq Vm (Oq Veql (Oq Vm (Oq (Vfa fo59_1 0) (Oq (VldF sh9 0) (Oq (VeqS (l := s.Def) (m := (Str.mk []))) (Oq Vpf (Oq Vm ?_)))))))
   refine Js 57 ?_ ?_
   ·intro h237
    have g238 := eq_of_beq h237
    refine Oq (Vfa fo59_2 0) (Oq (VldF sh51 0) (Oq (Vlen sl51) (Oq Vm (Oq Veql (Oq Vpt (Oq Vm ?_))))))
    refine Js 64 ?_ ?_
    ·intro h239
     have g240 := eq_of_beq h239
     refine Oq Vm (Oq Vleq (Oq Vpt (Oq Vm (Oq (Vfa fo59_3 0) (Oq (VldF sh51 0) (Oq (Vlen sl51) (Oq Vm (Oq Veql (Oq Vpt ?_)))))))))
     refine Oq Vm ?_
     refine Js 75 ?_ ?_
     ·intro h241
      have g242 := eq_of_beq h241
      refine Oq Vm ?_
      refine Jl [5] (Ent.freeze _ _) ?_
      refine JJ_ent (Ent.pall [4, 5] rfl rfl) ?_
      refine letv (sc_ContainsFunc_string (rv227 ++ s.Targets) (fun x => sx_valid_1 x)) fun rv243 hg244 => ?_
      have hc245 := fn133 ((rv227 ++ s.Targets)) a233 k234 134 [] (fun x => sx_valid_1 x) [pv (gp 0) [vl kwLA kwLK kwL], S kwLA kwLK kwL] ca134 (fun x hx hq0 => FT_pall (A1 := _) (fn134 x  kwLA kwLK hq0 _ rfl)) rv243 hg244
      refine Oc [1, 0] ca133 hc245 ?_
      rintro - -
      refine Oq Vnot (Oq Vpt (Oq Va (KS ?_)))
      have hq := q4 hrr (!rv243) (by simp only [sx_valid, h8, h43, h72, h98, h132, h164, h192, h222, h224, h237, h239, h241, hg228, hg244, cs4]); subst hq
      exact Kr () rfl (.tmp rfl .nil) [] trivial
     intro h241
     have g246 := ne_of_beq_false h241
     refine Osk (Osk (Osk (Oq Vpf (Oq Va (KS ?_)))))
     have hq := q4 hrr false (by simp only [sx_valid, h8, h43, h72, h98, h132, h164, h192, h222, h224, h237, h239, h241, hg228, cs4]); subst hq
     exact Kr () rfl (.tmp rfl .nil) [] trivial
    intro h239
    have g247 := ne_of_beq_false h239
    refine Osk (Osk (Oq Vpf (Oq Vm (Osk (Osk (Osk (Osk (Osk (Oq Vpf ?_)))))))))
    refine Oq Vm (Osk (Osk (Osk (Oq Vpf (Oq Va (KS ?_))))))
    have hq := q4 hrr false (by simp only [sx_valid, h8, h43, h72, h98, h132, h164, h192, h222, h224, h237, h239, hg228, cs4]); subst hq
    exact Kr () rfl (.tmp rfl .nil) [] trivial
   intro h237
   have g248 := ne_of_beq_false h237
   refine Osk (Osk (Osk (Osk (Osk (Oq Vpf (Oq Vm (Osk (Osk (Oq Vpf ?_)))))))))
   refine Oq Vm (Osk (Osk (Osk (Osk (Osk (Oq Vpf (Oq Vm (Osk (Osk ?_)))))))))
   refine Osk (Oq Vpf (Oq Va (KS ?_)))
   have hq := q4 hrr false (by simp only [sx_valid, h8, h43, h72, h98, h132, h164, h192, h222, h224, h237, hg228, cs4]); subst hq
   exact Kr () rfl (.tmp rfl .nil) [] trivial
  intro h224
  exact absurd h224 (by first | (simp [h164]; done) | (simp only [bne, h164]; decide) | (simp only [bne, h164, Bool.not_true, Bool.not_false]; decide) | (exfalso; omega) | (intro hq; simp only [bne, hq, Bool.not_false, Bool.not_true, reduceCtorEq] at h164))
 intro h222
 have g249 := ne_of_beq_false h222
 refine KS ?_
 refine Oq Veql (Oq Va (KS ?_))
 refine Kc ?_ ?_
 ·intro h250
  have g251 := eq_of_beq h250
  refine Ke ?_
  refine KS ?_
  refine Oq Va (KS ?_)
  refine Ke ?_
  refine KS ?_
  refine JK_drawK [0, 1, 3, 0, 8, 31, 63] fmix ?_
  refine Dv [0] (Vfa fo59_2 0) (Dv [0] (VldF sh51 0) ?_)
  refine letv (sc_Clone_string s.Uses) fun rv253 hg254 => ?_
  refine Dx [1] [] [2, 0, 1] (fun G => (G.g 2 0)) [fun G => SP.fact ((rv253.length = s.Uses.length)), fun G => os (G.g 2 0) rv253] (fun G => xC [0] ca132 (fn132 s.Uses sa2 sk2 rv253 hg254)) (Dv [0] (Vfa fo59_3 0) (Dv [0] (VldF sh51 0) ?_))
  have hn256 := la rv253 s.Targets
  refine Dx [2, 5, 6] [6] [1, 2, 0] (fun G => (G.g 5 0)) [fun G => os (G.g 5 0) (rv253 ++ s.Targets)] (fun G => by refine xf 1 rfl ?_; rintro he257; exact xA (Ap [2, 0] sl51 sl51 sz51)) (Dg [] (fun G => (G.g 5 0)) (fun G => Va) ?_)
  refine Dn ⟨by kernel_rfl, fun G => ?_⟩
  refine Jw2 [(1, p7), (3, vi 0), (5, vi 0), (4, vi 0), (6, (G.g 5 0))] [0, 1, 2, 3, 4] [SP.fact ((rv253.length = s.Uses.length)), os (G.g 5 0) (rv253 ++ s.Targets)] ?_
  generalize G.g 5 0 = c255
  refine Jf 5 rfl ?_; rintro he258
  refine Jk [0, 1, 2, 3, 4, 6] ?_
  refine Jo 5 ?_; rintro a259 k260 rfl
  refine Fb 16 5 fun _ => ?_
  refine FoS 5 fun ho262 => ?_
  refine KS ?_
  refine Oq Vm (Oq Veql (KS ?_))
  refine Kf (KS ?_)
  refine Oq Vm (Oq Veql (Oq Vm (Oq (Vfa fo59_1 0) (Oq (VldF sh9 0) (Oq (VeqS (l := s.Def) (m := (Str.mk []))) (Oq Vpf (Oq Vm ?_)))))))
  refine Js 57 ?_ ?_
  ·intro h263
   have g264 := eq_of_beq h263
   refine Oq (Vfa fo59_2 0) (Oq (VldF sh51 0) (Oq (Vlen sl51) (Oq Vm (Oq Veql (Oq Vpt (Oq Vm ?_))))))
   refine Js 64 ?_ ?_
   ·intro h265
    have g266 := eq_of_beq h265
    refine Oq Vm (Oq Vleq (Oq Vpt (Oq Vm (Oq (Vfa fo59_3 0) (Oq (VldF sh51 0) (Oq (Vlen sl51) (Oq Vm (Oq Veql (Oq Vpt ?_)))))))))
    refine Oq Vm ?_
    refine Js 75 ?_ ?_
    ·intro h267
     have g268 := eq_of_beq h267
     refine Oq Vm ?_
     refine Jl [5] (Ent.freeze _ _) ?_
     refine JJ_ent (Ent.pall [4, 5] rfl rfl) ?_
     refine letv (sc_ContainsFunc_string (rv253 ++ s.Targets) (fun x => sx_valid_1 x)) fun rv269 hg270 => ?_
     have hc271 := fn133 ((rv253 ++ s.Targets)) a259 k260 134 [] (fun x => sx_valid_1 x) [pv (gp 0) [vl kwLA kwLK kwL], S kwLA kwLK kwL] ca134 (fun x hx hq0 => FT_pall (A1 := _) (fn134 x  kwLA kwLK hq0 _ rfl)) rv269 hg270
     refine Oc [1, 0] ca133 hc271 ?_
     rintro - -
     refine Oq Vnot (Oq Vpt (Oq Va (KS ?_)))
     have hq := q4 hrr (!rv269) (by simp only [sx_valid, h8, h43, h72, h98, h132, h164, h192, h222, h250, h263, h265, h267, hg254, hg270, cs4]); subst hq
     exact Kr () rfl (.tmp rfl .nil) [] trivial
    intro h267
    have g272 := ne_of_beq_false h267
    refine Osk (Osk (Osk (Oq Vpf (Oq Va (KS ?_)))))
    have hq := q4 hrr false (by simp only [sx_valid, h8, h43, h72, h98, h132, h164, h192, h222, h250, h263, h265, h267, hg254, cs4]); subst hq
    exact Kr () rfl (.tmp rfl .nil) [] trivial
   intro h265
   have g273 := ne_of_beq_false h265
   refine Osk (Osk (Oq Vpf (Oq Vm (Osk (Osk (Osk (Osk (Osk (Oq Vpf ?_)))))))))
   refine Oq Vm (Osk (Osk (Osk (Oq Vpf (Oq Va (KS ?_))))))
   have hq := q4 hrr false (by simp only [sx_valid, h8, h43, h72, h98, h132, h164, h192, h222, h250, h263, h265, hg254, cs4]); subst hq
   exact Kr () rfl (.tmp rfl .nil) [] trivial
  intro h263
  have g274 := ne_of_beq_false h263
  refine Osk (Osk (Osk (Osk (Osk (Oq Vpf (Oq Vm (Osk (Osk (Oq Vpf ?_)))))))))
  refine Oq Vm (Osk (Osk (Osk (Osk (Osk (Oq Vpf (Oq Vm (Osk (Osk ?_)))))))))
  refine Osk (Oq Vpf (Oq Va (KS ?_)))
  have hq := q4 hrr false (by simp only [sx_valid, h8, h43, h72, h98, h132, h164, h192, h222, h250, h263, hg254, cs4]); subst hq
  exact Kr () rfl (.tmp rfl .nil) [] trivial
 intro h250
 have g275 := ne_of_beq_false h250
 refine KS ?_
 refine Ke ?_
 refine KS ?_
 refine Oq Va (KS ?_)
 have hq := q4 hrr false (by simp only [sx_valid, h8, h43, h72, h98, h132, h164, h192, h222, h250, cs4]); subst hq
 exact Kr () rfl (.tmp rfl .nil) [] trivial
theorem fn103 (s : GStmt) (sa2 : Option Addr) (sk2 : Nat) (sa3 : Option Addr) (sk3 : Nat) (kwLA : Option Addr) (kwLK : Nat) (hs_0 : i64ok s.Op) (hs_1 : s.Def.b.length ≤ 140737488355328) (hsm : SSm s = true) (rr : Bool) (hrr : sx_Valid_1 s = rr) : FT Tryz.prog 103 #[.agg #[vi s.Op, .string (bs s.Def), vl sa2 sk2 s.Uses, vl sa3 sk3 s.Targets]] [S sa2 sk2 s.Uses, S sa3 sk3 s.Targets, pv (gp 0) [vl kwLA kwLK kwL], S kwLA kwLK kwL] (fun g : Unit => True) (fun g => vb rr) (fun g => []) := by
 refine FTi Tryz.func103 fun w0 M0 F0 => ?_
 unfold i64ok at hs_0
 refine Fb 16 0 fun _ => ?_
 refine FoS 0 fun ho2 => ?_
 refine Fb 16 1 fun _ => ?_
 refine FoS 1 fun ho4 => ?_
 refine Fb 16 3 fun _ => ?_
 refine FoS 3 fun ho6 => ?_
 refine KS ?_
 refine Oa (Ab [vi s.Op, .string (bs s.Def), vl sa2 sk2 s.Uses, vl sa3 sk3 s.Targets]) fun p7 => Oq Va (KS ?_)
 refine Oq (VldA sh59 0) ?_
 refine letv (sx_valid s) fun rv8 hg9 => ?_
 have hc10 := fn104 s sa2 sk2 sa3 sk3 kwLA kwLK pre pre pre rv8 hg9
 refine Oc [1, 2, 3, 4] ca104 hc10 ?_
 rintro - -
 refine Oq Vnot (Oq Va (KS ?_))
 have hq := q4 hrr (!rv8) (by simp only [sx_Valid_1, hg9, cs4]); subst hq
 exact Kr () rfl (.tmp rfl .nil) [] trivial
theorem fn62 (p : GProgram) (pa0 : Option Addr) (pk0 : Nat) (kwLA : Option Addr) (kwLK : Nat) (hps : PSm p = true) (rr : Bool) (hrr : sx_Valid p = rr) : FT Tryz.prog 62 #[.agg #[vl pa0 pk0 p.Funcs]] [S pa0 pk0 p.Funcs, pv (gp 0) [vl kwLA kwLK kwL], S kwLA kwLK kwL] (fun g : Unit => True) (fun g => vb rr) (fun g => []) := by
 refine FTi Tryz.func62 fun w0 M0 F0 => Fb 40 0 fun _ => Fb 16 2 fun _ => ?_
 refine FoS 2 fun ho3 => ?_
 refine KS ?_
 refine Oa (Ab [vl pa0 pk0 p.Funcs]) fun p4 => Oq Va (KS ?_)
 refine Oq (Vfa fo25_0 0) (Oq (VldF sh23 0) (Oq (Vlen sl23) (Oq Vlss (Oq Vm ?_))))
 refine Js 11 ?_ ?_
 ·intro h5
  have g6 := dt h5
  refine Osk (Osk (Osk (Osk (Oq Vpt (KS ?_)))))
  refine Kt (KS ?_)
  refine Oq Va (KS ?_)
  have hq := q4 hrr false (by simp only [sx_Valid, h5, cs4]); subst hq
  exact Kr () rfl (.tmp rfl .nil) [] trivial
 intro h5
 have g7 := df h5
 refine Oq (Vfa fo25_0 0) (Oq (VldF sh23 0) (Oq (Vlen sl23) (Oq Vgtr (Oq Vpf (KS ?_)))))
 refine Kc ?_ ?_
 ·intro h8
  have g9 := dt h8
  have hfm := PSm_f hps (i := 8) aM1
  refine KS ?_
  refine Oq Va (KS ?_)
  have hq := q4 hrr false (by simp only [sx_Valid, h5, h8, cs4]); subst hq
  exact Kr () rfl (.tmp rfl .nil) [] trivial
 intro h8
 have g10 := df h8
 refine KS ?_
 refine Oq (Vfa fo25_0 0) (Oq (VldF sh23 0) (Oq (Vlen sl23) (Oq Vm (KS ?_))))
 refine Kl (γ := Nat × Int) (fun (r11, v20_12) => ⟨[(18, vl pa0 pk0 p.Funcs), (19, vi (p.Funcs.length : Int)), (20, vi v20_12)], [S pa0 pk0 p.Funcs, pv (gp 0) [vl kwLA kwLK kwL], S kwLA kwLK kwL], sx_Valid_L0 p r11 v20_12 = sx_Valid_L0 p (((p.Funcs.length : Int) - 0).toNat) 0 ∧ r11 = ((p.Funcs.length : Int) - v20_12).toNat ∧ (0 : Int) ≤ v20_12 ∧ v20_12 ≤ (p.Funcs.length : Int) ∧ (-9223372036854775808 ≤ v20_12 ∧ v20_12 ≤ 9223372036854775807), r11⟩) (((p.Funcs.length : Int) - 0).toNat, 0) [1, 2, 3] ⟨rfl, rfl, aM1, aM1, aM1⟩ ?_
 rintro ⟨r11, v20_12⟩ ⟨hM13, hr14, hi15, hi16, hk17⟩
 refine JJ_nx fun _ _ hL hA => ?_; dsimp only at hL hA; subst hL hA
 refine Fb 40 0 fun _ => Fb 16 2 fun _ => ?_
 refine FoS 2 fun ho20 => ?_
 refine KS ?_
 refine Oq Vlss (KS ?_)
 refine Kc ?_ ?_
 ·intro h21
  have g22 := dt h21
  have hfm := PSm_f hps (i := v20_12) aM1
  obtain ⟨r23, rfl⟩ := scc (n := r11) aM1
  refine KS ?_
  refine Oq (Vi sl23 0) ?_
  refine JJ_peek_GFunc v20_12.toNat 0 rfl rng fun a24 k25 hb26 => ?_
  refine Fb 40 1 fun _ => ?_
  refine Oq (VldA sh54 0) (Oa (Al ze54 [.string (bs (Str.mk [])), .slice none 0 0]) fun p28 => Ost (Scl [0] sh54 [.string (bs ((p.Funcs.getD v20_12.toNat default).Name)), vl a24 k25 ((p.Funcs.getD v20_12.toNat default).Blocks)]) (KS ?_))
  refine Oq (Vfa fo54_0 0) (Oq (VldF sh9 0) ?_)
  refine letv (lx_IsName ((p.Funcs.getD v20_12.toNat default).Name)) fun rv29 hg30 => ?_
  have hc31 := fn101 ((p.Funcs.getD v20_12.toNat default).Name) kwLA kwLK pre rv29 hg30
  refine Oc [4, 5] ca101 hc31 ?_
  rintro - -
  refine Oq Vnot (Oq Vm ?_)
  refine Js 28 ?_ ?_
  ·intro h32
   have h34 := not_true h32
   refine Osk (Osk (Osk (Osk (Oq Vpt (Oq Vm (Osk (Osk (Osk (Osk ?_)))))))))
   refine Oq Vpt (KS ?_)
   refine Kt (KS ?_)
   refine Oq Va (KS ?_)
   have hR36 := q2 hM13 (.ret false) (by simp only [sx_Valid_L0, h21, h32, h34, hg30, cs4])
   have hq := q4 hrr false (by simp only [sx_Valid, h5, h8, h21, h32, h34, hg30, hR36, cs4]); subst hq
   exact Kr () rfl (.tmp rfl .nil) [] trivial
  intro h32
  have h38 := not_false h32
  refine Oq (Vfa fo54_1 0) (Oq (VldF sh52 0) (Oq (Vlen sl52) (Oq Vlss (Oq Vpf (Oq Vm ?_)))))
  refine Js 34 ?_ ?_
  ·intro h40
   have g41 := dt h40
   refine Osk (Osk (Osk (Osk (Oq Vpt (KS ?_)))))
   refine Kt (KS ?_)
   refine Oq Va (KS ?_)
   have hR42 := q2 hM13 (.ret false) (by simp only [sx_Valid_L0, h21, h32, h38, h40, hg30, cs4])
   have hq := q4 hrr false (by simp only [sx_Valid, h5, h8, h21, h32, h38, h40, hg30, hR42, cs4]); subst hq
   exact Kr () rfl (.tmp rfl .nil) [] trivial
  intro h40
  have g43 := df h40
  refine Oq (Vfa fo54_1 0) (Oq (VldF sh52 0) (Oq (Vlen sl52) (Oq Vgtr (Oq Vpf (KS ?_)))))
  refine Kc ?_ ?_
  ·intro h44
   have g45 := dt h44
   have hbm := FSm_b hfm (i := 16) aM1
   refine KS ?_
   refine Oq Va (KS ?_)
   have hR46 := q2 hM13 (.ret false) (by simp only [sx_Valid_L0, h21, h32, h38, h40, h44, hg30, cs4])
   have hq := q4 hrr false (by simp only [sx_Valid, h5, h8, h21, h32, h38, h40, h44, hg30, hR46, cs4]); subst hq
   exact Kr () rfl (.tmp rfl .nil) [] trivial
  intro h44
  have g47 := df h44
  refine KS ?_
  refine Oq (Vfa fo54_1 0) (Oq (VldF sh52 0) (Oq (Vlen sl52) (Oq Vm (KS ?_))))
  refine Kl (γ := Nat × Int) (fun (r48, v43_49) => ⟨[(18, vl pa0 pk0 p.Funcs), (19, vi (p.Funcs.length : Int)), (20, vi v20_12), (41, vl a24 k25 ((p.Funcs.getD v20_12.toNat default).Blocks)), (42, vi (((p.Funcs.getD v20_12.toNat default).Blocks).length : Int)), (43, vi v43_49)], [S a24 k25 ((p.Funcs.getD v20_12.toNat default).Blocks), S pa0 pk0 p.Funcs, pv (gp 0) [vl kwLA kwLK kwL], S kwLA kwLK kwL], sx_Valid_L1 ((p.Funcs.getD v20_12.toNat default).Blocks) r48 v43_49 = sx_Valid_L1 ((p.Funcs.getD v20_12.toNat default).Blocks) ((((((p.Funcs.getD v20_12.toNat default).Blocks).length : Int) : Int) - 0).toNat) 0 ∧ r48 = (((((p.Funcs.getD v20_12.toNat default).Blocks).length : Int) : Int) - v43_49).toNat ∧ (0 : Int) ≤ v43_49 ∧ (v43_49 ≤ (((p.Funcs.getD v20_12.toNat default).Blocks).length : Int) ∨ v43_49 = 0) ∧ (-9223372036854775808 ≤ v43_49 ∧ v43_49 ≤ 9223372036854775807), r48⟩) ((((((p.Funcs.getD v20_12.toNat default).Blocks).length : Int) : Int) - 0).toNat, 0) [2, 3, 4, 5] ⟨rfl, rfl, aM1, (.inr rfl), aM1⟩ ?_
  rintro ⟨r48, v43_49⟩ ⟨hM50, hr51, hi52, hi53, hk54⟩
  refine JJ_nx fun _ _ hL hA => ?_; dsimp only at hL hA; subst hL hA
  refine Fb 40 0 fun _ => Fb 40 1 fun _ => Fb 16 3 fun _ => ?_
  refine FoS 3 fun ho58 => ?_
  refine KS ?_
  refine Oq Vlss (KS ?_)
  refine Kc ?_ ?_
  ·intro h59
   have g60 := dt h59
   have hbm := FSm_b hfm (i := v43_49) aM1
   obtain ⟨r61, rfl⟩ := scc (n := r48) aM1
   refine KS ?_
   refine Oq (Vi sl52 0) ?_
   refine JJ_peek_GBlock v43_49.toNat 0 rfl rng fun a62 k63 hb64 => ?_
   refine Fb 72 1 fun _ => ?_
   refine Oq (VldA sh57 0) (Oa (Al ze57 [.string (bs (Str.mk [])), .slice none 0 0]) fun p66 => Ost (Scl [0] sh57 [.string (bs ((((p.Funcs.getD v20_12.toNat default).Blocks).getD v43_49.toNat default).Name)), .slice a62 (((((p.Funcs.getD v20_12.toNat default).Blocks).getD v43_49.toNat default).Stmts).length) k63]) (KS ?_))
   refine Oq (Vfa fo57_0 0) (Oq (VldF sh9 0) ?_)
   refine letv (lx_IsName ((((p.Funcs.getD v20_12.toNat default).Blocks).getD v43_49.toNat default).Name)) fun rv67 hg68 => ?_
   have hc69 := fn101 ((((p.Funcs.getD v20_12.toNat default).Blocks).getD v43_49.toNat default).Name) kwLA kwLK pre rv67 hg68
   refine Oc [5, 6] ca101 hc69 ?_
   rintro - -
   refine Oq Vnot (Oq Vm ?_)
   refine Js 51 ?_ ?_
   ·intro h70
    have h72 := not_true h70
    refine Osk (Osk (Osk (Osk (Oq Vpt (Oq Vm (Osk (Osk (Osk (Osk ?_)))))))))
    refine Oq Vpt (Oq Vm (Osk (Osk (Osk (Oq Vpt (KS ?_))))))
    refine Kt (KS ?_)
    refine Oq Va (KS ?_)
    have hR74 := q2 hM50 (.ret false) (by simp only [sx_Valid_L1, h59, h70, h72, hg68, cs4])
    have hR75 := q2 hM13 (.ret false) (by simp only [sx_Valid_L0, h21, h32, h38, h40, h44, h59, h70, h72, hg30, hg68, hR74, cs4])
    have hq := q4 hrr false (by simp only [sx_Valid, h5, h8, h21, h32, h38, h40, h44, h59, h70, h72, hg30, hg68, hR74, hR75, cs4]); subst hq
    exact Kr () rfl (.tmp rfl .nil) [] trivial
   intro h70
   have h77 := not_false h70
   refine Oq (Vfa fo57_1 0) (Oq (VldF sh55 0) (Oq (Vlen sl55) (Oq Vlss (Oq Vpf (Oq Vm ?_)))))
   refine Js 57 ?_ ?_
   ·intro h79
    have g80 := dt h79
    refine Osk (Osk (Osk (Osk (Oq Vpt (Oq Vm (Osk (Osk (Osk (Oq Vpt ?_)))))))))
    refine KS ?_
    refine Kt (KS ?_)
    refine Oq Va (KS ?_)
    have hR81 := q2 hM50 (.ret false) (by simp only [sx_Valid_L1, h59, h70, h77, h79, hg68, cs4])
    have hR82 := q2 hM13 (.ret false) (by simp only [sx_Valid_L0, h21, h32, h38, h40, h44, h59, h70, h77, h79, hg30, hg68, hR81, cs4])
    have hq := q4 hrr false (by simp only [sx_Valid, h5, h8, h21, h32, h38, h40, h44, h59, h70, h77, h79, hg30, hg68, hR81, hR82, cs4]); subst hq
    exact Kr () rfl (.tmp rfl .nil) [] trivial
   intro h79
   have g83 := df h79
   refine Oq (Vfa fo57_1 0) (Oq (VldF sh55 0) (Oq (Vlen sl55) (Oq Vgtr (Oq Vpf (Oq Vm ?_)))))
   refine Js 63 ?_ ?_
   ·intro h84
    have g85 := dt h84
    refine Osk (Osk (Osk (Oq Vpt (KS ?_))))
    refine Kt (KS ?_)
    refine Oq Va (KS ?_)
    have hR86 := q2 hM50 (.ret false) (by simp only [sx_Valid_L1, h59, h70, h77, h79, h84, hg68, cs4])
    have hR87 := q2 hM13 (.ret false) (by simp only [sx_Valid_L0, h21, h32, h38, h40, h44, h59, h70, h77, h79, h84, hg30, hg68, hR86, cs4])
    have hq := q4 hrr false (by simp only [sx_Valid, h5, h8, h21, h32, h38, h40, h44, h59, h70, h77, h79, h84, hg30, hg68, hR86, hR87, cs4]); subst hq
    exact Kr () rfl (.tmp rfl .nil) [] trivial
   intro h84
   have g88 := df h84
   refine Oq (Vfa fo57_1 0) (Oq (VldF sh55 0) ?_)
   refine JJ_ent (Ent.pall [5, 6] rfl rfl) ?_
   refine letv (sc_ContainsFunc_Stmt ((((p.Funcs.getD v20_12.toNat default).Blocks).getD v43_49.toNat default).Stmts) (fun x => sx_Valid_1 x)) fun rv89 hg90 => ?_
   have hc91 := fn102 ((((p.Funcs.getD v20_12.toNat default).Blocks).getD v43_49.toNat default).Stmts) a62 k63 103 [] (fun x => sx_Valid_1 x) [pv (gp 0) [vl kwLA kwLK kwL], S kwLA kwLK kwL] ca103 (fun x hx a2 k2 a3 k3 hq0 hq1 => FT_pall (A1 := _) (fn103 x a2 k2 a3 k3 kwLA kwLK hq0 hq1 (BSm_m hbm hx) _ rfl)) rv89 hg90
   refine Oc [3, 0] ca102 hc91 ?_
   rintro - -
   refine Oq Vpf (KS ?_)
   refine Kc ?_ ?_
   ·intro h92
    refine KS ?_
    refine Oq Va (KS ?_)
    have hR94 := q2 hM50 (.ret false) (by simp only [sx_Valid_L1, h59, h70, h77, h79, h84, h92, hg68, hg90, cs4])
    have hR95 := q2 hM13 (.ret false) (by simp only [sx_Valid_L0, h21, h32, h38, h40, h44, h59, h70, h77, h79, h84, h92, hg30, hg68, hg90, hR94, cs4])
    have hq := q4 hrr false (by simp only [sx_Valid, h5, h8, h21, h32, h38, h40, h44, h59, h70, h77, h79, h84, h92, hg30, hg68, hg90, hR94, hR95, cs4]); subst hq
    exact Kr () rfl (.tmp rfl .nil) [] trivial
   intro h92
   refine KS ?_
   refine Oq Vadd (Oq Vm (KS ?_))
   exact Kg (r61, (v43_49 + 1)) [4, 5, 6, 7] ⟨(q3 hM50 (by simp only [sx_Valid_L1, h59, h70, h77, h79, h84, h92, hg68, hg90, cs4])), aM1, aM1, aM1, aM1⟩
  intro h59
  have g97 := df h59
  obtain rfl : r48 = 0 := by omega
  refine Ke ?_
  have hR98 := q2 hM50 (.brk ()) (by simp only [sx_Valid_L1, h59, cs4])
  refine KS ?_
  refine Oq Vadd (Oq Vm (KS ?_))
  exact Kg (r23, (v20_12 + 1)) [1, 2, 3] ⟨(q3 hM13 (by simp only [sx_Valid_L0, h21, h32, h38, h40, h44, h59, hg30, hR98, cs4])), aM1, aM1, aM1, aM1⟩
 intro h21
 have g99 := df h21
 obtain rfl : r11 = 0 := by omega
 refine Ke ?_
 have hR100 := q2 hM13 (.brk ()) (by simp only [sx_Valid_L0, h21, cs4])
 refine KS ?_
 refine Oq Va (KS ?_)
 have hq := q4 hrr true (by simp only [sx_Valid, h5, h8, h21, hR100, cs4]); subst hq
 exact Kr () rfl (.tmp rfl .nil) [] trivial
theorem fn63 (l : List GFunc) (la0 : Option Addr) (lk0 : Nat) (nameF : FuncId) (nameC : List Value) (namep : GFunc → Str) (nameA : List SP) (hnamec : callable Tryz.prog nameF = true) (hnameF : ∀ x0, ∀ (a0 : Option Addr) (k0 : Nat), x0.Name.b.length ≤ 140737488355328 → FT Tryz.prog nameF ([(.agg #[.string (bs x0.Name), vl a0 k0 x0.Blocks] : Value)] ++ nameC).toArray ([S a0 k0 x0.Blocks] ++ [pAll nameA]) (fun _ : Unit => (namep x0).b.length ≤ 140737488355328) (fun _ => .string (bs (namep x0))) (fun _ => [])) (rr : Int × (List (Str × Bool))) (hrr : vd_duplicate_Func l namep = rr) : FT Tryz.prog 63 #[vl la0 lk0 l, .func (.func nameF) #[] nameC.toArray] [S la0 lk0 l, pAll nameA] (fun g : Value => i64ok rr.1) (fun g => .tuple #[vi rr.1, g]) (fun g => [Mp vstr vb okStr g rr.2]) := by
 refine FTi Tryz.func63 fun w0 M0 F0 => Fb 40 0 fun _ => ?_
 refine KS ?_
 refine Oq Va (Oq Va (KS ?_))
 refine Oa (Amp (κ := Str) (ν := Bool) (ek := vstr) (ev := vb) (ok := okStr)) fun p2 => ?_
 refine Jom 0 ?_; rintro b3 rfl
 refine Oq Va (KS ?_)
 refine Oq Va (KS ?_)
 refine Oq Vm (Oq (Vlen sl23) (Oq Vm (KS ?_)))
 refine Kl (γ := Nat × (List (Str × Bool)) × Int × Int) (fun (r4, known_5, at__6, v13_7) => ⟨[(1, .func (.func nameF) #[] nameC.toArray), (6, (mv b3)), (7, vi at__6), (11, vl la0 lk0 l), (12, vi (l.length : Int)), (13, vi v13_7)], [Mp vstr vb okStr (mv b3) known_5, S la0 lk0 l, pAll nameA], vd_duplicate_Func_L0 l namep r4 known_5 at__6 v13_7 = vd_duplicate_Func_L0 l namep (((l.length : Int) - 0).toNat) [] (-1) 0 ∧ r4 = ((l.length : Int) - v13_7).toNat ∧ (0 : Int) ≤ v13_7 ∧ v13_7 ≤ (l.length : Int) ∧ (-9223372036854775808 ≤ at__6 ∧ at__6 ≤ 9223372036854775807) ∧ (-9223372036854775808 ≤ v13_7 ∧ v13_7 ≤ 9223372036854775807), r4⟩) (((l.length : Int) - 0).toNat, [], -1, 0) [0, 0, 1] ⟨rfl, rfl, aM1, aM1, aM1, aM1⟩ ?_
 rintro ⟨r4, known_5, at__6, v13_7⟩ ⟨hM8, hr9, hi10, hi11, hk12, hk13⟩
 refine JJ_nx fun _ _ hL hA => ?_; dsimp only at hL hA; subst hL hA
 refine Fb 40 1 fun _ => KS ?_
 refine Oq Vlss (KS ?_)
 refine Kc ?_ ?_
 ·intro h15
  have g16 := dt h15
  obtain ⟨r17, rfl⟩ := scc (n := r4) aM1
  refine KS ?_
  refine Oq Vm (Oq (Vi sl23 1) ?_)
  refine JJ_peek_GFunc v13_7.toNat 1 rfl rng fun a18 k19 hb20 => ?_
  refine Fb 40 1 fun _ => ?_
  refine Oq (VldA sh54 0) (Oa (Al ze54 [.string (bs (Str.mk [])), .slice none 0 0]) fun p22 => Oq Va (Ost (Scl [0] sh54 [.string (bs ((l.getD v13_7.toNat default).Name)), vl a18 k19 ((l.getD v13_7.toNat default).Blocks)]) (KS ?_)))
  refine Oq Vm (Oq Vm (Oq (VldA sh54 0) ?_))
  refine JO_call [2, 5] rfl rfl rfl (OpC.clo («as» := [(.agg #[.string (bs ((l.getD v13_7.toNat default).Name)), vl a18 k19 ((l.getD v13_7.toNat default).Blocks)] : Value)] ++ nameC) rfl rfl hnamec rfl (by simp)) (hnameF (l.getD v13_7.toNat default) a18 k19 pre) rfl fun _ he23 => ?_
  refine Oq (Vmk1 3 false mt112 (kStr un9) ze4 (ek := vstr) (ev := vb) (ok := okStr) (key := (namep (l.getD v13_7.toNat default))) pre) (Oq Vm ?_)
  refine Js 23 ?_ ?_
  ·intro h24
   refine Oq Vm (Oq Vlss (Oq Vpt (KS ?_)))
   refine Kc ?_ ?_
   ·intro h26
    have g27 := dt h26
    refine KS ?_
    refine Oq Vm (Oq Va (KS ?_))
    refine Oq Vm (Oq Vm (Oq (VldA sh54 0) ?_))
    refine JO_call [2, 5] rfl rfl rfl (OpC.clo («as» := [(.agg #[.string (bs ((l.getD v13_7.toNat default).Name)), vl a18 k19 ((l.getD v13_7.toNat default).Blocks)] : Value)] ++ nameC) rfl rfl hnamec rfl (by simp)) (hnameF (l.getD v13_7.toNat default) a18 k19 pre) rfl fun _ he28 => ?_
    refine Ost (Smp [3] mt112 (kStr un9) true (ek := vstr) (ev := vb) (ok := okStr) (key := (namep (l.getD v13_7.toNat default))) pre) (KS ?_)
    refine Oq Vadd (Oq Vm (KS ?_))
    exact Kg (r17, (mset known_5 (namep (l.getD v13_7.toNat default)) true), v13_7, (v13_7 + 1)) [0, 3, 4] ⟨(q3 hM8 (by simp only [vd_duplicate_Func_L0, h15, h24, h26, cs4])), aM1, aM1, aM1, aM1, aM1⟩
   intro h26
   have g29 := df h26
   refine KS ?_
   refine Oq Vm (Oq Vm (Oq (VldA sh54 0) ?_))
   refine JO_call [2, 5] rfl rfl rfl (OpC.clo («as» := [(.agg #[.string (bs ((l.getD v13_7.toNat default).Name)), vl a18 k19 ((l.getD v13_7.toNat default).Blocks)] : Value)] ++ nameC) rfl rfl hnamec rfl (by simp)) (hnameF (l.getD v13_7.toNat default) a18 k19 pre) rfl fun _ he30 => ?_
   refine Ost (Smp [3] mt112 (kStr un9) true (ek := vstr) (ev := vb) (ok := okStr) (key := (namep (l.getD v13_7.toNat default))) pre) (KS ?_)
   refine Oq Vadd (Oq Vm (KS ?_))
   exact Kg (r17, (mset known_5 (namep (l.getD v13_7.toNat default)) true), at__6, (v13_7 + 1)) [0, 3, 4] ⟨(q3 hM8 (by simp only [vd_duplicate_Func_L0, h15, h24, h26, cs4])), aM1, aM1, aM1, aM1, aM1⟩
  intro h24
  refine Osk (Osk (Oq Vpf (KS ?_)))
  refine Kf (KS ?_)
  refine Oq Vm (Oq Vm (Oq (VldA sh54 0) ?_))
  refine JO_call [2, 5] rfl rfl rfl (OpC.clo («as» := [(.agg #[.string (bs ((l.getD v13_7.toNat default).Name)), vl a18 k19 ((l.getD v13_7.toNat default).Blocks)] : Value)] ++ nameC) rfl rfl hnamec rfl (by simp)) (hnameF (l.getD v13_7.toNat default) a18 k19 pre) rfl fun _ he32 => ?_
  refine Ost (Smp [3] mt112 (kStr un9) true (ek := vstr) (ev := vb) (ok := okStr) (key := (namep (l.getD v13_7.toNat default))) pre) (KS ?_)
  refine Oq Vadd (Oq Vm (KS ?_))
  exact Kg (r17, (mset known_5 (namep (l.getD v13_7.toNat default)) true), at__6, (v13_7 + 1)) [0, 3, 4] ⟨(q3 hM8 (by simp only [vd_duplicate_Func_L0, h15, h24, cs4])), aM1, aM1, aM1, aM1, aM1⟩
 intro h15
 have g33 := df h15
 obtain rfl : r4 = 0 := by omega
 refine Ke ?_
 have hR34 := q2 hM8 (known_5, at__6) (by simp only [vd_duplicate_Func_L0, h15, cs4])
 refine KS ?_
 refine Oq Vm (Oq Vm (Oq Va (Oq Va (KS ?_))))
 have hq := q4 hrr (at__6, known_5) (by simp only [vd_duplicate_Func, h15, hR34, cs4]); subst hq
 exact Kr (mv b3) rfl (.tmp rfl (.tmp rfl .nil)) [0] en
theorem fn64 (f : GFunc) (fa1 : Option Addr) (fk1 : Nat) (hf_0 : f.Name.b.length ≤ 140737488355328) (rr : Str) (hrr : vd_Check_1 f = rr) : FT Tryz.prog 64 #[.agg #[.string (bs f.Name), vl fa1 fk1 f.Blocks]] [S fa1 fk1 f.Blocks] (fun g : Unit => rr.b.length ≤ 140737488355328) (fun g => .string (bs rr)) (fun g => []) := by
 refine FTi Tryz.func64 fun w0 M0 F0 => Fb 40 0 fun _ => ?_
 refine KS ?_
 refine Oa (Ab [.string (bs f.Name), vl fa1 fk1 f.Blocks]) fun p2 => Oq Va (KS ?_)
 refine Oq (Vfa fo54_0 0) (Oq (VldF sh9 0) (Oq Va (KS ?_)))
 have hq := q4 hrr f.Name (by simp only [vd_Check_1, cs4]); subst hq
 exact Kr () rfl (.tmp rfl .nil) [] en
theorem fn105 (l : List GBlock) (la0 : Option Addr) (lk0 : Nat) (nameF : FuncId) (nameC : List Value) (namep : GBlock → Str) (nameA : List SP) (hnamec : callable Tryz.prog nameF = true) (hnameF : ∀ x0, ∀ (a0 : Option Addr) (k0 : Nat), x0.Name.b.length ≤ 140737488355328 → FT Tryz.prog nameF ([(.agg #[.string (bs x0.Name), vl a0 k0 x0.Stmts] : Value)] ++ nameC).toArray ([S a0 k0 x0.Stmts] ++ [pAll nameA]) (fun _ : Unit => (namep x0).b.length ≤ 140737488355328) (fun _ => .string (bs (namep x0))) (fun _ => [])) (rr : Int × (List (Str × Bool))) (hrr : vd_duplicate_Block l namep = rr) : FT Tryz.prog 105 #[vl la0 lk0 l, .func (.func nameF) #[] nameC.toArray] [S la0 lk0 l, pAll nameA] (fun g : Value => i64ok rr.1) (fun g => .tuple #[vi rr.1, g]) (fun g => [Mp vstr vb okStr g rr.2]) := by
 refine FTi Tryz.func105 fun w0 M0 F0 => Fb 40 0 fun _ => ?_
 refine KS ?_
 refine Oq Va (Oq Va (KS ?_))
 refine Oa (Amp (κ := Str) (ν := Bool) (ek := vstr) (ev := vb) (ok := okStr)) fun p2 => ?_
 refine Jom 0 ?_; rintro b3 rfl
 refine Oq Va (KS ?_)
 refine Oq Va (KS ?_)
 refine Oq Vm (Oq (Vlen sl52) (Oq Vm (KS ?_)))
 refine Kl (γ := Nat × (List (Str × Bool)) × Int × Int) (fun (r4, known_5, at__6, v13_7) => ⟨[(1, .func (.func nameF) #[] nameC.toArray), (6, (mv b3)), (7, vi at__6), (11, vl la0 lk0 l), (12, vi (l.length : Int)), (13, vi v13_7)], [Mp vstr vb okStr (mv b3) known_5, S la0 lk0 l, pAll nameA], vd_duplicate_Block_L0 l namep r4 known_5 at__6 v13_7 = vd_duplicate_Block_L0 l namep (((l.length : Int) - 0).toNat) [] (-1) 0 ∧ r4 = ((l.length : Int) - v13_7).toNat ∧ (0 : Int) ≤ v13_7 ∧ v13_7 ≤ (l.length : Int) ∧ (-9223372036854775808 ≤ at__6 ∧ at__6 ≤ 9223372036854775807) ∧ (-9223372036854775808 ≤ v13_7 ∧ v13_7 ≤ 9223372036854775807), r4⟩) (((l.length : Int) - 0).toNat, [], -1, 0) [0, 0, 1] ⟨rfl, rfl, aM1, aM1, aM1, aM1⟩ ?_
 rintro ⟨r4, known_5, at__6, v13_7⟩ ⟨hM8, hr9, hi10, hi11, hk12, hk13⟩
 refine JJ_nx fun _ _ hL hA => ?_; dsimp only at hL hA; subst hL hA
 refine Fb 40 1 fun _ => KS ?_
 refine Oq Vlss (KS ?_)
 refine Kc ?_ ?_
 ·intro h15
  have g16 := dt h15
  obtain ⟨r17, rfl⟩ := scc (n := r4) aM1
  refine KS ?_
  refine Oq Vm (Oq (Vi sl52 1) ?_)
  refine JJ_peek_GBlock v13_7.toNat 1 rfl rng fun a18 k19 hb20 => ?_
  refine Fb 72 1 fun _ => ?_
  refine Oq (VldA sh57 0) (Oa (Al ze57 [.string (bs (Str.mk [])), .slice none 0 0]) fun p22 => Oq Va (Ost (Scl [0] sh57 [.string (bs ((l.getD v13_7.toNat default).Name)), vl a18 k19 ((l.getD v13_7.toNat default).Stmts)]) (KS ?_)))
  refine Oq Vm (Oq Vm (Oq (VldA sh57 0) ?_))
  refine JO_call [2, 5] rfl rfl rfl (OpC.clo («as» := [(.agg #[.string (bs ((l.getD v13_7.toNat default).Name)), vl a18 k19 ((l.getD v13_7.toNat default).Stmts)] : Value)] ++ nameC) rfl rfl hnamec rfl (by simp)) (hnameF (l.getD v13_7.toNat default) a18 k19 pre) rfl fun _ he23 => ?_
  refine Oq (Vmk1 3 false mt112 (kStr un9) ze4 (ek := vstr) (ev := vb) (ok := okStr) (key := (namep (l.getD v13_7.toNat default))) pre) (Oq Vm ?_)
  refine Js 23 ?_ ?_
  ·intro h24
   refine Oq Vm (Oq Vlss (Oq Vpt (KS ?_)))
   refine Kc ?_ ?_
   ·intro h26
    have g27 := dt h26
    refine KS ?_
    refine Oq Vm (Oq Va (KS ?_))
    refine Oq Vm (Oq Vm (Oq (VldA sh57 0) ?_))
    refine JO_call [2, 5] rfl rfl rfl (OpC.clo («as» := [(.agg #[.string (bs ((l.getD v13_7.toNat default).Name)), vl a18 k19 ((l.getD v13_7.toNat default).Stmts)] : Value)] ++ nameC) rfl rfl hnamec rfl (by simp)) (hnameF (l.getD v13_7.toNat default) a18 k19 pre) rfl fun _ he28 => ?_
    refine Ost (Smp [3] mt112 (kStr un9) true (ek := vstr) (ev := vb) (ok := okStr) (key := (namep (l.getD v13_7.toNat default))) pre) (KS ?_)
    refine Oq Vadd (Oq Vm (KS ?_))
    exact Kg (r17, (mset known_5 (namep (l.getD v13_7.toNat default)) true), v13_7, (v13_7 + 1)) [0, 3, 4] ⟨(q3 hM8 (by simp only [vd_duplicate_Block_L0, h15, h24, h26, cs4])), aM1, aM1, aM1, aM1, aM1⟩
   intro h26
   have g29 := df h26
   refine KS ?_
   refine Oq Vm (Oq Vm (Oq (VldA sh57 0) ?_))
   refine JO_call [2, 5] rfl rfl rfl (OpC.clo («as» := [(.agg #[.string (bs ((l.getD v13_7.toNat default).Name)), vl a18 k19 ((l.getD v13_7.toNat default).Stmts)] : Value)] ++ nameC) rfl rfl hnamec rfl (by simp)) (hnameF (l.getD v13_7.toNat default) a18 k19 pre) rfl fun _ he30 => ?_
   refine Ost (Smp [3] mt112 (kStr un9) true (ek := vstr) (ev := vb) (ok := okStr) (key := (namep (l.getD v13_7.toNat default))) pre) (KS ?_)
   refine Oq Vadd (Oq Vm (KS ?_))
   exact Kg (r17, (mset known_5 (namep (l.getD v13_7.toNat default)) true), at__6, (v13_7 + 1)) [0, 3, 4] ⟨(q3 hM8 (by simp only [vd_duplicate_Block_L0, h15, h24, h26, cs4])), aM1, aM1, aM1, aM1, aM1⟩
  intro h24
  refine Osk (Osk (Oq Vpf (KS ?_)))
  refine Kf (KS ?_)
  refine Oq Vm (Oq Vm (Oq (VldA sh57 0) ?_))
  refine JO_call [2, 5] rfl rfl rfl (OpC.clo («as» := [(.agg #[.string (bs ((l.getD v13_7.toNat default).Name)), vl a18 k19 ((l.getD v13_7.toNat default).Stmts)] : Value)] ++ nameC) rfl rfl hnamec rfl (by simp)) (hnameF (l.getD v13_7.toNat default) a18 k19 pre) rfl fun _ he32 => ?_
  refine Ost (Smp [3] mt112 (kStr un9) true (ek := vstr) (ev := vb) (ok := okStr) (key := (namep (l.getD v13_7.toNat default))) pre) (KS ?_)
  refine Oq Vadd (Oq Vm (KS ?_))
  exact Kg (r17, (mset known_5 (namep (l.getD v13_7.toNat default)) true), at__6, (v13_7 + 1)) [0, 3, 4] ⟨(q3 hM8 (by simp only [vd_duplicate_Block_L0, h15, h24, cs4])), aM1, aM1, aM1, aM1, aM1⟩
 intro h15
 have g33 := df h15
 obtain rfl : r4 = 0 := by omega
 refine Ke ?_
 have hR34 := q2 hM8 (known_5, at__6) (by simp only [vd_duplicate_Block_L0, h15, cs4])
 refine KS ?_
 refine Oq Vm (Oq Vm (Oq Va (Oq Va (KS ?_))))
 have hq := q4 hrr (at__6, known_5) (by simp only [vd_duplicate_Block, h15, hR34, cs4]); subst hq
 exact Kr (mv b3) rfl (.tmp rfl (.tmp rfl .nil)) [0] en
theorem fn106 (b : GBlock) (ba1 : Option Addr) (bk1 : Nat) (hb_0 : b.Name.b.length ≤ 140737488355328) (rr : Str) (hrr : vd_function_1 b = rr) : FT Tryz.prog 106 #[.agg #[.string (bs b.Name), vl ba1 bk1 b.Stmts]] [S ba1 bk1 b.Stmts] (fun g : Unit => rr.b.length ≤ 140737488355328) (fun g => .string (bs rr)) (fun g => []) := by
 refine FTi Tryz.func106 fun w0 M0 F0 => Fb 72 0 fun _ => ?_
 refine KS ?_
 refine Oa (Ab [.string (bs b.Name), vl ba1 bk1 b.Stmts]) fun p2 => Oq Va (KS ?_)
 refine Oq (Vfa fo57_0 0) (Oq (VldF sh9 0) (Oq Va (KS ?_)))
 have hq := q4 hrr b.Name (by simp only [vd_function_1, cs4]); subst hq
 exact Kr () rfl (.tmp rfl .nil) [] en
theorem fn135 (s : GStmt) (sa2 : Option Addr) (sk2 : Nat) (sa3 : Option Addr) (sk3 : Nat) (hs_0 : i64ok s.Op) (hs_1 : s.Def.b.length ≤ 140737488355328) (rr : Bool) (hrr : vd_terminator s = rr) : FT Tryz.prog 135 #[.agg #[vi s.Op, .string (bs s.Def), vl sa2 sk2 s.Uses, vl sa3 sk3 s.Targets]] [S sa2 sk2 s.Uses, S sa3 sk3 s.Targets] (fun g : Unit => True) (fun g => vb rr) (fun g => []) := by
 refine FTi Tryz.func135 fun w0 M0 F0 => ?_
 unfold i64ok at hs_0
 refine Fb 16 0 fun _ => ?_
 refine FoS 0 fun ho2 => ?_
 refine Fb 16 1 fun _ => ?_
 refine FoS 1 fun ho4 => ?_
 refine KS ?_
 refine Oa (Ab [vi s.Op, .string (bs s.Def), vl sa2 sk2 s.Uses, vl sa3 sk3 s.Targets]) fun p5 => Oq Va (KS ?_)
 refine Oq (Vfa fo59_0 0) (Oq (VldF sh3 0) (Oq Veql (Oq Vm ?_)))
 refine Js 6 ?_ ?_
 ·intro h6
  have g7 := eq_of_beq h6
  refine Osk (Osk (Osk (Oq Vpt (Oq Vm (Osk (Osk (Osk (Oq Vpt (Oq Va ?_)))))))))
  refine KS ?_
  have hq := q4 hrr true (by simp only [vd_terminator, h6, cs4]); subst hq
  exact Kr () rfl (.tmp rfl .nil) [] trivial
 intro h6
 have g8 := ne_of_beq_false h6
 refine Oq (Vfa fo59_0 0) (Oq (VldF sh3 0) (Oq Veql (Oq Vpf (Oq Vm ?_))))
 refine Js 11 ?_ ?_
 ·intro h9
  have g10 := eq_of_beq h9
  refine Osk (Osk (Osk (Oq Vpt (Oq Va (KS ?_)))))
  have hq := q4 hrr true (by simp only [vd_terminator, h6, h9, cs4]); subst hq
  exact Kr () rfl (.tmp rfl .nil) [] trivial
 intro h9
 have g11 := ne_of_beq_false h9
 refine Oq (Vfa fo59_0 0) (Oq (VldF sh3 0) (Oq Veql (Oq Vpf (Oq Va (KS ?_)))))
 have hq := q4 hrr (s.Op == 9) (by simp only [vd_terminator, h6, h9, cs4]); subst hq
 exact Kr () rfl (.tmp rfl .nil) [] trivial
theorem fn107 (s : GStmt) (sa2 : Option Addr) (sk2 : Nat) (sa3 : Option Addr) (sk3 : Nat) (last : Bool) (knownP : Value) (known : List (Str × Bool)) (hs_0 : i64ok s.Op) (hs_1 : s.Def.b.length ≤ 140737488355328) (rr : Int) (hrr : vd_statement s last known = rr) : FT Tryz.prog 107 #[.agg #[vi s.Op, .string (bs s.Def), vl sa2 sk2 s.Uses, vl sa3 sk3 s.Targets], vb last, knownP] [S sa2 sk2 s.Uses, S sa3 sk3 s.Targets, Mp vstr vb okStr knownP known] (fun g : Unit => i64ok rr) (fun g => vi rr) (fun g => [Mp vstr vb okStr knownP known]) := by
 refine FTi Tryz.func107 fun w0 M0 F0 => ?_
 unfold i64ok at hs_0
 refine Fb 16 0 fun _ => ?_
 refine FoS 0 fun ho2 => ?_
 refine Fb 16 1 fun _ => ?_
 refine FoS 1 fun ho4 => ?_
 refine KS ?_
 refine Oa (Ab [vi s.Op, .string (bs s.Def), vl sa2 sk2 s.Uses, vl sa3 sk3 s.Targets]) fun p5 => Oq Va (KS ?_)
 refine Oq (VldA sh59 0) ?_
 refine letv (vd_terminator s) fun rv6 hg7 => ?_
 have hc8 := fn135 s sa2 sk2 sa3 sk3 pre pre rv6 hg7
 refine Oc [1, 2] ca135 hc8 ?_
 rintro - -
 refine Oq Vm (Oq (Vnb un4) (KS ?_))
 refine Kc ?_ ?_
 ·intro h9
  refine KS ?_
  refine Oq Va (KS ?_)
  have hq := q4 hrr 4 (by simp only [vd_statement, h9, hg7, cs4]); subst hq
  exact Kr () rfl (.tmp rfl .nil) [3] en
 intro h9
 refine KS ?_
 refine Oq (Vfa fo59_3 0) (Oq (VldF sh51 0) (Oq (Vlen sl51) (Oq Vm (KS ?_))))
 refine Kl (γ := Nat × Int) (fun (r12, v16_13) => ⟨[(2, knownP), (14, vl sa3 sk3 s.Targets), (15, vi (s.Targets.length : Int)), (16, vi v16_13)], [S sa3 sk3 s.Targets, Mp vstr vb okStr knownP known], vd_statement_L0 s known r12 v16_13 = vd_statement_L0 s known (((s.Targets.length : Int) - 0).toNat) 0 ∧ r12 = ((s.Targets.length : Int) - v16_13).toNat ∧ (0 : Int) ≤ v16_13 ∧ v16_13 ≤ (s.Targets.length : Int) ∧ (-9223372036854775808 ≤ v16_13 ∧ v16_13 ≤ 9223372036854775807), r12⟩) (((s.Targets.length : Int) - 0).toNat, 0) [2, 3] ⟨rfl, rfl, aM1, aM1, aM1⟩ ?_
 rintro ⟨r12, v16_13⟩ ⟨hM14, hr15, hi16, hi17, hk18⟩
 refine JJ_nx fun _ _ hL hA => ?_; dsimp only at hL hA; subst hL hA
 refine Fb 16 0 fun _ => ?_
 refine FoS 0 fun ho20 => ?_
 refine KS ?_
 refine Oq Vlss (KS ?_)
 refine Kc ?_ ?_
 ·intro h21
  have g22 := dt h21
  obtain ⟨r23, rfl⟩ := scc (n := r12) aM1
  refine KS ?_
  refine Oq (Vi sl51 0) ?_
  have hb24 := okS (i := v16_13.toNat) ho20 rng
  refine Oq (VldS sh9 0) (Oq Va (KS ?_))
  refine Oq Vm (Oq Vm (Oq (Vmk1 1 false mt112 (kStr un9) ze4 (ek := vstr) (ev := vb) (ok := okStr) (key := (s.Targets.getD v16_13.toNat default)) pre) (Oq Vnot (KS ?_))))
  refine Kc ?_ ?_
  ·intro h25
   have h27 := not_true h25
   refine KS ?_
   refine Oq Va (KS ?_)
   have hR29 := q2 hM14 (.ret 5) (by simp only [vd_statement_L0, h21, h25, h27, cs4])
   have hq := q4 hrr 5 (by simp only [vd_statement, h9, h21, h25, h27, hg7, hR29, cs4]); subst hq
   exact Kr () rfl (.tmp rfl .nil) [1] en
  intro h25
  have h31 := not_false h25
  refine KS ?_
  refine Oq Vadd (Oq Vm (KS ?_))
  exact Kg (r23, (v16_13 + 1)) [0, 1] ⟨(q3 hM14 (by simp only [vd_statement_L0, h21, h25, h31, cs4])), aM1, aM1, aM1, aM1⟩
 intro h21
 have g33 := df h21
 obtain rfl : r12 = 0 := by omega
 refine Ke ?_
 have hR34 := q2 hM14 (.brk ()) (by simp only [vd_statement_L0, h21, cs4])
 refine KS ?_
 refine Oq Va (KS ?_)
 have hq := q4 hrr 0 (by simp only [vd_statement, h9, h21, hg7, hR34, cs4]); subst hq
 exact Kr () rfl (.tmp rfl .nil) [1] en
theorem fn65 (f : GFunc) (fa1 : Option Addr) (fk1 : Nat) (i : Int) (funcsP : Value) (funcs : List (Str × Bool)) (hf_0 : f.Name.b.length ≤ 140737488355328) (hi_0 : i64ok i) (rr : GNode × Int) (hrr : vd_function f i funcs = rr) : FT Tryz.prog 65 #[.agg #[.string (bs f.Name), vl fa1 fk1 f.Blocks], vi i, funcsP] [S fa1 fk1 f.Blocks, Mp vstr vb okStr funcsP funcs] (fun g : Unit => i64ok rr.1.Kind ∧ i64ok rr.1.Func ∧ i64ok rr.1.Block ∧ i64ok rr.1.Stmt ∧ i64ok rr.2) (fun g => .tuple #[.agg #[vi rr.1.Kind, vi rr.1.Func, vi rr.1.Block, vi rr.1.Stmt], vi rr.2]) (fun g => [Mp vstr vb okStr funcsP funcs]) := by
 refine FTi Tryz.func65 fun w0 M0 F0 => ?_
 unfold i64ok at hi_0
 refine Fb 40 0 fun _ => KS ?_
 refine Oa (Ab [.string (bs f.Name), vl fa1 fk1 f.Blocks]) fun p2 => Oa (Al ze76 [vi 0, vi 0, vi 0, vi 0]) fun p3 => Oq Va (KS ?_)
 refine Oq (Vfa fo54_1 1) (Oq (VldF sh52 1) ?_)
 refine JJ_ent (Ent.pall [] rfl rfl) ?_
 refine letv (vd_duplicate_Block f.Blocks (fun x0 => vd_function_1 x0)) fun rv5 hg6 => ?_
 have hc7 := fn105 f.Blocks fa1 fk1 106 [] (fun x0 => vd_function_1 x0) [] ca106 (fun x0 a0 k0 hq0 => FT_pall (A1 := _) (fn106 x0 a0 k0  hq0 _ rfl)) rv5 hg6
 refine Oc [3, 0] ca105 hc7 ?_
 rintro c4 he8
 unfold i64ok at he8
 refine Jom 0 ?_; rintro b9 rfl
 refine Oq Vm (Oq Vx (Oq Vx (Oq Va (Oq Va (KS ?_)))))
 refine Oq Vm (Oq Vgeq (KS ?_))
 refine Kc ?_ ?_
 ·intro h10
  have g11 := dt h10
  refine KS ?_
  refine Oq Vm (Oq Vm (Oq (Vbd st76 [vi 3, vi i, vi rv5.1, vi (-1)]) (Ost (Scl [2] sh76 [vi 3, vi i, vi rv5.1, vi (-1)]) (Oq Va (KS ?_)))))
  have hq := q4 hrr ((GNode.mk 3 i rv5.1 (-1)), 6) (by simp only [vd_function, h10, hg6, cs4]); subst hq
  exact Kr () rfl (.cellN 0 rfl sh76 rfl (reads_Cl _ _) rfl (.tmp rfl .nil)) [5] en
 intro h10
 have g12 := df h10
 refine KS ?_
 refine Oq (Vfa fo54_1 3) (Oq (VldF sh52 3) (Oq (Vlen sl52) (Oq Vm (KS ?_))))
 refine Kl (γ := Nat × Int) (fun (r13, v30_14) => ⟨[(1, vi i), (2, funcsP), (6, p3), (9, (mv b9)), (28, vl fa1 fk1 f.Blocks), (29, vi (f.Blocks.length : Int)), (30, vi v30_14)], [Mp vstr vb okStr (mv b9) rv5.2, pAll [], Cl p3 [vi 0, vi 0, vi 0, vi 0], S fa1 fk1 f.Blocks, Mp vstr vb okStr funcsP funcs], vd_function_L0 f i funcs rv5.2 r13 v30_14 = vd_function_L0 f i funcs rv5.2 (((f.Blocks.length : Int) - 0).toNat) 0 ∧ r13 = ((f.Blocks.length : Int) - v30_14).toNat ∧ (0 : Int) ≤ v30_14 ∧ v30_14 ≤ (f.Blocks.length : Int) ∧ (-9223372036854775808 ≤ v30_14 ∧ v30_14 ≤ 9223372036854775807), r13⟩) (((f.Blocks.length : Int) - 0).toNat, 0) [0, 0, 1, 2, 3] ⟨rfl, rfl, aM1, aM1, aM1⟩ ?_
 rintro ⟨r13, v30_14⟩ ⟨hM15, hr16, hi17, hi18, hk19⟩
 refine JJ_nx fun _ _ hL hA => ?_; dsimp only at hL hA; subst hL hA
 refine Fb 40 3 fun _ => KS ?_
 refine Oq Vlss (KS ?_)
 refine Kc ?_ ?_
 ·intro h21
  have g22 := dt h21
  obtain ⟨r23, rfl⟩ := scc (n := r13) aM1
  refine KS ?_
  refine Oq Vm (Oq (Vi sl52 3) ?_)
  refine JJ_peek_GBlock v30_14.toNat 3 rfl rng fun a24 k25 hb26 => ?_
  refine Fb 72 1 fun _ => ?_
  refine Oq (VldA sh57 0) (Oa (Al ze57 [.string (bs (Str.mk [])), .slice none 0 0]) fun p28 => Oq Va (Ost (Scl [0] sh57 [.string (bs ((f.Blocks.getD v30_14.toNat default).Name)), vl a24 k25 ((f.Blocks.getD v30_14.toNat default).Stmts)]) (KS ?_)))
  refine Oq (Vfa fo57_1 0) (Oq (VldF sh55 0) (Oq (Vlen sl55) (Oq Vm (KS ?_))))
  refine Kl (γ := Nat × Int) (fun (r29, v38_30) => ⟨[(1, vi i), (2, funcsP), (6, p3), (9, (mv b9)), (28, vl fa1 fk1 f.Blocks), (29, vi (f.Blocks.length : Int)), (30, vi v30_14), (11, p28), (10, vi v30_14), (36, vl a24 k25 ((f.Blocks.getD v30_14.toNat default).Stmts)), (37, vi (((f.Blocks.getD v30_14.toNat default).Stmts).length : Int)), (38, vi v38_30)], [Cl p28 [.string (bs ((f.Blocks.getD v30_14.toNat default).Name)), vl a24 k25 ((f.Blocks.getD v30_14.toNat default).Stmts)], S a24 k25 ((f.Blocks.getD v30_14.toNat default).Stmts), Mp vstr vb okStr (mv b9) rv5.2, pAll [], Cl p3 [vi 0, vi 0, vi 0, vi 0], S fa1 fk1 f.Blocks, Mp vstr vb okStr funcsP funcs], vd_function_L1 i funcs rv5.2 v30_14 ((f.Blocks.getD v30_14.toNat default).Stmts) ((f.Blocks.getD v30_14.toNat default).Stmts) r29 v38_30 = vd_function_L1 i funcs rv5.2 v30_14 ((f.Blocks.getD v30_14.toNat default).Stmts) ((f.Blocks.getD v30_14.toNat default).Stmts) ((((((f.Blocks.getD v30_14.toNat default).Stmts).length : Int) : Int) - 0).toNat) 0 ∧ r29 = (((((f.Blocks.getD v30_14.toNat default).Stmts).length : Int) : Int) - v38_30).toNat ∧ (0 : Int) ≤ v38_30 ∧ (v38_30 ≤ (((f.Blocks.getD v30_14.toNat default).Stmts).length : Int) ∨ v38_30 = 0) ∧ (-9223372036854775808 ≤ v38_30 ∧ v38_30 ≤ 9223372036854775807), r29⟩) ((((((f.Blocks.getD v30_14.toNat default).Stmts).length : Int) : Int) - 0).toNat, 0) [0, 1, 2, 2, 3, 3, 4] ⟨rfl, rfl, aM1, (.inr rfl), aM1⟩ ?_
  rintro ⟨r29, v38_30⟩ ⟨hM31, hr32, hi33, hi34, hk35⟩
  refine JJ_nx fun _ _ hL hA => ?_; dsimp only at hL hA; subst hL hA
  refine Fb 72 1 fun _ => Fb 40 5 fun _ => KS ?_
  refine Oq Vlss (KS ?_)
  refine Kc ?_ ?_
  ·intro h38
   have g39 := dt h38
   obtain ⟨r40, rfl⟩ := scc (n := r29) aM1
   refine KS ?_
   refine Oq Vm (Oq (Vi sl55 1) ?_)
   refine JJ_peek_GStmt v38_30.toNat 1 rfl rng fun a41 k42 a43 k44 hb45 hb46 => ?_
   unfold i64ok at hb45
   refine Fb 16 1 fun _ => ?_
   refine FoS 1 fun ho48 => ?_
   refine Fb 16 2 fun _ => ?_
   refine FoS 2 fun ho50 => ?_
   refine Oq (VldA sh59 0) (Oa (Al ze59 [vi 0, .string (bs (Str.mk [])), .slice none 0 0, .slice none 0 0]) fun p51 => Oq Va (Ost (Scl [0] sh59 [vi ((((f.Blocks.getD v30_14.toNat default).Stmts).getD v38_30.toNat default).Op), .string (bs ((((f.Blocks.getD v30_14.toNat default).Stmts).getD v38_30.toNat default).Def)), .slice a41 (((((f.Blocks.getD v30_14.toNat default).Stmts).getD v38_30.toNat default).Uses).length) k42, .slice a43 (((((f.Blocks.getD v30_14.toNat default).Stmts).getD v38_30.toNat default).Targets).length) k44]) (KS ?_)))
   refine Oq Vm (Oq Va (KS ?_))
   refine Oq (Vfa fo59_0 0) (Oq (VldF sh3 0) (Oq Veql (KS ?_)))
   refine Kc ?_ ?_
   ·intro h52
    have g53 := eq_of_beq h52
    refine KS ?_
    refine Oq Vm (Oq Va (KS ?_))
    refine Oq (VldA sh59 0) (Oq Vm (Oq (Vfa fo57_1 4) (Oq (VldF sh55 4) (Oq (Vlen sl55) (Oq Vsub (Oq Veql (Oq Vm ?_)))))))
    refine letv (vd_statement (((f.Blocks.getD v30_14.toNat default).Stmts).getD v38_30.toNat default) (v38_30 == ((((f.Blocks.getD v30_14.toNat default).Stmts).length : Int) - 1)) funcs) fun rv54 hg55 => ?_
    have hc56 := fn107 ((((f.Blocks.getD v30_14.toNat default).Stmts).getD v38_30.toNat default)) a41 k42 a43 k44 ((v38_30 == ((((f.Blocks.getD v30_14.toNat default).Stmts).length : Int) - 1))) funcsP funcs pre pre rv54 hg55
    refine Oc [2, 3, 10] ca107 hc56 ?_
    rintro - he57
    unfold i64ok at he57
    refine Oq Va (KS ?_)
    refine Oq Vm (Oq Vneq (KS ?_))
    refine Kc ?_ ?_
    ·intro h58
     have g59 := ne_of_bne h58
     refine KS ?_
     refine Oq Vm (Oq Vm (Oq Vm (Oq (Vbd st76 [vi 3, vi i, vi v30_14, vi v38_30]) (Oq Vm (Ost (Scl [9] sh76 [vi 3, vi i, vi v30_14, vi v38_30]) (Oq Va (KS ?_)))))))
     have hR60 := q2 hM31 (.ret ((GNode.mk 3 i v30_14 v38_30), rv54)) (by simp only [vd_function_L1, h38, h52, h58, hg55, cs4])
     have hR61 := q2 hM15 (.ret ((GNode.mk 3 i v30_14 v38_30), rv54)) (by simp only [vd_function_L0, h21, h38, h52, h58, hg55, hR60, cs4])
     have hq := q4 hrr ((GNode.mk 3 i v30_14 v38_30), rv54) (by simp only [vd_function, h10, h21, h38, h52, h58, hg6, hg55, hR60, hR61, cs4]); subst hq
     exact Kr () rfl (.cellN 0 rfl sh76 rfl (reads_Cl _ _) rfl (.tmp rfl .nil)) [1] en
    intro h58
    have g62 := eq_of_bne_false h58
    refine KS ?_
    refine Oq Vadd (Oq Vm (KS ?_))
    exact Kg (r40, (v38_30 + 1)) [5, 5, 6, 6, 7, 7, 0] ⟨(q3 hM31 (by simp only [vd_function_L1, h38, h52, h58, hg55, cs4])), aM1, aM1, aM1, aM1⟩
   intro h52
   have g63 := ne_of_beq_false h52
   refine KS ?_
   refine Oq (VldA sh59 0) (Oq Vm (Oq (Vfa fo57_1 4) (Oq (VldF sh55 4) (Oq (Vlen sl55) (Oq Vsub (Oq Veql (Oq Vm ?_)))))))
   refine letv (vd_statement (((f.Blocks.getD v30_14.toNat default).Stmts).getD v38_30.toNat default) (v38_30 == ((((f.Blocks.getD v30_14.toNat default).Stmts).length : Int) - 1)) rv5.2) fun rv64 hg65 => ?_
   have hc66 := fn107 ((((f.Blocks.getD v30_14.toNat default).Stmts).getD v38_30.toNat default)) a41 k42 a43 k44 ((v38_30 == ((((f.Blocks.getD v30_14.toNat default).Stmts).length : Int) - 1))) (mv b9) rv5.2 pre pre rv64 hg65
   refine Oc [2, 3, 6] ca107 hc66 ?_
   rintro - he67
   unfold i64ok at he67
   refine Oq Va (KS ?_)
   refine Oq Vm (Oq Vneq (KS ?_))
   refine Kc ?_ ?_
   ·intro h68
    have g69 := ne_of_bne h68
    refine KS ?_
    refine Oq Vm (Oq Vm (Oq Vm (Oq (Vbd st76 [vi 3, vi i, vi v30_14, vi v38_30]) (Oq Vm (Ost (Scl [8] sh76 [vi 3, vi i, vi v30_14, vi v38_30]) (Oq Va (KS ?_)))))))
    have hR70 := q2 hM31 (.ret ((GNode.mk 3 i v30_14 v38_30), rv64)) (by simp only [vd_function_L1, h38, h52, h68, hg65, cs4])
    have hR71 := q2 hM15 (.ret ((GNode.mk 3 i v30_14 v38_30), rv64)) (by simp only [vd_function_L0, h21, h38, h52, h68, hg65, hR70, cs4])
    have hq := q4 hrr ((GNode.mk 3 i v30_14 v38_30), rv64) (by simp only [vd_function, h10, h21, h38, h52, h68, hg6, hg65, hR70, hR71, cs4]); subst hq
    exact Kr () rfl (.cellN 0 rfl sh76 rfl (reads_Cl _ _) rfl (.tmp rfl .nil)) [10] en
   intro h68
   have g72 := eq_of_bne_false h68
   refine KS ?_
   refine Oq Vadd (Oq Vm (KS ?_))
   exact Kg (r40, (v38_30 + 1)) [5, 5, 0, 5, 6, 6, 7] ⟨(q3 hM31 (by simp only [vd_function_L1, h38, h52, h68, hg65, cs4])), aM1, aM1, aM1, aM1⟩
  intro h38
  have g73 := df h38
  obtain rfl : r29 = 0 := by omega
  refine Ke ?_
  have hR74 := q2 hM31 (.brk ()) (by simp only [vd_function_L1, h38, cs4])
  refine KS ?_
  refine Oq Vadd (Oq Vm (KS ?_))
  exact Kg (r23, (v30_14 + 1)) [2, 2, 3, 3, 4] ⟨(q3 hM15 (by simp only [vd_function_L0, h21, h38, hR74, cs4])), aM1, aM1, aM1, aM1⟩
 intro h21
 have g75 := df h21
 obtain rfl : r13 = 0 := by omega
 refine Ke ?_
 have hR76 := q2 hM15 (.brk ()) (by simp only [vd_function_L0, h21, cs4])
 refine KS ?_
 refine Oq (Vbd st76 [vi 0, vi 0, vi 0, vi 0]) (Ost (Scl [2] sh76 [vi 0, vi 0, vi 0, vi 0]) (Oq Va (KS ?_)))
 have hq := q4 hrr ((GNode.mk 0 0 0 0), 0) (by simp only [vd_function, h10, h21, hg6, hR76, cs4]); subst hq
 exact Kr () rfl (.cellN 0 rfl sh76 rfl (reads_Cl _ _) rfl (.tmp rfl .nil)) [4] en
theorem fn109 (s : GStmt) (sa2 : Option Addr) (sk2 : Nat) (sa3 : Option Addr) (sk3 : Nat) (cap0P : Value) (cap0 : Int) (cap1P : Value) (cap1 : Int) (hs_0 : i64ok s.Op) (hs_1 : s.Def.b.length ≤ 140737488355328) (hcap0_0 : i64ok cap0) (hcap1_0 : i64ok cap1) (hn : 0 ≤ cap0 ∧ cap0 ≤ 100000 ∧ 0 ≤ cap1 ∧ cap1 ≤ 100000) (rr : Int × Int) (hrr : vd_Sizes_1 s cap0 cap1 = rr) : FT Tryz.prog 109 #[.agg #[vi s.Op, .string (bs s.Def), vl sa2 sk2 s.Uses, vl sa3 sk3 s.Targets], cap0P, cap1P] [S sa2 sk2 s.Uses, S sa3 sk3 s.Targets, Cl cap0P [vi cap0], Cl cap1P [vi cap1]] (fun g : Unit => i64ok rr.1 ∧ i64ok rr.2 ∧ (cap0 ≤ rr.1 ∧ rr.1 ≤ cap0 + 2 ∧ cap1 ≤ rr.2 ∧ rr.2 ≤ cap1 + 3)) (fun g => .tuple #[]) (fun g => [Cl cap0P [vi rr.1], Cl cap1P [vi rr.2]]) := by
 refine FTi Tryz.func109 fun w0 M0 F0 => ?_
 unfold i64ok at hs_0 hcap0_0 hcap1_0
 refine Fb 16 0 fun _ => ?_
 refine FoS 0 fun ho2 => ?_
 refine Fb 16 1 fun _ => ?_
 refine FoS 1 fun ho4 => ?_
 refine KS ?_
 refine Oa (Ab [vi s.Op, .string (bs s.Def), vl sa2 sk2 s.Uses, vl sa3 sk3 s.Targets]) fun p5 => KS ?_
 refine Oq (Vld sh3 3) (Oq Vadd (Ost (Scl [3] sh3 [vi (cap0 + 1)]) (KS ?_)))
 refine Oq (Vfa fo59_0 1) (Oq (VldF sh3 1) (KS ?_))
 refine Oq Veql (Oq Va (KS ?_))
 refine Kc ?_ ?_
 ·intro h6
  have g7 := eq_of_beq h6
  refine KS ?_
  refine Oq (Vld sh3 0) (Oq Vadd (Ost (Scl [0] sh3 [vi ((cap0 + 1) + 1)]) (KS ?_)))
  refine Oq (Vld sh3 4) (Oq Vadd (Ost (Scl [4] sh3 [vi (cap1 + 3)]) (KS ?_)))
  have hq := q4 hrr (((cap0 + 1) + 1), (cap1 + 3)) (by simp only [vd_Sizes_1, h6, cs4]); subst hq
  exact Kz () rfl .nil [1, 0] en
 intro h6
 have g8 := ne_of_beq_false h6
 refine KS ?_
 refine Oq Veql (Oq Va (KS ?_))
 refine Kc ?_ ?_
 ·intro h9
  have g10 := eq_of_beq h9
  refine KS ?_
  refine Oq (Vld sh3 4) (Oq Vadd (Ost (Scl [4] sh3 [vi (cap1 + 2)]) (KS ?_)))
  have hq := q4 hrr ((cap0 + 1), (cap1 + 2)) (by simp only [vd_Sizes_1, h6, h9, cs4]); subst hq
  exact Kz () rfl .nil [1, 0] en
 intro h9
 have g11 := ne_of_beq_false h9
 refine KS ?_
 refine Oq (Vld sh3 4) (Oq Vadd (Ost (Scl [4] sh3 [vi (cap1 + 1)]) (KS ?_)))
 have hq := q4 hrr ((cap0 + 1), (cap1 + 1)) (by simp only [vd_Sizes_1, h6, h9, cs4]); subst hq
 exact Kz () rfl .nil [1, 0] en
theorem fn108m0 (p : GProgram) (pa0 : Option Addr) (pk0 : Nat) (st0P : Value) (st0 : Int) (st1P : Value) (st1 : Int) (kwLA : Option Addr) (kwLK : Nat) (hst0_0 : i64ok st0) (hst1_0 : i64ok st1) (hps : PSm p = true) (hn : 0 ≤ st0 ∧ st0 ≤ 100 ∧ 0 ≤ st1 ∧ st1 ≤ 100) (rr : Int × Int) (hrr : vd_each_Sizes_1 p st0 st1 = rr) : FT Tryz.prog 108 #[.agg #[vl pa0 pk0 p.Funcs], .func (.func 109) #[] #[st0P, st1P]] [S pa0 pk0 p.Funcs, Cl st0P [vi st0], Cl st1P [vi st1], pv (gp 0) [vl kwLA kwLK kwL], S kwLA kwLK kwL] (fun g : Unit => i64ok rr.1 ∧ i64ok rr.2 ∧ (0 ≤ rr.1 ∧ rr.1 ≤ 10000 ∧ 0 ≤ rr.2 ∧ rr.2 ≤ 20000)) (fun g => .tuple #[]) (fun g => [Cl st0P [vi rr.1], Cl st1P [vi rr.2]]) := by
 refine FTi Tryz.func108 fun w0 M0 F0 => ?_
 unfold i64ok at hst0_0 hst1_0
 refine Fb 40 0 fun _ => Fb 16 4 fun _ => ?_
 refine FoS 4 fun ho3 => ?_
 refine KS ?_
 refine Oa (Ab [vl pa0 pk0 p.Funcs]) fun p4 => KS ?_
 refine Oq (VldA sh25 0) ?_
 refine letv (sx_Valid p) fun rv5 hg6 => ?_
 have hc7 := fn62 p pa0 pk0 kwLA kwLK pre rv5 hg6
 refine Oc [1, 4, 5] ca62 hc7 ?_
 rintro - -
 refine Oq Vnot (KS ?_)
 refine Kc ?_ ?_
 ·intro h8
  have h10 := not_true h8
  have hq := q4 hrr (st0, st1) (by simp only [vd_each_Sizes_1, h8, h10, hg6, cs4]); subst hq
  exact Kr () rfl .nil [2, 2] en
 intro h8
 have h13 := not_false h8
 try have hVb := SVal_b (p := p) (by simp only [h8, h13, hg6])
 refine KS ?_
 refine Oq (Vfa fo25_0 0) (Oq (VldF sh23 0) (Oq (Vlen sl23) (Oq Vm (KS ?_))))
 refine Kl (γ := Nat × Int × Int × Int) (fun (r15, st00_16, st10_17, v16_18) => ⟨[(1, .func (.func 109) #[] #[st0P, st1P]), (14, vl pa0 pk0 p.Funcs), (15, vi (p.Funcs.length : Int)), (16, vi v16_18)], [S pa0 pk0 p.Funcs, Cl st0P [vi st00_16], Cl st1P [vi st10_17], pv (gp 0) [vl kwLA kwLK kwL], S kwLA kwLK kwL], vd_each_Sizes_1_L0 p r15 st00_16 st10_17 v16_18 = vd_each_Sizes_1_L0 p (((p.Funcs.length : Int) - 0).toNat) st0 st1 0 ∧ r15 = ((p.Funcs.length : Int) - v16_18).toNat ∧ (0 : Int) ≤ v16_18 ∧ v16_18 ≤ (p.Funcs.length : Int) ∧ (-9223372036854775808 ≤ st00_16 ∧ st00_16 ≤ 9223372036854775807) ∧ (-9223372036854775808 ≤ st10_17 ∧ st10_17 ≤ 9223372036854775807) ∧ (-9223372036854775808 ≤ v16_18 ∧ v16_18 ≤ 9223372036854775807) ∧ (0 ≤ st00_16 ∧ st00_16 ≤ 100 + 1100 * v16_18) ∧ (0 ≤ st10_17 ∧ st10_17 ≤ 100 + 1600 * v16_18), r15⟩) (((p.Funcs.length : Int) - 0).toNat, st0, st1, 0) [1, 2, 2, 2, 3] ⟨rfl, rfl, aM1, aM1, aM1, aM1, aM1, iv0, iv0⟩ ?_
 rintro ⟨r15, st00_16, st10_17, v16_18⟩ ⟨hM19, hr20, hi21, hi22, hk23, hk24, hk25, hv26, hv27⟩
 refine JJ_nx fun _ _ hL hA => ?_; dsimp only at hL hA; subst hL hA
 refine Fb 40 0 fun _ => Fb 16 4 fun _ => ?_
 refine FoS 4 fun ho30 => ?_
 refine KS ?_
 refine Oq Vlss (KS ?_)
 refine Kc ?_ ?_
 ·intro h31
  have g32 := dt h31
  have hVf := hVb.2 v16_18.toNat
  obtain ⟨r33, rfl⟩ := scc (n := r15) aM1
  refine KS ?_
  refine Oq (Vi sl23 0) ?_
  refine JJ_peek_GFunc v16_18.toNat 0 rfl rng fun a34 k35 hb36 => ?_
  refine Fb 40 1 fun _ => ?_
  refine Oq (VldA sh54 0) (Oa (Al ze54 [.string (bs (Str.mk [])), .slice none 0 0]) fun p38 => Ost (Scl [0] sh54 [.string (bs ((p.Funcs.getD v16_18.toNat default).Name)), vl a34 k35 ((p.Funcs.getD v16_18.toNat default).Blocks)]) (KS ?_))
  refine Oq (Vfa fo54_1 0) (Oq (VldF sh52 0) (Oq (Vlen sl52) (Oq Vm (KS ?_))))
  refine Kl (γ := Nat × Int × Int × Int) (fun (r39, st00_40, st10_41, v23_42) => ⟨[(1, .func (.func 109) #[] #[st0P, st1P]), (14, vl pa0 pk0 p.Funcs), (15, vi (p.Funcs.length : Int)), (16, vi v16_18), (21, vl a34 k35 ((p.Funcs.getD v16_18.toNat default).Blocks)), (22, vi (((p.Funcs.getD v16_18.toNat default).Blocks).length : Int)), (23, vi v23_42)], [S a34 k35 ((p.Funcs.getD v16_18.toNat default).Blocks), S pa0 pk0 p.Funcs, Cl st0P [vi st00_40], Cl st1P [vi st10_41], pv (gp 0) [vl kwLA kwLK kwL], S kwLA kwLK kwL], vd_each_Sizes_1_L1 ((p.Funcs.getD v16_18.toNat default).Blocks) r39 st00_40 st10_41 v23_42 = vd_each_Sizes_1_L1 ((p.Funcs.getD v16_18.toNat default).Blocks) ((((((p.Funcs.getD v16_18.toNat default).Blocks).length : Int) : Int) - 0).toNat) st00_16 st10_17 0 ∧ r39 = (((((p.Funcs.getD v16_18.toNat default).Blocks).length : Int) : Int) - v23_42).toNat ∧ (0 : Int) ≤ v23_42 ∧ (v23_42 ≤ (((p.Funcs.getD v16_18.toNat default).Blocks).length : Int) ∨ v23_42 = 0) ∧ (-9223372036854775808 ≤ st00_40 ∧ st00_40 ≤ 9223372036854775807) ∧ (-9223372036854775808 ≤ st10_41 ∧ st10_41 ≤ 9223372036854775807) ∧ (-9223372036854775808 ≤ v23_42 ∧ v23_42 ≤ 9223372036854775807) ∧ (0 ≤ st00_40 ∧ st00_40 ≤ st00_16 + 66 * v23_42) ∧ (0 ≤ st10_41 ∧ st10_41 ≤ st10_17 + 98 * v23_42), r39⟩) ((((((p.Funcs.getD v16_18.toNat default).Blocks).length : Int) : Int) - 0).toNat, st00_16, st10_17, 0) [2, 3, 4, 4, 4, 5] ⟨rfl, rfl, aM1, (.inr rfl), aM1, aM1, aM1, iv0, iv0⟩ ?_
  rintro ⟨r39, st00_40, st10_41, v23_42⟩ ⟨hM43, hr44, hi45, hi46, hk47, hk48, hk49, hv50, hv51⟩
  refine JJ_nx fun _ _ hL hA => ?_; dsimp only at hL hA; subst hL hA
  refine Fb 40 0 fun _ => Fb 40 1 fun _ => Fb 16 5 fun _ => ?_
  refine FoS 5 fun ho55 => ?_
  refine KS ?_
  refine Oq Vlss (KS ?_)
  refine Kc ?_ ?_
  ·intro h56
   have g57 := dt h56
   have hVk := hVf.2 v23_42.toNat
   obtain ⟨r58, rfl⟩ := scc (n := r39) aM1
   refine KS ?_
   refine Oq (Vi sl52 0) ?_
   refine JJ_peek_GBlock v23_42.toNat 0 rfl rng fun a59 k60 hb61 => ?_
   refine Fb 72 1 fun _ => ?_
   refine Oq (VldA sh57 0) (Oa (Al ze57 [.string (bs (Str.mk [])), .slice none 0 0]) fun p63 => Ost (Scl [0] sh57 [.string (bs ((((p.Funcs.getD v16_18.toNat default).Blocks).getD v23_42.toNat default).Name)), .slice a59 (((((p.Funcs.getD v16_18.toNat default).Blocks).getD v23_42.toNat default).Stmts).length) k60]) (KS ?_))
   refine Oq (Vfa fo57_1 0) (Oq (VldF sh55 0) (Oq (Vlen sl55) (Oq Vm (KS ?_))))
   refine Kl (γ := Nat × Int × Int × Int) (fun (r64, st00_65, st10_66, v30_67) => ⟨[(1, .func (.func 109) #[] #[st0P, st1P]), (14, vl pa0 pk0 p.Funcs), (15, vi (p.Funcs.length : Int)), (16, vi v16_18), (21, vl a34 k35 ((p.Funcs.getD v16_18.toNat default).Blocks)), (22, vi (((p.Funcs.getD v16_18.toNat default).Blocks).length : Int)), (23, vi v23_42), (28, .slice a59 (((((p.Funcs.getD v16_18.toNat default).Blocks).getD v23_42.toNat default).Stmts).length) k60), (29, vi (((((p.Funcs.getD v16_18.toNat default).Blocks).getD v23_42.toNat default).Stmts).length : Int)), (30, vi v30_67)], [S a59 k60 ((((p.Funcs.getD v16_18.toNat default).Blocks).getD v23_42.toNat default).Stmts), S a34 k35 ((p.Funcs.getD v16_18.toNat default).Blocks), S pa0 pk0 p.Funcs, Cl st0P [vi st00_65], Cl st1P [vi st10_66], pv (gp 0) [vl kwLA kwLK kwL], S kwLA kwLK kwL], vd_each_Sizes_1_L2 ((((p.Funcs.getD v16_18.toNat default).Blocks).getD v23_42.toNat default).Stmts) r64 st00_65 st10_66 v30_67 = vd_each_Sizes_1_L2 ((((p.Funcs.getD v16_18.toNat default).Blocks).getD v23_42.toNat default).Stmts) ((((((((p.Funcs.getD v16_18.toNat default).Blocks).getD v23_42.toNat default).Stmts).length : Int) : Int) - 0).toNat) st00_40 st10_41 0 ∧ r64 = (((((((p.Funcs.getD v16_18.toNat default).Blocks).getD v23_42.toNat default).Stmts).length : Int) : Int) - v30_67).toNat ∧ (0 : Int) ≤ v30_67 ∧ (v30_67 ≤ (((((p.Funcs.getD v16_18.toNat default).Blocks).getD v23_42.toNat default).Stmts).length : Int) ∨ v30_67 = 0) ∧ (-9223372036854775808 ≤ st00_65 ∧ st00_65 ≤ 9223372036854775807) ∧ (-9223372036854775808 ≤ st10_66 ∧ st10_66 ≤ 9223372036854775807) ∧ (-9223372036854775808 ≤ v30_67 ∧ v30_67 ≤ 9223372036854775807) ∧ (0 ≤ st00_65 ∧ st00_65 ≤ st00_40 + 2 * v30_67) ∧ (0 ≤ st10_66 ∧ st10_66 ≤ st10_41 + 3 * v30_67), r64⟩) ((((((((p.Funcs.getD v16_18.toNat default).Blocks).getD v23_42.toNat default).Stmts).length : Int) : Int) - 0).toNat, st00_40, st10_41, 0) [2, 3, 4, 5, 5, 5, 6] ⟨rfl, rfl, aM1, (.inr rfl), aM1, aM1, aM1, iv0, iv0⟩ ?_
   rintro ⟨r64, st00_65, st10_66, v30_67⟩ ⟨hM68, hr69, hi70, hi71, hk72, hk73, hk74, hv75, hv76⟩
   refine JJ_nx fun _ _ hL hA => ?_; dsimp only at hL hA; subst hL hA
   refine Fb 72 0 fun _ => Fb 40 1 fun _ => Fb 40 2 fun _ => Fb 16 6 fun _ => ?_
   refine FoS 6 fun ho81 => ?_
   refine KS ?_
   refine Oq Vlss (KS ?_)
   refine Kc ?_ ?_
   ·intro h82
    have g83 := dt h82
    have hVs := hVk.2 v30_67.toNat
    obtain ⟨r84, rfl⟩ := scc (n := r64) aM1
    refine KS ?_
    refine Oq (Vi sl55 0) ?_
    refine JJ_peek_GStmt v30_67.toNat 0 rfl rng fun a85 k86 a87 k88 hb89 hb90 => ?_
    unfold i64ok at hb89
    refine Fb 16 1 fun _ => ?_
    refine FoS 1 fun ho92 => ?_
    refine Fb 16 2 fun _ => ?_
    refine FoS 2 fun ho94 => ?_
    refine Oq (VldA sh59 0) (Oa (Al ze59 [vi 0, .string (bs (Str.mk [])), .slice none 0 0, .slice none 0 0]) fun p95 => Ost (Scl [0] sh59 [vi ((((((p.Funcs.getD v16_18.toNat default).Blocks).getD v23_42.toNat default).Stmts).getD v30_67.toNat default).Op), .string (bs ((((((p.Funcs.getD v16_18.toNat default).Blocks).getD v23_42.toNat default).Stmts).getD v30_67.toNat default).Def)), .slice a85 (((((((p.Funcs.getD v16_18.toNat default).Blocks).getD v23_42.toNat default).Stmts).getD v30_67.toNat default).Uses).length) k86, .slice a87 (((((((p.Funcs.getD v16_18.toNat default).Blocks).getD v23_42.toNat default).Stmts).getD v30_67.toNat default).Targets).length) k88]) (KS ?_))
    refine Oq Vm (Oq (VldA sh59 0) ?_)
    refine letv (vd_Sizes_1 (((((p.Funcs.getD v16_18.toNat default).Blocks).getD v23_42.toNat default).Stmts).getD v30_67.toNat default) st00_65 st10_66) fun rv96 hg97 => ?_
    have hc98 := fn109 ((((((p.Funcs.getD v16_18.toNat default).Blocks).getD v23_42.toNat default).Stmts).getD v30_67.toNat default)) a85 k86 a87 k88 st0P st00_65 st1P st10_66 pre pre pre pre pre rv96 hg97
    refine JO_call [2, 3, 7, 7] rfl rfl rfl (OpC.clo («as» := [(.agg #[vi ((((((p.Funcs.getD v16_18.toNat default).Blocks).getD v23_42.toNat default).Stmts).getD v30_67.toNat default).Op), .string (bs ((((((p.Funcs.getD v16_18.toNat default).Blocks).getD v23_42.toNat default).Stmts).getD v30_67.toNat default).Def)), .slice a85 (((((((p.Funcs.getD v16_18.toNat default).Blocks).getD v23_42.toNat default).Stmts).getD v30_67.toNat default).Uses).length) k86, .slice a87 (((((((p.Funcs.getD v16_18.toNat default).Blocks).getD v23_42.toNat default).Stmts).getD v30_67.toNat default).Targets).length) k88] : Value), (st0P : Value), (st1P : Value)]) rfl rfl ca109 rfl (by simp)) hc98 rfl ?_
    rintro - ⟨he99, he100, he101⟩
    unfold i64ok at he99 he100
    refine KS ?_
    refine Oq Vadd (Oq Vm (KS ?_))
    exact Kg (r84, rv96.1, rv96.2, (v30_67 + 1)) [6, 7, 8, 0, 0, 7, 8] ⟨(q3 hM68 (by simp only [vd_each_Sizes_1_L2, h82, hg97, cs4])), aM1, aM1, aM1, aM1, aM1, aM1, iv1, iv1⟩
   intro h82
   have g102 := df h82
   obtain rfl : r64 = 0 := by omega
   refine Ke ?_
   have hR103 := q2 hM68 (st00_65, st10_66) (by simp only [vd_each_Sizes_1_L2, h82, cs4])
   refine KS ?_
   refine Oq Vadd (Oq Vm (KS ?_))
   exact Kg (r58, st00_65, st10_66, (v23_42 + 1)) [1, 2, 3, 3, 3, 4] ⟨(q3 hM43 (by simp only [vd_each_Sizes_1_L1, h56, h82, hR103, cs4])), aM1, aM1, aM1, aM1, aM1, aM1, iv1, iv1⟩
  intro h56
  have g104 := df h56
  obtain rfl : r39 = 0 := by omega
  refine Ke ?_
  have hR105 := q2 hM43 (st00_40, st10_41) (by simp only [vd_each_Sizes_1_L1, h56, cs4])
  refine KS ?_
  refine Oq Vadd (Oq Vm (KS ?_))
  exact Kg (r33, st00_40, st10_41, (v16_18 + 1)) [1, 2, 2, 2, 3] ⟨(q3 hM19 (by simp only [vd_each_Sizes_1_L0, h31, h56, hR105, cs4])), aM1, aM1, aM1, aM1, aM1, aM1, iv1, iv1⟩
 intro h31
 have g106 := df h31
 obtain rfl : r15 = 0 := by omega
 refine Ke ?_
 have hR107 := q2 hM19 (st00_16, st10_17) (by simp only [vd_each_Sizes_1_L0, h31, cs4])
 have hq := q4 hrr (st00_16, st10_17) (by simp only [vd_each_Sizes_1, h8, h13, h31, hg6, hR107, cs4]); subst hq
 exact Kz () rfl .nil [1, 1] en
theorem fn66 (p : GProgram) (pa0 : Option Addr) (pk0 : Nat) (kwLA : Option Addr) (kwLK : Nat) (hps : PSm p = true) (rr : Int × Int) (hrr : vd_Sizes p = rr) : FT Tryz.prog 66 #[.agg #[vl pa0 pk0 p.Funcs]] [S pa0 pk0 p.Funcs, pv (gp 0) [vl kwLA kwLK kwL], S kwLA kwLK kwL] (fun g : Unit => i64ok rr.1 ∧ i64ok rr.2 ∧ (0 ≤ rr.1 ∧ rr.1 ≤ 10000 ∧ 0 ≤ rr.2 ∧ rr.2 ≤ 20000)) (fun g => .tuple #[vi rr.1, vi rr.2]) (fun g => []) := by
 refine FTi Tryz.func66 fun w0 M0 F0 => Fb 40 0 fun _ => Fb 16 2 fun _ => ?_
 refine FoS 2 fun ho3 => ?_
 refine KS ?_
 refine Oa (Ab [vl pa0 pk0 p.Funcs]) fun p4 => Oq Va (Oq Va (KS ?_))
 refine Oq (VldA sh25 0) ?_
 refine letv (sx_Valid p) fun rv5 hg6 => ?_
 have hc7 := fn62 p pa0 pk0 kwLA kwLK pre rv5 hg6
 refine Oc [1, 2, 3] ca62 hc7 ?_
 rintro - -
 refine Oq Vnot (KS ?_)
 refine Kc ?_ ?_
 ·intro h8
  have h10 := not_true h8
  refine KS ?_
  refine Oq Va (Oq Va (KS ?_))
  have hq := q4 hrr (0, 0) (by simp only [vd_Sizes, h8, h10, hg6, cs4]); subst hq
  exact Kr () rfl (.tmp rfl (.tmp rfl .nil)) [] en
 intro h8
 have h13 := not_false h8
 try have hVb := SVal_b (p := p) (by simp only [h8, h13, hg6])
 refine KS ?_
 refine JK_drawK [0, 1, 3, 7, 0, 16, 48, 0, 0, 399, 1023] fmix ?_
 refine Dv [0] (Vfa fo25_0 0) (Dv [0] (VldF sh23 0) (Dv [] (Vlen sl23) (Dv [] Vmul (Dv [0] (Vfa fo25_0 0) (Dv [0] (VldF sh23 0) (Dv [] (Vlen sl23) (Dx [] [] [0] (fun G => (G.g 7 0)) [fun G => Cl (G.g 7 0) [vi 0]] (fun G => xA (Al ze3 [vi 0])) (Dx [] [] [0] (fun G => (G.g 8 0)) [fun G => Cl (G.g 8 0) [vi 0]] (fun G => xA (Al ze3 [vi 0])) (Dx0 [4] [4] [0] [fun G => Cl (G.g 7 0) [vi (2 * (p.Funcs.length : Int))]] (fun G => xS (Scl [0] sh3 [vi (2 * (p.Funcs.length : Int))])) ?_)))))))))
 refine Dx0 [5] [5] [0] [fun G => Cl (G.g 8 0) [vi (p.Funcs.length : Int)]] (fun G => xS (Scl [0] sh3 [vi (p.Funcs.length : Int)])) ?_
 refine Dn ⟨by kernel_rfl, fun G => ?_⟩
 refine Jw2 [(1, p4), (4, (G.g 7 0)), (5, (G.g 8 0))] [0, 1, 2, 3] [Cl (G.g 7 0) [vi (2 * (p.Funcs.length : Int))], Cl (G.g 8 0) [vi (p.Funcs.length : Int)]] ?_
 generalize G.g 7 0 = p15, G.g 8 0 = p16
 refine KS ?_
 refine Oq (VldA sh25 0) (Oq (Vf [p15, p16]) ?_)
 refine letv (vd_each_Sizes_1 p (2 * (p.Funcs.length : Int)) (p.Funcs.length : Int)) fun rv17 hg18 => ?_
 have hc19 := fn108m0 p pa0 pk0 p15 (2 * (p.Funcs.length : Int)) p16 (p.Funcs.length : Int) kwLA kwLK pre pre pre pre rv17 hg18
 refine Oc [1, 4, 4, 2, 3] ca108 hc19 ?_
 rintro - ⟨he20, he21, he22⟩
 unfold i64ok at he20 he21
 refine KS ?_
 refine Kq [0, 0, 1, 7] fmix ?_
 refine Qv [0] (Vld sh3 0) (Qv [1] (Vld sh3 0) (Qv [] Va (Qv [] Va ?_)))
 refine Qn ⟨by kernel_rfl, ?_⟩
 have hq := q4 hrr (rv17.1, rv17.2) (by simp only [vd_Sizes, h8, h13, hg6, hg18, cs4]); subst hq
 exact Kr () rfl (.tmp rfl (.tmp rfl .nil)) [] en
theorem fn110 (n : Str) (cap0P : Value) (cap0 : List (Str × Bool)) (cap0m0 : Value) (cap1P : Value) (cap1 : List Str) (cap1a0 : Option Addr) (cap1k0 : Nat) (hn_0 : n.b.length ≤ 140737488355328) (ho : cap1.length ≤ 1000000) (rr : (List (Str × Bool)) × List Str) (hrr : vd_Variables_1 n cap0 cap1 = rr) : FT Tryz.prog 110 #[.string (bs n), cap0P, cap1P] [Cl cap0P [cap0m0], Mp vstr vb okStr cap0m0 cap0, Cl cap1P [vl cap1a0 cap1k0 cap1], O cap1a0 cap1k0 cap1] (fun g : Value => (rr.2.length ≤ cap1.length + 1)) (fun g => .tuple #[]) (fun g => [Cl cap0P [cap0m0], Mp vstr vb okStr cap0m0 rr.1, Cl cap1P [g], os g rr.2]) := by
 refine FTi Tryz.func110 fun w0 M0 F0 => Fb 16 3 fun _ => ?_
 refine FoS 3 fun ho2 => ?_
 refine KS ?_
 refine Oq Vm (Oq (VneS (l := n) (m := (Str.mk []))) (Oq Vm ?_))
 refine Js 6 ?_ ?_
 ·intro h3
  have g4 := ne_of_bne h3
  refine Oq (Vld sh112 0) (Oq Vm (Oq (Vmk1 1 false mt112 (kStr un9) ze4 (ek := vstr) (ev := vb) (ok := okStr) (key := n) pre) (Oq Vnot (Oq Vpt (KS ?_)))))
  refine Kc ?_ ?_
  ·intro h5
   have h7 := not_true h5
   refine KS ?_
   refine Oq (Vld sh112 0) (Oq Vm (Ost (Smp [1] mt112 (kStr un9) true (ek := vstr) (ev := vb) (ok := okStr) (key := n) pre) (KS ?_)))
   refine Oq (Vld sh51 2) (Oq Vm (Oa (AsV sl51 sz51 [.string (bs n)] [.string (bs n)]) fun c9 => ?_))
   refine Jo 0 ?_; rintro a10 k11 rfl
   refine Jl [0] (Ent.cr1 (α := Str) (A := []) _ n _ aB1 (fun _ => ⟨rfl, aS1⟩)) ?_
   refine Oa (ApO [4, 0] sl51 sl51 sz51) fun c12 => ?_
   refine Jo 0 ?_; rintro a13 k14 rfl
   refine Fb 16 0 fun _ => ?_
   refine FoS 0 fun ho16 => ?_
   have hn17 := la cap1 ([n] : List Str)
   refine Ost (Scl [3] sh51 [vl a13 k14 (cap1 ++ [n])]) (KS ?_)
   have hq := q4 hrr ((mset cap0 n true), (cap1 ++ [n])) (by simp only [vd_Variables_1, h3, h5, h7, cs4]); subst hq
   exact Kz (vl a13 k14 (cap1 ++ [n])) rfl .nil [3, 2, 0, 0] en
  intro h5
  have h19 := not_false h5
  refine KS ?_
  have hq := q4 hrr (cap0, cap1) (by simp only [vd_Variables_1, h3, h5, h19, cs4]); subst hq
  exact Kz (vl cap1a0 cap1k0 cap1) rfl .nil [0, 0, 0, 0] en
 intro h3
 have g21 := eq_of_bne_false h3
 refine Osk (Osk (Osk (Osk (Oq Vpf (KS ?_)))))
 refine Kf (KS ?_)
 have hq := q4 hrr (cap0, cap1) (by simp only [vd_Variables_1, h3, cs4]); subst hq
 exact Kz (vl cap1a0 cap1k0 cap1) rfl .nil [0, 0, 0, 0] en
theorem fn111m0 (s : GStmt) (sa2 : Option Addr) (sk2 : Nat) (sa3 : Option Addr) (sk3 : Nat) (st0P : Value) (st0 : List (Str × Bool)) (st0m0 : Value) (st1P : Value) (st1 : List Str) (st1a0 : Option Addr) (st1k0 : Nat) (cap0P : Value) (hs_0 : i64ok s.Op) (hs_1 : s.Def.b.length ≤ 140737488355328) (ho : st1.length ≤ 900000 ∧ s.Uses.length ≤ 4) (rr : (List (Str × Bool)) × List Str) (hrr : vd_Variables_2_Variables_1 s st0 st1 = rr) : FT Tryz.prog 111 #[.agg #[vi s.Op, .string (bs s.Def), vl sa2 sk2 s.Uses, vl sa3 sk3 s.Targets], cap0P] [S sa2 sk2 s.Uses, S sa3 sk3 s.Targets, Cl st0P [st0m0], Mp vstr vb okStr st0m0 st0, Cl st1P [vl st1a0 st1k0 st1], O st1a0 st1k0 st1, pv cap0P [.func (.func 110) #[] #[st0P, st1P]]] (fun g : Value => (rr.2.length ≤ st1.length + 5)) (fun g => .tuple #[]) (fun g => [Cl st0P [st0m0], Mp vstr vb okStr st0m0 rr.1, Cl st1P [g], os g rr.2]) := by
 refine FTi Tryz.func111 fun w0 M0 F0 => ?_
 unfold i64ok at hs_0
 refine Fb 16 0 fun _ => ?_
 refine FoS 0 fun ho2 => ?_
 refine Fb 16 1 fun _ => ?_
 refine FoS 1 fun ho4 => ?_
 refine Fb 16 5 fun _ => ?_
 refine FoS 5 fun ho6 => ?_
 refine KS ?_
 refine Oa (Ab [vi s.Op, .string (bs s.Def), vl sa2 sk2 s.Uses, vl sa3 sk3 s.Targets]) fun p7 => KS ?_
 refine Oq (Vld sh131 7) (Oq (Vfa fo59_1 0) (Oq (VldF sh9 0) ?_))
 refine letv (vd_Variables_1 s.Def st0 st1) fun rv9 hg10 => ?_
 have hc11 := fn110 s.Def st0P st0 st0m0 st1P st1 st1a0 st1k0 pre pre rv9 hg10
 refine JO_call [3, 3, 3, 3] rfl rfl rfl (OpC.clo («as» := [(.string (bs s.Def) : Value), (st0P : Value), (st1P : Value)]) rfl rfl ca110 rfl (by simp)) hc11 rfl ?_
 rintro c8 he12
 refine Jo 3 ?_; rintro a13 k14 rfl
 refine Fb 16 3 fun _ => ?_
 refine FoS 3 fun ho16 => ?_
 refine KS ?_
 refine Oq (Vfa fo59_2 4) (Oq (VldF sh51 4) (Oq (Vlen sl51) (Oq Vm (KS ?_))))
 refine Kl (γ := Nat × (List (Str × Bool)) × List Str × Int × Option Addr × Nat) (fun (r17, st00_18, st10_19, v12_20, a21, k22) => ⟨[(1, cap0P), (10, vl sa2 sk2 s.Uses), (11, vi (s.Uses.length : Int)), (12, vi v12_20)], [O a21 k22 st10_19, Cl st0P [st0m0], Mp vstr vb okStr st0m0 st00_18, Cl st1P [vl a21 k22 st10_19], S sa2 sk2 s.Uses, pv cap0P [.func (.func 110) #[] #[st0P, st1P]]], vd_Variables_2_Variables_1_L0 s r17 st00_18 st10_19 v12_20 = vd_Variables_2_Variables_1_L0 s (((s.Uses.length : Int) - 0).toNat) rv9.1 rv9.2 0 ∧ r17 = ((s.Uses.length : Int) - v12_20).toNat ∧ (0 : Int) ≤ v12_20 ∧ v12_20 ≤ (s.Uses.length : Int) ∧ (-9223372036854775808 ≤ v12_20 ∧ v12_20 ≤ 9223372036854775807) ∧ ((st10_19.length : Int) ≤ (st1.length : Int) + 1 + v12_20), r17⟩) (((s.Uses.length : Int) - 0).toNat, rv9.1, rv9.2, 0, a13, k14) [3, 0, 0, 0, 1, 3] ⟨rfl, rfl, aM1, aM1, aM1, iv0⟩ ?_
 rintro ⟨r17, st00_18, st10_19, v12_20, a21, k22⟩ ⟨hM23, hr24, hi25, hi26, hk27, hv28⟩
 refine JJ_nx fun _ _ hL hA => ?_; dsimp only at hL hA; subst hL hA
 refine Fb 16 0 fun _ => ?_
 refine FoS 0 fun ho30 => ?_
 refine Fb 16 4 fun _ => ?_
 refine FoS 4 fun ho32 => ?_
 refine KS ?_
 refine Oq Vlss (KS ?_)
 refine Kc ?_ ?_
 ·intro h33
  have g34 := dt h33
  obtain ⟨r35, rfl⟩ := scc (n := r17) aM1
  refine KS ?_
  refine Oq (Vi sl51 4) ?_
  have hb36 := okS (i := v12_20.toNat) ho32 rng
  refine Oq (VldS sh9 4) (Oq Va (KS ?_))
  refine Oq (Vld sh131 5) (Oq Vm ?_)
  refine letv (vd_Variables_1 (s.Uses.getD v12_20.toNat default) st00_18 st10_19) fun rv38 hg39 => ?_
  have hc40 := fn110 ((s.Uses.getD v12_20.toNat default)) st0P st00_18 st0m0 st1P st10_19 a21 k22 pre pre rv38 hg39
  refine JO_call [1, 1, 1, 0] rfl rfl rfl (OpC.clo («as» := [(.string (bs (s.Uses.getD v12_20.toNat default)) : Value), (st0P : Value), (st1P : Value)]) rfl rfl ca110 rfl (by simp)) hc40 rfl ?_
  rintro c37 he41
  refine Jo 3 ?_; rintro a42 k43 rfl
  refine Fb 16 3 fun _ => ?_
  refine FoS 3 fun ho45 => ?_
  refine KS ?_
  refine Oq Vadd (Oq Vm (KS ?_))
  exact Kg (r35, rv38.1, rv38.2, (v12_20 + 1), a42, k43) [3, 0, 0, 0, 0, 1] ⟨(q3 hM23 (by simp only [vd_Variables_2_Variables_1_L0, h33, hg39, cs4])), aM1, aM1, aM1, aM1, iv1⟩
 intro h33
 have g46 := df h33
 obtain rfl : r17 = 0 := by omega
 refine Ke ?_
 have hR47 := q2 hM23 (st00_18, st10_19) (by simp only [vd_Variables_2_Variables_1_L0, h33, cs4])
 have hq := q4 hrr (st00_18, st10_19) (by simp only [vd_Variables_2_Variables_1, h33, hg10, hR47, cs4]); subst hq
 exact Kz (vl a21 k22 st10_19) rfl .nil [1, 1, 1, 0] en
theorem fn108m1 (p : GProgram) (pa0 : Option Addr) (pk0 : Nat) (st1P : Value) (st1 : List (Str × Bool)) (st1m0 : Value) (st2P : Value) (st2 : List Str) (st2a0 : Option Addr) (st2k0 : Nat) (st0P : Value) (kwLA : Option Addr) (kwLK : Nat) (hps : PSm p = true) (ho : st2.length = 0) (rr : (List (Str × Bool)) × List Str) (hrr : vd_each_Variables_2 p st1 st2 = rr) : FT Tryz.prog 108 #[.agg #[vl pa0 pk0 p.Funcs], .func (.func 111) #[] #[st0P]] [S pa0 pk0 p.Funcs, Cl st1P [st1m0], Mp vstr vb okStr st1m0 st1, Cl st2P [vl st2a0 st2k0 st2], O st2a0 st2k0 st2, pv st0P [.func (.func 110) #[] #[st1P, st2P]], pv (gp 0) [vl kwLA kwLK kwL], S kwLA kwLK kwL] (fun g : Value => (rr.2.length ≤ 30000)) (fun g => .tuple #[]) (fun g => [Cl st1P [st1m0], Mp vstr vb okStr st1m0 rr.1, Cl st2P [g], os g rr.2]) := by
 refine FTi Tryz.func108 fun w0 M0 F0 => Fb 40 0 fun _ => Fb 16 4 fun _ => ?_
 refine FoS 4 fun ho3 => ?_
 refine Fb 16 7 fun _ => ?_
 refine FoS 7 fun ho5 => ?_
 refine KS ?_
 refine Oa (Ab [vl pa0 pk0 p.Funcs]) fun p6 => KS ?_
 refine Oq (VldA sh25 0) ?_
 refine letv (sx_Valid p) fun rv7 hg8 => ?_
 have hc9 := fn62 p pa0 pk0 kwLA kwLK pre rv7 hg8
 refine Oc [1, 7, 8] ca62 hc9 ?_
 rintro - -
 refine Oq Vnot (KS ?_)
 refine Kc ?_ ?_
 ·intro h10
  have h12 := not_true h10
  have hq := q4 hrr (st1, st2) (by simp only [vd_each_Variables_2, h10, h12, hg8, cs4]); subst hq
  exact Kr (vl st2a0 st2k0 st2) rfl .nil [2, 2, 2, 2] en
 intro h10
 have h15 := not_false h10
 try have hVb := SVal_b (p := p) (by simp only [h10, h15, hg8])
 refine KS ?_
 refine Oq (Vfa fo25_0 0) (Oq (VldF sh23 0) (Oq (Vlen sl23) (Oq Vm (KS ?_))))
 refine Kl (γ := Nat × (List (Str × Bool)) × List Str × Int × Option Addr × Nat) (fun (r17, st10_18, st20_19, v16_20, a21, k22) => ⟨[(1, .func (.func 111) #[] #[st0P]), (14, vl pa0 pk0 p.Funcs), (15, vi (p.Funcs.length : Int)), (16, vi v16_20)], [O a21 k22 st20_19, S pa0 pk0 p.Funcs, Cl st1P [st1m0], Mp vstr vb okStr st1m0 st10_18, Cl st2P [vl a21 k22 st20_19], pv st0P [.func (.func 110) #[] #[st1P, st2P]], pv (gp 0) [vl kwLA kwLK kwL], S kwLA kwLK kwL], vd_each_Variables_2_L0 p r17 st10_18 st20_19 v16_20 = vd_each_Variables_2_L0 p (((p.Funcs.length : Int) - 0).toNat) st1 st2 0 ∧ r17 = ((p.Funcs.length : Int) - v16_20).toNat ∧ (0 : Int) ≤ v16_20 ∧ v16_20 ≤ (p.Funcs.length : Int) ∧ (-9223372036854775808 ≤ v16_20 ∧ v16_20 ≤ 9223372036854775807) ∧ ((st20_19.length : Int) ≤ 3000 * v16_20), r17⟩) (((p.Funcs.length : Int) - 0).toNat, st1, st2, 0, st2a0, st2k0) [5, 1, 2, 2, 2, 2, 3, 4] ⟨rfl, rfl, aM1, aM1, aM1, iv0⟩ ?_
 rintro ⟨r17, st10_18, st20_19, v16_20, a21, k22⟩ ⟨hM23, hr24, hi25, hi26, hk27, hv28⟩
 refine JJ_nx fun _ _ hL hA => ?_; dsimp only at hL hA; subst hL hA
 refine Fb 16 0 fun _ => ?_
 refine FoS 0 fun ho30 => ?_
 refine Fb 40 1 fun _ => Fb 16 7 fun _ => ?_
 refine FoS 7 fun ho33 => ?_
 refine KS ?_
 refine Oq Vlss (KS ?_)
 refine Kc ?_ ?_
 ·intro h34
  have g35 := dt h34
  have hVf := hVb.2 v16_20.toNat
  obtain ⟨r36, rfl⟩ := scc (n := r17) aM1
  refine KS ?_
  refine Oq (Vi sl23 1) ?_
  refine JJ_peek_GFunc v16_20.toNat 1 rfl rng fun a37 k38 hb39 => ?_
  refine Fb 40 1 fun _ => ?_
  refine Oq (VldA sh54 0) (Oa (Al ze54 [.string (bs (Str.mk [])), .slice none 0 0]) fun p41 => Ost (Scl [0] sh54 [.string (bs ((p.Funcs.getD v16_20.toNat default).Name)), vl a37 k38 ((p.Funcs.getD v16_20.toNat default).Blocks)]) (KS ?_))
  refine Oq (Vfa fo54_1 0) (Oq (VldF sh52 0) (Oq (Vlen sl52) (Oq Vm (KS ?_))))
  refine Kl (γ := Nat × (List (Str × Bool)) × List Str × Int × Option Addr × Nat) (fun (r42, st10_43, st20_44, v23_45, a46, k47) => ⟨[(1, .func (.func 111) #[] #[st0P]), (14, vl pa0 pk0 p.Funcs), (15, vi (p.Funcs.length : Int)), (16, vi v16_20), (21, vl a37 k38 ((p.Funcs.getD v16_20.toNat default).Blocks)), (22, vi (((p.Funcs.getD v16_20.toNat default).Blocks).length : Int)), (23, vi v23_45)], [O a46 k47 st20_44, S a37 k38 ((p.Funcs.getD v16_20.toNat default).Blocks), S pa0 pk0 p.Funcs, Cl st1P [st1m0], Mp vstr vb okStr st1m0 st10_43, Cl st2P [vl a46 k47 st20_44], pv st0P [.func (.func 110) #[] #[st1P, st2P]], pv (gp 0) [vl kwLA kwLK kwL], S kwLA kwLK kwL], vd_each_Variables_2_L1 ((p.Funcs.getD v16_20.toNat default).Blocks) r42 st10_43 st20_44 v23_45 = vd_each_Variables_2_L1 ((p.Funcs.getD v16_20.toNat default).Blocks) ((((((p.Funcs.getD v16_20.toNat default).Blocks).length : Int) : Int) - 0).toNat) st10_18 st20_19 0 ∧ r42 = (((((p.Funcs.getD v16_20.toNat default).Blocks).length : Int) : Int) - v23_45).toNat ∧ (0 : Int) ≤ v23_45 ∧ (v23_45 ≤ (((p.Funcs.getD v16_20.toNat default).Blocks).length : Int) ∨ v23_45 = 0) ∧ (-9223372036854775808 ≤ v23_45 ∧ v23_45 ≤ 9223372036854775807) ∧ ((st20_44.length : Int) ≤ (st20_19.length : Int) + 180 * v23_45), r42⟩) ((((((p.Funcs.getD v16_20.toNat default).Blocks).length : Int) : Int) - 0).toNat, st10_18, st20_19, 0, a21, k22) [3, 2, 3, 4, 4, 4, 4, 5, 6] ⟨rfl, rfl, aM1, (.inr rfl), aM1, iv0⟩ ?_
  rintro ⟨r42, st10_43, st20_44, v23_45, a46, k47⟩ ⟨hM48, hr49, hi50, hi51, hk52, hv53⟩
  refine JJ_nx fun _ _ hL hA => ?_; dsimp only at hL hA; subst hL hA
  refine Fb 16 0 fun _ => ?_
  refine FoS 0 fun ho55 => ?_
  refine Fb 40 1 fun _ => Fb 40 2 fun _ => Fb 16 8 fun _ => ?_
  refine FoS 8 fun ho59 => ?_
  refine KS ?_
  refine Oq Vlss (KS ?_)
  refine Kc ?_ ?_
  ·intro h60
   have g61 := dt h60
   have hVk := hVf.2 v23_45.toNat
   obtain ⟨r62, rfl⟩ := scc (n := r42) aM1
   refine KS ?_
   refine Oq (Vi sl52 1) ?_
   refine JJ_peek_GBlock v23_45.toNat 1 rfl rng fun a63 k64 hb65 => ?_
   refine Fb 72 1 fun _ => ?_
   refine Oq (VldA sh57 0) (Oa (Al ze57 [.string (bs (Str.mk [])), .slice none 0 0]) fun p67 => Ost (Scl [0] sh57 [.string (bs ((((p.Funcs.getD v16_20.toNat default).Blocks).getD v23_45.toNat default).Name)), .slice a63 (((((p.Funcs.getD v16_20.toNat default).Blocks).getD v23_45.toNat default).Stmts).length) k64]) (KS ?_))
   refine Oq (Vfa fo57_1 0) (Oq (VldF sh55 0) (Oq (Vlen sl55) (Oq Vm (KS ?_))))
   refine Kl (γ := Nat × (List (Str × Bool)) × List Str × Int × Option Addr × Nat) (fun (r68, st10_69, st20_70, v30_71, a72, k73) => ⟨[(1, .func (.func 111) #[] #[st0P]), (14, vl pa0 pk0 p.Funcs), (15, vi (p.Funcs.length : Int)), (16, vi v16_20), (21, vl a37 k38 ((p.Funcs.getD v16_20.toNat default).Blocks)), (22, vi (((p.Funcs.getD v16_20.toNat default).Blocks).length : Int)), (23, vi v23_45), (28, .slice a63 (((((p.Funcs.getD v16_20.toNat default).Blocks).getD v23_45.toNat default).Stmts).length) k64), (29, vi (((((p.Funcs.getD v16_20.toNat default).Blocks).getD v23_45.toNat default).Stmts).length : Int)), (30, vi v30_71)], [O a72 k73 st20_70, S a63 k64 ((((p.Funcs.getD v16_20.toNat default).Blocks).getD v23_45.toNat default).Stmts), S a37 k38 ((p.Funcs.getD v16_20.toNat default).Blocks), S pa0 pk0 p.Funcs, Cl st1P [st1m0], Mp vstr vb okStr st1m0 st10_69, Cl st2P [vl a72 k73 st20_70], pv st0P [.func (.func 110) #[] #[st1P, st2P]], pv (gp 0) [vl kwLA kwLK kwL], S kwLA kwLK kwL], vd_each_Variables_2_L2 ((((p.Funcs.getD v16_20.toNat default).Blocks).getD v23_45.toNat default).Stmts) r68 st10_69 st20_70 v30_71 = vd_each_Variables_2_L2 ((((p.Funcs.getD v16_20.toNat default).Blocks).getD v23_45.toNat default).Stmts) ((((((((p.Funcs.getD v16_20.toNat default).Blocks).getD v23_45.toNat default).Stmts).length : Int) : Int) - 0).toNat) st10_43 st20_44 0 ∧ r68 = (((((((p.Funcs.getD v16_20.toNat default).Blocks).getD v23_45.toNat default).Stmts).length : Int) : Int) - v30_71).toNat ∧ (0 : Int) ≤ v30_71 ∧ (v30_71 ≤ (((((p.Funcs.getD v16_20.toNat default).Blocks).getD v23_45.toNat default).Stmts).length : Int) ∨ v30_71 = 0) ∧ (-9223372036854775808 ≤ v30_71 ∧ v30_71 ≤ 9223372036854775807) ∧ ((st20_70.length : Int) ≤ (st20_44.length : Int) + 5 * v30_71), r68⟩) ((((((((p.Funcs.getD v16_20.toNat default).Blocks).getD v23_45.toNat default).Stmts).length : Int) : Int) - 0).toNat, st10_43, st20_44, 0, a46, k47) [3, 2, 3, 4, 5, 5, 5, 5, 6, 7] ⟨rfl, rfl, aM1, (.inr rfl), aM1, iv0⟩ ?_
   rintro ⟨r68, st10_69, st20_70, v30_71, a72, k73⟩ ⟨hM74, hr75, hi76, hi77, hk78, hv79⟩
   refine JJ_nx fun _ _ hL hA => ?_; dsimp only at hL hA; subst hL hA
   refine Fb 16 0 fun _ => ?_
   refine FoS 0 fun ho81 => ?_
   refine Fb 72 1 fun _ => Fb 40 2 fun _ => Fb 40 3 fun _ => Fb 16 9 fun _ => ?_
   refine FoS 9 fun ho86 => ?_
   refine KS ?_
   refine Oq Vlss (KS ?_)
   refine Kc ?_ ?_
   ·intro h87
    have g88 := dt h87
    have hVs := hVk.2 v30_71.toNat
    obtain ⟨r89, rfl⟩ := scc (n := r68) aM1
    refine KS ?_
    refine Oq (Vi sl55 1) ?_
    refine JJ_peek_GStmt v30_71.toNat 1 rfl rng fun a90 k91 a92 k93 hb94 hb95 => ?_
    unfold i64ok at hb94
    refine Fb 16 1 fun _ => ?_
    refine FoS 1 fun ho97 => ?_
    refine Fb 16 2 fun _ => ?_
    refine FoS 2 fun ho99 => ?_
    refine Oq (VldA sh59 0) (Oa (Al ze59 [vi 0, .string (bs (Str.mk [])), .slice none 0 0, .slice none 0 0]) fun p100 => Ost (Scl [0] sh59 [vi ((((((p.Funcs.getD v16_20.toNat default).Blocks).getD v23_45.toNat default).Stmts).getD v30_71.toNat default).Op), .string (bs ((((((p.Funcs.getD v16_20.toNat default).Blocks).getD v23_45.toNat default).Stmts).getD v30_71.toNat default).Def)), .slice a90 (((((((p.Funcs.getD v16_20.toNat default).Blocks).getD v23_45.toNat default).Stmts).getD v30_71.toNat default).Uses).length) k91, .slice a92 (((((((p.Funcs.getD v16_20.toNat default).Blocks).getD v23_45.toNat default).Stmts).getD v30_71.toNat default).Targets).length) k93]) (KS ?_))
    refine Oq Vm (Oq (VldA sh59 0) ?_)
    refine letv (vd_Variables_2_Variables_1 (((((p.Funcs.getD v16_20.toNat default).Blocks).getD v23_45.toNat default).Stmts).getD v30_71.toNat default) st10_69 st20_70) fun rv102 hg103 => ?_
    have hc104 := fn111m0 ((((((p.Funcs.getD v16_20.toNat default).Blocks).getD v23_45.toNat default).Stmts).getD v30_71.toNat default)) a90 k91 a92 k93 st1P st10_69 st1m0 st2P st20_70 a72 k73 st0P pre pre pre rv102 hg103
    refine JO_call [2, 3, 8, 8, 8, 4, 7] rfl rfl rfl (OpC.clo («as» := [(.agg #[vi ((((((p.Funcs.getD v16_20.toNat default).Blocks).getD v23_45.toNat default).Stmts).getD v30_71.toNat default).Op), .string (bs ((((((p.Funcs.getD v16_20.toNat default).Blocks).getD v23_45.toNat default).Stmts).getD v30_71.toNat default).Def)), .slice a90 (((((((p.Funcs.getD v16_20.toNat default).Blocks).getD v23_45.toNat default).Stmts).getD v30_71.toNat default).Uses).length) k91, .slice a92 (((((((p.Funcs.getD v16_20.toNat default).Blocks).getD v23_45.toNat default).Stmts).getD v30_71.toNat default).Targets).length) k93] : Value), (st0P : Value)]) rfl rfl ca111 rfl (by simp)) hc104 rfl ?_
    rintro c101 he105
    refine Jo 3 ?_; rintro a106 k107 rfl
    refine Fb 16 3 fun _ => ?_
    refine FoS 3 fun ho109 => ?_
    refine KS ?_
    refine Oq Vadd (Oq Vm (KS ?_))
    exact Kg (r89, rv102.1, rv102.2, (v30_71 + 1), a106, k107) [3, 7, 8, 9, 0, 0, 0, 7, 8, 9] ⟨(q3 hM74 (by simp only [vd_each_Variables_2_L2, h87, hg103, cs4])), aM1, aM1, aM1, aM1, iv1⟩
   intro h87
   have g110 := df h87
   obtain rfl : r68 = 0 := by omega
   refine Ke ?_
   have hR111 := q2 hM74 (st10_69, st20_70) (by simp only [vd_each_Variables_2_L2, h87, cs4])
   refine KS ?_
   refine Oq Vadd (Oq Vm (KS ?_))
   exact Kg (r62, st10_69, st20_70, (v23_45 + 1), a72, k73) [0, 1, 2, 3, 3, 3, 3, 4, 5] ⟨(q3 hM48 (by simp only [vd_each_Variables_2_L1, h60, h87, hR111, cs4])), aM1, aM1, aM1, aM1, iv1⟩
  intro h60
  have g112 := df h60
  obtain rfl : r42 = 0 := by omega
  refine Ke ?_
  have hR113 := q2 hM48 (st10_43, st20_44) (by simp only [vd_each_Variables_2_L1, h60, cs4])
  refine KS ?_
  refine Oq Vadd (Oq Vm (KS ?_))
  exact Kg (r36, st10_43, st20_44, (v16_20 + 1), a46, k47) [0, 1, 2, 2, 2, 2, 3, 4] ⟨(q3 hM23 (by simp only [vd_each_Variables_2_L0, h34, h60, hR113, cs4])), aM1, aM1, aM1, aM1, iv1⟩
 intro h34
 have g114 := df h34
 obtain rfl : r17 = 0 := by omega
 refine Ke ?_
 have hR115 := q2 hM23 (st10_18, st20_19) (by simp only [vd_each_Variables_2_L0, h34, cs4])
 have hq := q4 hrr (st10_18, st20_19) (by simp only [vd_each_Variables_2, h10, h15, h34, hg8, hR115, cs4]); subst hq
 exact Kz (vl a21 k22 st20_19) rfl .nil [2, 2, 2, 0] en
theorem fn67 (p : GProgram) (pa0 : Option Addr) (pk0 : Nat) (kwLA : Option Addr) (kwLK : Nat) (hps : PSm p = true) (rr : List Str) (hrr : vd_Variables p = rr) : FT Tryz.prog 67 #[.agg #[vl pa0 pk0 p.Funcs]] [S pa0 pk0 p.Funcs, pv (gp 0) [vl kwLA kwLK kwL], S kwLA kwLK kwL] (fun g : Value => (rr.length ≤ 30000)) (fun g => g) (fun g => [sl g rr]) := by
 refine FTi Tryz.func67 fun w0 M0 F0 => Fb 40 0 fun _ => Fb 16 2 fun _ => ?_
 refine FoS 2 fun ho3 => ?_
 refine KS ?_
 refine Oa (Ab [vl pa0 pk0 p.Funcs]) fun p4 => Oq Va (KS ?_)
 refine Oa (Amp (κ := Str) (ν := Bool) (ek := vstr) (ev := vb) (ok := okStr)) fun p5 => ?_
 refine Jom 0 ?_; rintro b6 rfl
 refine Oa (Al ze112 [.map none]) fun p7 => Ost (Scl [0] sh112 [(mv b6)]) (KS ?_)
 refine Oa (Al ze51 [.slice none 0 0]) fun p8 => KS ?_
 refine Oq (Vf [p7, p8]) (Oa (Al ze131 [.nilFunc]) fun p9 => Ost (Scl [0] sh131 [.func (.func 110) #[] #[p7, p8]]) (KS ?_))
 refine Oq (VldA sh25 4) (Oq (Vf [p9]) ?_)
 refine Jl [] (Ent.osNil (α := Str)) ?_
 refine Jl [1] (Ent.freezeCl _ _) ?_
 refine letv (vd_each_Variables_2 p [] ([] : List Str)) fun rv11 hg12 => ?_
 have hc13 := fn108m1 p pa0 pk0 p7 [] (mv b6) p8 ([] : List Str) none 0 p9 kwLA kwLK pre pre rv11 hg12
 refine Oc [6, 3, 3, 2, 1, 0, 3, 4] ca108 hc13 ?_
 rintro c10 he14
 refine Jo 3 ?_; rintro a15 k16 rfl
 refine Fb 16 3 fun _ => ?_
 refine FoS 3 fun ho18 => ?_
 refine KS ?_
 refine Oq (Vld sh51 2) (Oq Va (KS ?_))
 refine Jl [3] (Ent.freeze _ _) ?_
 have hq := q4 hrr rv11.2 (by simp only [vd_Variables, hg12, cs4]); subst hq
 exact Kr (vl a15 k16 rv11.2) rfl (.tmp rfl .nil) [0] en
theorem fn42 (p : GProgram) (pa0 : Option Addr) (pk0 : Nat) (kwLA : Option Addr) (kwLK : Nat) (hps : PSm p = true) (rr : GNode × Int) (hrr : vd_Check p = rr) : FT Tryz.prog 42 #[.agg #[vl pa0 pk0 p.Funcs]] [S pa0 pk0 p.Funcs, pv (gp 0) [vl kwLA kwLK kwL], S kwLA kwLK kwL] (fun g : Unit => i64ok rr.1.Kind ∧ i64ok rr.1.Func ∧ i64ok rr.1.Block ∧ i64ok rr.1.Stmt ∧ i64ok rr.2) (fun g => .tuple #[.agg #[vi rr.1.Kind, vi rr.1.Func, vi rr.1.Block, vi rr.1.Stmt], vi rr.2]) (fun g => []) := by
 refine FTi Tryz.func42 fun w0 M0 F0 => Fb 40 0 fun _ => Fb 16 2 fun _ => ?_
 refine FoS 2 fun ho3 => ?_
 refine KS ?_
 refine Oa (Ab [vl pa0 pk0 p.Funcs]) fun p4 => Oa (Al ze76 [vi 0, vi 0, vi 0, vi 0]) fun p5 => Oq Va (KS ?_)
 refine Oq (VldA sh25 1) ?_
 refine letv (sx_Valid p) fun rv6 hg7 => ?_
 have hc8 := fn62 p pa0 pk0 kwLA kwLK pre rv6 hg7
 refine Oc [2, 3, 4] ca62 hc8 ?_
 rintro - -
 refine Oq Vnot (KS ?_)
 refine Kc ?_ ?_
 ·intro h9
  have h11 := not_true h9
  refine KS ?_
  refine Oq (Vbd st76 [vi 0, vi 0, vi 0, vi 0]) (Ost (Scl [0] sh76 [vi 0, vi 0, vi 0, vi 0]) (Oq Va (KS ?_)))
  have hq := q4 hrr ((GNode.mk 0 0 0 0), 1) (by simp only [vd_Check, h9, h11, hg7, cs4]); subst hq
  exact Kr () rfl (.cellN 0 rfl sh76 rfl (reads_Cl _ _) rfl (.tmp rfl .nil)) [] en
 intro h9
 have h14 := not_false h9
 refine KS ?_
 refine Oq (Vfa fo25_0 1) (Oq (VldF sh23 1) ?_)
 refine JJ_ent (Ent.pall [] rfl rfl) ?_
 refine letv (vd_duplicate_Func p.Funcs (fun x0 => vd_Check_1 x0)) fun rv17 hg18 => ?_
 have hc19 := fn63 p.Funcs pa0 pk0 64 [] (fun x0 => vd_Check_1 x0) [] ca64 (fun x0 a0 k0 hq0 => FT_pall (A1 := _) (fn64 x0 a0 k0  hq0 _ rfl)) rv17 hg18
 refine Oc [3, 0] ca63 hc19 ?_
 rintro c16 he20
 unfold i64ok at he20
 refine Jom 0 ?_; rintro b21 rfl
 refine Oq Vm (Oq Vx (Oq Vx (Oq Va (Oq Va (KS ?_)))))
 refine Oq Vm (Oq Vgeq (KS ?_))
 refine Kc ?_ ?_
 ·intro h22
  have g23 := dt h22
  refine KS ?_
  refine Oq Vm (Oq (Vbd st76 [vi 1, vi rv17.1, vi (-1), vi (-1)]) (Ost (Scl [2] sh76 [vi 1, vi rv17.1, vi (-1), vi (-1)]) (Oq Va (KS ?_))))
  have hq := q4 hrr ((GNode.mk 1 rv17.1 (-1) (-1)), 6) (by simp only [vd_Check, h9, h14, h22, hg7, hg18, cs4]); subst hq
  exact Kr () rfl (.cellN 0 rfl sh76 rfl (reads_Cl _ _) rfl (.tmp rfl .nil)) [] en
 intro h22
 have g24 := df h22
 refine KS ?_
 refine Oq (Vfa fo25_0 3) (Oq (VldF sh23 3) (Oq (Vlen sl23) (Oq Vm (KS ?_))))
 refine Kl (γ := Nat × Int) (fun (r25, v29_26) => ⟨[(1, p4), (2, p5), (5, (mv b21)), (27, vl pa0 pk0 p.Funcs), (28, vi (p.Funcs.length : Int)), (29, vi v29_26)], [Mp vstr vb okStr (mv b21) rv17.2, pAll [], Cl p5 [vi 0, vi 0, vi 0, vi 0], pv p4 [vl pa0 pk0 p.Funcs], S pa0 pk0 p.Funcs, pv (gp 0) [vl kwLA kwLK kwL], S kwLA kwLK kwL], vd_Check_L0 p rv17.2 r25 v29_26 = vd_Check_L0 p rv17.2 (((p.Funcs.length : Int) - 0).toNat) 0 ∧ r25 = ((p.Funcs.length : Int) - v29_26).toNat ∧ (0 : Int) ≤ v29_26 ∧ v29_26 ≤ (p.Funcs.length : Int) ∧ (-9223372036854775808 ≤ v29_26 ∧ v29_26 ≤ 9223372036854775807), r25⟩) (((p.Funcs.length : Int) - 0).toNat, 0) [0, 0, 1, 1, 2, 3, 4] ⟨rfl, rfl, aM1, aM1, aM1⟩ ?_
 rintro ⟨r25, v29_26⟩ ⟨hM27, hr28, hi29, hi30, hk31⟩
 refine JJ_nx fun _ _ hL hA => ?_; dsimp only at hL hA; subst hL hA
 refine Fb 40 4 fun _ => Fb 16 6 fun _ => ?_
 refine FoS 6 fun ho34 => ?_
 refine KS ?_
 refine Oq Vlss (KS ?_)
 refine Kc ?_ ?_
 ·intro h35
  have g36 := dt h35
  obtain ⟨r37, rfl⟩ := scc (n := r25) aM1
  refine KS ?_
  refine Oq Vm (Oq (Vi sl23 4) ?_)
  refine JJ_peek_GFunc v29_26.toNat 4 rfl rng fun a38 k39 hb40 => ?_
  refine Fb 40 1 fun _ => ?_
  refine Oq (VldA sh54 0) (Oa (Al ze54 [.string (bs (Str.mk [])), .slice none 0 0]) fun p42 => Oq Va (Ost (Scl [0] sh54 [.string (bs ((p.Funcs.getD v29_26.toNat default).Name)), vl a38 k39 ((p.Funcs.getD v29_26.toNat default).Blocks)]) (KS ?_)))
  refine Oq (VldA sh54 0) (Oq Vm (Oq Vm ?_))
  refine letv (vd_function (p.Funcs.getD v29_26.toNat default) v29_26 rv17.2) fun rv43 hg44 => ?_
  have hc45 := fn65 ((p.Funcs.getD v29_26.toNat default)) a38 k39 v29_26 (mv b21) rv17.2 pre pre rv43 hg44
  refine Oc [2, 3] ca65 hc45 ?_
  rintro - ⟨he46, he47, he48, he49, he50⟩
  unfold i64ok at he46 he47 he48 he49 he50
  refine Oq Vm (Oq Vx (Oq Vx (Oa (Al ze76 [vi 0, vi 0, vi 0, vi 0]) fun p51 => Ost (Scl [0] sh76 [vi rv43.1.Kind, vi rv43.1.Func, vi rv43.1.Block, vi rv43.1.Stmt]) (Oq Va (KS ?_)))))
  refine Oq Vm (Oq Vneq (KS ?_))
  refine Kc ?_ ?_
  ·intro h52
   have g53 := ne_of_bne h52
   refine KS ?_
   refine Oq (VldA sh76 0) (Oq Vm (Ost (Scl [6] sh76 [vi rv43.1.Kind, vi rv43.1.Func, vi rv43.1.Block, vi rv43.1.Stmt]) (Oq Va (KS ?_))))
   have hR54 := q2 hM27 (.ret (rv43.1, rv43.2)) (by simp only [vd_Check_L0, h35, h52, hg44, cs4])
   have hq := q4 hrr (rv43.1, rv43.2) (by simp only [vd_Check, h9, h14, h22, h35, h52, hg7, hg18, hg44, hR54, cs4]); subst hq
   exact Kr () rfl (.cellN 0 rfl sh76 rfl (reads_Cl _ _) rfl (.tmp rfl .nil)) [] en
  intro h52
  have g55 := eq_of_bne_false h52
  refine KS ?_
  refine Oq Vadd (Oq Vm (KS ?_))
  exact Kg (r37, (v29_26 + 1)) [1, 4, 5, 5, 6, 7, 8] ⟨(q3 hM27 (by simp only [vd_Check_L0, h35, h52, hg44, cs4])), aM1, aM1, aM1, aM1⟩
 intro h35
 have g56 := df h35
 obtain rfl : r25 = 0 := by omega
 refine Ke ?_
 have hR57 := q2 hM27 (.brk ()) (by simp only [vd_Check_L0, h35, cs4])
 refine KS ?_
 refine Oq (VldA sh25 3) ?_
 refine letv (vd_Sizes p) fun rv58 hg59 => ?_
 have hc60 := fn66 p pa0 pk0 kwLA kwLK pre rv58 hg59
 refine Oc [4, 5, 6] ca66 hc60 ?_
 rintro - ⟨he61, he62, he63⟩
 unfold i64ok at he61 he62
 refine Oq Vm (Oq Vx (Oq Vx (Oq Va (Oq Va (KS ?_)))))
 refine Oq (VldA sh25 3) ?_
 refine letv (vd_Variables p) fun rv65 hg66 => ?_
 have hc67 := fn67 p pa0 pk0 kwLA kwLK pre rv65 hg66
 refine Oc [4, 5, 6] ca67 hc67 ?_
 rintro c64 he68
 refine Jo 0 ?_; rintro a69 k70 rfl
 refine Fb 16 0 fun _ => ?_
 refine FoS 0 fun ho72 => ?_
 refine Oq (Vlen sl51) (Oq Vgtr (Oq Vm ?_))
 refine Js 55 ?_ ?_
 ·intro h73
  have g74 := dt h73
  refine Osk (Osk (Oq Vpt (Oq Vm (Osk (Osk (Oq Vpt (KS ?_)))))))
  refine Kt (KS ?_)
  refine Oq (Vbd st76 [vi 0, vi 0, vi 0, vi 0]) (Ost (Scl [3] sh76 [vi 0, vi 0, vi 0, vi 0]) (Oq Va (KS ?_)))
  have hq := q4 hrr ((GNode.mk 0 0 0 0), 7) (by simp only [vd_Check, h9, h14, h22, h35, h73, hg7, hg18, hR57, hg59, hg66, cs4]); subst hq
  exact Kr () rfl (.cellN 0 rfl sh76 rfl (reads_Cl _ _) rfl (.tmp rfl .nil)) [] en
 intro h73
 have g75 := df h73
 refine Oq Vm (Oq Vgtr (Oq Vpf (Oq Vm ?_)))
 refine Js 59 ?_ ?_
 ·intro h76
  have g77 := dt h76
  refine Osk (Osk (Oq Vpt (KS ?_)))
  refine Kt (KS ?_)
  refine Oq (Vbd st76 [vi 0, vi 0, vi 0, vi 0]) (Ost (Scl [3] sh76 [vi 0, vi 0, vi 0, vi 0]) (Oq Va (KS ?_)))
  have hq := q4 hrr ((GNode.mk 0 0 0 0), 7) (by simp only [vd_Check, h9, h14, h22, h35, h73, h76, hg7, hg18, hR57, hg59, hg66, cs4]); subst hq
  exact Kr () rfl (.cellN 0 rfl sh76 rfl (reads_Cl _ _) rfl (.tmp rfl .nil)) [] en
 intro h76
 have g78 := df h76
 refine Oq Vm (Oq Vgtr (Oq Vpf (KS ?_)))
 refine Kc ?_ ?_
 ·intro h79
  have g80 := dt h79
  refine KS ?_
  refine Oq (Vbd st76 [vi 0, vi 0, vi 0, vi 0]) (Ost (Scl [3] sh76 [vi 0, vi 0, vi 0, vi 0]) (Oq Va (KS ?_)))
  have hq := q4 hrr ((GNode.mk 0 0 0 0), 7) (by simp only [vd_Check, h9, h14, h22, h35, h73, h76, h79, hg7, hg18, hR57, hg59, hg66, cs4]); subst hq
  exact Kr () rfl (.cellN 0 rfl sh76 rfl (reads_Cl _ _) rfl (.tmp rfl .nil)) [] en
 intro h79
 have g81 := df h79
 refine KS ?_
 refine Oq (Vbd st76 [vi 0, vi 0, vi 0, vi 0]) (Ost (Scl [3] sh76 [vi 0, vi 0, vi 0, vi 0]) (Oq Va (KS ?_)))
 have hq := q4 hrr ((GNode.mk 0 0 0 0), 0) (by simp only [vd_Check, h9, h14, h22, h35, h73, h76, h79, hg7, hg18, hR57, hg59, hg66, cs4]); subst hq
 exact Kr () rfl (.cellN 0 rfl sh76 rfl (reads_Cl _ _) rfl (.tmp rfl .nil)) [] en
theorem fn43 (p : GProgram) (pa0 : Option Addr) (pk0 : Nat) (kwLA : Option Addr) (kwLK : Nat) (hps : PSm p = true) (rr : List GNode) (hrr : nd_List p = rr) : FT Tryz.prog 43 #[.agg #[vl pa0 pk0 p.Funcs]] [S pa0 pk0 p.Funcs, pv (gp 0) [vl kwLA kwLK kwL], S kwLA kwLK kwL] (fun g : Value => (rr.length ≤ 20000)) (fun g => g) (fun g => [sl g rr]) := by
 refine FTi Tryz.func43 fun w0 M0 F0 => Fb 40 0 fun _ => Fb 16 2 fun _ => ?_
 refine FoS 2 fun ho3 => ?_
 refine KS ?_
 refine Oa (Ab [vl pa0 pk0 p.Funcs]) fun p4 => Oq Va (KS ?_)
 refine Oq (VldA sh25 0) ?_
 refine letv (vd_Check p) fun rv5 hg6 => ?_
 have hc7 := fn42 p pa0 pk0 kwLA kwLK pre rv5 hg6
 refine Oc [1, 2, 3] ca42 hc7 ?_
 rintro - ⟨he8, he9, he10, he11, he12⟩
 unfold i64ok at he8 he9 he10 he11 he12
 refine Oq Vm (Oq Vx (Oq Vx (Oa (Al ze76 [vi 0, vi 0, vi 0, vi 0]) fun p13 => Ost (Scl [0] sh76 [vi rv5.1.Kind, vi rv5.1.Func, vi rv5.1.Block, vi rv5.1.Stmt]) (Oq Va (KS ?_)))))
 refine Oq Vm (Oq Vneq (KS ?_))
 refine Kc ?_ ?_
 ·intro h14
  have g15 := ne_of_bne h14
  refine KS ?_
  refine Oq Va (KS ?_)
  refine Jl [] (Ent.slNil (α := GNode)) ?_
  have hq := q4 hrr ([] : List GNode) (by simp only [nd_List, h14, hg6, cs4]); subst hq
  exact Kr (.slice none 0 0) rfl (.tmp rfl .nil) [0] en
 intro h14
 have g16 := eq_of_bne_false h14
 have hVb := SVal_b (p := p) (Check_b (by assumption) (by assumption))
 refine KS ?_
 refine Oq Va (KS ?_)
 refine Oq (Vfa fo25_0 1) (Oq (VldF sh23 1) (Oq (Vlen sl23) (Oq Vm (KS ?_))))
 refine Jl [] (Ent.osNil (α := GNode)) ?_
 refine Kl (γ := Nat × List GNode × Int × Option Addr × Nat) (fun (r17, out_18, v22_19, a20, k21) => ⟨[(5, vl a20 k21 out_18), (20, vl pa0 pk0 p.Funcs), (21, vi (p.Funcs.length : Int)), (22, vi v22_19)], [O a20 k21 out_18, S pa0 pk0 p.Funcs, pv (gp 0) [vl kwLA kwLK kwL], S kwLA kwLK kwL], nd_List_L0 p r17 out_18 v22_19 = nd_List_L0 p (((p.Funcs.length : Int) - 0).toNat) [] 0 ∧ r17 = ((p.Funcs.length : Int) - v22_19).toNat ∧ (0 : Int) ≤ v22_19 ∧ v22_19 ≤ (p.Funcs.length : Int) ∧ (-9223372036854775808 ≤ v22_19 ∧ v22_19 ≤ 9223372036854775807) ∧ ((out_18.length : Int) ≤ 1100 * v22_19), r17⟩) (((p.Funcs.length : Int) - 0).toNat, [], 0, none, 0) [0, 2, 3, 4] ⟨rfl, rfl, aM1, aM1, aM1, iv0⟩ ?_
 rintro ⟨r17, out_18, v22_19, a20, k21⟩ ⟨hM22, hr23, hi24, hi25, hk26, hv27⟩
 refine JJ_nx fun _ _ hL hA => ?_; dsimp only at hL hA; subst hL hA
 refine Fb 32 0 fun _ => Fb 40 1 fun _ => Fb 16 3 fun _ => ?_
 refine FoS 3 fun ho31 => ?_
 refine KS ?_
 refine Oq Vlss (KS ?_)
 refine Kc ?_ ?_
 ·intro h32
  have g33 := dt h32
  have hVf := hVb.2 v22_19.toNat
  have hb8 : v22_19 ≤ 7 := by have := hVb.1; omega
  obtain ⟨r34, rfl⟩ := scc (n := r17) aM1
  refine KS ?_
  refine Oq Vm (Oq (Vi sl23 1) ?_)
  refine JJ_peek_GFunc v22_19.toNat 1 rfl rng fun a35 k36 hb37 => ?_
  refine Fb 40 1 fun _ => ?_
  refine Oq (VldA sh54 0) (Oa (Al ze54 [.string (bs (Str.mk [])), .slice none 0 0]) fun p39 => Oq Va (Ost (Scl [0] sh54 [.string (bs ((p.Funcs.getD v22_19.toNat default).Name)), vl a35 k36 ((p.Funcs.getD v22_19.toNat default).Blocks)]) (KS ?_)))
  refine Oq Vm (Oq Vm (Oq (Vbd st76 [vi 1, vi v22_19, vi (-1), vi (-1)]) (Oa (AsV sl33 sz33 [.agg #[vi 1, vi v22_19, vi (-1), vi (-1)]] [vi 1, vi v22_19, vi (-1), vi (-1)]) fun c40 => ?_)))
  refine Jo 0 ?_; rintro a41 k42 rfl
  refine Jl [0] (Ent.cr1 (α := GNode) (A := []) _ (GNode.mk 1 v22_19 (-1) (-1)) _ aB1 (fun h => ⟨rfl, aL1, aL1, aL1, aL1⟩)) ?_
  refine Oa (ApO [4, 0] sl33 sl33 sz33) fun c43 => ?_
  refine Jo 0 ?_; rintro a44 k45 rfl
  refine Fb 32 0 fun _ => ?_
  have hn47 := la out_18 ([(GNode.mk 1 v22_19 (-1) (-1))] : List GNode)
  refine Oq Va (KS ?_)
  refine Oq (Vfa fo54_1 1) (Oq (VldF sh52 1) (Oq (Vlen sl52) (Oq Vm (KS ?_))))
  refine Kl (γ := Nat × List GNode × Int × Option Addr × Nat) (fun (r48, out_49, v35_50, a51, k52) => ⟨[(20, vl pa0 pk0 p.Funcs), (21, vi (p.Funcs.length : Int)), (22, vi v22_19), (6, vi v22_19), (5, vl a51 k52 out_49), (33, vl a35 k36 ((p.Funcs.getD v22_19.toNat default).Blocks)), (34, vi (((p.Funcs.getD v22_19.toNat default).Blocks).length : Int)), (35, vi v35_50)], [O a51 k52 out_49, S a35 k36 ((p.Funcs.getD v22_19.toNat default).Blocks), S pa0 pk0 p.Funcs, pv (gp 0) [vl kwLA kwLK kwL], S kwLA kwLK kwL], nd_List_L1 v22_19 ((p.Funcs.getD v22_19.toNat default).Blocks) r48 out_49 v35_50 = nd_List_L1 v22_19 ((p.Funcs.getD v22_19.toNat default).Blocks) ((((((p.Funcs.getD v22_19.toNat default).Blocks).length : Int) : Int) - 0).toNat) (out_18 ++ [(GNode.mk 1 v22_19 (-1) (-1))]) 0 ∧ r48 = (((((p.Funcs.getD v22_19.toNat default).Blocks).length : Int) : Int) - v35_50).toNat ∧ (0 : Int) ≤ v35_50 ∧ (v35_50 ≤ (((p.Funcs.getD v22_19.toNat default).Blocks).length : Int) ∨ v35_50 = 0) ∧ (-9223372036854775808 ≤ v35_50 ∧ v35_50 ≤ 9223372036854775807) ∧ ((out_49.length : Int) ≤ 1100 * v22_19 + 1 + 66 * v35_50), r48⟩) ((((((p.Funcs.getD v22_19.toNat default).Blocks).length : Int) : Int) - 0).toNat, (out_18 ++ [(GNode.mk 1 v22_19 (-1) (-1))]), 0, a44, k45) [0, 2, 3, 4, 5] ⟨rfl, rfl, aM1, (.inr rfl), aM1, iv0⟩ ?_
  rintro ⟨r48, out_49, v35_50, a51, k52⟩ ⟨hM53, hr54, hi55, hi56, hk57, hv58⟩
  refine JJ_nx fun _ _ hL hA => ?_; dsimp only at hL hA; subst hL hA
  refine Fb 32 0 fun _ => Fb 40 1 fun _ => Fb 40 2 fun _ => Fb 16 4 fun _ => ?_
  refine FoS 4 fun ho63 => ?_
  refine KS ?_
  refine Oq Vlss (KS ?_)
  refine Kc ?_ ?_
  ·intro h64
   have g65 := dt h64
   have hVk := hVf.2 v35_50.toNat
   have hb16 : v35_50 ≤ 15 := by have := hVf.1; omega
   obtain ⟨r66, rfl⟩ := scc (n := r48) aM1
   refine KS ?_
   refine Oq Vm (Oq (Vi sl52 1) ?_)
   refine JJ_peek_GBlock v35_50.toNat 1 rfl rng fun a67 k68 hb69 => ?_
   refine Fb 72 1 fun _ => ?_
   refine Oq (VldA sh57 0) (Oa (Al ze57 [.string (bs (Str.mk [])), .slice none 0 0]) fun p71 => Oq Va (Ost (Scl [0] sh57 [.string (bs ((((p.Funcs.getD v22_19.toNat default).Blocks).getD v35_50.toNat default).Name)), .slice a67 (((((p.Funcs.getD v22_19.toNat default).Blocks).getD v35_50.toNat default).Stmts).length) k68]) (KS ?_)))
   refine Oq (Vfa fo57_1 0) (Oq (VldF sh55 0) (Oq (Vlen sl55) (Oq Vm (KS ?_))))
   refine Kl (γ := Nat × List GNode × Int × Option Addr × Nat) (fun (r72, out_73, v43_74, a75, k76) => ⟨[(20, vl pa0 pk0 p.Funcs), (21, vi (p.Funcs.length : Int)), (22, vi v22_19), (6, vi v22_19), (5, vl a75 k76 out_73), (33, vl a35 k36 ((p.Funcs.getD v22_19.toNat default).Blocks)), (34, vi (((p.Funcs.getD v22_19.toNat default).Blocks).length : Int)), (35, vi v35_50), (8, vi v35_50), (41, .slice a67 (((((p.Funcs.getD v22_19.toNat default).Blocks).getD v35_50.toNat default).Stmts).length) k68), (42, vi (((((p.Funcs.getD v22_19.toNat default).Blocks).getD v35_50.toNat default).Stmts).length : Int)), (43, vi v43_74)], [O a75 k76 out_73, S a67 k68 ((((p.Funcs.getD v22_19.toNat default).Blocks).getD v35_50.toNat default).Stmts), S a35 k36 ((p.Funcs.getD v22_19.toNat default).Blocks), S pa0 pk0 p.Funcs, pv (gp 0) [vl kwLA kwLK kwL], S kwLA kwLK kwL], nd_List_L2 v22_19 v35_50 ((((p.Funcs.getD v22_19.toNat default).Blocks).getD v35_50.toNat default).Stmts) r72 out_73 v43_74 = nd_List_L2 v22_19 v35_50 ((((p.Funcs.getD v22_19.toNat default).Blocks).getD v35_50.toNat default).Stmts) ((((((((p.Funcs.getD v22_19.toNat default).Blocks).getD v35_50.toNat default).Stmts).length : Int) : Int) - 0).toNat) out_49 0 ∧ r72 = (((((((p.Funcs.getD v22_19.toNat default).Blocks).getD v35_50.toNat default).Stmts).length : Int) : Int) - v43_74).toNat ∧ (0 : Int) ≤ v43_74 ∧ (v43_74 ≤ (((((p.Funcs.getD v22_19.toNat default).Blocks).getD v35_50.toNat default).Stmts).length : Int) ∨ v43_74 = 0) ∧ (-9223372036854775808 ≤ v43_74 ∧ v43_74 ≤ 9223372036854775807) ∧ ((out_73.length : Int) ≤ 1100 * v22_19 + 1 + 66 * v35_50 + 2 * v43_74), r72⟩) ((((((((p.Funcs.getD v22_19.toNat default).Blocks).getD v35_50.toNat default).Stmts).length : Int) : Int) - 0).toNat, out_49, 0, a51, k52) [3, 2, 3, 4, 5, 6] ⟨rfl, rfl, aM1, (.inr rfl), aM1, iv0⟩ ?_
   rintro ⟨r72, out_73, v43_74, a75, k76⟩ ⟨hM77, hr78, hi79, hi80, hk81, hv82⟩
   refine JJ_nx fun _ _ hL hA => ?_; dsimp only at hL hA; subst hL hA
   refine Fb 32 0 fun _ => Fb 72 1 fun _ => Fb 40 2 fun _ => Fb 40 3 fun _ => Fb 16 5 fun _ => ?_
   refine FoS 5 fun ho88 => ?_
   refine KS ?_
   refine Oq Vlss (KS ?_)
   refine Kc ?_ ?_
   ·intro h89
    have g90 := dt h89
    have hb32 : v43_74 ≤ 31 := by have := hVk.1; omega
    obtain ⟨r91, rfl⟩ := scc (n := r72) aM1
    refine KS ?_
    refine Oq Vm (Oq (Vi sl55 1) ?_)
    refine JJ_peek_GStmt v43_74.toNat 1 rfl rng fun a92 k93 a94 k95 hb96 hb97 => ?_
    unfold i64ok at hb96
    refine Fb 16 1 fun _ => ?_
    refine FoS 1 fun ho99 => ?_
    refine Fb 16 2 fun _ => ?_
    refine FoS 2 fun ho101 => ?_
    refine Oq (VldA sh59 0) (Oa (Al ze59 [vi 0, .string (bs (Str.mk [])), .slice none 0 0, .slice none 0 0]) fun p102 => Oq Va (Ost (Scl [0] sh59 [vi ((((((p.Funcs.getD v22_19.toNat default).Blocks).getD v35_50.toNat default).Stmts).getD v43_74.toNat default).Op), .string (bs ((((((p.Funcs.getD v22_19.toNat default).Blocks).getD v35_50.toNat default).Stmts).getD v43_74.toNat default).Def)), .slice a92 (((((((p.Funcs.getD v22_19.toNat default).Blocks).getD v35_50.toNat default).Stmts).getD v43_74.toNat default).Uses).length) k93, .slice a94 (((((((p.Funcs.getD v22_19.toNat default).Blocks).getD v35_50.toNat default).Stmts).getD v43_74.toNat default).Targets).length) k95]) (KS ?_)))
    refine Oq Vm (Oq Vm (Oq Vm (Oq Vm (Oq (Vbd st76 [vi 3, vi v22_19, vi v35_50, vi v43_74]) (Oa (AsV sl33 sz33 [.agg #[vi 3, vi v22_19, vi v35_50, vi v43_74]] [vi 3, vi v22_19, vi v35_50, vi v43_74]) fun c103 => ?_)))))
    refine Jo 0 ?_; rintro a104 k105 rfl
    refine Jl [0] (Ent.cr1 (α := GNode) (A := []) _ (GNode.mk 3 v22_19 v35_50 v43_74) _ aB1 (fun h => ⟨rfl, aL1, aL1, aL1, aL1⟩)) ?_
    refine Oa (ApO [5, 0] sl33 sl33 sz33) fun c106 => ?_
    refine Jo 0 ?_; rintro a107 k108 rfl
    refine Fb 32 0 fun _ => ?_
    have hn110 := la out_73 ([(GNode.mk 3 v22_19 v35_50 v43_74)] : List GNode)
    refine Oq Va (KS ?_)
    refine Oq (Vfa fo59_0 1) (Oq (VldF sh3 1) (Oq Veql (KS ?_)))
    refine Kc ?_ ?_
    ·intro h111
     have g112 := eq_of_beq h111
     refine KS ?_
     refine Oq Vm (Oq Vm (Oq Vm (Oq Vm (Oq (Vbd st76 [vi 4, vi v22_19, vi v35_50, vi v43_74]) (Oa (AsV sl33 sz33 [.agg #[vi 4, vi v22_19, vi v35_50, vi v43_74]] [vi 4, vi v22_19, vi v35_50, vi v43_74]) fun c113 => ?_)))))
     refine Jo 0 ?_; rintro a114 k115 rfl
     refine Jl [0] (Ent.cr1 (α := GNode) (A := []) _ (GNode.mk 4 v22_19 v35_50 v43_74) _ aB1 (fun h => ⟨rfl, aL1, aL1, aL1, aL1⟩)) ?_
     refine Oa (ApO [1, 0] sl33 sl33 sz33) fun c116 => ?_
     refine Jo 0 ?_; rintro a117 k118 rfl
     refine Fb 32 0 fun _ => ?_
     have hn120 := la ((out_73 ++ [(GNode.mk 3 v22_19 v35_50 v43_74)]) : List GNode) ([(GNode.mk 4 v22_19 v35_50 v43_74)] : List GNode)
     refine Oq Va (KS ?_)
     refine Oq Vadd (Oq Vm (KS ?_))
     exact Kg (r91, ((out_73 ++ [(GNode.mk 3 v22_19 v35_50 v43_74)]) ++ [(GNode.mk 4 v22_19 v35_50 v43_74)]), (v43_74 + 1), a117, k118) [0, 4, 5, 6, 7, 8] ⟨(q3 hM77 (by simp only [nd_List_L2, h89, h111, cs4])), aM1, aM1, aM1, aM1, iv1⟩
    intro h111
    have g121 := ne_of_beq_false h111
    refine KS ?_
    refine Oq Vadd (Oq Vm (KS ?_))
    exact Kg (r91, (out_73 ++ [(GNode.mk 3 v22_19 v35_50 v43_74)]), (v43_74 + 1), a107, k108) [0, 4, 5, 6, 7, 8] ⟨(q3 hM77 (by simp only [nd_List_L2, h89, h111, cs4])), aM1, aM1, aM1, aM1, iv1⟩
   intro h89
   have g122 := df h89
   obtain rfl : r72 = 0 := by omega
   refine Ke ?_
   have hR123 := q2 hM77 out_73 (by simp only [nd_List_L2, h89, cs4])
   refine KS ?_
   refine Oq Vadd (Oq Vm (KS ?_))
   exact Kg (r66, out_73, (v35_50 + 1), a75, k76) [0, 1, 2, 3, 4] ⟨(q3 hM53 (by simp only [nd_List_L1, h64, h89, hR123, cs4])), aM1, aM1, aM1, aM1, iv1⟩
  intro h64
  have g124 := df h64
  obtain rfl : r48 = 0 := by omega
  refine Ke ?_
  have hR125 := q2 hM53 out_49 (by simp only [nd_List_L1, h64, cs4])
  refine KS ?_
  refine Oq Vm (Oq Vm (Oq (Vbd st76 [vi 2, vi v22_19, vi (-1), vi (-1)]) (Oa (AsV sl33 sz33 [.agg #[vi 2, vi v22_19, vi (-1), vi (-1)]] [vi 2, vi v22_19, vi (-1), vi (-1)]) fun c126 => ?_)))
  refine Jo 0 ?_; rintro a127 k128 rfl
  refine Jl [0] (Ent.cr1 (α := GNode) (A := []) _ (GNode.mk 2 v22_19 (-1) (-1)) _ aB1 (fun h => ⟨rfl, aL1, aL1, aL1, aL1⟩)) ?_
  refine Oa (ApO [1, 0] sl33 sl33 sz33) fun c129 => ?_
  refine Jo 0 ?_; rintro a130 k131 rfl
  refine Fb 32 0 fun _ => ?_
  have hn133 := la out_49 ([(GNode.mk 2 v22_19 (-1) (-1))] : List GNode)
  refine Oq Va (KS ?_)
  refine Oq Vadd (Oq Vm (KS ?_))
  exact Kg (r34, (out_49 ++ [(GNode.mk 2 v22_19 (-1) (-1))]), (v22_19 + 1), a130, k131) [0, 1, 2, 3] ⟨(q3 hM22 (by simp only [nd_List_L0, h32, h64, hR125, cs4])), aM1, aM1, aM1, aM1, iv1⟩
 intro h32
 have g134 := df h32
 obtain rfl : r17 = 0 := by omega
 refine Ke ?_
 have hR135 := q2 hM22 out_18 (by simp only [nd_List_L0, h32, cs4])
 refine KS ?_
 refine Oq Vm (Oq Va (KS ?_))
 refine Jl [0] (Ent.freeze _ _) ?_
 have hq := q4 hrr out_18 (by simp only [nd_List, h14, h32, hg6, hR135, cs4]); subst hq
 exact Kr (vl a20 k21 out_18) rfl (.tmp rfl .nil) [0] en
theorem fn89 (s : List Int) (sa0 : Option Addr) (sk0 : Nat) (v : Int) (hv_0 : i64ok v) (rr : Int) (hrr : sc_Index_int s v = rr) : FT Tryz.prog 89 #[vl sa0 sk0 s, vi v] [S sa0 sk0 s] (fun g : Unit => i64ok rr) (fun g => vi rr) (fun g => []) := by
 refine FTi Tryz.func89 fun w0 M0 F0 => ?_
 unfold i64ok at hv_0
 refine Fb 8 0 fun _ => Fo 0 fun ho2 => KS ?_
 refine Oq Va (KS ?_)
 refine Oq Vm (Oq (Vlen sl22) (Oq Vm (KS ?_)))
 refine Kl (γ := Nat × Int) (fun (r3, v8_4) => ⟨[(0, vl sa0 sk0 s), (1, vi v), (7, vi (s.length : Int)), (8, vi v8_4)], [S sa0 sk0 s], sc_Index_int_L0 s v r3 v8_4 = sc_Index_int_L0 s v (((s.length : Int) - 0).toNat) 0 ∧ r3 = ((s.length : Int) - v8_4).toNat ∧ (0 : Int) ≤ v8_4 ∧ v8_4 ≤ (s.length : Int) ∧ (-9223372036854775808 ≤ v8_4 ∧ v8_4 ≤ 9223372036854775807), r3⟩) (((s.length : Int) - 0).toNat, 0) [0] ⟨rfl, rfl, aM1, aM1, aM1⟩ ?_
 rintro ⟨r3, v8_4⟩ ⟨hM5, hr6, hi7, hi8, hk9⟩
 refine JJ_nx fun _ _ hL hA => ?_; dsimp only at hL hA; subst hL hA
 refine Fb 8 0 fun _ => Fo 0 fun ho11 => KS ?_
 refine Oq Vlss (KS ?_)
 refine Kc ?_ ?_
 ·intro h12
  have g13 := dt h12
  obtain ⟨r14, rfl⟩ := scc (n := r3) aM1
  refine KS ?_
  refine Oq Vm (Oq Va (KS ?_))
  refine Oq Vm (Oq Vm (Oq Vm (Oq (Vi sl22 0) ?_)))
  have hb15 := ok1 (i := v8_4.toNat) ho11 rng
  refine Oq (VldI sh3 0) (Oq Veql (KS ?_))
  refine Kc ?_ ?_
  ·intro h16
   have g17 := eq_of_beq h16
   refine KS ?_
   refine Oq Vm (Oq Va (KS ?_))
   have hR18 := q2 hM5 (.ret v8_4) (by simp only [sc_Index_int_L0, h12, h16, cs4])
   have hq := q4 hrr v8_4 (by simp only [sc_Index_int, h12, h16, hR18, cs4]); subst hq
   exact Kr () rfl (.tmp rfl .nil) [] en
  intro h16
  have g19 := ne_of_beq_false h16
  refine KS ?_
  refine Oq Vadd (Oq Vm (KS ?_))
  exact Kg (r14, (v8_4 + 1)) [0] ⟨(q3 hM5 (by simp only [sc_Index_int_L0, h12, h16, cs4])), aM1, aM1, aM1, aM1⟩
 intro h12
 have g20 := df h12
 obtain rfl : r3 = 0 := by omega
 refine Ke ?_
 have hR21 := q2 hM5 (.brk ()) (by simp only [sc_Index_int_L0, h12, cs4])
 refine KS ?_
 refine Oq Va (KS ?_)
 have hq := q4 hrr (-1) (by simp only [sc_Index_int, h12, hR21, cs4]); subst hq
 exact Kr () rfl (.tmp rfl .nil) [] en
theorem fn58 (s : List Int) (sa0 : Option Addr) (sk0 : Nat) (v : Int) (hv_0 : i64ok v) (rr : Bool) (hrr : sc_Contains_int s v = rr) : FT Tryz.prog 58 #[vl sa0 sk0 s, vi v] [S sa0 sk0 s] (fun g : Unit => True) (fun g => vb rr) (fun g => []) := by
 refine FTi Tryz.func58 fun w0 M0 F0 => ?_
 unfold i64ok at hv_0
 refine Fb 8 0 fun _ => Fo 0 fun ho2 => KS ?_
 refine Oq Va (KS ?_)
 refine Oq Vm (Oq Vm ?_)
 refine letv (sc_Index_int s v) fun rv3 hg4 => ?_
 have hc5 := fn89 s sa0 sk0 v pre rv3 hg4
 refine Oc [0] ca89 hc5 ?_
 rintro - he6
 unfold i64ok at he6
 refine Oq Vgeq (Oq Va (KS ?_))
 have hq := q4 hrr (decide (0 ≤ rv3)) (by simp only [sc_Contains_int, hg4, cs4]); subst hq
 exact Kr () rfl (.tmp rfl .nil) [] trivial
theorem fn44 (bP : Value) (b : Gbuilder) (ba0 : Option Addr) (bk0 : Nat) (ba1 : Option Addr) (bk1 : Nat) (ba2 : Option Addr) (bk2 : Nat) (bm3 : Value) (from_ : Int) (to_ : Int) (hfrom__0 : i64ok from_) (hto__0 : i64ok to_) (hb : BOk b) (hf0 : 0 ≤ from_ ∧ from_ < (b.g.Succ.length : Int) ∧ 0 ≤ to_ ∧ to_ < (b.g.Succ.length : Int)) (rr : Gbuilder) (hrr : bd_edge b from_ to_ = rr) : FT Tryz.prog 44 #[bP, vi from_, vi to_] [Cl bP [vl ba0 bk0 b.g.Nodes, vl ba1 bk1 b.g.Succ, vl ba2 bk2 b.g.Pred, bm3], S ba0 bk0 b.g.Nodes, D ba1 bk1 b.g.Succ, D ba2 bk2 b.g.Pred, Mp ev_GNode vi ok_GNode bm3 b.number] (fun g : Value × Value × Value => (BOk rr) ∧ (rr.g.Succ.length = b.g.Succ.length)) (fun g => .tuple #[]) (fun g => [Cl bP [g.1, g.2.1, g.2.2, bm3], sl g.1 rr.g.Nodes, ds g.2.1 rr.g.Succ, ds g.2.2 rr.g.Pred, Mp ev_GNode vi ok_GNode bm3 rr.number]) := by
 refine FTi Tryz.func44 fun w0 M0 F0 => ?_
 unfold i64ok at hfrom__0 hto__0
 refine Fb 32 1 fun _ => ?_
 refine FbD 24 2 fun _ => ?_
 refine FbD 24 3 fun _ => ?_
 have hps := hb.ps
 have hn0 := hb.n0
 have hnb := hb.nb
 have hsl := hb.sl (i := from_) aM1
 have hpl := hb.pl (i := to_) aM1
 refine KS ?_
 refine Oq Vm (Oq (Vn 0) (Oq (Vfa fo89_0 0) (Oq (VfaF fo36_1 0) (Oq (VldF sh34 0) (Oq Vm (Oq (Vi sl34 2) ?_))))))
 refine JJ_openDL from_.toNat 2 rfl rng fun a4 k5 => ?_
 refine Fb 8 1 fun _ => Fo 1 fun ho7 => ?_
 refine Oq (Vld sh22 0) (Oq Vm ?_)
 refine letv (sc_Contains_int (b.g.Succ.getD from_.toNat []) to_) fun rv8 hg9 => ?_
 refine Oc [1] ca58 (FT_borrow (A := _) (fun _ _ h => by cases h) (FT_ent (Ent.take (is := [0]) rfl) (fn58 ((b.g.Succ.getD from_.toNat [])) a4 k5 to_ pre rv8 hg9))) ?_ (ht := rfl)
 rintro - -
 refine KS ?_
 refine Kc ?_ ?_
 ·intro h10
  refine Jl [1, 0] (Ent.closeS (A := [O a4 k5 ((b.g.Succ.getD from_.toNat []) : List Int)]) _ _ _ _ [] innL) ?_
  have hq := q4 hrr b (by simp only [bd_edge, h10, hg9, cs4]); subst hq
  exact Kr (vl ba0 bk0 b.g.Nodes, vl ba1 bk1 b.g.Succ, vl ba2 bk2 b.g.Pred) rfl .nil [1, 1, 0, 1, 1] ⟨((edge_f hrr hb aM1 aM1).1), ((edge_f hrr hb aM1 aM1).2)⟩
 intro h10
 refine KS ?_
 refine Jp 2 fun hp13 => ?_
 refine JK_drawK [0, 1, 3, 7, 15, 0, 0, 64, 192, 448, 960, 0, 4032, 8128, 0, 16384, 65472, 131071, 262143] fmix ?_
 refine Dv [] Vm (Dv [0] (Vn 0) (Dv [0] (Vfa fo89_0 0) (Dv [0] (VfaF fo36_1 0) (Dv [3] (VldF sh34 0) (Dv [] Vm (Dv [] Vm (Dv [0] (Vn 0) (Dv [0] (Vfa fo89_0 0) (Dv [0] (VfaF fo36_1 0) ?_)))))))))
 refine Dv [3] (VldF sh34 0) (Dv [] Vm (Dv [2] (Vi sl34 0) (Dv [2] (Vld sh22 0) (Dv [] Vm (Dx [] [] [0] (fun G => (G.g 15 0)) [fun G => Cr (G.g 15 0) 1 [vi to_]] (fun G => xA (AsV sl22 sz22 [vi to_] [vi to_])) ?_)))))
 have hn16 := la ((b.g.Succ.getD from_.toNat []) : List Int) ([to_] : List Int)
 refine Dx [1, 7] [1, 7] [0] (fun G => (G.g 16 0)) [fun G => os (G.g 16 0) (((b.g.Succ.getD from_.toNat []) ++ [to_]) : List Int)] (fun G => xp [1] rfl (Ent.crInt _ [to_] _ _ rfl rfl (by intro x hx; rw [List.mem_singleton] at hx; subst hx; unfold i64ok; omega) aB1) (xA (ApO [1, 0] sl22 sl22 sz22))) (Dv [2] (Vi sl34 0) (Dx0 [2, 8] [2] [1, 0] [fun G => dh (vl ba1 bk1 b.g.Succ) (b.g.Succ : List (List Int)) from_.toNat [(G.g 16 0)]] (fun G => x1 1 rfl os_one fun ho17 => (xS (SoHr0 (α := (List Int)) [0] sh22 [(G.g 16 0)] [(G.g 16 0)] (cells_of_one ho17) rfl (by simp only [List.all_cons, List.all_nil, ho17, Bool.and_true, Bool.true_and] <;> rfl)))) ?_))
 refine Dn ⟨by kernel_rfl, fun G => ?_⟩
 refine Jw2 [(0, bP), (1, vi from_), (2, vi to_)] [0, 3, 4, 5, 6] [os (G.g 16 0) (((b.g.Succ.getD from_.toNat []) ++ [to_]) : List Int), dh (vl ba1 bk1 b.g.Succ) (b.g.Succ : List (List Int)) from_.toNat [(G.g 16 0)]] ?_
 generalize G.g 16 0 = c15
 refine Jk [1, 1, 2, 2, 2, 2] ?_
 refine Jo 4 ?_; rintro a18 k19 rfl
 refine Fb 8 4 fun _ => Fo 4 fun ho21 => ?_
 refine Jp 0 fun hp22 => ?_
 refine JJ_openDL to_.toNat 3 rfl rng fun a23 k24 => ?_
 refine Fb 8 1 fun _ => Fo 1 fun ho26 => ?_
 refine JK_drawK [0, 1, 3, 7, 15, 0, 0, 64, 192, 448, 960, 0, 4032, 8128, 0, 16384, 65472, 131071, 262143] fmix ?_
 refine Dv [] Vm (Dv [2] (Vn 0) (Dv [2] (Vfa fo89_0 0) (Dv [2] (VfaF fo36_2 0) (Dv [3] (VldF sh34 0) (Dv [] Vm (Dv [] Vm (Dv [2] (Vn 0) (Dv [2] (Vfa fo89_0 0) (Dv [2] (VfaF fo36_2 0) ?_)))))))))
 refine Dv [3] (VldF sh34 0) (Dv [] Vm (Dv [0] (Vi sl34 0) (Dv [0] (Vld sh22 0) (Dv [] Vm (Dx [] [] [0] (fun G => (G.g 15 0)) [fun G => Cr (G.g 15 0) 1 [vi from_]] (fun G => xA (AsV sl22 sz22 [vi from_] [vi from_])) ?_)))))
 have hn29 := la ((b.g.Pred.getD to_.toNat []) : List Int) ([from_] : List Int)
 refine Dx [1, 8] [1, 8] [0] (fun G => (G.g 16 0)) [fun G => os (G.g 16 0) (((b.g.Pred.getD to_.toNat []) ++ [from_]) : List Int)] (fun G => xp [1] rfl (Ent.crInt _ [from_] _ _ rfl rfl (by intro x hx; rw [List.mem_singleton] at hx; subst hx; unfold i64ok; omega) aB1) (xA (ApO [1, 0] sl22 sl22 sz22))) (Dv [0] (Vi sl34 0) (Dx0 [0, 9] [0] [1, 0] [fun G => dh (vl ba2 bk2 b.g.Pred) (b.g.Pred : List (List Int)) to_.toNat [(G.g 16 0)]] (fun G => x1 1 rfl os_one fun ho30 => (xS (SoHr0 (α := (List Int)) [0] sh22 [(G.g 16 0)] [(G.g 16 0)] (cells_of_one ho30) rfl (by simp only [List.all_cons, List.all_nil, ho30, Bool.and_true, Bool.true_and] <;> rfl)))) ?_))
 refine Dn ⟨by kernel_rfl, fun G => ?_⟩
 refine Jw2 [] [2, 3, 4, 5, 6, 7] [os (G.g 16 0) (((b.g.Pred.getD to_.toNat []) ++ [from_]) : List Int), dh (vl ba2 bk2 b.g.Pred) (b.g.Pred : List (List Int)) to_.toNat [(G.g 16 0)]] ?_
 generalize G.g 16 0 = c28
 refine Jk [1, 1, 2, 2, 2, 2, 2] ?_
 refine Jo 5 ?_; rintro a31 k32 rfl
 refine Fb 8 5 fun _ => Fo 5 fun ho34 => ?_
 refine Jl [4, 3] (Ent.closeD (A := [O a18 k19 (((b.g.Succ.getD from_.toNat []) ++ [to_]) : List Int)]) _ _ _ _ ((b.g.Succ.getD from_.toNat []) ++ [to_]) innL) ?_
 refine Jl [5, 4] (Ent.closeD (A := [O a31 k32 (((b.g.Pred.getD to_.toNat []) ++ [from_]) : List Int)]) _ _ _ _ ((b.g.Pred.getD to_.toNat []) ++ [from_]) innL) ?_
 have hq := q4 hrr (Gbuilder.mk (GGraph.mk b.g.Nodes (b.g.Succ.set from_.toNat ((b.g.Succ.getD from_.toNat []) ++ [to_])) (b.g.Pred.set to_.toNat ((b.g.Pred.getD to_.toNat []) ++ [from_]))) b.number) (by simp only [bd_edge, h10, hg9, cs4]); subst hq
 exact Kz (vl ba0 bk0 b.g.Nodes, vl ba1 bk1 b.g.Succ, vl ba2 bk2 b.g.Pred) rfl .nil [2, 2, 1, 0, 1] ⟨((edge_f hrr hb aM1 aM1).1), ((edge_f hrr hb aM1 aM1).2)⟩
theorem fn45 (bP : Value) (b : Gbuilder) (ba0 : Option Addr) (bk0 : Nat) (ba1 : Option Addr) (bk1 : Nat) (ba2 : Option Addr) (bk2 : Nat) (bm3 : Value) (kind : Int) (f : Int) (block : Int) (stmt : Int) (hkind_0 : i64ok kind) (hf_0 : i64ok f) (hblock_0 : i64ok block) (hstmt_0 : i64ok stmt) (hb : BOk b) (rr : Int) (hrr : bd_at b kind f block stmt = rr) : FT Tryz.prog 45 #[bP, vi kind, vi f, vi block, vi stmt] [Cl bP [vl ba0 bk0 b.g.Nodes, vl ba1 bk1 b.g.Succ, vl ba2 bk2 b.g.Pred, bm3], S ba0 bk0 b.g.Nodes, D ba1 bk1 b.g.Succ, D ba2 bk2 b.g.Pred, Mp ev_GNode vi ok_GNode bm3 b.number] (fun g : Unit => i64ok rr ∧ (0 ≤ rr ∧ rr < (b.g.Succ.length : Int))) (fun g => vi rr) (fun g => [Cl bP [vl ba0 bk0 b.g.Nodes, vl ba1 bk1 b.g.Succ, vl ba2 bk2 b.g.Pred, bm3], D ba1 bk1 b.g.Succ, D ba2 bk2 b.g.Pred, Mp ev_GNode vi ok_GNode bm3 b.number]) := by
 refine FTi Tryz.func45 fun w0 M0 F0 => ?_
 unfold i64ok at hkind_0 hf_0 hblock_0 hstmt_0
 refine Fb 32 1 fun _ => ?_
 refine FbD 24 2 fun _ => ?_
 refine FbD 24 3 fun _ => ?_
 have hps := hb.ps
 have hn0 := hb.n0
 have hnb := hb.nb
 have hat := at_f hb kind f block stmt
 unfold bd_at at hat
 refine KS ?_
 refine Oq Va (KS ?_)
 refine Oq Vm (Oq (Vn 0) (Oq (Vfa fo89_1 0) (Oq (VldF sh87 0) (Oq Vm (Oq Vm (Oq Vm (Oq Vm (Oq (Vbd st76 [vi kind, vi f, vi block, vi stmt]) (Oq (Vmk1 4 0 mt87 kk_GNode ze3 (ek := ev_GNode) (ev := vi) (ok := ok_GNode) (key := (GNode.mk kind f block stmt)) preK) ?_)))))))))
 refine Oq Va (KS ?_)
 have hq := q4 hrr ((mget b.number (GNode.mk kind f block stmt)).getD 0) (by simp only [bd_at, cs4]); subst hq
 exact Kr () rfl (.tmp rfl .nil) [0, 1, 1, 1] ⟨en, (at_r hrr hb)⟩
theorem fn112 (s : List GBlock) (sa0 : Option Addr) (sk0 : Nat) (fF : FuncId) (fC : List Value) (fp : GBlock → Bool) (fA : List SP) (hfc : callable Tryz.prog fF = true) (hfF : ∀ x ∈ s, ∀ (a1 : Option Addr) (k1 : Nat), x.Name.b.length ≤ 140737488355328 → FT Tryz.prog fF ([(.agg #[.string (bs x.Name), vl a1 k1 x.Stmts] : Value)] ++ fC).toArray ([S a1 k1 x.Stmts] ++ [pAll fA]) (fun _ : Unit => True) (fun _ => .bool (fp x)) (fun _ => [])) (rr : Int) (hrr : sc_IndexFunc_Block s fp = rr) : FT Tryz.prog 112 #[vl sa0 sk0 s, .func (.func fF) #[] fC.toArray] [S sa0 sk0 s, pAll fA] (fun g : Unit => i64ok rr) (fun g => vi rr) (fun g => []) := by
 refine FTi Tryz.func112 fun w0 M0 F0 => Fb 40 0 fun _ => ?_
 refine KS ?_
 refine Oq Va (KS ?_)
 refine Oq Vm (Oq (Vlen sl52) (Oq Vm (KS ?_)))
 refine Kl (γ := Nat × Int) (fun (r2, v8_3) => ⟨[(0, vl sa0 sk0 s), (1, .func (.func fF) #[] fC.toArray), (7, vi (s.length : Int)), (8, vi v8_3)], [S sa0 sk0 s, pAll fA], sc_IndexFunc_Block_L0 s fp r2 v8_3 = sc_IndexFunc_Block_L0 s fp (((s.length : Int) - 0).toNat) 0 ∧ r2 = ((s.length : Int) - v8_3).toNat ∧ (0 : Int) ≤ v8_3 ∧ v8_3 ≤ (s.length : Int) ∧ (-9223372036854775808 ≤ v8_3 ∧ v8_3 ≤ 9223372036854775807), r2⟩) (((s.length : Int) - 0).toNat, 0) [0, 1] ⟨rfl, rfl, aM1, aM1, aM1⟩ ?_
 rintro ⟨r2, v8_3⟩ ⟨hM4, hr5, hi6, hi7, hk8⟩
 refine JJ_nx fun _ _ hL hA => ?_; dsimp only at hL hA; subst hL hA
 refine Fb 40 0 fun _ => KS ?_
 refine Oq Vlss (KS ?_)
 refine Kc ?_ ?_
 ·intro h10
  have g11 := dt h10
  obtain ⟨r12, rfl⟩ := scc (n := r2) aM1
  refine KS ?_
  refine Oq Vm (Oq Va (KS ?_))
  refine Oq Vm (Oq Vm (Oq Vm (Oq (Vi sl52 0) ?_)))
  refine JJ_peek_GBlock v8_3.toNat 0 rfl rng fun a13 k14 hb15 => ?_
  refine Fb 72 1 fun _ => Oq (VldA sh57 0) ?_
  refine JO_call [1, 3] rfl rfl rfl (OpC.clo («as» := [(.agg #[.string (bs ((s.getD v8_3.toNat default).Name)), vl a13 k14 ((s.getD v8_3.toNat default).Stmts)] : Value)] ++ fC) rfl rfl hfc rfl (by simp)) (hfF (s.getD v8_3.toNat default) (getD_mem rng) a13 k14 pre) rfl fun _ _ => ?_
  refine KS ?_
  refine Kc ?_ ?_
  ·intro h17
   refine KS ?_
   refine Oq Vm (Oq Va (KS ?_))
   have hR19 := q2 hM4 (.ret v8_3) (by simp only [sc_IndexFunc_Block_L0, h10, h17, cs4])
   have hq := q4 hrr v8_3 (by simp only [sc_IndexFunc_Block, h10, h17, hR19, cs4]); subst hq
   exact Kr () rfl (.tmp rfl .nil) [] en
  intro h17
  refine KS ?_
  refine Oq Vadd (Oq Vm (KS ?_))
  exact Kg (r12, (v8_3 + 1)) [2, 3] ⟨(q3 hM4 (by simp only [sc_IndexFunc_Block_L0, h10, h17, cs4])), aM1, aM1, aM1, aM1⟩
 intro h10
 have g21 := df h10
 obtain rfl : r2 = 0 := by omega
 refine Ke ?_
 have hR22 := q2 hM4 (.brk ()) (by simp only [sc_IndexFunc_Block_L0, h10, cs4])
 refine KS ?_
 refine Oq Va (KS ?_)
 have hq := q4 hrr (-1) (by simp only [sc_IndexFunc_Block, h10, hR22, cs4]); subst hq
 exact Kr () rfl (.tmp rfl .nil) [] en
theorem fn113 (x : GBlock) (xa1 : Option Addr) (xk1 : Nat) (cap0P : Value) (cap0 : Str) (hx_0 : x.Name.b.length ≤ 140737488355328) (rr : Bool) (hrr : bd_first_1 x cap0 = rr) : FT Tryz.prog 113 #[.agg #[.string (bs x.Name), vl xa1 xk1 x.Stmts], cap0P] [S xa1 xk1 x.Stmts, pv cap0P [.string (bs cap0)]] (fun g : Unit => True) (fun g => vb rr) (fun g => []) := by
 refine FTi Tryz.func113 fun w0 M0 F0 => Fb 72 0 fun _ => ?_
 refine KS ?_
 refine Oa (Ab [.string (bs x.Name), vl xa1 xk1 x.Stmts]) fun p2 => Oq Va (KS ?_)
 refine Oq (Vfa fo57_0 0) (Oq (VldF sh9 0) (Oq (Vld sh9 2) (Oq (VeqS (l := x.Name) (m := cap0)) (Oq Va (KS ?_)))))
 have hq := q4 hrr (x.Name == cap0) (by simp only [bd_first_1, cs4]); subst hq
 exact Kr () rfl (.tmp rfl .nil) [] trivial
theorem fn68 (bP : Value) (b : Gbuilder) (ba0 : Option Addr) (bk0 : Nat) (ba1 : Option Addr) (bk1 : Nat) (ba2 : Option Addr) (bk2 : Nat) (bm3 : Value) (p : GProgram) (pa0 : Option Addr) (pk0 : Nat) (f : Int) (name : Str) (hf_0 : i64ok f) (hname_0 : name.b.length ≤ 140737488355328) (hb : BOk b) (hf0 : 0 ≤ f ∧ f < (p.Funcs.length : Int)) (rr : Int) (hrr : bd_first b p f name = rr) : FT Tryz.prog 68 #[bP, .agg #[vl pa0 pk0 p.Funcs], vi f, .string (bs name)] [Cl bP [vl ba0 bk0 b.g.Nodes, vl ba1 bk1 b.g.Succ, vl ba2 bk2 b.g.Pred, bm3], S ba0 bk0 b.g.Nodes, D ba1 bk1 b.g.Succ, D ba2 bk2 b.g.Pred, Mp ev_GNode vi ok_GNode bm3 b.number, S pa0 pk0 p.Funcs] (fun g : Unit => i64ok rr ∧ (0 ≤ rr ∧ rr < (b.g.Succ.length : Int))) (fun g => vi rr) (fun g => [Cl bP [vl ba0 bk0 b.g.Nodes, vl ba1 bk1 b.g.Succ, vl ba2 bk2 b.g.Pred, bm3], D ba1 bk1 b.g.Succ, D ba2 bk2 b.g.Pred, Mp ev_GNode vi ok_GNode bm3 b.number]) := by
 refine FTi Tryz.func68 fun w0 M0 F0 => ?_
 unfold i64ok at hf_0
 refine Fb 32 1 fun _ => ?_
 refine FbD 24 2 fun _ => ?_
 refine FbD 24 3 fun _ => ?_
 refine Fb 40 5 fun _ => ?_
 have hps := hb.ps
 have hn0 := hb.n0
 have hnb := hb.nb
 refine KS ?_
 refine Oa (Ab [vl pa0 pk0 p.Funcs]) fun p5 => Oa (Ab [.string (bs name)]) fun p6 => Oq Va (KS ?_)
 refine Oq (Vfa fo25_0 1) (Oq (VldF sh23 1) (Oq Vm (Oq (Vi sl23 7) ?_)))
 refine JJ_peek_GFunc f.toNat 7 rfl rng fun a7 k8 hb9 => ?_
 refine Fb 40 1 fun _ => ?_
 refine Oq (Vfa fo54_1 0) (Oq (VldF sh52 0) (Oq (Vf [p6]) ?_))
 refine JJ_ent (Ent.pall [2] rfl rfl) ?_
 refine letv (sc_IndexFunc_Block ((p.Funcs.getD f.toNat default).Blocks) (fun x => bd_first_1 x name)) fun rv11 hg12 => ?_
 have hc13 := fn112 ((p.Funcs.getD f.toNat default).Blocks) a7 k8 113 [p6] (fun x => bd_first_1 x name) [pv p6 [.string (bs name)]] ca113 (fun x hx a1 k1 hq0 => FT_pall (A1 := _) (fn113 x a1 k1 p6 name hq0 _ rfl)) rv11 hg12
 refine Oc [2, 0] ca112 hc13 ?_
 rintro - he14
 unfold i64ok at he14
 refine Oq Va (KS ?_)
 refine Oq Vm (Oq Vm (Oq Vm ?_))
 refine letv (bd_at b 3 f rv11 0) fun rv15 hg16 => ?_
 have hc17 := fn45 bP b ba0 bk0 ba1 bk1 ba2 bk2 bm3 3 f rv11 0 pre pre pre pre hb rv15 hg16
 refine Oc [5, 5, 6, 6, 6] ca45 hc17 ?_
 rintro - ⟨he18, he19⟩
 unfold i64ok at he18
 refine Oq Va (KS ?_)
 have hq := q4 hrr rv15 (by simp only [bd_first, hg12, hg16, cs4]); subst hq
 exact Kr () rfl (.tmp rfl .nil) [0, 0, 0, 0] ⟨en, (first_f hrr hb)⟩
theorem fn69 (s : List GFunc) (sa0 : Option Addr) (sk0 : Nat) (fF : FuncId) (fC : List Value) (fp : GFunc → Bool) (fA : List SP) (hfc : callable Tryz.prog fF = true) (hfF : ∀ x ∈ s, ∀ (a1 : Option Addr) (k1 : Nat), x.Name.b.length ≤ 140737488355328 → FT Tryz.prog fF ([(.agg #[.string (bs x.Name), vl a1 k1 x.Blocks] : Value)] ++ fC).toArray ([S a1 k1 x.Blocks] ++ [pAll fA]) (fun _ : Unit => True) (fun _ => .bool (fp x)) (fun _ => [])) (rr : Int) (hrr : sc_IndexFunc_Func s fp = rr) : FT Tryz.prog 69 #[vl sa0 sk0 s, .func (.func fF) #[] fC.toArray] [S sa0 sk0 s, pAll fA] (fun g : Unit => i64ok rr) (fun g => vi rr) (fun g => []) := by
 refine FTi Tryz.func69 fun w0 M0 F0 => Fb 40 0 fun _ => ?_
 refine KS ?_
 refine Oq Va (KS ?_)
 refine Oq Vm (Oq (Vlen sl23) (Oq Vm (KS ?_)))
 refine Kl (γ := Nat × Int) (fun (r2, v8_3) => ⟨[(0, vl sa0 sk0 s), (1, .func (.func fF) #[] fC.toArray), (7, vi (s.length : Int)), (8, vi v8_3)], [S sa0 sk0 s, pAll fA], sc_IndexFunc_Func_L0 s fp r2 v8_3 = sc_IndexFunc_Func_L0 s fp (((s.length : Int) - 0).toNat) 0 ∧ r2 = ((s.length : Int) - v8_3).toNat ∧ (0 : Int) ≤ v8_3 ∧ v8_3 ≤ (s.length : Int) ∧ (-9223372036854775808 ≤ v8_3 ∧ v8_3 ≤ 9223372036854775807), r2⟩) (((s.length : Int) - 0).toNat, 0) [0, 1] ⟨rfl, rfl, aM1, aM1, aM1⟩ ?_
 rintro ⟨r2, v8_3⟩ ⟨hM4, hr5, hi6, hi7, hk8⟩
 refine JJ_nx fun _ _ hL hA => ?_; dsimp only at hL hA; subst hL hA
 refine Fb 40 0 fun _ => KS ?_
 refine Oq Vlss (KS ?_)
 refine Kc ?_ ?_
 ·intro h10
  have g11 := dt h10
  obtain ⟨r12, rfl⟩ := scc (n := r2) aM1
  refine KS ?_
  refine Oq Vm (Oq Va (KS ?_))
  refine Oq Vm (Oq Vm (Oq Vm (Oq (Vi sl23 0) ?_)))
  refine JJ_peek_GFunc v8_3.toNat 0 rfl rng fun a13 k14 hb15 => ?_
  refine Fb 40 1 fun _ => Oq (VldA sh54 0) ?_
  refine JO_call [1, 3] rfl rfl rfl (OpC.clo («as» := [(.agg #[.string (bs ((s.getD v8_3.toNat default).Name)), vl a13 k14 ((s.getD v8_3.toNat default).Blocks)] : Value)] ++ fC) rfl rfl hfc rfl (by simp)) (hfF (s.getD v8_3.toNat default) (getD_mem rng) a13 k14 pre) rfl fun _ _ => ?_
  refine KS ?_
  refine Kc ?_ ?_
  ·intro h17
   refine KS ?_
   refine Oq Vm (Oq Va (KS ?_))
   have hR19 := q2 hM4 (.ret v8_3) (by simp only [sc_IndexFunc_Func_L0, h10, h17, cs4])
   have hq := q4 hrr v8_3 (by simp only [sc_IndexFunc_Func, h10, h17, hR19, cs4]); subst hq
   exact Kr () rfl (.tmp rfl .nil) [] en
  intro h17
  refine KS ?_
  refine Oq Vadd (Oq Vm (KS ?_))
  exact Kg (r12, (v8_3 + 1)) [2, 3] ⟨(q3 hM4 (by simp only [sc_IndexFunc_Func_L0, h10, h17, cs4])), aM1, aM1, aM1, aM1⟩
 intro h10
 have g21 := df h10
 obtain rfl : r2 = 0 := by omega
 refine Ke ?_
 have hR22 := q2 hM4 (.brk ()) (by simp only [sc_IndexFunc_Func_L0, h10, cs4])
 refine KS ?_
 refine Oq Va (KS ?_)
 have hq := q4 hrr (-1) (by simp only [sc_IndexFunc_Func, h10, hR22, cs4]); subst hq
 exact Kr () rfl (.tmp rfl .nil) [] en
theorem fn70 (x : GFunc) (xa1 : Option Addr) (xk1 : Nat) (cap0P : Value) (cap0 : GStmt) (cap0a2 : Option Addr) (cap0k2 : Nat) (cap0a3 : Option Addr) (cap0k3 : Nat) (hx_0 : x.Name.b.length ≤ 140737488355328) (hcap0_0 : i64ok cap0.Op) (ht0 : 0 < cap0.Targets.length) (rr : Bool) (hrr : bd_stmt_1 x cap0 = rr) : FT Tryz.prog 70 #[.agg #[.string (bs x.Name), vl xa1 xk1 x.Blocks], cap0P] [S xa1 xk1 x.Blocks, pv cap0P [vi cap0.Op, .string (bs cap0.Def), vl cap0a2 cap0k2 cap0.Uses, vl cap0a3 cap0k3 cap0.Targets], S cap0a2 cap0k2 cap0.Uses, S cap0a3 cap0k3 cap0.Targets] (fun g : Unit => True) (fun g => vb rr) (fun g => []) := by
 refine FTi Tryz.func70 fun w0 M0 F0 => ?_
 unfold i64ok at hcap0_0
 refine Fb 40 0 fun _ => Fb 16 2 fun _ => ?_
 refine FoS 2 fun ho3 => ?_
 refine Fb 16 3 fun _ => ?_
 refine FoS 3 fun ho5 => ?_
 refine KS ?_
 refine Oa (Ab [.string (bs x.Name), vl xa1 xk1 x.Blocks]) fun p6 => Oq Va (KS ?_)
 refine Kq [0, 1, 0, 4, 12, 28, 63, 127] fmix ?_
 refine Qv [0] (Vfa fo54_0 0) (Qv [0] (VldF sh9 0) (Qv [2] (Vfa fo59_3 0) (Qv [2] (VldF sh51 0) (Qv [4] (Vi sl51 0) ?_))))
 have hb7 := okS (i := (0 : Int).toNat) ho5 rng
 refine Qv [4] (VldS sh9 0) (Qv [] (VeqS (l := x.Name) (m := (cap0.Targets.getD (0 : Int).toNat default))) (Qv [] Va ?_))
 refine Qn ⟨by kernel_rfl, ?_⟩
 have hq := q4 hrr (x.Name == (cap0.Targets.getD (0 : Int).toNat default)) (by simp only [bd_stmt_1, cs4]); subst hq
 exact Kr () rfl (.tmp rfl .nil) [] trivial
theorem fn46 (bP : Value) (b : Gbuilder) (ba0 : Option Addr) (bk0 : Nat) (ba1 : Option Addr) (bk1 : Nat) (ba2 : Option Addr) (bk2 : Nat) (bm3 : Value) (p : GProgram) (pa0 : Option Addr) (pk0 : Nat) (n : GNode) (s : GStmt) (sa2 : Option Addr) (sk2 : Nat) (sa3 : Option Addr) (sk3 : Nat) (hn_0 : i64ok n.Kind) (hn_1 : i64ok n.Func) (hn_2 : i64ok n.Block) (hn_3 : i64ok n.Stmt) (hs_0 : i64ok s.Op) (hs_1 : s.Def.b.length ≤ 140737488355328) (hb : BOk b) (hn0 : 0 ≤ n.Func ∧ n.Func < (p.Funcs.length : Int) ∧ n.Stmt ≤ 100000) (ht0 : s.Op = 3 → 0 < s.Targets.length) (rr : Gbuilder) (hrr : bd_stmt b p n s = rr) : FT Tryz.prog 46 #[bP, .agg #[vl pa0 pk0 p.Funcs], .agg #[vi n.Kind, vi n.Func, vi n.Block, vi n.Stmt], .agg #[vi s.Op, .string (bs s.Def), vl sa2 sk2 s.Uses, vl sa3 sk3 s.Targets]] [Cl bP [vl ba0 bk0 b.g.Nodes, vl ba1 bk1 b.g.Succ, vl ba2 bk2 b.g.Pred, bm3], S ba0 bk0 b.g.Nodes, D ba1 bk1 b.g.Succ, D ba2 bk2 b.g.Pred, Mp ev_GNode vi ok_GNode bm3 b.number, S pa0 pk0 p.Funcs, S sa2 sk2 s.Uses, S sa3 sk3 s.Targets] (fun g : Value × Value × Value => (BOk rr) ∧ (rr.g.Succ.length = b.g.Succ.length)) (fun g => .tuple #[]) (fun g => [Cl bP [g.1, g.2.1, g.2.2, bm3], sl g.1 rr.g.Nodes, ds g.2.1 rr.g.Succ, ds g.2.2 rr.g.Pred, Mp ev_GNode vi ok_GNode bm3 rr.number]) := by
 refine FTi Tryz.func46 fun w0 M0 F0 => ?_
 unfold i64ok at hn_0 hn_1 hn_2 hn_3 hs_0
 refine Fb 32 1 fun _ => ?_
 refine FbD 24 2 fun _ => ?_
 refine FbD 24 3 fun _ => ?_
 refine Fb 40 5 fun _ => Fb 16 6 fun _ => ?_
 refine FoS 6 fun ho6 => ?_
 refine Fb 16 7 fun _ => ?_
 refine FoS 7 fun ho8 => ?_
 have hps := hb.ps
 have hn0 := hb.n0
 have hnb := hb.nb
 have hhe := hb.num n
 refine KS ?_
 refine Oa (Ab [vl pa0 pk0 p.Funcs]) fun p9 => Oa (Ab [vi n.Kind, vi n.Func, vi n.Block, vi n.Stmt]) fun p10 => Oa (Ab [vi s.Op, .string (bs s.Def), vl sa2 sk2 s.Uses, vl sa3 sk3 s.Targets]) fun p11 => KS ?_
 refine Jp 3 fun hp12 => ?_
 refine Kq [0, 1, 3, 7, 0, 31, 63] fmix ?_
 refine Qv [] Vm (Qv [0] (Vn 0) (Qv [0] (Vfa fo89_1 0) (Qv [4] (VldF sh87 0) (Qv [2] (VldA sh76 0) (Qv [8] (Vmk1 0 0 mt87 kk_GNode ze3 (ek := ev_GNode) (ev := vi) (ok := ok_GNode) (key := n) preK) (Qv [] Va ?_))))))
 refine Qn ⟨by kernel_rfl, ?_⟩
 refine KS ?_
 refine Oq Vm (Oq (Vfa fo76_1 2) (Oq (VldF sh3 2) (Oq (Vfa fo76_2 2) (Oq (VldF sh3 2) (Oq (Vfa fo76_3 2) (Oq (VldF sh3 2) (Oq Vadd ?_)))))))
 refine letv (bd_at b 3 n.Func n.Block (n.Stmt + 1)) fun rv13 hg14 => ?_
 have hc15 := fn45 bP b ba0 bk0 ba1 bk1 ba2 bk2 bm3 3 n.Func n.Block ((n.Stmt + 1)) pre pre pre pre (by assumption) rv13 hg14
 refine Oc [4, 4, 5, 5, 5] ca45 hc15 ?_
 rintro - ⟨he16, he17⟩
 unfold i64ok at he16
 refine Oq Va (KS ?_)
 refine Oq (Vfa fo59_0 5) (Oq (VldF sh3 5) (KS ?_))
 refine Oq Veql (Oq Va (KS ?_))
 refine Kc ?_ ?_
 ·intro h18
  have g19 := eq_of_beq h18
  refine KS ?_
  refine Kc ?_ ?_
  ·intro h20
   have g21 := eq_of_beq h20
   refine KS ?_
   refine Oq (Vfa fo59_3 5) (Oq (VldF sh51 5) (Oq (Vlen sl51) (Oq Vm (KS ?_))))
   refine Kl (γ := Nat × List GNode × List (List Int) × List (List Int) × (List (GNode × Int)) × Int × Option Addr × Nat × Option Addr × Nat × Option Addr × Nat) (fun (r22, b0_23, b1_24, b2_25, b3_26, v41_27, a28, k29, a30, k31, a32, k33) => ⟨[(0, bP), (5, p9), (6, p10), (8, vi ((mget b.number n).getD 0)), (39, vl sa3 sk3 s.Targets), (40, vi (s.Targets.length : Int)), (41, vi v41_27)], [D a32 k33 b2_25, D a30 k31 b1_24, S a28 k29 b0_23, Cl bP [vl a28 k29 b0_23, vl a30 k31 b1_24, vl a32 k33 b2_25, bm3], Mp ev_GNode vi ok_GNode bm3 b3_26, pv p10 [vi n.Kind, vi n.Func, vi n.Block, vi n.Stmt], pv p9 [vl pa0 pk0 p.Funcs], S pa0 pk0 p.Funcs, S sa3 sk3 s.Targets], bd_stmt_L0 p n s ((mget b.number n).getD 0) r22 b0_23 b1_24 b2_25 b3_26 v41_27 = bd_stmt_L0 p n s ((mget b.number n).getD 0) (((s.Targets.length : Int) - 0).toNat) b.g.Nodes b.g.Succ b.g.Pred b.number 0 ∧ r22 = ((s.Targets.length : Int) - v41_27).toNat ∧ (0 : Int) ≤ v41_27 ∧ v41_27 ≤ (s.Targets.length : Int) ∧ (-9223372036854775808 ≤ v41_27 ∧ v41_27 ≤ 9223372036854775807) ∧ BOk (Gbuilder.mk (GGraph.mk b0_23 b1_24 b2_25) b3_26) ∧ b1_24.length = b.g.Succ.length, r22⟩) (((s.Targets.length : Int) - 0).toNat, b.g.Nodes, b.g.Succ, b.g.Pred, b.number, 0, ba0, bk0, ba1, bk1, ba2, bk2) [2, 1, 6, 0, 0, 2, 3, 5, 7] ⟨rfl, rfl, aM1, aM1, aM1, hb, rfl⟩ ?_
   rintro ⟨r22, b0_23, b1_24, b2_25, b3_26, v41_27, a28, k29, a30, k31, a32, k33⟩ ⟨hM34, hr35, hi36, hi37, hk38, hv39, hv40⟩
   refine JJ_nx fun _ _ hL hA => ?_; dsimp only at hL hA; subst hL hA
   refine FbD 24 0 fun _ => ?_
   refine FbD 24 1 fun _ => ?_
   refine Fb 32 2 fun _ => Fb 40 7 fun _ => Fb 16 8 fun _ => ?_
   refine FoS 8 fun ho46 => ?_
   refine KS ?_
   refine Oq Vlss (KS ?_)
   refine Kc ?_ ?_
   ·intro h47
    have g48 := dt h47
    obtain ⟨r49, rfl⟩ := scc (n := r22) aM1
    refine KS ?_
    refine Oq (Vi sl51 8) ?_
    have hb50 := okS (i := v41_27.toNat) ho46 rng
    refine Oq (VldS sh9 8) (Oq Va (KS ?_))
    refine Oq Vm (Oq Vm (Oq Vm (Oq (VldA sh25 6) (Oq (Vfa fo76_1 5) (Oq (VldF sh3 5) (Oq Vm ?_))))))
    refine letv (bd_first (Gbuilder.mk (GGraph.mk b0_23 b1_24 b2_25) b3_26) p n.Func (s.Targets.getD v41_27.toNat default)) fun rv51 hg52 => ?_
    have hc53 := fn68 bP (Gbuilder.mk (GGraph.mk b0_23 b1_24 b2_25) b3_26) a28 k29 a30 k31 a32 k33 bm3 p pa0 pk0 n.Func ((s.Targets.getD v41_27.toNat default)) pre pre (by assumption) pre rv51 hg52
    refine Oc [3, 2, 1, 0, 1, 3] ca68 hc53 ?_
    rintro - ⟨he54, he55⟩
    unfold i64ok at he54
    have he55 : (0 ≤ rv51 ∧ rv51 < (b1_24.length : Int)) := he55
    refine letv (bd_edge (Gbuilder.mk (GGraph.mk b0_23 b1_24 b2_25) b3_26) ((mget b.number n).getD 0) rv51) fun rv59 hg60 => ?_
    have hc61 := fn44 bP (Gbuilder.mk (GGraph.mk b0_23 b1_24 b2_25) b3_26) a28 k29 a30 k31 a32 k33 bm3 (((mget b.number n).getD 0)) rv51 pre pre (by assumption) pre rv59 hg60
    refine Oc [0, 3, 0, 0, 0] ca44 hc61 ?_
    rintro ⟨c56, c57, c58⟩ ⟨he62, he63⟩
    have he63 : (rv59.g.Succ.length = b1_24.length) := he63
    refine Jo 1 ?_; rintro a64 k65 rfl
    refine Fb 32 1 fun _ => ?_
    refine Jo 2 ?_; rintro a67 k68 rfl
    refine FbD 24 2 fun _ => ?_
    refine Jo 3 ?_; rintro a70 k71 rfl
    refine FbD 24 3 fun _ => ?_
    refine KS ?_
    refine Oq Vadd (Oq Vm (KS ?_))
    exact Kg (r49, rv59.g.Nodes, rv59.g.Succ, rv59.g.Pred, rv59.number, (v41_27 + 1), a64, k65, a67, k68, a70, k71) [3, 2, 1, 0, 1, 2, 3, 4, 5] ⟨(q3 hM34 (by simp only [bd_stmt_L0, h47, hg52, hg60, cs4])), aM1, aM1, aM1, aM1, (by assumption), (by first | omega | (dsimp only at *; omega))⟩
   intro h47
   have g73 := df h47
   obtain rfl : r22 = 0 := by omega
   refine Ke ?_
   have hR74 := q2 hM34 (b0_23, b1_24, b2_25, b3_26) (by simp only [bd_stmt_L0, h47, cs4])
   refine KS ?_
   have hq := q4 hrr (Gbuilder.mk (GGraph.mk b0_23 b1_24 b2_25) b3_26) (by simp only [bd_stmt, h18, h20, h47, hg14, hR74, cs4]); subst hq
   exact Kz (vl a28 k29 b0_23, vl a30 k31 b1_24, vl a32 k33 b2_25) rfl .nil [3, 2, 1, 0, 1] ⟨(by assumption), (by first | omega | (dsimp only; omega))⟩
  intro h20
  exact absurd h20 (by first | (simp [h18]; done) | (simp only [bne, h18]; decide) | (simp only [bne, h18, Bool.not_true, Bool.not_false]; decide) | (exfalso; omega) | (intro hq; simp only [bne, hq, Bool.not_false, Bool.not_true, reduceCtorEq] at h18))
 intro h18
 have g75 := ne_of_beq_false h18
 refine KS ?_
 refine Oq Veql (Oq Va (KS ?_))
 refine Kc ?_ ?_
 ·intro h76
  have g77 := eq_of_beq h76
  refine KS ?_
  refine Oq (Vfa fo59_3 5) (Oq (VldF sh51 5) (Oq (Vlen sl51) (Oq Vm (KS ?_))))
  refine Kl (γ := Nat × List GNode × List (List Int) × List (List Int) × (List (GNode × Int)) × Int × Option Addr × Nat × Option Addr × Nat × Option Addr × Nat) (fun (r78, b0_79, b1_80, b2_81, b3_82, v41_83, a84, k85, a86, k87, a88, k89) => ⟨[(0, bP), (5, p9), (6, p10), (8, vi ((mget b.number n).getD 0)), (39, vl sa3 sk3 s.Targets), (40, vi (s.Targets.length : Int)), (41, vi v41_83)], [D a88 k89 b2_81, D a86 k87 b1_80, S a84 k85 b0_79, Cl bP [vl a84 k85 b0_79, vl a86 k87 b1_80, vl a88 k89 b2_81, bm3], Mp ev_GNode vi ok_GNode bm3 b3_82, pv p10 [vi n.Kind, vi n.Func, vi n.Block, vi n.Stmt], pv p9 [vl pa0 pk0 p.Funcs], S pa0 pk0 p.Funcs, S sa3 sk3 s.Targets], bd_stmt_L0 p n s ((mget b.number n).getD 0) r78 b0_79 b1_80 b2_81 b3_82 v41_83 = bd_stmt_L0 p n s ((mget b.number n).getD 0) (((s.Targets.length : Int) - 0).toNat) b.g.Nodes b.g.Succ b.g.Pred b.number 0 ∧ r78 = ((s.Targets.length : Int) - v41_83).toNat ∧ (0 : Int) ≤ v41_83 ∧ v41_83 ≤ (s.Targets.length : Int) ∧ (-9223372036854775808 ≤ v41_83 ∧ v41_83 ≤ 9223372036854775807) ∧ BOk (Gbuilder.mk (GGraph.mk b0_79 b1_80 b2_81) b3_82) ∧ b1_80.length = b.g.Succ.length, r78⟩) (((s.Targets.length : Int) - 0).toNat, b.g.Nodes, b.g.Succ, b.g.Pred, b.number, 0, ba0, bk0, ba1, bk1, ba2, bk2) [2, 1, 6, 0, 0, 2, 3, 5, 7] ⟨rfl, rfl, aM1, aM1, aM1, hb, rfl⟩ ?_
  rintro ⟨r78, b0_79, b1_80, b2_81, b3_82, v41_83, a84, k85, a86, k87, a88, k89⟩ ⟨hM90, hr91, hi92, hi93, hk94, hv95, hv96⟩
  refine JJ_nx fun _ _ hL hA => ?_; dsimp only at hL hA; subst hL hA
  refine FbD 24 0 fun _ => ?_
  refine FbD 24 1 fun _ => ?_
  refine Fb 32 2 fun _ => Fb 40 7 fun _ => Fb 16 8 fun _ => ?_
  refine FoS 8 fun ho102 => ?_
  refine KS ?_
  refine Oq Vlss (KS ?_)
  refine Kc ?_ ?_
  ·intro h103
   have g104 := dt h103
   obtain ⟨r105, rfl⟩ := scc (n := r78) aM1
   refine KS ?_
   refine Oq (Vi sl51 8) ?_
   have hb106 := okS (i := v41_83.toNat) ho102 rng
   refine Oq (VldS sh9 8) (Oq Va (KS ?_))
   refine Oq Vm (Oq Vm (Oq Vm (Oq (VldA sh25 6) (Oq (Vfa fo76_1 5) (Oq (VldF sh3 5) (Oq Vm ?_))))))
   refine letv (bd_first (Gbuilder.mk (GGraph.mk b0_79 b1_80 b2_81) b3_82) p n.Func (s.Targets.getD v41_83.toNat default)) fun rv107 hg108 => ?_
   have hc109 := fn68 bP (Gbuilder.mk (GGraph.mk b0_79 b1_80 b2_81) b3_82) a84 k85 a86 k87 a88 k89 bm3 p pa0 pk0 n.Func ((s.Targets.getD v41_83.toNat default)) pre pre (by assumption) pre rv107 hg108
   refine Oc [3, 2, 1, 0, 1, 3] ca68 hc109 ?_
   rintro - ⟨he110, he111⟩
   unfold i64ok at he110
   have he111 : (0 ≤ rv107 ∧ rv107 < (b1_80.length : Int)) := he111
   refine letv (bd_edge (Gbuilder.mk (GGraph.mk b0_79 b1_80 b2_81) b3_82) ((mget b.number n).getD 0) rv107) fun rv115 hg116 => ?_
   have hc117 := fn44 bP (Gbuilder.mk (GGraph.mk b0_79 b1_80 b2_81) b3_82) a84 k85 a86 k87 a88 k89 bm3 (((mget b.number n).getD 0)) rv107 pre pre (by assumption) pre rv115 hg116
   refine Oc [0, 3, 0, 0, 0] ca44 hc117 ?_
   rintro ⟨c112, c113, c114⟩ ⟨he118, he119⟩
   have he119 : (rv115.g.Succ.length = b1_80.length) := he119
   refine Jo 1 ?_; rintro a120 k121 rfl
   refine Fb 32 1 fun _ => ?_
   refine Jo 2 ?_; rintro a123 k124 rfl
   refine FbD 24 2 fun _ => ?_
   refine Jo 3 ?_; rintro a126 k127 rfl
   refine FbD 24 3 fun _ => ?_
   refine KS ?_
   refine Oq Vadd (Oq Vm (KS ?_))
   exact Kg (r105, rv115.g.Nodes, rv115.g.Succ, rv115.g.Pred, rv115.number, (v41_83 + 1), a120, k121, a123, k124, a126, k127) [3, 2, 1, 0, 1, 2, 3, 4, 5] ⟨(q3 hM90 (by simp only [bd_stmt_L0, h103, hg108, hg116, cs4])), aM1, aM1, aM1, aM1, (by assumption), (by first | omega | (dsimp only at *; omega))⟩
  intro h103
  have g129 := df h103
  obtain rfl : r78 = 0 := by omega
  refine Ke ?_
  have hR130 := q2 hM90 (b0_79, b1_80, b2_81, b3_82) (by simp only [bd_stmt_L0, h103, cs4])
  refine KS ?_
  have hq := q4 hrr (Gbuilder.mk (GGraph.mk b0_79 b1_80 b2_81) b3_82) (by simp only [bd_stmt, h18, h76, h103, hg14, hR130, cs4]); subst hq
  exact Kz (vl a84 k85 b0_79, vl a86 k87 b1_80, vl a88 k89 b2_81) rfl .nil [3, 2, 1, 0, 1] ⟨(by assumption), (by first | omega | (dsimp only; omega))⟩
 intro h76
 have g131 := ne_of_beq_false h76
 refine KS ?_
 refine Oq Veql (Oq Va (KS ?_))
 refine Kc ?_ ?_
 ·intro h132
  have g133 := eq_of_beq h132
  refine KS ?_
  refine Oq Vm (Oq Vm (Oq Vm (Oq (Vfa fo76_1 6) (Oq (VldF sh3 6) ?_))))
  refine letv (bd_at b 2 n.Func (-1) (-1)) fun rv134 hg135 => ?_
  have hc136 := fn45 bP b ba0 bk0 ba1 bk1 ba2 bk2 bm3 2 n.Func (-1) (-1) pre pre pre pre (by assumption) rv134 hg135
  refine Oc [0, 7, 0, 0, 0] ca45 hc136 ?_
  rintro - ⟨he137, he138⟩
  unfold i64ok at he137
  refine letv (bd_edge b ((mget b.number n).getD 0) rv134) fun rv142 hg143 => ?_
  have hc144 := fn44 bP b ba0 bk0 ba1 bk1 ba2 bk2 bm3 (((mget b.number n).getD 0)) rv134 pre pre (by assumption) pre rv142 hg143
  refine Oc [0, 7, 0, 0, 0] ca44 hc144 ?_
  rintro ⟨c139, c140, c141⟩ ⟨he145, he146⟩
  refine Jo 1 ?_; rintro a147 k148 rfl
  refine Fb 32 1 fun _ => ?_
  refine Jo 2 ?_; rintro a150 k151 rfl
  refine FbD 24 2 fun _ => ?_
  refine Jo 3 ?_; rintro a153 k154 rfl
  refine FbD 24 3 fun _ => ?_
  refine KS ?_
  have hq := q4 hrr rv142 (by simp only [bd_stmt, h18, h76, h132, hg14, hg135, hg143, cs4]); subst hq
  exact Kz (vl a147 k148 rv142.g.Nodes, vl a150 k151 rv142.g.Succ, vl a153 k154 rv142.g.Pred) rfl .nil [0, 0, 1, 1, 1] ⟨(by assumption), (by first | omega | (dsimp only; omega))⟩
 intro h132
 have g156 := ne_of_beq_false h132
 refine KS ?_
 refine Oq Veql (Oq Va (KS ?_))
 refine Kc ?_ ?_
 ·intro h157
  have g158 := eq_of_beq h157
  have ht1 := ht0 (by simpa using h157)
  refine KS ?_
  refine Oq (Vfa fo25_0 7) (Oq (VldF sh23 7) (Oq (Vf [p11]) ?_))
  refine JJ_ent (Ent.pall [5, 10, 11] rfl rfl) ?_
  refine letv (sc_IndexFunc_Func p.Funcs (fun x => bd_stmt_1 x s)) fun rv159 hg160 => ?_
  have hc161 := fn69 p.Funcs pa0 pk0 70 [p11] (fun x => bd_stmt_1 x s) [pv p11 [vi s.Op, .string (bs s.Def), vl sa2 sk2 s.Uses, vl sa3 sk3 s.Targets], S sa2 sk2 s.Uses, S sa3 sk3 s.Targets] ca70 (fun x hx a1 k1 hq0 => FT_pall (A1 := _) (fn70 x a1 k1 p11 s sa2 sk2 sa3 sk3 hq0 pre pre _ rfl)) rv159 hg160
  refine Oc [10, 0] ca69 hc161 ?_
  rintro - he162
  unfold i64ok at he162
  refine Oq Va (KS ?_)
  refine Oq Vm (Oq (Vfa fo76_1 7) (Oq (VldF sh3 7) (Oq (Vfa fo76_2 7) (Oq (VldF sh3 7) (Oq (Vfa fo76_3 7) (Oq (VldF sh3 7) ?_))))))
  refine letv (bd_at b 4 n.Func n.Block n.Stmt) fun rv163 hg164 => ?_
  have hc165 := fn45 bP b ba0 bk0 ba1 bk1 ba2 bk2 bm3 4 n.Func n.Block n.Stmt pre pre pre pre (by assumption) rv163 hg164
  refine Oc [1, 8, 1, 1, 1] ca45 hc165 ?_
  rintro - ⟨he166, he167⟩
  unfold i64ok at he166
  refine Oq Va (KS ?_)
  refine Oq Vm (Oq Vm (Oq Vm (Oq Vm ?_)))
  refine letv (bd_at b 1 rv159 (-1) (-1)) fun rv168 hg169 => ?_
  have hc170 := fn45 bP b ba0 bk0 ba1 bk1 ba2 bk2 bm3 1 rv159 (-1) (-1) pre pre pre pre (by assumption) rv168 hg169
  refine Oc [0, 8, 0, 0, 0] ca45 hc170 ?_
  rintro - ⟨he171, he172⟩
  unfold i64ok at he171
  refine letv (bd_edge b ((mget b.number n).getD 0) rv168) fun rv176 hg177 => ?_
  have hc178 := fn44 bP b ba0 bk0 ba1 bk1 ba2 bk2 bm3 (((mget b.number n).getD 0)) rv168 pre pre (by assumption) pre rv176 hg177
  refine Oc [0, 8, 0, 0, 0] ca44 hc178 ?_
  rintro ⟨c173, c174, c175⟩ ⟨he179, he180⟩
  refine Jo 1 ?_; rintro a181 k182 rfl
  refine Fb 32 1 fun _ => ?_
  refine Jo 2 ?_; rintro a184 k185 rfl
  refine FbD 24 2 fun _ => ?_
  refine Jo 3 ?_; rintro a187 k188 rfl
  refine FbD 24 3 fun _ => ?_
  refine KS ?_
  refine Oq Vm (Oq Vm (Oq Vm ?_))
  refine letv (bd_at rv176 2 rv159 (-1) (-1)) fun rv190 hg191 => ?_
  have hc192 := fn45 bP rv176 a181 k182 a184 k185 a187 k188 bm3 2 rv159 (-1) (-1) pre pre pre pre (by assumption) rv190 hg191
  refine Oc [0, 0, 1, 1, 1] ca45 hc192 ?_
  rintro - ⟨he193, he194⟩
  unfold i64ok at he193
  refine Oq Vm ?_
  refine letv (bd_edge rv176 rv190 rv163) fun rv198 hg199 => ?_
  have hc200 := fn44 bP rv176 a181 k182 a184 k185 a187 k188 bm3 rv190 rv163 pre pre (by assumption) pre rv198 hg199
  refine Oc [0, 3, 0, 0, 0] ca44 hc200 ?_
  rintro ⟨c195, c196, c197⟩ ⟨he201, he202⟩
  refine Jo 1 ?_; rintro a203 k204 rfl
  refine Fb 32 1 fun _ => ?_
  refine Jo 2 ?_; rintro a206 k207 rfl
  refine FbD 24 2 fun _ => ?_
  refine Jo 3 ?_; rintro a209 k210 rfl
  refine FbD 24 3 fun _ => ?_
  refine KS ?_
  refine Oq Vm (Oq Vm (Oq Vm ?_))
  refine letv (bd_edge rv198 rv163 rv13) fun rv215 hg216 => ?_
  have hc217 := fn44 bP rv198 a203 k204 a206 k207 a209 k210 bm3 rv163 rv13 pre pre (by assumption) pre rv215 hg216
  refine Oc [0, 0, 1, 1, 1] ca44 hc217 ?_
  rintro ⟨c212, c213, c214⟩ ⟨he218, he219⟩
  refine Jo 1 ?_; rintro a220 k221 rfl
  refine Fb 32 1 fun _ => ?_
  refine Jo 2 ?_; rintro a223 k224 rfl
  refine FbD 24 2 fun _ => ?_
  refine Jo 3 ?_; rintro a226 k227 rfl
  refine FbD 24 3 fun _ => ?_
  refine KS ?_
  have hq := q4 hrr rv215 (by simp only [bd_stmt, h18, h76, h132, h157, hg14, hg160, hg164, hg169, hg177, hg191, hg199, hg216, cs4]); subst hq
  exact Kz (vl a220 k221 rv215.g.Nodes, vl a223 k224 rv215.g.Succ, vl a226 k227 rv215.g.Pred) rfl .nil [0, 0, 1, 1, 1] ⟨(by assumption), (by first | omega | (dsimp only; omega))⟩
 intro h157
 have g229 := ne_of_beq_false h157
 refine KS ?_
 refine Oq Vm (Oq Vm (Oq Vm ?_))
 refine letv (bd_edge b ((mget b.number n).getD 0) rv13) fun rv233 hg234 => ?_
 have hc235 := fn44 bP b ba0 bk0 ba1 bk1 ba2 bk2 bm3 (((mget b.number n).getD 0)) rv13 pre pre (by assumption) pre rv233 hg234
 refine Oc [0, 7, 0, 0, 0] ca44 hc235 ?_
 rintro ⟨c230, c231, c232⟩ ⟨he236, he237⟩
 refine Jo 1 ?_; rintro a238 k239 rfl
 refine Fb 32 1 fun _ => ?_
 refine Jo 2 ?_; rintro a241 k242 rfl
 refine FbD 24 2 fun _ => ?_
 refine Jo 3 ?_; rintro a244 k245 rfl
 refine FbD 24 3 fun _ => ?_
 refine KS ?_
 have hq := q4 hrr rv233 (by simp only [bd_stmt, h18, h76, h132, h157, hg14, hg234, cs4]); subst hq
 exact Kz (vl a238 k239 rv233.g.Nodes, vl a241 k242 rv233.g.Succ, vl a244 k245 rv233.g.Pred) rfl .nil [0, 0, 1, 1, 1] ⟨(by assumption), (by first | omega | (dsimp only; omega))⟩
theorem fn23 (p : GProgram) (pa0 : Option Addr) (pk0 : Nat) (kwLA : Option Addr) (kwLK : Nat) (hps : PSm p = true) (hnl : (nd_List p).length ≤ 12) (rr : GGraph × Int) (hrr : gh_Build p = rr) : FT Tryz.prog 23 #[.agg #[vl pa0 pk0 p.Funcs]] [S pa0 pk0 p.Funcs, pv (gp 0) [vl kwLA kwLK kwL], S kwLA kwLK kwL] (fun g : Value × Value × Value => i64ok rr.2 ∧ (rr.1.Pred.length = rr.1.Succ.length)) (fun g => .tuple #[.agg #[g.1, g.2.1, g.2.2], vi rr.2]) (fun g => [sl g.1 rr.1.Nodes, sl g.2.1 rr.1.Succ, sl g.2.2 rr.1.Pred]) := by
 refine FTi Tryz.func23 fun w0 M0 F0 => Fb 40 0 fun _ => Fb 16 2 fun _ => ?_
 refine FoS 2 fun ho3 => ?_
 refine KS ?_
 refine Oa (Ab [vl pa0 pk0 p.Funcs]) fun p4 => Oa (Al ze36 [.slice none 0 0, .slice none 0 0, .slice none 0 0]) fun p5 => Oq Va (KS ?_)
 refine Oq (VldA sh25 1) ?_
 refine letv (vd_Check p) fun rv6 hg7 => ?_
 have hc8 := fn42 p pa0 pk0 kwLA kwLK pre rv6 hg7
 refine Oc [2, 3, 4] ca42 hc8 ?_
 rintro - ⟨he9, he10, he11, he12, he13⟩
 unfold i64ok at he9 he10 he11 he12 he13
 refine Oq Vm (Oq Vx (Oq Vx (Oa (Al ze76 [vi 0, vi 0, vi 0, vi 0]) fun p14 => Ost (Scl [0] sh76 [vi rv6.1.Kind, vi rv6.1.Func, vi rv6.1.Block, vi rv6.1.Stmt]) (Oq Va (KS ?_)))))
 refine Oq Vm (Oq Vneq (KS ?_))
 refine Kc ?_ ?_
 ·intro h15
  have g16 := ne_of_bne h15
  refine KS ?_
  refine Oq (Vbd st36 [.slice none 0 0, .slice none 0 0, .slice none 0 0]) (Oq Vm (Ost (Scl [1] sh36 [.slice none 0 0, .slice none 0 0, .slice none 0 0]) (Oq Va (KS ?_))))
  refine Jl [] (Ent.slNil (α := GNode)) ?_
  refine Jl [] (Ent.slNil (α := List Int)) ?_
  have hq := q4 hrr ((GGraph.mk [] [] []), rv6.2) (by simp only [gh_Build, h15, hg7, cs4]); subst hq
  exact Kr (.slice none 0 0, .slice none 0 0, .slice none 0 0) rfl (.cellN 2 rfl sh36 rfl (reads_Cl _ _) rfl (.tmp rfl .nil)) [1, 0, 0] ⟨en, (by first | rfl | (dsimp only at *; omega))⟩
 intro h15
 have g17 := eq_of_bne_false h15
 have hVp := CheckV (by assumption) h15
 refine KS ?_
 refine Oq (VldA sh25 2) ?_
 refine letv (nd_List p) fun rv19 hg20 => ?_
 have hlp := ListV_pos hg20 (by assumption) (by assumption)
 have hl12 : rv19.length ≤ 12 := by rw [← hg20]; exact hnl
 have hc21 := fn43 p pa0 pk0 kwLA kwLK pre rv19 hg20
 refine Oc [3, 4, 5] ca43 hc21 ?_
 rintro c18 he22
 refine Jo 0 ?_; rintro a23 k24 rfl
 refine Fb 32 0 fun _ => ?_
 refine Oq Va (KS ?_)
 refine JK_drawK [0, 0, 2, 6, 0, 16, 48, 127, 0, 511, 1023, 2047] fmix ?_
 refine Dv [] Vm (Dv [] Vm (Dv [] (Vlen sl33) ?_))
 have hn27 := List.length_replicate (n := (rv19.length : Int).toNat) (a := ([] : List Int))
 refine Dx [] [] [0] (fun G => (G.g 3 0)) [fun G => ds (G.g 3 0) ((List.replicate (rv19.length : Int).toNat []) : List (List Int))] (fun G => xA (AmkD (α := List Int) sl34 sz34 [] innL0)) (Dv [] Vm (Dv [] (Vlen sl33) ?_))
 have hn29 := List.length_replicate (n := (rv19.length : Int).toNat) (a := ([] : List Int))
 refine Dx [] [] [0] (fun G => (G.g 6 0)) [fun G => ds (G.g 6 0) ((List.replicate (rv19.length : Int).toNat []) : List (List Int))] (fun G => xA (AmkD (α := List Int) sl34 sz34 [] innL0)) ?_
 refine Dx [7, 8] [] [0, 0] (fun G => .agg #[vl a23 k24 rv19, (G.g 3 0), (G.g 6 0)]) [] (fun G => xV (v := .agg #[vl a23 k24 rv19, (G.g 3 0), (G.g 6 0)]) (Vo 0 rfl (isO_ds _ _) fun aq30 kq31 eq32 => (by rw [eq32]; exact Vo 1 rfl (isO_ds _ _) fun aq33 kq34 eq35 => (by rw [eq35]; exact Vbd st36 [vl a23 k24 rv19, .slice aq30 (((List.replicate (rv19.length : Int).toNat []) : List (List Int)).length) kq31, .slice aq33 (((List.replicate (rv19.length : Int).toNat []) : List (List Int)).length) kq34])))) (Dx [] [] [0] (fun G => (G.g 8 0)) [fun G => Mp ev_GNode vi ok_GNode (G.g 8 0) ([] : List (GNode × Int))] (fun G => xA (Amp (κ := GNode) (ν := Int) (ek := ev_GNode) (ev := vi) (ok := ok_GNode))) ?_)
 refine Dx [7, 8, 9] [] [0, 0, 0] (fun G => .agg #[vl a23 k24 rv19, (G.g 3 0), (G.g 6 0), (G.g 8 0)]) [] (fun G => xV (v := .agg #[vl a23 k24 rv19, (G.g 3 0), (G.g 6 0), (G.g 8 0)]) (Vo 0 rfl (isO_ds _ _) fun aq37 kq38 eq39 => (by rw [eq39]; exact Vo 1 rfl (isO_ds _ _) fun aq40 kq41 eq42 => (by rw [eq42]; exact VoM 2 rfl fun bq43 eq44 => (by rw [eq44]; exact Vbd st89 [vl a23 k24 rv19, .slice aq37 (((List.replicate (rv19.length : Int).toNat []) : List (List Int)).length) kq38, .slice aq40 (((List.replicate (rv19.length : Int).toNat []) : List (List Int)).length) kq41, (mv bq43)]))))) (Dx [] [] [0] (fun G => (G.g 10 0)) [fun G => Cl (G.g 10 0) [vl a23 k24 rv19, (G.g 3 0), (G.g 6 0), (G.g 8 0)]] (fun G => xA (AbO [vl a23 k24 rv19, (G.g 3 0), (G.g 6 0), (G.g 8 0)])) (Dg [] (fun G => (G.g 10 0)) (fun G => Va) ?_))
 refine Dn ⟨by kernel_rfl, fun G => ?_⟩
 refine Jw2 [(1, p4), (2, p5), (6, vl a23 k24 rv19), (7, (G.g 10 0))] [0, 1, 2, 3, 4, 5, 6] [ds (G.g 3 0) ((List.replicate (rv19.length : Int).toNat []) : List (List Int)), ds (G.g 6 0) ((List.replicate (rv19.length : Int).toNat []) : List (List Int)), Mp ev_GNode vi ok_GNode (G.g 8 0) ([] : List (GNode × Int)), Cl (G.g 10 0) [vl a23 k24 rv19, (G.g 3 0), (G.g 6 0), (G.g 8 0)]] ?_
 generalize G.g 3 0 = c26, G.g 6 0 = c28, G.g 8 0 = p36, G.g 10 0 = p45
 refine Jo 7 ?_; rintro a46 k47 rfl
 refine FbD 24 7 fun _ => ?_
 refine Jo 8 ?_; rintro a49 k50 rfl
 refine KS ?_
 refine Oq Vm (Oq (Vlen sl33) (Oq Vm (KS ?_)))
 refine Kl (γ := Nat × (List (GNode × Int)) × Int) (fun (r51, b3_52, v37_53) => ⟨[(1, p4), (2, p5), (6, vl a23 k24 rv19), (7, p45), (35, vl a23 k24 rv19), (36, vi (rv19.length : Int)), (37, vi v37_53)], [S a23 k24 rv19, Cl p5 [.slice none 0 0, .slice none 0 0, .slice none 0 0], pv p4 [vl pa0 pk0 p.Funcs], S pa0 pk0 p.Funcs, pv (gp 0) [vl kwLA kwLK kwL], S kwLA kwLK kwL, D a46 k47 ((List.replicate (rv19.length : Int).toNat []) : List (List Int)), D a49 k50 ((List.replicate (rv19.length : Int).toNat []) : List (List Int)), Mp ev_GNode vi ok_GNode p36 b3_52, Cl p45 [vl a23 k24 rv19, vl a46 k47 (List.replicate (rv19.length : Int).toNat []), vl a49 k50 (List.replicate (rv19.length : Int).toNat []), p36]], gh_Build_L0 rv19 r51 b3_52 v37_53 = gh_Build_L0 rv19 (((rv19.length : Int) - 0).toNat) [] 0 ∧ r51 = ((rv19.length : Int) - v37_53).toNat ∧ (0 : Int) ≤ v37_53 ∧ v37_53 ≤ (rv19.length : Int) ∧ (-9223372036854775808 ≤ v37_53 ∧ v37_53 ≤ 9223372036854775807), r51⟩) (((rv19.length : Int) - 0).toNat, [], 0) [0, 2, 2, 3, 4, 5, 6, 6, 6, 6] ⟨rfl, rfl, aM1, aM1, aM1⟩ ?_
 rintro ⟨r51, b3_52, v37_53⟩ ⟨hM54, hr55, hi56, hi57, hk58⟩
 refine JJ_nx fun _ _ hL hA => ?_; dsimp only at hL hA; subst hL hA
 refine Fb 32 0 fun _ => Fb 40 3 fun _ => Fb 16 5 fun _ => ?_
 refine FoS 5 fun ho62 => ?_
 refine FbD 24 6 fun _ => ?_
 refine KS ?_
 refine Oq Vlss (KS ?_)
 refine Kc ?_ ?_
 ·intro h64
  have g65 := dt h64
  obtain ⟨r66, rfl⟩ := scc (n := r51) aM1
  refine KS ?_
  refine Oq Vm (Oq (Vi sl33 0) ?_)
  refine JJ_peek_GNode v37_53.toNat 0 rfl rng fun hb67 hb68 hb69 hb70 => ?_
  unfold i64ok at hb67 hb68 hb69 hb70
  refine Oq (VldA sh76 0) (Oa (Al ze76 [vi 0, vi 0, vi 0, vi 0]) fun p71 => Oq Va (Ost (Scl [0] sh76 [vi ((rv19.getD v37_53.toNat default).Kind), vi ((rv19.getD v37_53.toNat default).Func), vi ((rv19.getD v37_53.toNat default).Block), vi ((rv19.getD v37_53.toNat default).Stmt)]) (KS ?_)))
  refine Jp 11 fun hp72 => ?_
  refine JK_drawK [0, 1, 3, 7, 0, 0, 63] fmix ?_
  refine Dv [] Vm (Dv [0] (Vn 0) (Dv [0] (Vfa fo89_1 0) (Dv [12] (VldF sh87 0) (Dv [1] (VldA sh76 0) (Dv [] Vm (Dx0 [11] [11] [0] [fun G => Mp ev_GNode vi ok_GNode p36 (mset b3_52 (rv19.getD v37_53.toNat default) v37_53)] (fun G => xS (Smp [0] mt87 kk_GNode v37_53 (ek := ev_GNode) (ev := vi) (ok := ok_GNode) (key := (rv19.getD v37_53.toNat default)) preK)) ?_))))))
  refine Dn ⟨by kernel_rfl, fun G => ?_⟩
  refine Jw2 [(1, p4), (2, p5), (6, vl a23 k24 rv19), (7, p45), (35, vl a23 k24 rv19), (36, vi (rv19.length : Int)), (37, vi v37_53)] [0, 1, 2, 3, 4, 5, 6, 7, 8, 9, 10, 12] [Mp ev_GNode vi ok_GNode p36 (mset b3_52 (rv19.getD v37_53.toNat default) v37_53)] ?_
  refine Jk [1, 1, 2, 3, 3, 4, 5, 6, 7, 7, 7, 7] ?_
  refine KS ?_
  refine Oq Vadd (Oq Vm (KS ?_))
  exact Kg (r66, (mset b3_52 (rv19.getD v37_53.toNat default) v37_53), (v37_53 + 1)) [2, 3, 3, 4, 5, 6, 7, 7, 8, 7] ⟨(q3 hM54 (by simp only [gh_Build_L0, h64, cs4])), aM1, aM1, aM1, aM1⟩
 intro h64
 have g73 := df h64
 obtain rfl : r51 = 0 := by omega
 refine Ke ?_
 have hR74 := q2 hM54 b3_52 (by simp only [gh_Build_L0, h64, cs4])
 refine KS ?_
 refine Oq Vm (Oq (Vlen sl33) (Oq Vm (KS ?_)))
 refine Kl (γ := Nat × List GNode × List (List Int) × List (List Int) × (List (GNode × Int)) × Int × Option Addr × Nat × Option Addr × Nat × Option Addr × Nat) (fun (r75, b0_76, b1_77, b2_78, b3_79, v51_80, a81, k82, a83, k84, a85, k86) => ⟨[(1, p4), (2, p5), (6, vl a23 k24 rv19), (7, p45), (49, vl a23 k24 rv19), (50, vi (rv19.length : Int)), (51, vi v51_80)], [D a85 k86 b2_78, D a83 k84 b1_77, S a81 k82 b0_76, S a23 k24 rv19, Cl p5 [.slice none 0 0, .slice none 0 0, .slice none 0 0], pv p4 [vl pa0 pk0 p.Funcs], S pa0 pk0 p.Funcs, pv (gp 0) [vl kwLA kwLK kwL], S kwLA kwLK kwL, Mp ev_GNode vi ok_GNode p36 b3_79, Cl p45 [vl a81 k82 b0_76, vl a83 k84 b1_77, vl a85 k86 b2_78, p36]], gh_Build_L1 p rv19 r75 b0_76 b1_77 b2_78 b3_79 v51_80 = gh_Build_L1 p rv19 (((rv19.length : Int) - 0).toNat) rv19 (List.replicate (rv19.length : Int).toNat []) (List.replicate (rv19.length : Int).toNat []) b3_52 0 ∧ r75 = ((rv19.length : Int) - v51_80).toNat ∧ (0 : Int) ≤ v51_80 ∧ v51_80 ≤ (rv19.length : Int) ∧ (-9223372036854775808 ≤ v51_80 ∧ v51_80 ≤ 9223372036854775807) ∧ BOk (Gbuilder.mk (GGraph.mk b0_76 b1_77 b2_78) b3_79) ∧ (b1_77.length = rv19.length), r75⟩) (((rv19.length : Int) - 0).toNat, rv19, (List.replicate (rv19.length : Int).toNat []), (List.replicate (rv19.length : Int).toNat []), b3_52, 0, a23, k24, a46, k47, a49, k50) [7, 6, 0, 0, 1, 1, 2, 3, 4, 5, 5] ⟨rfl, rfl, aM1, aM1, aM1, (Bk_init (by assumption) aM1 aM1), (by simp only [List.length_replicate]; omega)⟩ ?_
 rintro ⟨r75, b0_76, b1_77, b2_78, b3_79, v51_80, a81, k82, a83, k84, a85, k86⟩ ⟨hM87, hr88, hi89, hi90, hk91, hv92, hv93⟩
 refine JJ_nx fun _ _ hL hA => ?_; dsimp only at hL hA; subst hL hA
 refine FbD 24 0 fun _ => ?_
 refine FbD 24 1 fun _ => ?_
 refine Fb 32 2 fun _ => Fb 32 3 fun _ => Fb 40 6 fun _ => Fb 16 8 fun _ => ?_
 refine FoS 8 fun ho100 => ?_
 refine KS ?_
 refine Oq Vlss (KS ?_)
 refine Kc ?_ ?_
 ·intro h101
  have g102 := dt h101
  have hN := List_inN (by assumption) (i := v51_80) aM1
  obtain ⟨hN1, hN2⟩ := hN
  have hhe := (‹BOk _›).num (rv19.getD v51_80.toNat default)
  dsimp only at hhe
  obtain ⟨r103, rfl⟩ := scc (n := r75) aM1
  refine KS ?_
  refine Oq (Vi sl33 3) ?_
  refine JJ_peek_GNode v51_80.toNat 3 rfl rng fun hb104 hb105 hb106 hb107 => ?_
  unfold i64ok at hb104 hb105 hb106 hb107
  refine Oq (VldA sh76 0) (Oa (Al ze76 [vi 0, vi 0, vi 0, vi 0]) fun p108 => Ost (Scl [0] sh76 [vi ((rv19.getD v51_80.toNat default).Kind), vi ((rv19.getD v51_80.toNat default).Func), vi ((rv19.getD v51_80.toNat default).Block), vi ((rv19.getD v51_80.toNat default).Stmt)]) (KS ?_))
  refine Oq (Vfa fo76_0 0) (Oq (VldF sh3 0) (KS ?_))
  refine Oq Veql (Oq Va (KS ?_))
  refine Kc ?_ ?_
  ·intro h109
   have g110 := eq_of_beq h109
   refine Jp 12 fun hp111 => ?_
   refine Jp 1 fun hp112 => ?_
   refine JK_drawK [0, 0, 2, 6, 14, 0, 62, 0, 0, 256, 896, 2047] fmix ?_
   refine Dv [] Vm (Dv [] Vm (Dv [1] (Vn 0) (Dv [1] (Vfa fo89_1 0) (Dv [14] (VldF sh87 0) (Dv [2] (VldA sh76 0) (Dv [13] (Vmk1 0 0 mt87 kk_GNode ze3 (ek := ev_GNode) (ev := vi) (ok := ok_GNode) (key := (rv19.getD v51_80.toNat default)) preK) (Dv [] Vm (Dv [0] (Vfa fo76_1 0) (Dv [2] (VldF sh3 0) ?_)))))))))
   refine letv (bd_at (Gbuilder.mk (GGraph.mk b0_76 b1_77 b2_78) b3_79) 3 ((rv19.getD v51_80.toNat default).Func) 0 0) fun rv113 hg114 => Dx [4, 5, 6, 13, 14] [] [3, 2, 3, 2, 1, 0] (fun G => vi rv113) [fun G => SP.fact (i64ok rv113 ∧ (0 ≤ rv113 ∧ rv113 < ((Gbuilder.mk (GGraph.mk b0_76 b1_77 b2_78) b3_79).g.Succ.length : Int)))] (fun G => xC [4, 2, 1, 0, 1] ca45 (fn45 p45 (Gbuilder.mk (GGraph.mk b0_76 b1_77 b2_78) b3_79) a81 k82 a83 k84 a85 k86 p36 3 ((rv19.getD v51_80.toNat default).Func) 0 0 pre pre pre pre (by assumption) rv113 hg114)) ?_
   refine letv (bd_edge (Gbuilder.mk (GGraph.mk b0_76 b1_77 b2_78) b3_79) ((mget b3_79 (rv19.getD v51_80.toNat default)).getD 0) rv113) fun rv118 hg119 => ?_
   refine Dx [4, 5, 6, 13, 14, 15] [4, 5, 13, 14] [6, 7, 0, 1, 1, 2, 2, 2] (fun G => .tuple #[]) [fun G => SP.fact ((BOk rv118) ∧ (rv118.g.Succ.length = (Gbuilder.mk (GGraph.mk b0_76 b1_77 b2_78) b3_79).g.Succ.length)), fun G => Cl p45 [(G.g 11 0), (G.g 11 1), (G.g 11 2), p36], fun G => sl (G.g 11 0) rv118.g.Nodes, fun G => ds (G.g 11 1) rv118.g.Succ, fun G => ds (G.g 11 2) rv118.g.Pred, fun G => Mp ev_GNode vi ok_GNode p36 rv118.number] (fun G => by refine xf 5 rfl ?_; rintro ⟨he120, he121⟩; unfold i64ok at he120; exact xC [4, 2, 1, 0, 1] ca44 (fn44 p45 (Gbuilder.mk (GGraph.mk b0_76 b1_77 b2_78) b3_79) a81 k82 a83 k84 a85 k86 p36 (((mget b3_79 (rv19.getD v51_80.toNat default)).getD 0)) rv113 pre pre (by assumption) (by dsimp only at *; omega) rv118 hg119)) ?_
   refine Dn ⟨by kernel_rfl, fun G => ?_⟩
   refine Jw2 [(1, p4), (2, p5), (6, vl a23 k24 rv19), (7, p45), (49, vl a23 k24 rv19), (50, vi (rv19.length : Int)), (51, vi v51_80)] [0, 1, 2, 3, 6, 7, 8, 9, 10, 11, 12] [SP.fact (i64ok rv113 ∧ (0 ≤ rv113 ∧ rv113 < ((Gbuilder.mk (GGraph.mk b0_76 b1_77 b2_78) b3_79).g.Succ.length : Int))), SP.fact ((BOk rv118) ∧ (rv118.g.Succ.length = (Gbuilder.mk (GGraph.mk b0_76 b1_77 b2_78) b3_79).g.Succ.length)), Cl p45 [(G.g 11 0), (G.g 11 1), (G.g 11 2), p36], sl (G.g 11 0) rv118.g.Nodes, ds (G.g 11 1) rv118.g.Succ, ds (G.g 11 2) rv118.g.Pred, Mp ev_GNode vi ok_GNode p36 rv118.number] ?_
   generalize G.g 11 0 = c115, G.g 11 1 = c116, G.g 11 2 = c117
   refine Jf 11 rfl ?_; rintro ⟨he122, he123⟩
   unfold i64ok at he122
   refine Jf 12 rfl ?_; rintro ⟨he124, he125⟩
   refine Jk [2, 2, 3, 4, 5, 5, 6, 7, 8, 11, 11, 12, 12, 12] ?_
   refine Jo 10 ?_; rintro a126 k127 rfl
   refine Fb 32 10 fun _ => ?_
   refine Jo 11 ?_; rintro a129 k130 rfl
   refine FbD 24 11 fun _ => ?_
   refine Jo 12 ?_; rintro a132 k133 rfl
   refine FbD 24 12 fun _ => ?_
   refine KS ?_
   refine Oq Vadd (Oq Vm (KS ?_))
   exact Kg (r103, rv118.g.Nodes, rv118.g.Succ, rv118.g.Pred, rv118.number, (v51_80 + 1), a126, k127, a129, k130, a132, k133) [12, 11, 10, 3, 4, 4, 5, 6, 7, 10, 8] ⟨(q3 hM87 (by simp only [gh_Build_L1, h101, h109, hg114, hg119, cs4])), aM1, aM1, aM1, aM1, (by assumption), (by first | omega | (dsimp only at *; omega))⟩
  intro h109
  have g135 := ne_of_beq_false h109
  refine KS ?_
  refine Oq Veql (Oq Va (KS ?_))
  refine Kc ?_ ?_
  ·intro h136
   have g137 := eq_of_beq h136
   have hN3 := hN2 (by have := eq_of_beq h136; omega) (by have := eq_of_beq h136; omega)
   refine Jp 0 fun hp138 => ?_
   refine JJ_peek_GFunc ((rv19.getD v51_80.toNat default).Func : Int).toNat 9 rfl rng fun a139 k140 hb141 => ?_
   refine Fb 40 1 fun _ => ?_
   refine JJ_peek_GBlock ((rv19.getD v51_80.toNat default).Block : Int).toNat 1 rfl rng fun a143 k144 hb145 => ?_
   refine Fb 72 1 fun _ => ?_
   refine JJ_peek_GStmt ((rv19.getD v51_80.toNat default).Stmt : Int).toNat 1 rfl rng fun a147 k148 a149 k150 hb151 hb152 => ?_
   unfold i64ok at hb151
   refine Fb 16 1 fun _ => ?_
   refine FoS 1 fun ho154 => ?_
   refine Fb 16 2 fun _ => ?_
   refine FoS 2 fun ho156 => ?_
   refine JK_drawK [0, 0, 0, 0, 8, 0, 32, 120, 248, 504, 0, 1024, 4088, 8184, 16376, 0, 32768, 131064, 262136, 524287] fmix ?_
   refine Dv [] Vm (Dv [15] (VldA sh25 0) (Dv [8] (VldA sh76 0) (Dv [15] (Vfa fo25_0 0) (Dv [15] (VldF sh23 0) (Dv [7] (Vfa fo76_1 0) (Dv [8] (VldF sh3 0) (Dv [16] (Vi sl23 0) (Dv [5] (Vfa fo54_1 0) (Dv [5] (VldF sh52 0) ?_)))))))))
   refine Dv [7] (Vfa fo76_2 0) (Dv [8] (VldF sh3 0) (Dv [6] (Vi sl52 0) (Dv [3] (Vfa fo57_1 0) (Dv [3] (VldF sh55 0) (Dv [7] (Vfa fo76_3 0) (Dv [8] (VldF sh3 0) (Dv [4] (Vi sl55 0) (Dv [0] (VldA sh59 0) ?_))))))))
   refine letv (bd_stmt (Gbuilder.mk (GGraph.mk b0_76 b1_77 b2_78) b3_79) p (rv19.getD v51_80.toNat default) (((((p.Funcs.getD ((rv19.getD v51_80.toNat default).Func : Int).toNat default).Blocks).getD ((rv19.getD v51_80.toNat default).Block : Int).toNat default).Stmts).getD ((rv19.getD v51_80.toNat default).Stmt : Int).toNat default)) fun rv160 hg161 => Dx [1, 2, 10, 11, 12, 16, 19, 20] [10, 11, 19, 20] [6, 7, 8, 9, 0, 1, 1, 2, 2, 2] (fun G => .tuple #[]) [fun G => SP.fact ((BOk rv160) ∧ (rv160.g.Succ.length = (Gbuilder.mk (GGraph.mk b0_76 b1_77 b2_78) b3_79).g.Succ.length)), fun G => Cl p45 [(G.g 19 0), (G.g 19 1), (G.g 19 2), p36], fun G => sl (G.g 19 0) rv160.g.Nodes, fun G => ds (G.g 19 1) rv160.g.Succ, fun G => ds (G.g 19 2) rv160.g.Pred, fun G => Mp ev_GNode vi ok_GNode p36 rv160.number] (fun G => xC [7, 4, 3, 2, 4, 3, 0, 1] ca46 (fn46 p45 (Gbuilder.mk (GGraph.mk b0_76 b1_77 b2_78) b3_79) a81 k82 a83 k84 a85 k86 p36 p pa0 pk0 ((rv19.getD v51_80.toNat default)) ((((((p.Funcs.getD ((rv19.getD v51_80.toNat default).Func : Int).toNat default).Blocks).getD ((rv19.getD v51_80.toNat default).Block : Int).toNat default).Stmts).getD ((rv19.getD v51_80.toNat default).Stmt : Int).toNat default)) a147 k148 a149 k150 pre pre pre pre pre pre (by assumption) pre (call_T hVp _ _ _) rv160 hg161)) ?_
   refine Dn ⟨by kernel_rfl, fun G => ?_⟩
   refine Jw2 [(1, p4), (2, p5), (6, vl a23 k24 rv19), (7, p45), (49, vl a23 k24 rv19), (50, vi (rv19.length : Int)), (51, vi v51_80)] [0, 1, 2, 3, 4, 5, 6, 7, 8, 9, 12, 13, 14, 15, 16, 17, 18] [SP.fact ((BOk rv160) ∧ (rv160.g.Succ.length = (Gbuilder.mk (GGraph.mk b0_76 b1_77 b2_78) b3_79).g.Succ.length)), Cl p45 [(G.g 19 0), (G.g 19 1), (G.g 19 2), p36], sl (G.g 19 0) rv160.g.Nodes, ds (G.g 19 1) rv160.g.Succ, ds (G.g 19 2) rv160.g.Pred, Mp ev_GNode vi ok_GNode p36 rv160.number] ?_
   generalize G.g 19 0 = c157, G.g 19 1 = c158, G.g 19 2 = c159
   refine Jf 17 rfl ?_; rintro ⟨he162, he163⟩
   refine Jk [0, 1, 2, 3, 4, 5, 6, 8, 8, 9, 10, 11, 11, 12, 13, 14, 16, 16, 17, 17, 17] ?_
   refine Jo 17 ?_; rintro a164 k165 rfl
   refine Fb 32 17 fun _ => ?_
   refine Jo 18 ?_; rintro a167 k168 rfl
   refine FbD 24 18 fun _ => ?_
   refine Jo 19 ?_; rintro a170 k171 rfl
   refine FbD 24 19 fun _ => ?_
   refine KS ?_
   refine Oq Vadd (Oq Vm (KS ?_))
   exact Kg (r103, rv160.g.Nodes, rv160.g.Succ, rv160.g.Pred, rv160.number, (v51_80 + 1), a164, k165, a167, k168, a170, k171) [19, 18, 17, 10, 11, 11, 12, 13, 14, 17, 15] ⟨(q3 hM87 (by simp only [gh_Build_L1, h101, h109, h136, hg161, cs4])), aM1, aM1, aM1, aM1, (by assumption), (by first | omega | (dsimp only at *; omega))⟩
  intro h136
  have g173 := ne_of_beq_false h136
  refine KS ?_
  refine Oq Vadd (Oq Vm (KS ?_))
  exact Kg (r103, b0_76, b1_77, b2_78, b3_79, (v51_80 + 1), a81, k82, a83, k84, a85, k86) [2, 2, 2, 3, 4, 4, 5, 6, 7, 8, 8] ⟨(q3 hM87 (by simp only [gh_Build_L1, h101, h109, h136, cs4])), aM1, aM1, aM1, aM1, (by assumption), (by first | omega | (dsimp only at *; omega))⟩
 intro h101
 have g174 := df h101
 obtain rfl : r75 = 0 := by omega
 refine Ke ?_
 have hR175 := q2 hM87 (b0_76, b1_77, b2_78, b3_79) (by simp only [gh_Build_L1, h101, cs4])
 refine KS ?_
 refine Oq Vm (Oq (Vlen sl33) (Oq Vm (KS ?_)))
 refine Kl (γ := Nat × List (List Int) × List (List Int) × Int) (fun (r176, b1_177, b2_178, v96_179) => ⟨[(2, p5), (7, p45), (95, vi (rv19.length : Int)), (96, vi v96_179)], [ds (vl a85 k86 b2_78) b2_178, ds (vl a83 k84 b1_77) b1_177, S a81 k82 b0_76, Cl p5 [.slice none 0 0, .slice none 0 0, .slice none 0 0], pv (gp 0) [vl kwLA kwLK kwL], S kwLA kwLK kwL, Mp ev_GNode vi ok_GNode p36 b3_79, Cl p45 [vl a81 k82 b0_76, vl a83 k84 b1_77, vl a85 k86 b2_78, p36]], gh_Build_L2 r176 b1_177 b2_178 v96_179 = gh_Build_L2 (((rv19.length : Int) - 0).toNat) b1_77 b2_78 0 ∧ r176 = ((rv19.length : Int) - v96_179).toNat ∧ (0 : Int) ≤ v96_179 ∧ v96_179 ≤ (rv19.length : Int) ∧ (-9223372036854775808 ≤ v96_179 ∧ v96_179 ≤ 9223372036854775807) ∧ (b1_177.length = b1_77.length ∧ b2_178.length = b1_77.length) ∧ (∀ l ∈ b1_177, (l.length : Int) ≤ 12) ∧ (∀ l ∈ b2_178, (l.length : Int) ≤ 12), r176⟩) (((rv19.length : Int) - 0).toNat, b1_77, b2_78, 0) [0, 0, 0, 2, 4, 5, 6, 6] ⟨rfl, rfl, aM1, aM1, aM1, ⟨rfl, BOk_ps (by assumption)⟩, (BOk_s12 (by assumption) (by first | omega | (dsimp only at *; omega))), (BOk_p12 (by assumption) (by first | omega | (dsimp only at *; omega)))⟩ ?_
 rintro ⟨r176, b1_177, b2_178, v96_179⟩ ⟨hM180, hr181, hi182, hi183, hk184, hv185, hv186, hv187⟩
 refine JJ_nx fun _ _ hL hA => ?_; dsimp only at hL hA; subst hL hA
 refine FbD 24 0 fun _ => ?_
 refine FlD 0 fun hn189 => ?_
 refine FbD 24 1 fun _ => ?_
 refine FlD 1 fun hn191 => ?_
 refine Fb 32 2 fun _ => Fb 16 5 fun _ => ?_
 refine FoS 5 fun ho194 => ?_
 refine KS ?_
 refine Oq Vlss (KS ?_)
 refine Kc ?_ ?_
 ·intro h195
  have g196 := dt h195
  obtain ⟨r197, rfl⟩ := scc (n := r176) aM1
  refine KS ?_
  refine Oq Vm (Oq Va (KS ?_))
  refine Oq Vm (Oq (Vn 7) (Oq (Vfa fo89_0 7) (Oq (VfaF fo36_1 7) (Oq (VldF sh34 7) (Oq Vm (Oq (Vi sl34 1) ?_))))))
  refine JJ_openDL v96_179.toNat 1 rfl rng fun a198 k199 => ?_
  refine Fb 8 1 fun _ => Fo 1 fun ho201 => Oq (Vld sh22 0) ?_
  refine letv (sc_Sort_int (b1_177.getD v96_179.toNat [])) fun rv202 hg203 => ?_
  have hc204 := fn40 ((b1_177.getD v96_179.toNat [])) a198 k199 (lenS_12 (by assumption)) rv202 hg203
  refine Oc [1] ca40 hc204 ?_
  rintro - he205
  refine Fb 8 0 fun _ => Fo 0 fun ho207 => KS ?_
  refine Oq Vm (Oq (Vn 8) (Oq (Vfa fo89_0 8) (Oq (VfaF fo36_2 8) (Oq (VldF sh34 8) (Oq Vm (Oq (Vi sl34 2) ?_))))))
  refine JJ_openDL v96_179.toNat 2 rfl rng fun a208 k209 => ?_
  refine Fb 8 1 fun _ => Fo 1 fun ho211 => Oq (Vld sh22 0) ?_
  refine letv (sc_Sort_int (b2_178.getD v96_179.toNat [])) fun rv212 hg213 => ?_
  have hc214 := fn40 ((b2_178.getD v96_179.toNat [])) a208 k209 (lenS_12 (by assumption)) rv212 hg213
  refine Oc [1] ca40 hc214 ?_
  rintro - he215
  refine Fb 8 0 fun _ => Fo 0 fun ho217 => KS ?_
  refine Oq Vadd (Oq Vm (KS ?_))
  refine Jl [1, 0] (Ent.closeD (A := [os (vl a208 k209 (b2_178.getD v96_179.toNat [])) rv212]) _ _ _ _ rv212 innL) ?_
  refine Jl [2, 1] (Ent.closeD (A := [os (vl a198 k199 (b1_177.getD v96_179.toNat [])) rv202]) _ _ _ _ rv202 innL) ?_
  exact Kg (r197, (b1_177.set v96_179.toNat rv202), (b2_178.set v96_179.toNat rv212), (v96_179 + 1)) [1, 0, 0, 1, 1, 2, 3, 3] ⟨(q3 hM180 (by simp only [gh_Build_L2, h195, hg203, hg213, cs4])), aM1, aM1, aM1, aM1, (by (try simp only [List.length_set]); omega), (lenS_set0 (by assumption) (by assumption)), (lenS_set0 (by assumption) (by assumption))⟩
 intro h195
 have g218 := df h195
 obtain rfl : r176 = 0 := by omega
 refine Ke ?_
 have hR219 := q2 hM180 (b1_177, b2_178) (by simp only [gh_Build_L2, h195, cs4])
 refine KS ?_
 refine Oq Vm (Oq (Vn 7) (Oq (Vfa fo89_0 7) (Oq (VldG sh36 7 [vl a81 k82 b0_76, vl a83 k84 b1_77, vl a85 k86 b2_78]) (Ost (Scl [3] sh36 [vl a81 k82 b0_76, vl a83 k84 b1_77, vl a85 k86 b2_78]) (Oq Va (KS ?_))))))
 refine Jl [2] (Ent.dsF _ _) ?_
 refine Jl [2] (Ent.dsF _ _) ?_
 have hq := q4 hrr ((GGraph.mk b0_76 b1_177 b2_178), 0) (by simp only [gh_Build, h15, h64, h101, h195, hg7, hg20, hR74, hR175, hR219, cs4]); subst hq
 exact Kr (vl a81 k82 b0_76, vl a83 k84 b1_77, vl a85 k86 b2_78) rfl (.cellN 2 rfl sh36 rfl (reads_Cl _ _) rfl (.tmp rfl .nil)) [3, 1, 0] ⟨en, (by first | rfl | (dsimp only at *; omega))⟩
theorem fn82 (c : Int) (hc_0 : 0 ≤ c ∧ c ≤ 255) (rr : Bool) (hrr : r4_letter c = rr) : FT Tryz.prog 82 #[.int .u8 c] [] (fun g : Unit => True) (fun g => vb rr) (fun g => []) := by
 refine FTi Tryz.func82 fun w0 M0 F0 => ?_
 refine KS ?_
 refine Oq Va (KS ?_)
 refine Oq Vm (Oq Vgeq (Oq Vm ?_))
 refine Js 5 ?_ ?_
 ·intro h1
  have g2 := dt h1
  refine Oq Vm (Oq Vleq (Oq Vpt (Oq Vm ?_)))
  refine Js 9 ?_ ?_
  ·intro h3
   have g4 := dt h3
   refine Osk (Osk (Osk (Osk (Osk (Osk (Oq Vpt (Oq Vm (Osk (Osk ?_)))))))))
   refine Oq Vpt (Oq Va (KS ?_))
   have hq := q4 hrr true (by simp only [r4_letter, h1, h3, cs4]); subst hq
   exact Kr () rfl (.tmp rfl .nil) [] trivial
  intro h3
  have g5 := df h3
  refine Oq Vm (Oq Vgeq (Oq Vm ?_))
  refine Js 12 ?_ ?_
  ·intro h6
   have g7 := dt h6
   refine Oq Vm (Oq Vleq (Oq Vpt (Oq Vpf (Oq Vm ?_))))
   refine Js 17 ?_ ?_
   ·intro h8
    have g9 := dt h8
    refine Osk (Osk (Oq Vpt (Oq Va (KS ?_))))
    have hq := q4 hrr true (by simp only [r4_letter, h1, h3, h6, h8, cs4]); subst hq
    exact Kr () rfl (.tmp rfl .nil) [] trivial
   intro h8
   have g10 := df h8
   refine Oq Vm (Oq Veql (Oq Vpf (Oq Va (KS ?_))))
   have hq := q4 hrr (c == 95) (by simp only [r4_letter, h1, h3, h6, h8, cs4]); subst hq
   exact Kr () rfl (.tmp rfl .nil) [] trivial
  intro h6
  have g11 := df h6
  refine Osk (Osk (Oq Vpf (Oq Vpf (Oq Vm (Oq Vm (Oq Veql (Oq Vpf (Oq Va (KS ?_)))))))))
  have hq := q4 hrr (c == 95) (by simp only [r4_letter, h1, h3, h6, cs4]); subst hq
  exact Kr () rfl (.tmp rfl .nil) [] trivial
 intro h1
 have g12 := df h1
 refine Osk (Osk (Oq Vpf (Oq Vm (Oq Vm (Oq Vgeq (Oq Vm ?_))))))
 refine Js 12 ?_ ?_
 ·intro h13
  have g14 := dt h13
  refine Oq Vm (Oq Vleq (Oq Vpt (Oq Vpf (Oq Vm ?_))))
  refine Js 17 ?_ ?_
  ·intro h15
   have g16 := dt h15
   refine Osk (Osk (Oq Vpt (Oq Va (KS ?_))))
   have hq := q4 hrr true (by simp only [r4_letter, h1, h13, h15, cs4]); subst hq
   exact Kr () rfl (.tmp rfl .nil) [] trivial
  intro h15
  have g17 := df h15
  refine Oq Vm (Oq Veql (Oq Vpf (Oq Va (KS ?_))))
  have hq := q4 hrr (c == 95) (by simp only [r4_letter, h1, h13, h15, cs4]); subst hq
  exact Kr () rfl (.tmp rfl .nil) [] trivial
 intro h13
 have g18 := df h13
 refine Osk (Osk (Oq Vpf (Oq Vpf (Oq Vm (Oq Vm (Oq Veql (Oq Vpf (Oq Va (KS ?_)))))))))
 have hq := q4 hrr (c == 95) (by simp only [r4_letter, h1, h13, cs4]); subst hq
 exact Kr () rfl (.tmp rfl .nil) [] trivial
theorem fn83 (c : Int) (hc_0 : 0 ≤ c ∧ c ≤ 255) (rr : Bool) (hrr : r4_digit c = rr) : FT Tryz.prog 83 #[.int .u8 c] [] (fun g : Unit => True) (fun g => vb rr) (fun g => []) := by
 refine FTi Tryz.func83 fun w0 M0 F0 => ?_
 refine KS ?_
 refine Oq Va (KS ?_)
 refine Oq Vm (Oq Vgeq (Oq Vm ?_))
 refine Js 5 ?_ ?_
 ·intro h1
  have g2 := dt h1
  refine Oq Vm (Oq Vleq (Oq Vpt (Oq Va (KS ?_))))
  have hq := q4 hrr (decide (c ≤ 57)) (by simp only [r4_digit, h1, cs4]); subst hq
  exact Kr () rfl (.tmp rfl .nil) [] trivial
 intro h1
 have g3 := df h1
 refine Osk (Osk (Oq Vpf (Oq Va (KS ?_))))
 have hq := q4 hrr false (by simp only [r4_digit, h1, cs4]); subst hq
 exact Kr () rfl (.tmp rfl .nil) [] trivial
end Go.SL.G
