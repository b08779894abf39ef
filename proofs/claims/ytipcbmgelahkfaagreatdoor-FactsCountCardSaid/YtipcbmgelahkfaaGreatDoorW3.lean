/- Part 3 of the walks: mirrors, plain laws and walks used by the last text of this claim. -/
import Derived.Test.YtipcbmgelahkfaaGreatDoorW2
import Derived.Test.YtipcbmgelahkfaaGreatDoorProg
set_option linter.unusedVariables false
set_option linter.unusedSimpArgs false
namespace Go.SL.G
open Go Go.SL Go.Proofs
set_option maxHeartbeats 20000000
set_option maxRecDepth 100000
theorem fn100 (s : List Str) (sa0 : Option Addr) (sk0 : Nat) (v : Str) (hv_0 : v.b.length ≤ 140737488355328) (rr : Bool) (hrr : sc_Contains_string s v = rr) : FT Tryz.prog 100 #[vl sa0 sk0 s, .string (bs v)] [S sa0 sk0 s] (fun g : Unit => True) (fun g => vb rr) (fun g => []) := by
 refine FTi Tryz.func100 fun w0 M0 F0 => Fb 16 0 fun _ => ?_
 refine FoS 0 fun ho2 => ?_
 refine KS ?_
 refine Oq Va (KS ?_)
 refine Oq Vm (Oq Vm ?_)
 refine letv (sc_Index_string s v) fun rv3 hg4 => ?_
 have hc5 := fn50 s sa0 sk0 v pre rv3 hg4
 refine Oc [0] ca50 hc5 ?_
 rintro - he6
 unfold i64ok at he6
 refine Oq Vgeq (Oq Va (KS ?_))
 have hq := q4 hrr (decide (0 ≤ rv3)) (by simp only [sc_Contains_string, hg4, cs4]); subst hq
 exact Kr () rfl (.tmp rfl .nil) [] trivial
theorem fn124 (c : Int) (hc_0 : 0 ≤ c ∧ c ≤ 255) (rr : Bool) (hrr : lx_digit c = rr) : FT Tryz.prog 124 #[.int .u8 c] [] (fun g : Unit => True) (fun g => vb rr) (fun g => []) := by
 refine FTi Tryz.func124 fun w0 M0 F0 => ?_
 refine KS ?_
 refine Oq Va (KS ?_)
 refine Oq Vm (Oq Vgeq (Oq Vm ?_))
 refine Js 5 ?_ ?_
 ·intro h1
  have g2 := dt h1
  refine Oq Vm (Oq Vleq (Oq Vpt (Oq Va (KS ?_))))
  have hq := q4 hrr (decide (c ≤ 57)) (by simp only [lx_digit, h1, cs4]); subst hq
  exact Kr () rfl (.tmp rfl .nil) [] trivial
 intro h1
 have g3 := df h1
 refine Osk (Osk (Oq Vpf (Oq Va (KS ?_))))
 have hq := q4 hrr false (by simp only [lx_digit, h1, cs4]); subst hq
 exact Kr () rfl (.tmp rfl .nil) [] trivial
theorem fn99 (c : Int) (hc_0 : 0 ≤ c ∧ c ≤ 255) (rr : Bool) (hrr : lx_letter c = rr) : FT Tryz.prog 99 #[.int .u8 c] [] (fun g : Unit => True) (fun g => vb rr) (fun g => []) := by
 refine FTi Tryz.func99 fun w0 M0 F0 => ?_
 refine KS ?_
 refine Oq Va (KS ?_)
 refine Oq Vm (Oq Vgeq (Oq Vm ?_))
 refine Js 5 ?_ ?_
 ·intro h1
  have g2 := dt h1
  refine Oq Vm (Oq Vleq (Oq Vpt (Oq Vm ?_)))
  refine Js 9 ?_ ?_
  ·intro h3
   have g4 := dt h3
   refine Osk (Osk (Osk (Osk (Osk (Osk (Oq Vpt (Oq Va (KS ?_))))))))
   have hq := q4 hrr true (by simp only [lx_letter, h1, h3, cs4]); subst hq
   exact Kr () rfl (.tmp rfl .nil) [] trivial
  intro h3
  have g5 := df h3
  refine Oq Vm (Oq Vgeq (Oq Vm ?_))
  refine Js 12 ?_ ?_
  ·intro h6
   have g7 := dt h6
   refine Oq Vm (Oq Vleq (Oq Vpt (Oq Vpf (Oq Va (KS ?_)))))
   have hq := q4 hrr (decide (c ≤ 90)) (by simp only [lx_letter, h1, h3, h6, cs4]); subst hq
   exact Kr () rfl (.tmp rfl .nil) [] trivial
  intro h6
  have g8 := df h6
  refine Osk (Osk (Oq Vpf (Oq Vpf (Oq Va (KS ?_)))))
  have hq := q4 hrr false (by simp only [lx_letter, h1, h3, h6, cs4]); subst hq
  exact Kr () rfl (.tmp rfl .nil) [] trivial
 intro h1
 have g9 := df h1
 refine Osk (Osk (Oq Vpf (Oq Vm (Oq Vm (Oq Vgeq (Oq Vm ?_))))))
 refine Js 12 ?_ ?_
 ·intro h10
  have g11 := dt h10
  refine Oq Vm (Oq Vleq (Oq Vpt (Oq Vpf (Oq Va (KS ?_)))))
  have hq := q4 hrr (decide (c ≤ 90)) (by simp only [lx_letter, h1, h10, cs4]); subst hq
  exact Kr () rfl (.tmp rfl .nil) [] trivial
 intro h10
 have g12 := df h10
 refine Osk (Osk (Oq Vpf (Oq Vpf (Oq Va (KS ?_)))))
 have hq := q4 hrr false (by simp only [lx_letter, h1, h10, cs4]); subst hq
 exact Kr () rfl (.tmp rfl .nil) [] trivial
theorem fn115 (c : Int) (hc_0 : 0 ≤ c ∧ c ≤ 255) (rr : Bool) (hrr : lx_part c = rr) : FT Tryz.prog 115 #[.int .u8 c] [] (fun g : Unit => True) (fun g => vb rr) (fun g => []) := by
 refine FTi Tryz.func115 fun w0 M0 F0 => ?_
 refine KS ?_
 refine Oq Va (KS ?_)
 refine Oq Vm ?_
 refine letv (lx_letter c) fun rv1 hg2 => ?_
 have hc3 := fn99 c pre rv1 hg2
 refine Oc [] ca99 hc3 ?_
 rintro - -
 refine Oq Vm ?_
 refine Js 5 ?_ ?_
 ·intro h4
  refine Osk (Osk (Oq Vpt (Oq Vm (Osk (Osk (Oq Vpt (Oq Va (KS ?_))))))))
  have hq := q4 hrr true (by simp only [lx_part, h4, hg2, cs4]); subst hq
  exact Kr () rfl (.tmp rfl .nil) [] trivial
 intro h4
 refine Oq Vm ?_
 refine letv (lx_digit c) fun rv7 hg8 => ?_
 have hc9 := fn124 c pre rv7 hg8
 refine Oc [] ca124 hc9 ?_
 rintro - -
 refine Oq Vpf (Oq Vm ?_)
 refine Js 9 ?_ ?_
 ·intro h10
  refine Osk (Osk (Oq Vpt (Oq Va (KS ?_))))
  have hq := q4 hrr true (by simp only [lx_part, h4, h10, hg2, hg8, cs4]); subst hq
  exact Kr () rfl (.tmp rfl .nil) [] trivial
 intro h10
 refine Oq Vm (Oq Veql (Oq Vpf (Oq Va (KS ?_))))
 have hq := q4 hrr (c == 95) (by simp only [lx_part, h4, h10, hg2, hg8, cs4]); subst hq
 exact Kr () rfl (.tmp rfl .nil) [] trivial
theorem fn101 (s : Str) (i : Int) (hs_0 : s.b.length ≤ 140737488355328) (hi_0 : i64ok i) (hi0 : 0 ≤ i ∧ i ≤ (s.b.length : Int)) (rr : Int) (hrr : lx_wordEnd s i = rr) : FT Tryz.prog 101 #[.string (bs s), vi i] [] (fun g : Unit => i64ok rr ∧ (i ≤ rr ∧ rr ≤ (s.b.length : Int))) (fun g => vi rr) (fun g => []) := by
 refine FTi Tryz.func101 fun w0 M0 F0 => ?_
 unfold i64ok at hi_0
 refine KS ?_
 refine Oq Va (KS ?_)
 refine Kl (γ := Nat × Int) (fun (r1, i_2) => ⟨[(0, .string (bs s)), (1, vi i_2)], [], lx_wordEnd_L0 s r1 i_2 = lx_wordEnd_L0 s (((s.b.length : Int) - i).toNat) i ∧ r1 = ((s.b.length : Int) - i_2).toNat ∧ (i : Int) ≤ i_2 ∧ (i_2 ≤ (s.b.length : Int) ∨ i_2 = i) ∧ (-9223372036854775808 ≤ i_2 ∧ i_2 ≤ 9223372036854775807), r1⟩) (((s.b.length : Int) - i).toNat, i) [] ⟨rfl, rfl, aM1, (.inr rfl), aM1⟩ ?_
 rintro ⟨r1, i_2⟩ ⟨hM3, hr4, hi5, hi6, hk7⟩
 refine JJ_nx fun _ _ hL hA => ?_; dsimp only at hL hA; subst hL hA
 refine KS ?_
 refine Oq Vm (Oq Vm (Oq (VlS un9 (l := s)) (Oq Vlss (Oq Vm ?_))))
 refine Js 9 ?_ ?_
 ·intro h8
  have g9 := dt h8
  obtain ⟨r10, rfl⟩ := scc (n := r1) aM1
  refine Oq Vm (Oq Vm (Oq (Vix un9 (l := s)) ?_))
  have hb11 := u8b (s.b.getD i_2.toNat 0)
  refine letv (lx_part ((s.b.getD i_2.toNat 0).toNat : Int)) fun rv12 hg13 => ?_
  have hc14 := fn115 (((s.b.getD i_2.toNat 0).toNat : Int)) pre rv12 hg13
  refine Oc [] ca115 hc14 ?_
  rintro - -
  refine Oq Vpt (KS ?_)
  refine Kc ?_ ?_
  ·intro h15
   refine KS ?_
   refine Oq Vm (Oq Vadd (Oq Va (KS ?_)))
   exact Kg (r10, (i_2 + 1)) [] ⟨(q3 hM3 (by simp only [lx_wordEnd_L0, h8, h15, hg13, cs4])), aM1, aM1, aM1, aM1⟩
  intro h15
  refine Ke ?_
  have hR18 := q2 hM3 i_2 (by simp only [lx_wordEnd_L0, h8, h15, hg13, cs4])
  refine KS ?_
  refine Oq Vm (Oq Va (KS ?_))
  have hq := q4 hrr i_2 (by simp only [lx_wordEnd, h8, h15, hg13, hR18, cs4]); subst hq
  exact Kr () rfl (.tmp rfl .nil) [] en
 intro h8
 have g19 := df h8
 obtain rfl : r1 = 0 := by omega
 refine Osk (Osk (Osk (Osk (Oq Vpf (KS ?_)))))
 refine Kf ?_
 refine Ke ?_
 have hR20 := q2 hM3 i_2 (by simp only [lx_wordEnd_L0, h8, cs4])
 refine KS ?_
 refine Oq Vm (Oq Va (KS ?_))
 have hq := q4 hrr i_2 (by simp only [lx_wordEnd, h8, hR20, cs4]); subst hq
 exact Kr () rfl (.tmp rfl .nil) [] en
theorem fn68 (s : Str) (kwLA : Option Addr) (kwLK : Nat) (hs_0 : s.b.length ≤ 140737488355328) (rr : Bool) (hrr : lx_IsName s = rr) : FT Tryz.prog 68 #[.string (bs s)] [pv (gp 0) [vl kwLA kwLK kwL], S kwLA kwLK kwL] (fun g : Unit => True) (fun g => vb rr) (fun g => []) := by
 refine FTi Tryz.func68 fun w0 M0 F0 => Fb 16 1 fun _ => ?_
 refine FoS 1 fun ho2 => ?_
 refine KS ?_
 refine Oq Va (KS ?_)
 refine Oq Vm (Oq (VeqS (l := s) (m := (Str.mk []))) (Oq Vm ?_))
 refine Js 5 ?_ ?_
 ·intro h3
  have g4 := eq_of_beq h3
  refine Osk (Osk (Osk (Oq Vpt (Oq Vm (Osk (Osk (Osk (Osk (Oq Vpt ?_)))))))))
  refine Oq Vm (Osk (Osk (Osk (Oq Vpt (KS ?_)))))
  refine Kt (KS ?_)
  refine Oq Va (KS ?_)
  have hq := q4 hrr false (by simp only [lx_IsName, h3, cs4]); subst hq
  exact Kr () rfl (.tmp rfl .nil) [] trivial
 intro h3
 have g5 := ne_of_beq_false h3
 have hsp := str_pos h3
 refine Oq Vm (Oq (VlS un9 (l := s)) (Oq Vgtr (Oq Vpf (Oq Vm ?_))))
 refine Js 10 ?_ ?_
 ·intro h6
  have g7 := dt h6
  refine Osk (Osk (Osk (Osk (Oq Vpt (Oq Vm (Osk (Osk (Osk (Oq Vpt ?_)))))))))
  refine KS ?_
  refine Kt (KS ?_)
  refine Oq Va (KS ?_)
  have hq := q4 hrr false (by simp only [lx_IsName, h3, h6, cs4]); subst hq
  exact Kr () rfl (.tmp rfl .nil) [] trivial
 intro h6
 have g8 := df h6
 refine Oq Vm (Oq (Vix un9 (l := s)) ?_)
 have hb9 := u8b (s.b.getD (0 : Int).toNat 0)
 refine letv (lx_letter ((s.b.getD (0 : Int).toNat 0).toNat : Int)) fun rv10 hg11 => ?_
 have hc12 := fn99 (((s.b.getD (0 : Int).toNat 0).toNat : Int)) pre rv10 hg11
 refine Oc [] ca99 hc12 ?_
 rintro - -
 refine Oq Vnot (Oq Vpf (Oq Vm ?_))
 refine Js 16 ?_ ?_
 ·intro h13
  have h15 := not_true h13
  refine Osk (Osk (Osk (Oq Vpt (KS ?_))))
  refine Kt (KS ?_)
  refine Oq Va (KS ?_)
  have hq := q4 hrr false (by simp only [lx_IsName, h3, h6, h13, h15, hg11, cs4]); subst hq
  exact Kr () rfl (.tmp rfl .nil) [] trivial
 intro h13
 have h18 := not_false h13
 refine Oq (Vld sh35 0) (Oq Vm ?_)
 refine letv (sc_Contains_string kwL s) fun rv20 hg21 => ?_
 have hc22 := fn100 kwL kwLA kwLK s pre rv20 hg21
 refine Oc [1] ca100 hc22 ?_
 rintro - -
 refine Oq Vpf (KS ?_)
 refine Kc ?_ ?_
 ·intro h23
  refine KS ?_
  refine Oq Va (KS ?_)
  have hq := q4 hrr false (by simp only [lx_IsName, h3, h6, h13, h18, h23, hg11, hg21, cs4]); subst hq
  exact Kr () rfl (.tmp rfl .nil) [] trivial
 intro h23
 refine KS ?_
 refine Oq Vm ?_
 refine letv (lx_wordEnd s 0) fun rv26 hg27 => ?_
 have hc28 := fn101 s 0 pre pre pre rv26 hg27
 refine Oc [] ca101 hc28 ?_
 rintro - ⟨he29, he30⟩
 unfold i64ok at he29
 refine Oq Vm (Oq (VlS un9 (l := s)) (Oq Veql (Oq Va (KS ?_))))
 have hq := q4 hrr (rv26 == (s.b.length : Int)) (by simp only [lx_IsName, h3, h6, h13, h18, h23, hg11, hg21, hg27, cs4]); subst hq
 exact Kr () rfl (.tmp rfl .nil) [] trivial
theorem fn102 (s : List GStmt) (sa0 : Option Addr) (sk0 : Nat) (fF : FuncId) (fC : List Value) (fp : GStmt → Bool) (fA : List SP) (hfc : callable Tryz.prog fF = true) (hfF : ∀ x ∈ s, ∀ (a2 : Option Addr) (k2 : Nat) (a3 : Option Addr) (k3 : Nat), i64ok x.Op → x.Def.b.length ≤ 140737488355328 → FT Tryz.prog fF ([(.agg #[vi x.Op, .string (bs x.Def), vl a2 k2 x.Uses, vl a3 k3 x.Targets] : Value)] ++ fC).toArray ([S a2 k2 x.Uses, S a3 k3 x.Targets] ++ [pAll fA]) (fun _ : Unit => True) (fun _ => .bool (fp x)) (fun _ => [])) (rr : Int) (hrr : sc_IndexFunc_Stmt s fp = rr) : FT Tryz.prog 102 #[vl sa0 sk0 s, .func (.func fF) #[] fC.toArray] [S sa0 sk0 s, pAll fA] (fun g : Unit => i64ok rr) (fun g => vi rr) (fun g => []) := by
 refine FTi Tryz.func102 fun w0 M0 F0 => Fb 72 0 fun _ => ?_
 refine KS ?_
 refine Oq Va (KS ?_)
 refine Oq Vm (Oq (Vlen sl32) (Oq Vm (KS ?_)))
 refine Kl (γ := Nat × Int) (fun (r2, v8_3) => ⟨[(0, vl sa0 sk0 s), (1, .func (.func fF) #[] fC.toArray), (7, vi (s.length : Int)), (8, vi v8_3)], [S sa0 sk0 s, pAll fA], sc_IndexFunc_Stmt_L0 s fp r2 v8_3 = sc_IndexFunc_Stmt_L0 s fp (((s.length : Int) - 0).toNat) 0 ∧ r2 = ((s.length : Int) - v8_3).toNat ∧ (0 : Int) ≤ v8_3 ∧ v8_3 ≤ (s.length : Int) ∧ (-9223372036854775808 ≤ v8_3 ∧ v8_3 ≤ 9223372036854775807), r2⟩) (((s.length : Int) - 0).toNat, 0) [0, 1] ⟨rfl, rfl, aM1, aM1, aM1⟩ ?_
 rintro ⟨r2, v8_3⟩ ⟨hM4, hr5, hi6, hi7, hk8⟩
 refine JJ_nx fun _ _ hL hA => ?_; dsimp only at hL hA; subst hL hA
 refine Fb 72 0 fun _ => KS ?_
 refine Oq Vlss (KS ?_)
 refine Kc ?_ ?_
 ·intro h10
  have g11 := dt h10
  obtain ⟨r12, rfl⟩ := scc (n := r2) aM1
  refine KS ?_
  refine Oq Vm (Oq Va (KS ?_))
  refine Oq Vm (Oq Vm (Oq Vm (Oq (Vi sl32 0) ?_)))
  refine JJ_peek_GStmt v8_3.toNat 0 rfl rng fun a13 k14 a15 k16 hb17 hb18 => ?_
  unfold i64ok at hb17
  refine Fb 16 1 fun _ => ?_
  refine FoS 1 fun ho20 => ?_
  refine Fb 16 2 fun _ => ?_
  refine FoS 2 fun ho22 => ?_
  refine Oq (VldA sh37 0) ?_
  refine JO_call [1, 2, 4] rfl rfl rfl (OpC.clo (asv := [(.agg #[vi ((s.getD v8_3.toNat default).Op), .string (bs ((s.getD v8_3.toNat default).Def)), vl a13 k14 ((s.getD v8_3.toNat default).Uses), vl a15 k16 ((s.getD v8_3.toNat default).Targets)] : Value)] ++ fC) rfl rfl hfc rfl (by simp)) (hfF (s.getD v8_3.toNat default) (getD_mem rng) a13 k14 a15 k16 pre pre) rfl fun _ _ => ?_
  refine KS ?_
  refine Kc ?_ ?_
  ·intro h23
   refine KS ?_
   refine Oq Vm (Oq Va (KS ?_))
   have hR25 := q2 hM4 (.ret v8_3) (by simp only [sc_IndexFunc_Stmt_L0, h10, h23, cs4])
   have hq := q4 hrr v8_3 (by simp only [sc_IndexFunc_Stmt, h10, h23, hR25, cs4]); subst hq
   exact Kr () rfl (.tmp rfl .nil) [] en
  intro h23
  refine KS ?_
  refine Oq Vadd (Oq Vm (KS ?_))
  exact Kg (r12, (v8_3 + 1)) [3, 4] ⟨(q3 hM4 (by simp only [sc_IndexFunc_Stmt_L0, h10, h23, cs4])), aM1, aM1, aM1, aM1⟩
 intro h10
 have g27 := df h10
 obtain rfl : r2 = 0 := by omega
 refine Ke ?_
 have hR28 := q2 hM4 (.brk ()) (by simp only [sc_IndexFunc_Stmt_L0, h10, cs4])
 refine KS ?_
 refine Oq Va (KS ?_)
 have hq := q4 hrr (-1) (by simp only [sc_IndexFunc_Stmt, h10, hR28, cs4]); subst hq
 exact Kr () rfl (.tmp rfl .nil) [] en
theorem fn69 (s : List GStmt) (sa0 : Option Addr) (sk0 : Nat) (fF : FuncId) (fC : List Value) (fp : GStmt → Bool) (fA : List SP) (hfc : callable Tryz.prog fF = true) (hfF : ∀ x ∈ s, ∀ (a2 : Option Addr) (k2 : Nat) (a3 : Option Addr) (k3 : Nat), i64ok x.Op → x.Def.b.length ≤ 140737488355328 → FT Tryz.prog fF ([(.agg #[vi x.Op, .string (bs x.Def), vl a2 k2 x.Uses, vl a3 k3 x.Targets] : Value)] ++ fC).toArray ([S a2 k2 x.Uses, S a3 k3 x.Targets] ++ [pAll fA]) (fun _ : Unit => True) (fun _ => .bool (fp x)) (fun _ => [])) (rr : Bool) (hrr : sc_ContainsFunc_Stmt s fp = rr) : FT Tryz.prog 69 #[vl sa0 sk0 s, .func (.func fF) #[] fC.toArray] [S sa0 sk0 s, pAll fA] (fun g : Unit => True) (fun g => vb rr) (fun g => []) := by
 refine FTi Tryz.func69 fun w0 M0 F0 => Fb 72 0 fun _ => ?_
 refine KS ?_
 refine Oq Va (KS ?_)
 refine Oq Vm (Oq Vm ?_)
 refine letv (sc_IndexFunc_Stmt s fp) fun rv2 hg3 => ?_
 have hc4 := fn102 s sa0 sk0 fF fC fp fA hfc hfF rv2 hg3
 refine Oc [0, 1] ca102 hc4 ?_
 rintro - he5
 unfold i64ok at he5
 refine Oq Vgeq (Oq Va (KS ?_))
 have hq := q4 hrr (decide (0 ≤ rv2)) (by simp only [sc_ContainsFunc_Stmt, hg3, cs4]); subst hq
 exact Kr () rfl (.tmp rfl .nil) [] trivial
theorem fn103 (s : List Str) (sa0 : Option Addr) (sk0 : Nat) (rr : List Str) (hrr : sc_Clone_string s = rr) : FT Tryz.prog 103 #[vl sa0 sk0 s] [S sa0 sk0 s] (fun g : Value => (rr.length = s.length)) (fun g => g) (fun g => [os g rr]) := by
 have hm : sc_Clone_string s = s := rfl
 rw [hm] at hrr
 subst hrr
 refine FTi Tryz.func103 fun w0 M0 F0 => ?_
 refine KS ?_
 refine Oq Va ?_
 refine KS ?_
 refine Oq Vm ?_
 refine Oq (VeqN un35) ?_
 refine KS ?_
 refine Kc ?_ ?_
 ·intro h
  refine Jnil 0 h ?_
  intro h0
  subst h0
  refine KS ?_
  refine Oq Va ?_
  refine KS ?_
  refine Jl [] (Ent.osNil (α := Str)) ?_
  exact Kr (.slice none 0 0) rfl (.tmp rfl .nil) [0] rfl
 ·intro _
  refine KS ?_
  refine Oa (As0 sl35) fun c1 => ?_
  refine Jo 0 ?_; rintro a2 k3 rfl
  refine Oq Vm ?_
  refine Fb 16 1 fun hl => ?_
  refine Jl [0] (Ent.crNil (α := Str) _) ?_
  refine Oa (Ap0 [0, 0] sl35 sl35 sz35) fun c4 => ?_
  refine Oq Va ?_
  refine KS ?_
  exact Kr c4 rfl (.tmp rfl .nil) [0] rfl
theorem fn116 (s : List Str) (sa0 : Option Addr) (sk0 : Nat) (fF : FuncId) (fC : List Value) (fp : Str → Bool) (fA : List SP) (hfc : callable Tryz.prog fF = true) (hfF : ∀ x ∈ s, x.b.length ≤ 140737488355328 → FT Tryz.prog fF ([(.string (bs x) : Value)] ++ fC).toArray ([] ++ [pAll fA]) (fun _ : Unit => True) (fun _ => .bool (fp x)) (fun _ => [])) (rr : Int) (hrr : sc_IndexFunc_string s fp = rr) : FT Tryz.prog 116 #[vl sa0 sk0 s, .func (.func fF) #[] fC.toArray] [S sa0 sk0 s, pAll fA] (fun g : Unit => i64ok rr) (fun g => vi rr) (fun g => []) := by
 refine FTi Tryz.func116 fun w0 M0 F0 => Fb 16 0 fun _ => ?_
 refine FoS 0 fun ho2 => ?_
 refine KS ?_
 refine Oq Va (KS ?_)
 refine Oq Vm (Oq (Vlen sl35) (Oq Vm (KS ?_)))
 refine Kl (γ := Nat × Int) (fun (r3, v8_4) => ⟨[(0, vl sa0 sk0 s), (1, .func (.func fF) #[] fC.toArray), (7, vi (s.length : Int)), (8, vi v8_4)], [S sa0 sk0 s, pAll fA], sc_IndexFunc_string_L0 s fp r3 v8_4 = sc_IndexFunc_string_L0 s fp (((s.length : Int) - 0).toNat) 0 ∧ r3 = ((s.length : Int) - v8_4).toNat ∧ (0 : Int) ≤ v8_4 ∧ v8_4 ≤ (s.length : Int) ∧ (-9223372036854775808 ≤ v8_4 ∧ v8_4 ≤ 9223372036854775807), r3⟩) (((s.length : Int) - 0).toNat, 0) [0, 1] ⟨rfl, rfl, aM1, aM1, aM1⟩ ?_
 rintro ⟨r3, v8_4⟩ ⟨hM5, hr6, hi7, hi8, hk9⟩
 refine JJ_nx fun _ _ hL hA => ?_; dsimp only at hL hA; subst hL hA
 refine Fb 16 0 fun _ => ?_
 refine FoS 0 fun ho11 => ?_
 refine KS ?_
 refine Oq Vlss (KS ?_)
 refine Kc ?_ ?_
 ·intro h12
  have g13 := dt h12
  obtain ⟨r14, rfl⟩ := scc (n := r3) aM1
  refine KS ?_
  refine Oq Vm (Oq Va (KS ?_))
  refine Oq Vm (Oq Vm (Oq Vm (Oq (Vi sl35 0) ?_)))
  have hb15 := okS (i := v8_4.toNat) ho11 rng
  refine Oq (VldS sh9 0) ?_
  refine JO_call [1] rfl rfl rfl (OpC.clo (asv := [(.string (bs (s.getD v8_4.toNat default)) : Value)] ++ fC) rfl rfl hfc rfl (by simp)) (hfF (s.getD v8_4.toNat default) (getD_mem rng)  pre) rfl fun _ _ => ?_
  refine KS ?_
  refine Kc ?_ ?_
  ·intro h16
   refine KS ?_
   refine Oq Vm (Oq Va (KS ?_))
   have hR18 := q2 hM5 (.ret v8_4) (by simp only [sc_IndexFunc_string_L0, h12, h16, cs4])
   have hq := q4 hrr v8_4 (by simp only [sc_IndexFunc_string, h12, h16, hR18, cs4]); subst hq
   exact Kr () rfl (.tmp rfl .nil) [] en
  intro h16
  refine KS ?_
  refine Oq Vadd (Oq Vm (KS ?_))
  exact Kg (r14, (v8_4 + 1)) [0, 1] ⟨(q3 hM5 (by simp only [sc_IndexFunc_string_L0, h12, h16, cs4])), aM1, aM1, aM1, aM1⟩
 intro h12
 have g20 := df h12
 obtain rfl : r3 = 0 := by omega
 refine Ke ?_
 have hR21 := q2 hM5 (.brk ()) (by simp only [sc_IndexFunc_string_L0, h12, cs4])
 refine KS ?_
 refine Oq Va (KS ?_)
 have hq := q4 hrr (-1) (by simp only [sc_IndexFunc_string, h12, hR21, cs4]); subst hq
 exact Kr () rfl (.tmp rfl .nil) [] en
theorem fn104 (s : List Str) (sa0 : Option Addr) (sk0 : Nat) (fF : FuncId) (fC : List Value) (fp : Str → Bool) (fA : List SP) (hfc : callable Tryz.prog fF = true) (hfF : ∀ x ∈ s, x.b.length ≤ 140737488355328 → FT Tryz.prog fF ([(.string (bs x) : Value)] ++ fC).toArray ([] ++ [pAll fA]) (fun _ : Unit => True) (fun _ => .bool (fp x)) (fun _ => [])) (rr : Bool) (hrr : sc_ContainsFunc_string s fp = rr) : FT Tryz.prog 104 #[vl sa0 sk0 s, .func (.func fF) #[] fC.toArray] [S sa0 sk0 s, pAll fA] (fun g : Unit => True) (fun g => vb rr) (fun g => []) := by
 refine FTi Tryz.func104 fun w0 M0 F0 => Fb 16 0 fun _ => ?_
 refine FoS 0 fun ho2 => ?_
 refine KS ?_
 refine Oq Va (KS ?_)
 refine Oq Vm (Oq Vm ?_)
 refine letv (sc_IndexFunc_string s fp) fun rv3 hg4 => ?_
 have hc5 := fn116 s sa0 sk0 fF fC fp fA hfc hfF rv3 hg4
 refine Oc [0, 1] ca116 hc5 ?_
 rintro - he6
 unfold i64ok at he6
 refine Oq Vgeq (Oq Va (KS ?_))
 have hq := q4 hrr (decide (0 ≤ rv3)) (by simp only [sc_ContainsFunc_string, hg4, cs4]); subst hq
 exact Kr () rfl (.tmp rfl .nil) [] trivial
theorem fn105 (n : Str) (kwLA : Option Addr) (kwLK : Nat) (hn_0 : n.b.length ≤ 140737488355328) (rr : Bool) (hrr : sx_valid_1 n = rr) : FT Tryz.prog 105 #[.string (bs n)] [pv (gp 0) [vl kwLA kwLK kwL], S kwLA kwLK kwL] (fun g : Unit => True) (fun g => vb rr) (fun g => []) := by
 refine FTi Tryz.func105 fun w0 M0 F0 => Fb 16 1 fun _ => ?_
 refine FoS 1 fun ho2 => ?_
 refine KS ?_
 refine Oq Va (KS ?_)
 refine Oq Vm ?_
 refine letv (lx_IsName n) fun rv3 hg4 => ?_
 have hc5 := fn68 n kwLA kwLK pre rv3 hg4
 refine Oc [0, 1] ca68 hc5 ?_
 rintro - -
 refine Oq Vnot (Oq Va (KS ?_))
 have hq := q4 hrr (!rv3) (by simp only [sx_valid_1, hg4, cs4]); subst hq
 exact Kr () rfl (.tmp rfl .nil) [] trivial
theorem fn71 (s : GStmt) (sa2 : Option Addr) (sk2 : Nat) (sa3 : Option Addr) (sk3 : Nat) (kwLA : Option Addr) (kwLK : Nat) (hs_0 : i64ok s.Op) (hs_1 : s.Def.b.length ≤ 140737488355328) (hsm : SSm s = true) (rr : Bool) (hrr : sx_valid s = rr) : FT Tryz.prog 71 #[.agg #[vi s.Op, .string (bs s.Def), vl sa2 sk2 s.Uses, vl sa3 sk3 s.Targets]] [S sa2 sk2 s.Uses, S sa3 sk3 s.Targets, pv (gp 0) [vl kwLA kwLK kwL], S kwLA kwLK kwL] (fun g : Unit => True) (fun g => vb rr) (fun g => []) := by
 refine FTi Tryz.func71 fun w0 M0 F0 => ?_
 unfold i64ok at hs_0
 refine Fb 16 0 fun _ => ?_
 refine FoS 0 fun ho2 => ?_
 refine Fb 16 1 fun _ => ?_
 refine FoS 1 fun ho4 => ?_
 refine Fb 16 3 fun _ => ?_
 refine FoS 3 fun ho6 => ?_
 have hsl := SSm_l hsm
 refine KS ?_
 refine Oa (Ab [vi s.Op, .string (bs s.Def), vl sa2 sk2 s.Uses, vl sa3 sk3 s.Targets]) fun p7 => Oq Va (KS ?_)
 refine Kq [0, 1, 3, 0, 15, 31] fmix ?_
 refine Qv [0] (Vfa fo37_2 0) (Qv [0] (VldF sh35 0) (Qv [] (Vlen sl35) (Qv [] Va (Qv [] Va (Qv [] Va ?_)))))
 refine Qn ⟨by kernel_rfl, ?_⟩
 refine KS ?_
 refine Oq (Vfa fo37_0 0) (Oq (VldF sh3 0) (KS ?_))
 refine Oq Veql (Oq Va (KS ?_))
 refine Kc ?_ ?_
 ·intro h8
  have g9 := eq_of_beq h8
  refine Ke ?_
  refine KS ?_
  refine Oq Va (KS ?_)
  refine Ke ?_
  refine KS ?_
  refine JK_drawK [0, 1, 3, 0, 8, 31, 63] fmix ?_
  refine Dv [0] (Vfa fo37_2 0) (Dv [0] (VldF sh35 0) ?_)
  refine letv (sc_Clone_string s.Uses) fun rv11 hg12 => ?_
  refine Dx [1] [] [2, 0, 1] (fun G => (G.g 2 0)) [fun G => SP.fact ((rv11.length = s.Uses.length)), fun G => os (G.g 2 0) rv11] (fun G => xC [0] ca103 (fn103 s.Uses sa2 sk2 rv11 hg12)) (Dv [0] (Vfa fo37_3 0) (Dv [0] (VldF sh35 0) ?_))
  have hn14 := la rv11 s.Targets
  refine Dx [2, 5, 6] [6] [1, 2, 0] (fun G => (G.g 5 0)) [fun G => os (G.g 5 0) (rv11 ++ s.Targets)] (fun G => by refine xf 1 rfl ?_; rintro he15; exact xA (Ap [2, 0] sl35 sl35 sz35)) (Dg [] (fun G => (G.g 5 0)) (fun G => Va) ?_)
  refine Dn ⟨by kernel_rfl, fun G => ?_⟩
  refine Jw2 [(1, p7), (4, vi (s.Uses.length : Int)), (5, vi 0), (3, vi 1), (6, (G.g 5 0))] [0, 1, 2, 3, 4] [SP.fact ((rv11.length = s.Uses.length)), os (G.g 5 0) (rv11 ++ s.Targets)] ?_
  generalize G.g 5 0 = c13
  refine Jf 5 rfl ?_; rintro he16
  refine Jk [0, 1, 2, 3, 4, 6] ?_
  refine Jo 5 ?_; rintro a17 k18 rfl
  refine Fb 16 5 fun _ => ?_
  refine FoS 5 fun ho20 => ?_
  refine KS ?_
  refine Oq Vm (Oq Veql (KS ?_))
  refine Kt (KS ?_)
  refine Oq Vm (Oq (Vfa fo37_1 0) (Oq (VldF sh9 0) (Oa (AsV sl35 sz35 [.string (bs s.Def)] [.string (bs s.Def)]) fun c21 => ?_)))
  refine Jo 0 ?_; rintro a22 k23 rfl
  refine Jl [0] (Ent.cr1 (α := Str) (A := []) _ s.Def _ aB1 (fun _ => ⟨rfl, aS1⟩)) ?_
  refine Oa (ApO [6, 0] sl35 sl35 sz35) fun c24 => ?_
  refine Jo 0 ?_; rintro a25 k26 rfl
  refine Fb 16 0 fun _ => ?_
  refine FoS 0 fun ho28 => ?_
  have hn29 := la (rv11 ++ s.Targets) ([s.Def] : List Str)
  refine Oq Va (KS ?_)
  refine Oq Vm (Oq Veql (Oq Vm (Osk (Osk (Osk (Oq Vpt (Oq Vm (Oq (Vfa fo37_2 1) (Oq (VldF sh35 1) ?_)))))))))
  refine Oq (Vlen sl35) (Oq Vm (Oq Veql (Oq Vpt (Oq Vm ?_))))
  refine Js 64 ?_ ?_
  ·intro h30
   have g31 := eq_of_beq h30
   refine Oq Vm (Oq Vleq (Oq Vpt (Oq Vm ?_)))
   refine Js 68 ?_ ?_
   ·intro h32
    have g33 := dt h32
    refine Oq (Vfa fo37_3 1) (Oq (VldF sh35 1) (Oq (Vlen sl35) (Oq Vm (Oq Veql (Oq Vpt (Oq Vm ?_))))))
    refine Js 75 ?_ ?_
    ·intro h34
     have g35 := eq_of_beq h34
     refine Oq Vm ?_
     refine Jl [0] (Ent.freeze _ _) ?_
     refine JJ_ent (Ent.pall [4, 5] rfl rfl) ?_
     refine letv (sc_ContainsFunc_string ((rv11 ++ s.Targets) ++ [s.Def]) (fun x => sx_valid_1 x)) fun rv36 hg37 => ?_
     have hc38 := fn104 (((rv11 ++ s.Targets) ++ [s.Def])) a25 k26 105 [] (fun x => sx_valid_1 x) [pv (gp 0) [vl kwLA kwLK kwL], S kwLA kwLK kwL] ca105 (fun x hx hq0 => FT_pall (A1 := _) (fn105 x  kwLA kwLK hq0 _ rfl)) rv36 hg37
     refine Oc [1, 0] ca104 hc38 ?_
     rintro - -
     refine Oq Vnot (Oq Vpt (Oq Va (KS ?_)))
     have hq := q4 hrr (!rv36) (by simp only [sx_valid, h8, h30, h32, h34, hg12, hg37, cs4]); subst hq
     exact Kr () rfl (.tmp rfl .nil) [] trivial
    intro h34
    have g39 := ne_of_beq_false h34
    refine Osk (Osk (Osk (Oq Vpf (Oq Va (KS ?_)))))
    have hq := q4 hrr false (by simp only [sx_valid, h8, h30, h32, h34, hg12, cs4]); subst hq
    exact Kr () rfl (.tmp rfl .nil) [] trivial
   intro h32
   have g40 := df h32
   refine Osk (Osk (Osk (Osk (Osk (Oq Vpf (Oq Vm (Osk (Osk (Osk ?_)))))))))
   refine Oq Vpf (Oq Va (KS ?_))
   have hq := q4 hrr false (by simp only [sx_valid, h8, h30, h32, hg12, cs4]); subst hq
   exact Kr () rfl (.tmp rfl .nil) [] trivial
  intro h30
  have g41 := ne_of_beq_false h30
  refine Osk (Osk (Oq Vpf (Oq Vm (Osk (Osk (Osk (Osk (Osk (Oq Vpf ?_)))))))))
  refine Oq Vm (Osk (Osk (Osk (Oq Vpf (Oq Va (KS ?_))))))
  have hq := q4 hrr false (by simp only [sx_valid, h8, h30, hg12, cs4]); subst hq
  exact Kr () rfl (.tmp rfl .nil) [] trivial
 intro h8
 have g42 := ne_of_beq_false h8
 refine KS ?_
 refine Oq Veql (Oq Va (KS ?_))
 refine Kc ?_ ?_
 ·intro h43
  have g44 := eq_of_beq h43
  refine Ke ?_
  refine KS ?_
  refine Oq Vm (Oq Vmax (Oq Va (KS ?_)))
  refine Ke ?_
  refine KS ?_
  refine JK_drawK [0, 1, 3, 0, 8, 31, 63] fmix ?_
  refine Dv [0] (Vfa fo37_2 0) (Dv [0] (VldF sh35 0) ?_)
  refine letv (sc_Clone_string s.Uses) fun rv46 hg47 => ?_
  refine Dx [1] [] [2, 0, 1] (fun G => (G.g 2 0)) [fun G => SP.fact ((rv46.length = s.Uses.length)), fun G => os (G.g 2 0) rv46] (fun G => xC [0] ca103 (fn103 s.Uses sa2 sk2 rv46 hg47)) (Dv [0] (Vfa fo37_3 0) (Dv [0] (VldF sh35 0) ?_))
  have hn49 := la rv46 s.Targets
  refine Dx [2, 5, 6] [6] [1, 2, 0] (fun G => (G.g 5 0)) [fun G => os (G.g 5 0) (rv46 ++ s.Targets)] (fun G => by refine xf 1 rfl ?_; rintro he50; exact xA (Ap [2, 0] sl35 sl35 sz35)) (Dg [] (fun G => (G.g 5 0)) (fun G => Va) ?_)
  refine Dn ⟨by kernel_rfl, fun G => ?_⟩
  refine Jw2 [(1, p7), (3, vi 0), (5, vi 0), (4, vi (max (s.Uses.length : Int) 1)), (6, (G.g 5 0))] [0, 1, 2, 3, 4] [SP.fact ((rv46.length = s.Uses.length)), os (G.g 5 0) (rv46 ++ s.Targets)] ?_
  generalize G.g 5 0 = c48
  refine Jf 5 rfl ?_; rintro he51
  refine Jk [0, 1, 2, 3, 4, 6] ?_
  refine Jo 5 ?_; rintro a52 k53 rfl
  refine Fb 16 5 fun _ => ?_
  refine FoS 5 fun ho55 => ?_
  refine KS ?_
  refine Oq Vm (Oq Veql (KS ?_))
  refine Kf (KS ?_)
  refine Oq Vm (Oq Veql (Oq Vm (Oq (Vfa fo37_1 0) (Oq (VldF sh9 0) (Oq (VeqS (l := s.Def) (m := (Str.mk []))) (Oq Vpf (Oq Vm ?_)))))))
  refine Js 57 ?_ ?_
  ·intro h56
   have g57 := eq_of_beq h56
   refine Oq (Vfa fo37_2 0) (Oq (VldF sh35 0) (Oq (Vlen sl35) (Oq Vm (Oq Veql (Oq Vpt (Oq Vm ?_))))))
   refine Js 64 ?_ ?_
   ·intro h58
    have g59 := eq_of_beq h58
    refine Oq Vm (Oq Vleq (Oq Vpt (Oq Vm ?_)))
    refine Js 68 ?_ ?_
    ·intro h60
     have g61 := dt h60
     refine Oq (Vfa fo37_3 0) (Oq (VldF sh35 0) (Oq (Vlen sl35) (Oq Vm (Oq Veql (Oq Vpt (Oq Vm ?_))))))
     refine Js 75 ?_ ?_
     ·intro h62
      have g63 := eq_of_beq h62
      refine Oq Vm ?_
      refine Jl [5] (Ent.freeze _ _) ?_
      refine JJ_ent (Ent.pall [4, 5] rfl rfl) ?_
      refine letv (sc_ContainsFunc_string (rv46 ++ s.Targets) (fun x => sx_valid_1 x)) fun rv64 hg65 => ?_
      have hc66 := fn104 ((rv46 ++ s.Targets)) a52 k53 105 [] (fun x => sx_valid_1 x) [pv (gp 0) [vl kwLA kwLK kwL], S kwLA kwLK kwL] ca105 (fun x hx hq0 => FT_pall (A1 := _) (fn105 x  kwLA kwLK hq0 _ rfl)) rv64 hg65
      refine Oc [1, 0] ca104 hc66 ?_
      rintro - -
      refine Oq Vnot (Oq Vpt (Oq Va (KS ?_)))
      have hq := q4 hrr (!rv64) (by simp only [sx_valid, h8, h43, h56, h58, h60, h62, hg47, hg65, cs4]); subst hq
      exact Kr () rfl (.tmp rfl .nil) [] trivial
     intro h62
     have g67 := ne_of_beq_false h62
     refine Osk (Osk (Osk (Oq Vpf (Oq Va (KS ?_)))))
     have hq := q4 hrr false (by simp only [sx_valid, h8, h43, h56, h58, h60, h62, hg47, cs4]); subst hq
     exact Kr () rfl (.tmp rfl .nil) [] trivial
    intro h60
    have g68 := df h60
    refine Osk (Osk (Osk (Osk (Osk (Oq Vpf (Oq Vm (Osk (Osk (Osk ?_)))))))))
    refine Oq Vpf (Oq Va (KS ?_))
    have hq := q4 hrr false (by simp only [sx_valid, h8, h43, h56, h58, h60, hg47, cs4]); subst hq
    exact Kr () rfl (.tmp rfl .nil) [] trivial
   intro h58
   have g69 := ne_of_beq_false h58
   refine Osk (Osk (Oq Vpf (Oq Vm (Osk (Osk (Osk (Osk (Osk (Oq Vpf ?_)))))))))
   refine Oq Vm (Osk (Osk (Osk (Oq Vpf (Oq Va (KS ?_))))))
   have hq := q4 hrr false (by simp only [sx_valid, h8, h43, h56, h58, hg47, cs4]); subst hq
   exact Kr () rfl (.tmp rfl .nil) [] trivial
  intro h56
  have g70 := ne_of_beq_false h56
  refine Osk (Osk (Osk (Osk (Osk (Oq Vpf (Oq Vm (Osk (Osk (Oq Vpf ?_)))))))))
  refine Oq Vm (Osk (Osk (Osk (Osk (Osk (Oq Vpf (Oq Vm (Osk (Osk ?_)))))))))
  refine Osk (Oq Vpf (Oq Va (KS ?_)))
  have hq := q4 hrr false (by simp only [sx_valid, h8, h43, h56, hg47, cs4]); subst hq
  exact Kr () rfl (.tmp rfl .nil) [] trivial
 intro h43
 have g71 := ne_of_beq_false h43
 refine KS ?_
 refine Oq Veql (Oq Va (KS ?_))
 refine Kc ?_ ?_
 ·intro h72
  have g73 := eq_of_beq h72
  refine Ke ?_
  refine KS ?_
  refine Oq Va (KS ?_)
  refine Ke ?_
  refine KS ?_
  refine JK_drawK [0, 1, 3, 0, 8, 31, 63] fmix ?_
  refine Dv [0] (Vfa fo37_2 0) (Dv [0] (VldF sh35 0) ?_)
  refine letv (sc_Clone_string s.Uses) fun rv75 hg76 => ?_
  refine Dx [1] [] [2, 0, 1] (fun G => (G.g 2 0)) [fun G => SP.fact ((rv75.length = s.Uses.length)), fun G => os (G.g 2 0) rv75] (fun G => xC [0] ca103 (fn103 s.Uses sa2 sk2 rv75 hg76)) (Dv [0] (Vfa fo37_3 0) (Dv [0] (VldF sh35 0) ?_))
  have hn78 := la rv75 s.Targets
  refine Dx [2, 5, 6] [6] [1, 2, 0] (fun G => (G.g 5 0)) [fun G => os (G.g 5 0) (rv75 ++ s.Targets)] (fun G => by refine xf 1 rfl ?_; rintro he79; exact xA (Ap [2, 0] sl35 sl35 sz35)) (Dg [] (fun G => (G.g 5 0)) (fun G => Va) ?_)
  refine Dn ⟨by kernel_rfl, fun G => ?_⟩
  refine Jw2 [(1, p7), (3, vi 0), (5, vi 0), (4, vi 1), (6, (G.g 5 0))] [0, 1, 2, 3, 4] [SP.fact ((rv75.length = s.Uses.length)), os (G.g 5 0) (rv75 ++ s.Targets)] ?_
  generalize G.g 5 0 = c77
  refine Jf 5 rfl ?_; rintro he80
  refine Jk [0, 1, 2, 3, 4, 6] ?_
  refine Jo 5 ?_; rintro a81 k82 rfl
  refine Fb 16 5 fun _ => ?_
  refine FoS 5 fun ho84 => ?_
  refine KS ?_
  refine Oq Vm (Oq Veql (KS ?_))
  refine Kf (KS ?_)
  refine Oq Vm (Oq Veql (Oq Vm (Oq (Vfa fo37_1 0) (Oq (VldF sh9 0) (Oq (VeqS (l := s.Def) (m := (Str.mk []))) (Oq Vpf (Oq Vm ?_)))))))
  refine Js 57 ?_ ?_
  ·intro h85
   have g86 := eq_of_beq h85
   refine Oq (Vfa fo37_2 0) (Oq (VldF sh35 0) (Oq (Vlen sl35) (Oq Vm (Oq Veql (Oq Vpt (Oq Vm ?_))))))
   refine Js 64 ?_ ?_
   ·intro h87
    have g88 := eq_of_beq h87
    refine Oq Vm (Oq Vleq (Oq Vpt (Oq Vm (Oq (Vfa fo37_3 0) (Oq (VldF sh35 0) (Oq (Vlen sl35) (Oq Vm (Oq Veql (Oq Vpt ?_)))))))))
    refine Oq Vm ?_
    refine Js 75 ?_ ?_
    ·intro h89
     have g90 := eq_of_beq h89
     refine Oq Vm ?_
     refine Jl [5] (Ent.freeze _ _) ?_
     refine JJ_ent (Ent.pall [4, 5] rfl rfl) ?_
     refine letv (sc_ContainsFunc_string (rv75 ++ s.Targets) (fun x => sx_valid_1 x)) fun rv91 hg92 => ?_
     have hc93 := fn104 ((rv75 ++ s.Targets)) a81 k82 105 [] (fun x => sx_valid_1 x) [pv (gp 0) [vl kwLA kwLK kwL], S kwLA kwLK kwL] ca105 (fun x hx hq0 => FT_pall (A1 := _) (fn105 x  kwLA kwLK hq0 _ rfl)) rv91 hg92
     refine Oc [1, 0] ca104 hc93 ?_
     rintro - -
     refine Oq Vnot (Oq Vpt (Oq Va (KS ?_)))
     have hq := q4 hrr (!rv91) (by simp only [sx_valid, h8, h43, h72, h85, h87, h89, hg76, hg92, cs4]); subst hq
     exact Kr () rfl (.tmp rfl .nil) [] trivial
    intro h89
    have g94 := ne_of_beq_false h89
    refine Osk (Osk (Osk (Oq Vpf (Oq Va (KS ?_)))))
    have hq := q4 hrr false (by simp only [sx_valid, h8, h43, h72, h85, h87, h89, hg76, cs4]); subst hq
    exact Kr () rfl (.tmp rfl .nil) [] trivial
   intro h87
   have g95 := ne_of_beq_false h87
   refine Osk (Osk (Oq Vpf (Oq Vm (Osk (Osk (Osk (Osk (Osk (Oq Vpf ?_)))))))))
   refine Oq Vm (Osk (Osk (Osk (Oq Vpf (Oq Va (KS ?_))))))
   have hq := q4 hrr false (by simp only [sx_valid, h8, h43, h72, h85, h87, hg76, cs4]); subst hq
   exact Kr () rfl (.tmp rfl .nil) [] trivial
  intro h85
  have g96 := ne_of_beq_false h85
  refine Osk (Osk (Osk (Osk (Osk (Oq Vpf (Oq Vm (Osk (Osk (Oq Vpf ?_)))))))))
  refine Oq Vm (Osk (Osk (Osk (Osk (Osk (Oq Vpf (Oq Vm (Osk (Osk ?_)))))))))
  refine Osk (Oq Vpf (Oq Va (KS ?_)))
  have hq := q4 hrr false (by simp only [sx_valid, h8, h43, h72, h85, hg76, cs4]); subst hq
  exact Kr () rfl (.tmp rfl .nil) [] trivial
 intro h72
 have g97 := ne_of_beq_false h72
 refine KS ?_
 refine Oq Veql (Oq Va (KS ?_))
 refine Kc ?_ ?_
 ·intro h98
  have g99 := eq_of_beq h98
  refine KS ?_
  refine Kc ?_ ?_
  ·intro h100
   have g101 := eq_of_beq h100
   refine Ke ?_
   refine KS ?_
   refine Oq Va (KS ?_)
   refine Oq Va (KS ?_)
   refine Ke ?_
   refine KS ?_
   refine JK_drawK [0, 1, 3, 0, 8, 31, 63] fmix ?_
   refine Dv [0] (Vfa fo37_2 0) (Dv [0] (VldF sh35 0) ?_)
   refine letv (sc_Clone_string s.Uses) fun rv103 hg104 => ?_
   refine Dx [1] [] [2, 0, 1] (fun G => (G.g 2 0)) [fun G => SP.fact ((rv103.length = s.Uses.length)), fun G => os (G.g 2 0) rv103] (fun G => xC [0] ca103 (fn103 s.Uses sa2 sk2 rv103 hg104)) (Dv [0] (Vfa fo37_3 0) (Dv [0] (VldF sh35 0) ?_))
   have hn106 := la rv103 s.Targets
   refine Dx [2, 5, 6] [6] [1, 2, 0] (fun G => (G.g 5 0)) [fun G => os (G.g 5 0) (rv103 ++ s.Targets)] (fun G => by refine xf 1 rfl ?_; rintro he107; exact xA (Ap [2, 0] sl35 sl35 sz35)) (Dg [] (fun G => (G.g 5 0)) (fun G => Va) ?_)
   refine Dn ⟨by kernel_rfl, fun G => ?_⟩
   refine Jw2 [(1, p7), (5, vi 0), (3, vi 1), (4, vi 0), (6, (G.g 5 0))] [0, 1, 2, 3, 4] [SP.fact ((rv103.length = s.Uses.length)), os (G.g 5 0) (rv103 ++ s.Targets)] ?_
   generalize G.g 5 0 = c105
   refine Jf 5 rfl ?_; rintro he108
   refine Jk [0, 1, 2, 3, 4, 6] ?_
   refine Jo 5 ?_; rintro a109 k110 rfl
   refine Fb 16 5 fun _ => ?_
   refine FoS 5 fun ho112 => ?_
   refine KS ?_
   refine Oq Vm (Oq Veql (KS ?_))
   refine Kt (KS ?_)
   refine Oq Vm (Oq (Vfa fo37_1 0) (Oq (VldF sh9 0) (Oa (AsV sl35 sz35 [.string (bs s.Def)] [.string (bs s.Def)]) fun c113 => ?_)))
   refine Jo 0 ?_; rintro a114 k115 rfl
   refine Jl [0] (Ent.cr1 (α := Str) (A := []) _ s.Def _ aB1 (fun _ => ⟨rfl, aS1⟩)) ?_
   refine Oa (ApO [6, 0] sl35 sl35 sz35) fun c116 => ?_
   refine Jo 0 ?_; rintro a117 k118 rfl
   refine Fb 16 0 fun _ => ?_
   refine FoS 0 fun ho120 => ?_
   have hn121 := la (rv103 ++ s.Targets) ([s.Def] : List Str)
   refine Oq Va (KS ?_)
   refine Oq Vm (Oq Veql (Oq Vm (Osk (Osk (Osk (Oq Vpt (Oq Vm (Oq (Vfa fo37_2 1) (Oq (VldF sh35 1) ?_)))))))))
   refine Oq (Vlen sl35) (Oq Vm (Oq Veql (Oq Vpt (Oq Vm ?_))))
   refine Js 64 ?_ ?_
   ·intro h122
    have g123 := eq_of_beq h122
    refine Oq Vm (Oq Vleq (Oq Vpt (Oq Vm (Oq (Vfa fo37_3 1) (Oq (VldF sh35 1) (Oq (Vlen sl35) (Oq Vm (Oq Veql (Oq Vpt ?_)))))))))
    refine Oq Vm ?_
    refine Js 75 ?_ ?_
    ·intro h124
     have g125 := eq_of_beq h124
     refine Oq Vm ?_
     refine Jl [0] (Ent.freeze _ _) ?_
     refine JJ_ent (Ent.pall [4, 5] rfl rfl) ?_
     refine letv (sc_ContainsFunc_string ((rv103 ++ s.Targets) ++ [s.Def]) (fun x => sx_valid_1 x)) fun rv126 hg127 => ?_
     have hc128 := fn104 (((rv103 ++ s.Targets) ++ [s.Def])) a117 k118 105 [] (fun x => sx_valid_1 x) [pv (gp 0) [vl kwLA kwLK kwL], S kwLA kwLK kwL] ca105 (fun x hx hq0 => FT_pall (A1 := _) (fn105 x  kwLA kwLK hq0 _ rfl)) rv126 hg127
     refine Oc [1, 0] ca104 hc128 ?_
     rintro - -
     refine Oq Vnot (Oq Vpt (Oq Va (KS ?_)))
     have hq := q4 hrr (!rv126) (by simp only [sx_valid, h8, h43, h72, h98, h100, h122, h124, hg104, hg127, cs4]); subst hq
     exact Kr () rfl (.tmp rfl .nil) [] trivial
    intro h124
    have g129 := ne_of_beq_false h124
    refine Osk (Osk (Osk (Oq Vpf (Oq Va (KS ?_)))))
    have hq := q4 hrr false (by simp only [sx_valid, h8, h43, h72, h98, h100, h122, h124, hg104, cs4]); subst hq
    exact Kr () rfl (.tmp rfl .nil) [] trivial
   intro h122
   have g130 := ne_of_beq_false h122
   refine Osk (Osk (Oq Vpf (Oq Vm (Osk (Osk (Osk (Osk (Osk (Oq Vpf ?_)))))))))
   refine Oq Vm (Osk (Osk (Osk (Oq Vpf (Oq Va (KS ?_))))))
   have hq := q4 hrr false (by simp only [sx_valid, h8, h43, h72, h98, h100, h122, hg104, cs4]); subst hq
   exact Kr () rfl (.tmp rfl .nil) [] trivial
  intro h100
  exact absurd h100 (by first | (simp [h98]; done) | (simp only [bne, h98]; decide) | (simp only [bne, h98, Bool.not_true, Bool.not_false]; decide) | (exfalso; omega) | (intro hq; simp only [bne, hq, Bool.not_false, Bool.not_true, reduceCtorEq] at h98))
 intro h98
 have g131 := ne_of_beq_false h98
 refine KS ?_
 refine Oq Veql (Oq Va (KS ?_))
 refine Kc ?_ ?_
 ·intro h132
  have g133 := eq_of_beq h132
  refine Ke ?_
  refine KS ?_
  refine Oq Va (KS ?_)
  refine Oq Va (KS ?_)
  refine Ke ?_
  refine KS ?_
  refine JK_drawK [0, 1, 3, 0, 8, 31, 63] fmix ?_
  refine Dv [0] (Vfa fo37_2 0) (Dv [0] (VldF sh35 0) ?_)
  refine letv (sc_Clone_string s.Uses) fun rv135 hg136 => ?_
  refine Dx [1] [] [2, 0, 1] (fun G => (G.g 2 0)) [fun G => SP.fact ((rv135.length = s.Uses.length)), fun G => os (G.g 2 0) rv135] (fun G => xC [0] ca103 (fn103 s.Uses sa2 sk2 rv135 hg136)) (Dv [0] (Vfa fo37_3 0) (Dv [0] (VldF sh35 0) ?_))
  have hn138 := la rv135 s.Targets
  refine Dx [2, 5, 6] [6] [1, 2, 0] (fun G => (G.g 5 0)) [fun G => os (G.g 5 0) (rv135 ++ s.Targets)] (fun G => by refine xf 1 rfl ?_; rintro he139; exact xA (Ap [2, 0] sl35 sl35 sz35)) (Dg [] (fun G => (G.g 5 0)) (fun G => Va) ?_)
  refine Dn ⟨by kernel_rfl, fun G => ?_⟩
  refine Jw2 [(1, p7), (5, vi 0), (3, vi 1), (4, vi 0), (6, (G.g 5 0))] [0, 1, 2, 3, 4] [SP.fact ((rv135.length = s.Uses.length)), os (G.g 5 0) (rv135 ++ s.Targets)] ?_
  generalize G.g 5 0 = c137
  refine Jf 5 rfl ?_; rintro he140
  refine Jk [0, 1, 2, 3, 4, 6] ?_
  refine Jo 5 ?_; rintro a141 k142 rfl
  refine Fb 16 5 fun _ => ?_
  refine FoS 5 fun ho144 => ?_
  refine KS ?_
  refine Oq Vm (Oq Veql (KS ?_))
  refine Kt (KS ?_)
  refine Oq Vm (Oq (Vfa fo37_1 0) (Oq (VldF sh9 0) (Oa (AsV sl35 sz35 [.string (bs s.Def)] [.string (bs s.Def)]) fun c145 => ?_)))
  refine Jo 0 ?_; rintro a146 k147 rfl
  refine Jl [0] (Ent.cr1 (α := Str) (A := []) _ s.Def _ aB1 (fun _ => ⟨rfl, aS1⟩)) ?_
  refine Oa (ApO [6, 0] sl35 sl35 sz35) fun c148 => ?_
  refine Jo 0 ?_; rintro a149 k150 rfl
  refine Fb 16 0 fun _ => ?_
  refine FoS 0 fun ho152 => ?_
  have hn153 := la (rv135 ++ s.Targets) ([s.Def] : List Str)
  refine Oq Va (KS ?_)
  refine Oq Vm (Oq Veql (Oq Vm (Osk (Osk (Osk (Oq Vpt (Oq Vm (Oq (Vfa fo37_2 1) (Oq (VldF sh35 1) ?_)))))))))
  refine Oq (Vlen sl35) (Oq Vm (Oq Veql (Oq Vpt (Oq Vm ?_))))
  refine Js 64 ?_ ?_
  ·intro h154
   have g155 := eq_of_beq h154
   refine Oq Vm (Oq Vleq (Oq Vpt (Oq Vm (Oq (Vfa fo37_3 1) (Oq (VldF sh35 1) (Oq (Vlen sl35) (Oq Vm (Oq Veql (Oq Vpt ?_)))))))))
   refine Oq Vm ?_
   refine Js 75 ?_ ?_
   ·intro h156
    have g157 := eq_of_beq h156
    refine Oq Vm ?_
    refine Jl [0] (Ent.freeze _ _) ?_
    refine JJ_ent (Ent.pall [4, 5] rfl rfl) ?_
    refine letv (sc_ContainsFunc_string ((rv135 ++ s.Targets) ++ [s.Def]) (fun x => sx_valid_1 x)) fun rv158 hg159 => ?_
    have hc160 := fn104 (((rv135 ++ s.Targets) ++ [s.Def])) a149 k150 105 [] (fun x => sx_valid_1 x) [pv (gp 0) [vl kwLA kwLK kwL], S kwLA kwLK kwL] ca105 (fun x hx hq0 => FT_pall (A1 := _) (fn105 x  kwLA kwLK hq0 _ rfl)) rv158 hg159
    refine Oc [1, 0] ca104 hc160 ?_
    rintro - -
    refine Oq Vnot (Oq Vpt (Oq Va (KS ?_)))
    have hq := q4 hrr (!rv158) (by simp only [sx_valid, h8, h43, h72, h98, h132, h154, h156, hg136, hg159, cs4]); subst hq
    exact Kr () rfl (.tmp rfl .nil) [] trivial
   intro h156
   have g161 := ne_of_beq_false h156
   refine Osk (Osk (Osk (Oq Vpf (Oq Va (KS ?_)))))
   have hq := q4 hrr false (by simp only [sx_valid, h8, h43, h72, h98, h132, h154, h156, hg136, cs4]); subst hq
   exact Kr () rfl (.tmp rfl .nil) [] trivial
  intro h154
  have g162 := ne_of_beq_false h154
  refine Osk (Osk (Oq Vpf (Oq Vm (Osk (Osk (Osk (Osk (Osk (Oq Vpf ?_)))))))))
  refine Oq Vm (Osk (Osk (Osk (Oq Vpf (Oq Va (KS ?_))))))
  have hq := q4 hrr false (by simp only [sx_valid, h8, h43, h72, h98, h132, h154, hg136, cs4]); subst hq
  exact Kr () rfl (.tmp rfl .nil) [] trivial
 intro h132
 have g163 := ne_of_beq_false h132
 refine KS ?_
 refine Oq Veql (Oq Va (KS ?_))
 refine Kc ?_ ?_
 ·intro h164
  have g165 := eq_of_beq h164
  refine Ke ?_
  refine KS ?_
  refine Oq Va (KS ?_)
  refine Oq Vm (Oq Vadd (Oq Va (KS ?_)))
  refine Oq Vm (Oq Vadd (Oq Va (KS ?_)))
  refine Oq (Vfa fo37_0 0) (Oq (VldF sh3 0) (Oq Vneq (KS ?_)))
  refine Kc ?_ ?_
  ·intro h166
   exact absurd h166 (by first | (simp [h164]; done) | (simp only [bne, h164]; decide) | (simp only [bne, h164, Bool.not_true, Bool.not_false]; decide) | (exfalso; omega) | (intro hq; simp only [bne, hq, Bool.not_false, Bool.not_true, reduceCtorEq] at h164))
  intro h166
  have g167 := eq_of_bne_false h166
  refine KS ?_
  refine Ke ?_
  refine KS ?_
  refine JK_drawK [0, 1, 3, 0, 8, 31, 63] fmix ?_
  refine Dv [0] (Vfa fo37_2 0) (Dv [0] (VldF sh35 0) ?_)
  refine letv (sc_Clone_string s.Uses) fun rv169 hg170 => ?_
  refine Dx [1] [] [2, 0, 1] (fun G => (G.g 2 0)) [fun G => SP.fact ((rv169.length = s.Uses.length)), fun G => os (G.g 2 0) rv169] (fun G => xC [0] ca103 (fn103 s.Uses sa2 sk2 rv169 hg170)) (Dv [0] (Vfa fo37_3 0) (Dv [0] (VldF sh35 0) ?_))
  have hn172 := la rv169 s.Targets
  refine Dx [2, 5, 6] [6] [1, 2, 0] (fun G => (G.g 5 0)) [fun G => os (G.g 5 0) (rv169 ++ s.Targets)] (fun G => by refine xf 1 rfl ?_; rintro he173; exact xA (Ap [2, 0] sl35 sl35 sz35)) (Dg [] (fun G => (G.g 5 0)) (fun G => Va) ?_)
  refine Dn ⟨by kernel_rfl, fun G => ?_⟩
  refine Jw2 [(1, p7), (3, vi 0), (4, vi 1), (5, vi ((0 + 1) + 1)), (6, (G.g 5 0))] [0, 1, 2, 3, 4] [SP.fact ((rv169.length = s.Uses.length)), os (G.g 5 0) (rv169 ++ s.Targets)] ?_
  generalize G.g 5 0 = c171
  refine Jf 5 rfl ?_; rintro he174
  refine Jk [0, 1, 2, 3, 4, 6] ?_
  refine Jo 5 ?_; rintro a175 k176 rfl
  refine Fb 16 5 fun _ => ?_
  refine FoS 5 fun ho178 => ?_
  refine KS ?_
  refine Oq Vm (Oq Veql (KS ?_))
  refine Kf (KS ?_)
  refine Oq Vm (Oq Veql (Oq Vm (Oq (Vfa fo37_1 0) (Oq (VldF sh9 0) (Oq (VeqS (l := s.Def) (m := (Str.mk []))) (Oq Vpf (Oq Vm ?_)))))))
  refine Js 57 ?_ ?_
  ·intro h179
   have g180 := eq_of_beq h179
   refine Oq (Vfa fo37_2 0) (Oq (VldF sh35 0) (Oq (Vlen sl35) (Oq Vm (Oq Veql (Oq Vpt (Oq Vm ?_))))))
   refine Js 64 ?_ ?_
   ·intro h181
    have g182 := eq_of_beq h181
    refine Oq Vm (Oq Vleq (Oq Vpt (Oq Vm (Oq (Vfa fo37_3 0) (Oq (VldF sh35 0) (Oq (Vlen sl35) (Oq Vm (Oq Veql (Oq Vpt ?_)))))))))
    refine Oq Vm ?_
    refine Js 75 ?_ ?_
    ·intro h183
     have g184 := eq_of_beq h183
     refine Oq Vm ?_
     refine Jl [5] (Ent.freeze _ _) ?_
     refine JJ_ent (Ent.pall [4, 5] rfl rfl) ?_
     refine letv (sc_ContainsFunc_string (rv169 ++ s.Targets) (fun x => sx_valid_1 x)) fun rv185 hg186 => ?_
     have hc187 := fn104 ((rv169 ++ s.Targets)) a175 k176 105 [] (fun x => sx_valid_1 x) [pv (gp 0) [vl kwLA kwLK kwL], S kwLA kwLK kwL] ca105 (fun x hx hq0 => FT_pall (A1 := _) (fn105 x  kwLA kwLK hq0 _ rfl)) rv185 hg186
     refine Oc [1, 0] ca104 hc187 ?_
     rintro - -
     refine Oq Vnot (Oq Vpt (Oq Va (KS ?_)))
     have hq := q4 hrr (!rv185) (by simp only [sx_valid, h8, h43, h72, h98, h132, h164, h166, h179, h181, h183, hg170, hg186, cs4]); subst hq
     exact Kr () rfl (.tmp rfl .nil) [] trivial
    intro h183
    have g188 := ne_of_beq_false h183
    refine Osk (Osk (Osk (Oq Vpf (Oq Va (KS ?_)))))
    have hq := q4 hrr false (by simp only [sx_valid, h8, h43, h72, h98, h132, h164, h166, h179, h181, h183, hg170, cs4]); subst hq
    exact Kr () rfl (.tmp rfl .nil) [] trivial
   intro h181
   have g189 := ne_of_beq_false h181
   refine Osk (Osk (Oq Vpf (Oq Vm (Osk (Osk (Osk (Osk (Osk (Oq Vpf ?_)))))))))
   refine Oq Vm (Osk (Osk (Osk (Oq Vpf (Oq Va (KS ?_))))))
   have hq := q4 hrr false (by simp only [sx_valid, h8, h43, h72, h98, h132, h164, h166, h179, h181, hg170, cs4]); subst hq
   exact Kr () rfl (.tmp rfl .nil) [] trivial
  intro h179
  have g190 := ne_of_beq_false h179
  refine Osk (Osk (Osk (Osk (Osk (Oq Vpf (Oq Vm (Osk (Osk (Oq Vpf ?_)))))))))
  refine Oq Vm (Osk (Osk (Osk (Osk (Osk (Oq Vpf (Oq Vm (Osk (Osk ?_)))))))))
  refine Osk (Oq Vpf (Oq Va (KS ?_)))
  have hq := q4 hrr false (by simp only [sx_valid, h8, h43, h72, h98, h132, h164, h166, h179, hg170, cs4]); subst hq
  exact Kr () rfl (.tmp rfl .nil) [] trivial
 intro h164
 have g191 := ne_of_beq_false h164
 refine KS ?_
 refine Oq Veql (Oq Va (KS ?_))
 refine Kc ?_ ?_
 ·intro h192
  have g193 := eq_of_beq h192
  refine KS ?_
  refine Kc ?_ ?_
  ·intro h194
   have g195 := eq_of_beq h194
   refine Ke ?_
   refine KS ?_
   refine Oq Vm (Oq Vadd (Oq Va (KS ?_)))
   refine Oq (Vfa fo37_0 0) (Oq (VldF sh3 0) (Oq Vneq (KS ?_)))
   refine Kc ?_ ?_
   ·intro h196
    have g197 := ne_of_bne h196
    refine KS ?_
    refine Oq Va (KS ?_)
    refine Ke ?_
    refine KS ?_
    refine JK_drawK [0, 1, 3, 0, 8, 31, 63] fmix ?_
    refine Dv [0] (Vfa fo37_2 0) (Dv [0] (VldF sh35 0) ?_)
    refine letv (sc_Clone_string s.Uses) fun rv199 hg200 => ?_
    refine Dx [1] [] [2, 0, 1] (fun G => (G.g 2 0)) [fun G => SP.fact ((rv199.length = s.Uses.length)), fun G => os (G.g 2 0) rv199] (fun G => xC [0] ca103 (fn103 s.Uses sa2 sk2 rv199 hg200)) (Dv [0] (Vfa fo37_3 0) (Dv [0] (VldF sh35 0) ?_))
    have hn202 := la rv199 s.Targets
    refine Dx [2, 5, 6] [6] [1, 2, 0] (fun G => (G.g 5 0)) [fun G => os (G.g 5 0) (rv199 ++ s.Targets)] (fun G => by refine xf 1 rfl ?_; rintro he203; exact xA (Ap [2, 0] sl35 sl35 sz35)) (Dg [] (fun G => (G.g 5 0)) (fun G => Va) ?_)
    refine Dn ⟨by kernel_rfl, fun G => ?_⟩
    refine Jw2 [(1, p7), (3, vi 0), (5, vi (0 + 1)), (4, vi 0), (6, (G.g 5 0))] [0, 1, 2, 3, 4] [SP.fact ((rv199.length = s.Uses.length)), os (G.g 5 0) (rv199 ++ s.Targets)] ?_
    generalize G.g 5 0 = c201
    refine Jf 5 rfl ?_; rintro he204
    refine Jk [0, 1, 2, 3, 4, 6] ?_
    refine Jo 5 ?_; rintro a205 k206 rfl
    refine Fb 16 5 fun _ => ?_
    refine FoS 5 fun ho208 => ?_
    refine KS ?_
    refine Oq Vm (Oq Veql (KS ?_))
    refine Kf (KS ?_)
    refine Oq Vm (Oq Veql (Oq Vm (Oq (Vfa fo37_1 0) (Oq (VldF sh9 0) (Oq (VeqS (l := s.Def) (m := (Str.mk []))) (Oq Vpf (Oq Vm ?_)))))))
    refine Js 57 ?_ ?_
    ·intro h209
     have g210 := eq_of_beq h209
     refine Oq (Vfa fo37_2 0) (Oq (VldF sh35 0) (Oq (Vlen sl35) (Oq Vm (Oq Veql (Oq Vpt (Oq Vm ?_))))))
     refine Js 64 ?_ ?_
     ·intro h211
      have g212 := eq_of_beq h211
      refine Oq Vm (Oq Vleq (Oq Vpt (Oq Vm (Oq (Vfa fo37_3 0) (Oq (VldF sh35 0) (Oq (Vlen sl35) (Oq Vm (Oq Veql (Oq Vpt ?_)))))))))
      refine Oq Vm ?_
      refine Js 75 ?_ ?_
      ·intro h213
       have g214 := eq_of_beq h213
       refine Oq Vm ?_
       refine Jl [5] (Ent.freeze _ _) ?_
       refine JJ_ent (Ent.pall [4, 5] rfl rfl) ?_
       refine letv (sc_ContainsFunc_string (rv199 ++ s.Targets) (fun x => sx_valid_1 x)) fun rv215 hg216 => ?_
       have hc217 := fn104 ((rv199 ++ s.Targets)) a205 k206 105 [] (fun x => sx_valid_1 x) [pv (gp 0) [vl kwLA kwLK kwL], S kwLA kwLK kwL] ca105 (fun x hx hq0 => FT_pall (A1 := _) (fn105 x  kwLA kwLK hq0 _ rfl)) rv215 hg216
       refine Oc [1, 0] ca104 hc217 ?_
       rintro - -
       refine Oq Vnot (Oq Vpt (Oq Va (KS ?_)))
       have hq := q4 hrr (!rv215) (by simp only [sx_valid, h8, h43, h72, h98, h132, h164, h192, h194, h196, h209, h211, h213, hg200, hg216, cs4]); subst hq
       exact Kr () rfl (.tmp rfl .nil) [] trivial
      intro h213
      have g218 := ne_of_beq_false h213
      refine Osk (Osk (Osk (Oq Vpf (Oq Va (KS ?_)))))
      have hq := q4 hrr false (by simp only [sx_valid, h8, h43, h72, h98, h132, h164, h192, h194, h196, h209, h211, h213, hg200, cs4]); subst hq
      exact Kr () rfl (.tmp rfl .nil) [] trivial
     intro h211
     have g219 := ne_of_beq_false h211
     refine Osk (Osk (Oq Vpf (Oq Vm (Osk (Osk (Osk (Osk (Osk (Oq Vpf ?_)))))))))
     refine Oq Vm (Osk (Osk (Osk (Oq Vpf (Oq Va (KS ?_))))))
     have hq := q4 hrr false (by simp only [sx_valid, h8, h43, h72, h98, h132, h164, h192, h194, h196, h209, h211, hg200, cs4]); subst hq
     exact Kr () rfl (.tmp rfl .nil) [] trivial
    intro h209
    have g220 := ne_of_beq_false h209
    refine Osk (Osk (Osk (Osk (Osk (Oq Vpf (Oq Vm (Osk (Osk (Oq Vpf ?_)))))))))
    refine Oq Vm (Osk (Osk (Osk (Osk (Osk (Oq Vpf (Oq Vm (Osk (Osk ?_)))))))))
    refine Osk (Oq Vpf (Oq Va (KS ?_)))
    have hq := q4 hrr false (by simp only [sx_valid, h8, h43, h72, h98, h132, h164, h192, h194, h196, h209, hg200, cs4]); subst hq
    exact Kr () rfl (.tmp rfl .nil) [] trivial
   intro h196
   exact absurd h196 (by first | (simp [h164]; done) | (simp only [bne, h164]; decide) | (simp only [bne, h164, Bool.not_true, Bool.not_false]; decide) | (exfalso; omega) | (intro hq; simp only [bne, hq, Bool.not_false, Bool.not_true, reduceCtorEq] at h164))
  intro h194
  exact absurd h194 (by first | (simp [h192]; done) | (simp only [bne, h192]; decide) | (simp only [bne, h192, Bool.not_true, Bool.not_false]; decide) | (exfalso; omega) | (intro hq; simp only [bne, hq, Bool.not_false, Bool.not_true, reduceCtorEq] at h192))
 intro h192
 have g221 := ne_of_beq_false h192
 refine KS ?_
 refine Oq Veql (Oq Va (KS ?_))
 refine Kc ?_ ?_
 ·intro h222
  have g223 := eq_of_beq h222
  refine Ke ?_
  refine KS ?_
  refine Oq Vm (Oq Vadd (Oq Va (KS ?_)))
  refine Oq (Vfa fo37_0 0) (Oq (VldF sh3 0) (Oq Vneq (KS ?_)))
  refine Kc ?_ ?_
  ·intro h224
   have g225 := ne_of_bne h224
   refine KS ?_
   refine Oq Va (KS ?_)
   refine Ke ?_
   refine KS ?_
   refine JK_drawK [0, 1, 3, 0, 8, 31, 63] fmix ?_
   refine Dv [0] (Vfa fo37_2 0) (Dv [0] (VldF sh35 0) ?_)
   refine letv (sc_Clone_string s.Uses) fun rv227 hg228 => ?_
   refine Dx [1] [] [2, 0, 1] (fun G => (G.g 2 0)) [fun G => SP.fact ((rv227.length = s.Uses.length)), fun G => os (G.g 2 0) rv227] (fun G => xC [0] ca103 (fn103 s.Uses sa2 sk2 rv227 hg228)) (Dv [0] (Vfa fo37_3 0) (Dv [0] (VldF sh35 0) ?_))
   have hn230 := la rv227 s.Targets
   refine Dx [2, 5, 6] [6] [1, 2, 0] (fun G => (G.g 5 0)) [fun G => os (G.g 5 0) (rv227 ++ s.Targets)] (fun G => by refine xf 1 rfl ?_; rintro he231; exact xA (Ap [2, 0] sl35 sl35 sz35)) (Dg [] (fun G => (G.g 5 0)) (fun G => Va) ?_)
   refine Dn ⟨by kernel_rfl, fun G => ?_⟩
   refine Jw2 [(1, p7), (3, vi 0), (5, vi (0 + 1)), (4, vi 0), (6, (G.g 5 0))] [0, 1, 2, 3, 4] [SP.fact ((rv227.length = s.Uses.length)), os (G.g 5 0) (rv227 ++ s.Targets)] ?_
   generalize G.g 5 0 = c229
   refine Jf 5 rfl ?_; rintro he232
   refine Jk [0, 1, 2, 3, 4, 6] ?_
   refine Jo 5 ?_; rintro a233 k234 rfl
   refine Fb 16 5 fun _ => ?_
   refine FoS 5 fun ho236 => ?_
   refine KS ?_
   refine Oq Vm (Oq Veql (KS ?_))
   refine Kf (KS ?_)
   refine Oq Vm (Oq Veql (Oq Vm (Oq (Vfa fo37_1 0) (Oq (VldF sh9 0) (Oq (VeqS (l := s.Def) (m := (Str.mk []))) (Oq Vpf (Oq Vm ?_)))))))
   refine Js 57 ?_ ?_
   ·intro h237
    have g238 := eq_of_beq h237
    refine Oq (Vfa fo37_2 0) (Oq (VldF sh35 0) (Oq (Vlen sl35) (Oq Vm (Oq Veql (Oq Vpt (Oq Vm ?_))))))
    refine Js 64 ?_ ?_
    ·intro h239
     have g240 := eq_of_beq h239
     refine Oq Vm (Oq Vleq (Oq Vpt (Oq Vm (Oq (Vfa fo37_3 0) (Oq (VldF sh35 0) (Oq (Vlen sl35) (Oq Vm (Oq Veql (Oq Vpt ?_)))))))))
     refine Oq Vm ?_
     refine Js 75 ?_ ?_
     ·intro h241
      have g242 := eq_of_beq h241
      refine Oq Vm ?_
      refine Jl [5] (Ent.freeze _ _) ?_
      refine JJ_ent (Ent.pall [4, 5] rfl rfl) ?_
      refine letv (sc_ContainsFunc_string (rv227 ++ s.Targets) (fun x => sx_valid_1 x)) fun rv243 hg244 => ?_
      have hc245 := fn104 ((rv227 ++ s.Targets)) a233 k234 105 [] (fun x => sx_valid_1 x) [pv (gp 0) [vl kwLA kwLK kwL], S kwLA kwLK kwL] ca105 (fun x hx hq0 => FT_pall (A1 := _) (fn105 x  kwLA kwLK hq0 _ rfl)) rv243 hg244
      refine Oc [1, 0] ca104 hc245 ?_
      rintro - -
      refine Oq Vnot (Oq Vpt (Oq Va (KS ?_)))
      have hq := q4 hrr (!rv243) (by simp only [sx_valid, h8, h43, h72, h98, h132, h164, h192, h222, h224, h237, h239, h241, hg228, hg244, cs4]); subst hq
      exact Kr () rfl (.tmp rfl .nil) [] trivial
     intro h241
     have g246 := ne_of_beq_false h241
     refine Osk (Osk (Osk (Oq Vpf (Oq Va (KS ?_)))))
     have hq := q4 hrr false (by simp only [sx_valid, h8, h43, h72, h98, h132, h164, h192, h222, h224, h237, h239, h241, hg228, cs4]); subst hq
     exact Kr () rfl (.tmp rfl .nil) [] trivial
    intro h239
    have g247 := ne_of_beq_false h239
    refine Osk (Osk (Oq Vpf (Oq Vm (Osk (Osk (Osk (Osk (Osk (Oq Vpf ?_)))))))))
    refine Oq Vm (Osk (Osk (Osk (Oq Vpf (Oq Va (KS ?_))))))
    have hq := q4 hrr false (by simp only [sx_valid, h8, h43, h72, h98, h132, h164, h192, h222, h224, h237, h239, hg228, cs4]); subst hq
    exact Kr () rfl (.tmp rfl .nil) [] trivial
   intro h237
   have g248 := ne_of_beq_false h237
   refine Osk (Osk (Osk (Osk (Osk (Oq Vpf (Oq Vm (Osk (Osk (Oq Vpf ?_)))))))))
   refine Oq Vm (Osk (Osk (Osk (Osk (Osk (Oq Vpf (Oq Vm (Osk (Osk ?_)))))))))
   refine Osk (Oq Vpf (Oq Va (KS ?_)))
   have hq := q4 hrr false (by simp only [sx_valid, h8, h43, h72, h98, h132, h164, h192, h222, h224, h237, hg228, cs4]); subst hq
   exact Kr () rfl (.tmp rfl .nil) [] trivial
  intro h224
  exact absurd h224 (by first | (simp [h164]; done) | (simp only [bne, h164]; decide) | (simp only [bne, h164, Bool.not_true, Bool.not_false]; decide) | (exfalso; omega) | (intro hq; simp only [bne, hq, Bool.not_false, Bool.not_true, reduceCtorEq] at h164))
 intro h222
 have g249 := ne_of_beq_false h222
 refine KS ?_
 refine Oq Veql (Oq Va (KS ?_))
 refine Kc ?_ ?_
 ·intro h250
  have g251 := eq_of_beq h250
  refine Ke ?_
  refine KS ?_
  refine Oq Va (KS ?_)
  refine Ke ?_
  refine KS ?_
  refine JK_drawK [0, 1, 3, 0, 8, 31, 63] fmix ?_
  refine Dv [0] (Vfa fo37_2 0) (Dv [0] (VldF sh35 0) ?_)
  refine letv (sc_Clone_string s.Uses) fun rv253 hg254 => ?_
  refine Dx [1] [] [2, 0, 1] (fun G => (G.g 2 0)) [fun G => SP.fact ((rv253.length = s.Uses.length)), fun G => os (G.g 2 0) rv253] (fun G => xC [0] ca103 (fn103 s.Uses sa2 sk2 rv253 hg254)) (Dv [0] (Vfa fo37_3 0) (Dv [0] (VldF sh35 0) ?_))
  have hn256 := la rv253 s.Targets
  refine Dx [2, 5, 6] [6] [1, 2, 0] (fun G => (G.g 5 0)) [fun G => os (G.g 5 0) (rv253 ++ s.Targets)] (fun G => by refine xf 1 rfl ?_; rintro he257; exact xA (Ap [2, 0] sl35 sl35 sz35)) (Dg [] (fun G => (G.g 5 0)) (fun G => Va) ?_)
  refine Dn ⟨by kernel_rfl, fun G => ?_⟩
  refine Jw2 [(1, p7), (3, vi 0), (5, vi 0), (4, vi 0), (6, (G.g 5 0))] [0, 1, 2, 3, 4] [SP.fact ((rv253.length = s.Uses.length)), os (G.g 5 0) (rv253 ++ s.Targets)] ?_
  generalize G.g 5 0 = c255
  refine Jf 5 rfl ?_; rintro he258
  refine Jk [0, 1, 2, 3, 4, 6] ?_
  refine Jo 5 ?_; rintro a259 k260 rfl
  refine Fb 16 5 fun _ => ?_
  refine FoS 5 fun ho262 => ?_
  refine KS ?_
  refine Oq Vm (Oq Veql (KS ?_))
  refine Kf (KS ?_)
  refine Oq Vm (Oq Veql (Oq Vm (Oq (Vfa fo37_1 0) (Oq (VldF sh9 0) (Oq (VeqS (l := s.Def) (m := (Str.mk []))) (Oq Vpf (Oq Vm ?_)))))))
  refine Js 57 ?_ ?_
  ·intro h263
   have g264 := eq_of_beq h263
   refine Oq (Vfa fo37_2 0) (Oq (VldF sh35 0) (Oq (Vlen sl35) (Oq Vm (Oq Veql (Oq Vpt (Oq Vm ?_))))))
   refine Js 64 ?_ ?_
   ·intro h265
    have g266 := eq_of_beq h265
    refine Oq Vm (Oq Vleq (Oq Vpt (Oq Vm (Oq (Vfa fo37_3 0) (Oq (VldF sh35 0) (Oq (Vlen sl35) (Oq Vm (Oq Veql (Oq Vpt ?_)))))))))
    refine Oq Vm ?_
    refine Js 75 ?_ ?_
    ·intro h267
     have g268 := eq_of_beq h267
     refine Oq Vm ?_
     refine Jl [5] (Ent.freeze _ _) ?_
     refine JJ_ent (Ent.pall [4, 5] rfl rfl) ?_
     refine letv (sc_ContainsFunc_string (rv253 ++ s.Targets) (fun x => sx_valid_1 x)) fun rv269 hg270 => ?_
     have hc271 := fn104 ((rv253 ++ s.Targets)) a259 k260 105 [] (fun x => sx_valid_1 x) [pv (gp 0) [vl kwLA kwLK kwL], S kwLA kwLK kwL] ca105 (fun x hx hq0 => FT_pall (A1 := _) (fn105 x  kwLA kwLK hq0 _ rfl)) rv269 hg270
     refine Oc [1, 0] ca104 hc271 ?_
     rintro - -
     refine Oq Vnot (Oq Vpt (Oq Va (KS ?_)))
     have hq := q4 hrr (!rv269) (by simp only [sx_valid, h8, h43, h72, h98, h132, h164, h192, h222, h250, h263, h265, h267, hg254, hg270, cs4]); subst hq
     exact Kr () rfl (.tmp rfl .nil) [] trivial
    intro h267
    have g272 := ne_of_beq_false h267
    refine Osk (Osk (Osk (Oq Vpf (Oq Va (KS ?_)))))
    have hq := q4 hrr false (by simp only [sx_valid, h8, h43, h72, h98, h132, h164, h192, h222, h250, h263, h265, h267, hg254, cs4]); subst hq
    exact Kr () rfl (.tmp rfl .nil) [] trivial
   intro h265
   have g273 := ne_of_beq_false h265
   refine Osk (Osk (Oq Vpf (Oq Vm (Osk (Osk (Osk (Osk (Osk (Oq Vpf ?_)))))))))
   refine Oq Vm (Osk (Osk (Osk (Oq Vpf (Oq Va (KS ?_))))))
   have hq := q4 hrr false (by simp only [sx_valid, h8, h43, h72, h98, h132, h164, h192, h222, h250, h263, h265, hg254, cs4]); subst hq
   exact Kr () rfl (.tmp rfl .nil) [] trivial
  intro h263
  have g274 := ne_of_beq_false h263
  refine Osk (Osk (Osk (Osk (Osk (Oq Vpf (Oq Vm (Osk (Osk (Oq Vpf ?_)))))))))
  refine Oq Vm (Osk (Osk (Osk (Osk (Osk (Oq Vpf (Oq Vm (Osk (Osk ?_)))))))))
  refine Osk (Oq Vpf (Oq Va (KS ?_)))
  have hq := q4 hrr false (by simp only [sx_valid, h8, h43, h72, h98, h132, h164, h192, h222, h250, h263, hg254, cs4]); subst hq
  exact Kr () rfl (.tmp rfl .nil) [] trivial
 intro h250
 have g275 := ne_of_beq_false h250
 refine KS ?_
 refine Ke ?_
 refine KS ?_
 refine Oq Va (KS ?_)
 have hq := q4 hrr false (by simp only [sx_valid, h8, h43, h72, h98, h132, h164, h192, h222, h250, cs4]); subst hq
 exact Kr () rfl (.tmp rfl .nil) [] trivial
theorem fn70 (s : GStmt) (sa2 : Option Addr) (sk2 : Nat) (sa3 : Option Addr) (sk3 : Nat) (kwLA : Option Addr) (kwLK : Nat) (hs_0 : i64ok s.Op) (hs_1 : s.Def.b.length ≤ 140737488355328) (hsm : SSm s = true) (rr : Bool) (hrr : sx_Valid_1 s = rr) : FT Tryz.prog 70 #[.agg #[vi s.Op, .string (bs s.Def), vl sa2 sk2 s.Uses, vl sa3 sk3 s.Targets]] [S sa2 sk2 s.Uses, S sa3 sk3 s.Targets, pv (gp 0) [vl kwLA kwLK kwL], S kwLA kwLK kwL] (fun g : Unit => True) (fun g => vb rr) (fun g => []) := by
 refine FTi Tryz.func70 fun w0 M0 F0 => ?_
 unfold i64ok at hs_0
 refine Fb 16 0 fun _ => ?_
 refine FoS 0 fun ho2 => ?_
 refine Fb 16 1 fun _ => ?_
 refine FoS 1 fun ho4 => ?_
 refine Fb 16 3 fun _ => ?_
 refine FoS 3 fun ho6 => ?_
 refine KS ?_
 refine Oa (Ab [vi s.Op, .string (bs s.Def), vl sa2 sk2 s.Uses, vl sa3 sk3 s.Targets]) fun p7 => Oq Va (KS ?_)
 refine Oq (VldA sh37 0) ?_
 refine letv (sx_valid s) fun rv8 hg9 => ?_
 have hc10 := fn71 s sa2 sk2 sa3 sk3 kwLA kwLK pre pre pre rv8 hg9
 refine Oc [1, 2, 3, 4] ca71 hc10 ?_
 rintro - -
 refine Oq Vnot (Oq Va (KS ?_))
 have hq := q4 hrr (!rv8) (by simp only [sx_Valid_1, hg9, cs4]); subst hq
 exact Kr () rfl (.tmp rfl .nil) [] trivial
theorem fn39 (p : GProgram) (pa0 : Option Addr) (pk0 : Nat) (kwLA : Option Addr) (kwLK : Nat) (hps : PSm p = true) (rr : Bool) (hrr : sx_Valid p = rr) : FT Tryz.prog 39 #[.agg #[vl pa0 pk0 p.Funcs]] [S pa0 pk0 p.Funcs, pv (gp 0) [vl kwLA kwLK kwL], S kwLA kwLK kwL] (fun g : Unit => True) (fun g => vb rr) (fun g => []) := by
 refine FTi Tryz.func39 fun w0 M0 F0 => Fb 40 0 fun _ => Fb 16 2 fun _ => ?_
 refine FoS 2 fun ho3 => ?_
 refine KS ?_
 refine Oa (Ab [vl pa0 pk0 p.Funcs]) fun p4 => Oq Va (KS ?_)
 refine Oq (Vfa fo25_0 0) (Oq (VldF sh23 0) (Oq (Vlen sl23) (Oq Vlss (Oq Vm ?_))))
 refine Js 11 ?_ ?_
 ·intro h5
  have g6 := dt h5
  refine Osk (Osk (Osk (Osk (Oq Vpt (KS ?_)))))
  refine Kt (KS ?_)
  refine Oq Va (KS ?_)
  have hq := q4 hrr false (by simp only [sx_Valid, h5, cs4]); subst hq
  exact Kr () rfl (.tmp rfl .nil) [] trivial
 intro h5
 have g7 := df h5
 refine Oq (Vfa fo25_0 0) (Oq (VldF sh23 0) (Oq (Vlen sl23) (Oq Vgtr (Oq Vpf (KS ?_)))))
 refine Kc ?_ ?_
 ·intro h8
  have g9 := dt h8
  have hfm := PSm_f hps (i := 8) aM1
  refine KS ?_
  refine Oq Va (KS ?_)
  have hq := q4 hrr false (by simp only [sx_Valid, h5, h8, cs4]); subst hq
  exact Kr () rfl (.tmp rfl .nil) [] trivial
 intro h8
 have g10 := df h8
 refine KS ?_
 refine Oq (Vfa fo25_0 0) (Oq (VldF sh23 0) (Oq (Vlen sl23) (Oq Vm (KS ?_))))
 refine Kl (γ := Nat × Int) (fun (r11, v20_12) => ⟨[(18, vl pa0 pk0 p.Funcs), (19, vi (p.Funcs.length : Int)), (20, vi v20_12)], [S pa0 pk0 p.Funcs, pv (gp 0) [vl kwLA kwLK kwL], S kwLA kwLK kwL], sx_Valid_L0 p r11 v20_12 = sx_Valid_L0 p (((p.Funcs.length : Int) - 0).toNat) 0 ∧ r11 = ((p.Funcs.length : Int) - v20_12).toNat ∧ (0 : Int) ≤ v20_12 ∧ v20_12 ≤ (p.Funcs.length : Int) ∧ (-9223372036854775808 ≤ v20_12 ∧ v20_12 ≤ 9223372036854775807), r11⟩) (((p.Funcs.length : Int) - 0).toNat, 0) [1, 2, 3] ⟨rfl, rfl, aM1, aM1, aM1⟩ ?_
 rintro ⟨r11, v20_12⟩ ⟨hM13, hr14, hi15, hi16, hk17⟩
 refine JJ_nx fun _ _ hL hA => ?_; dsimp only at hL hA; subst hL hA
 refine Fb 40 0 fun _ => Fb 16 2 fun _ => ?_
 refine FoS 2 fun ho20 => ?_
 refine KS ?_
 refine Oq Vlss (KS ?_)
 refine Kc ?_ ?_
 ·intro h21
  have g22 := dt h21
  have hfm := PSm_f hps (i := v20_12) aM1
  obtain ⟨r23, rfl⟩ := scc (n := r11) aM1
  refine KS ?_
  refine Oq (Vi sl23 0) ?_
  refine JJ_peek_GFunc v20_12.toNat 0 rfl rng fun a24 k25 hb26 => ?_
  refine Fb 40 1 fun _ => ?_
  refine Oq (VldA sh31 0) (Oa (Al ze31 [.string (bs (Str.mk [])), .slice none 0 0]) fun p28 => Ost (Scl [0] sh31 [.string (bs ((p.Funcs.getD v20_12.toNat default).Name)), vl a24 k25 ((p.Funcs.getD v20_12.toNat default).Blocks)]) (KS ?_))
  refine Oq (Vfa fo31_0 0) (Oq (VldF sh9 0) ?_)
  refine letv (lx_IsName ((p.Funcs.getD v20_12.toNat default).Name)) fun rv29 hg30 => ?_
  have hc31 := fn68 ((p.Funcs.getD v20_12.toNat default).Name) kwLA kwLK pre rv29 hg30
  refine Oc [4, 5] ca68 hc31 ?_
  rintro - -
  refine Oq Vnot (Oq Vm ?_)
  refine Js 28 ?_ ?_
  ·intro h32
   have h34 := not_true h32
   refine Osk (Osk (Osk (Osk (Oq Vpt (Oq Vm (Osk (Osk (Osk (Osk ?_)))))))))
   refine Oq Vpt (KS ?_)
   refine Kt (KS ?_)
   refine Oq Va (KS ?_)
   have hR36 := q2 hM13 (.ret false) (by simp only [sx_Valid_L0, h21, h32, h34, hg30, cs4])
   have hq := q4 hrr false (by simp only [sx_Valid, h5, h8, h21, h32, h34, hg30, hR36, cs4]); subst hq
   exact Kr () rfl (.tmp rfl .nil) [] trivial
  intro h32
  have h38 := not_false h32
  refine Oq (Vfa fo31_1 0) (Oq (VldF sh29 0) (Oq (Vlen sl29) (Oq Vlss (Oq Vpf (Oq Vm ?_)))))
  refine Js 34 ?_ ?_
  ·intro h40
   have g41 := dt h40
   refine Osk (Osk (Osk (Osk (Oq Vpt (KS ?_)))))
   refine Kt (KS ?_)
   refine Oq Va (KS ?_)
   have hR42 := q2 hM13 (.ret false) (by simp only [sx_Valid_L0, h21, h32, h38, h40, hg30, cs4])
   have hq := q4 hrr false (by simp only [sx_Valid, h5, h8, h21, h32, h38, h40, hg30, hR42, cs4]); subst hq
   exact Kr () rfl (.tmp rfl .nil) [] trivial
  intro h40
  have g43 := df h40
  refine Oq (Vfa fo31_1 0) (Oq (VldF sh29 0) (Oq (Vlen sl29) (Oq Vgtr (Oq Vpf (KS ?_)))))
  refine Kc ?_ ?_
  ·intro h44
   have g45 := dt h44
   have hbm := FSm_b hfm (i := 16) aM1
   refine KS ?_
   refine Oq Va (KS ?_)
   have hR46 := q2 hM13 (.ret false) (by simp only [sx_Valid_L0, h21, h32, h38, h40, h44, hg30, cs4])
   have hq := q4 hrr false (by simp only [sx_Valid, h5, h8, h21, h32, h38, h40, h44, hg30, hR46, cs4]); subst hq
   exact Kr () rfl (.tmp rfl .nil) [] trivial
  intro h44
  have g47 := df h44
  refine KS ?_
  refine Oq (Vfa fo31_1 0) (Oq (VldF sh29 0) (Oq (Vlen sl29) (Oq Vm (KS ?_))))
  refine Kl (γ := Nat × Int) (fun (r48, v43_49) => ⟨[(18, vl pa0 pk0 p.Funcs), (19, vi (p.Funcs.length : Int)), (20, vi v20_12), (41, vl a24 k25 ((p.Funcs.getD v20_12.toNat default).Blocks)), (42, vi (((p.Funcs.getD v20_12.toNat default).Blocks).length : Int)), (43, vi v43_49)], [S a24 k25 ((p.Funcs.getD v20_12.toNat default).Blocks), S pa0 pk0 p.Funcs, pv (gp 0) [vl kwLA kwLK kwL], S kwLA kwLK kwL], sx_Valid_L1 ((p.Funcs.getD v20_12.toNat default).Blocks) r48 v43_49 = sx_Valid_L1 ((p.Funcs.getD v20_12.toNat default).Blocks) ((((((p.Funcs.getD v20_12.toNat default).Blocks).length : Int) : Int) - 0).toNat) 0 ∧ r48 = (((((p.Funcs.getD v20_12.toNat default).Blocks).length : Int) : Int) - v43_49).toNat ∧ (0 : Int) ≤ v43_49 ∧ (v43_49 ≤ (((p.Funcs.getD v20_12.toNat default).Blocks).length : Int) ∨ v43_49 = 0) ∧ (-9223372036854775808 ≤ v43_49 ∧ v43_49 ≤ 9223372036854775807), r48⟩) ((((((p.Funcs.getD v20_12.toNat default).Blocks).length : Int) : Int) - 0).toNat, 0) [2, 3, 4, 5] ⟨rfl, rfl, aM1, (.inr rfl), aM1⟩ ?_
  rintro ⟨r48, v43_49⟩ ⟨hM50, hr51, hi52, hi53, hk54⟩
  refine JJ_nx fun _ _ hL hA => ?_; dsimp only at hL hA; subst hL hA
  refine Fb 40 0 fun _ => Fb 40 1 fun _ => Fb 16 3 fun _ => ?_
  refine FoS 3 fun ho58 => ?_
  refine KS ?_
  refine Oq Vlss (KS ?_)
  refine Kc ?_ ?_
  ·intro h59
   have g60 := dt h59
   have hbm := FSm_b hfm (i := v43_49) aM1
   obtain ⟨r61, rfl⟩ := scc (n := r48) aM1
   refine KS ?_
   refine Oq (Vi sl29 0) ?_
   refine JJ_peek_GBlock v43_49.toNat 0 rfl rng fun a62 k63 hb64 => ?_
   refine Fb 72 1 fun _ => ?_
   refine Oq (VldA sh34 0) (Oa (Al ze34 [.string (bs (Str.mk [])), .slice none 0 0]) fun p66 => Ost (Scl [0] sh34 [.string (bs ((((p.Funcs.getD v20_12.toNat default).Blocks).getD v43_49.toNat default).Name)), .slice a62 (((((p.Funcs.getD v20_12.toNat default).Blocks).getD v43_49.toNat default).Stmts).length) k63]) (KS ?_))
   refine Oq (Vfa fo34_0 0) (Oq (VldF sh9 0) ?_)
   refine letv (lx_IsName ((((p.Funcs.getD v20_12.toNat default).Blocks).getD v43_49.toNat default).Name)) fun rv67 hg68 => ?_
   have hc69 := fn68 ((((p.Funcs.getD v20_12.toNat default).Blocks).getD v43_49.toNat default).Name) kwLA kwLK pre rv67 hg68
   refine Oc [5, 6] ca68 hc69 ?_
   rintro - -
   refine Oq Vnot (Oq Vm ?_)
   refine Js 51 ?_ ?_
   ·intro h70
    have h72 := not_true h70
    refine Osk (Osk (Osk (Osk (Oq Vpt (Oq Vm (Osk (Osk (Osk (Osk ?_)))))))))
    refine Oq Vpt (Oq Vm (Osk (Osk (Osk (Oq Vpt (KS ?_))))))
    refine Kt (KS ?_)
    refine Oq Va (KS ?_)
    have hR74 := q2 hM50 (.ret false) (by simp only [sx_Valid_L1, h59, h70, h72, hg68, cs4])
    have hR75 := q2 hM13 (.ret false) (by simp only [sx_Valid_L0, h21, h32, h38, h40, h44, h59, h70, h72, hg30, hg68, hR74, cs4])
    have hq := q4 hrr false (by simp only [sx_Valid, h5, h8, h21, h32, h38, h40, h44, h59, h70, h72, hg30, hg68, hR74, hR75, cs4]); subst hq
    exact Kr () rfl (.tmp rfl .nil) [] trivial
   intro h70
   have h77 := not_false h70
   refine Oq (Vfa fo34_1 0) (Oq (VldF sh32 0) (Oq (Vlen sl32) (Oq Vlss (Oq Vpf (Oq Vm ?_)))))
   refine Js 57 ?_ ?_
   ·intro h79
    have g80 := dt h79
    refine Osk (Osk (Osk (Osk (Oq Vpt (Oq Vm (Osk (Osk (Osk (Oq Vpt ?_)))))))))
    refine KS ?_
    refine Kt (KS ?_)
    refine Oq Va (KS ?_)
    have hR81 := q2 hM50 (.ret false) (by simp only [sx_Valid_L1, h59, h70, h77, h79, hg68, cs4])
    have hR82 := q2 hM13 (.ret false) (by simp only [sx_Valid_L0, h21, h32, h38, h40, h44, h59, h70, h77, h79, hg30, hg68, hR81, cs4])
    have hq := q4 hrr false (by simp only [sx_Valid, h5, h8, h21, h32, h38, h40, h44, h59, h70, h77, h79, hg30, hg68, hR81, hR82, cs4]); subst hq
    exact Kr () rfl (.tmp rfl .nil) [] trivial
   intro h79
   have g83 := df h79
   refine Oq (Vfa fo34_1 0) (Oq (VldF sh32 0) (Oq (Vlen sl32) (Oq Vgtr (Oq Vpf (Oq Vm ?_)))))
   refine Js 63 ?_ ?_
   ·intro h84
    have g85 := dt h84
    refine Osk (Osk (Osk (Oq Vpt (KS ?_))))
    refine Kt (KS ?_)
    refine Oq Va (KS ?_)
    have hR86 := q2 hM50 (.ret false) (by simp only [sx_Valid_L1, h59, h70, h77, h79, h84, hg68, cs4])
    have hR87 := q2 hM13 (.ret false) (by simp only [sx_Valid_L0, h21, h32, h38, h40, h44, h59, h70, h77, h79, h84, hg30, hg68, hR86, cs4])
    have hq := q4 hrr false (by simp only [sx_Valid, h5, h8, h21, h32, h38, h40, h44, h59, h70, h77, h79, h84, hg30, hg68, hR86, hR87, cs4]); subst hq
    exact Kr () rfl (.tmp rfl .nil) [] trivial
   intro h84
   have g88 := df h84
   refine Oq (Vfa fo34_1 0) (Oq (VldF sh32 0) ?_)
   refine JJ_ent (Ent.pall [5, 6] rfl rfl) ?_
   refine letv (sc_ContainsFunc_Stmt ((((p.Funcs.getD v20_12.toNat default).Blocks).getD v43_49.toNat default).Stmts) (fun x => sx_Valid_1 x)) fun rv89 hg90 => ?_
   have hc91 := fn69 ((((p.Funcs.getD v20_12.toNat default).Blocks).getD v43_49.toNat default).Stmts) a62 k63 70 [] (fun x => sx_Valid_1 x) [pv (gp 0) [vl kwLA kwLK kwL], S kwLA kwLK kwL] ca70 (fun x hx a2 k2 a3 k3 hq0 hq1 => FT_pall (A1 := _) (fn70 x a2 k2 a3 k3 kwLA kwLK hq0 hq1 (BSm_m hbm hx) _ rfl)) rv89 hg90
   refine Oc [3, 0] ca69 hc91 ?_
   rintro - -
   refine Oq Vpf (KS ?_)
   refine Kc ?_ ?_
   ·intro h92
    refine KS ?_
    refine Oq Va (KS ?_)
    have hR94 := q2 hM50 (.ret false) (by simp only [sx_Valid_L1, h59, h70, h77, h79, h84, h92, hg68, hg90, cs4])
    have hR95 := q2 hM13 (.ret false) (by simp only [sx_Valid_L0, h21, h32, h38, h40, h44, h59, h70, h77, h79, h84, h92, hg30, hg68, hg90, hR94, cs4])
    have hq := q4 hrr false (by simp only [sx_Valid, h5, h8, h21, h32, h38, h40, h44, h59, h70, h77, h79, h84, h92, hg30, hg68, hg90, hR94, hR95, cs4]); subst hq
    exact Kr () rfl (.tmp rfl .nil) [] trivial
   intro h92
   refine KS ?_
   refine Oq Vadd (Oq Vm (KS ?_))
   exact Kg (r61, (v43_49 + 1)) [4, 5, 6, 7] ⟨(q3 hM50 (by simp only [sx_Valid_L1, h59, h70, h77, h79, h84, h92, hg68, hg90, cs4])), aM1, aM1, aM1, aM1⟩
  intro h59
  have g97 := df h59
  obtain rfl : r48 = 0 := by omega
  refine Ke ?_
  have hR98 := q2 hM50 (.brk ()) (by simp only [sx_Valid_L1, h59, cs4])
  refine KS ?_
  refine Oq Vadd (Oq Vm (KS ?_))
  exact Kg (r23, (v20_12 + 1)) [1, 2, 3] ⟨(q3 hM13 (by simp only [sx_Valid_L0, h21, h32, h38, h40, h44, h59, hg30, hR98, cs4])), aM1, aM1, aM1, aM1⟩
 intro h21
 have g99 := df h21
 obtain rfl : r11 = 0 := by omega
 refine Ke ?_
 have hR100 := q2 hM13 (.brk ()) (by simp only [sx_Valid_L0, h21, cs4])
 refine KS ?_
 refine Oq Va (KS ?_)
 have hq := q4 hrr true (by simp only [sx_Valid, h5, h8, h21, hR100, cs4]); subst hq
 exact Kr () rfl (.tmp rfl .nil) [] trivial
theorem fn44 (n : Str) (cap0P : Value) (cap0 : List (Str × Bool)) (cap0m0 : Value) (cap1P : Value) (cap1 : List Str) (cap1a0 : Option Addr) (cap1k0 : Nat) (hn_0 : n.b.length ≤ 140737488355328) (ho : cap1.length ≤ 1000000) (rr : (List (Str × Bool)) × List Str) (hrr : vd_Variables_1 n cap0 cap1 = rr) : FT Tryz.prog 44 #[.string (bs n), cap0P, cap1P] [Cl cap0P [cap0m0], Mp vstr vb okStr cap0m0 cap0, Cl cap1P [vl cap1a0 cap1k0 cap1], O cap1a0 cap1k0 cap1] (fun g : Value => (rr.2.length ≤ cap1.length + 1)) (fun g => .tuple #[]) (fun g => [Cl cap0P [cap0m0], Mp vstr vb okStr cap0m0 rr.1, Cl cap1P [g], os g rr.2]) := by
 refine FTi Tryz.func44 fun w0 M0 F0 => Fb 16 3 fun _ => ?_
 refine FoS 3 fun ho2 => ?_
 refine KS ?_
 refine Oq Vm (Oq (VneS (l := n) (m := (Str.mk []))) (Oq Vm ?_))
 refine Js 6 ?_ ?_
 ·intro h3
  have g4 := ne_of_bne h3
  refine Oq (Vld sh84 0) (Oq Vm (Oq (Vmk1 1 false mt84 (kStr un9) ze4 (ek := vstr) (ev := vb) (ok := okStr) (key := n) pre) (Oq Vnot (Oq Vpt (KS ?_)))))
  refine Kc ?_ ?_
  ·intro h5
   have h7 := not_true h5
   refine KS ?_
   refine Oq (Vld sh84 0) (Oq Vm (Ost (Smp [1] mt84 (kStr un9) true (ek := vstr) (ev := vb) (ok := okStr) (key := n) pre) (KS ?_)))
   refine Oq (Vld sh35 2) (Oq Vm (Oa (AsV sl35 sz35 [.string (bs n)] [.string (bs n)]) fun c9 => ?_))
   refine Jo 0 ?_; rintro a10 k11 rfl
   refine Jl [0] (Ent.cr1 (α := Str) (A := []) _ n _ aB1 (fun _ => ⟨rfl, aS1⟩)) ?_
   refine Oa (ApO [4, 0] sl35 sl35 sz35) fun c12 => ?_
   refine Jo 0 ?_; rintro a13 k14 rfl
   refine Fb 16 0 fun _ => ?_
   refine FoS 0 fun ho16 => ?_
   have hn17 := la cap1 ([n] : List Str)
   refine Ost (Scl [3] sh35 [vl a13 k14 (cap1 ++ [n])]) (KS ?_)
   have hq := q4 hrr ((mset cap0 n true), (cap1 ++ [n])) (by simp only [vd_Variables_1, h3, h5, h7, cs4]); subst hq
   exact Kz (vl a13 k14 (cap1 ++ [n])) rfl .nil [3, 2, 0, 0] en
  intro h5
  have h19 := not_false h5
  refine KS ?_
  have hq := q4 hrr (cap0, cap1) (by simp only [vd_Variables_1, h3, h5, h19, cs4]); subst hq
  exact Kz (vl cap1a0 cap1k0 cap1) rfl .nil [0, 0, 0, 0] en
 intro h3
 have g21 := eq_of_bne_false h3
 refine Osk (Osk (Osk (Osk (Oq Vpf (KS ?_)))))
 refine Kf (KS ?_)
 have hq := q4 hrr (cap0, cap1) (by simp only [vd_Variables_1, h3, cs4]); subst hq
 exact Kz (vl cap1a0 cap1k0 cap1) rfl .nil [0, 0, 0, 0] en
theorem fn46m0 (s : GStmt) (sa2 : Option Addr) (sk2 : Nat) (sa3 : Option Addr) (sk3 : Nat) (st0P : Value) (st0 : List (Str × Bool)) (st0m0 : Value) (st1P : Value) (st1 : List Str) (st1a0 : Option Addr) (st1k0 : Nat) (cap0P : Value) (hs_0 : i64ok s.Op) (hs_1 : s.Def.b.length ≤ 140737488355328) (ho : st1.length ≤ 900000 ∧ s.Uses.length ≤ 4) (rr : (List (Str × Bool)) × List Str) (hrr : vd_Variables_2_Variables_1 s st0 st1 = rr) : FT Tryz.prog 46 #[.agg #[vi s.Op, .string (bs s.Def), vl sa2 sk2 s.Uses, vl sa3 sk3 s.Targets], cap0P] [S sa2 sk2 s.Uses, S sa3 sk3 s.Targets, Cl st0P [st0m0], Mp vstr vb okStr st0m0 st0, Cl st1P [vl st1a0 st1k0 st1], O st1a0 st1k0 st1, pv cap0P [.func (.func 44) #[] #[st0P, st1P]]] (fun g : Value => (rr.2.length ≤ st1.length + 5)) (fun g => .tuple #[]) (fun g => [Cl st0P [st0m0], Mp vstr vb okStr st0m0 rr.1, Cl st1P [g], os g rr.2]) := by
 refine FTi Tryz.func46 fun w0 M0 F0 => ?_
 unfold i64ok at hs_0
 refine Fb 16 0 fun _ => ?_
 refine FoS 0 fun ho2 => ?_
 refine Fb 16 1 fun _ => ?_
 refine FoS 1 fun ho4 => ?_
 refine Fb 16 5 fun _ => ?_
 refine FoS 5 fun ho6 => ?_
 refine KS ?_
 refine Oa (Ab [vi s.Op, .string (bs s.Def), vl sa2 sk2 s.Uses, vl sa3 sk3 s.Targets]) fun p7 => KS ?_
 refine Oq (Vld sh91 7) (Oq (Vfa fo37_1 0) (Oq (VldF sh9 0) ?_))
 refine letv (vd_Variables_1 s.Def st0 st1) fun rv9 hg10 => ?_
 have hc11 := fn44 s.Def st0P st0 st0m0 st1P st1 st1a0 st1k0 pre pre rv9 hg10
 refine JO_call [3, 3, 3, 3] rfl rfl rfl (OpC.clo (asv := [(.string (bs s.Def) : Value), (st0P : Value), (st1P : Value)]) rfl rfl ca44 rfl (by simp)) hc11 rfl ?_
 rintro c8 he12
 refine Jo 3 ?_; rintro a13 k14 rfl
 refine Fb 16 3 fun _ => ?_
 refine FoS 3 fun ho16 => ?_
 refine KS ?_
 refine Oq (Vfa fo37_2 4) (Oq (VldF sh35 4) (Oq (Vlen sl35) (Oq Vm (KS ?_))))
 refine Kl (γ := Nat × (List (Str × Bool)) × List Str × Int × Option Addr × Nat) (fun (r17, st00_18, st10_19, v12_20, a21, k22) => ⟨[(1, cap0P), (10, vl sa2 sk2 s.Uses), (11, vi (s.Uses.length : Int)), (12, vi v12_20)], [O a21 k22 st10_19, Cl st0P [st0m0], Mp vstr vb okStr st0m0 st00_18, Cl st1P [vl a21 k22 st10_19], S sa2 sk2 s.Uses, pv cap0P [.func (.func 44) #[] #[st0P, st1P]]], vd_Variables_2_Variables_1_L0 s r17 st00_18 st10_19 v12_20 = vd_Variables_2_Variables_1_L0 s (((s.Uses.length : Int) - 0).toNat) rv9.1 rv9.2 0 ∧ r17 = ((s.Uses.length : Int) - v12_20).toNat ∧ (0 : Int) ≤ v12_20 ∧ v12_20 ≤ (s.Uses.length : Int) ∧ (-9223372036854775808 ≤ v12_20 ∧ v12_20 ≤ 9223372036854775807) ∧ ((st10_19.length : Int) ≤ (st1.length : Int) + 1 + v12_20), r17⟩) (((s.Uses.length : Int) - 0).toNat, rv9.1, rv9.2, 0, a13, k14) [3, 0, 0, 0, 1, 3] ⟨rfl, rfl, aM1, aM1, aM1, iv0⟩ ?_
 rintro ⟨r17, st00_18, st10_19, v12_20, a21, k22⟩ ⟨hM23, hr24, hi25, hi26, hk27, hv28⟩
 refine JJ_nx fun _ _ hL hA => ?_; dsimp only at hL hA; subst hL hA
 refine Fb 16 0 fun _ => ?_
 refine FoS 0 fun ho30 => ?_
 refine Fb 16 4 fun _ => ?_
 refine FoS 4 fun ho32 => ?_
 refine KS ?_
 refine Oq Vlss (KS ?_)
 refine Kc ?_ ?_
 ·intro h33
  have g34 := dt h33
  obtain ⟨r35, rfl⟩ := scc (n := r17) aM1
  refine KS ?_
  refine Oq (Vi sl35 4) ?_
  have hb36 := okS (i := v12_20.toNat) ho32 rng
  refine Oq (VldS sh9 4) (Oq Va (KS ?_))
  refine Oq (Vld sh91 5) (Oq Vm ?_)
  refine letv (vd_Variables_1 (s.Uses.getD v12_20.toNat default) st00_18 st10_19) fun rv38 hg39 => ?_
  have hc40 := fn44 ((s.Uses.getD v12_20.toNat default)) st0P st00_18 st0m0 st1P st10_19 a21 k22 pre pre rv38 hg39
  refine JO_call [1, 1, 1, 0] rfl rfl rfl (OpC.clo (asv := [(.string (bs (s.Uses.getD v12_20.toNat default)) : Value), (st0P : Value), (st1P : Value)]) rfl rfl ca44 rfl (by simp)) hc40 rfl ?_
  rintro c37 he41
  refine Jo 3 ?_; rintro a42 k43 rfl
  refine Fb 16 3 fun _ => ?_
  refine FoS 3 fun ho45 => ?_
  refine KS ?_
  refine Oq Vadd (Oq Vm (KS ?_))
  exact Kg (r35, rv38.1, rv38.2, (v12_20 + 1), a42, k43) [3, 0, 0, 0, 0, 1] ⟨(q3 hM23 (by simp only [vd_Variables_2_Variables_1_L0, h33, hg39, cs4])), aM1, aM1, aM1, aM1, iv1⟩
 intro h33
 have g46 := df h33
 obtain rfl : r17 = 0 := by omega
 refine Ke ?_
 have hR47 := q2 hM23 (st00_18, st10_19) (by simp only [vd_Variables_2_Variables_1_L0, h33, cs4])
 have hq := q4 hrr (st00_18, st10_19) (by simp only [vd_Variables_2_Variables_1, h33, hg10, hR47, cs4]); subst hq
 exact Kz (vl a21 k22 st10_19) rfl .nil [1, 1, 1, 0] en
theorem fn45m1 (p : GProgram) (pa0 : Option Addr) (pk0 : Nat) (st1P : Value) (st1 : List (Str × Bool)) (st1m0 : Value) (st2P : Value) (st2 : List Str) (st2a0 : Option Addr) (st2k0 : Nat) (st0P : Value) (kwLA : Option Addr) (kwLK : Nat) (hps : PSm p = true) (ho : st2.length = 0) (rr : (List (Str × Bool)) × List Str) (hrr : vd_each_Variables_2 p st1 st2 = rr) : FT Tryz.prog 45 #[.agg #[vl pa0 pk0 p.Funcs], .func (.func 46) #[] #[st0P]] [S pa0 pk0 p.Funcs, Cl st1P [st1m0], Mp vstr vb okStr st1m0 st1, Cl st2P [vl st2a0 st2k0 st2], O st2a0 st2k0 st2, pv st0P [.func (.func 44) #[] #[st1P, st2P]], pv (gp 0) [vl kwLA kwLK kwL], S kwLA kwLK kwL] (fun g : Value => (rr.2.length ≤ 30000)) (fun g => .tuple #[]) (fun g => [Cl st1P [st1m0], Mp vstr vb okStr st1m0 rr.1, Cl st2P [g], os g rr.2]) := by
 refine FTi Tryz.func45 fun w0 M0 F0 => Fb 40 0 fun _ => Fb 16 4 fun _ => ?_
 refine FoS 4 fun ho3 => ?_
 refine Fb 16 7 fun _ => ?_
 refine FoS 7 fun ho5 => ?_
 refine KS ?_
 refine Oa (Ab [vl pa0 pk0 p.Funcs]) fun p6 => KS ?_
 refine Oq (VldA sh25 0) ?_
 refine letv (sx_Valid p) fun rv7 hg8 => ?_
 have hc9 := fn39 p pa0 pk0 kwLA kwLK pre rv7 hg8
 refine Oc [1, 7, 8] ca39 hc9 ?_
 rintro - -
 refine Oq Vnot (KS ?_)
 refine Kc ?_ ?_
 ·intro h10
  have h12 := not_true h10
  have hq := q4 hrr (st1, st2) (by simp only [vd_each_Variables_2, h10, h12, hg8, cs4]); subst hq
  exact Kr (vl st2a0 st2k0 st2) rfl .nil [2, 2, 2, 2] en
 intro h10
 have h15 := not_false h10
 try have hVb := SVal_b (p := p) (by simp only [h10, h15, hg8])
 refine KS ?_
 refine Oq (Vfa fo25_0 0) (Oq (VldF sh23 0) (Oq (Vlen sl23) (Oq Vm (KS ?_))))
 refine Kl (γ := Nat × (List (Str × Bool)) × List Str × Int × Option Addr × Nat) (fun (r17, st10_18, st20_19, v16_20, a21, k22) => ⟨[(1, .func (.func 46) #[] #[st0P]), (14, vl pa0 pk0 p.Funcs), (15, vi (p.Funcs.length : Int)), (16, vi v16_20)], [O a21 k22 st20_19, S pa0 pk0 p.Funcs, Cl st1P [st1m0], Mp vstr vb okStr st1m0 st10_18, Cl st2P [vl a21 k22 st20_19], pv st0P [.func (.func 44) #[] #[st1P, st2P]], pv (gp 0) [vl kwLA kwLK kwL], S kwLA kwLK kwL], vd_each_Variables_2_L0 p r17 st10_18 st20_19 v16_20 = vd_each_Variables_2_L0 p (((p.Funcs.length : Int) - 0).toNat) st1 st2 0 ∧ r17 = ((p.Funcs.length : Int) - v16_20).toNat ∧ (0 : Int) ≤ v16_20 ∧ v16_20 ≤ (p.Funcs.length : Int) ∧ (-9223372036854775808 ≤ v16_20 ∧ v16_20 ≤ 9223372036854775807) ∧ ((st20_19.length : Int) ≤ 3000 * v16_20), r17⟩) (((p.Funcs.length : Int) - 0).toNat, st1, st2, 0, st2a0, st2k0) [5, 1, 2, 2, 2, 2, 3, 4] ⟨rfl, rfl, aM1, aM1, aM1, iv0⟩ ?_
 rintro ⟨r17, st10_18, st20_19, v16_20, a21, k22⟩ ⟨hM23, hr24, hi25, hi26, hk27, hv28⟩
 refine JJ_nx fun _ _ hL hA => ?_; dsimp only at hL hA; subst hL hA
 refine Fb 16 0 fun _ => ?_
 refine FoS 0 fun ho30 => ?_
 refine Fb 40 1 fun _ => Fb 16 7 fun _ => ?_
 refine FoS 7 fun ho33 => ?_
 refine KS ?_
 refine Oq Vlss (KS ?_)
 refine Kc ?_ ?_
 ·intro h34
  have g35 := dt h34
  have hVf := hVb.2 v16_20.toNat
  obtain ⟨r36, rfl⟩ := scc (n := r17) aM1
  refine KS ?_
  refine Oq (Vi sl23 1) ?_
  refine JJ_peek_GFunc v16_20.toNat 1 rfl rng fun a37 k38 hb39 => ?_
  refine Fb 40 1 fun _ => ?_
  refine Oq (VldA sh31 0) (Oa (Al ze31 [.string (bs (Str.mk [])), .slice none 0 0]) fun p41 => Ost (Scl [0] sh31 [.string (bs ((p.Funcs.getD v16_20.toNat default).Name)), vl a37 k38 ((p.Funcs.getD v16_20.toNat default).Blocks)]) (KS ?_))
  refine Oq (Vfa fo31_1 0) (Oq (VldF sh29 0) (Oq (Vlen sl29) (Oq Vm (KS ?_))))
  refine Kl (γ := Nat × (List (Str × Bool)) × List Str × Int × Option Addr × Nat) (fun (r42, st10_43, st20_44, v23_45, a46, k47) => ⟨[(1, .func (.func 46) #[] #[st0P]), (14, vl pa0 pk0 p.Funcs), (15, vi (p.Funcs.length : Int)), (16, vi v16_20), (21, vl a37 k38 ((p.Funcs.getD v16_20.toNat default).Blocks)), (22, vi (((p.Funcs.getD v16_20.toNat default).Blocks).length : Int)), (23, vi v23_45)], [O a46 k47 st20_44, S a37 k38 ((p.Funcs.getD v16_20.toNat default).Blocks), S pa0 pk0 p.Funcs, Cl st1P [st1m0], Mp vstr vb okStr st1m0 st10_43, Cl st2P [vl a46 k47 st20_44], pv st0P [.func (.func 44) #[] #[st1P, st2P]], pv (gp 0) [vl kwLA kwLK kwL], S kwLA kwLK kwL], vd_each_Variables_2_L1 ((p.Funcs.getD v16_20.toNat default).Blocks) r42 st10_43 st20_44 v23_45 = vd_each_Variables_2_L1 ((p.Funcs.getD v16_20.toNat default).Blocks) ((((((p.Funcs.getD v16_20.toNat default).Blocks).length : Int) : Int) - 0).toNat) st10_18 st20_19 0 ∧ r42 = (((((p.Funcs.getD v16_20.toNat default).Blocks).length : Int) : Int) - v23_45).toNat ∧ (0 : Int) ≤ v23_45 ∧ (v23_45 ≤ (((p.Funcs.getD v16_20.toNat default).Blocks).length : Int) ∨ v23_45 = 0) ∧ (-9223372036854775808 ≤ v23_45 ∧ v23_45 ≤ 9223372036854775807) ∧ ((st20_44.length : Int) ≤ (st20_19.length : Int) + 180 * v23_45), r42⟩) ((((((p.Funcs.getD v16_20.toNat default).Blocks).length : Int) : Int) - 0).toNat, st10_18, st20_19, 0, a21, k22) [3, 2, 3, 4, 4, 4, 4, 5, 6] ⟨rfl, rfl, aM1, (.inr rfl), aM1, iv0⟩ ?_
  rintro ⟨r42, st10_43, st20_44, v23_45, a46, k47⟩ ⟨hM48, hr49, hi50, hi51, hk52, hv53⟩
  refine JJ_nx fun _ _ hL hA => ?_; dsimp only at hL hA; subst hL hA
  refine Fb 16 0 fun _ => ?_
  refine FoS 0 fun ho55 => ?_
  refine Fb 40 1 fun _ => Fb 40 2 fun _ => Fb 16 8 fun _ => ?_
  refine FoS 8 fun ho59 => ?_
  refine KS ?_
  refine Oq Vlss (KS ?_)
  refine Kc ?_ ?_
  ·intro h60
   have g61 := dt h60
   have hVk := hVf.2 v23_45.toNat
   obtain ⟨r62, rfl⟩ := scc (n := r42) aM1
   refine KS ?_
   refine Oq (Vi sl29 1) ?_
   refine JJ_peek_GBlock v23_45.toNat 1 rfl rng fun a63 k64 hb65 => ?_
   refine Fb 72 1 fun _ => ?_
   refine Oq (VldA sh34 0) (Oa (Al ze34 [.string (bs (Str.mk [])), .slice none 0 0]) fun p67 => Ost (Scl [0] sh34 [.string (bs ((((p.Funcs.getD v16_20.toNat default).Blocks).getD v23_45.toNat default).Name)), .slice a63 (((((p.Funcs.getD v16_20.toNat default).Blocks).getD v23_45.toNat default).Stmts).length) k64]) (KS ?_))
   refine Oq (Vfa fo34_1 0) (Oq (VldF sh32 0) (Oq (Vlen sl32) (Oq Vm (KS ?_))))
   refine Kl (γ := Nat × (List (Str × Bool)) × List Str × Int × Option Addr × Nat) (fun (r68, st10_69, st20_70, v30_71, a72, k73) => ⟨[(1, .func (.func 46) #[] #[st0P]), (14, vl pa0 pk0 p.Funcs), (15, vi (p.Funcs.length : Int)), (16, vi v16_20), (21, vl a37 k38 ((p.Funcs.getD v16_20.toNat default).Blocks)), (22, vi (((p.Funcs.getD v16_20.toNat default).Blocks).length : Int)), (23, vi v23_45), (28, .slice a63 (((((p.Funcs.getD v16_20.toNat default).Blocks).getD v23_45.toNat default).Stmts).length) k64), (29, vi (((((p.Funcs.getD v16_20.toNat default).Blocks).getD v23_45.toNat default).Stmts).length : Int)), (30, vi v30_71)], [O a72 k73 st20_70, S a63 k64 ((((p.Funcs.getD v16_20.toNat default).Blocks).getD v23_45.toNat default).Stmts), S a37 k38 ((p.Funcs.getD v16_20.toNat default).Blocks), S pa0 pk0 p.Funcs, Cl st1P [st1m0], Mp vstr vb okStr st1m0 st10_69, Cl st2P [vl a72 k73 st20_70], pv st0P [.func (.func 44) #[] #[st1P, st2P]], pv (gp 0) [vl kwLA kwLK kwL], S kwLA kwLK kwL], vd_each_Variables_2_L2 ((((p.Funcs.getD v16_20.toNat default).Blocks).getD v23_45.toNat default).Stmts) r68 st10_69 st20_70 v30_71 = vd_each_Variables_2_L2 ((((p.Funcs.getD v16_20.toNat default).Blocks).getD v23_45.toNat default).Stmts) ((((((((p.Funcs.getD v16_20.toNat default).Blocks).getD v23_45.toNat default).Stmts).length : Int) : Int) - 0).toNat) st10_43 st20_44 0 ∧ r68 = (((((((p.Funcs.getD v16_20.toNat default).Blocks).getD v23_45.toNat default).Stmts).length : Int) : Int) - v30_71).toNat ∧ (0 : Int) ≤ v30_71 ∧ (v30_71 ≤ (((((p.Funcs.getD v16_20.toNat default).Blocks).getD v23_45.toNat default).Stmts).length : Int) ∨ v30_71 = 0) ∧ (-9223372036854775808 ≤ v30_71 ∧ v30_71 ≤ 9223372036854775807) ∧ ((st20_70.length : Int) ≤ (st20_44.length : Int) + 5 * v30_71), r68⟩) ((((((((p.Funcs.getD v16_20.toNat default).Blocks).getD v23_45.toNat default).Stmts).length : Int) : Int) - 0).toNat, st10_43, st20_44, 0, a46, k47) [3, 2, 3, 4, 5, 5, 5, 5, 6, 7] ⟨rfl, rfl, aM1, (.inr rfl), aM1, iv0⟩ ?_
   rintro ⟨r68, st10_69, st20_70, v30_71, a72, k73⟩ ⟨hM74, hr75, hi76, hi77, hk78, hv79⟩
   refine JJ_nx fun _ _ hL hA => ?_; dsimp only at hL hA; subst hL hA
   refine Fb 16 0 fun _ => ?_
   refine FoS 0 fun ho81 => ?_
   refine Fb 72 1 fun _ => Fb 40 2 fun _ => Fb 40 3 fun _ => Fb 16 9 fun _ => ?_
   refine FoS 9 fun ho86 => ?_
   refine KS ?_
   refine Oq Vlss (KS ?_)
   refine Kc ?_ ?_
   ·intro h87
    have g88 := dt h87
    have hVs := hVk.2 v30_71.toNat
    obtain ⟨r89, rfl⟩ := scc (n := r68) aM1
    refine KS ?_
    refine Oq (Vi sl32 1) ?_
    refine JJ_peek_GStmt v30_71.toNat 1 rfl rng fun a90 k91 a92 k93 hb94 hb95 => ?_
    unfold i64ok at hb94
    refine Fb 16 1 fun _ => ?_
    refine FoS 1 fun ho97 => ?_
    refine Fb 16 2 fun _ => ?_
    refine FoS 2 fun ho99 => ?_
    refine Oq (VldA sh37 0) (Oa (Al ze37 [vi 0, .string (bs (Str.mk [])), .slice none 0 0, .slice none 0 0]) fun p100 => Ost (Scl [0] sh37 [vi ((((((p.Funcs.getD v16_20.toNat default).Blocks).getD v23_45.toNat default).Stmts).getD v30_71.toNat default).Op), .string (bs ((((((p.Funcs.getD v16_20.toNat default).Blocks).getD v23_45.toNat default).Stmts).getD v30_71.toNat default).Def)), .slice a90 (((((((p.Funcs.getD v16_20.toNat default).Blocks).getD v23_45.toNat default).Stmts).getD v30_71.toNat default).Uses).length) k91, .slice a92 (((((((p.Funcs.getD v16_20.toNat default).Blocks).getD v23_45.toNat default).Stmts).getD v30_71.toNat default).Targets).length) k93]) (KS ?_))
    refine Oq Vm (Oq (VldA sh37 0) ?_)
    refine letv (vd_Variables_2_Variables_1 (((((p.Funcs.getD v16_20.toNat default).Blocks).getD v23_45.toNat default).Stmts).getD v30_71.toNat default) st10_69 st20_70) fun rv102 hg103 => ?_
    have hc104 := fn46m0 ((((((p.Funcs.getD v16_20.toNat default).Blocks).getD v23_45.toNat default).Stmts).getD v30_71.toNat default)) a90 k91 a92 k93 st1P st10_69 st1m0 st2P st20_70 a72 k73 st0P pre pre pre rv102 hg103
    refine JO_call [2, 3, 8, 8, 8, 4, 7] rfl rfl rfl (OpC.clo (asv := [(.agg #[vi ((((((p.Funcs.getD v16_20.toNat default).Blocks).getD v23_45.toNat default).Stmts).getD v30_71.toNat default).Op), .string (bs ((((((p.Funcs.getD v16_20.toNat default).Blocks).getD v23_45.toNat default).Stmts).getD v30_71.toNat default).Def)), .slice a90 (((((((p.Funcs.getD v16_20.toNat default).Blocks).getD v23_45.toNat default).Stmts).getD v30_71.toNat default).Uses).length) k91, .slice a92 (((((((p.Funcs.getD v16_20.toNat default).Blocks).getD v23_45.toNat default).Stmts).getD v30_71.toNat default).Targets).length) k93] : Value), (st0P : Value)]) rfl rfl ca46 rfl (by simp)) hc104 rfl ?_
    rintro c101 he105
    refine Jo 3 ?_; rintro a106 k107 rfl
    refine Fb 16 3 fun _ => ?_
    refine FoS 3 fun ho109 => ?_
    refine KS ?_
    refine Oq Vadd (Oq Vm (KS ?_))
    exact Kg (r89, rv102.1, rv102.2, (v30_71 + 1), a106, k107) [3, 7, 8, 9, 0, 0, 0, 7, 8, 9] ⟨(q3 hM74 (by simp only [vd_each_Variables_2_L2, h87, hg103, cs4])), aM1, aM1, aM1, aM1, iv1⟩
   intro h87
   have g110 := df h87
   obtain rfl : r68 = 0 := by omega
   refine Ke ?_
   have hR111 := q2 hM74 (st10_69, st20_70) (by simp only [vd_each_Variables_2_L2, h87, cs4])
   refine KS ?_
   refine Oq Vadd (Oq Vm (KS ?_))
   exact Kg (r62, st10_69, st20_70, (v23_45 + 1), a72, k73) [0, 1, 2, 3, 3, 3, 3, 4, 5] ⟨(q3 hM48 (by simp only [vd_each_Variables_2_L1, h60, h87, hR111, cs4])), aM1, aM1, aM1, aM1, iv1⟩
  intro h60
  have g112 := df h60
  obtain rfl : r42 = 0 := by omega
  refine Ke ?_
  have hR113 := q2 hM48 (st10_43, st20_44) (by simp only [vd_each_Variables_2_L1, h60, cs4])
  refine KS ?_
  refine Oq Vadd (Oq Vm (KS ?_))
  exact Kg (r36, st10_43, st20_44, (v16_20 + 1), a46, k47) [0, 1, 2, 2, 2, 2, 3, 4] ⟨(q3 hM23 (by simp only [vd_each_Variables_2_L0, h34, h60, hR113, cs4])), aM1, aM1, aM1, aM1, iv1⟩
 intro h34
 have g114 := df h34
 obtain rfl : r17 = 0 := by omega
 refine Ke ?_
 have hR115 := q2 hM23 (st10_18, st20_19) (by simp only [vd_each_Variables_2_L0, h34, cs4])
 have hq := q4 hrr (st10_18, st20_19) (by simp only [vd_each_Variables_2, h10, h15, h34, hg8, hR115, cs4]); subst hq
 exact Kz (vl a21 k22 st20_19) rfl .nil [2, 2, 2, 0] en
theorem fn21 (p : GProgram) (pa0 : Option Addr) (pk0 : Nat) (kwLA : Option Addr) (kwLK : Nat) (hps : PSm p = true) (rr : List Str) (hrr : vd_Variables p = rr) : FT Tryz.prog 21 #[.agg #[vl pa0 pk0 p.Funcs]] [S pa0 pk0 p.Funcs, pv (gp 0) [vl kwLA kwLK kwL], S kwLA kwLK kwL] (fun g : Value => (rr.length ≤ 30000)) (fun g => g) (fun g => [sl g rr]) := by
 refine FTi Tryz.func21 fun w0 M0 F0 => Fb 40 0 fun _ => Fb 16 2 fun _ => ?_
 refine FoS 2 fun ho3 => ?_
 refine KS ?_
 refine Oa (Ab [vl pa0 pk0 p.Funcs]) fun p4 => Oq Va (KS ?_)
 refine Oa (Amp (κ := Str) (ν := Bool) (ek := vstr) (ev := vb) (ok := okStr)) fun p5 => ?_
 refine Jom 0 ?_; rintro b6 rfl
 refine Oa (Al ze84 [.map none]) fun p7 => Ost (Scl [0] sh84 [(mv b6)]) (KS ?_)
 refine Oa (Al ze35 [.slice none 0 0]) fun p8 => KS ?_
 refine Oq (Vf [p7, p8]) (Oa (Al ze91 [.nilFunc]) fun p9 => Ost (Scl [0] sh91 [.func (.func 44) #[] #[p7, p8]]) (KS ?_))
 refine Oq (VldA sh25 4) (Oq (Vf [p9]) ?_)
 refine Jl [] (Ent.osNil (α := Str)) ?_
 refine Jl [1] (Ent.freezeCl _ _) ?_
 refine letv (vd_each_Variables_2 p [] ([] : List Str)) fun rv11 hg12 => ?_
 have hc13 := fn45m1 p pa0 pk0 p7 [] (mv b6) p8 ([] : List Str) none 0 p9 kwLA kwLK pre pre rv11 hg12
 refine Oc [6, 3, 3, 2, 1, 0, 3, 4] ca45 hc13 ?_
 rintro c10 he14
 refine Jo 3 ?_; rintro a15 k16 rfl
 refine Fb 16 3 fun _ => ?_
 refine FoS 3 fun ho18 => ?_
 refine KS ?_
 refine Oq (Vld sh35 2) (Oq Va (KS ?_))
 refine Jl [3] (Ent.freeze _ _) ?_
 have hq := q4 hrr rv11.2 (by simp only [vd_Variables, hg12, cs4]); subst hq
 exact Kr (vl a15 k16 rv11.2) rfl (.tmp rfl .nil) [0] en
theorem fn40 (l : List GFunc) (la0 : Option Addr) (lk0 : Nat) (nameF : FuncId) (nameC : List Value) (namep : GFunc → Str) (nameA : List SP) (hnamec : callable Tryz.prog nameF = true) (hnameF : ∀ x0, ∀ (a0 : Option Addr) (k0 : Nat), x0.Name.b.length ≤ 140737488355328 → FT Tryz.prog nameF ([(.agg #[.string (bs x0.Name), vl a0 k0 x0.Blocks] : Value)] ++ nameC).toArray ([S a0 k0 x0.Blocks] ++ [pAll nameA]) (fun _ : Unit => (namep x0).b.length ≤ 140737488355328) (fun _ => .string (bs (namep x0))) (fun _ => [])) (rr : Int × (List (Str × Bool))) (hrr : vd_duplicate_Func l namep = rr) : FT Tryz.prog 40 #[vl la0 lk0 l, .func (.func nameF) #[] nameC.toArray] [S la0 lk0 l, pAll nameA] (fun g : Value => i64ok rr.1) (fun g => .tuple #[vi rr.1, g]) (fun g => [Mp vstr vb okStr g rr.2]) := by
 refine FTi Tryz.func40 fun w0 M0 F0 => Fb 40 0 fun _ => ?_
 refine KS ?_
 refine Oq Va (Oq Va (KS ?_))
 refine Oa (Amp (κ := Str) (ν := Bool) (ek := vstr) (ev := vb) (ok := okStr)) fun p2 => ?_
 refine Jom 0 ?_; rintro b3 rfl
 refine Oq Va (KS ?_)
 refine Oq Va (KS ?_)
 refine Oq Vm (Oq (Vlen sl23) (Oq Vm (KS ?_)))
 refine Kl (γ := Nat × (List (Str × Bool)) × Int × Int) (fun (r4, known_5, at__6, v13_7) => ⟨[(1, .func (.func nameF) #[] nameC.toArray), (6, (mv b3)), (7, vi at__6), (11, vl la0 lk0 l), (12, vi (l.length : Int)), (13, vi v13_7)], [Mp vstr vb okStr (mv b3) known_5, S la0 lk0 l, pAll nameA], vd_duplicate_Func_L0 l namep r4 known_5 at__6 v13_7 = vd_duplicate_Func_L0 l namep (((l.length : Int) - 0).toNat) [] (-1) 0 ∧ r4 = ((l.length : Int) - v13_7).toNat ∧ (0 : Int) ≤ v13_7 ∧ v13_7 ≤ (l.length : Int) ∧ (-9223372036854775808 ≤ at__6 ∧ at__6 ≤ 9223372036854775807) ∧ (-9223372036854775808 ≤ v13_7 ∧ v13_7 ≤ 9223372036854775807), r4⟩) (((l.length : Int) - 0).toNat, [], -1, 0) [0, 0, 1] ⟨rfl, rfl, aM1, aM1, aM1, aM1⟩ ?_
 rintro ⟨r4, known_5, at__6, v13_7⟩ ⟨hM8, hr9, hi10, hi11, hk12, hk13⟩
 refine JJ_nx fun _ _ hL hA => ?_; dsimp only at hL hA; subst hL hA
 refine Fb 40 1 fun _ => KS ?_
 refine Oq Vlss (KS ?_)
 refine Kc ?_ ?_
 ·intro h15
  have g16 := dt h15
  obtain ⟨r17, rfl⟩ := scc (n := r4) aM1
  refine KS ?_
  refine Oq Vm (Oq (Vi sl23 1) ?_)
  refine JJ_peek_GFunc v13_7.toNat 1 rfl rng fun a18 k19 hb20 => ?_
  refine Fb 40 1 fun _ => ?_
  refine Oq (VldA sh31 0) (Oa (Al ze31 [.string (bs (Str.mk [])), .slice none 0 0]) fun p22 => Oq Va (Ost (Scl [0] sh31 [.string (bs ((l.getD v13_7.toNat default).Name)), vl a18 k19 ((l.getD v13_7.toNat default).Blocks)]) (KS ?_)))
  refine Oq Vm (Oq Vm (Oq (VldA sh31 0) ?_))
  refine JO_call [2, 5] rfl rfl rfl (OpC.clo (asv := [(.agg #[.string (bs ((l.getD v13_7.toNat default).Name)), vl a18 k19 ((l.getD v13_7.toNat default).Blocks)] : Value)] ++ nameC) rfl rfl hnamec rfl (by simp)) (hnameF (l.getD v13_7.toNat default) a18 k19 pre) rfl fun _ he23 => ?_
  refine Oq (Vmk1 3 false mt84 (kStr un9) ze4 (ek := vstr) (ev := vb) (ok := okStr) (key := (namep (l.getD v13_7.toNat default))) pre) (Oq Vm ?_)
  refine Js 23 ?_ ?_
  ·intro h24
   refine Oq Vm (Oq Vlss (Oq Vpt (KS ?_)))
   refine Kc ?_ ?_
   ·intro h26
    have g27 := dt h26
    refine KS ?_
    refine Oq Vm (Oq Va (KS ?_))
    refine Oq Vm (Oq Vm (Oq (VldA sh31 0) ?_))
    refine JO_call [2, 5] rfl rfl rfl (OpC.clo (asv := [(.agg #[.string (bs ((l.getD v13_7.toNat default).Name)), vl a18 k19 ((l.getD v13_7.toNat default).Blocks)] : Value)] ++ nameC) rfl rfl hnamec rfl (by simp)) (hnameF (l.getD v13_7.toNat default) a18 k19 pre) rfl fun _ he28 => ?_
    refine Ost (Smp [3] mt84 (kStr un9) true (ek := vstr) (ev := vb) (ok := okStr) (key := (namep (l.getD v13_7.toNat default))) pre) (KS ?_)
    refine Oq Vadd (Oq Vm (KS ?_))
    exact Kg (r17, (mset known_5 (namep (l.getD v13_7.toNat default)) true), v13_7, (v13_7 + 1)) [0, 3, 4] ⟨(q3 hM8 (by simp only [vd_duplicate_Func_L0, h15, h24, h26, cs4])), aM1, aM1, aM1, aM1, aM1⟩
   intro h26
   have g29 := df h26
   refine KS ?_
   refine Oq Vm (Oq Vm (Oq (VldA sh31 0) ?_))
   refine JO_call [2, 5] rfl rfl rfl (OpC.clo (asv := [(.agg #[.string (bs ((l.getD v13_7.toNat default).Name)), vl a18 k19 ((l.getD v13_7.toNat default).Blocks)] : Value)] ++ nameC) rfl rfl hnamec rfl (by simp)) (hnameF (l.getD v13_7.toNat default) a18 k19 pre) rfl fun _ he30 => ?_
   refine Ost (Smp [3] mt84 (kStr un9) true (ek := vstr) (ev := vb) (ok := okStr) (key := (namep (l.getD v13_7.toNat default))) pre) (KS ?_)
   refine Oq Vadd (Oq Vm (KS ?_))
   exact Kg (r17, (mset known_5 (namep (l.getD v13_7.toNat default)) true), at__6, (v13_7 + 1)) [0, 3, 4] ⟨(q3 hM8 (by simp only [vd_duplicate_Func_L0, h15, h24, h26, cs4])), aM1, aM1, aM1, aM1, aM1⟩
  intro h24
  refine Osk (Osk (Oq Vpf (KS ?_)))
  refine Kf (KS ?_)
  refine Oq Vm (Oq Vm (Oq (VldA sh31 0) ?_))
  refine JO_call [2, 5] rfl rfl rfl (OpC.clo (asv := [(.agg #[.string (bs ((l.getD v13_7.toNat default).Name)), vl a18 k19 ((l.getD v13_7.toNat default).Blocks)] : Value)] ++ nameC) rfl rfl hnamec rfl (by simp)) (hnameF (l.getD v13_7.toNat default) a18 k19 pre) rfl fun _ he32 => ?_
  refine Ost (Smp [3] mt84 (kStr un9) true (ek := vstr) (ev := vb) (ok := okStr) (key := (namep (l.getD v13_7.toNat default))) pre) (KS ?_)
  refine Oq Vadd (Oq Vm (KS ?_))
  exact Kg (r17, (mset known_5 (namep (l.getD v13_7.toNat default)) true), at__6, (v13_7 + 1)) [0, 3, 4] ⟨(q3 hM8 (by simp only [vd_duplicate_Func_L0, h15, h24, cs4])), aM1, aM1, aM1, aM1, aM1⟩
 intro h15
 have g33 := df h15
 obtain rfl : r4 = 0 := by omega
 refine Ke ?_
 have hR34 := q2 hM8 (known_5, at__6) (by simp only [vd_duplicate_Func_L0, h15, cs4])
 refine KS ?_
 refine Oq Vm (Oq Vm (Oq Va (Oq Va (KS ?_))))
 have hq := q4 hrr (at__6, known_5) (by simp only [vd_duplicate_Func, h15, hR34, cs4]); subst hq
 exact Kr (mv b3) rfl (.tmp rfl (.tmp rfl .nil)) [0] en
theorem fn41 (f : GFunc) (fa1 : Option Addr) (fk1 : Nat) (hf_0 : f.Name.b.length ≤ 140737488355328) (rr : Str) (hrr : vd_Check_1 f = rr) : FT Tryz.prog 41 #[.agg #[.string (bs f.Name), vl fa1 fk1 f.Blocks]] [S fa1 fk1 f.Blocks] (fun g : Unit => rr.b.length ≤ 140737488355328) (fun g => .string (bs rr)) (fun g => []) := by
 refine FTi Tryz.func41 fun w0 M0 F0 => Fb 40 0 fun _ => ?_
 refine KS ?_
 refine Oa (Ab [.string (bs f.Name), vl fa1 fk1 f.Blocks]) fun p2 => Oq Va (KS ?_)
 refine Oq (Vfa fo31_0 0) (Oq (VldF sh9 0) (Oq Va (KS ?_)))
 have hq := q4 hrr f.Name (by simp only [vd_Check_1, cs4]); subst hq
 exact Kr () rfl (.tmp rfl .nil) [] en
theorem fn72 (l : List GBlock) (la0 : Option Addr) (lk0 : Nat) (nameF : FuncId) (nameC : List Value) (namep : GBlock → Str) (nameA : List SP) (hnamec : callable Tryz.prog nameF = true) (hnameF : ∀ x0, ∀ (a0 : Option Addr) (k0 : Nat), x0.Name.b.length ≤ 140737488355328 → FT Tryz.prog nameF ([(.agg #[.string (bs x0.Name), vl a0 k0 x0.Stmts] : Value)] ++ nameC).toArray ([S a0 k0 x0.Stmts] ++ [pAll nameA]) (fun _ : Unit => (namep x0).b.length ≤ 140737488355328) (fun _ => .string (bs (namep x0))) (fun _ => [])) (rr : Int × (List (Str × Bool))) (hrr : vd_duplicate_Block l namep = rr) : FT Tryz.prog 72 #[vl la0 lk0 l, .func (.func nameF) #[] nameC.toArray] [S la0 lk0 l, pAll nameA] (fun g : Value => i64ok rr.1) (fun g => .tuple #[vi rr.1, g]) (fun g => [Mp vstr vb okStr g rr.2]) := by
 refine FTi Tryz.func72 fun w0 M0 F0 => Fb 40 0 fun _ => ?_
 refine KS ?_
 refine Oq Va (Oq Va (KS ?_))
 refine Oa (Amp (κ := Str) (ν := Bool) (ek := vstr) (ev := vb) (ok := okStr)) fun p2 => ?_
 refine Jom 0 ?_; rintro b3 rfl
 refine Oq Va (KS ?_)
 refine Oq Va (KS ?_)
 refine Oq Vm (Oq (Vlen sl29) (Oq Vm (KS ?_)))
 refine Kl (γ := Nat × (List (Str × Bool)) × Int × Int) (fun (r4, known_5, at__6, v13_7) => ⟨[(1, .func (.func nameF) #[] nameC.toArray), (6, (mv b3)), (7, vi at__6), (11, vl la0 lk0 l), (12, vi (l.length : Int)), (13, vi v13_7)], [Mp vstr vb okStr (mv b3) known_5, S la0 lk0 l, pAll nameA], vd_duplicate_Block_L0 l namep r4 known_5 at__6 v13_7 = vd_duplicate_Block_L0 l namep (((l.length : Int) - 0).toNat) [] (-1) 0 ∧ r4 = ((l.length : Int) - v13_7).toNat ∧ (0 : Int) ≤ v13_7 ∧ v13_7 ≤ (l.length : Int) ∧ (-9223372036854775808 ≤ at__6 ∧ at__6 ≤ 9223372036854775807) ∧ (-9223372036854775808 ≤ v13_7 ∧ v13_7 ≤ 9223372036854775807), r4⟩) (((l.length : Int) - 0).toNat, [], -1, 0) [0, 0, 1] ⟨rfl, rfl, aM1, aM1, aM1, aM1⟩ ?_
 rintro ⟨r4, known_5, at__6, v13_7⟩ ⟨hM8, hr9, hi10, hi11, hk12, hk13⟩
 refine JJ_nx fun _ _ hL hA => ?_; dsimp only at hL hA; subst hL hA
 refine Fb 40 1 fun _ => KS ?_
 refine Oq Vlss (KS ?_)
 refine Kc ?_ ?_
 ·intro h15
  have g16 := dt h15
  obtain ⟨r17, rfl⟩ := scc (n := r4) aM1
  refine KS ?_
  refine Oq Vm (Oq (Vi sl29 1) ?_)
  refine JJ_peek_GBlock v13_7.toNat 1 rfl rng fun a18 k19 hb20 => ?_
  refine Fb 72 1 fun _ => ?_
  refine Oq (VldA sh34 0) (Oa (Al ze34 [.string (bs (Str.mk [])), .slice none 0 0]) fun p22 => Oq Va (Ost (Scl [0] sh34 [.string (bs ((l.getD v13_7.toNat default).Name)), vl a18 k19 ((l.getD v13_7.toNat default).Stmts)]) (KS ?_)))
  refine Oq Vm (Oq Vm (Oq (VldA sh34 0) ?_))
  refine JO_call [2, 5] rfl rfl rfl (OpC.clo (asv := [(.agg #[.string (bs ((l.getD v13_7.toNat default).Name)), vl a18 k19 ((l.getD v13_7.toNat default).Stmts)] : Value)] ++ nameC) rfl rfl hnamec rfl (by simp)) (hnameF (l.getD v13_7.toNat default) a18 k19 pre) rfl fun _ he23 => ?_
  refine Oq (Vmk1 3 false mt84 (kStr un9) ze4 (ek := vstr) (ev := vb) (ok := okStr) (key := (namep (l.getD v13_7.toNat default))) pre) (Oq Vm ?_)
  refine Js 23 ?_ ?_
  ·intro h24
   refine Oq Vm (Oq Vlss (Oq Vpt (KS ?_)))
   refine Kc ?_ ?_
   ·intro h26
    have g27 := dt h26
    refine KS ?_
    refine Oq Vm (Oq Va (KS ?_))
    refine Oq Vm (Oq Vm (Oq (VldA sh34 0) ?_))
    refine JO_call [2, 5] rfl rfl rfl (OpC.clo (asv := [(.agg #[.string (bs ((l.getD v13_7.toNat default).Name)), vl a18 k19 ((l.getD v13_7.toNat default).Stmts)] : Value)] ++ nameC) rfl rfl hnamec rfl (by simp)) (hnameF (l.getD v13_7.toNat default) a18 k19 pre) rfl fun _ he28 => ?_
    refine Ost (Smp [3] mt84 (kStr un9) true (ek := vstr) (ev := vb) (ok := okStr) (key := (namep (l.getD v13_7.toNat default))) pre) (KS ?_)
    refine Oq Vadd (Oq Vm (KS ?_))
    exact Kg (r17, (mset known_5 (namep (l.getD v13_7.toNat default)) true), v13_7, (v13_7 + 1)) [0, 3, 4] ⟨(q3 hM8 (by simp only [vd_duplicate_Block_L0, h15, h24, h26, cs4])), aM1, aM1, aM1, aM1, aM1⟩
   intro h26
   have g29 := df h26
   refine KS ?_
   refine Oq Vm (Oq Vm (Oq (VldA sh34 0) ?_))
   refine JO_call [2, 5] rfl rfl rfl (OpC.clo (asv := [(.agg #[.string (bs ((l.getD v13_7.toNat default).Name)), vl a18 k19 ((l.getD v13_7.toNat default).Stmts)] : Value)] ++ nameC) rfl rfl hnamec rfl (by simp)) (hnameF (l.getD v13_7.toNat default) a18 k19 pre) rfl fun _ he30 => ?_
   refine Ost (Smp [3] mt84 (kStr un9) true (ek := vstr) (ev := vb) (ok := okStr) (key := (namep (l.getD v13_7.toNat default))) pre) (KS ?_)
   refine Oq Vadd (Oq Vm (KS ?_))
   exact Kg (r17, (mset known_5 (namep (l.getD v13_7.toNat default)) true), at__6, (v13_7 + 1)) [0, 3, 4] ⟨(q3 hM8 (by simp only [vd_duplicate_Block_L0, h15, h24, h26, cs4])), aM1, aM1, aM1, aM1, aM1⟩
  intro h24
  refine Osk (Osk (Oq Vpf (KS ?_)))
  refine Kf (KS ?_)
  refine Oq Vm (Oq Vm (Oq (VldA sh34 0) ?_))
  refine JO_call [2, 5] rfl rfl rfl (OpC.clo (asv := [(.agg #[.string (bs ((l.getD v13_7.toNat default).Name)), vl a18 k19 ((l.getD v13_7.toNat default).Stmts)] : Value)] ++ nameC) rfl rfl hnamec rfl (by simp)) (hnameF (l.getD v13_7.toNat default) a18 k19 pre) rfl fun _ he32 => ?_
  refine Ost (Smp [3] mt84 (kStr un9) true (ek := vstr) (ev := vb) (ok := okStr) (key := (namep (l.getD v13_7.toNat default))) pre) (KS ?_)
  refine Oq Vadd (Oq Vm (KS ?_))
  exact Kg (r17, (mset known_5 (namep (l.getD v13_7.toNat default)) true), at__6, (v13_7 + 1)) [0, 3, 4] ⟨(q3 hM8 (by simp only [vd_duplicate_Block_L0, h15, h24, cs4])), aM1, aM1, aM1, aM1, aM1⟩
 intro h15
 have g33 := df h15
 obtain rfl : r4 = 0 := by omega
 refine Ke ?_
 have hR34 := q2 hM8 (known_5, at__6) (by simp only [vd_duplicate_Block_L0, h15, cs4])
 refine KS ?_
 refine Oq Vm (Oq Vm (Oq Va (Oq Va (KS ?_))))
 have hq := q4 hrr (at__6, known_5) (by simp only [vd_duplicate_Block, h15, hR34, cs4]); subst hq
 exact Kr (mv b3) rfl (.tmp rfl (.tmp rfl .nil)) [0] en
theorem fn73 (b : GBlock) (ba1 : Option Addr) (bk1 : Nat) (hb_0 : b.Name.b.length ≤ 140737488355328) (rr : Str) (hrr : vd_function_1 b = rr) : FT Tryz.prog 73 #[.agg #[.string (bs b.Name), vl ba1 bk1 b.Stmts]] [S ba1 bk1 b.Stmts] (fun g : Unit => rr.b.length ≤ 140737488355328) (fun g => .string (bs rr)) (fun g => []) := by
 refine FTi Tryz.func73 fun w0 M0 F0 => Fb 72 0 fun _ => ?_
 refine KS ?_
 refine Oa (Ab [.string (bs b.Name), vl ba1 bk1 b.Stmts]) fun p2 => Oq Va (KS ?_)
 refine Oq (Vfa fo34_0 0) (Oq (VldF sh9 0) (Oq Va (KS ?_)))
 have hq := q4 hrr b.Name (by simp only [vd_function_1, cs4]); subst hq
 exact Kr () rfl (.tmp rfl .nil) [] en
theorem fn106 (s : GStmt) (sa2 : Option Addr) (sk2 : Nat) (sa3 : Option Addr) (sk3 : Nat) (hs_0 : i64ok s.Op) (hs_1 : s.Def.b.length ≤ 140737488355328) (rr : Bool) (hrr : vd_terminator s = rr) : FT Tryz.prog 106 #[.agg #[vi s.Op, .string (bs s.Def), vl sa2 sk2 s.Uses, vl sa3 sk3 s.Targets]] [S sa2 sk2 s.Uses, S sa3 sk3 s.Targets] (fun g : Unit => True) (fun g => vb rr) (fun g => []) := by
 refine FTi Tryz.func106 fun w0 M0 F0 => ?_
 unfold i64ok at hs_0
 refine Fb 16 0 fun _ => ?_
 refine FoS 0 fun ho2 => ?_
 refine Fb 16 1 fun _ => ?_
 refine FoS 1 fun ho4 => ?_
 refine KS ?_
 refine Oa (Ab [vi s.Op, .string (bs s.Def), vl sa2 sk2 s.Uses, vl sa3 sk3 s.Targets]) fun p5 => Oq Va (KS ?_)
 refine Oq (Vfa fo37_0 0) (Oq (VldF sh3 0) (Oq Veql (Oq Vm ?_)))
 refine Js 6 ?_ ?_
 ·intro h6
  have g7 := eq_of_beq h6
  refine Osk (Osk (Osk (Oq Vpt (Oq Vm (Osk (Osk (Osk (Oq Vpt (Oq Va ?_)))))))))
  refine KS ?_
  have hq := q4 hrr true (by simp only [vd_terminator, h6, cs4]); subst hq
  exact Kr () rfl (.tmp rfl .nil) [] trivial
 intro h6
 have g8 := ne_of_beq_false h6
 refine Oq (Vfa fo37_0 0) (Oq (VldF sh3 0) (Oq Veql (Oq Vpf (Oq Vm ?_))))
 refine Js 11 ?_ ?_
 ·intro h9
  have g10 := eq_of_beq h9
  refine Osk (Osk (Osk (Oq Vpt (Oq Va (KS ?_)))))
  have hq := q4 hrr true (by simp only [vd_terminator, h6, h9, cs4]); subst hq
  exact Kr () rfl (.tmp rfl .nil) [] trivial
 intro h9
 have g11 := ne_of_beq_false h9
 refine Oq (Vfa fo37_0 0) (Oq (VldF sh3 0) (Oq Veql (Oq Vpf (Oq Va (KS ?_)))))
 have hq := q4 hrr (s.Op == 9) (by simp only [vd_terminator, h6, h9, cs4]); subst hq
 exact Kr () rfl (.tmp rfl .nil) [] trivial
theorem fn74 (s : GStmt) (sa2 : Option Addr) (sk2 : Nat) (sa3 : Option Addr) (sk3 : Nat) (last : Bool) (knownP : Value) (known : List (Str × Bool)) (hs_0 : i64ok s.Op) (hs_1 : s.Def.b.length ≤ 140737488355328) (rr : Int) (hrr : vd_statement s last known = rr) : FT Tryz.prog 74 #[.agg #[vi s.Op, .string (bs s.Def), vl sa2 sk2 s.Uses, vl sa3 sk3 s.Targets], vb last, knownP] [S sa2 sk2 s.Uses, S sa3 sk3 s.Targets, Mp vstr vb okStr knownP known] (fun g : Unit => i64ok rr) (fun g => vi rr) (fun g => [Mp vstr vb okStr knownP known]) := by
 refine FTi Tryz.func74 fun w0 M0 F0 => ?_
 unfold i64ok at hs_0
 refine Fb 16 0 fun _ => ?_
 refine FoS 0 fun ho2 => ?_
 refine Fb 16 1 fun _ => ?_
 refine FoS 1 fun ho4 => ?_
 refine KS ?_
 refine Oa (Ab [vi s.Op, .string (bs s.Def), vl sa2 sk2 s.Uses, vl sa3 sk3 s.Targets]) fun p5 => Oq Va (KS ?_)
 refine Oq (VldA sh37 0) ?_
 refine letv (vd_terminator s) fun rv6 hg7 => ?_
 have hc8 := fn106 s sa2 sk2 sa3 sk3 pre pre rv6 hg7
 refine Oc [1, 2] ca106 hc8 ?_
 rintro - -
 refine Oq Vm (Oq (Vnb un4) (KS ?_))
 refine Kc ?_ ?_
 ·intro h9
  refine KS ?_
  refine Oq Va (KS ?_)
  have hq := q4 hrr 4 (by simp only [vd_statement, h9, hg7, cs4]); subst hq
  exact Kr () rfl (.tmp rfl .nil) [3] en
 intro h9
 refine KS ?_
 refine Oq (Vfa fo37_3 0) (Oq (VldF sh35 0) (Oq (Vlen sl35) (Oq Vm (KS ?_))))
 refine Kl (γ := Nat × Int) (fun (r12, v16_13) => ⟨[(2, knownP), (14, vl sa3 sk3 s.Targets), (15, vi (s.Targets.length : Int)), (16, vi v16_13)], [S sa3 sk3 s.Targets, Mp vstr vb okStr knownP known], vd_statement_L0 s known r12 v16_13 = vd_statement_L0 s known (((s.Targets.length : Int) - 0).toNat) 0 ∧ r12 = ((s.Targets.length : Int) - v16_13).toNat ∧ (0 : Int) ≤ v16_13 ∧ v16_13 ≤ (s.Targets.length : Int) ∧ (-9223372036854775808 ≤ v16_13 ∧ v16_13 ≤ 9223372036854775807), r12⟩) (((s.Targets.length : Int) - 0).toNat, 0) [2, 3] ⟨rfl, rfl, aM1, aM1, aM1⟩ ?_
 rintro ⟨r12, v16_13⟩ ⟨hM14, hr15, hi16, hi17, hk18⟩
 refine JJ_nx fun _ _ hL hA => ?_; dsimp only at hL hA; subst hL hA
 refine Fb 16 0 fun _ => ?_
 refine FoS 0 fun ho20 => ?_
 refine KS ?_
 refine Oq Vlss (KS ?_)
 refine Kc ?_ ?_
 ·intro h21
  have g22 := dt h21
  obtain ⟨r23, rfl⟩ := scc (n := r12) aM1
  refine KS ?_
  refine Oq (Vi sl35 0) ?_
  have hb24 := okS (i := v16_13.toNat) ho20 rng
  refine Oq (VldS sh9 0) (Oq Va (KS ?_))
  refine Oq Vm (Oq Vm (Oq (Vmk1 1 false mt84 (kStr un9) ze4 (ek := vstr) (ev := vb) (ok := okStr) (key := (s.Targets.getD v16_13.toNat default)) pre) (Oq Vnot (KS ?_))))
  refine Kc ?_ ?_
  ·intro h25
   have h27 := not_true h25
   refine KS ?_
   refine Oq Va (KS ?_)
   have hR29 := q2 hM14 (.ret 5) (by simp only [vd_statement_L0, h21, h25, h27, cs4])
   have hq := q4 hrr 5 (by simp only [vd_statement, h9, h21, h25, h27, hg7, hR29, cs4]); subst hq
   exact Kr () rfl (.tmp rfl .nil) [1] en
  intro h25
  have h31 := not_false h25
  refine KS ?_
  refine Oq Vadd (Oq Vm (KS ?_))
  exact Kg (r23, (v16_13 + 1)) [0, 1] ⟨(q3 hM14 (by simp only [vd_statement_L0, h21, h25, h31, cs4])), aM1, aM1, aM1, aM1⟩
 intro h21
 have g33 := df h21
 obtain rfl : r12 = 0 := by omega
 refine Ke ?_
 have hR34 := q2 hM14 (.brk ()) (by simp only [vd_statement_L0, h21, cs4])
 refine KS ?_
 refine Oq Va (KS ?_)
 have hq := q4 hrr 0 (by simp only [vd_statement, h9, h21, hg7, hR34, cs4]); subst hq
 exact Kr () rfl (.tmp rfl .nil) [1] en
theorem fn42 (f : GFunc) (fa1 : Option Addr) (fk1 : Nat) (i : Int) (funcsP : Value) (funcs : List (Str × Bool)) (hf_0 : f.Name.b.length ≤ 140737488355328) (hi_0 : i64ok i) (rr : GNode × Int) (hrr : vd_function f i funcs = rr) : FT Tryz.prog 42 #[.agg #[.string (bs f.Name), vl fa1 fk1 f.Blocks], vi i, funcsP] [S fa1 fk1 f.Blocks, Mp vstr vb okStr funcsP funcs] (fun g : Unit => i64ok rr.1.Kind ∧ i64ok rr.1.Func ∧ i64ok rr.1.Block ∧ i64ok rr.1.Stmt ∧ i64ok rr.2) (fun g => .tuple #[.agg #[vi rr.1.Kind, vi rr.1.Func, vi rr.1.Block, vi rr.1.Stmt], vi rr.2]) (fun g => [Mp vstr vb okStr funcsP funcs]) := by
 refine FTi Tryz.func42 fun w0 M0 F0 => ?_
 unfold i64ok at hi_0
 refine Fb 40 0 fun _ => KS ?_
 refine Oa (Ab [.string (bs f.Name), vl fa1 fk1 f.Blocks]) fun p2 => Oa (Al ze63 [vi 0, vi 0, vi 0, vi 0]) fun p3 => Oq Va (KS ?_)
 refine Oq (Vfa fo31_1 1) (Oq (VldF sh29 1) ?_)
 refine JJ_ent (Ent.pall [] rfl rfl) ?_
 refine letv (vd_duplicate_Block f.Blocks (fun x0 => vd_function_1 x0)) fun rv5 hg6 => ?_
 have hc7 := fn72 f.Blocks fa1 fk1 73 [] (fun x0 => vd_function_1 x0) [] ca73 (fun x0 a0 k0 hq0 => FT_pall (A1 := _) (fn73 x0 a0 k0  hq0 _ rfl)) rv5 hg6
 refine Oc [3, 0] ca72 hc7 ?_
 rintro c4 he8
 unfold i64ok at he8
 refine Jom 0 ?_; rintro b9 rfl
 refine Oq Vm (Oq Vx (Oq Vx (Oq Va (Oq Va (KS ?_)))))
 refine Oq Vm (Oq Vgeq (KS ?_))
 refine Kc ?_ ?_
 ·intro h10
  have g11 := dt h10
  refine KS ?_
  refine Oq Vm (Oq Vm (Oq (Vbd st63 [vi 3, vi i, vi rv5.1, vi (-1)]) (Ost (Scl [2] sh63 [vi 3, vi i, vi rv5.1, vi (-1)]) (Oq Va (KS ?_)))))
  have hq := q4 hrr ((GNode.mk 3 i rv5.1 (-1)), 6) (by simp only [vd_function, h10, hg6, cs4]); subst hq
  exact Kr () rfl (.cellN 0 rfl sh63 rfl (reads_Cl _ _) rfl (.tmp rfl .nil)) [5] en
 intro h10
 have g12 := df h10
 refine KS ?_
 refine Oq (Vfa fo31_1 3) (Oq (VldF sh29 3) (Oq (Vlen sl29) (Oq Vm (KS ?_))))
 refine Kl (γ := Nat × Int) (fun (r13, v30_14) => ⟨[(1, vi i), (2, funcsP), (6, p3), (9, (mv b9)), (28, vl fa1 fk1 f.Blocks), (29, vi (f.Blocks.length : Int)), (30, vi v30_14)], [Mp vstr vb okStr (mv b9) rv5.2, pAll [], Cl p3 [vi 0, vi 0, vi 0, vi 0], S fa1 fk1 f.Blocks, Mp vstr vb okStr funcsP funcs], vd_function_L0 f i funcs rv5.2 r13 v30_14 = vd_function_L0 f i funcs rv5.2 (((f.Blocks.length : Int) - 0).toNat) 0 ∧ r13 = ((f.Blocks.length : Int) - v30_14).toNat ∧ (0 : Int) ≤ v30_14 ∧ v30_14 ≤ (f.Blocks.length : Int) ∧ (-9223372036854775808 ≤ v30_14 ∧ v30_14 ≤ 9223372036854775807), r13⟩) (((f.Blocks.length : Int) - 0).toNat, 0) [0, 0, 1, 2, 3] ⟨rfl, rfl, aM1, aM1, aM1⟩ ?_
 rintro ⟨r13, v30_14⟩ ⟨hM15, hr16, hi17, hi18, hk19⟩
 refine JJ_nx fun _ _ hL hA => ?_; dsimp only at hL hA; subst hL hA
 refine Fb 40 3 fun _ => KS ?_
 refine Oq Vlss (KS ?_)
 refine Kc ?_ ?_
 ·intro h21
  have g22 := dt h21
  obtain ⟨r23, rfl⟩ := scc (n := r13) aM1
  refine KS ?_
  refine Oq Vm (Oq (Vi sl29 3) ?_)
  refine JJ_peek_GBlock v30_14.toNat 3 rfl rng fun a24 k25 hb26 => ?_
  refine Fb 72 1 fun _ => ?_
  refine Oq (VldA sh34 0) (Oa (Al ze34 [.string (bs (Str.mk [])), .slice none 0 0]) fun p28 => Oq Va (Ost (Scl [0] sh34 [.string (bs ((f.Blocks.getD v30_14.toNat default).Name)), vl a24 k25 ((f.Blocks.getD v30_14.toNat default).Stmts)]) (KS ?_)))
  refine Oq (Vfa fo34_1 0) (Oq (VldF sh32 0) (Oq (Vlen sl32) (Oq Vm (KS ?_))))
  refine Kl (γ := Nat × Int) (fun (r29, v38_30) => ⟨[(1, vi i), (2, funcsP), (6, p3), (9, (mv b9)), (28, vl fa1 fk1 f.Blocks), (29, vi (f.Blocks.length : Int)), (30, vi v30_14), (11, p28), (10, vi v30_14), (36, vl a24 k25 ((f.Blocks.getD v30_14.toNat default).Stmts)), (37, vi (((f.Blocks.getD v30_14.toNat default).Stmts).length : Int)), (38, vi v38_30)], [Cl p28 [.string (bs ((f.Blocks.getD v30_14.toNat default).Name)), vl a24 k25 ((f.Blocks.getD v30_14.toNat default).Stmts)], S a24 k25 ((f.Blocks.getD v30_14.toNat default).Stmts), Mp vstr vb okStr (mv b9) rv5.2, pAll [], Cl p3 [vi 0, vi 0, vi 0, vi 0], S fa1 fk1 f.Blocks, Mp vstr vb okStr funcsP funcs], vd_function_L1 i funcs rv5.2 v30_14 ((f.Blocks.getD v30_14.toNat default).Stmts) ((f.Blocks.getD v30_14.toNat default).Stmts) r29 v38_30 = vd_function_L1 i funcs rv5.2 v30_14 ((f.Blocks.getD v30_14.toNat default).Stmts) ((f.Blocks.getD v30_14.toNat default).Stmts) ((((((f.Blocks.getD v30_14.toNat default).Stmts).length : Int) : Int) - 0).toNat) 0 ∧ r29 = (((((f.Blocks.getD v30_14.toNat default).Stmts).length : Int) : Int) - v38_30).toNat ∧ (0 : Int) ≤ v38_30 ∧ (v38_30 ≤ (((f.Blocks.getD v30_14.toNat default).Stmts).length : Int) ∨ v38_30 = 0) ∧ (-9223372036854775808 ≤ v38_30 ∧ v38_30 ≤ 9223372036854775807), r29⟩) ((((((f.Blocks.getD v30_14.toNat default).Stmts).length : Int) : Int) - 0).toNat, 0) [0, 1, 2, 2, 3, 3, 4] ⟨rfl, rfl, aM1, (.inr rfl), aM1⟩ ?_
  rintro ⟨r29, v38_30⟩ ⟨hM31, hr32, hi33, hi34, hk35⟩
  refine JJ_nx fun _ _ hL hA => ?_; dsimp only at hL hA; subst hL hA
  refine Fb 72 1 fun _ => Fb 40 5 fun _ => KS ?_
  refine Oq Vlss (KS ?_)
  refine Kc ?_ ?_
  ·intro h38
   have g39 := dt h38
   obtain ⟨r40, rfl⟩ := scc (n := r29) aM1
   refine KS ?_
   refine Oq Vm (Oq (Vi sl32 1) ?_)
   refine JJ_peek_GStmt v38_30.toNat 1 rfl rng fun a41 k42 a43 k44 hb45 hb46 => ?_
   unfold i64ok at hb45
   refine Fb 16 1 fun _ => ?_
   refine FoS 1 fun ho48 => ?_
   refine Fb 16 2 fun _ => ?_
   refine FoS 2 fun ho50 => ?_
   refine Oq (VldA sh37 0) (Oa (Al ze37 [vi 0, .string (bs (Str.mk [])), .slice none 0 0, .slice none 0 0]) fun p51 => Oq Va (Ost (Scl [0] sh37 [vi ((((f.Blocks.getD v30_14.toNat default).Stmts).getD v38_30.toNat default).Op), .string (bs ((((f.Blocks.getD v30_14.toNat default).Stmts).getD v38_30.toNat default).Def)), .slice a41 (((((f.Blocks.getD v30_14.toNat default).Stmts).getD v38_30.toNat default).Uses).length) k42, .slice a43 (((((f.Blocks.getD v30_14.toNat default).Stmts).getD v38_30.toNat default).Targets).length) k44]) (KS ?_)))
   refine Oq Vm (Oq Va (KS ?_))
   refine Oq (Vfa fo37_0 0) (Oq (VldF sh3 0) (Oq Veql (KS ?_)))
   refine Kc ?_ ?_
   ·intro h52
    have g53 := eq_of_beq h52
    refine KS ?_
    refine Oq Vm (Oq Va (KS ?_))
    refine Oq (VldA sh37 0) (Oq Vm (Oq (Vfa fo34_1 4) (Oq (VldF sh32 4) (Oq (Vlen sl32) (Oq Vsub (Oq Veql (Oq Vm ?_)))))))
    refine letv (vd_statement (((f.Blocks.getD v30_14.toNat default).Stmts).getD v38_30.toNat default) (v38_30 == ((((f.Blocks.getD v30_14.toNat default).Stmts).length : Int) - 1)) funcs) fun rv54 hg55 => ?_
    have hc56 := fn74 ((((f.Blocks.getD v30_14.toNat default).Stmts).getD v38_30.toNat default)) a41 k42 a43 k44 ((v38_30 == ((((f.Blocks.getD v30_14.toNat default).Stmts).length : Int) - 1))) funcsP funcs pre pre rv54 hg55
    refine Oc [2, 3, 10] ca74 hc56 ?_
    rintro - he57
    unfold i64ok at he57
    refine Oq Va (KS ?_)
    refine Oq Vm (Oq Vneq (KS ?_))
    refine Kc ?_ ?_
    ·intro h58
     have g59 := ne_of_bne h58
     refine KS ?_
     refine Oq Vm (Oq Vm (Oq Vm (Oq (Vbd st63 [vi 3, vi i, vi v30_14, vi v38_30]) (Oq Vm (Ost (Scl [9] sh63 [vi 3, vi i, vi v30_14, vi v38_30]) (Oq Va (KS ?_)))))))
     have hR60 := q2 hM31 (.ret ((GNode.mk 3 i v30_14 v38_30), rv54)) (by simp only [vd_function_L1, h38, h52, h58, hg55, cs4])
     have hR61 := q2 hM15 (.ret ((GNode.mk 3 i v30_14 v38_30), rv54)) (by simp only [vd_function_L0, h21, h38, h52, h58, hg55, hR60, cs4])
     have hq := q4 hrr ((GNode.mk 3 i v30_14 v38_30), rv54) (by simp only [vd_function, h10, h21, h38, h52, h58, hg6, hg55, hR60, hR61, cs4]); subst hq
     exact Kr () rfl (.cellN 0 rfl sh63 rfl (reads_Cl _ _) rfl (.tmp rfl .nil)) [1] en
    intro h58
    have g62 := eq_of_bne_false h58
    refine KS ?_
    refine Oq Vadd (Oq Vm (KS ?_))
    exact Kg (r40, (v38_30 + 1)) [5, 5, 6, 6, 7, 7, 0] ⟨(q3 hM31 (by simp only [vd_function_L1, h38, h52, h58, hg55, cs4])), aM1, aM1, aM1, aM1⟩
   intro h52
   have g63 := ne_of_beq_false h52
   refine KS ?_
   refine Oq (VldA sh37 0) (Oq Vm (Oq (Vfa fo34_1 4) (Oq (VldF sh32 4) (Oq (Vlen sl32) (Oq Vsub (Oq Veql (Oq Vm ?_)))))))
   refine letv (vd_statement (((f.Blocks.getD v30_14.toNat default).Stmts).getD v38_30.toNat default) (v38_30 == ((((f.Blocks.getD v30_14.toNat default).Stmts).length : Int) - 1)) rv5.2) fun rv64 hg65 => ?_
   have hc66 := fn74 ((((f.Blocks.getD v30_14.toNat default).Stmts).getD v38_30.toNat default)) a41 k42 a43 k44 ((v38_30 == ((((f.Blocks.getD v30_14.toNat default).Stmts).length : Int) - 1))) (mv b9) rv5.2 pre pre rv64 hg65
   refine Oc [2, 3, 6] ca74 hc66 ?_
   rintro - he67
   unfold i64ok at he67
   refine Oq Va (KS ?_)
   refine Oq Vm (Oq Vneq (KS ?_))
   refine Kc ?_ ?_
   ·intro h68
    have g69 := ne_of_bne h68
    refine KS ?_
    refine Oq Vm (Oq Vm (Oq Vm (Oq (Vbd st63 [vi 3, vi i, vi v30_14, vi v38_30]) (Oq Vm (Ost (Scl [8] sh63 [vi 3, vi i, vi v30_14, vi v38_30]) (Oq Va (KS ?_)))))))
    have hR70 := q2 hM31 (.ret ((GNode.mk 3 i v30_14 v38_30), rv64)) (by simp only [vd_function_L1, h38, h52, h68, hg65, cs4])
    have hR71 := q2 hM15 (.ret ((GNode.mk 3 i v30_14 v38_30), rv64)) (by simp only [vd_function_L0, h21, h38, h52, h68, hg65, hR70, cs4])
    have hq := q4 hrr ((GNode.mk 3 i v30_14 v38_30), rv64) (by simp only [vd_function, h10, h21, h38, h52, h68, hg6, hg65, hR70, hR71, cs4]); subst hq
    exact Kr () rfl (.cellN 0 rfl sh63 rfl (reads_Cl _ _) rfl (.tmp rfl .nil)) [10] en
   intro h68
   have g72 := eq_of_bne_false h68
   refine KS ?_
   refine Oq Vadd (Oq Vm (KS ?_))
   exact Kg (r40, (v38_30 + 1)) [5, 5, 0, 5, 6, 6, 7] ⟨(q3 hM31 (by simp only [vd_function_L1, h38, h52, h68, hg65, cs4])), aM1, aM1, aM1, aM1⟩
  intro h38
  have g73 := df h38
  obtain rfl : r29 = 0 := by omega
  refine Ke ?_
  have hR74 := q2 hM31 (.brk ()) (by simp only [vd_function_L1, h38, cs4])
  refine KS ?_
  refine Oq Vadd (Oq Vm (KS ?_))
  exact Kg (r23, (v30_14 + 1)) [2, 2, 3, 3, 4] ⟨(q3 hM15 (by simp only [vd_function_L0, h21, h38, hR74, cs4])), aM1, aM1, aM1, aM1⟩
 intro h21
 have g75 := df h21
 obtain rfl : r13 = 0 := by omega
 refine Ke ?_
 have hR76 := q2 hM15 (.brk ()) (by simp only [vd_function_L0, h21, cs4])
 refine KS ?_
 refine Oq (Vbd st63 [vi 0, vi 0, vi 0, vi 0]) (Ost (Scl [2] sh63 [vi 0, vi 0, vi 0, vi 0]) (Oq Va (KS ?_)))
 have hq := q4 hrr ((GNode.mk 0 0 0 0), 0) (by simp only [vd_function, h10, h21, hg6, hR76, cs4]); subst hq
 exact Kr () rfl (.cellN 0 rfl sh63 rfl (reads_Cl _ _) rfl (.tmp rfl .nil)) [4] en
theorem fn75 (s : GStmt) (sa2 : Option Addr) (sk2 : Nat) (sa3 : Option Addr) (sk3 : Nat) (cap0P : Value) (cap0 : Int) (cap1P : Value) (cap1 : Int) (hs_0 : i64ok s.Op) (hs_1 : s.Def.b.length ≤ 140737488355328) (hcap0_0 : i64ok cap0) (hcap1_0 : i64ok cap1) (hn : 0 ≤ cap0 ∧ cap0 ≤ 100000 ∧ 0 ≤ cap1 ∧ cap1 ≤ 100000) (rr : Int × Int) (hrr : vd_Sizes_1 s cap0 cap1 = rr) : FT Tryz.prog 75 #[.agg #[vi s.Op, .string (bs s.Def), vl sa2 sk2 s.Uses, vl sa3 sk3 s.Targets], cap0P, cap1P] [S sa2 sk2 s.Uses, S sa3 sk3 s.Targets, Cl cap0P [vi cap0], Cl cap1P [vi cap1]] (fun g : Unit => i64ok rr.1 ∧ i64ok rr.2 ∧ (cap0 ≤ rr.1 ∧ rr.1 ≤ cap0 + 2 ∧ cap1 ≤ rr.2 ∧ rr.2 ≤ cap1 + 3)) (fun g => .tuple #[]) (fun g => [Cl cap0P [vi rr.1], Cl cap1P [vi rr.2]]) := by
 refine FTi Tryz.func75 fun w0 M0 F0 => ?_
 unfold i64ok at hs_0 hcap0_0 hcap1_0
 refine Fb 16 0 fun _ => ?_
 refine FoS 0 fun ho2 => ?_
 refine Fb 16 1 fun _ => ?_
 refine FoS 1 fun ho4 => ?_
 refine KS ?_
 refine Oa (Ab [vi s.Op, .string (bs s.Def), vl sa2 sk2 s.Uses, vl sa3 sk3 s.Targets]) fun p5 => KS ?_
 refine Oq (Vld sh3 3) (Oq Vadd (Ost (Scl [3] sh3 [vi (cap0 + 1)]) (KS ?_)))
 refine Oq (Vfa fo37_0 1) (Oq (VldF sh3 1) (KS ?_))
 refine Oq Veql (Oq Va (KS ?_))
 refine Kc ?_ ?_
 ·intro h6
  have g7 := eq_of_beq h6
  refine KS ?_
  refine Oq (Vld sh3 0) (Oq Vadd (Ost (Scl [0] sh3 [vi ((cap0 + 1) + 1)]) (KS ?_)))
  refine Oq (Vld sh3 4) (Oq Vadd (Ost (Scl [4] sh3 [vi (cap1 + 3)]) (KS ?_)))
  have hq := q4 hrr (((cap0 + 1) + 1), (cap1 + 3)) (by simp only [vd_Sizes_1, h6, cs4]); subst hq
  exact Kz () rfl .nil [1, 0] en
 intro h6
 have g8 := ne_of_beq_false h6
 refine KS ?_
 refine Oq Veql (Oq Va (KS ?_))
 refine Kc ?_ ?_
 ·intro h9
  have g10 := eq_of_beq h9
  refine KS ?_
  refine Oq (Vld sh3 4) (Oq Vadd (Ost (Scl [4] sh3 [vi (cap1 + 2)]) (KS ?_)))
  have hq := q4 hrr ((cap0 + 1), (cap1 + 2)) (by simp only [vd_Sizes_1, h6, h9, cs4]); subst hq
  exact Kz () rfl .nil [1, 0] en
 intro h9
 have g11 := ne_of_beq_false h9
 refine KS ?_
 refine Oq (Vld sh3 4) (Oq Vadd (Ost (Scl [4] sh3 [vi (cap1 + 1)]) (KS ?_)))
 have hq := q4 hrr ((cap0 + 1), (cap1 + 1)) (by simp only [vd_Sizes_1, h6, h9, cs4]); subst hq
 exact Kz () rfl .nil [1, 0] en
theorem fn45m0 (p : GProgram) (pa0 : Option Addr) (pk0 : Nat) (st0P : Value) (st0 : Int) (st1P : Value) (st1 : Int) (kwLA : Option Addr) (kwLK : Nat) (hst0_0 : i64ok st0) (hst1_0 : i64ok st1) (hps : PSm p = true) (hn : 0 ≤ st0 ∧ st0 ≤ 100 ∧ 0 ≤ st1 ∧ st1 ≤ 100) (rr : Int × Int) (hrr : vd_each_Sizes_1 p st0 st1 = rr) : FT Tryz.prog 45 #[.agg #[vl pa0 pk0 p.Funcs], .func (.func 75) #[] #[st0P, st1P]] [S pa0 pk0 p.Funcs, Cl st0P [vi st0], Cl st1P [vi st1], pv (gp 0) [vl kwLA kwLK kwL], S kwLA kwLK kwL] (fun g : Unit => i64ok rr.1 ∧ i64ok rr.2 ∧ (0 ≤ rr.1 ∧ rr.1 ≤ 10000 ∧ 0 ≤ rr.2 ∧ rr.2 ≤ 20000)) (fun g => .tuple #[]) (fun g => [Cl st0P [vi rr.1], Cl st1P [vi rr.2]]) := by
 refine FTi Tryz.func45 fun w0 M0 F0 => ?_
 unfold i64ok at hst0_0 hst1_0
 refine Fb 40 0 fun _ => Fb 16 4 fun _ => ?_
 refine FoS 4 fun ho3 => ?_
 refine KS ?_
 refine Oa (Ab [vl pa0 pk0 p.Funcs]) fun p4 => KS ?_
 refine Oq (VldA sh25 0) ?_
 refine letv (sx_Valid p) fun rv5 hg6 => ?_
 have hc7 := fn39 p pa0 pk0 kwLA kwLK pre rv5 hg6
 refine Oc [1, 4, 5] ca39 hc7 ?_
 rintro - -
 refine Oq Vnot (KS ?_)
 refine Kc ?_ ?_
 ·intro h8
  have h10 := not_true h8
  have hq := q4 hrr (st0, st1) (by simp only [vd_each_Sizes_1, h8, h10, hg6, cs4]); subst hq
  exact Kr () rfl .nil [2, 2] en
 intro h8
 have h13 := not_false h8
 try have hVb := SVal_b (p := p) (by simp only [h8, h13, hg6])
 refine KS ?_
 refine Oq (Vfa fo25_0 0) (Oq (VldF sh23 0) (Oq (Vlen sl23) (Oq Vm (KS ?_))))
 refine Kl (γ := Nat × Int × Int × Int) (fun (r15, st00_16, st10_17, v16_18) => ⟨[(1, .func (.func 75) #[] #[st0P, st1P]), (14, vl pa0 pk0 p.Funcs), (15, vi (p.Funcs.length : Int)), (16, vi v16_18)], [S pa0 pk0 p.Funcs, Cl st0P [vi st00_16], Cl st1P [vi st10_17], pv (gp 0) [vl kwLA kwLK kwL], S kwLA kwLK kwL], vd_each_Sizes_1_L0 p r15 st00_16 st10_17 v16_18 = vd_each_Sizes_1_L0 p (((p.Funcs.length : Int) - 0).toNat) st0 st1 0 ∧ r15 = ((p.Funcs.length : Int) - v16_18).toNat ∧ (0 : Int) ≤ v16_18 ∧ v16_18 ≤ (p.Funcs.length : Int) ∧ (-9223372036854775808 ≤ st00_16 ∧ st00_16 ≤ 9223372036854775807) ∧ (-9223372036854775808 ≤ st10_17 ∧ st10_17 ≤ 9223372036854775807) ∧ (-9223372036854775808 ≤ v16_18 ∧ v16_18 ≤ 9223372036854775807) ∧ (0 ≤ st00_16 ∧ st00_16 ≤ 100 + 1100 * v16_18) ∧ (0 ≤ st10_17 ∧ st10_17 ≤ 100 + 1600 * v16_18), r15⟩) (((p.Funcs.length : Int) - 0).toNat, st0, st1, 0) [1, 2, 2, 2, 3] ⟨rfl, rfl, aM1, aM1, aM1, aM1, aM1, iv0, iv0⟩ ?_
 rintro ⟨r15, st00_16, st10_17, v16_18⟩ ⟨hM19, hr20, hi21, hi22, hk23, hk24, hk25, hv26, hv27⟩
 refine JJ_nx fun _ _ hL hA => ?_; dsimp only at hL hA; subst hL hA
 refine Fb 40 0 fun _ => Fb 16 4 fun _ => ?_
 refine FoS 4 fun ho30 => ?_
 refine KS ?_
 refine Oq Vlss (KS ?_)
 refine Kc ?_ ?_
 ·intro h31
  have g32 := dt h31
  have hVf := hVb.2 v16_18.toNat
  obtain ⟨r33, rfl⟩ := scc (n := r15) aM1
  refine KS ?_
  refine Oq (Vi sl23 0) ?_
  refine JJ_peek_GFunc v16_18.toNat 0 rfl rng fun a34 k35 hb36 => ?_
  refine Fb 40 1 fun _ => ?_
  refine Oq (VldA sh31 0) (Oa (Al ze31 [.string (bs (Str.mk [])), .slice none 0 0]) fun p38 => Ost (Scl [0] sh31 [.string (bs ((p.Funcs.getD v16_18.toNat default).Name)), vl a34 k35 ((p.Funcs.getD v16_18.toNat default).Blocks)]) (KS ?_))
  refine Oq (Vfa fo31_1 0) (Oq (VldF sh29 0) (Oq (Vlen sl29) (Oq Vm (KS ?_))))
  refine Kl (γ := Nat × Int × Int × Int) (fun (r39, st00_40, st10_41, v23_42) => ⟨[(1, .func (.func 75) #[] #[st0P, st1P]), (14, vl pa0 pk0 p.Funcs), (15, vi (p.Funcs.length : Int)), (16, vi v16_18), (21, vl a34 k35 ((p.Funcs.getD v16_18.toNat default).Blocks)), (22, vi (((p.Funcs.getD v16_18.toNat default).Blocks).length : Int)), (23, vi v23_42)], [S a34 k35 ((p.Funcs.getD v16_18.toNat default).Blocks), S pa0 pk0 p.Funcs, Cl st0P [vi st00_40], Cl st1P [vi st10_41], pv (gp 0) [vl kwLA kwLK kwL], S kwLA kwLK kwL], vd_each_Sizes_1_L1 ((p.Funcs.getD v16_18.toNat default).Blocks) r39 st00_40 st10_41 v23_42 = vd_each_Sizes_1_L1 ((p.Funcs.getD v16_18.toNat default).Blocks) ((((((p.Funcs.getD v16_18.toNat default).Blocks).length : Int) : Int) - 0).toNat) st00_16 st10_17 0 ∧ r39 = (((((p.Funcs.getD v16_18.toNat default).Blocks).length : Int) : Int) - v23_42).toNat ∧ (0 : Int) ≤ v23_42 ∧ (v23_42 ≤ (((p.Funcs.getD v16_18.toNat default).Blocks).length : Int) ∨ v23_42 = 0) ∧ (-9223372036854775808 ≤ st00_40 ∧ st00_40 ≤ 9223372036854775807) ∧ (-9223372036854775808 ≤ st10_41 ∧ st10_41 ≤ 9223372036854775807) ∧ (-9223372036854775808 ≤ v23_42 ∧ v23_42 ≤ 9223372036854775807) ∧ (0 ≤ st00_40 ∧ st00_40 ≤ st00_16 + 66 * v23_42) ∧ (0 ≤ st10_41 ∧ st10_41 ≤ st10_17 + 98 * v23_42), r39⟩) ((((((p.Funcs.getD v16_18.toNat default).Blocks).length : Int) : Int) - 0).toNat, st00_16, st10_17, 0) [2, 3, 4, 4, 4, 5] ⟨rfl, rfl, aM1, (.inr rfl), aM1, aM1, aM1, iv0, iv0⟩ ?_
  rintro ⟨r39, st00_40, st10_41, v23_42⟩ ⟨hM43, hr44, hi45, hi46, hk47, hk48, hk49, hv50, hv51⟩
  refine JJ_nx fun _ _ hL hA => ?_; dsimp only at hL hA; subst hL hA
  refine Fb 40 0 fun _ => Fb 40 1 fun _ => Fb 16 5 fun _ => ?_
  refine FoS 5 fun ho55 => ?_
  refine KS ?_
  refine Oq Vlss (KS ?_)
  refine Kc ?_ ?_
  ·intro h56
   have g57 := dt h56
   have hVk := hVf.2 v23_42.toNat
   obtain ⟨r58, rfl⟩ := scc (n := r39) aM1
   refine KS ?_
   refine Oq (Vi sl29 0) ?_
   refine JJ_peek_GBlock v23_42.toNat 0 rfl rng fun a59 k60 hb61 => ?_
   refine Fb 72 1 fun _ => ?_
   refine Oq (VldA sh34 0) (Oa (Al ze34 [.string (bs (Str.mk [])), .slice none 0 0]) fun p63 => Ost (Scl [0] sh34 [.string (bs ((((p.Funcs.getD v16_18.toNat default).Blocks).getD v23_42.toNat default).Name)), .slice a59 (((((p.Funcs.getD v16_18.toNat default).Blocks).getD v23_42.toNat default).Stmts).length) k60]) (KS ?_))
   refine Oq (Vfa fo34_1 0) (Oq (VldF sh32 0) (Oq (Vlen sl32) (Oq Vm (KS ?_))))
   refine Kl (γ := Nat × Int × Int × Int) (fun (r64, st00_65, st10_66, v30_67) => ⟨[(1, .func (.func 75) #[] #[st0P, st1P]), (14, vl pa0 pk0 p.Funcs), (15, vi (p.Funcs.length : Int)), (16, vi v16_18), (21, vl a34 k35 ((p.Funcs.getD v16_18.toNat default).Blocks)), (22, vi (((p.Funcs.getD v16_18.toNat default).Blocks).length : Int)), (23, vi v23_42), (28, .slice a59 (((((p.Funcs.getD v16_18.toNat default).Blocks).getD v23_42.toNat default).Stmts).length) k60), (29, vi (((((p.Funcs.getD v16_18.toNat default).Blocks).getD v23_42.toNat default).Stmts).length : Int)), (30, vi v30_67)], [S a59 k60 ((((p.Funcs.getD v16_18.toNat default).Blocks).getD v23_42.toNat default).Stmts), S a34 k35 ((p.Funcs.getD v16_18.toNat default).Blocks), S pa0 pk0 p.Funcs, Cl st0P [vi st00_65], Cl st1P [vi st10_66], pv (gp 0) [vl kwLA kwLK kwL], S kwLA kwLK kwL], vd_each_Sizes_1_L2 ((((p.Funcs.getD v16_18.toNat default).Blocks).getD v23_42.toNat default).Stmts) r64 st00_65 st10_66 v30_67 = vd_each_Sizes_1_L2 ((((p.Funcs.getD v16_18.toNat default).Blocks).getD v23_42.toNat default).Stmts) ((((((((p.Funcs.getD v16_18.toNat default).Blocks).getD v23_42.toNat default).Stmts).length : Int) : Int) - 0).toNat) st00_40 st10_41 0 ∧ r64 = (((((((p.Funcs.getD v16_18.toNat default).Blocks).getD v23_42.toNat default).Stmts).length : Int) : Int) - v30_67).toNat ∧ (0 : Int) ≤ v30_67 ∧ (v30_67 ≤ (((((p.Funcs.getD v16_18.toNat default).Blocks).getD v23_42.toNat default).Stmts).length : Int) ∨ v30_67 = 0) ∧ (-9223372036854775808 ≤ st00_65 ∧ st00_65 ≤ 9223372036854775807) ∧ (-9223372036854775808 ≤ st10_66 ∧ st10_66 ≤ 9223372036854775807) ∧ (-9223372036854775808 ≤ v30_67 ∧ v30_67 ≤ 9223372036854775807) ∧ (0 ≤ st00_65 ∧ st00_65 ≤ st00_40 + 2 * v30_67) ∧ (0 ≤ st10_66 ∧ st10_66 ≤ st10_41 + 3 * v30_67), r64⟩) ((((((((p.Funcs.getD v16_18.toNat default).Blocks).getD v23_42.toNat default).Stmts).length : Int) : Int) - 0).toNat, st00_40, st10_41, 0) [2, 3, 4, 5, 5, 5, 6] ⟨rfl, rfl, aM1, (.inr rfl), aM1, aM1, aM1, iv0, iv0⟩ ?_
   rintro ⟨r64, st00_65, st10_66, v30_67⟩ ⟨hM68, hr69, hi70, hi71, hk72, hk73, hk74, hv75, hv76⟩
   refine JJ_nx fun _ _ hL hA => ?_; dsimp only at hL hA; subst hL hA
   refine Fb 72 0 fun _ => Fb 40 1 fun _ => Fb 40 2 fun _ => Fb 16 6 fun _ => ?_
   refine FoS 6 fun ho81 => ?_
   refine KS ?_
   refine Oq Vlss (KS ?_)
   refine Kc ?_ ?_
   ·intro h82
    have g83 := dt h82
    have hVs := hVk.2 v30_67.toNat
    obtain ⟨r84, rfl⟩ := scc (n := r64) aM1
    refine KS ?_
    refine Oq (Vi sl32 0) ?_
    refine JJ_peek_GStmt v30_67.toNat 0 rfl rng fun a85 k86 a87 k88 hb89 hb90 => ?_
    unfold i64ok at hb89
    refine Fb 16 1 fun _ => ?_
    refine FoS 1 fun ho92 => ?_
    refine Fb 16 2 fun _ => ?_
    refine FoS 2 fun ho94 => ?_
    refine Oq (VldA sh37 0) (Oa (Al ze37 [vi 0, .string (bs (Str.mk [])), .slice none 0 0, .slice none 0 0]) fun p95 => Ost (Scl [0] sh37 [vi ((((((p.Funcs.getD v16_18.toNat default).Blocks).getD v23_42.toNat default).Stmts).getD v30_67.toNat default).Op), .string (bs ((((((p.Funcs.getD v16_18.toNat default).Blocks).getD v23_42.toNat default).Stmts).getD v30_67.toNat default).Def)), .slice a85 (((((((p.Funcs.getD v16_18.toNat default).Blocks).getD v23_42.toNat default).Stmts).getD v30_67.toNat default).Uses).length) k86, .slice a87 (((((((p.Funcs.getD v16_18.toNat default).Blocks).getD v23_42.toNat default).Stmts).getD v30_67.toNat default).Targets).length) k88]) (KS ?_))
    refine Oq Vm (Oq (VldA sh37 0) ?_)
    refine letv (vd_Sizes_1 (((((p.Funcs.getD v16_18.toNat default).Blocks).getD v23_42.toNat default).Stmts).getD v30_67.toNat default) st00_65 st10_66) fun rv96 hg97 => ?_
    have hc98 := fn75 ((((((p.Funcs.getD v16_18.toNat default).Blocks).getD v23_42.toNat default).Stmts).getD v30_67.toNat default)) a85 k86 a87 k88 st0P st00_65 st1P st10_66 pre pre pre pre pre rv96 hg97
    refine JO_call [2, 3, 7, 7] rfl rfl rfl (OpC.clo (asv := [(.agg #[vi ((((((p.Funcs.getD v16_18.toNat default).Blocks).getD v23_42.toNat default).Stmts).getD v30_67.toNat default).Op), .string (bs ((((((p.Funcs.getD v16_18.toNat default).Blocks).getD v23_42.toNat default).Stmts).getD v30_67.toNat default).Def)), .slice a85 (((((((p.Funcs.getD v16_18.toNat default).Blocks).getD v23_42.toNat default).Stmts).getD v30_67.toNat default).Uses).length) k86, .slice a87 (((((((p.Funcs.getD v16_18.toNat default).Blocks).getD v23_42.toNat default).Stmts).getD v30_67.toNat default).Targets).length) k88] : Value), (st0P : Value), (st1P : Value)]) rfl rfl ca75 rfl (by simp)) hc98 rfl ?_
    rintro - ⟨he99, he100, he101⟩
    unfold i64ok at he99 he100
    refine KS ?_
    refine Oq Vadd (Oq Vm (KS ?_))
    exact Kg (r84, rv96.1, rv96.2, (v30_67 + 1)) [6, 7, 8, 0, 0, 7, 8] ⟨(q3 hM68 (by simp only [vd_each_Sizes_1_L2, h82, hg97, cs4])), aM1, aM1, aM1, aM1, aM1, aM1, iv1, iv1⟩
   intro h82
   have g102 := df h82
   obtain rfl : r64 = 0 := by omega
   refine Ke ?_
   have hR103 := q2 hM68 (st00_65, st10_66) (by simp only [vd_each_Sizes_1_L2, h82, cs4])
   refine KS ?_
   refine Oq Vadd (Oq Vm (KS ?_))
   exact Kg (r58, st00_65, st10_66, (v23_42 + 1)) [1, 2, 3, 3, 3, 4] ⟨(q3 hM43 (by simp only [vd_each_Sizes_1_L1, h56, h82, hR103, cs4])), aM1, aM1, aM1, aM1, aM1, aM1, iv1, iv1⟩
  intro h56
  have g104 := df h56
  obtain rfl : r39 = 0 := by omega
  refine Ke ?_
  have hR105 := q2 hM43 (st00_40, st10_41) (by simp only [vd_each_Sizes_1_L1, h56, cs4])
  refine KS ?_
  refine Oq Vadd (Oq Vm (KS ?_))
  exact Kg (r33, st00_40, st10_41, (v16_18 + 1)) [1, 2, 2, 2, 3] ⟨(q3 hM19 (by simp only [vd_each_Sizes_1_L0, h31, h56, hR105, cs4])), aM1, aM1, aM1, aM1, aM1, aM1, iv1, iv1⟩
 intro h31
 have g106 := df h31
 obtain rfl : r15 = 0 := by omega
 refine Ke ?_
 have hR107 := q2 hM19 (st00_16, st10_17) (by simp only [vd_each_Sizes_1_L0, h31, cs4])
 have hq := q4 hrr (st00_16, st10_17) (by simp only [vd_each_Sizes_1, h8, h13, h31, hg6, hR107, cs4]); subst hq
 exact Kz () rfl .nil [1, 1] en
theorem fn43 (p : GProgram) (pa0 : Option Addr) (pk0 : Nat) (kwLA : Option Addr) (kwLK : Nat) (hps : PSm p = true) (rr : Int × Int) (hrr : vd_Sizes p = rr) : FT Tryz.prog 43 #[.agg #[vl pa0 pk0 p.Funcs]] [S pa0 pk0 p.Funcs, pv (gp 0) [vl kwLA kwLK kwL], S kwLA kwLK kwL] (fun g : Unit => i64ok rr.1 ∧ i64ok rr.2 ∧ (0 ≤ rr.1 ∧ rr.1 ≤ 10000 ∧ 0 ≤ rr.2 ∧ rr.2 ≤ 20000)) (fun g => .tuple #[vi rr.1, vi rr.2]) (fun g => []) := by
 refine FTi Tryz.func43 fun w0 M0 F0 => Fb 40 0 fun _ => Fb 16 2 fun _ => ?_
 refine FoS 2 fun ho3 => ?_
 refine KS ?_
 refine Oa (Ab [vl pa0 pk0 p.Funcs]) fun p4 => Oq Va (Oq Va (KS ?_))
 refine Oq (VldA sh25 0) ?_
 refine letv (sx_Valid p) fun rv5 hg6 => ?_
 have hc7 := fn39 p pa0 pk0 kwLA kwLK pre rv5 hg6
 refine Oc [1, 2, 3] ca39 hc7 ?_
 rintro - -
 refine Oq Vnot (KS ?_)
 refine Kc ?_ ?_
 ·intro h8
  have h10 := not_true h8
  refine KS ?_
  refine Oq Va (Oq Va (KS ?_))
  have hq := q4 hrr (0, 0) (by simp only [vd_Sizes, h8, h10, hg6, cs4]); subst hq
  exact Kr () rfl (.tmp rfl (.tmp rfl .nil)) [] en
 intro h8
 have h13 := not_false h8
 try have hVb := SVal_b (p := p) (by simp only [h8, h13, hg6])
 refine KS ?_
 refine JK_drawK [0, 1, 3, 7, 0, 16, 48, 0, 0, 399, 1023] fmix ?_
 refine Dv [0] (Vfa fo25_0 0) (Dv [0] (VldF sh23 0) (Dv [] (Vlen sl23) (Dv [] Vmul (Dv [0] (Vfa fo25_0 0) (Dv [0] (VldF sh23 0) (Dv [] (Vlen sl23) (Dx [] [] [0] (fun G => (G.g 7 0)) [fun G => Cl (G.g 7 0) [vi 0]] (fun G => xA (Al ze3 [vi 0])) (Dx [] [] [0] (fun G => (G.g 8 0)) [fun G => Cl (G.g 8 0) [vi 0]] (fun G => xA (Al ze3 [vi 0])) (Dx0 [4] [4] [0] [fun G => Cl (G.g 7 0) [vi (2 * (p.Funcs.length : Int))]] (fun G => xS (Scl [0] sh3 [vi (2 * (p.Funcs.length : Int))])) ?_)))))))))
 refine Dx0 [5] [5] [0] [fun G => Cl (G.g 8 0) [vi (p.Funcs.length : Int)]] (fun G => xS (Scl [0] sh3 [vi (p.Funcs.length : Int)])) ?_
 refine Dn ⟨by kernel_rfl, fun G => ?_⟩
 refine Jw2 [(1, p4), (4, (G.g 7 0)), (5, (G.g 8 0))] [0, 1, 2, 3] [Cl (G.g 7 0) [vi (2 * (p.Funcs.length : Int))], Cl (G.g 8 0) [vi (p.Funcs.length : Int)]] ?_
 generalize G.g 7 0 = p15, G.g 8 0 = p16
 refine KS ?_
 refine Oq (VldA sh25 0) (Oq (Vf [p15, p16]) ?_)
 refine letv (vd_each_Sizes_1 p (2 * (p.Funcs.length : Int)) (p.Funcs.length : Int)) fun rv17 hg18 => ?_
 have hc19 := fn45m0 p pa0 pk0 p15 (2 * (p.Funcs.length : Int)) p16 (p.Funcs.length : Int) kwLA kwLK pre pre pre pre rv17 hg18
 refine Oc [1, 4, 4, 2, 3] ca45 hc19 ?_
 rintro - ⟨he20, he21, he22⟩
 unfold i64ok at he20 he21
 refine KS ?_
 refine Kq [0, 0, 1, 7] fmix ?_
 refine Qv [0] (Vld sh3 0) (Qv [1] (Vld sh3 0) (Qv [] Va (Qv [] Va ?_)))
 refine Qn ⟨by kernel_rfl, ?_⟩
 have hq := q4 hrr (rv17.1, rv17.2) (by simp only [vd_Sizes, h8, h13, hg6, hg18, cs4]); subst hq
 exact Kr () rfl (.tmp rfl (.tmp rfl .nil)) [] en
theorem fn20 (p : GProgram) (pa0 : Option Addr) (pk0 : Nat) (kwLA : Option Addr) (kwLK : Nat) (hps : PSm p = true) (rr : GNode × Int) (hrr : vd_Check p = rr) : FT Tryz.prog 20 #[.agg #[vl pa0 pk0 p.Funcs]] [S pa0 pk0 p.Funcs, pv (gp 0) [vl kwLA kwLK kwL], S kwLA kwLK kwL] (fun g : Unit => i64ok rr.1.Kind ∧ i64ok rr.1.Func ∧ i64ok rr.1.Block ∧ i64ok rr.1.Stmt ∧ i64ok rr.2) (fun g => .tuple #[.agg #[vi rr.1.Kind, vi rr.1.Func, vi rr.1.Block, vi rr.1.Stmt], vi rr.2]) (fun g => []) := by
 refine FTi Tryz.func20 fun w0 M0 F0 => Fb 40 0 fun _ => Fb 16 2 fun _ => ?_
 refine FoS 2 fun ho3 => ?_
 refine KS ?_
 refine Oa (Ab [vl pa0 pk0 p.Funcs]) fun p4 => Oa (Al ze63 [vi 0, vi 0, vi 0, vi 0]) fun p5 => Oq Va (KS ?_)
 refine Oq (VldA sh25 1) ?_
 refine letv (sx_Valid p) fun rv6 hg7 => ?_
 have hc8 := fn39 p pa0 pk0 kwLA kwLK pre rv6 hg7
 refine Oc [2, 3, 4] ca39 hc8 ?_
 rintro - -
 refine Oq Vnot (KS ?_)
 refine Kc ?_ ?_
 ·intro h9
  have h11 := not_true h9
  refine KS ?_
  refine Oq (Vbd st63 [vi 0, vi 0, vi 0, vi 0]) (Ost (Scl [0] sh63 [vi 0, vi 0, vi 0, vi 0]) (Oq Va (KS ?_)))
  have hq := q4 hrr ((GNode.mk 0 0 0 0), 1) (by simp only [vd_Check, h9, h11, hg7, cs4]); subst hq
  exact Kr () rfl (.cellN 0 rfl sh63 rfl (reads_Cl _ _) rfl (.tmp rfl .nil)) [] en
 intro h9
 have h14 := not_false h9
 refine KS ?_
 refine Oq (Vfa fo25_0 1) (Oq (VldF sh23 1) ?_)
 refine JJ_ent (Ent.pall [] rfl rfl) ?_
 refine letv (vd_duplicate_Func p.Funcs (fun x0 => vd_Check_1 x0)) fun rv17 hg18 => ?_
 have hc19 := fn40 p.Funcs pa0 pk0 41 [] (fun x0 => vd_Check_1 x0) [] ca41 (fun x0 a0 k0 hq0 => FT_pall (A1 := _) (fn41 x0 a0 k0  hq0 _ rfl)) rv17 hg18
 refine Oc [3, 0] ca40 hc19 ?_
 rintro c16 he20
 unfold i64ok at he20
 refine Jom 0 ?_; rintro b21 rfl
 refine Oq Vm (Oq Vx (Oq Vx (Oq Va (Oq Va (KS ?_)))))
 refine Oq Vm (Oq Vgeq (KS ?_))
 refine Kc ?_ ?_
 ·intro h22
  have g23 := dt h22
  refine KS ?_
  refine Oq Vm (Oq (Vbd st63 [vi 1, vi rv17.1, vi (-1), vi (-1)]) (Ost (Scl [2] sh63 [vi 1, vi rv17.1, vi (-1), vi (-1)]) (Oq Va (KS ?_))))
  have hq := q4 hrr ((GNode.mk 1 rv17.1 (-1) (-1)), 6) (by simp only [vd_Check, h9, h14, h22, hg7, hg18, cs4]); subst hq
  exact Kr () rfl (.cellN 0 rfl sh63 rfl (reads_Cl _ _) rfl (.tmp rfl .nil)) [] en
 intro h22
 have g24 := df h22
 refine KS ?_
 refine Oq (Vfa fo25_0 3) (Oq (VldF sh23 3) (Oq (Vlen sl23) (Oq Vm (KS ?_))))
 refine Kl (γ := Nat × Int) (fun (r25, v29_26) => ⟨[(1, p4), (2, p5), (5, (mv b21)), (27, vl pa0 pk0 p.Funcs), (28, vi (p.Funcs.length : Int)), (29, vi v29_26)], [Mp vstr vb okStr (mv b21) rv17.2, pAll [], Cl p5 [vi 0, vi 0, vi 0, vi 0], pv p4 [vl pa0 pk0 p.Funcs], S pa0 pk0 p.Funcs, pv (gp 0) [vl kwLA kwLK kwL], S kwLA kwLK kwL], vd_Check_L0 p rv17.2 r25 v29_26 = vd_Check_L0 p rv17.2 (((p.Funcs.length : Int) - 0).toNat) 0 ∧ r25 = ((p.Funcs.length : Int) - v29_26).toNat ∧ (0 : Int) ≤ v29_26 ∧ v29_26 ≤ (p.Funcs.length : Int) ∧ (-9223372036854775808 ≤ v29_26 ∧ v29_26 ≤ 9223372036854775807), r25⟩) (((p.Funcs.length : Int) - 0).toNat, 0) [0, 0, 1, 1, 2, 3, 4] ⟨rfl, rfl, aM1, aM1, aM1⟩ ?_
 rintro ⟨r25, v29_26⟩ ⟨hM27, hr28, hi29, hi30, hk31⟩
 refine JJ_nx fun _ _ hL hA => ?_; dsimp only at hL hA; subst hL hA
 refine Fb 40 4 fun _ => Fb 16 6 fun _ => ?_
 refine FoS 6 fun ho34 => ?_
 refine KS ?_
 refine Oq Vlss (KS ?_)
 refine Kc ?_ ?_
 ·intro h35
  have g36 := dt h35
  obtain ⟨r37, rfl⟩ := scc (n := r25) aM1
  refine KS ?_
  refine Oq Vm (Oq (Vi sl23 4) ?_)
  refine JJ_peek_GFunc v29_26.toNat 4 rfl rng fun a38 k39 hb40 => ?_
  refine Fb 40 1 fun _ => ?_
  refine Oq (VldA sh31 0) (Oa (Al ze31 [.string (bs (Str.mk [])), .slice none 0 0]) fun p42 => Oq Va (Ost (Scl [0] sh31 [.string (bs ((p.Funcs.getD v29_26.toNat default).Name)), vl a38 k39 ((p.Funcs.getD v29_26.toNat default).Blocks)]) (KS ?_)))
  refine Oq (VldA sh31 0) (Oq Vm (Oq Vm ?_))
  refine letv (vd_function (p.Funcs.getD v29_26.toNat default) v29_26 rv17.2) fun rv43 hg44 => ?_
  have hc45 := fn42 ((p.Funcs.getD v29_26.toNat default)) a38 k39 v29_26 (mv b21) rv17.2 pre pre rv43 hg44
  refine Oc [2, 3] ca42 hc45 ?_
  rintro - ⟨he46, he47, he48, he49, he50⟩
  unfold i64ok at he46 he47 he48 he49 he50
  refine Oq Vm (Oq Vx (Oq Vx (Oa (Al ze63 [vi 0, vi 0, vi 0, vi 0]) fun p51 => Ost (Scl [0] sh63 [vi rv43.1.Kind, vi rv43.1.Func, vi rv43.1.Block, vi rv43.1.Stmt]) (Oq Va (KS ?_)))))
  refine Oq Vm (Oq Vneq (KS ?_))
  refine Kc ?_ ?_
  ·intro h52
   have g53 := ne_of_bne h52
   refine KS ?_
   refine Oq (VldA sh63 0) (Oq Vm (Ost (Scl [6] sh63 [vi rv43.1.Kind, vi rv43.1.Func, vi rv43.1.Block, vi rv43.1.Stmt]) (Oq Va (KS ?_))))
   have hR54 := q2 hM27 (.ret (rv43.1, rv43.2)) (by simp only [vd_Check_L0, h35, h52, hg44, cs4])
   have hq := q4 hrr (rv43.1, rv43.2) (by simp only [vd_Check, h9, h14, h22, h35, h52, hg7, hg18, hg44, hR54, cs4]); subst hq
   exact Kr () rfl (.cellN 0 rfl sh63 rfl (reads_Cl _ _) rfl (.tmp rfl .nil)) [] en
  intro h52
  have g55 := eq_of_bne_false h52
  refine KS ?_
  refine Oq Vadd (Oq Vm (KS ?_))
  exact Kg (r37, (v29_26 + 1)) [1, 4, 5, 5, 6, 7, 8] ⟨(q3 hM27 (by simp only [vd_Check_L0, h35, h52, hg44, cs4])), aM1, aM1, aM1, aM1⟩
 intro h35
 have g56 := df h35
 obtain rfl : r25 = 0 := by omega
 refine Ke ?_
 have hR57 := q2 hM27 (.brk ()) (by simp only [vd_Check_L0, h35, cs4])
 refine KS ?_
 refine Oq (VldA sh25 3) ?_
 refine letv (vd_Sizes p) fun rv58 hg59 => ?_
 have hc60 := fn43 p pa0 pk0 kwLA kwLK pre rv58 hg59
 refine Oc [4, 5, 6] ca43 hc60 ?_
 rintro - ⟨he61, he62, he63⟩
 unfold i64ok at he61 he62
 refine Oq Vm (Oq Vx (Oq Vx (Oq Va (Oq Va (KS ?_)))))
 refine Oq (VldA sh25 3) ?_
 refine letv (vd_Variables p) fun rv65 hg66 => ?_
 have hc67 := fn21 p pa0 pk0 kwLA kwLK pre rv65 hg66
 refine Oc [4, 5, 6] ca21 hc67 ?_
 rintro c64 he68
 refine Jo 0 ?_; rintro a69 k70 rfl
 refine Fb 16 0 fun _ => ?_
 refine FoS 0 fun ho72 => ?_
 refine Oq (Vlen sl35) (Oq Vgtr (Oq Vm ?_))
 refine Js 55 ?_ ?_
 ·intro h73
  have g74 := dt h73
  refine Osk (Osk (Oq Vpt (Oq Vm (Osk (Osk (Oq Vpt (KS ?_)))))))
  refine Kt (KS ?_)
  refine Oq (Vbd st63 [vi 0, vi 0, vi 0, vi 0]) (Ost (Scl [3] sh63 [vi 0, vi 0, vi 0, vi 0]) (Oq Va (KS ?_)))
  have hq := q4 hrr ((GNode.mk 0 0 0 0), 7) (by simp only [vd_Check, h9, h14, h22, h35, h73, hg7, hg18, hR57, hg59, hg66, cs4]); subst hq
  exact Kr () rfl (.cellN 0 rfl sh63 rfl (reads_Cl _ _) rfl (.tmp rfl .nil)) [] en
 intro h73
 have g75 := df h73
 refine Oq Vm (Oq Vgtr (Oq Vpf (Oq Vm ?_)))
 refine Js 59 ?_ ?_
 ·intro h76
  have g77 := dt h76
  refine Osk (Osk (Oq Vpt (KS ?_)))
  refine Kt (KS ?_)
  refine Oq (Vbd st63 [vi 0, vi 0, vi 0, vi 0]) (Ost (Scl [3] sh63 [vi 0, vi 0, vi 0, vi 0]) (Oq Va (KS ?_)))
  have hq := q4 hrr ((GNode.mk 0 0 0 0), 7) (by simp only [vd_Check, h9, h14, h22, h35, h73, h76, hg7, hg18, hR57, hg59, hg66, cs4]); subst hq
  exact Kr () rfl (.cellN 0 rfl sh63 rfl (reads_Cl _ _) rfl (.tmp rfl .nil)) [] en
 intro h76
 have g78 := df h76
 refine Oq Vm (Oq Vgtr (Oq Vpf (KS ?_)))
 refine Kc ?_ ?_
 ·intro h79
  have g80 := dt h79
  refine KS ?_
  refine Oq (Vbd st63 [vi 0, vi 0, vi 0, vi 0]) (Ost (Scl [3] sh63 [vi 0, vi 0, vi 0, vi 0]) (Oq Va (KS ?_)))
  have hq := q4 hrr ((GNode.mk 0 0 0 0), 7) (by simp only [vd_Check, h9, h14, h22, h35, h73, h76, h79, hg7, hg18, hR57, hg59, hg66, cs4]); subst hq
  exact Kr () rfl (.cellN 0 rfl sh63 rfl (reads_Cl _ _) rfl (.tmp rfl .nil)) [] en
 intro h79
 have g81 := df h79
 refine KS ?_
 refine Oq (Vbd st63 [vi 0, vi 0, vi 0, vi 0]) (Ost (Scl [3] sh63 [vi 0, vi 0, vi 0, vi 0]) (Oq Va (KS ?_)))
 have hq := q4 hrr ((GNode.mk 0 0 0 0), 0) (by simp only [vd_Check, h9, h14, h22, h35, h73, h76, h79, hg7, hg18, hR57, hg59, hg66, cs4]); subst hq
 exact Kr () rfl (.cellN 0 rfl sh63 rfl (reads_Cl _ _) rfl (.tmp rfl .nil)) [] en
theorem fn47 (p : GProgram) (pa0 : Option Addr) (pk0 : Nat) (kwLA : Option Addr) (kwLK : Nat) (hps : PSm p = true) (rr : List GNode) (hrr : nd_List p = rr) : FT Tryz.prog 47 #[.agg #[vl pa0 pk0 p.Funcs]] [S pa0 pk0 p.Funcs, pv (gp 0) [vl kwLA kwLK kwL], S kwLA kwLK kwL] (fun g : Value => (rr.length ≤ 20000)) (fun g => g) (fun g => [sl g rr]) := by
 refine FTi Tryz.func47 fun w0 M0 F0 => Fb 40 0 fun _ => Fb 16 2 fun _ => ?_
 refine FoS 2 fun ho3 => ?_
 refine KS ?_
 refine Oa (Ab [vl pa0 pk0 p.Funcs]) fun p4 => Oq Va (KS ?_)
 refine Oq (VldA sh25 0) ?_
 refine letv (vd_Check p) fun rv5 hg6 => ?_
 have hc7 := fn20 p pa0 pk0 kwLA kwLK pre rv5 hg6
 refine Oc [1, 2, 3] ca20 hc7 ?_
 rintro - ⟨he8, he9, he10, he11, he12⟩
 unfold i64ok at he8 he9 he10 he11 he12
 refine Oq Vm (Oq Vx (Oq Vx (Oa (Al ze63 [vi 0, vi 0, vi 0, vi 0]) fun p13 => Ost (Scl [0] sh63 [vi rv5.1.Kind, vi rv5.1.Func, vi rv5.1.Block, vi rv5.1.Stmt]) (Oq Va (KS ?_)))))
 refine Oq Vm (Oq Vneq (KS ?_))
 refine Kc ?_ ?_
 ·intro h14
  have g15 := ne_of_bne h14
  refine KS ?_
  refine Oq Va (KS ?_)
  refine Jl [] (Ent.slNil (α := GNode)) ?_
  have hq := q4 hrr ([] : List GNode) (by simp only [nd_List, h14, hg6, cs4]); subst hq
  exact Kr (.slice none 0 0) rfl (.tmp rfl .nil) [0] en
 intro h14
 have g16 := eq_of_bne_false h14
 have hVb := SVal_b (p := p) (Check_b (by assumption) (by assumption))
 refine KS ?_
 refine Oq Va (KS ?_)
 refine Oq (Vfa fo25_0 1) (Oq (VldF sh23 1) (Oq (Vlen sl23) (Oq Vm (KS ?_))))
 refine Jl [] (Ent.osNil (α := GNode)) ?_
 refine Kl (γ := Nat × List GNode × Int × Option Addr × Nat) (fun (r17, out_18, v22_19, a20, k21) => ⟨[(5, vl a20 k21 out_18), (20, vl pa0 pk0 p.Funcs), (21, vi (p.Funcs.length : Int)), (22, vi v22_19)], [O a20 k21 out_18, S pa0 pk0 p.Funcs, pv (gp 0) [vl kwLA kwLK kwL], S kwLA kwLK kwL], nd_List_L0 p r17 out_18 v22_19 = nd_List_L0 p (((p.Funcs.length : Int) - 0).toNat) [] 0 ∧ r17 = ((p.Funcs.length : Int) - v22_19).toNat ∧ (0 : Int) ≤ v22_19 ∧ v22_19 ≤ (p.Funcs.length : Int) ∧ (-9223372036854775808 ≤ v22_19 ∧ v22_19 ≤ 9223372036854775807) ∧ ((out_18.length : Int) ≤ 1100 * v22_19), r17⟩) (((p.Funcs.length : Int) - 0).toNat, [], 0, none, 0) [0, 2, 3, 4] ⟨rfl, rfl, aM1, aM1, aM1, iv0⟩ ?_
 rintro ⟨r17, out_18, v22_19, a20, k21⟩ ⟨hM22, hr23, hi24, hi25, hk26, hv27⟩
 refine JJ_nx fun _ _ hL hA => ?_; dsimp only at hL hA; subst hL hA
 refine Fb 32 0 fun _ => Fb 40 1 fun _ => Fb 16 3 fun _ => ?_
 refine FoS 3 fun ho31 => ?_
 refine KS ?_
 refine Oq Vlss (KS ?_)
 refine Kc ?_ ?_
 ·intro h32
  have g33 := dt h32
  have hVf := hVb.2 v22_19.toNat
  have hb8 : v22_19 ≤ 7 := by have := hVb.1; omega
  obtain ⟨r34, rfl⟩ := scc (n := r17) aM1
  refine KS ?_
  refine Oq Vm (Oq (Vi sl23 1) ?_)
  refine JJ_peek_GFunc v22_19.toNat 1 rfl rng fun a35 k36 hb37 => ?_
  refine Fb 40 1 fun _ => ?_
  refine Oq (VldA sh31 0) (Oa (Al ze31 [.string (bs (Str.mk [])), .slice none 0 0]) fun p39 => Oq Va (Ost (Scl [0] sh31 [.string (bs ((p.Funcs.getD v22_19.toNat default).Name)), vl a35 k36 ((p.Funcs.getD v22_19.toNat default).Blocks)]) (KS ?_)))
  refine Oq Vm (Oq Vm (Oq (Vbd st63 [vi 1, vi v22_19, vi (-1), vi (-1)]) (Oa (AsV sl71 sz71 [.agg #[vi 1, vi v22_19, vi (-1), vi (-1)]] [vi 1, vi v22_19, vi (-1), vi (-1)]) fun c40 => ?_)))
  refine Jo 0 ?_; rintro a41 k42 rfl
  refine Jl [0] (Ent.cr1 (α := GNode) (A := []) _ (GNode.mk 1 v22_19 (-1) (-1)) _ aB1 (fun h => ⟨rfl, aL1, aL1, aL1, aL1⟩)) ?_
  refine Oa (ApO [4, 0] sl71 sl71 sz71) fun c43 => ?_
  refine Jo 0 ?_; rintro a44 k45 rfl
  refine Fb 32 0 fun _ => ?_
  have hn47 := la out_18 ([(GNode.mk 1 v22_19 (-1) (-1))] : List GNode)
  refine Oq Va (KS ?_)
  refine Oq (Vfa fo31_1 1) (Oq (VldF sh29 1) (Oq (Vlen sl29) (Oq Vm (KS ?_))))
  refine Kl (γ := Nat × List GNode × Int × Option Addr × Nat) (fun (r48, out_49, v35_50, a51, k52) => ⟨[(20, vl pa0 pk0 p.Funcs), (21, vi (p.Funcs.length : Int)), (22, vi v22_19), (6, vi v22_19), (5, vl a51 k52 out_49), (33, vl a35 k36 ((p.Funcs.getD v22_19.toNat default).Blocks)), (34, vi (((p.Funcs.getD v22_19.toNat default).Blocks).length : Int)), (35, vi v35_50)], [O a51 k52 out_49, S a35 k36 ((p.Funcs.getD v22_19.toNat default).Blocks), S pa0 pk0 p.Funcs, pv (gp 0) [vl kwLA kwLK kwL], S kwLA kwLK kwL], nd_List_L1 v22_19 ((p.Funcs.getD v22_19.toNat default).Blocks) r48 out_49 v35_50 = nd_List_L1 v22_19 ((p.Funcs.getD v22_19.toNat default).Blocks) ((((((p.Funcs.getD v22_19.toNat default).Blocks).length : Int) : Int) - 0).toNat) (out_18 ++ [(GNode.mk 1 v22_19 (-1) (-1))]) 0 ∧ r48 = (((((p.Funcs.getD v22_19.toNat default).Blocks).length : Int) : Int) - v35_50).toNat ∧ (0 : Int) ≤ v35_50 ∧ (v35_50 ≤ (((p.Funcs.getD v22_19.toNat default).Blocks).length : Int) ∨ v35_50 = 0) ∧ (-9223372036854775808 ≤ v35_50 ∧ v35_50 ≤ 9223372036854775807) ∧ ((out_49.length : Int) ≤ 1100 * v22_19 + 1 + 66 * v35_50), r48⟩) ((((((p.Funcs.getD v22_19.toNat default).Blocks).length : Int) : Int) - 0).toNat, (out_18 ++ [(GNode.mk 1 v22_19 (-1) (-1))]), 0, a44, k45) [0, 2, 3, 4, 5] ⟨rfl, rfl, aM1, (.inr rfl), aM1, iv0⟩ ?_
  rintro ⟨r48, out_49, v35_50, a51, k52⟩ ⟨hM53, hr54, hi55, hi56, hk57, hv58⟩
  refine JJ_nx fun _ _ hL hA => ?_; dsimp only at hL hA; subst hL hA
  refine Fb 32 0 fun _ => Fb 40 1 fun _ => Fb 40 2 fun _ => Fb 16 4 fun _ => ?_
  refine FoS 4 fun ho63 => ?_
  refine KS ?_
  refine Oq Vlss (KS ?_)
  refine Kc ?_ ?_
  ·intro h64
   have g65 := dt h64
   have hVk := hVf.2 v35_50.toNat
   have hb16 : v35_50 ≤ 15 := by have := hVf.1; omega
   obtain ⟨r66, rfl⟩ := scc (n := r48) aM1
   refine KS ?_
   refine Oq Vm (Oq (Vi sl29 1) ?_)
   refine JJ_peek_GBlock v35_50.toNat 1 rfl rng fun a67 k68 hb69 => ?_
   refine Fb 72 1 fun _ => ?_
   refine Oq (VldA sh34 0) (Oa (Al ze34 [.string (bs (Str.mk [])), .slice none 0 0]) fun p71 => Oq Va (Ost (Scl [0] sh34 [.string (bs ((((p.Funcs.getD v22_19.toNat default).Blocks).getD v35_50.toNat default).Name)), .slice a67 (((((p.Funcs.getD v22_19.toNat default).Blocks).getD v35_50.toNat default).Stmts).length) k68]) (KS ?_)))
   refine Oq (Vfa fo34_1 0) (Oq (VldF sh32 0) (Oq (Vlen sl32) (Oq Vm (KS ?_))))
   refine Kl (γ := Nat × List GNode × Int × Option Addr × Nat) (fun (r72, out_73, v43_74, a75, k76) => ⟨[(20, vl pa0 pk0 p.Funcs), (21, vi (p.Funcs.length : Int)), (22, vi v22_19), (6, vi v22_19), (5, vl a75 k76 out_73), (33, vl a35 k36 ((p.Funcs.getD v22_19.toNat default).Blocks)), (34, vi (((p.Funcs.getD v22_19.toNat default).Blocks).length : Int)), (35, vi v35_50), (8, vi v35_50), (41, .slice a67 (((((p.Funcs.getD v22_19.toNat default).Blocks).getD v35_50.toNat default).Stmts).length) k68), (42, vi (((((p.Funcs.getD v22_19.toNat default).Blocks).getD v35_50.toNat default).Stmts).length : Int)), (43, vi v43_74)], [O a75 k76 out_73, S a67 k68 ((((p.Funcs.getD v22_19.toNat default).Blocks).getD v35_50.toNat default).Stmts), S a35 k36 ((p.Funcs.getD v22_19.toNat default).Blocks), S pa0 pk0 p.Funcs, pv (gp 0) [vl kwLA kwLK kwL], S kwLA kwLK kwL], nd_List_L2 v22_19 v35_50 ((((p.Funcs.getD v22_19.toNat default).Blocks).getD v35_50.toNat default).Stmts) r72 out_73 v43_74 = nd_List_L2 v22_19 v35_50 ((((p.Funcs.getD v22_19.toNat default).Blocks).getD v35_50.toNat default).Stmts) ((((((((p.Funcs.getD v22_19.toNat default).Blocks).getD v35_50.toNat default).Stmts).length : Int) : Int) - 0).toNat) out_49 0 ∧ r72 = (((((((p.Funcs.getD v22_19.toNat default).Blocks).getD v35_50.toNat default).Stmts).length : Int) : Int) - v43_74).toNat ∧ (0 : Int) ≤ v43_74 ∧ (v43_74 ≤ (((((p.Funcs.getD v22_19.toNat default).Blocks).getD v35_50.toNat default).Stmts).length : Int) ∨ v43_74 = 0) ∧ (-9223372036854775808 ≤ v43_74 ∧ v43_74 ≤ 9223372036854775807) ∧ ((out_73.length : Int) ≤ 1100 * v22_19 + 1 + 66 * v35_50 + 2 * v43_74), r72⟩) ((((((((p.Funcs.getD v22_19.toNat default).Blocks).getD v35_50.toNat default).Stmts).length : Int) : Int) - 0).toNat, out_49, 0, a51, k52) [3, 2, 3, 4, 5, 6] ⟨rfl, rfl, aM1, (.inr rfl), aM1, iv0⟩ ?_
   rintro ⟨r72, out_73, v43_74, a75, k76⟩ ⟨hM77, hr78, hi79, hi80, hk81, hv82⟩
   refine JJ_nx fun _ _ hL hA => ?_; dsimp only at hL hA; subst hL hA
   refine Fb 32 0 fun _ => Fb 72 1 fun _ => Fb 40 2 fun _ => Fb 40 3 fun _ => Fb 16 5 fun _ => ?_
   refine FoS 5 fun ho88 => ?_
   refine KS ?_
   refine Oq Vlss (KS ?_)
   refine Kc ?_ ?_
   ·intro h89
    have g90 := dt h89
    have hb32 : v43_74 ≤ 31 := by have := hVk.1; omega
    obtain ⟨r91, rfl⟩ := scc (n := r72) aM1
    refine KS ?_
    refine Oq Vm (Oq (Vi sl32 1) ?_)
    refine JJ_peek_GStmt v43_74.toNat 1 rfl rng fun a92 k93 a94 k95 hb96 hb97 => ?_
    unfold i64ok at hb96
    refine Fb 16 1 fun _ => ?_
    refine FoS 1 fun ho99 => ?_
    refine Fb 16 2 fun _ => ?_
    refine FoS 2 fun ho101 => ?_
    refine Oq (VldA sh37 0) (Oa (Al ze37 [vi 0, .string (bs (Str.mk [])), .slice none 0 0, .slice none 0 0]) fun p102 => Oq Va (Ost (Scl [0] sh37 [vi ((((((p.Funcs.getD v22_19.toNat default).Blocks).getD v35_50.toNat default).Stmts).getD v43_74.toNat default).Op), .string (bs ((((((p.Funcs.getD v22_19.toNat default).Blocks).getD v35_50.toNat default).Stmts).getD v43_74.toNat default).Def)), .slice a92 (((((((p.Funcs.getD v22_19.toNat default).Blocks).getD v35_50.toNat default).Stmts).getD v43_74.toNat default).Uses).length) k93, .slice a94 (((((((p.Funcs.getD v22_19.toNat default).Blocks).getD v35_50.toNat default).Stmts).getD v43_74.toNat default).Targets).length) k95]) (KS ?_)))
    refine Oq Vm (Oq Vm (Oq Vm (Oq Vm (Oq (Vbd st63 [vi 3, vi v22_19, vi v35_50, vi v43_74]) (Oa (AsV sl71 sz71 [.agg #[vi 3, vi v22_19, vi v35_50, vi v43_74]] [vi 3, vi v22_19, vi v35_50, vi v43_74]) fun c103 => ?_)))))
    refine Jo 0 ?_; rintro a104 k105 rfl
    refine Jl [0] (Ent.cr1 (α := GNode) (A := []) _ (GNode.mk 3 v22_19 v35_50 v43_74) _ aB1 (fun h => ⟨rfl, aL1, aL1, aL1, aL1⟩)) ?_
    refine Oa (ApO [5, 0] sl71 sl71 sz71) fun c106 => ?_
    refine Jo 0 ?_; rintro a107 k108 rfl
    refine Fb 32 0 fun _ => ?_
    have hn110 := la out_73 ([(GNode.mk 3 v22_19 v35_50 v43_74)] : List GNode)
    refine Oq Va (KS ?_)
    refine Oq (Vfa fo37_0 1) (Oq (VldF sh3 1) (Oq Veql (KS ?_)))
    refine Kc ?_ ?_
    ·intro h111
     have g112 := eq_of_beq h111
     refine KS ?_
     refine Oq Vm (Oq Vm (Oq Vm (Oq Vm (Oq (Vbd st63 [vi 4, vi v22_19, vi v35_50, vi v43_74]) (Oa (AsV sl71 sz71 [.agg #[vi 4, vi v22_19, vi v35_50, vi v43_74]] [vi 4, vi v22_19, vi v35_50, vi v43_74]) fun c113 => ?_)))))
     refine Jo 0 ?_; rintro a114 k115 rfl
     refine Jl [0] (Ent.cr1 (α := GNode) (A := []) _ (GNode.mk 4 v22_19 v35_50 v43_74) _ aB1 (fun h => ⟨rfl, aL1, aL1, aL1, aL1⟩)) ?_
     refine Oa (ApO [1, 0] sl71 sl71 sz71) fun c116 => ?_
     refine Jo 0 ?_; rintro a117 k118 rfl
     refine Fb 32 0 fun _ => ?_
     have hn120 := la ((out_73 ++ [(GNode.mk 3 v22_19 v35_50 v43_74)]) : List GNode) ([(GNode.mk 4 v22_19 v35_50 v43_74)] : List GNode)
     refine Oq Va (KS ?_)
     refine Oq Vadd (Oq Vm (KS ?_))
     exact Kg (r91, ((out_73 ++ [(GNode.mk 3 v22_19 v35_50 v43_74)]) ++ [(GNode.mk 4 v22_19 v35_50 v43_74)]), (v43_74 + 1), a117, k118) [0, 4, 5, 6, 7, 8] ⟨(q3 hM77 (by simp only [nd_List_L2, h89, h111, cs4])), aM1, aM1, aM1, aM1, iv1⟩
    intro h111
    have g121 := ne_of_beq_false h111
    refine KS ?_
    refine Oq Vadd (Oq Vm (KS ?_))
    exact Kg (r91, (out_73 ++ [(GNode.mk 3 v22_19 v35_50 v43_74)]), (v43_74 + 1), a107, k108) [0, 4, 5, 6, 7, 8] ⟨(q3 hM77 (by simp only [nd_List_L2, h89, h111, cs4])), aM1, aM1, aM1, aM1, iv1⟩
   intro h89
   have g122 := df h89
   obtain rfl : r72 = 0 := by omega
   refine Ke ?_
   have hR123 := q2 hM77 out_73 (by simp only [nd_List_L2, h89, cs4])
   refine KS ?_
   refine Oq Vadd (Oq Vm (KS ?_))
   exact Kg (r66, out_73, (v35_50 + 1), a75, k76) [0, 1, 2, 3, 4] ⟨(q3 hM53 (by simp only [nd_List_L1, h64, h89, hR123, cs4])), aM1, aM1, aM1, aM1, iv1⟩
  intro h64
  have g124 := df h64
  obtain rfl : r48 = 0 := by omega
  refine Ke ?_
  have hR125 := q2 hM53 out_49 (by simp only [nd_List_L1, h64, cs4])
  refine KS ?_
  refine Oq Vm (Oq Vm (Oq (Vbd st63 [vi 2, vi v22_19, vi (-1), vi (-1)]) (Oa (AsV sl71 sz71 [.agg #[vi 2, vi v22_19, vi (-1), vi (-1)]] [vi 2, vi v22_19, vi (-1), vi (-1)]) fun c126 => ?_)))
  refine Jo 0 ?_; rintro a127 k128 rfl
  refine Jl [0] (Ent.cr1 (α := GNode) (A := []) _ (GNode.mk 2 v22_19 (-1) (-1)) _ aB1 (fun h => ⟨rfl, aL1, aL1, aL1, aL1⟩)) ?_
  refine Oa (ApO [1, 0] sl71 sl71 sz71) fun c129 => ?_
  refine Jo 0 ?_; rintro a130 k131 rfl
  refine Fb 32 0 fun _ => ?_
  have hn133 := la out_49 ([(GNode.mk 2 v22_19 (-1) (-1))] : List GNode)
  refine Oq Va (KS ?_)
  refine Oq Vadd (Oq Vm (KS ?_))
  exact Kg (r34, (out_49 ++ [(GNode.mk 2 v22_19 (-1) (-1))]), (v22_19 + 1), a130, k131) [0, 1, 2, 3] ⟨(q3 hM22 (by simp only [nd_List_L0, h32, h64, hR125, cs4])), aM1, aM1, aM1, aM1, iv1⟩
 intro h32
 have g134 := df h32
 obtain rfl : r17 = 0 := by omega
 refine Ke ?_
 have hR135 := q2 hM22 out_18 (by simp only [nd_List_L0, h32, cs4])
 refine KS ?_
 refine Oq Vm (Oq Va (KS ?_))
 refine Jl [0] (Ent.freeze _ _) ?_
 have hq := q4 hrr out_18 (by simp only [nd_List, h14, h32, hg6, hR135, cs4]); subst hq
 exact Kr (vl a20 k21 out_18) rfl (.tmp rfl .nil) [0] en
theorem fn76 (n : GNode) (hn_0 : i64ok n.Kind) (hn_1 : i64ok n.Func) (hn_2 : i64ok n.Block) (hn_3 : i64ok n.Stmt) (rr : Bool) (hrr : nd_inside n = rr) : FT Tryz.prog 76 #[.agg #[vi n.Kind, vi n.Func, vi n.Block, vi n.Stmt]] [] (fun g : Unit => True) (fun g => vb rr) (fun g => []) := by
 refine FTi Tryz.func76 fun w0 M0 F0 => ?_
 unfold i64ok at hn_0 hn_1 hn_2 hn_3
 refine KS ?_
 refine Oa (Ab [vi n.Kind, vi n.Func, vi n.Block, vi n.Stmt]) fun p1 => Oq Va (KS ?_)
 refine Oq (Vfa fo63_0 0) (Oq (VldF sh3 0) (Oq Veql (Oq Vm ?_)))
 refine Js 6 ?_ ?_
 ·intro h2
  have g3 := eq_of_beq h2
  refine Osk (Osk (Osk (Oq Vpt (Oq Va (KS ?_)))))
  have hq := q4 hrr true (by simp only [nd_inside, h2, cs4]); subst hq
  exact Kr () rfl (.tmp rfl .nil) [] trivial
 intro h2
 have g4 := ne_of_beq_false h2
 refine Oq (Vfa fo63_0 0) (Oq (VldF sh3 0) (Oq Veql (Oq Vpf (Oq Va (KS ?_)))))
 have hq := q4 hrr (n.Kind == 4) (by simp only [nd_inside, h2, cs4]); subst hq
 exact Kr () rfl (.tmp rfl .nil) [] trivial
theorem fn77 (p : GProgram) (pa0 : Option Addr) (pk0 : Nat) (n : GNode) (kwLA : Option Addr) (kwLK : Nat) (hn_0 : i64ok n.Kind) (hn_1 : i64ok n.Func) (hn_2 : i64ok n.Block) (hn_3 : i64ok n.Stmt) (hps : PSm p = true) (rr : Int) (hrr : nd_Find p n = rr) : FT Tryz.prog 77 #[.agg #[vl pa0 pk0 p.Funcs], .agg #[vi n.Kind, vi n.Func, vi n.Block, vi n.Stmt]] [S pa0 pk0 p.Funcs, pv (gp 0) [vl kwLA kwLK kwL], S kwLA kwLK kwL] (fun g : Unit => i64ok rr ∧ (-1 ≤ rr ∧ rr ≤ 20000)) (fun g => vi rr) (fun g => []) := by
 refine FTi Tryz.func77 fun w0 M0 F0 => ?_
 unfold i64ok at hn_0 hn_1 hn_2 hn_3
 refine Fb 40 0 fun _ => Fb 16 2 fun _ => ?_
 refine FoS 2 fun ho3 => ?_
 refine KS ?_
 refine Oa (Ab [vl pa0 pk0 p.Funcs]) fun p4 => Oa (Ab [vi n.Kind, vi n.Func, vi n.Block, vi n.Stmt]) fun p5 => Oq Va (KS ?_)
 refine Oq (VldA sh25 1) ?_
 refine letv (nd_List p) fun rv7 hg8 => ?_
 have hc9 := fn47 p pa0 pk0 kwLA kwLK pre rv7 hg8
 refine Oc [2, 3, 4] ca47 hc9 ?_
 rintro c6 he10
 refine Jo 0 ?_; rintro a11 k12 rfl
 refine Fb 32 0 fun _ => ?_
 refine Oq (Vlen sl71) (Oq Vm (KS ?_))
 refine Kl (γ := Nat × Int) (fun (r14, v10_15) => ⟨[(3, p5), (8, vl a11 k12 rv7), (9, vi (rv7.length : Int)), (10, vi v10_15)], [S a11 k12 rv7, pv p5 [vi n.Kind, vi n.Func, vi n.Block, vi n.Stmt], pv (gp 0) [vl kwLA kwLK kwL], S kwLA kwLK kwL], nd_Find_L0 n rv7 r14 v10_15 = nd_Find_L0 n rv7 (((rv7.length : Int) - 0).toNat) 0 ∧ r14 = ((rv7.length : Int) - v10_15).toNat ∧ (0 : Int) ≤ v10_15 ∧ v10_15 ≤ (rv7.length : Int) ∧ (-9223372036854775808 ≤ v10_15 ∧ v10_15 ≤ 9223372036854775807), r14⟩) (((rv7.length : Int) - 0).toNat, 0) [0, 1, 4, 5] ⟨rfl, rfl, aM1, aM1, aM1⟩ ?_
 rintro ⟨r14, v10_15⟩ ⟨hM16, hr17, hi18, hi19, hk20⟩
 refine JJ_nx fun _ _ hL hA => ?_; dsimp only at hL hA; subst hL hA
 refine Fb 32 0 fun _ => Fb 16 3 fun _ => ?_
 refine FoS 3 fun ho23 => ?_
 refine KS ?_
 refine Oq Vlss (KS ?_)
 refine Kc ?_ ?_
 ·intro h24
  have g25 := dt h24
  obtain ⟨r26, rfl⟩ := scc (n := r14) aM1
  refine KS ?_
  refine Oq Vm (Oq (Vi sl71 0) ?_)
  refine JJ_peek_GNode v10_15.toNat 0 rfl rng fun hb27 hb28 hb29 hb30 => ?_
  unfold i64ok at hb27 hb28 hb29 hb30
  refine Oq (VldA sh63 0) (Oa (Al ze63 [vi 0, vi 0, vi 0, vi 0]) fun p31 => Oq Va (Ost (Scl [0] sh63 [vi ((rv7.getD v10_15.toNat default).Kind), vi ((rv7.getD v10_15.toNat default).Func), vi ((rv7.getD v10_15.toNat default).Block), vi ((rv7.getD v10_15.toNat default).Stmt)]) (KS ?_)))
  refine Oq (VldA sh63 0) (Oq (VldA sh63 3) (Oq (VeqA eqi63 (l := [(rv7.getD v10_15.toNat default).Kind, (rv7.getD v10_15.toNat default).Func, (rv7.getD v10_15.toNat default).Block, (rv7.getD v10_15.toNat default).Stmt]) (m := [n.Kind, n.Func, n.Block, n.Stmt])) (KS ?_)))
  refine Kc ?_ ?_
  ·intro h32
   have g33 := eq_of_beq h32
   refine KS ?_
   refine Oq Vm (Oq Va (KS ?_))
   have hR34 := q2 hM16 (.ret v10_15) (by simp only [nd_Find_L0, h24, h32, cs4])
   have hq := q4 hrr v10_15 (by simp only [nd_Find, h24, h32, hg8, hR34, cs4]); subst hq
   exact Kr () rfl (.tmp rfl .nil) [] en
  intro h32
  have g35 := ne_of_beq_false h32
  refine KS ?_
  refine Oq Vadd (Oq Vm (KS ?_))
  exact Kg (r26, (v10_15 + 1)) [2, 3, 4, 5] ⟨(q3 hM16 (by simp only [nd_Find_L0, h24, h32, cs4])), aM1, aM1, aM1, aM1⟩
 intro h24
 have g36 := df h24
 obtain rfl : r14 = 0 := by omega
 refine Ke ?_
 have hR37 := q2 hM16 (.brk ()) (by simp only [nd_Find_L0, h24, cs4])
 refine KS ?_
 refine Oq Va (KS ?_)
 have hq := q4 hrr (-1) (by simp only [nd_Find, h24, hg8, hR37, cs4]); subst hq
 exact Kr () rfl (.tmp rfl .nil) [] en
theorem fn48 (p : GProgram) (pa0 : Option Addr) (pk0 : Nat) (n : GNode) (kwLA : Option Addr) (kwLK : Nat) (hn_0 : i64ok n.Kind) (hn_1 : i64ok n.Func) (hn_2 : i64ok n.Block) (hn_3 : i64ok n.Stmt) (hps : PSm p = true) (rr : GStmt × Bool) (hrr : nd_Stmt p n = rr) : FT Tryz.prog 48 #[.agg #[vl pa0 pk0 p.Funcs], .agg #[vi n.Kind, vi n.Func, vi n.Block, vi n.Stmt]] [S pa0 pk0 p.Funcs, pv (gp 0) [vl kwLA kwLK kwL], S kwLA kwLK kwL] (fun g : Value × Value => i64ok rr.1.Op ∧ rr.1.Def.b.length ≤ 140737488355328) (fun g => .tuple #[.agg #[vi rr.1.Op, .string (bs rr.1.Def), g.1, g.2], vb rr.2]) (fun g => [sl g.1 rr.1.Uses, sl g.2 rr.1.Targets]) := by
 refine FTi Tryz.func48 fun w0 M0 F0 => ?_
 unfold i64ok at hn_0 hn_1 hn_2 hn_3
 refine Fb 40 0 fun _ => Fb 16 2 fun _ => ?_
 refine FoS 2 fun ho3 => ?_
 refine KS ?_
 refine Oa (Ab [vl pa0 pk0 p.Funcs]) fun p4 => Oa (Ab [vi n.Kind, vi n.Func, vi n.Block, vi n.Stmt]) fun p5 => Oa (Al ze37 [vi 0, .string (bs (Str.mk [])), .slice none 0 0, .slice none 0 0]) fun p6 => Oq Va (KS ?_)
 refine Oq (VldA sh63 1) ?_
 refine letv (nd_inside n) fun rv7 hg8 => ?_
 have hc9 := fn76 n pre pre pre pre rv7 hg8
 refine Oc [] ca76 hc9 ?_
 rintro - -
 refine Oq Vnot (Oq Vm ?_)
 refine Js 9 ?_ ?_
 ·intro h10
  have h12 := not_true h10
  refine Osk (Osk (Osk (Osk (Oq Vpt (KS ?_)))))
  refine Kt (KS ?_)
  refine Oq (Vbd st37 [vi 0, .string (bs (Str.mk [])), .slice none 0 0, .slice none 0 0]) (Ost (Scl [0] sh37 [vi 0, .string (bs (Str.mk [])), .slice none 0 0, .slice none 0 0]) (Oq Va (KS ?_)))
  refine Jl [] (Ent.slNil (α := Str)) ?_
  have hq := q4 hrr ((GStmt.mk 0 (Str.mk []) [] []), false) (by simp only [nd_Stmt, h10, h12, hg8, cs4]); subst hq
  exact Kr (.slice none 0 0, .slice none 0 0) rfl (.cellN 1 rfl sh37 rfl (reads_Cl _ _) rfl (.tmp rfl .nil)) [0, 0] en
 intro h10
 have h15 := not_false h10
 refine Oq (VldA sh25 2) (Oq (VldA sh63 1) ?_)
 refine letv (nd_Find p n) fun rv17 hg18 => ?_
 have hc19 := fn77 p pa0 pk0 n kwLA kwLK pre pre pre pre pre rv17 hg18
 refine Oc [3, 4, 5] ca77 hc19 ?_
 rintro - ⟨he20, he21⟩
 unfold i64ok at he20
 refine Oq Vlss (Oq Vpf (KS ?_))
 refine Kc ?_ ?_
 ·intro h22
  have g23 := dt h22
  refine KS ?_
  refine Oq (Vbd st37 [vi 0, .string (bs (Str.mk [])), .slice none 0 0, .slice none 0 0]) (Ost (Scl [0] sh37 [vi 0, .string (bs (Str.mk [])), .slice none 0 0, .slice none 0 0]) (Oq Va (KS ?_)))
  refine Jl [] (Ent.slNil (α := Str)) ?_
  have hq := q4 hrr ((GStmt.mk 0 (Str.mk []) [] []), false) (by simp only [nd_Stmt, h10, h15, h22, hg8, hg18, cs4]); subst hq
  exact Kr (.slice none 0 0, .slice none 0 0) rfl (.cellN 1 rfl sh37 rfl (reads_Cl _ _) rfl (.tmp rfl .nil)) [0, 0] en
 intro h22
 have g24 := df h22
 have hN := Find_in (by assumption) h22
 obtain ⟨hN1, hN2⟩ := hN
 have hk := inside_k (by assumption) (by assumption)
 have hN3 := hN2 aM1 aM1
 refine KS ?_
 refine JJ_peek_GFunc n.Func.toNat 3 rfl rng fun a25 k26 hb27 => ?_
 refine Fb 40 1 fun _ => ?_
 refine JJ_peek_GBlock n.Block.toNat 1 rfl rng fun a29 k30 hb31 => ?_
 refine Fb 72 1 fun _ => ?_
 refine JJ_peek_GStmt n.Stmt.toNat 1 rfl rng fun a33 k34 a35 k36 hb37 hb38 => ?_
 unfold i64ok at hb37
 refine Fb 16 1 fun _ => ?_
 refine FoS 1 fun ho40 => ?_
 refine Fb 16 2 fun _ => ?_
 refine FoS 2 fun ho42 => ?_
 refine JK_drawK [0, 1, 0, 4, 15, 31, 63, 0, 128, 511, 1023, 2047, 0, 4096, 16383, 32767, 65535, 131071] fmix ?_
 refine Dv [9] (Vfa fo25_0 0) (Dv [9] (VldF sh23 0) (Dv [8] (Vfa fo63_1 0) (Dv [8] (VldF sh3 0) (Dv [10] (Vi sl23 0) (Dv [5] (Vfa fo31_1 0) (Dv [5] (VldF sh29 0) (Dv [8] (Vfa fo63_2 0) (Dv [8] (VldF sh3 0) (Dv [6] (Vi sl29 0) ?_)))))))))
 refine Dv [3] (Vfa fo34_1 0) (Dv [3] (VldF sh32 0) (Dv [8] (Vfa fo63_3 0) (Dv [8] (VldF sh3 0) (Dv [4] (Vi sl32 0) (Dv [0] (VldA sh37 0) (Dx0 [7] [7] [0] [fun G => Cl p6 [vi ((((((p.Funcs.getD n.Func.toNat default).Blocks).getD n.Block.toNat default).Stmts).getD n.Stmt.toNat default).Op), .string (bs ((((((p.Funcs.getD n.Func.toNat default).Blocks).getD n.Block.toNat default).Stmts).getD n.Stmt.toNat default).Def)), .slice a33 (((((((p.Funcs.getD n.Func.toNat default).Blocks).getD n.Block.toNat default).Stmts).getD n.Stmt.toNat default).Uses).length) k34, .slice a35 (((((((p.Funcs.getD n.Func.toNat default).Blocks).getD n.Block.toNat default).Stmts).getD n.Stmt.toNat default).Targets).length) k36]] (fun G => xS (Scl [0] sh37 [vi ((((((p.Funcs.getD n.Func.toNat default).Blocks).getD n.Block.toNat default).Stmts).getD n.Stmt.toNat default).Op), .string (bs ((((((p.Funcs.getD n.Func.toNat default).Blocks).getD n.Block.toNat default).Stmts).getD n.Stmt.toNat default).Def)), .slice a33 (((((((p.Funcs.getD n.Func.toNat default).Blocks).getD n.Block.toNat default).Stmts).getD n.Stmt.toNat default).Uses).length) k34, .slice a35 (((((((p.Funcs.getD n.Func.toNat default).Blocks).getD n.Block.toNat default).Stmts).getD n.Stmt.toNat default).Targets).length) k36])) (Dv [] Va ?_)))))))
 refine Dn ⟨by kernel_rfl, fun G => ?_⟩
 refine Jw2 [(4, p6), (5, vb true)] [0, 1, 2, 3, 4, 5, 6, 8, 9, 10, 11, 12] [Cl p6 [vi ((((((p.Funcs.getD n.Func.toNat default).Blocks).getD n.Block.toNat default).Stmts).getD n.Stmt.toNat default).Op), .string (bs ((((((p.Funcs.getD n.Func.toNat default).Blocks).getD n.Block.toNat default).Stmts).getD n.Stmt.toNat default).Def)), .slice a33 (((((((p.Funcs.getD n.Func.toNat default).Blocks).getD n.Block.toNat default).Stmts).getD n.Stmt.toNat default).Uses).length) k34, .slice a35 (((((((p.Funcs.getD n.Func.toNat default).Blocks).getD n.Block.toNat default).Stmts).getD n.Stmt.toNat default).Targets).length) k36]] ?_
 have hq := q4 hrr ((((((p.Funcs.getD n.Func.toNat default).Blocks).getD n.Block.toNat default).Stmts).getD n.Stmt.toNat default), true) (by simp only [nd_Stmt, h10, h15, h22, hg8, hg18, cs4]); subst hq
 exact Kr (.slice a33 (((((((p.Funcs.getD n.Func.toNat default).Blocks).getD n.Block.toNat default).Stmts).getD n.Stmt.toNat default).Uses).length) k34, .slice a35 (((((((p.Funcs.getD n.Func.toNat default).Blocks).getD n.Block.toNat default).Stmts).getD n.Stmt.toNat default).Targets).length) k36) rfl (.cellN 12 rfl sh37 rfl (reads_Cl _ _) rfl (.tmp rfl .nil)) [1, 2] en
theorem fn49 (s : GStmt) (sa2 : Option Addr) (sk2 : Nat) (sa3 : Option Addr) (sk3 : Nat) (hs_0 : i64ok s.Op) (hs_1 : s.Def.b.length ≤ 140737488355328) (rr : Bool) (hrr : vd_Defines s = rr) : FT Tryz.prog 49 #[.agg #[vi s.Op, .string (bs s.Def), vl sa2 sk2 s.Uses, vl sa3 sk3 s.Targets]] [S sa2 sk2 s.Uses, S sa3 sk3 s.Targets] (fun g : Unit => True) (fun g => vb rr) (fun g => []) := by
 refine FTi Tryz.func49 fun w0 M0 F0 => ?_
 unfold i64ok at hs_0
 refine Fb 16 0 fun _ => ?_
 refine FoS 0 fun ho2 => ?_
 refine Fb 16 1 fun _ => ?_
 refine FoS 1 fun ho4 => ?_
 refine KS ?_
 refine Oa (Ab [vi s.Op, .string (bs s.Def), vl sa2 sk2 s.Uses, vl sa3 sk3 s.Targets]) fun p5 => Oq Va (KS ?_)
 refine Oq (Vfa fo37_0 0) (Oq (VldF sh3 0) (Oq Veql (Oq Vm ?_)))
 refine Js 6 ?_ ?_
 ·intro h6
  have g7 := eq_of_beq h6
  refine Osk (Osk (Osk (Oq Vpt (Oq Vm (Osk (Osk (Osk (Oq Vpt (Oq Va ?_)))))))))
  refine KS ?_
  have hq := q4 hrr true (by simp only [vd_Defines, h6, cs4]); subst hq
  exact Kr () rfl (.tmp rfl .nil) [] trivial
 intro h6
 have g8 := ne_of_beq_false h6
 refine Oq (Vfa fo37_0 0) (Oq (VldF sh3 0) (Oq Veql (Oq Vpf (Oq Vm ?_))))
 refine Js 11 ?_ ?_
 ·intro h9
  have g10 := eq_of_beq h9
  refine Osk (Osk (Osk (Oq Vpt (Oq Va (KS ?_)))))
  have hq := q4 hrr true (by simp only [vd_Defines, h6, h9, cs4]); subst hq
  exact Kr () rfl (.tmp rfl .nil) [] trivial
 intro h9
 have g11 := ne_of_beq_false h9
 refine Oq (Vfa fo37_0 0) (Oq (VldF sh3 0) (Oq Veql (Oq Vpf (Oq Va (KS ?_)))))
 have hq := q4 hrr (s.Op == 6) (by simp only [vd_Defines, h6, h9, cs4]); subst hq
 exact Kr () rfl (.tmp rfl .nil) [] trivial
theorem fn22 (p : GProgram) (pa0 : Option Addr) (pk0 : Nat) (vars : List Str) (varsa0 : Option Addr) (varsk0 : Nat) (kwLA : Option Addr) (kwLK : Nat) (hps : PSm p = true) (rr : List GFact) (hrr : fc_definitions p vars = rr) : FT Tryz.prog 22 #[.agg #[vl pa0 pk0 p.Funcs], vl varsa0 varsk0 vars] [S pa0 pk0 p.Funcs, S varsa0 varsk0 vars, pv (gp 0) [vl kwLA kwLK kwL], S kwLA kwLK kwL] (fun g : Value => (rr.length ≤ 20000)) (fun g => g) (fun g => [sl g rr]) := by
 refine FTi Tryz.func22 fun w0 M0 F0 => Fb 40 0 fun _ => Fb 16 1 fun _ => ?_
 refine FoS 1 fun ho3 => ?_
 refine Fb 16 3 fun _ => ?_
 refine FoS 3 fun ho5 => ?_
 refine KS ?_
 refine Oa (Ab [vl pa0 pk0 p.Funcs]) fun p6 => Oq Va (KS ?_)
 refine Oq Va (KS ?_)
 refine Oq (VldA sh25 0) ?_
 refine letv (nd_List p) fun rv8 hg9 => ?_
 have hc10 := fn47 p pa0 pk0 kwLA kwLK pre rv8 hg9
 refine Oc [1, 3, 4] ca47 hc10 ?_
 rintro c7 he11
 refine Jo 0 ?_; rintro a12 k13 rfl
 refine Fb 32 0 fun _ => ?_
 refine Oq (Vlen sl71) (Oq Vm (KS ?_))
 refine Jl [] (Ent.osNil (α := GFact)) ?_
 refine Kl (γ := Nat × List GFact × Int × Option Addr × Nat) (fun (r15, out_16, v13_17, a18, k19) => ⟨[(1, vl varsa0 varsk0 vars), (2, p6), (5, vl a18 k19 out_16), (11, vl a12 k13 rv8), (12, vi (rv8.length : Int)), (13, vi v13_17)], [O a18 k19 out_16, S a12 k13 rv8, pv p6 [vl pa0 pk0 p.Funcs], S pa0 pk0 p.Funcs, S varsa0 varsk0 vars, pv (gp 0) [vl kwLA kwLK kwL], S kwLA kwLK kwL], fc_definitions_L0 p vars rv8 r15 out_16 v13_17 = fc_definitions_L0 p vars rv8 (((rv8.length : Int) - 0).toNat) [] 0 ∧ r15 = ((rv8.length : Int) - v13_17).toNat ∧ (0 : Int) ≤ v13_17 ∧ v13_17 ≤ (rv8.length : Int) ∧ (-9223372036854775808 ≤ v13_17 ∧ v13_17 ≤ 9223372036854775807) ∧ ((out_16.length : Int) ≤ v13_17), r15⟩) (((rv8.length : Int) - 0).toNat, [], 0, none, 0) [0, 0, 1, 2, 3, 4, 5] ⟨rfl, rfl, aM1, aM1, aM1, iv0⟩ ?_
 rintro ⟨r15, out_16, v13_17, a18, k19⟩ ⟨hM20, hr21, hi22, hi23, hk24, hv25⟩
 refine JJ_nx fun _ _ hL hA => ?_; dsimp only at hL hA; subst hL hA
 refine Fb 16 0 fun _ => Fb 32 1 fun _ => Fb 40 3 fun _ => Fb 16 4 fun _ => ?_
 refine FoS 4 fun ho30 => ?_
 refine Fb 16 6 fun _ => ?_
 refine FoS 6 fun ho32 => ?_
 refine KS ?_
 refine Oq Vlss (KS ?_)
 refine Kc ?_ ?_
 ·intro h33
  have g34 := dt h33
  obtain ⟨r35, rfl⟩ := scc (n := r15) aM1
  refine KS ?_
  refine Oq Vm (Oq (Vi sl71 1) ?_)
  refine JJ_peek_GNode v13_17.toNat 1 rfl rng fun hb36 hb37 hb38 hb39 => ?_
  unfold i64ok at hb36 hb37 hb38 hb39
  refine Oq (VldA sh63 0) (Oa (Al ze63 [vi 0, vi 0, vi 0, vi 0]) fun p40 => Oq Va (Ost (Scl [0] sh63 [vi ((rv8.getD v13_17.toNat default).Kind), vi ((rv8.getD v13_17.toNat default).Func), vi ((rv8.getD v13_17.toNat default).Block), vi ((rv8.getD v13_17.toNat default).Stmt)]) (KS ?_)))
  refine Oq (VldA sh25 4) (Oq (VldA sh63 0) ?_)
  refine letv (nd_Stmt p (rv8.getD v13_17.toNat default)) fun rv43 hg44 => ?_
  have hc45 := fn48 p pa0 pk0 ((rv8.getD v13_17.toNat default)) kwLA kwLK pre pre pre pre pre rv43 hg44
  refine Oc [5, 7, 8] ca48 hc45 ?_
  rintro ⟨c41, c42⟩ ⟨he46, he47⟩
  unfold i64ok at he46
  refine Jo 0 ?_; rintro a48 k49 rfl
  refine Fb 16 0 fun _ => ?_
  refine FoS 0 fun ho51 => ?_
  refine Jo 1 ?_; rintro a52 k53 rfl
  refine Fb 16 1 fun _ => ?_
  refine FoS 1 fun ho55 => ?_
  refine Oq Vm (Oq Vx (Oq Vx (Oa (Al ze37 [vi 0, .string (bs (Str.mk [])), .slice none 0 0, .slice none 0 0]) fun p56 => Ost (Scl [0] sh37 [vi rv43.1.Op, .string (bs rv43.1.Def), vl a48 k49 rv43.1.Uses, vl a52 k53 rv43.1.Targets]) (Oq Va (KS ?_)))))
  refine Oq (Vfa fo63_0 3) (Oq (VldF sh3 3) (Oq Veql (Oq Vm ?_)))
  refine Js 27 ?_ ?_
  ·intro h57
   have g58 := eq_of_beq h57
   refine Oq (VldA sh37 0) ?_
   refine letv (vd_Defines rv43.1) fun rv59 hg60 => ?_
   have hc61 := fn49 rv43.1 a48 k49 a52 k53 pre pre rv59 hg60
   refine Oc [1, 2] ca49 hc61 ?_
   rintro - -
   refine Oq Vpt (KS ?_)
   refine Kc ?_ ?_
   ·intro h62
    refine KS ?_
    refine Oq Vm (Oq Vm (Oq Vm (Oq (Vfa fo37_1 0) (Oq (VldF sh9 0) ?_))))
    refine letv (sc_Index_string vars rv43.1.Def) fun rv64 hg65 => ?_
    have hc66 := fn50 vars varsa0 varsk0 rv43.1.Def pre rv64 hg65
    refine Oc [9] ca50 hc66 ?_
    rintro - he67
    unfold i64ok at he67
    refine Oq (Vbd st49 [vi v13_17, vi rv64]) (Oa (AsV sl38 sz38 [.agg #[vi v13_17, vi rv64]] [vi v13_17, vi rv64]) fun c68 => ?_)
    refine Jo 0 ?_; rintro a69 k70 rfl
    refine Jl [0] (Ent.cr1 (α := GFact) (A := []) _ (GFact.mk v13_17 rv64) _ aB1 (fun h => ⟨rfl, aL1, aL1⟩)) ?_
    refine Oa (ApO [6, 0] sl38 sl38 sz38) fun c71 => ?_
    refine Jo 0 ?_; rintro a72 k73 rfl
    refine Fb 16 0 fun _ => ?_
    have hn75 := la out_16 ([(GFact.mk v13_17 rv64)] : List GFact)
    refine Oq Va (KS ?_)
    refine Oq Vadd (Oq Vm (KS ?_))
    exact Kg (r35, (out_16 ++ [(GFact.mk v13_17 rv64)]), (v13_17 + 1), a72, k73) [0, 5, 6, 7, 8, 9, 10] ⟨(q3 hM20 (by simp only [fc_definitions_L0, h33, h57, h62, hg44, hg60, hg65, cs4])), aM1, aM1, aM1, aM1, iv1⟩
   intro h62
   refine KS ?_
   refine Oq Vadd (Oq Vm (KS ?_))
   exact Kg (r35, out_16, (v13_17 + 1), a18, k19) [5, 5, 6, 7, 8, 9, 10] ⟨(q3 hM20 (by simp only [fc_definitions_L0, h33, h57, h62, hg44, hg60, cs4])), aM1, aM1, aM1, aM1, iv1⟩
  intro h57
  have g77 := ne_of_beq_false h57
  refine Osk (Osk (Oq Vpf (KS ?_)))
  refine Kf (KS ?_)
  refine Oq Vadd (Oq Vm (KS ?_))
  exact Kg (r35, out_16, (v13_17 + 1), a18, k19) [5, 5, 6, 7, 8, 9, 10] ⟨(q3 hM20 (by simp only [fc_definitions_L0, h33, h57, hg44, cs4])), aM1, aM1, aM1, aM1, iv1⟩
 intro h33
 have g78 := df h33
 obtain rfl : r15 = 0 := by omega
 refine Ke ?_
 have hR79 := q2 hM20 out_16 (by simp only [fc_definitions_L0, h33, cs4])
 refine KS ?_
 refine Oq Vm (Oq Va (KS ?_))
 refine Jl [0] (Ent.freeze _ _) ?_
 have hq := q4 hrr out_16 (by simp only [fc_definitions, h33, hg9, hR79, cs4]); subst hq
 exact Kr (vl a18 k19 out_16) rfl (.tmp rfl .nil) [0] en
theorem fn7 (p : GProgram) (pa0 : Option Addr) (pk0 : Nat) (kind : Int) (kwLA : Option Addr) (kwLK : Nat) (hkind_0 : i64ok kind) (hps : PSm p = true) (rr : List GFact × Int) (hrr : fc_List p kind = rr) : FT Tryz.prog 7 #[.agg #[vl pa0 pk0 p.Funcs], vi kind] [S pa0 pk0 p.Funcs, pv (gp 0) [vl kwLA kwLK kwL], S kwLA kwLK kwL] (fun g : Value => i64ok rr.2 ∧ (rr.1.length ≤ 256)) (fun g => .tuple #[g, vi rr.2]) (fun g => [sl g rr.1]) := by
 refine FTi Tryz.func7 fun w0 M0 F0 => ?_
 unfold i64ok at hkind_0
 refine Fb 40 0 fun _ => Fb 16 2 fun _ => ?_
 refine FoS 2 fun ho3 => ?_
 refine KS ?_
 refine Oa (Ab [vl pa0 pk0 p.Funcs]) fun p4 => Oq Va (Oq Va (KS ?_))
 refine Oq (VldA sh25 0) ?_
 refine letv (vd_Check p) fun rv5 hg6 => ?_
 have hc7 := fn20 p pa0 pk0 kwLA kwLK pre rv5 hg6
 refine Oc [1, 2, 3] ca20 hc7 ?_
 rintro - ⟨he8, he9, he10, he11, he12⟩
 unfold i64ok at he8 he9 he10 he11 he12
 refine Oq Vm (Oq Vx (Oq Vx (Oa (Al ze63 [vi 0, vi 0, vi 0, vi 0]) fun p13 => Ost (Scl [0] sh63 [vi rv5.1.Kind, vi rv5.1.Func, vi rv5.1.Block, vi rv5.1.Stmt]) (Oq Va (KS ?_)))))
 refine Oq Vm (Oq Vneq (KS ?_))
 refine Kc ?_ ?_
 ·intro h14
  have g15 := ne_of_bne h14
  refine KS ?_
  refine Oq Vm (Oq Va (Oq Va (KS ?_)))
  refine Jl [] (Ent.slNil (α := GFact)) ?_
  have hq := q4 hrr (([] : List GFact), rv5.2) (by simp only [fc_List, h14, hg6, cs4]); subst hq
  exact Kr (.slice none 0 0) rfl (.tmp rfl (.tmp rfl .nil)) [0] en
 intro h14
 have g16 := eq_of_bne_false h14
 refine KS ?_
 refine Oq Vm (Oq Vlss (Oq Vm ?_))
 refine Js 21 ?_ ?_
 ·intro h17
  have g18 := dt h17
  refine Osk (Osk (Oq Vpt (KS ?_)))
  refine Kt (KS ?_)
  refine Oq Va (Oq Va (KS ?_))
  refine Jl [] (Ent.slNil (α := GFact)) ?_
  have hq := q4 hrr (([] : List GFact), 3) (by simp only [fc_List, h14, h17, hg6, cs4]); subst hq
  exact Kr (.slice none 0 0) rfl (.tmp rfl (.tmp rfl .nil)) [0] en
 intro h17
 have g19 := df h17
 refine Oq Vm (Oq Vgtr (Oq Vpf (KS ?_)))
 refine Kc ?_ ?_
 ·intro h20
  have g21 := dt h20
  refine KS ?_
  refine Oq Va (Oq Va (KS ?_))
  refine Jl [] (Ent.slNil (α := GFact)) ?_
  have hq := q4 hrr (([] : List GFact), 3) (by simp only [fc_List, h14, h17, h20, hg6, cs4]); subst hq
  exact Kr (.slice none 0 0) rfl (.tmp rfl (.tmp rfl .nil)) [0] en
 intro h20
 have g22 := df h20
 refine KS ?_
 refine Oq (VldA sh25 1) ?_
 refine letv (vd_Variables p) fun rv24 hg25 => ?_
 have hc26 := fn21 p pa0 pk0 kwLA kwLK pre rv24 hg25
 refine Oc [2, 3, 4] ca21 hc26 ?_
 rintro c23 he27
 refine Jo 0 ?_; rintro a28 k29 rfl
 refine Fb 16 0 fun _ => ?_
 refine FoS 0 fun ho31 => ?_
 refine Oq Va (KS ?_)
 refine Oq Va (KS ?_)
 refine Oq Vm (Oq Veql (KS ?_))
 refine Kc ?_ ?_
 ·intro h32
  have g33 := eq_of_beq h32
  refine KS ?_
  refine Oq (VldA sh25 2) (Oq Vm ?_)
  refine letv (fc_definitions p rv24) fun rv35 hg36 => ?_
  have hc37 := fn22 p pa0 pk0 rv24 a28 k29 kwLA kwLK pre rv35 hg36
  refine Oc [3, 0, 4, 5] ca22 hc37 ?_
  rintro c34 he38
  refine Jo 0 ?_; rintro a39 k40 rfl
  refine Fb 16 0 fun _ => ?_
  refine Oq Va (KS ?_)
  refine Oq Vm (Oq (Vlen sl38) (Oq Vgtr (KS ?_)))
  refine Kc ?_ ?_
  ·intro h42
   have g43 := dt h42
   refine KS ?_
   refine Oq Va (Oq Va (KS ?_))
   refine Jl [] (Ent.slNil (α := GFact)) ?_
   have hq := q4 hrr (([] : List GFact), 7) (by simp only [fc_List, h14, h17, h20, h32, h42, hg6, hg25, hg36, cs4]); subst hq
   exact Kr (.slice none 0 0) rfl (.tmp rfl (.tmp rfl .nil)) [0] en
  intro h42
  have g44 := df h42
  refine KS ?_
  refine Oq Vm (Oq Va (Oq Va (KS ?_)))
  have hq := q4 hrr (rv35, 0) (by simp only [fc_List, h14, h17, h20, h32, h42, hg6, hg25, hg36, cs4]); subst hq
  exact Kr (vl a39 k40 rv35) rfl (.tmp rfl (.tmp rfl .nil)) [0] en
 intro h32
 have g45 := ne_of_beq_false h32
 refine KS ?_
 refine Oq Vm (Oq (Vlen sl35) (Oq Vm (KS ?_)))
 refine Jl [] (Ent.osNil (α := GFact)) ?_
 refine Kl (γ := Nat × List GFact × Int × Option Addr × Nat) (fun (r46, out_47, v34_48, a49, k50) => ⟨[(9, vl a49 k50 out_47), (33, vi (rv24.length : Int)), (34, vi v34_48)], [O a49 k50 out_47, pv (gp 0) [vl kwLA kwLK kwL], S kwLA kwLK kwL], fc_List_L0 r46 out_47 v34_48 = fc_List_L0 (((rv24.length : Int) - 0).toNat) [] 0 ∧ r46 = ((rv24.length : Int) - v34_48).toNat ∧ (0 : Int) ≤ v34_48 ∧ v34_48 ≤ (rv24.length : Int) ∧ (-9223372036854775808 ≤ v34_48 ∧ v34_48 ≤ 9223372036854775807) ∧ ((out_47.length : Int) ≤ v34_48), r46⟩) (((rv24.length : Int) - 0).toNat, [], 0, none, 0) [0, 4, 5] ⟨rfl, rfl, aM1, aM1, aM1, iv0⟩ ?_
 rintro ⟨r46, out_47, v34_48, a49, k50⟩ ⟨hM51, hr52, hi53, hi54, hk55, hv56⟩
 refine JJ_nx fun _ _ hL hA => ?_; dsimp only at hL hA; subst hL hA
 refine Fb 16 0 fun _ => Fb 16 2 fun _ => ?_
 refine FoS 2 fun ho59 => ?_
 refine KS ?_
 refine Oq Vlss (KS ?_)
 refine Kc ?_ ?_
 ·intro h60
  have g61 := dt h60
  obtain ⟨r62, rfl⟩ := scc (n := r46) aM1
  refine KS ?_
  refine Oq Vm (Oq Va (KS ?_))
  refine Oq Vm (Oq Vm (Oq (Vbd st49 [vi (-1), vi v34_48]) (Oa (AsV sl38 sz38 [.agg #[vi (-1), vi v34_48]] [vi (-1), vi v34_48]) fun c63 => ?_)))
  refine Jo 0 ?_; rintro a64 k65 rfl
  refine Jl [0] (Ent.cr1 (α := GFact) (A := []) _ (GFact.mk (-1) v34_48) _ aB1 (fun h => ⟨rfl, aL1, aL1⟩)) ?_
  refine Oa (ApO [1, 0] sl38 sl38 sz38) fun c66 => ?_
  refine Jo 0 ?_; rintro a67 k68 rfl
  refine Fb 16 0 fun _ => ?_
  have hn70 := la out_47 ([(GFact.mk (-1) v34_48)] : List GFact)
  refine Oq Va (KS ?_)
  refine Oq Vadd (Oq Vm (KS ?_))
  exact Kg (r62, (out_47 ++ [(GFact.mk (-1) v34_48)]), (v34_48 + 1), a67, k68) [0, 0, 1] ⟨(q3 hM51 (by simp only [fc_List_L0, h60, cs4])), aM1, aM1, aM1, aM1, iv1⟩
 intro h60
 have g71 := df h60
 obtain rfl : r46 = 0 := by omega
 refine Ke ?_
 have hR72 := q2 hM51 out_47 (by simp only [fc_List_L0, h60, cs4])
 refine KS ?_
 refine Oq Vm (Oq (Vlen sl38) (Oq Vgtr (KS ?_)))
 refine Kc ?_ ?_
 ·intro h73
  have g74 := dt h73
  refine KS ?_
  refine Oq Va (Oq Va (KS ?_))
  refine Jl [] (Ent.slNil (α := GFact)) ?_
  have hq := q4 hrr (([] : List GFact), 7) (by simp only [fc_List, h14, h17, h20, h32, h60, h73, hg6, hg25, hR72, cs4]); subst hq
  exact Kr (.slice none 0 0) rfl (.tmp rfl (.tmp rfl .nil)) [0] en
 intro h73
 have g75 := df h73
 refine KS ?_
 refine Oq Vm (Oq Va (Oq Va (KS ?_)))
 refine Jl [0] (Ent.freeze _ _) ?_
 have hq := q4 hrr (out_47, 0) (by simp only [fc_List, h14, h17, h20, h32, h60, h73, hg6, hg25, hR72, cs4]); subst hq
 exact Kr (vl a49 k50 out_47) rfl (.tmp rfl (.tmp rfl .nil)) [0] en
theorem fn78 (c : Int) (hc_0 : 0 ≤ c ∧ c ≤ 255) (rr : Bool) (hrr : r4_letter c = rr) : FT Tryz.prog 78 #[.int .u8 c] [] (fun g : Unit => True) (fun g => vb rr) (fun g => []) := by
 refine FTi Tryz.func78 fun w0 M0 F0 => ?_
 refine KS ?_
 refine Oq Va (KS ?_)
 refine Oq Vm (Oq Vgeq (Oq Vm ?_))
 refine Js 5 ?_ ?_
 ·intro h1
  have g2 := dt h1
  refine Oq Vm (Oq Vleq (Oq Vpt (Oq Vm ?_)))
  refine Js 9 ?_ ?_
  ·intro h3
   have g4 := dt h3
   refine Osk (Osk (Osk (Osk (Osk (Osk (Oq Vpt (Oq Vm (Osk (Osk ?_)))))))))
   refine Oq Vpt (Oq Va (KS ?_))
   have hq := q4 hrr true (by simp only [r4_letter, h1, h3, cs4]); subst hq
   exact Kr () rfl (.tmp rfl .nil) [] trivial
  intro h3
  have g5 := df h3
  refine Oq Vm (Oq Vgeq (Oq Vm ?_))
  refine Js 12 ?_ ?_
  ·intro h6
   have g7 := dt h6
   refine Oq Vm (Oq Vleq (Oq Vpt (Oq Vpf (Oq Vm ?_))))
   refine Js 17 ?_ ?_
   ·intro h8
    have g9 := dt h8
    refine Osk (Osk (Oq Vpt (Oq Va (KS ?_))))
    have hq := q4 hrr true (by simp only [r4_letter, h1, h3, h6, h8, cs4]); subst hq
    exact Kr () rfl (.tmp rfl .nil) [] trivial
   intro h8
   have g10 := df h8
   refine Oq Vm (Oq Veql (Oq Vpf (Oq Va (KS ?_))))
   have hq := q4 hrr (c == 95) (by simp only [r4_letter, h1, h3, h6, h8, cs4]); subst hq
   exact Kr () rfl (.tmp rfl .nil) [] trivial
  intro h6
  have g11 := df h6
  refine Osk (Osk (Oq Vpf (Oq Vpf (Oq Vm (Oq Vm (Oq Veql (Oq Vpf (Oq Va (KS ?_)))))))))
  have hq := q4 hrr (c == 95) (by simp only [r4_letter, h1, h3, h6, cs4]); subst hq
  exact Kr () rfl (.tmp rfl .nil) [] trivial
 intro h1
 have g12 := df h1
 refine Osk (Osk (Oq Vpf (Oq Vm (Oq Vm (Oq Vgeq (Oq Vm ?_))))))
 refine Js 12 ?_ ?_
 ·intro h13
  have g14 := dt h13
  refine Oq Vm (Oq Vleq (Oq Vpt (Oq Vpf (Oq Vm ?_))))
  refine Js 17 ?_ ?_
  ·intro h15
   have g16 := dt h15
   refine Osk (Osk (Oq Vpt (Oq Va (KS ?_))))
   have hq := q4 hrr true (by simp only [r4_letter, h1, h13, h15, cs4]); subst hq
   exact Kr () rfl (.tmp rfl .nil) [] trivial
  intro h15
  have g17 := df h15
  refine Oq Vm (Oq Veql (Oq Vpf (Oq Va (KS ?_))))
  have hq := q4 hrr (c == 95) (by simp only [r4_letter, h1, h13, h15, cs4]); subst hq
  exact Kr () rfl (.tmp rfl .nil) [] trivial
 intro h13
 have g18 := df h13
 refine Osk (Osk (Oq Vpf (Oq Vpf (Oq Vm (Oq Vm (Oq Veql (Oq Vpf (Oq Va (KS ?_)))))))))
 have hq := q4 hrr (c == 95) (by simp only [r4_letter, h1, h13, cs4]); subst hq
 exact Kr () rfl (.tmp rfl .nil) [] trivial
theorem fn79 (c : Int) (hc_0 : 0 ≤ c ∧ c ≤ 255) (rr : Bool) (hrr : r4_digit c = rr) : FT Tryz.prog 79 #[.int .u8 c] [] (fun g : Unit => True) (fun g => vb rr) (fun g => []) := by
 refine FTi Tryz.func79 fun w0 M0 F0 => ?_
 refine KS ?_
 refine Oq Va (KS ?_)
 refine Oq Vm (Oq Vgeq (Oq Vm ?_))
 refine Js 5 ?_ ?_
 ·intro h1
  have g2 := dt h1
  refine Oq Vm (Oq Vleq (Oq Vpt (Oq Va (KS ?_))))
  have hq := q4 hrr (decide (c ≤ 57)) (by simp only [r4_digit, h1, cs4]); subst hq
  exact Kr () rfl (.tmp rfl .nil) [] trivial
 intro h1
 have g3 := df h1
 refine Osk (Osk (Oq Vpf (Oq Va (KS ?_))))
 have hq := q4 hrr false (by simp only [r4_digit, h1, cs4]); subst hq
 exact Kr () rfl (.tmp rfl .nil) [] trivial
theorem fn80  (rr : List Str) (hrr : r4_Keywords = rr) : FT Tryz.prog 80 #[] [] (fun g : Value => True) (fun g => g) (fun g => [sl g rr]) := by
 refine FTi Tryz.func80 fun w0 M0 F0 => ?_
 refine KS ?_
 refine Oq Va (KS ?_)
 refine Oa (AsV sl35 sz35 [.string (bs (Str.mk [102, 117, 110, 99])), .string (bs (Str.mk [98, 108, 111, 99, 107])), .string (bs (Str.mk [101, 110, 100])), .string (bs (Str.mk [117, 115, 101])), .string (bs (Str.mk [99, 97, 108, 108])), .string (bs (Str.mk [115, 111, 117, 114, 99, 101])), .string (bs (Str.mk [115, 105, 110, 107])), .string (bs (Str.mk [115, 97, 110, 105, 116, 105, 122, 101])), .string (bs (Str.mk [103, 111, 116, 111])), .string (bs (Str.mk [98, 114, 97, 110, 99, 104])), .string (bs (Str.mk [114, 101, 116, 117, 114, 110]))] [.string (bs (Str.mk [102, 117, 110, 99])), .string (bs (Str.mk [98, 108, 111, 99, 107])), .string (bs (Str.mk [101, 110, 100])), .string (bs (Str.mk [117, 115, 101])), .string (bs (Str.mk [99, 97, 108, 108])), .string (bs (Str.mk [115, 111, 117, 114, 99, 101])), .string (bs (Str.mk [115, 105, 110, 107])), .string (bs (Str.mk [115, 97, 110, 105, 116, 105, 122, 101])), .string (bs (Str.mk [103, 111, 116, 111])), .string (bs (Str.mk [98, 114, 97, 110, 99, 104])), .string (bs (Str.mk [114, 101, 116, 117, 114, 110]))]) fun c1 => ?_
 refine Jo 0 ?_; rintro a2 k3 rfl
 refine Oq Va (KS ?_)
 refine Jl [0] (Ent.crOs (α := Str) (A := []) _ ([(Str.mk [102, 117, 110, 99]), (Str.mk [98, 108, 111, 99, 107]), (Str.mk [101, 110, 100]), (Str.mk [117, 115, 101]), (Str.mk [99, 97, 108, 108]), (Str.mk [115, 111, 117, 114, 99, 101]), (Str.mk [115, 105, 110, 107]), (Str.mk [115, 97, 110, 105, 116, 105, 122, 101]), (Str.mk [103, 111, 116, 111]), (Str.mk [98, 114, 97, 110, 99, 104]), (Str.mk [114, 101, 116, 117, 114, 110])] : List Str) _ aB1 (fun h => ⟨[.string (bs (Str.mk [102, 117, 110, 99]))], [.string (bs (Str.mk [98, 108, 111, 99, 107])), .string (bs (Str.mk [101, 110, 100])), .string (bs (Str.mk [117, 115, 101])), .string (bs (Str.mk [99, 97, 108, 108])), .string (bs (Str.mk [115, 111, 117, 114, 99, 101])), .string (bs (Str.mk [115, 105, 110, 107])), .string (bs (Str.mk [115, 97, 110, 105, 116, 105, 122, 101])), .string (bs (Str.mk [103, 111, 116, 111])), .string (bs (Str.mk [98, 114, 97, 110, 99, 104])), .string (bs (Str.mk [114, 101, 116, 117, 114, 110]))], rfl, (fun _ => ⟨rfl, by first | omega | (simp; done) | (dsimp only; omega) | exact lit_bl rfl⟩) h, ⟨[.string (bs (Str.mk [98, 108, 111, 99, 107]))], [.string (bs (Str.mk [101, 110, 100])), .string (bs (Str.mk [117, 115, 101])), .string (bs (Str.mk [99, 97, 108, 108])), .string (bs (Str.mk [115, 111, 117, 114, 99, 101])), .string (bs (Str.mk [115, 105, 110, 107])), .string (bs (Str.mk [115, 97, 110, 105, 116, 105, 122, 101])), .string (bs (Str.mk [103, 111, 116, 111])), .string (bs (Str.mk [98, 114, 97, 110, 99, 104])), .string (bs (Str.mk [114, 101, 116, 117, 114, 110]))], rfl, (fun _ => ⟨rfl, by first | omega | (simp; done) | (dsimp only; omega) | exact lit_bl rfl⟩) h, ⟨[.string (bs (Str.mk [101, 110, 100]))], [.string (bs (Str.mk [117, 115, 101])), .string (bs (Str.mk [99, 97, 108, 108])), .string (bs (Str.mk [115, 111, 117, 114, 99, 101])), .string (bs (Str.mk [115, 105, 110, 107])), .string (bs (Str.mk [115, 97, 110, 105, 116, 105, 122, 101])), .string (bs (Str.mk [103, 111, 116, 111])), .string (bs (Str.mk [98, 114, 97, 110, 99, 104])), .string (bs (Str.mk [114, 101, 116, 117, 114, 110]))], rfl, (fun _ => ⟨rfl, by first | omega | (simp; done) | (dsimp only; omega) | exact lit_bl rfl⟩) h, ⟨[.string (bs (Str.mk [117, 115, 101]))], [.string (bs (Str.mk [99, 97, 108, 108])), .string (bs (Str.mk [115, 111, 117, 114, 99, 101])), .string (bs (Str.mk [115, 105, 110, 107])), .string (bs (Str.mk [115, 97, 110, 105, 116, 105, 122, 101])), .string (bs (Str.mk [103, 111, 116, 111])), .string (bs (Str.mk [98, 114, 97, 110, 99, 104])), .string (bs (Str.mk [114, 101, 116, 117, 114, 110]))], rfl, (fun _ => ⟨rfl, by first | omega | (simp; done) | (dsimp only; omega) | exact lit_bl rfl⟩) h, ⟨[.string (bs (Str.mk [99, 97, 108, 108]))], [.string (bs (Str.mk [115, 111, 117, 114, 99, 101])), .string (bs (Str.mk [115, 105, 110, 107])), .string (bs (Str.mk [115, 97, 110, 105, 116, 105, 122, 101])), .string (bs (Str.mk [103, 111, 116, 111])), .string (bs (Str.mk [98, 114, 97, 110, 99, 104])), .string (bs (Str.mk [114, 101, 116, 117, 114, 110]))], rfl, (fun _ => ⟨rfl, by first | omega | (simp; done) | (dsimp only; omega) | exact lit_bl rfl⟩) h, ⟨[.string (bs (Str.mk [115, 111, 117, 114, 99, 101]))], [.string (bs (Str.mk [115, 105, 110, 107])), .string (bs (Str.mk [115, 97, 110, 105, 116, 105, 122, 101])), .string (bs (Str.mk [103, 111, 116, 111])), .string (bs (Str.mk [98, 114, 97, 110, 99, 104])), .string (bs (Str.mk [114, 101, 116, 117, 114, 110]))], rfl, (fun _ => ⟨rfl, by first | omega | (simp; done) | (dsimp only; omega) | exact lit_bl rfl⟩) h, ⟨[.string (bs (Str.mk [115, 105, 110, 107]))], [.string (bs (Str.mk [115, 97, 110, 105, 116, 105, 122, 101])), .string (bs (Str.mk [103, 111, 116, 111])), .string (bs (Str.mk [98, 114, 97, 110, 99, 104])), .string (bs (Str.mk [114, 101, 116, 117, 114, 110]))], rfl, (fun _ => ⟨rfl, by first | omega | (simp; done) | (dsimp only; omega) | exact lit_bl rfl⟩) h, ⟨[.string (bs (Str.mk [115, 97, 110, 105, 116, 105, 122, 101]))], [.string (bs (Str.mk [103, 111, 116, 111])), .string (bs (Str.mk [98, 114, 97, 110, 99, 104])), .string (bs (Str.mk [114, 101, 116, 117, 114, 110]))], rfl, (fun _ => ⟨rfl, by first | omega | (simp; done) | (dsimp only; omega) | exact lit_bl rfl⟩) h, ⟨[.string (bs (Str.mk [103, 111, 116, 111]))], [.string (bs (Str.mk [98, 114, 97, 110, 99, 104])), .string (bs (Str.mk [114, 101, 116, 117, 114, 110]))], rfl, (fun _ => ⟨rfl, by first | omega | (simp; done) | (dsimp only; omega) | exact lit_bl rfl⟩) h, ⟨[.string (bs (Str.mk [98, 114, 97, 110, 99, 104]))], [.string (bs (Str.mk [114, 101, 116, 117, 114, 110]))], rfl, (fun _ => ⟨rfl, by first | omega | (simp; done) | (dsimp only; omega) | exact lit_bl rfl⟩) h, ⟨[.string (bs (Str.mk [114, 101, 116, 117, 114, 110]))], [], rfl, (fun _ => ⟨rfl, by first | omega | (simp; done) | (dsimp only; omega) | exact lit_bl rfl⟩) h, rfl⟩⟩⟩⟩⟩⟩⟩⟩⟩⟩⟩)) ?_
 refine Jl [0] (Ent.freeze _ _) ?_
 have hq := q4 hrr [(Str.mk [102, 117, 110, 99]), (Str.mk [98, 108, 111, 99, 107]), (Str.mk [101, 110, 100]), (Str.mk [117, 115, 101]), (Str.mk [99, 97, 108, 108]), (Str.mk [115, 111, 117, 114, 99, 101]), (Str.mk [115, 105, 110, 107]), (Str.mk [115, 97, 110, 105, 116, 105, 122, 101]), (Str.mk [103, 111, 116, 111]), (Str.mk [98, 114, 97, 110, 99, 104]), (Str.mk [114, 101, 116, 117, 114, 110])] (by simp only [r4_Keywords, cs4]); subst hq
 exact Kr (.slice a2 11 k3) rfl (.tmp rfl .nil) [0] trivial
theorem fn51 (s : Str) (hs_0 : s.b.length ≤ 140737488355328) (rr : Bool) (hrr : r4_IsName s = rr) : FT Tryz.prog 51 #[.string (bs s)] [] (fun g : Unit => True) (fun g => vb rr) (fun g => []) := by
 refine FTi Tryz.func51 fun w0 M0 F0 => ?_
 refine KS ?_
 refine Oq Va (KS ?_)
 refine Oq Vm (Oq (VlS un9 (l := s)) (Oq Veql (Oq Vm ?_)))
 refine Js 9 ?_ ?_
 ·intro h1
  have g2 := eq_of_beq h1
  refine Osk (Osk (Osk (Oq Vpt (Oq Vm (Osk (Osk (Osk (Osk (Oq Vpt ?_)))))))))
  refine Oq Vm (Osk (Osk (Osk (Oq Vpt (KS ?_)))))
  refine Kt (KS ?_)
  refine Oq Va (KS ?_)
  have hq := q4 hrr false (by simp only [r4_IsName, h1, cs4]); subst hq
  exact Kr () rfl (.tmp rfl .nil) [] trivial
 intro h1
 have g3 := ne_of_beq_false h1
 refine Oq Vm (Oq (VlS un9 (l := s)) (Oq Vgtr (Oq Vpf (Oq Vm ?_))))
 refine Js 14 ?_ ?_
 ·intro h4
  have g5 := dt h4
  refine Osk (Osk (Osk (Osk (Oq Vpt (Oq Vm (Osk (Osk (Osk (Oq Vpt ?_)))))))))
  refine KS ?_
  refine Kt (KS ?_)
  refine Oq Va (KS ?_)
  have hq := q4 hrr false (by simp only [r4_IsName, h1, h4, cs4]); subst hq
  exact Kr () rfl (.tmp rfl .nil) [] trivial
 intro h4
 have g6 := df h4
 refine Oq Vm (Oq (Vix un9 (l := s)) ?_)
 have hb7 := u8b (s.b.getD (0 : Int).toNat 0)
 refine letv (r4_letter ((s.b.getD (0 : Int).toNat 0).toNat : Int)) fun rv8 hg9 => ?_
 have hc10 := fn78 (((s.b.getD (0 : Int).toNat 0).toNat : Int)) pre rv8 hg9
 refine Oc [] ca78 hc10 ?_
 rintro - -
 refine Oq Vnot (Oq Vpf (Oq Vm ?_))
 refine Js 20 ?_ ?_
 ·intro h11
  have h13 := not_true h11
  refine Osk (Osk (Osk (Oq Vpt (KS ?_))))
  refine Kt (KS ?_)
  refine Oq Va (KS ?_)
  have hq := q4 hrr false (by simp only [r4_IsName, h1, h4, h11, h13, hg9, cs4]); subst hq
  exact Kr () rfl (.tmp rfl .nil) [] trivial
 intro h11
 have h16 := not_false h11
 refine Oq Vm (Oq (Vix un9 (l := s)) ?_)
 have hb18 := u8b (s.b.getD (0 : Int).toNat 0)
 refine Oq Veql (Oq Vpf (KS ?_))
 refine Kc ?_ ?_
 ·intro h19
  have g20 := eq_of_beq h19
  refine KS ?_
  refine Oq Va (KS ?_)
  have hq := q4 hrr false (by simp only [r4_IsName, h1, h4, h11, h16, h19, hg9, cs4]); subst hq
  exact Kr () rfl (.tmp rfl .nil) [] trivial
 intro h19
 have g21 := ne_of_beq_false h19
 refine KS ?_
 refine Oq Va (KS ?_)
 refine Kl (γ := Nat × Int) (fun (r22, i_23) => ⟨[(0, .string (bs s)), (3, vi i_23)], [], r4_IsName_L0 s r22 i_23 = r4_IsName_L0 s (((s.b.length : Int) - 0).toNat) 0 ∧ r22 = ((s.b.length : Int) - i_23).toNat ∧ (0 : Int) ≤ i_23 ∧ i_23 ≤ (s.b.length : Int) ∧ (-9223372036854775808 ≤ i_23 ∧ i_23 ≤ 9223372036854775807), r22⟩) (((s.b.length : Int) - 0).toNat, 0) [] ⟨rfl, rfl, aM1, aM1, aM1⟩ ?_
 rintro ⟨r22, i_23⟩ ⟨hM24, hr25, hi26, hi27, hk28⟩
 refine JJ_nx fun _ _ hL hA => ?_; dsimp only at hL hA; subst hL hA
 refine KS ?_
 refine Oq Vm (Oq Vm (Oq (VlS un9 (l := s)) (Oq Vlss (KS ?_))))
 refine Kc ?_ ?_
 ·intro h29
  have g30 := dt h29
  obtain ⟨r31, rfl⟩ := scc (n := r22) aM1
  refine KS ?_
  refine Oq Vm (Oq Vm (Oq (Vix un9 (l := s)) ?_))
  have hb32 := u8b (s.b.getD i_23.toNat 0)
  refine letv (r4_letter ((s.b.getD i_23.toNat 0).toNat : Int)) fun rv33 hg34 => ?_
  have hc35 := fn78 (((s.b.getD i_23.toNat 0).toNat : Int)) pre rv33 hg34
  refine Oc [] ca78 hc35 ?_
  rintro - -
  refine Oq Vnot (Oq Vm ?_)
  refine Js 36 ?_ ?_
  ·intro h36
   have h38 := not_true h36
   refine Oq Vm (Oq Vm (Oq (Vix un9 (l := s)) ?_))
   have hb40 := u8b (s.b.getD i_23.toNat 0)
   refine letv (r4_digit ((s.b.getD i_23.toNat 0).toNat : Int)) fun rv41 hg42 => ?_
   have hc43 := fn79 (((s.b.getD i_23.toNat 0).toNat : Int)) pre rv41 hg42
   refine Oc [] ca79 hc43 ?_
   rintro - -
   refine Oq Vnot (Oq Vpt (KS ?_))
   refine Kc ?_ ?_
   ·intro h44
    have h46 := not_true h44
    refine KS ?_
    refine Oq Va (KS ?_)
    have hR48 := q2 hM24 (.ret false) (by simp only [r4_IsName_L0, h29, h36, h38, h44, h46, hg34, hg42, cs4])
    have hq := q4 hrr false (by simp only [r4_IsName, h1, h4, h11, h16, h19, h29, h36, h38, h44, h46, hg9, hg34, hg42, hR48, cs4]); subst hq
    exact Kr () rfl (.tmp rfl .nil) [] trivial
   intro h44
   have h50 := not_false h44
   refine KS ?_
   refine Oq Vm (Oq Vadd (Oq Va (KS ?_)))
   exact Kg (r31, (i_23 + 1)) [] ⟨(q3 hM24 (by simp only [r4_IsName_L0, h29, h36, h38, h44, h50, hg34, hg42, cs4])), aM1, aM1, aM1, aM1⟩
  intro h36
  have h53 := not_false h36
  refine Osk (Osk (Osk (Osk (Osk (Oq Vpf (KS ?_))))))
  refine Kf (KS ?_)
  refine Oq Vm (Oq Vadd (Oq Va (KS ?_)))
  exact Kg (r31, (i_23 + 1)) [] ⟨(q3 hM24 (by simp only [r4_IsName_L0, h29, h36, h53, hg34, cs4])), aM1, aM1, aM1, aM1⟩
 intro h29
 have g55 := df h29
 obtain rfl : r22 = 0 := by omega
 refine Ke ?_
 have hR56 := q2 hM24 (.brk ()) (by simp only [r4_IsName_L0, h29, cs4])
 refine KS ?_
 have hc58 := fn80  r4_Keywords rfl
 refine Oc [] ca80 hc58 ?_
 rintro c57 -
 refine Jo 0 ?_; rintro a59 k60 rfl
 refine Fb 16 0 fun _ => ?_
 refine FoS 0 fun ho62 => ?_
 refine Oq Va (KS ?_)
 refine Oq Va (KS ?_)
 refine Kl (γ := Nat × Int) (fun (r63, i_64) => ⟨[(0, .string (bs s)), (4, vl a59 k60 r4_Keywords), (5, vi i_64)], [S a59 k60 r4_Keywords], r4_IsName_L1 s r63 i_64 = r4_IsName_L1 s (((r4_Keywords.length : Int) - 0).toNat) 0 ∧ r63 = ((r4_Keywords.length : Int) - i_64).toNat ∧ (0 : Int) ≤ i_64 ∧ i_64 ≤ (r4_Keywords.length : Int) ∧ (-9223372036854775808 ≤ i_64 ∧ i_64 ≤ 9223372036854775807), r63⟩) (((r4_Keywords.length : Int) - 0).toNat, 0) [0] ⟨rfl, rfl, aM1, aM1, aM1⟩ ?_
 rintro ⟨r63, i_64⟩ ⟨hM65, hr66, hi67, hi68, hk69⟩
 refine JJ_nx fun _ _ hL hA => ?_; dsimp only at hL hA; subst hL hA
 refine Fb 16 0 fun _ => ?_
 refine FoS 0 fun ho71 => ?_
 refine KS ?_
 refine Oq Vm (Oq Vm (Oq (Vlen sl35) (Oq Vlss (KS ?_))))
 refine Kc ?_ ?_
 ·intro h72
  have g73 := dt h72
  obtain ⟨r74, rfl⟩ := scc (n := r63) aM1
  refine KS ?_
  refine Oq Vm (Oq Vm (Oq (Vi sl35 0) ?_))
  have hb75 := okS (i := i_64.toNat) ho71 rng
  refine Oq (VldS sh9 0) (Oq Vm (Oq (VeqS (l := (r4_Keywords.getD i_64.toNat default)) (m := s)) (KS ?_)))
  refine Kc ?_ ?_
  ·intro h76
   have g77 := eq_of_beq h76
   refine KS ?_
   refine Oq Va (KS ?_)
   have hR78 := q2 hM65 (.ret false) (by simp only [r4_IsName_L1, h72, h76, cs4])
   have hq := q4 hrr false (by simp only [r4_IsName, h1, h4, h11, h16, h19, h29, h72, h76, hg9, hR56, hR78, cs4]); subst hq
   exact Kr () rfl (.tmp rfl .nil) [] trivial
  intro h76
  have g79 := ne_of_beq_false h76
  refine KS ?_
  refine Oq Vm (Oq Vadd (Oq Va (KS ?_)))
  exact Kg (r74, (i_64 + 1)) [0] ⟨(q3 hM65 (by simp only [r4_IsName_L1, h72, h76, cs4])), aM1, aM1, aM1, aM1⟩
 intro h72
 have g80 := df h72
 obtain rfl : r63 = 0 := by omega
 refine Ke ?_
 have hR81 := q2 hM65 (.brk ()) (by simp only [r4_IsName_L1, h72, cs4])
 refine KS ?_
 refine Oq Va (KS ?_)
 have hq := q4 hrr true (by simp only [r4_IsName, h1, h4, h11, h16, h19, h29, h72, hg9, hR56, hR81, cs4]); subst hq
 exact Kr () rfl (.tmp rfl .nil) [] trivial
theorem fn81 (l : List Str) (la0 : Option Addr) (lk0 : Nat) (a : Int) (b : Int) (ha_0 : i64ok a) (hb_0 : i64ok b) (rr : Bool) (hrr : r4_namesOK l a b = rr) : FT Tryz.prog 81 #[vl la0 lk0 l, vi a, vi b] [S la0 lk0 l] (fun g : Unit => True) (fun g => vb rr) (fun g => []) := by
 refine FTi Tryz.func81 fun w0 M0 F0 => ?_
 unfold i64ok at ha_0 hb_0
 refine Fb 16 0 fun _ => ?_
 refine FoS 0 fun ho2 => ?_
 refine KS ?_
 refine Oq Va (KS ?_)
 refine Oq Va (KS ?_)
 refine Kl (γ := Nat × Int) (fun (r3, i_4) => ⟨[(0, vl la0 lk0 l), (1, vi a), (2, vi b), (7, vi i_4)], [S la0 lk0 l], r4_namesOK_L0 l r3 i_4 = r4_namesOK_L0 l (((l.length : Int) - 0).toNat) 0 ∧ r3 = ((l.length : Int) - i_4).toNat ∧ (0 : Int) ≤ i_4 ∧ i_4 ≤ (l.length : Int) ∧ (-9223372036854775808 ≤ i_4 ∧ i_4 ≤ 9223372036854775807), r3⟩) (((l.length : Int) - 0).toNat, 0) [0] ⟨rfl, rfl, aM1, aM1, aM1⟩ ?_
 rintro ⟨r3, i_4⟩ ⟨hM5, hr6, hi7, hi8, hk9⟩
 refine JJ_nx fun _ _ hL hA => ?_; dsimp only at hL hA; subst hL hA
 refine Fb 16 0 fun _ => ?_
 refine FoS 0 fun ho11 => ?_
 refine KS ?_
 refine Oq Vm (Oq Vm (Oq (Vlen sl35) (Oq Vlss (KS ?_))))
 refine Kc ?_ ?_
 ·intro h12
  have g13 := dt h12
  obtain ⟨r14, rfl⟩ := scc (n := r3) aM1
  refine KS ?_
  refine Oq Vm (Oq Vm (Oq (Vi sl35 0) ?_))
  have hb15 := okS (i := i_4.toNat) ho11 rng
  refine Oq (VldS sh9 0) ?_
  refine letv (r4_IsName (l.getD i_4.toNat default)) fun rv16 hg17 => ?_
  have hc18 := fn51 ((l.getD i_4.toNat default)) pre rv16 hg17
  refine Oc [] ca51 hc18 ?_
  rintro - -
  refine Oq Vnot (KS ?_)
  refine Kc ?_ ?_
  ·intro h19
   have h21 := not_true h19
   refine KS ?_
   refine Oq Va (KS ?_)
   have hR23 := q2 hM5 (.ret false) (by simp only [r4_namesOK_L0, h12, h19, h21, hg17, cs4])
   have hq := q4 hrr false (by simp only [r4_namesOK, h12, h19, h21, hg17, hR23, cs4]); subst hq
   exact Kr () rfl (.tmp rfl .nil) [] trivial
  intro h19
  have h25 := not_false h19
  refine KS ?_
  refine Oq Vm (Oq Vadd (Oq Va (KS ?_)))
  exact Kg (r14, (i_4 + 1)) [0] ⟨(q3 hM5 (by simp only [r4_namesOK_L0, h12, h19, h25, hg17, cs4])), aM1, aM1, aM1, aM1⟩
 intro h12
 have g27 := df h12
 obtain rfl : r3 = 0 := by omega
 refine Ke ?_
 have hR28 := q2 hM5 (.brk ()) (by simp only [r4_namesOK_L0, h12, cs4])
 refine KS ?_
 refine Oq Vm (Oq (Vlen sl35) (Oq Vm (Oq Vgeq (Oq Vm ?_))))
 refine Js 24 ?_ ?_
 ·intro h29
  have g30 := dt h29
  refine Oq Vm (Oq (Vlen sl35) (Oq Vm (Oq Vleq (Oq Vpt (Oq Va (KS ?_))))))
  have hq := q4 hrr (decide ((l.length : Int) ≤ b)) (by simp only [r4_namesOK, h12, h29, hR28, cs4]); subst hq
  exact Kr () rfl (.tmp rfl .nil) [] trivial
 intro h29
 have g31 := df h29
 refine Osk (Osk (Osk (Osk (Oq Vpf (Oq Va (KS ?_))))))
 have hq := q4 hrr false (by simp only [r4_namesOK, h12, h29, hR28, cs4]); subst hq
 exact Kr () rfl (.tmp rfl .nil) [] trivial
theorem fn52 (s : GStmt) (sa2 : Option Addr) (sk2 : Nat) (sa3 : Option Addr) (sk3 : Nat) (hs_0 : i64ok s.Op) (hs_1 : s.Def.b.length ≤ 140737488355328) (rr : Bool) (hrr : r4_stmtOK s = rr) : FT Tryz.prog 52 #[.agg #[vi s.Op, .string (bs s.Def), vl sa2 sk2 s.Uses, vl sa3 sk3 s.Targets]] [S sa2 sk2 s.Uses, S sa3 sk3 s.Targets] (fun g : Unit => True) (fun g => vb rr) (fun g => []) := by
 refine FTi Tryz.func52 fun w0 M0 F0 => ?_
 unfold i64ok at hs_0
 refine Fb 16 0 fun _ => ?_
 refine FoS 0 fun ho2 => ?_
 refine Fb 16 1 fun _ => ?_
 refine FoS 1 fun ho4 => ?_
 refine KS ?_
 refine Oa (Ab [vi s.Op, .string (bs s.Def), vl sa2 sk2 s.Uses, vl sa3 sk3 s.Targets]) fun p5 => Oq Va (KS ?_)
 refine Oq (Vfa fo37_1 0) (Oq (VldF sh9 0) ?_)
 refine letv (r4_IsName s.Def) fun rv6 hg7 => ?_
 have hc8 := fn51 s.Def pre rv6 hg7
 refine Oc [] ca51 hc8 ?_
 rintro - -
 refine Oq Va (KS ?_)
 refine Kq [0, 1, 3, 0, 8, 24, 7, 127] fmix ?_
 refine Qv [0] (Vfa fo37_2 0) (Qv [0] (VldF sh35 0) (Qv [] (Vlen sl35) (Qv [0] (Vfa fo37_3 0) (Qv [0] (VldF sh35 0) (Qv [] (Vlen sl35) (Qv [] Va (Qv [] Va ?_)))))))
 refine Qn ⟨by kernel_rfl, ?_⟩
 refine KS ?_
 refine Oq (Vfa fo37_2 0) (Oq (VldF sh35 0) ?_)
 refine letv (r4_namesOK s.Uses 0 4) fun rv9 hg10 => ?_
 have hc11 := fn81 s.Uses sa2 sk2 0 4 pre pre rv9 hg10
 refine Oc [1] ca81 hc11 ?_
 rintro - -
 refine Oq Vnot (Oq Vm ?_)
 refine Js 19 ?_ ?_
 ·intro h12
  have h14 := not_true h12
  refine Osk (Osk (Osk (Osk (Oq Vpt (KS ?_)))))
  refine Kt (KS ?_)
  refine Oq Va (KS ?_)
  have hq := q4 hrr false (by simp only [r4_stmtOK, h12, h14, hg7, hg10, cs4]); subst hq
  exact Kr () rfl (.tmp rfl .nil) [] trivial
 intro h12
 have h17 := not_false h12
 refine Oq (Vfa fo37_3 0) (Oq (VldF sh35 0) ?_)
 refine letv (r4_namesOK s.Targets 0 2) fun rv19 hg20 => ?_
 have hc21 := fn81 s.Targets sa3 sk3 0 2 pre pre rv19 hg20
 refine Oc [2] ca81 hc21 ?_
 rintro - -
 refine Oq Vnot (Oq Vpf (KS ?_))
 refine Kc ?_ ?_
 ·intro h22
  have h24 := not_true h22
  refine KS ?_
  refine Oq Va (KS ?_)
  have hq := q4 hrr false (by simp only [r4_stmtOK, h12, h17, h22, h24, hg7, hg10, hg20, cs4]); subst hq
  exact Kr () rfl (.tmp rfl .nil) [] trivial
 intro h22
 have h27 := not_false h22
 refine KS ?_
 refine Oq (Vfa fo37_0 0) (Oq (VldF sh3 0) (KS ?_))
 refine Oq Veql (Oq Va (KS ?_))
 refine Kc ?_ ?_
 ·intro h29
  have g30 := eq_of_beq h29
  refine KS ?_
  refine Oq Vm (Oq Vm ?_)
  refine Js 30 ?_ ?_
  ·intro h31
   refine Oq Vm (Oq Veql (Oq Vpt (Oq Va (KS ?_))))
   have hq := q4 hrr ((s.Targets.length : Int) == 0) (by simp only [r4_stmtOK, h12, h17, h22, h27, h29, h31, hg7, hg10, hg20, cs4]); subst hq
   exact Kr () rfl (.tmp rfl .nil) [] trivial
  intro h31
  refine Osk (Osk (Oq Vpf (Oq Va (KS ?_))))
  have hq := q4 hrr false (by simp only [r4_stmtOK, h12, h17, h22, h27, h29, h31, hg7, hg10, hg20, cs4]); subst hq
  exact Kr () rfl (.tmp rfl .nil) [] trivial
 intro h29
 have g34 := ne_of_beq_false h29
 refine KS ?_
 refine Oq Veql (Oq Va (KS ?_))
 refine Kc ?_ ?_
 ·intro h35
  have g36 := eq_of_beq h35
  refine KS ?_
  refine Oq (Vfa fo37_1 0) (Oq (VldF sh9 0) (Oq (VeqS (l := s.Def) (m := (Str.mk []))) (Oq Vm ?_)))
  refine Js 39 ?_ ?_
  ·intro h37
   have g38 := eq_of_beq h37
   refine Oq Vm (Oq Vgeq (Oq Vpt (Oq Vm ?_)))
   refine Js 43 ?_ ?_
   ·intro h39
    have g40 := dt h39
    refine Oq Vm (Oq Veql (Oq Vpt (Oq Va (KS ?_))))
    have hq := q4 hrr ((s.Targets.length : Int) == 0) (by simp only [r4_stmtOK, h12, h17, h22, h27, h29, h35, h37, h39, hg7, hg10, hg20, cs4]); subst hq
    exact Kr () rfl (.tmp rfl .nil) [] trivial
   intro h39
   have g41 := df h39
   refine Osk (Osk (Oq Vpf (Oq Va (KS ?_))))
   have hq := q4 hrr false (by simp only [r4_stmtOK, h12, h17, h22, h27, h29, h35, h37, h39, hg7, hg10, hg20, cs4]); subst hq
   exact Kr () rfl (.tmp rfl .nil) [] trivial
  intro h37
  have g42 := ne_of_beq_false h37
  refine Osk (Osk (Oq Vpf (Oq Vm (Osk (Osk (Oq Vpf (Oq Va (KS ?_))))))))
  have hq := q4 hrr false (by simp only [r4_stmtOK, h12, h17, h22, h27, h29, h35, h37, hg7, hg10, hg20, cs4]); subst hq
  exact Kr () rfl (.tmp rfl .nil) [] trivial
 intro h35
 have g43 := ne_of_beq_false h35
 refine KS ?_
 refine Oq Veql (Oq Va (KS ?_))
 refine Kc ?_ ?_
 ·intro h44
  have g45 := eq_of_beq h44
  refine KS ?_
  refine Oq (Vfa fo37_1 0) (Oq (VldF sh9 0) (Oq (VeqS (l := s.Def) (m := (Str.mk []))) (Oq Vm ?_)))
  refine Js 52 ?_ ?_
  ·intro h46
   have g47 := eq_of_beq h46
   refine Oq Vm (Oq Veql (Oq Vpt (Oq Vm ?_)))
   refine Js 56 ?_ ?_
   ·intro h48
    have g49 := eq_of_beq h48
    refine Oq Vm (Oq Veql (Oq Vpt (Oq Va (KS ?_))))
    have hq := q4 hrr ((s.Targets.length : Int) == 0) (by simp only [r4_stmtOK, h12, h17, h22, h27, h29, h35, h44, h46, h48, hg7, hg10, hg20, cs4]); subst hq
    exact Kr () rfl (.tmp rfl .nil) [] trivial
   intro h48
   have g50 := ne_of_beq_false h48
   refine Osk (Osk (Oq Vpf (Oq Va (KS ?_))))
   have hq := q4 hrr false (by simp only [r4_stmtOK, h12, h17, h22, h27, h29, h35, h44, h46, h48, hg7, hg10, hg20, cs4]); subst hq
   exact Kr () rfl (.tmp rfl .nil) [] trivial
  intro h46
  have g51 := ne_of_beq_false h46
  refine Osk (Osk (Oq Vpf (Oq Vm (Osk (Osk (Oq Vpf (Oq Va (KS ?_))))))))
  have hq := q4 hrr false (by simp only [r4_stmtOK, h12, h17, h22, h27, h29, h35, h44, h46, hg7, hg10, hg20, cs4]); subst hq
  exact Kr () rfl (.tmp rfl .nil) [] trivial
 intro h44
 have g52 := ne_of_beq_false h44
 refine KS ?_
 refine Oq Veql (Oq Va (KS ?_))
 refine Kc ?_ ?_
 ·intro h53
  have g54 := eq_of_beq h53
  refine KS ?_
  refine Kc ?_ ?_
  ·intro h55
   have g56 := eq_of_beq h55
   refine KS ?_
   refine Oq (Vfa fo37_1 0) (Oq (VldF sh9 0) (Oq (VeqS (l := s.Def) (m := (Str.mk []))) (Oq Vm ?_)))
   refine Js 66 ?_ ?_
   ·intro h57
    have g58 := eq_of_beq h57
    refine Oq Vm (Oq Veql (Oq Vpt (Oq Vm ?_)))
    refine Js 70 ?_ ?_
    ·intro h59
     have g60 := eq_of_beq h59
     refine Oq Vm (Oq Veql (Oq Vpt (Oq Va (KS ?_))))
     have hq := q4 hrr ((s.Targets.length : Int) == 1) (by simp only [r4_stmtOK, h12, h17, h22, h27, h29, h35, h44, h53, h55, h57, h59, hg7, hg10, hg20, cs4]); subst hq
     exact Kr () rfl (.tmp rfl .nil) [] trivial
    intro h59
    have g61 := ne_of_beq_false h59
    refine Osk (Osk (Oq Vpf (Oq Va (KS ?_))))
    have hq := q4 hrr false (by simp only [r4_stmtOK, h12, h17, h22, h27, h29, h35, h44, h53, h55, h57, h59, hg7, hg10, hg20, cs4]); subst hq
    exact Kr () rfl (.tmp rfl .nil) [] trivial
   intro h57
   have g62 := ne_of_beq_false h57
   refine Osk (Osk (Oq Vpf (Oq Vm (Osk (Osk (Oq Vpf (Oq Va (KS ?_))))))))
   have hq := q4 hrr false (by simp only [r4_stmtOK, h12, h17, h22, h27, h29, h35, h44, h53, h55, h57, hg7, hg10, hg20, cs4]); subst hq
   exact Kr () rfl (.tmp rfl .nil) [] trivial
  intro h55
  exact absurd h55 (by first | (simp [h53]; done) | (simp only [bne, h53]; decide) | (simp only [bne, h53, Bool.not_true, Bool.not_false]; decide) | (exfalso; omega) | (intro hq; simp only [bne, hq, Bool.not_false, Bool.not_true, reduceCtorEq] at h53))
 intro h53
 have g63 := ne_of_beq_false h53
 refine KS ?_
 refine Oq Veql (Oq Va (KS ?_))
 refine Kc ?_ ?_
 ·intro h64
  have g65 := eq_of_beq h64
  refine KS ?_
  refine Oq (Vfa fo37_1 0) (Oq (VldF sh9 0) (Oq (VeqS (l := s.Def) (m := (Str.mk []))) (Oq Vm ?_)))
  refine Js 66 ?_ ?_
  ·intro h66
   have g67 := eq_of_beq h66
   refine Oq Vm (Oq Veql (Oq Vpt (Oq Vm ?_)))
   refine Js 70 ?_ ?_
   ·intro h68
    have g69 := eq_of_beq h68
    refine Oq Vm (Oq Veql (Oq Vpt (Oq Va (KS ?_))))
    have hq := q4 hrr ((s.Targets.length : Int) == 1) (by simp only [r4_stmtOK, h12, h17, h22, h27, h29, h35, h44, h53, h64, h66, h68, hg7, hg10, hg20, cs4]); subst hq
    exact Kr () rfl (.tmp rfl .nil) [] trivial
   intro h68
   have g70 := ne_of_beq_false h68
   refine Osk (Osk (Oq Vpf (Oq Va (KS ?_))))
   have hq := q4 hrr false (by simp only [r4_stmtOK, h12, h17, h22, h27, h29, h35, h44, h53, h64, h66, h68, hg7, hg10, hg20, cs4]); subst hq
   exact Kr () rfl (.tmp rfl .nil) [] trivial
  intro h66
  have g71 := ne_of_beq_false h66
  refine Osk (Osk (Oq Vpf (Oq Vm (Osk (Osk (Oq Vpf (Oq Va (KS ?_))))))))
  have hq := q4 hrr false (by simp only [r4_stmtOK, h12, h17, h22, h27, h29, h35, h44, h53, h64, h66, hg7, hg10, hg20, cs4]); subst hq
  exact Kr () rfl (.tmp rfl .nil) [] trivial
 intro h64
 have g72 := ne_of_beq_false h64
 refine KS ?_
 refine Oq Veql (Oq Va (KS ?_))
 refine Kc ?_ ?_
 ·intro h73
  have g74 := eq_of_beq h73
  refine KS ?_
  refine Kc ?_ ?_
  ·intro h75
   have g76 := eq_of_beq h75
   refine KS ?_
   refine Oq Vm (Oq Vm ?_)
   refine Js 78 ?_ ?_
   ·intro h77
    refine Oq Vm (Oq Veql (Oq Vpt (Oq Vm ?_)))
    refine Js 82 ?_ ?_
    ·intro h79
     have g80 := eq_of_beq h79
     refine Oq Vm (Oq Veql (Oq Vpt (Oq Va (KS ?_))))
     have hq := q4 hrr ((s.Targets.length : Int) == 0) (by simp only [r4_stmtOK, h12, h17, h22, h27, h29, h35, h44, h53, h64, h73, h75, h77, h79, hg7, hg10, hg20, cs4]); subst hq
     exact Kr () rfl (.tmp rfl .nil) [] trivial
    intro h79
    have g81 := ne_of_beq_false h79
    refine Osk (Osk (Oq Vpf (Oq Va (KS ?_))))
    have hq := q4 hrr false (by simp only [r4_stmtOK, h12, h17, h22, h27, h29, h35, h44, h53, h64, h73, h75, h77, h79, hg7, hg10, hg20, cs4]); subst hq
    exact Kr () rfl (.tmp rfl .nil) [] trivial
   intro h77
   refine Osk (Osk (Oq Vpf (Oq Vm (Osk (Osk (Oq Vpf (Oq Va (KS ?_))))))))
   have hq := q4 hrr false (by simp only [r4_stmtOK, h12, h17, h22, h27, h29, h35, h44, h53, h64, h73, h75, h77, hg7, hg10, hg20, cs4]); subst hq
   exact Kr () rfl (.tmp rfl .nil) [] trivial
  intro h75
  exact absurd h75 (by first | (simp [h73]; done) | (simp only [bne, h73]; decide) | (simp only [bne, h73, Bool.not_true, Bool.not_false]; decide) | (exfalso; omega) | (intro hq; simp only [bne, hq, Bool.not_false, Bool.not_true, reduceCtorEq] at h73))
 intro h73
 have g83 := ne_of_beq_false h73
 refine KS ?_
 refine Oq Veql (Oq Va (KS ?_))
 refine Kc ?_ ?_
 ·intro h84
  have g85 := eq_of_beq h84
  refine KS ?_
  refine Oq Vm (Oq Vm ?_)
  refine Js 78 ?_ ?_
  ·intro h86
   refine Oq Vm (Oq Veql (Oq Vpt (Oq Vm ?_)))
   refine Js 82 ?_ ?_
   ·intro h88
    have g89 := eq_of_beq h88
    refine Oq Vm (Oq Veql (Oq Vpt (Oq Va (KS ?_))))
    have hq := q4 hrr ((s.Targets.length : Int) == 0) (by simp only [r4_stmtOK, h12, h17, h22, h27, h29, h35, h44, h53, h64, h73, h84, h86, h88, hg7, hg10, hg20, cs4]); subst hq
    exact Kr () rfl (.tmp rfl .nil) [] trivial
   intro h88
   have g90 := ne_of_beq_false h88
   refine Osk (Osk (Oq Vpf (Oq Va (KS ?_))))
   have hq := q4 hrr false (by simp only [r4_stmtOK, h12, h17, h22, h27, h29, h35, h44, h53, h64, h73, h84, h86, h88, hg7, hg10, hg20, cs4]); subst hq
   exact Kr () rfl (.tmp rfl .nil) [] trivial
  intro h86
  refine Osk (Osk (Oq Vpf (Oq Vm (Osk (Osk (Oq Vpf (Oq Va (KS ?_))))))))
  have hq := q4 hrr false (by simp only [r4_stmtOK, h12, h17, h22, h27, h29, h35, h44, h53, h64, h73, h84, h86, hg7, hg10, hg20, cs4]); subst hq
  exact Kr () rfl (.tmp rfl .nil) [] trivial
 intro h84
 have g92 := ne_of_beq_false h84
 refine KS ?_
 refine Oq Veql (Oq Va (KS ?_))
 refine Kc ?_ ?_
 ·intro h93
  have g94 := eq_of_beq h93
  refine KS ?_
  refine Oq (Vfa fo37_1 0) (Oq (VldF sh9 0) (Oq (VeqS (l := s.Def) (m := (Str.mk []))) (Oq Vm ?_)))
  refine Js 91 ?_ ?_
  ·intro h95
   have g96 := eq_of_beq h95
   refine Oq Vm (Oq Veql (Oq Vpt (Oq Vm ?_)))
   refine Js 95 ?_ ?_
   ·intro h97
    have g98 := eq_of_beq h97
    refine Oq Vm (Oq Veql (Oq Vpt (Oq Va (KS ?_))))
    have hq := q4 hrr ((s.Targets.length : Int) == 2) (by simp only [r4_stmtOK, h12, h17, h22, h27, h29, h35, h44, h53, h64, h73, h84, h93, h95, h97, hg7, hg10, hg20, cs4]); subst hq
    exact Kr () rfl (.tmp rfl .nil) [] trivial
   intro h97
   have g99 := ne_of_beq_false h97
   refine Osk (Osk (Oq Vpf (Oq Va (KS ?_))))
   have hq := q4 hrr false (by simp only [r4_stmtOK, h12, h17, h22, h27, h29, h35, h44, h53, h64, h73, h84, h93, h95, h97, hg7, hg10, hg20, cs4]); subst hq
   exact Kr () rfl (.tmp rfl .nil) [] trivial
  intro h95
  have g100 := ne_of_beq_false h95
  refine Osk (Osk (Oq Vpf (Oq Vm (Osk (Osk (Oq Vpf (Oq Va (KS ?_))))))))
  have hq := q4 hrr false (by simp only [r4_stmtOK, h12, h17, h22, h27, h29, h35, h44, h53, h64, h73, h84, h93, h95, hg7, hg10, hg20, cs4]); subst hq
  exact Kr () rfl (.tmp rfl .nil) [] trivial
 intro h93
 have g101 := ne_of_beq_false h93
 refine KS ?_
 refine Oq Veql (Oq Va (KS ?_))
 refine Kc ?_ ?_
 ·intro h102
  have g103 := eq_of_beq h102
  refine KS ?_
  refine Oq (Vfa fo37_1 0) (Oq (VldF sh9 0) (Oq (VeqS (l := s.Def) (m := (Str.mk []))) (Oq Vm ?_)))
  refine Js 104 ?_ ?_
  ·intro h104
   have g105 := eq_of_beq h104
   refine Oq Vm (Oq Veql (Oq Vpt (Oq Vm ?_)))
   refine Js 108 ?_ ?_
   ·intro h106
    have g107 := eq_of_beq h106
    refine Oq Vm (Oq Veql (Oq Vpt (Oq Va (KS ?_))))
    have hq := q4 hrr ((s.Targets.length : Int) == 0) (by simp only [r4_stmtOK, h12, h17, h22, h27, h29, h35, h44, h53, h64, h73, h84, h93, h102, h104, h106, hg7, hg10, hg20, cs4]); subst hq
    exact Kr () rfl (.tmp rfl .nil) [] trivial
   intro h106
   have g108 := ne_of_beq_false h106
   refine Osk (Osk (Oq Vpf (Oq Va (KS ?_))))
   have hq := q4 hrr false (by simp only [r4_stmtOK, h12, h17, h22, h27, h29, h35, h44, h53, h64, h73, h84, h93, h102, h104, h106, hg7, hg10, hg20, cs4]); subst hq
   exact Kr () rfl (.tmp rfl .nil) [] trivial
  intro h104
  have g109 := ne_of_beq_false h104
  refine Osk (Osk (Oq Vpf (Oq Vm (Osk (Osk (Oq Vpf (Oq Va (KS ?_))))))))
  have hq := q4 hrr false (by simp only [r4_stmtOK, h12, h17, h22, h27, h29, h35, h44, h53, h64, h73, h84, h93, h102, h104, hg7, hg10, hg20, cs4]); subst hq
  exact Kr () rfl (.tmp rfl .nil) [] trivial
 intro h102
 have g110 := ne_of_beq_false h102
 refine KS ?_
 refine Oq Va (KS ?_)
 have hq := q4 hrr false (by simp only [r4_stmtOK, h12, h17, h22, h27, h29, h35, h44, h53, h64, h73, h84, h93, h102, hg7, hg10, hg20, cs4]); subst hq
 exact Kr () rfl (.tmp rfl .nil) [] trivial
theorem fn23 (p : GProgram) (pa0 : Option Addr) (pk0 : Nat) (rr : Bool) (hrr : r4_Valid p = rr) : FT Tryz.prog 23 #[.agg #[vl pa0 pk0 p.Funcs]] [S pa0 pk0 p.Funcs] (fun g : Unit => True) (fun g => vb rr) (fun g => []) := by
 refine FTi Tryz.func23 fun w0 M0 F0 => Fb 40 0 fun _ => ?_
 refine KS ?_
 refine Oa (Ab [vl pa0 pk0 p.Funcs]) fun p2 => Oq Va (KS ?_)
 refine Oq (Vfa fo25_0 0) (Oq (VldF sh23 0) (Oq (Vlen sl23) (Oq Vlss (Oq Vm ?_))))
 refine Js 12 ?_ ?_
 ·intro h3
  have g4 := dt h3
  refine Osk (Osk (Osk (Osk (Oq Vpt (KS ?_)))))
  refine Kt (KS ?_)
  refine Oq Va (KS ?_)
  have hq := q4 hrr false (by simp only [r4_Valid, h3, cs4]); subst hq
  exact Kr () rfl (.tmp rfl .nil) [] trivial
 intro h3
 have g5 := df h3
 refine Oq (Vfa fo25_0 0) (Oq (VldF sh23 0) (Oq (Vlen sl23) (Oq Vgtr (Oq Vpf (KS ?_)))))
 refine Kc ?_ ?_
 ·intro h6
  have g7 := dt h6
  refine KS ?_
  refine Oq Va (KS ?_)
  have hq := q4 hrr false (by simp only [r4_Valid, h3, h6, cs4]); subst hq
  exact Kr () rfl (.tmp rfl .nil) [] trivial
 intro h6
 have g8 := df h6
 refine KS ?_
 refine Oq Va (KS ?_)
 refine Kl (γ := Nat × Int) (fun (r9, i_10) => ⟨[(1, p2), (3, vi i_10)], [pv p2 [vl pa0 pk0 p.Funcs], S pa0 pk0 p.Funcs], r4_Valid_L0 p r9 i_10 = r4_Valid_L0 p (((p.Funcs.length : Int) - 0).toNat) 0 ∧ r9 = ((p.Funcs.length : Int) - i_10).toNat ∧ (0 : Int) ≤ i_10 ∧ i_10 ≤ (p.Funcs.length : Int) ∧ (-9223372036854775808 ≤ i_10 ∧ i_10 ≤ 9223372036854775807), r9⟩) (((p.Funcs.length : Int) - 0).toNat, 0) [0, 1] ⟨rfl, rfl, aM1, aM1, aM1⟩ ?_
 rintro ⟨r9, i_10⟩ ⟨hM11, hr12, hi13, hi14, hk15⟩
 refine JJ_nx fun _ _ hL hA => ?_; dsimp only at hL hA; subst hL hA
 refine Fb 40 1 fun _ => KS ?_
 refine Oq Vm (Oq (Vfa fo25_0 0) (Oq (VldF sh23 0) (Oq (Vlen sl23) (Oq Vlss (KS ?_)))))
 refine Kc ?_ ?_
 ·intro h17
  have g18 := dt h17
  obtain ⟨r19, rfl⟩ := scc (n := r9) aM1
  refine KS ?_
  refine Oq (Vfa fo25_0 0) (Oq (VldF sh23 0) (Oq Vm (Oq (Vi sl23 1) ?_)))
  refine JJ_peek_GFunc i_10.toNat 1 rfl rng fun a20 k21 hb22 => ?_
  refine Fb 40 1 fun _ => ?_
  refine Oq (VldA sh31 0) (Oa (Al ze31 [.string (bs (Str.mk [])), .slice none 0 0]) fun p24 => Ost (Scl [0] sh31 [.string (bs ((p.Funcs.getD i_10.toNat default).Name)), vl a20 k21 ((p.Funcs.getD i_10.toNat default).Blocks)]) (KS ?_))
  refine Oq (Vfa fo31_0 0) (Oq (VldF sh9 0) ?_)
  refine letv (r4_IsName ((p.Funcs.getD i_10.toNat default).Name)) fun rv25 hg26 => ?_
  have hc27 := fn51 ((p.Funcs.getD i_10.toNat default).Name) pre rv25 hg26
  refine Oc [] ca51 hc27 ?_
  rintro - -
  refine Oq Vnot (Oq Vm ?_)
  refine Js 34 ?_ ?_
  ·intro h28
   have h30 := not_true h28
   refine Osk (Osk (Osk (Osk (Oq Vpt (Oq Vm (Osk (Osk (Osk (Osk ?_)))))))))
   refine Oq Vpt (KS ?_)
   refine Kt (KS ?_)
   refine Oq Va (KS ?_)
   have hR32 := q2 hM11 (.ret false) (by simp only [r4_Valid_L0, h17, h28, h30, hg26, cs4])
   have hq := q4 hrr false (by simp only [r4_Valid, h3, h6, h17, h28, h30, hg26, hR32, cs4]); subst hq
   exact Kr () rfl (.tmp rfl .nil) [] trivial
  intro h28
  have h34 := not_false h28
  refine Oq (Vfa fo31_1 0) (Oq (VldF sh29 0) (Oq (Vlen sl29) (Oq Vlss (Oq Vpf (Oq Vm ?_)))))
  refine Js 40 ?_ ?_
  ·intro h36
   have g37 := dt h36
   refine Osk (Osk (Osk (Osk (Oq Vpt (KS ?_)))))
   refine Kt (KS ?_)
   refine Oq Va (KS ?_)
   have hR38 := q2 hM11 (.ret false) (by simp only [r4_Valid_L0, h17, h28, h34, h36, hg26, cs4])
   have hq := q4 hrr false (by simp only [r4_Valid, h3, h6, h17, h28, h34, h36, hg26, hR38, cs4]); subst hq
   exact Kr () rfl (.tmp rfl .nil) [] trivial
  intro h36
  have g39 := df h36
  refine Oq (Vfa fo31_1 0) (Oq (VldF sh29 0) (Oq (Vlen sl29) (Oq Vgtr (Oq Vpf (KS ?_)))))
  refine Kc ?_ ?_
  ·intro h40
   have g41 := dt h40
   refine KS ?_
   refine Oq Va (KS ?_)
   have hR42 := q2 hM11 (.ret false) (by simp only [r4_Valid_L0, h17, h28, h34, h36, h40, hg26, cs4])
   have hq := q4 hrr false (by simp only [r4_Valid, h3, h6, h17, h28, h34, h36, h40, hg26, hR42, cs4]); subst hq
   exact Kr () rfl (.tmp rfl .nil) [] trivial
  intro h40
  have g43 := df h40
  refine KS ?_
  refine Oq Va (KS ?_)
  refine Kl (γ := Nat × Int) (fun (r44, k_45) => ⟨[(1, p2), (3, vi i_10), (4, p24), (5, vi k_45)], [Cl p24 [.string (bs ((p.Funcs.getD i_10.toNat default).Name)), vl a20 k21 ((p.Funcs.getD i_10.toNat default).Blocks)], S a20 k21 ((p.Funcs.getD i_10.toNat default).Blocks), pv p2 [vl pa0 pk0 p.Funcs], S pa0 pk0 p.Funcs], r4_Valid_L1 ((p.Funcs.getD i_10.toNat default).Blocks) r44 k_45 = r4_Valid_L1 ((p.Funcs.getD i_10.toNat default).Blocks) ((((((p.Funcs.getD i_10.toNat default).Blocks).length : Int) : Int) - 0).toNat) 0 ∧ r44 = (((((p.Funcs.getD i_10.toNat default).Blocks).length : Int) : Int) - k_45).toNat ∧ (0 : Int) ≤ k_45 ∧ (k_45 ≤ (((p.Funcs.getD i_10.toNat default).Blocks).length : Int) ∨ k_45 = 0) ∧ (-9223372036854775808 ≤ k_45 ∧ k_45 ≤ 9223372036854775807), r44⟩) ((((((p.Funcs.getD i_10.toNat default).Blocks).length : Int) : Int) - 0).toNat, 0) [0, 1, 2, 3] ⟨rfl, rfl, aM1, (.inr rfl), aM1⟩ ?_
  rintro ⟨r44, k_45⟩ ⟨hM46, hr47, hi48, hi49, hk50⟩
  refine JJ_nx fun _ _ hL hA => ?_; dsimp only at hL hA; subst hL hA
  refine Fb 40 1 fun _ => Fb 40 3 fun _ => KS ?_
  refine Oq Vm (Oq (Vfa fo31_1 0) (Oq (VldF sh29 0) (Oq (Vlen sl29) (Oq Vlss (KS ?_)))))
  refine Kc ?_ ?_
  ·intro h53
   have g54 := dt h53
   obtain ⟨r55, rfl⟩ := scc (n := r44) aM1
   refine KS ?_
   refine Oq (Vfa fo31_1 0) (Oq (VldF sh29 0) (Oq Vm (Oq (Vi sl29 1) ?_)))
   refine JJ_peek_GBlock k_45.toNat 1 rfl rng fun a56 k57 hb58 => ?_
   refine Fb 72 1 fun _ => ?_
   refine Oq (VldA sh34 0) (Oa (Al ze34 [.string (bs (Str.mk [])), .slice none 0 0]) fun p60 => Ost (Scl [0] sh34 [.string (bs ((((p.Funcs.getD i_10.toNat default).Blocks).getD k_45.toNat default).Name)), .slice a56 (((((p.Funcs.getD i_10.toNat default).Blocks).getD k_45.toNat default).Stmts).length) k57]) (KS ?_))
   refine Oq (Vfa fo34_0 0) (Oq (VldF sh9 0) ?_)
   refine letv (r4_IsName ((((p.Funcs.getD i_10.toNat default).Blocks).getD k_45.toNat default).Name)) fun rv61 hg62 => ?_
   have hc63 := fn51 ((((p.Funcs.getD i_10.toNat default).Blocks).getD k_45.toNat default).Name) pre rv61 hg62
   refine Oc [] ca51 hc63 ?_
   rintro - -
   refine Oq Vnot (Oq Vm ?_)
   refine Js 62 ?_ ?_
   ·intro h64
    have h66 := not_true h64
    refine Osk (Osk (Osk (Osk (Oq Vpt (Oq Vm (Osk (Osk (Osk (Osk ?_)))))))))
    refine Oq Vpt (KS ?_)
    refine Kt (KS ?_)
    refine Oq Va (KS ?_)
    have hR68 := q2 hM46 (.ret false) (by simp only [r4_Valid_L1, h53, h64, h66, hg62, cs4])
    have hR69 := q2 hM11 (.ret false) (by simp only [r4_Valid_L0, h17, h28, h34, h36, h40, h53, h64, h66, hg26, hg62, hR68, cs4])
    have hq := q4 hrr false (by simp only [r4_Valid, h3, h6, h17, h28, h34, h36, h40, h53, h64, h66, hg26, hg62, hR68, hR69, cs4]); subst hq
    exact Kr () rfl (.tmp rfl .nil) [] trivial
   intro h64
   have h71 := not_false h64
   refine Oq (Vfa fo34_1 0) (Oq (VldF sh32 0) (Oq (Vlen sl32) (Oq Vlss (Oq Vpf (Oq Vm ?_)))))
   refine Js 68 ?_ ?_
   ·intro h73
    have g74 := dt h73
    refine Osk (Osk (Osk (Osk (Oq Vpt (KS ?_)))))
    refine Kt (KS ?_)
    refine Oq Va (KS ?_)
    have hR75 := q2 hM46 (.ret false) (by simp only [r4_Valid_L1, h53, h64, h71, h73, hg62, cs4])
    have hR76 := q2 hM11 (.ret false) (by simp only [r4_Valid_L0, h17, h28, h34, h36, h40, h53, h64, h71, h73, hg26, hg62, hR75, cs4])
    have hq := q4 hrr false (by simp only [r4_Valid, h3, h6, h17, h28, h34, h36, h40, h53, h64, h71, h73, hg26, hg62, hR75, hR76, cs4]); subst hq
    exact Kr () rfl (.tmp rfl .nil) [] trivial
   intro h73
   have g77 := df h73
   refine Oq (Vfa fo34_1 0) (Oq (VldF sh32 0) (Oq (Vlen sl32) (Oq Vgtr (Oq Vpf (KS ?_)))))
   refine Kc ?_ ?_
   ·intro h78
    have g79 := dt h78
    refine KS ?_
    refine Oq Va (KS ?_)
    have hR80 := q2 hM46 (.ret false) (by simp only [r4_Valid_L1, h53, h64, h71, h73, h78, hg62, cs4])
    have hR81 := q2 hM11 (.ret false) (by simp only [r4_Valid_L0, h17, h28, h34, h36, h40, h53, h64, h71, h73, h78, hg26, hg62, hR80, cs4])
    have hq := q4 hrr false (by simp only [r4_Valid, h3, h6, h17, h28, h34, h36, h40, h53, h64, h71, h73, h78, hg26, hg62, hR80, hR81, cs4]); subst hq
    exact Kr () rfl (.tmp rfl .nil) [] trivial
   intro h78
   have g82 := df h78
   refine KS ?_
   refine Oq Va (KS ?_)
   refine Kl (γ := Nat × Int) (fun (r83, j_84) => ⟨[(1, p2), (3, vi i_10), (4, p24), (5, vi k_45), (6, p60), (7, vi j_84)], [Cl p60 [.string (bs ((((p.Funcs.getD i_10.toNat default).Blocks).getD k_45.toNat default).Name)), .slice a56 (((((p.Funcs.getD i_10.toNat default).Blocks).getD k_45.toNat default).Stmts).length) k57], S a56 k57 ((((p.Funcs.getD i_10.toNat default).Blocks).getD k_45.toNat default).Stmts), Cl p24 [.string (bs ((p.Funcs.getD i_10.toNat default).Name)), vl a20 k21 ((p.Funcs.getD i_10.toNat default).Blocks)], S a20 k21 ((p.Funcs.getD i_10.toNat default).Blocks), pv p2 [vl pa0 pk0 p.Funcs], S pa0 pk0 p.Funcs], r4_Valid_L2 ((((p.Funcs.getD i_10.toNat default).Blocks).getD k_45.toNat default).Stmts) r83 j_84 = r4_Valid_L2 ((((p.Funcs.getD i_10.toNat default).Blocks).getD k_45.toNat default).Stmts) ((((((((p.Funcs.getD i_10.toNat default).Blocks).getD k_45.toNat default).Stmts).length : Int) : Int) - 0).toNat) 0 ∧ r83 = (((((((p.Funcs.getD i_10.toNat default).Blocks).getD k_45.toNat default).Stmts).length : Int) : Int) - j_84).toNat ∧ (0 : Int) ≤ j_84 ∧ (j_84 ≤ (((((p.Funcs.getD i_10.toNat default).Blocks).getD k_45.toNat default).Stmts).length : Int) ∨ j_84 = 0) ∧ (-9223372036854775808 ≤ j_84 ∧ j_84 ≤ 9223372036854775807), r83⟩) ((((((((p.Funcs.getD i_10.toNat default).Blocks).getD k_45.toNat default).Stmts).length : Int) : Int) - 0).toNat, 0) [0, 1, 2, 2, 3, 4] ⟨rfl, rfl, aM1, (.inr rfl), aM1⟩ ?_
   rintro ⟨r83, j_84⟩ ⟨hM85, hr86, hi87, hi88, hk89⟩
   refine JJ_nx fun _ _ hL hA => ?_; dsimp only at hL hA; subst hL hA
   refine Fb 72 1 fun _ => Fb 40 3 fun _ => Fb 40 5 fun _ => KS ?_
   refine Oq Vm (Oq (Vfa fo34_1 0) (Oq (VldF sh32 0) (Oq (Vlen sl32) (Oq Vlss (KS ?_)))))
   refine Kc ?_ ?_
   ·intro h93
    have g94 := dt h93
    obtain ⟨r95, rfl⟩ := scc (n := r83) aM1
    refine KS ?_
    refine Oq (Vfa fo34_1 0) (Oq (VldF sh32 0) (Oq Vm (Oq (Vi sl32 1) ?_)))
    refine JJ_peek_GStmt j_84.toNat 1 rfl rng fun a96 k97 a98 k99 hb100 hb101 => ?_
    unfold i64ok at hb100
    refine Fb 16 1 fun _ => ?_
    refine FoS 1 fun ho103 => ?_
    refine Fb 16 2 fun _ => ?_
    refine FoS 2 fun ho105 => ?_
    refine Oq (VldA sh37 0) ?_
    refine letv (r4_stmtOK (((((p.Funcs.getD i_10.toNat default).Blocks).getD k_45.toNat default).Stmts).getD j_84.toNat default)) fun rv106 hg107 => ?_
    have hc108 := fn52 ((((((p.Funcs.getD i_10.toNat default).Blocks).getD k_45.toNat default).Stmts).getD j_84.toNat default)) a96 k97 a98 k99 pre pre rv106 hg107
    refine Oc [1, 2] ca52 hc108 ?_
    rintro - -
    refine Oq Vnot (KS ?_)
    refine Kc ?_ ?_
    ·intro h109
     have h111 := not_true h109
     refine KS ?_
     refine Oq Va (KS ?_)
     have hR113 := q2 hM85 (.ret false) (by simp only [r4_Valid_L2, h93, h109, h111, hg107, cs4])
     have hR114 := q2 hM46 (.ret false) (by simp only [r4_Valid_L1, h53, h64, h71, h73, h78, h93, h109, h111, hg62, hg107, hR113, cs4])
     have hR115 := q2 hM11 (.ret false) (by simp only [r4_Valid_L0, h17, h28, h34, h36, h40, h53, h64, h71, h73, h78, h93, h109, h111, hg26, hg62, hg107, hR113, hR114, cs4])
     have hq := q4 hrr false (by simp only [r4_Valid, h3, h6, h17, h28, h34, h36, h40, h53, h64, h71, h73, h78, h93, h109, h111, hg26, hg62, hg107, hR113, hR114, hR115, cs4]); subst hq
     exact Kr () rfl (.tmp rfl .nil) [] trivial
    intro h109
    have h117 := not_false h109
    refine KS ?_
    refine Oq Vm (Oq Vadd (Oq Va (KS ?_)))
    exact Kg (r95, (j_84 + 1)) [3, 3, 4, 4, 5, 6] ⟨(q3 hM85 (by simp only [r4_Valid_L2, h93, h109, h117, hg107, cs4])), aM1, aM1, aM1, aM1⟩
   intro h93
   have g119 := df h93
   obtain rfl : r83 = 0 := by omega
   refine Ke ?_
   have hR120 := q2 hM85 (.brk ()) (by simp only [r4_Valid_L2, h93, cs4])
   refine KS ?_
   refine Oq Vm (Oq Vadd (Oq Va (KS ?_)))
   exact Kg (r55, (k_45 + 1)) [2, 2, 3, 4] ⟨(q3 hM46 (by simp only [r4_Valid_L1, h53, h64, h71, h73, h78, h93, hg62, hR120, cs4])), aM1, aM1, aM1, aM1⟩
  intro h53
  have g121 := df h53
  obtain rfl : r44 = 0 := by omega
  refine Ke ?_
  have hR122 := q2 hM46 (.brk ()) (by simp only [r4_Valid_L1, h53, cs4])
  refine KS ?_
  refine Oq Vm (Oq Vadd (Oq Va (KS ?_)))
  exact Kg (r19, (i_10 + 1)) [2, 3] ⟨(q3 hM11 (by simp only [r4_Valid_L0, h17, h28, h34, h36, h40, h53, hg26, hR122, cs4])), aM1, aM1, aM1, aM1⟩
 intro h17
 have g123 := df h17
 obtain rfl : r9 = 0 := by omega
 refine Ke ?_
 have hR124 := q2 hM11 (.brk ()) (by simp only [r4_Valid_L0, h17, cs4])
 refine KS ?_
 refine Oq Va (KS ?_)
 have hq := q4 hrr true (by simp only [r4_Valid, h3, h6, h17, hR124, cs4]); subst hq
 exact Kr () rfl (.tmp rfl .nil) [] trivial
theorem fn24 (l : List Str) (la0 : Option Addr) (lk0 : Nat) (s : Str) (hs_0 : s.b.length ≤ 140737488355328) (rr : Int) (hrr : r4_Place l s = rr) : FT Tryz.prog 24 #[vl la0 lk0 l, .string (bs s)] [S la0 lk0 l] (fun g : Unit => i64ok rr) (fun g => vi rr) (fun g => []) := by
 refine FTi Tryz.func24 fun w0 M0 F0 => Fb 16 0 fun _ => ?_
 refine FoS 0 fun ho2 => ?_
 refine KS ?_
 refine Oq Va (KS ?_)
 refine Oq Va (KS ?_)
 refine Kl (γ := Nat × Int) (fun (r3, i_4) => ⟨[(0, vl la0 lk0 l), (1, .string (bs s)), (5, vi i_4)], [S la0 lk0 l], r4_Place_L0 l s r3 i_4 = r4_Place_L0 l s (((l.length : Int) - 0).toNat) 0 ∧ r3 = ((l.length : Int) - i_4).toNat ∧ (0 : Int) ≤ i_4 ∧ i_4 ≤ (l.length : Int) ∧ (-9223372036854775808 ≤ i_4 ∧ i_4 ≤ 9223372036854775807), r3⟩) (((l.length : Int) - 0).toNat, 0) [0] ⟨rfl, rfl, aM1, aM1, aM1⟩ ?_
 rintro ⟨r3, i_4⟩ ⟨hM5, hr6, hi7, hi8, hk9⟩
 refine JJ_nx fun _ _ hL hA => ?_; dsimp only at hL hA; subst hL hA
 refine Fb 16 0 fun _ => ?_
 refine FoS 0 fun ho11 => ?_
 refine KS ?_
 refine Oq Vm (Oq Vm (Oq (Vlen sl35) (Oq Vlss (KS ?_))))
 refine Kc ?_ ?_
 ·intro h12
  have g13 := dt h12
  obtain ⟨r14, rfl⟩ := scc (n := r3) aM1
  refine KS ?_
  refine Oq Vm (Oq Vm (Oq (Vi sl35 0) ?_))
  have hb15 := okS (i := i_4.toNat) ho11 rng
  refine Oq (VldS sh9 0) (Oq Vm (Oq (VeqS (l := (l.getD i_4.toNat default)) (m := s)) (KS ?_)))
  refine Kc ?_ ?_
  ·intro h16
   have g17 := eq_of_beq h16
   refine KS ?_
   refine Oq Vm (Oq Va (KS ?_))
   have hR18 := q2 hM5 (.ret i_4) (by simp only [r4_Place_L0, h12, h16, cs4])
   have hq := q4 hrr i_4 (by simp only [r4_Place, h12, h16, hR18, cs4]); subst hq
   exact Kr () rfl (.tmp rfl .nil) [] en
  intro h16
  have g19 := ne_of_beq_false h16
  refine KS ?_
  refine Oq Vm (Oq Vadd (Oq Va (KS ?_)))
  exact Kg (r14, (i_4 + 1)) [0] ⟨(q3 hM5 (by simp only [r4_Place_L0, h12, h16, cs4])), aM1, aM1, aM1, aM1⟩
 intro h12
 have g20 := df h12
 obtain rfl : r3 = 0 := by omega
 refine Ke ?_
 have hR21 := q2 hM5 (.brk ()) (by simp only [r4_Place_L0, h12, cs4])
 refine KS ?_
 refine Oq Va (KS ?_)
 have hq := q4 hrr (-1) (by simp only [r4_Place, h12, hR21, cs4]); subst hq
 exact Kr () rfl (.tmp rfl .nil) [] en
theorem fn8 (p : GProgram) (pa0 : Option Addr) (pk0 : Nat) (rr : List Str) (hrr : r4_Variables p = rr) : FT Tryz.prog 8 #[.agg #[vl pa0 pk0 p.Funcs]] [S pa0 pk0 p.Funcs] (fun g : Value => True) (fun g => g) (fun g => [sl g rr]) := by
 refine FTi Tryz.func8 fun w0 M0 F0 => Fb 40 0 fun _ => ?_
 refine KS ?_
 refine Oa (Ab [vl pa0 pk0 p.Funcs]) fun p2 => Oq Va (KS ?_)
 refine Oq Va (KS ?_)
 refine Oq (VldA sh25 0) ?_
 refine letv (r4_Valid p) fun rv3 hg4 => ?_
 have hc5 := fn23 p pa0 pk0 rv3 hg4
 refine Oc [1] ca23 hc5 ?_
 rintro - -
 refine Oq Vnot (KS ?_)
 refine Kc ?_ ?_
 ·intro h6
  have h8 := not_true h6
  refine KS ?_
  refine Oq Va (KS ?_)
  refine Jl [] (Ent.slNil (α := Str)) ?_
  have hq := q4 hrr ([] : List Str) (by simp only [r4_Variables, h6, h8, hg4, cs4]); subst hq
  exact Kr (.slice none 0 0) rfl (.tmp rfl .nil) [0] trivial
 intro h6
 have h11 := not_false h6
 try have hVb := PVal_b (p := p) (by simp only [h6, h11, hg4])
 refine KS ?_
 refine Oq Va (KS ?_)
 refine Jl [] (Ent.osNil (α := Str)) ?_
 refine Kl (γ := Nat × List Str × Int × Option Addr × Nat) (fun (r13, out_14, i_15, a16, k17) => ⟨[(1, p2), (3, vl a16 k17 out_14), (4, vi i_15)], [O a16 k17 out_14, pv p2 [vl pa0 pk0 p.Funcs], S pa0 pk0 p.Funcs], r4_Variables_L0 p r13 out_14 i_15 = r4_Variables_L0 p (((p.Funcs.length : Int) - 0).toNat) [] 0 ∧ r13 = ((p.Funcs.length : Int) - i_15).toNat ∧ (0 : Int) ≤ i_15 ∧ i_15 ≤ (p.Funcs.length : Int) ∧ (-9223372036854775808 ≤ i_15 ∧ i_15 ≤ 9223372036854775807) ∧ ((out_14.length : Int) ≤ 3000 * i_15), r13⟩) (((p.Funcs.length : Int) - 0).toNat, [], 0, none, 0) [0, 0, 1] ⟨rfl, rfl, aM1, aM1, aM1, iv0⟩ ?_
 rintro ⟨r13, out_14, i_15, a16, k17⟩ ⟨hM18, hr19, hi20, hi21, hk22, hv23⟩
 refine JJ_nx fun _ _ hL hA => ?_; dsimp only at hL hA; subst hL hA
 refine Fb 16 0 fun _ => ?_
 refine FoS 0 fun ho25 => ?_
 refine Fb 40 2 fun _ => KS ?_
 refine Oq Vm (Oq (Vfa fo25_0 1) (Oq (VldF sh23 1) (Oq (Vlen sl23) (Oq Vlss (KS ?_)))))
 refine Kc ?_ ?_
 ·intro h27
  have g28 := dt h27
  have hVf := hVb.2 i_15.toNat
  obtain ⟨r29, rfl⟩ := scc (n := r13) aM1
  refine KS ?_
  refine Oq Va (KS ?_)
  refine Kl (γ := Nat × List Str × Int × Option Addr × Nat) (fun (r30, out_31, k_32, a33, k34) => ⟨[(1, p2), (3, vl a33 k34 out_31), (4, vi i_15), (5, vi k_32)], [O a33 k34 out_31, pv p2 [vl pa0 pk0 p.Funcs], S pa0 pk0 p.Funcs], r4_Variables_L1 p i_15 r30 out_31 k_32 = r4_Variables_L1 p i_15 ((((((p.Funcs.getD i_15.toNat default).Blocks).length : Int) : Int) - 0).toNat) out_14 0 ∧ r30 = (((((p.Funcs.getD i_15.toNat default).Blocks).length : Int) : Int) - k_32).toNat ∧ (0 : Int) ≤ k_32 ∧ (k_32 ≤ (((p.Funcs.getD i_15.toNat default).Blocks).length : Int) ∨ k_32 = 0) ∧ (-9223372036854775808 ≤ k_32 ∧ k_32 ≤ 9223372036854775807) ∧ ((out_31.length : Int) ≤ (out_14.length : Int) + 180 * k_32), r30⟩) ((((((p.Funcs.getD i_15.toNat default).Blocks).length : Int) : Int) - 0).toNat, out_14, 0, a16, k17) [0, 0, 1] ⟨rfl, rfl, aM1, (.inr rfl), aM1, iv0⟩ ?_
  rintro ⟨r30, out_31, k_32, a33, k34⟩ ⟨hM35, hr36, hi37, hi38, hk39, hv40⟩
  refine JJ_nx fun _ _ hL hA => ?_; dsimp only at hL hA; subst hL hA
  refine Fb 16 0 fun _ => ?_
  refine FoS 0 fun ho42 => ?_
  refine Fb 40 2 fun _ => KS ?_
  refine Oq Vm (Oq (Vfa fo25_0 1) (Oq (VldF sh23 1) (Oq Vm (Oq (Vi sl23 2) ?_))))
  refine JJ_peek_GFunc i_15.toNat 2 rfl rng fun a44 k45 hb46 => ?_
  refine Fb 40 1 fun _ => ?_
  refine Oq (Vfa fo31_1 0) (Oq (VldF sh29 0) (Oq (Vlen sl29) (Oq Vlss (KS ?_))))
  refine Kc ?_ ?_
  ·intro h48
   have g49 := dt h48
   have hVk := hVf.2 k_32.toNat
   obtain ⟨r50, rfl⟩ := scc (n := r30) aM1
   refine KS ?_
   refine Oq (Vfa fo25_0 3) (Oq (VldF sh23 3) (Oq Vm (Oq (Vi sl23 4) (Oq (Vfa fo31_1 0) (Oq (VldF sh29 0) (Oq Vm (Oq (Vi sl29 1) ?_)))))))
   refine JJ_peek_GBlock k_32.toNat 1 rfl rng fun a51 k52 hb53 => ?_
   refine Fb 72 1 fun _ => ?_
   refine Oq (Vfa fo34_1 0) (Oq (VldF sh32 0) (Oq Va (KS ?_)))
   refine Oq Va (KS ?_)
   refine Kl (γ := Nat × List Str × Int × Option Addr × Nat) (fun (r55, out_56, j_57, a58, k59) => ⟨[(1, p2), (3, vl a58 k59 out_56), (4, vi i_15), (5, vi k_32), (6, .slice a51 (((((p.Funcs.getD i_15.toNat default).Blocks).getD k_32.toNat default).Stmts).length) k52), (7, vi j_57)], [O a58 k59 out_56, S a51 k52 ((((p.Funcs.getD i_15.toNat default).Blocks).getD k_32.toNat default).Stmts), pv p2 [vl pa0 pk0 p.Funcs], S pa0 pk0 p.Funcs], r4_Variables_L2 ((((p.Funcs.getD i_15.toNat default).Blocks).getD k_32.toNat default).Stmts) r55 out_56 j_57 = r4_Variables_L2 ((((p.Funcs.getD i_15.toNat default).Blocks).getD k_32.toNat default).Stmts) ((((((((p.Funcs.getD i_15.toNat default).Blocks).getD k_32.toNat default).Stmts).length : Int) : Int) - 0).toNat) out_31 0 ∧ r55 = (((((((p.Funcs.getD i_15.toNat default).Blocks).getD k_32.toNat default).Stmts).length : Int) : Int) - j_57).toNat ∧ (0 : Int) ≤ j_57 ∧ (j_57 ≤ (((((p.Funcs.getD i_15.toNat default).Blocks).getD k_32.toNat default).Stmts).length : Int) ∨ j_57 = 0) ∧ (-9223372036854775808 ≤ j_57 ∧ j_57 ≤ 9223372036854775807) ∧ ((out_56.length : Int) ≤ (out_31.length : Int) + 5 * j_57), r55⟩) ((((((((p.Funcs.getD i_15.toNat default).Blocks).getD k_32.toNat default).Stmts).length : Int) : Int) - 0).toNat, out_31, 0, a33, k34) [4, 1, 4, 5] ⟨rfl, rfl, aM1, (.inr rfl), aM1, iv0⟩ ?_
   rintro ⟨r55, out_56, j_57, a58, k59⟩ ⟨hM60, hr61, hi62, hi63, hk64, hv65⟩
   refine JJ_nx fun _ _ hL hA => ?_; dsimp only at hL hA; subst hL hA
   refine Fb 16 0 fun _ => ?_
   refine FoS 0 fun ho67 => ?_
   refine Fb 72 1 fun _ => Fb 40 3 fun _ => KS ?_
   refine Oq Vm (Oq Vm (Oq (Vlen sl32) (Oq Vlss (KS ?_))))
   refine Kc ?_ ?_
   ·intro h70
    have g71 := dt h70
    have hVs := hVk.2 j_57.toNat
    obtain ⟨r72, rfl⟩ := scc (n := r55) aM1
    refine KS ?_
    refine Oq Vm (Oq Vm (Oq (Vi sl32 1) ?_))
    refine JJ_peek_GStmt j_57.toNat 1 rfl rng fun a73 k74 a75 k76 hb77 hb78 => ?_
    unfold i64ok at hb77
    refine Fb 16 1 fun _ => ?_
    refine FoS 1 fun ho80 => ?_
    refine Fb 16 2 fun _ => ?_
    refine FoS 2 fun ho82 => ?_
    refine Oq (Vfa fo37_2 0) (Oq (VldF sh35 0) (Oq Va (KS ?_)))
    refine Oq Vm (Oq Vm (Oq (Vi sl32 4) (Oq (Vfa fo37_1 0) (Oq (VldF sh9 0) (Oq (VneS (l := (((((p.Funcs.getD i_15.toNat default).Blocks).getD k_32.toNat default).Stmts).getD j_57.toNat default).Def) (m := (Str.mk []))) (KS ?_))))))
    refine Kc ?_ ?_
    ·intro h83
     have g84 := ne_of_bne h83
     refine JK_drawK [0, 0, 3, 7, 15, 31, 0, 0, 192, 448, 960, 2047, 4095] fmix ?_
     refine Dv [] Vm (Dv [] Vm (Dv [4] (Vi sl32 0) (Dv [0] (Vfa fo37_1 0) (Dv [0] (VldF sh9 0) (Dx [] [] [0] (fun G => (G.g 5 0)) [fun G => Cr (G.g 5 0) 1 [.string (bs ((((((p.Funcs.getD i_15.toNat default).Blocks).getD k_32.toNat default).Stmts).getD j_57.toNat default).Def))]] (fun G => xA (AsV sl35 sz35 [.string (bs ((((((p.Funcs.getD i_15.toNat default).Blocks).getD k_32.toNat default).Stmts).getD j_57.toNat default).Def))] [.string (bs ((((((p.Funcs.getD i_15.toNat default).Blocks).getD k_32.toNat default).Stmts).getD j_57.toNat default).Def))])) (Dv [] Vm (Dv [] Vm (Dv [4] (Vi sl32 0) (Dv [0] (Vfa fo37_2 0) ?_)))))))))
     refine Dv [0] (VldF sh35 0) ?_
     have hn87 : ([(((((p.Funcs.getD i_15.toNat default).Blocks).getD k_32.toNat default).Stmts).getD j_57.toNat default).Def] ++ (((((p.Funcs.getD i_15.toNat default).Blocks).getD k_32.toNat default).Stmts).getD j_57.toNat default).Uses : List Str).length = 1 + ((((((p.Funcs.getD i_15.toNat default).Blocks).getD k_32.toNat default).Stmts).getD j_57.toNat default).Uses).length := la ([(((((p.Funcs.getD i_15.toNat default).Blocks).getD k_32.toNat default).Stmts).getD j_57.toNat default).Def] : List Str) ((((((p.Funcs.getD i_15.toNat default).Blocks).getD k_32.toNat default).Stmts).getD j_57.toNat default).Uses)
     refine Dx [1, 7] [7] [1, 0] (fun G => (G.g 11 0)) [fun G => os (G.g 11 0) (([(((((p.Funcs.getD i_15.toNat default).Blocks).getD k_32.toNat default).Stmts).getD j_57.toNat default).Def] ++ (((((p.Funcs.getD i_15.toNat default).Blocks).getD k_32.toNat default).Stmts).getD j_57.toNat default).Uses) : List Str)] (fun G => xp [1] rfl (Ent.cr1 (α := Str) (A := []) _ ((((((p.Funcs.getD i_15.toNat default).Blocks).getD k_32.toNat default).Stmts).getD j_57.toNat default).Def) _ aB1 (fun _ => ⟨rfl, aS1⟩)) (xA (Ap [0, 0] sl35 sl35 sz35))) (Dg [] (fun G => (G.g 11 0)) (fun G => Va) ?_)
     refine Dn ⟨by kernel_rfl, fun G => ?_⟩
     refine Jw2 [(1, p2), (3, vl a58 k59 out_56), (4, vi i_15), (5, vi k_32), (6, .slice a51 (((((p.Funcs.getD i_15.toNat default).Blocks).getD k_32.toNat default).Stmts).length) k52), (7, vi j_57), (8, (G.g 11 0))] [0, 1, 2, 3, 4, 5, 6] [os (G.g 11 0) (([(((((p.Funcs.getD i_15.toNat default).Blocks).getD k_32.toNat default).Stmts).getD j_57.toNat default).Def] ++ (((((p.Funcs.getD i_15.toNat default).Blocks).getD k_32.toNat default).Stmts).getD j_57.toNat default).Uses) : List Str)] ?_
     generalize G.g 11 0 = c86
     refine Jo 7 ?_; rintro a88 k89 rfl
     refine Fb 16 7 fun _ => ?_
     refine FoS 7 fun ho91 => ?_
     refine KS ?_
     refine Oq Va (KS ?_)
     refine Kl (γ := Nat × List Str × Int × Option Addr × Nat) (fun (r92, out_93, n_94, a95, k96) => ⟨[(1, p2), (3, vl a95 k96 out_93), (4, vi i_15), (5, vi k_32), (6, .slice a51 (((((p.Funcs.getD i_15.toNat default).Blocks).getD k_32.toNat default).Stmts).length) k52), (7, vi j_57), (8, .slice a88 (([(((((p.Funcs.getD i_15.toNat default).Blocks).getD k_32.toNat default).Stmts).getD j_57.toNat default).Def] ++ (((((p.Funcs.getD i_15.toNat default).Blocks).getD k_32.toNat default).Stmts).getD j_57.toNat default).Uses).length) k89), (9, vi n_94)], [O a95 k96 out_93, S a51 k52 ((((p.Funcs.getD i_15.toNat default).Blocks).getD k_32.toNat default).Stmts), pv p2 [vl pa0 pk0 p.Funcs], S pa0 pk0 p.Funcs, O a88 k89 (([(((((p.Funcs.getD i_15.toNat default).Blocks).getD k_32.toNat default).Stmts).getD j_57.toNat default).Def] ++ (((((p.Funcs.getD i_15.toNat default).Blocks).getD k_32.toNat default).Stmts).getD j_57.toNat default).Uses) : List Str)], r4_Variables_L3 ([(((((p.Funcs.getD i_15.toNat default).Blocks).getD k_32.toNat default).Stmts).getD j_57.toNat default).Def] ++ (((((p.Funcs.getD i_15.toNat default).Blocks).getD k_32.toNat default).Stmts).getD j_57.toNat default).Uses) r92 out_93 n_94 = r4_Variables_L3 ([(((((p.Funcs.getD i_15.toNat default).Blocks).getD k_32.toNat default).Stmts).getD j_57.toNat default).Def] ++ (((((p.Funcs.getD i_15.toNat default).Blocks).getD k_32.toNat default).Stmts).getD j_57.toNat default).Uses) ((((([(((((p.Funcs.getD i_15.toNat default).Blocks).getD k_32.toNat default).Stmts).getD j_57.toNat default).Def] ++ (((((p.Funcs.getD i_15.toNat default).Blocks).getD k_32.toNat default).Stmts).getD j_57.toNat default).Uses).length : Int) : Int) - 0).toNat) out_56 0 ∧ r92 = (((([(((((p.Funcs.getD i_15.toNat default).Blocks).getD k_32.toNat default).Stmts).getD j_57.toNat default).Def] ++ (((((p.Funcs.getD i_15.toNat default).Blocks).getD k_32.toNat default).Stmts).getD j_57.toNat default).Uses).length : Int) : Int) - n_94).toNat ∧ (0 : Int) ≤ n_94 ∧ (n_94 ≤ (([(((((p.Funcs.getD i_15.toNat default).Blocks).getD k_32.toNat default).Stmts).getD j_57.toNat default).Def] ++ (((((p.Funcs.getD i_15.toNat default).Blocks).getD k_32.toNat default).Stmts).getD j_57.toNat default).Uses).length : Int) ∨ n_94 = 0) ∧ (-9223372036854775808 ≤ n_94 ∧ n_94 ≤ 9223372036854775807) ∧ ((out_93.length : Int) ≤ (out_56.length : Int) + n_94), r92⟩) ((((([(((((p.Funcs.getD i_15.toNat default).Blocks).getD k_32.toNat default).Stmts).getD j_57.toNat default).Def] ++ (((((p.Funcs.getD i_15.toNat default).Blocks).getD k_32.toNat default).Stmts).getD j_57.toNat default).Uses).length : Int) : Int) - 0).toNat, out_56, 0, a58, k59) [3, 3, 4, 5, 6] ⟨rfl, rfl, aM1, (.inr rfl), aM1, iv0⟩ ?_
     rintro ⟨r92, out_93, n_94, a95, k96⟩ ⟨hM97, hr98, hi99, hi100, hk101, hv102⟩
     refine JJ_nx fun _ _ hL hA => ?_; dsimp only at hL hA; subst hL hA
     refine Fb 16 0 fun _ => ?_
     refine FoS 0 fun ho104 => ?_
     refine Fb 72 1 fun _ => Fb 40 3 fun _ => Fb 16 4 fun _ => ?_
     refine FoS 4 fun ho108 => ?_
     refine KS ?_
     refine Oq Vm (Oq Vm (Oq (Vlen sl35) (Oq Vlss (KS ?_))))
     refine Kc ?_ ?_
     ·intro h109
      have g110 := dt h109
      obtain ⟨r111, rfl⟩ := scc (n := r92) aM1
      refine KS ?_
      refine Oq Vm (Oq Vm (Oq Vm (Oq (Vi sl35 4) ?_)))
      have hb112 := okS (i := n_94.toNat) ho108 rng
      refine Oq (VldS sh9 4) ?_
      refine letv (r4_Place out_93 (([(((((p.Funcs.getD i_15.toNat default).Blocks).getD k_32.toNat default).Stmts).getD j_57.toNat default).Def] ++ (((((p.Funcs.getD i_15.toNat default).Blocks).getD k_32.toNat default).Stmts).getD j_57.toNat default).Uses).getD n_94.toNat default)) fun rv113 hg114 => ?_
      refine Oc [0] ca24 (FT_borrow (A := _) (fun _ _ h => by cases h) (FT_ent (Ent.take (is := [0]) rfl) (fn24 out_93 a95 k96 ((([(((((p.Funcs.getD i_15.toNat default).Blocks).getD k_32.toNat default).Stmts).getD j_57.toNat default).Def] ++ (((((p.Funcs.getD i_15.toNat default).Blocks).getD k_32.toNat default).Stmts).getD j_57.toNat default).Uses).getD n_94.toNat default)) pre rv113 hg114))) ?_ (ht := rfl)
      rintro - he115
      unfold i64ok at he115
      refine Oq Vlss (KS ?_)
      refine Kc ?_ ?_
      ·intro h116
       have g117 := dt h116
       refine KS ?_
       refine Oq Vm (Oq Vm (Oq Vm (Oq (Vi sl35 4) ?_)))
       have hb118 := okS (i := n_94.toNat) ho108 rng
       refine Oq (VldS sh9 4) (Oa (AsV sl35 sz35 [.string (bs (([(((((p.Funcs.getD i_15.toNat default).Blocks).getD k_32.toNat default).Stmts).getD j_57.toNat default).Def] ++ (((((p.Funcs.getD i_15.toNat default).Blocks).getD k_32.toNat default).Stmts).getD j_57.toNat default).Uses).getD n_94.toNat default))] [.string (bs (([(((((p.Funcs.getD i_15.toNat default).Blocks).getD k_32.toNat default).Stmts).getD j_57.toNat default).Def] ++ (((((p.Funcs.getD i_15.toNat default).Blocks).getD k_32.toNat default).Stmts).getD j_57.toNat default).Uses).getD n_94.toNat default))]) fun c119 => ?_)
       refine Jo 0 ?_; rintro a120 k121 rfl
       refine Jl [0] (Ent.cr1 (α := Str) (A := []) _ (([(((((p.Funcs.getD i_15.toNat default).Blocks).getD k_32.toNat default).Stmts).getD j_57.toNat default).Def] ++ (((((p.Funcs.getD i_15.toNat default).Blocks).getD k_32.toNat default).Stmts).getD j_57.toNat default).Uses).getD n_94.toNat default) _ aB1 (fun _ => ⟨rfl, aS1⟩)) ?_
       refine Oa (ApO [1, 0] sl35 sl35 sz35) fun c122 => ?_
       refine Jo 0 ?_; rintro a123 k124 rfl
       refine Fb 16 0 fun _ => ?_
       refine FoS 0 fun ho126 => ?_
       have hn127 := la out_93 ([(([(((((p.Funcs.getD i_15.toNat default).Blocks).getD k_32.toNat default).Stmts).getD j_57.toNat default).Def] ++ (((((p.Funcs.getD i_15.toNat default).Blocks).getD k_32.toNat default).Stmts).getD j_57.toNat default).Uses).getD n_94.toNat default)] : List Str)
       refine Oq Va (KS ?_)
       refine Oq Vm (Oq Vadd (Oq Va (KS ?_)))
       exact Kg (r111, (out_93 ++ [(([(((((p.Funcs.getD i_15.toNat default).Blocks).getD k_32.toNat default).Stmts).getD j_57.toNat default).Def] ++ (((((p.Funcs.getD i_15.toNat default).Blocks).getD k_32.toNat default).Stmts).getD j_57.toNat default).Uses).getD n_94.toNat default)]), (n_94 + 1), a123, k124) [0, 0, 1, 2, 3] ⟨(q3 hM97 (by simp only [r4_Variables_L3, h109, h116, hg114, cs4])), aM1, aM1, aM1, aM1, iv1⟩
      intro h116
      have g128 := df h116
      refine KS ?_
      refine Oq Vm (Oq Vadd (Oq Va (KS ?_)))
      exact Kg (r111, out_93, (n_94 + 1), a95, k96) [0, 0, 1, 2, 3] ⟨(q3 hM97 (by simp only [r4_Variables_L3, h109, h116, hg114, cs4])), aM1, aM1, aM1, aM1, iv1⟩
     intro h109
     have g129 := df h109
     obtain rfl : r92 = 0 := by omega
     refine Ke ?_
     have hR130 := q2 hM97 out_93 (by simp only [r4_Variables_L3, h109, cs4])
     refine KS ?_
     refine Oq Vm (Oq Vadd (Oq Va (KS ?_)))
     exact Kg (r72, out_93, (j_57 + 1), a95, k96) [0, 0, 1, 2] ⟨(q3 hM60 (by simp only [r4_Variables_L2, h70, h83, h109, hR130, cs4])), aM1, aM1, aM1, aM1, iv1⟩
    intro h83
    have g131 := eq_of_bne_false h83
    refine KS ?_
    refine Oq Va (KS ?_)
    refine Kl (γ := Nat × List Str × Int × Option Addr × Nat) (fun (r132, out_133, n_134, a135, k136) => ⟨[(1, p2), (3, vl a135 k136 out_133), (4, vi i_15), (5, vi k_32), (6, .slice a51 (((((p.Funcs.getD i_15.toNat default).Blocks).getD k_32.toNat default).Stmts).length) k52), (7, vi j_57), (8, .slice a73 (((((((p.Funcs.getD i_15.toNat default).Blocks).getD k_32.toNat default).Stmts).getD j_57.toNat default).Uses).length) k74), (9, vi n_134)], [O a135 k136 out_133, S a73 k74 ((((((p.Funcs.getD i_15.toNat default).Blocks).getD k_32.toNat default).Stmts).getD j_57.toNat default).Uses), S a51 k52 ((((p.Funcs.getD i_15.toNat default).Blocks).getD k_32.toNat default).Stmts), pv p2 [vl pa0 pk0 p.Funcs], S pa0 pk0 p.Funcs], r4_Variables_L3 ((((((p.Funcs.getD i_15.toNat default).Blocks).getD k_32.toNat default).Stmts).getD j_57.toNat default).Uses) r132 out_133 n_134 = r4_Variables_L3 ((((((p.Funcs.getD i_15.toNat default).Blocks).getD k_32.toNat default).Stmts).getD j_57.toNat default).Uses) ((((((((((p.Funcs.getD i_15.toNat default).Blocks).getD k_32.toNat default).Stmts).getD j_57.toNat default).Uses).length : Int) : Int) - 0).toNat) out_56 0 ∧ r132 = (((((((((p.Funcs.getD i_15.toNat default).Blocks).getD k_32.toNat default).Stmts).getD j_57.toNat default).Uses).length : Int) : Int) - n_134).toNat ∧ (0 : Int) ≤ n_134 ∧ (n_134 ≤ (((((((p.Funcs.getD i_15.toNat default).Blocks).getD k_32.toNat default).Stmts).getD j_57.toNat default).Uses).length : Int) ∨ n_134 = 0) ∧ (-9223372036854775808 ≤ n_134 ∧ n_134 ≤ 9223372036854775807) ∧ ((out_133.length : Int) ≤ (out_56.length : Int) + n_134), r132⟩) ((((((((((p.Funcs.getD i_15.toNat default).Blocks).getD k_32.toNat default).Stmts).getD j_57.toNat default).Uses).length : Int) : Int) - 0).toNat, out_56, 0, a58, k59) [3, 1, 3, 4, 5] ⟨rfl, rfl, aM1, (.inr rfl), aM1, iv0⟩ ?_
    rintro ⟨r132, out_133, n_134, a135, k136⟩ ⟨hM137, hr138, hi139, hi140, hk141, hv142⟩
    refine JJ_nx fun _ _ hL hA => ?_; dsimp only at hL hA; subst hL hA
    refine Fb 16 0 fun _ => ?_
    refine FoS 0 fun ho144 => ?_
    refine Fb 16 1 fun _ => ?_
    refine FoS 1 fun ho146 => ?_
    refine Fb 72 2 fun _ => Fb 40 4 fun _ => KS ?_
    refine Oq Vm (Oq Vm (Oq (Vlen sl35) (Oq Vlss (KS ?_))))
    refine Kc ?_ ?_
    ·intro h149
     have g150 := dt h149
     obtain ⟨r151, rfl⟩ := scc (n := r132) aM1
     refine KS ?_
     refine Oq Vm (Oq Vm (Oq Vm (Oq (Vi sl35 1) ?_)))
     have hb152 := okS (i := n_134.toNat) ho146 rng
     refine Oq (VldS sh9 1) ?_
     refine letv (r4_Place out_133 (((((((p.Funcs.getD i_15.toNat default).Blocks).getD k_32.toNat default).Stmts).getD j_57.toNat default).Uses).getD n_134.toNat default)) fun rv153 hg154 => ?_
     refine Oc [0] ca24 (FT_borrow (A := _) (fun _ _ h => by cases h) (FT_ent (Ent.take (is := [0]) rfl) (fn24 out_133 a135 k136 ((((((((p.Funcs.getD i_15.toNat default).Blocks).getD k_32.toNat default).Stmts).getD j_57.toNat default).Uses).getD n_134.toNat default)) pre rv153 hg154))) ?_ (ht := rfl)
     rintro - he155
     unfold i64ok at he155
     refine Oq Vlss (KS ?_)
     refine Kc ?_ ?_
     ·intro h156
      have g157 := dt h156
      refine KS ?_
      refine Oq Vm (Oq Vm (Oq Vm (Oq (Vi sl35 1) ?_)))
      have hb158 := okS (i := n_134.toNat) ho146 rng
      refine Oq (VldS sh9 1) (Oa (AsV sl35 sz35 [.string (bs (((((((p.Funcs.getD i_15.toNat default).Blocks).getD k_32.toNat default).Stmts).getD j_57.toNat default).Uses).getD n_134.toNat default))] [.string (bs (((((((p.Funcs.getD i_15.toNat default).Blocks).getD k_32.toNat default).Stmts).getD j_57.toNat default).Uses).getD n_134.toNat default))]) fun c159 => ?_)
      refine Jo 0 ?_; rintro a160 k161 rfl
      refine Jl [0] (Ent.cr1 (α := Str) (A := []) _ (((((((p.Funcs.getD i_15.toNat default).Blocks).getD k_32.toNat default).Stmts).getD j_57.toNat default).Uses).getD n_134.toNat default) _ aB1 (fun _ => ⟨rfl, aS1⟩)) ?_
      refine Oa (ApO [1, 0] sl35 sl35 sz35) fun c162 => ?_
      refine Jo 0 ?_; rintro a163 k164 rfl
      refine Fb 16 0 fun _ => ?_
      refine FoS 0 fun ho166 => ?_
      have hn167 := la out_133 ([(((((((p.Funcs.getD i_15.toNat default).Blocks).getD k_32.toNat default).Stmts).getD j_57.toNat default).Uses).getD n_134.toNat default)] : List Str)
      refine Oq Va (KS ?_)
      refine Oq Vm (Oq Vadd (Oq Va (KS ?_)))
      exact Kg (r151, (out_133 ++ [(((((((p.Funcs.getD i_15.toNat default).Blocks).getD k_32.toNat default).Stmts).getD j_57.toNat default).Uses).getD n_134.toNat default)]), (n_134 + 1), a163, k164) [0, 0, 1, 2, 3] ⟨(q3 hM137 (by simp only [r4_Variables_L3, h149, h156, hg154, cs4])), aM1, aM1, aM1, aM1, iv1⟩
     intro h156
     have g168 := df h156
     refine KS ?_
     refine Oq Vm (Oq Vadd (Oq Va (KS ?_)))
     exact Kg (r151, out_133, (n_134 + 1), a135, k136) [0, 0, 1, 2, 3] ⟨(q3 hM137 (by simp only [r4_Variables_L3, h149, h156, hg154, cs4])), aM1, aM1, aM1, aM1, iv1⟩
    intro h149
    have g169 := df h149
    obtain rfl : r132 = 0 := by omega
    refine Ke ?_
    have hR170 := q2 hM137 out_133 (by simp only [r4_Variables_L3, h149, cs4])
    refine KS ?_
    refine Oq Vm (Oq Vadd (Oq Va (KS ?_)))
    exact Kg (r72, out_133, (j_57 + 1), a135, k136) [0, 1, 2, 3] ⟨(q3 hM60 (by simp only [r4_Variables_L2, h70, h83, h149, hR170, cs4])), aM1, aM1, aM1, aM1, iv1⟩
   intro h70
   have g171 := df h70
   obtain rfl : r55 = 0 := by omega
   refine Ke ?_
   have hR172 := q2 hM60 out_56 (by simp only [r4_Variables_L2, h70, cs4])
   refine KS ?_
   refine Oq Vm (Oq Vadd (Oq Va (KS ?_)))
   exact Kg (r50, out_56, (k_32 + 1), a58, k59) [0, 1, 2] ⟨(q3 hM35 (by simp only [r4_Variables_L1, h48, h70, hR172, cs4])), aM1, aM1, aM1, aM1, iv1⟩
  intro h48
  have g173 := df h48
  obtain rfl : r30 = 0 := by omega
  refine Ke ?_
  have hR174 := q2 hM35 out_31 (by simp only [r4_Variables_L1, h48, cs4])
  refine KS ?_
  refine Oq Vm (Oq Vadd (Oq Va (KS ?_)))
  exact Kg (r29, out_31, (i_15 + 1), a33, k34) [2, 2, 3] ⟨(q3 hM18 (by simp only [r4_Variables_L0, h27, h48, hR174, cs4])), aM1, aM1, aM1, aM1, iv1⟩
 intro h27
 have g175 := df h27
 obtain rfl : r13 = 0 := by omega
 refine Ke ?_
 have hR176 := q2 hM18 out_14 (by simp only [r4_Variables_L0, h27, cs4])
 refine KS ?_
 refine Oq Vm (Oq Va (KS ?_))
 refine Jl [0] (Ent.freeze _ _) ?_
 have hq := q4 hrr out_14 (by simp only [r4_Variables, h6, h11, h27, hg4, hR176, cs4]); subst hq
 exact Kr (vl a16 k17 out_14) rfl (.tmp rfl .nil) [0] trivial
theorem fn82 (text : Str) (htext_0 : text.b.length ≤ 140737488355328) (rr : List GToken × Int × Int × Int) (hrr : r4_Scan text = .ret rr) : FT Tryz.prog 82 #[.string (bs text)] [] (fun g : Value => i64ok rr.2.1 ∧ i64ok rr.2.2.1 ∧ i64ok rr.2.2.2) (fun g => .tuple #[g, vi rr.2.1, vi rr.2.2.1, vi rr.2.2.2]) (fun g => [sl g rr.1]) := by
 refine FTi Tryz.func82 fun w0 M0 F0 => ?_
 have hx0 := lrn rr; have H := hrr; unfold r4_Scan at H
 refine KS ?_
 refine Oq Va (Oq Va (Oq Va (Oq Va (KS ?_))))
 refine Oq Vm (Oq (VlS un9 (l := text)) (Oq Vgtr (KS ?_)))
 refine pF H hx0 fun h1 H => ?_
 refine KcF h1 ?_
 have g2 := df h1
 refine KS ?_
 refine Oq Va (KS ?_)
 refine Oq Va (Oq Va (Oq Va (KS ?_)))
 refine Oq Va (KS ?_)
 refine Jl [] (Ent.osNil (α := GToken)) ?_
 refine llH H hx0 fun X13 hX14 hx15 HL16 => ?_
 refine Kl (γ := Nat × List GToken × Int × Bool × Int × Option Addr × Nat) (fun (r3, out_4, col_5, open__6, i_7, a8, k9) => ⟨[(0, .string (bs text)), (6, vl a8 k9 out_4), (7, vi 1), (8, vi col_5), (9, vb open__6), (10, vi i_7)], [O a8 k9 out_4], r4_Scan_L0 text r3 out_4 col_5 open__6 i_7 = X13 ∧ (-9223372036854775808 ≤ col_5 ∧ col_5 ≤ 9223372036854775807) ∧ (-9223372036854775808 ≤ i_7 ∧ i_7 ≤ 9223372036854775807), r3⟩) (100000, [], 1, false, 0, none, 0) [0] ⟨hX14, aM1, aM1⟩ ?_
 rintro ⟨r3, out_4, col_5, open__6, i_7, a8, k9⟩ ⟨hM10, hk11, hk12⟩
 refine JJ_nx fun _ _ hL hA => ?_; dsimp only at hL hA; subst hL hA
 refine Fb 40 0 fun _ => ?_
 rcases r3 with _ | r3
 ·exact absurd (hM10.symm.trans rfl) hx15
 have H := hM10; (try dsimp only at H); rw [r4_Scan_L0] at H
 refine KS ?_
 refine Oq Vm (Oq Vm (Oq (VlS un9 (l := text)) (Oq Vlss (KS ?_))))
 refine KcH H ?_ ?_
 ·intro h18 H
  have g19 := dt h18
  refine KS ?_
  refine Oq Vm (Oq Vm ?_)
  refine pC H hx15 fun hc20 H => ?_
  refine Oq (Vix un9 (l := text)) ?_
  have hb21 := u8b (text.b.getD i_7.toNat 0)
  refine Oq Va (KS ?_)
  refine Oq Vm (Oq Veql (Oq Vm ?_))
  refine JsH 28 H ?_ ?_
  ·intro h22 H
   have g23 := eq_of_beq h22
   refine Osk (Osk (Oq Vpt (Oq Va (KS ?_))))
   refine Kt (KS ?_)
   refine Oq Vm ?_
   refine pC H hx15 fun hc24 H => ?_
   refine Oq Vadd (Oq Vm ?_)
   refine pC H hx15 fun hc25 H => ?_
   refine Oq Vadd (Oq Va (Oq Va (KS ?_)))
   exact Kg (r3, out_4, (col_5 + 1), open__6, (i_7 + 1), a8, k9) [0] ⟨H, aM1, aM1⟩
  intro h22 H
  have g26 := ne_of_beq_false h22
  refine Oq Vm (Oq Veql (Oq Vpf (Oq Va (KS ?_))))
  refine pF H hx15 fun h27 H => ?_
  refine KcF h27 ?_
  have g28 := ne_of_beq_false h27
  refine KS ?_
  refine Oq Vm (Oq Veql (Oq Vm ?_))
  refine pF H hx15 fun h29 H => ?_
  refine JsF 39 h29 ?_
  have g30 := ne_of_beq_false h29
  refine Oq Vm (Oq Veql (Oq Vpf (Oq Vm ?_)))
  refine JsH 43 H ?_ ?_
  ·intro h31 H
   have g32 := eq_of_beq h31
   refine Osk (Osk (Oq Vpt (Oq Va (KS ?_))))
   refine Kt (KS ?_)
   refine Oq Vm (KS ?_)
   refine pT H hx15 fun h33 H => ?_
   refine KcT h33 ?_
   refine KS ?_
   refine Oq Vm (Oq Vm (Oq Vm (Oq (Vbd st123 [vi 3, .string (bs (Str.mk [])), vi 1, vi col_5]) (Oa (AsV sl114 sz114 [.agg #[vi 3, .string (bs (Str.mk [])), vi 1, vi col_5]] [vi 3, .string (bs (Str.mk [])), vi 1, vi col_5]) fun c35 => ?_))))
   refine Jo 0 ?_; rintro a36 k37 rfl
   refine Jl [0] (Ent.cr1 (α := GToken) (A := []) _ (GToken.mk 3 (Str.mk []) 1 col_5) _ aB1 (fun h => ⟨rfl, aL1, aS1, aL1, aL1⟩)) ?_
   refine pC H hx15 fun hc38 H => ?_
   refine Oa (ApO [1, 0] sl114 sl114 sz114) fun c39 => ?_
   refine Jo 0 ?_; rintro a40 k41 rfl
   refine Fb 40 0 fun _ => ?_
   have hn43 := la out_4 ([(GToken.mk 3 (Str.mk []) 1 col_5)] : List GToken)
   refine Oq Va (KS ?_)
   refine Oq Va (KS ?_)
   refine llH H hx15 fun X46 hX47 hx48 HL49 => ?_
   refine Kl (γ := Nat) (fun r44 => ⟨[(0, .string (bs text)), (7, vi 1), (8, vi col_5), (10, vi i_7), (11, .int .u8 ((text.b.getD i_7.toNat 0).toNat : Int)), (6, vl a40 k41 (out_4 ++ [(GToken.mk 3 (Str.mk []) 1 col_5)])), (9, vb false)], [O a40 k41 ((out_4 ++ [(GToken.mk 3 (Str.mk []) 1 col_5)]) : List GToken)], r4_Scan_L1 ((text.b.getD i_7.toNat 0).toNat : Int) r44 = X46, r44⟩) 1 [0] hX47 ?_
   rintro r44 hM45
   refine JJ_nx fun _ _ hL hA => ?_; dsimp only at hL hA; subst hL hA
   refine Fb 40 0 fun _ => ?_
   rcases r44 with _ | r44
   ·exact absurd (hM45.symm.trans rfl) hx48
   have H := hM45; (try dsimp only at H); rw [r4_Scan_L1] at H
   refine KS ?_
   refine Oq Vm (Oq Veql (Oq Vm ?_))
   refine pF H hx48 fun h51 H => ?_
   refine JsF 56 h51 ?_
   have g52 := ne_of_beq_false h51
   refine Osk (Osk (Osk (Osk (Oq Vpf (Oq Vm (Osk (Osk (Osk (Osk ?_)))))))))
   refine Oq Vpf (KS ?_)
   refine Kf ?_
   refine Ke ?_
   have H := llB H HL49
   refine KS ?_
   refine Oq Vm (Oq Veql (KS ?_))
   refine Kc ?_ ?_
   ·intro h53
    have g54 := eq_of_beq h53
    refine KS ?_
    refine Oq Vm ?_
    refine pC H hx15 fun hc55 H => ?_
    refine Oq Vadd (Oq Vm ?_)
    refine pC H hx15 fun hc56 H => ?_
    refine Oq Vadd (Oq Va (Oq Va (KS ?_)))
    refine Oq Vm (Oq Vm (Oq (VlS un9 (l := text)) (Oq Vlss (Oq Vm ?_))))
    refine pT H hx15 fun h57 H => ?_
    refine JsT 82 h57 ?_
    have g58 := dt h57
    refine Oq Vm (Oq Vm ?_)
    refine pC H hx15 fun hc59 H => ?_
    refine Oq (Vix un9 (l := text)) ?_
    have hb60 := u8b (text.b.getD ((i_7 + 1) : Int).toNat 0)
    refine Oq Veql (Oq Vpt (Oq Vm ?_))
    refine pF H hx15 fun h61 H => ?_
    refine JsF 88 h61 ?_
    have g62 := ne_of_beq_false h61
    refine Osk (Osk (Oq Vpf (KS ?_)))
    refine Kf (KS ?_)
    exact Kg (r3, (out_4 ++ [(GToken.mk 3 (Str.mk []) 1 col_5)]), (col_5 + 1), false, (i_7 + 1), a40, k41) [0] ⟨H, aM1, aM1⟩
   intro h53
   exact absurd h53 (by first | (simp [h31]; done) | (simp only [bne, h31]; decide) | (simp only [bne, h31, Bool.not_true, Bool.not_false]; decide) | (exfalso; omega) | (intro hq; simp only [bne, hq, Bool.not_false, Bool.not_true, reduceCtorEq] at h31))
  intro h31 H
  have g63 := ne_of_beq_false h31
  refine Oq Vm (Oq Veql (Oq Vpf (Oq Va (KS ?_))))
  refine pF H hx15 fun h64 H => ?_
  refine KcF h64 ?_
  have g65 := ne_of_beq_false h64
  refine KS ?_
  refine Oq Vm (Oq Veql (Oq Va (KS ?_)))
  refine KcH H ?_ ?_
  ·intro h66 H
   have g67 := eq_of_beq h66
   refine KS ?_
   refine Oq Vm (Oq Vm (Oq Vm (Oq (Vbd st123 [vi 2, .string (bs (Str.mk [61])), vi 1, vi col_5]) (Oa (AsV sl114 sz114 [.agg #[vi 2, .string (bs (Str.mk [61])), vi 1, vi col_5]] [vi 2, .string (bs (Str.mk [61])), vi 1, vi col_5]) fun c68 => ?_))))
   refine Jo 0 ?_; rintro a69 k70 rfl
   refine Jl [0] (Ent.cr1 (α := GToken) (A := []) _ (GToken.mk 2 (Str.mk [61]) 1 col_5) _ aB1 (fun h => ⟨rfl, aL1, aS1, aL1, aL1⟩)) ?_
   refine pC H hx15 fun hc71 H => ?_
   refine Oa (ApO [1, 0] sl114 sl114 sz114) fun c72 => ?_
   refine Jo 0 ?_; rintro a73 k74 rfl
   refine Fb 40 0 fun _ => ?_
   have hn76 := la out_4 ([(GToken.mk 2 (Str.mk [61]) 1 col_5)] : List GToken)
   refine Oq Va (KS ?_)
   refine Oq Vm ?_
   refine pC H hx15 fun hc77 H => ?_
   refine Oq Vadd (Oq Vm ?_)
   refine pC H hx15 fun hc78 H => ?_
   refine Oq Vadd (Oq Va (Oq Va (Oq Va (KS ?_))))
   exact Kg (r3, (out_4 ++ [(GToken.mk 2 (Str.mk [61]) 1 col_5)]), (col_5 + 1), true, (i_7 + 1), a73, k74) [0] ⟨H, aM1, aM1⟩
  intro h66 H
  have g79 := ne_of_beq_false h66
  refine KS ?_
  refine Oq Vm ?_
  refine lvH H fun rv80 hg81 H => ?_
  have hc82 := fn78 (((text.b.getD i_7.toNat 0).toNat : Int)) pre rv80 hg81
  refine Oc [] ca78 hc82 ?_
  rintro - -
  refine Oq Vm ?_
  refine pT H hx15 fun h83 H => ?_
  refine JsT 112 h83 ?_
  refine Osk (Osk (Oq Vpt (Oq Va (KS ?_))))
  refine Kt (KS ?_)
  refine Oq Va (KS ?_)
  refine llH H hx15 fun X89 hX90 hx91 HL92 => ?_
  refine Kl (γ := Nat × Int) (fun (r85, n_86) => ⟨[(0, .string (bs text)), (6, vl a8 k9 out_4), (7, vi 1), (8, vi col_5), (10, vi i_7), (11, .int .u8 ((text.b.getD i_7.toNat 0).toNat : Int)), (12, vi n_86)], [O a8 k9 out_4], r4_Scan_L2 text i_7 r85 n_86 = X89 ∧ (-9223372036854775808 ≤ n_86 ∧ n_86 ≤ 9223372036854775807), r85⟩) (100000, 0) [0] ⟨hX90, aM1⟩ ?_
  rintro ⟨r85, n_86⟩ ⟨hM87, hk88⟩
  refine JJ_nx fun _ _ hL hA => ?_; dsimp only at hL hA; subst hL hA
  refine Fb 40 0 fun _ => ?_
  rcases r85 with _ | r85
  ·exact absurd (hM87.symm.trans rfl) hx91
  have H := hM87; (try dsimp only at H); rw [r4_Scan_L2] at H
  refine KS ?_
  refine Oq Vm (Oq Vm ?_)
  refine pC H hx91 fun hc94 H => ?_
  refine Oq Vadd (Oq Vm (Oq (VlS un9 (l := text)) (Oq Vlss (Oq Vm ?_))))
  refine JsH 122 H ?_ ?_
  ·intro h95 H
   have g96 := dt h95
   refine Oq Vm (Oq Vm (Oq Vm (Oq Vadd ?_)))
   refine pC H hx91 fun hc97 H => ?_
   refine pC H hx91 fun hc98 H => ?_
   refine Oq (Vix un9 (l := text)) ?_
   have hb99 := u8b (text.b.getD ((i_7 + n_86) : Int).toNat 0)
   refine lvH H fun rv100 hg101 H => ?_
   have hc102 := fn78 (((text.b.getD ((i_7 + n_86) : Int).toNat 0).toNat : Int)) pre rv100 hg101
   refine Oc [] ca78 hc102 ?_
   rintro - -
   refine Oq Vm ?_
   refine JsH 129 H ?_ ?_
   ·intro h103 H
    refine Osk (Osk (Osk (Osk (Osk (Osk (Oq Vpt (Oq Vpt (KS ?_))))))))
    refine Kt (KS ?_)
    refine Oq Vm ?_
    refine pC H hx91 fun hc105 H => ?_
    refine Oq Vadd (Oq Va (KS ?_))
    exact Kg (r85, (n_86 + 1)) [0] ⟨H, aM1⟩
   intro h103 H
   refine Oq Vm (Oq Vm (Oq Vm (Oq Vadd (Oq (Vix un9 (l := text)) ?_))))
   have hb107 := u8b (text.b.getD ((i_7 + n_86) : Int).toNat 0)
   refine pC H hx91 fun hc110 H => ?_
   refine pC H hx91 fun hc111 H => ?_
   refine lvH H fun rv108 hg109 H => ?_
   have hc112 := fn79 (((text.b.getD ((i_7 + n_86) : Int).toNat 0).toNat : Int)) pre rv108 hg109
   refine Oc [] ca79 hc112 ?_
   rintro - -
   refine Oq Vpf (Oq Vpt (KS ?_))
   refine pF H hx91 fun h113 H => ?_
   refine KcF h113 ?_
   refine Ke ?_
   have H := llB H HL92
   refine KS ?_
   refine Oq Vm ?_
   refine lvH H fun rv115 hg116 H => ?_
   have hc117 := fn79 (((text.b.getD i_7.toNat 0).toNat : Int)) pre rv115 hg116
   refine Oc [] ca79 hc117 ?_
   rintro - -
   refine KS ?_
   refine pF H hx15 fun h118 H => ?_
   refine KcF h118 ?_
   refine KS ?_
   refine Oq Vm (Oq Vgtr (KS ?_))
   refine pF H hx15 fun h120 H => ?_
   refine KcF h120 ?_
   have g121 := df h120
   refine KS ?_
   refine Oq Vm (Oq Vm (Oq Vm (Oq Vm (Oq Vm (Oq Vadd ?_)))))
   refine pC H hx15 fun hc122 H => ?_
   refine pC H hx15 fun hc123 H => ?_
   refine Oq (VslS un9 (l := text)) ?_
   have hb124 := sub_len3 text i_7.toNat ((i_7 + n_86) : Int).toNat
   refine Oq Vm (Oq Vm (Oq (Vbd st123 [vi 1, .string (bs (text.sub i_7.toNat ((i_7 + n_86) : Int).toNat)), vi 1, vi col_5]) (Oa (AsV sl114 sz114 [.agg #[vi 1, .string (bs (text.sub i_7.toNat ((i_7 + n_86) : Int).toNat)), vi 1, vi col_5]] [vi 1, .string (bs (text.sub i_7.toNat ((i_7 + n_86) : Int).toNat)), vi 1, vi col_5]) fun c125 => ?_)))
   refine Jo 0 ?_; rintro a126 k127 rfl
   refine Jl [0] (Ent.cr1 (α := GToken) (A := []) _ (GToken.mk 1 (text.sub i_7.toNat ((i_7 + n_86) : Int).toNat) 1 col_5) _ aB1 (fun h => ⟨rfl, aL1, aS1, aL1, aL1⟩)) ?_
   refine pC H hx15 fun hc128 H => ?_
   refine Oa (ApO [1, 0] sl114 sl114 sz114) fun c129 => ?_
   refine Jo 0 ?_; rintro a130 k131 rfl
   refine Fb 40 0 fun _ => ?_
   have hn133 := la out_4 ([(GToken.mk 1 (text.sub i_7.toNat ((i_7 + n_86) : Int).toNat) 1 col_5)] : List GToken)
   refine Oq Va (KS ?_)
   refine Oq Vm (Oq Vm (Oq Vadd (Oq Vm (Oq Vm ?_))))
   refine pC H hx15 fun hc134 H => ?_
   refine pC H hx15 fun hc135 H => ?_
   refine Oq Vadd (Oq Va (Oq Va (Oq Va (KS ?_))))
   exact Kg (r3, (out_4 ++ [(GToken.mk 1 (text.sub i_7.toNat ((i_7 + n_86) : Int).toNat) 1 col_5)]), (col_5 + n_86), true, (i_7 + n_86), a130, k131) [0] ⟨H, aM1, aM1⟩
  intro h95 H
  have g136 := df h95
  refine Osk (Osk (Osk (Osk (Osk (Osk (Osk (Osk (Osk (Osk ?_)))))))))
  refine Osk (Osk (Osk (Osk (Oq Vpf (KS ?_)))))
  refine Kf ?_
  refine Ke ?_
  have H := llB H HL92
  refine KS ?_
  refine Oq Vm ?_
  refine lvH H fun rv137 hg138 H => ?_
  have hc139 := fn79 (((text.b.getD i_7.toNat 0).toNat : Int)) pre rv137 hg138
  refine Oc [] ca79 hc139 ?_
  rintro - -
  refine KS ?_
  refine pF H hx15 fun h140 H => ?_
  refine KcF h140 ?_
  refine KS ?_
  refine Oq Vm (Oq Vgtr (KS ?_))
  refine pF H hx15 fun h142 H => ?_
  refine KcF h142 ?_
  have g143 := df h142
  refine KS ?_
  refine Oq Vm (Oq Vm (Oq Vm (Oq Vm (Oq Vm (Oq Vadd ?_)))))
  refine pC H hx15 fun hc144 H => ?_
  refine pC H hx15 fun hc145 H => ?_
  refine Oq (VslS un9 (l := text)) ?_
  have hb146 := sub_len3 text i_7.toNat ((i_7 + n_86) : Int).toNat
  refine Oq Vm (Oq Vm (Oq (Vbd st123 [vi 1, .string (bs (text.sub i_7.toNat ((i_7 + n_86) : Int).toNat)), vi 1, vi col_5]) (Oa (AsV sl114 sz114 [.agg #[vi 1, .string (bs (text.sub i_7.toNat ((i_7 + n_86) : Int).toNat)), vi 1, vi col_5]] [vi 1, .string (bs (text.sub i_7.toNat ((i_7 + n_86) : Int).toNat)), vi 1, vi col_5]) fun c147 => ?_)))
  refine Jo 0 ?_; rintro a148 k149 rfl
  refine Jl [0] (Ent.cr1 (α := GToken) (A := []) _ (GToken.mk 1 (text.sub i_7.toNat ((i_7 + n_86) : Int).toNat) 1 col_5) _ aB1 (fun h => ⟨rfl, aL1, aS1, aL1, aL1⟩)) ?_
  refine pC H hx15 fun hc150 H => ?_
  refine Oa (ApO [1, 0] sl114 sl114 sz114) fun c151 => ?_
  refine Jo 0 ?_; rintro a152 k153 rfl
  refine Fb 40 0 fun _ => ?_
  have hn155 := la out_4 ([(GToken.mk 1 (text.sub i_7.toNat ((i_7 + n_86) : Int).toNat) 1 col_5)] : List GToken)
  refine Oq Va (KS ?_)
  refine Oq Vm (Oq Vm (Oq Vadd (Oq Vm (Oq Vm ?_))))
  refine pC H hx15 fun hc156 H => ?_
  refine pC H hx15 fun hc157 H => ?_
  refine Oq Vadd (Oq Va (Oq Va (Oq Va (KS ?_))))
  exact Kg (r3, (out_4 ++ [(GToken.mk 1 (text.sub i_7.toNat ((i_7 + n_86) : Int).toNat) 1 col_5)]), (col_5 + n_86), true, (i_7 + n_86), a152, k153) [0] ⟨H, aM1, aM1⟩
 intro h18 H
 have g158 := df h18
 refine Ke ?_
 have H := llB H HL16
 dsimp only at H
 refine KS ?_
 refine Oq Vm (KS ?_)
 refine pT H hx0 fun h159 H => ?_
 refine KcT h159 ?_
 refine KS ?_
 refine Oq Vm (Oq Vm (Oq Vm (Oq (Vbd st123 [vi 3, .string (bs (Str.mk [])), vi 1, vi col_5]) (Oa (AsV sl114 sz114 [.agg #[vi 3, .string (bs (Str.mk [])), vi 1, vi col_5]] [vi 3, .string (bs (Str.mk [])), vi 1, vi col_5]) fun c161 => ?_))))
 refine Jo 0 ?_; rintro a162 k163 rfl
 refine Jl [0] (Ent.cr1 (α := GToken) (A := []) _ (GToken.mk 3 (Str.mk []) 1 col_5) _ aB1 (fun h => ⟨rfl, aL1, aS1, aL1, aL1⟩)) ?_
 refine pC H hx0 fun hc164 H => ?_
 refine Oa (ApO [1, 0] sl114 sl114 sz114) fun c165 => ?_
 refine Jo 0 ?_; rintro a166 k167 rfl
 refine Fb 40 0 fun _ => ?_
 have hn169 := la out_4 ([(GToken.mk 3 (Str.mk []) 1 col_5)] : List GToken)
 refine Oq Va (KS ?_)
 refine Oq Vm (Oq Va (Oq Va (Oq Va (Oq Va (KS ?_)))))
 refine Jl [0] (Ent.freeze _ _) ?_
 have hq := rI H; subst hq
 exact Kr (vl a166 k167 (out_4 ++ [(GToken.mk 3 (Str.mk []) 1 col_5)])) rfl (.tmp rfl (.tmp rfl (.tmp rfl (.tmp rfl .nil)))) [0] en
theorem fn83 (pP : Value) (p : Gparser) (pa0 : Option Addr) (pk0 : Nat) (word : Str) (hp_1 : i64ok p.at_) (hp_2 : i64ok p.Err) (hword_0 : word.b.length ≤ 140737488355328) (rr : Bool) (hrr : pz_is p word = .ret rr) : FT Tryz.prog 83 #[pP, .string (bs word)] [Cl pP [vl pa0 pk0 p.l, vi p.at_, vi p.Err], S pa0 pk0 p.l] (fun g : Unit => True) (fun g => vb rr) (fun g => [Cl pP [vl pa0 pk0 p.l, vi p.at_, vi p.Err]]) := by
 refine FTi Tryz.func83 fun w0 M0 F0 => ?_
 unfold i64ok at hp_1 hp_2
 refine Fb 40 1 fun _ => ?_
 have hx0 := lrn rr; have H := hrr; unfold pz_is at H
 refine KS ?_
 refine Oq Va (KS ?_)
 refine Jp 0 fun hp2 => ?_
 refine pT H hx0 fun h3 H => ?_
 have g4 := eq_of_beq h3
 refine pS H ?_ ?_
 ·intro h5 H
  have g6 := dt h5
  refine pC H hx0 fun hc7 H => ?_
  refine JJ_peek_GToken p.at_.toNat 2 rfl rng fun hb8 hb9 hb10 hb11 => ?_
  unfold i64ok at hb8 hb10 hb11
  refine Kq [0, 1, 3, 7, 15, 31, 63, 127, 255, 511, 63, 1087, 3135, 7231, 15423, 32767, 65535, 131071, 262143, 524287, 1048575, 2097151, 262143, 4456447, 12845055, 29622271, 67108863, 134217727, 268435455, 536870911, 1073741823, 2147483647, 4294967295, 8589934591, 17179869183, 34359738367, 4294967295, 73014444031, 210453397503, 485331304447, 1099511627775, 2199023255551, 4398046511103, 4294967295, 17592186044415, 35184372088831, 70368744177663] fmix ?_
  refine Qv [] Vm (Qv [1] (Vn 0) (Qv [1] (Vfa fo119_2 0) (Qv [2] (VldF sh39 0) (Qb h3 [] Veql (Qv [] Vm (Qv [] Vm (Qv [1] (Vn 0) (Qv [1] (Vfa fo119_1 0) (Qv [2] (VldF sh3 0) ?_)))))))))
  refine Qv [] Vm (Qv [1] (Vn 0) (Qv [1] (Vfa fo119_0 0) (Qv [2] (VldF sh114 0) (Qv [] (Vlen sl114) (Qb h5 [] Vlss (Qv [] Vpt (Qv [] Vm (Qv [] Vm (Qv [1] (Vn 0) ?_)))))))))
  refine Qv [1] (Vfa fo119_0 0) (Qv [2] (VldF sh114 0) (Qv [] Vm (Qv [1] (Vn 0) (Qv [1] (Vfa fo119_1 0) (Qv [2] (VldF sh3 0) (Qv [3] (Vi sl114 0) (Qv [0] (Vfa fo123_0 0) (Qv [0] (VldF sh3 0) (Qv [] Veql ?_)))))))))
  refine Qv [] Vpt ?_
  refine pC H hx0 fun hc13 H => ?_
  refine pT H hx0 fun h12 H => ?_
  have g14 := eq_of_beq h12
  refine Qb h12 [] Vm (Qv [] Vm (Qv [1] (Vn 0) (Qv [1] (Vfa fo119_0 0) (Qv [2] (VldF sh114 0) (Qv [] Vm (Qv [1] (Vn 0) (Qv [1] (Vfa fo119_1 0) (Qv [2] (VldF sh3 0) (Qv [3] (Vi sl114 0) ?_)))))))))
  refine Qv [0] (Vfa fo123_1 0) (Qv [0] (VldF sh9 0) (Qv [] Vm (Qv [] (VeqS (l := (p.l.getD p.at_.toNat default).Text) (m := word)) (Qv [] Vpt (Qv [] Va ?_)))))
  refine Qn ⟨by kernel_rfl, ?_⟩
  refine pC H hx0 fun hc15 H => ?_
  have hq := rI H; subst hq
  exact Kr () rfl (.tmp rfl .nil) [2] trivial
 intro h5 H
 have g16 := df h5
 refine Kq [0, 1, 3, 7, 15, 31, 63, 127, 255, 511, 63, 1087, 3135, 7231, 15423, 32767, 65535, 131071, 262143, 524287, 1048575, 2097151, 262143, 4456447, 12845055, 29622271, 67108863, 134217727, 268435455, 536870911, 1073741823, 2147483647, 4294967295, 8589934591, 17179869183, 34359738367, 4294967295, 73014444031, 210453397503, 485331304447, 1099511627775, 2199023255551, 4398046511103, 4294967295, 17592186044415, 35184372088831, 70368744177663] fmix ?_
 refine Qv [] Vm (Qv [0] (Vn 0) (Qv [0] (Vfa fo119_2 0) (Qv [1] (VldF sh39 0) (Qb h3 [] Veql (Qv [] Vm (Qv [] Vm (Qv [0] (Vn 0) (Qv [0] (Vfa fo119_1 0) (Qv [1] (VldF sh3 0) ?_)))))))))
 refine Qv [] Vm (Qv [0] (Vn 0) (Qv [0] (Vfa fo119_0 0) (Qv [1] (VldF sh114 0) (Qv [] (Vlen sl114) (Qb h5 [] Vlss (Qv [] Vpt (Qv [] Vm (Qs (Qs ?_)))))))))
 refine Qs (Qs (Qs (Qs (Qs (Qs (Qs (Qs (Qs (Qs ?_)))))))))
 refine Qv [] Vpf (Qv [] Vm (Qs (Qs (Qs (Qs (Qs (Qs (Qs (Qs ?_)))))))))
 refine Qs (Qs (Qs (Qs (Qs (Qv [] Vpf (Qv [] Va ?_))))))
 refine Qn ⟨by kernel_rfl, ?_⟩
 have hq := rI H; subst hq
 exact Kr () rfl (.tmp rfl .nil) [1] trivial
theorem fn107 (pP : Value) (p : Gparser) (pa0 : Option Addr) (pk0 : Nat) (w : Str) (hp_1 : i64ok p.at_) (hp_2 : i64ok p.Err) (hw_0 : w.b.length ≤ 140737488355328) (rr : Gparser) (hrr : pz_word p w = .ret rr) : FT Tryz.prog 107 #[pP, .string (bs w)] [Cl pP [vl pa0 pk0 p.l, vi p.at_, vi p.Err], S pa0 pk0 p.l] (fun g : Unit => i64ok rr.at_ ∧ i64ok rr.Err) (fun g => .tuple #[]) (fun g => [Cl pP [vl pa0 pk0 p.l, vi rr.at_, vi rr.Err]]) := by
 refine FTi Tryz.func107 fun w0 M0 F0 => ?_
 unfold i64ok at hp_1 hp_2
 refine Fb 40 1 fun _ => ?_
 have hx0 := lrn rr; have H := hrr; unfold pz_word at H
 refine KS ?_
 refine Oq Vm (Oq Vm ?_)
 refine lbH H hx0 fun rv2 hg3 H => ?_
 have hc4 := fn83 pP p pa0 pk0 w pre pre pre rv2 hg3
 refine Oc [0, 0] ca83 hc4 ?_
 rintro - -
 refine Oq Vnot (KS ?_)
 refine pF H hx0 fun h5 H => ?_
 refine KcF h5 ?_
 have h7 := not_false h5
 refine KS ?_
 refine Oq Vm (Oq (Vn 0) (Oq (Vfa fo119_1 0) (Oq (VldF sh3 0) ?_)))
 refine pC H hx0 fun hc9 H => ?_
 refine Oq Vadd (Oq (Vn 0) (Oq (Vfa fo119_1 0) (Ost (SclF [0] sh3 [vl pa0 pk0 p.l, vi (p.at_ + 1), vi p.Err]) (KS ?_))))
 have hq := rI H; subst hq
 exact Kz () rfl .nil [0] en
theorem fn117 (pP : Value) (p : Gparser) (pa0 : Option Addr) (pk0 : Nat) (hp_1 : i64ok p.at_) (hp_2 : i64ok p.Err) (rr : Bool) (hrr : pz_isName p = .ret rr) : FT Tryz.prog 117 #[pP] [Cl pP [vl pa0 pk0 p.l, vi p.at_, vi p.Err], S pa0 pk0 p.l] (fun g : Unit => True) (fun g => vb rr) (fun g => [Cl pP [vl pa0 pk0 p.l, vi p.at_, vi p.Err]]) := by
 refine FTi Tryz.func117 fun w0 M0 F0 => ?_
 unfold i64ok at hp_1 hp_2
 refine Fb 40 1 fun _ => ?_
 have hx0 := lrn rr; have H := hrr; unfold pz_isName at H
 refine KS ?_
 refine Oq Va (KS ?_)
 refine Jp 0 fun hp2 => ?_
 refine pT H hx0 fun h3 H => ?_
 have g4 := eq_of_beq h3
 refine pT H hx0 fun h5 H => ?_
 have g6 := dt h5
 refine pC H hx0 fun hc7 H => ?_
 refine JJ_peek_GToken p.at_.toNat 2 rfl rng fun hb8 hb9 hb10 hb11 => ?_
 unfold i64ok at hb8 hb10 hb11
 refine JK_drawK [0, 1, 3, 7, 15, 31, 63, 127, 255, 511, 63, 1087, 3135, 7231, 15423, 32767, 65535, 131071, 262143, 524287, 1048575, 2097151, 262143, 4456447, 12845055, 29622271, 67108863, 134217727, 268435455, 536870911, 1073741823, 2147483647, 4294967295, 8589934591, 17179869183, 34359738367, 4294967295, 73014444031, 210453397503, 485331304447, 1099511627775, 2199023255551, 4398046511103, 8796093022207, 17592186044415, 35184372088831] fmix ?_
 refine Dv [] Vm (Dv [1] (Vn 0) (Dv [1] (Vfa fo119_2 0) (Dv [2] (VldF sh39 0) (Db h3 [] Veql (Dv [] Vm (Dv [] Vm (Dv [1] (Vn 0) (Dv [1] (Vfa fo119_1 0) (Dv [2] (VldF sh3 0) ?_)))))))))
 refine Dv [] Vm (Dv [1] (Vn 0) (Dv [1] (Vfa fo119_0 0) (Dv [2] (VldF sh114 0) (Dv [] (Vlen sl114) (Db h5 [] Vlss (Dv [] Vpt (Dv [] Vm (Dv [] Vm (Dv [1] (Vn 0) ?_)))))))))
 refine Dv [1] (Vfa fo119_0 0) (Dv [2] (VldF sh114 0) (Dv [] Vm (Dv [1] (Vn 0) (Dv [1] (Vfa fo119_1 0) (Dv [2] (VldF sh3 0) (Dv [3] (Vi sl114 0) (Dv [0] (Vfa fo123_0 0) (Dv [0] (VldF sh3 0) (Dv [] Veql ?_)))))))))
 refine Dv [] Vpt ?_
 refine pC H hx0 fun hc13 H => ?_
 refine pS H ?_ ?_
 ·intro h12 H
  have g14 := eq_of_beq h12
  refine Db h12 [] Vm (Dv [] Vm (Dv [1] (Vn 0) (Dv [1] (Vfa fo119_0 0) (Dv [2] (VldF sh114 0) (Dv [] Vm (Dv [1] (Vn 0) (Dv [1] (Vfa fo119_1 0) (Dv [2] (VldF sh3 0) (Dv [3] (Vi sl114 0) ?_)))))))))
  refine Dv [0] (Vfa fo123_1 0) (Dv [0] (VldF sh9 0) ?_)
  refine pC H hx0 fun hc17 H => ?_
  refine lvH H fun rv15 hg16 H => ?_
  refine Dx [] [] [0] (fun G => vb rv15) [fun G => SP.fact (True)] (fun G => xC [] ca51 (fn51 ((p.l.getD p.at_.toNat default).Text) pre rv15 hg16)) (Dv [] Vpt (Dv [] Va ?_))
  refine Dn ⟨by kernel_rfl, fun G => ?_⟩
  refine Jw2 [(2, vb rv15)] [0, 1, 2, 3] [SP.fact (True)] ?_
  refine Jk [0, 2, 2] ?_
  have hq := rI H; subst hq
  exact Kr () rfl (.tmp rfl .nil) [1] trivial
 intro h12 H
 have g18 := ne_of_beq_false h12
 refine Db h12 [] Vm (Ds (Ds (Ds (Ds (Ds (Ds (Ds (Ds (Ds ?_)))))))))
 refine Ds (Ds (Ds (Dv [] Vpf (Dv [] Va ?_))))
 refine Dn ⟨by kernel_rfl, fun G => ?_⟩
 refine Jw2 [(2, vb false)] [0, 1, 2, 3] [] ?_
 refine Jk [0, 2, 2] ?_
 have hq := rI H; subst hq
 exact Kr () rfl (.tmp rfl .nil) [1] trivial
theorem fn108 (pP : Value) (p : Gparser) (pa0 : Option Addr) (pk0 : Nat) (hp_1 : i64ok p.at_) (hp_2 : i64ok p.Err) (rr : Str × Gparser) (hrr : pz_name p = .ret rr) : FT Tryz.prog 108 #[pP] [Cl pP [vl pa0 pk0 p.l, vi p.at_, vi p.Err], S pa0 pk0 p.l] (fun g : Unit => rr.1.b.length ≤ 140737488355328 ∧ i64ok rr.2.at_ ∧ i64ok rr.2.Err) (fun g => .string (bs rr.1)) (fun g => [Cl pP [vl pa0 pk0 p.l, vi rr.2.at_, vi rr.2.Err]]) := by
 refine FTi Tryz.func108 fun w0 M0 F0 => ?_
 unfold i64ok at hp_1 hp_2
 refine Fb 40 1 fun _ => ?_
 have hx0 := lrn rr; have H := hrr; unfold pz_name at H
 refine KS ?_
 refine Oq Va (KS ?_)
 refine Oq Vm ?_
 refine lbH H hx0 fun rv2 hg3 H => ?_
 have hc4 := fn117 pP p pa0 pk0 pre pre rv2 hg3
 refine Oc [0, 0] ca117 hc4 ?_
 rintro - -
 refine Oq Vnot (KS ?_)
 refine pF H hx0 fun h5 H => ?_
 refine KcF h5 ?_
 have h7 := not_false h5
 refine KS ?_
 refine Oq Vm (Oq (Vn 0) (Oq (Vfa fo119_1 0) (Oq (VldF sh3 0) ?_)))
 refine pC H hx0 fun hc9 H => ?_
 refine Oq Vadd (Oq (Vn 0) (Oq (Vfa fo119_1 0) (Ost (SclF [0] sh3 [vl pa0 pk0 p.l, vi (p.at_ + 1), vi p.Err]) (KS ?_))))
 refine Jp 0 fun hp10 => ?_
 refine pC H hx0 fun hc11 H => ?_
 refine pC H hx0 fun hc12 H => ?_
 refine JJ_peek_GToken (((p.at_ + 1) - 1) : Int).toNat 2 rfl rng fun hb13 hb14 hb15 hb16 => ?_
 unfold i64ok at hb13 hb15 hb16
 refine Kq [0, 1, 3, 7, 0, 16, 48, 112, 240, 511, 1023, 2047, 4095] fmix ?_
 refine Qv [] Vm (Qv [1] (Vn 0) (Qv [1] (Vfa fo119_0 0) (Qv [2] (VldF sh114 0) (Qv [] Vm (Qv [1] (Vn 0) (Qv [1] (Vfa fo119_1 0) (Qv [2] (VldF sh3 0) (Qv [] Vsub (Qv [3] (Vi sl114 0) ?_)))))))))
 refine Qv [0] (Vfa fo123_1 0) (Qv [0] (VldF sh9 0) (Qv [] Va ?_))
 refine Qn ⟨by kernel_rfl, ?_⟩
 refine pC H hx0 fun hc17 H => ?_
 have hq := rI H; subst hq
 exact Kr () rfl (.tmp rfl .nil) [2] en
theorem fn118 (pP : Value) (p : Gparser) (pa0 : Option Addr) (pk0 : Nat) (k : Int) (hp_1 : i64ok p.at_) (hp_2 : i64ok p.Err) (hk_0 : i64ok k) (rr : Bool) (hrr : pz_isKind p k = .ret rr) : FT Tryz.prog 118 #[pP, vi k] [Cl pP [vl pa0 pk0 p.l, vi p.at_, vi p.Err], S pa0 pk0 p.l] (fun g : Unit => True) (fun g => vb rr) (fun g => [Cl pP [vl pa0 pk0 p.l, vi p.at_, vi p.Err]]) := by
 refine FTi Tryz.func118 fun w0 M0 F0 => ?_
 unfold i64ok at hp_1 hp_2 hk_0
 refine Fb 40 1 fun _ => ?_
 have hx0 := lrn rr; have H := hrr; unfold pz_isKind at H
 refine KS ?_
 refine Oq Va (KS ?_)
 refine Jp 0 fun hp2 => ?_
 refine pT H hx0 fun h3 H => ?_
 have g4 := eq_of_beq h3
 refine pT H hx0 fun h5 H => ?_
 have g6 := dt h5
 refine pC H hx0 fun hc7 H => ?_
 refine JJ_peek_GToken p.at_.toNat 2 rfl rng fun hb8 hb9 hb10 hb11 => ?_
 unfold i64ok at hb8 hb10 hb11
 refine Kq [0, 1, 3, 7, 15, 31, 63, 127, 255, 511, 63, 1087, 3135, 7231, 15423, 32767, 65535, 131071, 262143, 524287, 1048575, 2097151, 262143, 4456447, 12845055, 29622271, 67108863, 134217727, 268435455, 262143, 1073741823, 2147483647, 4294967295] fmix ?_
 refine Qv [] Vm (Qv [1] (Vn 0) (Qv [1] (Vfa fo119_2 0) (Qv [2] (VldF sh39 0) (Qb h3 [] Veql (Qv [] Vm (Qv [] Vm (Qv [1] (Vn 0) (Qv [1] (Vfa fo119_1 0) (Qv [2] (VldF sh3 0) ?_)))))))))
 refine Qv [] Vm (Qv [1] (Vn 0) (Qv [1] (Vfa fo119_0 0) (Qv [2] (VldF sh114 0) (Qv [] (Vlen sl114) (Qb h5 [] Vlss (Qv [] Vpt (Qv [] Vm (Qv [] Vm (Qv [1] (Vn 0) ?_)))))))))
 refine Qv [1] (Vfa fo119_0 0) (Qv [2] (VldF sh114 0) (Qv [] Vm (Qv [1] (Vn 0) (Qv [1] (Vfa fo119_1 0) (Qv [2] (VldF sh3 0) (Qv [3] (Vi sl114 0) (Qv [0] (Vfa fo123_0 0) (Qv [0] (VldF sh3 0) (Qv [] Vm ?_)))))))))
 refine Qv [] Veql (Qv [] Vpt (Qv [] Va ?_))
 refine Qn ⟨by kernel_rfl, ?_⟩
 refine pC H hx0 fun hc12 H => ?_
 have hq := rI H; subst hq
 exact Kr () rfl (.tmp rfl .nil) [2] trivial
theorem fn109 (pP : Value) (p : Gparser) (pa0 : Option Addr) (pk0 : Nat) (hp_1 : i64ok p.at_) (hp_2 : i64ok p.Err) (rr : Gparser) (hrr : pz_end p = .ret rr) : FT Tryz.prog 109 #[pP] [Cl pP [vl pa0 pk0 p.l, vi p.at_, vi p.Err], S pa0 pk0 p.l] (fun g : Unit => i64ok rr.at_ ∧ i64ok rr.Err) (fun g => .tuple #[]) (fun g => [Cl pP [vl pa0 pk0 p.l, vi rr.at_, vi rr.Err]]) := by
 refine FTi Tryz.func109 fun w0 M0 F0 => ?_
 unfold i64ok at hp_1 hp_2
 refine Fb 40 1 fun _ => ?_
 have hx0 := lrn rr; have H := hrr; unfold pz_end at H
 refine KS ?_
 refine Oq Vm ?_
 refine lbH H hx0 fun rv2 hg3 H => ?_
 have hc4 := fn118 pP p pa0 pk0 3 pre pre pre rv2 hg3
 refine Oc [0, 0] ca118 hc4 ?_
 rintro - -
 refine Oq Vnot (KS ?_)
 refine pF H hx0 fun h5 H => ?_
 refine KcF h5 ?_
 have h7 := not_false h5
 refine KS ?_
 refine Oq Vm (Oq (Vn 0) (Oq (Vfa fo119_1 0) (Oq (VldF sh3 0) ?_)))
 refine pC H hx0 fun hc9 H => ?_
 refine Oq Vadd (Oq (Vn 0) (Oq (Vfa fo119_1 0) (Ost (SclF [0] sh3 [vl pa0 pk0 p.l, vi (p.at_ + 1), vi p.Err]) (KS ?_))))
 have hq := rI H; subst hq
 exact Kz () rfl .nil [0] en
end Go.SL.G
