/- Part 4 of the walks: mirrors, plain laws and walks used by the last text of this claim. -/
import Derived.Test.YtcoflgblhhohdaaDoorW3
import Derived.Test.YtcoflgblhhohdaaDoorProg
set_option linter.unusedVariables false
set_option linter.unusedSimpArgs false
namespace Go.SL.G
open Go Go.SL Go.Proofs
set_option maxHeartbeats 20000000
set_option maxRecDepth 100000
theorem fn12 (kwLA : Option Addr) (kwLK : Nat) (rr : Bool) (hrr : flqlaw6_sane = rr) : FT Tryd.prog 12 #[] [pv (gp 0) [vl kwLA kwLK kwL], S kwLA kwLK kwL] (fun g : Unit => True) (fun g => vb rr) (fun g => []) := by
 refine FTi Tryd.func12 fun w0 M0 F0 => ?_
 refine Fb 16 1 fun hl1 => ?_
 refine FoS 1 fun ho2 => ?_
 refine KS ?_
 refine Oq Va (KS ?_)
 refine letv (flqref4_Parse (Str.mk [102, 117, 110, 99, 32, 109, 59, 32, 98, 108, 111, 99, 107, 32, 98, 59, 32, 120, 32, 61, 32, 121, 59, 32, 101, 110, 100])) fun rv4 hg5 => ?_
 have hc6 := fn26 ((Str.mk [102, 117, 110, 99, 32, 109, 59, 32, 98, 108, 111, 99, 107, 32, 98, 59, 32, 120, 32, 61, 32, 121, 59, 32, 101, 110, 100])) pre rv4 hg5
 refine Oc [] ca26 hc6 ?_
 rintro c3 ⟨he7, he8, he9⟩
 unfold i64ok at he7 he8 he9
 refine Jo 0 ?_; rintro a10 k11 rfl
 refine Fb 40 0 fun hl12 => ?_
 refine Oq Vm (Oq Vx (Oq Vx (Oq Vx (Oq Vx (Oa (Al ze27 [.slice none 0 0]) fun p13 => Ost (Scl [0] sh27 [vl a10 k11 rv4.1.Funcs]) (Oq Va (Oq Va (Oq Va ?_))))))))
 refine KS ?_
 refine letv (flqref4_Parse (Str.mk [102, 117, 110, 99, 32, 109, 59, 32, 98, 108, 111, 99, 107, 32, 98, 59, 32, 103, 111, 116, 111, 32, 99, 59, 32, 101, 110, 100])) fun rv15 hg16 => ?_
 have hc17 := fn26 ((Str.mk [102, 117, 110, 99, 32, 109, 59, 32, 98, 108, 111, 99, 107, 32, 98, 59, 32, 103, 111, 116, 111, 32, 99, 59, 32, 101, 110, 100])) pre rv15 hg16
 refine Oc [] ca26 hc17 ?_
 rintro c14 ⟨he18, he19, he20⟩
 unfold i64ok at he18 he19 he20
 refine Jo 0 ?_; rintro a21 k22 rfl
 refine Fb 40 0 fun hl23 => ?_
 refine Oq Vm (Oq Vx (Oq Vx (Oq Vx (Oq Vx (Oa (Al ze27 [.slice none 0 0]) fun p24 => Ost (Scl [0] sh27 [vl a21 k22 rv15.1.Funcs]) (Oq Va (Oq Va (Oq Va ?_))))))))
 refine KS ?_
 refine letv (flqref4_Parse (Str.mk [102, 117, 110, 99, 32, 109, 59, 32, 98, 108, 111, 99, 107, 32, 98, 59, 32, 99, 97, 108, 108, 32, 109, 59, 32, 114, 101, 116, 117, 114, 110, 59, 32, 101, 110, 100])) fun rv26 hg27 => ?_
 have hc28 := fn26 ((Str.mk [102, 117, 110, 99, 32, 109, 59, 32, 98, 108, 111, 99, 107, 32, 98, 59, 32, 99, 97, 108, 108, 32, 109, 59, 32, 114, 101, 116, 117, 114, 110, 59, 32, 101, 110, 100])) pre rv26 hg27
 refine Oc [] ca26 hc28 ?_
 rintro c25 ⟨he29, he30, he31⟩
 unfold i64ok at he29 he30 he31
 refine Jo 0 ?_; rintro a32 k33 rfl
 refine Fb 40 0 fun hl34 => ?_
 refine Oq Vm (Oq Vx (Oq Vx (Oq Vx (Oq Vx (Oa (Al ze27 [.slice none 0 0]) fun p35 => Ost (Scl [0] sh27 [vl a32 k33 rv26.1.Funcs]) (Oq Va (Oq Va (Oq Va ?_))))))))
 refine KS ?_
 refine Oq (VldA sh27 4) ?_
 refine letv (validate_Check rv4.1) fun rv36 hg37 => ?_
 have hc38 := fn13 rv4.1 a10 k11 kwLA kwLK (psm_of (by assumption) (by kernel_rfl)) rv36 hg37
 refine Oc [5, 6, 7] ca13 hc38 ?_
 rintro - ⟨he39, he40, he41, he42, he43⟩
 unfold i64ok at he39 he40 he41 he42 he43
 refine Oq Vm (Oq Vx (Oq Vx (Oa (Al ze34 [vi 0, vi 0, vi 0, vi 0]) fun p44 => Ost (Scl [0] sh34 [vi rv36.1.Kind, vi rv36.1.Func, vi rv36.1.Block, vi rv36.1.Stmt]) (Oq Va (KS ?_)))))
 refine Oq (VldA sh27 3) ?_
 refine letv (validate_Check rv15.1) fun rv45 hg46 => ?_
 have hc47 := fn13 rv15.1 a21 k22 kwLA kwLK (psm_of (by assumption) (by kernel_rfl)) rv45 hg46
 refine Oc [4, 7, 8] ca13 hc47 ?_
 rintro - ⟨he48, he49, he50, he51, he52⟩
 unfold i64ok at he48 he49 he50 he51 he52
 refine Oq Vm (Oq Vx (Oq Vx (Oa (Al ze34 [vi 0, vi 0, vi 0, vi 0]) fun p53 => Ost (Scl [0] sh34 [vi rv45.1.Kind, vi rv45.1.Func, vi rv45.1.Block, vi rv45.1.Stmt]) (Oq Va (KS ?_)))))
 refine Oq (VldA sh27 2) ?_
 refine letv (validate_Check rv26.1) fun rv54 hg55 => ?_
 have hc56 := fn13 rv26.1 a32 k33 kwLA kwLK (psm_of (by assumption) (by kernel_rfl)) rv54 hg55
 refine Oc [3, 8, 9] ca13 hc56 ?_
 rintro - ⟨he57, he58, he59, he60, he61⟩
 unfold i64ok at he57 he58 he59 he60 he61
 refine Oq Vm (Oq Vx (Oq Vx (Oa (Al ze34 [vi 0, vi 0, vi 0, vi 0]) fun p62 => Ost (Scl [0] sh34 [vi rv54.1.Kind, vi rv54.1.Func, vi rv54.1.Block, vi rv54.1.Stmt]) (Oq Va (KS ?_)))))
 refine Oq (VldA sh27 3) ?_
 refine letv (validate_Sizes rv26.1) fun rv63 hg64 => ?_
 have hc65 := fn14 rv26.1 a32 k33 kwLA kwLK (psm_of (by assumption) (by kernel_rfl)) rv63 hg64
 refine Oc [4, 9, 10] ca14 hc65 ?_
 rintro - ⟨he66, he67, he68⟩
 unfold i64ok at he66 he67
 refine Oq Vm (Oq Vx (Oq Vx (Oq Va (Oq Va (KS ?_)))))
 refine Oq (Vbd st34 [vi 3, vi 0, vi 0, vi 0]) (Oa (Al ze34 [vi 0, vi 0, vi 0, vi 0]) fun p69 => Ost (Scl [0] sh34 [vi 3, vi 0, vi 0, vi 0]) (KS ?_))
 refine Oq Vm (Oq Veql (Oq Vm ?_))
 refine Js 63 ?_ ?_
 · intro h70
   have g71 := eq_of_beq h70
   refine Oq (VldA sh34 3) (Oq (VldA sh34 0) (Oq (VeqA eqi34 (l := [rv36.1.Kind, rv36.1.Func, rv36.1.Block, rv36.1.Stmt]) (m := [3, 0, 0, 0])) (Oq Vpt (Oq Vm ?_))))
   refine Js 68 ?_ ?_
   · intro h72
     have g73 := eq_of_beq h72
     refine Oq Vm (Oq Veql (Oq Vpt (Oq Vm ?_)))
     refine Js 72 ?_ ?_
     · intro h74
       have g75 := eq_of_beq h74
       refine Oq (VldA sh34 2) (Oq (VldA sh34 0) (Oq (VeqA eqi34 (l := [rv45.1.Kind, rv45.1.Func, rv45.1.Block, rv45.1.Stmt]) (m := [3, 0, 0, 0])) (Oq Vpt (Oq Vm ?_))))
       refine Js 77 ?_ ?_
       · intro h76
         have g77 := eq_of_beq h76
         refine Oq Vm (Oq Veql (Oq Vpt (Oq Vm ?_)))
         refine Js 81 ?_ ?_
         · intro h78
           have g79 := eq_of_beq h78
           refine Oq Vm (Oq Veql (Oq Vpt (Oq Vm ?_)))
           refine Js 85 ?_ ?_
           · intro h80
             have g81 := eq_of_beq h80
             refine Oq Vm (Oq Veql (Oq Vpt (Oq Va (KS ?_))))
             have hq := q4 hrr (rv63.2 == 5) (by simp only [flqlaw6_sane, h70, h72, h74, h76, h78, h80, hg5, hg16, hg27, hg37, hg46, hg55, hg64, cs4]); subst hq
             exact Kr () rfl (.tmp rfl .nil) [] trivial
           intro h80
           have g82 := ne_of_beq_false h80
           refine Osk (Osk (Oq Vpf (Oq Va (KS ?_))))
           have hq := q4 hrr false (by simp only [flqlaw6_sane, h70, h72, h74, h76, h78, h80, hg5, hg16, hg27, hg37, hg46, hg55, hg64, cs4]); subst hq
           exact Kr () rfl (.tmp rfl .nil) [] trivial
         intro h78
         have g83 := ne_of_beq_false h78
         refine Osk (Osk (Oq Vpf (Oq Vm (Osk (Osk (Oq Vpf (Oq Va (KS ?_))))))))
         have hq := q4 hrr false (by simp only [flqlaw6_sane, h70, h72, h74, h76, h78, hg5, hg16, hg27, hg37, hg46, hg55, hg64, cs4]); subst hq
         exact Kr () rfl (.tmp rfl .nil) [] trivial
       intro h76
       have g84 := ne_of_beq_false h76
       refine Osk (Osk (Oq Vpf (Oq Vm (Osk (Osk (Oq Vpf (Oq Vm (Osk (Osk ?_)))))))))
       refine Oq Vpf (Oq Va (KS ?_))
       have hq := q4 hrr false (by simp only [flqlaw6_sane, h70, h72, h74, h76, hg5, hg16, hg27, hg37, hg46, hg55, hg64, cs4]); subst hq
       exact Kr () rfl (.tmp rfl .nil) [] trivial
     intro h74
     have g85 := ne_of_beq_false h74
     refine Osk (Osk (Osk (Oq Vpf (Oq Vm (Osk (Osk (Oq Vpf (Oq Vm (Osk ?_)))))))))
     refine Osk (Oq Vpf (Oq Vm (Osk (Osk (Oq Vpf (Oq Va (KS ?_)))))))
     have hq := q4 hrr false (by simp only [flqlaw6_sane, h70, h72, h74, hg5, hg16, hg27, hg37, hg46, hg55, hg64, cs4]); subst hq
     exact Kr () rfl (.tmp rfl .nil) [] trivial
   intro h72
   have g86 := ne_of_beq_false h72
   refine Osk (Osk (Oq Vpf (Oq Vm (Osk (Osk (Osk (Oq Vpf (Oq Vm (Osk ?_)))))))))
   refine Osk (Oq Vpf (Oq Vm (Osk (Osk (Oq Vpf (Oq Vm (Osk (Osk (Oq Vpf ?_)))))))))
   refine Oq Va (KS ?_)
   have hq := q4 hrr false (by simp only [flqlaw6_sane, h70, h72, hg5, hg16, hg27, hg37, hg46, hg55, hg64, cs4]); subst hq
   exact Kr () rfl (.tmp rfl .nil) [] trivial
 intro h70
 have g87 := ne_of_beq_false h70
 refine Osk (Osk (Osk (Oq Vpf (Oq Vm (Osk (Osk (Oq Vpf (Oq Vm (Osk ?_)))))))))
 refine Osk (Osk (Oq Vpf (Oq Vm (Osk (Osk (Oq Vpf (Oq Vm (Osk (Osk ?_)))))))))
 refine Oq Vpf (Oq Vm (Osk (Osk (Oq Vpf (Oq Va (KS ?_))))))
 have hq := q4 hrr false (by simp only [flqlaw6_sane, h70, hg5, hg16, hg27, hg37, hg46, hg55, hg64, cs4]); subst hq
 exact Kr () rfl (.tmp rfl .nil) [] trivial
theorem fn17 (s : GStmt) (sa2 : Option Addr) (sk2 : Nat) (sa3 : Option Addr) (sk3 : Nat) (hs_0 : i64ok s.Op) (hs_1 : s.Def.b.length ≤ 140737488355328) (rr : Bool) (hrr : validate_Defines s = rr) : FT Tryd.prog 17 #[.agg #[vi s.Op, .string (bs s.Def), vl sa2 sk2 s.Uses, vl sa3 sk3 s.Targets]] [S sa2 sk2 s.Uses, S sa3 sk3 s.Targets] (fun g : Unit => True) (fun g => vb rr) (fun g => []) := by
 refine FTi Tryd.func17 fun w0 M0 F0 => ?_
 unfold i64ok at hs_0
 refine Fb 16 0 fun hl1 => ?_
 refine FoS 0 fun ho2 => ?_
 refine Fb 16 1 fun hl3 => ?_
 refine FoS 1 fun ho4 => ?_
 refine KS ?_
 refine Oa (Ab [vi s.Op, .string (bs s.Def), vl sa2 sk2 s.Uses, vl sa3 sk3 s.Targets]) fun p5 => Oq Va (KS ?_)
 refine Oq (Vfa fo51_0 0) (Oq (VldF sh3 0) (Oq Veql (Oq Vm ?_)))
 refine Js 6 ?_ ?_
 · intro h6
   have g7 := eq_of_beq h6
   refine Osk (Osk (Osk (Oq Vpt (Oq Vm (Osk (Osk (Osk (Oq Vpt (Oq Va ?_)))))))))
   refine KS ?_
   have hq := q4 hrr true (by simp only [validate_Defines, h6, cs4]); subst hq
   exact Kr () rfl (.tmp rfl .nil) [] trivial
 intro h6
 have g8 := ne_of_beq_false h6
 refine Oq (Vfa fo51_0 0) (Oq (VldF sh3 0) (Oq Veql (Oq Vpf (Oq Vm ?_))))
 refine Js 11 ?_ ?_
 · intro h9
   have g10 := eq_of_beq h9
   refine Osk (Osk (Osk (Oq Vpt (Oq Va (KS ?_)))))
   have hq := q4 hrr true (by simp only [validate_Defines, h6, h9, cs4]); subst hq
   exact Kr () rfl (.tmp rfl .nil) [] trivial
 intro h9
 have g11 := ne_of_beq_false h9
 refine Oq (Vfa fo51_0 0) (Oq (VldF sh3 0) (Oq Veql (Oq Vpf (Oq Va (KS ?_)))))
 have hq := q4 hrr (s.Op == 6) (by simp only [validate_Defines, h6, h9, cs4]); subst hq
 exact Kr () rfl (.tmp rfl .nil) [] trivial
theorem fn18 (s : GStmt) (sa2 : Option Addr) (sk2 : Nat) (sa3 : Option Addr) (sk3 : Nat) (hs_0 : i64ok s.Op) (hs_1 : s.Def.b.length ≤ 140737488355328) (rr : Bool) (hrr : flqref4_Defines s = rr) : FT Tryd.prog 18 #[.agg #[vi s.Op, .string (bs s.Def), vl sa2 sk2 s.Uses, vl sa3 sk3 s.Targets]] [S sa2 sk2 s.Uses, S sa3 sk3 s.Targets] (fun g : Unit => True) (fun g => vb rr) (fun g => []) := by
 refine FTi Tryd.func18 fun w0 M0 F0 => ?_
 unfold i64ok at hs_0
 refine Fb 16 0 fun hl1 => ?_
 refine FoS 0 fun ho2 => ?_
 refine Fb 16 1 fun hl3 => ?_
 refine FoS 1 fun ho4 => ?_
 refine KS ?_
 refine Oa (Ab [vi s.Op, .string (bs s.Def), vl sa2 sk2 s.Uses, vl sa3 sk3 s.Targets]) fun p5 => Oq Va (KS ?_)
 refine Oq (Vfa fo51_0 0) (Oq (VldF sh3 0) (Oq Veql (Oq Vm ?_)))
 refine Js 6 ?_ ?_
 · intro h6
   have g7 := eq_of_beq h6
   refine Osk (Osk (Osk (Oq Vpt (Oq Vm (Osk (Osk (Osk (Oq Vpt (Oq Va ?_)))))))))
   refine KS ?_
   have hq := q4 hrr true (by simp only [flqref4_Defines, h6, cs4]); subst hq
   exact Kr () rfl (.tmp rfl .nil) [] trivial
 intro h6
 have g8 := ne_of_beq_false h6
 refine Oq (Vfa fo51_0 0) (Oq (VldF sh3 0) (Oq Veql (Oq Vpf (Oq Vm ?_))))
 refine Js 11 ?_ ?_
 · intro h9
   have g10 := eq_of_beq h9
   refine Osk (Osk (Osk (Oq Vpt (Oq Va (KS ?_)))))
   have hq := q4 hrr true (by simp only [flqref4_Defines, h6, h9, cs4]); subst hq
   exact Kr () rfl (.tmp rfl .nil) [] trivial
 intro h9
 have g11 := ne_of_beq_false h9
 refine Oq (Vfa fo51_0 0) (Oq (VldF sh3 0) (Oq Veql (Oq Vpf (Oq Va (KS ?_)))))
 have hq := q4 hrr (s.Op == 6) (by simp only [flqref4_Defines, h6, h9, cs4]); subst hq
 exact Kr () rfl (.tmp rfl .nil) [] trivial
theorem fn5 (s : GStmt) (sa2 : Option Addr) (sk2 : Nat) (sa3 : Option Addr) (sk3 : Nat) (kwLA : Option Addr) (kwLK : Nat) (hs_0 : i64ok s.Op) (hs_1 : s.Def.b.length ≤ 140737488355328) (rr : Bool) (hrr : flqlaw6_ValidateDefines s = rr) : FT Tryd.prog 5 #[.agg #[vi s.Op, .string (bs s.Def), vl sa2 sk2 s.Uses, vl sa3 sk3 s.Targets]] [S sa2 sk2 s.Uses, S sa3 sk3 s.Targets, pv (gp 0) [vl kwLA kwLK kwL], S kwLA kwLK kwL] (fun g : Unit => True) (fun g => vb rr) (fun g => []) := by
 refine FTi Tryd.func5 fun w0 M0 F0 => ?_
 unfold i64ok at hs_0
 refine Fb 16 0 fun hl1 => ?_
 refine FoS 0 fun ho2 => ?_
 refine Fb 16 1 fun hl3 => ?_
 refine FoS 1 fun ho4 => ?_
 refine Fb 16 3 fun hl5 => ?_
 refine FoS 3 fun ho6 => ?_
 refine KS ?_
 refine Oa (AbO [vi s.Op, .string (bs s.Def), vl sa2 sk2 s.Uses, vl sa3 sk3 s.Targets]) fun p7 => Oq Va (KS ?_)
 refine Oq Va (KS ?_)
 refine Kl (γ := Nat × Int × Int) (fun (r8, s0_9, op_10) => ⟨[(1, p7), (3, vi op_10)], [Cl p7 [vi s0_9, .string (bs s.Def), vl sa2 sk2 s.Uses, vl sa3 sk3 s.Targets], S sa2 sk2 s.Uses, S sa3 sk3 s.Targets, pv (gp 0) [vl kwLA kwLK kwL], S kwLA kwLK kwL], flqlaw6_ValidateDefines_L0 s r8 s0_9 op_10 = flqlaw6_ValidateDefines_L0 s (((12 : Int) - (-1)).toNat) s.Op (-1) ∧ r8 = ((12 : Int) - op_10).toNat ∧ (-1 : Int) ≤ op_10 ∧ (op_10 ≤ 12 ∨ op_10 = -1) ∧ (-9223372036854775808 ≤ s0_9 ∧ s0_9 ≤ 9223372036854775807) ∧ (-9223372036854775808 ≤ op_10 ∧ op_10 ≤ 9223372036854775807), r8⟩) (((12 : Int) - (-1)).toNat, s.Op, -1) [0, 0, 1, 2, 3] ⟨rfl, rfl, (by omega), (.inr rfl), (by omega), (by omega)⟩ ?_
 rintro ⟨r8, s0_9, op_10⟩ ⟨hM11, hr12, hi13, hi14, hk15, hk16⟩
 refine JJ_nx fun _ _ hL hA => ?_; dsimp only at hL hA; subst hL hA
 refine Fb 16 1 fun hl17 => ?_
 refine FoS 1 fun ho18 => ?_
 refine Fb 16 2 fun hl19 => ?_
 refine FoS 2 fun ho20 => ?_
 refine Fb 16 4 fun hl21 => ?_
 refine FoS 4 fun ho22 => ?_
 refine KS ?_
 refine Oq Vm (Oq Vlss (KS ?_))
 refine Kc ?_ ?_
 · intro h23
   have g24 := of_decide_eq_true h23
   obtain ⟨r25, rfl⟩ := scc (n := r8) (by omega)
   refine KS ?_
   refine Oq Vm (Oq (Vfa fo51_0 0) (Ost (SclF [0] sh3 [vi op_10, .string (bs s.Def), vl sa2 sk2 s.Uses, vl sa3 sk3 s.Targets]) (KS ?_)))
   refine JK_drawK [0, 1, 0, 7, 15] fmix ?_
   refine Dv [0] (VldA sh51 0) ?_
   refine letv (validate_Defines (GStmt.mk op_10 s.Def s.Uses s.Targets)) fun rv26 hg27 => ?_
   refine Dx [1, 2] [] [1, 2, 0] (fun G => vb rv26) [fun G => SP.fact (True)] (fun G => xC [0, 1] ca17 (fn17 ((GStmt.mk op_10 s.Def s.Uses s.Targets)) sa2 sk2 sa3 sk3 pre pre rv26 hg27)) (Dv [0] (VldA sh51 0) ?_)
   refine letv (flqref4_Defines (GStmt.mk op_10 s.Def s.Uses s.Targets)) fun rv28 hg29 => ?_
   refine Dx [1, 2] [] [1, 2, 0] (fun G => vb rv28) [fun G => SP.fact (True)] (fun G => xC [0, 1] ca18 (fn18 ((GStmt.mk op_10 s.Def s.Uses s.Targets)) sa2 sk2 sa3 sk3 pre pre rv28 hg29)) (Dv [] (Vnb un4) ?_)
   refine Dn ⟨by kernel_rfl, fun G => ?_⟩
   refine Jw2 [(1, p7), (3, vi op_10), (14, vb (!(rv26 == rv28)))] [0, 1, 2, 3, 4] [SP.fact (True), SP.fact (True)] ?_
   refine Jk [0, 0, 1, 2, 3] ?_
   refine Kc ?_ ?_
   · intro h30
     refine KS ?_
     refine Oq Va (KS ?_)
     have hR32 := q2 hM11 (.ret false) (by simp only [flqlaw6_ValidateDefines_L0, h23, h30, hg27, hg29, cs4])
     have hq := q4 hrr false (by simp only [flqlaw6_ValidateDefines, h23, h30, hg27, hg29, hR32, cs4]); subst hq
     exact Kr () rfl (.tmp rfl .nil) [] trivial
   intro h30
   refine KS ?_
   refine Oq Vm (Oq Vadd (Oq Va (KS ?_)))
   exact Kg (r25, op_10, (op_10 + 1)) [0, 0, 1, 2, 3] ⟨(q3 hM11 (by simp only [flqlaw6_ValidateDefines_L0, h23, h30, hg27, hg29, cs4])), (by omega), (by omega), (by omega), (by omega), (by omega)⟩
 intro h23
 have g34 := of_decide_eq_false h23
 obtain rfl : r8 = 0 := by omega
 refine Ke ?_
 have hR35 := q2 hM11 (.brk ()) (by simp only [flqlaw6_ValidateDefines_L0, h23, cs4])
 refine KS ?_
 have hc36 := fn12 kwLA kwLK flqlaw6_sane rfl
 refine Oc [3, 4] ca12 hc36 ?_
 rintro - -
 refine Oq Va (KS ?_)
 have hq := q4 hrr flqlaw6_sane (by simp only [flqlaw6_ValidateDefines, h23, hR35, cs4]); subst hq
 exact Kr () rfl (.tmp rfl .nil) [] trivial
end Go.SL.G
