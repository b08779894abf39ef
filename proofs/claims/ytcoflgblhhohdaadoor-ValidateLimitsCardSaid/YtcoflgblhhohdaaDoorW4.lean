/- Part 4 of the walks: mirrors, plain laws and walks used by the last text of this claim. -/
import Derived.Test.YtcoflgblhhohdaaDoorW3
import Derived.Test.YtcoflgblhhohdaaDoorProg
set_option linter.unusedVariables false
set_option linter.unusedSimpArgs false
namespace Go.SL.G
open Go Go.SL Go.Proofs
set_option maxHeartbeats 20000000
set_option maxRecDepth 100000
theorem fn12 (kwLA : Option Addr) (kwLK : Nat) (rr : Bool) (hrr : flqlaw6_sane = rr) : FT Tryd.prog 12 #[] [pv (gp 0) [vl kwLA kwLK kwL], S kwLA kwLK kwL] (fun g : Unit => True) (fun g => vb rr) (fun g => []) := by
 refine FTi Tryd.func12 fun w0 M0 F0 => ?_
 refine Fb 16 1 fun hl1 => ?_
 refine FoS 1 fun ho2 => ?_
 refine KS ?_
 refine Oq Va (KS ?_)
 refine letv (flqref4_Parse (Str.mk [102, 117, 110, 99, 32, 109, 59, 32, 98, 108, 111, 99, 107, 32, 98, 59, 32, 120, 32, 61, 32, 121, 59, 32, 101, 110, 100])) fun rv4 hg5 => ?_
 have hc6 := fn26 ((Str.mk [102, 117, 110, 99, 32, 109, 59, 32, 98, 108, 111, 99, 107, 32, 98, 59, 32, 120, 32, 61, 32, 121, 59, 32, 101, 110, 100])) pre rv4 hg5
 refine Oc [] ca26 hc6 ?_
 rintro c3 ⟨he7, he8, he9⟩
 unfold i64ok at he7 he8 he9
 refine Jo 0 ?_; rintro a10 k11 rfl
 refine Fb 40 0 fun hl12 => ?_
 refine Oq Vm (Oq Vx (Oq Vx (Oq Vx (Oq Vx (Oa (Al ze27 [.slice none 0 0]) fun p13 => Ost (Scl [0] sh27 [vl a10 k11 rv4.1.Funcs]) (Oq Va (Oq Va (Oq Va ?_))))))))
 refine KS ?_
 refine letv (flqref4_Parse (Str.mk [102, 117, 110, 99, 32, 109, 59, 32, 98, 108, 111, 99, 107, 32, 98, 59, 32, 103, 111, 116, 111, 32, 99, 59, 32, 101, 110, 100])) fun rv15 hg16 => ?_
 have hc17 := fn26 ((Str.mk [102, 117, 110, 99, 32, 109, 59, 32, 98, 108, 111, 99, 107, 32, 98, 59, 32, 103, 111, 116, 111, 32, 99, 59, 32, 101, 110, 100])) pre rv15 hg16
 refine Oc [] ca26 hc17 ?_
 rintro c14 ⟨he18, he19, he20⟩
 unfold i64ok at he18 he19 he20
 refine Jo 0 ?_; rintro a21 k22 rfl
 refine Fb 40 0 fun hl23 => ?_
 refine Oq Vm (Oq Vx (Oq Vx (Oq Vx (Oq Vx (Oa (Al ze27 [.slice none 0 0]) fun p24 => Ost (Scl [0] sh27 [vl a21 k22 rv15.1.Funcs]) (Oq Va (Oq Va (Oq Va ?_))))))))
 refine KS ?_
 refine letv (flqref4_Parse (Str.mk [102, 117, 110, 99, 32, 109, 59, 32, 98, 108, 111, 99, 107, 32, 98, 59, 32, 99, 97, 108, 108, 32, 109, 59, 32, 114, 101, 116, 117, 114, 110, 59, 32, 101, 110, 100])) fun rv26 hg27 => ?_
 have hc28 := fn26 ((Str.mk [102, 117, 110, 99, 32, 109, 59, 32, 98, 108, 111, 99, 107, 32, 98, 59, 32, 99, 97, 108, 108, 32, 109, 59, 32, 114, 101, 116, 117, 114, 110, 59, 32, 101, 110, 100])) pre rv26 hg27
 refine Oc [] ca26 hc28 ?_
 rintro c25 ⟨he29, he30, he31⟩
 unfold i64ok at he29 he30 he31
 refine Jo 0 ?_; rintro a32 k33 rfl
 refine Fb 40 0 fun hl34 => ?_
 refine Oq Vm (Oq Vx (Oq Vx (Oq Vx (Oq Vx (Oa (Al ze27 [.slice none 0 0]) fun p35 => Ost (Scl [0] sh27 [vl a32 k33 rv26.1.Funcs]) (Oq Va (Oq Va (Oq Va ?_))))))))
 refine KS ?_
 refine Oq (VldA sh27 4) ?_
 refine letv (validate_Check rv4.1) fun rv36 hg37 => ?_
 have hc38 := fn13 rv4.1 a10 k11 kwLA kwLK (psm_of (by assumption) (by kernel_rfl)) rv36 hg37
 refine Oc [5, 6, 7] ca13 hc38 ?_
 rintro - ⟨he39, he40, he41, he42, he43⟩
 unfold i64ok at he39 he40 he41 he42 he43
 refine Oq Vm (Oq Vx (Oq Vx (Oa (Al ze34 [vi 0, vi 0, vi 0, vi 0]) fun p44 => Ost (Scl [0] sh34 [vi rv36.1.Kind, vi rv36.1.Func, vi rv36.1.Block, vi rv36.1.Stmt]) (Oq Va (KS ?_)))))
 refine Oq (VldA sh27 3) ?_
 refine letv (validate_Check rv15.1) fun rv45 hg46 => ?_
 have hc47 := fn13 rv15.1 a21 k22 kwLA kwLK (psm_of (by assumption) (by kernel_rfl)) rv45 hg46
 refine Oc [4, 7, 8] ca13 hc47 ?_
 rintro - ⟨he48, he49, he50, he51, he52⟩
 unfold i64ok at he48 he49 he50 he51 he52
 refine Oq Vm (Oq Vx (Oq Vx (Oa (Al ze34 [vi 0, vi 0, vi 0, vi 0]) fun p53 => Ost (Scl [0] sh34 [vi rv45.1.Kind, vi rv45.1.Func, vi rv45.1.Block, vi rv45.1.Stmt]) (Oq Va (KS ?_)))))
 refine Oq (VldA sh27 2) ?_
 refine letv (validate_Check rv26.1) fun rv54 hg55 => ?_
 have hc56 := fn13 rv26.1 a32 k33 kwLA kwLK (psm_of (by assumption) (by kernel_rfl)) rv54 hg55
 refine Oc [3, 8, 9] ca13 hc56 ?_
 rintro - ⟨he57, he58, he59, he60, he61⟩
 unfold i64ok at he57 he58 he59 he60 he61
 refine Oq Vm (Oq Vx (Oq Vx (Oa (Al ze34 [vi 0, vi 0, vi 0, vi 0]) fun p62 => Ost (Scl [0] sh34 [vi rv54.1.Kind, vi rv54.1.Func, vi rv54.1.Block, vi rv54.1.Stmt]) (Oq Va (KS ?_)))))
 refine Oq (VldA sh27 3) ?_
 refine letv (validate_Sizes rv26.1) fun rv63 hg64 => ?_
 have hc65 := fn14 rv26.1 a32 k33 kwLA kwLK (psm_of (by assumption) (by kernel_rfl)) rv63 hg64
 refine Oc [4, 9, 10] ca14 hc65 ?_
 rintro - ⟨he66, he67, he68⟩
 unfold i64ok at he66 he67
 refine Oq Vm (Oq Vx (Oq Vx (Oq Va (Oq Va (KS ?_)))))
 refine Oq (Vbd st34 [vi 3, vi 0, vi 0, vi 0]) (Oa (Al ze34 [vi 0, vi 0, vi 0, vi 0]) fun p69 => Ost (Scl [0] sh34 [vi 3, vi 0, vi 0, vi 0]) (KS ?_))
 refine Oq Vm (Oq Veql (Oq Vm ?_))
 refine Js 63 ?_ ?_
 · intro h70
   have g71 := eq_of_beq h70
   refine Oq (VldA sh34 3) (Oq (VldA sh34 0) (Oq (VeqA eqi34 (l := [rv36.1.Kind, rv36.1.Func, rv36.1.Block, rv36.1.Stmt]) (m := [3, 0, 0, 0])) (Oq Vpt (Oq Vm ?_))))
   refine Js 68 ?_ ?_
   · intro h72
     have g73 := eq_of_beq h72
     refine Oq Vm (Oq Veql (Oq Vpt (Oq Vm ?_)))
     refine Js 72 ?_ ?_
     · intro h74
       have g75 := eq_of_beq h74
       refine Oq (VldA sh34 2) (Oq (VldA sh34 0) (Oq (VeqA eqi34 (l := [rv45.1.Kind, rv45.1.Func, rv45.1.Block, rv45.1.Stmt]) (m := [3, 0, 0, 0])) (Oq Vpt (Oq Vm ?_))))
       refine Js 77 ?_ ?_
       · intro h76
         have g77 := eq_of_beq h76
         refine Oq Vm (Oq Veql (Oq Vpt (Oq Vm ?_)))
         refine Js 81 ?_ ?_
         · intro h78
           have g79 := eq_of_beq h78
           refine Oq Vm (Oq Veql (Oq Vpt (Oq Vm ?_)))
           refine Js 85 ?_ ?_
           · intro h80
             have g81 := eq_of_beq h80
             refine Oq Vm (Oq Veql (Oq Vpt (Oq Va (KS ?_))))
             have hq := q4 hrr (rv63.2 == 5) (by simp only [flqlaw6_sane, h70, h72, h74, h76, h78, h80, hg5, hg16, hg27, hg37, hg46, hg55, hg64, cs4]); subst hq
             exact Kr () rfl (.tmp rfl .nil) [] trivial
           intro h80
           have g82 := ne_of_beq_false h80
           refine Osk (Osk (Oq Vpf (Oq Va (KS ?_))))
           have hq := q4 hrr false (by simp only [flqlaw6_sane, h70, h72, h74, h76, h78, h80, hg5, hg16, hg27, hg37, hg46, hg55, hg64, cs4]); subst hq
           exact Kr () rfl (.tmp rfl .nil) [] trivial
         intro h78
         have g83 := ne_of_beq_false h78
         refine Osk (Osk (Oq Vpf (Oq Vm (Osk (Osk (Oq Vpf (Oq Va (KS ?_))))))))
         have hq := q4 hrr false (by simp only [flqlaw6_sane, h70, h72, h74, h76, h78, hg5, hg16, hg27, hg37, hg46, hg55, hg64, cs4]); subst hq
         exact Kr () rfl (.tmp rfl .nil) [] trivial
       intro h76
       have g84 := ne_of_beq_false h76
       refine Osk (Osk (Oq Vpf (Oq Vm (Osk (Osk (Oq Vpf (Oq Vm (Osk (Osk ?_)))))))))
       refine Oq Vpf (Oq Va (KS ?_))
       have hq := q4 hrr false (by simp only [flqlaw6_sane, h70, h72, h74, h76, hg5, hg16, hg27, hg37, hg46, hg55, hg64, cs4]); subst hq
       exact Kr () rfl (.tmp rfl .nil) [] trivial
     intro h74
     have g85 := ne_of_beq_false h74
     refine Osk (Osk (Osk (Oq Vpf (Oq Vm (Osk (Osk (Oq Vpf (Oq Vm (Osk ?_)))))))))
     refine Osk (Oq Vpf (Oq Vm (Osk (Osk (Oq Vpf (Oq Va (KS ?_)))))))
     have hq := q4 hrr false (by simp only [flqlaw6_sane, h70, h72, h74, hg5, hg16, hg27, hg37, hg46, hg55, hg64, cs4]); subst hq
     exact Kr () rfl (.tmp rfl .nil) [] trivial
   intro h72
   have g86 := ne_of_beq_false h72
   refine Osk (Osk (Oq Vpf (Oq Vm (Osk (Osk (Osk (Oq Vpf (Oq Vm (Osk ?_)))))))))
   refine Osk (Oq Vpf (Oq Vm (Osk (Osk (Oq Vpf (Oq Vm (Osk (Osk (Oq Vpf ?_)))))))))
   refine Oq Va (KS ?_)
   have hq := q4 hrr false (by simp only [flqlaw6_sane, h70, h72, hg5, hg16, hg27, hg37, hg46, hg55, hg64, cs4]); subst hq
   exact Kr () rfl (.tmp rfl .nil) [] trivial
 intro h70
 have g87 := ne_of_beq_false h70
 refine Osk (Osk (Osk (Oq Vpf (Oq Vm (Osk (Osk (Oq Vpf (Oq Vm (Osk ?_)))))))))
 refine Osk (Osk (Oq Vpf (Oq Vm (Osk (Osk (Oq Vpf (Oq Vm (Osk (Osk ?_)))))))))
 refine Oq Vpf (Oq Vm (Osk (Osk (Oq Vpf (Oq Va (KS ?_))))))
 have hq := q4 hrr false (by simp only [flqlaw6_sane, h70, hg5, hg16, hg27, hg37, hg46, hg55, hg64, cs4]); subst hq
 exact Kr () rfl (.tmp rfl .nil) [] trivial
theorem fn35 (n : Int) (hn_0 : i64ok n) (hn : 0 ≤ n ∧ n ≤ 1000000000) (rr : Str) (hrr : flqref1_Decimal n = rr) : FT Tryd.prog 35 #[vi n] [] (fun g : Unit => rr.b.length ≤ 140737488355328 ∧ ((rr.b.length : Int) ≤ 1 + n / 10)) (fun g => .string (bs rr)) (fun g => []) := by
 refine FTi Tryd.func35 fun w0 M0 F0 => ?_
 unfold i64ok at hn_0
 refine KS ?_
 refine Oq Va (KS ?_)
 refine Oq Vm (Oq Vrem (Oq Vm (Oq Vrem (Oq Vadd ?_))))
 have hb1 : (Str.mk [48, 49, 50, 51, 52, 53, 54, 55, 56, 57]).b.length = 10 := rfl
 refine Oq (VslS un9 (l := (Str.mk [48, 49, 50, 51, 52, 53, 54, 55, 56, 57]))) ?_
 have hb2 := sub_len3 (Str.mk [48, 49, 50, 51, 52, 53, 54, 55, 56, 57]) ((n % 10) : Int).toNat (((n % 10) + 1) : Int).toNat
 refine Oq Va (KS ?_)
 refine Oq Vm (Oq Vquo (Oq Va (KS ?_)))
 have hterm10 : flqref1_Decimal_L0 ((n / 10).toNat + 1) (n / 10) ((Str.mk [48, 49, 50, 51, 52, 53, 54, 55, 56, 57]).sub ((n % 10) : Int).toNat (((n % 10) + 1) : Int).toNat) ≠ LR.oof := (Decimal_term _ _ _ (by omega))
 refine Kl (γ := Nat × Int × Str) (fun (r3, n_4, s_5) => ⟨[(3, .string (bs s_5)), (0, vi n_4)], [], flqref1_Decimal_L0 r3 n_4 s_5 = flqref1_Decimal_L0 ((n / 10).toNat + 1) (n / 10) ((Str.mk [48, 49, 50, 51, 52, 53, 54, 55, 56, 57]).sub ((n % 10) : Int).toNat (((n % 10) + 1) : Int).toNat) ∧ (-9223372036854775808 ≤ n_4 ∧ n_4 ≤ 9223372036854775807) ∧ s_5.b.length ≤ 140737488355328 ∧ (0 ≤ n_4 ∧ (s_5.b.length : Int) + n_4 ≤ 1 + n / 10), r3⟩) (((n / 10).toNat + 1), (n / 10), ((Str.mk [48, 49, 50, 51, 52, 53, 54, 55, 56, 57]).sub ((n % 10) : Int).toNat (((n % 10) + 1) : Int).toNat)) [] ⟨rfl, (by omega), (by omega), iv0⟩ ?_
 rintro ⟨r3, n_4, s_5⟩ ⟨hM6, hk7, hk8, hv9⟩
 refine JJ_nx fun _ _ hL hA => ?_; dsimp only at hL hA; subst hL hA
 rcases r3 with _ | r3
 · exact absurd (hM6.symm.trans rfl) hterm10
 refine KS ?_
 refine Oq Vm (Oq Vgtr (KS ?_))
 refine Kc ?_ ?_
 · intro h11
   have g12 := of_decide_eq_true h11
   refine KS ?_
   refine Oq Vm (Oq Vrem (Oq Vm (Oq Vrem (Oq Vadd ?_))))
   have hb13 : (Str.mk [48, 49, 50, 51, 52, 53, 54, 55, 56, 57]).b.length = 10 := rfl
   refine Oq (VslS un9 (l := (Str.mk [48, 49, 50, 51, 52, 53, 54, 55, 56, 57]))) ?_
   have hb14 := sub_len3 (Str.mk [48, 49, 50, 51, 52, 53, 54, 55, 56, 57]) ((n_4 % 10) : Int).toNat (((n_4 % 10) + 1) : Int).toNat
   refine Oq Vm ?_
   have hb15 := sadd_len ((Str.mk [48, 49, 50, 51, 52, 53, 54, 55, 56, 57]).sub ((n_4 % 10) : Int).toNat (((n_4 % 10) + 1) : Int).toNat) s_5
   refine Oq (VadS (l := ((Str.mk [48, 49, 50, 51, 52, 53, 54, 55, 56, 57]).sub ((n_4 % 10) : Int).toNat (((n_4 % 10) + 1) : Int).toNat)) (m := s_5)) (Oq Va (KS ?_))
   refine Oq Vm (Oq Vquo (Oq Va (KS ?_)))
   exact Kg (r3, (n_4 / 10), (((Str.mk [48, 49, 50, 51, 52, 53, 54, 55, 56, 57]).sub ((n_4 % 10) : Int).toNat (((n_4 % 10) + 1) : Int).toNat) ++ s_5)) [] ⟨(q3 hM6 (by simp only [flqref1_Decimal_L0, h11, cs4])), (by omega), (by omega), iv1⟩
 intro h11
 have g16 := of_decide_eq_false h11
 refine Ke ?_
 have hR17 := q2 hM6 (.brk s_5) (by simp only [flqref1_Decimal_L0, h11, cs4])
 refine KS ?_
 refine Oq Vm (Oq Va (KS ?_))
 have hq := q4 hrr s_5 (by simp only [flqref1_Decimal, h11, hR17, cs4]); subst hq
 exact Kr () rfl (.tmp rfl .nil) [] en
theorem fn16 (n : Int) (hn_0 : i64ok n) (hn : 0 ≤ n ∧ n ≤ 1000000000) (rr : Str) (hrr : flqref4_Quoted n = rr) : FT Tryd.prog 16 #[vi n] [] (fun g : Unit => rr.b.length ≤ 140737488355328 ∧ ((rr.b.length : Int) ≤ 1 + n / 10)) (fun g => .string (bs rr)) (fun g => []) := by
 refine FTi Tryd.func16 fun w0 M0 F0 => ?_
 unfold i64ok at hn_0
 refine KS ?_
 refine Oq Va (KS ?_)
 refine Oq Vm ?_
 refine letv (flqref1_Decimal n) fun rv1 hg2 => ?_
 have hc3 := fn35 n pre pre rv1 hg2
 refine Oc [] ca35 hc3 ?_
 rintro - ⟨he4, he5⟩
 refine Oq Va (KS ?_)
 have hq := q4 hrr rv1 (by simp only [flqref4_Quoted, hg2, cs4]); subst hq
 exact Kr () rfl (.tmp rfl .nil) [] en
theorem fn4 (n : Int) (kwLA : Option Addr) (kwLK : Nat) (hn_0 : 0 ≤ n ∧ n ≤ 255) (rr : Bool) (hrr : flqlaw6_ValidateLimits n = rr) : FT Tryd.prog 4 #[.int .u8 n] [pv (gp 0) [vl kwLA kwLK kwL], S kwLA kwLK kwL] (fun g : Unit => True) (fun g => vb rr) (fun g => []) := by
 refine FTi Tryd.func4 fun w0 M0 F0 => ?_
 refine Fb 16 1 fun hl1 => ?_
 refine FoS 1 fun ho2 => ?_
 refine KS ?_
 refine Oq Va (KS ?_)
 refine Oq Vm (Oq VremK (Oq (VcK un5 un3) (Oq Va (KS ?_))))
 refine Oa (Al ze45 [.string (bs (Str.mk [])), .slice none 0 0]) fun p3 => KS ?_
 refine Oq (Vfa fo45_0 0) (Ost (SclF [0] sh9 [.string (bs (Str.mk [102])), .slice none 0 0]) (KS ?_))
 refine Oq Vm (Oq Vadd (Oq Va (KS ?_)))
 refine Jl [] (Ent.osNil (α := GBlock)) ?_
 have hterm12 : flqlaw6_ValidateLimits_L0 300 [] (252 + (n % 4)) ≠ LR.oof := (Limits_term _ _ _ (by omega) (by omega))
 refine Kl (γ := Nat × List GBlock × Int × Option Addr × Nat) (fun (r4, f1_5, left_6, a7, k8) => ⟨[(3, vi (n % 4)), (4, p3), (5, vi left_6)], [O a7 k8 f1_5, Cl p3 [.string (bs (Str.mk [102])), vl a7 k8 f1_5], pv (gp 0) [vl kwLA kwLK kwL], S kwLA kwLK kwL], flqlaw6_ValidateLimits_L0 r4 f1_5 left_6 = flqlaw6_ValidateLimits_L0 300 [] (252 + (n % 4)) ∧ (-9223372036854775808 ≤ left_6 ∧ left_6 ≤ 9223372036854775807) ∧ (0 ≤ left_6 ∧ left_6 ≤ 255 ∧ (f1_5.length : Int) + left_6 ≤ 255), r4⟩) (300, [], (252 + (n % 4)), none, 0) [0, 0, 0, 1] ⟨rfl, (by omega), iv0⟩ ?_
 rintro ⟨r4, f1_5, left_6, a7, k8⟩ ⟨hM9, hk10, hv11⟩
 refine JJ_nx fun _ _ hL hA => ?_; dsimp only at hL hA; subst hL hA
 refine Fb 40 0 fun hl13 => ?_
 refine Fb 16 3 fun hl14 => ?_
 refine FoS 3 fun ho15 => ?_
 rcases r4 with _ | r4
 · exact absurd (hM9.symm.trans rfl) hterm12
 refine KS ?_
 refine Oq Vm (Oq Vgtr (KS ?_))
 refine Kc ?_ ?_
 · intro h16
   have g17 := of_decide_eq_true h16
   refine KS ?_
   refine Oq (Vfa fo45_1 1) (Oq (VldF sh43 1) (Oq (Vlen sl43) ?_))
   refine letv (flqref4_Quoted (f1_5.length : Int)) fun rv18 hg19 => ?_
   have hc20 := fn16 ((f1_5.length : Int)) pre pre rv18 hg19
   refine Oc [] ca16 hc20 ?_
   rintro - ⟨he21, he22⟩
   have hb23 := sadd_len (Str.mk [98]) rv18
   have hb24 : (Str.mk [98]).b.length = 1 := rfl
   refine Oq (VadS (l := (Str.mk [98])) (m := rv18)) (Oq (Vbd st49 [.string (bs ((Str.mk [98]) ++ rv18)), .slice none 0 0]) (Oa (Al ze49 [.string (bs (Str.mk [])), .slice none 0 0]) fun p25 => Ost (Scl [0] sh49 [.string (bs ((Str.mk [98]) ++ rv18)), .slice none 0 0]) (KS ?_)))
   refine Jl [] (Ent.osNil (α := GStmt)) ?_
   refine Kl (γ := Nat × Int × List GStmt × Option Addr × Nat) (fun (r26, left_27, b1_28, a29, k30) => ⟨[(3, vi (n % 4)), (4, p3), (5, vi left_27), (6, p25)], [O a29 k30 b1_28, Cl p25 [.string (bs ((Str.mk [98]) ++ rv18)), vl a29 k30 b1_28], O a7 k8 f1_5, Cl p3 [.string (bs (Str.mk [102])), vl a7 k8 f1_5], pv (gp 0) [vl kwLA kwLK kwL], S kwLA kwLK kwL], flqlaw6_ValidateLimits_L1 r26 left_27 b1_28 = flqlaw6_ValidateLimits_L1 (((left_6 : Int) - 1).toNat) left_6 [] ∧ r26 = ((left_27 : Int) - 1).toNat ∧ left_27 ≤ (left_6 : Int) ∧ (-9223372036854775808 ≤ left_27 ∧ left_27 ≤ 9223372036854775807) ∧ (1 ≤ left_27) ∧ (b1_28.length ≤ 31), r26⟩) (((left_6 : Int) - 1).toNat, left_6, [], none, 0) [0, 0, 0, 0, 0, 1] ⟨rfl, rfl, (by omega), (by omega), iv0, iv0⟩ ?_
   rintro ⟨r26, left_27, b1_28, a29, k30⟩ ⟨hM31, hr32, hi33, hk34, hv35, hv36⟩
   refine JJ_nx fun _ _ hL hA => ?_; dsimp only at hL hA; subst hL hA
   refine Fb 72 0 fun hl37 => ?_
   refine Fb 40 2 fun hl38 => ?_
   refine Fb 16 5 fun hl39 => ?_
   refine FoS 5 fun ho40 => ?_
   refine KS ?_
   refine Oq Vm (Oq Vgtr (Oq Vm ?_))
   refine Js 25 ?_ ?_
   · intro h41
     have g42 := of_decide_eq_true h41
     obtain ⟨r43, rfl⟩ := scc (n := r26) (by omega)
     refine Oq (Vfa fo49_1 1) (Oq (VldF sh47 1) (Oq (Vlen sl47) (Oq Vlss (Oq Vpt (KS ?_)))))
     refine Kc ?_ ?_
     · intro h44
       have g45 := of_decide_eq_true h44
       refine KS ?_
       refine Oq (Vfa fo49_1 1) (Oq (VldF sh47 1) (Oa (AsV sl40 sz40 [.string (bs (Str.mk [120]))] [.string (bs (Str.mk [120]))]) fun c46 => ?_))
       refine Jo 0 ?_; rintro a47 k48 rfl
       refine Oq (Vbd st51 [vi 2, .string (bs (Str.mk [])), .slice a47 1 k48, .slice none 0 0]) (Oa (AsV sl47 sz47 [.agg #[vi 2, .string (bs (Str.mk [])), .slice a47 1 k48, .slice none 0 0]] [vi 2, .string (bs (Str.mk [])), .slice a47 1 k48, .slice none 0 0]) fun c49 => ?_)
       refine Jo 0 ?_; rintro a50 k51 rfl
       refine Jl [1] (Ent.cr1 (α := Str) (A := []) _ (Str.mk [120]) _ (Nat.le_of_ble_eq_true rfl) (fun _ => ⟨rfl, by first | omega | (simp; done) | (dsimp only; omega)⟩)) ?_
       refine Jl [0] (Ent.freeze _ _) ?_
       refine Jl [1, 0] (Ent.cr1 (α := GStmt) (A := [sl (.slice a47 1 k48) ([(Str.mk [120])] : List Str)]) _ (GStmt.mk 2 (Str.mk []) [(Str.mk [120])] []) _ (Nat.le_of_ble_eq_true rfl) (fun h => ⟨_, _, rfl, (by unfold i64ok; first | omega | (dsimp only; omega)), (by first | omega | (simp; done) | (dsimp only; omega)), sepAll_get (i := 0) rfl h, slrd_nil⟩)) ?_
       refine Oa (ApO [3, 0] sl47 sl47 sz47) fun c52 => ?_
       refine Jo 0 ?_; rintro a53 k54 rfl
       refine Fb 72 0 fun hl55 => ?_
       have hn56 := la b1_28 ([(GStmt.mk 2 (Str.mk []) [(Str.mk [120])] [])] : List GStmt)
       refine Oq (Vfa fo49_1 3) (Ost (SclF [3] sh47 [.string (bs ((Str.mk [98]) ++ rv18)), vl a53 k54 (b1_28 ++ [(GStmt.mk 2 (Str.mk []) [(Str.mk [120])] [])])]) (KS ?_))
       refine Oq Vm (Oq Vsub (Oq Va (KS ?_)))
       exact Kg (r43, (left_27 - 1), (b1_28 ++ [(GStmt.mk 2 (Str.mk []) [(Str.mk [120])] [])]), a53, k54) [1, 0, 2, 2, 2, 3] ⟨(q3 hM31 (by simp only [flqlaw6_ValidateLimits_L1, h16, h41, h44, hg19, cs4])), (by omega), (by omega), (by omega), iv1, iv1⟩
     intro h44
     have g57 := of_decide_eq_false h44
     refine Ke ?_
     have hR58 := q2 hM31 (left_27, b1_28) (by simp only [flqlaw6_ValidateLimits_L1, h16, h41, h44, hg19, cs4])
     refine KS ?_
     refine Oq (Vfa fo49_1 1) (Oq (VldF sh47 1) (Oq (Vbd st51 [vi 9, .string (bs (Str.mk [])), .slice none 0 0, .slice none 0 0]) (Oa (AsV sl47 sz47 [.agg #[vi 9, .string (bs (Str.mk [])), .slice none 0 0, .slice none 0 0]] [vi 9, .string (bs (Str.mk [])), .slice none 0 0, .slice none 0 0]) fun c59 => ?_)))
     refine Jo 0 ?_; rintro a60 k61 rfl
     refine Jl [0] (Ent.cr1 (α := GStmt) (A := []) _ (GStmt.mk 9 (Str.mk []) [] []) _ (Nat.le_of_ble_eq_true rfl) (fun h => ⟨_, _, rfl, (by unfold i64ok; first | omega | (dsimp only; omega)), (by first | omega | (simp; done) | (dsimp only; omega)), slrd_nil, slrd_nil⟩)) ?_
     refine Oa (ApO [1, 0] sl47 sl47 sz47) fun c62 => ?_
     refine Jo 0 ?_; rintro a63 k64 rfl
     refine Fb 72 0 fun hl65 => ?_
     have hn66 := la b1_28 ([(GStmt.mk 9 (Str.mk []) [] [])] : List GStmt)
     refine Oq (Vfa fo49_1 1) (Ost (SclF [1] sh47 [.string (bs ((Str.mk [98]) ++ rv18)), vl a63 k64 (b1_28 ++ [(GStmt.mk 9 (Str.mk []) [] [])])]) (KS ?_))
     refine Oq Vm (Oq Vsub (Oq Va (KS ?_)))
     refine Oq (Vfa fo45_1 3) (Oq (VldF sh43 3) (Oq (VldA sh49 0) (Oa (AsV sl43 sz43 [.agg #[.string (bs ((Str.mk [98]) ++ rv18)), vl a63 k64 (b1_28 ++ [(GStmt.mk 9 (Str.mk []) [] [])])]] [.string (bs ((Str.mk [98]) ++ rv18)), vl a63 k64 (b1_28 ++ [(GStmt.mk 9 (Str.mk []) [] [])])]) fun c67 => ?_)))
     refine Jo 0 ?_; rintro a68 k69 rfl
     refine Jl [2] (Ent.freeze _ _) ?_
     refine Jl [1, 0] (Ent.cr1 (α := GBlock) (A := [S a63 k64 ((b1_28 ++ [(GStmt.mk 9 (Str.mk []) [] [])]) : List GStmt)]) _ (GBlock.mk ((Str.mk [98]) ++ rv18) (b1_28 ++ [(GStmt.mk 9 (Str.mk []) [] [])])) _ (Nat.le_of_ble_eq_true rfl) (fun h => ⟨_, rfl, (by first | omega | (simp; done) | (dsimp only; omega)), sepAll_get (i := 0) rfl h⟩)) ?_
     refine Oa (ApO [4, 0] sl43 sl43 sz43) fun c70 => ?_
     refine Jo 0 ?_; rintro a71 k72 rfl
     refine Fb 40 0 fun hl73 => ?_
     have hn74 := la f1_5 ([(GBlock.mk ((Str.mk [98]) ++ rv18) (b1_28 ++ [(GStmt.mk 9 (Str.mk []) [] [])]))] : List GBlock)
     refine Oq (Vfa fo45_1 4) (Ost (SclF [4] sh43 [.string (bs (Str.mk [102])), .slice a71 ((f1_5 ++ [(GBlock.mk ((Str.mk [98]) ++ rv18) (b1_28 ++ [(GStmt.mk 9 (Str.mk []) [] [])]))]).length) k72]) (KS ?_))
     exact Kg (r4, (f1_5 ++ [(GBlock.mk ((Str.mk [98]) ++ rv18) (b1_28 ++ [(GStmt.mk 9 (Str.mk []) [] [])]))]), (left_27 - 1), a71, k72) [1, 0, 3, 4] ⟨(q3 hM9 (by simp only [flqlaw6_ValidateLimits_L0, h16, h41, h44, hg19, hR58, cs4])), (by omega), iv1⟩
   intro h41
   have g75 := of_decide_eq_false h41
   obtain rfl : r26 = 0 := by omega
   refine Osk (Osk (Osk (Osk (Oq Vpf (KS ?_)))))
   refine Kf ?_
   refine Ke ?_
   have hR76 := q2 hM31 (left_27, b1_28) (by simp only [flqlaw6_ValidateLimits_L1, h16, h41, hg19, cs4])
   refine KS ?_
   refine Oq (Vfa fo49_1 1) (Oq (VldF sh47 1) (Oq (Vbd st51 [vi 9, .string (bs (Str.mk [])), .slice none 0 0, .slice none 0 0]) (Oa (AsV sl47 sz47 [.agg #[vi 9, .string (bs (Str.mk [])), .slice none 0 0, .slice none 0 0]] [vi 9, .string (bs (Str.mk [])), .slice none 0 0, .slice none 0 0]) fun c77 => ?_)))
   refine Jo 0 ?_; rintro a78 k79 rfl
   refine Jl [0] (Ent.cr1 (α := GStmt) (A := []) _ (GStmt.mk 9 (Str.mk []) [] []) _ (Nat.le_of_ble_eq_true rfl) (fun h => ⟨_, _, rfl, (by unfold i64ok; first | omega | (dsimp only; omega)), (by first | omega | (simp; done) | (dsimp only; omega)), slrd_nil, slrd_nil⟩)) ?_
   refine Oa (ApO [1, 0] sl47 sl47 sz47) fun c80 => ?_
   refine Jo 0 ?_; rintro a81 k82 rfl
   refine Fb 72 0 fun hl83 => ?_
   have hn84 := la b1_28 ([(GStmt.mk 9 (Str.mk []) [] [])] : List GStmt)
   refine Oq (Vfa fo49_1 1) (Ost (SclF [1] sh47 [.string (bs ((Str.mk [98]) ++ rv18)), vl a81 k82 (b1_28 ++ [(GStmt.mk 9 (Str.mk []) [] [])])]) (KS ?_))
   refine Oq Vm (Oq Vsub (Oq Va (KS ?_)))
   refine Oq (Vfa fo45_1 3) (Oq (VldF sh43 3) (Oq (VldA sh49 0) (Oa (AsV sl43 sz43 [.agg #[.string (bs ((Str.mk [98]) ++ rv18)), vl a81 k82 (b1_28 ++ [(GStmt.mk 9 (Str.mk []) [] [])])]] [.string (bs ((Str.mk [98]) ++ rv18)), vl a81 k82 (b1_28 ++ [(GStmt.mk 9 (Str.mk []) [] [])])]) fun c85 => ?_)))
   refine Jo 0 ?_; rintro a86 k87 rfl
   refine Jl [2] (Ent.freeze _ _) ?_
   refine Jl [1, 0] (Ent.cr1 (α := GBlock) (A := [S a81 k82 ((b1_28 ++ [(GStmt.mk 9 (Str.mk []) [] [])]) : List GStmt)]) _ (GBlock.mk ((Str.mk [98]) ++ rv18) (b1_28 ++ [(GStmt.mk 9 (Str.mk []) [] [])])) _ (Nat.le_of_ble_eq_true rfl) (fun h => ⟨_, rfl, (by first | omega | (simp; done) | (dsimp only; omega)), sepAll_get (i := 0) rfl h⟩)) ?_
   refine Oa (ApO [4, 0] sl43 sl43 sz43) fun c88 => ?_
   refine Jo 0 ?_; rintro a89 k90 rfl
   refine Fb 40 0 fun hl91 => ?_
   have hn92 := la f1_5 ([(GBlock.mk ((Str.mk [98]) ++ rv18) (b1_28 ++ [(GStmt.mk 9 (Str.mk []) [] [])]))] : List GBlock)
   refine Oq (Vfa fo45_1 4) (Ost (SclF [4] sh43 [.string (bs (Str.mk [102])), .slice a89 ((f1_5 ++ [(GBlock.mk ((Str.mk [98]) ++ rv18) (b1_28 ++ [(GStmt.mk 9 (Str.mk []) [] [])]))]).length) k90]) (KS ?_))
   exact Kg (r4, (f1_5 ++ [(GBlock.mk ((Str.mk [98]) ++ rv18) (b1_28 ++ [(GStmt.mk 9 (Str.mk []) [] [])]))]), (left_27 - 1), a89, k90) [1, 0, 3, 4] ⟨(q3 hM9 (by simp only [flqlaw6_ValidateLimits_L0, h16, h41, hg19, hR76, cs4])), (by omega), iv1⟩
 intro h16
 have g93 := of_decide_eq_false h16
 refine Ke ?_
 have hR94 := q2 hM9 (.brk f1_5) (by simp only [flqlaw6_ValidateLimits_L0, h16, cs4])
 refine KS ?_
 refine Oq (VldA sh45 1) (Oa (AsV sl25 sz25 [.agg #[.string (bs (Str.mk [102])), vl a7 k8 f1_5]] [.string (bs (Str.mk [102])), vl a7 k8 f1_5]) fun c95 => ?_)
 refine Jo 0 ?_; rintro a96 k97 rfl
 refine Oq (Vbd st27 [.slice a96 1 k97]) ?_
 refine Jl [1] (Ent.freeze _ _) ?_
 refine Jl [1, 0] (Ent.cr1 (α := GFunc) (A := [S a7 k8 f1_5]) _ (GFunc.mk (Str.mk [102]) f1_5) _ (Nat.le_of_ble_eq_true rfl) (fun h => ⟨_, rfl, (by first | omega | (simp; done) | (dsimp only; omega)), sepAll_get (i := 0) rfl h⟩)) ?_
 refine Jl [0] (Ent.freeze _ _) ?_
 refine letv (validate_Check (GProgram.mk [(GFunc.mk (Str.mk [102]) f1_5)])) fun rv98 hg99 => ?_
 have hc100 := fn13 ((GProgram.mk [(GFunc.mk (Str.mk [102]) f1_5)])) a96 k97 kwLA kwLK (lim_small hn_0.1 (by assumption)) rv98 hg99
 refine Oc [0, 4, 5] ca13 hc100 ?_
 rintro - ⟨he101, he102, he103, he104, he105⟩
 unfold i64ok at he101 he102 he103 he104 he105
 refine Oq Vm (Oq Vx (Oq Vx (Oa (Al ze34 [vi 0, vi 0, vi 0, vi 0]) fun p106 => Ost (Scl [0] sh34 [vi rv98.1.Kind, vi rv98.1.Func, vi rv98.1.Block, vi rv98.1.Stmt]) (Oq Va (KS ?_)))))
 refine Oq Vm (Oq Veql (Oq Vm (Oq Vleq (Oq (Veb un4) (Oq Vm ?_)))))
 refine Js 66 ?_ ?_
 · intro h107
   refine Oq Vm (Oq Vleq (Oq Vm ?_))
   refine Js 69 ?_ ?_
   · intro h109
     have h111 := h107; rw [h109] at h111
     have g110 := of_decide_eq_true h109
     refine Osk (Osk (Oq Vpt (Oq Vpt (Oq Vm ?_))))
     have hc112 := fn12 kwLA kwLK flqlaw6_sane rfl
     refine Oc [5, 6] ca12 hc112 ?_
     rintro - -
     refine Oq Vpt (Oq Va (KS ?_))
     have hq := q4 hrr flqlaw6_sane (by unfold flqlaw6_ValidateLimits; simp only [h16, h107, h109, hR94, hg99, h111, cs4]); subst hq
     exact Kr () rfl (.tmp rfl .nil) [] trivial
   intro h109
   have h114 := h107; rw [h109] at h114
   have g113 := of_decide_eq_false h109
   refine Oq Vm (Oq Veql (Oq Vpf (Oq Vpt (Oq Vm ?_))))
   refine Js 74 ?_ ?_
   · intro h115
     have g116 := eq_of_beq h115
     have hc117 := fn12 kwLA kwLK flqlaw6_sane rfl
     refine Oc [5, 6] ca12 hc117 ?_
     rintro - -
     refine Oq Vpt (Oq Va (KS ?_))
     have hq := q4 hrr flqlaw6_sane (by unfold flqlaw6_ValidateLimits; simp only [h16, h107, h109, h115, hR94, hg99, h114, cs4]); subst hq
     exact Kr () rfl (.tmp rfl .nil) [] trivial
   intro h115
   have g118 := ne_of_beq_false h115
   refine Osk (Oq Vpf (Oq Va (KS ?_)))
   have hq := q4 hrr false (by unfold flqlaw6_ValidateLimits; simp only [h16, h107, h109, h115, hR94, hg99, h114, cs4]); subst hq
   exact Kr () rfl (.tmp rfl .nil) [] trivial
 intro h107
 refine Osk (Osk (Osk (Osk (Osk (Osk (Oq Vpf (Oq Vm (Osk (Oq Vpf ?_)))))))))
 refine Oq Va (KS ?_)
 have hq := q4 hrr false (by unfold flqlaw6_ValidateLimits; simp only [h16, h107, hR94, hg99, cs4]); subst hq
 exact Kr () rfl (.tmp rfl .nil) [] trivial
end Go.SL.G
