/- Part 3 of the walks: mirrors, plain laws and walks used by the last text of this claim. -/
import Derived.Test.YtipcbmgelahkfaaGreatDoorW2
import Derived.Test.YtipcbmgelahkfaaGreatDoorProg
set_option linter.unusedVariables false
set_option linter.unusedSimpArgs false
namespace Go.SL.G
open Go Go.SL Go.Proofs
set_option maxHeartbeats 20000000
set_option maxRecDepth 100000
theorem fn51 (s : Str) (hs_0 : s.b.length ≤ 140737488355328) (rr : Bool) (hrr : r4_IsName s = rr) : FT Tryz.prog 51 #[.string (bs s)] [] (fun g : Unit => True) (fun g => vb rr) (fun g => []) := by
 refine FTi Tryz.func51 fun w0 M0 F0 => ?_
 refine KS ?_
 refine Oq Va (KS ?_)
 refine Oq Vm (Oq (VlS un9 (l := s)) (Oq Veql (Oq Vm ?_)))
 refine Js 9 ?_ ?_
 ·intro h1
  have g2 := eq_of_beq h1
  refine Osk (Osk (Osk (Oq Vpt (Oq Vm (Osk (Osk (Osk (Osk (Oq Vpt ?_)))))))))
  refine Oq Vm (Osk (Osk (Osk (Oq Vpt (KS ?_)))))
  refine Kt (KS ?_)
  refine Oq Va (KS ?_)
  have hq := q4 hrr false (by simp only [r4_IsName, h1, cs4]); subst hq
  exact Kr () rfl (.tmp rfl .nil) [] trivial
 intro h1
 have g3 := ne_of_beq_false h1
 refine Oq Vm (Oq (VlS un9 (l := s)) (Oq Vgtr (Oq Vpf (Oq Vm ?_))))
 refine Js 14 ?_ ?_
 ·intro h4
  have g5 := dt h4
  refine Osk (Osk (Osk (Osk (Oq Vpt (Oq Vm (Osk (Osk (Osk (Oq Vpt ?_)))))))))
  refine KS ?_
  refine Kt (KS ?_)
  refine Oq Va (KS ?_)
  have hq := q4 hrr false (by simp only [r4_IsName, h1, h4, cs4]); subst hq
  exact Kr () rfl (.tmp rfl .nil) [] trivial
 intro h4
 have g6 := df h4
 refine Oq Vm (Oq (Vix un9 (l := s)) ?_)
 have hb7 := u8b (s.b.getD (0 : Int).toNat 0)
 refine letv (r4_letter ((s.b.getD (0 : Int).toNat 0).toNat : Int)) fun rv8 hg9 => ?_
 have hc10 := fn78 (((s.b.getD (0 : Int).toNat 0).toNat : Int)) pre rv8 hg9
 refine Oc [] ca78 hc10 ?_
 rintro - -
 refine Oq Vnot (Oq Vpf (Oq Vm ?_))
 refine Js 20 ?_ ?_
 ·intro h11
  have h13 := not_true h11
  refine Osk (Osk (Osk (Oq Vpt (KS ?_))))
  refine Kt (KS ?_)
  refine Oq Va (KS ?_)
  have hq := q4 hrr false (by simp only [r4_IsName, h1, h4, h11, h13, hg9, cs4]); subst hq
  exact Kr () rfl (.tmp rfl .nil) [] trivial
 intro h11
 have h16 := not_false h11
 refine Oq Vm (Oq (Vix un9 (l := s)) ?_)
 have hb18 := u8b (s.b.getD (0 : Int).toNat 0)
 refine Oq Veql (Oq Vpf (KS ?_))
 refine Kc ?_ ?_
 ·intro h19
  have g20 := eq_of_beq h19
  refine KS ?_
  refine Oq Va (KS ?_)
  have hq := q4 hrr false (by simp only [r4_IsName, h1, h4, h11, h16, h19, hg9, cs4]); subst hq
  exact Kr () rfl (.tmp rfl .nil) [] trivial
 intro h19
 have g21 := ne_of_beq_false h19
 refine KS ?_
 refine Oq Va (KS ?_)
 refine Kl (γ := Nat × Int) (fun (r22, i_23) => ⟨[(0, .string (bs s)), (3, vi i_23)], [], r4_IsName_L0 s r22 i_23 = r4_IsName_L0 s (((s.b.length : Int) - 0).toNat) 0 ∧ r22 = ((s.b.length : Int) - i_23).toNat ∧ (0 : Int) ≤ i_23 ∧ i_23 ≤ (s.b.length : Int) ∧ (-9223372036854775808 ≤ i_23 ∧ i_23 ≤ 9223372036854775807), r22⟩) (((s.b.length : Int) - 0).toNat, 0) [] ⟨rfl, rfl, aM1, aM1, aM1⟩ ?_
 rintro ⟨r22, i_23⟩ ⟨hM24, hr25, hi26, hi27, hk28⟩
 refine JJ_nx fun _ _ hL hA => ?_; dsimp only at hL hA; subst hL hA
 refine KS ?_
 refine Oq Vm (Oq Vm (Oq (VlS un9 (l := s)) (Oq Vlss (KS ?_))))
 refine Kc ?_ ?_
 ·intro h29
  have g30 := dt h29
  obtain ⟨r31, rfl⟩ := scc (n := r22) aM1
  refine KS ?_
  refine Oq Vm (Oq Vm (Oq (Vix un9 (l := s)) ?_))
  have hb32 := u8b (s.b.getD i_23.toNat 0)
  refine letv (r4_letter ((s.b.getD i_23.toNat 0).toNat : Int)) fun rv33 hg34 => ?_
  have hc35 := fn78 (((s.b.getD i_23.toNat 0).toNat : Int)) pre rv33 hg34
  refine Oc [] ca78 hc35 ?_
  rintro - -
  refine Oq Vnot (Oq Vm ?_)
  refine Js 36 ?_ ?_
  ·intro h36
   have h38 := not_true h36
   refine Oq Vm (Oq Vm (Oq (Vix un9 (l := s)) ?_))
   have hb40 := u8b (s.b.getD i_23.toNat 0)
   refine letv (r4_digit ((s.b.getD i_23.toNat 0).toNat : Int)) fun rv41 hg42 => ?_
   have hc43 := fn79 (((s.b.getD i_23.toNat 0).toNat : Int)) pre rv41 hg42
   refine Oc [] ca79 hc43 ?_
   rintro - -
   refine Oq Vnot (Oq Vpt (KS ?_))
   refine Kc ?_ ?_
   ·intro h44
    have h46 := not_true h44
    refine KS ?_
    refine Oq Va (KS ?_)
    have hR48 := q2 hM24 (.ret false) (by simp only [r4_IsName_L0, h29, h36, h38, h44, h46, hg34, hg42, cs4])
    have hq := q4 hrr false (by simp only [r4_IsName, h1, h4, h11, h16, h19, h29, h36, h38, h44, h46, hg9, hg34, hg42, hR48, cs4]); subst hq
    exact Kr () rfl (.tmp rfl .nil) [] trivial
   intro h44
   have h50 := not_false h44
   refine KS ?_
   refine Oq Vm (Oq Vadd (Oq Va (KS ?_)))
   exact Kg (r31, (i_23 + 1)) [] ⟨(q3 hM24 (by simp only [r4_IsName_L0, h29, h36, h38, h44, h50, hg34, hg42, cs4])), aM1, aM1, aM1, aM1⟩
  intro h36
  have h53 := not_false h36
  refine Osk (Osk (Osk (Osk (Osk (Oq Vpf (KS ?_))))))
  refine Kf (KS ?_)
  refine Oq Vm (Oq Vadd (Oq Va (KS ?_)))
  exact Kg (r31, (i_23 + 1)) [] ⟨(q3 hM24 (by simp only [r4_IsName_L0, h29, h36, h53, hg34, cs4])), aM1, aM1, aM1, aM1⟩
 intro h29
 have g55 := df h29
 obtain rfl : r22 = 0 := by omega
 refine Ke ?_
 have hR56 := q2 hM24 (.brk ()) (by simp only [r4_IsName_L0, h29, cs4])
 refine KS ?_
 have hc58 := fn80  r4_Keywords rfl
 refine Oc [] ca80 hc58 ?_
 rintro c57 -
 refine Jo 0 ?_; rintro a59 k60 rfl
 refine Fb 16 0 fun _ => ?_
 refine FoS 0 fun ho62 => ?_
 refine Oq Va (KS ?_)
 refine Oq Va (KS ?_)
 refine Kl (γ := Nat × Int) (fun (r63, i_64) => ⟨[(0, .string (bs s)), (4, vl a59 k60 r4_Keywords), (5, vi i_64)], [S a59 k60 r4_Keywords], r4_IsName_L1 s r63 i_64 = r4_IsName_L1 s (((r4_Keywords.length : Int) - 0).toNat) 0 ∧ r63 = ((r4_Keywords.length : Int) - i_64).toNat ∧ (0 : Int) ≤ i_64 ∧ i_64 ≤ (r4_Keywords.length : Int) ∧ (-9223372036854775808 ≤ i_64 ∧ i_64 ≤ 9223372036854775807), r63⟩) (((r4_Keywords.length : Int) - 0).toNat, 0) [0] ⟨rfl, rfl, aM1, aM1, aM1⟩ ?_
 rintro ⟨r63, i_64⟩ ⟨hM65, hr66, hi67, hi68, hk69⟩
 refine JJ_nx fun _ _ hL hA => ?_; dsimp only at hL hA; subst hL hA
 refine Fb 16 0 fun _ => ?_
 refine FoS 0 fun ho71 => ?_
 refine KS ?_
 refine Oq Vm (Oq Vm (Oq (Vlen sl35) (Oq Vlss (KS ?_))))
 refine Kc ?_ ?_
 ·intro h72
  have g73 := dt h72
  obtain ⟨r74, rfl⟩ := scc (n := r63) aM1
  refine KS ?_
  refine Oq Vm (Oq Vm (Oq (Vi sl35 0) ?_))
  have hb75 := okS (i := i_64.toNat) ho71 rng
  refine Oq (VldS sh9 0) (Oq Vm (Oq (VeqS (l := (r4_Keywords.getD i_64.toNat default)) (m := s)) (KS ?_)))
  refine Kc ?_ ?_
  ·intro h76
   have g77 := eq_of_beq h76
   refine KS ?_
   refine Oq Va (KS ?_)
   have hR78 := q2 hM65 (.ret false) (by simp only [r4_IsName_L1, h72, h76, cs4])
   have hq := q4 hrr false (by simp only [r4_IsName, h1, h4, h11, h16, h19, h29, h72, h76, hg9, hR56, hR78, cs4]); subst hq
   exact Kr () rfl (.tmp rfl .nil) [] trivial
  intro h76
  have g79 := ne_of_beq_false h76
  refine KS ?_
  refine Oq Vm (Oq Vadd (Oq Va (KS ?_)))
  exact Kg (r74, (i_64 + 1)) [0] ⟨(q3 hM65 (by simp only [r4_IsName_L1, h72, h76, cs4])), aM1, aM1, aM1, aM1⟩
 intro h72
 have g80 := df h72
 obtain rfl : r63 = 0 := by omega
 refine Ke ?_
 have hR81 := q2 hM65 (.brk ()) (by simp only [r4_IsName_L1, h72, cs4])
 refine KS ?_
 refine Oq Va (KS ?_)
 have hq := q4 hrr true (by simp only [r4_IsName, h1, h4, h11, h16, h19, h29, h72, hg9, hR56, hR81, cs4]); subst hq
 exact Kr () rfl (.tmp rfl .nil) [] trivial
theorem fn81 (l : List Str) (la0 : Option Addr) (lk0 : Nat) (a : Int) (b : Int) (ha_0 : i64ok a) (hb_0 : i64ok b) (rr : Bool) (hrr : r4_namesOK l a b = rr) : FT Tryz.prog 81 #[vl la0 lk0 l, vi a, vi b] [S la0 lk0 l] (fun g : Unit => True) (fun g => vb rr) (fun g => []) := by
 refine FTi Tryz.func81 fun w0 M0 F0 => ?_
 unfold i64ok at ha_0 hb_0
 refine Fb 16 0 fun _ => ?_
 refine FoS 0 fun ho2 => ?_
 refine KS ?_
 refine Oq Va (KS ?_)
 refine Oq Va (KS ?_)
 refine Kl (γ := Nat × Int) (fun (r3, i_4) => ⟨[(0, vl la0 lk0 l), (1, vi a), (2, vi b), (7, vi i_4)], [S la0 lk0 l], r4_namesOK_L0 l r3 i_4 = r4_namesOK_L0 l (((l.length : Int) - 0).toNat) 0 ∧ r3 = ((l.length : Int) - i_4).toNat ∧ (0 : Int) ≤ i_4 ∧ i_4 ≤ (l.length : Int) ∧ (-9223372036854775808 ≤ i_4 ∧ i_4 ≤ 9223372036854775807), r3⟩) (((l.length : Int) - 0).toNat, 0) [0] ⟨rfl, rfl, aM1, aM1, aM1⟩ ?_
 rintro ⟨r3, i_4⟩ ⟨hM5, hr6, hi7, hi8, hk9⟩
 refine JJ_nx fun _ _ hL hA => ?_; dsimp only at hL hA; subst hL hA
 refine Fb 16 0 fun _ => ?_
 refine FoS 0 fun ho11 => ?_
 refine KS ?_
 refine Oq Vm (Oq Vm (Oq (Vlen sl35) (Oq Vlss (KS ?_))))
 refine Kc ?_ ?_
 ·intro h12
  have g13 := dt h12
  obtain ⟨r14, rfl⟩ := scc (n := r3) aM1
  refine KS ?_
  refine Oq Vm (Oq Vm (Oq (Vi sl35 0) ?_))
  have hb15 := okS (i := i_4.toNat) ho11 rng
  refine Oq (VldS sh9 0) ?_
  refine letv (r4_IsName (l.getD i_4.toNat default)) fun rv16 hg17 => ?_
  have hc18 := fn51 ((l.getD i_4.toNat default)) pre rv16 hg17
  refine Oc [] ca51 hc18 ?_
  rintro - -
  refine Oq Vnot (KS ?_)
  refine Kc ?_ ?_
  ·intro h19
   have h21 := not_true h19
   refine KS ?_
   refine Oq Va (KS ?_)
   have hR23 := q2 hM5 (.ret false) (by simp only [r4_namesOK_L0, h12, h19, h21, hg17, cs4])
   have hq := q4 hrr false (by simp only [r4_namesOK, h12, h19, h21, hg17, hR23, cs4]); subst hq
   exact Kr () rfl (.tmp rfl .nil) [] trivial
  intro h19
  have h25 := not_false h19
  refine KS ?_
  refine Oq Vm (Oq Vadd (Oq Va (KS ?_)))
  exact Kg (r14, (i_4 + 1)) [0] ⟨(q3 hM5 (by simp only [r4_namesOK_L0, h12, h19, h25, hg17, cs4])), aM1, aM1, aM1, aM1⟩
 intro h12
 have g27 := df h12
 obtain rfl : r3 = 0 := by omega
 refine Ke ?_
 have hR28 := q2 hM5 (.brk ()) (by simp only [r4_namesOK_L0, h12, cs4])
 refine KS ?_
 refine Oq Vm (Oq (Vlen sl35) (Oq Vm (Oq Vgeq (Oq Vm ?_))))
 refine Js 24 ?_ ?_
 ·intro h29
  have g30 := dt h29
  refine Oq Vm (Oq (Vlen sl35) (Oq Vm (Oq Vleq (Oq Vpt (Oq Va (KS ?_))))))
  have hq := q4 hrr (decide ((l.length : Int) ≤ b)) (by simp only [r4_namesOK, h12, h29, hR28, cs4]); subst hq
  exact Kr () rfl (.tmp rfl .nil) [] trivial
 intro h29
 have g31 := df h29
 refine Osk (Osk (Osk (Osk (Oq Vpf (Oq Va (KS ?_))))))
 have hq := q4 hrr false (by simp only [r4_namesOK, h12, h29, hR28, cs4]); subst hq
 exact Kr () rfl (.tmp rfl .nil) [] trivial
theorem fn52 (s : GStmt) (sa2 : Option Addr) (sk2 : Nat) (sa3 : Option Addr) (sk3 : Nat) (hs_0 : i64ok s.Op) (hs_1 : s.Def.b.length ≤ 140737488355328) (rr : Bool) (hrr : r4_stmtOK s = rr) : FT Tryz.prog 52 #[.agg #[vi s.Op, .string (bs s.Def), vl sa2 sk2 s.Uses, vl sa3 sk3 s.Targets]] [S sa2 sk2 s.Uses, S sa3 sk3 s.Targets] (fun g : Unit => True) (fun g => vb rr) (fun g => []) := by
 refine FTi Tryz.func52 fun w0 M0 F0 => ?_
 unfold i64ok at hs_0
 refine Fb 16 0 fun _ => ?_
 refine FoS 0 fun ho2 => ?_
 refine Fb 16 1 fun _ => ?_
 refine FoS 1 fun ho4 => ?_
 refine KS ?_
 refine Oa (Ab [vi s.Op, .string (bs s.Def), vl sa2 sk2 s.Uses, vl sa3 sk3 s.Targets]) fun p5 => Oq Va (KS ?_)
 refine Oq (Vfa fo37_1 0) (Oq (VldF sh9 0) ?_)
 refine letv (r4_IsName s.Def) fun rv6 hg7 => ?_
 have hc8 := fn51 s.Def pre rv6 hg7
 refine Oc [] ca51 hc8 ?_
 rintro - -
 refine Oq Va (KS ?_)
 refine Kq [0, 1, 3, 0, 8, 24, 7, 127] fmix ?_
 refine Qv [0] (Vfa fo37_2 0) (Qv [0] (VldF sh35 0) (Qv [] (Vlen sl35) (Qv [0] (Vfa fo37_3 0) (Qv [0] (VldF sh35 0) (Qv [] (Vlen sl35) (Qv [] Va (Qv [] Va ?_)))))))
 refine Qn ⟨by kernel_rfl, ?_⟩
 refine KS ?_
 refine Oq (Vfa fo37_2 0) (Oq (VldF sh35 0) ?_)
 refine letv (r4_namesOK s.Uses 0 4) fun rv9 hg10 => ?_
 have hc11 := fn81 s.Uses sa2 sk2 0 4 pre pre rv9 hg10
 refine Oc [1] ca81 hc11 ?_
 rintro - -
 refine Oq Vnot (Oq Vm ?_)
 refine Js 19 ?_ ?_
 ·intro h12
  have h14 := not_true h12
  refine Osk (Osk (Osk (Osk (Oq Vpt (KS ?_)))))
  refine Kt (KS ?_)
  refine Oq Va (KS ?_)
  have hq := q4 hrr false (by simp only [r4_stmtOK, h12, h14, hg7, hg10, cs4]); subst hq
  exact Kr () rfl (.tmp rfl .nil) [] trivial
 intro h12
 have h17 := not_false h12
 refine Oq (Vfa fo37_3 0) (Oq (VldF sh35 0) ?_)
 refine letv (r4_namesOK s.Targets 0 2) fun rv19 hg20 => ?_
 have hc21 := fn81 s.Targets sa3 sk3 0 2 pre pre rv19 hg20
 refine Oc [2] ca81 hc21 ?_
 rintro - -
 refine Oq Vnot (Oq Vpf (KS ?_))
 refine Kc ?_ ?_
 ·intro h22
  have h24 := not_true h22
  refine KS ?_
  refine Oq Va (KS ?_)
  have hq := q4 hrr false (by simp only [r4_stmtOK, h12, h17, h22, h24, hg7, hg10, hg20, cs4]); subst hq
  exact Kr () rfl (.tmp rfl .nil) [] trivial
 intro h22
 have h27 := not_false h22
 refine KS ?_
 refine Oq (Vfa fo37_0 0) (Oq (VldF sh3 0) (KS ?_))
 refine Oq Veql (Oq Va (KS ?_))
 refine Kc ?_ ?_
 ·intro h29
  have g30 := eq_of_beq h29
  refine KS ?_
  refine Oq Vm (Oq Vm ?_)
  refine Js 30 ?_ ?_
  ·intro h31
   refine Oq Vm (Oq Veql (Oq Vpt (Oq Va (KS ?_))))
   have hq := q4 hrr ((s.Targets.length : Int) == 0) (by simp only [r4_stmtOK, h12, h17, h22, h27, h29, h31, hg7, hg10, hg20, cs4]); subst hq
   exact Kr () rfl (.tmp rfl .nil) [] trivial
  intro h31
  refine Osk (Osk (Oq Vpf (Oq Va (KS ?_))))
  have hq := q4 hrr false (by simp only [r4_stmtOK, h12, h17, h22, h27, h29, h31, hg7, hg10, hg20, cs4]); subst hq
  exact Kr () rfl (.tmp rfl .nil) [] trivial
 intro h29
 have g34 := ne_of_beq_false h29
 refine KS ?_
 refine Oq Veql (Oq Va (KS ?_))
 refine Kc ?_ ?_
 ·intro h35
  have g36 := eq_of_beq h35
  refine KS ?_
  refine Oq (Vfa fo37_1 0) (Oq (VldF sh9 0) (Oq (VeqS (l := s.Def) (m := (Str.mk []))) (Oq Vm ?_)))
  refine Js 39 ?_ ?_
  ·intro h37
   have g38 := eq_of_beq h37
   refine Oq Vm (Oq Vgeq (Oq Vpt (Oq Vm ?_)))
   refine Js 43 ?_ ?_
   ·intro h39
    have g40 := dt h39
    refine Oq Vm (Oq Veql (Oq Vpt (Oq Va (KS ?_))))
    have hq := q4 hrr ((s.Targets.length : Int) == 0) (by simp only [r4_stmtOK, h12, h17, h22, h27, h29, h35, h37, h39, hg7, hg10, hg20, cs4]); subst hq
    exact Kr () rfl (.tmp rfl .nil) [] trivial
   intro h39
   have g41 := df h39
   refine Osk (Osk (Oq Vpf (Oq Va (KS ?_))))
   have hq := q4 hrr false (by simp only [r4_stmtOK, h12, h17, h22, h27, h29, h35, h37, h39, hg7, hg10, hg20, cs4]); subst hq
   exact Kr () rfl (.tmp rfl .nil) [] trivial
  intro h37
  have g42 := ne_of_beq_false h37
  refine Osk (Osk (Oq Vpf (Oq Vm (Osk (Osk (Oq Vpf (Oq Va (KS ?_))))))))
  have hq := q4 hrr false (by simp only [r4_stmtOK, h12, h17, h22, h27, h29, h35, h37, hg7, hg10, hg20, cs4]); subst hq
  exact Kr () rfl (.tmp rfl .nil) [] trivial
 intro h35
 have g43 := ne_of_beq_false h35
 refine KS ?_
 refine Oq Veql (Oq Va (KS ?_))
 refine Kc ?_ ?_
 ·intro h44
  have g45 := eq_of_beq h44
  refine KS ?_
  refine Oq (Vfa fo37_1 0) (Oq (VldF sh9 0) (Oq (VeqS (l := s.Def) (m := (Str.mk []))) (Oq Vm ?_)))
  refine Js 52 ?_ ?_
  ·intro h46
   have g47 := eq_of_beq h46
   refine Oq Vm (Oq Veql (Oq Vpt (Oq Vm ?_)))
   refine Js 56 ?_ ?_
   ·intro h48
    have g49 := eq_of_beq h48
    refine Oq Vm (Oq Veql (Oq Vpt (Oq Va (KS ?_))))
    have hq := q4 hrr ((s.Targets.length : Int) == 0) (by simp only [r4_stmtOK, h12, h17, h22, h27, h29, h35, h44, h46, h48, hg7, hg10, hg20, cs4]); subst hq
    exact Kr () rfl (.tmp rfl .nil) [] trivial
   intro h48
   have g50 := ne_of_beq_false h48
   refine Osk (Osk (Oq Vpf (Oq Va (KS ?_))))
   have hq := q4 hrr false (by simp only [r4_stmtOK, h12, h17, h22, h27, h29, h35, h44, h46, h48, hg7, hg10, hg20, cs4]); subst hq
   exact Kr () rfl (.tmp rfl .nil) [] trivial
  intro h46
  have g51 := ne_of_beq_false h46
  refine Osk (Osk (Oq Vpf (Oq Vm (Osk (Osk (Oq Vpf (Oq Va (KS ?_))))))))
  have hq := q4 hrr false (by simp only [r4_stmtOK, h12, h17, h22, h27, h29, h35, h44, h46, hg7, hg10, hg20, cs4]); subst hq
  exact Kr () rfl (.tmp rfl .nil) [] trivial
 intro h44
 have g52 := ne_of_beq_false h44
 refine KS ?_
 refine Oq Veql (Oq Va (KS ?_))
 refine Kc ?_ ?_
 ·intro h53
  have g54 := eq_of_beq h53
  refine KS ?_
  refine Kc ?_ ?_
  ·intro h55
   have g56 := eq_of_beq h55
   refine KS ?_
   refine Oq (Vfa fo37_1 0) (Oq (VldF sh9 0) (Oq (VeqS (l := s.Def) (m := (Str.mk []))) (Oq Vm ?_)))
   refine Js 66 ?_ ?_
   ·intro h57
    have g58 := eq_of_beq h57
    refine Oq Vm (Oq Veql (Oq Vpt (Oq Vm ?_)))
    refine Js 70 ?_ ?_
    ·intro h59
     have g60 := eq_of_beq h59
     refine Oq Vm (Oq Veql (Oq Vpt (Oq Va (KS ?_))))
     have hq := q4 hrr ((s.Targets.length : Int) == 1) (by simp only [r4_stmtOK, h12, h17, h22, h27, h29, h35, h44, h53, h55, h57, h59, hg7, hg10, hg20, cs4]); subst hq
     exact Kr () rfl (.tmp rfl .nil) [] trivial
    intro h59
    have g61 := ne_of_beq_false h59
    refine Osk (Osk (Oq Vpf (Oq Va (KS ?_))))
    have hq := q4 hrr false (by simp only [r4_stmtOK, h12, h17, h22, h27, h29, h35, h44, h53, h55, h57, h59, hg7, hg10, hg20, cs4]); subst hq
    exact Kr () rfl (.tmp rfl .nil) [] trivial
   intro h57
   have g62 := ne_of_beq_false h57
   refine Osk (Osk (Oq Vpf (Oq Vm (Osk (Osk (Oq Vpf (Oq Va (KS ?_))))))))
   have hq := q4 hrr false (by simp only [r4_stmtOK, h12, h17, h22, h27, h29, h35, h44, h53, h55, h57, hg7, hg10, hg20, cs4]); subst hq
   exact Kr () rfl (.tmp rfl .nil) [] trivial
  intro h55
  exact absurd h55 (by first | (simp [h53]; done) | (simp only [bne, h53]; decide) | (simp only [bne, h53, Bool.not_true, Bool.not_false]; decide) | (exfalso; omega) | (intro hq; simp only [bne, hq, Bool.not_false, Bool.not_true, reduceCtorEq] at h53))
 intro h53
 have g63 := ne_of_beq_false h53
 refine KS ?_
 refine Oq Veql (Oq Va (KS ?_))
 refine Kc ?_ ?_
 ·intro h64
  have g65 := eq_of_beq h64
  refine KS ?_
  refine Oq (Vfa fo37_1 0) (Oq (VldF sh9 0) (Oq (VeqS (l := s.Def) (m := (Str.mk []))) (Oq Vm ?_)))
  refine Js 66 ?_ ?_
  ·intro h66
   have g67 := eq_of_beq h66
   refine Oq Vm (Oq Veql (Oq Vpt (Oq Vm ?_)))
   refine Js 70 ?_ ?_
   ·intro h68
    have g69 := eq_of_beq h68
    refine Oq Vm (Oq Veql (Oq Vpt (Oq Va (KS ?_))))
    have hq := q4 hrr ((s.Targets.length : Int) == 1) (by simp only [r4_stmtOK, h12, h17, h22, h27, h29, h35, h44, h53, h64, h66, h68, hg7, hg10, hg20, cs4]); subst hq
    exact Kr () rfl (.tmp rfl .nil) [] trivial
   intro h68
   have g70 := ne_of_beq_false h68
   refine Osk (Osk (Oq Vpf (Oq Va (KS ?_))))
   have hq := q4 hrr false (by simp only [r4_stmtOK, h12, h17, h22, h27, h29, h35, h44, h53, h64, h66, h68, hg7, hg10, hg20, cs4]); subst hq
   exact Kr () rfl (.tmp rfl .nil) [] trivial
  intro h66
  have g71 := ne_of_beq_false h66
  refine Osk (Osk (Oq Vpf (Oq Vm (Osk (Osk (Oq Vpf (Oq Va (KS ?_))))))))
  have hq := q4 hrr false (by simp only [r4_stmtOK, h12, h17, h22, h27, h29, h35, h44, h53, h64, h66, hg7, hg10, hg20, cs4]); subst hq
  exact Kr () rfl (.tmp rfl .nil) [] trivial
 intro h64
 have g72 := ne_of_beq_false h64
 refine KS ?_
 refine Oq Veql (Oq Va (KS ?_))
 refine Kc ?_ ?_
 ·intro h73
  have g74 := eq_of_beq h73
  refine KS ?_
  refine Kc ?_ ?_
  ·intro h75
   have g76 := eq_of_beq h75
   refine KS ?_
   refine Oq Vm (Oq Vm ?_)
   refine Js 78 ?_ ?_
   ·intro h77
    refine Oq Vm (Oq Veql (Oq Vpt (Oq Vm ?_)))
    refine Js 82 ?_ ?_
    ·intro h79
     have g80 := eq_of_beq h79
     refine Oq Vm (Oq Veql (Oq Vpt (Oq Va (KS ?_))))
     have hq := q4 hrr ((s.Targets.length : Int) == 0) (by simp only [r4_stmtOK, h12, h17, h22, h27, h29, h35, h44, h53, h64, h73, h75, h77, h79, hg7, hg10, hg20, cs4]); subst hq
     exact Kr () rfl (.tmp rfl .nil) [] trivial
    intro h79
    have g81 := ne_of_beq_false h79
    refine Osk (Osk (Oq Vpf (Oq Va (KS ?_))))
    have hq := q4 hrr false (by simp only [r4_stmtOK, h12, h17, h22, h27, h29, h35, h44, h53, h64, h73, h75, h77, h79, hg7, hg10, hg20, cs4]); subst hq
    exact Kr () rfl (.tmp rfl .nil) [] trivial
   intro h77
   refine Osk (Osk (Oq Vpf (Oq Vm (Osk (Osk (Oq Vpf (Oq Va (KS ?_))))))))
   have hq := q4 hrr false (by simp only [r4_stmtOK, h12, h17, h22, h27, h29, h35, h44, h53, h64, h73, h75, h77, hg7, hg10, hg20, cs4]); subst hq
   exact Kr () rfl (.tmp rfl .nil) [] trivial
  intro h75
  exact absurd h75 (by first | (simp [h73]; done) | (simp only [bne, h73]; decide) | (simp only [bne, h73, Bool.not_true, Bool.not_false]; decide) | (exfalso; omega) | (intro hq; simp only [bne, hq, Bool.not_false, Bool.not_true, reduceCtorEq] at h73))
 intro h73
 have g83 := ne_of_beq_false h73
 refine KS ?_
 refine Oq Veql (Oq Va (KS ?_))
 refine Kc ?_ ?_
 ·intro h84
  have g85 := eq_of_beq h84
  refine KS ?_
  refine Oq Vm (Oq Vm ?_)
  refine Js 78 ?_ ?_
  ·intro h86
   refine Oq Vm (Oq Veql (Oq Vpt (Oq Vm ?_)))
   refine Js 82 ?_ ?_
   ·intro h88
    have g89 := eq_of_beq h88
    refine Oq Vm (Oq Veql (Oq Vpt (Oq Va (KS ?_))))
    have hq := q4 hrr ((s.Targets.length : Int) == 0) (by simp only [r4_stmtOK, h12, h17, h22, h27, h29, h35, h44, h53, h64, h73, h84, h86, h88, hg7, hg10, hg20, cs4]); subst hq
    exact Kr () rfl (.tmp rfl .nil) [] trivial
   intro h88
   have g90 := ne_of_beq_false h88
   refine Osk (Osk (Oq Vpf (Oq Va (KS ?_))))
   have hq := q4 hrr false (by simp only [r4_stmtOK, h12, h17, h22, h27, h29, h35, h44, h53, h64, h73, h84, h86, h88, hg7, hg10, hg20, cs4]); subst hq
   exact Kr () rfl (.tmp rfl .nil) [] trivial
  intro h86
  refine Osk (Osk (Oq Vpf (Oq Vm (Osk (Osk (Oq Vpf (Oq Va (KS ?_))))))))
  have hq := q4 hrr false (by simp only [r4_stmtOK, h12, h17, h22, h27, h29, h35, h44, h53, h64, h73, h84, h86, hg7, hg10, hg20, cs4]); subst hq
  exact Kr () rfl (.tmp rfl .nil) [] trivial
 intro h84
 have g92 := ne_of_beq_false h84
 refine KS ?_
 refine Oq Veql (Oq Va (KS ?_))
 refine Kc ?_ ?_
 ·intro h93
  have g94 := eq_of_beq h93
  refine KS ?_
  refine Oq (Vfa fo37_1 0) (Oq (VldF sh9 0) (Oq (VeqS (l := s.Def) (m := (Str.mk []))) (Oq Vm ?_)))
  refine Js 91 ?_ ?_
  ·intro h95
   have g96 := eq_of_beq h95
   refine Oq Vm (Oq Veql (Oq Vpt (Oq Vm ?_)))
   refine Js 95 ?_ ?_
   ·intro h97
    have g98 := eq_of_beq h97
    refine Oq Vm (Oq Veql (Oq Vpt (Oq Va (KS ?_))))
    have hq := q4 hrr ((s.Targets.length : Int) == 2) (by simp only [r4_stmtOK, h12, h17, h22, h27, h29, h35, h44, h53, h64, h73, h84, h93, h95, h97, hg7, hg10, hg20, cs4]); subst hq
    exact Kr () rfl (.tmp rfl .nil) [] trivial
   intro h97
   have g99 := ne_of_beq_false h97
   refine Osk (Osk (Oq Vpf (Oq Va (KS ?_))))
   have hq := q4 hrr false (by simp only [r4_stmtOK, h12, h17, h22, h27, h29, h35, h44, h53, h64, h73, h84, h93, h95, h97, hg7, hg10, hg20, cs4]); subst hq
   exact Kr () rfl (.tmp rfl .nil) [] trivial
  intro h95
  have g100 := ne_of_beq_false h95
  refine Osk (Osk (Oq Vpf (Oq Vm (Osk (Osk (Oq Vpf (Oq Va (KS ?_))))))))
  have hq := q4 hrr false (by simp only [r4_stmtOK, h12, h17, h22, h27, h29, h35, h44, h53, h64, h73, h84, h93, h95, hg7, hg10, hg20, cs4]); subst hq
  exact Kr () rfl (.tmp rfl .nil) [] trivial
 intro h93
 have g101 := ne_of_beq_false h93
 refine KS ?_
 refine Oq Veql (Oq Va (KS ?_))
 refine Kc ?_ ?_
 ·intro h102
  have g103 := eq_of_beq h102
  refine KS ?_
  refine Oq (Vfa fo37_1 0) (Oq (VldF sh9 0) (Oq (VeqS (l := s.Def) (m := (Str.mk []))) (Oq Vm ?_)))
  refine Js 104 ?_ ?_
  ·intro h104
   have g105 := eq_of_beq h104
   refine Oq Vm (Oq Veql (Oq Vpt (Oq Vm ?_)))
   refine Js 108 ?_ ?_
   ·intro h106
    have g107 := eq_of_beq h106
    refine Oq Vm (Oq Veql (Oq Vpt (Oq Va (KS ?_))))
    have hq := q4 hrr ((s.Targets.length : Int) == 0) (by simp only [r4_stmtOK, h12, h17, h22, h27, h29, h35, h44, h53, h64, h73, h84, h93, h102, h104, h106, hg7, hg10, hg20, cs4]); subst hq
    exact Kr () rfl (.tmp rfl .nil) [] trivial
   intro h106
   have g108 := ne_of_beq_false h106
   refine Osk (Osk (Oq Vpf (Oq Va (KS ?_))))
   have hq := q4 hrr false (by simp only [r4_stmtOK, h12, h17, h22, h27, h29, h35, h44, h53, h64, h73, h84, h93, h102, h104, h106, hg7, hg10, hg20, cs4]); subst hq
   exact Kr () rfl (.tmp rfl .nil) [] trivial
  intro h104
  have g109 := ne_of_beq_false h104
  refine Osk (Osk (Oq Vpf (Oq Vm (Osk (Osk (Oq Vpf (Oq Va (KS ?_))))))))
  have hq := q4 hrr false (by simp only [r4_stmtOK, h12, h17, h22, h27, h29, h35, h44, h53, h64, h73, h84, h93, h102, h104, hg7, hg10, hg20, cs4]); subst hq
  exact Kr () rfl (.tmp rfl .nil) [] trivial
 intro h102
 have g110 := ne_of_beq_false h102
 refine KS ?_
 refine Oq Va (KS ?_)
 have hq := q4 hrr false (by simp only [r4_stmtOK, h12, h17, h22, h27, h29, h35, h44, h53, h64, h73, h84, h93, h102, hg7, hg10, hg20, cs4]); subst hq
 exact Kr () rfl (.tmp rfl .nil) [] trivial
theorem fn23 (p : GProgram) (pa0 : Option Addr) (pk0 : Nat) (rr : Bool) (hrr : r4_Valid p = rr) : FT Tryz.prog 23 #[.agg #[vl pa0 pk0 p.Funcs]] [S pa0 pk0 p.Funcs] (fun g : Unit => True) (fun g => vb rr) (fun g => []) := by
 refine FTi Tryz.func23 fun w0 M0 F0 => Fb 40 0 fun _ => ?_
 refine KS ?_
 refine Oa (Ab [vl pa0 pk0 p.Funcs]) fun p2 => Oq Va (KS ?_)
 refine Oq (Vfa fo25_0 0) (Oq (VldF sh23 0) (Oq (Vlen sl23) (Oq Vlss (Oq Vm ?_))))
 refine Js 12 ?_ ?_
 ·intro h3
  have g4 := dt h3
  refine Osk (Osk (Osk (Osk (Oq Vpt (KS ?_)))))
  refine Kt (KS ?_)
  refine Oq Va (KS ?_)
  have hq := q4 hrr false (by simp only [r4_Valid, h3, cs4]); subst hq
  exact Kr () rfl (.tmp rfl .nil) [] trivial
 intro h3
 have g5 := df h3
 refine Oq (Vfa fo25_0 0) (Oq (VldF sh23 0) (Oq (Vlen sl23) (Oq Vgtr (Oq Vpf (KS ?_)))))
 refine Kc ?_ ?_
 ·intro h6
  have g7 := dt h6
  refine KS ?_
  refine Oq Va (KS ?_)
  have hq := q4 hrr false (by simp only [r4_Valid, h3, h6, cs4]); subst hq
  exact Kr () rfl (.tmp rfl .nil) [] trivial
 intro h6
 have g8 := df h6
 refine KS ?_
 refine Oq Va (KS ?_)
 refine Kl (γ := Nat × Int) (fun (r9, i_10) => ⟨[(1, p2), (3, vi i_10)], [pv p2 [vl pa0 pk0 p.Funcs], S pa0 pk0 p.Funcs], r4_Valid_L0 p r9 i_10 = r4_Valid_L0 p (((p.Funcs.length : Int) - 0).toNat) 0 ∧ r9 = ((p.Funcs.length : Int) - i_10).toNat ∧ (0 : Int) ≤ i_10 ∧ i_10 ≤ (p.Funcs.length : Int) ∧ (-9223372036854775808 ≤ i_10 ∧ i_10 ≤ 9223372036854775807), r9⟩) (((p.Funcs.length : Int) - 0).toNat, 0) [0, 1] ⟨rfl, rfl, aM1, aM1, aM1⟩ ?_
 rintro ⟨r9, i_10⟩ ⟨hM11, hr12, hi13, hi14, hk15⟩
 refine JJ_nx fun _ _ hL hA => ?_; dsimp only at hL hA; subst hL hA
 refine Fb 40 1 fun _ => KS ?_
 refine Oq Vm (Oq (Vfa fo25_0 0) (Oq (VldF sh23 0) (Oq (Vlen sl23) (Oq Vlss (KS ?_)))))
 refine Kc ?_ ?_
 ·intro h17
  have g18 := dt h17
  obtain ⟨r19, rfl⟩ := scc (n := r9) aM1
  refine KS ?_
  refine Oq (Vfa fo25_0 0) (Oq (VldF sh23 0) (Oq Vm (Oq (Vi sl23 1) ?_)))
  refine JJ_peek_GFunc i_10.toNat 1 rfl rng fun a20 k21 hb22 => ?_
  refine Fb 40 1 fun _ => ?_
  refine Oq (VldA sh31 0) (Oa (Al ze31 [.string (bs (Str.mk [])), .slice none 0 0]) fun p24 => Ost (Scl [0] sh31 [.string (bs ((p.Funcs.getD i_10.toNat default).Name)), vl a20 k21 ((p.Funcs.getD i_10.toNat default).Blocks)]) (KS ?_))
  refine Oq (Vfa fo31_0 0) (Oq (VldF sh9 0) ?_)
  refine letv (r4_IsName ((p.Funcs.getD i_10.toNat default).Name)) fun rv25 hg26 => ?_
  have hc27 := fn51 ((p.Funcs.getD i_10.toNat default).Name) pre rv25 hg26
  refine Oc [] ca51 hc27 ?_
  rintro - -
  refine Oq Vnot (Oq Vm ?_)
  refine Js 34 ?_ ?_
  ·intro h28
   have h30 := not_true h28
   refine Osk (Osk (Osk (Osk (Oq Vpt (Oq Vm (Osk (Osk (Osk (Osk ?_)))))))))
   refine Oq Vpt (KS ?_)
   refine Kt (KS ?_)
   refine Oq Va (KS ?_)
   have hR32 := q2 hM11 (.ret false) (by simp only [r4_Valid_L0, h17, h28, h30, hg26, cs4])
   have hq := q4 hrr false (by simp only [r4_Valid, h3, h6, h17, h28, h30, hg26, hR32, cs4]); subst hq
   exact Kr () rfl (.tmp rfl .nil) [] trivial
  intro h28
  have h34 := not_false h28
  refine Oq (Vfa fo31_1 0) (Oq (VldF sh29 0) (Oq (Vlen sl29) (Oq Vlss (Oq Vpf (Oq Vm ?_)))))
  refine Js 40 ?_ ?_
  ·intro h36
   have g37 := dt h36
   refine Osk (Osk (Osk (Osk (Oq Vpt (KS ?_)))))
   refine Kt (KS ?_)
   refine Oq Va (KS ?_)
   have hR38 := q2 hM11 (.ret false) (by simp only [r4_Valid_L0, h17, h28, h34, h36, hg26, cs4])
   have hq := q4 hrr false (by simp only [r4_Valid, h3, h6, h17, h28, h34, h36, hg26, hR38, cs4]); subst hq
   exact Kr () rfl (.tmp rfl .nil) [] trivial
  intro h36
  have g39 := df h36
  refine Oq (Vfa fo31_1 0) (Oq (VldF sh29 0) (Oq (Vlen sl29) (Oq Vgtr (Oq Vpf (KS ?_)))))
  refine Kc ?_ ?_
  ·intro h40
   have g41 := dt h40
   refine KS ?_
   refine Oq Va (KS ?_)
   have hR42 := q2 hM11 (.ret false) (by simp only [r4_Valid_L0, h17, h28, h34, h36, h40, hg26, cs4])
   have hq := q4 hrr false (by simp only [r4_Valid, h3, h6, h17, h28, h34, h36, h40, hg26, hR42, cs4]); subst hq
   exact Kr () rfl (.tmp rfl .nil) [] trivial
  intro h40
  have g43 := df h40
  refine KS ?_
  refine Oq Va (KS ?_)
  refine Kl (γ := Nat × Int) (fun (r44, k_45) => ⟨[(1, p2), (3, vi i_10), (4, p24), (5, vi k_45)], [Cl p24 [.string (bs ((p.Funcs.getD i_10.toNat default).Name)), vl a20 k21 ((p.Funcs.getD i_10.toNat default).Blocks)], S a20 k21 ((p.Funcs.getD i_10.toNat default).Blocks), pv p2 [vl pa0 pk0 p.Funcs], S pa0 pk0 p.Funcs], r4_Valid_L1 ((p.Funcs.getD i_10.toNat default).Blocks) r44 k_45 = r4_Valid_L1 ((p.Funcs.getD i_10.toNat default).Blocks) ((((((p.Funcs.getD i_10.toNat default).Blocks).length : Int) : Int) - 0).toNat) 0 ∧ r44 = (((((p.Funcs.getD i_10.toNat default).Blocks).length : Int) : Int) - k_45).toNat ∧ (0 : Int) ≤ k_45 ∧ (k_45 ≤ (((p.Funcs.getD i_10.toNat default).Blocks).length : Int) ∨ k_45 = 0) ∧ (-9223372036854775808 ≤ k_45 ∧ k_45 ≤ 9223372036854775807), r44⟩) ((((((p.Funcs.getD i_10.toNat default).Blocks).length : Int) : Int) - 0).toNat, 0) [0, 1, 2, 3] ⟨rfl, rfl, aM1, (.inr rfl), aM1⟩ ?_
  rintro ⟨r44, k_45⟩ ⟨hM46, hr47, hi48, hi49, hk50⟩
  refine JJ_nx fun _ _ hL hA => ?_; dsimp only at hL hA; subst hL hA
  refine Fb 40 1 fun _ => Fb 40 3 fun _ => KS ?_
  refine Oq Vm (Oq (Vfa fo31_1 0) (Oq (VldF sh29 0) (Oq (Vlen sl29) (Oq Vlss (KS ?_)))))
  refine Kc ?_ ?_
  ·intro h53
   have g54 := dt h53
   obtain ⟨r55, rfl⟩ := scc (n := r44) aM1
   refine KS ?_
   refine Oq (Vfa fo31_1 0) (Oq (VldF sh29 0) (Oq Vm (Oq (Vi sl29 1) ?_)))
   refine JJ_peek_GBlock k_45.toNat 1 rfl rng fun a56 k57 hb58 => ?_
   refine Fb 72 1 fun _ => ?_
   refine Oq (VldA sh34 0) (Oa (Al ze34 [.string (bs (Str.mk [])), .slice none 0 0]) fun p60 => Ost (Scl [0] sh34 [.string (bs ((((p.Funcs.getD i_10.toNat default).Blocks).getD k_45.toNat default).Name)), .slice a56 (((((p.Funcs.getD i_10.toNat default).Blocks).getD k_45.toNat default).Stmts).length) k57]) (KS ?_))
   refine Oq (Vfa fo34_0 0) (Oq (VldF sh9 0) ?_)
   refine letv (r4_IsName ((((p.Funcs.getD i_10.toNat default).Blocks).getD k_45.toNat default).Name)) fun rv61 hg62 => ?_
   have hc63 := fn51 ((((p.Funcs.getD i_10.toNat default).Blocks).getD k_45.toNat default).Name) pre rv61 hg62
   refine Oc [] ca51 hc63 ?_
   rintro - -
   refine Oq Vnot (Oq Vm ?_)
   refine Js 62 ?_ ?_
   ·intro h64
    have h66 := not_true h64
    refine Osk (Osk (Osk (Osk (Oq Vpt (Oq Vm (Osk (Osk (Osk (Osk ?_)))))))))
    refine Oq Vpt (KS ?_)
    refine Kt (KS ?_)
    refine Oq Va (KS ?_)
    have hR68 := q2 hM46 (.ret false) (by simp only [r4_Valid_L1, h53, h64, h66, hg62, cs4])
    have hR69 := q2 hM11 (.ret false) (by simp only [r4_Valid_L0, h17, h28, h34, h36, h40, h53, h64, h66, hg26, hg62, hR68, cs4])
    have hq := q4 hrr false (by simp only [r4_Valid, h3, h6, h17, h28, h34, h36, h40, h53, h64, h66, hg26, hg62, hR68, hR69, cs4]); subst hq
    exact Kr () rfl (.tmp rfl .nil) [] trivial
   intro h64
   have h71 := not_false h64
   refine Oq (Vfa fo34_1 0) (Oq (VldF sh32 0) (Oq (Vlen sl32) (Oq Vlss (Oq Vpf (Oq Vm ?_)))))
   refine Js 68 ?_ ?_
   ·intro h73
    have g74 := dt h73
    refine Osk (Osk (Osk (Osk (Oq Vpt (KS ?_)))))
    refine Kt (KS ?_)
    refine Oq Va (KS ?_)
    have hR75 := q2 hM46 (.ret false) (by simp only [r4_Valid_L1, h53, h64, h71, h73, hg62, cs4])
    have hR76 := q2 hM11 (.ret false) (by simp only [r4_Valid_L0, h17, h28, h34, h36, h40, h53, h64, h71, h73, hg26, hg62, hR75, cs4])
    have hq := q4 hrr false (by simp only [r4_Valid, h3, h6, h17, h28, h34, h36, h40, h53, h64, h71, h73, hg26, hg62, hR75, hR76, cs4]); subst hq
    exact Kr () rfl (.tmp rfl .nil) [] trivial
   intro h73
   have g77 := df h73
   refine Oq (Vfa fo34_1 0) (Oq (VldF sh32 0) (Oq (Vlen sl32) (Oq Vgtr (Oq Vpf (KS ?_)))))
   refine Kc ?_ ?_
   ·intro h78
    have g79 := dt h78
    refine KS ?_
    refine Oq Va (KS ?_)
    have hR80 := q2 hM46 (.ret false) (by simp only [r4_Valid_L1, h53, h64, h71, h73, h78, hg62, cs4])
    have hR81 := q2 hM11 (.ret false) (by simp only [r4_Valid_L0, h17, h28, h34, h36, h40, h53, h64, h71, h73, h78, hg26, hg62, hR80, cs4])
    have hq := q4 hrr false (by simp only [r4_Valid, h3, h6, h17, h28, h34, h36, h40, h53, h64, h71, h73, h78, hg26, hg62, hR80, hR81, cs4]); subst hq
    exact Kr () rfl (.tmp rfl .nil) [] trivial
   intro h78
   have g82 := df h78
   refine KS ?_
   refine Oq Va (KS ?_)
   refine Kl (γ := Nat × Int) (fun (r83, j_84) => ⟨[(1, p2), (3, vi i_10), (4, p24), (5, vi k_45), (6, p60), (7, vi j_84)], [Cl p60 [.string (bs ((((p.Funcs.getD i_10.toNat default).Blocks).getD k_45.toNat default).Name)), .slice a56 (((((p.Funcs.getD i_10.toNat default).Blocks).getD k_45.toNat default).Stmts).length) k57], S a56 k57 ((((p.Funcs.getD i_10.toNat default).Blocks).getD k_45.toNat default).Stmts), Cl p24 [.string (bs ((p.Funcs.getD i_10.toNat default).Name)), vl a20 k21 ((p.Funcs.getD i_10.toNat default).Blocks)], S a20 k21 ((p.Funcs.getD i_10.toNat default).Blocks), pv p2 [vl pa0 pk0 p.Funcs], S pa0 pk0 p.Funcs], r4_Valid_L2 ((((p.Funcs.getD i_10.toNat default).Blocks).getD k_45.toNat default).Stmts) r83 j_84 = r4_Valid_L2 ((((p.Funcs.getD i_10.toNat default).Blocks).getD k_45.toNat default).Stmts) ((((((((p.Funcs.getD i_10.toNat default).Blocks).getD k_45.toNat default).Stmts).length : Int) : Int) - 0).toNat) 0 ∧ r83 = (((((((p.Funcs.getD i_10.toNat default).Blocks).getD k_45.toNat default).Stmts).length : Int) : Int) - j_84).toNat ∧ (0 : Int) ≤ j_84 ∧ (j_84 ≤ (((((p.Funcs.getD i_10.toNat default).Blocks).getD k_45.toNat default).Stmts).length : Int) ∨ j_84 = 0) ∧ (-9223372036854775808 ≤ j_84 ∧ j_84 ≤ 9223372036854775807), r83⟩) ((((((((p.Funcs.getD i_10.toNat default).Blocks).getD k_45.toNat default).Stmts).length : Int) : Int) - 0).toNat, 0) [0, 1, 2, 2, 3, 4] ⟨rfl, rfl, aM1, (.inr rfl), aM1⟩ ?_
   rintro ⟨r83, j_84⟩ ⟨hM85, hr86, hi87, hi88, hk89⟩
   refine JJ_nx fun _ _ hL hA => ?_; dsimp only at hL hA; subst hL hA
   refine Fb 72 1 fun _ => Fb 40 3 fun _ => Fb 40 5 fun _ => KS ?_
   refine Oq Vm (Oq (Vfa fo34_1 0) (Oq (VldF sh32 0) (Oq (Vlen sl32) (Oq Vlss (KS ?_)))))
   refine Kc ?_ ?_
   ·intro h93
    have g94 := dt h93
    obtain ⟨r95, rfl⟩ := scc (n := r83) aM1
    refine KS ?_
    refine Oq (Vfa fo34_1 0) (Oq (VldF sh32 0) (Oq Vm (Oq (Vi sl32 1) ?_)))
    refine JJ_peek_GStmt j_84.toNat 1 rfl rng fun a96 k97 a98 k99 hb100 hb101 => ?_
    unfold i64ok at hb100
    refine Fb 16 1 fun _ => ?_
    refine FoS 1 fun ho103 => ?_
    refine Fb 16 2 fun _ => ?_
    refine FoS 2 fun ho105 => ?_
    refine Oq (VldA sh37 0) ?_
    refine letv (r4_stmtOK (((((p.Funcs.getD i_10.toNat default).Blocks).getD k_45.toNat default).Stmts).getD j_84.toNat default)) fun rv106 hg107 => ?_
    have hc108 := fn52 ((((((p.Funcs.getD i_10.toNat default).Blocks).getD k_45.toNat default).Stmts).getD j_84.toNat default)) a96 k97 a98 k99 pre pre rv106 hg107
    refine Oc [1, 2] ca52 hc108 ?_
    rintro - -
    refine Oq Vnot (KS ?_)
    refine Kc ?_ ?_
    ·intro h109
     have h111 := not_true h109
     refine KS ?_
     refine Oq Va (KS ?_)
     have hR113 := q2 hM85 (.ret false) (by simp only [r4_Valid_L2, h93, h109, h111, hg107, cs4])
     have hR114 := q2 hM46 (.ret false) (by simp only [r4_Valid_L1, h53, h64, h71, h73, h78, h93, h109, h111, hg62, hg107, hR113, cs4])
     have hR115 := q2 hM11 (.ret false) (by simp only [r4_Valid_L0, h17, h28, h34, h36, h40, h53, h64, h71, h73, h78, h93, h109, h111, hg26, hg62, hg107, hR113, hR114, cs4])
     have hq := q4 hrr false (by simp only [r4_Valid, h3, h6, h17, h28, h34, h36, h40, h53, h64, h71, h73, h78, h93, h109, h111, hg26, hg62, hg107, hR113, hR114, hR115, cs4]); subst hq
     exact Kr () rfl (.tmp rfl .nil) [] trivial
    intro h109
    have h117 := not_false h109
    refine KS ?_
    refine Oq Vm (Oq Vadd (Oq Va (KS ?_)))
    exact Kg (r95, (j_84 + 1)) [3, 3, 4, 4, 5, 6] ⟨(q3 hM85 (by simp only [r4_Valid_L2, h93, h109, h117, hg107, cs4])), aM1, aM1, aM1, aM1⟩
   intro h93
   have g119 := df h93
   obtain rfl : r83 = 0 := by omega
   refine Ke ?_
   have hR120 := q2 hM85 (.brk ()) (by simp only [r4_Valid_L2, h93, cs4])
   refine KS ?_
   refine Oq Vm (Oq Vadd (Oq Va (KS ?_)))
   exact Kg (r55, (k_45 + 1)) [2, 2, 3, 4] ⟨(q3 hM46 (by simp only [r4_Valid_L1, h53, h64, h71, h73, h78, h93, hg62, hR120, cs4])), aM1, aM1, aM1, aM1⟩
  intro h53
  have g121 := df h53
  obtain rfl : r44 = 0 := by omega
  refine Ke ?_
  have hR122 := q2 hM46 (.brk ()) (by simp only [r4_Valid_L1, h53, cs4])
  refine KS ?_
  refine Oq Vm (Oq Vadd (Oq Va (KS ?_)))
  exact Kg (r19, (i_10 + 1)) [2, 3] ⟨(q3 hM11 (by simp only [r4_Valid_L0, h17, h28, h34, h36, h40, h53, hg26, hR122, cs4])), aM1, aM1, aM1, aM1⟩
 intro h17
 have g123 := df h17
 obtain rfl : r9 = 0 := by omega
 refine Ke ?_
 have hR124 := q2 hM11 (.brk ()) (by simp only [r4_Valid_L0, h17, cs4])
 refine KS ?_
 refine Oq Va (KS ?_)
 have hq := q4 hrr true (by simp only [r4_Valid, h3, h6, h17, hR124, cs4]); subst hq
 exact Kr () rfl (.tmp rfl .nil) [] trivial
theorem fn58 (l : List Str) (la0 : Option Addr) (lk0 : Nat) (rr : Int) (hrr : r4_repeated l = rr) : FT Tryz.prog 58 #[vl la0 lk0 l] [S la0 lk0 l] (fun g : Unit => i64ok rr) (fun g => vi rr) (fun g => []) := by
 refine FTi Tryz.func58 fun w0 M0 F0 => Fb 16 0 fun _ => ?_
 refine FoS 0 fun ho2 => ?_
 refine KS ?_
 refine Oq Va (KS ?_)
 refine Oq Va (KS ?_)
 refine Kl (γ := Nat × Int) (fun (r3, i_4) => ⟨[(0, vl la0 lk0 l), (3, vi i_4)], [S la0 lk0 l], r4_repeated_L0 l r3 i_4 = r4_repeated_L0 l (((l.length : Int) - 0).toNat) 0 ∧ r3 = ((l.length : Int) - i_4).toNat ∧ (0 : Int) ≤ i_4 ∧ i_4 ≤ (l.length : Int) ∧ (-9223372036854775808 ≤ i_4 ∧ i_4 ≤ 9223372036854775807), r3⟩) (((l.length : Int) - 0).toNat, 0) [0] ⟨rfl, rfl, aM1, aM1, aM1⟩ ?_
 rintro ⟨r3, i_4⟩ ⟨hM5, hr6, hi7, hi8, hk9⟩
 refine JJ_nx fun _ _ hL hA => ?_; dsimp only at hL hA; subst hL hA
 refine Fb 16 0 fun _ => ?_
 refine FoS 0 fun ho11 => ?_
 refine KS ?_
 refine Oq Vm (Oq Vm (Oq (Vlen sl35) (Oq Vlss (KS ?_))))
 refine Kc ?_ ?_
 ·intro h12
  have g13 := dt h12
  obtain ⟨r14, rfl⟩ := scc (n := r3) aM1
  refine KS ?_
  refine JK_drawK [0, 0, 3, 0, 0, 24, 56, 127, 255] fmix ?_
  refine Dv [] Vm (Dv [] Vm (Dx [0] [] [1, 0] (fun G => (G.g 2 0)) [fun G => sl (G.g 2 0) ((l.take (i_4.toNat)).drop 0)] (fun G => xA (Asl [0] sl35 0 (i_4.toNat))) (Dv [] Vm (Dv [] Vm (Dv [0] (Vi sl35 0) ?_)))))
  have hb16 := okS (i := i_4.toNat) ho11 rng
  refine Dv [0] (VldS sh9 0) ?_
  refine letv (r4_Place ((l.take (i_4.toNat)).drop 0) (l.getD i_4.toNat default)) fun rv20 hg21 => ?_
  refine Dx [1] [] [1, 0] (fun G => vi rv20) [fun G => SP.fact (i64ok rv20)] (fun G => xD [0] ca24 rfl rfl rfl (FT_open (γ := Unit) (I := fun g => i64ok rv20) (V := fun g => vi rv20) (B := fun g => []) (R := sl (G.g 2 0) ((l.take (i_4.toNat)).drop 0)) sl_slice (fun aq17 kq18 eq19 => by rw [eq19]; exact FT_ent (Ent.take (is := [0]) rfl) (fn24 (((l.take (i_4.toNat)).drop 0)) aq17 kq18 ((l.getD i_4.toNat default)) pre rv20 hg21)))) (Dv [] Vgeq ?_)
  refine Dn ⟨by kernel_rfl, fun G => ?_⟩
  refine Jw2 [(0, vl la0 lk0 l), (3, vi i_4), (18, vb (decide (0 ≤ rv20)))] [0] [sl (G.g 2 0) ((l.take (i_4.toNat)).drop 0), SP.fact (i64ok rv20)] ?_
  generalize G.g 2 0 = c15
  refine Jf 2 rfl ?_; rintro he22
  unfold i64ok at he22
  refine Jk [0, 1] ?_
  refine Jo 1 ?_; rintro a23 k24 rfl
  refine Fb 16 1 fun _ => ?_
  refine FoS 1 fun ho26 => ?_
  refine Kc ?_ ?_
  ·intro h27
   have g28 := dt h27
   refine KS ?_
   refine Oq Vm (Oq Va (KS ?_))
   have hR29 := q2 hM5 (.ret i_4) (by simp only [r4_repeated_L0, h12, h27, hg21, cs4])
   have hq := q4 hrr i_4 (by simp only [r4_repeated, h12, h27, hg21, hR29, cs4]); subst hq
   exact Kr () rfl (.tmp rfl .nil) [] en
  intro h27
  have g30 := df h27
  refine KS ?_
  refine Oq Vm (Oq Vadd (Oq Va (KS ?_)))
  exact Kg (r14, (i_4 + 1)) [0] ⟨(q3 hM5 (by simp only [r4_repeated_L0, h12, h27, hg21, cs4])), aM1, aM1, aM1, aM1⟩
 intro h12
 have g31 := df h12
 obtain rfl : r3 = 0 := by omega
 refine Ke ?_
 have hR32 := q2 hM5 (.brk ()) (by simp only [r4_repeated_L0, h12, cs4])
 refine KS ?_
 refine Oq Va (KS ?_)
 have hq := q4 hrr (-1) (by simp only [r4_repeated, h12, hR32, cs4]); subst hq
 exact Kr () rfl (.tmp rfl .nil) [] en
theorem fn59 (p : GProgram) (pa0 : Option Addr) (pk0 : Nat) (rr : List Str) (hrr : r4_funcNames p = rr) : FT Tryz.prog 59 #[.agg #[vl pa0 pk0 p.Funcs]] [S pa0 pk0 p.Funcs] (fun g : Value => True) (fun g => g) (fun g => [sl g rr]) := by
 refine FTi Tryz.func59 fun w0 M0 F0 => Fb 40 0 fun _ => ?_
 refine KS ?_
 refine Oa (Ab [vl pa0 pk0 p.Funcs]) fun p2 => Oq Va (KS ?_)
 refine Oq Va (KS ?_)
 refine Oq Va (KS ?_)
 refine Jl [] (Ent.osNil (α := Str)) ?_
 refine Kl (γ := Nat × List Str × Int × Option Addr × Nat) (fun (r3, out_4, i_5, a6, k7) => ⟨[(1, p2), (3, vl a6 k7 out_4), (4, vi i_5)], [O a6 k7 out_4, pv p2 [vl pa0 pk0 p.Funcs], S pa0 pk0 p.Funcs], r4_funcNames_L0 p r3 out_4 i_5 = r4_funcNames_L0 p (((p.Funcs.length : Int) - 0).toNat) [] 0 ∧ r3 = ((p.Funcs.length : Int) - i_5).toNat ∧ (0 : Int) ≤ i_5 ∧ i_5 ≤ (p.Funcs.length : Int) ∧ (-9223372036854775808 ≤ i_5 ∧ i_5 ≤ 9223372036854775807) ∧ ((out_4.length : Int) ≤ i_5), r3⟩) (((p.Funcs.length : Int) - 0).toNat, [], 0, none, 0) [0, 0, 1] ⟨rfl, rfl, aM1, aM1, aM1, iv0⟩ ?_
 rintro ⟨r3, out_4, i_5, a6, k7⟩ ⟨hM8, hr9, hi10, hi11, hk12, hv13⟩
 refine JJ_nx fun _ _ hL hA => ?_; dsimp only at hL hA; subst hL hA
 refine Fb 16 0 fun _ => ?_
 refine FoS 0 fun ho15 => ?_
 refine Fb 40 2 fun _ => KS ?_
 refine Oq Vm (Oq (Vfa fo25_0 1) (Oq (VldF sh23 1) (Oq (Vlen sl23) (Oq Vlss (KS ?_)))))
 refine Kc ?_ ?_
 ·intro h17
  have g18 := dt h17
  obtain ⟨r19, rfl⟩ := scc (n := r3) aM1
  refine KS ?_
  refine Oq Vm (Oq (Vfa fo25_0 1) (Oq (VldF sh23 1) (Oq Vm (Oq (Vi sl23 2) ?_))))
  refine JJ_peek_GFunc i_5.toNat 2 rfl rng fun a20 k21 hb22 => ?_
  refine Fb 40 1 fun _ => ?_
  refine Oq (Vfa fo31_0 0) (Oq (VldF sh9 0) (Oa (AsV sl35 sz35 [.string (bs ((p.Funcs.getD i_5.toNat default).Name))] [.string (bs ((p.Funcs.getD i_5.toNat default).Name))]) fun c24 => ?_))
  refine Jo 0 ?_; rintro a25 k26 rfl
  refine Jl [0] (Ent.cr1 (α := Str) (A := []) _ ((p.Funcs.getD i_5.toNat default).Name) _ aB1 (fun _ => ⟨rfl, aS1⟩)) ?_
  refine Oa (ApO [3, 0] sl35 sl35 sz35) fun c27 => ?_
  refine Jo 0 ?_; rintro a28 k29 rfl
  refine Fb 16 0 fun _ => ?_
  refine FoS 0 fun ho31 => ?_
  have hn32 := la out_4 ([(p.Funcs.getD i_5.toNat default).Name] : List Str)
  refine Oq Va (KS ?_)
  refine Oq Vm (Oq Vadd (Oq Va (KS ?_)))
  exact Kg (r19, (out_4 ++ [(p.Funcs.getD i_5.toNat default).Name]), (i_5 + 1), a28, k29) [0, 2, 3] ⟨(q3 hM8 (by simp only [r4_funcNames_L0, h17, cs4])), aM1, aM1, aM1, aM1, iv1⟩
 intro h17
 have g33 := df h17
 obtain rfl : r3 = 0 := by omega
 refine Ke ?_
 have hR34 := q2 hM8 out_4 (by simp only [r4_funcNames_L0, h17, cs4])
 refine KS ?_
 refine Oq Vm (Oq Va (KS ?_))
 refine Jl [0] (Ent.freeze _ _) ?_
 have hq := q4 hrr out_4 (by simp only [r4_funcNames, h17, hR34, cs4]); subst hq
 exact Kr (vl a6 k7 out_4) rfl (.tmp rfl .nil) [0] trivial
theorem fn60 (f : GFunc) (fa1 : Option Addr) (fk1 : Nat) (hf_0 : f.Name.b.length ≤ 140737488355328) (rr : List Str) (hrr : r4_BlockNames f = rr) : FT Tryz.prog 60 #[.agg #[.string (bs f.Name), vl fa1 fk1 f.Blocks]] [S fa1 fk1 f.Blocks] (fun g : Value => True) (fun g => g) (fun g => [sl g rr]) := by
 refine FTi Tryz.func60 fun w0 M0 F0 => Fb 40 0 fun _ => ?_
 refine KS ?_
 refine Oa (Ab [.string (bs f.Name), vl fa1 fk1 f.Blocks]) fun p2 => Oq Va (KS ?_)
 refine Oq Va (KS ?_)
 refine Oq Va (KS ?_)
 refine Jl [] (Ent.osNil (α := Str)) ?_
 refine Kl (γ := Nat × List Str × Int × Option Addr × Nat) (fun (r3, out_4, k_5, a6, k7) => ⟨[(1, p2), (3, vl a6 k7 out_4), (4, vi k_5)], [O a6 k7 out_4, pv p2 [.string (bs f.Name), vl fa1 fk1 f.Blocks], S fa1 fk1 f.Blocks], r4_BlockNames_L0 f r3 out_4 k_5 = r4_BlockNames_L0 f (((f.Blocks.length : Int) - 0).toNat) [] 0 ∧ r3 = ((f.Blocks.length : Int) - k_5).toNat ∧ (0 : Int) ≤ k_5 ∧ k_5 ≤ (f.Blocks.length : Int) ∧ (-9223372036854775808 ≤ k_5 ∧ k_5 ≤ 9223372036854775807) ∧ ((out_4.length : Int) ≤ k_5), r3⟩) (((f.Blocks.length : Int) - 0).toNat, [], 0, none, 0) [0, 0, 1] ⟨rfl, rfl, aM1, aM1, aM1, iv0⟩ ?_
 rintro ⟨r3, out_4, k_5, a6, k7⟩ ⟨hM8, hr9, hi10, hi11, hk12, hv13⟩
 refine JJ_nx fun _ _ hL hA => ?_; dsimp only at hL hA; subst hL hA
 refine Fb 16 0 fun _ => ?_
 refine FoS 0 fun ho15 => ?_
 refine Fb 40 2 fun _ => KS ?_
 refine Oq Vm (Oq (Vfa fo31_1 1) (Oq (VldF sh29 1) (Oq (Vlen sl29) (Oq Vlss (KS ?_)))))
 refine Kc ?_ ?_
 ·intro h17
  have g18 := dt h17
  obtain ⟨r19, rfl⟩ := scc (n := r3) aM1
  refine KS ?_
  refine Oq Vm (Oq (Vfa fo31_1 1) (Oq (VldF sh29 1) (Oq Vm (Oq (Vi sl29 2) ?_))))
  refine JJ_peek_GBlock k_5.toNat 2 rfl rng fun a20 k21 hb22 => ?_
  refine Fb 72 1 fun _ => ?_
  refine Oq (Vfa fo34_0 0) (Oq (VldF sh9 0) (Oa (AsV sl35 sz35 [.string (bs ((f.Blocks.getD k_5.toNat default).Name))] [.string (bs ((f.Blocks.getD k_5.toNat default).Name))]) fun c24 => ?_))
  refine Jo 0 ?_; rintro a25 k26 rfl
  refine Jl [0] (Ent.cr1 (α := Str) (A := []) _ ((f.Blocks.getD k_5.toNat default).Name) _ aB1 (fun _ => ⟨rfl, aS1⟩)) ?_
  refine Oa (ApO [3, 0] sl35 sl35 sz35) fun c27 => ?_
  refine Jo 0 ?_; rintro a28 k29 rfl
  refine Fb 16 0 fun _ => ?_
  refine FoS 0 fun ho31 => ?_
  have hn32 := la out_4 ([(f.Blocks.getD k_5.toNat default).Name] : List Str)
  refine Oq Va (KS ?_)
  refine Oq Vm (Oq Vadd (Oq Va (KS ?_)))
  exact Kg (r19, (out_4 ++ [(f.Blocks.getD k_5.toNat default).Name]), (k_5 + 1), a28, k29) [0, 2, 3] ⟨(q3 hM8 (by simp only [r4_BlockNames_L0, h17, cs4])), aM1, aM1, aM1, aM1, iv1⟩
 intro h17
 have g33 := df h17
 obtain rfl : r3 = 0 := by omega
 refine Ke ?_
 have hR34 := q2 hM8 out_4 (by simp only [r4_BlockNames_L0, h17, cs4])
 refine KS ?_
 refine Oq Vm (Oq Va (KS ?_))
 refine Jl [0] (Ent.freeze _ _) ?_
 have hq := q4 hrr out_4 (by simp only [r4_BlockNames, h17, hR34, cs4]); subst hq
 exact Kr (vl a6 k7 out_4) rfl (.tmp rfl .nil) [0] trivial
theorem fn95 (op : Int) (hop_0 : i64ok op) (rr : Bool) (hrr : r4_Terminator op = rr) : FT Tryz.prog 95 #[vi op] [] (fun g : Unit => True) (fun g => vb rr) (fun g => []) := by
 refine FTi Tryz.func95 fun w0 M0 F0 => ?_
 unfold i64ok at hop_0
 refine KS ?_
 refine Oq Va (KS ?_)
 refine Oq Vm (Oq Veql (Oq Vm ?_))
 refine Js 5 ?_ ?_
 ·intro h1
  have g2 := eq_of_beq h1
  refine Osk (Osk (Oq Vpt (Oq Vm (Osk (Osk (Oq Vpt (Oq Va (KS ?_))))))))
  have hq := q4 hrr true (by simp only [r4_Terminator, h1, cs4]); subst hq
  exact Kr () rfl (.tmp rfl .nil) [] trivial
 intro h1
 have g3 := ne_of_beq_false h1
 refine Oq Vm (Oq Veql (Oq Vpf (Oq Vm ?_)))
 refine Js 9 ?_ ?_
 ·intro h4
  have g5 := eq_of_beq h4
  refine Osk (Osk (Oq Vpt (Oq Va (KS ?_))))
  have hq := q4 hrr true (by simp only [r4_Terminator, h1, h4, cs4]); subst hq
  exact Kr () rfl (.tmp rfl .nil) [] trivial
 intro h4
 have g6 := ne_of_beq_false h4
 refine Oq Vm (Oq Veql (Oq Vpf (Oq Va (KS ?_))))
 have hq := q4 hrr (op == 9) (by simp only [r4_Terminator, h1, h4, cs4]); subst hq
 exact Kr () rfl (.tmp rfl .nil) [] trivial
theorem fn61 (p : GProgram) (pa0 : Option Addr) (pk0 : Nat) (f : GFunc) (fa1 : Option Addr) (fk1 : Nat) (s : GStmt) (sa2 : Option Addr) (sk2 : Nat) (sa3 : Option Addr) (sk3 : Nat) (last : Bool) (hf_0 : f.Name.b.length ≤ 140737488355328) (hs_0 : i64ok s.Op) (hs_1 : s.Def.b.length ≤ 140737488355328) (rr : Int) (hrr : r4_stmtErr p f s last = rr) : FT Tryz.prog 61 #[.agg #[vl pa0 pk0 p.Funcs], .agg #[.string (bs f.Name), vl fa1 fk1 f.Blocks], .agg #[vi s.Op, .string (bs s.Def), vl sa2 sk2 s.Uses, vl sa3 sk3 s.Targets], vb last] [S pa0 pk0 p.Funcs, S fa1 fk1 f.Blocks, S sa2 sk2 s.Uses, S sa3 sk3 s.Targets] (fun g : Unit => i64ok rr) (fun g => vi rr) (fun g => []) := by
 refine FTi Tryz.func61 fun w0 M0 F0 => ?_
 unfold i64ok at hs_0
 refine Fb 40 0 fun _ => Fb 40 1 fun _ => Fb 16 2 fun _ => ?_
 refine FoS 2 fun ho4 => ?_
 refine Fb 16 3 fun _ => ?_
 refine FoS 3 fun ho6 => ?_
 refine KS ?_
 refine Oa (Ab [vl pa0 pk0 p.Funcs]) fun p7 => Oa (Ab [.string (bs f.Name), vl fa1 fk1 f.Blocks]) fun p8 => Oa (Ab [vi s.Op, .string (bs s.Def), vl sa2 sk2 s.Uses, vl sa3 sk3 s.Targets]) fun p9 => Oq Va (KS ?_)
 refine Oq (Vfa fo37_0 0) (Oq (VldF sh3 0) ?_)
 refine letv (r4_Terminator s.Op) fun rv10 hg11 => ?_
 have hc12 := fn95 s.Op pre rv10 hg11
 refine Oc [] ca95 hc12 ?_
 rintro - -
 refine Oq Vm (Oq (Vnb un4) (KS ?_))
 refine Kc ?_ ?_
 ·intro h13
  refine KS ?_
  refine Oq Va (KS ?_)
  have hq := q4 hrr 4 (by simp only [r4_stmtErr, h13, hg11, cs4]); subst hq
  exact Kr () rfl (.tmp rfl .nil) [] en
 intro h13
 refine KS ?_
 refine Oq (VldA sh31 1) ?_
 refine letv (r4_BlockNames f) fun rv17 hg18 => ?_
 have hc19 := fn60 f fa1 fk1 pre rv17 hg18
 refine Oc [4] ca60 hc19 ?_
 rintro c16 -
 refine Jo 0 ?_; rintro a20 k21 rfl
 refine Fb 16 0 fun _ => ?_
 refine FoS 0 fun ho23 => ?_
 refine Oq Va (KS ?_)
 refine Oq (Vfa fo37_0 1) (Oq (VldF sh3 1) (Oq Veql (KS ?_)))
 refine Kc ?_ ?_
 ·intro h24
  have g25 := eq_of_beq h24
  refine KS ?_
  refine Oq (VldA sh25 3) ?_
  refine letv (r4_funcNames p) fun rv27 hg28 => ?_
  have hc29 := fn59 p pa0 pk0 rv27 hg28
  refine Oc [4] ca59 hc29 ?_
  rintro c26 -
  refine Jo 0 ?_; rintro a30 k31 rfl
  refine Fb 16 0 fun _ => ?_
  refine FoS 0 fun ho33 => ?_
  refine Oq Va (KS ?_)
  refine Oq Va (KS ?_)
  refine Kl (γ := Nat × Int) (fun (r34, i_35) => ⟨[(6, p9), (9, vl a30 k31 rv27), (10, vi i_35)], [S a30 k31 rv27, pv p9 [vi s.Op, .string (bs s.Def), vl sa2 sk2 s.Uses, vl sa3 sk3 s.Targets], S sa2 sk2 s.Uses, S sa3 sk3 s.Targets], r4_stmtErr_L0 s rv27 r34 i_35 = r4_stmtErr_L0 s rv27 (((s.Targets.length : Int) - 0).toNat) 0 ∧ r34 = ((s.Targets.length : Int) - i_35).toNat ∧ (0 : Int) ≤ i_35 ∧ i_35 ≤ (s.Targets.length : Int) ∧ (-9223372036854775808 ≤ i_35 ∧ i_35 ≤ 9223372036854775807), r34⟩) (((s.Targets.length : Int) - 0).toNat, 0) [0, 2, 7, 8] ⟨rfl, rfl, aM1, aM1, aM1⟩ ?_
  rintro ⟨r34, i_35⟩ ⟨hM36, hr37, hi38, hi39, hk40⟩
  refine JJ_nx fun _ _ hL hA => ?_; dsimp only at hL hA; subst hL hA
  refine Fb 16 0 fun _ => ?_
  refine FoS 0 fun ho42 => ?_
  refine Fb 16 2 fun _ => ?_
  refine FoS 2 fun ho44 => ?_
  refine Fb 16 3 fun _ => ?_
  refine FoS 3 fun ho46 => ?_
  refine KS ?_
  refine Oq Vm (Oq (Vfa fo37_3 1) (Oq (VldF sh35 1) (Oq (Vlen sl35) (Oq Vlss (KS ?_)))))
  refine Kc ?_ ?_
  ·intro h47
   have g48 := dt h47
   obtain ⟨r49, rfl⟩ := scc (n := r34) aM1
   refine KS ?_
   refine Oq Vm (Oq (Vfa fo37_3 1) (Oq (VldF sh35 1) (Oq Vm (Oq (Vi sl35 3) ?_))))
   have hb50 := okS (i := i_35.toNat) ho46 rng
   refine Oq (VldS sh9 3) ?_
   refine letv (r4_Place rv27 (s.Targets.getD i_35.toNat default)) fun rv51 hg52 => ?_
   have hc53 := fn24 rv27 a30 k31 ((s.Targets.getD i_35.toNat default)) pre rv51 hg52
   refine Oc [0] ca24 hc53 ?_
   rintro - he54
   unfold i64ok at he54
   refine Oq Vlss (KS ?_)
   refine Kc ?_ ?_
   ·intro h55
    have g56 := dt h55
    refine KS ?_
    refine Oq Va (KS ?_)
    have hR57 := q2 hM36 (.ret 5) (by simp only [r4_stmtErr_L0, h47, h55, hg52, cs4])
    have hq := q4 hrr 5 (by simp only [r4_stmtErr, h13, h24, h47, h55, hg11, hg18, hg28, hg52, hR57, cs4]); subst hq
    exact Kr () rfl (.tmp rfl .nil) [] en
   intro h55
   have g58 := df h55
   refine KS ?_
   refine Oq Vm (Oq Vadd (Oq Va (KS ?_)))
   exact Kg (r49, (i_35 + 1)) [0, 1, 2, 3] ⟨(q3 hM36 (by simp only [r4_stmtErr_L0, h47, h55, hg52, cs4])), aM1, aM1, aM1, aM1⟩
  intro h47
  have g59 := df h47
  obtain rfl : r34 = 0 := by omega
  refine Ke ?_
  have hR60 := q2 hM36 (.brk ()) (by simp only [r4_stmtErr_L0, h47, cs4])
  refine KS ?_
  refine Oq Va (KS ?_)
  have hq := q4 hrr 0 (by simp only [r4_stmtErr, h13, h24, h47, hg11, hg18, hg28, hR60, cs4]); subst hq
  exact Kr () rfl (.tmp rfl .nil) [] en
 intro h24
 have g61 := ne_of_beq_false h24
 refine KS ?_
 refine Oq Va (KS ?_)
 refine Kl (γ := Nat × Int) (fun (r62, i_63) => ⟨[(6, p9), (9, vl a20 k21 rv17), (10, vi i_63)], [S a20 k21 rv17, pv p9 [vi s.Op, .string (bs s.Def), vl sa2 sk2 s.Uses, vl sa3 sk3 s.Targets], S sa2 sk2 s.Uses, S sa3 sk3 s.Targets], r4_stmtErr_L0 s rv17 r62 i_63 = r4_stmtErr_L0 s rv17 (((s.Targets.length : Int) - 0).toNat) 0 ∧ r62 = ((s.Targets.length : Int) - i_63).toNat ∧ (0 : Int) ≤ i_63 ∧ i_63 ≤ (s.Targets.length : Int) ∧ (-9223372036854775808 ≤ i_63 ∧ i_63 ≤ 9223372036854775807), r62⟩) (((s.Targets.length : Int) - 0).toNat, 0) [0, 1, 6, 7] ⟨rfl, rfl, aM1, aM1, aM1⟩ ?_
 rintro ⟨r62, i_63⟩ ⟨hM64, hr65, hi66, hi67, hk68⟩
 refine JJ_nx fun _ _ hL hA => ?_; dsimp only at hL hA; subst hL hA
 refine Fb 16 0 fun _ => ?_
 refine FoS 0 fun ho70 => ?_
 refine Fb 16 2 fun _ => ?_
 refine FoS 2 fun ho72 => ?_
 refine Fb 16 3 fun _ => ?_
 refine FoS 3 fun ho74 => ?_
 refine KS ?_
 refine Oq Vm (Oq (Vfa fo37_3 1) (Oq (VldF sh35 1) (Oq (Vlen sl35) (Oq Vlss (KS ?_)))))
 refine Kc ?_ ?_
 ·intro h75
  have g76 := dt h75
  obtain ⟨r77, rfl⟩ := scc (n := r62) aM1
  refine KS ?_
  refine Oq Vm (Oq (Vfa fo37_3 1) (Oq (VldF sh35 1) (Oq Vm (Oq (Vi sl35 3) ?_))))
  have hb78 := okS (i := i_63.toNat) ho74 rng
  refine Oq (VldS sh9 3) ?_
  refine letv (r4_Place rv17 (s.Targets.getD i_63.toNat default)) fun rv79 hg80 => ?_
  have hc81 := fn24 rv17 a20 k21 ((s.Targets.getD i_63.toNat default)) pre rv79 hg80
  refine Oc [0] ca24 hc81 ?_
  rintro - he82
  unfold i64ok at he82
  refine Oq Vlss (KS ?_)
  refine Kc ?_ ?_
  ·intro h83
   have g84 := dt h83
   refine KS ?_
   refine Oq Va (KS ?_)
   have hR85 := q2 hM64 (.ret 5) (by simp only [r4_stmtErr_L0, h75, h83, hg80, cs4])
   have hq := q4 hrr 5 (by simp only [r4_stmtErr, h13, h24, h75, h83, hg11, hg18, hg80, hR85, cs4]); subst hq
   exact Kr () rfl (.tmp rfl .nil) [] en
  intro h83
  have g86 := df h83
  refine KS ?_
  refine Oq Vm (Oq Vadd (Oq Va (KS ?_)))
  exact Kg (r77, (i_63 + 1)) [0, 1, 2, 3] ⟨(q3 hM64 (by simp only [r4_stmtErr_L0, h75, h83, hg80, cs4])), aM1, aM1, aM1, aM1⟩
 intro h75
 have g87 := df h75
 obtain rfl : r62 = 0 := by omega
 refine Ke ?_
 have hR88 := q2 hM64 (.brk ()) (by simp only [r4_stmtErr_L0, h75, cs4])
 refine KS ?_
 refine Oq Va (KS ?_)
 have hq := q4 hrr 0 (by simp only [r4_stmtErr, h13, h24, h75, hg11, hg18, hR88, cs4]); subst hq
 exact Kr () rfl (.tmp rfl .nil) [] en
theorem fn62 (p : GProgram) (pa0 : Option Addr) (pk0 : Nat) (rr : Int × Int) (hrr : r4_Sizes p = rr) : FT Tryz.prog 62 #[.agg #[vl pa0 pk0 p.Funcs]] [S pa0 pk0 p.Funcs] (fun g : Unit => i64ok rr.1 ∧ i64ok rr.2) (fun g => .tuple #[vi rr.1, vi rr.2]) (fun g => []) := by
 refine FTi Tryz.func62 fun w0 M0 F0 => Fb 40 0 fun _ => ?_
 refine KS ?_
 refine Oa (Ab [vl pa0 pk0 p.Funcs]) fun p2 => Oq Va (Oq Va (KS ?_))
 refine Oq Va (Oq Va (KS ?_))
 refine Oq (VldA sh25 0) ?_
 refine letv (r4_Valid p) fun rv3 hg4 => ?_
 have hc5 := fn23 p pa0 pk0 rv3 hg4
 refine Oc [1] ca23 hc5 ?_
 rintro - -
 refine Oq Vnot (KS ?_)
 refine Kc ?_ ?_
 ·intro h6
  have h8 := not_true h6
  refine KS ?_
  refine Oq Va (Oq Va (KS ?_))
  have hq := q4 hrr (0, 0) (by simp only [r4_Sizes, h6, h8, hg4, cs4]); subst hq
  exact Kr () rfl (.tmp rfl (.tmp rfl .nil)) [] en
 intro h6
 have h11 := not_false h6
 try have hVb := PVal_b (p := p) (by simp only [h6, h11, hg4])
 refine KS ?_
 refine Oq Va (KS ?_)
 refine Kl (γ := Nat × Int × Int × Int) (fun (r13, nd_14, edges_15, i_16) => ⟨[(1, p2), (4, vi nd_14), (5, vi edges_15), (6, vi i_16)], [pv p2 [vl pa0 pk0 p.Funcs], S pa0 pk0 p.Funcs], r4_Sizes_L0 p r13 nd_14 edges_15 i_16 = r4_Sizes_L0 p (((p.Funcs.length : Int) - 0).toNat) 0 0 0 ∧ r13 = ((p.Funcs.length : Int) - i_16).toNat ∧ (0 : Int) ≤ i_16 ∧ i_16 ≤ (p.Funcs.length : Int) ∧ (-9223372036854775808 ≤ nd_14 ∧ nd_14 ≤ 9223372036854775807) ∧ (-9223372036854775808 ≤ edges_15 ∧ edges_15 ≤ 9223372036854775807) ∧ (-9223372036854775808 ≤ i_16 ∧ i_16 ≤ 9223372036854775807) ∧ (0 ≤ nd_14 ∧ nd_14 ≤ 1100 * i_16 ∧ 0 ≤ edges_15 ∧ edges_15 ≤ 1700 * i_16), r13⟩) (((p.Funcs.length : Int) - 0).toNat, 0, 0, 0) [0, 1] ⟨rfl, rfl, aM1, aM1, aM1, aM1, aM1, iv0⟩ ?_
 rintro ⟨r13, nd_14, edges_15, i_16⟩ ⟨hM17, hr18, hi19, hi20, hk21, hk22, hk23, hv24⟩
 refine JJ_nx fun _ _ hL hA => ?_; dsimp only at hL hA; subst hL hA
 refine Fb 40 1 fun _ => KS ?_
 refine Oq Vm (Oq (Vfa fo25_0 0) (Oq (VldF sh23 0) (Oq (Vlen sl23) (Oq Vlss (KS ?_)))))
 refine Kc ?_ ?_
 ·intro h26
  have g27 := dt h26
  have hVf := hVb.2 i_16.toNat
  obtain ⟨r28, rfl⟩ := scc (n := r13) aM1
  refine KS ?_
  refine Oq Vm (Oq Vadd (Oq Vm (Oq Vadd (Oq Va (Oq Va (KS ?_))))))
  refine Oq Va (KS ?_)
  refine Kl (γ := Nat × Int × Int × Int) (fun (r29, nd_30, edges_31, k_32) => ⟨[(1, p2), (6, vi i_16), (4, vi nd_30), (5, vi edges_31), (7, vi k_32)], [pv p2 [vl pa0 pk0 p.Funcs], S pa0 pk0 p.Funcs], r4_Sizes_L1 p i_16 r29 nd_30 edges_31 k_32 = r4_Sizes_L1 p i_16 ((((((p.Funcs.getD i_16.toNat default).Blocks).length : Int) : Int) - 0).toNat) (nd_14 + 2) (edges_15 + 1) 0 ∧ r29 = (((((p.Funcs.getD i_16.toNat default).Blocks).length : Int) : Int) - k_32).toNat ∧ (0 : Int) ≤ k_32 ∧ (k_32 ≤ (((p.Funcs.getD i_16.toNat default).Blocks).length : Int) ∨ k_32 = 0) ∧ (-9223372036854775808 ≤ nd_30 ∧ nd_30 ≤ 9223372036854775807) ∧ (-9223372036854775808 ≤ edges_31 ∧ edges_31 ≤ 9223372036854775807) ∧ (-9223372036854775808 ≤ k_32 ∧ k_32 ≤ 9223372036854775807) ∧ (0 ≤ nd_30 ∧ nd_30 ≤ (nd_14 + 2) + 66 * k_32 ∧ 0 ≤ edges_31 ∧ edges_31 ≤ (edges_15 + 1) + 98 * k_32), r29⟩) ((((((p.Funcs.getD i_16.toNat default).Blocks).length : Int) : Int) - 0).toNat, (nd_14 + 2), (edges_15 + 1), 0) [0, 1] ⟨rfl, rfl, aM1, (.inr rfl), aM1, aM1, aM1, iv0⟩ ?_
  rintro ⟨r29, nd_30, edges_31, k_32⟩ ⟨hM33, hr34, hi35, hi36, hk37, hk38, hk39, hv40⟩
  refine JJ_nx fun _ _ hL hA => ?_; dsimp only at hL hA; subst hL hA
  refine Fb 40 1 fun _ => KS ?_
  refine Oq Vm (Oq (Vfa fo25_0 0) (Oq (VldF sh23 0) (Oq Vm (Oq (Vi sl23 1) ?_))))
  refine JJ_peek_GFunc i_16.toNat 1 rfl rng fun a42 k43 hb44 => ?_
  refine Fb 40 1 fun _ => ?_
  refine Oq (Vfa fo31_1 0) (Oq (VldF sh29 0) (Oq (Vlen sl29) (Oq Vlss (KS ?_))))
  refine Kc ?_ ?_
  ·intro h46
   have g47 := dt h46
   have hVk := hVf.2 k_32.toNat
   obtain ⟨r48, rfl⟩ := scc (n := r29) aM1
   refine KS ?_
   refine Oq (Vfa fo25_0 2) (Oq (VldF sh23 2) (Oq Vm (Oq (Vi sl23 3) (Oq (Vfa fo31_1 0) (Oq (VldF sh29 0) (Oq Vm (Oq (Vi sl29 1) ?_)))))))
   refine JJ_peek_GBlock k_32.toNat 1 rfl rng fun a49 k50 hb51 => ?_
   refine Fb 72 1 fun _ => ?_
   refine Oq (Vfa fo34_1 0) (Oq (VldF sh32 0) (Oq Va (KS ?_)))
   refine Oq Va (KS ?_)
   refine Kl (γ := Nat × Int × Int × Int) (fun (r53, nd_54, edges_55, j_56) => ⟨[(1, p2), (6, vi i_16), (4, vi nd_54), (5, vi edges_55), (7, vi k_32), (8, .slice a49 (((((p.Funcs.getD i_16.toNat default).Blocks).getD k_32.toNat default).Stmts).length) k50), (9, vi j_56)], [S a49 k50 ((((p.Funcs.getD i_16.toNat default).Blocks).getD k_32.toNat default).Stmts), pv p2 [vl pa0 pk0 p.Funcs], S pa0 pk0 p.Funcs], r4_Sizes_L2 ((((p.Funcs.getD i_16.toNat default).Blocks).getD k_32.toNat default).Stmts) r53 nd_54 edges_55 j_56 = r4_Sizes_L2 ((((p.Funcs.getD i_16.toNat default).Blocks).getD k_32.toNat default).Stmts) ((((((((p.Funcs.getD i_16.toNat default).Blocks).getD k_32.toNat default).Stmts).length : Int) : Int) - 0).toNat) nd_30 edges_31 0 ∧ r53 = (((((((p.Funcs.getD i_16.toNat default).Blocks).getD k_32.toNat default).Stmts).length : Int) : Int) - j_56).toNat ∧ (0 : Int) ≤ j_56 ∧ (j_56 ≤ (((((p.Funcs.getD i_16.toNat default).Blocks).getD k_32.toNat default).Stmts).length : Int) ∨ j_56 = 0) ∧ (-9223372036854775808 ≤ nd_54 ∧ nd_54 ≤ 9223372036854775807) ∧ (-9223372036854775808 ≤ edges_55 ∧ edges_55 ≤ 9223372036854775807) ∧ (-9223372036854775808 ≤ j_56 ∧ j_56 ≤ 9223372036854775807) ∧ (0 ≤ nd_54 ∧ nd_54 ≤ nd_30 + 2 * j_56 ∧ 0 ≤ edges_55 ∧ edges_55 ≤ edges_31 + 3 * j_56), r53⟩) ((((((((p.Funcs.getD i_16.toNat default).Blocks).getD k_32.toNat default).Stmts).length : Int) : Int) - 0).toNat, nd_30, edges_31, 0) [1, 4, 5] ⟨rfl, rfl, aM1, (.inr rfl), aM1, aM1, aM1, iv0⟩ ?_
   rintro ⟨r53, nd_54, edges_55, j_56⟩ ⟨hM57, hr58, hi59, hi60, hk61, hk62, hk63, hv64⟩
   refine JJ_nx fun _ _ hL hA => ?_; dsimp only at hL hA; subst hL hA
   refine Fb 72 0 fun _ => Fb 40 2 fun _ => KS ?_
   refine Oq Vm (Oq Vm (Oq (Vlen sl32) (Oq Vlss (KS ?_))))
   refine Kc ?_ ?_
   ·intro h67
    have g68 := dt h67
    have hVs := hVk.2 j_56.toNat
    obtain ⟨r69, rfl⟩ := scc (n := r53) aM1
    refine KS ?_
    refine Oq Vm (Oq Vadd (Oq Va (KS ?_)))
    refine Oq Vm (Oq Vm (Oq (Vi sl32 0) ?_))
    refine JJ_peek_GStmt j_56.toNat 0 rfl rng fun a70 k71 a72 k73 hb74 hb75 => ?_
    unfold i64ok at hb74
    refine Fb 16 1 fun _ => ?_
    refine FoS 1 fun ho77 => ?_
    refine Fb 16 2 fun _ => ?_
    refine FoS 2 fun ho79 => ?_
    refine Oq (Vfa fo37_0 0) (Oq (VldF sh3 0) (KS ?_))
    refine Oq Veql (Oq Va (KS ?_))
    refine Kc ?_ ?_
    ·intro h80
     have g81 := eq_of_beq h80
     refine KS ?_
     refine Oq Vm (Oq Vadd (Oq Vm (Oq Vadd (Oq Va (Oq Va (KS ?_))))))
     refine Oq Vm (Oq Vadd (Oq Va (KS ?_)))
     exact Kg (r69, ((nd_54 + 1) + 1), (edges_55 + 3), (j_56 + 1)) [3, 4, 5] ⟨(q3 hM57 (by simp only [r4_Sizes_L2, h67, h80, cs4])), aM1, aM1, aM1, aM1, aM1, aM1, iv1⟩
    intro h80
    have g82 := ne_of_beq_false h80
    refine KS ?_
    refine Oq Veql (Oq Va (KS ?_))
    refine Kc ?_ ?_
    ·intro h83
     have g84 := eq_of_beq h83
     refine KS ?_
     refine Oq Vm (Oq Vadd (Oq Va (KS ?_)))
     refine Oq Vm (Oq Vadd (Oq Va (KS ?_)))
     exact Kg (r69, (nd_54 + 1), (edges_55 + 2), (j_56 + 1)) [3, 4, 5] ⟨(q3 hM57 (by simp only [r4_Sizes_L2, h67, h80, h83, cs4])), aM1, aM1, aM1, aM1, aM1, aM1, iv1⟩
    intro h83
    have g85 := ne_of_beq_false h83
    refine KS ?_
    refine Oq Vm (Oq Vadd (Oq Va (KS ?_)))
    refine Oq Vm (Oq Vadd (Oq Va (KS ?_)))
    exact Kg (r69, (nd_54 + 1), (edges_55 + 1), (j_56 + 1)) [3, 4, 5] ⟨(q3 hM57 (by simp only [r4_Sizes_L2, h67, h80, h83, cs4])), aM1, aM1, aM1, aM1, aM1, aM1, iv1⟩
   intro h67
   have g86 := df h67
   obtain rfl : r53 = 0 := by omega
   refine Ke ?_
   have hR87 := q2 hM57 (nd_54, edges_55) (by simp only [r4_Sizes_L2, h67, cs4])
   refine KS ?_
   refine Oq Vm (Oq Vadd (Oq Va (KS ?_)))
   exact Kg (r48, nd_54, edges_55, (k_32 + 1)) [1, 2] ⟨(q3 hM33 (by simp only [r4_Sizes_L1, h46, h67, hR87, cs4])), aM1, aM1, aM1, aM1, aM1, aM1, iv1⟩
  intro h46
  have g88 := df h46
  obtain rfl : r29 = 0 := by omega
  refine Ke ?_
  have hR89 := q2 hM33 (nd_30, edges_31) (by simp only [r4_Sizes_L1, h46, cs4])
  refine KS ?_
  refine Oq Vm (Oq Vadd (Oq Va (KS ?_)))
  exact Kg (r28, nd_30, edges_31, (i_16 + 1)) [2, 3] ⟨(q3 hM17 (by simp only [r4_Sizes_L0, h26, h46, hR89, cs4])), aM1, aM1, aM1, aM1, aM1, aM1, iv1⟩
 intro h26
 have g90 := df h26
 obtain rfl : r13 = 0 := by omega
 refine Ke ?_
 have hR91 := q2 hM17 (nd_14, edges_15) (by simp only [r4_Sizes_L0, h26, cs4])
 refine KS ?_
 refine Oq Vm (Oq Vm (Oq Va (Oq Va (KS ?_))))
 have hq := q4 hrr (nd_14, edges_15) (by simp only [r4_Sizes, h6, h11, h26, hg4, hR91, cs4]); subst hq
 exact Kr () rfl (.tmp rfl (.tmp rfl .nil)) [] en
theorem fn8 (p : GProgram) (pa0 : Option Addr) (pk0 : Nat) (rr : List Str) (hrr : r4_Variables p = rr) : FT Tryz.prog 8 #[.agg #[vl pa0 pk0 p.Funcs]] [S pa0 pk0 p.Funcs] (fun g : Value => True) (fun g => g) (fun g => [sl g rr]) := by
 refine FTi Tryz.func8 fun w0 M0 F0 => Fb 40 0 fun _ => ?_
 refine KS ?_
 refine Oa (Ab [vl pa0 pk0 p.Funcs]) fun p2 => Oq Va (KS ?_)
 refine Oq Va (KS ?_)
 refine Oq (VldA sh25 0) ?_
 refine letv (r4_Valid p) fun rv3 hg4 => ?_
 have hc5 := fn23 p pa0 pk0 rv3 hg4
 refine Oc [1] ca23 hc5 ?_
 rintro - -
 refine Oq Vnot (KS ?_)
 refine Kc ?_ ?_
 ·intro h6
  have h8 := not_true h6
  refine KS ?_
  refine Oq Va (KS ?_)
  refine Jl [] (Ent.slNil (α := Str)) ?_
  have hq := q4 hrr ([] : List Str) (by simp only [r4_Variables, h6, h8, hg4, cs4]); subst hq
  exact Kr (.slice none 0 0) rfl (.tmp rfl .nil) [0] trivial
 intro h6
 have h11 := not_false h6
 try have hVb := PVal_b (p := p) (by simp only [h6, h11, hg4])
 refine KS ?_
 refine Oq Va (KS ?_)
 refine Jl [] (Ent.osNil (α := Str)) ?_
 refine Kl (γ := Nat × List Str × Int × Option Addr × Nat) (fun (r13, out_14, i_15, a16, k17) => ⟨[(1, p2), (3, vl a16 k17 out_14), (4, vi i_15)], [O a16 k17 out_14, pv p2 [vl pa0 pk0 p.Funcs], S pa0 pk0 p.Funcs], r4_Variables_L0 p r13 out_14 i_15 = r4_Variables_L0 p (((p.Funcs.length : Int) - 0).toNat) [] 0 ∧ r13 = ((p.Funcs.length : Int) - i_15).toNat ∧ (0 : Int) ≤ i_15 ∧ i_15 ≤ (p.Funcs.length : Int) ∧ (-9223372036854775808 ≤ i_15 ∧ i_15 ≤ 9223372036854775807) ∧ ((out_14.length : Int) ≤ 3000 * i_15), r13⟩) (((p.Funcs.length : Int) - 0).toNat, [], 0, none, 0) [0, 0, 1] ⟨rfl, rfl, aM1, aM1, aM1, iv0⟩ ?_
 rintro ⟨r13, out_14, i_15, a16, k17⟩ ⟨hM18, hr19, hi20, hi21, hk22, hv23⟩
 refine JJ_nx fun _ _ hL hA => ?_; dsimp only at hL hA; subst hL hA
 refine Fb 16 0 fun _ => ?_
 refine FoS 0 fun ho25 => ?_
 refine Fb 40 2 fun _ => KS ?_
 refine Oq Vm (Oq (Vfa fo25_0 1) (Oq (VldF sh23 1) (Oq (Vlen sl23) (Oq Vlss (KS ?_)))))
 refine Kc ?_ ?_
 ·intro h27
  have g28 := dt h27
  have hVf := hVb.2 i_15.toNat
  obtain ⟨r29, rfl⟩ := scc (n := r13) aM1
  refine KS ?_
  refine Oq Va (KS ?_)
  refine Kl (γ := Nat × List Str × Int × Option Addr × Nat) (fun (r30, out_31, k_32, a33, k34) => ⟨[(1, p2), (3, vl a33 k34 out_31), (4, vi i_15), (5, vi k_32)], [O a33 k34 out_31, pv p2 [vl pa0 pk0 p.Funcs], S pa0 pk0 p.Funcs], r4_Variables_L1 p i_15 r30 out_31 k_32 = r4_Variables_L1 p i_15 ((((((p.Funcs.getD i_15.toNat default).Blocks).length : Int) : Int) - 0).toNat) out_14 0 ∧ r30 = (((((p.Funcs.getD i_15.toNat default).Blocks).length : Int) : Int) - k_32).toNat ∧ (0 : Int) ≤ k_32 ∧ (k_32 ≤ (((p.Funcs.getD i_15.toNat default).Blocks).length : Int) ∨ k_32 = 0) ∧ (-9223372036854775808 ≤ k_32 ∧ k_32 ≤ 9223372036854775807) ∧ ((out_31.length : Int) ≤ (out_14.length : Int) + 180 * k_32), r30⟩) ((((((p.Funcs.getD i_15.toNat default).Blocks).length : Int) : Int) - 0).toNat, out_14, 0, a16, k17) [0, 0, 1] ⟨rfl, rfl, aM1, (.inr rfl), aM1, iv0⟩ ?_
  rintro ⟨r30, out_31, k_32, a33, k34⟩ ⟨hM35, hr36, hi37, hi38, hk39, hv40⟩
  refine JJ_nx fun _ _ hL hA => ?_; dsimp only at hL hA; subst hL hA
  refine Fb 16 0 fun _ => ?_
  refine FoS 0 fun ho42 => ?_
  refine Fb 40 2 fun _ => KS ?_
  refine Oq Vm (Oq (Vfa fo25_0 1) (Oq (VldF sh23 1) (Oq Vm (Oq (Vi sl23 2) ?_))))
  refine JJ_peek_GFunc i_15.toNat 2 rfl rng fun a44 k45 hb46 => ?_
  refine Fb 40 1 fun _ => ?_
  refine Oq (Vfa fo31_1 0) (Oq (VldF sh29 0) (Oq (Vlen sl29) (Oq Vlss (KS ?_))))
  refine Kc ?_ ?_
  ·intro h48
   have g49 := dt h48
   have hVk := hVf.2 k_32.toNat
   obtain ⟨r50, rfl⟩ := scc (n := r30) aM1
   refine KS ?_
   refine Oq (Vfa fo25_0 3) (Oq (VldF sh23 3) (Oq Vm (Oq (Vi sl23 4) (Oq (Vfa fo31_1 0) (Oq (VldF sh29 0) (Oq Vm (Oq (Vi sl29 1) ?_)))))))
   refine JJ_peek_GBlock k_32.toNat 1 rfl rng fun a51 k52 hb53 => ?_
   refine Fb 72 1 fun _ => ?_
   refine Oq (Vfa fo34_1 0) (Oq (VldF sh32 0) (Oq Va (KS ?_)))
   refine Oq Va (KS ?_)
   refine Kl (γ := Nat × List Str × Int × Option Addr × Nat) (fun (r55, out_56, j_57, a58, k59) => ⟨[(1, p2), (3, vl a58 k59 out_56), (4, vi i_15), (5, vi k_32), (6, .slice a51 (((((p.Funcs.getD i_15.toNat default).Blocks).getD k_32.toNat default).Stmts).length) k52), (7, vi j_57)], [O a58 k59 out_56, S a51 k52 ((((p.Funcs.getD i_15.toNat default).Blocks).getD k_32.toNat default).Stmts), pv p2 [vl pa0 pk0 p.Funcs], S pa0 pk0 p.Funcs], r4_Variables_L2 ((((p.Funcs.getD i_15.toNat default).Blocks).getD k_32.toNat default).Stmts) r55 out_56 j_57 = r4_Variables_L2 ((((p.Funcs.getD i_15.toNat default).Blocks).getD k_32.toNat default).Stmts) ((((((((p.Funcs.getD i_15.toNat default).Blocks).getD k_32.toNat default).Stmts).length : Int) : Int) - 0).toNat) out_31 0 ∧ r55 = (((((((p.Funcs.getD i_15.toNat default).Blocks).getD k_32.toNat default).Stmts).length : Int) : Int) - j_57).toNat ∧ (0 : Int) ≤ j_57 ∧ (j_57 ≤ (((((p.Funcs.getD i_15.toNat default).Blocks).getD k_32.toNat default).Stmts).length : Int) ∨ j_57 = 0) ∧ (-9223372036854775808 ≤ j_57 ∧ j_57 ≤ 9223372036854775807) ∧ ((out_56.length : Int) ≤ (out_31.length : Int) + 5 * j_57), r55⟩) ((((((((p.Funcs.getD i_15.toNat default).Blocks).getD k_32.toNat default).Stmts).length : Int) : Int) - 0).toNat, out_31, 0, a33, k34) [4, 1, 4, 5] ⟨rfl, rfl, aM1, (.inr rfl), aM1, iv0⟩ ?_
   rintro ⟨r55, out_56, j_57, a58, k59⟩ ⟨hM60, hr61, hi62, hi63, hk64, hv65⟩
   refine JJ_nx fun _ _ hL hA => ?_; dsimp only at hL hA; subst hL hA
   refine Fb 16 0 fun _ => ?_
   refine FoS 0 fun ho67 => ?_
   refine Fb 72 1 fun _ => Fb 40 3 fun _ => KS ?_
   refine Oq Vm (Oq Vm (Oq (Vlen sl32) (Oq Vlss (KS ?_))))
   refine Kc ?_ ?_
   ·intro h70
    have g71 := dt h70
    have hVs := hVk.2 j_57.toNat
    obtain ⟨r72, rfl⟩ := scc (n := r55) aM1
    refine KS ?_
    refine Oq Vm (Oq Vm (Oq (Vi sl32 1) ?_))
    refine JJ_peek_GStmt j_57.toNat 1 rfl rng fun a73 k74 a75 k76 hb77 hb78 => ?_
    unfold i64ok at hb77
    refine Fb 16 1 fun _ => ?_
    refine FoS 1 fun ho80 => ?_
    refine Fb 16 2 fun _ => ?_
    refine FoS 2 fun ho82 => ?_
    refine Oq (Vfa fo37_2 0) (Oq (VldF sh35 0) (Oq Va (KS ?_)))
    refine Oq Vm (Oq Vm (Oq (Vi sl32 4) (Oq (Vfa fo37_1 0) (Oq (VldF sh9 0) (Oq (VneS (l := (((((p.Funcs.getD i_15.toNat default).Blocks).getD k_32.toNat default).Stmts).getD j_57.toNat default).Def) (m := (Str.mk []))) (KS ?_))))))
    refine Kc ?_ ?_
    ·intro h83
     have g84 := ne_of_bne h83
     refine JK_drawK [0, 0, 3, 7, 15, 31, 0, 0, 192, 448, 960, 2047, 4095] fmix ?_
     refine Dv [] Vm (Dv [] Vm (Dv [4] (Vi sl32 0) (Dv [0] (Vfa fo37_1 0) (Dv [0] (VldF sh9 0) (Dx [] [] [0] (fun G => (G.g 5 0)) [fun G => Cr (G.g 5 0) 1 [.string (bs ((((((p.Funcs.getD i_15.toNat default).Blocks).getD k_32.toNat default).Stmts).getD j_57.toNat default).Def))]] (fun G => xA (AsV sl35 sz35 [.string (bs ((((((p.Funcs.getD i_15.toNat default).Blocks).getD k_32.toNat default).Stmts).getD j_57.toNat default).Def))] [.string (bs ((((((p.Funcs.getD i_15.toNat default).Blocks).getD k_32.toNat default).Stmts).getD j_57.toNat default).Def))])) (Dv [] Vm (Dv [] Vm (Dv [4] (Vi sl32 0) (Dv [0] (Vfa fo37_2 0) ?_)))))))))
     refine Dv [0] (VldF sh35 0) ?_
     have hn87 : ([(((((p.Funcs.getD i_15.toNat default).Blocks).getD k_32.toNat default).Stmts).getD j_57.toNat default).Def] ++ (((((p.Funcs.getD i_15.toNat default).Blocks).getD k_32.toNat default).Stmts).getD j_57.toNat default).Uses : List Str).length = 1 + ((((((p.Funcs.getD i_15.toNat default).Blocks).getD k_32.toNat default).Stmts).getD j_57.toNat default).Uses).length := la ([(((((p.Funcs.getD i_15.toNat default).Blocks).getD k_32.toNat default).Stmts).getD j_57.toNat default).Def] : List Str) ((((((p.Funcs.getD i_15.toNat default).Blocks).getD k_32.toNat default).Stmts).getD j_57.toNat default).Uses)
     refine Dx [1, 7] [7] [1, 0] (fun G => (G.g 11 0)) [fun G => os (G.g 11 0) (([(((((p.Funcs.getD i_15.toNat default).Blocks).getD k_32.toNat default).Stmts).getD j_57.toNat default).Def] ++ (((((p.Funcs.getD i_15.toNat default).Blocks).getD k_32.toNat default).Stmts).getD j_57.toNat default).Uses) : List Str)] (fun G => xp [1] rfl (Ent.cr1 (α := Str) (A := []) _ ((((((p.Funcs.getD i_15.toNat default).Blocks).getD k_32.toNat default).Stmts).getD j_57.toNat default).Def) _ aB1 (fun _ => ⟨rfl, aS1⟩)) (xA (Ap [0, 0] sl35 sl35 sz35))) (Dg [] (fun G => (G.g 11 0)) (fun G => Va) ?_)
     refine Dn ⟨by kernel_rfl, fun G => ?_⟩
     refine Jw2 [(1, p2), (3, vl a58 k59 out_56), (4, vi i_15), (5, vi k_32), (6, .slice a51 (((((p.Funcs.getD i_15.toNat default).Blocks).getD k_32.toNat default).Stmts).length) k52), (7, vi j_57), (8, (G.g 11 0))] [0, 1, 2, 3, 4, 5, 6] [os (G.g 11 0) (([(((((p.Funcs.getD i_15.toNat default).Blocks).getD k_32.toNat default).Stmts).getD j_57.toNat default).Def] ++ (((((p.Funcs.getD i_15.toNat default).Blocks).getD k_32.toNat default).Stmts).getD j_57.toNat default).Uses) : List Str)] ?_
     generalize G.g 11 0 = c86
     refine Jo 7 ?_; rintro a88 k89 rfl
     refine Fb 16 7 fun _ => ?_
     refine FoS 7 fun ho91 => ?_
     refine KS ?_
     refine Oq Va (KS ?_)
     refine Kl (γ := Nat × List Str × Int × Option Addr × Nat) (fun (r92, out_93, n_94, a95, k96) => ⟨[(1, p2), (3, vl a95 k96 out_93), (4, vi i_15), (5, vi k_32), (6, .slice a51 (((((p.Funcs.getD i_15.toNat default).Blocks).getD k_32.toNat default).Stmts).length) k52), (7, vi j_57), (8, .slice a88 (([(((((p.Funcs.getD i_15.toNat default).Blocks).getD k_32.toNat default).Stmts).getD j_57.toNat default).Def] ++ (((((p.Funcs.getD i_15.toNat default).Blocks).getD k_32.toNat default).Stmts).getD j_57.toNat default).Uses).length) k89), (9, vi n_94)], [O a95 k96 out_93, S a51 k52 ((((p.Funcs.getD i_15.toNat default).Blocks).getD k_32.toNat default).Stmts), pv p2 [vl pa0 pk0 p.Funcs], S pa0 pk0 p.Funcs, O a88 k89 (([(((((p.Funcs.getD i_15.toNat default).Blocks).getD k_32.toNat default).Stmts).getD j_57.toNat default).Def] ++ (((((p.Funcs.getD i_15.toNat default).Blocks).getD k_32.toNat default).Stmts).getD j_57.toNat default).Uses) : List Str)], r4_Variables_L3 ([(((((p.Funcs.getD i_15.toNat default).Blocks).getD k_32.toNat default).Stmts).getD j_57.toNat default).Def] ++ (((((p.Funcs.getD i_15.toNat default).Blocks).getD k_32.toNat default).Stmts).getD j_57.toNat default).Uses) r92 out_93 n_94 = r4_Variables_L3 ([(((((p.Funcs.getD i_15.toNat default).Blocks).getD k_32.toNat default).Stmts).getD j_57.toNat default).Def] ++ (((((p.Funcs.getD i_15.toNat default).Blocks).getD k_32.toNat default).Stmts).getD j_57.toNat default).Uses) ((((([(((((p.Funcs.getD i_15.toNat default).Blocks).getD k_32.toNat default).Stmts).getD j_57.toNat default).Def] ++ (((((p.Funcs.getD i_15.toNat default).Blocks).getD k_32.toNat default).Stmts).getD j_57.toNat default).Uses).length : Int) : Int) - 0).toNat) out_56 0 ∧ r92 = (((([(((((p.Funcs.getD i_15.toNat default).Blocks).getD k_32.toNat default).Stmts).getD j_57.toNat default).Def] ++ (((((p.Funcs.getD i_15.toNat default).Blocks).getD k_32.toNat default).Stmts).getD j_57.toNat default).Uses).length : Int) : Int) - n_94).toNat ∧ (0 : Int) ≤ n_94 ∧ (n_94 ≤ (([(((((p.Funcs.getD i_15.toNat default).Blocks).getD k_32.toNat default).Stmts).getD j_57.toNat default).Def] ++ (((((p.Funcs.getD i_15.toNat default).Blocks).getD k_32.toNat default).Stmts).getD j_57.toNat default).Uses).length : Int) ∨ n_94 = 0) ∧ (-9223372036854775808 ≤ n_94 ∧ n_94 ≤ 9223372036854775807) ∧ ((out_93.length : Int) ≤ (out_56.length : Int) + n_94), r92⟩) ((((([(((((p.Funcs.getD i_15.toNat default).Blocks).getD k_32.toNat default).Stmts).getD j_57.toNat default).Def] ++ (((((p.Funcs.getD i_15.toNat default).Blocks).getD k_32.toNat default).Stmts).getD j_57.toNat default).Uses).length : Int) : Int) - 0).toNat, out_56, 0, a58, k59) [3, 3, 4, 5, 6] ⟨rfl, rfl, aM1, (.inr rfl), aM1, iv0⟩ ?_
     rintro ⟨r92, out_93, n_94, a95, k96⟩ ⟨hM97, hr98, hi99, hi100, hk101, hv102⟩
     refine JJ_nx fun _ _ hL hA => ?_; dsimp only at hL hA; subst hL hA
     refine Fb 16 0 fun _ => ?_
     refine FoS 0 fun ho104 => ?_
     refine Fb 72 1 fun _ => Fb 40 3 fun _ => Fb 16 4 fun _ => ?_
     refine FoS 4 fun ho108 => ?_
     refine KS ?_
     refine Oq Vm (Oq Vm (Oq (Vlen sl35) (Oq Vlss (KS ?_))))
     refine Kc ?_ ?_
     ·intro h109
      have g110 := dt h109
      obtain ⟨r111, rfl⟩ := scc (n := r92) aM1
      refine KS ?_
      refine Oq Vm (Oq Vm (Oq Vm (Oq (Vi sl35 4) ?_)))
      have hb112 := okS (i := n_94.toNat) ho108 rng
      refine Oq (VldS sh9 4) ?_
      refine letv (r4_Place out_93 (([(((((p.Funcs.getD i_15.toNat default).Blocks).getD k_32.toNat default).Stmts).getD j_57.toNat default).Def] ++ (((((p.Funcs.getD i_15.toNat default).Blocks).getD k_32.toNat default).Stmts).getD j_57.toNat default).Uses).getD n_94.toNat default)) fun rv113 hg114 => ?_
      refine Oc [0] ca24 (FT_borrow (A := _) (fun _ _ h => by cases h) (FT_ent (Ent.take (is := [0]) rfl) (fn24 out_93 a95 k96 ((([(((((p.Funcs.getD i_15.toNat default).Blocks).getD k_32.toNat default).Stmts).getD j_57.toNat default).Def] ++ (((((p.Funcs.getD i_15.toNat default).Blocks).getD k_32.toNat default).Stmts).getD j_57.toNat default).Uses).getD n_94.toNat default)) pre rv113 hg114))) ?_ (ht := rfl)
      rintro - he115
      unfold i64ok at he115
      refine Oq Vlss (KS ?_)
      refine Kc ?_ ?_
      ·intro h116
       have g117 := dt h116
       refine KS ?_
       refine Oq Vm (Oq Vm (Oq Vm (Oq (Vi sl35 4) ?_)))
       have hb118 := okS (i := n_94.toNat) ho108 rng
       refine Oq (VldS sh9 4) (Oa (AsV sl35 sz35 [.string (bs (([(((((p.Funcs.getD i_15.toNat default).Blocks).getD k_32.toNat default).Stmts).getD j_57.toNat default).Def] ++ (((((p.Funcs.getD i_15.toNat default).Blocks).getD k_32.toNat default).Stmts).getD j_57.toNat default).Uses).getD n_94.toNat default))] [.string (bs (([(((((p.Funcs.getD i_15.toNat default).Blocks).getD k_32.toNat default).Stmts).getD j_57.toNat default).Def] ++ (((((p.Funcs.getD i_15.toNat default).Blocks).getD k_32.toNat default).Stmts).getD j_57.toNat default).Uses).getD n_94.toNat default))]) fun c119 => ?_)
       refine Jo 0 ?_; rintro a120 k121 rfl
       refine Jl [0] (Ent.cr1 (α := Str) (A := []) _ (([(((((p.Funcs.getD i_15.toNat default).Blocks).getD k_32.toNat default).Stmts).getD j_57.toNat default).Def] ++ (((((p.Funcs.getD i_15.toNat default).Blocks).getD k_32.toNat default).Stmts).getD j_57.toNat default).Uses).getD n_94.toNat default) _ aB1 (fun _ => ⟨rfl, aS1⟩)) ?_
       refine Oa (ApO [1, 0] sl35 sl35 sz35) fun c122 => ?_
       refine Jo 0 ?_; rintro a123 k124 rfl
       refine Fb 16 0 fun _ => ?_
       refine FoS 0 fun ho126 => ?_
       have hn127 := la out_93 ([(([(((((p.Funcs.getD i_15.toNat default).Blocks).getD k_32.toNat default).Stmts).getD j_57.toNat default).Def] ++ (((((p.Funcs.getD i_15.toNat default).Blocks).getD k_32.toNat default).Stmts).getD j_57.toNat default).Uses).getD n_94.toNat default)] : List Str)
       refine Oq Va (KS ?_)
       refine Oq Vm (Oq Vadd (Oq Va (KS ?_)))
       exact Kg (r111, (out_93 ++ [(([(((((p.Funcs.getD i_15.toNat default).Blocks).getD k_32.toNat default).Stmts).getD j_57.toNat default).Def] ++ (((((p.Funcs.getD i_15.toNat default).Blocks).getD k_32.toNat default).Stmts).getD j_57.toNat default).Uses).getD n_94.toNat default)]), (n_94 + 1), a123, k124) [0, 0, 1, 2, 3] ⟨(q3 hM97 (by simp only [r4_Variables_L3, h109, h116, hg114, cs4])), aM1, aM1, aM1, aM1, iv1⟩
      intro h116
      have g128 := df h116
      refine KS ?_
      refine Oq Vm (Oq Vadd (Oq Va (KS ?_)))
      exact Kg (r111, out_93, (n_94 + 1), a95, k96) [0, 0, 1, 2, 3] ⟨(q3 hM97 (by simp only [r4_Variables_L3, h109, h116, hg114, cs4])), aM1, aM1, aM1, aM1, iv1⟩
     intro h109
     have g129 := df h109
     obtain rfl : r92 = 0 := by omega
     refine Ke ?_
     have hR130 := q2 hM97 out_93 (by simp only [r4_Variables_L3, h109, cs4])
     refine KS ?_
     refine Oq Vm (Oq Vadd (Oq Va (KS ?_)))
     exact Kg (r72, out_93, (j_57 + 1), a95, k96) [0, 0, 1, 2] ⟨(q3 hM60 (by simp only [r4_Variables_L2, h70, h83, h109, hR130, cs4])), aM1, aM1, aM1, aM1, iv1⟩
    intro h83
    have g131 := eq_of_bne_false h83
    refine KS ?_
    refine Oq Va (KS ?_)
    refine Kl (γ := Nat × List Str × Int × Option Addr × Nat) (fun (r132, out_133, n_134, a135, k136) => ⟨[(1, p2), (3, vl a135 k136 out_133), (4, vi i_15), (5, vi k_32), (6, .slice a51 (((((p.Funcs.getD i_15.toNat default).Blocks).getD k_32.toNat default).Stmts).length) k52), (7, vi j_57), (8, .slice a73 (((((((p.Funcs.getD i_15.toNat default).Blocks).getD k_32.toNat default).Stmts).getD j_57.toNat default).Uses).length) k74), (9, vi n_134)], [O a135 k136 out_133, S a73 k74 ((((((p.Funcs.getD i_15.toNat default).Blocks).getD k_32.toNat default).Stmts).getD j_57.toNat default).Uses), S a51 k52 ((((p.Funcs.getD i_15.toNat default).Blocks).getD k_32.toNat default).Stmts), pv p2 [vl pa0 pk0 p.Funcs], S pa0 pk0 p.Funcs], r4_Variables_L3 ((((((p.Funcs.getD i_15.toNat default).Blocks).getD k_32.toNat default).Stmts).getD j_57.toNat default).Uses) r132 out_133 n_134 = r4_Variables_L3 ((((((p.Funcs.getD i_15.toNat default).Blocks).getD k_32.toNat default).Stmts).getD j_57.toNat default).Uses) ((((((((((p.Funcs.getD i_15.toNat default).Blocks).getD k_32.toNat default).Stmts).getD j_57.toNat default).Uses).length : Int) : Int) - 0).toNat) out_56 0 ∧ r132 = (((((((((p.Funcs.getD i_15.toNat default).Blocks).getD k_32.toNat default).Stmts).getD j_57.toNat default).Uses).length : Int) : Int) - n_134).toNat ∧ (0 : Int) ≤ n_134 ∧ (n_134 ≤ (((((((p.Funcs.getD i_15.toNat default).Blocks).getD k_32.toNat default).Stmts).getD j_57.toNat default).Uses).length : Int) ∨ n_134 = 0) ∧ (-9223372036854775808 ≤ n_134 ∧ n_134 ≤ 9223372036854775807) ∧ ((out_133.length : Int) ≤ (out_56.length : Int) + n_134), r132⟩) ((((((((((p.Funcs.getD i_15.toNat default).Blocks).getD k_32.toNat default).Stmts).getD j_57.toNat default).Uses).length : Int) : Int) - 0).toNat, out_56, 0, a58, k59) [3, 1, 3, 4, 5] ⟨rfl, rfl, aM1, (.inr rfl), aM1, iv0⟩ ?_
    rintro ⟨r132, out_133, n_134, a135, k136⟩ ⟨hM137, hr138, hi139, hi140, hk141, hv142⟩
    refine JJ_nx fun _ _ hL hA => ?_; dsimp only at hL hA; subst hL hA
    refine Fb 16 0 fun _ => ?_
    refine FoS 0 fun ho144 => ?_
    refine Fb 16 1 fun _ => ?_
    refine FoS 1 fun ho146 => ?_
    refine Fb 72 2 fun _ => Fb 40 4 fun _ => KS ?_
    refine Oq Vm (Oq Vm (Oq (Vlen sl35) (Oq Vlss (KS ?_))))
    refine Kc ?_ ?_
    ·intro h149
     have g150 := dt h149
     obtain ⟨r151, rfl⟩ := scc (n := r132) aM1
     refine KS ?_
     refine Oq Vm (Oq Vm (Oq Vm (Oq (Vi sl35 1) ?_)))
     have hb152 := okS (i := n_134.toNat) ho146 rng
     refine Oq (VldS sh9 1) ?_
     refine letv (r4_Place out_133 (((((((p.Funcs.getD i_15.toNat default).Blocks).getD k_32.toNat default).Stmts).getD j_57.toNat default).Uses).getD n_134.toNat default)) fun rv153 hg154 => ?_
     refine Oc [0] ca24 (FT_borrow (A := _) (fun _ _ h => by cases h) (FT_ent (Ent.take (is := [0]) rfl) (fn24 out_133 a135 k136 ((((((((p.Funcs.getD i_15.toNat default).Blocks).getD k_32.toNat default).Stmts).getD j_57.toNat default).Uses).getD n_134.toNat default)) pre rv153 hg154))) ?_ (ht := rfl)
     rintro - he155
     unfold i64ok at he155
     refine Oq Vlss (KS ?_)
     refine Kc ?_ ?_
     ·intro h156
      have g157 := dt h156
      refine KS ?_
      refine Oq Vm (Oq Vm (Oq Vm (Oq (Vi sl35 1) ?_)))
      have hb158 := okS (i := n_134.toNat) ho146 rng
      refine Oq (VldS sh9 1) (Oa (AsV sl35 sz35 [.string (bs (((((((p.Funcs.getD i_15.toNat default).Blocks).getD k_32.toNat default).Stmts).getD j_57.toNat default).Uses).getD n_134.toNat default))] [.string (bs (((((((p.Funcs.getD i_15.toNat default).Blocks).getD k_32.toNat default).Stmts).getD j_57.toNat default).Uses).getD n_134.toNat default))]) fun c159 => ?_)
      refine Jo 0 ?_; rintro a160 k161 rfl
      refine Jl [0] (Ent.cr1 (α := Str) (A := []) _ (((((((p.Funcs.getD i_15.toNat default).Blocks).getD k_32.toNat default).Stmts).getD j_57.toNat default).Uses).getD n_134.toNat default) _ aB1 (fun _ => ⟨rfl, aS1⟩)) ?_
      refine Oa (ApO [1, 0] sl35 sl35 sz35) fun c162 => ?_
      refine Jo 0 ?_; rintro a163 k164 rfl
      refine Fb 16 0 fun _ => ?_
      refine FoS 0 fun ho166 => ?_
      have hn167 := la out_133 ([(((((((p.Funcs.getD i_15.toNat default).Blocks).getD k_32.toNat default).Stmts).getD j_57.toNat default).Uses).getD n_134.toNat default)] : List Str)
      refine Oq Va (KS ?_)
      refine Oq Vm (Oq Vadd (Oq Va (KS ?_)))
      exact Kg (r151, (out_133 ++ [(((((((p.Funcs.getD i_15.toNat default).Blocks).getD k_32.toNat default).Stmts).getD j_57.toNat default).Uses).getD n_134.toNat default)]), (n_134 + 1), a163, k164) [0, 0, 1, 2, 3] ⟨(q3 hM137 (by simp only [r4_Variables_L3, h149, h156, hg154, cs4])), aM1, aM1, aM1, aM1, iv1⟩
     intro h156
     have g168 := df h156
     refine KS ?_
     refine Oq Vm (Oq Vadd (Oq Va (KS ?_)))
     exact Kg (r151, out_133, (n_134 + 1), a135, k136) [0, 0, 1, 2, 3] ⟨(q3 hM137 (by simp only [r4_Variables_L3, h149, h156, hg154, cs4])), aM1, aM1, aM1, aM1, iv1⟩
    intro h149
    have g169 := df h149
    obtain rfl : r132 = 0 := by omega
    refine Ke ?_
    have hR170 := q2 hM137 out_133 (by simp only [r4_Variables_L3, h149, cs4])
    refine KS ?_
    refine Oq Vm (Oq Vadd (Oq Va (KS ?_)))
    exact Kg (r72, out_133, (j_57 + 1), a135, k136) [0, 1, 2, 3] ⟨(q3 hM60 (by simp only [r4_Variables_L2, h70, h83, h149, hR170, cs4])), aM1, aM1, aM1, aM1, iv1⟩
   intro h70
   have g171 := df h70
   obtain rfl : r55 = 0 := by omega
   refine Ke ?_
   have hR172 := q2 hM60 out_56 (by simp only [r4_Variables_L2, h70, cs4])
   refine KS ?_
   refine Oq Vm (Oq Vadd (Oq Va (KS ?_)))
   exact Kg (r50, out_56, (k_32 + 1), a58, k59) [0, 1, 2] ⟨(q3 hM35 (by simp only [r4_Variables_L1, h48, h70, hR172, cs4])), aM1, aM1, aM1, aM1, iv1⟩
  intro h48
  have g173 := df h48
  obtain rfl : r30 = 0 := by omega
  refine Ke ?_
  have hR174 := q2 hM35 out_31 (by simp only [r4_Variables_L1, h48, cs4])
  refine KS ?_
  refine Oq Vm (Oq Vadd (Oq Va (KS ?_)))
  exact Kg (r29, out_31, (i_15 + 1), a33, k34) [2, 2, 3] ⟨(q3 hM18 (by simp only [r4_Variables_L0, h27, h48, hR174, cs4])), aM1, aM1, aM1, aM1, iv1⟩
 intro h27
 have g175 := df h27
 obtain rfl : r13 = 0 := by omega
 refine Ke ?_
 have hR176 := q2 hM18 out_14 (by simp only [r4_Variables_L0, h27, cs4])
 refine KS ?_
 refine Oq Vm (Oq Va (KS ?_))
 refine Jl [0] (Ent.freeze _ _) ?_
 have hq := q4 hrr out_14 (by simp only [r4_Variables, h6, h11, h27, hg4, hR176, cs4]); subst hq
 exact Kr (vl a16 k17 out_14) rfl (.tmp rfl .nil) [0] trivial
theorem fn29 (p : GProgram) (pa0 : Option Addr) (pk0 : Nat) (rr : GNode × Int) (hrr : r4_Check p = rr) : FT Tryz.prog 29 #[.agg #[vl pa0 pk0 p.Funcs]] [S pa0 pk0 p.Funcs] (fun g : Unit => i64ok rr.1.Kind ∧ i64ok rr.1.Func ∧ i64ok rr.1.Block ∧ i64ok rr.1.Stmt ∧ i64ok rr.2) (fun g => .tuple #[.agg #[vi rr.1.Kind, vi rr.1.Func, vi rr.1.Block, vi rr.1.Stmt], vi rr.2]) (fun g => []) := by
 refine FTi Tryz.func29 fun w0 M0 F0 => Fb 40 0 fun _ => ?_
 refine KS ?_
 refine Oa (Ab [vl pa0 pk0 p.Funcs]) fun p2 => Oa (Al ze63 [vi 0, vi 0, vi 0, vi 0]) fun p3 => Oq Va (KS ?_)
 refine Oq (VldA sh25 1) ?_
 refine letv (r4_Valid p) fun rv4 hg5 => ?_
 have hc6 := fn23 p pa0 pk0 rv4 hg5
 refine Oc [2] ca23 hc6 ?_
 rintro - -
 refine Oq Vnot (KS ?_)
 refine Kc ?_ ?_
 ·intro h7
  have h9 := not_true h7
  refine KS ?_
  refine Oq (Vbd st63 [vi 0, vi 0, vi 0, vi 0]) (Ost (Scl [0] sh63 [vi 0, vi 0, vi 0, vi 0]) (Oq Va (KS ?_)))
  have hq := q4 hrr ((GNode.mk 0 0 0 0), 1) (by simp only [r4_Check, h7, h9, hg5, cs4]); subst hq
  exact Kr () rfl (.cellN 0 rfl sh63 rfl (reads_Cl _ _) rfl (.tmp rfl .nil)) [] en
 intro h7
 have h12 := not_false h7
 refine KS ?_
 refine Oq (VldA sh25 1) ?_
 refine letv (r4_funcNames p) fun rv15 hg16 => ?_
 have hc17 := fn59 p pa0 pk0 rv15 hg16
 refine Oc [2] ca59 hc17 ?_
 rintro c14 -
 refine Jo 0 ?_; rintro a18 k19 rfl
 refine Fb 16 0 fun _ => ?_
 refine FoS 0 fun ho21 => ?_
 refine letv (r4_repeated rv15) fun rv22 hg23 => ?_
 have hc24 := fn58 rv15 a18 k19 rv22 hg23
 refine Oc [0] ca58 hc24 ?_
 rintro - he25
 unfold i64ok at he25
 refine Oq Va (KS ?_)
 refine Oq Vm (Oq Vgeq (KS ?_))
 refine Kc ?_ ?_
 ·intro h26
  have g27 := dt h26
  refine KS ?_
  refine Oq Vm (Oq (Vbd st63 [vi 1, vi rv22, vi (-1), vi (-1)]) (Ost (Scl [1] sh63 [vi 1, vi rv22, vi (-1), vi (-1)]) (Oq Va (KS ?_))))
  have hq := q4 hrr ((GNode.mk 1 rv22 (-1) (-1)), 6) (by simp only [r4_Check, h7, h12, h26, hg5, hg16, hg23, cs4]); subst hq
  exact Kr () rfl (.cellN 0 rfl sh63 rfl (reads_Cl _ _) rfl (.tmp rfl .nil)) [] en
 intro h26
 have g28 := df h26
 refine KS ?_
 refine Oq Va (KS ?_)
 refine Kl (γ := Nat × Int) (fun (r29, i_30) => ⟨[(1, p2), (2, p3), (5, vi i_30)], [Cl p3 [vi 0, vi 0, vi 0, vi 0], pv p2 [vl pa0 pk0 p.Funcs], S pa0 pk0 p.Funcs], r4_Check_L0 p r29 i_30 = r4_Check_L0 p (((p.Funcs.length : Int) - 0).toNat) 0 ∧ r29 = ((p.Funcs.length : Int) - i_30).toNat ∧ (0 : Int) ≤ i_30 ∧ i_30 ≤ (p.Funcs.length : Int) ∧ (-9223372036854775808 ≤ i_30 ∧ i_30 ≤ 9223372036854775807), r29⟩) (((p.Funcs.length : Int) - 0).toNat, 0) [1, 1, 2] ⟨rfl, rfl, aM1, aM1, aM1⟩ ?_
 rintro ⟨r29, i_30⟩ ⟨hM31, hr32, hi33, hi34, hk35⟩
 refine JJ_nx fun _ _ hL hA => ?_; dsimp only at hL hA; subst hL hA
 refine Fb 40 2 fun _ => KS ?_
 refine Oq Vm (Oq (Vfa fo25_0 1) (Oq (VldF sh23 1) (Oq (Vlen sl23) (Oq Vlss (KS ?_)))))
 refine Kc ?_ ?_
 ·intro h37
  have g38 := dt h37
  obtain ⟨r39, rfl⟩ := scc (n := r29) aM1
  refine KS ?_
  refine Oq (Vfa fo25_0 1) (Oq (VldF sh23 1) (Oq Vm (Oq (Vi sl23 2) ?_)))
  refine JJ_peek_GFunc i_30.toNat 2 rfl rng fun a40 k41 hb42 => ?_
  refine Fb 40 1 fun _ => ?_
  refine Oq (VldA sh31 0) (Oa (Al ze31 [.string (bs (Str.mk [])), .slice none 0 0]) fun p44 => Ost (Scl [0] sh31 [.string (bs ((p.Funcs.getD i_30.toNat default).Name)), vl a40 k41 ((p.Funcs.getD i_30.toNat default).Blocks)]) (KS ?_))
  refine Oq (VldA sh31 0) ?_
  refine letv (r4_BlockNames (p.Funcs.getD i_30.toNat default)) fun rv46 hg47 => ?_
  have hc48 := fn60 ((p.Funcs.getD i_30.toNat default)) a40 k41 pre rv46 hg47
  refine Oc [2] ca60 hc48 ?_
  rintro c45 -
  refine Jo 0 ?_; rintro a49 k50 rfl
  refine Fb 16 0 fun _ => ?_
  refine FoS 0 fun ho52 => ?_
  refine letv (r4_repeated rv46) fun rv53 hg54 => ?_
  have hc55 := fn58 rv46 a49 k50 rv53 hg54
  refine Oc [0] ca58 hc55 ?_
  rintro - he56
  unfold i64ok at he56
  refine Oq Va (KS ?_)
  refine Oq Vm (Oq Vgeq (KS ?_))
  refine Kc ?_ ?_
  ·intro h57
   have g58 := dt h57
   refine KS ?_
   refine Oq Vm (Oq Vm (Oq (Vbd st63 [vi 3, vi i_30, vi rv53, vi (-1)]) (Ost (Scl [4] sh63 [vi 3, vi i_30, vi rv53, vi (-1)]) (Oq Va (KS ?_)))))
   have hR59 := q2 hM31 (.ret ((GNode.mk 3 i_30 rv53 (-1)), 6)) (by simp only [r4_Check_L0, h37, h57, hg47, hg54, cs4])
   have hq := q4 hrr ((GNode.mk 3 i_30 rv53 (-1)), 6) (by simp only [r4_Check, h7, h12, h26, h37, h57, hg5, hg16, hg23, hg47, hg54, hR59, cs4]); subst hq
   exact Kr () rfl (.cellN 0 rfl sh63 rfl (reads_Cl _ _) rfl (.tmp rfl .nil)) [] en
  intro h57
  have g60 := df h57
  refine KS ?_
  refine Oq Va (KS ?_)
  refine Kl (γ := Nat × Int) (fun (r61, k_62) => ⟨[(1, p2), (2, p3), (5, vi i_30), (6, p44), (8, vi k_62)], [Cl p44 [.string (bs ((p.Funcs.getD i_30.toNat default).Name)), vl a40 k41 ((p.Funcs.getD i_30.toNat default).Blocks)], S a40 k41 ((p.Funcs.getD i_30.toNat default).Blocks), Cl p3 [vi 0, vi 0, vi 0, vi 0], pv p2 [vl pa0 pk0 p.Funcs], S pa0 pk0 p.Funcs], r4_Check_L1 p i_30 ((p.Funcs.getD i_30.toNat default).Name) ((p.Funcs.getD i_30.toNat default).Blocks) r61 k_62 = r4_Check_L1 p i_30 ((p.Funcs.getD i_30.toNat default).Name) ((p.Funcs.getD i_30.toNat default).Blocks) ((((((p.Funcs.getD i_30.toNat default).Blocks).length : Int) : Int) - 0).toNat) 0 ∧ r61 = (((((p.Funcs.getD i_30.toNat default).Blocks).length : Int) : Int) - k_62).toNat ∧ (0 : Int) ≤ k_62 ∧ (k_62 ≤ (((p.Funcs.getD i_30.toNat default).Blocks).length : Int) ∨ k_62 = 0) ∧ (-9223372036854775808 ≤ k_62 ∧ k_62 ≤ 9223372036854775807), r61⟩) ((((((p.Funcs.getD i_30.toNat default).Blocks).length : Int) : Int) - 0).toNat, 0) [1, 2, 3, 3, 4] ⟨rfl, rfl, aM1, (.inr rfl), aM1⟩ ?_
  rintro ⟨r61, k_62⟩ ⟨hM63, hr64, hi65, hi66, hk67⟩
  refine JJ_nx fun _ _ hL hA => ?_; dsimp only at hL hA; subst hL hA
  refine Fb 40 1 fun _ => Fb 40 4 fun _ => KS ?_
  refine Oq Vm (Oq (Vfa fo31_1 0) (Oq (VldF sh29 0) (Oq (Vlen sl29) (Oq Vlss (KS ?_)))))
  refine Kc ?_ ?_
  ·intro h70
   have g71 := dt h70
   obtain ⟨r72, rfl⟩ := scc (n := r61) aM1
   refine KS ?_
   refine Oq (Vfa fo31_1 0) (Oq (VldF sh29 0) (Oq Vm (Oq (Vi sl29 1) ?_)))
   refine JJ_peek_GBlock k_62.toNat 1 rfl rng fun a73 k74 hb75 => ?_
   refine Fb 72 1 fun _ => ?_
   refine Oq (Vfa fo34_1 0) (Oq (VldF sh32 0) (Oq Va (KS ?_)))
   refine Oq Va (KS ?_)
   refine Kl (γ := Nat × Int) (fun (r77, j_78) => ⟨[(1, p2), (2, p3), (5, vi i_30), (6, p44), (8, vi k_62), (9, .slice a73 (((((p.Funcs.getD i_30.toNat default).Blocks).getD k_62.toNat default).Stmts).length) k74), (10, vi j_78)], [S a73 k74 ((((p.Funcs.getD i_30.toNat default).Blocks).getD k_62.toNat default).Stmts), Cl p44 [.string (bs ((p.Funcs.getD i_30.toNat default).Name)), vl a40 k41 ((p.Funcs.getD i_30.toNat default).Blocks)], S a40 k41 ((p.Funcs.getD i_30.toNat default).Blocks), Cl p3 [vi 0, vi 0, vi 0, vi 0], pv p2 [vl pa0 pk0 p.Funcs], S pa0 pk0 p.Funcs], r4_Check_L2 p i_30 ((p.Funcs.getD i_30.toNat default).Name) ((p.Funcs.getD i_30.toNat default).Blocks) k_62 ((((p.Funcs.getD i_30.toNat default).Blocks).getD k_62.toNat default).Stmts) r77 j_78 = r4_Check_L2 p i_30 ((p.Funcs.getD i_30.toNat default).Name) ((p.Funcs.getD i_30.toNat default).Blocks) k_62 ((((p.Funcs.getD i_30.toNat default).Blocks).getD k_62.toNat default).Stmts) ((((((((p.Funcs.getD i_30.toNat default).Blocks).getD k_62.toNat default).Stmts).length : Int) : Int) - 0).toNat) 0 ∧ r77 = (((((((p.Funcs.getD i_30.toNat default).Blocks).getD k_62.toNat default).Stmts).length : Int) : Int) - j_78).toNat ∧ (0 : Int) ≤ j_78 ∧ (j_78 ≤ (((((p.Funcs.getD i_30.toNat default).Blocks).getD k_62.toNat default).Stmts).length : Int) ∨ j_78 = 0) ∧ (-9223372036854775808 ≤ j_78 ∧ j_78 ≤ 9223372036854775807), r77⟩) ((((((((p.Funcs.getD i_30.toNat default).Blocks).getD k_62.toNat default).Stmts).length : Int) : Int) - 0).toNat, 0) [1, 2, 2, 3, 3, 4] ⟨rfl, rfl, aM1, (.inr rfl), aM1⟩ ?_
   rintro ⟨r77, j_78⟩ ⟨hM79, hr80, hi81, hi82, hk83⟩
   refine JJ_nx fun _ _ hL hA => ?_; dsimp only at hL hA; subst hL hA
   refine Fb 72 0 fun _ => Fb 40 2 fun _ => Fb 40 5 fun _ => KS ?_
   refine Oq Vm (Oq Vm (Oq (Vlen sl32) (Oq Vlss (KS ?_))))
   refine Kc ?_ ?_
   ·intro h87
    have g88 := dt h87
    obtain ⟨r89, rfl⟩ := scc (n := r77) aM1
    refine KS ?_
    refine JJ_peek_GStmt j_78.toNat 0 rfl rng fun a90 k91 a92 k93 hb94 hb95 => ?_
    unfold i64ok at hb94
    refine Fb 16 1 fun _ => ?_
    refine FoS 1 fun ho97 => ?_
    refine Fb 16 2 fun _ => ?_
    refine FoS 2 fun ho99 => ?_
    refine JK_drawK [0, 0, 0, 0, 12, 28, 0, 0, 128, 384, 960, 2047, 4095] fmix ?_
    refine Dv [7] (VldA sh25 0) (Dv [4] (VldA sh31 0) (Dv [] Vm (Dv [] Vm (Dv [3] (Vi sl32 0) (Dv [0] (VldA sh37 0) (Dv [] Vm (Dv [] Vm (Dv [] (Vlen sl32) (Dv [] Vsub ?_)))))))))
    refine Dv [] Veql ?_
    refine letv (r4_stmtErr p (p.Funcs.getD i_30.toNat default) (((((p.Funcs.getD i_30.toNat default).Blocks).getD k_62.toNat default).Stmts).getD j_78.toNat default) (j_78 == ((((((p.Funcs.getD i_30.toNat default).Blocks).getD k_62.toNat default).Stmts).length : Int) - 1))) fun rv100 hg101 => ?_
    refine Dx [1, 2, 5, 8] [] [1, 2, 3, 4, 0] (fun G => vi rv100) [fun G => SP.fact (i64ok rv100)] (fun G => xC [3, 2, 0, 1] ca61 (fn61 p pa0 pk0 ((p.Funcs.getD i_30.toNat default)) a40 k41 ((((((p.Funcs.getD i_30.toNat default).Blocks).getD k_62.toNat default).Stmts).getD j_78.toNat default)) a90 k91 a92 k93 ((j_78 == ((((((p.Funcs.getD i_30.toNat default).Blocks).getD k_62.toNat default).Stmts).length : Int) - 1))) pre pre pre rv100 hg101)) (Dv [] Va ?_)
    refine Dn ⟨by kernel_rfl, fun G => ?_⟩
    refine Jw2 [(1, p2), (2, p3), (5, vi i_30), (6, p44), (8, vi k_62), (9, .slice a73 (((((p.Funcs.getD i_30.toNat default).Blocks).getD k_62.toNat default).Stmts).length) k74), (10, vi j_78), (11, vi rv100)] [0, 1, 2, 3, 4, 5, 6, 7, 8] [SP.fact (i64ok rv100)] ?_
    refine Jf 9 rfl ?_; rintro he102
    unfold i64ok at he102
    refine Jk [0, 1, 2, 3, 4, 4, 5, 5, 6] ?_
    refine KS ?_
    refine Oq Vm (Oq Vneq (KS ?_))
    refine Kc ?_ ?_
    ·intro h103
     have g104 := ne_of_bne h103
     refine KS ?_
     refine Oq Vm (Oq Vm (Oq Vm (Oq (Vbd st63 [vi 3, vi i_30, vi k_62, vi j_78]) (Oq Vm (Ost (Scl [6] sh63 [vi 3, vi i_30, vi k_62, vi j_78]) (Oq Va (KS ?_)))))))
     have hR105 := q2 hM79 (.ret ((GNode.mk 3 i_30 k_62 j_78), rv100)) (by simp only [r4_Check_L2, h87, h103, hg101, cs4])
     have hR106 := q2 hM63 (.ret ((GNode.mk 3 i_30 k_62 j_78), rv100)) (by simp only [r4_Check_L1, h70, h87, h103, hg101, hR105, cs4])
     have hR107 := q2 hM31 (.ret ((GNode.mk 3 i_30 k_62 j_78), rv100)) (by simp only [r4_Check_L0, h37, h57, h70, h87, h103, hg47, hg54, hg101, hR105, hR106, cs4])
     have hq := q4 hrr ((GNode.mk 3 i_30 k_62 j_78), rv100) (by simp only [r4_Check, h7, h12, h26, h37, h57, h70, h87, h103, hg5, hg16, hg23, hg47, hg54, hg101, hR105, hR106, hR107, cs4]); subst hq
     exact Kr () rfl (.cellN 0 rfl sh63 rfl (reads_Cl _ _) rfl (.tmp rfl .nil)) [] en
    intro h103
    have g108 := eq_of_bne_false h103
    refine KS ?_
    refine Oq Vm (Oq Vadd (Oq Va (KS ?_)))
    exact Kg (r89, (j_78 + 1)) [3, 4, 4, 5, 5, 6] ⟨(q3 hM79 (by simp only [r4_Check_L2, h87, h103, hg101, cs4])), aM1, aM1, aM1, aM1⟩
   intro h87
   have g109 := df h87
   obtain rfl : r77 = 0 := by omega
   refine Ke ?_
   have hR110 := q2 hM79 (.brk ()) (by simp only [r4_Check_L2, h87, cs4])
   refine KS ?_
   refine Oq Vm (Oq Vadd (Oq Va (KS ?_)))
   exact Kg (r72, (k_62 + 1)) [1, 1, 2, 2, 3] ⟨(q3 hM63 (by simp only [r4_Check_L1, h70, h87, hR110, cs4])), aM1, aM1, aM1, aM1⟩
  intro h70
  have g111 := df h70
  obtain rfl : r61 = 0 := by omega
  refine Ke ?_
  have hR112 := q2 hM63 (.brk ()) (by simp only [r4_Check_L1, h70, cs4])
  refine KS ?_
  refine Oq Vm (Oq Vadd (Oq Va (KS ?_)))
  exact Kg (r39, (i_30 + 1)) [2, 2, 3] ⟨(q3 hM31 (by simp only [r4_Check_L0, h37, h57, h70, hg47, hg54, hR112, cs4])), aM1, aM1, aM1, aM1⟩
 intro h37
 have g113 := df h37
 obtain rfl : r29 = 0 := by omega
 refine Ke ?_
 have hR114 := q2 hM31 (.brk ()) (by simp only [r4_Check_L0, h37, cs4])
 refine KS ?_
 refine Oq (VldA sh25 1) ?_
 refine letv (r4_Sizes p) fun rv115 hg116 => ?_
 have hc117 := fn62 p pa0 pk0 rv115 hg116
 refine Oc [2] ca62 hc117 ?_
 rintro - ⟨he118, he119⟩
 unfold i64ok at he118 he119
 refine Oq Vm (Oq Vx (Oq Vx (Oq Va (Oq Va (KS ?_)))))
 refine Oq (VldA sh25 1) ?_
 refine letv (r4_Variables p) fun rv121 hg122 => ?_
 have hc123 := fn8 p pa0 pk0 rv121 hg122
 refine Oc [2] ca8 hc123 ?_
 rintro c120 -
 refine Jo 0 ?_; rintro a124 k125 rfl
 refine Fb 16 0 fun _ => ?_
 refine FoS 0 fun ho127 => ?_
 refine Oq (Vlen sl35) (Oq Vgtr (Oq Vm ?_))
 refine Js 92 ?_ ?_
 ·intro h128
  have g129 := dt h128
  refine Osk (Osk (Oq Vpt (Oq Vm (Osk (Osk (Oq Vpt (KS ?_)))))))
  refine Kt (KS ?_)
  refine Oq (Vbd st63 [vi 0, vi 0, vi 0, vi 0]) (Ost (Scl [1] sh63 [vi 0, vi 0, vi 0, vi 0]) (Oq Va (KS ?_)))
  have hq := q4 hrr ((GNode.mk 0 0 0 0), 7) (by simp only [r4_Check, h7, h12, h26, h37, h128, hg5, hg16, hg23, hR114, hg116, hg122, cs4]); subst hq
  exact Kr () rfl (.cellN 0 rfl sh63 rfl (reads_Cl _ _) rfl (.tmp rfl .nil)) [] en
 intro h128
 have g130 := df h128
 refine Oq Vm (Oq Vgtr (Oq Vpf (Oq Vm ?_)))
 refine Js 96 ?_ ?_
 ·intro h131
  have g132 := dt h131
  refine Osk (Osk (Oq Vpt (KS ?_)))
  refine Kt (KS ?_)
  refine Oq (Vbd st63 [vi 0, vi 0, vi 0, vi 0]) (Ost (Scl [1] sh63 [vi 0, vi 0, vi 0, vi 0]) (Oq Va (KS ?_)))
  have hq := q4 hrr ((GNode.mk 0 0 0 0), 7) (by simp only [r4_Check, h7, h12, h26, h37, h128, h131, hg5, hg16, hg23, hR114, hg116, hg122, cs4]); subst hq
  exact Kr () rfl (.cellN 0 rfl sh63 rfl (reads_Cl _ _) rfl (.tmp rfl .nil)) [] en
 intro h131
 have g133 := df h131
 refine Oq Vm (Oq Vgtr (Oq Vpf (KS ?_)))
 refine Kc ?_ ?_
 ·intro h134
  have g135 := dt h134
  refine KS ?_
  refine Oq (Vbd st63 [vi 0, vi 0, vi 0, vi 0]) (Ost (Scl [1] sh63 [vi 0, vi 0, vi 0, vi 0]) (Oq Va (KS ?_)))
  have hq := q4 hrr ((GNode.mk 0 0 0 0), 7) (by simp only [r4_Check, h7, h12, h26, h37, h128, h131, h134, hg5, hg16, hg23, hR114, hg116, hg122, cs4]); subst hq
  exact Kr () rfl (.cellN 0 rfl sh63 rfl (reads_Cl _ _) rfl (.tmp rfl .nil)) [] en
 intro h134
 have g136 := df h134
 refine KS ?_
 refine Oq (Vbd st63 [vi 0, vi 0, vi 0, vi 0]) (Ost (Scl [1] sh63 [vi 0, vi 0, vi 0, vi 0]) (Oq Va (KS ?_)))
 have hq := q4 hrr ((GNode.mk 0 0 0 0), 0) (by simp only [r4_Check, h7, h12, h26, h37, h128, h131, h134, hg5, hg16, hg23, hR114, hg116, hg122, cs4]); subst hq
 exact Kr () rfl (.cellN 0 rfl sh63 rfl (reads_Cl _ _) rfl (.tmp rfl .nil)) [] en
theorem fn30 (p : GProgram) (pa0 : Option Addr) (pk0 : Nat) (rr : List GNode) (hrr : r7_List p = rr) : FT Tryz.prog 30 #[.agg #[vl pa0 pk0 p.Funcs]] [S pa0 pk0 p.Funcs] (fun g : Value => (rr.length ≤ 20000)) (fun g => g) (fun g => [sl g rr]) := by
 refine FTi Tryz.func30 fun w0 M0 F0 => Fb 40 0 fun _ => ?_
 refine KS ?_
 refine Oa (Ab [vl pa0 pk0 p.Funcs]) fun p2 => Oq Va (KS ?_)
 refine Oq Va (KS ?_)
 refine Oq (VldA sh25 0) ?_
 refine letv (r4_Check p) fun rv3 hg4 => ?_
 have hc5 := fn29 p pa0 pk0 rv3 hg4
 refine Oc [1] ca29 hc5 ?_
 rintro - ⟨he6, he7, he8, he9, he10⟩
 unfold i64ok at he6 he7 he8 he9 he10
 refine Oq Vm (Oq Vx (Oq Vx (Oa (Al ze63 [vi 0, vi 0, vi 0, vi 0]) fun p11 => Ost (Scl [0] sh63 [vi rv3.1.Kind, vi rv3.1.Func, vi rv3.1.Block, vi rv3.1.Stmt]) (Oq Va (KS ?_)))))
 refine Oq Vm (Oq Vneq (KS ?_))
 refine Kc ?_ ?_
 ·intro h12
  have g13 := ne_of_bne h12
  refine KS ?_
  refine Oq Va (KS ?_)
  refine Jl [] (Ent.slNil (α := GNode)) ?_
  have hq := q4 hrr ([] : List GNode) (by simp only [r7_List, h12, hg4, cs4]); subst hq
  exact Kr (.slice none 0 0) rfl (.tmp rfl .nil) [0] en
 intro h12
 have g14 := eq_of_bne_false h12
 have hVb := PVal_b (p := p) (Check7_b (by assumption) (by assumption))
 refine KS ?_
 refine Oq Va (KS ?_)
 refine Jl [] (Ent.osNil (α := GNode)) ?_
 refine Kl (γ := Nat × List GNode × Int × Option Addr × Nat) (fun (r15, out_16, i_17, a18, k19) => ⟨[(1, p2), (3, vl a18 k19 out_16), (6, vi i_17)], [O a18 k19 out_16, pv p2 [vl pa0 pk0 p.Funcs], S pa0 pk0 p.Funcs], r7_List_L0 p r15 out_16 i_17 = r7_List_L0 p (((p.Funcs.length : Int) - 0).toNat) [] 0 ∧ r15 = ((p.Funcs.length : Int) - i_17).toNat ∧ (0 : Int) ≤ i_17 ∧ i_17 ≤ (p.Funcs.length : Int) ∧ (-9223372036854775808 ≤ i_17 ∧ i_17 ≤ 9223372036854775807) ∧ ((out_16.length : Int) ≤ 1100 * i_17), r15⟩) (((p.Funcs.length : Int) - 0).toNat, [], 0, none, 0) [0, 1, 2] ⟨rfl, rfl, aM1, aM1, aM1, iv0⟩ ?_
 rintro ⟨r15, out_16, i_17, a18, k19⟩ ⟨hM20, hr21, hi22, hi23, hk24, hv25⟩
 refine JJ_nx fun _ _ hL hA => ?_; dsimp only at hL hA; subst hL hA
 refine Fb 32 0 fun _ => Fb 40 2 fun _ => KS ?_
 refine Oq Vm (Oq (Vfa fo25_0 1) (Oq (VldF sh23 1) (Oq (Vlen sl23) (Oq Vlss (KS ?_)))))
 refine Kc ?_ ?_
 ·intro h28
  have g29 := dt h28
  have hVf := hVb.2 i_17.toNat
  have hb8 : i_17 ≤ 7 := by have := hVb.1; omega
  obtain ⟨r30, rfl⟩ := scc (n := r15) aM1
  refine KS ?_
  refine Oq Vm (Oq Vm (Oq (Vbd st63 [vi 1, vi i_17, vi (-1), vi (-1)]) (Oa (AsV sl71 sz71 [.agg #[vi 1, vi i_17, vi (-1), vi (-1)]] [vi 1, vi i_17, vi (-1), vi (-1)]) fun c31 => ?_)))
  refine Jo 0 ?_; rintro a32 k33 rfl
  refine Jl [0] (Ent.cr1 (α := GNode) (A := []) _ (GNode.mk 1 i_17 (-1) (-1)) _ aB1 (fun h => ⟨rfl, aL1, aL1, aL1, aL1⟩)) ?_
  refine Oa (ApO [1, 0] sl71 sl71 sz71) fun c34 => ?_
  refine Jo 0 ?_; rintro a35 k36 rfl
  refine Fb 32 0 fun _ => ?_
  have hn38 := la out_16 ([(GNode.mk 1 i_17 (-1) (-1))] : List GNode)
  refine Oq Va (KS ?_)
  refine Oq Va (KS ?_)
  refine Kl (γ := Nat × List GNode × Int × Option Addr × Nat) (fun (r39, out_40, k_41, a42, k43) => ⟨[(1, p2), (6, vi i_17), (3, vl a42 k43 out_40), (7, vi k_41)], [O a42 k43 out_40, pv p2 [vl pa0 pk0 p.Funcs], S pa0 pk0 p.Funcs], r7_List_L1 p i_17 r39 out_40 k_41 = r7_List_L1 p i_17 ((((((p.Funcs.getD i_17.toNat default).Blocks).length : Int) : Int) - 0).toNat) (out_16 ++ [(GNode.mk 1 i_17 (-1) (-1))]) 0 ∧ r39 = (((((p.Funcs.getD i_17.toNat default).Blocks).length : Int) : Int) - k_41).toNat ∧ (0 : Int) ≤ k_41 ∧ (k_41 ≤ (((p.Funcs.getD i_17.toNat default).Blocks).length : Int) ∨ k_41 = 0) ∧ (-9223372036854775808 ≤ k_41 ∧ k_41 ≤ 9223372036854775807) ∧ ((out_40.length : Int) ≤ 1100 * i_17 + 1 + 66 * k_41), r39⟩) ((((((p.Funcs.getD i_17.toNat default).Blocks).length : Int) : Int) - 0).toNat, (out_16 ++ [(GNode.mk 1 i_17 (-1) (-1))]), 0, a35, k36) [0, 0, 1] ⟨rfl, rfl, aM1, (.inr rfl), aM1, iv0⟩ ?_
  rintro ⟨r39, out_40, k_41, a42, k43⟩ ⟨hM44, hr45, hi46, hi47, hk48, hv49⟩
  refine JJ_nx fun _ _ hL hA => ?_; dsimp only at hL hA; subst hL hA
  refine Fb 32 0 fun _ => Fb 40 2 fun _ => KS ?_
  refine Oq Vm (Oq (Vfa fo25_0 1) (Oq (VldF sh23 1) (Oq Vm (Oq (Vi sl23 2) ?_))))
  refine JJ_peek_GFunc i_17.toNat 2 rfl rng fun a52 k53 hb54 => ?_
  refine Fb 40 1 fun _ => ?_
  refine Oq (Vfa fo31_1 0) (Oq (VldF sh29 0) (Oq (Vlen sl29) (Oq Vlss (KS ?_))))
  refine Kc ?_ ?_
  ·intro h56
   have g57 := dt h56
   have hVk := hVf.2 k_41.toNat
   have hb16 : k_41 ≤ 15 := by have := hVf.1; omega
   obtain ⟨r58, rfl⟩ := scc (n := r39) aM1
   refine KS ?_
   refine Oq (Vfa fo25_0 3) (Oq (VldF sh23 3) (Oq Vm (Oq (Vi sl23 4) (Oq (Vfa fo31_1 0) (Oq (VldF sh29 0) (Oq Vm (Oq (Vi sl29 1) ?_)))))))
   refine JJ_peek_GBlock k_41.toNat 1 rfl rng fun a59 k60 hb61 => ?_
   refine Fb 72 1 fun _ => ?_
   refine Oq (Vfa fo34_1 0) (Oq (VldF sh32 0) (Oq Va (KS ?_)))
   refine Oq Va (KS ?_)
   refine Kl (γ := Nat × List GNode × Int × Option Addr × Nat) (fun (r63, out_64, j_65, a66, k67) => ⟨[(1, p2), (6, vi i_17), (3, vl a66 k67 out_64), (7, vi k_41), (8, .slice a59 (((((p.Funcs.getD i_17.toNat default).Blocks).getD k_41.toNat default).Stmts).length) k60), (9, vi j_65)], [O a66 k67 out_64, S a59 k60 ((((p.Funcs.getD i_17.toNat default).Blocks).getD k_41.toNat default).Stmts), pv p2 [vl pa0 pk0 p.Funcs], S pa0 pk0 p.Funcs], r7_List_L2 i_17 k_41 ((((p.Funcs.getD i_17.toNat default).Blocks).getD k_41.toNat default).Stmts) r63 out_64 j_65 = r7_List_L2 i_17 k_41 ((((p.Funcs.getD i_17.toNat default).Blocks).getD k_41.toNat default).Stmts) ((((((((p.Funcs.getD i_17.toNat default).Blocks).getD k_41.toNat default).Stmts).length : Int) : Int) - 0).toNat) out_40 0 ∧ r63 = (((((((p.Funcs.getD i_17.toNat default).Blocks).getD k_41.toNat default).Stmts).length : Int) : Int) - j_65).toNat ∧ (0 : Int) ≤ j_65 ∧ (j_65 ≤ (((((p.Funcs.getD i_17.toNat default).Blocks).getD k_41.toNat default).Stmts).length : Int) ∨ j_65 = 0) ∧ (-9223372036854775808 ≤ j_65 ∧ j_65 ≤ 9223372036854775807) ∧ ((out_64.length : Int) ≤ 1100 * i_17 + 1 + 66 * k_41 + 2 * j_65), r63⟩) ((((((((p.Funcs.getD i_17.toNat default).Blocks).getD k_41.toNat default).Stmts).length : Int) : Int) - 0).toNat, out_40, 0, a42, k43) [4, 1, 4, 5] ⟨rfl, rfl, aM1, (.inr rfl), aM1, iv0⟩ ?_
   rintro ⟨r63, out_64, j_65, a66, k67⟩ ⟨hM68, hr69, hi70, hi71, hk72, hv73⟩
   refine JJ_nx fun _ _ hL hA => ?_; dsimp only at hL hA; subst hL hA
   refine Fb 32 0 fun _ => Fb 72 1 fun _ => Fb 40 3 fun _ => KS ?_
   refine Oq Vm (Oq Vm (Oq (Vlen sl32) (Oq Vlss (KS ?_))))
   refine Kc ?_ ?_
   ·intro h77
    have g78 := dt h77
    have hb32 : j_65 ≤ 31 := by have := hVk.1; omega
    obtain ⟨r79, rfl⟩ := scc (n := r63) aM1
    refine KS ?_
    refine Oq Vm (Oq Vm (Oq Vm (Oq Vm (Oq (Vbd st63 [vi 3, vi i_17, vi k_41, vi j_65]) (Oa (AsV sl71 sz71 [.agg #[vi 3, vi i_17, vi k_41, vi j_65]] [vi 3, vi i_17, vi k_41, vi j_65]) fun c80 => ?_)))))
    refine Jo 0 ?_; rintro a81 k82 rfl
    refine Jl [0] (Ent.cr1 (α := GNode) (A := []) _ (GNode.mk 3 i_17 k_41 j_65) _ aB1 (fun h => ⟨rfl, aL1, aL1, aL1, aL1⟩)) ?_
    refine Oa (ApO [1, 0] sl71 sl71 sz71) fun c83 => ?_
    refine Jo 0 ?_; rintro a84 k85 rfl
    refine Fb 32 0 fun _ => ?_
    have hn87 := la out_64 ([(GNode.mk 3 i_17 k_41 j_65)] : List GNode)
    refine Oq Va (KS ?_)
    refine Oq Vm (Oq Vm (Oq (Vi sl32 1) ?_))
    refine JJ_peek_GStmt j_65.toNat 1 rfl rng fun a88 k89 a90 k91 hb92 hb93 => ?_
    unfold i64ok at hb92
    refine Fb 16 1 fun _ => ?_
    refine FoS 1 fun ho95 => ?_
    refine Fb 16 2 fun _ => ?_
    refine FoS 2 fun ho97 => ?_
    refine Oq (Vfa fo37_0 0) (Oq (VldF sh3 0) (Oq Veql (KS ?_)))
    refine Kc ?_ ?_
    ·intro h98
     have g99 := eq_of_beq h98
     refine KS ?_
     refine Oq Vm (Oq Vm (Oq Vm (Oq Vm (Oq (Vbd st63 [vi 4, vi i_17, vi k_41, vi j_65]) (Oa (AsV sl71 sz71 [.agg #[vi 4, vi i_17, vi k_41, vi j_65]] [vi 4, vi i_17, vi k_41, vi j_65]) fun c100 => ?_)))))
     refine Jo 0 ?_; rintro a101 k102 rfl
     refine Jl [0] (Ent.cr1 (α := GNode) (A := []) _ (GNode.mk 4 i_17 k_41 j_65) _ aB1 (fun h => ⟨rfl, aL1, aL1, aL1, aL1⟩)) ?_
     refine Oa (ApO [4, 0] sl71 sl71 sz71) fun c103 => ?_
     refine Jo 0 ?_; rintro a104 k105 rfl
     refine Fb 32 0 fun _ => ?_
     have hn107 := la ((out_64 ++ [(GNode.mk 3 i_17 k_41 j_65)]) : List GNode) ([(GNode.mk 4 i_17 k_41 j_65)] : List GNode)
     refine Oq Va (KS ?_)
     refine Oq Vm (Oq Vadd (Oq Va (KS ?_)))
     exact Kg (r79, ((out_64 ++ [(GNode.mk 3 i_17 k_41 j_65)]) ++ [(GNode.mk 4 i_17 k_41 j_65)]), (j_65 + 1), a104, k105) [0, 3, 4, 5] ⟨(q3 hM68 (by simp only [r7_List_L2, h77, h98, cs4])), aM1, aM1, aM1, aM1, iv1⟩
    intro h98
    have g108 := ne_of_beq_false h98
    refine KS ?_
    refine Oq Vm (Oq Vadd (Oq Va (KS ?_)))
    exact Kg (r79, (out_64 ++ [(GNode.mk 3 i_17 k_41 j_65)]), (j_65 + 1), a84, k85) [3, 3, 4, 5] ⟨(q3 hM68 (by simp only [r7_List_L2, h77, h98, cs4])), aM1, aM1, aM1, aM1, iv1⟩
   intro h77
   have g109 := df h77
   obtain rfl : r63 = 0 := by omega
   refine Ke ?_
   have hR110 := q2 hM68 out_64 (by simp only [r7_List_L2, h77, cs4])
   refine KS ?_
   refine Oq Vm (Oq Vadd (Oq Va (KS ?_)))
   exact Kg (r58, out_64, (k_41 + 1), a66, k67) [0, 1, 2] ⟨(q3 hM44 (by simp only [r7_List_L1, h56, h77, hR110, cs4])), aM1, aM1, aM1, aM1, iv1⟩
  intro h56
  have g111 := df h56
  obtain rfl : r39 = 0 := by omega
  refine Ke ?_
  have hR112 := q2 hM44 out_40 (by simp only [r7_List_L1, h56, cs4])
  refine KS ?_
  refine Oq Vm (Oq Vm (Oq (Vbd st63 [vi 2, vi i_17, vi (-1), vi (-1)]) (Oa (AsV sl71 sz71 [.agg #[vi 2, vi i_17, vi (-1), vi (-1)]] [vi 2, vi i_17, vi (-1), vi (-1)]) fun c113 => ?_)))
  refine Jo 0 ?_; rintro a114 k115 rfl
  refine Jl [0] (Ent.cr1 (α := GNode) (A := []) _ (GNode.mk 2 i_17 (-1) (-1)) _ aB1 (fun h => ⟨rfl, aL1, aL1, aL1, aL1⟩)) ?_
  refine Oa (ApO [3, 0] sl71 sl71 sz71) fun c116 => ?_
  refine Jo 0 ?_; rintro a117 k118 rfl
  refine Fb 32 0 fun _ => ?_
  have hn120 := la out_40 ([(GNode.mk 2 i_17 (-1) (-1))] : List GNode)
  refine Oq Va (KS ?_)
  refine Oq Vm (Oq Vadd (Oq Va (KS ?_)))
  exact Kg (r30, (out_40 ++ [(GNode.mk 2 i_17 (-1) (-1))]), (i_17 + 1), a117, k118) [0, 2, 3] ⟨(q3 hM20 (by simp only [r7_List_L0, h28, h56, hR112, cs4])), aM1, aM1, aM1, aM1, iv1⟩
 intro h28
 have g121 := df h28
 obtain rfl : r15 = 0 := by omega
 refine Ke ?_
 have hR122 := q2 hM20 out_16 (by simp only [r7_List_L0, h28, cs4])
 refine KS ?_
 refine Oq Vm (Oq Va (KS ?_))
 refine Jl [0] (Ent.freeze _ _) ?_
 have hq := q4 hrr out_16 (by simp only [r7_List, h12, h28, hg4, hR122, cs4]); subst hq
 exact Kr (vl a18 k19 out_16) rfl (.tmp rfl .nil) [0] en
theorem fn96 (l : List GNode) (la0 : Option Addr) (lk0 : Nat) (n : GNode) (hn_0 : i64ok n.Kind) (hn_1 : i64ok n.Func) (hn_2 : i64ok n.Block) (hn_3 : i64ok n.Stmt) (rr : Int) (hrr : r7_Index l n = rr) : FT Tryz.prog 96 #[vl la0 lk0 l, .agg #[vi n.Kind, vi n.Func, vi n.Block, vi n.Stmt]] [S la0 lk0 l] (fun g : Unit => i64ok rr ∧ (-1 ≤ rr ∧ rr < (l.length : Int))) (fun g => vi rr) (fun g => []) := by
 refine FTi Tryz.func96 fun w0 M0 F0 => ?_
 unfold i64ok at hn_0 hn_1 hn_2 hn_3
 refine Fb 32 0 fun _ => KS ?_
 refine Oa (Ab [vi n.Kind, vi n.Func, vi n.Block, vi n.Stmt]) fun p2 => Oq Va (KS ?_)
 refine Oq Va (KS ?_)
 refine Kl (γ := Nat × Int) (fun (r3, i_4) => ⟨[(0, vl la0 lk0 l), (3, p2), (5, vi i_4)], [pv p2 [vi n.Kind, vi n.Func, vi n.Block, vi n.Stmt], S la0 lk0 l], r7_Index_L0 l n r3 i_4 = r7_Index_L0 l n (((l.length : Int) - 0).toNat) 0 ∧ r3 = ((l.length : Int) - i_4).toNat ∧ (0 : Int) ≤ i_4 ∧ i_4 ≤ (l.length : Int) ∧ (-9223372036854775808 ≤ i_4 ∧ i_4 ≤ 9223372036854775807), r3⟩) (((l.length : Int) - 0).toNat, 0) [0, 1] ⟨rfl, rfl, aM1, aM1, aM1⟩ ?_
 rintro ⟨r3, i_4⟩ ⟨hM5, hr6, hi7, hi8, hk9⟩
 refine JJ_nx fun _ _ hL hA => ?_; dsimp only at hL hA; subst hL hA
 refine Fb 32 1 fun _ => KS ?_
 refine Oq Vm (Oq Vm (Oq (Vlen sl71) (Oq Vlss (KS ?_))))
 refine Kc ?_ ?_
 ·intro h11
  have g12 := dt h11
  obtain ⟨r13, rfl⟩ := scc (n := r3) aM1
  refine KS ?_
  refine JJ_peek_GNode i_4.toNat 1 rfl rng fun hb14 hb15 hb16 hb17 => ?_
  unfold i64ok at hb14 hb15 hb16 hb17
  refine Kq [0, 0, 3, 7, 0, 31] fmix ?_
  refine Qv [] Vm (Qv [] Vm (Qv [2] (Vi sl71 0) (Qv [0] (VldA sh63 0) (Qv [1] (VldA sh63 0) (Qv [] (VeqA eqi63 (l := [(l.getD i_4.toNat default).Kind, (l.getD i_4.toNat default).Func, (l.getD i_4.toNat default).Block, (l.getD i_4.toNat default).Stmt]) (m := [n.Kind, n.Func, n.Block, n.Stmt])) ?_)))))
  refine Qn ⟨by kernel_rfl, ?_⟩
  refine Kc ?_ ?_
  ·intro h18
   have g19 := eq_of_beq h18
   refine KS ?_
   refine Oq Vm (Oq Va (KS ?_))
   have hR20 := q2 hM5 (.ret i_4) (by simp only [r7_Index_L0, h11, h18, cs4])
   have hq := q4 hrr i_4 (by simp only [r7_Index, h11, h18, hR20, cs4]); subst hq
   exact Kr () rfl (.tmp rfl .nil) [] en
  intro h18
  have g21 := ne_of_beq_false h18
  refine KS ?_
  refine Oq Vm (Oq Vadd (Oq Va (KS ?_)))
  exact Kg (r13, (i_4 + 1)) [1, 2] ⟨(q3 hM5 (by simp only [r7_Index_L0, h11, h18, cs4])), aM1, aM1, aM1, aM1⟩
 intro h11
 have g22 := df h11
 obtain rfl : r3 = 0 := by omega
 refine Ke ?_
 have hR23 := q2 hM5 (.brk ()) (by simp only [r7_Index_L0, h11, cs4])
 refine KS ?_
 refine Oq Va (KS ?_)
 have hq := q4 hrr (-1) (by simp only [r7_Index, h11, hR23, cs4]); subst hq
 exact Kr () rfl (.tmp rfl .nil) [] en
theorem fn63 (p : GProgram) (pa0 : Option Addr) (pk0 : Nat) (n : GNode) (hn_0 : i64ok n.Kind) (hn_1 : i64ok n.Func) (hn_2 : i64ok n.Block) (hn_3 : i64ok n.Stmt) (rr : Int) (hrr : r7_Find p n = rr) : FT Tryz.prog 63 #[.agg #[vl pa0 pk0 p.Funcs], .agg #[vi n.Kind, vi n.Func, vi n.Block, vi n.Stmt]] [S pa0 pk0 p.Funcs] (fun g : Unit => i64ok rr ∧ (-1 ≤ rr ∧ rr ≤ 20000)) (fun g => vi rr) (fun g => []) := by
 refine FTi Tryz.func63 fun w0 M0 F0 => ?_
 unfold i64ok at hn_0 hn_1 hn_2 hn_3
 refine Fb 40 0 fun _ => KS ?_
 refine Oa (Ab [vl pa0 pk0 p.Funcs]) fun p2 => Oa (Ab [vi n.Kind, vi n.Func, vi n.Block, vi n.Stmt]) fun p3 => Oq Va (KS ?_)
 refine JK_drawK [0, 1, 0, 7, 15] fmix ?_
 refine Dv [1] (VldA sh25 0) ?_
 refine letv (r7_List p) fun rv5 hg6 => ?_
 refine Dx [2] [] [2, 0, 1] (fun G => (G.g 1 0)) [fun G => SP.fact ((rv5.length ≤ 20000)), fun G => sl (G.g 1 0) rv5] (fun G => xC [0] ca30 (fn30 p pa0 pk0 rv5 hg6)) (Dv [0] (VldA sh63 0) ?_)
 refine letv (r7_Index rv5 n) fun rv10 hg11 => ?_
 refine Dx [3, 4] [] [1, 2, 0] (fun G => vi rv10) [fun G => SP.fact (i64ok rv10 ∧ (-1 ≤ rv10 ∧ rv10 < (rv5.length : Int)))] (fun G => by refine xf 0 rfl ?_; rintro he12; exact xD [1] ca96 rfl rfl rfl (FT_open (γ := Unit) (I := fun g => i64ok rv10 ∧ (-1 ≤ rv10 ∧ rv10 < (rv5.length : Int))) (V := fun g => vi rv10) (B := fun g => []) (R := sl (G.g 1 0) rv5) sl_slice (fun aq7 kq8 eq9 => by rw [eq9]; exact FT_ent (Ent.take (is := [0]) rfl) (fn96 rv5 aq7 kq8 n pre pre pre pre rv10 hg11)))) (Dv [] Va ?_)
 refine Dn ⟨by kernel_rfl, fun G => ?_⟩
 refine Jw2 [(4, vi rv10)] [0, 1, 2] [SP.fact ((rv5.length ≤ 20000)), sl (G.g 1 0) rv5, SP.fact (i64ok rv10 ∧ (-1 ≤ rv10 ∧ rv10 < (rv5.length : Int)))] ?_
 generalize G.g 1 0 = c4
 refine Jf 3 rfl ?_; rintro he13
 refine Jf 5 rfl ?_; rintro ⟨he14, he15⟩
 unfold i64ok at he14
 refine Jk [0, 1, 2, 4] ?_
 refine Jo 3 ?_; rintro a16 k17 rfl
 refine Fb 32 3 fun _ => ?_
 have hq := q4 hrr rv10 (by simp only [r7_Find, hg6, hg11, cs4]); subst hq
 exact Kr () rfl (.tmp rfl .nil) [] en
theorem fn31 (p : GProgram) (pa0 : Option Addr) (pk0 : Nat) (n : GNode) (hn_0 : i64ok n.Kind) (hn_1 : i64ok n.Func) (hn_2 : i64ok n.Block) (hn_3 : i64ok n.Stmt) (rr : GStmt × Bool) (hrr : r7_Stmt p n = rr) : FT Tryz.prog 31 #[.agg #[vl pa0 pk0 p.Funcs], .agg #[vi n.Kind, vi n.Func, vi n.Block, vi n.Stmt]] [S pa0 pk0 p.Funcs] (fun g : Value × Value => i64ok rr.1.Op ∧ rr.1.Def.b.length ≤ 140737488355328) (fun g => .tuple #[.agg #[vi rr.1.Op, .string (bs rr.1.Def), g.1, g.2], vb rr.2]) (fun g => [sl g.1 rr.1.Uses, sl g.2 rr.1.Targets]) := by
 refine FTi Tryz.func31 fun w0 M0 F0 => ?_
 unfold i64ok at hn_0 hn_1 hn_2 hn_3
 refine Fb 40 0 fun _ => KS ?_
 refine Oa (Ab [vl pa0 pk0 p.Funcs]) fun p2 => Oa (Ab [vi n.Kind, vi n.Func, vi n.Block, vi n.Stmt]) fun p3 => Oa (Al ze37 [vi 0, .string (bs (Str.mk [])), .slice none 0 0, .slice none 0 0]) fun p4 => Oq Va (KS ?_)
 refine Oq (VldA sh25 2) (Oq (VldA sh63 1) ?_)
 refine letv (r7_Find p n) fun rv5 hg6 => ?_
 have hc7 := fn63 p pa0 pk0 n pre pre pre pre rv5 hg6
 refine Oc [3] ca63 hc7 ?_
 rintro - ⟨he8, he9⟩
 unfold i64ok at he8
 refine Oq Vlss (Oq Vm ?_)
 refine Js 10 ?_ ?_
 ·intro h10
  have g11 := dt h10
  refine Osk (Osk (Osk (Osk (Osk (Osk (Osk (Osk (Oq Vpt (KS ?_)))))))))
  refine Kt (KS ?_)
  refine Oq (Vbd st37 [vi 0, .string (bs (Str.mk [])), .slice none 0 0, .slice none 0 0]) (Ost (Scl [0] sh37 [vi 0, .string (bs (Str.mk [])), .slice none 0 0, .slice none 0 0]) (Oq Va (KS ?_)))
  refine Jl [] (Ent.slNil (α := Str)) ?_
  have hq := q4 hrr ((GStmt.mk 0 (Str.mk []) [] []), false) (by simp only [r7_Stmt, h10, hg6, cs4]); subst hq
  exact Kr (.slice none 0 0, .slice none 0 0) rfl (.cellN 1 rfl sh37 rfl (reads_Cl _ _) rfl (.tmp rfl .nil)) [0, 0] en
 intro h10
 have g12 := df h10
 have hN0 := Find7_in (by assumption) h10
 obtain ⟨hN1, hN2⟩ := hN0.1
 refine Oq (Vfa fo63_0 1) (Oq (VldF sh3 1) (Oq Vneq (Oq Vm ?_)))
 refine Js 14 ?_ ?_
 ·intro h13
  have g14 := ne_of_bne h13
  refine Oq (Vfa fo63_0 1) (Oq (VldF sh3 1) (Oq Vneq (Oq Vpt (Oq Vpf (KS ?_)))))
  refine Kc ?_ ?_
  ·intro h15
   have g16 := ne_of_bne h15
   refine KS ?_
   refine Oq (Vbd st37 [vi 0, .string (bs (Str.mk [])), .slice none 0 0, .slice none 0 0]) (Ost (Scl [0] sh37 [vi 0, .string (bs (Str.mk [])), .slice none 0 0, .slice none 0 0]) (Oq Va (KS ?_)))
   refine Jl [] (Ent.slNil (α := Str)) ?_
   have hq := q4 hrr ((GStmt.mk 0 (Str.mk []) [] []), false) (by simp only [r7_Stmt, h10, h13, h15, hg6, cs4]); subst hq
   exact Kr (.slice none 0 0, .slice none 0 0) rfl (.cellN 1 rfl sh37 rfl (reads_Cl _ _) rfl (.tmp rfl .nil)) [0, 0] en
  intro h15
  have g17 := eq_of_bne_false h15
  refine KS ?_
  refine JJ_peek_GFunc n.Func.toNat 3 rfl rng fun a18 k19 hb20 => ?_
  refine Fb 40 1 fun _ => ?_
  refine JJ_peek_GBlock n.Block.toNat 1 rfl rng fun a22 k23 hb24 => ?_
  refine Fb 72 1 fun _ => ?_
  refine JJ_peek_GStmt n.Stmt.toNat 1 rfl rng fun a26 k27 a28 k29 hb30 hb31 => ?_
  unfold i64ok at hb30
  refine Fb 16 1 fun _ => ?_
  refine FoS 1 fun ho33 => ?_
  refine Fb 16 2 fun _ => ?_
  refine FoS 2 fun ho35 => ?_
  refine JK_drawK [0, 1, 0, 4, 15, 31, 63, 0, 128, 511, 1023, 2047, 0, 4096, 16383, 32767, 65535, 131071] fmix ?_
  refine Dv [9] (Vfa fo25_0 0) (Dv [9] (VldF sh23 0) (Dv [8] (Vfa fo63_1 0) (Dv [8] (VldF sh3 0) (Dv [10] (Vi sl23 0) (Dv [5] (Vfa fo31_1 0) (Dv [5] (VldF sh29 0) (Dv [8] (Vfa fo63_2 0) (Dv [8] (VldF sh3 0) (Dv [6] (Vi sl29 0) ?_)))))))))
  refine Dv [3] (Vfa fo34_1 0) (Dv [3] (VldF sh32 0) (Dv [8] (Vfa fo63_3 0) (Dv [8] (VldF sh3 0) (Dv [4] (Vi sl32 0) (Dv [0] (VldA sh37 0) (Dx0 [7] [7] [0] [fun G => Cl p4 [vi ((((((p.Funcs.getD n.Func.toNat default).Blocks).getD n.Block.toNat default).Stmts).getD n.Stmt.toNat default).Op), .string (bs ((((((p.Funcs.getD n.Func.toNat default).Blocks).getD n.Block.toNat default).Stmts).getD n.Stmt.toNat default).Def)), .slice a26 (((((((p.Funcs.getD n.Func.toNat default).Blocks).getD n.Block.toNat default).Stmts).getD n.Stmt.toNat default).Uses).length) k27, .slice a28 (((((((p.Funcs.getD n.Func.toNat default).Blocks).getD n.Block.toNat default).Stmts).getD n.Stmt.toNat default).Targets).length) k29]] (fun G => xS (Scl [0] sh37 [vi ((((((p.Funcs.getD n.Func.toNat default).Blocks).getD n.Block.toNat default).Stmts).getD n.Stmt.toNat default).Op), .string (bs ((((((p.Funcs.getD n.Func.toNat default).Blocks).getD n.Block.toNat default).Stmts).getD n.Stmt.toNat default).Def)), .slice a26 (((((((p.Funcs.getD n.Func.toNat default).Blocks).getD n.Block.toNat default).Stmts).getD n.Stmt.toNat default).Uses).length) k27, .slice a28 (((((((p.Funcs.getD n.Func.toNat default).Blocks).getD n.Block.toNat default).Stmts).getD n.Stmt.toNat default).Targets).length) k29])) (Dv [] Va ?_)))))))
  refine Dn ⟨by kernel_rfl, fun G => ?_⟩
  refine Jw2 [(4, p4), (5, vb true)] [0, 1, 2, 3, 4, 5, 6, 8, 9, 10] [Cl p4 [vi ((((((p.Funcs.getD n.Func.toNat default).Blocks).getD n.Block.toNat default).Stmts).getD n.Stmt.toNat default).Op), .string (bs ((((((p.Funcs.getD n.Func.toNat default).Blocks).getD n.Block.toNat default).Stmts).getD n.Stmt.toNat default).Def)), .slice a26 (((((((p.Funcs.getD n.Func.toNat default).Blocks).getD n.Block.toNat default).Stmts).getD n.Stmt.toNat default).Uses).length) k27, .slice a28 (((((((p.Funcs.getD n.Func.toNat default).Blocks).getD n.Block.toNat default).Stmts).getD n.Stmt.toNat default).Targets).length) k29]] ?_
  have hq := q4 hrr ((((((p.Funcs.getD n.Func.toNat default).Blocks).getD n.Block.toNat default).Stmts).getD n.Stmt.toNat default), true) (by simp only [r7_Stmt, h10, h13, h15, hg6, cs4]); subst hq
  exact Kr (.slice a26 (((((((p.Funcs.getD n.Func.toNat default).Blocks).getD n.Block.toNat default).Stmts).getD n.Stmt.toNat default).Uses).length) k27, .slice a28 (((((((p.Funcs.getD n.Func.toNat default).Blocks).getD n.Block.toNat default).Stmts).getD n.Stmt.toNat default).Targets).length) k29) rfl (.cellN 10 rfl sh37 rfl (reads_Cl _ _) rfl (.tmp rfl .nil)) [1, 2] en
 intro h13
 have g36 := eq_of_bne_false h13
 refine Osk (Osk (Osk (Oq Vpf (Oq Vpf (KS ?_)))))
 refine Kf (KS ?_)
 refine JJ_peek_GFunc n.Func.toNat 3 rfl rng fun a37 k38 hb39 => ?_
 refine Fb 40 1 fun _ => ?_
 refine JJ_peek_GBlock n.Block.toNat 1 rfl rng fun a41 k42 hb43 => ?_
 refine Fb 72 1 fun _ => ?_
 refine JJ_peek_GStmt n.Stmt.toNat 1 rfl rng fun a45 k46 a47 k48 hb49 hb50 => ?_
 unfold i64ok at hb49
 refine Fb 16 1 fun _ => ?_
 refine FoS 1 fun ho52 => ?_
 refine Fb 16 2 fun _ => ?_
 refine FoS 2 fun ho54 => ?_
 refine JK_drawK [0, 1, 0, 4, 15, 31, 63, 0, 128, 511, 1023, 2047, 0, 4096, 16383, 32767, 65535, 131071] fmix ?_
 refine Dv [9] (Vfa fo25_0 0) (Dv [9] (VldF sh23 0) (Dv [8] (Vfa fo63_1 0) (Dv [8] (VldF sh3 0) (Dv [10] (Vi sl23 0) (Dv [5] (Vfa fo31_1 0) (Dv [5] (VldF sh29 0) (Dv [8] (Vfa fo63_2 0) (Dv [8] (VldF sh3 0) (Dv [6] (Vi sl29 0) ?_)))))))))
 refine Dv [3] (Vfa fo34_1 0) (Dv [3] (VldF sh32 0) (Dv [8] (Vfa fo63_3 0) (Dv [8] (VldF sh3 0) (Dv [4] (Vi sl32 0) (Dv [0] (VldA sh37 0) (Dx0 [7] [7] [0] [fun G => Cl p4 [vi ((((((p.Funcs.getD n.Func.toNat default).Blocks).getD n.Block.toNat default).Stmts).getD n.Stmt.toNat default).Op), .string (bs ((((((p.Funcs.getD n.Func.toNat default).Blocks).getD n.Block.toNat default).Stmts).getD n.Stmt.toNat default).Def)), .slice a45 (((((((p.Funcs.getD n.Func.toNat default).Blocks).getD n.Block.toNat default).Stmts).getD n.Stmt.toNat default).Uses).length) k46, .slice a47 (((((((p.Funcs.getD n.Func.toNat default).Blocks).getD n.Block.toNat default).Stmts).getD n.Stmt.toNat default).Targets).length) k48]] (fun G => xS (Scl [0] sh37 [vi ((((((p.Funcs.getD n.Func.toNat default).Blocks).getD n.Block.toNat default).Stmts).getD n.Stmt.toNat default).Op), .string (bs ((((((p.Funcs.getD n.Func.toNat default).Blocks).getD n.Block.toNat default).Stmts).getD n.Stmt.toNat default).Def)), .slice a45 (((((((p.Funcs.getD n.Func.toNat default).Blocks).getD n.Block.toNat default).Stmts).getD n.Stmt.toNat default).Uses).length) k46, .slice a47 (((((((p.Funcs.getD n.Func.toNat default).Blocks).getD n.Block.toNat default).Stmts).getD n.Stmt.toNat default).Targets).length) k48])) (Dv [] Va ?_)))))))
 refine Dn ⟨by kernel_rfl, fun G => ?_⟩
 refine Jw2 [(4, p4), (5, vb true)] [0, 1, 2, 3, 4, 5, 6, 8, 9, 10] [Cl p4 [vi ((((((p.Funcs.getD n.Func.toNat default).Blocks).getD n.Block.toNat default).Stmts).getD n.Stmt.toNat default).Op), .string (bs ((((((p.Funcs.getD n.Func.toNat default).Blocks).getD n.Block.toNat default).Stmts).getD n.Stmt.toNat default).Def)), .slice a45 (((((((p.Funcs.getD n.Func.toNat default).Blocks).getD n.Block.toNat default).Stmts).getD n.Stmt.toNat default).Uses).length) k46, .slice a47 (((((((p.Funcs.getD n.Func.toNat default).Blocks).getD n.Block.toNat default).Stmts).getD n.Stmt.toNat default).Targets).length) k48]] ?_
 have hq := q4 hrr ((((((p.Funcs.getD n.Func.toNat default).Blocks).getD n.Block.toNat default).Stmts).getD n.Stmt.toNat default), true) (by simp only [r7_Stmt, h10, h13, hg6, cs4]); subst hq
 exact Kr (.slice a45 (((((((p.Funcs.getD n.Func.toNat default).Blocks).getD n.Block.toNat default).Stmts).getD n.Stmt.toNat default).Uses).length) k46, .slice a47 (((((((p.Funcs.getD n.Func.toNat default).Blocks).getD n.Block.toNat default).Stmts).getD n.Stmt.toNat default).Targets).length) k48) rfl (.cellN 10 rfl sh37 rfl (reads_Cl _ _) rfl (.tmp rfl .nil)) [1, 2] en
theorem fn32 (s : GStmt) (sa2 : Option Addr) (sk2 : Nat) (sa3 : Option Addr) (sk3 : Nat) (hs_0 : i64ok s.Op) (hs_1 : s.Def.b.length ≤ 140737488355328) (rr : Bool) (hrr : r4_Defines s = rr) : FT Tryz.prog 32 #[.agg #[vi s.Op, .string (bs s.Def), vl sa2 sk2 s.Uses, vl sa3 sk3 s.Targets]] [S sa2 sk2 s.Uses, S sa3 sk3 s.Targets] (fun g : Unit => True) (fun g => vb rr) (fun g => []) := by
 refine FTi Tryz.func32 fun w0 M0 F0 => ?_
 unfold i64ok at hs_0
 refine Fb 16 0 fun _ => ?_
 refine FoS 0 fun ho2 => ?_
 refine Fb 16 1 fun _ => ?_
 refine FoS 1 fun ho4 => ?_
 refine KS ?_
 refine Oa (Ab [vi s.Op, .string (bs s.Def), vl sa2 sk2 s.Uses, vl sa3 sk3 s.Targets]) fun p5 => Oq Va (KS ?_)
 refine Oq (Vfa fo37_0 0) (Oq (VldF sh3 0) (Oq Veql (Oq Vm ?_)))
 refine Js 6 ?_ ?_
 ·intro h6
  have g7 := eq_of_beq h6
  refine Osk (Osk (Osk (Oq Vpt (Oq Vm (Osk (Osk (Osk (Oq Vpt (Oq Va ?_)))))))))
  refine KS ?_
  have hq := q4 hrr true (by simp only [r4_Defines, h6, cs4]); subst hq
  exact Kr () rfl (.tmp rfl .nil) [] trivial
 intro h6
 have g8 := ne_of_beq_false h6
 refine Oq (Vfa fo37_0 0) (Oq (VldF sh3 0) (Oq Veql (Oq Vpf (Oq Vm ?_))))
 refine Js 11 ?_ ?_
 ·intro h9
  have g10 := eq_of_beq h9
  refine Osk (Osk (Osk (Oq Vpt (Oq Va (KS ?_)))))
  have hq := q4 hrr true (by simp only [r4_Defines, h6, h9, cs4]); subst hq
  exact Kr () rfl (.tmp rfl .nil) [] trivial
 intro h9
 have g11 := ne_of_beq_false h9
 refine Oq (Vfa fo37_0 0) (Oq (VldF sh3 0) (Oq Veql (Oq Vpf (Oq Va (KS ?_)))))
 have hq := q4 hrr (s.Op == 6) (by simp only [r4_Defines, h6, h9, cs4]); subst hq
 exact Kr () rfl (.tmp rfl .nil) [] trivial
theorem fn10 (p : GProgram) (pa0 : Option Addr) (pk0 : Nat) (kind : Int) (hkind_0 : i64ok kind) (rr : List GFact × Int) (hrr : r7_Facts p kind = rr) : FT Tryz.prog 10 #[.agg #[vl pa0 pk0 p.Funcs], vi kind] [S pa0 pk0 p.Funcs] (fun g : Value => i64ok rr.2 ∧ (rr.1.length ≤ 256)) (fun g => .tuple #[g, vi rr.2]) (fun g => [sl g rr.1]) := by
 refine FTi Tryz.func10 fun w0 M0 F0 => ?_
 unfold i64ok at hkind_0
 refine Fb 40 0 fun _ => KS ?_
 refine Oa (Ab [vl pa0 pk0 p.Funcs]) fun p2 => Oq Va (Oq Va (KS ?_))
 refine Oq (VldA sh25 0) ?_
 refine letv (r4_Check p) fun rv3 hg4 => ?_
 have hc5 := fn29 p pa0 pk0 rv3 hg4
 refine Oc [1] ca29 hc5 ?_
 rintro - ⟨he6, he7, he8, he9, he10⟩
 unfold i64ok at he6 he7 he8 he9 he10
 refine Oq Vm (Oq Vx (Oq Vx (Oa (Al ze63 [vi 0, vi 0, vi 0, vi 0]) fun p11 => Ost (Scl [0] sh63 [vi rv3.1.Kind, vi rv3.1.Func, vi rv3.1.Block, vi rv3.1.Stmt]) (Oq Va (KS ?_)))))
 refine Oq Vm (Oq Vneq (KS ?_))
 refine Kc ?_ ?_
 ·intro h12
  have g13 := ne_of_bne h12
  refine KS ?_
  refine Oq Vm (Oq Va (Oq Va (KS ?_)))
  refine Jl [] (Ent.slNil (α := GFact)) ?_
  have hq := q4 hrr (([] : List GFact), rv3.2) (by simp only [r7_Facts, h12, hg4, cs4]); subst hq
  exact Kr (.slice none 0 0) rfl (.tmp rfl (.tmp rfl .nil)) [0] en
 intro h12
 have g14 := eq_of_bne_false h12
 refine KS ?_
 refine Oq Vm (Oq Vlss (Oq Vm ?_))
 refine Js 25 ?_ ?_
 ·intro h15
  have g16 := dt h15
  refine Osk (Osk (Oq Vpt (KS ?_)))
  refine Kt (KS ?_)
  refine Oq Va (Oq Va (KS ?_))
  refine Jl [] (Ent.slNil (α := GFact)) ?_
  have hq := q4 hrr (([] : List GFact), 3) (by simp only [r7_Facts, h12, h15, hg4, cs4]); subst hq
  exact Kr (.slice none 0 0) rfl (.tmp rfl (.tmp rfl .nil)) [0] en
 intro h15
 have g17 := df h15
 refine Oq Vm (Oq Vgtr (Oq Vpf (KS ?_)))
 refine Kc ?_ ?_
 ·intro h18
  have g19 := dt h18
  refine KS ?_
  refine Oq Va (Oq Va (KS ?_))
  refine Jl [] (Ent.slNil (α := GFact)) ?_
  have hq := q4 hrr (([] : List GFact), 3) (by simp only [r7_Facts, h12, h15, h18, hg4, cs4]); subst hq
  exact Kr (.slice none 0 0) rfl (.tmp rfl (.tmp rfl .nil)) [0] en
 intro h18
 have g20 := df h18
 refine KS ?_
 refine Oq (VldA sh25 1) ?_
 refine letv (r4_Variables p) fun rv22 hg23 => ?_
 have hc24 := fn8 p pa0 pk0 rv22 hg23
 refine Oc [2] ca8 hc24 ?_
 rintro c21 -
 refine Jo 0 ?_; rintro a25 k26 rfl
 refine Fb 16 0 fun _ => ?_
 refine FoS 0 fun ho28 => ?_
 refine Oq Va (KS ?_)
 refine Oq Va (KS ?_)
 refine Oq Vm (Oq Vneq (KS ?_))
 refine Kc ?_ ?_
 ·intro h29
  have g30 := ne_of_bne h29
  refine KS ?_
  refine Oq Va (KS ?_)
  refine Jl [] (Ent.osNil (α := GFact)) ?_
  refine Kl (γ := Nat × List GFact × Int × Option Addr × Nat) (fun (r31, out_32, v_33, a34, k35) => ⟨[(8, vl a25 k26 rv22), (9, vl a34 k35 out_32), (10, vi v_33)], [O a34 k35 out_32, S a25 k26 rv22], r7_Facts_L0 r31 out_32 v_33 = r7_Facts_L0 (((rv22.length : Int) - 0).toNat) [] 0 ∧ r31 = ((rv22.length : Int) - v_33).toNat ∧ (0 : Int) ≤ v_33 ∧ v_33 ≤ (rv22.length : Int) ∧ (-9223372036854775808 ≤ v_33 ∧ v_33 ≤ 9223372036854775807) ∧ ((out_32.length : Int) ≤ v_33), r31⟩) (((rv22.length : Int) - 0).toNat, [], 0, none, 0) [0, 0] ⟨rfl, rfl, aM1, aM1, aM1, iv0⟩ ?_
  rintro ⟨r31, out_32, v_33, a34, k35⟩ ⟨hM36, hr37, hi38, hi39, hk40, hv41⟩
  refine JJ_nx fun _ _ hL hA => ?_; dsimp only at hL hA; subst hL hA
  refine Fb 16 0 fun _ => Fb 16 1 fun _ => ?_
  refine FoS 1 fun ho44 => ?_
  refine KS ?_
  refine Oq Vm (Oq Vm (Oq (Vlen sl35) (Oq Vlss (KS ?_))))
  refine Kc ?_ ?_
  ·intro h45
   have g46 := dt h45
   obtain ⟨r47, rfl⟩ := scc (n := r31) aM1
   refine KS ?_
   refine Oq Vm (Oq Vm (Oq (Vbd st49 [vi (-1), vi v_33]) (Oa (AsV sl38 sz38 [.agg #[vi (-1), vi v_33]] [vi (-1), vi v_33]) fun c48 => ?_)))
   refine Jo 0 ?_; rintro a49 k50 rfl
   refine Jl [0] (Ent.cr1 (α := GFact) (A := []) _ (GFact.mk (-1) v_33) _ aB1 (fun h => ⟨rfl, aL1, aL1⟩)) ?_
   refine Oa (ApO [1, 0] sl38 sl38 sz38) fun c51 => ?_
   refine Jo 0 ?_; rintro a52 k53 rfl
   refine Fb 16 0 fun _ => ?_
   have hn55 := la out_32 ([(GFact.mk (-1) v_33)] : List GFact)
   refine Oq Va (KS ?_)
   refine Oq Vm (Oq Vadd (Oq Va (KS ?_)))
   exact Kg (r47, (out_32 ++ [(GFact.mk (-1) v_33)]), (v_33 + 1), a52, k53) [0, 0] ⟨(q3 hM36 (by simp only [r7_Facts_L0, h45, cs4])), aM1, aM1, aM1, aM1, iv1⟩
  intro h45
  have g56 := df h45
  obtain rfl : r31 = 0 := by omega
  refine Ke ?_
  have hR57 := q2 hM36 out_32 (by simp only [r7_Facts_L0, h45, cs4])
  refine KS ?_
  refine Oq Vm (Oq (Vlen sl38) (Oq Vgtr (KS ?_)))
  refine Kc ?_ ?_
  ·intro h58
   have g59 := dt h58
   refine KS ?_
   refine Oq Va (Oq Va (KS ?_))
   refine Jl [] (Ent.slNil (α := GFact)) ?_
   have hq := q4 hrr (([] : List GFact), 7) (by simp only [r7_Facts, h12, h15, h18, h29, h45, h58, hg4, hg23, hR57, cs4]); subst hq
   exact Kr (.slice none 0 0) rfl (.tmp rfl (.tmp rfl .nil)) [0] en
  intro h58
  have g60 := df h58
  refine KS ?_
  refine Oq Vm (Oq Va (Oq Va (KS ?_)))
  refine Jl [0] (Ent.freeze _ _) ?_
  have hq := q4 hrr (out_32, 0) (by simp only [r7_Facts, h12, h15, h18, h29, h45, h58, hg4, hg23, hR57, cs4]); subst hq
  exact Kr (vl a34 k35 out_32) rfl (.tmp rfl (.tmp rfl .nil)) [0] en
 intro h29
 have g61 := eq_of_bne_false h29
 refine KS ?_
 refine Oq (VldA sh25 2) ?_
 refine letv (r7_List p) fun rv63 hg64 => ?_
 have hc65 := fn30 p pa0 pk0 rv63 hg64
 refine Oc [3] ca30 hc65 ?_
 rintro c62 he66
 refine Jo 0 ?_; rintro a67 k68 rfl
 refine Fb 32 0 fun _ => ?_
 refine Oq Va (KS ?_)
 refine Oq Va (KS ?_)
 refine Jl [] (Ent.osNil (α := GFact)) ?_
 refine Kl (γ := Nat × List GFact × Int × Option Addr × Nat) (fun (r70, out_71, i_72, a73, k74) => ⟨[(2, p2), (8, vl a25 k26 rv22), (9, vl a73 k74 out_71), (11, vl a67 k68 rv63), (12, vi i_72)], [O a73 k74 out_71, S a67 k68 rv63, S a25 k26 rv22, pv p2 [vl pa0 pk0 p.Funcs], S pa0 pk0 p.Funcs], r7_Facts_L1 p rv22 rv63 r70 out_71 i_72 = r7_Facts_L1 p rv22 rv63 (((rv63.length : Int) - 0).toNat) [] 0 ∧ r70 = ((rv63.length : Int) - i_72).toNat ∧ (0 : Int) ≤ i_72 ∧ i_72 ≤ (rv63.length : Int) ∧ (-9223372036854775808 ≤ i_72 ∧ i_72 ≤ 9223372036854775807) ∧ ((out_71.length : Int) ≤ i_72), r70⟩) (((rv63.length : Int) - 0).toNat, [], 0, none, 0) [0, 0, 1, 3, 4] ⟨rfl, rfl, aM1, aM1, aM1, iv0⟩ ?_
 rintro ⟨r70, out_71, i_72, a73, k74⟩ ⟨hM75, hr76, hi77, hi78, hk79, hv80⟩
 refine JJ_nx fun _ _ hL hA => ?_; dsimp only at hL hA; subst hL hA
 refine Fb 16 0 fun _ => Fb 32 1 fun _ => Fb 16 2 fun _ => ?_
 refine FoS 2 fun ho84 => ?_
 refine Fb 40 4 fun _ => KS ?_
 refine Oq Vm (Oq Vm (Oq (Vlen sl71) (Oq Vlss (KS ?_))))
 refine Kc ?_ ?_
 ·intro h86
  have g87 := dt h86
  obtain ⟨r88, rfl⟩ := scc (n := r70) aM1
  refine KS ?_
  refine JJ_peek_GNode i_72.toNat 1 rfl rng fun hb89 hb90 hb91 hb92 => ?_
  unfold i64ok at hb89 hb90 hb91 hb92
  refine JK_drawK [0, 0, 0, 6, 14, 31, 63, 127, 127, 0, 767, 2047] fmix ?_
  refine Dv [4] (VldA sh25 0) (Dv [] Vm (Dv [] Vm (Dv [2] (Vi sl71 0) (Dv [0] (VldA sh63 0) ?_))))
  refine letv (r7_Stmt p (rv63.getD i_72.toNat default)) fun rv95 hg96 => ?_
  refine Dx [5] [] [3, 0, 1, 2] (fun G => .tuple #[.agg #[vi rv95.1.Op, .string (bs rv95.1.Def), (G.g 5 0), (G.g 5 1)], vb rv95.2]) [fun G => SP.fact (i64ok rv95.1.Op ∧ rv95.1.Def.b.length ≤ 140737488355328), fun G => sl (G.g 5 0) rv95.1.Uses, fun G => sl (G.g 5 1) rv95.1.Targets] (fun G => xC [0] ca31 (fn31 p pa0 pk0 ((rv63.getD i_72.toNat default)) pre pre pre pre rv95 hg96)) (Dg [] (fun G => .tuple #[.agg #[vi rv95.1.Op, .string (bs rv95.1.Def), (G.g 5 0), (G.g 5 1)], vb rv95.2]) (fun G => Vm) (Dg [] (fun G => .agg #[vi rv95.1.Op, .string (bs rv95.1.Def), (G.g 5 0), (G.g 5 1)]) (fun G => Vx) (Dv [] Vx (Dx [] [] [0] (fun G => (G.g 9 0)) [fun G => Cl (G.g 9 0) [vi 0, .string (bs (Str.mk [])), .slice none 0 0, .slice none 0 0]] (fun G => xA (Al ze37 [vi 0, .string (bs (Str.mk [])), .slice none 0 0, .slice none 0 0])) (Dx0 [7, 8, 9] [9] [1, 2, 0] [fun G => Cl (G.g 9 0) [vi rv95.1.Op, .string (bs rv95.1.Def), (G.g 5 0), (G.g 5 1)]] (fun G => x1 0 rfl sl_one fun ho98 => (x1 1 rfl sl_one fun ho99 => (xS (Scl [2] sh37 [vi rv95.1.Op, .string (bs rv95.1.Def), (G.g 5 0), (G.g 5 1)] (v := .agg #[vi rv95.1.Op, .string (bs rv95.1.Def), (G.g 5 0), (G.g 5 1)]) (h1 := show [vi rv95.1.Op, .string (bs rv95.1.Def), (G.g 5 0), (G.g 5 1)].all (·.oneCell') = true from (by simp only [List.all_cons, List.all_nil, ho98, ho99, Bool.and_true, Bool.true_and] <;> rfl)))))) (Dv [] Va ?_))))))
  refine Dn ⟨by kernel_rfl, fun G => ?_⟩
  refine Jw2 [(2, p2), (8, vl a25 k26 rv22), (9, vl a73 k74 out_71), (11, vl a67 k68 rv63), (12, vi i_72), (13, (G.g 9 0)), (14, vb rv95.2)] [0, 1, 2, 3, 4, 5] [SP.fact (i64ok rv95.1.Op ∧ rv95.1.Def.b.length ≤ 140737488355328), sl (G.g 5 0) rv95.1.Uses, sl (G.g 5 1) rv95.1.Targets, Cl (G.g 9 0) [vi rv95.1.Op, .string (bs rv95.1.Def), (G.g 5 0), (G.g 5 1)]] ?_
  generalize G.g 5 0 = c93, G.g 5 1 = c94, G.g 9 0 = p97
  refine Jf 6 rfl ?_; rintro ⟨he100, he101⟩
  unfold i64ok at he100
  refine Jk [0, 1, 1, 2, 3, 4, 6, 7, 8] ?_
  refine Jo 6 ?_; rintro a102 k103 rfl
  refine Fb 16 6 fun _ => ?_
  refine FoS 6 fun ho105 => ?_
  refine Jo 7 ?_; rintro a106 k107 rfl
  refine Fb 16 7 fun _ => ?_
  refine FoS 7 fun ho109 => ?_
  refine KS ?_
  refine Oq Vm (Oq Vm ?_)
  refine Js 62 ?_ ?_
  ·intro h110
   refine Oq Vm (Oq Vm (Oq (Vi sl71 2) (Oq (Vfa fo63_0 0) (Oq (VldF sh3 0) (Oq Veql (Oq Vpt (Oq Vm ?_)))))))
   refine Js 70 ?_ ?_
   ·intro h112
    have g113 := eq_of_beq h112
    refine Oq (VldA sh37 8) ?_
    refine letv (r4_Defines rv95.1) fun rv114 hg115 => ?_
    have hc116 := fn32 rv95.1 a102 k103 a106 k107 pre pre rv114 hg115
    refine Oc [6, 7] ca32 hc116 ?_
    rintro - -
    refine Oq Vpt (KS ?_)
    refine Kc ?_ ?_
    ·intro h117
     refine KS ?_
     refine Oq Vm (Oq Vm (Oq Vm (Oq (Vfa fo37_1 8) (Oq (VldF sh9 8) ?_))))
     refine letv (r4_Place rv22 rv95.1.Def) fun rv119 hg120 => ?_
     have hc121 := fn24 rv22 a25 k26 rv95.1.Def pre rv119 hg120
     refine Oc [3] ca24 hc121 ?_
     rintro - he122
     unfold i64ok at he122
     refine Oq (Vbd st49 [vi i_72, vi rv119]) (Oa (AsV sl38 sz38 [.agg #[vi i_72, vi rv119]] [vi i_72, vi rv119]) fun c123 => ?_)
     refine Jo 0 ?_; rintro a124 k125 rfl
     refine Jl [0] (Ent.cr1 (α := GFact) (A := []) _ (GFact.mk i_72 rv119) _ aB1 (fun h => ⟨rfl, aL1, aL1⟩)) ?_
     refine Oa (ApO [2, 0] sl38 sl38 sz38) fun c126 => ?_
     refine Jo 0 ?_; rintro a127 k128 rfl
     refine Fb 16 0 fun _ => ?_
     have hn130 := la out_71 ([(GFact.mk i_72 rv119)] : List GFact)
     refine Oq Va (KS ?_)
     refine Oq Vm (Oq Vadd (Oq Va (KS ?_)))
     exact Kg (r88, (out_71 ++ [(GFact.mk i_72 rv119)]), (i_72 + 1), a127, k128) [0, 1, 2, 3, 4] ⟨(q3 hM75 (by simp only [r7_Facts_L1, h86, h110, h112, h117, hg96, hg115, hg120, cs4])), aM1, aM1, aM1, aM1, iv1⟩
    intro h117
    refine KS ?_
    refine Oq Vm (Oq Vadd (Oq Va (KS ?_)))
    exact Kg (r88, out_71, (i_72 + 1), a73, k74) [1, 1, 2, 3, 4] ⟨(q3 hM75 (by simp only [r7_Facts_L1, h86, h110, h112, h117, hg96, hg115, cs4])), aM1, aM1, aM1, aM1, iv1⟩
   intro h112
   have g132 := ne_of_beq_false h112
   refine Osk (Osk (Oq Vpf (KS ?_)))
   refine Kf (KS ?_)
   refine Oq Vm (Oq Vadd (Oq Va (KS ?_)))
   exact Kg (r88, out_71, (i_72 + 1), a73, k74) [1, 1, 2, 3, 4] ⟨(q3 hM75 (by simp only [r7_Facts_L1, h86, h110, h112, hg96, cs4])), aM1, aM1, aM1, aM1, iv1⟩
  intro h110
  refine Osk (Osk (Osk (Osk (Osk (Osk (Oq Vpf (Oq Vm (Osk (Osk ?_)))))))))
  refine Oq Vpf (KS ?_)
  refine Kf (KS ?_)
  refine Oq Vm (Oq Vadd (Oq Va (KS ?_)))
  exact Kg (r88, out_71, (i_72 + 1), a73, k74) [1, 1, 2, 3, 4] ⟨(q3 hM75 (by simp only [r7_Facts_L1, h86, h110, hg96, cs4])), aM1, aM1, aM1, aM1, iv1⟩
 intro h86
 have g134 := df h86
 obtain rfl : r70 = 0 := by omega
 refine Ke ?_
 have hR135 := q2 hM75 out_71 (by simp only [r7_Facts_L1, h86, cs4])
 refine KS ?_
 refine Oq Vm (Oq (Vlen sl38) (Oq Vgtr (KS ?_)))
 refine Kc ?_ ?_
 ·intro h136
  have g137 := dt h136
  refine KS ?_
  refine Oq Va (Oq Va (KS ?_))
  refine Jl [] (Ent.slNil (α := GFact)) ?_
  have hq := q4 hrr (([] : List GFact), 7) (by simp only [r7_Facts, h12, h15, h18, h29, h86, h136, hg4, hg23, hg64, hR135, cs4]); subst hq
  exact Kr (.slice none 0 0) rfl (.tmp rfl (.tmp rfl .nil)) [0] en
 intro h136
 have g138 := df h136
 refine KS ?_
 refine Oq Vm (Oq Va (Oq Va (KS ?_)))
 refine Jl [0] (Ent.freeze _ _) ?_
 have hq := q4 hrr (out_71, 0) (by simp only [r7_Facts, h12, h15, h18, h29, h86, h136, hg4, hg23, hg64, hR135, cs4]); subst hq
 exact Kr (vl a73 k74 out_71) rfl (.tmp rfl (.tmp rfl .nil)) [0] en
theorem fn50 (s : List Str) (sa0 : Option Addr) (sk0 : Nat) (v : Str) (hv_0 : v.b.length ≤ 140737488355328) (rr : Int) (hrr : sc_Index_string s v = rr) : FT Tryz.prog 50 #[vl sa0 sk0 s, .string (bs v)] [S sa0 sk0 s] (fun g : Unit => i64ok rr) (fun g => vi rr) (fun g => []) := by
 refine FTi Tryz.func50 fun w0 M0 F0 => Fb 16 0 fun _ => ?_
 refine FoS 0 fun ho2 => ?_
 refine KS ?_
 refine Oq Va (KS ?_)
 refine Oq Vm (Oq (Vlen sl35) (Oq Vm (KS ?_)))
 refine Kl (γ := Nat × Int) (fun (r3, v8_4) => ⟨[(0, vl sa0 sk0 s), (1, .string (bs v)), (7, vi (s.length : Int)), (8, vi v8_4)], [S sa0 sk0 s], sc_Index_string_L0 s v r3 v8_4 = sc_Index_string_L0 s v (((s.length : Int) - 0).toNat) 0 ∧ r3 = ((s.length : Int) - v8_4).toNat ∧ (0 : Int) ≤ v8_4 ∧ v8_4 ≤ (s.length : Int) ∧ (-9223372036854775808 ≤ v8_4 ∧ v8_4 ≤ 9223372036854775807), r3⟩) (((s.length : Int) - 0).toNat, 0) [0] ⟨rfl, rfl, aM1, aM1, aM1⟩ ?_
 rintro ⟨r3, v8_4⟩ ⟨hM5, hr6, hi7, hi8, hk9⟩
 refine JJ_nx fun _ _ hL hA => ?_; dsimp only at hL hA; subst hL hA
 refine Fb 16 0 fun _ => ?_
 refine FoS 0 fun ho11 => ?_
 refine KS ?_
 refine Oq Vlss (KS ?_)
 refine Kc ?_ ?_
 ·intro h12
  have g13 := dt h12
  obtain ⟨r14, rfl⟩ := scc (n := r3) aM1
  refine KS ?_
  refine Oq Vm (Oq Va (KS ?_))
  refine Oq Vm (Oq Vm (Oq Vm (Oq (Vi sl35 0) ?_)))
  have hb15 := okS (i := v8_4.toNat) ho11 rng
  refine Oq (VldS sh9 0) (Oq (VeqS (l := v) (m := (s.getD v8_4.toNat default))) (KS ?_))
  refine Kc ?_ ?_
  ·intro h16
   have g17 := eq_of_beq h16
   refine KS ?_
   refine Oq Vm (Oq Va (KS ?_))
   have hR18 := q2 hM5 (.ret v8_4) (by simp only [sc_Index_string_L0, h12, h16, cs4])
   have hq := q4 hrr v8_4 (by simp only [sc_Index_string, h12, h16, hR18, cs4]); subst hq
   exact Kr () rfl (.tmp rfl .nil) [] en
  intro h16
  have g19 := ne_of_beq_false h16
  refine KS ?_
  refine Oq Vadd (Oq Vm (KS ?_))
  exact Kg (r14, (v8_4 + 1)) [0] ⟨(q3 hM5 (by simp only [sc_Index_string_L0, h12, h16, cs4])), aM1, aM1, aM1, aM1⟩
 intro h12
 have g20 := df h12
 obtain rfl : r3 = 0 := by omega
 refine Ke ?_
 have hR21 := q2 hM5 (.brk ()) (by simp only [sc_Index_string_L0, h12, cs4])
 refine KS ?_
 refine Oq Va (KS ?_)
 have hq := q4 hrr (-1) (by simp only [sc_Index_string, h12, hR21, cs4]); subst hq
 exact Kr () rfl (.tmp rfl .nil) [] en
theorem fn100 (s : List Str) (sa0 : Option Addr) (sk0 : Nat) (v : Str) (hv_0 : v.b.length ≤ 140737488355328) (rr : Bool) (hrr : sc_Contains_string s v = rr) : FT Tryz.prog 100 #[vl sa0 sk0 s, .string (bs v)] [S sa0 sk0 s] (fun g : Unit => True) (fun g => vb rr) (fun g => []) := by
 refine FTi Tryz.func100 fun w0 M0 F0 => Fb 16 0 fun _ => ?_
 refine FoS 0 fun ho2 => ?_
 refine KS ?_
 refine Oq Va (KS ?_)
 refine Oq Vm (Oq Vm ?_)
 refine letv (sc_Index_string s v) fun rv3 hg4 => ?_
 have hc5 := fn50 s sa0 sk0 v pre rv3 hg4
 refine Oc [0] ca50 hc5 ?_
 rintro - he6
 unfold i64ok at he6
 refine Oq Vgeq (Oq Va (KS ?_))
 have hq := q4 hrr (decide (0 ≤ rv3)) (by simp only [sc_Contains_string, hg4, cs4]); subst hq
 exact Kr () rfl (.tmp rfl .nil) [] trivial
theorem fn124 (c : Int) (hc_0 : 0 ≤ c ∧ c ≤ 255) (rr : Bool) (hrr : lx_digit c = rr) : FT Tryz.prog 124 #[.int .u8 c] [] (fun g : Unit => True) (fun g => vb rr) (fun g => []) := by
 refine FTi Tryz.func124 fun w0 M0 F0 => ?_
 refine KS ?_
 refine Oq Va (KS ?_)
 refine Oq Vm (Oq Vgeq (Oq Vm ?_))
 refine Js 5 ?_ ?_
 ·intro h1
  have g2 := dt h1
  refine Oq Vm (Oq Vleq (Oq Vpt (Oq Va (KS ?_))))
  have hq := q4 hrr (decide (c ≤ 57)) (by simp only [lx_digit, h1, cs4]); subst hq
  exact Kr () rfl (.tmp rfl .nil) [] trivial
 intro h1
 have g3 := df h1
 refine Osk (Osk (Oq Vpf (Oq Va (KS ?_))))
 have hq := q4 hrr false (by simp only [lx_digit, h1, cs4]); subst hq
 exact Kr () rfl (.tmp rfl .nil) [] trivial
theorem fn99 (c : Int) (hc_0 : 0 ≤ c ∧ c ≤ 255) (rr : Bool) (hrr : lx_letter c = rr) : FT Tryz.prog 99 #[.int .u8 c] [] (fun g : Unit => True) (fun g => vb rr) (fun g => []) := by
 refine FTi Tryz.func99 fun w0 M0 F0 => ?_
 refine KS ?_
 refine Oq Va (KS ?_)
 refine Oq Vm (Oq Vgeq (Oq Vm ?_))
 refine Js 5 ?_ ?_
 ·intro h1
  have g2 := dt h1
  refine Oq Vm (Oq Vleq (Oq Vpt (Oq Vm ?_)))
  refine Js 9 ?_ ?_
  ·intro h3
   have g4 := dt h3
   refine Osk (Osk (Osk (Osk (Osk (Osk (Oq Vpt (Oq Va (KS ?_))))))))
   have hq := q4 hrr true (by simp only [lx_letter, h1, h3, cs4]); subst hq
   exact Kr () rfl (.tmp rfl .nil) [] trivial
  intro h3
  have g5 := df h3
  refine Oq Vm (Oq Vgeq (Oq Vm ?_))
  refine Js 12 ?_ ?_
  ·intro h6
   have g7 := dt h6
   refine Oq Vm (Oq Vleq (Oq Vpt (Oq Vpf (Oq Va (KS ?_)))))
   have hq := q4 hrr (decide (c ≤ 90)) (by simp only [lx_letter, h1, h3, h6, cs4]); subst hq
   exact Kr () rfl (.tmp rfl .nil) [] trivial
  intro h6
  have g8 := df h6
  refine Osk (Osk (Oq Vpf (Oq Vpf (Oq Va (KS ?_)))))
  have hq := q4 hrr false (by simp only [lx_letter, h1, h3, h6, cs4]); subst hq
  exact Kr () rfl (.tmp rfl .nil) [] trivial
 intro h1
 have g9 := df h1
 refine Osk (Osk (Oq Vpf (Oq Vm (Oq Vm (Oq Vgeq (Oq Vm ?_))))))
 refine Js 12 ?_ ?_
 ·intro h10
  have g11 := dt h10
  refine Oq Vm (Oq Vleq (Oq Vpt (Oq Vpf (Oq Va (KS ?_)))))
  have hq := q4 hrr (decide (c ≤ 90)) (by simp only [lx_letter, h1, h10, cs4]); subst hq
  exact Kr () rfl (.tmp rfl .nil) [] trivial
 intro h10
 have g12 := df h10
 refine Osk (Osk (Oq Vpf (Oq Vpf (Oq Va (KS ?_)))))
 have hq := q4 hrr false (by simp only [lx_letter, h1, h10, cs4]); subst hq
 exact Kr () rfl (.tmp rfl .nil) [] trivial
theorem fn115 (c : Int) (hc_0 : 0 ≤ c ∧ c ≤ 255) (rr : Bool) (hrr : lx_part c = rr) : FT Tryz.prog 115 #[.int .u8 c] [] (fun g : Unit => True) (fun g => vb rr) (fun g => []) := by
 refine FTi Tryz.func115 fun w0 M0 F0 => ?_
 refine KS ?_
 refine Oq Va (KS ?_)
 refine Oq Vm ?_
 refine letv (lx_letter c) fun rv1 hg2 => ?_
 have hc3 := fn99 c pre rv1 hg2
 refine Oc [] ca99 hc3 ?_
 rintro - -
 refine Oq Vm ?_
 refine Js 5 ?_ ?_
 ·intro h4
  refine Osk (Osk (Oq Vpt (Oq Vm (Osk (Osk (Oq Vpt (Oq Va (KS ?_))))))))
  have hq := q4 hrr true (by simp only [lx_part, h4, hg2, cs4]); subst hq
  exact Kr () rfl (.tmp rfl .nil) [] trivial
 intro h4
 refine Oq Vm ?_
 refine letv (lx_digit c) fun rv7 hg8 => ?_
 have hc9 := fn124 c pre rv7 hg8
 refine Oc [] ca124 hc9 ?_
 rintro - -
 refine Oq Vpf (Oq Vm ?_)
 refine Js 9 ?_ ?_
 ·intro h10
  refine Osk (Osk (Oq Vpt (Oq Va (KS ?_))))
  have hq := q4 hrr true (by simp only [lx_part, h4, h10, hg2, hg8, cs4]); subst hq
  exact Kr () rfl (.tmp rfl .nil) [] trivial
 intro h10
 refine Oq Vm (Oq Veql (Oq Vpf (Oq Va (KS ?_))))
 have hq := q4 hrr (c == 95) (by simp only [lx_part, h4, h10, hg2, hg8, cs4]); subst hq
 exact Kr () rfl (.tmp rfl .nil) [] trivial
theorem fn101 (s : Str) (i : Int) (hs_0 : s.b.length ≤ 140737488355328) (hi_0 : i64ok i) (hi0 : 0 ≤ i ∧ i ≤ (s.b.length : Int)) (rr : Int) (hrr : lx_wordEnd s i = rr) : FT Tryz.prog 101 #[.string (bs s), vi i] [] (fun g : Unit => i64ok rr ∧ (i ≤ rr ∧ rr ≤ (s.b.length : Int))) (fun g => vi rr) (fun g => []) := by
 refine FTi Tryz.func101 fun w0 M0 F0 => ?_
 unfold i64ok at hi_0
 refine KS ?_
 refine Oq Va (KS ?_)
 refine Kl (γ := Nat × Int) (fun (r1, i_2) => ⟨[(0, .string (bs s)), (1, vi i_2)], [], lx_wordEnd_L0 s r1 i_2 = lx_wordEnd_L0 s (((s.b.length : Int) - i).toNat) i ∧ r1 = ((s.b.length : Int) - i_2).toNat ∧ (i : Int) ≤ i_2 ∧ (i_2 ≤ (s.b.length : Int) ∨ i_2 = i) ∧ (-9223372036854775808 ≤ i_2 ∧ i_2 ≤ 9223372036854775807), r1⟩) (((s.b.length : Int) - i).toNat, i) [] ⟨rfl, rfl, aM1, (.inr rfl), aM1⟩ ?_
 rintro ⟨r1, i_2⟩ ⟨hM3, hr4, hi5, hi6, hk7⟩
 refine JJ_nx fun _ _ hL hA => ?_; dsimp only at hL hA; subst hL hA
 refine KS ?_
 refine Oq Vm (Oq Vm (Oq (VlS un9 (l := s)) (Oq Vlss (Oq Vm ?_))))
 refine Js 9 ?_ ?_
 ·intro h8
  have g9 := dt h8
  obtain ⟨r10, rfl⟩ := scc (n := r1) aM1
  refine Oq Vm (Oq Vm (Oq (Vix un9 (l := s)) ?_))
  have hb11 := u8b (s.b.getD i_2.toNat 0)
  refine letv (lx_part ((s.b.getD i_2.toNat 0).toNat : Int)) fun rv12 hg13 => ?_
  have hc14 := fn115 (((s.b.getD i_2.toNat 0).toNat : Int)) pre rv12 hg13
  refine Oc [] ca115 hc14 ?_
  rintro - -
  refine Oq Vpt (KS ?_)
  refine Kc ?_ ?_
  ·intro h15
   refine KS ?_
   refine Oq Vm (Oq Vadd (Oq Va (KS ?_)))
   exact Kg (r10, (i_2 + 1)) [] ⟨(q3 hM3 (by simp only [lx_wordEnd_L0, h8, h15, hg13, cs4])), aM1, aM1, aM1, aM1⟩
  intro h15
  refine Ke ?_
  have hR18 := q2 hM3 i_2 (by simp only [lx_wordEnd_L0, h8, h15, hg13, cs4])
  refine KS ?_
  refine Oq Vm (Oq Va (KS ?_))
  have hq := q4 hrr i_2 (by simp only [lx_wordEnd, h8, h15, hg13, hR18, cs4]); subst hq
  exact Kr () rfl (.tmp rfl .nil) [] en
 intro h8
 have g19 := df h8
 obtain rfl : r1 = 0 := by omega
 refine Osk (Osk (Osk (Osk (Oq Vpf (KS ?_)))))
 refine Kf ?_
 refine Ke ?_
 have hR20 := q2 hM3 i_2 (by simp only [lx_wordEnd_L0, h8, cs4])
 refine KS ?_
 refine Oq Vm (Oq Va (KS ?_))
 have hq := q4 hrr i_2 (by simp only [lx_wordEnd, h8, hR20, cs4]); subst hq
 exact Kr () rfl (.tmp rfl .nil) [] en
theorem fn68 (s : Str) (kwLA : Option Addr) (kwLK : Nat) (hs_0 : s.b.length ≤ 140737488355328) (rr : Bool) (hrr : lx_IsName s = rr) : FT Tryz.prog 68 #[.string (bs s)] [pv (gp 0) [vl kwLA kwLK kwL], S kwLA kwLK kwL] (fun g : Unit => True) (fun g => vb rr) (fun g => []) := by
 refine FTi Tryz.func68 fun w0 M0 F0 => Fb 16 1 fun _ => ?_
 refine FoS 1 fun ho2 => ?_
 refine KS ?_
 refine Oq Va (KS ?_)
 refine Oq Vm (Oq (VeqS (l := s) (m := (Str.mk []))) (Oq Vm ?_))
 refine Js 5 ?_ ?_
 ·intro h3
  have g4 := eq_of_beq h3
  refine Osk (Osk (Osk (Oq Vpt (Oq Vm (Osk (Osk (Osk (Osk (Oq Vpt ?_)))))))))
  refine Oq Vm (Osk (Osk (Osk (Oq Vpt (KS ?_)))))
  refine Kt (KS ?_)
  refine Oq Va (KS ?_)
  have hq := q4 hrr false (by simp only [lx_IsName, h3, cs4]); subst hq
  exact Kr () rfl (.tmp rfl .nil) [] trivial
 intro h3
 have g5 := ne_of_beq_false h3
 have hsp := str_pos h3
 refine Oq Vm (Oq (VlS un9 (l := s)) (Oq Vgtr (Oq Vpf (Oq Vm ?_))))
 refine Js 10 ?_ ?_
 ·intro h6
  have g7 := dt h6
  refine Osk (Osk (Osk (Osk (Oq Vpt (Oq Vm (Osk (Osk (Osk (Oq Vpt ?_)))))))))
  refine KS ?_
  refine Kt (KS ?_)
  refine Oq Va (KS ?_)
  have hq := q4 hrr false (by simp only [lx_IsName, h3, h6, cs4]); subst hq
  exact Kr () rfl (.tmp rfl .nil) [] trivial
 intro h6
 have g8 := df h6
 refine Oq Vm (Oq (Vix un9 (l := s)) ?_)
 have hb9 := u8b (s.b.getD (0 : Int).toNat 0)
 refine letv (lx_letter ((s.b.getD (0 : Int).toNat 0).toNat : Int)) fun rv10 hg11 => ?_
 have hc12 := fn99 (((s.b.getD (0 : Int).toNat 0).toNat : Int)) pre rv10 hg11
 refine Oc [] ca99 hc12 ?_
 rintro - -
 refine Oq Vnot (Oq Vpf (Oq Vm ?_))
 refine Js 16 ?_ ?_
 ·intro h13
  have h15 := not_true h13
  refine Osk (Osk (Osk (Oq Vpt (KS ?_))))
  refine Kt (KS ?_)
  refine Oq Va (KS ?_)
  have hq := q4 hrr false (by simp only [lx_IsName, h3, h6, h13, h15, hg11, cs4]); subst hq
  exact Kr () rfl (.tmp rfl .nil) [] trivial
 intro h13
 have h18 := not_false h13
 refine Oq (Vld sh35 0) (Oq Vm ?_)
 refine letv (sc_Contains_string kwL s) fun rv20 hg21 => ?_
 have hc22 := fn100 kwL kwLA kwLK s pre rv20 hg21
 refine Oc [1] ca100 hc22 ?_
 rintro - -
 refine Oq Vpf (KS ?_)
 refine Kc ?_ ?_
 ·intro h23
  refine KS ?_
  refine Oq Va (KS ?_)
  have hq := q4 hrr false (by simp only [lx_IsName, h3, h6, h13, h18, h23, hg11, hg21, cs4]); subst hq
  exact Kr () rfl (.tmp rfl .nil) [] trivial
 intro h23
 refine KS ?_
 refine Oq Vm ?_
 refine letv (lx_wordEnd s 0) fun rv26 hg27 => ?_
 have hc28 := fn101 s 0 pre pre pre rv26 hg27
 refine Oc [] ca101 hc28 ?_
 rintro - ⟨he29, he30⟩
 unfold i64ok at he29
 refine Oq Vm (Oq (VlS un9 (l := s)) (Oq Veql (Oq Va (KS ?_))))
 have hq := q4 hrr (rv26 == (s.b.length : Int)) (by simp only [lx_IsName, h3, h6, h13, h18, h23, hg11, hg21, hg27, cs4]); subst hq
 exact Kr () rfl (.tmp rfl .nil) [] trivial
theorem fn102 (s : List GStmt) (sa0 : Option Addr) (sk0 : Nat) (fF : FuncId) (fC : List Value) (fp : GStmt → Bool) (fA : List SP) (hfc : callable Tryz.prog fF = true) (hfF : ∀ x ∈ s, ∀ (a2 : Option Addr) (k2 : Nat) (a3 : Option Addr) (k3 : Nat), i64ok x.Op → x.Def.b.length ≤ 140737488355328 → FT Tryz.prog fF ([(.agg #[vi x.Op, .string (bs x.Def), vl a2 k2 x.Uses, vl a3 k3 x.Targets] : Value)] ++ fC).toArray ([S a2 k2 x.Uses, S a3 k3 x.Targets] ++ [pAll fA]) (fun _ : Unit => True) (fun _ => .bool (fp x)) (fun _ => [])) (rr : Int) (hrr : sc_IndexFunc_Stmt s fp = rr) : FT Tryz.prog 102 #[vl sa0 sk0 s, .func (.func fF) #[] fC.toArray] [S sa0 sk0 s, pAll fA] (fun g : Unit => i64ok rr) (fun g => vi rr) (fun g => []) := by
 refine FTi Tryz.func102 fun w0 M0 F0 => Fb 72 0 fun _ => ?_
 refine KS ?_
 refine Oq Va (KS ?_)
 refine Oq Vm (Oq (Vlen sl32) (Oq Vm (KS ?_)))
 refine Kl (γ := Nat × Int) (fun (r2, v8_3) => ⟨[(0, vl sa0 sk0 s), (1, .func (.func fF) #[] fC.toArray), (7, vi (s.length : Int)), (8, vi v8_3)], [S sa0 sk0 s, pAll fA], sc_IndexFunc_Stmt_L0 s fp r2 v8_3 = sc_IndexFunc_Stmt_L0 s fp (((s.length : Int) - 0).toNat) 0 ∧ r2 = ((s.length : Int) - v8_3).toNat ∧ (0 : Int) ≤ v8_3 ∧ v8_3 ≤ (s.length : Int) ∧ (-9223372036854775808 ≤ v8_3 ∧ v8_3 ≤ 9223372036854775807), r2⟩) (((s.length : Int) - 0).toNat, 0) [0, 1] ⟨rfl, rfl, aM1, aM1, aM1⟩ ?_
 rintro ⟨r2, v8_3⟩ ⟨hM4, hr5, hi6, hi7, hk8⟩
 refine JJ_nx fun _ _ hL hA => ?_; dsimp only at hL hA; subst hL hA
 refine Fb 72 0 fun _ => KS ?_
 refine Oq Vlss (KS ?_)
 refine Kc ?_ ?_
 ·intro h10
  have g11 := dt h10
  obtain ⟨r12, rfl⟩ := scc (n := r2) aM1
  refine KS ?_
  refine Oq Vm (Oq Va (KS ?_))
  refine Oq Vm (Oq Vm (Oq Vm (Oq (Vi sl32 0) ?_)))
  refine JJ_peek_GStmt v8_3.toNat 0 rfl rng fun a13 k14 a15 k16 hb17 hb18 => ?_
  unfold i64ok at hb17
  refine Fb 16 1 fun _ => ?_
  refine FoS 1 fun ho20 => ?_
  refine Fb 16 2 fun _ => ?_
  refine FoS 2 fun ho22 => ?_
  refine Oq (VldA sh37 0) ?_
  refine JO_call [1, 2, 4] rfl rfl rfl (OpC.clo (asv := [(.agg #[vi ((s.getD v8_3.toNat default).Op), .string (bs ((s.getD v8_3.toNat default).Def)), vl a13 k14 ((s.getD v8_3.toNat default).Uses), vl a15 k16 ((s.getD v8_3.toNat default).Targets)] : Value)] ++ fC) rfl rfl hfc rfl (by simp)) (hfF (s.getD v8_3.toNat default) (getD_mem rng) a13 k14 a15 k16 pre pre) rfl fun _ _ => ?_
  refine KS ?_
  refine Kc ?_ ?_
  ·intro h23
   refine KS ?_
   refine Oq Vm (Oq Va (KS ?_))
   have hR25 := q2 hM4 (.ret v8_3) (by simp only [sc_IndexFunc_Stmt_L0, h10, h23, cs4])
   have hq := q4 hrr v8_3 (by simp only [sc_IndexFunc_Stmt, h10, h23, hR25, cs4]); subst hq
   exact Kr () rfl (.tmp rfl .nil) [] en
  intro h23
  refine KS ?_
  refine Oq Vadd (Oq Vm (KS ?_))
  exact Kg (r12, (v8_3 + 1)) [3, 4] ⟨(q3 hM4 (by simp only [sc_IndexFunc_Stmt_L0, h10, h23, cs4])), aM1, aM1, aM1, aM1⟩
 intro h10
 have g27 := df h10
 obtain rfl : r2 = 0 := by omega
 refine Ke ?_
 have hR28 := q2 hM4 (.brk ()) (by simp only [sc_IndexFunc_Stmt_L0, h10, cs4])
 refine KS ?_
 refine Oq Va (KS ?_)
 have hq := q4 hrr (-1) (by simp only [sc_IndexFunc_Stmt, h10, hR28, cs4]); subst hq
 exact Kr () rfl (.tmp rfl .nil) [] en
theorem fn69 (s : List GStmt) (sa0 : Option Addr) (sk0 : Nat) (fF : FuncId) (fC : List Value) (fp : GStmt → Bool) (fA : List SP) (hfc : callable Tryz.prog fF = true) (hfF : ∀ x ∈ s, ∀ (a2 : Option Addr) (k2 : Nat) (a3 : Option Addr) (k3 : Nat), i64ok x.Op → x.Def.b.length ≤ 140737488355328 → FT Tryz.prog fF ([(.agg #[vi x.Op, .string (bs x.Def), vl a2 k2 x.Uses, vl a3 k3 x.Targets] : Value)] ++ fC).toArray ([S a2 k2 x.Uses, S a3 k3 x.Targets] ++ [pAll fA]) (fun _ : Unit => True) (fun _ => .bool (fp x)) (fun _ => [])) (rr : Bool) (hrr : sc_ContainsFunc_Stmt s fp = rr) : FT Tryz.prog 69 #[vl sa0 sk0 s, .func (.func fF) #[] fC.toArray] [S sa0 sk0 s, pAll fA] (fun g : Unit => True) (fun g => vb rr) (fun g => []) := by
 refine FTi Tryz.func69 fun w0 M0 F0 => Fb 72 0 fun _ => ?_
 refine KS ?_
 refine Oq Va (KS ?_)
 refine Oq Vm (Oq Vm ?_)
 refine letv (sc_IndexFunc_Stmt s fp) fun rv2 hg3 => ?_
 have hc4 := fn102 s sa0 sk0 fF fC fp fA hfc hfF rv2 hg3
 refine Oc [0, 1] ca102 hc4 ?_
 rintro - he5
 unfold i64ok at he5
 refine Oq Vgeq (Oq Va (KS ?_))
 have hq := q4 hrr (decide (0 ≤ rv2)) (by simp only [sc_ContainsFunc_Stmt, hg3, cs4]); subst hq
 exact Kr () rfl (.tmp rfl .nil) [] trivial
theorem fn103 (s : List Str) (sa0 : Option Addr) (sk0 : Nat) (rr : List Str) (hrr : sc_Clone_string s = rr) : FT Tryz.prog 103 #[vl sa0 sk0 s] [S sa0 sk0 s] (fun g : Value => (rr.length = s.length)) (fun g => g) (fun g => [os g rr]) := by
 have hm : sc_Clone_string s = s := rfl
 rw [hm] at hrr
 subst hrr
 refine FTi Tryz.func103 fun w0 M0 F0 => ?_
 refine KS ?_
 refine Oq Va ?_
 refine KS ?_
 refine Oq Vm ?_
 refine Oq (VeqN un35) ?_
 refine KS ?_
 refine Kc ?_ ?_
 ·intro h
  refine Jnil 0 h ?_
  intro h0
  subst h0
  refine KS ?_
  refine Oq Va ?_
  refine KS ?_
  refine Jl [] (Ent.osNil (α := Str)) ?_
  exact Kr (.slice none 0 0) rfl (.tmp rfl .nil) [0] rfl
 ·intro _
  refine KS ?_
  refine Oa (As0 sl35) fun c1 => ?_
  refine Jo 0 ?_; rintro a2 k3 rfl
  refine Oq Vm ?_
  refine Fb 16 1 fun hl => ?_
  refine Jl [0] (Ent.crNil (α := Str) _) ?_
  refine Oa (Ap0 [0, 0] sl35 sl35 sz35) fun c4 => ?_
  refine Oq Va ?_
  refine KS ?_
  exact Kr c4 rfl (.tmp rfl .nil) [0] rfl
theorem fn116 (s : List Str) (sa0 : Option Addr) (sk0 : Nat) (fF : FuncId) (fC : List Value) (fp : Str → Bool) (fA : List SP) (hfc : callable Tryz.prog fF = true) (hfF : ∀ x ∈ s, x.b.length ≤ 140737488355328 → FT Tryz.prog fF ([(.string (bs x) : Value)] ++ fC).toArray ([] ++ [pAll fA]) (fun _ : Unit => True) (fun _ => .bool (fp x)) (fun _ => [])) (rr : Int) (hrr : sc_IndexFunc_string s fp = rr) : FT Tryz.prog 116 #[vl sa0 sk0 s, .func (.func fF) #[] fC.toArray] [S sa0 sk0 s, pAll fA] (fun g : Unit => i64ok rr) (fun g => vi rr) (fun g => []) := by
 refine FTi Tryz.func116 fun w0 M0 F0 => Fb 16 0 fun _ => ?_
 refine FoS 0 fun ho2 => ?_
 refine KS ?_
 refine Oq Va (KS ?_)
 refine Oq Vm (Oq (Vlen sl35) (Oq Vm (KS ?_)))
 refine Kl (γ := Nat × Int) (fun (r3, v8_4) => ⟨[(0, vl sa0 sk0 s), (1, .func (.func fF) #[] fC.toArray), (7, vi (s.length : Int)), (8, vi v8_4)], [S sa0 sk0 s, pAll fA], sc_IndexFunc_string_L0 s fp r3 v8_4 = sc_IndexFunc_string_L0 s fp (((s.length : Int) - 0).toNat) 0 ∧ r3 = ((s.length : Int) - v8_4).toNat ∧ (0 : Int) ≤ v8_4 ∧ v8_4 ≤ (s.length : Int) ∧ (-9223372036854775808 ≤ v8_4 ∧ v8_4 ≤ 9223372036854775807), r3⟩) (((s.length : Int) - 0).toNat, 0) [0, 1] ⟨rfl, rfl, aM1, aM1, aM1⟩ ?_
 rintro ⟨r3, v8_4⟩ ⟨hM5, hr6, hi7, hi8, hk9⟩
 refine JJ_nx fun _ _ hL hA => ?_; dsimp only at hL hA; subst hL hA
 refine Fb 16 0 fun _ => ?_
 refine FoS 0 fun ho11 => ?_
 refine KS ?_
 refine Oq Vlss (KS ?_)
 refine Kc ?_ ?_
 ·intro h12
  have g13 := dt h12
  obtain ⟨r14, rfl⟩ := scc (n := r3) aM1
  refine KS ?_
  refine Oq Vm (Oq Va (KS ?_))
  refine Oq Vm (Oq Vm (Oq Vm (Oq (Vi sl35 0) ?_)))
  have hb15 := okS (i := v8_4.toNat) ho11 rng
  refine Oq (VldS sh9 0) ?_
  refine JO_call [1] rfl rfl rfl (OpC.clo (asv := [(.string (bs (s.getD v8_4.toNat default)) : Value)] ++ fC) rfl rfl hfc rfl (by simp)) (hfF (s.getD v8_4.toNat default) (getD_mem rng)  pre) rfl fun _ _ => ?_
  refine KS ?_
  refine Kc ?_ ?_
  ·intro h16
   refine KS ?_
   refine Oq Vm (Oq Va (KS ?_))
   have hR18 := q2 hM5 (.ret v8_4) (by simp only [sc_IndexFunc_string_L0, h12, h16, cs4])
   have hq := q4 hrr v8_4 (by simp only [sc_IndexFunc_string, h12, h16, hR18, cs4]); subst hq
   exact Kr () rfl (.tmp rfl .nil) [] en
  intro h16
  refine KS ?_
  refine Oq Vadd (Oq Vm (KS ?_))
  exact Kg (r14, (v8_4 + 1)) [0, 1] ⟨(q3 hM5 (by simp only [sc_IndexFunc_string_L0, h12, h16, cs4])), aM1, aM1, aM1, aM1⟩
 intro h12
 have g20 := df h12
 obtain rfl : r3 = 0 := by omega
 refine Ke ?_
 have hR21 := q2 hM5 (.brk ()) (by simp only [sc_IndexFunc_string_L0, h12, cs4])
 refine KS ?_
 refine Oq Va (KS ?_)
 have hq := q4 hrr (-1) (by simp only [sc_IndexFunc_string, h12, hR21, cs4]); subst hq
 exact Kr () rfl (.tmp rfl .nil) [] en
theorem fn104 (s : List Str) (sa0 : Option Addr) (sk0 : Nat) (fF : FuncId) (fC : List Value) (fp : Str → Bool) (fA : List SP) (hfc : callable Tryz.prog fF = true) (hfF : ∀ x ∈ s, x.b.length ≤ 140737488355328 → FT Tryz.prog fF ([(.string (bs x) : Value)] ++ fC).toArray ([] ++ [pAll fA]) (fun _ : Unit => True) (fun _ => .bool (fp x)) (fun _ => [])) (rr : Bool) (hrr : sc_ContainsFunc_string s fp = rr) : FT Tryz.prog 104 #[vl sa0 sk0 s, .func (.func fF) #[] fC.toArray] [S sa0 sk0 s, pAll fA] (fun g : Unit => True) (fun g => vb rr) (fun g => []) := by
 refine FTi Tryz.func104 fun w0 M0 F0 => Fb 16 0 fun _ => ?_
 refine FoS 0 fun ho2 => ?_
 refine KS ?_
 refine Oq Va (KS ?_)
 refine Oq Vm (Oq Vm ?_)
 refine letv (sc_IndexFunc_string s fp) fun rv3 hg4 => ?_
 have hc5 := fn116 s sa0 sk0 fF fC fp fA hfc hfF rv3 hg4
 refine Oc [0, 1] ca116 hc5 ?_
 rintro - he6
 unfold i64ok at he6
 refine Oq Vgeq (Oq Va (KS ?_))
 have hq := q4 hrr (decide (0 ≤ rv3)) (by simp only [sc_ContainsFunc_string, hg4, cs4]); subst hq
 exact Kr () rfl (.tmp rfl .nil) [] trivial
theorem fn105 (n : Str) (kwLA : Option Addr) (kwLK : Nat) (hn_0 : n.b.length ≤ 140737488355328) (rr : Bool) (hrr : sx_valid_1 n = rr) : FT Tryz.prog 105 #[.string (bs n)] [pv (gp 0) [vl kwLA kwLK kwL], S kwLA kwLK kwL] (fun g : Unit => True) (fun g => vb rr) (fun g => []) := by
 refine FTi Tryz.func105 fun w0 M0 F0 => Fb 16 1 fun _ => ?_
 refine FoS 1 fun ho2 => ?_
 refine KS ?_
 refine Oq Va (KS ?_)
 refine Oq Vm ?_
 refine letv (lx_IsName n) fun rv3 hg4 => ?_
 have hc5 := fn68 n kwLA kwLK pre rv3 hg4
 refine Oc [0, 1] ca68 hc5 ?_
 rintro - -
 refine Oq Vnot (Oq Va (KS ?_))
 have hq := q4 hrr (!rv3) (by simp only [sx_valid_1, hg4, cs4]); subst hq
 exact Kr () rfl (.tmp rfl .nil) [] trivial
theorem fn71 (s : GStmt) (sa2 : Option Addr) (sk2 : Nat) (sa3 : Option Addr) (sk3 : Nat) (kwLA : Option Addr) (kwLK : Nat) (hs_0 : i64ok s.Op) (hs_1 : s.Def.b.length ≤ 140737488355328) (hsm : SSm s = true) (rr : Bool) (hrr : sx_valid s = rr) : FT Tryz.prog 71 #[.agg #[vi s.Op, .string (bs s.Def), vl sa2 sk2 s.Uses, vl sa3 sk3 s.Targets]] [S sa2 sk2 s.Uses, S sa3 sk3 s.Targets, pv (gp 0) [vl kwLA kwLK kwL], S kwLA kwLK kwL] (fun g : Unit => True) (fun g => vb rr) (fun g => []) := by
 refine FTi Tryz.func71 fun w0 M0 F0 => ?_
 unfold i64ok at hs_0
 refine Fb 16 0 fun _ => ?_
 refine FoS 0 fun ho2 => ?_
 refine Fb 16 1 fun _ => ?_
 refine FoS 1 fun ho4 => ?_
 refine Fb 16 3 fun _ => ?_
 refine FoS 3 fun ho6 => ?_
 have hsl := SSm_l hsm
 refine KS ?_
 refine Oa (Ab [vi s.Op, .string (bs s.Def), vl sa2 sk2 s.Uses, vl sa3 sk3 s.Targets]) fun p7 => Oq Va (KS ?_)
 refine Kq [0, 1, 3, 0, 15, 31] fmix ?_
 refine Qv [0] (Vfa fo37_2 0) (Qv [0] (VldF sh35 0) (Qv [] (Vlen sl35) (Qv [] Va (Qv [] Va (Qv [] Va ?_)))))
 refine Qn ⟨by kernel_rfl, ?_⟩
 refine KS ?_
 refine Oq (Vfa fo37_0 0) (Oq (VldF sh3 0) (KS ?_))
 refine Oq Veql (Oq Va (KS ?_))
 refine Kc ?_ ?_
 ·intro h8
  have g9 := eq_of_beq h8
  refine Ke ?_
  refine KS ?_
  refine Oq Va (KS ?_)
  refine Ke ?_
  refine KS ?_
  refine JK_drawK [0, 1, 3, 0, 8, 31, 63] fmix ?_
  refine Dv [0] (Vfa fo37_2 0) (Dv [0] (VldF sh35 0) ?_)
  refine letv (sc_Clone_string s.Uses) fun rv11 hg12 => ?_
  refine Dx [1] [] [2, 0, 1] (fun G => (G.g 2 0)) [fun G => SP.fact ((rv11.length = s.Uses.length)), fun G => os (G.g 2 0) rv11] (fun G => xC [0] ca103 (fn103 s.Uses sa2 sk2 rv11 hg12)) (Dv [0] (Vfa fo37_3 0) (Dv [0] (VldF sh35 0) ?_))
  have hn14 := la rv11 s.Targets
  refine Dx [2, 5, 6] [6] [1, 2, 0] (fun G => (G.g 5 0)) [fun G => os (G.g 5 0) (rv11 ++ s.Targets)] (fun G => by refine xf 1 rfl ?_; rintro he15; exact xA (Ap [2, 0] sl35 sl35 sz35)) (Dg [] (fun G => (G.g 5 0)) (fun G => Va) ?_)
  refine Dn ⟨by kernel_rfl, fun G => ?_⟩
  refine Jw2 [(1, p7), (4, vi (s.Uses.length : Int)), (5, vi 0), (3, vi 1), (6, (G.g 5 0))] [0, 1, 2, 3, 4] [SP.fact ((rv11.length = s.Uses.length)), os (G.g 5 0) (rv11 ++ s.Targets)] ?_
  generalize G.g 5 0 = c13
  refine Jf 5 rfl ?_; rintro he16
  refine Jk [0, 1, 2, 3, 4, 6] ?_
  refine Jo 5 ?_; rintro a17 k18 rfl
  refine Fb 16 5 fun _ => ?_
  refine FoS 5 fun ho20 => ?_
  refine KS ?_
  refine Oq Vm (Oq Veql (KS ?_))
  refine Kt (KS ?_)
  refine Oq Vm (Oq (Vfa fo37_1 0) (Oq (VldF sh9 0) (Oa (AsV sl35 sz35 [.string (bs s.Def)] [.string (bs s.Def)]) fun c21 => ?_)))
  refine Jo 0 ?_; rintro a22 k23 rfl
  refine Jl [0] (Ent.cr1 (α := Str) (A := []) _ s.Def _ aB1 (fun _ => ⟨rfl, aS1⟩)) ?_
  refine Oa (ApO [6, 0] sl35 sl35 sz35) fun c24 => ?_
  refine Jo 0 ?_; rintro a25 k26 rfl
  refine Fb 16 0 fun _ => ?_
  refine FoS 0 fun ho28 => ?_
  have hn29 := la (rv11 ++ s.Targets) ([s.Def] : List Str)
  refine Oq Va (KS ?_)
  refine Oq Vm (Oq Veql (Oq Vm (Osk (Osk (Osk (Oq Vpt (Oq Vm (Oq (Vfa fo37_2 1) (Oq (VldF sh35 1) ?_)))))))))
  refine Oq (Vlen sl35) (Oq Vm (Oq Veql (Oq Vpt (Oq Vm ?_))))
  refine Js 64 ?_ ?_
  ·intro h30
   have g31 := eq_of_beq h30
   refine Oq Vm (Oq Vleq (Oq Vpt (Oq Vm ?_)))
   refine Js 68 ?_ ?_
   ·intro h32
    have g33 := dt h32
    refine Oq (Vfa fo37_3 1) (Oq (VldF sh35 1) (Oq (Vlen sl35) (Oq Vm (Oq Veql (Oq Vpt (Oq Vm ?_))))))
    refine Js 75 ?_ ?_
    ·intro h34
     have g35 := eq_of_beq h34
     refine Oq Vm ?_
     refine Jl [0] (Ent.freeze _ _) ?_
     refine JJ_ent (Ent.pall [4, 5] rfl rfl) ?_
     refine letv (sc_ContainsFunc_string ((rv11 ++ s.Targets) ++ [s.Def]) (fun x => sx_valid_1 x)) fun rv36 hg37 => ?_
     have hc38 := fn104 (((rv11 ++ s.Targets) ++ [s.Def])) a25 k26 105 [] (fun x => sx_valid_1 x) [pv (gp 0) [vl kwLA kwLK kwL], S kwLA kwLK kwL] ca105 (fun x hx hq0 => FT_pall (A1 := _) (fn105 x  kwLA kwLK hq0 _ rfl)) rv36 hg37
     refine Oc [1, 0] ca104 hc38 ?_
     rintro - -
     refine Oq Vnot (Oq Vpt (Oq Va (KS ?_)))
     have hq := q4 hrr (!rv36) (by simp only [sx_valid, h8, h30, h32, h34, hg12, hg37, cs4]); subst hq
     exact Kr () rfl (.tmp rfl .nil) [] trivial
    intro h34
    have g39 := ne_of_beq_false h34
    refine Osk (Osk (Osk (Oq Vpf (Oq Va (KS ?_)))))
    have hq := q4 hrr false (by simp only [sx_valid, h8, h30, h32, h34, hg12, cs4]); subst hq
    exact Kr () rfl (.tmp rfl .nil) [] trivial
   intro h32
   have g40 := df h32
   refine Osk (Osk (Osk (Osk (Osk (Oq Vpf (Oq Vm (Osk (Osk (Osk ?_)))))))))
   refine Oq Vpf (Oq Va (KS ?_))
   have hq := q4 hrr false (by simp only [sx_valid, h8, h30, h32, hg12, cs4]); subst hq
   exact Kr () rfl (.tmp rfl .nil) [] trivial
  intro h30
  have g41 := ne_of_beq_false h30
  refine Osk (Osk (Oq Vpf (Oq Vm (Osk (Osk (Osk (Osk (Osk (Oq Vpf ?_)))))))))
  refine Oq Vm (Osk (Osk (Osk (Oq Vpf (Oq Va (KS ?_))))))
  have hq := q4 hrr false (by simp only [sx_valid, h8, h30, hg12, cs4]); subst hq
  exact Kr () rfl (.tmp rfl .nil) [] trivial
 intro h8
 have g42 := ne_of_beq_false h8
 refine KS ?_
 refine Oq Veql (Oq Va (KS ?_))
 refine Kc ?_ ?_
 ·intro h43
  have g44 := eq_of_beq h43
  refine Ke ?_
  refine KS ?_
  refine Oq Vm (Oq Vmax (Oq Va (KS ?_)))
  refine Ke ?_
  refine KS ?_
  refine JK_drawK [0, 1, 3, 0, 8, 31, 63] fmix ?_
  refine Dv [0] (Vfa fo37_2 0) (Dv [0] (VldF sh35 0) ?_)
  refine letv (sc_Clone_string s.Uses) fun rv46 hg47 => ?_
  refine Dx [1] [] [2, 0, 1] (fun G => (G.g 2 0)) [fun G => SP.fact ((rv46.length = s.Uses.length)), fun G => os (G.g 2 0) rv46] (fun G => xC [0] ca103 (fn103 s.Uses sa2 sk2 rv46 hg47)) (Dv [0] (Vfa fo37_3 0) (Dv [0] (VldF sh35 0) ?_))
  have hn49 := la rv46 s.Targets
  refine Dx [2, 5, 6] [6] [1, 2, 0] (fun G => (G.g 5 0)) [fun G => os (G.g 5 0) (rv46 ++ s.Targets)] (fun G => by refine xf 1 rfl ?_; rintro he50; exact xA (Ap [2, 0] sl35 sl35 sz35)) (Dg [] (fun G => (G.g 5 0)) (fun G => Va) ?_)
  refine Dn ⟨by kernel_rfl, fun G => ?_⟩
  refine Jw2 [(1, p7), (3, vi 0), (5, vi 0), (4, vi (max (s.Uses.length : Int) 1)), (6, (G.g 5 0))] [0, 1, 2, 3, 4] [SP.fact ((rv46.length = s.Uses.length)), os (G.g 5 0) (rv46 ++ s.Targets)] ?_
  generalize G.g 5 0 = c48
  refine Jf 5 rfl ?_; rintro he51
  refine Jk [0, 1, 2, 3, 4, 6] ?_
  refine Jo 5 ?_; rintro a52 k53 rfl
  refine Fb 16 5 fun _ => ?_
  refine FoS 5 fun ho55 => ?_
  refine KS ?_
  refine Oq Vm (Oq Veql (KS ?_))
  refine Kf (KS ?_)
  refine Oq Vm (Oq Veql (Oq Vm (Oq (Vfa fo37_1 0) (Oq (VldF sh9 0) (Oq (VeqS (l := s.Def) (m := (Str.mk []))) (Oq Vpf (Oq Vm ?_)))))))
  refine Js 57 ?_ ?_
  ·intro h56
   have g57 := eq_of_beq h56
   refine Oq (Vfa fo37_2 0) (Oq (VldF sh35 0) (Oq (Vlen sl35) (Oq Vm (Oq Veql (Oq Vpt (Oq Vm ?_))))))
   refine Js 64 ?_ ?_
   ·intro h58
    have g59 := eq_of_beq h58
    refine Oq Vm (Oq Vleq (Oq Vpt (Oq Vm ?_)))
    refine Js 68 ?_ ?_
    ·intro h60
     have g61 := dt h60
     refine Oq (Vfa fo37_3 0) (Oq (VldF sh35 0) (Oq (Vlen sl35) (Oq Vm (Oq Veql (Oq Vpt (Oq Vm ?_))))))
     refine Js 75 ?_ ?_
     ·intro h62
      have g63 := eq_of_beq h62
      refine Oq Vm ?_
      refine Jl [5] (Ent.freeze _ _) ?_
      refine JJ_ent (Ent.pall [4, 5] rfl rfl) ?_
      refine letv (sc_ContainsFunc_string (rv46 ++ s.Targets) (fun x => sx_valid_1 x)) fun rv64 hg65 => ?_
      have hc66 := fn104 ((rv46 ++ s.Targets)) a52 k53 105 [] (fun x => sx_valid_1 x) [pv (gp 0) [vl kwLA kwLK kwL], S kwLA kwLK kwL] ca105 (fun x hx hq0 => FT_pall (A1 := _) (fn105 x  kwLA kwLK hq0 _ rfl)) rv64 hg65
      refine Oc [1, 0] ca104 hc66 ?_
      rintro - -
      refine Oq Vnot (Oq Vpt (Oq Va (KS ?_)))
      have hq := q4 hrr (!rv64) (by simp only [sx_valid, h8, h43, h56, h58, h60, h62, hg47, hg65, cs4]); subst hq
      exact Kr () rfl (.tmp rfl .nil) [] trivial
     intro h62
     have g67 := ne_of_beq_false h62
     refine Osk (Osk (Osk (Oq Vpf (Oq Va (KS ?_)))))
     have hq := q4 hrr false (by simp only [sx_valid, h8, h43, h56, h58, h60, h62, hg47, cs4]); subst hq
     exact Kr () rfl (.tmp rfl .nil) [] trivial
    intro h60
    have g68 := df h60
    refine Osk (Osk (Osk (Osk (Osk (Oq Vpf (Oq Vm (Osk (Osk (Osk ?_)))))))))
    refine Oq Vpf (Oq Va (KS ?_))
    have hq := q4 hrr false (by simp only [sx_valid, h8, h43, h56, h58, h60, hg47, cs4]); subst hq
    exact Kr () rfl (.tmp rfl .nil) [] trivial
   intro h58
   have g69 := ne_of_beq_false h58
   refine Osk (Osk (Oq Vpf (Oq Vm (Osk (Osk (Osk (Osk (Osk (Oq Vpf ?_)))))))))
   refine Oq Vm (Osk (Osk (Osk (Oq Vpf (Oq Va (KS ?_))))))
   have hq := q4 hrr false (by simp only [sx_valid, h8, h43, h56, h58, hg47, cs4]); subst hq
   exact Kr () rfl (.tmp rfl .nil) [] trivial
  intro h56
  have g70 := ne_of_beq_false h56
  refine Osk (Osk (Osk (Osk (Osk (Oq Vpf (Oq Vm (Osk (Osk (Oq Vpf ?_)))))))))
  refine Oq Vm (Osk (Osk (Osk (Osk (Osk (Oq Vpf (Oq Vm (Osk (Osk ?_)))))))))
  refine Osk (Oq Vpf (Oq Va (KS ?_)))
  have hq := q4 hrr false (by simp only [sx_valid, h8, h43, h56, hg47, cs4]); subst hq
  exact Kr () rfl (.tmp rfl .nil) [] trivial
 intro h43
 have g71 := ne_of_beq_false h43
 refine KS ?_
 refine Oq Veql (Oq Va (KS ?_))
 refine Kc ?_ ?_
 ·intro h72
  have g73 := eq_of_beq h72
  refine Ke ?_
  refine KS ?_
  refine Oq Va (KS ?_)
  refine Ke ?_
  refine KS ?_
  refine JK_drawK [0, 1, 3, 0, 8, 31, 63] fmix ?_
  refine Dv [0] (Vfa fo37_2 0) (Dv [0] (VldF sh35 0) ?_)
  refine letv (sc_Clone_string s.Uses) fun rv75 hg76 => ?_
  refine Dx [1] [] [2, 0, 1] (fun G => (G.g 2 0)) [fun G => SP.fact ((rv75.length = s.Uses.length)), fun G => os (G.g 2 0) rv75] (fun G => xC [0] ca103 (fn103 s.Uses sa2 sk2 rv75 hg76)) (Dv [0] (Vfa fo37_3 0) (Dv [0] (VldF sh35 0) ?_))
  have hn78 := la rv75 s.Targets
  refine Dx [2, 5, 6] [6] [1, 2, 0] (fun G => (G.g 5 0)) [fun G => os (G.g 5 0) (rv75 ++ s.Targets)] (fun G => by refine xf 1 rfl ?_; rintro he79; exact xA (Ap [2, 0] sl35 sl35 sz35)) (Dg [] (fun G => (G.g 5 0)) (fun G => Va) ?_)
  refine Dn ⟨by kernel_rfl, fun G => ?_⟩
  refine Jw2 [(1, p7), (3, vi 0), (5, vi 0), (4, vi 1), (6, (G.g 5 0))] [0, 1, 2, 3, 4] [SP.fact ((rv75.length = s.Uses.length)), os (G.g 5 0) (rv75 ++ s.Targets)] ?_
  generalize G.g 5 0 = c77
  refine Jf 5 rfl ?_; rintro he80
  refine Jk [0, 1, 2, 3, 4, 6] ?_
  refine Jo 5 ?_; rintro a81 k82 rfl
  refine Fb 16 5 fun _ => ?_
  refine FoS 5 fun ho84 => ?_
  refine KS ?_
  refine Oq Vm (Oq Veql (KS ?_))
  refine Kf (KS ?_)
  refine Oq Vm (Oq Veql (Oq Vm (Oq (Vfa fo37_1 0) (Oq (VldF sh9 0) (Oq (VeqS (l := s.Def) (m := (Str.mk []))) (Oq Vpf (Oq Vm ?_)))))))
  refine Js 57 ?_ ?_
  ·intro h85
   have g86 := eq_of_beq h85
   refine Oq (Vfa fo37_2 0) (Oq (VldF sh35 0) (Oq (Vlen sl35) (Oq Vm (Oq Veql (Oq Vpt (Oq Vm ?_))))))
   refine Js 64 ?_ ?_
   ·intro h87
    have g88 := eq_of_beq h87
    refine Oq Vm (Oq Vleq (Oq Vpt (Oq Vm (Oq (Vfa fo37_3 0) (Oq (VldF sh35 0) (Oq (Vlen sl35) (Oq Vm (Oq Veql (Oq Vpt ?_)))))))))
    refine Oq Vm ?_
    refine Js 75 ?_ ?_
    ·intro h89
     have g90 := eq_of_beq h89
     refine Oq Vm ?_
     refine Jl [5] (Ent.freeze _ _) ?_
     refine JJ_ent (Ent.pall [4, 5] rfl rfl) ?_
     refine letv (sc_ContainsFunc_string (rv75 ++ s.Targets) (fun x => sx_valid_1 x)) fun rv91 hg92 => ?_
     have hc93 := fn104 ((rv75 ++ s.Targets)) a81 k82 105 [] (fun x => sx_valid_1 x) [pv (gp 0) [vl kwLA kwLK kwL], S kwLA kwLK kwL] ca105 (fun x hx hq0 => FT_pall (A1 := _) (fn105 x  kwLA kwLK hq0 _ rfl)) rv91 hg92
     refine Oc [1, 0] ca104 hc93 ?_
     rintro - -
     refine Oq Vnot (Oq Vpt (Oq Va (KS ?_)))
     have hq := q4 hrr (!rv91) (by simp only [sx_valid, h8, h43, h72, h85, h87, h89, hg76, hg92, cs4]); subst hq
     exact Kr () rfl (.tmp rfl .nil) [] trivial
    intro h89
    have g94 := ne_of_beq_false h89
    refine Osk (Osk (Osk (Oq Vpf (Oq Va (KS ?_)))))
    have hq := q4 hrr false (by simp only [sx_valid, h8, h43, h72, h85, h87, h89, hg76, cs4]); subst hq
    exact Kr () rfl (.tmp rfl .nil) [] trivial
   intro h87
   have g95 := ne_of_beq_false h87
   refine Osk (Osk (Oq Vpf (Oq Vm (Osk (Osk (Osk (Osk (Osk (Oq Vpf ?_)))))))))
   refine Oq Vm (Osk (Osk (Osk (Oq Vpf (Oq Va (KS ?_))))))
   have hq := q4 hrr false (by simp only [sx_valid, h8, h43, h72, h85, h87, hg76, cs4]); subst hq
   exact Kr () rfl (.tmp rfl .nil) [] trivial
  intro h85
  have g96 := ne_of_beq_false h85
  refine Osk (Osk (Osk (Osk (Osk (Oq Vpf (Oq Vm (Osk (Osk (Oq Vpf ?_)))))))))
  refine Oq Vm (Osk (Osk (Osk (Osk (Osk (Oq Vpf (Oq Vm (Osk (Osk ?_)))))))))
  refine Osk (Oq Vpf (Oq Va (KS ?_)))
  have hq := q4 hrr false (by simp only [sx_valid, h8, h43, h72, h85, hg76, cs4]); subst hq
  exact Kr () rfl (.tmp rfl .nil) [] trivial
 intro h72
 have g97 := ne_of_beq_false h72
 refine KS ?_
 refine Oq Veql (Oq Va (KS ?_))
 refine Kc ?_ ?_
 ·intro h98
  have g99 := eq_of_beq h98
  refine KS ?_
  refine Kc ?_ ?_
  ·intro h100
   have g101 := eq_of_beq h100
   refine Ke ?_
   refine KS ?_
   refine Oq Va (KS ?_)
   refine Oq Va (KS ?_)
   refine Ke ?_
   refine KS ?_
   refine JK_drawK [0, 1, 3, 0, 8, 31, 63] fmix ?_
   refine Dv [0] (Vfa fo37_2 0) (Dv [0] (VldF sh35 0) ?_)
   refine letv (sc_Clone_string s.Uses) fun rv103 hg104 => ?_
   refine Dx [1] [] [2, 0, 1] (fun G => (G.g 2 0)) [fun G => SP.fact ((rv103.length = s.Uses.length)), fun G => os (G.g 2 0) rv103] (fun G => xC [0] ca103 (fn103 s.Uses sa2 sk2 rv103 hg104)) (Dv [0] (Vfa fo37_3 0) (Dv [0] (VldF sh35 0) ?_))
   have hn106 := la rv103 s.Targets
   refine Dx [2, 5, 6] [6] [1, 2, 0] (fun G => (G.g 5 0)) [fun G => os (G.g 5 0) (rv103 ++ s.Targets)] (fun G => by refine xf 1 rfl ?_; rintro he107; exact xA (Ap [2, 0] sl35 sl35 sz35)) (Dg [] (fun G => (G.g 5 0)) (fun G => Va) ?_)
   refine Dn ⟨by kernel_rfl, fun G => ?_⟩
   refine Jw2 [(1, p7), (5, vi 0), (3, vi 1), (4, vi 0), (6, (G.g 5 0))] [0, 1, 2, 3, 4] [SP.fact ((rv103.length = s.Uses.length)), os (G.g 5 0) (rv103 ++ s.Targets)] ?_
   generalize G.g 5 0 = c105
   refine Jf 5 rfl ?_; rintro he108
   refine Jk [0, 1, 2, 3, 4, 6] ?_
   refine Jo 5 ?_; rintro a109 k110 rfl
   refine Fb 16 5 fun _ => ?_
   refine FoS 5 fun ho112 => ?_
   refine KS ?_
   refine Oq Vm (Oq Veql (KS ?_))
   refine Kt (KS ?_)
   refine Oq Vm (Oq (Vfa fo37_1 0) (Oq (VldF sh9 0) (Oa (AsV sl35 sz35 [.string (bs s.Def)] [.string (bs s.Def)]) fun c113 => ?_)))
   refine Jo 0 ?_; rintro a114 k115 rfl
   refine Jl [0] (Ent.cr1 (α := Str) (A := []) _ s.Def _ aB1 (fun _ => ⟨rfl, aS1⟩)) ?_
   refine Oa (ApO [6, 0] sl35 sl35 sz35) fun c116 => ?_
   refine Jo 0 ?_; rintro a117 k118 rfl
   refine Fb 16 0 fun _ => ?_
   refine FoS 0 fun ho120 => ?_
   have hn121 := la (rv103 ++ s.Targets) ([s.Def] : List Str)
   refine Oq Va (KS ?_)
   refine Oq Vm (Oq Veql (Oq Vm (Osk (Osk (Osk (Oq Vpt (Oq Vm (Oq (Vfa fo37_2 1) (Oq (VldF sh35 1) ?_)))))))))
   refine Oq (Vlen sl35) (Oq Vm (Oq Veql (Oq Vpt (Oq Vm ?_))))
   refine Js 64 ?_ ?_
   ·intro h122
    have g123 := eq_of_beq h122
    refine Oq Vm (Oq Vleq (Oq Vpt (Oq Vm (Oq (Vfa fo37_3 1) (Oq (VldF sh35 1) (Oq (Vlen sl35) (Oq Vm (Oq Veql (Oq Vpt ?_)))))))))
    refine Oq Vm ?_
    refine Js 75 ?_ ?_
    ·intro h124
     have g125 := eq_of_beq h124
     refine Oq Vm ?_
     refine Jl [0] (Ent.freeze _ _) ?_
     refine JJ_ent (Ent.pall [4, 5] rfl rfl) ?_
     refine letv (sc_ContainsFunc_string ((rv103 ++ s.Targets) ++ [s.Def]) (fun x => sx_valid_1 x)) fun rv126 hg127 => ?_
     have hc128 := fn104 (((rv103 ++ s.Targets) ++ [s.Def])) a117 k118 105 [] (fun x => sx_valid_1 x) [pv (gp 0) [vl kwLA kwLK kwL], S kwLA kwLK kwL] ca105 (fun x hx hq0 => FT_pall (A1 := _) (fn105 x  kwLA kwLK hq0 _ rfl)) rv126 hg127
     refine Oc [1, 0] ca104 hc128 ?_
     rintro - -
     refine Oq Vnot (Oq Vpt (Oq Va (KS ?_)))
     have hq := q4 hrr (!rv126) (by simp only [sx_valid, h8, h43, h72, h98, h100, h122, h124, hg104, hg127, cs4]); subst hq
     exact Kr () rfl (.tmp rfl .nil) [] trivial
    intro h124
    have g129 := ne_of_beq_false h124
    refine Osk (Osk (Osk (Oq Vpf (Oq Va (KS ?_)))))
    have hq := q4 hrr false (by simp only [sx_valid, h8, h43, h72, h98, h100, h122, h124, hg104, cs4]); subst hq
    exact Kr () rfl (.tmp rfl .nil) [] trivial
   intro h122
   have g130 := ne_of_beq_false h122
   refine Osk (Osk (Oq Vpf (Oq Vm (Osk (Osk (Osk (Osk (Osk (Oq Vpf ?_)))))))))
   refine Oq Vm (Osk (Osk (Osk (Oq Vpf (Oq Va (KS ?_))))))
   have hq := q4 hrr false (by simp only [sx_valid, h8, h43, h72, h98, h100, h122, hg104, cs4]); subst hq
   exact Kr () rfl (.tmp rfl .nil) [] trivial
  intro h100
  exact absurd h100 (by first | (simp [h98]; done) | (simp only [bne, h98]; decide) | (simp only [bne, h98, Bool.not_true, Bool.not_false]; decide) | (exfalso; omega) | (intro hq; simp only [bne, hq, Bool.not_false, Bool.not_true, reduceCtorEq] at h98))
 intro h98
 have g131 := ne_of_beq_false h98
 refine KS ?_
 refine Oq Veql (Oq Va (KS ?_))
 refine Kc ?_ ?_
 ·intro h132
  have g133 := eq_of_beq h132
  refine Ke ?_
  refine KS ?_
  refine Oq Va (KS ?_)
  refine Oq Va (KS ?_)
  refine Ke ?_
  refine KS ?_
  refine JK_drawK [0, 1, 3, 0, 8, 31, 63] fmix ?_
  refine Dv [0] (Vfa fo37_2 0) (Dv [0] (VldF sh35 0) ?_)
  refine letv (sc_Clone_string s.Uses) fun rv135 hg136 => ?_
  refine Dx [1] [] [2, 0, 1] (fun G => (G.g 2 0)) [fun G => SP.fact ((rv135.length = s.Uses.length)), fun G => os (G.g 2 0) rv135] (fun G => xC [0] ca103 (fn103 s.Uses sa2 sk2 rv135 hg136)) (Dv [0] (Vfa fo37_3 0) (Dv [0] (VldF sh35 0) ?_))
  have hn138 := la rv135 s.Targets
  refine Dx [2, 5, 6] [6] [1, 2, 0] (fun G => (G.g 5 0)) [fun G => os (G.g 5 0) (rv135 ++ s.Targets)] (fun G => by refine xf 1 rfl ?_; rintro he139; exact xA (Ap [2, 0] sl35 sl35 sz35)) (Dg [] (fun G => (G.g 5 0)) (fun G => Va) ?_)
  refine Dn ⟨by kernel_rfl, fun G => ?_⟩
  refine Jw2 [(1, p7), (5, vi 0), (3, vi 1), (4, vi 0), (6, (G.g 5 0))] [0, 1, 2, 3, 4] [SP.fact ((rv135.length = s.Uses.length)), os (G.g 5 0) (rv135 ++ s.Targets)] ?_
  generalize G.g 5 0 = c137
  refine Jf 5 rfl ?_; rintro he140
  refine Jk [0, 1, 2, 3, 4, 6] ?_
  refine Jo 5 ?_; rintro a141 k142 rfl
  refine Fb 16 5 fun _ => ?_
  refine FoS 5 fun ho144 => ?_
  refine KS ?_
  refine Oq Vm (Oq Veql (KS ?_))
  refine Kt (KS ?_)
  refine Oq Vm (Oq (Vfa fo37_1 0) (Oq (VldF sh9 0) (Oa (AsV sl35 sz35 [.string (bs s.Def)] [.string (bs s.Def)]) fun c145 => ?_)))
  refine Jo 0 ?_; rintro a146 k147 rfl
  refine Jl [0] (Ent.cr1 (α := Str) (A := []) _ s.Def _ aB1 (fun _ => ⟨rfl, aS1⟩)) ?_
  refine Oa (ApO [6, 0] sl35 sl35 sz35) fun c148 => ?_
  refine Jo 0 ?_; rintro a149 k150 rfl
  refine Fb 16 0 fun _ => ?_
  refine FoS 0 fun ho152 => ?_
  have hn153 := la (rv135 ++ s.Targets) ([s.Def] : List Str)
  refine Oq Va (KS ?_)
  refine Oq Vm (Oq Veql (Oq Vm (Osk (Osk (Osk (Oq Vpt (Oq Vm (Oq (Vfa fo37_2 1) (Oq (VldF sh35 1) ?_)))))))))
  refine Oq (Vlen sl35) (Oq Vm (Oq Veql (Oq Vpt (Oq Vm ?_))))
  refine Js 64 ?_ ?_
  ·intro h154
   have g155 := eq_of_beq h154
   refine Oq Vm (Oq Vleq (Oq Vpt (Oq Vm (Oq (Vfa fo37_3 1) (Oq (VldF sh35 1) (Oq (Vlen sl35) (Oq Vm (Oq Veql (Oq Vpt ?_)))))))))
   refine Oq Vm ?_
   refine Js 75 ?_ ?_
   ·intro h156
    have g157 := eq_of_beq h156
    refine Oq Vm ?_
    refine Jl [0] (Ent.freeze _ _) ?_
    refine JJ_ent (Ent.pall [4, 5] rfl rfl) ?_
    refine letv (sc_ContainsFunc_string ((rv135 ++ s.Targets) ++ [s.Def]) (fun x => sx_valid_1 x)) fun rv158 hg159 => ?_
    have hc160 := fn104 (((rv135 ++ s.Targets) ++ [s.Def])) a149 k150 105 [] (fun x => sx_valid_1 x) [pv (gp 0) [vl kwLA kwLK kwL], S kwLA kwLK kwL] ca105 (fun x hx hq0 => FT_pall (A1 := _) (fn105 x  kwLA kwLK hq0 _ rfl)) rv158 hg159
    refine Oc [1, 0] ca104 hc160 ?_
    rintro - -
    refine Oq Vnot (Oq Vpt (Oq Va (KS ?_)))
    have hq := q4 hrr (!rv158) (by simp only [sx_valid, h8, h43, h72, h98, h132, h154, h156, hg136, hg159, cs4]); subst hq
    exact Kr () rfl (.tmp rfl .nil) [] trivial
   intro h156
   have g161 := ne_of_beq_false h156
   refine Osk (Osk (Osk (Oq Vpf (Oq Va (KS ?_)))))
   have hq := q4 hrr false (by simp only [sx_valid, h8, h43, h72, h98, h132, h154, h156, hg136, cs4]); subst hq
   exact Kr () rfl (.tmp rfl .nil) [] trivial
  intro h154
  have g162 := ne_of_beq_false h154
  refine Osk (Osk (Oq Vpf (Oq Vm (Osk (Osk (Osk (Osk (Osk (Oq Vpf ?_)))))))))
  refine Oq Vm (Osk (Osk (Osk (Oq Vpf (Oq Va (KS ?_))))))
  have hq := q4 hrr false (by simp only [sx_valid, h8, h43, h72, h98, h132, h154, hg136, cs4]); subst hq
  exact Kr () rfl (.tmp rfl .nil) [] trivial
 intro h132
 have g163 := ne_of_beq_false h132
 refine KS ?_
 refine Oq Veql (Oq Va (KS ?_))
 refine Kc ?_ ?_
 ·intro h164
  have g165 := eq_of_beq h164
  refine Ke ?_
  refine KS ?_
  refine Oq Va (KS ?_)
  refine Oq Vm (Oq Vadd (Oq Va (KS ?_)))
  refine Oq Vm (Oq Vadd (Oq Va (KS ?_)))
  refine Oq (Vfa fo37_0 0) (Oq (VldF sh3 0) (Oq Vneq (KS ?_)))
  refine Kc ?_ ?_
  ·intro h166
   exact absurd h166 (by first | (simp [h164]; done) | (simp only [bne, h164]; decide) | (simp only [bne, h164, Bool.not_true, Bool.not_false]; decide) | (exfalso; omega) | (intro hq; simp only [bne, hq, Bool.not_false, Bool.not_true, reduceCtorEq] at h164))
  intro h166
  have g167 := eq_of_bne_false h166
  refine KS ?_
  refine Ke ?_
  refine KS ?_
  refine JK_drawK [0, 1, 3, 0, 8, 31, 63] fmix ?_
  refine Dv [0] (Vfa fo37_2 0) (Dv [0] (VldF sh35 0) ?_)
  refine letv (sc_Clone_string s.Uses) fun rv169 hg170 => ?_
  refine Dx [1] [] [2, 0, 1] (fun G => (G.g 2 0)) [fun G => SP.fact ((rv169.length = s.Uses.length)), fun G => os (G.g 2 0) rv169] (fun G => xC [0] ca103 (fn103 s.Uses sa2 sk2 rv169 hg170)) (Dv [0] (Vfa fo37_3 0) (Dv [0] (VldF sh35 0) ?_))
  have hn172 := la rv169 s.Targets
  refine Dx [2, 5, 6] [6] [1, 2, 0] (fun G => (G.g 5 0)) [fun G => os (G.g 5 0) (rv169 ++ s.Targets)] (fun G => by refine xf 1 rfl ?_; rintro he173; exact xA (Ap [2, 0] sl35 sl35 sz35)) (Dg [] (fun G => (G.g 5 0)) (fun G => Va) ?_)
  refine Dn ⟨by kernel_rfl, fun G => ?_⟩
  refine Jw2 [(1, p7), (3, vi 0), (4, vi 1), (5, vi ((0 + 1) + 1)), (6, (G.g 5 0))] [0, 1, 2, 3, 4] [SP.fact ((rv169.length = s.Uses.length)), os (G.g 5 0) (rv169 ++ s.Targets)] ?_
  generalize G.g 5 0 = c171
  refine Jf 5 rfl ?_; rintro he174
  refine Jk [0, 1, 2, 3, 4, 6] ?_
  refine Jo 5 ?_; rintro a175 k176 rfl
  refine Fb 16 5 fun _ => ?_
  refine FoS 5 fun ho178 => ?_
  refine KS ?_
  refine Oq Vm (Oq Veql (KS ?_))
  refine Kf (KS ?_)
  refine Oq Vm (Oq Veql (Oq Vm (Oq (Vfa fo37_1 0) (Oq (VldF sh9 0) (Oq (VeqS (l := s.Def) (m := (Str.mk []))) (Oq Vpf (Oq Vm ?_)))))))
  refine Js 57 ?_ ?_
  ·intro h179
   have g180 := eq_of_beq h179
   refine Oq (Vfa fo37_2 0) (Oq (VldF sh35 0) (Oq (Vlen sl35) (Oq Vm (Oq Veql (Oq Vpt (Oq Vm ?_))))))
   refine Js 64 ?_ ?_
   ·intro h181
    have g182 := eq_of_beq h181
    refine Oq Vm (Oq Vleq (Oq Vpt (Oq Vm (Oq (Vfa fo37_3 0) (Oq (VldF sh35 0) (Oq (Vlen sl35) (Oq Vm (Oq Veql (Oq Vpt ?_)))))))))
    refine Oq Vm ?_
    refine Js 75 ?_ ?_
    ·intro h183
     have g184 := eq_of_beq h183
     refine Oq Vm ?_
     refine Jl [5] (Ent.freeze _ _) ?_
     refine JJ_ent (Ent.pall [4, 5] rfl rfl) ?_
     refine letv (sc_ContainsFunc_string (rv169 ++ s.Targets) (fun x => sx_valid_1 x)) fun rv185 hg186 => ?_
     have hc187 := fn104 ((rv169 ++ s.Targets)) a175 k176 105 [] (fun x => sx_valid_1 x) [pv (gp 0) [vl kwLA kwLK kwL], S kwLA kwLK kwL] ca105 (fun x hx hq0 => FT_pall (A1 := _) (fn105 x  kwLA kwLK hq0 _ rfl)) rv185 hg186
     refine Oc [1, 0] ca104 hc187 ?_
     rintro - -
     refine Oq Vnot (Oq Vpt (Oq Va (KS ?_)))
     have hq := q4 hrr (!rv185) (by simp only [sx_valid, h8, h43, h72, h98, h132, h164, h166, h179, h181, h183, hg170, hg186, cs4]); subst hq
     exact Kr () rfl (.tmp rfl .nil) [] trivial
    intro h183
    have g188 := ne_of_beq_false h183
    refine Osk (Osk (Osk (Oq Vpf (Oq Va (KS ?_)))))
    have hq := q4 hrr false (by simp only [sx_valid, h8, h43, h72, h98, h132, h164, h166, h179, h181, h183, hg170, cs4]); subst hq
    exact Kr () rfl (.tmp rfl .nil) [] trivial
   intro h181
   have g189 := ne_of_beq_false h181
   refine Osk (Osk (Oq Vpf (Oq Vm (Osk (Osk (Osk (Osk (Osk (Oq Vpf ?_)))))))))
   refine Oq Vm (Osk (Osk (Osk (Oq Vpf (Oq Va (KS ?_))))))
   have hq := q4 hrr false (by simp only [sx_valid, h8, h43, h72, h98, h132, h164, h166, h179, h181, hg170, cs4]); subst hq
   exact Kr () rfl (.tmp rfl .nil) [] trivial
  intro h179
  have g190 := ne_of_beq_false h179
  refine Osk (Osk (Osk (Osk (Osk (Oq Vpf (Oq Vm (Osk (Osk (Oq Vpf ?_)))))))))
  refine Oq Vm (Osk (Osk (Osk (Osk (Osk (Oq Vpf (Oq Vm (Osk (Osk ?_)))))))))
  refine Osk (Oq Vpf (Oq Va (KS ?_)))
  have hq := q4 hrr false (by simp only [sx_valid, h8, h43, h72, h98, h132, h164, h166, h179, hg170, cs4]); subst hq
  exact Kr () rfl (.tmp rfl .nil) [] trivial
 intro h164
 have g191 := ne_of_beq_false h164
 refine KS ?_
 refine Oq Veql (Oq Va (KS ?_))
 refine Kc ?_ ?_
 ·intro h192
  have g193 := eq_of_beq h192
  refine KS ?_
  refine Kc ?_ ?_
  ·intro h194
   have g195 := eq_of_beq h194
   refine Ke ?_
   refine KS ?_
   refine Oq Vm (Oq Vadd (Oq Va (KS ?_)))
   refine Oq (Vfa fo37_0 0) (Oq (VldF sh3 0) (Oq Vneq (KS ?_)))
   refine Kc ?_ ?_
   ·intro h196
    have g197 := ne_of_bne h196
    refine KS ?_
    refine Oq Va (KS ?_)
    refine Ke ?_
    refine KS ?_
    refine JK_drawK [0, 1, 3, 0, 8, 31, 63] fmix ?_
    refine Dv [0] (Vfa fo37_2 0) (Dv [0] (VldF sh35 0) ?_)
    refine letv (sc_Clone_string s.Uses) fun rv199 hg200 => ?_
    refine Dx [1] [] [2, 0, 1] (fun G => (G.g 2 0)) [fun G => SP.fact ((rv199.length = s.Uses.length)), fun G => os (G.g 2 0) rv199] (fun G => xC [0] ca103 (fn103 s.Uses sa2 sk2 rv199 hg200)) (Dv [0] (Vfa fo37_3 0) (Dv [0] (VldF sh35 0) ?_))
    have hn202 := la rv199 s.Targets
    refine Dx [2, 5, 6] [6] [1, 2, 0] (fun G => (G.g 5 0)) [fun G => os (G.g 5 0) (rv199 ++ s.Targets)] (fun G => by refine xf 1 rfl ?_; rintro he203; exact xA (Ap [2, 0] sl35 sl35 sz35)) (Dg [] (fun G => (G.g 5 0)) (fun G => Va) ?_)
    refine Dn ⟨by kernel_rfl, fun G => ?_⟩
    refine Jw2 [(1, p7), (3, vi 0), (5, vi (0 + 1)), (4, vi 0), (6, (G.g 5 0))] [0, 1, 2, 3, 4] [SP.fact ((rv199.length = s.Uses.length)), os (G.g 5 0) (rv199 ++ s.Targets)] ?_
    generalize G.g 5 0 = c201
    refine Jf 5 rfl ?_; rintro he204
    refine Jk [0, 1, 2, 3, 4, 6] ?_
    refine Jo 5 ?_; rintro a205 k206 rfl
    refine Fb 16 5 fun _ => ?_
    refine FoS 5 fun ho208 => ?_
    refine KS ?_
    refine Oq Vm (Oq Veql (KS ?_))
    refine Kf (KS ?_)
    refine Oq Vm (Oq Veql (Oq Vm (Oq (Vfa fo37_1 0) (Oq (VldF sh9 0) (Oq (VeqS (l := s.Def) (m := (Str.mk []))) (Oq Vpf (Oq Vm ?_)))))))
    refine Js 57 ?_ ?_
    ·intro h209
     have g210 := eq_of_beq h209
     refine Oq (Vfa fo37_2 0) (Oq (VldF sh35 0) (Oq (Vlen sl35) (Oq Vm (Oq Veql (Oq Vpt (Oq Vm ?_))))))
     refine Js 64 ?_ ?_
     ·intro h211
      have g212 := eq_of_beq h211
      refine Oq Vm (Oq Vleq (Oq Vpt (Oq Vm (Oq (Vfa fo37_3 0) (Oq (VldF sh35 0) (Oq (Vlen sl35) (Oq Vm (Oq Veql (Oq Vpt ?_)))))))))
      refine Oq Vm ?_
      refine Js 75 ?_ ?_
      ·intro h213
       have g214 := eq_of_beq h213
       refine Oq Vm ?_
       refine Jl [5] (Ent.freeze _ _) ?_
       refine JJ_ent (Ent.pall [4, 5] rfl rfl) ?_
       refine letv (sc_ContainsFunc_string (rv199 ++ s.Targets) (fun x => sx_valid_1 x)) fun rv215 hg216 => ?_
       have hc217 := fn104 ((rv199 ++ s.Targets)) a205 k206 105 [] (fun x => sx_valid_1 x) [pv (gp 0) [vl kwLA kwLK kwL], S kwLA kwLK kwL] ca105 (fun x hx hq0 => FT_pall (A1 := _) (fn105 x  kwLA kwLK hq0 _ rfl)) rv215 hg216
       refine Oc [1, 0] ca104 hc217 ?_
       rintro - -
       refine Oq Vnot (Oq Vpt (Oq Va (KS ?_)))
       have hq := q4 hrr (!rv215) (by simp only [sx_valid, h8, h43, h72, h98, h132, h164, h192, h194, h196, h209, h211, h213, hg200, hg216, cs4]); subst hq
       exact Kr () rfl (.tmp rfl .nil) [] trivial
      intro h213
      have g218 := ne_of_beq_false h213
      refine Osk (Osk (Osk (Oq Vpf (Oq Va (KS ?_)))))
      have hq := q4 hrr false (by simp only [sx_valid, h8, h43, h72, h98, h132, h164, h192, h194, h196, h209, h211, h213, hg200, cs4]); subst hq
      exact Kr () rfl (.tmp rfl .nil) [] trivial
     intro h211
     have g219 := ne_of_beq_false h211
     refine Osk (Osk (Oq Vpf (Oq Vm (Osk (Osk (Osk (Osk (Osk (Oq Vpf ?_)))))))))
     refine Oq Vm (Osk (Osk (Osk (Oq Vpf (Oq Va (KS ?_))))))
     have hq := q4 hrr false (by simp only [sx_valid, h8, h43, h72, h98, h132, h164, h192, h194, h196, h209, h211, hg200, cs4]); subst hq
     exact Kr () rfl (.tmp rfl .nil) [] trivial
    intro h209
    have g220 := ne_of_beq_false h209
    refine Osk (Osk (Osk (Osk (Osk (Oq Vpf (Oq Vm (Osk (Osk (Oq Vpf ?_)))))))))
    refine Oq Vm (Osk (Osk (Osk (Osk (Osk (Oq Vpf (Oq Vm (Osk (Osk ?_)))))))))
    refine Osk (Oq Vpf (Oq Va (KS ?_)))
    have hq := q4 hrr false (by simp only [sx_valid, h8, h43, h72, h98, h132, h164, h192, h194, h196, h209, hg200, cs4]); subst hq
    exact Kr () rfl (.tmp rfl .nil) [] trivial
   intro h196
   exact absurd h196 (by first | (simp [h164]; done) | (simp only [bne, h164]; decide) | (simp only [bne, h164, Bool.not_true, Bool.not_false]; decide) | (exfalso; omega) | (intro hq; simp only [bne, hq, Bool.not_false, Bool.not_true, reduceCtorEq] at h164))
  intro h194
  exact absurd h194 (by first | (simp [h192]; done) | (simp only [bne, h192]; decide) | (simp only [bne, h192, Bool.not_true, Bool.not_false]; decide) | (exfalso; omega) | (intro hq; simp only [bne, hq, Bool.not_false, Bool.not_true, reduceCtorEq] at h192))
 intro h192
 have g221 := ne_of_beq_false h192
 refine KS ?_
 refine Oq Veql (Oq Va (KS ?_))
 refine Kc ?_ ?_
 ·intro h222
  have g223 := eq_of_beq h222
  refine Ke ?_
  refine KS ?_
  refine Oq Vm (Oq Vadd (Oq Va (KS ?_)))
  refine Oq (Vfa fo37_0 0) (Oq (VldF sh3 0) (Oq Vneq (KS ?_)))
  refine Kc ?_ ?_
  ·intro h224
   have g225 := ne_of_bne h224
   refine KS ?_
   refine Oq Va (KS ?_)
   refine Ke ?_
   refine KS ?_
   refine JK_drawK [0, 1, 3, 0, 8, 31, 63] fmix ?_
   refine Dv [0] (Vfa fo37_2 0) (Dv [0] (VldF sh35 0) ?_)
   refine letv (sc_Clone_string s.Uses) fun rv227 hg228 => ?_
   refine Dx [1] [] [2, 0, 1] (fun G => (G.g 2 0)) [fun G => SP.fact ((rv227.length = s.Uses.length)), fun G => os (G.g 2 0) rv227] (fun G => xC [0] ca103 (fn103 s.Uses sa2 sk2 rv227 hg228)) (Dv [0] (Vfa fo37_3 0) (Dv [0] (VldF sh35 0) ?_))
   have hn230 := la rv227 s.Targets
   refine Dx [2, 5, 6] [6] [1, 2, 0] (fun G => (G.g 5 0)) [fun G => os (G.g 5 0) (rv227 ++ s.Targets)] (fun G => by refine xf 1 rfl ?_; rintro he231; exact xA (Ap [2, 0] sl35 sl35 sz35)) (Dg [] (fun G => (G.g 5 0)) (fun G => Va) ?_)
   refine Dn ⟨by kernel_rfl, fun G => ?_⟩
   refine Jw2 [(1, p7), (3, vi 0), (5, vi (0 + 1)), (4, vi 0), (6, (G.g 5 0))] [0, 1, 2, 3, 4] [SP.fact ((rv227.length = s.Uses.length)), os (G.g 5 0) (rv227 ++ s.Targets)] ?_
   generalize G.g 5 0 = c229
   refine Jf 5 rfl ?_; rintro he232
   refine Jk [0, 1, 2, 3, 4, 6] ?_
   refine Jo 5 ?_; rintro a233 k234 rfl
   refine Fb 16 5 fun _ => ?_
   refine FoS 5 fun ho236 => ?_
   refine KS ?_
   refine Oq Vm (Oq Veql (KS ?_))
   refine Kf (KS ?_)
   refine Oq Vm (Oq Veql (Oq Vm (Oq (Vfa fo37_1 0) (Oq (VldF sh9 0) (Oq (VeqS (l := s.Def) (m := (Str.mk []))) (Oq Vpf (Oq Vm ?_)))))))
   refine Js 57 ?_ ?_
   ·intro h237
    have g238 := eq_of_beq h237
    refine Oq (Vfa fo37_2 0) (Oq (VldF sh35 0) (Oq (Vlen sl35) (Oq Vm (Oq Veql (Oq Vpt (Oq Vm ?_))))))
    refine Js 64 ?_ ?_
    ·intro h239
     have g240 := eq_of_beq h239
     refine Oq Vm (Oq Vleq (Oq Vpt (Oq Vm (Oq (Vfa fo37_3 0) (Oq (VldF sh35 0) (Oq (Vlen sl35) (Oq Vm (Oq Veql (Oq Vpt ?_)))))))))
     refine Oq Vm ?_
     refine Js 75 ?_ ?_
     ·intro h241
      have g242 := eq_of_beq h241
      refine Oq Vm ?_
      refine Jl [5] (Ent.freeze _ _) ?_
      refine JJ_ent (Ent.pall [4, 5] rfl rfl) ?_
      refine letv (sc_ContainsFunc_string (rv227 ++ s.Targets) (fun x => sx_valid_1 x)) fun rv243 hg244 => ?_
      have hc245 := fn104 ((rv227 ++ s.Targets)) a233 k234 105 [] (fun x => sx_valid_1 x) [pv (gp 0) [vl kwLA kwLK kwL], S kwLA kwLK kwL] ca105 (fun x hx hq0 => FT_pall (A1 := _) (fn105 x  kwLA kwLK hq0 _ rfl)) rv243 hg244
      refine Oc [1, 0] ca104 hc245 ?_
      rintro - -
      refine Oq Vnot (Oq Vpt (Oq Va (KS ?_)))
      have hq := q4 hrr (!rv243) (by simp only [sx_valid, h8, h43, h72, h98, h132, h164, h192, h222, h224, h237, h239, h241, hg228, hg244, cs4]); subst hq
      exact Kr () rfl (.tmp rfl .nil) [] trivial
     intro h241
     have g246 := ne_of_beq_false h241
     refine Osk (Osk (Osk (Oq Vpf (Oq Va (KS ?_)))))
     have hq := q4 hrr false (by simp only [sx_valid, h8, h43, h72, h98, h132, h164, h192, h222, h224, h237, h239, h241, hg228, cs4]); subst hq
     exact Kr () rfl (.tmp rfl .nil) [] trivial
    intro h239
    have g247 := ne_of_beq_false h239
    refine Osk (Osk (Oq Vpf (Oq Vm (Osk (Osk (Osk (Osk (Osk (Oq Vpf ?_)))))))))
    refine Oq Vm (Osk (Osk (Osk (Oq Vpf (Oq Va (KS ?_))))))
    have hq := q4 hrr false (by simp only [sx_valid, h8, h43, h72, h98, h132, h164, h192, h222, h224, h237, h239, hg228, cs4]); subst hq
    exact Kr () rfl (.tmp rfl .nil) [] trivial
   intro h237
   have g248 := ne_of_beq_false h237
   refine Osk (Osk (Osk (Osk (Osk (Oq Vpf (Oq Vm (Osk (Osk (Oq Vpf ?_)))))))))
   refine Oq Vm (Osk (Osk (Osk (Osk (Osk (Oq Vpf (Oq Vm (Osk (Osk ?_)))))))))
   refine Osk (Oq Vpf (Oq Va (KS ?_)))
   have hq := q4 hrr false (by simp only [sx_valid, h8, h43, h72, h98, h132, h164, h192, h222, h224, h237, hg228, cs4]); subst hq
   exact Kr () rfl (.tmp rfl .nil) [] trivial
  intro h224
  exact absurd h224 (by first | (simp [h164]; done) | (simp only [bne, h164]; decide) | (simp only [bne, h164, Bool.not_true, Bool.not_false]; decide) | (exfalso; omega) | (intro hq; simp only [bne, hq, Bool.not_false, Bool.not_true, reduceCtorEq] at h164))
 intro h222
 have g249 := ne_of_beq_false h222
 refine KS ?_
 refine Oq Veql (Oq Va (KS ?_))
 refine Kc ?_ ?_
 ·intro h250
  have g251 := eq_of_beq h250
  refine Ke ?_
  refine KS ?_
  refine Oq Va (KS ?_)
  refine Ke ?_
  refine KS ?_
  refine JK_drawK [0, 1, 3, 0, 8, 31, 63] fmix ?_
  refine Dv [0] (Vfa fo37_2 0) (Dv [0] (VldF sh35 0) ?_)
  refine letv (sc_Clone_string s.Uses) fun rv253 hg254 => ?_
  refine Dx [1] [] [2, 0, 1] (fun G => (G.g 2 0)) [fun G => SP.fact ((rv253.length = s.Uses.length)), fun G => os (G.g 2 0) rv253] (fun G => xC [0] ca103 (fn103 s.Uses sa2 sk2 rv253 hg254)) (Dv [0] (Vfa fo37_3 0) (Dv [0] (VldF sh35 0) ?_))
  have hn256 := la rv253 s.Targets
  refine Dx [2, 5, 6] [6] [1, 2, 0] (fun G => (G.g 5 0)) [fun G => os (G.g 5 0) (rv253 ++ s.Targets)] (fun G => by refine xf 1 rfl ?_; rintro he257; exact xA (Ap [2, 0] sl35 sl35 sz35)) (Dg [] (fun G => (G.g 5 0)) (fun G => Va) ?_)
  refine Dn ⟨by kernel_rfl, fun G => ?_⟩
  refine Jw2 [(1, p7), (3, vi 0), (5, vi 0), (4, vi 0), (6, (G.g 5 0))] [0, 1, 2, 3, 4] [SP.fact ((rv253.length = s.Uses.length)), os (G.g 5 0) (rv253 ++ s.Targets)] ?_
  generalize G.g 5 0 = c255
  refine Jf 5 rfl ?_; rintro he258
  refine Jk [0, 1, 2, 3, 4, 6] ?_
  refine Jo 5 ?_; rintro a259 k260 rfl
  refine Fb 16 5 fun _ => ?_
  refine FoS 5 fun ho262 => ?_
  refine KS ?_
  refine Oq Vm (Oq Veql (KS ?_))
  refine Kf (KS ?_)
  refine Oq Vm (Oq Veql (Oq Vm (Oq (Vfa fo37_1 0) (Oq (VldF sh9 0) (Oq (VeqS (l := s.Def) (m := (Str.mk []))) (Oq Vpf (Oq Vm ?_)))))))
  refine Js 57 ?_ ?_
  ·intro h263
   have g264 := eq_of_beq h263
   refine Oq (Vfa fo37_2 0) (Oq (VldF sh35 0) (Oq (Vlen sl35) (Oq Vm (Oq Veql (Oq Vpt (Oq Vm ?_))))))
   refine Js 64 ?_ ?_
   ·intro h265
    have g266 := eq_of_beq h265
    refine Oq Vm (Oq Vleq (Oq Vpt (Oq Vm (Oq (Vfa fo37_3 0) (Oq (VldF sh35 0) (Oq (Vlen sl35) (Oq Vm (Oq Veql (Oq Vpt ?_)))))))))
    refine Oq Vm ?_
    refine Js 75 ?_ ?_
    ·intro h267
     have g268 := eq_of_beq h267
     refine Oq Vm ?_
     refine Jl [5] (Ent.freeze _ _) ?_
     refine JJ_ent (Ent.pall [4, 5] rfl rfl) ?_
     refine letv (sc_ContainsFunc_string (rv253 ++ s.Targets) (fun x => sx_valid_1 x)) fun rv269 hg270 => ?_
     have hc271 := fn104 ((rv253 ++ s.Targets)) a259 k260 105 [] (fun x => sx_valid_1 x) [pv (gp 0) [vl kwLA kwLK kwL], S kwLA kwLK kwL] ca105 (fun x hx hq0 => FT_pall (A1 := _) (fn105 x  kwLA kwLK hq0 _ rfl)) rv269 hg270
     refine Oc [1, 0] ca104 hc271 ?_
     rintro - -
     refine Oq Vnot (Oq Vpt (Oq Va (KS ?_)))
     have hq := q4 hrr (!rv269) (by simp only [sx_valid, h8, h43, h72, h98, h132, h164, h192, h222, h250, h263, h265, h267, hg254, hg270, cs4]); subst hq
     exact Kr () rfl (.tmp rfl .nil) [] trivial
    intro h267
    have g272 := ne_of_beq_false h267
    refine Osk (Osk (Osk (Oq Vpf (Oq Va (KS ?_)))))
    have hq := q4 hrr false (by simp only [sx_valid, h8, h43, h72, h98, h132, h164, h192, h222, h250, h263, h265, h267, hg254, cs4]); subst hq
    exact Kr () rfl (.tmp rfl .nil) [] trivial
   intro h265
   have g273 := ne_of_beq_false h265
   refine Osk (Osk (Oq Vpf (Oq Vm (Osk (Osk (Osk (Osk (Osk (Oq Vpf ?_)))))))))
   refine Oq Vm (Osk (Osk (Osk (Oq Vpf (Oq Va (KS ?_))))))
   have hq := q4 hrr false (by simp only [sx_valid, h8, h43, h72, h98, h132, h164, h192, h222, h250, h263, h265, hg254, cs4]); subst hq
   exact Kr () rfl (.tmp rfl .nil) [] trivial
  intro h263
  have g274 := ne_of_beq_false h263
  refine Osk (Osk (Osk (Osk (Osk (Oq Vpf (Oq Vm (Osk (Osk (Oq Vpf ?_)))))))))
  refine Oq Vm (Osk (Osk (Osk (Osk (Osk (Oq Vpf (Oq Vm (Osk (Osk ?_)))))))))
  refine Osk (Oq Vpf (Oq Va (KS ?_)))
  have hq := q4 hrr false (by simp only [sx_valid, h8, h43, h72, h98, h132, h164, h192, h222, h250, h263, hg254, cs4]); subst hq
  exact Kr () rfl (.tmp rfl .nil) [] trivial
 intro h250
 have g275 := ne_of_beq_false h250
 refine KS ?_
 refine Ke ?_
 refine KS ?_
 refine Oq Va (KS ?_)
 have hq := q4 hrr false (by simp only [sx_valid, h8, h43, h72, h98, h132, h164, h192, h222, h250, cs4]); subst hq
 exact Kr () rfl (.tmp rfl .nil) [] trivial
theorem fn70 (s : GStmt) (sa2 : Option Addr) (sk2 : Nat) (sa3 : Option Addr) (sk3 : Nat) (kwLA : Option Addr) (kwLK : Nat) (hs_0 : i64ok s.Op) (hs_1 : s.Def.b.length ≤ 140737488355328) (hsm : SSm s = true) (rr : Bool) (hrr : sx_Valid_1 s = rr) : FT Tryz.prog 70 #[.agg #[vi s.Op, .string (bs s.Def), vl sa2 sk2 s.Uses, vl sa3 sk3 s.Targets]] [S sa2 sk2 s.Uses, S sa3 sk3 s.Targets, pv (gp 0) [vl kwLA kwLK kwL], S kwLA kwLK kwL] (fun g : Unit => True) (fun g => vb rr) (fun g => []) := by
 refine FTi Tryz.func70 fun w0 M0 F0 => ?_
 unfold i64ok at hs_0
 refine Fb 16 0 fun _ => ?_
 refine FoS 0 fun ho2 => ?_
 refine Fb 16 1 fun _ => ?_
 refine FoS 1 fun ho4 => ?_
 refine Fb 16 3 fun _ => ?_
 refine FoS 3 fun ho6 => ?_
 refine KS ?_
 refine Oa (Ab [vi s.Op, .string (bs s.Def), vl sa2 sk2 s.Uses, vl sa3 sk3 s.Targets]) fun p7 => Oq Va (KS ?_)
 refine Oq (VldA sh37 0) ?_
 refine letv (sx_valid s) fun rv8 hg9 => ?_
 have hc10 := fn71 s sa2 sk2 sa3 sk3 kwLA kwLK pre pre pre rv8 hg9
 refine Oc [1, 2, 3, 4] ca71 hc10 ?_
 rintro - -
 refine Oq Vnot (Oq Va (KS ?_))
 have hq := q4 hrr (!rv8) (by simp only [sx_Valid_1, hg9, cs4]); subst hq
 exact Kr () rfl (.tmp rfl .nil) [] trivial
theorem fn39 (p : GProgram) (pa0 : Option Addr) (pk0 : Nat) (kwLA : Option Addr) (kwLK : Nat) (hps : PSm p = true) (rr : Bool) (hrr : sx_Valid p = rr) : FT Tryz.prog 39 #[.agg #[vl pa0 pk0 p.Funcs]] [S pa0 pk0 p.Funcs, pv (gp 0) [vl kwLA kwLK kwL], S kwLA kwLK kwL] (fun g : Unit => True) (fun g => vb rr) (fun g => []) := by
 refine FTi Tryz.func39 fun w0 M0 F0 => Fb 40 0 fun _ => Fb 16 2 fun _ => ?_
 refine FoS 2 fun ho3 => ?_
 refine KS ?_
 refine Oa (Ab [vl pa0 pk0 p.Funcs]) fun p4 => Oq Va (KS ?_)
 refine Oq (Vfa fo25_0 0) (Oq (VldF sh23 0) (Oq (Vlen sl23) (Oq Vlss (Oq Vm ?_))))
 refine Js 11 ?_ ?_
 ·intro h5
  have g6 := dt h5
  refine Osk (Osk (Osk (Osk (Oq Vpt (KS ?_)))))
  refine Kt (KS ?_)
  refine Oq Va (KS ?_)
  have hq := q4 hrr false (by simp only [sx_Valid, h5, cs4]); subst hq
  exact Kr () rfl (.tmp rfl .nil) [] trivial
 intro h5
 have g7 := df h5
 refine Oq (Vfa fo25_0 0) (Oq (VldF sh23 0) (Oq (Vlen sl23) (Oq Vgtr (Oq Vpf (KS ?_)))))
 refine Kc ?_ ?_
 ·intro h8
  have g9 := dt h8
  have hfm := PSm_f hps (i := 8) aM1
  refine KS ?_
  refine Oq Va (KS ?_)
  have hq := q4 hrr false (by simp only [sx_Valid, h5, h8, cs4]); subst hq
  exact Kr () rfl (.tmp rfl .nil) [] trivial
 intro h8
 have g10 := df h8
 refine KS ?_
 refine Oq (Vfa fo25_0 0) (Oq (VldF sh23 0) (Oq (Vlen sl23) (Oq Vm (KS ?_))))
 refine Kl (γ := Nat × Int) (fun (r11, v20_12) => ⟨[(18, vl pa0 pk0 p.Funcs), (19, vi (p.Funcs.length : Int)), (20, vi v20_12)], [S pa0 pk0 p.Funcs, pv (gp 0) [vl kwLA kwLK kwL], S kwLA kwLK kwL], sx_Valid_L0 p r11 v20_12 = sx_Valid_L0 p (((p.Funcs.length : Int) - 0).toNat) 0 ∧ r11 = ((p.Funcs.length : Int) - v20_12).toNat ∧ (0 : Int) ≤ v20_12 ∧ v20_12 ≤ (p.Funcs.length : Int) ∧ (-9223372036854775808 ≤ v20_12 ∧ v20_12 ≤ 9223372036854775807), r11⟩) (((p.Funcs.length : Int) - 0).toNat, 0) [1, 2, 3] ⟨rfl, rfl, aM1, aM1, aM1⟩ ?_
 rintro ⟨r11, v20_12⟩ ⟨hM13, hr14, hi15, hi16, hk17⟩
 refine JJ_nx fun _ _ hL hA => ?_; dsimp only at hL hA; subst hL hA
 refine Fb 40 0 fun _ => Fb 16 2 fun _ => ?_
 refine FoS 2 fun ho20 => ?_
 refine KS ?_
 refine Oq Vlss (KS ?_)
 refine Kc ?_ ?_
 ·intro h21
  have g22 := dt h21
  have hfm := PSm_f hps (i := v20_12) aM1
  obtain ⟨r23, rfl⟩ := scc (n := r11) aM1
  refine KS ?_
  refine Oq (Vi sl23 0) ?_
  refine JJ_peek_GFunc v20_12.toNat 0 rfl rng fun a24 k25 hb26 => ?_
  refine Fb 40 1 fun _ => ?_
  refine Oq (VldA sh31 0) (Oa (Al ze31 [.string (bs (Str.mk [])), .slice none 0 0]) fun p28 => Ost (Scl [0] sh31 [.string (bs ((p.Funcs.getD v20_12.toNat default).Name)), vl a24 k25 ((p.Funcs.getD v20_12.toNat default).Blocks)]) (KS ?_))
  refine Oq (Vfa fo31_0 0) (Oq (VldF sh9 0) ?_)
  refine letv (lx_IsName ((p.Funcs.getD v20_12.toNat default).Name)) fun rv29 hg30 => ?_
  have hc31 := fn68 ((p.Funcs.getD v20_12.toNat default).Name) kwLA kwLK pre rv29 hg30
  refine Oc [4, 5] ca68 hc31 ?_
  rintro - -
  refine Oq Vnot (Oq Vm ?_)
  refine Js 28 ?_ ?_
  ·intro h32
   have h34 := not_true h32
   refine Osk (Osk (Osk (Osk (Oq Vpt (Oq Vm (Osk (Osk (Osk (Osk ?_)))))))))
   refine Oq Vpt (KS ?_)
   refine Kt (KS ?_)
   refine Oq Va (KS ?_)
   have hR36 := q2 hM13 (.ret false) (by simp only [sx_Valid_L0, h21, h32, h34, hg30, cs4])
   have hq := q4 hrr false (by simp only [sx_Valid, h5, h8, h21, h32, h34, hg30, hR36, cs4]); subst hq
   exact Kr () rfl (.tmp rfl .nil) [] trivial
  intro h32
  have h38 := not_false h32
  refine Oq (Vfa fo31_1 0) (Oq (VldF sh29 0) (Oq (Vlen sl29) (Oq Vlss (Oq Vpf (Oq Vm ?_)))))
  refine Js 34 ?_ ?_
  ·intro h40
   have g41 := dt h40
   refine Osk (Osk (Osk (Osk (Oq Vpt (KS ?_)))))
   refine Kt (KS ?_)
   refine Oq Va (KS ?_)
   have hR42 := q2 hM13 (.ret false) (by simp only [sx_Valid_L0, h21, h32, h38, h40, hg30, cs4])
   have hq := q4 hrr false (by simp only [sx_Valid, h5, h8, h21, h32, h38, h40, hg30, hR42, cs4]); subst hq
   exact Kr () rfl (.tmp rfl .nil) [] trivial
  intro h40
  have g43 := df h40
  refine Oq (Vfa fo31_1 0) (Oq (VldF sh29 0) (Oq (Vlen sl29) (Oq Vgtr (Oq Vpf (KS ?_)))))
  refine Kc ?_ ?_
  ·intro h44
   have g45 := dt h44
   have hbm := FSm_b hfm (i := 16) aM1
   refine KS ?_
   refine Oq Va (KS ?_)
   have hR46 := q2 hM13 (.ret false) (by simp only [sx_Valid_L0, h21, h32, h38, h40, h44, hg30, cs4])
   have hq := q4 hrr false (by simp only [sx_Valid, h5, h8, h21, h32, h38, h40, h44, hg30, hR46, cs4]); subst hq
   exact Kr () rfl (.tmp rfl .nil) [] trivial
  intro h44
  have g47 := df h44
  refine KS ?_
  refine Oq (Vfa fo31_1 0) (Oq (VldF sh29 0) (Oq (Vlen sl29) (Oq Vm (KS ?_))))
  refine Kl (γ := Nat × Int) (fun (r48, v43_49) => ⟨[(18, vl pa0 pk0 p.Funcs), (19, vi (p.Funcs.length : Int)), (20, vi v20_12), (41, vl a24 k25 ((p.Funcs.getD v20_12.toNat default).Blocks)), (42, vi (((p.Funcs.getD v20_12.toNat default).Blocks).length : Int)), (43, vi v43_49)], [S a24 k25 ((p.Funcs.getD v20_12.toNat default).Blocks), S pa0 pk0 p.Funcs, pv (gp 0) [vl kwLA kwLK kwL], S kwLA kwLK kwL], sx_Valid_L1 ((p.Funcs.getD v20_12.toNat default).Blocks) r48 v43_49 = sx_Valid_L1 ((p.Funcs.getD v20_12.toNat default).Blocks) ((((((p.Funcs.getD v20_12.toNat default).Blocks).length : Int) : Int) - 0).toNat) 0 ∧ r48 = (((((p.Funcs.getD v20_12.toNat default).Blocks).length : Int) : Int) - v43_49).toNat ∧ (0 : Int) ≤ v43_49 ∧ (v43_49 ≤ (((p.Funcs.getD v20_12.toNat default).Blocks).length : Int) ∨ v43_49 = 0) ∧ (-9223372036854775808 ≤ v43_49 ∧ v43_49 ≤ 9223372036854775807), r48⟩) ((((((p.Funcs.getD v20_12.toNat default).Blocks).length : Int) : Int) - 0).toNat, 0) [2, 3, 4, 5] ⟨rfl, rfl, aM1, (.inr rfl), aM1⟩ ?_
  rintro ⟨r48, v43_49⟩ ⟨hM50, hr51, hi52, hi53, hk54⟩
  refine JJ_nx fun _ _ hL hA => ?_; dsimp only at hL hA; subst hL hA
  refine Fb 40 0 fun _ => Fb 40 1 fun _ => Fb 16 3 fun _ => ?_
  refine FoS 3 fun ho58 => ?_
  refine KS ?_
  refine Oq Vlss (KS ?_)
  refine Kc ?_ ?_
  ·intro h59
   have g60 := dt h59
   have hbm := FSm_b hfm (i := v43_49) aM1
   obtain ⟨r61, rfl⟩ := scc (n := r48) aM1
   refine KS ?_
   refine Oq (Vi sl29 0) ?_
   refine JJ_peek_GBlock v43_49.toNat 0 rfl rng fun a62 k63 hb64 => ?_
   refine Fb 72 1 fun _ => ?_
   refine Oq (VldA sh34 0) (Oa (Al ze34 [.string (bs (Str.mk [])), .slice none 0 0]) fun p66 => Ost (Scl [0] sh34 [.string (bs ((((p.Funcs.getD v20_12.toNat default).Blocks).getD v43_49.toNat default).Name)), .slice a62 (((((p.Funcs.getD v20_12.toNat default).Blocks).getD v43_49.toNat default).Stmts).length) k63]) (KS ?_))
   refine Oq (Vfa fo34_0 0) (Oq (VldF sh9 0) ?_)
   refine letv (lx_IsName ((((p.Funcs.getD v20_12.toNat default).Blocks).getD v43_49.toNat default).Name)) fun rv67 hg68 => ?_
   have hc69 := fn68 ((((p.Funcs.getD v20_12.toNat default).Blocks).getD v43_49.toNat default).Name) kwLA kwLK pre rv67 hg68
   refine Oc [5, 6] ca68 hc69 ?_
   rintro - -
   refine Oq Vnot (Oq Vm ?_)
   refine Js 51 ?_ ?_
   ·intro h70
    have h72 := not_true h70
    refine Osk (Osk (Osk (Osk (Oq Vpt (Oq Vm (Osk (Osk (Osk (Osk ?_)))))))))
    refine Oq Vpt (Oq Vm (Osk (Osk (Osk (Oq Vpt (KS ?_))))))
    refine Kt (KS ?_)
    refine Oq Va (KS ?_)
    have hR74 := q2 hM50 (.ret false) (by simp only [sx_Valid_L1, h59, h70, h72, hg68, cs4])
    have hR75 := q2 hM13 (.ret false) (by simp only [sx_Valid_L0, h21, h32, h38, h40, h44, h59, h70, h72, hg30, hg68, hR74, cs4])
    have hq := q4 hrr false (by simp only [sx_Valid, h5, h8, h21, h32, h38, h40, h44, h59, h70, h72, hg30, hg68, hR74, hR75, cs4]); subst hq
    exact Kr () rfl (.tmp rfl .nil) [] trivial
   intro h70
   have h77 := not_false h70
   refine Oq (Vfa fo34_1 0) (Oq (VldF sh32 0) (Oq (Vlen sl32) (Oq Vlss (Oq Vpf (Oq Vm ?_)))))
   refine Js 57 ?_ ?_
   ·intro h79
    have g80 := dt h79
    refine Osk (Osk (Osk (Osk (Oq Vpt (Oq Vm (Osk (Osk (Osk (Oq Vpt ?_)))))))))
    refine KS ?_
    refine Kt (KS ?_)
    refine Oq Va (KS ?_)
    have hR81 := q2 hM50 (.ret false) (by simp only [sx_Valid_L1, h59, h70, h77, h79, hg68, cs4])
    have hR82 := q2 hM13 (.ret false) (by simp only [sx_Valid_L0, h21, h32, h38, h40, h44, h59, h70, h77, h79, hg30, hg68, hR81, cs4])
    have hq := q4 hrr false (by simp only [sx_Valid, h5, h8, h21, h32, h38, h40, h44, h59, h70, h77, h79, hg30, hg68, hR81, hR82, cs4]); subst hq
    exact Kr () rfl (.tmp rfl .nil) [] trivial
   intro h79
   have g83 := df h79
   refine Oq (Vfa fo34_1 0) (Oq (VldF sh32 0) (Oq (Vlen sl32) (Oq Vgtr (Oq Vpf (Oq Vm ?_)))))
   refine Js 63 ?_ ?_
   ·intro h84
    have g85 := dt h84
    refine Osk (Osk (Osk (Oq Vpt (KS ?_))))
    refine Kt (KS ?_)
    refine Oq Va (KS ?_)
    have hR86 := q2 hM50 (.ret false) (by simp only [sx_Valid_L1, h59, h70, h77, h79, h84, hg68, cs4])
    have hR87 := q2 hM13 (.ret false) (by simp only [sx_Valid_L0, h21, h32, h38, h40, h44, h59, h70, h77, h79, h84, hg30, hg68, hR86, cs4])
    have hq := q4 hrr false (by simp only [sx_Valid, h5, h8, h21, h32, h38, h40, h44, h59, h70, h77, h79, h84, hg30, hg68, hR86, hR87, cs4]); subst hq
    exact Kr () rfl (.tmp rfl .nil) [] trivial
   intro h84
   have g88 := df h84
   refine Oq (Vfa fo34_1 0) (Oq (VldF sh32 0) ?_)
   refine JJ_ent (Ent.pall [5, 6] rfl rfl) ?_
   refine letv (sc_ContainsFunc_Stmt ((((p.Funcs.getD v20_12.toNat default).Blocks).getD v43_49.toNat default).Stmts) (fun x => sx_Valid_1 x)) fun rv89 hg90 => ?_
   have hc91 := fn69 ((((p.Funcs.getD v20_12.toNat default).Blocks).getD v43_49.toNat default).Stmts) a62 k63 70 [] (fun x => sx_Valid_1 x) [pv (gp 0) [vl kwLA kwLK kwL], S kwLA kwLK kwL] ca70 (fun x hx a2 k2 a3 k3 hq0 hq1 => FT_pall (A1 := _) (fn70 x a2 k2 a3 k3 kwLA kwLK hq0 hq1 (BSm_m hbm hx) _ rfl)) rv89 hg90
   refine Oc [3, 0] ca69 hc91 ?_
   rintro - -
   refine Oq Vpf (KS ?_)
   refine Kc ?_ ?_
   ·intro h92
    refine KS ?_
    refine Oq Va (KS ?_)
    have hR94 := q2 hM50 (.ret false) (by simp only [sx_Valid_L1, h59, h70, h77, h79, h84, h92, hg68, hg90, cs4])
    have hR95 := q2 hM13 (.ret false) (by simp only [sx_Valid_L0, h21, h32, h38, h40, h44, h59, h70, h77, h79, h84, h92, hg30, hg68, hg90, hR94, cs4])
    have hq := q4 hrr false (by simp only [sx_Valid, h5, h8, h21, h32, h38, h40, h44, h59, h70, h77, h79, h84, h92, hg30, hg68, hg90, hR94, hR95, cs4]); subst hq
    exact Kr () rfl (.tmp rfl .nil) [] trivial
   intro h92
   refine KS ?_
   refine Oq Vadd (Oq Vm (KS ?_))
   exact Kg (r61, (v43_49 + 1)) [4, 5, 6, 7] ⟨(q3 hM50 (by simp only [sx_Valid_L1, h59, h70, h77, h79, h84, h92, hg68, hg90, cs4])), aM1, aM1, aM1, aM1⟩
  intro h59
  have g97 := df h59
  obtain rfl : r48 = 0 := by omega
  refine Ke ?_
  have hR98 := q2 hM50 (.brk ()) (by simp only [sx_Valid_L1, h59, cs4])
  refine KS ?_
  refine Oq Vadd (Oq Vm (KS ?_))
  exact Kg (r23, (v20_12 + 1)) [1, 2, 3] ⟨(q3 hM13 (by simp only [sx_Valid_L0, h21, h32, h38, h40, h44, h59, hg30, hR98, cs4])), aM1, aM1, aM1, aM1⟩
 intro h21
 have g99 := df h21
 obtain rfl : r11 = 0 := by omega
 refine Ke ?_
 have hR100 := q2 hM13 (.brk ()) (by simp only [sx_Valid_L0, h21, cs4])
 refine KS ?_
 refine Oq Va (KS ?_)
 have hq := q4 hrr true (by simp only [sx_Valid, h5, h8, h21, hR100, cs4]); subst hq
 exact Kr () rfl (.tmp rfl .nil) [] trivial
theorem fn44 (n : Str) (cap0P : Value) (cap0 : List (Str × Bool)) (cap0m0 : Value) (cap1P : Value) (cap1 : List Str) (cap1a0 : Option Addr) (cap1k0 : Nat) (hn_0 : n.b.length ≤ 140737488355328) (ho : cap1.length ≤ 1000000) (rr : (List (Str × Bool)) × List Str) (hrr : vd_Variables_1 n cap0 cap1 = rr) : FT Tryz.prog 44 #[.string (bs n), cap0P, cap1P] [Cl cap0P [cap0m0], Mp vstr vb okStr cap0m0 cap0, Cl cap1P [vl cap1a0 cap1k0 cap1], O cap1a0 cap1k0 cap1] (fun g : Value => (rr.2.length ≤ cap1.length + 1)) (fun g => .tuple #[]) (fun g => [Cl cap0P [cap0m0], Mp vstr vb okStr cap0m0 rr.1, Cl cap1P [g], os g rr.2]) := by
 refine FTi Tryz.func44 fun w0 M0 F0 => Fb 16 3 fun _ => ?_
 refine FoS 3 fun ho2 => ?_
 refine KS ?_
 refine Oq Vm (Oq (VneS (l := n) (m := (Str.mk []))) (Oq Vm ?_))
 refine Js 6 ?_ ?_
 ·intro h3
  have g4 := ne_of_bne h3
  refine Oq (Vld sh84 0) (Oq Vm (Oq (Vmk1 1 false mt84 (kStr un9) ze4 (ek := vstr) (ev := vb) (ok := okStr) (key := n) pre) (Oq Vnot (Oq Vpt (KS ?_)))))
  refine Kc ?_ ?_
  ·intro h5
   have h7 := not_true h5
   refine KS ?_
   refine Oq (Vld sh84 0) (Oq Vm (Ost (Smp [1] mt84 (kStr un9) true (ek := vstr) (ev := vb) (ok := okStr) (key := n) pre) (KS ?_)))
   refine Oq (Vld sh35 2) (Oq Vm (Oa (AsV sl35 sz35 [.string (bs n)] [.string (bs n)]) fun c9 => ?_))
   refine Jo 0 ?_; rintro a10 k11 rfl
   refine Jl [0] (Ent.cr1 (α := Str) (A := []) _ n _ aB1 (fun _ => ⟨rfl, aS1⟩)) ?_
   refine Oa (ApO [4, 0] sl35 sl35 sz35) fun c12 => ?_
   refine Jo 0 ?_; rintro a13 k14 rfl
   refine Fb 16 0 fun _ => ?_
   refine FoS 0 fun ho16 => ?_
   have hn17 := la cap1 ([n] : List Str)
   refine Ost (Scl [3] sh35 [vl a13 k14 (cap1 ++ [n])]) (KS ?_)
   have hq := q4 hrr ((mset cap0 n true), (cap1 ++ [n])) (by simp only [vd_Variables_1, h3, h5, h7, cs4]); subst hq
   exact Kz (vl a13 k14 (cap1 ++ [n])) rfl .nil [3, 2, 0, 0] en
  intro h5
  have h19 := not_false h5
  refine KS ?_
  have hq := q4 hrr (cap0, cap1) (by simp only [vd_Variables_1, h3, h5, h19, cs4]); subst hq
  exact Kz (vl cap1a0 cap1k0 cap1) rfl .nil [0, 0, 0, 0] en
 intro h3
 have g21 := eq_of_bne_false h3
 refine Osk (Osk (Osk (Osk (Oq Vpf (KS ?_)))))
 refine Kf (KS ?_)
 have hq := q4 hrr (cap0, cap1) (by simp only [vd_Variables_1, h3, cs4]); subst hq
 exact Kz (vl cap1a0 cap1k0 cap1) rfl .nil [0, 0, 0, 0] en
theorem fn46m0 (s : GStmt) (sa2 : Option Addr) (sk2 : Nat) (sa3 : Option Addr) (sk3 : Nat) (st0P : Value) (st0 : List (Str × Bool)) (st0m0 : Value) (st1P : Value) (st1 : List Str) (st1a0 : Option Addr) (st1k0 : Nat) (cap0P : Value) (hs_0 : i64ok s.Op) (hs_1 : s.Def.b.length ≤ 140737488355328) (ho : st1.length ≤ 900000 ∧ s.Uses.length ≤ 4) (rr : (List (Str × Bool)) × List Str) (hrr : vd_Variables_2_Variables_1 s st0 st1 = rr) : FT Tryz.prog 46 #[.agg #[vi s.Op, .string (bs s.Def), vl sa2 sk2 s.Uses, vl sa3 sk3 s.Targets], cap0P] [S sa2 sk2 s.Uses, S sa3 sk3 s.Targets, Cl st0P [st0m0], Mp vstr vb okStr st0m0 st0, Cl st1P [vl st1a0 st1k0 st1], O st1a0 st1k0 st1, pv cap0P [.func (.func 44) #[] #[st0P, st1P]]] (fun g : Value => (rr.2.length ≤ st1.length + 5)) (fun g => .tuple #[]) (fun g => [Cl st0P [st0m0], Mp vstr vb okStr st0m0 rr.1, Cl st1P [g], os g rr.2]) := by
 refine FTi Tryz.func46 fun w0 M0 F0 => ?_
 unfold i64ok at hs_0
 refine Fb 16 0 fun _ => ?_
 refine FoS 0 fun ho2 => ?_
 refine Fb 16 1 fun _ => ?_
 refine FoS 1 fun ho4 => ?_
 refine Fb 16 5 fun _ => ?_
 refine FoS 5 fun ho6 => ?_
 refine KS ?_
 refine Oa (Ab [vi s.Op, .string (bs s.Def), vl sa2 sk2 s.Uses, vl sa3 sk3 s.Targets]) fun p7 => KS ?_
 refine Oq (Vld sh91 7) (Oq (Vfa fo37_1 0) (Oq (VldF sh9 0) ?_))
 refine letv (vd_Variables_1 s.Def st0 st1) fun rv9 hg10 => ?_
 have hc11 := fn44 s.Def st0P st0 st0m0 st1P st1 st1a0 st1k0 pre pre rv9 hg10
 refine JO_call [3, 3, 3, 3] rfl rfl rfl (OpC.clo (asv := [(.string (bs s.Def) : Value), (st0P : Value), (st1P : Value)]) rfl rfl ca44 rfl (by simp)) hc11 rfl ?_
 rintro c8 he12
 refine Jo 3 ?_; rintro a13 k14 rfl
 refine Fb 16 3 fun _ => ?_
 refine FoS 3 fun ho16 => ?_
 refine KS ?_
 refine Oq (Vfa fo37_2 4) (Oq (VldF sh35 4) (Oq (Vlen sl35) (Oq Vm (KS ?_))))
 refine Kl (γ := Nat × (List (Str × Bool)) × List Str × Int × Option Addr × Nat) (fun (r17, st00_18, st10_19, v12_20, a21, k22) => ⟨[(1, cap0P), (10, vl sa2 sk2 s.Uses), (11, vi (s.Uses.length : Int)), (12, vi v12_20)], [O a21 k22 st10_19, Cl st0P [st0m0], Mp vstr vb okStr st0m0 st00_18, Cl st1P [vl a21 k22 st10_19], S sa2 sk2 s.Uses, pv cap0P [.func (.func 44) #[] #[st0P, st1P]]], vd_Variables_2_Variables_1_L0 s r17 st00_18 st10_19 v12_20 = vd_Variables_2_Variables_1_L0 s (((s.Uses.length : Int) - 0).toNat) rv9.1 rv9.2 0 ∧ r17 = ((s.Uses.length : Int) - v12_20).toNat ∧ (0 : Int) ≤ v12_20 ∧ v12_20 ≤ (s.Uses.length : Int) ∧ (-9223372036854775808 ≤ v12_20 ∧ v12_20 ≤ 9223372036854775807) ∧ ((st10_19.length : Int) ≤ (st1.length : Int) + 1 + v12_20), r17⟩) (((s.Uses.length : Int) - 0).toNat, rv9.1, rv9.2, 0, a13, k14) [3, 0, 0, 0, 1, 3] ⟨rfl, rfl, aM1, aM1, aM1, iv0⟩ ?_
 rintro ⟨r17, st00_18, st10_19, v12_20, a21, k22⟩ ⟨hM23, hr24, hi25, hi26, hk27, hv28⟩
 refine JJ_nx fun _ _ hL hA => ?_; dsimp only at hL hA; subst hL hA
 refine Fb 16 0 fun _ => ?_
 refine FoS 0 fun ho30 => ?_
 refine Fb 16 4 fun _ => ?_
 refine FoS 4 fun ho32 => ?_
 refine KS ?_
 refine Oq Vlss (KS ?_)
 refine Kc ?_ ?_
 ·intro h33
  have g34 := dt h33
  obtain ⟨r35, rfl⟩ := scc (n := r17) aM1
  refine KS ?_
  refine Oq (Vi sl35 4) ?_
  have hb36 := okS (i := v12_20.toNat) ho32 rng
  refine Oq (VldS sh9 4) (Oq Va (KS ?_))
  refine Oq (Vld sh91 5) (Oq Vm ?_)
  refine letv (vd_Variables_1 (s.Uses.getD v12_20.toNat default) st00_18 st10_19) fun rv38 hg39 => ?_
  have hc40 := fn44 ((s.Uses.getD v12_20.toNat default)) st0P st00_18 st0m0 st1P st10_19 a21 k22 pre pre rv38 hg39
  refine JO_call [1, 1, 1, 0] rfl rfl rfl (OpC.clo (asv := [(.string (bs (s.Uses.getD v12_20.toNat default)) : Value), (st0P : Value), (st1P : Value)]) rfl rfl ca44 rfl (by simp)) hc40 rfl ?_
  rintro c37 he41
  refine Jo 3 ?_; rintro a42 k43 rfl
  refine Fb 16 3 fun _ => ?_
  refine FoS 3 fun ho45 => ?_
  refine KS ?_
  refine Oq Vadd (Oq Vm (KS ?_))
  exact Kg (r35, rv38.1, rv38.2, (v12_20 + 1), a42, k43) [3, 0, 0, 0, 0, 1] ⟨(q3 hM23 (by simp only [vd_Variables_2_Variables_1_L0, h33, hg39, cs4])), aM1, aM1, aM1, aM1, iv1⟩
 intro h33
 have g46 := df h33
 obtain rfl : r17 = 0 := by omega
 refine Ke ?_
 have hR47 := q2 hM23 (st00_18, st10_19) (by simp only [vd_Variables_2_Variables_1_L0, h33, cs4])
 have hq := q4 hrr (st00_18, st10_19) (by simp only [vd_Variables_2_Variables_1, h33, hg10, hR47, cs4]); subst hq
 exact Kz (vl a21 k22 st10_19) rfl .nil [1, 1, 1, 0] en
theorem fn45m1 (p : GProgram) (pa0 : Option Addr) (pk0 : Nat) (st1P : Value) (st1 : List (Str × Bool)) (st1m0 : Value) (st2P : Value) (st2 : List Str) (st2a0 : Option Addr) (st2k0 : Nat) (st0P : Value) (kwLA : Option Addr) (kwLK : Nat) (hps : PSm p = true) (ho : st2.length = 0) (rr : (List (Str × Bool)) × List Str) (hrr : vd_each_Variables_2 p st1 st2 = rr) : FT Tryz.prog 45 #[.agg #[vl pa0 pk0 p.Funcs], .func (.func 46) #[] #[st0P]] [S pa0 pk0 p.Funcs, Cl st1P [st1m0], Mp vstr vb okStr st1m0 st1, Cl st2P [vl st2a0 st2k0 st2], O st2a0 st2k0 st2, pv st0P [.func (.func 44) #[] #[st1P, st2P]], pv (gp 0) [vl kwLA kwLK kwL], S kwLA kwLK kwL] (fun g : Value => (rr.2.length ≤ 30000)) (fun g => .tuple #[]) (fun g => [Cl st1P [st1m0], Mp vstr vb okStr st1m0 rr.1, Cl st2P [g], os g rr.2]) := by
 refine FTi Tryz.func45 fun w0 M0 F0 => Fb 40 0 fun _ => Fb 16 4 fun _ => ?_
 refine FoS 4 fun ho3 => ?_
 refine Fb 16 7 fun _ => ?_
 refine FoS 7 fun ho5 => ?_
 refine KS ?_
 refine Oa (Ab [vl pa0 pk0 p.Funcs]) fun p6 => KS ?_
 refine Oq (VldA sh25 0) ?_
 refine letv (sx_Valid p) fun rv7 hg8 => ?_
 have hc9 := fn39 p pa0 pk0 kwLA kwLK pre rv7 hg8
 refine Oc [1, 7, 8] ca39 hc9 ?_
 rintro - -
 refine Oq Vnot (KS ?_)
 refine Kc ?_ ?_
 ·intro h10
  have h12 := not_true h10
  have hq := q4 hrr (st1, st2) (by simp only [vd_each_Variables_2, h10, h12, hg8, cs4]); subst hq
  exact Kr (vl st2a0 st2k0 st2) rfl .nil [2, 2, 2, 2] en
 intro h10
 have h15 := not_false h10
 try have hVb := SVal_b (p := p) (by simp only [h10, h15, hg8])
 refine KS ?_
 refine Oq (Vfa fo25_0 0) (Oq (VldF sh23 0) (Oq (Vlen sl23) (Oq Vm (KS ?_))))
 refine Kl (γ := Nat × (List (Str × Bool)) × List Str × Int × Option Addr × Nat) (fun (r17, st10_18, st20_19, v16_20, a21, k22) => ⟨[(1, .func (.func 46) #[] #[st0P]), (14, vl pa0 pk0 p.Funcs), (15, vi (p.Funcs.length : Int)), (16, vi v16_20)], [O a21 k22 st20_19, S pa0 pk0 p.Funcs, Cl st1P [st1m0], Mp vstr vb okStr st1m0 st10_18, Cl st2P [vl a21 k22 st20_19], pv st0P [.func (.func 44) #[] #[st1P, st2P]], pv (gp 0) [vl kwLA kwLK kwL], S kwLA kwLK kwL], vd_each_Variables_2_L0 p r17 st10_18 st20_19 v16_20 = vd_each_Variables_2_L0 p (((p.Funcs.length : Int) - 0).toNat) st1 st2 0 ∧ r17 = ((p.Funcs.length : Int) - v16_20).toNat ∧ (0 : Int) ≤ v16_20 ∧ v16_20 ≤ (p.Funcs.length : Int) ∧ (-9223372036854775808 ≤ v16_20 ∧ v16_20 ≤ 9223372036854775807) ∧ ((st20_19.length : Int) ≤ 3000 * v16_20), r17⟩) (((p.Funcs.length : Int) - 0).toNat, st1, st2, 0, st2a0, st2k0) [5, 1, 2, 2, 2, 2, 3, 4] ⟨rfl, rfl, aM1, aM1, aM1, iv0⟩ ?_
 rintro ⟨r17, st10_18, st20_19, v16_20, a21, k22⟩ ⟨hM23, hr24, hi25, hi26, hk27, hv28⟩
 refine JJ_nx fun _ _ hL hA => ?_; dsimp only at hL hA; subst hL hA
 refine Fb 16 0 fun _ => ?_
 refine FoS 0 fun ho30 => ?_
 refine Fb 40 1 fun _ => Fb 16 7 fun _ => ?_
 refine FoS 7 fun ho33 => ?_
 refine KS ?_
 refine Oq Vlss (KS ?_)
 refine Kc ?_ ?_
 ·intro h34
  have g35 := dt h34
  have hVf := hVb.2 v16_20.toNat
  obtain ⟨r36, rfl⟩ := scc (n := r17) aM1
  refine KS ?_
  refine Oq (Vi sl23 1) ?_
  refine JJ_peek_GFunc v16_20.toNat 1 rfl rng fun a37 k38 hb39 => ?_
  refine Fb 40 1 fun _ => ?_
  refine Oq (VldA sh31 0) (Oa (Al ze31 [.string (bs (Str.mk [])), .slice none 0 0]) fun p41 => Ost (Scl [0] sh31 [.string (bs ((p.Funcs.getD v16_20.toNat default).Name)), vl a37 k38 ((p.Funcs.getD v16_20.toNat default).Blocks)]) (KS ?_))
  refine Oq (Vfa fo31_1 0) (Oq (VldF sh29 0) (Oq (Vlen sl29) (Oq Vm (KS ?_))))
  refine Kl (γ := Nat × (List (Str × Bool)) × List Str × Int × Option Addr × Nat) (fun (r42, st10_43, st20_44, v23_45, a46, k47) => ⟨[(1, .func (.func 46) #[] #[st0P]), (14, vl pa0 pk0 p.Funcs), (15, vi (p.Funcs.length : Int)), (16, vi v16_20), (21, vl a37 k38 ((p.Funcs.getD v16_20.toNat default).Blocks)), (22, vi (((p.Funcs.getD v16_20.toNat default).Blocks).length : Int)), (23, vi v23_45)], [O a46 k47 st20_44, S a37 k38 ((p.Funcs.getD v16_20.toNat default).Blocks), S pa0 pk0 p.Funcs, Cl st1P [st1m0], Mp vstr vb okStr st1m0 st10_43, Cl st2P [vl a46 k47 st20_44], pv st0P [.func (.func 44) #[] #[st1P, st2P]], pv (gp 0) [vl kwLA kwLK kwL], S kwLA kwLK kwL], vd_each_Variables_2_L1 ((p.Funcs.getD v16_20.toNat default).Blocks) r42 st10_43 st20_44 v23_45 = vd_each_Variables_2_L1 ((p.Funcs.getD v16_20.toNat default).Blocks) ((((((p.Funcs.getD v16_20.toNat default).Blocks).length : Int) : Int) - 0).toNat) st10_18 st20_19 0 ∧ r42 = (((((p.Funcs.getD v16_20.toNat default).Blocks).length : Int) : Int) - v23_45).toNat ∧ (0 : Int) ≤ v23_45 ∧ (v23_45 ≤ (((p.Funcs.getD v16_20.toNat default).Blocks).length : Int) ∨ v23_45 = 0) ∧ (-9223372036854775808 ≤ v23_45 ∧ v23_45 ≤ 9223372036854775807) ∧ ((st20_44.length : Int) ≤ (st20_19.length : Int) + 180 * v23_45), r42⟩) ((((((p.Funcs.getD v16_20.toNat default).Blocks).length : Int) : Int) - 0).toNat, st10_18, st20_19, 0, a21, k22) [3, 2, 3, 4, 4, 4, 4, 5, 6] ⟨rfl, rfl, aM1, (.inr rfl), aM1, iv0⟩ ?_
  rintro ⟨r42, st10_43, st20_44, v23_45, a46, k47⟩ ⟨hM48, hr49, hi50, hi51, hk52, hv53⟩
  refine JJ_nx fun _ _ hL hA => ?_; dsimp only at hL hA; subst hL hA
  refine Fb 16 0 fun _ => ?_
  refine FoS 0 fun ho55 => ?_
  refine Fb 40 1 fun _ => Fb 40 2 fun _ => Fb 16 8 fun _ => ?_
  refine FoS 8 fun ho59 => ?_
  refine KS ?_
  refine Oq Vlss (KS ?_)
  refine Kc ?_ ?_
  ·intro h60
   have g61 := dt h60
   have hVk := hVf.2 v23_45.toNat
   obtain ⟨r62, rfl⟩ := scc (n := r42) aM1
   refine KS ?_
   refine Oq (Vi sl29 1) ?_
   refine JJ_peek_GBlock v23_45.toNat 1 rfl rng fun a63 k64 hb65 => ?_
   refine Fb 72 1 fun _ => ?_
   refine Oq (VldA sh34 0) (Oa (Al ze34 [.string (bs (Str.mk [])), .slice none 0 0]) fun p67 => Ost (Scl [0] sh34 [.string (bs ((((p.Funcs.getD v16_20.toNat default).Blocks).getD v23_45.toNat default).Name)), .slice a63 (((((p.Funcs.getD v16_20.toNat default).Blocks).getD v23_45.toNat default).Stmts).length) k64]) (KS ?_))
   refine Oq (Vfa fo34_1 0) (Oq (VldF sh32 0) (Oq (Vlen sl32) (Oq Vm (KS ?_))))
   refine Kl (γ := Nat × (List (Str × Bool)) × List Str × Int × Option Addr × Nat) (fun (r68, st10_69, st20_70, v30_71, a72, k73) => ⟨[(1, .func (.func 46) #[] #[st0P]), (14, vl pa0 pk0 p.Funcs), (15, vi (p.Funcs.length : Int)), (16, vi v16_20), (21, vl a37 k38 ((p.Funcs.getD v16_20.toNat default).Blocks)), (22, vi (((p.Funcs.getD v16_20.toNat default).Blocks).length : Int)), (23, vi v23_45), (28, .slice a63 (((((p.Funcs.getD v16_20.toNat default).Blocks).getD v23_45.toNat default).Stmts).length) k64), (29, vi (((((p.Funcs.getD v16_20.toNat default).Blocks).getD v23_45.toNat default).Stmts).length : Int)), (30, vi v30_71)], [O a72 k73 st20_70, S a63 k64 ((((p.Funcs.getD v16_20.toNat default).Blocks).getD v23_45.toNat default).Stmts), S a37 k38 ((p.Funcs.getD v16_20.toNat default).Blocks), S pa0 pk0 p.Funcs, Cl st1P [st1m0], Mp vstr vb okStr st1m0 st10_69, Cl st2P [vl a72 k73 st20_70], pv st0P [.func (.func 44) #[] #[st1P, st2P]], pv (gp 0) [vl kwLA kwLK kwL], S kwLA kwLK kwL], vd_each_Variables_2_L2 ((((p.Funcs.getD v16_20.toNat default).Blocks).getD v23_45.toNat default).Stmts) r68 st10_69 st20_70 v30_71 = vd_each_Variables_2_L2 ((((p.Funcs.getD v16_20.toNat default).Blocks).getD v23_45.toNat default).Stmts) ((((((((p.Funcs.getD v16_20.toNat default).Blocks).getD v23_45.toNat default).Stmts).length : Int) : Int) - 0).toNat) st10_43 st20_44 0 ∧ r68 = (((((((p.Funcs.getD v16_20.toNat default).Blocks).getD v23_45.toNat default).Stmts).length : Int) : Int) - v30_71).toNat ∧ (0 : Int) ≤ v30_71 ∧ (v30_71 ≤ (((((p.Funcs.getD v16_20.toNat default).Blocks).getD v23_45.toNat default).Stmts).length : Int) ∨ v30_71 = 0) ∧ (-9223372036854775808 ≤ v30_71 ∧ v30_71 ≤ 9223372036854775807) ∧ ((st20_70.length : Int) ≤ (st20_44.length : Int) + 5 * v30_71), r68⟩) ((((((((p.Funcs.getD v16_20.toNat default).Blocks).getD v23_45.toNat default).Stmts).length : Int) : Int) - 0).toNat, st10_43, st20_44, 0, a46, k47) [3, 2, 3, 4, 5, 5, 5, 5, 6, 7] ⟨rfl, rfl, aM1, (.inr rfl), aM1, iv0⟩ ?_
   rintro ⟨r68, st10_69, st20_70, v30_71, a72, k73⟩ ⟨hM74, hr75, hi76, hi77, hk78, hv79⟩
   refine JJ_nx fun _ _ hL hA => ?_; dsimp only at hL hA; subst hL hA
   refine Fb 16 0 fun _ => ?_
   refine FoS 0 fun ho81 => ?_
   refine Fb 72 1 fun _ => Fb 40 2 fun _ => Fb 40 3 fun _ => Fb 16 9 fun _ => ?_
   refine FoS 9 fun ho86 => ?_
   refine KS ?_
   refine Oq Vlss (KS ?_)
   refine Kc ?_ ?_
   ·intro h87
    have g88 := dt h87
    have hVs := hVk.2 v30_71.toNat
    obtain ⟨r89, rfl⟩ := scc (n := r68) aM1
    refine KS ?_
    refine Oq (Vi sl32 1) ?_
    refine JJ_peek_GStmt v30_71.toNat 1 rfl rng fun a90 k91 a92 k93 hb94 hb95 => ?_
    unfold i64ok at hb94
    refine Fb 16 1 fun _ => ?_
    refine FoS 1 fun ho97 => ?_
    refine Fb 16 2 fun _ => ?_
    refine FoS 2 fun ho99 => ?_
    refine Oq (VldA sh37 0) (Oa (Al ze37 [vi 0, .string (bs (Str.mk [])), .slice none 0 0, .slice none 0 0]) fun p100 => Ost (Scl [0] sh37 [vi ((((((p.Funcs.getD v16_20.toNat default).Blocks).getD v23_45.toNat default).Stmts).getD v30_71.toNat default).Op), .string (bs ((((((p.Funcs.getD v16_20.toNat default).Blocks).getD v23_45.toNat default).Stmts).getD v30_71.toNat default).Def)), .slice a90 (((((((p.Funcs.getD v16_20.toNat default).Blocks).getD v23_45.toNat default).Stmts).getD v30_71.toNat default).Uses).length) k91, .slice a92 (((((((p.Funcs.getD v16_20.toNat default).Blocks).getD v23_45.toNat default).Stmts).getD v30_71.toNat default).Targets).length) k93]) (KS ?_))
    refine Oq Vm (Oq (VldA sh37 0) ?_)
    refine letv (vd_Variables_2_Variables_1 (((((p.Funcs.getD v16_20.toNat default).Blocks).getD v23_45.toNat default).Stmts).getD v30_71.toNat default) st10_69 st20_70) fun rv102 hg103 => ?_
    have hc104 := fn46m0 ((((((p.Funcs.getD v16_20.toNat default).Blocks).getD v23_45.toNat default).Stmts).getD v30_71.toNat default)) a90 k91 a92 k93 st1P st10_69 st1m0 st2P st20_70 a72 k73 st0P pre pre pre rv102 hg103
    refine JO_call [2, 3, 8, 8, 8, 4, 7] rfl rfl rfl (OpC.clo (asv := [(.agg #[vi ((((((p.Funcs.getD v16_20.toNat default).Blocks).getD v23_45.toNat default).Stmts).getD v30_71.toNat default).Op), .string (bs ((((((p.Funcs.getD v16_20.toNat default).Blocks).getD v23_45.toNat default).Stmts).getD v30_71.toNat default).Def)), .slice a90 (((((((p.Funcs.getD v16_20.toNat default).Blocks).getD v23_45.toNat default).Stmts).getD v30_71.toNat default).Uses).length) k91, .slice a92 (((((((p.Funcs.getD v16_20.toNat default).Blocks).getD v23_45.toNat default).Stmts).getD v30_71.toNat default).Targets).length) k93] : Value), (st0P : Value)]) rfl rfl ca46 rfl (by simp)) hc104 rfl ?_
    rintro c101 he105
    refine Jo 3 ?_; rintro a106 k107 rfl
    refine Fb 16 3 fun _ => ?_
    refine FoS 3 fun ho109 => ?_
    refine KS ?_
    refine Oq Vadd (Oq Vm (KS ?_))
    exact Kg (r89, rv102.1, rv102.2, (v30_71 + 1), a106, k107) [3, 7, 8, 9, 0, 0, 0, 7, 8, 9] ⟨(q3 hM74 (by simp only [vd_each_Variables_2_L2, h87, hg103, cs4])), aM1, aM1, aM1, aM1, iv1⟩
   intro h87
   have g110 := df h87
   obtain rfl : r68 = 0 := by omega
   refine Ke ?_
   have hR111 := q2 hM74 (st10_69, st20_70) (by simp only [vd_each_Variables_2_L2, h87, cs4])
   refine KS ?_
   refine Oq Vadd (Oq Vm (KS ?_))
   exact Kg (r62, st10_69, st20_70, (v23_45 + 1), a72, k73) [0, 1, 2, 3, 3, 3, 3, 4, 5] ⟨(q3 hM48 (by simp only [vd_each_Variables_2_L1, h60, h87, hR111, cs4])), aM1, aM1, aM1, aM1, iv1⟩
  intro h60
  have g112 := df h60
  obtain rfl : r42 = 0 := by omega
  refine Ke ?_
  have hR113 := q2 hM48 (st10_43, st20_44) (by simp only [vd_each_Variables_2_L1, h60, cs4])
  refine KS ?_
  refine Oq Vadd (Oq Vm (KS ?_))
  exact Kg (r36, st10_43, st20_44, (v16_20 + 1), a46, k47) [0, 1, 2, 2, 2, 2, 3, 4] ⟨(q3 hM23 (by simp only [vd_each_Variables_2_L0, h34, h60, hR113, cs4])), aM1, aM1, aM1, aM1, iv1⟩
 intro h34
 have g114 := df h34
 obtain rfl : r17 = 0 := by omega
 refine Ke ?_
 have hR115 := q2 hM23 (st10_18, st20_19) (by simp only [vd_each_Variables_2_L0, h34, cs4])
 have hq := q4 hrr (st10_18, st20_19) (by simp only [vd_each_Variables_2, h10, h15, h34, hg8, hR115, cs4]); subst hq
 exact Kz (vl a21 k22 st20_19) rfl .nil [2, 2, 2, 0] en
theorem fn21 (p : GProgram) (pa0 : Option Addr) (pk0 : Nat) (kwLA : Option Addr) (kwLK : Nat) (hps : PSm p = true) (rr : List Str) (hrr : vd_Variables p = rr) : FT Tryz.prog 21 #[.agg #[vl pa0 pk0 p.Funcs]] [S pa0 pk0 p.Funcs, pv (gp 0) [vl kwLA kwLK kwL], S kwLA kwLK kwL] (fun g : Value => (rr.length ≤ 30000)) (fun g => g) (fun g => [sl g rr]) := by
 refine FTi Tryz.func21 fun w0 M0 F0 => Fb 40 0 fun _ => Fb 16 2 fun _ => ?_
 refine FoS 2 fun ho3 => ?_
 refine KS ?_
 refine Oa (Ab [vl pa0 pk0 p.Funcs]) fun p4 => Oq Va (KS ?_)
 refine Oa (Amp (κ := Str) (ν := Bool) (ek := vstr) (ev := vb) (ok := okStr)) fun p5 => ?_
 refine Jom 0 ?_; rintro b6 rfl
 refine Oa (Al ze84 [.map none]) fun p7 => Ost (Scl [0] sh84 [(mv b6)]) (KS ?_)
 refine Oa (Al ze35 [.slice none 0 0]) fun p8 => KS ?_
 refine Oq (Vf [p7, p8]) (Oa (Al ze91 [.nilFunc]) fun p9 => Ost (Scl [0] sh91 [.func (.func 44) #[] #[p7, p8]]) (KS ?_))
 refine Oq (VldA sh25 4) (Oq (Vf [p9]) ?_)
 refine Jl [] (Ent.osNil (α := Str)) ?_
 refine Jl [1] (Ent.freezeCl _ _) ?_
 refine letv (vd_each_Variables_2 p [] ([] : List Str)) fun rv11 hg12 => ?_
 have hc13 := fn45m1 p pa0 pk0 p7 [] (mv b6) p8 ([] : List Str) none 0 p9 kwLA kwLK pre pre rv11 hg12
 refine Oc [6, 3, 3, 2, 1, 0, 3, 4] ca45 hc13 ?_
 rintro c10 he14
 refine Jo 3 ?_; rintro a15 k16 rfl
 refine Fb 16 3 fun _ => ?_
 refine FoS 3 fun ho18 => ?_
 refine KS ?_
 refine Oq (Vld sh35 2) (Oq Va (KS ?_))
 refine Jl [3] (Ent.freeze _ _) ?_
 have hq := q4 hrr rv11.2 (by simp only [vd_Variables, hg12, cs4]); subst hq
 exact Kr (vl a15 k16 rv11.2) rfl (.tmp rfl .nil) [0] en
theorem fn40 (l : List GFunc) (la0 : Option Addr) (lk0 : Nat) (nameF : FuncId) (nameC : List Value) (namep : GFunc → Str) (nameA : List SP) (hnamec : callable Tryz.prog nameF = true) (hnameF : ∀ x0, ∀ (a0 : Option Addr) (k0 : Nat), x0.Name.b.length ≤ 140737488355328 → FT Tryz.prog nameF ([(.agg #[.string (bs x0.Name), vl a0 k0 x0.Blocks] : Value)] ++ nameC).toArray ([S a0 k0 x0.Blocks] ++ [pAll nameA]) (fun _ : Unit => (namep x0).b.length ≤ 140737488355328) (fun _ => .string (bs (namep x0))) (fun _ => [])) (rr : Int × (List (Str × Bool))) (hrr : vd_duplicate_Func l namep = rr) : FT Tryz.prog 40 #[vl la0 lk0 l, .func (.func nameF) #[] nameC.toArray] [S la0 lk0 l, pAll nameA] (fun g : Value => i64ok rr.1) (fun g => .tuple #[vi rr.1, g]) (fun g => [Mp vstr vb okStr g rr.2]) := by
 refine FTi Tryz.func40 fun w0 M0 F0 => Fb 40 0 fun _ => ?_
 refine KS ?_
 refine Oq Va (Oq Va (KS ?_))
 refine Oa (Amp (κ := Str) (ν := Bool) (ek := vstr) (ev := vb) (ok := okStr)) fun p2 => ?_
 refine Jom 0 ?_; rintro b3 rfl
 refine Oq Va (KS ?_)
 refine Oq Va (KS ?_)
 refine Oq Vm (Oq (Vlen sl23) (Oq Vm (KS ?_)))
 refine Kl (γ := Nat × (List (Str × Bool)) × Int × Int) (fun (r4, known_5, at__6, v13_7) => ⟨[(1, .func (.func nameF) #[] nameC.toArray), (6, (mv b3)), (7, vi at__6), (11, vl la0 lk0 l), (12, vi (l.length : Int)), (13, vi v13_7)], [Mp vstr vb okStr (mv b3) known_5, S la0 lk0 l, pAll nameA], vd_duplicate_Func_L0 l namep r4 known_5 at__6 v13_7 = vd_duplicate_Func_L0 l namep (((l.length : Int) - 0).toNat) [] (-1) 0 ∧ r4 = ((l.length : Int) - v13_7).toNat ∧ (0 : Int) ≤ v13_7 ∧ v13_7 ≤ (l.length : Int) ∧ (-9223372036854775808 ≤ at__6 ∧ at__6 ≤ 9223372036854775807) ∧ (-9223372036854775808 ≤ v13_7 ∧ v13_7 ≤ 9223372036854775807), r4⟩) (((l.length : Int) - 0).toNat, [], -1, 0) [0, 0, 1] ⟨rfl, rfl, aM1, aM1, aM1, aM1⟩ ?_
 rintro ⟨r4, known_5, at__6, v13_7⟩ ⟨hM8, hr9, hi10, hi11, hk12, hk13⟩
 refine JJ_nx fun _ _ hL hA => ?_; dsimp only at hL hA; subst hL hA
 refine Fb 40 1 fun _ => KS ?_
 refine Oq Vlss (KS ?_)
 refine Kc ?_ ?_
 ·intro h15
  have g16 := dt h15
  obtain ⟨r17, rfl⟩ := scc (n := r4) aM1
  refine KS ?_
  refine Oq Vm (Oq (Vi sl23 1) ?_)
  refine JJ_peek_GFunc v13_7.toNat 1 rfl rng fun a18 k19 hb20 => ?_
  refine Fb 40 1 fun _ => ?_
  refine Oq (VldA sh31 0) (Oa (Al ze31 [.string (bs (Str.mk [])), .slice none 0 0]) fun p22 => Oq Va (Ost (Scl [0] sh31 [.string (bs ((l.getD v13_7.toNat default).Name)), vl a18 k19 ((l.getD v13_7.toNat default).Blocks)]) (KS ?_)))
  refine Oq Vm (Oq Vm (Oq (VldA sh31 0) ?_))
  refine JO_call [2, 5] rfl rfl rfl (OpC.clo (asv := [(.agg #[.string (bs ((l.getD v13_7.toNat default).Name)), vl a18 k19 ((l.getD v13_7.toNat default).Blocks)] : Value)] ++ nameC) rfl rfl hnamec rfl (by simp)) (hnameF (l.getD v13_7.toNat default) a18 k19 pre) rfl fun _ he23 => ?_
  refine Oq (Vmk1 3 false mt84 (kStr un9) ze4 (ek := vstr) (ev := vb) (ok := okStr) (key := (namep (l.getD v13_7.toNat default))) pre) (Oq Vm ?_)
  refine Js 23 ?_ ?_
  ·intro h24
   refine Oq Vm (Oq Vlss (Oq Vpt (KS ?_)))
   refine Kc ?_ ?_
   ·intro h26
    have g27 := dt h26
    refine KS ?_
    refine Oq Vm (Oq Va (KS ?_))
    refine Oq Vm (Oq Vm (Oq (VldA sh31 0) ?_))
    refine JO_call [2, 5] rfl rfl rfl (OpC.clo (asv := [(.agg #[.string (bs ((l.getD v13_7.toNat default).Name)), vl a18 k19 ((l.getD v13_7.toNat default).Blocks)] : Value)] ++ nameC) rfl rfl hnamec rfl (by simp)) (hnameF (l.getD v13_7.toNat default) a18 k19 pre) rfl fun _ he28 => ?_
    refine Ost (Smp [3] mt84 (kStr un9) true (ek := vstr) (ev := vb) (ok := okStr) (key := (namep (l.getD v13_7.toNat default))) pre) (KS ?_)
    refine Oq Vadd (Oq Vm (KS ?_))
    exact Kg (r17, (mset known_5 (namep (l.getD v13_7.toNat default)) true), v13_7, (v13_7 + 1)) [0, 3, 4] ⟨(q3 hM8 (by simp only [vd_duplicate_Func_L0, h15, h24, h26, cs4])), aM1, aM1, aM1, aM1, aM1⟩
   intro h26
   have g29 := df h26
   refine KS ?_
   refine Oq Vm (Oq Vm (Oq (VldA sh31 0) ?_))
   refine JO_call [2, 5] rfl rfl rfl (OpC.clo (asv := [(.agg #[.string (bs ((l.getD v13_7.toNat default).Name)), vl a18 k19 ((l.getD v13_7.toNat default).Blocks)] : Value)] ++ nameC) rfl rfl hnamec rfl (by simp)) (hnameF (l.getD v13_7.toNat default) a18 k19 pre) rfl fun _ he30 => ?_
   refine Ost (Smp [3] mt84 (kStr un9) true (ek := vstr) (ev := vb) (ok := okStr) (key := (namep (l.getD v13_7.toNat default))) pre) (KS ?_)
   refine Oq Vadd (Oq Vm (KS ?_))
   exact Kg (r17, (mset known_5 (namep (l.getD v13_7.toNat default)) true), at__6, (v13_7 + 1)) [0, 3, 4] ⟨(q3 hM8 (by simp only [vd_duplicate_Func_L0, h15, h24, h26, cs4])), aM1, aM1, aM1, aM1, aM1⟩
  intro h24
  refine Osk (Osk (Oq Vpf (KS ?_)))
  refine Kf (KS ?_)
  refine Oq Vm (Oq Vm (Oq (VldA sh31 0) ?_))
  refine JO_call [2, 5] rfl rfl rfl (OpC.clo (asv := [(.agg #[.string (bs ((l.getD v13_7.toNat default).Name)), vl a18 k19 ((l.getD v13_7.toNat default).Blocks)] : Value)] ++ nameC) rfl rfl hnamec rfl (by simp)) (hnameF (l.getD v13_7.toNat default) a18 k19 pre) rfl fun _ he32 => ?_
  refine Ost (Smp [3] mt84 (kStr un9) true (ek := vstr) (ev := vb) (ok := okStr) (key := (namep (l.getD v13_7.toNat default))) pre) (KS ?_)
  refine Oq Vadd (Oq Vm (KS ?_))
  exact Kg (r17, (mset known_5 (namep (l.getD v13_7.toNat default)) true), at__6, (v13_7 + 1)) [0, 3, 4] ⟨(q3 hM8 (by simp only [vd_duplicate_Func_L0, h15, h24, cs4])), aM1, aM1, aM1, aM1, aM1⟩
 intro h15
 have g33 := df h15
 obtain rfl : r4 = 0 := by omega
 refine Ke ?_
 have hR34 := q2 hM8 (known_5, at__6) (by simp only [vd_duplicate_Func_L0, h15, cs4])
 refine KS ?_
 refine Oq Vm (Oq Vm (Oq Va (Oq Va (KS ?_))))
 have hq := q4 hrr (at__6, known_5) (by simp only [vd_duplicate_Func, h15, hR34, cs4]); subst hq
 exact Kr (mv b3) rfl (.tmp rfl (.tmp rfl .nil)) [0] en
theorem fn41 (f : GFunc) (fa1 : Option Addr) (fk1 : Nat) (hf_0 : f.Name.b.length ≤ 140737488355328) (rr : Str) (hrr : vd_Check_1 f = rr) : FT Tryz.prog 41 #[.agg #[.string (bs f.Name), vl fa1 fk1 f.Blocks]] [S fa1 fk1 f.Blocks] (fun g : Unit => rr.b.length ≤ 140737488355328) (fun g => .string (bs rr)) (fun g => []) := by
 refine FTi Tryz.func41 fun w0 M0 F0 => Fb 40 0 fun _ => ?_
 refine KS ?_
 refine Oa (Ab [.string (bs f.Name), vl fa1 fk1 f.Blocks]) fun p2 => Oq Va (KS ?_)
 refine Oq (Vfa fo31_0 0) (Oq (VldF sh9 0) (Oq Va (KS ?_)))
 have hq := q4 hrr f.Name (by simp only [vd_Check_1, cs4]); subst hq
 exact Kr () rfl (.tmp rfl .nil) [] en
theorem fn72 (l : List GBlock) (la0 : Option Addr) (lk0 : Nat) (nameF : FuncId) (nameC : List Value) (namep : GBlock → Str) (nameA : List SP) (hnamec : callable Tryz.prog nameF = true) (hnameF : ∀ x0, ∀ (a0 : Option Addr) (k0 : Nat), x0.Name.b.length ≤ 140737488355328 → FT Tryz.prog nameF ([(.agg #[.string (bs x0.Name), vl a0 k0 x0.Stmts] : Value)] ++ nameC).toArray ([S a0 k0 x0.Stmts] ++ [pAll nameA]) (fun _ : Unit => (namep x0).b.length ≤ 140737488355328) (fun _ => .string (bs (namep x0))) (fun _ => [])) (rr : Int × (List (Str × Bool))) (hrr : vd_duplicate_Block l namep = rr) : FT Tryz.prog 72 #[vl la0 lk0 l, .func (.func nameF) #[] nameC.toArray] [S la0 lk0 l, pAll nameA] (fun g : Value => i64ok rr.1) (fun g => .tuple #[vi rr.1, g]) (fun g => [Mp vstr vb okStr g rr.2]) := by
 refine FTi Tryz.func72 fun w0 M0 F0 => Fb 40 0 fun _ => ?_
 refine KS ?_
 refine Oq Va (Oq Va (KS ?_))
 refine Oa (Amp (κ := Str) (ν := Bool) (ek := vstr) (ev := vb) (ok := okStr)) fun p2 => ?_
 refine Jom 0 ?_; rintro b3 rfl
 refine Oq Va (KS ?_)
 refine Oq Va (KS ?_)
 refine Oq Vm (Oq (Vlen sl29) (Oq Vm (KS ?_)))
 refine Kl (γ := Nat × (List (Str × Bool)) × Int × Int) (fun (r4, known_5, at__6, v13_7) => ⟨[(1, .func (.func nameF) #[] nameC.toArray), (6, (mv b3)), (7, vi at__6), (11, vl la0 lk0 l), (12, vi (l.length : Int)), (13, vi v13_7)], [Mp vstr vb okStr (mv b3) known_5, S la0 lk0 l, pAll nameA], vd_duplicate_Block_L0 l namep r4 known_5 at__6 v13_7 = vd_duplicate_Block_L0 l namep (((l.length : Int) - 0).toNat) [] (-1) 0 ∧ r4 = ((l.length : Int) - v13_7).toNat ∧ (0 : Int) ≤ v13_7 ∧ v13_7 ≤ (l.length : Int) ∧ (-9223372036854775808 ≤ at__6 ∧ at__6 ≤ 9223372036854775807) ∧ (-9223372036854775808 ≤ v13_7 ∧ v13_7 ≤ 9223372036854775807), r4⟩) (((l.length : Int) - 0).toNat, [], -1, 0) [0, 0, 1] ⟨rfl, rfl, aM1, aM1, aM1, aM1⟩ ?_
 rintro ⟨r4, known_5, at__6, v13_7⟩ ⟨hM8, hr9, hi10, hi11, hk12, hk13⟩
 refine JJ_nx fun _ _ hL hA => ?_; dsimp only at hL hA; subst hL hA
 refine Fb 40 1 fun _ => KS ?_
 refine Oq Vlss (KS ?_)
 refine Kc ?_ ?_
 ·intro h15
  have g16 := dt h15
  obtain ⟨r17, rfl⟩ := scc (n := r4) aM1
  refine KS ?_
  refine Oq Vm (Oq (Vi sl29 1) ?_)
  refine JJ_peek_GBlock v13_7.toNat 1 rfl rng fun a18 k19 hb20 => ?_
  refine Fb 72 1 fun _ => ?_
  refine Oq (VldA sh34 0) (Oa (Al ze34 [.string (bs (Str.mk [])), .slice none 0 0]) fun p22 => Oq Va (Ost (Scl [0] sh34 [.string (bs ((l.getD v13_7.toNat default).Name)), vl a18 k19 ((l.getD v13_7.toNat default).Stmts)]) (KS ?_)))
  refine Oq Vm (Oq Vm (Oq (VldA sh34 0) ?_))
  refine JO_call [2, 5] rfl rfl rfl (OpC.clo (asv := [(.agg #[.string (bs ((l.getD v13_7.toNat default).Name)), vl a18 k19 ((l.getD v13_7.toNat default).Stmts)] : Value)] ++ nameC) rfl rfl hnamec rfl (by simp)) (hnameF (l.getD v13_7.toNat default) a18 k19 pre) rfl fun _ he23 => ?_
  refine Oq (Vmk1 3 false mt84 (kStr un9) ze4 (ek := vstr) (ev := vb) (ok := okStr) (key := (namep (l.getD v13_7.toNat default))) pre) (Oq Vm ?_)
  refine Js 23 ?_ ?_
  ·intro h24
   refine Oq Vm (Oq Vlss (Oq Vpt (KS ?_)))
   refine Kc ?_ ?_
   ·intro h26
    have g27 := dt h26
    refine KS ?_
    refine Oq Vm (Oq Va (KS ?_))
    refine Oq Vm (Oq Vm (Oq (VldA sh34 0) ?_))
    refine JO_call [2, 5] rfl rfl rfl (OpC.clo (asv := [(.agg #[.string (bs ((l.getD v13_7.toNat default).Name)), vl a18 k19 ((l.getD v13_7.toNat default).Stmts)] : Value)] ++ nameC) rfl rfl hnamec rfl (by simp)) (hnameF (l.getD v13_7.toNat default) a18 k19 pre) rfl fun _ he28 => ?_
    refine Ost (Smp [3] mt84 (kStr un9) true (ek := vstr) (ev := vb) (ok := okStr) (key := (namep (l.getD v13_7.toNat default))) pre) (KS ?_)
    refine Oq Vadd (Oq Vm (KS ?_))
    exact Kg (r17, (mset known_5 (namep (l.getD v13_7.toNat default)) true), v13_7, (v13_7 + 1)) [0, 3, 4] ⟨(q3 hM8 (by simp only [vd_duplicate_Block_L0, h15, h24, h26, cs4])), aM1, aM1, aM1, aM1, aM1⟩
   intro h26
   have g29 := df h26
   refine KS ?_
   refine Oq Vm (Oq Vm (Oq (VldA sh34 0) ?_))
   refine JO_call [2, 5] rfl rfl rfl (OpC.clo (asv := [(.agg #[.string (bs ((l.getD v13_7.toNat default).Name)), vl a18 k19 ((l.getD v13_7.toNat default).Stmts)] : Value)] ++ nameC) rfl rfl hnamec rfl (by simp)) (hnameF (l.getD v13_7.toNat default) a18 k19 pre) rfl fun _ he30 => ?_
   refine Ost (Smp [3] mt84 (kStr un9) true (ek := vstr) (ev := vb) (ok := okStr) (key := (namep (l.getD v13_7.toNat default))) pre) (KS ?_)
   refine Oq Vadd (Oq Vm (KS ?_))
   exact Kg (r17, (mset known_5 (namep (l.getD v13_7.toNat default)) true), at__6, (v13_7 + 1)) [0, 3, 4] ⟨(q3 hM8 (by simp only [vd_duplicate_Block_L0, h15, h24, h26, cs4])), aM1, aM1, aM1, aM1, aM1⟩
  intro h24
  refine Osk (Osk (Oq Vpf (KS ?_)))
  refine Kf (KS ?_)
  refine Oq Vm (Oq Vm (Oq (VldA sh34 0) ?_))
  refine JO_call [2, 5] rfl rfl rfl (OpC.clo (asv := [(.agg #[.string (bs ((l.getD v13_7.toNat default).Name)), vl a18 k19 ((l.getD v13_7.toNat default).Stmts)] : Value)] ++ nameC) rfl rfl hnamec rfl (by simp)) (hnameF (l.getD v13_7.toNat default) a18 k19 pre) rfl fun _ he32 => ?_
  refine Ost (Smp [3] mt84 (kStr un9) true (ek := vstr) (ev := vb) (ok := okStr) (key := (namep (l.getD v13_7.toNat default))) pre) (KS ?_)
  refine Oq Vadd (Oq Vm (KS ?_))
  exact Kg (r17, (mset known_5 (namep (l.getD v13_7.toNat default)) true), at__6, (v13_7 + 1)) [0, 3, 4] ⟨(q3 hM8 (by simp only [vd_duplicate_Block_L0, h15, h24, cs4])), aM1, aM1, aM1, aM1, aM1⟩
 intro h15
 have g33 := df h15
 obtain rfl : r4 = 0 := by omega
 refine Ke ?_
 have hR34 := q2 hM8 (known_5, at__6) (by simp only [vd_duplicate_Block_L0, h15, cs4])
 refine KS ?_
 refine Oq Vm (Oq Vm (Oq Va (Oq Va (KS ?_))))
 have hq := q4 hrr (at__6, known_5) (by simp only [vd_duplicate_Block, h15, hR34, cs4]); subst hq
 exact Kr (mv b3) rfl (.tmp rfl (.tmp rfl .nil)) [0] en
theorem fn73 (b : GBlock) (ba1 : Option Addr) (bk1 : Nat) (hb_0 : b.Name.b.length ≤ 140737488355328) (rr : Str) (hrr : vd_function_1 b = rr) : FT Tryz.prog 73 #[.agg #[.string (bs b.Name), vl ba1 bk1 b.Stmts]] [S ba1 bk1 b.Stmts] (fun g : Unit => rr.b.length ≤ 140737488355328) (fun g => .string (bs rr)) (fun g => []) := by
 refine FTi Tryz.func73 fun w0 M0 F0 => Fb 72 0 fun _ => ?_
 refine KS ?_
 refine Oa (Ab [.string (bs b.Name), vl ba1 bk1 b.Stmts]) fun p2 => Oq Va (KS ?_)
 refine Oq (Vfa fo34_0 0) (Oq (VldF sh9 0) (Oq Va (KS ?_)))
 have hq := q4 hrr b.Name (by simp only [vd_function_1, cs4]); subst hq
 exact Kr () rfl (.tmp rfl .nil) [] en
theorem fn106 (s : GStmt) (sa2 : Option Addr) (sk2 : Nat) (sa3 : Option Addr) (sk3 : Nat) (hs_0 : i64ok s.Op) (hs_1 : s.Def.b.length ≤ 140737488355328) (rr : Bool) (hrr : vd_terminator s = rr) : FT Tryz.prog 106 #[.agg #[vi s.Op, .string (bs s.Def), vl sa2 sk2 s.Uses, vl sa3 sk3 s.Targets]] [S sa2 sk2 s.Uses, S sa3 sk3 s.Targets] (fun g : Unit => True) (fun g => vb rr) (fun g => []) := by
 refine FTi Tryz.func106 fun w0 M0 F0 => ?_
 unfold i64ok at hs_0
 refine Fb 16 0 fun _ => ?_
 refine FoS 0 fun ho2 => ?_
 refine Fb 16 1 fun _ => ?_
 refine FoS 1 fun ho4 => ?_
 refine KS ?_
 refine Oa (Ab [vi s.Op, .string (bs s.Def), vl sa2 sk2 s.Uses, vl sa3 sk3 s.Targets]) fun p5 => Oq Va (KS ?_)
 refine Oq (Vfa fo37_0 0) (Oq (VldF sh3 0) (Oq Veql (Oq Vm ?_)))
 refine Js 6 ?_ ?_
 ·intro h6
  have g7 := eq_of_beq h6
  refine Osk (Osk (Osk (Oq Vpt (Oq Vm (Osk (Osk (Osk (Oq Vpt (Oq Va ?_)))))))))
  refine KS ?_
  have hq := q4 hrr true (by simp only [vd_terminator, h6, cs4]); subst hq
  exact Kr () rfl (.tmp rfl .nil) [] trivial
 intro h6
 have g8 := ne_of_beq_false h6
 refine Oq (Vfa fo37_0 0) (Oq (VldF sh3 0) (Oq Veql (Oq Vpf (Oq Vm ?_))))
 refine Js 11 ?_ ?_
 ·intro h9
  have g10 := eq_of_beq h9
  refine Osk (Osk (Osk (Oq Vpt (Oq Va (KS ?_)))))
  have hq := q4 hrr true (by simp only [vd_terminator, h6, h9, cs4]); subst hq
  exact Kr () rfl (.tmp rfl .nil) [] trivial
 intro h9
 have g11 := ne_of_beq_false h9
 refine Oq (Vfa fo37_0 0) (Oq (VldF sh3 0) (Oq Veql (Oq Vpf (Oq Va (KS ?_)))))
 have hq := q4 hrr (s.Op == 9) (by simp only [vd_terminator, h6, h9, cs4]); subst hq
 exact Kr () rfl (.tmp rfl .nil) [] trivial
theorem fn74 (s : GStmt) (sa2 : Option Addr) (sk2 : Nat) (sa3 : Option Addr) (sk3 : Nat) (last : Bool) (knownP : Value) (known : List (Str × Bool)) (hs_0 : i64ok s.Op) (hs_1 : s.Def.b.length ≤ 140737488355328) (rr : Int) (hrr : vd_statement s last known = rr) : FT Tryz.prog 74 #[.agg #[vi s.Op, .string (bs s.Def), vl sa2 sk2 s.Uses, vl sa3 sk3 s.Targets], vb last, knownP] [S sa2 sk2 s.Uses, S sa3 sk3 s.Targets, Mp vstr vb okStr knownP known] (fun g : Unit => i64ok rr) (fun g => vi rr) (fun g => [Mp vstr vb okStr knownP known]) := by
 refine FTi Tryz.func74 fun w0 M0 F0 => ?_
 unfold i64ok at hs_0
 refine Fb 16 0 fun _ => ?_
 refine FoS 0 fun ho2 => ?_
 refine Fb 16 1 fun _ => ?_
 refine FoS 1 fun ho4 => ?_
 refine KS ?_
 refine Oa (Ab [vi s.Op, .string (bs s.Def), vl sa2 sk2 s.Uses, vl sa3 sk3 s.Targets]) fun p5 => Oq Va (KS ?_)
 refine Oq (VldA sh37 0) ?_
 refine letv (vd_terminator s) fun rv6 hg7 => ?_
 have hc8 := fn106 s sa2 sk2 sa3 sk3 pre pre rv6 hg7
 refine Oc [1, 2] ca106 hc8 ?_
 rintro - -
 refine Oq Vm (Oq (Vnb un4) (KS ?_))
 refine Kc ?_ ?_
 ·intro h9
  refine KS ?_
  refine Oq Va (KS ?_)
  have hq := q4 hrr 4 (by simp only [vd_statement, h9, hg7, cs4]); subst hq
  exact Kr () rfl (.tmp rfl .nil) [3] en
 intro h9
 refine KS ?_
 refine Oq (Vfa fo37_3 0) (Oq (VldF sh35 0) (Oq (Vlen sl35) (Oq Vm (KS ?_))))
 refine Kl (γ := Nat × Int) (fun (r12, v16_13) => ⟨[(2, knownP), (14, vl sa3 sk3 s.Targets), (15, vi (s.Targets.length : Int)), (16, vi v16_13)], [S sa3 sk3 s.Targets, Mp vstr vb okStr knownP known], vd_statement_L0 s known r12 v16_13 = vd_statement_L0 s known (((s.Targets.length : Int) - 0).toNat) 0 ∧ r12 = ((s.Targets.length : Int) - v16_13).toNat ∧ (0 : Int) ≤ v16_13 ∧ v16_13 ≤ (s.Targets.length : Int) ∧ (-9223372036854775808 ≤ v16_13 ∧ v16_13 ≤ 9223372036854775807), r12⟩) (((s.Targets.length : Int) - 0).toNat, 0) [2, 3] ⟨rfl, rfl, aM1, aM1, aM1⟩ ?_
 rintro ⟨r12, v16_13⟩ ⟨hM14, hr15, hi16, hi17, hk18⟩
 refine JJ_nx fun _ _ hL hA => ?_; dsimp only at hL hA; subst hL hA
 refine Fb 16 0 fun _ => ?_
 refine FoS 0 fun ho20 => ?_
 refine KS ?_
 refine Oq Vlss (KS ?_)
 refine Kc ?_ ?_
 ·intro h21
  have g22 := dt h21
  obtain ⟨r23, rfl⟩ := scc (n := r12) aM1
  refine KS ?_
  refine Oq (Vi sl35 0) ?_
  have hb24 := okS (i := v16_13.toNat) ho20 rng
  refine Oq (VldS sh9 0) (Oq Va (KS ?_))
  refine Oq Vm (Oq Vm (Oq (Vmk1 1 false mt84 (kStr un9) ze4 (ek := vstr) (ev := vb) (ok := okStr) (key := (s.Targets.getD v16_13.toNat default)) pre) (Oq Vnot (KS ?_))))
  refine Kc ?_ ?_
  ·intro h25
   have h27 := not_true h25
   refine KS ?_
   refine Oq Va (KS ?_)
   have hR29 := q2 hM14 (.ret 5) (by simp only [vd_statement_L0, h21, h25, h27, cs4])
   have hq := q4 hrr 5 (by simp only [vd_statement, h9, h21, h25, h27, hg7, hR29, cs4]); subst hq
   exact Kr () rfl (.tmp rfl .nil) [1] en
  intro h25
  have h31 := not_false h25
  refine KS ?_
  refine Oq Vadd (Oq Vm (KS ?_))
  exact Kg (r23, (v16_13 + 1)) [0, 1] ⟨(q3 hM14 (by simp only [vd_statement_L0, h21, h25, h31, cs4])), aM1, aM1, aM1, aM1⟩
 intro h21
 have g33 := df h21
 obtain rfl : r12 = 0 := by omega
 refine Ke ?_
 have hR34 := q2 hM14 (.brk ()) (by simp only [vd_statement_L0, h21, cs4])
 refine KS ?_
 refine Oq Va (KS ?_)
 have hq := q4 hrr 0 (by simp only [vd_statement, h9, h21, hg7, hR34, cs4]); subst hq
 exact Kr () rfl (.tmp rfl .nil) [1] en
theorem fn42 (f : GFunc) (fa1 : Option Addr) (fk1 : Nat) (i : Int) (funcsP : Value) (funcs : List (Str × Bool)) (hf_0 : f.Name.b.length ≤ 140737488355328) (hi_0 : i64ok i) (rr : GNode × Int) (hrr : vd_function f i funcs = rr) : FT Tryz.prog 42 #[.agg #[.string (bs f.Name), vl fa1 fk1 f.Blocks], vi i, funcsP] [S fa1 fk1 f.Blocks, Mp vstr vb okStr funcsP funcs] (fun g : Unit => i64ok rr.1.Kind ∧ i64ok rr.1.Func ∧ i64ok rr.1.Block ∧ i64ok rr.1.Stmt ∧ i64ok rr.2) (fun g => .tuple #[.agg #[vi rr.1.Kind, vi rr.1.Func, vi rr.1.Block, vi rr.1.Stmt], vi rr.2]) (fun g => [Mp vstr vb okStr funcsP funcs]) := by
 refine FTi Tryz.func42 fun w0 M0 F0 => ?_
 unfold i64ok at hi_0
 refine Fb 40 0 fun _ => KS ?_
 refine Oa (Ab [.string (bs f.Name), vl fa1 fk1 f.Blocks]) fun p2 => Oa (Al ze63 [vi 0, vi 0, vi 0, vi 0]) fun p3 => Oq Va (KS ?_)
 refine Oq (Vfa fo31_1 1) (Oq (VldF sh29 1) ?_)
 refine JJ_ent (Ent.pall [] rfl rfl) ?_
 refine letv (vd_duplicate_Block f.Blocks (fun x0 => vd_function_1 x0)) fun rv5 hg6 => ?_
 have hc7 := fn72 f.Blocks fa1 fk1 73 [] (fun x0 => vd_function_1 x0) [] ca73 (fun x0 a0 k0 hq0 => FT_pall (A1 := _) (fn73 x0 a0 k0  hq0 _ rfl)) rv5 hg6
 refine Oc [3, 0] ca72 hc7 ?_
 rintro c4 he8
 unfold i64ok at he8
 refine Jom 0 ?_; rintro b9 rfl
 refine Oq Vm (Oq Vx (Oq Vx (Oq Va (Oq Va (KS ?_)))))
 refine Oq Vm (Oq Vgeq (KS ?_))
 refine Kc ?_ ?_
 ·intro h10
  have g11 := dt h10
  refine KS ?_
  refine Oq Vm (Oq Vm (Oq (Vbd st63 [vi 3, vi i, vi rv5.1, vi (-1)]) (Ost (Scl [2] sh63 [vi 3, vi i, vi rv5.1, vi (-1)]) (Oq Va (KS ?_)))))
  have hq := q4 hrr ((GNode.mk 3 i rv5.1 (-1)), 6) (by simp only [vd_function, h10, hg6, cs4]); subst hq
  exact Kr () rfl (.cellN 0 rfl sh63 rfl (reads_Cl _ _) rfl (.tmp rfl .nil)) [5] en
 intro h10
 have g12 := df h10
 refine KS ?_
 refine Oq (Vfa fo31_1 3) (Oq (VldF sh29 3) (Oq (Vlen sl29) (Oq Vm (KS ?_))))
 refine Kl (γ := Nat × Int) (fun (r13, v30_14) => ⟨[(1, vi i), (2, funcsP), (6, p3), (9, (mv b9)), (28, vl fa1 fk1 f.Blocks), (29, vi (f.Blocks.length : Int)), (30, vi v30_14)], [Mp vstr vb okStr (mv b9) rv5.2, pAll [], Cl p3 [vi 0, vi 0, vi 0, vi 0], S fa1 fk1 f.Blocks, Mp vstr vb okStr funcsP funcs], vd_function_L0 f i funcs rv5.2 r13 v30_14 = vd_function_L0 f i funcs rv5.2 (((f.Blocks.length : Int) - 0).toNat) 0 ∧ r13 = ((f.Blocks.length : Int) - v30_14).toNat ∧ (0 : Int) ≤ v30_14 ∧ v30_14 ≤ (f.Blocks.length : Int) ∧ (-9223372036854775808 ≤ v30_14 ∧ v30_14 ≤ 9223372036854775807), r13⟩) (((f.Blocks.length : Int) - 0).toNat, 0) [0, 0, 1, 2, 3] ⟨rfl, rfl, aM1, aM1, aM1⟩ ?_
 rintro ⟨r13, v30_14⟩ ⟨hM15, hr16, hi17, hi18, hk19⟩
 refine JJ_nx fun _ _ hL hA => ?_; dsimp only at hL hA; subst hL hA
 refine Fb 40 3 fun _ => KS ?_
 refine Oq Vlss (KS ?_)
 refine Kc ?_ ?_
 ·intro h21
  have g22 := dt h21
  obtain ⟨r23, rfl⟩ := scc (n := r13) aM1
  refine KS ?_
  refine Oq Vm (Oq (Vi sl29 3) ?_)
  refine JJ_peek_GBlock v30_14.toNat 3 rfl rng fun a24 k25 hb26 => ?_
  refine Fb 72 1 fun _ => ?_
  refine Oq (VldA sh34 0) (Oa (Al ze34 [.string (bs (Str.mk [])), .slice none 0 0]) fun p28 => Oq Va (Ost (Scl [0] sh34 [.string (bs ((f.Blocks.getD v30_14.toNat default).Name)), vl a24 k25 ((f.Blocks.getD v30_14.toNat default).Stmts)]) (KS ?_)))
  refine Oq (Vfa fo34_1 0) (Oq (VldF sh32 0) (Oq (Vlen sl32) (Oq Vm (KS ?_))))
  refine Kl (γ := Nat × Int) (fun (r29, v38_30) => ⟨[(1, vi i), (2, funcsP), (6, p3), (9, (mv b9)), (28, vl fa1 fk1 f.Blocks), (29, vi (f.Blocks.length : Int)), (30, vi v30_14), (11, p28), (10, vi v30_14), (36, vl a24 k25 ((f.Blocks.getD v30_14.toNat default).Stmts)), (37, vi (((f.Blocks.getD v30_14.toNat default).Stmts).length : Int)), (38, vi v38_30)], [Cl p28 [.string (bs ((f.Blocks.getD v30_14.toNat default).Name)), vl a24 k25 ((f.Blocks.getD v30_14.toNat default).Stmts)], S a24 k25 ((f.Blocks.getD v30_14.toNat default).Stmts), Mp vstr vb okStr (mv b9) rv5.2, pAll [], Cl p3 [vi 0, vi 0, vi 0, vi 0], S fa1 fk1 f.Blocks, Mp vstr vb okStr funcsP funcs], vd_function_L1 i funcs rv5.2 v30_14 ((f.Blocks.getD v30_14.toNat default).Stmts) ((f.Blocks.getD v30_14.toNat default).Stmts) r29 v38_30 = vd_function_L1 i funcs rv5.2 v30_14 ((f.Blocks.getD v30_14.toNat default).Stmts) ((f.Blocks.getD v30_14.toNat default).Stmts) ((((((f.Blocks.getD v30_14.toNat default).Stmts).length : Int) : Int) - 0).toNat) 0 ∧ r29 = (((((f.Blocks.getD v30_14.toNat default).Stmts).length : Int) : Int) - v38_30).toNat ∧ (0 : Int) ≤ v38_30 ∧ (v38_30 ≤ (((f.Blocks.getD v30_14.toNat default).Stmts).length : Int) ∨ v38_30 = 0) ∧ (-9223372036854775808 ≤ v38_30 ∧ v38_30 ≤ 9223372036854775807), r29⟩) ((((((f.Blocks.getD v30_14.toNat default).Stmts).length : Int) : Int) - 0).toNat, 0) [0, 1, 2, 2, 3, 3, 4] ⟨rfl, rfl, aM1, (.inr rfl), aM1⟩ ?_
  rintro ⟨r29, v38_30⟩ ⟨hM31, hr32, hi33, hi34, hk35⟩
  refine JJ_nx fun _ _ hL hA => ?_; dsimp only at hL hA; subst hL hA
  refine Fb 72 1 fun _ => Fb 40 5 fun _ => KS ?_
  refine Oq Vlss (KS ?_)
  refine Kc ?_ ?_
  ·intro h38
   have g39 := dt h38
   obtain ⟨r40, rfl⟩ := scc (n := r29) aM1
   refine KS ?_
   refine Oq Vm (Oq (Vi sl32 1) ?_)
   refine JJ_peek_GStmt v38_30.toNat 1 rfl rng fun a41 k42 a43 k44 hb45 hb46 => ?_
   unfold i64ok at hb45
   refine Fb 16 1 fun _ => ?_
   refine FoS 1 fun ho48 => ?_
   refine Fb 16 2 fun _ => ?_
   refine FoS 2 fun ho50 => ?_
   refine Oq (VldA sh37 0) (Oa (Al ze37 [vi 0, .string (bs (Str.mk [])), .slice none 0 0, .slice none 0 0]) fun p51 => Oq Va (Ost (Scl [0] sh37 [vi ((((f.Blocks.getD v30_14.toNat default).Stmts).getD v38_30.toNat default).Op), .string (bs ((((f.Blocks.getD v30_14.toNat default).Stmts).getD v38_30.toNat default).Def)), .slice a41 (((((f.Blocks.getD v30_14.toNat default).Stmts).getD v38_30.toNat default).Uses).length) k42, .slice a43 (((((f.Blocks.getD v30_14.toNat default).Stmts).getD v38_30.toNat default).Targets).length) k44]) (KS ?_)))
   refine Oq Vm (Oq Va (KS ?_))
   refine Oq (Vfa fo37_0 0) (Oq (VldF sh3 0) (Oq Veql (KS ?_)))
   refine Kc ?_ ?_
   ·intro h52
    have g53 := eq_of_beq h52
    refine KS ?_
    refine Oq Vm (Oq Va (KS ?_))
    refine Oq (VldA sh37 0) (Oq Vm (Oq (Vfa fo34_1 4) (Oq (VldF sh32 4) (Oq (Vlen sl32) (Oq Vsub (Oq Veql (Oq Vm ?_)))))))
    refine letv (vd_statement (((f.Blocks.getD v30_14.toNat default).Stmts).getD v38_30.toNat default) (v38_30 == ((((f.Blocks.getD v30_14.toNat default).Stmts).length : Int) - 1)) funcs) fun rv54 hg55 => ?_
    have hc56 := fn74 ((((f.Blocks.getD v30_14.toNat default).Stmts).getD v38_30.toNat default)) a41 k42 a43 k44 ((v38_30 == ((((f.Blocks.getD v30_14.toNat default).Stmts).length : Int) - 1))) funcsP funcs pre pre rv54 hg55
    refine Oc [2, 3, 10] ca74 hc56 ?_
    rintro - he57
    unfold i64ok at he57
    refine Oq Va (KS ?_)
    refine Oq Vm (Oq Vneq (KS ?_))
    refine Kc ?_ ?_
    ·intro h58
     have g59 := ne_of_bne h58
     refine KS ?_
     refine Oq Vm (Oq Vm (Oq Vm (Oq (Vbd st63 [vi 3, vi i, vi v30_14, vi v38_30]) (Oq Vm (Ost (Scl [9] sh63 [vi 3, vi i, vi v30_14, vi v38_30]) (Oq Va (KS ?_)))))))
     have hR60 := q2 hM31 (.ret ((GNode.mk 3 i v30_14 v38_30), rv54)) (by simp only [vd_function_L1, h38, h52, h58, hg55, cs4])
     have hR61 := q2 hM15 (.ret ((GNode.mk 3 i v30_14 v38_30), rv54)) (by simp only [vd_function_L0, h21, h38, h52, h58, hg55, hR60, cs4])
     have hq := q4 hrr ((GNode.mk 3 i v30_14 v38_30), rv54) (by simp only [vd_function, h10, h21, h38, h52, h58, hg6, hg55, hR60, hR61, cs4]); subst hq
     exact Kr () rfl (.cellN 0 rfl sh63 rfl (reads_Cl _ _) rfl (.tmp rfl .nil)) [1] en
    intro h58
    have g62 := eq_of_bne_false h58
    refine KS ?_
    refine Oq Vadd (Oq Vm (KS ?_))
    exact Kg (r40, (v38_30 + 1)) [5, 5, 6, 6, 7, 7, 0] ⟨(q3 hM31 (by simp only [vd_function_L1, h38, h52, h58, hg55, cs4])), aM1, aM1, aM1, aM1⟩
   intro h52
   have g63 := ne_of_beq_false h52
   refine KS ?_
   refine Oq (VldA sh37 0) (Oq Vm (Oq (Vfa fo34_1 4) (Oq (VldF sh32 4) (Oq (Vlen sl32) (Oq Vsub (Oq Veql (Oq Vm ?_)))))))
   refine letv (vd_statement (((f.Blocks.getD v30_14.toNat default).Stmts).getD v38_30.toNat default) (v38_30 == ((((f.Blocks.getD v30_14.toNat default).Stmts).length : Int) - 1)) rv5.2) fun rv64 hg65 => ?_
   have hc66 := fn74 ((((f.Blocks.getD v30_14.toNat default).Stmts).getD v38_30.toNat default)) a41 k42 a43 k44 ((v38_30 == ((((f.Blocks.getD v30_14.toNat default).Stmts).length : Int) - 1))) (mv b9) rv5.2 pre pre rv64 hg65
   refine Oc [2, 3, 6] ca74 hc66 ?_
   rintro - he67
   unfold i64ok at he67
   refine Oq Va (KS ?_)
   refine Oq Vm (Oq Vneq (KS ?_))
   refine Kc ?_ ?_
   ·intro h68
    have g69 := ne_of_bne h68
    refine KS ?_
    refine Oq Vm (Oq Vm (Oq Vm (Oq (Vbd st63 [vi 3, vi i, vi v30_14, vi v38_30]) (Oq Vm (Ost (Scl [8] sh63 [vi 3, vi i, vi v30_14, vi v38_30]) (Oq Va (KS ?_)))))))
    have hR70 := q2 hM31 (.ret ((GNode.mk 3 i v30_14 v38_30), rv64)) (by simp only [vd_function_L1, h38, h52, h68, hg65, cs4])
    have hR71 := q2 hM15 (.ret ((GNode.mk 3 i v30_14 v38_30), rv64)) (by simp only [vd_function_L0, h21, h38, h52, h68, hg65, hR70, cs4])
    have hq := q4 hrr ((GNode.mk 3 i v30_14 v38_30), rv64) (by simp only [vd_function, h10, h21, h38, h52, h68, hg6, hg65, hR70, hR71, cs4]); subst hq
    exact Kr () rfl (.cellN 0 rfl sh63 rfl (reads_Cl _ _) rfl (.tmp rfl .nil)) [10] en
   intro h68
   have g72 := eq_of_bne_false h68
   refine KS ?_
   refine Oq Vadd (Oq Vm (KS ?_))
   exact Kg (r40, (v38_30 + 1)) [5, 5, 0, 5, 6, 6, 7] ⟨(q3 hM31 (by simp only [vd_function_L1, h38, h52, h68, hg65, cs4])), aM1, aM1, aM1, aM1⟩
  intro h38
  have g73 := df h38
  obtain rfl : r29 = 0 := by omega
  refine Ke ?_
  have hR74 := q2 hM31 (.brk ()) (by simp only [vd_function_L1, h38, cs4])
  refine KS ?_
  refine Oq Vadd (Oq Vm (KS ?_))
  exact Kg (r23, (v30_14 + 1)) [2, 2, 3, 3, 4] ⟨(q3 hM15 (by simp only [vd_function_L0, h21, h38, hR74, cs4])), aM1, aM1, aM1, aM1⟩
 intro h21
 have g75 := df h21
 obtain rfl : r13 = 0 := by omega
 refine Ke ?_
 have hR76 := q2 hM15 (.brk ()) (by simp only [vd_function_L0, h21, cs4])
 refine KS ?_
 refine Oq (Vbd st63 [vi 0, vi 0, vi 0, vi 0]) (Ost (Scl [2] sh63 [vi 0, vi 0, vi 0, vi 0]) (Oq Va (KS ?_)))
 have hq := q4 hrr ((GNode.mk 0 0 0 0), 0) (by simp only [vd_function, h10, h21, hg6, hR76, cs4]); subst hq
 exact Kr () rfl (.cellN 0 rfl sh63 rfl (reads_Cl _ _) rfl (.tmp rfl .nil)) [4] en
theorem fn75 (s : GStmt) (sa2 : Option Addr) (sk2 : Nat) (sa3 : Option Addr) (sk3 : Nat) (cap0P : Value) (cap0 : Int) (cap1P : Value) (cap1 : Int) (hs_0 : i64ok s.Op) (hs_1 : s.Def.b.length ≤ 140737488355328) (hcap0_0 : i64ok cap0) (hcap1_0 : i64ok cap1) (hn : 0 ≤ cap0 ∧ cap0 ≤ 100000 ∧ 0 ≤ cap1 ∧ cap1 ≤ 100000) (rr : Int × Int) (hrr : vd_Sizes_1 s cap0 cap1 = rr) : FT Tryz.prog 75 #[.agg #[vi s.Op, .string (bs s.Def), vl sa2 sk2 s.Uses, vl sa3 sk3 s.Targets], cap0P, cap1P] [S sa2 sk2 s.Uses, S sa3 sk3 s.Targets, Cl cap0P [vi cap0], Cl cap1P [vi cap1]] (fun g : Unit => i64ok rr.1 ∧ i64ok rr.2 ∧ (cap0 ≤ rr.1 ∧ rr.1 ≤ cap0 + 2 ∧ cap1 ≤ rr.2 ∧ rr.2 ≤ cap1 + 3)) (fun g => .tuple #[]) (fun g => [Cl cap0P [vi rr.1], Cl cap1P [vi rr.2]]) := by
 refine FTi Tryz.func75 fun w0 M0 F0 => ?_
 unfold i64ok at hs_0 hcap0_0 hcap1_0
 refine Fb 16 0 fun _ => ?_
 refine FoS 0 fun ho2 => ?_
 refine Fb 16 1 fun _ => ?_
 refine FoS 1 fun ho4 => ?_
 refine KS ?_
 refine Oa (Ab [vi s.Op, .string (bs s.Def), vl sa2 sk2 s.Uses, vl sa3 sk3 s.Targets]) fun p5 => KS ?_
 refine Oq (Vld sh3 3) (Oq Vadd (Ost (Scl [3] sh3 [vi (cap0 + 1)]) (KS ?_)))
 refine Oq (Vfa fo37_0 1) (Oq (VldF sh3 1) (KS ?_))
 refine Oq Veql (Oq Va (KS ?_))
 refine Kc ?_ ?_
 ·intro h6
  have g7 := eq_of_beq h6
  refine KS ?_
  refine Oq (Vld sh3 0) (Oq Vadd (Ost (Scl [0] sh3 [vi ((cap0 + 1) + 1)]) (KS ?_)))
  refine Oq (Vld sh3 4) (Oq Vadd (Ost (Scl [4] sh3 [vi (cap1 + 3)]) (KS ?_)))
  have hq := q4 hrr (((cap0 + 1) + 1), (cap1 + 3)) (by simp only [vd_Sizes_1, h6, cs4]); subst hq
  exact Kz () rfl .nil [1, 0] en
 intro h6
 have g8 := ne_of_beq_false h6
 refine KS ?_
 refine Oq Veql (Oq Va (KS ?_))
 refine Kc ?_ ?_
 ·intro h9
  have g10 := eq_of_beq h9
  refine KS ?_
  refine Oq (Vld sh3 4) (Oq Vadd (Ost (Scl [4] sh3 [vi (cap1 + 2)]) (KS ?_)))
  have hq := q4 hrr ((cap0 + 1), (cap1 + 2)) (by simp only [vd_Sizes_1, h6, h9, cs4]); subst hq
  exact Kz () rfl .nil [1, 0] en
 intro h9
 have g11 := ne_of_beq_false h9
 refine KS ?_
 refine Oq (Vld sh3 4) (Oq Vadd (Ost (Scl [4] sh3 [vi (cap1 + 1)]) (KS ?_)))
 have hq := q4 hrr ((cap0 + 1), (cap1 + 1)) (by simp only [vd_Sizes_1, h6, h9, cs4]); subst hq
 exact Kz () rfl .nil [1, 0] en
theorem fn45m0 (p : GProgram) (pa0 : Option Addr) (pk0 : Nat) (st0P : Value) (st0 : Int) (st1P : Value) (st1 : Int) (kwLA : Option Addr) (kwLK : Nat) (hst0_0 : i64ok st0) (hst1_0 : i64ok st1) (hps : PSm p = true) (hn : 0 ≤ st0 ∧ st0 ≤ 100 ∧ 0 ≤ st1 ∧ st1 ≤ 100) (rr : Int × Int) (hrr : vd_each_Sizes_1 p st0 st1 = rr) : FT Tryz.prog 45 #[.agg #[vl pa0 pk0 p.Funcs], .func (.func 75) #[] #[st0P, st1P]] [S pa0 pk0 p.Funcs, Cl st0P [vi st0], Cl st1P [vi st1], pv (gp 0) [vl kwLA kwLK kwL], S kwLA kwLK kwL] (fun g : Unit => i64ok rr.1 ∧ i64ok rr.2 ∧ (0 ≤ rr.1 ∧ rr.1 ≤ 10000 ∧ 0 ≤ rr.2 ∧ rr.2 ≤ 20000)) (fun g => .tuple #[]) (fun g => [Cl st0P [vi rr.1], Cl st1P [vi rr.2]]) := by
 refine FTi Tryz.func45 fun w0 M0 F0 => ?_
 unfold i64ok at hst0_0 hst1_0
 refine Fb 40 0 fun _ => Fb 16 4 fun _ => ?_
 refine FoS 4 fun ho3 => ?_
 refine KS ?_
 refine Oa (Ab [vl pa0 pk0 p.Funcs]) fun p4 => KS ?_
 refine Oq (VldA sh25 0) ?_
 refine letv (sx_Valid p) fun rv5 hg6 => ?_
 have hc7 := fn39 p pa0 pk0 kwLA kwLK pre rv5 hg6
 refine Oc [1, 4, 5] ca39 hc7 ?_
 rintro - -
 refine Oq Vnot (KS ?_)
 refine Kc ?_ ?_
 ·intro h8
  have h10 := not_true h8
  have hq := q4 hrr (st0, st1) (by simp only [vd_each_Sizes_1, h8, h10, hg6, cs4]); subst hq
  exact Kr () rfl .nil [2, 2] en
 intro h8
 have h13 := not_false h8
 try have hVb := SVal_b (p := p) (by simp only [h8, h13, hg6])
 refine KS ?_
 refine Oq (Vfa fo25_0 0) (Oq (VldF sh23 0) (Oq (Vlen sl23) (Oq Vm (KS ?_))))
 refine Kl (γ := Nat × Int × Int × Int) (fun (r15, st00_16, st10_17, v16_18) => ⟨[(1, .func (.func 75) #[] #[st0P, st1P]), (14, vl pa0 pk0 p.Funcs), (15, vi (p.Funcs.length : Int)), (16, vi v16_18)], [S pa0 pk0 p.Funcs, Cl st0P [vi st00_16], Cl st1P [vi st10_17], pv (gp 0) [vl kwLA kwLK kwL], S kwLA kwLK kwL], vd_each_Sizes_1_L0 p r15 st00_16 st10_17 v16_18 = vd_each_Sizes_1_L0 p (((p.Funcs.length : Int) - 0).toNat) st0 st1 0 ∧ r15 = ((p.Funcs.length : Int) - v16_18).toNat ∧ (0 : Int) ≤ v16_18 ∧ v16_18 ≤ (p.Funcs.length : Int) ∧ (-9223372036854775808 ≤ st00_16 ∧ st00_16 ≤ 9223372036854775807) ∧ (-9223372036854775808 ≤ st10_17 ∧ st10_17 ≤ 9223372036854775807) ∧ (-9223372036854775808 ≤ v16_18 ∧ v16_18 ≤ 9223372036854775807) ∧ (0 ≤ st00_16 ∧ st00_16 ≤ 100 + 1100 * v16_18) ∧ (0 ≤ st10_17 ∧ st10_17 ≤ 100 + 1600 * v16_18), r15⟩) (((p.Funcs.length : Int) - 0).toNat, st0, st1, 0) [1, 2, 2, 2, 3] ⟨rfl, rfl, aM1, aM1, aM1, aM1, aM1, iv0, iv0⟩ ?_
 rintro ⟨r15, st00_16, st10_17, v16_18⟩ ⟨hM19, hr20, hi21, hi22, hk23, hk24, hk25, hv26, hv27⟩
 refine JJ_nx fun _ _ hL hA => ?_; dsimp only at hL hA; subst hL hA
 refine Fb 40 0 fun _ => Fb 16 4 fun _ => ?_
 refine FoS 4 fun ho30 => ?_
 refine KS ?_
 refine Oq Vlss (KS ?_)
 refine Kc ?_ ?_
 ·intro h31
  have g32 := dt h31
  have hVf := hVb.2 v16_18.toNat
  obtain ⟨r33, rfl⟩ := scc (n := r15) aM1
  refine KS ?_
  refine Oq (Vi sl23 0) ?_
  refine JJ_peek_GFunc v16_18.toNat 0 rfl rng fun a34 k35 hb36 => ?_
  refine Fb 40 1 fun _ => ?_
  refine Oq (VldA sh31 0) (Oa (Al ze31 [.string (bs (Str.mk [])), .slice none 0 0]) fun p38 => Ost (Scl [0] sh31 [.string (bs ((p.Funcs.getD v16_18.toNat default).Name)), vl a34 k35 ((p.Funcs.getD v16_18.toNat default).Blocks)]) (KS ?_))
  refine Oq (Vfa fo31_1 0) (Oq (VldF sh29 0) (Oq (Vlen sl29) (Oq Vm (KS ?_))))
  refine Kl (γ := Nat × Int × Int × Int) (fun (r39, st00_40, st10_41, v23_42) => ⟨[(1, .func (.func 75) #[] #[st0P, st1P]), (14, vl pa0 pk0 p.Funcs), (15, vi (p.Funcs.length : Int)), (16, vi v16_18), (21, vl a34 k35 ((p.Funcs.getD v16_18.toNat default).Blocks)), (22, vi (((p.Funcs.getD v16_18.toNat default).Blocks).length : Int)), (23, vi v23_42)], [S a34 k35 ((p.Funcs.getD v16_18.toNat default).Blocks), S pa0 pk0 p.Funcs, Cl st0P [vi st00_40], Cl st1P [vi st10_41], pv (gp 0) [vl kwLA kwLK kwL], S kwLA kwLK kwL], vd_each_Sizes_1_L1 ((p.Funcs.getD v16_18.toNat default).Blocks) r39 st00_40 st10_41 v23_42 = vd_each_Sizes_1_L1 ((p.Funcs.getD v16_18.toNat default).Blocks) ((((((p.Funcs.getD v16_18.toNat default).Blocks).length : Int) : Int) - 0).toNat) st00_16 st10_17 0 ∧ r39 = (((((p.Funcs.getD v16_18.toNat default).Blocks).length : Int) : Int) - v23_42).toNat ∧ (0 : Int) ≤ v23_42 ∧ (v23_42 ≤ (((p.Funcs.getD v16_18.toNat default).Blocks).length : Int) ∨ v23_42 = 0) ∧ (-9223372036854775808 ≤ st00_40 ∧ st00_40 ≤ 9223372036854775807) ∧ (-9223372036854775808 ≤ st10_41 ∧ st10_41 ≤ 9223372036854775807) ∧ (-9223372036854775808 ≤ v23_42 ∧ v23_42 ≤ 9223372036854775807) ∧ (0 ≤ st00_40 ∧ st00_40 ≤ st00_16 + 66 * v23_42) ∧ (0 ≤ st10_41 ∧ st10_41 ≤ st10_17 + 98 * v23_42), r39⟩) ((((((p.Funcs.getD v16_18.toNat default).Blocks).length : Int) : Int) - 0).toNat, st00_16, st10_17, 0) [2, 3, 4, 4, 4, 5] ⟨rfl, rfl, aM1, (.inr rfl), aM1, aM1, aM1, iv0, iv0⟩ ?_
  rintro ⟨r39, st00_40, st10_41, v23_42⟩ ⟨hM43, hr44, hi45, hi46, hk47, hk48, hk49, hv50, hv51⟩
  refine JJ_nx fun _ _ hL hA => ?_; dsimp only at hL hA; subst hL hA
  refine Fb 40 0 fun _ => Fb 40 1 fun _ => Fb 16 5 fun _ => ?_
  refine FoS 5 fun ho55 => ?_
  refine KS ?_
  refine Oq Vlss (KS ?_)
  refine Kc ?_ ?_
  ·intro h56
   have g57 := dt h56
   have hVk := hVf.2 v23_42.toNat
   obtain ⟨r58, rfl⟩ := scc (n := r39) aM1
   refine KS ?_
   refine Oq (Vi sl29 0) ?_
   refine JJ_peek_GBlock v23_42.toNat 0 rfl rng fun a59 k60 hb61 => ?_
   refine Fb 72 1 fun _ => ?_
   refine Oq (VldA sh34 0) (Oa (Al ze34 [.string (bs (Str.mk [])), .slice none 0 0]) fun p63 => Ost (Scl [0] sh34 [.string (bs ((((p.Funcs.getD v16_18.toNat default).Blocks).getD v23_42.toNat default).Name)), .slice a59 (((((p.Funcs.getD v16_18.toNat default).Blocks).getD v23_42.toNat default).Stmts).length) k60]) (KS ?_))
   refine Oq (Vfa fo34_1 0) (Oq (VldF sh32 0) (Oq (Vlen sl32) (Oq Vm (KS ?_))))
   refine Kl (γ := Nat × Int × Int × Int) (fun (r64, st00_65, st10_66, v30_67) => ⟨[(1, .func (.func 75) #[] #[st0P, st1P]), (14, vl pa0 pk0 p.Funcs), (15, vi (p.Funcs.length : Int)), (16, vi v16_18), (21, vl a34 k35 ((p.Funcs.getD v16_18.toNat default).Blocks)), (22, vi (((p.Funcs.getD v16_18.toNat default).Blocks).length : Int)), (23, vi v23_42), (28, .slice a59 (((((p.Funcs.getD v16_18.toNat default).Blocks).getD v23_42.toNat default).Stmts).length) k60), (29, vi (((((p.Funcs.getD v16_18.toNat default).Blocks).getD v23_42.toNat default).Stmts).length : Int)), (30, vi v30_67)], [S a59 k60 ((((p.Funcs.getD v16_18.toNat default).Blocks).getD v23_42.toNat default).Stmts), S a34 k35 ((p.Funcs.getD v16_18.toNat default).Blocks), S pa0 pk0 p.Funcs, Cl st0P [vi st00_65], Cl st1P [vi st10_66], pv (gp 0) [vl kwLA kwLK kwL], S kwLA kwLK kwL], vd_each_Sizes_1_L2 ((((p.Funcs.getD v16_18.toNat default).Blocks).getD v23_42.toNat default).Stmts) r64 st00_65 st10_66 v30_67 = vd_each_Sizes_1_L2 ((((p.Funcs.getD v16_18.toNat default).Blocks).getD v23_42.toNat default).Stmts) ((((((((p.Funcs.getD v16_18.toNat default).Blocks).getD v23_42.toNat default).Stmts).length : Int) : Int) - 0).toNat) st00_40 st10_41 0 ∧ r64 = (((((((p.Funcs.getD v16_18.toNat default).Blocks).getD v23_42.toNat default).Stmts).length : Int) : Int) - v30_67).toNat ∧ (0 : Int) ≤ v30_67 ∧ (v30_67 ≤ (((((p.Funcs.getD v16_18.toNat default).Blocks).getD v23_42.toNat default).Stmts).length : Int) ∨ v30_67 = 0) ∧ (-9223372036854775808 ≤ st00_65 ∧ st00_65 ≤ 9223372036854775807) ∧ (-9223372036854775808 ≤ st10_66 ∧ st10_66 ≤ 9223372036854775807) ∧ (-9223372036854775808 ≤ v30_67 ∧ v30_67 ≤ 9223372036854775807) ∧ (0 ≤ st00_65 ∧ st00_65 ≤ st00_40 + 2 * v30_67) ∧ (0 ≤ st10_66 ∧ st10_66 ≤ st10_41 + 3 * v30_67), r64⟩) ((((((((p.Funcs.getD v16_18.toNat default).Blocks).getD v23_42.toNat default).Stmts).length : Int) : Int) - 0).toNat, st00_40, st10_41, 0) [2, 3, 4, 5, 5, 5, 6] ⟨rfl, rfl, aM1, (.inr rfl), aM1, aM1, aM1, iv0, iv0⟩ ?_
   rintro ⟨r64, st00_65, st10_66, v30_67⟩ ⟨hM68, hr69, hi70, hi71, hk72, hk73, hk74, hv75, hv76⟩
   refine JJ_nx fun _ _ hL hA => ?_; dsimp only at hL hA; subst hL hA
   refine Fb 72 0 fun _ => Fb 40 1 fun _ => Fb 40 2 fun _ => Fb 16 6 fun _ => ?_
   refine FoS 6 fun ho81 => ?_
   refine KS ?_
   refine Oq Vlss (KS ?_)
   refine Kc ?_ ?_
   ·intro h82
    have g83 := dt h82
    have hVs := hVk.2 v30_67.toNat
    obtain ⟨r84, rfl⟩ := scc (n := r64) aM1
    refine KS ?_
    refine Oq (Vi sl32 0) ?_
    refine JJ_peek_GStmt v30_67.toNat 0 rfl rng fun a85 k86 a87 k88 hb89 hb90 => ?_
    unfold i64ok at hb89
    refine Fb 16 1 fun _ => ?_
    refine FoS 1 fun ho92 => ?_
    refine Fb 16 2 fun _ => ?_
    refine FoS 2 fun ho94 => ?_
    refine Oq (VldA sh37 0) (Oa (Al ze37 [vi 0, .string (bs (Str.mk [])), .slice none 0 0, .slice none 0 0]) fun p95 => Ost (Scl [0] sh37 [vi ((((((p.Funcs.getD v16_18.toNat default).Blocks).getD v23_42.toNat default).Stmts).getD v30_67.toNat default).Op), .string (bs ((((((p.Funcs.getD v16_18.toNat default).Blocks).getD v23_42.toNat default).Stmts).getD v30_67.toNat default).Def)), .slice a85 (((((((p.Funcs.getD v16_18.toNat default).Blocks).getD v23_42.toNat default).Stmts).getD v30_67.toNat default).Uses).length) k86, .slice a87 (((((((p.Funcs.getD v16_18.toNat default).Blocks).getD v23_42.toNat default).Stmts).getD v30_67.toNat default).Targets).length) k88]) (KS ?_))
    refine Oq Vm (Oq (VldA sh37 0) ?_)
    refine letv (vd_Sizes_1 (((((p.Funcs.getD v16_18.toNat default).Blocks).getD v23_42.toNat default).Stmts).getD v30_67.toNat default) st00_65 st10_66) fun rv96 hg97 => ?_
    have hc98 := fn75 ((((((p.Funcs.getD v16_18.toNat default).Blocks).getD v23_42.toNat default).Stmts).getD v30_67.toNat default)) a85 k86 a87 k88 st0P st00_65 st1P st10_66 pre pre pre pre pre rv96 hg97
    refine JO_call [2, 3, 7, 7] rfl rfl rfl (OpC.clo (asv := [(.agg #[vi ((((((p.Funcs.getD v16_18.toNat default).Blocks).getD v23_42.toNat default).Stmts).getD v30_67.toNat default).Op), .string (bs ((((((p.Funcs.getD v16_18.toNat default).Blocks).getD v23_42.toNat default).Stmts).getD v30_67.toNat default).Def)), .slice a85 (((((((p.Funcs.getD v16_18.toNat default).Blocks).getD v23_42.toNat default).Stmts).getD v30_67.toNat default).Uses).length) k86, .slice a87 (((((((p.Funcs.getD v16_18.toNat default).Blocks).getD v23_42.toNat default).Stmts).getD v30_67.toNat default).Targets).length) k88] : Value), (st0P : Value), (st1P : Value)]) rfl rfl ca75 rfl (by simp)) hc98 rfl ?_
    rintro - ⟨he99, he100, he101⟩
    unfold i64ok at he99 he100
    refine KS ?_
    refine Oq Vadd (Oq Vm (KS ?_))
    exact Kg (r84, rv96.1, rv96.2, (v30_67 + 1)) [6, 7, 8, 0, 0, 7, 8] ⟨(q3 hM68 (by simp only [vd_each_Sizes_1_L2, h82, hg97, cs4])), aM1, aM1, aM1, aM1, aM1, aM1, iv1, iv1⟩
   intro h82
   have g102 := df h82
   obtain rfl : r64 = 0 := by omega
   refine Ke ?_
   have hR103 := q2 hM68 (st00_65, st10_66) (by simp only [vd_each_Sizes_1_L2, h82, cs4])
   refine KS ?_
   refine Oq Vadd (Oq Vm (KS ?_))
   exact Kg (r58, st00_65, st10_66, (v23_42 + 1)) [1, 2, 3, 3, 3, 4] ⟨(q3 hM43 (by simp only [vd_each_Sizes_1_L1, h56, h82, hR103, cs4])), aM1, aM1, aM1, aM1, aM1, aM1, iv1, iv1⟩
  intro h56
  have g104 := df h56
  obtain rfl : r39 = 0 := by omega
  refine Ke ?_
  have hR105 := q2 hM43 (st00_40, st10_41) (by simp only [vd_each_Sizes_1_L1, h56, cs4])
  refine KS ?_
  refine Oq Vadd (Oq Vm (KS ?_))
  exact Kg (r33, st00_40, st10_41, (v16_18 + 1)) [1, 2, 2, 2, 3] ⟨(q3 hM19 (by simp only [vd_each_Sizes_1_L0, h31, h56, hR105, cs4])), aM1, aM1, aM1, aM1, aM1, aM1, iv1, iv1⟩
 intro h31
 have g106 := df h31
 obtain rfl : r15 = 0 := by omega
 refine Ke ?_
 have hR107 := q2 hM19 (st00_16, st10_17) (by simp only [vd_each_Sizes_1_L0, h31, cs4])
 have hq := q4 hrr (st00_16, st10_17) (by simp only [vd_each_Sizes_1, h8, h13, h31, hg6, hR107, cs4]); subst hq
 exact Kz () rfl .nil [1, 1] en
theorem fn43 (p : GProgram) (pa0 : Option Addr) (pk0 : Nat) (kwLA : Option Addr) (kwLK : Nat) (hps : PSm p = true) (rr : Int × Int) (hrr : vd_Sizes p = rr) : FT Tryz.prog 43 #[.agg #[vl pa0 pk0 p.Funcs]] [S pa0 pk0 p.Funcs, pv (gp 0) [vl kwLA kwLK kwL], S kwLA kwLK kwL] (fun g : Unit => i64ok rr.1 ∧ i64ok rr.2 ∧ (0 ≤ rr.1 ∧ rr.1 ≤ 10000 ∧ 0 ≤ rr.2 ∧ rr.2 ≤ 20000)) (fun g => .tuple #[vi rr.1, vi rr.2]) (fun g => []) := by
 refine FTi Tryz.func43 fun w0 M0 F0 => Fb 40 0 fun _ => Fb 16 2 fun _ => ?_
 refine FoS 2 fun ho3 => ?_
 refine KS ?_
 refine Oa (Ab [vl pa0 pk0 p.Funcs]) fun p4 => Oq Va (Oq Va (KS ?_))
 refine Oq (VldA sh25 0) ?_
 refine letv (sx_Valid p) fun rv5 hg6 => ?_
 have hc7 := fn39 p pa0 pk0 kwLA kwLK pre rv5 hg6
 refine Oc [1, 2, 3] ca39 hc7 ?_
 rintro - -
 refine Oq Vnot (KS ?_)
 refine Kc ?_ ?_
 ·intro h8
  have h10 := not_true h8
  refine KS ?_
  refine Oq Va (Oq Va (KS ?_))
  have hq := q4 hrr (0, 0) (by simp only [vd_Sizes, h8, h10, hg6, cs4]); subst hq
  exact Kr () rfl (.tmp rfl (.tmp rfl .nil)) [] en
 intro h8
 have h13 := not_false h8
 try have hVb := SVal_b (p := p) (by simp only [h8, h13, hg6])
 refine KS ?_
 refine JK_drawK [0, 1, 3, 7, 0, 16, 48, 0, 0, 399, 1023] fmix ?_
 refine Dv [0] (Vfa fo25_0 0) (Dv [0] (VldF sh23 0) (Dv [] (Vlen sl23) (Dv [] Vmul (Dv [0] (Vfa fo25_0 0) (Dv [0] (VldF sh23 0) (Dv [] (Vlen sl23) (Dx [] [] [0] (fun G => (G.g 7 0)) [fun G => Cl (G.g 7 0) [vi 0]] (fun G => xA (Al ze3 [vi 0])) (Dx [] [] [0] (fun G => (G.g 8 0)) [fun G => Cl (G.g 8 0) [vi 0]] (fun G => xA (Al ze3 [vi 0])) (Dx0 [4] [4] [0] [fun G => Cl (G.g 7 0) [vi (2 * (p.Funcs.length : Int))]] (fun G => xS (Scl [0] sh3 [vi (2 * (p.Funcs.length : Int))])) ?_)))))))))
 refine Dx0 [5] [5] [0] [fun G => Cl (G.g 8 0) [vi (p.Funcs.length : Int)]] (fun G => xS (Scl [0] sh3 [vi (p.Funcs.length : Int)])) ?_
 refine Dn ⟨by kernel_rfl, fun G => ?_⟩
 refine Jw2 [(1, p4), (4, (G.g 7 0)), (5, (G.g 8 0))] [0, 1, 2, 3] [Cl (G.g 7 0) [vi (2 * (p.Funcs.length : Int))], Cl (G.g 8 0) [vi (p.Funcs.length : Int)]] ?_
 generalize G.g 7 0 = p15, G.g 8 0 = p16
 refine KS ?_
 refine Oq (VldA sh25 0) (Oq (Vf [p15, p16]) ?_)
 refine letv (vd_each_Sizes_1 p (2 * (p.Funcs.length : Int)) (p.Funcs.length : Int)) fun rv17 hg18 => ?_
 have hc19 := fn45m0 p pa0 pk0 p15 (2 * (p.Funcs.length : Int)) p16 (p.Funcs.length : Int) kwLA kwLK pre pre pre pre rv17 hg18
 refine Oc [1, 4, 4, 2, 3] ca45 hc19 ?_
 rintro - ⟨he20, he21, he22⟩
 unfold i64ok at he20 he21
 refine KS ?_
 refine Kq [0, 0, 1, 7] fmix ?_
 refine Qv [0] (Vld sh3 0) (Qv [1] (Vld sh3 0) (Qv [] Va (Qv [] Va ?_)))
 refine Qn ⟨by kernel_rfl, ?_⟩
 have hq := q4 hrr (rv17.1, rv17.2) (by simp only [vd_Sizes, h8, h13, hg6, hg18, cs4]); subst hq
 exact Kr () rfl (.tmp rfl (.tmp rfl .nil)) [] en
end Go.SL.G
