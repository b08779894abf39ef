/- Part 5 of the walks: mirrors, plain laws and walks used by the last text of this claim. -/
import Derived.Test.YtipcbmgelahkfaaGreatDoorW4
import Derived.Test.YtipcbmgelahkfaaGreatDoorProg
set_option linter.unusedVariables false
set_option linter.unusedSimpArgs false
namespace Go.SL.G
open Go Go.SL Go.Proofs
set_option maxHeartbeats 20000000
set_option maxRecDepth 100000
theorem fn16 (p : GProgram) (pa0 : Option Addr) (pk0 : Nat) (rr : Bool) (hrr : g_HugeProgram p = rr) : FT Tryz.prog 16 #[.agg #[vl pa0 pk0 p.Funcs]] [S pa0 pk0 p.Funcs] (fun g : Unit => True) (fun g => vb rr) (fun g => []) := by
 refine FTi Tryz.func16 fun w0 M0 F0 => Fb 40 0 fun _ => ?_
 refine KS ?_
 refine Oa (Ab [vl pa0 pk0 p.Funcs]) fun p2 => Oq Va (KS ?_)
 refine Oq (Vfa fo25_0 0) (Oq (VldF sh23 0) (Oq (Vlen sl23) (Oq Va (KS ?_))))
 refine Oq Va (KS ?_)
 refine Kl (γ := Nat × Int × Int) (fun (r3, n_4, i_5) => ⟨[(1, p2), (3, vi n_4), (4, vi i_5)], [pv p2 [vl pa0 pk0 p.Funcs], S pa0 pk0 p.Funcs], g_HugeProgram_L0 p r3 n_4 i_5 = g_HugeProgram_L0 p (((p.Funcs.length : Int) - 0).toNat) (p.Funcs.length : Int) 0 ∧ r3 = ((p.Funcs.length : Int) - i_5).toNat ∧ (0 : Int) ≤ i_5 ∧ i_5 ≤ (p.Funcs.length : Int) ∧ (-9223372036854775808 ≤ n_4 ∧ n_4 ≤ 9223372036854775807) ∧ (-9223372036854775808 ≤ i_5 ∧ i_5 ≤ 9223372036854775807), r3⟩) (((p.Funcs.length : Int) - 0).toNat, (p.Funcs.length : Int), 0) [0, 1] ⟨rfl, rfl, aM1, aM1, aM1, aM1⟩ ?_
 rintro ⟨r3, n_4, i_5⟩ ⟨hM6, hr7, hi8, hi9, hk10, hk11⟩
 refine JJ_nx fun _ _ hL hA => ?_; dsimp only at hL hA; subst hL hA
 refine Fb 40 1 fun _ => KS ?_
 refine Oq Vm (Oq (Vfa fo25_0 0) (Oq (VldF sh23 0) (Oq (Vlen sl23) (Oq Vlss (Oq Vm ?_)))))
 refine Js 14 ?_ ?_
 ·intro h13
  have g14 := dt h13
  obtain ⟨r15, rfl⟩ := scc (n := r3) aM1
  refine Oq Vm (Oq Vlss (Oq Vpt (KS ?_)))
  refine Kc ?_ ?_
  ·intro h16
   have g17 := dt h16
   refine KS ?_
   refine Oq Vm (Oq (Vfa fo25_0 0) (Oq (VldF sh23 0) (Oq Vm (Oq (Vi sl23 1) ?_))))
   refine JJ_peek_GFunc i_5.toNat 1 rfl rng fun a18 k19 hb20 => ?_
   refine Fb 40 1 fun _ => ?_
   refine Oq (Vfa fo31_1 0) (Oq (VldF sh29 0) (Oq (Vlen sl29) (Oq Vadd (Oq Va (KS ?_)))))
   refine Oq Va (KS ?_)
   refine Kl (γ := Nat × Int × Int) (fun (r22, n_23, k_24) => ⟨[(1, p2), (4, vi i_5), (3, vi n_23), (5, vi k_24)], [pv p2 [vl pa0 pk0 p.Funcs], S pa0 pk0 p.Funcs], g_HugeProgram_L1 p i_5 r22 n_23 k_24 = g_HugeProgram_L1 p i_5 ((((((p.Funcs.getD i_5.toNat default).Blocks).length : Int) : Int) - 0).toNat) (n_4 + (((p.Funcs.getD i_5.toNat default).Blocks).length : Int)) 0 ∧ r22 = (((((p.Funcs.getD i_5.toNat default).Blocks).length : Int) : Int) - k_24).toNat ∧ (0 : Int) ≤ k_24 ∧ (k_24 ≤ (((p.Funcs.getD i_5.toNat default).Blocks).length : Int) ∨ k_24 = 0) ∧ (-9223372036854775808 ≤ n_23 ∧ n_23 ≤ 9223372036854775807) ∧ (-9223372036854775808 ≤ k_24 ∧ k_24 ≤ 9223372036854775807), r22⟩) ((((((p.Funcs.getD i_5.toNat default).Blocks).length : Int) : Int) - 0).toNat, (n_4 + (((p.Funcs.getD i_5.toNat default).Blocks).length : Int)), 0) [2, 3] ⟨rfl, rfl, aM1, (.inr rfl), aM1, aM1⟩ ?_
   rintro ⟨r22, n_23, k_24⟩ ⟨hM25, hr26, hi27, hi28, hk29, hk30⟩
   refine JJ_nx fun _ _ hL hA => ?_; dsimp only at hL hA; subst hL hA
   refine Fb 40 1 fun _ => KS ?_
   refine Oq Vm (Oq (Vfa fo25_0 0) (Oq (VldF sh23 0) (Oq Vm (Oq (Vi sl23 1) ?_))))
   refine JJ_peek_GFunc i_5.toNat 1 rfl rng fun a32 k33 hb34 => ?_
   refine Fb 40 1 fun _ => ?_
   refine Oq (Vfa fo31_1 0) (Oq (VldF sh29 0) (Oq (Vlen sl29) (Oq Vlss (Oq Vm ?_))))
   refine Js 38 ?_ ?_
   ·intro h36
    have g37 := dt h36
    obtain ⟨r38, rfl⟩ := scc (n := r22) aM1
    refine Oq Vm (Oq Vlss (Oq Vpt (KS ?_)))
    refine Kc ?_ ?_
    ·intro h39
     have g40 := dt h39
     refine KS ?_
     refine Oq Vm (Oq (Vfa fo25_0 2) (Oq (VldF sh23 2) (Oq Vm (Oq (Vi sl23 3) (Oq (Vfa fo31_1 0) (Oq (VldF sh29 0) (Oq Vm (Oq (Vi sl29 1) ?_))))))))
     refine JJ_peek_GBlock k_24.toNat 1 rfl rng fun a41 k42 hb43 => ?_
     refine Fb 72 1 fun _ => ?_
     refine Oq (Vfa fo34_1 0) (Oq (VldF sh32 0) (Oq (Vlen sl32) (Oq Vadd (Oq Va (KS ?_)))))
     refine Oq Vm (Oq Vadd (Oq Va (KS ?_)))
     exact Kg (r38, (n_23 + (((((p.Funcs.getD i_5.toNat default).Blocks).getD k_24.toNat default).Stmts).length : Int)), (k_24 + 1)) [4, 5] ⟨(q3 hM25 (by simp only [g_HugeProgram_L1, h36, h39, cs4])), aM1, aM1, aM1, aM1, aM1⟩
    intro h39
    have g45 := df h39
    refine Ke ?_
    have hR46 := q2 hM25 n_23 (by simp only [g_HugeProgram_L1, h36, h39, cs4])
    refine KS ?_
    refine Oq Vm (Oq Vadd (Oq Va (KS ?_)))
    exact Kg (r15, n_23, (i_5 + 1)) [2, 3] ⟨(q3 hM6 (by simp only [g_HugeProgram_L0, h13, h16, h36, h39, hR46, cs4])), aM1, aM1, aM1, aM1, aM1⟩
   intro h36
   have g47 := df h36
   obtain rfl : r22 = 0 := by omega
   refine Osk (Osk (Oq Vpf (KS ?_)))
   refine Kf ?_
   refine Ke ?_
   have hR48 := q2 hM25 n_23 (by simp only [g_HugeProgram_L1, h36, cs4])
   refine KS ?_
   refine Oq Vm (Oq Vadd (Oq Va (KS ?_)))
   exact Kg (r15, n_23, (i_5 + 1)) [2, 3] ⟨(q3 hM6 (by simp only [g_HugeProgram_L0, h13, h16, h36, hR48, cs4])), aM1, aM1, aM1, aM1, aM1⟩
  intro h16
  have g49 := df h16
  refine Ke ?_
  have hR50 := q2 hM6 n_4 (by simp only [g_HugeProgram_L0, h13, h16, cs4])
  refine KS ?_
  refine Oq Vm (Oq Vgtr (Oq Va (KS ?_)))
  have hq := q4 hrr (decide (30 < n_4)) (by simp only [g_HugeProgram, h13, h16, hR50, cs4]); subst hq
  exact Kr () rfl (.tmp rfl .nil) [] trivial
 intro h13
 have g51 := df h13
 obtain rfl : r3 = 0 := by omega
 refine Osk (Osk (Oq Vpf (KS ?_)))
 refine Kf ?_
 refine Ke ?_
 have hR52 := q2 hM6 n_4 (by simp only [g_HugeProgram_L0, h13, cs4])
 refine KS ?_
 refine Oq Vm (Oq Vgtr (Oq Va (KS ?_)))
 have hq := q4 hrr (decide (30 < n_4)) (by simp only [g_HugeProgram, h13, hR52, cs4]); subst hq
 exact Kr () rfl (.tmp rfl .nil) [] trivial
theorem fn5 (l : List Int) (la0 : Option Addr) (lk0 : Nat) (rr : Unit) (hrr : g_New l = rr) : FT Tryz.prog 5 #[vl la0 lk0 l] [S la0 lk0 l] (fun g : Value => True) (fun g => g) (fun g => [Cl g [vl la0 lk0 l, vi 0]]) := by
 refine FTi Tryz.func5 fun w0 M0 F0 => Fb 8 0 fun _ => Fo 0 fun ho2 => ?_
 refine KS ?_
 refine Oq Va (KS ?_)
 refine Oq Vm (Oq (Vbd st58 [vl la0 lk0 l, vi 0]) (Oa (AbO [vl la0 lk0 l, vi 0]) fun p3 => Oq Va (KS ?_)))
 have hq := q4 hrr () (by simp only [g_New, cs4]); subst hq
 exact Kr p3 rfl (.tmp rfl .nil) [0] trivial
theorem fn18 (i : Int) (hi_0 : i64ok i) (hi2 : (0 ≤ i ∧ i < 3)) (rr : Str) (hrr : g_func2 i = rr) : FT Tryz.prog 18 #[vi i] [] (fun g : Unit => rr.b.length ≤ 140737488355328) (fun g => .string (bs rr)) (fun g => []) := by
 refine FTi Tryz.func18 fun w0 M0 F0 => ?_
 unfold i64ok at hi_0
 refine KS ?_
 refine Oq Va (KS ?_)
 refine Oa (AsV sl35 sz35 [.string (bs (Str.mk [97])), .string (bs (Str.mk [98])), .string (bs (Str.mk [99]))] [.string (bs (Str.mk [97])), .string (bs (Str.mk [98])), .string (bs (Str.mk [99]))]) fun c1 => ?_
 refine Jo 0 ?_; rintro a2 k3 rfl
 refine Oq Vm ?_
 refine Jl [0] (Ent.crOs (α := Str) (A := []) _ ([(Str.mk [97]), (Str.mk [98]), (Str.mk [99])] : List Str) _ aB1 (fun h => ⟨[.string (bs (Str.mk [97]))], [.string (bs (Str.mk [98])), .string (bs (Str.mk [99]))], rfl, (fun _ => ⟨rfl, by first | omega | (simp; done) | (dsimp only; omega) | exact lit_bl rfl⟩) h, ⟨[.string (bs (Str.mk [98]))], [.string (bs (Str.mk [99]))], rfl, (fun _ => ⟨rfl, by first | omega | (simp; done) | (dsimp only; omega) | exact lit_bl rfl⟩) h, ⟨[.string (bs (Str.mk [99]))], [], rfl, (fun _ => ⟨rfl, by first | omega | (simp; done) | (dsimp only; omega) | exact lit_bl rfl⟩) h, rfl⟩⟩⟩)) ?_
 refine Oq (Vi sl35 0) ?_
 refine Fb 16 0 fun _ => ?_
 refine FoS 0 fun ho5 => ?_
 have hb6 := okS (i := i.toNat) ho5 rng
 refine Oq (VldS sh9 0) (Oq Va (KS ?_))
 have hq := q4 hrr ([(Str.mk [97]), (Str.mk [98]), (Str.mk [99])].getD i.toNat default) (by simp only [g_func2, cs4]); subst hq
 exact Kr () rfl (.tmp rfl .nil) [] en
theorem fn6 (tP : Value) (ta : Option Addr) (tk : Nat) (tT : List Int) (tI : Int) (htI : 0 ≤ tI ∧ tI ≤ (tT.length : Int)) (rr : GProgram × Int) (hrr : tp_Program tT tI = rr) : FT Tryz.prog 6 #[tP] [Cl tP [vl ta tk tT, vi tI], S ta tk tT] (fun g : Value => (0 ≤ rr.2 ∧ rr.2 ≤ (tT.length : Int))) (fun g => .agg #[g]) (fun g => [sl g rr.1.Funcs, Cl tP [vl ta tk tT, vi rr.2]]) := by
 refine FTi Tryz.func6 fun w0 M0 F0 => Fb 8 1 fun _ => Fo 1 fun ho2 => ?_
 refine KS ?_
 refine Oa (Al ze25 [.slice none 0 0]) fun p3 => KS ?_
 refine Oa (Al ze25 [.slice none 0 0]) fun p4 => KS ?_
 refine Oq Vm ?_
 refine letv (tp_Next tT tI 3) fun rv5 hg6 => ?_
 have hc7 := fn15 tP ta tk tT tI 3 pre pre rv5 hg6
 refine Oc [2, 2] ca15 hc7 ?_
 rintro - ⟨he8, he9, he10⟩
 unfold i64ok at he8
 refine Oq Vadd (Oq Va (KS ?_))
 refine Oq Va (KS ?_)
 refine Jl [] (Ent.osNil (α := GFunc)) ?_
 refine Kl (γ := Nat × Int × List GFunc × Int × Option Addr × Nat) (fun (r11, ti_12, p0_13, i_14, a15, k16) => ⟨[(0, tP), (2, p3), (3, p4), (4, vi (1 + rv5.1)), (5, vi i_14)], [O a15 k16 p0_13, Cl tP [vl ta tk tT, vi ti_12], Cl p4 [vl a15 k16 p0_13], Cl p3 [.slice none 0 0], S ta tk tT], tp_Program_L0 tT (1 + rv5.1) r11 ti_12 p0_13 i_14 = tp_Program_L0 tT (1 + rv5.1) ((((1 + rv5.1) : Int) - 0).toNat) rv5.2 [] 0 ∧ r11 = (((1 + rv5.1) : Int) - i_14).toNat ∧ (0 : Int) ≤ i_14 ∧ (i_14 ≤ (1 + rv5.1) ∨ i_14 = 0) ∧ (-9223372036854775808 ≤ ti_12 ∧ ti_12 ≤ 9223372036854775807) ∧ (0 ≤ ti_12 ∧ ti_12 ≤ (tT.length : Int)) ∧ (-9223372036854775808 ≤ i_14 ∧ i_14 ≤ 9223372036854775807) ∧ ((p0_13.length : Int) = i_14), r11⟩) ((((1 + rv5.1) : Int) - 0).toNat, rv5.2, [], 0, none, 0) [0, 0, 0, 0, 0] ⟨rfl, rfl, aM1, (.inr rfl), aM1, aM1, aM1, iv0⟩ ?_
 rintro ⟨r11, ti_12, p0_13, i_14, a15, k16⟩ ⟨hM17, hr18, hi19, hi20, hk21, ht22, hk23, hv24⟩
 refine JJ_nx fun _ _ hL hA => ?_; dsimp only at hL hA; subst hL hA
 refine Fb 40 0 fun _ => Fb 8 4 fun _ => Fo 4 fun ho27 => KS ?_
 refine Oq Vm (Oq Vm (Oq Vlss (KS ?_)))
 refine Kc ?_ ?_
 ·intro h28
  have g29 := dt h28
  obtain ⟨r30, rfl⟩ := scc (n := r11) aM1
  refine KS ?_
  refine Oa (AsV sl35 sz35 [.string (bs (Str.mk [109])), .string (bs (Str.mk [102])), .string (bs (Str.mk [103]))] [.string (bs (Str.mk [109])), .string (bs (Str.mk [102])), .string (bs (Str.mk [103]))]) fun c31 => ?_
  refine Jo 0 ?_; rintro a32 k33 rfl
  refine Oq Vm ?_
  refine Jl [0] (Ent.crOs (α := Str) (A := []) _ ([(Str.mk [109]), (Str.mk [102]), (Str.mk [103])] : List Str) _ aB1 (fun h => ⟨[.string (bs (Str.mk [109]))], [.string (bs (Str.mk [102])), .string (bs (Str.mk [103]))], rfl, (fun _ => ⟨rfl, by first | omega | (simp; done) | (dsimp only; omega) | exact lit_bl rfl⟩) h, ⟨[.string (bs (Str.mk [102]))], [.string (bs (Str.mk [103]))], rfl, (fun _ => ⟨rfl, by first | omega | (simp; done) | (dsimp only; omega) | exact lit_bl rfl⟩) h, ⟨[.string (bs (Str.mk [103]))], [], rfl, (fun _ => ⟨rfl, by first | omega | (simp; done) | (dsimp only; omega) | exact lit_bl rfl⟩) h, rfl⟩⟩⟩)) ?_
  refine Oq (Vi sl35 0) ?_
  refine Fb 16 0 fun _ => ?_
  refine FoS 0 fun ho35 => ?_
  have hb36 := okS (i := i_14.toNat) ho35 rng
  refine Oq (VldS sh9 0) (Oq (Vbd st31 [.string (bs ([(Str.mk [109]), (Str.mk [102]), (Str.mk [103])].getD i_14.toNat default)), .slice none 0 0]) (Oa (Al ze31 [.string (bs (Str.mk [])), .slice none 0 0]) fun p37 => Ost (Scl [0] sh31 [.string (bs ([(Str.mk [109]), (Str.mk [102]), (Str.mk [103])].getD i_14.toNat default)), .slice none 0 0]) (KS ?_)))
  refine Oq Vm ?_
  refine letv (tp_Next tT ti_12 3) fun rv38 hg39 => ?_
  have hc40 := fn15 tP ta tk tT ti_12 3 pre pre rv38 hg39
  refine Oc [3, 5] ca15 hc40 ?_
  rintro - ⟨he41, he42, he43⟩
  unfold i64ok at he41
  refine Oq Vadd (Oq Va (KS ?_))
  refine Oq Va (KS ?_)
  refine Jl [] (Ent.osNil (α := GBlock)) ?_
  refine Kl (γ := Nat × Int × List GBlock × Int × Option Addr × Nat) (fun (r44, ti_45, f1_46, k_47, a48, k49) => ⟨[(0, tP), (2, p3), (3, p4), (4, vi (1 + rv5.1)), (5, vi i_14), (6, p37), (7, vi (1 + rv38.1)), (8, vi k_47)], [O a48 k49 f1_46, Cl tP [vl ta tk tT, vi ti_45], Cl p37 [.string (bs ([(Str.mk [109]), (Str.mk [102]), (Str.mk [103])].getD i_14.toNat default)), vl a48 k49 f1_46], O a15 k16 p0_13, Cl p4 [vl a15 k16 p0_13], Cl p3 [.slice none 0 0], S ta tk tT], tp_Program_L1 tT (1 + rv5.1) (1 + rv38.1) r44 ti_45 f1_46 k_47 = tp_Program_L1 tT (1 + rv5.1) (1 + rv38.1) ((((1 + rv38.1) : Int) - 0).toNat) rv38.2 [] 0 ∧ r44 = (((1 + rv38.1) : Int) - k_47).toNat ∧ (0 : Int) ≤ k_47 ∧ (k_47 ≤ (1 + rv38.1) ∨ k_47 = 0) ∧ (-9223372036854775808 ≤ ti_45 ∧ ti_45 ≤ 9223372036854775807) ∧ (0 ≤ ti_45 ∧ ti_45 ≤ (tT.length : Int)) ∧ (-9223372036854775808 ≤ k_47 ∧ k_47 ≤ 9223372036854775807) ∧ ((f1_46.length : Int) = k_47), r44⟩) ((((1 + rv38.1) : Int) - 0).toNat, rv38.2, [], 0, none, 0) [0, 0, 0, 1, 1, 1, 1] ⟨rfl, rfl, aM1, (.inr rfl), aM1, aM1, aM1, iv0⟩ ?_
  rintro ⟨r44, ti_45, f1_46, k_47, a48, k49⟩ ⟨hM50, hr51, hi52, hi53, hk54, ht55, hk56, hv57⟩
  refine JJ_nx fun _ _ hL hA => ?_; dsimp only at hL hA; subst hL hA
  refine Fb 40 0 fun _ => Fb 40 3 fun _ => Fb 8 6 fun _ => Fo 6 fun ho61 => KS ?_
  refine Oq Vm (Oq Vm (Oq Vlss (KS ?_)))
  refine Kc ?_ ?_
  ·intro h62
   have g63 := dt h62
   obtain ⟨r64, rfl⟩ := scc (n := r44) aM1
   refine KS ?_
   refine Oa (AsV sl35 sz35 [.string (bs (Str.mk [97])), .string (bs (Str.mk [98])), .string (bs (Str.mk [99]))] [.string (bs (Str.mk [97])), .string (bs (Str.mk [98])), .string (bs (Str.mk [99]))]) fun c65 => ?_
   refine Jo 0 ?_; rintro a66 k67 rfl
   refine Oq Vm ?_
   refine Jl [0] (Ent.crOs (α := Str) (A := []) _ ([(Str.mk [97]), (Str.mk [98]), (Str.mk [99])] : List Str) _ aB1 (fun h => ⟨[.string (bs (Str.mk [97]))], [.string (bs (Str.mk [98])), .string (bs (Str.mk [99]))], rfl, (fun _ => ⟨rfl, by first | omega | (simp; done) | (dsimp only; omega) | exact lit_bl rfl⟩) h, ⟨[.string (bs (Str.mk [98]))], [.string (bs (Str.mk [99]))], rfl, (fun _ => ⟨rfl, by first | omega | (simp; done) | (dsimp only; omega) | exact lit_bl rfl⟩) h, ⟨[.string (bs (Str.mk [99]))], [], rfl, (fun _ => ⟨rfl, by first | omega | (simp; done) | (dsimp only; omega) | exact lit_bl rfl⟩) h, rfl⟩⟩⟩)) ?_
   refine Oq (Vi sl35 0) ?_
   refine Fb 16 0 fun _ => ?_
   refine FoS 0 fun ho69 => ?_
   have hb70 := okS (i := k_47.toNat) ho69 rng
   refine Oq (VldS sh9 0) (Oq (Vbd st34 [.string (bs ([(Str.mk [97]), (Str.mk [98]), (Str.mk [99])].getD k_47.toNat default)), .slice none 0 0]) (Oa (Al ze34 [.string (bs (Str.mk [])), .slice none 0 0]) fun p71 => Ost (Scl [0] sh34 [.string (bs ([(Str.mk [97]), (Str.mk [98]), (Str.mk [99])].getD k_47.toNat default)), .slice none 0 0]) (KS ?_)))
   refine Oq Vm ?_
   refine letv (tp_Next tT ti_45 4) fun rv72 hg73 => ?_
   have hc74 := fn15 tP ta tk tT ti_45 4 pre pre rv72 hg73
   refine Oc [3, 7] ca15 hc74 ?_
   rintro - ⟨he75, he76, he77⟩
   unfold i64ok at he75
   refine Oq Va (KS ?_)
   refine Jl [] (Ent.osNil (α := GStmt)) ?_
   refine Kl (γ := Nat × Int × List GStmt × Int × Option Addr × Nat) (fun (r78, ti_79, b1_80, n_81, a82, k83) => ⟨[(0, tP), (2, p3), (3, p4), (4, vi (1 + rv5.1)), (5, vi i_14), (6, p37), (7, vi (1 + rv38.1)), (8, vi k_47), (9, p71), (10, vi n_81)], [O a82 k83 b1_80, Cl tP [vl ta tk tT, vi ti_79], Cl p71 [.string (bs ([(Str.mk [97]), (Str.mk [98]), (Str.mk [99])].getD k_47.toNat default)), vl a82 k83 b1_80], O a48 k49 f1_46, Cl p37 [.string (bs ([(Str.mk [109]), (Str.mk [102]), (Str.mk [103])].getD i_14.toNat default)), vl a48 k49 f1_46], O a15 k16 p0_13, Cl p4 [vl a15 k16 p0_13], Cl p3 [.slice none 0 0], S ta tk tT], tp_Program_L2 tT (1 + rv5.1) r78 ti_79 b1_80 n_81 = tp_Program_L2 tT (1 + rv5.1) (rv72.1.toNat) rv72.2 [] rv72.1 ∧ r78 = n_81.toNat ∧ n_81 ≤ (rv72.1 : Int) ∧ (-9223372036854775808 ≤ ti_79 ∧ ti_79 ≤ 9223372036854775807) ∧ (0 ≤ ti_79 ∧ ti_79 ≤ (tT.length : Int)) ∧ (-9223372036854775808 ≤ n_81 ∧ n_81 ≤ 9223372036854775807) ∧ ((b1_80.length : Int) + n_81 ≤ 3 ∧ 0 ≤ n_81), r78⟩) (rv72.1.toNat, rv72.2, [], rv72.1, none, 0) [0, 0, 0, 1, 1, 1, 1, 1, 1] ⟨rfl, rfl, aM1, aM1, aM1, aM1, iv0⟩ ?_
   rintro ⟨r78, ti_79, b1_80, n_81, a82, k83⟩ ⟨hM84, hr85, hi86, hk87, ht88, hk89, hv90⟩
   refine JJ_nx fun _ _ hL hA => ?_; dsimp only at hL hA; subst hL hA
   refine Fb 72 0 fun _ => Fb 40 3 fun _ => Fb 40 5 fun _ => Fb 8 8 fun _ => Fo 8 fun ho95 => KS ?_
   refine Oq Vm (Oq Vgtr (KS ?_))
   refine Kc ?_ ?_
   ·intro h96
    have g97 := dt h96
    obtain ⟨r98, rfl⟩ := scc (n := r78) aM1
    refine KS ?_
    refine Jp 2 fun hp99 => ?_
    refine JK_drawK [0, 1, 0, 0, 12, 28, 63, 127, 255] fmix ?_
    refine Dv [0] (Vfa fo34_1 0) (Dv [3] (VldF sh32 0) (Dv [] Vm (Dv [] Vm ?_)))
    refine letv (tp_stmt tT ti_79 (1 + rv5.1)) fun rv102 hg103 => ?_
    refine Dx [2, 9] [2] [4, 0, 1, 1, 1] (fun G => .agg #[vi rv102.1.Op, .string (bs rv102.1.Def), (G.g 4 0), (G.g 4 1)]) [fun G => SP.fact (i64ok rv102.1.Op ∧ rv102.1.Def.b.length ≤ 140737488355328 ∧ (0 ≤ rv102.2 ∧ rv102.2 ≤ (tT.length : Int))), fun G => os (G.g 4 0) rv102.1.Uses, fun G => os (G.g 4 1) rv102.1.Targets, fun G => Cl tP [vl ta tk tT, vi rv102.2]] (fun G => xC [0, 0] ca17 (fn17 tP ta tk tT ti_79 ((1 + rv5.1)) pre pre pre rv102 hg103)) (Dx [] [] [0] (fun G => (G.g 5 0)) [fun G => Cr (G.g 5 0) 1 [vi rv102.1.Op, .string (bs rv102.1.Def), (G.g 4 0), (G.g 4 1)]] (fun G => xA (AsV sl32 sz32 [.agg #[vi rv102.1.Op, .string (bs rv102.1.Def), (G.g 4 0), (G.g 4 1)]] [vi rv102.1.Op, .string (bs rv102.1.Def), (G.g 4 0), (G.g 4 1)])) ?_)
    have hn106 := la b1_80 ([rv102.1] : List GStmt)
    refine Dx [1, 10, 11, 12, 14] [1, 11, 12, 14] [5, 1, 2, 0] (fun G => (G.g 6 0)) [fun G => sl (G.g 4 0) rv102.1.Uses, fun G => sl (G.g 4 1) rv102.1.Targets, fun G => os (G.g 6 0) ((b1_80 ++ [rv102.1]) : List GStmt)] (fun G => by refine xf 1 rfl ?_; rintro ⟨he107, he108, he109⟩; unfold i64ok at he107; exact xp [2] rfl (Ent.freeze _ _) (xp [3] rfl (Ent.freeze _ _) (xp [4, 1, 0] rfl (Ent.cr1 (α := GStmt) (A := [sl (G.g 4 0) rv102.1.Uses, sl (G.g 4 1) rv102.1.Targets]) _ rv102.1 _ aB1 (fun h => ⟨_, _, rfl, aL1, aS1, sepAll_get (i := 0) rfl h, sepAll_get (i := 1) rfl h⟩)) (xA (ApO [5, 0] sl32 sl32 sz32))))) (Dv [0] (Vfa fo34_1 0) (Dx0 [3, 17] [3] [1, 0] [fun G => Cl p71 [.string (bs ([(Str.mk [97]), (Str.mk [98]), (Str.mk [99])].getD k_47.toNat default)), (G.g 6 0)]] (fun G => x1 1 rfl os_one fun ho110 => (xS (OpS.frame [0] rfl (OpS.storeClF [(G.g 6 0)] [.string (bs ([(Str.mk [97]), (Str.mk [98]), (Str.mk [99])].getD k_47.toNat default)), (G.g 6 0)] rfl rfl rfl sh32 (cells_of_one ho110) rfl (by simp only [List.all_cons, List.all_nil, ho110, Bool.and_true, Bool.true_and] <;> rfl) aB1 rfl)))) ?_))
    refine Dn ⟨by kernel_rfl, fun G => ?_⟩
    refine Jw2 [(0, tP), (2, p3), (3, p4), (4, vi (1 + rv5.1)), (5, vi i_14), (6, p37), (7, vi (1 + rv38.1)), (8, vi k_47), (9, p71), (10, vi n_81)] [0, 4, 5, 6, 7, 8, 9] [SP.fact (i64ok rv102.1.Op ∧ rv102.1.Def.b.length ≤ 140737488355328 ∧ (0 ≤ rv102.2 ∧ rv102.2 ≤ (tT.length : Int))), Cl tP [vl ta tk tT, vi rv102.2], sl (G.g 4 0) rv102.1.Uses, sl (G.g 4 1) rv102.1.Targets, os (G.g 6 0) ((b1_80 ++ [rv102.1]) : List GStmt), Cl p71 [.string (bs ([(Str.mk [97]), (Str.mk [98]), (Str.mk [99])].getD k_47.toNat default)), (G.g 6 0)]] ?_
    generalize G.g 4 0 = c100, G.g 4 1 = c101, G.g 6 0 = c105
    refine Jf 7 rfl ?_; rintro ⟨he111, he112, he113⟩
    unfold i64ok at he111
    refine Jk [1, 1, 1, 1, 1, 1, 3, 3, 4, 5, 5] ?_
    refine Jo 7 ?_; rintro a114 k115 rfl
    refine Fb 16 7 fun _ => ?_
    refine FoS 7 fun ho117 => ?_
    refine Jo 8 ?_; rintro a118 k119 rfl
    refine Fb 16 8 fun _ => ?_
    refine FoS 8 fun ho121 => ?_
    refine Jo 9 ?_; rintro a122 k123 rfl
    refine Fb 72 9 fun _ => KS ?_
    refine Oq Vm (Oq Vsub (Oq Va (KS ?_)))
    exact Kg (r98, rv102.2, (b1_80 ++ [rv102.1]), (n_81 - 1), a122, k123) [9, 6, 8, 0, 0, 0, 0, 0, 0] ⟨(q3 hM84 (by simp only [tp_Program_L2, h96, hg103, cs4])), aM1, aM1, aM1, aM1, aM1, iv1⟩
   intro h96
   have g125 := df h96
   obtain rfl : r78 = 0 := by omega
   refine Ke ?_
   have hR126 := q2 hM84 (ti_79, b1_80) (by simp only [tp_Program_L2, h96, cs4])
   refine KS ?_
   refine Oq Vm (Oq Vm ?_)
   refine letv (tp_Next tT ti_79 (1 + rv38.1)) fun rv127 hg128 => ?_
   have hc129 := fn15 tP ta tk tT ti_79 ((1 + rv38.1)) pre pre rv127 hg128
   refine Oc [1, 7] ca15 hc129 ?_
   rintro - ⟨he130, he131, he132⟩
   unfold i64ok at he130
   refine letv (g_func2 rv127.1) fun rv133 hg134 => ?_
   have hc135 := fn18 rv127.1 pre pre rv133 hg134
   refine Oc [] ca18 hc135 ?_
   rintro - he136
   refine Oq Va (KS ?_)
   refine Oq Vm ?_
   refine letv (tp_Next tT rv127.2 4) fun rv137 hg138 => ?_
   have hc139 := fn15 tP ta tk tT rv127.2 4 pre pre rv137 hg138
   refine Oc [0, 7] ca15 hc139 ?_
   rintro - ⟨he140, he141, he142⟩
   unfold i64ok at he140
   refine KS ?_
   refine Oq Veql (Oq Va (KS ?_))
   refine Kc ?_ ?_
   ·intro h143
    have g144 := eq_of_beq h143
    refine KS ?_
    refine Oq (Vfa fo34_1 2) (Oq (VldF sh32 2) (Oq (Vbd st37 [vi 9, .string (bs (Str.mk [])), .slice none 0 0, .slice none 0 0]) (Oa (AsV sl32 sz32 [.agg #[vi 9, .string (bs (Str.mk [])), .slice none 0 0, .slice none 0 0]] [vi 9, .string (bs (Str.mk [])), .slice none 0 0, .slice none 0 0]) fun c145 => ?_)))
    refine Jo 0 ?_; rintro a146 k147 rfl
    refine Jl [0] (Ent.cr1 (α := GStmt) (A := []) _ (GStmt.mk 9 (Str.mk []) [] []) _ aB1 (fun h => ⟨_, _, rfl, aL1, aS1, slrd_nil, slrd_nil⟩)) ?_
    refine Oa (ApO [2, 0] sl32 sl32 sz32) fun c148 => ?_
    refine Jo 0 ?_; rintro a149 k150 rfl
    refine Fb 72 0 fun _ => ?_
    have hn152 := la b1_80 ([(GStmt.mk 9 (Str.mk []) [] [])] : List GStmt)
    refine Oq (Vfa fo34_1 2) (Ost (SclF [2] sh32 [.string (bs ([(Str.mk [97]), (Str.mk [98]), (Str.mk [99])].getD k_47.toNat default)), vl a149 k150 (b1_80 ++ [(GStmt.mk 9 (Str.mk []) [] [])])]) (KS ?_))
    refine Oq (Vfa fo31_1 4) (Oq (VldF sh29 4) (Oq (VldA sh34 0) (Oa (AsV sl29 sz29 [.agg #[.string (bs ([(Str.mk [97]), (Str.mk [98]), (Str.mk [99])].getD k_47.toNat default)), vl a149 k150 (b1_80 ++ [(GStmt.mk 9 (Str.mk []) [] [])])]] [.string (bs ([(Str.mk [97]), (Str.mk [98]), (Str.mk [99])].getD k_47.toNat default)), vl a149 k150 (b1_80 ++ [(GStmt.mk 9 (Str.mk []) [] [])])]) fun c153 => ?_)))
    refine Jo 0 ?_; rintro a154 k155 rfl
    refine Jl [2] (Ent.freeze _ _) ?_
    refine Jl [1, 0] (Ent.cr1 (α := GBlock) (A := [S a149 k150 ((b1_80 ++ [(GStmt.mk 9 (Str.mk []) [] [])]) : List GStmt)]) _ (GBlock.mk ([(Str.mk [97]), (Str.mk [98]), (Str.mk [99])].getD k_47.toNat default) (b1_80 ++ [(GStmt.mk 9 (Str.mk []) [] [])])) _ aB1 (fun h => ⟨_, rfl, aS1, sepAll_get (i := 0) rfl h⟩)) ?_
    refine Oa (ApO [5, 0] sl29 sl29 sz29) fun c156 => ?_
    refine Jo 0 ?_; rintro a157 k158 rfl
    refine Fb 40 0 fun _ => ?_
    have hn160 := la f1_46 ([(GBlock.mk ([(Str.mk [97]), (Str.mk [98]), (Str.mk [99])].getD k_47.toNat default) (b1_80 ++ [(GStmt.mk 9 (Str.mk []) [] [])]))] : List GBlock)
    refine Oq (Vfa fo31_1 5) (Ost (SclF [5] sh29 [.string (bs ([(Str.mk [109]), (Str.mk [102]), (Str.mk [103])].getD i_14.toNat default)), .slice a157 ((f1_46 ++ [(GBlock.mk ([(Str.mk [97]), (Str.mk [98]), (Str.mk [99])].getD k_47.toNat default) (b1_80 ++ [(GStmt.mk 9 (Str.mk []) [] [])]))]).length) k158]) (KS ?_))
    refine Oq Vm (Oq Vadd (Oq Va (KS ?_)))
    exact Kg (r64, rv137.2, (f1_46 ++ [(GBlock.mk ([(Str.mk [97]), (Str.mk [98]), (Str.mk [99])].getD k_47.toNat default) (b1_80 ++ [(GStmt.mk 9 (Str.mk []) [] [])]))]), (k_47 + 1), a157, k158) [1, 4, 0, 3, 3, 3, 3] ⟨(q3 hM50 (by simp only [tp_Program_L1, h62, h96, h143, hg73, hR126, hg128, hg134, hg138, cs4])), aM1, aM1, aM1, aM1, aM1, aM1, iv1⟩
   intro h143
   have g161 := ne_of_beq_false h143
   refine KS ?_
   refine Oq Veql (Oq Va (KS ?_))
   refine Kc ?_ ?_
   ·intro h162
    have g163 := eq_of_beq h162
    refine KS ?_
    refine Oq (Vfa fo34_1 2) (Oq (VldF sh32 2) (Oq Vm (Oa (AsV sl35 sz35 [.string (bs rv133)] [.string (bs rv133)]) fun c164 => ?_)))
    refine Jo 0 ?_; rintro a165 k166 rfl
    refine Oq (Vbd st37 [vi 7, .string (bs (Str.mk [])), .slice none 0 0, .slice a165 1 k166]) (Oa (AsV sl32 sz32 [.agg #[vi 7, .string (bs (Str.mk [])), .slice none 0 0, .slice a165 1 k166]] [vi 7, .string (bs (Str.mk [])), .slice none 0 0, .slice a165 1 k166]) fun c167 => ?_)
    refine Jo 0 ?_; rintro a168 k169 rfl
    refine Jl [1] (Ent.cr1 (α := Str) (A := []) _ rv133 _ aB1 (fun _ => ⟨rfl, aS1⟩)) ?_
    refine Jl [0] (Ent.freeze _ _) ?_
    refine Jl [1, 0] (Ent.cr1 (α := GStmt) (A := [sl (.slice a165 1 k166) ([rv133] : List Str)]) _ (GStmt.mk 7 (Str.mk []) [] [rv133]) _ aB1 (fun h => ⟨_, _, rfl, aL1, aS1, slrd_nil, sepAll_get (i := 0) rfl h⟩)) ?_
    refine Oa (ApO [4, 0] sl32 sl32 sz32) fun c170 => ?_
    refine Jo 0 ?_; rintro a171 k172 rfl
    refine Fb 72 0 fun _ => ?_
    have hn174 := la b1_80 ([(GStmt.mk 7 (Str.mk []) [] [rv133])] : List GStmt)
    refine Oq (Vfa fo34_1 4) (Ost (SclF [4] sh32 [.string (bs ([(Str.mk [97]), (Str.mk [98]), (Str.mk [99])].getD k_47.toNat default)), vl a171 k172 (b1_80 ++ [(GStmt.mk 7 (Str.mk []) [] [rv133])])]) (KS ?_))
    refine Oq (Vfa fo31_1 6) (Oq (VldF sh29 6) (Oq (VldA sh34 0) (Oa (AsV sl29 sz29 [.agg #[.string (bs ([(Str.mk [97]), (Str.mk [98]), (Str.mk [99])].getD k_47.toNat default)), vl a171 k172 (b1_80 ++ [(GStmt.mk 7 (Str.mk []) [] [rv133])])]] [.string (bs ([(Str.mk [97]), (Str.mk [98]), (Str.mk [99])].getD k_47.toNat default)), vl a171 k172 (b1_80 ++ [(GStmt.mk 7 (Str.mk []) [] [rv133])])]) fun c175 => ?_)))
    refine Jo 0 ?_; rintro a176 k177 rfl
    refine Jl [2] (Ent.freeze _ _) ?_
    refine Jl [1, 0] (Ent.cr1 (α := GBlock) (A := [S a171 k172 ((b1_80 ++ [(GStmt.mk 7 (Str.mk []) [] [rv133])]) : List GStmt)]) _ (GBlock.mk ([(Str.mk [97]), (Str.mk [98]), (Str.mk [99])].getD k_47.toNat default) (b1_80 ++ [(GStmt.mk 7 (Str.mk []) [] [rv133])])) _ aB1 (fun h => ⟨_, rfl, aS1, sepAll_get (i := 0) rfl h⟩)) ?_
    refine Oa (ApO [7, 0] sl29 sl29 sz29) fun c178 => ?_
    refine Jo 0 ?_; rintro a179 k180 rfl
    refine Fb 40 0 fun _ => ?_
    have hn182 := la f1_46 ([(GBlock.mk ([(Str.mk [97]), (Str.mk [98]), (Str.mk [99])].getD k_47.toNat default) (b1_80 ++ [(GStmt.mk 7 (Str.mk []) [] [rv133])]))] : List GBlock)
    refine Oq (Vfa fo31_1 7) (Ost (SclF [7] sh29 [.string (bs ([(Str.mk [109]), (Str.mk [102]), (Str.mk [103])].getD i_14.toNat default)), .slice a179 ((f1_46 ++ [(GBlock.mk ([(Str.mk [97]), (Str.mk [98]), (Str.mk [99])].getD k_47.toNat default) (b1_80 ++ [(GStmt.mk 7 (Str.mk []) [] [rv133])]))]).length) k180]) (KS ?_))
    refine Oq Vm (Oq Vadd (Oq Va (KS ?_)))
    exact Kg (r64, rv137.2, (f1_46 ++ [(GBlock.mk ([(Str.mk [97]), (Str.mk [98]), (Str.mk [99])].getD k_47.toNat default) (b1_80 ++ [(GStmt.mk 7 (Str.mk []) [] [rv133])]))]), (k_47 + 1), a179, k180) [1, 6, 0, 5, 5, 5, 5] ⟨(q3 hM50 (by simp only [tp_Program_L1, h62, h96, h143, h162, hg73, hR126, hg128, hg134, hg138, cs4])), aM1, aM1, aM1, aM1, aM1, aM1, iv1⟩
   intro h162
   have g183 := ne_of_beq_false h162
   refine Jp 2 fun hp184 => ?_
   refine JK_drawK [0, 1, 0, 4, 12, 0, 0, 0, 204, 460, 1004, 2044, 4092, 8191, 16383, 32767] fmix ?_
   refine Dv [0] (Vfa fo34_1 0) (Dv [3] (VldF sh32 0) (Dv [] Vm ?_))
   refine letv (tp_name tT rv137.2) fun rv185 hg186 => ?_
   refine Dx [1, 9] [1] [2, 0, 1] (fun G => .string (bs rv185.1)) [fun G => SP.fact (rv185.1.b.length ≤ 140737488355328 ∧ (0 ≤ rv185.2 ∧ rv185.2 ≤ (tT.length : Int))), fun G => Cl tP [vl ta tk tT, vi rv185.2]] (fun G => xC [0, 0] ca19 (fn19 tP ta tk tT rv137.2 pre rv185 hg186)) (Dx [] [] [0] (fun G => (G.g 4 0)) [fun G => Cr (G.g 4 0) 1 [.string (bs rv185.1)]] (fun G => xA (AsV sl35 sz35 [.string (bs rv185.1)] [.string (bs rv185.1)])) (Dv [] Vm (Dv [] Vm (Dv [] Vm ?_))))
   refine letv (tp_Next tT rv185.2 (1 + rv38.1)) fun rv188 hg189 => ?_
   refine Dx [9, 10, 11] [11] [2, 3, 0, 1] (fun G => vi rv188.1) [fun G => SP.fact (i64ok rv188.1 ∧ (0 ≤ rv188.2 ∧ rv188.2 ≤ (tT.length : Int)) ∧ (0 ≤ rv188.1 ∧ (rv188.1 < (1 + rv38.1) ∨ rv188.1 = 0))), fun G => Cl tP [vl ta tk tT, vi rv188.2]] (fun G => by refine xf 1 rfl ?_; rintro ⟨he190, he191⟩; exact xC [2, 0] ca15 (fn15 tP ta tk tT rv185.2 ((1 + rv38.1)) pre pre rv188 hg189)) ?_
   refine letv (g_func2 rv188.1) fun rv192 hg193 => ?_
   refine Dx [13] [] [1, 0] (fun G => .string (bs rv192)) [fun G => SP.fact (rv192.b.length ≤ 140737488355328)] (fun G => by refine xf 0 rfl ?_; rintro ⟨he194, he195, he196⟩; unfold i64ok at he194; exact xC [] ca18 (fn18 rv188.1 pre pre rv192 hg193)) (Dx [] [] [0] (fun G => (G.g 10 0)) [fun G => Cr (G.g 10 0) 2 [.string (bs rv133), .string (bs rv192)]] (fun G => xA (AsV sl35 sz35 [.string (bs rv133), .string (bs rv192)] [.string (bs rv133), .string (bs rv192)])) ?_)
   refine Dx [12, 16] [] [0, 0] (fun G => .agg #[vi 8, .string (bs (Str.mk [])), (G.g 4 0), (G.g 10 0)]) [] (fun G => xV (v := .agg #[vi 8, .string (bs (Str.mk [])), (G.g 4 0), (G.g 10 0)]) (Vo 0 rfl (isO_Cr _ _ _) fun aq198 kq199 eq200 => (by rw [eq200]; exact Vo 1 rfl (isO_Cr _ _ _) fun aq201 kq202 eq203 => (by rw [eq203]; exact Vbd st37 [vi 8, .string (bs (Str.mk [])), .slice aq198 1 kq199, .slice aq201 2 kq202])))) (Dx [] [] [0] (fun G => (G.g 12 0)) [fun G => Cr (G.g 12 0) 1 [vi 8, .string (bs (Str.mk [])), (G.g 4 0), (G.g 10 0)]] (fun G => xA (AsV sl32 sz32 [.agg #[vi 8, .string (bs (Str.mk [])), (G.g 4 0), (G.g 10 0)]] [vi 8, .string (bs (Str.mk [])), (G.g 4 0), (G.g 10 0)])) ?_)
   have hn206 := la b1_80 ([(GStmt.mk 8 (Str.mk []) [rv185.1] [rv133, rv192])] : List GStmt)
   refine Dx [2, 10, 12, 15, 16, 17] [2, 12, 16, 17] [5, 6, 1, 2, 0] (fun G => (G.g 13 0)) [fun G => sl (G.g 4 0) ([rv185.1] : List Str), fun G => sl (G.g 10 0) ([rv133, rv192] : List Str), fun G => os (G.g 13 0) ((b1_80 ++ [(GStmt.mk 8 (Str.mk []) [rv185.1] [rv133, rv192])]) : List GStmt)] (fun G => by refine xf 1 rfl ?_; rintro ⟨he207, he208⟩; refine xf 3 rfl ?_; rintro he209; exact xp [2] rfl (Ent.cr1 (α := Str) (A := []) _ rv185.1 _ aB1 (fun _ => ⟨rfl, aS1⟩)) (xp [0] rfl (Ent.freeze _ _) (xp [4] rfl (Ent.crOs (α := Str) (A := []) _ ([rv133, rv192] : List Str) _ aB1 (fun h => ⟨[.string (bs rv133)], [.string (bs rv192)], rfl, (fun _ => ⟨rfl, by first | omega | (simp; done) | (dsimp only; omega) | exact lit_bl rfl⟩) h, ⟨[.string (bs rv192)], [], rfl, (fun _ => ⟨rfl, by first | omega | (simp; done) | (dsimp only; omega) | exact lit_bl rfl⟩) h, rfl⟩⟩)) (xp [0] rfl (Ent.freeze _ _) (xp [5, 1, 0] rfl (Ent.cr1 (α := GStmt) (A := [sl (G.g 4 0) ([rv185.1] : List Str), sl (G.g 10 0) ([rv133, rv192] : List Str)]) _ (GStmt.mk 8 (Str.mk []) [rv185.1] [rv133, rv192]) _ aB1 (fun h => ⟨_, _, rfl, aL1, aS1, sepAll_get (i := 0) rfl h, sepAll_get (i := 1) rfl h⟩)) (xA (ApO [5, 0] sl32 sl32 sz32))))))) (Dv [0] (Vfa fo34_1 0) (Dx0 [3, 20] [3] [1, 0] [fun G => Cl p71 [.string (bs ([(Str.mk [97]), (Str.mk [98]), (Str.mk [99])].getD k_47.toNat default)), (G.g 13 0)]] (fun G => x1 1 rfl os_one fun ho210 => (xS (OpS.frame [0] rfl (OpS.storeClF [(G.g 13 0)] [.string (bs ([(Str.mk [97]), (Str.mk [98]), (Str.mk [99])].getD k_47.toNat default)), (G.g 13 0)] rfl rfl rfl sh32 (cells_of_one ho210) rfl (by simp only [List.all_cons, List.all_nil, ho210, Bool.and_true, Bool.true_and] <;> rfl) aB1 rfl)))) ?_))
   refine Dn ⟨by kernel_rfl, fun G => ?_⟩
   refine Jw2 [(0, tP), (2, p3), (3, p4), (4, vi (1 + rv5.1)), (5, vi i_14), (6, p37), (7, vi (1 + rv38.1)), (8, vi k_47), (9, p71)] [0, 4, 5, 6, 7, 8, 9] [SP.fact (rv185.1.b.length ≤ 140737488355328 ∧ (0 ≤ rv185.2 ∧ rv185.2 ≤ (tT.length : Int))), SP.fact (i64ok rv188.1 ∧ (0 ≤ rv188.2 ∧ rv188.2 ≤ (tT.length : Int)) ∧ (0 ≤ rv188.1 ∧ (rv188.1 < (1 + rv38.1) ∨ rv188.1 = 0))), Cl tP [vl ta tk tT, vi rv188.2], SP.fact (rv192.b.length ≤ 140737488355328), sl (G.g 4 0) ([rv185.1] : List Str), sl (G.g 10 0) ([rv133, rv192] : List Str), os (G.g 13 0) ((b1_80 ++ [(GStmt.mk 8 (Str.mk []) [rv185.1] [rv133, rv192])]) : List GStmt), Cl p71 [.string (bs ([(Str.mk [97]), (Str.mk [98]), (Str.mk [99])].getD k_47.toNat default)), (G.g 13 0)]] ?_
   generalize G.g 4 0 = c187, G.g 10 0 = c197, G.g 13 0 = c205
   refine Jf 7 rfl ?_; rintro ⟨he211, he212⟩
   refine Jf 8 rfl ?_; rintro ⟨he213, he214, he215⟩
   unfold i64ok at he213
   refine Jf 10 rfl ?_; rintro he216
   refine Jk [1, 1, 1, 1, 1, 1, 4, 5, 6, 7, 7] ?_
   refine Jo 7 ?_; rintro a217 k218 rfl
   refine Fb 16 7 fun _ => ?_
   refine FoS 7 fun ho220 => ?_
   refine Jo 8 ?_; rintro a221 k222 rfl
   refine Fb 16 8 fun _ => ?_
   refine FoS 8 fun ho224 => ?_
   refine Jo 9 ?_; rintro a225 k226 rfl
   refine Fb 72 9 fun _ => KS ?_
   refine Oq (Vfa fo31_1 1) (Oq (VldF sh29 1) (Oq (VldA sh34 10) (Oa (AsV sl29 sz29 [.agg #[.string (bs ([(Str.mk [97]), (Str.mk [98]), (Str.mk [99])].getD k_47.toNat default)), vl a225 k226 (b1_80 ++ [(GStmt.mk 8 (Str.mk []) [rv185.1] [rv133, rv192])])]] [.string (bs ([(Str.mk [97]), (Str.mk [98]), (Str.mk [99])].getD k_47.toNat default)), vl a225 k226 (b1_80 ++ [(GStmt.mk 8 (Str.mk []) [rv185.1] [rv133, rv192])])]) fun c228 => ?_)))
   refine Jo 0 ?_; rintro a229 k230 rfl
   refine Jl [10] (Ent.freeze _ _) ?_
   refine Jl [1, 0] (Ent.cr1 (α := GBlock) (A := [S a225 k226 ((b1_80 ++ [(GStmt.mk 8 (Str.mk []) [rv185.1] [rv133, rv192])]) : List GStmt)]) _ (GBlock.mk ([(Str.mk [97]), (Str.mk [98]), (Str.mk [99])].getD k_47.toNat default) (b1_80 ++ [(GStmt.mk 8 (Str.mk []) [rv185.1] [rv133, rv192])])) _ aB1 (fun h => ⟨_, rfl, aS1, sepAll_get (i := 0) rfl h⟩)) ?_
   refine Oa (ApO [3, 0] sl29 sl29 sz29) fun c231 => ?_
   refine Jo 0 ?_; rintro a232 k233 rfl
   refine Fb 40 0 fun _ => ?_
   have hn235 := la f1_46 ([(GBlock.mk ([(Str.mk [97]), (Str.mk [98]), (Str.mk [99])].getD k_47.toNat default) (b1_80 ++ [(GStmt.mk 8 (Str.mk []) [rv185.1] [rv133, rv192])]))] : List GBlock)
   refine Oq (Vfa fo31_1 3) (Ost (SclF [3] sh29 [.string (bs ([(Str.mk [109]), (Str.mk [102]), (Str.mk [103])].getD i_14.toNat default)), .slice a232 ((f1_46 ++ [(GBlock.mk ([(Str.mk [97]), (Str.mk [98]), (Str.mk [99])].getD k_47.toNat default) (b1_80 ++ [(GStmt.mk 8 (Str.mk []) [rv185.1] [rv133, rv192])]))]).length) k233]) (KS ?_))
   refine Oq Vm (Oq Vadd (Oq Va (KS ?_)))
   exact Kg (r64, rv188.2, (f1_46 ++ [(GBlock.mk ([(Str.mk [97]), (Str.mk [98]), (Str.mk [99])].getD k_47.toNat default) (b1_80 ++ [(GStmt.mk 8 (Str.mk []) [rv185.1] [rv133, rv192])]))]), (k_47 + 1), a232, k233) [1, 7, 0, 2, 2, 2, 2] ⟨(q3 hM50 (by simp only [tp_Program_L1, h62, h96, h143, h162, hg73, hR126, hg128, hg134, hg138, hg186, hg189, hg193, cs4])), aM1, aM1, aM1, aM1, aM1, aM1, iv1⟩
  intro h62
  have g236 := df h62
  obtain rfl : r44 = 0 := by omega
  refine Ke ?_
  have hR237 := q2 hM50 (ti_45, f1_46) (by simp only [tp_Program_L1, h62, cs4])
  refine KS ?_
  refine Oq (Vfa fo25_0 4) (Oq (VldF sh23 4) (Oq (VldA sh31 2) (Oa (AsV sl23 sz23 [.agg #[.string (bs ([(Str.mk [109]), (Str.mk [102]), (Str.mk [103])].getD i_14.toNat default)), vl a48 k49 f1_46]] [.string (bs ([(Str.mk [109]), (Str.mk [102]), (Str.mk [103])].getD i_14.toNat default)), vl a48 k49 f1_46]) fun c238 => ?_)))
  refine Jo 0 ?_; rintro a239 k240 rfl
  refine Jl [1] (Ent.freeze _ _) ?_
  refine Jl [1, 0] (Ent.cr1 (α := GFunc) (A := [S a48 k49 f1_46]) _ (GFunc.mk ([(Str.mk [109]), (Str.mk [102]), (Str.mk [103])].getD i_14.toNat default) f1_46) _ aB1 (fun h => ⟨_, rfl, aS1, sepAll_get (i := 0) rfl h⟩)) ?_
  refine Oa (ApO [5, 0] sl23 sl23 sz23) fun c241 => ?_
  refine Jo 0 ?_; rintro a242 k243 rfl
  refine Fb 40 0 fun _ => ?_
  have hn245 := la p0_13 ([(GFunc.mk ([(Str.mk [109]), (Str.mk [102]), (Str.mk [103])].getD i_14.toNat default) f1_46)] : List GFunc)
  refine Oq (Vfa fo25_0 5) (Ost (SclF [5] sh23 [vl a242 k243 (p0_13 ++ [(GFunc.mk ([(Str.mk [109]), (Str.mk [102]), (Str.mk [103])].getD i_14.toNat default) f1_46)])]) (KS ?_))
  refine Oq Vm (Oq Vadd (Oq Va (KS ?_)))
  exact Kg (r30, ti_45, (p0_13 ++ [(GFunc.mk ([(Str.mk [109]), (Str.mk [102]), (Str.mk [103])].getD i_14.toNat default) f1_46)]), (i_14 + 1), a242, k243) [1, 3, 0, 3, 3] ⟨(q3 hM17 (by simp only [tp_Program_L0, h28, h62, hg39, hR237, cs4])), aM1, aM1, aM1, aM1, aM1, aM1, iv1⟩
 intro h28
 have g246 := df h28
 obtain rfl : r11 = 0 := by omega
 refine Ke ?_
 have hR247 := q2 hM17 (ti_12, p0_13) (by simp only [tp_Program_L0, h28, cs4])
 refine KS ?_
 refine Oq (VldA sh25 2) (Ost (Scl [3] sh25 [vl a15 k16 p0_13]) (KS ?_))
 refine Jl [1] (Ent.freeze _ _) ?_
 have hq := q4 hrr ((GProgram.mk p0_13), ti_12) (by simp only [tp_Program, h28, hg6, hR247, cs4]); subst hq
 exact Kr (vl a15 k16 p0_13) rfl (.cellN 1 rfl sh25 rfl (reads_Cl _ _) rfl .nil) [0, 2] en
theorem fn82 (text : Str) (htext_0 : text.b.length ≤ 140737488355328) (rr : List GToken × Int × Int × Int) (hrr : r4_Scan text = .ret rr) : FT Tryz.prog 82 #[.string (bs text)] [] (fun g : Value => i64ok rr.2.1 ∧ i64ok rr.2.2.1 ∧ i64ok rr.2.2.2) (fun g => .tuple #[g, vi rr.2.1, vi rr.2.2.1, vi rr.2.2.2]) (fun g => [sl g rr.1]) := by
 refine FTi Tryz.func82 fun w0 M0 F0 => ?_
 have hx0 := lrn rr; have H := hrr; unfold r4_Scan at H
 refine KS ?_
 refine Oq Va (Oq Va (Oq Va (Oq Va (KS ?_))))
 refine Oq Vm (Oq (VlS un9 (l := text)) (Oq Vgtr (KS ?_)))
 refine pF H hx0 fun h1 H => ?_
 refine KcF h1 ?_
 have g2 := df h1
 refine KS ?_
 refine Oq Va (KS ?_)
 refine Oq Va (Oq Va (Oq Va (KS ?_)))
 refine Oq Va (KS ?_)
 refine Jl [] (Ent.osNil (α := GToken)) ?_
 refine llH H hx0 fun X13 hX14 hx15 HL16 => ?_
 refine Kl (γ := Nat × List GToken × Int × Bool × Int × Option Addr × Nat) (fun (r3, out_4, col_5, open__6, i_7, a8, k9) => ⟨[(0, .string (bs text)), (6, vl a8 k9 out_4), (7, vi 1), (8, vi col_5), (9, vb open__6), (10, vi i_7)], [O a8 k9 out_4], r4_Scan_L0 text r3 out_4 col_5 open__6 i_7 = X13 ∧ (-9223372036854775808 ≤ col_5 ∧ col_5 ≤ 9223372036854775807) ∧ (-9223372036854775808 ≤ i_7 ∧ i_7 ≤ 9223372036854775807), r3⟩) (100000, [], 1, false, 0, none, 0) [0] ⟨hX14, aM1, aM1⟩ ?_
 rintro ⟨r3, out_4, col_5, open__6, i_7, a8, k9⟩ ⟨hM10, hk11, hk12⟩
 refine JJ_nx fun _ _ hL hA => ?_; dsimp only at hL hA; subst hL hA
 refine Fb 40 0 fun _ => ?_
 rcases r3 with _ | r3
 ·exact absurd (hM10.symm.trans rfl) hx15
 have H := hM10; (try dsimp only at H); rw [r4_Scan_L0] at H
 refine KS ?_
 refine Oq Vm (Oq Vm (Oq (VlS un9 (l := text)) (Oq Vlss (KS ?_))))
 refine KcH H ?_ ?_
 ·intro h18 H
  have g19 := dt h18
  refine KS ?_
  refine Oq Vm (Oq Vm ?_)
  refine pC H hx15 fun hc20 H => ?_
  refine Oq (Vix un9 (l := text)) ?_
  have hb21 := u8b (text.b.getD i_7.toNat 0)
  refine Oq Va (KS ?_)
  refine Oq Vm (Oq Veql (Oq Vm ?_))
  refine JsH 28 H ?_ ?_
  ·intro h22 H
   have g23 := eq_of_beq h22
   refine Osk (Osk (Oq Vpt (Oq Va (KS ?_))))
   refine Kt (KS ?_)
   refine Oq Vm ?_
   refine pC H hx15 fun hc24 H => ?_
   refine Oq Vadd (Oq Vm ?_)
   refine pC H hx15 fun hc25 H => ?_
   refine Oq Vadd (Oq Va (Oq Va (KS ?_)))
   exact Kg (r3, out_4, (col_5 + 1), open__6, (i_7 + 1), a8, k9) [0] ⟨H, aM1, aM1⟩
  intro h22 H
  have g26 := ne_of_beq_false h22
  refine Oq Vm (Oq Veql (Oq Vpf (Oq Va (KS ?_))))
  refine pF H hx15 fun h27 H => ?_
  refine KcF h27 ?_
  have g28 := ne_of_beq_false h27
  refine KS ?_
  refine Oq Vm (Oq Veql (Oq Vm ?_))
  refine pF H hx15 fun h29 H => ?_
  refine JsF 39 h29 ?_
  have g30 := ne_of_beq_false h29
  refine Oq Vm (Oq Veql (Oq Vpf (Oq Vm ?_)))
  refine JsH 43 H ?_ ?_
  ·intro h31 H
   have g32 := eq_of_beq h31
   refine Osk (Osk (Oq Vpt (Oq Va (KS ?_))))
   refine Kt (KS ?_)
   refine Oq Vm (KS ?_)
   refine pT H hx15 fun h33 H => ?_
   refine KcT h33 ?_
   refine KS ?_
   refine Oq Vm (Oq Vm (Oq Vm (Oq (Vbd st123 [vi 3, .string (bs (Str.mk [])), vi 1, vi col_5]) (Oa (AsV sl114 sz114 [.agg #[vi 3, .string (bs (Str.mk [])), vi 1, vi col_5]] [vi 3, .string (bs (Str.mk [])), vi 1, vi col_5]) fun c35 => ?_))))
   refine Jo 0 ?_; rintro a36 k37 rfl
   refine Jl [0] (Ent.cr1 (α := GToken) (A := []) _ (GToken.mk 3 (Str.mk []) 1 col_5) _ aB1 (fun h => ⟨rfl, aL1, aS1, aL1, aL1⟩)) ?_
   refine pC H hx15 fun hc38 H => ?_
   refine Oa (ApO [1, 0] sl114 sl114 sz114) fun c39 => ?_
   refine Jo 0 ?_; rintro a40 k41 rfl
   refine Fb 40 0 fun _ => ?_
   have hn43 := la out_4 ([(GToken.mk 3 (Str.mk []) 1 col_5)] : List GToken)
   refine Oq Va (KS ?_)
   refine Oq Va (KS ?_)
   refine llH H hx15 fun X46 hX47 hx48 HL49 => ?_
   refine Kl (γ := Nat) (fun r44 => ⟨[(0, .string (bs text)), (7, vi 1), (8, vi col_5), (10, vi i_7), (11, .int .u8 ((text.b.getD i_7.toNat 0).toNat : Int)), (6, vl a40 k41 (out_4 ++ [(GToken.mk 3 (Str.mk []) 1 col_5)])), (9, vb false)], [O a40 k41 ((out_4 ++ [(GToken.mk 3 (Str.mk []) 1 col_5)]) : List GToken)], r4_Scan_L1 ((text.b.getD i_7.toNat 0).toNat : Int) r44 = X46, r44⟩) 1 [0] hX47 ?_
   rintro r44 hM45
   refine JJ_nx fun _ _ hL hA => ?_; dsimp only at hL hA; subst hL hA
   refine Fb 40 0 fun _ => ?_
   rcases r44 with _ | r44
   ·exact absurd (hM45.symm.trans rfl) hx48
   have H := hM45; (try dsimp only at H); rw [r4_Scan_L1] at H
   refine KS ?_
   refine Oq Vm (Oq Veql (Oq Vm ?_))
   refine pF H hx48 fun h51 H => ?_
   refine JsF 56 h51 ?_
   have g52 := ne_of_beq_false h51
   refine Osk (Osk (Osk (Osk (Oq Vpf (Oq Vm (Osk (Osk (Osk (Osk ?_)))))))))
   refine Oq Vpf (KS ?_)
   refine Kf ?_
   refine Ke ?_
   have H := llB H HL49
   refine KS ?_
   refine Oq Vm (Oq Veql (KS ?_))
   refine Kc ?_ ?_
   ·intro h53
    have g54 := eq_of_beq h53
    refine KS ?_
    refine Oq Vm ?_
    refine pC H hx15 fun hc55 H => ?_
    refine Oq Vadd (Oq Vm ?_)
    refine pC H hx15 fun hc56 H => ?_
    refine Oq Vadd (Oq Va (Oq Va (KS ?_)))
    refine Oq Vm (Oq Vm (Oq (VlS un9 (l := text)) (Oq Vlss (Oq Vm ?_))))
    refine pT H hx15 fun h57 H => ?_
    refine JsT 82 h57 ?_
    have g58 := dt h57
    refine Oq Vm (Oq Vm ?_)
    refine pC H hx15 fun hc59 H => ?_
    refine Oq (Vix un9 (l := text)) ?_
    have hb60 := u8b (text.b.getD ((i_7 + 1) : Int).toNat 0)
    refine Oq Veql (Oq Vpt (Oq Vm ?_))
    refine pF H hx15 fun h61 H => ?_
    refine JsF 88 h61 ?_
    have g62 := ne_of_beq_false h61
    refine Osk (Osk (Oq Vpf (KS ?_)))
    refine Kf (KS ?_)
    exact Kg (r3, (out_4 ++ [(GToken.mk 3 (Str.mk []) 1 col_5)]), (col_5 + 1), false, (i_7 + 1), a40, k41) [0] ⟨H, aM1, aM1⟩
   intro h53
   exact absurd h53 (by first | (simp [h31]; done) | (simp only [bne, h31]; decide) | (simp only [bne, h31, Bool.not_true, Bool.not_false]; decide) | (exfalso; omega) | (intro hq; simp only [bne, hq, Bool.not_false, Bool.not_true, reduceCtorEq] at h31))
  intro h31 H
  have g63 := ne_of_beq_false h31
  refine Oq Vm (Oq Veql (Oq Vpf (Oq Va (KS ?_))))
  refine pF H hx15 fun h64 H => ?_
  refine KcF h64 ?_
  have g65 := ne_of_beq_false h64
  refine KS ?_
  refine Oq Vm (Oq Veql (Oq Va (KS ?_)))
  refine KcH H ?_ ?_
  ·intro h66 H
   have g67 := eq_of_beq h66
   refine KS ?_
   refine Oq Vm (Oq Vm (Oq Vm (Oq (Vbd st123 [vi 2, .string (bs (Str.mk [61])), vi 1, vi col_5]) (Oa (AsV sl114 sz114 [.agg #[vi 2, .string (bs (Str.mk [61])), vi 1, vi col_5]] [vi 2, .string (bs (Str.mk [61])), vi 1, vi col_5]) fun c68 => ?_))))
   refine Jo 0 ?_; rintro a69 k70 rfl
   refine Jl [0] (Ent.cr1 (α := GToken) (A := []) _ (GToken.mk 2 (Str.mk [61]) 1 col_5) _ aB1 (fun h => ⟨rfl, aL1, aS1, aL1, aL1⟩)) ?_
   refine pC H hx15 fun hc71 H => ?_
   refine Oa (ApO [1, 0] sl114 sl114 sz114) fun c72 => ?_
   refine Jo 0 ?_; rintro a73 k74 rfl
   refine Fb 40 0 fun _ => ?_
   have hn76 := la out_4 ([(GToken.mk 2 (Str.mk [61]) 1 col_5)] : List GToken)
   refine Oq Va (KS ?_)
   refine Oq Vm ?_
   refine pC H hx15 fun hc77 H => ?_
   refine Oq Vadd (Oq Vm ?_)
   refine pC H hx15 fun hc78 H => ?_
   refine Oq Vadd (Oq Va (Oq Va (Oq Va (KS ?_))))
   exact Kg (r3, (out_4 ++ [(GToken.mk 2 (Str.mk [61]) 1 col_5)]), (col_5 + 1), true, (i_7 + 1), a73, k74) [0] ⟨H, aM1, aM1⟩
  intro h66 H
  have g79 := ne_of_beq_false h66
  refine KS ?_
  refine Oq Vm ?_
  refine lvH H fun rv80 hg81 H => ?_
  have hc82 := fn78 (((text.b.getD i_7.toNat 0).toNat : Int)) pre rv80 hg81
  refine Oc [] ca78 hc82 ?_
  rintro - -
  refine Oq Vm ?_
  refine pT H hx15 fun h83 H => ?_
  refine JsT 112 h83 ?_
  refine Osk (Osk (Oq Vpt (Oq Va (KS ?_))))
  refine Kt (KS ?_)
  refine Oq Va (KS ?_)
  refine llH H hx15 fun X89 hX90 hx91 HL92 => ?_
  refine Kl (γ := Nat × Int) (fun (r85, n_86) => ⟨[(0, .string (bs text)), (6, vl a8 k9 out_4), (7, vi 1), (8, vi col_5), (10, vi i_7), (11, .int .u8 ((text.b.getD i_7.toNat 0).toNat : Int)), (12, vi n_86)], [O a8 k9 out_4], r4_Scan_L2 text i_7 r85 n_86 = X89 ∧ (-9223372036854775808 ≤ n_86 ∧ n_86 ≤ 9223372036854775807), r85⟩) (100000, 0) [0] ⟨hX90, aM1⟩ ?_
  rintro ⟨r85, n_86⟩ ⟨hM87, hk88⟩
  refine JJ_nx fun _ _ hL hA => ?_; dsimp only at hL hA; subst hL hA
  refine Fb 40 0 fun _ => ?_
  rcases r85 with _ | r85
  ·exact absurd (hM87.symm.trans rfl) hx91
  have H := hM87; (try dsimp only at H); rw [r4_Scan_L2] at H
  refine KS ?_
  refine Oq Vm (Oq Vm ?_)
  refine pC H hx91 fun hc94 H => ?_
  refine Oq Vadd (Oq Vm (Oq (VlS un9 (l := text)) (Oq Vlss (Oq Vm ?_))))
  refine JsH 122 H ?_ ?_
  ·intro h95 H
   have g96 := dt h95
   refine Oq Vm (Oq Vm (Oq Vm (Oq Vadd ?_)))
   refine pC H hx91 fun hc97 H => ?_
   refine pC H hx91 fun hc98 H => ?_
   refine Oq (Vix un9 (l := text)) ?_
   have hb99 := u8b (text.b.getD ((i_7 + n_86) : Int).toNat 0)
   refine lvH H fun rv100 hg101 H => ?_
   have hc102 := fn78 (((text.b.getD ((i_7 + n_86) : Int).toNat 0).toNat : Int)) pre rv100 hg101
   refine Oc [] ca78 hc102 ?_
   rintro - -
   refine Oq Vm ?_
   refine JsH 129 H ?_ ?_
   ·intro h103 H
    refine Osk (Osk (Osk (Osk (Osk (Osk (Oq Vpt (Oq Vpt (KS ?_))))))))
    refine Kt (KS ?_)
    refine Oq Vm ?_
    refine pC H hx91 fun hc105 H => ?_
    refine Oq Vadd (Oq Va (KS ?_))
    exact Kg (r85, (n_86 + 1)) [0] ⟨H, aM1⟩
   intro h103 H
   refine Oq Vm (Oq Vm (Oq Vm (Oq Vadd (Oq (Vix un9 (l := text)) ?_))))
   have hb107 := u8b (text.b.getD ((i_7 + n_86) : Int).toNat 0)
   refine pC H hx91 fun hc110 H => ?_
   refine pC H hx91 fun hc111 H => ?_
   refine lvH H fun rv108 hg109 H => ?_
   have hc112 := fn79 (((text.b.getD ((i_7 + n_86) : Int).toNat 0).toNat : Int)) pre rv108 hg109
   refine Oc [] ca79 hc112 ?_
   rintro - -
   refine Oq Vpf (Oq Vpt (KS ?_))
   refine pF H hx91 fun h113 H => ?_
   refine KcF h113 ?_
   refine Ke ?_
   have H := llB H HL92
   refine KS ?_
   refine Oq Vm ?_
   refine lvH H fun rv115 hg116 H => ?_
   have hc117 := fn79 (((text.b.getD i_7.toNat 0).toNat : Int)) pre rv115 hg116
   refine Oc [] ca79 hc117 ?_
   rintro - -
   refine KS ?_
   refine pF H hx15 fun h118 H => ?_
   refine KcF h118 ?_
   refine KS ?_
   refine Oq Vm (Oq Vgtr (KS ?_))
   refine pF H hx15 fun h120 H => ?_
   refine KcF h120 ?_
   have g121 := df h120
   refine KS ?_
   refine Oq Vm (Oq Vm (Oq Vm (Oq Vm (Oq Vm (Oq Vadd ?_)))))
   refine pC H hx15 fun hc122 H => ?_
   refine pC H hx15 fun hc123 H => ?_
   refine Oq (VslS un9 (l := text)) ?_
   have hb124 := sub_len3 text i_7.toNat ((i_7 + n_86) : Int).toNat
   refine Oq Vm (Oq Vm (Oq (Vbd st123 [vi 1, .string (bs (text.sub i_7.toNat ((i_7 + n_86) : Int).toNat)), vi 1, vi col_5]) (Oa (AsV sl114 sz114 [.agg #[vi 1, .string (bs (text.sub i_7.toNat ((i_7 + n_86) : Int).toNat)), vi 1, vi col_5]] [vi 1, .string (bs (text.sub i_7.toNat ((i_7 + n_86) : Int).toNat)), vi 1, vi col_5]) fun c125 => ?_)))
   refine Jo 0 ?_; rintro a126 k127 rfl
   refine Jl [0] (Ent.cr1 (α := GToken) (A := []) _ (GToken.mk 1 (text.sub i_7.toNat ((i_7 + n_86) : Int).toNat) 1 col_5) _ aB1 (fun h => ⟨rfl, aL1, aS1, aL1, aL1⟩)) ?_
   refine pC H hx15 fun hc128 H => ?_
   refine Oa (ApO [1, 0] sl114 sl114 sz114) fun c129 => ?_
   refine Jo 0 ?_; rintro a130 k131 rfl
   refine Fb 40 0 fun _ => ?_
   have hn133 := la out_4 ([(GToken.mk 1 (text.sub i_7.toNat ((i_7 + n_86) : Int).toNat) 1 col_5)] : List GToken)
   refine Oq Va (KS ?_)
   refine Oq Vm (Oq Vm (Oq Vadd (Oq Vm (Oq Vm ?_))))
   refine pC H hx15 fun hc134 H => ?_
   refine pC H hx15 fun hc135 H => ?_
   refine Oq Vadd (Oq Va (Oq Va (Oq Va (KS ?_))))
   exact Kg (r3, (out_4 ++ [(GToken.mk 1 (text.sub i_7.toNat ((i_7 + n_86) : Int).toNat) 1 col_5)]), (col_5 + n_86), true, (i_7 + n_86), a130, k131) [0] ⟨H, aM1, aM1⟩
  intro h95 H
  have g136 := df h95
  refine Osk (Osk (Osk (Osk (Osk (Osk (Osk (Osk (Osk (Osk ?_)))))))))
  refine Osk (Osk (Osk (Osk (Oq Vpf (KS ?_)))))
  refine Kf ?_
  refine Ke ?_
  have H := llB H HL92
  refine KS ?_
  refine Oq Vm ?_
  refine lvH H fun rv137 hg138 H => ?_
  have hc139 := fn79 (((text.b.getD i_7.toNat 0).toNat : Int)) pre rv137 hg138
  refine Oc [] ca79 hc139 ?_
  rintro - -
  refine KS ?_
  refine pF H hx15 fun h140 H => ?_
  refine KcF h140 ?_
  refine KS ?_
  refine Oq Vm (Oq Vgtr (KS ?_))
  refine pF H hx15 fun h142 H => ?_
  refine KcF h142 ?_
  have g143 := df h142
  refine KS ?_
  refine Oq Vm (Oq Vm (Oq Vm (Oq Vm (Oq Vm (Oq Vadd ?_)))))
  refine pC H hx15 fun hc144 H => ?_
  refine pC H hx15 fun hc145 H => ?_
  refine Oq (VslS un9 (l := text)) ?_
  have hb146 := sub_len3 text i_7.toNat ((i_7 + n_86) : Int).toNat
  refine Oq Vm (Oq Vm (Oq (Vbd st123 [vi 1, .string (bs (text.sub i_7.toNat ((i_7 + n_86) : Int).toNat)), vi 1, vi col_5]) (Oa (AsV sl114 sz114 [.agg #[vi 1, .string (bs (text.sub i_7.toNat ((i_7 + n_86) : Int).toNat)), vi 1, vi col_5]] [vi 1, .string (bs (text.sub i_7.toNat ((i_7 + n_86) : Int).toNat)), vi 1, vi col_5]) fun c147 => ?_)))
  refine Jo 0 ?_; rintro a148 k149 rfl
  refine Jl [0] (Ent.cr1 (α := GToken) (A := []) _ (GToken.mk 1 (text.sub i_7.toNat ((i_7 + n_86) : Int).toNat) 1 col_5) _ aB1 (fun h => ⟨rfl, aL1, aS1, aL1, aL1⟩)) ?_
  refine pC H hx15 fun hc150 H => ?_
  refine Oa (ApO [1, 0] sl114 sl114 sz114) fun c151 => ?_
  refine Jo 0 ?_; rintro a152 k153 rfl
  refine Fb 40 0 fun _ => ?_
  have hn155 := la out_4 ([(GToken.mk 1 (text.sub i_7.toNat ((i_7 + n_86) : Int).toNat) 1 col_5)] : List GToken)
  refine Oq Va (KS ?_)
  refine Oq Vm (Oq Vm (Oq Vadd (Oq Vm (Oq Vm ?_))))
  refine pC H hx15 fun hc156 H => ?_
  refine pC H hx15 fun hc157 H => ?_
  refine Oq Vadd (Oq Va (Oq Va (Oq Va (KS ?_))))
  exact Kg (r3, (out_4 ++ [(GToken.mk 1 (text.sub i_7.toNat ((i_7 + n_86) : Int).toNat) 1 col_5)]), (col_5 + n_86), true, (i_7 + n_86), a152, k153) [0] ⟨H, aM1, aM1⟩
 intro h18 H
 have g158 := df h18
 refine Ke ?_
 have H := llB H HL16
 dsimp only at H
 refine KS ?_
 refine Oq Vm (KS ?_)
 refine pT H hx0 fun h159 H => ?_
 refine KcT h159 ?_
 refine KS ?_
 refine Oq Vm (Oq Vm (Oq Vm (Oq (Vbd st123 [vi 3, .string (bs (Str.mk [])), vi 1, vi col_5]) (Oa (AsV sl114 sz114 [.agg #[vi 3, .string (bs (Str.mk [])), vi 1, vi col_5]] [vi 3, .string (bs (Str.mk [])), vi 1, vi col_5]) fun c161 => ?_))))
 refine Jo 0 ?_; rintro a162 k163 rfl
 refine Jl [0] (Ent.cr1 (α := GToken) (A := []) _ (GToken.mk 3 (Str.mk []) 1 col_5) _ aB1 (fun h => ⟨rfl, aL1, aS1, aL1, aL1⟩)) ?_
 refine pC H hx0 fun hc164 H => ?_
 refine Oa (ApO [1, 0] sl114 sl114 sz114) fun c165 => ?_
 refine Jo 0 ?_; rintro a166 k167 rfl
 refine Fb 40 0 fun _ => ?_
 have hn169 := la out_4 ([(GToken.mk 3 (Str.mk []) 1 col_5)] : List GToken)
 refine Oq Va (KS ?_)
 refine Oq Vm (Oq Va (Oq Va (Oq Va (Oq Va (KS ?_)))))
 refine Jl [0] (Ent.freeze _ _) ?_
 have hq := rI H; subst hq
 exact Kr (vl a166 k167 (out_4 ++ [(GToken.mk 3 (Str.mk []) 1 col_5)])) rfl (.tmp rfl (.tmp rfl (.tmp rfl (.tmp rfl .nil)))) [0] en
theorem fn83 (pP : Value) (p : Gparser) (pa0 : Option Addr) (pk0 : Nat) (word : Str) (hp_1 : i64ok p.at_) (hp_2 : i64ok p.Err) (hword_0 : word.b.length ≤ 140737488355328) (rr : Bool) (hrr : pz_is p word = .ret rr) : FT Tryz.prog 83 #[pP, .string (bs word)] [Cl pP [vl pa0 pk0 p.l, vi p.at_, vi p.Err], S pa0 pk0 p.l] (fun g : Unit => True) (fun g => vb rr) (fun g => [Cl pP [vl pa0 pk0 p.l, vi p.at_, vi p.Err]]) := by
 refine FTi Tryz.func83 fun w0 M0 F0 => ?_
 unfold i64ok at hp_1 hp_2
 refine Fb 40 1 fun _ => ?_
 have hx0 := lrn rr; have H := hrr; unfold pz_is at H
 refine KS ?_
 refine Oq Va (KS ?_)
 refine Jp 0 fun hp2 => ?_
 refine pT H hx0 fun h3 H => ?_
 have g4 := eq_of_beq h3
 refine pS H ?_ ?_
 ·intro h5 H
  have g6 := dt h5
  refine pC H hx0 fun hc7 H => ?_
  refine JJ_peek_GToken p.at_.toNat 2 rfl rng fun hb8 hb9 hb10 hb11 => ?_
  unfold i64ok at hb8 hb10 hb11
  refine Kq [0, 1, 3, 7, 15, 31, 63, 127, 255, 511, 63, 1087, 3135, 7231, 15423, 32767, 65535, 131071, 262143, 524287, 1048575, 2097151, 262143, 4456447, 12845055, 29622271, 67108863, 134217727, 268435455, 536870911, 1073741823, 2147483647, 4294967295, 8589934591, 17179869183, 34359738367, 4294967295, 73014444031, 210453397503, 485331304447, 1099511627775, 2199023255551, 4398046511103, 4294967295, 17592186044415, 35184372088831, 70368744177663] fmix ?_
  refine Qv [] Vm (Qv [1] (Vn 0) (Qv [1] (Vfa fo119_2 0) (Qv [2] (VldF sh39 0) (Qb h3 [] Veql (Qv [] Vm (Qv [] Vm (Qv [1] (Vn 0) (Qv [1] (Vfa fo119_1 0) (Qv [2] (VldF sh3 0) ?_)))))))))
  refine Qv [] Vm (Qv [1] (Vn 0) (Qv [1] (Vfa fo119_0 0) (Qv [2] (VldF sh114 0) (Qv [] (Vlen sl114) (Qb h5 [] Vlss (Qv [] Vpt (Qv [] Vm (Qv [] Vm (Qv [1] (Vn 0) ?_)))))))))
  refine Qv [1] (Vfa fo119_0 0) (Qv [2] (VldF sh114 0) (Qv [] Vm (Qv [1] (Vn 0) (Qv [1] (Vfa fo119_1 0) (Qv [2] (VldF sh3 0) (Qv [3] (Vi sl114 0) (Qv [0] (Vfa fo123_0 0) (Qv [0] (VldF sh3 0) (Qv [] Veql ?_)))))))))
  refine Qv [] Vpt ?_
  refine pC H hx0 fun hc13 H => ?_
  refine pT H hx0 fun h12 H => ?_
  have g14 := eq_of_beq h12
  refine Qb h12 [] Vm (Qv [] Vm (Qv [1] (Vn 0) (Qv [1] (Vfa fo119_0 0) (Qv [2] (VldF sh114 0) (Qv [] Vm (Qv [1] (Vn 0) (Qv [1] (Vfa fo119_1 0) (Qv [2] (VldF sh3 0) (Qv [3] (Vi sl114 0) ?_)))))))))
  refine Qv [0] (Vfa fo123_1 0) (Qv [0] (VldF sh9 0) (Qv [] Vm (Qv [] (VeqS (l := (p.l.getD p.at_.toNat default).Text) (m := word)) (Qv [] Vpt (Qv [] Va ?_)))))
  refine Qn ⟨by kernel_rfl, ?_⟩
  refine pC H hx0 fun hc15 H => ?_
  have hq := rI H; subst hq
  exact Kr () rfl (.tmp rfl .nil) [2] trivial
 intro h5 H
 have g16 := df h5
 refine Kq [0, 1, 3, 7, 15, 31, 63, 127, 255, 511, 63, 1087, 3135, 7231, 15423, 32767, 65535, 131071, 262143, 524287, 1048575, 2097151, 262143, 4456447, 12845055, 29622271, 67108863, 134217727, 268435455, 536870911, 1073741823, 2147483647, 4294967295, 8589934591, 17179869183, 34359738367, 4294967295, 73014444031, 210453397503, 485331304447, 1099511627775, 2199023255551, 4398046511103, 4294967295, 17592186044415, 35184372088831, 70368744177663] fmix ?_
 refine Qv [] Vm (Qv [0] (Vn 0) (Qv [0] (Vfa fo119_2 0) (Qv [1] (VldF sh39 0) (Qb h3 [] Veql (Qv [] Vm (Qv [] Vm (Qv [0] (Vn 0) (Qv [0] (Vfa fo119_1 0) (Qv [1] (VldF sh3 0) ?_)))))))))
 refine Qv [] Vm (Qv [0] (Vn 0) (Qv [0] (Vfa fo119_0 0) (Qv [1] (VldF sh114 0) (Qv [] (Vlen sl114) (Qb h5 [] Vlss (Qv [] Vpt (Qv [] Vm (Qs (Qs ?_)))))))))
 refine Qs (Qs (Qs (Qs (Qs (Qs (Qs (Qs (Qs (Qs ?_)))))))))
 refine Qv [] Vpf (Qv [] Vm (Qs (Qs (Qs (Qs (Qs (Qs (Qs (Qs ?_)))))))))
 refine Qs (Qs (Qs (Qs (Qs (Qv [] Vpf (Qv [] Va ?_))))))
 refine Qn ⟨by kernel_rfl, ?_⟩
 have hq := rI H; subst hq
 exact Kr () rfl (.tmp rfl .nil) [1] trivial
theorem fn107 (pP : Value) (p : Gparser) (pa0 : Option Addr) (pk0 : Nat) (w : Str) (hp_1 : i64ok p.at_) (hp_2 : i64ok p.Err) (hw_0 : w.b.length ≤ 140737488355328) (rr : Gparser) (hrr : pz_word p w = .ret rr) : FT Tryz.prog 107 #[pP, .string (bs w)] [Cl pP [vl pa0 pk0 p.l, vi p.at_, vi p.Err], S pa0 pk0 p.l] (fun g : Unit => i64ok rr.at_ ∧ i64ok rr.Err) (fun g => .tuple #[]) (fun g => [Cl pP [vl pa0 pk0 p.l, vi rr.at_, vi rr.Err]]) := by
 refine FTi Tryz.func107 fun w0 M0 F0 => ?_
 unfold i64ok at hp_1 hp_2
 refine Fb 40 1 fun _ => ?_
 have hx0 := lrn rr; have H := hrr; unfold pz_word at H
 refine KS ?_
 refine Oq Vm (Oq Vm ?_)
 refine lbH H hx0 fun rv2 hg3 H => ?_
 have hc4 := fn83 pP p pa0 pk0 w pre pre pre rv2 hg3
 refine Oc [0, 0] ca83 hc4 ?_
 rintro - -
 refine Oq Vnot (KS ?_)
 refine pF H hx0 fun h5 H => ?_
 refine KcF h5 ?_
 have h7 := not_false h5
 refine KS ?_
 refine Oq Vm (Oq (Vn 0) (Oq (Vfa fo119_1 0) (Oq (VldF sh3 0) ?_)))
 refine pC H hx0 fun hc9 H => ?_
 refine Oq Vadd (Oq (Vn 0) (Oq (Vfa fo119_1 0) (Ost (SclF [0] sh3 [vl pa0 pk0 p.l, vi (p.at_ + 1), vi p.Err]) (KS ?_))))
 have hq := rI H; subst hq
 exact Kz () rfl .nil [0] en
theorem fn117 (pP : Value) (p : Gparser) (pa0 : Option Addr) (pk0 : Nat) (hp_1 : i64ok p.at_) (hp_2 : i64ok p.Err) (rr : Bool) (hrr : pz_isName p = .ret rr) : FT Tryz.prog 117 #[pP] [Cl pP [vl pa0 pk0 p.l, vi p.at_, vi p.Err], S pa0 pk0 p.l] (fun g : Unit => True) (fun g => vb rr) (fun g => [Cl pP [vl pa0 pk0 p.l, vi p.at_, vi p.Err]]) := by
 refine FTi Tryz.func117 fun w0 M0 F0 => ?_
 unfold i64ok at hp_1 hp_2
 refine Fb 40 1 fun _ => ?_
 have hx0 := lrn rr; have H := hrr; unfold pz_isName at H
 refine KS ?_
 refine Oq Va (KS ?_)
 refine Jp 0 fun hp2 => ?_
 refine pT H hx0 fun h3 H => ?_
 have g4 := eq_of_beq h3
 refine pT H hx0 fun h5 H => ?_
 have g6 := dt h5
 refine pC H hx0 fun hc7 H => ?_
 refine JJ_peek_GToken p.at_.toNat 2 rfl rng fun hb8 hb9 hb10 hb11 => ?_
 unfold i64ok at hb8 hb10 hb11
 refine JK_drawK [0, 1, 3, 7, 15, 31, 63, 127, 255, 511, 63, 1087, 3135, 7231, 15423, 32767, 65535, 131071, 262143, 524287, 1048575, 2097151, 262143, 4456447, 12845055, 29622271, 67108863, 134217727, 268435455, 536870911, 1073741823, 2147483647, 4294967295, 8589934591, 17179869183, 34359738367, 4294967295, 73014444031, 210453397503, 485331304447, 1099511627775, 2199023255551, 4398046511103, 8796093022207, 17592186044415, 35184372088831] fmix ?_
 refine Dv [] Vm (Dv [1] (Vn 0) (Dv [1] (Vfa fo119_2 0) (Dv [2] (VldF sh39 0) (Db h3 [] Veql (Dv [] Vm (Dv [] Vm (Dv [1] (Vn 0) (Dv [1] (Vfa fo119_1 0) (Dv [2] (VldF sh3 0) ?_)))))))))
 refine Dv [] Vm (Dv [1] (Vn 0) (Dv [1] (Vfa fo119_0 0) (Dv [2] (VldF sh114 0) (Dv [] (Vlen sl114) (Db h5 [] Vlss (Dv [] Vpt (Dv [] Vm (Dv [] Vm (Dv [1] (Vn 0) ?_)))))))))
 refine Dv [1] (Vfa fo119_0 0) (Dv [2] (VldF sh114 0) (Dv [] Vm (Dv [1] (Vn 0) (Dv [1] (Vfa fo119_1 0) (Dv [2] (VldF sh3 0) (Dv [3] (Vi sl114 0) (Dv [0] (Vfa fo123_0 0) (Dv [0] (VldF sh3 0) (Dv [] Veql ?_)))))))))
 refine Dv [] Vpt ?_
 refine pC H hx0 fun hc13 H => ?_
 refine pS H ?_ ?_
 ·intro h12 H
  have g14 := eq_of_beq h12
  refine Db h12 [] Vm (Dv [] Vm (Dv [1] (Vn 0) (Dv [1] (Vfa fo119_0 0) (Dv [2] (VldF sh114 0) (Dv [] Vm (Dv [1] (Vn 0) (Dv [1] (Vfa fo119_1 0) (Dv [2] (VldF sh3 0) (Dv [3] (Vi sl114 0) ?_)))))))))
  refine Dv [0] (Vfa fo123_1 0) (Dv [0] (VldF sh9 0) ?_)
  refine pC H hx0 fun hc17 H => ?_
  refine lvH H fun rv15 hg16 H => ?_
  refine Dx [] [] [0] (fun G => vb rv15) [fun G => SP.fact (True)] (fun G => xC [] ca51 (fn51 ((p.l.getD p.at_.toNat default).Text) pre rv15 hg16)) (Dv [] Vpt (Dv [] Va ?_))
  refine Dn ⟨by kernel_rfl, fun G => ?_⟩
  refine Jw2 [(2, vb rv15)] [0, 1, 2, 3] [SP.fact (True)] ?_
  refine Jk [0, 2, 2] ?_
  have hq := rI H; subst hq
  exact Kr () rfl (.tmp rfl .nil) [1] trivial
 intro h12 H
 have g18 := ne_of_beq_false h12
 refine Db h12 [] Vm (Ds (Ds (Ds (Ds (Ds (Ds (Ds (Ds (Ds ?_)))))))))
 refine Ds (Ds (Ds (Dv [] Vpf (Dv [] Va ?_))))
 refine Dn ⟨by kernel_rfl, fun G => ?_⟩
 refine Jw2 [(2, vb false)] [0, 1, 2, 3] [] ?_
 refine Jk [0, 2, 2] ?_
 have hq := rI H; subst hq
 exact Kr () rfl (.tmp rfl .nil) [1] trivial
theorem fn108 (pP : Value) (p : Gparser) (pa0 : Option Addr) (pk0 : Nat) (hp_1 : i64ok p.at_) (hp_2 : i64ok p.Err) (rr : Str × Gparser) (hrr : pz_name p = .ret rr) : FT Tryz.prog 108 #[pP] [Cl pP [vl pa0 pk0 p.l, vi p.at_, vi p.Err], S pa0 pk0 p.l] (fun g : Unit => rr.1.b.length ≤ 140737488355328 ∧ i64ok rr.2.at_ ∧ i64ok rr.2.Err) (fun g => .string (bs rr.1)) (fun g => [Cl pP [vl pa0 pk0 p.l, vi rr.2.at_, vi rr.2.Err]]) := by
 refine FTi Tryz.func108 fun w0 M0 F0 => ?_
 unfold i64ok at hp_1 hp_2
 refine Fb 40 1 fun _ => ?_
 have hx0 := lrn rr; have H := hrr; unfold pz_name at H
 refine KS ?_
 refine Oq Va (KS ?_)
 refine Oq Vm ?_
 refine lbH H hx0 fun rv2 hg3 H => ?_
 have hc4 := fn117 pP p pa0 pk0 pre pre rv2 hg3
 refine Oc [0, 0] ca117 hc4 ?_
 rintro - -
 refine Oq Vnot (KS ?_)
 refine pF H hx0 fun h5 H => ?_
 refine KcF h5 ?_
 have h7 := not_false h5
 refine KS ?_
 refine Oq Vm (Oq (Vn 0) (Oq (Vfa fo119_1 0) (Oq (VldF sh3 0) ?_)))
 refine pC H hx0 fun hc9 H => ?_
 refine Oq Vadd (Oq (Vn 0) (Oq (Vfa fo119_1 0) (Ost (SclF [0] sh3 [vl pa0 pk0 p.l, vi (p.at_ + 1), vi p.Err]) (KS ?_))))
 refine Jp 0 fun hp10 => ?_
 refine pC H hx0 fun hc11 H => ?_
 refine pC H hx0 fun hc12 H => ?_
 refine JJ_peek_GToken (((p.at_ + 1) - 1) : Int).toNat 2 rfl rng fun hb13 hb14 hb15 hb16 => ?_
 unfold i64ok at hb13 hb15 hb16
 refine Kq [0, 1, 3, 7, 0, 16, 48, 112, 240, 511, 1023, 2047, 4095] fmix ?_
 refine Qv [] Vm (Qv [1] (Vn 0) (Qv [1] (Vfa fo119_0 0) (Qv [2] (VldF sh114 0) (Qv [] Vm (Qv [1] (Vn 0) (Qv [1] (Vfa fo119_1 0) (Qv [2] (VldF sh3 0) (Qv [] Vsub (Qv [3] (Vi sl114 0) ?_)))))))))
 refine Qv [0] (Vfa fo123_1 0) (Qv [0] (VldF sh9 0) (Qv [] Va ?_))
 refine Qn ⟨by kernel_rfl, ?_⟩
 refine pC H hx0 fun hc17 H => ?_
 have hq := rI H; subst hq
 exact Kr () rfl (.tmp rfl .nil) [2] en
theorem fn118 (pP : Value) (p : Gparser) (pa0 : Option Addr) (pk0 : Nat) (k : Int) (hp_1 : i64ok p.at_) (hp_2 : i64ok p.Err) (hk_0 : i64ok k) (rr : Bool) (hrr : pz_isKind p k = .ret rr) : FT Tryz.prog 118 #[pP, vi k] [Cl pP [vl pa0 pk0 p.l, vi p.at_, vi p.Err], S pa0 pk0 p.l] (fun g : Unit => True) (fun g => vb rr) (fun g => [Cl pP [vl pa0 pk0 p.l, vi p.at_, vi p.Err]]) := by
 refine FTi Tryz.func118 fun w0 M0 F0 => ?_
 unfold i64ok at hp_1 hp_2 hk_0
 refine Fb 40 1 fun _ => ?_
 have hx0 := lrn rr; have H := hrr; unfold pz_isKind at H
 refine KS ?_
 refine Oq Va (KS ?_)
 refine Jp 0 fun hp2 => ?_
 refine pT H hx0 fun h3 H => ?_
 have g4 := eq_of_beq h3
 refine pT H hx0 fun h5 H => ?_
 have g6 := dt h5
 refine pC H hx0 fun hc7 H => ?_
 refine JJ_peek_GToken p.at_.toNat 2 rfl rng fun hb8 hb9 hb10 hb11 => ?_
 unfold i64ok at hb8 hb10 hb11
 refine Kq [0, 1, 3, 7, 15, 31, 63, 127, 255, 511, 63, 1087, 3135, 7231, 15423, 32767, 65535, 131071, 262143, 524287, 1048575, 2097151, 262143, 4456447, 12845055, 29622271, 67108863, 134217727, 268435455, 262143, 1073741823, 2147483647, 4294967295] fmix ?_
 refine Qv [] Vm (Qv [1] (Vn 0) (Qv [1] (Vfa fo119_2 0) (Qv [2] (VldF sh39 0) (Qb h3 [] Veql (Qv [] Vm (Qv [] Vm (Qv [1] (Vn 0) (Qv [1] (Vfa fo119_1 0) (Qv [2] (VldF sh3 0) ?_)))))))))
 refine Qv [] Vm (Qv [1] (Vn 0) (Qv [1] (Vfa fo119_0 0) (Qv [2] (VldF sh114 0) (Qv [] (Vlen sl114) (Qb h5 [] Vlss (Qv [] Vpt (Qv [] Vm (Qv [] Vm (Qv [1] (Vn 0) ?_)))))))))
 refine Qv [1] (Vfa fo119_0 0) (Qv [2] (VldF sh114 0) (Qv [] Vm (Qv [1] (Vn 0) (Qv [1] (Vfa fo119_1 0) (Qv [2] (VldF sh3 0) (Qv [3] (Vi sl114 0) (Qv [0] (Vfa fo123_0 0) (Qv [0] (VldF sh3 0) (Qv [] Vm ?_)))))))))
 refine Qv [] Veql (Qv [] Vpt (Qv [] Va ?_))
 refine Qn ⟨by kernel_rfl, ?_⟩
 refine pC H hx0 fun hc12 H => ?_
 have hq := rI H; subst hq
 exact Kr () rfl (.tmp rfl .nil) [2] trivial
theorem fn109 (pP : Value) (p : Gparser) (pa0 : Option Addr) (pk0 : Nat) (hp_1 : i64ok p.at_) (hp_2 : i64ok p.Err) (rr : Gparser) (hrr : pz_end p = .ret rr) : FT Tryz.prog 109 #[pP] [Cl pP [vl pa0 pk0 p.l, vi p.at_, vi p.Err], S pa0 pk0 p.l] (fun g : Unit => i64ok rr.at_ ∧ i64ok rr.Err) (fun g => .tuple #[]) (fun g => [Cl pP [vl pa0 pk0 p.l, vi rr.at_, vi rr.Err]]) := by
 refine FTi Tryz.func109 fun w0 M0 F0 => ?_
 unfold i64ok at hp_1 hp_2
 refine Fb 40 1 fun _ => ?_
 have hx0 := lrn rr; have H := hrr; unfold pz_end at H
 refine KS ?_
 refine Oq Vm ?_
 refine lbH H hx0 fun rv2 hg3 H => ?_
 have hc4 := fn118 pP p pa0 pk0 3 pre pre pre rv2 hg3
 refine Oc [0, 0] ca118 hc4 ?_
 rintro - -
 refine Oq Vnot (KS ?_)
 refine pF H hx0 fun h5 H => ?_
 refine KcF h5 ?_
 have h7 := not_false h5
 refine KS ?_
 refine Oq Vm (Oq (Vn 0) (Oq (Vfa fo119_1 0) (Oq (VldF sh3 0) ?_)))
 refine pC H hx0 fun hc9 H => ?_
 refine Oq Vadd (Oq (Vn 0) (Oq (Vfa fo119_1 0) (Ost (SclF [0] sh3 [vl pa0 pk0 p.l, vi (p.at_ + 1), vi p.Err]) (KS ?_))))
 have hq := rI H; subst hq
 exact Kz () rfl .nil [0] en
theorem fn119 (pP : Value) (p : Gparser) (pa0 : Option Addr) (pk0 : Nat) (hp_1 : i64ok p.at_) (hp_2 : i64ok p.Err) (rr : Bool) (hrr : pz_begins p = .ret rr) : FT Tryz.prog 119 #[pP] [Cl pP [vl pa0 pk0 p.l, vi p.at_, vi p.Err], S pa0 pk0 p.l] (fun g : Unit => True) (fun g => vb rr) (fun g => [Cl pP [vl pa0 pk0 p.l, vi p.at_, vi p.Err]]) := by
 refine FTi Tryz.func119 fun w0 M0 F0 => ?_
 unfold i64ok at hp_1 hp_2
 refine Fb 40 1 fun _ => ?_
 have hx0 := lrn rr; have H := hrr; unfold pz_begins at H
 refine KS ?_
 refine Oq Va (KS ?_)
 refine Oa (AsV sl35 sz35 [.string (bs (Str.mk [117, 115, 101])), .string (bs (Str.mk [99, 97, 108, 108])), .string (bs (Str.mk [115, 111, 117, 114, 99, 101])), .string (bs (Str.mk [115, 105, 110, 107])), .string (bs (Str.mk [115, 97, 110, 105, 116, 105, 122, 101])), .string (bs (Str.mk [103, 111, 116, 111])), .string (bs (Str.mk [98, 114, 97, 110, 99, 104])), .string (bs (Str.mk [114, 101, 116, 117, 114, 110]))] [.string (bs (Str.mk [117, 115, 101])), .string (bs (Str.mk [99, 97, 108, 108])), .string (bs (Str.mk [115, 111, 117, 114, 99, 101])), .string (bs (Str.mk [115, 105, 110, 107])), .string (bs (Str.mk [115, 97, 110, 105, 116, 105, 122, 101])), .string (bs (Str.mk [103, 111, 116, 111])), .string (bs (Str.mk [98, 114, 97, 110, 99, 104])), .string (bs (Str.mk [114, 101, 116, 117, 114, 110]))]) fun c2 => ?_
 refine Jo 0 ?_; rintro a3 k4 rfl
 refine Oq Va (KS ?_)
 refine Oq Va (KS ?_)
 refine Jl [0] (Ent.crOs (α := Str) (A := []) _ ([(Str.mk [117, 115, 101]), (Str.mk [99, 97, 108, 108]), (Str.mk [115, 111, 117, 114, 99, 101]), (Str.mk [115, 105, 110, 107]), (Str.mk [115, 97, 110, 105, 116, 105, 122, 101]), (Str.mk [103, 111, 116, 111]), (Str.mk [98, 114, 97, 110, 99, 104]), (Str.mk [114, 101, 116, 117, 114, 110])] : List Str) _ aB1 (fun h => ⟨[.string (bs (Str.mk [117, 115, 101]))], [.string (bs (Str.mk [99, 97, 108, 108])), .string (bs (Str.mk [115, 111, 117, 114, 99, 101])), .string (bs (Str.mk [115, 105, 110, 107])), .string (bs (Str.mk [115, 97, 110, 105, 116, 105, 122, 101])), .string (bs (Str.mk [103, 111, 116, 111])), .string (bs (Str.mk [98, 114, 97, 110, 99, 104])), .string (bs (Str.mk [114, 101, 116, 117, 114, 110]))], rfl, (fun _ => ⟨rfl, by first | omega | (simp; done) | (dsimp only; omega) | exact lit_bl rfl⟩) h, ⟨[.string (bs (Str.mk [99, 97, 108, 108]))], [.string (bs (Str.mk [115, 111, 117, 114, 99, 101])), .string (bs (Str.mk [115, 105, 110, 107])), .string (bs (Str.mk [115, 97, 110, 105, 116, 105, 122, 101])), .string (bs (Str.mk [103, 111, 116, 111])), .string (bs (Str.mk [98, 114, 97, 110, 99, 104])), .string (bs (Str.mk [114, 101, 116, 117, 114, 110]))], rfl, (fun _ => ⟨rfl, by first | omega | (simp; done) | (dsimp only; omega) | exact lit_bl rfl⟩) h, ⟨[.string (bs (Str.mk [115, 111, 117, 114, 99, 101]))], [.string (bs (Str.mk [115, 105, 110, 107])), .string (bs (Str.mk [115, 97, 110, 105, 116, 105, 122, 101])), .string (bs (Str.mk [103, 111, 116, 111])), .string (bs (Str.mk [98, 114, 97, 110, 99, 104])), .string (bs (Str.mk [114, 101, 116, 117, 114, 110]))], rfl, (fun _ => ⟨rfl, by first | omega | (simp; done) | (dsimp only; omega) | exact lit_bl rfl⟩) h, ⟨[.string (bs (Str.mk [115, 105, 110, 107]))], [.string (bs (Str.mk [115, 97, 110, 105, 116, 105, 122, 101])), .string (bs (Str.mk [103, 111, 116, 111])), .string (bs (Str.mk [98, 114, 97, 110, 99, 104])), .string (bs (Str.mk [114, 101, 116, 117, 114, 110]))], rfl, (fun _ => ⟨rfl, by first | omega | (simp; done) | (dsimp only; omega) | exact lit_bl rfl⟩) h, ⟨[.string (bs (Str.mk [115, 97, 110, 105, 116, 105, 122, 101]))], [.string (bs (Str.mk [103, 111, 116, 111])), .string (bs (Str.mk [98, 114, 97, 110, 99, 104])), .string (bs (Str.mk [114, 101, 116, 117, 114, 110]))], rfl, (fun _ => ⟨rfl, by first | omega | (simp; done) | (dsimp only; omega) | exact lit_bl rfl⟩) h, ⟨[.string (bs (Str.mk [103, 111, 116, 111]))], [.string (bs (Str.mk [98, 114, 97, 110, 99, 104])), .string (bs (Str.mk [114, 101, 116, 117, 114, 110]))], rfl, (fun _ => ⟨rfl, by first | omega | (simp; done) | (dsimp only; omega) | exact lit_bl rfl⟩) h, ⟨[.string (bs (Str.mk [98, 114, 97, 110, 99, 104]))], [.string (bs (Str.mk [114, 101, 116, 117, 114, 110]))], rfl, (fun _ => ⟨rfl, by first | omega | (simp; done) | (dsimp only; omega) | exact lit_bl rfl⟩) h, ⟨[.string (bs (Str.mk [114, 101, 116, 117, 114, 110]))], [], rfl, (fun _ => ⟨rfl, by first | omega | (simp; done) | (dsimp only; omega) | exact lit_bl rfl⟩) h, rfl⟩⟩⟩⟩⟩⟩⟩⟩)) ?_
 refine Fb 16 0 fun _ => ?_
 refine FoS 0 fun ho6 => ?_
 refine llH H hx0 fun X14 hX15 hx16 HL17 => ?_
 refine Kl (γ := Nat × Int) (fun (r7, i_8) => ⟨[(0, pP), (3, .slice a3 8 k4), (4, vi i_8)], [os (.slice a3 8 k4) ([(Str.mk [117, 115, 101]), (Str.mk [99, 97, 108, 108]), (Str.mk [115, 111, 117, 114, 99, 101]), (Str.mk [115, 105, 110, 107]), (Str.mk [115, 97, 110, 105, 116, 105, 122, 101]), (Str.mk [103, 111, 116, 111]), (Str.mk [98, 114, 97, 110, 99, 104]), (Str.mk [114, 101, 116, 117, 114, 110])] : List Str), Cl pP [vl pa0 pk0 p.l, vi p.at_, vi p.Err], S pa0 pk0 p.l], pz_begins_L0 p r7 i_8 = X14 ∧ r7 = ((((8 : Nat) : Int) : Int) - i_8).toNat ∧ (0 : Int) ≤ i_8 ∧ (i_8 ≤ ((8 : Nat) : Int) ∨ i_8 = 0) ∧ (-9223372036854775808 ≤ i_8 ∧ i_8 ≤ 9223372036854775807), r7⟩) (((((8 : Nat) : Int) : Int) - 0).toNat, 0) [0, 0, 0] ⟨hX15, rfl, aM1, (.inr rfl), aM1⟩ ?_
 rintro ⟨r7, i_8⟩ ⟨hM9, hr10, hi11, hi12, hk13⟩
 refine JJ_nx fun _ _ hL hA => ?_; dsimp only at hL hA; subst hL hA
 refine Fb 16 0 fun _ => ?_
 refine FoS 0 fun ho19 => ?_
 refine Fl 0 fun hn20 => Fb 40 2 fun _ => ?_
 refine KS ?_
 refine Oq Vm (Oq Vm (Oq (Vlen sl35) (Oq Vlss (KS ?_))))
 refine Kc ?_ ?_
 ·intro h22
  have g23 := dt h22
  obtain ⟨r24, rfl⟩ := scc (n := r7) aM1
  have H := hM9; (try dsimp only at H); rw [pz_begins_L0] at H
  refine KS ?_
  refine Oq Vm (Oq Vm (Oq Vm ?_))
  refine pC H hx16 fun hc25 H => ?_
  refine Oq (Vi sl35 0) ?_
  have hb26 := okS (i := i_8.toNat) ho19 rng
  refine Oq (VldS sh9 0) ?_
  refine lbH H hx16 fun rv27 hg28 H => ?_
  have hc29 := fn83 pP p pa0 pk0 (([(Str.mk [117, 115, 101]), (Str.mk [99, 97, 108, 108]), (Str.mk [115, 111, 117, 114, 99, 101]), (Str.mk [115, 105, 110, 107]), (Str.mk [115, 97, 110, 105, 116, 105, 122, 101]), (Str.mk [103, 111, 116, 111]), (Str.mk [98, 114, 97, 110, 99, 104]), (Str.mk [114, 101, 116, 117, 114, 110])].getD i_8.toNat default)) pre pre pre rv27 hg28
  refine Oc [1, 1] ca83 hc29 ?_
  rintro - -
  refine KS ?_
  refine KcH H ?_ ?_
  ·intro h30 H
   refine KS ?_
   refine Oq Va (KS ?_)
   have H := llR H HL17
   have hq := rI H; subst hq
   exact Kr () rfl (.tmp rfl .nil) [0] trivial
  intro h30 H
  refine KS ?_
  refine Oq Vm (Oq Vadd (Oq Va (KS ?_)))
  refine pC H hx16 fun hc33 H => ?_
  exact Kg (r24, (i_8 + 1)) [1, 0, 0] ⟨H, aM1, aM1, aM1, aM1⟩
 intro h22
 have g34 := df h22
 obtain rfl : r7 = 0 := by omega
 have H := hM9; (try dsimp only at H); rw [pz_begins_L0] at H
 refine Ke ?_
 have H := llB H HL17
 refine KS ?_
 refine Oq Vm ?_
 refine lbH H hx0 fun rv35 hg36 H => ?_
 have hc37 := fn117 pP p pa0 pk0 pre pre rv35 hg36
 refine Oc [1, 1] ca117 hc37 ?_
 rintro - -
 refine Oq Va (KS ?_)
 have hq := rI H; subst hq
 exact Kr () rfl (.tmp rfl .nil) [0] trivial
theorem fn126 (pP : Value) (p : Gparser) (pa0 : Option Addr) (pk0 : Nat) (hp_1 : i64ok p.at_) (hp_2 : i64ok p.Err) (rr : List Str × Gparser) (hrr : pz_names p = .ret rr) : FT Tryz.prog 126 #[pP] [Cl pP [vl pa0 pk0 p.l, vi p.at_, vi p.Err], S pa0 pk0 p.l] (fun g : Value => i64ok rr.2.at_ ∧ i64ok rr.2.Err) (fun g => g) (fun g => [sl g rr.1, Cl pP [vl pa0 pk0 p.l, vi rr.2.at_, vi rr.2.Err]]) := by
 refine FTi Tryz.func126 fun w0 M0 F0 => ?_
 unfold i64ok at hp_1 hp_2
 refine Fb 40 1 fun _ => ?_
 have hx0 := lrn rr; have H := hrr; unfold pz_names at H
 refine KS ?_
 refine Oq Va (KS ?_)
 refine Oq Va (KS ?_)
 refine Jl [] (Ent.osNil (α := Str)) ?_
 refine llH H hx0 fun X11 hX12 hx13 HL14 => ?_
 refine Kl (γ := Nat × Int × Int × List Str × Option Addr × Nat) (fun (r2, p1_3, p2_4, out_5, a6, k7) => ⟨[(0, pP), (3, vl a6 k7 out_5)], [O a6 k7 out_5, Cl pP [vl pa0 pk0 p.l, vi p1_3, vi p2_4], S pa0 pk0 p.l], pz_names_L0 p r2 p1_3 p2_4 out_5 = X11 ∧ (-9223372036854775808 ≤ p1_3 ∧ p1_3 ≤ 9223372036854775807) ∧ (-9223372036854775808 ≤ p2_4 ∧ p2_4 ≤ 9223372036854775807), r2⟩) (100000, p.at_, p.Err, [], none, 0) [0, 0, 0] ⟨hX12, aM1, aM1⟩ ?_
 rintro ⟨r2, p1_3, p2_4, out_5, a6, k7⟩ ⟨hM8, hk9, hk10⟩
 refine JJ_nx fun _ _ hL hA => ?_; dsimp only at hL hA; subst hL hA
 refine Fb 16 0 fun _ => ?_
 refine FoS 0 fun ho16 => ?_
 refine Fb 40 2 fun _ => ?_
 rcases r2 with _ | r2
 ·exact absurd (hM8.symm.trans rfl) hx13
 have H := hM8; (try dsimp only at H); rw [pz_names_L0] at H
 refine KS ?_
 refine Oq Vm ?_
 refine lbH H hx13 fun rv18 hg19 H => ?_
 have hc20 := fn117 pP (Gparser.mk p.l p1_3 p2_4) pa0 pk0 pre pre rv18 hg19
 refine Oc [1, 1] ca117 hc20 ?_
 rintro - -
 refine KS ?_
 refine KcH H ?_ ?_
 ·intro h21 H
  refine KS ?_
  refine Oq Vm (Oq (Vlen sl35) (Oq Veql (KS ?_)))
  refine pF H hx13 fun h23 H => ?_
  refine KcF h23 ?_
  have g24 := ne_of_beq_false h23
  refine KS ?_
  refine Oq Vm (Oq Vm ?_)
  refine lbH H hx13 fun rv25 hg26 H => ?_
  have hc27 := fn108 pP (Gparser.mk p.l p1_3 p2_4) pa0 pk0 pre pre rv25 hg26
  refine Oc [0, 1] ca108 hc27 ?_
  rintro - ⟨he28, he29, he30⟩
  unfold i64ok at he29 he30
  refine Oa (AsV sl35 sz35 [.string (bs rv25.1)] [.string (bs rv25.1)]) fun c31 => ?_
  refine Jo 0 ?_; rintro a32 k33 rfl
  refine Jl [0] (Ent.cr1 (α := Str) (A := []) _ rv25.1 _ aB1 (fun _ => ⟨rfl, aS1⟩)) ?_
  refine pC H hx13 fun hc34 H => ?_
  refine Oa (ApO [2, 0] sl35 sl35 sz35) fun c35 => ?_
  refine Jo 0 ?_; rintro a36 k37 rfl
  refine Fb 16 0 fun _ => ?_
  refine FoS 0 fun ho39 => ?_
  have hn40 := la out_5 ([rv25.1] : List Str)
  refine Oq Va (KS ?_)
  exact Kg (r2, rv25.2.at_, rv25.2.Err, (out_5 ++ [rv25.1]), a36, k37) [0, 0, 0] ⟨H, aM1, aM1⟩
 intro h21 H
 refine Ke ?_
 have H := llB H HL14
 dsimp only at H
 refine KS ?_
 refine Oq Vm (Oq Va (KS ?_))
 refine Jl [1] (Ent.freeze _ _) ?_
 have hq := rI H; subst hq
 exact Kr (vl a6 k7 out_5) rfl (.tmp rfl .nil) [0, 1] en
theorem fn120 (pP : Value) (p : Gparser) (pa0 : Option Addr) (pk0 : Nat) (hp_1 : i64ok p.at_) (hp_2 : i64ok p.Err) (rr : GStmt × Gparser) (hrr : pz_stmt p = .ret rr) : FT Tryz.prog 120 #[pP] [Cl pP [vl pa0 pk0 p.l, vi p.at_, vi p.Err], S pa0 pk0 p.l] (fun g : Value × Value => i64ok rr.1.Op ∧ rr.1.Def.b.length ≤ 140737488355328 ∧ i64ok rr.2.at_ ∧ i64ok rr.2.Err) (fun g => .agg #[vi rr.1.Op, .string (bs rr.1.Def), g.1, g.2]) (fun g => [sl g.1 rr.1.Uses, sl g.2 rr.1.Targets, Cl pP [vl pa0 pk0 p.l, vi rr.2.at_, vi rr.2.Err]]) := by
 refine FTi Tryz.func120 fun w0 M0 F0 => ?_
 unfold i64ok at hp_1 hp_2
 refine Fb 40 1 fun _ => ?_
 have hx0 := lrn rr; have H := hrr; unfold pz_stmt at H
 refine KS ?_
 refine Oa (Al ze37 [vi 0, .string (bs (Str.mk [])), .slice none 0 0, .slice none 0 0]) fun p2 => KS ?_
 refine Oa (Al ze37 [vi 0, .string (bs (Str.mk [])), .slice none 0 0, .slice none 0 0]) fun p3 => KS ?_
 refine Oq Va (KS ?_)
 refine Oq Vm ?_
 refine lbH H hx0 fun rv4 hg5 H => ?_
 have hc6 := fn117 pP p pa0 pk0 pre pre rv4 hg5
 refine Oc [2, 2] ca117 hc6 ?_
 rintro - -
 refine Oq Vnot (KS ?_)
 refine KcH H ?_ ?_
 ·intro h7 H
  have h9 := not_true h7
  refine KS ?_
  refine Jp 0 fun hp11 => ?_
  refine pC H hx0 fun hc12 H => ?_
  refine JJ_peek_GToken p.at_.toNat 4 rfl rng fun hb13 hb14 hb15 hb16 => ?_
  unfold i64ok at hb13 hb15 hb16
  refine Kq [0, 1, 3, 7, 0, 16, 48, 112, 255, 511, 1023, 2047] fmix ?_
  refine Qv [] Vm (Qv [1] (Vn 0) (Qv [1] (Vfa fo119_0 0) (Qv [2] (VldF sh114 0) (Qv [] Vm (Qv [1] (Vn 0) (Qv [1] (Vfa fo119_1 0) (Qv [2] (VldF sh3 0) (Qv [5] (Vi sl114 0) (Qv [0] (Vfa fo123_1 0) ?_)))))))))
  refine Qv [0] (VldF sh9 0) (Qv [] Va ?_)
  refine Qn ⟨by kernel_rfl, ?_⟩
  refine KS ?_
  refine Oq Vm (Oq (Vn 2) (Oq (Vfa fo119_1 2) (Oq (VldF sh3 2) ?_)))
  refine pC H hx0 fun hc17 H => ?_
  refine pC H hx0 fun hc18 H => ?_
  refine Oq Vadd (Oq (Vn 2) (Oq (Vfa fo119_1 2) (Ost (SclF [2] sh3 [vl pa0 pk0 p.l, vi (p.at_ + 1), vi p.Err]) (KS ?_))))
  refine Oq Vm (KS ?_)
  refine Oq (VeqS (l := (p.l.getD p.at_.toNat default).Text) (m := (Str.mk [117, 115, 101]))) (Oq Va (KS ?_))
  refine pF H hx0 fun h19 H => ?_
  refine KcF h19 ?_
  have g20 := ne_of_beq_false h19
  refine KS ?_
  refine Oq (VeqS (l := (p.l.getD p.at_.toNat default).Text) (m := (Str.mk [99, 97, 108, 108]))) (Oq Va (KS ?_))
  refine pF H hx0 fun h21 H => ?_
  refine KcF h21 ?_
  have g22 := ne_of_beq_false h21
  refine KS ?_
  refine Oq (VeqS (l := (p.l.getD p.at_.toNat default).Text) (m := (Str.mk [115, 111, 117, 114, 99, 101]))) (Oq Va (KS ?_))
  refine pF H hx0 fun h23 H => ?_
  refine KcF h23 ?_
  have g24 := ne_of_beq_false h23
  refine KS ?_
  refine Oq (VeqS (l := (p.l.getD p.at_.toNat default).Text) (m := (Str.mk [115, 105, 110, 107]))) (Oq Va (KS ?_))
  refine pF H hx0 fun h25 H => ?_
  refine KcF h25 ?_
  have g26 := ne_of_beq_false h25
  refine KS ?_
  refine Oq (VeqS (l := (p.l.getD p.at_.toNat default).Text) (m := (Str.mk [115, 97, 110, 105, 116, 105, 122, 101]))) (Oq Va (KS ?_))
  refine KcH H ?_ ?_
  ·intro h27 H
   have g28 := eq_of_beq h27
   refine KS ?_
   refine Oq Vm ?_
   refine lbH H hx0 fun rv29 hg30 H => ?_
   have hc31 := fn108 pP (Gparser.mk p.l (p.at_ + 1) p.Err) pa0 pk0 pre pre rv29 hg30
   refine Oc [0, 4] ca108 hc31 ?_
   rintro - ⟨he32, he33, he34⟩
   unfold i64ok at he33 he34
   refine Oq (Vfa fo37_0 3) (Ost (SclF [3] sh3 [vi 6, .string (bs (Str.mk [])), .slice none 0 0, .slice none 0 0]) (Oq (Vfa fo37_1 0) (Ost (SclF [0] sh9 [vi 6, .string (bs rv29.1), .slice none 0 0, .slice none 0 0]) (KS ?_))))
   refine Oq Vm ?_
   refine lbH H hx0 fun rv35 hg36 H => ?_
   have hc37 := fn109 pP (Gparser.mk p.l rv29.2.at_ rv29.2.Err) pa0 pk0 pre pre rv35 hg36
   refine Oc [1, 4] ca109 hc37 ?_
   rintro - ⟨he38, he39⟩
   unfold i64ok at he38 he39
   refine KS ?_
   refine Oq (VldA sh37 1) (Ost (Scl [4] sh37 [vi 6, .string (bs rv29.1), .slice none 0 0, .slice none 0 0]) (KS ?_))
   refine Jl [] (Ent.slNil (α := Str)) ?_
   have hq := rI H; subst hq
   exact Kr (.slice none 0 0, .slice none 0 0) rfl (.cellN 1 rfl sh37 rfl (reads_Cl _ _) rfl .nil) [0, 0, 2] en
  intro h27 H
  have g40 := ne_of_beq_false h27
  refine KS ?_
  refine Oq (VeqS (l := (p.l.getD p.at_.toNat default).Text) (m := (Str.mk [103, 111, 116, 111]))) (Oq Va (KS ?_))
  refine pF H hx0 fun h41 H => ?_
  refine KcF h41 ?_
  have g42 := ne_of_beq_false h41
  refine KS ?_
  refine Oq (VeqS (l := (p.l.getD p.at_.toNat default).Text) (m := (Str.mk [98, 114, 97, 110, 99, 104]))) (Oq Va (KS ?_))
  refine pF H hx0 fun h43 H => ?_
  refine KcF h43 ?_
  have g44 := ne_of_beq_false h43
  refine KS ?_
  refine Oq (VeqS (l := (p.l.getD p.at_.toNat default).Text) (m := (Str.mk [114, 101, 116, 117, 114, 110]))) (Oq Va (KS ?_))
  refine KcH H ?_ ?_
  ·intro h45 H
   have g46 := eq_of_beq h45
   refine KS ?_
   refine Oq (Vfa fo37_0 3) (Ost (SclF [3] sh3 [vi 9, .string (bs (Str.mk [])), .slice none 0 0, .slice none 0 0]) (KS ?_))
   refine Oq Vm ?_
   refine lbH H hx0 fun rv47 hg48 H => ?_
   have hc49 := fn109 pP (Gparser.mk p.l (p.at_ + 1) p.Err) pa0 pk0 pre pre rv47 hg48
   refine Oc [1, 4] ca109 hc49 ?_
   rintro - ⟨he50, he51⟩
   unfold i64ok at he50 he51
   refine KS ?_
   refine Oq (VldA sh37 1) (Ost (Scl [4] sh37 [vi 9, .string (bs (Str.mk [])), .slice none 0 0, .slice none 0 0]) (KS ?_))
   refine Jl [] (Ent.slNil (α := Str)) ?_
   have hq := rI H; subst hq
   exact Kr (.slice none 0 0, .slice none 0 0) rfl (.cellN 1 rfl sh37 rfl (reads_Cl _ _) rfl .nil) [0, 0, 2] en
  intro h45 H
  have g52 := ne_of_beq_false h45
  refine KS ?_
  refine Oq Vm ?_
  refine lbH H hx0 fun rv53 hg54 H => ?_
  have hc55 := fn108 pP (Gparser.mk p.l (p.at_ + 1) p.Err) pa0 pk0 pre pre rv53 hg54
  refine Oc [0, 4] ca108 hc55 ?_
  rintro - ⟨he56, he57, he58⟩
  unfold i64ok at he57 he58
  refine Oq (Vfa fo37_0 3) (Ost (SclF [3] sh3 [vi 1, .string (bs (Str.mk [])), .slice none 0 0, .slice none 0 0]) (Oq (Vfa fo37_1 0) (Ost (SclF [0] sh9 [vi 1, .string (bs rv53.1), .slice none 0 0, .slice none 0 0]) (KS ?_))))
  refine Oq Vm ?_
  refine lbH H hx0 fun rv59 hg60 H => ?_
  have hc61 := fn118 pP (Gparser.mk p.l rv53.2.at_ rv53.2.Err) pa0 pk0 2 pre pre pre rv59 hg60
  refine Oc [1, 4] ca118 hc61 ?_
  rintro - -
  refine Oq Vnot (KS ?_)
  refine pF H hx0 fun h62 H => ?_
  refine KcF h62 ?_
  have h64 := not_false h62
  refine KS ?_
  refine Oq Vm (Oq (Vn 0) (Oq (Vfa fo119_1 0) (Oq (VldF sh3 0) ?_)))
  refine pC H hx0 fun hc66 H => ?_
  refine Oq Vadd (Oq (Vn 0) (Oq (Vfa fo119_1 0) (Ost (SclF [0] sh3 [vl pa0 pk0 p.l, vi (rv53.2.at_ + 1), vi rv53.2.Err]) (KS ?_))))
  refine Oq Vm ?_
  refine lbH H hx0 fun rv68 hg69 H => ?_
  have hc70 := fn126 pP (Gparser.mk p.l (rv53.2.at_ + 1) rv53.2.Err) pa0 pk0 pre pre rv68 hg69
  refine Oc [0, 4] ca126 hc70 ?_
  rintro c67 ⟨he71, he72⟩
  unfold i64ok at he71 he72
  refine Jo 0 ?_; rintro a73 k74 rfl
  refine Fb 16 0 fun _ => ?_
  refine FoS 0 fun ho76 => ?_
  refine Oq (Vfa fo37_2 2) (Ost (SclF [2] sh35 [vi 1, .string (bs rv53.1), vl a73 k74 rv68.1, .slice none 0 0]) (KS ?_))
  refine Oq Vm ?_
  refine lbH H hx0 fun rv77 hg78 H => ?_
  have hc79 := fn109 pP (Gparser.mk p.l rv68.2.at_ rv68.2.Err) pa0 pk0 pre pre rv77 hg78
  refine Oc [2, 5] ca109 hc79 ?_
  rintro - ⟨he80, he81⟩
  unfold i64ok at he80 he81
  refine KS ?_
  refine Oq (VldA sh37 1) (Ost (Scl [5] sh37 [vi 1, .string (bs rv53.1), vl a73 k74 rv68.1, .slice none 0 0]) (KS ?_))
  refine Jl [] (Ent.slNil (α := Str)) ?_
  have hq := rI H; subst hq
  exact Kr (vl a73 k74 rv68.1, .slice none 0 0) rfl (.cellN 1 rfl sh37 rfl (reads_Cl _ _) rfl .nil) [4, 0, 2] en
 intro h7 H
 have h83 := not_false h7
 refine KS ?_
 refine Oq Vm (KS ?_)
 refine Oq (VeqS (l := (Str.mk [])) (m := (Str.mk [117, 115, 101]))) (Oq Va (KS ?_))
 refine pF H hx0 fun h85 H => ?_
 refine KcF h85 ?_
 have g86 := ne_of_beq_false h85
 refine KS ?_
 refine Oq (VeqS (l := (Str.mk [])) (m := (Str.mk [99, 97, 108, 108]))) (Oq Va (KS ?_))
 refine pF H hx0 fun h87 H => ?_
 refine KcF h87 ?_
 have g88 := ne_of_beq_false h87
 refine KS ?_
 refine Oq (VeqS (l := (Str.mk [])) (m := (Str.mk [115, 111, 117, 114, 99, 101]))) (Oq Va (KS ?_))
 refine pF H hx0 fun h89 H => ?_
 refine KcF h89 ?_
 have g90 := ne_of_beq_false h89
 refine KS ?_
 refine Oq (VeqS (l := (Str.mk [])) (m := (Str.mk [115, 105, 110, 107]))) (Oq Va (KS ?_))
 refine pF H hx0 fun h91 H => ?_
 refine KcF h91 ?_
 have g92 := ne_of_beq_false h91
 refine KS ?_
 refine Oq (VeqS (l := (Str.mk [])) (m := (Str.mk [115, 97, 110, 105, 116, 105, 122, 101]))) (Oq Va (KS ?_))
 refine KcH H ?_ ?_
 ·intro h93 H
  have g94 := eq_of_beq h93
  refine KS ?_
  refine Oq Vm ?_
  refine lbH H hx0 fun rv95 hg96 H => ?_
  have hc97 := fn108 pP p pa0 pk0 pre pre rv95 hg96
  refine Oc [0, 2] ca108 hc97 ?_
  rintro - ⟨he98, he99, he100⟩
  unfold i64ok at he99 he100
  refine Oq (Vfa fo37_0 1) (Ost (SclF [1] sh3 [vi 6, .string (bs (Str.mk [])), .slice none 0 0, .slice none 0 0]) (Oq (Vfa fo37_1 0) (Ost (SclF [0] sh9 [vi 6, .string (bs rv95.1), .slice none 0 0, .slice none 0 0]) (KS ?_))))
  refine Oq Vm ?_
  refine lbH H hx0 fun rv101 hg102 H => ?_
  have hc103 := fn109 pP (Gparser.mk p.l rv95.2.at_ rv95.2.Err) pa0 pk0 pre pre rv101 hg102
  refine Oc [1, 2] ca109 hc103 ?_
  rintro - ⟨he104, he105⟩
  unfold i64ok at he104 he105
  refine KS ?_
  refine Oq (VldA sh37 1) (Ost (Scl [2] sh37 [vi 6, .string (bs rv95.1), .slice none 0 0, .slice none 0 0]) (KS ?_))
  refine Jl [] (Ent.slNil (α := Str)) ?_
  have hq := rI H; subst hq
  exact Kr (.slice none 0 0, .slice none 0 0) rfl (.cellN 1 rfl sh37 rfl (reads_Cl _ _) rfl .nil) [0, 0, 2] en
 intro h93 H
 have g106 := ne_of_beq_false h93
 refine KS ?_
 refine Oq (VeqS (l := (Str.mk [])) (m := (Str.mk [103, 111, 116, 111]))) (Oq Va (KS ?_))
 refine pF H hx0 fun h107 H => ?_
 refine KcF h107 ?_
 have g108 := ne_of_beq_false h107
 refine KS ?_
 refine Oq (VeqS (l := (Str.mk [])) (m := (Str.mk [98, 114, 97, 110, 99, 104]))) (Oq Va (KS ?_))
 refine pF H hx0 fun h109 H => ?_
 refine KcF h109 ?_
 have g110 := ne_of_beq_false h109
 refine KS ?_
 refine Oq (VeqS (l := (Str.mk [])) (m := (Str.mk [114, 101, 116, 117, 114, 110]))) (Oq Va (KS ?_))
 refine KcH H ?_ ?_
 ·intro h111 H
  have g112 := eq_of_beq h111
  refine KS ?_
  refine Oq (Vfa fo37_0 1) (Ost (SclF [1] sh3 [vi 9, .string (bs (Str.mk [])), .slice none 0 0, .slice none 0 0]) (KS ?_))
  refine Oq Vm ?_
  refine lbH H hx0 fun rv113 hg114 H => ?_
  have hc115 := fn109 pP p pa0 pk0 pre pre rv113 hg114
  refine Oc [1, 2] ca109 hc115 ?_
  rintro - ⟨he116, he117⟩
  unfold i64ok at he116 he117
  refine KS ?_
  refine Oq (VldA sh37 1) (Ost (Scl [2] sh37 [vi 9, .string (bs (Str.mk [])), .slice none 0 0, .slice none 0 0]) (KS ?_))
  refine Jl [] (Ent.slNil (α := Str)) ?_
  have hq := rI H; subst hq
  exact Kr (.slice none 0 0, .slice none 0 0) rfl (.cellN 1 rfl sh37 rfl (reads_Cl _ _) rfl .nil) [0, 0, 2] en
 intro h111 H
 have g118 := ne_of_beq_false h111
 refine KS ?_
 refine Oq Vm ?_
 refine lbH H hx0 fun rv119 hg120 H => ?_
 have hc121 := fn108 pP p pa0 pk0 pre pre rv119 hg120
 refine Oc [0, 2] ca108 hc121 ?_
 rintro - ⟨he122, he123, he124⟩
 unfold i64ok at he123 he124
 refine Oq (Vfa fo37_0 1) (Ost (SclF [1] sh3 [vi 1, .string (bs (Str.mk [])), .slice none 0 0, .slice none 0 0]) (Oq (Vfa fo37_1 0) (Ost (SclF [0] sh9 [vi 1, .string (bs rv119.1), .slice none 0 0, .slice none 0 0]) (KS ?_))))
 refine Oq Vm ?_
 refine lbH H hx0 fun rv125 hg126 H => ?_
 have hc127 := fn118 pP (Gparser.mk p.l rv119.2.at_ rv119.2.Err) pa0 pk0 2 pre pre pre rv125 hg126
 refine Oc [1, 2] ca118 hc127 ?_
 rintro - -
 refine Oq Vnot (KS ?_)
 refine pF H hx0 fun h128 H => ?_
 refine KcF h128 ?_
 have h130 := not_false h128
 refine KS ?_
 refine Oq Vm (Oq (Vn 0) (Oq (Vfa fo119_1 0) (Oq (VldF sh3 0) ?_)))
 refine pC H hx0 fun hc132 H => ?_
 refine Oq Vadd (Oq (Vn 0) (Oq (Vfa fo119_1 0) (Ost (SclF [0] sh3 [vl pa0 pk0 p.l, vi (rv119.2.at_ + 1), vi rv119.2.Err]) (KS ?_))))
 refine Oq Vm ?_
 refine lbH H hx0 fun rv134 hg135 H => ?_
 have hc136 := fn126 pP (Gparser.mk p.l (rv119.2.at_ + 1) rv119.2.Err) pa0 pk0 pre pre rv134 hg135
 refine Oc [0, 2] ca126 hc136 ?_
 rintro c133 ⟨he137, he138⟩
 unfold i64ok at he137 he138
 refine Jo 0 ?_; rintro a139 k140 rfl
 refine Fb 16 0 fun _ => ?_
 refine FoS 0 fun ho142 => ?_
 refine Oq (Vfa fo37_2 2) (Ost (SclF [2] sh35 [vi 1, .string (bs rv119.1), vl a139 k140 rv134.1, .slice none 0 0]) (KS ?_))
 refine Oq Vm ?_
 refine lbH H hx0 fun rv143 hg144 H => ?_
 have hc145 := fn109 pP (Gparser.mk p.l rv134.2.at_ rv134.2.Err) pa0 pk0 pre pre rv143 hg144
 refine Oc [2, 3] ca109 hc145 ?_
 rintro - ⟨he146, he147⟩
 unfold i64ok at he146 he147
 refine KS ?_
 refine Oq (VldA sh37 1) (Ost (Scl [3] sh37 [vi 1, .string (bs rv119.1), vl a139 k140 rv134.1, .slice none 0 0]) (KS ?_))
 refine Jl [] (Ent.slNil (α := Str)) ?_
 have hq := rI H; subst hq
 exact Kr (vl a139 k140 rv134.1, .slice none 0 0) rfl (.cellN 1 rfl sh37 rfl (reads_Cl _ _) rfl .nil) [4, 0, 2] en
theorem fn110 (pP : Value) (p : Gparser) (pa0 : Option Addr) (pk0 : Nat) (hp_1 : i64ok p.at_) (hp_2 : i64ok p.Err) (rr : GBlock × Gparser) (hrr : pz_block p = .ret rr) : FT Tryz.prog 110 #[pP] [Cl pP [vl pa0 pk0 p.l, vi p.at_, vi p.Err], S pa0 pk0 p.l] (fun g : Value => rr.1.Name.b.length ≤ 140737488355328 ∧ i64ok rr.2.at_ ∧ i64ok rr.2.Err) (fun g => .agg #[.string (bs rr.1.Name), g]) (fun g => [sl g rr.1.Stmts, Cl pP [vl pa0 pk0 p.l, vi rr.2.at_, vi rr.2.Err]]) := by
 refine FTi Tryz.func110 fun w0 M0 F0 => ?_
 unfold i64ok at hp_1 hp_2
 refine Fb 40 1 fun _ => ?_
 have hx0 := lrn rr; have H := hrr; unfold pz_block at H
 refine KS ?_
 refine Oa (Al ze34 [.string (bs (Str.mk [])), .slice none 0 0]) fun p2 => KS ?_
 refine Oa (Al ze34 [.string (bs (Str.mk [])), .slice none 0 0]) fun p3 => KS ?_
 refine Oq Vm ?_
 refine lbH H hx0 fun rv4 hg5 H => ?_
 have hc6 := fn107 pP p pa0 pk0 ((Str.mk [98, 108, 111, 99, 107])) pre pre pre rv4 hg5
 refine Oc [2, 2] ca107 hc6 ?_
 rintro - ⟨he7, he8⟩
 unfold i64ok at he7 he8
 refine KS ?_
 refine Oq Vm ?_
 refine lbH H hx0 fun rv9 hg10 H => ?_
 have hc11 := fn108 pP (Gparser.mk p.l rv4.at_ rv4.Err) pa0 pk0 pre pre rv9 hg10
 refine Oc [0, 2] ca108 hc11 ?_
 rintro - ⟨he12, he13, he14⟩
 unfold i64ok at he13 he14
 refine Oq (Vfa fo34_0 1) (Ost (SclF [1] sh9 [.string (bs rv9.1), .slice none 0 0]) (KS ?_))
 refine Oq Vm ?_
 refine lbH H hx0 fun rv15 hg16 H => ?_
 have hc17 := fn109 pP (Gparser.mk p.l rv9.2.at_ rv9.2.Err) pa0 pk0 pre pre rv15 hg16
 refine Oc [1, 2] ca109 hc17 ?_
 rintro - ⟨he18, he19⟩
 unfold i64ok at he18 he19
 refine KS ?_
 refine Oq Vm ?_
 refine lbH H hx0 fun rv20 hg21 H => ?_
 have hc22 := fn119 pP (Gparser.mk p.l rv15.at_ rv15.Err) pa0 pk0 pre pre rv20 hg21
 refine Oc [0, 2] ca119 hc22 ?_
 rintro - -
 refine Oq Vnot (KS ?_)
 refine pF H hx0 fun h23 H => ?_
 refine KcF h23 ?_
 have h25 := not_false h23
 refine KS ?_
 refine Jl [] (Ent.osNil (α := GStmt)) ?_
 refine llH H hx0 fun X36 hX37 hx38 HL39 => ?_
 refine Kl (γ := Nat × Int × Int × List GStmt × Option Addr × Nat) (fun (r27, p1_28, p2_29, b1_30, a31, k32) => ⟨[(0, pP), (2, p2), (3, p3)], [O a31 k32 b1_30, Cl pP [vl pa0 pk0 p.l, vi p1_28, vi p2_29], Cl p3 [.string (bs rv9.1), vl a31 k32 b1_30], Cl p2 [.string (bs (Str.mk [])), .slice none 0 0], S pa0 pk0 p.l], pz_block_L0 p r27 p1_28 p2_29 b1_30 = X36 ∧ (-9223372036854775808 ≤ p1_28 ∧ p1_28 ≤ 9223372036854775807) ∧ (-9223372036854775808 ≤ p2_29 ∧ p2_29 ≤ 9223372036854775807), r27⟩) (100000, rv15.at_, rv15.Err, [], none, 0) [0, 0, 0, 0, 0] ⟨hX37, aM1, aM1⟩ ?_
 rintro ⟨r27, p1_28, p2_29, b1_30, a31, k32⟩ ⟨hM33, hk34, hk35⟩
 refine JJ_nx fun _ _ hL hA => ?_; dsimp only at hL hA; subst hL hA
 refine Fb 72 0 fun _ => Fb 40 4 fun _ => ?_
 rcases r27 with _ | r27
 ·exact absurd (hM33.symm.trans rfl) hx38
 have H := hM33; (try dsimp only at H); rw [pz_block_L0] at H
 refine KS ?_
 refine Oq Vm ?_
 refine lbH H hx38 fun rv42 hg43 H => ?_
 have hc44 := fn119 pP (Gparser.mk p.l p1_28 p2_29) pa0 pk0 pre pre rv42 hg43
 refine Oc [1, 3] ca119 hc44 ?_
 rintro - -
 refine KS ?_
 refine KcH H ?_ ?_
 ·intro h45 H
  refine KS ?_
  refine Oq (Vfa fo34_1 2) (Oq (VldF sh32 2) (Oq (Vlen sl32) (Oq Veql (KS ?_))))
  refine pF H hx38 fun h47 H => ?_
  refine KcF h47 ?_
  have g48 := ne_of_beq_false h47
  refine KS ?_
  refine Jp 2 fun hp49 => ?_
  refine JK_drawK [0, 1, 0, 4, 12, 31, 63, 127] fmix ?_
  refine Dv [0] (Vfa fo34_1 0) (Dv [3] (VldF sh32 0) (Dv [] Vm ?_))
  refine lbH H hx38 fun rv52 hg53 H => ?_
  refine Dx [1, 5] [1] [4, 0, 1, 2, 3] (fun G => .agg #[vi rv52.1.Op, .string (bs rv52.1.Def), (G.g 3 0), (G.g 3 1)]) [fun G => SP.fact (i64ok rv52.1.Op ∧ rv52.1.Def.b.length ≤ 140737488355328 ∧ i64ok rv52.2.at_ ∧ i64ok rv52.2.Err), fun G => sl (G.g 3 0) rv52.1.Uses, fun G => sl (G.g 3 1) rv52.1.Targets, fun G => Cl pP [vl pa0 pk0 p.l, vi rv52.2.at_, vi rv52.2.Err]] (fun G => xC [0, 0] ca120 (fn120 pP (Gparser.mk p.l p1_28 p2_29) pa0 pk0 pre pre rv52 hg53)) (Dx [] [] [0] (fun G => (G.g 4 0)) [fun G => Cr (G.g 4 0) 1 [vi rv52.1.Op, .string (bs rv52.1.Def), (G.g 3 0), (G.g 3 1)]] (fun G => xA (AsV sl32 sz32 [.agg #[vi rv52.1.Op, .string (bs rv52.1.Def), (G.g 3 0), (G.g 3 1)]] [vi rv52.1.Op, .string (bs rv52.1.Def), (G.g 3 0), (G.g 3 1)])) ?_)
  refine pC H hx38 fun hc55 H => ?_
  have hn57 := la b1_30 ([rv52.1] : List GStmt)
  refine Dx [2, 6, 7, 8, 10] [2, 10] [3, 1, 2, 0] (fun G => (G.g 5 0)) [fun G => os (G.g 5 0) ((b1_30 ++ [rv52.1]) : List GStmt)] (fun G => by refine xf 1 rfl ?_; rintro ⟨he58, he59, he60, he61⟩; unfold i64ok at he58 he60 he61; exact xp [4, 2, 3] rfl (Ent.cr1 (α := GStmt) (A := [sl (G.g 3 0) rv52.1.Uses, sl (G.g 3 1) rv52.1.Targets]) _ rv52.1 _ aB1 (fun h => ⟨_, _, rfl, aL1, aS1, sepAll_get (i := 0) rfl h, sepAll_get (i := 1) rfl h⟩)) (xA (ApO [3, 0] sl32 sl32 sz32))) (Dv [0] (Vfa fo34_1 0) (Dx0 [3, 11] [3] [1, 0] [fun G => Cl p3 [.string (bs rv9.1), (G.g 5 0)]] (fun G => x1 1 rfl os_one fun ho62 => (xS (OpS.frame [0] rfl (OpS.storeClF [(G.g 5 0)] [.string (bs rv9.1), (G.g 5 0)] rfl rfl rfl sh32 (cells_of_one ho62) rfl (by simp only [List.all_cons, List.all_nil, ho62, Bool.and_true, Bool.true_and] <;> rfl) aB1 rfl)))) ?_))
  refine Dn ⟨by kernel_rfl, fun G => ?_⟩
  refine Jw2 [(0, pP), (2, p2), (3, p3)] [0, 4, 5] [SP.fact (i64ok rv52.1.Op ∧ rv52.1.Def.b.length ≤ 140737488355328 ∧ i64ok rv52.2.at_ ∧ i64ok rv52.2.Err), sl (G.g 3 0) rv52.1.Uses, sl (G.g 3 1) rv52.1.Targets, Cl pP [vl pa0 pk0 p.l, vi rv52.2.at_, vi rv52.2.Err], os (G.g 5 0) ((b1_30 ++ [rv52.1]) : List GStmt), Cl p3 [.string (bs rv9.1), (G.g 5 0)]] ?_
  generalize G.g 3 0 = c50, G.g 3 1 = c51, G.g 5 0 = c56
  refine Jf 3 rfl ?_; rintro ⟨he63, he64, he65, he66⟩
  unfold i64ok at he63 he65 he66
  refine Jk [1, 1, 3, 4, 5, 5, 5] ?_
  refine Jo 2 ?_; rintro a67 k68 rfl
  refine Fb 16 2 fun _ => ?_
  refine FoS 2 fun ho70 => ?_
  refine Jo 3 ?_; rintro a71 k72 rfl
  refine Fb 16 3 fun _ => ?_
  refine FoS 3 fun ho74 => ?_
  refine Jo 5 ?_; rintro a75 k76 rfl
  refine Fb 72 5 fun _ => KS ?_
  exact Kg (r27, rv52.2.at_, rv52.2.Err, (b1_30 ++ [rv52.1]), a75, k76) [5, 4, 4, 0, 0] ⟨H, aM1, aM1⟩
 intro h45 H
 refine Ke ?_
 have H := llB H HL39
 dsimp only at H
 refine KS ?_
 refine Oq (VldA sh34 2) (Ost (Scl [3] sh34 [.string (bs rv9.1), vl a31 k32 b1_30]) (KS ?_))
 refine Jl [2] (Ent.freeze _ _) ?_
 have hq := rI H; subst hq
 exact Kr (vl a31 k32 b1_30) rfl (.cellN 1 rfl sh34 rfl (reads_Cl _ _) rfl .nil) [0, 2] en
theorem fn85 (pP : Value) (p : Gparser) (pa0 : Option Addr) (pk0 : Nat) (hp_1 : i64ok p.at_) (hp_2 : i64ok p.Err) (rr : GFunc × Gparser) (hrr : pz_function p = .ret rr) : FT Tryz.prog 85 #[pP] [Cl pP [vl pa0 pk0 p.l, vi p.at_, vi p.Err], S pa0 pk0 p.l] (fun g : Value => rr.1.Name.b.length ≤ 140737488355328 ∧ i64ok rr.2.at_ ∧ i64ok rr.2.Err) (fun g => .agg #[.string (bs rr.1.Name), g]) (fun g => [sl g rr.1.Blocks, Cl pP [vl pa0 pk0 p.l, vi rr.2.at_, vi rr.2.Err]]) := by
 refine FTi Tryz.func85 fun w0 M0 F0 => ?_
 unfold i64ok at hp_1 hp_2
 refine Fb 40 1 fun _ => ?_
 have hx0 := lrn rr; have H := hrr; unfold pz_function at H
 refine KS ?_
 refine Oa (Al ze31 [.string (bs (Str.mk [])), .slice none 0 0]) fun p2 => KS ?_
 refine Oa (Al ze31 [.string (bs (Str.mk [])), .slice none 0 0]) fun p3 => KS ?_
 refine Oq Vm ?_
 refine lbH H hx0 fun rv4 hg5 H => ?_
 have hc6 := fn107 pP p pa0 pk0 ((Str.mk [102, 117, 110, 99])) pre pre pre rv4 hg5
 refine Oc [2, 2] ca107 hc6 ?_
 rintro - ⟨he7, he8⟩
 unfold i64ok at he7 he8
 refine KS ?_
 refine Oq Vm ?_
 refine lbH H hx0 fun rv9 hg10 H => ?_
 have hc11 := fn108 pP (Gparser.mk p.l rv4.at_ rv4.Err) pa0 pk0 pre pre rv9 hg10
 refine Oc [0, 2] ca108 hc11 ?_
 rintro - ⟨he12, he13, he14⟩
 unfold i64ok at he13 he14
 refine Oq (Vfa fo31_0 1) (Ost (SclF [1] sh9 [.string (bs rv9.1), .slice none 0 0]) (KS ?_))
 refine Oq Vm ?_
 refine lbH H hx0 fun rv15 hg16 H => ?_
 have hc17 := fn109 pP (Gparser.mk p.l rv9.2.at_ rv9.2.Err) pa0 pk0 pre pre rv15 hg16
 refine Oc [1, 2] ca109 hc17 ?_
 rintro - ⟨he18, he19⟩
 unfold i64ok at he18 he19
 refine KS ?_
 refine Oq Vm ?_
 refine lbH H hx0 fun rv20 hg21 H => ?_
 have hc22 := fn83 pP (Gparser.mk p.l rv15.at_ rv15.Err) pa0 pk0 ((Str.mk [98, 108, 111, 99, 107])) pre pre pre rv20 hg21
 refine Oc [0, 2] ca83 hc22 ?_
 rintro - -
 refine Oq Vnot (KS ?_)
 refine pF H hx0 fun h23 H => ?_
 refine KcF h23 ?_
 have h25 := not_false h23
 refine KS ?_
 refine Jl [] (Ent.osNil (α := GBlock)) ?_
 refine llH H hx0 fun X36 hX37 hx38 HL39 => ?_
 refine Kl (γ := Nat × Int × Int × List GBlock × Option Addr × Nat) (fun (r27, p1_28, p2_29, f1_30, a31, k32) => ⟨[(0, pP), (2, p2), (3, p3)], [O a31 k32 f1_30, Cl pP [vl pa0 pk0 p.l, vi p1_28, vi p2_29], Cl p3 [.string (bs rv9.1), vl a31 k32 f1_30], Cl p2 [.string (bs (Str.mk [])), .slice none 0 0], S pa0 pk0 p.l], pz_function_L0 p r27 p1_28 p2_29 f1_30 = X36 ∧ (-9223372036854775808 ≤ p1_28 ∧ p1_28 ≤ 9223372036854775807) ∧ (-9223372036854775808 ≤ p2_29 ∧ p2_29 ≤ 9223372036854775807), r27⟩) (100000, rv15.at_, rv15.Err, [], none, 0) [0, 0, 0, 0, 0] ⟨hX37, aM1, aM1⟩ ?_
 rintro ⟨r27, p1_28, p2_29, f1_30, a31, k32⟩ ⟨hM33, hk34, hk35⟩
 refine JJ_nx fun _ _ hL hA => ?_; dsimp only at hL hA; subst hL hA
 refine Fb 40 0 fun _ => Fb 40 4 fun _ => ?_
 rcases r27 with _ | r27
 ·exact absurd (hM33.symm.trans rfl) hx38
 have H := hM33; (try dsimp only at H); rw [pz_function_L0] at H
 refine KS ?_
 refine Oq Vm ?_
 refine lbH H hx38 fun rv42 hg43 H => ?_
 have hc44 := fn83 pP (Gparser.mk p.l p1_28 p2_29) pa0 pk0 ((Str.mk [98, 108, 111, 99, 107])) pre pre pre rv42 hg43
 refine Oc [1, 3] ca83 hc44 ?_
 rintro - -
 refine KS ?_
 refine KcH H ?_ ?_
 ·intro h45 H
  refine KS ?_
  refine Oq (Vfa fo31_1 2) (Oq (VldF sh29 2) (Oq (Vlen sl29) (Oq Veql (KS ?_))))
  refine pF H hx38 fun h47 H => ?_
  refine KcF h47 ?_
  have g48 := ne_of_beq_false h47
  refine KS ?_
  refine Jp 2 fun hp49 => ?_
  refine JK_drawK [0, 1, 0, 4, 12, 31, 63, 127] fmix ?_
  refine Dv [0] (Vfa fo31_1 0) (Dv [3] (VldF sh29 0) (Dv [] Vm ?_))
  refine lbH H hx38 fun rv51 hg52 H => ?_
  refine Dx [1, 5] [1] [3, 0, 1, 2] (fun G => .agg #[.string (bs rv51.1.Name), (G.g 3 0)]) [fun G => SP.fact (rv51.1.Name.b.length ≤ 140737488355328 ∧ i64ok rv51.2.at_ ∧ i64ok rv51.2.Err), fun G => sl (G.g 3 0) rv51.1.Stmts, fun G => Cl pP [vl pa0 pk0 p.l, vi rv51.2.at_, vi rv51.2.Err]] (fun G => xC [0, 0] ca110 (fn110 pP (Gparser.mk p.l p1_28 p2_29) pa0 pk0 pre pre rv51 hg52)) (Dx [] [] [0] (fun G => (G.g 4 0)) [fun G => Cr (G.g 4 0) 1 [.string (bs rv51.1.Name), (G.g 3 0)]] (fun G => xA (AsV sl29 sz29 [.agg #[.string (bs rv51.1.Name), (G.g 3 0)]] [.string (bs rv51.1.Name), (G.g 3 0)])) ?_)
  refine pC H hx38 fun hc54 H => ?_
  have hn56 := la f1_30 ([rv51.1] : List GBlock)
  refine Dx [2, 6, 7, 9] [2, 9] [2, 1, 0] (fun G => (G.g 5 0)) [fun G => os (G.g 5 0) ((f1_30 ++ [rv51.1]) : List GBlock)] (fun G => by refine xf 1 rfl ?_; rintro ⟨he57, he58, he59⟩; unfold i64ok at he58 he59; exact xp [3, 2] rfl (Ent.cr1 (α := GBlock) (A := [sl (G.g 3 0) rv51.1.Stmts]) _ rv51.1 _ aB1 (fun h => ⟨_, rfl, aS1, sepAll_get (i := 0) rfl h⟩)) (xA (ApO [2, 0] sl29 sl29 sz29))) (Dv [0] (Vfa fo31_1 0) (Dx0 [3, 10] [3] [1, 0] [fun G => Cl p3 [.string (bs rv9.1), (G.g 5 0)]] (fun G => x1 1 rfl os_one fun ho60 => (xS (OpS.frame [0] rfl (OpS.storeClF [(G.g 5 0)] [.string (bs rv9.1), (G.g 5 0)] rfl rfl rfl sh29 (cells_of_one ho60) rfl (by simp only [List.all_cons, List.all_nil, ho60, Bool.and_true, Bool.true_and] <;> rfl) aB1 rfl)))) ?_))
  refine Dn ⟨by kernel_rfl, fun G => ?_⟩
  refine Jw2 [(0, pP), (2, p2), (3, p3)] [0, 4, 5] [SP.fact (rv51.1.Name.b.length ≤ 140737488355328 ∧ i64ok rv51.2.at_ ∧ i64ok rv51.2.Err), sl (G.g 3 0) rv51.1.Stmts, Cl pP [vl pa0 pk0 p.l, vi rv51.2.at_, vi rv51.2.Err], os (G.g 5 0) ((f1_30 ++ [rv51.1]) : List GBlock), Cl p3 [.string (bs rv9.1), (G.g 5 0)]] ?_
  generalize G.g 3 0 = c50, G.g 5 0 = c55
  refine Jf 3 rfl ?_; rintro ⟨he61, he62, he63⟩
  unfold i64ok at he62 he63
  refine Jk [1, 1, 3, 4, 4, 4] ?_
  refine Jo 2 ?_; rintro a64 k65 rfl
  refine Fb 72 2 fun _ => ?_
  refine Jo 4 ?_; rintro a67 k68 rfl
  refine Fb 40 4 fun _ => KS ?_
  exact Kg (r27, rv51.2.at_, rv51.2.Err, (f1_30 ++ [rv51.1]), a67, k68) [4, 3, 3, 0, 0] ⟨H, aM1, aM1⟩
 intro h45 H
 refine Ke ?_
 have H := llB H HL39
 dsimp only at H
 refine KS ?_
 refine Oq Vm ?_
 refine lbH H hx0 fun rv71 hg72 H => ?_
 have hc73 := fn107 pP (Gparser.mk p.l p1_28 p2_29) pa0 pk0 ((Str.mk [101, 110, 100])) pre pre pre rv71 hg72
 refine Oc [0, 3] ca107 hc73 ?_
 rintro - ⟨he74, he75⟩
 unfold i64ok at he74 he75
 refine KS ?_
 refine Oq Vm ?_
 refine lbH H hx0 fun rv76 hg77 H => ?_
 have hc78 := fn109 pP (Gparser.mk p.l rv71.at_ rv71.Err) pa0 pk0 pre pre rv76 hg77
 refine Oc [0, 3] ca109 hc78 ?_
 rintro - ⟨he79, he80⟩
 unfold i64ok at he79 he80
 refine KS ?_
 refine Oq (VldA sh31 2) (Ost (Scl [3] sh31 [.string (bs rv9.1), vl a31 k32 f1_30]) (KS ?_))
 refine Jl [2] (Ent.freeze _ _) ?_
 have hq := rI H; subst hq
 exact Kr (vl a31 k32 f1_30) rfl (.cellN 1 rfl sh31 rfl (reads_Cl _ _) rfl .nil) [0, 2] en
theorem fn53 (text : Str) (htext_0 : text.b.length ≤ 140737488355328) (rr : GProgram × Int × Int × Int) (hrr : r4_Parse text = .ret rr) : FT Tryz.prog 53 #[.string (bs text)] [] (fun g : Value => i64ok rr.2.1 ∧ i64ok rr.2.2.1 ∧ i64ok rr.2.2.2) (fun g => .tuple #[.agg #[g], vi rr.2.1, vi rr.2.2.1, vi rr.2.2.2]) (fun g => [sl g rr.1.Funcs]) := by
 refine FTi Tryz.func53 fun w0 M0 F0 => ?_
 have hx0 := lrn rr; have H := hrr; unfold r4_Parse at H
 refine KS ?_
 refine Oa (Al ze25 [.slice none 0 0]) fun p1 => Oq Va (Oq Va (Oq Va (KS ?_)))
 refine Oq Vm ?_
 refine lbH H hx0 fun rv3 hg4 H => ?_
 have hc5 := fn82 text pre rv3 hg4
 refine Oc [] ca82 hc5 ?_
 rintro c2 ⟨he6, he7, he8⟩
 unfold i64ok at he6 he7 he8
 refine Jo 0 ?_; rintro a9 k10 rfl
 refine Fb 40 0 fun _ => ?_
 refine Oq Vm (Oq Vx (Oq Vx (Oq Vx (Oq Vx (Oq Va (Oq Va (Oq Va (Oq Va (KS ?_)))))))))
 refine Oq Vm (Oq Vneq (KS ?_))
 refine pF H hx0 fun h12 H => ?_
 refine KcF h12 ?_
 have g13 := eq_of_bne_false h12
 refine KS ?_
 refine Oq Vm (Oq (Vbd st119 [vl a9 k10 rv3.1, vi 0, vi 0]) (Oa (AbO [vl a9 k10 rv3.1, vi 0, vi 0]) fun p14 => Oq Va (KS ?_)))
 refine Oa (Al ze25 [.slice none 0 0]) fun p15 => KS ?_
 refine Oq Vm ?_
 refine lbH H hx0 fun rv16 hg17 H => ?_
 have hc18 := fn83 p14 (Gparser.mk rv3.1 0 0) a9 k10 ((Str.mk [102, 117, 110, 99])) pre pre pre rv16 hg17
 refine Oc [1, 1] ca83 hc18 ?_
 rintro - -
 refine Oq Vnot (KS ?_)
 refine pF H hx0 fun h19 H => ?_
 refine KcF h19 ?_
 have h21 := not_false h19
 refine KS ?_
 refine Jl [] (Ent.osNil (α := GFunc)) ?_
 refine llH H hx0 fun X32 hX33 hx34 HL35 => ?_
 refine Kl (γ := Nat × Int × Int × List GFunc × Option Addr × Nat) (fun (r23, p1_24, p2_25, out0_26, a27, k28) => ⟨[(2, p1), (6, vl a9 k10 rv3.1), (10, p14), (11, p15)], [O a27 k28 out0_26, Cl p14 [vl a9 k10 rv3.1, vi p1_24, vi p2_25], Cl p15 [vl a27 k28 out0_26], S a9 k10 rv3.1, Cl p1 [.slice none 0 0]], r4_Parse_L0 rv3.1 r23 p1_24 p2_25 out0_26 = X32 ∧ (-9223372036854775808 ≤ p1_24 ∧ p1_24 ≤ 9223372036854775807) ∧ (-9223372036854775808 ≤ p2_25 ∧ p2_25 ≤ 9223372036854775807), r23⟩) (100000, 0, 0, [], none, 0) [0, 0, 0, 0, 1] ⟨hX33, aM1, aM1⟩ ?_
 rintro ⟨r23, p1_24, p2_25, out0_26, a27, k28⟩ ⟨hM29, hk30, hk31⟩
 refine JJ_nx fun _ _ hL hA => ?_; dsimp only at hL hA; subst hL hA
 refine Fb 40 0 fun _ => Fb 40 3 fun _ => ?_
 rcases r23 with _ | r23
 ·exact absurd (hM29.symm.trans rfl) hx34
 have H := hM29; (try dsimp only at H); rw [r4_Parse_L0] at H
 refine KS ?_
 refine Oq Vm ?_
 refine lbH H hx34 fun rv38 hg39 H => ?_
 have hc40 := fn83 p14 (Gparser.mk rv3.1 p1_24 p2_25) a9 k10 ((Str.mk [102, 117, 110, 99])) pre pre pre rv38 hg39
 refine Oc [1, 2] ca83 hc40 ?_
 rintro - -
 refine KS ?_
 refine KcH H ?_ ?_
 ·intro h41 H
  refine KS ?_
  refine Oq (Vfa fo25_0 2) (Oq (VldF sh23 2) (Oq (Vlen sl23) (Oq Veql (KS ?_))))
  refine pF H hx34 fun h43 H => ?_
  refine KcF h43 ?_
  have g44 := ne_of_beq_false h43
  refine KS ?_
  refine Jp 2 fun hp45 => ?_
  refine JK_drawK [0, 1, 0, 4, 12, 31, 63, 127] fmix ?_
  refine Dv [0] (Vfa fo25_0 0) (Dv [3] (VldF sh23 0) (Dv [] Vm ?_))
  refine lbH H hx34 fun rv47 hg48 H => ?_
  refine Dx [1, 4] [1] [3, 0, 1, 2] (fun G => .agg #[.string (bs rv47.1.Name), (G.g 3 0)]) [fun G => SP.fact (rv47.1.Name.b.length ≤ 140737488355328 ∧ i64ok rv47.2.at_ ∧ i64ok rv47.2.Err), fun G => sl (G.g 3 0) rv47.1.Blocks, fun G => Cl p14 [vl a9 k10 rv3.1, vi rv47.2.at_, vi rv47.2.Err]] (fun G => xC [0, 0] ca85 (fn85 p14 (Gparser.mk rv3.1 p1_24 p2_25) a9 k10 pre pre rv47 hg48)) (Dx [] [] [0] (fun G => (G.g 4 0)) [fun G => Cr (G.g 4 0) 1 [.string (bs rv47.1.Name), (G.g 3 0)]] (fun G => xA (AsV sl23 sz23 [.agg #[.string (bs rv47.1.Name), (G.g 3 0)]] [.string (bs rv47.1.Name), (G.g 3 0)])) ?_)
  refine pC H hx34 fun hc50 H => ?_
  have hn52 := la out0_26 ([rv47.1] : List GFunc)
  refine Dx [2, 6, 7, 9] [2, 9] [2, 1, 0] (fun G => (G.g 5 0)) [fun G => os (G.g 5 0) ((out0_26 ++ [rv47.1]) : List GFunc)] (fun G => by refine xf 1 rfl ?_; rintro ⟨he53, he54, he55⟩; unfold i64ok at he54 he55; exact xp [3, 2] rfl (Ent.cr1 (α := GFunc) (A := [sl (G.g 3 0) rv47.1.Blocks]) _ rv47.1 _ aB1 (fun h => ⟨_, rfl, aS1, sepAll_get (i := 0) rfl h⟩)) (xA (ApO [2, 0] sl23 sl23 sz23))) (Dv [0] (Vfa fo25_0 0) (Dx0 [3, 10] [3] [1, 0] [fun G => Cl p15 [(G.g 5 0)]] (fun G => x1 1 rfl os_one fun ho56 => (xS (OpS.frame [0] rfl (OpS.storeClF [(G.g 5 0)] [(G.g 5 0)] rfl rfl rfl sh23 (cells_of_one ho56) rfl (by simp only [List.all_cons, List.all_nil, ho56, Bool.and_true, Bool.true_and] <;> rfl) aB1 rfl)))) ?_))
  refine Dn ⟨by kernel_rfl, fun G => ?_⟩
  refine Jw2 [(2, p1), (6, vl a9 k10 rv3.1), (10, p14), (11, p15)] [0, 4, 5] [SP.fact (rv47.1.Name.b.length ≤ 140737488355328 ∧ i64ok rv47.2.at_ ∧ i64ok rv47.2.Err), sl (G.g 3 0) rv47.1.Blocks, Cl p14 [vl a9 k10 rv3.1, vi rv47.2.at_, vi rv47.2.Err], os (G.g 5 0) ((out0_26 ++ [rv47.1]) : List GFunc), Cl p15 [(G.g 5 0)]] ?_
  generalize G.g 3 0 = c46, G.g 5 0 = c51
  refine Jf 3 rfl ?_; rintro ⟨he57, he58, he59⟩
  unfold i64ok at he58 he59
  refine Jk [1, 2, 3, 4, 4, 4] ?_
  refine Jo 2 ?_; rintro a60 k61 rfl
  refine Fb 40 2 fun _ => ?_
  refine Jo 4 ?_; rintro a63 k64 rfl
  refine Fb 40 4 fun _ => KS ?_
  exact Kg (r23, rv47.2.at_, rv47.2.Err, (out0_26 ++ [rv47.1]), a63, k64) [4, 3, 3, 0, 1] ⟨H, aM1, aM1⟩
 intro h41 H
 refine Ke ?_
 have H := llB H HL35
 dsimp only at H
 refine KS ?_
 refine Oq Vm (Oq (Vn 0) (Oq (Vfa fo119_2 0) (Oq (VldF sh39 0) (Oq Veql (Oq Vm ?_)))))
 refine pT H hx0 fun h67 H => ?_
 refine JsT 53 h67 ?_
 have g68 := eq_of_beq h67
 refine Oq Vm (Oq (Vn 0) (Oq (Vfa fo119_1 0) (Oq (VldF sh3 0) (Oq Vm (Oq (Vlen sl114) (Oq Vlss (Oq Vpt (KS ?_))))))))
 refine pF H hx0 fun h69 H => ?_
 refine KcF h69 ?_
 have g70 := df h69
 refine KS ?_
 refine Oq Vm (Oq (Vn 0) (Oq (Vfa fo119_2 0) (Oq (VldF sh39 0) (Oq Veql (KS ?_)))))
 refine Kc ?_ ?_
 ·intro h71
  have g72 := eq_of_beq h71
  refine KS ?_
  refine Oq (VldA sh25 2) (Ost (Scl [4] sh25 [vl a27 k28 out0_26]) (Oq Va (Oq Va (Oq Va (KS ?_)))))
  refine Jl [2] (Ent.freeze _ _) ?_
  have hq := rI H; subst hq
  exact Kr (vl a27 k28 out0_26) rfl (.cellN 1 rfl sh25 rfl (reads_Cl _ _) rfl (.tmp rfl (.tmp rfl (.tmp rfl .nil)))) [0] en
 intro h71
 exact absurd h71 (by first | (simp [h67]; done) | (simp only [bne, h67]; decide) | (simp only [bne, h67, Bool.not_true, Bool.not_false]; decide) | (exfalso; omega) | (intro hq; simp only [bne, hq, Bool.not_false, Bool.not_true, reduceCtorEq] at h67))
theorem fn25  (rr : GProgram) (hrr : w9_program = .ret rr) : FT Tryz.prog 25 #[] [] (fun g : Value => True) (fun g => .agg #[g]) (fun g => [sl g rr.Funcs]) := by
 refine FTi Tryz.func25 fun w0 M0 F0 => ?_
 have hx0 := lrn rr; have H := hrr; unfold w9_program at H
 refine KS ?_
 refine Oa (Al ze25 [.slice none 0 0]) fun p1 => KS ?_
 refine lbH H hx0 fun rv3 hg4 H => ?_
 have hc5 := fn53 ((Str.mk [102, 117, 110, 99, 32, 109, 59, 32, 98, 108, 111, 99, 107, 32, 98, 59, 32, 120, 32, 61, 32, 121, 59, 32, 115, 97, 110, 105, 116, 105, 122, 101, 32, 120, 59, 32, 114, 101, 116, 117, 114, 110, 59, 32, 101, 110, 100])) pre rv3 hg4
 refine Oc [] ca53 hc5 ?_
 rintro c2 ⟨he6, he7, he8⟩
 unfold i64ok at he6 he7 he8
 refine Jo 0 ?_; rintro a9 k10 rfl
 refine Fb 40 0 fun _ => ?_
 refine Oq Vm (Oq Vx (Oq Vx (Oq Vx (Oq Vx (Oa (Al ze25 [.slice none 0 0]) fun p12 => Ost (Scl [0] sh25 [vl a9 k10 rv3.1.Funcs]) (Oq Va (Oq Va (Oq Va ?_))))))))
 refine KS ?_
 refine Oq (VldA sh25 0) (Ost (Scl [2] sh25 [vl a9 k10 rv3.1.Funcs]) (KS ?_))
 have hq := rI H; subst hq
 exact Kr (vl a9 k10 rv3.1.Funcs) rfl (.cellN 0 rfl sh25 rfl (reads_Cl _ _) rfl .nil) [2] trivial
theorem fn27 (width : Int) (hwidth_0 : i64ok width) (rr : GSet) (hrr : r1_Full width = .ret rr) : FT Tryz.prog 27 #[vi width] [] (fun g : Value => i64ok rr.Width) (fun g => .agg #[vi rr.Width, g]) (fun g => [sl g rr.Words]) := by
 refine FTi Tryz.func27 fun w0 M0 F0 => ?_
 unfold i64ok at hwidth_0
 have hx0 := lrn rr; have H := hrr; unfold r1_Full at H
 refine KS ?_
 refine Oa (Al ze47 [vi 0, .slice none 0 0]) fun p1 => KS ?_
 refine Oq Vm ?_
 refine pC H hx0 fun hc2 H => ?_
 refine lvH H fun rv4 hg5 H => ?_
 have hc6 := fn35 width pre pre rv4 hg5
 refine Oc [] ca35 hc6 ?_
 rintro c3 ⟨he7, he8, he9⟩
 unfold i64ok at he7
 refine Jo 0 ?_; rintro a10 k11 rfl
 refine Fb 8 0 fun _ => ?_
 refine Oa (Al ze47 [vi 0, .slice none 0 0]) fun p13 => Ost (Scl [0] sh47 [vi rv4.Width, vl a10 k11 rv4.Words]) (KS ?_)
 refine Oq Va (KS ?_)
 refine llH H hx0 fun X26 hX27 hx28 HL29 => ?_
 refine Kl (γ := Nat × Int × List (BitVec 64) × Int × Option Addr × Nat) (fun (r14, s0_15, s1_16, b_17, a18, k19) => ⟨[(0, vi width), (2, p1), (3, p13), (4, vi b_17)], [O a18 k19 s1_16, Cl p13 [vi s0_15, vl a18 k19 s1_16], Cl p1 [vi 0, .slice none 0 0]], r1_Full_L0 r14 s0_15 s1_16 b_17 = X26 ∧ r14 = ((width : Int) - b_17).toNat ∧ (0 : Int) ≤ b_17 ∧ (b_17 ≤ width ∨ b_17 = 0) ∧ (-9223372036854775808 ≤ s0_15 ∧ s0_15 ≤ 9223372036854775807) ∧ (-9223372036854775808 ≤ b_17 ∧ b_17 ≤ 9223372036854775807), r14⟩) (((width : Int) - 0).toNat, rv4.Width, rv4.Words, 0, a10, k11) [1, 0, 0] ⟨hX27, rfl, aM1, (.inr rfl), aM1, aM1⟩ ?_
 rintro ⟨r14, s0_15, s1_16, b_17, a18, k19⟩ ⟨hM20, hr21, hi22, hi23, hk24, hk25⟩
 refine JJ_nx fun _ _ hL hA => ?_; dsimp only at hL hA; subst hL hA
 refine Fb 8 0 fun _ => KS ?_
 refine Oq Vm (Oq Vm (Oq Vlss (KS ?_)))
 refine Kc ?_ ?_
 ·intro h31
  have g32 := dt h31
  obtain ⟨r33, rfl⟩ := scc (n := r14) aM1
  have H := hM20; (try dsimp only at H); rw [r1_Full_L0] at H
  refine KS ?_
  refine Oq (VldA sh47 1) (Oq Vm ?_)
  refine pC H hx28 fun hc34 H => ?_
  refine pC H hx28 fun hc35 H => ?_
  refine lvH H fun rv37 hg38 H => ?_
  refine Oc [0] ca36 (FT_borrow (A := _) hlx (FT_ent (Ent.take (is := [0]) rfl) (fn36 ((GSet.mk s0_15 s1_16)) a18 k19 b_17 pre pre pre pre rv37 hg38))) ?_ (ht := rfl)
  rintro c36 ⟨he39, he40, he41⟩
  unfold i64ok at he39
  have he40 : (rv37.Width = s0_15) := he40
  have he41 : (rv37.Words.length = ((s0_15 + 63) / 64).toNat) := he41
  refine Jo 1 ?_; rintro a42 k43 rfl
  refine Fb 8 1 fun _ => ?_
  refine Ost (Scl [2] sh47 [vi rv37.Width, vl a42 k43 rv37.Words]) (KS ?_)
  refine Oq Vm (Oq Vadd (Oq Va (KS ?_)))
  refine pC H hx28 fun hc45 H => ?_
  exact Kg (r33, rv37.Width, rv37.Words, (b_17 + 1), a42, k43) [2, 0, 1] ⟨H, aM1, aM1, aM1, aM1, aM1⟩
 intro h31
 have g46 := df h31
 obtain rfl : r14 = 0 := by omega
 have H := hM20; (try dsimp only at H); rw [r1_Full_L0] at H
 refine Ke ?_
 have H := llB H HL29
 dsimp only at H
 refine KS ?_
 refine Oq (VldA sh47 1) (Ost (Scl [2] sh47 [vi s0_15, vl a18 k19 s1_16]) (KS ?_))
 refine Jl [1] (Ent.freeze _ _) ?_
 have hq := rI H; subst hq
 exact Kr (vl a18 k19 s1_16) rfl (.cellN 1 rfl sh47 rfl (reads_Cl _ _) rfl .nil) [0] en
theorem fn9O (kwLA : Option Addr) (kwLK : Nat) (rr : Bool) (hrr : w9_saneO = .ret rr) : FT Tryz.prog 9 #[] [pv (gp 0) [vl kwLA kwLK kwL], S kwLA kwLK kwL, pv (gp 1) (tabV .u8 tzT)] (fun g : Unit => True) (fun g => vb rr) (fun g => []) := by
 refine FTi Tryz.func9 fun w0 M0 F0 => Fb 16 1 fun _ => ?_
 refine FoS 1 fun ho2 => ?_
 have hx0 := lrn rr; have H := hrr; unfold w9_saneO at H
 refine KS ?_
 refine Oq Va (KS ?_)
 refine lbH H hx0 fun rv4 hg5 H => ?_
 have hc6 := fn25  rv4 hg5
 refine Oc [] ca25 hc6 ?_
 rintro c3 -
 refine Jo 0 ?_; rintro a7 k8 rfl
 refine Fb 40 0 fun _ => ?_
 refine pC H hx0 fun hc10 H => ?_
 refine lvH H fun rv12 hg13 H => ?_
 have hc14 := fn7 rv4 a7 k8 1 kwLA kwLK pre hc10 rv12 hg13
 refine Oc [0, 1, 2] ca7 hc14 ?_
 rintro c11 ⟨he15, he16⟩
 unfold i64ok at he15
 refine Jo 0 ?_; rintro a17 k18 rfl
 refine Fb 16 0 fun _ => ?_
 refine Oq Vm (Oq Vx (Oq Vx (Oq Va (Oq Va (KS ?_)))))
 have hc21 := fn25  rv4 hg5
 refine Oc [] ca25 hc21 ?_
 rintro c20 -
 refine Jo 0 ?_; rintro a22 k23 rfl
 refine pC H hx0 fun hc27 H => ?_
 refine lvH H fun rv25 hg26 H => ?_
 have hc28 := fn7 rv4 a22 k23 2 kwLA kwLK pre hc10 rv25 hg26
 refine Oc [0, 3, 4] ca7 hc28 ?_
 rintro c24 ⟨he29, he30⟩
 unfold i64ok at he29
 refine Jo 0 ?_; rintro a31 k32 rfl
 refine Fb 16 0 fun _ => ?_
 refine Oq Vm (Oq Vx (Oq Vx (Oq Va (Oq Va (KS ?_)))))
 have hc35 := fn25  rv4 hg5
 refine Oc [] ca25 hc35 ?_
 rintro c34 -
 refine Jo 0 ?_; rintro a36 k37 rfl
 refine pC H hx0 fun hc41 H => ?_
 refine lvH H fun rv39 hg40 H => ?_
 have hc42 := fn7 rv4 a36 k37 5 kwLA kwLK pre hc27 rv39 hg40
 refine Oc [0, 5, 6] ca7 hc42 ?_
 rintro c38 ⟨he43, he44⟩
 unfold i64ok at he43
 refine Jo 0 ?_; rintro a45 k46 rfl
 refine Fb 16 0 fun _ => ?_
 refine Oq Vm (Oq Vx (Oq Vx (Oq Va (Oq Va (KS ?_)))))
 have hc49 := fn25  rv4 hg5
 refine Oc [] ca25 hc49 ?_
 rintro c48 -
 refine Jo 0 ?_; rintro a50 k51 rfl
 refine lbH H hx0 fun rv53 hg54 H => ?_
 have hc55 := fn27 2 pre rv53 hg54
 refine Oc [] ca27 hc55 ?_
 rintro c52 he56
 unfold i64ok at he56
 refine Jo 0 ?_; rintro a57 k58 rfl
 refine Fb 8 0 fun _ => ?_
 refine pC H hx0 fun hc62 H => ?_
 refine lvH H fun rv60 hg61 H => ?_
 have hc63 := fn26 rv4 a50 k51 1 rv53 a57 k58 kwLA kwLK pre pre hc41 rv60 hg61
 refine Oc [1, 0, 8, 9, 10] ca26 hc63 ?_
 rintro - ⟨he64, he65⟩
 unfold i64ok at he65
 refine Oq Vm (Oq Vx (Oq Vx (Oq Va (Oq Va (KS ?_)))))
 refine Oq Vm (Oq Veql (Oq Vm ?_))
 refine pT H hx0 fun h66 H => ?_
 refine JsT 32 h66 ?_
 have g67 := eq_of_beq h66
 refine Oq Vm (Oq Veql (Oq Vpt (Oq Vm ?_)))
 refine pT H hx0 fun h68 H => ?_
 refine JsT 36 h68 ?_
 have g69 := eq_of_beq h68
 refine Oq Vm (Oq Veql (Oq Vpt (Oq Vm ?_)))
 refine pT H hx0 fun h70 H => ?_
 refine JsT 40 h70 ?_
 have g71 := eq_of_beq h70
 refine Oq Vm (Oq Veql (Oq Vpt (Oq Vm ?_)))
 refine pT H hx0 fun h72 H => ?_
 refine JsT 44 h72 ?_
 have g73 := eq_of_beq h72
 refine Oq Vm (Oq (Vbd st49 [vi 1, vi 0]) (Oq (Vbd st49 [vi 2, vi 0]) (Oa (AsV sl38 sz38 [.agg #[vi 1, vi 0], .agg #[vi 2, vi 0]] [vi 1, vi 0, vi 2, vi 0]) fun c74 => ?_)))
 refine Jo 0 ?_; rintro a75 k76 rfl
 refine Jl [0] (Ent.crOs (α := GFact) (A := []) _ ([(GFact.mk 1 0), (GFact.mk 2 0)] : List GFact) _ aB1 (fun h => ⟨[vi 1, vi 0], [vi 2, vi 0], rfl, (fun h => ⟨rfl, aL1, aL1⟩) h, ⟨[vi 2, vi 0], [], rfl, (fun h => ⟨rfl, aL1, aL1⟩) h, rfl⟩⟩)) ?_
 refine Jl [0] (Ent.freeze _ _) ?_
 refine lvH H fun rv77 hg78 H => ?_
 have hc79 := fn28 rv12.1 a17 k18 ([(GFact.mk 1 0), (GFact.mk 2 0)]) a75 k76 rv77 hg78
 refine Oc [7, 0] ca28 hc79 ?_
 rintro - -
 refine Oq Vpt (Oq Vm ?_)
 refine pT H hx0 fun h80 H => ?_
 refine JsT 51 h80 ?_
 refine Oq Vm (Oq (Vlen sl38) (Oq Veql (Oq Vpt (Oq Vm ?_))))
 refine pT H hx0 fun h82 H => ?_
 refine JsT 56 h82 ?_
 have g83 := eq_of_beq h82
 refine Oq Vm (Oq (VeqS (l := rv60.1) (m := (Str.mk [120, 64, 109, 46, 98, 46, 48, 32, 120, 64, 109, 46, 98, 46, 49]))) (Oq Vpt (Oq Va (KS ?_))))
 have hq := rI H; subst hq
 exact Kr () rfl (.tmp rfl .nil) [] trivial
theorem w9_sane_c : w9_saneO = .ret true := by kernel_rfl
theorem fn9 (kwLA : Option Addr) (kwLK : Nat) (rr : Bool) (hrr : w9_sane = rr) : FT Tryz.prog 9 #[] [pv (gp 0) [vl kwLA kwLK kwL], S kwLA kwLK kwL, pv (gp 1) (tabV .u8 tzT)] (fun g : Unit => True) (fun g => vb rr) (fun g => []) := by
 subst hrr; exact fn9O kwLA kwLK true w9_sane_c
theorem fn4 (t : List Int) (ta0 : Option Addr) (tk0 : Nat) (p : GProgram) (pa0 : Option Addr) (pk0 : Nat) (kind : Int) (s : GSet) (sa1 : Option Addr) (sk1 : Nat) (x : GFact) (kwLA : Option Addr) (kwLK : Nat) (hkind_0 : i64ok kind) (hs_0 : i64ok s.Width) (hx_0 : i64ok x.Node) (hx_1 : i64ok x.Var) (hps : PSm p = true) (rr : Bool) (hrr : w9_FactsAgree t p kind s x = rr) : FT Tryz.prog 4 #[vl ta0 tk0 t, .agg #[vl pa0 pk0 p.Funcs], vi kind, .agg #[vi s.Width, vl sa1 sk1 s.Words], .agg #[vi x.Node, vi x.Var]] [S ta0 tk0 t, S pa0 pk0 p.Funcs, S sa1 sk1 s.Words, pv (gp 0) [vl kwLA kwLK kwL], S kwLA kwLK kwL, pv (gp 1) (tabV .u8 tzT)] (fun g : Unit => True) (fun g => vb rr) (fun g => []) := by
 refine FTi Tryz.func4 fun w0 M0 F0 => ?_
 unfold i64ok at hkind_0 hs_0 hx_0 hx_1
 refine Fb 8 0 fun _ => Fo 0 fun ho2 => Fb 40 1 fun _ => Fb 8 2 fun _ => Fb 16 4 fun _ => ?_
 refine FoS 4 fun ho6 => ?_
 refine KS ?_
 refine Oa (Ab [vl pa0 pk0 p.Funcs]) fun p7 => Oa (Ab [vi s.Width, vl sa1 sk1 s.Words]) fun p8 => Oa (Ab [vi x.Node, vi x.Var]) fun p9 => Oq Va (KS ?_)
 refine Oq Vm ?_
 refine letv (g_New t) fun rv11 hg12 => ?_
 have hc13 := fn5 t ta0 tk0 rv11 hg12
 refine Oc [3] ca5 hc13 ?_
 rintro c10 -
 refine Oq Va (KS ?_)
 refine Oq Va (KS ?_)
 refine Kl (γ := Nat × Int × Int) (fun (r14, k1_15, i_16) => ⟨[(2, vi kind), (6, p7), (8, p8), (9, p9), (11, c10), (12, vi i_16)], [Cl c10 [vl ta0 tk0 t, vi k1_15], pv p9 [vi x.Node, vi x.Var], pv p8 [vi s.Width, vl sa1 sk1 s.Words], pv p7 [vl pa0 pk0 p.Funcs], S ta0 tk0 t, S pa0 pk0 p.Funcs, S sa1 sk1 s.Words, pv (gp 0) [vl kwLA kwLK kwL], S kwLA kwLK kwL, pv (gp 1) (tabV .u8 tzT)], w9_FactsAgree_L0 t kind s x r14 k1_15 i_16 = w9_FactsAgree_L0 t kind s x 3 0 0 ∧ r14 = ((3 : Int) - i_16).toNat ∧ (0 : Int) ≤ i_16 ∧ i_16 ≤ 3 ∧ (-9223372036854775808 ≤ k1_15 ∧ k1_15 ≤ 9223372036854775807) ∧ (0 ≤ k1_15 ∧ k1_15 ≤ (t.length : Int)) ∧ (-9223372036854775808 ≤ i_16 ∧ i_16 ≤ 9223372036854775807), r14⟩) (3, 0, 0) [0, 0, 1, 2, 3, 4, 5, 6, 7, 8] ⟨rfl, rfl, aM1, aM1, aM1, aM1, aM1⟩ ?_
 rintro ⟨r14, k1_15, i_16⟩ ⟨hM17, hr18, hi19, hi20, hk21, ht22, hk23⟩
 refine JJ_nx fun _ _ hL hA => ?_; dsimp only at hL hA; subst hL hA
 refine Fb 8 4 fun _ => Fo 4 fun ho25 => Fb 40 5 fun _ => Fb 8 6 fun _ => Fb 16 8 fun _ => ?_
 refine FoS 8 fun ho29 => ?_
 refine KS ?_
 refine Oq Vm (Oq Vlss (KS ?_))
 refine Kc ?_ ?_
 ·intro h30
  have g31 := dt h30
  obtain ⟨r32, rfl⟩ := scc (n := r14) aM1
  refine KS ?_
  refine Oq Vm ?_
  refine letv (tp_Program t k1_15) fun rv34 hg35 => ?_
  have hc36 := fn6 c10 ta0 tk0 t k1_15 pre rv34 hg35
  refine Oc [0, 3] ca6 hc36 ?_
  rintro c33 he37
  refine Jo 0 ?_; rintro a38 k39 rfl
  refine Fb 40 0 fun _ => ?_
  refine Oa (Al ze25 [.slice none 0 0]) fun p41 => Ost (Scl [0] sh25 [vl a38 k39 rv34.1.Funcs]) (KS ?_)
  refine Oq Va (KS ?_)
  refine Kl (γ := Nat × Int × Int) (fun (r42, k1_43, n_44) => ⟨[(2, vi kind), (6, p7), (8, p8), (9, p9), (11, c10), (12, vi i_16), (13, p41), (14, vi n_44)], [Cl p41 [vl a38 k39 rv34.1.Funcs], S a38 k39 rv34.1.Funcs, Cl c10 [vl ta0 tk0 t, vi k1_43], pv p9 [vi x.Node, vi x.Var], pv p8 [vi s.Width, vl sa1 sk1 s.Words], pv p7 [vl pa0 pk0 p.Funcs], S ta0 tk0 t, S pa0 pk0 p.Funcs, S sa1 sk1 s.Words, pv (gp 0) [vl kwLA kwLK kwL], S kwLA kwLK kwL, pv (gp 1) (tabV .u8 tzT)], w9_FactsAgree_L1 t x rv34.1.Funcs r42 k1_43 n_44 = w9_FactsAgree_L1 t x rv34.1.Funcs 6 rv34.2 0 ∧ r42 = ((6 : Int) - n_44).toNat ∧ (0 : Int) ≤ n_44 ∧ n_44 ≤ 6 ∧ (-9223372036854775808 ≤ k1_43 ∧ k1_43 ≤ 9223372036854775807) ∧ (0 ≤ k1_43 ∧ k1_43 ≤ (t.length : Int)) ∧ (-9223372036854775808 ≤ n_44 ∧ n_44 ≤ 9223372036854775807), r42⟩) (6, rv34.2, 0) [0, 0, 1, 1, 2, 3, 4, 5, 6, 7, 8, 9] ⟨rfl, rfl, aM1, aM1, aM1, aM1, aM1⟩ ?_
  rintro ⟨r42, k1_43, n_44⟩ ⟨hM45, hr46, hi47, hi48, hk49, ht50, hk51⟩
  refine JJ_nx fun _ _ hL hA => ?_; dsimp only at hL hA; subst hL hA
  refine Fb 40 1 fun _ => Fb 8 6 fun _ => Fo 6 fun ho54 => Fb 40 7 fun _ => Fb 8 8 fun _ => Fb 16 10 fun _ => ?_
  refine FoS 10 fun ho58 => ?_
  refine KS ?_
  refine Oq Vm (Oq Vlss (KS ?_))
  refine Kc ?_ ?_
  ·intro h59
   have g60 := dt h59
   obtain ⟨r61, rfl⟩ := scc (n := r42) aM1
   refine KS ?_
   refine Oq (VldA sh25 0) (Oq Vm ?_)
   refine letv (r7_Facts rv34.1 n_44) fun rv63 hg64 => ?_
   have hc65 := fn10 rv34.1 a38 k39 n_44 pre rv63 hg64
   refine Oc [1] ca10 hc65 ?_
   rintro c62 ⟨he66, he67⟩
   unfold i64ok at he66
   refine Jo 0 ?_; rintro a68 k69 rfl
   refine Fb 16 0 fun _ => ?_
   refine Oq Vm (Oq Vx (Oq Vx (Oq Va (Oq Va (KS ?_)))))
   refine JK_drawK [0, 0, 0, 0, 8, 28, 0, 127, 255, 511, 1023, 1023, 1023, 1023, 9215, 25599, 62463, 1023, 262143, 524287, 1048575, 2097151, 4194303, 4194303, 4194303, 4194303, 4194303, 71303167, 239075327, 524287999, 4194303, 2147483647, 4294967295, 8589934591] fmix ?_
   refine Dv [1] (VldA sh25 0) (Dv [] Vm (Dv [] Vm (Dv [] Vm (Dv [] (Vlen sl38) ?_))))
   refine letv (tp_Set t k1_43 (rv63.1.length : Int)) fun rv72 hg73 => ?_
   refine Dx [3, 7] [3] [3, 0, 1, 1] (fun G => .agg #[vi rv72.1.Width, (G.g 5 0)]) [fun G => SP.fact (i64ok rv72.1.Width ∧ (0 ≤ rv72.2 ∧ rv72.2 ≤ (t.length : Int)) ∧ (rv72.1.Width = (rv63.1.length : Int)) ∧ (rv72.1.Words.length = (((rv63.1.length : Int) + 63) / 64).toNat)), fun G => os (G.g 5 0) rv72.1.Words, fun G => Cl c10 [vl ta0 tk0 t, vi rv72.2]] (fun G => xC [0, 0] ca12 (fn12 c10 ta0 tk0 t k1_43 ((rv63.1.length : Int)) pre pre pre rv72 hg73)) (Dv [4] (VldA sh49 0) ?_)
   refine letv (w9_agrees rv34.1 n_44 rv72.1 x) fun rv77 hg78 => ?_
   refine Dx [2, 10, 11, 12, 13, 14] [] [2, 3, 4, 5, 6, 1, 0] (fun G => vb rv77) [fun G => SP.fact (True)] (fun G => by refine xf 4 rfl ?_; rintro ⟨he79, he80, he81, he82⟩; unfold i64ok at he79; exact xD [5, 0, 1, 2, 3] ca11 rfl rfl rfl (FT_open (γ := Unit) (I := fun g => True) (V := fun g => vb rv77) (B := fun g => [os (G.g 5 0) rv72.1.Words]) (R := os (G.g 5 0) rv72.1.Words) os_slice (fun aq74 kq75 eq76 => by rw [eq76]; exact FT_ent (Ent.take (is := [0, 0, 1, 2, 3]) rfl) (FT_borrow (A := _) (fun _ _ h => by cases h) (FT_ent (Ent.take (is := [1, 0, 2, 3, 4]) rfl) (fn11 rv34.1 a38 k39 n_44 rv72.1 aq74 kq75 x kwLA kwLK pre pre pre pre (by first | assumption | exact Spoil_PSm (by assumption) (Program_SpP (by assumption)) | exact SpP_PSm (Program_SpP (by assumption))) rv77 hg78)))))) (Dv [] Vnot ?_)
   refine bool_split (!rv77) ?_ ?_
   ·intro h83
    have h85 := not_true h83
    refine Db h83 [] Vm (Ds (Ds (Ds (Ds (Ds (Ds (Ds (Ds (Ds ?_)))))))))
    refine Ds (Dv [] Vpt (Dv [] Vm (Ds (Ds (Ds (Ds (Ds (Ds (Ds ?_)))))))))
    refine Ds (Ds (Ds (Ds (Dv [] Vpt ?_))))
    refine Dn ⟨by kernel_rfl, fun G => ?_⟩
    refine Jw2 [(2, vi kind), (6, p7), (8, p8), (9, p9), (11, c10), (12, vi i_16), (13, p41), (14, vi n_44), (68, vb true)] [0, 1, 2, 4, 5, 6, 7, 8, 9, 10, 11, 12] [SP.fact (i64ok rv72.1.Width ∧ (0 ≤ rv72.2 ∧ rv72.2 ≤ (t.length : Int)) ∧ (rv72.1.Width = (rv63.1.length : Int)) ∧ (rv72.1.Words.length = (((rv63.1.length : Int) + 63) / 64).toNat)), os (G.g 5 0) rv72.1.Words, Cl c10 [vl ta0 tk0 t, vi rv72.2], SP.fact (True)] ?_
    generalize G.g 5 0 = c71
    refine Jf 12 rfl ?_; rintro ⟨he87, he88, he89, he90⟩
    unfold i64ok at he87
    refine Jk [0, 1, 1, 2, 3, 4, 5, 6, 7, 8, 9, 10, 12, 12] ?_
    refine Jo 12 ?_; rintro a91 k92 rfl
    refine Fb 8 12 fun _ => ?_
    refine Kt (KS ?_)
    refine Oq Va (KS ?_)
    have hR94 := q2 hM45 (.ret false) (by simp only [w9_FactsAgree_L1, h59, h83, h85, hg64, hg73, hg78, cs4])
    have hR95 := q2 hM17 (.ret false) (by simp only [w9_FactsAgree_L0, h30, h59, h83, h85, hg35, hg64, hg73, hg78, hR94, cs4])
    have hq := q4 hrr false (by unfold w9_FactsAgree; simp only [h30, h59, h83, h85, hg12, hg35, hg64, hg73, hg78, hR94, hR95, cs4]); subst hq
    exact Kr () rfl (.tmp rfl .nil) [] trivial
   intro h83
   have h97 := not_false h83
   refine Db h83 [] Vm (Dv [1] (VldA sh25 0) (Dv [] Vm (Dv [] Vm (Dv [] Vm (Dv [] (Vlen sl38) ?_)))))
   refine Dx [13] [] [0] (fun G => vi ((rv63.1.length : Int) + 1)) [] (fun G => by refine xf 0 rfl ?_; rintro ⟨he99, he100, he101, he102⟩; unfold i64ok at he99; exact xV (Vadd)) ?_
   refine letv (tp_Set t rv72.2 ((rv63.1.length : Int) + 1)) fun rv104 hg105 => ?_
   refine Dx [7, 13, 15] [15] [3, 4, 0, 1, 1] (fun G => .agg #[vi rv104.1.Width, (G.g 16 0)]) [fun G => SP.fact (i64ok rv104.1.Width ∧ (0 ≤ rv104.2 ∧ rv104.2 ≤ (t.length : Int)) ∧ (rv104.1.Width = ((rv63.1.length : Int) + 1)) ∧ (rv104.1.Words.length = (((((rv63.1.length : Int) + 1) : Int) + 63) / 64).toNat)), fun G => os (G.g 16 0) rv104.1.Words, fun G => Cl c10 [vl ta0 tk0 t, vi rv104.2]] (fun G => by refine xf 1 rfl ?_; rintro ⟨he106, he107, he108, he109⟩; unfold i64ok at he106; exact xC [2, 0] ca12 (fn12 c10 ta0 tk0 t rv72.2 (((rv63.1.length : Int) + 1)) pre pre pre rv104 hg105)) (Dv [4] (VldA sh49 0) ?_)
   refine letv (w9_agrees rv34.1 n_44 rv104.1 x) fun rv113 hg114 => ?_
   refine Dx [2, 10, 11, 12, 13, 17, 18] [] [2, 3, 4, 5, 6, 7, 1, 0] (fun G => vb rv113) [fun G => SP.fact (True)] (fun G => by refine xf 4 rfl ?_; rintro ⟨he115, he116, he117, he118⟩; unfold i64ok at he115; refine xf 5 rfl ?_; rintro ⟨he119, he120, he121, he122⟩; unfold i64ok at he119; exact xD [6, 0, 1, 2, 3] ca11 rfl rfl rfl (FT_open (γ := Unit) (I := fun g => True) (V := fun g => vb rv113) (B := fun g => [os (G.g 16 0) rv104.1.Words]) (R := os (G.g 16 0) rv104.1.Words) os_slice (fun aq110 kq111 eq112 => by rw [eq112]; exact FT_ent (Ent.take (is := [0, 0, 1, 2, 3]) rfl) (FT_borrow (A := _) (fun _ _ h => by cases h) (FT_ent (Ent.take (is := [1, 0, 2, 3, 4]) rfl) (fn11 rv34.1 a38 k39 n_44 rv104.1 aq110 kq111 x kwLA kwLK pre pre pre pre (by first | assumption | exact Spoil_PSm (by assumption) (Program_SpP (by assumption)) | exact SpP_PSm (Program_SpP (by assumption))) rv113 hg114)))))) (Dv [] Vnot (Dv [] Vpf ?_))
   refine bool_split (!rv113) ?_ ?_
   ·intro h123
    have h125 := not_true h123
    refine Db h123 [] Vm (Ds (Ds (Ds (Ds (Ds (Ds (Ds (Ds (Ds ?_)))))))))
    refine Ds (Ds (Dv [] Vpt ?_))
    refine Dn ⟨by kernel_rfl, fun G => ?_⟩
    refine Jw2 [(2, vi kind), (6, p7), (8, p8), (9, p9), (11, c10), (12, vi i_16), (13, p41), (14, vi n_44), (68, vb true)] [0, 1, 2, 4, 5, 6, 7, 8, 9, 10, 11, 12] [SP.fact (i64ok rv72.1.Width ∧ (0 ≤ rv72.2 ∧ rv72.2 ≤ (t.length : Int)) ∧ (rv72.1.Width = (rv63.1.length : Int)) ∧ (rv72.1.Words.length = (((rv63.1.length : Int) + 63) / 64).toNat)), os (G.g 5 0) rv72.1.Words, SP.fact (True), SP.fact (i64ok rv104.1.Width ∧ (0 ≤ rv104.2 ∧ rv104.2 ≤ (t.length : Int)) ∧ (rv104.1.Width = ((rv63.1.length : Int) + 1)) ∧ (rv104.1.Words.length = (((((rv63.1.length : Int) + 1) : Int) + 63) / 64).toNat)), os (G.g 16 0) rv104.1.Words, Cl c10 [vl ta0 tk0 t, vi rv104.2], SP.fact (True)] ?_
    generalize G.g 5 0 = c71, G.g 16 0 = c103
    refine Jf 12 rfl ?_; rintro ⟨he127, he128, he129, he130⟩
    unfold i64ok at he127
    refine Jf 15 rfl ?_; rintro ⟨he131, he132, he133, he134⟩
    unfold i64ok at he131
    refine Jk [0, 1, 1, 2, 3, 4, 5, 6, 7, 8, 9, 10, 12, 14, 14] ?_
    refine Jo 12 ?_; rintro a135 k136 rfl
    refine Fb 8 12 fun _ => ?_
    refine Jo 13 ?_; rintro a138 k139 rfl
    refine Fb 8 13 fun _ => ?_
    refine Kt (KS ?_)
    refine Oq Va (KS ?_)
    have hR141 := q2 hM45 (.ret false) (by simp only [w9_FactsAgree_L1, h59, h83, h97, h123, h125, hg64, hg73, hg78, hg105, hg114, cs4])
    have hR142 := q2 hM17 (.ret false) (by simp only [w9_FactsAgree_L0, h30, h59, h83, h97, h123, h125, hg35, hg64, hg73, hg78, hg105, hg114, hR141, cs4])
    have hq := q4 hrr false (by unfold w9_FactsAgree; simp only [h30, h59, h83, h97, h123, h125, hg12, hg35, hg64, hg73, hg78, hg105, hg114, hR141, hR142, cs4]); subst hq
    exact Kr () rfl (.tmp rfl .nil) [] trivial
   intro h123
   have h144 := not_false h123
   refine Db h123 [] Vm (Dv [1] (VldA sh25 0) (Dv [] Vm (Dv [] Vm (Dv [] Vm (Dv [] Vm (Dv [] (Vlen sl38) ?_))))))
   refine letv (tp_Set t rv104.2 (rv63.1.length : Int)) fun rv147 hg148 => ?_
   refine Dx [7, 13, 17, 19] [19] [3, 4, 5, 0, 1, 1] (fun G => .agg #[vi rv147.1.Width, (G.g 28 0)]) [fun G => SP.fact (i64ok rv147.1.Width ∧ (0 ≤ rv147.2 ∧ rv147.2 ≤ (t.length : Int)) ∧ (rv147.1.Width = (rv63.1.length : Int)) ∧ (rv147.1.Words.length = (((rv63.1.length : Int) + 63) / 64).toNat)), fun G => os (G.g 28 0) rv147.1.Words, fun G => Cl c10 [vl ta0 tk0 t, vi rv147.2]] (fun G => by refine xf 1 rfl ?_; rintro ⟨he149, he150, he151, he152⟩; unfold i64ok at he149; refine xf 2 rfl ?_; rintro ⟨he153, he154, he155, he156⟩; unfold i64ok at he153; exact xC [3, 0] ca12 (fn12 c10 ta0 tk0 t rv104.2 ((rv63.1.length : Int)) pre pre pre rv147 hg148)) ?_
   refine letv (tp_SpoilSet t rv147.2 rv147.1) fun rv161 hg162 => ?_
   refine Dx [7, 13, 17, 21, 22, 23] [22, 23] [4, 5, 6, 7, 3, 0, 1, 2] (fun G => .agg #[vi rv161.1.Width, (G.g 29 0)]) [fun G => sl (G.g 28 0) rv147.1.Words, fun G => SP.fact (i64ok rv161.1.Width ∧ (0 ≤ rv161.2 ∧ rv161.2 ≤ (t.length : Int))), fun G => sl (G.g 29 0) rv161.1.Words, fun G => Cl c10 [vl ta0 tk0 t, vi rv161.2]] (fun G => by refine xf 1 rfl ?_; rintro ⟨he163, he164, he165, he166⟩; unfold i64ok at he163; refine xf 2 rfl ?_; rintro ⟨he167, he168, he169, he170⟩; unfold i64ok at he167; refine xf 3 rfl ?_; rintro ⟨he171, he172, he173, he174⟩; unfold i64ok at he171; exact xp [4] rfl (Ent.freeze _ _) (xD [0, 5, 1] ca13 rfl rfl rfl (FT_open (γ := Value) (I := fun g => i64ok rv161.1.Width ∧ (0 ≤ rv161.2 ∧ rv161.2 ≤ (t.length : Int))) (V := fun g => .agg #[vi rv161.1.Width, g]) (B := fun g => [sl g rv161.1.Words, Cl c10 [vl ta0 tk0 t, vi rv161.2]]) (R := sl (G.g 28 0) rv147.1.Words) sl_slice (fun aq157 kq158 eq159 => by rw [eq159]; exact FT_ent (Ent.take (is := [1, 1, 0]) rfl) (fn13 c10 ta0 tk0 t rv147.2 rv147.1 aq157 kq158 pre pre (Set_ok (by assumption) aM1 aM1) rv161 hg162))))) (Dv [4] (VldA sh49 0) ?_)
   refine letv (w9_agrees rv34.1 n_44 rv161.1 x) fun rv178 hg179 => ?_
   refine Dx [2, 10, 11, 12, 25, 26] [] [1, 2, 3, 4, 5, 6, 0] (fun G => vb rv178) [fun G => SP.fact (True)] (fun G => by refine xf 4 rfl ?_; rintro ⟨he180, he181⟩; unfold i64ok at he180; exact xD [5, 0, 1, 2, 3] ca11 rfl rfl rfl (FT_open (γ := Unit) (I := fun g => True) (V := fun g => vb rv178) (B := fun g => []) (R := sl (G.g 29 0) rv161.1.Words) sl_slice (fun aq175 kq176 eq177 => by rw [eq177]; exact FT_ent (Ent.take (is := [1, 0, 2, 3, 4]) rfl) (fn11 rv34.1 a38 k39 n_44 rv161.1 aq175 kq176 x kwLA kwLK pre pre pre pre (by first | assumption | exact Spoil_PSm (by assumption) (Program_SpP (by assumption)) | exact SpP_PSm (Program_SpP (by assumption))) rv178 hg179)))) (Dv [] Vnot (Dv [] Vpf ?_))
   refine Dn ⟨by kernel_rfl, fun G => ?_⟩
   refine Jw2 [(2, vi kind), (6, p7), (8, p8), (9, p9), (11, c10), (12, vi i_16), (13, p41), (14, vi n_44), (68, vb (!rv178))] [0, 1, 2, 4, 5, 6, 7, 8, 9, 10, 11, 12] [SP.fact (i64ok rv72.1.Width ∧ (0 ≤ rv72.2 ∧ rv72.2 ≤ (t.length : Int)) ∧ (rv72.1.Width = (rv63.1.length : Int)) ∧ (rv72.1.Words.length = (((rv63.1.length : Int) + 63) / 64).toNat)), os (G.g 5 0) rv72.1.Words, SP.fact (True), SP.fact (i64ok rv104.1.Width ∧ (0 ≤ rv104.2 ∧ rv104.2 ≤ (t.length : Int)) ∧ (rv104.1.Width = ((rv63.1.length : Int) + 1)) ∧ (rv104.1.Words.length = (((((rv63.1.length : Int) + 1) : Int) + 63) / 64).toNat)), os (G.g 16 0) rv104.1.Words, SP.fact (True), SP.fact (i64ok rv147.1.Width ∧ (0 ≤ rv147.2 ∧ rv147.2 ≤ (t.length : Int)) ∧ (rv147.1.Width = (rv63.1.length : Int)) ∧ (rv147.1.Words.length = (((rv63.1.length : Int) + 63) / 64).toNat)), sl (G.g 28 0) rv147.1.Words, SP.fact (i64ok rv161.1.Width ∧ (0 ≤ rv161.2 ∧ rv161.2 ≤ (t.length : Int))), sl (G.g 29 0) rv161.1.Words, Cl c10 [vl ta0 tk0 t, vi rv161.2], SP.fact (True)] ?_
   generalize G.g 5 0 = c71, G.g 16 0 = c103, G.g 28 0 = c146, G.g 29 0 = c160
   refine Jf 12 rfl ?_; rintro ⟨he182, he183, he184, he185⟩
   unfold i64ok at he182
   refine Jf 15 rfl ?_; rintro ⟨he186, he187, he188, he189⟩
   unfold i64ok at he186
   refine Jf 18 rfl ?_; rintro ⟨he190, he191, he192, he193⟩
   unfold i64ok at he190
   refine Jf 20 rfl ?_; rintro ⟨he194, he195⟩
   unfold i64ok at he194
   refine Jk [0, 1, 1, 2, 3, 4, 5, 6, 7, 8, 9, 10, 12, 14, 16, 18, 19] ?_
   refine Jo 12 ?_; rintro a196 k197 rfl
   refine Fb 8 12 fun _ => ?_
   refine Jo 13 ?_; rintro a199 k200 rfl
   refine Fb 8 13 fun _ => ?_
   refine Jo 14 ?_; rintro a202 k203 rfl
   refine Fb 8 14 fun _ => ?_
   refine Jo 15 ?_; rintro a205 k206 rfl
   refine Fb 8 15 fun _ => ?_
   refine Kc ?_ ?_
   ·intro h208
    have h210 := not_true h208
    refine KS ?_
    refine Oq Va (KS ?_)
    have hR212 := q2 hM45 (.ret false) (by simp only [w9_FactsAgree_L1, h59, h83, h97, h123, h144, h208, h210, hg64, hg73, hg78, hg105, hg114, hg148, hg162, hg179, cs4])
    have hR213 := q2 hM17 (.ret false) (by simp only [w9_FactsAgree_L0, h30, h59, h83, h97, h123, h144, h208, h210, hg35, hg64, hg73, hg78, hg105, hg114, hg148, hg162, hg179, hR212, cs4])
    have hq := q4 hrr false (by unfold w9_FactsAgree; simp only [h30, h59, h83, h97, h123, h144, h208, h210, hg12, hg35, hg64, hg73, hg78, hg105, hg114, hg148, hg162, hg179, hR212, hR213, cs4]); subst hq
    exact Kr () rfl (.tmp rfl .nil) [] trivial
   intro h208
   have h215 := not_false h208
   refine KS ?_
   refine Oq Vm (Oq Vadd (Oq Va (KS ?_)))
   exact Kg (r61, rv161.2, (n_44 + 1)) [1, 1, 15, 2, 3, 4, 5, 6, 7, 8, 9, 10] ⟨(q3 hM45 (by simp only [w9_FactsAgree_L1, h59, h83, h97, h123, h144, h208, h215, hg64, hg73, hg78, hg105, hg114, hg148, hg162, hg179, cs4])), aM1, aM1, aM1, aM1, aM1, aM1⟩
  intro h59
  have g217 := df h59
  obtain rfl : r42 = 0 := by omega
  refine Ke ?_
  have hR218 := q2 hM45 (.brk k1_43) (by simp only [w9_FactsAgree_L1, h59, cs4])
  refine KS ?_
  refine JK_drawK [0, 0, 0, 0, 15, 31, 63, 127, 127, 511, 127, 2047, 4095, 127, 127, 32767, 65535, 131071] fmix ?_
  refine Dv [0] (VldA sh25 0) (Dv [] Vm (Dv [4] (VldA sh47 0) (Dv [3] (VldA sh49 0) ?_)))
  refine letv (w9_agrees rv34.1 kind s x) fun rv219 hg220 => ?_
  refine Dx [1, 8, 9, 10, 11] [] [1, 2, 3, 4, 5, 0] (fun G => vb rv219) [fun G => SP.fact (True)] (fun G => xC [0, 1, 2, 3, 4] ca11 (fn11 rv34.1 a38 k39 kind s sa1 sk1 x kwLA kwLK pre pre pre pre (by first | assumption | exact Spoil_PSm (by assumption) (Program_SpP (by assumption)) | exact SpP_PSm (Program_SpP (by assumption))) rv219 hg220)) (Dv [] Vnot ?_)
  refine bool_split (!rv219) ?_ ?_
  ·intro h221
   have h223 := not_true h221
   refine Db h221 [] Vm (Ds (Ds (Ds (Ds (Ds (Ds (Ds (Ds (Ds ?_)))))))))
   refine Ds (Dv [] Vpt ?_)
   refine Dn ⟨by kernel_rfl, fun G => ?_⟩
   refine Jw2 [(2, vi kind), (6, p7), (8, p8), (9, p9), (11, c10), (12, vi i_16), (86, vb true)] [0, 1, 2, 3, 4, 5, 6, 7, 8, 9, 10, 11] [SP.fact (True)] ?_
   refine Jk [0, 0, 1, 1, 2, 3, 4, 5, 6, 7, 8, 9] (Kt ?_)
   refine KS ?_
   refine Oq Va (KS ?_)
   have hR225 := q2 hM17 (.ret false) (by simp only [w9_FactsAgree_L0, h30, h59, h221, h223, hg35, hR218, hg220, cs4])
   have hq := q4 hrr false (by unfold w9_FactsAgree; simp only [h30, h59, h221, h223, hg12, hg35, hR218, hg220, hR225, cs4]); subst hq
   exact Kr () rfl (.tmp rfl .nil) [] trivial
  intro h221
  have h227 := not_false h221
  refine Db h221 [] Vm (Dv [] Vm (Dv [0] (VldA sh25 0) ?_))
  refine letv (tp_SpoilProgram t k1_43 rv34.1) fun rv230 hg231 => ?_
  refine Dx [1, 2, 6] [2] [3, 4, 0, 1, 2] (fun G => .agg #[(G.g 9 0)]) [fun G => SP.fact ((0 ≤ rv230.2 ∧ rv230.2 ≤ (t.length : Int))), fun G => sl (G.g 9 0) rv230.1.Funcs, fun G => Cl c10 [vl ta0 tk0 t, vi rv230.2]] (fun G => xC [1, 1, 0] ca14 (fn14 c10 ta0 tk0 t k1_43 rv34.1 a38 k39 pre (Program_SpP (by assumption)) rv230 hg231)) (Dv [] Vm ?_)
  refine letv (tp_Next t rv230.2 4) fun rv232 hg233 => ?_
  refine Dx [6, 13, 15] [15] [2, 3, 0, 1] (fun G => vi rv232.1) [fun G => SP.fact (i64ok rv232.1 ∧ (0 ≤ rv232.2 ∧ rv232.2 ≤ (t.length : Int)) ∧ (0 ≤ rv232.1 ∧ (rv232.1 < 4 ∨ rv232.1 = 0))), fun G => Cl c10 [vl ta0 tk0 t, vi rv232.2]] (fun G => by refine xf 1 rfl ?_; rintro he234; exact xC [2, 0] ca15 (fn15 c10 ta0 tk0 t rv230.2 4 pre pre rv232 hg233)) ?_
  refine Dx [16] [] [0] (fun G => vi (1 + rv232.1)) [] (fun G => by refine xf 0 rfl ?_; rintro ⟨he235, he236, he237⟩; unfold i64ok at he235; exact xV (Vadd)) (Dv [4] (VldA sh47 0) (Dv [3] (VldA sh49 0) ?_))
  refine letv (w9_agrees rv230.1 (1 + rv232.1) s x) fun rv241 hg242 => ?_
  refine Dx [8, 9, 10, 11, 13, 14, 16] [] [1, 2, 3, 4, 5, 6, 7, 0] (fun G => vb rv241) [fun G => SP.fact (True)] (fun G => by refine xf 4 rfl ?_; rintro he243; refine xf 6 rfl ?_; rintro ⟨he244, he245, he246⟩; unfold i64ok at he244; exact xD [5, 0, 1, 2, 3] ca11 rfl rfl rfl (FT_open (γ := Unit) (I := fun g => True) (V := fun g => vb rv241) (B := fun g => []) (R := sl (G.g 9 0) rv230.1.Funcs) sl_slice (fun aq238 kq239 eq240 => by rw [eq240]; exact FT_ent (Ent.take (is := [0, 1, 2, 3, 4]) rfl) (fn11 rv230.1 aq238 kq239 ((1 + rv232.1)) s sa1 sk1 x kwLA kwLK pre pre pre pre (by first | assumption | exact Spoil_PSm (by assumption) (Program_SpP (by assumption)) | exact SpP_PSm (Program_SpP (by assumption))) rv241 hg242)))) (Dv [] Vnot (Dv [] Vpf ?_))
  refine Dn ⟨by kernel_rfl, fun G => ?_⟩
  refine Jw2 [(2, vi kind), (6, p7), (8, p8), (9, p9), (11, c10), (12, vi i_16), (86, vb (!rv241))] [0, 1, 3, 4, 5, 6, 7, 8, 9, 10, 11] [SP.fact (True), SP.fact ((0 ≤ rv230.2 ∧ rv230.2 ≤ (t.length : Int))), sl (G.g 9 0) rv230.1.Funcs, SP.fact (i64ok rv232.1 ∧ (0 ≤ rv232.2 ∧ rv232.2 ≤ (t.length : Int)) ∧ (0 ≤ rv232.1 ∧ (rv232.1 < 4 ∨ rv232.1 = 0))), Cl c10 [vl ta0 tk0 t, vi rv232.2], SP.fact (True)] ?_
  generalize G.g 9 0 = c229
  refine Jf 12 rfl ?_; rintro he247
  refine Jf 14 rfl ?_; rintro ⟨he248, he249, he250⟩
  unfold i64ok at he248
  refine Jk [0, 0, 1, 2, 3, 4, 5, 6, 7, 8, 9, 12, 14] ?_
  refine Jo 11 ?_; rintro a251 k252 rfl
  refine Fb 40 11 fun _ => ?_
  refine Kc ?_ ?_
  ·intro h254
   have h256 := not_true h254
   refine KS ?_
   refine Oq Va (KS ?_)
   have hR258 := q2 hM17 (.ret false) (by simp only [w9_FactsAgree_L0, h30, h59, h221, h227, h254, h256, hg35, hR218, hg220, hg231, hg233, hg242, cs4])
   have hq := q4 hrr false (by unfold w9_FactsAgree; simp only [h30, h59, h221, h227, h254, h256, hg12, hg35, hR218, hg220, hg231, hg233, hg242, hR258, cs4]); subst hq
   exact Kr () rfl (.tmp rfl .nil) [] trivial
  intro h254
  have h260 := not_false h254
  refine KS ?_
  refine Oq Vm (Oq Vadd (Oq Va (KS ?_)))
  exact Kg (r32, rv232.2, (i_16 + 1)) [12, 2, 3, 4, 5, 6, 7, 8, 9, 10] ⟨(q3 hM17 (by simp only [w9_FactsAgree_L0, h30, h59, h221, h227, h254, h260, hg35, hR218, hg220, hg231, hg233, hg242, cs4])), aM1, aM1, aM1, aM1, aM1, aM1⟩
 intro h30
 have g262 := df h30
 obtain rfl : r14 = 0 := by omega
 refine Ke ?_
 have hR263 := q2 hM17 (.brk ()) (by simp only [w9_FactsAgree_L0, h30, cs4])
 refine KS ?_
 refine Oq (VldA sh25 3) ?_
 refine letv (g_HugeProgram p) fun rv264 hg265 => ?_
 have hc266 := fn16 p pa0 pk0 rv264 hg265
 refine Oc [5] ca16 hc266 ?_
 rintro - -
 refine Oq Vm ?_
 refine Js 89 ?_ ?_
 ·intro h267
  refine Osk (Osk (Osk (Osk (Oq Vpt (Oq Vm (Osk (Osk (Osk (Osk ?_)))))))))
  refine Osk (Osk (Osk (Osk (Oq Vpt (Oq Va (KS ?_))))))
  have hq := q4 hrr true (by unfold w9_FactsAgree; simp only [h30, h267, hg12, hR263, hg265, cs4]); subst hq
  exact Kr () rfl (.tmp rfl .nil) [] trivial
 intro h267
 refine Oq (Vfa fo47_1 2) (Oq (VldF sh45 2) (Oq (Vlen sl45) (Oq Vgtr (Oq Vpf (Oq Vm ?_)))))
 refine Js 95 ?_ ?_
 ·intro h270
  have g271 := dt h270
  refine Osk (Osk (Osk (Osk (Osk (Osk (Osk (Osk (Oq Vpt (Oq Va ?_)))))))))
  refine KS ?_
  have hq := q4 hrr true (by unfold w9_FactsAgree; simp only [h30, h267, h270, hg12, hR263, hg265, cs4]); subst hq
  exact Kr () rfl (.tmp rfl .nil) [] trivial
 intro h270
 have g272 := df h270
 refine Oq (VldA sh25 3) (Oq Vm (Oq (VldA sh47 2) (Oq (VldA sh49 1) ?_)))
 refine letv (w9_agrees p kind s x) fun rv273 hg274 => ?_
 have hc275 := fn11 p pa0 pk0 kind s sa1 sk1 x kwLA kwLK pre pre pre pre (by first | assumption | exact Spoil_PSm (by assumption) (Program_SpP (by assumption)) | exact SpP_PSm (Program_SpP (by assumption))) rv273 hg274
 refine Oc [5, 6, 7, 8, 9] ca11 hc275 ?_
 rintro - -
 refine Oq Vm ?_
 refine Js 101 ?_ ?_
 ·intro h276
  have hc278 := fn9 kwLA kwLK w9_sane rfl
  refine Oc [7, 8, 9] ca9 hc278 ?_
  rintro - -
  refine Oq Vpt (Oq Vpf (Oq Va (KS ?_)))
  have hq := q4 hrr w9_sane (by unfold w9_FactsAgree; simp only [h30, h267, h270, h276, hg12, hR263, hg265, hg274, cs4]); subst hq
  exact Kr () rfl (.tmp rfl .nil) [] trivial
 intro h276
 refine Osk (Oq Vpf (Oq Vpf (Oq Va (KS ?_))))
 have hq := q4 hrr false (by unfold w9_FactsAgree; simp only [h30, h267, h270, h276, hg12, hR263, hg265, hg274, cs4]); subst hq
 exact Kr () rfl (.tmp rfl .nil) [] trivial
end Go.SL.G
