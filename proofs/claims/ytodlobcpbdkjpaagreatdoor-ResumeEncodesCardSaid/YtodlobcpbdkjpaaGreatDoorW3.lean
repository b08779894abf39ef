/- Part 3 of the walks: mirrors, plain laws and walks used by the last text of this claim. -/
import Derived.Test.YtodlobcpbdkjpaaGreatDoorW2
import Derived.Test.YtodlobcpbdkjpaaGreatDoorProg
set_option linter.unusedVariables false
set_option linter.unusedSimpArgs false
namespace Go.SL.G
open Go Go.SL Go.Proofs
set_option maxHeartbeats 20000000
set_option maxRecDepth 100000
theorem ca53 : callable Tryz.prog 53 = true := by kernel_rfl
theorem ca8 : callable Tryz.prog 8 = true := by kernel_rfl
theorem ca94 : callable Tryz.prog 94 = true := by kernel_rfl
theorem ca95 : callable Tryz.prog 95 = true := by kernel_rfl
theorem ca96 : callable Tryz.prog 96 = true := by kernel_rfl
theorem ca97 : callable Tryz.prog 97 = true := by kernel_rfl
theorem ca98 : callable Tryz.prog 98 = true := by kernel_rfl
theorem ca25 : callable Tryz.prog 25 = true := by kernel_rfl
theorem ca54 : callable Tryz.prog 54 = true := by kernel_rfl
theorem ca6 : callable Tryz.prog 6 = true := by kernel_rfl
theorem ca7 : callable Tryz.prog 7 = true := by kernel_rfl
theorem ca11 : callable Tryz.prog 11 = true := by kernel_rfl
theorem ca10 : callable Tryz.prog 10 = true := by kernel_rfl
theorem ca12 : callable Tryz.prog 12 = true := by kernel_rfl
theorem fn28 (v : Int) (n : Int) (hv_0 : i64ok v) (hn_0 : i64ok n) (hn1 : 1 ≤ n) (rr : Int) (hrr : g_Mod v n = rr) : FT Tryz.prog 28 #[vi v, vi n] [] (fun g : Unit => i64ok rr ∧ (0 ≤ rr ∧ rr < n)) (fun g => vi rr) (fun g => []) := by
 refine FTi Tryz.func28 fun w0 M0 F0 => ?_
 unfold i64ok at hv_0 hn_0
 have hm := mod_range v n aM1
 refine KS ?_
 refine Oq Va (KS ?_)
 refine Oq Vm (Oq (VcU un3 un69) (Oq Vm (Oq (VcU un3 un69) (Oq (VremU (ofInt_ne n aM1)) (Oq (VcN un69 un3 (h := (mod_le v n aM1))) (Oq Va (KS ?_)))))))
 have hq := q4 hrr (((BitVec.ofInt 64 v) % (BitVec.ofInt 64 n)).toNat : Int) (by simp only [g_Mod, cs4]); subst hq
 exact Kr () rfl (.tmp rfl .nil) [] en
theorem fn9 (tP : Value) (ta : Option Addr) (tk : Nat) (tT : List Int) (tI : Int) (n : Int) (htI : 0 ≤ tI ∧ tI ≤ (tT.length : Int)) (hn_0 : i64ok n) (rr : Int × Int) (hrr : tp_Next tT tI n = rr) : FT Tryz.prog 9 #[tP, vi n] [Cl tP [vl ta tk tT, vi tI], S ta tk tT] (fun g : Unit => i64ok rr.1 ∧ (0 ≤ rr.2 ∧ rr.2 ≤ (tT.length : Int)) ∧ (0 ≤ rr.1 ∧ (rr.1 < n ∨ rr.1 = 0))) (fun g => vi rr.1) (fun g => [Cl tP [vl ta tk tT, vi rr.2]]) := by
 refine FTi Tryz.func9 fun w0 M0 F0 => ?_
 unfold i64ok at hn_0
 refine Fb 8 1 fun _ => Fo 1 fun ho2 => KS ?_
 refine Oq Va (KS ?_)
 refine Jp 0 fun hp3 => ?_
 refine Kq [0, 1, 3, 7, 15, 31, 63, 7, 135, 391, 903, 1927, 4095, 8191] fmix ?_
 refine Qv [] Vm (Qv [] Vleq ?_)
 refine bool_split (decide (n ≤ 1)) ?_ ?_
 ·intro h4
  have g5 := dt h4
  refine Qb h4 [] Vm (Qs (Qs (Qs (Qs (Qs (Qs (Qs (Qs (Qs ?_)))))))))
  refine Qs (Qv [] Vpt ?_)
  refine Qn ⟨by kernel_rfl, ?_⟩
  refine Kt (KS ?_)
  refine Oq Va (KS ?_)
  have hq := q4 hrr (0, tI) (by simp only [tp_Next, h4, cs4]); subst hq
  exact Kr () rfl (.tmp rfl .nil) [1] en
 intro h4
 have g6 := df h4
 refine Qb h4 [] Vm (Qv [] Vm (Qv [0] (Vn 0) (Qv [0] (Vfa fo65_1 0) (Qv [1] (VldF sh3 0) (Qv [] Vm (Qv [0] (Vn 0) (Qv [0] (Vfa fo65_0 0) (Qv [1] (VldF sh22 0) (Qv [] (Vlen sl22) ?_)))))))))
 refine Qv [] Vgeq (Qv [] Vpf ?_)
 refine Qn ⟨by kernel_rfl, ?_⟩
 refine Kc ?_ ?_
 ·intro h7
  have g8 := dt h7
  refine KS ?_
  refine Oq Va (KS ?_)
  have hq := q4 hrr (0, tI) (by simp only [tp_Next, h4, h7, cs4]); subst hq
  exact Kr () rfl (.tmp rfl .nil) [1] en
 intro h7
 have g9 := df h7
 refine KS ?_
 refine Oq Vm (Oq (Vn 1) (Oq (Vfa fo65_1 1) (Oq (VldF sh3 1) (Oq Vadd (Oq (Vn 1) (Oq (Vfa fo65_1 1) (Ost (SclF [1] sh3 [vl ta tk tT, vi (tI + 1)]) (KS ?_))))))))
 refine JK_drawK [0, 1, 3, 7, 0, 16, 48, 112, 240, 511, 1023, 0, 4095, 8191] fmix ?_
 refine Dv [] Vm (Dv [1] (Vn 0) (Dv [1] (Vfa fo65_0 0) (Dv [0] (VldF sh22 0) (Dv [] Vm (Dv [1] (Vn 0) (Dv [1] (Vfa fo65_1 0) (Dv [0] (VldF sh3 0) (Dv [] Vsub (Dv [2] (Vi sl22 0) ?_)))))))))
 have hb10 := ok1 (i := (((tI + 1) - 1) : Int).toNat) ho2 rng
 refine Dv [2] (VldI sh3 0) (Dv [] Vm ?_)
 refine letv (g_Mod (tT.getD (((tI + 1) - 1) : Int).toNat 0) n) fun rv11 hg12 => ?_
 refine Dx [] [] [0] (fun G => vi rv11) [fun G => SP.fact (i64ok rv11 ∧ (0 ≤ rv11 ∧ rv11 < n))] (fun G => xC [] ca28 (fn28 ((tT.getD (((tI + 1) - 1) : Int).toNat 0)) n pre pre pre rv11 hg12)) (Dv [] Va ?_)
 refine Dn ⟨by kernel_rfl, fun G => ?_⟩
 refine Jw2 [(4, vi rv11)] [0, 1, 2] [SP.fact (i64ok rv11 ∧ (0 ≤ rv11 ∧ rv11 < n))] ?_
 refine Jf 3 rfl ?_; rintro ⟨he13, he14⟩
 unfold i64ok at he13
 refine Jk [0, 1] ?_
 have hq := q4 hrr (rv11, (tI + 1)) (by simp only [tp_Next, h4, h7, hg12, cs4]); subst hq
 exact Kr () rfl (.tmp rfl .nil) [0] en
theorem fn10 (tP : Value) (ta : Option Addr) (tk : Nat) (tT : List Int) (tI : Int) (s : GSet) (sa1 : Option Addr) (sk1 : Nat) (htI : 0 ≤ tI ∧ tI ≤ (tT.length : Int)) (hs_0 : i64ok s.Width) (hs : SetOk s) (rr : GSet × Int) (hrr : tp_SpoilSet tT tI s = rr) : FT Tryz.prog 10 #[tP, .agg #[vi s.Width, vl sa1 sk1 s.Words]] [Cl tP [vl ta tk tT, vi tI], S ta tk tT, S sa1 sk1 s.Words] (fun g : Value => i64ok rr.1.Width ∧ (0 ≤ rr.2 ∧ rr.2 ≤ (tT.length : Int))) (fun g => .agg #[vi rr.1.Width, g]) (fun g => [sl g rr.1.Words, Cl tP [vl ta tk tT, vi rr.2]]) := by
 refine FTi Tryz.func10 fun w0 M0 F0 => ?_
 unfold i64ok at hs_0
 refine Fb 8 1 fun _ => Fo 1 fun ho2 => Fb 8 2 fun _ => ?_
 obtain ⟨hw0, hw1, hw2⟩ := hs
 refine KS ?_
 refine Oa (Ab [vi s.Width, vl sa1 sk1 s.Words]) fun p4 => Oa (Al ze39 [vi 0, .slice none 0 0]) fun p5 => KS ?_
 refine JK_drawK [0, 1, 0, 0, 8, 28, 63, 0, 255] fmix ?_
 refine Dv [1] (Vfa fo39_0 0) (Dv [1] (VldF sh3 0) (Dx [] [] [0] (fun G => (G.g 2 0)) [fun G => Cr (G.g 2 0) 0 []] (fun G => xA (As0 sl37)) (Dv [1] (Vfa fo39_1 0) (Dv [1] (VldF sh37 0) (Dx [4, 5] [5] [1, 0] (fun G => (G.g 5 0)) [fun G => os (G.g 5 0) s.Words] (fun G => xp [1] rfl (Ent.crNil (α := BitVec 64) _) (xA (Ap0 [0, 0] sl37 sl37 sz37))) ?_)))))
 refine Dx [6] [] [0] (fun G => .agg #[vi s.Width, (G.g 5 0)]) [] (fun G => xV (v := .agg #[vi s.Width, (G.g 5 0)]) (Vo 0 rfl (isO_os _ _) fun aq8 kq9 eq10 => (by rw [eq10]; exact Vbd st39 [vi s.Width, .slice aq8 ((s.Words : List (BitVec 64)).length) kq9]))) (Dx [] [] [0] (fun G => (G.g 7 0)) [fun G => Cl (G.g 7 0) [vi 0, .slice none 0 0]] (fun G => xA (Al ze39 [vi 0, .slice none 0 0])) (Dx0 [6, 7] [7] [1, 0] [fun G => Cl (G.g 7 0) [vi s.Width, (G.g 5 0)]] (fun G => x1 0 rfl os_one fun ho12 => (xS (Scl [1] sh39 [vi s.Width, (G.g 5 0)] (v := .agg #[vi s.Width, (G.g 5 0)]) (h1 := show [vi s.Width, (G.g 5 0)].all (·.oneCell') = true from (by simp only [List.all_cons, List.all_nil, ho12, Bool.and_true, Bool.true_and] <;> rfl))))) ?_))
 refine Dn ⟨by kernel_rfl, fun G => ?_⟩
 refine Jw2 [(0, tP), (4, p5), (5, (G.g 7 0))] [0, 1, 2, 3, 4] [os (G.g 5 0) s.Words, Cl (G.g 7 0) [vi s.Width, (G.g 5 0)]] ?_
 generalize G.g 5 0 = c7, G.g 7 0 = p11
 refine Jo 5 ?_; rintro a13 k14 rfl
 refine KS ?_
 refine Oq Vm ?_
 refine letv (tp_Next tT tI 4) fun rv15 hg16 => ?_
 have hc17 := fn9 tP ta tk tT tI 4 pre pre rv15 hg16
 refine Oc [2, 2] ca9 hc17 ?_
 rintro - ⟨he18, he19, he20⟩
 unfold i64ok at he18
 refine KS ?_
 refine Oq Veql (Oq Va (KS ?_))
 refine Kc ?_ ?_
 ·intro h21
  have g22 := eq_of_beq h21
  refine Jp 6 fun hp23 => ?_
  refine JK_drawK [0, 1, 0, 4, 12, 31, 63, 127] fmix ?_
  refine Dv [0] (Vfa fo39_0 0) (Dv [7] (VldF sh3 0) (Dv [] Vm ?_))
  refine letv (tp_Next tT rv15.2 5) fun rv24 hg25 => Dx [1, 4] [1] [2, 0, 1] (fun G => vi rv24.1) [fun G => SP.fact (i64ok rv24.1 ∧ (0 ≤ rv24.2 ∧ rv24.2 ≤ (tT.length : Int)) ∧ (0 ≤ rv24.1 ∧ (rv24.1 < 5 ∨ rv24.1 = 0))), fun G => Cl tP [vl ta tk tT, vi rv24.2]] (fun G => xC [0, 0] ca9 (fn9 tP ta tk tT rv15.2 5 pre pre rv24 hg25)) ?_
  refine Dx [8] [] [0] (fun G => vi (rv24.1 - 2)) [] (fun G => by refine xf 0 rfl ?_; rintro ⟨he26, he27, he28⟩; unfold i64ok at he26; exact xV (Vsub)) ?_
  refine Dx [8] [] [0] (fun G => vi (s.Width + (rv24.1 - 2))) [] (fun G => by refine xf 0 rfl ?_; rintro ⟨he29, he30, he31⟩; unfold i64ok at he29; exact xV (Vadd)) (Dv [0] (Vfa fo39_0 0) (Dx0 [7] [7] [0] [fun G => Cl p11 [vi (s.Width + (rv24.1 - 2)), vl a13 k14 s.Words]] (fun G => xS (SclF [0] sh3 [vi (s.Width + (rv24.1 - 2)), vl a13 k14 s.Words])) ?_))
  refine Dn ⟨by kernel_rfl, fun G => ?_⟩
  refine Jw2 [(4, p5), (5, p11)] [0, 2, 3, 4, 5, 6] [SP.fact (i64ok rv24.1 ∧ (0 ≤ rv24.2 ∧ rv24.2 ≤ (tT.length : Int)) ∧ (0 ≤ rv24.1 ∧ (rv24.1 < 5 ∨ rv24.1 = 0))), Cl tP [vl ta tk tT, vi rv24.2], Cl p11 [vi (s.Width + (rv24.1 - 2)), vl a13 k14 s.Words]] ?_
  refine Jf 6 rfl ?_; rintro ⟨he32, he33, he34⟩
  unfold i64ok at he32
  refine Jk [1, 1, 2, 3, 4, 5, 5] ?_
  refine KS ?_
  refine Oq (VldA sh39 6) (Ost (Scl [0] sh39 [vi (s.Width + (rv24.1 - 2)), vl a13 k14 s.Words]) (KS ?_))
  refine Jl [4] (Ent.freeze _ _) ?_
  have hq := q4 hrr ((GSet.mk (s.Width + (rv24.1 - 2)) s.Words), rv24.2) (by simp only [tp_SpoilSet, h21, hg16, hg25, cs4]); subst hq
  exact Kr (vl a13 k14 s.Words) rfl (.cellN 1 rfl sh39 rfl (reads_Cl _ _) rfl .nil) [0, 5] ⟨(by (try dsimp only) <;> first | (unfold i64ok; omega) | exact getD_all (p := i64ok) (by intro x hx; simp only [List.mem_cons, List.not_mem_nil, or_false] at hx; unfold i64ok; omega) aK1 _), en⟩
 intro h21
 have g35 := ne_of_beq_false h21
 refine KS ?_
 refine Oq Veql (Oq Va (KS ?_))
 refine Kc ?_ ?_
 ·intro h36
  have g37 := eq_of_beq h36
  refine Jp 6 fun hp38 => ?_
  refine JK_drawK [0, 1, 0, 4, 12, 28, 63, 127, 255] fmix ?_
  refine Dv [0] (Vfa fo39_1 0) (Dv [7] (VldF sh37 0) (Dv [] Vm ?_))
  refine letv (tp_Next tT rv15.2 2) fun rv39 hg40 => ?_
  refine Dx [1, 4] [1] [2, 0, 1] (fun G => vi rv39.1) [fun G => SP.fact (i64ok rv39.1 ∧ (0 ≤ rv39.2 ∧ rv39.2 ≤ (tT.length : Int)) ∧ (0 ≤ rv39.1 ∧ (rv39.1 < 2 ∨ rv39.1 = 0))), fun G => Cl tP [vl ta tk tT, vi rv39.2]] (fun G => xC [0, 0] ca9 (fn9 tP ta tk tT rv15.2 2 pre pre rv39 hg40)) (Dv [] (VcU un3 un68) (Dx [] [] [0] (fun G => (G.g 5 0)) [fun G => Cr (G.g 5 0) 1 [u64 (BitVec.ofInt 64 rv39.1)]] (fun G => xA (AsV sl37 sz37 [u64 (BitVec.ofInt 64 rv39.1)] [u64 (BitVec.ofInt 64 rv39.1)])) ?_))
  have hn43 := la s.Words ([(BitVec.ofInt 64 rv39.1)] : List (BitVec 64))
  refine Dx [6, 8, 10] [6, 10] [1, 0] (fun G => (G.g 6 0)) [fun G => os (G.g 6 0) ((s.Words ++ [(BitVec.ofInt 64 rv39.1)]) : List (BitVec 64))] (fun G => by refine xf 1 rfl ?_; rintro ⟨he44, he45, he46⟩; unfold i64ok at he44; exact xp [2] rfl (Ent.cr1 (α := BitVec 64) (A := []) _ (BitVec.ofInt 64 rv39.1) _ aB1 (fun _ => rfl)) (xA (ApO [1, 0] sl37 sl37 sz37))) (Dv [0] (Vfa fo39_1 0) (Dx0 [7, 11] [7] [1, 0] [fun G => Cl p11 [vi s.Width, (G.g 6 0)]] (fun G => x1 1 rfl os_one fun ho47 => (xS (OpS.frame [0] rfl (OpS.storeClF [(G.g 6 0)] [vi s.Width, (G.g 6 0)] rfl rfl rfl sh37 (cells_of_one ho47) rfl (by simp only [List.all_cons, List.all_nil, ho47, Bool.and_true, Bool.true_and] <;> rfl) aB1 rfl)))) ?_))
  refine Dn ⟨by kernel_rfl, fun G => ?_⟩
  refine Jw2 [(4, p5), (5, p11)] [0, 2, 3, 4, 5] [SP.fact (i64ok rv39.1 ∧ (0 ≤ rv39.2 ∧ rv39.2 ≤ (tT.length : Int)) ∧ (0 ≤ rv39.1 ∧ (rv39.1 < 2 ∨ rv39.1 = 0))), Cl tP [vl ta tk tT, vi rv39.2], os (G.g 6 0) ((s.Words ++ [(BitVec.ofInt 64 rv39.1)]) : List (BitVec 64)), Cl p11 [vi s.Width, (G.g 6 0)]] ?_
  generalize G.g 6 0 = c42
  refine Jf 5 rfl ?_; rintro ⟨he48, he49, he50⟩
  unfold i64ok at he48
  refine Jk [1, 1, 2, 3, 5, 5, 5] ?_
  refine Jo 5 ?_; rintro a51 k52 rfl
  refine Fb 8 5 fun _ => KS ?_
  refine Oq (VldA sh39 6) (Ost (Scl [0] sh39 [vi s.Width, vl a51 k52 (s.Words ++ [(BitVec.ofInt 64 rv39.1)])]) (KS ?_))
  refine Jl [5] (Ent.freeze _ _) ?_
  have hq := q4 hrr ((GSet.mk s.Width (s.Words ++ [(BitVec.ofInt 64 rv39.1)])), rv39.2) (by simp only [tp_SpoilSet, h21, h36, hg16, hg40, cs4]); subst hq
  exact Kr (vl a51 k52 (s.Words ++ [(BitVec.ofInt 64 rv39.1)])) rfl (.cellN 1 rfl sh39 rfl (reads_Cl _ _) rfl .nil) [0, 5] ⟨(by (try dsimp only) <;> first | (unfold i64ok; omega) | exact getD_all (p := i64ok) (by intro x hx; simp only [List.mem_cons, List.not_mem_nil, or_false] at hx; unfold i64ok; omega) aK1 _), en⟩
 intro h36
 have g54 := ne_of_beq_false h36
 refine KS ?_
 refine Oq Veql (Oq Va (KS ?_))
 refine Kc ?_ ?_
 ·intro h55
  have g56 := eq_of_beq h55
  refine KS ?_
  refine Oq (Vfa fo39_1 6) (Oq (VldF sh37 6) (Oq (Vlen sl37) (Oq Vgtr (KS ?_))))
  refine Kc ?_ ?_
  ·intro h57
   have g58 := dt h57
   refine Jp 6 fun hp59 => ?_
   refine JK_drawK [0, 1, 0, 4, 12, 28, 63, 127, 0, 256, 768, 1792, 4095, 8191, 16383] fmix ?_
   refine Dv [0] (Vfa fo39_1 0) (Dv [7] (VldF sh37 0) (Dv [0] (Vfa fo39_1 0) (Dv [7] (VldF sh37 0) (Dv [] (Vlen sl37) (Dv [] Vsub (Dv [6] (Vi sl37 0) (Dv [6] (VldU sh68 0) (Dv [] Vm ?_))))))))
   refine letv (tp_Next tT rv15.2 64) fun rv60 hg61 => ?_
   refine Dx [1, 4] [1] [2, 0, 1] (fun G => vi rv60.1) [fun G => SP.fact (i64ok rv60.1 ∧ (0 ≤ rv60.2 ∧ rv60.2 ≤ (tT.length : Int)) ∧ (0 ≤ rv60.1 ∧ (rv60.1 < 64 ∨ rv60.1 = 0))), fun G => Cl tP [vl ta tk tT, vi rv60.2]] (fun G => xC [0, 0] ca9 (fn9 tP ta tk tT rv15.2 64 pre pre rv60 hg61)) (Dv [] (VcU un3 un69) ?_)
   refine Dx [8] [] [0] (fun G => u64 (1#64 <<< (((BitVec.ofInt 64 rv60.1).toNat : Int)).toNat)) [] (fun G => by refine xf 0 rfl ?_; rintro ⟨he62, he63, he64⟩; unfold i64ok at he62; exact xV (VshlU (a := 1#64))) (Dv [] VorU (Dv [6] (Vi sl37 0) (Dx0 [6] [6] [0] [fun G => os (vl a13 k14 s.Words) (s.Words.set (((s.Words.length : Int) - 1) : Int).toNat ((s.Words.getD (((s.Words.length : Int) - 1) : Int).toNat 0#64) ||| (1#64 <<< (((BitVec.ofInt 64 rv60.1).toNat : Int)).toNat)))] (fun G => xS (SoU [0] sh68)) ?_)))
   refine Dn ⟨by kernel_rfl, fun G => ?_⟩
   refine Jw2 [(4, p5), (5, p11)] [0, 2, 3, 4, 5, 7] [SP.fact (i64ok rv60.1 ∧ (0 ≤ rv60.2 ∧ rv60.2 ≤ (tT.length : Int)) ∧ (0 ≤ rv60.1 ∧ (rv60.1 < 64 ∨ rv60.1 = 0))), Cl tP [vl ta tk tT, vi rv60.2], os (vl a13 k14 s.Words) (s.Words.set (((s.Words.length : Int) - 1) : Int).toNat ((s.Words.getD (((s.Words.length : Int) - 1) : Int).toNat 0#64) ||| (1#64 <<< (((BitVec.ofInt 64 rv60.1).toNat : Int)).toNat)))] ?_
   refine Jf 6 rfl ?_; rintro ⟨he65, he66, he67⟩
   unfold i64ok at he65
   refine Jk [1, 1, 2, 3, 4, 5, 5] ?_
   refine KS ?_
   refine Oq (VldA sh39 4) (Ost (Scl [0] sh39 [vi s.Width, vl a13 k14 s.Words]) (KS ?_))
   refine Jl [6] (Ent.freeze _ _) ?_
   have hq := q4 hrr ((GSet.mk s.Width (s.Words.set (((s.Words.length : Int) - 1) : Int).toNat ((s.Words.getD (((s.Words.length : Int) - 1) : Int).toNat 0#64) ||| (1#64 <<< (((BitVec.ofInt 64 rv60.1).toNat : Int)).toNat)))), rv60.2) (by simp only [tp_SpoilSet, h21, h36, h55, h57, hg16, hg61, cs4]); subst hq
   exact Kr (vl a13 k14 s.Words) rfl (.cellN 1 rfl sh39 rfl (reads_Cl _ _) rfl .nil) [0, 6] ⟨(by (try dsimp only) <;> first | (unfold i64ok; omega) | exact getD_all (p := i64ok) (by intro x hx; simp only [List.mem_cons, List.not_mem_nil, or_false] at hx; unfold i64ok; omega) aK1 _), en⟩
  intro h57
  have g68 := df h57
  refine KS ?_
  refine Oq (VldA sh39 6) (Ost (Scl [1] sh39 [vi s.Width, vl a13 k14 s.Words]) (KS ?_))
  refine Jl [5] (Ent.freeze _ _) ?_
  have hq := q4 hrr (s, rv15.2) (by simp only [tp_SpoilSet, h21, h36, h55, h57, hg16, cs4]); subst hq
  exact Kr (vl a13 k14 s.Words) rfl (.cellN 1 rfl sh39 rfl (reads_Cl _ _) rfl .nil) [0, 2] ⟨(by (try dsimp only) <;> first | (unfold i64ok; omega) | exact getD_all (p := i64ok) (by intro x hx; simp only [List.mem_cons, List.not_mem_nil, or_false] at hx; unfold i64ok; omega) aK1 _), en⟩
 intro h55
 have g69 := ne_of_beq_false h55
 refine KS ?_
 refine Oa (AsV sl22 sz22 [vi (-1), vi 257, vi 320, vi 0] [vi (-1), vi 257, vi 320, vi 0]) fun c70 => ?_
 refine Jo 0 ?_; rintro a71 k72 rfl
 refine Oq Vm ?_
 refine letv (tp_Next tT rv15.2 4) fun rv73 hg74 => ?_
 have hc75 := fn9 tP ta tk tT rv15.2 4 pre pre rv73 hg74
 refine Oc [1, 3] ca9 hc75 ?_
 rintro - ⟨he76, he77, he78⟩
 unfold i64ok at he76
 refine Jl [1] (Ent.crInt _ [-1, 257, 320, 0] _ _ rfl rfl (by intro x hx; simp only [List.mem_cons, List.not_mem_nil, or_false] at hx; rcases hx with rfl | rfl | rfl | rfl <;> (unfold i64ok; omega)) aB1) ?_
 refine Oq (Vi sl22 0) (Oq (VldI sh3 0) (Oq (Vfa fo39_0 7) (Ost (SclF [7] sh3 [vi ([-1, 257, 320, 0].getD rv73.1.toNat 0), vl a13 k14 s.Words]) (KS ?_))))
 refine Oq (VldA sh39 0) (Ost (Scl [3] sh39 [vi ([-1, 257, 320, 0].getD rv73.1.toNat 0), vl a13 k14 s.Words]) (KS ?_))
 refine Jl [7] (Ent.freeze _ _) ?_
 have hq := q4 hrr ((GSet.mk ([-1, 257, 320, 0].getD rv73.1.toNat 0) s.Words), rv73.2) (by simp only [tp_SpoilSet, h21, h36, h55, hg16, hg74, cs4]); subst hq
 exact Kr (vl a13 k14 s.Words) rfl (.cellN 1 rfl sh39 rfl (reads_Cl _ _) rfl .nil) [0, 4] ⟨(by (try dsimp only) <;> first | (unfold i64ok; omega) | exact getD_all (p := i64ok) (by intro x hx; simp only [List.mem_cons, List.not_mem_nil, or_false] at hx; unfold i64ok; omega) aK1 _), en⟩
theorem fn38 (b : List UInt8) (ba0 : Option Addr) (bk0 : Nat) (rr : Int) (hrr : r14_Checksum b = rr) : FT Tryz.prog 38 #[vl ba0 bk0 b] [S ba0 bk0 b] (fun g : Unit => True) (fun g => .int .u32 rr) (fun g => []) := by
 refine FTi Tryz.func38 fun w0 M0 F0 => Fb 1 0 fun _ => ?_
 refine KS ?_
 refine Oq Va (KS ?_)
 refine Oq Va (KS ?_)
 refine Oq Va (KS ?_)
 refine Kl (γ := Nat × Int × Int) (fun (r2, c_3, i_4) => ⟨[(0, vl ba0 bk0 b), (3, .int .u32 c_3), (4, vi i_4)], [S ba0 bk0 b], r14_Checksum_L0 b r2 c_3 i_4 = r14_Checksum_L0 b (((b.length : Int) - 0).toNat) 4294967295 0 ∧ r2 = ((b.length : Int) - i_4).toNat ∧ (0 : Int) ≤ i_4 ∧ i_4 ≤ (b.length : Int) ∧ (-9223372036854775808 ≤ c_3 ∧ c_3 ≤ 9223372036854775807) ∧ (-9223372036854775808 ≤ i_4 ∧ i_4 ≤ 9223372036854775807), r2⟩) (((b.length : Int) - 0).toNat, 4294967295, 0) [0] ⟨rfl, rfl, aM1, aM1, aM1, aM1⟩ ?_
 rintro ⟨r2, c_3, i_4⟩ ⟨hM5, hr6, hi7, hi8, hk9, hk10⟩
 refine JJ_nx fun _ _ hL hA => ?_; dsimp only at hL hA; subst hL hA
 refine Fb 1 0 fun _ => KS ?_
 refine Oq Vm (Oq Vm (Oq (Vlen sl44) (Oq Vlss (KS ?_))))
 refine Kc ?_ ?_
 ·intro h12
  have g13 := dt h12
  obtain ⟨r14, rfl⟩ := scc (n := r2) aM1
  refine KS ?_
  refine Oq Vm (Oq Vm (Oq Vm (Oq (Vi sl44 0) ?_)))
  have hb15 := u8b' (b.getD i_4.toNat 0)
  refine Oq (Vld8 sh5 0) (Oq (VcM un5 un78 wrap_u32) ?_)
  have hb16 : 0 ≤ (bXor .u32 c_3 (((b.getD i_4.toNat 0).toNat : Int) % 4294967296)) ∧ (bXor .u32 c_3 (((b.getD i_4.toNat 0).toNat : Int) % 4294967296)) ≤ 4294967295 := wrap_u32b _
  refine Oq VxorK (Oq Va (KS ?_))
  refine Oq Va (KS ?_)
  refine Kl (γ := Nat × Int × Int) (fun (r17, c_18, k_19) => ⟨[(0, vl ba0 bk0 b), (4, vi i_4), (3, .int .u32 c_18), (5, vi k_19)], [S ba0 bk0 b], r14_Checksum_L1 r17 c_18 k_19 = r14_Checksum_L1 8 (bXor .u32 c_3 (((b.getD i_4.toNat 0).toNat : Int) % 4294967296)) 0 ∧ r17 = ((8 : Int) - k_19).toNat ∧ (0 : Int) ≤ k_19 ∧ k_19 ≤ 8 ∧ (-9223372036854775808 ≤ c_18 ∧ c_18 ≤ 9223372036854775807) ∧ (-9223372036854775808 ≤ k_19 ∧ k_19 ≤ 9223372036854775807), r17⟩) (8, (bXor .u32 c_3 (((b.getD i_4.toNat 0).toNat : Int) % 4294967296)), 0) [0] ⟨rfl, rfl, aM1, aM1, aM1, aM1⟩ ?_
  rintro ⟨r17, c_18, k_19⟩ ⟨hM20, hr21, hi22, hi23, hk24, hk25⟩
  refine JJ_nx fun _ _ hL hA => ?_; dsimp only at hL hA; subst hL hA
  refine Fb 1 0 fun _ => KS ?_
  refine Oq Vm (Oq Vlss (KS ?_))
  refine Kc ?_ ?_
  ·intro h27
   have g28 := dt h27
   obtain ⟨r29, rfl⟩ := scc (n := r17) aM1
   refine KS ?_
   refine Oq Vm ?_
   have hb30 : 0 ≤ (bAnd .u32 c_18 1) ∧ (bAnd .u32 c_18 1) ≤ 4294967295 := wrap_u32b _
   refine Oq VandK (Oq Veql (KS ?_))
   refine Kc ?_ ?_
   ·intro h31
    have g32 := eq_of_beq h31
    refine KS ?_
    refine Oq Vm (Oq (VshrK (k := .u32) (n := ((1#64).toNat : Int)) (m := 2) (by decide)) ?_)
    have hb33 : 0 ≤ (bXor .u32 (c_18 / 2) 3988292384) ∧ (bXor .u32 (c_18 / 2) 3988292384) ≤ 4294967295 := wrap_u32b _
    refine Oq VxorK (Oq Va (KS ?_))
    refine Oq Vm (Oq Vadd (Oq Va (KS ?_)))
    exact Kg (r29, (bXor .u32 (c_18 / 2) 3988292384), (k_19 + 1)) [0] ⟨(q3 hM20 (by simp only [r14_Checksum_L1, h27, h31, cs4])), aM1, aM1, aM1, aM1, aM1⟩
   intro h31
   have g34 := ne_of_beq_false h31
   refine KS ?_
   refine Oq Vm (Oq (VshrK (k := .u32) (n := ((1#64).toNat : Int)) (m := 2) (by decide)) (Oq Va (KS ?_)))
   refine Oq Vm (Oq Vadd (Oq Va (KS ?_)))
   exact Kg (r29, (c_18 / 2), (k_19 + 1)) [0] ⟨(q3 hM20 (by simp only [r14_Checksum_L1, h27, h31, cs4])), aM1, aM1, aM1, aM1, aM1⟩
  intro h27
  have g35 := df h27
  obtain rfl : r17 = 0 := by omega
  refine Ke ?_
  have hR36 := q2 hM20 c_18 (by simp only [r14_Checksum_L1, h27, cs4])
  refine KS ?_
  refine Oq Vm (Oq Vadd (Oq Va (KS ?_)))
  exact Kg (r14, c_18, (i_4 + 1)) [0] ⟨(q3 hM5 (by simp only [r14_Checksum_L0, h12, h27, hR36, cs4])), aM1, aM1, aM1, aM1, aM1⟩
 intro h12
 have g37 := df h12
 obtain rfl : r2 = 0 := by omega
 refine Ke ?_
 have hR38 := q2 hM5 c_3 (by simp only [r14_Checksum_L0, h12, cs4])
 refine KS ?_
 refine Oq Vm ?_
 have hb39 : 0 ≤ (bCom .u32 c_3) ∧ (bCom .u32 c_3) ≤ 4294967295 := wrap_u32b _
 refine Oq VcomK (Oq Va (KS ?_))
 have hq := q4 hrr (bCom .u32 c_3) (by simp only [r14_Checksum, h12, hR38, cs4]); subst hq
 exact Kr () rfl (.tmp rfl .nil) [] trivial
theorem fn18 (b : List UInt8) (ba0 : Option Addr) (bk0 : Nat) (hb0 : b.length ≤ 1000000) (rr : List UInt8) (hrr : r14_Sealed b = rr) : FT Tryz.prog 18 #[vl ba0 bk0 b] [S ba0 bk0 b] (fun g : Value => (rr.length = b.length + 4)) (fun g => g) (fun g => [os g rr]) := by
 refine FTi Tryz.func18 fun w0 M0 F0 => Fb 1 0 fun _ => ?_
 refine KS ?_
 refine Oq Va (KS ?_)
 refine Oq Vm ?_
 refine letv (r14_Checksum b) fun rv2 hg3 => ?_
 have hc4 := fn38 b ba0 bk0 rv2 hg3
 refine Oc [0] ca38 hc4 ?_
 rintro - -
 refine Oq Va (KS ?_)
 refine Oa (As0 sl44) fun c5 => ?_
 refine Jo 0 ?_; rintro a6 k7 rfl
 refine Oq Vm ?_
 refine Jl [0] (Ent.crNil (α := UInt8) _) ?_
 refine Oa (Ap0 [0, 0] sl44 sl44 sz44) fun c8 => ?_
 refine Jo 0 ?_; rintro a9 k10 rfl
 refine Oq Vm (Oq (VshrK (k := .u32) (n := ((24#64).toNat : Int)) (m := 16777216) (by decide)) (Oq (VcM un78 un5 wrap_u8) (Oq Vm (Oq (VshrK (k := .u32) (n := ((16#64).toNat : Int)) (m := 65536) (by decide)) (Oq (VcM un78 un5 wrap_u8) (Oq Vm (Oq (VshrK (k := .u32) (n := ((8#64).toNat : Int)) (m := 256) (by decide)) (Oq (VcM un78 un5 wrap_u8) (Oq Vm ?_)))))))))
 refine Oq (VcM un78 un5 wrap_u8) (Oa (AsV sl44 sz44 [.int .u8 ((rv2 / 16777216) % 256), .int .u8 ((rv2 / 65536) % 256), .int .u8 ((rv2 / 256) % 256), .int .u8 (rv2 % 256)] [.int .u8 ((rv2 / 16777216) % 256), .int .u8 ((rv2 / 65536) % 256), .int .u8 ((rv2 / 256) % 256), .int .u8 (rv2 % 256)]) fun c11 => ?_)
 refine Jo 0 ?_; rintro a12 k13 rfl
 refine Jl [0] (Ent.crOs (α := UInt8) (A := []) _ ([(UInt8.ofNat (((rv2 / 16777216) % 256) : Int).toNat), (UInt8.ofNat (((rv2 / 65536) % 256) : Int).toNat), (UInt8.ofNat (((rv2 / 256) % 256) : Int).toNat), (UInt8.ofNat ((rv2 % 256) : Int).toNat)] : List UInt8) _ aB1 (fun h => ⟨[.int .u8 ((rv2 / 16777216) % 256)], [.int .u8 ((rv2 / 65536) % 256), .int .u8 ((rv2 / 256) % 256), .int .u8 (rv2 % 256)], rfl, (fun _ => u8rd aM1) h, ⟨[.int .u8 ((rv2 / 65536) % 256)], [.int .u8 ((rv2 / 256) % 256), .int .u8 (rv2 % 256)], rfl, (fun _ => u8rd aM1) h, ⟨[.int .u8 ((rv2 / 256) % 256)], [.int .u8 (rv2 % 256)], rfl, (fun _ => u8rd aM1) h, ⟨[.int .u8 (rv2 % 256)], [], rfl, (fun _ => u8rd aM1) h, rfl⟩⟩⟩⟩)) ?_
 refine Oa (ApO [1, 0] sl44 sl44 sz44) fun c14 => ?_
 refine Jo 0 ?_; rintro a15 k16 rfl
 refine Fb 1 0 fun _ => ?_
 have hn18 := la b ([(UInt8.ofNat (((rv2 / 16777216) % 256) : Int).toNat), (UInt8.ofNat (((rv2 / 65536) % 256) : Int).toNat), (UInt8.ofNat (((rv2 / 256) % 256) : Int).toNat), (UInt8.ofNat ((rv2 % 256) : Int).toNat)] : List UInt8)
 refine Oq Va (KS ?_)
 have hq := q4 hrr (b ++ [(UInt8.ofNat (((rv2 / 16777216) % 256) : Int).toNat), (UInt8.ofNat (((rv2 / 65536) % 256) : Int).toNat), (UInt8.ofNat (((rv2 / 256) % 256) : Int).toNat), (UInt8.ofNat ((rv2 % 256) : Int).toNat)]) (by simp only [r14_Sealed, hg3, cs4]); subst hq
 exact Kr (.slice a15 ((b ++ [(UInt8.ofNat (((rv2 / 16777216) % 256) : Int).toNat), (UInt8.ofNat (((rv2 / 65536) % 256) : Int).toNat), (UInt8.ofNat (((rv2 / 256) % 256) : Int).toNat), (UInt8.ofNat ((rv2 % 256) : Int).toNat)]).length) k16) rfl (.tmp rfl .nil) [0] en
theorem fn58 (n : Int) (hn_0 : i64ok n) (rr : Bool) (hrr : r14_counter n = rr) : FT Tryz.prog 58 #[vi n] [] (fun g : Unit => True) (fun g => vb rr) (fun g => []) := by
 refine FTi Tryz.func58 fun w0 M0 F0 => ?_
 unfold i64ok at hn_0
 refine KS ?_
 refine Oq Va (KS ?_)
 refine Oq Vm (Oq Vgeq (Oq Vm ?_))
 refine Js 5 ?_ ?_
 ·intro h1
  have g2 := dt h1
  refine Oq Vm (Oq Vleq (Oq Vpt (Oq Va (KS ?_))))
  have hq := q4 hrr (decide (n ≤ 1073741824)) (by simp only [r14_counter, h1, cs4]); subst hq
  exact Kr () rfl (.tmp rfl .nil) [] trivial
 intro h1
 have g3 := df h1
 refine Osk (Osk (Oq Vpf (Oq Va (KS ?_))))
 have hq := q4 hrr false (by simp only [r14_counter, h1, cs4]); subst hq
 exact Kr () rfl (.tmp rfl .nil) [] trivial
theorem fn59 (s : GSet) (sa1 : Option Addr) (sk1 : Nat) (hs_0 : i64ok s.Width) (rr : Bool) (hrr : r1_Valid s = rr) : FT Tryz.prog 59 #[.agg #[vi s.Width, vl sa1 sk1 s.Words]] [S sa1 sk1 s.Words] (fun g : Unit => True) (fun g => vb rr) (fun g => []) := by
 refine FTi Tryz.func59 fun w0 M0 F0 => ?_
 unfold i64ok at hs_0
 refine Fb 8 0 fun _ => KS ?_
 refine Oa (Ab [vi s.Width, vl sa1 sk1 s.Words]) fun p2 => Oq Va (KS ?_)
 refine Oq (Vfa fo39_0 0) (Oq (VldF sh3 0) (Oq Vlss (Oq Vm ?_)))
 refine Js 7 ?_ ?_
 ·intro h3
  have g4 := dt h3
  refine Osk (Osk (Osk (Oq Vpt (Oq Vm (Osk (Osk (Osk (Osk (Osk ?_)))))))))
  refine Osk (Osk (Osk (Oq Vpt (KS ?_))))
  refine Kt (KS ?_)
  refine Oq Va (KS ?_)
  have hq := q4 hrr false (by simp only [r1_Valid, h3, cs4]); subst hq
  exact Kr () rfl (.tmp rfl .nil) [] trivial
 intro h3
 have g5 := df h3
 refine Oq (Vfa fo39_0 0) (Oq (VldF sh3 0) (Oq Vgtr (Oq Vpf (Oq Vm ?_))))
 refine Js 12 ?_ ?_
 ·intro h6
  have g7 := dt h6
  refine Osk (Osk (Osk (Osk (Osk (Osk (Osk (Osk (Oq Vpt (KS ?_)))))))))
  refine Kt (KS ?_)
  refine Oq Va (KS ?_)
  have hq := q4 hrr false (by simp only [r1_Valid, h3, h6, cs4]); subst hq
  exact Kr () rfl (.tmp rfl .nil) [] trivial
 intro h6
 have g8 := df h6
 refine Oq (Vfa fo39_1 0) (Oq (VldF sh37 0) (Oq (Vlen sl37) (Oq (Vfa fo39_0 0) (Oq (VldF sh3 0) (Oq Vadd (Oq Vquo (Oq Vneq (Oq Vpf (KS ?_)))))))))
 refine Kc ?_ ?_
 ·intro h9
  have g10 := ne_of_bne h9
  refine KS ?_
  refine Oq Va (KS ?_)
  have hq := q4 hrr false (by simp only [r1_Valid, h3, h6, h9, cs4]); subst hq
  exact Kr () rfl (.tmp rfl .nil) [] trivial
 intro h9
 have g11 := eq_of_bne_false h9
 refine KS ?_
 refine Oq (Vfa fo39_0 0) (Oq (VldF sh3 0) (Oq Va (KS ?_)))
 refine Kl (γ := Nat × Int) (fun (r12, b_13) => ⟨[(1, p2), (3, vi b_13)], [pv p2 [vi s.Width, vl sa1 sk1 s.Words], S sa1 sk1 s.Words], r1_Valid_L0 s r12 b_13 = r1_Valid_L0 s ((((64 * (s.Words.length : Int)) : Int) - s.Width).toNat) s.Width ∧ r12 = (((64 * (s.Words.length : Int)) : Int) - b_13).toNat ∧ (s.Width : Int) ≤ b_13 ∧ (b_13 ≤ (64 * (s.Words.length : Int)) ∨ b_13 = s.Width) ∧ (-9223372036854775808 ≤ b_13 ∧ b_13 ≤ 9223372036854775807), r12⟩) ((((64 * (s.Words.length : Int)) : Int) - s.Width).toNat, s.Width) [0, 1] ⟨rfl, rfl, aM1, (.inr rfl), aM1⟩ ?_
 rintro ⟨r12, b_13⟩ ⟨hM14, hr15, hi16, hi17, hk18⟩
 refine JJ_nx fun _ _ hL hA => ?_; dsimp only at hL hA; subst hL hA
 refine Fb 8 1 fun _ => KS ?_
 refine Oq Vm (Oq (Vfa fo39_1 0) (Oq (VldF sh37 0) (Oq (Vlen sl37) (Oq Vmul (Oq Vlss (KS ?_))))))
 refine Kc ?_ ?_
 ·intro h20
  have g21 := dt h20
  obtain ⟨r22, rfl⟩ := scc (n := r12) aM1
  refine KS ?_
  refine Oq (Vfa fo39_1 0) (Oq (VldF sh37 0) (Oq Vm (Oq Vquo (Oq (Vi sl37 1) (Oq (VldU sh68 1) (Oq Vm (Oq Vrem (Oq (VcU un3 un69) (Oq VshrU ?_)))))))))
  refine Oq (VandU (b := 1#64)) (Oq (VeqlU (b := 1#64)) (KS ?_))
  refine Kc ?_ ?_
  ·intro h23
   have g24 := eq_of_beq h23
   refine KS ?_
   refine Oq Va (KS ?_)
   have hR25 := q2 hM14 (.ret false) (by simp only [r1_Valid_L0, h20, h23, cs4])
   have hq := q4 hrr false (by simp only [r1_Valid, h3, h6, h9, h20, h23, hR25, cs4]); subst hq
   exact Kr () rfl (.tmp rfl .nil) [] trivial
  intro h23
  have g26 := ne_of_beq_false h23
  refine KS ?_
  refine Oq Vm (Oq Vadd (Oq Va (KS ?_)))
  exact Kg (r22, (b_13 + 1)) [0, 1] ⟨(q3 hM14 (by simp only [r1_Valid_L0, h20, h23, cs4])), aM1, aM1, aM1, aM1⟩
 intro h20
 have g27 := df h20
 obtain rfl : r12 = 0 := by omega
 refine Ke ?_
 have hR28 := q2 hM14 (.brk ()) (by simp only [r1_Valid_L0, h20, cs4])
 refine KS ?_
 refine Oq Va (KS ?_)
 have hq := q4 hrr true (by simp only [r1_Valid, h3, h6, h9, h20, hR28, cs4]); subst hq
 exact Kr () rfl (.tmp rfl .nil) [] trivial
theorem fn31 (st : GState) (sta1 : Option Addr) (stk1 : Nat) (sta2 : Option Addr) (stk2 : Nat) (sta5 : Option Addr) (stk5 : Nat) (sta6 : Option Addr) (stk6 : Nat) (hst_0 : i64ok st.Phase) (hst_3 : i64ok st.At) (hst_4 : i64ok st.Edge) (hst_7 : i64ok st.Steps) (rr : Bool) (hrr : r14_Encodable st = rr) : FT Tryz.prog 31 #[.agg #[vi st.Phase, vl sta1 stk1 st.Cone, vl sta2 stk2 st.Leaf, vi st.At, vi st.Edge, vl sta5 stk5 st.Values, vl sta6 stk6 st.Queue, vi st.Steps]] [S sta1 stk1 st.Cone, S sta2 stk2 st.Leaf, S sta5 stk5 st.Values, S sta6 stk6 st.Queue] (fun g : Unit => True) (fun g => vb rr) (fun g => []) := by
 refine FTi Tryz.func31 fun w0 M0 F0 => ?_
 unfold i64ok at hst_0 hst_3 hst_4 hst_7
 refine Fb 8 0 fun _ => Fo 0 fun ho2 => Fb 1 1 fun _ => Fb 32 2 fun _ => Fb 8 3 fun _ => Fo 3 fun ho6 => KS ?_
 refine Oa (Ab [vi st.Phase, vl sta1 stk1 st.Cone, vl sta2 stk2 st.Leaf, vi st.At, vi st.Edge, vl sta5 stk5 st.Values, vl sta6 stk6 st.Queue, vi st.Steps]) fun p7 => Oq Va (KS ?_)
 refine Oq (Vfa fo26_0 0) (Oq (VldF sh3 0) (Oq Vlss (Oq Vm ?_)))
 refine Js 8 ?_ ?_
 ·intro h8
  have g9 := dt h8
  refine Osk (Osk (Osk (Oq Vpt (Oq Vm (Osk (Osk (Osk (Osk (Oq Vpt ?_)))))))))
  refine Oq Vm (Osk (Osk (Osk (Osk (Oq Vpt (Oq Vm (Osk (Osk (Osk ?_)))))))))
  refine Osk (Osk (Osk (Osk (Oq Vpt (Oq Vm (Osk (Osk (Osk (Osk ?_)))))))))
  refine Osk (Osk (Osk (Osk (Osk (Osk (Osk (Osk (Osk (Oq Vpt ?_)))))))))
  refine Oq Vm (Osk (Osk (Osk (Osk (Oq Vpt (Oq Vm (Osk (Osk (Osk ?_)))))))))
  refine Osk (Oq Vpt (Oq Vm (Osk (Osk (Osk (Osk (Oq Vpt (Oq Vm (Osk ?_)))))))))
  refine Osk (Osk (Osk (Oq Vpt (KS ?_))))
  refine Kt (KS ?_)
  refine Oq Va (KS ?_)
  have hq := q4 hrr false (by simp only [r14_Encodable, h8, cs4]); subst hq
  exact Kr () rfl (.tmp rfl .nil) [] trivial
 intro h8
 have g10 := df h8
 refine Oq (Vfa fo26_0 0) (Oq (VldF sh3 0) (Oq Vgtr (Oq Vpf (Oq Vm ?_))))
 refine Js 13 ?_ ?_
 ·intro h11
  have g12 := dt h11
  refine Osk (Osk (Osk (Osk (Oq Vpt (Oq Vm (Osk (Osk (Osk (Osk ?_)))))))))
  refine Oq Vpt (Oq Vm (Osk (Osk (Osk (Osk (Osk (Osk (Osk (Oq Vpt ?_)))))))))
  refine Oq Vm (Osk (Osk (Osk (Osk (Osk (Osk (Osk (Osk (Osk ?_)))))))))
  refine Osk (Osk (Osk (Osk (Oq Vpt (Oq Vm (Osk (Osk (Osk (Osk ?_)))))))))
  refine Oq Vpt (Oq Vm (Osk (Osk (Osk (Osk (Oq Vpt (Oq Vm (Osk (Osk ?_)))))))))
  refine Osk (Osk (Oq Vpt (Oq Vm (Osk (Osk (Osk (Osk (Oq Vpt (KS ?_)))))))))
  refine Kt (KS ?_)
  refine Oq Va (KS ?_)
  have hq := q4 hrr false (by simp only [r14_Encodable, h8, h11, cs4]); subst hq
  exact Kr () rfl (.tmp rfl .nil) [] trivial
 intro h11
 have g13 := df h11
 refine Oq (Vfa fo26_1 0) (Oq (VldF sh22 0) (Oq (Vlen sl22) (Oq Vlss (Oq Vpf (Oq Vm ?_)))))
 refine Js 19 ?_ ?_
 ·intro h14
  have g15 := dt h14
  refine Osk (Osk (Osk (Osk (Oq Vpt (Oq Vm (Osk (Osk (Osk (Osk ?_)))))))))
  refine Osk (Osk (Osk (Oq Vpt (Oq Vm (Osk (Osk (Osk (Osk (Osk ?_)))))))))
  refine Osk (Osk (Osk (Osk (Osk (Osk (Osk (Osk (Oq Vpt (Oq Vm ?_)))))))))
  refine Osk (Osk (Osk (Osk (Oq Vpt (Oq Vm (Osk (Osk (Osk (Osk ?_)))))))))
  refine Oq Vpt (Oq Vm (Osk (Osk (Osk (Osk (Oq Vpt (Oq Vm (Osk (Osk ?_)))))))))
  refine Osk (Osk (Oq Vpt (KS ?_)))
  refine Kt (KS ?_)
  refine Oq Va (KS ?_)
  have hq := q4 hrr false (by simp only [r14_Encodable, h8, h11, h14, cs4]); subst hq
  exact Kr () rfl (.tmp rfl .nil) [] trivial
 intro h14
 have g16 := df h14
 refine Oq (Vfa fo26_1 0) (Oq (VldF sh22 0) (Oq (Vlen sl22) (Oq Vgtr (Oq Vpf (Oq Vm ?_)))))
 refine Js 25 ?_ ?_
 ·intro h17
  have g18 := dt h17
  refine Osk (Osk (Osk (Osk (Osk (Osk (Osk (Oq Vpt (Oq Vm (Osk ?_)))))))))
  refine Osk (Osk (Osk (Osk (Osk (Osk (Osk (Osk (Osk (Osk ?_)))))))))
  refine Osk (Osk (Oq Vpt (Oq Vm (Osk (Osk (Osk (Osk (Oq Vpt (Oq Vm ?_)))))))))
  refine Osk (Osk (Osk (Osk (Oq Vpt (Oq Vm (Osk (Osk (Osk (Osk ?_)))))))))
  refine Oq Vpt (Oq Vm (Osk (Osk (Osk (Osk (Oq Vpt (KS ?_)))))))
  refine Kt (KS ?_)
  refine Oq Va (KS ?_)
  have hq := q4 hrr false (by simp only [r14_Encodable, h8, h11, h14, h17, cs4]); subst hq
  exact Kr () rfl (.tmp rfl .nil) [] trivial
 intro h17
 have g19 := df h17
 refine Oq (Vfa fo26_2 0) (Oq (VldF sh23 0) (Oq (Vlen sl23) (Oq (Vfa fo26_1 0) (Oq (VldF sh22 0) (Oq (Vlen sl22) (Oq Vneq (Oq Vpf (Oq Vm ?_))))))))
 refine Js 34 ?_ ?_
 ·intro h20
  have g21 := ne_of_bne h20
  refine Osk (Osk (Osk (Osk (Osk (Osk (Osk (Osk (Osk (Osk ?_)))))))))
  refine Osk (Osk (Osk (Oq Vpt (Oq Vm (Osk (Osk (Osk (Osk (Oq Vpt ?_)))))))))
  refine Oq Vm (Osk (Osk (Osk (Osk (Oq Vpt (Oq Vm (Osk (Osk (Osk ?_)))))))))
  refine Osk (Oq Vpt (Oq Vm (Osk (Osk (Osk (Osk (Oq Vpt (KS ?_))))))))
  refine Kt (KS ?_)
  refine Oq Va (KS ?_)
  have hq := q4 hrr false (by simp only [r14_Encodable, h8, h11, h14, h17, h20, cs4]); subst hq
  exact Kr () rfl (.tmp rfl .nil) [] trivial
 intro h20
 have g22 := eq_of_bne_false h20
 refine Oq (Vfa fo26_5 0) (Oq (VldF sh24 0) (Oq (Vlen sl24) (Oq Vneq (Oq Vm ?_))))
 refine Js 39 ?_ ?_
 ·intro h23
  have g24 := ne_of_bne h23
  refine Oq (Vfa fo26_5 0) (Oq (VldF sh24 0) (Oq (Vlen sl24) (Oq (Vfa fo26_1 0) (Oq (VldF sh22 0) (Oq (Vlen sl22) (Oq Vneq (Oq Vpt (Oq Vpf (Oq Vm ?_)))))))))
  refine Js 49 ?_ ?_
  ·intro h25
   have g26 := ne_of_bne h25
   refine Osk (Osk (Osk (Osk (Oq Vpt (Oq Vm (Osk (Osk (Osk (Osk ?_)))))))))
   refine Oq Vpt (Oq Vm (Osk (Osk (Osk (Osk (Oq Vpt (Oq Vm (Osk (Osk ?_)))))))))
   refine Osk (Osk (Oq Vpt (KS ?_)))
   refine Kt (KS ?_)
   refine Oq Va (KS ?_)
   have hq := q4 hrr false (by simp only [r14_Encodable, h8, h11, h14, h17, h20, h23, h25, cs4]); subst hq
   exact Kr () rfl (.tmp rfl .nil) [] trivial
  intro h25
  have g27 := eq_of_bne_false h25
  refine Oq (Vfa fo26_6 0) (Oq (VldF sh22 0) (Oq (Vlen sl22) (Oq Vgtr (Oq Vpf (Oq Vm ?_)))))
  refine Js 55 ?_ ?_
  ·intro h28
   have g29 := dt h28
   refine Osk (Osk (Osk (Osk (Oq Vpt (Oq Vm (Osk (Osk (Osk (Osk ?_)))))))))
   refine Oq Vpt (Oq Vm (Osk (Osk (Osk (Osk (Oq Vpt (KS ?_)))))))
   refine Kt (KS ?_)
   refine Oq Va (KS ?_)
   have hq := q4 hrr false (by simp only [r14_Encodable, h8, h11, h14, h17, h20, h23, h25, h28, cs4]); subst hq
   exact Kr () rfl (.tmp rfl .nil) [] trivial
  intro h28
  have g30 := df h28
  refine Oq (Vfa fo26_3 0) (Oq (VldF sh3 0) ?_)
  refine letv (r14_counter st.At) fun rv31 hg32 => ?_
  have hc33 := fn58 st.At pre rv31 hg32
  refine Oc [] ca58 hc33 ?_
  rintro - -
  refine Oq Vnot (Oq Vpf (Oq Vm ?_))
  refine Js 61 ?_ ?_
  ·intro h34
   have h36 := not_true h34
   refine Osk (Osk (Osk (Osk (Oq Vpt (Oq Vm (Osk (Osk (Osk (Osk ?_)))))))))
   refine Oq Vpt (KS ?_)
   refine Kt (KS ?_)
   refine Oq Va (KS ?_)
   have hq := q4 hrr false (by simp only [r14_Encodable, h8, h11, h14, h17, h20, h23, h25, h28, h34, h36, hg32, cs4]); subst hq
   exact Kr () rfl (.tmp rfl .nil) [] trivial
  intro h34
  have h39 := not_false h34
  refine Oq (Vfa fo26_4 0) (Oq (VldF sh3 0) ?_)
  refine letv (r14_counter st.Edge) fun rv41 hg42 => ?_
  have hc43 := fn58 st.Edge pre rv41 hg42
  refine Oc [] ca58 hc43 ?_
  rintro - -
  refine Oq Vnot (Oq Vpf (Oq Vm ?_))
  refine Js 67 ?_ ?_
  ·intro h44
   have h46 := not_true h44
   refine Osk (Osk (Osk (Osk (Oq Vpt (KS ?_)))))
   refine Kt (KS ?_)
   refine Oq Va (KS ?_)
   have hq := q4 hrr false (by simp only [r14_Encodable, h8, h11, h14, h17, h20, h23, h25, h28, h34, h39, h44, h46, hg32, hg42, cs4]); subst hq
   exact Kr () rfl (.tmp rfl .nil) [] trivial
  intro h44
  have h49 := not_false h44
  refine Oq (Vfa fo26_7 0) (Oq (VldF sh3 0) ?_)
  refine letv (r14_counter st.Steps) fun rv51 hg52 => ?_
  have hc53 := fn58 st.Steps pre rv51 hg52
  refine Oc [] ca58 hc53 ?_
  rintro - -
  refine Oq Vnot (Oq Vpf (KS ?_))
  refine Kc ?_ ?_
  ·intro h54
   have h56 := not_true h54
   refine KS ?_
   refine Oq Va (KS ?_)
   have hq := q4 hrr false (by simp only [r14_Encodable, h8, h11, h14, h17, h20, h23, h25, h28, h34, h39, h44, h49, h54, h56, hg32, hg42, hg52, cs4]); subst hq
   exact Kr () rfl (.tmp rfl .nil) [] trivial
  intro h54
  have h59 := not_false h54
  refine KS ?_
  refine Oq Va (KS ?_)
  refine Kl (γ := Nat × Int) (fun (r61, i_62) => ⟨[(1, p7), (3, vi i_62)], [pv p7 [vi st.Phase, vl sta1 stk1 st.Cone, vl sta2 stk2 st.Leaf, vi st.At, vi st.Edge, vl sta5 stk5 st.Values, vl sta6 stk6 st.Queue, vi st.Steps], S sta1 stk1 st.Cone, S sta2 stk2 st.Leaf, S sta5 stk5 st.Values, S sta6 stk6 st.Queue], r14_Encodable_L0 st r61 i_62 = r14_Encodable_L0 st (((st.Cone.length : Int) - 0).toNat) 0 ∧ r61 = ((st.Cone.length : Int) - i_62).toNat ∧ (0 : Int) ≤ i_62 ∧ i_62 ≤ (st.Cone.length : Int) ∧ (-9223372036854775808 ≤ i_62 ∧ i_62 ≤ 9223372036854775807), r61⟩) (((st.Cone.length : Int) - 0).toNat, 0) [0, 1, 2, 3, 4] ⟨rfl, rfl, aM1, aM1, aM1⟩ ?_
  rintro ⟨r61, i_62⟩ ⟨hM63, hr64, hi65, hi66, hk67⟩
  refine JJ_nx fun _ _ hL hA => ?_; dsimp only at hL hA; subst hL hA
  refine Fb 8 1 fun _ => Fo 1 fun ho69 => Fb 1 2 fun _ => Fb 32 3 fun _ => Fb 8 4 fun _ => Fo 4 fun ho73 => KS ?_
  refine Oq Vm (Oq (Vfa fo26_1 0) (Oq (VldF sh22 0) (Oq (Vlen sl22) (Oq Vlss (KS ?_)))))
  refine Kc ?_ ?_
  ·intro h74
   have g75 := dt h74
   obtain ⟨r76, rfl⟩ := scc (n := r61) aM1
   refine KS ?_
   refine Oq (Vfa fo26_1 0) (Oq (VldF sh22 0) (Oq Vm (Oq (Vi sl22 1) ?_)))
   have hb77 := ok1 (i := i_62.toNat) ho69 rng
   refine Oq (VldI sh3 1) ?_
   refine letv (r14_counter (st.Cone.getD i_62.toNat 0)) fun rv78 hg79 => ?_
   have hc80 := fn58 ((st.Cone.getD i_62.toNat 0)) pre rv78 hg79
   refine Oc [] ca58 hc80 ?_
   rintro - -
   refine Oq Vnot (Oq Vm ?_)
   refine Js 87 ?_ ?_
   ·intro h81
    have h83 := not_true h81
    refine Osk (Osk (Osk (Osk (Osk (Osk (Osk (Osk (Osk (Osk ?_)))))))))
    refine Osk (Osk (Osk (Oq Vpt (KS ?_))))
    refine Kt (KS ?_)
    refine Oq Va (KS ?_)
    have hR85 := q2 hM63 (.ret false) (by simp only [r14_Encodable_L0, h74, h81, h83, hg79, cs4])
    have hq := q4 hrr false (by simp only [r14_Encodable, h8, h11, h14, h17, h20, h23, h25, h28, h34, h39, h44, h49, h54, h59, h74, h81, h83, hg32, hg42, hg52, hg79, hR85, cs4]); subst hq
    exact Kr () rfl (.tmp rfl .nil) [] trivial
   intro h81
   have h87 := not_false h81
   refine Oq (Vfa fo26_5 0) (Oq (VldF sh24 0) (Oq (Vlen sl24) (Oq Vgtr (Oq Vm ?_))))
   refine Js 92 ?_ ?_
   ·intro h89
    have g90 := dt h89
    refine Oq (Vfa fo26_5 0) (Oq (VldF sh24 0) (Oq Vm (Oq (Vi sl24 3) ?_)))
    refine JJ_peek_GSet i_62.toNat 3 rfl rng fun a91 k92 hb93 => ?_
    unfold i64ok at hb93
    refine Fb 8 1 fun _ => Oq (VldA sh39 0) ?_
    refine letv (r1_Valid (st.Values.getD i_62.toNat default)) fun rv95 hg96 => ?_
    have hc97 := fn59 ((st.Values.getD i_62.toNat default)) a91 k92 pre rv95 hg96
    refine Oc [1] ca59 hc97 ?_
    rintro - -
    refine Oq Vnot (Oq Vpt (Oq Vpf (KS ?_)))
    refine Kc ?_ ?_
    ·intro h98
     have h100 := not_true h98
     refine KS ?_
     refine Oq Va (KS ?_)
     have hR102 := q2 hM63 (.ret false) (by simp only [r14_Encodable_L0, h74, h81, h87, h89, h98, h100, hg79, hg96, cs4])
     have hq := q4 hrr false (by simp only [r14_Encodable, h8, h11, h14, h17, h20, h23, h25, h28, h34, h39, h44, h49, h54, h59, h74, h81, h87, h89, h98, h100, hg32, hg42, hg52, hg79, hg96, hR102, cs4]); subst hq
     exact Kr () rfl (.tmp rfl .nil) [] trivial
    intro h98
    have h104 := not_false h98
    refine KS ?_
    refine Oq Vm (Oq Vadd (Oq Va (KS ?_)))
    exact Kg (r76, (i_62 + 1)) [2, 3, 4, 5, 6] ⟨(q3 hM63 (by simp only [r14_Encodable_L0, h74, h81, h87, h89, h98, h104, hg79, hg96, cs4])), aM1, aM1, aM1, aM1⟩
   intro h89
   have g106 := df h89
   refine Osk (Osk (Osk (Osk (Osk (Osk (Osk (Oq Vpf (Oq Vpf (KS ?_)))))))))
   refine Kf (KS ?_)
   refine Oq Vm (Oq Vadd (Oq Va (KS ?_)))
   exact Kg (r76, (i_62 + 1)) [0, 1, 2, 3, 4] ⟨(q3 hM63 (by simp only [r14_Encodable_L0, h74, h81, h87, h89, hg79, cs4])), aM1, aM1, aM1, aM1⟩
  intro h74
  have g107 := df h74
  obtain rfl : r61 = 0 := by omega
  refine Ke ?_
  have hR108 := q2 hM63 (.brk ()) (by simp only [r14_Encodable_L0, h74, cs4])
  refine KS ?_
  refine Oq Va (KS ?_)
  refine Kl (γ := Nat × Int) (fun (r109, i_110) => ⟨[(1, p7), (4, vi i_110)], [pv p7 [vi st.Phase, vl sta1 stk1 st.Cone, vl sta2 stk2 st.Leaf, vi st.At, vi st.Edge, vl sta5 stk5 st.Values, vl sta6 stk6 st.Queue, vi st.Steps], S sta1 stk1 st.Cone, S sta2 stk2 st.Leaf, S sta5 stk5 st.Values, S sta6 stk6 st.Queue], r14_Encodable_L1 st r109 i_110 = r14_Encodable_L1 st (((st.Queue.length : Int) - 0).toNat) 0 ∧ r109 = ((st.Queue.length : Int) - i_110).toNat ∧ (0 : Int) ≤ i_110 ∧ i_110 ≤ (st.Queue.length : Int) ∧ (-9223372036854775808 ≤ i_110 ∧ i_110 ≤ 9223372036854775807), r109⟩) (((st.Queue.length : Int) - 0).toNat, 0) [0, 1, 2, 3, 4] ⟨rfl, rfl, aM1, aM1, aM1⟩ ?_
  rintro ⟨r109, i_110⟩ ⟨hM111, hr112, hi113, hi114, hk115⟩
  refine JJ_nx fun _ _ hL hA => ?_; dsimp only at hL hA; subst hL hA
  refine Fb 8 1 fun _ => Fo 1 fun ho117 => Fb 1 2 fun _ => Fb 32 3 fun _ => Fb 8 4 fun _ => Fo 4 fun ho121 => KS ?_
  refine Oq Vm (Oq (Vfa fo26_6 0) (Oq (VldF sh22 0) (Oq (Vlen sl22) (Oq Vlss (KS ?_)))))
  refine Kc ?_ ?_
  ·intro h122
   have g123 := dt h122
   obtain ⟨r124, rfl⟩ := scc (n := r109) aM1
   refine KS ?_
   refine Oq (Vfa fo26_6 0) (Oq (VldF sh22 0) (Oq Vm (Oq (Vi sl22 4) ?_)))
   have hb125 := ok1 (i := i_110.toNat) ho121 rng
   refine Oq (VldI sh3 4) ?_
   refine letv (r14_counter (st.Queue.getD i_110.toNat 0)) fun rv126 hg127 => ?_
   have hc128 := fn58 ((st.Queue.getD i_110.toNat 0)) pre rv126 hg127
   refine Oc [] ca58 hc128 ?_
   rintro - -
   refine Oq Vnot (KS ?_)
   refine Kc ?_ ?_
   ·intro h129
    have h131 := not_true h129
    refine KS ?_
    refine Oq Va (KS ?_)
    have hR133 := q2 hM111 (.ret false) (by simp only [r14_Encodable_L1, h122, h129, h131, hg127, cs4])
    have hq := q4 hrr false (by simp only [r14_Encodable, h8, h11, h14, h17, h20, h23, h25, h28, h34, h39, h44, h49, h54, h59, h74, h122, h129, h131, hg32, hg42, hg52, hR108, hg127, hR133, cs4]); subst hq
    exact Kr () rfl (.tmp rfl .nil) [] trivial
   intro h129
   have h135 := not_false h129
   refine KS ?_
   refine Oq Vm (Oq Vadd (Oq Va (KS ?_)))
   exact Kg (r124, (i_110 + 1)) [0, 1, 2, 3, 4] ⟨(q3 hM111 (by simp only [r14_Encodable_L1, h122, h129, h135, hg127, cs4])), aM1, aM1, aM1, aM1⟩
  intro h122
  have g137 := df h122
  obtain rfl : r109 = 0 := by omega
  refine Ke ?_
  have hR138 := q2 hM111 (.brk ()) (by simp only [r14_Encodable_L1, h122, cs4])
  refine KS ?_
  refine Oq Va (KS ?_)
  have hq := q4 hrr true (by simp only [r14_Encodable, h8, h11, h14, h17, h20, h23, h25, h28, h34, h39, h44, h49, h54, h59, h74, h122, hg32, hg42, hg52, hR108, hR138, cs4]); subst hq
  exact Kr () rfl (.tmp rfl .nil) [] trivial
 intro h23
 have g139 := eq_of_bne_false h23
 refine Osk (Osk (Osk (Osk (Osk (Osk (Osk (Oq Vpf (Oq Vpf (Oq Vm ?_)))))))))
 refine Oq (Vfa fo26_6 0) (Oq (VldF sh22 0) (Oq (Vlen sl22) (Oq Vgtr (Oq Vpf (Oq Vm ?_)))))
 refine Js 55 ?_ ?_
 ·intro h140
  have g141 := dt h140
  refine Osk (Osk (Osk (Osk (Oq Vpt (Oq Vm (Osk (Osk (Osk (Osk ?_)))))))))
  refine Oq Vpt (Oq Vm (Osk (Osk (Osk (Osk (Oq Vpt (KS ?_)))))))
  refine Kt (KS ?_)
  refine Oq Va (KS ?_)
  have hq := q4 hrr false (by simp only [r14_Encodable, h8, h11, h14, h17, h20, h23, h140, cs4]); subst hq
  exact Kr () rfl (.tmp rfl .nil) [] trivial
 intro h140
 have g142 := df h140
 refine Oq (Vfa fo26_3 0) (Oq (VldF sh3 0) ?_)
 refine letv (r14_counter st.At) fun rv143 hg144 => ?_
 have hc145 := fn58 st.At pre rv143 hg144
 refine Oc [] ca58 hc145 ?_
 rintro - -
 refine Oq Vnot (Oq Vpf (Oq Vm ?_))
 refine Js 61 ?_ ?_
 ·intro h146
  have h148 := not_true h146
  refine Osk (Osk (Osk (Osk (Oq Vpt (Oq Vm (Osk (Osk (Osk (Osk ?_)))))))))
  refine Oq Vpt (KS ?_)
  refine Kt (KS ?_)
  refine Oq Va (KS ?_)
  have hq := q4 hrr false (by simp only [r14_Encodable, h8, h11, h14, h17, h20, h23, h140, h146, h148, hg144, cs4]); subst hq
  exact Kr () rfl (.tmp rfl .nil) [] trivial
 intro h146
 have h151 := not_false h146
 refine Oq (Vfa fo26_4 0) (Oq (VldF sh3 0) ?_)
 refine letv (r14_counter st.Edge) fun rv153 hg154 => ?_
 have hc155 := fn58 st.Edge pre rv153 hg154
 refine Oc [] ca58 hc155 ?_
 rintro - -
 refine Oq Vnot (Oq Vpf (Oq Vm ?_))
 refine Js 67 ?_ ?_
 ·intro h156
  have h158 := not_true h156
  refine Osk (Osk (Osk (Osk (Oq Vpt (KS ?_)))))
  refine Kt (KS ?_)
  refine Oq Va (KS ?_)
  have hq := q4 hrr false (by simp only [r14_Encodable, h8, h11, h14, h17, h20, h23, h140, h146, h151, h156, h158, hg144, hg154, cs4]); subst hq
  exact Kr () rfl (.tmp rfl .nil) [] trivial
 intro h156
 have h161 := not_false h156
 refine Oq (Vfa fo26_7 0) (Oq (VldF sh3 0) ?_)
 refine letv (r14_counter st.Steps) fun rv163 hg164 => ?_
 have hc165 := fn58 st.Steps pre rv163 hg164
 refine Oc [] ca58 hc165 ?_
 rintro - -
 refine Oq Vnot (Oq Vpf (KS ?_))
 refine Kc ?_ ?_
 ·intro h166
  have h168 := not_true h166
  refine KS ?_
  refine Oq Va (KS ?_)
  have hq := q4 hrr false (by simp only [r14_Encodable, h8, h11, h14, h17, h20, h23, h140, h146, h151, h156, h161, h166, h168, hg144, hg154, hg164, cs4]); subst hq
  exact Kr () rfl (.tmp rfl .nil) [] trivial
 intro h166
 have h171 := not_false h166
 refine KS ?_
 refine Oq Va (KS ?_)
 refine Kl (γ := Nat × Int) (fun (r173, i_174) => ⟨[(1, p7), (3, vi i_174)], [pv p7 [vi st.Phase, vl sta1 stk1 st.Cone, vl sta2 stk2 st.Leaf, vi st.At, vi st.Edge, vl sta5 stk5 st.Values, vl sta6 stk6 st.Queue, vi st.Steps], S sta1 stk1 st.Cone, S sta2 stk2 st.Leaf, S sta5 stk5 st.Values, S sta6 stk6 st.Queue], r14_Encodable_L0 st r173 i_174 = r14_Encodable_L0 st (((st.Cone.length : Int) - 0).toNat) 0 ∧ r173 = ((st.Cone.length : Int) - i_174).toNat ∧ (0 : Int) ≤ i_174 ∧ i_174 ≤ (st.Cone.length : Int) ∧ (-9223372036854775808 ≤ i_174 ∧ i_174 ≤ 9223372036854775807), r173⟩) (((st.Cone.length : Int) - 0).toNat, 0) [0, 1, 2, 3, 4] ⟨rfl, rfl, aM1, aM1, aM1⟩ ?_
 rintro ⟨r173, i_174⟩ ⟨hM175, hr176, hi177, hi178, hk179⟩
 refine JJ_nx fun _ _ hL hA => ?_; dsimp only at hL hA; subst hL hA
 refine Fb 8 1 fun _ => Fo 1 fun ho181 => Fb 1 2 fun _ => Fb 32 3 fun _ => Fb 8 4 fun _ => Fo 4 fun ho185 => KS ?_
 refine Oq Vm (Oq (Vfa fo26_1 0) (Oq (VldF sh22 0) (Oq (Vlen sl22) (Oq Vlss (KS ?_)))))
 refine Kc ?_ ?_
 ·intro h186
  have g187 := dt h186
  obtain ⟨r188, rfl⟩ := scc (n := r173) aM1
  refine KS ?_
  refine Oq (Vfa fo26_1 0) (Oq (VldF sh22 0) (Oq Vm (Oq (Vi sl22 1) ?_)))
  have hb189 := ok1 (i := i_174.toNat) ho181 rng
  refine Oq (VldI sh3 1) ?_
  refine letv (r14_counter (st.Cone.getD i_174.toNat 0)) fun rv190 hg191 => ?_
  have hc192 := fn58 ((st.Cone.getD i_174.toNat 0)) pre rv190 hg191
  refine Oc [] ca58 hc192 ?_
  rintro - -
  refine Oq Vnot (Oq Vm ?_)
  refine Js 87 ?_ ?_
  ·intro h193
   have h195 := not_true h193
   refine Osk (Osk (Osk (Osk (Osk (Osk (Osk (Osk (Osk (Osk ?_)))))))))
   refine Osk (Osk (Osk (Oq Vpt (KS ?_))))
   refine Kt (KS ?_)
   refine Oq Va (KS ?_)
   have hR197 := q2 hM175 (.ret false) (by simp only [r14_Encodable_L0, h186, h193, h195, hg191, cs4])
   have hq := q4 hrr false (by simp only [r14_Encodable, h8, h11, h14, h17, h20, h23, h140, h146, h151, h156, h161, h166, h171, h186, h193, h195, hg144, hg154, hg164, hg191, hR197, cs4]); subst hq
   exact Kr () rfl (.tmp rfl .nil) [] trivial
  intro h193
  have h199 := not_false h193
  refine Oq (Vfa fo26_5 0) (Oq (VldF sh24 0) (Oq (Vlen sl24) (Oq Vgtr (Oq Vm ?_))))
  refine Js 92 ?_ ?_
  ·intro h201
   have g202 := dt h201
   refine Oq (Vfa fo26_5 0) (Oq (VldF sh24 0) (Oq Vm (Oq (Vi sl24 3) ?_)))
   refine JJ_peek_GSet i_174.toNat 3 rfl rng fun a203 k204 hb205 => ?_
   unfold i64ok at hb205
   refine Fb 8 1 fun _ => Oq (VldA sh39 0) ?_
   refine letv (r1_Valid (st.Values.getD i_174.toNat default)) fun rv207 hg208 => ?_
   have hc209 := fn59 ((st.Values.getD i_174.toNat default)) a203 k204 pre rv207 hg208
   refine Oc [1] ca59 hc209 ?_
   rintro - -
   refine Oq Vnot (Oq Vpt (Oq Vpf (KS ?_)))
   refine Kc ?_ ?_
   ·intro h210
    have h212 := not_true h210
    refine KS ?_
    refine Oq Va (KS ?_)
    have hR214 := q2 hM175 (.ret false) (by simp only [r14_Encodable_L0, h186, h193, h199, h201, h210, h212, hg191, hg208, cs4])
    have hq := q4 hrr false (by simp only [r14_Encodable, h8, h11, h14, h17, h20, h23, h140, h146, h151, h156, h161, h166, h171, h186, h193, h199, h201, h210, h212, hg144, hg154, hg164, hg191, hg208, hR214, cs4]); subst hq
    exact Kr () rfl (.tmp rfl .nil) [] trivial
   intro h210
   have h216 := not_false h210
   refine KS ?_
   refine Oq Vm (Oq Vadd (Oq Va (KS ?_)))
   exact Kg (r188, (i_174 + 1)) [2, 3, 4, 5, 6] ⟨(q3 hM175 (by simp only [r14_Encodable_L0, h186, h193, h199, h201, h210, h216, hg191, hg208, cs4])), aM1, aM1, aM1, aM1⟩
  intro h201
  have g218 := df h201
  refine Osk (Osk (Osk (Osk (Osk (Osk (Osk (Oq Vpf (Oq Vpf (KS ?_)))))))))
  refine Kf (KS ?_)
  refine Oq Vm (Oq Vadd (Oq Va (KS ?_)))
  exact Kg (r188, (i_174 + 1)) [0, 1, 2, 3, 4] ⟨(q3 hM175 (by simp only [r14_Encodable_L0, h186, h193, h199, h201, hg191, cs4])), aM1, aM1, aM1, aM1⟩
 intro h186
 have g219 := df h186
 obtain rfl : r173 = 0 := by omega
 refine Ke ?_
 have hR220 := q2 hM175 (.brk ()) (by simp only [r14_Encodable_L0, h186, cs4])
 refine KS ?_
 refine Oq Va (KS ?_)
 refine Kl (γ := Nat × Int) (fun (r221, i_222) => ⟨[(1, p7), (4, vi i_222)], [pv p7 [vi st.Phase, vl sta1 stk1 st.Cone, vl sta2 stk2 st.Leaf, vi st.At, vi st.Edge, vl sta5 stk5 st.Values, vl sta6 stk6 st.Queue, vi st.Steps], S sta1 stk1 st.Cone, S sta2 stk2 st.Leaf, S sta5 stk5 st.Values, S sta6 stk6 st.Queue], r14_Encodable_L1 st r221 i_222 = r14_Encodable_L1 st (((st.Queue.length : Int) - 0).toNat) 0 ∧ r221 = ((st.Queue.length : Int) - i_222).toNat ∧ (0 : Int) ≤ i_222 ∧ i_222 ≤ (st.Queue.length : Int) ∧ (-9223372036854775808 ≤ i_222 ∧ i_222 ≤ 9223372036854775807), r221⟩) (((st.Queue.length : Int) - 0).toNat, 0) [0, 1, 2, 3, 4] ⟨rfl, rfl, aM1, aM1, aM1⟩ ?_
 rintro ⟨r221, i_222⟩ ⟨hM223, hr224, hi225, hi226, hk227⟩
 refine JJ_nx fun _ _ hL hA => ?_; dsimp only at hL hA; subst hL hA
 refine Fb 8 1 fun _ => Fo 1 fun ho229 => Fb 1 2 fun _ => Fb 32 3 fun _ => Fb 8 4 fun _ => Fo 4 fun ho233 => KS ?_
 refine Oq Vm (Oq (Vfa fo26_6 0) (Oq (VldF sh22 0) (Oq (Vlen sl22) (Oq Vlss (KS ?_)))))
 refine Kc ?_ ?_
 ·intro h234
  have g235 := dt h234
  obtain ⟨r236, rfl⟩ := scc (n := r221) aM1
  refine KS ?_
  refine Oq (Vfa fo26_6 0) (Oq (VldF sh22 0) (Oq Vm (Oq (Vi sl22 4) ?_)))
  have hb237 := ok1 (i := i_222.toNat) ho233 rng
  refine Oq (VldI sh3 4) ?_
  refine letv (r14_counter (st.Queue.getD i_222.toNat 0)) fun rv238 hg239 => ?_
  have hc240 := fn58 ((st.Queue.getD i_222.toNat 0)) pre rv238 hg239
  refine Oc [] ca58 hc240 ?_
  rintro - -
  refine Oq Vnot (KS ?_)
  refine Kc ?_ ?_
  ·intro h241
   have h243 := not_true h241
   refine KS ?_
   refine Oq Va (KS ?_)
   have hR245 := q2 hM223 (.ret false) (by simp only [r14_Encodable_L1, h234, h241, h243, hg239, cs4])
   have hq := q4 hrr false (by simp only [r14_Encodable, h8, h11, h14, h17, h20, h23, h140, h146, h151, h156, h161, h166, h171, h186, h234, h241, h243, hg144, hg154, hg164, hR220, hg239, hR245, cs4]); subst hq
   exact Kr () rfl (.tmp rfl .nil) [] trivial
  intro h241
  have h247 := not_false h241
  refine KS ?_
  refine Oq Vm (Oq Vadd (Oq Va (KS ?_)))
  exact Kg (r236, (i_222 + 1)) [0, 1, 2, 3, 4] ⟨(q3 hM223 (by simp only [r14_Encodable_L1, h234, h241, h247, hg239, cs4])), aM1, aM1, aM1, aM1⟩
 intro h234
 have g249 := df h234
 obtain rfl : r221 = 0 := by omega
 refine Ke ?_
 have hR250 := q2 hM223 (.brk ()) (by simp only [r14_Encodable_L1, h234, cs4])
 refine KS ?_
 refine Oq Va (KS ?_)
 have hq := q4 hrr true (by simp only [r14_Encodable, h8, h11, h14, h17, h20, h23, h140, h146, h151, h156, h161, h166, h171, h186, h234, hg144, hg154, hg164, hR220, hR250, cs4]); subst hq
 exact Kr () rfl (.tmp rfl .nil) [] trivial
theorem fn60 (b : List UInt8) (ba0 : Option Addr) (bk0 : Nat) (n : Int) (hn_0 : i64ok n) (hb0 : b.length ≤ 1000000) (hn0 : 0 ≤ n) (rr : List UInt8) (hrr : r14_Uvarint b n = rr) : FT Tryz.prog 60 #[vl ba0 bk0 b, vi n] [O ba0 bk0 b] (fun g : Value => (rr.length ≤ b.length + 11)) (fun g => g) (fun g => [os g rr]) := by
 refine FTi Tryz.func60 fun w0 M0 F0 => ?_
 unfold i64ok at hn_0
 refine Fb 1 0 fun _ => KS ?_
 refine Oq Va (KS ?_)
 have hterm11 : r14_Uvarint_L0 10 b n ≠ LR.oof := (r14_Uvarint_t 9 _ _ aM1 (p9 aM1))
 refine Kl (γ := Nat × List UInt8 × Int × Option Addr × Nat) (fun (r2, b_3, n_4, a5, k6) => ⟨[(0, vl a5 k6 b_3), (1, vi n_4)], [O a5 k6 b_3], r14_Uvarint_L0 r2 b_3 n_4 = r14_Uvarint_L0 10 b n ∧ (-9223372036854775808 ≤ n_4 ∧ n_4 ≤ 9223372036854775807) ∧ (0 ≤ n_4) ∧ (b_3.length + r2 ≤ b.length + 10), r2⟩) (10, b, n, ba0, bk0) [0] ⟨rfl, aM1, iv0, iv0⟩ ?_
 rintro ⟨r2, b_3, n_4, a5, k6⟩ ⟨hM7, hk8, hv9, hv10⟩
 refine JJ_nx fun _ _ hL hA => ?_; dsimp only at hL hA; subst hL hA
 refine Fb 1 0 fun _ => ?_
 rcases r2 with _ | r2
 ·exact absurd (hM7.symm.trans rfl) hterm11
 refine KS ?_
 refine Oq Vm (Oq Vgtr (KS ?_))
 refine Kc ?_ ?_
 ·intro h13
  have g14 := dt h13
  refine KS ?_
  refine Oq Vm (Oq Vm ?_)
  have hb15 := iand_ok n_4 127
  refine Oq VandI ?_
  have hb16 : -9223372036854775808 ≤ (bOr .i64 (iand n_4 127) 128) ∧ (bOr .i64 (iand n_4 127) 128) ≤ 9223372036854775807 := wrap_i64b _
  refine Oq VorK (Oq (VcM un3 un5 wrap_u8) (Oa (AsV sl44 sz44 [.int .u8 ((bOr .i64 (iand n_4 127) 128) % 256)] [.int .u8 ((bOr .i64 (iand n_4 127) 128) % 256)]) fun c17 => ?_))
  refine Jo 0 ?_; rintro a18 k19 rfl
  refine Jl [0] (Ent.cr1 (α := UInt8) (A := []) _ (UInt8.ofNat (((bOr .i64 (iand n_4 127) 128) % 256) : Int).toNat) _ aB1 (fun _ => u8rd aM1)) ?_
  refine Oa (ApO [1, 0] sl44 sl44 sz44) fun c20 => ?_
  refine Jo 0 ?_; rintro a21 k22 rfl
  refine Fb 1 0 fun _ => ?_
  have hn24 := la b_3 ([(UInt8.ofNat (((bOr .i64 (iand n_4 127) 128) % 256) : Int).toNat)] : List UInt8)
  refine Oq Va (KS ?_)
  refine Oq Vm (Oq (VshrK (k := .i64) (n := ((7#64).toNat : Int)) (m := 128) (by decide)) (Oq Va (KS ?_)))
  exact Kg (r2, (b_3 ++ [(UInt8.ofNat (((bOr .i64 (iand n_4 127) 128) % 256) : Int).toNat)]), (n_4 / 128), a21, k22) [0] ⟨(q3 hM7 (by simp only [r14_Uvarint_L0, h13, cs4])), aM1, iv1, iv1⟩
 intro h13
 have g25 := df h13
 refine Ke ?_
 have hR26 := q2 hM7 (.brk (b_3, n_4)) (by simp only [r14_Uvarint_L0, h13, cs4])
 refine KS ?_
 refine Oq Vm (Oq Vm (Oq (VcM un3 un5 wrap_u8) (Oa (AsV sl44 sz44 [.int .u8 (n_4 % 256)] [.int .u8 (n_4 % 256)]) fun c27 => ?_)))
 refine Jo 0 ?_; rintro a28 k29 rfl
 refine Jl [0] (Ent.cr1 (α := UInt8) (A := []) _ (UInt8.ofNat ((n_4 % 256) : Int).toNat) _ aB1 (fun _ => u8rd aM1)) ?_
 refine Oa (ApO [1, 0] sl44 sl44 sz44) fun c30 => ?_
 refine Jo 0 ?_; rintro a31 k32 rfl
 refine Fb 1 0 fun _ => ?_
 have hn34 := la b_3 ([(UInt8.ofNat ((n_4 % 256) : Int).toNat)] : List UInt8)
 refine Oq Va (KS ?_)
 have hq := q4 hrr (b_3 ++ [(UInt8.ofNat ((n_4 % 256) : Int).toNat)]) (by simp only [r14_Uvarint, h13, hR26, cs4]); subst hq
 exact Kr (vl a31 k32 (b_3 ++ [(UInt8.ofNat ((n_4 % 256) : Int).toNat)])) rfl (.tmp rfl .nil) [0] en
theorem fn142 (s : GSet) (sa1 : Option Addr) (sk1 : Nat) (b : Int) (hs_0 : i64ok s.Width) (hb_0 : i64ok b) (rr : Bool) (hrr : r1_Has s b = rr) : FT Tryz.prog 142 #[.agg #[vi s.Width, vl sa1 sk1 s.Words], vi b] [S sa1 sk1 s.Words] (fun g : Unit => True) (fun g => vb rr) (fun g => []) := by
 refine FTi Tryz.func142 fun w0 M0 F0 => ?_
 unfold i64ok at hs_0 hb_0
 refine Fb 8 0 fun _ => KS ?_
 refine Oa (Ab [vi s.Width, vl sa1 sk1 s.Words]) fun p2 => Oq Va (KS ?_)
 refine Oq (VldA sh39 0) ?_
 refine letv (r1_Valid s) fun rv3 hg4 => ?_
 have hc5 := fn59 s sa1 sk1 pre rv3 hg4
 refine Oc [1] ca59 hc5 ?_
 rintro - -
 refine Oq Vm ?_
 refine Js 7 ?_ ?_
 ·intro h6
  try have hrg := RV_w (s := s) (by simp only [h6, hg4])
  refine Oq Vm (Oq Vgeq (Oq Vpt (Oq Vm ?_)))
  refine Js 11 ?_ ?_
  ·intro h8
   have g9 := dt h8
   refine Oq Vm (Oq (Vfa fo39_0 0) (Oq (VldF sh3 0) (Oq Vlss (Oq Vpt (Oq Vm ?_)))))
   refine Js 17 ?_ ?_
   ·intro h10
    have g11 := dt h10
    refine Oq (Vfa fo39_1 0) (Oq (VldF sh37 0) (Oq Vm (Oq Vquo (Oq (Vi sl37 1) (Oq (VldU sh68 1) (Oq Vm (Oq Vrem (Oq (VcU un3 un69) (Oq VshrU ?_)))))))))
    refine Oq (VandU (b := 1#64)) (Oq (VeqlU (b := 1#64)) (Oq Vpt (Oq Va (KS ?_))))
    have hq := q4 hrr ((((s.Words.getD ((b / 64) : Int).toNat 0#64) >>> (((BitVec.ofInt 64 (b % 64)).toNat : Int)).toNat) &&& 1#64) == 1#64) (by simp only [r1_Has, h6, h8, h10, hg4, cs4]); subst hq
    exact Kr () rfl (.tmp rfl .nil) [] trivial
   intro h10
   have g12 := df h10
   refine Osk (Osk (Osk (Osk (Osk (Osk (Osk (Osk (Osk (Osk ?_)))))))))
   refine Osk (Osk (Oq Vpf (Oq Va (KS ?_))))
   have hq := q4 hrr false (by simp only [r1_Has, h6, h8, h10, hg4, cs4]); subst hq
   exact Kr () rfl (.tmp rfl .nil) [] trivial
  intro h8
  have g13 := df h8
  refine Osk (Osk (Osk (Osk (Oq Vpf (Oq Vm (Osk (Osk (Osk (Osk ?_)))))))))
  refine Osk (Osk (Osk (Osk (Osk (Osk (Osk (Osk (Oq Vpf (Oq Va ?_)))))))))
  refine KS ?_
  have hq := q4 hrr false (by simp only [r1_Has, h6, h8, hg4, cs4]); subst hq
  exact Kr () rfl (.tmp rfl .nil) [] trivial
 intro h6
 refine Osk (Osk (Oq Vpf (Oq Vm (Osk (Osk (Osk (Osk (Oq Vpf (Oq Vm ?_)))))))))
 refine Osk (Osk (Osk (Osk (Osk (Osk (Osk (Osk (Osk (Osk ?_)))))))))
 refine Osk (Osk (Oq Vpf (Oq Va (KS ?_))))
 have hq := q4 hrr false (by simp only [r1_Has, h6, hg4, cs4]); subst hq
 exact Kr () rfl (.tmp rfl .nil) [] trivial
theorem fn105 (s : GSet) (sa1 : Option Addr) (sk1 : Nat) (hs_0 : i64ok s.Width) (rr : List Int) (hrr : r1_Members s = rr) : FT Tryz.prog 105 #[.agg #[vi s.Width, vl sa1 sk1 s.Words]] [S sa1 sk1 s.Words] (fun g : Value => True) (fun g => g) (fun g => [sl g rr]) := by
 refine FTi Tryz.func105 fun w0 M0 F0 => ?_
 unfold i64ok at hs_0
 refine Fb 8 0 fun _ => KS ?_
 refine Oa (Ab [vi s.Width, vl sa1 sk1 s.Words]) fun p2 => Oq Va (KS ?_)
 refine Oq Va (KS ?_)
 refine Oq Va (KS ?_)
 refine Jl [] (Ent.osNil (α := Int)) ?_
 have hterm12 : r1_Members_L0 s (s.Width.toNat + 1) [] 0 ≠ LR.oof := Members_L0_term _ _ _ _ aM1 aM1
 refine Kl (γ := Nat × List Int × Int × Option Addr × Nat) (fun (r3, out_4, b_5, a6, k7) => ⟨[(1, p2), (3, vl a6 k7 out_4), (4, vi b_5)], [O a6 k7 out_4, pv p2 [vi s.Width, vl sa1 sk1 s.Words], S sa1 sk1 s.Words], r1_Members_L0 s r3 out_4 b_5 = r1_Members_L0 s (s.Width.toNat + 1) [] 0 ∧ (-9223372036854775808 ≤ b_5 ∧ b_5 ≤ 9223372036854775807) ∧ 0 ≤ b_5 ∧ (out_4.length : Int) ≤ b_5, r3⟩) ((s.Width.toNat + 1), [], 0, none, 0) [0, 0, 1] ⟨rfl, aM1, iv0, iv0⟩ ?_
 rintro ⟨r3, out_4, b_5, a6, k7⟩ ⟨hM8, hk9, hv10, hv11⟩
 refine JJ_nx fun _ _ hL hA => ?_; dsimp only at hL hA; subst hL hA
 refine Fb 8 0 fun _ => Fo 0 fun ho14 => Fb 8 2 fun _ => ?_
 rcases r3 with _ | r3
 ·exact absurd (hM8.symm.trans rfl) hterm12
 refine KS ?_
 refine Oq (VldA sh39 1) ?_
 refine letv (r1_Valid s) fun rv16 hg17 => ?_
 have hc18 := fn59 s sa1 sk1 pre rv16 hg17
 refine Oc [2] ca59 hc18 ?_
 rintro - -
 refine Oq Vm ?_
 refine Js 7 ?_ ?_
 ·intro h19
  try have hrg := RV_w (s := s) (by simp only [h19, hg17])
  refine Oq Vm (Oq (Vfa fo39_0 1) (Oq (VldF sh3 1) (Oq Vlss (Oq Vpt (KS ?_)))))
  refine Kc ?_ ?_
  ·intro h21
   have g22 := dt h21
   refine KS ?_
   refine Oq (VldA sh39 1) (Oq Vm ?_)
   refine letv (r1_Has s b_5) fun rv23 hg24 => ?_
   have hc25 := fn142 s sa1 sk1 b_5 pre pre rv23 hg24
   refine Oc [2] ca142 hc25 ?_
   rintro - -
   refine KS ?_
   refine Kc ?_ ?_
   ·intro h26
    try have hrg := RV_w (s := s) (by simp only [h19, h21, h26, hg17, hg24])
    refine KS ?_
    refine Oq Vm (Oq Vm (Oa (AsV sl22 sz22 [vi b_5] [vi b_5]) fun c28 => ?_))
    refine Jo 0 ?_; rintro a29 k30 rfl
    refine Jl [0] (Ent.crInt _ [b_5] _ _ rfl rfl (by intro x hx; rw [List.mem_singleton] at hx; subst hx; unfold i64ok; omega) aB1) ?_
    refine Oa (ApO [1, 0] sl22 sl22 sz22) fun c31 => ?_
    refine Jo 0 ?_; rintro a32 k33 rfl
    refine Fb 8 0 fun _ => Fo 0 fun ho35 => ?_
    have hn36 := la out_4 ([b_5] : List Int)
    refine Oq Va (KS ?_)
    refine Oq Vm (Oq Vadd (Oq Va (KS ?_)))
    exact Kg (r3, (out_4 ++ [b_5]), (b_5 + 1), a32, k33) [0, 0, 1] ⟨(q3 hM8 (by simp only [r1_Members_L0, h19, h21, h26, hg17, hg24, cs4])), aM1, iv1, iv1⟩
   intro h26
   refine KS ?_
   refine Oq Vm (Oq Vadd (Oq Va (KS ?_)))
   exact Kg (r3, out_4, (b_5 + 1), a6, k7) [0, 0, 1] ⟨(q3 hM8 (by simp only [r1_Members_L0, h19, h21, h26, hg17, hg24, cs4])), aM1, iv1, iv1⟩
  intro h21
  have g38 := df h21
  refine Ke ?_
  have hR39 := q2 hM8 (.brk out_4) (by simp only [r1_Members_L0, h19, h21, hg17, cs4])
  refine KS ?_
  refine Oq Vm (Oq Va (KS ?_))
  refine Jl [0] (Ent.freeze _ _) ?_
  have hq := q4 hrr out_4 (by simp only [r1_Members, h19, h21, hg17, hR39, cs4]); subst hq
  exact Kr (vl a6 k7 out_4) rfl (.tmp rfl .nil) [0] trivial
 intro h19
 refine Osk (Osk (Osk (Osk (Oq Vpf (KS ?_)))))
 refine Kf ?_
 refine Ke ?_
 have hR41 := q2 hM8 (.brk out_4) (by simp only [r1_Members_L0, h19, hg17, cs4])
 refine KS ?_
 refine Oq Vm (Oq Va (KS ?_))
 refine Jl [0] (Ent.freeze _ _) ?_
 have hq := q4 hrr out_4 (by simp only [r1_Members, h19, hg17, hR41, cs4]); subst hq
 exact Kr (vl a6 k7 out_4) rfl (.tmp rfl .nil) [0] trivial
theorem fn61 (b : List UInt8) (ba0 : Option Addr) (bk0 : Nat) (s : GSet) (sa1 : Option Addr) (sk1 : Nat) (hs_0 : i64ok s.Width) (hb0 : b.length ≤ 900000) (hv0 : bt_Valid s = true) (rr : List UInt8) (hrr : r14_members b s = rr) : FT Tryz.prog 61 #[vl ba0 bk0 b, .agg #[vi s.Width, vl sa1 sk1 s.Words]] [O ba0 bk0 b, S sa1 sk1 s.Words] (fun g : Value => (rr.length ≤ b.length + 2850)) (fun g => g) (fun g => [os g rr]) := by
 refine FTi Tryz.func61 fun w0 M0 F0 => ?_
 unfold i64ok at hs_0
 refine Fb 1 0 fun _ => Fb 8 1 fun _ => ?_
 have hwd := Valid_wd hv0
 refine KS ?_
 refine Oa (Ab [vi s.Width, vl sa1 sk1 s.Words]) fun p3 => Oq Va (KS ?_)
 refine Oq (VldA sh39 0) ?_
 refine letv (r1_Members s) fun rv5 hg6 => ?_
 have hMA := rMem_asl hg6; have hml := hMA.2.1
 have hc7 := fn105 s sa1 sk1 pre rv5 hg6
 refine Oc [2] ca105 hc7 ?_
 rintro c4 -
 refine Jo 0 ?_; rintro a8 k9 rfl
 refine Fb 8 0 fun _ => Fo 0 fun ho11 => ?_
 refine Oq Va (KS ?_)
 refine Oq Vm (Oq (Vfa fo39_0 1) (Oq (VldF sh3 1) ?_))
 refine letv (r14_Uvarint b s.Width) fun rv13 hg14 => ?_
 have hc15 := fn60 b ba0 bk0 s.Width pre pre pre rv13 hg14
 refine Oc [2] ca60 hc15 ?_
 rintro c12 he16
 refine Jo 0 ?_; rintro a17 k18 rfl
 refine Fb 1 0 fun _ => ?_
 refine Oq Vm (Oq (Vlen sl22) ?_)
 refine letv (r14_Uvarint rv13 (rv5.length : Int)) fun rv21 hg22 => ?_
 have hc23 := fn60 rv13 a17 k18 ((rv5.length : Int)) pre pre pre rv21 hg22
 refine Oc [0] ca60 hc23 ?_
 rintro c20 he24
 refine Jo 0 ?_; rintro a25 k26 rfl
 refine Fb 1 0 fun _ => ?_
 refine Oq Va (KS ?_)
 refine Oq Va (KS ?_)
 refine Oq Va (KS ?_)
 refine Kl (γ := Nat × List UInt8 × Int × Int × Option Addr × Nat) (fun (r28, b_29, last_30, i_31, a32, k33) => ⟨[(5, vl a8 k9 rv5), (0, vl a32 k33 b_29), (6, vi last_30), (7, vi i_31)], [O a32 k33 b_29, S a8 k9 rv5], r14_members_L0 rv5 r28 b_29 last_30 i_31 = r14_members_L0 rv5 (((rv5.length : Int) - 0).toNat) rv21 (-1) 0 ∧ r28 = ((rv5.length : Int) - i_31).toNat ∧ (0 : Int) ≤ i_31 ∧ i_31 ≤ (rv5.length : Int) ∧ (-9223372036854775808 ≤ last_30 ∧ last_30 ≤ 9223372036854775807) ∧ (-9223372036854775808 ≤ i_31 ∧ i_31 ≤ 9223372036854775807) ∧ (LS rv5 i_31 last_30) ∧ ((b_29.length : Int) ≤ (b.length : Int) + 22 + 11 * i_31), r28⟩) (((rv5.length : Int) - 0).toNat, rv21, -1, 0, a25, k26) [0, 0] ⟨rfl, rfl, aM1, aM1, aM1, aM1, (LS_0 hMA), iv0⟩ ?_
 rintro ⟨r28, b_29, last_30, i_31, a32, k33⟩ ⟨hM34, hr35, hi36, hi37, hk38, hk39, hv40, hv41⟩
 refine JJ_nx fun _ _ hL hA => ?_; dsimp only at hL hA; subst hL hA
 refine Fb 1 0 fun _ => Fb 8 1 fun _ => Fo 1 fun ho44 => KS ?_
 refine Oq Vm (Oq Vm (Oq (Vlen sl22) (Oq Vlss (KS ?_))))
 refine Kc ?_ ?_
 ·intro h45
  have g46 := dt h45
  have hls := LS_get (by assumption : LS _ i_31 _) aM1 aM1; have hag := MAsc_get (i := i_31) hMA aM1 aM1
  obtain ⟨r47, rfl⟩ := scc (n := r28) aM1
  refine KS ?_
  refine Oq Vm (Oq Vm (Oq Vm (Oq (Vi sl22 1) ?_)))
  have hb48 := ok1 (i := i_31.toNat) ho44 rng
  refine Oq (VldI sh3 1) (Oq Vm (Oq Vsub (Oq Vsub ?_)))
  refine letv (r14_Uvarint b_29 (((rv5.getD i_31.toNat 0) - last_30) - 1)) fun rv50 hg51 => ?_
  have hc52 := fn60 b_29 a32 k33 ((((rv5.getD i_31.toNat 0) - last_30) - 1)) pre pre pre rv50 hg51
  refine Oc [0] ca60 hc52 ?_
  rintro c49 he53
  refine Jo 0 ?_; rintro a54 k55 rfl
  refine Fb 1 0 fun _ => ?_
  refine Oq Va (KS ?_)
  refine Oq Vm (Oq Vm (Oq (Vi sl22 1) ?_))
  have hb57 := ok1 (i := i_31.toNat) ho44 rng
  refine Oq (VldI sh3 1) (Oq Va (KS ?_))
  refine Oq Vm (Oq Vadd (Oq Va (KS ?_)))
  exact Kg (r47, rv50, (rv5.getD i_31.toNat 0), (i_31 + 1), a54, k55) [0, 0] ⟨(q3 hM34 (by simp only [r14_members_L0, h45, hg51, cs4])), aM1, aM1, aM1, aM1, aM1, (LS_step hMA aM1 aM1), iv1⟩
 intro h45
 have g58 := df h45
 obtain rfl : r28 = 0 := by omega
 refine Ke ?_
 have hR59 := q2 hM34 b_29 (by simp only [r14_members_L0, h45, cs4])
 refine KS ?_
 refine Oq Vm (Oq Va (KS ?_))
 have hq := q4 hrr b_29 (by simp only [r14_members, h45, hg6, hg14, hg22, hR59, cs4]); subst hq
 exact Kr (vl a32 k33 b_29) rfl (.tmp rfl .nil) [0] en
theorem fn32 (st : GState) (sta1 : Option Addr) (stk1 : Nat) (sta2 : Option Addr) (stk2 : Nat) (sta5 : Option Addr) (stk5 : Nat) (sta6 : Option Addr) (stk6 : Nat) (hst_0 : i64ok st.Phase) (hst_3 : i64ok st.At) (hst_4 : i64ok st.Edge) (hst_7 : i64ok st.Steps) (he0 : EO st) (rr : List UInt8) (hrr : r14_StateBytes st = rr) : FT Tryz.prog 32 #[.agg #[vi st.Phase, vl sta1 stk1 st.Cone, vl sta2 stk2 st.Leaf, vi st.At, vi st.Edge, vl sta5 stk5 st.Values, vl sta6 stk6 st.Queue, vi st.Steps]] [S sta1 stk1 st.Cone, S sta2 stk2 st.Leaf, S sta5 stk5 st.Values, S sta6 stk6 st.Queue] (fun g : Value => (rr.length ≤ 800000)) (fun g => g) (fun g => [os g rr]) := by
 refine FTi Tryz.func32 fun w0 M0 F0 => ?_
 unfold i64ok at hst_0 hst_3 hst_4 hst_7
 refine Fb 8 0 fun _ => Fo 0 fun ho2 => Fb 1 1 fun _ => Fb 32 2 fun _ => Fb 8 3 fun _ => Fo 3 fun ho6 => ?_
 have h_cl := he0.cl
 have h_vl := he0.vl
 have h_ll := he0.ll
 have h_ql := he0.ql
 have h_ph := he0.ph
 have h_ac := he0.ac
 have h_ec := he0.ec
 have h_sc := he0.sc
 have hnl : ([] : List UInt8).length = 0 := rfl
 refine KS ?_
 refine Oa (Ab [vi st.Phase, vl sta1 stk1 st.Cone, vl sta2 stk2 st.Leaf, vi st.At, vi st.Edge, vl sta5 stk5 st.Values, vl sta6 stk6 st.Queue, vi st.Steps]) fun p7 => Oq Va (KS ?_)
 refine JK_drawK [0, 1, 3, 0, 8, 24, 63, 127] fmix ?_
 refine Dv [0] (Vfa fo26_0 0) (Dv [0] (VldF sh3 0) ?_)
 refine letv (r14_Uvarint ([] : List UInt8) st.Phase) fun rv9 hg10 => ?_
 refine Dx [] [] [0, 1] (fun G => (G.g 2 0)) [fun G => SP.fact ((rv9.length ≤ ([] : List UInt8).length + 11)), fun G => os (G.g 2 0) rv9] (fun G => xp [] rfl (Ent.osNil (α := UInt8)) (xC [0] ca60 (fn60 (([] : List UInt8)) none 0 st.Phase pre pre (by first | omega | exact (he0.cc _ (getD_mem aM1)).1 | exact (he0.qc _ (getD_mem aM1)).1 | exact tri_nn aM1 aM1 aM1 _) rv9 hg10))) (Dv [0] (Vfa fo26_1 0) (Dv [0] (VldF sh22 0) (Dv [] (Vlen sl22) ?_)))
 refine letv (r14_Uvarint rv9 (st.Cone.length : Int)) fun rv15 hg16 => ?_
 refine Dx [5, 6] [6] [2, 0, 1] (fun G => (G.g 6 0)) [fun G => SP.fact ((rv15.length ≤ rv9.length + 11)), fun G => os (G.g 6 0) rv15] (fun G => by refine xf 0 rfl ?_; rintro he17; exact xD [1] ca60 rfl rfl rfl (FT_open (γ := Value) (I := fun g => (rv15.length ≤ rv9.length + 11)) (V := fun g => g) (B := fun g => [os g rv15]) (R := os (G.g 2 0) rv9) os_slice (fun aq11 kq12 eq13 => by rw [eq13]; exact FT_ent (Ent.take (is := [0]) rfl) (fn60 rv9 aq11 kq12 ((st.Cone.length : Int)) pre pre (by first | omega | exact (he0.cc _ (getD_mem aM1)).1 | exact (he0.qc _ (getD_mem aM1)).1 | exact tri_nn aM1 aM1 aM1 _) rv15 hg16)))) (Dg [] (fun G => (G.g 6 0)) (fun G => Va) ?_)
 refine Dn ⟨by kernel_rfl, fun G => ?_⟩
 refine Jw2 [(1, p7), (3, (G.g 6 0))] [0, 1, 2, 3, 4] [SP.fact ((rv9.length ≤ ([] : List UInt8).length + 11)), SP.fact ((rv15.length ≤ rv9.length + 11)), os (G.g 6 0) rv15] ?_
 generalize G.g 6 0 = c14
 refine Jf 5 rfl ?_; rintro he18
 refine Jf 6 rfl ?_; rintro he19
 refine Jk [0, 1, 2, 3, 4, 7] ?_
 refine Jo 5 ?_; rintro a20 k21 rfl
 refine Fb 1 5 fun _ => KS ?_
 refine Oq Va (KS ?_)
 refine Kl (γ := Nat × List UInt8 × Int × Option Addr × Nat) (fun (r23, b_24, i_25, a26, k27) => ⟨[(1, p7), (3, vl a26 k27 b_24), (4, vi i_25)], [O a26 k27 b_24, pv p7 [vi st.Phase, vl sta1 stk1 st.Cone, vl sta2 stk2 st.Leaf, vi st.At, vi st.Edge, vl sta5 stk5 st.Values, vl sta6 stk6 st.Queue, vi st.Steps], S sta1 stk1 st.Cone, S sta2 stk2 st.Leaf, S sta5 stk5 st.Values, S sta6 stk6 st.Queue], r14_StateBytes_L0 st r23 b_24 i_25 = r14_StateBytes_L0 st (((st.Cone.length : Int) - 0).toNat) rv15 0 ∧ r23 = ((st.Cone.length : Int) - i_25).toNat ∧ (0 : Int) ≤ i_25 ∧ i_25 ≤ (st.Cone.length : Int) ∧ (-9223372036854775808 ≤ i_25 ∧ i_25 ≤ 9223372036854775807) ∧ ((b_24.length : Int) ≤ 30 + 11 * i_25), r23⟩) (((st.Cone.length : Int) - 0).toNat, rv15, 0, a20, k21) [5, 0, 1, 2, 3, 4] ⟨rfl, rfl, aM1, aM1, aM1, iv0⟩ ?_
 rintro ⟨r23, b_24, i_25, a26, k27⟩ ⟨hM28, hr29, hi30, hi31, hk32, hv33⟩
 refine JJ_nx fun _ _ hL hA => ?_; dsimp only at hL hA; subst hL hA
 refine Fb 1 0 fun _ => Fb 8 2 fun _ => Fo 2 fun ho36 => Fb 1 3 fun _ => Fb 32 4 fun _ => Fb 8 5 fun _ => Fo 5 fun ho40 => KS ?_
 refine Oq Vm (Oq (Vfa fo26_1 1) (Oq (VldF sh22 1) (Oq (Vlen sl22) (Oq Vlss (KS ?_)))))
 refine Kc ?_ ?_
 ·intro h41
  have g42 := dt h41
  obtain ⟨r43, rfl⟩ := scc (n := r23) aM1
  refine KS ?_
  refine Oq Vm (Oq (Vfa fo26_1 1) (Oq (VldF sh22 1) (Oq Vm (Oq (Vi sl22 2) ?_))))
  have hb44 := ok1 (i := i_25.toNat) ho36 rng
  refine Oq (VldI sh3 2) ?_
  refine letv (r14_Uvarint b_24 (st.Cone.getD i_25.toNat 0)) fun rv46 hg47 => ?_
  have hc48 := fn60 b_24 a26 k27 ((st.Cone.getD i_25.toNat 0)) pre pre (by first | omega | exact (he0.cc _ (getD_mem aM1)).1 | exact (he0.qc _ (getD_mem aM1)).1 | exact tri_nn aM1 aM1 aM1 _) rv46 hg47
  refine Oc [0] ca60 hc48 ?_
  rintro c45 he49
  refine Jo 0 ?_; rintro a50 k51 rfl
  refine Fb 1 0 fun _ => ?_
  refine Oq Va (KS ?_)
  refine Oq Vm (Oq Vadd (Oq Va (KS ?_)))
  exact Kg (r43, rv46, (i_25 + 1), a50, k51) [0, 0, 1, 2, 3, 4] ⟨(q3 hM28 (by simp only [r14_StateBytes_L0, h41, hg47, cs4])), aM1, aM1, aM1, aM1, iv1⟩
 intro h41
 have g53 := df h41
 obtain rfl : r23 = 0 := by omega
 refine Ke ?_
 have hR54 := q2 hM28 b_24 (by simp only [r14_StateBytes_L0, h41, cs4])
 refine KS ?_
 refine Oq Va (KS ?_)
 refine Kl (γ := Nat × List UInt8 × Int × Option Addr × Nat) (fun (r55, b_56, i_57, a58, k59) => ⟨[(1, p7), (3, vl a58 k59 b_56), (5, vi i_57)], [O a58 k59 b_56, pv p7 [vi st.Phase, vl sta1 stk1 st.Cone, vl sta2 stk2 st.Leaf, vi st.At, vi st.Edge, vl sta5 stk5 st.Values, vl sta6 stk6 st.Queue, vi st.Steps], S sta1 stk1 st.Cone, S sta2 stk2 st.Leaf, S sta5 stk5 st.Values, S sta6 stk6 st.Queue], r14_StateBytes_L1 st r55 b_56 i_57 = r14_StateBytes_L1 st (((st.Leaf.length : Int) - 0).toNat) b_24 0 ∧ r55 = ((st.Leaf.length : Int) - i_57).toNat ∧ (0 : Int) ≤ i_57 ∧ i_57 ≤ (st.Leaf.length : Int) ∧ (-9223372036854775808 ≤ i_57 ∧ i_57 ≤ 9223372036854775807) ∧ ((b_56.length : Int) ≤ 3000 + 11 * i_57), r55⟩) (((st.Leaf.length : Int) - 0).toNat, b_24, 0, a26, k27) [0, 0, 1, 2, 3, 4] ⟨rfl, rfl, aM1, aM1, aM1, iv0⟩ ?_
 rintro ⟨r55, b_56, i_57, a58, k59⟩ ⟨hM60, hr61, hi62, hi63, hk64, hv65⟩
 refine JJ_nx fun _ _ hL hA => ?_; dsimp only at hL hA; subst hL hA
 refine Fb 1 0 fun _ => Fb 8 2 fun _ => Fo 2 fun ho68 => Fb 1 3 fun _ => Fb 32 4 fun _ => Fb 8 5 fun _ => Fo 5 fun ho72 => KS ?_
 refine Oq Vm (Oq (Vfa fo26_2 1) (Oq (VldF sh23 1) (Oq (Vlen sl23) (Oq Vlss (KS ?_)))))
 refine Kc ?_ ?_
 ·intro h73
  have g74 := dt h73
  obtain ⟨r75, rfl⟩ := scc (n := r55) aM1
  refine KS ?_
  refine Oq Va (KS ?_)
  refine Oq (Vfa fo26_2 1) (Oq (VldF sh23 1) (Oq Vm (Oq (Vi sl23 3) (Oq (VldB sh4 3) (KS ?_)))))
  refine Kc ?_ ?_
  ·intro h76
   refine KS ?_
   refine Oq Va (KS ?_)
   refine Oq Vm (Oq Vm ?_)
   refine letv (r14_Uvarint b_56 1) fun rv79 hg80 => ?_
   have hc81 := fn60 b_56 a58 k59 1 pre pre (by first | omega | exact (he0.cc _ (getD_mem aM1)).1 | exact (he0.qc _ (getD_mem aM1)).1 | exact tri_nn aM1 aM1 aM1 _) rv79 hg80
   refine Oc [0] ca60 hc81 ?_
   rintro c78 he82
   refine Jo 0 ?_; rintro a83 k84 rfl
   refine Fb 1 0 fun _ => ?_
   refine Oq Va (KS ?_)
   refine Oq Vm (Oq Vadd (Oq Va (KS ?_)))
   exact Kg (r75, rv79, (i_57 + 1), a83, k84) [0, 0, 1, 2, 3, 4] ⟨(q3 hM60 (by simp only [r14_StateBytes_L1, h73, h76, hg80, cs4])), aM1, aM1, aM1, aM1, iv1⟩
  intro h76
  refine KS ?_
  refine Oq Vm (Oq Vm ?_)
  refine letv (r14_Uvarint b_56 0) fun rv88 hg89 => ?_
  have hc90 := fn60 b_56 a58 k59 0 pre pre (by first | omega | exact (he0.cc _ (getD_mem aM1)).1 | exact (he0.qc _ (getD_mem aM1)).1 | exact tri_nn aM1 aM1 aM1 _) rv88 hg89
  refine Oc [0] ca60 hc90 ?_
  rintro c87 he91
  refine Jo 0 ?_; rintro a92 k93 rfl
  refine Fb 1 0 fun _ => ?_
  refine Oq Va (KS ?_)
  refine Oq Vm (Oq Vadd (Oq Va (KS ?_)))
  exact Kg (r75, rv88, (i_57 + 1), a92, k93) [0, 0, 1, 2, 3, 4] ⟨(q3 hM60 (by simp only [r14_StateBytes_L1, h73, h76, hg89, cs4])), aM1, aM1, aM1, aM1, iv1⟩
 intro h73
 have g95 := df h73
 obtain rfl : r55 = 0 := by omega
 refine Ke ?_
 have hR96 := q2 hM60 b_56 (by simp only [r14_StateBytes_L1, h73, cs4])
 refine KS ?_
 refine JK_drawK [0, 0, 2, 7, 0, 16, 63, 0, 128, 384, 1023, 2047] fmix ?_
 refine Dv [] Vm (Dv [1] (Vfa fo26_3 0) (Dv [1] (VldF sh3 0) ?_))
 refine letv (r14_Uvarint b_56 st.At) fun rv98 hg99 => ?_
 refine Dx [0] [0] [0, 1] (fun G => (G.g 3 0)) [fun G => SP.fact ((rv98.length ≤ b_56.length + 11)), fun G => os (G.g 3 0) rv98] (fun G => xC [0] ca60 (fn60 b_56 a58 k59 st.At pre pre (by first | omega | exact (he0.cc _ (getD_mem aM1)).1 | exact (he0.qc _ (getD_mem aM1)).1 | exact tri_nn aM1 aM1 aM1 _) rv98 hg99)) (Dv [1] (Vfa fo26_4 0) (Dv [1] (VldF sh3 0) ?_))
 refine letv (r14_Uvarint rv98 st.Edge) fun rv104 hg105 => ?_
 refine Dx [6, 7] [7] [2, 0, 1] (fun G => (G.g 6 0)) [fun G => SP.fact ((rv104.length ≤ rv98.length + 11)), fun G => os (G.g 6 0) rv104] (fun G => by refine xf 0 rfl ?_; rintro he106; exact xD [1] ca60 rfl rfl rfl (FT_open (γ := Value) (I := fun g => (rv104.length ≤ rv98.length + 11)) (V := fun g => g) (B := fun g => [os g rv104]) (R := os (G.g 3 0) rv98) os_slice (fun aq100 kq101 eq102 => by rw [eq102]; exact FT_ent (Ent.take (is := [0]) rfl) (fn60 rv98 aq100 kq101 st.Edge pre pre (by first | omega | exact (he0.cc _ (getD_mem aM1)).1 | exact (he0.qc _ (getD_mem aM1)).1 | exact tri_nn aM1 aM1 aM1 _) rv104 hg105)))) (Dv [1] (Vfa fo26_5 0) (Dv [1] (VldF sh24 0) (Dv [] (Vlen sl24) ?_)))
 refine letv (r14_Uvarint rv104 (st.Values.length : Int)) fun rv111 hg112 => ?_
 refine Dx [6, 8, 9] [9] [2, 3, 0, 1] (fun G => (G.g 10 0)) [fun G => SP.fact ((rv111.length ≤ rv104.length + 11)), fun G => os (G.g 10 0) rv111] (fun G => by refine xf 0 rfl ?_; rintro he113; refine xf 1 rfl ?_; rintro he114; exact xD [2] ca60 rfl rfl rfl (FT_open (γ := Value) (I := fun g => (rv111.length ≤ rv104.length + 11)) (V := fun g => g) (B := fun g => [os g rv111]) (R := os (G.g 6 0) rv104) os_slice (fun aq107 kq108 eq109 => by rw [eq109]; exact FT_ent (Ent.take (is := [0]) rfl) (fn60 rv104 aq107 kq108 ((st.Values.length : Int)) pre pre (by first | omega | exact (he0.cc _ (getD_mem aM1)).1 | exact (he0.qc _ (getD_mem aM1)).1 | exact tri_nn aM1 aM1 aM1 _) rv111 hg112)))) (Dg [] (fun G => (G.g 10 0)) (fun G => Va) ?_)
 refine Dn ⟨by kernel_rfl, fun G => ?_⟩
 refine Jw2 [(1, p7), (3, (G.g 10 0))] [1, 2, 3, 4, 5] [SP.fact ((rv98.length ≤ b_56.length + 11)), SP.fact ((rv104.length ≤ rv98.length + 11)), SP.fact ((rv111.length ≤ rv104.length + 11)), os (G.g 10 0) rv111] ?_
 generalize G.g 10 0 = c110
 refine Jf 5 rfl ?_; rintro he115
 refine Jf 6 rfl ?_; rintro he116
 refine Jf 7 rfl ?_; rintro he117
 refine Jk [0, 1, 2, 3, 4, 8] ?_
 refine Jo 5 ?_; rintro a118 k119 rfl
 refine Fb 1 5 fun _ => KS ?_
 refine Oq Va (KS ?_)
 refine Kl (γ := Nat × List UInt8 × Int × Option Addr × Nat) (fun (r121, b_122, i_123, a124, k125) => ⟨[(1, p7), (3, vl a124 k125 b_122), (7, vi i_123)], [O a124 k125 b_122, pv p7 [vi st.Phase, vl sta1 stk1 st.Cone, vl sta2 stk2 st.Leaf, vi st.At, vi st.Edge, vl sta5 stk5 st.Values, vl sta6 stk6 st.Queue, vi st.Steps], S sta1 stk1 st.Cone, S sta2 stk2 st.Leaf, S sta5 stk5 st.Values, S sta6 stk6 st.Queue], r14_StateBytes_L2 st r121 b_122 i_123 = r14_StateBytes_L2 st (((st.Values.length : Int) - 0).toNat) rv111 0 ∧ r121 = ((st.Values.length : Int) - i_123).toNat ∧ (0 : Int) ≤ i_123 ∧ i_123 ≤ (st.Values.length : Int) ∧ (-9223372036854775808 ≤ i_123 ∧ i_123 ≤ 9223372036854775807) ∧ ((b_122.length : Int) ≤ 6000 + 2900 * i_123), r121⟩) (((st.Values.length : Int) - 0).toNat, rv111, 0, a118, k119) [5, 0, 1, 2, 3, 4] ⟨rfl, rfl, aM1, aM1, aM1, iv0⟩ ?_
 rintro ⟨r121, b_122, i_123, a124, k125⟩ ⟨hM126, hr127, hi128, hi129, hk130, hv131⟩
 refine JJ_nx fun _ _ hL hA => ?_; dsimp only at hL hA; subst hL hA
 refine Fb 1 0 fun _ => Fb 8 2 fun _ => Fo 2 fun ho134 => Fb 1 3 fun _ => Fb 32 4 fun _ => Fb 8 5 fun _ => Fo 5 fun ho138 => KS ?_
 refine Oq Vm (Oq (Vfa fo26_5 1) (Oq (VldF sh24 1) (Oq (Vlen sl24) (Oq Vlss (KS ?_)))))
 refine Kc ?_ ?_
 ·intro h139
  have g140 := dt h139
  obtain ⟨r141, rfl⟩ := scc (n := r121) aM1
  refine KS ?_
  refine Oq Vm (Oq (Vfa fo26_5 1) (Oq (VldF sh24 1) (Oq Vm (Oq (Vi sl24 4) ?_))))
  refine JJ_peek_GSet i_123.toNat 4 rfl rng fun a142 k143 hb144 => ?_
  unfold i64ok at hb144
  refine Fb 8 1 fun _ => Oq (VldA sh39 0) ?_
  refine letv (r14_members b_122 (st.Values.getD i_123.toNat default)) fun rv147 hg148 => ?_
  have hc149 := fn61 b_122 a124 k125 ((st.Values.getD i_123.toNat default)) a142 k143 pre pre (he0.vv _ (getD_mem aM1)) rv147 hg148
  refine Oc [2, 1] ca61 hc149 ?_
  rintro c146 he150
  refine Jo 0 ?_; rintro a151 k152 rfl
  refine Fb 1 0 fun _ => ?_
  refine Oq Va (KS ?_)
  refine Oq Vm (Oq Vadd (Oq Va (KS ?_)))
  exact Kg (r141, rv147, (i_123 + 1), a151, k152) [0, 2, 3, 4, 5, 6] ⟨(q3 hM126 (by simp only [r14_StateBytes_L2, h139, hg148, cs4])), aM1, aM1, aM1, aM1, iv1⟩
 intro h139
 have g154 := df h139
 obtain rfl : r121 = 0 := by omega
 refine Ke ?_
 have hR155 := q2 hM126 b_122 (by simp only [r14_StateBytes_L2, h139, cs4])
 refine KS ?_
 refine Oq Vm (Oq (Vfa fo26_6 1) (Oq (VldF sh22 1) (Oq (Vlen sl22) ?_)))
 refine letv (r14_Uvarint b_122 (st.Queue.length : Int)) fun rv157 hg158 => ?_
 have hc159 := fn60 b_122 a124 k125 ((st.Queue.length : Int)) pre pre (by first | omega | exact (he0.cc _ (getD_mem aM1)).1 | exact (he0.qc _ (getD_mem aM1)).1 | exact tri_nn aM1 aM1 aM1 _) rv157 hg158
 refine Oc [0] ca60 hc159 ?_
 rintro c156 he160
 refine Jo 0 ?_; rintro a161 k162 rfl
 refine Fb 1 0 fun _ => ?_
 refine Oq Va (KS ?_)
 refine Oq Va (KS ?_)
 refine Kl (γ := Nat × List UInt8 × Int × Option Addr × Nat) (fun (r164, b_165, i_166, a167, k168) => ⟨[(1, p7), (3, vl a167 k168 b_165), (8, vi i_166)], [O a167 k168 b_165, pv p7 [vi st.Phase, vl sta1 stk1 st.Cone, vl sta2 stk2 st.Leaf, vi st.At, vi st.Edge, vl sta5 stk5 st.Values, vl sta6 stk6 st.Queue, vi st.Steps], S sta1 stk1 st.Cone, S sta2 stk2 st.Leaf, S sta5 stk5 st.Values, S sta6 stk6 st.Queue], r14_StateBytes_L3 st r164 b_165 i_166 = r14_StateBytes_L3 st (((st.Queue.length : Int) - 0).toNat) rv157 0 ∧ r164 = ((st.Queue.length : Int) - i_166).toNat ∧ (0 : Int) ≤ i_166 ∧ i_166 ≤ (st.Queue.length : Int) ∧ (-9223372036854775808 ≤ i_166 ∧ i_166 ≤ 9223372036854775807) ∧ ((b_165.length : Int) ≤ 760000 + 11 * i_166), r164⟩) (((st.Queue.length : Int) - 0).toNat, rv157, 0, a161, k162) [0, 0, 1, 2, 3, 4] ⟨rfl, rfl, aM1, aM1, aM1, iv0⟩ ?_
 rintro ⟨r164, b_165, i_166, a167, k168⟩ ⟨hM169, hr170, hi171, hi172, hk173, hv174⟩
 refine JJ_nx fun _ _ hL hA => ?_; dsimp only at hL hA; subst hL hA
 refine Fb 1 0 fun _ => Fb 8 2 fun _ => Fo 2 fun ho177 => Fb 1 3 fun _ => Fb 32 4 fun _ => Fb 8 5 fun _ => Fo 5 fun ho181 => KS ?_
 refine Oq Vm (Oq (Vfa fo26_6 1) (Oq (VldF sh22 1) (Oq (Vlen sl22) (Oq Vlss (KS ?_)))))
 refine Kc ?_ ?_
 ·intro h182
  have g183 := dt h182
  obtain ⟨r184, rfl⟩ := scc (n := r164) aM1
  refine KS ?_
  refine Oq Vm (Oq (Vfa fo26_6 1) (Oq (VldF sh22 1) (Oq Vm (Oq (Vi sl22 5) ?_))))
  have hb185 := ok1 (i := i_166.toNat) ho181 rng
  refine Oq (VldI sh3 5) ?_
  refine letv (r14_Uvarint b_165 (st.Queue.getD i_166.toNat 0)) fun rv187 hg188 => ?_
  have hc189 := fn60 b_165 a167 k168 ((st.Queue.getD i_166.toNat 0)) pre pre (by first | omega | exact (he0.cc _ (getD_mem aM1)).1 | exact (he0.qc _ (getD_mem aM1)).1 | exact tri_nn aM1 aM1 aM1 _) rv187 hg188
  refine Oc [0] ca60 hc189 ?_
  rintro c186 he190
  refine Jo 0 ?_; rintro a191 k192 rfl
  refine Fb 1 0 fun _ => ?_
  refine Oq Va (KS ?_)
  refine Oq Vm (Oq Vadd (Oq Va (KS ?_)))
  exact Kg (r184, rv187, (i_166 + 1), a191, k192) [0, 0, 1, 2, 3, 4] ⟨(q3 hM169 (by simp only [r14_StateBytes_L3, h182, hg188, cs4])), aM1, aM1, aM1, aM1, iv1⟩
 intro h182
 have g194 := df h182
 obtain rfl : r164 = 0 := by omega
 refine Ke ?_
 have hR195 := q2 hM169 b_165 (by simp only [r14_StateBytes_L3, h182, cs4])
 refine KS ?_
 refine Oq Vm (Oq (Vfa fo26_7 1) (Oq (VldF sh3 1) ?_))
 refine letv (r14_Uvarint b_165 st.Steps) fun rv197 hg198 => ?_
 have hc199 := fn60 b_165 a167 k168 st.Steps pre pre (by first | omega | exact (he0.cc _ (getD_mem aM1)).1 | exact (he0.qc _ (getD_mem aM1)).1 | exact tri_nn aM1 aM1 aM1 _) rv197 hg198
 refine Oc [0] ca60 hc199 ?_
 rintro c196 he200
 refine Jo 0 ?_; rintro a201 k202 rfl
 refine Fb 1 0 fun _ => ?_
 refine Oq Va (KS ?_)
 have hq := q4 hrr rv197 (by simp only [r14_StateBytes, h41, h73, h139, h182, hg10, hg16, hR54, hR96, hg99, hg105, hg112, hR155, hg158, hR195, hg198, cs4]); subst hq
 exact Kr (vl a201 k202 rv197) rfl (.tmp rfl .nil) [0] en
theorem fn13 (st : GState) (sta1 : Option Addr) (stk1 : Nat) (sta2 : Option Addr) (stk2 : Nat) (sta5 : Option Addr) (stk5 : Nat) (sta6 : Option Addr) (stk6 : Nat) (hst_0 : i64ok st.Phase) (hst_3 : i64ok st.At) (hst_4 : i64ok st.Edge) (hst_7 : i64ok st.Steps) (rr : List UInt8 × Int) (hrr : r14_EncodeState st = rr) : FT Tryz.prog 13 #[.agg #[vi st.Phase, vl sta1 stk1 st.Cone, vl sta2 stk2 st.Leaf, vi st.At, vi st.Edge, vl sta5 stk5 st.Values, vl sta6 stk6 st.Queue, vi st.Steps]] [S sta1 stk1 st.Cone, S sta2 stk2 st.Leaf, S sta5 stk5 st.Values, S sta6 stk6 st.Queue] (fun g : Value => i64ok rr.2 ∧ (rr.1.length ≤ 800004)) (fun g => .tuple #[g, vi rr.2]) (fun g => [os g rr.1]) := by
 refine FTi Tryz.func13 fun w0 M0 F0 => ?_
 unfold i64ok at hst_0 hst_3 hst_4 hst_7
 refine Fb 8 0 fun _ => Fo 0 fun ho2 => Fb 1 1 fun _ => Fb 32 2 fun _ => Fb 8 3 fun _ => Fo 3 fun ho6 => KS ?_
 refine Oa (Ab [vi st.Phase, vl sta1 stk1 st.Cone, vl sta2 stk2 st.Leaf, vi st.At, vi st.Edge, vl sta5 stk5 st.Values, vl sta6 stk6 st.Queue, vi st.Steps]) fun p7 => Oq Va (Oq Va (KS ?_))
 refine Oq (VldA sh26 0) ?_
 refine letv (r14_Encodable st) fun rv8 hg9 => ?_
 have hc10 := fn31 st sta1 stk1 sta2 stk2 sta5 stk5 sta6 stk6 pre pre pre pre rv8 hg9
 refine Oc [1, 2, 3, 4] ca31 hc10 ?_
 rintro - -
 refine Oq Vnot (KS ?_)
 refine Kc ?_ ?_
 ·intro h11
  have h13 := not_true h11
  refine KS ?_
  refine Oq Va (Oq Va (KS ?_))
  refine Jl [] (Ent.osNil (α := UInt8)) ?_
  have hq := q4 hrr (([] : List UInt8), 1) (by simp only [r14_EncodeState, h11, h13, hg9, cs4]); subst hq
  exact Kr (.slice none 0 0) rfl (.tmp rfl (.tmp rfl .nil)) [0] en
 intro h11
 have h16 := not_false h11
 have heo := Encodable_EO (by assumption) h11
 refine KS ?_
 refine Oq (VldA sh26 0) ?_
 refine letv (r14_StateBytes st) fun rv19 hg20 => ?_
 have hc21 := fn32 st sta1 stk1 sta2 stk2 sta5 stk5 sta6 stk6 pre pre pre pre heo rv19 hg20
 refine Oc [1, 2, 3, 4] ca32 hc21 ?_
 rintro c18 he22
 refine Jo 0 ?_; rintro a23 k24 rfl
 refine Fb 1 0 fun _ => ?_
 refine Jl [0] (Ent.freeze _ _) ?_
 refine letv (r14_Sealed rv19) fun rv27 hg28 => ?_
 have hc29 := fn18 rv19 a23 k24 pre rv27 hg28
 refine Oc [0] ca18 hc29 ?_
 rintro c26 he30
 refine Jo 0 ?_; rintro a31 k32 rfl
 refine Fb 1 0 fun _ => ?_
 refine Oq Va (Oq Va (KS ?_))
 have hq := q4 hrr (rv27, 0) (by simp only [r14_EncodeState, h11, h16, hg9, hg20, hg28, cs4]); subst hq
 exact Kr (vl a31 k32 rv27) rfl (.tmp rfl (.tmp rfl .nil)) [0] en
theorem fn147 (s : List Int) (sa0 : Option Addr) (sk0 : Nat) (fF : FuncId) (fC : List Value) (fp : Int → Bool) (fA : List SP) (hfc : callable Tryz.prog fF = true) (hfF : ∀ x ∈ s, i64ok x → FT Tryz.prog fF ([(vi x : Value)] ++ fC).toArray ([] ++ [pAll fA]) (fun _ : Unit => True) (fun _ => .bool (fp x)) (fun _ => [])) (rr : Int) (hrr : sc_IndexFunc_int s fp = rr) : FT Tryz.prog 147 #[vl sa0 sk0 s, .func (.func fF) #[] fC.toArray] [S sa0 sk0 s, pAll fA] (fun g : Unit => i64ok rr) (fun g => vi rr) (fun g => []) := by
 refine FTi Tryz.func147 fun w0 M0 F0 => Fb 8 0 fun _ => Fo 0 fun ho2 => ?_
 refine KS ?_
 refine Oq Va (KS ?_)
 refine Oq Vm (Oq (Vlen sl22) (Oq Vm (KS ?_)))
 refine Kl (γ := Nat × Int) (fun (r3, v8_4) => ⟨[(0, vl sa0 sk0 s), (1, .func (.func fF) #[] fC.toArray), (7, vi (s.length : Int)), (8, vi v8_4)], [S sa0 sk0 s, pAll fA], sc_IndexFunc_int_L0 s fp r3 v8_4 = sc_IndexFunc_int_L0 s fp (((s.length : Int) - 0).toNat) 0 ∧ r3 = ((s.length : Int) - v8_4).toNat ∧ (0 : Int) ≤ v8_4 ∧ v8_4 ≤ (s.length : Int) ∧ (-9223372036854775808 ≤ v8_4 ∧ v8_4 ≤ 9223372036854775807), r3⟩) (((s.length : Int) - 0).toNat, 0) [0, 1] ⟨rfl, rfl, aM1, aM1, aM1⟩ ?_
 rintro ⟨r3, v8_4⟩ ⟨hM5, hr6, hi7, hi8, hk9⟩
 refine JJ_nx fun _ _ hL hA => ?_; dsimp only at hL hA; subst hL hA
 refine Fb 8 0 fun _ => Fo 0 fun ho11 => KS ?_
 refine Oq Vlss (KS ?_)
 refine Kc ?_ ?_
 ·intro h12
  have g13 := dt h12
  obtain ⟨r14, rfl⟩ := scc (n := r3) aM1
  refine KS ?_
  refine Oq Vm (Oq Va (KS ?_))
  refine Oq Vm (Oq Vm (Oq Vm (Oq (Vi sl22 0) ?_)))
  have hb15 := ok1 (i := v8_4.toNat) ho11 rng
  refine Oq (VldI sh3 0) ?_
  refine JO_call [1] rfl rfl rfl (OpC.clo (asv := [(vi (s.getD v8_4.toNat 0) : Value)] ++ fC) rfl rfl hfc rfl (by simp)) (hfF (s.getD v8_4.toNat 0) (getD_mem rng)  pre) rfl fun _ _ => ?_
  refine KS ?_
  refine Kc ?_ ?_
  ·intro h16
   refine KS ?_
   refine Oq Vm (Oq Va (KS ?_))
   have hR18 := q2 hM5 (.ret v8_4) (by simp only [sc_IndexFunc_int_L0, h12, h16, cs4])
   have hq := q4 hrr v8_4 (by simp only [sc_IndexFunc_int, h12, h16, hR18, cs4]); subst hq
   exact Kr () rfl (.tmp rfl .nil) [] en
  intro h16
  refine KS ?_
  refine Oq Vadd (Oq Vm (KS ?_))
  exact Kg (r14, (v8_4 + 1)) [0, 1] ⟨(q3 hM5 (by simp only [sc_IndexFunc_int_L0, h12, h16, cs4])), aM1, aM1, aM1, aM1⟩
 intro h12
 have g20 := df h12
 obtain rfl : r3 = 0 := by omega
 refine Ke ?_
 have hR21 := q2 hM5 (.brk ()) (by simp only [sc_IndexFunc_int_L0, h12, cs4])
 refine KS ?_
 refine Oq Va (KS ?_)
 have hq := q4 hrr (-1) (by simp only [sc_IndexFunc_int, h12, hR21, cs4]); subst hq
 exact Kr () rfl (.tmp rfl .nil) [] en
theorem fn109 (s : List Int) (sa0 : Option Addr) (sk0 : Nat) (fF : FuncId) (fC : List Value) (fp : Int → Bool) (fA : List SP) (hfc : callable Tryz.prog fF = true) (hfF : ∀ x ∈ s, i64ok x → FT Tryz.prog fF ([(vi x : Value)] ++ fC).toArray ([] ++ [pAll fA]) (fun _ : Unit => True) (fun _ => .bool (fp x)) (fun _ => [])) (rr : Bool) (hrr : sc_ContainsFunc_int s fp = rr) : FT Tryz.prog 109 #[vl sa0 sk0 s, .func (.func fF) #[] fC.toArray] [S sa0 sk0 s, pAll fA] (fun g : Unit => True) (fun g => vb rr) (fun g => []) := by
 refine FTi Tryz.func109 fun w0 M0 F0 => Fb 8 0 fun _ => Fo 0 fun ho2 => ?_
 refine KS ?_
 refine Oq Va (KS ?_)
 refine Oq Vm (Oq Vm ?_)
 refine letv (sc_IndexFunc_int s fp) fun rv3 hg4 => ?_
 have hc5 := fn147 s sa0 sk0 fF fC fp fA hfc hfF rv3 hg4
 refine Oc [0, 1] ca147 hc5 ?_
 rintro - he6
 unfold i64ok at he6
 refine Oq Vgeq (Oq Va (KS ?_))
 have hq := q4 hrr (decide (0 ≤ rv3)) (by simp only [sc_ContainsFunc_int, hg4, cs4]); subst hq
 exact Kr () rfl (.tmp rfl .nil) [] trivial
theorem fn110 (n : Int) (hn_0 : i64ok n) (rr : Bool) (hrr : resume_counters_1 n = rr) : FT Tryz.prog 110 #[vi n] [] (fun g : Unit => True) (fun g => vb rr) (fun g => []) := by
 refine FTi Tryz.func110 fun w0 M0 F0 => ?_
 unfold i64ok at hn_0
 refine KS ?_
 refine Oq Va (KS ?_)
 refine Oq Vm (Oq Vlss (Oq Vm ?_))
 refine Js 5 ?_ ?_
 ·intro h1
  have g2 := dt h1
  refine Osk (Osk (Oq Vpt (Oq Va (KS ?_))))
  have hq := q4 hrr true (by simp only [resume_counters_1, h1, cs4]); subst hq
  exact Kr () rfl (.tmp rfl .nil) [] trivial
 intro h1
 have g3 := df h1
 refine Oq Vm (Oq Vgtr (Oq Vpf (Oq Va (KS ?_))))
 have hq := q4 hrr (decide (1073741824 < n)) (by simp only [resume_counters_1, h1, cs4]); subst hq
 exact Kr () rfl (.tmp rfl .nil) [] trivial
theorem fn69 (l : List Int) (la0 : Option Addr) (lk0 : Nat) (rr : Bool) (hrr : resume_counters l = rr) : FT Tryz.prog 69 #[vl la0 lk0 l] [S la0 lk0 l] (fun g : Unit => True) (fun g => vb rr) (fun g => []) := by
 refine FTi Tryz.func69 fun w0 M0 F0 => Fb 8 0 fun _ => Fo 0 fun ho2 => ?_
 refine KS ?_
 refine Oq Va (KS ?_)
 refine Oq Vm ?_
 refine JJ_ent (Ent.pall [] rfl rfl) ?_
 refine letv (sc_ContainsFunc_int l (fun x => resume_counters_1 x)) fun rv3 hg4 => ?_
 have hc5 := fn109 l la0 lk0 110 [] (fun x => resume_counters_1 x) [] ca110 (fun x hx hq0 => FT_pall (A1 := _) (fn110 x   hq0 _ rfl)) rv3 hg4
 refine Oc [1, 0] ca109 hc5 ?_
 rintro - -
 refine Oq Vnot (Oq Va (KS ?_))
 have hq := q4 hrr (!rv3) (by simp only [resume_counters, hg4, cs4]); subst hq
 exact Kr () rfl (.tmp rfl .nil) [] trivial
theorem fn111 (s : List GSet) (sa0 : Option Addr) (sk0 : Nat) (fF : FuncId) (fC : List Value) (fp : GSet → Bool) (fA : List SP) (hfc : callable Tryz.prog fF = true) (hfF : ∀ x ∈ s, ∀ (a1 : Option Addr) (k1 : Nat), i64ok x.Width → FT Tryz.prog fF ([(.agg #[vi x.Width, vl a1 k1 x.Words] : Value)] ++ fC).toArray ([S a1 k1 x.Words] ++ [pAll fA]) (fun _ : Unit => True) (fun _ => .bool (fp x)) (fun _ => [])) (rr : Int) (hrr : sc_IndexFunc_Set s fp = rr) : FT Tryz.prog 111 #[vl sa0 sk0 s, .func (.func fF) #[] fC.toArray] [S sa0 sk0 s, pAll fA] (fun g : Unit => i64ok rr) (fun g => vi rr) (fun g => []) := by
 refine FTi Tryz.func111 fun w0 M0 F0 => Fb 32 0 fun _ => ?_
 refine KS ?_
 refine Oq Va (KS ?_)
 refine Oq Vm (Oq (Vlen sl24) (Oq Vm (KS ?_)))
 refine Kl (γ := Nat × Int) (fun (r2, v8_3) => ⟨[(0, vl sa0 sk0 s), (1, .func (.func fF) #[] fC.toArray), (7, vi (s.length : Int)), (8, vi v8_3)], [S sa0 sk0 s, pAll fA], sc_IndexFunc_Set_L0 s fp r2 v8_3 = sc_IndexFunc_Set_L0 s fp (((s.length : Int) - 0).toNat) 0 ∧ r2 = ((s.length : Int) - v8_3).toNat ∧ (0 : Int) ≤ v8_3 ∧ v8_3 ≤ (s.length : Int) ∧ (-9223372036854775808 ≤ v8_3 ∧ v8_3 ≤ 9223372036854775807), r2⟩) (((s.length : Int) - 0).toNat, 0) [0, 1] ⟨rfl, rfl, aM1, aM1, aM1⟩ ?_
 rintro ⟨r2, v8_3⟩ ⟨hM4, hr5, hi6, hi7, hk8⟩
 refine JJ_nx fun _ _ hL hA => ?_; dsimp only at hL hA; subst hL hA
 refine Fb 32 0 fun _ => KS ?_
 refine Oq Vlss (KS ?_)
 refine Kc ?_ ?_
 ·intro h10
  have g11 := dt h10
  obtain ⟨r12, rfl⟩ := scc (n := r2) aM1
  refine KS ?_
  refine Oq Vm (Oq Va (KS ?_))
  refine Oq Vm (Oq Vm (Oq Vm (Oq (Vi sl24 0) ?_)))
  refine JJ_peek_GSet v8_3.toNat 0 rfl rng fun a13 k14 hb15 => ?_
  unfold i64ok at hb15
  refine Fb 8 1 fun _ => Oq (VldA sh39 0) ?_
  refine JO_call [1, 3] rfl rfl rfl (OpC.clo (asv := [(.agg #[vi ((s.getD v8_3.toNat default).Width), vl a13 k14 ((s.getD v8_3.toNat default).Words)] : Value)] ++ fC) rfl rfl hfc rfl (by simp)) (hfF (s.getD v8_3.toNat default) (getD_mem rng) a13 k14 pre) rfl fun _ _ => ?_
  refine KS ?_
  refine Kc ?_ ?_
  ·intro h17
   refine KS ?_
   refine Oq Vm (Oq Va (KS ?_))
   have hR19 := q2 hM4 (.ret v8_3) (by simp only [sc_IndexFunc_Set_L0, h10, h17, cs4])
   have hq := q4 hrr v8_3 (by simp only [sc_IndexFunc_Set, h10, h17, hR19, cs4]); subst hq
   exact Kr () rfl (.tmp rfl .nil) [] en
  intro h17
  refine KS ?_
  refine Oq Vadd (Oq Vm (KS ?_))
  exact Kg (r12, (v8_3 + 1)) [2, 3] ⟨(q3 hM4 (by simp only [sc_IndexFunc_Set_L0, h10, h17, cs4])), aM1, aM1, aM1, aM1⟩
 intro h10
 have g21 := df h10
 obtain rfl : r2 = 0 := by omega
 refine Ke ?_
 have hR22 := q2 hM4 (.brk ()) (by simp only [sc_IndexFunc_Set_L0, h10, cs4])
 refine KS ?_
 refine Oq Va (KS ?_)
 have hq := q4 hrr (-1) (by simp only [sc_IndexFunc_Set, h10, hR22, cs4]); subst hq
 exact Kr () rfl (.tmp rfl .nil) [] en
theorem fn70 (s : List GSet) (sa0 : Option Addr) (sk0 : Nat) (fF : FuncId) (fC : List Value) (fp : GSet → Bool) (fA : List SP) (hfc : callable Tryz.prog fF = true) (hfF : ∀ x ∈ s, ∀ (a1 : Option Addr) (k1 : Nat), i64ok x.Width → FT Tryz.prog fF ([(.agg #[vi x.Width, vl a1 k1 x.Words] : Value)] ++ fC).toArray ([S a1 k1 x.Words] ++ [pAll fA]) (fun _ : Unit => True) (fun _ => .bool (fp x)) (fun _ => [])) (rr : Bool) (hrr : sc_ContainsFunc_Set s fp = rr) : FT Tryz.prog 70 #[vl sa0 sk0 s, .func (.func fF) #[] fC.toArray] [S sa0 sk0 s, pAll fA] (fun g : Unit => True) (fun g => vb rr) (fun g => []) := by
 refine FTi Tryz.func70 fun w0 M0 F0 => Fb 32 0 fun _ => ?_
 refine KS ?_
 refine Oq Va (KS ?_)
 refine Oq Vm (Oq Vm ?_)
 refine letv (sc_IndexFunc_Set s fp) fun rv2 hg3 => ?_
 have hc4 := fn111 s sa0 sk0 fF fC fp fA hfc hfF rv2 hg3
 refine Oc [0, 1] ca111 hc4 ?_
 rintro - he5
 unfold i64ok at he5
 refine Oq Vgeq (Oq Va (KS ?_))
 have hq := q4 hrr (decide (0 ≤ rv2)) (by simp only [sc_ContainsFunc_Set, hg3, cs4]); subst hq
 exact Kr () rfl (.tmp rfl .nil) [] trivial
theorem fn112 (width : Int) (hwidth_0 : i64ok width) (rr : Bool) (hrr : bt_ranged width = rr) : FT Tryz.prog 112 #[vi width] [] (fun g : Unit => True) (fun g => vb rr) (fun g => []) := by
 refine FTi Tryz.func112 fun w0 M0 F0 => ?_
 unfold i64ok at hwidth_0
 refine KS ?_
 refine Oq Va (KS ?_)
 refine Oq Vm (Oq Vgeq (Oq Vm ?_))
 refine Js 5 ?_ ?_
 ·intro h1
  have g2 := dt h1
  refine Oq Vm (Oq Vleq (Oq Vpt (Oq Va (KS ?_))))
  have hq := q4 hrr (decide (width ≤ 256)) (by simp only [bt_ranged, h1, cs4]); subst hq
  exact Kr () rfl (.tmp rfl .nil) [] trivial
 intro h1
 have g3 := df h1
 refine Osk (Osk (Oq Vpf (Oq Va (KS ?_))))
 have hq := q4 hrr false (by simp only [bt_ranged, h1, cs4]); subst hq
 exact Kr () rfl (.tmp rfl .nil) [] trivial
theorem fn113 (width : Int) (hwidth_0 : i64ok width) (hw0 : 0 ≤ width ∧ width ≤ 1000000) (rr : Int) (hrr : bt_words width = rr) : FT Tryz.prog 113 #[vi width] [] (fun g : Unit => i64ok rr ∧ (rr = (width + 63) / 64)) (fun g => vi rr) (fun g => []) := by
 refine FTi Tryz.func113 fun w0 M0 F0 => ?_
 unfold i64ok at hwidth_0
 refine KS ?_
 refine Oq Va (KS ?_)
 refine Oq Vm (Oq Vadd (Oq Vsub (Oq Vquo (Oq Va (KS ?_)))))
 have hq := q4 hrr (((width + 64) - 1) / 64) (by simp only [bt_words, cs4]); subst hq
 exact Kr () rfl (.tmp rfl .nil) [] en
theorem fn114 (width : Int) (hwidth_0 : i64ok width) (rr : BitVec 64) (hrr : bt_spare width = rr) : FT Tryz.prog 114 #[vi width] [] (fun g : Unit => True) (fun g => u64 rr) (fun g => []) := by
 refine FTi Tryz.func114 fun w0 M0 F0 => ?_
 unfold i64ok at hwidth_0
 refine KS ?_
 refine Oq Va (KS ?_)
 refine Oq Vm (Oq (VcU un3 un69) (Oq (VremU (b := 64#64) (by simp)) (Oq (VshlU (a := 18446744073709551615#64)) (Oq Va (KS ?_)))))
 have hq := q4 hrr (18446744073709551615#64 <<< ((((BitVec.ofInt 64 width) % 64#64).toNat : Int)).toNat) (by simp only [bt_spare, cs4]); subst hq
 exact Kr () rfl (.tmp rfl .nil) [] trivial
theorem fn72 (s : GSet) (sa1 : Option Addr) (sk1 : Nat) (hs_0 : i64ok s.Width) (rr : Bool) (hrr : bt_Valid s = rr) : FT Tryz.prog 72 #[.agg #[vi s.Width, vl sa1 sk1 s.Words]] [S sa1 sk1 s.Words] (fun g : Unit => True) (fun g => vb rr) (fun g => []) := by
 refine FTi Tryz.func72 fun w0 M0 F0 => ?_
 unfold i64ok at hs_0
 refine Fb 8 0 fun _ => KS ?_
 refine Oa (Ab [vi s.Width, vl sa1 sk1 s.Words]) fun p2 => Oq Va (KS ?_)
 refine JK_drawK [0, 1, 3, 7, 15, 31, 63, 127, 31, 287, 799, 2047, 4095] fmix ?_
 refine Dv [0] (Vfa fo39_0 0) (Dv [0] (VldF sh3 0) ?_)
 refine letv (bt_ranged s.Width) fun rv3 hg4 => ?_
 refine Dx [] [] [0] (fun G => vb rv3) [fun G => SP.fact (True)] (fun G => xC [] ca112 (fn112 s.Width pre rv3 hg4)) (Dv [] Vnot ?_)
 refine bool_split (!rv3) ?_ ?_
 ·intro h5
  have h7 := not_true h5
  refine Db h5 [] Vm (Ds (Ds (Ds (Ds (Ds (Ds (Ds (Dv [] Vpt ?_))))))))
  refine Dn ⟨by kernel_rfl, fun G => ?_⟩
  refine Jw2 [(1, p2), (15, vb true)] [0, 1] [SP.fact (True)] ?_
  refine Jk [0, 1] (Kt ?_)
  refine KS ?_
  refine Oq Va (KS ?_)
  have hq := q4 hrr false (by simp only [bt_Valid, h5, h7, hg4, cs4]); subst hq
  exact Kr () rfl (.tmp rfl .nil) [] trivial
 intro h5
 have h10 := not_false h5
 try have hrg := ranged_iff (w := s.Width) (by simp only [h5, h10, hg4])
 refine Db h5 [] Vm (Dv [0] (Vfa fo39_1 0) (Dv [0] (VldF sh37 0) (Dv [] (Vlen sl37) (Dv [0] (Vfa fo39_0 0) (Dv [0] (VldF sh3 0) ?_)))))
 refine letv (bt_words s.Width) fun rv12 hg13 => ?_
 refine Dx [] [] [0] (fun G => vi rv12) [fun G => SP.fact (i64ok rv12 ∧ (rv12 = (s.Width + 63) / 64))] (fun G => xC [] ca113 (fn113 s.Width pre pre rv12 hg13)) (Dv [] Vneq (Dv [] Vpf ?_))
 refine Dn ⟨by kernel_rfl, fun G => ?_⟩
 refine Jw2 [(1, p2), (15, vb ((s.Words.length : Int) != rv12))] [0, 1] [SP.fact (True), SP.fact (i64ok rv12 ∧ (rv12 = (s.Width + 63) / 64))] ?_
 refine Jf 3 rfl ?_; rintro ⟨he14, he15⟩
 unfold i64ok at he14
 refine Jk [0, 1] ?_
 refine Kc ?_ ?_
 ·intro h16
  have g17 := ne_of_bne h16
  refine KS ?_
  refine Oq Va (KS ?_)
  have hq := q4 hrr false (by simp only [bt_Valid, h5, h10, h16, hg4, hg13, cs4]); subst hq
  exact Kr () rfl (.tmp rfl .nil) [] trivial
 intro h16
 have g18 := eq_of_bne_false h16
 refine KS ?_
 refine JK_drawK [0, 1, 3, 7, 15, 31, 63, 31, 159, 415, 927, 2047, 4095, 31, 8223, 24607, 65535, 131071, 262143, 524287] fmix ?_
 refine Dv [0] (Vfa fo39_0 0) (Dv [0] (VldF sh3 0) (Dv [] Vrem (Dv [] Veql ?_)))
 refine bool_split ((s.Width % 64) == 0) ?_ ?_
 ·intro h19
  have g20 := eq_of_beq h19
  refine Db h19 [] Vm (Ds (Ds (Ds (Ds (Ds (Ds (Ds (Ds (Ds ?_)))))))))
  refine Ds (Ds (Ds (Ds (Dv [] Vpt (Dv [] Va ?_)))))
  refine Dn ⟨by kernel_rfl, fun G => ?_⟩
  refine Jw2 [(2, vb true)] [0, 1] [] ?_
  have hq := q4 hrr true (by simp only [bt_Valid, h5, h10, h16, h19, hg4, hg13, cs4]); subst hq
  exact Kr () rfl (.tmp rfl .nil) [] trivial
 intro h19
 have g21 := ne_of_beq_false h19
 refine Db h19 [] Vm (Dv [0] (Vfa fo39_1 0) (Dv [0] (VldF sh37 0) (Dv [0] (Vfa fo39_1 0) (Dv [0] (VldF sh37 0) (Dv [] (Vlen sl37) (Dv [] Vsub (Dv [1] (Vi sl37 0) (Dv [1] (VldU sh68 0) (Dv [0] (Vfa fo39_0 0) ?_)))))))))
 refine Dv [0] (VldF sh3 0) ?_
 refine letv (bt_spare s.Width) fun rv22 hg23 => ?_
 refine Dx [] [] [0] (fun G => u64 rv22) [fun G => SP.fact (True)] (fun G => xC [] ca114 (fn114 s.Width pre rv22 hg23)) (Dv [] VandU (Dv [] (VeqlU (b := 0#64)) (Dv [] Vpf (Dv [] Va ?_))))
 refine Dn ⟨by kernel_rfl, fun G => ?_⟩
 refine Jw2 [(2, vb (((s.Words.getD (((s.Words.length : Int) - 1) : Int).toNat 0#64) &&& rv22) == 0#64))] [0, 1] [SP.fact (True)] ?_
 refine Jk [0, 1] ?_
 have hq := q4 hrr (((s.Words.getD (((s.Words.length : Int) - 1) : Int).toNat 0#64) &&& rv22) == 0#64) (by simp only [bt_Valid, h5, h10, h16, h19, hg4, hg13, hg23, cs4]); subst hq
 exact Kr () rfl (.tmp rfl .nil) [] trivial
theorem fn71 (s : GSet) (sa1 : Option Addr) (sk1 : Nat) (hs_0 : i64ok s.Width) (rr : Bool) (hrr : resume_encodable_1 s = rr) : FT Tryz.prog 71 #[.agg #[vi s.Width, vl sa1 sk1 s.Words]] [S sa1 sk1 s.Words] (fun g : Unit => True) (fun g => vb rr) (fun g => []) := by
 refine FTi Tryz.func71 fun w0 M0 F0 => ?_
 unfold i64ok at hs_0
 refine Fb 8 0 fun _ => KS ?_
 refine Oa (Ab [vi s.Width, vl sa1 sk1 s.Words]) fun p2 => Oq Va (KS ?_)
 refine Oq (VldA sh39 0) ?_
 refine letv (bt_Valid s) fun rv3 hg4 => ?_
 have hc5 := fn72 s sa1 sk1 pre rv3 hg4
 refine Oc [1] ca72 hc5 ?_
 rintro - -
 refine Oq Vnot (Oq Va (KS ?_))
 have hq := q4 hrr (!rv3) (by simp only [resume_encodable_1, hg4, cs4]); subst hq
 exact Kr () rfl (.tmp rfl .nil) [] trivial
theorem fn44 (st : GState) (sta1 : Option Addr) (stk1 : Nat) (sta2 : Option Addr) (stk2 : Nat) (sta5 : Option Addr) (stk5 : Nat) (sta6 : Option Addr) (stk6 : Nat) (hst_0 : i64ok st.Phase) (hst_3 : i64ok st.At) (hst_4 : i64ok st.Edge) (hst_7 : i64ok st.Steps) (rr : Bool) (hrr : resume_encodable st = rr) : FT Tryz.prog 44 #[.agg #[vi st.Phase, vl sta1 stk1 st.Cone, vl sta2 stk2 st.Leaf, vi st.At, vi st.Edge, vl sta5 stk5 st.Values, vl sta6 stk6 st.Queue, vi st.Steps]] [S sta1 stk1 st.Cone, S sta2 stk2 st.Leaf, S sta5 stk5 st.Values, S sta6 stk6 st.Queue] (fun g : Unit => True) (fun g => vb rr) (fun g => []) := by
 refine FTi Tryz.func44 fun w0 M0 F0 => ?_
 unfold i64ok at hst_0 hst_3 hst_4 hst_7
 refine Fb 8 0 fun _ => Fo 0 fun ho2 => Fb 1 1 fun _ => Fb 32 2 fun _ => Fb 8 3 fun _ => Fo 3 fun ho6 => KS ?_
 refine Oa (Ab [vi st.Phase, vl sta1 stk1 st.Cone, vl sta2 stk2 st.Leaf, vi st.At, vi st.Edge, vl sta5 stk5 st.Values, vl sta6 stk6 st.Queue, vi st.Steps]) fun p7 => Oq Va (KS ?_)
 refine Oq (Vfa fo26_1 0) (Oq (VldF sh22 0) (Oq (Vlen sl22) (Oq Va (KS ?_))))
 refine Oq (Vfa fo26_0 0) (Oq (VldF sh3 0) (Oq Vgeq (Oq Vm ?_)))
 refine Js 10 ?_ ?_
 ·intro h8
  have g9 := dt h8
  refine Oq (Vfa fo26_0 0) (Oq (VldF sh3 0) (Oq Vleq (Oq Vpt (Oq Vm ?_))))
  refine Js 15 ?_ ?_
  ·intro h10
   have g11 := dt h10
   refine Oq Vm (Oq Vgeq (Oq Vpt (Oq Vm ?_)))
   refine Js 19 ?_ ?_
   ·intro h12
    have g13 := dt h12
    refine Oq Vm (Oq Vleq (Oq Vpt (Oq Vm ?_)))
    refine Js 23 ?_ ?_
    ·intro h14
     have g15 := dt h14
     refine Oq (Vfa fo26_2 0) (Oq (VldF sh23 0) (Oq (Vlen sl23) (Oq Vm (Oq Veql (Oq Vpt (Oq Vm ?_))))))
     refine Js 30 ?_ ?_
     ·intro h16
      have g17 := eq_of_beq h16
      refine Oq (Vfa fo26_5 0) (Oq (VldF sh24 0) (Oq (Vlen sl24) (Oq Veql (Oq Vm ?_))))
      refine Js 35 ?_ ?_
      ·intro h18
       have g19 := eq_of_beq h18
       refine Osk (Osk (Osk (Osk (Osk (Oq Vpt (Oq Vpt (Oq Vm (Oq (Vfa fo26_6 0) (Oq (VldF sh22 0) ?_)))))))))
       refine Oq (Vlen sl22) (Oq Vleq (Oq Vpt (Oq Vm ?_)))
       refine Js 49 ?_ ?_
       ·intro h20
        have g21 := dt h20
        refine Oq (Vfa fo26_1 0) (Oq (VldF sh22 0) ?_)
        refine letv (resume_counters st.Cone) fun rv22 hg23 => ?_
        have hc24 := fn69 st.Cone sta1 stk1 rv22 hg23
        refine Oc [1] ca69 hc24 ?_
        rintro - -
        refine Oq Vpt (Oq Vm ?_)
        refine Js 54 ?_ ?_
        ·intro h25
         refine Oq (Vfa fo26_6 0) (Oq (VldF sh22 0) ?_)
         refine letv (resume_counters st.Queue) fun rv27 hg28 => ?_
         have hc29 := fn69 st.Queue sta6 stk6 rv27 hg28
         refine Oc [4] ca69 hc29 ?_
         rintro - -
         refine Oq Vpt (Oq Vm ?_)
         refine Js 59 ?_ ?_
         ·intro h30
          refine Oq (Vfa fo26_3 0) (Oq (VldF sh3 0) (Oq (Vfa fo26_4 0) (Oq (VldF sh3 0) (Oq (Vfa fo26_7 0) (Oq (VldF sh3 0) (Oa (AsV sl22 sz22 [vi st.At, vi st.Edge, vi st.Steps] [vi st.At, vi st.Edge, vi st.Steps]) fun c32 => ?_))))))
          refine Jo 0 ?_; rintro a33 k34 rfl
          refine Jl [0] (Ent.crInt _ [st.At, st.Edge, st.Steps] _ _ rfl rfl (by intro x hx; simp only [List.mem_cons, List.not_mem_nil, or_false] at hx; rcases hx with rfl | rfl | rfl <;> (unfold i64ok; omega)) aB1) ?_
          refine letv (resume_counters [st.At, st.Edge, st.Steps]) fun rv35 hg36 => ?_
          refine Oc [0] ca69 (FT_borrow (A := _) (fun _ _ h => by cases h) (FT_ent (Ent.take (is := [0]) rfl) (fn69 ([st.At, st.Edge, st.Steps]) a33 k34 rv35 hg36))) ?_ (ht := rfl)
          rintro - -
          refine Oq Vpt (Oq Vm ?_)
          refine Js 69 ?_ ?_
          ·intro h37
           refine Oq (Vfa fo26_5 1) (Oq (VldF sh24 1) ?_)
           refine JJ_ent (Ent.pall [] rfl rfl) ?_
           refine letv (sc_ContainsFunc_Set st.Values (fun x => resume_encodable_1 x)) fun rv39 hg40 => ?_
           have hc41 := fn70 st.Values sta5 stk5 71 [] (fun x => resume_encodable_1 x) [] ca71 (fun x hx a1 k1 hq0 => FT_pall (A1 := _) (fn71 x a1 k1  hq0 _ rfl)) rv39 hg40
           refine Oc [5, 0] ca70 hc41 ?_
           rintro - -
           refine Oq Vnot (Oq Vpt (Oq Va (KS ?_)))
           have hq := q4 hrr (!rv39) (by simp only [resume_encodable, h8, h10, h12, h14, h16, h18, h20, h25, h30, h37, hg23, hg28, hg36, hg40, cs4]); subst hq
           exact Kr () rfl (.tmp rfl .nil) [] trivial
          intro h37
          refine Osk (Osk (Osk (Osk (Oq Vpf (Oq Va (KS ?_))))))
          have hq := q4 hrr false (by simp only [resume_encodable, h8, h10, h12, h14, h16, h18, h20, h25, h30, h37, hg23, hg28, hg36, cs4]); subst hq
          exact Kr () rfl (.tmp rfl .nil) [] trivial
         intro h30
         refine Osk (Osk (Osk (Osk (Osk (Osk (Osk (Osk (Oq Vpf (Oq Vm ?_)))))))))
         refine Osk (Osk (Osk (Osk (Oq Vpf (Oq Va (KS ?_))))))
         have hq := q4 hrr false (by simp only [resume_encodable, h8, h10, h12, h14, h16, h18, h20, h25, h30, hg23, hg28, cs4]); subst hq
         exact Kr () rfl (.tmp rfl .nil) [] trivial
        intro h25
        refine Osk (Osk (Osk (Oq Vpf (Oq Vm (Osk (Osk (Osk (Osk (Osk ?_)))))))))
        refine Osk (Osk (Osk (Oq Vpf (Oq Vm (Osk (Osk (Osk (Osk (Oq Vpf ?_)))))))))
        refine Oq Va (KS ?_)
        have hq := q4 hrr false (by simp only [resume_encodable, h8, h10, h12, h14, h16, h18, h20, h25, hg23, cs4]); subst hq
        exact Kr () rfl (.tmp rfl .nil) [] trivial
       intro h20
       have g45 := df h20
       refine Osk (Osk (Osk (Oq Vpf (Oq Vm (Osk (Osk (Osk (Oq Vpf (Oq Vm ?_)))))))))
       refine Osk (Osk (Osk (Osk (Osk (Osk (Osk (Osk (Oq Vpf (Oq Vm ?_)))))))))
       refine Osk (Osk (Osk (Osk (Oq Vpf (Oq Va (KS ?_))))))
       have hq := q4 hrr false (by simp only [resume_encodable, h8, h10, h12, h14, h16, h18, h20, cs4]); subst hq
       exact Kr () rfl (.tmp rfl .nil) [] trivial
      intro h18
      have g46 := ne_of_beq_false h18
      refine Oq (Vfa fo26_5 0) (Oq (VldF sh24 0) (Oq (Vlen sl24) (Oq Vm (Oq Veql (Oq Vpf (Oq Vpt (Oq Vm ?_)))))))
      refine Js 43 ?_ ?_
      ·intro h47
       have g48 := eq_of_beq h47
       refine Oq (Vfa fo26_6 0) (Oq (VldF sh22 0) (Oq (Vlen sl22) (Oq Vleq (Oq Vpt (Oq Vm ?_)))))
       refine Js 49 ?_ ?_
       ·intro h49
        have g50 := dt h49
        refine Oq (Vfa fo26_1 0) (Oq (VldF sh22 0) ?_)
        refine letv (resume_counters st.Cone) fun rv51 hg52 => ?_
        have hc53 := fn69 st.Cone sta1 stk1 rv51 hg52
        refine Oc [1] ca69 hc53 ?_
        rintro - -
        refine Oq Vpt (Oq Vm ?_)
        refine Js 54 ?_ ?_
        ·intro h54
         refine Oq (Vfa fo26_6 0) (Oq (VldF sh22 0) ?_)
         refine letv (resume_counters st.Queue) fun rv56 hg57 => ?_
         have hc58 := fn69 st.Queue sta6 stk6 rv56 hg57
         refine Oc [4] ca69 hc58 ?_
         rintro - -
         refine Oq Vpt (Oq Vm ?_)
         refine Js 59 ?_ ?_
         ·intro h59
          refine Oq (Vfa fo26_3 0) (Oq (VldF sh3 0) (Oq (Vfa fo26_4 0) (Oq (VldF sh3 0) (Oq (Vfa fo26_7 0) (Oq (VldF sh3 0) (Oa (AsV sl22 sz22 [vi st.At, vi st.Edge, vi st.Steps] [vi st.At, vi st.Edge, vi st.Steps]) fun c61 => ?_))))))
          refine Jo 0 ?_; rintro a62 k63 rfl
          refine Jl [0] (Ent.crInt _ [st.At, st.Edge, st.Steps] _ _ rfl rfl (by intro x hx; simp only [List.mem_cons, List.not_mem_nil, or_false] at hx; rcases hx with rfl | rfl | rfl <;> (unfold i64ok; omega)) aB1) ?_
          refine letv (resume_counters [st.At, st.Edge, st.Steps]) fun rv64 hg65 => ?_
          refine Oc [0] ca69 (FT_borrow (A := _) (fun _ _ h => by cases h) (FT_ent (Ent.take (is := [0]) rfl) (fn69 ([st.At, st.Edge, st.Steps]) a62 k63 rv64 hg65))) ?_ (ht := rfl)
          rintro - -
          refine Oq Vpt (Oq Vm ?_)
          refine Js 69 ?_ ?_
          ·intro h66
           refine Oq (Vfa fo26_5 1) (Oq (VldF sh24 1) ?_)
           refine JJ_ent (Ent.pall [] rfl rfl) ?_
           refine letv (sc_ContainsFunc_Set st.Values (fun x => resume_encodable_1 x)) fun rv68 hg69 => ?_
           have hc70 := fn70 st.Values sta5 stk5 71 [] (fun x => resume_encodable_1 x) [] ca71 (fun x hx a1 k1 hq0 => FT_pall (A1 := _) (fn71 x a1 k1  hq0 _ rfl)) rv68 hg69
           refine Oc [5, 0] ca70 hc70 ?_
           rintro - -
           refine Oq Vnot (Oq Vpt (Oq Va (KS ?_)))
           have hq := q4 hrr (!rv68) (by simp only [resume_encodable, h8, h10, h12, h14, h16, h18, h47, h49, h54, h59, h66, hg52, hg57, hg65, hg69, cs4]); subst hq
           exact Kr () rfl (.tmp rfl .nil) [] trivial
          intro h66
          refine Osk (Osk (Osk (Osk (Oq Vpf (Oq Va (KS ?_))))))
          have hq := q4 hrr false (by simp only [resume_encodable, h8, h10, h12, h14, h16, h18, h47, h49, h54, h59, h66, hg52, hg57, hg65, cs4]); subst hq
          exact Kr () rfl (.tmp rfl .nil) [] trivial
         intro h59
         refine Osk (Osk (Osk (Osk (Osk (Osk (Osk (Osk (Oq Vpf (Oq Vm ?_)))))))))
         refine Osk (Osk (Osk (Osk (Oq Vpf (Oq Va (KS ?_))))))
         have hq := q4 hrr false (by simp only [resume_encodable, h8, h10, h12, h14, h16, h18, h47, h49, h54, h59, hg52, hg57, cs4]); subst hq
         exact Kr () rfl (.tmp rfl .nil) [] trivial
        intro h54
        refine Osk (Osk (Osk (Oq Vpf (Oq Vm (Osk (Osk (Osk (Osk (Osk ?_)))))))))
        refine Osk (Osk (Osk (Oq Vpf (Oq Vm (Osk (Osk (Osk (Osk (Oq Vpf ?_)))))))))
        refine Oq Va (KS ?_)
        have hq := q4 hrr false (by simp only [resume_encodable, h8, h10, h12, h14, h16, h18, h47, h49, h54, hg52, cs4]); subst hq
        exact Kr () rfl (.tmp rfl .nil) [] trivial
       intro h49
       have g74 := df h49
       refine Osk (Osk (Osk (Oq Vpf (Oq Vm (Osk (Osk (Osk (Oq Vpf (Oq Vm ?_)))))))))
       refine Osk (Osk (Osk (Osk (Osk (Osk (Osk (Osk (Oq Vpf (Oq Vm ?_)))))))))
       refine Osk (Osk (Osk (Osk (Oq Vpf (Oq Va (KS ?_))))))
       have hq := q4 hrr false (by simp only [resume_encodable, h8, h10, h12, h14, h16, h18, h47, h49, cs4]); subst hq
       exact Kr () rfl (.tmp rfl .nil) [] trivial
      intro h47
      have g75 := ne_of_beq_false h47
      refine Osk (Osk (Osk (Osk (Oq Vpf (Oq Vm (Osk (Osk (Osk (Oq Vpf ?_)))))))))
      refine Oq Vm (Osk (Osk (Osk (Oq Vpf (Oq Vm (Osk (Osk (Osk (Osk ?_)))))))))
      refine Osk (Osk (Osk (Osk (Oq Vpf (Oq Vm (Osk (Osk (Osk (Osk ?_)))))))))
      refine Oq Vpf (Oq Va (KS ?_))
      have hq := q4 hrr false (by simp only [resume_encodable, h8, h10, h12, h14, h16, h18, h47, cs4]); subst hq
      exact Kr () rfl (.tmp rfl .nil) [] trivial
     intro h16
     have g76 := ne_of_beq_false h16
     refine Osk (Osk (Osk (Osk (Osk (Osk (Osk (Osk (Osk (Osk ?_)))))))))
     refine Osk (Oq Vpf (Oq Vm (Osk (Osk (Osk (Osk (Oq Vpf (Oq Vm (Osk ?_)))))))))
     refine Osk (Osk (Oq Vpf (Oq Vm (Osk (Osk (Osk (Oq Vpf (Oq Vm (Osk ?_)))))))))
     refine Osk (Osk (Osk (Osk (Osk (Osk (Osk (Oq Vpf (Oq Vm (Osk ?_)))))))))
     refine Osk (Osk (Osk (Oq Vpf (Oq Va (KS ?_)))))
     have hq := q4 hrr false (by simp only [resume_encodable, h8, h10, h12, h14, h16, cs4]); subst hq
     exact Kr () rfl (.tmp rfl .nil) [] trivial
    intro h14
    have g77 := df h14
    refine Osk (Osk (Osk (Osk (Osk (Oq Vpf (Oq Vm (Osk (Osk (Osk ?_)))))))))
    refine Osk (Osk (Osk (Osk (Osk (Osk (Osk (Osk (Oq Vpf (Oq Vm ?_)))))))))
    refine Osk (Osk (Osk (Osk (Oq Vpf (Oq Vm (Osk (Osk (Osk (Oq Vpf ?_)))))))))
    refine Oq Vm (Osk (Osk (Osk (Oq Vpf (Oq Vm (Osk (Osk (Osk (Osk ?_)))))))))
    refine Osk (Osk (Osk (Osk (Oq Vpf (Oq Vm (Osk (Osk (Osk (Osk ?_)))))))))
    refine Oq Vpf (Oq Va (KS ?_))
    have hq := q4 hrr false (by simp only [resume_encodable, h8, h10, h12, h14, cs4]); subst hq
    exact Kr () rfl (.tmp rfl .nil) [] trivial
   intro h12
   have g78 := df h12
   refine Osk (Osk (Oq Vpf (Oq Vm (Osk (Osk (Osk (Osk (Osk (Oq Vpf ?_)))))))))
   refine Oq Vm (Osk (Osk (Osk (Osk (Osk (Osk (Osk (Osk (Osk ?_)))))))))
   refine Osk (Osk (Oq Vpf (Oq Vm (Osk (Osk (Osk (Osk (Oq Vpf (Oq Vm ?_)))))))))
   refine Osk (Osk (Osk (Oq Vpf (Oq Vm (Osk (Osk (Osk (Oq Vpf (Oq Vm ?_)))))))))
   refine Osk (Osk (Osk (Osk (Osk (Osk (Osk (Osk (Oq Vpf (Oq Vm ?_)))))))))
   refine Osk (Osk (Osk (Osk (Oq Vpf (Oq Va (KS ?_))))))
   have hq := q4 hrr false (by simp only [resume_encodable, h8, h10, h12, cs4]); subst hq
   exact Kr () rfl (.tmp rfl .nil) [] trivial
  intro h10
  have g79 := df h10
  refine Osk (Osk (Oq Vpf (Oq Vm (Osk (Osk (Oq Vpf (Oq Vm (Osk (Osk ?_)))))))))
  refine Osk (Osk (Osk (Oq Vpf (Oq Vm (Osk (Osk (Osk (Osk (Osk ?_)))))))))
  refine Osk (Osk (Osk (Osk (Osk (Osk (Oq Vpf (Oq Vm (Osk (Osk ?_)))))))))
  refine Osk (Osk (Oq Vpf (Oq Vm (Osk (Osk (Osk (Oq Vpf (Oq Vm (Osk ?_)))))))))
  refine Osk (Osk (Oq Vpf (Oq Vm (Osk (Osk (Osk (Osk (Osk (Osk ?_)))))))))
  refine Osk (Osk (Oq Vpf (Oq Vm (Osk (Osk (Osk (Osk (Oq Vpf (Oq Va ?_)))))))))
  refine KS ?_
  have hq := q4 hrr false (by simp only [resume_encodable, h8, h10, cs4]); subst hq
  exact Kr () rfl (.tmp rfl .nil) [] trivial
 intro h8
 have g80 := df h8
 refine Osk (Osk (Osk (Oq Vpf (Oq Vm (Osk (Osk (Oq Vpf (Oq Vm (Osk ?_)))))))))
 refine Osk (Oq Vpf (Oq Vm (Osk (Osk (Osk (Osk (Osk (Oq Vpf (Oq Vm ?_)))))))))
 refine Osk (Osk (Osk (Osk (Osk (Osk (Osk (Osk (Osk (Osk ?_)))))))))
 refine Osk (Oq Vpf (Oq Vm (Osk (Osk (Osk (Osk (Oq Vpf (Oq Vm (Osk ?_)))))))))
 refine Osk (Osk (Oq Vpf (Oq Vm (Osk (Osk (Osk (Oq Vpf (Oq Vm (Osk ?_)))))))))
 refine Osk (Osk (Osk (Osk (Osk (Osk (Osk (Oq Vpf (Oq Vm (Osk ?_)))))))))
 refine Osk (Osk (Osk (Oq Vpf (Oq Va (KS ?_)))))
 have hq := q4 hrr false (by simp only [resume_encodable, h8, cs4]); subst hq
 exact Kr () rfl (.tmp rfl .nil) [] trivial
theorem fn73 (b : List UInt8) (ba0 : Option Addr) (bk0 : Nat) (rr : Int) (hrr : uvarint_Checksum b = rr) : FT Tryz.prog 73 #[vl ba0 bk0 b] [S ba0 bk0 b] (fun g : Unit => True) (fun g => .int .u32 rr) (fun g => []) := by
 refine FTi Tryz.func73 fun w0 M0 F0 => Fb 1 0 fun _ => ?_
 refine KS ?_
 refine Oq Va (KS ?_)
 refine Oq Va (KS ?_)
 refine Oq Vm (Oq (Vlen sl44) (Oq Vm (KS ?_)))
 refine Kl (γ := Nat × Int × Int) (fun (r2, sum_3, v8_4) => ⟨[(3, .int .u32 sum_3), (6, vl ba0 bk0 b), (7, vi (b.length : Int)), (8, vi v8_4)], [S ba0 bk0 b], uvarint_Checksum_L0 b r2 sum_3 v8_4 = uvarint_Checksum_L0 b (((b.length : Int) - 0).toNat) 4294967295 0 ∧ r2 = ((b.length : Int) - v8_4).toNat ∧ (0 : Int) ≤ v8_4 ∧ v8_4 ≤ (b.length : Int) ∧ (-9223372036854775808 ≤ sum_3 ∧ sum_3 ≤ 9223372036854775807) ∧ (-9223372036854775808 ≤ v8_4 ∧ v8_4 ≤ 9223372036854775807), r2⟩) (((b.length : Int) - 0).toNat, 4294967295, 0) [0] ⟨rfl, rfl, aM1, aM1, aM1, aM1⟩ ?_
 rintro ⟨r2, sum_3, v8_4⟩ ⟨hM5, hr6, hi7, hi8, hk9, hk10⟩
 refine JJ_nx fun _ _ hL hA => ?_; dsimp only at hL hA; subst hL hA
 refine Fb 1 0 fun _ => KS ?_
 refine Oq Vlss (KS ?_)
 refine Kc ?_ ?_
 ·intro h12
  have g13 := dt h12
  obtain ⟨r14, rfl⟩ := scc (n := r2) aM1
  refine KS ?_
  refine Oq (Vi sl44 0) ?_
  have hb15 := u8b' (b.getD v8_4.toNat 0)
  refine Oq (Vld8 sh5 0) (Oq Va (KS ?_))
  refine Oq Vm (Oq Vm (Oq (VcM un5 un78 wrap_u32) ?_))
  have hb16 : 0 ≤ (bXor .u32 sum_3 (((b.getD v8_4.toNat 0).toNat : Int) % 4294967296)) ∧ (bXor .u32 sum_3 (((b.getD v8_4.toNat 0).toNat : Int) % 4294967296)) ≤ 4294967295 := wrap_u32b _
  refine Oq VxorK (Oq Va (KS ?_))
  refine Oq Vm (KS ?_)
  refine Kl (γ := Nat × Int × Int) (fun (r17, sum_18, v16_19) => ⟨[(6, vl ba0 bk0 b), (7, vi (b.length : Int)), (8, vi v8_4), (3, .int .u32 sum_18), (16, vi v16_19)], [S ba0 bk0 b], uvarint_Checksum_L1 r17 sum_18 v16_19 = uvarint_Checksum_L1 8 (bXor .u32 sum_3 (((b.getD v8_4.toNat 0).toNat : Int) % 4294967296)) 0 ∧ r17 = ((8 : Int) - v16_19).toNat ∧ (0 : Int) ≤ v16_19 ∧ v16_19 ≤ 8 ∧ (-9223372036854775808 ≤ sum_18 ∧ sum_18 ≤ 9223372036854775807) ∧ (-9223372036854775808 ≤ v16_19 ∧ v16_19 ≤ 9223372036854775807), r17⟩) (8, (bXor .u32 sum_3 (((b.getD v8_4.toNat 0).toNat : Int) % 4294967296)), 0) [0] ⟨rfl, rfl, aM1, aM1, aM1, aM1⟩ ?_
  rintro ⟨r17, sum_18, v16_19⟩ ⟨hM20, hr21, hi22, hi23, hk24, hk25⟩
  refine JJ_nx fun _ _ hL hA => ?_; dsimp only at hL hA; subst hL hA
  refine Fb 1 0 fun _ => KS ?_
  refine Oq Vlss (KS ?_)
  refine Kc ?_ ?_
  ·intro h27
   have g28 := dt h27
   obtain ⟨r29, rfl⟩ := scc (n := r17) aM1
   refine KS ?_
   refine Oq Vm (Oq (VshrK (k := .u32) (n := ((1#64).toNat : Int)) (m := 2) (by decide)) (Oq Vm ?_))
   have hb30 : 0 ≤ (bAnd .u32 sum_18 1) ∧ (bAnd .u32 sum_18 1) ≤ 4294967295 := wrap_u32b _
   refine Oq VandK ?_
   have hb31 : 0 ≤ (bNeg .u32 (bAnd .u32 sum_18 1)) ∧ (bNeg .u32 (bAnd .u32 sum_18 1)) ≤ 4294967295 := wrap_u32b _
   refine Oq VnegK ?_
   have hb32 : 0 ≤ (bAnd .u32 3988292384 (bNeg .u32 (bAnd .u32 sum_18 1))) ∧ (bAnd .u32 3988292384 (bNeg .u32 (bAnd .u32 sum_18 1))) ≤ 4294967295 := wrap_u32b _
   refine Oq VandK ?_
   have hb33 : 0 ≤ (bXor .u32 (sum_18 / 2) (bAnd .u32 3988292384 (bNeg .u32 (bAnd .u32 sum_18 1)))) ∧ (bXor .u32 (sum_18 / 2) (bAnd .u32 3988292384 (bNeg .u32 (bAnd .u32 sum_18 1)))) ≤ 4294967295 := wrap_u32b _
   refine Oq VxorK (Oq Va (KS ?_))
   refine Oq Vadd (Oq Vm (KS ?_))
   exact Kg (r29, (bXor .u32 (sum_18 / 2) (bAnd .u32 3988292384 (bNeg .u32 (bAnd .u32 sum_18 1)))), (v16_19 + 1)) [0] ⟨(q3 hM20 (by simp only [uvarint_Checksum_L1, h27, cs4])), aM1, aM1, aM1, aM1, aM1⟩
  intro h27
  have g34 := df h27
  obtain rfl : r17 = 0 := by omega
  refine Ke ?_
  have hR35 := q2 hM20 sum_18 (by simp only [uvarint_Checksum_L1, h27, cs4])
  refine KS ?_
  refine Oq Vadd (Oq Vm (KS ?_))
  exact Kg (r14, sum_18, (v8_4 + 1)) [0] ⟨(q3 hM5 (by simp only [uvarint_Checksum_L0, h12, h27, hR35, cs4])), aM1, aM1, aM1, aM1, aM1⟩
 intro h12
 have g36 := df h12
 obtain rfl : r2 = 0 := by omega
 refine Ke ?_
 have hR37 := q2 hM5 sum_3 (by simp only [uvarint_Checksum_L0, h12, cs4])
 refine KS ?_
 refine Oq Vm ?_
 have hb38 : 0 ≤ (bCom .u32 sum_3) ∧ (bCom .u32 sum_3) ≤ 4294967295 := wrap_u32b _
 refine Oq VcomK (Oq Va (KS ?_))
 have hq := q4 hrr (bCom .u32 sum_3) (by simp only [uvarint_Checksum, h12, hR37, cs4]); subst hq
 exact Kr () rfl (.tmp rfl .nil) [] trivial
theorem fn45 (b : List UInt8) (ba0 : Option Addr) (bk0 : Nat) (hb0 : b.length ≤ 1000000) (rr : List UInt8) (hrr : uvarint_Seal b = rr) : FT Tryz.prog 45 #[vl ba0 bk0 b] [O ba0 bk0 b] (fun g : Value => (rr.length = b.length + 4)) (fun g => g) (fun g => [os g rr]) := by
 refine FTi Tryz.func45 fun w0 M0 F0 => Fb 1 0 fun _ => ?_
 refine KS ?_
 refine Oq Va (KS ?_)
 refine Oq Vm ?_
 refine letv (uvarint_Checksum b) fun rv2 hg3 => ?_
 refine Oc [0] ca73 (FT_borrow (A := _) (fun _ _ h => by cases h) (FT_ent (Ent.take (is := [0]) rfl) (fn73 b ba0 bk0 rv2 hg3))) ?_ (ht := rfl)
 rintro - -
 refine Oq Va (KS ?_)
 refine Oq Vm (Oq Vm (Oq (VshrK (k := .u32) (n := ((24#64).toNat : Int)) (m := 16777216) (by decide)) (Oq (VcM un78 un5 wrap_u8) (Oq Vm (Oq (VshrK (k := .u32) (n := ((16#64).toNat : Int)) (m := 65536) (by decide)) (Oq (VcM un78 un5 wrap_u8) (Oq Vm (Oq (VshrK (k := .u32) (n := ((8#64).toNat : Int)) (m := 256) (by decide)) (Oq (VcM un78 un5 wrap_u8) ?_)))))))))
 refine Oq Vm (Oq (VcM un78 un5 wrap_u8) (Oa (AsV sl44 sz44 [.int .u8 ((rv2 / 16777216) % 256), .int .u8 ((rv2 / 65536) % 256), .int .u8 ((rv2 / 256) % 256), .int .u8 (rv2 % 256)] [.int .u8 ((rv2 / 16777216) % 256), .int .u8 ((rv2 / 65536) % 256), .int .u8 ((rv2 / 256) % 256), .int .u8 (rv2 % 256)]) fun c4 => ?_))
 refine Jo 0 ?_; rintro a5 k6 rfl
 refine Jl [0] (Ent.crOs (α := UInt8) (A := []) _ ([(UInt8.ofNat (((rv2 / 16777216) % 256) : Int).toNat), (UInt8.ofNat (((rv2 / 65536) % 256) : Int).toNat), (UInt8.ofNat (((rv2 / 256) % 256) : Int).toNat), (UInt8.ofNat ((rv2 % 256) : Int).toNat)] : List UInt8) _ aB1 (fun h => ⟨[.int .u8 ((rv2 / 16777216) % 256)], [.int .u8 ((rv2 / 65536) % 256), .int .u8 ((rv2 / 256) % 256), .int .u8 (rv2 % 256)], rfl, (fun _ => u8rd aM1) h, ⟨[.int .u8 ((rv2 / 65536) % 256)], [.int .u8 ((rv2 / 256) % 256), .int .u8 (rv2 % 256)], rfl, (fun _ => u8rd aM1) h, ⟨[.int .u8 ((rv2 / 256) % 256)], [.int .u8 (rv2 % 256)], rfl, (fun _ => u8rd aM1) h, ⟨[.int .u8 (rv2 % 256)], [], rfl, (fun _ => u8rd aM1) h, rfl⟩⟩⟩⟩)) ?_
 refine Oa (ApO [1, 0] sl44 sl44 sz44) fun c7 => ?_
 refine Jo 0 ?_; rintro a8 k9 rfl
 refine Fb 1 0 fun _ => ?_
 have hn11 := la b ([(UInt8.ofNat (((rv2 / 16777216) % 256) : Int).toNat), (UInt8.ofNat (((rv2 / 65536) % 256) : Int).toNat), (UInt8.ofNat (((rv2 / 256) % 256) : Int).toNat), (UInt8.ofNat ((rv2 % 256) : Int).toNat)] : List UInt8)
 refine Oq Va (KS ?_)
 have hq := q4 hrr (b ++ [(UInt8.ofNat (((rv2 / 16777216) % 256) : Int).toNat), (UInt8.ofNat (((rv2 / 65536) % 256) : Int).toNat), (UInt8.ofNat (((rv2 / 256) % 256) : Int).toNat), (UInt8.ofNat ((rv2 % 256) : Int).toNat)]) (by simp only [uvarint_Seal, hg3, cs4]); subst hq
 exact Kr (.slice a8 ((b ++ [(UInt8.ofNat (((rv2 / 16777216) % 256) : Int).toNat), (UInt8.ofNat (((rv2 / 65536) % 256) : Int).toNat), (UInt8.ofNat (((rv2 / 256) % 256) : Int).toNat), (UInt8.ofNat ((rv2 % 256) : Int).toNat)]).length) k9) rfl (.tmp rfl .nil) [0] en
theorem fn75 (b : List UInt8) (ba0 : Option Addr) (bk0 : Nat) (n : Int) (hn_0 : i64ok n) (hb0 : b.length ≤ 1000000) (hn0 : 0 ≤ n) (rr : List UInt8) (hrr : uvarint_Append b n = rr) : FT Tryz.prog 75 #[vl ba0 bk0 b, vi n] [O ba0 bk0 b] (fun g : Value => (rr.length ≤ b.length + 11)) (fun g => g) (fun g => [os g rr]) := by
 refine FTi Tryz.func75 fun w0 M0 F0 => ?_
 unfold i64ok at hn_0
 refine Fb 1 0 fun _ => KS ?_
 refine Oq Va (KS ?_)
 have hterm11 : uvarint_Append_L0 10 b n ≠ LR.oof := (uvarint_Append_t 9 _ _ aM1 (p9 aM1))
 refine Kl (γ := Nat × List UInt8 × Int × Option Addr × Nat) (fun (r2, b_3, n_4, a5, k6) => ⟨[(0, vl a5 k6 b_3), (1, vi n_4)], [O a5 k6 b_3], uvarint_Append_L0 r2 b_3 n_4 = uvarint_Append_L0 10 b n ∧ (-9223372036854775808 ≤ n_4 ∧ n_4 ≤ 9223372036854775807) ∧ (0 ≤ n_4) ∧ (b_3.length + r2 ≤ b.length + 10), r2⟩) (10, b, n, ba0, bk0) [0] ⟨rfl, aM1, iv0, iv0⟩ ?_
 rintro ⟨r2, b_3, n_4, a5, k6⟩ ⟨hM7, hk8, hv9, hv10⟩
 refine JJ_nx fun _ _ hL hA => ?_; dsimp only at hL hA; subst hL hA
 refine Fb 1 0 fun _ => ?_
 rcases r2 with _ | r2
 ·exact absurd (hM7.symm.trans rfl) hterm11
 refine KS ?_
 refine Oq Vm (Oq Vgeq (KS ?_))
 refine Kc ?_ ?_
 ·intro h13
  have g14 := dt h13
  refine KS ?_
  refine Oq Vm (Oq Vm (Oq (VcM un3 un5 wrap_u8) ?_))
  have hb15 : 0 ≤ (bOr .u8 (n_4 % 256) 128) ∧ (bOr .u8 (n_4 % 256) 128) ≤ 255 := wrap_u8b _
  refine Oq VorK (Oa (AsV sl44 sz44 [.int .u8 (bOr .u8 (n_4 % 256) 128)] [.int .u8 (bOr .u8 (n_4 % 256) 128)]) fun c16 => ?_)
  refine Jo 0 ?_; rintro a17 k18 rfl
  refine Jl [0] (Ent.cr1 (α := UInt8) (A := []) _ (UInt8.ofNat ((bOr .u8 (n_4 % 256) 128) : Int).toNat) _ aB1 (fun _ => u8rd aM1)) ?_
  refine Oa (ApO [1, 0] sl44 sl44 sz44) fun c19 => ?_
  refine Jo 0 ?_; rintro a20 k21 rfl
  refine Fb 1 0 fun _ => ?_
  have hn23 := la b_3 ([(UInt8.ofNat ((bOr .u8 (n_4 % 256) 128) : Int).toNat)] : List UInt8)
  refine Oq Va (KS ?_)
  refine Oq Vm (Oq (VshrK (k := .i64) (n := ((7#64).toNat : Int)) (m := 128) (by decide)) (Oq Va (KS ?_)))
  exact Kg (r2, (b_3 ++ [(UInt8.ofNat ((bOr .u8 (n_4 % 256) 128) : Int).toNat)]), (n_4 / 128), a20, k21) [0] ⟨(q3 hM7 (by simp only [uvarint_Append_L0, h13, cs4])), aM1, iv1, iv1⟩
 intro h13
 have g24 := df h13
 refine Ke ?_
 have hR25 := q2 hM7 (.brk (b_3, n_4)) (by simp only [uvarint_Append_L0, h13, cs4])
 refine KS ?_
 refine Oq Vm (Oq Vm (Oq (VcM un3 un5 wrap_u8) (Oa (AsV sl44 sz44 [.int .u8 (n_4 % 256)] [.int .u8 (n_4 % 256)]) fun c26 => ?_)))
 refine Jo 0 ?_; rintro a27 k28 rfl
 refine Jl [0] (Ent.cr1 (α := UInt8) (A := []) _ (UInt8.ofNat ((n_4 % 256) : Int).toNat) _ aB1 (fun _ => u8rd aM1)) ?_
 refine Oa (ApO [1, 0] sl44 sl44 sz44) fun c29 => ?_
 refine Jo 0 ?_; rintro a30 k31 rfl
 refine Fb 1 0 fun _ => ?_
 have hn33 := la b_3 ([(UInt8.ofNat ((n_4 % 256) : Int).toNat)] : List UInt8)
 refine Oq Va (KS ?_)
 have hq := q4 hrr (b_3 ++ [(UInt8.ofNat ((n_4 % 256) : Int).toNat)]) (by simp only [uvarint_Append, h13, hR25, cs4]); subst hq
 exact Kr (vl a30 k31 (b_3 ++ [(UInt8.ofNat ((n_4 % 256) : Int).toNat)])) rfl (.tmp rfl .nil) [0] en
theorem fn74 (b : List UInt8) (ba0 : Option Addr) (bk0 : Nat) (l : List Int) (la0 : Option Addr) (lk0 : Nat) (hb0 : b.length ≤ 900000) (hl0 : l.length ≤ 256 ∧ ∀ x ∈ l, 0 ≤ x) (rr : List UInt8) (hrr : uvarint_AppendNumbers b l = rr) : FT Tryz.prog 74 #[vl ba0 bk0 b, vl la0 lk0 l] [O ba0 bk0 b, S la0 lk0 l] (fun g : Value => (rr.length ≤ b.length + 2830)) (fun g => g) (fun g => [os g rr]) := by
 refine FTi Tryz.func74 fun w0 M0 F0 => Fb 1 0 fun _ => Fb 8 1 fun _ => Fo 1 fun ho3 => ?_
 refine KS ?_
 refine Oq Va (KS ?_)
 refine Oq Vm (Oq Vm (Oq (Vlen sl22) ?_))
 refine letv (uvarint_Append b (l.length : Int)) fun rv5 hg6 => ?_
 have hc7 := fn75 b ba0 bk0 ((l.length : Int)) pre pre (by first | omega | exact hl0.2 _ (getD_mem aM1)) rv5 hg6
 refine Oc [0] ca75 hc7 ?_
 rintro c4 he8
 refine Jo 0 ?_; rintro a9 k10 rfl
 refine Fb 1 0 fun _ => ?_
 refine Oq Va (KS ?_)
 refine Oq Vm (Oq (Vlen sl22) (Oq Vm (KS ?_)))
 refine Kl (γ := Nat × List UInt8 × Int × Option Addr × Nat) (fun (r12, b_13, v13_14, a15, k16) => ⟨[(0, vl a15 k16 b_13), (11, vl la0 lk0 l), (12, vi (l.length : Int)), (13, vi v13_14)], [O a15 k16 b_13, S la0 lk0 l], uvarint_AppendNumbers_L0 l r12 b_13 v13_14 = uvarint_AppendNumbers_L0 l (((l.length : Int) - 0).toNat) rv5 0 ∧ r12 = ((l.length : Int) - v13_14).toNat ∧ (0 : Int) ≤ v13_14 ∧ v13_14 ≤ (l.length : Int) ∧ (-9223372036854775808 ≤ v13_14 ∧ v13_14 ≤ 9223372036854775807) ∧ ((b_13.length : Int) ≤ (b.length : Int) + 11 + 11 * v13_14), r12⟩) (((l.length : Int) - 0).toNat, rv5, 0, a9, k10) [0, 0] ⟨rfl, rfl, aM1, aM1, aM1, iv0⟩ ?_
 rintro ⟨r12, b_13, v13_14, a15, k16⟩ ⟨hM17, hr18, hi19, hi20, hk21, hv22⟩
 refine JJ_nx fun _ _ hL hA => ?_; dsimp only at hL hA; subst hL hA
 refine Fb 1 0 fun _ => Fb 8 1 fun _ => Fo 1 fun ho25 => KS ?_
 refine Oq Vlss (KS ?_)
 refine Kc ?_ ?_
 ·intro h26
  have g27 := dt h26
  obtain ⟨r28, rfl⟩ := scc (n := r12) aM1
  refine KS ?_
  refine Oq (Vi sl22 1) ?_
  have hb29 := ok1 (i := v13_14.toNat) ho25 rng
  refine Oq (VldI sh3 1) (Oq Va (KS ?_))
  refine Oq Vm (Oq Vm ?_)
  refine letv (uvarint_Append b_13 (l.getD v13_14.toNat 0)) fun rv31 hg32 => ?_
  have hc33 := fn75 b_13 a15 k16 ((l.getD v13_14.toNat 0)) pre pre (by first | omega | exact hl0.2 _ (getD_mem aM1)) rv31 hg32
  refine Oc [0] ca75 hc33 ?_
  rintro c30 he34
  refine Jo 0 ?_; rintro a35 k36 rfl
  refine Fb 1 0 fun _ => ?_
  refine Oq Va (KS ?_)
  refine Oq Vadd (Oq Vm (KS ?_))
  exact Kg (r28, rv31, (v13_14 + 1), a35, k36) [0, 0] ⟨(q3 hM17 (by simp only [uvarint_AppendNumbers_L0, h26, hg32, cs4])), aM1, aM1, aM1, aM1, iv1⟩
 intro h26
 have g38 := df h26
 obtain rfl : r12 = 0 := by omega
 refine Ke ?_
 have hR39 := q2 hM17 b_13 (by simp only [uvarint_AppendNumbers_L0, h26, cs4])
 refine KS ?_
 refine Oq Vm (Oq Va (KS ?_))
 have hq := q4 hrr b_13 (by simp only [uvarint_AppendNumbers, h26, hg6, hR39, cs4]); subst hq
 exact Kr (vl a15 k16 b_13) rfl (.tmp rfl .nil) [0] en
theorem fn76 (b : List UInt8) (ba0 : Option Addr) (bk0 : Nat) (is : Bool) (hb0 : b.length ≤ 1000000) (rr : List UInt8) (hrr : uvarint_AppendBool b is = rr) : FT Tryz.prog 76 #[vl ba0 bk0 b, vb is] [O ba0 bk0 b] (fun g : Value => (rr.length = b.length + 1)) (fun g => g) (fun g => [os g rr]) := by
 refine FTi Tryz.func76 fun w0 M0 F0 => Fb 1 0 fun _ => ?_
 refine KS ?_
 refine Oq Va (KS ?_)
 refine Oq Vm (KS ?_)
 refine Kc ?_ ?_
 ·intro h2
  refine KS ?_
  refine Oq Vm (Oa (AsV sl44 sz44 [.int .u8 1] [.int .u8 1]) fun c4 => ?_)
  refine Jo 0 ?_; rintro a5 k6 rfl
  refine Jl [0] (Ent.cr1 (α := UInt8) (A := []) _ (UInt8.ofNat (1 : Int).toNat) _ aB1 (fun _ => u8rd aM1)) ?_
  refine Oa (ApO [1, 0] sl44 sl44 sz44) fun c7 => ?_
  refine Jo 0 ?_; rintro a8 k9 rfl
  refine Fb 1 0 fun _ => ?_
  have hn11 := la b ([(UInt8.ofNat (1 : Int).toNat)] : List UInt8)
  refine Oq Va (KS ?_)
  have hq := q4 hrr (b ++ [(UInt8.ofNat (1 : Int).toNat)]) (by simp only [uvarint_AppendBool, h2, cs4]); subst hq
  exact Kr (vl a8 k9 (b ++ [(UInt8.ofNat (1 : Int).toNat)])) rfl (.tmp rfl .nil) [0] en
 intro h2
 refine KS ?_
 refine Oq Vm (Oa (AsV sl44 sz44 [.int .u8 0] [.int .u8 0]) fun c13 => ?_)
 refine Jo 0 ?_; rintro a14 k15 rfl
 refine Jl [0] (Ent.cr1 (α := UInt8) (A := []) _ (UInt8.ofNat (0 : Int).toNat) _ aB1 (fun _ => u8rd aM1)) ?_
 refine Oa (ApO [1, 0] sl44 sl44 sz44) fun c16 => ?_
 refine Jo 0 ?_; rintro a17 k18 rfl
 refine Fb 1 0 fun _ => ?_
 have hn20 := la b ([(UInt8.ofNat (0 : Int).toNat)] : List UInt8)
 refine Oq Va (KS ?_)
 have hq := q4 hrr (b ++ [(UInt8.ofNat (0 : Int).toNat)]) (by simp only [uvarint_AppendBool, h2, cs4]); subst hq
 exact Kr (vl a17 k18 (b ++ [(UInt8.ofNat (0 : Int).toNat)])) rfl (.tmp rfl .nil) [0] en
theorem fn148 (x : BitVec 64) (rr : Int) (hrr : bits_OnesCount64 x = rr) : FT Tryz.prog 148 #[u64 x] [] (fun g : Unit => i64ok rr ∧ (0 ≤ rr ∧ rr ≤ 127)) (fun g => vi rr) (fun g => []) := by
 refine FTi Tryz.func148 fun w0 M0 F0 => ?_
 refine KS ?_
 refine Oq Va (KS ?_)
 refine Oq Vm (Oq VshrU (Oq (VandU (b := 6148914691236517205#64)) (Oq Vm (Oq (VandU (b := 6148914691236517205#64)) (Oq VaddU ?_)))))
 generalize hg2 : ((x >>> Int.toNat 1) &&& 6148914691236517205#64) + (x &&& 6148914691236517205#64) = rv1
 refine Oq Va (KS ?_)
 refine Oq Vm (Oq VshrU (Oq (VandU (b := 3689348814741910323#64)) (Oq Vm (Oq (VandU (b := 3689348814741910323#64)) (Oq VaddU ?_)))))
 generalize hg4 : ((rv1 >>> Int.toNat 2) &&& 3689348814741910323#64) + (rv1 &&& 3689348814741910323#64) = rv3
 refine Oq Va (KS ?_)
 refine Oq Vm (Oq VshrU (Oq Vm (Oq VaddU (Oq (VandU (b := 1085102592571150095#64)) ?_))))
 generalize hg6 : ((rv3 >>> Int.toNat 4) + rv3) &&& 1085102592571150095#64 = rv5
 refine Oq Va (KS ?_)
 refine Oq Vm (Oq Vm (Oq VshrU (Oq VaddU ?_)))
 generalize hg8 : rv5 + (rv5 >>> Int.toNat 8) = rv7
 refine Oq Va (KS ?_)
 refine Oq Vm (Oq Vm (Oq VshrU (Oq VaddU ?_)))
 generalize hg10 : rv7 + (rv7 >>> Int.toNat 16) = rv9
 refine Oq Va (KS ?_)
 refine Oq Vm (Oq Vm (Oq VshrU (Oq VaddU ?_)))
 generalize hg12 : rv9 + (rv9 >>> Int.toNat 32) = rv11
 refine Oq Va (KS ?_)
 refine Oq Vm (Oq (VcN un68 un3 (h := (pop_top hg2 hg4 hg6 hg8 hg10 hg12))) ?_)
 have hb13 := iand_ok (rv11.toNat : Int) 127
 refine Oq VandI (Oq Va (KS ?_))
 have hq := q4 hrr (iand (rv11.toNat : Int) 127) (by subst hg2 hg4 hg6 hg8 hg10 hg12; rfl); subst hq
 exact Kr () rfl (.tmp rfl .nil) [] ⟨by unfold i64ok; omega, by have h1 := pop_top hg2 hg4 hg6 hg8 hg10 hg12; have h2 := iand127 (n := rv11.toNat) aM1; omega⟩
theorem fn115 (s : GSet) (sa1 : Option Addr) (sk1 : Nat) (hs_0 : i64ok s.Width) (rr : Int) (hrr : bt_Count s = rr) : FT Tryz.prog 115 #[.agg #[vi s.Width, vl sa1 sk1 s.Words]] [S sa1 sk1 s.Words] (fun g : Unit => i64ok rr) (fun g => vi rr) (fun g => []) := by
 refine FTi Tryz.func115 fun w0 M0 F0 => ?_
 unfold i64ok at hs_0
 refine Fb 8 0 fun _ => KS ?_
 refine Oa (Ab [vi s.Width, vl sa1 sk1 s.Words]) fun p2 => Oq Va (KS ?_)
 refine Oq Va (KS ?_)
 refine Oq (VldA sh39 0) ?_
 refine letv (bt_Valid s) fun rv3 hg4 => ?_
 have hc5 := fn72 s sa1 sk1 pre rv3 hg4
 refine Oc [1] ca72 hc5 ?_
 rintro - -
 refine KS ?_
 refine Kc ?_ ?_
 ·intro h6
  have hpw := PV_w (s := s) (by simp only [h6, hg4])
  refine KS ?_
  refine Oq (Vfa fo39_1 0) (Oq (VldF sh37 0) (Oq (Vlen sl37) (Oq Vm (KS ?_))))
  refine Kl (γ := Nat × Int × Int) (fun (r8, n_9, v11_10) => ⟨[(3, vi n_9), (9, vl sa1 sk1 s.Words), (10, vi (s.Words.length : Int)), (11, vi v11_10)], [S sa1 sk1 s.Words], bt_Count_L0 s r8 n_9 v11_10 = bt_Count_L0 s (((s.Words.length : Int) - 0).toNat) 0 0 ∧ r8 = ((s.Words.length : Int) - v11_10).toNat ∧ (0 : Int) ≤ v11_10 ∧ v11_10 ≤ (s.Words.length : Int) ∧ (-9223372036854775808 ≤ n_9 ∧ n_9 ≤ 9223372036854775807) ∧ (-9223372036854775808 ≤ v11_10 ∧ v11_10 ≤ 9223372036854775807) ∧ (0 ≤ n_9 ∧ n_9 ≤ 127 * v11_10), r8⟩) (((s.Words.length : Int) - 0).toNat, 0, 0) [1] ⟨rfl, rfl, aM1, aM1, aM1, aM1, iv0⟩ ?_
  rintro ⟨r8, n_9, v11_10⟩ ⟨hM11, hr12, hi13, hi14, hk15, hk16, hv17⟩
  refine JJ_nx fun _ _ hL hA => ?_; dsimp only at hL hA; subst hL hA
  refine Fb 8 0 fun _ => KS ?_
  refine Oq Vlss (KS ?_)
  refine Kc ?_ ?_
  ·intro h19
   have g20 := dt h19
   obtain ⟨r21, rfl⟩ := scc (n := r8) aM1
   refine KS ?_
   refine Oq (Vi sl37 0) (Oq (VldU sh68 0) (Oq Va (KS ?_)))
   refine Oq Vm (Oq Vm ?_)
   refine letv (bits_OnesCount64 (s.Words.getD v11_10.toNat 0#64)) fun rv22 hg23 => ?_
   have hc24 := fn148 ((s.Words.getD v11_10.toNat 0#64)) rv22 hg23
   refine Oc [] ca148 hc24 ?_
   rintro - ⟨he25, he26⟩
   unfold i64ok at he25
   refine Oq Vadd (Oq Va (KS ?_))
   refine Oq Vadd (Oq Vm (KS ?_))
   exact Kg (r21, (n_9 + rv22), (v11_10 + 1)) [0] ⟨(q3 hM11 (by simp only [bt_Count_L0, h19, hg23, cs4])), aM1, aM1, aM1, aM1, aM1, iv1⟩
  intro h19
  have g27 := df h19
  obtain rfl : r8 = 0 := by omega
  refine Ke ?_
  have hR28 := q2 hM11 n_9 (by simp only [bt_Count_L0, h19, cs4])
  refine KS ?_
  refine Oq Vm (Oq Va (KS ?_))
  have hq := q4 hrr n_9 (by simp only [bt_Count, h6, h19, hg4, hR28, cs4]); subst hq
  exact Kr () rfl (.tmp rfl .nil) [] en
 intro h6
 refine KS ?_
 refine Oq Vm (Oq Va (KS ?_))
 have hq := q4 hrr 0 (by simp only [bt_Count, h6, hg4, cs4]); subst hq
 exact Kr () rfl (.tmp rfl .nil) [] en
theorem fn149 (x : BitVec 64) (rr : Int) (hrr : bits_TrailingZeros64 x = rr) : FT Tryz.prog 149 #[u64 x] [pv (gp 0) (tabV .u8 tzT)] (fun g : Unit => i64ok rr ∧ (0 ≤ rr ∧ rr ≤ 255)) (fun g => vi rr) (fun g => []) := by
 refine FTi Tryz.func149 fun w0 M0 F0 => ?_
 refine KS ?_
 refine Oq Va (KS ?_)
 refine Oq Vm (Oq (VeqlU (b := 0#64)) (KS ?_))
 refine Kc ?_ ?_
 ·intro h1
  have g2 := eq_of_beq h1
  refine KS ?_
  refine Oq Va (KS ?_)
  have hq := q4 hrr 64 (by simp only [bits_TrailingZeros64, h1, cs4]); subst hq
  exact Kr () rfl (.tmp rfl .nil) [] en
 intro h1
 have g3 := ne_of_beq_false h1
 refine KS ?_
 refine Oq Vm (Oq Vm (Oq VnegU (Oq VandU (Oq (VmulU (b := 285870213051353865#64)) (Oq VshrU ?_)))))
 have hb4 := shr58 ((x &&& (-x)) * 285870213051353865#64)
 refine Oq (VixG un183 (b := (((x &&& (-x)) * 285870213051353865#64) >>> (((58#64).toNat : Int)).toNat)) (h := hb4)) ?_
 have hb5 := tab_ok (t := tzT) (m := 255) (by decide) (by decide) ((((x &&& (-x)) * 285870213051353865#64) >>> (((58#64).toNat : Int)).toNat).toNat)
 refine Oq (VldT sh5 0 (hm := hb4)) (Oq (VcK un5 un3) (Oq Va (KS ?_)))
 have hq := q4 hrr (tzT.getD ((((x &&& (-x)) * 285870213051353865#64) >>> (((58#64).toNat : Int)).toNat).toNat) 0) (by simp only [bits_TrailingZeros64, h1, cs4]); subst hq
 exact Kr () rfl (.tmp rfl .nil) [] en
theorem fn150 (s : List Int) (sa0 : Option Addr) (sk0 : Nat) (rr : List Int) (hrr : sc_Clip_int s = rr) : FT Tryz.prog 150 #[vl sa0 sk0 s] [S sa0 sk0 s] (fun g : Value => (rr.length = s.length)) (fun g => g) (fun g => [sl g rr]) := by
 refine FTi Tryz.func150 fun w0 M0 F0 => Fb 8 0 fun _ => Fo 0 fun ho2 => ?_
 refine KS ?_
 refine Oq Va (KS ?_)
 refine Oq Vm (Oq Vm (Oq (Vlen sl22) (Oq Vm (Oq (Vlen sl22) (Oa (OpA.frame [0] rfl (OpA.sliceSl3 0 ((s.length : Int).toNat) ((s.length : Int).toNat) rfl rfl sl22 rfl rfl ⟨_, natc rfl aM1⟩ ⟨_, natc rfl aM1⟩ rng rng rng rng)) fun c3 => ?_)))))
 refine Jo 0 ?_; rintro a4 k5 rfl
 refine Fb 8 0 fun _ => Fo 0 fun ho7 => ?_
 have hn8 : ((s.take ((s.length : Int).toNat)).drop 0).length = ((s.length : Int).toNat) - 0 := len_slice rng rng
 refine Oq Va (KS ?_)
 have hq := q4 hrr ((s.take ((s.length : Int).toNat)).drop 0) (by simp only [sc_Clip_int, cs4]); subst hq
 exact Kr (.slice a4 (((s.take ((s.length : Int).toNat)).drop 0).length) k5) rfl (.tmp rfl .nil) [0] (by rw [← hrr]; unfold sc_Clip_int; simp)
theorem fn116 (s : GSet) (sa1 : Option Addr) (sk1 : Nat) (hs_0 : i64ok s.Width) (rr : List Int) (hrr : bt_Members s = rr) : FT Tryz.prog 116 #[.agg #[vi s.Width, vl sa1 sk1 s.Words]] [S sa1 sk1 s.Words, pv (gp 0) (tabV .u8 tzT)] (fun g : Value => True) (fun g => g) (fun g => [sl g rr]) := by
 refine FTi Tryz.func116 fun w0 M0 F0 => ?_
 unfold i64ok at hs_0
 refine Fb 8 0 fun _ => KS ?_
 refine Oa (Ab [vi s.Width, vl sa1 sk1 s.Words]) fun p2 => Oq Va (KS ?_)
 refine Oq (VldA sh39 0) ?_
 refine letv (bt_Valid s) fun rv3 hg4 => ?_
 have hc5 := fn72 s sa1 sk1 pre rv3 hg4
 refine Oc [1] ca72 hc5 ?_
 rintro - -
 refine Oq Vnot (KS ?_)
 refine Kc ?_ ?_
 ·intro h6
  have h8 := not_true h6
  refine KS ?_
  refine Oq Va (KS ?_)
  refine Jl [] (Ent.slNil (α := Int)) ?_
  have hq := q4 hrr ([] : List Int) (by simp only [bt_Members, h6, h8, hg4, cs4]); subst hq
  exact Kr (.slice none 0 0) rfl (.tmp rfl .nil) [0] trivial
 intro h6
 have h11 := not_false h6
 have hpw := PV_w (s := s) (by simp only [h6, h11, hg4])
 refine KS ?_
 refine Oq Va (KS ?_)
 refine Oq (Vfa fo39_1 0) (Oq (VldF sh37 0) (Oq (Vlen sl37) (Oq Vm (KS ?_))))
 refine Jl [] (Ent.osNil (α := Int)) ?_
 refine Kl (γ := Nat × List Int × Int × Option Addr × Nat) (fun (r13, out_14, v12_15, a16, k17) => ⟨[(3, vl a16 k17 out_14), (10, vl sa1 sk1 s.Words), (11, vi (s.Words.length : Int)), (12, vi v12_15)], [O a16 k17 out_14, S sa1 sk1 s.Words, pv (gp 0) (tabV .u8 tzT)], bt_Members_L0 s r13 out_14 v12_15 = bt_Members_L0 s (((s.Words.length : Int) - 0).toNat) [] 0 ∧ r13 = ((s.Words.length : Int) - v12_15).toNat ∧ (0 : Int) ≤ v12_15 ∧ v12_15 ≤ (s.Words.length : Int) ∧ (-9223372036854775808 ≤ v12_15 ∧ v12_15 ≤ 9223372036854775807) ∧ ((out_14.length : Int) ≤ 66 * v12_15), r13⟩) (((s.Words.length : Int) - 0).toNat, [], 0, none, 0) [0, 1, 2] ⟨rfl, rfl, aM1, aM1, aM1, iv0⟩ ?_
 rintro ⟨r13, out_14, v12_15, a16, k17⟩ ⟨hM18, hr19, hi20, hi21, hk22, hv23⟩
 refine JJ_nx fun _ _ hL hA => ?_; dsimp only at hL hA; subst hL hA
 refine Fb 8 0 fun _ => Fo 0 fun ho25 => Fb 8 1 fun _ => KS ?_
 refine Oq Vlss (KS ?_)
 refine Kc ?_ ?_
 ·intro h27
  have g28 := dt h27
  obtain ⟨r29, rfl⟩ := scc (n := r13) aM1
  refine KS ?_
  refine Oq Vm (Oq (Vi sl37 1) (Oq (VldU sh68 1) (Oq Va (Oq Va (KS ?_)))))
  have hterm37 : bt_Members_L1 v12_15 66 out_14 (s.Words.getD v12_15.toNat 0#64) ≠ LR.oof := (Mem_t _ _)
  refine Kl (γ := Nat × List Int × BitVec 64 × Option Addr × Nat) (fun (r30, out_31, w_32, a33, k34) => ⟨[(3, vl a33 k34 out_31), (10, vl sa1 sk1 s.Words), (11, vi (s.Words.length : Int)), (12, vi v12_15), (4, vi v12_15), (5, u64 w_32)], [O a33 k34 out_31, S sa1 sk1 s.Words, pv (gp 0) (tabV .u8 tzT)], bt_Members_L1 v12_15 r30 out_31 w_32 = bt_Members_L1 v12_15 66 out_14 (s.Words.getD v12_15.toNat 0#64) ∧ ((out_31.length : Int) + (r30 : Int) ≤ 66 * v12_15 + 66), r30⟩) (66, out_14, (s.Words.getD v12_15.toNat 0#64), a16, k17) [0, 0, 1] ⟨rfl, iv0⟩ ?_
  rintro ⟨r30, out_31, w_32, a33, k34⟩ ⟨hM35, hv36⟩
  refine JJ_nx fun _ _ hL hA => ?_; dsimp only at hL hA; subst hL hA
  refine Fb 8 0 fun _ => Fo 0 fun ho39 => Fb 8 1 fun _ => ?_
  rcases r30 with _ | r30
  ·exact absurd (hM35.symm.trans rfl) hterm37
  refine KS ?_
  refine Oq Vm (Oq (VneqU (b := 0#64)) (KS ?_))
  refine Kc ?_ ?_
  ·intro h41
   have g42 := ne_of_bne h41
   refine KS ?_
   refine Oq Vm (Oq Vm (Oq Vmul (Oq Vm ?_)))
   refine letv (bits_TrailingZeros64 w_32) fun rv43 hg44 => ?_
   have hc45 := fn149 w_32 rv43 hg44
   refine Oc [2] ca149 hc45 ?_
   rintro - ⟨he46, he47⟩
   unfold i64ok at he46
   refine Oq Vadd (Oa (AsV sl22 sz22 [vi ((v12_15 * 64) + rv43)] [vi ((v12_15 * 64) + rv43)]) fun c48 => ?_)
   refine Jo 0 ?_; rintro a49 k50 rfl
   refine Jl [0] (Ent.crInt _ [((v12_15 * 64) + rv43)] _ _ rfl rfl (by intro x hx; rw [List.mem_singleton] at hx; subst hx; unfold i64ok; omega) aB1) ?_
   refine Oa (ApO [1, 0] sl22 sl22 sz22) fun c51 => ?_
   refine Jo 0 ?_; rintro a52 k53 rfl
   refine Fb 8 0 fun _ => Fo 0 fun ho55 => ?_
   have hn56 := la out_31 ([((v12_15 * 64) + rv43)] : List Int)
   refine Oq Va (KS ?_)
   refine Oq Vm (Oq Vm (Oq (VsubU (b := 1#64)) (Oq VandU (Oq Va (KS ?_)))))
   exact Kg (r30, (out_31 ++ [((v12_15 * 64) + rv43)]), (w_32 &&& (w_32 - 1#64)), a52, k53) [0, 0, 1] ⟨(q3 hM35 (by simp only [bt_Members_L1, h41, hg44, cs4])), iv1⟩
  intro h41
  have g57 := eq_of_bne_false h41
  refine Ke ?_
  have hR58 := q2 hM35 (.brk out_31) (by simp only [bt_Members_L1, h41, cs4])
  refine KS ?_
  refine Oq Vadd (Oq Vm (KS ?_))
  exact Kg (r29, out_31, (v12_15 + 1), a33, k34) [0, 0, 1] ⟨(q3 hM18 (by simp only [bt_Members_L0, h27, h41, hR58, cs4])), aM1, aM1, aM1, aM1, iv1⟩
 intro h27
 have g59 := df h27
 obtain rfl : r13 = 0 := by omega
 refine Ke ?_
 have hR60 := q2 hM18 out_14 (by simp only [bt_Members_L0, h27, cs4])
 refine KS ?_
 refine Oq Vm ?_
 refine Jl [0] (Ent.freeze _ _) ?_
 refine letv (sc_Clip_int out_14) fun rv62 hg63 => ?_
 have hc64 := fn150 out_14 a16 k17 rv62 hg63
 refine Oc [0] ca150 hc64 ?_
 rintro c61 he65
 refine Jo 0 ?_; rintro a66 k67 rfl
 refine Fb 8 0 fun _ => Fo 0 fun ho69 => ?_
 refine Oq Va (KS ?_)
 have hq := q4 hrr rv62 (by simp only [bt_Members, h6, h11, h27, hg4, hR60, hg63, cs4]); subst hq
 exact Kr (vl a66 k67 rv62) rfl (.tmp rfl .nil) [0] trivial
theorem fn77 (b : List UInt8) (ba0 : Option Addr) (bk0 : Nat) (s : GSet) (sa1 : Option Addr) (sk1 : Nat) (hs_0 : i64ok s.Width) (hb0 : b.length ≤ 900000) (hv0 : bt_Valid s = true) (rr : List UInt8) (hrr : uvarint_AppendSet b s = rr) : FT Tryz.prog 77 #[vl ba0 bk0 b, .agg #[vi s.Width, vl sa1 sk1 s.Words]] [O ba0 bk0 b, S sa1 sk1 s.Words, pv (gp 0) (tabV .u8 tzT)] (fun g : Value => (rr.length ≤ b.length + 2850)) (fun g => g) (fun g => [os g rr]) := by
 refine FTi Tryz.func77 fun w0 M0 F0 => ?_
 unfold i64ok at hs_0
 refine Fb 1 0 fun _ => Fb 8 1 fun _ => ?_
 have hwd := Valid_wd hv0
 refine KS ?_
 refine Oa (Ab [vi s.Width, vl sa1 sk1 s.Words]) fun p3 => Oq Va (KS ?_)
 refine JK_drawK [0, 0, 2, 7, 0, 31, 63, 127] fmix ?_
 refine Dv [] Vm (Dv [0] (Vfa fo39_0 0) (Dv [0] (VldF sh3 0) ?_))
 refine letv (uvarint_Append b s.Width) fun rv5 hg6 => ?_
 refine Dx [1] [1] [0, 1] (fun G => (G.g 3 0)) [fun G => SP.fact ((rv5.length ≤ b.length + 11)), fun G => os (G.g 3 0) rv5] (fun G => xC [0] ca75 (fn75 b ba0 bk0 s.Width pre pre pre rv5 hg6)) (Dv [0] (VldA sh39 0) ?_)
 refine letv (bt_Count s) fun rv7 hg8 => ?_
 have hco := Count_ok hg8
 refine Dx [2] [] [1, 0] (fun G => vi rv7) [fun G => SP.fact (i64ok rv7)] (fun G => xC [0] ca115 (fn115 s sa1 sk1 pre rv7 hg8)) ?_
 refine letv (uvarint_Append rv5 rv7) fun rv13 hg14 => ?_
 refine Dx [4, 5, 6] [5] [2, 3, 0, 1] (fun G => (G.g 6 0)) [fun G => SP.fact ((rv13.length ≤ rv5.length + 11)), fun G => os (G.g 6 0) rv13] (fun G => by refine xf 0 rfl ?_; rintro he15; refine xf 2 rfl ?_; rintro he16; unfold i64ok at he16; exact xD [1] ca75 rfl rfl rfl (FT_open (γ := Value) (I := fun g => (rv13.length ≤ rv5.length + 11)) (V := fun g => g) (B := fun g => [os g rv13]) (R := os (G.g 3 0) rv5) os_slice (fun aq9 kq10 eq11 => by rw [eq11]; exact FT_ent (Ent.take (is := [0]) rfl) (fn75 rv5 aq9 kq10 rv7 pre pre pre rv13 hg14)))) (Dg [] (fun G => (G.g 6 0)) (fun G => Va) ?_)
 refine Dn ⟨by kernel_rfl, fun G => ?_⟩
 refine Jw2 [(3, p3), (0, (G.g 6 0))] [0, 2, 3] [SP.fact ((rv5.length ≤ b.length + 11)), SP.fact (i64ok rv7), SP.fact ((rv13.length ≤ rv5.length + 11)), os (G.g 6 0) rv13] ?_
 generalize G.g 6 0 = c12
 refine Jf 3 rfl ?_; rintro he17
 refine Jf 4 rfl ?_; rintro he18
 unfold i64ok at he18
 refine Jf 5 rfl ?_; rintro he19
 refine Jk [0, 1, 2, 6] ?_
 refine Jo 3 ?_; rintro a20 k21 rfl
 refine Fb 1 3 fun _ => KS ?_
 refine Oq Va (KS ?_)
 refine Oq (VldA sh39 0) ?_
 refine letv (bt_Members s) fun rv24 hg25 => ?_
 have hMA := bMem_asl hg25; have hml := hMA.2.1
 have hc26 := fn116 s sa1 sk1 pre rv24 hg25
 refine Oc [1, 2] ca116 hc26 ?_
 rintro c23 -
 refine Jo 0 ?_; rintro a27 k28 rfl
 refine Fb 8 0 fun _ => Fo 0 fun ho30 => ?_
 refine Oq (Vlen sl22) (Oq Vm (KS ?_))
 refine Kl (γ := Nat × List UInt8 × Int × Int × Option Addr × Nat) (fun (r31, b_32, last_33, v18_34, a35, k36) => ⟨[(0, vl a35 k36 b_32), (5, vi last_33), (16, vl a27 k28 rv24), (17, vi (rv24.length : Int)), (18, vi v18_34)], [O a35 k36 b_32, S a27 k28 rv24, pv (gp 0) (tabV .u8 tzT)], uvarint_AppendSet_L0 rv24 r31 b_32 last_33 v18_34 = uvarint_AppendSet_L0 rv24 (((rv24.length : Int) - 0).toNat) rv13 (-1) 0 ∧ r31 = ((rv24.length : Int) - v18_34).toNat ∧ (0 : Int) ≤ v18_34 ∧ v18_34 ≤ (rv24.length : Int) ∧ (-9223372036854775808 ≤ last_33 ∧ last_33 ≤ 9223372036854775807) ∧ (-9223372036854775808 ≤ v18_34 ∧ v18_34 ≤ 9223372036854775807) ∧ (LS rv24 v18_34 last_33) ∧ ((b_32.length : Int) ≤ (b.length : Int) + 22 + 11 * v18_34), r31⟩) (((rv24.length : Int) - 0).toNat, rv13, -1, 0, a20, k21) [4, 0, 3] ⟨rfl, rfl, aM1, aM1, aM1, aM1, (LS_0 hMA), iv0⟩ ?_
 rintro ⟨r31, b_32, last_33, v18_34, a35, k36⟩ ⟨hM37, hr38, hi39, hi40, hk41, hk42, hv43, hv44⟩
 refine JJ_nx fun _ _ hL hA => ?_; dsimp only at hL hA; subst hL hA
 refine Fb 1 0 fun _ => Fb 8 1 fun _ => Fo 1 fun ho47 => KS ?_
 refine Oq Vlss (KS ?_)
 refine Kc ?_ ?_
 ·intro h48
  have g49 := dt h48
  have hls := LS_get (by assumption : LS _ v18_34 _) aM1 aM1; have hag := MAsc_get (i := v18_34) hMA aM1 aM1
  obtain ⟨r50, rfl⟩ := scc (n := r31) aM1
  refine KS ?_
  refine Oq (Vi sl22 1) ?_
  have hb51 := ok1 (i := v18_34.toNat) ho47 rng
  refine Oq (VldI sh3 1) (Oq Va (KS ?_))
  refine Oq Vm (Oq Vm (Oq Vm (Oq Vsub (Oq Vsub ?_))))
  refine letv (uvarint_Append b_32 (((rv24.getD v18_34.toNat 0) - last_33) - 1)) fun rv53 hg54 => ?_
  have hc55 := fn75 b_32 a35 k36 ((((rv24.getD v18_34.toNat 0) - last_33) - 1)) pre pre pre rv53 hg54
  refine Oc [0] ca75 hc55 ?_
  rintro c52 he56
  refine Jo 0 ?_; rintro a57 k58 rfl
  refine Fb 1 0 fun _ => ?_
  refine Oq Va (KS ?_)
  refine Oq Vm (Oq Va (KS ?_))
  refine Oq Vadd (Oq Vm (KS ?_))
  exact Kg (r50, rv53, (rv24.getD v18_34.toNat 0), (v18_34 + 1), a57, k58) [0, 0, 1] ⟨(q3 hM37 (by simp only [uvarint_AppendSet_L0, h48, hg54, cs4])), aM1, aM1, aM1, aM1, aM1, (LS_step hMA aM1 aM1), iv1⟩
 intro h48
 have g60 := df h48
 obtain rfl : r31 = 0 := by omega
 refine Ke ?_
 have hR61 := q2 hM37 b_32 (by simp only [uvarint_AppendSet_L0, h48, cs4])
 refine KS ?_
 refine Oq Vm (Oq Va (KS ?_))
 have hq := q4 hrr b_32 (by simp only [uvarint_AppendSet, h48, hg6, hg8, hg14, hg25, hR61, cs4]); subst hq
 exact Kr (vl a35 k36 b_32) rfl (.tmp rfl .nil) [0] en
theorem fn46 (b : List UInt8) (ba0 : Option Addr) (bk0 : Nat) (st : GState) (sta1 : Option Addr) (stk1 : Nat) (sta2 : Option Addr) (stk2 : Nat) (sta5 : Option Addr) (stk5 : Nat) (sta6 : Option Addr) (stk6 : Nat) (hst_0 : i64ok st.Phase) (hst_3 : i64ok st.At) (hst_4 : i64ok st.Edge) (hst_7 : i64ok st.Steps) (hb0 : b.length ≤ 100) (he0 : EO st) (rr : List UInt8) (hrr : resume_Append b st = rr) : FT Tryz.prog 46 #[vl ba0 bk0 b, .agg #[vi st.Phase, vl sta1 stk1 st.Cone, vl sta2 stk2 st.Leaf, vi st.At, vi st.Edge, vl sta5 stk5 st.Values, vl sta6 stk6 st.Queue, vi st.Steps]] [O ba0 bk0 b, S sta1 stk1 st.Cone, S sta2 stk2 st.Leaf, S sta5 stk5 st.Values, S sta6 stk6 st.Queue, pv (gp 0) (tabV .u8 tzT)] (fun g : Value => (rr.length ≤ 800000)) (fun g => g) (fun g => [os g rr]) := by
 refine FTi Tryz.func46 fun w0 M0 F0 => ?_
 unfold i64ok at hst_0 hst_3 hst_4 hst_7
 refine Fb 1 0 fun _ => Fb 8 1 fun _ => Fo 1 fun ho3 => Fb 1 2 fun _ => Fb 32 3 fun _ => Fb 8 4 fun _ => Fo 4 fun ho7 => ?_
 have h_cl := he0.cl
 have h_vl := he0.vl
 have h_ll := he0.ll
 have h_ql := he0.ql
 have h_ph := he0.ph
 have h_ac := he0.ac
 have h_ec := he0.ec
 have h_sc := he0.sc
 refine KS ?_
 refine Oa (Ab [vi st.Phase, vl sta1 stk1 st.Cone, vl sta2 stk2 st.Leaf, vi st.At, vi st.Edge, vl sta5 stk5 st.Values, vl sta6 stk6 st.Queue, vi st.Steps]) fun p8 => Oq Va (KS ?_)
 refine JK_drawK [0, 0, 2, 7, 0, 16, 63, 127] fmix ?_
 refine Dv [] Vm (Dv [0] (Vfa fo26_0 0) (Dv [0] (VldF sh3 0) ?_))
 refine letv (uvarint_Append b st.Phase) fun rv10 hg11 => ?_
 refine Dx [1] [1] [0, 1] (fun G => (G.g 3 0)) [fun G => SP.fact ((rv10.length ≤ b.length + 11)), fun G => os (G.g 3 0) rv10] (fun G => xC [0] ca75 (fn75 b ba0 bk0 st.Phase pre pre (by first | omega | exact (he0.cc _ (getD_mem aM1)).1 | exact (he0.qc _ (getD_mem aM1)).1 | exact tri_nn aM1 aM1 aM1 _) rv10 hg11)) (Dv [0] (Vfa fo26_1 0) (Dv [0] (VldF sh22 0) ?_))
 refine letv (uvarint_AppendNumbers rv10 st.Cone) fun rv16 hg17 => ?_
 refine Dx [2, 7, 8] [8] [2, 3, 0, 1] (fun G => (G.g 6 0)) [fun G => SP.fact ((rv16.length ≤ rv10.length + 2830)), fun G => os (G.g 6 0) rv16] (fun G => by refine xf 1 rfl ?_; rintro he18; exact xD [2, 0] ca74 rfl rfl rfl (FT_open (γ := Value) (I := fun g => (rv16.length ≤ rv10.length + 2830)) (V := fun g => g) (B := fun g => [os g rv16]) (R := os (G.g 3 0) rv10) os_slice (fun aq12 kq13 eq14 => by rw [eq14]; exact FT_ent (Ent.take (is := [0, 0]) rfl) (fn74 rv10 aq12 kq13 st.Cone sta1 stk1 pre (by first | exact ⟨by omega, fun x hx => (he0.cc x hx).1⟩ | exact ⟨by omega, fun x hx => (he0.qc x hx).1⟩) rv16 hg17)))) (Dg [] (fun G => (G.g 6 0)) (fun G => Va) ?_)
 refine Dn ⟨by kernel_rfl, fun G => ?_⟩
 refine Jw2 [(3, p8), (0, (G.g 6 0))] [0, 2, 3, 4, 5, 6] [SP.fact ((rv10.length ≤ b.length + 11)), SP.fact ((rv16.length ≤ rv10.length + 2830)), os (G.g 6 0) rv16] ?_
 generalize G.g 6 0 = c15
 refine Jf 6 rfl ?_; rintro he19
 refine Jf 7 rfl ?_; rintro he20
 refine Jk [0, 1, 2, 3, 4, 5, 8] ?_
 refine Jo 6 ?_; rintro a21 k22 rfl
 refine Fb 1 6 fun _ => KS ?_
 refine Oq (Vfa fo26_2 0) (Oq (VldF sh23 0) (Oq (Vlen sl23) (Oq Vm (KS ?_))))
 refine Kl (γ := Nat × List UInt8 × Int × Option Addr × Nat) (fun (r24, b_25, v21_26, a27, k28) => ⟨[(3, p8), (0, vl a27 k28 b_25), (19, vl sta2 stk2 st.Leaf), (20, vi (st.Leaf.length : Int)), (21, vi v21_26)], [O a27 k28 b_25, pv p8 [vi st.Phase, vl sta1 stk1 st.Cone, vl sta2 stk2 st.Leaf, vi st.At, vi st.Edge, vl sta5 stk5 st.Values, vl sta6 stk6 st.Queue, vi st.Steps], S sta1 stk1 st.Cone, S sta2 stk2 st.Leaf, S sta5 stk5 st.Values, S sta6 stk6 st.Queue, pv (gp 0) (tabV .u8 tzT)], resume_Append_L0 st r24 b_25 v21_26 = resume_Append_L0 st (((st.Leaf.length : Int) - 0).toNat) rv16 0 ∧ r24 = ((st.Leaf.length : Int) - v21_26).toNat ∧ (0 : Int) ≤ v21_26 ∧ v21_26 ≤ (st.Leaf.length : Int) ∧ (-9223372036854775808 ≤ v21_26 ∧ v21_26 ≤ 9223372036854775807) ∧ ((b_25.length : Int) ≤ 3000 + v21_26), r24⟩) (((st.Leaf.length : Int) - 0).toNat, rv16, 0, a21, k22) [6, 0, 1, 2, 3, 4, 5] ⟨rfl, rfl, aM1, aM1, aM1, iv0⟩ ?_
 rintro ⟨r24, b_25, v21_26, a27, k28⟩ ⟨hM29, hr30, hi31, hi32, hk33, hv34⟩
 refine JJ_nx fun _ _ hL hA => ?_; dsimp only at hL hA; subst hL hA
 refine Fb 1 0 fun _ => Fb 8 2 fun _ => Fo 2 fun ho37 => Fb 1 3 fun _ => Fb 32 4 fun _ => Fb 8 5 fun _ => Fo 5 fun ho41 => KS ?_
 refine Oq Vlss (KS ?_)
 refine Kc ?_ ?_
 ·intro h42
  have g43 := dt h42
  obtain ⟨r44, rfl⟩ := scc (n := r24) aM1
  refine KS ?_
  refine Oq (Vi sl23 3) (Oq (VldB sh4 3) (Oq Va (KS ?_)))
  refine Oq Vm (Oq Vm ?_)
  refine letv (uvarint_AppendBool b_25 (st.Leaf.getD v21_26.toNat false)) fun rv46 hg47 => ?_
  have hc48 := fn76 b_25 a27 k28 ((st.Leaf.getD v21_26.toNat false)) pre rv46 hg47
  refine Oc [0] ca76 hc48 ?_
  rintro c45 he49
  refine Jo 0 ?_; rintro a50 k51 rfl
  refine Fb 1 0 fun _ => ?_
  refine Oq Va (KS ?_)
  refine Oq Vadd (Oq Vm (KS ?_))
  exact Kg (r44, rv46, (v21_26 + 1), a50, k51) [0, 0, 1, 2, 3, 4, 5] ⟨(q3 hM29 (by simp only [resume_Append_L0, h42, hg47, cs4])), aM1, aM1, aM1, aM1, iv1⟩
 intro h42
 have g53 := df h42
 obtain rfl : r24 = 0 := by omega
 refine Ke ?_
 have hR54 := q2 hM29 b_25 (by simp only [resume_Append_L0, h42, cs4])
 refine KS ?_
 refine Oq (Vfa fo26_3 1) (Oq (VldF sh3 1) (Oq (Vfa fo26_4 1) (Oq (VldF sh3 1) (Oq (Vfa fo26_5 1) (Oq (VldF sh24 1) (Oq (Vlen sl24) (Oa (AsV sl22 sz22 [vi st.At, vi st.Edge, vi (st.Values.length : Int)] [vi st.At, vi st.Edge, vi (st.Values.length : Int)]) fun c55 => ?_)))))))
 refine Jo 0 ?_; rintro a56 k57 rfl
 refine Oq (Vlen sl22) (Oq Vm (KS ?_))
 refine Jl [0] (Ent.crInt _ [st.At, st.Edge, (st.Values.length : Int)] _ _ rfl rfl (by intro x hx; simp only [List.mem_cons, List.not_mem_nil, or_false] at hx; rcases hx with rfl | rfl | rfl <;> (unfold i64ok; omega)) aB1) ?_
 refine Fb 8 0 fun _ => Fo 0 fun ho59 => ?_
 refine Kl (γ := Nat × List UInt8 × Int × Option Addr × Nat) (fun (r60, b_61, v38_62, a63, k64) => ⟨[(3, p8), (0, vl a63 k64 b_61), (36, .slice a56 3 k57), (37, vi ((3 : Nat) : Int)), (38, vi v38_62)], [O a63 k64 b_61, os (.slice a56 3 k57) ([st.At, st.Edge, (st.Values.length : Int)] : List Int), pv p8 [vi st.Phase, vl sta1 stk1 st.Cone, vl sta2 stk2 st.Leaf, vi st.At, vi st.Edge, vl sta5 stk5 st.Values, vl sta6 stk6 st.Queue, vi st.Steps], S sta1 stk1 st.Cone, S sta2 stk2 st.Leaf, S sta5 stk5 st.Values, S sta6 stk6 st.Queue, pv (gp 0) (tabV .u8 tzT)], resume_Append_L1 st r60 b_61 v38_62 = resume_Append_L1 st (((((3 : Nat) : Int) : Int) - 0).toNat) b_25 0 ∧ r60 = ((((3 : Nat) : Int) : Int) - v38_62).toNat ∧ (0 : Int) ≤ v38_62 ∧ (v38_62 ≤ ((3 : Nat) : Int) ∨ v38_62 = 0) ∧ (-9223372036854775808 ≤ v38_62 ∧ v38_62 ≤ 9223372036854775807) ∧ ((b_61.length : Int) ≤ 3300 + 11 * v38_62), r60⟩) (((((3 : Nat) : Int) : Int) - 0).toNat, b_25, 0, a27, k28) [1, 0, 0, 1, 2, 3, 4, 5] ⟨rfl, rfl, aM1, (.inr rfl), aM1, iv0⟩ ?_
 rintro ⟨r60, b_61, v38_62, a63, k64⟩ ⟨hM65, hr66, hi67, hi68, hk69, hv70⟩
 refine JJ_nx fun _ _ hL hA => ?_; dsimp only at hL hA; subst hL hA
 refine Fb 1 0 fun _ => Fb 8 1 fun _ => Fo 1 fun ho73 => Fl 1 fun hn74 => ?_
 refine Fb 8 3 fun _ => Fo 3 fun ho76 => Fb 1 4 fun _ => Fb 32 5 fun _ => Fb 8 6 fun _ => Fo 6 fun ho80 => KS ?_
 refine Oq Vlss (KS ?_)
 refine Kc ?_ ?_
 ·intro h81
  have g82 := dt h81
  obtain ⟨r83, rfl⟩ := scc (n := r60) aM1
  refine KS ?_
  refine Oq (Vi sl22 1) ?_
  have hb84 := ok1 (i := v38_62.toNat) ho73 rng
  refine Oq (VldI sh3 1) (Oq Va (KS ?_))
  refine Oq Vm (Oq Vm ?_)
  refine letv (uvarint_Append b_61 ([st.At, st.Edge, (st.Values.length : Int)].getD v38_62.toNat 0)) fun rv86 hg87 => ?_
  have hc88 := fn75 b_61 a63 k64 (([st.At, st.Edge, (st.Values.length : Int)].getD v38_62.toNat 0)) pre pre (by first | omega | exact (he0.cc _ (getD_mem aM1)).1 | exact (he0.qc _ (getD_mem aM1)).1 | exact tri_nn aM1 aM1 aM1 _) rv86 hg87
  refine Oc [0] ca75 hc88 ?_
  rintro c85 he89
  refine Jo 0 ?_; rintro a90 k91 rfl
  refine Fb 1 0 fun _ => ?_
  refine Oq Va (KS ?_)
  refine Oq Vadd (Oq Vm (KS ?_))
  exact Kg (r83, rv86, (v38_62 + 1), a90, k91) [0, 0, 0, 1, 2, 3, 4, 5] ⟨(q3 hM65 (by simp only [resume_Append_L1, h81, hg87, cs4])), aM1, aM1, aM1, aM1, iv1⟩
 intro h81
 have g93 := df h81
 obtain rfl : r60 = 0 := by omega
 refine Ke ?_
 have hR94 := q2 hM65 b_61 (by simp only [resume_Append_L1, h81, cs4])
 refine KS ?_
 refine Oq (Vfa fo26_5 2) (Oq (VldF sh24 2) (Oq (Vlen sl24) (Oq Vm (KS ?_))))
 refine Kl (γ := Nat × List UInt8 × Int × Option Addr × Nat) (fun (r95, b_96, v49_97, a98, k99) => ⟨[(3, p8), (0, vl a98 k99 b_96), (47, vl sta5 stk5 st.Values), (48, vi (st.Values.length : Int)), (49, vi v49_97)], [O a98 k99 b_96, pv p8 [vi st.Phase, vl sta1 stk1 st.Cone, vl sta2 stk2 st.Leaf, vi st.At, vi st.Edge, vl sta5 stk5 st.Values, vl sta6 stk6 st.Queue, vi st.Steps], S sta1 stk1 st.Cone, S sta2 stk2 st.Leaf, S sta5 stk5 st.Values, S sta6 stk6 st.Queue, pv (gp 0) (tabV .u8 tzT)], resume_Append_L2 st r95 b_96 v49_97 = resume_Append_L2 st (((st.Values.length : Int) - 0).toNat) b_61 0 ∧ r95 = ((st.Values.length : Int) - v49_97).toNat ∧ (0 : Int) ≤ v49_97 ∧ v49_97 ≤ (st.Values.length : Int) ∧ (-9223372036854775808 ≤ v49_97 ∧ v49_97 ≤ 9223372036854775807) ∧ ((b_96.length : Int) ≤ 3400 + 2900 * v49_97), r95⟩) (((st.Values.length : Int) - 0).toNat, b_61, 0, a63, k64) [0, 1, 2, 3, 4, 5, 6] ⟨rfl, rfl, aM1, aM1, aM1, iv0⟩ ?_
 rintro ⟨r95, b_96, v49_97, a98, k99⟩ ⟨hM100, hr101, hi102, hi103, hk104, hv105⟩
 refine JJ_nx fun _ _ hL hA => ?_; dsimp only at hL hA; subst hL hA
 refine Fb 1 0 fun _ => Fb 8 2 fun _ => Fo 2 fun ho108 => Fb 1 3 fun _ => Fb 32 4 fun _ => Fb 8 5 fun _ => Fo 5 fun ho112 => KS ?_
 refine Oq Vlss (KS ?_)
 refine Kc ?_ ?_
 ·intro h113
  have g114 := dt h113
  obtain ⟨r115, rfl⟩ := scc (n := r95) aM1
  refine KS ?_
  refine Oq (Vi sl24 4) ?_
  refine JJ_peek_GSet v49_97.toNat 4 rfl rng fun a116 k117 hb118 => ?_
  unfold i64ok at hb118
  refine Fb 8 1 fun _ => ?_
  refine Oq (VldA sh39 0) (Oa (Al ze39 [vi 0, .slice none 0 0]) fun p120 => Ost (Scl [0] sh39 [vi ((st.Values.getD v49_97.toNat default).Width), vl a116 k117 ((st.Values.getD v49_97.toNat default).Words)]) (KS ?_))
  refine Oq Vm (Oq (VldA sh39 0) ?_)
  refine letv (uvarint_AppendSet b_96 (st.Values.getD v49_97.toNat default)) fun rv122 hg123 => ?_
  have hc124 := fn77 b_96 a98 k99 ((st.Values.getD v49_97.toNat default)) a116 k117 pre pre (he0.vv _ (getD_mem aM1)) rv122 hg123
  refine Oc [3, 2, 8] ca77 hc124 ?_
  rintro c121 he125
  refine Jo 0 ?_; rintro a126 k127 rfl
  refine Fb 1 0 fun _ => ?_
  refine Oq Va (KS ?_)
  refine Oq Vadd (Oq Vm (KS ?_))
  exact Kg (r115, rv122, (v49_97 + 1), a126, k127) [0, 3, 4, 5, 6, 7, 8] ⟨(q3 hM100 (by simp only [resume_Append_L2, h113, hg123, cs4])), aM1, aM1, aM1, aM1, iv1⟩
 intro h113
 have g129 := df h113
 obtain rfl : r95 = 0 := by omega
 refine Ke ?_
 have hR130 := q2 hM100 b_96 (by simp only [resume_Append_L2, h113, cs4])
 refine KS ?_
 refine JK_drawK [0, 0, 2, 7, 0, 16, 63, 127] fmix ?_
 refine Dv [] Vm (Dv [1] (Vfa fo26_6 0) (Dv [1] (VldF sh22 0) ?_))
 refine letv (uvarint_AppendNumbers b_96 st.Queue) fun rv132 hg133 => ?_
 refine Dx [0, 5] [0] [2, 0, 1] (fun G => (G.g 3 0)) [fun G => SP.fact ((rv132.length ≤ b_96.length + 2830)), fun G => os (G.g 3 0) rv132] (fun G => xC [0, 0] ca74 (fn74 b_96 a98 k99 st.Queue sta6 stk6 pre (by first | exact ⟨by omega, fun x hx => (he0.cc x hx).1⟩ | exact ⟨by omega, fun x hx => (he0.qc x hx).1⟩) rv132 hg133)) (Dv [1] (Vfa fo26_7 0) (Dv [1] (VldF sh3 0) ?_))
 refine letv (uvarint_Append rv132 st.Steps) fun rv138 hg139 => ?_
 refine Dx [7, 8] [8] [2, 0, 1] (fun G => (G.g 6 0)) [fun G => SP.fact ((rv138.length ≤ rv132.length + 11)), fun G => os (G.g 6 0) rv138] (fun G => by refine xf 0 rfl ?_; rintro he140; exact xD [1] ca75 rfl rfl rfl (FT_open (γ := Value) (I := fun g => (rv138.length ≤ rv132.length + 11)) (V := fun g => g) (B := fun g => [os g rv138]) (R := os (G.g 3 0) rv132) os_slice (fun aq134 kq135 eq136 => by rw [eq136]; exact FT_ent (Ent.take (is := [0]) rfl) (fn75 rv132 aq134 kq135 st.Steps pre pre (by first | omega | exact (he0.cc _ (getD_mem aM1)).1 | exact (he0.qc _ (getD_mem aM1)).1 | exact tri_nn aM1 aM1 aM1 _) rv138 hg139)))) (Dg [] (fun G => (G.g 6 0)) (fun G => Va) ?_)
 refine Dn ⟨by kernel_rfl, fun G => ?_⟩
 refine Jw2 [(4, (G.g 6 0))] [1, 2, 3, 4, 5, 6] [SP.fact ((rv132.length ≤ b_96.length + 2830)), SP.fact ((rv138.length ≤ rv132.length + 11)), os (G.g 6 0) rv138] ?_
 generalize G.g 6 0 = c137
 refine Jf 6 rfl ?_; rintro he141
 refine Jf 7 rfl ?_; rintro he142
 refine Jk [0, 1, 2, 3, 4, 5, 8] ?_
 refine Jo 6 ?_; rintro a143 k144 rfl
 refine Fb 1 6 fun _ => ?_
 have hq := q4 hrr rv138 (by simp only [resume_Append, h42, h81, h113, hg11, hg17, hR54, hR94, hR130, hg133, hg139, cs4]); subst hq
 exact Kr (vl a143 k144 rv138) rfl (.tmp rfl .nil) [6] en
theorem fn21 (st : GState) (sta1 : Option Addr) (stk1 : Nat) (sta2 : Option Addr) (stk2 : Nat) (sta5 : Option Addr) (stk5 : Nat) (sta6 : Option Addr) (stk6 : Nat) (hst_0 : i64ok st.Phase) (hst_3 : i64ok st.At) (hst_4 : i64ok st.Edge) (hst_7 : i64ok st.Steps) (rr : List UInt8 × Int) (hrr : resume_Encode st = rr) : FT Tryz.prog 21 #[.agg #[vi st.Phase, vl sta1 stk1 st.Cone, vl sta2 stk2 st.Leaf, vi st.At, vi st.Edge, vl sta5 stk5 st.Values, vl sta6 stk6 st.Queue, vi st.Steps]] [S sta1 stk1 st.Cone, S sta2 stk2 st.Leaf, S sta5 stk5 st.Values, S sta6 stk6 st.Queue, pv (gp 0) (tabV .u8 tzT)] (fun g : Value => i64ok rr.2 ∧ (rr.1.length ≤ 800004)) (fun g => .tuple #[g, vi rr.2]) (fun g => [os g rr.1]) := by
 refine FTi Tryz.func21 fun w0 M0 F0 => ?_
 unfold i64ok at hst_0 hst_3 hst_4 hst_7
 refine Fb 8 0 fun _ => Fo 0 fun ho2 => Fb 1 1 fun _ => Fb 32 2 fun _ => Fb 8 3 fun _ => Fo 3 fun ho6 => KS ?_
 refine Oa (Ab [vi st.Phase, vl sta1 stk1 st.Cone, vl sta2 stk2 st.Leaf, vi st.At, vi st.Edge, vl sta5 stk5 st.Values, vl sta6 stk6 st.Queue, vi st.Steps]) fun p7 => Oq Va (Oq Va (KS ?_))
 refine Oq (VldA sh26 0) ?_
 refine letv (resume_encodable st) fun rv8 hg9 => ?_
 have hc10 := fn44 st sta1 stk1 sta2 stk2 sta5 stk5 sta6 stk6 pre pre pre pre rv8 hg9
 refine Oc [1, 2, 3, 4] ca44 hc10 ?_
 rintro - -
 refine Oq Vnot (KS ?_)
 refine Kc ?_ ?_
 ·intro h11
  have h13 := not_true h11
  refine KS ?_
  refine Oq Va (Oq Va (KS ?_))
  refine Jl [] (Ent.osNil (α := UInt8)) ?_
  have hq := q4 hrr (([] : List UInt8), 1) (by simp only [resume_Encode, h11, h13, hg9, cs4]); subst hq
  exact Kr (.slice none 0 0) rfl (.tmp rfl (.tmp rfl .nil)) [0] en
 intro h11
 have h16 := not_false h11
 have heo := encodable_EO (by assumption) h11
 refine KS ?_
 refine Oq (VldA sh26 0) ?_
 refine Jl [] (Ent.osNil (α := UInt8)) ?_
 refine letv (resume_Append ([] : List UInt8) st) fun rv19 hg20 => ?_
 have hc21 := fn46 (([] : List UInt8)) none 0 st sta1 stk1 sta2 stk2 sta5 stk5 sta6 stk6 pre pre pre pre pre heo rv19 hg20
 refine Oc [0, 1, 2, 3, 4, 5] ca46 hc21 ?_
 rintro c18 he22
 refine Jo 0 ?_; rintro a23 k24 rfl
 refine Fb 1 0 fun _ => ?_
 refine letv (uvarint_Seal rv19) fun rv27 hg28 => ?_
 have hc29 := fn45 rv19 a23 k24 pre rv27 hg28
 refine Oc [0] ca45 hc29 ?_
 rintro c26 he30
 refine Jo 0 ?_; rintro a31 k32 rfl
 refine Fb 1 0 fun _ => ?_
 refine Oq Va (Oq Va (KS ?_))
 have hq := q4 hrr (rv27, 0) (by simp only [resume_Encode, h11, h16, hg9, hg20, hg28, cs4]); subst hq
 exact Kr (vl a31 k32 rv27) rfl (.tmp rfl (.tmp rfl .nil)) [0] en
def lay156_ren : Go.Shelf.Ren := ⟨(fun n => match n with | 156 => 55 | 165 => 100 | 166 => 101 | 169 => 102 | 240 => 139 | 241 => 140 | 276 => 169 | 277 => 170 | _ => 0), (fun n => match n with | 0 => 0 | 3 => 3 | 4 => 4 | 5 => 5 | 9 => 9 | 20 => 20 | 31 => 94 | 37 => 44 | 70 => 127 | 72 => 129 | 75 => 132 | 76 => 133 | 80 => 135 | 127 => 156 | 164 => 176 | _ => 0), (fun _ => 0)⟩
theorem lay156 : Go.Proofs.Lays.n156 Tryz.prog lay156_ren where
 mixed := by kernel_rfl
 f156 := by kernel_rfl
 f165 := by kernel_rfl
 f166 := by kernel_rfl
 f169 := by kernel_rfl
 f240 := by kernel_rfl
 f241 := by kernel_rfl
 f276 := by kernel_rfl
 f277 := by kernel_rfl
 t0 := by kernel_rfl
 a0 := fun w => rfl
 z0 := fun w => rfl
 v0 := fun w => rfl
 t3 := by kernel_rfl
 a3 := fun w => rfl
 z3 := fun w => rfl
 v3 := fun w => rfl
 t4 := by kernel_rfl
 a4 := fun w => rfl
 z4 := fun w => rfl
 v4 := fun w => rfl
 t9 := by kernel_rfl
 a9 := fun w => rfl
 z9 := fun w => rfl
 v9 := fun w => rfl
 t20 := by kernel_rfl
 a20 := fun w => rfl
 z20 := fun w => rfl
 v20 := fun w => rfl
 t31 := by kernel_rfl
 a31 := fun w => rfl
 z31 := fun w => rfl
 v31 := fun w => rfl
 t37 := by kernel_rfl
 a37 := fun w => rfl
 z37 := fun w => rfl
 v37 := fun w => rfl
 t70 := by kernel_rfl
 a70 := fun w => rfl
 z70 := fun w => rfl
 v70 := fun w => rfl
 t72 := by kernel_rfl
 a72 := fun w => rfl
 z72 := fun w => rfl
 v72 := fun w => rfl
 t75 := by kernel_rfl
 a75 := fun w => rfl
 z75 := fun w => rfl
 v75 := fun w => rfl
 t76 := by kernel_rfl
 a76 := fun w => rfl
 z76 := fun w => rfl
 v76 := fun w => rfl
 t127 := by kernel_rfl
 a127 := fun w => rfl
 z127 := fun w => rfl
 v127 := fun w => rfl
 t164 := by kernel_rfl
 a164 := fun w => rfl
 z164 := fun w => rfl
 v164 := fun w => rfl
theorem lay156x : Go.Proofs.Builder.Extra Tryz.prog lay156_ren where
 sizeBuilder := by kernel_rfl
 liesBuilder := by kernel_rfl
 t5 := by kernel_rfl
 a5 := fun w => rfl
 z5 := fun w => rfl
 v5 := fun w => rfl
 infoByte := by kernel_rfl
 cellsByte := by kernel_rfl
 sizeByte := by kernel_rfl
 neB5 := by decide
theorem fn55 (elems : List Str) (elemsa0 : Option Addr) (elemsk0 : Nat) (sep : Str) (hsep_0 : sep.b.length ≤ 140737488355328) (hj0 : (joinS elems sep).b.length ≤ 140737488355328) (rr : Str) (hrr : strings_Join elems sep = rr) : FT Tryz.prog 55 #[vl elemsa0 elemsk0 elems, .string (bs sep)] [S elemsa0 elemsk0 elems] (fun g : Unit => rr.b.length ≤ 140737488355328) (fun g => .string (bs rr)) (fun g => []) := by
 have hm : strings_Join elems sep = joinS elems sep := rfl
 rw [hm] at hrr
 subst hrr
 exact FT_join (fun bk o c xs sep w h1 h2 h3 h4 h5 => Go.Proofs.Any.strings_Join lay156 lay156x bk o c xs sep w h1 h2 h3 h4 h5) (fun a c sep w => Go.Proofs.Any.strings_Join_none lay156 lay156x a c sep w) elemsa0 elemsk0 elems sep hj0
def lay171_ren : Go.Shelf.Ren := ⟨(fun n => match n with | 129 => 144 | 171 => 56 | 243 => 103 | 246 => 141 | 283 => 171 | 284 => 172 | 285 => 173 | 286 => 174 | 317 => 183 | 318 => 184 | 319 => 185 | 320 => 186 | 337 => 192 | 338 => 149 | _ => 0), (fun n => match n with | 0 => 0 | 2 => 2 | 3 => 3 | 4 => 4 | 5 => 5 | 9 => 9 | 20 => 20 | 37 => 44 | 46 => 69 | 51 => 78 | 53 => 68 | 171 => 179 | 173 => 181 | 212 => 189 | 213 => 190 | 232 => 193 | 233 => 183 | _ => 0), (fun n => match n with | 17 => 2 | 18 => 3 | 19 => 0 | _ => 0)⟩
theorem lay171 : Go.Proofs.LaysM.n171 Tryz.prog lay171_ren where
 mixed := by kernel_rfl
 f129 := by kernel_rfl
 f171 := by kernel_rfl
 f243 := by kernel_rfl
 f246 := by kernel_rfl
 f283 := by kernel_rfl
 f284 := by kernel_rfl
 f285 := by kernel_rfl
 f286 := by kernel_rfl
 f317 := by kernel_rfl
 f318 := by kernel_rfl
 f319 := by kernel_rfl
 f320 := by kernel_rfl
 f337 := by kernel_rfl
 f338 := by kernel_rfl
 t0 := by kernel_rfl
 a0 := fun w => rfl
 z0 := fun w => rfl
 v0 := fun w => rfl
 t2 := by kernel_rfl
 a2 := fun w => rfl
 z2 := fun w => rfl
 v2 := fun w => rfl
 t3 := by kernel_rfl
 a3 := fun w => rfl
 z3 := fun w => rfl
 v3 := fun w => rfl
 t4 := by kernel_rfl
 a4 := fun w => rfl
 z4 := fun w => rfl
 v4 := fun w => rfl
 t5 := by kernel_rfl
 a5 := fun w => rfl
 z5 := fun w => rfl
 v5 := fun w => rfl
 t9 := by kernel_rfl
 a9 := fun w => rfl
 z9 := fun w => rfl
 v9 := fun w => rfl
 t20 := by kernel_rfl
 a20 := fun w => rfl
 z20 := fun w => rfl
 v20 := fun w => rfl
 t37 := by kernel_rfl
 a37 := fun w => rfl
 z37 := fun w => rfl
 v37 := fun w => rfl
 t46 := by kernel_rfl
 a46 := fun w => rfl
 z46 := fun w => rfl
 v46 := fun w => rfl
 t51 := by kernel_rfl
 a51 := fun w => rfl
 z51 := fun w => rfl
 v51 := fun w => rfl
 t53 := by kernel_rfl
 a53 := fun w => rfl
 z53 := fun w => rfl
 v53 := fun w => rfl
 t171 := by kernel_rfl
 a171 := fun w => rfl
 z171 := fun w => rfl
 v171 := fun w => rfl
 t173 := by kernel_rfl
 a173 := fun w => rfl
 z173 := fun w => rfl
 v173 := fun w => rfl
 t212 := by kernel_rfl
 a212 := fun w => rfl
 z212 := fun w => rfl
 v212 := fun w => rfl
 t213 := by kernel_rfl
 a213 := fun w => rfl
 z213 := fun w => rfl
 t232 := by kernel_rfl
 a232 := fun w => rfl
 z232 := fun w => rfl
 v232 := fun w => rfl
 t233 := by kernel_rfl
 a233 := fun w => rfl
 z233 := fun w => rfl
 v233 := fun w => rfl
 g17 := by kernel_rfl
 g18 := by kernel_rfl
 g19 := by kernel_rfl
 i0 := by kernel_rfl
 i2 := by kernel_rfl
 i3 := by kernel_rfl
 i4 := by kernel_rfl
 i5 := by kernel_rfl
 i9 := by kernel_rfl
 i20 := by kernel_rfl
 i37 := by kernel_rfl
 i46 := by kernel_rfl
 i51 := by kernel_rfl
 i53 := by kernel_rfl
 i171 := by kernel_rfl
 i173 := by kernel_rfl
 i212 := by kernel_rfl
 i232 := by kernel_rfl
 i233 := by kernel_rfl
 m17 := by kernel_rfl
 m18 := by kernel_rfl
 m19 := by kernel_rfl
theorem fn56 (i : Int) (hi_0 : i64ok i) (rr : Str) (hrr : st_Itoa i = rr) : FT Tryz.prog 56 #[vi i] [tbx 2 (tabV .u64 pw10)] (fun g : Unit => rr.b.length ≤ 140737488355328 ∧ (rr.b.length ≤ 22)) (fun g => .string (bs rr)) (fun g => []) := by
 have hm : st_Itoa i = itoaS i := rfl
 rw [hm] at hrr
 subst hrr
 exact FT_itoa (g := 2) (t := pw10) (by kernel_rfl) (by decide +kernel) (fun n h0 h1 w htab => Go.Proofs.Any.strconv_Itoa lay171 n h0 h1 w htab) i hi_0
theorem fn29 (st : GState) (sta1 : Option Addr) (stk1 : Nat) (sta2 : Option Addr) (stk2 : Nat) (sta5 : Option Addr) (stk5 : Nat) (sta6 : Option Addr) (stk6 : Nat) (hst_0 : i64ok st.Phase) (hst_3 : i64ok st.At) (hst_4 : i64ok st.Edge) (hst_7 : i64ok st.Steps) (rr : Str) (hrr : resume_Text st = rr) : FT Tryz.prog 29 #[.agg #[vi st.Phase, vl sta1 stk1 st.Cone, vl sta2 stk2 st.Leaf, vi st.At, vi st.Edge, vl sta5 stk5 st.Values, vl sta6 stk6 st.Queue, vi st.Steps]] [S sta1 stk1 st.Cone, S sta2 stk2 st.Leaf, S sta5 stk5 st.Values, S sta6 stk6 st.Queue, tbx 2 (tabV .u64 pw10)] (fun g : Unit => rr.b.length ≤ 140737488355328 ∧ (rr.b.length ≤ 93)) (fun g => .string (bs rr)) (fun g => []) := by
 refine FTi Tryz.func29 fun w0 M0 F0 => ?_
 unfold i64ok at hst_0 hst_3 hst_4 hst_7
 refine Fb 8 0 fun _ => Fo 0 fun ho2 => Fb 1 1 fun _ => Fb 32 2 fun _ => Fb 8 3 fun _ => Fo 3 fun ho6 => KS ?_
 refine Oa (Ab [vi st.Phase, vl sta1 stk1 st.Cone, vl sta2 stk2 st.Leaf, vi st.At, vi st.Edge, vl sta5 stk5 st.Values, vl sta6 stk6 st.Queue, vi st.Steps]) fun p7 => Oq Va (KS ?_)
 refine Oa (AsV sl94 sz94 [.string (bs (Str.mk [63])), .string (bs (Str.mk [100, 101, 109, 97, 110, 100])), .string (bs (Str.mk [115, 111, 108, 118, 101])), .string (bs (Str.mk [100, 111, 110, 101]))] [.string (bs (Str.mk [63])), .string (bs (Str.mk [100, 101, 109, 97, 110, 100])), .string (bs (Str.mk [115, 111, 108, 118, 101])), .string (bs (Str.mk [100, 111, 110, 101]))]) fun c8 => ?_
 refine Jo 0 ?_; rintro a9 k10 rfl
 refine Oq Va (KS ?_)
 refine Oq (Vfa fo26_0 1) (Oq (VldF sh3 1) (Oq Va (KS ?_)))
 refine Oq Vm (Oq Vlss (Oq Vm ?_))
 refine Js 10 ?_ ?_
 ·intro h11
  have g12 := dt h11
  refine Osk (Osk (Osk (Osk (Oq Vpt (KS ?_)))))
  refine Kt (KS ?_)
  refine Oq Va (KS ?_)
  refine JK_drawK [0, 0, 3, 7, 0, 16, 48, 112, 0, 256, 768, 2032, 0, 4096, 12288, 32752, 65535, 131071, 262143, 524287] fmix ?_
  refine Dv [] Vm (Dv [] Vm ?_)
  refine Dx [0] [0] [0] (fun G => (eptr 1 (.slice a9 4 k10) (0 : Int).toNat)) [fun G => os (.slice a9 4 k10) ([(Str.mk [63]), (Str.mk [100, 101, 109, 97, 110, 100]), (Str.mk [115, 111, 108, 118, 101]), (Str.mk [100, 111, 110, 101])] : List Str)] (fun G => xp [0] rfl (Ent.crOs (α := Str) (A := []) _ ([(Str.mk [63]), (Str.mk [100, 101, 109, 97, 110, 100]), (Str.mk [115, 111, 108, 118, 101]), (Str.mk [100, 111, 110, 101])] : List Str) _ aB1 (fun h => ⟨[.string (bs (Str.mk [63]))], [.string (bs (Str.mk [100, 101, 109, 97, 110, 100])), .string (bs (Str.mk [115, 111, 108, 118, 101])), .string (bs (Str.mk [100, 111, 110, 101]))], rfl, (fun _ => ⟨rfl, by first | omega | (simp; done) | (dsimp only; omega) | exact lit_bl rfl⟩) h, ⟨[.string (bs (Str.mk [100, 101, 109, 97, 110, 100]))], [.string (bs (Str.mk [115, 111, 108, 118, 101])), .string (bs (Str.mk [100, 111, 110, 101]))], rfl, (fun _ => ⟨rfl, by first | omega | (simp; done) | (dsimp only; omega) | exact lit_bl rfl⟩) h, ⟨[.string (bs (Str.mk [115, 111, 108, 118, 101]))], [.string (bs (Str.mk [100, 111, 110, 101]))], rfl, (fun _ => ⟨rfl, by first | omega | (simp; done) | (dsimp only; omega) | exact lit_bl rfl⟩) h, ⟨[.string (bs (Str.mk [100, 111, 110, 101]))], [], rfl, (fun _ => ⟨rfl, by first | omega | (simp; done) | (dsimp only; omega) | exact lit_bl rfl⟩) h, rfl⟩⟩⟩⟩)) (xV (Vi sl94 0))) (Dv [7] (VldS sh9 0) (Dv [1] (Vfa fo26_1 0) (Dv [1] (VldF sh22 0) (Dv [] (Vlen sl22) ?_))))
  refine letv (st_Itoa (st.Cone.length : Int)) fun rv13 hg14 => ?_
  have hI := Itoa_ln hg14
  refine Dx [6] [] [1, 0] (fun G => .string (bs rv13)) [fun G => SP.fact (rv13.b.length ≤ 140737488355328 ∧ (rv13.b.length ≤ 22))] (fun G => xC [0] ca56 (fn56 ((st.Cone.length : Int)) pre rv13 hg14)) (Dv [1] (Vfa fo26_6 0) (Dv [1] (VldF sh22 0) (Dv [] (Vlen sl22) ?_)))
  refine letv (st_Itoa (st.Queue.length : Int)) fun rv15 hg16 => ?_
  have hI := Itoa_ln hg16
  refine Dx [6, 8] [] [1, 2, 0] (fun G => .string (bs rv15)) [fun G => SP.fact (rv15.b.length ≤ 140737488355328 ∧ (rv15.b.length ≤ 22))] (fun G => by refine xf 1 rfl ?_; rintro ⟨he17, he18⟩; exact xC [0] ca56 (fn56 ((st.Queue.length : Int)) pre rv15 hg16)) (Dv [1] (Vfa fo26_7 0) (Dv [1] (VldF sh3 0) (Dv [] Vmax ?_)))
  refine letv (st_Itoa (max st.Steps 0)) fun rv19 hg20 => ?_
  have hI := Itoa_ln hg20
  refine Dx [6, 8, 9] [] [1, 2, 3, 0] (fun G => .string (bs rv19)) [fun G => SP.fact (rv19.b.length ≤ 140737488355328 ∧ (rv19.b.length ≤ 22))] (fun G => by refine xf 1 rfl ?_; rintro ⟨he21, he22⟩; refine xf 2 rfl ?_; rintro ⟨he23, he24⟩; exact xC [0] ca56 (fn56 ((max st.Steps 0)) pre rv19 hg20)) (Dx [] [] [0] (fun G => (G.g 16 0)) [fun G => Cr (G.g 16 0) 4 [.string (bs ([(Str.mk [63]), (Str.mk [100, 101, 109, 97, 110, 100]), (Str.mk [115, 111, 108, 118, 101]), (Str.mk [100, 111, 110, 101])].getD (0 : Int).toNat default)), .string (bs rv13), .string (bs rv15), .string (bs rv19)]] (fun G => xA (AsV sl94 sz94 [.string (bs ([(Str.mk [63]), (Str.mk [100, 101, 109, 97, 110, 100]), (Str.mk [115, 111, 108, 118, 101]), (Str.mk [100, 111, 110, 101])].getD (0 : Int).toNat default)), .string (bs rv13), .string (bs rv15), .string (bs rv19)] [.string (bs ([(Str.mk [63]), (Str.mk [100, 101, 109, 97, 110, 100]), (Str.mk [115, 111, 108, 118, 101]), (Str.mk [100, 111, 110, 101])].getD (0 : Int).toNat default)), .string (bs rv13), .string (bs rv15), .string (bs rv19)])) ?_)
  refine letv (strings_Join [([(Str.mk [63]), (Str.mk [100, 101, 109, 97, 110, 100]), (Str.mk [115, 111, 108, 118, 101]), (Str.mk [100, 111, 110, 101])].getD (0 : Int).toNat default), rv13, rv15, rv19] (Str.mk [32])) fun rv29 hg30 => ?_
  have hJ := Jn4' hg30 aM1 aM1 aM1
  refine Dx [8, 9, 10, 11] [11] [2, 3, 4, 1, 0] (fun G => .string (bs rv29)) [fun G => sl (G.g 16 0) ([([(Str.mk [63]), (Str.mk [100, 101, 109, 97, 110, 100]), (Str.mk [115, 111, 108, 118, 101]), (Str.mk [100, 111, 110, 101])].getD (0 : Int).toNat default), rv13, rv15, rv19] : List Str), fun G => SP.fact (rv29.b.length ≤ 140737488355328)] (fun G => by refine xf 0 rfl ?_; rintro ⟨he31, he32⟩; refine xf 1 rfl ?_; rintro ⟨he33, he34⟩; refine xf 2 rfl ?_; rintro ⟨he35, he36⟩; exact xp [3] rfl (Ent.crOs (α := Str) (A := []) _ ([([(Str.mk [63]), (Str.mk [100, 101, 109, 97, 110, 100]), (Str.mk [115, 111, 108, 118, 101]), (Str.mk [100, 111, 110, 101])].getD (0 : Int).toNat default), rv13, rv15, rv19] : List Str) _ aB1 (fun h => ⟨[.string (bs ([(Str.mk [63]), (Str.mk [100, 101, 109, 97, 110, 100]), (Str.mk [115, 111, 108, 118, 101]), (Str.mk [100, 111, 110, 101])].getD (0 : Int).toNat default))], [.string (bs rv13), .string (bs rv15), .string (bs rv19)], rfl, (fun _ => ⟨rfl, by first | omega | (simp; done) | (dsimp only; omega) | exact lit_bl rfl⟩) h, ⟨[.string (bs rv13)], [.string (bs rv15), .string (bs rv19)], rfl, (fun _ => ⟨rfl, by first | omega | (simp; done) | (dsimp only; omega) | exact lit_bl rfl⟩) h, ⟨[.string (bs rv15)], [.string (bs rv19)], rfl, (fun _ => ⟨rfl, by first | omega | (simp; done) | (dsimp only; omega) | exact lit_bl rfl⟩) h, ⟨[.string (bs rv19)], [], rfl, (fun _ => ⟨rfl, by first | omega | (simp; done) | (dsimp only; omega) | exact lit_bl rfl⟩) h, rfl⟩⟩⟩⟩)) (xp [0] rfl (Ent.freeze _ _) (xD [0] ca55 rfl rfl rfl (FT_open (γ := Unit) (I := fun g => rv29.b.length ≤ 140737488355328) (V := fun g => .string (bs rv29)) (B := fun g => []) (R := sl (G.g 16 0) ([([(Str.mk [63]), (Str.mk [100, 101, 109, 97, 110, 100]), (Str.mk [115, 111, 108, 118, 101]), (Str.mk [100, 111, 110, 101])].getD (0 : Int).toNat default), rv13, rv15, rv19] : List Str)) sl_slice (fun aq26 kq27 eq28 => by rw [eq28]; exact FT_ent (Ent.take (is := [0]) rfl) (fn55 ([([(Str.mk [63]), (Str.mk [100, 101, 109, 97, 110, 100]), (Str.mk [115, 111, 108, 118, 101]), (Str.mk [100, 111, 110, 101])].getD (0 : Int).toNat default), rv13, rv15, rv19]) aq26 kq27 ((Str.mk [32])) pre (Nat.le_trans (Jn4 aM1 aM1 aM1) aM1) rv29 hg30)))))) ?_
  have hb37 := sadd_len rv29 (Str.mk [10])
  have hb38 : (Str.mk [10]).b.length = 1 := rfl
  refine Dv [] (VadS (l := rv29) (m := (Str.mk [10]))) (Dv [] Va ?_)
  refine Dn ⟨by kernel_rfl, fun G => ?_⟩
  refine Jw2 [(2, .string (bs (rv29 ++ (Str.mk [10]))))] [1, 2, 3, 4, 5, 6] [os (.slice a9 4 k10) ([(Str.mk [63]), (Str.mk [100, 101, 109, 97, 110, 100]), (Str.mk [115, 111, 108, 118, 101]), (Str.mk [100, 111, 110, 101])] : List Str), SP.fact (rv13.b.length ≤ 140737488355328 ∧ (rv13.b.length ≤ 22)), SP.fact (rv15.b.length ≤ 140737488355328 ∧ (rv15.b.length ≤ 22)), SP.fact (rv19.b.length ≤ 140737488355328 ∧ (rv19.b.length ≤ 22)), sl (G.g 16 0) ([([(Str.mk [63]), (Str.mk [100, 101, 109, 97, 110, 100]), (Str.mk [115, 111, 108, 118, 101]), (Str.mk [100, 111, 110, 101])].getD (0 : Int).toNat default), rv13, rv15, rv19] : List Str), SP.fact (rv29.b.length ≤ 140737488355328)] ?_
  generalize G.g 16 0 = c25
  refine Jf 7 rfl ?_; rintro ⟨he39, he40⟩
  refine Jf 8 rfl ?_; rintro ⟨he41, he42⟩
  refine Jf 9 rfl ?_; rintro ⟨he43, he44⟩
  refine Jf 11 rfl ?_; rintro he45
  refine Jk [0, 1, 2, 3, 4, 5, 6, 9] ?_
  refine Jo 7 ?_; rintro a46 k47 rfl
  refine Fb 16 7 fun _ => ?_
  refine FoS 7 fun ho49 => ?_
  have hq := q4 hrr (rv29 ++ (Str.mk [10])) (by simp only [resume_Text, h11, hg14, hg16, hg20, hg30, cs4]); subst hq
  exact Kr () rfl (.tmp rfl .nil) [] en
 intro h11
 have g50 := df h11
 refine Oq Vm (Oq Vm (Oq (Vlen sl94) (Oq Vgeq (Oq Vpf (KS ?_)))))
 refine Kc ?_ ?_
 ·intro h51
  have g52 := dt h51
  refine KS ?_
  refine Oq Va (KS ?_)
  refine JK_drawK [0, 0, 3, 7, 0, 16, 48, 112, 0, 256, 768, 2032, 0, 4096, 12288, 32752, 65535, 131071, 262143, 524287] fmix ?_
  refine Dv [] Vm (Dv [] Vm ?_)
  refine Dx [0] [0] [0] (fun G => (eptr 1 (.slice a9 4 k10) (0 : Int).toNat)) [fun G => os (.slice a9 4 k10) ([(Str.mk [63]), (Str.mk [100, 101, 109, 97, 110, 100]), (Str.mk [115, 111, 108, 118, 101]), (Str.mk [100, 111, 110, 101])] : List Str)] (fun G => xp [0] rfl (Ent.crOs (α := Str) (A := []) _ ([(Str.mk [63]), (Str.mk [100, 101, 109, 97, 110, 100]), (Str.mk [115, 111, 108, 118, 101]), (Str.mk [100, 111, 110, 101])] : List Str) _ aB1 (fun h => ⟨[.string (bs (Str.mk [63]))], [.string (bs (Str.mk [100, 101, 109, 97, 110, 100])), .string (bs (Str.mk [115, 111, 108, 118, 101])), .string (bs (Str.mk [100, 111, 110, 101]))], rfl, (fun _ => ⟨rfl, by first | omega | (simp; done) | (dsimp only; omega) | exact lit_bl rfl⟩) h, ⟨[.string (bs (Str.mk [100, 101, 109, 97, 110, 100]))], [.string (bs (Str.mk [115, 111, 108, 118, 101])), .string (bs (Str.mk [100, 111, 110, 101]))], rfl, (fun _ => ⟨rfl, by first | omega | (simp; done) | (dsimp only; omega) | exact lit_bl rfl⟩) h, ⟨[.string (bs (Str.mk [115, 111, 108, 118, 101]))], [.string (bs (Str.mk [100, 111, 110, 101]))], rfl, (fun _ => ⟨rfl, by first | omega | (simp; done) | (dsimp only; omega) | exact lit_bl rfl⟩) h, ⟨[.string (bs (Str.mk [100, 111, 110, 101]))], [], rfl, (fun _ => ⟨rfl, by first | omega | (simp; done) | (dsimp only; omega) | exact lit_bl rfl⟩) h, rfl⟩⟩⟩⟩)) (xV (Vi sl94 0))) (Dv [7] (VldS sh9 0) (Dv [1] (Vfa fo26_1 0) (Dv [1] (VldF sh22 0) (Dv [] (Vlen sl22) ?_))))
  refine letv (st_Itoa (st.Cone.length : Int)) fun rv53 hg54 => ?_
  have hI := Itoa_ln hg54
  refine Dx [6] [] [1, 0] (fun G => .string (bs rv53)) [fun G => SP.fact (rv53.b.length ≤ 140737488355328 ∧ (rv53.b.length ≤ 22))] (fun G => xC [0] ca56 (fn56 ((st.Cone.length : Int)) pre rv53 hg54)) (Dv [1] (Vfa fo26_6 0) (Dv [1] (VldF sh22 0) (Dv [] (Vlen sl22) ?_)))
  refine letv (st_Itoa (st.Queue.length : Int)) fun rv55 hg56 => ?_
  have hI := Itoa_ln hg56
  refine Dx [6, 8] [] [1, 2, 0] (fun G => .string (bs rv55)) [fun G => SP.fact (rv55.b.length ≤ 140737488355328 ∧ (rv55.b.length ≤ 22))] (fun G => by refine xf 1 rfl ?_; rintro ⟨he57, he58⟩; exact xC [0] ca56 (fn56 ((st.Queue.length : Int)) pre rv55 hg56)) (Dv [1] (Vfa fo26_7 0) (Dv [1] (VldF sh3 0) (Dv [] Vmax ?_)))
  refine letv (st_Itoa (max st.Steps 0)) fun rv59 hg60 => ?_
  have hI := Itoa_ln hg60
  refine Dx [6, 8, 9] [] [1, 2, 3, 0] (fun G => .string (bs rv59)) [fun G => SP.fact (rv59.b.length ≤ 140737488355328 ∧ (rv59.b.length ≤ 22))] (fun G => by refine xf 1 rfl ?_; rintro ⟨he61, he62⟩; refine xf 2 rfl ?_; rintro ⟨he63, he64⟩; exact xC [0] ca56 (fn56 ((max st.Steps 0)) pre rv59 hg60)) (Dx [] [] [0] (fun G => (G.g 16 0)) [fun G => Cr (G.g 16 0) 4 [.string (bs ([(Str.mk [63]), (Str.mk [100, 101, 109, 97, 110, 100]), (Str.mk [115, 111, 108, 118, 101]), (Str.mk [100, 111, 110, 101])].getD (0 : Int).toNat default)), .string (bs rv53), .string (bs rv55), .string (bs rv59)]] (fun G => xA (AsV sl94 sz94 [.string (bs ([(Str.mk [63]), (Str.mk [100, 101, 109, 97, 110, 100]), (Str.mk [115, 111, 108, 118, 101]), (Str.mk [100, 111, 110, 101])].getD (0 : Int).toNat default)), .string (bs rv53), .string (bs rv55), .string (bs rv59)] [.string (bs ([(Str.mk [63]), (Str.mk [100, 101, 109, 97, 110, 100]), (Str.mk [115, 111, 108, 118, 101]), (Str.mk [100, 111, 110, 101])].getD (0 : Int).toNat default)), .string (bs rv53), .string (bs rv55), .string (bs rv59)])) ?_)
  refine letv (strings_Join [([(Str.mk [63]), (Str.mk [100, 101, 109, 97, 110, 100]), (Str.mk [115, 111, 108, 118, 101]), (Str.mk [100, 111, 110, 101])].getD (0 : Int).toNat default), rv53, rv55, rv59] (Str.mk [32])) fun rv69 hg70 => ?_
  have hJ := Jn4' hg70 aM1 aM1 aM1
  refine Dx [8, 9, 10, 11] [11] [2, 3, 4, 1, 0] (fun G => .string (bs rv69)) [fun G => sl (G.g 16 0) ([([(Str.mk [63]), (Str.mk [100, 101, 109, 97, 110, 100]), (Str.mk [115, 111, 108, 118, 101]), (Str.mk [100, 111, 110, 101])].getD (0 : Int).toNat default), rv53, rv55, rv59] : List Str), fun G => SP.fact (rv69.b.length ≤ 140737488355328)] (fun G => by refine xf 0 rfl ?_; rintro ⟨he71, he72⟩; refine xf 1 rfl ?_; rintro ⟨he73, he74⟩; refine xf 2 rfl ?_; rintro ⟨he75, he76⟩; exact xp [3] rfl (Ent.crOs (α := Str) (A := []) _ ([([(Str.mk [63]), (Str.mk [100, 101, 109, 97, 110, 100]), (Str.mk [115, 111, 108, 118, 101]), (Str.mk [100, 111, 110, 101])].getD (0 : Int).toNat default), rv53, rv55, rv59] : List Str) _ aB1 (fun h => ⟨[.string (bs ([(Str.mk [63]), (Str.mk [100, 101, 109, 97, 110, 100]), (Str.mk [115, 111, 108, 118, 101]), (Str.mk [100, 111, 110, 101])].getD (0 : Int).toNat default))], [.string (bs rv53), .string (bs rv55), .string (bs rv59)], rfl, (fun _ => ⟨rfl, by first | omega | (simp; done) | (dsimp only; omega) | exact lit_bl rfl⟩) h, ⟨[.string (bs rv53)], [.string (bs rv55), .string (bs rv59)], rfl, (fun _ => ⟨rfl, by first | omega | (simp; done) | (dsimp only; omega) | exact lit_bl rfl⟩) h, ⟨[.string (bs rv55)], [.string (bs rv59)], rfl, (fun _ => ⟨rfl, by first | omega | (simp; done) | (dsimp only; omega) | exact lit_bl rfl⟩) h, ⟨[.string (bs rv59)], [], rfl, (fun _ => ⟨rfl, by first | omega | (simp; done) | (dsimp only; omega) | exact lit_bl rfl⟩) h, rfl⟩⟩⟩⟩)) (xp [0] rfl (Ent.freeze _ _) (xD [0] ca55 rfl rfl rfl (FT_open (γ := Unit) (I := fun g => rv69.b.length ≤ 140737488355328) (V := fun g => .string (bs rv69)) (B := fun g => []) (R := sl (G.g 16 0) ([([(Str.mk [63]), (Str.mk [100, 101, 109, 97, 110, 100]), (Str.mk [115, 111, 108, 118, 101]), (Str.mk [100, 111, 110, 101])].getD (0 : Int).toNat default), rv53, rv55, rv59] : List Str)) sl_slice (fun aq66 kq67 eq68 => by rw [eq68]; exact FT_ent (Ent.take (is := [0]) rfl) (fn55 ([([(Str.mk [63]), (Str.mk [100, 101, 109, 97, 110, 100]), (Str.mk [115, 111, 108, 118, 101]), (Str.mk [100, 111, 110, 101])].getD (0 : Int).toNat default), rv53, rv55, rv59]) aq66 kq67 ((Str.mk [32])) pre (Nat.le_trans (Jn4 aM1 aM1 aM1) aM1) rv69 hg70)))))) ?_
  have hb77 := sadd_len rv69 (Str.mk [10])
  have hb78 : (Str.mk [10]).b.length = 1 := rfl
  refine Dv [] (VadS (l := rv69) (m := (Str.mk [10]))) (Dv [] Va ?_)
  refine Dn ⟨by kernel_rfl, fun G => ?_⟩
  refine Jw2 [(2, .string (bs (rv69 ++ (Str.mk [10]))))] [1, 2, 3, 4, 5, 6] [os (.slice a9 4 k10) ([(Str.mk [63]), (Str.mk [100, 101, 109, 97, 110, 100]), (Str.mk [115, 111, 108, 118, 101]), (Str.mk [100, 111, 110, 101])] : List Str), SP.fact (rv53.b.length ≤ 140737488355328 ∧ (rv53.b.length ≤ 22)), SP.fact (rv55.b.length ≤ 140737488355328 ∧ (rv55.b.length ≤ 22)), SP.fact (rv59.b.length ≤ 140737488355328 ∧ (rv59.b.length ≤ 22)), sl (G.g 16 0) ([([(Str.mk [63]), (Str.mk [100, 101, 109, 97, 110, 100]), (Str.mk [115, 111, 108, 118, 101]), (Str.mk [100, 111, 110, 101])].getD (0 : Int).toNat default), rv53, rv55, rv59] : List Str), SP.fact (rv69.b.length ≤ 140737488355328)] ?_
  generalize G.g 16 0 = c65
  refine Jf 7 rfl ?_; rintro ⟨he79, he80⟩
  refine Jf 8 rfl ?_; rintro ⟨he81, he82⟩
  refine Jf 9 rfl ?_; rintro ⟨he83, he84⟩
  refine Jf 11 rfl ?_; rintro he85
  refine Jk [0, 1, 2, 3, 4, 5, 6, 9] ?_
  refine Jo 7 ?_; rintro a86 k87 rfl
  refine Fb 16 7 fun _ => ?_
  refine FoS 7 fun ho89 => ?_
  have hq := q4 hrr (rv69 ++ (Str.mk [10])) (by simp only [resume_Text, h11, h51, hg54, hg56, hg60, hg70, cs4]); subst hq
  exact Kr () rfl (.tmp rfl .nil) [] en
 intro h51
 have g90 := df h51
 refine KS ?_
 refine JK_drawK [0, 0, 3, 7, 0, 16, 48, 112, 0, 256, 768, 2032, 0, 4096, 12288, 32752, 65535, 131071, 262143, 524287] fmix ?_
 refine Dv [] Vm (Dv [] Vm ?_)
 refine Dx [0] [0] [0] (fun G => (eptr 1 (.slice a9 4 k10) st.Phase.toNat)) [fun G => os (.slice a9 4 k10) ([(Str.mk [63]), (Str.mk [100, 101, 109, 97, 110, 100]), (Str.mk [115, 111, 108, 118, 101]), (Str.mk [100, 111, 110, 101])] : List Str)] (fun G => xp [0] rfl (Ent.crOs (α := Str) (A := []) _ ([(Str.mk [63]), (Str.mk [100, 101, 109, 97, 110, 100]), (Str.mk [115, 111, 108, 118, 101]), (Str.mk [100, 111, 110, 101])] : List Str) _ aB1 (fun h => ⟨[.string (bs (Str.mk [63]))], [.string (bs (Str.mk [100, 101, 109, 97, 110, 100])), .string (bs (Str.mk [115, 111, 108, 118, 101])), .string (bs (Str.mk [100, 111, 110, 101]))], rfl, (fun _ => ⟨rfl, by first | omega | (simp; done) | (dsimp only; omega) | exact lit_bl rfl⟩) h, ⟨[.string (bs (Str.mk [100, 101, 109, 97, 110, 100]))], [.string (bs (Str.mk [115, 111, 108, 118, 101])), .string (bs (Str.mk [100, 111, 110, 101]))], rfl, (fun _ => ⟨rfl, by first | omega | (simp; done) | (dsimp only; omega) | exact lit_bl rfl⟩) h, ⟨[.string (bs (Str.mk [115, 111, 108, 118, 101]))], [.string (bs (Str.mk [100, 111, 110, 101]))], rfl, (fun _ => ⟨rfl, by first | omega | (simp; done) | (dsimp only; omega) | exact lit_bl rfl⟩) h, ⟨[.string (bs (Str.mk [100, 111, 110, 101]))], [], rfl, (fun _ => ⟨rfl, by first | omega | (simp; done) | (dsimp only; omega) | exact lit_bl rfl⟩) h, rfl⟩⟩⟩⟩)) (xV (Vi sl94 0))) (Dv [7] (VldS sh9 0) (Dv [1] (Vfa fo26_1 0) (Dv [1] (VldF sh22 0) (Dv [] (Vlen sl22) ?_))))
 refine letv (st_Itoa (st.Cone.length : Int)) fun rv91 hg92 => ?_
 have hI := Itoa_ln hg92
 refine Dx [6] [] [1, 0] (fun G => .string (bs rv91)) [fun G => SP.fact (rv91.b.length ≤ 140737488355328 ∧ (rv91.b.length ≤ 22))] (fun G => xC [0] ca56 (fn56 ((st.Cone.length : Int)) pre rv91 hg92)) (Dv [1] (Vfa fo26_6 0) (Dv [1] (VldF sh22 0) (Dv [] (Vlen sl22) ?_)))
 refine letv (st_Itoa (st.Queue.length : Int)) fun rv93 hg94 => ?_
 have hI := Itoa_ln hg94
 refine Dx [6, 8] [] [1, 2, 0] (fun G => .string (bs rv93)) [fun G => SP.fact (rv93.b.length ≤ 140737488355328 ∧ (rv93.b.length ≤ 22))] (fun G => by refine xf 1 rfl ?_; rintro ⟨he95, he96⟩; exact xC [0] ca56 (fn56 ((st.Queue.length : Int)) pre rv93 hg94)) (Dv [1] (Vfa fo26_7 0) (Dv [1] (VldF sh3 0) (Dv [] Vmax ?_)))
 refine letv (st_Itoa (max st.Steps 0)) fun rv97 hg98 => ?_
 have hI := Itoa_ln hg98
 refine Dx [6, 8, 9] [] [1, 2, 3, 0] (fun G => .string (bs rv97)) [fun G => SP.fact (rv97.b.length ≤ 140737488355328 ∧ (rv97.b.length ≤ 22))] (fun G => by refine xf 1 rfl ?_; rintro ⟨he99, he100⟩; refine xf 2 rfl ?_; rintro ⟨he101, he102⟩; exact xC [0] ca56 (fn56 ((max st.Steps 0)) pre rv97 hg98)) (Dx [] [] [0] (fun G => (G.g 16 0)) [fun G => Cr (G.g 16 0) 4 [.string (bs ([(Str.mk [63]), (Str.mk [100, 101, 109, 97, 110, 100]), (Str.mk [115, 111, 108, 118, 101]), (Str.mk [100, 111, 110, 101])].getD st.Phase.toNat default)), .string (bs rv91), .string (bs rv93), .string (bs rv97)]] (fun G => xA (AsV sl94 sz94 [.string (bs ([(Str.mk [63]), (Str.mk [100, 101, 109, 97, 110, 100]), (Str.mk [115, 111, 108, 118, 101]), (Str.mk [100, 111, 110, 101])].getD st.Phase.toNat default)), .string (bs rv91), .string (bs rv93), .string (bs rv97)] [.string (bs ([(Str.mk [63]), (Str.mk [100, 101, 109, 97, 110, 100]), (Str.mk [115, 111, 108, 118, 101]), (Str.mk [100, 111, 110, 101])].getD st.Phase.toNat default)), .string (bs rv91), .string (bs rv93), .string (bs rv97)])) ?_)
 refine letv (strings_Join [([(Str.mk [63]), (Str.mk [100, 101, 109, 97, 110, 100]), (Str.mk [115, 111, 108, 118, 101]), (Str.mk [100, 111, 110, 101])].getD st.Phase.toNat default), rv91, rv93, rv97] (Str.mk [32])) fun rv107 hg108 => ?_
 have hJ := Jn4' hg108 aM1 aM1 aM1
 refine Dx [8, 9, 10, 11] [11] [2, 3, 4, 1, 0] (fun G => .string (bs rv107)) [fun G => sl (G.g 16 0) ([([(Str.mk [63]), (Str.mk [100, 101, 109, 97, 110, 100]), (Str.mk [115, 111, 108, 118, 101]), (Str.mk [100, 111, 110, 101])].getD st.Phase.toNat default), rv91, rv93, rv97] : List Str), fun G => SP.fact (rv107.b.length ≤ 140737488355328)] (fun G => by refine xf 0 rfl ?_; rintro ⟨he109, he110⟩; refine xf 1 rfl ?_; rintro ⟨he111, he112⟩; refine xf 2 rfl ?_; rintro ⟨he113, he114⟩; exact xp [3] rfl (Ent.crOs (α := Str) (A := []) _ ([([(Str.mk [63]), (Str.mk [100, 101, 109, 97, 110, 100]), (Str.mk [115, 111, 108, 118, 101]), (Str.mk [100, 111, 110, 101])].getD st.Phase.toNat default), rv91, rv93, rv97] : List Str) _ aB1 (fun h => ⟨[.string (bs ([(Str.mk [63]), (Str.mk [100, 101, 109, 97, 110, 100]), (Str.mk [115, 111, 108, 118, 101]), (Str.mk [100, 111, 110, 101])].getD st.Phase.toNat default))], [.string (bs rv91), .string (bs rv93), .string (bs rv97)], rfl, (fun _ => ⟨rfl, by first | omega | (simp; done) | (dsimp only; omega) | exact lit_bl rfl⟩) h, ⟨[.string (bs rv91)], [.string (bs rv93), .string (bs rv97)], rfl, (fun _ => ⟨rfl, by first | omega | (simp; done) | (dsimp only; omega) | exact lit_bl rfl⟩) h, ⟨[.string (bs rv93)], [.string (bs rv97)], rfl, (fun _ => ⟨rfl, by first | omega | (simp; done) | (dsimp only; omega) | exact lit_bl rfl⟩) h, ⟨[.string (bs rv97)], [], rfl, (fun _ => ⟨rfl, by first | omega | (simp; done) | (dsimp only; omega) | exact lit_bl rfl⟩) h, rfl⟩⟩⟩⟩)) (xp [0] rfl (Ent.freeze _ _) (xD [0] ca55 rfl rfl rfl (FT_open (γ := Unit) (I := fun g => rv107.b.length ≤ 140737488355328) (V := fun g => .string (bs rv107)) (B := fun g => []) (R := sl (G.g 16 0) ([([(Str.mk [63]), (Str.mk [100, 101, 109, 97, 110, 100]), (Str.mk [115, 111, 108, 118, 101]), (Str.mk [100, 111, 110, 101])].getD st.Phase.toNat default), rv91, rv93, rv97] : List Str)) sl_slice (fun aq104 kq105 eq106 => by rw [eq106]; exact FT_ent (Ent.take (is := [0]) rfl) (fn55 ([([(Str.mk [63]), (Str.mk [100, 101, 109, 97, 110, 100]), (Str.mk [115, 111, 108, 118, 101]), (Str.mk [100, 111, 110, 101])].getD st.Phase.toNat default), rv91, rv93, rv97]) aq104 kq105 ((Str.mk [32])) pre (Nat.le_trans (Jn4 aM1 aM1 aM1) aM1) rv107 hg108)))))) ?_
 have hb115 := sadd_len rv107 (Str.mk [10])
 have hb116 : (Str.mk [10]).b.length = 1 := rfl
 refine Dv [] (VadS (l := rv107) (m := (Str.mk [10]))) (Dv [] Va ?_)
 refine Dn ⟨by kernel_rfl, fun G => ?_⟩
 refine Jw2 [(2, .string (bs (rv107 ++ (Str.mk [10]))))] [1, 2, 3, 4, 5, 6] [os (.slice a9 4 k10) ([(Str.mk [63]), (Str.mk [100, 101, 109, 97, 110, 100]), (Str.mk [115, 111, 108, 118, 101]), (Str.mk [100, 111, 110, 101])] : List Str), SP.fact (rv91.b.length ≤ 140737488355328 ∧ (rv91.b.length ≤ 22)), SP.fact (rv93.b.length ≤ 140737488355328 ∧ (rv93.b.length ≤ 22)), SP.fact (rv97.b.length ≤ 140737488355328 ∧ (rv97.b.length ≤ 22)), sl (G.g 16 0) ([([(Str.mk [63]), (Str.mk [100, 101, 109, 97, 110, 100]), (Str.mk [115, 111, 108, 118, 101]), (Str.mk [100, 111, 110, 101])].getD st.Phase.toNat default), rv91, rv93, rv97] : List Str), SP.fact (rv107.b.length ≤ 140737488355328)] ?_
 generalize G.g 16 0 = c103
 refine Jf 7 rfl ?_; rintro ⟨he117, he118⟩
 refine Jf 8 rfl ?_; rintro ⟨he119, he120⟩
 refine Jf 9 rfl ?_; rintro ⟨he121, he122⟩
 refine Jf 11 rfl ?_; rintro he123
 refine Jk [0, 1, 2, 3, 4, 5, 6, 9] ?_
 refine Jo 7 ?_; rintro a124 k125 rfl
 refine Fb 16 7 fun _ => ?_
 refine FoS 7 fun ho127 => ?_
 have hq := q4 hrr (rv107 ++ (Str.mk [10])) (by simp only [resume_Text, h11, h51, hg92, hg94, hg98, hg108, cs4]); subst hq
 exact Kr () rfl (.tmp rfl .nil) [] en
theorem fn104 (n : Int) (hn_0 : i64ok n) (hn : 0 ≤ n) (rr : Str) (hrr : r1_Decimal n = rr) : FT Tryz.prog 104 #[vi n] [] (fun g : Unit => rr.b.length ≤ 140737488355328 ∧ (rr.b.length ≤ 22)) (fun g => .string (bs rr)) (fun g => []) := by
 refine FTi Tryz.func104 fun w0 M0 F0 => ?_
 unfold i64ok at hn_0
 refine KS ?_
 refine Oq Va (KS ?_)
 refine Oq Vm (Oq Vrem (Oq Vm (Oq Vrem (Oq Vadd ?_))))
 have hb1 : (Str.mk [48, 49, 50, 51, 52, 53, 54, 55, 56, 57]).b.length = 10 := rfl
 refine Oq (VslS un9 (l := (Str.mk [48, 49, 50, 51, 52, 53, 54, 55, 56, 57]))) ?_
 have hb2 := sub_len3 (Str.mk [48, 49, 50, 51, 52, 53, 54, 55, 56, 57]) ((n % 10) : Int).toNat (((n % 10) + 1) : Int).toNat
 refine Oq Va (KS ?_)
 refine Oq Vm (Oq Vquo (Oq Va (KS ?_)))
 have hterm10 : r1_Decimal_L0 20 (n / 10) ((Str.mk [48, 49, 50, 51, 52, 53, 54, 55, 56, 57]).sub ((n % 10) : Int).toNat (((n % 10) + 1) : Int).toNat) ≠ LR.oof := (Dec_t 19 _ _ aM1 (p19 aM1))
 refine Kl (γ := Nat × Int × Str) (fun (r3, n_4, s_5) => ⟨[(3, .string (bs s_5)), (0, vi n_4)], [], r1_Decimal_L0 r3 n_4 s_5 = r1_Decimal_L0 20 (n / 10) ((Str.mk [48, 49, 50, 51, 52, 53, 54, 55, 56, 57]).sub ((n % 10) : Int).toNat (((n % 10) + 1) : Int).toNat) ∧ (-9223372036854775808 ≤ n_4 ∧ n_4 ≤ 9223372036854775807) ∧ s_5.b.length ≤ 140737488355328 ∧ (0 ≤ n_4 ∧ (s_5.b.length : Int) + (r3 : Int) ≤ 22), r3⟩) (20, (n / 10), ((Str.mk [48, 49, 50, 51, 52, 53, 54, 55, 56, 57]).sub ((n % 10) : Int).toNat (((n % 10) + 1) : Int).toNat)) [] ⟨rfl, aM1, (by first | omega | (simp; done)), iv0⟩ ?_
 rintro ⟨r3, n_4, s_5⟩ ⟨hM6, hk7, hk8, hv9⟩
 refine JJ_nx fun _ _ hL hA => ?_; dsimp only at hL hA; subst hL hA
 rcases r3 with _ | r3
 ·exact absurd (hM6.symm.trans rfl) hterm10
 refine KS ?_
 refine Oq Vm (Oq Vgtr (KS ?_))
 refine Kc ?_ ?_
 ·intro h11
  have g12 := dt h11
  refine KS ?_
  refine Oq Vm (Oq Vrem (Oq Vm (Oq Vrem (Oq Vadd ?_))))
  have hb13 : (Str.mk [48, 49, 50, 51, 52, 53, 54, 55, 56, 57]).b.length = 10 := rfl
  refine Oq (VslS un9 (l := (Str.mk [48, 49, 50, 51, 52, 53, 54, 55, 56, 57]))) ?_
  have hb14 := sub_len3 (Str.mk [48, 49, 50, 51, 52, 53, 54, 55, 56, 57]) ((n_4 % 10) : Int).toNat (((n_4 % 10) + 1) : Int).toNat
  refine Oq Vm ?_
  have hb15 := sadd_len ((Str.mk [48, 49, 50, 51, 52, 53, 54, 55, 56, 57]).sub ((n_4 % 10) : Int).toNat (((n_4 % 10) + 1) : Int).toNat) s_5
  refine Oq (VadS (l := ((Str.mk [48, 49, 50, 51, 52, 53, 54, 55, 56, 57]).sub ((n_4 % 10) : Int).toNat (((n_4 % 10) + 1) : Int).toNat)) (m := s_5)) (Oq Va (KS ?_))
  refine Oq Vm (Oq Vquo (Oq Va (KS ?_)))
  exact Kg (r3, (n_4 / 10), (((Str.mk [48, 49, 50, 51, 52, 53, 54, 55, 56, 57]).sub ((n_4 % 10) : Int).toNat (((n_4 % 10) + 1) : Int).toNat) ++ s_5)) [] ⟨(q3 hM6 (by simp only [r1_Decimal_L0, h11, cs4])), aM1, aM1, iv1⟩
 intro h11
 have g16 := df h11
 refine Ke ?_
 have hR17 := q2 hM6 (.brk s_5) (by simp only [r1_Decimal_L0, h11, cs4])
 refine KS ?_
 refine Oq Vm (Oq Va (KS ?_))
 have hq := q4 hrr s_5 (by simp only [r1_Decimal, h11, hR17, cs4]); subst hq
 exact Kr () rfl (.tmp rfl .nil) [] en
theorem fn57 (n : Int) (hn_0 : i64ok n) (hn : 0 ≤ n) (rr : Str) (hrr : r4_Quoted n = rr) : FT Tryz.prog 57 #[vi n] [] (fun g : Unit => rr.b.length ≤ 140737488355328 ∧ (rr.b.length ≤ 22)) (fun g => .string (bs rr)) (fun g => []) := by
 refine FTi Tryz.func57 fun w0 M0 F0 => ?_
 unfold i64ok at hn_0
 refine KS ?_
 refine Oq Va (KS ?_)
 refine Oq Vm ?_
 refine letv (r1_Decimal n) fun rv1 hg2 => ?_
 have hc3 := fn104 n pre pre rv1 hg2
 refine Oc [] ca104 hc3 ?_
 rintro - ⟨he4, he5⟩
 refine Oq Va (KS ?_)
 have hq := q4 hrr rv1 (by simp only [r4_Quoted, hg2, cs4]); subst hq
 exact Kr () rfl (.tmp rfl .nil) [] en
theorem fn30 (st : GState) (sta1 : Option Addr) (stk1 : Nat) (sta2 : Option Addr) (stk2 : Nat) (sta5 : Option Addr) (stk5 : Nat) (sta6 : Option Addr) (stk6 : Nat) (hst_0 : i64ok st.Phase) (hst_3 : i64ok st.At) (hst_4 : i64ok st.Edge) (hst_7 : i64ok st.Steps) (rr : Str) (hrr : r14_StateText st = rr) : FT Tryz.prog 30 #[.agg #[vi st.Phase, vl sta1 stk1 st.Cone, vl sta2 stk2 st.Leaf, vi st.At, vi st.Edge, vl sta5 stk5 st.Values, vl sta6 stk6 st.Queue, vi st.Steps]] [S sta1 stk1 st.Cone, S sta2 stk2 st.Leaf, S sta5 stk5 st.Values, S sta6 stk6 st.Queue] (fun g : Unit => rr.b.length ≤ 140737488355328 ∧ (rr.b.length ≤ 93)) (fun g => .string (bs rr)) (fun g => []) := by
 refine FTi Tryz.func30 fun w0 M0 F0 => ?_
 unfold i64ok at hst_0 hst_3 hst_4 hst_7
 refine Fb 8 0 fun _ => Fo 0 fun ho2 => Fb 1 1 fun _ => Fb 32 2 fun _ => Fb 8 3 fun _ => Fo 3 fun ho6 => KS ?_
 refine Oa (Ab [vi st.Phase, vl sta1 stk1 st.Cone, vl sta2 stk2 st.Leaf, vi st.At, vi st.Edge, vl sta5 stk5 st.Values, vl sta6 stk6 st.Queue, vi st.Steps]) fun p7 => Oq Va (KS ?_)
 refine Oq Va (KS ?_)
 refine Oq (Vfa fo26_0 0) (Oq (VldF sh3 0) (Oq Vgeq (Oq Vm ?_)))
 refine Js 7 ?_ ?_
 ·intro h8
  have g9 := dt h8
  refine Oq (Vfa fo26_0 0) (Oq (VldF sh3 0) (Oq Vleq (Oq Vpt (KS ?_))))
  refine Kc ?_ ?_
  ·intro h10
   have g11 := dt h10
   have hw3 := wd3_len ((st.Phase - 1) : Int).toNat
   refine KS ?_
   refine Oa (AsV sl94 sz94 [.string (bs (Str.mk [100, 101, 109, 97, 110, 100])), .string (bs (Str.mk [115, 111, 108, 118, 101])), .string (bs (Str.mk [100, 111, 110, 101]))] [.string (bs (Str.mk [100, 101, 109, 97, 110, 100])), .string (bs (Str.mk [115, 111, 108, 118, 101])), .string (bs (Str.mk [100, 111, 110, 101]))]) fun c12 => ?_
   refine Jo 0 ?_; rintro a13 k14 rfl
   refine Oq (Vfa fo26_0 1) (Oq (VldF sh3 1) (Oq Vsub ?_))
   refine Jl [0] (Ent.crOs (α := Str) (A := []) _ ([(Str.mk [100, 101, 109, 97, 110, 100]), (Str.mk [115, 111, 108, 118, 101]), (Str.mk [100, 111, 110, 101])] : List Str) _ aB1 (fun h => ⟨[.string (bs (Str.mk [100, 101, 109, 97, 110, 100]))], [.string (bs (Str.mk [115, 111, 108, 118, 101])), .string (bs (Str.mk [100, 111, 110, 101]))], rfl, (fun _ => ⟨rfl, by first | omega | (simp; done) | (dsimp only; omega) | exact lit_bl rfl⟩) h, ⟨[.string (bs (Str.mk [115, 111, 108, 118, 101]))], [.string (bs (Str.mk [100, 111, 110, 101]))], rfl, (fun _ => ⟨rfl, by first | omega | (simp; done) | (dsimp only; omega) | exact lit_bl rfl⟩) h, ⟨[.string (bs (Str.mk [100, 111, 110, 101]))], [], rfl, (fun _ => ⟨rfl, by first | omega | (simp; done) | (dsimp only; omega) | exact lit_bl rfl⟩) h, rfl⟩⟩⟩)) ?_
   refine Oq (Vi sl94 0) ?_
   refine Fb 16 0 fun _ => ?_
   refine FoS 0 fun ho16 => ?_
   have hb17 := okS (i := ((st.Phase - 1) : Int).toNat) ho16 rng
   refine Oq (VldS sh9 0) (Oq Va (KS ?_))
   refine JK_drawK [0, 1, 0, 4, 12, 28, 63, 127, 0, 256, 768, 1852, 4095, 8191, 0, 16384, 49152, 118588, 262143, 524287, 1048575] fmix ?_
   refine Dv [] Vm ?_
   have hb18 := sadd_len ([(Str.mk [100, 101, 109, 97, 110, 100]), (Str.mk [115, 111, 108, 118, 101]), (Str.mk [100, 111, 110, 101])].getD ((st.Phase - 1) : Int).toNat default) (Str.mk [32])
   have hb19 : (Str.mk [32]).b.length = 1 := rfl
   refine Dv [] (VadS (l := ([(Str.mk [100, 101, 109, 97, 110, 100]), (Str.mk [115, 111, 108, 118, 101]), (Str.mk [100, 111, 110, 101])].getD ((st.Phase - 1) : Int).toNat default)) (m := (Str.mk [32]))) (Dv [1] (Vfa fo26_1 0) (Dv [1] (VldF sh22 0) (Dv [] (Vlen sl22) ?_)))
   refine letv (r4_Quoted (st.Cone.length : Int)) fun rv20 hg21 => ?_
   have hQ := Quo_ln hg21
   refine Dx [] [] [0] (fun G => .string (bs rv20)) [fun G => SP.fact (rv20.b.length ≤ 140737488355328 ∧ (rv20.b.length ≤ 22))] (fun G => xC [] ca57 (fn57 ((st.Cone.length : Int)) pre pre rv20 hg21)) ?_
   have hb22 := sadd_len (([(Str.mk [100, 101, 109, 97, 110, 100]), (Str.mk [115, 111, 108, 118, 101]), (Str.mk [100, 111, 110, 101])].getD ((st.Phase - 1) : Int).toNat default) ++ (Str.mk [32])) rv20
   refine Dv [] (VadS (l := (([(Str.mk [100, 101, 109, 97, 110, 100]), (Str.mk [115, 111, 108, 118, 101]), (Str.mk [100, 111, 110, 101])].getD ((st.Phase - 1) : Int).toNat default) ++ (Str.mk [32]))) (m := rv20)) ?_
   have hb23 := sadd_len ((([(Str.mk [100, 101, 109, 97, 110, 100]), (Str.mk [115, 111, 108, 118, 101]), (Str.mk [100, 111, 110, 101])].getD ((st.Phase - 1) : Int).toNat default) ++ (Str.mk [32])) ++ rv20) (Str.mk [32])
   have hb24 : (Str.mk [32]).b.length = 1 := rfl
   refine Dv [] (VadS (l := ((([(Str.mk [100, 101, 109, 97, 110, 100]), (Str.mk [115, 111, 108, 118, 101]), (Str.mk [100, 111, 110, 101])].getD ((st.Phase - 1) : Int).toNat default) ++ (Str.mk [32])) ++ rv20)) (m := (Str.mk [32]))) (Dv [1] (Vfa fo26_6 0) (Dv [1] (VldF sh22 0) (Dv [] (Vlen sl22) ?_)))
   refine letv (r4_Quoted (st.Queue.length : Int)) fun rv25 hg26 => ?_
   have hQ := Quo_ln hg26
   refine Dx [6] [] [1, 0] (fun G => .string (bs rv25)) [fun G => SP.fact (rv25.b.length ≤ 140737488355328 ∧ (rv25.b.length ≤ 22))] (fun G => by refine xf 0 rfl ?_; rintro ⟨he27, he28⟩; exact xC [] ca57 (fn57 ((st.Queue.length : Int)) pre pre rv25 hg26)) ?_
   have hb29 := sadd_len (((([(Str.mk [100, 101, 109, 97, 110, 100]), (Str.mk [115, 111, 108, 118, 101]), (Str.mk [100, 111, 110, 101])].getD ((st.Phase - 1) : Int).toNat default) ++ (Str.mk [32])) ++ rv20) ++ (Str.mk [32])) rv25
   refine Dv [] (VadS (l := (((([(Str.mk [100, 101, 109, 97, 110, 100]), (Str.mk [115, 111, 108, 118, 101]), (Str.mk [100, 111, 110, 101])].getD ((st.Phase - 1) : Int).toNat default) ++ (Str.mk [32])) ++ rv20) ++ (Str.mk [32]))) (m := rv25)) ?_
   have hb30 := sadd_len ((((([(Str.mk [100, 101, 109, 97, 110, 100]), (Str.mk [115, 111, 108, 118, 101]), (Str.mk [100, 111, 110, 101])].getD ((st.Phase - 1) : Int).toNat default) ++ (Str.mk [32])) ++ rv20) ++ (Str.mk [32])) ++ rv25) (Str.mk [32])
   have hb31 : (Str.mk [32]).b.length = 1 := rfl
   refine Dv [] (VadS (l := ((((([(Str.mk [100, 101, 109, 97, 110, 100]), (Str.mk [115, 111, 108, 118, 101]), (Str.mk [100, 111, 110, 101])].getD ((st.Phase - 1) : Int).toNat default) ++ (Str.mk [32])) ++ rv20) ++ (Str.mk [32])) ++ rv25)) (m := (Str.mk [32]))) (Dv [1] (Vfa fo26_7 0) (Dv [1] (VldF sh3 0) (Dv [] Vmax ?_)))
   refine letv (r4_Quoted (max st.Steps 0)) fun rv32 hg33 => ?_
   have hQ := Quo_ln hg33
   refine Dx [6, 7] [] [1, 2, 0] (fun G => .string (bs rv32)) [fun G => SP.fact (rv32.b.length ≤ 140737488355328 ∧ (rv32.b.length ≤ 22))] (fun G => by refine xf 0 rfl ?_; rintro ⟨he34, he35⟩; refine xf 1 rfl ?_; rintro ⟨he36, he37⟩; exact xC [] ca57 (fn57 ((max st.Steps 0)) pre pre rv32 hg33)) ?_
   have hb38 := sadd_len (((((([(Str.mk [100, 101, 109, 97, 110, 100]), (Str.mk [115, 111, 108, 118, 101]), (Str.mk [100, 111, 110, 101])].getD ((st.Phase - 1) : Int).toNat default) ++ (Str.mk [32])) ++ rv20) ++ (Str.mk [32])) ++ rv25) ++ (Str.mk [32])) rv32
   refine Dv [] (VadS (l := (((((([(Str.mk [100, 101, 109, 97, 110, 100]), (Str.mk [115, 111, 108, 118, 101]), (Str.mk [100, 111, 110, 101])].getD ((st.Phase - 1) : Int).toNat default) ++ (Str.mk [32])) ++ rv20) ++ (Str.mk [32])) ++ rv25) ++ (Str.mk [32]))) (m := rv32)) ?_
   have hb39 := sadd_len ((((((([(Str.mk [100, 101, 109, 97, 110, 100]), (Str.mk [115, 111, 108, 118, 101]), (Str.mk [100, 111, 110, 101])].getD ((st.Phase - 1) : Int).toNat default) ++ (Str.mk [32])) ++ rv20) ++ (Str.mk [32])) ++ rv25) ++ (Str.mk [32])) ++ rv32) (Str.mk [10])
   have hb40 : (Str.mk [10]).b.length = 1 := rfl
   refine Dv [] (VadS (l := ((((((([(Str.mk [100, 101, 109, 97, 110, 100]), (Str.mk [115, 111, 108, 118, 101]), (Str.mk [100, 111, 110, 101])].getD ((st.Phase - 1) : Int).toNat default) ++ (Str.mk [32])) ++ rv20) ++ (Str.mk [32])) ++ rv25) ++ (Str.mk [32])) ++ rv32)) (m := (Str.mk [10]))) (Dv [] Va ?_)
   refine Dn ⟨by kernel_rfl, fun G => ?_⟩
   refine Jw2 [(2, .string (bs (((((((([(Str.mk [100, 101, 109, 97, 110, 100]), (Str.mk [115, 111, 108, 118, 101]), (Str.mk [100, 111, 110, 101])].getD ((st.Phase - 1) : Int).toNat default) ++ (Str.mk [32])) ++ rv20) ++ (Str.mk [32])) ++ rv25) ++ (Str.mk [32])) ++ rv32) ++ (Str.mk [10]))))] [0, 1, 2, 3, 4, 5] [SP.fact (rv20.b.length ≤ 140737488355328 ∧ (rv20.b.length ≤ 22)), SP.fact (rv25.b.length ≤ 140737488355328 ∧ (rv25.b.length ≤ 22)), SP.fact (rv32.b.length ≤ 140737488355328 ∧ (rv32.b.length ≤ 22))] ?_
   refine Jf 6 rfl ?_; rintro ⟨he41, he42⟩
   refine Jf 7 rfl ?_; rintro ⟨he43, he44⟩
   refine Jf 8 rfl ?_; rintro ⟨he45, he46⟩
   refine Jk [0, 0, 1, 2, 3, 4] ?_
   have hq := q4 hrr (((((((([(Str.mk [100, 101, 109, 97, 110, 100]), (Str.mk [115, 111, 108, 118, 101]), (Str.mk [100, 111, 110, 101])].getD ((st.Phase - 1) : Int).toNat default) ++ (Str.mk [32])) ++ rv20) ++ (Str.mk [32])) ++ rv25) ++ (Str.mk [32])) ++ rv32) ++ (Str.mk [10])) (by simp only [r14_StateText, h8, h10, hg21, hg26, hg33, cs4]); subst hq
   exact Kr () rfl (.tmp rfl .nil) [] en
  intro h10
  have g47 := df h10
  refine KS ?_
  refine JK_drawK [0, 1, 0, 4, 12, 28, 63, 127, 0, 256, 768, 1852, 4095, 8191, 0, 16384, 49152, 118588, 262143, 524287, 1048575] fmix ?_
  refine Dv [] Vm ?_
  have hb48 := sadd_len (Str.mk [63]) (Str.mk [32])
  have hb49 : (Str.mk [63]).b.length = 1 := rfl
  have hb50 : (Str.mk [32]).b.length = 1 := rfl
  refine Dv [] (VadS (l := (Str.mk [63])) (m := (Str.mk [32]))) (Dv [0] (Vfa fo26_1 0) (Dv [0] (VldF sh22 0) (Dv [] (Vlen sl22) ?_)))
  refine letv (r4_Quoted (st.Cone.length : Int)) fun rv51 hg52 => ?_
  have hQ := Quo_ln hg52
  refine Dx [] [] [0] (fun G => .string (bs rv51)) [fun G => SP.fact (rv51.b.length ≤ 140737488355328 ∧ (rv51.b.length ≤ 22))] (fun G => xC [] ca57 (fn57 ((st.Cone.length : Int)) pre pre rv51 hg52)) ?_
  have hb53 := sadd_len ((Str.mk [63]) ++ (Str.mk [32])) rv51
  refine Dv [] (VadS (l := ((Str.mk [63]) ++ (Str.mk [32]))) (m := rv51)) ?_
  have hb54 := sadd_len (((Str.mk [63]) ++ (Str.mk [32])) ++ rv51) (Str.mk [32])
  have hb55 : (Str.mk [32]).b.length = 1 := rfl
  refine Dv [] (VadS (l := (((Str.mk [63]) ++ (Str.mk [32])) ++ rv51)) (m := (Str.mk [32]))) (Dv [0] (Vfa fo26_6 0) (Dv [0] (VldF sh22 0) (Dv [] (Vlen sl22) ?_)))
  refine letv (r4_Quoted (st.Queue.length : Int)) fun rv56 hg57 => ?_
  have hQ := Quo_ln hg57
  refine Dx [5] [] [1, 0] (fun G => .string (bs rv56)) [fun G => SP.fact (rv56.b.length ≤ 140737488355328 ∧ (rv56.b.length ≤ 22))] (fun G => by refine xf 0 rfl ?_; rintro ⟨he58, he59⟩; exact xC [] ca57 (fn57 ((st.Queue.length : Int)) pre pre rv56 hg57)) ?_
  have hb60 := sadd_len ((((Str.mk [63]) ++ (Str.mk [32])) ++ rv51) ++ (Str.mk [32])) rv56
  refine Dv [] (VadS (l := ((((Str.mk [63]) ++ (Str.mk [32])) ++ rv51) ++ (Str.mk [32]))) (m := rv56)) ?_
  have hb61 := sadd_len (((((Str.mk [63]) ++ (Str.mk [32])) ++ rv51) ++ (Str.mk [32])) ++ rv56) (Str.mk [32])
  have hb62 : (Str.mk [32]).b.length = 1 := rfl
  refine Dv [] (VadS (l := (((((Str.mk [63]) ++ (Str.mk [32])) ++ rv51) ++ (Str.mk [32])) ++ rv56)) (m := (Str.mk [32]))) (Dv [0] (Vfa fo26_7 0) (Dv [0] (VldF sh3 0) (Dv [] Vmax ?_)))
  refine letv (r4_Quoted (max st.Steps 0)) fun rv63 hg64 => ?_
  have hQ := Quo_ln hg64
  refine Dx [5, 6] [] [1, 2, 0] (fun G => .string (bs rv63)) [fun G => SP.fact (rv63.b.length ≤ 140737488355328 ∧ (rv63.b.length ≤ 22))] (fun G => by refine xf 0 rfl ?_; rintro ⟨he65, he66⟩; refine xf 1 rfl ?_; rintro ⟨he67, he68⟩; exact xC [] ca57 (fn57 ((max st.Steps 0)) pre pre rv63 hg64)) ?_
  have hb69 := sadd_len ((((((Str.mk [63]) ++ (Str.mk [32])) ++ rv51) ++ (Str.mk [32])) ++ rv56) ++ (Str.mk [32])) rv63
  refine Dv [] (VadS (l := ((((((Str.mk [63]) ++ (Str.mk [32])) ++ rv51) ++ (Str.mk [32])) ++ rv56) ++ (Str.mk [32]))) (m := rv63)) ?_
  have hb70 := sadd_len (((((((Str.mk [63]) ++ (Str.mk [32])) ++ rv51) ++ (Str.mk [32])) ++ rv56) ++ (Str.mk [32])) ++ rv63) (Str.mk [10])
  have hb71 : (Str.mk [10]).b.length = 1 := rfl
  refine Dv [] (VadS (l := (((((((Str.mk [63]) ++ (Str.mk [32])) ++ rv51) ++ (Str.mk [32])) ++ rv56) ++ (Str.mk [32])) ++ rv63)) (m := (Str.mk [10]))) (Dv [] Va ?_)
  refine Dn ⟨by kernel_rfl, fun G => ?_⟩
  refine Jw2 [(2, .string (bs ((((((((Str.mk [63]) ++ (Str.mk [32])) ++ rv51) ++ (Str.mk [32])) ++ rv56) ++ (Str.mk [32])) ++ rv63) ++ (Str.mk [10]))))] [0, 1, 2, 3, 4] [SP.fact (rv51.b.length ≤ 140737488355328 ∧ (rv51.b.length ≤ 22)), SP.fact (rv56.b.length ≤ 140737488355328 ∧ (rv56.b.length ≤ 22)), SP.fact (rv63.b.length ≤ 140737488355328 ∧ (rv63.b.length ≤ 22))] ?_
  refine Jf 5 rfl ?_; rintro ⟨he72, he73⟩
  refine Jf 6 rfl ?_; rintro ⟨he74, he75⟩
  refine Jf 7 rfl ?_; rintro ⟨he76, he77⟩
  refine Jk [0, 1, 2, 3, 4] ?_
  have hq := q4 hrr ((((((((Str.mk [63]) ++ (Str.mk [32])) ++ rv51) ++ (Str.mk [32])) ++ rv56) ++ (Str.mk [32])) ++ rv63) ++ (Str.mk [10])) (by simp only [r14_StateText, h8, h10, hg52, hg57, hg64, cs4]); subst hq
  exact Kr () rfl (.tmp rfl .nil) [] en
 intro h8
 have g78 := df h8
 refine Osk (Osk (Osk (Oq Vpf (KS ?_))))
 refine Kf (KS ?_)
 refine JK_drawK [0, 1, 0, 4, 12, 28, 63, 127, 0, 256, 768, 1852, 4095, 8191, 0, 16384, 49152, 118588, 262143, 524287, 1048575] fmix ?_
 refine Dv [] Vm ?_
 have hb79 := sadd_len (Str.mk [63]) (Str.mk [32])
 have hb80 : (Str.mk [63]).b.length = 1 := rfl
 have hb81 : (Str.mk [32]).b.length = 1 := rfl
 refine Dv [] (VadS (l := (Str.mk [63])) (m := (Str.mk [32]))) (Dv [0] (Vfa fo26_1 0) (Dv [0] (VldF sh22 0) (Dv [] (Vlen sl22) ?_)))
 refine letv (r4_Quoted (st.Cone.length : Int)) fun rv82 hg83 => ?_
 have hQ := Quo_ln hg83
 refine Dx [] [] [0] (fun G => .string (bs rv82)) [fun G => SP.fact (rv82.b.length ≤ 140737488355328 ∧ (rv82.b.length ≤ 22))] (fun G => xC [] ca57 (fn57 ((st.Cone.length : Int)) pre pre rv82 hg83)) ?_
 have hb84 := sadd_len ((Str.mk [63]) ++ (Str.mk [32])) rv82
 refine Dv [] (VadS (l := ((Str.mk [63]) ++ (Str.mk [32]))) (m := rv82)) ?_
 have hb85 := sadd_len (((Str.mk [63]) ++ (Str.mk [32])) ++ rv82) (Str.mk [32])
 have hb86 : (Str.mk [32]).b.length = 1 := rfl
 refine Dv [] (VadS (l := (((Str.mk [63]) ++ (Str.mk [32])) ++ rv82)) (m := (Str.mk [32]))) (Dv [0] (Vfa fo26_6 0) (Dv [0] (VldF sh22 0) (Dv [] (Vlen sl22) ?_)))
 refine letv (r4_Quoted (st.Queue.length : Int)) fun rv87 hg88 => ?_
 have hQ := Quo_ln hg88
 refine Dx [5] [] [1, 0] (fun G => .string (bs rv87)) [fun G => SP.fact (rv87.b.length ≤ 140737488355328 ∧ (rv87.b.length ≤ 22))] (fun G => by refine xf 0 rfl ?_; rintro ⟨he89, he90⟩; exact xC [] ca57 (fn57 ((st.Queue.length : Int)) pre pre rv87 hg88)) ?_
 have hb91 := sadd_len ((((Str.mk [63]) ++ (Str.mk [32])) ++ rv82) ++ (Str.mk [32])) rv87
 refine Dv [] (VadS (l := ((((Str.mk [63]) ++ (Str.mk [32])) ++ rv82) ++ (Str.mk [32]))) (m := rv87)) ?_
 have hb92 := sadd_len (((((Str.mk [63]) ++ (Str.mk [32])) ++ rv82) ++ (Str.mk [32])) ++ rv87) (Str.mk [32])
 have hb93 : (Str.mk [32]).b.length = 1 := rfl
 refine Dv [] (VadS (l := (((((Str.mk [63]) ++ (Str.mk [32])) ++ rv82) ++ (Str.mk [32])) ++ rv87)) (m := (Str.mk [32]))) (Dv [0] (Vfa fo26_7 0) (Dv [0] (VldF sh3 0) (Dv [] Vmax ?_)))
 refine letv (r4_Quoted (max st.Steps 0)) fun rv94 hg95 => ?_
 have hQ := Quo_ln hg95
 refine Dx [5, 6] [] [1, 2, 0] (fun G => .string (bs rv94)) [fun G => SP.fact (rv94.b.length ≤ 140737488355328 ∧ (rv94.b.length ≤ 22))] (fun G => by refine xf 0 rfl ?_; rintro ⟨he96, he97⟩; refine xf 1 rfl ?_; rintro ⟨he98, he99⟩; exact xC [] ca57 (fn57 ((max st.Steps 0)) pre pre rv94 hg95)) ?_
 have hb100 := sadd_len ((((((Str.mk [63]) ++ (Str.mk [32])) ++ rv82) ++ (Str.mk [32])) ++ rv87) ++ (Str.mk [32])) rv94
 refine Dv [] (VadS (l := ((((((Str.mk [63]) ++ (Str.mk [32])) ++ rv82) ++ (Str.mk [32])) ++ rv87) ++ (Str.mk [32]))) (m := rv94)) ?_
 have hb101 := sadd_len (((((((Str.mk [63]) ++ (Str.mk [32])) ++ rv82) ++ (Str.mk [32])) ++ rv87) ++ (Str.mk [32])) ++ rv94) (Str.mk [10])
 have hb102 : (Str.mk [10]).b.length = 1 := rfl
 refine Dv [] (VadS (l := (((((((Str.mk [63]) ++ (Str.mk [32])) ++ rv82) ++ (Str.mk [32])) ++ rv87) ++ (Str.mk [32])) ++ rv94)) (m := (Str.mk [10]))) (Dv [] Va ?_)
 refine Dn ⟨by kernel_rfl, fun G => ?_⟩
 refine Jw2 [(2, .string (bs ((((((((Str.mk [63]) ++ (Str.mk [32])) ++ rv82) ++ (Str.mk [32])) ++ rv87) ++ (Str.mk [32])) ++ rv94) ++ (Str.mk [10]))))] [0, 1, 2, 3, 4] [SP.fact (rv82.b.length ≤ 140737488355328 ∧ (rv82.b.length ≤ 22)), SP.fact (rv87.b.length ≤ 140737488355328 ∧ (rv87.b.length ≤ 22)), SP.fact (rv94.b.length ≤ 140737488355328 ∧ (rv94.b.length ≤ 22))] ?_
 refine Jf 5 rfl ?_; rintro ⟨he103, he104⟩
 refine Jf 6 rfl ?_; rintro ⟨he105, he106⟩
 refine Jf 7 rfl ?_; rintro ⟨he107, he108⟩
 refine Jk [0, 1, 2, 3, 4] ?_
 have hq := q4 hrr ((((((((Str.mk [63]) ++ (Str.mk [32])) ++ rv82) ++ (Str.mk [32])) ++ rv87) ++ (Str.mk [32])) ++ rv94) ++ (Str.mk [10])) (by simp only [r14_StateText, h8, hg83, hg88, hg95, cs4]); subst hq
 exact Kr () rfl (.tmp rfl .nil) [] en
theorem fn11 (st : GState) (sta1 : Option Addr) (stk1 : Nat) (sta2 : Option Addr) (stk2 : Nat) (sta5 : Option Addr) (stk5 : Nat) (sta6 : Option Addr) (stk6 : Nat) (hst_0 : i64ok st.Phase) (hst_3 : i64ok st.At) (hst_4 : i64ok st.Edge) (hst_7 : i64ok st.Steps) (rr : Bool) (hrr : w18_encodes st = rr) : FT Tryz.prog 11 #[.agg #[vi st.Phase, vl sta1 stk1 st.Cone, vl sta2 stk2 st.Leaf, vi st.At, vi st.Edge, vl sta5 stk5 st.Values, vl sta6 stk6 st.Queue, vi st.Steps]] [S sta1 stk1 st.Cone, S sta2 stk2 st.Leaf, S sta5 stk5 st.Values, S sta6 stk6 st.Queue, pv (gp 0) (tabV .u8 tzT), tbx 2 (tabV .u64 pw10)] (fun g : Unit => True) (fun g => vb rr) (fun g => []) := by
 refine FTi Tryz.func11 fun w0 M0 F0 => ?_
 unfold i64ok at hst_0 hst_3 hst_4 hst_7
 refine Fb 8 0 fun _ => Fo 0 fun ho2 => Fb 1 1 fun _ => Fb 32 2 fun _ => Fb 8 3 fun _ => Fo 3 fun ho6 => KS ?_
 refine Oa (Ab [vi st.Phase, vl sta1 stk1 st.Cone, vl sta2 stk2 st.Leaf, vi st.At, vi st.Edge, vl sta5 stk5 st.Values, vl sta6 stk6 st.Queue, vi st.Steps]) fun p7 => Oq Va (KS ?_)
 refine Oq (VldA sh26 0) ?_
 refine letv (resume_Encode st) fun rv9 hg10 => ?_
 have hc11 := fn21 st sta1 stk1 sta2 stk2 sta5 stk5 sta6 stk6 pre pre pre pre rv9 hg10
 refine Oc [1, 2, 3, 4, 5] ca21 hc11 ?_
 rintro c8 ⟨he12, he13⟩
 unfold i64ok at he12
 refine Jo 0 ?_; rintro a14 k15 rfl
 refine Fb 1 0 fun _ => ?_
 refine Oq Vm (Oq Vx (Oq Vx (Oq Va (Oq Va (KS ?_)))))
 refine Oq (VldA sh26 1) ?_
 refine letv (r14_EncodeState st) fun rv18 hg19 => ?_
 have hc20 := fn13 st sta1 stk1 sta2 stk2 sta5 stk5 sta6 stk6 pre pre pre pre rv18 hg19
 refine Oc [2, 3, 4, 5] ca13 hc20 ?_
 rintro c17 ⟨he21, he22⟩
 unfold i64ok at he21
 refine Jo 0 ?_; rintro a23 k24 rfl
 refine Fb 1 0 fun _ => ?_
 refine Oq Vm (Oq Vx (Oq Vx (Oq Va (Oq Va (KS ?_)))))
 refine JK_drawK [0, 0, 3, 7, 15, 31, 15, 79, 255, 511, 1023, 2047, 4095, 2047, 16383, 32767, 65535, 131071] fmix ?_
 refine Dv [] Vm (Dv [] Vm (Dv [] Veql ?_))
 refine bool_split (rv9.2 == rv18.2) ?_ ?_
 ·intro h26
  have g27 := eq_of_beq h26
  refine Db h26 [] Vm (Dv [] Vm (Dx [1] [1] [0] (fun G => .string (bs (Str.mk rv9.1))) [fun G => S a14 k15 rv9.1] (fun G => xp [0] rfl (Ent.freeze _ _) (xV (VbS0 (xs := rv9.1) un44 un5 un9 0))) (Dv [] Vm (Dx [0] [0] [0] (fun G => .string (bs (Str.mk rv18.1))) [fun G => S a23 k24 rv18.1] (fun G => xp [0] rfl (Ent.freeze _ _) (xV (VbS0 (xs := rv18.1) un44 un5 un9 0))) (Dv [] (VeqS (l := (Str.mk rv9.1)) (m := (Str.mk rv18.1))) (Dv [] Vpt ?_))))))
  refine bool_split ((Str.mk rv9.1) == (Str.mk rv18.1)) ?_ ?_
  ·intro h28
   have g29 := eq_of_beq h28
   refine Db h28 [] Vm (Dv [2] (VldA sh26 0) ?_)
   refine letv (resume_Text st) fun rv30 hg31 => ?_
   refine Dx [3, 4, 5, 6, 8] [] [1, 2, 3, 4, 5, 0] (fun G => .string (bs rv30)) [fun G => SP.fact (rv30.b.length ≤ 140737488355328 ∧ (rv30.b.length ≤ 93))] (fun G => xC [0, 1, 2, 3, 4] ca29 (fn29 st sta1 stk1 sta2 stk2 sta5 stk5 sta6 stk6 pre pre pre pre rv30 hg31)) (Dv [2] (VldA sh26 0) ?_)
   refine letv (r14_StateText st) fun rv32 hg33 => ?_
   refine Dx [3, 4, 5, 6] [] [1, 2, 3, 4, 0] (fun G => .string (bs rv32)) [fun G => SP.fact (rv32.b.length ≤ 140737488355328 ∧ (rv32.b.length ≤ 93))] (fun G => xC [0, 1, 2, 3] ca30 (fn30 st sta1 stk1 sta2 stk2 sta5 stk5 sta6 stk6 pre pre pre pre rv32 hg33)) (Dv [] (VeqS (l := rv30) (m := rv32)) (Dv [] Vpt (Dv [] Va ?_)))
   refine Dn ⟨by kernel_rfl, fun G => ?_⟩
   refine Jw2 [(2, vb (rv30 == rv32))] [2, 3, 4, 5, 6, 7, 8] [S a14 k15 rv9.1, S a23 k24 rv18.1, SP.fact (rv30.b.length ≤ 140737488355328 ∧ (rv30.b.length ≤ 93)), SP.fact (rv32.b.length ≤ 140737488355328 ∧ (rv32.b.length ≤ 93))] ?_
   refine Jf 9 rfl ?_; rintro ⟨he34, he35⟩
   refine Jf 10 rfl ?_; rintro ⟨he36, he37⟩
   refine Jk [0, 1, 2, 3, 4, 5, 6, 7, 8] ?_
   have hq := q4 hrr (rv30 == rv32) (by simp only [w18_encodes, h26, h28, hg10, hg19, hg31, hg33, cs4]); subst hq
   exact Kr () rfl (.tmp rfl .nil) [] trivial
  intro h28
  have g38 := ne_of_beq_false h28
  refine Db h28 [] Vm (Ds (Ds (Ds (Ds (Ds (Dv [] Vpf (Dv [] Va ?_)))))))
  refine Dn ⟨by kernel_rfl, fun G => ?_⟩
  refine Jw2 [(2, vb false)] [2, 3, 4, 5, 6, 7, 8] [S a14 k15 rv9.1, S a23 k24 rv18.1] ?_
  have hq := q4 hrr false (by simp only [w18_encodes, h26, h28, hg10, hg19, cs4]); subst hq
  exact Kr () rfl (.tmp rfl .nil) [] trivial
 intro h26
 have g39 := ne_of_beq_false h26
 refine Db h26 [] Vm (Ds (Ds (Ds (Ds (Ds (Dv [] Vpf (Dv [] Vm (Ds (Ds ?_)))))))))
 refine Ds (Ds (Ds (Dv [] Vpf (Dv [] Va ?_))))
 refine Dn ⟨by kernel_rfl, fun G => ?_⟩
 refine Jw2 [(2, vb false)] [0, 1, 2, 3, 4, 5, 6, 7, 8] [] ?_
 have hq := q4 hrr false (by simp only [w18_encodes, h26, hg10, hg19, cs4]); subst hq
 exact Kr () rfl (.tmp rfl .nil) [] trivial
theorem fn27 (root : Int) (hroot_0 : i64ok root) (rr : GState) (hrr : r14_Start root = rr) : FT Tryz.prog 27 #[vi root] [] (fun g : Value × Value × Value × Value => i64ok rr.Phase ∧ i64ok rr.At ∧ i64ok rr.Edge ∧ i64ok rr.Steps) (fun g => .agg #[vi rr.Phase, g.1, g.2.1, vi rr.At, vi rr.Edge, g.2.2.1, g.2.2.2, vi rr.Steps]) (fun g => [sl g.1 rr.Cone, sl g.2.1 rr.Leaf, sl g.2.2.1 rr.Values, sl g.2.2.2 rr.Queue]) := by
 refine FTi Tryz.func27 fun w0 M0 F0 => ?_
 unfold i64ok at hroot_0
 refine KS ?_
 refine Oa (Al ze26 [vi 0, .slice none 0 0, .slice none 0 0, vi 0, vi 0, .slice none 0 0, .slice none 0 0, vi 0]) fun p1 => KS ?_
 refine Oq Vm (Oa (AsV sl22 sz22 [vi root] [vi root]) fun c2 => ?_)
 refine Jo 0 ?_; rintro a3 k4 rfl
 refine Oa (AsV sl23 sz23 [vb false] [vb false]) fun c5 => ?_
 refine Jo 0 ?_; rintro a6 k7 rfl
 refine Oq (Vbd st26 [vi 1, .slice a3 1 k4, .slice a6 1 k7, vi 0, vi 0, .slice none 0 0, .slice none 0 0, vi 0]) (Ost (Scl [2] sh26 [vi 1, .slice a3 1 k4, .slice a6 1 k7, vi 0, vi 0, .slice none 0 0, .slice none 0 0, vi 0]) (KS ?_))
 refine Jl [2] (Ent.crInt _ [root] _ _ rfl rfl (by intro x hx; rw [List.mem_singleton] at hx; subst hx; unfold i64ok; omega) aB1) ?_
 refine Jl [0] (Ent.freeze _ _) ?_
 refine Jl [2] (Ent.cr1 (α := Bool) (A := []) _ false _ aB1 (fun _ => rfl)) ?_
 refine Jl [0] (Ent.freeze _ _) ?_
 refine Jl [] (Ent.slNil (α := GSet)) ?_
 refine Jl [] (Ent.slNil (α := Int)) ?_
 have hq := q4 hrr (GState.mk 1 [root] [false] 0 0 [] [] 0) (by simp only [r14_Start, cs4]); subst hq
 exact Kr (.slice a3 1 k4, .slice a6 1 k7, .slice none 0 0, .slice none 0 0) rfl (.cellN 4 rfl sh26 rfl (reads_Cl _ _) rfl .nil) [3, 2, 1, 0] en
theorem fn12O  (rr : Bool) (hrr : w18_saneO = .ret rr) : FT Tryz.prog 12 #[] [pv (gp 0) (tabV .u8 tzT), tbx 2 (tabV .u64 pw10)] (fun g : Unit => True) (fun g => vb rr) (fun g => []) := by
 refine FTi Tryz.func12 fun w0 M0 F0 => ?_
 have hx0 := lrn rr; have H := hrr; unfold w18_saneO at H
 refine KS ?_
 refine Oq Va (KS ?_)
 refine lvH H fun rv5 hg6 H => ?_
 have hc7 := fn27 0 pre rv5 hg6
 refine Oc [] ca27 hc7 ?_
 rintro ⟨c1, c2, c3, c4⟩ ⟨he8, he9, he10, he11⟩
 unfold i64ok at he8 he9 he10 he11
 refine Jo 0 ?_; rintro a12 k13 rfl
 refine Fb 8 0 fun _ => Fo 0 fun ho15 => ?_
 refine Jo 1 ?_; rintro a16 k17 rfl
 refine Fb 1 1 fun _ => ?_
 refine Jo 2 ?_; rintro a19 k20 rfl
 refine Fb 32 2 fun _ => ?_
 refine Jo 3 ?_; rintro a22 k23 rfl
 refine Fb 8 3 fun _ => Fo 3 fun ho25 => ?_
 refine lvH H fun rv27 hg28 H => ?_
 have hc29 := fn21 rv5 a12 k13 a16 k17 a19 k20 a22 k23 pre pre pre pre rv27 hg28
 refine Oc [0, 1, 2, 3, 4] ca21 hc29 ?_
 rintro c26 ⟨he30, he31⟩
 unfold i64ok at he30
 refine Jo 0 ?_; rintro a32 k33 rfl
 refine Fb 1 0 fun _ => ?_
 refine Oq Vm (Oq Vx (Oq Vx (Oq Va (Oq Va (KS ?_)))))
 refine Oq (Vbd st26 [vi 1, .slice none 0 0, .slice none 0 0, vi 0, vi 0, .slice none 0 0, .slice none 0 0, vi 0]) ?_
 refine Jl [] (Ent.slNil (α := Int)) ?_
 refine Jl [] (Ent.slNil (α := Bool)) ?_
 refine Jl [] (Ent.slNil (α := GSet)) ?_
 refine lvH H fun rv36 hg37 H => ?_
 have hc38 := fn21 ((GState.mk 1 [] [] 0 0 [] [] 0)) none 0 none 0 none 0 none 0 pre pre pre pre rv36 hg37
 refine Oc [2, 1, 0, 2, 8] ca21 hc38 ?_
 rintro c35 ⟨he39, he40⟩
 unfold i64ok at he39
 refine Jo 0 ?_; rintro a41 k42 rfl
 refine Fb 1 0 fun _ => ?_
 refine Oq Vm (Oq Vx (Oq Vx (Oq Va (Oq Va (KS ?_)))))
 refine Oq Vm (Oq Veql (Oq Vm ?_))
 refine pT H hx0 fun h44 H => ?_
 refine JsT 17 h44 ?_
 have g45 := eq_of_beq h44
 refine Oq Vm (Oq (Vlen sl44) (Oq Veql (Oq Vpt (Oq Vm ?_))))
 refine pT H hx0 fun h46 H => ?_
 refine JsT 22 h46 ?_
 have g47 := eq_of_beq h46
 refine Oq Vm ?_
 refine pC H hx0 fun hc48 H => ?_
 refine Oa (AslO [4] sl44 0 ((9 : Int).toNat)) fun c49 => ?_
 refine Jo 0 ?_; rintro a50 k51 rfl
 refine Fb 1 0 fun _ => ?_
 have hn53 : ((rv27.1.take ((9 : Int).toNat)).drop 0).length = ((9 : Int).toNat) - 0 := len_slice rng rng
 refine Jl [0] (Ent.freeze _ _) ?_
 refine Oq (VbS0 (xs := ((rv27.1.take ((9 : Int).toNat)).drop 0)) un44 un5 un9 0) (Oq (VeqS (l := (Str.mk ((rv27.1.take ((9 : Int).toNat)).drop 0))) (m := (Str.mk [1, 1, 0, 0, 0, 0, 0, 0, 0]))) (Oq Vpt (Oq Vm ?_)))
 refine pT H hx0 fun h54 H => ?_
 refine JsT 28 h54 ?_
 have g55 := eq_of_beq h54
 refine Oq Vm (Oq Veql (Oq Vpt (Oq Vm ?_)))
 refine pT H hx0 fun h56 H => ?_
 refine JsT 32 h56 ?_
 have g57 := eq_of_beq h56
 have hc62 := fn27 0 pre rv5 hg6
 refine Oc [] ca27 hc62 ?_
 rintro ⟨c58, c59, c60, c61⟩ ⟨he63, he64, he65, he66⟩
 unfold i64ok at he63 he64 he65 he66
 refine Jo 0 ?_; rintro a67 k68 rfl
 refine Jo 1 ?_; rintro a69 k70 rfl
 refine Jo 2 ?_; rintro a71 k72 rfl
 refine Jo 3 ?_; rintro a73 k74 rfl
 refine lvH H fun rv75 hg76 H => ?_
 have hc77 := fn29 rv5 a67 k68 a69 k70 a71 k72 a73 k74 pre pre pre pre rv75 hg76
 refine Oc [0, 1, 2, 3, 14] ca29 hc77 ?_
 rintro - ⟨he78, he79⟩
 refine Oq (VeqS (l := rv75) (m := (Str.mk [100, 101, 109, 97, 110, 100, 32, 49, 32, 48, 32, 48, 10]))) (Oq Vpt (Oq Va (KS ?_)))
 have hq := rI H; subst hq
 exact Kr () rfl (.tmp rfl .nil) [] trivial
theorem w18_sane_c : w18_saneO = .ret true := by kernel_rfl
theorem fn12  (rr : Bool) (hrr : w18_sane = rr) : FT Tryz.prog 12 #[] [pv (gp 0) (tabV .u8 tzT), tbx 2 (tabV .u64 pw10)] (fun g : Unit => True) (fun g => vb rr) (fun g => []) := by
 subst hrr; exact fn12O  true w18_sane_c
theorem fn6 (l : List Int) (la0 : Option Addr) (lk0 : Nat) (rr : Unit) (hrr : g_New l = rr) : FT Tryz.prog 6 #[vl la0 lk0 l] [S la0 lk0 l] (fun g : Value => True) (fun g => g) (fun g => [Cl g [vl la0 lk0 l, vi 0]]) := by
 refine FTi Tryz.func6 fun w0 M0 F0 => Fb 8 0 fun _ => Fo 0 fun ho2 => ?_
 refine KS ?_
 refine Oq Va (KS ?_)
 refine Oq Vm (Oq (Vbd st65 [vl la0 lk0 l, vi 0]) (Oa (AbO [vl la0 lk0 l, vi 0]) fun p3 => Oq Va (KS ?_)))
 have hq := q4 hrr () (by simp only [g_New, cs4]); subst hq
 exact Kr p3 rfl (.tmp rfl .nil) [0] trivial
theorem fn39 (tP : Value) (ta : Option Addr) (tk : Nat) (tT : List Int) (tI : Int) (htI : 0 ≤ tI ∧ tI ≤ (tT.length : Int)) (rr : Int × Int) (hrr : tp_Width tT tI = rr) : FT Tryz.prog 39 #[tP] [Cl tP [vl ta tk tT, vi tI], S ta tk tT] (fun g : Unit => i64ok rr.1 ∧ (0 ≤ rr.2 ∧ rr.2 ≤ (tT.length : Int)) ∧ (0 ≤ rr.1 ∧ rr.1 ≤ 8)) (fun g => vi rr.1) (fun g => [Cl tP [vl ta tk tT, vi rr.2]]) := by
 refine FTi Tryz.func39 fun w0 M0 F0 => Fb 8 1 fun _ => Fo 1 fun ho2 => ?_
 refine KS ?_
 refine Oq Va (KS ?_)
 refine Oa (AsV sl22 sz22 [vi 3, vi 1, vi 4, vi 2, vi 6, vi 0, vi 8] [vi 3, vi 1, vi 4, vi 2, vi 6, vi 0, vi 8]) fun c3 => ?_
 refine Jo 0 ?_; rintro a4 k5 rfl
 refine Oq Vm ?_
 refine letv (tp_Next tT tI 7) fun rv6 hg7 => ?_
 have hc8 := fn9 tP ta tk tT tI 7 pre pre rv6 hg7
 refine Oc [1, 1] ca9 hc8 ?_
 rintro - ⟨he9, he10, he11⟩
 unfold i64ok at he9
 refine Jl [1] (Ent.crInt _ [3, 1, 4, 2, 6, 0, 8] _ _ rfl rfl (by intro x hx; simp only [List.mem_cons, List.not_mem_nil, or_false] at hx; rcases hx with rfl | rfl | rfl | rfl | rfl | rfl | rfl <;> (unfold i64ok; omega)) aB1) ?_
 refine Oq (Vi sl22 0) (Oq (VldI sh3 0) (Oq Va (KS ?_)))
 have hq := q4 hrr (([3, 1, 4, 2, 6, 0, 8].getD rv6.1.toNat 0), rv6.2) (by simp only [tp_Width, hg7, cs4]); subst hq
 exact Kr () rfl (.tmp rfl .nil) [1] ⟨(by rw [← hrr]; exact width_ok _ _), en, (by rw [← hrr]; exact width_rng _ _)⟩
theorem fn40 (l : List Int) (la0 : Option Addr) (lk0 : Nat) (n : Int) (hn_0 : i64ok n) (hl0 : l.length ≤ 1000000000) (rr : List Int) (hrr : r7_Insert l n = rr) : FT Tryz.prog 40 #[vl la0 lk0 l, vi n] [S la0 lk0 l] (fun g : Value => (rr.length ≤ l.length + 1)) (fun g => g) (fun g => [sl g rr]) := by
 refine FTi Tryz.func40 fun w0 M0 F0 => ?_
 unfold i64ok at hn_0
 refine Fb 8 0 fun _ => Fo 0 fun ho2 => KS ?_
 refine Oq Va (KS ?_)
 refine Oq Va (KS ?_)
 refine Kl (γ := Nat × Int) (fun (r3, i_4) => ⟨[(0, vl la0 lk0 l), (1, vi n), (5, vi i_4)], [S la0 lk0 l], r7_Insert_L0 l n r3 i_4 = r7_Insert_L0 l n (((l.length : Int) - 0).toNat) 0 ∧ r3 = ((l.length : Int) - i_4).toNat ∧ (0 : Int) ≤ i_4 ∧ i_4 ≤ (l.length : Int) ∧ (-9223372036854775808 ≤ i_4 ∧ i_4 ≤ 9223372036854775807), r3⟩) (((l.length : Int) - 0).toNat, 0) [0] ⟨rfl, rfl, aM1, aM1, aM1⟩ ?_
 rintro ⟨r3, i_4⟩ ⟨hM5, hr6, hi7, hi8, hk9⟩
 refine JJ_nx fun _ _ hL hA => ?_; dsimp only at hL hA; subst hL hA
 refine Fb 8 0 fun _ => Fo 0 fun ho11 => KS ?_
 refine Oq Vm (Oq Vm (Oq (Vlen sl22) (Oq Vlss (Oq Vm ?_))))
 refine Js 11 ?_ ?_
 ·intro h12
  have g13 := dt h12
  obtain ⟨r14, rfl⟩ := scc (n := r3) aM1
  refine Oq Vm (Oq Vm (Oq (Vi sl22 0) ?_))
  have hb15 := ok1 (i := i_4.toNat) ho11 rng
  refine Oq (VldI sh3 0) (Oq Vm (Oq Vlss (Oq Vpt (KS ?_))))
  refine Kc ?_ ?_
  ·intro h16
   have g17 := dt h16
   refine KS ?_
   refine Oq Vm (Oq Vadd (Oq Va (KS ?_)))
   exact Kg (r14, (i_4 + 1)) [0] ⟨(q3 hM5 (by simp only [r7_Insert_L0, h12, h16, cs4])), aM1, aM1, aM1, aM1⟩
  intro h16
  have g18 := df h16
  refine Ke ?_
  have hR19 := q2 hM5 i_4 (by simp only [r7_Insert_L0, h12, h16, cs4])
  refine KS ?_
  refine Oq Vm (Oq Vm (Oq (Vlen sl22) (Oq Vlss (Oq Vm ?_))))
  refine Js 25 ?_ ?_
  ·intro h20
   have g21 := dt h20
   refine Oq Vm (Oq Vm (Oq (Vi sl22 0) ?_))
   have hb22 := ok1 (i := i_4.toNat) ho11 rng
   refine Oq (VldI sh3 0) (Oq Vm (Oq Veql (Oq Vpt (KS ?_))))
   refine Kc ?_ ?_
   ·intro h23
    have g24 := eq_of_beq h23
    refine KS ?_
    refine Oq Vm (Oq Va (KS ?_))
    have hq := q4 hrr l (by simp only [r7_Insert, h12, h16, h20, h23, hR19, cs4]); subst hq
    exact Kr (vl la0 lk0 l) rfl (.tmp rfl .nil) [0] en
   intro h23
   have g25 := ne_of_beq_false h23
   refine KS ?_
   refine Oa (As0 sl22) fun c26 => ?_
   refine Jo 0 ?_; rintro a27 k28 rfl
   refine Oq Vm (Oq Vm (Oa (Asl [1] sl22 0 (i_4.toNat)) fun c29 => ?_))
   refine Jo 0 ?_; rintro a30 k31 rfl
   refine Fb 8 0 fun _ => Fo 0 fun ho33 => ?_
   have hn34 : ((l.take (i_4.toNat)).drop 0).length = (i_4.toNat) - 0 := len_slice rng rng
   refine Jl [1] (Ent.crNil (α := Int) _) ?_
   refine Oa (Ap0 [0, 0] sl22 sl22 sz22) fun c35 => ?_
   refine Jo 0 ?_; rintro a36 k37 rfl
   refine Oq Va (KS ?_)
   refine Oq Vm (Oq Vm (Oa (AsV sl22 sz22 [vi n] [vi n]) fun c38 => ?_))
   refine Jo 0 ?_; rintro a39 k40 rfl
   refine Jl [0] (Ent.crInt _ [n] _ _ rfl rfl (by intro x hx; rw [List.mem_singleton] at hx; subst hx; unfold i64ok; omega) aB1) ?_
   refine Oa (ApO [1, 0] sl22 sl22 sz22) fun c41 => ?_
   refine Jo 0 ?_; rintro a42 k43 rfl
   refine Fb 8 0 fun _ => Fo 0 fun ho45 => ?_
   have hn46 := la ((l.take (i_4.toNat)).drop 0) ([n] : List Int)
   refine Oq Va (KS ?_)
   refine Oq Vm (Oq Vm (Oq Vm (Oa (Asl [2] sl22 (i_4.toNat) l.length) fun c47 => ?_)))
   refine Jo 0 ?_; rintro a48 k49 rfl
   refine Fb 8 0 fun _ => Fo 0 fun ho51 => ?_
   have hn52 : ((l.take l.length).drop (i_4.toNat)).length = l.length - (i_4.toNat) := len_slice rng rng
   refine Oa (Ap [1, 0] sl22 sl22 sz22) fun c53 => ?_
   refine Jo 0 ?_; rintro a54 k55 rfl
   refine Fb 8 0 fun _ => Fo 0 fun ho57 => ?_
   have hn58 := la ((((l.take (i_4.toNat)).drop 0) ++ [n]) : List Int) ((l.take l.length).drop (i_4.toNat))
   refine Oq Va (KS ?_)
   refine Jl [0] (Ent.freeze _ _) ?_
   have hq := q4 hrr ((((l.take (i_4.toNat)).drop 0) ++ [n]) ++ ((l.take l.length).drop (i_4.toNat))) (by simp only [r7_Insert, h12, h16, h20, h23, hR19, cs4]); subst hq
   exact Kr (.slice a54 (((((l.take (i_4.toNat)).drop 0) ++ [n]) ++ ((l.take l.length).drop (i_4.toNat))).length) k55) rfl (.tmp rfl .nil) [0] en
  intro h20
  exact absurd h20 (by first | (simp [h12]; done) | (simp only [bne, h12]; decide) | (simp only [bne, h12, Bool.not_true, Bool.not_false]; decide) | (exfalso; omega) | (intro hq; simp only [bne, hq, Bool.not_false, Bool.not_true, reduceCtorEq] at h12))
 intro h12
 have g59 := df h12
 obtain rfl : r3 = 0 := by omega
 refine Osk (Osk (Osk (Osk (Osk (Osk (Oq Vpf (KS ?_)))))))
 refine Kf ?_
 refine Ke ?_
 have hR60 := q2 hM5 i_4 (by simp only [r7_Insert_L0, h12, cs4])
 refine KS ?_
 refine Oq Vm (Oq Vm (Oq (Vlen sl22) (Oq Vlss (Oq Vm ?_))))
 refine Js 25 ?_ ?_
 ·intro h61
  exact absurd h61 (by first | (simp [h12]; done) | (simp only [bne, h12]; decide) | (simp only [bne, h12, Bool.not_true, Bool.not_false]; decide) | (exfalso; omega) | (intro hq; simp only [bne, hq, Bool.not_false, Bool.not_true, reduceCtorEq] at h12))
 intro h61
 have g62 := df h61
 refine Osk (Osk (Osk (Osk (Osk (Osk (Oq Vpf (KS ?_)))))))
 refine Kf (KS ?_)
 refine Oa (As0 sl22) fun c63 => ?_
 refine Jo 0 ?_; rintro a64 k65 rfl
 refine Oq Vm (Oq Vm (Oa (Asl [1] sl22 0 (i_4.toNat)) fun c66 => ?_))
 refine Jo 0 ?_; rintro a67 k68 rfl
 refine Fb 8 0 fun _ => Fo 0 fun ho70 => ?_
 have hn71 : ((l.take (i_4.toNat)).drop 0).length = (i_4.toNat) - 0 := len_slice rng rng
 refine Jl [1] (Ent.crNil (α := Int) _) ?_
 refine Oa (Ap0 [0, 0] sl22 sl22 sz22) fun c72 => ?_
 refine Jo 0 ?_; rintro a73 k74 rfl
 refine Oq Va (KS ?_)
 refine Oq Vm (Oq Vm (Oa (AsV sl22 sz22 [vi n] [vi n]) fun c75 => ?_))
 refine Jo 0 ?_; rintro a76 k77 rfl
 refine Jl [0] (Ent.crInt _ [n] _ _ rfl rfl (by intro x hx; rw [List.mem_singleton] at hx; subst hx; unfold i64ok; omega) aB1) ?_
 refine Oa (ApO [1, 0] sl22 sl22 sz22) fun c78 => ?_
 refine Jo 0 ?_; rintro a79 k80 rfl
 refine Fb 8 0 fun _ => Fo 0 fun ho82 => ?_
 have hn83 := la ((l.take (i_4.toNat)).drop 0) ([n] : List Int)
 refine Oq Va (KS ?_)
 refine Oq Vm (Oq Vm (Oq Vm (Oa (Asl [2] sl22 (i_4.toNat) l.length) fun c84 => ?_)))
 refine Jo 0 ?_; rintro a85 k86 rfl
 refine Fb 8 0 fun _ => Fo 0 fun ho88 => ?_
 have hn89 : ((l.take l.length).drop (i_4.toNat)).length = l.length - (i_4.toNat) := len_slice rng rng
 refine Oa (Ap [1, 0] sl22 sl22 sz22) fun c90 => ?_
 refine Jo 0 ?_; rintro a91 k92 rfl
 refine Fb 8 0 fun _ => Fo 0 fun ho94 => ?_
 have hn95 := la ((((l.take (i_4.toNat)).drop 0) ++ [n]) : List Int) ((l.take l.length).drop (i_4.toNat))
 refine Oq Va (KS ?_)
 refine Jl [0] (Ent.freeze _ _) ?_
 have hq := q4 hrr ((((l.take (i_4.toNat)).drop 0) ++ [n]) ++ ((l.take l.length).drop (i_4.toNat))) (by simp only [r7_Insert, h12, h61, hR60, cs4]); subst hq
 exact Kr (.slice a91 (((((l.take (i_4.toNat)).drop 0) ++ [n]) ++ ((l.take l.length).drop (i_4.toNat))).length) k92) rfl (.tmp rfl .nil) [0] en
theorem fn41 (width : Int) (hwidth_0 : i64ok width) (hw0 : 0 ≤ width ∧ width ≤ 1000000) (rr : GSet) (hrr : r1_Empty width = rr) : FT Tryz.prog 41 #[vi width] [] (fun g : Value => i64ok rr.Width ∧ (rr.Width = width) ∧ (rr.Words.length = (((width : Int) + 63) / 64).toNat)) (fun g => .agg #[vi rr.Width, g]) (fun g => [os g rr.Words]) := by
 refine FTi Tryz.func41 fun w0 M0 F0 => ?_
 unfold i64ok at hwidth_0
 refine KS ?_
 refine Oa (Al ze39 [vi 0, .slice none 0 0]) fun p1 => KS ?_
 refine Oq Vm (Oq Vm (Oq Vadd (Oq Vquo (Oa (Amk (α := BitVec 64) sl37 sz37 0#64 (fun _ _ => rfl)) fun c2 => ?_))))
 refine Jo 0 ?_; rintro a3 k4 rfl
 refine Fb 8 0 fun _ => ?_
 have hn6 := List.length_replicate (n := (((width + 63) / 64) : Int).toNat) (a := (0#64 : BitVec 64))
 refine Oq (Vbd st39 [vi width, vl a3 k4 (List.replicate (((width + 63) / 64) : Int).toNat 0#64)]) (Ost (Scl [1] sh39 [vi width, vl a3 k4 (List.replicate (((width + 63) / 64) : Int).toNat 0#64)]) (KS ?_))
 have hq := q4 hrr (GSet.mk width (List.replicate (((width + 63) / 64) : Int).toNat 0#64)) (by simp only [r1_Empty, cs4]); subst hq
 exact Kr (vl a3 k4 (List.replicate (((width + 63) / 64) : Int).toNat 0#64)) rfl (.cellN 0 rfl sh39 rfl (reads_Cl _ _) rfl .nil) [1] en
theorem fn68 (s : GSet) (sa1 : Option Addr) (sk1 : Nat) (b : Int) (hs_0 : i64ok s.Width) (hb_0 : i64ok b) (hb0 : 0 ≤ b ∧ b < s.Width) (hw0 : s.Width ≤ 1000000) (rr : GSet) (hrr : r1_Put s b = rr) : FT Tryz.prog 68 #[.agg #[vi s.Width, vl sa1 sk1 s.Words], vi b] [S sa1 sk1 s.Words] (fun g : Value => i64ok rr.Width ∧ (rr.Width = s.Width) ∧ (rr.Words.length = ((s.Width + 63) / 64).toNat)) (fun g => .agg #[vi rr.Width, g]) (fun g => [os g rr.Words]) := by
 refine FTi Tryz.func68 fun w0 M0 F0 => ?_
 unfold i64ok at hs_0 hb_0
 refine Fb 8 0 fun _ => KS ?_
 refine Oa (Ab [vi s.Width, vl sa1 sk1 s.Words]) fun p2 => Oa (Al ze39 [vi 0, .slice none 0 0]) fun p3 => KS ?_
 refine Oq (Vfa fo39_0 1) (Oq (VldF sh3 1) ?_)
 refine letv (r1_Empty s.Width) fun rv5 hg6 => ?_
 have hc7 := fn41 s.Width pre pre rv5 hg6
 refine Oc [] ca41 hc7 ?_
 rintro c4 ⟨he8, he9, he10⟩
 unfold i64ok at he8
 refine Jo 0 ?_; rintro a11 k12 rfl
 refine Fb 8 0 fun _ => ?_
 refine Oa (Al ze39 [vi 0, .slice none 0 0]) fun p14 => Ost (Scl [0] sh39 [vi rv5.Width, vl a11 k12 rv5.Words]) (KS ?_)
 refine Oq (Vfa fo39_1 0) (Oq (VldF sh37 0) (Oq (Vfa fo39_1 3) (Oq (VldF sh37 3) (Oa (OpA.frame [1, 3] rfl (OpA.copyS (α := BitVec 64) rfl rfl rfl sl37 rfl)) fun u15 => ?_))))
 have hn16 : (s.Words.take rv5.Words.length ++ rv5.Words.drop s.Words.length).length = rv5.Words.length := len_copy _ _
 have hb17 : Nat.min s.Words.length rv5.Words.length ≤ s.Words.length := Nat.min_le_left _ _
 refine KS ?_
 refine Oq (Vfa fo39_1 1) (Oq (VldF sh37 1) (Oq Vm (Oq Vquo (Oq (Vi sl37 0) (Oq (VldU sh68 0) (Oq Vm (Oq Vrem (Oq (VcU un3 un69) (Oq (VshlU (a := 1#64)) ?_)))))))))
 refine Oq VorU (Oq (Vi sl37 0) (Ost (SoU [0] sh68) (KS ?_)))
 refine Oq (VldA sh39 1) (Ost (Scl [2] sh39 [vi rv5.Width, vl a11 k12 rv5.Words]) (KS ?_))
 have hq := q4 hrr (GSet.mk rv5.Width ((s.Words.take rv5.Words.length ++ rv5.Words.drop s.Words.length).set ((b / 64) : Int).toNat (((s.Words.take rv5.Words.length ++ rv5.Words.drop s.Words.length).getD ((b / 64) : Int).toNat 0#64) ||| (1#64 <<< (((BitVec.ofInt 64 (b % 64)).toNat : Int)).toNat)))) (by simp only [r1_Put, hg6, cs4]); subst hq
 exact Kr (vl a11 k12 rv5.Words) rfl (.cellN 0 rfl sh39 rfl (reads_Cl _ _) rfl .nil) [1] en
theorem fn42 (tP : Value) (ta : Option Addr) (tk : Nat) (tT : List Int) (tI : Int) (width : Int) (htI : 0 ≤ tI ∧ tI ≤ (tT.length : Int)) (hwidth_0 : i64ok width) (hw0 : 0 ≤ width ∧ width ≤ 1000) (rr : GSet × Int) (hrr : tp_Set tT tI width = rr) : FT Tryz.prog 42 #[tP, vi width] [Cl tP [vl ta tk tT, vi tI], S ta tk tT] (fun g : Value => i64ok rr.1.Width ∧ (0 ≤ rr.2 ∧ rr.2 ≤ (tT.length : Int)) ∧ (rr.1.Width = width) ∧ (rr.1.Words.length = (((width : Int) + 63) / 64).toNat)) (fun g => .agg #[vi rr.1.Width, g]) (fun g => [os g rr.1.Words, Cl tP [vl ta tk tT, vi rr.2]]) := by
 refine FTi Tryz.func42 fun w0 M0 F0 => ?_
 unfold i64ok at hwidth_0
 refine Fb 8 1 fun _ => Fo 1 fun ho2 => KS ?_
 refine Oa (Al ze39 [vi 0, .slice none 0 0]) fun p3 => KS ?_
 refine Oq Vm ?_
 refine letv (r1_Empty width) fun rv5 hg6 => ?_
 have hc7 := fn41 width pre pre rv5 hg6
 refine Oc [] ca41 hc7 ?_
 rintro c4 ⟨he8, he9, he10⟩
 unfold i64ok at he8
 refine Jo 0 ?_; rintro a11 k12 rfl
 refine Fb 8 0 fun _ => ?_
 refine Oa (Al ze39 [vi 0, .slice none 0 0]) fun p14 => Ost (Scl [0] sh39 [vi rv5.Width, vl a11 k12 rv5.Words]) (KS ?_)
 refine Oq Va (KS ?_)
 refine Kl (γ := Nat × Int × Int × List (BitVec 64) × Int × Option Addr × Nat) (fun (r15, ti_16, s0_17, s1_18, b_19, a20, k21) => ⟨[(0, tP), (1, vi width), (4, p3), (5, p14), (6, vi b_19)], [O a20 k21 s1_18, Cl p14 [vi s0_17, vl a20 k21 s1_18], Cl p3 [vi 0, .slice none 0 0], Cl tP [vl ta tk tT, vi ti_16], S ta tk tT], tp_Set_L0 tT r15 ti_16 s0_17 s1_18 b_19 = tp_Set_L0 tT (((width : Int) - 0).toNat) tI rv5.Width rv5.Words 0 ∧ r15 = ((width : Int) - b_19).toNat ∧ (0 : Int) ≤ b_19 ∧ (b_19 ≤ width ∨ b_19 = 0) ∧ (-9223372036854775808 ≤ ti_16 ∧ ti_16 ≤ 9223372036854775807) ∧ (0 ≤ ti_16 ∧ ti_16 ≤ (tT.length : Int)) ∧ (-9223372036854775808 ≤ s0_17 ∧ s0_17 ≤ 9223372036854775807) ∧ (-9223372036854775808 ≤ b_19 ∧ b_19 ≤ 9223372036854775807) ∧ s0_17 = width ∧ s1_18.length = (((width : Int) + 63) / 64).toNat, r15⟩) (((width : Int) - 0).toNat, tI, rv5.Width, rv5.Words, 0, a11, k12) [1, 0, 0, 0, 0] ⟨rfl, rfl, aM1, (.inr rfl), aM1, aM1, aM1, aM1, iv0, iv0⟩ ?_
 rintro ⟨r15, ti_16, s0_17, s1_18, b_19, a20, k21⟩ ⟨hM22, hr23, hi24, hi25, hk26, ht27, hk28, hk29, hv30, hv31⟩
 refine JJ_nx fun _ _ hL hA => ?_; dsimp only at hL hA; subst hL hA
 refine Fb 8 0 fun _ => Fb 8 4 fun _ => Fo 4 fun ho34 => KS ?_
 refine Oq Vm (Oq Vm (Oq Vlss (KS ?_)))
 refine Kc ?_ ?_
 ·intro h35
  have g36 := dt h35
  obtain ⟨r37, rfl⟩ := scc (n := r15) aM1
  refine KS ?_
  refine Oq Vm ?_
  refine letv (tp_Next tT ti_16 3) fun rv38 hg39 => ?_
  have hc40 := fn9 tP ta tk tT ti_16 3 pre pre rv38 hg39
  refine Oc [3, 3] ca9 hc40 ?_
  rintro - ⟨he41, he42, he43⟩
  unfold i64ok at he41
  refine Oq Veql (KS ?_)
  refine Kc ?_ ?_
  ·intro h44
   have g45 := eq_of_beq h44
   refine KS ?_
   refine Oq (VldA sh39 2) (Oq Vm ?_)
   refine letv (r1_Put (GSet.mk s0_17 s1_18) b_19) fun rv47 hg48 => ?_
   refine Oc [1] ca68 (FT_borrow (A := _) hlx (FT_ent (Ent.take (is := [0]) rfl) (fn68 ((GSet.mk s0_17 s1_18)) a20 k21 b_19 pre pre pre pre rv47 hg48))) ?_ (ht := rfl)
   rintro c46 ⟨he49, he50, he51⟩
   unfold i64ok at he49
   have he50 : (rv47.Width = s0_17) := he50
   have he51 : (rv47.Words.length = ((s0_17 + 63) / 64).toNat) := he51
   refine Jo 1 ?_; rintro a52 k53 rfl
   refine Fb 8 1 fun _ => ?_
   refine Ost (Scl [3] sh39 [vi rv47.Width, vl a52 k53 rv47.Words]) (KS ?_)
   refine Oq Vm (Oq Vadd (Oq Va (KS ?_)))
   exact Kg (r37, rv38.2, rv47.Width, rv47.Words, (b_19 + 1), a52, k53) [2, 0, 2, 1, 1] ⟨(q3 hM22 (by simp only [tp_Set_L0, h35, h44, hg39, hg48, cs4])), aM1, aM1, aM1, aM1, aM1, aM1, aM1, iv1, iv1⟩
  intro h44
  have g55 := ne_of_beq_false h44
  refine KS ?_
  refine Oq Vm (Oq Vadd (Oq Va (KS ?_)))
  exact Kg (r37, rv38.2, s0_17, s1_18, (b_19 + 1), a20, k21) [1, 1, 1, 0, 0] ⟨(q3 hM22 (by simp only [tp_Set_L0, h35, h44, hg39, cs4])), aM1, aM1, aM1, aM1, aM1, aM1, aM1, iv1, iv1⟩
 intro h35
 have g56 := df h35
 obtain rfl : r15 = 0 := by omega
 refine Ke ?_
 have hR57 := q2 hM22 (ti_16, s0_17, s1_18) (by simp only [tp_Set_L0, h35, cs4])
 refine KS ?_
 refine Oq (VldA sh39 1) (Ost (Scl [2] sh39 [vi s0_17, vl a20 k21 s1_18]) (KS ?_))
 have hq := q4 hrr ((GSet.mk s0_17 s1_18), ti_16) (by simp only [tp_Set, h35, hg6, hR57, cs4]); subst hq
 exact Kr (vl a20 k21 s1_18) rfl (.cellN 0 rfl sh39 rfl (reads_Cl _ _) rfl .nil) [1, 2] en
theorem fn43 (tP : Value) (ta : Option Addr) (tk : Nat) (tT : List Int) (tI : Int) (width : Int) (htI : 0 ≤ tI ∧ tI ≤ (tT.length : Int)) (hwidth_0 : i64ok width) (hw0 : 0 ≤ width ∧ width ≤ 1000) (rr : GTransfer × Int) (hrr : tp_Transfer tT tI width = rr) : FT Tryz.prog 43 #[tP, vi width] [Cl tP [vl ta tk tT, vi tI], S ta tk tT] (fun g : Value × Value × Value => i64ok rr.1.Gen.Width ∧ i64ok rr.1.Kill.Width ∧ (0 ≤ rr.2 ∧ rr.2 ≤ (tT.length : Int)) ∧ (rr.1.Gen.Width = width) ∧ (rr.1.Kill.Width = width) ∧ (rr.1.Copies.length ≤ 12)) (fun g => .agg #[vi rr.1.Gen.Width, g.1, vi rr.1.Kill.Width, g.2.1, g.2.2]) (fun g => [sl g.1 rr.1.Gen.Words, sl g.2.1 rr.1.Kill.Words, sl g.2.2 rr.1.Copies, Cl tP [vl ta tk tT, vi rr.2]]) := by
 refine FTi Tryz.func43 fun w0 M0 F0 => ?_
 unfold i64ok at hwidth_0
 refine Fb 8 1 fun _ => Fo 1 fun ho2 => KS ?_
 refine Oa (Al ze85 [vi 0, .slice none 0 0, vi 0, .slice none 0 0, .slice none 0 0]) fun p3 => KS ?_
 refine Oq Vm ?_
 refine letv (r1_Empty width) fun rv5 hg6 => ?_
 have hc7 := fn41 width pre pre rv5 hg6
 refine Oc [] ca41 hc7 ?_
 rintro c4 ⟨he8, he9, he10⟩
 unfold i64ok at he8
 refine Jo 0 ?_; rintro a11 k12 rfl
 refine Fb 8 0 fun _ => Oq Vm ?_
 have hc15 := fn41 width pre pre rv5 hg6
 refine Oc [] ca41 hc15 ?_
 rintro c14 ⟨he16, he17, he18⟩
 unfold i64ok at he16
 refine Jo 0 ?_; rintro a19 k20 rfl
 refine Oq (Vbd st85 [vi rv5.Width, vl a11 k12 rv5.Words, vi rv5.Width, vl a19 k20 rv5.Words, .slice none 0 0]) (Oa (Al ze85 [vi 0, .slice none 0 0, vi 0, .slice none 0 0, .slice none 0 0]) fun p21 => Ost (Scl [0] sh85 [vi rv5.Width, vl a11 k12 rv5.Words, vi rv5.Width, vl a19 k20 rv5.Words, .slice none 0 0]) (KS ?_))
 refine Oq Va (KS ?_)
 refine Kl (γ := Nat × Int × Int × List (BitVec 64) × Int × List (BitVec 64) × Int × Option Addr × Nat × Option Addr × Nat) (fun (r22, ti_23, f0_24, f1_25, f2_26, f3_27, b_28, a29, k30, a31, k32) => ⟨[(0, tP), (1, vi width), (4, p3), (5, p21), (6, vi b_28)], [O a31 k32 f3_27, O a29 k30 f1_25, Cl p21 [vi f0_24, vl a29 k30 f1_25, vi f2_26, vl a31 k32 f3_27, .slice none 0 0], Cl p3 [vi 0, .slice none 0 0, vi 0, .slice none 0 0, .slice none 0 0], Cl tP [vl ta tk tT, vi ti_23], S ta tk tT], tp_Transfer_L0 tT r22 ti_23 f0_24 f1_25 f2_26 f3_27 b_28 = tp_Transfer_L0 tT (((width : Int) - 0).toNat) tI rv5.Width rv5.Words rv5.Width rv5.Words 0 ∧ r22 = ((width : Int) - b_28).toNat ∧ (0 : Int) ≤ b_28 ∧ (b_28 ≤ width ∨ b_28 = 0) ∧ (-9223372036854775808 ≤ ti_23 ∧ ti_23 ≤ 9223372036854775807) ∧ (0 ≤ ti_23 ∧ ti_23 ≤ (tT.length : Int)) ∧ (-9223372036854775808 ≤ f0_24 ∧ f0_24 ≤ 9223372036854775807) ∧ (-9223372036854775808 ≤ f2_26 ∧ f2_26 ≤ 9223372036854775807) ∧ (-9223372036854775808 ≤ b_28 ∧ b_28 ≤ 9223372036854775807) ∧ f0_24 = width ∧ f1_25.length = (((width : Int) + 63) / 64).toNat ∧ f2_26 = width ∧ f3_27.length = (((width : Int) + 63) / 64).toNat, r22⟩) (((width : Int) - 0).toNat, tI, rv5.Width, rv5.Words, rv5.Width, rv5.Words, 0, a11, k12, a19, k20) [1, 1, 0, 0, 0, 0] ⟨rfl, rfl, aM1, (.inr rfl), aM1, aM1, aM1, aM1, aM1, iv0, iv0, iv0, iv0⟩ ?_
 rintro ⟨r22, ti_23, f0_24, f1_25, f2_26, f3_27, b_28, a29, k30, a31, k32⟩ ⟨hM33, hr34, hi35, hi36, hk37, ht38, hk39, hk40, hk41, hv42, hv43, hv44, hv45⟩
 refine JJ_nx fun _ _ hL hA => ?_; dsimp only at hL hA; subst hL hA
 refine Fb 8 0 fun _ => Fb 8 1 fun _ => Fb 8 5 fun _ => Fo 5 fun ho49 => KS ?_
 refine Oq Vm (Oq Vm (Oq Vlss (KS ?_)))
 refine Kc ?_ ?_
 ·intro h50
  have g51 := dt h50
  obtain ⟨r52, rfl⟩ := scc (n := r22) aM1
  refine KS ?_
  refine Oq Vm ?_
  refine letv (tp_Next tT ti_23 6) fun rv53 hg54 => ?_
  have hc55 := fn9 tP ta tk tT ti_23 6 pre pre rv53 hg54
  refine Oc [4, 4] ca9 hc55 ?_
  rintro - ⟨he56, he57, he58⟩
  unfold i64ok at he56
  refine KS ?_
  refine Oq Veql (Oq Va (KS ?_))
  refine Kc ?_ ?_
  ·intro h59
   have g60 := eq_of_beq h59
   refine KS ?_
   refine Oq (Vfa fo85_0 3) (Oq (VldG sh39 3 [vi f0_24, vl a29 k30 f1_25]) (Oq Vm ?_))
   refine letv (r1_Put (GSet.mk f0_24 f1_25) b_28) fun rv62 hg63 => ?_
   refine Oc [2] ca68 (FT_borrow (A := _) hlx (FT_ent (Ent.take (is := [0]) rfl) (fn68 ((GSet.mk f0_24 f1_25)) a29 k30 b_28 pre pre pre pre rv62 hg63))) ?_ (ht := rfl)
   rintro c61 ⟨he64, he65, he66⟩
   unfold i64ok at he64
   have he65 : (rv62.Width = f0_24) := he65
   have he66 : (rv62.Words.length = ((f0_24 + 63) / 64).toNat) := he66
   refine Jo 1 ?_; rintro a67 k68 rfl
   refine Fb 8 1 fun _ => ?_
   refine Oq (Vfa fo85_0 4) (Ost (SclF [4] sh39 [vi rv62.Width, vl a67 k68 rv62.Words, vi f2_26, vl a31 k32 f3_27, .slice none 0 0]) (KS ?_))
   refine Oq Vm (Oq Vadd (Oq Va (KS ?_)))
   exact Kg (r52, rv53.2, rv62.Width, rv62.Words, f2_26, f3_27, (b_28 + 1), a67, k68, a31, k32) [4, 2, 0, 2, 1, 1] ⟨(q3 hM33 (by simp only [tp_Transfer_L0, h50, h59, hg54, hg63, cs4])), aM1, aM1, aM1, aM1, aM1, aM1, aM1, aM1, iv1, iv1, iv1, iv1⟩
  intro h59
  have g70 := ne_of_beq_false h59
  refine KS ?_
  refine Oq Veql (Oq Va (KS ?_))
  refine Kc ?_ ?_
  ·intro h71
   have g72 := eq_of_beq h71
   refine KS ?_
   refine Kc ?_ ?_
   ·intro h73
    have g74 := eq_of_beq h73
    refine KS ?_
    refine Oq (Vfa fo85_1 3) (Oq (VldG sh39 3 [vi f2_26, vl a31 k32 f3_27]) (Oq Vm ?_))
    refine letv (r1_Put (GSet.mk f2_26 f3_27) b_28) fun rv76 hg77 => ?_
    refine Oc [1] ca68 (FT_borrow (A := _) hlx (FT_ent (Ent.take (is := [0]) rfl) (fn68 ((GSet.mk f2_26 f3_27)) a31 k32 b_28 pre pre pre pre rv76 hg77))) ?_ (ht := rfl)
    rintro c75 ⟨he78, he79, he80⟩
    unfold i64ok at he78
    have he79 : (rv76.Width = f2_26) := he79
    have he80 : (rv76.Words.length = ((f2_26 + 63) / 64).toNat) := he80
    refine Jo 1 ?_; rintro a81 k82 rfl
    refine Fb 8 1 fun _ => ?_
    refine Oq (Vfa fo85_1 4) (Ost (SclF [4] sh39 [vi f0_24, vl a29 k30 f1_25, vi rv76.Width, vl a81 k82 rv76.Words, .slice none 0 0]) (KS ?_))
    refine Oq Vm (Oq Vadd (Oq Va (KS ?_)))
    exact Kg (r52, rv53.2, f0_24, f1_25, rv76.Width, rv76.Words, (b_28 + 1), a29, k30, a81, k82) [2, 3, 0, 2, 1, 1] ⟨(q3 hM33 (by simp only [tp_Transfer_L0, h50, h59, h71, h73, hg54, hg77, cs4])), aM1, aM1, aM1, aM1, aM1, aM1, aM1, aM1, iv1, iv1, iv1, iv1⟩
   intro h73
   exact absurd h73 (by first | (simp [h71]; done) | (simp only [bne, h71]; decide) | (simp only [bne, h71, Bool.not_true, Bool.not_false]; decide) | (exfalso; omega) | (intro hq; simp only [bne, hq, Bool.not_false, Bool.not_true, reduceCtorEq] at h71))
  intro h71
  have g84 := ne_of_beq_false h71
  refine KS ?_
  refine Oq Veql (Oq Va (KS ?_))
  refine Kc ?_ ?_
  ·intro h85
   have g86 := eq_of_beq h85
   refine KS ?_
   refine Oq (Vfa fo85_1 3) (Oq (VldG sh39 3 [vi f2_26, vl a31 k32 f3_27]) (Oq Vm ?_))
   refine letv (r1_Put (GSet.mk f2_26 f3_27) b_28) fun rv88 hg89 => ?_
   refine Oc [1] ca68 (FT_borrow (A := _) hlx (FT_ent (Ent.take (is := [0]) rfl) (fn68 ((GSet.mk f2_26 f3_27)) a31 k32 b_28 pre pre pre pre rv88 hg89))) ?_ (ht := rfl)
   rintro c87 ⟨he90, he91, he92⟩
   unfold i64ok at he90
   have he91 : (rv88.Width = f2_26) := he91
   have he92 : (rv88.Words.length = ((f2_26 + 63) / 64).toNat) := he92
   refine Jo 1 ?_; rintro a93 k94 rfl
   refine Fb 8 1 fun _ => ?_
   refine Oq (Vfa fo85_1 4) (Ost (SclF [4] sh39 [vi f0_24, vl a29 k30 f1_25, vi rv88.Width, vl a93 k94 rv88.Words, .slice none 0 0]) (KS ?_))
   refine Oq Vm (Oq Vadd (Oq Va (KS ?_)))
   exact Kg (r52, rv53.2, f0_24, f1_25, rv88.Width, rv88.Words, (b_28 + 1), a29, k30, a93, k94) [2, 3, 0, 2, 1, 1] ⟨(q3 hM33 (by simp only [tp_Transfer_L0, h50, h59, h71, h85, hg54, hg89, cs4])), aM1, aM1, aM1, aM1, aM1, aM1, aM1, aM1, iv1, iv1, iv1, iv1⟩
  intro h85
  have g96 := ne_of_beq_false h85
  refine KS ?_
  refine Oq Vm (Oq Vadd (Oq Va (KS ?_)))
  exact Kg (r52, rv53.2, f0_24, f1_25, f2_26, f3_27, (b_28 + 1), a29, k30, a31, k32) [1, 1, 1, 1, 0, 0] ⟨(q3 hM33 (by simp only [tp_Transfer_L0, h50, h59, h71, h85, hg54, cs4])), aM1, aM1, aM1, aM1, aM1, aM1, aM1, aM1, iv1, iv1, iv1, iv1⟩
 intro h50
 have g97 := df h50
 obtain rfl : r22 = 0 := by omega
 refine Ke ?_
 have hR98 := q2 hM33 (ti_23, f0_24, f1_25, f2_26, f3_27) (by simp only [tp_Transfer_L0, h50, cs4])
 refine KS ?_
 refine Oq Va (KS ?_)
 refine Jl [] (Ent.osNil (α := GCopy)) ?_
 refine Kl (γ := Nat × Int × List GCopy × Int × Option Addr × Nat) (fun (r99, ti_100, f4_101, a_102, a103, k104) => ⟨[(0, tP), (1, vi width), (4, p3), (5, p21), (7, vi a_102)], [O a103 k104 f4_101, O a31 k32 f3_27, O a29 k30 f1_25, Cl p21 [vi f0_24, vl a29 k30 f1_25, vi f2_26, vl a31 k32 f3_27, vl a103 k104 f4_101], Cl p3 [vi 0, .slice none 0 0, vi 0, .slice none 0 0, .slice none 0 0], Cl tP [vl ta tk tT, vi ti_100], S ta tk tT], tp_Transfer_L1 tT width r99 ti_100 f4_101 a_102 = tp_Transfer_L1 tT width (((width : Int) - 0).toNat) ti_23 [] 0 ∧ r99 = ((width : Int) - a_102).toNat ∧ (0 : Int) ≤ a_102 ∧ (a_102 ≤ width ∨ a_102 = 0) ∧ (-9223372036854775808 ≤ ti_100 ∧ ti_100 ≤ 9223372036854775807) ∧ (0 ≤ ti_100 ∧ ti_100 ≤ (tT.length : Int)) ∧ (-9223372036854775808 ≤ a_102 ∧ a_102 ≤ 9223372036854775807) ∧ f4_101.length ≤ 12, r99⟩) (((width : Int) - 0).toNat, ti_23, [], 0, none, 0) [0, 0, 0, 0, 0, 0, 0] ⟨rfl, rfl, aM1, (.inr rfl), aM1, aM1, aM1, iv0⟩ ?_
 rintro ⟨r99, ti_100, f4_101, a_102, a103, k104⟩ ⟨hM105, hr106, hi107, hi108, hk109, ht110, hk111, hv112⟩
 refine JJ_nx fun _ _ hL hA => ?_; dsimp only at hL hA; subst hL hA
 refine Fb 16 0 fun _ => Fb 8 1 fun _ => Fb 8 2 fun _ => Fb 8 6 fun _ => Fo 6 fun ho117 => KS ?_
 refine Oq Vm (Oq Vm (Oq Vlss (KS ?_)))
 refine Kc ?_ ?_
 ·intro h118
  have g119 := dt h118
  obtain ⟨r120, rfl⟩ := scc (n := r99) aM1
  refine KS ?_
  refine Oq Va (KS ?_)
  refine Kl (γ := Nat × Int × List GCopy × Int × Option Addr × Nat) (fun (r121, ti_122, f4_123, b_124, a125, k126) => ⟨[(0, tP), (1, vi width), (4, p3), (5, p21), (7, vi a_102), (8, vi b_124)], [O a125 k126 f4_123, O a31 k32 f3_27, O a29 k30 f1_25, Cl p21 [vi f0_24, vl a29 k30 f1_25, vi f2_26, vl a31 k32 f3_27, vl a125 k126 f4_123], Cl p3 [vi 0, .slice none 0 0, vi 0, .slice none 0 0, .slice none 0 0], Cl tP [vl ta tk tT, vi ti_122], S ta tk tT], tp_Transfer_L2 tT width a_102 r121 ti_122 f4_123 b_124 = tp_Transfer_L2 tT width a_102 (((width : Int) - 0).toNat) ti_100 f4_101 0 ∧ r121 = ((width : Int) - b_124).toNat ∧ (0 : Int) ≤ b_124 ∧ (b_124 ≤ width ∨ b_124 = 0) ∧ (-9223372036854775808 ≤ ti_122 ∧ ti_122 ≤ 9223372036854775807) ∧ (0 ≤ ti_122 ∧ ti_122 ≤ (tT.length : Int)) ∧ (-9223372036854775808 ≤ b_124 ∧ b_124 ≤ 9223372036854775807) ∧ f4_123.length ≤ 12, r121⟩) (((width : Int) - 0).toNat, ti_100, f4_101, 0, a103, k104) [0, 0, 0, 0, 0, 0, 0] ⟨rfl, rfl, aM1, (.inr rfl), aM1, aM1, aM1, iv0⟩ ?_
  rintro ⟨r121, ti_122, f4_123, b_124, a125, k126⟩ ⟨hM127, hr128, hi129, hi130, hk131, ht132, hk133, hv134⟩
  refine JJ_nx fun _ _ hL hA => ?_; dsimp only at hL hA; subst hL hA
  refine Fb 16 0 fun _ => Fb 8 1 fun _ => Fb 8 2 fun _ => Fb 8 6 fun _ => Fo 6 fun ho139 => KS ?_
  refine Oq Vm (Oq Vm (Oq Vlss (Oq Vm ?_)))
  refine Js 44 ?_ ?_
  ·intro h140
   have g141 := dt h140
   obtain ⟨r142, rfl⟩ := scc (n := r121) aM1
   refine Oq (Vfa fo85_2 3) (Oq (VldF sh83 3) (Oq (Vlen sl83) (Oq Vlss (Oq Vpt (KS ?_)))))
   refine Kc ?_ ?_
   ·intro h143
    have g144 := dt h143
    refine KS ?_
    refine Oq Vm (Oq Vm (Oq Vmul ?_))
    refine letv (tp_Next tT ti_122 (2 * width)) fun rv145 hg146 => ?_
    have hc147 := fn9 tP ta tk tT ti_122 ((2 * width)) pre pre rv145 hg146
    refine Oc [5, 5] ca9 hc147 ?_
    rintro - ⟨he148, he149, he150⟩
    unfold i64ok at he148
    refine Oq Veql (KS ?_)
    refine Kc ?_ ?_
    ·intro h151
     have g152 := eq_of_beq h151
     refine KS ?_
     refine Oq (Vfa fo85_2 4) (Oq (VldF sh83 4) (Oq Vm (Oq Vm (Oq (Vbd st108 [vi a_102, vi b_124]) (Oa (AsV sl83 sz83 [.agg #[vi a_102, vi b_124]] [vi a_102, vi b_124]) fun c153 => ?_)))))
     refine Jo 0 ?_; rintro a154 k155 rfl
     refine Jl [0] (Ent.cr1 (α := GCopy) (A := []) _ (GCopy.mk a_102 b_124) _ aB1 (fun h => ⟨rfl, aL1, aL1⟩)) ?_
     refine Oa (ApO [2, 0] sl83 sl83 sz83) fun c156 => ?_
     refine Jo 0 ?_; rintro a157 k158 rfl
     refine Fb 16 0 fun _ => ?_
     have hn160 := la f4_123 ([(GCopy.mk a_102 b_124)] : List GCopy)
     refine Oq (Vfa fo85_2 4) (Ost (SclF [4] sh83 [vi f0_24, vl a29 k30 f1_25, vi f2_26, vl a31 k32 f3_27, vl a157 k158 (f4_123 ++ [(GCopy.mk a_102 b_124)])]) (KS ?_))
     refine Oq Vm (Oq Vadd (Oq Va (KS ?_)))
     exact Kg (r142, rv145.2, (f4_123 ++ [(GCopy.mk a_102 b_124)]), (b_124 + 1), a157, k158) [1, 2, 2, 0, 1, 0, 0] ⟨(q3 hM127 (by simp only [tp_Transfer_L2, h140, h143, h151, hg146, cs4])), aM1, aM1, aM1, aM1, aM1, aM1, iv1⟩
    intro h151
    have g161 := ne_of_beq_false h151
    refine KS ?_
    refine Oq Vm (Oq Vadd (Oq Va (KS ?_)))
    exact Kg (r142, rv145.2, f4_123, (b_124 + 1), a125, k126) [1, 1, 1, 1, 1, 0, 0] ⟨(q3 hM127 (by simp only [tp_Transfer_L2, h140, h143, h151, hg146, cs4])), aM1, aM1, aM1, aM1, aM1, aM1, iv1⟩
   intro h143
   have g162 := df h143
   refine Ke ?_
   have hR163 := q2 hM127 (ti_122, f4_123) (by simp only [tp_Transfer_L2, h140, h143, cs4])
   refine KS ?_
   refine Oq Vm (Oq Vadd (Oq Va (KS ?_)))
   exact Kg (r120, ti_122, f4_123, (a_102 + 1), a125, k126) [0, 0, 0, 0, 0, 0, 0] ⟨(q3 hM105 (by simp only [tp_Transfer_L1, h118, h140, h143, hR163, cs4])), aM1, aM1, aM1, aM1, aM1, aM1, iv1⟩
  intro h140
  have g164 := df h140
  obtain rfl : r121 = 0 := by omega
  refine Osk (Osk (Osk (Osk (Oq Vpf (KS ?_)))))
  refine Kf ?_
  refine Ke ?_
  have hR165 := q2 hM127 (ti_122, f4_123) (by simp only [tp_Transfer_L2, h140, cs4])
  refine KS ?_
  refine Oq Vm (Oq Vadd (Oq Va (KS ?_)))
  exact Kg (r120, ti_122, f4_123, (a_102 + 1), a125, k126) [0, 0, 0, 0, 0, 0, 0] ⟨(q3 hM105 (by simp only [tp_Transfer_L1, h118, h140, hR165, cs4])), aM1, aM1, aM1, aM1, aM1, aM1, iv1⟩
 intro h118
 have g166 := df h118
 obtain rfl : r99 = 0 := by omega
 refine Ke ?_
 have hR167 := q2 hM105 (ti_100, f4_101) (by simp only [tp_Transfer_L1, h118, cs4])
 refine KS ?_
 refine Oq (VldA sh85 3) (Ost (Scl [4] sh85 [vi f0_24, vl a29 k30 f1_25, vi f2_26, vl a31 k32 f3_27, vl a103 k104 f4_101]) (KS ?_))
 refine Jl [3] (Ent.freeze _ _) ?_
 refine Jl [3] (Ent.freeze _ _) ?_
 refine Jl [3] (Ent.freeze _ _) ?_
 have hq := q4 hrr ((GTransfer.mk (GSet.mk f0_24 f1_25) (GSet.mk f2_26 f3_27) f4_101), ti_100) (by simp only [tp_Transfer, h50, h118, hg6, hR98, hR167, cs4]); subst hq
 exact Kr (vl a29 k30 f1_25, vl a31 k32 f3_27, vl a103 k104 f4_101) rfl (.cellN 3 rfl sh85 rfl (reads_Cl _ _) rfl .nil) [2, 1, 0, 5] en
theorem fn19 (tP : Value) (ta : Option Addr) (tk : Nat) (tT : List Int) (tI : Int) (n : Int) (htI : 0 ≤ tI ∧ tI ≤ (tT.length : Int)) (hn_0 : i64ok n) (hn0 : 0 ≤ n ∧ n ≤ 1000) (rr : GSystem × Int) (hrr : tp_System tT tI n = rr) : FT Tryz.prog 19 #[tP, vi n] [Cl tP [vl ta tk tT, vi tI], S ta tk tT] (fun g : Value × Value × Value => i64ok rr.1.Width ∧ (0 ≤ rr.2 ∧ rr.2 ≤ (tT.length : Int)) ∧ (rr.1.Deps.length ≤ 1001)) (fun g => .agg #[vi rr.1.Width, g.1, g.2.1, g.2.2]) (fun g => [sl g.1 rr.1.Deps, sl g.2.1 rr.1.Transfers, sl g.2.2 rr.1.Boundary, Cl tP [vl ta tk tT, vi rr.2]]) := by
 refine FTi Tryz.func19 fun w0 M0 F0 => ?_
 unfold i64ok at hn_0
 refine Fb 8 1 fun _ => Fo 1 fun ho2 => KS ?_
 refine Oa (Al ze32 [vi 0, .slice none 0 0, .slice none 0 0, .slice none 0 0]) fun p3 => KS ?_
 refine Oq Vm ?_
 refine letv (tp_Width tT tI) fun rv4 hg5 => ?_
 have hc6 := fn39 tP ta tk tT tI pre rv4 hg5
 refine Oc [1, 1] ca39 hc6 ?_
 rintro - ⟨he7, he8, he9⟩
 unfold i64ok at he7
 refine Oq Vrem (Oq (Vbd st32 [vi (rv4.1 % 5), .slice none 0 0, .slice none 0 0, .slice none 0 0]) (Oa (Al ze32 [vi 0, .slice none 0 0, .slice none 0 0, .slice none 0 0]) fun p10 => Ost (Scl [0] sh32 [vi (rv4.1 % 5), .slice none 0 0, .slice none 0 0, .slice none 0 0]) (KS ?_)))
 refine Oq Vm (Oq Vm ?_)
 refine letv (tp_Next tT rv4.2 n) fun rv11 hg12 => ?_
 have hc13 := fn9 tP ta tk tT rv4.2 n pre pre rv11 hg12
 refine Oc [1, 2] ca9 hc13 ?_
 rintro - ⟨he14, he15, he16⟩
 unfold i64ok at he14
 refine Oq Vadd (Oq Va (KS ?_))
 refine Oq Va (KS ?_)
 refine Jl [] (Ent.osNil (α := (List Int))) ?_
 refine Jl [] (Ent.osNil (α := GTransfer)) ?_
 refine Jl [] (Ent.osNil (α := GSet)) ?_
 refine Kl (γ := Nat × Int × List (List Int) × List GTransfer × List GSet × Int × Option Addr × Nat × Option Addr × Nat × Option Addr × Nat) (fun (r17, ti_18, s1_19, s2_20, s3_21, i_22, a23, k24, a25, k26, a27, k28) => ⟨[(0, tP), (4, p3), (5, p10), (1, vi (1 + rv11.1)), (6, vi i_22)], [O a27 k28 s3_21, O a25 k26 s2_20, O a23 k24 s1_19, Cl tP [vl ta tk tT, vi ti_18], Cl p10 [vi (rv4.1 % 5), vl a23 k24 s1_19, vl a25 k26 s2_20, vl a27 k28 s3_21], Cl p3 [vi 0, .slice none 0 0, .slice none 0 0, .slice none 0 0], S ta tk tT], tp_System_L0 tT (1 + rv11.1) (rv4.1 % 5) r17 ti_18 s1_19 s2_20 s3_21 i_22 = tp_System_L0 tT (1 + rv11.1) (rv4.1 % 5) ((((1 + rv11.1) : Int) - 0).toNat) rv11.2 [] [] [] 0 ∧ r17 = (((1 + rv11.1) : Int) - i_22).toNat ∧ (0 : Int) ≤ i_22 ∧ i_22 ≤ (1 + rv11.1) ∧ (-9223372036854775808 ≤ ti_18 ∧ ti_18 ≤ 9223372036854775807) ∧ (0 ≤ ti_18 ∧ ti_18 ≤ (tT.length : Int)) ∧ (-9223372036854775808 ≤ i_22 ∧ i_22 ≤ 9223372036854775807) ∧ (s1_19.length : Int) = i_22 ∧ (s2_20.length : Int) = i_22 ∧ (s3_21.length : Int) = i_22, r17⟩) ((((1 + rv11.1) : Int) - 0).toNat, rv11.2, [], [], [], 0, none, 0, none, 0, none, 0) [0, 0, 0, 0, 0, 0, 0] ⟨rfl, rfl, aM1, aM1, aM1, aM1, aM1, iv0, iv0, iv0⟩ ?_
 rintro ⟨r17, ti_18, s1_19, s2_20, s3_21, i_22, a23, k24, a25, k26, a27, k28⟩ ⟨hM29, hr30, hi31, hi32, hk33, ht34, hk35, hv36, hv37, hv38⟩
 refine JJ_nx fun _ _ hL hA => ?_; dsimp only at hL hA; subst hL hA
 refine Fb 32 0 fun _ => Fb 88 1 fun _ => Fb 24 2 fun _ => Fb 8 6 fun _ => Fo 6 fun ho43 => KS ?_
 refine Oq Vm (Oq Vm (Oq Vlss (KS ?_)))
 refine Kc ?_ ?_
 ·intro h44
  have g45 := dt h44
  obtain ⟨r46, rfl⟩ := scc (n := r17) aM1
  refine KS ?_
  refine Oq Va (KS ?_)
  refine Oq Vm ?_
  refine letv (tp_Next tT ti_18 4) fun rv47 hg48 => ?_
  have hc49 := fn9 tP ta tk tT ti_18 4 pre pre rv47 hg48
  refine Oc [3, 5] ca9 hc49 ?_
  rintro - ⟨he50, he51, he52⟩
  unfold i64ok at he50
  refine Oq Va (KS ?_)
  refine Jl [] (Ent.slNil (α := Int)) ?_
  refine Kl (γ := Nat × Int × List Int × Int × Option Addr × Nat) (fun (r53, ti_54, d_55, k_56, a57, k58) => ⟨[(0, tP), (4, p3), (5, p10), (1, vi (1 + rv11.1)), (6, vi i_22), (7, vl a57 k58 d_55), (8, vi k_56)], [S a57 k58 d_55, Cl tP [vl ta tk tT, vi ti_54], O a27 k28 s3_21, O a25 k26 s2_20, O a23 k24 s1_19, Cl p10 [vi (rv4.1 % 5), vl a23 k24 s1_19, vl a25 k26 s2_20, vl a27 k28 s3_21], Cl p3 [vi 0, .slice none 0 0, .slice none 0 0, .slice none 0 0], S ta tk tT], tp_System_L1 tT (1 + rv11.1) r53 ti_54 d_55 k_56 = tp_System_L1 tT (1 + rv11.1) (rv47.1.toNat) rv47.2 [] rv47.1 ∧ r53 = k_56.toNat ∧ k_56 ≤ (rv47.1 : Int) ∧ (-9223372036854775808 ≤ ti_54 ∧ ti_54 ≤ 9223372036854775807) ∧ (0 ≤ ti_54 ∧ ti_54 ≤ (tT.length : Int)) ∧ (-9223372036854775808 ≤ k_56 ∧ k_56 ≤ 9223372036854775807) ∧ (d_55.length : Int) + k_56 ≤ 4, r53⟩) (rv47.1.toNat, rv47.2, [], rv47.1, none, 0) [0, 1, 1, 1, 1, 1, 1, 1] ⟨rfl, rfl, aM1, aM1, aM1, aM1, iv0⟩ ?_
  rintro ⟨r53, ti_54, d_55, k_56, a57, k58⟩ ⟨hM59, hr60, hi61, hk62, ht63, hk64, hv65⟩
  refine JJ_nx fun _ _ hL hA => ?_; dsimp only at hL hA; subst hL hA
  refine Fb 8 0 fun _ => Fo 0 fun ho67 => Fb 32 2 fun _ => Fb 88 3 fun _ => Fb 24 4 fun _ => Fb 8 7 fun _ => Fo 7 fun ho72 => KS ?_
  refine Oq Vm (Oq Vgtr (KS ?_))
  refine Kc ?_ ?_
  ·intro h73
   have g74 := dt h73
   obtain ⟨r75, rfl⟩ := scc (n := r53) aM1
   refine KS ?_
   refine Oq Vm (Oq Vm (Oq Vm ?_))
   refine letv (tp_Next tT ti_54 (1 + rv11.1)) fun rv76 hg77 => ?_
   have hc78 := fn9 tP ta tk tT ti_54 ((1 + rv11.1)) pre pre rv76 hg77
   refine Oc [1, 6] ca9 hc78 ?_
   rintro - ⟨he79, he80, he81⟩
   unfold i64ok at he79
   refine letv (r7_Insert d_55 rv76.1) fun rv83 hg84 => ?_
   have hc85 := fn40 d_55 a57 k58 rv76.1 pre pre rv83 hg84
   refine Oc [1] ca40 hc85 ?_
   rintro c82 he86
   refine Jo 0 ?_; rintro a87 k88 rfl
   refine Fb 8 0 fun _ => Fo 0 fun ho90 => ?_
   refine Oq Va (KS ?_)
   refine Oq Vm (Oq Vsub (Oq Va (KS ?_)))
   exact Kg (r75, rv76.2, rv83, (k_56 - 1), a87, k88) [0, 1, 2, 2, 2, 2, 2, 2] ⟨(q3 hM59 (by simp only [tp_System_L1, h73, hg77, hg84, cs4])), aM1, aM1, aM1, aM1, aM1, iv1⟩
  intro h73
  have g91 := df h73
  obtain rfl : r53 = 0 := by omega
  refine Ke ?_
  have hR92 := q2 hM59 (ti_54, d_55) (by simp only [tp_System_L1, h73, cs4])
  refine KS ?_
  refine Oq (Vfa fo32_0 5) (Oq (VldF sh3 5) ?_)
  refine letv (r1_Empty (rv4.1 % 5)) fun rv94 hg95 => ?_
  have hc96 := fn41 ((rv4.1 % 5)) pre pre rv94 hg95
  refine Oc [] ca41 hc96 ?_
  rintro c93 ⟨he97, he98, he99⟩
  unfold i64ok at he97
  refine Jo 0 ?_; rintro a100 k101 rfl
  refine Fb 8 0 fun _ => ?_
  refine Oa (Al ze39 [vi 0, .slice none 0 0]) fun p103 => Ost (Scl [0] sh39 [vi rv94.Width, vl a100 k101 rv94.Words]) (KS ?_)
  refine Oq Vm ?_
  refine letv (tp_Next tT ti_54 3) fun rv104 hg105 => ?_
  have hc106 := fn9 tP ta tk tT ti_54 3 pre pre rv104 hg105
  refine Oc [3, 8] ca9 hc106 ?_
  rintro - ⟨he107, he108, he109⟩
  unfold i64ok at he107
  refine Oq Veql (KS ?_)
  refine Kc ?_ ?_
  ·intro h110
   have g111 := eq_of_beq h110
   refine KS ?_
   refine Oq Vm (Oq (Vfa fo32_0 7) (Oq (VldF sh3 7) ?_))
   refine letv (tp_Set tT rv104.2 (rv4.1 % 5)) fun rv113 hg114 => ?_
   have hc115 := fn42 tP ta tk tT rv104.2 ((rv4.1 % 5)) pre pre pre rv113 hg114
   refine Oc [0, 8] ca42 hc115 ?_
   rintro c112 ⟨he116, he117, he118, he119⟩
   unfold i64ok at he116
   refine Jo 0 ?_; rintro a120 k121 rfl
   refine Fb 8 0 fun _ => ?_
   refine Ost (Scl [2] sh39 [vi rv113.1.Width, vl a120 k121 rv113.1.Words]) (KS ?_)
   refine Jp 8 fun hp123 => ?_
   refine JK_drawK [0, 1, 0, 4, 15, 0, 32, 0, 128, 511, 0, 1024, 0, 0, 8192, 29695, 62463, 131071, 27775, 524287, 1048575, 2097151, 4194303, 8388607] fmix ?_
   refine Dv [0] (Vfa fo32_1 0) (Dv [9] (VldF sh29 0) (Dv [] Vm (Dx [] [] [0] (fun G => (G.g 3 0)) [fun G => Cr (G.g 3 0) 1 [vl a57 k58 d_55]] (fun G => xA (AsV sl29 sz29 [vl a57 k58 d_55] [vl a57 k58 d_55])) ?_)))
   have hn126 := la s1_19 ([d_55] : List (List Int))
   refine Dx [5, 8, 12] [8, 12] [1, 0] (fun G => (G.g 4 0)) [fun G => os (G.g 4 0) ((s1_19 ++ [d_55]) : List (List Int))] (fun G => xp [2, 0] rfl (Ent.cr1 (α := List Int) (A := [S a57 k58 d_55]) _ d_55 _ aB1 (fun h => ⟨_, rfl, sepAll_get (i := 0) rfl h⟩)) (xA (ApO [3, 0] sl29 sl29 sz29))) (Dv [0] (Vfa fo32_3 0) (Dv [9] (VldF sh24 0) (Dv [1] (VldA sh39 0) (Dx [] [] [0] (fun G => (G.g 8 0)) [fun G => Cr (G.g 8 0) 1 [vi rv113.1.Width, vl a120 k121 rv113.1.Words]] (fun G => xA (AsV sl24 sz24 [.agg #[vi rv113.1.Width, vl a120 k121 rv113.1.Words]] [vi rv113.1.Width, vl a120 k121 rv113.1.Words])) ?_))))
   have hn129 := la s3_21 ([rv113.1] : List GSet)
   refine Dx [2, 6, 14] [2, 6, 14] [1, 0] (fun G => (G.g 9 0)) [fun G => S a120 k121 rv113.1.Words, fun G => os (G.g 9 0) ((s3_21 ++ [rv113.1]) : List GSet)] (fun G => xp [0] rfl (Ent.freeze _ _) (xp [2, 0] rfl (Ent.cr1 (α := GSet) (A := [S a120 k121 rv113.1.Words]) _ rv113.1 _ aB1 (fun h => ⟨_, rfl, aL1, sepAll_get (i := 0) rfl h⟩)) (xA (ApO [3, 0] sl24 sl24 sz24)))) (Dv [0] (Vfa fo32_2 0) (Dv [9] (VldF sh30 0) (Dv [] Vm (Dv [0] (Vfa fo32_0 0) (Dv [9] (VldF sh3 0) ?_)))))
   refine letv (tp_Transfer tT rv113.2 (rv4.1 % 5)) fun rv133 hg134 => ?_
   refine Dx [3, 11] [3] [5, 0, 1, 2, 3, 4] (fun G => .agg #[vi rv133.1.Gen.Width, (G.g 15 0), vi rv133.1.Kill.Width, (G.g 15 1), (G.g 15 2)]) [fun G => SP.fact (i64ok rv133.1.Gen.Width ∧ i64ok rv133.1.Kill.Width ∧ (0 ≤ rv133.2 ∧ rv133.2 ≤ (tT.length : Int)) ∧ (rv133.1.Gen.Width = (rv4.1 % 5)) ∧ (rv133.1.Kill.Width = (rv4.1 % 5)) ∧ (rv133.1.Copies.length ≤ 12)), fun G => sl (G.g 15 0) rv133.1.Gen.Words, fun G => sl (G.g 15 1) rv133.1.Kill.Words, fun G => sl (G.g 15 2) rv133.1.Copies, fun G => Cl tP [vl ta tk tT, vi rv133.2]] (fun G => xC [0, 0] ca43 (fn43 tP ta tk tT rv113.2 ((rv4.1 % 5)) pre pre pre rv133 hg134)) (Dx [] [] [0] (fun G => (G.g 16 0)) [fun G => Cr (G.g 16 0) 1 [vi rv133.1.Gen.Width, (G.g 15 0), vi rv133.1.Kill.Width, (G.g 15 1), (G.g 15 2)]] (fun G => xA (AsV sl30 sz30 [.agg #[vi rv133.1.Gen.Width, (G.g 15 0), vi rv133.1.Kill.Width, (G.g 15 1), (G.g 15 2)]] [vi rv133.1.Gen.Width, (G.g 15 0), vi rv133.1.Kill.Width, (G.g 15 1), (G.g 15 2)])) ?_)
   have hn137 := la s2_20 ([rv133.1] : List GTransfer)
   refine Dx [7, 17, 18, 19, 20, 22] [7, 22] [4, 1, 2, 3, 0] (fun G => (G.g 17 0)) [fun G => os (G.g 17 0) ((s2_20 ++ [rv133.1]) : List GTransfer)] (fun G => by refine xf 1 rfl ?_; rintro ⟨he138, he139, he140, he141, he142, he143⟩; unfold i64ok at he138 he139; exact xp [5, 2, 3, 4] rfl (Ent.cr1 (α := GTransfer) (A := [sl (G.g 15 0) rv133.1.Gen.Words, sl (G.g 15 1) rv133.1.Kill.Words, sl (G.g 15 2) rv133.1.Copies]) _ rv133.1 _ aB1 (fun h => ⟨_, _, _, rfl, aL1, sepAll_get (i := 0) rfl h, aL1, sepAll_get (i := 1) rfl h, sepAll_get (i := 2) rfl h⟩)) (xA (ApO [4, 0] sl30 sl30 sz30))) (Dv [0] (Vfa fo32_1 0) (Dx0 [9, 13] [9] [1, 0] [fun G => Cl p10 [vi (rv4.1 % 5), (G.g 4 0), vl a25 k26 s2_20, vl a27 k28 s3_21]] (fun G => x1 1 rfl os_one fun ho144 => (xS (OpS.frame [0] rfl (OpS.storeClF [(G.g 4 0)] [vi (rv4.1 % 5), (G.g 4 0), vl a25 k26 s2_20, vl a27 k28 s3_21] rfl rfl rfl sh29 (cells_of_one ho144) rfl (by simp only [List.all_cons, List.all_nil, ho144, Bool.and_true, Bool.true_and] <;> rfl) aB1 rfl)))) (Dv [0] (Vfa fo32_3 0) (Dx0 [16, 24] [24] [1, 0] [fun G => Cl p10 [vi (rv4.1 % 5), (G.g 4 0), vl a25 k26 s2_20, (G.g 9 0)]] (fun G => x1 0 rfl os_one fun ho145 => (xS (OpS.frame [1] rfl (OpS.storeClF [(G.g 9 0)] [vi (rv4.1 % 5), (G.g 4 0), vl a25 k26 s2_20, (G.g 9 0)] rfl rfl rfl sh24 (cells_of_one ho145) rfl (by simp only [List.all_cons, List.all_nil, ho145, Bool.and_true, Bool.true_and] <;> rfl) aB1 rfl)))) (Dv [0] (Vfa fo32_2 0) (Dx0 [23, 25] [25] [1, 0] [fun G => Cl p10 [vi (rv4.1 % 5), (G.g 4 0), (G.g 17 0), (G.g 9 0)]] (fun G => x1 0 rfl os_one fun ho146 => (xS (OpS.frame [1] rfl (OpS.storeClF [(G.g 17 0)] [vi (rv4.1 % 5), (G.g 4 0), (G.g 17 0), (G.g 9 0)] rfl rfl rfl sh30 (cells_of_one ho146) rfl (by simp only [List.all_cons, List.all_nil, ho146, Bool.and_true, Bool.true_and] <;> rfl) aB1 rfl)))) ?_))))))
   refine Dn ⟨by kernel_rfl, fun G => ?_⟩
   refine Jw2 [(0, tP), (4, p3), (5, p10), (1, vi (1 + rv11.1)), (6, vi i_22)] [0, 1, 4, 5, 10, 11] [os (G.g 4 0) ((s1_19 ++ [d_55]) : List (List Int)), S a120 k121 rv113.1.Words, os (G.g 9 0) ((s3_21 ++ [rv113.1]) : List GSet), SP.fact (i64ok rv133.1.Gen.Width ∧ i64ok rv133.1.Kill.Width ∧ (0 ≤ rv133.2 ∧ rv133.2 ≤ (tT.length : Int)) ∧ (rv133.1.Gen.Width = (rv4.1 % 5)) ∧ (rv133.1.Kill.Width = (rv4.1 % 5)) ∧ (rv133.1.Copies.length ≤ 12)), sl (G.g 15 0) rv133.1.Gen.Words, sl (G.g 15 1) rv133.1.Kill.Words, sl (G.g 15 2) rv133.1.Copies, Cl tP [vl ta tk tT, vi rv133.2], os (G.g 17 0) ((s2_20 ++ [rv133.1]) : List GTransfer), Cl p10 [vi (rv4.1 % 5), (G.g 4 0), (G.g 17 0), (G.g 9 0)]] ?_
   generalize G.g 4 0 = c125, G.g 9 0 = c128, G.g 15 0 = c130, G.g 15 1 = c131, G.g 15 2 = c132, G.g 17 0 = c136
   refine Jf 9 rfl ?_; rintro ⟨he147, he148, he149, he150, he151, he152⟩
   unfold i64ok at he147 he148
   refine Jk [1, 1, 1, 2, 2, 3, 3, 4, 5, 6, 7, 8, 8, 8] ?_
   refine Jo 5 ?_; rintro a153 k154 rfl
   refine Fb 24 5 fun _ => ?_
   refine Jo 7 ?_; rintro a156 k157 rfl
   refine Fb 32 7 fun _ => ?_
   refine Jo 8 ?_; rintro a159 k160 rfl
   refine Fb 8 8 fun _ => ?_
   refine Jo 9 ?_; rintro a162 k163 rfl
   refine Fb 8 9 fun _ => ?_
   refine Jo 10 ?_; rintro a165 k166 rfl
   refine Fb 16 10 fun _ => ?_
   refine Jo 12 ?_; rintro a168 k169 rfl
   refine Fb 88 12 fun _ => KS ?_
   refine Oq Vm (Oq Vadd (Oq Va (KS ?_)))
   exact Kg (r46, rv133.2, (s1_19 ++ [d_55]), (s2_20 ++ [rv133.1]), (s3_21 ++ [rv113.1]), (i_22 + 1), a153, k154, a168, k169, a156, k157) [7, 11, 5, 9, 9, 3, 3] ⟨(q3 hM29 (by simp only [tp_System_L0, h44, h73, h110, hg48, hR92, hg95, hg105, hg114, hg134, cs4])), aM1, aM1, aM1, aM1, aM1, aM1, iv1, iv1, iv1⟩
  intro h110
  have g171 := ne_of_beq_false h110
  refine KS ?_
  refine Jp 7 fun hp172 => ?_
  refine JK_drawK [0, 1, 0, 4, 15, 0, 32, 0, 128, 511, 0, 1024, 0, 0, 8192, 29695, 62463, 131071, 27775, 524287, 1048575, 2097151, 4194303, 8388607] fmix ?_
  refine Dv [0] (Vfa fo32_1 0) (Dv [8] (VldF sh29 0) (Dv [] Vm (Dx [] [] [0] (fun G => (G.g 3 0)) [fun G => Cr (G.g 3 0) 1 [vl a57 k58 d_55]] (fun G => xA (AsV sl29 sz29 [vl a57 k58 d_55] [vl a57 k58 d_55])) ?_)))
  have hn175 := la s1_19 ([d_55] : List (List Int))
  refine Dx [4, 7, 11] [7, 11] [1, 0] (fun G => (G.g 4 0)) [fun G => os (G.g 4 0) ((s1_19 ++ [d_55]) : List (List Int))] (fun G => xp [2, 0] rfl (Ent.cr1 (α := List Int) (A := [S a57 k58 d_55]) _ d_55 _ aB1 (fun h => ⟨_, rfl, sepAll_get (i := 0) rfl h⟩)) (xA (ApO [3, 0] sl29 sl29 sz29))) (Dv [0] (Vfa fo32_3 0) (Dv [8] (VldF sh24 0) (Dv [2] (VldA sh39 0) (Dx [] [] [0] (fun G => (G.g 8 0)) [fun G => Cr (G.g 8 0) 1 [vi rv94.Width, vl a100 k101 rv94.Words]] (fun G => xA (AsV sl24 sz24 [.agg #[vi rv94.Width, vl a100 k101 rv94.Words]] [vi rv94.Width, vl a100 k101 rv94.Words])) ?_))))
  have hn178 := la s3_21 ([rv94] : List GSet)
  refine Dx [3, 5, 13] [3, 5, 13] [1, 0] (fun G => (G.g 9 0)) [fun G => S a100 k101 rv94.Words, fun G => os (G.g 9 0) ((s3_21 ++ [rv94]) : List GSet)] (fun G => xp [0] rfl (Ent.freeze _ _) (xp [2, 0] rfl (Ent.cr1 (α := GSet) (A := [S a100 k101 rv94.Words]) _ rv94 _ aB1 (fun h => ⟨_, rfl, aL1, sepAll_get (i := 0) rfl h⟩)) (xA (ApO [3, 0] sl24 sl24 sz24)))) (Dv [0] (Vfa fo32_2 0) (Dv [8] (VldF sh30 0) (Dv [] Vm (Dv [0] (Vfa fo32_0 0) (Dv [8] (VldF sh3 0) ?_)))))
  refine letv (tp_Transfer tT rv104.2 (rv4.1 % 5)) fun rv182 hg183 => ?_
  refine Dx [1, 10] [1] [5, 0, 1, 2, 3, 4] (fun G => .agg #[vi rv182.1.Gen.Width, (G.g 15 0), vi rv182.1.Kill.Width, (G.g 15 1), (G.g 15 2)]) [fun G => SP.fact (i64ok rv182.1.Gen.Width ∧ i64ok rv182.1.Kill.Width ∧ (0 ≤ rv182.2 ∧ rv182.2 ≤ (tT.length : Int)) ∧ (rv182.1.Gen.Width = (rv4.1 % 5)) ∧ (rv182.1.Kill.Width = (rv4.1 % 5)) ∧ (rv182.1.Copies.length ≤ 12)), fun G => sl (G.g 15 0) rv182.1.Gen.Words, fun G => sl (G.g 15 1) rv182.1.Kill.Words, fun G => sl (G.g 15 2) rv182.1.Copies, fun G => Cl tP [vl ta tk tT, vi rv182.2]] (fun G => xC [0, 0] ca43 (fn43 tP ta tk tT rv104.2 ((rv4.1 % 5)) pre pre pre rv182 hg183)) (Dx [] [] [0] (fun G => (G.g 16 0)) [fun G => Cr (G.g 16 0) 1 [vi rv182.1.Gen.Width, (G.g 15 0), vi rv182.1.Kill.Width, (G.g 15 1), (G.g 15 2)]] (fun G => xA (AsV sl30 sz30 [.agg #[vi rv182.1.Gen.Width, (G.g 15 0), vi rv182.1.Kill.Width, (G.g 15 1), (G.g 15 2)]] [vi rv182.1.Gen.Width, (G.g 15 0), vi rv182.1.Kill.Width, (G.g 15 1), (G.g 15 2)])) ?_)
  have hn186 := la s2_20 ([rv182.1] : List GTransfer)
  refine Dx [6, 16, 17, 18, 19, 21] [6, 21] [4, 1, 2, 3, 0] (fun G => (G.g 17 0)) [fun G => os (G.g 17 0) ((s2_20 ++ [rv182.1]) : List GTransfer)] (fun G => by refine xf 1 rfl ?_; rintro ⟨he187, he188, he189, he190, he191, he192⟩; unfold i64ok at he187 he188; exact xp [5, 2, 3, 4] rfl (Ent.cr1 (α := GTransfer) (A := [sl (G.g 15 0) rv182.1.Gen.Words, sl (G.g 15 1) rv182.1.Kill.Words, sl (G.g 15 2) rv182.1.Copies]) _ rv182.1 _ aB1 (fun h => ⟨_, _, _, rfl, aL1, sepAll_get (i := 0) rfl h, aL1, sepAll_get (i := 1) rfl h, sepAll_get (i := 2) rfl h⟩)) (xA (ApO [4, 0] sl30 sl30 sz30))) (Dv [0] (Vfa fo32_1 0) (Dx0 [8, 12] [8] [1, 0] [fun G => Cl p10 [vi (rv4.1 % 5), (G.g 4 0), vl a25 k26 s2_20, vl a27 k28 s3_21]] (fun G => x1 1 rfl os_one fun ho193 => (xS (OpS.frame [0] rfl (OpS.storeClF [(G.g 4 0)] [vi (rv4.1 % 5), (G.g 4 0), vl a25 k26 s2_20, vl a27 k28 s3_21] rfl rfl rfl sh29 (cells_of_one ho193) rfl (by simp only [List.all_cons, List.all_nil, ho193, Bool.and_true, Bool.true_and] <;> rfl) aB1 rfl)))) (Dv [0] (Vfa fo32_3 0) (Dx0 [15, 23] [23] [1, 0] [fun G => Cl p10 [vi (rv4.1 % 5), (G.g 4 0), vl a25 k26 s2_20, (G.g 9 0)]] (fun G => x1 0 rfl os_one fun ho194 => (xS (OpS.frame [1] rfl (OpS.storeClF [(G.g 9 0)] [vi (rv4.1 % 5), (G.g 4 0), vl a25 k26 s2_20, (G.g 9 0)] rfl rfl rfl sh24 (cells_of_one ho194) rfl (by simp only [List.all_cons, List.all_nil, ho194, Bool.and_true, Bool.true_and] <;> rfl) aB1 rfl)))) (Dv [0] (Vfa fo32_2 0) (Dx0 [22, 24] [24] [1, 0] [fun G => Cl p10 [vi (rv4.1 % 5), (G.g 4 0), (G.g 17 0), (G.g 9 0)]] (fun G => x1 0 rfl os_one fun ho195 => (xS (OpS.frame [1] rfl (OpS.storeClF [(G.g 17 0)] [vi (rv4.1 % 5), (G.g 4 0), (G.g 17 0), (G.g 9 0)] rfl rfl rfl sh30 (cells_of_one ho195) rfl (by simp only [List.all_cons, List.all_nil, ho195, Bool.and_true, Bool.true_and] <;> rfl) aB1 rfl)))) ?_))))))
  refine Dn ⟨by kernel_rfl, fun G => ?_⟩
  refine Jw2 [(0, tP), (4, p3), (5, p10), (1, vi (1 + rv11.1)), (6, vi i_22)] [0, 2, 4, 9, 10] [os (G.g 4 0) ((s1_19 ++ [d_55]) : List (List Int)), S a100 k101 rv94.Words, os (G.g 9 0) ((s3_21 ++ [rv94]) : List GSet), SP.fact (i64ok rv182.1.Gen.Width ∧ i64ok rv182.1.Kill.Width ∧ (0 ≤ rv182.2 ∧ rv182.2 ≤ (tT.length : Int)) ∧ (rv182.1.Gen.Width = (rv4.1 % 5)) ∧ (rv182.1.Kill.Width = (rv4.1 % 5)) ∧ (rv182.1.Copies.length ≤ 12)), sl (G.g 15 0) rv182.1.Gen.Words, sl (G.g 15 1) rv182.1.Kill.Words, sl (G.g 15 2) rv182.1.Copies, Cl tP [vl ta tk tT, vi rv182.2], os (G.g 17 0) ((s2_20 ++ [rv182.1]) : List GTransfer), Cl p10 [vi (rv4.1 % 5), (G.g 4 0), (G.g 17 0), (G.g 9 0)]] ?_
  generalize G.g 4 0 = c174, G.g 9 0 = c177, G.g 15 0 = c179, G.g 15 1 = c180, G.g 15 2 = c181, G.g 17 0 = c185
  refine Jf 8 rfl ?_; rintro ⟨he196, he197, he198, he199, he200, he201⟩
  unfold i64ok at he196 he197
  refine Jk [1, 1, 2, 2, 3, 3, 4, 5, 6, 7, 8, 8, 8] ?_
  refine Jo 4 ?_; rintro a202 k203 rfl
  refine Fb 24 4 fun _ => ?_
  refine Jo 6 ?_; rintro a205 k206 rfl
  refine Fb 32 6 fun _ => ?_
  refine Jo 7 ?_; rintro a208 k209 rfl
  refine Fb 8 7 fun _ => ?_
  refine Jo 8 ?_; rintro a211 k212 rfl
  refine Fb 8 8 fun _ => ?_
  refine Jo 9 ?_; rintro a214 k215 rfl
  refine Fb 16 9 fun _ => ?_
  refine Jo 11 ?_; rintro a217 k218 rfl
  refine Fb 88 11 fun _ => KS ?_
  refine Oq Vm (Oq Vadd (Oq Va (KS ?_)))
  exact Kg (r46, rv182.2, (s1_19 ++ [d_55]), (s2_20 ++ [rv182.1]), (s3_21 ++ [rv94]), (i_22 + 1), a202, k203, a217, k218, a205, k206) [6, 10, 4, 8, 8, 2, 2] ⟨(q3 hM29 (by simp only [tp_System_L0, h44, h73, h110, hg48, hR92, hg95, hg105, hg183, cs4])), aM1, aM1, aM1, aM1, aM1, aM1, iv1, iv1, iv1⟩
 intro h44
 have g220 := df h44
 obtain rfl : r17 = 0 := by omega
 refine Ke ?_
 have hR221 := q2 hM29 (ti_18, s1_19, s2_20, s3_21) (by simp only [tp_System_L0, h44, cs4])
 refine KS ?_
 refine Oq (VldA sh32 4) (Ost (Scl [5] sh32 [vi (rv4.1 % 5), vl a23 k24 s1_19, vl a25 k26 s2_20, vl a27 k28 s3_21]) (KS ?_))
 refine Jl [3] (Ent.freeze _ _) ?_
 refine Jl [3] (Ent.freeze _ _) ?_
 refine Jl [3] (Ent.freeze _ _) ?_
 have hq := q4 hrr ((GSystem.mk (rv4.1 % 5) s1_19 s2_20 s3_21), ti_18) (by simp only [tp_System, h44, hg5, hg12, hR221, cs4]); subst hq
 exact Kr (vl a23 k24 s1_19, vl a25 k26 s2_20, vl a27 k28 s3_21) rfl (.cellN 3 rfl sh32 rfl (reads_Cl _ _) rfl .nil) [2, 1, 0, 4] en
theorem fn86 (l : List Int) (la0 : Option Addr) (lk0 : Nat) (n : Int) (hn_0 : i64ok n) (rr : Bool) (hrr : r7_Rising l n = rr) : FT Tryz.prog 86 #[vl la0 lk0 l, vi n] [S la0 lk0 l] (fun g : Unit => True) (fun g => vb rr) (fun g => []) := by
 refine FTi Tryz.func86 fun w0 M0 F0 => ?_
 unfold i64ok at hn_0
 refine Fb 8 0 fun _ => Fo 0 fun ho2 => KS ?_
 refine Oq Va (KS ?_)
 refine Oq Va (KS ?_)
 refine Kl (γ := Nat × Int) (fun (r3, i_4) => ⟨[(0, vl la0 lk0 l), (1, vi n), (5, vi i_4)], [S la0 lk0 l], r7_Rising_L0 l n r3 i_4 = r7_Rising_L0 l n (((l.length : Int) - 0).toNat) 0 ∧ r3 = ((l.length : Int) - i_4).toNat ∧ (0 : Int) ≤ i_4 ∧ i_4 ≤ (l.length : Int) ∧ (-9223372036854775808 ≤ i_4 ∧ i_4 ≤ 9223372036854775807), r3⟩) (((l.length : Int) - 0).toNat, 0) [0] ⟨rfl, rfl, aM1, aM1, aM1⟩ ?_
 rintro ⟨r3, i_4⟩ ⟨hM5, hr6, hi7, hi8, hk9⟩
 refine JJ_nx fun _ _ hL hA => ?_; dsimp only at hL hA; subst hL hA
 refine Fb 8 0 fun _ => Fo 0 fun ho11 => KS ?_
 refine Oq Vm (Oq Vm (Oq (Vlen sl22) (Oq Vlss (KS ?_))))
 refine Kc ?_ ?_
 ·intro h12
  have g13 := dt h12
  obtain ⟨r14, rfl⟩ := scc (n := r3) aM1
  refine KS ?_
  refine Kq [0, 0, 3, 7, 15, 31, 63, 63, 255, 511, 63, 2047, 4095, 8191, 16383, 32767, 65535, 131071, 131071, 393215, 1048575, 2097151, 131071, 131071, 12713983, 29491199, 67108863, 134217727, 268435455] fmix ?_
  refine Qv [] Vm (Qv [] Vm (Qv [0] (Vi sl22 0) ?_))
  have hb15 := ok1 (i := i_4.toNat) ho11 rng
  refine Qv [0] (VldI sh3 0) (Qv [] Vlss ?_)
  refine bool_split (decide ((l.getD i_4.toNat 0) < 0)) ?_ ?_
  ·intro h16
   have g17 := dt h16
   refine Qb h16 [] Vm (Qs (Qs (Qs (Qs (Qs (Qs (Qv [] Vpt (Qv [] Vm (Qs ?_)))))))))
   refine Qs (Qs (Qs (Qs (Qs (Qs (Qs (Qs (Qs (Qs ?_)))))))))
   refine Qs (Qs (Qs (Qv [] Vpt ?_)))
   refine Qn ⟨by kernel_rfl, ?_⟩
   refine Kt (KS ?_)
   refine Oq Va (KS ?_)
   have hR18 := q2 hM5 (.ret false) (by simp only [r7_Rising_L0, h12, h16, cs4])
   have hq := q4 hrr false (by simp only [r7_Rising, h12, h16, hR18, cs4]); subst hq
   exact Kr () rfl (.tmp rfl .nil) [] trivial
  intro h16
  have g19 := df h16
  refine Qb h16 [] Vm (Qv [] Vm (Qv [] Vm (Qv [0] (Vi sl22 0) ?_)))
  have hb20 := ok1 (i := i_4.toNat) ho11 rng
  refine Qv [0] (VldI sh3 0) (Qv [] Vm (Qv [] Vgeq (Qv [] Vpf ?_)))
  refine bool_split (decide (n ≤ (l.getD i_4.toNat 0))) ?_ ?_
  ·intro h21
   have g22 := dt h21
   refine Qb h21 [] Vm (Qs (Qs (Qs (Qs (Qs (Qs (Qs (Qs (Qs ?_)))))))))
   refine Qs (Qs (Qs (Qs (Qs (Qv [] Vpt ?_)))))
   refine Qn ⟨by kernel_rfl, ?_⟩
   refine Kt (KS ?_)
   refine Oq Va (KS ?_)
   have hR23 := q2 hM5 (.ret false) (by simp only [r7_Rising_L0, h12, h16, h21, cs4])
   have hq := q4 hrr false (by simp only [r7_Rising, h12, h16, h21, hR23, cs4]); subst hq
   exact Kr () rfl (.tmp rfl .nil) [] trivial
  intro h21
  have g24 := df h21
  refine Qb h21 [] Vm (Qv [] Vm (Qv [] Vgtr ?_))
  refine bool_split (decide (0 < i_4)) ?_ ?_
  ·intro h25
   have g26 := dt h25
   refine Qb h25 [] Vm (Qv [] Vm (Qv [] Vm (Qv [] Vsub (Qv [0] (Vi sl22 0) ?_))))
   have hb27 := ok1 (i := ((i_4 - 1) : Int).toNat) ho11 rng
   refine Qv [0] (VldI sh3 0) (Qv [] Vm (Qv [] Vm (Qv [0] (Vi sl22 0) ?_)))
   have hb28 := ok1 (i := i_4.toNat) ho11 rng
   refine Qv [0] (VldI sh3 0) (Qv [] Vgeq (Qv [] Vpt (Qv [] Vpf ?_)))
   refine Qn ⟨by kernel_rfl, ?_⟩
   refine Kc ?_ ?_
   ·intro h29
    have g30 := dt h29
    refine KS ?_
    refine Oq Va (KS ?_)
    have hR31 := q2 hM5 (.ret false) (by simp only [r7_Rising_L0, h12, h16, h21, h25, h29, cs4])
    have hq := q4 hrr false (by simp only [r7_Rising, h12, h16, h21, h25, h29, hR31, cs4]); subst hq
    exact Kr () rfl (.tmp rfl .nil) [] trivial
   intro h29
   have g32 := df h29
   refine KS ?_
   refine Oq Vm (Oq Vadd (Oq Va (KS ?_)))
   exact Kg (r14, (i_4 + 1)) [0] ⟨(q3 hM5 (by simp only [r7_Rising_L0, h12, h16, h21, h25, h29, cs4])), aM1, aM1, aM1, aM1⟩
  intro h25
  have g33 := df h25
  refine Qb h25 [] Vm (Qs (Qs (Qs (Qs (Qs (Qs (Qs (Qs (Qs ?_)))))))))
  refine Qs (Qv [] Vpf (Qv [] Vpf ?_))
  refine Qn ⟨by kernel_rfl, ?_⟩
  refine Kf (KS ?_)
  refine Oq Vm (Oq Vadd (Oq Va (KS ?_)))
  exact Kg (r14, (i_4 + 1)) [0] ⟨(q3 hM5 (by simp only [r7_Rising_L0, h12, h16, h21, h25, cs4])), aM1, aM1, aM1, aM1⟩
 intro h12
 have g34 := df h12
 obtain rfl : r3 = 0 := by omega
 refine Ke ?_
 have hR35 := q2 hM5 (.brk ()) (by simp only [r7_Rising_L0, h12, cs4])
 refine KS ?_
 refine Oq Va (KS ?_)
 have hq := q4 hrr true (by simp only [r7_Rising, h12, hR35, cs4]); subst hq
 exact Kr () rfl (.tmp rfl .nil) [] trivial
theorem fn129 (a : GCopy) (b : GCopy) (ha_0 : i64ok a.From) (ha_1 : i64ok a.To) (hb_0 : i64ok b.From) (hb_1 : i64ok b.To) (rr : Bool) (hrr : r1_Before a b = rr) : FT Tryz.prog 129 #[.agg #[vi a.From, vi a.To], .agg #[vi b.From, vi b.To]] [] (fun g : Unit => True) (fun g => vb rr) (fun g => []) := by
 refine FTi Tryz.func129 fun w0 M0 F0 => ?_
 unfold i64ok at ha_0 ha_1 hb_0 hb_1
 refine KS ?_
 refine Oa (Ab [vi a.From, vi a.To]) fun p1 => Oa (Ab [vi b.From, vi b.To]) fun p2 => Oq Va (KS ?_)
 refine Oq (Vfa fo108_0 1) (Oq (VldF sh3 1) (Oq (Vfa fo108_0 0) (Oq (VldF sh3 0) (Oq Vlss (Oq Vm ?_)))))
 refine Js 10 ?_ ?_
 ·intro h3
  have g4 := dt h3
  refine Osk (Osk (Osk (Osk (Osk (Osk (Osk (Osk (Osk (Osk ?_)))))))))
  refine Osk (Osk (Oq Vpt (Oq Va (KS ?_))))
  have hq := q4 hrr true (by simp only [r1_Before, h3, cs4]); subst hq
  exact Kr () rfl (.tmp rfl .nil) [] trivial
 intro h3
 have g5 := df h3
 refine Oq (Vfa fo108_0 1) (Oq (VldF sh3 1) (Oq (Vfa fo108_0 0) (Oq (VldF sh3 0) (Oq Veql (Oq Vm ?_)))))
 refine Js 16 ?_ ?_
 ·intro h6
  have g7 := eq_of_beq h6
  refine Oq (Vfa fo108_1 1) (Oq (VldF sh3 1) (Oq (Vfa fo108_1 0) (Oq (VldF sh3 0) (Oq Vlss (Oq Vpt (Oq Vpf (Oq Va (KS ?_))))))))
  have hq := q4 hrr (decide (a.To < b.To)) (by simp only [r1_Before, h3, h6, cs4]); subst hq
  exact Kr () rfl (.tmp rfl .nil) [] trivial
 intro h6
 have g8 := ne_of_beq_false h6
 refine Osk (Osk (Osk (Osk (Osk (Oq Vpf (Oq Vpf (Oq Va (KS ?_))))))))
 have hq := q4 hrr false (by simp only [r1_Before, h3, h6, cs4]); subst hq
 exact Kr () rfl (.tmp rfl .nil) [] trivial
end Go.SL.G
